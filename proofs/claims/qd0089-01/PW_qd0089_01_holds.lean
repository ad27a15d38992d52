import PyProof.Rows.All
import Wide.All
import OpenK.AllK
import Wide.FinOn
import PySem.Challenge.RW_qd0089_01
set_option Elab.async false
set_option bootstrap.genMatcherCode false
set_option compiler.extract_closed false
set_option genSizeOf false
set_option genInjectivity false
set_option backward.match.sparseCases false
set_option maxRecDepth 100000
set_option maxHeartbeats 0
namespace Mine
section
open Lean
abbrev Zx:=Syntax
def mzn (k:String) (as:Array Zx):Zx:=.node .none (("Lean.Parser.Tactic."++k).toName) (#[.atom .none k]++as)
def mzf (ts:Array Zx):Zx:=mzn "first" #[mkNullNode (ts.map fun t=>mkNullNode #[.atom .none "|",t])]
def mza (f:String) (as:Array Zx):Zx:=if as.isEmpty then mkIdent f.toName else .node .none `Lean.Parser.Term.app #[mkIdent f.toName,mkNullNode as]
def mzh:Zx:=.node .none `Lean.Parser.Term.syntheticHole #[.atom .none "?",.node .none `Lean.Parser.Term.hole #[.atom .none "_"]]
def mzv (x:String):Zx:=.atom .none x
def mzk (k:String) (as:Array Zx):Zx:=.node .none ("Lean.Parser.Tactic."++k).toName as
def mzg (k:String) (as:Array Zx):Zx:=.node .none ("Lean.Parser.Term."++k).toName as
def mzq (t:Zx):Zx:=mzk "tacticSeq" #[mzk "tacticSeq1Indented" #[mkNullNode #[t]]]
def mzj (t:Zx):Zx:=mzg "byTactic" #[mzv "by",mzq t]
def mze_:Zx:=mzg "hole" #[mzv "_"]
def mzx_ (k:String):Zx:=mzn k #[mzk "optConfig" #[mkNullNode]]
def mzc_ (x y:Zx):Zx:=mzg "typeAscription" #[mzg "hygienicLParen" #[mzv "(",.node .none `hygieneInfo #[mkIdent .anonymous]],x,mzv ":",mkNullNode #[y],mzv ")"]
def mzr_:Zx:=mzk "tacticRfl" #[mzv "rfl"]
def mzr (f:String) (as:Array Zx):Zx:=mzn "refine" #[mza f (as.push mzh)]
def mze (f:String) (as:Array Zx):Zx:=mzn "exact" #[mza f as]
def mzs (s:String) (f:String→Zx):Array Zx:=((s.splitOn " ").map f).toArray
def mzt (t:Zx):Zx:=mzf #[t,mzn "skip" #[]]
def mzi (xs:Array Zx):Zx:=mzn "intro" #[mkNullNode xs]
def mzl (f:String) (k:Nat) (e:Zx) (xs:Array Zx):Zx:=mkNullNode #[mzr (f++toString k) #[e],mzt (mzn "clear" #[mkNullNode #[e]]),mzi xs]
def mzy (p:Zx) (i:Nat):Zx:=let r:=p[0][0][0][0]; if r.isIdent&&p[0][0].getNumArgs==1&&r.getId != `rfl then r else mkIdent (.mkSimple s!"y{i}")
def mzo (s p e:Zx):Zx:=(s.setArg 1 (mkNullNode #[p])).setArg 3 (mkNullNode #[.atom .none ":=",mkNullNode #[e]])
def mzi_ (l:List Zx):Zx:=match l with
 | []=>mzg "dotIdent" #[mzv ".",mkIdent `nil]
 | x :: r=>mzg "app" #[mzg "dotIdent" #[mzv ".",mkIdent `cons],mkNullNode #[x,mzi_ r]]
def mzl_ (k:String) (n:Nat):Zx:=mzg "app" #[mzg "dotIdent" #[mzv ".",mkIdent k.toName],mkNullNode #[Syntax.mkNumLit (toString n)]]
def mzd_ (s:Zx):Zx:=let (m,_,e):=s.isScientificLit?.getD (0,false,0); mzg "app" #[mzg "dotIdent" #[mzv ".",mkIdent `lit],mkNullNode #[mzl_ "int" (m / 10 ^ e)]]
def mzo_ (s:Zx):Zx:=mzl_ "loc" ((s.isCharLit?.getD 'a').toNat - 97)
def mzw (s p e:Zx):Zx:=if p[0][0][0][0]==e||p[0][0][0].isOfKind `Lean.Parser.Tactic.rcasesPat.ignore then mkNullNode #[] else mzo s p[0] e
def mz0 (s:Zx):MacroM Zx:=do
 let p:=s[1][0][0][0]
 unless p.isOfKind `Lean.Parser.Tactic.rcasesPat.tuple&&s[2].isNone&&s[1][0][0].getNumArgs==1 do Macro.throwUnsupported
 let e:=s[3][1][0]
 let ps:=p[1].getSepArgs
 let n:=ps.size
 if n < 2 then Macro.throwUnsupported
 let xs:=ps.mapIdx fun i p=>mzy p i
 let h:=mkIdent `h
 let t:=mkNullNode (ps.mapIdx fun i p=>mzw s p xs[i]!)
 let a:=(Array.range n).map fun k=>mkNullNode #[if k==0 then mzl "an" n e xs else if k + 1==n then mzl "ex" k e xs else mkNullNode #[mzl "ex" k e ((xs.extract 0 k).push h),mzl "an" (n - k) h (xs.extract k n)],t]
 return mzf (a.push (mkNullNode #[mzl "an" 2 e #[xs[0]!,h],mzw s ps[0]! xs[0]!,mzo s (.node .none `Lean.Parser.Tactic.rcasesPatMed #[mkNullNode #[p.setArg 1 (mkNullNode (p[1].getArgs.extract 2 p[1].getNumArgs))]]) h]))
def mz4 (s:Zx):Zx:=mzf #[mze "noS" #[s[1]],mze "noB" #[s[1]],mkNullNode #[mzn "cases" #[mkNullNode #[mzk "elimTarget" #[mkNullNode,s[1]]],mkNullNode,mkNullNode],mzn "done" #[]]]
def mz5 (s:Zx):Zx:=mzn "refine" #[mzc_ mzh s[1]]
def mz1 (a r u:Zx):Zx:=
 let f l as:=mzs l fun s=>mze s as
 mzf (f "om1 om2 om4 om3" #[a,r]++f "om5 Nat.le_of_ble_eq_true" #[r]++f "om6" #[a,r]++f "om7 om8" #[r]++f "om9 omA omB omC omD omE omP omG omH omI omN omO omQ omR" #[a,r]++f "omF omK" #[a,a,r]++f "Int.not_lt.mpr oa2 oa3 oa7 oa8 oa9 oc1 oc2 oc3 oc4 oc5" #[a]++f "oc6 od2" #[a,r]++f "od1 od4 od5" #[a,a]++f "od3" #[a]++f "Int.ofNat_lt Int.ofNat_lt.symm" #[]++f "Nat.le_of_lt_succ" #[a]|>.push u)
def mz6:Zx:=mz1 (mzj (mzk "withReducible" #[mzv "with_reducible",mzq (mzn "assumption" #[])])) (mzj mzr_) (mzf ((mzs "Nat.le_add_right Nat.add_sub_cancel_left" fun s=>mze s #[mze_,mze_]).push (mzx_ "lia")))
def mz2 (e:Zx) (c:Array Zx):Zx:=
 let r:=mkIdent `rfl
 mzf (#[mze "noS" #[e],mze "noB" #[e]]++(mzs "Option.ctorIdx Nat.succ" fun s=>mze "ncf" #[mkIdent s.toName,e,r])++(mzs "Role PV D PySem.Value Bool Fl MO TO" fun s=>mze (s++".noConfusion") #[e])++((Array.range 3).map fun k=>
 let xs:=mzs (("h1 h2 h3".take (3 * k + 2)).toString) fun s=>mkIdent (.mkSimple s)
 mkNullNode #[mzl "pe" (k + 1) e xs,mzn "subst" #[mkNullNode xs]])++c)
def mz7 (s:Zx):Zx:=
 let e:=s[1][0][1]
 if s[3].isNone then mz2 e (if e.isIdent then #[mzn "rcases" #[s[1],mkNullNode #[mzv "with",mzk "rcasesPatLo" #[mzk "rcasesPatMed" #[mkNullNode #[mzk "rcasesPat.tuple" #[mzv "⟨",mkNullNode,mzv "⟩"]]],mkNullNode]]]] else #[])
 else mzf #[mzn "induction" #[s[1],mkNullNode,mkNullNode,s[3]],mzn "fail" #[mkNullNode]]
def mz7_ (s:Zx):MacroM Zx:=if s[1].getNumArgs != 1||!s[1][0][0].isNone||!s[2].isNone then Macro.throwUnsupported else return mz7 s
def mz3 (s:Zx):MacroM Zx:=do
 if !s[3].isNone||(s.find? (·.isOfKind `Lean.Parser.Term.syntheticHole)).isSome then Macro.throwUnsupported
 let t:=s[2][1].getSepArgs.map fun r=>mzf #[mzr (if r[0].getNumArgs==0 then "rwE" else "rwS") #[r[1]],(s.setKind `Lean.Parser.Tactic.rewriteSeq).setArg 0 (.atom .none "rewrite")|>.setArg 2 (s[2].setArg 1 (mkNullNode #[r]))]
 return mkNullNode (t.push (mzk "withReducible" #[mzv "with_reducible",mzq (mzt mzr_)]))
def mzu (u e:Zx):Zx:=mzn "refine" #[.node .none `Lean.Parser.Term.app #[u,mkNullNode #[e]]]
def mzc (u b r x y:Zx) (xs:Array Zx):Zx:=
 let p (x:Zx):=x[0].isNone&&x[1].isNone
 let f (as:Array Zx):=mzu u (mza "h" as)
 mzf ((xs.filter fun x=>!p x).map (fun x=>f (if x[0].isNone then #[b,x[2]] else #[x[2]]))++#[f #[r],f #[b,x],f #[b,y]]++(xs.filter p).map (fun x=>f #[b,x[2]])++mzs "true false" fun s=>f #[mkIdent s.toName,r])
def mzb (v w q:Zx):Zx:=
 let h:=mkIdent `h
 let c:=mzn "clear" #[mkNullNode #[h]]
 mkNullNode #[mzi #[h],mzf #[mzu v h,mzu w h],c,mzi #[h],q,c]
def mzd (a:Array Zx) (s:String):Zx:=mkNullNode #[mkNullNode a,mkNullNode,mkIdent s.toName]
def mz8 (s:Zx):MacroM Zx:=do
 let o:=mze_
 let r (x y:Zx):=mzg "arrow" #[x,mzv "→",y]
 let e (x y:Zx):Zx:=.node .none `«term_=_» #[x,mzv "=",y]
 let l:=mkIdent `rfl
 let q:=mzc (mzc_ mzh (r o o)) o l (mzc_ l (e o (mza "some" #[o]))) (mzc_ l (e (mza "itClose" #[o,o]) o)) (s[4][1].getSepArgs++mzs "y.sm y.n0 x.sm x.n0" (mzd #[mzv "↑"])++mzs "I w.ih w.i0 w.i1 T.i0 T.i1 y.at_ x.at_ R.iI ih" (mzd #[]))
 let b:=mzb (mzc_ mzh (r (r (e o (mkIdent `true)) o) o)) (mzc_ mzh (r (mzg "forall" #[mzv "∀",mkNullNode #[mkIdent `x],mkNullNode,mzv ",",r (e o o) o]) o)) q
 let x:=mkIdent `chain
 return mkNullNode #[mzf (mzs "runS exsS exS evS tsS" fun s=>mzr s #[]),mzk "tacticRepeat_" #[mzv "repeat",mzq (mzf #[b,mzn "exact" #[mkIdent `id]])],mzt (mkNullNode #[mzi #[x],← `(tactic| conv at $x:ident=>whnf)])]
def mz9 (s:Zx):MacroM Zx:=do
 if s.getPos?.isNone then Macro.throwUnsupported
 let m (i:Nat) (k:String):Zx:=s.setArg 0 (s[0].setArg i (mkNullNode #[.node .none ("Lean.Parser.Command."++k).toName #[mzv k]]))
 let k:=s[1].getKind
 let t:=if k== `Lean.Parser.Command.theorem then m 2 "private" else if s[0][4].isNone&&(k== `Lean.Parser.Command.definition||k== `Lean.Parser.Command.abbrev) then m 4 "noncomputable" else s
 return t.rewriteBottomUp (·.setInfo .none)
def mzx (e:Zx):Zx:=mzf ((mzs "someE3 someE2 someE1" fun f=>mzr f #[e]).push (mz2 e #[]))
def mzp (x:Zx):Zx:=mza "wpAny" (#[mza "model" #[mkIdent `prog,mkIdent `w],mkIdent `A,x[0]]++x[1].getArgs)
end
local macro_rules (kind := Lean.Parser.Command.declaration) | s => mz9 s
local macro_rules (kind := Lean.Parser.Command.mutual) | s => mz9 s

theorem bx:type_of% @Bool.and_eq_true:=@Bool.and_eq_true
theorem bp:type_of% @List.getElem?_set_ne:=@List.getElem?_set_ne
theorem bc:type_of% @List.all_eq_true:=@List.all_eq_true
theorem fX:type_of% @List.getElem?_eq_some_iff:=@List.getElem?_eq_some_iff
theorem dz:type_of% @List.getElem?_set:=@List.getElem?_set
theorem eh:type_of% @List.length_append:=@List.length_append
theorem eH:type_of% @List.length_cons:=@List.length_cons
theorem eI:type_of% @List.append_assoc:=@List.append_assoc
theorem dH:type_of% @List.mem_cons:=@List.mem_cons
theorem gq:type_of% @List.length_set:=@List.length_set
theorem ei:type_of% @List.append_nil:=@List.append_nil
theorem mI:type_of% @List.getElem?_append_left:=@List.getElem?_append_left
theorem j9:type_of% @List.map_cons:=@List.map_cons
theorem mJ:type_of% @List.getElem?_eq_getElem:=@List.getElem?_eq_getElem
theorem j_:type_of% @Nat.eq_of_beq_eq_true:=@Nat.eq_of_beq_eq_true
theorem qF:type_of% @List.getElem?_cons_succ:=@List.getElem?_cons_succ
theorem eT:type_of% @List.length_map:=@List.length_map
theorem dJ:type_of% @Nat.le_refl:=@Nat.le_refl
theorem nU:type_of% @Option.some.injEq:=@Option.some.injEq
theorem Ex:type_of% @Option.map_eq_some_iff:=@Option.map_eq_some_iff
theorem eJ:type_of% @Nat.zero_le:=@Nat.zero_le
theorem mK:type_of% @Bool.or_eq_true:=@Bool.or_eq_true
theorem ja:type_of% @Bool.eq_iff_iff:=@Bool.eq_iff_iff
theorem pJ:type_of% @List.getElem?_set_self:=@List.getElem?_set_self
theorem pK:type_of% @List.getElem?_map:=@List.getElem?_map
theorem lH:type_of% @List.prefix_refl:=@List.prefix_refl
theorem qG:type_of% @List.mem_of_getElem?:=@List.mem_of_getElem?
theorem jF:type_of% @List.contains_iff_mem:=@List.contains_iff_mem
theorem nV:type_of% @List.nodup_cons:=@List.nodup_cons
theorem pL:type_of% @List.mem_append:=@List.mem_append
theorem ya:type_of% @List.getElem?_append_right:=@List.getElem?_append_right
theorem nW:type_of% @List.lookup_cons:=@List.lookup_cons
theorem yb:type_of% @Option.isSome_iff_exists:=@Option.isSome_iff_exists
theorem AW:type_of% @List.length_eq_zero_iff:=@List.length_eq_zero_iff
theorem yc:type_of% @List.not_mem_nil:=@List.not_mem_nil
theorem sF:type_of% @List.zip_cons_cons:=@List.zip_cons_cons
theorem vQ:type_of% @Bool.false_eq_true:=@Bool.false_eq_true
theorem jG:type_of% @List.mem_singleton:=@List.mem_singleton
theorem dK:type_of% @decide_eq_true_iff:=@decide_eq_true_iff
theorem Ey:type_of% @decide_eq_false_iff_not:=@decide_eq_false_iff_not
theorem yd:type_of% @Int.toNat_of_nonneg:=@Int.toNat_of_nonneg
theorem sG:type_of% @Int.natCast_nonneg:=@Int.natCast_nonneg
theorem cj:type_of% @eq_of_beq:=@eq_of_beq
theorem fg:type_of% @beq_iff_eq:=@beq_iff_eq
theorem fh:type_of% @Option.some.inj:=@Option.some.inj
theorem qH:type_of% @Nat.lt_of_lt_of_le:=@Nat.lt_of_lt_of_le
theorem qI:type_of% @Nat.ble_eq_true_of_le:=@Nat.ble_eq_true_of_le
theorem gY:type_of% @Nat.le_of_ble_eq_true:=@Nat.le_of_ble_eq_true
theorem vV:type_of% @List.findIdx?_cons:=@List.findIdx?_cons
theorem eM:type_of% @decide_eq_true:=@decide_eq_true
theorem dS:type_of% @decide_eq_false:=@decide_eq_false
theorem Yz:type_of% @Int.natCast_add:=@Int.natCast_add
theorem bw:type_of% @Nat.le_trans:=@Nat.le_trans
theorem hV:type_of% @Nat.add_le_add_left:=@Nat.add_le_add_left
theorem ku:type_of% @Bool.and_eq_true_iff:=@Bool.and_eq_true_iff
theorem ji:type_of% @Nat.add_le_add:=@Nat.add_le_add
theorem sH:type_of% @Nat.lt_of_le_of_lt:=@Nat.lt_of_le_of_lt
theorem pM:type_of% @Int.ofNat_lt:=@Int.ofNat_lt
theorem AX:type_of% @Nat.add_le_add_right:=@Nat.add_le_add_right
theorem sJ:type_of% @Nat.succ_le_succ:=@Nat.succ_le_succ
theorem sM:type_of% @Nat.le_of_eq:=@Nat.le_of_eq
theorem qJ:type_of% @Nat.le_add_right:=@Nat.le_add_right
theorem uk:type_of% @List.any_eq_true:=@List.any_eq_true
universe u1 u2 u3 u4 u5 u6
theorem ex1{α:Sort u1}{A:α->Prop}{P:Prop}(h:∃x,A x)(k:∀x,A x->P):P:=h.elim k
theorem ex2{α:Sort u1}{β:Sort u2}{A:α->β->Prop}{P:Prop}(h:∃x y,A x y)(k:∀x y,A x y->P):P:=h.elim λx h=>h.elim (k x)
theorem ex3{α:Sort u1}{β:Sort u2}{γ:Sort u3}{A:α->β->γ->Prop}{P:Prop}(h:∃x y z,A x y z)(k:∀x y z,A x y z->P):P:=h.elim λx h=>ex2 h (k x)
theorem ex4{α:Sort u1}{β:Sort u2}{γ:Sort u3}{δ:Sort u4}{A:α->β->γ->δ->Prop}{P:Prop}(h:∃x y z w,A x y z w)(k:∀x y z w,A x y z w->P):P:=h.elim λx h=>ex3 h (k x)
theorem an2{A B P:Prop}(h:A/\B)(k:A->B->P):P:=k h.1 h.2
theorem an3{A B C P:Prop}(h:A/\B/\C)(k:A->B->C->P):P:=k h.1 h.2.1 h.2.2
theorem an4{A B C D P:Prop}(h:A/\B/\C/\D)(k:A->B->C->D->P):P:=k h.1 h.2.1 h.2.2.1 h.2.2.2
theorem an5{A B C D E P:Prop}(h:A/\B/\C/\D/\E)(k:A->B->C->D->E->P):P:=k h.1 h.2.1 h.2.2.1 h.2.2.2.1 h.2.2.2.2
theorem an6{A B C D E F P:Prop}(h:A/\B/\C/\D/\E/\F)(k:A->B->C->D->E->F->P):P:=k h.1 h.2.1 h.2.2.1 h.2.2.2.1 h.2.2.2.2.1 h.2.2.2.2.2
theorem an7{A B C D E F G P:Prop}(h:A/\B/\C/\D/\E/\F/\G)(k:A->B->C->D->E->F->G->P):P:=k h.1 h.2.1 h.2.2.1 h.2.2.2.1 h.2.2.2.2.1 h.2.2.2.2.2.1 h.2.2.2.2.2.2
@[elab_as_elim] theorem rwE{α:Sort u1}{a b:α}{P:α->Prop}(h:a=b)(x:P b):P a:=h▸x
@[elab_as_elim] theorem rwS{α:Sort u1}{a b:α}{P:α->Prop}(h:a=b)(x:P a):P b:=h▸x
theorem pe1{α:Type u1}{P:Prop}{a c:α}(q:some a=some c)(h:c=a->P):P:=h (fh q).symm
theorem pe2{α:Type u1}{β:Type u2}{P:Prop}{a c:α}{b d:β}(q:some (a,b)=some (c,d))(h:c=a->d=b->P):P:=h (congrArg (·.1) (fh q)).symm (congrArg (·.2) (fh q)).symm
theorem pe3{α:Type u1}{β:Type u2}{γ:Type u3}{P:Prop}{a c:α}{b d:β}{e f:γ}(q:some (a,b,e)=some (c,d,f))(h:c=a->d=b->f=e->P):P:=h (congrArg (·.1) (fh q)).symm (congrArg (·.2.1) (fh q)).symm (congrArg (·.2.2) (fh q)).symm
theorem ncf{α:Type u1}{P:Prop}{a b:α}(f:α->Nat)(e:a=b)(h:Nat.beq (f a) (f b)=false):P:=absurd (congrArg f e) (Nat.ne_of_beq_eq_false h)
@[elab_as_elim] theorem YA{α:Type u1}{β:Type u2}{γ:Type u3}{a c:α}{b d:β}{e f:γ}{P:α->β->γ->Prop}(q:(a,b,e)=(c,d,f))(h:P c d f):P a b e:=Eq.rec (motive:=λp _=>P p.1 p.2.1 p.2.2) h q.symm
theorem ifF{c:Bool}{A B:Prop}(e:c=false)(h:B):if c=true then A else B:=@Eq.rec _ false (λc _=>if c=true then A else B) h _ e.symm
theorem ifT{c:Bool}{A B:Prop}(e:c=true)(h:A):if c=true then A else B:=@Eq.rec _ true (λc _=>if c=true then A else B) h _ e.symm
theorem goQ{C:Prop}(k:∀G:Prop,(C->G)->G):C:=k C id
section
variable{a b c i j k x y z:Nat}
theorem om1(h:a<=x)(q:Nat.ble x y=true):a<=y:=bw h (gY q)
theorem om2(h:x<=a)(q:Nat.ble y x=true):y<=a:=bw (gY q) h
theorem om3(h:a+j<=b)(q:Nat.ble i j=true):a+i<=b:=bw (hV (gY q) a) h
theorem om4(h:a+j<b)(q:Nat.ble i j=true):a+i<b:=sH (hV (gY q) a) h
theorem om5(q:Nat.beq i j=false):¬(a+i=a+j):=λh=>by rw[Nat.add_left_cancel h,Nat.beq_refl]at q;cases q
theorem om6(h:a=x)(q:Nat.ble y x=true):y<=a:=h▸gY q
theorem om7(q:Nat.beq i 0=false):¬(a+i=a):=om5 (j:=0) q
theorem om8(q:Nat.beq i 0=false):¬(a=a+i):=λh=>om7 q h.symm
theorem om9(h:x<=a)(q:Nat.ble x y=false):¬(a=y):=λe=>by rw[qI (e▸h)]at q;cases q
theorem omA(h:x<=a)(q:Nat.ble x y=false):¬(y=a):=λe=>om9 h q e.symm
theorem omB(h:x<=a)(q:Nat.ble y x=true):a=a-y+y:=(Nat.sub_add_cancel (om2 h q)).symm
theorem omC(h:x<=a)(q:Nat.ble y x=true):a-y+y=a:=Nat.sub_add_cancel (om2 h q)
theorem omD(h:x<=a+j)(q:Nat.ble (y+j) (x+i)=true):y<=a+i:=Nat.le_of_add_le_add_right (bw (gY q) (Nat.add_right_comm a j i▸AX h i))
theorem omE(h:x<=a+j)(q:Nat.ble (y+j) x=true):y<=a:=omD (i:=0) h q
theorem omF(h:a<=x)(g:b<=y)(q:Nat.ble (x+y) z=true):a+b<=z:=bw (ji h g) (gY q)
theorem omG(h:a<=x)(q:Nat.ble (x+i) y=true):a+i<=y:=omF h (dJ _) q
theorem omH(h:a=b+j\/b+k<=a)(q:(Nat.beq i j||Nat.ble k i)=false):¬(a=b+i):=λe=>by
 subst e;rcases h with h|h
 ·rw[Nat.add_left_cancel h,Nat.beq_refl]at q;cases q
 ·rw[qI (Nat.le_of_add_le_add_left h),Bool.or_true]at q;cases q
theorem omI(h:a=b+j\/b+k<=a)(q:(Nat.beq i j||Nat.ble k i)=false):¬(b+i=a):=λe=>omH h q e.symm
theorem omK(h:a=b+i)(g:x<=b)(q:Nat.ble y (x+i)=true):y<=a:=h▸bw (gY q) (AX g i)
theorem omN(h:a<b\/a=b+j)(q:Nat.beq i j=false):¬(a=b+i):=λe=>by
 subst e;rcases h with h|h
 ·exact Nat.not_lt_of_le (qJ b i) h
 ·rw[Nat.add_left_cancel h,Nat.beq_refl]at q;cases q
theorem omO(h:a<b\/a=b+j)(q:Nat.beq i j=false):¬(b+i=a):=λe=>omN h q e.symm
theorem omP(h:a+i<=x)(q:Nat.ble x (y+i)=true):a<=y:=Nat.le_of_add_le_add_right (bw h (gY q))
end
theorem omQ{a x y z:Int}(h:a=x\/y<=a)(q:(decide (z=x)||decide (y<=z))=false):¬(a=z):=λe=>by
 subst e;rw[Bool.or_eq_false_iff]at q;rcases h with h|h
 ·exact of_decide_eq_false q.1 h
 ·exact of_decide_eq_false q.2 h
theorem omR{a x z:Int}(h:x<=a)(q:decide (x<=z)=false):¬(a=z):=λe=>of_decide_eq_false q (e▸h)
theorem oa2{x:Nat}(h:x<2):x=0\/x=1:=(by decide:∀x<2,x=0\/x=1) x h
theorem oa3{x:Nat}(h:x<3):x=0\/x=1\/x=2:=(by decide:∀x<3,x=0\/x=1\/x=2) x h
theorem oa7{x:Nat}(h:x<7):x=0\/x=1\/x=2\/x=3\/x=4\/x=5\/x=6:=(by decide:∀x<7,x=0\/x=1\/x=2\/x=3\/x=4\/x=5\/x=6) x h
theorem oa8{x:Nat}(h:x<8):x=0\/x=1\/x=2\/x=3\/x=4\/x=5\/x=6\/x=7:=(by decide:∀x<8,x=0\/x=1\/x=2\/x=3\/x=4\/x=5\/x=6\/x=7) x h
theorem oa9{x:Nat}(h:x<9):x=0\/x=1\/x=2\/x=3\/x=4\/x=5\/x=6\/x=7\/x=8:=(by decide:∀x<9,x=0\/x=1\/x=2\/x=3\/x=4\/x=5\/x=6\/x=7\/x=8) x h
theorem ob1{x y:Int}(h:x.toNat=y.toNat)(a:0<=x)(b:0<=y):x=y:=by rw[<-yd a,<-yd b,h]
theorem ob2{a m n k:Nat}(h:a+m<=k)(g:n<=m):a+n<=k:=bw (hV g a) h
theorem ob4{n g x:Nat}(h:(n+1)*g<=5*g)(q:x<=n*g):x<=4*g:=bw q (Nat.le_of_add_le_add_right (Nat.succ_mul n g▸Nat.succ_mul 4 g▸h))
theorem ob3{n g x y:Nat}(h:(n+1)*g<=5*g)(q:x<=y+n*g):x<=y+4*g:=bw q (hV (ob4 h (dJ _)) y)
theorem ob5{n g x y:Nat}(h:(n+1)*g<=5*g)(q:x<=y+n*g):x<=y+5*g:=bw (ob3 h q) (hV (Nat.mul_le_mul_right g (by decide)) y)
theorem ob6{n k:Nat}{x:Int}(h:n<=k)(g:x.toNat<n)(z:0<=x)(e:Nat.ble k 900000=true):x<900000:=Int.lt_of_lt_of_le (Int.lt_of_lt_of_le ((Int.toNat_lt z).mp g) (Int.ofNat_le.mpr h)) (Int.ofNat_le.mpr (gY e))
theorem oc1{a b:Nat}(h:a+1<=b):b-a=b-(a+1)+1:=(Nat.sub_add_cancel (Nat.sub_pos_of_lt h)).symm
theorem oc2{a b i:Nat}(h:a+i<b):a<b:=sH (qJ _ _) h
theorem oc3{a b i:Nat}(h:a=b+i\/b+8<=a):b<=a:=h.elim (λh=>h▸qJ _ _) λh=>bw (qJ _ _) h
theorem YB{a b:Nat}(h:a=b+4\/b+8<=a):b+1<=a:=h.elim (λh=>h▸qJ (b+1) 3) λh=>bw (qJ (b+1) 7) h
theorem oc4{a b:Nat}(h:a=b+4\/b+8<=a):¬b=a:=λe=>absurd (YB h) (e▸Nat.not_succ_le_self b)
theorem oc5{x:Int}(h:x=5\/26<=x):x=5\/16<=x:=h.imp_right λh=>Int.le_trans (by decide) h
theorem oc6{k m j i x:Nat}(h:x<=m+i)(q:(Nat.ble (k+i) x&&Nat.ble k j)=true):m-k+j=m+(j-k):=by rw[bx]at q;exact(Nat.sub_add_comm (Nat.le_of_add_le_add_right (bw (gY q.1) h))).symm.trans (Nat.add_sub_assoc (gY q.2) m)
theorem oc7{s k:Nat}(h:s<=3)(g:41<=k):k-(8*(s+1)+9)+8*(s+1)+8+1=k:=
 (Nat.add_assoc _ (8*(s+1)) 9).trans (Nat.sub_add_cancel (bw (AX (Nat.mul_le_mul_left 8 (sJ h)) 9) g))
theorem oc8{s k:Nat}(h:s<=2)(g:41<=k+5):k+4-(8*(s+1)+9)+8*(s+1)+8+1=k+4:=
 (Nat.add_assoc _ (8*(s+1)) 9).trans (Nat.sub_add_cancel (bw (AX (Nat.mul_le_mul_left 8 (sJ h)) 9) (bw (show 8*(2+1)+9<=40 by decide) (Nat.le_of_succ_le_succ g))))
theorem od1{a b c k m:Nat}(h:b+(c+m)<=k)(g:a<=b+m):a+c<=k:=bw (AX g c) (bw (sM ((Nat.add_assoc b m c).trans (congrArg (b+·) (Nat.add_comm m c)))) h)
theorem od2{a x k m i j:Nat}(h:a+x+k<m)(q:Nat.ble (i+j) k=true):a+i+x+j<m:=sH (bw (sM ((congrArg (·+j) (Nat.add_right_comm a i x)).trans (Nat.add_assoc (a+x) i j))) (hV (gY q) (a+x))) h
theorem od3{a b c:Nat}(h:a+(b+1)<=c):a+1+b<=c:=bw (sM (Nat.add_right_comm a 1 b)) h
theorem od4{a b r:Nat}(h:a=b+4\/b+8<=a)(g:r<b\/r=b+1):¬a=r:=λe=>by have h4:b+2<=r:=e▸h.elim (λh=>h▸qJ (b+2) 2) λh=>bw (qJ (b+2) 6) h;exact g.elim (λg=>absurd (bw (qJ b 2) h4) (Nat.not_le_of_lt g)) λg=>Nat.not_succ_le_self (b+1) (bw h4 (sM g))
theorem od5{a b c:Nat}(h:a=b+1-c)(g:c<b):b+1-(c+1)<a:=h▸Nat.sub_lt_sub_left (Nat.lt_succ_of_lt g) (Nat.lt_succ_self c)
local macro_rules (kind := Lean.Parser.Tactic.obtain) | s=>mz0 s
local macro_rules (kind := Lean.Parser.Tactic.rwSeq) | s=>mz3 s
local macro_rules (kind := Lean.Parser.Tactic.change) | s=>return mz4 s
local macro_rules (kind := Lean.Parser.Tactic.show) | s=>return mz5 s
local macro_rules (kind := Lean.Parser.Tactic.omega) | s=>return mz6
local macro_rules (kind := Lean.Parser.Tactic.cases) | s=>mz7_ s
local macro_rules (kind := Lean.Parser.Tactic.dsimpAutoUnfold) | s=>mz8 s
local macro_rules | `(tactic| exists $q:term)=>return mzx q
local macro_rules (kind := «term~~~_») | s=>return mzp s[1]
section
open PySem PySem.W PyProof.Rows PySem.Calls
noncomputable section
abbrev P0:Program:=PySem.Challenge.pw_qd0089_01
def r_:Env:={scope:=P0.main.scope,locals:=mainNs,globals:=mainNs,cells:=[],code:= .ref 13,frame:=some 14}
def bE:List Stmt:=behindTheImports P0
def cE:Code:= .body bE r_
def Pw:List Stmt->Nat->Stmt
 |[],_=> .Pass default
 |s::_,0=>s
 |_::r,n+1=>Pw r n
def st(i:Nat):Stmt:=Pw P0.main.body i
def clB:Stmt->List Stmt
 | .ClassDef _ _ _ b ..=>b
 |_=>[]
def cm(i j:Nat):Stmt:=Pw (clB (st i)) j
def xS(a n:Nat):List Stmt:=(P0.main.body.drop a).take n
abbrev vN:Value:= .none
abbrev vB (b:Bool):Value:= .bool b
abbrev vI (i:Int) (t:Nat):Value:= .int i t
abbrev vS (s:Str) (t:Nat):Value:= .str s t
abbrev vT (s:String):Value:= .type s
abbrev vX (s:String):Value:= .builtin s
abbrev vR (a:Nat):Value:= .ref a
abbrev en (P:Params) (x:Str) (t:Nat) (v:Value):DictEntry:=⟨PyData.keyHash P x,.str x t,v⟩
abbrev N (o:Obj) (l r:BT):BT:= .node o l r
abbrev L:BT:= .nil
def fnD(s:Stmt)(qual:Str)(d k doc pm:Value)(ann:Option Addr)(code ct:Value)(g bi _n:Nat):FuncData:=match s with
 | .FunctionDef name args body _ _ _ scope _ _ _=>{name:=name,qualname:=qual,params:=args,body:= .stmts body,scope:=scope,globals:=g,closure:=[],defaults:=d,kwdefaults:=k,doc:=doc,pyModule:=pm,annotations:=ann,code:=code,closureTuple:=ct,builtins:=bi}
 |_=>default
def ue(name:Str)(bases mro:List Value)(ns:Addr)(q:Str)(hd:Bool)(sl:List Str)(sub:List Value)(ab:Bool)(co:Option Bool)(del:Bool):ClassData:=
 {name:=name,bases:=bases,mro:=mro,ns:=ns,qualname:=q,hasDict:=hd,slotNames:=sl,subclasses:=sub,abstract:=ab,collection:=co,hasDel:=del}
abbrev qP:Pos:=⟨0,0,0,0⟩
abbrev B0:List Frame:=[topFrame qP]
abbrev zr:Option Value:=some (.ref 6)
abbrev lf:Life:={}
abbrev dr:Drawn:={}
abbrev SR:=PySem.W.Fast.tw10110043849684766642
abbrev TT:=PySem.W.Fast.tw14364793385576792824
abbrev b0:=PySem.W.boot_o_0
abbrev b1:=PySem.W.boot_o_1
abbrev b2:=PySem.W.boot_o_2
abbrev b3:=PySem.W.boot_o_3
abbrev b4:=PySem.W.boot_o_4
abbrev b5:=PySem.W.boot_o_5
abbrev b6:=PySem.W.boot_o_6
abbrev b7:=PySem.W.boot_o_7
abbrev b8:=PySem.W.boot_o_8
abbrev b9:=PySem.W.boot_o_9
abbrev b10:=PySem.W.boot_o_10
noncomputable abbrev k0:String:=PySem.W.SL.s2766695959194262286x5
abbrev sO:=Str.ofString
abbrev n0:=sO "<module>"
abbrev n1:=sO "/claim/cut.py"
noncomputable abbrev k1:String:=PySem.W.SL.s5856160107412720595x4
noncomputable abbrev k2:String:=PySem.W.SL.s658472552662922059x5
abbrev n2:=sO "__main__"
abbrev n3:=sO "type.__subclasses__.Exception.0"
abbrev n4:=sO "type.__subclasses__.Exception.n"
abbrev n5:=sO "__name__"
abbrev n6:=sO "kindkeep.diags"
abbrev n7:=sO "__doc__"
abbrev n8:=sO "__package__"
abbrev n9:=sO "__loader__"
noncomputable abbrev k3:String:=PySem.W.SL.s7097527257260152453x26
abbrev n10:=sO "__spec__"
abbrev Ag:=sO "__annotations__"
abbrev n12:=sO "__builtins__"
abbrev TH:=sO "__file__"
abbrev n14:=sO "__cached__"
abbrev R8:=sO "_wall"
abbrev XU:=sO "U_ANY"
abbrev n17:=sO "U_PROP"
abbrev n18:=sO "U_READONLY"
abbrev n19:=sO "U_INDEX"
abbrev n20:=sO "U_ENUM"
abbrev n21:=sO "U_OPTION"
abbrev n22:=sO "U_VAR"
abbrev Cn:=sO "KeepError"
abbrev Kb:=sO "TooDeep"
noncomputable abbrev k4:String:=PySem.W.SL.s14018661285674007319x4
abbrev n25:=sO "k"
noncomputable abbrev k5:String:=PySem.W.SL.s7174869446012820540x8
noncomputable abbrev k6:String:=PySem.W.SL.s5946037652744460706x9
noncomputable abbrev k7:String:=PySem.W.SL.s10062305145149207511x16
noncomputable abbrev k8:String:=PySem.W.SL.s17162191345867700912x4
noncomputable abbrev k9:String:=PySem.W.SL.s11030030927630378310x26
abbrev pX:=sO "__module__"
abbrev Hg:=sO "__qualname__"
abbrev sx:=sO "__firstlineno__"
abbrev qE:=sO "__init__"
abbrev sy:=sO "__static_attributes__"
abbrev n31:=sO ""
abbrev iH:=sO "self"
abbrev Px:=sO "text"
abbrev n34:=sO "KeepError.__init__"
abbrev R_:=sO "number"
abbrev Ew:=sO "__weakref__"
noncomputable abbrev Yr:String:=PySem.W.SL.s4278001404047624695x13
noncomputable abbrev lz:String:=PySem.W.SL.s2742458400755230247x6
noncomputable abbrev Ys:String:=PySem.W.SL.s5160863994218179198x17
noncomputable abbrev Sa:String:=PySem.W.SL.s10220274742760427390x26
noncomputable abbrev Hh:String:=PySem.W.SL.s14755015743595814543x17
noncomputable abbrev Hi:String:=PySem.W.SL.s4290257624100764138x5
noncomputable abbrev wm:String:=PySem.W.SL.s4860613602091757760x24
abbrev n37:=sO "TooDeep.__init__"
abbrev n38:=sO "kindkeep.types"
abbrev Kc:=sO "HostFault"
abbrev Kd:=sO "Notes"
abbrev n41:=sO "Y_KEY"
abbrev n42:=sO "Y_BOOL"
abbrev n43:=sO "Y_STR"
abbrev n44:=sO "Y_NUM"
abbrev n45:=sO "Y_ENUM"
abbrev n46:=sO "Y_UNION"
abbrev n47:=sO "Y_INTER"
abbrev n48:=sO "Y_OBJ"
abbrev n49:=sO "HostFault.__init__"
abbrev Sb:=sO "put"
abbrev Yt:=sO "codes"
abbrev Yu:=sO "clean"
abbrev n53:=sO "Notes.__init__"
abbrev n54:=sO "code"
abbrev Yv:=sO "at"
abbrev n56:=sO "Notes.put"
abbrev n57:=sO "found"
abbrev n58:=sO "Notes.codes"
abbrev n59:=sO "Notes.clean"
abbrev Py:=sO "rows"
abbrev HO:=sO "__dict__"
noncomputable abbrev xZ:String:=PySem.W.SL.s11443829558043349243x14
noncomputable abbrev Wc:String:=PySem.W.SL.s6511155373996960695x17
noncomputable abbrev We:String:=PySem.W.SL.s12411053484034534018x21
abbrev n62:=sO "Y_REF"
abbrev n63:=sO "Y_PARAM"
abbrev n64:=sO "Y_ARRAY"
abbrev n65:=sO "Y_TUPLE"
abbrev n66:=sO "Y_SIG"
abbrev n67:=sO "Y_KEYOF"
abbrev n68:=sO "Y_INDEX"
abbrev n69:=sO "Y_COND"
abbrev n70:=sO "Y_MAPPED"
abbrev n71:=sO "Y_TPL"
abbrev n72:=sO "Y_ALIAS"
abbrev n73:=sO "ANY"
abbrev n74:=sO "UNKNOWN"
abbrev n75:=sO "NEVER"
abbrev n76:=sO "VOID"
abbrev n77:=sO "UNDEF"
abbrev n78:=sO "NULLT"
abbrev n79:=sO "STRING"
abbrev n80:=sO "NUMBER"
abbrev n81:=sO "FALSE_T"
abbrev n82:=sO "TRUE_T"
abbrev n83:=sO "OBJECTT"
abbrev n84:=sO "EMPTY"
abbrev n85:=sO "ERR"
abbrev n86:=sO "FRESH_F"
abbrev n87:=sO "FRESH_T"
abbrev n88:=sO "P_READONLY"
abbrev n89:=sO "P_PRIVATE"
abbrev n90:=sO "P_PROTECTED"
abbrev n91:=sO "E_NEED"
abbrev n92:=sO "E_OPT"
abbrev n93:=sO "E_REST"
abbrev n94:=sO "E_SPREAD"
abbrev n95:=sO "MAX_UNION"
abbrev n96:=sO "FIRST_ROWS"
abbrev n97:=sO "LITERAL_ROWS"
abbrev n98:=sO "MARKED_ROWS"
abbrev n99:=sO "any"
abbrev n100:=sO "unknown"
abbrev n101:=sO "never"
abbrev n102:=sO "void"
abbrev n103:=sO "undefined"
abbrev n104:=sO "null"
abbrev n105:=sO "string"
abbrev n106:=sO "object"
abbrev n107:=sO "error"
abbrev Wf:=sO "KID_SPANS"
abbrev vx:=sO "TypeTable"
abbrev Co:=sO "str_type"
abbrev Cp:=sO "array_type"
abbrev Cq:=sO "last_mark"
abbrev Cr:=sO "needed_to_last"
abbrev Cs:=sO "one_rest"
abbrev Ct:=sO "tuple_type"
abbrev Cu:=sO "sig_type"
abbrev Cv:=sO "func_type"
abbrev Cw:=sO "new_param"
abbrev Cy:=sO "parts_of"
abbrev iJ:=sO "row"
abbrev Pz:=sO "TypeTable.__init__"
abbrev cF:=sO "t"
abbrev PA:=sO "TypeTable.row"
abbrev PB:=sO "TypeTable.put"
abbrev n125:=sO "bounds"
abbrev n126:=sO "decls"
abbrev n127:=sO "defaults"
abbrev n128:=sO "index"
abbrev n129:=sO "names"
abbrev n130:=sO "origins"
abbrev n131:=sO "putting"
abbrev n132:=sO "renamed"
abbrev n133:=sO "shaping"
abbrev gW:=sO "tab"
abbrev n135:=sO "fresh"
abbrev n136:=sO "elem"
abbrev PC:=sO "ro"
abbrev PD:=sO "elems"
abbrev n139:=sO "marks"
abbrev PF:=sO "place"
abbrev Wg:=sO "last"
abbrev PG:=sO "out"
abbrev Wh:=sO "given"
abbrev Cz:=sO "mark"
abbrev n145:=sO "first"
abbrev Wi:=sO "held"
abbrev n147:=sO "tparams"
abbrev n148:=sO "params"
abbrev n149:=sO "ret"
abbrev n150:=sO "pred"
abbrev n151:=sO "flags"
abbrev Ke:=sO "sig"
abbrev CA:=sO "name"
abbrev CB:=sO "bound"
abbrev n155:=sO "default"
abbrev CC:=sO "pid"
abbrev n157:=sO "kindkeep.relbase"
abbrev CD:=sO "whole_of_row"
abbrev CE:=sO "regular_twin"
abbrev CF:=sO "join_bools"
abbrev CG:=sO "stays_beside"
abbrev CH:=sO "top_of"
abbrev CI:=sO "union"
abbrev CJ:=sO "without"
abbrev CK:=sO "add_undef"
abbrev CL:=sO "is_literal"
abbrev CM:=sO "is_fresh"
abbrev CN:=sO "regular_one"
abbrev CO:=sO "index_kids"
abbrev CP:=sO "sig_kids"
abbrev CQ:=sO "object_kids"
abbrev CR:=sO "row_kids"
abbrev CS:=sO "row_binds"
abbrev CT:=sO "inner_kids"
abbrev CU:=sO "reached"
abbrev CV:=sO "row_free"
abbrev CW:=sO "free_round"
abbrev CX:=sO "free_params"
abbrev CY:=sO "has_params"
abbrev CZ:=sO "kind"
abbrev Kg:=sO "got"
abbrev Wj:=sO "cell"
abbrev n183:=sO "seen"
abbrev n184:=sO "waiting"
abbrev Hj:=sO "free"
abbrev n186:=sO "kids"
abbrev n187:=sO "kid"
abbrev Wk:=sO "R_ASSIGN"
abbrev Wl:=sO "R_COMPARE"
abbrev Wm:=sO "R_IDENT"
abbrev Wn:=sO "R_SUBTYPE"
abbrev Wo:=sO "RULE_MEET"
abbrev Wq:=sO "RULE_DEFERRED"
abbrev Wr:=sO "RULE_SIG"
abbrev Wt:=sO "RULE_LIST"
abbrev Wu:=sO "RULE_OBJECT"
abbrev Wv:=sO "RULE_CHOICE"
abbrev Ww:=sO "RULE_PLACES"
abbrev Wx:=sO "VALUE_ROWS"
abbrev Wy:=sO "LIST_ROWS"
abbrev Wz:=sO "SHAPED_ROWS"
abbrev WA:=sO "DEFERRED_ROWS"
abbrev WB:=sO "OPEN_ROWS"
abbrev WC:=sO "MAX_OPEN"
abbrev jD:=sO "RelRule"
abbrev C0:=sO "holds"
abbrev PH:=sO "loose"
abbrev PI:=sO "blank"
abbrev vy:=sO "tells"
abbrev dN:=sO "rel"
abbrev eu:=sO "s"
abbrev PJ:=sO "RelRule.holds"
abbrev PK:=sO "RelRule.loose"
abbrev PL:=sO "RelRule.sig"
abbrev PN:=sO "RelRule.blank"
abbrev Ki:=sO "parts"
abbrev PQ:=sO "RelRule.tells"
abbrev vz:=sO "Rel"
abbrev C1:=sO "by_rule"
abbrev C2:=sO "silent_with"
abbrev C3:=sO "twin_of"
abbrev C4:=sO "cut_back"
abbrev C5:=sO "settled"
abbrev C6:=sO "ask_kinds"
abbrev C7:=sO "relbase_kept"
abbrev PR:=sO "ask"
abbrev PT:=sO "note"
abbrev PU:=sO "same"
abbrev PW:=sO "back"
abbrev PX:=sO "infer_sig"
abbrev vA:=sO "host"
abbrev PY:=sO "mode"
abbrev PZ:=sO "Rel.__init__"
abbrev P4:=sO "Rel.ask"
abbrev P5:=sO "Rel.note"
abbrev P6:=sO "Rel.same"
abbrev P7:=sO "Rel.mark"
abbrev Kj:=sO "spot"
abbrev P8:=sO "Rel.back"
abbrev P9:=sO "Rel.infer_sig"
abbrev n241:=sO "assumed"
abbrev P_:=sO "deep"
abbrev n243:=sO "known"
abbrev n244:=sO "missing"
abbrev n245:=sO "notes"
abbrev n246:=sO "road"
abbrev n247:=sO "rules"
abbrev n248:=sO "telling"
abbrev n249:=sO "trail"
abbrev n250:=sO "twin"
abbrev n251:=sO "rule"
abbrev Qa:=sO "made"
abbrev WD:=sO "told"
abbrev Hk:=sO "key"
abbrev n255:=sO "answer"
abbrev n256:=sO "kindkeep.relkeys"
abbrev C8:=sO "close_trail"
abbrev C9:=sO "taken_wider"
abbrev C_:=sO "simple_related"
abbrev C':=sO "tops_related"
abbrev Dc:=sO "unknown_told"
abbrev Dd:=sO "is_numeric_enum"
abbrev De:=sO "values_related"
abbrev Df:=sO "number_to_enum"
abbrev Dg:=sO "structured"
abbrev Dh:=sO "rule_for"
abbrev Di:=sO "from_union"
abbrev Dj:=sO "some_part"
abbrev Dk:=sO "lay_again"
abbrev Dl:=sO "to_union"
abbrev Dm:=sO "same_kind"
abbrev Dn:=sO "each_in"
abbrev Dp:=sO "own_param"
abbrev Dq:=sO "pid_bound"
abbrev WG:=sO "HIDDEN"
abbrev pa:=sO "a"
abbrev nR:=sO "b"
abbrev WH:=sO "part"
abbrev WI:=sO "lax"
abbrev n280:=sO "ss"
abbrev n281:=sO "ts"
abbrev WJ:=sO "kindkeep.relsig"
abbrev n283:=sO "kindkeep.hosts"
abbrev Ds:=sO "shown_keys"
abbrev Dt:=sO "named_keys"
abbrev Du:=sO "member_of"
abbrev Dv:=sO "mapped_to_param"
abbrev Dw:=sO "is_empty_object"
abbrev Dy:=sO "to_mapped"
abbrev Dz:=sO "index_noted"
abbrev DA:=sO "keeps_marks"
abbrev DB:=sO "own_members"
abbrev DC:=sO "has_readonly"
abbrev DD:=sO "by_members"
abbrev DE:=sO "mark_rank"
abbrev DF:=sO "keys_lie"
abbrev DG:=sO "keys_and_marks"
abbrev DH:=sO "mark_notes"
abbrev DI:=sO "key_notes"
abbrev DJ:=sO "mapped_pair"
abbrev WK:=sO "MOST_PLAIN"
abbrev WL:=sO "PLAIN_ROWS"
abbrev DK:=sO "plain_shape"
abbrev WM:=sO "MOST_ROUNDS"
abbrev WN:=sO "MOST_SHAPES"
abbrev Qb:=sO "keys"
abbrev zt:=sO "shape"
abbrev n308:=sO "kept"
abbrev Qc:=sO "member"
abbrev WO:=sO "want"
abbrev WQ:=sO "have"
abbrev n312:=sO "all_keys"
abbrev n313:=sO "template"
abbrev n314:=sO "turn"
abbrev n315:=sO "kindkeep.shapes"
abbrev pb:=sO "Thin"
abbrev Qd:=sO "force"
abbrev Qe:=sO "put_deferred"
abbrev Qf:=sO "put_cond"
abbrev Qg:=sO "lay_row"
abbrev DL:=sO "fits"
abbrev DM:=sO "lies"
abbrev Qh:=sO "infers"
abbrev Qi:=sO "tpl_fits"
abbrev Qj:=sO "shape_fits"
abbrev DN:=sO "put_in"
abbrev Qk:=sO "own_sig"
abbrev Ql:=sO "forget"
abbrev Qm:=sO "list_prop"
abbrev Qn:=sO "list_index"
abbrev Qo:=sO "elem_met"
abbrev Qp:=sO "error_class"
abbrev Qq:=sO "Thin.__init__"
abbrev Qr:=sO "Thin.force"
abbrev Qs:=sO "Thin.put_deferred"
abbrev xT:=sO "mapping"
abbrev Qt:=sO "Thin.put_cond"
abbrev Qu:=sO "Thin.lay_row"
abbrev Qv:=sO "Thin.bound"
abbrev Qw:=sO "Thin.shape"
abbrev Qx:=sO "Thin.fits"
abbrev Qy:=sO "Thin.lies"
abbrev WR:=sO "pids"
abbrev n344:=sO "check"
abbrev n345:=sO "ext"
abbrev Qz:=sO "Thin.infers"
abbrev QA:=sO "Thin.tpl_fits"
abbrev QB:=sO "Thin.shape_fits"
abbrev QC:=sO "Thin.put_in"
abbrev n350:=sO "erased"
abbrev QD:=sO "Thin.own_sig"
abbrev QE:=sO "Thin.forget"
abbrev QF:=sO "Thin.list_prop"
abbrev QG:=sO "Thin.list_index"
abbrev n355:=sO "kinds"
abbrev QH:=sO "Thin.elem_met"
abbrev QI:=sO "Thin.error_class"
abbrev WU:=sO "most_deep"
abbrev WV:=sO "most_rounds"
abbrev n360:=sO "kindkeep.keyhost"
abbrev pd:=sO "RefHost"
abbrev DO:=sO "put_each"
abbrev DP:=sO "put_cell"
abbrev DQ:=sO "put_shape"
abbrev DR:=sO "plainput_put_elems"
abbrev DS:=sO "put_call"
abbrev DT:=sO "without_own"
abbrev DU:=sO "put_late"
abbrev DV:=sO "plain_put"
abbrev QJ:=sO "RefHost.shape"
abbrev QK:=sO "RefHost.fits"
abbrev QL:=sO "RefHost.lies"
abbrev n373:=sO "kindkeep.plainput"
abbrev WW:=sO "rest"
abbrev n375:=sO "law_qd0089_01"
abbrev vC:=sO "PutHost"
abbrev vD:=sO "ParamRule"
abbrev DW:=sO "param_related"
abbrev DX:=sO "install_rel_params"
abbrev DY:=sO "_law_units"
abbrev QM:=sO "PutHost.__init__"
abbrev QN:=sO "PutHost.put_in"
abbrev n383:=sO "kindkeep.relopen"
abbrev QO:=sO "ParamRule.holds"
abbrev WX:=sO "_law_tables"
abbrev xU:=sO "p"
abbrev DZ:=sO "q"
noncomputable abbrev k20:String:=PySem.W.SL.s9222952809800978799x4
abbrev D1:=sO "_law_lies"
abbrev D2:=sO "_law_draw"
abbrev D3:=sO "_law_made"
abbrev D4:=sO "_law_term"
abbrev D5:=sO "_law_row"
abbrev D6:=sO "_law_subsets"
abbrev D7:=sO "_law_other"
abbrev D8:=sO "_law_worlds"
abbrev D9:=sO "_law_members"
abbrev D_:=sO "_law_faults"
abbrev Ea:=sO "_law_lies_in"
abbrev Eb:=sO "_law_lax"
abbrev Ec:=sO "_law_told"
abbrev Hl:=sO "law"
abbrev n402:=sO "nums"
abbrev n403:=sO "i"
abbrev WY:=sO "opt"
abbrev WZ:=sO "mask"
abbrev n406:=sO "x"
abbrev n407:=sO "y"
abbrev n408:=sO "table"
abbrev n409:=sO "way"
abbrev QP:=sO "closed"
abbrev n411:=sO "side"
abbrev n412:=sO "world"
abbrev n413:=sO "base"
abbrev QQ:=sO "one"
abbrev QR:=sO "other"
abbrev n416:=sO "lacks"
abbrev n417:=sO "fixed"
abbrev n418:=sO "read"
abbrev n419:=sO "near"
abbrev n420:=sO "fault"
def sv:Nat->List Str->List Value
 |t,n::r=>vS n t::sv (t+1) r
 |_,[]=>[]
noncomputable abbrev vJ (i:Int):Value:= .int i 0
noncomputable abbrev j0:Value:= .int 0 0
noncomputable abbrev sq (l:List Value) (t:Nat):Obj:=⟨vT k0,none,.seq l.toArray t,#[]⟩
noncomputable abbrev z0:Obj:=sq [] 0
noncomputable abbrev fl (l:List Value):Obj:=⟨vN,none,.fields l.toArray,#[]⟩
noncomputable abbrev z1:Obj:=fl []
noncomputable abbrev cg (l:List Value):Obj:=⟨vT k1,none,.fields l.toArray,#[]⟩
noncomputable abbrev co (a b:Str) (t:Nat) (l x k:Int) (r:Nat) (q:Bool) (v:Value):Obj:=cg [vS a t,vS b (t+1),vS n1 (t+2),vJ l,vJ x,j0,j0,vJ k,vR r,vB q,vJ 181,vR (r+1),vN,vN,vN,v,vJ (t+3:Nat),vJ l,vS n1 (t+4)]
noncomputable abbrev cp (a b:Str) (t:Nat) (l x k:Int) (r m:Nat):Obj:=cg [vS a t,vS b (t+1),vS n1 (t+2),vJ l,vJ x,j0,j0,vJ k,vR r,vB true,vJ 181,vR (r+1),vN,vR (r+2),vR (r+3),vR (r+4),vJ m,vJ l,vS n1 (m+1)]
noncomputable abbrev fu (s:Stmt) (n:Str) (d m:Value) (r:Nat):Obj:=⟨vT k5,none,.func (fnD s n d vN vN m none (vR r) vN 3 0 0),#[]⟩
noncomputable abbrev fv (s:Stmt) (n:Str):Obj:=⟨vN,none,.func (fnD s n vN vN vN vN none vN vN 0 0 0),#[]⟩
noncomputable abbrev dc (k:String) (l:List DictEntry) (m:Nat):Obj:=⟨vT k,none,.dict l.toArray m,#[]⟩
noncomputable def halt {α:Type}:List α->List α
 |x::_::r=>x::halt r
 |l=>l
noncomputable def vM:Nat->List Obj->BT
 |n+1,x::l=> .node x (vM n (halt l)) (vM n (halt l.tail))
 |_,_=> .nil
noncomputable abbrev iS:Value:=vS n157 812
noncomputable abbrev jg:Value:=vS n38 351
noncomputable abbrev mH:Value:=vS n283 1433
noncomputable abbrev uf:Value:=vS n6 194
noncomputable abbrev vO:Value:=vS n375 1817
noncomputable abbrev vP:Value:=vS n256 1258
noncomputable abbrev LY:Value:=vS jD 851
noncomputable abbrev LZ:Value:=vS n373 1666
noncomputable abbrev QS:Value:=vS jD 843
noncomputable abbrev Sd:Value:=vS n360 1732
noncomputable abbrev Ed:Value:=vS n383 1771
noncomputable def hmE (P:Params) (e:Str->Nat->Value->DictEntry):List DictEntry:=[e n7 166 vN,e n8 167 vN,e n9 168 (vX k3),e n10 169 vN,e Ag 170 (vR 6),e n12 171 (vR 4),e TH 173 (vS n1 172),e n14 174 vN,e R8 193 (vR 21),e XU 197 (vI 1 196),e n17 199 (vI 3 198),e n18 201 (vI 4 200),e n19 203 (vI 5 202),e n20 205 (vI 10 204),e n21 207 (vI 11 206),e n22 209 (vI 15 208),e Cn 240 (vR 39),e Kb 269 (vR 60),e Kc 296 (vR 80),e Kd 350 (vR 120),e n41 354 (vI 1 353),e n42 356 (vI 2 355),e n43 358 (vI 3 357),e n44 360 (vI 4 359),e n45 362 (vI 5 361),e n46 364 (vI 6 363),e n47 366 (vI 7 365),e n48 368 (vI 8 367),e n62 370 (vI 9 369),e n63 372 (vI 10 371),e n64 374 (vI 11 373),e n65 376 (vI 12 375),e n66 378 (vI 13 377),e n67 380 (vI 14 379),e n68 382 (vI 15 381),e n69 384 (vI 16 383),e n70 386 (vI 17 385),e n71 388 (vI 18 387),e n72 390 (vI 19 389),e n73 392 (vI 0 391),e n74 394 (vI 1 393),e n75 396 (vI 2 395),e n76 398 (vI 3 397),e n77 400 (vI 4 399),e n78 402 (vI 5 401),e n79 404 (vI 6 403),e n80 406 (vI 7 405),e n81 408 (vI 8 407),e n82 410 (vI 9 409),e n83 412 (vI 10 411),e n84 414 (vI 11 413),e n85 416 (vI 13 415),e n86 418 (vI 14 417),e n87 420 (vI 15 419),e n88 422 (vI 2 421),e n89 424 (vI 8 423),e n90 426 (vI 16 425),e n91 428 (vI 0 427),e n92 430 (vI 1 429),e n93 432 (vI 2 431),e n94 434 (vI 3 433),e n95 436 (vI 400 435),e n96 458 (vR 147),e n97 459 (vR 148),e n98 460 (vR 149),e Wf 476 (vR 150),e vx 531 (vR 186),e Co 541 (vR 198),e Cp 551 (vR 206),e Cq 561 (vR 213),e Cr 574 (vR 220),e Cs 588 (vR 227),e Ct 595 (vR 233),e Cu 608 (vR 242),e Cv 616 (vR 249),e Cw 631 (vR 257),e Cy 640 (vR 264),e CD 648 (vR 271),e CE 657 (vR 278),e CF 664 (vR 285),e CG 673 (vR 292),e CH 681 (vR 299),e CI 687 (vR 304),e CJ 693 (vR 309),e CK 701 (vR 316),e CL 709 (vR 323),e CM 718 (vR 330),e CN 726 (vR 337),e CO 733 (vR 344),e CP 739 (vR 349),e CQ 745 (vR 354),e CR 751 (vR 359),e CS 758 (vR 366),e CT 768 (vR 373),e CU 779 (vR 380),e CV 791 (vR 387),e CW 797 (vR 392),e CX 803 (vR 397),e CY 811 (vR 404),e Wk 815 (vI 1 814),e Wl 817 (vI 2 816),e Wm 819 (vI 3 818),e Wn 821 (vI 4 820),e Wo 823 (vI 1 822),e Wq 825 (vI 2 824),e Wr 827 (vI 3 826),e Wt 829 (vI 4 828),e Wu 831 (vI 5 830),e Wv 833 (vI 6 832),e Ww 835 (vI 12 834),e Wx 836 (vR 405),e Wy 837 (vR 406),e Wz 838 (vR 407),e WA 839 (vR 408),e WB 840 (vR 410),e WC 842 (vI 60 841),e jD 911 (vR 455),e vz 1003 (vR 518),e C1 1014 (vR 529),e C2 1023 (vR 536),e C3 1030 (vR 543),e C4 1038 (vR 550),e C5 1046 (vR 557),e C6 1057 (vR 564),e C7 1069 (vR 571),e C8 1078 (vR 578),e vy 1085 (vR 585),e C9 1094 (vR 592),e C_ 1107 (vR 599),e C' 1116 (vR 606),e Dc 1125 (vR 613),e Dd 1132 (vR 620),e De 1143 (vR 627),e Df 1153 (vR 634),e Dg 1165 (vR 641),e Dh 1173 (vR 648),e Di 1183 (vR 655),e Dj 1195 (vR 662),e Dk 1204 (vR 669),e Dl 1216 (vR 676),e Dm 1228 (vR 683),e Dn 1238 (vR 690),e Dp 1248 (vR 697),e Dq 1257 (vR 704),e WG 1261 (vI 24 1260),e Ds 1267 (vR 709),e Dt 1276 (vR 716),e Du 1285 (vR 723),e Dv 1295 (vR 730),e Dw 1302 (vR 737),e Dy 1312 (vR 744),e Dz 1323 (vR 751),e DA 1333 (vR 758),e DB 1343 (vR 765),e DC 1349 (vR 770),e DD 1360 (vR 777),e DE 1367 (vR 784),e DF 1378 (vR 791),e DG 1387 (vR 798),e DH 1396 (vR 805),e DI 1407 (vR 812),e DJ 1417 (vR 819),e WK 1421 (vI 40 1420),e WL 1422 (vR 820),e DK 1432 (vR 827),e WM 1436 (vI 200 1435),e WN 1438 (vI 40 1437),e pb 1623 (vR 970),e pd 1665 (vR 1005),e DO 1673 (vR 1012),e DP 1682 (vR 1019),e DQ 1688 (vR 1024),e DR 1694 (vR 1029),e DS 1700 (vR 1034),e DT 1710 (vR 1041),e DU 1721 (vR 1048),e DV 1731 (vR 1055),e vC 1770 (vR 1079),e vD 1798 (vR 1098),e DW 1809 (vR 1107),e DX 1816 (vR 1114),e DY 1824 (vR 1121),e WX 1840 (vR 1131),e D1 1846 (vR 1138),e D2 1854 (vR 1145),e D3 1867 (vR 1152),e D4 1875 (vR 1159),e D5 1881 (vR 1164),e D6 1887 (vR 1169),e D7 1900 (vR 1176),e D8 1906 (vR 1181),e D9 1926 (vR 1188),e D_ 1944 (vR 1195),e Ea 1953 (vR 1202),e Eb 1961 (vR 1209),e Ec 1969 (vR 1216),e Hl 1975 (vR 1221)]
def zu:List Value:=[vJ 1,j0,vR 20,vJ 12,j0,vR 27,vJ 17,j0,vR 48,vJ 22,j0,vR 68,vJ 27,j0,vR 88,vJ 90,j0,vR 161,vJ 116,j0,vR 197,vJ 118,j0,vR 205,vJ 120,j0,vR 212,vJ 126,j0,vR 219,vJ 136,j0,vR 226,vJ 147,j0,vR 232,vJ 155,j0,vR 241,vJ 157,j0,vR 248,vJ 159,j0,vR 256,vJ 165,j0,vR 263,vJ 172,j0,vR 270,vJ 181,j0,vR 277,vJ 186,j0,vR 284,vJ 190,j0,vR 291,vJ 194,j0,vR 298,vJ 199,j0,vR 303,vJ 216,j0,vR 308,vJ 218,j0,vR 315,vJ 220,j0,vR 322,vJ 222,j0,vR 329,vJ 225,j0,vR 336,vJ 229,j0,vR 343,vJ 231,j0,vR 348,vJ 237,j0,vR 353,vJ 242,j0,vR 358,vJ 258,j0,vR 365,vJ 266,j0,vR 372,vJ 272,j0,vR 379,vJ 281,j0,vR 386,vJ 292,j0,vR 391,vJ 299,j0,vR 396,vJ 315,j0,vR 403,vJ 335,j0,vR 416,vJ 351,j0,vR 465,vJ 386,j0,vR 528,vJ 389,j0,vR 535,vJ 394,j0,vR 542,vJ 400,j0,vR 549,vJ 404,j0,vR 556,vJ 409,j0,vR 563,vJ 427,j0,vR 570,vJ 449,j0,vR 577,vJ 455,j0,vR 584,vJ 457,j0,vR 591,vJ 460,j0,vR 598,vJ 476,j0,vR 605,vJ 493,j0,vR 612,vJ 500,j0,vR 619,vJ 502,j0,vR 626,vJ 516,j0,vR 633,vJ 523,j0,vR 640,vJ 532,j0,vR 647,vJ 542,j0,vR 654,vJ 550,j0,vR 661,vJ 564,j0,vR 668,vJ 570,j0,vR 675,vJ 583,j0,vR 682,vJ 592,j0,vR 689,vJ 598,j0,vR 696,vJ 600,j0,vR 703,vJ 605,j0,vR 708,vJ 610,j0,vR 715,vJ 615,j0,vR 722,vJ 617,j0,vR 729,vJ 627,j0,vR 736,vJ 629,j0,vR 743,vJ 641,j0,vR 750,vJ 650,j0,vR 757,vJ 653,j0,vR 764,vJ 662,j0,vR 769,vJ 666,j0,vR 776,vJ 680,j0,vR 783,vJ 682,j0,vR 790,vJ 688,j0,vR 797,vJ 694,j0,vR 804,vJ 699,j0,vR 811,vJ 710,j0,vR 818,vJ 724,j0,vR 826,vJ 742,j0,vR 833,vJ 803,j0,vR 980,vJ 814,j0,vR 1011,vJ 816,j0,vR 1018,vJ 818,j0,vR 1023,vJ 824,j0,vR 1028,vJ 830,j0,vR 1033,vJ 835,j0,vR 1040,vJ 841,j0,vR 1047,vJ 856,j0,vR 1054,vJ 874,j0,vR 1061,vJ 885,j0,vR 1087,vJ 889,j0,vR 1106,vJ 895,j0,vR 1113,vJ 898,j0,vR 1120,vJ 901,j0,vR 1137,vJ 903,j0,vR 1144,vJ 905,j0,vR 1151,vJ 909,j0,vR 1158,vJ 912,j0,vR 1163,vJ 919,j0,vR 1168,vJ 924,j0,vR 1175,vJ 937,j0,vR 1180,vJ 947,j0,vR 1187,vJ 965,j0,vR 1194,vJ 986,j0,vR 1201,vJ 995,j0,vR 1208,vJ 1001,j0,vR 1215,vJ 1003,j0,vR 1220]
noncomputable def zv (P:Params) (e:Str->Nat->Value->DictEntry) (v:Value) (k m:Nat):Obj:=dc k4 (e n5 165 v::(hmE P e).take k) m
noncomputable def hA1 (P:Params) (e:Str->Nat->Value->DictEntry):List Obj:=[b0 P,b1 P,⟨vN,none,(.dict [en P n3 237 (vJ 39),en P n4 238 (vJ 1)].toArray 2),[].toArray⟩,zv P e vO 197 198,b4 P,b5 P,b6 P,b7 P,b8 P,b9 P,b10 P,z0,fl zu,co n0 n0 182 1 0 0 11 false vN,⟨(vT k2),none,.plain,[some (vR 13),some (vR 3),some (vR 3),none,some (vS n2 164),none,some (vR 0)].toArray⟩]
noncomputable def hA2 (P:Params) (e:Str->Nat->Value->DictEntry):List Obj:=[z0,z1,sq [vS n25 190] 0,z0,fv (st 0) R8,cp R8 R8 187 1 1 3 15 191,fu (st 0) R8 vN (vS n2 164) 20,sq [vT k6] 0,⟨(vT k9),none,(.fields [vX k7,vT k8].toArray),[].toArray⟩,dc k4 [e pX 217 uf,e Hg 219 (vS Cn 218),e sx 221 (vI 12 220),e qE 230 (vR 36),e sy 233 (vR 37)] 5,z0,fl [vJ 14,vJ 4,vR 35],co Cn Cn 212 12 0 0 25 false vN,⟨(vT k2),none,.plain,[some (vR 27),some (vR 3),some (vR 24),none,some uf,none,some (vR 0)].toArray⟩,sq [vS n31 222] 0,z0,z1,sq (sv 226 [iH,Px]) 0,z0,fv (cm 9 0) n34,cp qE n34 223 14 2 3 30 228,fu (cm 9 0) n34 (vR 29) uf 35,sq (sv 231 [R_,Px]) 0,dc k4 [e pX 217 uf,e sx 221 (vI 12 220),e qE 230 (vR 36),e sy 233 (vR 37),e Ew 235 (vR 40),e n7 236 vN] 3,⟨(vT k8),none,(.cls (ue Cn [vT k6] [vR 39,vT k6,vT Yr,vT lz] 38 Cn true [] [vR 60,vR 80] false none false)),[some (vR 22),none,some (vS Cn 210),some (vS Cn 218),some (vX Ys),some (vB true)].toArray⟩,⟨(vT Hh),none,(.fields [vS Ew 234,vR 39,vX Sa,vN].toArray),[].toArray⟩,⟨(vT Hi),none,(.fields [vR 39,vR 39,vR 39].toArray),[].toArray⟩,⟨(vT k9),none,(.fields [vX wm,vR 39].toArray),[].toArray⟩,sq [vR 39] 0,⟨(vT k9),none,(.fields [vX k7,vT k8].toArray),[].toArray⟩,dc k4 [e pX 248 uf,e Hg 250 (vS Kb 249),e sx 252 (vI 17 251),e qE 263 (vR 57),e sy 266 (vR 58)] 5,z0,fl [vJ 19,vJ 4,vR 56],co Kb Kb 243 17 0 0 46 false vN,⟨(vT k2),none,.plain,[some (vR 48),some (vR 3),some (vR 45),none,some uf,none,some (vR 0)].toArray⟩,sq [vI 2589 253,vS n31 254] 0,z0,z1,sq (sv 258 [iH,R_,Px]) 0,z0,fv (cm 10 0) n37,cp qE n37 255 19 3 3 51 261,fu (cm 10 0) n37 (vR 50) uf 56,sq (sv 264 [R_,Px]) 0,dc k4 [e pX 248 uf,e sx 252 (vI 17 251),e qE 263 (vR 57),e sy 266 (vR 58),e n7 267 vN] 2,⟨(vT k8),none,(.cls (ue Kb [vR 39] [vR 60,vR 39,vT k6,vT Yr,vT lz] 59 Kb true [] [] false none false)),[some (vR 43),none,some (vS Kb 241),some (vS Kb 249),some (vX Ys),some (vB true)].toArray⟩,⟨(vT Hi),none,(.fields [vR 60,vR 60,vR 60].toArray),[].toArray⟩,⟨(vT k9),none,(.fields [vX wm,vR 60].toArray),[].toArray⟩]
noncomputable def hA3 (P:Params) (e:Str->Nat->Value->DictEntry):List Obj:=[sq [vR 39] 0,⟨(vT k9),none,(.fields [vX k7,vT k8].toArray),[].toArray⟩,dc k4 [e pX 277 uf,e Hg 279 (vS Kc 278),e sx 281 (vI 22 280),e qE 290 (vR 77),e sy 293 (vR 78)] 5,z0,fl [vJ 24,vJ 4,vR 76],co Kc Kc 272 22 0 0 66 false vN,⟨(vT k2),none,.plain,[some (vR 68),some (vR 3),some (vR 65),none,some uf,none,some (vR 0)].toArray⟩,sq [vS n31 282] 0,z0,z1,sq (sv 286 [iH,Px]) 0,z0,fv (cm 11 0) n49,cp qE n49 283 24 2 3 71 288,fu (cm 11 0) n49 (vR 70) uf 76,sq (sv 291 [R_,Px]) 0,dc k4 [e pX 277 uf,e sx 281 (vI 22 280),e qE 290 (vR 77),e sy 293 (vR 78),e n7 294 vN] 2,⟨(vT k8),none,(.cls (ue Kc [vR 39] [vR 80,vR 39,vT k6,vT Yr,vT lz] 79 Kc true [] [] false none false)),[some (vR 63),none,some (vS Kc 270),some (vS Kc 278),some (vX Ys),some (vB true)].toArray⟩,⟨(vT Hi),none,(.fields [vR 80,vR 80,vR 80].toArray),[].toArray⟩,⟨(vT k9),none,(.fields [vX wm,vR 80].toArray),[].toArray⟩,z0,⟨(vT k9),none,(.fields [vX k7,vT k8].toArray),[].toArray⟩,dc k4 [e pX 304 uf,e Hg 306 (vS Kd 305),e sx 308 (vI 27 307),e qE 315 (vR 96),e Sb 324 (vR 103),e Yt 334 (vR 110),e Yu 341 (vR 117),e sy 343 (vR 118)] 8,z0,fl [vJ 29,vJ 4,vR 95,vJ 32,vJ 4,vR 102,vJ 35,vJ 4,vR 109,vJ 41,vJ 4,vR 116],co Kd Kd 299 27 0 0 86 false vN,⟨(vT k2),none,.plain,[some (vR 88),some (vR 3),some (vR 85),none,some uf,none,some (vR 0)].toArray⟩,z0,z1,sq [vS iH 312] 0,z0,fv (cm 12 0) n53,cp qE n53 309 29 1 3 90 313,fu (cm 12 0) n53 vN uf 95,z0,z1,sq (sv 319 [iH,n54,Yv]) 0,z0,fv (cm 12 1) n56,cp Sb n56 316 32 3 3 97 322,fu (cm 12 1) n56 vN uf 102,z0,z1,sq (sv 328 [iH,n57,n54,Yv]) 0,z0,fv (cm 12 2) n58,cp Yt n58 325 35 1 3 104 332,fu (cm 12 2) n58 vN uf 109,z0,z1,sq [vS iH 338] 0,z0,fv (cm 12 3) n59,cp Yu n59 335 41 1 3 111 339,fu (cm 12 3) n59 vN uf 116,sq [vS Py 342] 0,dc k4 [e pX 304 uf,e sx 308 (vI 27 307),e qE 315 (vR 96),e Sb 324 (vR 103),e Yt 334 (vR 110),e Yu 341 (vR 117),e sy 343 (vR 118),e HO 345 (vR 121),e Ew 347 (vR 122),e n7 348 vN] 4,⟨(vT k8),none,(.cls (ue Kd [vT lz] [vR 120,vT lz] 119 Kd true [] [] false none false)),[none,none,some (vS Kd 297),some (vS Kd 305),some (vX xZ),some (vB true)].toArray⟩,⟨(vT Hh),none,(.fields [vS HO 344,vR 120,vX Wc,vX We].toArray),[].toArray⟩,⟨(vT Hh),none,(.fields [vS Ew 346,vR 120,vX Sa,vN].toArray),[].toArray⟩,⟨(vT Hi),none,(.fields [vR 120,vR 120,vR 120].toArray),[].toArray⟩,⟨(vT k9),none,(.fields [vX wm,vR 120].toArray),[].toArray⟩]
noncomputable def hA4 (P:Params) (e:Str->Nat->Value->DictEntry):List Obj:=[sq [vI 1 353,vS n99 437] 0,sq [vI 1 353,vS n100 438] 0,sq [vI 1 353,vS n101 439] 0,sq [vI 1 353,vS n102 440] 0,sq [vI 1 353,vS n103 441] 0,sq [vI 1 353,vS n104 442] 0,sq [vI 1 353,vS n105 443] 0,sq [vI 1 353,vS R_ 444] 0,sq [vI 2 355,vI 0 445,vI 0 446] 0,sq [vI 2 355,vI 1 447,vI 0 448] 0,sq [vI 1 353,vS n106 449] 0,z0,z0,z0,z0,z0,sq [vI 8 367,vR 136,vR 137,vR 138,vR 139,vR 140,vI 0 450] 0,sq [vI 8 451,vI 9 452] 0,sq [vI 6 363,vR 142] 0,sq [vI 1 353,vS n107 453] 0,sq [vI 2 355,vI 0 454,vI 1 455] 0,sq [vI 2 355,vI 1 456,vI 1 457] 0,sq [vR 125,vR 126,vR 127,vR 128,vR 129,vR 130,vR 131,vR 132,vR 133,vR 134,vR 135,vR 141,vR 143,vR 144,vR 145,vR 146] 0,sq [vI 2 355,vI 3 357,vI 4 359,vI 5 361] 0,sq [vI 2 355,vI 3 357,vI 4 359,vI 5 361,vI 8 367] 0]
noncomputable def hA5 (P:Params) (e:Str->Nat->Value->DictEntry):List Obj:=[dc k4 [⟨11,vI 11 373,vR 151⟩,⟨14,vI 14 379,vR 152⟩,⟨15,vI 15 381,vR 153⟩,⟨16,vI 16 383,vR 154⟩,⟨17,vI 17 385,vR 155⟩] 5,sq [vI 1 461,vI 2 462] 0,sq [vI 1 463,vI 2 464] 0,sq [vI 1 465,vI 3 466] 0,sq [vI 1 467,vI 5 468] 0,sq [vI 2 469,vI 5 470] 0]
noncomputable def hA6 (P:Params) (e:Str->Nat->Value->DictEntry):List Obj:=[z0,⟨(vT k9),none,(.fields [vX k7,vT k8].toArray),[].toArray⟩,dc k4 [e pX 484 jg,e Hg 486 (vS vx 485),e sx 488 (vI 90 487),e qE 496 (vR 169),e iJ 504 (vR 176),e Sb 513 (vR 183),e sy 524 (vR 184)] 7,z0,fl [vJ 92,vJ 4,vR 168,vJ 106,vJ 4,vR 175,vJ 109,vJ 4,vR 182],co vx vx 479 90 0 0 159 false vN,⟨(vT k2),none,.plain,[some (vR 161),some (vR 3),some (vR 158),none,some jg,none,some (vR 0)].toArray⟩,z0,z1,sq (sv 492 [iH,iJ]) 0,z0,fv (cm 60 0) Pz,cp qE Pz 489 92 1 3 163 494,fu (cm 60 0) Pz vN jg 168,z0,z1,sq (sv 500 [iH,cF]) 0,z0,fv (cm 60 1) PA,cp iJ PA 497 106 2 3 170 502,fu (cm 60 1) PA vN jg 175,z0,z1,sq (sv 508 [iH,iJ,cF]) 0,z0,fv (cm 60 2) PB,cp Sb PB 505 109 2 3 177 511,fu (cm 60 2) PB vN jg 182,sq (sv 514 [n125,n126,n127,n128,n129,n130,n131,n132,Py,n133]) 0,dc k4 [e pX 484 jg,e sx 488 (vI 90 487),e qE 496 (vR 169),e iJ 504 (vR 176),e Sb 513 (vR 183),e sy 524 (vR 184),e HO 526 (vR 187),e Ew 528 (vR 188),e n7 529 vN] 4,⟨(vT k8),none,(.cls (ue vx [vT lz] [vR 186,vT lz] 185 vx true [] [] false none false)),[none,none,some (vS vx 477),some (vS vx 485),some (vX xZ),some (vB true)].toArray⟩,⟨(vT Hh),none,(.fields [vS HO 525,vR 186,vX Wc,vX We].toArray),[].toArray⟩,⟨(vT Hh),none,(.fields [vS Ew 527,vR 186,vX Sa,vN].toArray),[].toArray⟩,⟨(vT Hi),none,(.fields [vR 186,vR 186,vR 186].toArray),[].toArray⟩,⟨(vT k9),none,(.fields [vX wm,vR 186].toArray),[].toArray⟩,sq [vI 0 532] 0,z0,z1,sq (sv 536 [gW,Px,n135]) 0,z0,fv (st 61) Co,cp Co Co 533 116 3 3 192 539,fu (st 61) Co (vR 191) jg 197,sq [vI 0 542] 0,z0,z1,sq (sv 546 [gW,n136,PC]) 0,z0,fv (st 62) Cp,cp Cp Cp 543 118 3 3 200 549,fu (st 62) Cp (vR 199) jg 205,z0,z1,sq (sv 555 [PD,n139,n57,PF]) 0,z0,fv (st 63) Cq,cp Cq Cq 552 120 2 3 207 559,fu (st 63) Cq vN jg 212,z0,z1,sq (sv 565 [gW,PD,Wg,PG,PF,Wh,Cz]) 0,z0,fv (st 64) Cr,cp Cr Cr 562 126 2 3 214 572,fu (st 64) Cr vN jg 219,z0,z1,sq (sv 578 [gW,PD,Wg,n145,PF,Wi,Wh,Cz]) 0,z0,fv (st 65) Cs,cp Cs Cs 575 136 3 3 221 586,fu (st 65) Cs vN jg 226,sq [vI 0 589] 0,z0,z1,fv (st 66) Ct,co Ct Ct 590 147 3 3 229 true (vR 231),fu (st 66) Ct (vR 228) jg 232,z0,sq [vR 234,vI 0 596] 0,z0,z1,sq (sv 600 [gW,n147,n148,n149,n150,n151]) 0,z0,fv (st 67) Cu,cp Cu Cu 597 155 6 3 236 606,fu (st 67) Cu (vR 235) jg 241,z0,z1,sq (sv 612 [gW,Ke]) 0,z0,fv (st 68) Cv,cp Cv Cv 609 157 2 3 243 614,fu (st 68) Cv vN jg 248,sq [vI (-1) 618,vI (-1) 620] 0,z0,z1,sq (sv 624 [gW,CA,CB,n155,CC]) 0,z0,fv (st 69) Cw,cp Cw Cw 621 159 4 3 251 629,fu (st 69) Cw (vR 250) jg 256,z0,z1,sq (sv 635 [gW,cF,iJ]) 0,z0,fv (st 70) Cy,cp Cy Cy 632 165 2 3 258 638,fu (st 70) Cy vN jg 263]
noncomputable def hA7 (P:Params) (e:Str->Nat->Value->DictEntry):List Obj:=[z0,z1,sq (sv 644 [iJ,CZ]) 0,z0,fv (st 71) CD,cp CD CD 641 172 1 3 265 646,fu (st 71) CD vN jg 270,z0,z1,sq (sv 652 [gW,cF,iJ]) 0,z0,fv (st 72) CE,cp CE CE 649 181 2 3 272 655,fu (st 72) CE vN jg 277,z0,z1,sq [vS Kg 661] 0,z0,fv (st 73) CF,cp CF CF 658 186 1 3 279 662,fu (st 73) CF vN jg 284,z0,z1,sq (sv 668 [gW,Kg,cF]) 0,z0,fv (st 74) CG,cp CG CG 665 190 3 3 286 671,fu (st 74) CG vN jg 291,z0,z1,sq (sv 677 [Kg,cF]) 0,z0,fv (st 75) CH,cp CH CH 674 194 1 3 293 679,fu (st 75) CH vN jg 298,z0,z1,fv (st 76) CI,co CI CI 682 199 2 3 300 true (vR 302),fu (st 76) CI vN jg 303,z0,z1,fv (st 77) CJ,co CJ CJ 688 216 3 3 305 true (vR 307),fu (st 77) CJ vN jg 308,z0,z1,sq (sv 697 [gW,cF]) 0,z0,fv (st 78) CK,cp CK CK 694 218 2 3 310 699,fu (st 78) CK vN jg 315,z0,z1,sq (sv 705 [gW,cF]) 0,z0,fv (st 79) CL,cp CL CL 702 220 2 3 317 707,fu (st 79) CL vN jg 322,z0,z1,sq (sv 713 [gW,cF,iJ]) 0,z0,fv (st 80) CM,cp CM CM 710 222 2 3 324 716,fu (st 80) CM vN jg 329,z0,z1,sq (sv 722 [gW,cF]) 0,z0,fv (st 81) CN,cp CN CN 719 225 2 3 331 724,fu (st 81) CN vN jg 336,z0,z1,sq [vS Wj 730] 0,z0,fv (st 82) CO,cp CO CO 727 229 1 3 338 731,fu (st 82) CO vN jg 343,z0,z1,fv (st 83) CP,co CP CP 734 231 1 3 345 true (vR 347),fu (st 83) CP vN jg 348,z0,z1,fv (st 84) CQ,co CQ CQ 740 237 1 3 350 true (vR 352),fu (st 84) CQ vN jg 353,z0,z1,fv (st 85) CR,co CR CR 746 242 1 3 355 true (vR 357),fu (st 85) CR vN jg 358,z0,z1,sq [vS iJ 755] 0,z0,fv (st 86) CS,cp CS CS 752 258 1 3 360 756,fu (st 86) CS vN jg 365,z0,z1,sq (sv 762 [gW,iJ,PG,CC]) 0,z0,fv (st 87) CT,cp CT CT 759 266 2 3 367 766,fu (st 87) CT vN jg 372,z0,z1,sq (sv 772 [gW,cF,n183,n184,Yv]) 0,z0,fv (st 88) CU,cp CU CU 769 272 2 3 374 777,fu (st 88) CU vN jg 379,z0,z1,sq (sv 783 [iJ,Hj,n186,PG,n187,CC]) 0,z0,fv (st 89) CV,cp CV CV 780 281 3 3 381 789,fu (st 89) CV vN jg 386,z0,z1,fv (st 90) CW,co CW CW 792 292 3 3 388 true (vR 390),fu (st 90) CW vN jg 391,z0,z1,fv (st 91) CX,co CX CX 798 299 2 3 393 true (vR 395),fu (st 91) CX vN jg 396,z0,z1,sq (sv 807 [gW,cF]) 0,z0,fv (st 92) CY,cp CY CY 804 315 2 3 398 809,fu (st 92) CY vN jg 403]
noncomputable def hA8 (P:Params) (e:Str->Nat->Value->DictEntry):List Obj:=[sq [vI 1 353,vI 2 355,vI 3 357,vI 4 359,vI 5 361] 0,sq [vI 11 373,vI 12 375] 0,sq [vI 8 367,vI 9 369] 0,sq [vI 10 371,vI 14 379,vI 15 381,vI 16 383,vI 17 385,vI 18 387,vI 19 389] 0,sq [vI 6 363,vI 7 365] 0,sq [vI 6 363,vI 7 365,vI 10 371,vI 14 379,vI 15 381,vI 16 383,vI 17 385,vI 18 387,vI 19 389] 0,z0,⟨(vT k9),none,(.fields [vX k7,vT k8].toArray),[].toArray⟩,dc k4 [e pX 850 iS,e Hg 852 LY,e sx 854 (vI 335 853),e C0 864 (vR 424),e PH 874 (vR 431),e Ke 884 (vR 438),e PI 893 (vR 445),e vy 903 (vR 452),e sy 904 (vR 453)] 9,z0,fl [vJ 337,vJ 4,vR 423,vJ 340,vJ 4,vR 430,vJ 343,vJ 4,vR 437,vJ 346,vJ 4,vR 444,vJ 349,vJ 4,vR 451],co jD jD 845 335 0 0 414 false vN,⟨(vT k2),none,.plain,[some (vR 416),some (vR 3),some (vR 413),none,some iS,none,some (vR 0)].toArray⟩,z0,z1,sq (sv 858 [iH,dN,eu,cF]) 0,z0,fv (cm 111 0) PJ,cp C0 PJ 855 337 4 3 418 862,fu (cm 111 0) PJ vN iS 423,z0,z1,sq (sv 868 [iH,dN,eu,cF]) 0,z0,fv (cm 111 1) PK,cp PH PK 865 340 4 3 425 872,fu (cm 111 1) PK vN iS 430,z0,z1,sq (sv 878 [iH,dN,eu,cF]) 0,z0,fv (cm 111 2) PL,cp Ke PL 875 343 4 3 432 882,fu (cm 111 2) PL vN iS 437,z0,z1,sq (sv 888 [iH,dN,eu]) 0,z0,fv (cm 111 3) PN,cp PI PN 885 346 3 3 439 891,fu (cm 111 3) PN vN iS 444,z0,z1,sq (sv 897 [iH,dN,Ki,CA]) 0,z0,fv (cm 111 4) PQ,cp vy PQ 894 349 4 3 446 901,fu (cm 111 4) PQ vN iS 451,z0,dc k4 [e pX 850 iS,e sx 854 (vI 335 853),e C0 864 (vR 424),e PH 874 (vR 431),e Ke 884 (vR 438),e PI 893 (vR 445),e vy 903 (vR 452),e sy 904 (vR 453),e HO 906 (vR 456),e Ew 908 (vR 457),e n7 909 vN] 4,⟨(vT k8),none,(.cls (ue jD [vT lz] [vR 455,vT lz] 454 jD true [] [vR 1098] false none false)),[none,none,some QS,some LY,some (vX xZ),some (vB true)].toArray⟩,⟨(vT Hh),none,(.fields [vS HO 905,vR 455,vX Wc,vX We].toArray),[].toArray⟩,⟨(vT Hh),none,(.fields [vS Ew 907,vR 455,vX Sa,vN].toArray),[].toArray⟩,⟨(vT Hi),none,(.fields [vR 455,vR 455,vR 455].toArray),[].toArray⟩,⟨(vT k9),none,(.fields [vX wm,vR 455].toArray),[].toArray⟩]
noncomputable def hA9 (P:Params) (e:Str->Nat->Value->DictEntry):List Obj:=[z0,⟨(vT k9),none,(.fields [vX k7,vT k8].toArray),[].toArray⟩,dc k4 [e pX 919 iS,e Hg 921 (vS vz 920),e sx 923 (vI 351 922),e qE 932 (vR 473),e PR 941 (vR 480),e PT 949 (vR 487),e PU 958 (vR 494),e Cz 965 (vR 501),e PW 973 (vR 508),e PX 982 (vR 515),e sy 996 (vR 516)] 11,z0,fl [vJ 353,vJ 4,vR 472,vJ 368,vJ 4,vR 479,vJ 371,vJ 4,vR 486,vJ 375,vJ 4,vR 493,vJ 378,vJ 4,vR 500,vJ 381,vJ 4,vR 507,vJ 384,vJ 4,vR 514],co vz vz 914 351 0 0 463 false vN,⟨(vT k2),none,.plain,[some (vR 465),some (vR 3),some (vR 462),none,some iS,none,some (vR 0)].toArray⟩,z0,z1,sq (sv 927 [iH,vA,PY]) 0,z0,fv (cm 112 0) PZ,cp qE PZ 924 353 3 3 467 930,fu (cm 112 0) PZ vN iS 472,z0,z1,sq (sv 936 [iH,eu,cF]) 0,z0,fv (cm 112 1) P4,cp PR P4 933 368 3 3 474 939,fu (cm 112 1) P4 vN iS 479,z0,z1,sq (sv 945 [iH,n54]) 0,z0,fv (cm 112 2) P5,cp PT P5 942 371 2 3 481 947,fu (cm 112 2) P5 vN iS 486,z0,z1,sq (sv 953 [iH,eu,cF]) 0,z0,fv (cm 112 3) P6,cp PU P6 950 375 3 3 488 956,fu (cm 112 3) P6 vN iS 493,z0,z1,sq [vS iH 962] 0,z0,fv (cm 112 4) P7,cp Cz P7 959 378 1 3 495 963,fu (cm 112 4) P7 vN iS 500,z0,z1,sq (sv 969 [iH,Kj]) 0,z0,fv (cm 112 5) P8,cp PW P8 966 381 2 3 502 971,fu (cm 112 5) P8 vN iS 507,z0,z1,sq (sv 977 [iH,eu,cF]) 0,z0,fv (cm 112 6) P9,cp PX P9 974 384 3 3 509 980,fu (cm 112 6) P9 vN iS 514,sq (sv 983 [n241,Yv,P_,vA,n243,n244,PY,n245,n246,n247,n248,n249,n250]) 0,dc k4 [e pX 919 iS,e sx 923 (vI 351 922),e qE 932 (vR 473),e PR 941 (vR 480),e PT 949 (vR 487),e PU 958 (vR 494),e Cz 965 (vR 501),e PW 973 (vR 508),e PX 982 (vR 515),e sy 996 (vR 516),e HO 998 (vR 519),e Ew 1000 (vR 520),e n7 1001 vN] 4,⟨(vT k8),none,(.cls (ue vz [vT lz] [vR 518,vT lz] 517 vz true [] [] false none false)),[none,none,some (vS vz 912),some (vS vz 920),some (vX xZ),some (vB true)].toArray⟩,⟨(vT Hh),none,(.fields [vS HO 997,vR 518,vX Wc,vX We].toArray),[].toArray⟩,⟨(vT Hh),none,(.fields [vS Ew 999,vR 518,vX Sa,vN].toArray),[].toArray⟩,⟨(vT Hi),none,(.fields [vR 518,vR 518,vR 518].toArray),[].toArray⟩,⟨(vT k9),none,(.fields [vX wm,vR 518].toArray),[].toArray⟩,z0,z1,sq (sv 1007 [dN,R_,eu,cF,n251]) 0,z0,fv (st 113) C1,cp C1 C1 1004 386 4 3 523 1012,fu (st 113) C1 vN iS 528,z0,z1,sq (sv 1018 [dN,PY,Qa]) 0,z0,fv (st 114) C2,cp C2 C2 1015 389 2 3 530 1021,fu (st 114) C2 vN iS 535,z0,z1,sq [vS dN 1027] 0,z0,fv (st 115) C3,cp C3 C3 1024 394 1 3 537 1028,fu (st 115) C3 vN iS 542,z0,z1,sq (sv 1034 [dN,Kj]) 0,z0,fv (st 116) C4,cp C4 C4 1031 400 2 3 544 1036,fu (st 116) C4 vN iS 549,z0,z1,sq (sv 1042 [vA,cF]) 0,z0,fv (st 117) C5,cp C5 C5 1039 404 2 3 551 1044,fu (st 117) C5 vN iS 556,z0,z1,sq (sv 1050 [dN,eu,cF,Py,WD]) 0,z0,fv (st 118) C6,cp C6 C6 1047 409 3 3 558 1055,fu (st 118) C6 vN iS 563,z0,z1,sq (sv 1061 [dN,eu,cF,Hk,Kj,n255]) 0,z0,fv (st 119) C7,cp C7 C7 1058 427 3 3 565 1067,fu (st 119) C7 vN iS 570]
noncomputable def hA10 (P:Params) (e:Str->Nat->Value->DictEntry):List Obj:=[z0,z1,sq (sv 1073 [dN,Yu,Hk]) 0,z0,fv (st 120) C8,cp C8 C8 1070 449 2 3 572 1076,fu (st 120) C8 vN iS 577,z0,z1,sq [vS dN 1082] 0,z0,fv (st 121) vy,cp vy vy 1079 455 1 3 579 1083,fu (st 121) vy vN iS 584,z0,z1,sq (sv 1089 [dN,eu,cF]) 0,z0,fv (st 122) C9,cp C9 C9 1086 457 3 3 586 1092,fu (st 122) C9 vN iS 591,z0,z1,sq (sv 1098 [dN,eu,cF,WD,Py,pa,nR]) 0,z0,fv (st 123) C_,cp C_ C_ 1095 460 3 3 593 1105,fu (st 123) C_ vN iS 598,z0,z1,sq (sv 1111 [dN,eu,cF]) 0,z0,fv (st 124) C',cp C' C' 1108 476 3 3 600 1114,fu (st 124) C' vN iS 605,z0,z1,sq (sv 1120 [dN,cF,Ki]) 0,z0,fv (st 125) Dc,cp Dc Dc 1117 493 2 3 607 1123,fu (st 125) Dc vN iS 612,z0,z1,sq [vS iJ 1129] 0,z0,fv (st 126) Dd,cp Dd Dd 1126 500 1 3 614 1130,fu (st 126) Dd vN iS 619,z0,z1,sq (sv 1136 [dN,eu,cF,pa,nR]) 0,z0,fv (st 127) De,cp De De 1133 502 3 3 621 1141,fu (st 127) De vN iS 626,z0,z1,sq (sv 1147 [dN,eu,pa,nR]) 0,z0,fv (st 128) Df,cp Df Df 1144 516 4 3 628 1151,fu (st 128) Df vN iS 633,z0,z1,sq (sv 1157 [dN,eu,cF,Py,pa,nR]) 0,z0,fv (st 129) Dg,cp Dg Dg 1154 523 3 3 635 1163,fu (st 129) Dg vN iS 640,z0,z1,sq (sv 1169 [pa,nR]) 0,z0,fv (st 130) Dh,cp Dh Dh 1166 532 2 3 642 1171,fu (st 130) Dh vN iS 647,z0,z1,sq (sv 1177 [dN,eu,cF,WH]) 0,z0,fv (st 131) Di,cp Di Di 1174 542 3 3 649 1181,fu (st 131) Di vN iS 654,z0,z1,sq (sv 1187 [dN,eu,Ki,WI,WH,Kj]) 0,z0,fv (st 132) Dj,cp Dj Dj 1184 550 3 3 656 1193,fu (st 132) Dj vN iS 661,z0,z1,sq (sv 1199 [dN,WI,Hk]) 0,z0,fv (st 133) Dk,cp Dk Dk 1196 564 2 3 663 1202,fu (st 133) Dk vN iS 668,z0,z1,sq (sv 1208 [dN,eu,cF,gW,Ki,CZ]) 0,z0,fv (st 134) Dl,cp Dl Dl 1205 570 3 3 670 1214,fu (st 134) Dl vN iS 675,z0,z1,sq (sv 1220 [dN,eu,cF,Py,pa,nR]) 0,z0,fv (st 135) Dm,cp Dm Dm 1217 583 3 3 677 1226,fu (st 135) Dm vN iS 682,z0,z1,sq (sv 1232 [dN,n280,n281,eu]) 0,z0,fv (st 136) Dn,cp Dn Dn 1229 592 3 3 684 1236,fu (st 136) Dn vN iS 689,z0,z1,sq (sv 1244 [gW,CC]) 0,z0,fv (st 138) Dp,cp Dp Dp 1241 598 2 3 691 1246,fu (st 138) Dp vN (vS WJ 1239) 696,z0,z1,sq (sv 1252 [gW,CC,CB]) 0,z0,fv (st 139) Dq,cp Dq Dq 1249 600 2 3 698 1255,fu (st 139) Dq vN (vS WJ 1239) 703]
noncomputable def hA11 (P:Params) (e:Str->Nat->Value->DictEntry):List Obj:=[z0,z1,fv (st 142) Ds,co Ds Ds 1262 605 3 3 705 true (vR 707),fu (st 142) Ds vN vP 708,z0,z1,sq (sv 1271 [vA,eu,CZ]) 0,z0,fv (st 143) Dt,cp Dt Dt 1268 610 2 3 710 1274,fu (st 143) Dt vN vP 715,z0,z1,sq (sv 1280 [dN,eu,iJ]) 0,z0,fv (st 144) Du,cp Du Du 1277 615 3 3 717 1283,fu (st 144) Du vN vP 722,z0,z1,sq (sv 1289 [dN,cF,pa,Qb]) 0,z0,fv (st 145) Dv,cp Dv Dv 1286 617 3 3 724 1293,fu (st 145) Dv vN vP 729,z0,z1,sq [vS iJ 1299] 0,z0,fv (st 146) Dw,cp Dw Dw 1296 627 1 3 731 1300,fu (st 146) Dw vN vP 736,z0,z1,sq (sv 1306 [dN,eu,pa,nR]) 0,z0,fv (st 147) Dy,cp Dy Dy 1303 629 4 3 738 1310,fu (st 147) Dy vN vP 743,z0,z1,sq (sv 1316 [dN,eu,Qb,vA,zt]) 0,z0,fv (st 148) Dz,cp Dz Dz 1313 641 3 3 745 1321,fu (st 148) Dz vN vP 750,z0,z1,sq (sv 1327 [gW,eu,Qb,iJ]) 0,z0,fv (st 149) DA,cp DA DA 1324 650 3 3 752 1331,fu (st 149) DA vN vP 757,z0,z1,sq (sv 1337 [dN,eu,nR,n308]) 0,z0,fv (st 150) DB,cp DB DB 1334 653 3 3 759 1341,fu (st 150) DB vN vP 764,z0,z1,fv (st 151) DC,co DC DC 1344 662 2 3 766 true (vR 768),fu (st 151) DC vN vP 769,z0,z1,sq (sv 1353 [dN,eu,nR,vA,Qc]) 0,z0,fv (st 152) DD,cp DD DD 1350 666 3 3 771 1358,fu (st 152) DD vN vP 776,z0,z1,sq [vS Cz 1364] 0,z0,fv (st 153) DE,cp DE DE 1361 680 1 3 778 1365,fu (st 153) DE vN vP 783,z0,z1,sq (sv 1371 [dN,WO,WQ,pa,nR]) 0,z0,fv (st 154) DF,cp DF DF 1368 682 3 3 785 1376,fu (st 154) DF vN vP 790,z0,z1,sq (sv 1382 [dN,pa,nR]) 0,z0,fv (st 155) DG,cp DG DG 1379 688 3 3 792 1385,fu (st 155) DG vN vP 797,z0,z1,sq (sv 1391 [dN,pa,nR]) 0,z0,fv (st 156) DH,cp DH DH 1388 694 3 3 799 1394,fu (st 156) DH vN vP 804,z0,z1,sq (sv 1400 [dN,pa,nR,Py,n312]) 0,z0,fv (st 157) DI,cp DI DI 1397 699 3 3 806 1405,fu (st 157) DI vN vP 811,z0,z1,sq (sv 1411 [dN,pa,nR,n313]) 0,z0,fv (st 158) DJ,cp DJ DJ 1408 710 3 3 813 1415,fu (st 158) DJ vN vP 818,sq [vI 1 353,vI 2 355,vI 3 357,vI 4 359,vI 5 361] 0,z0,z1,sq (sv 1426 [gW,cF,n314,iJ]) 0,z0,fv (st 162) DK,cp DK DK 1423 724 2 3 821 1430,fu (st 162) DK vN (vS n315 1418) 826]
noncomputable def hA12 (P:Params) (e:Str->Nat->Value->DictEntry):List Obj:=[z0,⟨(vT k9),none,(.fields [vX k7,vT k8].toArray),[].toArray⟩,dc k4 [e pX 1446 mH,e Hg 1448 (vS pb 1447),e sx 1450 (vI 742 1449),e qE 1458 (vR 841),e Qd 1466 (vR 848),e Qe 1474 (vR 855),e Qf 1483 (vR 862),e Qg 1492 (vR 869),e CB 1500 (vR 876),e zt 1508 (vR 883),e DL 1517 (vR 890),e DM 1526 (vR 897),e Qh 1536 (vR 904),e Qi 1545 (vR 911),e Qj 1554 (vR 918),e DN 1563 (vR 925),e Qk 1572 (vR 932),e Ql 1579 (vR 939),e Qm 1588 (vR 946),e Qn 1596 (vR 953),e Qo 1604 (vR 960),e Qp 1611 (vR 967),e sy 1616 (vR 968)] 23,z0,fl [vJ 744,vJ 4,vR 840,vJ 750,vJ 4,vR 847,vJ 753,vJ 4,vR 854,vJ 756,vJ 4,vR 861,vJ 759,vJ 4,vR 868,vJ 762,vJ 4,vR 875,vJ 765,vJ 4,vR 882,vJ 768,vJ 4,vR 889,vJ 771,vJ 4,vR 896,vJ 774,vJ 4,vR 903,vJ 777,vJ 4,vR 910,vJ 780,vJ 4,vR 917,vJ 783,vJ 4,vR 924,vJ 786,vJ 4,vR 931,vJ 789,vJ 4,vR 938,vJ 792,vJ 4,vR 945,vJ 795,vJ 4,vR 952,vJ 798,vJ 4,vR 959,vJ 801,vJ 4,vR 966],co pb pb 1441 742 0 0 831 false vN,⟨(vT k2),none,.plain,[some (vR 833),some (vR 3),some (vR 830),none,some mH,none,some (vR 0)].toArray⟩,z0,z1,sq (sv 1454 [iH,gW]) 0,z0,fv (cm 166 0) Qq,cp qE Qq 1451 744 2 3 835 1456,fu (cm 166 0) Qq vN mH 840,z0,z1,sq (sv 1462 [iH,cF]) 0,z0,fv (cm 166 1) Qr,cp Qd Qr 1459 750 2 3 842 1464,fu (cm 166 1) Qr vN mH 847,z0,z1,sq (sv 1470 [iH,iJ]) 0,z0,fv (cm 166 2) Qs,cp Qe Qs 1467 753 2 3 849 1472,fu (cm 166 2) Qs vN mH 854,z0,z1,sq (sv 1478 [iH,iJ,xT]) 0,z0,fv (cm 166 3) Qt,cp Qf Qt 1475 756 3 3 856 1481,fu (cm 166 3) Qt vN mH 861,z0,z1,sq (sv 1487 [iH,iJ,xT]) 0,z0,fv (cm 166 4) Qu,cp Qg Qu 1484 759 3 3 863 1490,fu (cm 166 4) Qu vN mH 868,z0,z1,sq (sv 1496 [iH,cF]) 0,z0,fv (cm 166 5) Qv,cp CB Qv 1493 762 2 3 870 1498,fu (cm 166 5) Qv vN mH 875,z0,z1,sq (sv 1504 [iH,cF]) 0,z0,fv (cm 166 6) Qw,cp zt Qw 1501 765 2 3 877 1506,fu (cm 166 6) Qw vN mH 882,z0,z1,sq (sv 1512 [iH,eu,cF]) 0,z0,fv (cm 166 7) Qx,cp DL Qx 1509 768 3 3 884 1515,fu (cm 166 7) Qx vN mH 889,z0,z1,sq (sv 1521 [iH,eu,cF]) 0,z0,fv (cm 166 8) Qy,cp DM Qy 1518 771 3 3 891 1524,fu (cm 166 8) Qy vN mH 896,z0,z1,sq (sv 1530 [iH,WR,n344,n345]) 0,z0,fv (cm 166 9) Qz,cp Qh Qz 1527 774 4 3 898 1534,fu (cm 166 9) Qz vN mH 903,z0,z1,sq (sv 1540 [iH,eu,cF]) 0,z0,fv (cm 166 10) QA,cp Qi QA 1537 777 3 3 905 1543,fu (cm 166 10) QA vN mH 910,z0,z1,sq (sv 1549 [iH,eu,cF]) 0,z0,fv (cm 166 11) QB,cp Qj QB 1546 780 3 3 912 1552,fu (cm 166 11) QB vN mH 917,z0,z1,sq (sv 1558 [iH,cF,xT]) 0,z0,fv (cm 166 12) QC,cp DN QC 1555 783 3 3 919 1561,fu (cm 166 12) QC vN mH 924,z0,z1,sq (sv 1567 [iH,eu,n350]) 0,z0,fv (cm 166 13) QD,cp Qk QD 1564 786 3 3 926 1570,fu (cm 166 13) QD vN mH 931,z0,z1,sq [vS iH 1576] 0,z0,fv (cm 166 14) QE,cp Ql QE 1573 789 1 3 933 1577,fu (cm 166 14) QE vN mH 938,z0,z1,sq (sv 1583 [iH,cF,CA]) 0,z0,fv (cm 166 15) QF,cp Qm QF 1580 792 3 3 940 1586,fu (cm 166 15) QF vN mH 945,z0,z1,sq (sv 1592 [iH,cF]) 0,z0,fv (cm 166 16) QG,cp Qn QG 1589 795 2 3 947 1594,fu (cm 166 16) QG vN mH 952,z0,z1,sq (sv 1600 [iH,n355]) 0,z0,fv (cm 166 17) QH,cp Qo QH 1597 798 2 3 954 1602,fu (cm 166 17) QH vN mH 959,z0,z1,sq [vS iH 1608] 0,z0,fv (cm 166 18) QI,cp Qp QI 1605 801 1 3 961 1609,fu (cm 166 18) QI vN mH 966,sq (sv 1612 [P_,WU,WV,gW]) 0,dc k4 [e pX 1446 mH,e sx 1450 (vI 742 1449),e qE 1458 (vR 841),e Qd 1466 (vR 848),e Qe 1474 (vR 855),e Qf 1483 (vR 862),e Qg 1492 (vR 869),e CB 1500 (vR 876),e zt 1508 (vR 883),e DL 1517 (vR 890),e DM 1526 (vR 897),e Qh 1536 (vR 904),e Qi 1545 (vR 911),e Qj 1554 (vR 918),e DN 1563 (vR 925),e Qk 1572 (vR 932),e Ql 1579 (vR 939),e Qm 1588 (vR 946),e Qn 1596 (vR 953),e Qo 1604 (vR 960),e Qp 1611 (vR 967),e sy 1616 (vR 968),e HO 1618 (vR 971),e Ew 1620 (vR 972),e n7 1621 vN] 4,⟨(vT k8),none,(.cls (ue pb [vT lz] [vR 970,vT lz] 969 pb true [] [vR 1005] false none false)),[none,none,some (vS pb 1439),some (vS pb 1447),some (vX xZ),some (vB true)].toArray⟩,⟨(vT Hh),none,(.fields [vS HO 1617,vR 970,vX Wc,vX We].toArray),[].toArray⟩,⟨(vT Hh),none,(.fields [vS Ew 1619,vR 970,vX Sa,vN].toArray),[].toArray⟩,⟨(vT Hi),none,(.fields [vR 970,vR 970,vR 970].toArray),[].toArray⟩,⟨(vT k9),none,(.fields [vX wm,vR 970].toArray),[].toArray⟩]
noncomputable def hA13 (P:Params) (e:Str->Nat->Value->DictEntry):List Obj:=[sq [vR 970] 0,⟨(vT k9),none,(.fields [vX k7,vT k8].toArray),[].toArray⟩,dc k4 [e pX 1631 mH,e Hg 1633 (vS pd 1632),e sx 1635 (vI 803 1634),e zt 1643 (vR 988),e DL 1652 (vR 995),e DM 1661 (vR 1002),e sy 1662 (vR 1003)] 7,z0,fl [vJ 805,vJ 4,vR 987,vJ 808,vJ 4,vR 994,vJ 811,vJ 4,vR 1001],co pd pd 1626 803 0 0 978 false vN,⟨(vT k2),none,.plain,[some (vR 980),some (vR 3),some (vR 977),none,some mH,none,some (vR 0)].toArray⟩,z0,z1,sq (sv 1639 [iH,cF]) 0,z0,fv (cm 167 0) QJ,cp zt QJ 1636 805 2 3 982 1641,fu (cm 167 0) QJ vN mH 987,z0,z1,sq (sv 1647 [iH,eu,cF]) 0,z0,fv (cm 167 1) QK,cp DL QK 1644 808 3 3 989 1650,fu (cm 167 1) QK vN mH 994,z0,z1,sq (sv 1656 [iH,eu,cF]) 0,z0,fv (cm 167 2) QL,cp DM QL 1653 811 3 3 996 1659,fu (cm 167 2) QL vN mH 1001,z0,dc k4 [e pX 1631 mH,e sx 1635 (vI 803 1634),e zt 1643 (vR 988),e DL 1652 (vR 995),e DM 1661 (vR 1002),e sy 1662 (vR 1003),e n7 1663 vN] 2,⟨(vT k8),none,(.cls (ue pd [vR 970] [vR 1005,vR 970,vT lz] 1004 pd true [] [vR 1079] false none false)),[some (vR 975),none,some (vS pd 1624),some (vS pd 1632),some (vX xZ),some (vB true)].toArray⟩,⟨(vT Hi),none,(.fields [vR 1005,vR 1005,vR 1005].toArray),[].toArray⟩,⟨(vT k9),none,(.fields [vX wm,vR 1005].toArray),[].toArray⟩,z0,z1,fv (st 169) DO,co DO DO 1668 814 3 3 1008 true (vR 1010),fu (st 169) DO vN LZ 1011,z0,z1,sq (sv 1677 [vA,Wj,xT]) 0,z0,fv (st 170) DP,cp DP DP 1674 816 3 3 1013 1680,fu (st 170) DP vN LZ 1018,z0,z1,fv (st 171) DQ,co DQ DQ 1683 818 3 3 1020 true (vR 1022),fu (st 171) DQ vN LZ 1023,z0,z1,fv (st 172) DR,co DR DR 1689 824 3 3 1025 true (vR 1027),fu (st 172) DR vN LZ 1028,z0,z1,fv (st 173) DS,co DS DS 1695 830 4 3 1030 true (vR 1032),fu (st 173) DS vN LZ 1033,z0,z1,sq (sv 1704 [xT,WR,WW,CC]) 0,z0,fv (st 174) DT,cp DT DT 1701 835 2 3 1035 1708,fu (st 174) DT vN LZ 1040,z0,z1,sq (sv 1714 [vA,cF,iJ,xT,WW]) 0,z0,fv (st 175) DU,cp DU DU 1711 841 4 3 1042 1719,fu (st 175) DU vN LZ 1047,z0,z1,sq (sv 1725 [vA,cF,xT,iJ]) 0,z0,fv (st 176) DV,cp DV DV 1722 856 3 3 1049 1729,fu (st 176) DV vN LZ 1054]
noncomputable def hA14 (P:Params) (e:Str->Nat->Value->DictEntry):List Obj:=[sq [vR 1005] 0,⟨(vT k9),none,(.fields [vX k7,vT k8].toArray),[].toArray⟩,dc k4 [e pX 1741 Sd,e Hg 1743 (vS vC 1742),e sx 1745 (vI 874 1744),e qE 1753 (vR 1069),e DN 1762 (vR 1076),e sy 1767 (vR 1077)] 6,z0,fl [vJ 876,vJ 4,vR 1068,vJ 882,vJ 4,vR 1075],co vC vC 1736 874 0 0 1059 false vN,⟨(vT k2),none,.plain,[some (vR 1061),some (vR 3),some (vR 1058),none,some Sd,none,some (vR 0)].toArray⟩,z0,z1,sq (sv 1749 [iH,gW]) 0,z0,fv (cm 178 0) QM,cp qE QM 1746 876 2 3 1063 1751,fu (cm 178 0) QM vN Sd 1068,z0,z1,sq (sv 1757 [iH,cF,xT]) 0,z0,fv (cm 178 1) QN,cp DN QN 1754 882 3 3 1070 1760,fu (cm 178 1) QN vN Sd 1075,sq (sv 1763 [P_,WU,WV,gW]) 0,dc k4 [e pX 1741 Sd,e sx 1745 (vI 874 1744),e qE 1753 (vR 1069),e DN 1762 (vR 1076),e sy 1767 (vR 1077),e n7 1768 vN] 2,⟨(vT k8),none,(.cls (ue vC [vR 1005] [vR 1079,vR 1005,vR 970,vT lz] 1078 vC true [] [] false none false)),[some (vR 1056),none,some (vS vC 1734),some (vS vC 1742),some (vX xZ),some (vB true)].toArray⟩,⟨(vT Hi),none,(.fields [vR 1079,vR 1079,vR 1079].toArray),[].toArray⟩,⟨(vT k9),none,(.fields [vX wm,vR 1079].toArray),[].toArray⟩,sq [vR 455] 0,⟨(vT k9),none,(.fields [vX k7,vT k8].toArray),[].toArray⟩,dc k4 [e pX 1780 Ed,e Hg 1782 (vS vD 1781),e sx 1784 (vI 885 1783),e C0 1794 (vR 1095),e sy 1795 (vR 1096)] 5,z0,fl [vJ 887,vJ 4,vR 1094],co vD vD 1775 885 0 0 1085 false vN,⟨(vT k2),none,.plain,[some (vR 1087),some (vR 3),some (vR 1084),none,some Ed,none,some (vR 0)].toArray⟩,z0,z1,sq (sv 1788 [iH,dN,eu,cF]) 0,z0,fv (cm 180 0) QO,cp C0 QO 1785 887 4 3 1089 1792,fu (cm 180 0) QO vN Ed 1094,z0,dc k4 [e pX 1780 Ed,e sx 1784 (vI 885 1783),e C0 1794 (vR 1095),e sy 1795 (vR 1096),e n7 1796 vN] 2,⟨(vT k8),none,(.cls (ue vD [vR 455] [vR 1098,vR 455,vT lz] 1097 vD true [] [] false none false)),[some (vR 1082),none,some (vS vD 1773),some (vS vD 1781),some (vX xZ),some (vB true)].toArray⟩,⟨(vT Hi),none,(.fields [vR 1098,vR 1098,vR 1098].toArray),[].toArray⟩,⟨(vT k9),none,(.fields [vX wm,vR 1098].toArray),[].toArray⟩,z0,z1,sq (sv 1802 [dN,eu,cF,iJ,CB]) 0,z0,fv (st 181) DW,cp DW DW 1799 889 3 3 1101 1807,fu (st 181) DW vN Ed 1106,z0,z1,sq [vS dN 1813] 0,z0,fv (st 182) DX,cp DX DX 1810 895 1 3 1108 1814,fu (st 182) DX vN Ed 1113,z0,z1,z0,z0,fv (st 184) DY,cp DY DY 1819 898 0 3 1115 1822,fu (st 184) DY vN vO 1120]
noncomputable def hA15 (P:Params) (e:Str->Nat->Value->DictEntry):List Obj:=[dc k4 [] 0,dc k4 [e xU 1825 (vR 1124)] 1,sq [vI 32 1826,vB false,vB false] 0,dc k4 [e xU 1828 (vR 1126),e DZ 1830 (vR 1127)] 2,sq [vI 32 1829,vB true,vB false] 0,sq [vI 1 1831,vB false,vB true] 0,dc k4 [e xU 1834 (vR 1129),e DZ 1836 (vR 1130)] 2,sq [vI 33 1835,vB false,vB true] 0,sq [vI 32 1837,vB true,vB true] 0,⟨(vT k20),none,(.seq [vR 1122,vR 1123,vR 1125,vR 1128].toArray 0),[].toArray⟩]
noncomputable def hA16 (P:Params) (e:Str->Nat->Value->DictEntry):List Obj:=[z0,z1,z0,z0,fv (st 186) D1,cp D1 D1 1841 901 0 3 1132 1844,fu (st 186) D1 vN vO 1137,z0,z1,sq (sv 1850 [n402,n403]) 0,z0,fv (st 187) D2,cp D2 D2 1847 903 2 3 1139 1852,fu (st 187) D2 vN vO 1144,z0,z1,sq (sv 1858 [Hk,WY,PC,WZ,Qc,Wi,Hj]) 0,z0,fv (st 188) D3,cp D3 D3 1855 905 5 3 1146 1865,fu (st 188) D3 vN vO 1151,z0,z1,sq (sv 1871 [n406,n407]) 0,z0,fv (st 189) D4,cp D4 D4 1868 909 1 3 1153 1873,fu (st 189) D4 vN vO 1158,z0,z1,fv (st 190) D5,co D5 D5 1876 912 4 3 1160 true (vR 1162),fu (st 190) D5 vN vO 1163,z0,z1,fv (st 191) D6,co D6 D6 1882 919 1 3 1165 true (vR 1167),fu (st 191) D6 vN vO 1168,z0,z1,sq (sv 1891 [n408,n409,Qa,CA,CZ,Hj,QP]) 0,z0,fv (st 192) D7,cp D7 D7 1888 924 2 3 1170 1898,fu (st 192) D7 vN vO 1175,z0,z1,fv (st 193) D8,co D8 D8 1901 937 1 3 1177 true (vR 1179),fu (st 193) D8 vN vO 1180,z0,z1,sq (sv 1910 [n411,n412,Hk,WY,PC,WZ,Qc,n413,Qa,CA,CZ,Hj,QP,Kg]) 0,z0,fv (st 194) D9,cp D9 D9 1907 947 2 3 1182 1924,fu (st 194) D9 vN vO 1187,z0,z1,sq (sv 1930 [QQ,QR,n57,CA,CZ,Hj,QP,WQ,n416,n417,WO,n418]) 0,z0,fv (st 195) D_,cp D_ D_ 1927 965 2 3 1189 1942,fu (st 195) D_ vN vO 1194,z0,z1,sq (sv 1948 [QQ,QR,n419]) 0,z0,fv (st 196) Ea,cp Ea Ea 1945 986 2 3 1196 1951,fu (st 196) Ea vN vO 1201,z0,z1,sq (sv 1957 [QQ,QR]) 0,z0,fv (st 197) Eb,cp Eb Eb 1954 995 2 3 1203 1959,fu (st 197) Eb vN vO 1208,z0,z1,sq (sv 1965 [n420,Yt]) 0,z0,fv (st 198) Ec,cp Ec Ec 1962 1001 2 3 1210 1967,fu (st 198) Ec vN vO 1215,z0,z1,fv (st 199) Hl,co Hl Hl 1970 1003 1 3 1217 true (vR 1219),fu (st 199) Hl vN vO 1220]
noncomputable def x_ (P:Params) (e:Str->Nat->Value->DictEntry):List Obj:=hA1 P e++(hA2 P e++(hA3 P e++(hA4 P e++(hA5 P e++(hA6 P e++(hA7 P e++(hA8 P e++(hA9 P e++(hA10 P e++(hA11 P e++(hA12 P e++(hA13 P e++(hA14 P e++(hA15 P e++(hA16 P e)))))))))))))))
noncomputable def T1 (P:Params):BT:=let e:=en P;vM 12 (((((x_ P e).take 15).set 2 (b2 P)).set 3 (b3 P)).set 12 (z1))
noncomputable def T2 (P:Params):BT:=let e:=en P;vM 12 (((((x_ P e).take 63).set 3 (zv P e uf 18 19)).set 12 (fl (zu.take 9))).set 39 (⟨(vT k8),none,(.cls (ue Cn [vT k6] [vR 39,vT k6,vT Yr,vT lz] 38 Cn true [] [vR 60] false none false)),[some (vR 22),none,some (vS Cn 210),some (vS Cn 218),some (vX Ys),some (vB true)].toArray⟩))
noncomputable def T3 (P:Params):BT:=let e:=en P;vM 12 ((((x_ P e).take 125).set 3 (zv P e jg 28 29)).set 12 (fl (zu.take 15)))
noncomputable def T4 (P:Params):BT:=let e:=en P;vM 12 ((((x_ P e).take 150).set 3 (zv P e jg 65 66)).set 12 (fl (zu.take 15)))
noncomputable def T5 (P:Params):BT:=let e:=en P;vM 12 ((((x_ P e).take 156).set 3 (zv P e jg 66 67)).set 12 (fl (zu.take 15)))
noncomputable def T6 (P:Params):BT:=let e:=en P;vM 12 ((((x_ P e).take 265).set 3 (zv P e jg 77 78)).set 12 (fl (zu.take 48)))
noncomputable def T7 (P:Params):BT:=let e:=en P;vM 12 ((((x_ P e).take 405).set 3 (zv P e iS 99 100)).set 12 (fl (zu.take 114)))
noncomputable def T8 (P:Params):BT:=let e:=en P;vM 12 (((((x_ P e).take 460).set 3 (zv P e iS 117 118)).set 12 (fl (zu.take 117))).set 455 (⟨(vT k8),none,(.cls (ue jD [vT lz] [vR 455,vT lz] 454 jD true [] [] false none false)),[none,none,some QS,some LY,some (vX xZ),some (vB true)].toArray⟩))
noncomputable def T9 (P:Params):BT:=let e:=en P;vM 12 (((((x_ P e).take 572).set 3 (zv P e iS 125 126)).set 12 (fl (zu.take 141))).set 455 (⟨(vT k8),none,(.cls (ue jD [vT lz] [vR 455,vT lz] 454 jD true [] [] false none false)),[none,none,some QS,some LY,some (vX xZ),some (vB true)].toArray⟩))
noncomputable def T10 (P:Params):BT:=let e:=en P;vM 12 (((((x_ P e).take 705).set 3 (zv P e vP 145 146)).set 12 (fl (zu.take 198))).set 455 (⟨(vT k8),none,(.cls (ue jD [vT lz] [vR 455,vT lz] 454 jD true [] [] false none false)),[none,none,some QS,some LY,some (vX xZ),some (vB true)].toArray⟩))
noncomputable def T11 (P:Params):BT:=let e:=en P;vM 12 (((((x_ P e).take 828).set 3 (zv P e mH 167 168)).set 12 (fl (zu.take 252))).set 455 (⟨(vT k8),none,(.cls (ue jD [vT lz] [vR 455,vT lz] 454 jD true [] [] false none false)),[none,none,some QS,some LY,some (vX xZ),some (vB true)].toArray⟩))
noncomputable def T12 (P:Params):BT:=let e:=en P;vM 12 ((((((x_ P e).take 975).set 3 (zv P e mH 168 169)).set 12 (fl (zu.take 255))).set 455 (⟨(vT k8),none,(.cls (ue jD [vT lz] [vR 455,vT lz] 454 jD true [] [] false none false)),[none,none,some QS,some LY,some (vX xZ),some (vB true)].toArray⟩)).set 970 (⟨(vT k8),none,(.cls (ue pb [vT lz] [vR 970,vT lz] 969 pb true [] [] false none false)),[none,none,some (vS pb 1439),some (vS pb 1447),some (vX xZ),some (vB true)].toArray⟩))
noncomputable def T13 (P:Params):BT:=let e:=en P;vM 12 ((((((x_ P e).take 1056).set 3 (zv P e Sd 177 178)).set 12 (fl (zu.take 282))).set 455 (⟨(vT k8),none,(.cls (ue jD [vT lz] [vR 455,vT lz] 454 jD true [] [] false none false)),[none,none,some QS,some LY,some (vX xZ),some (vB true)].toArray⟩)).set 1005 (⟨(vT k8),none,(.cls (ue pd [vR 970] [vR 1005,vR 970,vT lz] 1004 pd true [] [] false none false)),[some (vR 975),none,some (vS pd 1624),some (vS pd 1632),some (vX xZ),some (vB true)].toArray⟩))
noncomputable def W0 (P:Params):BT:=let e:=en P;vM 12 ((((x_ P e).take 1122).set 3 (zv P e vO 182 183)).set 12 (fl (zu.take 297)))
noncomputable def W3 (P:Params):BT:=let e:=en P;vM 12 ((((x_ P e).take 1132).set 3 (zv P e vO 183 184)).set 12 (fl (zu.take 297)))
noncomputable def hF (P:Params):List Obj:=let e:=en P;x_ P e
noncomputable def T16 (P:Params):BT:=vM 12 (hF P)
noncomputable def QT:List Nat->Nat->List Obj->List (Addr×Obj)
 |i::is,k,o::r=>bif Nat.beq i k then(k,o)::QT is (k+1) r else QT (i::is) (k+1) r
 |_,_,_=>[]
abbrev hX (T:BT) (n t:Nat) (os:OsState):SharedT:=⟨T,n,lf,#[],dr,t,os⟩
abbrev sE (w:World) (os:OsState) (T T':Params->BT) (a n t i j:Nat) (p:Pos) (n' t':Nat) (p':Pos):Prop:=SR TT P0 w 11 zr 1 a (hX (T w.params) n t os) (piecesOf (xS i j) r_ cE p B0)=some (.next,hX (T' w.params) n' t' os,cE,p')
abbrev hRn (w:World) (os:OsState) (T T':Params->BT) (a n t i j:Nat) (p:Pos) (n' t':Nat) (p':Pos):Prop:=segRunT treeTable P0 w 11 zr 1 a (hX (T w.params) n t os) (piecesOf (xS i j) r_ cE p B0)=some (.next,hX (T' w.params) n' t' os,cE,p')
theorem zw{w:World}{os:OsState}{T T':Params->BT}{a n t i j:Nat}{p:Pos}{n' t':Nat}{p':Pos}(h:sE w os T T' a n t i j p n' t' p'):hRn w os T T' a n t i j p n' t' p':=by unfold hRn;rw[PySem.W.Fast.te10110043849684766642,PySem.W.Fast.te14364793385576792824];exact h
theorem QU(w:World)(os:OsState):sE w os T1 T2 583 15 187 0 11 ⟨0,0,0,0⟩ 63 270 ⟨17,0,21,24⟩:=by kernel_rfl
theorem QV(w:World)(os:OsState):sE w os T2 T3 649 63 270 11 11 ⟨17,0,21,24⟩ 125 369 ⟨51,0,51,5⟩:=by kernel_rfl
theorem QW(w:World)(os:OsState):sE w os T3 T4 452 125 369 22 37 ⟨51,0,51,5⟩ 150 461 ⟨88,0,88,11⟩:=by kernel_rfl
theorem Kk(w:World)(os:OsState):sE (w.withFollow "special-get-raises" false) os T4 T5 96 150 461 59 1 ⟨88,0,88,11⟩ 156 477 ⟨89,0,89,9⟩:=by kernel_rfl
theorem Kl(w:World)(os:OsState):sE (w.withFollow "special-get-raises" true) os T4 T5 96 150 461 59 1 ⟨88,0,88,11⟩ 156 477 ⟨89,0,89,9⟩:=by kernel_rfl
theorem QX(w:World)(os:OsState):sE w os T4 T5 96 150 461 59 1 ⟨88,0,88,11⟩ 156 477 ⟨89,0,89,9⟩:=
 byRow2 "special-get-raises" (P:=λw=>∀os,sE w os T4 T5 96 150 461 59 1 ⟨88,0,88,11⟩ 156 477 ⟨89,0,89,9⟩) Kk Kl w os
theorem QY(w:World)(os:OsState):sE w os T5 T6 639 156 477 60 11 ⟨89,0,89,9⟩ 265 641 ⟨165,0,171,15⟩:=by kernel_rfl
theorem QZ(w:World)(os:OsState):sE w os T6 T7 651 265 641 71 23 ⟨165,0,171,15⟩ 405 814 ⟨317,0,317,8⟩:=by kernel_rfl
theorem Q0(w:World)(os:OsState):sE w os T7 T8 569 405 814 94 18 ⟨317,0,317,8⟩ 460 912 ⟨335,0,350,16⟩:=by kernel_rfl
theorem Q1(w:World)(os:OsState):sE w os T8 T9 650 460 912 112 8 ⟨335,0,350,16⟩ 572 1070 ⟨427,0,448,17⟩:=by kernel_rfl
theorem Km(w:World)(os:OsState):sE w os T9 T10 640 572 1070 120 22 ⟨427,0,448,17⟩ 705 1262 ⟨604,0,604,6⟩:=by kernel_rfl
theorem Kn(w:World)(os:OsState):sE w os T10 T11 624 705 1262 142 24 ⟨604,0,604,6⟩ 828 1439 ⟨741,0,741,11⟩:=by kernel_rfl
theorem Ko(w:World)(os:OsState):sE w os T11 T12 811 828 1439 166 1 ⟨741,0,741,11⟩ 975 1624 ⟨742,0,802,17⟩:=by kernel_rfl
theorem Kp(w:World)(os:OsState):sE w os T12 T13 561 975 1624 167 11 ⟨742,0,802,17⟩ 1056 1734 ⟨873,0,873,8⟩:=by kernel_rfl
theorem Kq(w:World)(os:OsState):sE w os T13 W0 650 1056 1734 178 7 ⟨873,0,873,8⟩ 1122 1825 ⟨898,0,899,48⟩:=by kernel_rfl
theorem Hm(w:World)(os:OsState):sE (w.withFollow "special-get-raises" false) os W0 W3 104 1122 1825 185 1 ⟨898,0,899,48⟩ 1132 1841 ⟨900,0,900,11⟩:=by kernel_rfl
theorem Hn(w:World)(os:OsState):sE (w.withFollow "special-get-raises" true) os W0 W3 104 1122 1825 185 1 ⟨898,0,899,48⟩ 1132 1841 ⟨900,0,900,11⟩:=by kernel_rfl
theorem Kr(w:World)(os:OsState):sE w os W0 W3 104 1122 1825 185 1 ⟨898,0,899,48⟩ 1132 1841 ⟨900,0,900,11⟩:=
 byRow2 "special-get-raises" (P:=λw=>∀os,sE w os W0 W3 104 1122 1825 185 1 ⟨898,0,899,48⟩ 1132 1841 ⟨900,0,900,11⟩) Hm Hn w os
theorem Ks(w:World)(os:OsState):sE w os W3 T16 436 1132 1841 186 14 ⟨900,0,900,11⟩ 1222 1976 ⟨1003,0,1055,15⟩:=by kernel_rfl
theorem Kt:bE=xS 0 11++(xS 11 11++(xS 22 37++(xS 59 1++(xS 60 11++(xS 71 23++(xS 94 18++(xS 112 8++(xS 120 22++(xS 142 24++(xS 166 1++(xS 167 11++(xS 178 7++(xS 185 1++(xS 186 14++([]))))))))))))))):=by kernel_rfl
def Ha(P:Params):Heap:=⟨[b0 P,b1 P,b2 P,b3 P,b4 P,b5 P,b6 P,b7 P,b8 P,b9 P,b10 P,(z0),(z1),(co n0 n0 182 1 0 0 11 false vN),(⟨(vT k2),none,.plain,[some (vR 13),some (vR 3),some (vR 3),none,some (vS n2 164),none,some (vR 0)].toArray⟩)].toArray,lf⟩
def Hf(P:Params):Heap:=absHeap (T16 P) 1222 lf
theorem Ku(w:World)(os:OsState):topGo treeTable P0 w 11 zr 12 ⟨boot_heap w.params,#[],boot_drawn,boot_toks,os⟩ (topStub P0)=
  some (⟨Ha w.params,#[],dr,187,os⟩,⟨denote treeTable (.body bE r_),cE,⟨0,0,0,0⟩,B0⟩):=by
 rw[PySem.W.Fast.te15667345088766844465,PySem.W.Fast.te14364793385576792824,PySem.W.Fast.te11892475500146522536];kernel_rfl
theorem Ee(w:World)(os:OsState):segRun treeTable P0 w 11 zr 1 1 ⟨Ha w.params,#[],dr,187,os⟩ (blockOf bE r_ cE ⟨0,0,0,0⟩ B0)=
  some (.next,SharedT.abs ⟨T1 w.params,15,lf,#[],dr,187,os⟩,cE,⟨0,0,0,0⟩):=by
 rw[PySem.W.Fast.te14374325043358763698,PySem.W.Fast.te14364793385576792824];kernel_rfl
theorem Kv(w:World)(os:OsState):topRun treeTable P0 w 11 zr 2 (SharedT.abs ⟨T16 w.params,1222,lf,#[],dr,1976,os⟩) ⟨doneF .next,cE,⟨1003,0,1055,15⟩,B0⟩=
  some ⟨Hf w.params,#[],dr,1976,os⟩:=by kernel_rfl
abbrev M0:Nat:=(12+(1+(583+(649+(452+(96+(639+(651+(569+(650+(640+(624+(811+(561+(650+(104+(436+2)))))))))))))))))
theorem Kw(w:World)(os:OsState):topRun treeTable P0 w 11 zr M0 ⟨boot_heap w.params,#[],boot_drawn,boot_toks,os⟩ (topStub P0)=some ⟨Hf w.params,#[],dr,1976,os⟩:=by refine go_top (Ku w os) (piece_block (Ee w os) ?_);rw[Kt];refine piece_app (segRun_of (zw (QU w os))) ?_;refine piece_app (segRun_of (zw (QV w os))) ?_;refine piece_app (segRun_of (zw (QW w os))) ?_;refine piece_app (segRun_of (zw (QX w os))) ?_;refine piece_app (segRun_of (zw (QY w os))) ?_;refine piece_app (segRun_of (zw (QZ w os))) ?_;refine piece_app (segRun_of (zw (Q0 w os))) ?_;refine piece_app (segRun_of (zw (Q1 w os))) ?_;refine piece_app (segRun_of (zw (Km w os))) ?_;refine piece_app (segRun_of (zw (Kn w os))) ?_;refine piece_app (segRun_of (zw (Ko w os))) ?_;refine piece_app (segRun_of (zw (Kp w os))) ?_;refine piece_app (segRun_of (zw (Kq w os))) ?_;refine piece_app (segRun_of (zw (Kr w os))) ?_;refine piece_app (segRun_of (zw (Ks w os))) ?_;exact piece_nil (Kv w os)
end
noncomputable section
def q0:Program:={P0 with main:={P0.main with body:=[st 199]}}
def pf:List Str:=[R8,XU,n17,n18,n19,n20,n21,n22,Cn,Kb,Kc,Kd,n41,n42,n43,n44,n45,n46,n47,n48,n62,n63,n64,n65,n66,n67,n68,n69,n70,n71,n72,n73,n74,n75,n76,n77,n78,n79,n80,n81,n82,n83,n84,n85,n86,n87,n88,n89,n90,n91,n92,n93,n94,n95,n96,n97,n98,Wf,vx,Co,Cp,Cq,Cr,Cs,Ct,Cu,Cv,Cw,Cy,CD,CE,CF,CG,CH,CI,CJ,CK,CL,CM,CN,CO,CP,CQ,CR,CS,CT,CU,CV,CW,CX,CY,Wk,Wl,Wm,Wn,Wo,Wq,Wr,Wt,Wu,Wv,Ww,Wx,Wy,Wz,WA,WB,WC,jD,vz,C1,C2,C3,C4,C5,C6,C7,C8,vy,C9,C_,C',Dc,Dd,De,Df,Dg,Dh,Di,Dj,Dk,Dl,Dm,Dn,Dp,Dq,WG,Ds,Dt,Du,Dv,Dw,Dy,Dz,DA,DB,DC,DD,DE,DF,DG,DH,DI,DJ,WK,WL,DK,WM,WN,pb,pd,DO,DP,DQ,DR,DS,DT,DU,DV,vC,vD,DW,DX,DY,WX,D1,D2,D3,D4,D5,D6,D7,D8,D9,D_,Ea,Eb,Ec]
def Xt0:Shared->Bool:=λ_=>true
theorem W4(w:World)(os:OsState):(staticsOk (importedModules P0.main.body) (boot_heap w.params) (Hf w.params)&&namesBound P0 (Hf w.params)&&gensDone ⟨Hf w.params,#[],dr,1976,os⟩&&laidKept (boot_heap w.params) (Hf w.params))=true:=by rw[PySem.W.Fast.te5923862056798008813];kernel_rfl
theorem W5(w:World)(os:OsState):openSeen q0 pf (importedModules P0.main.body) Xt0 true ⟨Hf w.params,#[],dr,1976,os⟩=openGood q0 pf:=by rw[PySem.W.Fast.te4187177175401517315,PySem.W.Fast.te5923862056798008813];kernel_rfl
end
noncomputable section
theorem Ho:opening P0=plainProg P0.main.scope.names:=by kernel_rfl
theorem Q2(s:Shared):fenceModules? P0 s=some s:=by kernel_rfl
abbrev N0:Nat:=20000
theorem W6:∀w:World,(fencedOpening treeTable P0 w N0).map (λs=>(s.heap,s.gens,s.drawn,s.toks))=some (boot_heap w.params,Array.mk [],boot_drawn,boot_toks):=boot_open Ho (by decide+kernel) Q2
theorem W7:∀w:World,((boot_heap w.params).isNs mainGlobals&&(Array.mk []:Array GenState).size==0,(boot_heap w.params).objs.size,(boot_heap w.params).nsMap mainGlobals "__annotations__")=(true,11,zr):=by intro w;kernel_rfl
theorem W8:LeftO P0 q0 pf Xt0 (λs=>s.heap) (λw=>Hf w.params) N0:=
 LeftO.of_pieces W6 W7 Kw (by decide+kernel) λw=>funext λos=>looks_pair (W4 w os) (looks_pair (W5 w os) rfl)
def W9(s:Stmt):DefRec:=match s with
 | .FunctionDef name args body _ _ _ scope _ _ pos=>{name:=name,params:=args,body:=body,scope:=scope,pos:=pos}
 |_=>{name:="",params:=⟨[],[],none,[],[],none,[]⟩,body:=[],scope:={kind:= .function,names:=[],isGenerator:=false,isCoroutine:=false,more:=[]},pos:=default}
def d0:DefRec:=W9 (st 199)
theorem def0:defOf q0 PySem.Challenge.rw_qd0089_01.row.name=some (d0,[]):=by kernel_rfl
theorem Kx:PySem.Challenge.rw_qd0089_01.row.prog.theDef PySem.Challenge.rw_qd0089_01.row.name=some (d0.params,d0.body,d0.scope):=by rw[PySem.W.Fast.te10235530238920679567];kernel_rfl
theorem Kz:PySem.Challenge.rw_qd0089_01.row.prog.tablesWhole=true:=by kernel_rfl
abbrev YP0 (w:World) (h:Heap):Prop:=∀b o,(Hf w.params).get? b=some o->h.get? b=some o
theorem Ef(k:PySem.Challenge.rw_qd0089_01.row.wellSaid=true)(call:WalkO q0 pf (λ_ _=>True) YP0 PySem.Challenge.rw_qd0089_01.row.toRowW d0 [] λf vs=>PySem.call f vs):
  PySem.Challenge.rw_qd0089_01.row.Holds:=by
 refine holds_open (q:=q0) (loose:=pf) (Xt:=Xt0) (XP:=λ_ _=>True) (Yf:=λs=>s.heap) (Ya:=λw=>Hf w.params)
  (YP:=YP0) (d:=d0) (kwd:=[]) (N:=N0) W8 (λw s e b o x=>e▸x) (λw h h' y k b o x=>k _ _ (y b o x))
  (λ_ _=>trivial) (λ_ _ _ _ _=>trivial) def0 Kx ?_ (λs _=>recFacts_of rfl) ?_ k ?_ ?_ ?_ call
 ·kernel_rfl
 ·rfl
 ·kernel_rfl
 ·exact⟨rfl,rfl,rfl,rfl,rfl,Kz⟩
 ·w_witness2
end
noncomputable section
theorem said:PySem.Challenge.rw_qd0089_01.wellSaid=true:=by
 delta OpenLaw.wellSaid
 iterate 18 (refine look_both ?_ ?_)
 delta OpenRow.wellSaid
 iterate 2 (refine look_both ?_ ?_)
 delta OpenRow.partSaid
 iterate 13 (refine look_both ?_ ?_)
 delta looksOpen
 iterate 5 (refine look_both ?_ ?_)
 all_goals as_aux_lemma=>((try rw[PySem.W.Fast.te11788848310118352699]);(try rw[PySem.W.Fast.te9807087744658564304]);(try rw[PySem.W.Fast.te12862048085361865435]);(try rw[PySem.W.Fast.te8377067652309620493]);(try rw[PySem.W.Fast.te8326940854005059898]);(try rw[PySem.W.Fast.te17119622794617984870]);(try rw[PySem.W.Fast.te17868728402115742887]);(try rw[PySem.W.Fast.te10501279942588096481]);(try rw[PySem.W.Fast.te8179353310426384613]);(try rw[PySem.W.Fast.te9558739934217749035]);(try rw[PySem.W.Fast.te16286561074155671207]);(try rw[PySem.W.Fast.te14412699480532031325]);(try rw[PySem.W.Fast.te18344453789297297638]);(try rw[PySem.W.Fast.te797321630700447069]);(try rw[PySem.W.Fast.te10792542408131684335]);(try rw[PySem.W.Fast.te12879404354523853263]);(try rw[PySem.W.Fast.te12749700546528644094]);(try rw[PySem.W.Fast.te17691160309236699985]);(try rw[PySem.W.Fast.te5923862056798008813]);(try rw[PySem.W.Fast.te13343964577679436407]);(try rw[PySem.W.Fast.te13582783067957832011]);(try rw[PySem.W.Fast.te5318747976498570220]);(try rw[PySem.W.Fast.te482687673346738481]);(try rw[PySem.W.Fast.te6984425678791042302]);(try rw[PySem.W.Fast.named_eq]);kernel_rfl)
end
end

section
set_option genInjectivity true in
inductive D where
 |none
 |bool (b:Bool)
 |int (i:Int)
 |str (s:List Nat)
 |tup (l:List D)
 |lst (l:List D)
 |gP (l:List (D×D))
 |cin (C:Nat)
 |nX (n:Int)
 deriving Inhabited
set_option genCtorIdx false
inductive PV where
 |d (x:D)
 |ax (n:Nat)
 |aI (n:Nat)
 deriving Inhabited
inductive MO where
 |list (l:List D)
 |dict (l:List (D×D))
 |inst (C:Nat) (fs:List (Nat×PV))
 |dead
 deriving Inhabited
inductive TO where
 |list (l:List D)
 |dict (l:List (D×D))
 |dead
 deriving Inhabited
structure PS where
 pm:List MO
 tm:List TO
abbrev Spec:=List PV->List MO->List TO->Option (PV×List MO×List TO)
set_option genCtorIdx true in
inductive mL|add|sub|mul|fdiv|mod|band|bor|pow deriving DecidableEq
set_option genCtorIdx true in
inductive si|eq|ne|lt|le|gt|ge|is|Rg|isin|eW deriving DecidableEq
set_option genCtorIdx true in
inductive BI|len|sorted|tuple|range deriving DecidableEq
mutual
inductive E where
 |lit (x:D)
 |loc (i:Nat)
 |glob (g:Nat)
 |bin (o:mL) (a b:E)
 |cmp (o:si) (a b:E)
 |nt (a:E)
 |and (es:Es)
 |or (es:Es)
 |ite (c a b:E)
 |tup (es:Es)
 |lst (es:Es)
 |sj (kvs:Es)
 |attr (e:E) (a:Nat)
 |sub (e i:E)
 |Ei (e lo hi:E)
 |call (f:Nat) (as:Es)
 |aR (e:E) (m:Nat) (as:Es)
 |new (c:Nat) (as:Es)
 |bi (b:BI) (e:E)
 |comp (elt:E) (v:Nat) (it:E) (ifs:Es)
 |bad
inductive Es where
 |nil
 |cons (e:E) (es:Es)
end
mutual
inductive S where
 |expr (e:E)
 |asg (i:Nat) (e:E)
 |dU (o:E) (a:Nat) (e:E)
 |hY (o i:E) (e:E)
 |kc (is:List Nat) (e:E)
 |vW (o:E) (a:Nat) (op:mL) (e:E)
 |ite (c:E) (a b:Ss)
 |gr (i:Nat) (it:E) (b:Ss)
 |ye (is:List Nat) (it:E) (b:Ss)
 |l_ (c:E) (b:Ss)
 |ret (e:E)
 |pass
 |cont
 |sN (o i:E)
 |yf (o lo:E)
 |bad
inductive Ss where
 |nil
 |cons (s:S) (r:Ss)
end
def ai{α β:Type}(f:α->Option β):Option α->Option β
 |some x=>f x
 |none=>none
def dy{α:Type}(x:Option α):Bool->Option α
 |true=>x
 |false=>none
def cX{α β γ:Type}(k:α->γ->Option β)(p:α×γ):Option β:=match p with
 |(x,y)=>k x y
theorem bndS{α β:Type}{f:α->Option β}{x}:ai f (some x)=f x:=rfl
theorem gdT{α:Type}{x:Option α}:dy x true=x:=rfl
theorem gdF{α:Type}{x:Option α}:dy x false=none:=rfl
theorem c1e{α β γ:Type}{k:α->γ->Option β}{x σ}:cX k (x,σ)=k x σ:=rfl
theorem noS{α:Type}{r:α}{P:Prop}(h:none=some r):P:=nomatch h
theorem aL{α β:Type}{f:α->Option β}{o r}{P:Prop}(h:ai f o=some r)(k:∀x,o=some x->f x=some r->P):P:=
 Option.rec (motive:=λo=>ai f o=some r->(∀x,o=some x->f x=some r->P)->P) (λh _=>noS h) (λx h k=>k x rfl h) o h k
theorem aF{α β γ:Type}{f:α×γ->Option β}{o r}{P:Prop}(h:ai f o=some r)(k:∀x y,o=some (x,y)->f (x,y)=some r->P):P:=aL h λx=>k x.1 x.2
theorem jb{α β γ δ:Type}{f:α×γ×δ->Option β}{o r}{P:Prop}(h:ai f o=some r)(k:∀x y z,o=some (x,y,z)->f (x,y,z)=some r->P):P:=aL h λx=>k x.1 x.2.1 x.2.2
theorem fH{α β:Type}{f:α->Option β}{o r}(h:ai f o=some r):∃x,o=some x/\f x=some r:=aL h λx a b=>⟨x,a,b⟩
theorem Ez{α β γ:Type}{f:α×γ->Option β}{o r}(h:ai f o=some r):∃x y,o=some (x,y)/\f (x,y)=some r:=aL h λx a b=>⟨x.1,x.2,a,b⟩
theorem Sf{α β γ δ:Type}{f:α×γ×δ->Option β}{o r}(h:ai f o=some r):∃x y z,o=some (x,y,z)/\f (x,y,z)=some r:=aL h λx a b=>⟨x.1,x.2.1,x.2.2,a,b⟩
theorem fj{α:Type}{x:Option α}{b r}(h:dy x b=some r):b=true/\x=some r:=by
 cases b with
 |true=>exact⟨rfl,h⟩
 |false=>cases h
theorem dM{α:Type}{x:Option α}{b r}{P:Prop}(h:dy x b=some r)(k:b=true->x=some r->P):P:=k (fj h).1 (fj h).2
theorem noB{P:Prop}(h:false=true):P:=nomatch h
@[elab_as_elim] theorem someE1{α:Type}{a c:α}{P:α->Prop}(q:some a=some c)(h:P a):P c:=by cases q;exact h
@[elab_as_elim] theorem someE2{α β:Type}{a c:α}{b d:β}{P:α->β->Prop}(q:some (a,b)=some (c,d))(h:P a b):P c d:=Eq.rec (motive:=λp _=>P p.1 p.2) h (fh q)
@[elab_as_elim] theorem someE3{α β γ:Type}{a c:α}{b d:β}{e f:γ}{P:α->β->γ->Prop}(q:some (a,b,e)=some (c,d,f))(h:P a b e):P c d f:=Eq.rec (motive:=λp _=>P p.1 p.2.1 p.2.2) h (fh q)
def Ej(s:List Nat):Bool:=s.all λc=>Nat.blt c 1114112
def fits{α:Type}(l:List α):Bool:=Nat.ble l.length 1000000
def j6:D->Bool
 | .none=>true
 |_=>false
def YC(a:Bool):D->Bool
 | .bool b=>a==b
 | .int j=>(if a then 1 else 0)==j
 |_=>false
def eqI(i:Int):D->Bool
 | .int b=>i==b
 | .bool b=>i==(if b then 1 else 0)
 |_=>false
def eqS(a:List Nat):D->Bool
 | .str b=>a==b
 |_=>false
def eqT(f:List D->Bool):D->Bool
 | .tup b=>f b
 |_=>false
def eqL(f:List D->Bool):D->Bool
 | .lst b=>f b
 |_=>false
def eqC(f:D->Bool)(g:List D->Bool):List D->Bool
 |[]=>false
 |b::t=>f b&&g t
mutual
noncomputable def ba:D->D->Bool
 | .none=>j6
 | .bool a=>YC a
 | .int a=>eqI a
 | .str a=>eqS a
 | .tup a=>eqT (j7 a)
 | .lst a=>eqL (j7 a)
 | .gP _=>λ_=>false
 | .cin _=>λ_=>false
 | .nX _=>λ_=>false
noncomputable def j7:List D->List D->Bool
 |[]=>List.isEmpty
 |a::r=>eqC (ba a) (j7 r)
end
mutual
noncomputable def dj:D->Nat
 | .tup l=>dW l+1
 | .lst l=>dW l+1
 | .none=>0
 | .bool _=>0
 | .int _=>0
 | .str _=>0
 | .gP _=>0
 | .cin _=>0
 | .nX _=>0
noncomputable def dW:List D->Nat
 |[]=>0
 |a::r=>max (dj a) (dW r)
end
mutual
noncomputable def qg:D->Bool
 | .none=>true
 | .bool _=>true
 | .int _=>true
 | .str _=>true
 | .tup l=>lI l
 | .lst l=>lI l
 | .gP _=>false
 | .cin _=>false
 | .nX _=>false
noncomputable def lI:List D->Bool
 |[]=>true
 |a::r=>qg a&&lI r
end
def AY(a b:D):Option Bool:=dy (some (ba a b)) (qg a&&qg b&&Nat.ble (min (dj a) (dj b)) 50)
def memD(x:D)(l:List D):Option Bool:=dy (some (l.any λy=>ba y x)) (qg x&&lI l&&Nat.ble (min (dW l) (dj x)) 50)
def yg:D->Option Bool
 | .none=>some false
 | .bool b=>some b
 | .int i=>some (!(i==0))
 | .lst l=>dy (some (!l.isEmpty)) (fits l)
 |_=>none
def kyT(f:Nat->Bool):Nat->Bool
 |0=>false
 |n+1=>f n
mutual
noncomputable def YD:D->Nat->Bool
 | .int _=>λ_=>true
 | .str _=>λ_=>true
 | .tup l=>kyT (EA l)
 | .none=>λ_=>false
 | .bool _=>λ_=>false
 | .lst _=>λ_=>false
 | .gP _=>λ_=>false
 | .cin _=>λ_=>false
 | .nX _=>λ_=>false
noncomputable def EA:List D->Nat->Bool
 |[]=>λ_=>true
 |a::r=>λn=>YD a n&&EA r n
end
def ip(n:Nat)(d:D):Bool:=YD d n
def um(n:Nat)(l:List D):Bool:=EA l n
def keyOk(d:D):Bool:=ip 6 d
def cy:D->Nat
 | .int _=>1
 | .str _=>2
 | .tup _=>3
 |_=>0
def kx(k:D):List (D×D)->Option D
 |[]=>none
 |(a,v)::r=>if ba k a then some v else kx k r
def fM(k:D):List (D×D)->Bool
 |[]=>false
 |(a,_)::r=>ba k a||fM k r
def dput(k v:D):List (D×D)->List (D×D)
 |[]=>[(k,v)]
 |(a,u)::r=>if ba k a then(a,v)::r else(a,u)::dput k v r
theorem uq{k v a u:D}{r:List (D×D)}:dput k v ((a,u)::r)=if ba k a then(a,v)::r else(a,u)::dput k v r:=rfl
def ma(k:D):List (D×D)->List (D×D)
 |[]=>[]
 |(a,u)::r=>if ba k a then r else(a,u)::ma k r
def jj(k:D)(l:List (D×D)):Bool:=keyOk k&&match l with
 |[]=>true
 |p::_=>Nat.beq (cy p.1) (cy k)
def jk(l:List (D×D)):Bool:=match l with
 |[]=>true
 |p::_=>Nat.ble (cy p.1) 2
structure kf (l:List (D×D)):Prop where
 key:∀p∈l,keyOk p.1=true
 kind:∀p∈l,∀q∈l,cy p.1=cy q.1
 apart:l.Pairwise λp q=>ba p.1 q.1=false
def ioC(i:Int)(l:List Int):Option (List Int):=some (i::l)
def ioK(o:Option (List Int)):D->Option (List Int)
 | .int i=>ai (ioC i) o
 |_=>none
def intsOf:List D->Option (List Int)
 |[]=>some []
 |a::r=>ioK (intsOf r) a
def insI(x:Int):List Int->List Int
 |[]=>[x]
 |y::r=>if x<=y then x::y::r else y::insI x r
def sortI:List Int->List Int
 |[]=>[]
 |x::r=>insI x (sortI r)
def big:Int:=4611686018427387904
def small(i:Int):Bool:=Nat.blt i.natAbs 4611686018427387904
theorem Sg{i:Int}{b:Nat}:i.natAbs<b<->-(b:Int)<i/\i<b:=by
 cases i with
 |ofNat n=>exact⟨λh=>⟨Int.lt_of_lt_of_le (Int.neg_neg_of_pos (pM.mpr (Nat.zero_lt_of_lt h))) (sG n),pM.mpr h⟩,λh=>pM.mp h.2⟩
 |negSucc n=>exact⟨λh=>⟨Int.neg_lt_neg (pM.mpr h),Int.lt_trans (Int.negSucc_lt_zero n) (pM.mpr (Nat.zero_lt_of_lt h))⟩,λh=>pM.mp (Int.lt_of_neg_lt_neg h.1)⟩
theorem nY{i:Int}:small i=true<->-big<i/\i<big:=by unfold small;rw[Nat.blt_eq];exact Sg
def qK(l:List D)(lo hi:D):Option (List D):=
 match (match lo with| .none=>some 0| .int i=>if 0<=i&&small i then some (min i.toNat l.length)else none|_=>none),
  (match hi with| .none=>some l.length| .int i=>if 0<=i&&small i then some (min i.toNat l.length)else none|_=>none)with
 |some a,some b=>some ((l.drop a).take (b-a))
 |_,_=>none
def arith:mL->Int->Int->Option Int
 | .add,a,b=>some (a+b)
 | .sub,a,b=>some (a-b)
 | .mul,a,b=>dy (some (a*b)) (small a&&small b)
 | .fdiv,a,b=>dy (some (Int.fdiv a b)) (0<b&&b<1073741824)
 | .mod,a,b=>dy (some (Int.fmod a b)) (0<b)
 | .band,a,b=>dy (some ((a.toNat&&&b.toNat:Nat))) (0<=a&&0<=b)
 | .bor,a,b=>dy (some ((a.toNat|||b.toNat:Nat))) (0<=a&&0<=b)
 | .pow,a,b=>dy (some ((2^b.toNat:Nat))) (a==2&&0<=b&&b<60)
def frK(σ:PS)(n:Nat):TO->Option (D×PS)
 | .list l=>some (.lst l,⟨σ.pm,σ.tm.set n .dead⟩)
 | .dict l=>some (.gP l,⟨σ.pm,σ.tm.set n .dead⟩)
 | .dead=>none
def Sh(x:D)(xs:List D)(σ:PS):Option (List D×PS):=some (x::xs,σ)
def fzK(f:PS->Option (List D×PS))(x:D)(σ:PS):Option (List D×PS):=ai (cX (Sh x)) (f σ)
def stK(σ:PS)(n:Nat):TO->Option (PV×PS)
 | .list l=>some (.ax σ.pm.length,⟨σ.pm++[.list l],σ.tm.set n .dead⟩)
 | .dict l=>some (.ax σ.pm.length,⟨σ.pm++[.dict l],σ.tm.set n .dead⟩)
 | .dead=>none
def Si:TO->Option (List D)
 | .list l=>some l
 |_=>none
def HR:MO->Option (List D)
 | .list l=>some l
 |_=>none
def Sj:TO->Option (List (D×D))
 | .dict l=>some l
 |_=>none
def KP:MO->Option (List (D×D))
 | .dict l=>some l
 |_=>none
def KQ(σ:PS)(n:Nat)(x:TO){α:Type}(_:α):Option PS:=some ⟨σ.pm,σ.tm.set n x⟩
def KR(σ:PS)(n:Nat)(x:MO){α:Type}(_:α):Option PS:=some ⟨σ.pm.set n x,σ.tm⟩
namespace PS
def freeze(σ:PS):PV->Option (D×PS)
 | .d x=>some (x,σ)
 | .ax _=>none
 | .aI n=>ai (frK σ n) σ.tm[n]?
def k_(σ:PS):List PV->Option (List D×PS)
 |[]=>some ([],σ)
 |v::r=>ai (cX (fzK λs=>k_ s r)) (σ.freeze v)
def sP(σ:PS)(l:List D):Option (PV×PS):=dy (some (.aI σ.tm.length,⟨σ.pm,σ.tm++[.list l]⟩)) (fits l)
def newD(σ:PS)(l:List (D×D)):Option (PV×PS):=some (.aI σ.tm.length,⟨σ.pm,σ.tm++[.dict l]⟩)
def eU(σ:PS):PV->Option (PV×PS)
 | .d x=>some (.d x,σ)
 | .ax n=>some (.ax n,σ)
 | .aI n=>ai (stK σ n) σ.tm[n]?
def listOf(σ:PS):PV->Option (List D)
 | .d (.lst l)=>some l
 | .aI n=>ai Si σ.tm[n]?
 | .ax n=>ai HR σ.pm[n]?
 |_=>none
def dictOf(σ:PS):PV->Option (List (D×D))
 | .d (.gP l)=>some l
 | .aI n=>ai Sj σ.tm[n]?
 | .ax n=>ai KP σ.pm[n]?
 |_=>none
def lb(σ:PS)(l:List D):PV->Option PS
 | .aI n=>ai (KQ σ n (.list l)) (ai Si σ.tm[n]?)
 | .ax n=>ai (KR σ n (.list l)) (ai HR σ.pm[n]?)
 |_=>none
def ur(σ:PS)(l:List (D×D)):PV->Option PS
 | .aI n=>ai (KQ σ n (.dict l)) (ai Sj σ.tm[n]?)
 | .ax n=>ai (KR σ n (.dict l)) (ai KP σ.pm[n]?)
 |_=>none
end PS
theorem insI_perm(x:Int):∀l,(insI x l).Perm (x::l)
 |[]=> .refl _
 |y::r=>by
  dsimp only[insI];split
  ·exact .refl _
  ·exact((insI_perm x r).cons y).trans (.swap x y r)
theorem sortI_perm:∀l,(sortI l).Perm l
 |[]=> .refl _
 |x::r=>(insI_perm x _).trans ((sortI_perm r).cons x)
set_option genCtorIdx true in
inductive Fl where
 |next|cont|ret (v:PV)
structure Cx where
 glob:Nat->Option D
 fn:Nat->Spec
 aR:Nat->Nat->Option Nat
 new:Nat->Spec
 fuel:Nat
abbrev Ls:=List (Option PV)
def eX:List PV->Nat->List PV×List Nat
 |[],_=>([],[])
 | .aI n::r,k=>(.aI k::(eX r (k+1)).1,n::(eX r (k+1)).2)
 | .d x::r,k=>(.d x::(eX r k).1,(eX r k).2)
 | .ax n::r,k=>(.ax n::(eX r k).1,(eX r k).2)
def distinct:List Nat->Bool
 |[]=>true
 |n::r=>!(r.any λm=>Nat.beq n m)&&distinct r
def YE(t:TO)(ts:List TO):Option (List TO):=match t with
 | .dead=>none
 |t=>some (t::ts)
def Sk(o:Option (List TO))(t:TO):Option (List TO):=ai (YE t) o
def vY(tm:List TO):List Nat->Option (List TO)
 |[]=>some []
 |n::o=>ai (Sk (vY tm o)) tm[n]?
def ptN{α β:Type}(x:β):List α->Option β
 |[]=>some x
 |_::_=>none
def ptC{α β:Type}(f:α->List α->Option β):List α->Option β
 |[]=>none
 |t::ts=>f t ts
def EC(tm:List TO):List Nat->List TO->Option (List TO)
 |[],l=>ptN tm l
 |n::o,l=>ptC (λt ts=>EC (tm.set n t) o ts) l
def dc3(v:PV)(pm:List MO)(tm:List TO):Option (PV×PS):=some (v,⟨pm,tm⟩)
def dc2(σ:PS)(o:List Nat)(v:PV)(p:List MO×List TO):Option (PV×PS):=match v with
 | .aI _=>none
 |v=>ai (dc3 v p.1) (EC σ.tm o p.2)
def dc1(sp:Spec)(σ:PS)(a:List PV)(o:List Nat)(ts:List TO):Option (PV×PS):=ai (cX (dc2 σ o)) (sp a σ.pm ts)
def cJ(sp:Spec)(args:List PV)(σ:PS):Option (PV×PS):=
 dy (ai (dc1 sp σ (eX args 0).1 (eX args 0).2) (vY σ.tm (eX args 0).2)) (distinct (eX args 0).2)
def pN(a:Nat):List (Nat×PV)->Option PV
 |[]=>none
 |p::r=>match Nat.beq a p.1 with
  |true=>some p.2
  |false=>pN a r
def sQ(a:Nat)(v:PV):List (Nat×PV)->List (Nat×PV)
 |[]=>[(a,v)]
 |p::r=>match Nat.beq a p.1 with
  |true=>(a,v)::r
  |false=>p::sQ a v r
def fwC(f:Nat->Bool):Nat->Bool
 |0=>false
 |n+1=>f n
def vZ{α:Type}:List α->Nat->Bool
 |[]=>λ_=>true
 |_::r=>fwC (vZ r)
theorem HS{α:Type}:∀{l:List α} {n:Nat},vZ l n=true->l.length<=n:=by
 intro l;induction l with
 |nil=>intro n _;exact eJ n
 |cons a r ih=>
  intro n h;cases n with
  |zero=>cases h
  |succ n=>exact sJ (ih h)
def gaK(a:Nat):MO->Option PV
 | .inst _ fs=>pN a fs
 |_=>none
def Xj(σ:PS)(n a:Nat)(v:PV):MO->Option PS
 | .inst C fs=>dy (some ⟨σ.pm.set n (.inst C (sQ a v fs)),σ.tm⟩) (vZ fs 100)
 |_=>none
def toD:TO->Option D
 | .list l=>some (.lst l)
 | .dict l=>some (.gP l)
 |_=>none
def HD:MO->Option D
 | .list l=>some (.lst l)
 | .dict l=>some (.gP l)
 |_=>none
def sR(x:D):Option PV:=some (.d x)
def YF(l:List D)(j:Int):Bool->Option PV
 |true=>ai sR l[j.toNat]?
 |false=>dy (ai sR l[(j+l.length).toNat]?) (0<=j+l.length)
def YG(l:List D):D->Option PV
 | .int j=>dy (YF l j (decide (0<=j))) (small j)
 |_=>none
def YH(l:List D):D->Option PV
 | .int j=>dy (ai sR l[j.toNat]?) (small j&&decide (0<=j))
 |_=>none
def AZ(k:D):D->Option PV
 | .tup l=>YG l k
 | .lst l=>YH l k
 | .gP l=>dy (ai sR (kx k l)) (jj k l)
 |_=>none
namespace PS
def ED(σ:PS)(v:PV)(a:Nat):Option PV:=match v with
 | .ax n=>ai (gaK a) σ.pm[n]?
 |_=>none
def v5(σ:PS)(o:PV)(a:Nat)(v:PV):Option PS:=match o with
 | .ax n=>match v with
  | .aI _=>none
  |v=>ai (Xj σ n a v) σ.pm[n]?
 |_=>none
def ph(σ:PS):PV->Option D
 | .d x=>some x
 | .aI n=>ai toD σ.tm[n]?
 | .ax n=>ai HD σ.pm[n]?
def truth(σ:PS)(v:PV):Option Bool:=ai yg (σ.ph v)
def v7(σ:PS)(o i:PV):Option PV:=match i with
 | .d k=>ai (AZ k) (σ.ph o)
 |_=>none
def slK(σ:PS)(l:List D)(r:List D):Option (PV×PS):=dy (σ.sP r) (fits l)
def slD(σ:PS)(lo hi:D):D->Option (PV×PS)
 | .tup l=>match lo,hi with
  | .int i,.none=>dy (some (.d (.tup (l.drop i.toNat)),σ)) (decide (1<=i)&&decide (i<=l.length)&&fits l)
  |_,_=>none
 | .lst l=>ai (slK σ l) (qK l lo hi)
 |_=>none
def slice(σ:PS)(o lo hi:PV):Option (PV×PS):=match lo,hi with
 | .d a,.d b=>ai (slD σ a b) (σ.ph o)
 |_,_=>none
def YI(σ:PS)(o:PV)(k v:D)(l:List (D×D)):Option PS:=dy (σ.ur (dput k v l) o) (jj k l&&fits l)
def A0(σ:PS)(o:PV)(k v:D):Option PS:=ai (YI σ o k v) (σ.dictOf o)
def diK(σ:PS)(o:PV)(k:D)(l:List (D×D)):Option PS:=dy (σ.ur (ma k l) o) (jj k l&&fM k l&&fits l)
def HT(σ:PS)(o:PV)(k:D):Option PS:=ai (diK σ o k) (σ.dictOf o)
def dtK(σ:PS)(o:PV)(i:Int)(l:List D):Option PS:=dy (σ.lb (l.take i.toNat) o) (decide (0<=i)&&small i&&fits l)
def qh(σ:PS)(o:PV)(lo:D):Option PS:=match lo with
 | .int i=>ai (dtK σ o i) (σ.listOf o)
 |_=>none
end PS
def L8:si->Int->Int->Option Bool
 | .lt,a,b=>some (decide (a<b))
 | .le,a,b=>some (decide (a<=b))
 | .gt,a,b=>some (decide (b<a))
 | .ge,a,b=>some (decide (b<=a))
 |_,_,_=>none
def Xk(k:D):D->Option Bool
 | .tup l=>memD k l
 | .lst l=>memD k l
 | .gP l=>dy (some (fM k l)) (jj k l)
 |_=>none
def isIn(σ:PS)(x y:PV):Option Bool:=match x with
 | .d k=>ai (Xk k) (σ.ph y)
 |_=>none
def Sl(b:Option D)(x:D):Option Bool:=ai (AY x) b
def isEq(σ:PS)(x y:PV):Option Bool:=ai (Sl (σ.ph y)) (σ.ph x)
def isNone(x:PV):Bool:=match x with
 | .d .none=>true
 |_=>false
def A6(b:Bool):Option Bool:=some (!b)
def L9(o:si)(x y:PV):Option Bool:=match x with
 | .d (.int a)=>match y with
  | .d (.int b)=>L8 o a b
  |_=>none
 |_=>none
def compare(o:si)(x y:PV)(σ:PS):Option Bool:=match o with
 | .eq=>isEq σ x y
 | .ne=>ai A6 (isEq σ x y)
 | .is=>dy (some (isNone x)) (isNone y)
 | .Rg=>dy (some (!isNone x)) (isNone y)
 | .isin=>isIn σ x y
 | .eW=>ai A6 (isIn σ x y)
 |o=>L9 o x y
def cR(σ:PS)(r:PV):Option (PV×PS):=some (r,σ)
def cI(σ:PS)(i:Int):Option (PV×PS):=some (.d (.int i),σ)
def cB(σ:PS)(b:Bool):Option (PV×PS):=some (.d (.bool b),σ)
def cN(σ:PS)(b:Bool):Option (PV×PS):=some (.d (.bool !b),σ)
def Sm(o:mL)(σ:PS)(x y:D):Option (PV×PS):=match x with
 | .int a=>match y with
  | .int b=>ai (cI σ) (arith o a b)
  |_=>none
 | .tup a=>match y with
  | .tup b=>match o with
   | .add=>dy (some (.d (.tup (a++b)),σ)) (fits (a++b))
   |_=>none
  |_=>none
 | .lst a=>match y with
  | .lst b=>match o with
   | .add=>σ.sP (a++b)
   |_=>none
  |_=>none
 |_=>none
def L_(o:mL)(σ:PS)(y:Option D)(x:D):Option (PV×PS):=ai (Sm o σ x) y
def binop(o:mL)(x y:PV)(σ:PS):Option (PV×PS):=ai (L_ o σ (σ.ph y)) (σ.ph x)
def Sn(σ:PS):D->Option (PV×PS)
 | .tup l=>dy (some (.d (.int l.length),σ)) (fits l)
 | .lst l=>dy (some (.d (.int l.length),σ)) (fits l)
 | .gP l=>dy (some (.d (.int l.length),σ)) (fits l&&jk l)
 |_=>none
def soK(σ:PS)(is:List Int):Option (PV×PS):=dy (σ.sP ((sortI is).map .int)) (Nat.blt is.length 64)
def So(σ:PS):D->Option (PV×PS)
 | .gP l=>ai (soK σ) (intsOf (l.map (·.1)))
 |_=>none
def tuK(σ:PS):D->Option (PV×PS)
 | .lst l=>dy (some (.d (.tup l),σ)) (fits l)
 |_=>none
def builtin(b:BI)(v:PV)(σ:PS):Option (PV×PS):=match b with
 | .len=>ai (Sn σ) (σ.ph v)
 | .sorted=>ai (So σ) (σ.ph v)
 | .tuple=>ai (tuK σ) (σ.ph v)
 | .range=>match v with
  | .d (.int n)=>dy (some (.d (.nX n),σ)) (decide (0<=n)&&decide (n<1000000))
  |_=>none
inductive Lock where
 |none
 |aI (n:Nat) (t:TO)
 |ax (n:Nat) (m:MO)
def ioT(σ:PS)(n:Nat):TO->Option (List D×PS×Lock)
 | .list l=>some (l,⟨σ.pm,σ.tm.set n .dead⟩,.aI n (.list l))
 | .dict l=>dy (some (l.map (·.1),⟨σ.pm,σ.tm.set n .dead⟩,.aI n (.dict l))) (jk l)
 |_=>none
def ioP(σ:PS)(n:Nat):MO->Option (List D×PS×Lock)
 | .list l=>some (l,⟨σ.pm.set n .dead,σ.tm⟩,.ax n (.list l))
 |_=>none
def ioD(σ:PS):D->Option (List D×PS×Lock)
 | .lst l=>some (l,σ,.none)
 | .tup l=>some (l,σ,.none)
 | .gP l=>dy (some (l.map (·.1),σ,.none)) (jk l)
 | .nX n=>dy (some ((List.range n.toNat).map λ(i:Nat)=>D.int i,σ,.none)) (decide (0<=n)&&decide (n<1000000))
 | .none=>none
 | .bool _=>none
 | .int _=>none
 | .str _=>none
 | .cin _=>none
def dY(σ:PS):PV->Option (List D×PS×Lock)
 | .d x=>ioD σ x
 | .aI n=>ai (ioT σ n) σ.tm[n]?
 | .ax n=>ai (ioP σ n) σ.pm[n]?
def itClose(σ:PS):Lock->PS
 | .none=>σ
 | .aI n t=>⟨σ.pm,σ.tm.set n t⟩
 | .ax n m=>⟨σ.pm.set n m,σ.tm⟩
def mM:Nat:=0
def EE:Nat:=1
def HU:Nat:=2
def yh(m:Nat):Option D->Bool
 |some (.lst _)=>Nat.beq m mM||Nat.beq m EE
 |some (.gP _)=>Nat.beq m HU
 |_=>false
def Sp(σ:PS):Option (PV×PS):=some (.d .none,σ)
def YJ(σ:PS)(v:PV)(d:D)(l:List D):Option (PV×PS):=dy (ai Sp (σ.lb (l++[d]) v)) (fits l)
def apD(v:PV)(d:D)(σ:PS):Option (PV×PS):=ai (YJ σ v d) (σ.listOf v)
def YK(d:D)(σ:PS):Option (PV×PS):=some (.d d,σ)
def poK(σ:PS)(v:PV)(l:List D)(d:D):Option (PV×PS):=dy (ai (YK d) (σ.lb l.dropLast v)) (fits l)
def poD(σ:PS)(v:PV)(l:List D):Option (PV×PS):=ai (poK σ v l) l.getLast?
def Xl(σ:PS)(k e:D)(l:List (D×D)):Option (PV×PS):=dy (some (.d ((kx k l).getD e),σ)) (jj k l)
def hJ(m:Nat)(v:PV)(args:List PV)(σ:PS):Option (PV×PS):=match Nat.beq m mM with
 |true=>match args with
  |[x]=>ai (cX (apD v)) (σ.freeze x)
  |_=>none
 |false=>match Nat.beq m EE with
  |true=>match args with
   |[]=>ai (poD σ v) (σ.listOf v)
   |_=>none
  |false=>match Nat.beq m HU with
   |true=>match args with
    |[.d k]=>ai (Xl σ k .none) (σ.dictOf v)
    |[.d k,.d e]=>ai (Xl σ k e) (σ.dictOf v)
    |_=>none
   |false=>none
def EF:MO->Option Nat
 | .inst C _=>some C
 |_=>none
def inD:D->Option Nat
 | .cin C=>some C
 |_=>none
def gh(σ:PS):PV->Option Nat
 | .ax n=>ai EF σ.pm[n]?
 | .d x=>inD x
 | .aI _=>none
def A7{α β:Type}(a b:α->PS->Option β)(x:α)(c:Bool)(σ:PS):Option β:=match c with
 |true=>a x σ
 |false=>b x σ
def coY(y:D)(ys:List D)(σ:PS):Option (List D×PS):=some (y::ys,σ)
def coR(rest:PS->Option (List D×PS))(y:D)(σ:PS):Option (List D×PS):=ai (cX (coY y)) (rest σ)
def coE(rest:PS->Option (List D×PS))(e:PV)(σ:PS):Option (List D×PS):=ai (cX (coR rest)) (σ.freeze e)
def coT(elt:Ls->PS->Option (PV×PS))(rest:PS->Option (List D×PS))(ls:Ls)(σ:PS):Option (List D×PS):=ai (cX (coE rest)) (elt ls σ)
def dm(tests:Ls->PS->Option (Bool×PS))(elt:Ls->PS->Option (PV×PS))(v:Nat):List D->Ls->PS->Option (List D×PS)
 |[],_,σ=>some ([],σ)
 |x::r,ls,σ=>ai (cX (A7 (coT elt λs=>dm tests elt v r ls s) (λ_ s=>dm tests elt v r ls s) (ls.set v (some (.d x))))) (tests (ls.set v (some (.d x))) σ)
def YL(k v:D):List D->Option (List (D×D))
 |[]=>dy (some [(k,v)]) (keyOk k)
 |_::_=>none
def YM(k:D):List D->Option (List (D×D))
 |[]=>none
 |v::r=>YL k v r
def KU:List D->Option (List (D×D))
 |[]=>some []
 |k::r=>YM k r
abbrev FE:=Ls->PS->Option (PV×PS)
abbrev FT:=Ls->PS->Option (Bool×PS)
abbrev FS:=Ls->PS->Option (List PV×PS)
def pO{α β γ:Type}(f:Ls->PS->Option (β×PS))(ls:Ls)(k:α->β->PS->Option γ)(x:α)(σ:PS):Option γ:=ai (cX (k x)) (f ls σ)
def Ma(σ:PS):Option PV->Option (PV×PS)
 |some v=>some (v,σ)
 |none=>none
def glK(σ:PS)(x:D):Option (PV×PS):=some (.d x,σ)
def Sq(o:si)(x y:PV)(σ:PS):Option (PV×PS):=ai (cB σ) (compare o x y σ)
def ntK(x:PV)(σ:PS):Option (PV×PS):=ai (cN σ) (σ.truth x)
def bT(σ:PS)(b:Bool):Option (Bool×PS):=some (b,σ)
def Mb(x:PV)(σ:PS):Option (Bool×PS):=ai (bT σ) (σ.truth x)
def kg(f:FE):FE×FT:=(f,λls σ=>ai (cX Mb) (f ls σ))
def YN(b:Bool)(σ:PS):Option (Bool×PS):=some (!b,σ)
def Sr(xs:List D)(σ:PS):Option (PV×PS):=dy (some (.d (.tup xs),σ)) (fits xs)
def YO(xs:List D)(σ:PS):Option (PV×PS):=σ.sP xs
def Su(xs:List D)(σ:PS):Option (PV×PS):=ai σ.newD (KU xs)
def Rh(k:List D->PS->Option (PV×PS))(vs:List PV)(σ:PS):Option (PV×PS):=ai (cX k) (σ.k_ vs)
def KV(a:Nat)(v:PV)(σ:PS):Option (PV×PS):=ai (cR σ) (σ.ED v a)
def Sv(v k:PV)(σ:PS):Option (PV×PS):=ai (cR σ) (σ.v7 v k)
def sl2(v a b:PV)(σ:PS):Option (PV×PS):=σ.slice v a b
def sl1(hi:FE)(ls:Ls)(v a:PV)(σ:PS):Option (PV×PS):=pO hi ls (sl2 v) a σ
def meC(X:Cx)(v:PV)(f:Nat)(vs:List PV)(σ:PS):Option (PV×PS):=cJ (X.fn f) (v::vs) σ
def YQ(X:Cx)(as:FS)(ls:Ls)(v:PV)(σ:PS)(f:Nat):Option (PV×PS):=ai (cX (meC X v f)) (as ls σ)
def Ri(X:Cx)(m:Nat)(as:FS)(ls:Ls)(v:PV)(σ:PS):Option Nat->Option (PV×PS)
 |some C=>ai (YQ X as ls v σ) (X.aR C m)
 |none=>dy (ai (cX (hJ m v)) (as ls σ)) (yh m (σ.ph v))
def KW(X:Cx)(m:Nat)(as:FS)(ls:Ls)(v:PV)(σ:PS):Option (PV×PS):=Ri X m as ls v σ (gh σ v)
def coL(ts:FT)(el:FE)(v:Nat)(ls:Ls)(items:List D)(p:PS×Lock):Option (PV×PS):=ai (cX λys bJ=>(itClose bJ p.2).sP ys) (dm ts el v items ls p.1)
def coK(ts:FT)(el:FE)(v:Nat)(ls:Ls)(x:PV)(σ:PS):Option (PV×PS):=ai (cX (coL ts el v ls)) (dY σ x)
def Sw(v:PV)(vs:List PV)(σ:PS):Option (List PV×PS):=some (v::vs,σ)
def anB(f:FE)(ls:Ls)(v:PV)(σ:PS):Bool->Option (PV×PS)
 |true=>f ls σ
 |false=>some (v,σ)
def orB(f:FE)(ls:Ls)(v:PV)(σ:PS):Bool->Option (PV×PS)
 |true=>some (v,σ)
 |false=>f ls σ
def anK(f:FE)(ls:Ls)(v:PV)(σ:PS):Option (PV×PS):=ai (anB f ls v σ) (σ.truth v)
def orK(f:FE)(ls:Ls)(v:PV)(σ:PS):Option (PV×PS):=ai (orB f ls v σ) (σ.truth v)
def okT(b:Bool){α:Type}(_:α)(σ:PS):Option (Bool×PS):=some (b,σ)
structure Fs where
 al:FS
 an:FE
 or:FE
 ta:FT
 to:FT
mutual
noncomputable def lg (X:Cx):E->FE×FT
 | .lit x=>kg λ_ σ=>some (.d x,σ)
 | .loc i=>kg λls σ=>ai (Ma σ) ls[i]?
 | .glob g=>kg λ_ σ=>ai (glK σ) (X.glob g)
 | .bin o a b=>kg λls σ=>ai (cX (pO (lg X b).1 ls (binop o))) ((lg X a).1 ls σ)
 | .cmp o a b=>kg λls σ=>ai (cX (pO (lg X b).1 ls (Sq o))) ((lg X a).1 ls σ)
 | .nt a=>(λls σ=>ai (cX ntK) ((lg X a).1 ls σ),λls σ=>ai (cX YN) ((lg X a).2 ls σ))
 | .and es=>((jc X es).an,(jc X es).ta)
 | .or es=>((jc X es).or,(jc X es).to)
 | .ite c a b=>(λls σ=>ai (cX (A7 (lg X a).1 (lg X b).1 ls)) ((lg X c).2 ls σ),λls σ=>ai (cX (A7 (lg X a).2 (lg X b).2 ls)) ((lg X c).2 ls σ))
 | .tup es=>kg λls σ=>ai (cX (Rh Sr)) ((jc X es).al ls σ)
 | .lst es=>kg λls σ=>ai (cX (Rh YO)) ((jc X es).al ls σ)
 | .sj es=>kg λls σ=>ai (cX (Rh Su)) ((jc X es).al ls σ)
 | .attr e a=>kg λls σ=>ai (cX (KV a)) ((lg X e).1 ls σ)
 | .sub e i=>kg λls σ=>ai (cX (pO (lg X i).1 ls Sv)) ((lg X e).1 ls σ)
 | .Ei e lo hi=>kg λls σ=>ai (cX (pO (lg X lo).1 ls (sl1 (lg X hi).1 ls))) ((lg X e).1 ls σ)
 | .call f as=>kg λls σ=>ai (cX (cJ (X.fn f))) ((jc X as).al ls σ)
 | .aR e m as=>kg λls σ=>ai (cX (KW X m (jc X as).al ls)) ((lg X e).1 ls σ)
 | .new c as=>kg λls σ=>ai (cX (cJ (X.new c))) ((jc X as).al ls σ)
 | .bi b e=>kg λls σ=>ai (cX (builtin b)) ((lg X e).1 ls σ)
 | .comp elt v it ifs=>kg λls σ=>ai (cX (coK (jc X ifs).ta (lg X elt).1 v ls)) ((lg X it).1 ls σ)
 | .bad=>kg λ_ _=>none
noncomputable def jc (X:Cx):Es->Fs
 | .nil=>⟨λ_ σ=>some ([],σ),λ_ _=>none,λ_ _=>none,λ_ σ=>some (true,σ),λ_ σ=>some (false,σ)⟩
 | .cons e es=>⟨λls σ=>ai (cX (pO (jc X es).al ls Sw)) ((lg X e).1 ls σ),
  λls σ=>match es with
  | .nil=>(lg X e).1 ls σ
  | .cons _ _=>ai (cX (anK (jc X es).an ls)) ((lg X e).1 ls σ),
  λls σ=>match es with
  | .nil=>(lg X e).1 ls σ
  | .cons _ _=>ai (cX (orK (jc X es).or ls)) ((lg X e).1 ls σ),
  λls σ=>ai (cX (A7 (jc X es).ta (okT false) ls)) ((lg X e).2 ls σ),
  λls σ=>ai (cX (A7 (okT true) (jc X es).to ls)) ((lg X e).2 ls σ)⟩
end
def eval(X:Cx)(e:E):FE:=(lg X e).1
def test(X:Cx)(e:E):FT:=(lg X e).2
def iU(X:Cx)(es:Es):FS:=(jc X es).al
def zB(X:Cx)(es:Es):FE:=(jc X es).an
def Mc(X:Cx)(es:Es):FE:=(jc X es).or
def cx(X:Cx)(es:Es):FT:=(jc X es).ta
def EG(X:Cx)(es:Es):FT:=(jc X es).to
def EH:D->Bool
 | .none=>true
 | .bool _=>true
 | .int _=>true
 | .str _=>true
 |_=>false
def Xm(rest:Ls->PS->Option (Fl×Ls×PS)):Fl->Ls×PS->Option (Fl×Ls×PS)
 | .ret v,p=>some (.ret v,p)
 | .next,p=>rest p.1 p.2
 | .cont,p=>rest p.1 p.2
def Sx(body rest:Ls->PS->Option (Fl×Ls×PS))(σ:PS)(ls:Ls):Option (Fl×Ls×PS):=ai (cX (Xm rest)) (body ls σ)
def dO(body:Ls->PS->Option (Fl×Ls×PS))(put:D->Ls->Option Ls):List D->Ls->PS->Option (Fl×Ls×PS)
 |[],ls,σ=>some (.next,ls,σ)
 |x::r,ls,σ=>ai (Sx body (dO body put r) σ) (put x ls)
def whT(body rest:Ls->PS->Option (Fl×Ls×PS))(ls:Ls):Bool->PS->Option (Fl×Ls×PS)
 |false,σ=>some (.next,ls,σ)
 |true,σ=>Sx body rest σ ls
def jH(kg:Ls->PS->Option (Bool×PS))(body:Ls->PS->Option (Fl×Ls×PS)):Nat->Ls->PS->Option (Fl×Ls×PS)
 |0,_,_=>none
 |n+1,ls,σ=>ai (cX (whT body (jH kg body n) ls)) (kg ls σ)
def j8(i:Nat)(x:D)(ls:Ls):Option Ls:=some (ls.set i (some (.d x)))
def zC:List Nat->List D->Ls->Option Ls
 |[],l,ls=>ptN ls l
 |i::is,l,ls=>ptC (λx xs=>zC is xs (ls.set i (some (.d x)))) l
def qL(is:List Nat)(x:D)(ls:Ls):Option Ls:=match x with
 | .tup l=>zC is l ls
 |_=>none
def exK(ls:Ls)(v:PV)(σ:PS):Option (Fl×Ls×PS):=match v with
 | .d x=>dy (some (.next,ls,σ)) (EH x)
 |_=>none
def asK(i:Nat)(ls:Ls)(v:PV)(σ:PS):Option (Fl×Ls×PS):=some (.next,ls.set i (some v),σ)
def Rj(ls:Ls)(σ:PS):Option (Fl×Ls×PS):=some (.next,ls,σ)
def Sy(ls:Ls)(o:PV)(a:Nat)(v:PV)(σ:PS):Option (Fl×Ls×PS):=ai (Rj ls) (σ.v5 o a v)
def Xn(ls:Ls)(a:Nat)(v o:PV)(σ:PS):Option (Fl×Ls×PS):=ai (cX (Sy ls o a)) (σ.eU v)
def siS(ls:Ls)(o:PV)(k:D)(x:D)(σ:PS):Option (Fl×Ls×PS):=ai (Rj ls) (σ.A0 o k x)
def Sz(ls:Ls)(v o k:PV)(σ:PS):Option (Fl×Ls×PS):=match k with
 | .d k=>ai (cX (siS ls o k)) (σ.freeze v)
 |_=>none
def asS(i:FE)(ls:Ls)(v o:PV)(σ:PS):Option (Fl×Ls×PS):=pO i ls (Sz ls v) o σ
def ntT(σ:PS)(ls:Ls):Option (Fl×Ls×PS):=some (.next,ls,σ)
def asT(is:List Nat)(ls:Ls)(v:PV)(σ:PS):Option (Fl×Ls×PS):=match v with
 | .d x=>ai (ntT σ) (qL is x ls)
 |_=>none
def auZ(ls:Ls)(o:PV)(a:Nat)(σ:PS)(z:Int):Option (Fl×Ls×PS):=ai (Rj ls) (σ.v5 o a (.d (.int z)))
def auV(ls:Ls)(o:PV)(a:Nat)(op:mL)(old v:PV)(σ:PS):Option (Fl×Ls×PS):=match old with
 | .d (.int x)=>match v with
  | .d (.int y)=>ai (auZ ls o a σ) (arith op x y)
  |_=>none
 |_=>none
def auO(e:FE)(ls:Ls)(o:PV)(a:Nat)(op:mL)(σ:PS)(old:PV):Option (Fl×Ls×PS):=pO e ls (auV ls o a op) old σ
def auA(e:FE)(ls:Ls)(a:Nat)(op:mL)(o:PV)(σ:PS):Option (Fl×Ls×PS):=ai (auO e ls o a op σ) (σ.ED o a)
def foC(lk:Lock)(p:Fl×Ls×PS):Option (Fl×Ls×PS):=some (p.1,p.2.1,itClose p.2.2 lk)
def YR(b:Ls->PS->Option (Fl×Ls×PS))(put:D->Ls->Option Ls)(ls:Ls)(items:List D)(p:PS×Lock):Option (Fl×Ls×PS):=ai (foC p.2) (dO b put items ls p.1)
def SA(b:Ls->PS->Option (Fl×Ls×PS))(put:D->Ls->Option Ls)(ls:Ls)(x:PV)(σ:PS):Option (Fl×Ls×PS):=ai (cX (YR b put ls)) (dY σ x)
def reK(ls:Ls)(v:PV)(σ:PS):Option (Fl×Ls×PS):=some (.ret v,ls,σ)
def deS(ls:Ls)(o k:PV)(σ:PS):Option (Fl×Ls×PS):=match k with
 | .d k=>ai (Rj ls) (σ.HT o k)
 |_=>none
def deL(ls:Ls)(o k:PV)(σ:PS):Option (Fl×Ls×PS):=match k with
 | .d k=>ai (Rj ls) (σ.qh o k)
 |_=>none
def seK(r:Ls->PS->Option (Fl×Ls×PS))(fl:Fl)(p:Ls×PS):Option (Fl×Ls×PS):=match fl with
 | .next=>r p.1 p.2
 |fl=>some (fl,p)
def uu(f:Ls->PS->Option (Fl×Ls×PS))(o:Option (Fl×Ls×PS)):Option (Fl×Ls×PS):=ai (cX (seK f)) o
mutual
noncomputable def exec (X:Cx):S->Ls->PS->Option (Fl×Ls×PS)
 | .expr e,ls,σ=>ai (cX (exK ls)) (eval X e ls σ)
 | .asg i e,ls,σ=>ai (cX (asK i ls)) (eval X e ls σ)
 | .dU o a e,ls,σ=>ai (cX (pO (eval X o) ls (Xn ls a))) (eval X e ls σ)
 | .hY o i e,ls,σ=>ai (cX (pO (eval X o) ls (asS (eval X i) ls))) (eval X e ls σ)
 | .kc is e,ls,σ=>ai (cX (asT is ls)) (eval X e ls σ)
 | .vW o a op e,ls,σ=>ai (cX (auA (eval X e) ls a op)) (eval X o ls σ)
 | .ite c a b,ls,σ=>ai (cX (A7 (execs X a) (execs X b) ls)) (test X c ls σ)
 | .gr i it b,ls,σ=>ai (cX (SA (execs X b) (j8 i) ls)) (eval X it ls σ)
 | .ye is it b,ls,σ=>ai (cX (SA (execs X b) (qL is) ls)) (eval X it ls σ)
 | .l_ c b,ls,σ=>jH (test X c) (execs X b) X.fuel ls σ
 | .ret e,ls,σ=>ai (cX (reK ls)) (eval X e ls σ)
 | .pass,ls,σ=>some (.next,ls,σ)
 | .cont,ls,σ=>some (.cont,ls,σ)
 | .sN o i,ls,σ=>ai (cX (pO (eval X i) ls (deS ls))) (eval X o ls σ)
 | .yf o lo,ls,σ=>ai (cX (pO (eval X lo) ls (deL ls))) (eval X o ls σ)
 | .bad,_,_=>none
noncomputable def execs (X:Cx):Ss->Ls->PS->Option (Fl×Ls×PS)
 | .nil,ls,σ=>some (.next,ls,σ)
 | .cons s r,ls,σ=>uu (execs X r) (exec X s ls σ)
end
structure Fn where
 ar:Nat
 nl:Nat
 body:Ss
def cuC(f:List TO->List TO):List TO->List TO
 |[]=>[]
 |x::l=>x::f l
def qM:List TO->List TO->List TO
 |[]=>λ_=>[]
 |_::r=>cuC (qM r)
theorem mN:∀(ts tm:List TO),qM ts tm=tm.take ts.length
 |_::r,x::l=>congrArg (x::·) (mN r l)
 |[],[]=>rfl
 |[],_::_=>rfl
 |_::_,[]=>rfl
theorem SD:∀{ts:List TO} {n:Nat},vZ ts n=true<->ts.length<=n:=by
 intro ts;induction ts with
 |nil=>intro n;exact⟨λ_=>eJ n,λ_=>rfl⟩
 |cons t r ih=>
  intro n;cases n with
  |zero=>exact⟨λh=>(nomatch h),λh=>absurd h (Nat.not_succ_le_zero _)⟩
  |succ n=>exact ih.trans Nat.succ_le_succ_iff.symm
def leK(ts:List TO)(x:D)(σ:PS):Option (PV×List MO×List TO):=some (.d x,σ.pm,qM ts σ.tm)
def leave(ts:List TO)(v:PV)(σ:PS):Option (PV×List MO×List TO):=match v with
 | .aI n=>dy (ai (cX (leK ts)) (σ.freeze v)) (vZ ts n)
 |v=>some (v,σ.pm,qM ts σ.tm)
def mc(ts:List TO)(fl:Fl)(p:Ls×PS):Option (PV×List MO×List TO):=match fl with
 | .ret v=>leave ts v p.2
 | .next=>leave ts (.d .none) p.2
 |_=>none
def ti(X:Cx)(f:Fn):Spec:=λargs pm ts=>
 dy (ai (cX (mc ts)) (execs X f.body (args.map some++List.replicate (f.nl-f.ar) none) ⟨pm,ts⟩)) (Nat.beq args.length f.ar)
inductive Nw where
 |init (C f:Nat)
 |bare (C:Nat)
 |no
def nwK(n:Nat)(v:PV)(p:List MO×List TO):Option (PV×List MO×List TO):=match v with
 | .d .none=>some (.ax n,p)
 |_=>none
def gZ(fn:Nat->Spec):Nw->Spec
 | .init C f=>λargs pm ts=>ai (cX (nwK pm.length)) (fn f (.ax pm.length::args) (pm++[.inst C []]) ts)
 | .bare C=>λargs pm ts=>match args with
  |[]=>some (.d (.cin C),pm,ts)
  |_=>none
 | .no=>λ_ _ _=>none
structure Pr where
 glob:Nat->Option D
 fn:Nat->Option Fn
 aR:Nat->Nat->Option Nat
 new:Nat->Nw
 fuel:Nat
def run(P:Pr):Nat->Nat->Spec
 |0,_=>λ_ _ _=>none
 |n+1,f=>match P.fn f with
  |some F=>ti ⟨P.glob,run P n,P.aR,λc=>gZ (run P n) (P.new c),P.fuel⟩ F
  |none=>λ_ _ _=>none
section
local macro_rules (kind:=«term~~~_»)|s=>return mza "some" #[mza "some" #[s[1]]]
local macro_rules (kind:=«term#[_,]»)|s=>return mzi_ s[1].getSepArgs.toList
local macro_rules (kind:=scientific)|s=>return mzd_ s
local macro_rules (kind:=char)|s=>return mzo_ s
def Bd0:Ss:=#[.dU 'a' 0 (.lst .nil)]
def Bd1:Ss:=#[.expr (.aR (.attr 'a' 0) 0 #[.tup #['b','c']])]
def YS:Ss:=#[.asg 1 (.sj .nil),.ye [2,3] (.attr 'a' 0) #[.hY 'b' 'c' 'd'],.ret (.bi .sorted 'b')]
def Bd3:Ss:=#[.dU 'a' 0 (.lst .nil),.dU 'a' 9 (.sj .nil),.dU 'a' 8 (.lst #[.lit .none]),.dU 'a' 7 (.lst .nil),.dU 'a' 6 (.lst .nil),.dU 'a' 5 (.lst .nil),.dU 'a' 4 (.sj .nil),.dU 'a' 3 (.sj .nil),.dU 'a' 2 0.0,.dU 'a' 1 0.0,.gr 1 (.glob 0) #[.expr (.aR 'a' 3 #['b'])]]
def Bd4:Ss:=#[.ite (.cmp .isin 'b' (.attr 'a' 9)) #[.ret (.sub (.attr 'a' 9) 'b')] .nil,.asg 2 (.bi .len (.attr 'a' 0)),.expr (.aR (.attr 'a' 0) 0 #['b']),.hY (.attr 'a' 9) 'b' 'c',.ret 'c']
def Bd5:Ss:=#[.asg 4 (.bi .len (.attr 'a' 7)),.expr (.aR (.attr 'a' 7) 0 #['c']),.expr (.aR (.attr 'a' 6) 0 #['d']),.expr (.aR (.attr 'a' 5) 0 #['b']),.ret (.aR 'a' 3 #[.tup #[.glob 1,'e']])]
def Bd6:Ss:=#[.ite (.cmp .eq 'b' (.glob 3)) #[.bad] .nil,.asg 2 (.sub (.attr 'a' 0) 'b'),.ite (.cmp .eq (.sub 'c' 0.0) (.glob 2)) #[.ret (.sub 'c' 1.0)] .nil,.ret (.tup #['b'])]
def Bd7:Ss:=#[.asg 1 (.sub 'a' 0.0),.ite (.or #[.cmp .eq 'b' (.glob 7),.cmp .eq 'b' (.glob 8)]) #[.ret (.glob 9)] .nil,.ite (.cmp .eq 'b' (.glob 5)) #[.ret (.glob 6)] .nil,.ite (.cmp .eq 'b' (.glob 4)) #[.bad] .nil,.ret (.lit (.int (-1)))]
def Bd8:Ss:=#[.asg 2 (.sub (.attr 'a' 0) 'b'),.ite (.and #[.cmp .isin (.sub 'c' 0.0) (.glob 10),.cmp .eq (.sub 'c' (.lit (.int (-1)))) 1.0]) #[.bad] .nil,.ret (.lit (.int (-1)))]
def Bd9:Ss:=#[.ite (.and #[.or #[.cmp .isin (.glob 11) 'a',.cmp .isin (.glob 12) 'a'],.or #[.cmp .isin (.glob 13) 'a',.cmp .isin (.glob 14) 'a']]) #[.bad,.bad] .nil]
def YT:Ss:=#[.ite (.cmp .isin (.call 8 #['a','c']) 'b') #[.bad] .nil,.ret (.cmp .eW (.call 7 #[.sub (.attr 'a' 0) 'c']) 'b')]
def YU:Ss:=#[.gr 1 (.tup #[.glob 15,.glob 16,.glob 17]) #[.ite (.cmp .isin 'b' 'a') #[.bad] .nil],.ret (.lit (.int (-1)))]
def YV:Ss:=#[.asg 2 (.sj .nil),.gr 3 'b' #[.gr 4 (.call 6 #['a','d']) #[.hY 'c' 'e' 1.0]],.asg 5 (.call 11 #['c']),.ite (.cmp .ge 'f' 0.0) #[.bad] .nil,.expr (.call 9 #['c']),.asg 6 (.comp 'h' 7 (.bi .sorted 'c') #[.call 10 #['a','c','h']]),.ite (.nt 'g') #[.bad] .nil,.ite (.cmp .eq (.bi .len 'g') 1.0) #[.ret (.sub 'g' 0.0)] .nil,.ite (.cmp .gt (.bi .len 'g') (.glob 18)) #[.bad] .nil,.ret (.aR 'a' 3 #[.tup #[.glob 2,.bi .tuple 'g']])]
def YW:Ss:=#[.ret (.call 12 #['a',.comp 'd' 3 (.call 6 #['a','b']) #[.cmp .eW 'd' 'c']])]
def YX:Ss:=#[.ret (.cmp .isin (.sub (.sub (.attr 'a' 0) 'b') 0.0) (.glob 19))]
def YY:Ss:=#[.asg 2 (.sub (.attr 'a' 0) 'b'),.ret (.and #[.cmp .isin (.sub 'c' 0.0) (.glob 10),.cmp .eq (.sub 'c' (.lit (.int (-1)))) 1.0])]
def YZ:Ss:=#[.ite (.call 15 #['a','b']) #[.bad] .nil,.ret 'b']
def SE:Ss:=#[.dU 'a' 22 'b',.dU 'a' 21 'c',.dU 'a' 20 (.sj .nil),.dU 'a' 19 (.sj .nil),.dU 'a' 18 (.sj .nil),.dU 'a' 17 (.lst .nil),.dU 'a' 16 (.lst .nil),.dU 'a' 15 0.0,.dU 'a' 14 (.new 1 .nil),.dU 'a' 13 (.lit (.bool true)),.dU 'a' 12 (.lit .none),.dU 'a' 11 (.lit (.str [])),.dU 'a' 10 0.0]
def Y0:Ss:=#[.ret (.call 27 #['a','b','c'])]
def Y1:Ss:=#[.ite (.attr 'a' 13) #[.expr (.aR (.attr 'a' 14) 3 #['b',.attr 'a' 10])] .nil]
def Y2:Ss:=#[.ret (.or #[.cmp .eq 'b' 'c',.aR (.call 24 #['a']) 4 #['b','c']])]
def Y3:Ss:=#[.ret (.tup #[.bi .len (.attr (.attr 'a' 14) 0),.bi .len (.attr 'a' 17)])]
def Y4:Ss:=#[.asg 4 (.aR (.attr 'a' 20) 2 #['b']),.ret (.and #[.cmp .Rg 'e' (.lit .none),.aR 'e' 5 #['a','c','d']])]
def Y5:Ss:=#[.asg 2 (.new 2 #[.attr 'a' 22,'b']),.dU 'c' 20 (.attr 'a' 20),.dU 'c' 13 (.lit (.bool false)),.ret 'c']
def Y6:Ss:=#[.ite (.cmp .eq (.attr 'a' 21) (.glob 20)) #[.bad] .nil,.ite (.cmp .is (.attr 'a' 12) (.lit .none)) #[.dU 'a' 12 (.call 23 #['a',.glob 20])] .nil,.ret (.attr 'a' 12)]
def Y7:Ss:=#[.yf (.attr (.attr 'a' 14) 0) (.sub 'b' 0.0),.l_ (.cmp .gt (.bi .len (.attr 'a' 17)) (.sub 'b' 1.0)) #[.sN (.attr 'a' 19) (.aR (.attr 'a' 17) 1 .nil)]]
def Y8:Ss:=#[.asg 1 (.aR 'a' 6 #['b']),.ite (.call 14 #[.attr 'a' 23,'b']) #[.ret (.call 16 #[.attr 'a' 23,'b'])] .nil,.ret 'b']
def Y9:Ss:=#[.ite (.cmp .eq 'b' 'c') #[.ret (.lit (.bool true))] .nil,.asg 1 (.call 26 #[.attr 'a' 22,'b']),.asg 2 (.call 26 #[.attr 'a' 22,'c']),.ite (.cmp .eq 'b' 'c') #[.bad] .nil,.ite (.cmp .eq (.attr 'a' 21) (.glob 20)) #[.asg 3 (.attr (.attr (.attr 'a' 22) 23) 0),.ite (.or #[.cmp .eq 'b' (.glob 16),.cmp .eq 'c' (.glob 16)]) #[.bad] .nil,.ite (.or #[.cmp .isin (.sub (.sub 'd' 'b') 0.0) (.glob 22),.cmp .isin (.sub (.sub 'd' 'c') 0.0) (.glob 22)]) #[.ret (.lit (.bool false))] .nil,.ret (.call 28 #['a','b','c'])] .nil,.asg 4 (.call 32 #['a','b','c']),.ite (.or #[.cmp .eq 'e' 1.0,.and #[.cmp .eq (.attr 'a' 21) (.glob 21),.cmp .ne 'c' (.glob 3),.cmp .eq (.call 32 #['a','c','b']) 1.0]]) #[.bad] .nil,.ret (.and #[.cmp .lt 'e' 0.0,.call 28 #['a','b','c']])]
def Y_:Ss:=#[.asg 3 (.tup #['b','c']),.ite (.cmp .isin 'd' (.attr 'a' 18)) #[.ret (.sub (.attr 'a' 18) 'd')] .nil,.ite (.cmp .isin 'd' (.attr 'a' 19)) #[.ret (.lit (.bool true))] .nil,.ite (.cmp .ge (.attr 'a' 15) (.glob 24)) #[.bad,.bad] .nil,.asg 4 (.aR 'a' 7 .nil),.hY (.attr 'a' 19) 'd' 1.0,.expr (.aR (.attr 'a' 17) 0 #['d']),.vW 'a' 15 .add 1.0,.asg 5 (.ite (.cmp .eq (.attr 'a' 21) (.glob 20)) (.call 43 #['a','b','c']) (.call 38 #['a','b','c'])),.vW 'a' 15 .sub 1.0,.ite (.nt 'f') #[.expr (.call 25 #['a','e']),.ite (.or #[.cmp .eq (.sub 'e' 1.0) 0.0,.cmp .ne (.attr 'a' 21) (.glob 23)]) #[.hY (.attr 'a' 18) 'd' (.lit (.bool false))] .nil] #[.ite (.cmp .eq (.sub 'e' 1.0) 0.0) #[.expr (.call 29 #['a',.cmp .eq (.bi .len (.attr (.attr 'a' 14) 0)) (.sub 'e' 0.0)])] .nil],.ret 'f']
def Y':Ss:=#[.gr 2 (.attr 'a' 17) #[.sN (.attr 'a' 19) 'c',.ite 'b' #[.hY (.attr 'a' 18) 'c' (.lit (.bool true))] .nil],.dU 'a' 17 (.lst .nil)]
def Za:Ss:=#[.ret (.and #[.attr 'a' 13,.cmp .eq (.attr 'a' 21) (.glob 25)])]
def Zb:Ss:=#[.ite (.and #[.call 30 #['a'],.cmp .ne 'b' (.glob 16),.cmp .ne 'c' (.glob 16),.nt (.aR 'a' 8 #['b','c'])]) #[.expr (.aR 'a' 9 #[.glob 26])] .nil]
def Zc:Ss:=#[.asg 3 (.call 33 #['a','b','c']),.ite (.cmp .ge 'd' 0.0) #[.bad] .nil,.asg 4 (.attr (.attr (.attr 'a' 22) 23) 0),.asg 5 (.sub (.sub 'e' 'b') 0.0),.asg 6 (.sub (.sub 'e' 'c') 0.0),.ite (.or #[.cmp .isin 'f' (.glob 28),.cmp .isin 'g' (.glob 28)]) #[.ret (.lit (.int (-1)))] .nil,.ite (.cmp .eq 'c' (.glob 27)) #[.bad] .nil,.ite (.cmp .isin 'g' (.glob 22)) #[.ret (.ite (.cmp .isin 'f' (.glob 22)) (.call 36 #['a','b','c']) 0.0)] .nil,.bad,.bad]
def Zd:Ss:=#[.ite (.or #[.cmp .eq 'c' (.glob 15),.cmp .eq 'c' (.glob 16),.cmp .eq 'b' (.glob 3),.cmp .eq 'b' (.glob 16)]) #[.bad] .nil,.ite (.and #[.cmp .eq 'b' (.glob 15),.cmp .eq (.attr 'a' 21) (.glob 23)]) #[.bad] .nil,.ite (.cmp .eq 'c' (.glob 17)) #[.bad] .nil,.ite (.cmp .eq 'b' (.glob 15)) #[.bad,.bad,.bad] .nil,.ite (.cmp .eq 'b' (.glob 17)) #[.ret (.call 34 #['a','c'])] .nil,.ite (.and #[.cmp .eq 'c' (.glob 3),.cmp .eW (.sub (.sub (.attr (.attr (.attr 'a' 22) 23) 0) 'b') 0.0) (.glob 28)]) #[.bad] .nil,.ret (.lit (.int (-1)))]
def Ze:Ss:=#[.ite (.cmp .isin (.sub (.sub (.attr (.attr (.attr 'a' 22) 23) 0) 'b') 0.0) (.glob 29)) #[.ret (.lit (.int (-1)))] .nil,.bad,.bad,.bad]
def Zf:Ss:=#[.ret (.and #[.cmp .eq (.sub 'a' 0.0) (.glob 4),.cmp .eq (.call 7 #['a']) (.glob 6)])]
def Zg:Ss:=#[.ite (.cmp .eq 'b' (.glob 30)) #[.bad] .nil,.asg 3 (.sub (.attr (.attr (.attr 'a' 22) 23) 0) 'b'),.asg 4 (.sub (.attr (.attr (.attr 'a' 22) 23) 0) 'c'),.ite (.and #[.cmp .eq (.call 7 #['d']) 'c',.cmp .ge (.call 7 #['d']) 0.0]) #[.bad] .nil,.ite (.and #[.cmp .eq (.attr 'a' 21) (.glob 21),.cmp .eq (.call 7 #['e']) 'b']) #[.bad] .nil,.ite (.and #[.cmp .eq (.sub 'd' 0.0) (.glob 4),.cmp .eq (.sub 'e' 0.0) (.glob 4),.cmp .eq (.sub 'd' 1.0) (.sub 'e' 1.0)]) #[.bad] .nil,.ite (.cmp .eq (.sub 'd' 0.0) (.glob 4)) #[.bad] .nil,.ret (.call 37 #['a','b','d','e'])]
def Zh:Ss:=#[.ite (.or #[.cmp .eq (.attr 'a' 21) (.glob 23),.nt (.call 35 #['d'])]) #[.ret 0.0] .nil,.bad,.bad]
def Zi:Ss:=#[.asg 3 (.attr (.attr (.attr 'a' 22) 23) 0),.asg 4 (.sub (.sub 'd' 'b') 0.0),.asg 5 (.sub (.sub 'd' 'c') 0.0),.ite (.cmp .eq 'e' (.glob 2)) #[.ret (.call 40 #['a','b','c'])] .nil,.ite (.cmp .eq 'f' (.glob 2)) #[.ret (.call 42 #['a','b','c'])] .nil,.ret (.call 22 #['a',.call 39 #['e','f'],'b','c'])]
def Zj:Ss:=#[.ite (.or #[.cmp .eq 'a' (.glob 32),.cmp .eq 'b' (.glob 32)]) #[.bad] .nil,.ite (.or #[.cmp .isin 'a' (.glob 29),.cmp .isin 'b' (.glob 29)]) #[.ret (.glob 31)] .nil,.bad,.bad,.bad]
def Zk:Ss:=#[.gr 3 (.call 6 #[.attr (.attr 'a' 22) 23,'b']) #[.ite (.aR 'a' 4 #['d','c']) #[.ite (.cmp .eq (.attr 'a' 21) (.glob 21)) #[.bad] .nil] #[.ite (.cmp .ne (.attr 'a' 21) (.glob 21)) #[.ret (.lit (.bool false))] .nil]],.ret (.cmp .ne (.attr 'a' 21) (.glob 21))]
def Zl:Ss:=#[.asg 3 (.lit .none),.gr 4 'c' #[.asg 5 (.aR 'a' 7 .nil),.ite (.aR 'a' 4 #['b','e']) #[.ite (.cmp .eq (.bi .len (.attr (.attr 'a' 14) 0)) (.sub 'f' 0.0)) #[.ret (.lit (.bool true))] .nil,.bad,.bad] .nil],.ite (.cmp .is 'd' (.lit .none)) #[.ret (.lit (.bool false))] .nil,.bad,.bad]
def Zm:Ss:=#[.asg 3 (.attr (.attr 'a' 22) 23),.asg 4 (.call 6 #['d','c']),.ite (.or #[.cmp .isin 'b' 'e',.call 41 #['a','b','e']]) #[.ret (.lit (.bool true))] .nil,.asg 5 (.sub (.sub (.attr 'd' 0) 'b') 0.0),.ite (.cmp .isin 'f' (.glob 29)) #[.ret (.call 22 #['a',.glob 31,'b','c'])] .nil,.ite (.and #[.cmp .eq 'f' (.glob 32),.call 22 #['a',.glob 36,'b','c']]) #[.bad] .nil,.ite (.or #[.cmp .eq 'f' (.glob 32),.cmp .isin 'f' (.glob 35)]) #[.bad] .nil,.ret (.and #[.cmp .eq 'f' (.glob 33),.call 22 #['a',.glob 34,'b','c']])]
def Zn:Ss:=#[.asg 3 (.attr (.attr (.attr 'a' 22) 23) 0),.asg 4 (.sub 'd' 'b'),.asg 5 (.sub 'd' 'c'),.ite (.and #[.cmp .eq (.sub 'e' 0.0) (.sub 'f' 0.0),.or #[.cmp .eq (.sub 'e' 0.0) (.glob 2),.cmp .eq (.sub 'e' 0.0) (.glob 32)]]) #[.ret (.and #[.call 44 #['a',.sub 'e' 1.0,.sub 'f' 1.0],.call 44 #['a',.sub 'f' 1.0,.sub 'e' 1.0]])] .nil,.ite (.or #[.cmp .isin (.sub 'e' 0.0) (.tup #[.glob 2,.glob 32]),.cmp .isin (.sub 'f' 0.0) (.tup #[.glob 2,.glob 32])]) #[.ret (.lit (.bool false))] .nil,.bad]
def Zo:Ss:=#[.gr 3 'b' #[.ite (.nt (.call 41 #['a','d','c'])) #[.ret (.lit (.bool false))] .nil],.ret (.lit (.bool true))]
def Zp:Ss:=#[.ret (.aR 'a' 3 #[.tup #[.glob 1,'b']])]
def Zq:Ss:=#[.asg 2 (.sub (.attr 'a' 7) 'b'),.ret (.ite (.or #[.cmp .lt 'c' 0.0,.cmp .eq 'c' (.glob 15)]) (.glob 17) 'c')]
def Zr:Ss:=#[.asg 2 (.sub (.sub (.attr (.attr 'a' 23) 0) 'b') 0.0),.ite (.or #[.cmp .isin 'c' (.glob 35),.and #[.cmp .eq 'c' (.glob 32),.nt .bad]]) #[.bad] .nil,.ret (.call 13 #[.attr 'a' 23,.aR 'a' 10 #[.tup #[.glob 37,'b']],.tup #[.glob 9,.glob 6]])]
def Zs:Ss:=#[.ret (.aR (.attr (.attr 'a' 22) 23) 3 #[.tup #[.glob 38,'b',.call 45 #[.attr (.attr 'a' 22) 23,.sub 'c' 1.0]]])]
def Zt:Ss:=#[.ite (.or #[.cmp .ge (.sub 'c' 3.0) 0.0,.cmp .eq (.sub 'c' 5.0) 1.0]) #[.ret (.lit (.bool false))] .nil,.asg 3 (.aR (.attr (.attr 'a' 22) 23) 3 #[.tup #[.glob 37,'b']]),.ite (.or #[.nt (.aR 'a' 4 #['d',.sub 'c' 2.0]),.nt (.aR 'a' 4 #[.sub 'c' 4.0,.call 48 #['a','b','c']])]) #[.ret (.lit (.bool false))] .nil,.expr (.aR 'a' 9 #[.glob 40]),.ite (.cmp .eq (.sub 'c' 6.0) 1.0) #[.expr (.aR 'a' 9 #[.glob 39])] .nil,.ret (.lit (.bool true))]
def Zu:Ss:=#[.ret (.and #[.cmp .eq (.sub 'a' 0.0) (.glob 41),.cmp .eq .bad (.tup #[.tup .nil,.tup .nil,.tup .nil,.tup .nil,.tup .nil])])]
def Zv:Ss:=#[.ite (.and #[.cmp .eq (.sub 'c' 0.0) (.glob 42),.call 62 #['a','c','d']]) #[.ret (.lit (.bool true))] .nil,.ite (.and #[.cmp .eq (.sub 'd' 5.0) 1.0,.call 50 #['c'],.cmp .ne (.attr 'a' 21) (.glob 23)]) #[.bad,.bad] .nil,.ite (.or #[.cmp .ge (.sub 'd' 3.0) 0.0,.cmp .eq (.sub 'd' 5.0) 2.0]) #[.ret (.lit (.bool false))] .nil,.ite (.cmp .eq (.sub 'd' 4.0) (.call 48 #['a','b','d'])) #[.ret (.call 54 #['a','b','d'])] .nil,.ret (.and #[.cmp .ne (.sub 'c' 0.0) (.glob 42),.cmp .eq (.sub 'd' 5.0) 0.0,.call 56 #['a','b','d']])]
def Zw:Ss:=#[.asg 3 (.attr 'a' 22),.ite (.cmp .eq 'c' (.aR 'd' 10 #[.tup #[.glob 37,'b']])) #[.ret (.lit .none)] .nil,.ite (.cmp .isin (.sub (.sub (.attr (.attr 'd' 23) 0) 'b') 0.0) (.glob 35)) #[.bad,.bad] .nil,.expr (.aR 'a' 9 #[.glob 43])]
def Zy:Ss:=#[.asg 3 (.sub (.attr 'a' 0) 'c'),.ret (.cmp .eq (.sub (.attr 'a' 0) (.ite (.cmp .eq (.sub 'd' 0.0) (.glob 32)) (.sub (.sub 'd' 1.0) 0.0) 'c')) (.tup #[.glob 37,'b']))]
def Md:Ss:=#[.asg 3 (.and #[.cmp .eq (.sub 'c' 6.0) 0.0,.call 53 #[.attr (.attr 'a' 22) 23,'b',.sub 'c' 2.0]]),.ite (.or #[.cmp .eq (.sub 'c' 6.0) 2.0,.and #[.cmp .eq (.sub 'c' 6.0) 0.0,.nt 'd',.call 55 #[.attr 'a' 22,'b']]]) #[.expr (.aR 'a' 9 #[.glob 39])] .nil,.ite (.and #[.cmp .eq (.sub 'c' 5.0) 1.0,.cmp .ne (.sub 'c' 6.0) 1.0]) #[.expr (.aR 'a' 9 #[.glob 26])] .nil,.ite (.cmp .eq (.sub 'c' 5.0) 0.0) #[.expr (.call 52 #['a','b',.sub 'c' 2.0])] .nil,.ret (.lit (.bool true))]
def Zz:Ss:=#[.ite (.cmp .eW (.sub (.sub (.attr (.attr 'a' 23) 0) 'b') 0.0) (.glob 35)) #[.ret (.lit (.bool true))] .nil,.bad]
def ZA:Ss:=#[.asg 3 (.attr 'a' 22),.ite (.nt (.aR 'a' 4 #[.sub 'c' 2.0,.call 47 #['d','b']])) #[.ret (.lit (.bool false))] .nil,.asg 4 (.aR 'd' 10 #[.tup #[.glob 38,'b',.call 45 #[.attr 'd' 23,.sub 'c' 1.0]]]),.ite (.nt (.aR 'a' 4 #['e',.sub 'c' 4.0])) #[.ret (.lit (.bool false))] .nil,.ite (.cmp .eW (.sub (.sub (.attr (.attr 'd' 23) 0) 'b') 0.0) (.glob 35)) #[.expr (.call 52 #['a','b',.sub 'c' 2.0])] .nil,.ite (.cmp .ne (.sub 'c' 6.0) 1.0) #[.expr (.call 31 #['a','e',.sub 'c' 4.0]),.ite (.call 55 #['d','b']) #[.expr (.aR 'a' 9 #[.glob 39])] .nil] .nil,.ret (.lit (.bool true))]
def Me:Ss:=#[.ret (.ite (.cmp .eq 'a' 2.0) (.lit (.int (-1))) 'a')]
def SF:Ss:=#[.asg 3 (.sub (.attr (.attr (.attr 'a' 22) 23) 0) 'c'),.asg 4 (.sub (.attr (.attr (.attr 'a' 22) 23) 0) 'b'),.ite (.and #[.cmp .eq (.sub 'd' 0.0) (.glob 37),.cmp .eq (.sub 'e' 0.0) (.glob 37)]) #[.ret (.aR 'a' 4 #[.sub 'd' 1.0,.sub 'e' 1.0])] .nil,.ret (.aR 'a' 4 #['b','c'])]
def Mf:Ss:=#[.ite (.cmp .eq (.attr 'a' 21) (.glob 20)) #[.bad] .nil,.ite (.and #[.cmp .ne (.attr 'a' 21) (.glob 21),.cmp .gt (.call 57 #[.sub 'b' 5.0]) (.call 57 #[.sub 'c' 5.0])]) #[.ret (.lit (.bool false))] .nil,.ret (.call 58 #['a',.sub 'c' 2.0,.sub 'b' 2.0])]
def SG:Ss:=#[.ite (.or #[.and #[.cmp .eq (.sub 'b' 6.0) 1.0,.cmp .ne (.sub 'c' 6.0) 1.0],.and #[.cmp .eq (.sub 'b' 6.0) 0.0,.cmp .eq (.sub 'c' 6.0) 2.0]]) #[.expr (.aR 'a' 9 #[.glob 39])] .nil,.ite (.and #[.cmp .ne (.sub 'b' 5.0) (.sub 'c' 5.0),.cmp .ne (.sub 'c' 6.0) 1.0]) #[.expr (.aR 'a' 9 #[.glob 26])] .nil]
def Mg:Ss:=#[.ite (.cmp .eq (.sub 'b' 2.0) (.sub 'c' 2.0)) #[.ret (.lit .none)] .nil,.asg 3 (.attr (.attr (.attr 'a' 22) 23) 0),.asg 4 (.cmp .eq (.sub (.sub 'd' (.sub 'c' 2.0)) 0.0) (.glob 37)),.ite (.or #[.cmp .eq (.sub 'c' 5.0) 2.0,.and #[.cmp .eq (.sub 'c' 5.0) 0.0,.nt 'e']]) #[.expr (.aR 'a' 9 #[.glob 44])] .nil,.ite (.and #[.cmp .eq (.sub 'c' 5.0) 0.0,'e',.cmp .ne (.sub 'c' 6.0) 1.0]) #[.expr (.aR 'a' 9 #[.glob 26])] .nil,.ite (.and #[.nt 'e',.cmp .eq (.sub 'b' 6.0) 0.0,.cmp .eq (.sub 'c' 6.0) 0.0,.cmp .isin (.sub (.sub 'd' (.sub 'b' 2.0)) 0.0) (.tup #[.glob 37,.glob 32])]) #[.expr (.aR 'a' 9 #[.glob 39])] .nil]
def ZC:Ss:=#[.ite (.or #[.cmp .ge (.sub 'b' 3.0) 0.0,.cmp .ge (.sub 'c' 3.0) 0.0,.nt (.call 59 #['a','b','c'])]) #[.ret (.lit (.bool false))] .nil,.asg 3 (.aR (.attr 'a' 22) 11 #[.sub 'b' 4.0,.sj #[.sub 'b' 1.0,.call 45 #[.attr (.attr 'a' 22) 23,.sub 'c' 1.0]]]),.ite (.nt (.aR 'a' 4 #['d',.sub 'c' 4.0])) #[.ret (.lit (.bool false))] .nil,.expr (.call 60 #['a','b','c']),.expr (.call 61 #['a','b','c']),.ite (.cmp .ne (.sub 'c' 6.0) 1.0) #[.expr (.call 31 #['a','d',.sub 'c' 4.0])] .nil,.ret (.lit (.bool true))]
def ZD:Ss:=#[.ret 'b']
def ZE:Ss:=#[.ret (.aR (.attr 'a' 23) 3 #['b'])]
def ZF:Ss:=#[.ret (.bi .tuple (.comp (.call 67 #['a','d','c']) 3 'b' .nil))]
def ZG:Ss:=#[.ite (.cmp .eq (.sub 'c' 0.0) (.glob 38)) #[.ret (.aR 'a' 10 #[.bin .add (.tup #[.glob 38]) (.call 65 #['a',.Ei 'c' 1.0 (.lit .none),'d'])])] .nil,.ite (.cmp .eq (.sub 'c' 0.0) (.glob 37)) #[.bad] .nil,.ite (.cmp .eq (.sub 'c' 0.0) (.glob 8)) #[.bad] .nil,.ite (.cmp .eq (.sub 'c' 0.0) (.glob 47)) #[.bad] .nil,.ite (.cmp .eq (.sub 'c' 0.0) (.glob 46)) #[.bad] .nil,.ite (.cmp .eq (.sub 'c' 0.0) (.glob 45)) #[.bad,.bad] .nil,.ret 'b']
def ZH:Ss:=#[.ite (.or #[.cmp .lt 'b' 0.0,.cmp .eq (.bi .len 'c') 0.0]) #[.bad] .nil,.asg 3 (.sub (.attr (.attr 'a' 23) 0) 'b'),.ite (.cmp .eq (.sub 'd' 0.0) (.glob 1)) #[.ret (.aR 'c' 2 #[.sub 'd' 1.0,'b'])] .nil,.ite (.cmp .eq (.sub 'd' 0.0) (.glob 2)) #[.ret (.call 12 #[.attr 'a' 23,.call 65 #['a',.sub 'd' 1.0,'c']])] .nil,.ite (.cmp .eq (.sub 'd' 0.0) (.glob 49)) #[.bad] .nil,.ite (.cmp .eq (.sub 'd' 0.0) (.glob 33)) #[.bad] .nil,.ite (.cmp .eq (.sub 'd' 0.0) (.glob 41)) #[.bad] .nil,.ite (.cmp .eq (.sub 'd' 0.0) (.glob 48)) #[.bad] .nil,.ret (.call 66 #['a','b','d','c'])]
def SH:Ss:=#[.dU 'a' 23 'b',.dU 'a' 15 0.0,.dU 'a' 25 200.0,.dU 'a' 24 40.0]
def ZI:Ss:=#[.ret (.call 67 #['a','b','c'])]
def ZJ:Ss:=#[.ret (.and #[.cmp .ne (.attr 'b' 21) (.glob 20),.call 71 #['b','c','d']])]
def ZK:Ss:=#[.asg 3 (.sub (.attr (.attr (.attr 'a' 22) 23) 0) 'b'),.ite (.cmp .ne (.sub 'd' 0.0) (.glob 1)) #[.ret (.lit (.bool false))] .nil,.asg 4 (.call 46 #[.attr (.attr 'a' 22) 23,.sub 'd' 1.0]),.ret (.and #[.cmp .ne 'e' 'b',.aR 'a' 4 #['e','c']])]
def ZL:Ss:=#[.hY (.attr 'a' 20) (.glob 31) (.new 4 .nil)]
def ZM:Ss:=#[.ret (.lst #[.tup #[3.0,.lit (.str [97]),0.0],.tup #[4.0,1.0,0.0],.tup #[1.0,.lit (.str [110,117,108,108])]])]
def ZN:Ss:=#[.ret (.lst #[.tup #[1.0,0.0],.tup #[0.0,2.0],.tup #[0.0,3.0],.tup #[2.0,3.0],.tup #[5.0,4.0],.tup #[5.0,6.0]])]
def Mh:Ss:=#[.ret (.bin .add (.sub 'a' (.bin .mod 'b' (.bi .len 'a'))) (.bin .mul 31.0 (.bin .fdiv 'b' (.bi .len 'a'))))]
def Mi:Ss:=#[.asg 5 (.and #['e',.cmp .lt 'a' 4.0]),.asg 6 (.ite (.or #[.cmp .lt 'a' 2.0,.cmp .lt 'b' 2.0]) 'b' 0.0),.ret (.tup #['a','g','c',.ite (.or #[.cmp .gt 'd' 0.0,'f']) 'd' 1.0,'f'])]
def Mj:Ss:=#[.asg 1 (.bin .fdiv 'a' 7.0),.ret (.call 76 #[.bin .mod 'a' 7.0,.bin .mod 'b' 3.0,.bin .mod (.bin .fdiv 'b' 3.0) 3.0,.bin .mod (.bin .fdiv 'b' 18.0) 8.0,.cmp .eq (.bin .mod (.bin .fdiv 'b' 9.0) 2.0) 1.0])]
def ZO:Ss:=#[.kc [4,5,6,7,8] 'd',.asg 9 (.call 5 #['a',.lit (.str [80]),.sub 'b' 'e',.lit (.int (-1))]),.asg 10 (.comp (.aR 'a' 3 #[.sub (.call 73 .nil) 'l']) 11 (.tup #[0.0,1.0,2.0]) #[.cmp .eq (.bin .mod (.bin .fdiv 'h' (.bin .pow 2.0 'l')) 2.0) 1.0]),.ite 'i' #[.expr (.aR 'k' 0 #[.aR 'a' 3 #[.tup #[15.0,.sub 'c' (.ite (.cmp .eq 'e' 1.0) 1.0 0.0),'j']]])] .nil,.ret (.aR 'a' 3 #[.tup #[17.0,.sub (.sub (.attr 'a' 0) 'j') 1.0,.sub 'b' 'e',.lit (.int (-1)),.call 12 #['a','k'],'f','g']])]
def ZP:Ss:=#[.asg 1 (.lst #[.lst .nil]),.gr 2 'a' #[.asg 1 (.bin .add 'b' (.comp (.bin .add 'd' (.lst #['c'])) 3 'b' .nil))],.ret (.Ei 'b' 1.0 (.lit .none))]
def ZQ:Ss:=#[.asg 2 (.sj .nil),.gr 3 'a' #[.kc [4,5,6] (.sub 'a' 'd'),.ite (.and #[.cmp .eq 'b' 4.0,'f']) #[.cont] .nil,.ite (.and #[.cmp .eq 'b' 3.0,'f']) #[.hY 'c' 'd' (.tup #[.bin .bor 'e' 8.0,.lit (.bool false),'g'])] #[.hY 'c' 'd' (.tup #['e','f',.and #['g',.cmp .ne 'b' 2.0]])]],.ite (.cmp .eq 'b' 1.0) #[.hY 'c' (.lit (.str [122])) (.tup #[32.0,.lit (.bool false),.lit (.bool false)])] .nil,.ret 'c']
def ZR:Ss:=#[.asg 1 (.lst .nil),.gr 2 (.glob 50) #[.asg 3 (.ite (.or #[.cmp .isin 2.0 'a',.cmp .isin 3.0 'a']) (.call 79 #[.comp 'i' 8 'c' .nil]) (.lst #[.lst .nil])),.gr 4 'd' #[.gr 5 (.ite (.cmp .isin 3.0 'a') (.call 79 #['e']) (.lst #['e'])) #[.gr 6 (.ite (.cmp .isin 4.0 'a') (.call 79 #[.lst #[.lit (.str [112]),.lit (.str [113])]]) (.lst #[.lst .nil])) #[.gr 7 (.bi .range (.ite (.cmp .isin 1.0 'a') 5.0 1.0)) #[.expr (.aR 'b' 0 #[.tup #['c',.call 80 #['c','h'],'e','f','g']])]]]]],.ret 'b']
def SI:Ss:=#[.ite (.cmp .eq (.bi .len 'a') 1.0) #[.ret (.sub 'b' (.sub 'a' 0.0))] .nil,.kc [2,3,4,5,6] 'a',.asg 7 (.sub 'b' (.ite (.cmp .eq 'c' 1.0) 1.0 0.0)),.asg 8 (.sj .nil),.gr 9 (.sub (.lst #['h','h',.sub 'b' 2.0,.sub 'b' 3.0,.sub 'b' 4.0,.lst #[.lit (.str [112]),.lit (.str [113])],.lst #[.lit (.str [112])]]) 'c') #[.kc [10,11,12] (.ite (.cmp .lt 'c' 4.0) (.sub 'h' 'j') (.tup #[0.0,.lit (.bool false),.lit (.bool false)])),.asg 13 'f',.ite 'g' #[.asg 13 (.ite 'l' (.bin .bor (.bin .bor 'f' 'k') 8.0) (.bin .bor 'f' 'k'))] .nil,.ite (.cmp .gt 'c' 1.0) #[.hY 'i' 'j' (.tup #['n',.cmp .eq 'd' 1.0,.cmp .eq 'e' 1.0]),.cont] .nil,.ite (.and #[.cmp .eq 'd' 2.0,'l']) #[.asg 13 (.bin .band 'n' 55.0)] .nil,.hY 'i' 'j' (.tup #['n',.ite (.cmp .eq 'd' 0.0) 'l' (.cmp .eq 'd' 1.0),.ite (.cmp .eq 'e' 0.0) 'm' (.cmp .eq 'e' 1.0)])],.ret 'i']
def Mk:Ss:=#[.asg 2 (.lst .nil),.gr 3 'b' #[.kc [4,5,6] (.sub 'b' 'd'),.ite (.cmp .eW 'd' 'a') #[.ite (.nt 'f') #[.expr (.aR 'c' 0 #[11.0])] .nil,.cont] .nil,.kc [7,8,9] (.sub 'a' 'd'),.asg 10 (.ite 'f' (.bin .bor 'e' 8.0) 'e'),.asg 11 (.ite 'i' (.bin .bor 'h' 8.0) 'h'),.ite (.and #['i',.nt 'f']) #[.expr (.aR 'c' 0 #[11.0]),.asg 11 (.bin .band 'h' 55.0)] #[.ite (.and #[.nt 'g',.cmp .ne 'l' 'k']) #[.expr (.aR 'c' 0 #[3.0])] .nil],.ite (.cmp .ne (.bin .band 'l' 'k') 'l') #[.expr (.aR 'c' 0 #[0.0])] .nil,.ite (.and #['j',.nt 'g']) #[.expr (.aR 'c' 0 #[4.0])] .nil],.ret 'c']
def yi:Ss:=#[.ite (.cmp .eq (.bi .len 'a') 1.0) #[.asg 2 (.ite (.cmp .eq (.sub 'a' 0.0) 0.0) (.cmp .isin (.sub 'b' 0.0) (.tup #[0.0,2.0,3.0])) (.cmp .eq (.sub 'b' 0.0) 1.0)),.ret (.and #['c',.nt (.and #[.cmp .eq (.sub 'b' 1.0) 1.0,.cmp .gt (.sub 'b' 3.0) 0.0])])] .nil,.ite (.cmp .eq (.bi .len 'b') 1.0) #[.ret (.cmp .eq (.sub 'a' 0.0) (.sub 'b' 0.0))] .nil,.ite (.and #[.cmp .ne (.sub 'a' 0.0) (.sub 'b' 0.0),.cmp .eW (.tup #[.sub 'a' 0.0,.sub 'b' 0.0]) (.call 74 .nil)]) #[.ret (.lit (.bool false))] .nil,.ret (.nt (.and #[.sub 'a' 4.0,.sub 'b' 4.0,.cmp .ne (.cmp .eq (.sub 'a' 0.0) 1.0) (.cmp .eq (.sub 'b' 0.0) 1.0)]))]
def yj:Ss:=#[.ite (.cmp .eq (.bi .len 'b') 1.0) #[.ret (.lit (.bool false))] .nil,.ite (.cmp .isin (.sub 'b' 0.0) (.tup #[2.0,3.0])) #[.ret (.and #[.cmp .eq (.sub 'b' 1.0) 0.0,.or #[.cmp .eq (.bi .len 'a') 1.0,.cmp .ne (.sub 'a' 1.0) 1.0]])] .nil,.ret (.and #[.cmp .gt (.bi .len 'a') 1.0,.cmp .eq (.sub 'a' 0.0) 1.0,.cmp .eq (.sub 'b' 0.0) 0.0,.cmp .eq (.sub 'a' 1.0) 2.0])]
def Ml:Ss:=#[.ret (.or #[.cmp .isin 'a' 'b',.and #[.cmp .eq 'a' 11.0,.cmp .isin 5.0 'b']])]
def HV:Ss:=#[.asg 1 (.comp (.bin .mod 'z' 99991.0) 25 (.Ei 'a' (.lit .none) 9.0) .nil),.ite (.cmp .eq (.bi .len 'b') 0.0) #[.asg 1 (.lst #[4.0])] .nil,.asg 2 (.new 0 .nil),.asg 3 (.call 5 #['c',.lit (.str [84]),.lit (.int (-1)),.lit (.int (-1))]),.asg 4 (.call 5 #['c',.lit (.str [85]),'d',.lit (.int (-1))]),.asg 5 (.call 5 #['c',.lit (.str [75]),.aR 'c' 3 #[.tup #[14.0,'d']],.lit (.int (-1))]),.asg 6 (.aR 'c' 3 #[.tup #[3.0,.lit (.str [112]),0.0]]),.asg 7 (.call 12 #['c',.lst #['g',.aR 'c' 3 #[.tup #[3.0,.lit (.str [113]),0.0]]]]),.asg 8 (.lst #[.aR 'c' 3 #[.tup #[14.0,'d']],.aR 'c' 3 #[.tup #[14.0,'e']],'f',.call 5 #['c',.lit (.str [74]),'f',.lit (.int (-1))],.call 5 #['c',.lit (.str [76]),'h',.lit (.int (-1))],'h','g']),.gr 9 (.bi .range (.bin .fdiv (.bin .add (.bi .len 'b') 2.0) 3.0)) #[.asg 10 (.call 75 #['b',.bin .mul 3.0 'j']),.asg 11 (.call 77 #[.call 75 #['b',.bin .add (.bin .mul 3.0 'j') 1.0]]),.asg 12 (.call 77 #[.call 75 #['b',.bin .add (.bin .mul 3.0 'j') 2.0]]),.ite (.cmp .eq (.bin .mod (.bin .fdiv 'k' 4.0) 2.0) 1.0) #[.asg 12 (.call 76 #[.sub 'm' 0.0,.sub 'm' 1.0,.sub 'm' 2.0,.sub 'l' 3.0,.sub 'l' 4.0])] .nil,.ite (.cmp .eq (.bin .mod (.bin .fdiv 'k' 8.0) 2.0) 1.0) #[.asg 12 (.call 76 #[.sub 'l' 0.0,.sub 'm' 1.0,.sub 'm' 2.0,.sub 'm' 3.0,.sub 'm' 4.0])] .nil,.ite (.cmp .eq (.bin .mod 'k' 4.0) 2.0) #[.asg 11 (.tup #[.bin .mod (.bin .fdiv 'k' 16.0) 2.0])] .nil,.ite (.cmp .eq (.bin .mod 'k' 4.0) 3.0) #[.asg 12 (.tup #[.bin .mod (.bin .fdiv 'k' 16.0) 2.0])] .nil,.asg 13 (.ite (.cmp .eq (.bi .len 'l') 1.0) (.sub (.tup #['d','e']) (.sub 'l' 0.0)) (.call 78 #['c','i',.tup #['d','e'],'l'])),.asg 14 (.ite (.cmp .eq (.bi .len 'm') 1.0) (.sub (.tup #['d','e']) (.sub 'm' 0.0)) (.call 78 #['c','i',.tup #['d','e'],'m'])),.asg 15 (.new 2 #[.new 3 #['c'],1.0]),.expr (.call 72 #['p']),.ite (.cmp .eq (.bi .len 'm') 1.0) #[.asg 16 (.call 49 #['p','o',.sub (.attr 'c' 0) 'n'])] #[.asg 16 (.call 51 #['p','n',.sub (.attr 'c' 0) 'n',.sub (.attr 'c' 0) 'o'])],.asg 17 (.aR (.attr 'p' 14) 12 .nil),.asg 18 (.lst .nil),.gr 19 (.call 81 #[.lst #[.ite (.cmp .gt (.bi .len 'l') 1.0) (.sub 'l' 0.0) 1.0,.ite (.cmp .gt (.bi .len 'm') 1.0) (.sub 'm' 0.0) 1.0]]) #[.asg 18 (.bin .add 's' (.call 83 #[.call 82 #['l','t'],.call 82 #['m','t']]))],.ite 'q' #[.ite (.and #[.cmp .gt (.bi .len 'm') 1.0,.cmp .gt (.bi .len (.comp 'y' 24 's' #[.nt (.call 86 #['y','r'])])) 0.0]) #[.bad] .nil,.ite (.and #[.cmp .eq (.bi .len 'm') 1.0,.or #[.cmp .isin 0.0 's',.cmp .isin 11.0 's']]) #[.bad] .nil,.asg 20 (.comp 'x' 23 (.tup #[3.0,4.0]) #[.cmp .isin 'x' 's']),.asg 21 (.ite (.cmp .gt (.bi .len 'l') 1.0) 11.0 5.0),.ite (.cmp .eq (.bi .len 'm') 1.0) #[.ite (.cmp .ne 'r' (.bin .add (.comp 'w' 22 'u' #[.cmp .eq 'w' 4.0]) (.lst #[15.0]))) #[.bad] .nil] #[.ite (.and #[.cmp .lt (.sub 'l' 0.0) 2.0,.ite (.cmp .gt (.bi .len 'l') 1.0) (.cmp .lt (.sub 'm' 0.0) 2.0) (.or #[.cmp .eq (.sub 'm' 3.0) 0.0,.cmp .gt (.sub 'm' 0.0) 1.0])]) #[.ite (.cmp .ne 'r' (.bin .add 'u' (.ite (.cmp .isin 11.0 's') (.lst #['v']) (.lst .nil)))) #[.bad] .nil] .nil]] #[.ite (.and #[.call 84 #['l','m'],.cmp .eW 0.0 's',.or #[.cmp .eW 11.0 's',.call 85 #['l','m']]]) #[.bad] .nil],.ite (.and #[.cmp .eq 'l' 'm',.or #[.nt 'q',.cmp .ne 'r' (.lst .nil)]]) #[.bad] .nil],.ret (.lit (.bool true))]
def ZS{α:Type}(x:α)(f:Nat->Option α):Nat->Option α
 |0=>some x
 |n+1=>f n
def EI{α:Type}:List α->Nat->Option α
 |[]=>λ_=>none
 |x::r=>ZS x (EI r)
def fnL:List Fn:=[⟨1,1,Bd0⟩,⟨3,3,Bd1⟩,⟨1,4,YS⟩,⟨1,2,Bd3⟩,⟨2,3,Bd4⟩,⟨4,5,Bd5⟩,⟨2,3,Bd6⟩,⟨1,2,Bd7⟩,⟨2,3,Bd8⟩,⟨1,1,Bd9⟩,⟨3,3,YT⟩,⟨1,2,YU⟩,⟨2,8,YV⟩,⟨3,4,YW⟩,⟨2,2,YX⟩,⟨2,3,YY⟩,⟨2,2,YZ⟩,⟨3,3,SE⟩,⟨3,3,Y0⟩,⟨2,2,Y1⟩,⟨3,3,Y2⟩,⟨1,1,Y3⟩,⟨4,5,Y4⟩,⟨2,3,Y5⟩,⟨1,1,Y6⟩,⟨2,2,Y7⟩,⟨2,2,Y8⟩,⟨3,5,Y9⟩,⟨3,6,Y_⟩,⟨2,3,Y'⟩,⟨1,1,Za⟩,⟨3,3,Zb⟩,⟨3,7,Zc⟩,⟨3,3,Zd⟩,⟨2,3,Ze⟩,⟨1,1,Zf⟩,⟨3,5,Zg⟩,⟨4,4,Zh⟩,⟨3,6,Zi⟩,⟨2,2,Zj⟩,⟨3,4,Zk⟩,⟨3,6,Zl⟩,⟨3,6,Zm⟩,⟨3,6,Zn⟩,⟨3,4,Zo⟩,⟨2,2,Zp⟩,⟨2,3,Zq⟩,⟨2,3,Zr⟩,⟨3,3,Zs⟩,⟨3,4,Zt⟩,⟨1,1,Zu⟩,⟨4,4,Zv⟩,⟨3,5,Zw⟩,⟨3,4,Zy⟩,⟨3,4,Md⟩,⟨2,2,Zz⟩,⟨3,5,ZA⟩,⟨1,1,Me⟩,⟨3,5,SF⟩,⟨3,3,Mf⟩,⟨3,3,SG⟩,⟨3,5,Mg⟩,⟨3,4,ZC⟩,⟨2,2,ZD⟩,⟨2,2,ZE⟩,⟨3,4,ZF⟩,⟨4,5,ZG⟩,⟨3,4,ZH⟩,⟨2,2,SH⟩,⟨3,3,ZI⟩,⟨4,4,ZJ⟩,⟨3,5,ZK⟩,⟨1,1,ZL⟩,⟨0,0,ZM⟩,⟨0,0,ZN⟩,⟨2,2,Mh⟩,⟨5,7,Mi⟩,⟨1,2,Mj⟩,⟨4,12,ZO⟩,⟨1,4,ZP⟩,⟨2,7,ZQ⟩,⟨1,9,ZR⟩,⟨2,14,SI⟩,⟨2,12,Mk⟩,⟨2,3,yi⟩,⟨2,2,yj⟩,⟨2,2,Ml⟩,⟨1,26,HV⟩]
def pQ(n:Nat):Option Fn:=EI fnL n
def glL:List D:=[(.tup [(.tup [(.int 1),(.str [97,110,121])]),(.tup [(.int 1),(.str [117,110,107,110,111,119,110])]),(.tup [(.int 1),(.str [110,101,118,101,114])]),(.tup [(.int 1),(.str [118,111,105,100])]),(.tup [(.int 1),(.str [117,110,100,101,102,105,110,101,100])]),(.tup [(.int 1),(.str [110,117,108,108])]),(.tup [(.int 1),(.str [115,116,114,105,110,103])]),(.tup [(.int 1),(.str [110,117,109,98,101,114])]),(.tup [(.int 2),(.int 0),(.int 0)]),(.tup [(.int 2),(.int 1),(.int 0)]),(.tup [(.int 1),(.str [111,98,106,101,99,116])]),(.tup [(.int 8),(.tup []),(.tup []),(.tup []),(.tup []),(.tup []),(.int 0)]),(.tup [(.int 6),(.tup [(.int 8),(.int 9)])]),(.tup [(.int 1),(.str [101,114,114,111,114])]),(.tup [(.int 2),(.int 0),(.int 1)]),(.tup [(.int 2),(.int 1),(.int 1)])]),
 (.int 10),
 (.int 6),
 (.int 2),
 (.int 5),
 (.int 4),
 (.int 7),
 (.int 3),
 (.int 18),
 (.int 6),
 (.tup [(.int 2),(.int 3),(.int 4),(.int 5),(.int 8)]),
 (.int 8),
 (.int 14),
 (.int 9),
 (.int 15),
 (.int 0),
 (.int 13),
 (.int 1),
 (.int 400),
 (.tup [(.int 2),(.int 3),(.int 4),(.int 5)]),
 (.int 3),
 (.int 2),
 (.tup [(.int 1),(.int 2),(.int 3),(.int 4),(.int 5)]),
 (.int 4),
 (.int 60),
 (.int 1),
 (.int 3),
 (.int 10),
 (.tup [(.int 6),(.int 7),(.int 10),(.int 14),(.int 15),(.int 16),(.int 17),(.int 18),(.int 19)]),
 (.tup [(.int 10),(.int 14),(.int 15),(.int 16),(.int 17),(.int 18),(.int 19)]),
 (.int 4),
 (.int 2),
 (.int 7),
 (.int 12),
 (.int 12),
 (.tup [(.int 8),(.int 9)]),
 (.int 1),
 (.int 14),
 (.int 15),
 (.int 4),
 (.int 15),
 (.int 8),
 (.int 17),
 (.int 5),
 (.int 11),
 (.int 16),
 (.int 19),
 (.int 9),
 (.int 13),
 (.int 11),
 (.lst [(.gP []),(.gP [((.str [112]),(.tup [(.int 32),(.bool false),(.bool false)]))]),(.gP [((.str [112]),(.tup [(.int 32),(.bool true),(.bool false)])),((.str [113]),(.tup [(.int 1),(.bool false),(.bool true)]))]),(.gP [((.str [112]),(.tup [(.int 33),(.bool false),(.bool true)])),((.str [113]),(.tup [(.int 32),(.bool true),(.bool true)]))])])]
def lW(n:Nat):Option D:=EI glL n
def zD(C m:Nat):List (Nat×Nat×Nat)->Option Nat
 |[]=>none
 |p::r=>bif Nat.beq C p.1&&Nat.beq m p.2.1 then some p.2.2 else zD C m r
def ZT:List (Nat×Nat×Nat):=[(0,3,4),(1,3,1),(1,12,2),(2,4,18),(2,7,21),(2,8,20),(2,9,19),(3,6,63),(3,10,64),(3,11,69),(4,5,70)]
def pj(C m:Nat):Option Nat:=zD C m ZT
def yk:Nat->Nw
 |0=> .init 0 3
 |1=> .init 1 0
 |2=> .init 2 17
 |3=> .init 3 68
 |4=> .bare 4
 |_=> .no
def pr:Pr:=⟨lW,pQ,pj,yk,100000⟩
local macro_rules |`(())=>return mzj (mzx_ "omega")
local macro_rules (kind:=«term∅»)|s=>return mzj (mzx_ "decide")
@[irreducible] noncomputable def rn:Nat->Nat->Spec:=run pr
def aH(n:Nat):Cx:=⟨lW,rn n,pj,λc=>gZ (rn n) (yk c),100000⟩
theorem EJ(n f:Nat):rn (n+1) f=match pQ f with
  |some F=>ti (aH n) F
  |none=>λ_ _ _=>none:=by unfold aH rn;rfl
abbrev KE:=PV->PS->Prop
abbrev KB:=Bool->PS->Prop
abbrev KS:=Fl->Ls->PS->Prop
def wO{α:Type}(o:Option α)(K:α->Prop):Prop:=∀x,o=some x->K x
def wB(b:Bool)(K:Bool->Prop):Prop:=∀c,b=c->K c
def wI(P gi:Prop):Bool->Prop
 |true=>P
 |false=>gi
def wMO(K:D->Prop):MO->Prop
 | .list l=>K (.lst l)
 | .dict l=>K (.gP l)
 |_=>True
def wTO(K:D->Prop):TO->Prop
 | .list l=>K (.lst l)
 | .dict l=>K (.gP l)
 | .dead=>True
def pR(σ:PS)(K:D->Prop):PV->Prop
 | .d x=>K x
 | .aI n=>wO σ.tm[n]? (wTO K)
 | .ax n=>wO σ.pm[n]? (wMO K)
def wTr(K:Bool->Prop):D->Prop
 | .none=>K false
 | .bool b=>K b
 | .int i=>K (!(i==0))
 | .lst l=>fits l=true->K (!l.isEmpty)
 |_=>True
def wIs(C:Nat->List (Nat×PV)->Prop):MO->Prop
 | .inst c fs=>C c fs
 |_=>True
def Rk(K:PV->Prop):Option PV->Prop
 |some v=>K v
 |none=>True
def ZU(σ:PS)(a:Nat)(K:PV->Prop):PV->Prop
 | .ax n=>wO σ.pm[n]? (wIs λ_ fs=>Rk K (pN a fs))
 |_=>True
def wIT(l:List D)(j:Int)(K:D->Prop):Bool->Prop
 |true=>wO l[j.toNat]? K
 |false=>decide (0<=j+l.length)=true->wO l[(j+l.length).toNat]? K
def wIU(l:List D)(K:D->Prop):D->Prop
 | .int j=>small j=true->wB (decide (0<=j)) (wIT l j K)
 |_=>True
def wIL(l:List D)(K:D->Prop):D->Prop
 | .int j=>small j=true->decide (0<=j)=true->wO l[j.toNat]? K
 |_=>True
def wIK(k:D)(K:D->Prop):D->Prop
 | .tup l=>wIU l K k
 | .lst l=>wIL l K k
 | .gP l=>jj k l=true->wO (kx k l) K
 |_=>True
def wGI(σ:PS)(v:PV)(K:D->Prop):PV->Prop
 | .d k=>pR σ (wIK k K) v
 |_=>True
def ZV(i:Int)(K:Bool->Prop):D->Prop
 | .int j=>K (i==j)
 |y=>(qg y&&Nat.ble (min 0 (dj y)) 50)=true->K (ba (.int i) y)
def Xo(K:Bool->Prop)(y:D):D->Prop
 | .int i=>ZV i K y
 |x=>(qg x&&qg y&&Nat.ble (min (dj x) (dj y)) 50)=true->K (ba x y)
def wIn(k:D)(K:Bool->Prop):D->Prop
 | .tup l=>(qg k&&lI l&&Nat.ble (min (dW l) (dj k)) 50)=true->K (l.any λy=>ba y k)
 | .lst l=>(qg k&&lI l&&Nat.ble (min (dW l) (dj k)) 50)=true->K (l.any λy=>ba y k)
 | .gP l=>jj k l=true->K (fM k l)
 |_=>True
def Mm(σ:PS)(y:PV)(K:Bool->Prop):PV->Prop
 | .d k=>pR σ (wIn k K) y
 |_=>True
def wCo(K:Bool->Prop)(a b:Int):si->Prop
 | .lt=>K (decide (a<b))
 | .le=>K (decide (a<=b))
 | .gt=>K (decide (b<a))
 | .ge=>K (decide (b<=a))
 |_=>True
def wCj(o:si)(K:Bool->Prop)(a:Int):D->Prop
 | .int b=>wCo K a b o
 |_=>True
def wCi(o:si)(K:Bool->Prop)(y:D):D->Prop
 | .int a=>wCj o K a y
 |_=>True
def HE(K:D->Prop):PV->Prop
 | .d x=>K x
 |_=>True
def wCI(o:si)(K:Bool->Prop)(y x:PV):Prop:=HE (λa=>HE (λb=>wCi o K b a) y) x
def SJ(x y:PV)(σ:PS)(K:Bool->Prop):si->Prop
 | .eq=>pR σ (λa=>pR σ (λb=>Xo K b a) y) x
 | .ne=>pR σ (λa=>pR σ (λb=>Xo (λc=>K (!c)) b a) y) x
 | .is=>isNone y=true->K (isNone x)
 | .Rg=>isNone y=true->K (!isNone x)
 | .isin=>Mm σ y K x
 | .eW=>Mm σ y (λc=>K (!c)) x
 |o=>wCI o K y x
def wBo(a b:Int)(K:Int->Prop):mL->Prop
 | .add=>K (a+b)
 | .sub=>K (a-b)
 |o=>wO (arith o a b) K
def wBJ(o:mL)(a:Int)(σ:PS)(K:KE):D->Prop
 | .int b=>wBo a b (λz=>K (.d (.int z)) σ) o
 |_=>True
def wBI(o:mL)(y:PV)(σ:PS)(K:KE):D->Prop
 | .int a=>pR σ (wBJ o a σ K) y
 |x=>wO (binop o (.d x) y σ) λr=>K r.1 r.2
def SK(o:mL)(σ:PS)(K:KE)(x y:PV):Prop:=match x with
 | .d a=>wBI o y σ K a
 |x=>wO (binop o x y σ) λr=>K r.1 r.2
def ZW(σ:PS)(K:D->PS->Prop):PV->Prop
 | .d x=>K x σ
 |v=>wO (σ.freeze v) λr=>K r.1 r.2
def EK:List PV->PS->(List D->PS->Prop)->Prop
 |[],σ,K=>K [] σ
 |v::r,σ,K=>ZW σ (λx σ=>EK r σ λxs σ=>K (x::xs) σ) v
def wCV(tm:List TO)(K:KE)(pm:List MO):PV->Prop
 | .d x=>K (.d x) ⟨pm,tm⟩
 | .ax n=>K (.ax n) ⟨pm,tm⟩
 | .aI _=>True
def wCT(tm:List TO)(K:KE)(v:PV)(pm:List MO):List TO->Prop
 |[]=>wCV tm K pm v
 |_::_=>True
def wCQ(tm:List TO)(K:KE)(q:PV×List MO×List TO):Prop:=wCT tm K q.1 q.2.1 q.2.2
def wCP(sp:Spec)(vs:List PV)(σ:PS)(K:KE):List PV×List Nat->Prop
 |(as,[])=>wO (sp as σ.pm []) (wCQ σ.tm K)
 |(_,_::_)=>wO (cJ sp vs σ) λr=>K r.1 r.2
def v8(sp:Spec)(vs:List PV)(σ:PS)(K:KE):Prop:=wCP sp vs σ K (eX vs 0)
def SM(K:D->Prop):D->Prop
 | .tup l=>fits l=true->K (.int l.length)
 | .lst l=>fits l=true->K (.int l.length)
 | .gP l=>fits l=true->jk l=true->K (.int l.length)
 |_=>True
def wBi(v:PV)(σ:PS)(K:KE):BI->Prop
 | .len=>pR σ (SM λd=>K (.d d) σ) v
 |b=>wO (builtin b v σ) λr=>K r.1 r.2
abbrev WE:=Ls->PS->KE->Prop
abbrev WT:=Ls->PS->KB->Prop
abbrev WS:=Ls->PS->(List PV->PS->Prop)->Prop
def SN(σ:PS)(K:KB)(v:PV):Prop:=pR σ (wTr λb=>K b σ) v
def kh(f:WE):WE×WT:=(f,λls σ K=>f ls σ λv σ=>SN σ K v)
def Xp(as:WS)(ls:Ls)(n:Nat)(v:PV)(σ:PS)(K:KE):Option Nat->Prop
 |some f=>as ls σ λvs σ=>v8 (rn n f) (v::vs) σ K
 |none=>True
def wMe(as:WS)(ls:Ls)(n m:Nat)(v:PV)(σ:PS)(K:KE):Prop:=yh m (σ.ph v)=true->as ls σ λvs σ=>wO (hJ m v vs σ) λr=>K r.1 r.2
def wMM(as:WS)(ls:Ls)(n m:Nat)(v:PV)(σ:PS)(K:KE):MO->Prop
 | .inst C _=>Xp as ls n v σ K (pj C m)
 | .list l=>yh m (some (.lst l))=true->as ls σ λvs σ=>wO (hJ m v vs σ) λr=>K r.1 r.2
 | .dict l=>yh m (some (.gP l))=true->as ls σ λvs σ=>wO (hJ m v vs σ) λr=>K r.1 r.2
 | .dead=>True
def wMV(as:WS)(ls:Ls)(n m:Nat)(σ:PS)(K:KE):PV->Prop
 | .ax p=>wO σ.pm[p]? (wMM as ls n m (.ax p) σ K)
 | .d (.cin C)=>Xp as ls n (.d (.cin C)) σ K (pj C m)
 | .aI p=>wMe as ls n m (.aI p) σ K
 |_=>True
structure Ws where
 al:WS
 an:WE
 or:WE
 ta:WT
 to:WT
mutual
noncomputable def wE (n:Nat):E->WE×WT
 | .lit x=>kh λ_ σ K=>K (.d x) σ
 | .loc i=>kh λls σ K=>Rk (λv=>K v σ) (ai id ls[i]?)
 | .glob g=>kh λ_ σ K=>Rk (λv=>K v σ) (ai sR (lW g))
 | .bin o a b=>kh λls σ K=>(wE n a).1 ls σ λx σ=>(wE n b).1 ls σ λy σ=>SK o σ K x y
 | .cmp o a b=>kh λls σ K=>(wE n a).1 ls σ λx σ=>(wE n b).1 ls σ λy σ=>SJ x y σ (λc=>K (.d (.bool c)) σ) o
 | .nt a=>(λls σ K=>(wE n a).1 ls σ λx σ=>SN σ (λb σ=>K (.d (.bool !b)) σ) x,λls σ K=>(wE n a).2 ls σ λb σ=>K (!b) σ)
 | .and es=>((wEs n es).an,(wEs n es).ta)
 | .or es=>((wEs n es).or,(wEs n es).to)
 | .ite c a b=>(λls σ K=>(wE n c).2 ls σ λb' σ=>wB b' (wI ((wE n a).1 ls σ K) ((wE n b).1 ls σ K)),λls σ K=>(wE n c).2 ls σ λb' σ=>wB b' (wI ((wE n a).2 ls σ K) ((wE n b).2 ls σ K)))
 | .tup es=>kh λls σ K=>(wEs n es).al ls σ λvs σ=>EK vs σ λxs σ=>fits xs=true->K (.d (.tup xs)) σ
 | .lst es=>kh λls σ K=>(wEs n es).al ls σ λvs σ=>EK vs σ λxs σ=>fits xs=true->K (.aI σ.tm.length) ⟨σ.pm,σ.tm++[.list xs]⟩
 | .sj es=>kh λls σ K=>(wEs n es).al ls σ λvs σ=>EK vs σ λxs σ=>wO (KU xs) λl=>K (.aI σ.tm.length) ⟨σ.pm,σ.tm++[.dict l]⟩
 | .attr e a=>kh λls σ K=>(wE n e).1 ls σ λv σ=>ZU σ a (λr=>K r σ) v
 | .sub e i=>kh λls σ K=>(wE n e).1 ls σ λv σ=>(wE n i).1 ls σ λk σ=>wGI σ v (λr=>K (.d r) σ) k
 | .Ei e lo hi=>kh λls σ K=>(wE n e).1 ls σ λv σ=>(wE n lo).1 ls σ λa σ=>(wE n hi).1 ls σ λb σ=>wO (σ.slice v a b) λr=>K r.1 r.2
 | .call f as=>kh λls σ K=>(wEs n as).al ls σ λvs σ=>v8 (rn n f) vs σ K
 | .aR e m as=>kh λls σ K=>(wE n e).1 ls σ λv σ=>wMV (wEs n as).al ls n m σ K v
 | .new c as=>kh λls σ K=>(wEs n as).al ls σ λvs σ=>v8 (gZ (rn n) (yk c)) vs σ K
 | .bi b e=>kh λls σ K=>(wE n e).1 ls σ λv σ=>wBi v σ K b
 | .comp elt v it ifs=>kh λls σ K=>(wE n it).1 ls σ λx σ=>wO (dY σ x) λp=>wO (dm (cx (aH n) ifs) (eval (aH n) elt) v p.1 ls p.2.1) λq=>∀s,itClose q.2 p.2.2=s->fits q.1=true->K (.aI s.tm.length) ⟨s.pm,s.tm++[.list q.1]⟩
 | .bad=>kh λ_ _ _=>True
noncomputable def wEs (n:Nat):Es->Ws
 | .nil=>⟨λ_ σ K=>K [] σ,λ_ _ _=>True,λ_ _ _=>True,λ_ σ K=>K true σ,λ_ σ K=>K false σ⟩
 | .cons e es=>⟨λls σ K=>(wE n e).1 ls σ λv σ=>(wEs n es).al ls σ λvs σ=>K (v::vs) σ,
  λls σ K=>match es with
  | .nil=>(wE n e).1 ls σ K
  | .cons _ _=>(wE n e).1 ls σ λv σ=>SN σ (λb σ=>wB b (wI ((wEs n es).an ls σ K) (K v σ))) v,
  λls σ K=>match es with
  | .nil=>(wE n e).1 ls σ K
  | .cons _ _=>(wE n e).1 ls σ λv σ=>SN σ (λb σ=>wB b (wI (K v σ) ((wEs n es).or ls σ K))) v,
  λls σ K=>(wE n e).2 ls σ λb σ=>wB b (wI ((wEs n es).ta ls σ K) (K false σ)),
  λls σ K=>(wE n e).2 ls σ λb σ=>wB b (wI (K true σ) ((wEs n es).to ls σ K))⟩
end
def ZX(a:Nat)(v:PV)(σ:PS)(K:PS->Prop):PV->Prop
 | .ax n=>wO σ.pm[n]? (wIs λC fs=>vZ fs 100=true->K ⟨σ.pm.set n (.inst C (sQ a v fs)),σ.tm⟩)
 |_=>True
def ZY(o:PV)(a:Nat)(σ:PS)(K:PS->Prop):PV->Prop
 | .aI _=>True
 | .d x=>ZX a (.d x) σ K o
 | .ax n=>ZX a (.ax n) σ K o
def wSt(σ:PS)(K:KE):PV->Prop
 | .d x=>K (.d x) σ
 | .ax n=>K (.ax n) σ
 | .aI n=>wO (σ.eU (.aI n)) λr=>K r.1 r.2
def ZZ(op:mL)(K:Int->Prop)(a:Int):D->Prop
 | .int b=>wO (arith op a b) K
 |_=>True
def Z0(op:mL)(K:Int->Prop)(y:D):D->Prop
 | .int a=>ZZ op K a y
 |_=>True
def wAu(op:mL)(K:Int->Prop)(x y:PV):Prop:=HE (λa=>HE (λb=>Z0 op K b a) y) x
def wSq(r:Ls->PS->Prop)(K:KS)(ls:Ls)(σ:PS):Fl->Prop
 | .next=>r ls σ
 | .cont=>K .cont ls σ
 | .ret v=>K (.ret v) ls σ
mutual
noncomputable def wS (n:Nat):S->Ls->PS->KS->Prop
 | .expr e,ls,σ,K=>(wE n e).1 ls σ λv σ=>HE (λx=>EH x=true->K .next ls σ) v
 | .asg i e,ls,σ,K=>(wE n e).1 ls σ λv σ=>K .next (ls.set i (some v)) σ
 | .dU o a e,ls,σ,K=>(wE n e).1 ls σ λv σ=>(wE n o).1 ls σ λov σ=>wSt σ (λv σ=>ZY ov a σ (λσ=>K .next ls σ) v) v
 | .hY o i e,ls,σ,K=>(wE n e).1 ls σ λv σ=>(wE n o).1 ls σ λov σ=>(wE n i).1 ls σ λk σ=>HE (λk=>ZW σ (λx σ=>wO (σ.A0 ov k x) λσ=>K .next ls σ) v) k
 | .kc is e,ls,σ,K=>(wE n e).1 ls σ λv σ=>HE (λx=>wO (qL is x ls) λls=>K .next ls σ) v
 | .vW o a op e,ls,σ,K=>(wE n o).1 ls σ λov σ=>ZU σ a (λold=>(wE n e).1 ls σ λv σ=>wAu op (λz=>ZY ov a σ (λσ=>K .next ls σ) (.d (.int z))) old v) ov
 | .ite c a b,ls,σ,K=>(wE n c).2 ls σ λc σ=>wB c (wI (wSs n a ls σ K) (wSs n b ls σ K))
 | .gr i it b,ls,σ,K=>(wE n it).1 ls σ λx σ=>wO (dY σ x) λp=>wO (dO (execs (aH n) b) (j8 i) p.1 ls p.2.1) λq=>∀s,itClose q.2.2 p.2.2=s->K q.1 q.2.1 s
 | .ye is it b,ls,σ,K=>(wE n it).1 ls σ λx σ=>wO (dY σ x) λp=>wO (dO (execs (aH n) b) (qL is) p.1 ls p.2.1) λq=>∀s,itClose q.2.2 p.2.2=s->K q.1 q.2.1 s
 | .l_ c b,ls,σ,K=>wO (jH (test (aH n) c) (execs (aH n) b) 100000 ls σ) λq=>K q.1 q.2.1 q.2.2
 | .ret e,ls,σ,K=>(wE n e).1 ls σ λv σ=>K (.ret v) ls σ
 | .pass,ls,σ,K=>K .next ls σ
 | .cont,ls,σ,K=>K .cont ls σ
 | .sN o i,ls,σ,K=>(wE n o).1 ls σ λov σ=>(wE n i).1 ls σ λk σ=>HE (λk=>wO (σ.HT ov k) λσ=>K .next ls σ) k
 | .yf o lo,ls,σ,K=>(wE n o).1 ls σ λov σ=>(wE n lo).1 ls σ λk σ=>HE (λk=>wO (σ.qh ov k) λσ=>K .next ls σ) k
 | .bad,_,_,_=>True
noncomputable def wSs (n:Nat):Ss->Ls->PS->KS->Prop
 | .nil,ls,σ,K=>K .next ls σ
 | .cons s r,ls,σ,K=>wS n s ls σ λfl ls σ=>wSq (λls σ=>wSs n r ls σ K) K ls σ fl
end
def wLe(ts:List TO)(σ:PS)(K:PV×List MO×List TO->Prop):PV->Prop
 | .d x=>K (.d x,σ.pm,qM ts σ.tm)
 | .ax p=>K (.ax p,σ.pm,qM ts σ.tm)
 | .aI i=>wO (leave ts (.aI i) σ) K
def wFi(ts:List TO)(K:PV×List MO×List TO->Prop)(σ:PS):Fl->Prop
 | .ret v=>wLe ts σ K v
 | .next=>K (.d .none,σ.pm,qM ts σ.tm)
 | .cont=>True
def wRF(n:Nat)(args:List PV)(pm:List MO)(ts:List TO)(K:PV×List MO×List TO->Prop):Option Fn->Prop
 |some F=>Nat.beq args.length F.ar=true->wSs n F.body (args.map some++List.replicate (F.nl-F.ar) none) ⟨pm,ts⟩ λfl _ σ=>wFi ts K σ fl
 |none=>True
def wR(n f:Nat)(args:List PV)(pm:List MO)(ts:List TO)(K:PV×List MO×List TO->Prop):Prop:=wRF n args pm ts K (pQ f)
section
def o1{α:Type}(o:Option α)(K:α->Prop):Prop:=∀x,o=some x->K x
def o2{α β:Type}(o:Option (α×β))(K:α->β->Prop):Prop:=∀x y,o=some (x,y)->K x y
section
variable{α β γ δ:Type}
theorem zE{f:α->Option β}{o}{K:β->Prop}(h:o1 (ai f o) K)(x:α)(e:o=some x):o1 (f x) K:=by subst e;exact h
theorem uv{f:α->Option (β×γ)}{o}{K:β->γ->Prop}(h:o2 (ai f o) K)(x:α)(e:o=some x):o2 (f x) K:=by subst e;exact h
theorem o1c{f:α->δ->Option β}{o}{K:β->Prop}(h:o1 (ai (cX f) o) K)(x:α)(y:δ)(e:o=some (x,y)):o1 (f x y) K:=by subst e;exact h
theorem fP{f:α->δ->Option (β×γ)}{o}{K:β->γ->Prop}(h:o2 (ai (cX f) o) K)(x:α)(y:δ)(e:o=some (x,y)):o2 (f x y) K:=by subst e;exact h
theorem zF{b:Bool}{x:Option β}{K:β->Prop}(h:o1 (dy x b) K)(e:b=true):o1 x K:=by subst e;exact h
theorem HW{b:Bool}{x:Option (β×γ)}{K:β->γ->Prop}(h:o2 (dy x b) K)(e:b=true):o2 x K:=by subst e;exact h
theorem EL{o:Option (β×γ)}{K:β->γ->Prop}(h:o2 o K):wO o λr=>K r.1 r.2:=λr e=>h r.1 r.2 e
theorem aT{a b:Bool}(h:a=true)(g:b=true):(a&&b)=true:=by rw[h,g];rfl
end
variable{n:Nat}{σ:PS}{ls:Ls}
theorem Mn{K:D->Prop}:∀{m:MO},o1 (HD m) K->wMO K m
 | .list _,h=>h _ rfl
 | .dict _,h=>h _ rfl
 | .inst ..,_=>trivial
 | .dead,_=>trivial
theorem Mo{K:D->Prop}:∀{m:TO},o1 (toD m) K->wTO K m
 | .list _,h=>h _ rfl
 | .dict _,h=>h _ rfl
 | .dead,_=>trivial
theorem jI{K:D->Prop}:∀{v:PV},o1 (σ.ph v) K->pR σ K v
 | .d _,h=>h _ rfl
 | .aI _,h=>λt e=>Mo (zE h t e)
 | .ax _,h=>λt e=>Mn (zE h t e)
theorem Mp{K:Bool->Prop}:∀{d:D},o1 (yg d) K->wTr K d
 | .none,h=>h _ rfl
 | .bool _,h=>h _ rfl
 | .int _,h=>h _ rfl
 | .lst _,h=>λe=>(zF h e) _ rfl
 | .str _,_=>trivial
 | .tup _,_=>trivial
 | .gP _,_=>trivial
 | .cin _,_=>trivial
 | .nX _,_=>trivial
theorem EM{a:Nat}{K:PV->Prop}:∀{v:PV},o1 (σ.ED v a) K->ZU σ a K v
 | .d _,_=>trivial
 | .aI _,_=>trivial
 | .ax _,h=>λo e=>by
  have h:=zE h o e;cases o with
  |inst C fs=>
   show Rk K (pN a fs);have h:o1 (pN a fs) K:=h;cases q:pN a fs with
   |none=>trivial
   |some v=>exact h v q
  |_=>trivial
theorem Mq{k:D}{K:PV->Prop}:∀{d:D},o1 (AZ k d) K->wIK k (λx=>K (.d x)) d
 | .tup l,h=>by
  cases k with
  |int j=>
   intro e c ec;have h:=zF h e;rw[ec]at h;cases c with
   |true=>exactλx e=>(zE h x e) _ rfl
   |false=>exactλe x e2=>(zE (zF h e) x e2) _ rfl
  |_=>trivial
 | .lst l,h=>by
  cases k with
  |int j=>exactλe e2 x e3=>(zE (zF h (aT e e2)) x e3) _ rfl
  |_=>trivial
 | .gP l,h=>λe x e2=>(zE (zF h e) x e2) _ rfl
 | .none,_=>trivial
 | .bool _,_=>trivial
 | .int _,_=>trivial
 | .str _,_=>trivial
 | .cin _,_=>trivial
 | .nX _,_=>trivial
theorem Mr{v:PV}{K:PV->Prop}:∀{k:PV},o1 (σ.v7 v k) K->wGI σ v (λx=>K (.d x)) k
 | .d _,h=>jI λd e=>Mq (zE h d e)
 | .ax _,_=>trivial
 | .aI _,_=>trivial
theorem Ms{a b:D}{K:Bool->Prop}(h:o1 (AY a b) K):Xo K b a:=by
 cases a with
 |int i=>
  cases b with
  |int j=>exact h _ rfl
  |_=>exactλe=>(zF h e) _ rfl
 |_=>exactλe=>(zF h e) _ rfl
theorem Mt{k:D}{K:Bool->Prop}:∀{d:D},o1 (Xk k d) K->wIn k K d
 | .tup _,h=>λe=>(zF h e) _ rfl
 | .lst _,h=>λe=>(zF h e) _ rfl
 | .gP _,h=>λe=>(zF h e) _ rfl
 | .none,_=>trivial
 | .bool _,_=>trivial
 | .int _,_=>trivial
 | .str _,_=>trivial
 | .cin _,_=>trivial
 | .nX _,_=>trivial
theorem zG{x y:PV}{K:Bool->Prop}(h:o1 (isIn σ x y) K):Mm σ y K x:=by
 cases x with
 |d k=>exact jI λd e=>Mt (zE h d e)
 |_=>trivial
theorem zH{x y:PV}{K:Bool->Prop}(h:o1 (isEq σ x y) K):pR σ (λa=>pR σ (λb=>Xo K b a) y) x:=
 jI λa ea=>jI λb eb=>Ms (zE (zE h a ea) b eb)
theorem jJ{K:D->Prop}:∀{v:PV},(∀x,v= .d x->K x)->HE K v
 | .d _,h=>h _ rfl
 | .ax _,_=>trivial
 | .aI _,_=>trivial
theorem Mu{a b:Int}{K:Bool->Prop}:∀{o:si},o1 (L8 o a b) K->wCo K a b o
 | .lt,h=>h _ rfl
 | .le,h=>h _ rfl
 | .gt,h=>h _ rfl
 | .ge,h=>h _ rfl
 | .eq,_=>trivial
 | .ne,_=>trivial
 | .is,_=>trivial
 | .Rg,_=>trivial
 | .isin,_=>trivial
 | .eW,_=>trivial
theorem uw{x y:PV}{K:Bool->Prop}{o:si}(h:o1 (L9 o x y) K):wCI o K y x:=jJ λa ea=>jJ λb eb=>by
 subst ea;subst eb;cases a with
 |int a=>
  cases b with
  |int b=>exact Mu h
  |_=>trivial
 |_=>trivial
theorem HX{x y:PV}{K:Bool->Prop}:∀{o:si},o1 (compare o x y σ) K->SJ x y σ K o
 | .eq,h=>zH h
 | .ne,h=>zH λb e=>(zE h b e) _ rfl
 | .is,h=>λe=>(zF h e) _ rfl
 | .Rg,h=>λe=>(zF h e) _ rfl
 | .isin,h=>zG h
 | .eW,h=>zG λb e=>(zE h b e) _ rfl
 | .lt,h=>uw h
 | .le,h=>uw h
 | .gt,h=>uw h
 | .ge,h=>uw h
theorem Mv{a b:Int}{K:Int->Prop}:∀{o:mL},o1 (arith o a b) K->wBo a b K o
 | .add,h=>h _ rfl
 | .sub,h=>h _ rfl
 | .mul,h=>h
 | .fdiv,h=>h
 | .mod,h=>h
 | .band,h=>h
 | .bor,h=>h
 | .pow,h=>h
theorem HY{o:mL}{x y:PV}{K:KE}(h:o2 (binop o x y σ) K):SK o σ K x y:=by
 cases x with
 |d a=>
  cases a with
  |int a=>
   refine jI λb e=>?_;have h:=uv h _ rfl;have h:=uv (h:o2 (ai (Sm o σ (.int a)) (σ.ph y)) K) b e;cases b with
   |int b=>exact Mv λz ez=>(uv h z ez) _ _ rfl
   |_=>trivial
  |_=>exact EL h
 |_=>exact EL h
theorem EN{K:D->PS->Prop}:∀{v:PV},o2 (σ.freeze v) K->ZW σ K v
 | .d _,h=>h _ _ rfl
 | .ax _,h=>EL h
 | .aI _,h=>EL h
theorem qi:∀{vs:List PV} {σ:PS} {K:List D->PS->Prop},o2 (σ.k_ vs) K->EK vs σ K
 |[],_,_,h=>h _ _ rfl
 |v::r,_,_,h=>EN λx s e=>qi λxs s2 e2=>(fP (fP h x s e:o2 (fzK _ _ _) _) xs s2 e2) _ _ rfl
theorem qN{sp:Spec}{vs:List PV}{K:KE}(h:o2 (cJ sp vs σ) K):v8 sp vs σ K:=by
 unfold v8;cases q:eX vs 0 with
 |mk as is=>
  cases is with
  |nil=>
   intro r e;unfold cJ at h;rw[q]at h;have h:=fP (HW h rfl:o2 (dc1 sp σ as [] []) K) r.1 r.2 e;obtain⟨v,aA,nS⟩:=r;cases nS with
   |nil=>cases v<;>first|exact h _ _ rfl|trivial
   |cons=>trivial
  |cons=>exact EL h
theorem HZ{K:KE}:∀{d:D},o2 (Sn σ d) K->SM (λd=>K (.d d) σ) d
 | .tup _,h=>λe=>(HW h e) _ _ rfl
 | .lst _,h=>λe=>(HW h e) _ _ rfl
 | .gP _,h=>λe e2=>(HW h (aT e e2)) _ _ rfl
 | .none,_=>trivial
 | .bool _,_=>trivial
 | .int _,_=>trivial
 | .str _,_=>trivial
 | .cin _,_=>trivial
 | .nX _,_=>trivial
theorem Mw{v:PV}{K:KE}:∀{b:BI},o2 (builtin b v σ) K->wBi v σ K b
 | .len,h=>jI λd e=>HZ (uv h d e)
 | .sorted,h=>EL h
 | .tuple,h=>EL h
 | .range,h=>EL h
theorem ux{v:PV}{K:KB}(h:∀b,σ.truth v=some b->K b σ):SN σ K v:=jI λd e=>Mp λb e2=>h b (by show ai yg _=_;rw[e];exact e2)
theorem qO{α β:Type}{a b:Option (α×β)}{c:Bool}{K:α->β->Prop}{P gi:Prop}(p:o2 a K->P)(q:o2 b K->gi)(h:∀c',c=c'->o2 (match c' with|true=>a|false=>b) K):wB c (wI P gi):=λc' e=>by
 cases c' with
 |true=>exact p (h _ e)
 |false=>exact q (h _ e)
def PE(n:Nat)(e:E)(w:WE×WT):Prop:=(∀{ls σ K},o2 (eval (aH n) e ls σ) K->w.1 ls σ K)/\∀{ls σ K},o2 (test (aH n) e ls σ) K->w.2 ls σ K
structure PEs (n:Nat) (es:Es) (w:Ws):Prop where
 al:∀{ls σ K},o2 (iU (aH n) es ls σ) K->w.al ls σ K
 an:∀{ls σ K},o2 (zB (aH n) es ls σ) K->w.an ls σ K
 or:∀{ls σ K},o2 (Mc (aH n) es ls σ) K->w.or ls σ K
 ta:∀{ls σ K},o2 (cx (aH n) es ls σ) K->w.ta ls σ K
 to:∀{ls σ K},o2 (EG (aH n) es ls σ) K->w.to ls σ K
theorem eO{e:E}{w:WE}{f:FE}(q:lg (aH n) e=kg f)(h:∀{ls σ K},o2 (f ls σ) K->w ls σ K):PE n e (kh w):=by
 refine⟨λg=>h ?_,λg=>h λv σ e=>ux λb eb=>?_⟩
 ·unfold eval at g;rw[q]at g;exact g
 ·unfold test at g;rw[q]at g;exact(uv (fP g v σ e:o2 (Mb _ _) _) b eb) _ _ rfl
theorem Z1{o:Option (Option PV)}{σ:PS}{K:KE}(h:o2 (ai (Ma σ) o) K):Rk (λv=>K v σ) (ai id o):=by
 cases o with
 |none=>trivial
 |some v=>
  cases v with
  |none=>trivial
  |some v=>exact h _ _ rfl
theorem Z2{o:Option D}{σ:PS}{K:KE}(h:o2 (ai (glK σ) o) K):Rk (λv=>K v σ) (ai sR o):=by
 cases o with
 |none=>trivial
 |some v=>exact h _ _ rfl
theorem Mx{as:WS}{fs:FS}{v:PV}{K:KE}{f:Nat}(ha:∀{ls σ K},o2 (fs ls σ) K->as ls σ K)(h:o2 (YQ (aH n) fs ls v σ f) K):Xp as ls n v σ K (some f):=ha λvs σ e=>qN (fP h vs σ e)
theorem H0{as:WS}{fs:FS}{v:PV}{K:KE}{m:Nat}(ha:∀{ls σ K},o2 (fs ls σ) K->as ls σ K)(h:o2 (ai (cX (hJ m v)) (fs ls σ)) K):as ls σ λvs σ=>wO (hJ m v vs σ) λr=>K r.1 r.2:=ha λvs σ e=>EL (fP h vs σ e)
theorem My{as:WS}{fs:FS}{v:PV}{K:KE}{m:Nat}(ha:∀{ls σ K},o2 (fs ls σ) K->as ls σ K)(h:o2 (KW (aH n) m fs ls v σ) K):wMV as ls n m σ K v:=by
 have fnk:∀C,gh σ v=some C->Xp as ls n v σ K (pj C m):=λC e=>by
  have h:o2 (Ri (aH n) m fs ls v σ (gh σ v)) K:=h;rw[e]at h;have h:o2 (ai (YQ (aH n) fs ls v σ) (pj C m)) K:=h;cases q:pj C m with
  |none=>trivial
  |some f=>exact Mx ha (uv h f q)
 have blt:∀x,gh σ v=none->σ.ph v=x->yh m x=true->as ls σ λvs σ=>wO (hJ m v vs σ) λr=>K r.1 r.2:=λx e ex em=>by have h:o2 (Ri (aH n) m fs ls v σ (gh σ v)) K:=h;rw[e]at h;subst ex;exact H0 ha (HW h em)
 cases v with
 |d x=>
  cases x with
  |cin C=>exact fnk C rfl
  |_=>trivial
 |aI p=>exactλe=>blt _ rfl rfl e
 |ax p=>
  intro o e;cases o with
  |inst C fs=>exact fnk C (by show ai EF _=_;rw[e];rfl)
  |list l=>exactλem=>blt _ (by show ai EF _=_;rw[e];rfl) (by show ai HD _=_;rw[e];rfl) em
  |dict l=>exactλem=>blt _ (by show ai EF _=_;rw[e];rfl) (by show ai HD _=_;rw[e];rfl) em
  |dead=>trivial
mutual
theorem bH:∀e:E,PE n e (wE n e)
 | .lit x=>eO rfl λh=>h _ _ rfl
 | .loc i=>eO rfl Z1
 | .glob g=>eO rfl Z2
 | .bin o a b=>eO rfl λh=>(bH a).1 λx σ ex=>(bH b).1 λy σ ey=>HY (fP (fP h x _ ex:o2 (pO _ _ _ _ _) _) y _ ey)
 | .cmp o a b=>eO rfl λh=>(bH a).1 λx σ ex=>(bH b).1 λy σ ey=>HX λc ec=>(uv (fP (fP h x _ ex:o2 (pO _ _ _ _ _) _) y _ ey:o2 (Sq _ _ _ _) _) c ec) _ _ rfl
 | .nt a=>⟨λh=>(bH a).1 λx σ ex=>ux λb eb=>(uv (fP h x _ ex:o2 (ntK _ _) _) b eb) _ _ rfl,λh=>(bH a).2 λb σ eb=>(fP h b _ eb) _ _ rfl⟩
 | .and es=>⟨(fN es).an,(fN es).ta⟩
 | .or es=>⟨(fN es).or,(fN es).to⟩
 | .ite c a b=>⟨λh=>(bH c).2 λb' σ eb=>qO (bH a).1 (bH b).1 λc' e=>by have h:=fP h b' _ eb;rw[e]at h;cases c'<;>exact h,
  λh=>(bH c).2 λb' σ eb=>qO (bH a).2 (bH b).2 λc' e=>by have h:=fP h b' _ eb;rw[e]at h;cases c'<;>exact h⟩
 | .tup es=>eO rfl λh=>(fN es).al λvs σ ev=>qi λxs σ ex e=>(HW (fP (fP h vs _ ev:o2 (Rh _ _ _) _) xs _ ex:o2 (Sr _ _) _) e) _ _ rfl
 | .lst es=>eO rfl λh=>(fN es).al λvs σ ev=>qi λxs σ ex e=>(HW (fP (fP h vs _ ev:o2 (Rh _ _ _) _) xs _ ex:o2 (PS.sP _ _) _) e) _ _ rfl
 | .sj es=>eO rfl λh=>(fN es).al λvs σ ev=>qi λxs σ ex l el=>(uv (fP (fP h vs _ ev:o2 (Rh _ _ _) _) xs _ ex:o2 (Su _ _) _) l el:o2 (PS.newD _ _) _) _ _ rfl
 | .attr e a=>eO rfl λh=>(bH e).1 λv σ ev=>EM λr er=>(uv (fP h v _ ev:o2 (KV _ _ _) _) r er) _ _ rfl
 | .sub e i=>eO rfl λh=>(bH e).1 λv σ ev=>(bH i).1 λk σ ek=>Mr (K:=λr=>_) λr er=>(uv (fP (fP h v _ ev:o2 (pO _ _ _ _ _) _) k _ ek:o2 (Sv _ _ _) _) r er) _ _ rfl
 | .Ei e lo hi=>eO rfl λh=>(bH e).1 λv σ ev=>(bH lo).1 λa σ ea=>(bH hi).1 λb σ eb=>EL (fP (fP (fP h v _ ev:o2 (pO _ _ _ _ _) _) a _ ea:o2 (pO _ _ _ _ _) _) b _ eb)
 | .call f as=>eO rfl λh=>(fN as).al λvs σ ev=>qN (fP h vs _ ev)
 | .aR e m as=>eO rfl λh=>(bH e).1 λv σ ev=>My (fN as).al (fP h v _ ev)
 | .new c as=>eO rfl λh=>(fN as).al λvs σ ev=>qN (fP h vs _ ev)
 | .bi b e=>eO rfl λh=>(bH e).1 λv σ ev=>Mw (fP h v _ ev)
 | .comp elt v it ifs=>eO rfl λh=>(bH it).1 λx σ ex p ep q eq s es=>es▸λe=>(HW (fP (fP (fP h x _ ex:o2 (coK _ _ _ _ _ _) _) p.1 p.2 ep:o2 (coL _ _ _ _ _ _) _) q.1 q.2 eq:o2 (PS.sP _ _) _) e) _ _ rfl
 | .bad=>eO rfl λh=>trivial
theorem fN:∀es:Es,PEs n es (wEs n es)
 | .nil=>⟨(λh=>h _ _ rfl),λ_=>trivial,λ_=>trivial,(λh=>h _ _ rfl),(λh=>h _ _ rfl)⟩
 | .cons e es=>⟨λh=>(bH e).1 λv σ ev=>(fN es).al λvs σ KX=>(fP (fP h v _ ev:o2 (pO _ _ _ _ _) _) vs _ KX) _ _ rfl,
  λh=>by
   have ih:=fN es;cases es with
   |nil=>exact(bH e).1 h
   |cons e2 es2=>exact(bH e).1 λv σ ev=>ux λb eb=>qO (a:=zB _ _ _ _) (b:=some (_,_)) ih.an (λh=>h _ _ rfl) λc' e=>by have h:=uv (fP h v _ ev:o2 (anK _ _ _ _) _) b eb;rw[e]at h;cases c'<;>exact h,
  λh=>by
   have ih:=fN es;cases es with
   |nil=>exact(bH e).1 h
   |cons e2 es2=>exact(bH e).1 λv σ ev=>ux λb eb=>qO (a:=some (_,_)) (b:=Mc _ _ _ _) (λh=>h _ _ rfl) ih.or λc' e=>by have h:=uv (fP h v _ ev:o2 (orK _ _ _ _) _) b eb;rw[e]at h;cases c'<;>exact h,
  λh=>(bH e).2 λb σ eb=>qO (fN es).ta (λh=>h _ _ rfl) λc' e=>by have h:=fP h b _ eb;rw[e]at h;cases c'<;>exact h,
  λh=>(bH e).2 λb σ eb=>qO (λh=>h _ _ rfl) (fN es).to λc' e=>by have h:=fP h b _ eb;rw[e]at h;cases c'<;>exact h⟩
end
theorem Mz{o v:PV}{a:Nat}{K:PS->Prop}(h:∀n,o= .ax n->o1 (ai (Xj σ n a v) σ.pm[n]?) K):ZX a v σ K o:=by
 cases o with
 |ax p=>
  intro o e;have h:=zE (h p rfl) o e;cases o with
  |inst C fs=>exactλe=>(zF h e) _ rfl
  |_=>trivial
 |_=>trivial
theorem EO{o v:PV}{a:Nat}{K:PS->Prop}(h:o1 (σ.v5 o a v) K):ZY o a σ K v:=by
 cases v with
 |aI _=>trivial
 |_=>exact Mz λn e=>by subst e;exact h
theorem MA{K:KE}:∀{v:PV},o2 (σ.eU v) K->wSt σ K v
 | .d _,h=>h _ _ rfl
 | .ax _,h=>h _ _ rfl
 | .aI _,h=>EL h
theorem MB{op:mL}{K:Int->Prop}{x y:PV}(h:∀a b,x= .d (.int a)->y= .d (.int b)->o1 (arith op a b) K):wAu op K x y:=jJ λa ea=>jJ λb eb=>by
 cases a with
 |int a=>
  cases b with
  |int b=>exact h _ _ ea eb
  |_=>trivial
 |_=>trivial
def Rl(K:KS)(fl:Fl)(p:Ls×PS):Prop:=K fl p.1 p.2
theorem SO{o:Option PS}{K:KS}(h:o2 (ai (Rj ls) o) (Rl K)):o1 o λσ=>K .next ls σ:=λx e=>uv h x e _ _ rfl
theorem MC{a b:Option (Fl×Ls×PS)}{c:Bool}{K:KS}{P gi:Prop}(p:o2 a (Rl K)->P)(q:o2 b (Rl K)->gi)(h:∀c',c=c'->o2 (match c' with|true=>a|false=>b) (Rl K)):wB c (wI P gi):=qO p q h
mutual
theorem KY:∀(s:S) {ls:Ls} {σ:PS} {K:KS},o2 (exec (aH n) s ls σ) (Rl K)->wS n s ls σ K
 | .expr e,_,_,_,h=>(bH e).1 λv σ ev=>jJ λx q=>by subst q;exactλe=>(HW (fP h _ _ ev:o2 (exK _ _ _) _) e) _ _ rfl
 | .asg i e,_,_,_,h=>(bH e).1 λv σ ev=>(fP h v _ ev) _ _ rfl
 | .dU o a e,_,_,_,h=>(bH e).1 λv σ ev=>(bH o).1 λov σ eo=>MA λv σ es=>EO (SO (fP (fP (fP h _ _ ev:o2 (pO _ _ _ _ _) _) _ _ eo:o2 (Xn _ _ _ _ _) _) _ _ es:o2 (Sy _ _ _ _ _) _))
 | .hY o i e,_,_,_,h=>(bH e).1 λv σ ev=>(bH o).1 λov σ eo=>(bH i).1 λk σ ek=>jJ λx q=>by subst q;exact EN λd σ ef=>(SO (fP (fP (fP (fP h _ _ ev:o2 (pO _ _ _ _ _) _) _ _ eo:o2 (pO _ _ _ _ _) _) _ _ ek:o2 (Sz _ _ _ _ _) _) _ _ ef:o2 (siS _ _ _ _ _) _))
 | .kc is e,_,_,_,h=>(bH e).1 λv σ ev=>jJ λx q=>by subst q;exactλl el=>(uv (fP h _ _ ev:o2 (asT _ _ _ _) _) l el) _ _ rfl
 | .vW o a op e,_,_,_,h=>(bH o).1 λov σ eo=>EM λold er=>(bH e).1 λv σ ev=>MB λx y qx qy z ez=>by have h:=fP (uv (fP h _ _ eo:o2 (auA _ _ _ _ _ _) _) old er:o2 (pO _ _ _ _ _) _) v _ ev;subst qx;subst qy;exact EO (SO (uv h z ez))
 | .ite c a b,_,_,_,h=>(bH c).2 λb' σ eb=>MC (qQ a) (qQ b) λc' e=>by have h:=fP h b' _ eb;rw[e]at h;cases c'<;>exact h
 | .gr i it b,_,_,_,h=>(bH it).1 λx σ ex p ep q eq s es=>es▸(uv (fP (fP h _ _ ex:o2 (SA _ _ _ _ _) _) p.1 p.2 ep:o2 (YR _ _ _ _ _) _) q eq) _ _ rfl
 | .ye is it b,_,_,_,h=>(bH it).1 λx σ ex p ep q eq s es=>es▸(uv (fP (fP h _ _ ex:o2 (SA _ _ _ _ _) _) p.1 p.2 ep:o2 (YR _ _ _ _ _) _) q eq) _ _ rfl
 | .l_ c b,_,_,_,h=>λq e=>h q.1 q.2 e
 | .ret e,_,_,_,h=>(bH e).1 λv σ ev=>(fP h v _ ev) _ _ rfl
 | .pass,_,_,_,h=>h _ _ rfl
 | .cont,_,_,_,h=>h _ _ rfl
 | .sN o i,_,_,_,h=>(bH o).1 λov σ eo=>(bH i).1 λk σ ek=>jJ λx q=>by subst q;exact SO (fP (fP h _ _ eo:o2 (pO _ _ _ _ _) _) _ _ ek:o2 (deS _ _ _ _) _)
 | .yf o lo,_,_,_,h=>(bH o).1 λov σ eo=>(bH lo).1 λk σ ek=>jJ λx q=>by subst q;exact SO (fP (fP h _ _ eo:o2 (pO _ _ _ _ _) _) _ _ ek:o2 (deL _ _ _ _) _)
 | .bad,_,_,_,_=>trivial
theorem qQ:∀(s:Ss) {ls:Ls} {σ:PS} {K:KS},o2 (execs (aH n) s ls σ) (Rl K)->wSs n s ls σ K
 | .nil,_,_,_,h=>h _ _ rfl
 | .cons s r,_,_,_,h=>KY s λfl p e=>by
  have h:=fP h fl p e;cases fl with
  |next=>exact qQ r h
  |cont=>exact h _ _ rfl
  |ret v=>exact h _ _ rfl
end
theorem MD{ts:List TO}{K:PV×List MO×List TO->Prop}:∀{v:PV},o1 (leave ts v σ) K->wLe ts σ K v
 | .d _,h=>h _ rfl
 | .ax _,h=>h _ rfl
 | .aI _,h=>h
theorem SP{f:Nat}{args:List PV}{pm:List MO}{ts:List TO}{K:PV×List MO×List TO->Prop}(h:o1 (rn (n+1) f args pm ts) K):wR n f args pm ts K:=by
 unfold wR;rw[EJ]at h;cases q:pQ f with
 |none=>trivial
 |some F=>
  rw[q]at h;exactλe=>qQ F.body λfl p ep=>by
   have h:=o1c (zF h e) fl p ep;cases fl with
   |next=>exact h _ rfl
   |cont=>trivial
   |ret v=>exact MD h
theorem Z3(n f:Nat)(args:List PV)(pm:List MO)(ts:List TO):wR n f args pm ts λq=>rn (n+1) f args pm ts=some q:=SP λ_ h=>h
theorem Z4(n:Nat)(s:Ss)(ls:Ls)(σ:PS):wSs n s ls σ λfl bk aN=>execs (aH n) s ls σ=some (fl,bk,aN):=qQ s λ_ _ h=>h
theorem exW(n:Nat)(s:S)(ls:Ls)(σ:PS):wS n s ls σ λfl bk aN=>exec (aH n) s ls σ=some (fl,bk,aN):=KY s λ_ _ h=>h
theorem evW(n:Nat)(e:E)(ls:Ls)(σ:PS):(wE n e).1 ls σ λv aN=>eval (aH n) e ls σ=some (v,aN):=(bH e).1 λ_ _ h=>h
theorem tsW(n:Nat)(e:E)(ls:Ls)(σ:PS):(wE n e).2 ls σ λv aN=>test (aH n) e ls σ=some (v,aN):=(bH e).2 λ_ _ h=>h
def wRr(n f:Nat)(args:List PV)(pm:List MO)(ts:List TO):Prop:=wR n f args pm ts λq=>rn (n+1) f args pm ts=some q
theorem runS{n f:Nat}{args:List PV}{pm:List MO}{ts:List TO}{r:PV×List MO×List TO}(h:wRr n f args pm ts->rn (n+1) f args pm ts=some r):rn (n+1) f args pm ts=some r:=h (Z3 n f args pm ts)
def wSr(n:Nat)(s:Ss)(ls:Ls)(σ:PS):Prop:=wSs n s ls σ λfl bk aN=>execs (aH n) s ls σ=some (fl,bk,aN)
theorem exsS{n:Nat}{s:Ss}{ls:Ls}{σ:PS}{r:Fl×Ls×PS}(h:wSr n s ls σ->execs (aH n) s ls σ=some r):execs (aH n) s ls σ=some r:=h (Z4 n s ls σ)
def Z5(n:Nat)(s:S)(ls:Ls)(σ:PS):Prop:=wS n s ls σ λfl bk aN=>exec (aH n) s ls σ=some (fl,bk,aN)
theorem exS{n:Nat}{s:S}{ls:Ls}{σ:PS}{r:Fl×Ls×PS}(h:Z5 n s ls σ->exec (aH n) s ls σ=some r):exec (aH n) s ls σ=some r:=h (exW n s ls σ)
def wEr(n:Nat)(e:E)(ls:Ls)(σ:PS):Prop:=(wE n e).1 ls σ λv aN=>eval (aH n) e ls σ=some (v,aN)
theorem evS{n:Nat}{e:E}{ls:Ls}{σ:PS}{r:PV×PS}(h:wEr n e ls σ->eval (aH n) e ls σ=some r):eval (aH n) e ls σ=some r:=h (evW n e ls σ)
def wBr(n:Nat)(e:E)(ls:Ls)(σ:PS):Prop:=(wE n e).2 ls σ λv aN=>test (aH n) e ls σ=some (v,aN)
theorem tsS{n:Nat}{e:E}{ls:Ls}{σ:PS}{r:Bool×PS}(h:wBr n e ls σ->test (aH n) e ls σ=some r):test (aH n) e ls σ=some r:=h (tsW n e ls σ)
end
theorem rb0{n a pm ts}:rn (n+1) 0 [a] pm ts=ai (cX (mc ts)) (execs (aH n) Bd0 [some a] ⟨pm,ts⟩):=by rw[EJ];rfl
theorem Z6{n a b c pm ts}:rn (n+1) 17 [a,b,c] pm ts=ai (cX (mc ts)) (execs (aH n) SE [some a,some b,some c] ⟨pm,ts⟩):=by rw[EJ];rfl
theorem Z7{n a b pm ts}:rn (n+1) 68 [a,b] pm ts=ai (cX (mc ts)) (execs (aH n) SH [some a,some b] ⟨pm,ts⟩):=by rw[EJ];rfl
theorem SQ:builtin .range (.d (.int i)) σ=dy (some (.d (.nX i),σ)) (decide (0<=i)&&decide (i<1000000)):=rfl
theorem SS:dY σ (.d (.nX i))=dy (some ((List.range i.toNat).map λ(i:Nat)=>D.int i,σ,.none)) (decide (0<=i)&&decide (i<1000000)):=rfl
theorem SU{a b:Nat}(h:a<=b):Nat.ble a b=true:=qI h
theorem uy{i:Int}(h1:-4611686018427387904<i)(h2:i<4611686018427387904):small i=true:=nY.mpr ⟨h1,h2⟩
theorem cT{α:Type}{l:List α}(h:l.length<=1000000):fits l=true:=qI h
theorem aq{α β:Type}{f:α->Option β}{o x}(h:o=some x):ai f o=f x:=by rw[h];rfl
section
variable{X:Cx}{ls bk bz eQ pn:Ls}{σ aj aM bJ hN:PS}
theorem ak{i:Nat}{v:PV}(h:ls[i]?=some (some v)):eval X (.loc i) ls σ=some (v,σ):=aq h
theorem aG{x:D}:eval X (.lit x) ls σ=some (.d x,σ):=rfl
theorem EP{e e2:E}{es:Es}{v:PV}{R}(h1:eval X e ls σ=some (v,aj))(ht:aj.truth v=some true)(h2:zB X (.cons e2 es) ls aj=R):eval X (.and (.cons e (.cons e2 es))) ls σ=R:=(aq h1).trans ((aq ht).trans h2)
theorem cY{e i:E}{v k r:PV}(h1:eval X e ls σ=some (v,aj))(h2:eval X i ls aj=some (k,aM))(h3:aM.v7 v k=some r):eval X (.sub e i) ls σ=some (r,aM):=(aq h1).trans ((aq h2).trans (aq h3))
theorem uz{e:E}{a:Nat}{v r:PV}(h1:eval X e ls σ=some (v,aj))(h3:aj.ED v a=some r):eval X (.attr e a) ls σ=some (r,aj):=(aq h1).trans (aq h3)
theorem v9{e:E}{a n C:Nat}{fs}{r:PV}(h1:eval X e ls σ=some (.ax n,aj))(h2:aj.pm[n]?=some (.inst C fs))(h3:pN a fs=some r):eval X (.attr e a) ls σ=some (r,aj):=uz h1 ((aq h2).trans h3)
theorem bo:iU X .nil ls σ=some ([],σ):=rfl
theorem au{e:E}{es:Es}{v:PV}{vs:List PV}(h1:eval X e ls σ=some (v,aj))(h2:iU X es ls aj=some (vs,aM)):iU X (.cons e es) ls σ=some (v::vs,aM):=(aq h1).trans (aq h2)
theorem b_{f:Nat}{as:Es}{vs:List PV}{r:PV×PS}(h1:iU X as ls σ=some (vs,aj))(h2:cJ (X.fn f) vs aj=some r):eval X (.call f as) ls σ=some r:=(aq h1).trans h2
theorem mO{e:E}{m C f:Nat}{as:Es}{v:PV}{vs:List PV}{r:PV×PS}(h1:eval X e ls σ=some (v,aj))(h2:gh aj v=some C)(h3:X.aR C m=some f)(h4:iU X as ls aj=some (vs,aM))(h5:cJ (X.fn f) (v::vs) aM=some r):eval X (.aR e m as) ls σ=some r:=by refine(aq h1).trans ?_;show Ri _ _ _ _ _ _ (gh aj v)=_;rw[h2];exact(aq h3).trans ((aq h4).trans h5)
theorem ER{e:E}{m:Nat}{as:Es}{v:PV}{vs:List PV}{r:PV×PS}(h1:eval X e ls σ=some (v,aj))(h2:gh aj v=none)(h3:yh m (aj.ph v)=true)(h4:iU X as ls aj=some (vs,aM))(h5:hJ m v vs aM=some r):eval X (.aR e m as) ls σ=some r:=by refine(aq h1).trans ?_;show Ri _ _ _ _ _ _ (gh aj v)=_;rw[h2];show dy _ (yh m (aj.ph v))=_;rw[h3];exact(aq h4).trans h5
theorem qR{es:Es}{vs:List PV}{xs:List D}(h1:iU X es ls σ=some (vs,aj))(h2:aj.k_ vs=some (xs,aM))(h3:fits xs=true):eval X (.tup es) ls σ=some (.d (.tup xs),aM):=(aq h1).trans ((aq h2).trans (congrArg (dy _) h3))
theorem uA{es:Es}{vs:List PV}{xs:List D}(h1:iU X es ls σ=some (vs,aj))(h2:aj.k_ vs=some (xs,aM))(h3:fits xs=true):eval X (.lst es) ls σ=some (.aI aM.tm.length,⟨aM.pm,aM.tm++[.list xs]⟩):=(aq h1).trans ((aq h2).trans (congrArg (dy _) h3))
theorem ES{c:Nat}{as:Es}{vs:List PV}{r:PV×PS}(h1:iU X as ls σ=some (vs,aj))(h2:cJ (X.new c) vs aj=some r):eval X (.new c as) ls σ=some r:=(aq h1).trans h2
theorem dB{o:mL}{a b:E}{x y:PV}{r:PV×PS}(h1:eval X a ls σ=some (x,aj))(h2:eval X b ls aj=some (y,aM))(h3:binop o x y aM=some r):eval X (.bin o a b) ls σ=some r:=(aq h1).trans ((aq h2).trans h3)
theorem bW{o:si}{a b:E}{x y:PV}{r:Bool}(h1:eval X a ls σ=some (x,aj))(h2:eval X b ls aj=some (y,aM))(h3:compare o x y aM=some r):eval X (.cmp o a b) ls σ=some (.d (.bool r),aM):=(aq h1).trans ((aq h2).trans (aq h3))
theorem uB{b:BI}{e:E}{v:PV}{r:PV×PS}(h1:eval X e ls σ=some (v,aj))(h2:builtin b v aj=some r):eval X (.bi b e) ls σ=some r:=(aq h1).trans h2
theorem iV{c a b:E}{r:Option (PV×PS)}(h1:test X c ls σ=some (true,aj))(h2:eval X a ls aj=r):eval X (.ite c a b) ls σ=r:=(aq h1).trans h2
theorem hZ{c a b:E}{r:Option (PV×PS)}(h1:test X c ls σ=some (false,aj))(h2:eval X b ls aj=r):eval X (.ite c a b) ls σ=r:=(aq h1).trans h2
theorem H3{e lo hi:E}{v a b:PV}{r:PV×PS}(h1:eval X e ls σ=some (v,aj))(h2:eval X lo ls aj=some (a,aM))(h3:eval X hi ls aM=some (b,bJ))(h4:bJ.slice v a b=some r):eval X (.Ei e lo hi) ls σ=some r:=(aq h1).trans ((aq h2).trans ((aq h3).trans h4))
theorem qS{el it:E}{v:Nat}{fs:Es}{x:PV}{items ys:List D}{fw:Lock}(h1:eval X it ls σ=some (x,aj))(h2:dY aj x=some (items,aM,fw))(h3:dm (cx X fs) (eval X el) v items ls aM=some (ys,bJ))(h4:fits ys=true)(h5:itClose bJ fw=hN):eval X (.comp el v it fs) ls σ=some (.aI hN.tm.length,⟨hN.pm,hN.tm++[.list ys]⟩):=by subst h5;exact(aq h1).trans ((aq h2).trans ((aq h3).trans (congrArg (dy _) h4)))
theorem nZ{ts:FT}{el:FE}{v:Nat}{x y:D}{r ys:List D}{e:PV}(h1:ts (ls.set v (some (.d x))) σ=some (true,aj))(h2:el (ls.set v (some (.d x))) aj=some (e,aM))(h3:aM.freeze e=some (y,bJ))(h4:dm ts el v r ls bJ=some (ys,hN)):dm ts el v (x::r) ls σ=some (y::ys,hN):=(aq h1).trans ((aq h2).trans ((aq h3).trans (aq h4)))
theorem KZ{ts:FT}{el:FE}{v:Nat}{x:D}{r:List D}{R}(h1:ts (ls.set v (some (.d x))) σ=some (false,aj))(h4:dm ts el v r ls aj=R):dm ts el v (x::r) ls σ=R:=(aq h1).trans h4
theorem mQ{e:E}{es:Es}{R}(h1:test X e ls σ=some (true,aj))(h2:cx X es ls aj=R):cx X (.cons e es) ls σ=R:=(aq h1).trans h2
theorem gJ{e:E}{p:Bool}(h1:test X e ls σ=some (p,aj)):cx X (.cons e .nil) ls σ=some (p,aj):=by refine(aq h1).trans ?_;cases p<;>rfl
theorem ME{e:E}{es:Es}(h1:test X e ls σ=some (false,aj)):cx X (.cons e es) ls σ=some (false,aj):=aq h1
theorem bB{i:Nat}{e:E}{v:PV}(h1:eval X e ls σ=some (v,aj)):exec X (.asg i e) ls σ=some (.next,ls.set i (some v),aj):=aq h1
theorem qj{e:E}{x:D}(h1:eval X e ls σ=some (.d x,aj))(h2:EH x=true):exec X (.expr e) ls σ=some (.next,ls,aj):=(aq h1).trans (congrArg (dy _) h2)
theorem fy{e:E}{v:PV}(h1:eval X e ls σ=some (v,aj)):exec X (.ret e) ls σ=some (.ret v,ls,aj):=aq h1
theorem bI{c:E}{a b:Ss}{r:Option (Fl×Ls×PS)}(h1:test X c ls σ=some (true,aj))(h2:execs X a ls aj=r):exec X (.ite c a b) ls σ=r:=(aq h1).trans h2
theorem aS{c:E}{a b:Ss}{r:Option (Fl×Ls×PS)}(h1:test X c ls σ=some (false,aj))(h2:execs X b ls aj=r):exec X (.ite c a b) ls σ=r:=(aq h1).trans h2
theorem uC{i:Nat}{it:E}{b:Ss}{x:PV}{items:List D}{fw:Lock}{fl:Fl}(h1:eval X it ls σ=some (x,aj))(h2:dY aj x=some (items,aM,fw))(h3:dO (execs X b) (j8 i) items ls aM=some (fl,pn,bJ)):exec X (.gr i it b) ls σ=some (fl,pn,itClose bJ fw):=(aq h1).trans ((aq h2).trans (aq h3))
theorem fJ{body:Ls->PS->Option (Fl×Ls×PS)}{put:D->Ls->Option Ls}{x:D}{r:List D}{R}(hp:put x ls=some bz)(hb:body bz σ=some (.next,eQ,aM))(hr:dO body put r eQ aM=R):dO body put (x::r) ls σ=R:=by show ai (Sx body (dO body put r) σ) (put x ls)=R;rw[hp];show ai (cX (Xm _)) (body bz σ)=R;rw[hb];exact hr
theorem zI{body:Ls->PS->Option (Fl×Ls×PS)}{put:D->Ls->Option Ls}{x:D}{r:List D}{R}(hp:put x ls=some bz)(hb:body bz σ=some (.cont,eQ,aM))(hr:dO body put r eQ aM=R):dO body put (x::r) ls σ=R:=by show ai (Sx body (dO body put r) σ) (put x ls)=R;rw[hp];show ai (cX (Xm _)) (body bz σ)=R;rw[hb];exact hr
theorem MF{body:Ls->PS->Option (Fl×Ls×PS)}{put:D->Ls->Option Ls}{x:D}{r:List D}{v}(hp:put x ls=some bz)(hb:body bz σ=some (.ret v,eQ,aM)):dO body put (x::r) ls σ=some (.ret v,eQ,aM):=by show ai (Sx body (dO body put r) σ) (put x ls)=_;rw[hp];show ai (cX (Xm _)) (body bz σ)=_;rw[hb];rfl
theorem bX{sp:Spec}{vs:List PV}{pm aA:List MO}{tm:List TO}{x:D}(h0:eX vs 0=(vs,[]))(h:sp vs pm []=some (.d x,aA,[])):cJ sp vs ⟨pm,tm⟩=some (.d x,⟨aA,tm⟩):=by unfold cJ;rw[h0];exact aq h
theorem lJ{i:Nat}{b:Bool}(h:ls[i]?=some (some (.d (.bool b)))):test X (.loc i) ls σ=some (b,σ):=Eq.trans (aq (f:=cX Mb) (ak (X:=X) h)) rfl
theorem tOf{e:E}{b:Bool}(hp:test X e ls σ=ai (cX Mb) (eval X e ls σ))(h:eval X e ls σ=some (.d (.bool b),aj)):test X e ls σ=some (b,aj):=hp.trans (aq h)
theorem MG{e:E}{b:Bool}(h:test X e ls σ=some (b,aj)):test X (.nt e) ls σ=some (!b,aj):=aq h
theorem mR{e e2:E}{b c:Bool}(h1:test X e ls σ=some (b,σ))(h2:test X e2 ls σ=some (c,σ)):test X (.and (.cons e (.cons e2 .nil))) ls σ=some (b&&c,σ):=by
 cases b with
 |true=>exact mQ h1 (gJ h2)
 |false=>exact aq h1
theorem tOr{e e2:E}{b c:Bool}(h1:test X e ls σ=some (b,σ))(h2:test X e2 ls σ=some (c,σ)):test X (.or (.cons e (.cons e2 .nil))) ls σ=some (b||c,σ):=by
 cases b with
 |true=>exact aq h1
 |false=>
  refine(aq h1).trans ((aq h2).trans ?_);cases c<;>rfl
theorem Z8{e e2:E}{es:Es}{R}(h1:test X e ls σ=some (false,aj))(h2:test X (.or (.cons e2 es)) ls aj=R):test X (.or (.cons e (.cons e2 es))) ls σ=R:=(aq h1).trans h2
theorem Z9{e:E}{b:Bool}(h1:test X e ls σ=some (b,aj)):test X (.or (.cons e .nil)) ls σ=some (b,aj):=by refine(aq h1).trans ?_;cases b<;>rfl
theorem ET{e e2:E}{es:Es}{b c:Bool}(h1:test X e ls σ=some (b,σ))(h2:test X (.and (.cons e2 es)) ls σ=some (c,σ)):test X (.and (.cons e (.cons e2 es))) ls σ=some (b&&c,σ):=by
 cases b with
 |true=>exact mQ h1 h2
 |false=>exact aq h1
theorem v_{a b:E}{i j:Int}(h1:eval X a ls σ=some (.d (.int i),σ))(h2:eval X b ls σ=some (.d (.int j),σ)):test X (.cmp .eq a b) ls σ=some (i==j,σ):=aq (bW h1 h2 rfl)
theorem SV{a b:E}{i j:Int}(h1:eval X a ls σ=some (.d (.int i),σ))(h2:eval X b ls σ=some (.d (.int j),σ)):test X (.cmp .ne a b) ls σ=some (!(i==j),σ):=aq (bW h1 h2 rfl)
theorem tLt{a b:E}{i j:Int}(h1:eval X a ls σ=some (.d (.int i),σ))(h2:eval X b ls σ=some (.d (.int j),σ)):test X (.cmp .lt a b) ls σ=some (decide (i<j),σ):=aq (bW h1 h2 rfl)
theorem Z_{a b:E}{i j:Int}(h1:eval X a ls σ=some (.d (.int i),σ))(h2:eval X b ls σ=some (.d (.int j),σ)):test X (.cmp .gt a b) ls σ=some (decide (j<i),σ):=aq (bW h1 h2 rfl)
theorem SW{a b:E}{i j:Int}(h1:eval X a ls σ=some (.d (.int i),σ))(h2:eval X b ls σ=some (.d (.int j),σ)):eval X (.cmp .eq a b) ls σ=some (.d (.bool (i==j)),σ):=bW h1 h2 rfl
theorem SX{c:E}{a b:Ss}{t:Bool}{r}(h:test X c ls σ=some (t,aj))(h1:t=true->execs X a ls aj=r)(h2:t=false->execs X b ls aj=r):exec X (.ite c a b) ls σ=r:=by
 cases t with
 |true=>exact bI h (h1 rfl)
 |false=>exact aS h (h2 rfl)
theorem SY{c a b:E}{t:Bool}{r}(h:test X c ls σ=some (t,aj))(h1:t=true->eval X a ls aj=r)(h2:t=false->eval X b ls aj=r):eval X (.ite c a b) ls σ=r:=by
 cases t with
 |true=>exact iV h (h1 rfl)
 |false=>exact hZ h (h2 rfl)
end
theorem Z'{C:Prop}(k:∀G:Prop,(C->G)->G):C:=k C id
theorem delD{p:Nat}{k:D}{l l':List (D×D)}{σ:PS}(h:σ.pm[p]?=some (.dict l))(d:jj k l=true)(a:fM k l=true)(f:fits l=true)(q:ma k l=l'):σ.HT (.ax p) k=some ⟨σ.pm.set p (.dict l'),σ.tm⟩:=by
 have e:σ.dictOf (.ax p)=some l:=by show ai KP _=_;rw[h];rfl
 show ai (PS.diK σ (.ax p) k) (σ.dictOf (.ax p))=_;rw[e];show dy _ (jj k l&&fM k l&&fits l)=_;rw[d,a,f,q];show ai _ (ai KP _)=_;rw[h];rfl
theorem itP{p:Nat}{l:List D}{σ:PS}(h:σ.pm[p]?=some (.list l)):dY σ (.ax p)=some (l,⟨σ.pm.set p .dead,σ.tm⟩,.ax p (.list l)):=by show ai (ioP σ p) _=_;rw[h];rfl
theorem popP{p:Nat}{d:D}{l:List D}{σ:PS}(h:σ.pm[p]?=some (.list (l++[d])))(f:fits (l++[d])=true):hJ 1 (.ax p) [] σ=some (.d d,⟨σ.pm.set p (.list l),σ.tm⟩):=by show ai (poD σ (.ax p)) (ai HR _)=_;rw[h];show ai (poK σ (.ax p) (l++[d])) (l++[d]).getLast?=_;rw[List.getLast?_concat];show dy (ai _ (ai _ (ai HR _))) (fits (l++[d]))=_;rw[f,h,List.dropLast_concat];rfl
theorem dtP{p:Nat}{i:Int}{l l':List D}{σ:PS}(h:σ.pm[p]?=some (.list l))(i0:0<=i)(s:small i=true)(f:fits l=true)(q:l.take i.toNat=l'):σ.qh (.ax p) (.int i)=some ⟨σ.pm.set p (.list l'),σ.tm⟩:=by show ai (PS.dtK σ (.ax p) i) (ai HR _)=_;rw[h];show dy (ai _ (ai HR _)) (decide (0<=i)&&small i&&fits l)=_;rw[eM i0,s,f,h,q];rfl
theorem MH{n:Nat}(h:n<4611686018427387904):small (n:Int)=true:=uy (by lia) (by lia)
theorem EU{p:Nat}{k v:D}{l l':List (D×D)}{σ:PS}(h:σ.pm[p]?=some (.dict l))(d:jj k l=true)(f:fits l=true)(q:dput k v l=l'):σ.A0 (.ax p) k v=some ⟨σ.pm.set p (.dict l'),σ.tm⟩:=by show ai (PS.YI σ (.ax p) k v) (ai KP _)=_;rw[h];show dy (ai _ (ai KP _)) (jj k l&&fits l)=_;rw[d,f,h,q];rfl
theorem A9{p:Nat}{d:D}{l l':List D}{σ:PS}(h:σ.pm[p]?=some (.list l))(f:fits l=true)(q:l++[d]=l'):hJ 0 (.ax p) [.d d] σ=some (.d .none,⟨σ.pm.set p (.list l'),σ.tm⟩):=by show ai (YJ σ (.ax p) d) (ai HR _)=_;rw[h];show dy (ai _ (ai _ (ai HR _))) (fits l)=_;rw[f,h,q];rfl
theorem getP{p:Nat}{k e x:D}{l:List (D×D)}{σ:PS}(h:σ.pm[p]?=some (.dict l))(d:jj k l=true)(q:(kx k l).getD e=x):hJ 2 (.ax p) [.d k,.d e] σ=some (.d x,σ):=by show ai (Xl σ k e) (ai KP _)=_;rw[h];show dy _ (jj k l)=_;rw[d,<-q];rfl
theorem ky{b:Bool}(h:b=true):(!b)=false:=by rw[h];rfl
theorem mU{b:Bool}(h:b=false):(!b)=true:=by rw[h];rfl
theorem dn{sp:Spec}{vs as:List PV}{pm aA:List MO}{tm ik:List TO}{g:Nat}{t t':TO}{x:D}(hp:eX vs 0=(as,[g]))(hg:tm[g]?=some t)(ht:YE t []=some [t])(h:sp as pm [t]=some (.d x,aA,[t']))(s:tm.set g t'=ik):cJ sp vs ⟨pm,tm⟩=some (.d x,⟨aA,ik⟩):=by unfold cJ;rw[hp];show ai _ (ai (Sk (some [])) tm[g]?)=_;rw[hg];show ai _ (YE t [])=_;rw[ht];show ai _ (sp as pm [t])=_;rw[h,<-s];rfl
theorem S_{n:Nat}{l:List D}{pm:List MO}{tm:List TO}(h:tm[n]?=some (.list l))(f:fits l=true):builtin .tuple (.aI n) ⟨pm,tm⟩=some (.d (.tup l),⟨pm,tm⟩):=by show ai (tuK _) (ai toD tm[n]?)=_;rw[h];show dy _ (fits l)=_;rw[f];rfl
theorem EV{g:Nat}{k v:D}{l l':List (D×D)}{pm:List MO}{tm:List TO}(h:tm[g]?=some (.dict l))(d:jj k l=true)(f:fits l=true)(q:dput k v l=l'):PS.A0 ⟨pm,tm⟩ (.aI g) k v=some ⟨pm,tm.set g (.dict l')⟩:=by show ai (PS.YI _ (.aI g) k v) (ai Sj tm[g]?)=_;rw[h];show dy (ai _ (ai Sj tm[g]?)) (jj k l&&fits l)=_;rw[d,f,h,q];rfl
theorem S'{g:Nat}{d:D}{l l':List D}{pm:List MO}{tm:List TO}(h:tm[g]?=some (.list l))(f:fits l=true)(q:l++[d]=l'):hJ 0 (.aI g) [.d d] ⟨pm,tm⟩=some (.d .none,⟨pm,tm.set g (.list l')⟩):=by show ai (YJ _ (.aI g) d) (ai Si tm[g]?)=_;rw[h];show dy (ai _ (ai _ (ai Si tm[g]?))) (fits l)=_;rw[f,h,q];rfl
theorem K6{g:Nat}{l:List (D×D)}{is:List Int}{pm:List MO}{tm:List TO}(h:tm[g]?=some (.dict l))(hi:intsOf (l.map (·.1))=some is)(b:Nat.blt is.length 64=true)(f:fits ((sortI is).map D.int)=true):builtin .sorted (.aI g) ⟨pm,tm⟩=some (.aI tm.length,⟨pm,tm++[.list ((sortI is).map .int)]⟩):=by show ai (So _) (ai toD tm[g]?)=_;rw[h];show ai (soK _) (intsOf (l.map (·.1)))=_;rw[hi];show dy (dy _ (fits _)) (Nat.blt is.length 64)=_;rw[b,f];rfl
theorem wa(a b:Nat):Nat.beq a b=decide (a=b):=by
 by_cases h:a=b
 ·subst h;simp
 ·cases q:Nat.beq a b with
  |false=>simp[h]
  |true=>exact absurd (j_ q) h
theorem cG{n f:Nat}{F:Fn}{args:List PV}{pm:List MO}{ts:List TO}(Ek:Ls)(hF:pQ f=some F)(ha:args.length=F.ar)(hl:args.map some++List.replicate (F.nl-F.ar) none=Ek):
  rn (n+1) f args pm ts=ai (cX (mc ts)) (execs (aH n) F.body Ek ⟨pm,ts⟩):=by
 rw[EJ,hF];subst hl;show dy _ (Nat.beq _ _)=_;rw[ha,Nat.beq_refl];rfl
theorem av{X:Cx}{s:S}{r:Ss}{ls bz:Ls}{σ aj:PS}(h:exec X s ls σ=some (.next,bz,aj)):execs X (.cons s r) ls σ=execs X r bz aj:=congrArg (uu (execs X r)) h
theorem bS{X:Cx}{s:S}{r:Ss}{ls bz:Ls}{σ aj:PS}{v:PV}(h:exec X s ls σ=some (.ret v,bz,aj)):execs X (.cons s r) ls σ=some (.ret v,bz,aj):=congrArg (uu (execs X r)) h
theorem sk{X:Cx}{s:S}{r:Ss}{ls bz:Ls}{σ aj:PS}{R:Option (Fl×Ls×PS)}(h:exec X s ls σ=some (.next,bz,aj))(k:execs X r bz aj=R):execs X (.cons s r) ls σ=R:=(av h).trans k
theorem qk{X:Cx}{s:S}{r:Ss}{ls bz:Ls}{σ aj:PS}(h:exec X s ls σ=some (.cont,bz,aj)):execs X (.cons s r) ls σ=some (.cont,bz,aj):=congrArg (uu (execs X r)) h
theorem jK{n f:Nat}{F:Fn}{args:List PV}{pm:List MO}{ts:List TO}{ls Ek:Ls}{v:PV}{σ:PS}{R}(hF:pQ f=some F)(ha:args.length=F.ar)(hl:args.map some++List.replicate (F.nl-F.ar) none=Ek)
  (e:execs (aH n) F.body Ek ⟨pm,ts⟩=some (.ret v,ls,σ)) (k:leave ts v σ=R):rn (n+1) f args pm ts=R:=(cG Ek hF ha hl).trans ((congrArg (ai (cX (mc ts))) e).trans k)
theorem EW{n f:Nat}{F:Fn}{args:List PV}{pm:List MO}{ts:List TO}{ls Ek:Ls}{σ:PS}{R}(hF:pQ f=some F)(ha:args.length=F.ar)(hl:args.map some++List.replicate (F.nl-F.ar) none=Ek)
  (e:execs (aH n) F.body Ek ⟨pm,ts⟩=some (.next,ls,σ)) (k:leave ts (.d .none) σ=R):rn (n+1) f args pm ts=R:=(cG Ek hF ha hl).trans ((congrArg (ai (cX (mc ts))) e).trans k)
theorem aP{X:Cx}{ls:Ls}{σ:PS}:execs X .nil ls σ=some (.next,ls,σ):=rfl
def mV:List (Nat×PV):=[(0,.ax 1),(9,.ax 2),(8,.ax 3),(7,.ax 4),(6,.ax 5),(5,.ax 6),(4,.ax 7),(3,.ax 8),(2,.d (.int 0)),(1,.d (.int 0))]
def bK:List (Nat×PV):=[(23,.ax 0),(15,.d (.int 0)),(25,.d (.int 200)),(24,.d (.int 40))]
def fQ(b t h ru:Nat)(m:Int)(bR:Bool)(tw:PV)(dp:Int):List (Nat×PV):=
 [(22,.ax h),(21,.d (.int m)),(20,.ax ru),(19,.ax (b+2)),(18,.ax (b+3)),(17,.ax t),(16,.ax (b+5)),(15,.d (.int dp)),(14,.ax (b+6)),(13,.d (.bool bR)),(12,tw),(11,.d (.str [])),(10,.d (.int 0))]
structure bZ (pm:List MO) (b t h ru:Nat) (m:Int) (bR:Bool) (tw:PV) (dp:Int) (as kn:List (D×D)) (tl aW:List D):Prop where
 iI:pm[b]?=some (.inst 2 (fQ b t h ru m bR tw dp))
 iR:pm[ru]?=some (.dict [(.int 2,.cin 4)])
 iA:pm[b+2]?=some (.dict as)
 iK:pm[b+3]?=some (.dict kn)
 iT:pm[t]?=some (.list tl)
 iN:pm[b+6]?=some (.inst 1 [(0,.ax (b+7))])
 iL:pm[b+7]?=some (.list aW)
 ht:t=b+4\/b+8<=t
 hr:ru<b\/ru=b+1
section
variable{pm:List MO}{b t h ru:Nat}{m:Int}{bR:Bool}{tw:PV}{dp:Int}{as kn:List (D×D)}{tl aW:List D}
theorem f21(n:Nat)(R:bZ pm b t h ru m bR tw dp as kn tl aW)(l1:aW.length<=1000000)(l2:tl.length<=1000000):
  rn (n+1) 21 [.ax b] pm []=some (.d (.tup [.int aW.length,.int tl.length]),pm,[]):=by
 dsimp! [R.iN,R.iL,R.iT,↑cT l1,↑cT l2]
theorem f19(n:Nat)(R:bZ pm b t h ru m bR tw dp as kn tl aW)(l1:aW.length<=1000000)(c:Int):
  rn (n+2) 19 [.ax b,.d (.int c)] pm []=some (.d .none,if bR then pm.set (b+7) (.list (aW++[.tup [.int c,.int 0]]))else pm,[]):=by
 have e1:rn (n+1) 1 [.ax (b+6),.d (.int c),.d (.int 0)] pm []=some (.d .none,pm.set (b+7) (.list (aW++[.tup [.int c,.int 0]])),[]):=by dsimp! [R.iN,R.iL,A9 R.iL (cT l1) rfl]
 cases bR<;>dsimp! [R.iN,e1]
end
abbrev gi:=Int×Int
def ew(p:gi):D:= .tup [.int p.1,.int p.2]
def cQ(tl:List gi):List (D×D):=tl.map λp=>(ew p,.int 1)
def fk(tl:List gi):List D:=tl.map ew
theorem wb(p q:gi):ba (ew p) (ew q)=decide (p=q):=by obtain⟨a,b⟩:=p;obtain⟨c,d⟩:=q;show(a==c&&(b==d&&true))=_;by_cases h1:a=c<;>by_cases h2:b=d<;>simp[h1,h2]
theorem MI(p:gi):keyOk (ew p)=true:=rfl
theorem A_(p:gi){l:List (D×D)}(h:∀x∈l,∃q,x.1=ew q):jj (ew p) l=true:=by
 unfold jj;rw[MI,Bool.true_and];cases l with
 |nil=>rfl
 |cons x r=>
  obtain⟨q,e⟩:=h x (.head _);show Nat.beq (cy x.1) (cy (ew p))=true;rw[e];rfl
theorem uD(tl:List gi):∀x∈cQ tl,∃q,x.1=ew q:=by intro x hx;obtain⟨q,_,e⟩:=List.mem_map.mp hx;exact⟨q,by rw[<-e]⟩
theorem uE(p:gi):∀tl:List gi,fM (ew p) (cQ tl)=tl.contains p
 |[]=>rfl
 |q::r=>by show(ba (ew p) (ew q)||fM (ew p) (cQ r))=_;rw[wb,uE p r,List.contains_cons,show(p==q)=decide (p=q)from by by_cases e:p=q<;>simp[e]]
theorem EX(p:gi):∀tl:List gi,p∉tl->dput (ew p) (.int 1) (cQ tl)=cQ (tl++[p])
 |[],_=>rfl
 |q::r,h=>by show(if ba (ew p) (ew q)then _ else _)=_;rw[wb,dS (λ(e:p=q)=>h (by rw[e];exact .head _))];show(ew q,D.int 1)::dput (ew p) (.int 1) (cQ r)=_;rw[EX p r λz=>h (.tail _ z)];rfl
theorem EY(p:gi):∀tl:List gi,p∉tl->ma (ew p) (cQ (tl++[p]))=cQ tl
 |[],_=>by show(if ba (ew p) (ew p)then _ else _)=_;rw[wb,eM rfl];rfl
 |q::r,h=>by show(if ba (ew p) (ew q)then _ else _)=_;rw[wb,dS (λ(e:p=q)=>h (by rw[e];exact .head _))];show(ew q,D.int 1)::ma (ew p) (cQ (r++[p]))=_;rw[EY p r λz=>h (.tail _ z)];rfl
theorem H5(p:gi)(tl:List gi):ma (ew p) (cQ (p::tl))=cQ tl:=by show(if ba (ew p) (ew p)then _ else _)=_;rw[wb,eM rfl];rfl
def pV(aE:Int->Int->Bool)(kn:List (D×D)):Prop:=∀x∈kn,∃q:gi,x=(ew q,.bool (aE q.1 q.2))
section
variable{aE:Int->Int->Bool}{kn:List (D×D)}
theorem pV.keys(k:pV aE kn):∀x∈kn,∃q,x.1=ew q:=λx hx=>let ⟨q,e⟩:=k x hx;⟨q,by rw[e]⟩
theorem pV.get(k:pV aE kn)(p:gi)(h:fM (ew p) kn=true):kx (ew p) kn=some (.bool (aE p.1 p.2)):=by
 induction kn with
 |nil=>cases h
 |cons x r ih=>
  obtain⟨q,rfl⟩:=k x (.head _);show(if ba (ew p) (ew q)then _ else _)=_;rw[wb];by_cases e:p=q
  ·subst e;simp
  ·have h:(ba (ew p) (ew q)||fM (ew p) r)=true:=h;rw[wb,dS e,Bool.false_or]at h;rw[dS e];exact ih (λy hy=>k y (.tail _ hy)) h
theorem pV.put(k:pV aE kn)(p:gi):pV aE (dput (ew p) (.bool (aE p.1 p.2)) kn):=by
 induction kn with
 |nil=>
  intro x hx;have hx:x∈[(ew p,D.bool (aE p.1 p.2))]:=hx;rw[jG]at hx;exact⟨p,hx⟩
 |cons y r ih=>
  obtain⟨q,rfl⟩:=k y (.head _);have ih:=ih λz hz=>k z (.tail _ hz);intro x hx;have hx:x∈(if ba (ew p) (ew q)then(ew q,D.bool (aE p.1 p.2))::r else(ew q,D.bool (aE q.1 q.2))::dput (ew p) (.bool (aE p.1 p.2)) r):=hx;rw[wb]at hx;by_cases e:p=q
  ·subst e;rw[eM rfl,if_pos rfl]at hx;rcases dH.mp hx with hx|hx
   ·exact⟨p,hx⟩
   ·exact k x (.tail _ hx)
  ·rw[dS e,if_neg ∅]at hx;rcases dH.mp hx with hx|hx
   ·exact⟨q,hx⟩
   ·exact ih x hx
theorem kz(a v:D):∀l:List (D×D),(dput a v l).length<=l.length+1
 |[]=>dJ _
 |(x,u)::r=>by
  show(if ba a x then _ else _:List (D×D)).length<=_;split
  ·simp
  ·have:=kz a v r;simp only[eH];omega
end
def tj(kn:List (D×D)):List gi->List (D×D)
 |[]=>kn
 |p::r=>tj (dput (ew p) (.bool true) kn) r
section
variable{pm:List MO}{b t h ru:Nat}{m:Int}{bR:Bool}{tw:PV}{dp:Int}{kn:List (D×D)}{tl aW:List D}
theorem c_{l:List MO}{i j:Nat}{x y:MO}(h:l[i]?=some y):(l.set i x)[j]?=if i=j then some x else l[j]?:=by rw[dz];have:=(fX.mp h).1;simp[this]
theorem bZ.lt{as:List (D×D)}(R:bZ pm b t h ru m bR tw dp as kn tl aW):b+7<pm.length:=(fX.mp R.iL).1
def bL(b:Nat)(pm aA:List MO):Prop:=pm.length<=aA.length/\∀j,j<b->aA[j]?=pm[j]?
theorem bL.refl:bL b pm pm:=⟨dJ _,λ_ _=>rfl⟩
theorem bL.trans{a c:List MO}(x:bL b pm a)(y:bL b a c):bL b pm c:=⟨bw x.1 y.1,λj hj=>(y.2 j hj).trans (x.2 j hj)⟩
theorem bL.set{i:Nat}{x:MO}(hi:b<=i):bL b pm (pm.set i x):=⟨by rw[gq];exact dJ _,λj hj=>by rw[bp ()]⟩
theorem bZ.v5{as:List (D×D)}(R:bZ pm b t h ru m bR tw dp as kn tl aW)(as':List (D×D)):bZ (pm.set (b+2) (.dict as')) b t h ru m bR tw dp as' kn tl aW:=by have ht:=R.ht;have hr:=R.hr;constructor<;>first|exact ht|exact hr|(rw[c_ R.iA];first|(rw[if_neg ()];first|exact R.iI|exact R.iR|exact R.iK|exact R.iT|exact R.iN|exact R.iL)|(rw[if_pos rfl]))
theorem bZ.setK{as:List (D×D)}(R:bZ pm b t h ru m bR tw dp as kn tl aW)(hO:List (D×D)):bZ (pm.set (b+3) (.dict hO)) b t h ru m bR tw dp as hO tl aW:=by have ht:=R.ht;have hr:=R.hr;constructor<;>first|exact ht|exact hr|(rw[c_ R.iK];first|(rw[if_neg ()];first|exact R.iI|exact R.iR|exact R.iA|exact R.iT|exact R.iN|exact R.iL)|(rw[if_pos rfl]))
theorem bZ.EV{as:List (D×D)}(R:bZ pm b t h ru m bR tw dp as kn tl aW)(Rm:List D):bZ (pm.set t (.list Rm)) b t h ru m bR tw dp as kn Rm aW:=by have ht:=R.ht;have hr:=R.hr;constructor<;>first|exact ht|exact hr|(rw[c_ R.iT];first|(rw[if_neg ()];first|exact R.iI|exact R.iR|exact R.iA|exact R.iK|exact R.iN|exact R.iL)|(rw[if_pos rfl]))
theorem bZ.Ta{as:List (D×D)}(R:bZ pm b t h ru m bR tw dp as kn tl aW)(dp':Int):bZ (pm.set b (.inst 2 (fQ b t h ru m bR tw dp'))) b t h ru m bR tw dp' as kn tl aW:=by have ht:=R.ht;have hr:=R.hr;constructor<;>first|exact ht|exact hr|(rw[c_ R.iI];first|(rw[if_neg ()];first|exact R.iR|exact R.iA|exact R.iK|exact R.iT|exact R.iN|exact R.iL)|(rw[if_pos rfl]))
theorem bZ.Tc{as:List (D×D)}(R:bZ pm b t h ru m bR tw dp as kn tl aW)(Td:List D):bZ (pm.set (b+7) (.list Td)) b t h ru m bR tw dp as kn tl Td:=by have ht:=R.ht;have hr:=R.hr;constructor<;>first|exact ht|exact hr|(rw[c_ R.iL];first|(rw[if_neg ()];first|exact R.iI|exact R.iR|exact R.iA|exact R.iK|exact R.iT|exact R.iN)|(rw[if_pos rfl]))
theorem bZ.newT{as:List (D×D)}(R:bZ pm b t h ru m bR tw dp as kn tl aW)(Rm:List D):bZ ((pm++[MO.list Rm]).set b (.inst 2 (fQ b pm.length h ru m bR tw dp))) b pm.length h ru m bR tw dp as kn Rm aW:=by
 have hl:=R.lt;have hr:=R.hr;have lf:∀{i:Nat} {x:MO},pm[i]?=some x->(pm++[MO.list Rm])[i]?=some x:=λe=>by rw[mI (fX.mp e).1];exact e
 constructor<;>first|exact .inr ()|exact hr|(rw[c_ (lf R.iI)];first|(rw[if_neg ()];first|exact lf R.iR|exact lf R.iA|exact lf R.iK|exact lf R.iN|exact lf R.iL|(rw[ya (dJ _)];simp))|(rw[if_pos rfl]))
end
structure de (b h ru:Nat) (m:Int) (bR:Bool) (tw:PV) (aW:List D) (aE:Int->Int->Bool) (mu:Int->Nat) (M:Nat) (pm:List MO) (t:Nat) (dp:Int) (tl:List gi) (kn:List (D×D)):Prop where
 R:bZ pm b t h ru m bR tw dp (cQ tl) kn (fk tl) aW
 K:pV aE kn
 nd:tl.Nodup
 rk:∀q∈tl,aE q.1 q.2=true\/M<=mu q.1+mu q.2
structure cZ (b h ru:Nat) (m:Int) (bR:Bool) (tw:PV) (aW:List D) (aE:Int->Int->Bool) (mu:Int->Nat) (M G:Nat) (pm:List MO) (dp:Int) (tl:List gi) (kn:List (D×D)) (r:Option (PV×List MO×List TO)) (v:Bool):Prop where
 ex:∃aA t' eY hO,r=some (.d (.bool v),aA,[])/\de b h ru m bR tw aW aE mu M aA t' dp (tl++eY) hO/\(tl=[]->eY=[])/\(∀q∈eY,aE q.1 q.2=true)/\eY.length<=G/\hO.length<=kn.length+G/\bL b pm aA
theorem cZ.in{b h ru:Nat}{m:Int}{bR:Bool}{tw:PV}{aW:List D}{aE:Int->Int->Bool}{mu:Int->Nat}{M G:Nat}{pm:List MO}{dp:Int}{tl:List gi}{kn:List (D×D)}{r:Option (PV×List MO×List TO)}{v:Bool}{aA:List MO}{t':Nat}{eY:List gi}{hO:List (D×D)}(h1:r=some (.d (.bool v),aA,[]))(h2:de b h ru m bR tw aW aE mu M aA t' dp (tl++eY) hO)(h3:tl=[]->eY=[])(h4:∀q∈eY,aE q.1 q.2=true)(h5:eY.length<=G)(h6:hO.length<=kn.length+G)(h7:bL b pm aA):cZ b h ru m bR tw aW aE mu M G pm dp tl kn r v:=
 ⟨aA,t',eY,hO,h1,h2,h3,h4,h5,h6,h7⟩
theorem de.mono{b h ru:Nat}{m:Int}{bR:Bool}{tw:PV}{aW:List D}{aE:Int->Int->Bool}{mu:Int->Nat}{M M':Nat}{pm:List MO}{t:Nat}{dp:Int}{tl:List gi}{kn:List (D×D)}(x:de b h ru m bR tw aW aE mu M pm t dp tl kn)(hM:M'<=M):de b h ru m bR tw aW aE mu M' pm t dp tl kn:=
 ⟨x.R,x.K,x.nd,λq hq=>(x.rk q hq).imp id λz=>bw hM z⟩
theorem wc{aE:Int->Int->Bool}:∀{l:List gi} {kn:List (D×D)},pV aE kn->(∀q∈l,aE q.1 q.2=true)->pV aE (tj kn l)/\(tj kn l).length<=kn.length+l.length
 |[],kn,k,_=>⟨k,dJ _⟩
 |p::r,kn,k,h=>by have hp:=h p (.head _);have k1:=k.put p;rw[hp]at k1;obtain⟨a,c⟩:=wc k1 λq hq=>h q (.tail _ hq);refine⟨a,bw c ?_⟩;have:=kz (ew p) (.bool true) kn;simp only[eH];omega
section
variable{b h ru:Nat}{m:Int}{bR:Bool}{tw:PV}{aW:List D}{aE:Int->Int->Bool}{mu:Int->Nat}{pm:List MO}{t:Nat}{dp:Int}{kn:List (D×D)}
theorem EZ{p:gi}{v:D}{kn:List (D×D)}(hk:∀x∈kn,∃q,x.1=ew q):∀x∈dput (ew p) v kn,∃q,x.1=ew q:=by
 induction kn with
 |nil=>intro x hx;have hx:x∈[(ew p,v)]:=hx;rw[jG]at hx;exact⟨p,by rw[hx]⟩
 |cons y ys ih=>
  intro x hx;have hx:x∈(if ba (ew p) y.1 then(y.1,v)::ys else y::dput (ew p) v ys):=hx;split at hx
  ·rcases dH.mp hx with hx|hx
   ·rw[hx];exact hk y (.head _)
   ·exact hk x (.tail _ hx)
  ·rcases dH.mp hx with hx|hx
   ·rw[hx];exact hk y (.head _)
   ·exact ih (λz hz=>hk z (.tail _ hz)) x hx
def E0:Ss:=#[.sN (.attr 'a' 19) 'c',.ite 'b' #[.hY (.attr 'a' 18) 'c' (.lit (.bool true))] .nil]
theorem H6(n:Nat)(l:List gi):∀(pm:List MO) (kn:List (D×D)),pm[b]?=some (.inst 2 (fQ b t h ru m bR tw dp))->pm[b+2]?=some (.dict (cQ l))->pm[b+3]?=some (.dict kn)->(∀x∈kn,∃q,x.1=ew q)->l.length+kn.length<=900000->
  ∀El:Option PV,∃aA x,dO (λls s=>execs (aH n) E0 ls s) (j8 2) (fk l) [some (.ax b),some (.d (.bool true)),El] ⟨pm,[]⟩=some (.next,[some (.ax b),some (.d (.bool true)),x],⟨aA,[]⟩)/\
   aA[b+2]?=some (.dict [])/\aA[b+3]?=some (.dict (tj kn l))/\(∀j,j≠b+2->j≠b+3->aA[j]?=pm[j]?)/\aA.length=pm.length:=by
 induction l with
 |nil=>
  intro pm kn h1 h2 h3 _ _ El;exact⟨pm,El,rfl,h2,h3,λ_ _ _=>rfl,rfl⟩
 |cons p r ih=>
  intro pm kn h1 h2 h3 hk hl El;obtain⟨s,u⟩:=p;have d1:jj (D.tup [D.int s,D.int u]) (cQ ((s,u)::r))=true:=A_ (s,u) (uD _);have d2:fM (D.tup [D.int s,D.int u]) (cQ ((s,u)::r))=true:=by have:=uE (s,u) ((s,u)::r);rw[show D.tup [D.int s,D.int u]=ew (s,u)from rfl,this];simp
  have d3:ma (D.tup [D.int s,D.int u]) (cQ ((s,u)::r))=cQ r:=H5 (s,u) r;have d4:(cQ ((s,u)::r)).length<=1000000:=by have:=hl;simp[cQ]at this⊢;omega
  have d5:jj (D.tup [D.int s,D.int u]) kn=true:=A_ (s,u) hk;have d6:kn.length<=1000000:=();have Te:r.length+(dput (ew (s,u)) (.bool true) kn).length<=900000:=by exact bw (hV (kz (ew (s,u)) (.bool true) kn) _) (bw (sM (Nat.add_right_comm r.length kn.length 1)) hl)
  have g1:(pm.set (b+2) (.dict (cQ r)))[b]?=some (.inst 2 (fQ b t h ru m bR tw dp)):=by rw[c_ h2,if_neg ()];exact h1
  have g3:(pm.set (b+2) (.dict (cQ r)))[b+3]?=some (.dict kn):=by rw[c_ h2,if_neg ()];exact h3
  have g2:(pm.set (b+2) (.dict (cQ r)))[b+2]?=some (.dict (cQ r)):=by rw[c_ h2,if_pos rfl]
  have k1:((pm.set (b+2) (.dict (cQ r))).set (b+3) (.dict (dput (ew (s,u)) (.bool true) kn)))[b]?=some (.inst 2 (fQ b t h ru m bR tw dp)):=by rw[c_ g3,if_neg ()];exact g1
  have k2:((pm.set (b+2) (.dict (cQ r))).set (b+3) (.dict (dput (ew (s,u)) (.bool true) kn)))[b+2]?=some (.dict (cQ r)):=by rw[c_ g3,if_neg ()];exact g2
  have k3:((pm.set (b+2) (.dict (cQ r))).set (b+3) (.dict (dput (ew (s,u)) (.bool true) kn)))[b+3]?=some (.dict (dput (ew (s,u)) (.bool true) kn)):=by rw[c_ g3,if_pos rfl]
  obtain⟨aA,x,e,e1,e2,e3,e4⟩:=ih _ _ k1 k2 k3 (EZ hk) Te (some (.d (ew (s,u))));refine⟨aA,x,?_,e1,e2,λj j1 j2=>by rw[e3 j j1 j2,c_ g3,if_neg (Ne.symm j2),c_ h2,if_neg (Ne.symm j1)],by rw[e4];simp⟩;unfold fk at e⊢;rw[j9];have ex:execs (aH n) E0 [some (.ax b),some (.d (.bool true)),some (.d (ew (s,u)))] ⟨pm,[]⟩=some (.next,[some (.ax b),some (.d (.bool true)),some (.d (ew (s,u)))],⟨(pm.set (b+2) (.dict (cQ r))).set (b+3) (.dict (dput (ew (s,u)) (.bool true) kn)),[]⟩):=by
   have k:fits kn=true:=cT d6
   dsimp! [h1,delD h2 d1 d2 (cT d4) d3,g1,EU g3 d5 k rfl]
  exact fJ rfl ex e
theorem f29(n:Nat){tl:List gi}(R:bZ pm b t h ru m bR tw dp (cQ tl) kn (fk tl) aW)(K:pV aE kn)(ht:∀q∈tl,aE q.1 q.2=true)(hl:tl.length+kn.length<=900000):
  ∃aA,rn (n+1) 29 [.ax b,.d (.bool true)] pm []=some (.d .none,aA,[])/\bZ aA b pm.length h ru m bR tw dp [] (tj kn tl) [] aW/\bL b pm aA:=by
 have sr:=R.lt;have htt:=R.ht;have Xq:t<pm.length:=(fX.mp R.iT).1;have gd:∀j,j≠t->(pm.set t .dead)[j]?=pm[j]?:=λj hj=>by rw[c_ R.iT,if_neg (Ne.symm hj)]
 obtain⟨fR,x,e,e1,e2,e3,e4⟩:=H6 (b:=b) n tl (pm.set t .dead) kn (by rw[gd b ()];exact R.iI) (by rw[gd (b+2) ()];exact R.iA) (by rw[gd (b+3) ()];exact R.iK) K.keys hl none;have hlen:fR.length=pm.length:=by rw[e4];simp
 have un:∀j,j≠b+2->j≠b+3->(fR.set t (.list (fk tl)))[j]?=pm[j]?:=λj j1 j2=>by
  rw[dz];by_cases hj:t=j
  ·subst hj;rw[if_pos rfl,if_pos (by rw[hlen];exact Xq)];exact R.iT.symm
  ·rw[if_neg hj,e3 j j1 j2,gd j (Ne.symm hj)]
 have R2:bZ (fR.set t (.list (fk tl))) b t h ru m bR tw dp [] (tj kn tl) (fk tl) aW:=by
  have hr:=R.hr;refine⟨?_,?_,?_,?_,?_,?_,?_,htt,hr⟩
  ·rw[un b () ()];exact R.iI
  ·rw[un ru () ()];exact R.iR
  ·rw[bp ()];exact e1
  ·rw[bp ()];exact e2
  ·rw[un t () ()];exact R.iT
  ·rw[un (b+6) () ()];exact R.iN
  ·rw[un (b+7) () ()];exact R.iL
 have R3:=R2.newT [];have Ro:(fR.set t (.list (fk tl))).length=pm.length:=by rw[gq,hlen]
 rw[Ro]at R3;refine⟨_,?_,R3,?_⟩
 ·have lf:(fR.set t (.list (fk tl))++[MO.list []])[b]?=some (.inst 2 (fQ b t h ru m bR tw dp)):=by rw[mI (by rw[Ro];omega)];exact R2.iI
  rw[<-Ro]
  dsimp! [itP R.iT,e,R2.iI,lf]
 ·refine⟨by simp[hlen],λj hj=>?_⟩;rw[bp (),mI (by rw[Ro];omega),un j () ()]
end
section
variable{b h ru:Nat}{m:Int}{bR:Bool}{tw:PV}{aW:List D}{aE:Int->Int->Bool}{mu:Int->Nat}{pm:List MO}{t:Nat}{dp:Int}{kn:List (D×D)}
def MJ:E:= .cmp .gt (.bi .len (.attr 'a' 17)) (.sub 'b' 1.0)
def Tf:Ss:=#[.sN (.attr 'a' 19) (.aR (.attr 'a' 17) 1 .nil)]
theorem H7{l:List gi}{p:gi}(h:(l++[p]).Nodup):p∉l/\l.Nodup:=by rw[List.nodup_append]at h;exact⟨λz=>h.2.2 _ z _ (.head _) rfl,h.1⟩
theorem Tg(n:Nat){a:Int}{tl:List gi}(l:List gi):∀(k:Nat) (pm:List MO),bZ pm b t h ru m bR tw dp (cQ (tl++l.reverse)) kn (fk (tl++l.reverse)) aW->(tl++l.reverse).Nodup->(tl++l.reverse).length<=900000->l.length<k->
  ∃aA,jH (λls s=>test (aH n) MJ ls s) (λls s=>execs (aH n) Tf ls s) k [some (.ax b),some (.d (.tup [.int a,.int tl.length]))] ⟨pm,[]⟩=some (.next,[some (.ax b),some (.d (.tup [.int a,.int tl.length]))],⟨aA,[]⟩)/\
   bZ aA b t h ru m bR tw dp (cQ tl) kn (fk tl) aW/\bL b pm aA:=by
 induction l with
 |nil=>
  intro k pm R nd hl hk;cases k with
  |zero=>exact absurd hk (Nat.not_lt_zero _)
  |succ k=>
  rw[List.reverse_nil,ei]at R hl;refine⟨pm,?_,R,.refl⟩;have e:test (aH n) MJ [some (.ax b),some (.d (.tup [.int a,.int tl.length]))] ⟨pm,[]⟩=some (decide ((tl.length:Int)<(fk tl).length),⟨pm,[]⟩):=by
   have lq:fits (fk tl)=true:=cT (by unfold fk;rw[eT];omega)
   dsimp! [R.iT,↑lq]
  show ai _ (test _ _ _ _)=_;rw[e,show(fk tl).length=tl.length from eT ..,dS (Int.lt_irrefl _)];rfl
 |cons p l ihh=>
  intro k pm R nd hl hk;cases k with
  |zero=>exact absurd hk (Nat.not_lt_zero _)
  |succ k=>
  obtain⟨s,u⟩:=p;have er:tl++((s,u)::l).reverse=(tl++l.reverse)++[(s,u)]:=by rw[List.reverse_cons,eI]
  rw[er]at R nd hl;obtain⟨hn,nd'⟩:=H7 nd;have h1:(fk (tl++l.reverse++[(s,u)])).length=tl.length+l.length+1:=by simp[fk];omega
  have Xr:tl.length+l.length+1<=900000:=by simp at hl;omega
  have e:test (aH n) MJ [some (.ax b),some (.d (.tup [.int a,.int tl.length]))] ⟨pm,[]⟩=some (decide ((tl.length:Int)<(fk (tl++l.reverse++[(s,u)])).length),⟨pm,[]⟩):=by
   have lq:fits (fk (tl++l.reverse++[(s,u)]))=true:=cT ()
   dsimp! [R.iT,↑lq]
  rw[h1,eM ()]at e;have R1:=R.EV (fk (tl++l.reverse));have R2:=R1.v5 (cQ (tl++l.reverse));have el:fk (tl++l.reverse++[(s,u)])=fk (tl++l.reverse)++[D.tup [D.int s,D.int u]]:=by simp[fk,ew]
  have d1:jj (D.tup [D.int s,D.int u]) (cQ (tl++l.reverse++[(s,u)]))=true:=A_ (s,u) (uD _);have d2:fM (D.tup [D.int s,D.int u]) (cQ (tl++l.reverse++[(s,u)]))=true:=by rw[show D.tup [D.int s,D.int u]=ew (s,u)from rfl,uE];simp
  have d3:ma (D.tup [D.int s,D.int u]) (cQ (tl++l.reverse++[(s,u)]))=cQ (tl++l.reverse):=EY (s,u) _ hn;have d4:(cQ (tl++l.reverse++[(s,u)])).length<=1000000:=by simp[cQ];omega
  have ln:(fk (tl++l.reverse)).length+1<=1000000:=by simp[fk];omega
  have iT:=R.iT;rw[el]at iT;have eb:execs (aH n) Tf [some (.ax b),some (.d (.tup [.int a,.int tl.length]))] ⟨pm,[]⟩=some (.next,[some (.ax b),some (.d (.tup [.int a,.int tl.length]))],⟨(pm.set t (.list (fk (tl++l.reverse)))).set (b+2) (.dict (cQ (tl++l.reverse))),[]⟩):=by dsimp! [iT,popP iT (cT (by rw[eh];exact ln)),delD R1.iA d1 d2 (cT d4) d3]
  obtain⟨aA,e',R',bl⟩:=ihh k _ R2 nd' (by simp at Xr⊢;omega) (by simp at hk;omega);refine⟨aA,?_,R',((bL.set (by have:=R.ht;omega)).trans (bL.set ())).trans bl⟩;show ai _ (test _ _ _ _)=_;rw[e];show ai _ (execs _ _ _ _)=_;rw[eb];exact e'
theorem f25(n:Nat){tl eY:List gi}(R:bZ pm b t h ru m bR tw dp (cQ (tl++eY)) kn (fk (tl++eY)) aW)(nd:(tl++eY).Nodup)(hl:(tl++eY).length<=90000)(l1:aW.length<=900000):
  ∃aA,rn (n+1) 25 [.ax b,.d (.tup [.int aW.length,.int tl.length])] pm []=some (.d .none,aA,[])/\bZ aA b t h ru m bR tw dp (cQ tl) kn (fk tl) aW/\bL b pm aA:=by
 have R1:=R.Tc aW;have MK:eY.length<=90000:=by simp at hl;omega
 obtain⟨aA,e,R',bl⟩:=Tg (a:=aW.length) (tl:=tl) n eY.reverse 100000 (pm.set (b+7) (.list aW)) (by rw[List.reverse_reverse];exact R1) (by rw[List.reverse_reverse];exact nd) (by rw[List.reverse_reverse];omega) (by simp;omega);refine⟨aA,?_,R',(bL.set ()).trans bl⟩
 dsimp! [R.iN,dtP R.iL (sG _) (MH ()) (cT ()) (List.take_length ..),e]
end
def gOf(m:Int):Nat:=if m=3 then 43 else 38
theorem gOfC{m:Int}(hm:m=1\/m=3):∃c,(m==3)=c/\gOf m=(match c with|true=>43|false=>38)/\(!(m==4))=true:=by rcases hm with rfl|rfl<;>exact⟨_,rfl,rfl,rfl⟩
theorem H8{l:List gi}{p:gi}(nd:l.Nodup)(h:p∉l):(l++[p]).Nodup:=by rw[List.nodup_append];exact⟨nd,by simp,λa h1 c h2=>by rw[jG]at h2;subst h2;exactλe=>h (e▸h1)⟩
section
variable{b h ru:Nat}{m:Int}{bR:Bool}{tw:PV}{aW:List D}{aE:Int->Int->Bool}{mu:Int->Nat}{pm:List MO}{t:Nat}{dp:Int}{kn:List (D×D)}{tl:List gi}
theorem f28(n:Nat){s u:Int}{G:Nat}{W:List MO->Prop}(hW:∀pm aA,bL b pm aA->W pm->W aA)(hm:m=1\/m=3)(l1:aW.length<=900000)
  (hin:∀pm t dp tl kn,W pm->de b h ru m bR tw aW aE mu (mu s+mu u) pm t dp tl kn->tl≠[]->tl.length+G<=80000->kn.length+G<=80000->dp+mu s+mu u<=51->cZ b h ru m bR tw aW aE mu (mu s+mu u) G pm dp tl kn (rn (n+1) (gOf m) [.ax b,.d (.int s),.d (.int u)] pm []) (aE s u))
  (w:W pm) (H:de b h ru m bR tw aW aE mu (mu s+mu u+1) pm t dp tl kn) (b1:tl.length+(2*G+2)<=80000) (eZ:kn.length+(2*G+2)<=80000) (b3:dp+mu s+mu u<=50):
  cZ b h ru m bR tw aW aE mu (mu s+mu u+1) (2*G+2) pm dp tl kn (rn (n+2) 28 [.ax b,.d (.int s),.d (.int u)] pm []) (aE s u):=by
 have R:=H.R;have K:=H.K;have nd:=H.nd;have rk:=H.rk;clear H;have d1:jj (ew (s,u)) kn=true:=A_ (s,u) K.keys;have d2:jj (ew (s,u)) (cQ tl)=true:=A_ (s,u) (uD _);cases hk:fM (ew (s,u)) kn with
 |true=>exact .in (by dsimp! [R.iK,↑d1,hk,K.get (s,u) hk]) (by rw[ei];exact⟨R,K,nd,rk⟩) (λ_=>rfl) (λ_ h=>nomatch h) (eJ _) () .refl
 |false=>
 have hA:=uE (s,u) tl;by_cases ha:(s,u)∈tl
 ·have Ba:aE s u=true:=(rk _ ha).resolve_right λ(z:mu s+mu u+1<=mu s+mu u)=>();rw[jF.mpr ha]at hA;rw[Ba];exact .in (by dsimp! [R.iK,↑d1,hk,R.iA,↑d2,hA]) (by rw[ei];exact⟨R,K,nd,rk⟩) (λ_=>rfl) (λ_ h=>nomatch h) (eJ _) () .refl
 rw[Bool.eq_false_iff.mpr λz=>ha (jF.mp z)]at hA;have hG:G<=2*G:=Nat.le_mul_of_pos_left G ∅;have h6:=dS (show¬((60:Int)<=dp)by omega);have Th:(fk tl).length=tl.length:=eT _;have ML:=f21 n R () (by rw[Th];omega);rw[Th]at ML;have R1:=R.v5 (cQ (tl++[(s,u)]));have R2:=R1.EV (fk (tl++[(s,u)]));have e6:=EU (σ:=⟨pm,[]⟩) (v:= .int 1) R.iA d2 (cT (by simp[cQ];omega)) (EX (s,u) tl ha);have e7:=A9 (σ:=⟨pm.set (b+2) (.dict (cQ (tl++[(s,u)]))),[]⟩) (d:=ew (s,u)) R1.iT (cT (by rw[Th];omega)) (List.map_append (f:=ew) (l₁:=tl) (l₂:=[(s,u)])).symm;have MM:bL b pm ((pm.set (b+2) (.dict (cQ (tl++[(s,u)])))).set t (.list (fk (tl++[(s,u)])))):=(bL.set ()).trans (bL.set (by have:=R.ht;omega));have R3:=R2.Ta (dp+1);have bl3:=MM.trans (bL.set (x:= .inst 2 (fQ b t h ru m bR tw (dp+1))) (dJ _));have nd3:(tl++[(s,u)]).Nodup:=H8 nd ha;have rk3:∀q∈tl++[(s,u)],aE q.1 q.2=true\/mu s+mu u<=mu q.1+mu q.2:=λq hq=>(pL.mp hq).elim (λh=>(rk q h).imp id λz=>Nat.le_of_succ_le z) λh=>by rw[jG]at h;subst h;exact .inr (dJ _)
 obtain⟨qT,t4,eY,Xs,r4,H4,_,a4,g4,k4,bl4⟩:=(hin _ t (dp+1) (tl++[(s,u)]) kn (hW _ _ bl3 w) ⟨R3,K,nd3,rk3⟩ (by simp) (by simp;omega) () ()).ex;have R5:=H4.R.Ta dp;have bl5:=(bl3.trans bl4).trans (bL.set (x:= .inst 2 (fQ b t4 h ru m bR tw dp)) (dJ _));obtain⟨c,m3,hg,m4⟩:=gOfC hm;rw[hg]at r4;have ar:arith .sub (dp+1) 1=some dp:=by show some (dp+1-1)=_;rw[Int.add_sub_cancel]
 have K4:=H4.K;have nd4:=H4.nd;rw[eI]at R5 nd4;have hlen:(tl++([(s,u)]++eY)).length<=80000:=by simp;omega
 cases Ba:aE s u with
 |false=>
  rw[Ba]at r4;obtain⟨K8,r6,R6,bl6⟩:=f25 n R5 nd4 () l1;have K7:=K4.put (s,u);rw[show aE (s,u).1 (s,u).2=false from Ba]at K7;have R7:=R6.setK (dput (ew (s,u)) (.bool false) Xs);refine .in ?_ (by rw[ei];exact⟨R7,K7,nd,rk⟩) (λ_=>rfl) (λ_ h=>nomatch h) (eJ _) (by have:=kz (ew (s,u)) (.bool false) Xs;omega) ((bl5.trans bl6).trans (bL.set ()));have e9:=EU (σ:=⟨K8,[]⟩) (k:=ew (s,u)) (v:= .bool false) R6.iK (A_ (s,u) K4.keys) (cT ()) rfl;cases hz:((tl.length:Int)==0)<;>cases c<;>dsimp! [m3,m4,R.iK,↑d1,hk,R.iA,↑d2,hA,h6,ML,e6,R1.iI,R1.iT,e7,R2.iI,R3.iI,r4,<-ar,H4.R.iI,r6,hz,R6.iI,e9]
 |true=>
  rw[Ba]at r4;have all:∀q∈[(s,u)]++eY,aE q.1 q.2=true:=λq hq=>(pL.mp hq).elim (λh=>by rw[jG]at h;subst h;exact Ba) (a4 q);by_cases h0:tl=[]
  ·rw[h0,List.nil_append]at R5;rw[h0]at ML;obtain⟨K8,r6,R6,bl6⟩:=f29 n R5 K4 all (by simp;omega);obtain⟨k6,g6⟩:=wc K4 all;rw[h0];refine .in ?_ ⟨R6,k6,List.nodup_nil,λq h=>nomatch h⟩ (λ_=>rfl) (λ_ h=>nomatch h) (eJ _) (by have:([(s,u)]++eY).length=eY.length+1:=eH;omega) (bl5.trans bl6);have f5:fits aW=true:=cT ();rw[show true=((aW.length:Int)==aW.length)from(beq_self_eq_true _).symm]at r6;cases c<;>dsimp! [m3,m4,R.iK,↑d1,hk,R.iA,↑d2,hA,h6,ML,e6,R1.iI,R1.iT,e7,R2.iI,R3.iI,r4,<-ar,H4.R.iI,R5.iI,R5.iN,R5.iL,↑f5,r6]
  ·refine .in (eY:=[(s,u)]++eY) ?_ ⟨R5,K4,nd4,λq hq=>(pL.mp hq).elim (rk q) λh=> .inl (all q h)⟩ (λz=>absurd z h0) all (by simp;omega) () bl5;have hz:((tl.length:Int)==0)=false:=by simpa using h0
   cases c<;>dsimp! [m3,m4,R.iK,↑d1,hk,R.iA,↑d2,hA,h6,ML,e6,R1.iI,R1.iT,e7,R2.iI,R3.iI,r4,<-ar,H4.R.iI,hz]
end
set_option genInjectivity true in
inductive Ty where
 |sL (s:List Nat)|one|kw (s:List Nat)|idx (o p:Int)|un (ae:List Int)|par (p:Int)|ko (x:Int)
def Ty.row:Ty->List D
 | .sL s=>[.int 3,.str s,.int 0]
 | .one=>[.int 4,.int 1,.int 0]
 | .kw s=>[.int 1,.str s]
 | .idx o p=>[.int 15,.int o,.int p]
 | .un ae=>[.int 6,.tup (ae.map .int)]
 | .par p=>[.int 10,.int p]
 | .ko x=>[.int 14,.int x]
def Ty.kind:Ty->Int
 | .sL _=>3| .one=>4| .kw _=>1| .idx _ _=>15| .un _=>6| .par _=>10| .ko _=>14
def Ty.df:Ty->Bool
 | .idx _ _=>true| .par _=>true| .ko _=>true|_=>false
def Ty.fY:Ty->Bool
 | .un _=>true|_=>false
structure aD (aa:List D) (t:Int) (T:Ty):Prop where
 nn:0<=t
 lt:t<900000
 at_:aa[t.toNat]?=some (.tup T.row)
structure Wd (aa ay:List D) (h:Nat) (pm:List MO):Prop where
 i0:pm[0]?=some (.inst 0 mV)
 i1:pm[1]?=some (.list aa)
 i4:pm[4]?=some (.list ay)
 ih:pm[h]?=some (.inst 3 bK)
theorem Wd.below{aa ay:List D}{h b:Nat}{pm aA:List MO}(w:Wd aa ay h pm)(hb:9<=b)(hh:h<b)(bl:bL b pm aA):Wd aa ay h aA:=
 ⟨by rw[bl.2 0 ()];exact w.i0,by rw[bl.2 1 ()];exact w.i1,by rw[bl.2 4 ()];exact w.i4,by rw[bl.2 h hh];exact w.ih⟩
theorem aD.s1{aa:List D}{t:Int}{T:Ty}(x:aD aa t T):(-4611686018427387904:Int)<t:=by have:=x.nn;omega
theorem aD.s2{aa:List D}{t:Int}{T:Ty}(x:aD aa t T):t<(4611686018427387904:Int):=by have:=x.lt;omega
theorem aD.sm{aa:List D}{t:Int}{T:Ty}(x:aD aa t T):small t=true:=uy x.s1 x.s2
theorem aD.n0{aa:List D}{t:Int}{T:Ty}(x:aD aa t T):decide (0<=t)=true:=eM x.nn
theorem aD.get{aa:List D}{t:Int}{T:Ty}{pm:List MO}{tm:List TO}(x:aD aa t T)(h1:pm[1]?=some (.list aa)):PS.v7 ⟨pm,tm⟩ (.ax 1) (.d (.int t))=some (.d (.tup T.row)):=by show ai (AZ (.int t)) (ai HD pm[1]?)=_;rw[h1];show dy (ai sR aa[t.toNat]?) (small t&&decide (0<=t))=_;rw[x.at_,uy x.s1 x.s2,eM x.nn];rfl
theorem mW{σ:PS}(T:Ty):σ.v7 (.d (.tup T.row)) (.d (.int 0))=some (.d (.int T.kind)):=by cases T<;>rfl
abbrev MN:E:= .attr (.attr (.attr 'a' 22) 23) 0
theorem zJ{X:Cx}{ls:Ls}{pm:List MO}{tm:List TO}{b h:Nat}{fs}(h0:ls[0]?= ~~~(.ax b))(I:pm[b]?=some (.inst 2 fs))(hf:pN 22 fs=some (.ax h))(ih:pm[h]?=some (.inst 3 bK))(i0:pm[0]?=some (.inst 0 mV)):eval X MN ls ⟨pm,tm⟩=some (.ax 1,⟨pm,tm⟩):=
 v9 (v9 (v9 (ak h0) I hf) ih rfl) i0 rfl
section
variable{aa ay:List D}{h:Nat}{pm:List MO}{t:Int}{T:Ty}{n:Nat}
theorem f63(a:Nat)(v:D):rn (n+1) 63 [.ax a,.d v] pm []=some (.d v,pm,[]):=by dsimp! [rfl]
def yl(t:Int):Ty->List D
 | .un ae=>ae.map .int
 |_=>[.int t]
theorem f6(w:Wd aa ay h pm)(x:aD aa t T)(h2:t≠2)(hl:∀ae,T= .un ae->ae.length<=1000000):rn (n+1) 6 [.ax 0,.d (.int t)] pm []=some (.d (.tup (yl t T)),pm,[]):=by
 have Ti:(t==2)=false:=by simpa using h2
 have f:fits (yl t T)=true:=cT (by cases T<;>first|exact gY rfl|(unfold yl;rw[eT];exact hl _ rfl));cases T<;>dsimp! [Ti,↑f]
theorem f14(w:Wd aa ay h pm)(x:aD aa t T):rn (n+1) 14 [.ax 0,.d (.int t)] pm []=some (.d (.bool (match T with| .sL _=>true| .one=>true|_=>false)),pm,[]):=by cases T<;>dsimp! [rfl]
theorem f15(w:Wd aa ay h pm)(x:aD aa t T):rn (n+1) 15 [.ax 0,.d (.int t)] pm []=some (.d (.bool false),pm,[]):=by cases T<;>dsimp! [rfl]
theorem f16(w:Wd aa ay h pm)(x:aD aa t T):rn (n+2) 16 [.ax 0,.d (.int t)] pm []=some (.d (.int t),pm,[]):=by dsimp! [f15 w x]
theorem Xu(w:Wd aa ay h pm)(x:aD aa t T):rn (n+3) 26 [.ax h,.d (.int t)] pm []=some (.d (.int t),pm,[]):=by have e:=f14 (n:=n+1) w x;cases T<;>dsimp! [e,f16 w x,f63 _ _]
def Ty.t7:Ty->Int
 | .sL _=>6| .one=>7|_=>-1
theorem f7(T:Ty):rn (n+1) 7 [.d (.tup T.row)] pm []=some (.d (.int T.t7),pm,[]):=by cases T<;>dsimp! [rfl]
theorem f35(T:Ty):rn (n+2) 35 [.d (.tup T.row)] pm []=some (.d (.bool false),pm,[]):=by cases T<;>dsimp! [rfl]
def Xv(k:Int):Bool:=[D.int 10,D.int 14,D.int 15,D.int 16,D.int 17,D.int 18,D.int 19].any λy=>ba y (.int k)
theorem uF(T:Ty):Xv T.kind=T.df:=by cases T<;>rfl
theorem f39(S T:Ty)(h:S.df=true\/T.df=true):rn (n+1) 39 [.d (.int S.kind),.d (.int T.kind)] pm []=some (.d (.int 2),pm,[]):=by
 have h7:(S.kind==7)=false:=by cases S<;>rfl
 have h7':(T.kind==7)=false:=by cases T<;>rfl
 have hS:=uF S;have hT:=uF T;unfold Xv at hS hT;cases h1:S.df<;>cases h2:T.df<;>rw[h1]at hS<;>rw[h2]at hT<;>first|(rw[h1,h2]at h;simp at h;done)|dsimp! [h7,h7',hS,hT]
end
def Ty.val:Ty->Bool
 | .sL _=>true| .one=>true| .kw _=>true|_=>false
def zK(s:Int):Prop:=s=1\/s=5\/16<=s
def pq(t:Int):Prop:=t=5\/16<=t
section
variable{aa ay:List D}{b t h ru:Nat}{m:Int}{bR:Bool}{tw:PV}{dp:Int}{as kn:List (D×D)}{tl aW:List D}{pm:List MO}{s u:Int}{S U:Ty}{n:Nat}
def opK(k:Int):Bool:=[D.int 6,D.int 7,D.int 10,D.int 14,D.int 15,D.int 16,D.int 17,D.int 18,D.int 19].any λy=>ba y (.int k)
theorem E3(T:Ty):opK T.kind=(T.df||T.fY):=by cases T<;>rfl
def vaK(k:Int):Bool:=[D.int 1,D.int 2,D.int 3,D.int 4,D.int 5].any λy=>ba y (.int k)
theorem uG(T:Ty):vaK T.kind=T.val:=by cases T<;>rfl
theorem mX(T:Ty):T.row[0]?=some (.int T.kind):=by cases T<;>rfl
theorem f34(w:Wd aa ay h pm)(R:bZ pm b t h ru m bR tw dp as kn tl aW)(x:aD aa u U)(hu:U.df=true):rn (n+1) 34 [.ax b,.d (.int u)] pm []=some (.d (.int (-1)),pm,[]):=by
 have hK:=uF U;unfold Xv at hK;rw[hu]at hK
 dsimp! [mX _,hK]
theorem f33(w:Wd aa ay h pm)(R:bZ pm b t h ru m bR tw dp as kn tl aW)(hm:m=1\/m=3)(x:aD aa u U)(hs:zK s)(hu:pq u)(h1:s=1->U.df=true):rn (n+2) 33 [.ax b,.d (.int s),.d (.int u)] pm []=some (.d (.int (-1)),pm,[]):=by
 have a1:(u==0)=false:=by unfold pq at hu;simp;omega
 have a2:(u==13)=false:=by unfold pq at hu;simp;omega
 have a3:(s==2)=false:=by unfold zK at hs;simp;omega
 have a4:(s==13)=false:=by unfold zK at hs;simp;omega
 have a5:(s==0)=false:=by unfold zK at hs;simp;omega
 have a6:(u==1)=false:=by unfold pq at hu;simp;omega
 have a7:(u==2)=false:=by unfold pq at hu;simp;omega
 by_cases e:s=1
 ·have e':(s==1)=true:=by simpa using e
  dsimp! [a1,a2,a3,a4,a5,a6,a7,e',f34 (n:=n) w R x (h1 e)]
 ·have e':(s==1)=false:=by simpa using e
  dsimp! [a1,a2,a3,a4,a5,a6,a7,e']
theorem f36(w:Wd aa ay h pm)(R:bZ pm b t h ru m bR tw dp as kn tl aW)(hm:m=1\/m=3)(y:aD aa s S)(x:aD aa u U)(hs:zK s)(hu:pq u)(v1:S.val=true)(v2:U.val=true):rn (n+4) 36 [.ax b,.d (.int s),.d (.int u)] pm []=some (.d (.int 0),pm,[]):=by
 have a1:(s==4)=false:=by unfold zK at hs;simp;omega
 have a2:(6==u)=false:=by unfold pq at hu;simp;omega
 have a3:(7==u)=false:=by unfold pq at hu;simp;omega
 have a4:(-1==u)=false:=by unfold pq at hu;simp;omega
 have e7:=λT=>@f7 pm (n+2) T;have e35:=λT=>@f35 pm n T;have k5:(S.kind==5)=false:=by cases S<;>rfl
 have m4:(m==4)=false:=by rcases hm with rfl|rfl<;>rfl
 have m2:(m==2)=false:=by rcases hm with rfl|rfl<;>rfl
 have e37:rn (n+3) 37 [.ax b,.d (.int s),.d (.tup S.row),.d (.tup U.row)] pm []=some (.d (.int 0),pm,[]):=by dsimp! [m4,e35 _]
 cases S<;>first|(cases v1;done)|dsimp! [mX _,m2,m4,a1,a2,a3,a4,e7 _,e37]
theorem f32(w:Wd aa ay h pm)(R:bZ pm b t h ru m bR tw dp as kn tl aW)(hm:m=1\/m=3)(y:aD aa s S)(x:aD aa u U)(hs:zK s)(hu:pq u)(h1:s=1->U.df=true):
  rn (n+5) 32 [.ax b,.d (.int s),.d (.int u)] pm []=some (.d (.int (if (S.df||S.fY||U.df||U.fY)then-1 else 0)),pm,[]):=by
 have a1:(u==10)=false:=by unfold pq at hu;simp;omega
 have e33:=f33 (n:=n+2) w R hm x hs hu h1;have oS:=E3 S;have oU:=E3 U;unfold opK at oS oU;have vS:=uG S;have vU:=uG U;unfold vaK at vS vU;cases c1:(S.df||S.fY)
 ·cases c2:(U.df||U.fY)
  ·have v1:S.val=true:=by cases S<;>first|rfl|cases c1
   have v2:U.val=true:=by cases U<;>first|rfl|cases c2
   have e36:=f36 (n:=n) w R hm y x hs hu v1 v2;rw[c1]at oS;rw[c2]at oU;rw[v1]at vS;rw[v2]at vU;rw[if_neg (by rw[Bool.or_assoc,c2]<;>simp)]
   dsimp! [mX _,a1,e33,e36,oS,oU,vS,vU]
  ·rw[c1]at oS;rw[c2]at oU;rw[if_pos (by rw[Bool.or_assoc,c2]<;>simp)]
   dsimp! [mX _,a1,e33,oS,oU]
 ·rw[c1]at oS;rw[if_pos (by simp)]
  dsimp! [mX _,a1,e33,oS]
end
theorem cZ.up{b h ru:Nat}{m:Int}{bR:Bool}{tw:PV}{aW:List D}{aE:Int->Int->Bool}{mu:Int->Nat}{M M' G G':Nat}{pm:List MO}{t:Nat}{dp:Int}{tl:List gi}{kn:List (D×D)}{r:Option (PV×List MO×List TO)}{v:Bool}
  (x:cZ b h ru m bR tw aW aE mu M' G pm dp tl kn r v) (y:de b h ru m bR tw aW aE mu M pm t dp tl kn) (hG:G<=G'):cZ b h ru m bR tw aW aE mu M G' pm dp tl kn r v:=by
 obtain⟨aA,t',eY,hO,e,⟨R,K,nd,rk⟩,a1,a2,a3,a4,a5⟩:=x.ex;refine⟨aA,t',eY,hO,e,⟨R,K,nd,λq hq=>?_⟩,a1,a2,(),(),a5⟩;rcases pL.mp hq with h|h
 ·exact y.rk q h
 ·exact .inl (a2 q h)
def Tn(ay:List D)(dq:Int->Int->Prop)(aE:Int->Int->Bool)(mu:Int->Nat)(s t p:Int)(par:Bool):Prop:=
 ∃b0:Int,0<=p/\p<900000/\ay[p.toNat]?=some (.int b0)/\((if b0<0\/b0=0 then 1 else b0)=s->par=false)/\
  ((if b0<0\/b0=0 then 1 else b0)≠s->dq (if b0<0\/b0=0 then 1 else b0) t/\mu (if b0<0\/b0=0 then 1 else b0)<mu s/\par=aE (if b0<0\/b0=0 then 1 else b0) t)
def MP(ay:List D)(dq:Int->Int->Prop)(aE:Int->Int->Bool)(mu:Int->Nat)(s t:Int)(S:Ty)(par:Bool):Prop:=match S with
 | .par p=>Tn ay dq aE mu s t p par
 |_=>par=false
inductive Step (ay:List D) (dq:Int->Int->Prop) (aE:Int->Int->Bool) (mu:Int->Nat) (s t:Int):Ty->Ty->Prop
 |same {S T:Ty} (e:s=t) (a:aE s t=true):Step ay dq aE mu s t S T
 |un {ae:List Int} {T:Ty} (ne:s≠t) (l:ae.length<=4) (d:∀x∈ae,dq x t/\mu x<mu s) (a:aE s t=ae.all λx=>aE x t):Step ay dq aE mu s t (.un ae) T
 |to {S:Ty} {ae:List Int} {par:Bool} (ne:s≠t) (nu:S.fY=false) (l:ae.length<=4) (d:∀x∈ae,dq s x/\mu x<mu t) (p:MP ay dq aE mu s t S par) (a:aE s t=(ae.contains s||ae.any (λx=>aE s x)||par)):Step ay dq aE mu s t S (.un ae)
 |df {S T:Ty} {par:Bool} (ne:s≠t) (nu:S.fY=false) (nt:T.fY=false) (o:S.df=true\/T.df=true) (p:MP ay dq aE mu s t S par) (a:aE s t=par):Step ay dq aE mu s t S T
 |val {S T:Ty} (ne:s≠t) (v:S.val=true) (v':T.val=true) (a:aE s t=false):Step ay dq aE mu s t S T
structure Em (aa ay:List D) (dq:Int->Int->Prop) (aE:Int->Int->Bool) (mu:Int->Nat) (s t:Int):Prop where
 ex:∃S T,aD aa s S/\aD aa t T/\zK s/\pq t/\(s=1->T.df=true)/\Step ay dq aE mu s t S T
def GG:Nat->Nat
 |0=>0
 |M+1=>10*GG M+2
theorem zL:∀{a c:Nat},a<=c->GG a<=GG c
 |0,_,_=>eJ _
 |a+1,0,h=>absurd h ()
 |a+1,c+1,h=>by have:=zL (Nat.le_of_succ_le_succ h);show 10*GG a+2<=10*GG c+2;omega
def kA(aa ay:List D)(b h ru:Nat)(bR:Bool)(tw:PV)(aW:List D)(dq:Int->Int->Prop)(aE:Int->Int->Bool)(mu:Int->Nat)(M:Nat)(f:Nat)(sp:Spec):Prop:=
 ∀s t,dq s t->mu s+mu t<M->∀pm tt dp tl kn,Wd aa ay h pm->de b h ru 1 bR tw aW aE mu (mu s+mu t+1) pm tt dp tl kn->tl.length+GG M<=80000->kn.length+GG M<=80000->dp+mu s+mu t<=50->
  cZ b h ru 1 bR tw aW aE mu (mu s+mu t+1) (GG M) pm dp tl kn (sp [.ax b,.d (.int s),.d (.int t)] pm []) (aE s t)
section
variable{aa ay:List D}{b h ru:Nat}{bR:Bool}{tw:PV}{aW:List D}{dq:Int->Int->Prop}{aE:Int->Int->Bool}{mu:Int->Nat}{M:Nat}{n:Nat}
theorem K9(H:kA aa ay b h ru bR tw aW dq aE mu M 27 (rn n 27)):kA aa ay b h ru bR tw aW dq aE mu M 18 (rn (n+1) 18):=by
 intro s t hq hr pm tt dp tl kn w R b1 eZ b3;obtain⟨aA,t',eY,hO,e,x⟩:=(H s t hq hr pm tt dp tl kn w R b1 eZ b3).ex;refine⟨aA,t',eY,hO,?_,x⟩
 dsimp! [e]
theorem pr71(H:kA aa ay b h ru bR tw aW dq aE mu M 18 (rn (n+1) 18))(hb:9<=b)(hh:h<b){s t:Int}{S:Ty}{par:Bool}{pm:List MO}{tt:Nat}{dp:Int}{tl:List gi}{kn:List (D×D)}{r:Nat}(hr:mu s+mu t<=M)(MQ:mu s+mu t<=r)(y:aD aa s S)(P:MP ay dq aE mu s t S par)(w:Wd aa ay h pm)
  (R:de b h ru 1 bR tw aW aE mu r pm tt dp tl kn) (b1:tl.length+GG M<=80000) (eZ:kn.length+GG M<=80000) (b3:dp+mu s+mu t<=51):
  cZ b h ru 1 bR tw aW aE mu r (GG M) pm dp tl kn (rn (n+2) 71 [.ax b,.d (.int s),.d (.int t)] pm []) par:=by
 have I:=R.R.iI;cases S with
 |par p=>
  obtain⟨b0,p0,p1,p2,q1,q2⟩:=P;have e46:rn (n+1) 46 [.ax 0,.d (.int p)] pm []=some (.d (.int (if b0<0\/b0=0 then 1 else b0)),pm,[]):=by
   have sp:=uy (i:=p) () ();have np:=eM p0;by_cases h1:b0<0
   ·rw[if_pos (.inl h1)]
    dsimp! [w.i4,↑sp,↑np,p2,eM h1]
   ·by_cases h2:b0=0
    ·rw[if_pos (.inr h2)]
     dsimp! [w.i4,↑sp,↑np,p2,dS h1,(fg.mpr h2:(b0==0)=true)]
    ·rw[if_neg (λh=>h.elim h1 h2)]
     dsimp! [w.i4,↑sp,↑np,p2,dS h1,(beq_eq_false_iff_ne.mpr h2:(b0==0)=false)]
  generalize (if b0<0\/b0=0 then 1 else b0:Int)=bd at*
  by_cases e:bd=s
  ·have:=q1 e;subst this;have e':(bd==s)=true:=by simpa using e
   refine⟨pm,tt,[],kn,?_,by rw[ei];exact R,λ_=>rfl,λ_ h=>(nomatch h),eJ _,(),.refl⟩;rw[<-ky e']
   dsimp! [e46,ky e']
  ·obtain⟨d1,d2,d3⟩:=q2 e;subst d3;have e':(bd==s)=false:=by simpa using e
   have R':=R.mono (M':=mu bd+mu t+1) ();obtain⟨aA,t',eY,hO,r',x⟩:=((H bd t d1 () pm tt dp tl kn w R' b1 eZ ()).up R (dJ _)).ex;refine⟨aA,t',eY,hO,?_,x⟩
   dsimp! [e46,mU e',r']
 |_=>
  cases P;refine⟨pm,tt,[],kn,?_,by rw[ei];exact R,λ_=>rfl,λ_ h=>(nomatch h),eJ _,(),.refl⟩
  dsimp! [rfl]
theorem To(H:kA aa ay b h ru bR tw aW dq aE mu M 18 (rn (n+1) 18))(hb:9<=b)(hh:h<b){s t:Int}{S:Ty}{par:Bool}{pm:List MO}{tt:Nat}{dp:Int}{tl:List gi}{kn:List (D×D)}{r:Nat}(hr:mu s+mu t<=M)(MQ:mu s+mu t<=r)(y:aD aa s S)(P:MP ay dq aE mu s t S par)(w:Wd aa ay h pm)
  (R:de b h ru 1 bR tw aW aE mu r pm tt dp tl kn) (b1:tl.length+GG M<=80000) (eZ:kn.length+GG M<=80000) (b3:dp+mu s+mu t<=51):
  cZ b h ru 1 bR tw aW aE mu r (GG M) pm dp tl kn (rn (n+4) 22 [.ax b,.d (.int 2),.d (.int s),.d (.int t)] pm []) par:=by
 obtain⟨aA,t',eY,hO,e,x⟩:=(pr71 H hb hh hr MQ y P w R b1 eZ b3).ex;have e70:rn (n+3) 70 [.d (.cin 4),.ax b,.d (.int s),.d (.int t)] pm []=some (.d (.bool par),aA,[]):=by dsimp! [R.R.iI,e]
 refine⟨aA,t',eY,hO,?_,x⟩
 dsimp! [R.R.iI,R.R.iR,getP R.R.iR rfl rfl,e70]
end
section
variable{aa ay:List D}{b h ru:Nat}{bR:Bool}{tw:PV}{aW:List D}{dq:Int->Int->Prop}{aE:Int->Int->Bool}{mu:Int->Nat}{M:Nat}{n:Nat}
def b40:Ss:=#[.ite (.aR 'a' 4 #['d','c']) #[.ite (.cmp .eq (.attr 'a' 21) (.glob 21)) #[.bad] .nil] #[.ite (.cmp .ne (.attr 'a' 21) (.glob 21)) #[.ret (.lit (.bool false))] .nil]]
inductive Chain (b h ru:Nat) (m:Int) (bR:Bool) (tw:PV) (aW:List D) (aE:Int->Int->Bool) (mu:Int->Nat) (r G:Nat) (I:Ls->Prop) (pm:List MO) (dp:Int) (tl:List gi) (kn:List (D×D)) (R0:Option (Fl×Ls×PS)) (fl:Fl):Prop
 |mk (aA:List MO) (t':Nat) (eY:List gi) (hO:List (D×D)) (bk:Ls) (e:R0=some (fl,bk,⟨aA,[]⟩)) (i:I bk) (H:de b h ru m bR tw aW aE mu r aA t' dp (tl++eY) hO) (a:∀q∈eY,aE q.1 q.2=true) (l1:eY.length<=G) (l2:hO.length<=kn.length+G) (bl:bL b pm aA):Chain b h ru m bR tw aW aE mu r G I pm dp tl kn R0 fl
theorem E4{m:Int}{dp:Int}{r G i0:Nat}{I:Ls->Prop}{body:Ls->PS->Option (Fl×Ls×PS)}{Ok:Int->Prop}{p:Int->Bool}{rv:PV}(hb:9<=b)(hh:h<b)
  (step:∀x,Ok x->∀ls pm tt tl kn,I ls->Wd aa ay h pm->de b h ru m bR tw aW aE mu r pm tt dp tl kn->tl≠[]->tl.length+G<=80000->kn.length+G<=80000->Chain b h ru m bR tw aW aE mu r G I pm dp tl kn (body (ls.set i0 (some (.d (.int x)))) ⟨pm,[]⟩) (if p x then .next else .ret rv)) (ae:List Int):
  ∀(ls:Ls) (pm:List MO) (tt:Nat) (tl:List gi) (kn:List (D×D)),(∀x∈ae,Ok x)->I ls->Wd aa ay h pm->de b h ru m bR tw aW aE mu r pm tt dp tl kn->tl≠[]->tl.length+(ae.length+1)*G<=80000->kn.length+(ae.length+1)*G<=80000->
  Chain b h ru m bR tw aW aE mu r (ae.length*G) I pm dp tl kn (dO body (j8 i0) (ae.map .int) ls ⟨pm,[]⟩) (if ae.all p then .next else .ret rv):=by
 induction ae with
 |nil=>
  intro ls pm tt tl kn _ i w R _ _ _;exact .mk pm tt [] kn ls rfl i (by rw[ei];exact R) (λ_ h=>nomatch h) (eJ _) (qJ _ _) .refl
 |cons x ae ih=>
  intro ls pm tt tl kn hd i w R ne b1 eZ;rw[eH,Nat.add_mul]at b1 eZ;have hG:G<=1*G:=sM (Nat.one_mul G).symm;obtain⟨aA,t',eY,hO,bk,e,i',R',a1,l1,l2,bl⟩:=step x (hd x (.head _)) ls pm tt tl kn i w R ne (bw (hV (bw hG (Nat.le_add_left _ _)) _) b1) (bw (hV (bw hG (Nat.le_add_left _ _)) _) eZ);rw[List.all_cons,eH,Nat.add_mul];cases hp:p x with
  |false=>
   rw[hp]at e;exact .mk aA t' eY hO bk (MF rfl e) i' R' a1 (bw l1 (bw hG (Nat.le_add_left _ _))) (bw l2 (hV (bw hG (Nat.le_add_left _ _)) _)) bl
  |true=>
   rw[hp]at e;obtain⟨dt,t2,tl3,Rq,El,e2,i2,R2,a2,l3,l4,MM⟩:=ih bk aA t' (tl++eY) hO (λy hy=>hd y (.tail _ hy)) i' (w.below hb hh bl) R' (λz=>ne (List.append_eq_nil_iff.mp z).1) (by rw[eh];exact od1 b1 (hV (bw l1 hG) _)) (od1 eZ (bw l2 (hV hG _)));exact .mk dt t2 (eY++tl3) Rq El (fJ rfl e e2) i2 (by rw[<-eI];exact R2) (λq hq=>(pL.mp hq).elim (a1 q) (a2 q)) (by rw[eh];exact bw (sM (Nat.add_comm _ _)) (ji l3 (bw l1 hG))) (bw l4 (od1 (dJ _) (bw l2 (hV hG _)))) (bl.trans MM)
inductive Tp (b:Nat) (x1 x2:D):Ls->Prop
 |mk (y:Option PV):Tp b x1 x2 [some (.ax b),some (.d x1),some (.d x2),y]
theorem MR(H:kA aa ay b h ru bR tw aW dq aE mu M 18 (rn n 18)){s t:Int}{r:Nat}{dp:Int}(hr:mu s+mu t<=M)(MQ:mu s+mu t<=r)(b3:dp+mu s+mu t<=51)(x:Int)(hx:dq x t/\mu x<mu s)(ls:Ls)(pm:List MO)(tt:Nat)(tl:List gi)(kn:List (D×D)):
  Tp b (.int s) (.int t) ls->Wd aa ay h pm->de b h ru 1 bR tw aW aE mu r pm tt dp tl kn->tl≠[]->tl.length+GG M<=80000->kn.length+GG M<=80000->Chain b h ru 1 bR tw aW aE mu r (GG M) (Tp b (.int s) (.int t)) pm dp tl kn (execs (aH n) b40 (ls.set 3 (some (.d (.int x)))) ⟨pm,[]⟩) (if aE x t then .next else .ret (.d (.bool false))):=by
 rintro⟨y⟩ w R ne b1 eZ;obtain⟨aA,t',eY,hO,e,R',a1,a2,a3,a4,bl⟩:=((H x t hx.1 (by have:=hx.2;omega) pm tt dp tl kn w (R.mono (by have:=hx.2;omega)) () () (by have:=hx.2;omega)).up R (dJ _)).ex;refine .mk aA t' eY hO [some (.ax b),some (.d (.int s)),some (.d (.int t)),some (.d (.int x))] ?_ (.mk _) R' a2 a3 a4 bl;cases ha:aE x t<;>dsimp! [R.R.iI,e,ha,R'.R.iI]
theorem f40(H:kA aa ay b h ru bR tw aW dq aE mu M 18 (rn (n+1) 18))(hb:9<=b)(hh:h<b){s t:Int}{ae:List Int}{pm:List MO}{tt:Nat}{dp:Int}{tl:List gi}{kn:List (D×D)}{r:Nat}(hr:mu s+mu t<=M)(MQ:mu s+mu t<=r)(y:aD aa s (.un ae))(h2:s≠2)(hl:ae.length<=4)
  (hd:∀x∈ae,dq x t/\mu x<mu s) (w:Wd aa ay h pm) (R:de b h ru 1 bR tw aW aE mu r pm tt dp tl kn) (ne:tl≠[]) (b1:tl.length+5*GG M<=80000) (eZ:kn.length+5*GG M<=80000) (b3:dp+mu s+mu t<=51):
  cZ b h ru 1 bR tw aW aE mu r (5*GG M) pm dp tl kn (rn (n+2) 40 [.ax b,.d (.int s),.d (.int t)] pm []) (ae.all λx=>aE x t):=by
 have hm:(ae.length+1)*GG M<=5*GG M:=Nat.mul_le_mul_right _ ();have ym:ae.length*GG M<=5*GG M:=Nat.mul_le_mul_right _ ();obtain⟨aA,t',eY,hO,bk,e,i',R',c2,c3,c4,bl⟩:=E4 hb hh (MR H hr MQ b3) ae _ pm tt tl kn hd (.mk none) w R ne (ob2 ‹_› hm) (ob2 ‹_› hm);refine .in ?_ R' (λz=>absurd z ne) c2 (bw ‹_› ym) (ob5 hm ‹_›) bl;have e6:=f6 (n:=n) w y h2 (λi hi=>by cases hi;omega);obtain⟨y⟩:=i';cases ha:ae.all λx=>aE x t<;>rw[ha]at e<;>dsimp! [R.R.iI,e6,e,R'.R.iI]
def b41:Ss:=#[.asg 5 (.aR 'a' 7 .nil),.ite (.aR 'a' 4 #['b','e']) #[.ite (.cmp .eq (.bi .len (.attr (.attr 'a' 14) 0)) (.sub 'f' 0.0)) #[.ret (.lit (.bool true))] .nil,.bad,.bad] .nil]
inductive L41 (b:Nat) (x1 x2:D):Ls->Prop
 |mk (y z:Option PV):L41 b x1 x2 [some (.ax b),some (.d x1),some (.d x2),some (.d .none),y,z]
theorem MS(l1:aW.length<=900000){m:Int}{G:Nat}{s:Int}{r:Nat}{P2:D}{dp:Int}(A:∀y,dq s y->∀pm tt tl kn,Wd aa ay h pm->de b h ru m bR tw aW aE mu r pm tt dp tl kn->tl.length+G<=80000->kn.length+G<=80000->
   cZ b h ru m bR tw aW aE mu r G pm dp tl kn (rn (n+1) 18 [.ax b,.d (.int s),.d (.int y)] pm []) (aE s y)) (x:Int) (hx:dq s x) (ls:Ls) (pm:List MO) (tt:Nat) (tl:List gi) (kn:List (D×D)):
  L41 b (.int s) P2 ls->Wd aa ay h pm->de b h ru m bR tw aW aE mu r pm tt dp tl kn->tl≠[]->tl.length+G<=80000->kn.length+G<=80000->Chain b h ru m bR tw aW aE mu r G (L41 b (.int s) P2) pm dp tl kn (execs (aH (n+1)) b41 (ls.set 4 (some (.d (.int x)))) ⟨pm,[]⟩) (if !aE s x then .next else .ret (.d (.bool true))):=by
 rintro⟨y,z⟩ w R ne b1 eZ;obtain⟨aA,t',eY,hO,e,R',a1,a2,a3,a4,bl⟩:=(A x hx pm tt tl kn w R b1 eZ).ex;have Th:(fk tl).length=tl.length:=eT _;have ML:=f21 n R.R () (by rw[Th];omega);have f:fits aW=true:=cT ();refine .mk aA t' eY hO [some (.ax b),some (.d (.int s)),some (.d P2),some (.d .none),some (.d (.int x)),some (.d (.tup [.int aW.length,.int (fk tl).length]))] ?_ (.mk _ _) R' a2 a3 a4 bl;cases ha:aE s x<;>dsimp! [R.R.iI,ML,e,ha,R'.R.iI,R'.R.iN,R'.R.iL,↑f,beq_self_eq_true _]
theorem zM(p:Int->Bool):∀l:List Int,l.all (λx=>!p x)=!l.any p
 |[]=>rfl
 |x::l=>by rw[List.all_cons,List.any_cons,zM p l,Bool.not_or]
theorem Xw(l1:aW.length<=900000){m:Int}{G:Nat}(hb:9<=b)(hh:h<b){s:Int}{r:Nat}{dp:Int}(A:∀y,dq s y->∀pm tt tl kn,Wd aa ay h pm->de b h ru m bR tw aW aE mu r pm tt dp tl kn->tl.length+G<=80000->kn.length+G<=80000->
   cZ b h ru m bR tw aW aE mu r G pm dp tl kn (rn (n+1) 18 [.ax b,.d (.int s),.d (.int y)] pm []) (aE s y))
  {ae:List Int} {pm:List MO} {tt:Nat} {tl:List gi} {kn:List (D×D)} (hl:ae.length<=4) (hd:∀x∈ae,dq s x) (w:Wd aa ay h pm) (R:de b h ru m bR tw aW aE mu r pm tt dp tl kn) (ne:tl≠[]) (b1:tl.length+5*G<=80000) (eZ:kn.length+5*G<=80000):
  cZ b h ru m bR tw aW aE mu r (4*G) pm dp tl kn (rn (n+2) 41 [.ax b,.d (.int s),.d (.tup (ae.map .int))] pm []) (ae.any λx=>aE s x):=by
 have hm:(ae.length+1)*G<=5*G:=Nat.mul_le_mul_right _ ();have ym:ae.length*G<=4*G:=Nat.mul_le_mul_right _ hl;obtain⟨aA,t',eY,hO,bk,e,i',R',c2,c3,c4,bl⟩:=E4 hb hh (MS (P2:= .tup (ae.map .int)) l1 A) ae _ pm tt tl kn hd (.mk none none) w R ne (ob2 ‹_› hm) (ob2 ‹_› hm);refine .in ?_ R' (λz=>absurd z ne) c2 (ob4 hm ‹_›) (ob3 hm ‹_›) bl;rw[zM]at e;obtain⟨y,z⟩:=i';cases ha:ae.any λx=>aE s x<;>rw[ha]at e<;>dsimp! [e]
end
section
variable{aa ay:List D}{b h ru:Nat}{bR:Bool}{tw:PV}{aW:List D}{dq:Int->Int->Prop}{aE:Int->Int->Bool}{mu:Int->Nat}{M:Nat}{n:Nat}
theorem H9(s:Int)(ae:List Int):((ae.map D.int).any λy=>ba y (.int s))=ae.contains s:=by
 induction ae with
 |nil=>rfl
 |cons x r ih=>
  rw[j9,List.any_cons,ih,List.contains_cons];congr 1;show(x==s)=(s==x);by_cases e:x=s
  ·subst e;rfl
  ·have e':s≠x:=λz=>e z.symm;rw[beq_eq_false_iff_ne.mpr e,beq_eq_false_iff_ne.mpr e']
theorem kB(ae:List Int):lI (ae.map D.int)=true:=by
 induction ae with
 |nil=>rfl
 |cons x r ih=>show(qg (.int x)&&lI (r.map D.int))=true;rw[ih];rfl
theorem yn(ae:List Int):dW (ae.map D.int)=0:=by
 induction ae with
 |nil=>rfl
 |cons x r ih=>show max (dj (.int x)) (dW (r.map D.int))=0;rw[ih];rfl
theorem memG(s:Int)(ae:List Int):(qg (.int s)&&lI (ae.map D.int)&&Nat.ble (min (dW (ae.map D.int)) (dj (.int s))) 50)=true:=by rw[kB,yn];rfl
theorem f42(l1:aW.length<=900000)(H:kA aa ay b h ru bR tw aW dq aE mu M 18 (rn (n+3) 18))(H':kA aa ay b h ru bR tw aW dq aE mu M 18 (rn (n+1) 18))(hb:9<=b)(hh:h<b){s t:Int}{S:Ty}{ae:List Int}{par:Bool}{pm:List MO}{tt:Nat}{dp:Int}{tl:List gi}{kn:List (D×D)}{r:Nat}(hr:mu s+mu t<=M)(MQ:mu s+mu t<=r)
  (y:aD aa s S) (x:aD aa t (.un ae)) (nu:S.fY=false) (h2:t≠2) (hl:ae.length<=4) (hd:∀x∈ae,dq s x/\mu x<mu t) (P:MP ay dq aE mu s t S par) (w:Wd aa ay h pm) (R:de b h ru 1 bR tw aW aE mu r pm tt dp tl kn) (ne:tl≠[]) (b1:tl.length+5*GG M<=80000) (eZ:kn.length+5*GG M<=80000) (b3:dp+mu s+mu t<=51):
  cZ b h ru 1 bR tw aW aE mu r (5*GG M) pm dp tl kn (rn (n+5) 42 [.ax b,.d (.int s),.d (.int t)] pm []) (ae.contains s||ae.any (λx=>aE s x)||par):=by
 have e6:=f6 (n:=n+3) w x h2 (λi hi=>by cases hi;omega);have mg:=memG s ae;have we:=H9 s ae;cases hc:ae.contains s with
 |true=>
  rw[hc]at we;exact .in (by dsimp! [R.R.iI,e6,↑mg,we]) (by rw[ei];exact R) (λ_=>rfl) (λ_ h=>(nomatch h)) (eJ _) () .refl
 |false=>
  rw[hc]at we;rw[Bool.false_or];obtain⟨fR,t1,tl1,Tq,Tr,R1,a1,a2,a3,a4,Xx⟩:=(Xw (dq:=λs y=>dq s y/\mu y<mu t) (n:=n+2) (m:=1) (G:=GG M) (r:=r) l1 hb hh (s:=s) (λy hy pm tt tl kn w R b1 eZ=>(H s y hy.1 (by have:=hy.2;omega) pm tt dp tl kn w (R.mono (by have:=hy.2;omega)) b1 eZ (by have:=hy.2;omega)).up R (dJ _)) hl hd w R ne b1 eZ).ex;cases ha:ae.any λx=>aE s x with
  |true=>
   rw[ha]at Tr;exact .in (by dsimp! [R.R.iI,e6,↑mg,we,Tr]) R1 a1 a2 () () Xx
  |false=>
   rw[ha]at Tr;rw[Bool.false_or];have w1:=w.below hb hh Xx;have hK:=uF S;unfold Xv at hK;cases Ts:S.df with
   |true=>
    obtain⟨dt,t2,eY,Rq,e22,R2,c1,c2,c3,c4,MM⟩:=(To (n:=n) H' hb hh hr MQ y P w1 R1 (by rw[eh];omega) () b3).ex;rw[Ts]at hK;exact .in (by dsimp! [R.R.iI,e6,↑mg,we,Tr,w1.i0,w1.i1,mX _,hK,e22]) (by rw[<-eI];exact R2) (λz=>absurd z ne) (λq hq=>(pL.mp hq).elim (a2 q) (c2 q)) (by rw[eh];omega) () (Xx.trans MM)
   |false=>
    have hp:par=false:=by cases S<;>first|exact P|cases Ts
    have hv:S.val=true:=by cases S<;>first|(cases nu;done)|(cases Ts;done)|rfl
    rw[hp];refine .in ?_ R1 a1 a2 () () Xx;clear hK Ts P nu;cases S<;>first|(cases hv;done)|dsimp! [R.R.iI,e6,↑mg,we,Tr,w1.i0,w1.i1]
end
section
variable{aa ay:List D}{b h ru:Nat}{bR:Bool}{tw:PV}{aW:List D}{dq:Int->Int->Prop}{aE:Int->Int->Bool}{mu:Int->Nat}{M:Nat}{n:Nat}
theorem zN(T:Ty):(T.kind==6)=T.fY:=by cases T<;>rfl
theorem f38(l1:aW.length<=900000)(H:∀j,kA aa ay b h ru bR tw aW dq aE mu M 18 (rn (n+j+1) 18))(hb:9<=b)(hh:h<b){s t:Int}{S T:Ty}{pm:List MO}{tt:Nat}{dp:Int}{tl:List gi}{kn:List (D×D)}(hr:mu s+mu t<=M)
  (y:aD aa s S) (x:aD aa t T) (ne0:s≠t) (hs:zK s) (ht:pq t) (St:Step ay dq aE mu s t S T) (hnv:S.df=true\/S.fY=true\/T.df=true\/T.fY=true) (w:Wd aa ay h pm) (R:de b h ru 1 bR tw aW aE mu (mu s+mu t) pm tt dp tl kn) (ne:tl≠[]) (b1:tl.length+5*GG M<=80000) (eZ:kn.length+5*GG M<=80000) (b3:dp+mu s+mu t<=51):
  cZ b h ru 1 bR tw aW aE mu (mu s+mu t) (5*GG M) pm dp tl kn (rn (n+6) 38 [.ax b,.d (.int s),.d (.int t)] pm []) (aE s t):=by
 have kS:=zN S;have kT:=zN T;have s2:s≠2:=λe=>absurd (e▸hs:zK 2) (by unfold zK;decide);have t2:t≠2:=λe=>absurd (e▸ht:pq 2) (by unfold pq;decide);have I:=R.R.iI;cases St with
 |same e _=>exact absurd e ne0
 |un _ l d a=>
  rw[a];obtain⟨aA,t',eY,hO,e,X⟩:=(f40 (n:=n+3) (H 3) hb hh hr (dJ _) y s2 l d w R ne b1 eZ b3).ex;refine⟨aA,t',eY,hO,?_,X⟩
  dsimp! [mX _,kS,e]
 |to _ nu l d p a=>
  rw[a];obtain⟨aA,t',eY,hO,e,X⟩:=(f42 (n:=n) l1 (H 2) (H 0) hb hh hr (dJ _) y x nu t2 l d p w R ne b1 eZ b3).ex;refine⟨aA,t',eY,hO,?_,X⟩;rw[nu]at kS
  dsimp! [mX _,kS,kT,e]
 |df _ nu nt o p a=>
  rw[a];have G1:GG M<=5*GG M:=Nat.le_mul_of_pos_left _ ∅;obtain⟨aA,t',eY,hO,e,X⟩:=((To (n:=n+1) (H 1) hb hh hr (dJ _) y p w R () () b3).up R G1).ex;have e39:=f39 (pm:=pm) (n:=n+4) S T o;refine⟨aA,t',eY,hO,?_,X⟩;rw[nu]at kS;rw[nt]at kT
  dsimp! [mX _,kS,kT,e39,e]
 |val _ v v' a=>
  exfalso;rcases hnv with z|z|z|z
  ·cases S<;>first|(cases v;done)|cases z
  ·cases S<;>first|(cases v;done)|cases z
  ·cases T<;>first|(cases v';done)|cases z
  ·cases T<;>first|(cases v';done)|cases z
theorem Tu(l1:aW.length<=900000)(hb:9<=b)(hh:h<b)(HQ:∀s t,dq s t->Em aa ay dq aE mu s t)(M:Nat):∀(n:Nat),kA aa ay b h ru bR tw aW dq aE mu M 27 (rn (n+8*M+8) 27):=by
 induction M with
 |zero=>intro n s t _ hr;exact absurd hr (Nat.not_lt_zero _)
 |succ M ih=>
  intro n s t hq hr pm tt dp tl kn w R b1 eZ b3;obtain⟨S,T,y,x,hs,ht,h1,St⟩:=(HQ s t hq).ex;have lev:n+8*(M+1)+8=(n+8*M+15)+1:=();have gg:GG (M+1)=2*(5*GG M)+2:=by show 10*GG M+2=_;omega
  rw[lev];by_cases e:s=t
  ·have ha:aE s t=true:=by
    cases St with
    |same _ a=>exact a
    |un ne _ _ _=>exact absurd e ne
    |to ne _ _ _ _ _=>exact absurd e ne
    |df ne _ _ _ _ _=>exact absurd e ne
    |val ne _ _ _=>exact absurd e ne
   rw[ha];subst e;refine⟨pm,tt,[],kn,?_,by rw[ei];exact R,λ_=>rfl,(λ_ h=>(nomatch h)),eJ _,(),.refl⟩
   dsimp! [beq_self_eq_true _]
  ·have e':(s==t)=false:=by simpa using e
   have I:=R.R.iI;have c1:=Xu (n:=n+8*M+12) w y;have c2:=Xu (n:=n+8*M+12) w x;have c3:=f32 (n:=n+8*M+10) w R.R (.inl rfl) y x hs ht h1;cases hv:(S.df||S.fY||T.df||T.fY)with
   |false=>
    rw[hv]at c3;have ha:aE s t=false:=by
     simp only[Bool.or_eq_false_iff]at hv;cases St with
     |same e2 _=>exact absurd e2 e
     |un _ _ _ _=>exact noB hv.1.1.2.symm
     |to _ _ _ _ _ _=>exact noB hv.2.symm
     |df _ _ _ o _ _=>
      rcases o with o|o
      ·rw[hv.1.1.1]at o;cases o
      ·rw[hv.1.2]at o;cases o
     |val _ _ _ a=>exact a
    rw[ha];refine⟨pm,tt,[],kn,?_,by rw[ei];exact R,λ_=>rfl,(λ_ h=>(nomatch h)),eJ _,(),.refl⟩
    dsimp! [e',c1,c2,c3]
   |true=>
    rw[hv]at c3;have hnv:S.df=true\/S.fY=true\/T.df=true\/T.fY=true:=by
     simp only[mK]at hv;rcases hv with((z|z)|z)|z
     ·exact .inl z
     ·exact .inr (.inl z)
     ·exact .inr (.inr (.inl z))
     ·exact .inr (.inr (.inr z))
    have H18:∀j,kA aa ay b h ru bR tw aW dq aE mu M 18 (rn (n+8*M+8+j+1) 18):=λj=>K9 (by rw[show n+8*M+8+j=(n+j)+8*M+8 by omega];exact ih (n+j));obtain⟨aA,t',eY,hO,r,X⟩:=(f28 (n:=n+8*M+13) (G:=5*GG M) (W:=Wd aa ay h) (λpm aA bl w=>w.below hb hh bl) (.inl rfl) l1
     (λpm t' dp tl kn w R ne b1 eZ b3=>f38 (n:=n+8*M+8) l1 H18 hb hh () y x e hs ht St hnv w R ne b1 eZ b3) w R (gg▸b1) (gg▸eZ) b3).ex
    refine⟨aA,t',eY,hO,?_,by rw[gg];exact X⟩
    dsimp! [e',c1,c2,c3,r]
end
inductive tq (dq:Int->Int->Prop) (aE:Int->Int->Bool) (mu:Int->Nat) (s t:Int):Ty->Ty->Prop
 |same {S T:Ty} (e:s=t) (a:aE s t=true):tq dq aE mu s t S T
 |un {ae h_:List Int} (ne:s≠t) (l:ae.length<=4) (l':h_.length<=4) (d:∀x∈ae,∀y∈h_,dq x y/\dq y x/\mu x<mu s/\mu y<mu t) (a:aE s t=((ae.all λx=>h_.any λy=>aE x y)&&(h_.all λy=>ae.any λx=>aE y x))):tq dq aE mu s t (.un ae) (.un h_)
 |one {S T:Ty} (ne:s≠t) (o:S.fY=!T.fY) (a:aE s t=false):tq dq aE mu s t S T
 |val {S T:Ty} (ne:s≠t) (o:S.val=true\/T.val=true) (a:aE s t=false):tq dq aE mu s t S T
structure uH (aa:List D) (dq:Int->Int->Prop) (aE:Int->Int->Bool) (mu:Int->Nat) (s t:Int):Prop where
 ex:∃S T,aD aa s S/\aD aa t T/\pq s/\pq t/\tq dq aE mu s t S T
def wg(aa ay:List D)(b h ru:Nat)(bR:Bool)(tw:PV)(aW:List D)(dq:Int->Int->Prop)(aE:Int->Int->Bool)(mu:Int->Nat)(M:Nat)(f:Nat)(sp:Spec):Prop:=
 ∀s t,dq s t->mu s+mu t<M->∀pm tt dp tl kn,Wd aa ay h pm->de b h ru 3 bR tw aW aE mu (mu s+mu t+1) pm tt dp tl kn->tl.length+MT M<=80000->kn.length+MT M<=80000->dp+mu s+mu t<=50->
  cZ b h ru 3 bR tw aW aE mu (mu s+mu t+1) (MT M) pm dp tl kn (sp [.ax b,.d (.int s),.d (.int t)] pm []) (aE s t)
where
 MT:Nat->Nat
  |0=>0
  |M+1=>96*MT M+2
section
variable{aa ay:List D}{b h ru:Nat}{bR:Bool}{tw:PV}{aW:List D}{dq:Int->Int->Prop}{aE:Int->Int->Bool}{mu:Int->Nat}{M:Nat}{n:Nat}
abbrev G3:=wg.MT
theorem zO(H:wg aa ay b h ru bR tw aW dq aE mu M 27 (rn n 27)):wg aa ay b h ru bR tw aW dq aE mu M 18 (rn (n+1) 18):=by
 intro s t hq hr pm tt dp tl kn w R b1 eZ b3;obtain⟨aA,t',eY,hO,e,x⟩:=(H s t hq hr pm tt dp tl kn w R b1 eZ b3).ex;refine⟨aA,t',eY,hO,?_,x⟩
 dsimp! [e]
def b44:Ss:=#[.ite (.nt (.call 41 #['a','d','c'])) #[.ret (.lit (.bool false))] .nil]
theorem MU{r G:Nat}{h_:List Int}{dp:Int}{P1:D}(A:∀x,dq x 0->∀pm tt tl kn,Wd aa ay h pm->de b h ru 3 bR tw aW aE mu r pm tt dp tl kn->tl≠[]->tl.length+G<=80000->kn.length+G<=80000->
   cZ b h ru 3 bR tw aW aE mu r G pm dp tl kn (rn n 41 [.ax b,.d (.int x),.d (.tup (h_.map .int))] pm []) (h_.any λy=>aE x y)) (x:Int) (hx:dq x 0) (ls:Ls) (pm:List MO) (tt:Nat) (tl:List gi) (kn:List (D×D)):
  Tp b P1 (.tup (h_.map .int)) ls->Wd aa ay h pm->de b h ru 3 bR tw aW aE mu r pm tt dp tl kn->tl≠[]->tl.length+G<=80000->kn.length+G<=80000->Chain b h ru 3 bR tw aW aE mu r G (Tp b P1 (.tup (h_.map .int))) pm dp tl kn (execs (aH n) b44 (ls.set 3 (some (.d (.int x)))) ⟨pm,[]⟩) (if h_.any (λy=>aE x y)then .next else .ret (.d (.bool false))):=by
 rintro⟨y⟩ w R ne b1 eZ;obtain⟨aA,t',eY,hO,e,R',a1,a2,a3,a4,bl⟩:=(A x hx pm tt tl kn w R ne b1 eZ).ex;generalize (h_.any λy=>aE x y)=v at e⊢;refine .mk aA t' eY hO [some (.ax b),some (.d P1),some (.d (.tup (h_.map .int))),some (.d (.int x))] ?_ (.mk _) R' a2 a3 a4 bl;cases v<;>dsimp! [e]
theorem f44(hb:9<=b)(hh:h<b){r G:Nat}{ae h_:List Int}{dp:Int}(A:∀x,dq x 0->∀pm tt tl kn,Wd aa ay h pm->de b h ru 3 bR tw aW aE mu r pm tt dp tl kn->tl≠[]->tl.length+G<=80000->kn.length+G<=80000->
   cZ b h ru 3 bR tw aW aE mu r G pm dp tl kn (rn n 41 [.ax b,.d (.int x),.d (.tup (h_.map .int))] pm []) (h_.any λy=>aE x y))
  {pm:List MO} {tt:Nat} {tl:List gi} {kn:List (D×D)} (hl:ae.length<=4) (hd:∀x∈ae,dq x 0) (w:Wd aa ay h pm) (R:de b h ru 3 bR tw aW aE mu r pm tt dp tl kn) (ne:tl≠[]) (b1:tl.length+5*G<=80000) (eZ:kn.length+5*G<=80000):
  cZ b h ru 3 bR tw aW aE mu r (4*G) pm dp tl kn (rn (n+1) 44 [.ax b,.d (.tup (ae.map .int)),.d (.tup (h_.map .int))] pm []) (ae.all λx=>h_.any λy=>aE x y):=by
 have hm:(ae.length+1)*G<=5*G:=Nat.mul_le_mul_right _ ();have ym:ae.length*G<=4*G:=Nat.mul_le_mul_right _ hl;obtain⟨aA,t',eY,hO,bk,e,i',R',c2,c3,c4,bl⟩:=E4 hb hh (MU (P1:= .tup (ae.map .int)) A) ae _ pm tt tl kn hd (.mk none) w R ne (ob2 ‹_› hm) (ob2 ‹_› hm);refine .in ?_ R' (λz=>absurd z ne) c2 (ob4 hm ‹_›) (ob3 hm ‹_›) bl;obtain⟨z⟩:=i';cases ha:ae.all λx=>h_.any λy=>aE x y<;>rw[ha]at e<;>dsimp! [e]
theorem f43(l1:aW.length<=900000)(H:wg aa ay b h ru bR tw aW dq aE mu M 18 (rn (n+1) 18))(hb:9<=b)(hh:h<b){s t:Int}{S T:Ty}{pm:List MO}{tt:Nat}{dp:Int}{tl:List gi}{kn:List (D×D)}(hr:mu s+mu t<=M)
  (y:aD aa s S) (x:aD aa t T) (ne0:s≠t) (St:tq dq aE mu s t S T) (nv:S.val=false/\T.val=false) (w:Wd aa ay h pm) (R:de b h ru 3 bR tw aW aE mu (mu s+mu t) pm tt dp tl kn) (ne:tl≠[]) (b1:tl.length+48*G3 M<=80000) (eZ:kn.length+48*G3 M<=80000) (b3:dp+mu s+mu t<=51):
  cZ b h ru 3 bR tw aW aE mu (mu s+mu t) (48*G3 M) pm dp tl kn (rn (n+4) 43 [.ax b,.d (.int s),.d (.int t)] pm []) (aE s t):=by
 have kS:=zN S;have kT:=zN T;have I:=R.R.iI;cases St with
 |same e _=>exact absurd e ne0
 |val _ o _=>rcases o with o|o<;>(first|(rw[nv.1]at o;cases o;done)|(rw[nv.2]at o;cases o;done))
 |one _ o a=>
  rw[a];refine⟨pm,tt,[],kn,?_,by rw[ei];exact R,λ_=>rfl,(λ_ h=>(nomatch h)),eJ _,(),.refl⟩;have c6:∀T:Ty,([D.int 6,D.int 7].any λy=>ba y (.int T.kind))=T.fY:=λT=>by cases T<;>rfl
  have kk:(S.kind==T.kind)=false:=by cases S<;>cases T<;>first|rfl|(cases o;done)
  cases hu:S.fY with
  |true=>dsimp! [mX _,kk,(c6 S).trans hu]
  |false=>
   rw[hu]at o;have hT:T.fY=true:=by cases q:T.fY<;>simp[q]at o⊢
   dsimp! [mX _,kk,(c6 S).trans hu,(c6 T).trans hT]
 |@un ae h_ _ l l' d a=>
  rw[a];have E:∀(ae h_:List Int),ae.length<=4->h_.length<=4->(∀x∈ae,∀y∈h_,dq x y/\mu x+mu y+2<=mu s+mu t)->∀pm tt tl kn,Wd aa ay h pm->de b h ru 3 bR tw aW aE mu (mu s+mu t) pm tt dp tl kn->tl≠[]->tl.length+25*G3 M<=80000->kn.length+25*G3 M<=80000->
    cZ b h ru 3 bR tw aW aE mu (mu s+mu t) (20*G3 M) pm dp tl kn (rn (n+3) 44 [.ax b,.d (.tup (ae.map .int)),.d (.tup (h_.map .int))] pm []) (ae.all λx=>h_.any λy=>aE x y):=by
   intro ae h_ l l' d pm tt tl kn w R ne b1 eZ;have z:4*(5*G3 M)=20*G3 M:=();rw[<-z];refine f44 (dq:=λx _=>x∈ae) hb hh (λx hx pm tt tl kn w R ne b1 eZ=>?_) l (λx hx=>hx) w R ne () ();refine(Xw (dq:=λ_ y=>y∈h_) (n:=n) (G:=G3 M) l1 hb hh (λy hy pm tt tl kn w R b1 eZ=>?_) l' (λy hy=>hy) w R ne () ()).up R ();obtain⟨q1,q2⟩:=d x hx y hy;exact(H x y q1 () pm tt dp tl kn w (R.mono ()) (by unfold G3 at b1;omega) (by unfold G3 at eZ;omega) ()).up R (dJ _)
  obtain⟨aA,t',eY,hO,e,R',a1,a2,a3,a4,bl⟩:=(E ae h_ l l' (λx hx y hy=>⟨(d x hx y hy).1,by have:=(d x hx y hy).2;omega⟩) pm tt tl kn w R ne () ()).ex;cases hv:ae.all λx=>h_.any λy=>aE x y with
  |false=>
   rw[hv]at e;refine⟨aA,t',eY,hO,?_,R',λz=>absurd z ne,a2,(),(),bl⟩
   dsimp! [e]
  |true=>
   rw[hv]at e;obtain⟨dt,t2,tl3,Rq,e2,R2,c1,c2,c3,c4,MM⟩:=(E h_ ae l' l (λy hy x hx=>⟨(d x hx y hy).2.1,by have:=(d x hx y hy).2;omega⟩) aA t' (tl++eY) hO (w.below hb hh bl) R' (by simp[ne]) (by rw[eh];omega) ()).ex;refine⟨dt,t2,eY++tl3,Rq,?_,by rw[<-eI];exact R2,λz=>absurd z ne,λq hq=>(pL.mp hq).elim (a2 q) (c2 q),by rw[eh];omega,(),bl.trans MM⟩
   dsimp! [e,e2]
theorem H_(l1:aW.length<=900000)(hb:9<=b)(hh:h<b)(HQ:∀s t,dq s t->uH aa dq aE mu s t)(M:Nat):∀(n:Nat),wg aa ay b h ru bR tw aW dq aE mu M 27 (rn (n+8*M+8) 27):=by
 induction M with
 |zero=>intro n s t _ hr;exact absurd hr (Nat.not_lt_zero _)
 |succ M ih=>
  intro n s t hq hr pm tt dp tl kn w R b1 eZ b3;obtain⟨S,T,y,x,hs,ht,St⟩:=(HQ s t hq).ex;have lev:n+8*(M+1)+8=(n+8*M+15)+1:=();have gg:wg.MT (M+1)=2*(48*G3 M)+2:=by show 96*wg.MT M+2=_;unfold G3;omega
  rw[lev];by_cases e:s=t
  ·have ha:aE s t=true:=by
    cases St with
    |same _ a=>exact a
    |un ne _ _ _ _=>exact absurd e ne
    |one ne _ _=>exact absurd e ne
    |val ne _ _=>exact absurd e ne
   rw[ha];subst e;refine⟨pm,tt,[],kn,?_,by rw[ei];exact R,λ_=>rfl,(λ_ h=>(nomatch h)),eJ _,(),.refl⟩
   dsimp! [beq_self_eq_true _]
  ·have e':(s==t)=false:=by simpa using e
   have I:=R.R.iI;have MV:s≠13:=by unfold pq at hs;omega
   have t13:t≠13:=by unfold pq at ht;omega
   have Bb:(s==13)=false:=by simpa using MV
   have E5:(t==13)=false:=by simpa using t13
   have c1:=Xu (n:=n+8*M+12) w y;have c2:=Xu (n:=n+8*M+12) w x;have vS:=uG S;have vT:=uG T;unfold vaK at vS vT;cases hv:(S.val||T.val)with
   |true=>
    have ha:aE s t=false:=by
     cases St with
     |same e2 _=>exact absurd e2 e
     |un _ _ _ _ _=>exact noB hv
     |one _ _ a=>exact a
     |val _ _ a=>exact a
    rw[ha];refine⟨pm,tt,[],kn,?_,by rw[ei];exact R,λ_=>rfl,(λ_ h=>(nomatch h)),eJ _,(),.refl⟩;cases q:S.val<;>cases q':T.val<;>rw[q]at vS hv<;>rw[q']at vT hv<;>first|(cases hv;done)|dsimp! [mX _,e',Bb,E5,c1,c2,vS,vT]
   |false=>
    rw[Bool.or_eq_false_iff]at hv;rw[hv.1]at vS;rw[hv.2]at vT;have H18:wg aa ay b h ru bR tw aW dq aE mu M 18 (rn (n+8*M+10+1) 18):=zO (by rw[show n+8*M+10=(n+2)+8*M+8 by omega];exact ih (n+2));obtain⟨aA,t',eY,hO,r,X⟩:=(f28 (n:=n+8*M+13) (G:=48*G3 M) (W:=Wd aa ay h) (λpm aA bl w=>w.below hb hh bl) (.inr rfl) l1
     (λpm t' dp tl kn w R ne b1 eZ b3=>f43 (n:=n+8*M+10) l1 H18 hb hh () y x e St hv w R ne b1 eZ b3) w R () () b3).ex
    refine⟨aA,t',eY,hO,?_,by rw[gg];exact X⟩
    dsimp! [mX _,e',Bb,E5,c1,c2,vS,vT,r]
end
mutual
def jL:D->Bool
 | .int _=>true
 | .str _=>true
 | .tup l=>mY l
 |_=>false
def mY:List D->Bool
 |[]=>true
 |a::r=>jL a&&mY r
end
mutual
theorem lh:∀a b:D,jL a=true->jL b=true->(ba a b=true<->a=b)
 | .int i,b,_,hb=>by cases b<;>first|exact noB hb|exact⟨λe=>noB e,λe=>nomatch e⟩|exact fg.trans ⟨congrArg D.int,D.int.inj⟩
 | .str i,b,_,hb=>by cases b<;>first|exact noB hb|exact⟨λe=>noB e,λe=>nomatch e⟩|exact fg.trans ⟨congrArg D.str,D.str.inj⟩
 | .tup l,b,ha,hb=>by cases b<;>first|exact noB hb|exact⟨λe=>noB e,λe=>nomatch e⟩|exact(qU l _ ha hb).trans ⟨congrArg D.tup,D.tup.inj⟩
 | .none,_,ha,_=>by cases ha
 | .bool _,_,ha,_=>by cases ha
 | .lst _,_,ha,_=>by cases ha
 | .gP _,_,ha,_=>by cases ha
 | .cin _,_,ha,_=>by cases ha
 | .nX _,_,ha,_=>by cases ha
theorem qU:∀a b:List D,mY a=true->mY b=true->(j7 a b=true<->a=b)
 |[],[],_,_=>⟨λ_=>rfl,λ_=>rfl⟩
 |[],_::_,_,_=>⟨λe=>noB e,λe=>nomatch e⟩
 |_::_,[],_,_=>⟨λe=>noB e,λe=>nomatch e⟩
 |x::r,y::t,ha,hb=>by have ha:=ku.mp ha;have hb:=ku.mp hb;show(ba x y&&j7 r t)=true<->_;rw[bx,lh x y ha.1 hb.1,qU r t ha.2 hb.2];simp
end
structure dC (r:D):Prop where
 pl:jL r=true
 ko:keyOk r=true
 kd:cy r=3
def jd:List D->Nat->List (D×D)
 |[],_=>[]
 |r::l,k=>(r,.int k)::jd l (k+1)
theorem wh:∀(l:List D) (k:Nat) (r:D),jd (l++[r]) k=jd l k++[(r,.int (k+l.length:Nat))]
 |[],k,r=>rfl
 |x::l,k,r=>by show(x,D.int k)::jd (l++[r]) (k+1)=_;rw[wh l (k+1) r];show _=(x,D.int k)::(jd l (k+1)++_);rw[show k+1+l.length=k+(x::l).length by simp only[eH];omega]
def mf(r:D):List D->Nat->Option Nat
 |[],_=>none
 |x::l,k=>if ba r x then some k else mf r l (k+1)
theorem zP{r:D}:∀(l:List D) (k:Nat),fM r (jd l k)=(mf r l k).isSome
 |[],_=>rfl
 |x::l,k=>by show(ba r x||fM r (jd l (k+1)))=(if ba r x then some k else mf r l (k+1)).isSome;rw[zP l (k+1)];cases ba r x<;>simp
theorem zQ{r:D}:∀(l:List D) (k:Nat),kx r (jd l k)=(mf r l k).map λ(i:Nat)=>D.int i
 |[],_=>rfl
 |x::l,k=>by show(if ba r x then some (D.int k)else kx r (jd l (k+1)))=(if ba r x then some k else mf r l (k+1)).map _;rw[zQ l (k+1)];cases ba r x<;>simp
theorem zR{r v:D}:∀(l:List D) (k:Nat),mf r l k=none->dput r v (jd l k)=jd l k++[(r,v)]
 |[],_,_=>rfl
 |x::l,k,h=>by
  have h:(if ba r x then some k else mf r l (k+1))=none:=h;cases q:ba r x with
  |true=>rw[q]at h;cases h
  |false=>
   rw[q]at h;show(if ba r x then _ else _)=_;rw[q];show(x,D.int k)::dput r v (jd l (k+1))=(x,D.int k)::(jd l (k+1)++_);rw[zR l (k+1) h]
theorem n_{r:D}(hr:jL r=true):∀(l:List D) (k i:Nat),(∀x∈l,jL x=true)->mf r l k=some i->k<=i/\l[i-k]?=some r
 |[],_,_,_,h=>by cases h
 |x::l,k,i,hl,h=>by
  have h:(if ba r x then some k else mf r l (k+1))=some i:=h;cases q:ba r x with
  |true=>
   rw[q]at h;have e:k=i:=by simpa using h
   subst e;have:=(lh r x hr (hl x (.head _))).mp q;subst this;exact⟨dJ _,by simp⟩
  |false=>
   rw[q]at h;obtain⟨a,b⟩:=n_ hr l (k+1) i (λy hy=>hl y (.tail _ hy)) h;refine⟨by omega,?_⟩;rw[show i-k=(i-(k+1))+1 by omega];simpa using b
theorem oe{r:D}(hr:jL r=true):∀(l:List D) (k:Nat),(∀x∈l,jL x=true)->mf r l k=none->r∉l
 |[],_,_,_=>yc
 |x::l,k,hl,h=>by
  have h:(if ba r x then some k else mf r l (k+1))=none:=h;cases q:ba r x with
  |true=>rw[q]at h;cases h
  |false=>
   rw[q]at h;intro hm;rcases dH.mp hm with e|hm
   ·subst e;rw[(lh r r hr hr).mpr rfl]at q;cases q
   ·exact oe hr l (k+1) (λy hy=>hl y (.tail _ hy)) h hm
def bM(aa:List D)(r:D):List D×Int:=match mf r aa 0 with
 |some i=>(aa,i)
 |none=>(aa++[r],aa.length)
structure cz (aa:List D):Prop where
 ok:∀r∈aa,dC r
 nd:aa.Nodup
structure qV (aa e_:List D) (r:D) (i:Int):Prop where
 rs:cz e_
 pre:aa<+:e_
 nn:0<=i
 at_:e_[i.toNat]?=some r
 len:e_.length<=aa.length+1
theorem cM{aa:List D}{r:D}(R:cz aa)(h:dC r):qV aa (bM aa r).1 r (bM aa r).2:=by
 unfold bM;cases q:mf r aa 0 with
 |some i=>
  obtain⟨_,b⟩:=n_ h.pl aa 0 i (λx hx=>(R.ok x hx).pl) q;exact⟨R,lH _,by show(0:Int)<=(i:Int);omega,by simpa using b,Nat.le_succ _⟩
 |none=>
  have nm:=oe h.pl aa 0 (λx hx=>(R.ok x hx).pl) q;refine⟨⟨?_,?_⟩,List.prefix_append _ _,by show(0:Int)<=(aa.length:Int);omega,by simp,by simp⟩
  ·intro x hx;rcases pL.mp hx with hx|hx
   ·exact R.ok x hx
   ·rw[jG.mp hx];exact h
  ·rw[List.nodup_append];refine⟨R.nd,by simp,?_⟩;intro a ha b hb e;rw[jG]at hb;subst hb;subst e;exact nm ha
structure ah (pm:List MO) (aa ay:List D):Prop where
 i0:pm[0]?=some (.inst 0 mV)
 i1:pm[1]?=some (.list aa)
 i2:pm[2]?=some (.dict (jd aa 0))
 i4:pm[4]?=some (.list ay)
 i5:∃l,pm[5]?=some (.list l)/\l.length<=ay.length
 i6:∃l,pm[6]?=some (.list l)/\l.length<=ay.length
 rs:cz aa
def gj(pm aA:List MO):Prop:=aA.length=pm.length/\∀j,j≠1->j≠2->aA[j]?=pm[j]?
theorem gj.refl{pm:List MO}:gj pm pm:=⟨rfl,λ_ _ _=>rfl⟩
theorem gj.trans{a b c:List MO}(x:gj a b)(y:gj b c):gj a c:=⟨y.1.trans x.1,λj h1 h2=>(y.2 j h1 h2).trans (x.2 j h1 h2)⟩
theorem wi:∀(l:List D) (k:Nat),(jd l k).length=l.length
 |[],_=>rfl
 |x::l,k=>by show(jd l (k+1)).length+1=l.length+1;rw[wi l]
theorem MW{r:D}(h:dC r){aa:List D}(R:cz aa):jj r (jd aa 0)=true:=by
 unfold jj;rw[h.ko,Bool.true_and];cases aa with
 |nil=>rfl
 |cons x l=>
  show Nat.beq (cy x) (cy r)=true;rw[h.kd,(R.ok x (.head _)).kd];rfl
section
variable{pm:List MO}{aa ay:List D}
theorem f4(n:Nat){r:D}(T:ah pm aa ay)(h:dC r)(hl:aa.length<=900000):
  ∃aA,rn (n+1) 4 [.ax 0,.d r] pm []=some (.d (.int (bM aa r).2),aA,[])/\ah aA (bM aa r).1 ay/\gj pm aA:=by
 have k1:=MW h T.rs;have k2:=zP (r:=r) aa 0;have P:=cM T.rs h;have Xy:aa.length<=1000000:=();have Te:(jd aa 0).length<=1000000:=by rw[wi];exact Xy
 unfold bM at P⊢;cases q:mf r aa 0 with
 |some i=>
  rw[q]at k2 P;have k3:=zQ (r:=r) aa 0;rw[q]at k3;refine⟨pm,?_,T,.refl⟩
  dsimp! [T.i2,↑k1,k2,k3]
 |none=>
  rw[q]at k2 P;have k4:=zR (v:=D.int aa.length) aa 0 q;have k5:=wh aa 0 r;rw[Nat.zero_add]at k5;rw[<-k5]at k4;have n1:1<pm.length:=(fX.mp T.i1).1;have n2:2<pm.length:=(fX.mp T.i2).1;have gt:∀j,j≠1->j≠2->((pm.set 1 (.list (aa++[r]))).set 2 (.dict (jd (aa++[r]) 0)))[j]?=pm[j]?:=λj h1 h2=>by rw[bp (),bp ()]
  refine⟨(pm.set 1 (.list (aa++[r]))).set 2 (.dict (jd (aa++[r]) 0)),?_,⟨?_,?_,?_,?_,?_,?_,P.rs⟩,⟨by simp,gt⟩⟩
  ·have a0:(pm.set 1 (.list (aa++[r])))[0]?=some (.inst 0 mV):=by rw[bp ∅];exact T.i0
   have a2:(pm.set 1 (.list (aa++[r])))[2]?=some (.dict (jd aa 0)):=by rw[bp ∅];exact T.i2
   clear n1 n2;have f:=cT Xy
   dsimp! [T.i2,↑k1,k2,↑f,A9 T.i1 f rfl,a0,EU a2 k1 (cT Te) k4]
  ·rw[gt 0 ∅ ∅];exact T.i0
  ·rw[bp ∅,dz];simp[n1]
  ·rw[dz];simp[n2]
  ·rw[gt 4 ∅ ∅];exact T.i4
  ·rw[gt 5 ∅ ∅];exact T.i5
  ·rw[gt 6 ∅ ∅];exact T.i6
theorem uI(p:Int):dC (.tup [.int 10,.int p]):=⟨rfl,rfl,rfl⟩
theorem fm(a p:Int):dC (.tup [.int 15,.int a,.int p]):=⟨rfl,rfl,rfl⟩
theorem E6(a:Int):dC (.tup [.int 14,.int a]):=⟨rfl,rfl,rfl⟩
structure qW (pm aA:List MO):Prop where
 len:aA.length=pm.length
 at_:∀j,9<=j->aA[j]?=pm[j]?
theorem gj.new{pm aA:List MO}(k:gj pm aA):qW pm aA:=⟨k.1,λj h=>k.2 j () ()⟩
theorem qW.trans{a b c:List MO}(x:qW a b)(y:qW b c):qW a c:=⟨y.len.trans x.len,λj h=>(y.at_ j h).trans (x.at_ j h)⟩
theorem f5(n:Nat){s:D}{bd:Int}(T:ah pm aa ay)(hl:aa.length<=900000)(hb:ay.length<=900000):
  ∃aA,rn (n+2) 5 [.ax 0,.d s,.d (.int bd),.d (.int (-1))] pm []=some (.d (.int (bM aa (.tup [.int 10,.int ay.length])).2),aA,[])/\ah aA (bM aa (.tup [.int 10,.int ay.length])).1 (ay++[.int bd])/\qW pm aA:=by
 obtain⟨l5,e5,h5⟩:=T.i5;obtain⟨l6,e6,h6⟩:=T.i6;have n4:4<pm.length:=(fX.mp T.i4).1;have n5:5<pm.length:=(fX.mp e5).1;have n6:6<pm.length:=(fX.mp e6).1;have b1:ay.length<=1000000:=();have b5:l5.length<=1000000:=();have b6:l6.length<=1000000:=();have T2:ah (((pm.set 4 (.list (ay++[.int bd]))).set 5 (.list (l5++[.int (-1)]))).set 6 (.list (l6++[s]))) aa (ay++[.int bd]):=by
  refine⟨?_,?_,?_,?_,⟨l5++[.int (-1)],?_,by simp;omega⟩,⟨l6++[s],?_,by simp;omega⟩,T.rs⟩
  ·rw[bp ∅,bp ∅,bp ∅];exact T.i0
  ·rw[bp ∅,bp ∅,bp ∅];exact T.i1
  ·rw[bp ∅,bp ∅,bp ∅];exact T.i2
  ·rw[bp ∅,bp ∅,dz];simp[n4]
  ·rw[bp ∅,dz];simp[n5]
  ·rw[dz];simp[n6]
 obtain⟨aA,e,T',K⟩:=f4 n T2 (uI ay.length) hl;refine⟨aA,?_,T',⟨by rw[K.1];simp,λj hj=>by rw[K.2 j () (),bp (),bp (),bp ()]⟩⟩;have c0:(pm.set 4 (.list (ay++[.int bd])))[0]?=some (.inst 0 mV):=by rw[bp ∅];exact T.i0
 have c5:(pm.set 4 (.list (ay++[.int bd])))[5]?=some (.list l5):=by rw[bp ∅];exact e5
 have d0:((pm.set 4 (.list (ay++[.int bd]))).set 5 (.list (l5++[.int (-1)])))[0]?=some (.inst 0 mV):=by rw[bp ∅];exact c0
 have d6:((pm.set 4 (.list (ay++[.int bd]))).set 5 (.list (l5++[.int (-1)])))[6]?=some (.list l6):=by rw[bp ∅,bp ∅];exact e6
 have iq:=T2.i0;clear n4 n5 n6;have f:=cT b1
 dsimp! [T.i4,A9 T.i4 f rfl,↑f,e5,c0,c5,A9 c5 (cT b5) rfl,d0,d6,A9 d6 (cT b6) rfl,iq,e]
theorem f45(n:Nat){p:Int}(T:ah pm aa ay)(hl:aa.length<=900000):
  ∃aA,rn (n+2) 45 [.ax 0,.d (.int p)] pm []=some (.d (.int (bM aa (.tup [.int 10,.int p])).2),aA,[])/\ah aA (bM aa (.tup [.int 10,.int p])).1 ay/\gj pm aA:=by
 obtain⟨aA,e,T',K⟩:=f4 n T (uI p) hl;refine⟨aA,?_,T',K⟩
 dsimp! [e]
end
structure g5 (aa:List D) (x:Int):Prop where
 ex:∃S,aD aa x S/\S.fY=false
 ok:x=5\/16<=x
def bQ(l:List Int):List (D×D):=l.map λx=>(.int x,.int 1)
theorem wj(k:Int):∀l:List Int,fM (.int k) (bQ l)=l.contains k
 |[]=>rfl
 |x::l=>by show((k==x)||fM (.int k) (bQ l))=_;rw[wj k l,List.contains_cons]
theorem wk{k:Int}:∀{l:List Int},k∉l->dput (.int k) (.int 1) (bQ l)=bQ (l++[k])
 |[],_=>rfl
 |x::l,h=>by
  show(if (k==x)=true then _ else _)=_;have:(k==x)=false:=by
   cases q:k==x with
   |false=>rfl
   |true=>exact absurd (by rw[cj q];exact .head _) h
  rw[this,if_neg ∅];show(D.int x,D.int 1)::dput (.int k) (.int 1) (bQ l)=_;rw[wk λz=>h (.tail _ z)];rfl
theorem qm(k:Int)(l:List Int):jj (.int k) (bQ l)=true:=by cases l<;>rfl
theorem set_same{α:Type}{l:List α}{i:Nat}{x:α}(h:l[i]?=some x):l.set i x=l:=by
 apply List.ext_getElem?;intro j;rw[dz];by_cases e:i=j
 ·subst e;rw[if_pos rfl,if_pos (fX.mp h).1];exact h.symm
 ·rw[if_neg e]
theorem ir:∀l:List Int,intsOf (l.map .int)=some l
 |[]=>rfl
 |x::l=>by show ai (ioC x) (intsOf (l.map .int))=_;rw[ir l];rfl
theorem E7(l:List Int):(bQ l).map (·.1)=l.map D.int:=by simp[bQ]
theorem uJ{ae:List Int}(h:∀x∈ae,x=5\/16<=x)(k:Int)(h1:k≠5)(h2:k<16):fM (.int k) (bQ ae)=false:=by
 rw[wj];cases q:ae.contains k with
 |false=>rfl
 |true=>rcases h k (by simpa using q)with e|e<;>omega
section
variable{pm:List MO}{aa ay:List D}
theorem f9(n:Nat){ae:List Int}(h:∀x∈ae,x=5\/16<=x):rn (n+1) 9 [.aI 0] pm [.dict (bQ ae)]=some (.d .none,pm,[.dict (bQ ae)]):=by
 have c:=uJ h
 dsimp! [↑qm _ _,c 8 ∅ ∅,c 14 ∅ ∅]
theorem lK(n:Nat){ae:List Int}(h:∀x∈ae,x=5\/16<=x):rn (n+1) 11 [.aI 0] pm [.dict (bQ ae)]=some (.d (.int (-1)),pm,[.dict (bQ ae)]):=by
 have c:=uJ h;have e:∀k,fM (.int k) (bQ ae)=false->execs (aH n) #[.ite (.cmp .isin 'b' 'a') #[.bad] .nil] [some (.aI 0),some (.d (.int k))] ⟨pm,[.dict (bQ ae)]⟩=some (.next,[some (.aI 0),some (.d (.int k))],⟨pm,[.dict (bQ ae)]⟩):=λk c=>by dsimp! [↑qm _ _,c]
 dsimp! [fJ rfl (e 0 (c 0 ∅ ∅)) (fJ rfl (e 13 (c 13 ∅ ∅)) (fJ rfl (e 1 (c 1 ∅ ∅)) rfl))]
theorem f8(n:Nat){x:Int}{S:Ty}(T:ah pm aa ay)(y:aD aa x S):rn (n+1) 8 [.ax 0,.d (.int x)] pm []=some (.d (.int (-1)),pm,[]):=by cases S<;>dsimp! [rfl]
theorem f10(n:Nat){ae:List Int}{x:Int}(h:∀x∈ae,x=5\/16<=x)(T:ah pm aa ay)(A:g5 aa x):rn (n+2) 10 [.ax 0,.aI 0,.d (.int x)] pm [.dict (bQ ae)]=some (.d (.bool true),pm,[.dict (bQ ae)]):=by
 have c:=uJ h;obtain⟨S,y,nu⟩:=A.ex;have e8:=f8 n T y;have e7:=f7 (pm:=pm) (n:=n) S;have ck:fM (.int S.t7) (bQ ae)=false:=by
  have:S.t7=6\/S.t7=7\/S.t7=-1:=by cases S<;>first|exact .inl rfl|exact .inr (.inl rfl)|exact .inr (.inr rfl)
  rcases this with e|e|e<;>rw[e]<;>exact c _ ∅ ∅
 rw[<-mU ck]
 dsimp! [e8,e7,↑qm _ _,c (-1) ∅ ∅]
end
def unQ(aa:List D)(x:Int):List Int->List D×Int
 |[]=>(aa,x)
 |y::r=>bM aa (.tup [.int 6,.tup ((x::y::r).map .int)])
def unS(aa:List D):List Int->List D×Int
 |[]=>bM aa (.tup [.int 6,.tup []])
 |x::r=>unQ aa x r
def sS(aa:List D)(ae:List Int):List D×Int:=unS aa (sortI ae)
theorem qX:∀l:List Int,mY (l.map .int)=true
 |[]=>rfl
 |_::l=>qX l
theorem qY(n:Nat):∀l:List Int,um n (l.map .int)=true
 |[]=>rfl
 |x::l=>by show(ip n (.int x)&&um n (l.map .int))=true;exact qY n l
theorem zS(l:List Int):dC (.tup [.int 6,.tup (l.map .int)]):=
 ⟨(Bool.and_true _).trans (qX l),by show(um 4 (l.map .int)&&true)=true;rw[qY];rfl,rfl⟩
section
variable{pm:List MO}{aa ay:List D}{n:Nat}
theorem f6T{x:Int}{S:Ty}(T:ah pm aa ay)(y:aD aa x S)(h2:x≠2)(nu:S.fY=false):rn (n+1) 6 [.ax 0,.d (.int x)] pm []=some (.d (.tup [.int x]),pm,[]):=by
 have Ti:(x==2)=false:=by simpa using h2
 cases S<;>first|(cases nu;done)|dsimp! [Ti]
def b12:Ss:=#[.gr 4 (.call 6 #['a','d']) #[.hY 'c' 'e' 1.0]]
theorem MX{a:PV}{g:Nat}(T:ah pm aa ay)(ae:List Int):∀(done:List Int) (tm:List TO) (x3 x4:Option PV),(∀x∈ae,g5 aa x)->tm[g]?=some (.dict (bQ done))->(done++ae).Nodup->done.length+ae.length<=60->
  ∃y3 y4,dO (λl s=>execs (aH (n+1)) b12 l s) (j8 3) (ae.map .int) [some (.ax 0),some a,some (.aI g),x3,x4,none,none,none] ⟨pm,tm⟩=some (.next,[some (.ax 0),some a,some (.aI g),y3,y4,none,none,none],⟨pm,tm.set g (.dict (bQ (done++ae)))⟩):=by
 induction ae with
 |nil=>
  intro done tm x3 x4 _ hg _ _;exact⟨x3,x4,by rw[ei,set_same hg];rfl⟩
 |cons x ae ih=>
  intro done tm x3 x4 hA hg nd hl;obtain⟨S,y,nu⟩:=(hA x (.head _)).ex;have e6:=f6T (n:=n) T y (by rcases(hA x (.head _)).ok with e|e<;>omega) nu;have nx:x∉done:=λh=>by rw[List.nodup_append]at nd;exact nd.2.2 x h x (.head _) rfl
  have k1:=wk nx;have k2:=qm x done;have kl:(bQ done).length<=1000000:=by simp[bQ];omega
  have eb:execs (aH (n+1)) b12 [some (.ax 0),some a,some (.aI g),some (.d (.int x)),x4,none,none,none] ⟨pm,tm⟩=some (.next,[some (.ax 0),some a,some (.aI g),some (.d (.int x)),some (.d (.int x)),none,none,none],⟨pm,tm.set g (.dict (bQ (done++[x])))⟩):=by dsimp! [e6,fJ rfl (by dsimp! [EV (pm:=pm) hg k2 (cT kl) k1]) rfl]
  have gl:g<tm.length:=(fX.mp hg).1;obtain⟨y3,y4,e⟩:=ih (done++[x]) (tm.set g (.dict (bQ (done++[x])))) (some (.d (.int x))) (some (.d (.int x))) (λz hz=>hA z (.tail _ hz)) (by rw[dz];simp[gl]) (by rw[eI];exact nd) (by simp only[eH,eh,List.length_nil]at hl⊢;omega);refine⟨y3,y4,?_⟩;rw[j9];rw[List.set_set,eI]at e;exact fJ rfl eb e
theorem E8{a:PV}{g:Nat}{ae:List Int}{tm:List TO}{x3 x4:Option PV}{x5:PV}(hi:∀x∈ae,x=5\/16<=x)(T:ah pm aa ay)(hg:tm[g]?=some (.dict (bQ ae))):∀l:List Int,(∀x∈l,g5 aa x)->
  dm (λl s=>cx (aH (n+2)) #[.call 10 #['a','c','h']] l s) (λl s=>eval (aH (n+2)) 'h' l s) 7 (l.map .int) [some (.ax 0),some a,some (.aI g),x3,x4,some x5,none,none] ⟨pm,tm⟩=some (l.map .int,⟨pm,tm⟩)
 |[],_=>rfl
 |x::l,hA=>by
  have MY:=f10 n hi T (hA x (.head _));have ih:=E8 (x3:=x3) (x4:=x4) (x5:=x5) (a:=a) hi T hg l λz hz=>hA z (.tail _ hz);have ss:=set_same hg;have et:cx (aH (n+2)) #[.call 10 #['a','c','h']] [some (.ax 0),some a,some (.aI g),x3,x4,some x5,none,some (.d (.int x))] ⟨pm,tm⟩=some (true,⟨pm,tm⟩):=by exact gJ (by dsimp! [dn rfl hg rfl MY ss])
  exact nZ et (ak rfl) rfl ih
theorem oh(l:List Int):(sortI l).length=l.length:=(sortI_perm l).length_eq
theorem oi{z:Int}{l:List Int}:z∈sortI l<->z∈l:=(sortI_perm l).mem_iff
theorem MZ{aa:List D}{ae:List Int}(R:cz aa):(sS aa ae).1.length<=aa.length+1:=by
 unfold sS;cases sortI ae with
 |nil=>exact(cM R (zS [])).len
 |cons x r=>
  cases r with
  |nil=>exact Nat.le_succ _
  |cons y r=>exact(cM R (zS (x::y::r))).len
theorem f12(n:Nat){a:PV}{ts tl:List TO}{ae:List Int}{fw:Lock}(T:ah pm aa ay)(hA:∀x∈ae,g5 aa x)(nd:ae.Nodup)(h0:ae≠[])(hl:ae.length<=60)(hr:aa.length<=900000)
  (ho:∀x,dY ⟨pm,ts++[x]⟩ a=some (ae.map .int,⟨pm,tl++[x]⟩,fw)) (Xq:tl.length=ts.length) (hc:∀x,itClose ⟨pm,tl++[x]⟩ fw=⟨pm,ts++[x]⟩):
  ∃aA,rn (n+4) 12 [.ax 0,a] pm ts=some (.d (.int (sS aa ae).2),aA,ts)/\ah aA (sS aa ae).1 ay/\gj pm aA:=by
 have hi:∀x∈ae,x=5\/16<=x:=λx hx=>(hA x hx).ok;obtain⟨y3,y4,el⟩:=MX (n:=n+2) (a:=a) (g:=ts.length) T ae [] (tl++[.dict []]) none none hA (by rw[<-Xq];simp[bQ]) (by simpa using nd) (by simp;exact hl);have els:(tl++[TO.dict []]).set ts.length (.dict (bQ ([]++ae)))=tl++[.dict (bQ ae)]:=by rw[<-Xq,List.set_append_right _ _ (dJ _)];simp
 rw[els]at el;have hg:(ts++[TO.dict (bQ ae)])[ts.length]?=some (.dict (bQ ae)):=by simp
 have ss:=set_same hg;have zT:=lK (pm:=pm) (n+2) hi;have e9:=f9 (pm:=pm) (n+2) hi;have M3:=oh ae;have f1:(sortI ae).length<=1000000:=();have f2:(sortI ae).length<64:=();have f2':Nat.blt ae.length 64=true:=Nat.blt_eq.mpr ();have cm:=E8 (n:=n+1) (a:=a) (g:=ts.length) (ae:=ae) (tm:=ts++[.dict (bQ ae),.dead]) (x3:=y3) (x4:=y4) (x5:= .d (.int (-1))) hi T (by simp) (sortI ae) λx hx=>hA x (oi.mp hx);let L:=(sortI ae).map D.int;have fL:fits L=true:=cT (by rw[eT];exact f1);have b1:builtin .sorted (.aI ts.length) ⟨pm,ts++[.dict (bQ ae)]⟩=some (.aI (ts.length+1),⟨pm,ts++[.dict (bQ ae),.list ((sortI ae).map .int)]⟩):=by have:=K6 (pm:=pm) hg (by rw[E7,ir]) f2' fL;simpa using this
 have eZ:dY ⟨pm,ts++[.dict (bQ ae),.list ((sortI ae).map .int)]⟩ (.aI (ts.length+1))=some ((sortI ae).map .int,⟨pm,ts++[.dict (bQ ae),.dead]⟩,.aI (ts.length+1) (.list ((sortI ae).map .int))):=by
   have z:(ts++[TO.dict (bQ ae),.list ((sortI ae).map .int)])[ts.length+1]?=some (.list ((sortI ae).map .int)):=by rw[ya ()];simp
   refine(aq z).trans ?_;show some (_,PS.mk _ (List.set _ _ _),_)=_;rw[List.set_append_right _ _ ()];simp
 have b3:itClose ⟨pm,ts++[.dict (bQ ae),.dead]⟩ (.aI (ts.length+1) (.list ((sortI ae).map .int)))=⟨pm,ts++[.dict (bQ ae),.list ((sortI ae).map .int)]⟩:=by unfold itClose;dsimp only;rw[List.set_append_right _ _ ()];simp
 have z:((ts++[TO.dict (bQ ae),.list L])++[.list L])[(ts++[TO.dict (bQ ae),.list L]).length]?=some (.list L):=List.getElem?_concat_length ..;have cA:qM ts ((ts++[TO.dict (bQ ae),.list L])++[.list L])=ts:=by rw[mN,eI,List.take_left]
 cases hs:sortI ae with
 |nil=>
  rw[hs]at M3;cases ae with
  |nil=>exact absurd rfl h0
  |cons=>simp at M3
 |cons x r=>
  have eL:L=(x::r).map D.int:=congrArg (List.map D.int) hs;have eE:(!L.isEmpty)=true:=by rw[eL];rfl
  cases r with
  |nil=>
   have hu:sS aa ae=(aa,x):=by unfold sS;rw[hs];rfl
   rw[hu];refine⟨pm,Eq.trans (b:=some (.d (.int x),pm,qM ts ((ts++[TO.dict (bQ ae),.list L])++[.list L]))) ?_ (by rw[cA]),T,.refl⟩;have q1:((L.length:Int)==1)=true:=by rw[eL];rfl
   have q2:L[(0:Int).toNat]?=some (.int x):=by rw[eL];rfl
   dsimp! [ho _,el,<-hc _,dn rfl hg rfl zT ss,dn rfl hg rfl e9 ss,b1,eZ,cm,<-b3,↑fL,z,eE,ky eE,q1,q2]
  |cons w r=>
   have hu:sS aa ae=bM aa (.tup [.int 6,.tup L]):=by unfold sS;rw[eL,hs];rfl
   rw[hu];obtain⟨aA,e,T',K⟩:=f4 (n+2) T (zS (sortI ae)) hr;refine⟨aA,Eq.trans (b:=some (.d (.int (bM aa (.tup [.int 6,.tup L])).2),aA,qM ts ((ts++[TO.dict (bQ ae),.list L])++[.list L]))) ?_ (by rw[cA]),T',K⟩;have lL:L.length<=60:=by show(List.map D.int _).length<=60;rw[eT];omega
   have q1:((L.length:Int)==1)=false:=by rw[eL,beq_eq_false_iff_ne];simp;omega
   have q2:=dS (show¬((400:Int)<(L.length:Int))by omega)
   dsimp! [ho _,el,<-hc _,dn rfl hg rfl zT ss,dn rfl hg rfl e9 ss,b1,eZ,cm,<-b3,↑fL,z,eE,ky eE,q1,q2,S_ z fL,e]
end
theorem qZ{l:List D}(nd:l.Nodup){i j:Nat}{r:D}(hi:l[i]?=some r)(hj:l[j]?=some r):i=j:=by
 obtain⟨a,ea⟩:=fX.mp hi;obtain⟨b,eb⟩:=fX.mp hj;have P:=List.pairwise_iff_getElem.mp nd;rcases Nat.lt_trichotomy i j with h|h|h
 ·exact absurd (ea.trans eb.symm) (P i j a b h)
 ·exact h
 ·exact absurd (eb.trans ea.symm) (P j i b a h)
theorem q8{aa:List D}{i:Nat}{r:D}(R:cz aa)(h:aa[i]?=some r):bM aa r=(aa,(i:Int)):=by
 have hm:=qG h;have ok:=R.ok r hm;unfold bM;cases q:mf r aa 0 with
 |some j=>
  obtain⟨_,b⟩:=n_ ok.pl aa 0 j (λx hx=>(R.ok x hx).pl) q;rw[Nat.sub_zero]at b;rw[qZ R.nd h b]
 |none=>exact absurd hm (oe ok.pl aa 0 (λx hx=>(R.ok x hx).pl) q)
theorem uK{a b:List D}(h:a<+:b){i:Nat}{r:D}(e:a[i]?=some r):b[i]?=some r:=by obtain⟨t,rfl⟩:=h;rw[mI (fX.mp e).1];exact e
theorem aD.pre{a b:List D}(h:a<+:b){x:Int}{S:Ty}(y:aD a x S):aD b x S:=⟨y.nn,y.lt,uK h y.at_⟩
theorem mZ{aa:List D}{x:Int}{S:Ty}(R:cz aa)(y:aD aa x S):bM aa (.tup S.row)=(aa,x):=by rw[q8 R y.at_,yd y.nn]
theorem qV.ty{aa e_:List D}{S:Ty}{i:Int}(P:qV aa e_ (.tup S.row) i)(hl:aa.length<=800000):aD e_ i S:=by refine⟨P.nn,?_,P.at_⟩;exact ob6 (bw P.len (sJ hl)) (fX.mp P.at_).1 P.nn rfl
section
variable{pm:List MO}{aa ay:List D}{h:Nat}
theorem Xz(n:Nat){r:D}(T:ah pm aa ay)(ih:pm[h]?=some (.inst 3 bK))(ok:dC r)(hl:aa.length<=900000):
  ∃aA,rn (n+2) 64 [.ax h,.d r] pm []=some (.d (.int (bM aa r).2),aA,[])/\ah aA (bM aa r).1 ay/\gj pm aA:=by
 obtain⟨aA,e,T',K⟩:=f4 n T ok hl;refine⟨aA,?_,T',K⟩
 dsimp! [e]
theorem M4(n:Nat){o p:Int}(T:ah pm aa ay)(y:aD aa o (.par p))(hl:aa.length<=900000):
  ∃aA,rn (n+2) 45 [.ax 0,.d (.int p)] pm []=some (.d (.int o),aA,[])/\ah aA aa ay/\gj pm aA:=by
 have:=f45 n (p:=p) T hl
 rwa [show(D.tup [.int 10,.int p])= .tup (Ty.row (.par p))from rfl,mZ T.rs y]at this
theorem f48(n:Nat){b t ru:Nat}{m:Int}{bR:Bool}{tw:PV}{dp:Int}{s o p:Int}{row:List D}(T:ah pm aa ay)(ib:pm[b]?=some (.inst 2 (fQ b t h ru m bR tw dp)))(hb:9<=b)(h9:9<=h)(ih:pm[h]?=some (.inst 3 bK))(hr:row[1]?=some (.int p))(y:aD aa o (.par p))(hl:aa.length<=900000):
  ∃aA,rn (n+3) 48 [.ax b,.d (.int s),.d (.tup row)] pm []=some (.d (.int (bM aa (.tup [.int 15,.int s,.int o])).2),aA,[])/\ah aA (bM aa (.tup [.int 15,.int s,.int o])).1 ay/\gj pm aA:=by
 obtain⟨fR,e1,T1,K1⟩:=M4 n T y hl;obtain⟨dt,e2,T2,K2⟩:=f4 (n+1) T1 (fm s o) hl;refine⟨dt,?_,T2,K1.trans K2⟩
 dsimp! [ib,hr,e1,e2]
theorem f13(n:Nat){k:Int}{S:Ty}(T:ah pm aa ay)(y:aD aa k S)(nu:S.fY=false)(wm:16<=k)(hl:aa.length<=900000):
  ∃aA,rn (n+5) 13 [.ax 0,.d (.int k),.d (.tup [.int 6,.int 7])] pm []=some (.d (.int k),aA,[])/\ah aA aa ay/\gj pm aA:=by
 have e6:=f6T (n:=n+3) T y () nu;obtain⟨aA,e,T',K⟩:=f12 n (a:= .aI 0) (ts:=[.list [.int k]]) (tl:=[.dead]) (ae:=[k]) (fw:= .aI 0 (.list [.int k])) T (λx hx=>by rw[jG.mp hx];exact⟨⟨S,y,nu⟩,.inr wm⟩) (by simp) (by simp) (by simp) hl (λx=>rfl) rfl (λx=>rfl);have q:sS aa [k]=(aa,k):=rfl;rw[q]at e T';refine⟨aA,?_,T',K⟩;have k6:((6:Int)==k)=false:=by rw[beq_eq_false_iff_ne];omega
 have k7:((7:Int)==k)=false:=by rw[beq_eq_false_iff_ne];omega
 have q:(!([D.int 6,D.int 7].any λy=>ba y (.int k)))=true:=by show(!(((6:Int)==k)||(((7:Int)==k)||false)))=true;rw[k6,k7];rfl
 have c:test (aH (n+4)) (.cmp .eW 'd' 'c') [some (.ax 0),some (.d (.int k)),some (.d (.tup [.int 6,.int 7])),some (.d (.int k))] ⟨pm,[]⟩=some (!([D.int 6,D.int 7].any λy=>ba y (.int k)),⟨pm,[]⟩):=by dsimp! [rfl]
 rw[q]at c
 dsimp! [e6,nZ (gJ c) (ak rfl) rfl rfl,dn rfl rfl rfl e rfl]
theorem f47(n:Nat){s p k:Int}(T:ah pm aa ay)(ih:pm[h]?=some (.inst 3 bK))(h9:9<=h)(y:aD aa s (.par p))(z:aD aa k (.ko s))(wm:16<=k)(hl:aa.length<=900000):
  ∃aA,rn (n+6) 47 [.ax h,.d (.int s)] pm []=some (.d (.int k),aA,[])/\ah aA aa ay/\gj pm aA:=by
 obtain⟨fR,e1,T1,K1⟩:=Xz (n+3) T ih (E6 s) hl;rw[show(D.tup [.int 14,.int s])= .tup (Ty.row (.ko s))from rfl,mZ T.rs z]at e1 T1;obtain⟨dt,e2,T2,K2⟩:=f13 n T1 z rfl wm hl;refine⟨dt,?_,T2,K1.trans K2⟩;have Ia:fR[h]?=some (.inst 3 bK):=by rw[K1.2 h () ()];exact ih
 have e1':rn (n+5) 64 [.ax h,.d (.tup [.int 14,.int s])] pm []=some (.d (.int k),fR,[]):=e1
 dsimp! [e1',e2]
end
def dT:D->List D
 | .tup l=>l
 |_=>[]
def dI:D->Int
 | .int i=>i
 |_=>0
def sT(n:Int)(r:D):Option D:=match dT r with
 |a::b::_=>if dI a==n then some b else none
 |_=>none
def subQ(aa:List D)(w x:Int):Option D->List D×Int
 |some o=>bM aa (.tup [.int 15,.int (dI o),.int w])
 |none=>(aa,x)
def je(aa:List D)(w:Int)(x:Int):List D×Int:=match aa[x.toNat]? with
 |some r=>subQ aa w x (sT 15 r)
 |none=>(aa,x)
theorem uL{aa:List D}{w x:Int}{r:D}(e:aa[x.toNat]?=some r):je aa w x=subQ aa w x (sT 15 r):=by unfold je;rw[e]
def fz(F:List D->Int->List D×Int):List D->List Int->List D×List Int
 |aa,[]=>(aa,[])
 |aa,x::l=>((fz F (F aa x).1 l).1,(F aa x).2::(fz F (F aa x).1 l).2)
def subU(aa:List D)(w t:Int):Option (List Int)->List D×Int
 |some ae=>sS (fz (λr x=>je r w x) aa ae).1 (fz (λr x=>je r w x) aa ae).2
 |none=>(aa,t)
def Tv(aa:List D)(w t:Int):Option D->List D×Int
 |some l=>subU aa w t (intsOf (dT l))
 |none=>je aa w t
def jl(aa:List D)(w:Int)(t:Int):List D×Int:=match aa[t.toNat]? with
 |some r=>Tv aa w t (sT 6 r)
 |none=>je aa w t
theorem qo{aa:List D}{w t:Int}{r:D}(e:aa[t.toNat]?=some r):jl aa w t=Tv aa w t (sT 6 r):=by unfold jl;rw[e]
inductive m5 (aa:List D) (pid:Int) (x:Int):Prop
 |unit (S:Ty) (y:aD aa x S) (v:S.val=true)
 |idx (o po p:Int) (y:aD aa x (.idx o p)) (yo:aD aa o (.par po)) (ne:po≠pid) (yp:aD aa p (.par pid))
theorem m5.pre{a b:List D}(h:a<+:b){pid x:Int}:m5 a pid x->m5 b pid x
 | .unit S y v=> .unit S (y.pre h) v
 | .idx o po p y yo ne yp=> .idx o po p (y.pre h) (yo.pre h) ne (yp.pre h)
section
variable{aa ay:List D}{h N:Nat}{w pid:Int}
theorem M5{n:Nat}{m:TO}{a:D}{R0:List D}{F:List D->Int->List D×Int}(hm:m= .dict [(.int pid,.int w)])(ae:List Int):∀(pm:List MO) (aa:List D),
  (∀x∈ae,∀pm aa,ah pm aa ay->pm[h]?=some (.inst 3 bK)->R0<+:aa->aa.length<=N->∃aA,rn n 67 [.ax h,.d (.int x),.aI 0] pm [m]=some (.d (.int (F aa x).2),aA,[m])/\ah aA (F aa x).1 ay/\gj pm aA/\aa<+:(F aa x).1/\(F aa x).1.length<=aa.length+1)->
  9<=h->ah pm aa ay->pm[h]?=some (.inst 3 bK)->R0<+:aa->aa.length+ae.length<=N->
  ∃aA,dm (λl s=>cx (aH n) .nil l s) (λl s=>eval (aH n) (.call 67 #['a','d','c']) l s) 3 (ae.map .int) [some (.ax h),some (.d a),some (.aI 0),none] ⟨pm,[m]⟩=some ((fz F aa ae).2.map .int,⟨aA,[m]⟩)/\
   ah aA (fz F aa ae).1 ay/\gj pm aA/\aa<+:(fz F aa ae).1/\(fz F aa ae).1.length<=aa.length+ae.length:=by
 induction ae with
 |nil=>
  intro pm aa _ _ T _ _ _;exact⟨pm,rfl,T,.refl,lH _,dJ _⟩
 |cons x ae ihh=>
  intro pm aa hF h9 T ih hR hl;have MK:aa.length+ae.length+1<=N:=by simp only[eH]at hl;omega
  obtain⟨fR,e1,T1,K1,p1,l1⟩:=hF x (.head _) pm aa T ih hR ();obtain⟨dt,e2,T2,K2,p2,l2⟩:=ihh fR (F aa x).1 (λz hz=>hF z (.tail _ hz)) h9 T1 (by rw[K1.2 h () ()];exact ih) (hR.trans p1) ();refine⟨dt,?_,T2,K1.trans K2,p1.trans p2,by simp only[eH];show(fz F (F aa x).1 ae).1.length<=_;omega⟩;subst hm;have ev:eval (aH n) (.call 67 #['a','d','c']) [some (.ax h),some (.d a),some (.aI 0),some (.d (.int x))] ⟨pm,[.dict [(.int pid,.int w)]]⟩=some (.d (.int (F aa x).2),⟨fR,[.dict [(.int pid,.int w)]]⟩):=by dsimp! [dn rfl rfl rfl e1 rfl]
  exact nZ rfl ev rfl e2
theorem f65{n:Nat}{R0:List D}{F:List D->Int->List D×Int}{ae:List Int}{pm:List MO}(hF:∀x∈ae,∀pm aa,ah pm aa ay->pm[h]?=some (.inst 3 bK)->R0<+:aa->aa.length<=N->∃aA,rn n 67 [.ax h,.d (.int x),.aI 0] pm [.dict [(.int pid,.int w)]]=some (.d (.int (F aa x).2),aA,[.dict [(.int pid,.int w)]])/\ah aA (F aa x).1 ay/\gj pm aA/\aa<+:(F aa x).1/\(F aa x).1.length<=aa.length+1)
  (h9:9<=h) (T:ah pm aa ay) (ih:pm[h]?=some (.inst 3 bK)) (hR:R0<+:aa) (hl:aa.length+ae.length<=N) (hi:ae.length<=60):
  ∃aA,rn (n+1) 65 [.ax h,.d (.tup (ae.map .int)),.aI 0] pm [.dict [(.int pid,.int w)]]=some (.d (.tup ((fz F aa ae).2.map .int)),aA,[.dict [(.int pid,.int w)]])/\
   ah aA (fz F aa ae).1 ay/\gj pm aA/\aa<+:(fz F aa ae).1/\(fz F aa ae).1.length<=aa.length+ae.length:=by
 obtain⟨aA,e,X⟩:=M5 (a:= .tup (ae.map .int)) rfl ae pm aa hF h9 T ih hR hl;refine⟨aA,?_,X⟩;have ll:∀(ae:List Int) (aa:List D),(fz F aa ae).2.length=ae.length:=λae=>by
  induction ae with
  |nil=>intro _;rfl
  |cons x l ih=>intro aa;show(fz F _ l).2.length+1=_;rw[ih];rfl
 have l1:(fz F aa ae).2.length<=1000000:=by rw[ll];omega
 have f:fits ((fz F aa ae).2.map D.int)=true:=cT (by rw[eT];exact l1)
 dsimp! [e,↑f,S_ (n:=1) rfl f]
theorem Tw{n:Nat}{pm:List MO}{x p:Int}(T:ah pm aa ay)(ih:pm[h]?=some (.inst 3 bK))(y:aD aa x (.par p)):
  rn (n+1) 67 [.ax h,.d (.int x),.aI 0] pm [.dict [(.int pid,.int w)]]=some (.d (.int (if p=pid then w else x)),pm,[.dict [(.int pid,.int w)]]):=by
 have nn:¬(x<0):=by have:=y.nn;omega
 have g:hJ 2 (.aI 0) [.d (.int p),.d (.int x)] ⟨pm,[.dict [(.int pid,.int w)]]⟩=some (.d (.int (if p=pid then w else x)),⟨pm,[.dict [(.int pid,.int w)]]⟩):=by
  show some (PV.d ((if (p==pid)=true then some _ else none).getD _),_)=_;by_cases e:p=pid
  ·rw[if_pos e,if_pos (fg.mpr e)];rfl
  ·rw[if_neg e,if_neg (mt fg.mp e)];rfl
 dsimp! [dS nn,<-g]
theorem f66u{n:Nat}{pm:List MO}{x:Int}{S:Ty}(v:S.val=true):
  rn (n+1) 66 [.ax h,.d (.int x),.d (.tup S.row),.aI 0] pm [.dict [(.int pid,.int w)]]=some (.d (.int x),pm,[.dict [(.int pid,.int w)]]):=by
 cases S<;>first|(cases v;done)|dsimp! [rfl]
theorem f67u{n:Nat}{pm:List MO}{x:Int}{S:Ty}(T:ah pm aa ay)(ih:pm[h]?=some (.inst 3 bK))(y:aD aa x S)(v:S.val=true):
  rn (n+2) 67 [.ax h,.d (.int x),.aI 0] pm [.dict [(.int pid,.int w)]]=some (.d (.int x),pm,[.dict [(.int pid,.int w)]]):=by
 have nn:¬(x<0):=by have:=y.nn;omega
 have e:=f66u (h:=h) (w:=w) (pid:=pid) (n:=n) (pm:=pm) (x:=x) v;cases S<;>first|(cases v;done)|dsimp! [dS nn,dn rfl rfl rfl e rfl]
theorem f66i{n:Nat}{pm:List MO}{x o po p:Int}(h9:9<=h)(T:ah pm aa ay)(ih:pm[h]?=some (.inst 3 bK))(yo:aD aa o (.par po))(ne:po≠pid)(yp:aD aa p (.par pid))(hl:aa.length<=899980):
  ∃aA,rn (n+3) 66 [.ax h,.d (.int x),.d (.tup [.int 15,.int o,.int p]),.aI 0] pm [.dict [(.int pid,.int w)]]=some (.d (.int (bM aa (.tup [.int 15,.int o,.int w])).2),aA,[.dict [(.int pid,.int w)]])/\
   ah aA (bM aa (.tup [.int 15,.int o,.int w])).1 ay/\gj pm aA:=by
 obtain⟨fR,e1,T1,K1,_,_⟩:=f65 (n:=n+1) (h:=h) (w:=w) (pid:=pid) (ay:=ay) (R0:=aa) (N:=899982) (F:=λr x=>(r,if x=o then o else w)) (ae:=[o,p]) (pm:=pm) (aa:=aa)
  (λx hx pm e_ T ih hR hl=>by
   refine⟨pm,?_,T,.refl,lH _,Nat.le_succ _⟩;have hx:x=o\/x=p:=by simpa using hx
   rcases hx with e|e
   ·subst e;have:=Tw (w:=w) (pid:=pid) (n:=n) T ih (yo.pre hR);rw[if_neg ne]at this;rw[this];simp
   ·subst e;have:=Tw (w:=w) (pid:=pid) (n:=n) T ih (yp.pre hR);rw[if_pos rfl]at this;have no:x≠o:=λe=>by subst e;have a:=yo.at_;rw[yp.at_]at a;exact ne (D.int.inj (List.cons.inj (List.cons.inj (D.tup.inj (fh a))).2).1).symm
    rw[this];simp[no])
  h9 T ih (lH _) (by simp;omega) (by simp)
 have no:p≠o:=λe=>by subst e;have a:=yo.at_;rw[yp.at_]at a;exact ne (D.int.inj (List.cons.inj (List.cons.inj (D.tup.inj (fh a))).2).1).symm
 have q:fz (λr x=>(r,if x=o then o else w)) aa [o,p]=(aa,[o,w]):=by show(aa,[if o=o then o else w,if p=o then o else w])=_;rw[if_pos rfl,if_neg no]
 rw[q]at e1 T1;have Ia:fR[h]?=some (.inst 3 bK):=by rw[K1.2 h () ()];exact ih
 obtain⟨dt,e2,T2,K2⟩:=Xz n T1 Ia (fm o w) (by show aa.length<=_;omega);refine⟨dt,?_,T2,K1.trans K2⟩
 dsimp! [dn rfl rfl rfl e1 rfl,e2]
theorem f67i{n:Nat}{pm:List MO}{x o po p:Int}(h9:9<=h)(T:ah pm aa ay)(ih:pm[h]?=some (.inst 3 bK))(y:aD aa x (.idx o p))(yo:aD aa o (.par po))(ne:po≠pid)(yp:aD aa p (.par pid))(hl:aa.length<=899980):
  ∃aA,rn (n+4) 67 [.ax h,.d (.int x),.aI 0] pm [.dict [(.int pid,.int w)]]=some (.d (.int (bM aa (.tup [.int 15,.int o,.int w])).2),aA,[.dict [(.int pid,.int w)]])/\
   ah aA (bM aa (.tup [.int 15,.int o,.int w])).1 ay/\gj pm aA:=by
 obtain⟨aA,e,X⟩:=f66i (x:=x) (w:=w) (n:=n) h9 T ih yo ne yp hl;refine⟨aA,?_,X⟩;have nn:¬(x<0):=by have:=y.nn;omega
 dsimp! [dS nn,dn rfl rfl rfl e rfl]
theorem Tx{n:Nat}{pm:List MO}{x:Int}(h9:9<=h)(T:ah pm aa ay)(ih:pm[h]?=some (.inst 3 bK))(y:m5 aa pid x)(hl:aa.length<=899980):
  ∃aA,rn (n+4) 67 [.ax h,.d (.int x),.aI 0] pm [.dict [(.int pid,.int w)]]=some (.d (.int (je aa w x).2),aA,[.dict [(.int pid,.int w)]])/\
   ah aA (je aa w x).1 ay/\gj pm aA/\aa<+:(je aa w x).1/\(je aa w x).1.length<=aa.length+1:=by
 cases y with
 |unit S y v=>
  have q:je aa w x=(aa,x):=(uL y.at_).trans (by cases S<;>first|exact noB v|rfl);rw[q];exact⟨pm,f67u (n:=n+2) T ih y v,T,.refl,lH _,Nat.le_succ _⟩
 |idx o po p y yo ne yp=>
  have q:je aa w x=bM aa (.tup [.int 15,.int o,.int w]):=uL y.at_;rw[q];obtain⟨aA,e,T',K⟩:=f67i (w:=w) (n:=n) h9 T ih y yo ne yp hl;have P:=cM T.rs (fm o w);exact⟨aA,e,T',K,P.pre,P.len⟩
end
section
variable{aa ay:List D}{h:Nat}{w pid:Int}
noncomputable abbrev iv (aa:List D) (w:Int) (ae:List Int):List D×List Int:=fz (λr x=>je r w x) aa ae
inductive Ib (aa:List D) (pid w:Int) (t:Int):Prop
 |atom (y:m5 aa pid t)
 |un (ae:List Int) (y:aD aa t (.un ae)) (hs:∀x∈ae,m5 aa pid x) (hA:∀x∈(iv aa w ae).2,g5 (iv aa w ae).1 x) (nd:(iv aa w ae).2.Nodup) (h0:(iv aa w ae).2≠[]) (hl:ae.length<=4)
theorem tr{F:List D->Int->List D×Int}:∀(ae:List Int) (aa:List D),(fz F aa ae).2.length=ae.length
 |[],_=>rfl
 |x::l,aa=>by show(fz F _ l).2.length+1=_;rw[tr l];rfl
theorem f67t{n:Nat}{pm:List MO}{t:Int}(h9:9<=h)(T:ah pm aa ay)(ih:pm[h]?=some (.inst 3 bK))(y:Ib aa pid w t)(hl:aa.length<=899900):
  ∃aA,rn (n+6) 67 [.ax h,.d (.int t),.aI 0] pm [.dict [(.int pid,.int w)]]=some (.d (.int (jl aa w t).2),aA,[.dict [(.int pid,.int w)]])/\
   ah aA (jl aa w t).1 ay/\gj pm aA:=by
 cases y with
 |atom y=>
  have q:jl aa w t=je aa w t:=by
   cases y with
   |unit S y v=>exact(qo y.at_).trans (by cases S<;>first|exact noB v|rfl)
   |idx o po p y _ _ _=>exact qo y.at_
  rw[q];obtain⟨aA,e,T',K,_⟩:=Tx (w:=w) (n:=n+2) h9 T ih y ();exact⟨aA,e,T',K⟩
 |un ae y hs hA nd h0 hn=>
  have q:jl aa w t=sS (iv aa w ae).1 (iv aa w ae).2:=by unfold jl;rw[y.at_];show(match intsOf (ae.map .int)with|some ae=>_|none=>_)=_;rw[ir]
  rw[q];obtain⟨fR,e1,T1,K1,p1,l1⟩:=f65 (n:=n+4) (h:=h) (w:=w) (pid:=pid) (ay:=ay) (R0:=aa) (N:=899980) (F:=λr x=>je r w x) (ae:=ae) (pm:=pm) (aa:=aa)
   (λx hx pm e_ T ih hR MK=>by exact Tx (n:=n) h9 T ih ((hs x hx).pre hR) MK)
   h9 T ih (lH _) () ()
  have fl:(iv aa w ae).2.length=ae.length:=tr (F:=λr x=>je r w x) ae aa;have l1:(iv aa w ae).1.length<=aa.length+ae.length:=l1;obtain⟨dt,e2,T2,K2⟩:=f12 (n+1) (a:= .d (.tup ((iv aa w ae).2.map .int))) (ts:=[]) (tl:=[]) (ae:=(iv aa w ae).2) (fw:= .none) T1 hA nd h0 () ()
   (λx=>rfl) rfl (λx=>rfl)
  refine⟨dt,?_,T2,K1.trans K2⟩;have Ia:fR[h]?=some (.inst 3 bK):=by rw[K1.2 h () ()];exact ih
  have nn:¬(t<0):=by have:=y.nn;omega
  dsimp! [dS nn,dn rfl rfl rfl e1 rfl,e2]
theorem f69{n:Nat}{pm:List MO}{t:Int}(h9:9<=h)(T:ah pm aa ay)(ih:pm[h]?=some (.inst 3 bK))(y:Ib aa pid w t)(hl:aa.length<=899900):
  ∃aA,rn (n+7) 69 [.ax h,.d (.int t),.aI 0] pm [.dict [(.int pid,.int w)]]=some (.d (.int (jl aa w t).2),aA,[.dict [(.int pid,.int w)]])/\
   ah aA (jl aa w t).1 ay/\gj pm aA:=by
 obtain⟨aA,e,X⟩:=f67t (n:=n) h9 T ih y hl;refine⟨aA,?_,X⟩
 dsimp! [dn rfl rfl rfl e rfl]
end
section
variable{X:Cx}{ls:Ls}{σ aj aM bJ:PS}
end
structure az where
 key:Nat
 opt:Nat
 ro:Nat
 mask:Nat
 mem:Bool
 deriving DecidableEq,Inhabited
def az.d(t:az):D:= .tup [.int t.key,.int t.opt,.int t.ro,.int t.mask,.bool t.mem]
def fT:List Int:=[18,23,19,24,25,22,20]
def bit(m i:Nat):Bool:=m/2^i%2==1
def fZ:Nat->D
 |0=> .tup [.int 3,.str [97],.int 0]
 |1=> .tup [.int 4,.int 1,.int 0]
 |_=> .tup [.int 1,.str [110,117,108,108]]
def bg(m:Nat):List Nat->List D
 |[]=>[]
 |i::l=>if bit m i then fZ i::bg m l else bg m l
theorem lj{m i:Nat}{l:List Nat}:bg m (i::l)=if bit m i then fZ i::bg m l else bg m l:=rfl
theorem gA(m:Nat):∀l,bg m l=(l.filter λi=>bit m i).map fZ
 |[]=>rfl
 |i::l=>by show(if bit m i then fZ i::bg m l else bg m l)=_;rw[List.filter_cons,gA m l];cases bit m i<;>rfl
def Ic(r:D):Nat:=(dI ((dT r).headD .none)).toNat
theorem E9{i:Nat}(h:i∈[0,1,2]):i<3:=(by decide:∀i∈[0,1,2],i<3) i h
theorem wo{i j:Nat}(hi:i<3)(hj:j<3)(e:fZ i=fZ j):i=j:=by rcases oa3 hi with h|h|h<;>rcases oa3 hj with g|g|g<;>subst h<;>subst g<;>first|rfl|exact ncf Ic e rfl
def bh:List D->List D->List D×List Int
 |aa,[]=>(aa,[])
 |aa,r::l=>((bh (bM aa r).1 l).1,(bM aa r).2::(bh (bM aa r).1 l).2)
def bC(aa:List D)(pid:Nat):List D×Int:=bM aa (.tup [.int 10,.int pid])
def af(t:az)(own:Int):List D:=bg t.mask [0,1,2]++(if t.mem then[.tup [.int 15,.int (if t.key=1 then 17 else 16),.int own]]else[])
def uM(pid kn tp opt ro:Int):D:= .tup [.int 17,.int pid,.int kn,.int (-1),.int tp,.int opt,.int ro]
def ps(aa:List D)(pid:Nat)(t:az):List D×Int:=
 sS (bh (bC aa pid).1 (af t (bC aa pid).2)).1 (bh (bC aa pid).1 (af t (bC aa pid).2)).2
def wq(aa:List D)(pid:Nat)(t:az):List D×Int:=
 bM (ps aa pid t).1 (uM pid (fT[t.key]?.getD 0) (ps aa pid t).2 t.opt t.ro)
theorem E_(pid kn tp opt ro:Int):dC (uM pid kn tp opt ro):=⟨rfl,rfl,rfl⟩
theorem M6:∀i,dC (fZ i)
 |0=>⟨rfl,rfl,rfl⟩
 |1=>⟨rfl,rfl,rfl⟩
 |_+2=>⟨rfl,rfl,rfl⟩
theorem jM{m:Nat}:∀l,∀r∈bg m l,dC r
 |[],_,h=>nomatch h
 |i::l,r,h=>by
  rw[lj]at h;split at h
  ·rcases dH.mp h with e|h
   ·rw[e];exact M6 i
   ·exact jM l r h
  ·exact jM l r h
theorem kC{m:Nat}:∀l,(bg m l).length<=l.length
 |[]=>dJ _
 |i::l=>by rw[lj];have:=kC (m:=m) l;split<;>simp only[eH]<;>omega
theorem jm:∀(a b:List D) (aa:List D),bh aa (a++b)=((bh (bh aa a).1 b).1,(bh aa a).2++(bh (bh aa a).1 b).2)
 |[],b,aa=>rfl
 |r::a,b,aa=>by show((bh (bM aa r).1 (a++b)).1,(bM aa r).2::(bh (bM aa r).1 (a++b)).2)=_;rw[jm a b];rfl
theorem iw:∀(l:List D) (aa:List D),cz aa->(∀r∈l,dC r)->cz (bh aa l).1/\aa<+:(bh aa l).1/\(bh aa l).1.length<=aa.length+l.length
 |[],aa,R,_=>⟨R,lH _,dJ _⟩
 |r::l,aa,R,h=>by have P:=cM R (h r (.head _));obtain⟨a,b,c⟩:=iw l (bM aa r).1 P.rs λx hx=>h x (.tail _ hx);refine⟨a,P.pre.trans b,?_⟩;have:=P.len;show(bh (bM aa r).1 l).1.length<=_;simp only[eH];omega
section
variable{aa ay:List D}
theorem f73(n:Nat){pm:List MO}:rn (n+1) 73 [] pm []=some (.d (.lst [fZ 0,fZ 1,fZ 2]),pm,[]):=by dsimp! [rfl]
def XA:Es:=#[.cmp .eq (.bin .mod (.bin .fdiv 'h' (.bin .pow 2.0 'l')) 2.0) 1.0]
def XB:E:= .aR 'a' 3 #[.sub (.call 73 .nil) 'l']
theorem Tz(n m i:Nat)(hi:i<3){x0 x1 x2 x3 x4 x5 x6 x8 x9 m8:Option PV}{σ:PS}:cx (aH n) XA [x0,x1,x2,x3,x4,x5,x6,some (.d (.int m)),x8,x9,m8,some (.d (.int i))] σ=some (bit m i,σ):=by
 have h1:Int.fdiv (m:Int) 1=((m/1:Nat):Int):=by simp
 have h2:Int.fdiv (m:Int) 2=((m/2:Nat):Int):=by rw[Int.fdiv_eq_ediv_of_nonneg _ ∅];rfl
 have h4:Int.fdiv (m:Int) 4=((m/4:Nat):Int):=by rw[Int.fdiv_eq_ediv_of_nonneg _ ∅];rfl
 have hm:∀k:Nat,Int.fmod (k:Int) 2=((k%2:Nat):Int):=λk=>by rw[Int.fmod_eq_emod_of_nonneg _ ∅];rfl
 have hb:∀k:Nat,(((k%2:Nat):Int)==1)=(k%2==1):=λk=>by rcases Nat.mod_two_eq_zero_or_one k with h|h<;>rw[h]<;>rfl
 have f:i=0\/i=1\/i=2:=();have g0:(((m:Int)%2)==1)=(m%2==1):=hb m;have g1:((((m:Int)/2).fmod 2)==1)=(m/2%2==1):=by rw[<-hb (m/2),<-hm (m/2)];rfl
 have g2:((((m:Int)/4).fmod 2)==1)=(m/4%2==1):=by rw[<-hb (m/4),<-hm (m/4)];rfl
 unfold bit;rcases f with rfl|rfl|rfl
 ·refine gJ (Eq.trans (b:=some ((((m/1:Nat):Int).fmod 2)==1,σ)) ?_ (by rw[hm,hb]))
  dsimp! [<-(congrArg some h1:arith .fdiv m 1=_)]
 ·refine gJ (Eq.trans (b:=some ((((m/2:Nat):Int).fmod 2)==1,σ)) ?_ (by rw[hm,hb]))
  dsimp! [<-(congrArg some h2:arith .fdiv m 2=_)]
 ·refine gJ (Eq.trans (b:=some ((((m/4:Nat):Int).fmod 2)==1,σ)) ?_ (by rw[hm,hb]))
  dsimp! [<-(congrArg some h4:arith .fdiv m 4=_)]
theorem M7(n i:Nat)(hi:i<3){pm:List MO}{tm:List TO}(T:ah pm aa ay)(hl:aa.length<=800000){x1 x2 x3 x4 x5 x6 x7 x8 x9 m8:Option PV}:
  ∃aA,eval (aH (n+1)) XB [some (.ax 0),x1,x2,x3,x4,x5,x6,x7,x8,x9,m8,some (.d (.int i))] ⟨pm,tm⟩=some (.d (.int (bM aa (fZ i)).2),⟨aA,tm⟩)/\ah aA (bM aa (fZ i)).1 ay/\gj pm aA:=by
 obtain⟨aA,e,X⟩:=f4 n T (M6 i) ();refine⟨aA,?_,X⟩;have e73:=f73 n (pm:=pm);have f:i=0\/i=1\/i=2:=();rcases f with rfl|rfl|rfl<;>dsimp! [e73,e]
theorem M8{n m:Nat}{tm:List TO}{x1 x2 x3 x4 x5 x6 x8 x9 m8:Option PV}(is:List Nat):∀(pm:List MO) (aa:List D),(∀i∈is,i<3)->ah pm aa ay->aa.length+is.length<=800000->
  ∃aA,dm (λl s=>cx (aH (n+1)) XA l s) (λl s=>eval (aH (n+1)) XB l s) 11 (is.map λ(i:Nat)=>D.int i) [some (.ax 0),x1,x2,x3,x4,x5,x6,some (.d (.int m)),x8,x9,m8,none] ⟨pm,tm⟩=some ((bh aa (bg m is)).2.map .int,⟨aA,tm⟩)/\
   ah aA (bh aa (bg m is)).1 ay/\gj pm aA:=by
 induction is with
 |nil=>
  intro pm aa _ T _;exact⟨pm,rfl,T,.refl⟩
 |cons i is ih=>
  intro pm aa hi T hl;have MK:aa.length+is.length+1<=800000:=by simp only[eH]at hl;omega
  have eb:=Tz (n+1) m i (hi i (.head _)) (x0:=some (.ax 0)) (x1:=x1) (x2:=x2) (x3:=x3) (x4:=x4) (x5:=x5) (x6:=x6) (x8:=x8) (x9:=x9) (m8:=m8) (σ:=⟨pm,tm⟩);rw[j9];rw[lj];cases q:bit m i with
  |false=>
   rw[if_neg ∅];rw[q]at eb;obtain⟨aA,e,X⟩:=ih pm aa (λj hj=>hi j (.tail _ hj)) T ();exact⟨aA,KZ eb e,X⟩
  |true=>
   rw[if_pos rfl];rw[q]at eb;obtain⟨fR,e1,T1,K1⟩:=M7 n i (hi i (.head _)) T () (tm:=tm) (x1:=x1) (x2:=x2) (x3:=x3) (x4:=x4) (x5:=x5) (x6:=x6) (x7:=some (.d (.int m))) (x8:=x8) (x9:=x9) (m8:=m8);have P:=cM T.rs (M6 i);obtain⟨dt,e2,T2,K2⟩:=ih fR (bM aa (fZ i)).1 (λj hj=>hi j (.tail _ hj)) T1 (by have:=P.len;omega);exact⟨dt,nZ eb e1 rfl e2,T2,K1.trans K2⟩
theorem jn:∀(l:List D) (aa:List D),(bh aa l).2.length=l.length
 |[],_=>rfl
 |r::l,aa=>by show(bh _ l).2.length+1=_;rw[jn l];rfl
theorem E'{k:Nat}(hk:k<7):(fT.map D.int)[k]?=some (.int (fT[k]?.getD 0)):=by have:k=0\/k=1\/k=2\/k=3\/k=4\/k=5\/k=6:=();rcases this with h|h|h|h|h|h|h<;>rw[h]<;>rfl
theorem Bc{k:Nat}(h:k<1000):small (k:Int)=true:=nY.mpr (by unfold big;omega)
end
theorem jf{α:Type}{a b:α}:(if false=true then a else b)=b:=rfl
theorem lM{α:Type}{a b:α}:(if true=true then a else b)=a:=rfl
theorem Bd{t:az}{o:Int}(q:t.mem=false):af t o=bg t.mask [0,1,2]:=by unfold af;rw[q,jf,ei]
theorem Be{t:az}{o:Int}(q:t.mem=true):af t o=bg t.mask [0,1,2]++[.tup [.int 15,.int (if t.key=1 then 17 else 16),.int o]]:=by unfold af;rw[q,lM]
section
variable{aa ay:List D}
theorem M9{n:Nat}{t:az}(q:t.mem=false){pm fR dt qT En:List MO}{kl U:List D}{k o j r:Int}{pid:Nat}(ks:small (t.key:Int)=true)(kn:decide ((0:Int)<=t.key)=true)(uN:kl[t.key]?=some (.int k))(e1:rn (n+5) 5 [.ax 0,.d (.str [80]),.d (.int k),.d (.int (-1))] pm []=some (.d (.int o),fR,[]))
  (e2:dm (λl s=>cx (aH (n+5)) XA l s) (λl s=>eval (aH (n+5)) XB l s) 11 [.int 0,.int 1,.int 2] [some (.ax 0),some (.aI 0),some (.d (.tup [.int 16,.int 17])),some (.d t.d),some (.d (.int t.key)),some (.d (.int t.opt)),some (.d (.int t.ro)),some (.d (.int t.mask)),some (.d (.bool t.mem)),some (.d (.int o)),none,none] ⟨fR,[.list kl]⟩=some (U,⟨dt,[.list kl]⟩)) (fU:fits U=true)
  {R3:List D} (i0:dt[0]?=some (.inst 0 mV)) (i1:dt[1]?=some (.list R3)) (y:aD R3 o (.par pid)) (e4:rn (n+5) 12 [.ax 0,.aI 0] dt [.list U]=some (.d (.int j),qT,[.list U])) (e5:rn (n+5) 4 [.ax 0,.d (uM pid k j t.opt t.ro)] qT []=some (.d (.int r),En,[])):
  rn (n+6) 78 [.ax 0,.aI 0,.d (.tup [.int 16,.int 17]),.d t.d] pm [.list kl]=some (.d (.int r),En,[.list kl]):=by
 dsimp! [↑ks,↑kn,uN,e1,e2,↑fU,q,i0,i1,dn rfl rfl rfl e4 rfl,e5]
theorem M_{n:Nat}{t:az}(q:t.mem=true){pm fR dt iW qT En:List MO}{kl U L:List D}{k o i j r:Int}{pid:Nat}(ks:small (t.key:Int)=true)(kn:decide ((0:Int)<=t.key)=true)(uN:kl[t.key]?=some (.int k))(e1:rn (n+5) 5 [.ax 0,.d (.str [80]),.d (.int k),.d (.int (-1))] pm []=some (.d (.int o),fR,[]))
  (e2:dm (λl s=>cx (aH (n+5)) XA l s) (λl s=>eval (aH (n+5)) XB l s) 11 [.int 0,.int 1,.int 2] [some (.ax 0),some (.aI 0),some (.d (.tup [.int 16,.int 17])),some (.d t.d),some (.d (.int t.key)),some (.d (.int t.opt)),some (.d (.int t.ro)),some (.d (.int t.mask)),some (.d (.bool t.mem)),some (.d (.int o)),none,none] ⟨fR,[.list kl]⟩=some (U,⟨dt,[.list kl]⟩)) (fU:fits U=true) (el:U++[.int i]=L) (z0:dt[0]?=some (.inst 0 mV))
  (m1:rn (n+5) 4 [.ax 0,.d (.tup [.int 15,.int (if t.key=1 then 17 else 16),.int o])] dt []=some (.d (.int i),iW,[])) {R3:List D} (i0:iW[0]?=some (.inst 0 mV)) (i1:iW[1]?=some (.list R3)) (y:aD R3 o (.par pid)) (e4:rn (n+5) 12 [.ax 0,.aI 0] iW [.list L]=some (.d (.int j),qT,[.list L])) (e5:rn (n+5) 4 [.ax 0,.d (uM pid k j t.opt t.ro)] qT []=some (.d (.int r),En,[])):
  rn (n+6) 78 [.ax 0,.aI 0,.d (.tup [.int 16,.int 17]),.d t.d] pm [.list kl]=some (.d (.int r),En,[.list kl]):=by
 by_cases h:t.key=1
 ·rw[if_pos h]at m1;have h':((t.key:Int)==1)=true:=by rw[h];rfl
  dsimp! [↑ks,↑kn,uN,e1,e2,↑fU,q,z0,h',m1,S' rfl fU el,i0,i1,dn rfl rfl rfl e4 rfl,e5]
 ·rw[if_neg h]at m1;have h':((t.key:Int)==1)=false:=by rw[beq_eq_false_iff_ne];omega
  dsimp! [↑ks,↑kn,uN,e1,e2,↑fU,q,z0,h',m1,S' rfl fU el,i0,i1,dn rfl rfl rfl e4 rfl,e5]
theorem f78(n:Nat){pm:List MO}{t:az}(T:ah pm aa ay)(hk:t.key<7)(hl:aa.length<=700000)(hb:ay.length<=700000)
  (hA:∀x∈(bh (bC aa ay.length).1 (af t (bC aa ay.length).2)).2,g5 (bh (bC aa ay.length).1 (af t (bC aa ay.length).2)).1 x)
  (nd:(bh (bC aa ay.length).1 (af t (bC aa ay.length).2)).2.Nodup) (h0:(bh (bC aa ay.length).1 (af t (bC aa ay.length).2)).2≠[]):
  ∃aA,rn (n+6) 78 [.ax 0,.aI 0,.d (.tup [.int 16,.int 17]),.d t.d] pm [.list (fT.map .int)]=some (.d (.int (wq aa ay.length t).2),aA,[.list (fT.map .int)])/\
   ah aA (wq aa ay.length t).1 (ay++[.int (fT[t.key]?.getD 0)])/\qW pm aA:=by
 have RA:=cM T.rs (uI ay.length);obtain⟨fR,e1,T1,N1⟩:=f5 (n+3) (s:= .str [80]) (bd:=fT[t.key]?.getD 0) T () ();have T1:ah fR (bC aa ay.length).1 (ay++[.int (fT[t.key]?.getD 0)]):=T1;have lA:(bC aa ay.length).1.length<=aa.length+1:=RA.len;have RA':cz (bC aa ay.length).1:=RA.rs;obtain⟨dt,e2,T2,K2⟩:=M8 (n:=n+4) (m:=t.mask) (tm:=[.list (fT.map .int)]) (x1:=some (.aI 0)) (x2:=some (.d (.tup [.int 16,.int 17]))) (x3:=some (.d t.d)) (x4:=some (.d (.int t.key))) (x5:=some (.d (.int t.opt))) (x6:=some (.d (.int t.ro))) (x8:=some (.d (.bool t.mem))) (x9:=some (.d (.int (bC aa ay.length).2))) (m8:=none) [0,1,2] fR (bC aa ay.length).1 ∅ T1 (by show _+3<=_;omega);obtain⟨RU,pU,lU⟩:=iw (bg t.mask [0,1,2]) (bC aa ay.length).1 RA' (jM _);have lu:(bg t.mask [0,1,2]).length<=3:=kC (m:=t.mask) [0,1,2];have uN:=E' hk;have we:∃iW i,(t.mem=true->rn (n+5) 4 [.ax 0,.d (.tup [.int 15,.int (if t.key=1 then 17 else 16),.int (bC aa ay.length).2])] dt []=some (.d (.int i),iW,[]))/\(t.mem=false->iW=dt)/\
   bh (bC aa ay.length).1 (af t (bC aa ay.length).2)=((bh (bC aa ay.length).1 (af t (bC aa ay.length).2)).1,(bh (bC aa ay.length).1 (bg t.mask [0,1,2])).2++(if t.mem then[i]else[]))/\
   ah iW (bh (bC aa ay.length).1 (af t (bC aa ay.length).2)).1 (ay++[.int (fT[t.key]?.getD 0)])/\gj dt iW/\
   (bC aa ay.length).1<+:(bh (bC aa ay.length).1 (af t (bC aa ay.length).2)).1/\(bh (bC aa ay.length).1 (af t (bC aa ay.length).2)).1.length<=aa.length+10:=by
  cases q:t.mem with
  |false=>
   rw[Bd q];exact⟨dt,0,λz=>absurd z ∅,λ_=>rfl,by rw[jf,ei],T2,.refl,pU,bw lU (bw (ji lA lu) (hV (show 4<=10 by decide) _))⟩
  |true=>
   rw[Be q];have ok:=fm (if t.key=1 then 17 else 16) (bC aa ay.length).2;have P:=cM RU ok;obtain⟨iW,e3,T3,K3⟩:=f4 (n+4) T2 ok ();refine⟨iW,_,λ_=>e3,λz=>absurd z ∅,?_,?_,K3,?_,?_⟩
   ·rw[jm,lM];rfl
   ·rw[jm];exact T3
   ·rw[jm];exact pU.trans P.pre
   ·rw[jm];show(bM _ _).1.length<=_;exact bw P.len (bw (sJ (bw lU (ji lA lu))) (hV (show 5<=10 by decide) _))
 obtain⟨iW,i,m1,m2,mP,T3,K3,p3,l3⟩:=we;have y0:aD (bC aa ay.length).1 (bC aa ay.length).2 (.par ay.length):=qV.ty (S:= .par ay.length) RA ();have y:=y0.pre p3;have lP:(bh (bC aa ay.length).1 (af t (bC aa ay.length).2)).2.length<=4:=by rw[jn];unfold af;rw[eh];split<;>simp only[eH,List.length_nil]<;>omega
 obtain⟨qT,e4,T4,K4⟩:=f12 (n+1) (a:= .aI 0) (ts:=[.list ((bh (bC aa ay.length).1 (af t (bC aa ay.length).2)).2.map .int)]) (tl:=[.dead]) (ae:=(bh (bC aa ay.length).1 (af t (bC aa ay.length).2)).2) (fw:= .aI 0 (.list ((bh (bC aa ay.length).1 (af t (bC aa ay.length).2)).2.map .int))) T3 hA nd h0 () ()
  (λx=>rfl) rfl (λx=>rfl)
 have T4:ah qT (ps aa ay.length t).1 (ay++[.int (fT[t.key]?.getD 0)]):=T4;have l4:(ps aa ay.length t).1.length<=aa.length+11:=by have:=MZ (ae:=(bh (bC aa ay.length).1 (af t (bC aa ay.length).2)).2) T3.rs;have:(ps aa ay.length t).1.length<=(bh (bC aa ay.length).1 (af t (bC aa ay.length).2)).1.length+1:=this;omega
 obtain⟨En,e5,T5,K5⟩:=f4 (n+4) T4 (E_ ay.length (fT[t.key]?.getD 0) (ps aa ay.length t).2 t.opt t.ro) ();refine⟨En,?_,T5,N1.trans ((K2.trans (K3.trans (K4.trans K5))).new)⟩;have fU:fits ((bh (bC aa ay.length).1 (bg t.mask [0,1,2])).2.map D.int)=true:=cT (by rw[eT,jn];omega);have ks:=Bc (k:=t.key) ();have kn:decide ((0:Int)<=t.key)=true:=eM (sG _);have el:((bh (bC aa ay.length).1 (bg t.mask [0,1,2])).2.map D.int++(if t.mem then[D.int i]else[]))=(bh (bC aa ay.length).1 (af t (bC aa ay.length).2)).2.map D.int:=by have:=congrArg Prod.snd mP;dsimp only at this;rw[this,List.map_append];cases t.mem<;>rfl
 cases q:t.mem with
 |false=>
  rw[q,jf,ei]at el;rw[<-el,m2 q]at e4;have i0:=T3.i0;have i1:=T3.i1;rw[m2 q]at i0 i1;exact M9 q ks kn uN e1 e2 fU i0 i1 y e4 e5
 |true=>
  rw[q,lM]at el;exact M_ q ks kn uN e1 e2 fU el T2.i0 (m1 q) T3.i0 T3.i1 y e4 e5
end
section
variable{pm:List MO}
theorem m9{α:Type}{l r:List α}{x:α}:(l++x::r)[l.length]?=some x:=by simp
theorem qt{α:Type}{l r:List α}{x y:α}:(l++x::r).set l.length y=l++y::r:=by rw[List.set_append_right _ _ (dJ _)];simp
theorem vH{X:Cx}{C a:Nat}{e:E}{r:Ss}{ls:Ls}{q q':List MO}{t t':List TO}{fs:List (Nat×PV)}{v:PV}(h0:ls[0]?= ~~~(.ax pm.length))(hE:ai (cX λv σ=>PS.eU σ v) (eval X e ls ⟨pm++ .inst C fs::q,t⟩)=some (v,⟨pm++ .inst C fs::q',t'⟩))
  (hv:∀σ k,PS.v5 σ (.ax k) a v=ai (Xj σ k a v) σ.pm[k]?) (hf:vZ fs 100=true):execs X (.cons (.dU 'a' a e) r) ls ⟨pm++ .inst C fs::q,t⟩=execs X r ls ⟨pm++ .inst C (sQ a v fs)::q',t'⟩:=by
 obtain⟨v0,σ1,e1,e2⟩:=Ez hE;show uu _ (ai (cX (pO (eval X 'a') ls (Xn ls a))) (eval X e ls _))=_;rw[e1];show uu _ (ai (cX (Xn ls a v0)) (ai (Ma σ1) ls[0]?))=_;rw[h0];show uu _ (ai (cX (Sy ls (.ax pm.length) a)) (σ1.eU v0))=_;rw[show σ1.eU v0=_ from e2];show uu _ (Sy ls (.ax pm.length) a v _)=_;unfold Sy;rw[hv,m9];show uu _ (ai _ (dy _ (vZ fs 100)))=_;rw[hf];show execs X r ls ⟨(pm++_::q').set pm.length _,_⟩=_;rw[qt]
theorem Rr{X:Cx}{ls:Ls}{q:List MO}{x y:MO}{z:TO}{t:List TO}{e:E}(h:∀σ,eval X e ls σ=some (.aI σ.tm.length,⟨σ.pm,σ.tm++[z]⟩))(k:∀σ n,stK σ n z=some (.ax σ.pm.length,⟨σ.pm++[y],σ.tm.set n .dead⟩)):
  ai (cX λv σ=>PS.eU σ v) (eval X e ls ⟨pm++x::q,t⟩)=some (.ax (pm.length+q.length+1),⟨pm++x::(q++[y]),t++[.dead]⟩):=by
 rw[h];show ai (stK _ t.length) (t++[z])[t.length]?=_;rw[m9];show stK _ _ z=_;rw[k];show some (PV.ax (pm++x::q).length,PS.mk ((pm++x::q)++[y]) ((t++[z]).set t.length .dead))=_;rw[eI,eh,qt];rfl
theorem iq(n:Nat):rn (n+1) 0 [.ax pm.length] (pm++[.inst 1 []]) []=some (.d .none,pm++[.inst 1 [(0,.ax (pm.length+1))],.list []],[]):=
 rb0.trans ((congrArg (ai (cX (mc []))) ((vH rfl (Rr (λ_=>rfl) λ_ _=>rfl) (λ_ _=>rfl) rfl).trans rfl)).trans rfl)
theorem new1(n:Nat){tm:List TO}:cJ ((aH (n+1)).new 1) [] ⟨pm,tm⟩=some (.ax pm.length,⟨pm++[.inst 1 [(0,.ax (pm.length+1))],.list []],tm⟩):=by
 have e:(aH (n+1)).new 1 [] pm []=some (.ax pm.length,pm++[.inst 1 [(0,.ax (pm.length+1))],.list []],[]):=by exact aq (iq _)
 exact aq e
theorem f68(n:Nat):rn (n+1) 68 [.ax pm.length,.ax 0] (pm++[.inst 3 []]) []=some (.d .none,pm++[.inst 3 bK],[]):=
 Z7.trans ((congrArg (ai (cX (mc []))) ((vH rfl rfl (λ_ _=>rfl) rfl).trans ((vH rfl rfl (λ_ _=>rfl) rfl).trans ((vH rfl rfl (λ_ _=>rfl) rfl).trans ((vH rfl rfl (λ_ _=>rfl) rfl).trans rfl))))).trans rfl)
theorem new3(n:Nat){tm:List TO}:cJ ((aH (n+1)).new 3) [.ax 0] ⟨pm,tm⟩=some (.ax pm.length,⟨pm++[.inst 3 bK],tm⟩):=by
 have e:(aH (n+1)).new 3 [.ax 0] pm []=some (.ax pm.length,pm++[.inst 3 bK],[]):=by exact aq (f68 _)
 exact aq e
def cO(b h:Nat)(m:Int):List MO:=[.inst 2 (fQ b (b+4) h (b+1) m true (.d .none) 0),.dict [],.dict [],.dict [],.list [],.list [],.inst 1 [(0,.ax (b+7))],.list []]
theorem asC{n:Nat}{ls:Ls}{t:List TO}{q:List MO}{x:MO}:ai (cX λv σ=>PS.eU σ v) (eval (aH (n+1)) (.new 1 .nil) ls ⟨pm++x::q,t⟩)=some (.ax (pm.length+q.length+1),⟨pm++x::(q++[.inst 1 [(0,.ax (pm.length+q.length+2))],.list []]),t⟩):=by show ai _ (cJ ((aH (n+1)).new 1) [] _)=_;rw[new1,eI,eh];rfl
theorem f17(n:Nat){h:Nat}{m:Int}:rn (n+2) 17 [.ax pm.length,.ax h,.d (.int m)] (pm++[.inst 2 []]) []=some (.d .none,pm++cO pm.length h m,[]):=
 Z6.trans ((congrArg (ai (cX (mc []))) ((vH rfl rfl (λ_ _=>rfl) rfl).trans ((vH rfl rfl (λ_ _=>rfl) rfl).trans ((vH rfl (Rr (λ_=>rfl) λ_ _=>rfl) (λ_ _=>rfl) rfl).trans ((vH rfl (Rr (λ_=>rfl) λ_ _=>rfl) (λ_ _=>rfl) rfl).trans ((vH rfl (Rr (λ_=>rfl) λ_ _=>rfl) (λ_ _=>rfl) rfl).trans ((vH rfl (Rr (λ_=>rfl) λ_ _=>rfl) (λ_ _=>rfl) rfl).trans ((vH rfl (Rr (λ_=>rfl) λ_ _=>rfl) (λ_ _=>rfl) rfl).trans ((vH rfl rfl (λ_ _=>rfl) rfl).trans ((vH rfl asC (λ_ _=>rfl) rfl).trans ((vH rfl rfl (λ_ _=>rfl) rfl).trans ((vH rfl rfl (λ_ _=>rfl) rfl).trans ((vH rfl rfl (λ_ _=>rfl) rfl).trans ((vH rfl rfl (λ_ _=>rfl) rfl).trans rfl)))))))))))))).trans rfl)
theorem K_(n:Nat){h:Nat}{m:Int}:gZ (rn (n+2)) (yk 2) [.ax h,.d (.int m)] pm []=some (.ax pm.length,pm++cO pm.length h m,[]):=aq (f17 _)
theorem new2(n:Nat){h:Nat}{m:Int}{tm:List TO}:cJ ((aH (n+2)).new 2) [.ax h,.d (.int m)] ⟨pm,tm⟩=some (.ax pm.length,⟨pm++cO pm.length h m,tm⟩):=aq (K_ n)
end
def kr(c:Int):D:= .tup [.int c,.int 0]
structure gX (k h b:Nat) (aE:Int->Int->Bool) (tw:PV) (aW:List D) (pm:List MO):Prop where
 ex:∃t kn,bZ pm b t h (b+1) 1 true tw 0 [] kn [] aW/\pV aE kn/\kn.length<=3000*k
 ih:pm[h]?=some (.inst 3 bK)
 h9:9<=h
 hb:b=h+1
section
variable{aa ay:List D}{k h b:Nat}{aE:Int->Int->Bool}{tw:PV}{aW:List D}{pm:List MO}{n:Nat}
theorem gX.keep{aA:List MO}(N:gX k h b aE tw aW pm)(kk:gj pm aA):gX k h b aE tw aW aA:=by
 obtain⟨t,kn,R,K,l⟩:=N.ex;have h9:=N.h9;have hb:=N.hb;have ht:=R.ht;have g:∀j,9<=j->aA[j]?=pm[j]?:=λj hj=>kk.2 j () ();refine⟨⟨t,kn,⟨?_,?_,?_,?_,?_,?_,?_,ht,R.hr⟩,K,l⟩,by rw[g h h9];exact N.ih,h9,hb⟩
 ·rw[g b ()];exact R.iI
 ·rw[g (b+1) ()];exact R.iR
 ·rw[g (b+2) ()];exact R.iA
 ·rw[g (b+3) ()];exact R.iK
 ·rw[g t ()];exact R.iT
 ·rw[g (b+6) ()];exact R.iN
 ·rw[g (b+7) ()];exact R.iL
theorem ah.below{aA:List MO}(T:ah pm aa ay)(hb:9<=b)(bl:bL b pm aA):ah aA aa ay:=by
 refine⟨?_,?_,?_,?_,?_,?_,T.rs⟩
 ·rw[bl.2 0 ()];exact T.i0
 ·rw[bl.2 1 ()];exact T.i1
 ·rw[bl.2 2 ()];exact T.i2
 ·rw[bl.2 4 ()];exact T.i4
 ·rw[bl.2 5 ()];exact T.i5
 ·rw[bl.2 6 ()];exact T.i6
theorem gX.wd(N:gX k h b aE tw aW pm)(T:ah pm aa ay):Wd aa ay h pm:=⟨T.i0,T.i1,T.i4,N.ih⟩
theorem Bf{dq:Int->Int->Prop}{mu:Int->Nat}{s t:Int}(HQ:∀s t,dq s t->Em aa ay dq aE mu s t)(q:dq s t)(N:gX k h b aE tw aW pm)(T:ah pm aa ay)(ln:aW.length<=1000)(hk:k<=20)(hm:mu s+mu t<=3)(hn:41<=n):
  ∃aA,rn n 18 [.ax b,.d (.int s),.d (.int t)] pm []=some (.d (.bool (aE s t)),aA,[])/\gX (k+1) h b aE tw aW aA/\ah aA aa ay:=by
 obtain⟨t0,kn,R,K,l⟩:=N.ex;have h9:=N.h9;have hb:=N.hb;have hG:GG (mu s+mu t+1)<=2222:=zL (show mu s+mu t+1<=4 by omega);have A:=K9 (Tu (aa:=aa) (ay:=ay) (b:=b) (h:=h) (ru:=b+1) (bR:=true) (tw:=tw) (aW:=aW) () () () HQ (mu s+mu t+1) (n-(8*(mu s+mu t+1)+9)));rw[show n-(8*(mu s+mu t+1)+9)+8*(mu s+mu t+1)+8+1=n from oc7 ‹_› ‹_›]at A;obtain⟨aA,t',eY,hO,e,R',z,_,_,l',bl⟩:=(A s t q () pm t0 0 [] kn (N.wd T) ⟨R,K,List.nodup_nil,λ_ h=>nomatch h⟩ (by simp;omega) () ()).ex;have z:=z rfl;subst z;exact⟨aA,e,⟨⟨t',hO,R'.R,R'.K,bw l' (ji l (bw hG ∅))⟩,by rw[bl.2 h ()];exact N.ih,h9,hb⟩,T.below () bl⟩
theorem tu{c:Int}(N:gX k h b aE tw aW pm)(T:ah pm aa ay)(ln:aW.length<=1000):
  ∃aA,rn (n+2) 19 [.ax b,.d (.int c)] pm []=some (.d .none,aA,[])/\gX k h b aE tw (aW++[kr c]) aA/\ah aA aa ay:=by
 obtain⟨t,kn,R,K,l⟩:=N.ex;have h9:=N.h9;have hb:=N.hb;have bl:bL b pm (pm.set (b+7) (.list (aW++[kr c]))):= .set ();refine⟨_,f19 n R () c,⟨⟨t,kn,R.Tc _,K,l⟩,?_,h9,hb⟩,T.below () bl⟩;rw[if_pos rfl];exact(bl.2 h ()).trans N.ih
end
section
variable{aa ay:List D}{k h b:Nat}{aE iM:Int->Int->Bool}{tw:PV}{aW:List D}{pm:List MO}
def oj(eZ h ru:Nat):List MO:=[.inst 2 (fQ eZ (eZ+4) h ru 3 false (.d .none) 0),.dict [],.dict [],.dict [],.list [],.list [],.inst 1 [(0,.ax (eZ+7))],.list []]
theorem f23(n:Nat){t:Nat}{as kn:List (D×D)}{tl:List D}(R:bZ pm b t h (b+1) 1 true tw 0 as kn tl aW):rn (n+3) 23 [.ax b,.d (.int 3)] pm []=some (.ax pm.length,pm++oj pm.length h (b+1),[]):=by
 have I:=R.iI;have nb:b<pm.length:=(fX.mp I).1;have I2:∀L:List MO,(pm++L)[b]?=some (.inst 2 (fQ b t h (b+1) 1 true tw 0)):=λL=>by rw[mI nb];exact I
 have g:(pm++cO pm.length h 3)[pm.length]?=some (.inst 2 (fQ pm.length (pm.length+4) h (pm.length+1) 3 true (.d .none) 0)):=m9;have gS:∀x,((pm++cO pm.length h 3).set pm.length x)[pm.length]?=some x:=λx=>by rw[c_ g,if_pos rfl]
 dsimp! [K_ n,I2 _,g,gS _]
 rw[chain];simp[qt,cO,oj,fQ,sQ,qM]
theorem f24(n:Nat){t:Nat}{as kn:List (D×D)}{tl:List D}(R:bZ pm b t h (b+1) 1 true (.d .none) 0 as kn tl aW):rn (n+4) 24 [.ax b] pm []=some (.ax pm.length,(pm++oj pm.length h (b+1)).set b (.inst 2 (fQ b t h (b+1) 1 true (.ax pm.length) 0)),[]):=by
 have I:=R.iI;have nb:b<pm.length:=(fX.mp I).1;have I2:∀L:List MO,(pm++L)[b]?=some (.inst 2 (fQ b t h (b+1) 1 true (.d .none) 0)):=λL=>by rw[mI nb];exact I
 have e:=f23 n R;have I3:∀x,((pm++oj pm.length h (b+1)).set b x)[b]?=some x:=λx=>by rw[c_ (I2 _),if_pos rfl]
 dsimp! [I2 _,I3 _,e]
theorem f20(n:Nat){dq:Int->Int->Prop}{mu:Int->Nat}{s t:Int}(HQ:∀s t,dq s t->uH aa dq iM mu s t)(q:dq s t)(N:gX k h b aE (.d .none) aW pm)(T:ah pm aa ay)(hm:mu s+mu t<=2)(ne:s≠t)(hn:41<=n):
  ∃aA Na,rn n 20 [.ax b,.d (.int s),.d (.int t)] pm []=some (.d (.bool (iM s t)),aA,[])/\gX k h b aE Na aW aA/\ah aA aa ay:=by
 obtain⟨t0,kn,R,K,l⟩:=N.ex;have h9:=N.h9;have hb:=N.hb;have lt:=R.lt;have tlt:t0<pm.length:=(fX.mp R.iT).1;obtain⟨m,rfl⟩:∃m,n=m+5:=⟨n-5,()⟩;have e24:=f24 m R;have I:=R.iI;generalize Nb:(pm++oj pm.length h (b+1)).set b (.inst 2 (fQ b t0 h (b+1) 1 true (.ax pm.length) 0))=dt at e24;have g1:∀j,j<pm.length->j≠b->dt[j]?=pm[j]?:=λj h1 h2=>by rw[<-Nb,bp (Ne.symm h2),mI h1]
 have g2:dt[b]?=some (.inst 2 (fQ b t0 h (b+1) 1 true (.ax pm.length) 0)):=by rw[<-Nb,dz];simp;omega
 have g3:∀j,dt[pm.length+j]?=(oj pm.length h (b+1))[j]?:=λj=>by rw[<-Nb,bp (),ya ()];congr 1;omega
 have R2:bZ dt b t0 h (b+1) 1 true (.ax pm.length) 0 [] kn [] aW:=by
  have ht:=R.ht;refine⟨g2,?_,?_,?_,?_,?_,?_,ht,R.hr⟩
  ·rw[g1 _ () ()];exact R.iR
  ·rw[g1 _ () ()];exact R.iA
  ·rw[g1 _ () ()];exact R.iK
  ·rw[g1 _ () ()];exact R.iT
  ·rw[g1 _ () ()];exact R.iN
  ·rw[g1 _ () ()];exact R.iL
 have Rt:bZ dt pm.length (pm.length+4) h (b+1) 3 false (.d .none) 0 [] [] [] []:=by refine⟨g3 0,?_,g3 2,g3 3,g3 4,g3 6,g3 7,.inl rfl,.inl ()⟩;rw[g1 _ () ()];exact R.iR
 have W2:Wd aa ay h dt:=⟨by rw[g1 _ () ()];exact T.i0,by rw[g1 _ () ()];exact T.i1,by rw[g1 _ () ()];exact T.i4,by rw[g1 _ () ()];exact N.ih⟩;have hG:∀M,M<=3->G3 M<=18626:=λM hM=>by exact(by decide:∀x<4,G3 x<=18626) M (Nat.lt_succ_of_le hM)
 have hG:=hG (mu s+mu t+1) ();have A:=zO (H_ (aa:=aa) (ay:=ay) (b:=pm.length) (h:=h) (ru:=b+1) (bR:=false) (tw:= .d .none) (aW:=[]) (by simp) () () HQ (mu s+mu t+1) (m+4-(8*(mu s+mu t+1)+9)));rw[show m+4-(8*(mu s+mu t+1)+9)+8*(mu s+mu t+1)+8+1=m+4 from oc8 ‹_› ‹_›]at A;unfold G3 at hG;obtain⟨iW,t3,eY,hO,e,_,_,_,_,_,bl⟩:=(A s t q () dt _ 0 [] [] W2 ⟨Rt,(λ_ h=>nomatch h),List.nodup_nil,λ_ h=>nomatch h⟩ (by simp;omega) (by simp;omega) ()).ex;have ne':(s==t)=false:=by simpa using ne
 refine⟨iW,.ax pm.length,?_,⟨⟨t0,kn,?_,K,l⟩,?_,h9,hb⟩,?_⟩
 ·have C:=Rt.iI;have e':rn (m+4) 18 [.ax pm.length,.d (.int s),.d (.int t)] dt []=some (.d (.bool (iM s t)),iW,[]):=e
  dsimp! [C,ne',e24,e']
 ·have ht:=R.ht;refine⟨?_,?_,?_,?_,?_,?_,?_,ht,R.hr⟩
  ·rw[bl.2 _ ()];exact R2.iI
  ·rw[bl.2 _ ()];exact R2.iR
  ·rw[bl.2 _ ()];exact R2.iA
  ·rw[bl.2 _ ()];exact R2.iK
  ·rw[bl.2 _ ()];exact R2.iT
  ·rw[bl.2 _ ()];exact R2.iN
  ·rw[bl.2 _ ()];exact R2.iL
 ·rw[bl.2 _ ()];exact W2.ih
 ·refine ah.below (b:=pm.length) ⟨?_,?_,?_,?_,?_,?_,T.rs⟩ () bl
  ·exact W2.i0
  ·exact W2.i1
  ·rw[g1 _ () ()];exact T.i2
  ·exact W2.i4
  ·rw[g1 _ () ()];exact T.i5
  ·rw[g1 _ () ()];exact T.i6
theorem f30(n:Nat){t:Nat}{as kn:List (D×D)}{tl:List D}(R:bZ pm b t h (b+1) 1 true tw 0 as kn tl aW):rn (n+1) 30 [.ax b] pm []=some (.d (.bool true),pm,[]):=by
 have I:=R.iI
 dsimp! [rfl]
theorem f31(n:Nat){dq:Int->Int->Prop}{mu:Int->Nat}{s t:Int}(HQ:∀s t,dq s t->uH aa dq iM mu s t)(q:s≠t->dq s t)(N:gX k h b aE (.d .none) aW pm)(T:ah pm aa ay)(hm:mu s+mu t<=2)(MV:s≠13)(t13:t≠13)(ln:aW.length<=1000)(hn:42<=n):
  ∃aA Na,rn n 31 [.ax b,.d (.int s),.d (.int t)] pm []=some (.d .none,aA,[])/\gX k h b aE Na (if s=t\/iM s t=true then aW else aW++[kr 3]) aA/\ah aA aa ay:=by
 obtain⟨m,rfl⟩:∃m,n=m+3:=⟨n-3,()⟩;obtain⟨t0,kn,R,K,l⟩:=N.ex;have I:=R.iI;have e30:=f30 (m+1) R;have Bb:(s==13)=false:=by simpa using MV
 have E5:(t==13)=false:=by simpa using t13
 by_cases e:s=t
 ·subst e;rw[if_pos (.inl rfl)];have K':rn (m+2) 20 [.ax b,.d (.int s),.d (.int s)] pm []=some (.d (.bool true),pm,[]):=by
   have z:(s==s)=true:=beq_self_eq_true _;rw[<-z]
   dsimp! [z]
  refine⟨pm,_,?_,N,T⟩
  dsimp! [e30,mU Bb,K']
 ·obtain⟨fR,tw1,K',N1,T1⟩:=f20 (m+2) HQ (q e) N T hm e ();cases ha:iM s t with
  |true=>
   rw[ha]at K';rw[if_pos (.inr rfl)];refine⟨fR,tw1,?_,N1,T1⟩
   dsimp! [e30,mU Bb,mU E5,K']
  |false=>
   rw[ha]at K';rw[if_neg (by simp[e])];obtain⟨dt,e19,N2,T2⟩:=tu (n:=m) (c:=3) N1 T1 ln;obtain⟨t1,Tq,R1,_,_⟩:=N1.ex;have I1:=R1.iI;refine⟨dt,tw1,?_,N2,T2⟩
   dsimp! [I1,e30,mU Bb,mU E5,K',e19]
end
theorem Ie(a b:Int):(a==b)=decide (a=b):=by by_cases h:a=b<;>simp[h]
def cq(pid kn tp opt ro:Int):List D:=[.int 17,.int pid,.int kn,.int (-1),.int tp,.int opt,.int ro]
def iX(o:Int):Int:=if o=2 then-1 else o
def kq(A B:Ty)(want gu:Int):Int×Int:=match A,B with
 | .ko x,.ko y=>(x,y)
 |_,_=>(want,gu)
def wt(o1 r1 o2 r2:Int):List D:=(if (r1=1/\r2≠1)\/(r1=0/\r2=2)then[kr 4]else[])++(if o1≠o2/\r2≠1 then[kr 3]else[])
theorem ix{c:Prop} [Decidable c] {x:D}:(if c then[x]else([]:List D)).length<=1:=by split<;>simp
section
variable{aa ay:List D}{k h b:Nat}{aE iM:Int->Int->Bool}{tw:PV}{aW:List D}{pm:List MO}
theorem f57(n:Nat){o:Int}:rn (n+1) 57 [.d (.int o)] pm []=some (.d (.int (iX o)),pm,[]):=by
 unfold iX;have t:=v_ (X:=aH n) (σ:=⟨pm,[]⟩) (ls:=[some (.d (.int o))]) (a:= .loc 0) (b:= .lit (.int 2)) (i:=o) (j:=2) rfl rfl;rw[Ie]at t;by_cases e:o=2
 ·rw[if_pos e];rw[eM e]at t;exact jK (F:=⟨1,1,Me⟩) (v:= .d (.int (-1))) rfl rfl rfl (bS (fy (iV t rfl))) rfl
 ·rw[if_neg e];rw[dS e]at t;exact jK (F:=⟨1,1,Me⟩) (v:= .d (.int o)) rfl rfl rfl (bS (fy (hZ t rfl))) rfl
def Ty.gB:Ty->Bool
 | .ko _=>true
 |_=>false
theorem yq(T:Ty):(T.kind==14)=T.gB:=by cases T<;>rfl
theorem zU{T:Ty}(h:T.gB=true):∃x,T= .ko x:=by cases T<;>first|exact⟨_,rfl⟩|cases h
theorem TC{A B:Ty}{w v:Int}(h:(A.gB&&B.gB)=false):kq A B w v=(w,v):=by cases A<;>first|rfl|(cases B<;>first|rfl|cases h)
theorem f58(n:Nat){dq:Int->Int->Prop}{mu:Int->Nat}{want gu:Int}{A B:Ty}(HQ:∀s t,dq s t->Em aa ay dq aE mu s t)(N:gX k h b aE tw aW pm)(T:ah pm aa ay)(ln:aW.length<=1000)(hk:k<=20)(yA:aD aa gu A)(yB:aD aa want B)
  (q:dq (kq A B want gu).1 (kq A B want gu).2) (hm:mu (kq A B want gu).1+mu (kq A B want gu).2<=3) (hn:42<=n):
  ∃aA,rn n 58 [.ax b,.d (.int want),.d (.int gu)] pm []=some (.d (.bool (aE (kq A B want gu).1 (kq A B want gu).2)),aA,[])/\gX (k+1) h b aE tw aW aA/\ah aA aa ay:=by
 obtain⟨m,rfl⟩:∃m,n=m+1:=⟨n-1,()⟩;obtain⟨aA,e,N',T'⟩:=Bf HQ q N T ln hk hm (n:=m) ();refine⟨aA,?_,N',T'⟩;clear N' T' HQ q hm;obtain⟨t0,kn,R,K,l⟩:=N.ex;have tx:∀{ls:Ls},ls[0]?= ~~~(.ax b)->eval (aH m) MN ls ⟨pm,[]⟩=some (.ax 1,⟨pm,[]⟩):=λh0=>zJ h0 R.iI rfl N.ih T.i0;have i9:gh ⟨pm,[]⟩ (.ax b)=some 2:=(congrArg (ai EF) R.iI).trans rfl;refine jK (F:=⟨3,5,SF⟩) (Ek:=[some (.ax b),some (.d (.int want)),some (.d (.int gu)),none,none]) (v:= .d (.bool (aE (kq A B want gu).1 (kq A B want gu).2))) (ls:=[some (.ax b),some (.d (.int want)),some (.d (.int gu)),some (.d (.tup A.row)),some (.d (.tup B.row))]) (σ:=⟨aA,[]⟩) rfl rfl rfl
  (sk (bB (cY (tx rfl) (ak rfl) (yA.get T.i1))) (sk (bB (cY (tx rfl) (ak rfl) (yB.get T.i1))) ?_)) rfl
 cases c:A.gB&&B.gB with
 |true=>
  obtain⟨c1,c2⟩:=ku.mp c;obtain⟨x,rfl⟩:=zU c1;obtain⟨y,rfl⟩:=zU c2;exact bS (bI (mR (b:=true) (c:=true) rfl rfl) (bS (fy (mO (ak rfl) i9 rfl (au rfl (au rfl bo)) (bX rfl e)))))
 |false=>
  rw[TC c]at e⊢;exact sk (aS ((mR (v_ (cY (ak rfl) aG (mW A)) rfl) (v_ (cY (ak rfl) aG (mW B)) rfl)).trans (by rw[yq,yq,c])) aP) (bS (fy (mO (ak rfl) i9 rfl (au (ak rfl) (au (ak rfl) bo)) (bX rfl e))))
abbrev TF (c:E) (g:Nat):S:= .ite c #[.expr (.aR 'a' 9 #[.glob g])] .nil
theorem iy{n:Nat}{c:E}{g:Nat}{code:Int}{v:Bool}{ls:Ls}(h0:ls[0]?= ~~~(.ax b))(hg:lW g=some (.int code))(ht:test (aH (n+2)) c ls ⟨pm,[]⟩=some (v,⟨pm,[]⟩))(N:gX k h b aE tw aW pm)(T:ah pm aa ay)(ln:aW.length<=1000):
  ∃aA,exec (aH (n+2)) (TF c g) ls ⟨pm,[]⟩=some (.next,ls,⟨aA,[]⟩)/\gX k h b aE tw (aW++(if v then[kr code]else[])) aA/\ah aA aa ay:=by
 cases v with
 |false=>
  rw[jf,ei];exact⟨pm,aS ht aP,N,T⟩
 |true=>
  rw[lM];obtain⟨aA,e,N',T'⟩:=tu (n:=n) (c:=code) N T ln;refine⟨aA,bI ht ?_,N',T'⟩;obtain⟨t0,kn,R,K,l⟩:=N.ex;have I:=R.iI;have hgl:eval (aH (n+2)) (.glob g) ls ⟨pm,[]⟩=some (.d (.int code),⟨pm,[]⟩):=aq hg;have ev:=mO (X:=aH (n+2)) (m:=9) (C:=2) (f:=19) (ak (σ:=⟨pm,[]⟩) h0) (aq I) rfl (au hgl bo) (bX rfl e);rw[av (qj ev rfl),aP]
theorem Bg{p:Prop} [Decidable p] {v:Bool}{x y:List D}(h:v=true<->p):(if v=true then x else y)=if p then x else y:=by
 cases v with
 |true=>rw[if_pos rfl,if_pos (h.mp rfl)]
 |false=>rw[if_neg ∅,if_neg λz=>nomatch h.mpr z]
theorem TG(r1 r2:Int):((r1==1&&!(r2==1))||(r1==0&&r2==2))=true<->(r1=1/\r2≠1)\/(r1=0/\r2=2):=by simp
theorem n60b(o1 o2 r2:Int):(!(o1==o2)&&!(r2==1))=true<->o1≠o2/\r2≠1:=by simp
theorem f60(n:Nat){p1 k1 t1 o1 r1 p2 k2 t2 o2 r2:Int}(N:gX k h b aE tw aW pm)(T:ah pm aa ay)(ln:aW.length<=900):
  ∃aA,rn (n+3) 60 [.ax b,.d (.tup (cq p1 k1 t1 o1 r1)),.d (.tup (cq p2 k2 t2 o2 r2))] pm []=some (.d .none,aA,[])/\gX k h b aE tw (aW++wt o1 r1 o2 r2) aA/\ah aA aa ay:=by
 obtain⟨fR,e1,N1,T1⟩:=iy (n:=n) (c:= .or #[.and #[.cmp .eq (.sub 'b' 6.0) 1.0,.cmp .ne (.sub 'c' 6.0) 1.0],.and #[.cmp .eq (.sub 'b' 6.0) 0.0,.cmp .eq (.sub 'c' 6.0) 2.0]]) (g:=39) (code:=4) (ls:=[some (.ax b),some (.d (.tup (cq p1 k1 t1 o1 r1))),some (.d (.tup (cq p2 k2 t2 o2 r2)))]) rfl rfl (tOr (mR (v_ (i:=r1) (j:=1) rfl rfl) (SV (i:=r2) (j:=1) rfl rfl)) (mR (v_ (i:=r1) (j:=0) rfl rfl) (v_ (i:=r2) (j:=2) rfl rfl))) N T ();obtain⟨dt,e2,N2,T2⟩:=iy (n:=n) (c:= .and #[.cmp .ne (.sub 'b' 5.0) (.sub 'c' 5.0),.cmp .ne (.sub 'c' 6.0) 1.0]) (g:=26) (code:=3) (ls:=[some (.ax b),some (.d (.tup (cq p1 k1 t1 o1 r1))),some (.d (.tup (cq p2 k2 t2 o2 r2)))]) rfl rfl (mR (SV (i:=o1) (j:=o2) rfl rfl) (SV (i:=r2) (j:=1) rfl rfl)) N1 T1 (by rw[eh,Bg (TG r1 r2)];have:=ix (c:=(r1=1/\r2≠1)\/(r1=0/\r2=2)) (x:=kr 4);omega);refine⟨dt,EW (F:=⟨3,3,SG⟩) rfl rfl rfl (sk e1 (sk e2 aP)) rfl,?_,T2⟩;rw[Bg (TG r1 r2),Bg (n60b o1 o2 r2),eI]at N2;exact N2
end
theorem Ig{σ:PS}(A:Ty):compare .isin (.d (.int A.kind)) (.d (.tup [.int 14,.int 7])) σ=some A.gB:=by cases A<;>rfl
theorem n61a(o:Int)(a:Bool):(o==2||(o==0&&!a))=true<->o=2\/(o=0/\a=false):=by simp
theorem n61b(o r:Int)(a:Bool):(o==0&&(a&&!(r==1)))=true<->o=0/\a=true/\r≠1:=by simp
theorem n61c(r1 r2:Int)(a b:Bool):(!b&&(r1==0&&(r2==0&&a)))=true<->b=false/\r1=0/\r2=0/\a=true:=by simp
def uO(Fb pW La:Bool)(o2 r1 r2:Int):List D:=if Fb then[]else
 (if o2=2\/(o2=0/\pW=false)then[kr 11]else[])++((if o2=0/\pW=true/\r2≠1 then[kr 3]else[])++(if pW=false/\r1=0/\r2=0/\La=true then[kr 4]else[]))
section
variable{aa ay:List D}{k h b:Nat}{aE iM:Int->Int->Bool}{tw:PV}{aW:List D}{pm:List MO}
theorem gX.up{k':Nat}(N:gX k h b aE tw aW pm)(hk:k<=k'):gX k' h b aE tw aW pm:=by obtain⟨t,kn,R,K,l⟩:=N.ex;exact⟨⟨t,kn,R,K,()⟩,N.ih,N.h9,N.hb⟩
theorem f59(n:Nat){dq:Int->Int->Prop}{mu:Int->Nat}{p1 k1 t1 o1 r1 p2 k2 t2 o2 r2:Int}{A B:Ty}(HQ:∀s t,dq s t->Em aa ay dq aE mu s t)(N:gX k h b aE tw aW pm)(T:ah pm aa ay)(ln:aW.length<=1000)(hk:k<=20)(yA:aD aa k1 A)(yB:aD aa k2 B)
  (q:dq (kq A B k2 k1).1 (kq A B k2 k1).2) (hm:mu (kq A B k2 k1).1+mu (kq A B k2 k1).2<=3) (hn:43<=n):
  ∃aA,rn n 59 [.ax b,.d (.tup (cq p1 k1 t1 o1 r1)),.d (.tup (cq p2 k2 t2 o2 r2))] pm []=some (.d (.bool (!decide (iX o2<iX o1)&&aE (kq A B k2 k1).1 (kq A B k2 k1).2)),aA,[])/\gX (k+1) h b aE tw aW aA/\ah aA aa ay:=by
 obtain⟨m,rfl⟩:∃m,n=m+2:=⟨n-2,()⟩;obtain⟨aA,e,N',T'⟩:=f58 (m+1) HQ N T ln hk yA yB q hm ();obtain⟨t0,kn,R,K,l⟩:=N.ex;have I:=R.iI;have c1:=f57 (pm:=pm) m (o:=o1);have c2:=f57 (pm:=pm) m (o:=o2);have s1:exec (aH (m+1)) (.ite (.cmp .eq (.attr 'a' 21) (.glob 20)) #[.bad,.bad] .nil) [some (.ax b),some (.d (.tup (cq p1 k1 t1 o1 r1))),some (.d (.tup (cq p2 k2 t2 o2 r2)))] ⟨pm,[]⟩=some (.next,[some (.ax b),some (.d (.tup (cq p1 k1 t1 o1 r1))),some (.d (.tup (cq p2 k2 t2 o2 r2)))],⟨pm,[]⟩):=aS (v_ (i:=1) (j:=3) (v9 (ak rfl) I rfl) rfl) aP;have tt:=mR (X:=aH (m+1)) (σ:=⟨pm,[]⟩) (ls:=[some (.ax b),some (.d (.tup (cq p1 k1 t1 o1 r1))),some (.d (.tup (cq p2 k2 t2 o2 r2)))]) (e:= .cmp .ne (.attr 'a' 21) (.glob 21)) (e2:= .cmp .gt (.call 57 #[.sub 'b' 5.0]) (.call 57 #[.sub 'c' 5.0])) (SV (i:=1) (j:=2) (v9 (ak rfl) I rfl) rfl) (Z_ (b_ (vs:=[.d (.int o1)]) rfl (bX rfl c1)) (b_ (vs:=[.d (.int o2)]) rfl (bX rfl c2)));by_cases z:iX o2<iX o1
 ·rw[eM z]at tt⊢;exact⟨pm,jK (F:=⟨3,3,Mf⟩) (v:= .d (.bool false)) rfl rfl rfl (sk s1 (bS (bI tt rfl))) rfl,N.up (),T⟩
 ·rw[dS z]at tt⊢;exact⟨aA,jK (F:=⟨3,3,Mf⟩) rfl rfl rfl (sk s1 (sk (aS tt aP) (bS (fy (b_ (vs:=[.ax b,.d (.int k2),.d (.int k1)]) rfl (bX rfl e)))))) rfl,N',T'⟩
abbrev wu (b:Nat) (l1 l2:List D) (x3 x4:Option PV):Ls:=[some (.ax b),some (.d (.tup l1)),some (.d (.tup l2)),x3,x4]
theorem f61(n:Nat){p1 k1 t1 o1 r1 p2 k2 t2 o2 r2:Int}{A B:Ty}(N:gX k h b aE tw aW pm)(T:ah pm aa ay)(ln:aW.length<=900)(yA:aD aa k1 A)(yB:aD aa k2 B):
  ∃aA,rn (n+3) 61 [.ax b,.d (.tup (cq p1 k1 t1 o1 r1)),.d (.tup (cq p2 k2 t2 o2 r2))] pm []=some (.d .none,aA,[])/\gX k h b aE tw (aW++uO (decide (k1=k2)) B.gB A.gB o2 r1 r2) aA/\ah aA aa ay:=by
 obtain⟨t0,kn,R,K,l⟩:=N.ex;have te:=v_ (X:=aH (n+2)) (σ:=⟨pm,[]⟩) (ls:=(wu b (cq p1 k1 t1 o1 r1) (cq p2 k2 t2 o2 r2) none none)) (a:= .sub 'b' 2.0) (b:= .sub 'c' 2.0) (i:=k1) (j:=k2) rfl rfl;rw[Ie]at te;unfold uO;by_cases e:k1=k2
 ·rw[eM e]at te⊢;rw[if_pos rfl,ei];exact⟨pm,jK (F:=⟨3,5,Mg⟩) (v:= .d .none) rfl rfl rfl (bS (bI te rfl)) rfl,N,T⟩
 rw[dS e]at te⊢;clear e;have s2:exec (aH (n+2)) (.asg 3 MN) (wu b (cq p1 k1 t1 o1 r1) (cq p2 k2 t2 o2 r2) none none) ⟨pm,[]⟩=some (.next,(wu b (cq p1 k1 t1 o1 r1) (cq p2 k2 t2 o2 r2) (some (.ax 1)) none),⟨pm,[]⟩):=bB (zJ rfl R.iI rfl N.ih T.i0);have f_:exec (aH (n+2)) (.asg 4 (.cmp .eq (.sub (.sub 'd' (.sub 'c' 2.0)) 0.0) (.glob 37))) (wu b (cq p1 k1 t1 o1 r1) (cq p2 k2 t2 o2 r2) (some (.ax 1)) none) ⟨pm,[]⟩=some (.next,(wu b (cq p1 k1 t1 o1 r1) (cq p2 k2 t2 o2 r2) (some (.ax 1)) (some (.d (.bool B.gB)))),⟨pm,[]⟩):=by rw[<-yq];exact bB (SW (cY (cY (ak rfl) rfl (yB.get T.i1)) aG (mW B)) rfl)
 obtain⟨fR,e1,N1,T1⟩:=iy (n:=n) (c:= .or #[.cmp .eq (.sub 'c' 5.0) 2.0,.and #[.cmp .eq (.sub 'c' 5.0) 0.0,.nt 'e']]) (g:=44) (code:=11) (ls:=(wu b (cq p1 k1 t1 o1 r1) (cq p2 k2 t2 o2 r2) (some (.ax 1)) (some (.d (.bool B.gB))))) rfl rfl
  (tOr (v_ (i:=o2) (j:=2) rfl rfl) (mR (v_ (i:=o2) (j:=0) rfl rfl) (MG (lJ rfl)))) N T ()
 rw[Bg (n61a o2 B.gB)]at N1;have l1:=ix (c:=o2=2\/(o2=0/\B.gB=false)) (x:=kr 11);obtain⟨dt,e2,N2,T2⟩:=iy (n:=n) (c:= .and #[.cmp .eq (.sub 'c' 5.0) 0.0,'e',.cmp .ne (.sub 'c' 6.0) 1.0]) (g:=26) (code:=3) (ls:=(wu b (cq p1 k1 t1 o1 r1) (cq p2 k2 t2 o2 r2) (some (.ax 1)) (some (.d (.bool B.gB))))) rfl rfl
  (ET (v_ (i:=o2) (j:=0) rfl rfl) (mR (lJ rfl) (SV (i:=r2) (j:=1) rfl rfl))) N1 T1 (by rw[eh];exact bw (ji ln l1) ∅)
 rw[Bg (n61b o2 r2 B.gB)]at N2;have l2:=ix (c:=o2=0/\B.gB=true/\r2≠1) (x:=kr 3);obtain⟨iW,e3,N3,T3⟩:=iy (n:=n) (c:= .and #[.nt 'e',.cmp .eq (.sub 'b' 6.0) 0.0,.cmp .eq (.sub 'c' 6.0) 0.0,.cmp .isin (.sub (.sub 'd' (.sub 'b' 2.0)) 0.0) (.tup #[.glob 37,.glob 32])]) (g:=39) (code:=4) (ls:=(wu b (cq p1 k1 t1 o1 r1) (cq p2 k2 t2 o2 r2) (some (.ax 1)) (some (.d (.bool B.gB))))) rfl rfl
  (ET (MG (lJ rfl)) (ET (v_ (i:=r1) (j:=0) rfl rfl) (mR (v_ (i:=r2) (j:=0) rfl rfl) (tOf rfl (bW (cY (cY (ak rfl) rfl (yA.get T2.i1)) aG (mW A)) rfl (Ig A)))))) N2 T2 (by rw[eh,eh];exact bw (ji (ji ln l1) l2) ∅)
 rw[Bg (n61c r1 r2 A.gB B.gB),eI,eI]at N3;exact⟨iW,EW (F:=⟨3,5,Mg⟩) rfl rfl rfl (sk (aS te aP) (sk s2 (sk f_ (sk e1 (sk e2 (sk e3 aP)))))) rfl,N3,T3⟩
end
section
variable{aa ay:List D}{k h b:Nat}{aE iM:Int->Int->Bool}{tw:PV}{aW:List D}{pm:List MO}
def Bh(n6 n7:List D)(r2:Int)(wide:Bool):List D:=n6++(n7++(if r2≠1/\wide=true then[kr 3]else[]))
theorem l60(o1 r1 o2 r2:Int):(wt o1 r1 o2 r2).length<=2:=by unfold wt;rw[eh];exact ji ix ix
theorem l61(a c d:Bool)(o2 r1 r2:Int):(uO a c d o2 r1 r2).length<=3:=by
 unfold uO;split
 ·simp
 ·rw[eh,eh];exact ji ix (ji ix ix)
theorem f62(n:Nat){S:List D×Int}{v v2:Bool}{dq zV Ih:Int->Int->Prop}{mu zW Ii:Int->Nat}{p1 k1 t1 o1 r1 p2 k2 t2 o2 r2 o:Int}{A B:Ty}(hS:jl aa o t1=S)(hv:(!decide (iX o2<iX o1)&&aE (kq A B k2 k1).1 (kq A B k2 k1).2)=v)(Ij:aE S.2 t2=v2)(N:gX k h b aE (.d .none) [] pm)(T:ah pm aa ay)(hk:k<=10)
  (yA:aD aa k1 A) (yB:aD aa k2 B) (yo:aD aa o (.par p2)) (tm:Ib aa p1 o t1) (lr:aa.length<=800000)
  (HQ:∀s t,dq s t->Em aa ay dq aE mu s t) (q:dq (kq A B k2 k1).1 (kq A B k2 k1).2) (hm:mu (kq A B k2 k1).1+mu (kq A B k2 k1).2<=3)
  (Nc:∀s t,zV s t->Em S.1 ay zV aE zW s t) (q':zV S.2 t2) (ym:zW S.2+zW t2<=3)
  (HQ3:aE S.2 t2=true->∀s t,Ih s t->uH S.1 Ih iM Ii s t) (q3:S.2≠t2->Ih S.2 t2) (hm3:Ii S.2+Ii t2<=2)
  (TH:S.2≠13) (Nd:t2≠13) (yA':aD S.1 k1 A) (yB':aD S.1 k2 B) (hn:50<=n):
  ∃aA Na rf,rn n 62 [.ax b,.d (.tup (cq p1 k1 t1 o1 r1)),.d (.tup (cq p2 k2 t2 o2 r2))] pm []=some (.d (.bool (v&&v2)),aA,[])/\
   gX (k+2) h b aE Na (if v&&v2 then Bh (wt o1 r1 o2 r2) (uO (decide (k1=k2)) B.gB A.gB o2 r1 r2) r2 (!decide (S.2=t2\/iM S.2 t2=true))else[]) aA/\ah aA rf ay/\(rf=aa\/rf=S.1):=by
 obtain⟨m,rfl⟩:∃m,n=m+1:=⟨n-1,()⟩;refine Z' λG hG=>?_;obtain⟨fR,e1,N1,T1⟩:=f59 m HQ N T (by simp) () yA yB q hm () (p1:=p1) (t1:=t1) (o1:=o1) (r1:=r1) (p2:=p2) (t2:=t2) (o2:=o2) (r2:=r2);clear HQ q hm yA yB N T;rw[hv]at e1;clear hv;cases v with
 |false=>exact hG ⟨fR,.d .none,aa,by dsimp! [e1],N1.up (),T1,.inl rfl⟩
 |true=>
  obtain⟨t1',Tq,R1,K1,l1⟩:=N1.ex;obtain⟨dt,e2,T2,kp2⟩:=M4 (m-2) T1 yo ();rw[show m-2+2=m by omega]at e2;have N2:=N1.keep kp2;obtain⟨iW,e3,T3,kp3⟩:=f69 (n:=m-7) N1.h9 T2 N2.ih tm ();rw[show m-7+7=m by omega,hS]at e3;rw[hS]at T3;have N3:=N2.keep kp3;obtain⟨qT,e4,N4,T4⟩:=Bf Nc q' N3 T3 (by simp) () ym (n:=m) ();obtain⟨t3',kn3,R3,K3,l3⟩:=N3.ex;have I1:=R1.iI;have I3:=R3.iI;have Ia:=N1.ih;clear R1 R3 Nc q' ym tm yo T1 T2 T3 N2 N3 kp2 kp3;rw[Ij]at e4;cases v2 with
  |false=>
   exact hG ⟨qT,.d .none,_,by dsimp! [e1,I1,Ia,e2,dn rfl rfl rfl e3 rfl,I3,e4],N4,T4,.inr rfl⟩
  |true=>
   obtain⟨En,e5,N5,T5⟩:=f60 (m-3) N4 T4 (by simp) (p1:=p1) (k1:=k1) (t1:=t1) (o1:=o1) (r1:=r1) (p2:=p2) (k2:=k2) (t2:=t2) (o2:=o2) (r2:=r2);obtain⟨K8,e6,N6,T6⟩:=f61 (m-3) N5 T5 (by have:=l60 o1 r1 o2 r2;rw[List.nil_append];omega) yA' yB' (p1:=p1) (t1:=t1) (o1:=o1) (r1:=r1) (p2:=p2) (t2:=t2) (o2:=o2) (r2:=r2);rw[show m-3+3=m by omega]at e5 e6;have l6:([]++wt o1 r1 o2 r2++uO (decide (k1=k2)) B.gB A.gB o2 r1 r2).length<=5:=by have:=l60 o1 r1 o2 r2;have:=l61 (decide (k1=k2)) B.gB A.gB o2 r1 r2;rw[eh,List.nil_append];omega
   clear N1 N4 N5 T4 T5 yA' yB';rw[List.nil_append]at N6 l6;by_cases c1:r2=1
   ·have d1:=ky (fg.mpr c1:(r2==1)=true);refine hG ⟨K8,.d .none,_,by dsimp! [e1,I1,Ia,e2,dn rfl rfl rfl e3 rfl,I3,e4,e5,e6,d1],?_,T6,.inr rfl⟩;unfold Bh;rw[Bool.and_self,if_pos rfl,if_neg (λz=>z.1 c1),ei];exact N6
   ·have d1:=mU (beq_eq_false_iff_ne.mpr c1:(r2==1)=false);obtain⟨pm7,tw7,e7,N7,T7⟩:=f31 m (HQ3 Ij) q3 N6 T6 hm3 TH Nd () ();refine hG ⟨pm7,tw7,_,by dsimp! [e1,I1,Ia,e2,dn rfl rfl rfl e3 rfl,I3,e4,e5,e6,d1,e7],?_,T7,.inr rfl⟩;unfold Bh;rw[Bool.and_self,if_pos rfl];by_cases c2:S.2=t2\/iM S.2 t2=true
    ·rw[if_pos c2]at N7;rw[eM c2,if_neg (λz=>nomatch z.2),ei];exact N7
    ·rw[if_neg c2,eI]at N7;rw[dS c2,if_pos ⟨c1,rfl⟩];exact N7
end
def ej(s:Int):Ty->Bool
 | .ko x=>x==s
 |_=>false
def Fc(s:Int)(K:Ty)(o2 r2:Int):List D:=(if r2=2\/(r2=0/\ej s K=false)then[kr 4]else[])++((if o2=1/\r2≠1 then[kr 3]else[])++(if o2=0/\ej s K=false then[kr 5]else[]))
theorem yr{s:Int}{K:Ty}:ej s K=true<->K= .ko s:=by
 cases K with
 |ko x=>exact fg.trans ⟨λh=>congrArg Ty.ko h,Ty.ko.inj⟩
 |_=>exact⟨λh=>noB h,λh=>Ty.noConfusion h⟩
theorem Nf(K:Ty)(s:Int):j7 K.row [.int 14,.int s]=ej s K:=by cases K<;>first|rfl|exact Bool.and_true _
theorem m_:∀l:List Int,dW (l.map .int)=0
 |[]=>rfl
 |x::l=>by show max (dj (.int x)) (dW (l.map .int))=0;rw[m_ l];rfl
theorem Ng(K:Ty):qg (.tup K.row)=true:=by cases K<;>first|rfl|exact(Bool.and_true _).trans (kB _)
theorem Nh(K:Ty):dj (.tup K.row)<=5:=by cases K<;>first|exact gY rfl|(show max 0 (max (dW (List.map D.int _)+1) 0)+1<=5;rw[m_];exact gY rfl)
section
variable{aa ay:List D}{k h b:Nat}{aE iM:Int->Int->Bool}{tw:PV}{aW:List D}{pm:List MO}
theorem XC(n:Nat){c:Int}{r:List D}(hc:(c==8)=false):rn (n+1) 50 [.d (.tup (.int c::r))] pm []=some (.d (.bool false),pm,[]):=by
 rw[<-hc]
 dsimp! [hc]
theorem f53(n:Nat){s kk:Int}{K:Ty}(T:ah pm aa ay)(y:aD aa kk K):rn (n+1) 53 [.ax 0,.d (.int s),.d (.int kk)] pm []=some (.d (.bool (ej s K)),pm,[]):=by
 have q7:(K.kind==7)=false:=by cases K<;>rfl
 have rd:=Ng K;have dp:=Nh K;have g:(qg (.tup K.row)&&qg (.tup [.int 14,.int s])&&Nat.ble (min (dj (.tup K.row)) (dj (.tup [.int 14,.int s]))) 50)=true:=by rw[rd,SU (by have:=Nat.min_le_left (dj (.tup K.row)) (dj (.tup [.int 14,.int s]));omega)];rfl
 rw[<-Nf]
 dsimp! [mX _,q7,↑g]
theorem f55(n:Nat){s p:Int}(T:ah pm aa ay)(ih:pm[h]?=some (.inst 3 bK))(y:aD aa s (.par p)):rn (n+1) 55 [.ax h,.d (.int s)] pm []=some (.d (.bool true),pm,[]):=by dsimp! [rfl]
theorem f52(n:Nat){s p kk ks:Int}(N:gX k h b aE tw aW pm)(T:ah pm aa ay)(ln:aW.length<=1000)(lr:aa.length<=800000)(y:aD aa s (.par p))(z:aD aa ks (.ko s))(hn:6<=n):
  ∃aA,rn n 52 [.ax b,.d (.int s),.d (.int kk)] pm []=some (.d .none,aA,[])/\gX k h b aE tw (aW++(if kk≠ks then[kr 5]else[])) aA/\ah aA aa ay:=by
 obtain⟨m,rfl⟩:∃m,n=m+3:=⟨n-3,()⟩;obtain⟨t0,kn,R,K,l⟩:=N.ex;have I:=R.iI;have ih:=N.ih;obtain⟨fR,e1,T1,K1⟩:=Xz m T ih (E6 s) ();rw[show(D.tup [.int 14,.int s])= .tup (Ty.row (.ko s))from rfl,mZ T.rs z]at e1 T1;have N1:=N.keep K1;obtain⟨t1,Tq,R1,_,_⟩:=N1.ex;have I1:=R1.iI;have Ia:=N1.ih;have e1:rn (m+2) 64 [.ax h,.d (.tup [.int 14,.int s])] pm []=some (.d (.int ks),fR,[]):=e1;by_cases c:kk=ks
 ·rw[if_neg (by simpa using c),ei];refine⟨fR,?_,N1,T1⟩
  dsimp! [e1,(fg.mpr c:(kk==ks)=true)]
 ·rw[if_pos c];obtain⟨dt,e2,N2,T2⟩:=tu (n:=m) (c:=5) N1 T1 ln;refine⟨dt,?_,N2,T2⟩
  dsimp! [I1,Ia,e1,(beq_eq_false_iff_ne.mpr c:(kk==ks)=false),T1.i0,T1.i1,e2]
end
section
variable{aa ay:List D}{k h b:Nat}{aE iM:Int->Int->Bool}{tw:PV}{aW:List D}{pm:List MO}
theorem TJ(R:cz aa){kk ks s:Int}{K:Ty}(y:aD aa kk K)(z:aD aa ks (.ko s)):(kk=ks)<->ej s K=true:=by
 rw[yr];constructor
 ·intro e;subst e;have a:=y.at_;rw[z.at_]at a;have a:=D.tup.inj (fh a);cases K with
  |ko x=>exact congrArg Ty.ko (D.int.inj (List.cons.inj (List.cons.inj a).2).1).symm
  |_=>exact absurd (D.int.inj (List.cons.inj a).1) ∅
 ·intro e;subst e;have:=qZ R.nd y.at_ z.at_;exact ob1 this y.nn z.nn
theorem f54(n:Nat){s p kk ks p2 t2 o2 r2:Int}{K:Ty}(N:gX k h b aE tw aW pm)(T:ah pm aa ay)(ln:aW.length<=900)(lr:aa.length<=800000)(y:aD aa s (.par p))(z:aD aa ks (.ko s))(yK:aD aa kk K)(hn:10<=n):
  ∃aA,rn n 54 [.ax b,.d (.int s),.d (.tup (cq p2 kk t2 o2 r2))] pm []=some (.d (.bool true),aA,[])/\gX k h b aE tw (aW++Fc s K o2 r2) aA/\ah aA aa ay:=by
 obtain⟨m,rfl⟩:∃m,n=m+3:=⟨n-3,()⟩;obtain⟨t0,kn,R,_,_⟩:=N.ex;have I:=R.iI;have ih:=N.ih;have e53:=f53 (m+1) (s:=s) T yK;have e55:=f55 (m+1) T ih y;let ls:Ls:=[some (.ax b),some (.d (.int s)),some (.d (.tup (cq p2 kk t2 o2 r2))),some (.d (.bool (decide (r2=0)&&ej s K)))];have s1:exec (aH (m+2)) (.asg 3 (.and #[.cmp .eq (.sub 'c' 6.0) 0.0,.call 53 #[.attr (.attr 'a' 22) 23,'b',.sub 'c' 2.0]])) [some (.ax b),some (.d (.int s)),some (.d (.tup (cq p2 kk t2 o2 r2))),none] ⟨pm,[]⟩=some (.next,ls,⟨pm,[]⟩):=by
  simp only[ls];rw[<-Ie];cases c:(r2==0)
  ·refine Eq.trans (b:=some (.next,[some (.ax b),some (.d (.int s)),some (.d (.tup (cq p2 kk t2 o2 r2))),some (.d (.bool (r2==0)))],⟨pm,[]⟩)) ?_ (by rw[c];rfl)
   dsimp! [c]
  ·dsimp! [c,e53]
 have ta:test (aH (m+2)) (.or #[.cmp .eq (.sub 'c' 6.0) 2.0,.and #[.cmp .eq (.sub 'c' 6.0) 0.0,.nt 'd',.call 55 #[.attr 'a' 22,'b']]]) ls ⟨pm,[]⟩=some (decide (r2=2\/(r2=0/\ej s K=false)),⟨pm,[]⟩):=by
  by_cases c1:r2=2
  ·rw[eM (.inl c1)]
   dsimp! [(fg.mpr c1:(r2==2)=true)]
  have d1:(r2==2)=false:=beq_eq_false_iff_ne.mpr c1;by_cases c2:r2=0
  ·have d2:(r2==0)=true:=fg.mpr c2;cases c3:ej s K
   ·rw[eM (.inr ⟨c2,rfl⟩)]
    dsimp! [d1,d2,(by rw[c3,Bool.and_false];rfl:(!(decide (r2=0)&&ej s K))=true),e55]
   ·rw[dS (by simp[c1])]
    dsimp! [d1,d2,(by rw[c3,eM c2];rfl:(!(decide (r2=0)&&ej s K))=false)]
  ·rw[dS (by simp[c1,c2])]
   dsimp! [d1,(beq_eq_false_iff_ne.mpr c2:(r2==0)=false)]
 have tb:∀σ,test (aH (m+2)) (.and #[.cmp .eq (.sub 'c' 5.0) 1.0,.cmp .ne (.sub 'c' 6.0) 1.0]) ls σ=some (decide (o2=1/\r2≠1),σ):=λσ=>by
  by_cases c1:o2=1
  ·have d1:(o2==1)=true:=fg.mpr c1;by_cases c2:r2=1
   ·rw[dS (λz=>z.2 c2)]
    dsimp! [d1,ky (fg.mpr c2:(r2==1)=true)]
   ·rw[eM ⟨c1,c2⟩]
    dsimp! [d1,mU (beq_eq_false_iff_ne.mpr c2:(r2==1)=false)]
  ·rw[dS (λz=>c1 z.1)]
   dsimp! [(beq_eq_false_iff_ne.mpr c1:(o2==1)=false)]
 have tc:∀σ,test (aH (m+2)) (.cmp .eq (.sub 'c' 5.0) 0.0) ls σ=some (decide (o2=0),σ):=λσ=>by
  rw[<-Ie]
  dsimp! [rfl]
 obtain⟨fR,e1,N1,T1⟩:=iy (n:=m) (g:=39) (code:=4) rfl rfl ta N T ();have l1:=ix (c:=decide (r2=2\/(r2=0/\ej s K=false))=true) (x:=kr 4);obtain⟨dt,e2,N2,T2⟩:=iy (n:=m) (g:=26) (code:=3) rfl rfl (tb _) N1 T1 (by rw[eh];exact bw (ji ln l1) ∅);have l2:=ix (c:=decide (o2=1/\r2≠1)=true) (x:=kr 3);obtain⟨iW,e3,N3,T3⟩:=f52 (m+2) (kk:=kk) N2 T2 (by rw[eh,eh];exact bw (ji (ji ln l1) l2) ∅) lr y z ();have ke:=TJ T.rs yK z;have fin:∃qT,exec (aH (m+2)) (.ite (.cmp .eq (.sub 'c' 5.0) 0.0) #[.expr (.call 52 #['a','b',.sub 'c' 2.0])] .nil) ls ⟨dt,[]⟩=some (.next,ls,⟨qT,[]⟩)/\gX k h b aE tw (aW++Fc s K o2 r2) qT/\ah qT aa ay:=by
  have tc:=tc ⟨dt,[]⟩;unfold Fc;rw[<-eI,<-eI];simp only[decide_eq_true_eq]at N2 N3;by_cases c1:o2=0
  ·rw[eM c1]at tc;refine⟨iW,bI tc ?_,?_,T3⟩
   ·rw[av (qj (b_ (au (ak rfl) (au (ak rfl) (au (cY (ak rfl) aG rfl) bo))) (bX rfl e3)) rfl),aP]
   ·have h5:(if kk≠ks then[kr 5]else([]:List D))=(if o2=0/\ej s K=false then[kr 5]else[]):=by
     by_cases c2:kk=ks
     ·have c3:=ke.mp c2;rw[if_neg (by simpa using c2),if_neg (by simp[c3])]
     ·have c3:ej s K=false:=by
       cases c4:ej s K with
       |false=>rfl
       |true=>exact absurd (ke.mpr c4) c2
      rw[if_pos c2,if_pos ⟨c1,c3⟩]
    rw[h5]at N3;exact N3
  ·rw[dS c1]at tc;refine⟨dt,aS tc aP,?_,T2⟩;have h5:(if o2=0/\ej s K=false then[kr 5]else([]:List D))=[]:=if_neg (λq=>c1 q.1);rw[h5,ei];exact N2
 obtain⟨qT,e4,N4,T4⟩:=fin;refine⟨qT,?_,N4,T4⟩;rw[cG [some (.ax b),some (.d (.int s)),some (.d (.tup (cq p2 kk t2 o2 r2))),none] (show pQ 54=some ⟨3,4,Md⟩from rfl) rfl rfl];dsimp only;unfold Md;rw[av s1,av e1,av e2,av e4,bS (fy aG)];rfl
end
def Fd(Fb:Bool)(r2:Int)(wide:Bool):List D:=(if Fb=false then[kr 5]else[])++(if r2≠1 then(if wide=true then[kr 3,kr 4]else[kr 4])else[])
section
variable{aa ay:List D}{k h b:Nat}{aE iM:Int->Int->Bool}{tw:PV}{aW:List D}{pm:List MO}
theorem f56(n:Nat){me:List D×Int}{dq zV Ih:Int->Int->Prop}{mu zW Ii:Int->Nat}{s p kk ks p2 t2 o2 r2 o:Int}{K:Ty}(Ru:bM aa (.tup [.int 15,.int s,.int o])=me)(N:gX k h b aE (.d .none) [] pm)(T:ah pm aa ay)(hk:k<=10)(lr:aa.length<=700000)
  (y:aD aa s (.par p)) (z:aD aa ks (.ko s)) (wm:16<=ks) (yK:aD aa kk K) (yo:aD aa o (.par p2))
  (HQ:∀s t,dq s t->Em aa ay dq aE mu s t) (q:dq kk ks) (hm:mu kk+mu ks<=3)
  (Nc:∀x w,zV x w->Em me.1 ay zV aE zW x w) (q':zV me.2 t2) (ym:zW me.2+zW t2<=3)
  (HQ3:aE me.2 t2=true->∀x w,Ih x w->uH me.1 Ih iM Ii x w) (q3:me.2≠t2->Ih me.2 t2) (hm3:Ii me.2+Ii t2<=2)
  (TH:me.2≠13) (Nd:t2≠13) (hn:50<=n):
  ∃aA Na rf,rn n 56 [.ax b,.d (.int s),.d (.tup (cq p2 kk t2 o2 r2))] pm []=some (.d (.bool (aE kk ks&&aE me.2 t2)),aA,[])/\
   gX (k+2) h b aE Na (if aE kk ks&&aE me.2 t2 then Fd (decide (kk=ks)) r2 (!decide (me.2=t2\/iM me.2 t2=true))else[]) aA/\ah aA rf ay/\(rf=aa\/rf=me.1):=by
 refine Z' λG hG=>?_;obtain⟨m,rfl⟩:∃m,n=m+3:=⟨n-3,()⟩;obtain⟨t0,kn,R,_,_⟩:=N.ex;have I:=R.iI;have ih:=N.ih;obtain⟨fR,TK,T1,K1⟩:=f47 (m-4) T ih N.h9 y z wm ();rw[show m-4+6=m+2 by omega]at TK;have N1:=N.keep K1;obtain⟨dt,e2,N2,T2⟩:=Bf HQ q N1 T1 (by simp) () hm (n:=m+2) ();obtain⟨t1,Tq,R1,_,_⟩:=N1.ex;have I1:=R1.iI;cases hv:aE kk ks with
 |false=>
  refine hG ?_;rw[hv,Bool.false_and,jf];refine⟨dt,.d .none,aa,?_,N2.up (),T2,.inl rfl⟩
  dsimp! [TK,e2,mU hv]
 |true=>
  have P:=cM T2.rs (fm s o);obtain⟨iW,e3,T3,K3⟩:=M4 m T2 yo ();have N3:=N2.keep K3;obtain⟨qT,e4,T4,K4⟩:=Xz m T3 N3.ih (fm s o) ();have N4:=N3.keep K4;rw[Ru]at P e4 T4;obtain⟨t2',Rq,R2,_,_⟩:=N2.ex;have I2:=R2.iI;have ih2:=N2.ih;have ih3:=N3.ih;obtain⟨En,e5,N5,T5⟩:=Bf Nc q' N4 T4 (by simp) () ym (n:=m+2) ();obtain⟨t4',Xs,R4,_,_⟩:=N4.ex;have I4:=R4.iI;cases Ij:aE me.2 t2 with
  |false=>
   refine hG ?_;rw[hv,Ij,Bool.true_and,jf];refine⟨En,.d .none,_,?_,N5,T5,.inr rfl⟩
   dsimp! [TK,e2,ky hv,ih2,e3,e4,I4,e5,mU Ij]
  |true=>
   replace hG:=λz=>hG (by rw[hv,Ij,Bool.true_and,lM];exact z)
   have y5:=y.pre P.pre;have z5:=z.pre P.pre;have ih5:=N5.ih;obtain⟨K8,e6,N6,T6⟩:=f52 (m+2) (kk:=kk) N5 T5 (by simp) (by have:=P.len;omega) y5 z5 ();have h5:(if kk≠ks then[kr 5]else([]:List D))=(if decide (kk=ks)=false then[kr 5]else[]):=by by_cases c2:kk=ks<;>simp[c2]
   rw[List.nil_append,h5]at N6;have l6:=ix (c:=decide (kk=ks)=false) (x:=kr 5);by_cases c1:r2=1
   ·refine hG ⟨K8,.d .none,_,?_,?_,T6,.inr rfl⟩
    ·dsimp! [TK,e2,ky hv,ih2,e3,e4,I4,e5,ky Ij,ih5,T5.i0,T5.i1,↑y5.sm,↑y5.n0,y5.at_,e6,ky (fg.mpr c1:(r2==1)=true)]
    ·unfold Fd;rw[if_neg (c:=r2≠1) (λz=>z c1),ei];exact N6
   ·obtain⟨pm7,tw7,e7,N7,T7⟩:=f31 (m+2) (HQ3 Ij) q3 N6 T6 hm3 TH Nd () ();have ih7:=N7.ih;have e55:=f55 (m+1) T7 ih7 y5;obtain⟨t7',kn7,R7,_,_⟩:=N7.ex;have I7:=R7.iI;obtain⟨pm8,e8,N8,T8⟩:=tu (n:=m) (c:=4) N7 T7 (by
     split
     ·omega
     ·rw[eh];simp only[eH,List.length_nil];omega)
    refine hG ⟨pm8,tw7,_,?_,?_,T8,.inr rfl⟩
    ·dsimp! [TK,e2,ky hv,ih2,e3,e4,I4,e5,ky Ij,ih5,T5.i0,T5.i1,↑y5.sm,↑y5.n0,y5.at_,e6,mU (beq_eq_false_iff_ne.mpr c1:(r2==1)=false),e7,e55,I7,e8]
    ·unfold Fd;by_cases c2:me.2=t2\/iM me.2 t2=true
     ·rw[if_pos c2]at N8;rw[if_pos (c:=r2≠1) c1,eM c2];exact N8
     ·rw[if_neg c2]at N8;rw[if_pos (c:=r2≠1) c1,dS c2];rw[eI]at N8;exact N8
end
section
variable{aa rf ay:List D}{k h b:Nat}{aE iM:Int->Int->Bool}{tw:PV}{aW:List D}{pm:List MO}
theorem f51m(n:Nat){s p1 k1 t1 o1 r1 p2 k2 t2 o2 r2 o:Int}{v:Bool}{fR:List MO}(e62:rn (n+4) 62 [.ax b,.d (.tup (cq p1 k1 t1 o1 r1)),.d (.tup (cq p2 k2 t2 o2 r2))] pm []=some (.d (.bool v),fR,[]))
  (N:gX k h b aE tw aW fR) (T:ah fR rf ay) (yo:aD rf o (.par p2)) (ne:t2≠(bM rf (.tup [.int 15,.int s,.int o])).2) (lr:rf.length<=800000):
  ∃aA rf',rn (n+5) 51 [.ax b,.d (.int s),.d (.tup (cq p1 k1 t1 o1 r1)),.d (.tup (cq p2 k2 t2 o2 r2))] pm []=some (.d (.bool v),aA,[])/\gX k h b aE tw aW aA/\ah aA rf' ay/\rf<+:rf'/\rf'.length<=rf.length+1:=by
 cases v with
 |true=>
  refine⟨fR,rf,?_,N,T,lH _,Nat.le_succ _⟩
  dsimp! [e62]
 |false=>
  obtain⟨t0,kn,R,_,_⟩:=N.ex;have I:=R.iI;have Rv:=XC (pm:=fR) (n+3) (c:=17) (r:=[.int p1,.int k1,.int (-1),.int t1,.int o1,.int r1]) rfl;have h9:=N.h9;have hb:=N.hb;obtain⟨dt,Ni,T2,K2⟩:=f48 (n+1) (s:=s) (row:=cq p2 k2 t2 o2 r2) T I () N.h9 N.ih rfl yo ();have ne':(t2==(bM rf (.tup [.int 15,.int s,.int o])).2)=false:=by simpa using ne
  have P:=cM T.rs (fm s o);by_cases c2:o2=2
  ·refine⟨fR,rf,?_,N,T,lH _,Nat.le_succ _⟩
   dsimp! [e62,(by rw[c2];rfl:(o2==1)=false),(by rw[c2];rfl:(o2==2)=true)]
  ·refine⟨dt,_,?_,N.keep K2,T2,P.pre,P.len⟩;have d2:(o2==2)=false:=beq_eq_false_iff_ne.mpr c2;cases c1:(o2==1)<;>dsimp! [e62,c1,Rv,d2,Ni,ne']
theorem f51a(n:Nat){s p p2 k2 t2 o2 r2 o:Int}(N:gX k h b aE tw aW pm)(c2:o2=2):
  rn (n+5) 51 [.ax b,.d (.int s),.d (.tup [.int 10,.int p]),.d (.tup (cq p2 k2 t2 o2 r2))] pm []=some (.d (.bool false),pm,[]):=by
 dsimp! [(by rw[c2];rfl:(o2==1)=false),(by rw[c2];rfl:(o2==2)=true)]
theorem f51c(n:Nat){s p p2 k2 t2 o2 r2 w:Int}{v:Bool}{fR iW:List MO}(c2:o2≠2)(N:gX k h b aE tw aW pm)(Ni:rn (n+4) 48 [.ax b,.d (.int s),.d (.tup (cq p2 k2 t2 o2 r2))] pm []=some (.d (.int w),fR,[]))(c3:t2=w)
  (e54:rn (n+4) 54 [.ax b,.d (.int s),.d (.tup (cq p2 k2 t2 o2 r2))] fR []=some (.d (.bool v),iW,[])):
  rn (n+5) 51 [.ax b,.d (.int s),.d (.tup [.int 10,.int p]),.d (.tup (cq p2 k2 t2 o2 r2))] pm []=some (.d (.bool v),iW,[]):=by
 have Rv:=XC (pm:=pm) (n+3) (c:=10) (r:=[.int p]) rfl;have d2:(o2==2)=false:=beq_eq_false_iff_ne.mpr c2;have d3:(t2==w)=true:=fg.mpr c3;cases c1:(o2==1)<;>dsimp! [c1,Rv,d2,Ni,d3,e54]
theorem f51d(n:Nat){s p p2 k2 t2 r2 w:Int}{v:Bool}{fR iW:List MO}(N:gX k h b aE tw aW pm)(Ni:rn (n+4) 48 [.ax b,.d (.int s),.d (.tup (cq p2 k2 t2 0 r2))] pm []=some (.d (.int w),fR,[]))(c3:t2≠w)
  (XD:rn (n+4) 56 [.ax b,.d (.int s),.d (.tup (cq p2 k2 t2 0 r2))] fR []=some (.d (.bool v),iW,[])):
  rn (n+5) 51 [.ax b,.d (.int s),.d (.tup [.int 10,.int p]),.d (.tup (cq p2 k2 t2 0 r2))] pm []=some (.d (.bool v),iW,[]):=by
 have Rv:=XC (pm:=pm) (n+3) (c:=10) (r:=[.int p]) rfl;have c3':(t2==w)=false:=by simpa using c3
 dsimp! [Ni,c3',XD]
theorem f51e(n:Nat){s p p2 k2 t2 r2 w:Int}{fR:List MO}(N:gX k h b aE tw aW pm)(Ni:rn (n+4) 48 [.ax b,.d (.int s),.d (.tup (cq p2 k2 t2 1 r2))] pm []=some (.d (.int w),fR,[]))(c3:t2≠w):
  rn (n+5) 51 [.ax b,.d (.int s),.d (.tup [.int 10,.int p]),.d (.tup (cq p2 k2 t2 1 r2))] pm []=some (.d (.bool false),fR,[]):=by
 have Rv:=XC (pm:=pm) (n+3) (c:=10) (r:=[.int p]) rfl;have c3':(t2==w)=false:=by simpa using c3
 dsimp! [Rv,Ni,c3']
theorem f49a(n:Nat){t p1 k1 t1 o1 r1:Int}(c:o1=1):rn (n+5) 49 [.ax b,.d (.int t),.d (.tup (cq p1 k1 t1 o1 r1))] pm []=some (.d (.bool false),pm,[]):=by dsimp! [(by rw[c];rfl:(o1==1)=true)]
theorem f49(n:Nat){dq zV:Int->Int->Prop}{mu zW:Int->Nat}{t p1 k1 t1 o1 r1 kt o:Int}(c:o1≠1)(N:gX k h b aE tw [] pm)(T:ah pm aa ay)(hk:k<=10)(lr:aa.length<=700000)
  (z:aD aa kt (.ko t)) (yo:aD aa o (.par p1))
  (HQ:∀s t,dq s t->Em aa ay dq aE mu s t) (q:dq kt k1) (hm:mu kt+mu k1<=3)
  (Nc:∀x w,zV x w->Em (bM aa (.tup [.int 15,.int t,.int o])).1 ay zV aE zW x w) (q':zV t1 (bM aa (.tup [.int 15,.int t,.int o])).2) (ym:zW t1+zW (bM aa (.tup [.int 15,.int t,.int o])).2<=3) (hn:50<=n):
  ∃aA rf,rn n 49 [.ax b,.d (.int t),.d (.tup (cq p1 k1 t1 o1 r1))] pm []=some (.d (.bool (aE kt k1&&aE t1 (bM aa (.tup [.int 15,.int t,.int o])).2)),aA,[])/\
   gX (k+2) h b aE tw (if aE kt k1&&aE t1 (bM aa (.tup [.int 15,.int t,.int o])).2 then kr 15::(if r1=1 then[kr 4]else[])else[]) aA/\ah aA rf ay/\(rf=aa\/rf=(bM aa (.tup [.int 15,.int t,.int o])).1):=by
 refine Z' λG hG=>?_;obtain⟨m,rfl⟩:∃m,n=m+5:=⟨n-5,()⟩;obtain⟨t0,kn,R,_,_⟩:=N.ex;have I:=R.iI;have ih:=N.ih;have h9:=N.h9;have hb:=N.hb;obtain⟨fR,e1,T1,K1⟩:=f4 (m+3) T (E6 t) ();rw[show(D.tup [.int 14,.int t])= .tup (Ty.row (.ko t))from rfl,mZ T.rs z]at e1 T1;have e1:rn (m+4) 4 [.ax 0,.d (.tup [.int 14,.int t])] pm []=some (.d (.int kt),fR,[]):=e1;have N1:=N.keep K1;obtain⟨t1',Tq,R1,_,_⟩:=N1.ex;have I1:=R1.iI;obtain⟨dt,e2,N2,T2⟩:=Bf HQ q N1 T1 (by simp) () hm (n:=m+4) ();have P:=cM T2.rs (fm t o);obtain⟨t2',Rq,R2,_,_⟩:=N2.ex;have I2:=R2.iI;obtain⟨iW,e3,T3,K3⟩:=f48 (m+1) (s:=t) (row:=cq p1 k1 t1 o1 r1) T2 I2 () N2.h9 N2.ih rfl yo ();have N3:=N2.keep K3;obtain⟨qT,e4,N4,T4⟩:=Bf Nc q' N3 T3 (by simp) () ym (n:=m+4) ();obtain⟨me,Ru⟩:∃me,me=bM aa (.tup [.int 15,.int t,.int o]):=⟨_,rfl⟩;rw[<-Ru]at Nc q' ym P e3 T3 e4 T4 hG;have c':(o1==1)=false:=by simpa using c
 obtain⟨t3',kn3,R3,_,_⟩:=N3.ex;have I3:=R3.iI;cases ha:aE kt k1 with
 |false=>
  rw[ha]at hG;refine hG ⟨dt,aa,?_,by rw[Bool.false_and,jf];exact N2.up (),T2,.inl rfl⟩
  dsimp! [c',e1,I1,e2,mU ha]
 |true=>
  rw[ha,Bool.true_and]at hG;cases TL:aE t1 me.2 with
  |false=>
   rw[TL]at hG;refine hG ⟨qT,_,?_,by rw[jf];exact N4,T4,.inr rfl⟩
   dsimp! [c',e1,I1,e2,ky ha,I2,e3,e4,mU TL]
  |true=>
   rw[TL,lM]at hG;obtain⟨En,e5,N5,T5⟩:=tu (n:=m+2) (c:=15) N4 T4 (by simp);obtain⟨t4',Xs,R4,_,_⟩:=N4.ex;have I4:=R4.iI;by_cases c1:r1=1
   ·obtain⟨K8,e6,N6,T6⟩:=tu (n:=m+2) (c:=4) N5 T5 (by simp);obtain⟨t5',kn5,R5,_,_⟩:=N5.ex;have I5:=R5.iI;rw[if_pos c1]at hG;refine hG ⟨K8,_,?_,N6,T6,.inr rfl⟩
    dsimp! [c',e1,I1,e2,ky ha,I2,e3,e4,ky TL,I4,e5,(fg.mpr c1:(r1==1)=true),I5,e6]
   ·rw[if_neg c1]at hG;refine hG ⟨En,_,?_,N5,T5,.inr rfl⟩
    dsimp! [c',e1,I1,e2,ky ha,I2,e3,e4,ky TL,I4,e5,(beq_eq_false_iff_ne.mpr c1:(r1==1)=false)]
end
section
variable{aa rf ay:List D}{k h b:Nat}{aE iM:Int->Int->Bool}{tw:PV}{aW:List D}{pm:List MO}
def Bi(c:Int):List (D×D)->List (D×D):=dput (.int c) (.int 0)
def iY:List Int->List (D×D)->List (D×D)
 |[],l=>l
 |c::r,l=>iY r (Bi c l)
def fV(cs:List Int):List D:=cs.map kr
def eZ:Ss:=#[.hY 'b' 'c' 'd']
def lx(l:List (D×D)):Prop:=∀x∈l,∃i:Int,x.1= .int i
theorem Ik{c:Int}{l:List (D×D)}(h:lx l):jj (.int c) l=true:=by
 cases l with
 |nil=>rfl
 |cons x r=>
  obtain⟨i,e⟩:=h x (.head _);show(true&&Nat.beq (cy x.1) 1)=true;rw[e];rfl
theorem tA{c:Int}:∀{l:List (D×D)},lx l->lx (Bi c l)
 |[],_=>λx hx=>by have hx:x∈[(D.int c,D.int 0)]:=hx;rw[jG]at hx;exact⟨c,by rw[hx]⟩
 |y::l,h=>λx hx=>by
  have hx:x∈(if ba (.int c) y.1 then(y.1,D.int 0)::l else y::Bi c l):=hx;split at hx
  ·rcases dH.mp hx with e|hx
   ·rw[e];exact h y (.head _)
   ·exact h x (.tail _ hx)
  ·rcases dH.mp hx with e|hx
   ·rw[e];exact h y (.head _)
   ·exact tA (λz hz=>h z (.tail _ hz)) x hx
theorem Lc{n a:Nat}{pm:List MO}:∀(cs:List Int) (l:List (D×D)) (x2 x3:Option PV),lx l->l.length+cs.length<=1000->
  ∃y2 y3,dO (λl s=>execs (aH n) eZ l s) (qL [2,3]) (fV cs) [some (.ax a),some (.aI 0),x2,x3] ⟨pm,[.dict l]⟩=some (.next,[some (.ax a),some (.aI 0),y2,y3],⟨pm,[.dict (iY cs l)]⟩)
 |[],l,x2,x3,_,_=>⟨x2,x3,rfl⟩
 |c::cs,l,x2,x3,hk,hl=>by
  have d:=Ik (c:=c) hk;have Xy:l.length<=1000000:=();have Te:(Bi c l).length<=l.length+1:=kz _ _ _;obtain⟨y2,y3,e⟩:=Lc (n:=n) (a:=a) (pm:=pm) cs (Bi c l) (some (.d (.int c))) (some (.d (.int 0))) (tA hk) (by simp only[eH]at hl;omega);refine⟨y2,y3,?_⟩;have eb:execs (aH n) eZ [some (.ax a),some (.aI 0),some (.d (.int c)),some (.d (.int 0))] ⟨pm,[.dict l]⟩=some (.next,[some (.ax a),some (.aI 0),some (.d (.int c)),some (.d (.int 0))],⟨pm,[.dict (Bi c l)]⟩):=by dsimp! [EV (pm:=pm) rfl d (cT Xy) rfl]
  show dO _ _ (kr c::fV cs) _ _=_;have ep:qL [2,3] (kr c) [some (.ax a),some (.aI 0),x2,x3]=some [some (.ax a),some (.aI 0),some (.d (.int c)),some (.d (.int 0))]:=by rfl
  exact fJ ep eb e
theorem f2(n:Nat){a c:Nat}{cs is:List Int}{pm:List MO}(ia:pm[a]?=some (.inst 1 [(0,.ax c)]))(ic:pm[c]?=some (.list (fV cs)))(hi:intsOf ((iY cs []).map (·.1))=some is)(hl:is.length<60)(hc:cs.length<=900):
  rn (n+1) 2 [.ax a] pm []=some (.d (.lst ((sortI is).map .int)),pm,[]):=by
 obtain⟨y2,y3,e⟩:=Lc (n:=n) (a:=a) (pm:=pm.set c .dead) cs [] none none (λ_ h=>nomatch h) (by simp;omega);have s1:exec (aH n) (.asg 1 (.sj .nil)) [some (.ax a),none,none,none] ⟨pm,[]⟩=some (.next,[some (.ax a),some (.aI 0),none,none],⟨pm,[.dict []]⟩):=by dsimp! [rfl]
 have ev:eval (aH n) (.attr 'a' 0) [some (.ax a),some (.aI 0),none,none] ⟨pm,[.dict []]⟩=some (.ax c,⟨pm,[.dict []]⟩):=by dsimp! [ia]
 have back:(pm.set c .dead).set c (.list (fV cs))=pm:=by rw[List.set_set,set_same ic]
 have s2:exec (aH n) (.ye [2,3] (.attr 'a' 0) eZ) [some (.ax a),some (.aI 0),none,none] ⟨pm,[.dict []]⟩=some (.next,[some (.ax a),some (.aI 0),y2,y3],⟨pm,[.dict (iY cs [])]⟩):=by
  have io:dY ⟨pm,[.dict []]⟩ (.ax c)=some (fV cs,⟨pm.set c .dead,[.dict []]⟩,.ax c (.list (fV cs))):=by exact itP ic
  refine(aq ev).trans ((aq io).trans ((aq e).trans ?_));show some (_,_,PS.mk ((pm.set c .dead).set c (.list (fV cs))) _)=_;rw[back]
 have f1:Nat.blt is.length 64=true:=Nat.blt_eq.mpr ();have f2:(sortI is).length<=1000000:=by rw[oh];omega
 have f_:exec (aH n) (.ret (.bi .sorted 'b')) [some (.ax a),some (.aI 0),y2,y3] ⟨pm,[.dict (iY cs [])]⟩=some (.ret (.aI 1),[some (.ax a),some (.aI 0),y2,y3],⟨pm,[.dict (iY cs []),.list ((sortI is).map .int)]⟩):=by dsimp! [K6 rfl hi f1 (cT (by rw[eT];exact f2))]
 rw[cG [some (.ax a),none,none,none] (show pQ 2=some ⟨1,4,YS⟩from rfl) rfl rfl];dsimp only;unfold YS;have s2':=s2;unfold eZ at s2';rw[av s1,av s2',bS f_];rfl
theorem f72(n:Nat){h:Nat}{m:Int}{pm:List MO}:rn (n+1) 72 [.ax pm.length] (pm++cO pm.length h m) []=some (.d .none,(pm++cO pm.length h m).set (pm.length+1) (.dict [(.int 2,.cin 4)]),[]):=by
 have i0:(pm++cO pm.length h m)[pm.length]?=some (.inst 2 (fQ pm.length (pm.length+4) h (pm.length+1) m true (.d .none) 0)):=m9;have i1:(pm++cO pm.length h m)[pm.length+1]?=some (.dict []):=by rw[ya ()];simp[cO]
 dsimp! [i0,EU i1 rfl rfl rfl]
end
section
variable{aa ay:List D}{pm:List MO}
def hU(pm:List MO):List MO:=((pm++[MO.inst 3 bK])++cO (pm.length+1) pm.length 1).set (pm.length+2) (.dict [(.int 2,.cin 4)])
theorem om{aE:Int->Int->Bool}(T:ah pm aa ay)(h9:9<=pm.length):gX 0 pm.length (pm.length+1) aE (.d .none) [] (hU pm)/\ah (hU pm) aa ay:=by
 have g0:∀j,j<pm.length->(hU pm)[j]?=pm[j]?:=λj hj=>by unfold hU;rw[bp (),eI,mI hj]
 have g1:(hU pm)[pm.length]?=some (.inst 3 bK):=by unfold hU;rw[bp (),eI,ya ()];simp
 have g2:∀j,j≠1->(hU pm)[pm.length+1+j]?=(cO (pm.length+1) pm.length 1)[j]?:=λj hj=>by unfold hU;rw[bp (),ya (by simp<;>omega)];congr 1;simp<;>omega
 have g3:(hU pm)[pm.length+1+1]?=some (.dict [(.int 2,.cin 4)]):=by unfold hU;rw[dz,if_pos rfl,if_pos (by simp[cO])]
 refine⟨⟨⟨pm.length+1+4,[],⟨g2 0 ∅,g3,g2 2 ∅,g2 3 ∅,g2 4 ∅,g2 6 ∅,g2 7 ∅,.inl rfl,.inr rfl⟩,(λ_ h=>nomatch h),eJ _⟩,g1,h9,rfl⟩,⟨?_,?_,?_,?_,?_,?_,T.rs⟩⟩
 ·rw[g0 0 ()];exact T.i0
 ·rw[g0 1 ()];exact T.i1
 ·rw[g0 2 ()];exact T.i2
 ·rw[g0 4 ()];exact T.i4
 ·rw[g0 5 ()];exact T.i5
 ·rw[g0 6 ()];exact T.i6
theorem TM(n:Nat){tm:List TO}{ls:Ls}(h2:ls[2]?= ~~~(.ax 0)):eval (aH (n+2)) (.new 2 #[.new 3 #['c'],1.0]) ls ⟨pm,tm⟩=some (.ax (pm.length+1),⟨(pm++[.inst 3 bK])++cO (pm.length+1) pm.length 1,tm⟩):=by have e2:=new2 (pm:=pm++[.inst 3 bK]) n (h:=pm.length) (m:=1) (tm:=tm);rw[show(pm++[MO.inst 3 bK]).length=pm.length+1 by simp]at e2;exact ES (au (ES (au (ak h2) bo) (new3 (n+1))) (au aG bo)) e2
theorem s_72(n:Nat){tm:List TO}:cJ ((aH (n+1)).fn 72) [.ax (pm.length+1)] ⟨(pm++[.inst 3 bK])++cO (pm.length+1) pm.length 1,tm⟩=some (.d .none,⟨hU pm,tm⟩):=by have e:=f72 n (pm:=pm++[.inst 3 bK]) (h:=pm.length) (m:=1);rw[show(pm++[MO.inst 3 bK]).length=pm.length+1 by simp]at e;exact bX rfl e
end
def Bj:List D:=match lW 0 with
 |some (.tup l)=>l
 |_=>[]
def du:List D:=Bj++[.tup [.int 10,.int 0],.tup [.int 10,.int 1],.tup [.int 14,.int 16],.tup [.int 10,.int 2],.tup [.int 3,.str [112],.int 0],.tup [.int 3,.str [113],.int 0],.tup [.int 6,.tup [.int 20,.int 21]],.tup [.int 14,.int 17],.tup [.int 10,.int 3],.tup [.int 10,.int 4]]
def wx:List D:=[.int (-1),.int 16,.int 18,.int 19,.int 22]
structure cu (aa ay:List D):Prop where
 rs:cz aa
 pre:du<+:aa
 Nj:wx<+:ay
theorem Fe:du.length=26:=rfl
section
variable{aa ay:List D}
theorem ly{f:D->Bool}(hf:du.all f=true)(I:cu aa ay){x:Int}{r:D}(e:aa[x.toNat]?=some r)(nn:0<=x)(hr:f r=false):26<=x:=by
 by_cases h:x<26
 ·obtain⟨t,ht⟩:=I.pre;have hb:x.toNat<du.length:=by rw[Fe];omega
  rw[<-ht,mI hb]at e;have:=bc.mp hf r (qG e);rw[hr]at this;cases this
 ·omega
def Ld:D->Int
 | .tup (.int k::_)=>k
 |_=>0
def Nk:D->Bool
 | .tup [.int 10,.int p]=>decide (p<5)
 |_=>true
theorem Nl:du.all Nk=true:=by rfl
theorem TN:du.all (λr=>Ld r !=15)=true:=by rfl
theorem TP:du.all (λr=>Ld r !=17)=true:=by rfl
theorem TQ:du.all (λr=>!ba (fZ 0) r)=true:=by rfl
theorem TS:du.all (λr=>!ba (fZ 1) r)=true:=by rfl
theorem TU:du[5]?=some (fZ 2):=by rfl
end
def jE(aa:List D)(r:D)(x:Int):Prop:=0<=x/\aa[x.toNat]?=some r
theorem jE.pre{a b:List D}(h:a<+:b){r:D}{x:Int}(p:jE a r x):jE b r x:=⟨p.1,uK h p.2⟩
theorem jE.inj{a:List D}(R:cz a){r:D}{x y:Int}(p:jE a r x)(q:jE a r y):x=y:=by have:=qZ R.nd p.2 q.2;exact ob1 ‹_› p.1 q.1
theorem jE.fn{a:List D}{r s:D}{x:Int}(p:jE a r x)(q:jE a s x):r=s:=by have:=p.2;rw[q.2]at this;exact(fh this).symm
theorem jN{aa:List D}{r:D}(R:cz aa)(h:dC r):jE (bM aa r).1 r (bM aa r).2:=⟨(cM R h).nn,(cM R h).at_⟩
theorem nc:∀(C:List D) (aa:List D),cz aa->(∀r∈C,dC r)->∀x∈(bh aa C).2,∃r∈C,jE (bh aa C).1 r x
 |[],_,_,_,_,h=>nomatch h
 |r::C,aa,R,ok,x,h=>by
  have P:=cM R (ok r (.head _));have Il:∀s∈C,dC s:=λs hs=>ok s (.tail _ hs);have h:x∈(bM aa r).2::(bh (bM aa r).1 C).2:=h;rcases dH.mp h with e|h
  ·rw[e];exact⟨r,.head _,(jN R (ok r (.head _))).pre (iw C _ P.rs Il).2.1⟩
  ·obtain⟨s,hs,p⟩:=nc C _ P.rs Il x h;exact⟨s,.tail _ hs,p⟩
theorem oq:∀(C:List D) (aa:List D),cz aa->(∀r∈C,dC r)->∀r∈C,∃x∈(bh aa C).2,jE (bh aa C).1 r x
 |[],_,_,_,_,h=>nomatch h
 |c::C,aa,R,ok,r,h=>by
  have P:=cM R (ok c (.head _));have Il:∀s∈C,dC s:=λs hs=>ok s (.tail _ hs);rcases dH.mp h with e|h
  ·rw[e];exact⟨_,.head _,(jN R (ok c (.head _))).pre (iw C _ P.rs Il).2.1⟩
  ·obtain⟨x,hx,p⟩:=oq C _ P.rs Il r h;exact⟨x,.tail _ hx,p⟩
theorem mh:∀(C:List D) (aa:List D),cz aa->(∀r∈C,dC r)->C.Nodup->(bh aa C).2.Nodup
 |[],_,_,_,_=>List.nodup_nil
 |c::C,aa,R,ok,nd=>by have P:=cM R (ok c (.head _));have Il:∀s∈C,dC s:=λs hs=>ok s (.tail _ hs);rw[nV]at nd;show((bM aa c).2::(bh (bM aa c).1 C).2).Nodup;rw[nV];refine⟨λh=>?_,mh C _ P.rs Il nd.2⟩;obtain⟨s,hs,p⟩:=nc C _ P.rs Il _ h;have q:=(jN R (ok c (.head _))).pre (iw C _ P.rs Il).2.1;rw[q.fn p]at nd;exact nd.1 hs
structure az.Ok (t:az):Prop where
 key:t.key<7
 opt:t.opt<3
 ro:t.ro<3
 mask:t.mask<8
 ne:0<t.mask\/t.mem=true
theorem kE{t:az}{o:Int}:∀r∈af t o,dC r:=by
 intro r hr;unfold af at hr;rcases pL.mp hr with h|h
 ·exact jM _ r h
 ·split at h
  ·rw[jG.mp h];exact fm _ _
  ·exact nomatch h
theorem pw{t:az}{o:Int}:(af t o).Nodup:=by
 unfold af;rw[List.nodup_append];refine⟨?_,by split;exact nV.mpr ⟨yc,List.nodup_nil⟩;exact List.nodup_nil,λa ha b hb e=>?_⟩
 ·rw[gA,List.Nodup,List.pairwise_map];exact(List.Pairwise.filter _ (by decide:[0,1,2].Pairwise (·≠·))).imp_of_mem λ{x y} hx hy n e=>n (wo (E9 (List.mem_filter.mp hx).1) (E9 (List.mem_filter.mp hy).1) e)
 ·rw[gA]at ha;obtain⟨i,hi,q⟩:=List.mem_map.mp ha;have hi:=E9 (List.mem_filter.mp hi).1;split at hb
  ·rw[jG.mp hb,<-q]at e;rcases oa3 hi with g|g|g<;>rw[g]at e<;>exact ncf Ic e rfl
  ·exact nomatch hb
theorem Ff:∀m<8,0<m->bit m 0=true\/bit m 1=true\/bit m 2=true:=∅
theorem Fg{t:az}{o:Int}(ok:t.Ok):af t o≠[]:=by
 have u:∀i,i∈[0,1,2]->bit t.mask i=true->af t o≠[]:=λi hi hb=>List.ne_nil_of_mem (List.mem_append_left _ (by rw[gA];exact List.mem_map_of_mem (List.mem_filter.mpr ⟨hi,hb⟩)));rcases ok.ne with h|h
 ·rcases Ff _ ok.mask h with q|q|q
  ·exact u 0 ∅ q
  ·exact u 1 ∅ q
  ·exact u 2 ∅ q
 ·unfold af;rw[h,lM];exact List.append_ne_nil_of_right_ne_nil _ (List.cons_ne_nil _ _)
theorem Bk{t:az}{o:Int}:(af t o).length<=4:=by unfold af;rw[eh];have lu:(bg t.mask [0,1,2]).length<=3:=kC (m:=t.mask) [0,1,2];split<;>simp only[eH,List.length_nil]<;>omega
theorem Bl{m:Nat}{r:D}{l:List Nat}(h:r∈bg m l):∃i∈l,bit m i=true/\r=fZ i:=by rw[gA]at h;obtain⟨i,hi,e⟩:=List.mem_map.mp h;exact⟨i,(List.mem_filter.mp hi).1,(List.mem_filter.mp hi).2,e.symm⟩
theorem wy{m:Nat}{r:D}(h:r∈bg m [0,1,2]):r=fZ 0\/r=fZ 1\/r=fZ 2:=by
 obtain⟨i,hi,_,e⟩:=Bl h;rw[e];rcases oa3 (E9 hi)with e|e|e<;>subst e
 ·exact .inl rfl
 ·exact .inr (.inl rfl)
 ·exact .inr (.inr rfl)
theorem ng{t:az}{o:Int}{r:D}(h:r∈af t o):r=fZ 0\/r=fZ 1\/r=fZ 2\/(t.mem=true/\r= .tup [.int 15,.int (if t.key=1 then 17 else 16),.int o]):=by
 unfold af at h;rcases pL.mp h with h|h
 ·rcases wy h with e|e|e
  ·exact .inl e
  ·exact .inr (.inl e)
  ·exact .inr (.inr (.inl e))
 ·split at h
  ·rename_i hm;exact .inr (.inr (.inr ⟨hm,jG.mp h⟩))
  ·exact nomatch h
section
variable{aa ay:List D}
theorem cu.ext{e_:List D}(I:cu aa ay)(R:cz e_)(p:aa<+:e_):cu e_ ay:=⟨R,I.pre.trans p,I.Nj⟩
theorem ie(I:cu aa ay)(hl:aa.length<=800000){i:Nat}(hi:i=0\/i=1\/i=2){x:Int}(p:jE aa (fZ i) x):g5 aa x/\(∃S:Ty,aD aa x S/\S.val=true)/\(x=5\/26<=x):=by
 have lt:x<900000:=ob6 hl (fX.mp p.2).1 p.1 rfl;have q:x=5\/26<=x:=by
  rcases hi with e|e|e<;>subst e
  ·exact .inr (ly TQ I p.2 p.1 rfl)
  ·exact .inr (ly TS I p.2 p.1 rfl)
  ·exact .inl (p.inj I.rs (⟨by decide,uK I.pre TU⟩:jE aa (fZ 2) 5))
 have y:∃S:Ty,aD aa x S/\S.val=true:=by
  rcases hi with e|e|e<;>subst e
  ·exact⟨.sL [97],⟨p.1,lt,p.2⟩,rfl⟩
  ·exact⟨.one,⟨p.1,lt,p.2⟩,rfl⟩
  ·exact⟨.kw [110,117,108,108],⟨p.1,lt,p.2⟩,rfl⟩
 refine⟨⟨?_,()⟩,y,q⟩;obtain⟨S,z,v⟩:=y;exact⟨S,z,by cases S<;>first|rfl|cases v⟩
theorem uP(I:cu aa ay)(hl:aa.length<=800000){a o:Int}{x:Int}(p:jE aa (.tup [.int 15,.int a,.int o]) x):g5 aa x/\aD aa x (.idx a o)/\26<=x:=by have lt:x<900000:=ob6 hl (fX.mp p.2).1 p.1 rfl;have q:=ly TN I p.2 p.1 rfl;have y:aD aa x (.idx a o):=⟨p.1,lt,p.2⟩;exact⟨⟨⟨_,y,rfl⟩,()⟩,y,q⟩
end
structure jo (aa:List D) (C:List D) (tp:Int) (ae:List Int):Prop where
 m1:∀x∈ae,∃r∈C,jE aa r x
 m2:∀r∈C,∃x∈ae,jE aa r x
 nd:ae.Nodup
 ne:ae≠[]
 le:ae.length<=4
 num:ae=[tp]\/(aD aa tp (.un ae)/\2<=ae.length)
theorem jo.pre{a b:List D}(h:a<+:b){C:List D}{tp:Int}{ae:List Int}(t:jo a C tp ae):jo b C tp ae:=
 ⟨λx hx=>let ⟨r,hr,p⟩:=t.m1 x hx;⟨r,hr,p.pre h⟩,λr hr=>let ⟨x,hx,p⟩:=t.m2 r hr;⟨x,hx,p.pre h⟩,t.nd,t.ne,t.le,t.num.imp id λz=>⟨z.1.pre h,z.2⟩⟩
theorem wz{l:List Int}(h:l.Nodup):(sortI l).Nodup:=(sortI_perm l).nodup_iff.mpr h
theorem zX{aa C:List D}{ae:List Int}(R:cz aa)(hl:aa.length<=700000)(m1:∀x∈ae,∃r∈C,jE aa r x)(m2:∀r∈C,∃x∈ae,jE aa r x)(nd:ae.Nodup)(ne:ae≠[])(le:ae.length<=4):
  jo (sS aa ae).1 C (sS aa ae).2 (sortI ae)/\cz (sS aa ae).1/\aa<+:(sS aa ae).1/\(sS aa ae).1.length<=aa.length+1:=by
 have M3:=oh ae;have n1:∀x∈sortI ae,∃r∈C,jE aa r x:=λx hx=>m1 x (oi.mp hx);have n2:∀r∈C,∃x∈sortI ae,jE aa r x:=λr hr=>let ⟨x,hx,p⟩:=m2 r hr;⟨x,oi.mpr hx,p⟩;have nds:=wz nd;have nes:sortI ae≠[]:=λe=>by rw[e]at M3;exact ne (AW.mp M3.symm)
 unfold sS;generalize hs:sortI ae=l at*
 cases l with
 |nil=>exact absurd rfl nes
 |cons x r=>
  cases r with
  |nil=>exact⟨⟨n1,n2,nds,nes,by rw[M3];exact le,.inl rfl⟩,R,lH _,Nat.le_succ _⟩
  |cons w r=>
   have ok:=zS (x::w::r);have P:=cM R ok;have ty:aD (bM aa (.tup [.int 6,.tup ((x::w::r).map .int)])).1 (bM aa (.tup [.int 6,.tup ((x::w::r).map .int)])).2 (.un (x::w::r)):=qV.ty (S:= .un (x::w::r)) P ();refine⟨jo.mk (λz hz=>let ⟨s,hs,p⟩:=n1 z hz;⟨s,hs,p.pre P.pre⟩) (λs hs=>let ⟨z,hz,p⟩:=n2 s hs;⟨z,hz,p.pre P.pre⟩) nds nes (by rw[M3];exact le) (.inr ⟨ty,by simp⟩),P.rs,P.pre,P.len⟩
section
variable{aa ay:List D}
structure jq (aa:List D) (t:az) (pid:Nat) (num o tp:Int) (ae:List Int):Prop where
 own:aD aa o (.par pid)
 o26:26<=o
 tm:jo aa (af t o) tp ae
 at_:jE aa (uM pid (fT[t.key]?.getD 0) tp t.opt t.ro) num
 pX:26<=num
theorem tB(I:cu aa ay)(hl:aa.length<=800000){t:az}{o x:Int}{r:D}(hr:r∈af t o)(p:jE aa r x):g5 aa x:=by
 rcases ng hr with e|e|e|⟨_,e⟩<;>rw[e]at p
 ·exact(ie I hl (.inl rfl) p).1
 ·exact(ie I hl (.inr (.inl rfl)) p).1
 ·exact(ie I hl (.inr (.inr rfl)) p).1
 ·exact(uP I hl p).1
theorem Nm(I:cu aa ay){t:az}(ok:t.Ok)(hl:aa.length<=600000)(hp:5<=ay.length)(XE:ay.length<=1000):
  ((∀x∈(bh (bC aa ay.length).1 (af t (bC aa ay.length).2)).2,g5 (bh (bC aa ay.length).1 (af t (bC aa ay.length).2)).1 x)/\
   (bh (bC aa ay.length).1 (af t (bC aa ay.length).2)).2.Nodup/\(bh (bC aa ay.length).1 (af t (bC aa ay.length).2)).2≠[])/\
  (∃o tp ae,jq (wq aa ay.length t).1 t ay.length (wq aa ay.length t).2 o tp ae)/\cz (wq aa ay.length t).1/\aa<+:(wq aa ay.length t).1/\(wq aa ay.length t).1.length<=aa.length+12:=by
 have PO:=cM I.rs (uI ay.length);have PO:qV aa (bC aa ay.length).1 (.tup [.int 10,.int ay.length]) (bC aa ay.length).2:=PO;have IO:=I.ext PO.rs PO.pre;have o26:=ly Nl IO PO.at_ PO.nn (by show decide ((ay.length:Int)<5)=false;rw[dS];omega);have yo:aD (bC aa ay.length).1 (bC aa ay.length).2 (.par ay.length):=qV.ty (S:= .par ay.length) PO ();generalize ho:(bC aa ay.length).2=o at*
 have lO:=PO.len;obtain⟨RP,pP,lP⟩:=iw (af t o) (bC aa ay.length).1 PO.rs kE;have pl:=Bk (t:=t) (o:=o);have IP:=IO.ext RP pP;have m1:=nc (af t o) (bC aa ay.length).1 PO.rs kE;have m2:=oq (af t o) (bC aa ay.length).1 PO.rs kE;have nd:=mh (af t o) (bC aa ay.length).1 PO.rs kE pw;have ln:=jn (af t o) (bC aa ay.length).1;have ne:(bh (bC aa ay.length).1 (af t o)).2≠[]:=λe=>by rw[e]at ln;exact Fg ok (AW.mp ln.symm)
 have hA:∀x∈(bh (bC aa ay.length).1 (af t o)).2,g5 (bh (bC aa ay.length).1 (af t o)).1 x:=λx hx=>by obtain⟨r,hr,p⟩:=m1 x hx;exact tB IP () hr p
 refine⟨⟨hA,nd,ne⟩,?_⟩;obtain⟨tm,RT,pT,lT⟩:=zX RP (bw lP (bw (ji (bw lO (sJ hl)) pl) ∅)) m1 m2 nd ne (by rw[ln];exact pl);have IT:=IP.ext RT pT;have hT:ps aa ay.length t=sS (bh (bC aa ay.length).1 (af t o)).1 (bh (bC aa ay.length).1 (af t o)).2:=by unfold ps;rw[ho]
 unfold wq;rw[hT];generalize sS (bh (bC aa ay.length).1 (af t o)).1 (bh (bC aa ay.length).1 (af t o)).2=U at*
 have okm:=E_ ay.length (fT[t.key]?.getD 0) U.2 t.opt t.ro;have PM:=cM RT okm;have IM:=IT.ext PM.rs PM.pre;refine⟨⟨o,U.2,_,⟨yo.pre (pP.trans (pT.trans PM.pre)),o26,tm.pre PM.pre,jN RT okm,?_⟩⟩,PM.rs,PO.pre.trans (pP.trans (pT.trans PM.pre)),bw PM.len (bw (sJ (bw lT (sJ (bw lP (ji lO pl))))) (hV (show 7<=12 by decide) _))⟩;exact ly TP IM PM.at_ PM.nn rfl
end
def Fh(w:Int)(r:D):Option D->D
 |some o=> .tup [.int 15,.int (dI o),.int w]
 |none=>r
def dD(w:Int)(r:D):D:=Fh w r (sT 15 r)
theorem Fi(w:Int):∀i,dD w (fZ i)=fZ i
 |0=>rfl
 |1=>rfl
 |_+2=>rfl
theorem jO(w:Int){m:Nat}:∀l,(bg m l).map (dD w)=bg m l
 |[]=>rfl
 |i::l=>by
  rw[lj];split
  ·rw[j9,Fi,jO w l]
  ·exact jO w l
theorem oy{t:az}{o w:Int}:af t w=(af t o).map (dD w):=by unfold af;rw[List.map_append,jO];cases t.mem<;>rfl
section
variable{aa:List D}{w:Int}{pid:Int}
theorem Fj(R:cz aa){x:Int}{r:D}(p:jE aa r x):je aa w x=bM aa (dD w r):=by
 have hp:bM aa r=(aa,x):=by rw[q8 R p.2,yd p.1]
 rw[uL p.2];show subQ aa w x (sT 15 r)=bM aa (Fh w r (sT 15 r));cases sT 15 r with
 |none=>exact hp.symm
 |some o=>rfl
theorem tC{r:D}(h:dC r):dC (dD w r):=by
 show dC (Fh w r (sT 15 r));cases sT 15 r with
 |none=>exact h
 |some o=>exact fm _ _
theorem tD:∀(ae:List Int) (aa:List D),cz aa->∀(rs:List D),rs.length=ae.length->(∀q∈ae.zip rs,jE aa q.2 q.1)->iv aa w ae=bh aa (rs.map (dD w))
 |[],aa,_,rs,h,_=>by
  cases rs with
  |nil=>rfl
  |cons=>cases h
 |x::ae,aa,R,rs,h,hp=>by
  cases rs with
  |nil=>cases h
  |cons r rs=>
   have p:=hp (x,r) (by simp);have e:=Fj (w:=w) R p;have ok:dC r:=R.ok r (qG p.2);have P:=cM R (tC (w:=w) ok);have ih:=tD ae (bM aa (dD w r)).1 P.rs rs (by simpa using h) (λq hq=>(hp q (by rw[sF];exact .tail _ hq)).pre P.pre);show((iv (je aa w x).1 w ae).1,(je aa w x).2::(iv (je aa w x).1 w ae).2)=_;rw[e,ih];rfl
theorem Bm{C:List D}{tp:Int}{ae:List Int}(T:jo aa C tp ae):∃rs:List D,rs.length=ae.length/\(∀q∈ae.zip rs,jE aa q.2 q.1)/\(∀r∈rs,r∈C):=by
 have:∀l:List Int,(∀x∈l,x∈ae)->∃rs:List D,rs.length=l.length/\(∀q∈l.zip rs,jE aa q.2 q.1)/\(∀r∈rs,r∈C):=λl=>by
  induction l with
  |nil=>intro _;exact⟨[],rfl,(λq h=>by simp at h),(λr h=>by simp at h)⟩
  |cons x l ih=>
   intro h;obtain⟨rs,a,b,c⟩:=ih λy hy=>h y (.tail _ hy);obtain⟨r,hr,p⟩:=T.m1 x (h x (.head _));refine⟨r::rs,by simp[a],λq hq=>?_,λs hs=>?_⟩
   ·rw[sF]at hq;rcases dH.mp hq with e|hq
    ·rw[e];exact p
    ·exact b q hq
   ·rcases dH.mp hs with e|hs
    ·rw[e];exact hr
    ·exact c s hs
 exact this ae λ_ h=>h
end
section
variable{aa ay:List D}{w o p1 p2 tp:Int}{ae:List Int}{t:az}
theorem zY{x:Int}{S:Ty}(I:cu aa ay)(h:aD du x S):aD aa x S:=h.pre I.pre
theorem tyT:aD du 16 (.par 0):=⟨by decide,∅,rfl⟩
theorem tyU:aD du 17 (.par 1):=⟨by decide,∅,rfl⟩
theorem Nn(I:cu aa ay)(hl:aa.length<=800000)(T:jo aa (af t o) tp ae)(yo:aD aa o (.par p1))(h5:5<=p1):∀x∈ae,m5 aa p1 x:=by
 intro x hx;obtain⟨r,hr,p⟩:=T.m1 x hx;rcases ng hr with e|e|e|⟨_,e⟩<;>rw[e]at p
 ·obtain⟨S,y,v⟩:=(ie I hl (.inl rfl) p).2.1;exact .unit S y v
 ·obtain⟨S,y,v⟩:=(ie I hl (.inr (.inl rfl)) p).2.1;exact .unit S y v
 ·obtain⟨S,y,v⟩:=(ie I hl (.inr (.inr rfl)) p).2.1;exact .unit S y v
 ·by_cases hk:t.key=1
  ·rw[if_pos hk]at p;exact .idx 17 1 o (uP I hl p).2.1 (zY I tyU) () yo
  ·rw[if_neg hk]at p;exact .idx 16 0 o (uP I hl p).2.1 (zY I tyT) () yo
theorem map_inj{f:D->D}:∀{l:List D},(l.map f).Nodup->∀a∈l,∀b∈l,f a=f b->a=b
 |[],_,_,h,_,_,_=>nomatch h
 |x::l,nd,a,ha,b,hb,e=>by
  rw[j9,nV]at nd;rcases dH.mp ha with ea|ha<;>rcases dH.mp hb with eb|hb
  ·rw[ea,eb]
  ·exact absurd (by rw[<-ea,e];exact List.mem_map_of_mem hb) nd.1
  ·exact absurd (by rw[<-eb,<-e];exact List.mem_map_of_mem ha) nd.1
  ·exact map_inj nd.2 a ha b hb e
theorem tE{f:D->D}:∀{l:List D},l.Nodup->(∀a∈l,∀b∈l,f a=f b->a=b)->(l.map f).Nodup
 |[],_,_=>List.nodup_nil
 |x::l,nd,h=>by rw[nV]at nd;rw[j9,nV];refine⟨λhm=>?_,tE nd.2 λa ha b hb=>h a (.tail _ ha) b (.tail _ hb)⟩;obtain⟨y,hy,e⟩:=List.mem_map.mp hm;have:=h x (.head _) y (.tail _ hy) e.symm;rw[this]at nd;exact nd.1 hy
theorem zZ:∀{ae:List Int} {rs:List D},rs.length=ae.length->∀r∈rs,∃x∈ae,(x,r)∈ae.zip rs
 |[],[],_,_,h=>nomatch h
 |_::_,[],h,_,_=>by cases h
 |[],_::_,h,_,_=>by cases h
 |x::ae,r::rs,h,s,hs=>by
  rcases dH.mp hs with e|hs
  ·exact⟨x,.head _,by rw[sF,e];exact .head _⟩
  ·obtain⟨y,hy,z⟩:=zZ (by simpa using h) s hs;exact⟨y,.tail _ hy,by rw[sF];exact .tail _ z⟩
theorem wA:∀{ae:List Int} {rs:List D},rs.length=ae.length->∀x∈ae,∃r∈rs,(x,r)∈ae.zip rs
 |[],[],_,_,h=>nomatch h
 |_::_,[],h,_,_=>by cases h
 |[],_::_,h,_,_=>by cases h
 |x::ae,r::rs,h,s,hs=>by
  rcases dH.mp hs with e|hs
  ·exact⟨r,.head _,by rw[sF,e];exact .head _⟩
  ·obtain⟨y,hy,z⟩:=wA (by simpa using h) s hs;exact⟨y,.tail _ hy,by rw[sF];exact .tail _ z⟩
theorem tF(R:cz aa):∀{ae:List Int} {rs:List D},rs.length=ae.length->(∀q∈ae.zip rs,jE aa q.2 q.1)->ae.Nodup->rs.Nodup
 |[],[],_,_,_=>List.nodup_nil
 |_::_,[],h,_,_=>by cases h
 |[],_::_,h,_,_=>by cases h
 |x::ae,r::rs,h,hz,nd=>by rw[sF]at hz;rw[nV]at nd⊢;refine⟨λhm=>?_,tF R (by simpa using h) (λq hq=>hz q (.tail _ hq)) nd.2⟩;obtain⟨y,hy,z⟩:=zZ (by simpa using h) r hm;have a:jE aa r x:=hz (x,r) (.head _);have b:jE aa r y:=hz (y,r) (.tail _ z);rw[a.inj R b]at nd;exact nd.1 hy
end
section
variable{aa ay:List D}{w o p1 p2 tp:Int}{ae:List Int}{t:az}
theorem Bn{pid:Int}(y:m5 aa pid tp):jl aa w tp=je aa w tp:=by
 cases y with
 |unit S y v=>exact(qo y.at_).trans (by cases S<;>first|exact noB v|rfl)
 |idx o po p y yo ne yp=>exact qo y.at_
theorem Bo{C:List D}{pid:Int}(T:jo aa C tp ae)(hs:∀x∈ae,m5 aa pid x):jl aa w tp=sS (iv aa w ae).1 (iv aa w ae).2:=by
 rcases T.num with e|⟨y,_⟩
 ·subst e;rw[Bn (hs tp (.head _))];rfl
 ·have at_:=y.at_;unfold jl;rw[at_];show(match intsOf (ae.map .int)with|some ae=>_|none=>_)=_;rw[ir]
theorem Fm(I:cu aa ay)(hl:aa.length<=600000)(T:jo aa (af t o) tp ae)(yo:aD aa o (.par p1))(h5:5<=p1):
  Ib aa p1 w tp/\(∃pY,jo (jl aa w tp).1 (af t w) (jl aa w tp).2 pY)/\cz (jl aa w tp).1/\aa<+:(jl aa w tp).1/\(jl aa w tp).1.length<=aa.length+5:=by
 have hs:=Nn I () T yo h5;have le:=T.le;rw[Bo T hs];obtain⟨rs,r1,r2,r3⟩:=Bm T;have ef:=tD (w:=w) ae aa I.rs rs r1 r2;have XF:∀r∈rs.map (dD w),dC r:=λr hr=>by obtain⟨s,hs,e⟩:=List.mem_map.mp hr;rw[<-e];exact tC (kE s (r3 s hs))
 have ndw:((af t o).map (dD w)).Nodup:=by rw[<-oy];exact pw
 have ndM:(rs.map (dD w)).Nodup:=tE (tF I.rs r1 r2 T.nd) λa ha b hb=>map_inj ndw a (r3 a ha) b (r3 b hb);have s1:∀r∈rs.map (dD w),r∈af t w:=λr hr=>by obtain⟨s,hs,e⟩:=List.mem_map.mp hr;rw[<-e,oy (o:=o)];exact List.mem_map_of_mem (r3 s hs)
 have s2:∀r∈af t w,r∈rs.map (dD w):=λr hr=>by rw[oy (o:=o)]at hr;obtain⟨c,hc,e⟩:=List.mem_map.mp hr;obtain⟨x,hx,p⟩:=T.m2 c hc;obtain⟨c',hc',hz⟩:=wA r1 x hx;have:c'=c:=(r2 _ hz).fn p;rw[<-e,<-this];exact List.mem_map_of_mem hc'
 obtain⟨RP,pP,lP⟩:=iw (rs.map (dD w)) aa I.rs XF;have ln:(bh aa (rs.map (dD w))).2.length=ae.length:=by rw[jn,eT,r1]
 have m1:=nc (rs.map (dD w)) aa I.rs XF;have m2:=oq (rs.map (dD w)) aa I.rs XF;have nd:=mh (rs.map (dD w)) aa I.rs XF ndM;have ne:(bh aa (rs.map (dD w))).2≠[]:=λe=>by rw[e]at ln;exact T.ne (AW.mp ln.symm)
 rw[eT,r1]at lP;have IP:=I.ext RP pP;rw[ef];have hA:∀x∈(bh aa (rs.map (dD w))).2,g5 (bh aa (rs.map (dD w))).1 x:=λx hx=>by obtain⟨r,hr,p⟩:=m1 x hx;exact tB IP () (s1 r hr) p
 obtain⟨tm,RT,pT,lT⟩:=zX (C:=af t w) RP () (λx hx=>let ⟨r,hr,p⟩:=m1 x hx;⟨r,s1 r hr,p⟩) (λr hr=>m2 r (s2 r hr)) nd ne ();refine⟨?_,⟨_,tm⟩,RT,pP.trans pT,bw lT (sJ (bw lP (hV le _)))⟩;rcases T.num with e|⟨y,_⟩
 ·exact .atom (hs tp (by rw[e];exact .head _))
 ·exact .un ae y hs (by rw[ef];exact hA) (by rw[ef];exact nd) (by rw[ef];exact ne) le
end
def TA(aa:List D)(P:Int->Prop)(x:Int):Prop:=(x=5\/26<=x)/\∃S,aD aa x S/\(S.val=true\/((∃a b,S= .idx a b)/\P x))
def TV(aa:List D)(P:Int->Prop)(x:Int):Prop:=TA aa P x\/((x=5\/26<=x)/\∃ae,aD aa x (.un ae)/\2<=ae.length/\ae.length<=4/\ae.Nodup/\∀z∈ae,TA aa P z)
def nh(aa:List D)(x:Int):List Int:=match aa[x.toNat]? with
 |some (.tup [.int 6,.tup l])=>(intsOf l).getD []
 |_=>[x]
def eR(aa:List D)(x y:Int):Bool:=(nh aa x).all λz=>(nh aa y).contains z
def fA(aa:List D)(x y:Int):Bool:=eR aa x y&&eR aa y x
def sU(aa:List D)(x:Int):Nat:=if nh aa x=[x]then 0 else 1
section
variable{aa ay:List D}{P:Int->Prop}{x y:Int}
theorem TA.ae(h:TA aa P x):nh aa x=[x]:=by
 obtain⟨_,S,y,v⟩:=h;have at_:=y.at_;unfold nh;rw[at_];rcases v with v|⟨⟨a,b,e⟩,_⟩
 ·cases S<;>first|(cases v;done)|rfl
 ·subst e;rfl
theorem mi{ae:List Int}(h:aD aa x (.un ae)):nh aa x=ae:=by have at_:=h.at_;unfold nh;rw[at_];show(intsOf (ae.map .int)).getD []=ae;rw[ir];rfl
theorem Np{ae:List Int}(h:2<=ae.length):ae≠[x]:=λe=>by rw[e]at h;simp at h
theorem TA.mu(h:TA aa P x):sU aa x=0:=by unfold sU;rw[if_pos h.ae]
theorem z2{ae:List Int}(h:aD aa x (.un ae))(h2:2<=ae.length):sU aa x=1:=by unfold sU;rw[mi h,if_neg (Np h2)]
theorem oA:sU aa x<=1:=by unfold sU;split<;>omega
theorem wC(a b:Int):[b].contains a=decide (a=b):=by by_cases h:a=b<;>simp[h]
theorem jr:eR aa x x=true:=by unfold eR;rw[bc];intro z hz;simpa using hz
theorem TA.sub(h:TA aa P x)(y:Int):eR aa x y=(nh aa y).contains x:=by unfold eR;rw[h.ae];simp
theorem yt{aE:Int->Int->Bool}(ha:∀x y,(x=5\/26<=x)->aE x y=eR aa x y):∀s t,(TV aa (λ_=>True) s/\TV aa (λ_=>True) t)->Em aa ay (λs t=>TV aa (λ_=>True) s/\TV aa (λ_=>True) t) aE (sU aa) s t:=by
 intro s t ⟨hs,ht⟩;have rs:s=5\/26<=s:=by rcases hs with h|h<;>exact h.1
 have rt:t=5\/26<=t:=by rcases ht with h|h<;>exact h.1
 have oL:zK s:=by unfold zK;omega
 have oR:pq t:=by unfold pq;omega
 have Nq:∀{x:Int},TV aa (λ_=>True) x->∃S,aD aa x S:=λh=>by
  rcases h with h|h
  ·exact let ⟨_,S,y,_⟩:=h;⟨S,y⟩
  ·exact let ⟨_,ae,y,_⟩:=h;⟨_,y⟩
 by_cases e:s=t
 ·obtain⟨S,yS⟩:=Nq hs;obtain⟨T,yT⟩:=Nq ht;exact⟨S,T,yS,yT,oL,oR,λh=>absurd h (),.same e (by rw[ha s t rs,e];exact jr)⟩
 ·rcases hs with hs|⟨_,ae,yS,l2,l4,nd,hA⟩
  ·have Nr:=hs;obtain⟨_,S,yS,vS⟩:=hs;have nu:S.fY=false:=by
    rcases vS with v|⟨⟨a,b,e⟩,_⟩
    ·cases S<;>first|rfl|cases v
    ·subst e;rfl
   have par:MP ay (λs t=>TV aa (λ_=>True) s/\TV aa (λ_=>True) t) aE (sU aa) s t S false:=by
    rcases vS with v|⟨⟨a,b,e⟩,_⟩
    ·cases S<;>first|rfl|cases v
    ·subst e;rfl
   rcases ht with ht|⟨_,h_,yT,l2,l4,nd,hA⟩
   ·have hf:aE s t=false:=by rw[ha s t rs,Nr.sub,ht.ae,wC,dS e]
    obtain⟨_,T,yT,vT⟩:=ht;have nt:T.fY=false:=by
     rcases vT with v|⟨⟨a,b,e⟩,_⟩
     ·cases T<;>first|rfl|cases v
     ·subst e;rfl
    refine⟨S,T,yS,yT,oL,oR,λh=>absurd h (),?_⟩;rcases vS with v|⟨⟨a,b,e'⟩,_⟩
    ·rcases vT with v'|⟨⟨a,b,e'⟩,_⟩
     ·exact .val e v v' hf
     ·exact .df e nu nt (.inr (by rw[e'];rfl)) par hf
    ·exact .df e nu nt (.inl (by rw[e'];rfl)) par hf
   ·refine⟨S,.un h_,yS,yT,oL,oR,λh=>absurd h (),.to (par:=false) e nu l4 (λx hx=>⟨⟨.inl Nr,.inl (hA x hx)⟩,?_⟩) par ?_⟩
    ·rw[(hA x hx).mu,z2 yT l2];decide
    ·rw[ha s t rs,Nr.sub,mi yT,Bool.or_false];have:(h_.any λx=>aE s x)=h_.contains s:=by
      rw[ja,uk,jF];constructor
      ·rintro⟨x,hx,h⟩;rw[ha s x rs,Nr.sub,(hA x hx).ae,wC,dK]at h;rw[h];exact hx
      ·intro h;exact⟨s,h,by rw[ha s s rs];exact jr⟩
     rw[this,Bool.or_self]
  ·obtain⟨T,yT⟩:=Nq ht;refine⟨.un ae,T,yS,yT,oL,oR,λh=>absurd h (),.un e l4 (λx hx=>⟨⟨.inl (hA x hx),ht⟩,by rw[(hA x hx).mu,z2 yS l2];decide⟩) ?_⟩;rw[ha s t rs];unfold eR;rw[mi yS];rw[ja,bc,bc];refine forall_congr' λx=>forall_congr' λhx=>?_;rw[ha x t (hA x hx).1,(hA x hx).sub]
theorem Fo{ae:List Int}(nd:ae.Nodup)(h2:2<=ae.length)(x:Int):¬(∀z∈ae,z=x):=λh=>by
 cases ae with
 |nil=>simp at h2
 |cons a r=>cases r with
  |nil=>simp at h2
  |cons b r=>
   rw[nV]at nd;exact nd.1 (by rw[h a (.head _),<-h b (.tail _ (.head _))];exact .head _)
theorem z3{me:Int}:∀s t,(TV aa (λz=>z=me) s/\TV aa (λz=>z=me) t)->uH aa (λs t=>TV aa (λz=>z=me) s/\TV aa (λz=>z=me) t) (fA aa) (sU aa) s t:=by
 intro s t ⟨hs,ht⟩;have rs:s=5\/26<=s:=by rcases hs with h|h<;>exact h.1
 have rt:t=5\/26<=t:=by rcases ht with h|h<;>exact h.1
 have oS:pq s:=by unfold pq;omega
 have oR:pq t:=by unfold pq;omega
 have one:∀{x y:Int} {h_:List Int},TA aa (λz=>z=me) x->aD aa y (.un h_)->2<=h_.length->h_.Nodup->eR aa y x=false:=λ{x y h_} hx yT l2 nd=>by rw[<-Bool.not_eq_true];intro h;unfold eR at h;rw[mi yT,hx.ae,bc]at h;exact Fo nd l2 x λz hz=>by have:=h z hz;rw[wC,dK]at this;exact this
 have sm:∀{x:Int} {S:Ty},s=t->aD aa s S->uH aa (λs t=>TV aa (λz=>z=me) s/\TV aa (λz=>z=me) t) (fA aa) (sU aa) s t:=λ{x S} e y=>by subst e;exact⟨S,S,y,y,oS,oR,.same rfl (by unfold fA;rw[jr];rfl)⟩
 rcases hs with hs|⟨_,ae,yS,l2,l4,nd,hA⟩
 ·have Nr:=hs;obtain⟨_,S,yS,vS⟩:=hs;by_cases e:s=t
  ·exact sm (x:=s) e yS
  rcases ht with ht|⟨_,h_,yT,l2,l4,nd,hA⟩
  ·have hf:fA aa s t=false:=by unfold fA;rw[Nr.sub,ht.ae,wC,dS e];rfl
   obtain⟨_,T,yT,vT⟩:=ht;rcases vS with v|⟨_,p⟩
   ·exact⟨S,T,yS,yT,oS,oR,.val e (.inl v) hf⟩
   ·rcases vT with v|⟨_,p'⟩
    ·exact⟨S,T,yS,yT,oS,oR,.val e (.inr v) hf⟩
    ·exact absurd (p.trans p'.symm) e
  ·refine⟨S,.un h_,yS,yT,oS,oR,.one e ?_ ?_⟩
   ·rcases vS with v|⟨⟨a,b,e⟩,_⟩
    ·cases S<;>first|rfl|cases v
    ·subst e;rfl
   ·unfold fA;rw[one Nr yT l2 nd,Bool.and_false]
 ·by_cases e:s=t
  ·exact sm (x:=s) e yS
  rcases ht with ht|⟨_,h_,yT,m2,m4,nd',hB⟩
  ·have ht0:=ht;obtain⟨_,T,yT,vT⟩:=ht;refine⟨.un ae,T,yS,yT,oS,oR,.one e ?_ ?_⟩
   ·rcases vT with v|⟨⟨a,b,e⟩,_⟩
    ·cases T<;>first|rfl|cases v
    ·subst e;rfl
   ·unfold fA;rw[one ht0 yS l2 nd];rfl
  ·have aux:∀{ae h_:List Int},(∀z∈ae,TA aa (λz=>z=me) z)->(∀z∈h_,TA aa (λz=>z=me) z)->(ae.all λz=>h_.contains z)=ae.all λx=>h_.any λy=>fA aa x y:=λ{ae h_} hA hB=>by
    rw[ja,bc,bc];refine forall_congr' λx=>forall_congr' λhx=>?_;rw[jF,uk];constructor
    ·intro h;exact⟨x,h,by unfold fA;rw[jr];rfl⟩
    ·rintro⟨y,hy,h⟩;unfold fA at h;rw[(hA x hx).sub,(hB y hy).ae,wC,bx,dK]at h;rw[h.1];exact hy
   refine⟨.un ae,.un h_,yS,yT,oS,oR,.un e l4 m4 (λx hx y hy=>⟨⟨.inl (hA x hx),.inl (hB y hy)⟩,⟨.inl (hB y hy),.inl (hA x hx)⟩,?_,?_⟩) ?_⟩
   ·rw[(hA x hx).mu,z2 yS l2];decide
   ·rw[(hB y hy).mu,z2 yT m2];decide
   ·unfold fA eR;rw[mi yS,mi yT,aux hA hB,aux hB hA];rfl
end
def Nt:D->Bool
 | .tup [.int 6,.tup (.int z::_)]=>decide (z≠5/\z<26)
 |_=>true
theorem TX:du.all Nt=true:=by decide+kernel
def bN(k:Nat):Int:=if k=1 then 17 else 16
section
variable{aa ay:List D}{P:Int->Prop}{x o tp lX:Int}{ae pY:List Int}{t t':az}
theorem z4(I:cu aa ay)(hl:aa.length<=800000)(hP:∀z,jE aa (.tup [.int 15,.int (bN t.key),.int o]) z->t.mem=true->P z){r:D}(hr:r∈af t o)(p:jE aa r x):TA aa P x:=by
 rcases ng hr with e|e|e|⟨m,e⟩<;>rw[e]at p
 ·have u:=ie I hl (.inl rfl) p;obtain⟨S,y,v⟩:=u.2.1;exact⟨u.2.2,S,y,.inl v⟩
 ·have u:=ie I hl (.inr (.inl rfl)) p;obtain⟨S,y,v⟩:=u.2.1;exact⟨u.2.2,S,y,.inl v⟩
 ·have u:=ie I hl (.inr (.inr rfl)) p;obtain⟨S,y,v⟩:=u.2.1;exact⟨u.2.2,S,y,.inl v⟩
 ·have u:=uP I hl p;exact⟨.inr u.2.2,_,u.2.1,.inr ⟨⟨_,_,rfl⟩,hP x p m⟩⟩
theorem gK(I:cu aa ay)(hl:aa.length<=800000)(hP:∀z,jE aa (.tup [.int 15,.int (bN t.key),.int o]) z->t.mem=true->P z)(T:jo aa (af t o) tp ae):TV aa P tp:=by
 have at_:∀x∈ae,TA aa P x:=λx hx=>let ⟨r,hr,p⟩:=T.m1 x hx;z4 I hl hP hr p;rcases T.num with e|⟨y,l2⟩
 ·exact .inl (at_ tp (by rw[e];exact .head _))
 ·refine .inr ⟨.inr ?_,ae,y,l2,T.le,T.nd,at_⟩;refine ly TX I y.at_ y.nn ?_;cases ae with
  |nil=>simp at l2
  |cons a r=>
   show decide (a≠5/\a<26)=false;rw[Ey];have:=(at_ a (.head _)).1;omega
theorem wF(I:cu aa ay)(hl:aa.length<=800000)(T:jo aa (af t o) tp ae):nh aa tp=ae:=by
 rcases T.num with e|⟨y,l2⟩
 ·rw[e];obtain⟨r,hr,p⟩:=T.m1 tp (by rw[e];exact .head _);exact(z4 (P:=λ_=>True) I hl (λ_ _ _=>trivial) hr p).ae
 ·exact mi y
theorem kF(I:cu aa ay)(hl:aa.length<=800000)(T:jo aa (af t o) tp ae)(T':jo aa (af t' o) lX pY):eR aa tp lX=true<->∀r∈af t o,r∈af t' o:=by
 unfold eR;rw[wF I hl T,wF I hl T',bc];constructor
 ·intro h r hr;obtain⟨x,hx,p⟩:=T.m2 r hr;have:=h x hx;rw[jF]at this;obtain⟨r',hr',p'⟩:=T'.m1 x this;rw[p.fn p'];exact hr'
 ·intro h x hx;obtain⟨r,hr,p⟩:=T.m1 x hx;obtain⟨x',hx',p'⟩:=T'.m2 r (h r hr);rw[jF,p.inj I.rs p'];exact hx'
end
def sV(a b:Nat):Bool:=(!bit a 0||bit b 0)&&((!bit a 1||bit b 1)&&(!bit a 2||bit b 2))
def cD(t t':az):Bool:=sV t.mask t'.mask&&(!t.mem||(t'.mem&&decide (bN t.key=bN t'.key)))
theorem q9{t:az}{o:Int}{i:Nat}(hi:i<3):fZ i∈af t o<->bit t.mask i=true:=by
 unfold af;rw[pL,gA,List.mem_map];refine⟨λh=>?_,λh=> .inl ⟨i,List.mem_filter.mpr ⟨(by decide:∀i<3,i∈[0,1,2]) i hi,h⟩,rfl⟩⟩;rcases h with⟨j,hj,e⟩|h
 ·rw[<-wo (E9 (List.mem_filter.mp hj).1) hi e];exact(List.mem_filter.mp hj).2
 ·split at h
  ·have e:=jG.mp h;rcases oa3 hi with g|g|g<;>rw[g]at e<;>exact ncf Ic e rfl
  ·exact nomatch h
theorem jP{t:az}{o a:Int}:(D.tup [.int 15,.int a,.int o])∈af t o<->(t.mem=true/\a=bN t.key):=by
 unfold af;rw[pL];refine⟨λh=>?_,λh=> .inr ?_⟩
 ·rcases h with h|h
  ·rcases wy h with e|e|e<;>exact ncf Ic e rfl
  ·split at h
   ·rename_i q;have e:=jG.mp h;injection e with e;injection e with _ e;injection e with e _;exact⟨q,D.int.inj e⟩
   ·exact nomatch h
 ·rw[h.1,lM,h.2];exact .head _
theorem gQ{t t':az}{o:Int}:(∀r∈af t o,r∈af t' o)<->cD t t'=true:=by
 unfold cD sV;constructor
 ·intro h;have u:∀i,i<3->(!bit t.mask i||bit t'.mask i)=true:=λi hi=>by
   cases q:bit t.mask i with
   |false=>rfl
   |true=>rw[(q9 hi).mp (h _ ((q9 hi).mpr q))];rfl
  rw[u 0 ∅,u 1 ∅,u 2 ∅];cases q:t.mem with
  |false=>rfl
  |true=>
   obtain⟨a,b⟩:=jP.mp (h _ (jP.mpr ⟨q,rfl⟩));rw[a,eM b];rfl
 ·intro h r hr;simp only[bx,mK,Bool.not_eq_true',dK]at h;obtain⟨⟨h0,h1,h2⟩,h3⟩:=h;have u:∀i,i<3->(bit t.mask i=false\/bit t'.mask i=true)->fZ i∈af t o->fZ i∈af t' o:=λi hi hb hm=>by
   rw[q9 hi]at hm⊢;rw[hm]at hb;rcases hb with hb|hb
   ·cases hb
   ·exact hb
  rcases ng hr with e|e|e|⟨m,e⟩
  ·rw[e]at hr⊢;exact u 0 ∅ h0 hr
  ·rw[e]at hr⊢;exact u 1 ∅ h1 hr
  ·rw[e]at hr⊢;exact u 2 ∅ h2 hr
  ·rw[e];rcases h3 with h3|⟨h3,h4⟩
   ·rw[m]at h3;cases h3
   ·exact jP.mpr ⟨h3,h4⟩
def kTys:List (Int×Ty):=[(1,.kw [117,110,107,110,111,119,110]),(16,.par 0),(17,.par 1),(18,.ko 16),(19,.par 2),(20,.sL [112]),(21,.sL [113]),(22,.un [20,21]),(23,.ko 17),(24,.par 3),(25,.par 4)]
def q_(x:Int):Ty:=match kTys.find? λp=>p.1==x with
 |some p=>p.2
 |none=> .one
def pA:List Int:=[1,16,17,18,19,20,21,22,23,24,25]
def TY:List (Int×Int):=[(17,16),(19,18),(24,19),(24,18),(25,22),(20,22),(21,22)]
def dZ(s t:Int):Bool:=s==t||TY.contains (s,t)
def Bp(y z:Int):Nat:=if z=y/\z≠22 then 0 else if z=17\/z=24\/z=25 then 2 else if z=16\/z=19\/z=22 then 1 else 0
def TZ(y:Int):List Int:=if y=16\/y=17 then[1,16,17]else[18,23,19,24,25,22,20,21]
def T_(y:Int):List Int:=if y=22 then[22,20,21]else[y]
def Eo(y s t:Int):Bool:=(TZ y).contains s&&(T_ y).contains t
def Im(dq:Int->Int->Bool)(mu:Int->Nat)(s t b:Int):Option Bool:=
 if b=s then some false else if dq b t=true/\mu b<mu s then some (dZ b t)else none
def parR(dq:Int->Int->Bool)(mu:Int->Nat)(s t p:Int):D->Option Bool
 | .int b=>if 0<=p/\p<900000 then Im dq mu s t (if b<0\/b=0 then 1 else b)else none
 |_=>none
def Io(dq:Int->Int->Bool)(mu:Int->Nat)(s t:Int):Ty->Option Bool
 | .par p=>ai (parR dq mu s t p) wx[p.toNat]?
 |_=>some false
def Ua(dq:Int->Int->Bool)(mu:Int->Nat)(s t:Int)(S:Ty)(par:Bool):Ty->Bool
 | .un ae=>decide (ae.length<=4)&&((ae.all λx=>dq s x&&decide (mu x<mu t))&&(dZ s t==(ae.contains s||ae.any (λx=>dZ s x)||par)))
 |T=>((S.df||T.df)&&(dZ s t==par))||((S.val&&T.val)&&!dZ s t)
def Le(dq:Int->Int->Bool)(mu:Int->Nat)(s t:Int)(S T:Ty):Option Bool->Bool
 |none=>false
 |some par=>Ua dq mu s t S par T
def tG(dq:Int->Int->Bool)(mu:Int->Nat)(s t:Int)(S T:Ty):Bool:=
 if s=t then dZ s t else match S with
 | .un ae=>decide (ae.length<=4)&&((ae.all λx=>dq x t&&decide (mu x<mu s))&&(dZ s t==ae.all λx=>dZ x t))
 |S=>Le dq mu s t S T (Io dq mu s t S)
def Ip(y s t:Int):Bool:=tG (Eo y) (Bp y) s t (q_ s) (q_ t)&&(decide ((s=1\/16<=s)/\16<=t/\s<26/\s≠5/\(s=1->(q_ t).df=true))&&(pA.contains s&&pA.contains t))
def pB:List Int:=[18,23,19,24,25,22,20,16,17]
theorem Iq:(pB.all λy=>(TZ y).all λs=>(T_ y).all λt=>Ip y s t)=true:=by decide+kernel
theorem z6{y s t:Int}(hy:y∈pB)(h:Eo y s t=true):Ip y s t=true:=by unfold Eo at h;rw[bx,jF,jF]at h;exact bc.mp (bc.mp (bc.mp Iq y hy) s h.1) t h.2
section
variable{aa ay:List D}{aE:Int->Int->Bool}{y:Int}
theorem jQ{x:Int}(h:x∈pA):aD du x (q_ x):=by simp only[pA,dH,yc,or_false]at h;rcases h with h|h|h|h|h|h|h|h|h|h|h<;>subst h<;>exact⟨by decide,∅,rfl⟩
theorem Fp(I:cu aa ay){j:Nat}{r:D}(h:wx[j]?=some r):ay[j]?=some r:=uK I.Nj h
theorem Ir{dq:Int->Int->Bool}{mu:Int->Nat}(I:cu aa ay){s t:Int}(ha:∀x,dq x t=true->aE x t=dZ x t){S:Ty}{par:Bool}(h:Io dq mu s t S=some par):MP ay (λs t=>dq s t=true) aE mu s t S par:=by
 cases S with
 |par p=>
  refine aL h λr hb h=>?_;cases r<;>first|exact noS h|skip
  ·rename_i b;have h:(if 0<=p/\p<900000 then Im dq mu s t (if b<0\/b=0 then 1 else b)else none)=some par:=h;by_cases hp:0<=p/\p<900000
   ·rw[if_pos hp]at h;refine⟨b,hp.1,hp.2,Fp I hb,?_,?_⟩
    ·intro e;unfold Im at h;rw[if_pos e]at h;exact(fh h).symm
    ·intro e;unfold Im at h;rw[if_neg e]at h;by_cases hd:dq (if b<0\/b=0 then 1 else b) t=true/\mu (if b<0\/b=0 then 1 else b)<mu s
     ·rw[if_pos hd]at h;exact⟨hd.1,hd.2,by rw[ha _ hd.1];exact(fh h).symm⟩
     ·rw[if_neg hd]at h;cases h
   ·rw[if_neg hp]at h;exact noS h
 |_=>exact(fh h).symm
theorem all_congr{l:List Int}{f g:Int->Bool}(h:∀x∈l,f x=g x):l.all f=l.all g:=by rw[ja,bc,bc];exact forall_congr' λx=>forall_congr' λhx=>by rw[h x hx]
theorem any_congr{l:List Int}{f g:Int->Bool}(h:∀x∈l,f x=g x):l.any f=l.any g:=by rw[ja,uk,uk];exact exists_congr λx=>and_congr_right λhx=>by rw[h x hx]
theorem Fq{dq:Int->Int->Bool}{mu:Int->Nat}(I:cu aa ay)(ha:∀x t,dq x t=true->aE x t=dZ x t){s t:Int}(hq:dq s t=true){S T:Ty}(h:tG dq mu s t S T=true):Step ay (λs t=>dq s t=true) aE mu s t S T:=by
 have Ub:=ha s t hq;by_cases e:s=t
 ·unfold tG at h;rw[if_pos e]at h;exact .same e (by rw[Ub];exact h)
 ·have main:S.fY=false->tG dq mu s t S T=Le dq mu s t S T (Io dq mu s t S):=λnu=>by unfold tG;rw[if_neg e];cases S<;>first|rfl|cases nu
  cases nu:S.fY with
  |true=>
   cases S<;>first|(cases nu;done)|skip
   rename_i ae;unfold tG at h;rw[if_neg e]at h;simp only[bx,dK,bc,fg]at h;obtain⟨h1,h2,h3⟩:=h;refine .un e h1 h2 ?_;rw[Ub,h3];exact all_congr λx hx=>(ha x t (h2 x hx).1).symm
  |false=>
   rw[main nu]at h;cases hp:Io dq mu s t S with
   |none=>rw[hp]at h;cases h
   |some par=>
    rw[hp]at h;have p:=Ir (aE:=aE) I (λx hx=>ha x t hx) hp;cases nt:T.fY with
    |true=>
     cases T<;>first|(cases nt;done)|skip
     rename_i ae;have h:(decide (ae.length<=4)&&((ae.all λx=>dq s x&&decide (mu x<mu t))&&(dZ s t==(ae.contains s||ae.any (λx=>dZ s x)||par))))=true:=h;simp only[bx,dK,bc,fg]at h;obtain⟨h1,h2,h3⟩:=h;refine .to e nu h1 h2 p ?_;rw[Ub,h3,any_congr λx hx=>(ha s x (h2 x hx).1).symm]
    |false=>
     have h:(((S.df||T.df)&&(dZ s t==par))||((S.val&&T.val)&&!dZ s t))=true:=by cases T<;>first|exact h|cases nt
     simp only[mK,bx,fg,Bool.not_eq_true']at h;rcases h with⟨h1,h2⟩|⟨⟨h1,h2⟩,h3⟩
     ·exact .df e nu nt h1 p (by rw[Ub,h2])
     ·exact .val e h1 h2 (by rw[Ub,h3])
theorem uQ(I:cu aa ay)(ha:∀x t,x<26->x≠5->aE x t=dZ x t)(hy:y∈pB):∀s t,Eo y s t=true->Em aa ay (λs t=>Eo y s t=true) aE (Bp y) s t:=by intro s t hq;have hc:=z6 hy hq;unfold Ip at hc;simp only[bx,dK,jF]at hc;obtain⟨c1,⟨c2,c3,c4,c5,c6⟩,c7,c8⟩:=hc;refine⟨q_ s,q_ t,(jQ c7).pre I.pre,(jQ c8).pre I.pre,by unfold zK;omega,by unfold pq;omega,c6,Fq I (λx w hx=>?_) hq c1⟩;have hc:=z6 hy hx;unfold Ip at hc;simp only[bx,dK]at hc;exact ha x w hc.2.1.2.2.1 hc.2.1.2.2.2.1
end
def nk(k:Nat):Int:=fT[k]?.getD 0
def kp(k1 k2:Nat):Int×Int:=kq (q_ (nk k1)) (q_ (nk k2)) (nk k2) (nk k1)
def Rw(k1 k2:Nat):Bool:=dZ (kp k1 k2).1 (kp k1 k2).2
def R7:List Nat:=[0,1,2,3,4,5,6]
theorem iz{k:Nat}(h:k<7):k∈R7:=by have:k=0\/k=1\/k=2\/k=3\/k=4\/k=5\/k=6:=();unfold R7;simpa using this
theorem Nu:(R7.all λa=>R7.all λb=>decide ((kp a b).2∈pB/\Eo (kp a b).2 (kp a b).1 (kp a b).2=true/\Bp (kp a b).2 (kp a b).1+Bp (kp a b).2 (kp a b).2<=3/\(kp a b).1<26/\(kp a b).1≠5))=true:=by decide+kernel
theorem Uc{a b:Nat}(ha:a<7)(hb:b<7):(kp a b).2∈pB/\Eo (kp a b).2 (kp a b).1 (kp a b).2=true/\Bp (kp a b).2 (kp a b).1+Bp (kp a b).2 (kp a b).2<=3/\(kp a b).1<26/\(kp a b).1≠5:=by have:=bc.mp (bc.mp Nu a (iz ha)) b (iz hb);exact of_decide_eq_true this
theorem Nv:(R7.all λa=>R7.all λb=>decide (nk a∈pB/\nk a∈pA/\16<=nk a/\Eo (nk a) (nk b) (nk a)=true/\Bp (nk a) (nk b)+Bp (nk a) (nk a)<=3/\nk b<26/\nk b≠5/\(nk a=nk b<->a=b)))=true:=by decide+kernel
theorem rg{a b:Nat}(ha:a<7)(hb:b<7):nk a∈pB/\nk a∈pA/\16<=nk a/\Eo (nk a) (nk b) (nk a)=true/\Bp (nk a) (nk b)+Bp (nk a) (nk a)<=3/\nk b<26/\nk b≠5/\(nk a=nk b<->a=b):=by have:=bc.mp (bc.mp Nv a (iz ha)) b (iz hb);exact of_decide_eq_true this
def gs(rf:List D)(x y:Int):Bool:=if x=5\/26<=x then eR rf x y else dZ x y
theorem oB{rf:List D}:∀x y,(x=5\/26<=x)->gs rf x y=eR rf x y:=λx y h=>if_pos h
theorem oE{rf:List D}:∀x y,x<26->x≠5->gs rf x y=dZ x y:=λx y h h'=>if_neg ()
theorem Ft:(R7.all λa=>(q_ (nk a)).gB==decide (a<2))=true:=by decide+kernel
theorem Fu{k:Nat}(h:k<7):(q_ (nk k)).gB=decide (k<2):=cj (bc.mp Ft k (iz h))
def rh(t t':az):Bool:=(!decide (iX t'.opt<iX t.opt)&&Rw t.key t'.key)&&cD t t'
def Fv(t t':az):List D:=Bh (wt t.opt t.ro t'.opt t'.ro) (uO (decide (t.key=t'.key)) (decide (t'.key<2)) (decide (t.key<2)) t'.opt t.ro t'.ro) t'.ro (!(cD t t'&&cD t' t))
section
variable{aa ay:List D}{h b:Nat}{pm:List MO}{t t':az}{p p':Nat}{num mj o o' tp lX:Int}{ae pY:List Int}
theorem jq.pre{e_:List D}(hp:aa<+:e_)(L:jq aa t p num o tp ae):jq e_ t p num o tp ae:=⟨L.own.pre hp,L.o26,L.tm.pre hp,L.at_.pre hp,L.pX⟩
theorem z7{P:Int->Prop}{x:Int}(h:TV aa P x):x≠13:=by
 rcases h with h|h
 ·have:=h.1;omega
 ·have:=h.1;omega
theorem Nx{P:Int->Prop}{x:Int}(h:TV aa P x):x=5\/26<=x:=by
 rcases h with h|h
 ·exact h.1
 ·exact h.1
theorem Fw(T:jo aa (af t o) tp ae){a c:Int}(p:jE aa (.tup [.int 15,.int a,.int c]) tp):t.mem=true/\a=bN t.key/\c=o/\ae=[tp]:=by
 rcases T.num with e|⟨y,_⟩
 ·obtain⟨r,hr,q⟩:=T.m1 tp (by rw[e];exact .head _);have:=q.fn p;rw[this]at hr;rcases ng hr with e'|e'|e'|⟨m,e'⟩
  ·cases e'
  ·cases e'
  ·cases e'
  ·injection e' with e1;injection e1 with _ e2;injection e2 with e3 e4;injection e4 with e5 _;injection e3 with e6;injection e5 with e7;exact⟨m,e6,e7,e⟩
 ·have:=p.2;rw[y.at_]at this;cases this
theorem Ud(R:cz aa)(r:D):∃me:Int,∀z,jE aa r z->z=me:=by
 by_cases h:∃z,jE aa r z
 ·obtain⟨z,hz⟩:=h;exact⟨z,λw hw=>hw.inj R hz⟩
 ·exact⟨0,λw hw=>absurd ⟨w,hw⟩ h⟩
theorem uR(I:cu aa ay)(hl:aa.length<=800000)(T:jo aa (af t o) tp ae)(T':jo aa (af t' o) lX pY):decide (tp=lX\/fA aa tp lX=true)=(cD t t'&&cD t' t):=by
 have e:fA aa tp lX=(cD t t'&&cD t' t):=by
  unfold fA;have a:eR aa tp lX=cD t t':=by rw[ja,kF I hl T T',gQ]
  have c:eR aa lX tp=cD t' t:=by rw[ja,kF I hl T' T,gQ]
  rw[a,c]
 rw[<-e];by_cases h:tp=lX
 ·have:fA aa tp lX=true:=by rw[h];unfold fA;rw[jr];rfl
  rw[this];simp
 ·cases q:fA aa tp lX<;>simp[h]
theorem Ue(I:cu aa ay)(hl:aa.length<=500000)(L:jq aa t p num o tp ae)(L':jq aa t' p' mj o' lX pY)(ok:t.Ok)(Ug:t'.Ok)(h5:5<=p)(T:ah pm aa ay)(N:∀aE,gX 0 h b aE (.d .none) [] pm):
  ∃aA rf aE tw,rn 59 51 [.ax b,.d (.int num),.d (uM p (nk t.key) tp t.opt t.ro),.d (uM p' (nk t'.key) lX t'.opt t'.ro)] pm []=some (.d (.bool (rh t t')),aA,[])/\
   gX 2 h b aE tw (if rh t t' then Fv t t' else[]) aA/\ah aA rf ay/\aa<+:rf/\rf.length<=aa.length+10:=by
 obtain⟨tm,⟨h_,T1⟩,RS,pS,lS⟩:=Fm (w:=o') I () L.tm L.own ();have IS:=I.ext RS pS;have T2:=L'.tm.pre pS;generalize hx:(jl aa o' tp).2=x at*
 generalize hr:(jl aa o' tp).1=rs at*
 have kk:=Uc ok.key Ug.key;have It:=gK (P:=λ_=>True) IS () (λ_ _ _=>trivial) T1;have Lg:=gK (P:=λ_=>True) IS () (λ_ _ _=>trivial) T2;have aT:gs rs x lX=cD t t':=by rw[oB _ _ (Nx It),ja,kF IS () T1 T2,gQ]
 have aK:gs rs (kp t.key t'.key).1 (kp t.key t'.key).2=Rw t.key t'.key:=oE _ _ kk.2.2.2.1 kk.2.2.2.2;obtain⟨me,Ru⟩:=Ud RS (.tup [.int 15,.int (bN t'.key),.int o']);have hmu:=oA (aa:=rs) (x:=x);have Uh:=oA (aa:=rs) (x:=lX);have tyA:=jQ (rg ok.key ok.key).2.1;have tyB:=jQ (rg Ug.key Ug.key).2.1;have eD:∀(q:gs rs x lX=true),(λs u:Int=>gs rs x lX=true->TV rs (λz=>z=me) s/\TV rs (λz=>z=me) u)=(λs u=>TV rs (λz=>z=me) s/\TV rs (λz=>z=me) u):=λq=>by funext s u;exact propext ⟨λh=>h q,λh _=>h⟩
 have Q3:gs rs x lX=true->∀s u,(gs rs x lX=true->TV rs (λz=>z=me) s/\TV rs (λz=>z=me) u)->uH rs (λs u=>gs rs x lX=true->TV rs (λz=>z=me) s/\TV rs (λz=>z=me) u) (fA rs) (sU rs) s u:=λq s u hq=>by rw[eD q];exact z3 s u (hq q)
 have q3:gs rs x lX=true->TV rs (λz=>z=me) x/\TV rs (λz=>z=me) lX:=λq=>by rw[aT]at q;refine⟨gK IS () (λz hz m=>?_) T1,gK IS () (λz hz _=>Ru z hz) T2⟩;refine Ru z ?_;have:=jP.mp (gQ.mpr q _ (jP (o:=o').mpr ⟨m,rfl⟩));rw[<-this.2];exact hz
 obtain⟨fR,tw,rf,e1,N1,TA,Fx⟩:=f62 (h:=h) (b:=b) (aE:=gs rs) (iM:=fA rs) (k:=0) (A:=q_ (nk t.key)) (B:=q_ (nk t'.key)) (k1:=nk t.key) (k2:=nk t'.key) (o1:=t.opt) (r1:=t.ro) (o2:=t'.opt) (r2:=t'.ro) (p1:=p) (p2:=p') (t1:=tp) (t2:=lX) (o:=o') 58 (dq:=λs u=>Eo (kp t.key t'.key).2 s u=true)
  (zV:=λs u=>TV rs (λ_=>True) s/\TV rs (λ_=>True) u) (Ih:=λs u=>gs rs x lX=true->TV rs (λz=>z=me) s/\TV rs (λz=>z=me) u) (mu:=Bp (kp t.key t'.key).2) (zW:=sU rs) (Ii:=sU rs) (Prod.ext hr hx:_=(rs,x)) rfl rfl (N _) T ()
  (tyA.pre I.pre) (tyB.pre I.pre) L'.own tm () (uQ I oE kk.1) kk.2.1 kk.2.2.1 (yt oB) ⟨It,Lg⟩ ()
  Q3 (λ_=>q3) () (z7 It) (z7 Lg) (tyA.pre IS.pre) (tyB.pre IS.pre) ()
 rw[aT,uR IS () T1 T2,Fu ok.key,Fu Ug.key,decide_eq_decide.mpr (rg ok.key Ug.key).2.2.2.2.2.2.2]at N1;rw[aT]at e1;rw[show gs rs (kq (q_ (nk t.key)) (q_ (nk t'.key)) (nk t'.key) (nk t.key)).1 (kq (q_ (nk t.key)) (q_ (nk t'.key)) (nk t'.key) (nk t.key)).2=Rw t.key t'.key from aK]at N1 e1;have hp:aa<+:rf:=by
  rcases Fx with e|e
  ·rw[e];exact lH _
  ·rw[e];exact pS
 have Fy:rf.length<=aa.length+5:=by rcases Fx with e|e<;>rw[e]<;>omega
 have ne:lX≠(bM rf (.tup [.int 15,.int num,.int o'])).2:=λe=>by have q:=jN TA.rs (fm num o');rw[<-e]at q;have P:=cM TA.rs (fm num o');have:=(Fw ((L'.tm.pre hp).pre P.pre) q).2.1;have Ui:=L.pX;rw[this]at Ui;unfold bN at Ui;split at Ui<;>omega
 obtain⟨dt,rf2,e2,N2,T3,XE,Te⟩:=f51m 54 (s:=num) e1 N1 TA (L'.own.pre hp) ne ();exact⟨dt,rf2,_,tw,e2,N2,T3,hp.trans XE,()⟩
end
def z8(j:Nat):az:=⟨j,0,0,0,true⟩
def d_(j:Nat)(t:az):Bool:=cD (z8 j) t&&cD t (z8 j)
def ju(j:Nat)(t:az):Bool:=!decide (t.opt=2)&&(d_ j t||(decide (t.opt=0)&&(dZ (nk t.key) (nk j)&&cD (z8 j) t)))
def tH(j:Nat)(t:az):List D:=if d_ j t then Fc (bN j) (q_ (nk t.key)) t.opt t.ro else Fd (decide (t.key=j)) t.ro true
def nj(t:az)(j:Nat):Bool:=!decide (t.opt=1)&&(dZ (nk j) (nk t.key)&&cD t (z8 j))
def wG(t:az):List D:=kr 15::(if t.ro=1 then[kr 4]else[])
theorem Uj:([0,1].all λj=>decide (bN j∈pA/\nk j∈pB/\nk j∈pA))=true:=by decide+kernel
theorem j_ty{j:Nat}(h:j<2):q_ (bN j)= .par j/\q_ (nk j)= .ko (bN j):=by have:j=0\/j=1:=();rcases this with e|e<;>subst e<;>exact⟨rfl,rfl⟩
section
variable{aa ay:List D}{h b:Nat}{pm:List MO}{t:az}{p j:Nat}{num o tp w:Int}{ae:List Int}
theorem wH(I:cu aa ay)(hj:j<2):aD aa (bN j) (.par j)/\aD aa (nk j) (.ko (bN j)):=by
 have a:=bc.mp Uj j (by have:j=0\/j=1:=();simpa using this)
 have a:=of_decide_eq_true a;have e:=j_ty hj;rw[<-e.1,<-e.2];exact⟨(jQ a.1).pre I.pre,(jQ a.2.2).pre I.pre⟩
theorem tI(hj:j<2):af (z8 j) o=[.tup [.int 15,.int (bN j),.int o]]:=by unfold af z8 bN;simp[bg,bit]
theorem ri(hj:j<2)(q:jE aa (.tup [.int 15,.int (bN j),.int o]) w):jo aa (af (z8 j) o) w [w]:=by rw[tI hj];exact⟨λx hx=>⟨_,.head _,by rw[jG.mp hx];exact q⟩,λr hr=>⟨w,.head _,by rw[jG.mp hr];exact q⟩,by simp,by simp,by simp,.inl rfl⟩
theorem Fz(I:cu aa ay)(hl:aa.length<=800000)(hj:j<2)(q:jE aa (.tup [.int 15,.int (bN j),.int o]) w)(T:jo aa (af t o) tp ae):(tp=w)<->d_ j t=true:=by
 have T1:=ri hj q;have e:=uR I hl T1 T;constructor
 ·intro h;unfold d_;rw[<-e,dK];exact .inl h.symm
 ·intro h;have h2:cD t (z8 j)=true:=by unfold d_ at h;rw[bx]at h;exact h.2
  have al:∀z∈ae,z=w:=λz hz=>by obtain⟨r,hr,pz⟩:=T.m1 z hz;have:=gQ.mpr h2 r hr;rw[tI hj,jG]at this;rw[this]at pz;exact pz.inj I.rs q
  rcases T.num with e'|⟨_,l2⟩
  ·exact al tp (by rw[e'];exact .head _)
  ·exact absurd al (Fo T.nd l2 w)
theorem Uk(I:cu aa ay)(hl:aa.length<=500000)(hj:j<2)(L:jq aa t p num o tp ae)(ok:t.Ok)(T:ah pm aa ay)(N:∀aE,gX 0 h b aE (.d .none) [] pm):
  ∃aA rf aE tw,rn 59 51 [.ax b,.d (.int (bN j)),.d (.tup [.int 10,.int j]),.d (uM p (nk t.key) tp t.opt t.ro)] pm []=some (.d (.bool (ju j t)),aA,[])/\
   gX 2 h b aE tw (if ju j t then tH j t else[]) aA/\ah aA rf ay/\aa<+:rf/\rf.length<=aa.length+10:=by
 by_cases c2:t.opt=2
 ·have v:ju j t=false:=by unfold ju;rw[eM c2];rfl
  rw[v,jf];exact⟨pm,aa,dZ,.d .none,f51a (o:=0) 54 (N dZ) (),(N dZ).up (),T,lH _,()⟩
 have jh:=wH I hj;have N0:=N dZ;obtain⟨t0,kn,R,_,_⟩:=N0.ex;have hb:9<=b:=by have:=N0.hb;have:=N0.h9;omega
 obtain⟨fR,e1,T1,K1⟩:=f48 (n:=55) (s:=bN j) (o:=o) (p:=p) (row:=cq p (nk t.key) tp t.opt t.ro) T R.iI hb N0.h9 N0.ih rfl L.own ();have P:=cM I.rs (fm (bN j) o);have q:=jN I.rs (fm (bN j) o);generalize hw:(bM aa (.tup [.int 15,.int (bN j),.int o])).2=w at*
 generalize hr:(bM aa (.tup [.int 15,.int (bN j),.int o])).1=rs at*
 have pS:=P.pre;have lS:=P.len;have IS:=I.ext P.rs pS;have rj:bM rs (.tup [.int 15,.int (bN j),.int o])=(rs,w):=by rw[q8 P.rs q.2,yd q.1]
 have Tt:=L.tm.pre pS;have Tj:=ri hj q;have c3:=Fz IS () hj q Tt;have N1:=λaE=>(N aE).keep K1;have yK:=jQ (rg ok.key ok.key).2.1;have c2':(t.opt:Int)≠2:=();by_cases e3:tp=w
 ·have on:=c3.mp e3;have v:ju j t=true:=by unfold ju;rw[dS c2,on];rfl
  rw[v,lM];have jS:=wH IS hj;obtain⟨iW,e54,N3,T3⟩:=f54 (K:=q_ (nk t.key)) (kk:=nk t.key) (p2:=p) (t2:=tp) (o2:=t.opt) (r2:=t.ro) 58 (N1 dZ) T1 (by simp) () jS.1 jS.2 (yK.pre IS.pre) ();refine⟨iW,rs,dZ,.d .none,f51c 54 c2' N0 e1 e3 e54,?_,T3,pS,()⟩;unfold tH;rw[on,lM];exact N3.up ()
 ·have on:d_ j t=false:=by
   cases q:d_ j t with
   |false=>rfl
   |true=>exact absurd (c3.mpr q) e3
  by_cases c0:t.opt=0
  ·have jS:=wH IS hj;have Ep:=rg (a:=j) (b:=t.key) () ok.key;have It:=gK (P:=λ_=>True) IS () (λ_ _ _=>trivial) Tj;have Lg:=gK (P:=λ_=>True) IS () (λ_ _ _=>trivial) Tt;have aT:gs rs w tp=cD (z8 j) t:=by rw[oB _ _ (Nx It),ja,kF IS () Tj Tt,gQ]
   have aK:gs rs (nk t.key) (nk j)=dZ (nk t.key) (nk j):=oE _ _ Ep.2.2.2.2.2.1 Ep.2.2.2.2.2.2.1;have hmu:=oA (aa:=rs) (x:=w);have Uh:=oA (aa:=rs) (x:=tp);have eD:∀(q:gs rs w tp=true),(λs u:Int=>gs rs w tp=true->TV rs (λz=>z=w) s/\TV rs (λz=>z=w) u)=(λs u=>TV rs (λz=>z=w) s/\TV rs (λz=>z=w) u):=λq=>by funext s u;exact propext ⟨λh=>h q,λh _=>h⟩
   have Q3:gs rs w tp=true->∀s u,(gs rs w tp=true->TV rs (λz=>z=w) s/\TV rs (λz=>z=w) u)->uH rs (λs u=>gs rs w tp=true->TV rs (λz=>z=w) s/\TV rs (λz=>z=w) u) (fA rs) (sU rs) s u:=λq s u hq=>by rw[eD q];exact z3 s u (hq q)
   have q3:gs rs w tp=true->TV rs (λz=>z=w) w/\TV rs (λz=>z=w) tp:=λh=>by rw[aT]at h;refine⟨gK IS () (λz hz m=>hz.inj P.rs q) Tj,gK IS () (λz hz m=>?_) Tt⟩;have:=jP.mp (gQ.mpr h _ (jP (o:=o).mpr ⟨rfl,rfl⟩));have e:bN j=bN t.key:=this.2;rw[<-e]at hz;exact hz.inj P.rs q
   obtain⟨iW,tw,rf,XD,N3,T3,Fx⟩:=f56 (h:=h) (b:=b) (aE:=gs rs) (iM:=fA rs) (k:=0) (s:=bN j) (ks:=nk j) (kk:=nk t.key) (K:=q_ (nk t.key)) (p2:=p) (t2:=tp) (o2:=0) (r2:=t.ro) (o:=o) 58 (dq:=λs u=>Eo (nk j) s u=true)
    (zV:=λs u=>TV rs (λ_=>True) s/\TV rs (λ_=>True) u) (Ih:=λs u=>gs rs w tp=true->TV rs (λz=>z=w) s/\TV rs (λz=>z=w) u) (mu:=Bp (nk j)) (zW:=sU rs) (Ii:=sU rs) rj (N1 _) T1 () ()
    jS.1 jS.2 Ep.2.2.1 (yK.pre IS.pre) (L.own.pre pS) (uQ IS oE Ep.1) Ep.2.2.2.1 Ep.2.2.2.2.1 (yt oB) ⟨It,Lg⟩ (show sU rs w+sU rs tp<=3 by omega)
    Q3 (λ_=>q3) (show sU rs w+sU rs tp<=2 by omega) (z7 It) (z7 Lg) ()
   have Fx:rf=rs:=by rcases Fx with e|e<;>exact e
   rw[aT,aK]at XD N3;rw[uR IS () Tj Tt,show(cD (z8 j) t&&cD t (z8 j))=false from on]at N3;have v:ju j t=(dZ (nk t.key) (nk j)&&cD (z8 j) t):=by unfold ju;rw[dS c2,on,eM c0];rfl
   rw[v];refine⟨iW,rf,gs rs,tw,?_,?_,T3,by rw[Fx];exact pS,by rw[Fx];omega⟩
   ·rw[show(t.opt:Int)=0 by omega];exact f51d 54 (N dZ) (by rw[show(t.opt:Int)=0 by omega]at e1;exact e1) e3 XD
   ·unfold tH;rw[on,jf];rw[decide_eq_decide.mpr (rg ok.key (show j<7 by omega)).2.2.2.2.2.2.2]at N3;exact N3
  ·have v:ju j t=false:=by unfold ju;rw[on,dS c0];simp
   rw[v,jf];have c1:t.opt=1:=by have:=ok.opt;omega
   refine⟨fR,rs,dZ,.d .none,?_,(N1 dZ).up (),T1,pS,()⟩;rw[show(t.opt:Int)=1 by omega]at e1⊢;exact f51e 54 (N dZ) e1 e3
theorem Ul(I:cu aa ay)(hl:aa.length<=500000)(hj:j<2)(L:jq aa t p num o tp ae)(ok:t.Ok)(T:ah pm aa ay)(N:∀aE,gX 0 h b aE (.d .none) [] pm):
  ∃aA rf aE tw,rn 59 49 [.ax b,.d (.int (bN j)),.d (uM p (nk t.key) tp t.opt t.ro)] pm []=some (.d (.bool (nj t j)),aA,[])/\
   gX 2 h b aE tw (if nj t j then wG t else[]) aA/\ah aA rf ay/\aa<+:rf/\rf.length<=aa.length+10:=by
 by_cases c1:t.opt=1
 ·have v:nj t j=false:=by unfold nj;rw[eM c1];rfl
  rw[v,jf];exact⟨pm,aa,dZ,.d .none,f49a 54 (),(N dZ).up (),T,lH _,()⟩
 have jh:=wH I hj;have P:=cM I.rs (fm (bN j) o);have q:=jN I.rs (fm (bN j) o);generalize hw:(bM aa (.tup [.int 15,.int (bN j),.int o])).2=w at*
 generalize hr:(bM aa (.tup [.int 15,.int (bN j),.int o])).1=rs at*
 have pS:=P.pre;have lS:=P.len;have IS:=I.ext P.rs pS;have Tt:=L.tm.pre pS;have Tj:=ri hj q;have Ep:=rg (a:=t.key) (b:=j) ok.key ();have It:=gK (P:=λ_=>True) IS () (λ_ _ _=>trivial) Tj;have Lg:=gK (P:=λ_=>True) IS () (λ_ _ _=>trivial) Tt;have aT:gs rs tp w=cD t (z8 j):=by rw[oB _ _ (Nx Lg),ja,kF IS () Tt Tj,gQ]
 have aK:gs rs (nk j) (nk t.key)=dZ (nk j) (nk t.key):=oE _ _ Ep.2.2.2.2.2.1 Ep.2.2.2.2.2.2.1;have hmu:=oA (aa:=rs) (x:=w);have Uh:=oA (aa:=rs) (x:=tp);obtain⟨iW,rf,e,N3,T3,Fx⟩:=f49 (h:=h) (b:=b) (aE:=gs rs) (k:=0) (t:=bN j) (kt:=nk j) (k1:=nk t.key) (p1:=p) (t1:=tp) (o1:=t.opt) (r1:=t.ro) (o:=o) 59 (dq:=λs u=>Eo (nk t.key) s u=true)
  (zV:=λs u=>TV rs (λ_=>True) s/\TV rs (λ_=>True) u) (mu:=Bp (nk t.key)) (zW:=sU rs) () (N _) T () ()
  jh.2 L.own (uQ I oE Ep.1) Ep.2.2.2.1 Ep.2.2.2.2.1 (by rw[hr];exact yt oB) (by rw[hw];exact⟨Lg,It⟩) (by rw[hw];omega) ()
 rw[hw,aT,aK]at e N3;rw[hr]at Fx;have v:nj t j=(dZ (nk j) (nk t.key)&&cD t (z8 j)):=by unfold nj;rw[dS c1];rfl
 rw[v];refine⟨iW,rf,gs rs,.d .none,e,?_,T3,?_,?_⟩
 ·unfold wG;have e1:((t.ro:Int)=1)<->t.ro=1:=();simpa[e1]using N3
 ·rcases Fx with e|e
  ·rw[e];exact lH _
  ·rw[e];exact pS
 ·rcases Fx with e|e<;>rw[e]<;>omega
end
abbrev aU:=Nat×Bool×Bool
abbrev ig:=List (Nat×aU)
def g7(n:Nat):D:= .str [n]
def oF(e:aU):D:= .tup [.int e.1,.bool e.2.1,.bool e.2.2]
def ki(t:ig):List (D×D):=t.map λp=>(g7 p.1,oF p.2)
def gb(t:ig):D:= .gP (ki t)
def Bq(l:List Nat):D:= .lst (l.map g7)
def FD:List ig:=[[],[(112,32,false,false)],[(112,32,true,false),(113,1,false,true)],[(112,33,false,true),(113,32,true,true)]]
def Lh:List (List Nat)->List Nat->List (List Nat)
 |f,[]=>f
 |f,n::r=>Lh (f++f.map λh=>h++[n]) r
def FF(l:List Nat):List (List Nat):=(Lh [[]] l).drop 1
def Ny(t:ig)(way:Nat):ig:=(t.filterMap λp=>if way=4/\p.2.2.1=true then none else if way=3/\p.2.2.1=true then some (p.1,p.2.1|||8,false,p.2.2.2)else some (p.1,p.2.1,p.2.2.1,p.2.2.2&&!decide (way=2)))++if way=1 then[(122,32,false,false)]else[]
section
variable{pm:List MO}
end
abbrev a8:=ig×ig×List Nat×List Nat×List Nat
def bD(w:a8):D:= .tup [gb w.1,gb w.2.1,Bq w.2.2.1,Bq w.2.2.2.1,Bq w.2.2.2.2]
def c9(t:ig):List Nat:=t.map (·.1)
def Nz(f:Bool)(t:ig):List (List Nat):=if f then FF (c9 t)else[[]]
def smF(f:Bool)(pick:List Nat):List (List Nat):=if f then FF pick else[pick]
def fewF(f:Bool):List (List Nat):=if f then FF [112,113]else[[]]
def Um(f:Bool):Nat:=if f then 5 else 1
def w7(t:ig)(pick sm few:List Nat)(way:Nat):a8:=(t,Ny t way,pick,sm,few)
def w6(f1:Bool)(t:ig)(pick sm few:List Nat):List a8:=(List.range (Um f1)).map (w7 t pick sm few)
def w5(f1 f4:Bool)(t:ig)(pick sm:List Nat):List a8:=(fewF f4).flatMap (w6 f1 t pick sm)
def w4(f1 f3 f4:Bool)(t:ig)(pick:List Nat):List a8:=(smF f3 pick).flatMap (w5 f1 f4 t pick)
def w2(f1 f2 f3 f4:Bool)(t:ig):List a8:=(Nz (f2||f3) t).flatMap (w4 f1 f3 f4 t)
def uS(f1 f2 f3 f4:Bool):List a8:=FD.flatMap (w2 f1 f2 f3 f4)
theorem Un{sp:Spec}{pm aA:List MO}{tm:List TO}{l:List D}{v:D}(h:sp [.aI 0] pm [.list l]=some (.d v,aA,[.list l])):cJ sp [.aI tm.length] ⟨pm,tm++[.list l]⟩=some (.d v,⟨aA,tm++[.list l]⟩):=by exact dn rfl m9 rfl h qt
theorem wJ{ls:Ls}{X:Cx}{s:S}{σ:PS}{r:Ls×PS}(h:exec X s ls σ=some (.next,r.1,r.2)):execs X #[s] ls σ=some (.next,r.1,r.2):=(av h).trans aP
abbrev cW (a b:Int):TO:= .list [.int a,.int b]
theorem NA{P:Nat->Prop}{n:Nat}(h0:P 0)(hs:∀k,k<n->P (k+1)):∀k,k<n+1->P k
 |0,_=>h0
 |k+1,h=>hs k (Nat.lt_of_succ_lt_succ h)
theorem XG{P:Nat->Prop}(h0:P 0)(h1:P 1)(h2:P 2)(h3:P 3)(h4:P 4)(h5:P 5)(h6:P 6):∀k,k<7->P k:=
 NA h0 (NA h1 (NA h2 (NA h3 (NA h4 (NA h5 (NA h6 λ_ h=>absurd h (Nat.not_lt_zero _)))))))
def Iu(a b c:Nat):Bool:=a==c||b==c
theorem f81(n:Nat){pm:List MO}:∀a,a<7->∀b,b<7->rn (n+2) 81 [.aI 0] pm [cW (a:Nat) (b:Nat)]=some (.d (.lst ((uS (Iu a b 1) (Iu a b 2) (Iu a b 3) (Iu a b 4)).map bD)),pm,[cW (a:Nat) (b:Nat)]):=by refine XG ?_ ?_ ?_ ?_ ?_ ?_ ?_<;>refine XG ?_ ?_ ?_ ?_ ?_ ?_ ?_<;>kernel_rfl
def a9(n:Nat):ig->Option aU
 |[]=>none
 |p::r=>if Nat.beq n p.1 then some p.2 else a9 n r
def Br(gt1 o0 o1 o2 r0 r1:Bool)(m:Nat)(mem:Bool)(e:aU):aU:=
 let got:=if mem then(if e.2.1 then(m|||e.1)|||8 else m|||e.1)else m
 if gt1 then(got,o1,r1)else(if o2&&e.2.1 then got&&&55 else got,if o0 then e.2.1 else o1,if r0 then e.2.2 else r1)
theorem NB(a b:Nat):ba (g7 a) (g7 b)=Nat.beq a b:=by exact(Bool.and_true (a==b)).trans (ja.mpr (fg.trans ⟨λe=>by rw[e];exact Nat.beq_refl _,j_⟩))
theorem z9(n:Nat):∀t:ig,kx (g7 n) (ki t)=(a9 n t).map oF
 |[]=>rfl
 |p::r=>by show(if ba (g7 n) (g7 p.1)then some (oF p.2)else kx (g7 n) (ki r))=((if Nat.beq n p.1 then some p.2 else a9 n r):Option aU).map oF;rw[NB,z9 n r];split<;>rfl
theorem z_(n:Nat):∀t:ig,fM (g7 n) (ki t)=(a9 n t).isSome
 |[]=>rfl
 |p::r=>by show(ba (g7 n) (g7 p.1)||fM (g7 n) (ki r))=((if Nat.beq n p.1 then some p.2 else a9 n r):Option aU).isSome;rw[NB,z_ n r];cases Nat.beq n p.1<;>simp
theorem Aa(n:Nat)(e:aU):∀t:ig,a9 n t=none->dput (g7 n) (oF e) (ki t)=ki (t++[(n,e)])
 |[],_=>rfl
 |p::r,h=>by
  have h:((if Nat.beq n p.1 then some p.2 else a9 n r):Option aU)=none:=h;show(if ba (g7 n) (g7 p.1)then(g7 p.1,oF e)::ki r else(g7 p.1,oF p.2)::dput (g7 n) (oF e) (ki r))=_;rw[NB];cases q:Nat.beq n p.1 with
  |true=>rw[q,if_pos rfl]at h;cases h
  |false=>
   rw[q,if_neg ∅]at h;rw[if_neg ∅,Aa n e r h];rfl
theorem yu(n:Nat)(t:ig):jj (g7 n) (ki t)=true:=by cases t<;>rfl
theorem wK(t:ig):jk (ki t)=true:=by cases t<;>rfl
theorem Ab(t:ig):(ki t).map (·.1)=(c9 t).map g7:=by simp[ki,c9,Function.comp_def]
theorem NC(t:ig):(ki t).length=t.length:=by simp[ki]
def b82:Ss:=#[.kc [10,11,12] (.ite (.cmp .lt 'c' 4.0) (.sub 'h' 'j') (.tup #[0.0,.lit (.bool false),.lit (.bool false)])),.asg 13 'f',.ite 'g' #[.asg 13 (.ite 'l' (.bin .bor (.bin .bor 'f' 'k') 8.0) (.bin .bor 'f' 'k'))] .nil,.ite (.cmp .gt 'c' 1.0) #[.hY 'i' 'j' (.tup #['n',.cmp .eq 'd' 1.0,.cmp .eq 'e' 1.0]),.cont] .nil,.ite (.and #[.cmp .eq 'd' 2.0,'l']) #[.asg 13 (.bin .band 'n' 55.0)] .nil,.hY 'i' 'j' (.tup #['n',.ite (.cmp .eq 'd' 0.0) 'l' (.cmp .eq 'd' 1.0),.ite (.cmp .eq 'e' 0.0) 'm' (.cmp .eq 'e' 1.0)])]
abbrev FG (S W B:D) (k o r:Int) (m:Nat) (mem:Bool) (x9 m8 vK ND NF:Option PV):Ls:=[some (.d S),some (.d W),some (.d (.int k)),some (.d (.int o)),some (.d (.int r)),some (.d (.int m)),some (.d (.bool mem)),some (.d B),some (.aI 0),x9,m8,vK,ND,NF]
inductive Rx (S W B:D) (k o r:Int) (m:Nat) (mem:Bool) (x9:Option PV):Ls->Prop
 |mk (m8 vK ND NF:Option PV):Rx S W B k o r m mem x9 (FG S W B k o r m mem x9 m8 vK ND NF)
section
variable{X:Cx}{pm:List MO}{n:Nat}{j:List TO}{ls:Ls}{σ:PS}
theorem NG{c a:E}{b:Bool}{k:Nat}(ht:test X c ls σ=some (b,σ))(ha:eval X a ls σ=some (.d (.int k),σ)):eval X (.ite c (.bin .bor a 8.0) a) ls σ=some (.d (.int (if b then k|||8 else k:Nat)),σ):=by
 cases b with
 |true=>exact iV ht (dB ha aG rfl)
 |false=>exact hZ ht ha
theorem Ac{t:ig}{nm:Nat}{e:aU}(h:a9 nm t=some e):σ.v7 (.d (gb t)) (.d (g7 nm))=some (.d (oF e)):=by show dy (ai sR (kx (g7 nm) (ki t))) (jj (g7 nm) (ki t))=_;rw[yu,z9,h];rfl
theorem Uo{ex:E}{e:aU}{nm:Nat}{done:ig}(h8:ls[8]?= ~~~(.aI 0))(h9:ls[9]?= ~~~(.d (g7 nm)))(hd:a9 nm done=none)(hl:done.length<=100000)(he:eval X ex ls ⟨pm,.dict (ki done)::j⟩=some (.d (oF e),⟨pm,.dict (ki done)::j⟩)):
  exec X (.hY 'i' 'j' ex) ls ⟨pm,.dict (ki done)::j⟩=some (.next,ls,⟨pm,.dict (ki (done++[(nm,e)]))::j⟩):=by
 have ft:fits (ki done)=true:=cT (by rw[NC];omega);have c:PS.A0 ⟨pm,.dict (ki done)::j⟩ (.aI 0) (g7 nm) (oF e)=some ⟨pm,.dict (ki (done++[(nm,e)]))::j⟩:=by show dy (some (PS.mk pm (.dict (dput (g7 nm) (oF e) (ki done))::j))) (jj (g7 nm) (ki done)&&fits (ki done))=_;rw[yu,ft,Aa nm e done hd];rfl
 exact(aq he).trans ((aq (ak h8)).trans ((aq (ak h9)).trans (aq c)))
theorem FH{c a b:E}{t x y:Bool}(h:test X c ls σ=some (t,σ))(h1:eval X a ls σ=some (.d (.bool x),σ))(h2:eval X b ls σ=some (.d (.bool y),σ)):eval X (.ite c a b) ls σ=some (.d (.bool (if t then x else y)),σ):=by
 cases t with
 |true=>exact iV h h1
 |false=>exact hZ h h2
def rl(m:Nat)(mem:Bool)(e:aU):Nat:=if mem then(if e.2.1 then(m|||e.1)|||8 else m|||e.1)else m
variable{S W B:D}{k o r:Int}{m nm:Nat}{mem:Bool}{e:aU}{bt:ig}{m8 vK ND NF:Option PV}
theorem wL{i j k:Nat}{ex:E}{a b c:D}{aj:PS}(h:eval X ex ls σ=some (.d (.tup [a,b,c]),aj)):exec X (.kc [i,j,k] ex) ls σ=some (.next,((ls.set i (some (.d a))).set j (some (.d b))).set k (some (.d c)),aj):=aq h
theorem FI{rr:Ss}(h1:k<4->B=gb bt/\a9 nm bt=some e)(h2:¬k<4->e=(0,false,false)):
  execs X (.cons (.kc [10,11,12] (.ite (.cmp .lt 'c' 4.0) (.sub 'h' 'j') (.tup #[0.0,.lit (.bool false),.lit (.bool false)]))) (.cons (.asg 13 'f') (.cons (.ite 'g' #[.asg 13 (.ite 'l' (.bin .bor (.bin .bor 'f' 'k') 8.0) (.bin .bor 'f' 'k'))] .nil) rr))) (FG S W B k o r m mem (some (.d (g7 nm))) m8 vK ND NF) σ=
  execs X rr (FG S W B k o r m mem (some (.d (g7 nm))) (some (.d (.int e.1))) (some (.d (.bool e.2.1))) (some (.d (.bool e.2.2))) (some (.d (.int (rl m mem e))))) σ:=by
 have e1:eval X (.ite (.cmp .lt 'c' 4.0) (.sub 'h' 'j') (.tup #[0.0,.lit (.bool false),.lit (.bool false)])) (FG S W B k o r m mem (some (.d (g7 nm))) m8 vK ND NF) σ=some (.d (oF e),σ):=
  SY (tLt (ak rfl) aG) (λc=>(h1 (of_decide_eq_true c)).1▸cY (ak rfl) (ak rfl) (Ac (h1 (of_decide_eq_true c)).2)) λc=>h2 (of_decide_eq_false c)▸rfl
 have f_:exec X (.ite 'g' #[.asg 13 (.ite 'l' (.bin .bor (.bin .bor 'f' 'k') 8.0) (.bin .bor 'f' 'k'))] .nil) (FG S W B k o r m mem (some (.d (g7 nm))) (some (.d (.int e.1))) (some (.d (.bool e.2.1))) (some (.d (.bool e.2.2))) (some (.d (.int m)))) σ=some (.next,FG S W B k o r m mem (some (.d (g7 nm))) (some (.d (.int e.1))) (some (.d (.bool e.2.1))) (some (.d (.bool e.2.2))) (some (.d (.int (rl m mem e)))),σ):=by
  cases mem with
  |true=>exact bI rfl ((av (bB (NG (lJ rfl) (dB (ak rfl) (ak rfl) rfl)))).trans aP)
  |false=>exact aS rfl aP
 refine(av (wL (a:= .int e.1) (b:= .bool e.2.1) (c:= .bool e.2.2) e1)).trans ?_;refine(av (bB (ak rfl))).trans ?_;exact av f_
theorem NH{done:ig}(h1:k<4->B=gb bt/\a9 nm bt=some e)(h2:¬k<4->e=(0,false,false))(hd:a9 nm done=none)(hl:done.length<=100000):
  ∃fl bk,execs (aH n) b82 (FG S W B k o r m mem (some (.d (g7 nm))) m8 vK ND NF) ⟨pm,.dict (ki done)::j⟩=
    some (fl,bk,⟨pm,.dict (ki (done++[(nm,Br (decide (1<k)) (o==0) (o==1) (o==2) (r==0) (r==1) m mem e)]))::j⟩)/\(fl= .next\/fl= .cont)/\Rx S W B k o r m mem (some (.d (g7 nm))) bk:=by
 cases c1:decide (1<k)with
 |true=>exact⟨_,_,(FI h1 h2).trans (qk (bI ((Z_ (ak rfl) aG).trans (by rw[c1])) ((av (Uo (e:=(rl m mem e,o==1,r==1)) rfl rfl hd hl (qR (au (ak rfl) (au (SW (ak rfl) aG) (au (SW (ak rfl) aG) bo))) rfl rfl))).trans (qk (s:= .cont) (r:= .nil) rfl)))),.inr rfl,.mk ..⟩
 |false=>
  refine⟨.next,FG S W B k o r m mem (some (.d (g7 nm))) (some (.d (.int e.1))) (some (.d (.bool e.2.1))) (some (.d (.bool e.2.2))) (some (.d (.int (if (o==2)&&e.2.1 then rl m mem e&&&55 else rl m mem e:Nat)))),(FI h1 h2).trans ?_,.inl rfl,.mk ..⟩;refine(av (aS ((Z_ (ak rfl) aG).trans (by rw[c1])) aP)).trans ?_;refine(av (aj:=⟨pm,.dict (ki done)::j⟩) (bz:=FG S W B k o r m mem (some (.d (g7 nm))) (some (.d (.int e.1))) (some (.d (.bool e.2.1))) (some (.d (.bool e.2.2))) (some (.d (.int (if (o==2)&&e.2.1 then rl m mem e&&&55 else rl m mem e:Nat))))) (SX (mR (v_ (ak rfl) aG) (lJ rfl)) (λc=>?_) λc=>?_)).trans ?_
  ·rw[if_pos c];exact(av (bB (dB (ak rfl) aG rfl))).trans aP
  ·rw[if_neg (by rw[c];decide)];exact aP
  refine(av (Uo (e:=Br false (o==0) (o==1) (o==2) (r==0) (r==1) m mem e) rfl rfl hd hl ?_)).trans aP;exact qR (au (ak rfl) (au (FH (v_ (ak rfl) aG) (ak rfl) (SW (ak rfl) aG)) (au (FH (v_ (ak rfl) aG) (ak rfl) (SW (ak rfl) aG)) bo))) rfl rfl
end
theorem oG{n:Nat}:∀{t:ig},n∉c9 t->a9 n t=none
 |[],_=>rfl
 |p::r,h=>by have h1:n≠p.1:=λe=>h (by rw[e];exact .head _);show((if Nat.beq n p.1 then some p.2 else a9 n r):Option aU)=none;rw[wa,dS h1,if_neg ∅,oG λz=>h (.tail _ z)]
def gv(k:Nat)(w:a8):ig:=if k=1 then w.2.1 else w.1
def fE(k:Nat)(w:a8):List Nat:=match k with
 |0=>c9 (gv k w)
 |1=>c9 (gv k w)
 |2=>w.2.2.1
 |3=>w.2.2.2.1
 |4=>w.2.2.2.2
 |5=>[112,113]
 |_=>[112]
def xW(k:Nat)(w:a8):D:=match k with
 |0=>gb (gv k w)
 |1=>gb (gv k w)
 |2=>Bq w.2.2.1
 |3=>Bq w.2.2.2.1
 |4=>Bq w.2.2.2.2
 |5=>Bq [112,113]
 |_=>Bq [112]
def FJ(k:Nat)(w:a8)(nm:Nat):aU:=if k<4 then(a9 nm (gv k w)).getD (0,false,false)else(0,false,false)
def yw(t:az)(e:aU):aU:=Br (decide (1<t.key)) (t.opt==0) (t.opt==1) (t.opt==2) (t.ro==0) (t.ro==1) t.mask t.mem e
def jv(t:az)(w:a8):ig:=(fE t.key w).map λnm=>(nm,yw t (FJ t.key w nm))
def XH(k:Nat)(w:a8):Bool:=decide (fE k w).Nodup&&((!decide (k<4)||(fE k w).all λnm=>(a9 nm (gv k w)).isSome)&&decide ((fE k w).length<=100))
theorem nq(a b:Nat):(((a:Nat):Int)==((b:Nat):Int))=(a==b):=by
 by_cases h:a=b
 ·subst h;simp
 ·have:(a:Int)≠(b:Int):=();rw[show(a==b)=false by simpa using h];simpa using this
section
variable{pm:List MO}{n:Nat}
theorem NI{k o r:Int}{m:Nat}{mem:Bool}{S W B:D}{bt:ig}{ent:Nat->aU}{j:List TO}(l:List Nat):∀(done:ig) {x9:Option PV} {ls:Ls},Rx S W B k o r m mem x9 ls->
  (∀nm∈l,(k<4->B=gb bt/\a9 nm bt=some (ent nm))/\(¬k<4->ent nm=(0,false,false)))->(c9 done++l).Nodup->done.length+l.length<=100000->
  ∃bk y9,dO (λl s=>execs (aH n) b82 l s) (j8 9) (l.map g7) ls ⟨pm,.dict (ki done)::j⟩=
   some (.next,bk,⟨pm,.dict (ki (done++l.map λnm=>(nm,Br (decide (1<k)) (o==0) (o==1) (o==2) (r==0) (r==1) m mem (ent nm))))::j⟩)/\Rx S W B k o r m mem y9 bk:=by
 induction l with
 |nil=>
  intro done x9 ls c _ _ _;exact⟨ls,x9,congrArg (λz=>some (Fl.next,ls,PS.mk pm (TO.dict (ki z)::j))) (ei done).symm,c⟩
 |cons nm l ih=>
  rintro done _ _ ⟨⟩ h nd hl;simp only[eH]at hl;have hn:nm∉c9 done:=λz=>(List.nodup_append.mp nd).2.2 nm z nm (.head _) rfl;obtain⟨fl,ls1,e1,hf,c1⟩:=NH (n:=n) (pm:=pm) (j:=j) (h nm (.head _)).1 (h nm (.head _)).2 (oG hn) ();obtain⟨El,y,e2,c2⟩:=ih (done++[(nm,Br (decide (1<k)) (o==0) (o==1) (o==2) (r==0) (r==1) m mem (ent nm))]) c1 (λz hz=>h z (.tail _ hz)) (by simpa[c9]using nd) (by simp;omega);rw[eI]at e2;exact⟨El,y,hf.elim (λz=>fJ rfl (z▸e1) e2) λz=>zI rfl (z▸e1) e2,c2⟩
theorem NJ{k:Nat}{S:D}{w:a8}{x3 x4 x5 x6:Option PV}{rest:Ls}{σ:PS}:exec (aH n) (.asg 7 (.sub 'b' (.ite (.cmp .eq 'c' 1.0) 1.0 0.0))) (some (.d S)::some (.d (bD w))::some (.d (.int k))::x3::x4::x5::x6::none::rest) σ=
  some (.next,some (.d S)::some (.d (bD w))::some (.d (.int k))::x3::x4::x5::x6::some (.d (gb (gv k w)))::rest,σ):=by
 have t:=v_ (X:=aH n) (σ:=σ) (ls:=some (.d S)::some (.d (bD w))::some (.d (.int k))::x3::x4::x5::x6::none::rest) (a:= .loc 2) (b:= .lit (.int 1)) (i:=k) (j:=1) (ak rfl) aG;have b1:((k:Int)==1)=(k==1):=nq k 1;rw[b1]at t;unfold gv;by_cases h:k=1
 ·subst h;rfl
 ·rw[if_neg h];rw[beq_false_of_ne h]at t;exact bB (cY (ak rfl) (hZ t aG) rfl)
def XI(w:a8)(k:Nat):List D:=[gb (gv k w),gb (gv k w),Bq w.2.2.1,Bq w.2.2.2.1,Bq w.2.2.2.2,Bq [112,113],Bq [112]]
theorem getX{w:a8}{σ:PS}{i:Nat}(k:Nat)(hk:k<7)(h:σ.tm[i]?=some (.list (XI w k))):σ.v7 (.aI i) (.d (.int (k:Nat)))=some (.d (xW k w)):=by show ai (AZ (.int (k:Nat))) (ai toD σ.tm[i]?)=_;rw[h];exact XG (P:=λk=>ai (AZ (.int (k:Nat))) (ai toD (some (.list (XI w k))))=some (.d (xW k w))) rfl rfl rfl rfl rfl rfl rfl k hk
theorem Up{w:a8}{σ:PS}(k:Nat)(hk:k<7):dY σ (.d (xW k w))=some ((fE k w).map g7,σ,.none):=by
 have d:∀t:ig,dY σ (.d (gb t))=some ((c9 t).map g7,σ,.none):=λt=>by show dy (some ((ki t).map (·.1),σ,Lock.none)) (jk (ki t))=_;rw[wK,Ab];rfl
 exact XG (P:=λk=>dY σ (.d (xW k w))=some ((fE k w).map g7,σ,.none)) (d _) (d _) rfl rfl rfl rfl rfl k hk
theorem Uq{k:Nat}{w:a8}(ok:¬k<4\/∀x∈fE k w,(a9 x (gv k w)).isSome=true):∀nm∈fE k w,((k:Int)<4->gb (gv k w)=gb (gv k w)/\a9 nm (gv k w)=some (FJ k w nm))/\(¬(k:Int)<4->FJ k w nm=(0,false,false)):=by
 intro nm hn;unfold FJ;refine⟨λh=>⟨rfl,?_⟩,λh=>if_neg ()⟩;have h:k<4:=();rw[if_pos h];have:=ok.resolve_left (λz=>z h) nm hn;cases z:a9 nm (gv k w)with
 |none=>rw[z]at this;cases this
 |some v=>rfl
theorem Rx.h8{S W B:D}{k o r:Int}{m:Nat}{mem:Bool}{x:Option PV}{ls:Ls}(c:Rx S W B k o r m mem x ls):ls[8]?= ~~~(.aI 0):=by cases c;rfl
theorem f82{t:az}{w:a8}(hk:t.key<7)(ok:XH t.key w=true):rn (n+1) 82 [.d t.d,.d (bD w)] pm []=some (.d (gb (jv t w)),pm,[]):=by
 unfold XH at ok;simp only[bx,mK,Bool.not_eq_true',dK,Ey,bc]at ok;obtain⟨ok1,ok2,ok3⟩:=ok;obtain⟨ls,y,e,c⟩:=NI (n:=n) (pm:=pm) (k:=t.key) (o:=t.opt) (r:=t.ro) (m:=t.mask) (mem:=t.mem) (S:=t.d) (W:=bD w) (B:=gb (gv t.key w)) (j:=[.dead,.dead,.list (XI w t.key)]) (fE t.key w) [] (.mk none none none none) (Uq ok2) ok1 (by simp;omega);have s5:eval (aH n) (.lst #['h','h',.sub 'b' 2.0,.sub 'b' 3.0,.sub 'b' 4.0,.lst #[.lit (.str [112]),.lit (.str [113])],.lst #[.lit (.str [112])]]) (FG t.d (bD w) (gb (gv t.key w)) t.key t.opt t.ro t.mask t.mem none none none none none) ⟨pm,[.dict []]⟩=
  some (.aI 3,⟨pm,[.dict [],.dead,.dead,.list (XI w t.key)]⟩):=rfl
 refine jK (F:=⟨2,14,SI⟩) (Ek:=[some (.d t.d),some (.d (bD w)),none,none,none,none,none,none,none,none,none,none,none,none]) rfl rfl rfl
  (sk (bz:=[some (.d t.d),some (.d (bD w)),none,none,none,none,none,none,none,none,none,none,none,none]) (aj:=⟨pm,[]⟩) rfl
  (sk (bz:=[some (.d t.d),some (.d (bD w)),some (.d (.int t.key)),some (.d (.int t.opt)),some (.d (.int t.ro)),some (.d (.int t.mask)),some (.d (.bool t.mem)),none,none,none,none,none,none,none]) (aj:=⟨pm,[]⟩) rfl
  (sk NJ (sk (bz:=FG t.d (bD w) (gb (gv t.key w)) t.key t.opt t.ro t.mask t.mem none none none none none) (aj:=⟨pm,[.dict []]⟩) rfl
  (sk (uC (cY s5 (ak rfl) (getX (i:=3) t.key hk rfl)) (Up t.key hk) e) (bS (fy (ak c.h8)))))))) ?_
 have c6:decide ((1:Int)<t.key)=decide (1<t.key):=decide_eq_decide.mpr ();unfold jv yw;rw[<-nq t.opt 0,<-nq t.opt 1,<-nq t.opt 2,<-nq t.ro 0,<-nq t.ro 1,<-c6];rfl
theorem f82o{w:a8}{i:Nat}(hi:i<2):rn (n+1) 82 [.d (.tup [.int i]),.d (bD w)] pm []=some (.d (gb (if i=1 then w.2.1 else w.1)),pm,[]):=by have:i=0\/i=1:=();rcases this with h|h<;>subst h<;>dsimp! [rfl]
end
def yx(cU fixed free closed eq3 sub0:Bool):List Int:=
 (if cU&&!free then[11]else if !closed&&!eq3 then[3]else[])++((if sub0 then[]else[0])++(if fixed&&!closed then[4]else[]))
def eF(kind:Nat)(free:Bool):Nat:=if free then kind|||8 else kind
def dg(gu:Nat)(cU free:Bool):Nat:=if cU&&!free then gu&&&55 else if cU then gu|||8 else gu
def iO:Option aU->aU->List Int
 |none,e=>if e.2.1 then[]else[11]
 |some s,e=>yx s.2.1 s.2.2 e.2.1 e.2.2 (dg s.1 s.2.1 e.2.1==eF e.1 e.2.1) ((dg s.1 s.2.1 e.2.1&&&eF e.1 e.2.1)==dg s.1 s.2.1 e.2.1)
def pZ(one other:ig):List Int:=(c9 other).flatMap λnm=>iO (a9 nm one) ((a9 nm other).getD (0,false,false))
def Ur:Ss:=#[.kc [4,5,6] (.sub 'b' 'd'),.ite (.cmp .eW 'd' 'a') #[.ite (.nt 'f') #[.expr (.aR 'c' 0 #[11.0])] .nil,.cont] .nil,.kc [7,8,9] (.sub 'a' 'd'),.asg 10 (.ite 'f' (.bin .bor 'e' 8.0) 'e'),.asg 11 (.ite 'i' (.bin .bor 'h' 8.0) 'h'),.ite (.and #['i',.nt 'f']) #[.expr (.aR 'c' 0 #[11.0]),.asg 11 (.bin .band 'h' 55.0)] #[.ite (.and #[.nt 'g',.cmp .ne 'l' 'k']) #[.expr (.aR 'c' 0 #[3.0])] .nil],.ite (.cmp .ne (.bin .band 'l' 'k') 'l') #[.expr (.aR 'c' 0 #[0.0])] .nil,.ite (.and #['j',.nt 'g']) #[.expr (.aR 'c' 0 #[4.0])] .nil]
def sW(A B:D)(x3 x4 x5 x6 x7 x8 x9 m8 vK:Option PV):Ls:=[some (.d A),some (.d B),some (.aI 0),x3,x4,x5,x6,x7,x8,x9,m8,vK]
inductive Sc (A B:D) (x:Option PV):Ls->Prop
 |mk (x4 x5 x6 x7 x8 x9 m8 vK:Option PV):Sc A B x (sW A B x x4 x5 x6 x7 x8 x9 m8 vK)
section
variable{pm:List MO}{n:Nat}{ls:Ls}{acc:List D}
theorem apF{k:Int}(h:ls[2]?= ~~~(.aI 0))(hl:acc.length<=1000000):exec (aH n) (.expr (.aR 'c' 0 #[.lit (.int k)])) ls ⟨pm,[.list acc]⟩=some (.next,ls,⟨pm,[.list (acc++[.int k])]⟩):=
 qj (ER (r:=(.d .none,⟨pm,[.list (acc++[.int k])]⟩)) (ak h) rfl rfl (au aG bo) (by show dy (some (PV.d .none,PS.mk pm [TO.list (acc++[.int k])])) (fits acc)=_;rw[cT hl];rfl)) rfl
def Iv(b:Bool)(l:List Int):List Int:=if b then l else[]
theorem Iw{c:E}{b:Bool}{k:Int}(h:ls[2]?= ~~~(.aI 0))(hl:acc.length<=1000000)(ht:test (aH n) c ls ⟨pm,[.list acc]⟩=some (b,⟨pm,[.list acc]⟩)):
  exec (aH n) (.ite c #[.expr (.aR 'c' 0 #[.lit (.int k)])] .nil) ls ⟨pm,[.list acc]⟩=some (.next,ls,⟨pm,[.list (acc++(Iv b [k]).map .int)]⟩):=by
 cases b with
 |true=>exact bI ht ((av (apF h hl)).trans aP)
 |false=>
  refine(aS ht aP).trans ?_;show some (Fl.next,ls,PS.mk pm [.list acc])=some (.next,ls,⟨pm,[.list (acc++[])]⟩);rw[ei]
theorem neT{X:Cx}{σ:PS}{a b:E}{i j:Nat}(h1:eval X a ls σ=some (.d (.int i),σ))(h2:eval X b ls σ=some (.d (.int j),σ)):test X (.cmp .ne a b) ls σ=some (!(i==j),σ):=by rw[<-nq];exact aq (bW h1 h2 rfl)
theorem Us{X:Cx}{σ:PS}{i j v1 v2 v3:Nat}{t:ig}{nm:Nat}{e:aU}(h1:ls[i]?= ~~~(.d (gb t)))(h2:ls[j]?= ~~~(.d (g7 nm)))(h:a9 nm t=some e):
  exec X (.kc [v1,v2,v3] (.sub (.loc i) (.loc j))) ls σ=some (.next,((ls.set v1 (some (.d (.int e.1)))).set v2 (some (.d (.bool e.2.1)))).set v3 (some (.d (.bool e.2.2))),σ):=by
 exact wL (cY (ak h1) (ak h2) (Ac h))
theorem NK{σ:PS}{X:Cx}{i j:Nat}{t:ig}{nm:Nat}(h1:ls[i]?= ~~~(.d (gb t)))(h2:ls[j]?= ~~~(.d (g7 nm))):test X (.cmp .eW (.loc j) (.loc i)) ls σ=some (!(a9 nm t).isSome,σ):=by
 have g:isIn σ (.d (g7 nm)) (.d (gb t))=some (a9 nm t).isSome:=by show dy (some (fM (g7 nm) (ki t))) (jj (g7 nm) (ki t))=_;rw[yu,z_];rfl
 have c:compare .eW (.d (g7 nm)) (.d (gb t)) σ=some (!(a9 nm t).isSome):=aq g;exact aq (bW (ak h2) (ak h1) c)
variable{A B:D}{x4 x5 x6 x7 x8 x9 m8 vK:Option PV}
theorem Ad(b:Bool)(k:Int):(Iv b [k]).length<=1:=by cases b<;>simp[Iv]
theorem flt0{kind:Nat}{free closed:Bool}:iO none (kind,free,closed)=Iv (!free) [11]:=by cases free<;>rfl
theorem flt3(hv kind:Nat)(cU fixed free closed:Bool):iO (some (hv,cU,fixed)) (kind,free,closed)=(if cU&&!free then[11]else Iv (!closed&&!(dg hv cU free==eF kind free)) [3])++(Iv (!(dg hv cU free&&&eF kind free==dg hv cU free)) [0]++Iv (fixed&&!closed) [4]):=by show _++((if (dg hv cU free&&&eF kind free==dg hv cU free)=true then[]else[0])++_)=_;cases (dg hv cU free&&&eF kind free==dg hv cU free)<;>rfl
theorem Ut{x:Option PV}{fixed:Bool}(hv kind:Nat)(cU free closed:Bool)(hl:acc.length<=1000000):∃L:List Int,exec (aH n) (.ite (.and #['i',.nt 'f']) #[.expr (.aR 'c' 0 #[11.0]),.asg 11 (.bin .band 'h' 55.0)] #[.ite (.and #[.nt 'g',.cmp .ne 'l' 'k']) #[.expr (.aR 'c' 0 #[3.0])] .nil])
   (sW A B x (some (.d (.int kind))) (some (.d (.bool free))) (some (.d (.bool closed))) (some (.d (.int hv))) (some (.d (.bool cU))) (some (.d (.bool fixed))) (some (.d (.int (eF kind free)))) (some (.d (.int (if cU then hv|||8 else hv:Nat))))) ⟨pm,[.list acc]⟩=
  some (.next,sW A B x (some (.d (.int kind))) (some (.d (.bool free))) (some (.d (.bool closed))) (some (.d (.int hv))) (some (.d (.bool cU))) (some (.d (.bool fixed))) (some (.d (.int (eF kind free)))) (some (.d (.int (dg hv cU free)))),⟨pm,[.list (acc++L.map .int)]⟩)/\L.length<=1/\L=(if cU&&!free then[11]else Iv (!closed&&!(dg hv cU free==eF kind free)) [3]):=by
 unfold dg;cases h:cU&&!free with
 |true=>
  have t6:∀m8 vK σ,test (aH n) (.and #['i',.nt 'f']) (sW A B x (some (.d (.int kind))) (some (.d (.bool free))) (some (.d (.bool closed))) (some (.d (.int hv))) (some (.d (.bool cU))) (some (.d (.bool fixed))) m8 vK) σ=some (true,σ):=λ_ _ _=>h▸mR (lJ rfl) (MG (lJ rfl));exact⟨[11],bI (t6 _ _ _) ((av (apF rfl hl)).trans ((av (bB (dB (ak rfl) aG rfl))).trans aP)),dJ _,rfl⟩
 |false=>
  have t6:∀m8 vK σ,test (aH n) (.and #['i',.nt 'f']) (sW A B x (some (.d (.int kind))) (some (.d (.bool free))) (some (.d (.bool closed))) (some (.d (.int hv))) (some (.d (.bool cU))) (some (.d (.bool fixed))) m8 vK) σ=some (false,σ):=λ_ _ _=>h▸mR (lJ rfl) (MG (lJ rfl));exact⟨Iv (!closed&&!((if cU then hv|||8 else hv)==eF kind free)) [3],aS (t6 _ _ _) ((av (Iw rfl hl (mR (MG (lJ rfl)) (neT (i:=if cU then hv|||8 else hv) (j:=eF kind free) (ak rfl) (ak rfl))))).trans aP),Ad _ _,rfl⟩
theorem NL{one other:ig}{nm:Nat}{e:aU}(h1:a9 nm other=some e)(hl:acc.length<=100000):
  ∃fl bk,execs (aH n) Ur (sW (gb one) (gb other) (some (.d (g7 nm))) x4 x5 x6 x7 x8 x9 m8 vK) ⟨pm,[.list acc]⟩=
    some (fl,bk,⟨pm,[.list (acc++(iO (a9 nm one) e).map .int)]⟩)/\Sc (gb one) (gb other) (some (.d (g7 nm))) bk/\(fl= .next\/fl= .cont):=by
 have l1:acc.length<=1000000:=();unfold Ur;rw[av (Us (i:=1) (j:=3) rfl rfl h1)];obtain⟨kind,free,closed⟩:=e;have tn:=NK (X:=aH n) (σ:=⟨pm,[.list acc]⟩) (i:=0) (j:=3) (t:=one) (nm:=nm) (ls:=sW (gb one) (gb other) (some (.d (g7 nm))) (some (.d (.int kind))) (some (.d (.bool free))) (some (.d (.bool closed))) x7 x8 x9 m8 vK) rfl rfl;cases hs:a9 nm one with
 |none=>
  rw[hs]at tn;have c:=bI (b:= .nil) tn ((av (Iw (b:=!free) (k:=11) rfl l1 (MG (lJ (i:=5) rfl)))).trans ((qk (s:= .cont) (r:= .nil) rfl)));rw[flt0];exact⟨_,_,qk c,.mk ..,.inr rfl⟩
 |some s=>
  rw[hs]at tn;obtain⟨hv,cU,fixed⟩:=s;obtain⟨L,s6,lL,eL⟩:=Ut (n:=n) (pm:=pm) (A:=gb one) (B:=gb other) (x:=some (.d (g7 nm))) (fixed:=fixed) hv kind cU free closed l1;rw[flt3,<-eL,List.map_append,List.map_append,<-eI,<-eI];refine⟨_,_,(av (aS tn aP)).trans ((av (Us (i:=0) (j:=3) rfl rfl hs)).trans ((av (bB (NG (lJ rfl) (ak rfl)))).trans ((av (bB (NG (lJ rfl) (ak rfl)))).trans ((av s6).trans ((av (Iw rfl (by simp;omega) (neT (dB (ak rfl) (ak rfl) rfl) (ak rfl)))).trans ((av (Iw (b:=fixed&&!closed) rfl ?_ (mR (lJ rfl) (MG (lJ rfl))))).trans aP)))))),.mk ..,.inl rfl⟩;have:=Ad (!(dg hv cU free&&&eF kind free==dg hv cU free)) 0;simp;omega
end
theorem oH{n:Nat}:∀{t:ig},n∈c9 t->∃e,a9 n t=some e
 |[],h=>nomatch h
 |p::r,h=>by
  show∃e,((if Nat.beq n p.1 then some p.2 else a9 n r):Option aU)=some e;cases q:Nat.beq n p.1 with
  |true=>exact⟨p.2,rfl⟩
  |false=>
   rcases dH.mp h with e|h
   ·rw[e,Nat.beq_refl]at q;cases q
   ·exact oH h
theorem Ae(o:Option aU)(e:aU):(iO o e).length<=3:=by
 obtain⟨k,f,c⟩:=e;cases o with
 |none=>cases f<;>simp[iO]
 |some s=>
  unfold iO yx;simp only[eh];have h1:(if (s.2.1&&!f)=true then[(11:Int)]else if (!c&&!(dg s.1 s.2.1 f==eF k f))=true then[3]else[]).length<=1:=by
   split
   ·exact dJ _
   ·split
    ·exact dJ _
    ·exact eJ _
  have h2:(if ((dg s.1 s.2.1 f&&&eF k f)==dg s.1 s.2.1 f)=true then[]else[(0:Int)]).length<=1:=by split;exact eJ _;exact dJ _
  have h3:(if (s.2.2&&!c)=true then[(4:Int)]else[]).length<=1:=by split;exact dJ _;exact eJ _
  exact ji h1 (ji h2 h3)
section
variable{pm:List MO}{n:Nat}
theorem NM{one other:ig}(l:List Nat):∀(acc:List D) {x3:Option PV} {ls:Ls},Sc (gb one) (gb other) x3 ls->(∀nm∈l,nm∈c9 other)->acc.length+3*l.length<=100000->
  ∃bk y3,dO (λl s=>execs (aH n) Ur l s) (j8 3) (l.map g7) ls ⟨pm,[.list acc]⟩=
   some (.next,bk,⟨pm,[.list (acc++(l.flatMap λnm=>iO (a9 nm one) ((a9 nm other).getD (0,false,false))).map .int)]⟩)/\Sc (gb one) (gb other) y3 bk:=by
 induction l with
 |nil=>
  intro acc x3 ls c _ _;exact⟨ls,x3,congrArg (λz=>some (Fl.next,ls,PS.mk pm [TO.list z])) (ei acc).symm,c⟩
 |cons nm l ih=>
  rintro acc _ _ ⟨⟩ h hl;simp only[eH]at hl;obtain⟨e,he⟩:=oH (h nm (.head _));obtain⟨fl,ls1,e1,c1,hf⟩:=NL (n:=n) (pm:=pm) (one:=one) (acc:=acc) he ();obtain⟨El,y,e2,c2⟩:=ih (acc++(iO (a9 nm one) e).map .int) c1 (λz hz=>h z (.tail _ hz)) (by rw[eh,eT];exact od1 hl (hV (Ae _ _) _));refine⟨El,y,?_,c2⟩;have ee:(List.flatMap (λnm=>iO (a9 nm one) ((a9 nm other).getD (0,false,false))) (nm::l))=iO (a9 nm one) e++l.flatMap λnm=>iO (a9 nm one) ((a9 nm other).getD (0,false,false)):=by rw[List.flatMap_cons,he];rfl
  rw[ee,List.map_append,<-eI,<-e2];exact hf.elim (λz=>fJ rfl (z▸e1) rfl) λz=>zI rfl (z▸e1) rfl
theorem f83{one other:ig}(hl:other.length<=100):rn (n+1) 83 [.d (gb one),.d (gb other)] pm []=some (.d (.lst ((pZ one other).map .int)),pm,[]):=by
 have hn:(c9 other).length<=100:=by simpa[c9]using hl
 obtain⟨ls,y3,e,c⟩:=NM (n:=n) (pm:=pm) (one:=one) (other:=other) (x3:=none) (c9 other) [] (.mk none none none none none none none none) (λ_ h=>h) (by simp;omega);cases c;have s1:exec (aH n) (.asg 2 (.lst .nil)) [some (.d (gb one)),some (.d (gb other)),none,none,none,none,none,none,none,none,none,none] ⟨pm,[]⟩=some (.next,sW (gb one) (gb other) none none none none none none none none none,⟨pm,[.list []]⟩):=by dsimp! [rfl]
 have s2:=uC (X:=aH n) (i:=3) (b:=Ur) (it:= .loc 1) (ls:=sW (gb one) (gb other) none none none none none none none none none) (σ:=⟨pm,[.list []]⟩) (x:= .d (gb other)) (fw:= .none) (ak rfl) (by show dy _ (jk _)=_;rw[wK];exact congrArg (λz=>some (z,_,_)) (Ab _)) e;rw[cG [some (.d (gb one)),some (.d (gb other)),none,none,none,none,none,none,none,none,none,none] (show pQ 83=some ⟨2,12,Mk⟩from rfl) rfl rfl];unfold Mk;dsimp only;rw[av s1];unfold Ur at s2;rw[av s2,bS (fy (ak (show(sW _ _ _ _ _ _ _ _ _ _ _)[2]?= ~~~(.aI 0)from rfl)))];rfl
end
abbrev jR:=Option aU×aU
def eA(k:Nat):aU:=(k,false,false)
def sA(k:Nat):Option aU:=some (k,false,false)
def eB(k:Nat):aU:=(k,true,false)
def sB(k:Nat):Option aU:=some (k,true,false)
def eC(k:Nat):aU:=(k,false,true)
def sC(k:Nat):Option aU:=some (k,false,true)
def eD(k:Nat):aU:=(k,true,true)
def sD(k:Nat):Option aU:=some (k,true,true)
def S0:List jR:=[(sA 32,eA 32),(sB 32,eB 32),(sC 1,eC 1),(sC 33,eC 33),(sD 32,eD 32)]
def S1:List jR:=[(none,eA 32),(sA 32,eA 32),(sB 32,eB 32),(sC 1,eC 1),(sC 1,eA 1),(sB 32,eA 40),(sC 33,eC 33),(sD 32,eD 32),(sC 33,eA 33),(sD 32,eB 32),(sD 32,eC 40)]
def S2:List jR:=[(none,eA 0),(sA 32,eA 0),(sB 32,eA 0),(sC 1,eA 0),(sC 33,eA 0),(sD 32,eA 0)]
def S3:List jR:=[(none,eA 0),(sA 32,eA 0),(sB 32,eA 0),(sC 33,eA 0)]
def S4:List jR:=[(sA 32,eA 32),(sB 32,eB 32),(sC 1,eC 1),(sA 1,eC 1),(sA 40,eB 32),(none,eB 32),(sC 33,eC 33),(sD 32,eD 32),(sA 33,eC 33),(sB 32,eD 32),(sC 40,eD 32),(none,eD 32)]
def S5:List jR:=[(sA 32,eA 32),(sB 32,eB 32),(sC 1,eC 1),(sA 1,eA 1),(sA 40,eA 40),(sC 33,eC 33),(sD 32,eD 32),(sA 33,eA 33),(sC 40,eC 40)]
def S6:List jR:=[(sA 32,eA 32),(sB 32,eB 32),(sA 40,eB 32),(none,eB 32),(sC 1,eC 1),(sA 1,eC 1),(sC 33,eC 33),(sA 33,eC 33),(sD 32,eD 32),(sB 32,eD 32),(sC 40,eD 32),(none,eD 32)]
def S7:List jR:=[(none,eA 0),(sA 32,eA 0),(sB 32,eA 0),(sA 40,eA 0),(sC 1,eA 0),(sA 1,eA 0),(sC 33,eA 0),(sA 33,eA 0),(sD 32,eA 0),(sC 40,eA 0)]
def S8:List jR:=[(none,eA 0),(sA 32,eA 0),(sB 32,eA 0),(sC 1,eA 0),(sA 1,eA 0),(sA 40,eA 0),(sC 33,eA 0),(sD 32,eA 0),(sA 33,eA 0),(sC 40,eA 0)]
def S9:List jR:=[(none,eA 0),(sA 32,eA 0),(sB 32,eA 0),(sA 40,eA 0),(sC 33,eA 0),(sA 33,eA 0)]
def S10:List jR:=[(sA 32,eA 32),(sB 32,eB 32),(none,eC 1),(none,eB 32),(sC 1,eC 1),(sC 33,eC 33),(none,eD 32),(none,eC 33),(sD 32,eD 32)]
def S11:List jR:=[(sA 32,eA 32),(none,eA 32),(sB 32,eB 32),(none,eC 1),(none,eA 1),(sB 32,eA 40),(none,eB 32),(sC 1,eC 1),(sC 1,eA 1),(none,eA 40),(sC 33,eC 33),(none,eD 32),(sC 33,eA 33),(none,eC 40),(none,eC 33),(sD 32,eD 32),(none,eA 33),(sD 32,eB 32),(sD 32,eC 40)]
def S12:List jR:=[(sA 32,eA 0),(none,eA 0),(sB 32,eA 0),(sC 1,eA 0),(sC 33,eA 0),(sD 32,eA 0)]
def S13:List jR:=[(sA 32,eA 0),(sB 32,eA 0),(none,eA 0),(sC 33,eA 0)]
def S14:List jR:=[(sA 32,eA 32),(sB 32,eB 32),(sC 1,eC 1),(none,eC 1),(none,eB 32),(sC 33,eC 33),(sD 32,eD 32),(none,eD 32),(none,eC 33)]
def S15:List jR:=[(sA 0,eA 32),(none,eA 32),(sA 0,eB 32),(none,eC 1),(none,eB 32),(sA 0,eC 1),(sA 0,eC 33),(none,eD 32),(none,eC 33),(sA 0,eD 32)]
def S16:List jR:=[(none,eA 32),(sA 0,eA 32),(sA 0,eB 32),(none,eC 1),(none,eA 1),(sA 0,eA 40),(none,eB 32),(sA 0,eC 1),(sA 0,eA 1),(none,eA 40),(sA 0,eC 33),(none,eD 32),(sA 0,eA 33),(none,eC 40),(none,eC 33),(sA 0,eD 32),(none,eA 33),(sA 0,eC 40)]
def S17:List jR:=[(sA 0,eA 32),(none,eA 32),(sA 0,eB 32),(none,eB 32),(none,eC 1),(sA 0,eC 1),(sA 0,eC 33),(none,eC 33),(none,eD 32),(sA 0,eD 32)]
def S18:List jR:=[(sA 0,eA 0)]
def S19:List jR:=[(sA 0,eA 0),(none,eA 0)]
def S20:List jR:=[(sA 0,eA 32),(sA 0,eB 32),(sA 0,eC 1),(sA 0,eC 33),(sA 0,eD 32)]
def S21:List jR:=[(none,eA 32),(sA 0,eA 32),(sA 0,eB 32),(sA 0,eC 1),(sA 0,eA 1),(sA 0,eA 40),(sA 0,eC 33),(sA 0,eD 32),(sA 0,eA 33),(sA 0,eC 40)]
def S22:List jR:=[(sA 0,eA 32),(sA 0,eB 32),(none,eC 1),(sA 0,eC 33),(none,eD 32)]
def S23:List jR:=[(none,eA 32),(sA 0,eA 32),(sA 0,eB 32),(none,eC 1),(none,eA 1),(sA 0,eA 40),(sA 0,eC 33),(none,eD 32),(sA 0,eA 33),(none,eB 32),(none,eC 40)]
def Uu:List Nat:=[0,1,0,0,2,2,3,0,1,4,5,6,6,7,8,9,4,5,10,11,0,0,12,12,13,10,11,10,11,14,0,12,12,13,10,11,15,16,17,17,18,19,19,15,16,20,21,20,20,18,18,18,20,21,22,23,22,22,19,19,18,22,23,0,1,0,0,2,2,3,0,0,4,5,6,6,7,8,9,0,0]
def dP(a b:Nat):List jR:=match Uu[9*a+b]? with
 |some 0=>S0
 |some 1=>S1
 |some 2=>S2
 |some 3=>S3
 |some 4=>S4
 |some 5=>S5
 |some 6=>S6
 |some 7=>S7
 |some 8=>S8
 |some 9=>S9
 |some 10=>S10
 |some 11=>S11
 |some 12=>S12
 |some 13=>S13
 |some 14=>S14
 |some 15=>S15
 |some 16=>S16
 |some 17=>S17
 |some 18=>S18
 |some 19=>S19
 |some 20=>S20
 |some 21=>S21
 |some 22=>S22
 |some 23=>S23
 |_=>[]
def cK(a:Nat):Nat:=if a<7 then a else 1
def Iy(a b c:Nat):Bool:=cK a==c||cK b==c
def bY(a b:Nat):List a8:=uS (Iy a b 1) (Iy a b 2) (Iy a b 3) (Iy a b 4)
def Bs(a:Nat)(w:a8):ig:=if a=7 then w.1 else w.2.1
def iB(a:Nat)(w:a8):List Nat:=if a<7 then fE a w else c9 (Bs a w)
def FK(a:Nat)(w:a8)(nm:Nat):aU:=if a<7 then FJ a w nm else(a9 nm (Bs a w)).getD (0,false,false)
def Iz(a b:Nat)(w:a8)(nm:Nat):jR:=(if (iB a w).contains nm then some (FK a w nm)else none,FK b w nm)
def genS(a b:Nat):List jR:=(bY a b).flatMap λw=>(iB b w).map (Iz a b w)
def Li(a:Nat)(w:a8):Bool:=if a<7 then XH a w else decide ((Bs a w).length<=100)
def iZ(a b:Nat):Bool:=((genS a b).all λs=>(dP a b).contains s)&&(((dP a b).all λs=>(genS a b).contains s)&&((bY a b).all λw=>Li a w&&Li b w))
def R9:List Nat:=[0,1,2,3,4,5,6,7,8]
theorem sit0:(R9.all λb=>iZ 0 b)=true:=by decide+kernel
theorem sit1:(R9.all λb=>iZ 1 b)=true:=by decide+kernel
theorem sit2:(R9.all λb=>iZ 2 b)=true:=by decide+kernel
theorem sit3:(R9.all λb=>iZ 3 b)=true:=by decide+kernel
theorem sit4:(R9.all λb=>iZ 4 b)=true:=by decide+kernel
theorem sit5:(R9.all λb=>iZ 5 b)=true:=by decide+kernel
theorem sit6:(R9.all λb=>iZ 6 b)=true:=by decide+kernel
theorem sit7:(R7.all λb=>iZ 7 b)=true:=by decide+kernel
theorem sit8:(R7.all λb=>iZ 8 b)=true:=by decide+kernel
def fw(g:Bool)(o:Nat)(e:aU):Bool:=if g then o==1 else if o==0 then e.2.1 else o==1
def fx(g:Bool)(r:Nat)(e:aU):Bool:=if g then r==1 else if r==0 then e.2.2 else r==1
def IA(m:Nat)(mem:Bool)(e:aU):Nat:=if mem then(if e.2.1 then(m|||e.1)|||8 else m|||e.1)else m
def mk(g:Bool)(o m:Nat)(mem:Bool)(e:aU):Nat:=if g then IA m mem e else if o==2&&e.2.1 then IA m mem e&&&55 else IA m mem e
theorem Af(t:az)(e:aU):yw t e=(mk (decide (1<t.key)) t.opt t.mask t.mem e,fw (decide (1<t.key)) t.opt e,fx (decide (1<t.key)) t.ro e):=by unfold yw Br mk fw fx IA;cases decide (1<t.key)<;>rfl
def Ry(L1 L2:aU->Bool)(s:jR):Bool:=match s.1 with
 |none=>!L2 s.2
 |some a=>L1 a&&!L2 s.2
def jw(X1 X2:aU->Bool)(s:jR):Bool:=match s.1 with
 |none=>false
 |some a=>X1 a&&!X2 s.2
def f_(L1 L2 X2:aU->Bool)(q:aU->aU->Bool)(s:jR):Bool:=match s.1 with
 |none=>false
 |some a=>!(L1 a&&!L2 s.2)&&(!X2 s.2&&!q a s.2)
def s0(q:aU->aU->Bool)(s:jR):Bool:=match s.1 with
 |none=>false
 |some a=>!q a s.2
def eqQ(M1 M2:aU->Nat)(L1 L2:aU->Bool)(a e:aU):Bool:=dg (M1 a) (L1 a) (L2 e)==eF (M2 e) (L2 e)
def HF(M1 M2:aU->Nat)(L1 L2:aU->Bool)(a e:aU):Bool:=(dg (M1 a) (L1 a) (L2 e)&&&eF (M2 e) (L2 e))==dg (M1 a) (L1 a) (L2 e)
def dE(b:Bool)(f:Bool->Bool):Bool:=match b with
 |true=>f true
 |false=>f false
theorem FL(b:Bool)(f:Bool->Bool):dE b f=f b:=by cases b<;>rfl
def BB:List Bool:=[false,true]
def R3:List Nat:=[0,1,2]
def rk(o:Nat):Nat:=if o==2 then 0 else o+1
def IB(K1 K2:Nat):Bool:=K1==K2||[(1,0),(0,2),(0,3),(2,3),(5,4),(5,6)].contains (K1,K2)
def FN(K1 K2 o1 o2:Nat):Bool:=if K2==2||K2==3 then o2==0&&!(o1==1)else K1==1&&(K2==0&&o1==2)
def XJ(kq a1 a2:Bool)(r1 r2:Nat):Bool:=(r1==1&&!(r2==1))||((r1==0&&r2==2)||(!kq&&(!a2&&(r1==0&&(r2==0&&a1)))))
def XM(kq a2 eq:Bool)(o1 o2 r2:Nat):Bool:=!(r2==1)&&(!(o1==o2)||((!kq&&(o2==0&&a2))||!eq))
def IC(kq a2:Bool)(o2:Nat):Bool:=!kq&&(o2==2||(o2==0&&!a2))
def FO(lets same pC lax own:Bool)(n3 n4 Ag iq f3 f4 lK:Bool):Bool:=
 (if lets then(!iq&&((!f3||n3)&&((!f4||n4)&&(!lK||Ag))))&&(!own||(n3==f3&&(n4==f4&&Ag==lK)))else !(pC&&(!iq&&(!lK||lax))))&&
  (!same||(lets&&!(n3||(n4||Ag))))
def sX(K1 K2:Nat)(S:List jR):Bool:=
 dE (decide (1<K1)) λg1=>dE (decide (1<K2)) λg2=>dE (Rw K1 K2) λli=>dE (decide (bN K1=bN K2)) λob=>dE (K1==K2) λkq=>dE (decide (K1<2)) λa1=>dE (decide (K2<2)) λa2=>
 dE (decide (K1<4)) λc1=>dE (decide (K2<4)) λc2=>dE (IB K1 K2) λll=>dE (S.any λs=>s.1.isSome) λf0a=>
 R3.all λo1=>(g1&&o1==2)||R3.all λo2=>(g2&&o2==2)||dE (decide (rk o1<=rk o2)) λro=>dE (FN K1 K2 o1 o2) λlax=>dE (IC kq a2 o2) λAg=>
 dE (S.any (Ry (fw g1 o1) (fw g2 o2))) λlK=>
 R3.all λr2=>dE (S.any (f_ (fw g1 o1) (fw g2 o2) (fx g2 r2) λ_ _=>false)) λf3a=>
 dE (S.any (jw (fx g1 0) (fx g2 r2))) λf40=>dE (S.any (jw (fx g1 1) (fx g2 r2))) λXw=>dE (S.any (jw (fx g1 2) (fx g2 r2))) λf42=>
 BB.all λe1=>(e1&&!c1)||BB.all λe2=>(e2&&!c2)||BB.all λb1=>BB.all λeZ=>
 dE (S.any (s0 (HF (mk g1 o1 b1.toNat e1) (mk g2 o2 eZ.toNat e2) (fw g1 o1) (fw g2 o2)))) λf0l=>
 dE (S.any (f_ (fw g1 o1) (fw g2 o2) (fx g2 r2) (eqQ (mk g1 o1 b1.toNat e1) (mk g2 o2 eZ.toNat e2) (fw g1 o1) (fw g2 o2)))) λf3l=>
 dE ((!b1||eZ)&&(!e1||(e2&&ob))) λsu=>dE (b1==eZ&&(e1==e2&&(!e1||ob))) λeq0=>dE (b1==eZ&&(e1==e2&&kq)) λsm=>dE (ll&&!(e1&&(e2&&!((K1==1)==(K2==1))))) λpC=>
 R3.all λr1=>dE (XJ kq a1 a2 r1 r2) λn4=>R3.all λhi=>
  FO (ro&&(li&&(su&&!(hi==2)))) (sm&&(hi==0&&(o1==o2&&r1==r2))) pC lax (a1&&a2) (XM kq a2 (eq0&&hi==0) o1 o2 r2) n4 Ag
   (if hi==2 then f0a else f0l) (if hi==0 then f3l else f3a) (if r1==0 then f40 else if r1==1 then Xw else f42) lK
theorem Uv:(R7.all λb=>sX 0 b (dP 0 b))=true:=by decide+kernel
theorem Uw:(R7.all λb=>sX 1 b (dP 1 b))=true:=by decide+kernel
theorem Ux:(R7.all λb=>sX 2 b (dP 2 b))=true:=by decide+kernel
theorem Uy:(R7.all λb=>sX 3 b (dP 3 b))=true:=by decide+kernel
theorem Uz:(R7.all λb=>sX 4 b (dP 4 b))=true:=by decide+kernel
theorem UA:(R7.all λb=>sX 5 b (dP 5 b))=true:=by decide+kernel
theorem UB:(R7.all λb=>sX 6 b (dP 6 b))=true:=by decide+kernel
theorem wM{o:Nat}(h:o<3):o∈R3:=by have:o=0\/o=1\/o=2:=();unfold R3;simpa using this
theorem xY(b:Bool):b∈BB:=by cases b<;>simp[BB]
theorem ID{a b:Nat}(ha:a<7)(hb:b<7):sX a b (dP a b)=true:=by
 have:a=0\/a=1\/a=2\/a=3\/a=4\/a=5\/a=6:=();rcases this with e|e|e|e|e|e|e<;>subst e
 ·exact bc.mp Uv b (iz hb)
 ·exact bc.mp Uw b (iz hb)
 ·exact bc.mp Ux b (iz hb)
 ·exact bc.mp Uy b (iz hb)
 ·exact bc.mp Uz b (iz hb)
 ·exact bc.mp UA b (iz hb)
 ·exact bc.mp UB b (iz hb)
theorem FP{K1 K2:Nat}{S:List jR}(h:sX K1 K2 S=true){o1 r1 o2 r2 hi:Nat}(b1 e1 eZ e2:Bool)(ho1:o1<3)(hr1:r1<3)(ho2:o2<3)(hr2:r2<3)(hh:hi<3)(v1:1<K1->o1≠2)(v2:1<K2->o2≠2)(w1:e1=true->K1<4)(w2:e2=true->K2<4):
  FO (decide (rk o1<=rk o2)&&(Rw K1 K2&&(((!b1||eZ)&&(!e1||(e2&&decide (bN K1=bN K2))))&&!(hi==2)))) ((b1==eZ&&(e1==e2&&(K1==K2)))&&(hi==0&&(o1==o2&&r1==r2))) (IB K1 K2&&!(e1&&(e2&&!((K1==1)==(K2==1))))) (FN K1 K2 o1 o2) (decide (K1<2)&&decide (K2<2))
   (XM (K1==K2) (decide (K2<2)) ((b1==eZ&&(e1==e2&&(!e1||decide (bN K1=bN K2))))&&hi==0) o1 o2 r2) (XJ (K1==K2) (decide (K1<2)) (decide (K2<2)) r1 r2) (IC (K1==K2) (decide (K2<2)) o2)
   (if hi==2 then S.any λs=>s.1.isSome else S.any (s0 (HF (mk (decide (1<K1)) o1 b1.toNat e1) (mk (decide (1<K2)) o2 eZ.toNat e2) (fw (decide (1<K1)) o1) (fw (decide (1<K2)) o2))))
   (if hi==0 then S.any (f_ (fw (decide (1<K1)) o1) (fw (decide (1<K2)) o2) (fx (decide (1<K2)) r2) (eqQ (mk (decide (1<K1)) o1 b1.toNat e1) (mk (decide (1<K2)) o2 eZ.toNat e2) (fw (decide (1<K1)) o1) (fw (decide (1<K2)) o2)))else S.any (f_ (fw (decide (1<K1)) o1) (fw (decide (1<K2)) o2) (fx (decide (1<K2)) r2) λ_ _=>false))
   (S.any (jw (fx (decide (1<K1)) r1) (fx (decide (1<K2)) r2))) (S.any (Ry (fw (decide (1<K1)) o1) (fw (decide (1<K2)) o2)))=true:=by
 unfold sX at h;simp only[FL]at h;have h:=bc.mp h o1 (wM ho1);rw[mK]at h;have h:=h.resolve_left (by intro q;rw[bx,dK]at q;exact v1 q.1 (cj q.2))
 have h:=bc.mp h o2 (wM ho2);rw[mK]at h;have h:=h.resolve_left (by intro q;rw[bx,dK]at q;exact v2 q.1 (cj q.2))
 have h:=bc.mp h r2 (wM hr2);have h:=bc.mp h e1 (xY e1);rw[mK]at h;have h:=h.resolve_left (by intro q;rw[bx,Bool.not_eq_true',Ey]at q;exact q.2 (w1 q.1))
 have h:=bc.mp h e2 (xY e2);rw[mK]at h;have h:=h.resolve_left (by intro q;rw[bx,Bool.not_eq_true',Ey]at q;exact q.2 (w2 q.1))
 have h:=bc.mp (bc.mp h b1 (xY b1)) eZ (xY eZ);have h:=bc.mp (bc.mp h r1 (wM hr1)) hi (wM hh);have e4:(if r1==0 then S.any (jw (fx (decide (1<K1)) 0) (fx (decide (1<K2)) r2))else if r1==1 then S.any (jw (fx (decide (1<K1)) 1) (fx (decide (1<K2)) r2))else S.any (jw (fx (decide (1<K1)) 2) (fx (decide (1<K2)) r2)))=S.any (jw (fx (decide (1<K1)) r1) (fx (decide (1<K2)) r2)):=by have:r1=0\/r1=1\/r1=2:=();rcases this with e|e|e<;>subst e<;>rfl
 rw[e4]at h;exact h
def oL(e:aU):Bool:=e.2.1
def oX(e:aU):Bool:=e.2.2
def oM(e:aU):Nat:=e.1
def Rz(only ko:Bool)(r:Nat):Bool:=if only then r==2||(r==0&&!ko)else !(r==1)
def RB(only:Bool)(o r:Nat):Bool:=if only then o==1&&!(r==1)else !(r==1)
def RE(only ko:Bool)(o:Nat):Bool:=if only then o==0&&!ko else !ko
def NN(i:Nat)(t:az):Bool:=(if i==0 then t.key==0||(t.key==2||t.key==3)else t.key==1)&&!(t.opt==1&&decide (0<t.mask))
def NP(t:az):Bool:=(t.key==2||t.key==3)&&t.opt==0
def IE(i:Nat)(t:az)(n3 n4 n5 iq f3 f4 lK:Bool):Bool:=
 if ju i t then(!iq&&((!f3||n3)&&((!f4||n4)&&(!lK||n5))))&&(!(t.mask==0||decide (1<t.key))||(n3==f3&&(n4==f4&&n5==lK)))else !(NN i t&&(!iq&&(!lK||NP t)))
def IF(t:az)(i:Nat)(iq f3 f4 lK:Bool):Bool:=
 if nj t i then !iq&&(!lK&&(t.ro==1)==f4)else !(t.key==i&&(!iq&&!lK))
def gM(t:az):Bool:=decide (1<t.key)
def fB(t:az)(S:List jR)(r:Bool->Bool->Bool->Bool->Bool):Bool:=
 r (S.any (s0 (HF oM (mk (gM t) t.opt t.mask t.mem) oL (fw (gM t) t.opt)))) (S.any (f_ oL (fw (gM t) t.opt) (fx (gM t) t.ro) (eqQ oM (mk (gM t) t.opt t.mask t.mem) oL (fw (gM t) t.opt))))
  (S.any (jw oX (fx (gM t) t.ro))) (S.any (Ry oL (fw (gM t) t.opt)))
def fC(t:az)(S:List jR)(r:Bool->Bool->Bool->Bool->Bool):Bool:=
 r (S.any (s0 (HF (mk (gM t) t.opt t.mask t.mem) oM (fw (gM t) t.opt) oL))) (S.any (f_ (fw (gM t) t.opt) oL oX (eqQ (mk (gM t) t.opt t.mask t.mem) oM (fw (gM t) t.opt) oL)))
  (S.any (jw (fx (gM t) t.ro) oX)) (S.any (Ry (fw (gM t) t.opt) oL))
def IG(k:Nat)(f:az->Bool):Bool:=
 R3.all λo=>(decide (1<k)&&o==2)||R3.all λr=>(List.range 8).all λm=>BB.all λe=>(e&&!decide (k<4))||((m==0&&!e)||f ⟨k,o,r,m,e⟩)
def UD(i k:Nat):Bool:=IG k λt=>fB t (dP (7+i) k) (IE i t (RB (d_ i t) t.opt t.ro) (Rz (d_ i t) (t.key==i) t.ro) (RE (d_ i t) (t.key==i) t.opt))
def UE(i k:Nat):Bool:=IG k λt=>fC t (dP k (7+i)) (IF t i)
theorem UG:(R7.all λk=>UD 0 k)=true:=by decide+kernel
theorem UH:(R7.all λk=>UD 1 k)=true:=by decide+kernel
theorem UI:(R7.all λk=>UE 0 k)=true:=by decide+kernel
theorem UJ:(R7.all λk=>UE 1 k)=true:=by decide+kernel
structure az.Dr (t:az):Prop where
 ok:t.Ok
 fr:t.key<2\/t.opt<2
 he:t.mem=true->t.key<4
theorem qu{t:az}(d:t.Dr){f:az->Bool}(h:IG t.key f=true):f t=true:=by
 unfold IG at h;have h:=bc.mp h t.opt (wM d.ok.opt);rw[mK]at h;have h:=h.resolve_left (by intro q;rw[bx,dK]at q;have:=cj q.2;have:=d.fr;omega)
 have h:=bc.mp (bc.mp (bc.mp h t.ro (wM d.ok.ro)) t.mask (List.mem_range.mpr d.ok.mask)) t.mem (xY _);rw[mK]at h;have h:=h.resolve_left (by intro q;rw[bx,Bool.not_eq_true',Ey]at q;exact q.2 (d.he q.1))
 rw[mK]at h;exact h.resolve_left (by
  intro q;rw[bx,Bool.not_eq_true']at q;have:=cj q.1;rcases d.ok.ne with z|z
  ·omega
  ·rw[z]at q;cases q.2)
theorem IH{i:Nat}{t:az}(hi:i<2)(d:t.Dr):fB t (dP (7+i) t.key) (IE i t (RB (d_ i t) t.opt t.ro) (Rz (d_ i t) (t.key==i) t.ro) (RE (d_ i t) (t.key==i) t.opt))=true:=by
 have:i=0\/i=1:=();rcases this with e|e<;>subst e
 ·exact qu d (bc.mp UG t.key (iz d.ok.key))
 ·exact qu d (bc.mp UH t.key (iz d.ok.key))
theorem II{i:Nat}{t:az}(hi:i<2)(d:t.Dr):fC t (dP t.key (7+i)) (IF t i)=true:=by
 have:i=0\/i=1:=();rcases this with e|e<;>subst e
 ·exact qu d (bc.mp UI t.key (iz d.ok.key))
 ·exact qu d (bc.mp UJ t.key (iz d.ok.key))
structure oJ (a:Nat) (E:aU->aU) (tb:a8->ig):Prop where
 nm:∀w,c9 (tb w)=iB a w
 lo:∀w n,a9 n (tb w)=if (iB a w).contains n then some (E (FK a w n))else none
theorem wN{f:Nat->aU}{n:Nat}:∀l:List Nat,a9 n (l.map λm=>(m,f m))=if l.contains n then some (f n)else none
 |[]=>rfl
 |m::l=>by
  show((if Nat.beq n m then some (f m)else a9 n (l.map λm=>(m,f m))):Option aU)=_;rw[wN l,wa,List.contains_cons];by_cases h:n=m
  ·subst h;simp
  ·simp[h]
theorem uT(t:az)(hk:t.key<7):oJ t.key (yw t) (jv t):=by
 refine⟨λw=>?_,λw n=>?_⟩
 ·unfold iB jv c9;rw[if_pos hk,List.map_map];simp[Function.comp_def]
 ·unfold iB FK jv;rw[if_pos hk,if_pos hk,wN]
theorem Bt{n:Nat}(t:ig):a9 n t=if (c9 t).contains n then some ((a9 n t).getD (0,false,false))else none:=by
 by_cases h:n∈c9 t
 ·obtain⟨e,he⟩:=oH h;rw[if_pos (by simpa using h),he];rfl
 ·rw[if_neg (by simpa using h),oG h]
theorem FQ{i:Nat}(hi:i<2):oJ (7+i) id (Bs (7+i)):=by
 refine⟨λw=>?_,λw n=>?_⟩
 ·unfold iB;rw[if_neg ()]
 ·unfold iB FK;have z:¬7+i<7:=();rw[if_neg z,if_neg z];exact Bt _
def cP(f1 f2:a8->ig)(ws:List a8):List Int:=ws.flatMap λw=>pZ (f1 w) (f2 w)
theorem IJ{a b:Nat}{E1 E2:aU->aU}{f1 f2:a8->ig}(A:oJ a E1 f1)(B:oJ b E2 f2)(c:Int):c∈cP f1 f2 (bY a b)<->∃s∈genS a b,c∈iO (s.1.map E1) (E2 s.2):=by
 have key:∀w n,n∈iB b w->iO (a9 n (f1 w)) ((a9 n (f2 w)).getD (0,false,false))=iO ((Iz a b w n).1.map E1) (E2 (Iz a b w n).2):=λw n hn=>by unfold Iz;rw[A.lo,B.lo,if_pos (show(iB b w).contains n=true by simpa using hn)];cases (iB a w).contains n<;>rfl
 unfold cP pZ genS;simp only[List.mem_flatMap,List.mem_map];constructor
 ·rintro⟨w,hw,n,hn,h⟩;rw[B.nm]at hn;exact⟨_,⟨w,hw,n,hn,rfl⟩,by rw[<-key w n hn];exact h⟩
 ·rintro⟨s,⟨w,hw,n,hn,e⟩,h⟩;refine⟨w,hw,n,by rw[B.nm];exact hn,?_⟩;rw[key w n hn,e];exact h
theorem jx{a b:Nat}(h:(a<9/\b<7)\/(a<7/\b<9)):iZ a b=true:=by
 have h9:b∈R9:=(by decide:∀x<9,x∈R9) b (h.elim (λh=>qH h.2 ∅) And.right);have h7:7<=a->b<7:=λq=>h.elim And.right λh=>absurd q (Nat.not_le_of_lt h.1);rcases oa9 (h.elim And.left λh=>qH h.1 ∅)with e|e|e|e|e|e|e|e|e<;>subst e
 ·exact bc.mp sit0 b h9
 ·exact bc.mp sit1 b h9
 ·exact bc.mp sit2 b h9
 ·exact bc.mp sit3 b h9
 ·exact bc.mp sit4 b h9
 ·exact bc.mp sit5 b h9
 ·exact bc.mp sit6 b h9
 ·exact bc.mp sit7 b (iz (h7 ∅))
 ·exact bc.mp sit8 b (iz (h7 ∅))
theorem jT{a b:Nat}{E1 E2:aU->aU}{f1 f2:a8->ig}(h:iZ a b=true)(A:oJ a E1 f1)(B:oJ b E2 f2)(c:Int):(cP f1 f2 (bY a b)).contains c=(dP a b).any λs=>(iO (s.1.map E1) (E2 s.2)).contains c:=by
 unfold iZ at h;simp only[bx,bc,jF]at h;rw[ja,jF,IJ A B,uk];constructor
 ·rintro⟨s,hs,hc⟩;exact⟨s,h.1 s hs,jF.mpr hc⟩
 ·rintro⟨s,hs,hc⟩;exact⟨s,h.2.1 s hs,jF.mp hc⟩
theorem kG:∀la fi fr cl eq su:Bool,(yx la fi fr cl eq su).contains 11=(la&&!fr)/\(yx la fi fr cl eq su).contains 4=(fi&&!cl)/\(yx la fi fr cl eq su).contains 3=(!(la&&!fr)&&(!cl&&!eq))/\(yx la fi fr cl eq su).contains 0=!su/\∀c∈yx la fi fr cl eq su,c=0\/c=3\/c=4\/c=11:=by decide+kernel
section
variable{M1 M2:aU->Nat}{L1 L2 X1 X2:aU->Bool}(s:jR)
theorem c11:(iO (s.1.map λe=>(M1 e,L1 e,X1 e)) (M2 s.2,L2 s.2,X2 s.2)).contains 11=Ry L1 L2 s:=by
 obtain⟨a,e⟩:=s;cases a with
 |none=>show(if L2 e=true then[]else[(11:Int)]).contains 11=!L2 e;cases L2 e<;>rfl
 |some a=>exact(kG _ _ _ _ _ _).1
theorem c4:(iO (s.1.map λe=>(M1 e,L1 e,X1 e)) (M2 s.2,L2 s.2,X2 s.2)).contains 4=jw X1 X2 s:=by
 obtain⟨a,e⟩:=s;cases a with
 |none=>show(if L2 e=true then[]else[(11:Int)]).contains 4=false;cases L2 e<;>rfl
 |some a=>exact(kG _ _ _ _ _ _).2.1
theorem c3:(iO (s.1.map λe=>(M1 e,L1 e,X1 e)) (M2 s.2,L2 s.2,X2 s.2)).contains 3=f_ L1 L2 X2 (eqQ M1 M2 L1 L2) s:=by
 obtain⟨a,e⟩:=s;cases a with
 |none=>show(if L2 e=true then[]else[(11:Int)]).contains 3=false;cases L2 e<;>rfl
 |some a=>exact(kG _ _ _ _ _ _).2.2.1
theorem c0:(iO (s.1.map λe=>(M1 e,L1 e,X1 e)) (M2 s.2,L2 s.2,X2 s.2)).contains 0=s0 (HF M1 M2 L1 L2) s:=by
 obtain⟨a,e⟩:=s;cases a with
 |none=>show(if L2 e=true then[]else[(11:Int)]).contains 0=false;cases L2 e<;>rfl
 |some a=>exact(kG _ _ _ _ _ _).2.2.2.1
end
theorem Ah{f1 f2:a8->ig}{ws:List a8}{c:Int}(h:c∈cP f1 f2 ws):c=0\/c=3\/c=4\/c=11:=by
 unfold cP pZ at h;simp only[List.mem_flatMap]at h;obtain⟨w,_,n,_,h⟩:=h;unfold iO at h;split at h
 ·split at h
  ·cases h
  ·rw[jG.mp h];simp
 ·exact(kG _ _ _ _ _ _).2.2.2.2 c h
def RF:List Nat:=[0,1,32,33,40]
def rp(m m':Nat):Nat:=if m&&&6==m'&&&6 then 0 else if ((m&&&6)&&&(m'&&&6))==m&&&6 then 1 else 2
theorem NQ:(BB.all λg=>R3.all λo=>(List.range 8).all λm=>BB.all λe=>RF.all λk=>BB.all λf=>decide (mk g o m e (k,f,false)<64/\mk g o m e (k,f,false)&&&6=m&&&6/\mk g o m e (k,f,false)&&&57=mk g o (bit m 0).toNat e (k,f,false)))=true:=by decide+kernel
theorem Lj{g:Bool}{o m:Nat}{e:Bool}{x:aU}(ho:o<3)(hm:m<8)(hk:x.1∈RF):mk g o m e x<64/\mk g o m e x&&&6=m&&&6/\mk g o m e x&&&57=mk g o (bit m 0).toNat e x:=by obtain⟨k,f,c⟩:=x;have:=bc.mp (bc.mp (bc.mp (bc.mp (bc.mp (bc.mp NQ g (xY g)) o (wM ho)) m (List.mem_range.mpr hm)) e (xY e)) k hk) f (xY f);exact of_decide_eq_true this
theorem NR:((List.range 64).all λx=>BB.all λl=>BB.all λf=>decide (dg x l f<64/\eF x f<64/\dg x l f&&&6=x&&&6/\eF x f&&&6=x&&&6/\dg x l f&&&57=dg (x&&&57) l f/\eF x f&&&57=eF (x&&&57) f))=true:=by decide+kernel
theorem Lk{x:Nat}(l f:Bool)(h:x<64):dg x l f<64/\eF x f<64/\dg x l f&&&6=x&&&6/\eF x f&&&6=x&&&6/\dg x l f&&&57=dg (x&&&57) l f/\eF x f&&&57=eF (x&&&57) f:=
 of_decide_eq_true (bc.mp (bc.mp (bc.mp NR x (List.mem_range.mpr h)) l (xY l)) f (xY f))
theorem IK:((List.range 64).all λx=>(List.range 64).all λy=>((x==y)==((x&&&57==y&&&57)&&(x&&&6==y&&&6)))&&(((x&&&y)==x)==((((x&&&57)&&&(y&&&57))==x&&&57)&&(((x&&&6)&&&(y&&&6))==x&&&6))))=true:=by decide+kernel
theorem NS{x y:Nat}(hx:x<64)(hy:y<64):(x==y)=((x&&&57==y&&&57)&&(x&&&6==y&&&6))/\((x&&&y)==x)=((((x&&&57)&&&(y&&&57))==x&&&57)&&(((x&&&6)&&&(y&&&6))==x&&&6)):=by have:=bc.mp (bc.mp IK x (List.mem_range.mpr hx)) y (List.mem_range.mpr hy);rw[bx]at this;exact⟨cj this.1,cj this.2⟩
theorem NT:((List.range 8).all λm=>(List.range 8).all λm'=>decide (rp m m'<3)&&(((rp m m'==0)==(m&&&6==m'&&&6))&&(((!(rp m m'==2))==(((m&&&6)&&&(m'&&&6))==m&&&6))&&
  ((sV m m'==((!bit m 0||bit m' 0)&&!(rp m m'==2)))&&(((sV m m'&&sV m' m)==(bit m 0==bit m' 0&&rp m m'==0))&&(decide (m=m')==(bit m 0==bit m' 0&&rp m m'==0)))))))=true:=by decide+kernel
theorem Ai{m m':Nat}(h:m<8)(h':m'<8):rp m m'<3/\(rp m m'==0)=(m&&&6==m'&&&6)/\(!(rp m m'==2))=(((m&&&6)&&&(m'&&&6))==m&&&6)/\sV m m'=((!bit m 0||bit m' 0)&&!(rp m m'==2))/\(sV m m'&&sV m' m)=(bit m 0==bit m' 0&&rp m m'==0)/\decide (m=m')=(bit m 0==bit m' 0&&rp m m'==0):=by have:=bc.mp (bc.mp NT m (List.mem_range.mpr h)) m' (List.mem_range.mpr h');simp only[bx,dK,fg]at this⊢;exact⟨this.1,this.2.1,this.2.2.1,this.2.2.2.1,this.2.2.2.2.1,this.2.2.2.2.2⟩
section
variable{g1 g2:Bool}{o1 o2 m1 m2:Nat}{e1 e2:Bool}{L1 L2:aU->Bool}
theorem UK{a e:aU}(h1:o1<3)(h2:o2<3)(hm1:m1<8)(hm2:m2<8)(ka:a.1∈RF)(ke:e.1∈RF):
  eqQ (mk g1 o1 m1 e1) (mk g2 o2 m2 e2) L1 L2 a e=(eqQ (mk g1 o1 (bit m1 0).toNat e1) (mk g2 o2 (bit m2 0).toNat e2) L1 L2 a e&&rp m1 m2==0)/\
  HF (mk g1 o1 m1 e1) (mk g2 o2 m2 e2) L1 L2 a e=(HF (mk g1 o1 (bit m1 0).toNat e1) (mk g2 o2 (bit m2 0).toNat e2) L1 L2 a e&&!(rp m1 m2==2)):=by
 have p:=Lj (g:=g1) (e:=e1) h1 hm1 ka;have q:=Lj (g:=g2) (e:=e2) h2 hm2 ke;have r1:=Lk (L1 a) (L2 e) p.1;have r2:=Lk true (L2 e) q.1;have w:=NS r1.1 r2.2.1;have hh:=Ai hm1 hm2;unfold eqQ HF;rw[w.1,w.2,r1.2.2.1,r2.2.2.2.1,r1.2.2.2.2.1,r2.2.2.2.2.2,p.2.1,q.2.1,p.2.2,q.2.2,hh.2.1,hh.2.2.1];exact⟨rfl,rfl⟩
end
def IL(s:jR):Bool:=RF.contains s.2.1&&match s.1 with
 |none=>true
 |some a=>RF.contains a.1
theorem Bu:(R7.all λa=>R7.all λb=>(dP a b).all IL)=true:=by decide+kernel
theorem cH{S:List jR}{f g:jR->Bool}(h:∀s∈S,f s=g s):S.any f=S.any g:=by rw[ja,uk,uk];exact exists_congr λx=>and_congr_right λhx=>by rw[h x hx]
def FA(t t':az)(c:Int):Bool:=(cP (jv t) (jv t') (bY t.key t'.key)).contains c
def NU(t t':az):Bool:=IB t.key t'.key&&!(t.mem&&(t'.mem&&!((t.key==1)==(t'.key==1))))
def XN(t t':az):Bool:=XM (t.key==t'.key) (decide (t'.key<2)) (cD t t'&&cD t' t) t.opt t'.opt t'.ro
def nM4(t t':az):Bool:=XJ (t.key==t'.key) (decide (t.key<2)) (decide (t'.key<2)) t.ro t'.ro
def NV(t t':az):Bool:=IC (t.key==t'.key) (decide (t'.key<2)) t'.opt
theorem FR:(R3.all λa=>R3.all λb=>(!decide (iX (b:Nat)<iX (a:Nat)))==decide (rk a<=rk b))=true:=by decide+kernel
theorem UL{t t':az}(d:t.Dr)(d':t'.Dr):
  FA t t' 0=(dP t.key t'.key).any (s0 (HF (mk (gM t) t.opt t.mask t.mem) (mk (gM t') t'.opt t'.mask t'.mem) (fw (gM t) t.opt) (fw (gM t') t'.opt)))/\
  FA t t' 3=(dP t.key t'.key).any (f_ (fw (gM t) t.opt) (fw (gM t') t'.opt) (fx (gM t') t'.ro) (eqQ (mk (gM t) t.opt t.mask t.mem) (mk (gM t') t'.opt t'.mask t'.mem) (fw (gM t) t.opt) (fw (gM t') t'.opt)))/\
  FA t t' 4=(dP t.key t'.key).any (jw (fx (gM t) t.ro) (fx (gM t') t'.ro))/\FA t t' 11=(dP t.key t'.key).any (Ry (fw (gM t) t.opt) (fw (gM t') t'.opt)):=by
 have A:=uT t d.ok.key;have B:=uT t' d'.ok.key;have so:=jx (a:=t.key) (b:=t'.key) (.inl ⟨by have:=d.ok.key;omega,d'.ok.key⟩);have hE:∀t:az,yw t=λe=>(mk (gM t) t.opt t.mask t.mem e,fw (gM t) t.opt e,fx (gM t) t.ro e):=λt=>funext λe=>Af t e;unfold FA;refine⟨?_,?_,?_,?_⟩<;>rw[jT so A B,hE t,hE t']
 ·exact cH λs _=>c0 s
 ·exact cH λs _=>c3 s
 ·exact cH λs _=>c4 s
 ·exact cH λs _=>c11 s
theorem pB1:∀a b q m m' o:Bool,(((!a||b)&&!q)&&(!m||(m'&&o)))=(((!a||b)&&(!m||(m'&&o)))&&!q):=∅
theorem pB2:∀s s' m m' o:Bool,((s&&(!m||(m'&&o)))&&(s'&&(!m'||(m&&o))))=((s&&s')&&((!m||(m'&&o))&&(!m'||(m&&o)))):=∅
theorem pB3:∀p z m m' o:Bool,((p&&z)&&((!m||(m'&&o))&&(!m'||(m&&o))))=((p&&(m==m'&&(!m||o)))&&z):=∅
theorem pB4:∀p q m k r:Bool,((p&&q)&&(m&&(k&&r)))=((p&&(m&&k))&&(q&&r)):=∅
theorem IQ{t t':az}(h:t.mask<8)(h':t'.mask<8):
  cD t t'=(((!bit t.mask 0||bit t'.mask 0)&&(!t.mem||(t'.mem&&decide (bN t.key=bN t'.key))))&&!(rp t.mask t'.mask==2))/\
  (cD t t'&&cD t' t)=((bit t.mask 0==bit t'.mask 0&&(t.mem==t'.mem&&(!t.mem||decide (bN t.key=bN t'.key))))&&rp t.mask t'.mask==0):=by
 have hh:=Ai h h';have e:decide (bN t'.key=bN t.key)=decide (bN t.key=bN t'.key):=decide_eq_decide.mpr eq_comm;constructor
 ·unfold cD;rw[hh.2.2.2.1];exact pB1 _ _ _ _ _ _
 ·have:(cD t t'&&cD t' t)=((sV t.mask t'.mask&&sV t'.mask t.mask)&&((!t.mem||(t'.mem&&decide (bN t.key=bN t'.key)))&&(!t'.mem||(t.mem&&decide (bN t.key=bN t'.key))))):=by unfold cD;rw[e];exact pB2 _ _ _ _ _
  rw[this,hh.2.2.2.2.1];exact pB3 _ _ _ _ _
theorem IU{t t':az}(h:t.mask<8)(h':t'.mask<8):decide (t=t')=((bit t.mask 0==bit t'.mask 0&&(t.mem==t'.mem&&(t.key==t'.key)))&&(rp t.mask t'.mask==0&&(t.opt==t'.opt&&t.ro==t'.ro))):=by
 have hm:=(Ai h h').2.2.2.2.2;have:decide (t=t')=(decide (t.mask=t'.mask)&&(t.mem==t'.mem&&(t.key==t'.key&&(t.opt==t'.opt&&t.ro==t'.ro)))):=by
  rw[ja];simp only[dK,bx,fg];constructor
  ·intro e;subst e;simp
  ·rintro⟨a,b,c,d,e⟩;cases t;cases t';simp only at a b c d e;subst a;subst b;subst c;subst d;subst e;rfl
 rw[this,hm];exact pB4 _ _ _ _ _
theorem lawA{t t':az}(d:t.Dr)(d':t'.Dr):
  FO (rh t t') (decide (t=t')) (NU t t') (FN t.key t'.key t.opt t'.opt) (decide (t.key<2)&&decide (t'.key<2)) (XN t t') (nM4 t t') (NV t t') (FA t t' 0) (FA t t' 3) (FA t t' 4) (FA t t' 11)=true:=by
 have hh:=Ai d.ok.mask d'.ok.mask;have h:=FP (ID d.ok.key d'.ok.key) (hi:=rp t.mask t'.mask) (bit t.mask 0) t.mem (bit t'.mask 0) t'.mem d.ok.opt d.ok.ro d'.ok.opt d'.ok.ro hh.1 (λh=>by have:=d.fr;omega) (λh=>by have:=d'.fr;omega) d.he d'.he;have kk:∀s∈dP t.key t'.key,IL s=true:=bc.mp (bc.mp (bc.mp Bu t.key (iz d.ok.key)) t'.key (iz d'.ok.key));obtain⟨iq,f3,f4,lK⟩:=UL d d';have qs:∀s∈dP t.key t'.key,∀a,s.1=some a->_:=λs hs a ha=>UK (g1:=gM t) (g2:=gM t') (e1:=t.mem) (e2:=t'.mem) (L1:=fw (gM t) t.opt) (L2:=fw (gM t') t'.opt) (a:=a) (e:=s.2) d.ok.opt d'.ok.opt d.ok.mask d'.ok.mask
  (by have:=kk s hs;unfold IL at this;rw[ha]at this;simp only[bx,jF]at this;exact this.2) (by have:=kk s hs;unfold IL at this;simp only[bx,jF]at this;exact this.1)
 have g0:FA t t' 0=if rp t.mask t'.mask==2 then(dP t.key t'.key).any λs=>s.1.isSome else(dP t.key t'.key).any (s0 (HF (mk (gM t) t.opt (bit t.mask 0).toNat t.mem) (mk (gM t') t'.opt (bit t'.mask 0).toNat t'.mem) (fw (gM t) t.opt) (fw (gM t') t'.opt))):=by
  rw[iq];cases q:(rp t.mask t'.mask==2)with
  |true=>
   rw[if_pos rfl];refine cH λs hs=>?_;unfold s0;cases ha:s.1 with
   |none=>rfl
   |some a=>show(!_)=true;rw[(qs s hs a ha).2,q];simp
  |false=>
   rw[if_neg ∅];refine cH λs hs=>?_;unfold s0;cases ha:s.1 with
   |none=>rfl
   |some a=>show(!_)=!_;rw[(qs s hs a ha).2,q];simp
 have g3:FA t t' 3=if rp t.mask t'.mask==0 then(dP t.key t'.key).any (f_ (fw (gM t) t.opt) (fw (gM t') t'.opt) (fx (gM t') t'.ro) (eqQ (mk (gM t) t.opt (bit t.mask 0).toNat t.mem) (mk (gM t') t'.opt (bit t'.mask 0).toNat t'.mem) (fw (gM t) t.opt) (fw (gM t') t'.opt)))else(dP t.key t'.key).any (f_ (fw (gM t) t.opt) (fw (gM t') t'.opt) (fx (gM t') t'.ro) λ_ _=>false):=by
  rw[f3];cases q:(rp t.mask t'.mask==0)with
  |true=>
   rw[if_pos rfl];refine cH λs hs=>?_;unfold f_;cases ha:s.1 with
   |none=>rfl
   |some a=>show(_&&(_&&!_))=(_&&(_&&!_));rw[(qs s hs a ha).1,q,Bool.and_true]
  |false=>
   rw[if_neg ∅];refine cH λs hs=>?_;unfold f_;cases ha:s.1 with
   |none=>rfl
   |some a=>show(_&&(_&&!_))=(_&&(_&&!_));rw[(qs s hs a ha).1,q,Bool.and_false]
 have hr:(!decide (iX t'.opt<iX t.opt))=decide (rk t.opt<=rk t'.opt):=cj (bc.mp (bc.mp FR t.opt (wM d.ok.opt)) t'.opt (wM d'.ok.opt));have pe:=IQ d.ok.mask d'.ok.mask;have hv:rh t t'=(decide (rk t.opt<=rk t'.opt)&&(Rw t.key t'.key&&(((!bit t.mask 0||bit t'.mask 0)&&(!t.mem||(t'.mem&&decide (bN t.key=bN t'.key))))&&!(rp t.mask t'.mask==2)))):=by unfold rh;rw[hr,pe.1,Bool.and_assoc]
 rw[hv,IU d.ok.mask d'.ok.mask,g0,g3,f4,lK];unfold XN;rw[pe.2];exact h
def FB(i:Nat)(t:az)(c:Int):Bool:=(cP (Bs (7+i)) (jv t) (bY (7+i) t.key)).contains c
def FC(t:az)(i:Nat)(c:Int):Bool:=(cP (jv t) (Bs (7+i)) (bY t.key (7+i))).contains c
theorem hE(t:az):yw t=λe=>(mk (gM t) t.opt t.mask t.mem e,fw (gM t) t.opt e,fx (gM t) t.ro e):=funext λe=>Af t e
theorem hI:(id:aU->aU)=λe=>(oM e,oL e,oX e):=rfl
theorem lawB{i:Nat}{t:az}(hi:i<2)(d:t.Dr):IE i t (RB (d_ i t) t.opt t.ro) (Rz (d_ i t) (t.key==i) t.ro) (RE (d_ i t) (t.key==i) t.opt) (FB i t 0) (FB i t 3) (FB i t 4) (FB i t 11)=true:=by have h:=IH hi d;have A:=FQ hi;have B:=uT t d.ok.key;have so:=jx (a:=7+i) (b:=t.key) (.inl ⟨by omega,d.ok.key⟩);unfold fB at h;unfold FB;rw[jT so A B,jT so A B,jT so A B,jT so A B,hE t,hI];rw[cH λs _=>c0 s,cH λs _=>c3 s,cH λs _=>c4 s,cH λs _=>c11 s];exact h
theorem lawC{i:Nat}{t:az}(hi:i<2)(d:t.Dr):IF t i (FC t i 0) (FC t i 3) (FC t i 4) (FC t i 11)=true:=by have h:=II hi d;have A:=uT t d.ok.key;have B:=FQ hi;have so:=jx (a:=t.key) (b:=7+i) (.inr ⟨d.ok.key,()⟩);unfold fC at h;unfold FC;rw[jT so A B,jT so A B,jT so A B,jT so A B,hE t,hI];rw[cH λs _=>c0 s,cH λs _=>c3 s,cH λs _=>c4 s,cH λs _=>c11 s];exact h
theorem Ll(a b:Nat):Int.fdiv (a:Int) (b:Int)=((a/b:Nat):Int):=by rw[Int.fdiv_eq_ediv_of_nonneg _ (sG b)];rfl
theorem Lm(a b:Nat):Int.fmod (a:Int) (b:Int)=((a%b:Nat):Int):=by rw[Int.fmod_eq_emod_of_nonneg _ (sG b)];rfl
def kH(nums:List Nat)(i:Nat):Nat:=nums[i%nums.length]?.getD 0+31*(i/nums.length)
def pE(k o r m:Nat)(e:Bool):az:=⟨k,if k<2\/o<2 then o else 0,r,if 0<m\/(e&&decide (k<4))=true then m else 1,e&&decide (k<4)⟩
def rq(x:Nat):az:=pE (x%7) (x/7%3) (x/7/3%3) (x/7/18%8) (x/7/9%2==1)
theorem uU{k o r m:Nat}{e:Bool}(hk:k<7)(ho:o<3)(hr:r<3)(hm:m<8):(pE k o r m e).Dr:=by
 refine⟨⟨hk,?_,hr,?_,?_⟩,?_,?_⟩
 ·show(if _ then o else 0)<3;split
  ·exact ho
  ·decide
 ·show(if _ then m else 1)<8;split
  ·exact hm
  ·decide
 ·show 0<(if _ then m else 1)\/(e&&decide (k<4))=true;by_cases h:0<m\/(e&&decide (k<4))=true
  ·rw[if_pos h];exact h
  ·rw[if_neg h];exact .inl ∅
 ·show k<2\/(if k<2\/o<2 then o else 0)<2;by_cases h:k<2\/o<2
  ·rw[if_pos h];exact h
  ·rw[if_neg h];exact .inr ∅
 ·intro h;have h:(e&&decide (k<4))=true:=h;rw[bx,dK]at h;exact h.2
theorem Aj(x:Nat):(rq x).Dr:=uU () () () ()
theorem tJ{a b:Int}{σ:PS}(ha:small a=true)(hb:small b=true):binop .mul (.d (.int a)) (.d (.int b)) σ=some (.d (.int (a*b)),σ):=by show ai (cI σ) (dy _ (small a&&small b))=_;rw[ha,hb];rfl
section
variable{pm:List MO}{n:Nat}
theorem qv{k:Nat}(h:k<1000000):small (k:Int)=true:=qI (bw h ∅)
theorem oK{a c:Nat}{σ:PS}(h:0<c):binop .mod (.d (.int a)) (.d (.int c)) σ=some (.d (.int (a%c:Nat)),σ):=by show ai (cI σ) (dy _ _)=_;rw[show decide (0<(c:Int))=true from eM (pM.mpr h),<-Lm];rfl
theorem oN{a c:Nat}{σ:PS}(h:0<c)(h':c<1073741824):binop .fdiv (.d (.int a)) (.d (.int c)) σ=some (.d (.int (a/c:Nat)),σ):=by show ai (cI σ) (dy _ (decide (0<(c:Int))&&decide ((c:Int)<1073741824)))=_;rw[show(decide (0<(c:Int))&&decide ((c:Int)<1073741824))=true from ku.mpr ⟨eM (pM.mpr h),eM (pM.mpr h')⟩,<-Ll];rfl
theorem f75{nums:List Nat}{i:Nat}(hn:0<nums.length)(h9:nums.length<=9)(hi:i<=100):rn (n+1) 75 [.aI 0,.d (.int i)] pm [.list (nums.map λ(x:Nat)=> .int x)]=some (.d (.int (kH nums i)),pm,[.list (nums.map λ(x:Nat)=> .int x)]):=by
 have hm:=Lm i nums.length;have hd:=Ll i nums.length;have lt:i%nums.length<nums.length:=Nat.mod_lt _ hn;have ld:i/nums.length<=i:=Nat.div_le_self _ _;have s1:=qv (k:=i%nums.length) ();have s2:=qv (k:=i/nums.length) ();have f_:small 31=true:=∅;have at_:(nums.map λ(x:Nat)=>D.int x)[i%nums.length]?=some (.int (nums[i%nums.length]?.getD 0:Nat)):=by rw[pK,mJ lt];rfl
 have hf:nums.length<=1000000:=();have hL:(nums.map λ(x:Nat)=>D.int x).length=nums.length:=eT _;have hp:0<(nums.length:Int):=();have hl:(nums.length:Int)<1073741824:=();generalize (nums.map λ(x:Nat)=>D.int x)=L at*
 have el:∀σ:PS,σ=⟨pm,[.list L]⟩->eval (aH n) (.bi .len 'a') [some (.aI 0),some (.d (.int i))] σ=some (.d (.int nums.length),σ):=λσ e=>by
  rw[e];rw[<-hL]
  dsimp! [↑cT (l:=L) (by rw[hL];exact hf)]
 have e1:eval (aH n) (.sub 'a' (.bin .mod 'b' (.bi .len 'a'))) [some (.aI 0),some (.d (.int i))] ⟨pm,[.list L]⟩=some (.d (.int (nums[i%nums.length]?.getD 0:Nat)),⟨pm,[.list L]⟩):=by refine cY (ak rfl) (dB (ak rfl) (el _ rfl) (oK hn)) ?_;show dy (ai sR L[i%nums.length]?) _=_;rw[s1,at_,eM (sG _)];rfl
 have e2:eval (aH n) (.bin .mul 31.0 (.bin .fdiv 'b' (.bi .len 'a'))) [some (.aI 0),some (.d (.int i))] ⟨pm,[.list L]⟩=some (.d (.int (31*(i/nums.length:Nat))),⟨pm,[.list L]⟩):=by
  refine dB aG (dB (y:= .d (.int nums.length)) (ak rfl) (el _ rfl) (r:=(.d (.int (i/nums.length:Nat)),⟨pm,[.list L]⟩)) ?_) ?_
  ·exact oN hn ()
  ·exact tJ f_ s2
 have e3:binop .add (.d (.int (nums[i%nums.length]?.getD 0:Nat))) (.d (.int (31*(i/nums.length:Nat)))) ⟨pm,[.list L]⟩=some (.d (.int (kH nums i:Nat)),⟨pm,[.list L]⟩):=by unfold kH;rw[Yz,Int.natCast_mul];rfl
 rw[cG [some (.aI 0),some (.d (.int i))] (show pQ 75=some ⟨2,2,Mh⟩from rfl) rfl rfl];unfold Mh;dsimp only;rw[bS (fy (dB e1 e2 e3))];rfl
theorem f76{k o r m:Nat}{e:Bool}:rn (n+1) 76 [.d (.int k),.d (.int o),.d (.int r),.d (.int m),.d (.bool e)] pm []=some (.d (pE k o r m e).d,pm,[]):=by
 unfold pE az.d;have a4:((k:Int)<4)<->k<4:=();have a2:((k:Int)<2)<->k<2:=();have eZ:((o:Int)<2)<->o<2:=();have c0:((0:Int)<m)<->0<m:=();have s1:exec (aH n) (.asg 5 (.and #['e',.cmp .lt 'a' 4.0])) [some (.d (.int k)),some (.d (.int o)),some (.d (.int r)),some (.d (.int m)),some (.d (.bool e)),none,none] ⟨pm,[]⟩=
   some (.next,[some (.d (.int k)),some (.d (.int o)),some (.d (.int r)),some (.d (.int m)),some (.d (.bool e)),some (.d (.bool (e&&decide (k<4)))),none],⟨pm,[]⟩):=by
  rw[<-decide_eq_decide.mpr a4];cases e<;>dsimp! [rfl]
 generalize hq:(e&&decide (k<4))=q at*
 have s2:exec (aH n) (.asg 6 (.ite (.or #[.cmp .lt 'a' 2.0,.cmp .lt 'b' 2.0]) 'b' 0.0)) [some (.d (.int k)),some (.d (.int o)),some (.d (.int r)),some (.d (.int m)),some (.d (.bool e)),some (.d (.bool q)),none] ⟨pm,[]⟩=
   some (.next,[some (.d (.int k)),some (.d (.int o)),some (.d (.int r)),some (.d (.int m)),some (.d (.bool e)),some (.d (.bool q)),some (.d (.int ((if k<2\/o<2 then o else 0:Nat))))],⟨pm,[]⟩):=by
  by_cases h2:k<2
  ·rw[if_pos (.inl h2)]
   dsimp! [eM (a2.mpr h2)]
  by_cases ho:o<2
  ·rw[if_pos (.inr ho)]
   dsimp! [dS (mt a2.mp h2),eM (eZ.mpr ho)]
  ·rw[if_neg λz=>z.elim h2 ho]
   dsimp! [dS (mt a2.mp h2),dS (mt eZ.mp ho)]
 generalize (if k<2\/o<2 then o else 0)=o' at*
 have f_:exec (aH n) (.ret (.tup #['a','g','c',.ite (.or #[.cmp .gt 'd' 0.0,'f']) 'd' 1.0,'f'])) [some (.d (.int k)),some (.d (.int o)),some (.d (.int r)),some (.d (.int m)),some (.d (.bool e)),some (.d (.bool q)),some (.d (.int o'))] ⟨pm,[]⟩=
   some (.ret (.d (.tup [.int k,.int o',.int r,.int ((if 0<m\/q=true then m else 1:Nat)),.bool q])),[some (.d (.int k)),some (.d (.int o)),some (.d (.int r)),some (.d (.int m)),some (.d (.bool e)),some (.d (.bool q)),some (.d (.int o'))],⟨pm,[]⟩):=by
  by_cases h0:0<m
  ·rw[if_pos (.inl h0)]
   dsimp! [eM (c0.mpr h0)]
  cases q
  ·rw[if_neg λz=>z.elim h0 (λz=>nomatch z)]
   dsimp! [dS (mt c0.mp h0)]
  ·rw[if_pos (.inr rfl)]
   dsimp! [dS (mt c0.mp h0)]
 rw[cG [some (.d (.int k)),some (.d (.int o)),some (.d (.int r)),some (.d (.int m)),some (.d (.bool e)),none,none] (show pQ 76=some ⟨5,7,Mi⟩from rfl) rfl rfl];unfold Mi;dsimp only;rw[av s1,av s2,bS f_];rfl
theorem beq1(k:Nat):((k:Int)==1)=(k==1):=nq k 1
theorem f77{x:Nat}:rn (n+2) 77 [.d (.int x)] pm []=some (.d (rq x).d,pm,[]):=by
 have md:∀(ls:Ls) (σ:PS) (e:E) (a c:Nat),0<c->eval (aH (n+1)) e ls σ=some (.d (.int a),σ)->eval (aH (n+1)) (.bin .mod e (.lit (.int c))) ls σ=some (.d (.int (a%c:Nat)),σ):=λls σ e a c hc h=>
  dB h aG (oK hc)
 have dv:∀(ls:Ls) (σ:PS) (e:E) (a c:Nat),0<c->c<1000->eval (aH (n+1)) e ls σ=some (.d (.int a),σ)->eval (aH (n+1)) (.bin .fdiv e (.lit (.int c))) ls σ=some (.d (.int (a/c:Nat)),σ):=λls σ e a c hc hc' h=>
  dB h aG (oN hc ())
 have s1:exec (aH (n+1)) (.asg 1 (.bin .fdiv 'a' 7.0)) [some (.d (.int x)),none] ⟨pm,[]⟩=some (.next,[some (.d (.int x)),some (.d (.int (x/7:Nat)))],⟨pm,[]⟩):=bB (dv _ _ _ _ 7 ∅ ∅ (ak rfl));rw[cG [some (.d (.int x)),none] (show pQ 77=some ⟨1,2,Mj⟩from rfl) rfl rfl];unfold Mj;dsimp only;rw[av s1];have L0:∀σ,eval (aH (n+1)) 'a' [some (.d (.int x)),some (.d (.int (x/7:Nat)))] σ=some (.d (.int x),σ):=λσ=>ak rfl;have L1:∀σ,eval (aH (n+1)) 'b' [some (.d (.int x)),some (.d (.int (x/7:Nat)))] σ=some (.d (.int (x/7:Nat)),σ):=λσ=>ak rfl;have e5:∀σ,eval (aH (n+1)) (.cmp .eq (.bin .mod (.bin .fdiv 'b' 9.0) 2.0) 1.0) [some (.d (.int x)),some (.d (.int (x/7:Nat)))] σ=some (.d (.bool (x/7/9%2==1)),σ):=λσ=>by refine bW (md _ _ _ _ 2 ∅ (dv _ _ _ _ 9 ∅ ∅ (L1 σ))) aG ?_;rw[<-beq1];rfl
 have ec:eval (aH (n+1)) (.call 76 #[.bin .mod 'a' 7.0,.bin .mod 'b' 3.0,.bin .mod (.bin .fdiv 'b' 3.0) 3.0,.bin .mod (.bin .fdiv 'b' 18.0) 8.0,.cmp .eq (.bin .mod (.bin .fdiv 'b' 9.0) 2.0) 1.0]) [some (.d (.int x)),some (.d (.int (x/7:Nat)))] ⟨pm,[]⟩=some (.d (rq x).d,⟨pm,[]⟩):=
  b_ (au (md _ _ _ _ 7 ∅ (L0 _)) (au (md _ _ _ _ 3 ∅ (L1 _)) (au (md _ _ _ _ 3 ∅ (dv _ _ _ _ 3 ∅ ∅ (L1 _))) (au (md _ _ _ _ 8 ∅ (dv _ _ _ _ 18 ∅ ∅ (L1 _))) (au (e5 _) bo))))) (bX rfl (f76 (n:=n)))
 rw[bS (fy ec)];rfl
end
def EB(X:Cx)(ls:Ls)(σ:PS)(e:E)(b:Bool):Prop:=eval X e ls σ=some (.d (.bool b),σ)
def TB(X:Cx)(ls:Ls)(σ:PS)(e:E)(b:Bool):Prop:=test X e ls σ=some (b,σ)
section
variable{X:Cx}{ls:Ls}{σ:PS}{a b c:E}{x y z:Bool}
theorem EB.and(h1:EB X ls σ a x)(h2:EB X ls σ b y):EB X ls σ (.and #[a,b]) (x&&y):=by
 cases x with
 |true=>exact(aq h1).trans h2
 |false=>exact aq h1
theorem EB.IV(h1:EB X ls σ a x)(h2:EB X ls σ b y)(h3:EB X ls σ c z):EB X ls σ (.and #[a,b,c]) (x&&(y&&z)):=by
 cases x with
 |true=>exact(aq h1).trans (EB.and (x:=y) (y:=z) h2 h3)
 |false=>exact aq h1
theorem EB.or(h1:EB X ls σ a x)(h2:EB X ls σ b y):EB X ls σ (.or #[a,b]) (x||y):=by
 cases x with
 |true=>exact aq h1
 |false=>exact(aq h1).trans h2
theorem EB.nt(h:EB X ls σ a x):EB X ls σ (.nt a) (!x):=aq h
theorem EB.ite(h1:TB X ls σ c x)(h2:x=true->EB X ls σ a y)(h3:x=false->EB X ls σ b z):EB X ls σ (.ite c a b) (if x then y else z):=by
 cases x with
 |true=>exact(aq h1).trans (h2 rfl)
 |false=>exact(aq h1).trans (h3 rfl)
theorem TB.and(h1:TB X ls σ a x)(h2:x=true->TB X ls σ b y):TB X ls σ (.and #[a,b]) (x&&y):=by
 cases x with
 |true=>exact(aq h1).trans ((aq (h2 rfl)).trans (by cases y<;>rfl))
 |false=>exact aq h1
theorem TB.IV(h1:TB X ls σ a x)(h2:TB X ls σ b y)(h3:TB X ls σ c z):TB X ls σ (.and #[a,b,c]) (x&&(y&&z)):=by
 cases x with
 |true=>exact(aq h1).trans (TB.and (x:=y) (y:=z) h2 λ_=>h3)
 |false=>exact aq h1
theorem TB.or(h1:TB X ls σ a x)(h2:TB X ls σ b y):TB X ls σ (.or #[a,b]) (x||y):=by
 cases x with
 |true=>exact aq h1
 |false=>exact(aq h1).trans ((aq h2).trans (by cases y<;>rfl))
theorem TB.nt(h:TB X ls σ a x):TB X ls σ (.nt a) (!x):=aq h
theorem TB.ite(h1:TB X ls σ c x)(h2:x=true->TB X ls σ a y)(h3:x=false->TB X ls σ b z):TB X ls σ (.ite c a b) (if x then y else z):=by
 cases x with
 |true=>exact(aq h1).trans (h2 rfl)
 |false=>exact(aq h1).trans (h3 rfl)
theorem TB.cmp{o:si}(h:EB X ls σ (.cmp o a b) x):TB X ls σ (.cmp o a b) x:=aq (f:=cX Mb) h
theorem TB.loc{i:Nat}(h:ls[i]?= ~~~(.d (.bool x))):TB X ls σ (.loc i) x:=lJ h
theorem TB.call{f:Nat}{as:Es}(h:EB X ls σ (.call f as) x):TB X ls σ (.call f as) x:=aq (f:=cX Mb) h
theorem EB.j6{k m:Nat}(h1:eval X a ls σ=some (.d (.int k),σ))(h2:eval X b ls σ=some (.d (.int m),σ)):EB X ls σ (.cmp .eq a b) (k==m):=
 bW h1 h2 (by rw[<-nq];rfl)
theorem EB.neN{k m:Nat}(h1:eval X a ls σ=some (.d (.int k),σ))(h2:eval X b ls σ=some (.d (.int m),σ)):EB X ls σ (.cmp .ne a b) (!(k==m)):=
 bW h1 h2 (by rw[<-nq];rfl)
theorem EB.Er{k m:Nat}(h1:eval X a ls σ=some (.d (.int k),σ))(h2:eval X b ls σ=some (.d (.int m),σ)):EB X ls σ (.cmp .gt a b) (decide (m<k)):=
 bW h1 h2 (by rw[show decide (m<k)=decide ((m:Int)<k)from decide_eq_decide.mpr ()];rfl)
theorem EB.ltN{k m:Nat}(h1:eval X a ls σ=some (.d (.int k),σ))(h2:eval X b ls σ=some (.d (.int m),σ)):EB X ls σ (.cmp .lt a b) (decide (k<m)):=
 bW h1 h2 (by rw[show decide (k<m)=decide ((k:Int)<m)from decide_eq_decide.mpr ()];rfl)
theorem EB.neB{p q:Bool}(h1:EB X ls σ a p)(h2:EB X ls σ b q):EB X ls σ (.cmp .ne a b) (!(p==q)):=bW h1 h2 (by cases p<;>cases q<;>rfl)
variable{i:Nat}{t:az}
theorem jU(h:ls[i]?= ~~~(.d t.d)):eval X (.sub (.loc i) 0.0) ls σ=some (.d (.int t.key),σ):=cY (ak h) aG rfl
theorem yz(h:ls[i]?= ~~~(.d t.d)):eval X (.sub (.loc i) 1.0) ls σ=some (.d (.int t.opt),σ):=cY (ak h) aG rfl
theorem UM(h:ls[i]?= ~~~(.d t.d)):eval X (.sub (.loc i) 2.0) ls σ=some (.d (.int t.ro),σ):=cY (ak h) aG rfl
theorem IW(h:ls[i]?= ~~~(.d t.d)):eval X (.sub (.loc i) 3.0) ls σ=some (.d (.int t.mask),σ):=cY (ak h) aG rfl
theorem IX(h:ls[i]?= ~~~(.d t.d)):EB X ls σ (.sub (.loc i) 4.0) t.mem:=cY (ak h) aG rfl
theorem IY{j:Nat}(h:ls[i]?= ~~~(.d (.tup [.int j]))):eval X (.sub (.loc i) 0.0) ls σ=some (.d (.int j),σ):=cY (ak h) aG rfl
theorem ml(h:ls[i]?= ~~~(.d t.d)):eval X (.bi .len (.loc i)) ls σ=some (.d (.int (5:Nat)),σ):=by exact uB (ak h) rfl
theorem oO{j:Nat}(h:ls[i]?= ~~~(.d (.tup [.int j]))):eval X (.bi .len (.loc i)) ls σ=some (.d (.int (1:Nat)),σ):=by exact uB (ak h) rfl
theorem yC:eval X 0.0 ls σ=some (.d (.int (0:Nat)),σ):=aG
theorem d7:eval X 1.0 ls σ=some (.d (.int (1:Nat)),σ):=aG
theorem sY:eval X 2.0 ls σ=some (.d (.int (2:Nat)),σ):=aG
theorem IZ:eval X 4.0 ls σ=some (.d (.int (4:Nat)),σ):=aG
end
def FU:List D:=[.tup [.int 1,.int 0],.tup [.int 0,.int 2],.tup [.int 0,.int 3],.tup [.int 2,.int 3],.tup [.int 5,.int 4],.tup [.int 5,.int 6]]
def oD(i:Nat):D:= .tup [.int i]
theorem I0:(R7.all λa=>decide (memD (.int (a:Nat)) [.int 0,.int 2,.int 3]=some (a==0||(a==2||a==3))/\memD (.int (a:Nat)) [.int 2,.int 3]=some (a==2||a==3))&&R7.all λb=>decide (memD (.tup [.int (a:Nat),.int (b:Nat)]) FU=some ([(1,0),(0,2),(0,3),(2,3),(5,4),(5,6)].contains (a,b))))=true:=by decide+kernel
theorem uV{a b:Nat}(ha:a<7)(hb:b<7):memD (.int (a:Nat)) [.int 0,.int 2,.int 3]=some (a==0||(a==2||a==3))/\memD (.int (a:Nat)) [.int 2,.int 3]=some (a==2||a==3)/\memD (.tup [.int (a:Nat),.int (b:Nat)]) FU=some ([(1,0),(0,2),(0,3),(2,3),(5,4),(5,6)].contains (a,b)):=by have:=bc.mp I0 a (iz ha);rw[bx,dK]at this;exact⟨this.1.1,this.1.2,of_decide_eq_true (bc.mp this.2 b (iz hb))⟩
theorem EB.isin{X:Cx}{ls:Ls}{σ:PS}{a b:E}{k:D}{l:List D}{r:Bool}(h1:eval X a ls σ=some (.d k,σ))(h2:eval X b ls σ=some (.d (.tup l),σ))(h3:memD k l=some r):EB X ls σ (.cmp .isin a b) r:=bW h1 h2 h3
theorem EB.inL{X:Cx}{ls:Ls}{σ:PS}{a b:E}{k:D}{l:List D}{r:Bool}(h1:eval X a ls σ=some (.d k,σ))(h2:eval X b ls σ=some (.d (.lst l),σ))(h3:memD k l=some r):EB X ls σ (.cmp .isin a b) r:=bW h1 h2 h3
theorem EB.wQ{X:Cx}{ls:Ls}{σ:PS}{a b:E}{k:D}{l:List D}{r:Bool}(h1:eval X a ls σ=some (.d k,σ))(h2:eval X b ls σ=some (.d (.lst l),σ))(h3:memD k l=some r):EB X ls σ (.cmp .eW a b) (!r):=by exact bW h1 h2 (aq (f:=A6) h3)
section
variable{pm:List MO}{n:Nat}{t t':az}{i:Nat}
theorem f74:rn (n+1) 74 [] pm []=some (.d (.lst FU),pm,[]):=by dsimp! [rfl]
theorem Bv{X:Cx}{ls:Ls}{σ:PS}{a b:E}{x y:D}(h1:eval X a ls σ=some (.d x,σ))(h2:eval X b ls σ=some (.d y,σ)):eval X (.tup #[a,b]) ls σ=some (.d (.tup [x,y]),σ):=qR (au h1 (au h2 bo)) rfl rfl
theorem f84A(hk:t.key<7)(hk':t'.key<7):rn (n+2) 84 [.d t.d,.d t'.d] pm []=some (.d (.bool (NU t t')),pm,[]):=by
 let ls:Ls:=[some (.d t.d),some (.d t'.d),none];have g0:ls[0]?= ~~~(.d t.d):=rfl;have g1:ls[1]?= ~~~(.d t'.d):=rfl;have c1:=TB.cmp (EB.j6 (X:=aH (n+1)) (σ:=⟨pm,[]⟩) (ml g0) d7);have c2:=TB.cmp (EB.j6 (X:=aH (n+1)) (σ:=⟨pm,[]⟩) (ml g1) d7);have c3:=TB.and (TB.cmp (EB.neN (X:=aH (n+1)) (σ:=⟨pm,[]⟩) (jU g0) (jU g1))) λ_=>TB.cmp (EB.wQ (X:=aH (n+1)) (σ:=⟨pm,[]⟩) (Bv (jU g0) (jU g1)) (b_ bo (bX (sp:=(aH (n+1)).fn 74) rfl (f74 (n:=n)))) (uV hk hk').2.2);have c4:=EB.nt (EB.IV (IX (X:=aH (n+1)) (σ:=⟨pm,[]⟩) g0) (IX g1) (EB.neB (EB.j6 (jU g0) d7) (EB.j6 (jU g1) d7)));rw[cG ls (show pQ 84=some ⟨2,3,yi⟩from rfl) rfl rfl];unfold yi;dsimp only;rw[av (aS c1 aP),av (aS c2 aP)];unfold NU IB;cases q:(t.key==t'.key)<;>cases q2:([(1,0),(0,2),(0,3),(2,3),(5,4),(5,6)].contains (t.key,t'.key))<;>rw[q,q2]at c3
 ·rw[bS (bI c3 (bS (fy aG)))];rfl
 all_goals rw[av (aS c3 aP),bS (fy c4)];rfl
theorem f84B(hk:t.key<7)(hi:i<2):rn (n+2) 84 [.d (oD i),.d t.d] pm []=some (.d (.bool (NN i t)),pm,[]):=by
 let ls:Ls:=[some (.d (oD i)),some (.d t.d),none];have g0:ls[0]?= ~~~(.d (oD i)):=rfl;have g1:ls[1]?= ~~~(.d t.d):=rfl;have c1:=TB.cmp (EB.j6 (X:=aH (n+1)) (σ:=⟨pm,[]⟩) (oO g0) d7);have c2:=EB.ite (TB.cmp (EB.j6 (X:=aH (n+1)) (σ:=⟨pm,[]⟩) (IY g0) yC)) (λ_=>EB.isin (b:= .tup #[0.0,2.0,3.0]) (jU g1) (qR (au aG (au aG (au aG bo))) rfl rfl) (uV hk hk).1) (λ_=>EB.j6 (jU g1) d7);rw[cG ls (show pQ 84=some ⟨2,3,yi⟩from rfl) rfl rfl];unfold yi;dsimp only;let b:Bool:=if i==0 then t.key==0||(t.key==2||t.key==3)else t.key==1
 let bk:Ls:=[some (.d (oD i)),some (.d t.d),some (.d (.bool b))];have g1':bk[1]?= ~~~(.d t.d):=rfl;have c3:=EB.and (show EB (aH (n+1)) bk ⟨pm,[]⟩ 'c' b from ak rfl) (EB.nt (EB.and (EB.j6 (yz g1') d7) (EB.Er (IW g1') yC)));have c5:execs (aH (n+1)) #[.asg 2 (.ite (.cmp .eq (.sub 'a' 0.0) 0.0) (.cmp .isin (.sub 'b' 0.0) (.tup #[0.0,2.0,3.0])) (.cmp .eq (.sub 'b' 0.0) 1.0)),.ret (.and #['c',.nt (.and #[.cmp .eq (.sub 'b' 1.0) 1.0,.cmp .gt (.sub 'b' 3.0) 0.0])])] ls ⟨pm,[]⟩=some (.ret (.d (.bool (NN i t))),bk,⟨pm,[]⟩):=by rw[av (bB c2)];exact bS (fy c3)
 rw[bS (bI c1 c5)];rfl
theorem f84C(hi:i<2):rn (n+2) 84 [.d t.d,.d (oD i)] pm []=some (.d (.bool (t.key==i)),pm,[]):=by let ls:Ls:=[some (.d t.d),some (.d (oD i)),none];have g0:ls[0]?= ~~~(.d t.d):=rfl;have g1:ls[1]?= ~~~(.d (oD i)):=rfl;have c1:=TB.cmp (EB.j6 (X:=aH (n+1)) (σ:=⟨pm,[]⟩) (ml g0) d7);have c2:=TB.cmp (EB.j6 (X:=aH (n+1)) (σ:=⟨pm,[]⟩) (oO g1) d7);have c3:=EB.j6 (X:=aH (n+1)) (σ:=⟨pm,[]⟩) (jU g0) (IY g1);rw[cG ls (show pQ 84=some ⟨2,3,yi⟩from rfl) rfl rfl];unfold yi;dsimp only;rw[av (aS c1 aP),bS (bI c2 (bS (fy c3)))];rfl
theorem f85A(hk:t'.key<7):rn (n+2) 85 [.d t.d,.d t'.d] pm []=some (.d (.bool (FN t.key t'.key t.opt t'.opt)),pm,[]):=by
 let ls:Ls:=[some (.d t.d),some (.d t'.d)];have g0:ls[0]?= ~~~(.d t.d):=rfl;have g1:ls[1]?= ~~~(.d t'.d):=rfl;have c1:=TB.cmp (EB.j6 (X:=aH (n+1)) (σ:=⟨pm,[]⟩) (ml g1) d7);have c2:=TB.cmp (EB.isin (X:=aH (n+1)) (σ:=⟨pm,[]⟩) (b:= .tup #[2.0,3.0]) (jU g1) (Bv aG aG) (uV hk hk).2.1);have c3:=EB.and (EB.j6 (X:=aH (n+1)) (σ:=⟨pm,[]⟩) (yz g1) yC) (EB.or (EB.j6 (ml g0) d7) (EB.neN (yz g0) d7));have c4:EB (aH (n+1)) ls ⟨pm,[]⟩ (.and #[.cmp .gt (.bi .len 'a') 1.0,.cmp .eq (.sub 'a' 0.0) 1.0,.cmp .eq (.sub 'b' 0.0) 0.0,.cmp .eq (.sub 'a' 1.0) 2.0]) (t.key==1&&(t'.key==0&&t.opt==2)):=by have d1:=EB.Er (X:=aH (n+1)) (σ:=⟨pm,[]⟩) (ml g0) d7;have d2:=EB.j6 (X:=aH (n+1)) (σ:=⟨pm,[]⟩) (jU g0) d7;have d3:=EB.j6 (X:=aH (n+1)) (σ:=⟨pm,[]⟩) (jU g1) yC;have d4:=EB.j6 (X:=aH (n+1)) (σ:=⟨pm,[]⟩) (yz g0) sY;have d:=EB.IV d2 d3 d4;unfold EB at d d1⊢;have d1:eval (aH (n+1)) (.cmp .gt (.bi .len 'a') 1.0) ls ⟨pm,[]⟩=some (.d (.bool true),⟨pm,[]⟩):=d1;exact EP d1 rfl d
 rw[cG ls (show pQ 85=some ⟨2,2,yj⟩from rfl) rfl rfl];unfold yj;dsimp only;rw[av (aS c1 aP)];unfold FN;cases q:(t'.key==2||t'.key==3)with
 |true=>
  rw[q]at c2;rw[bS (bI c2 (bS (fy c3)))];rfl
 |false=>
  rw[q]at c2;rw[av (aS c2 aP),bS (fy c4)];rfl
theorem f85B(hk:t.key<7):rn (n+2) 85 [.d (oD i),.d t.d] pm []=some (.d (.bool (NP t)),pm,[]):=by
 let ls:Ls:=[some (.d (oD i)),some (.d t.d)];have g0:ls[0]?= ~~~(.d (oD i)):=rfl;have g1:ls[1]?= ~~~(.d t.d):=rfl;have c1:=TB.cmp (EB.j6 (X:=aH (n+1)) (σ:=⟨pm,[]⟩) (ml g1) d7);have c2:=TB.cmp (EB.isin (X:=aH (n+1)) (σ:=⟨pm,[]⟩) (b:= .tup #[2.0,3.0]) (jU g1) (Bv aG aG) (uV hk hk).2.1);have c3:EB (aH (n+1)) ls ⟨pm,[]⟩ (.and #[.cmp .eq (.sub 'b' 1.0) 0.0,.or #[.cmp .eq (.bi .len 'a') 1.0,.cmp .ne (.sub 'a' 1.0) 1.0]]) (t.opt==0):=by
  have d1:=EB.j6 (X:=aH (n+1)) (σ:=⟨pm,[]⟩) (yz g1) yC;have d2:EB (aH (n+1)) ls ⟨pm,[]⟩ (.or #[.cmp .eq (.bi .len 'a') 1.0,.cmp .ne (.sub 'a' 1.0) 1.0]) true:=by have e:=EB.j6 (X:=aH (n+1)) (σ:=⟨pm,[]⟩) (oO g0) d7;unfold EB at e⊢;have e:eval (aH (n+1)) (.cmp .eq (.bi .len 'a') 1.0) ls ⟨pm,[]⟩=some (.d (.bool true),⟨pm,[]⟩):=e;exact aq e
  have:=EB.and d1 d2;rw[Bool.and_true]at this;exact this
 have c4:EB (aH (n+1)) ls ⟨pm,[]⟩ (.and #[.cmp .gt (.bi .len 'a') 1.0,.cmp .eq (.sub 'a' 0.0) 1.0,.cmp .eq (.sub 'b' 0.0) 0.0,.cmp .eq (.sub 'a' 1.0) 2.0]) false:=by have d1:=EB.Er (X:=aH (n+1)) (σ:=⟨pm,[]⟩) (oO g0) d7;unfold EB at d1⊢;have d1:eval (aH (n+1)) (.cmp .gt (.bi .len 'a') 1.0) ls ⟨pm,[]⟩=some (.d (.bool false),⟨pm,[]⟩):=d1;exact aq d1
 rw[cG ls (show pQ 85=some ⟨2,2,yj⟩from rfl) rfl rfl];unfold yj;dsimp only;rw[av (aS c1 aP)];unfold NP;cases q:(t.key==2||t.key==3)with
 |true=>
  rw[q]at c2;rw[bS (bI c2 (bS (fy c3)))];rfl
 |false=>
  rw[q]at c2;rw[av (aS c2 aP),bS (fy c4)];rfl
theorem f85C:rn (n+2) 85 [.d t.d,.d (oD i)] pm []=some (.d (.bool false),pm,[]):=by let ls:Ls:=[some (.d t.d),some (.d (oD i))];have g1:ls[1]?= ~~~(.d (oD i)):=rfl;have c1:=TB.cmp (EB.j6 (X:=aH (n+1)) (σ:=⟨pm,[]⟩) (oO g1) d7);rw[cG ls (show pQ 85=some ⟨2,2,yj⟩from rfl) rfl rfl];unfold yj;dsimp only;rw[bS (bI c1 (bS (fy aG)))];rfl
theorem nr{k:Int}{l:List Int}:memD (.int k) (l.map .int)=some (l.contains k):=by
 unfold memD;have e:((l.map D.int).any λy=>ba y (.int k))=l.contains k:=by
  induction l with
  |nil=>rfl
  |cons x r ih=>
   rw[j9,List.any_cons,ih,List.contains_cons];congr 1;show(x==k)=(k==x);rw[ja,fg,fg];exact eq_comm
 rw[kB,m_,e];rfl
def rx(cs:List Int)(f:Int):Bool:=cs.contains f||(f==11&&cs.contains 5)
theorem f86{f:Int}{cs:List Int}:rn (n+1) 86 [.d (.int f),.d (.lst (cs.map .int))] pm []=some (.d (.bool (rx cs f)),pm,[]):=by let ls:Ls:=[some (.d (.int f)),some (.d (.lst (cs.map .int)))];have c1:=EB.inL (X:=aH n) (ls:=ls) (σ:=⟨pm,[]⟩) (a:= .loc 0) (b:= .loc 1) (ak rfl) (ak rfl) nr;have c2:=EB.inL (X:=aH n) (ls:=ls) (σ:=⟨pm,[]⟩) (a:= .lit (.int 5)) (b:= .loc 1) aG (ak rfl) nr;have c3:EB (aH n) ls ⟨pm,[]⟩ (.cmp .eq 'a' 11.0) (f==11):=bW (ak rfl) aG rfl;rw[cG ls (show pQ 86=some ⟨2,2,Ml⟩from rfl) rfl rfl];unfold Ml;dsimp only;rw[bS (fy (EB.or c1 (EB.and c3 c2)))];rfl
end
def m6(o1 r1 o2 r2:Int):List Int:=(if (r1=1/\r2≠1)\/(r1=0/\r2=2)then[4]else[])++(if o1≠o2/\r2≠1 then[3]else[])
def m7(Fb pW La:Bool)(o2 r1 r2:Int):List Int:=if Fb then[]else
 (if o2=2\/(o2=0/\pW=false)then[11]else[])++((if o2=0/\pW=true/\r2≠1 then[3]else[])++(if pW=false/\r1=0/\r2=0/\La=true then[4]else[]))
def mMM(Fb pW La wide:Bool)(o1 r1 o2 r2:Int):List Int:=m6 o1 r1 o2 r2++(m7 Fb pW La o2 r1 r2++(if r2≠1/\wide=true then[3]else[]))
def mOM(only ko:Bool)(o r:Int):List Int:=if only then(if r=2\/(r=0/\ko=false)then[4]else[])++((if o=1/\r≠1 then[3]else[])++(if o=0/\ko=false then[5]else[]))else(if ko=false then[5]else[])++(if r≠1 then[3,4]else[])
def mMO(r:Int):List Int:=15::(if r=1 then[4]else[])
theorem qw(a b:List Int):fV (a++b)=fV a++fV b:=List.map_append
theorem ry{p:Prop} [Decidable p] (a:List Int):fV (if p then a else[])=if p then fV a else[]:=by split<;>rfl
theorem NW{Fb pW La wide:Bool}{o1 r1 o2 r2:Int}:Bh (wt o1 r1 o2 r2) (uO Fb pW La o2 r1 r2) r2 wide=fV (mMM Fb pW La wide o1 r1 o2 r2):=by
 unfold Bh wt uO mMM m6 m7;simp only[qw,ry];cases Fb with
 |true=>rfl
 |false=>
  rw[jf,jf];simp only[qw,ry];rfl
theorem NX:([0,1].all λj=>R7.all λk=>ej (bN j) (q_ (nk k))==(k==j))=true:=by decide+kernel
theorem UN{j k:Nat}(hj:j<2)(hk:k<7):ej (bN j) (q_ (nk k))=(k==j):=by have:j=0\/j=1:=();exact cj (bc.mp (bc.mp NX j (by simpa using this)) k (iz hk))
theorem NY{j:Nat}{t:az}(hj:j<2)(hk:t.key<7):tH j t=fV (mOM (d_ j t) (t.key==j) t.opt t.ro):=by
 have e:decide (t.key=j)=(t.key==j):=by rw[ja];simp
 unfold tH mOM Fc Fd;rw[UN hj hk,e];cases d_ j t with
 |true=>
  simp only[if_true,qw,ry];rfl
 |false=>
  rw[jf,jf,qw,ry,ry,lM];rfl
theorem NZ{t:az}:wG t=fV (mMO t.ro):=by
 have e:((t.ro:Int)=1)<->t.ro=1:=();unfold wG mMO;by_cases h:t.ro=1
 ·rw[if_pos h,if_pos (e.mpr h)];rfl
 ·rw[if_neg h,if_neg λz=>h (e.mp z)];rfl
def oP(b:Bool)(c:Int):List Int:=if b then[c]else[]
def sZ(cs out:List Int):Bool:=match intsOf ((iY cs []).map (·.1))with
 |some is=>decide (sortI is=out/\is.length<60/\cs.length<=900)
 |none=>false
theorem Bw:(R3.all λo1=>R3.all λr1=>R3.all λo2=>R3.all λr2=>BB.all λkq=>BB.all λa1=>BB.all λa2=>BB.all λeq=>
  sZ (mMM kq a2 a1 (!eq) (o1:Nat) (r1:Nat) (o2:Nat) (r2:Nat)) (oP (XM kq a2 eq o1 o2 r2) 3++(oP (XJ kq a1 a2 r1 r2) 4++oP (IC kq a2 o2) 11)))=true:=by decide+kernel
theorem Bx:(R3.all λo=>R3.all λr=>BB.all λonly=>BB.all λko=>sZ (mOM only ko (o:Nat) (r:Nat)) (oP (RB only o r) 3++(oP (Rz only ko r) 4++oP (RE only ko o) 5)))=true:=by decide+kernel
theorem By:(R3.all λr=>sZ (mMO (r:Nat)) (oP (r==1) 4++[15]))=true:=by decide+kernel
theorem uW:sZ [] []=true:=by decide+kernel
theorem FV{t t':az}(d:t.Dr)(d':t'.Dr):∃cs,Fv t t'=fV cs/\sZ cs (oP (XN t t') 3++(oP (nM4 t t') 4++oP (NV t t') 11))=true:=by
 have e:decide (t.key=t'.key)=(t.key==t'.key):=by rw[ja];simp
 refine⟨_,?_,bc.mp (bc.mp (bc.mp (bc.mp (bc.mp (bc.mp (bc.mp (bc.mp Bw t.opt (wM d.ok.opt)) t.ro (wM d.ok.ro)) t'.opt (wM d'.ok.opt)) t'.ro (wM d'.ok.ro)) (t.key==t'.key) (xY _)) (decide (t.key<2)) (xY _)) (decide (t'.key<2)) (xY _)) (cD t t'&&cD t' t) (xY _)⟩;unfold Fv;rw[e];exact NW
theorem FW{j:Nat}{t:az}(hj:j<2)(d:t.Dr):∃cs,tH j t=fV cs/\sZ cs (oP (RB (d_ j t) t.opt t.ro) 3++(oP (Rz (d_ j t) (t.key==j) t.ro) 4++oP (RE (d_ j t) (t.key==j) t.opt) 5))=true:=
 ⟨_,NY hj d.ok.key,bc.mp (bc.mp (bc.mp (bc.mp Bx t.opt (wM d.ok.opt)) t.ro (wM d.ok.ro)) (d_ j t) (xY _)) (t.key==j) (xY _)⟩
theorem FX{t:az}(d:t.Dr):∃cs,wG t=fV cs/\sZ cs (oP (t.ro==1) 4++[15])=true:=
 ⟨_,NZ,bc.mp By t.ro (wM d.ok.ro)⟩
section
variable{pm:List MO}{k h b:Nat}{aE:Int->Int->Bool}{tw:PV}
theorem Bz(n:Nat){cs out:List Int}(N:gX k h b aE tw (fV cs) pm)(hc:sZ cs out=true):rn (n+1) 2 [.ax (b+6)] pm []=some (.d (.lst (out.map .int)),pm,[])/\∃fs,pm[b]?=some (.inst 2 fs)/\pN 14 fs=some (.ax (b+6))/\pm[b+6]?=some (.inst 1 [(0,.ax (b+7))]):=by
 obtain⟨t,kn,R,_,_⟩:=N.ex;unfold sZ at hc;cases hi:intsOf ((iY cs []).map (·.1))with
 |none=>rw[hi]at hc;cases hc
 |some is=>
  rw[hi]at hc;have hc:=of_decide_eq_true hc;have e:=f2 n R.iN R.iL hi hc.2.1 hc.2.2;rw[hc.1]at e;exact⟨e,_,R.iI,rfl,R.iN⟩
end
theorem wU:∀a b:List Int,j7 (a.map .int) (b.map .int)=(a==b)
 |[],[]=>rfl
 |[],_::_=>rfl
 |_::_,[]=>rfl
 |x::a,y::b=>by show((x==y)&&j7 (a.map .int) (b.map .int))=_;rw[wU a b];rfl
theorem FY(a b:List Int):AY (.lst (a.map .int)) (.lst (b.map .int))=some (a==b):=by
 have e:ba (.lst (a.map .int)) (.lst (b.map .int))=(a==b):=wU a b;have ra:qg (.lst (a.map .int))=true:=kB a;have rb:qg (.lst (b.map .int))=true:=kB b;have da:dj (.lst (a.map .int))=1:=by show dW (a.map .int)+1=1;rw[m_]
 unfold AY;rw[e,ra,rb,da,SU ()];rfl
def fW(fs:List Int):List Int:=[3,4].filter λx=>fs.contains x
section
variable{X:Cx}{ls:Ls}{pm:List MO}{tm:List TO}{c:Nat}{fs cs:List Int}{σ:PS}{a b:E}
theorem kI{v:Nat}{ifs:Es}{p:Int->Bool}(hv:v<ls.length):∀(l:List Int),(∀x∈l,cx X ifs (ls.set v (some (.d (.int x)))) σ=some (p x,σ))->dm (λl s=>cx X ifs l s) (λl s=>eval X (.loc v) l s) v (l.map .int) ls σ=some ((l.filter p).map .int,σ)
 |[],_=>rfl
 |x::l,h=>by
  rw[j9];have hx:=h x (.head _);have ih:=kI hv l λz hz=>h z (.tail _ hz);have g:(ls.set v (some (.d (.int x))))[v]?= ~~~(.d (.int x)):=by rw[dz,if_pos rfl,if_pos hv]
  cases q:p x with
  |true=>
   rw[q]at hx;rw[List.filter_cons,q,if_pos rfl];exact nZ hx (ak g) rfl ih
  |false=>
   rw[q]at hx;rw[List.filter_cons,q,if_neg ∅];exact KZ hx ih
theorem Ak{k:Int}(ha:eval X a ls ⟨pm,tm⟩=some (.d (.int k),⟨pm,tm⟩))(hb:eval X b ls ⟨pm,tm⟩=some (.aI c,⟨pm,tm⟩))(hc:tm[c]?=some (.list (fs.map .int))):EB X ls ⟨pm,tm⟩ (.cmp .isin a b) (fs.contains k):=by refine bW ha hb ?_;show ai (Xk (.int k)) (ai toD tm[c]?)=_;rw[hc];exact nr
theorem FZ{k:Int}(ha:eval X a ls ⟨pm,tm⟩=some (.d (.int k),⟨pm,tm⟩))(hb:eval X b ls ⟨pm,tm⟩=some (.aI c,⟨pm,tm⟩))(hc:tm[c]?=some (.list (fs.map .int))):EB X ls ⟨pm,tm⟩ (.cmp .eW a b) (!fs.contains k):=by refine bW ha hb ?_;show ai A6 (ai (Xk (.int k)) (ai toD tm[c]?))=_;rw[hc];exact aq (f:=A6) (nr (k:=k))
theorem mq{α:Type}{l r:List α}{i:Nat}{x:α}(h:l[i]?=some x):(l++r)[i]?=some x:=by rw[mI (fX.mp h).1];exact h
theorem wV{v:Nat}{it:E}{ifs:Es}{p:Int->Bool}(hv:v<ls.length)(hi:eval X it ls ⟨pm,tm⟩=some (.aI c,⟨pm,tm⟩))(hc:tm[c]?=some (.list (fs.map .int)))(hl:fs.length<=100000)
  (h:∀x,cx X ifs (ls.set v (some (.d (.int x)))) ⟨pm,tm.set c .dead⟩=some (p x,⟨pm,tm.set c .dead⟩)):eval X (.comp (.loc v) v it ifs) ls ⟨pm,tm⟩=some (.aI tm.length,⟨pm,tm++[.list ((fs.filter p).map .int)]⟩):=by
 have ss:(tm.set c TO.dead).set c (.list (fs.map .int))=tm:=by rw[List.set_set];exact set_same hc
 have ff:fits ((fs.filter p).map D.int)=true:=by unfold fits;have:=List.length_filter_le p fs;rw[eT];exact qI ()
 exact qS hi (aq hc) (kI hv fs λx _=>h x) ff (congrArg (PS.mk pm) ss)
theorem uX{e:E}{l:List D}{ik:List TO}{m:Nat}(h:eval X e ls σ=some (.aI m,⟨pm,ik⟩))(hm:ik[m]?=some (.list l))(hl:l.length<=100000):eval X (.bi .len e) ls σ=some (.d (.int l.length),⟨pm,ik⟩):=by have ff:fits l=true:=qI ();exact uB h ((aq (aq (f:=toD) hm)).trans (congrArg (dy _) ff))
end
section
variable{ls:Ls}{pm:List MO}{tm:List TO}{c n:Nat}{fs cs:List Int}{o1:D}{t:az}{i:Nat}
theorem BA(uY:ls[17]?= ~~~(.d (.lst (cs.map .int))))(lY:ls[18]?= ~~~(.aI c))(hc:tm[c]?=some (.list (fs.map .int)))(hn:25<=ls.length)(hl:fs.length<=100000):
  eval (aH (n+1)) (.comp 'y' 24 's' #[.nt (.call 86 #['y','r'])]) ls ⟨pm,tm⟩=some (.aI tm.length,⟨pm,tm++[.list ((fs.filter λf=>!rx cs f).map .int)]⟩):=by
 refine wV () (ak lY) hc hl λx=>?_;have g24:(ls.set 24 (some (.d (.int x))))[24]?= ~~~(.d (.int x)):=by rw[dz,if_pos rfl,if_pos ()]
 have XO:(ls.set 24 (some (.d (.int x))))[17]?= ~~~(.d (.lst (cs.map .int))):=by rw[bp ∅];exact uY
 have e:=TB.nt (TB.call (x:=rx cs x) (show EB (aH (n+1)) (ls.set 24 (some (.d (.int x)))) ⟨pm,tm.set c .dead⟩ (.call 86 #['y','r']) (rx cs x)from b_ (au (ak g24) (au (ak XO) bo)) (bX rfl (f86 (n:=n)))));unfold TB at e;exact gJ e
def tC2:E:= .and #[.cmp .lt (.sub 'l' 0.0) 2.0,.ite (.cmp .gt (.bi .len 'l') 1.0) (.cmp .lt (.sub 'm' 0.0) 2.0) (.or #[.cmp .eq (.sub 'm' 3.0) 0.0,.cmp .gt (.sub 'm' 0.0) 1.0])]
def tK:E:= .ite (.cmp .gt (.bi .len 'l') 1.0) 11.0 5.0
def Al:E:= .comp 'x' 23 (.tup #[3.0,4.0]) #[.cmp .isin 'x' 's']
theorem tL{X:Cx}(lY:ls[18]?= ~~~(.aI c))(hc:tm[c]?=some (.list (fs.map .int)))(hn:25<=ls.length):eval X Al ls ⟨pm,tm⟩=some (.aI tm.length,⟨pm,tm++[.list ((fW fs).map .int)]⟩):=by
 have et:eval X (.tup #[3.0,4.0]) ls ⟨pm,tm⟩=some (.d (.tup [.int 3,.int 4]),⟨pm,tm⟩):=Bv aG aG;have f:=kI (X:=X) (ls:=ls) (σ:=⟨pm,tm⟩) (v:=23) (ifs:=#[.cmp .isin 'x' 's']) (p:=λx=>fs.contains x) () [3,4] λx _=>by
  have g23:(ls.set 23 (some (.d (.int x))))[23]?= ~~~(.d (.int x)):=by rw[dz,if_pos rfl,if_pos ()]
  have UO:(ls.set 23 (some (.d (.int x))))[18]?= ~~~(.aI c):=by rw[bp ∅];exact lY
  have e:=TB.cmp (Ak (X:=X) (pm:=pm) (tm:=tm) (ak g23) (ak UO) hc);unfold TB at e;exact gJ e
 unfold Al;have ff:fits ((fW fs).map D.int)=true:=by unfold fits;have:(fW fs).length<=2:=List.length_filter_le _ _;rw[eT];exact qI ()
 unfold fW at ff⊢;exact qS et (fw:= .none) rfl f ff rfl
end
def RG:Ss:=#[.ite (.and #[.cmp .gt (.bi .len 'm') 1.0,.cmp .gt (.bi .len (.comp 'y' 24 's' #[.nt (.call 86 #['y','r'])])) 0.0]) #[.bad] .nil,.ite (.and #[.cmp .eq (.bi .len 'm') 1.0,.or #[.cmp .isin 0.0 's',.cmp .isin 11.0 's']]) #[.bad] .nil,.asg 20 (.comp 'x' 23 (.tup #[3.0,4.0]) #[.cmp .isin 'x' 's']),.asg 21 (.ite (.cmp .gt (.bi .len 'l') 1.0) 11.0 5.0),.ite (.cmp .eq (.bi .len 'm') 1.0) #[.ite (.cmp .ne 'r' (.bin .add (.comp 'w' 22 'u' #[.cmp .eq 'w' 4.0]) (.lst #[15.0]))) #[.bad] .nil] #[.ite (.and #[.cmp .lt (.sub 'l' 0.0) 2.0,.ite (.cmp .gt (.bi .len 'l') 1.0) (.cmp .lt (.sub 'm' 0.0) 2.0) (.or #[.cmp .eq (.sub 'm' 3.0) 0.0,.cmp .gt (.sub 'm' 0.0) 1.0])]) #[.ite (.cmp .ne 'r' (.bin .add 'u' (.ite (.cmp .isin 11.0 's') (.lst #['v']) (.lst .nil)))) #[.bad] .nil] .nil]]
def XQ:Ss:=#[.ite (.and #[.call 84 #['l','m'],.cmp .eW 0.0 's',.or #[.cmp .eW 11.0 's',.call 85 #['l','m']]]) #[.bad] .nil]
section
variable{ls:Ls}{pm:List MO}{tm:List TO}{c n gk:Nat}{fs cs:List Int}{o1:D}{t:az}{i:Nat}{cb:Bool}
theorem neL{X:Cx}{a b:E}{ik:List TO}{m:Nat}{x y:List Int}(ha:eval X a ls ⟨pm,tm⟩=some (.d (.lst (x.map .int)),⟨pm,tm⟩))(hb:eval X b ls ⟨pm,tm⟩=some (.aI m,⟨pm,ik⟩))(hm:ik[m]?=some (.list (y.map .int))):test X (.cmp .ne a b) ls ⟨pm,tm⟩=some (!(x==y),⟨pm,ik⟩):=by
 have h:compare .ne (.d (.lst (x.map .int))) (.aI m) ⟨pm,ik⟩=some (!(x==y)):=by refine aq (f:=A6) (x:=(x==y)) ?_;show ai (Sl (ai toD ik[m]?)) (some _)=_;rw[hm];exact FY x y
 have e:eval X (.cmp .ne a b) ls ⟨pm,tm⟩=some (.d (.bool (!(x==y))),⟨pm,ik⟩):=bW ha hb h;exact aq e
theorem UP{X:Cx}{a b:E}{σ:PS}{p6 nT:List TO}{m k:Nat}{x y:List Int}(ha:eval X a ls σ=some (.aI m,⟨pm,p6⟩))(hb:eval X b ls ⟨pm,p6⟩=some (.aI k,⟨pm,nT⟩))(hx:nT[m]?=some (.list (x.map .int)))(hy:nT[k]?=some (.list (y.map .int)))(hl:x.length+y.length<=100000):
  eval X (.bin .add a b) ls σ=some (.aI nT.length,⟨pm,nT++[.list ((x++y).map .int)]⟩):=by
 refine dB ha hb ?_;have ff:fits (x.map D.int++y.map D.int)=true:=by unfold fits;exact qI (by simp;omega)
 show ai (L_ .add _ (ai toD _)) (ai toD _)=_;rw[hx,hy];show dy _ (fits _)=_;rw[ff,List.map_append];rfl
theorem N9{X:Cx}{e:E}{k:Int}(h:eval X e ls ⟨pm,tm⟩=some (.d (.int k),⟨pm,tm⟩)):eval X (.lst #[e]) ls ⟨pm,tm⟩=some (.aI tm.length,⟨pm,tm++[.list ([k].map .int)]⟩):=by exact uA (au h bo) rfl rfl
theorem N_{X:Cx}:eval X (.lst .nil) ls ⟨pm,tm⟩=some (.aI tm.length,⟨pm,tm++[.list (([]:List Int).map .int)]⟩):=by exact uA bo rfl rfl
theorem g_{α:Type}{l:List α}{x:α}:(l++[x])[l.length]?=some x:=by simp
def ed(ls:Ls)(HG HH:PV):Ls:=(ls.set 20 (some HG)).set 21 (some HH)
theorem Am{HG HH:PV}{k:Nat}{v:PV}(h:ls[k]?= ~~~v)(hk:k<20):(ed ls HG HH)[k]?= ~~~v:=by unfold ed;rw[bp (),bp ()];exact h
theorem F1(hn:25<=ls.length)(gR:ls[12]?= ~~~(.d t.d))(uY:ls[17]?= ~~~(.d (.lst (cs.map .int))))(lY:ls[18]?= ~~~(.aI c))(hc:tm[c]?=some (.list (fs.map .int)))(hl:fs.length<=100000)
  (hT:∀f∈fs,rx cs f=true)
  (F2:∀bk σ,(∀k v,k<20->ls[k]?= ~~~v->bk[k]?= ~~~v)->eval (aH (n+1)) tK bk σ=some (.d (.int gk),σ)) (UQ:∀bk σ,(∀k v,k<20->ls[k]?= ~~~v->bk[k]?= ~~~v)->TB (aH (n+1)) bk σ tC2 cb)
  (hC:cb=true->cs=fW fs++(if fs.contains 11 then[(gk:Int)]else[])):
  ∃HG HH j,execs (aH (n+1)) RG ls ⟨pm,tm⟩=some (.next,ed ls HG HH,⟨pm,tm++j⟩):=by
 have tc:=BA (n:=n) (pm:=pm) uY lY hc hn hl;have fe:fs.filter (λf=>!rx cs f)=[]:=by rw[List.filter_eq_nil_iff];intro f hf;rw[hT f hf];decide
 rw[fe]at tc;have lt:=uX tc g_ (by simp);let p6:=tm++[TO.list (([]:List Int).map .int)];have hc1:p6[c]?=some (.list (fs.map .int)):=mq hc;have s1:test (aH (n+1)) (.and #[.cmp .gt (.bi .len 'm') 1.0,.cmp .gt (.bi .len (.comp 'y' 24 's' #[.nt (.call 86 #['y','r'])])) 0.0]) ls ⟨pm,tm⟩=some (false,⟨pm,p6⟩):=by have g1:TB (aH (n+1)) ls ⟨pm,tm⟩ (.cmp .gt (.bi .len 'm') 1.0) true:=TB.cmp (EB.Er (ml gR) d7);have g2:eval (aH (n+1)) (.cmp .gt (.bi .len (.comp 'y' 24 's' #[.nt (.call 86 #['y','r'])])) 0.0) ls ⟨pm,tm⟩=some (.d (.bool false),⟨pm,p6⟩):=bW lt aG rfl;unfold TB at g1;exact mQ g1 (ME (aq g2))
 have s2:TB (aH (n+1)) ls ⟨pm,p6⟩ (.and #[.cmp .eq (.bi .len 'm') 1.0,.or #[.cmp .isin 0.0 's',.cmp .isin 11.0 's']]) (false&&true):=TB.and (TB.cmp (EB.j6 (ml gR) d7)) λh=>nomatch h;have f_:=tL (X:=aH (n+1)) (pm:=pm) lY hc1 hn;let nT:=p6++[TO.list ((fW fs).map .int)];have hc2:nT[c]?=some (.list (fs.map .int)):=mq hc1;have jw:=F2 (ls.set 20 (some (.aI p6.length))) ⟨pm,nT⟩ λk v hk h=>by rw[bp ()];exact h
 have ag:∀k v,k<20->ls[k]?= ~~~v->(ed ls (.aI p6.length) (.d (.int gk)))[k]?= ~~~v:=λk v hk h=>Am h hk;have s5:TB (aH (n+1)) (ed ls (.aI p6.length) (.d (.int gk))) ⟨pm,nT⟩ (.cmp .eq (.bi .len 'm') 1.0) false:=TB.cmp (EB.j6 (ml (ag _ _ ∅ gR)) d7);have s6:=UQ (ed ls (.aI p6.length) (.d (.int gk))) ⟨pm,nT⟩ ag;have XR:(ed ls (.aI p6.length) (.d (.int gk)))[20]?= ~~~(.aI p6.length):=by unfold ed;rw[bp ∅,dz,if_pos rfl,if_pos ()]
 have l21:(ed ls (.aI p6.length) (.d (.int gk)))[21]?= ~~~(.d (.int gk)):=by unfold ed;rw[dz,if_pos rfl,if_pos (by rw[gq];omega)]
 unfold RG;unfold Al at f_;unfold tK at jw;rw[av (aS s1 aP),av (aS s2 aP),av (bB f_),av (bB jw)];unfold ed at s5 s6 XR l21 ag;cases q:cb with
 |false=>
  rw[q]at s6;unfold tC2 at s6;refine⟨.aI p6.length,.d (.int gk),[TO.list (([]:List Int).map .int)]++[TO.list ((fW fs).map .int)],?_⟩;rw[av (aS s5 (by rw[av (aS s6 aP)];exact aP)),aP];unfold ed;simp only[nT,p6,eI]
 |true=>
  rw[q]at s6;unfold tC2 at s6;have hC:=hC q;have w:fW fs=[3,4].filter λx=>fs.contains x:=rfl;have wl:(fW fs).length<=2:=List.length_filter_le _ _;have t18:=ak (X:=aH (n+1)) (σ:=⟨pm,nT⟩) (ag _ _ ∅ lY);have zT:=TB.cmp (Ak (X:=aH (n+1)) (a:= .lit (.int 11)) aG t18 hc2);have el:∃k Oa,eval (aH (n+1)) (.ite (.cmp .isin 11.0 's') (.lst #['v']) (.lst .nil)) ((ls.set 20 (some (.aI p6.length))).set 21 (some (.d (.int gk)))) ⟨pm,nT⟩=some (.aI k,⟨pm,nT++Oa⟩)/\(nT++Oa)[k]?=some (.list ((if fs.contains 11 then[(gk:Int)]else[]).map .int)):=by
   cases q:fs.contains 11 with
   |true=>
    rw[q]at zT;exact⟨_,_,iV zT (N9 (ak l21)),g_⟩
   |false=>
    rw[q]at zT;exact⟨_,_,hZ zT N_,g_⟩
  obtain⟨k,Oa,e7,e8⟩:=el;have e9:=UP (ak XR) e7 (mq (r:=Oa) (g_ (l:=p6) (x:=TO.list ((fW fs).map .int)))) e8 (by split<;>simp<;>omega);have MY:=neL (ak (ag _ _ ∅ uY)) e9 g_;rw[<-hC,show(cs==cs)=true by simp]at MY;refine⟨.aI p6.length,.d (.int gk),[TO.list (([]:List Int).map .int)]++([TO.list ((fW fs).map .int)]++(Oa++[TO.list (cs.map .int)])),?_⟩;have Ln:execs (aH (n+1)) #[.ite (.cmp .ne 'r' (.bin .add 'u' (.ite (.cmp .isin 11.0 's') (.lst #['v']) (.lst .nil)))) #[.bad] .nil] ((ls.set 20 (some (.aI p6.length))).set 21 (some (.d (.int gk)))) ⟨pm,nT⟩=some (.next,(ls.set 20 (some (.aI p6.length))).set 21 (some (.d (.int gk))),⟨pm,nT++Oa++[TO.list (cs.map .int)]⟩):=by rw[av (aS MY aP)];exact aP
  rw[av (aS s5 (by rw[av (bI s6 Ln)];exact aP)),aP];unfold ed;simp only[nT,p6,eI]
end
def UR:S:= .ite (.and #[.cmp .eq 'l' 'm',.or #[.nt 'q',.cmp .ne 'r' (.lst .nil)]]) #[.bad] .nil
section
variable{ls:Ls}{pm:List MO}{tm:List TO}{c n gk:Nat}{fs cs:List Int}{o1 o2:D}{t:az}{i:Nat}
theorem Ob(hn:25<=ls.length)(gR:ls[12]?= ~~~(.d (oD i)))(uY:ls[17]?= ~~~(.d (.lst (cs.map .int))))(lY:ls[18]?= ~~~(.aI c))(hc:tm[c]?=some (.list (fs.map .int)))
  (h0:fs.contains 0=false) (iP:fs.contains 11=false)
  (F2:∀bk σ,(∀k v,k<20->ls[k]?= ~~~v->bk[k]?= ~~~v)->eval (aH (n+1)) tK bk σ=some (.d (.int gk),σ))
  (hC:cs=(fW fs).filter (λx=>x==4)++[15]):
  ∃HG HH j,execs (aH (n+1)) RG ls ⟨pm,tm⟩=some (.next,ed ls HG HH,⟨pm,tm++j⟩):=by
 have wl:(fW fs).length<=2:=List.length_filter_le _ _;have s1:TB (aH (n+1)) ls ⟨pm,tm⟩ (.and #[.cmp .gt (.bi .len 'm') 1.0,.cmp .gt (.bi .len (.comp 'y' 24 's' #[.nt (.call 86 #['y','r'])])) 0.0]) (false&&true):=TB.and (TB.cmp (EB.Er (oO gR) d7)) λh=>nomatch h;have US:=ak (X:=aH (n+1)) (σ:=⟨pm,tm⟩) lY;have s2:=TB.and (TB.cmp (EB.j6 (X:=aH (n+1)) (σ:=⟨pm,tm⟩) (oO gR) d7)) λ_=>TB.or (TB.cmp (Ak (X:=aH (n+1)) (a:= .lit (.int 0)) aG US hc)) (TB.cmp (Ak (X:=aH (n+1)) (a:= .lit (.int 11)) aG US hc));rw[h0,iP]at s2;have f_:=tL (X:=aH (n+1)) (pm:=pm) lY hc hn;let nT:=tm++[TO.list ((fW fs).map .int)];have jw:=F2 (ls.set 20 (some (.aI tm.length))) ⟨pm,nT⟩ λk v hk h=>by rw[bp ()];exact h
 have ag:∀k v,k<20->ls[k]?= ~~~v->(ed ls (.aI tm.length) (.d (.int gk)))[k]?= ~~~v:=λk v hk h=>Am h hk;have s5:TB (aH (n+1)) (ed ls (.aI tm.length) (.d (.int gk))) ⟨pm,nT⟩ (.cmp .eq (.bi .len 'm') 1.0) true:=TB.cmp (EB.j6 (oO (ag _ _ ∅ gR)) d7);have XR:(ed ls (.aI tm.length) (.d (.int gk)))[20]?= ~~~(.aI tm.length):=by unfold ed;rw[bp ∅,dz,if_pos rfl,if_pos ()]
 have ln:(ed ls (.aI tm.length) (.d (.int gk))).length=ls.length:=by unfold ed;rw[gq,gq]
 have e1:=wV (X:=aH (n+1)) (ls:=ed ls (.aI tm.length) (.d (.int gk))) (pm:=pm) (tm:=nT) (v:=22) (ifs:=#[.cmp .eq 'w' 4.0]) (p:=λx=>x==4) () (ak XR) g_ () λx=>by
  have g22:((ed ls (.aI tm.length) (.d (.int gk))).set 22 (some (.d (.int x))))[22]?= ~~~(.d (.int x)):=by rw[dz,if_pos rfl,if_pos ()]
  have e:=TB.cmp (show EB (aH (n+1)) ((ed ls (.aI tm.length) (.d (.int gk))).set 22 (some (.d (.int x)))) ⟨pm,nT.set tm.length .dead⟩ (.cmp .eq 'w' 4.0) (x==4)from bW (ak g22) aG rfl);exact gJ e
 have fl:((fW fs).filter λx=>x==4).length<=2:=bw (List.length_filter_le _ _) wl;have e2:=UP e1 (N9 (k:=15) aG) (mq g_) g_ (by simp;omega);have e3:=neL (ak (ag _ _ ∅ uY)) e2 g_;rw[<-hC,show(cs==cs)=true by simp]at e3;unfold RG;unfold Al at f_;unfold tK at jw;unfold ed at s5 e3;have e4:execs (aH (n+1)) #[.ite (.cmp .ne 'r' (.bin .add (.comp 'w' 22 'u' #[.cmp .eq 'w' 4.0]) (.lst #[15.0]))) #[.bad] .nil] ((ls.set 20 (some (.aI tm.length))).set 21 (some (.d (.int gk)))) ⟨pm,nT⟩=some (.next,(ls.set 20 (some (.aI tm.length))).set 21 (some (.d (.int gk))),⟨pm,nT++[TO.list (((fW fs).filter λx=>x==4).map .int)]++[TO.list ([15].map .int)]++[TO.list (cs.map .int)]⟩):=by rw[av (aS e3 aP)];exact aP
 refine⟨.aI tm.length,.d (.int gk),[TO.list ((fW fs).map .int)]++([TO.list (((fW fs).filter λx=>x==4).map .int)]++([TO.list ([15].map .int)]++[TO.list (cs.map .int)])),?_⟩;rw[av (aS s1 aP),av (aS s2 aP),av (bB f_),av (bB jw),av (bI s5 e4),aP];unfold ed;simp only[nT,eI]
theorem yD{XS XT:Bool}(iP:ls[11]?= ~~~(.d o1))(gR:ls[12]?= ~~~(.d o2))(lY:ls[18]?= ~~~(.aI c))(hc:tm[c]?=some (.list (fs.map .int)))
  (e84:rn (n+2) 84 [.d o1,.d o2] pm []=some (.d (.bool XS),pm,[])) (e85:rn (n+2) 85 [.d o1,.d o2] pm []=some (.d (.bool XT),pm,[])) (hC:(XS&&(!fs.contains 0&&(!fs.contains 11||XT)))=false):
  execs (aH (n+2)) XQ ls ⟨pm,tm⟩=some (.next,ls,⟨pm,tm⟩):=by
 have US:=ak (X:=aH (n+2)) (σ:=⟨pm,tm⟩) lY;have a84:EB (aH (n+2)) ls ⟨pm,tm⟩ (.call 84 #['l','m']) XS:=b_ (au (ak iP) (au (ak gR) bo)) (bX rfl e84);have a85:EB (aH (n+2)) ls ⟨pm,tm⟩ (.call 85 #['l','m']) XT:=b_ (au (ak iP) (au (ak gR) bo)) (bX rfl e85);have s:=TB.IV (TB.call a84) (TB.cmp (FZ (X:=aH (n+2)) (a:= .lit (.int 0)) aG US hc)) (TB.or (TB.cmp (FZ (X:=aH (n+2)) (a:= .lit (.int 11)) aG US hc)) (TB.call a85));rw[hC]at s;unfold XQ;rw[av (aS s aP),aP]
theorem F3{X:Cx}{sm lets:Bool}(iP:ls[11]?= ~~~(.d o1))(gR:ls[12]?= ~~~(.d o2))(vL:ls[16]?= ~~~(.d (.bool lets)))(uY:ls[17]?= ~~~(.d (.lst (cs.map .int))))(he:AY o1 o2=some sm)(hs:sm=true->lets=true/\cs=[]):
  ∃j,exec X UR ls ⟨pm,tm⟩=some (.next,ls,⟨pm,tm++j⟩):=by
 have s1:TB X ls ⟨pm,tm⟩ (.cmp .eq 'l' 'm') sm:=TB.cmp (show EB X ls ⟨pm,tm⟩ (.cmp .eq 'l' 'm') sm from bW (ak iP) (ak gR) he);cases sm with
 |false=>exact⟨[],by rw[ei];exact aS (TB.and (y:=true) s1 λh=>nomatch h) aP⟩
 |true=>
  obtain⟨hl,hc⟩:=hs rfl;subst hl;subst hc;have s2:=TB.nt (TB.loc (X:=X) (σ:=⟨pm,tm⟩) vL);have f_:=neL (X:=X) (pm:=pm) (tm:=tm) (x:=[]) (y:=[]) (ak uY) N_ g_;unfold TB at s1 s2;have jw:test X (.and #[.cmp .eq 'l' 'm',.or #[.nt 'q',.cmp .ne 'r' (.lst .nil)]]) ls ⟨pm,tm⟩=some (false,⟨pm,tm++[TO.list (([]:List Int).map .int)]⟩):=by exact mQ s1 (gJ (Z8 s2 (Z9 f_)))
  exact⟨_,aS jw aP⟩
end
def d9(s:List Nat)(ls bk:Ls):Prop:=bk.length=ls.length/\∀i,i∉s->bk[i]?=ls[i]?
theorem d9.refl{s:List Nat}{ls:Ls}:d9 s ls ls:=⟨rfl,λ_ _=>rfl⟩
theorem d9.trans{s:List Nat}{a b c:Ls}(x:d9 s a b)(y:d9 s b c):d9 s a c:=⟨y.1.trans x.1,λi h=>(y.2 i h).trans (x.2 i h)⟩
theorem d9.set{s:List Nat}{ls:Ls}{i:Nat}{v:Option PV}(h:i∈s):d9 s ls (ls.set i v):=⟨gq,λj hj=>bp λe=>hj (by rw[<-e];exact h)⟩
theorem d9.get{s:List Nat}{ls bk:Ls}(a:d9 s ls bk){i:Nat}{v:Option PV}(h:ls[i]?=some v)(hi:i∉s):bk[i]?=some v:=by rw[a.2 i hi];exact h
theorem wW:∀f1 f2 f3 f4:Bool,(uS f1 f2 f3 f4).length<=200:=by decide+kernel
theorem kJ{α β:Type}{f:α->List β}{k:Nat}:∀(l:List α),(∀x∈l,(f x).length<=k)->(l.flatMap f).length<=l.length*k
 |[],_=>by simp
 |x::l,h=>by rw[List.flatMap_cons,eh,eH,Nat.add_mul,Nat.one_mul];exact bw (sM (Nat.add_comm _ _)) (ji (kJ l λz hz=>h z (.tail _ hz)) (h x (.head _)))
theorem wX{a b:ig}(h:b.length<=100):(pZ a b).length<=300:=by have:=kJ (f:=λnm=>iO (a9 nm a) ((a9 nm b).getD (0,false,false))) (k:=3) (c9 b) λn _=>Ae _ _;exact bw this (Nat.mul_le_mul_right 3 (bw (sM (eT _)) h))
section
variable{ls:Ls}{pm:List MO}{tm:List TO}{c n:Nat}{o1 o2:D}{f1 f2:a8->ig}
def bF:Ss:=#[.asg 18 (.bin .add 's' (.call 83 #[.call 82 #['l','t'],.call 82 #['m','t']]))]
theorem UT(ws:List a8):∀(ls:Ls) (tm:List TO) (acc:List Int) (c:Nat),(∀w∈ws,rn (n+1) 82 [.d o1,.d (bD w)] pm []=some (.d (gb (f1 w)),pm,[])/\rn (n+1) 82 [.d o2,.d (bD w)] pm []=some (.d (gb (f2 w)),pm,[])/\(f2 w).length<=100)->
  ls[11]?= ~~~(.d o1)->ls[12]?= ~~~(.d o2)->ls[18]?= ~~~(.aI c)->25<=ls.length->tm[c]?=some (.list (acc.map .int))->acc.length+ws.length*300<=100000->
  ∃bk j c',dO (λl s=>execs (aH (n+1)) bF l s) (j8 19) (ws.map bD) ls ⟨pm,tm⟩=some (.next,bk,⟨pm,tm++j⟩)/\d9 [18,19] ls bk/\bk[18]?= ~~~(.aI c')/\(tm++j)[c']?=some (.list ((acc++cP f1 f2 ws).map .int)):=by
 induction ws with
 |nil=>
  intro ls tm acc c _ _ _ lY _ hc _;exact⟨ls,[],c,by rw[ei];rfl,.refl,lY,by rw[ei,hc];simp[cP]⟩
 |cons w ws ih=>
  intro ls tm acc c h iP gR lY hn hc hl;rw[eH,Nat.add_mul]at hl;obtain⟨r1,r2,l2⟩:=h w (.head _);have r3:=f83 (pm:=pm) (n:=n) (one:=f1 w) (other:=f2 w) l2;have fl:=wX (a:=f1 w) l2;have I6:(ls.set 19 (some (.d (bD w))))[11]?= ~~~(.d o1):=by rw[bp ∅];exact iP
  have yE:(ls.set 19 (some (.d (bD w))))[12]?= ~~~(.d o2):=by rw[bp ∅];exact gR
  have UO:(ls.set 19 (some (.d (bD w))))[18]?= ~~~(.aI c):=by rw[bp ∅];exact lY
  have g19:(ls.set 19 (some (.d (bD w))))[19]?= ~~~(.d (bD w)):=by rw[dz,if_pos rfl,if_pos ()]
  have e83:eval (aH (n+1)) (.call 83 #[.call 82 #['l','t'],.call 82 #['m','t']]) (ls.set 19 (some (.d (bD w)))) ⟨pm,tm⟩=some (.d (.lst ((pZ (f1 w) (f2 w)).map .int)),⟨pm,tm⟩):=
   b_ (au (b_ (au (ak I6) (au (ak g19) bo)) (bX rfl r1)) (au (b_ (au (ak yE) (au (ak g19) bo)) (bX rfl r2)) bo)) (bX rfl r3)
  have eb:eval (aH (n+1)) (.bin .add 's' (.call 83 #[.call 82 #['l','t'],.call 82 #['m','t']])) (ls.set 19 (some (.d (bD w)))) ⟨pm,tm⟩=some (.aI tm.length,⟨pm,tm++[.list ((acc++pZ (f1 w) (f2 w)).map .int)]⟩):=by
   refine dB (ak UO) e83 ?_;have ff:fits (acc.map D.int++(pZ (f1 w) (f2 w)).map D.int)=true:=by unfold fits;exact qI (by simp;omega)
   show ai (L_ .add _ (some _)) (ai toD _)=_;rw[hc];show dy _ (fits _)=_;rw[ff,List.map_append];rfl
  obtain⟨bk,j,c',e,A,g,hg⟩:=ih ((ls.set 19 (some (.d (bD w)))).set 18 (some (.aI tm.length))) (tm++[.list ((acc++pZ (f1 w) (f2 w)).map .int)]) (acc++pZ (f1 w) (f2 w)) tm.length (λz hz=>h z (.tail _ hz))
   (by rw[bp ∅];exact I6) (by rw[bp ∅];exact yE) (by rw[dz,if_pos rfl,if_pos (by rw[gq];omega)]) (by rw[gq,gq];exact hn) g_ (by rw[eh];omega)
  refine⟨bk,[.list ((acc++pZ (f1 w) (f2 w)).map .int)]++j,c',?_,((d9.set ∅).trans (d9.set ∅)).trans A,g,?_⟩
  ·rw[j9];rw[eI]at e;exact fJ rfl ((av (bB eb)).trans aP) e
  ·rw[<-eI,hg];unfold cP;rw[List.flatMap_cons,eI]
theorem Lp(a:Nat):cK a<7:=by unfold cK;split<;>omega
def eK(i:Nat):E:= .ite (.cmp .gt (.bi .len (.loc i)) 1.0) (.sub (.loc i) 0.0) 1.0
def uZ:S:= .gr 19 (.call 81 #[.lst #[(eK 11),(eK 12)]]) bF
theorem yF{a b:Nat}(h:∀w∈bY a b,rn (n+2) 82 [.d o1,.d (bD w)] pm []=some (.d (gb (f1 w)),pm,[])/\rn (n+2) 82 [.d o2,.d (bD w)] pm []=some (.d (gb (f2 w)),pm,[])/\(f2 w).length<=100)
  (iP:ls[11]?= ~~~(.d o1)) (gR:ls[12]?= ~~~(.d o2)) (lY:ls[18]?= ~~~(.aI c)) (hn:25<=ls.length) (hc:tm[c]?=some (.list [])) (zT:∀σ,eval (aH (n+2)) (eK 11) ls σ=some (.d (.int (cK a)),σ)) (Ln:∀σ,eval (aH (n+2)) (eK 12) ls σ=some (.d (.int (cK b)),σ)):
  ∃bk j c',exec (aH (n+2)) uZ ls ⟨pm,tm⟩=some (.next,bk,⟨pm,tm++j⟩)/\d9 [18,19] ls bk/\bk[18]?= ~~~(.aI c')/\(tm++j)[c']?=some (.list ((cP f1 f2 (bY a b)).map .int))/\(cP f1 f2 (bY a b)).length<=60000:=by
 have wl:(bY a b).length<=200:=wW _ _ _ _;have e81:rn (n+2) 81 [.aI 0] pm [cW (cK a:Nat) (cK b:Nat)]=some (.d (.lst ((bY a b).map bD)),pm,[cW (cK a:Nat) (cK b:Nat)]):=f81 n (cK a) (Lp a) (cK b) (Lp b);have el:iU (aH (n+2)) #[.lst #[(eK 11),(eK 12)]] ls ⟨pm,tm⟩=some ([.aI tm.length],⟨pm,tm++[cW (cK a:Nat) (cK b:Nat)]⟩):=by exact au (uA (au (zT _) (au (Ln _) bo)) rfl rfl) bo
 have ec:cJ ((aH (n+2)).fn 81) [.aI tm.length] ⟨pm,tm++[cW (cK a:Nat) (cK b:Nat)]⟩=some (.d (.lst ((bY a b).map bD)),⟨pm,tm++[cW (cK a:Nat) (cK b:Nat)]⟩):=Un e81;obtain⟨bk,j,c',e,A,g,hg⟩:=UT (n:=n+1) (pm:=pm) (o1:=o1) (o2:=o2) (f1:=f1) (f2:=f2) (bY a b) ls (tm++[cW (cK a:Nat) (cK b:Nat)]) [] c h iP gR lY hn (mq hc) (by simp;omega);refine⟨bk,[cW (cK a:Nat) (cK b:Nat)]++j,c',?_,A,g,?_,?_⟩
 ·unfold uZ;rw[uC (b_ el ec) rfl e,eI];rfl
 ·rw[<-eI,hg];rfl
 ·have:=kJ (f:=λw=>pZ (f1 w) (f2 w)) (k:=300) (bY a b) λw hw=>wX (h w hw).2.2;unfold cP;omega
end
def UU:S:= .asg 15 (.new 2 #[.new 3 #['c'],1.0])
def UW:S:= .expr (.call 72 #['p'])
def I8(i:Nat):E:= .sub (.attr 'c' 0) (.loc i)
def F4:S:= .ite (.cmp .eq (.bi .len 'm') 1.0) #[.asg 16 (.call 49 #['p','o',(I8 13)])] #[.asg 16 (.call 51 #['p','n',(I8 13),(I8 14)])]
def UX:S:= .asg 17 (.aR (.attr 'p' 14) 12 .nil)
def UY:S:= .asg 18 (.lst .nil)
def gm:Ss:=#[UU,UW,F4,UX,UY,uZ,.ite 'q' RG XQ,UR]
def gw:List Nat:=[15,16,17,18,19,20,21]
section
variable{ls:Ls}{aa ay:List D}{pm:List MO}{tm:List TO}{o1 o2:D}{f1 f2:a8->ig}{a b:Nat}{v sm:Bool}{UZ cs:List Int}
theorem rz{X:Cx}{i:Nat}{num:Int}{r:D}(T:ah pm aa ay)(h2:ls[2]?= ~~~(.ax 0))(hi:ls[i]?= ~~~(.d (.int num)))(nn:0<=num)(lt:num<900000)(hr:aa[num.toNat]?=some r):eval X (I8 i) ls ⟨pm,tm⟩=some (.d r,⟨pm,tm⟩):=by
 refine cY (uz (ak h2) (aq T.i0)) (ak hi) ?_;have sm:small num=true:=by
  have:=qv (k:=num.toNat) ((Int.toNat_lt nn).mpr (Int.lt_trans lt ∅))
  rwa [yd nn]at this
 show ai (AZ (.int num)) (ai HD pm[1]?)=_;rw[T.i1];show dy (ai sR aa[num.toNat]?) _=_;rw[sm,eM nn,hr];rfl
theorem jy(hn:ls.length=26)(h2:ls[2]?= ~~~(.ax 0))(iP:ls[11]?= ~~~(.d o1))(gR:ls[12]?= ~~~(.d o2))(h9:9<=pm.length)(I:cu aa ay)(hl:aa.length<=500000)
  (vL:∃dt rf aE tw,exec (aH 59) F4 (ls.set 15 (some (.ax (pm.length+1)))) ⟨hU pm,tm⟩=some (.next,(ls.set 15 (some (.ax (pm.length+1)))).set 16 (some (.d (.bool v))),⟨dt,tm⟩)/\gX 2 pm.length (pm.length+1) aE tw (fV UZ) dt/\ah dt rf ay/\aa<+:rf/\rf.length<=aa.length+10)
  (hc:sZ UZ cs=true)
  (hw:∀pm,∀w∈bY a b,rn 59 82 [.d o1,.d (bD w)] pm []=some (.d (gb (f1 w)),pm,[])/\rn 59 82 [.d o2,.d (bD w)] pm []=some (.d (gb (f2 w)),pm,[])/\(f2 w).length<=100)
  (zT:∀bk σ,d9 gw ls bk->eval (aH 59) (eK 11) bk σ=some (.d (.int (cK a)),σ)) (Ln:∀bk σ,d9 gw ls bk->eval (aH 59) (eK 12) bk σ=some (.d (.int (cK b)),σ))
  (ht:∀bk ik c aA,d9 gw ls bk->bk[16]?= ~~~(.d (.bool v))->bk[17]?= ~~~(.d (.lst (cs.map .int)))->bk[18]?= ~~~(.aI c)->ik[c]?=some (.list ((cP f1 f2 (bY a b)).map .int))->(cP f1 f2 (bY a b)).length<=60000->
   ∃yG j,exec (aH 59) (.ite 'q' RG XQ) bk ⟨aA,ik⟩=some (.next,yG,⟨aA,ik++j⟩)/\d9 [20,21] bk yG)
  (he:AY o1 o2=some sm) (hs:sm=true->v=true/\cs=[]):
  ∃bk aA j rf,execs (aH 59) gm ls ⟨pm,tm⟩=some (.next,bk,⟨aA,tm++j⟩)/\d9 gw ls bk/\ah aA rf ay/\cu rf ay/\rf.length<=aa.length+10/\9<=aA.length:=by
 obtain⟨dt,rf,aE,tw,wY,N,T2,hp,Fy⟩:=vL;have I2:=I.ext T2.rs hp;have e15:exec (aH 59) UU ls ⟨pm,tm⟩=some (.next,ls.set 15 (some (.ax (pm.length+1))),⟨(pm++[.inst 3 bK])++cO (pm.length+1) pm.length 1,tm⟩):=bB (TM 57 h2);have l15:(ls.set 15 (some (.ax (pm.length+1))))[15]?= ~~~(.ax (pm.length+1)):=by rw[dz,if_pos rfl,if_pos ()]
 have e72:exec (aH 59) UW (ls.set 15 (some (.ax (pm.length+1)))) ⟨(pm++[.inst 3 bK])++cO (pm.length+1) pm.length 1,tm⟩=some (.next,ls.set 15 (some (.ax (pm.length+1))),⟨hU pm,tm⟩):=qj (b_ (au (ak l15) bo) (s_72 58)) rfl;obtain⟨e2,fs,iI,f14,iN⟩:=Bz 58 N hc;let u0:=(ls.set 15 (some (.ax (pm.length+1)))).set 16 (some (.d (.bool v)));have XU:u0.length=26:=by simp only[u0,gq];exact hn
 have a16:d9 gw ls u0:=(d9.set ∅).trans (d9.set ∅);have l15':u0[15]?= ~~~(.ax (pm.length+1)):=by simp only[u0];rw[bp ∅];exact l15
 have e17:exec (aH 59) UX u0 ⟨dt,tm⟩=some (.next,u0.set 17 (some (.d (.lst (cs.map .int)))),⟨dt,tm⟩):=
  bB (mO (C:=1) (f:=2) (uz (ak l15') ((aq iI).trans f14)) (aq iN) rfl bo (bX rfl e2))
 let yH:=u0.set 17 (some (.d (.lst (cs.map .int))));have e18:exec (aH 59) UY yH ⟨dt,tm⟩=some (.next,yH.set 18 (some (.aI tm.length)),⟨dt,tm++[.list (([]:List Int).map .int)]⟩):=bB N_;let rA:=yH.set 18 (some (.aI tm.length));have n18:rA.length=26:=by simp only[rA,yH,gq];exact XU
 have U0:d9 gw ls rA:=a16.trans ((d9.set ∅).trans (d9.set ∅));have g16:rA[16]?= ~~~(.d (.bool v)):=by simp only[rA,yH,u0];rw[bp ∅,bp ∅,dz,if_pos rfl,if_pos (by rw[gq];omega)]
 have XO:rA[17]?= ~~~(.d (.lst (cs.map .int))):=by simp only[rA,yH];rw[bp ∅,dz,if_pos rfl,if_pos ()]
 have UO:rA[18]?= ~~~(.aI tm.length):=by simp only[rA,yH];rw[dz,if_pos rfl,if_pos (by rw[gq];omega)]
 obtain⟨Oc,j,c,e19,RH,c18,hcf,Od⟩:=yF (n:=57) (ls:=rA) (pm:=dt) (tm:=tm++[.list (([]:List Int).map .int)]) (hw dt) (U0.get iP ∅) (U0.get gR ∅) UO () g_ (λσ=>zT _ σ U0) (λσ=>Ln _ σ U0);have A19':d9 gw rA Oc:=⟨RH.1,λi hi=>RH.2 i λh=>hi (by simp only[dH,yc,or_false]at h;rcases h with h|h<;>subst h<;>decide)⟩
 have a19:=U0.trans A19';obtain⟨Oe,j2,K',XW⟩:=ht Oc _ c dt a19 (RH.get g16 ∅) (RH.get XO ∅) c18 hcf Od;have A20':d9 gw Oc Oe:=⟨XW.1,λi hi=>XW.2 i λh=>hi (by simp only[dH,yc,or_false]at h;rcases h with h|h<;>subst h<;>decide)⟩
 have a20:=a19.trans A20';obtain⟨j3,e21⟩:=F3 (X:=aH 59) (ls:=Oe) (pm:=dt) (tm:=tm++[.list (([]:List Int).map .int)]++j++j2) (a20.get iP ∅) (a20.get gR ∅) (XW.get (RH.get g16 ∅) ∅) (XW.get (RH.get XO ∅) ∅) he hs;refine⟨Oe,dt,[.list (([]:List Int).map .int)]++(j++(j2++j3)),rf,?_,a20,T2,I2,Fy,?_⟩
 ·unfold gm;rw[av e15,av e72,av wY,av e17,av e18,av e19,av K',av e21,aP];simp only[eI]
 ·have:=(fX.mp iI).1;omega
end
section
set_option synthInstance.maxHeartbeats 1000000
set_option synthInstance.maxSize 1024
theorem BC:∀same pC lax own n3 n4 Ag iq f3 f4 lK:Bool,FO true same pC lax own n3 n4 Ag iq f3 f4 lK=true->iq=false/\(f3=true->n3=true)/\(f4=true->n4=true)/\(lK=true->Ag=true)/\(own=true->n3=f3/\n4=f4/\Ag=lK)/\(same=true->n3=false/\n4=false/\Ag=false):=by decide+kernel
theorem BD:∀same pC lax own n3 n4 Ag iq f3 f4 lK:Bool,FO false same pC lax own n3 n4 Ag iq f3 f4 lK=true->(pC&&(!iq&&(!lK||lax)))=false/\same=false:=by decide+kernel
theorem BE:∀c n3 n4 n5 iq f3 f4 lK:Bool,((!iq&&((!f3||n3)&&((!f4||n4)&&(!lK||n5))))&&(!c||(n3==f3&&(n4==f4&&n5==lK))))=true->iq=false/\(f3=true->n3=true)/\(f4=true->n4=true)/\(lK=true->n5=true)/\(c=true->n3=f3/\n4=f4/\n5=lK):=by decide+kernel
theorem u7(fs:List Int):fW fs=oP (fs.contains 3) 3++oP (fs.contains 4) 4:=by dsimp only[fW,oP];cases h3:fs.contains 3<;>cases h4:fs.contains 4<;>simp only[List.filter,h3,h4]<;>rfl
theorem wZ(t t':az):AY t.d t'.d=some (decide (t=t')):=by
 have e:ba t.d t'.d=decide (t=t'):=by
  show(((t.key:Int)==t'.key)&&(((t.opt:Int)==t'.opt)&&(((t.ro:Int)==t'.ro)&&(((t.mask:Int)==t'.mask)&&((t.mem==t'.mem)&&true)))))=_;rw[nq,nq,nq,nq,ja];simp only[bx,fg,dK,Bool.and_true];constructor
  ·rintro⟨a,b,c,d,e⟩;cases t;cases t';simp only at a b c d e;subst a;subst b;subst c;subst d;subst e;rfl
  ·intro e;subst e;simp
 unfold AY;rw[e];rfl
theorem ny(i:Nat)(t:az):AY (oD i) t.d=some false/\AY t.d (oD i)=some false:=by
 have e1:ba (oD i) t.d=false:=by show(((i:Int)==t.key)&&false)=false;rw[Bool.and_false]
 have e2:ba t.d (oD i)=false:=by show(((t.key:Int)==i)&&false)=false;rw[Bool.and_false]
 unfold AY;rw[e1,e2];exact⟨rfl,rfl⟩
theorem An{n3 n4 nx f3 f4 lK:Bool}{x f:Int}(hx:x=11\/x=5)(h3:f3=true->n3=true)(h4:f4=true->n4=true)(iP:lK=true->nx=true)(hf:(f=3/\f3=true)\/(f=4/\f4=true)\/(f=11/\lK=true)):rx (oP n3 3++(oP n4 4++oP nx x)) f=true:=by
 rcases hf with⟨e,h⟩|⟨e,h⟩|⟨e,h⟩<;>subst e
 ·rw[h3 h];cases n4<;>cases nx<;>rcases hx with e|e<;>subst e<;>rfl
 ·rw[h4 h];cases n3<;>cases nx<;>rcases hx with e|e<;>subst e<;>rfl
 ·rw[iP h];cases n3<;>cases n4<;>rcases hx with e|e<;>subst e<;>rfl
section
variable{ls:Ls}{aa ay:List D}{pm:List MO}{tm:List TO}{t t':az}{i:Nat}
theorem jE.lt{r:D}{x:Int}(p:jE aa r x)(h:aa.length<=600000):x<900000:=ob6 h (fX.mp p.2).1 p.1 rfl
theorem I9{X:Cx}{k:Nat}{σ:PS}(hk:t.key<7)(h:ls[k]?= ~~~(.d t.d)):eval X (eK k) ls σ=some (.d (.int (cK t.key)),σ):=by dsimp only[eK,cK];rw[if_pos hk];exact iV (TB.cmp (EB.Er (ml h) d7)) (jU h)
theorem U1{X:Cx}{k:Nat}{σ:PS}(h:ls[k]?= ~~~(.d (oD i))):eval X (eK k) ls σ=some (.d (.int (cK (7+i))),σ):=by dsimp only[eK,cK];rw[if_neg ()];exact hZ (TB.cmp (EB.Er (oO h) d7)) d7
theorem Ao{n:Nat}{w:a8}(hk:t.key<7)(h:Li t.key w=true)(pm:List MO):rn (n+1) 82 [.d t.d,.d (bD w)] pm []=some (.d (gb (jv t w)),pm,[])/\(jv t w).length<=100:=by unfold Li at h;rw[if_pos hk]at h;refine⟨f82 hk h,?_⟩;unfold XH at h;simp only[bx,dK]at h;unfold jv;rw[eT];exact h.2.2
theorem Lq{n:Nat}{w:a8}(hi:i<2)(h:Li (7+i) w=true)(pm:List MO):rn (n+1) 82 [.d (oD i),.d (bD w)] pm []=some (.d (gb (Bs (7+i) w)),pm,[])/\(Bs (7+i) w).length<=100:=by have hz:¬7+i<7:=();unfold Li at h;rw[if_neg hz,dK]at h;refine⟨?_,h⟩;have e:=f82o (pm:=pm) (n:=n) (w:=w) hi;have:i=0\/i=1:=();rcases this with e'|e'<;>subst e'<;>exact e
theorem oQ{a b:Nat}(h:iZ a b=true){w:a8}(hw:w∈bY a b):Li a w=true/\Li b w=true:=by unfold iZ at h;simp only[bx,bc]at h;exact h.2.2 w hw
theorem F5{X:Cx}{σ:PS}(h:ls[11]?= ~~~(.d t.d)):eval X tK ls σ=some (.d (.int ((11:Nat):Int)),σ):=iV (TB.cmp (EB.Er (ml h) d7)) aG
theorem Of{X:Cx}{σ:PS}(h:ls[11]?= ~~~(.d (oD i))):eval X tK ls σ=some (.d (.int ((5:Nat):Int)),σ):=hZ (TB.cmp (EB.Er (oO h) d7)) aG
theorem Lr{σ:PS}(h:ls[12]?= ~~~(.d t.d)){X:Cx}:TB X ls σ (.cmp .eq (.bi .len 'm') 1.0) false:=TB.cmp (EB.j6 (ml h) d7)
theorem U2{σ:PS}(h:ls[12]?= ~~~(.d (oD i))){X:Cx}:TB X ls σ (.cmp .eq (.bi .len 'm') 1.0) true:=TB.cmp (EB.j6 (oO h) d7)
theorem Og{p p':Nat}{num mj o o' tp lX:Int}{ae pY:List Int}(d:t.Dr)(d':t'.Dr)(hn:ls.length=26)(h2:ls[2]?= ~~~(.ax 0))(iP:ls[11]?= ~~~(.d t.d))(gR:ls[12]?= ~~~(.d t'.d))(HI:ls[13]?= ~~~(.d (.int num)))(Lu:ls[14]?= ~~~(.d (.int mj)))
  (T:ah pm aa ay) (h9:9<=pm.length) (I:cu aa ay) (hl:aa.length<=500000) (L:jq aa t p num o tp ae) (L':jq aa t' p' mj o' lX pY) (h5:5<=p):
  ∃bk aA j rf,execs (aH 59) gm ls ⟨pm,tm⟩=some (.next,bk,⟨aA,tm++j⟩)/\d9 gw ls bk/\ah aA rf ay/\cu rf ay/\rf.length<=aa.length+10/\9<=aA.length:=by
 obtain⟨cm,ec,U3⟩:=FV d d';have so:=jx (a:=t.key) (b:=t'.key) (.inl ⟨by have:=d.ok.key;omega,d'.ok.key⟩);have u9:=lawA d d';have RN:=λaE=>om (aE:=aE) T h9;have TR:=(RN dZ).2;obtain⟨dt,rf,aE,tw,e51,N2,T2,hp,Fy⟩:=Ue I hl L L' d.ok d'.ok h5 TR λaE=>(RN aE).1;have g2:(ls.set 15 (some (.ax (pm.length+1))))[2]?= ~~~(.ax 0):=by rw[bp ∅];exact h2
 have yE:(ls.set 15 (some (.ax (pm.length+1))))[12]?= ~~~(.d t'.d):=by rw[bp ∅];exact gR
 have Oh:(ls.set 15 (some (.ax (pm.length+1))))[13]?= ~~~(.d (.int num)):=by rw[bp ∅];exact HI
 have U4:(ls.set 15 (some (.ax (pm.length+1))))[14]?= ~~~(.d (.int mj)):=by rw[bp ∅];exact Lu
 have U5:(ls.set 15 (some (.ax (pm.length+1))))[15]?= ~~~(.ax (pm.length+1)):=by rw[dz,if_pos rfl,if_pos ()]
 have U6:=rz (X:=aH 59) (tm:=tm) TR g2 Oh L.at_.1 (L.at_.lt ()) L.at_.2;have r14:=rz (X:=aH 59) (tm:=tm) TR g2 U4 L'.at_.1 (L'.at_.lt ()) L'.at_.2;have wY:exec (aH 59) F4 (ls.set 15 (some (.ax (pm.length+1)))) ⟨hU pm,tm⟩=some (.next,(ls.set 15 (some (.ax (pm.length+1)))).set 16 (some (.d (.bool (rh t t')))),⟨dt,tm⟩):=
  aS (Lr yE) (wJ (r:=(_,_)) (bB (b_ (au (ak U5) (au (ak Oh) (au U6 (au r14 bo)))) (bX rfl e51))))
 have ek:∀{bk σ},d9 gw ls bk->eval (aH 59) (eK 11) bk σ=some (.d (.int (cK t.key)),σ):=λA=>I9 d.ok.key (A.get iP ∅);have Lv:∀{bk σ},d9 gw ls bk->eval (aH 59) (eK 12) bk σ=some (.d (.int (cK t'.key)),σ):=λA=>I9 d'.ok.key (A.get gR ∅);have hw:∀pm,∀w∈bY t.key t'.key,rn 59 82 [.d t.d,.d (bD w)] pm []=some (.d (gb (jv t w)),pm,[])/\rn 59 82 [.d t'.d,.d (bD w)] pm []=some (.d (gb (jv t' w)),pm,[])/\(jv t' w).length<=100:=λpm w hw=>
  ⟨(Ao d.ok.key (oQ so hw).1 pm).1,Ao d'.ok.key (oQ so hw).2 pm⟩
 cases hv:rh t t' with
 |true=>
  rw[hv]at u9;have q:=BC _ _ _ _ _ _ _ _ _ _ _ u9;rw[hv,lM,ec]at N2;rw[hv]at wY;refine jy (cs:=oP (XN t t') 3++(oP (nM4 t t') 4++oP (NV t t') 11)) hn h2 iP gR h9 I hl ⟨dt,rf,aE,tw,wY,N2,T2,hp,Fy⟩ U3 hw (λ_ _ A=>ek A) (λ_ _ A=>Lv A) (λbk ik c aA A vL uY lY hc Od=>?_) (wZ t t') (λhs=>⟨rfl,?_⟩)
  ·obtain⟨HG,HH,j,e⟩:=F1 (n:=58) (pm:=aA) (gk:=11) (cb:=decide (t.key<2)&&decide (t'.key<2)) (by have:=A.1;omega) (A.get gR ∅) uY lY hc ()
    (λf hf=>by
     have hm:=jF.mpr hf;refine An (f3:=FA t t' 3) (f4:=FA t t' 4) (lK:=FA t t' 11) (.inl rfl) q.2.1 q.2.2.1 q.2.2.2.1 ?_;rcases Ah hf with e|e|e|e<;>subst e
     ·have:FA t t' 0=true:=hm;rw[q.1]at this;cases this
     ·exact .inl ⟨rfl,hm⟩
     ·exact .inr (.inl ⟨rfl,hm⟩)
     ·exact .inr (.inr ⟨rfl,hm⟩))
    (λyG σ ag=>F5 (ag 11 _ ∅ (A.get iP ∅)))
    (λyG σ ag=>TB.and (TB.cmp (EB.ltN (jU (ag 11 _ ∅ (A.get iP ∅))) sY)) λ_=>TB.ite (z:=true) (TB.cmp (EB.Er (ml (ag 11 _ ∅ (A.get iP ∅))) d7)) (λ_=>TB.cmp (EB.ltN (jU (ag 12 _ ∅ (A.get gR ∅))) sY)) λh=>nomatch h)
    (λXX=>by have z:=q.2.2.2.2.1 XX;rw[z.1,z.2.1,z.2.2,u7,eI];rfl)
   refine⟨_,j,bI (TB.loc vL) e,?_⟩;exact(d9.set ∅).trans (d9.set ∅)
  ·have z:=q.2.2.2.2.2 hs;rw[z.1,z.2.1,z.2.2];rfl
 |false=>
  rw[hv]at u9;have q:=BD _ _ _ _ _ _ _ _ _ _ _ u9;rw[hv,jf]at N2;rw[hv]at wY;refine jy (UZ:=[]) (cs:=[]) hn h2 iP gR h9 I hl ⟨dt,rf,aE,tw,wY,N2,T2,hp,Fy⟩ uW hw (λ_ _ A=>ek A) (λ_ _ A=>Lv A) (λbk ik c aA A vL uY lY hc Od=>?_) (wZ t t') (λhs=>by rw[hs]at q;cases q.2);exact⟨bk,[],by rw[ei];exact aS (TB.loc vL) (yD (n:=57) (A.get iP ∅) (A.get gR ∅) lY hc (f84A d.ok.key d'.ok.key) (f85A d'.ok.key) q.1),.refl⟩
end
end
section
variable{ls:Ls}{aa ay:List D}{pm:List MO}{tm:List TO}{t:az}{i:Nat}
theorem I_(I:cu aa ay)(hi:i<2):0<=bN i/\bN i<900000/\aa[(bN i).toNat]?=some (.tup [.int 10,.int i]):=by have h:=(wH I hi).1;exact⟨h.nn,h.lt,h.at_⟩
theorem Oi{p':Nat}{mj o' lX:Int}{pY:List Int}(hi:i<2)(d:t.Dr)(hn:ls.length=26)(h2:ls[2]?= ~~~(.ax 0))(iP:ls[11]?= ~~~(.d (oD i)))(gR:ls[12]?= ~~~(.d t.d))(HI:ls[13]?= ~~~(.d (.int (bN i))))(Lu:ls[14]?= ~~~(.d (.int mj)))
  (T:ah pm aa ay) (h9:9<=pm.length) (I:cu aa ay) (hl:aa.length<=500000) (L':jq aa t p' mj o' lX pY):
  ∃bk aA j rf,execs (aH 59) gm ls ⟨pm,tm⟩=some (.next,bk,⟨aA,tm++j⟩)/\d9 gw ls bk/\ah aA rf ay/\cu rf ay/\rf.length<=aa.length+10/\9<=aA.length:=by
 obtain⟨cm,ec,U3⟩:=FW hi d;have so:=jx (a:=7+i) (b:=t.key) (.inl ⟨by omega,d.ok.key⟩);have u9:=lawB hi d;have RN:=λaE=>om (aE:=aE) T h9;have TR:=(RN dZ).2;obtain⟨dt,rf,aE,tw,e51,N2,T2,hp,Fy⟩:=Uk I hl hi L' d.ok TR λaE=>(RN aE).1;have pr:=I_ I hi;have g2:(ls.set 15 (some (.ax (pm.length+1))))[2]?= ~~~(.ax 0):=by rw[bp ∅];exact h2
 have yE:(ls.set 15 (some (.ax (pm.length+1))))[12]?= ~~~(.d t.d):=by rw[bp ∅];exact gR
 have Oh:(ls.set 15 (some (.ax (pm.length+1))))[13]?= ~~~(.d (.int (bN i))):=by rw[bp ∅];exact HI
 have U4:(ls.set 15 (some (.ax (pm.length+1))))[14]?= ~~~(.d (.int mj)):=by rw[bp ∅];exact Lu
 have U5:(ls.set 15 (some (.ax (pm.length+1))))[15]?= ~~~(.ax (pm.length+1)):=by rw[dz,if_pos rfl,if_pos ()]
 have U6:=rz (X:=aH 59) (tm:=tm) TR g2 Oh pr.1 pr.2.1 pr.2.2;have r14:=rz (X:=aH 59) (tm:=tm) TR g2 U4 L'.at_.1 (L'.at_.lt ()) L'.at_.2;have wY:exec (aH 59) F4 (ls.set 15 (some (.ax (pm.length+1)))) ⟨hU pm,tm⟩=some (.next,(ls.set 15 (some (.ax (pm.length+1)))).set 16 (some (.d (.bool (ju i t)))),⟨dt,tm⟩):=
  aS (Lr yE) (wJ (r:=(_,_)) (bB (b_ (au (ak U5) (au (ak Oh) (au U6 (au r14 bo)))) (bX rfl e51))))
 have ek:∀{bk σ},d9 gw ls bk->eval (aH 59) (eK 11) bk σ=some (.d (.int (cK (7+i))),σ):=λA=>U1 (A.get iP ∅);have Lv:∀{bk σ},d9 gw ls bk->eval (aH 59) (eK 12) bk σ=some (.d (.int (cK t.key)),σ):=λA=>I9 d.ok.key (A.get gR ∅);have hw:∀pm,∀w∈bY (7+i) t.key,rn 59 82 [.d (oD i),.d (bD w)] pm []=some (.d (gb (Bs (7+i) w)),pm,[])/\rn 59 82 [.d t.d,.d (bD w)] pm []=some (.d (gb (jv t w)),pm,[])/\(jv t w).length<=100:=λpm w hw=>
  ⟨(Lq hi (oQ so hw).1 pm).1,Ao d.ok.key (oQ so hw).2 pm⟩
 unfold IE at u9;cases hv:ju i t with
 |true=>
  rw[hv,lM]at u9;have q:=BE _ _ _ _ _ _ _ _ u9;rw[hv,lM,ec]at N2;rw[hv]at wY;refine jy (cs:=oP (RB (d_ i t) t.opt t.ro) 3++(oP (Rz (d_ i t) (t.key==i) t.ro) 4++oP (RE (d_ i t) (t.key==i) t.opt) 5)) hn h2 iP gR h9 I hl ⟨dt,rf,aE,tw,wY,N2,T2,hp,Fy⟩ U3 hw (λ_ _ A=>ek A) (λ_ _ A=>Lv A) (λbk ik c aA A vL uY lY hc Od=>?_) (ny i t).1 (λhs=>nomatch hs);obtain⟨HG,HH,j,e⟩:=F1 (n:=58) (pm:=aA) (gk:=5) (cb:=decide (i<2)&&(t.mask==0||decide (1<t.key))) (by have:=A.1;omega) (A.get gR ∅) uY lY hc ()
   (λf hf=>by
    have hm:=jF.mpr hf;refine An (f3:=FB i t 3) (f4:=FB i t 4) (lK:=FB i t 11) (.inr rfl) q.2.1 q.2.2.1 q.2.2.2.1 ?_;rcases Ah hf with e|e|e|e<;>subst e
    ·have:FB i t 0=true:=hm;rw[q.1]at this;cases this
    ·exact .inl ⟨rfl,hm⟩
    ·exact .inr (.inl ⟨rfl,hm⟩)
    ·exact .inr (.inr ⟨rfl,hm⟩))
   (λyG σ ag=>Of (ag 11 _ ∅ (A.get iP ∅)))
   (λyG σ ag=>TB.and (TB.cmp (EB.ltN (IY (ag 11 _ ∅ (A.get iP ∅))) sY)) λ_=>TB.ite (y:=true) (TB.cmp (EB.Er (oO (ag 11 _ ∅ (A.get iP ∅))) d7)) (λh=>nomatch h) (λ_=>TB.or (TB.cmp (EB.j6 (IW (ag 12 _ ∅ (A.get gR ∅))) yC)) (TB.cmp (EB.Er (jU (ag 12 _ ∅ (A.get gR ∅))) d7))))
   (λXX=>by rw[bx]at XX;have z:=q.2.2.2.2 XX.2;rw[z.1,z.2.1,z.2.2,u7,eI];rfl)
  refine⟨_,j,bI (TB.loc vL) e,?_⟩;exact(d9.set ∅).trans (d9.set ∅)
 |false=>
  rw[hv,jf,Bool.not_eq_true']at u9;rw[hv,jf]at N2
  replace wY:=hv▸wY
  refine jy (UZ:=[]) (cs:=[]) hn h2 iP gR h9 I hl ⟨dt,rf,aE,tw,wY,N2,T2,hp,Fy⟩ uW hw (λ_ _ A=>ek A) (λ_ _ A=>Lv A) (λbk ik c aA A vL uY lY hc Od=>?_) (ny i t).1 (λhs=>nomatch hs);exact⟨bk,[],by rw[ei];exact aS (TB.loc vL) (yD (n:=57) (A.get iP ∅) (A.get gR ∅) lY hc (f84B d.ok.key hi) (f85B d.ok.key) u9),.refl⟩
theorem Oj{p:Nat}{num o tp:Int}{ae:List Int}(hi:i<2)(d:t.Dr)(hn:ls.length=26)(h2:ls[2]?= ~~~(.ax 0))(iP:ls[11]?= ~~~(.d t.d))(gR:ls[12]?= ~~~(.d (oD i)))(HI:ls[13]?= ~~~(.d (.int num)))(Lu:ls[14]?= ~~~(.d (.int (bN i))))
  (T:ah pm aa ay) (h9:9<=pm.length) (I:cu aa ay) (hl:aa.length<=500000) (L:jq aa t p num o tp ae):
  ∃bk aA j rf,execs (aH 59) gm ls ⟨pm,tm⟩=some (.next,bk,⟨aA,tm++j⟩)/\d9 gw ls bk/\ah aA rf ay/\cu rf ay/\rf.length<=aa.length+10/\9<=aA.length:=by
 obtain⟨cm,ec,U3⟩:=FX d;have so:=jx (a:=t.key) (b:=7+i) (.inr ⟨d.ok.key,()⟩);have u9:=lawC hi d;have RN:=λaE=>om (aE:=aE) T h9;have TR:=(RN dZ).2;obtain⟨dt,rf,aE,tw,e49,N2,T2,hp,Fy⟩:=Ul I hl hi L d.ok TR λaE=>(RN aE).1;have g2:(ls.set 15 (some (.ax (pm.length+1))))[2]?= ~~~(.ax 0):=by rw[bp ∅];exact h2
 have yE:(ls.set 15 (some (.ax (pm.length+1))))[12]?= ~~~(.d (oD i)):=by rw[bp ∅];exact gR
 have Oh:(ls.set 15 (some (.ax (pm.length+1))))[13]?= ~~~(.d (.int num)):=by rw[bp ∅];exact HI
 have U4:(ls.set 15 (some (.ax (pm.length+1))))[14]?= ~~~(.d (.int (bN i))):=by rw[bp ∅];exact Lu
 have U5:(ls.set 15 (some (.ax (pm.length+1))))[15]?= ~~~(.ax (pm.length+1)):=by rw[dz,if_pos rfl,if_pos ()]
 have U6:=rz (X:=aH 59) (tm:=tm) TR g2 Oh L.at_.1 (L.at_.lt ()) L.at_.2;have wY:exec (aH 59) F4 (ls.set 15 (some (.ax (pm.length+1)))) ⟨hU pm,tm⟩=some (.next,(ls.set 15 (some (.ax (pm.length+1)))).set 16 (some (.d (.bool (nj t i)))),⟨dt,tm⟩):=
  bI (U2 yE) (wJ (r:=(_,_)) (bB (b_ (au (ak U5) (au (ak U4) (au U6 bo))) (bX rfl e49))))
 have ek:∀{bk σ},d9 gw ls bk->eval (aH 59) (eK 11) bk σ=some (.d (.int (cK t.key)),σ):=λA=>I9 d.ok.key (A.get iP ∅);have Lv:∀{bk σ},d9 gw ls bk->eval (aH 59) (eK 12) bk σ=some (.d (.int (cK (7+i))),σ):=λA=>U1 (A.get gR ∅);have hw:∀pm,∀w∈bY t.key (7+i),rn 59 82 [.d t.d,.d (bD w)] pm []=some (.d (gb (jv t w)),pm,[])/\rn 59 82 [.d (oD i),.d (bD w)] pm []=some (.d (gb (Bs (7+i) w)),pm,[])/\(Bs (7+i) w).length<=100:=λpm w hw=>
  ⟨(Ao d.ok.key (oQ so hw).1 pm).1,Lq hi (oQ so hw).2 pm⟩
 unfold IF at u9;cases hv:nj t i with
 |true=>
  rw[hv,lM]at u9;simp only[bx,Bool.not_eq_true',fg]at u9;rw[hv,lM,ec]at N2;rw[hv]at wY;refine jy (cs:=oP (t.ro==1) 4++[15]) hn h2 iP gR h9 I hl ⟨dt,rf,aE,tw,wY,N2,T2,hp,Fy⟩ U3 hw (λ_ _ A=>ek A) (λ_ _ A=>Lv A) (λbk ik c aA A vL uY lY hc Od=>?_) (ny i t).2 (λhs=>nomatch hs);obtain⟨HG,HH,j,e⟩:=Ob (n:=58) (pm:=aA) (gk:=11) (by have:=A.1;omega) (A.get gR ∅) uY lY hc u9.1 u9.2.1 (λyG σ ag=>F5 (ag 11 _ ∅ (A.get iP ∅)))
   (by have f4:(cP (jv t) (Bs (7+i)) (bY t.key (7+i))).contains 4=(t.ro==1):=u9.2.2.symm;rw[u7,f4];cases (cP (jv t) (Bs (7+i)) (bY t.key (7+i))).contains 3<;>cases (t.ro==1)<;>rfl)
  refine⟨_,j,bI (TB.loc vL) e,?_⟩;exact(d9.set ∅).trans (d9.set ∅)
 |false=>
  rw[hv,jf,Bool.not_eq_true']at u9;rw[hv,jf]at N2;rw[hv]at wY;refine jy (UZ:=[]) (cs:=[]) hn h2 iP gR h9 I hl ⟨dt,rf,aE,tw,wY,N2,T2,hp,Fy⟩ uW hw (λ_ _ A=>ek A) (λ_ _ A=>Lv A) (λbk ik c aA A vL uY lY hc Od=>?_) (ny i t).2 (λhs=>nomatch hs);exact⟨bk,[],by rw[ei];exact aS (TB.loc vL) (yD (n:=57) (XS:=t.key==i) (XT:=false) (A.get iP ∅) (A.get gR ∅) lY hc (f84C hi) f85C (by rw[Bool.or_false];exact u9)),.refl⟩
end
def Ol(c:Nat):E:=match c with
 |0=> .bin .mul 3.0 'j'
 |1=> .bin .add (.bin .mul 3.0 'j') 1.0
 |_=> .bin .add (.bin .mul 3.0 'j') 2.0
def Om:S:= .asg 10 (.call 75 #['b',(Ol 0)])
def Oo:S:= .asg 11 (.call 77 #[.call 75 #['b',(Ol 1)]])
def Oq:S:= .asg 12 (.call 77 #[.call 75 #['b',(Ol 2)]])
def Ja(c:Int):E:= .cmp .eq (.bin .mod (.bin .fdiv 'k' (.lit (.int c))) 2.0) 1.0
def s4S:S:= .ite (Ja 4) #[.asg 12 (.call 76 #[.sub 'm' 0.0,.sub 'm' 1.0,.sub 'm' 2.0,.sub 'l' 3.0,.sub 'l' 4.0])] .nil
def s8S:S:= .ite (Ja 8) #[.asg 12 (.call 76 #[.sub 'l' 0.0,.sub 'm' 1.0,.sub 'm' 2.0,.sub 'm' 3.0,.sub 'm' 4.0])] .nil
def F6:E:= .tup #[.bin .mod (.bin .fdiv 'k' 16.0) 2.0]
def U7:S:= .ite (.cmp .eq (.bin .mod 'k' 4.0) 2.0) #[.asg 11 F6] .nil
def RI:S:= .ite (.cmp .eq (.bin .mod 'k' 4.0) 3.0) #[.asg 12 F6] .nil
section
variable{ls:Ls}{pm:List MO}{tm:List TO}{a u_:Nat}{nums:List Nat}{n f:Nat}{t t':az}{X:Cx}{σ:PS}
theorem Jb{sp:Spec}{x v:D}{l:List D}{aA:List MO}(hl:tm[a]?=some (.list l))(h:sp [.aI 0,.d x] pm [.list l]=some (.d v,aA,[.list l])):cJ sp [.aI a,.d x] ⟨pm,tm⟩=some (.d v,⟨aA,tm⟩):=dn rfl hl rfl h (set_same hl)
theorem Jc{sp:Spec}{x y v:D}{l:List D}{aA:List MO}(hl:tm[a]?=some (.list l))(h:sp [.ax 0,.aI 0,.d x,.d y] pm [.list l]=some (.d v,aA,[.list l])):cJ sp [.ax 0,.aI a,.d x,.d y] ⟨pm,tm⟩=some (.d v,⟨aA,tm⟩):=dn rfl hl rfl h (set_same hl)
theorem U8{c:Nat}(hc:c<3)(w0:u_<=10)(h9:ls[9]?= ~~~(.d (.int u_))):eval X (Ol c) ls σ=some (.d (.int (3*u_+c:Nat)),σ):=by
 have e0:eval X (.bin .mul 3.0 'j') ls σ=some (.d (.int (3*u_:Nat)),σ):=by refine dB aG (ak h9) ?_;rw[tJ ∅ (qv ()),Int.natCast_mul];rfl
 have:c=0\/c=1\/c=2:=();rcases this with e|e|e<;>subst e
 ·exact e0
 ·exact dB e0 d7 rfl
 ·exact dB e0 sY rfl
theorem va{c:Nat}(hc:c<3)(w0:u_<=10)(h1:ls[1]?= ~~~(.aI a))(h9:ls[9]?= ~~~(.d (.int u_)))(ha:tm[a]?=some (.list (nums.map λ(x:Nat)=> .int x)))(hn:0<nums.length)(BF:nums.length<=9):
  eval (aH (n+1)) (.call 75 #['b',(Ol c)]) ls ⟨pm,tm⟩=some (.d (.int (kH nums (3*u_+c):Nat)),⟨pm,tm⟩):=
 b_ (au (ak h1) (au (U8 hc w0 h9) bo)) (Jb ha (f75 hn BF ()))
theorem oT{e:E}{x c:Nat}(hc:0<c)(h:eval X e ls σ=some (.d (.int x),σ)){b:E}(hb:eval X b ls σ=some (.d (.int c),σ)):eval X (.bin .mod e b) ls σ=some (.d (.int (x%c:Nat)),σ):=
 dB h hb (oK hc)
theorem vb{e:E}{x c:Nat}(hc:0<c)(hc':c<1000)(h:eval X e ls σ=some (.d (.int x),σ)){b:E}(hb:eval X b ls σ=some (.d (.int c),σ)):eval X (.bin .fdiv e b) ls σ=some (.d (.int (x/c:Nat)),σ):=
 dB h hb (oN hc ())
theorem lit8:eval X 8.0 ls σ=some (.d (.int (8:Nat)),σ):=aG
theorem U9:eval X 16.0 ls σ=some (.d (.int (16:Nat)),σ):=aG
theorem Jd(h:ls[10]?= ~~~(.d (.int f))):TB X ls σ (Ja 4) (f/4%2==1):=TB.cmp (EB.j6 (oT ∅ (vb ∅ ∅ (ak h) IZ) sY) d7)
theorem Je(h:ls[10]?= ~~~(.d (.int f))):TB X ls σ (Ja 8) (f/8%2==1):=TB.cmp (EB.j6 (oT ∅ (vb ∅ ∅ (ak h) lit8) sY) d7)
theorem Ap(h:ls[10]?= ~~~(.d (.int f))):eval X F6 ls σ=some (.d (oD (f/16%2)),σ):=qR (au (oT ∅ (vb ∅ ∅ (ak h) U9) sY) bo) rfl rfl
theorem BG(w0:u_<=10)(hlen:ls.length=26)(h1:ls[1]?= ~~~(.aI a))(h9:ls[9]?= ~~~(.d (.int u_)))(ha:tm[a]?=some (.list (nums.map λ(x:Nat)=> .int x)))(hn:0<nums.length)(BF:nums.length<=9)(r:Ss):
  ∃bk f t t',execs (aH (n+2)) (.cons Om (.cons Oo (.cons Oq (.cons s4S (.cons s8S r))))) ls ⟨pm,tm⟩=execs (aH (n+2)) r bk ⟨pm,tm⟩/\d9 [10,11,12] ls bk/\bk[10]?= ~~~(.d (.int (f:Nat)))/\bk[11]?= ~~~(.d (az.d t))/\bk[12]?= ~~~(.d (az.d t'))/\t.Dr/\t'.Dr:=by
 have MY:=va (n:=n+1) (pm:=pm) (c:=0) ∅ w0 h1 h9 ha hn BF;generalize hf:kH nums (3*u_+0)=f at MY;let XY:=ls.set 10 (some (.d (.int f)));have XZ:d9 [10,11,12] ls XY:=d9.set ∅;have zT:eval (aH (n+2)) (.call 77 #[.call 75 #['b',(Ol 1)]]) XY ⟨pm,tm⟩=some (.d (rq (kH nums (3*u_+1))).d,⟨pm,tm⟩):=
  b_ (au (va (n:=n+1) (pm:=pm) (c:=1) ∅ w0 (XZ.get h1 ∅) (XZ.get h9 ∅) ha hn BF) bo) (bX rfl (f77 (n:=n)))
 have d1:=Aj (kH nums (3*u_+1));generalize rq (kH nums (3*u_+1))=t at zT d1;let U_:=XY.set 11 (some (.d t.d));have X0:d9 [10,11,12] ls U_:=XZ.trans (d9.set ∅);have Ln:eval (aH (n+2)) (.call 77 #[.call 75 #['b',(Ol 2)]]) U_ ⟨pm,tm⟩=some (.d (rq (kH nums (3*u_+2))).d,⟨pm,tm⟩):=
  b_ (au (va (n:=n+1) (pm:=pm) (c:=2) ∅ w0 (X0.get h1 ∅) (X0.get h9 ∅) ha hn BF) bo) (bX rfl (f77 (n:=n)))
 have d2:=Aj (kH nums (3*u_+2));generalize rq (kH nums (3*u_+2))=t2 at Ln d2;let BH:=U_.set 12 (some (.d t2.d));have A12:d9 [10,11,12] ls BH:=X0.trans (d9.set ∅);have n12:BH.length=26:=by rw[A12.1];exact hlen
 have U':BH[10]?= ~~~(.d (.int f)):=by simp only[BH,U_,XY];rw[bp ∅,bp ∅,dz,if_pos rfl,if_pos ()]
 have I6:BH[11]?= ~~~(.d t.d):=by simp only[BH,U_];rw[bp ∅,dz,if_pos rfl,if_pos (by rw[XZ.1];omega)]
 have yE:BH[12]?= ~~~(.d t2.d):=by simp only[BH];rw[dz,if_pos rfl,if_pos (by rw[X0.1];omega)]
 have st4:∃ls4 t4,exec (aH (n+2)) s4S BH ⟨pm,tm⟩=some (.next,ls4,⟨pm,tm⟩)/\d9 [12] BH ls4/\ls4[12]?= ~~~(.d (az.d t4))/\t4.Dr:=by
  have tb:=Jd (X:=aH (n+2)) (σ:=⟨pm,tm⟩) U';cases q:(f/4%2==1)with
  |false=>rw[q]at tb;exact⟨BH,t2,aS tb aP,.refl,yE,d2⟩
  |true=>
   rw[q]at tb;have ec:eval (aH (n+2)) (.call 76 #[.sub 'm' 0.0,.sub 'm' 1.0,.sub 'm' 2.0,.sub 'l' 3.0,.sub 'l' 4.0]) BH ⟨pm,tm⟩=some (.d (pE t2.key t2.opt t2.ro t.mask t.mem).d,⟨pm,tm⟩):=
    b_ (au (jU yE) (au (yz yE) (au (UM yE) (au (IW I6) (au (IX I6) bo))))) (bX rfl (f76 (n:=n+1)))
   exact⟨BH.set 12 (some (.d (pE t2.key t2.opt t2.ro t.mask t.mem).d)),_,bI tb (wJ (r:=(_,_)) (bB ec)),d9.set ∅,by rw[dz,if_pos rfl,if_pos ()],uU d2.ok.key d2.ok.opt d2.ok.ro d1.ok.mask⟩
 obtain⟨l4,t4,e4,A4,g4,d4⟩:=st4;have n4:l4.length=26:=by rw[A4.1];exact n12
 have X3:∃ls8 t8,exec (aH (n+2)) s8S l4 ⟨pm,tm⟩=some (.next,ls8,⟨pm,tm⟩)/\d9 [12] l4 ls8/\ls8[12]?= ~~~(.d (az.d t8))/\t8.Dr:=by
  have tb:=Je (X:=aH (n+2)) (σ:=⟨pm,tm⟩) (A4.get U' ∅);have lz:=A4.get I6 ∅;cases q:(f/8%2==1)with
  |false=>rw[q]at tb;exact⟨l4,t4,aS tb aP,.refl,g4,d4⟩
  |true=>
   rw[q]at tb;have ec:eval (aH (n+2)) (.call 76 #[.sub 'l' 0.0,.sub 'm' 1.0,.sub 'm' 2.0,.sub 'm' 3.0,.sub 'm' 4.0]) l4 ⟨pm,tm⟩=some (.d (pE t.key t4.opt t4.ro t4.mask t4.mem).d,⟨pm,tm⟩):=
    b_ (au (jU lz) (au (yz g4) (au (UM g4) (au (IW g4) (au (IX g4) bo))))) (bX rfl (f76 (n:=n+1)))
   exact⟨l4.set 12 (some (.d (pE t.key t4.opt t4.ro t4.mask t4.mem).d)),_,bI tb (wJ (r:=(_,_)) (bB ec)),d9.set ∅,by rw[dz,if_pos rfl,if_pos ()],uU d1.ok.key d4.ok.opt d4.ok.ro d4.ok.mask⟩
 obtain⟨l8,t8,e8,A8,g8,d8⟩:=X3;have up:∀{x y:Ls},d9 [12] x y->d9 [10,11,12] x y:=λA=>⟨A.1,λi hi=>A.2 i λh=>hi (by rw[jG.mp h];decide)⟩;refine⟨l8,f,t,t8,?_,A12.trans ((up A4).trans (up A8)),A8.get (A4.get U' ∅) ∅,A8.get (A4.get I6 ∅) ∅,g8,d1,d8⟩;unfold Om Oo Oq;rw[av (bB MY),av (bB zT),av (bB Ln),av e4,av e8]
end
def F7(i:Nat):E:= .ite (.cmp .eq (.bi .len (.loc i)) 1.0) (.sub (.tup #['d','e']) (.sub (.loc i) 0.0)) (.call 78 #['c','i',.tup #['d','e'],.loc i])
def Jf:S:= .asg 13 (F7 11)
def BJ:S:= .asg 14 (F7 12)
def Jg:Ss:= .cons Om (.cons Oo (.cons Oq (.cons s4S (.cons s8S (.cons U7 (.cons RI (.cons Jf (.cons BJ gm))))))))
section
variable{ls:Ls}{pm:List MO}{tm:List TO}{kb i j:Nat}{t t':az}{aa ay:List D}{f:Nat}
theorem Lw{X:Cx}{σ:PS}(hj:j<2)(h3:ls[3]?= ~~~(.d (.int 16)))(h4:ls[4]?= ~~~(.d (.int 17)))(hi:ls[i]?= ~~~(.d (oD j))):eval X (F7 i) ls σ=some (.d (.int (bN j)),σ):=by refine iV (TB.cmp (EB.j6 (oO hi) d7)) (cY (Bv (ak h3) (ak h4)) (IY hi) ?_);have:j=0\/j=1:=();rcases this with e|e<;>subst e<;>rfl
theorem Aq(d:t.Dr)(h2:ls[2]?= ~~~(.ax 0))(h3:ls[3]?= ~~~(.d (.int 16)))(h4:ls[4]?= ~~~(.d (.int 17)))(h8:ls[8]?= ~~~(.aI kb))(hk:tm[kb]?=some (.list (fT.map .int)))(hi:ls[i]?= ~~~(.d t.d))
  (T:ah pm aa ay) (I:cu aa ay) (hl:aa.length<=500000) (h5:5<=ay.length) (hb:ay.length<=1000):
  ∃aA e_ Ot num o tp ae,eval (aH 59) (F7 i) ls ⟨pm,tm⟩=some (.d (.int num),⟨aA,tm⟩)/\ah aA e_ Ot/\cu e_ Ot/\aa<+:e_/\e_.length<=aa.length+12/\Ot.length=ay.length+1/\jq e_ t ay.length num o tp ae/\aA.length=pm.length:=by
 obtain⟨⟨hA,nd,ne⟩,⟨o,tp,ae,L⟩,R,hp,hlen⟩:=Nm I d.ok () h5 hb;obtain⟨aA,e,T',N⟩:=f78 53 T d.ok.key () () hA nd ne;refine⟨aA,_,_,_,o,tp,ae,?_,T',⟨R,I.pre.trans hp,I.Nj.trans (List.prefix_append _ _)⟩,hp,hlen,by simp,L,N.len⟩;exact hZ (TB.cmp (EB.j6 (ml hi) d7)) (b_ (au (ak h2) (au (ak h8) (au (Bv (ak h3) (ak h4)) (au (ak hi) bo)))) (Jc hk e))
def Va:List Nat:=[11,12]
theorem BK(hlen:ls.length=26)(HJ:ls[10]?= ~~~(.d (.int f)))(iP:ls[11]?= ~~~(.d t.d))(gR:ls[12]?= ~~~(.d t'.d))(X:Cx)(σ:PS)(r:Ss):
  ∃bk,execs X (.cons U7 (.cons RI r)) ls σ=execs X r bk σ/\d9 Va ls bk/\((bk[11]?= ~~~(.d t.d)/\bk[12]?= ~~~(.d t'.d))\/(∃i,i<2/\bk[11]?= ~~~(.d (oD i))/\bk[12]?= ~~~(.d t'.d))\/(∃i,i<2/\bk[11]?= ~~~(.d t.d)/\bk[12]?= ~~~(.d (oD i)))):=by
 have Lx:∀{ls:Ls},eval X 3.0 ls σ=some (.d (.int (3:Nat)),σ):=aG;have c2:=TB.cmp (EB.j6 (X:=X) (σ:=σ) (oT ∅ (ak HJ) IZ) sY);have hi:f/16%2<2:=Nat.mod_lt _ ∅;cases q2:(f%4==2)with
 |true=>
  rw[q2]at c2;let l1:=ls.set 11 (some (.d (oD (f/16%2))));have e2:exec X U7 ls σ=some (.next,l1,σ):=bI c2 (wJ (r:=(_,_)) (bB (Ap HJ)));have A:d9 Va ls l1:=d9.set ∅;have c3:=TB.cmp (EB.j6 (X:=X) (σ:=σ) (oT ∅ (ak (A.get HJ ∅)) IZ) Lx);have q3:(f%4==3)=false:=by rw[cj q2];rfl
  rw[q3]at c3;have e3:exec X RI l1 σ=some (.next,l1,σ):=aS c3 aP;refine⟨l1,by rw[av e2,av e3],A,.inr (.inl ⟨_,hi,?_,?_⟩)⟩
  ·simp only[l1];rw[dz,if_pos rfl,if_pos ()]
  ·simp only[l1];rw[bp ∅];exact gR
 |false=>
  rw[q2]at c2;have e2:exec X U7 ls σ=some (.next,ls,σ):=aS c2 aP;have c3:=TB.cmp (EB.j6 (X:=X) (σ:=σ) (oT ∅ (ak HJ) IZ) Lx);cases q3:(f%4==3)with
  |true=>
   rw[q3]at c3;let l1:=ls.set 12 (some (.d (oD (f/16%2))));have e3:exec X RI ls σ=some (.next,l1,σ):=bI c3 (wJ (r:=(_,_)) (bB (Ap HJ)));refine⟨l1,by rw[av e2,av e3],d9.set ∅,.inr (.inr ⟨_,hi,?_,?_⟩)⟩
   ·simp only[l1];rw[bp ∅];exact iP
   ·simp only[l1];rw[dz,if_pos rfl,if_pos ()]
  |false=>
   rw[q3]at c3;have e3:exec X RI ls σ=some (.next,ls,σ):=aS c3 aP;exact⟨ls,by rw[av e2,av e3],.refl,.inl ⟨iP,gR⟩⟩
structure nz (k a kb:Nat) (nums:List Nat) (ls:Ls) (pm:List MO) (tm:List TO):Prop where
 len:ls.length=26
 l1:ls[1]?= ~~~(.aI a)
 l2:ls[2]?= ~~~(.ax 0)
 l3:ls[3]?= ~~~(.d (.int 16))
 l4:ls[4]?= ~~~(.d (.int 17))
 l8:ls[8]?= ~~~(.aI kb)
 ta:tm[a]?=some (.list (nums.map λ(x:Nat)=> .int x))
 tk:tm[kb]?=some (.list (fT.map .int))
 p9:9<=pm.length
 ex:∃aa ay,ah pm aa ay/\cu aa ay/\aa.length<=100+100*k/\5<=ay.length/\ay.length<=5+2*k
theorem Jh{k a kb u_:Nat}{nums:List Nat}(S:nz k a kb nums ls pm tm)(hk:k<=10)(w0:u_<=10)(h9:ls[9]?= ~~~(.d (.int u_)))(hn:0<nums.length)(BF:nums.length<=9):
  ∃bk aA ik,execs (aH 59) Jg ls ⟨pm,tm⟩=some (.next,bk,⟨aA,ik⟩)/\nz (k+1) a kb nums bk aA ik:=by
 obtain⟨aa,ay,T,I,hr,h5,hb⟩:=S.ex;obtain⟨l1,f,t,t',e1,A1,U',I6,yE,d,d'⟩:=BG (n:=57) (pm:=pm) w0 S.len S.l1 h9 S.ta hn BF (.cons U7 (.cons RI (.cons Jf (.cons BJ gm))));obtain⟨l2,e2,A2,Vb⟩:=BK (by rw[A1.1];exact S.len) U' I6 yE (aH 59) ⟨pm,tm⟩ (.cons Jf (.cons BJ gm));have Ou:∀{s:List Nat} {x y:Ls},(∀i∈s,i∈[10,11,12,13,14,15,16,17,18,19,20,21])->d9 s x y->d9 [10,11,12,13,14,15,16,17,18,19,20,21] x y:=λh A=>⟨A.1,λi hi=>A.2 i λz=>hi (h i z)⟩;have B2:d9 [10,11,12,13,14,15,16,17,18,19,20,21] ls l2:=(Ou ∅ A1).trans (Ou ∅ A2);have n2:l2.length=26:=by rw[B2.1];exact S.len
 have k2:=B2.get S.l2 ∅;have k3:=B2.get S.l3 ∅;have k4:=B2.get S.l4 ∅;have k8:=B2.get S.l8 ∅;have fin:∀{bk:Ls} {aA:List MO} {j:List TO} {l4:Ls} {rf bd:List D},d9 [10,11,12,13,14,15,16,17,18,19,20,21] l2 l4->d9 gw l4 bk->ah aA rf bd->cu rf bd->rf.length<=aa.length+40->5<=bd.length->bd.length<=ay.length+2->9<=aA.length->nz (k+1) a kb nums bk aA (tm++j):=λ{bk aA j l4 rf bd} A4 A5 T' I' MK h5' hb' h9'=>by have B:=B2.trans (A4.trans (Ou ∅ A5));exact⟨by rw[B.1];exact S.len,B.get S.l1 ∅,B.get S.l2 ∅,B.get S.l3 ∅,B.get S.l4 ∅,B.get S.l8 ∅,mq S.ta,mq S.tk,h9',rf,bd,T',I',(),h5',()⟩
 have MV:∀{v:PV} {σ aN:PS} {r:Ss},eval (aH 59) (F7 11) l2 σ=some (v,aN)->execs (aH 59) (.cons Jf r) l2 σ=execs (aH 59) r (l2.set 13 (some v)) aN:=λh=>av (bB h);unfold Jg;rw[e1,e2];rcases Vb with⟨Ly,Lz⟩|⟨i,hi,Ly,Lz⟩|⟨i,hi,Ly,Lz⟩
 ·obtain⟨iW,Vc,bds3,num,o,tp,ae,e3,T3,I3,p3,Ro,hb3,L3,n3⟩:=Aq d k2 k3 k4 k8 S.tk Ly T I () h5 ();let l3:=l2.set 13 (some (.d (.int num)));have A3:d9 [10,11,12,13,14,15,16,17,18,19,20,21] l2 l3:=d9.set ∅;have g:∀{i:Nat} {v:Option PV},i≠13->l2[i]?=some v->l3[i]?=some v:=λhi h=>by simp only[l3];rw[bp λe=>hi e.symm];exact h
  obtain⟨qT,Vd,bds4,mj,o',lX,pY,e4,T4,I4,p4,hl4,hb4,L4,n4⟩:=Aq d' (g ∅ k2) (g ∅ k3) (g ∅ k4) (g ∅ k8) S.tk (g ∅ Lz) T3 I3 () () ();let l4:=l3.set 14 (some (.d (.int mj)));have A4:d9 [10,11,12,13,14,15,16,17,18,19,20,21] l2 l4:=A3.trans (d9.set ∅);have g':∀{i:Nat} {v:Option PV},i≠14->l3[i]?=some v->l4[i]?=some v:=λhi h=>by simp only[l4];rw[bp λe=>hi e.symm];exact h
  have Ve:l3[13]?= ~~~(.d (.int num)):=by simp only[l3];rw[dz,if_pos rfl,if_pos ()]
  have Vf:l4[14]?= ~~~(.d (.int mj)):=by simp only[l4];rw[dz,if_pos rfl,if_pos (by rw[A3.1];omega)]
  have p9:=S.p9;obtain⟨bk,aA,j,rf,e5,A5,T5,I5,hl5,Vg⟩:=Og (tm:=tm) d d' (by rw[A4.1];exact n2) (g' ∅ (g ∅ k2)) (g' ∅ (g ∅ Ly)) (g' ∅ (g ∅ Lz)) (g' ∅ Ve) Vf T4 () I4 () (L3.pre p4) L4 ();refine⟨bk,aA,tm++j,?_,fin A4 A5 T5 I5 () () () Vg⟩;rw[MV e3,show execs (aH 59) (.cons BJ gm) (l2.set 13 (some (.d (.int num)))) ⟨iW,tm⟩=execs (aH 59) gm l4 ⟨qT,tm⟩from av (bB e4),e5]
 ·have e3:=Lw (X:=aH 59) (σ:=⟨pm,tm⟩) hi k3 k4 Ly;let l3:=l2.set 13 (some (.d (.int (bN i))));have A3:d9 [10,11,12,13,14,15,16,17,18,19,20,21] l2 l3:=d9.set ∅;have g:∀{i:Nat} {v:Option PV},i≠13->l2[i]?=some v->l3[i]?=some v:=λhi h=>by simp only[l3];rw[bp λe=>hi e.symm];exact h
  obtain⟨qT,Vd,bds4,mj,o',lX,pY,e4,T4,I4,p4,hl4,hb4,L4,n4⟩:=Aq d' (g ∅ k2) (g ∅ k3) (g ∅ k4) (g ∅ k8) S.tk (g ∅ Lz) T I () h5 ();let l4:=l3.set 14 (some (.d (.int mj)));have A4:d9 [10,11,12,13,14,15,16,17,18,19,20,21] l2 l4:=A3.trans (d9.set ∅);have g':∀{i:Nat} {v:Option PV},i≠14->l3[i]?=some v->l4[i]?=some v:=λhi h=>by simp only[l4];rw[bp λe=>hi e.symm];exact h
  have Ve:l3[13]?= ~~~(.d (.int (bN i))):=by simp only[l3];rw[dz,if_pos rfl,if_pos ()]
  have Vf:l4[14]?= ~~~(.d (.int mj)):=by simp only[l4];rw[dz,if_pos rfl,if_pos (by rw[A3.1];omega)]
  have p9:=S.p9;obtain⟨bk,aA,j,rf,e5,A5,T5,I5,hl5,Vg⟩:=Oi (tm:=tm) hi d' (by rw[A4.1];exact n2) (g' ∅ (g ∅ k2)) (g' ∅ (g ∅ Ly)) (g' ∅ (g ∅ Lz)) (g' ∅ Ve) Vf T4 () I4 () L4;refine⟨bk,aA,tm++j,?_,fin A4 A5 T5 I5 () () () Vg⟩;rw[MV e3,show execs (aH 59) (.cons BJ gm) (l2.set 13 (some (.d (.int (bN i))))) ⟨pm,tm⟩=execs (aH 59) gm l4 ⟨qT,tm⟩from av (bB e4),e5]
 ·obtain⟨iW,Vc,bds3,num,o,tp,ae,e3,T3,I3,p3,Ro,hb3,L3,n3⟩:=Aq d k2 k3 k4 k8 S.tk Ly T I () h5 ();let l3:=l2.set 13 (some (.d (.int num)));have A3:d9 [10,11,12,13,14,15,16,17,18,19,20,21] l2 l3:=d9.set ∅;have g:∀{i:Nat} {v:Option PV},i≠13->l2[i]?=some v->l3[i]?=some v:=λhi h=>by simp only[l3];rw[bp λe=>hi e.symm];exact h
  have e4:=Lw (X:=aH 59) (σ:=⟨iW,tm⟩) hi (g ∅ k3) (g ∅ k4) (g ∅ Lz);let l4:=l3.set 14 (some (.d (.int (bN i))));have A4:d9 [10,11,12,13,14,15,16,17,18,19,20,21] l2 l4:=A3.trans (d9.set ∅);have g':∀{i:Nat} {v:Option PV},i≠14->l3[i]?=some v->l4[i]?=some v:=λhi h=>by simp only[l4];rw[bp λe=>hi e.symm];exact h
  have Ve:l3[13]?= ~~~(.d (.int num)):=by simp only[l3];rw[dz,if_pos rfl,if_pos ()]
  have Vf:l4[14]?= ~~~(.d (.int (bN i))):=by simp only[l4];rw[dz,if_pos rfl,if_pos (by rw[A3.1];omega)]
  have p9:=S.p9;obtain⟨bk,aA,j,rf,e5,A5,T5,I5,hl5,Vg⟩:=Oj (tm:=tm) hi d (by rw[A4.1];exact n2) (g' ∅ (g ∅ k2)) (g' ∅ (g ∅ Ly)) (g' ∅ (g ∅ Lz)) (g' ∅ Ve) Vf T3 () I3 () L3;refine⟨bk,aA,tm++j,?_,fin A4 A5 T5 I5 () () () Vg⟩;rw[MV e3,show execs (aH 59) (.cons BJ gm) (l2.set 13 (some (.d (.int num)))) ⟨iW,tm⟩=execs (aH 59) gm l4 ⟨iW,tm⟩from av (bB e4),e5]
end
def stA:S:= .asg 1 (.comp (.bin .mod 'z' 99991.0) 25 (.Ei 'a' (.lit .none) 9.0) .nil)
def stB:S:= .ite (.cmp .eq (.bi .len 'b') 0.0) #[.asg 1 (.lst #[4.0])] .nil
def LA(s:List Nat)(b:E):E:= .call 5 #['c',.lit (.str s),b,.lit (.int (-1))]
def Vh(e:E):E:= .aR 'c' 3 #[e]
def X4(i:Nat):E:=Vh (.tup #[14.0,.loc i])
def X5(c:Nat):E:=Vh (.tup #[3.0,.lit (.str [c]),0.0])
def fF(l:List Int):List Nat:=l.map λx=>(Int.fmod x 99991).toNat
section
variable{ls:Ls}{pm:List MO}{tm:List TO}{aa ay:List D}{i:Nat}
theorem tM{X:Cx}{σ:PS}(h:25<ls.length):∀l:List Int,dm (λl s=>cx X .nil l s) (λl s=>eval X (.bin .mod 'z' 99991.0) l s) 25 (l.map .int) ls σ=some ((fF l).map (λ(x:Nat)=> .int x),σ)
 |[]=>rfl
 |x::l=>by
  have g:(ls.set 25 (some (.d (.int x))))[25]?= ~~~(.d (.int x)):=by rw[dz,if_pos rfl,if_pos h]
  have nn:0<=Int.fmod x 99991:=by rw[Int.fmod_eq_emod_of_nonneg _ ∅];exact Int.emod_nonneg _ ∅
  have e:eval X (.bin .mod 'z' 99991.0) (ls.set 25 (some (.d (.int x)))) σ=some (.d (.int ((Int.fmod x 99991).toNat:Nat)),σ):=by refine dB (ak g) aG ?_;rw[yd nn];rfl
  exact nZ rfl e rfl (tM h l)
theorem yI{α:Type}{l:List α}(h:l.length<=1000):fits l=true:=qI ()
theorem Ji{X:Cx}{l:List Int}(hl:l.length<=63)(hn:ls.length=26)(h0:ls[0]?= ~~~(.d (.lst (l.map .int)))):∃x,exec X stA ls ⟨pm,[]⟩=some (.next,ls.set 1 (some (.aI 1)),⟨pm,[x,.list ((fF (l.take 9)).map λ(x:Nat)=> .int x)]⟩):=by
 have s9:small 9=true:=∅;have es:eval X (.Ei 'a' (.lit .none) 9.0) ls ⟨pm,[]⟩=some (.aI 0,⟨pm,[.list ((l.take 9).map .int)]⟩):=by
  have sl:qK (l.map D.int) .none (.int 9)=some ((l.take 9).map .int):=by unfold qK;dsimp only;rw[s9,if_pos ∅];simp only[List.drop_zero,Nat.sub_zero,List.map_take];congr 1;rw[List.take_eq_take_iff];simp only[eT];show min (min 9 l.length) l.length=min 9 l.length;exact Nat.min_eq_left (Nat.min_le_right _ _)
  have q1:fits (l.map D.int)=true:=yI (by simp;omega);have q2:fits ((l.take 9).map D.int)=true:=yI (by simp;omega);refine H3 (ak h0) aG aG ?_;show ai (PS.slK ⟨pm,[]⟩ (l.map .int)) (qK (l.map .int) .none (.int 9))=_;rw[sl];show dy (PS.sP _ _) _=_;rw[q1];show dy _ (fits _)=_;rw[q2];rfl
 exact⟨.list ((l.take 9).map .int),bB (qS es (fw:= .aI 0 (.list ((l.take 9).map .int))) rfl (tM () _) (yI (by simp[fF];omega)) rfl)⟩
end
def X3:S:= .asg 8 (.lst #[(X4 3),(X4 4),'f',(LA [74] 'f'),(LA [76] 'h'),'h','g'])
def F8:S:= .gr 9 (.bi .range (.bin .fdiv (.bin .add (.bi .len 'b') 2.0) 3.0)) Jg
def Vi:Ss:=#[stA,stB,.asg 2 (.new 0 .nil),.asg 3 (LA [84] (.lit (.int (-1)))),.asg 4 (LA [85] 'd'),.asg 5 (LA [75] (X4 3)),.asg 6 (X5 112),.asg 7 (.call 12 #['c',.lst #['g',(X5 113)]]),X3,F8,.ret (.lit (.bool true))]
theorem bd87:HV=Vi:=by rfl
section
variable{ls:Ls}{pm:List MO}{tm:List TO}{a kb:Nat}{nums:List Nat}
theorem nz.put{k:Nat}(S:nz k a kb nums ls pm tm)(v:Option PV):nz k a kb nums (ls.set 9 v) pm tm:=by have A:d9 [9] ls (ls.set 9 v):=d9.set ∅;exact⟨by rw[A.1];exact S.len,A.get S.l1 ∅,A.get S.l2 ∅,A.get S.l3 ∅,A.get S.l4 ∅,A.get S.l8 ∅,S.ta,S.tk,S.p9,S.ex⟩
theorem w8(hn:0<nums.length)(BF:nums.length<=9):∀(l:List Nat) (k:Nat) (ls:Ls) (pm:List MO) (tm:List TO),nz k a kb nums ls pm tm->k+l.length<=10->(∀x∈l,x<=10)->
  ∃bk aA ik,dO (λl s=>execs (aH 59) Jg l s) (j8 9) (l.map λ(i:Nat)=>D.int i) ls ⟨pm,tm⟩=some (.next,bk,⟨aA,ik⟩)
 |[],_,ls,pm,tm,_,_,_=>⟨ls,pm,tm,rfl⟩
 |x::l,k,ls,pm,tm,S,hk,hx=>by
  rw[eH]at hk;have g9:(ls.set 9 (some (.d (.int x))))[9]?= ~~~(.d (.int x)):=by rw[dz,if_pos rfl,if_pos (by rw[S.len];decide)]
  obtain⟨ls1,fR,p6,e1,S1⟩:=Jh (S.put (some (.d (.int x)))) () (hx x (.head _)) g9 hn BF;obtain⟨El,dt,nT,e2⟩:=w8 hn BF l (k+1) ls1 fR p6 S1 () λz hz=>hx z (.tail _ hz);refine⟨El,dt,nT,?_⟩;rw[j9];exact fJ rfl e1 e2
def rB(r:Ss):Ss:= .cons (.asg 2 (.new 0 .nil)) (.cons (.asg 3 (LA [84] (.lit (.int (-1))))) (.cons (.asg 4 (LA [85] 'd')) (.cons (.asg 5 (LA [75] (X4 3))) (.cons (.asg 6 (X5 112)) (.cons (.asg 7 (.call 12 #['c',.lst #['g',(X5 113)]])) (.cons X3 r))))))
def lsS(d:Option PV)(a kb:Nat):Ls:=d::some (.aI a)::some (.ax 0)::some (.d (.int 16))::some (.d (.int 17))::some (.d (.int 19))::some (.d (.int 20))::some (.d (.int 22))::some (.aI kb)::List.replicate 17 none
def Ov:List MO:=match execs (aH 59) (rB .nil) (none::some (.aI 1)::List.replicate 24 none) ⟨[],[.dead,.dead]⟩with
 |some (_,_,σ)=>σ.pm
 |none=>[]
def liL:Option MO->List D
 |some (.list l)=>l
 |_=>[]
theorem Ow{d:Option PV}{x y:TO}{r:Ss}:execs (aH 59) (rB r) (d::some (.aI 1)::List.replicate 24 none) ⟨[],[x,y]⟩=execs (aH 59) r (lsS d 1 3) ⟨Ov,[x,y,.list [.int 20,.int 21],.list (fT.map .int)]⟩:=by kernel_rfl
theorem Ox{d:Option PV}{x y z:TO}{r:Ss}:execs (aH 59) (rB r) (d::some (.aI 2)::List.replicate 24 none) ⟨[],[x,y,z]⟩=execs (aH 59) r (lsS d 2 4) ⟨Ov,[x,y,z,.list [.int 20,.int 21],.list (fT.map .int)]⟩:=by kernel_rfl
theorem tN:cz du:=by
 have h:du.all (λr=>jL r&&keyOk r&&Nat.beq (cy r) 3)=true:=by decide+kernel
 have ok:∀r∈du,dC r:=by intro r hr;have:=bc.mp h r hr;simp only[bx]at this;exact⟨this.1.1,this.1.2,j_ this.2⟩
 have hp:du.Pairwise λa b=>ba a b=false:=by decide+kernel
 exact⟨ok,hp.imp_of_mem λ{a b} ha hb h e=>by have:=(lh a b (ok a ha).1 (ok b hb).1).mpr e;rw[h]at this;cases this⟩
theorem tabS:ah Ov du wx:=⟨by kernel_rfl,by kernel_rfl,by kernel_rfl,by kernel_rfl,⟨liL Ov[5]?,by kernel_rfl,by decide+kernel⟩,⟨liL Ov[6]?,by kernel_rfl,by decide+kernel⟩,tN⟩
theorem lenS:Ov.length=9:=by kernel_rfl
theorem Vj{d:Option PV}{nums:List Nat}(ta:tm[a]?=some (.list (nums.map λ(x:Nat)=> .int x)))(tk:tm[kb]?=some (.list (fT.map .int))):nz 0 a kb nums (lsS d a kb) Ov tm:=
 ⟨rfl,rfl,rfl,rfl,rfl,rfl,ta,tk,by rw[lenS];decide,du,wx,tabS,⟨tN,lH _,lH _⟩,∅,∅,∅⟩
theorem w9(S:nz 0 a kb nums ls pm tm)(hn:0<nums.length)(BF:nums.length<=9):∃iW,ai (cX (mc [])) (execs (aH 59) #[F8,.ret (.lit (.bool true))] ls ⟨pm,tm⟩)=some (.d (.bool true),iW,[]):=by
 have e1:=uX (X:=aH 59) (ls:=ls) (σ:=⟨pm,tm⟩) (ak S.l1) S.ta (by rw[eT];omega);rw[eT]at e1;have e3':eval (aH 59) 3.0 ls ⟨pm,tm⟩=some (.d (.int (3:Nat)),⟨pm,tm⟩):=aG;have hr:(decide ((0:Int)<=((nums.length+2)/3:Nat))&&decide ((((nums.length+2)/3:Nat):Int)<1000000))=true:=ku.mpr ⟨eM (sG _),eM (pM.mpr (sH (Nat.div_le_self _ _) (sH (AX BF 2) ∅)))⟩;have er:eval (aH 59) (.bi .range (.bin .fdiv (.bin .add (.bi .len 'b') 2.0) 3.0)) ls ⟨pm,tm⟩=some (.d (.nX ((nums.length+2)/3:Nat)),⟨pm,tm⟩):=by
  refine uB (vb ∅ ∅ (dB (o:= .add) (r:=(.d (.int (nums.length+2:Nat)),⟨pm,tm⟩)) e1 sY rfl) e3') ?_
  rewrite [SQ,hr];rfl
 have eo:dY ⟨pm,tm⟩ (.d (.nX ((nums.length+2)/3:Nat)))=some ((List.range ((nums.length+2)/3)).map λ(i:Nat)=>D.int i,⟨pm,tm⟩,.none):=by rewrite [SS,hr];rfl
 obtain⟨ls3,iW,Oa,eD⟩:=w8 hn BF (List.range ((nums.length+2)/3)) 0 ls pm tm S (by simp;lia) (λx hx=>by have:=List.mem_range.mp hx;lia);exact⟨iW,congrArg (ai (cX (mc []))) (sk (uC er eo eD) (bS (fy aG)))⟩
theorem Oy:∀l:List Int,l.length<=63->∃pm ts,rn 60 87 [.d (.lst (l.map .int))] [] []=some (.d (.bool true),pm,ts):=by
 intro l hl;obtain⟨x,eA⟩:=Ji (X:=aH 59) (ls:=some (.d (.lst (l.map .int)))::List.replicate 25 none) (pm:=[]) hl rfl rfl;have ln:(fF (l.take 9)).length<=9:=by simp[fF];omega
 have el:=uX (X:=aH 59) (ls:=some (.d (.lst (l.map .int)))::some (.aI 1)::List.replicate 24 none) (σ:=⟨[],[x,.list ((fF (l.take 9)).map λ(x:Nat)=> .int x)]⟩) (m:=1) (l:=(fF (l.take 9)).map λ(x:Nat)=> .int x) (ak (i:=1) rfl) rfl (by rw[eT];omega);rw[eT]at el;have tb:=TB.cmp (EB.j6 el yC);have go:∀{ls:Ls} {tm:List TO},(∃pm,ai (cX (mc [])) (execs (aH 59) (rB #[F8,.ret (.lit (.bool true))]) ls ⟨[],tm⟩)=some (.d (.bool true),pm,[]))->exec (aH 59) stB (some (.d (.lst (l.map .int)))::some (.aI 1)::List.replicate 24 none) ⟨[],[x,.list ((fF (l.take 9)).map λ(x:Nat)=> .int x)]⟩=some (.next,ls,⟨[],tm⟩)->
   ∃pm ts,rn 60 87 [.d (.lst (l.map .int))] [] []=some (.d (.bool true),pm,ts):=λ⟨pm,e⟩ eB=>by
  refine⟨pm,[],(cG (some (.d (.lst (l.map .int)))::List.replicate 25 none) (show pQ 87=some ⟨1,26,HV⟩from rfl) rfl rfl).trans ?_⟩;dsimp only;rw[bd87];exact(congrArg (ai (cX (mc []))) (sk eA (sk eB rfl))).trans e
 cases q:((fF (l.take 9)).length==0)with
 |true=>
  rw[q]at tb;refine go ?_ (bI tb (wJ (r:=(some (.d (.lst (l.map .int)))::some (.aI 2)::List.replicate 24 none,_)) (bB (N9 aG))));show∃pm,ai (cX (mc [])) (execs (aH 59) (rB _) (_::some (.aI 2)::List.replicate 24 none) ⟨[],[_,_,.list ([4].map λ(x:Nat)=> .int x)]⟩)=_;rw[Ox];exact w9 (Vj rfl rfl) ∅ ∅
 |false=>
  rw[q]at tb;have:(fF (l.take 9)).length≠0:=by simpa using q
  refine go ?_ (aS tb aP);rw[Ow];exact w9 (Vj rfl rfl) () ln
end
theorem Vk:∀l:List Int,l.length<=63->∃pm ts,run pr 60 87 [.d (.lst (l.map .int))] [] []=some (.d (.bool true),pm,ts):=by have h:=Oy;unfold rn at h;exact h
end
end
section
open PySem PySem.W PyProof.Rows PySem.Calls
section
set_option maxRecDepth 512
variable{prog:Program}{w:World}{A:Around}{s:Shared}
section
set_option genCtorIdx true in
inductive Tag where
 |p (n:Nat)|d (n:Nat)|t (n:Nat)
 deriving DecidableEq
inductive Role where
 |free
 |bA (o:Obj)
 |aX (o:Obj)
 |own (g:Tag)
abbrev bU:=Addr->Role
abbrev lN (vs:Array Value):Obj:={cls:= .type "tuple",data:= .seq vs}
abbrev gT (vs:Array Value) (n:Nat):Obj:={cls:= .type "list",data:= .seq vs n}
abbrev eV (es:Array DictEntry) (n:Nat):Obj:={cls:= .type "dict",data:= .dict es n}
abbrev F9 (n:Int) (t u v:Tok):Obj:={cls:= .type "range",data:= .fields #[.int 0 t,.int n u,.int 1 v]}
abbrev BL (C:Addr) (d:Addr):Obj:={cls:= .ref C,dict:=some d,data:= .plain}
abbrev nB (l:List Nat):Str:=⟨l.toArray⟩
mutual
noncomputable def wD:D->WData
 | .none=> .none
 | .bool b=> .bool b
 | .int i=> .int i
 | .str l=> .str (nB l)
 | .tup l=> .tuple (X6 l)
 | .lst l=> .list (X6 l)
 |_=> .none
noncomputable def X6:List D->List WData
 |[]=>[]
 |d::r=>wD d::X6 r
end
def i7(P:Params)(d:D):Int:=hashW P (wD d)
mutual
@[reducible] def VR (P:Params) (cl:Nat->Addr) (ρ:bU):D->Value->Prop
 | .none,v=>v= .none
 | .bool b,v=>v= .bool b
 | .int i,v=>∃t,v= .int i t
 | .str l,v=>∃t,v= .str (nB l) t/\Ej l=true
 | .tup l,v=>∃a vs,v= .ref a/\ρ a= .bA (lN vs)/\dA P cl ρ l vs.toList
 | .lst l,v=>∃a vs n,v= .ref a/\ρ a= .bA (gT vs n)/\dA P cl ρ l vs.toList
 | .gP l,v=>∃a es n,v= .ref a/\ρ a= .bA (eV es n)/\gc P cl ρ l es.toList/\a≠sysModules/\kf l
 | .nX n,v=>∃a t u w,v= .ref a/\ρ a= .bA (F9 n t u w)
 | .cin C,v=>∃a d n,v= .ref a/\ρ a= .bA (BL (cl C) d)/\ρ d= .bA (eV #[] n)
@[reducible] def dA (P:Params) (cl:Nat->Addr) (ρ:bU):List D->List Value->Prop
 |[],[]=>True
 |d::r,v::t=>VR P cl ρ d v/\dA P cl ρ r t
 |_,_=>False
@[reducible] def gc (P:Params) (cl:Nat->Addr) (ρ:bU):List (D×D)->List DictEntry->Prop
 |[],[]=>True
 |(k,x)::r,e::t=>(e.hash=i7 P k/\VR P cl ρ k e.key/\VR P cl ρ x e.val)/\gc P cl ρ r t
 |_,_=>False
end
section
variable{P:Params}{cl:Nat->Addr}{ρ aJ:bU}
def bf(ρ aJ:bU):Prop:=∀a o,ρ a= .bA o->aJ a= .bA o
theorem bf.refl:bf ρ ρ:=λ_ _ e=>e
theorem bf.trans{ao aY cV:bU}(x:bf ao aY)(y:bf aY cV):bf ao cV:=λa o e=>y a o (x a o e)
mutual
theorem VR.mono(k:bf ρ aJ):∀{x:D} {v:Value},VR P cl ρ x v->VR P cl aJ x v
 | .none,_,h=>h
 | .bool _,_,h=>h
 | .int _,_,h=>h
 | .str _,_,h=>h
 | .tup l,_,h=>by obtain⟨a,vs,e,i,r⟩:=h;exact⟨a,vs,e,k _ _ i,dA.mono k r⟩
 | .lst l,_,h=>by obtain⟨a,vs,n,e,i,r⟩:=h;exact⟨a,vs,n,e,k _ _ i,dA.mono k r⟩
 | .gP l,_,h=>by obtain⟨a,vs,n,e,i,r,z⟩:=h;exact⟨a,vs,n,e,k _ _ i,gc.mono k r,z⟩
 | .nX n,_,h=>by obtain⟨a,t,u,w,e,i⟩:=h;exact⟨a,t,u,w,e,k _ _ i⟩
 | .cin C,_,h=>by obtain⟨a,d,n,e,i,j⟩:=h;exact⟨a,d,n,e,k _ _ i,k _ _ j⟩
theorem dA.mono(k:bf ρ aJ):∀{l:List D} {vs:List Value},dA P cl ρ l vs->dA P cl aJ l vs
 |[],[],_=>trivial
 |x::r,v::t,h=>by exact⟨VR.mono k h.1,dA.mono k h.2⟩
 |[],_::_,h=>by exact h.elim
 |_::_,[],h=>by exact h.elim
theorem gc.mono(k:bf ρ aJ):∀{l:List (D×D)} {es:List DictEntry},gc P cl ρ l es->gc P cl aJ l es
 |[],[],_=>trivial
 |(x,y)::r,e::t,h=>by exact⟨⟨h.1.1,VR.mono k h.1.2.1,VR.mono k h.1.2.2⟩,gc.mono k h.2⟩
 |[],_::_,h=>by exact h.elim
 |(_,_)::_,[],h=>by exact h.elim
end
theorem dA.length:∀{l:List D} {vs:List Value},dA P cl ρ l vs->l.length=vs.length
 |[],[],_=>rfl
 |x::r,v::t,h=>by simp[dA.length h.2]
 |[],_::_,h=>by exact h.elim
 |_::_,[],h=>by exact h.elim
theorem dA.get:∀{l:List D} {vs:List Value} {i:Nat} {d:D},dA P cl ρ l vs->l[i]?=some d->∃v,vs[i]?=some v/\VR P cl ρ d v
 |[],_,_,_,_,e=>by simp at e
 |x::r,[],_,_,h,_=>by exact h.elim
 |x::r,v::t,0,d,h,e=>by simp only[eH,Nat.zero_lt_succ,getElem?_pos,List.getElem_cons_zero,nU]at e;subst e;exact⟨v,rfl,h.1⟩
 |x::r,v::t,i+1,d,h,e=>by simp only[qF]at e⊢;exact dA.get h.2 e
theorem dA.append:∀{l m:List D} {vs us:List Value},dA P cl ρ l vs->dA P cl ρ m us->dA P cl ρ (l++m) (vs++us)
 |[],m,[],us,_,h=>h
 |x::r,m,v::t,us,h,g=>by show dA P cl ρ (x::(r++m)) (v::(t++us));exact⟨h.1,dA.append h.2 g⟩
 |[],_,_::_,_,h,_=>by exact h.elim
 |_::_,_,[],_,h,_=>by exact h.elim
theorem dA.drop:∀{l:List D} {vs:List Value} (n:Nat),dA P cl ρ l vs->dA P cl ρ (l.drop n) (vs.drop n)
 |_,_,0,h=>h
 |[],[],n+1,_=>trivial
 |x::r,v::t,n+1,h=>by exact dA.drop n h.2
 |[],_::_,_+1,h=>by exact h.elim
 |_::_,[],_+1,h=>by exact h.elim
theorem dA.take:∀{l:List D} {vs:List Value} (n:Nat),dA P cl ρ l vs->dA P cl ρ (l.take n) (vs.take n)
 |_,_,0,_=>by simp[dA]
 |[],[],n+1,_=>trivial
 |x::r,v::t,n+1,h=>by show dA P cl ρ (x::r.take n) (v::t.take n);exact⟨h.1,dA.take n h.2⟩
 |[],_::_,_+1,h=>by exact h.elim
 |_::_,[],_+1,h=>by exact h.elim
theorem gc.length:∀{l:List (D×D)} {es:List DictEntry},gc P cl ρ l es->l.length=es.length
 |[],[],_=>rfl
 |(x,y)::r,v::t,h=>by simp[gc.length h.2]
 |[],_::_,h=>by exact h.elim
 |(_,_)::_,[],h=>by exact h.elim
theorem gc.get:∀{l:List (D×D)} {es:List DictEntry} {i:Nat} {k x:D},gc P cl ρ l es->l[i]?=some (k,x)->∃e,es[i]?=some e/\e.hash=i7 P k/\VR P cl ρ k e.key/\VR P cl ρ x e.val
 |[],_,_,_,_,_,e=>by simp at e
 |(_,_)::r,[],_,_,_,h,_=>by exact h.elim
 |(a,b)::r,v::t,0,k,x,h,e=>by simp only[eH,Nat.zero_lt_succ,getElem?_pos,List.getElem_cons_zero,nU,Prod.mk.injEq]at e;obtain⟨rfl,rfl⟩:=e;exact⟨v,rfl,h.1.1,h.1.2.1,h.1.2.2⟩
 |(a,b)::r,v::t,i+1,k,x,h,e=>by simp only[qF]at e⊢;exact gc.get h.2 e
theorem gc.append:∀{l m:List (D×D)} {vs us:List DictEntry},gc P cl ρ l vs->gc P cl ρ m us->gc P cl ρ (l++m) (vs++us)
 |[],m,[],us,_,h=>h
 |(x,y)::r,m,v::t,us,h,g=>by show gc P cl ρ ((x,y)::(r++m)) (v::(t++us));exact⟨h.1,gc.append h.2 g⟩
 |[],_,_::_,_,h,_=>by exact h.elim
 |(_,_)::_,_,[],_,h,_=>by exact h.elim
end
end
structure bj where
 P:Params
 cl:Nat->Addr
 an:Nat->Str
 nA:Nat
 K:Frag
structure dF (T:bj) (w:World):Prop where
 P:T.P=w.params
 inj:∀a b,a<T.nA->b<T.nA->T.an a=T.an b->a=b
 get:∀C,plainGet T.K (T.cl C) Str.empty=true
 set:∀C,findIn T.K (.ref (T.cl C)) "__setattr__"=some (some (.builtin "object.__setattr__"))
 over:∀C,plainOver T.K (T.cl C)=true
 dict:∀C,hasDictIn T.K (T.cl C)=true
 attr:∀C a,a<T.nA->findIn T.K (.ref (T.cl C)) (T.an a)=some none
structure Lo where
 p:Nat->Addr
 d:Nat->Addr
 t:Nat->Addr
 np:Nat
 nt:Nat
structure Lo.le (L L':Lo):Prop where
 np:L.np<=L'.np
 nt:L.nt<=L'.nt
 p:∀n,n<L.np->L'.p n=L.p n
 d:∀n,n<L.np->L'.d n=L.d n
 t:∀n,n<L.nt->L'.t n=L.t n
theorem Lo.le.refl{L:Lo}:L.le L:=⟨dJ _,dJ _,λ_ _=>rfl,λ_ _=>rfl,λ_ _=>rfl⟩
theorem Lo.le.trans{aQ eN lQ:Lo}(x:aQ.le eN)(y:eN.le lQ):aQ.le lQ:=
 ⟨bw x.np y.np,bw x.nt y.nt,λn h=>(y.p n (qH h x.np)).trans (x.p n h),λn h=>(y.d n (qH h x.np)).trans (x.d n h),λn h=>(y.t n (qH h x.nt)).trans (x.t n h)⟩
def Oz:PV->Bool
 | .aI _=>false
 |_=>true
section
variable(T:bj)(ρ:bU)(L:Lo)
def cv:PV->Value->Prop
 | .d x,v=>VR T.P T.cl ρ x v
 | .ax n,v=>n<L.np/\v= .ref (L.p n)
 | .aI n,v=>n<L.nt/\v= .ref (L.t n)
@[reducible] def mr:List (Nat×PV)->List DictEntry->Prop
 |[],[]=>True
 |(a,x)::r,e::t=>(a<T.nA/\(∃tk,e.key= .str (T.an a) tk)/\cv T ρ L x e.val/\Oz x=true)/\mr r t
 |_,_=>False
def oV(h:Heap)(n:Nat):MO->Prop
 | .list l=>ρ (L.p n)= .own (.p n)/\∃vs k,h.get? (L.p n)=some (gT vs k)/\dA T.P T.cl ρ l vs.toList
 | .dict l=>ρ (L.p n)= .own (.p n)/\(L.p n≠sysModules/\kf l)/\∃es k,h.get? (L.p n)=some (eV es k)/\gc T.P T.cl ρ l es.toList
 | .inst C fs=>ρ (L.p n)= .own (.p n)/\ρ (L.d n)= .own (.d n)/\h.get? (L.p n)=some (BL (T.cl C) (L.d n))/\∃es k,h.get? (L.d n)=some (eV es k)/\mr T ρ L fs es.toList
 | .dead=>True
def oW(h:Heap)(n:Nat):TO->Prop
 | .list l=>ρ (L.t n)= .own (.t n)/\∃vs k,h.get? (L.t n)=some (gT vs k)/\dA T.P T.cl ρ l vs.toList
 | .dict l=>ρ (L.t n)= .own (.t n)/\(L.t n≠sysModules/\kf l)/\∃es k,h.get? (L.t n)=some (eV es k)/\gc T.P T.cl ρ l es.toList
 | .dead=>True
def oY(h:Heap)(a:Addr):Role->Prop
 | .free=>True
 | .bA o=>h.get? a=some o
 | .aX o=>h.get? a=some o
 | .own _=>∃o,h.get? a=some o
structure Rep (σ:PS) (h:Heap):Prop where
 np:L.np=σ.pm.length
 nt:L.nt=σ.tm.length
 role:∀a,oY h a (ρ a)
 ax:∀n m,σ.pm[n]?=some m->oV T ρ L h n m
 aI:∀n t,σ.tm[n]?=some t->oW T ρ L h n t
end
structure gf (ρ aJ:bU):Prop where
 bA:bf ρ aJ
 aX:∀a o,ρ a= .aX o->aJ a= .aX o
theorem gf.refl{ρ:bU}:gf ρ ρ:=⟨bf.refl,λ_ _ e=>e⟩
theorem gf.trans{ao aY cV:bU}(x:gf ao aY)(y:gf aY cV):gf ao cV:=⟨x.bA.trans y.bA,λa o e=>y.aX a o (x.aX a o e)⟩
def up(ρ:bU)(a:Addr)(r:Role):bU:=λb=>if b=a then r else ρ b
theorem aO{ρ:bU}{a:Addr}{r:Role}:up ρ a r a=r:=by simp[up]
theorem aZ{ρ:bU}{a b:Addr}{r:Role}(h:b≠a):up ρ a r b=ρ b:=by simp[up,h]
section
variable{T:bj}{ρ aJ:bU}{L L':Lo}{σ:PS}{h h':Heap}
theorem cv.mono(k:bf ρ aJ)(l:L.le L'):∀{x:PV} {v:Value},cv T ρ L x v->cv T aJ L' x v
 | .d _,_,h=>VR.mono k h
 | .ax n,_,h=>⟨qH h.1 l.np,by rw[l.p n h.1];exact h.2⟩
 | .aI n,_,h=>⟨qH h.1 l.nt,by rw[l.t n h.1];exact h.2⟩
theorem mr.mono(k:bf ρ aJ)(l:L.le L'):∀{fs:List (Nat×PV)} {es:List DictEntry},mr T ρ L fs es->mr T aJ L' fs es
 |[],[],_=>trivial
 |(a,x)::r,e::t,h=>⟨⟨h.1.1,h.1.2.1,cv.mono k l h.1.2.2.1,h.1.2.2.2⟩,mr.mono k l h.2⟩
 |[],_::_,h=>by exact h.elim
 |(_,_)::_,[],h=>by exact h.elim
theorem Rep.has(R:Rep T ρ L σ h){a:Addr}(n:ρ a≠.free):∃o,h.get? a=some o:=by
 have:=R.role a;revert this;cases e:ρ a with
 |free=>exact absurd e n
 |bA o=>exactλq=>⟨o,q⟩
 |aX o=>exactλq=>⟨o,q⟩
 |own g=>exactλq=>q
theorem Rep.bA(R:Rep T ρ L σ h){a:Addr}{o:Obj}(e:ρ a= .bA o):h.get? a=some o:=by have:=R.role a;rw[e]at this;exact this
theorem Rep.aX(R:Rep T ρ L σ h){a:Addr}{o:Obj}(e:ρ a= .aX o):h.get? a=some o:=by have:=R.role a;rw[e]at this;exact this
theorem Rep.fresh(R:Rep T ρ L σ h){a:Addr}(e:h.get? a=none):ρ a= .free:=by
 cases q:ρ a with
 |free=>rfl
 |_=>obtain⟨o,ho⟩:=R.has (a:=a) (by rw[q];intro z;cases z);rw[e]at ho;cases ho
theorem oZ(h:Heap):h.get? h.objs.size=none:=by
 cases e:h.get? h.objs.size with
 |none=>rfl
 |some o=>exact absurd (Heap.lt_size e) (Nat.lt_irrefl _)
theorem Rep.new(R:Rep T ρ L σ h):ρ h.objs.size= .free:=R.fresh (oZ h)
theorem oV.keep{n:Nat}(k:bf ρ aJ)(l:L.le L')(hn:n<L.np)(w:∀a g,(g= .p n\/g= .d n)->ρ a= .own g->aJ a= .own g/\∀o,h.get? a=some o->h'.get? a=some o){m:MO}(x:oV T ρ L h n m):oV T aJ L' h' n m:=by
 cases m with
 |list _=>
  obtain⟨a,vs,i,b,c⟩:=x;obtain⟨w1,w2⟩:=w _ _ (.inl rfl) a;exact⟨by rw[l.p n hn];exact w1,vs,i,by rw[l.p n hn];exact w2 _ b,dA.mono k c⟩
 |dict _=>
  obtain⟨a,z,vs,i,b,c⟩:=x;obtain⟨w1,w2⟩:=w _ _ (.inl rfl) a;exact⟨by rw[l.p n hn];exact w1,by rw[l.p n hn];exact z,vs,i,by rw[l.p n hn];exact w2 _ b,gc.mono k c⟩
 |inst C fs=>
  obtain⟨a,a',b,es,i,b',c⟩:=x;obtain⟨w1,w2⟩:=w _ _ (.inl rfl) a;obtain⟨w3,w4⟩:=w _ _ (.inr rfl) a';exact⟨by rw[l.p n hn];exact w1,by rw[l.d n hn];exact w3,by rw[l.p n hn,l.d n hn];exact w2 _ b,es,i,by rw[l.d n hn];exact w4 _ b',mr.mono k l c⟩
 |dead=>exact trivial
theorem oW.keep{n:Nat}(k:bf ρ aJ)(l:L.le L')(hn:n<L.nt)(w:∀a,ρ a= .own (.t n)->aJ a= .own (.t n)/\∀o,h.get? a=some o->h'.get? a=some o){m:TO}(x:oW T ρ L h n m):oW T aJ L' h' n m:=by
 cases m with
 |list _=>
  obtain⟨a,vs,i,b,c⟩:=x;obtain⟨w1,w2⟩:=w _ a;exact⟨by rw[l.t n hn];exact w1,vs,i,by rw[l.t n hn];exact w2 _ b,dA.mono k c⟩
 |dict _=>
  obtain⟨a,z,vs,i,b,c⟩:=x;obtain⟨w1,w2⟩:=w _ a;exact⟨by rw[l.t n hn];exact w1,by rw[l.t n hn];exact z,vs,i,by rw[l.t n hn];exact w2 _ b,gc.mono k c⟩
 |dead=>exact trivial
theorem bq{α:Type}{l:List α}{n:Nat}{m:α}(e:l[n]?=some m):n<l.length:=(fX.mp e).1
theorem Rep.heap(R:Rep T ρ L σ h)(k:∀a o,ρ a≠.free->h.get? a=some o->h'.get? a=some o):Rep T ρ L σ h' where
 np:=R.np
 nt:=R.nt
 role:=λa=>by
  have:=R.role a;cases e:ρ a with
  |free=>trivial
  |bA o=>rw[e]at this;exact k a o (by rw[e];intro z;cases z) this
  |aX o=>rw[e]at this;exact k a o (by rw[e];intro z;cases z) this
  |own g=>rw[e]at this;obtain⟨o,ho⟩:=this;exact⟨o,k a o (by rw[e];intro z;cases z) ho⟩
 ax:=λn m e=>(R.ax n m e).keep bf.refl Lo.le.refl (by rw[R.np];exact bq e) λa g _ q=>⟨q,λo ho=>k a o (by rw[q];intro z;cases z) ho⟩
 aI:=λn m e=>(R.aI n m e).keep bf.refl Lo.le.refl (by rw[R.nt];exact bq e) λa q=>⟨q,λo ho=>k a o (by rw[q];intro z;cases z) ho⟩
theorem Rep.push(R:Rep T ρ L σ h)(o:Obj):Rep T ρ L σ (h.push o):=R.heap λ_ _ _ e=>Heap.get?_push_of_some o e
theorem Rep.extBut(R:Rep T ρ L σ h){b:Addr}(f:ρ b= .free)(s:Heap.ExtBut b h h'):Rep T ρ L σ h':=
 R.heap λa o n e=>s a o (λq=>n (q▸f)) e
theorem dw{b:Addr}{r:Role}(f:∀o,ρ b≠.bA o):bf ρ (up ρ b r):=λa o e=>by have:a≠b:=λq=>f o (q▸e);rw[aZ this];exact e
theorem Rep.takes(R:Rep T ρ L σ h){b:Addr}{r:Role}(f:ρ b= .free\/∃o,ρ b= .aX o)(k:∀a o,a≠b->ρ a≠.free->h.get? a=some o->h'.get? a=some o)(hr:oY h' b r):Rep T (up ρ b r) L σ h':=by
 have ni:∀o,ρ b≠.bA o:=by rcases f with f|⟨o',f⟩<;>(intro o;rw[f];intro z;cases z)
 have no:∀g,ρ b≠.own g:=by rcases f with f|⟨o',f⟩<;>(intro o;rw[f];intro z;cases z)
 have im:=dw (r:=r) ni;refine⟨R.np,R.nt,λa=>?_,λn m e=>(R.ax n m e).keep im Lo.le.refl (by rw[R.np];exact bq e) ?_,λn m e=>(R.aI n m e).keep im Lo.le.refl (by rw[R.nt];exact bq e) ?_⟩
 ·by_cases q:a=b
  ·subst q;rw[aO];exact hr
  ·rw[aZ q];have:=R.role a;cases e:ρ a with
   |free=>trivial
   |bA o=>rw[e]at this;exact k a o q (by rw[e];intro z;cases z) this
   |aX o=>rw[e]at this;exact k a o q (by rw[e];intro z;cases z) this
   |own g=>rw[e]at this;obtain⟨o,ho⟩:=this;exact⟨o,k a o q (by rw[e];intro z;cases z) ho⟩
 ·intro a g _ q;have gU:a≠b:=λz=>no g (z▸q);exact⟨by rw[aZ gU];exact q,λo ho=>k a o gU (by rw[q];intro z;cases z) ho⟩
 ·intro a q;have gU:a≠b:=λz=>no _ (z▸q);exact⟨by rw[aZ gU];exact q,λo ho=>k a o gU (by rw[q];intro z;cases z) ho⟩
theorem dQ{b:Addr}{r:Role}(f:ρ b= .free):gf ρ (up ρ b r):=
 ⟨dw λo=>(by rw[f];intro z;cases z),λa o e=>(by
  have:a≠b:=λq=>by rw[q,f]at e;cases e
  rw[aZ this];exact e)⟩
theorem Rep.yJ(R:Rep T ρ L σ h)(o:Obj)(ho:o.isFreed=false:=by rfl):Rep T (up ρ h.objs.size (.bA o)) L σ (h.push o)/\gf ρ (up ρ h.objs.size (.bA o)):=
 ⟨R.takes (.inl R.new) (λa _ _ _ e=>Heap.get?_push_of_some o e) (Heap.get?_push_size h ho),dQ R.new⟩
theorem Rep.yL(R:Rep T ρ L σ h)(o:Obj)(ho:o.isFreed=false:=by rfl):Rep T (up ρ h.objs.size (.aX o)) L σ (h.push o)/\gf ρ (up ρ h.objs.size (.aX o)):=
 ⟨R.takes (.inl R.new) (λa _ _ _ e=>Heap.get?_push_of_some o e) (Heap.get?_push_size h ho),dQ R.new⟩
theorem Rep.F_(R:Rep T ρ L σ h){b:Addr}{o:Obj}{t:TO}(f:ρ b= .free)(k:∀a o,a≠b->ρ a≠.free->h.get? a=some o->h'.get? a=some o)(hb:h'.get? b=some o)
  (c:∀L',L'.t σ.tm.length=b->oW T (up ρ b (.own (.t σ.tm.length))) L' h' σ.tm.length t):
  ∃L',L.le L'/\L'.t σ.tm.length=b/\L'.nt=σ.tm.length+1/\Rep T (up ρ b (.own (.t σ.tm.length))) L' ⟨σ.pm,σ.tm++[t]⟩ h'/\gf ρ (up ρ b (.own (.t σ.tm.length))):=by
 have le:=dQ (r:= .own (.t σ.tm.length)) f;let L':Lo:=⟨L.p,L.d,λn=>if n=σ.tm.length then b else L.t n,L.np,L.nt+1⟩;have ll:L.le L':=⟨dJ _,Nat.le_succ _,λ_ _=>rfl,λ_ _=>rfl,λn hn=>by show(if n=σ.tm.length then b else L.t n)=_;rw[if_neg (by rw[R.nt]at hn;omega)]⟩
 have Lb:L'.t σ.tm.length=b:=by show(if _ then b else _)=b;rw[if_pos rfl]
 refine⟨L',ll,Lb,by show L.nt+1=_;rw[R.nt],⟨R.np,by show L.nt+1=(σ.tm++[t]).length;rw[R.nt,eh];rfl,λa=>?_,λn m e=>(R.ax n m e).keep le.bA ll (by rw[R.np];exact bq e) ?_,λn m e=>?_⟩,le⟩
 ·by_cases q:a=b
  ·subst q;rw[aO];exact⟨o,hb⟩
  ·rw[aZ q];have:=R.role a;cases e:ρ a with
   |free=>trivial
   |bA o=>rw[e]at this;exact k a o q (by rw[e];intro z;cases z) this
   |aX o=>rw[e]at this;exact k a o q (by rw[e];intro z;cases z) this
   |own g=>rw[e]at this;obtain⟨o,ho⟩:=this;exact⟨o,k a o q (by rw[e];intro z;cases z) ho⟩
 ·intro a g _ q;have gU:a≠b:=λz=>by rw[z,f]at q;cases q
  exact⟨by rw[aZ gU];exact q,λo ho=>k a o gU (by rw[q];intro z;cases z) ho⟩
 ·by_cases hn:n<σ.tm.length
  ·have e:σ.tm[n]?=some m:=by rw[<-e];exact(mI hn).symm
   refine(R.aI n m e).keep le.bA ll (by rw[R.nt];exact hn) λa q=>?_;have gU:a≠b:=λz=>by rw[z,f]at q;cases q
   exact⟨by rw[aZ gU];exact q,λo ho=>k a o gU (by rw[q];intro z;cases z) ho⟩
  ·have hl:=bq e
   replace hl:=eh▸hl
   have:n=σ.tm.length:=by simp only[eH,List.length_nil]at hl;omega
   subst this;have:m=t:=by simpa using e.symm
   rw[this];exact c L' Lb
theorem Rep.Ga(R:Rep T ρ L σ h){n:Nat}{t₀ t:TO}(e:σ.tm[n]?=some t₀)(ow:ρ (L.t n)= .own (.t n))(s:Heap.ExtBut (L.t n) h h')(hs:∃o,h'.get? (L.t n)=some o)(c:oW T ρ L h' n t):
  Rep T ρ L ⟨σ.pm,σ.tm.set n t⟩ h':=by
 have hn:=bq e;refine⟨R.np,by rw[R.nt,gq],λa=>?_,λk m e=>(R.ax k m e).keep bf.refl Lo.le.refl (by rw[R.np];exact bq e) ?_,λk m e=>?_⟩
 ·by_cases q:a=L.t n
  ·subst q;rw[ow];exact hs
  ·have:=R.role a;cases e:ρ a with
   |free=>trivial
   |bA o=>rw[e]at this;exact s a o q this
   |aX o=>rw[e]at this;exact s a o q this
   |own g=>rw[e]at this;obtain⟨o,ho⟩:=this;exact⟨o,s a o q ho⟩
 ·intro a g hg q;have gU:a≠L.t n:=λz=>by rw[z,ow]at q;cases q;rcases hg with hg|hg<;>cases hg
  exact⟨q,λo ho=>s a o gU ho⟩
 ·by_cases hk:k=n
  ·subst hk;rw[pJ hn]at e;cases e;exact c
  ·replace e:=(bp (Ne.symm hk))▸e
   refine(R.aI k m e).keep bf.refl Lo.le.refl (by rw[R.nt];exact bq e) λa q=>?_;have gU:a≠L.t n:=λz=>by rw[z,ow]at q;cases q;exact hk rfl
   exact⟨q,λo ho=>s a o gU ho⟩
theorem Rep.yM(R:Rep T ρ L σ h){n:Nat}{t₀ t:MO}{b:Addr}{g:Tag}(e:σ.pm[n]?=some t₀)(hg:g= .p n\/g= .d n)(ow:ρ b= .own g)(s:Heap.ExtBut b h h')(hs:∃o,h'.get? b=some o)(c:oV T ρ L h' n t):
  Rep T ρ L ⟨σ.pm.set n t,σ.tm⟩ h':=by
 have hn:=bq e;refine⟨by rw[R.np,gq],R.nt,λa=>?_,λk m e=>?_,λk m e=>(R.aI k m e).keep bf.refl Lo.le.refl (by rw[R.nt];exact bq e) ?_⟩
 ·by_cases q:a=b
  ·subst q;rw[ow];exact hs
  ·have:=R.role a;cases e:ρ a with
   |free=>trivial
   |bA o=>rw[e]at this;exact s a o q this
   |aX o=>rw[e]at this;exact s a o q this
   |own g=>rw[e]at this;obtain⟨o,ho⟩:=this;exact⟨o,s a o q ho⟩
 ·by_cases hk:k=n
  ·subst hk;rw[pJ hn]at e;cases e;exact c
  ·rw[bp (Ne.symm hk)]at e;refine(R.ax k m e).keep bf.refl Lo.le.refl (by rw[R.np];exact bq e) λa g' Vl q=>?_;have gU:a≠b:=λz=>by rw[z,ow]at q;cases q;rcases hg with hg|hg<;>rcases Vl with Vl|Vl<;>(subst hg;first|change Vl|(cases Vl;exact hk rfl))
   exact⟨q,λo ho=>s a o gU ho⟩
 ·intro a q;have gU:a≠b:=λz=>by rw[z,ow]at q;cases q;rcases hg with hg|hg<;>cases hg
  exact⟨q,λo ho=>s a o gU ho⟩
theorem Rep.tO(R:Rep T ρ L σ h){n:Nat}{t₀:TO}{o:Obj}(e:σ.tm[n]?=some t₀)(ow:ρ (L.t n)= .own (.t n))(ho:h.get? (L.t n)=some o):
  Rep T (up ρ (L.t n) (.bA o)) L ⟨σ.pm,σ.tm.set n .dead⟩ h/\gf ρ (up ρ (L.t n) (.bA o)):=by
 have hn:=bq e;have im:bf ρ (up ρ (L.t n) (.bA o)):=dw λo'=>by rw[ow];intro z;cases z
 refine⟨⟨R.np,by rw[R.nt,gq],λa=>?_,λk m e=>(R.ax k m e).keep im Lo.le.refl (by rw[R.np];exact bq e) ?_,λk m e=>?_⟩,im,λa o' e=>?_⟩
 ·by_cases q:a=L.t n
  ·subst q;rw[aO];exact ho
  ·rw[aZ q];exact R.role a
 ·intro a g hg q;have gU:a≠L.t n:=λz=>by rw[z,ow]at q;cases q;rcases hg with hg|hg<;>cases hg
  exact⟨by rw[aZ gU];exact q,λo ho=>ho⟩
 ·by_cases hk:k=n
  ·subst hk;rw[pJ hn]at e;cases e;trivial
  ·replace e:=(bp (Ne.symm hk))▸e
   refine(R.aI k m e).keep im Lo.le.refl (by rw[R.nt];exact bq e) λa q=>?_;have gU:a≠L.t n:=λz=>by rw[z,ow]at q;cases q;exact hk rfl
   exact⟨by rw[aZ gU];exact q,λo ho=>ho⟩
 ·have gU:a≠L.t n:=λz=>by rw[z,ow]at e;cases e
  rw[aZ gU];exact e
end
section
open Builtin.ObjectAttr
def cS(s s':Shared):Prop:=∃h t,s'={s with heap:=h,toks:=t}
theorem cS.refl(s:Shared):cS s s:=⟨s.heap,s.toks,rfl⟩
theorem cS.trans{aC bG fG:Shared}(x:cS aC bG)(y:cS bG fG):cS aC fG:=by obtain⟨h,t,rfl⟩:=x;obtain⟨h',t',rfl⟩:=y;exact⟨h',t',rfl⟩
theorem cS.mk(s:Shared)(h:Heap)(t:Nat):cS s {s with heap:=h,toks:=t}:=⟨h,t,rfl⟩
inductive After (T:bj) (ρ:bU) (L:Lo) (s:Shared) (aN:PS) (s':Shared) (Z:bU->Lo->Prop):Prop
 |mk (aJ:bU) (L':Lo) (a:gf ρ aJ) (b:L.le L') (c:Rep T aJ L' aN s'.heap) (d:cS s s') (z:Z aJ L'):After T ρ L s aN s' Z
abbrev jV (T:bj) (ρ:bU) (L:Lo) (s:Shared) (v:PV) (aN:PS) (u:Value) (s':Shared):Prop:=
 After T ρ L s aN s' λaJ L'=>cv T aJ L' v u
section
variable{T:bj}{ρ:bU}{L:Lo}{σ aN:PS}{s s':Shared}{Z:bU->Lo->Prop}
theorem After.now{aJ:bU}{L':Lo}(a:gf ρ aJ)(b:L.le L')(c:Rep T aJ L' aN s'.heap)(d:cS s s')(z:Z aJ L'):After T ρ L s aN s' Z:=⟨aJ,L',a,b,c,d,z⟩
theorem After.eU(R:Rep T ρ L σ s'.heap)(d:cS s s')(z:Z ρ L):After T ρ L s σ s' Z:=⟨ρ,L,.refl,.refl,R,d,z⟩
theorem After.from{aC:Shared}{ao:bU}{aQ:Lo}(a:gf ρ ao)(b:L.le aQ)(d:cS s aC)(x:After T ao aQ aC aN s' Z):After T ρ L s aN s' Z:=by obtain⟨aJ,L',a',b',c,d',z⟩:=x;exact⟨aJ,L',a.trans a',b.trans b',c,d.trans d',z⟩
end
def hH(T:bj)(ρ:bU):Prop:=∀a o,T.K.lookup a=some o->ρ a= .bA o
theorem hH.mono{T:bj}{ρ aJ:bU}(k:hH T ρ)(x:gf ρ aJ):hH T aJ:=λa o e=>x.bA a o (k a o e)
theorem hH.in{T:bj}{ρ:bU}{L:Lo}{σ:PS}{h:Heap}(k:hH T ρ)(R:Rep T ρ L σ h):T.K.In h:=λa o e=>R.bA (k a o e)
section
variable{T:bj}{ρ:bU}{L:Lo}
theorem mr.refKey:∀{fs:List (Nat×PV)} {es:List DictEntry},mr T ρ L fs es->es.any (·.refKey)=false
 |[],[],_=>rfl
 |(a,x)::r,e::t,h=>by obtain⟨⟨_,⟨tk,hk⟩,_⟩,h2⟩:=h;rw[List.any_cons,mr.refKey h2,Bool.or_false];obtain⟨hs,key,val⟩:=e;subst hk;rfl
 |[],_::_,h=>by exact h.elim
 |(_,_)::_,[],h=>by exact h.elim
theorem w_{w:World}(ok:dF T w){a b:Nat}(ha:a<T.nA)(hb:b<T.nA)(tk:Tok):(Value.str (T.an b) tk).isStr (T.an a)=Nat.beq a b:=by
 show(T.an b==T.an a)=_;cases h:Nat.beq a b with
 |true=>rw[j_ h];exact beq_self_eq_true _
 |false=>
  refine beq_eq_false_iff_ne.mpr λe=>?_;have:=ok.inj b a hb ha e;subst this;rw[Nat.beq_refl]at h;cases h
theorem mr.get{w:World}(ok:dF T w){a:Nat}(ha:a<T.nA){fs:List (Nat×PV)}:∀{es:List DictEntry} {x:PV},mr T ρ L fs es->pN a fs=some x->
  ∃e,es.find? (·.key.isStr (T.an a))=some e/\cv T ρ L x e.val:=by
 induction fs with
 |nil=>intro _ _ _ q;exact noS q
 |cons f r ih=>
  intro es x h q;rcases es with _|⟨e,t⟩
  ·exact h.elim
  rcases f with⟨b,y⟩;obtain⟨⟨hb,⟨tk,hk⟩,hv⟩,h2⟩:=h;dsimp only[pN]at q;rw[List.find?_cons,hk,w_ ok ha hb];cases z:Nat.beq a b with
  |true=>rw[z]at q;cases q;exact⟨e,rfl,hv.1⟩
  |false=>rw[z]at q;exact ih h2 q
theorem mr.put{w:World}(ok:dF T w){a:Nat}(ha:a<T.nA){x:PV}{u:Value}(hu:cv T ρ L x u)(hx:Oz x=true)(hs:Int)(tk:Tok){fs:List (Nat×PV)}:∀{es:List DictEntry},mr T ρ L fs es->
  mr T ρ L (sQ a x fs) (putL (T.an a) hs (.str (T.an a) tk) u es):=by
 induction fs with
 |nil=>
  intro es h;rcases es with _|⟨e,t⟩;rotate_left
  ·exact h.elim
  show mr T ρ L [(a,x)] [_];exact⟨⟨ha,⟨tk,rfl⟩,hu,hx⟩,trivial⟩
 |cons f r ih=>
  intro es h;rcases es with _|⟨e,t⟩
  ·exact h.elim
  rcases f with⟨b,y⟩;obtain⟨⟨hb,⟨tk',hk⟩,hv⟩,h2⟩:=h;dsimp only[sQ,putL];rw[hk,w_ ok ha hb];cases z:Nat.beq a b with
  |true=>
   show mr T ρ L ((a,x)::r) _;rw[if_pos rfl];refine⟨⟨ha,⟨tk',?_⟩,hu,hx⟩,h2⟩;rw[j_ z]
  |false=>
   show mr T ρ L ((b,y)::sQ a x r) _;rw[if_neg (by decide)];exact⟨⟨hb,⟨tk',hk⟩,hv⟩,ih h2⟩
theorem mr.length:∀{fs:List (Nat×PV)} {es:List DictEntry},mr T ρ L fs es->fs.length=es.length
 |[],[],_=>rfl
 |(a,x)::r,e::t,h=>by simp[mr.length h.2]
 |[],_::_,h=>by exact h.elim
 |(_,_)::_,[],h=>by exact h.elim
end
section
variable{E:Value->Shared->Prop}
theorem Jj{K:Frag}{x C:Addr}{ox od X7:Obj}{dx:Addr}{name:Str}{tk:Tok}{v:Value}{es:List DictEntry}{n:Nat}{R:Result->Shared->Prop}(X:K.In s.heap)
  (I:PySem.W.InstAt s.heap x ox C (some od)) (hd:ox.dict=some dx) (hp:plainOver K C=true) (ht:takerIn K C name=some none) (hh:hasDictIn K C=true)
  (hl:(lookIn name od).isSome=true)
  (e:Obj.putName name (PyData.keyHash w.params name) (.str name s.toks) v od=X7) (e':X7.data= .dict es.toArray n) (hz:es.length<=1000)
  (h:R (.ok (.ret .none)) {s with heap:=s.heap.update dx (Obj.putName name (PyData.keyHash w.params name) (.str name s.toks) v),toks:=s.toks+1}):
  codeAny (model prog w) A (.call (.builtin "object.__setattr__") ⟨[.ref x,.str name tk,v],[]⟩) R s:=by
 refine osa_open X I hp ht λb=>?_;obtain⟨cd,hc,hd'⟩:=any_some hh;obtain⟨hx,hcl,hn,hdd⟩:=I;obtain⟨oc,odi,oda,osl⟩:=ox;dsimp only at hcl hd hdd;subst hcl hd;have D:s.heap.get? dx=some od:=hdd;have D':(s.heap.update dx (Obj.putName name (PyData.keyHash w.params name) (.str name s.toks) v)).get? dx=some X7:=
  e▸Heap.get?_update_self _ D (e▸(by obtain⟨_,_,dd,_⟩:=X7;cases e';rfl))
 refine wpAny_bind (wpAny_pure (wpAny_bind (wpAny_bind (wpAny_loadPart hx (wpAny_bind ((looks_clsIn X hc).here ?_))))));rw[hd'];refine wpAny_pure (a:=some dx) (wpAny_bind (wpAny_pure (wpAny_bind ?_)));refine wpAny_bind (wpAny_bind (wpAny_askSetting (wpAny_pure (wpAny_bind (wpAny_mkText (wpAny_bind (wpAny_loadPart D ?_)))))));unfold lookIn at hl;split at hl
 ·rename_i LB n₀ q;rw[q];dsimp only;have c:(!LB.any (·.key.isStr name)&&LB.any (·.refKey))=false:=by
   rw[<-Array.any_toList,<-Array.any_toList];split at hl
   ·rename_i en he;rw[uk.mpr ⟨en,List.mem_of_find?_eq_some he,List.find?_some he⟩];rfl
   ·split at hl
    ·cases hl
    ·rename_i z;rw[Bool.not_eq_true]at z;rw[z,Bool.and_false]
  rw[aRefKeyMayBeTheName_at,c];refine wpAny_updatePart D ?_;refine wpAny_bind (wpAny_lookBehind D' (by rw[e'];exact pastItsLine_dict (by rw[List.size_toArray,sizeLine_eq];omega)) ?_);exact wpAny_pure h
 ·cases hl
end
section
variable{E:Value->Shared->Prop}{T:bj}{ρ:bU}{L:Lo}{σ:PS}
theorem Ar(R:Rep T ρ L σ s.heap){n C:Nat}{fs:List (Nat×PV)}(e:σ.pm[n]?=some (.inst C fs)):
  ∃es k,PySem.W.InstAt s.heap (L.p n) (BL (T.cl C) (L.d n)) (T.cl C) (some (eV es k))/\s.heap.get? (L.d n)=some (eV es k)/\mr T ρ L fs es.toList:=by
 obtain⟨a,b,c,es,k,d,v⟩:=R.ax n _ e;exact⟨es,k,⟨c,rfl,rfl,d⟩,d,v⟩
theorem Jk(ok:dF T w)(K:hH T ρ)(R:Rep T ρ L σ s.heap){n C a:Nat}{fs:List (Nat×PV)}{x:PV}(e:σ.pm[n]?=some (.inst C fs))(ha:a<T.nA)(g:pN a fs=some x){ex:Bool}
  {Q:Value->Shared->Prop} (h:∀u,cv T ρ L x u->Q u {s with toks:=s.toks+1}) (hv:∀u,cv T ρ L x u->handedIn u=true): ~~~(getAttr (.ref (L.p n)) (T.an a) ex) Q E s:=by
 obtain⟨es,k,I,d,v⟩:=Ar R e;obtain⟨en,hf,hu⟩:=v.get ok ha g;have hl:lookIn (T.an a) (eV es k)=some (some en.val):=by unfold lookIn;dsimp only;rw[hf]
 have hg:=ok.get C;simp only[plainGet,bx,fg]at hg;exact get_value (K.in R) I hg.1 (findObj_own (ok.dict C) (ok.attr C a ha) rfl hl) (hv _ hu) (h _ hu)
end
end
section
mutual
@[reducible] def RD (P:Params) (cl:Nat->Addr) (h:Heap):D->Value->Prop
 | .none,v=>v= .none
 | .bool b,v=>v= .bool b
 | .int i,v=>∃t,v= .int i t
 | .str l,v=>∃t,v= .str (nB l) t/\Ej l=true
 | .tup l,v=>∃a vs,v= .ref a/\h.get? a=some (lN vs)/\yN P cl h l vs.toList
 | .lst l,v=>∃a vs n,v= .ref a/\h.get? a=some (gT vs n)/\yN P cl h l vs.toList
 | .gP l,v=>∃a es n,v= .ref a/\h.get? a=some (eV es n)/\Jl P cl h l es.toList/\a≠sysModules/\kf l
 | .nX n,v=>∃a t u w,v= .ref a/\h.get? a=some (F9 n t u w)
 | .cin C,v=>∃a d n,v= .ref a/\h.get? a=some (BL (cl C) d)/\h.get? d=some (eV #[] n)
@[reducible] def yN (P:Params) (cl:Nat->Addr) (h:Heap):List D->List Value->Prop
 |[],[]=>True
 |d::r,v::t=>RD P cl h d v/\yN P cl h r t
 |_,_=>False
@[reducible] def Jl (P:Params) (cl:Nat->Addr) (h:Heap):List (D×D)->List DictEntry->Prop
 |[],[]=>True
 |(k,x)::r,e::t=>(e.hash=i7 P k/\RD P cl h k e.key/\RD P cl h x e.val)/\Jl P cl h r t
 |_,_=>False
end
section
variable{P:Params}{cl:Nat->Addr}{ρ:bU}{h:Heap}
mutual
theorem VR.rd(R:∀a o,ρ a= .bA o->h.get? a=some o):∀{x:D} {v:Value},VR P cl ρ x v->RD P cl h x v
 | .none,_,h=>h
 | .bool _,_,h=>h
 | .int _,_,h=>h
 | .str _,_,h=>h
 | .tup l,_,q=>by obtain⟨a,vs,e,i,r⟩:=q;exact⟨a,vs,e,R _ _ i,dA.rd R r⟩
 | .lst l,_,q=>by obtain⟨a,vs,n,e,i,r⟩:=q;exact⟨a,vs,n,e,R _ _ i,dA.rd R r⟩
 | .gP l,_,q=>by obtain⟨a,vs,n,e,i,r,z⟩:=q;exact⟨a,vs,n,e,R _ _ i,gc.rd R r,z⟩
 | .nX n,_,q=>by obtain⟨a,t,u,w,e,i⟩:=q;exact⟨a,t,u,w,e,R _ _ i⟩
 | .cin C,_,q=>by obtain⟨a,d,n,e,i,j⟩:=q;exact⟨a,d,n,e,R _ _ i,R _ _ j⟩
theorem dA.rd(R:∀a o,ρ a= .bA o->h.get? a=some o):∀{l:List D} {vs:List Value},dA P cl ρ l vs->yN P cl h l vs
 |[],[],_=>trivial
 |x::r,v::t,q=>by exact⟨VR.rd R q.1,dA.rd R q.2⟩
 |[],_::_,q=>by exact q.elim
 |_::_,[],q=>by exact q.elim
theorem gc.rd(R:∀a o,ρ a= .bA o->h.get? a=some o):∀{l:List (D×D)} {es:List DictEntry},gc P cl ρ l es->Jl P cl h l es
 |[],[],_=>trivial
 |(x,y)::r,e::t,q=>by exact⟨⟨q.1.1,VR.rd R q.1.2.1,VR.rd R q.1.2.2⟩,gc.rd R q.2⟩
 |[],_::_,q=>by exact q.elim
 |(_,_)::_,[],q=>by exact q.elim
end
theorem yN.length:∀{l:List D} {vs:List Value},yN P cl h l vs->l.length=vs.length
 |[],[],_=>rfl
 |x::r,v::t,q=>by simp[yN.length q.2]
 |[],_::_,q=>by exact q.elim
 |_::_,[],q=>by exact q.elim
end
mutual
noncomputable def pD:D->PyData
 | .none=> .none
 | .bool b=> .bool b
 | .int i=> .int i
 | .str l=> .str (nB l)
 | .tup l=> .tuple (Jm l)
 | .lst l=> .list (Jm l)
 |_=> .none
noncomputable def Jm:List D->List PyData
 |[]=>[]
 |d::r=>pD d::Jm r
end
theorem As(a b:List Nat):(nB a==nB b)=(a==b):=by
 rw[ja,fg,fg];constructor
 ·intro e;injection e with e;injection e
 ·intro e;rw[e]
theorem BM{l:List Nat}(h:Ej l=true):PyData.strOk (nB l)=true:=by
 show(l.toArray).all _=true;rw[List.all_toArray];unfold Ej at h;rw[bc]at h⊢;intro c hc;have:=h c hc;have:Nat.blt c 1114112=true:=this;have:c<1114112:=by rwa [Nat.blt_eq]at this
 simpa using this
section
variable{P:Params}{cl:Nat->Addr}{h:Heap}
mutual
theorem RD.reads:∀{x:D} {v:Value},RD P cl h x v->qg x=true->(∃as,Reads h v (pD x) as)/\(pD x).canLay0=true
 | .none,v,q,_=>by subst q;exact⟨⟨_,.none⟩,rfl⟩
 | .bool b,v,q,_=>by subst q;exact⟨⟨_,.bool b⟩,rfl⟩
 | .int i,v,q,_=>by obtain⟨t,rfl⟩:=q;exact⟨⟨_,.int i t⟩,rfl⟩
 | .str l,v,q,_=>by obtain⟨t,rfl,k⟩:=q;exact⟨⟨_,.str _ t⟩,BM k⟩
 | .tup l,v,q,z=>by obtain⟨a,vs,zq8,g,r⟩:=q;rw[zq8];obtain⟨⟨as,r1⟩,r2⟩:=yN.reads r z;exact⟨⟨_,.tuple g rfl rfl r1⟩,r2⟩
 | .lst l,v,q,z=>by obtain⟨a,vs,n,zq13,g,r⟩:=q;rw[zq13];obtain⟨⟨as,r1⟩,r2⟩:=yN.reads r z;exact⟨⟨_,.list g rfl rfl r1⟩,r2⟩
 | .gP l,v,q,z=>noB z
 | .nX n,v,q,z=>noB z
 | .cin C,v,q,z=>noB z
theorem yN.reads:∀{l:List D} {vs:List Value},yN P cl h l vs->lI l=true->(∃as,ReadsAll h vs (Jm l) as)/\PyData.canLayAll0 (Jm l)=true
 |[],[],_,_=>⟨⟨_,.nil⟩,rfl⟩
 |x::r,v::t,q,z=>by have z:=ku.mp z;obtain⟨⟨as,r1⟩,c1⟩:=RD.reads q.1 z.1;obtain⟨⟨bs,r2⟩,c2⟩:=yN.reads q.2 z.2;exact⟨⟨_,.cons r1 r2⟩,ku.mpr ⟨c1,c2⟩⟩
 |[],_::_,q,_=>by exact q.elim
 |_::_,[],q,_=>by exact q.elim
end
end
mutual
theorem eS:∀(x:D),qg x=true->(pD x).depth=dj x
 | .none,_=>rfl
 | .bool _,_=>rfl
 | .int _,_=>rfl
 | .str _,_=>rfl
 | .tup l,z=>congrArg (·+1) (gD l z)
 | .lst l,z=>congrArg (·+1) (gD l z)
 | .gP l,z=>noB z
 | .nX n,z=>noB z
 | .cin C,z=>noB z
theorem gD:∀(l:List D),lI l=true->PyData.depthAll (Jm l)=dW l
 |[],_=>rfl
 |x::r,z=>by have z:=ku.mp z;exact congr (congrArg max (eS x z.1)) (gD r z.2)
end
mutual
theorem rC:∀(a b:D),qg a=true->qg b=true->PyData.eqv (pD a) (pD b)=ba a b
 | .none,b,_,z=>by cases b<;>first|rfl|exact noB z
 | .bool a,b,_,z=>by cases b<;>first|rfl|exact noB z
 | .int a,b,_,z=>by cases b<;>first|rfl|exact noB z
 | .str a,b,_,z=>by cases b<;>first|rfl|exact noB z|exact As _ _
 | .tup a,b,y,z=>by
  cases b<;>first|rfl|exact noB z|skip
  rename_i b;exact vd a b y z
 | .lst a,b,y,z=>by
  cases b<;>first|rfl|exact noB z|skip
  rename_i b;exact vd a b y z
 | .gP l,_,z,_=>noB z
 | .nX n,_,z,_=>noB z
 | .cin C,_,z,_=>noB z
theorem vd:∀(a b:List D),lI a=true->lI b=true->PyData.eqvAll (Jm a) (Jm b)=j7 a b
 |[],[],_,_=>rfl
 |[],_::_,_,_=>rfl
 |_::_,[],_,_=>rfl
 |a::r,b::t,y,z=>by have z:=ku.mp z;have y:=ku.mp y;exact congr (congrArg and (rC a b y.1 z.1)) (vd r t y.2 z.2)
end
theorem nF(x:D)(hx:qg x=true):∀(l:List D),lI l=true->((Jm l).any λy=>PyData.eqv y (pD x))=l.any λy=>ba y x
 |[],_=>rfl
 |a::r,z=>by have z:=ku.mp z;exact congr (congrArg or (rC a x z.1 hx)) (nF x hx r z.2)
section
variable{E:Value->Shared->Prop}{P:Params}{cl:Nat->Addr}
theorem OA{a b:D}{u v:Value}{r:Bool}{Q:Value->Shared->Prop}(ha:RD P cl s.heap a u)(hb:RD P cl s.heap b v)(hu:A.units+100<cLine)(e:AY a b=some r)(h:Q (.bool r) s):
  ~~~(compareOp .Eq u v) Q E s:=by
 refine dM e λq e=>?_;cases e;rw[bx,bx]at q;obtain⟨⟨q1,q2⟩,q3⟩:=q;obtain⟨⟨as,r1⟩,c1⟩:=ha.reads q1;obtain⟨⟨bs,r2⟩,c2⟩:=hb.reads q2;have q3:=gY q3;exact SeqAt.compareEq_reads r1 r2 c1 c2 (by rw[eS _ q1,eS _ q2];exact sH (hV (bw q3 (by decide)) _) hu) (by rw[rC a b q1 q2];exact h)
theorem OB{a b:D}{u v:Value}{r:Bool}{Q:Value->Shared->Prop}(ha:RD P cl s.heap a u)(hb:RD P cl s.heap b v)(hu:A.units+100<cLine)(e:AY a b=some r)(h:Q (.bool (!r)) s):
  ~~~(compareOp .NotEq u v) Q E s:=by
 refine dM e λq e=>?_;cases e;rw[bx,bx]at q;obtain⟨⟨q1,q2⟩,q3⟩:=q;obtain⟨⟨as,r1⟩,c1⟩:=ha.reads q1;obtain⟨⟨bs,r2⟩,c2⟩:=hb.reads q2;have q3:=gY q3;exact SeqAt.compareNe_reads r1 r2 c1 c2 (by rw[eS _ q1,eS _ q2];omega) (by rw[rC a b q1 q2];exact h)
theorem Gb{l:List D}{b:D}{u v:Value}{r:Bool}{Q:Value->Shared->Prop}(hl:RD P cl s.heap (.lst l) u\/RD P cl s.heap (.tup l) u)(hb:RD P cl s.heap b v)(hu:A.units+100<cLine)(e:memD b l=some r)(h:Q (.bool r) s):
  ~~~(compareOp .In v u) Q E s:=by
 refine dM e λq e=>?_;cases e;rw[bx,bx]at q;obtain⟨⟨q1,q2⟩,q3⟩:=q;obtain⟨⟨bs,r2⟩,c2⟩:=hb.reads q1;have q3:=gY q3;rcases hl with hl|hl
 ·obtain⟨⟨as,r1⟩,c1⟩:=hl.reads q2;exact SeqAt.in_list_reads r1 r2 c1 c2 (by rw[gD _ q2,eS _ q1];exact sH (Nat.add_assoc A.units 1 _▸hV (bw (hV q3 1) (by decide)) _) hu) (by rw[nF b q1 l q2];exact h)
 ·obtain⟨⟨as,r1⟩,c1⟩:=hl.reads q2;exact SeqAt.in_tuple_reads r1 r2 c1 c2 (by rw[gD _ q2,eS _ q1];exact sH (Nat.add_assoc A.units 1 _▸hV (bw (hV q3 1) (by decide)) _) hu) (by rw[nF b q1 l q2];exact h)
theorem tP{l:List D}{b:D}{u v:Value}{r:Bool}{Q:Value->Shared->Prop}(hl:RD P cl s.heap (.lst l) u\/RD P cl s.heap (.tup l) u)(hb:RD P cl s.heap b v)(hu:A.units+100<cLine)(e:memD b l=some r)(h:Q (.bool (!r)) s):
  ~~~(compareOp .NotIn v u) Q E s:=by
 refine dM e λq e=>?_;cases e;rw[bx,bx]at q;obtain⟨⟨q1,q2⟩,q3⟩:=q;obtain⟨⟨bs,r2⟩,c2⟩:=hb.reads q1;have q3:=gY q3;rcases hl with hl|hl
 ·obtain⟨⟨as,r1⟩,c1⟩:=hl.reads q2;exact SeqAt.notIn_list_reads r1 r2 c1 c2 (by rw[gD _ q2,eS _ q1];omega) (by rw[nF b q1 l q2];exact h)
 ·obtain⟨⟨as,r1⟩,c1⟩:=hl.reads q2;exact SeqAt.notIn_tuple_reads r1 r2 c1 c2 (by rw[gD _ q2,eS _ q1];omega) (by rw[nF b q1 l q2];exact h)
end
end
section
mutual
def Gd:D->Nat
 | .tup l=>Ge l+1
 |_=>1
def Ge:List D->Nat
 |[]=>0
 |d::r=>Gd d+Ge r
end
theorem Vm{f:Nat->Bool}{n:Nat}{P:Prop}(h:kyT f n=true)(k:∀m,n=m+1->f m=true->P):P:=by
 cases n with
 |zero=>exact noB h
 |succ m=>exact k m rfl h
mutual
inductive Ky:Nat->D->Prop
 |int {n} (i:Int):Ky n (.int i)
 |str {n} (s:List Nat):Ky n (.str s)
 |tup {n} {l:List D}:RJ n l->Ky (n+1) (.tup l)
inductive RJ:Nat->List D->Prop
 |nil {n}:RJ n []
 |cons {n} {d:D} {l:List D}:Ky n d->RJ n l->RJ n (d::l)
end
mutual
theorem s7:∀(x:D) (n:Nat),YD x n=true->Ky n x
 | .int i,_,_=> .int i
 | .str s,_,_=> .str s
 | .tup l,n,h=>Vm (f:=EA l) h λm e h=>e▸.tup (LC l m h)
 | .none,_,h=>noB h
 | .bool _,_,h=>noB h
 | .lst _,_,h=>noB h
 | .gP _,_,h=>noB h
 | .cin _,_,h=>noB h
 | .nX _,_,h=>noB h
theorem LC:∀(x:List D) (n:Nat),EA x n=true->RJ n x
 |[],_,_=> .nil
 |a::r,n,h=> .cons (s7 a n (ku.mp h).1) (LC r n (ku.mp h).2)
end
mutual
inductive Gf (P:Params) (cl:Nat->Addr) (h:Heap):Nat->D->Value->Prop
 |int {n} (i:Int) (t:Tok):Gf P cl h n (.int i) (.int i t)
 |str {n} (s:List Nat) (t:Tok):Ej s=true->Gf P cl h n (.str s) (.str (nB s) t)
 |tup {n} {l:List D} {a:Addr} {vs:Array Value}:h.get? a=some (lN vs)->BN P cl h n l vs.toList->Gf P cl h (n+1) (.tup l) (.ref a)
inductive BN (P:Params) (cl:Nat->Addr) (h:Heap):Nat->List D->List Value->Prop
 |nil {n}:BN P cl h n [] []
 |cons {n} {d:D} {l:List D} {v:Value} {vs:List Value}:Gf P cl h n d v->BN P cl h n l vs->BN P cl h n (d::l) (v::vs)
end
section
variable{P:Params}{cl:Nat->Addr}{h h':Heap}
theorem xa{n:Nat}{x:D}(k:Ky n x):∀{v:Value},RD P cl h x v->Gf P cl h n x v:=
 Ky.rec (motive_1:=λn x _=>∀{v:Value},RD P cl h x v->Gf P cl h n x v) (motive_2:=λn l _=>∀{vs:List Value},yN P cl h l vs->BN P cl h n l vs)
  (λi v r=>by obtain⟨t,rfl⟩:∃t,v= .int i t:=r;exact .int i t)
  (λs v r=>by obtain⟨t,rfl,o⟩:∃t,v= .str (nB s) t/\Ej s=true:=r;exact .str s t o)
  (λ{n l} _ ih v r=>by obtain⟨a,vs,rfl,g,r⟩:∃a vs,v= .ref a/\h.get? a=some (lN vs)/\yN P cl h l vs.toList:=r;exact .tup g (ih r))
  (λ{n} vs r=>by
   cases vs with
   |nil=>exact .nil
   |cons=>exact r.elim)
  (λ{n d l} _ _ i1 i2 vs r=>by
   cases vs with
   |nil=>exact r.elim
   |cons v vs=>exact .cons (i1 r.1) (i2 r.2)) k
theorem Jn(n m:Nat)(x y:D)(v:Value)(hx:ip n x=true)(hy:ip m y=true)(r:RD P cl h x v)(q:RD P cl h y v):x=y:=
 Gf.rec (motive_1:=λn x v _=>∀m y,Gf P cl h m y v->x=y) (motive_2:=λn l vs _=>∀m y,BN P cl h m y vs->l=y)
  (λi t m y q=>by cases q;rfl)
  (λs t o m y q=>by generalize e:Value.str (nB s) t=v at q;cases q<;>cases e;rfl)
  (λ{n l a vs} g _ ih m y q=>by
   cases q with
   |tup g' r=>rw[g]at g';cases g';rw[ih _ _ r])
  (λm y q=>by cases q;rfl)
  (λ{n d l v vs} _ _ i1 i2 m y q=>by
   cases q with
   |cons a b=>rw[i1 _ _ a,i2 _ _ b])
  (xa (s7 x n hx) r) m y (xa (s7 y m hy) q)
theorem Gg{d:Addr}{o:Obj}{es ep}(ho:h.get? d=some o)(hd:o.data= .dict es ep)(hs:Heap.SameBut d h h')(n:Nat)(x:D)(v:Value)(k:ip n x=true)(r:RD P cl h x v):RD P cl h' x v:=
 Gf.rec (motive_1:=λn x v _=>RD P cl h' x v) (motive_2:=λn l vs _=>yN P cl h' l vs)
  (λi t=>⟨t,rfl⟩) (λs t o=>⟨t,rfl,o⟩)
  (λ{n l a vs} g _ ih=>⟨a,vs,rfl,(hs.2 a λz=>by subst z;rw[g]at ho;cases ho;cases hd).trans g,ih⟩)
  trivial (λ_ _ a b=>by exact⟨a,b⟩) (xa (s7 x n k) r)
end
section
variable{E:Value->Shared->Prop}{cl:Nat->Addr}
theorem lB(P:Params)(i:Int):i7 P (.int i)=hashInt i:=hashW_int P i
set_option maxRecDepth 100000 in
theorem xb(k:D)(n:Nat)(v:Value)(A:Around)(s:Shared)(Q:Int->Shared->Prop)(hk:ip n k=true)(x:RD w.params cl s.heap k v)(hu:A.units+n<cLine)
  (h:Q (i7 w.params k) {s with toks:=s.toks+Gd k}): ~~~(pyHash v) Q E s:=by
 refine Gf.rec (P:=w.params) (cl:=cl) (h:=s.heap) (motive_1:=λn k v _=>∀(A:Around) (t:Nat) (Q:Int->Shared->Prop),A.units+n<cLine->Q (i7 w.params k) {s with toks:=t+Gd k}->~~~(pyHash v) Q E {s with toks:=t})
  (motive_2:=λn l vs _=>∀(A:Around) (t:Nat) (b:Array Int) (Q:Array Int->Shared->Prop),A.units+n<cLine->(∀b',b'.toList=b.toList++hashesW w.params (X6 l)->Q b' {s with toks:=t+Ge l})->
   ~~~(forIn vs b λx r=>do let h<-pyHash x;pure PUnit.unit;pure (ForInStep.yield (r.push h))) Q E {s with toks:=t})
  (λi _ A t Q hu h=>wpAny_pyHash_int (lB w.params i▸h)) (λy _ _ A t Q hu h=>wpAny_pyHash_str h) ?_ (λA t b Q _ h=>wpAny_pure (h b (ei _).symm)) ?_ (xa (s7 k n hk) x) A s.toks Q hu h
 ·intro n l a vs hg _ ih A t Q hu h;refine pyHash_slot (T:="tuple") ⟨_,hg,rfl⟩ F.slot_tuple_hash F.entry_tuple_hash (F.args_tuple_hash_1 _) (beq_builtin_none _) (.inr (by omega)) ?_;show wpAny _ _ (Builtin.Tuple.tupleItemsOf (.ref a)>>=_) _ _ _;refine wpAny_bind (wpAny_tupleItemsOf hg rfl ?_);refine wpAny_bind ?_;rw[<-Array.forIn_toList];refine ih A.in1 t #[] _ (by simp only[Around.in1_units];omega) λb hb=>?_;show wpAny _ _ (retInt (Builtin.Tuple.tupleHashOf b.toList)) _ _ _;rw[hb];exact wpAny_bind (wpAny_mkInt (wpAny_pure ⟨_,_,rfl,h⟩))
 ·intro n k l v vs _ _ i1 i2 A t b Q hu h;rw[List.forIn_cons];refine wpAny_bind (wpAny_bind (i1 A t _ hu ?_));refine wpAny_bind (wpAny_pure (wpAny_pure ?_));refine i2 A _ _ Q hu λb' hb=>?_;have h:=h b' (by rw[hb,Array.toList_push,eI];rfl);have e:t+Ge (k::l)=t+Gd k+Ge l:=(Nat.add_assoc _ _ _).symm;rw[e]at h;exact h
theorem BO(n:Nat)(x:D)(v:Value)(A:Around)(s:Shared)(Q:Bool->Shared->Prop)(k:ip n x=true)(r:RD w.params cl s.heap x v)(h:Q true s): ~~~(eqIsQuiet (n+2) v) Q E s:=by
 refine Gf.rec (P:=w.params) (cl:=cl) (h:=s.heap) (motive_1:=λn _ v _=>∀Q:Bool->Shared->Prop,Q true s->~~~(eqIsQuiet (n+2) v) Q E s)
  (motive_2:=λn _ vs _=>∀Q:Option Bool×PUnit->Shared->Prop,Q (none,⟨⟩) s->~~~(forIn vs (none,PUnit.unit) λy r=>do
   let a<-eqIsQuiet (n+2) y
   if (!a)=true then pure (ForInStep.done (some false,PUnit.unit))else pure (ForInStep.yield (none,PUnit.unit))) Q E s)
  (λi _ Q h=>by rw[eqIsQuiet_byValue _ rfl];exact wpAny_pure h) (λy _ _ Q h=>by rw[eqIsQuiet_byValue _ rfl];exact wpAny_pure h) ?_ (λQ h=>wpAny_pure h) ?_ (xa (s7 x n k) r) Q h
 ·intro n l a vs g _ ih Q h;have hT:s.TypeIs (.ref a) "tuple":=⟨_,g,rfl⟩;unfold eqIsQuiet;refine wpAny_bind (wpAny_specialOf hT F.slot_tuple_eq.lookup ?_);show wpAny _ _ (isInstance (.ref a) (.type "tuple")>>=_) _ _ s;refine wpAny_bind (wpAny_isInstance hT isSubtype_tuple_tuple ?_);simp only[Bool.not_true,vQ,if_false];refine wpAny_bind (wpAny_seqItems g rfl ?_);refine wpAny_bind ?_;show wpAny _ _ (forIn vs _ _) _ _ s;rw[<-Array.forIn_toList];exact ih _ (wpAny_pure h)
 ·intro n a l v vs _ _ i1 i2 Q h;rw[List.forIn_cons];exact wpAny_bind (wpAny_bind (i1 _ (wpAny_pure (i2 Q h))))
end
theorem jW(n:Nat)(x:D)(h:ip n x=true):qg x=true/\dj x<=n:=
 Ky.rec (motive_1:=λn x _=>qg x=true/\dj x<=n) (motive_2:=λn l _=>lI l=true/\dW l<=n)
  (λ_=>⟨rfl,eJ _⟩) (λ_=>⟨rfl,eJ _⟩) (λ_ ih=>⟨ih.1,sJ ih.2⟩) ⟨rfl,eJ _⟩
  (λ{n d l} _ _ a b=>⟨by show(qg d&&lI l)=true;rw[a.1,b.1];rfl,Nat.max_le.mpr ⟨a.2,b.2⟩⟩) (s7 x n h)
theorem Gh(n m:Nat)(x y:D)(hx:ip n x=true)(hy:ip m y=true)(e:ba x y=true):x=y:=
 Ky.rec (motive_1:=λn x _=>∀m y,Ky m y->ba x y=true->x=y) (motive_2:=λn x _=>∀m y,RJ m y->j7 x y=true->x=y)
  (λi m y hy e=>by
   cases hy with
   |int j=>rw[cj (show(i==j)=true from e)]
   |_=>exact noB e)
  (λi m y hy e=>by
   cases hy with
   |str j=>rw[cj (show(i==j)=true from e)]
   |_=>exact noB e)
  (λ_ ih m y hy e=>by
   cases hy with
   |tup h=>rw[ih _ _ h e]
   |_=>exact noB e)
  (λm y hy e=>by
   cases hy with
   |nil=>rfl
   |_=>exact noB e)
  (λ_ _ i1 i2 m y hy e=>by
   cases hy with
   |nil=>exact noB e
   |cons a b=>
    have e:=ku.mp e;rw[i1 _ _ a e.1,i2 _ _ b e.2]) (s7 x n hx) m y (s7 y m hy) e
theorem o3(n:Nat)(x:D)(h:ip n x=true):ba x x=true:=
 Ky.rec (motive_1:=λn x _=>ba x x=true) (motive_2:=λn l _=>j7 l l=true)
  (λi=>beq_self_eq_true i) (λs=>beq_self_eq_true s) (λ_ ih=>ih) rfl (λ{n d l} _ _ a b=>by show(ba d d&&j7 l l)=true;rw[a,b];rfl) (s7 x n h)
theorem kK{x y:D}(hx:keyOk x=true)(hy:keyOk y=true):ba x y=true<->x=y:=
 ⟨Gh 6 6 x y hx hy,λe=>e▸o3 6 x hx⟩
end
noncomputable instance decD:DecidableEq D:=λa b=>Classical.propDecidable (a=b)
section
variable{E:Value->Shared->Prop}{cl:Nat->Addr}
noncomputable def kD (prog:Program) (w:World) (cl:Nat->Addr):HeapKind prog w D where
 is:=λh k a=>keyOk k=true/\RD w.params cl h k (.ref a)
 hash:=i7 w.params
 draws:=Gd
 room:=λA=>A.units+60<cLine
 inj:=λhx hy=>Jn 6 6 _ _ _ hx.1 hy.1 hx.2 hy.2
 keeps:=λx ho hd hs=>⟨x.1,Gg ho hd hs 6 _ _ x.1 x.2⟩
 pyHash:=λhu hk h=>xb _ 6 _ _ _ _ hk.1 hk.2 (by omega) h
 eqBool:=λ{A E s x y a b Q} hu hx hy h=>by
  obtain⟨⟨as,r1⟩,c1⟩:=hx.2.reads (jW 6 _ hx.1).1;obtain⟨⟨bs,r2⟩,c2⟩:=hy.2.reads (jW 6 _ hy.1).1;refine SeqAt.eqBoolOverData _ _ _ _ _ _ _ _ _ _ _ _ r1 r2 c1 c2 ?_ ?_
  ·rw[eS _ (jW 6 _ hx.1).1,eS _ (jW 6 _ hy.1).1];have:=(jW 6 _ hx.1).2;exact sH (hV (bw (Nat.min_le_left _ _) (bw this (by decide))) _) hu
  ·rw[rC _ _ (jW 6 _ hx.1).1 (jW 6 _ hy.1).1];have:ba x y=decide (x=y):=by rw[ja,kK hx.1 hy.1,dK]
   rw[this];exact h
 quiet:=λhk h=>BO 6 _ _ _ _ _ hk.1 hk.2 h
def addrOf:Value->Addr
 | .ref a=>a
 |_=>0
def xc:List (D×D)->List DictEntry->List (D×Addr×Value)
 |(k,_)::r,e::t=>(k,addrOf e.key,e.val)::xc r t
 |_,_=>[]
theorem Gi{P:Params}{h:Heap}{k:D}{v:Value}(hk:cy k=3)(r:RD P cl h k v):v= .ref (addrOf v):=by
 cases k<;>first|change hk|skip
 obtain⟨a,vs,rfl,_⟩:=r;rfl
theorem rE{h:Heap}:∀{l:List (D×D)} {es:List DictEntry},Jl w.params cl h l es->(∀p∈l,cy p.1=3)->es=(xc l es).map (entryOfKey (kD prog w cl))
 |[],[],_,_=>rfl
 |(k,x)::r,e::t,q,hk=>by dsimp only[xc];rw[j9,<-rE q.2 λp hp=>hk p (.tail _ hp)];congr 1;obtain⟨hs,key,val⟩:=e;have:=Gi (hk _ (.head _)) q.1.2.1;have h1:=q.1.1;rw[h1];congr 1
 |[],_::_,q,_=>by exact q.elim
 |(_,_)::_,[],q,_=>by exact q.elim
theorem Au{h:Heap}:∀{l:List (D×D)} {es:List DictEntry},Jl w.params cl h l es->(xc l es).map (·.1)=l.map (·.1)
 |[],[],_=>rfl
 |(k,x)::r,e::t,q=>by dsimp only[xc];rw[j9,j9,Au q.2]
 |[],_::_,q=>by exact q.elim
 |(_,_)::_,[],q=>by exact q.elim
theorem LD{h:Heap}:∀{l:List (D×D)} {es:List DictEntry},Jl w.params cl h l es->(∀p∈l,keyOk p.1=true)->(∀p∈l,cy p.1=3)->∀x∈xc l es,(kD prog w cl).is h x.1 x.2.1
 |[],[],_,_,_=>λx hx=>by cases hx
 |(k,y)::r,e::t,q,ok,hk=>by
  dsimp only[xc];intro x hx;rcases dH.mp hx with rfl|hx
  ·exact⟨ok _ (.head _),Gi (hk _ (.head _)) q.1.2.1▸q.1.2.1⟩
  ·exact LD q.2 (λp hp=>ok p (.tail _ hp)) (λp hp=>hk p (.tail _ hp)) x hx
 |[],_::_,q,_,_=>by exact q.elim
 |(_,_)::_,[],q,_,_=>by exact q.elim
theorem kf.nodup{l:List (D×D)}(ok:kf l):(l.map (·.1)).Nodup:=by obtain⟨k,_,a⟩:=ok;rw[List.Nodup,List.pairwise_map];refine List.Pairwise.imp_of_mem (λ{x y} hx hy e z=>?_) a;rw[z,o3 6 _ (k y hy)]at e;cases e
theorem xd{h:Heap}{es:List DictEntry}{l:List (D×D)}{f:DictEntry->Bool}{g:D×D->Bool}(hf:∀p∈l,∀e:DictEntry,RD w.params cl h p.1 e.key->f e=g p)(q:Jl w.params cl h l es):es.findIdx? f=l.findIdx? g:=by
 induction l generalizing es with
 |nil=>
  cases es with
  |nil=>rfl
  |cons _ _=>exact q.elim
 |cons p r ih=>
  obtain⟨k,x⟩:=p;cases es with
  |nil=>exact q.elim
  |cons e t=>
   rw[vV,vV,hf _ (.head _) e q.1.2.1,ih (λp hp e=>hf p (.tail _ hp) e) q.2]
theorem xe{α:Type}(es:Array α)(f:α->Bool):es.findIdx? f=es.toList.findIdx? f:=by obtain⟨l⟩:=es;exact List.findIdx?_toArray ..
theorem ve{P:Params}{h:Heap}:∀{l:List (D×D)} {es:List DictEntry},Jl P cl h l es->∀e∈es,∃p∈l,e.hash=i7 P p.1/\RD P cl h p.1 e.key
 |[],[],_,e,he=>by cases he
 |(a,b)::r,x::t,q,e,he=>by
  rcases dH.mp he with rfl|he
  ·exact⟨_,.head _,q.1.1,q.1.2.1⟩
  ·obtain⟨p,hp,z⟩:=ve q.2 e he;exact⟨p,.tail _ hp,z⟩
 |[],_::_,q,_,_=>by exact q.elim
 |(_,_)::_,[],q,_,_=>by exact q.elim
theorem rF{k:D}{l:List (D×D)}(ok:kf l)(hk:jj k l=true):keyOk k=true/\∀p∈l,cy p.1=cy k:=by
 unfold jj at hk;rw[bx]at hk;refine⟨hk.1,λp hp=>?_⟩;cases l with
 |nil=>cases hp
 |cons q r=>
  have:=j_ hk.2;rw[<-this];exact ok.kind p hp q (.head _)
theorem xf{x:D}(h:cy x=1):∃j,x= .int j:=by cases x<;>first|change h|exact⟨_,rfl⟩
theorem xg{x:D}(h:cy x=2):∃j,x= .str j:=by cases x<;>first|change h|exact⟨_,rfl⟩
theorem Jo{k:D}{l:List (D×D)}(hk:keyOk k=true)(ok:kf l)(h:∀p∈l,p.1≠k):(l.findIdx? λp=>ba k p.1)=none:=by
 rw[List.findIdx?_eq_none_iff];intro p hp;cases z:ba k p.1 with
 |false=>rfl
 |true=>exact absurd ((kK hk (ok.key p hp)).mp z).symm (h p hp)
theorem Jp{k:D}{l:List (D×D)}{j:Nat}{p:D×D}(hk:keyOk k=true)(ok:kf l)(y:l[j]?=some p)(g:k=p.1):(l.findIdx? λp=>ba k p.1)=some j:=by
 obtain⟨hj',MK⟩:=fX.mp y;rw[List.findIdx?_eq_some_iff_getElem];refine⟨hj',by rw[MK];exact(kK hk (ok.key p (qG y))).mpr g,λm hm z=>?_⟩;have ym:=Nat.lt_trans hm hj';have zz:=(kK hk (ok.key _ (List.getElem_mem ym))).mp z;have:(l.map (·.1))[m]?=(l.map (·.1))[j]?:=by rw[pK,pK,mJ ym,y];exact congrArg some (zz.symm.trans g)
 exact absurd ((List.getElem?_inj (by rw[eT];exact ym) ok.nodup).mp this) (Nat.ne_of_lt hm)
theorem find_key{d:Addr}{es:Array DictEntry}{n:Nat}{l:List (D×D)}{k:D}{u:Value}{Q:Option Nat->Shared->Prop}(hu:A.units+60<cLine)(hd:s.heap.get? d=some (eV es n))(hl:Jl w.params cl s.heap l es.toList)
  (ok:kf l) (hk:jj k l=true) (hr:RD w.params cl s.heap k u) (h:Q (l.findIdx? λp=>ba k p.1) s): ~~~(dictFind d u (i7 w.params k)) Q E s:=by
 refine an2 (rF ok hk) λRK RL=>?_;clear hk;cases k with
 |int i=>
  refine ex1 (show∃t,u= .int i t from hr) λt e=>?_;rw[e];rw[lB];clear hu RK;refine wpAny_dictFind_of (knd:=intKind prog w) (k:=i) (beq_self_eq_true i) hd rfl (λe he=>?_) ?_
  ·refine ex1 (ve hl e (Array.mem_def.mp he)) λp z=>an3 z λhp e1 e2=>?_;refine ex1 (xf (RL p hp)) λj q=>?_;rw[q]at e1 e2;refine ex1 (show∃t,e.key= .int j t from e2) λt' e2=>?_;exact⟨j,by rw[e2];exact beq_self_eq_true j,by rw[e1,lB];rfl⟩
  ·rw[xe];rw[xd (g:=λp=>ba (.int i) p.1) (λp hp e re=>?_) hl]
   ·exact h
   ·refine ex1 (xf (RL p hp)) λj q=>?_;rw[q]at re⊢;refine ex1 (show∃t,e.key= .int j t from re) λt' e2=>?_;rw[e2];exact(BEq.comm:(j==i)=(i==j))
 |str i=>
  refine ex1 (show∃t,u= .str (nB i) t/\Ej i=true from hr) λt e=>?_;refine an2 e λe _=>?_;rw[e];clear hu RK;refine wpAny_dictFind_of (knd:=strKind prog w) (k:=nB i) (beq_self_eq_true (nB i)) hd rfl (λe he=>?_) ?_
  ·refine ex1 (ve hl e (Array.mem_def.mp he)) λp z=>an3 z λhp e1 e2=>?_;refine ex1 (xg (RL p hp)) λj q=>?_;rw[q]at e1 e2;refine ex1 (show∃t,e.key= .str (nB j) t/\Ej j=true from e2) λt' e2=>?_;exact⟨nB j,by rw[e2.1];exact beq_self_eq_true (nB j),by rw[e1];rfl⟩
  ·rw[xe];rw[xd (g:=λp=>ba (.str i) p.1) (λp hp e re=>?_) hl]
   ·exact h
   ·refine ex1 (xg (RL p hp)) λj q=>?_;rw[q]at re⊢;refine ex1 (show∃t,e.key= .str (nB j) t/\Ej j=true from re) λt' e2=>?_;rw[e2.1];exact(BEq.comm:(nB j==nB i)=(nB i==nB j)).trans (As i j)
 |tup i=>
  have hk3:∀p∈l,cy p.1=3:=RL;have e3:=Gi (k:= .tup i) rfl hr;rw[e3]at hr⊢;clear e3 RL;have xk:=Au hl;have hx:=rE (prog:=prog) hl hk3;have xi:=LD (prog:=prog) hl ok.key hk3;clear hl;generalize xc l es.toList=X at xk hx xi⊢;have get:∀(j:Nat),X[j]?.map (·.1)=(l[j]?).map (·.1):=λj=>by rw[<-pK,<-pK,xk]
  refine wpAny_dictFind_heap (knd:=kD prog w cl) (k:= .tup i) (xs:=X) hu ⟨RK,hr⟩ hd rfl hx xi (by rw[xk];exact ok.nodup) (λhno=>?_) λj q hj=>?_
  ·rw[Jo RK ok λp hp z=>?_]at h
   ·exact h
   ·refine ex1 (List.mem_iff_getElem?.mp hp) λj hj=>?_;have g:=get j
    replace g:=hj▸g
    cases y:X[j]? with
    |none=>rw[y]at g;exact noS g
    |some q=>
     rw[y]at g;have g:q.1=p.1:=fh g;exact hno j q.2 (by rw[y,<-z,<-g])
  ·have g:=get j;rw[hj]at g;cases y:l[j]? with
   |none=>rw[y]at g;exact noS g.symm
   |some p=>
    rw[y]at g;rw[Jp RK ok y (fh g)]at h;exact h
 |_=>exact noB RK
end
theorem o4(k:D):∀l:List (D×D),kx k l=(l.findIdx? λp=>ba k p.1).bind λi=>(l[i]?).map (·.2)
 |[]=>rfl
 |(a,v)::r=>by
  dsimp only[kx];rw[vV];cases h:ba k a with
  |true=>simp
  |false=>
   simp only[vQ,if_false];rw[o4 k r];cases List.findIdx? (λp=>ba k p.1) r<;>simp
theorem o5(k:D):∀l:List (D×D),fM k l=(l.findIdx? λp=>ba k p.1).isSome
 |[]=>rfl
 |(a,v)::r=>by
  dsimp only[fM];rw[vV];cases h:ba k a with
  |true=>simp
  |false=>
   simp only[vQ,if_false,Bool.false_or];rw[o5 k r];cases List.findIdx? (λp=>ba k p.1) r<;>simp
theorem tQ{k x:D}:∀{l:List (D×D)},(l.findIdx? λp=>ba k p.1)=none->dput k x l=l++[(k,x)]
 |[],_=>rfl
 |(a,v)::r,h=>by
  replace h:=vV▸h
  dsimp only[uq];cases z:ba k a with
  |true=>rw[z]at h;simp at h
  |false=>
   rw[z]at h;simp only[vQ,if_false]at h⊢;rw[tQ (l:=r) (by simpa using h)];rfl
theorem rG{k:D}:∀{l:List (D×D)} {i:Nat},(l.findIdx? λp=>ba k p.1)=some i->ma k l=l.eraseIdx i
 |[],_,h=>by simp at h
 |(a,v)::r,i,h=>by
  rw[vV]at h;dsimp only[ma];cases z:ba k a with
  |true=>rw[z]at h;simp at h;subst h;simp
  |false=>
   rw[z]at h;simp only[vQ,if_false]at h⊢;obtain⟨j,hj,OC⟩:=Ex.mp h;rw[<-OC];rw[rG hj];rfl
theorem nG{k x:D}:∀{l:List (D×D)} {p:D×D},p∈dput k x l->p.1=k\/∃q∈l,p.1=q.1
 |[],p,h=>by
  have h:p∈[(k,x)]:=h;rcases dH.mp h with rfl|h
  ·exact .inl rfl
  ·cases h
 |(a,v)::r,p,h=>by
  dsimp only[uq]at h;split at h
  ·rcases dH.mp h with rfl|h
   ·exact .inr ⟨_,.head _,rfl⟩
   ·exact .inr ⟨p,.tail _ h,rfl⟩
  ·rcases dH.mp h with rfl|h
   ·exact .inr ⟨_,.head _,rfl⟩
   ·rcases nG h with e|⟨q,hq,e⟩
    ·exact .inl e
    ·exact .inr ⟨q,.tail _ hq,e⟩
theorem s8{x y:D}(hx:keyOk x=true)(hy:keyOk y=true)(h:ba x y=false):ba y x=false:=by
 cases z:ba y x with
 |false=>rfl
 |true=>rw[(kK hy hx).mp z,o3 6 x hx]at h;cases h
theorem rH{k x:D}(hk:keyOk k=true):∀{l:List (D×D)},(∀p∈l,keyOk p.1=true)->(l.Pairwise λp q=>ba p.1 q.1=false)->(dput k x l).Pairwise λp q=>ba p.1 q.1=false
 |[],_,_=>List.pairwise_singleton _ _
 |(a,v)::r,ok,h=>by
  dsimp only[uq];rw[List.pairwise_cons]at h;split
  ·rw[List.pairwise_cons];exact h
  ·rename_i z;rw[Bool.not_eq_true]at z;rw[List.pairwise_cons];refine⟨λq hq=>?_,rH hk (λp hp=>ok p (.tail _ hp)) h.2⟩;rcases nG hq with e|⟨q',hq',e⟩
   ·rw[e];exact s8 hk (ok _ (.head _)) z
   ·rw[e];exact h.1 q' hq'
theorem kf.put{k x:D}{l:List (D×D)}(ok:kf l)(h:jj k l=true):kf (dput k x l):=by
 obtain⟨h1,h2⟩:=rF ok h;refine⟨λp hp=>?_,λp hp q hq=>?_,rH h1 ok.key ok.apart⟩
 ·rcases nG hp with e|⟨q,hq,e⟩<;>rw[e]
  ·exact h1
  ·exact ok.key q hq
 ·have:∀p∈dput k x l,cy p.1=cy k:=λp hp=>by rcases nG hp with e|⟨q,hq,e⟩<;>rw[e];exact h2 q hq
  rw[this p hp,this q hq]
theorem kL{k:D}:∀(l:List (D×D)),(ma k l).Sublist l
 |[]=> .slnil
 |(a,v)::r=>by
  dsimp only[ma];split
  ·exact List.sublist_cons_self _ _
  ·exact(kL r).cons_cons _
theorem kf.del{k:D}{l:List (D×D)}(ok:kf l):kf (ma k l):=
 ⟨λp hp=>ok.key p ((kL l).subset hp),λp hp q hq=>ok.kind p ((kL l).subset hp) q ((kL l).subset hq),ok.apart.sublist (kL l)⟩
theorem kf.nil:kf []:=⟨λ_ h=>(nomatch h),λ_ h=>(nomatch h),List.Pairwise.nil⟩
section
variable{P:Params}{cl:Nat->Addr}{ρ:bU}
theorem gc.modify{k x:D}{v:Value}(hv:VR P cl ρ x v):∀{l:List (D×D)} {es:List DictEntry} {i:Nat},gc P cl ρ l es->(l.findIdx? λp=>ba k p.1)=some i->
  gc P cl ρ (dput k x l) (es.modify i λe=>{e with val:=v})
 |[],_,_,_,h=>by simp at h
 |(a,b)::r,[],_,q,_=>by exact q.elim
 |(a,b)::r,e::t,i,q,h=>by
  rw[vV]at h;dsimp only[uq];cases z:ba k a with
  |true=>
   rw[z]at h;simp at h;subst h;simp only[if_true,List.modify_zero_cons];exact⟨⟨q.1.1,q.1.2.1,hv⟩,q.2⟩
  |false=>
   rw[z]at h;simp only[vQ,if_false]at h⊢;obtain⟨j,hj,zq28⟩:=Ex.mp h;rw[<-zq28];rw[List.modify_succ_cons];exact⟨q.1,gc.modify hv q.2 hj⟩
theorem gc.erase:∀{l:List (D×D)} {es:List DictEntry} (i:Nat),gc P cl ρ l es->gc P cl ρ (l.eraseIdx i) (es.eraseIdx i)
 |[],[],_,_=>trivial
 |(a,b)::r,[],_,q=>by exact q.elim
 |[],_::_,_,q=>by exact q.elim
 |(a,b)::r,e::t,0,q=>by exact q.2
 |(a,b)::r,e::t,i+1,q=>by show gc P cl ρ ((a,b)::r.eraseIdx i) (e::t.eraseIdx i);exact⟨q.1,gc.erase i q.2⟩
end
section
variable{E:Value->Shared->Prop}{cl:Nat->Addr}{ρ:bU}{d:Addr}{es:Array DictEntry}{n:Nat}{l:List (D×D)}{k:D}{u:Value}
structure Ask (w:World) (cl:Nat->Addr) (ρ:bU) (A:Around) (s:Shared) (d:Addr) (es:Array DictEntry) (n:Nat) (l:List (D×D)) (k:D) (u:Value):Prop where
 bA:∀a o,ρ a= .bA o->s.heap.get? a=some o
 room:A.units+70<cLine
 at_:s.heap.get? d=some (eV es n)
 are:gc w.params cl ρ l es.toList
 ok:kf l
 jj:jj k l=true
 key:VR w.params cl ρ k u
 sys:d≠sysModules
theorem Ask.in1(a:Ask w cl ρ A s d es n l k u)(h:A.units+71<cLine):Ask w cl ρ A.in1 s d es n l k u:=⟨a.bA,by simp only[Around.in1_units];omega,a.at_,a.are,a.ok,a.jj,a.key,a.sys⟩
theorem Ask.type(a:Ask w cl ρ A s d es n l k u):s.TypeIs (.ref d) "dict":=⟨_,a.at_,rfl⟩
def Got(P:Params)(cl:Nat->Addr)(ρ:bU)(l:List (D×D))(k:D)(r:Option Value):Prop:=match kx k l with
 |some x=>∃v,r=some v/\VR P cl ρ x v
 |none=>r=none
theorem Ask.hash(a:Ask w cl ρ A s d es n l k u){Q:Int->Shared->Prop}(h:Q (i7 w.params k) {s with toks:=s.toks+Gd k}): ~~~(pyHash u) Q E s:=
 xb k 6 u A s Q (rF a.ok a.jj).1 (a.key.rd a.bA) (by have:=a.room;omega) h
theorem Ask.find(a:Ask w cl ρ A s d es n l k u){t:Nat}{Q:Option Nat->Shared->Prop}(h:Q (l.findIdx? λp=>ba k p.1) {s with toks:=t}): ~~~(dictFind d u (i7 w.params k)) Q E {s with toks:=t}:=
 find_key (by have:=a.room;omega) a.at_ (a.are.rd a.bA) a.ok a.jj (a.key.rd a.bA) h
theorem Ask.entry(a:Ask w cl ρ A s d es n l k u){i:Nat}(h:(l.findIdx? λp=>ba k p.1)=some i):∃k' x e,l[i]?=some (k',x)/\es[i]?=some e/\VR w.params cl ρ x e.val:=by have hi:=(List.findIdx?_eq_some_iff_getElem.mp h).1;obtain⟨e,h1,_,_,h2⟩:=a.are.get (i:=i) (k:=(l[i]).1) (x:=(l[i]).2) (mJ hi);exact⟨_,_,e,mJ hi,by rw[<-h1];simp,h2⟩
theorem Ask.get(a:Ask w cl ρ A s d es n l k u){Q:Option Value->Shared->Prop}(h:∀r t,Got w.params cl ρ l k r->Q r {s with toks:=t}): ~~~(dictGet d u) Q E s:=by
 unfold dictGet;try with_reducible refine wpAny_holding ?_
 refine wpAny_bind (a.hash (wpAny_bind (a.find ?_)));have g:=o4 k l;cases hi:l.findIdx? (λp=>ba k p.1)with
 |none=>
  rw[hi]at g;exact wpAny_pure (h none _ (by unfold Got;rw[g];rfl))
 |some i=>
  replace g:=hi▸g
  obtain⟨k',x,e,h1,h2,h3⟩:=a.entry hi;refine wpAny_bind (wpAny_dictEntries (s:={s with toks:=s.toks+Gd k}) a.at_ rfl ?_);rw[h2];refine wpAny_pure (h (some e.val) _ ?_);unfold Got;rw[g,Option.bind_some,h1];exact⟨_,rfl,h3⟩
theorem dh{α:Type}{l:List α}(h:fits l=true):l.length<=1000000:=gY h
theorem xh:(1000001:Nat)<=sizeLine:=by decide
theorem Ask.size(a:Ask w cl ρ A s d es n l k u):es.size=l.length:=by rw[a.are.length,Array.length_toList]
theorem Ask.set(a:Ask w cl ρ A s d es n l k u){x:D}{v:Value}(hv:VR w.params cl ρ x v)(hz:fits l=true){Q:Unit->Shared->Prop}
  (h:∀h' t vf n',h'.get? d=some (eV vf n')->Heap.SameBut d s.heap h'->gc w.params cl ρ (dput k x l) vf.toList->Q () {s with heap:=h',toks:=t}): ~~~(dictSet d u v) Q E s:=by
 have hes:es.size<=sizeLine:=by rw[a.size];have:=dh hz;have:=xh;omega
 unfold dictSet;try with_reducible refine wpAny_holding ?_
 refine wpAny_bind (a.hash ?_);unfold dictSetHashed;try with_reducible refine wpAny_holding ?_
 refine wpAny_bind (a.find ?_);cases hi:l.findIdx? (λp=>ba k p.1)with
 |some i=>
  refine wpAny_bind (wpAny_rule (wpAny_bind (wpAny_updateDict (s:={s with toks:=s.toks+Gd k}) a.at_ rfl (wpAny_point ?_))));refine h _ _ (es.modify i λe=>{e with val:=v}) n (Heap.get?_update_self _ a.at_ rfl) (Heap.SameBut.update ..) ?_;rw[Array.toList_modify];exact a.are.modify hv hi
 |none=>
  refine wpAny_bind (wpAny_rule (wpAny_updateDictKeys (hz:=hes) (s:={s with toks:=s.toks+Gd k}) a.at_ rfl ?_));refine h _ _ (es.push ⟨i7 w.params k,u,v⟩) (n+1) (Heap.get?_update_self _ a.at_ rfl) (Heap.SameBut.update ..) ?_;rw[tQ hi,Array.toList_push];refine a.are.append ?_;exact⟨⟨rfl,a.key,hv⟩,trivial⟩
theorem Ask.take(a:Ask w cl ρ A s d es n l k u)(hh:fM k l=true)(hz:fits l=true){Q:Option DictEntry->Shared->Prop}
  (h:∀e h' t vf n',h'.get? d=some (eV vf n')->Heap.SameBut d s.heap h'->gc w.params cl ρ (ma k l) vf.toList->Q (some e) {s with heap:=h',toks:=t}): ~~~(Builtin.Dict.takeOut d u) Q E s:=by
 have hes:es.size<=sizeLine:=by rw[a.size];have:=dh hz;have:=xh;omega
 unfold Builtin.Dict.takeOut;try with_reducible refine wpAny_holding ?_
 refine wpAny_bind (a.hash (wpAny_bind (a.find ?_)));rw[o5]at hh;obtain⟨i,hi⟩:=yb.mp hh;rw[hi];obtain⟨k',x,e,h1,h2,h3⟩:=a.entry hi;refine wpAny_bind (wpAny_dictEntries (s:={s with toks:=s.toks+Gd k}) a.at_ rfl ?_);rw[h2];refine wpAny_bind (wpAny_updateDictKeys (hz:=hes) (s:={s with toks:=s.toks+Gd k}) a.at_ rfl (wpAny_pure ?_));refine h e _ _ (es.eraseIdxIfInBounds i) (n+1) (Heap.get?_update_self _ a.at_ rfl) (Heap.SameBut.update ..) ?_;rw[rG hi];have:(es.eraseIdxIfInBounds i).toList=es.toList.eraseIdx i:=by obtain⟨l⟩:=es;simp
 rw[this];exact a.are.erase i
theorem qz{d:Addr}(h:d≠sysModules):(d==sysModules)=false:=by simpa using h
theorem Ask.contains(a:Ask w cl ρ A s d es n l k u)(hu:A.units+71<cLine){Q:Bool->Shared->Prop}(h:∀t,Q (fM k l) {s with toks:=t}): ~~~(PySem.contains (.ref d) u) Q E s:=by
 unfold PySem.contains;try with_reducible refine wpAny_holding ?_
 refine wpAny_bind (wpAny_specialOf a.type PySem.slot_dict_contains.lookup ?_);show wpAny _ _ (if (some (Value.builtin "dict.__contains__")==some Value.none)=true then _ else _) _ E s;rw[if_neg (by rw[beq_builtin_none];exact Bool.false_ne_true)];refine wpAny_bind (wpAny_callSpecialUnlessNone?_slot (name:=Str.ofString "__contains__") a.type PySem.slot_dict_contains
  (wpAny_call_entry PySem.slot_dict_contains a.type PySem.entry_dict_contains ?_ (PySem.args_dict_contains _ _)))
 show wpAny _ _ (dictGet d u>>=_) _ _ s;refine wpAny_bind ((a.in1 hu).get λr t g=>?_);have e:r.isSome=fM k l:=by
  unfold Got at g;rw[o5];rw[o4]at g;cases hi:l.findIdx? (λp=>ba k p.1)with
  |none=>rw[hi]at g;rw[g];rfl
  |some i=>
   rw[hi]at g;obtain⟨k',x,e,h1,h2,h3⟩:=a.entry hi;rw[Option.bind_some,h1]at g;obtain⟨v,rfl,_⟩:=g;rfl
 have h:=h t
 replace h:=e.symm▸h
 cases r with
 |some p=>
  show wpAny _ _ (ret (.bool true)) _ _ _;exact wpAny_pure ⟨_,rfl,wpAny_truthy_bool h⟩
 |none=>
  show wpAny _ _ (Builtin.Dict.pendingKey? d u>>=_) _ _ _;exact wpAny_bind (wpAny_pendingKey_other (qz a.sys) (wpAny_pure ⟨_,rfl,wpAny_truthy_bool h⟩))
theorem Ask.in_(a:Ask w cl ρ A s d es n l k u)(hu:A.units+71<cLine){Q:Value->Shared->Prop}(h:∀t,Q (.bool (fM k l)) {s with toks:=t}): ~~~(compareOp .In u (.ref d)) Q E s:=by show wpAny _ _ (do return .bool (<-PySem.contains (.ref d) u)) Q E s;exact wpAny_bind (a.contains hu λt=>wpAny_pure (h t))
theorem Ask.Vn(a:Ask w cl ρ A s d es n l k u)(hu:A.units+71<cLine){Q:Value->Shared->Prop}(h:∀t,Q (.bool (!fM k l)) {s with toks:=t}): ~~~(compareOp .NotIn u (.ref d)) Q E s:=by show wpAny _ _ (do return .bool (!(<-PySem.contains (.ref d) u))) Q E s;exact wpAny_bind (a.contains hu λt=>wpAny_pure (h t))
theorem Ask.item(a:Ask w cl ρ A s d es n l k u)(hu:A.units+71<cLine){x:D}(hx:kx k l=some x){Q:Value->Shared->Prop}(h:∀v t,VR w.params cl ρ x v->Q v {s with toks:=t}): ~~~(getItem (.ref d) u) Q E s:=by
 dsimp only[getItem];try with_reducible refine wpAny_holding ?_
 first|refine wpAny_bind (wpAny_pure ?_)|skip
 refine wpAny_bind (wpAny_sequenceKey a.type (by decide) ?_);refine wpAny_bind (wpAny_callSpecial?_slot (name:=Str.ofString "__getitem__") a.type PySem.slot_dict_getitem
  (wpAny_call_entry PySem.slot_dict_getitem a.type PySem.entry_dict_getitem ?_ (PySem.args_dict_getitem _ _)))
 show wpAny _ _ (dictGet d u>>=_) _ _ s;refine wpAny_bind ((a.in1 hu).get λr t g=>?_);unfold Got at g;rw[hx]at g;obtain⟨v,rfl,hv⟩:=g;exact wpAny_pure ⟨v,rfl,wpAny_pure (h v t hv)⟩
theorem Ask.setItem(a:Ask w cl ρ A s d es n l k u)(hu:A.units+71<cLine){x:D}{v:Value}(hv:VR w.params cl ρ x v)(hz:fits l=true){Q:Unit->Shared->Prop}
  (h:∀h' t vf n',h'.get? d=some (eV vf n')->Heap.SameBut d s.heap h'->gc w.params cl ρ (dput k x l) vf.toList->Q () {s with heap:=h',toks:=t}): ~~~(PySem.setItem (.ref d) u v) Q E s:=by
 unfold PySem.setItem;try with_reducible refine wpAny_holding ?_
 first|refine wpAny_bind (wpAny_pure ?_)|skip
 refine wpAny_bind (wpAny_sequenceKey a.type (by decide) ?_);refine wpAny_bind (wpAny_callSpecial?_slot (name:=Str.ofString "__setitem__") a.type PySem.slot_dict_setitem
  (wpAny_call_entry PySem.slot_dict_setitem a.type PySem.entry_dict_setitem ?_ (PySem.args_dict_setitem _ _ _)))
 show wpAny _ _ (Builtin.Dict.notOrdered "__setitem__" ⟨[.ref d,u,v],[]⟩>>=_) _ _ s;refine wpAny_bind (wpAny_notOrdered_dict a.type ?_);show wpAny _ _ (dictSet d u v>>=_) _ _ s;exact wpAny_bind ((a.in1 hu).set hv hz λh' t vf n' g1 g2 g3=>wpAny_pure ⟨.none,rfl,wpAny_pure (h h' t vf n' g1 g2 g3)⟩)
theorem Ask.delItem(a:Ask w cl ρ A s d es n l k u)(hu:A.units+71<cLine)(hh:fM k l=true)(hz:fits l=true){Q:Unit->Shared->Prop}
  (h:∀h' t vf n',h'.get? d=some (eV vf n')->Heap.SameBut d s.heap h'->gc w.params cl ρ (ma k l) vf.toList->Q () {s with heap:=h',toks:=t}): ~~~(PySem.delItem (.ref d) u) Q E s:=by
 unfold PySem.delItem;try with_reducible refine wpAny_holding ?_
 refine wpAny_bind (wpAny_sequenceKey a.type (by decide) ?_);refine wpAny_bind (wpAny_callSpecial?_slot (name:=Str.ofString "__delitem__") a.type PySem.F.slot_dict_delitem
  (wpAny_call_entry PySem.F.slot_dict_delitem a.type PySem.F.entry_dict_delitem ?_ (PySem.F.args_dict_delitem_2 _ _)))
 refine wpAny_bind ?_;refine wpAny_bind (wpAny_notOrdered_dict a.type ?_);show wpAny _ _ (pure (Value.ref d,u)) _ _ s;refine wpAny_pure ?_;show wpAny _ _ (Builtin.Dict.takeOut d u>>=_) _ _ s;refine wpAny_bind ((a.in1 hu).take hh hz λe h' t vf n' g1 g2 g3=>?_);exact wpAny_bind (wpAny_letGo (wpAny_pure ⟨.none,rfl,wpAny_pure (h h' t vf n' g1 g2 g3)⟩))
end
theorem Vo{t:TO}{l}(h:toD t=some (.lst l)):t= .list l:=by cases t<;>cases h;rfl
theorem Vp{t:TO}{l}(h:toD t=some (.gP l)):t= .dict l:=by cases t<;>cases h;rfl
theorem LF{t:TO}{l}(h:Si t=some l):t= .list l:=by cases t<;>cases h;rfl
theorem LG{t:MO}{l}(h:HR t=some l):t= .list l:=by cases t<;>cases h;rfl
theorem LH{t:TO}{l}(h:Sj t=some l):t= .dict l:=by cases t<;>cases h;rfl
theorem LI{t:MO}{l}(h:KP t=some l):t= .dict l:=by cases t<;>cases h;rfl
theorem Vq{t:MO}{l}(h:HD t=some (.lst l)):t= .list l:=by cases t<;>cases h;rfl
theorem Vr{t:MO}{l}(h:HD t=some (.gP l)):t= .dict l:=by cases t<;>cases h;rfl
section
variable{T:bj}{ρ:bU}{L:Lo}{σ:PS}{h:Heap}
theorem eg(R:Rep T ρ L σ h){v:PV}{u:Value}{l:List D}(p:cv T ρ L v u)(e:σ.ph v=some (.lst l)):∃a vs k,u= .ref a/\h.get? a=some (gT vs k)/\dA T.P T.cl ρ l vs.toList:=by
 cases v with
 |d x=>
  simp! [nU]at e;subst e
  have p:VR T.P T.cl ρ (.lst l) u:=p;obtain⟨a,vs,n,zq22,i,r⟩:=p;rw[zq22];exact⟨a,vs,n,rfl,R.bA i,r⟩
 |aI n=>
  obtain⟨p1,rfl⟩:=p;refine aL e λx q e=>?_;cases Vo e;obtain⟨_,vs,k,g,r⟩:=R.aI n _ q;exact⟨_,vs,k,rfl,g,r⟩
 |ax n=>
  obtain⟨p1,rfl⟩:=p;refine aL e λx q e=>?_;cases Vq e;obtain⟨_,vs,k,g,r⟩:=R.ax n _ q;exact⟨_,vs,k,rfl,g,r⟩
theorem nH(R:Rep T ρ L σ h){v:PV}{u:Value}{l:List D}(p:cv T ρ L v u)(e:σ.ph v=some (.tup l)):∃a vs,u= .ref a/\h.get? a=some (lN vs)/\dA T.P T.cl ρ l vs.toList:=by
 cases v with
 |d x=>
  simp! [nU]at e;subst e
  have p:VR T.P T.cl ρ (.tup l) u:=p;obtain⟨a,vs,rfl,i,r⟩:=p;exact⟨a,vs,rfl,R.bA i,r⟩
 |aI n=>obtain⟨x,_,e⟩:=fH e;cases x<;>cases e
 |ax n=>obtain⟨x,_,e⟩:=fH e;cases x<;>cases e
theorem gN(R:Rep T ρ L σ h){v:PV}{u:Value}{l:List (D×D)}(p:cv T ρ L v u)(e:σ.ph v=some (.gP l)):∃a es k,u= .ref a/\h.get? a=some (eV es k)/\gc T.P T.cl ρ l es.toList/\a≠sysModules/\kf l:=by
 cases v with
 |d x=>
  simp! [nU]at e;subst e
  have p:VR T.P T.cl ρ (.gP l) u:=p;obtain⟨a,es,n,zq51,i,r,z⟩:=p;rw[zq51];exact⟨a,es,n,rfl,R.bA i,r,z⟩
 |aI n=>
  obtain⟨p1,rfl⟩:=p;refine aL e λx q e=>?_;cases Vp e;obtain⟨_,z,es,k,g,r⟩:=R.aI n _ q;exact⟨_,es,k,rfl,g,r,z⟩
 |ax n=>
  obtain⟨p1,rfl⟩:=p;refine aL e λx q e=>?_;cases Vr e;obtain⟨_,z,es,k,g,r⟩:=R.ax n _ q;exact⟨_,es,k,rfl,g,r,z⟩
theorem pF(R:Rep T ρ L σ h){v:PV}{u:Value}{x:D}(p:cv T ρ L v u)(e:σ.ph v=some x)(hl:∀l,x≠.lst l)(hd:∀l,x≠.gP l):VR T.P T.cl ρ x u:=by
 cases v with
 |d y=>simp! [nU]at e;subst e;exact p
 |aI n=>
  refine aL e λy _ e=>?_;cases y<;>cases e
  ·exact absurd rfl (hl _)
  ·exact absurd rfl (hd _)
 |ax n=>
  refine aL e λy _ e=>?_;cases y<;>cases e
  ·exact absurd rfl (hl _)
  ·exact absurd rfl (hd _)
theorem Rep.nJ(R:Rep T ρ L σ h):∀a o,ρ a= .bA o->h.get? a=some o:=λa o e=>R.bA e
theorem kM(R:Rep T ρ L σ h){v:PV}{u:Value}{x:D}(p:cv T ρ L v u)(e:σ.ph v=some x):RD T.P T.cl h x u:=by
 cases x with
 |lst l=>
  obtain⟨a,vs,k,zq83,g,r⟩:=eg R p e;rw[zq83];exact⟨a,vs,k,rfl,g,dA.rd R.nJ r⟩
 |gP l=>
  obtain⟨a,es,k,zq87,g,r,z⟩:=gN R p e;rw[zq87];exact⟨a,es,k,rfl,g,gc.rd R.nJ r,z⟩
 |_=>exact VR.rd R.nJ (pF R p e (λl z=>by cases z) (λl z=>by cases z))
end
theorem gE{h:Heap}{a:Addr}{vs:Array Value}{k:Nat}(g:h.get? a=some (gT vs k)):h.IsList a vs:=⟨_,g,rfl,k,rfl⟩
theorem mv{h:Heap}{a:Addr}{vs:Array Value}(g:h.get? a=some (lN vs)):h.IsTuple a vs:=⟨_,g,rfl,0,rfl⟩
theorem rI{h:Heap}{a:Addr}{vs:Array Value}(g:h.get? a=some (lN vs)):IsTup h a vs:=⟨_,g,rfl,0,rfl⟩
theorem dA.at{P:Params}{cl:Nat->Addr}{ρ:bU}{l:List D}{vs:Array Value}(r:dA P cl ρ l vs.toList){i:Nat}{x:D}(e:l[i]?=some x):∃v,vs[i]?=some v/\VR P cl ρ x v:=by obtain⟨v,h1,h2⟩:=r.get e;exact⟨v,by rw[<-h1];simp,h2⟩
theorem dA.size{P:Params}{cl:Nat->Addr}{ρ:bU}{l:List D}{vs:Array Value}(r:dA P cl ρ l vs.toList):vs.size=l.length:=by rw[r.length,Array.length_toList]
theorem Vs(slice:Expr)(o i:Value):∃ops,subscripted slice false o i=operate ops (getItem o i):=by
 cases slice<;>first|exact⟨_,rfl⟩|skip
 rename_i a b st p;cases st<;>exact⟨_,rfl⟩
section
variable{E:Value->Shared->Prop}{T:bj}{ρ:bU}{L:Lo}{σ:PS}
theorem xj{i:Int}(h:small i=true):-(2^63)<=i/\i<2^63:=by have h:=nY.mp h;unfold big at h;exact⟨Int.le_of_lt (Int.lt_of_le_of_lt (by decide+kernel) h.1),Int.lt_trans h.2 (by decide+kernel)⟩
theorem OD(ok:dF T w)(R:Rep T ρ L σ s.heap)(hu:A.units+100<cLine){o i r:PV}{ou iu:Value}(po:cv T ρ L o ou)(pi:cv T ρ L i iu)(e:σ.v7 o i=some r){value slice:Expr}
  {Q:Value->Shared->Prop} (h:∀u t,cv T ρ L r u->Q u {s with toks:=t}): ~~~(subscriptTail value slice ou iu) Q E s:=by
 obtain⟨ops,hs⟩:=Vs slice ou iu;cases i with
 |aI _=>cases e
 |ax _=>cases e
 |d k=>
 refine aL e λc q e=>?_;cases c with
 |tup l=>
  cases k with
  |int j=>
   refine dM e λsm e=>?_;obtain⟨a,vs,rfl,g,rr⟩:=nH R po q;obtain⟨s1,s2⟩:=xj sm;have pi:=pi;obtain⟨t,rfl⟩:=pi;have fin:∀(k:Nat) (x:D),l[k]?=some x->seqIndex? j vs.size=some k->r= .d x->~~~(subscriptTail value slice (.ref a) (.int j t)) Q E s:=λk x h1 h2 h3=>by obtain⟨v,h4,h5⟩:=rr.at h1;exact tail_any (T:="tuple") ⟨_,g,rfl⟩ slot_tuple_getitem.lookup (getItem_tuple (rI g) s1 s2 h2 h4 (by have:=h v s.toks (by rw[h3];exact h5);exact this)) hs
   by_cases nn:0<=j
   ·rw[eM nn]at e;refine aL e λx h1 h2=>?_;cases h2;have sr:=(fX.mp h1).1;refine fin _ x h1 ?_ rfl;unfold seqIndex?;rw[rr.size];have:¬j<0:=Int.not_lt.mpr nn;simp only[this,if_false];have:¬((decide (j<0)||decide (j>=↑l.length))=true):=by simp;omega
    first
     |rw[if_neg this]
     |(simp;omega)
   ·rw[dS nn]at e;refine dM e λmm e=>?_;have mm:=of_decide_eq_true mm;refine aL e λx h1 h2=>?_;cases h2;have sr:=(fX.mp h1).1;refine fin _ x h1 ?_ rfl;unfold seqIndex?;rw[rr.size];have:j<0:=by omega
    simp only[this,if_true];first
     |(rw[if_neg (by simp;omega)])
     |(simp;omega)
  |_=>cases e
 |lst l=>
  cases k with
  |int j=>
   refine dM e λsm e=>?_;refine aL e λx h1 h2=>?_;cases h2;obtain⟨a,vs,k,rfl,g,rr⟩:=eg R po q;rw[bx,dK]at sm;obtain⟨s1,s2⟩:=xj sm.1;have pi:VR T.P T.cl ρ (.int j) iu:=pi;obtain⟨t,rfl⟩:=pi;obtain⟨v,h4,h5⟩:=rr.at h1;exact tail_any (T:="list") ⟨_,g,rfl⟩ slot_list_getitem.lookup (wpAny_getItem_list (gE g) sm.2 s2 h4 (by have:=h v s.toks h5;exact this)) hs
  |_=>cases e
 |gP l=>
  refine dM e λdk e=>?_;refine aL e λx h1 h2=>?_;cases h2;obtain⟨a,es,n,rfl,g,rr,hn,hk⟩:=gN R po q;refine tail_any (T:="dict") ⟨_,g,rfl⟩ PySem.slot_dict_getitem.lookup (Ask.item (cl:=T.cl) (ρ:=ρ) (l:=l) (k:=k) ⟨R.nJ,by omega,g,ok.P▸rr,hk,dk,ok.P▸pi,hn⟩ (by omega) h1 λv t hv=>?_) hs;exact h v t (by rw[<-ok.P]at hv;exact hv)
 |_=>cases e
end
section
variable{T:bj}{ρ:bU}{L:Lo}{σ aN:PS}{h h':Heap}
theorem mw{v:PV}{l:List D}(e:σ.listOf v=some l):σ.ph v=some (.lst l):=by
 cases v with
 |d x=>cases x<;>cases e;rfl
 |aI n=>obtain⟨x,q,e⟩:=fH e;cases LF e;show ai toD _=_;rw[q];rfl
 |ax n=>obtain⟨x,q,e⟩:=fH e;cases LG e;show ai HD _=_;rw[q];rfl
theorem mx{v:PV}{l:List (D×D)}(e:σ.dictOf v=some l):σ.ph v=some (.gP l):=by
 cases v with
 |d x=>cases x<;>cases e;rfl
 |aI n=>obtain⟨x,q,e⟩:=fH e;cases LH e;show ai toD _=_;rw[q];rfl
 |ax n=>obtain⟨x,q,e⟩:=fH e;cases LI e;show ai HD _=_;rw[q];rfl
theorem kN(R:Rep T ρ L σ h){v:PV}{a:Addr}{l':List D}{vs:Array Value}{k:Nat}(p:cv T ρ L v (.ref a))(e:σ.lb l' v=some aN)(g:h'.get? a=some (gT vs k))(r:dA T.P T.cl ρ l' vs.toList)
  (s:Heap.ExtBut a h h'):Rep T ρ L aN h':=by
 cases v with
 |d x=>cases e
 |aI n=>
  obtain⟨p1,p2⟩:=p;cases p2;refine aL e λl q e=>?_;refine aL q λx q e2=>?_;cases LF e2;cases e;obtain⟨ow,_⟩:=R.aI n _ q;exact R.Ga q ow s ⟨_,g⟩ ⟨ow,vs,k,g,r⟩
 |ax n=>
  obtain⟨p1,p2⟩:=p;cases p2;refine aL e λl q e=>?_;refine aL q λx q e2=>?_;cases LG e2;cases e;obtain⟨ow,_⟩:=R.ax n _ q;exact R.yM q (.inl rfl) ow s ⟨_,g⟩ ⟨ow,vs,k,g,r⟩
theorem pG(R:Rep T ρ L σ h){v:PV}{a:Addr}{l':List (D×D)}{es:Array DictEntry}{k:Nat}(p:cv T ρ L v (.ref a))(e:σ.ur l' v=some aN)(ok:kf l')(g:h'.get? a=some (eV es k))(r:gc T.P T.cl ρ l' es.toList)
  (s:Heap.ExtBut a h h'):Rep T ρ L aN h':=by
 cases v with
 |d x=>cases e
 |aI n=>
  obtain⟨p1,p2⟩:=p;cases p2;refine aL e λl q e=>?_;refine aL q λx q e2=>?_;cases LH e2;cases e;obtain⟨ow,z,_⟩:=R.aI n _ q;exact R.Ga q ow s ⟨_,g⟩ ⟨ow,⟨z.1,ok⟩,es,k,g,r⟩
 |ax n=>
  obtain⟨p1,p2⟩:=p;cases p2;refine aL e λl q e=>?_;refine aL q λx q e2=>?_;cases LI e2;cases e;obtain⟨ow,z,_⟩:=R.ax n _ q;exact R.yM q (.inl rfl) ow s ⟨_,g⟩ ⟨ow,⟨z.1,ok⟩,es,k,g,r⟩
theorem jz(R:Rep T ρ L σ h){l:List D}{vs:Array Value}{k:Nat}{a:Addr}{v:PV}(f:ρ a= .free)(kp:∀b o,b≠a->ρ b≠.free->h.get? b=some o->h'.get? b=some o)(g:h'.get? a=some (gT vs k))
  (r:dA T.P T.cl ρ l vs.toList) (e:σ.sP l=some (v,aN)):∃aJ L',gf ρ aJ/\L.le L'/\Rep T aJ L' aN h'/\cv T aJ L' v (.ref a):=by
 cases (fj e).2;obtain⟨L',l1,l2,l3,l4,l5⟩:=R.F_ (t:= .list l) f kp g λL' hL=>⟨by rw[hL,aO],vs,k,by rw[hL];exact g,dA.mono (dQ f).bA r⟩;exact⟨_,L',l5,l1,l4,by show σ.tm.length<L'.nt/\_;rw[l3];exact⟨Nat.lt_succ_self _,by rw[l2]⟩⟩
theorem xl(R:Rep T ρ L σ h){l:List (D×D)}{es:Array DictEntry}{k:Nat}{a:Addr}{v:PV}(f:ρ a= .free)(kp:∀b o,b≠a->ρ b≠.free->h.get? b=some o->h'.get? b=some o)(g:h'.get? a=some (eV es k))
  (r:gc T.P T.cl ρ l es.toList) (ok:kf l) (ns:a≠sysModules) (e:σ.newD l=some (v,aN)):∃aJ L',gf ρ aJ/\L.le L'/\Rep T aJ L' aN h'/\cv T aJ L' v (.ref a):=by
 cases e;obtain⟨L',l1,l2,l3,l4,l5⟩:=R.F_ (t:= .dict l) f kp g λL' hL=>⟨by rw[hL,aO],⟨by rw[hL];exact ns,ok⟩,es,k,by rw[hL];exact g,gc.mono (dQ f).bA r⟩;exact⟨_,L',l5,l1,l4,by show σ.tm.length<L'.nt/\_;rw[l3];exact⟨Nat.lt_succ_self _,by rw[l2]⟩⟩
theorem nK(R:Rep T ρ L σ h){l:List D}{vs:Array Value}{a:Addr}(f:ρ a= .free)(kp:∀b o,b≠a->ρ b≠.free->h.get? b=some o->h'.get? b=some o)(g:h'.get? a=some (lN vs))
  (r:dA T.P T.cl ρ l vs.toList):∃aJ,gf ρ aJ/\Rep T aJ L σ h'/\cv T aJ L (.d (.tup l)) (.ref a):=by
 refine⟨up ρ a (.bA (lN vs)),dQ f,R.takes (.inl f) kp g,?_⟩;show VR _ _ _ (.tup l) (.ref a);exact⟨a,vs,rfl,aO,dA.mono (dQ f).bA r⟩
theorem iC(R:Rep T ρ L σ h){v:PV}{u:Value}{x:D}(p:cv T ρ L v u)(e:σ.freeze v=some (x,aN)):∃aJ,gf ρ aJ/\Rep T aJ L aN h/\VR T.P T.cl aJ x u:=by
 cases v with
 |d y=>cases e;exact⟨ρ,.refl,R,p⟩
 |ax n=>cases e
 |aI n=>
  obtain⟨p1,rfl⟩:=p;refine aL e λy q e=>?_;cases y with
  |dead=>cases e
  |list l=>
   cases e;obtain⟨ow,vs,k,g,r⟩:=R.aI n _ q;obtain⟨R',le⟩:=R.tO q ow g;exact⟨_,le,R',by exact⟨_,vs,k,rfl,aO,dA.mono le.bA r⟩⟩
  |dict l=>
   cases e;obtain⟨ow,z,es,k,g,r⟩:=R.aI n _ q;obtain⟨R',le⟩:=R.tO q ow g;exact⟨_,le,R',by exact⟨_,es,k,rfl,aO,gc.mono le.bA r,z⟩⟩
@[reducible] def gF (T:bj) (ρ:bU) (L:Lo):List PV->List Value->Prop
 |[],[]=>True
 |x::r,v::t=>cv T ρ L x v/\gF T ρ L r t
 |_,_=>False
theorem gF.mono{aJ:bU}{L':Lo}(k:bf ρ aJ)(l:L.le L'):∀{xs:List PV} {vs:List Value},gF T ρ L xs vs->gF T aJ L' xs vs
 |[],[],_=>trivial
 |x::r,v::t,h=>⟨cv.mono k l h.1,gF.mono k l h.2⟩
 |[],_::_,h=>h.elim
 |_::_,[],h=>h.elim
theorem gF.length:∀{xs:List PV} {vs:List Value},gF T ρ L xs vs->xs.length=vs.length
 |[],[],_=>rfl
 |x::r,v::t,h=>by simp[gF.length h.2]
 |[],_::_,h=>h.elim
 |_::_,[],h=>h.elim
theorem kO{xs:List PV}:∀{vs:List Value} {ys:List D} {σ aN:PS} {ρ:bU},Rep T ρ L σ h->gF T ρ L xs vs->σ.k_ xs=some (ys,aN)->∃aJ,gf ρ aJ/\Rep T aJ L aN h/\dA T.P T.cl aJ ys vs:=by
 induction xs with
 |nil=>
  intro vs ys σ aN ρ R p e;rcases vs with _|⟨v,t⟩
  ·cases e;exact⟨ρ,.refl,R,trivial⟩
  ·exact p.elim
 |cons x r ih=>
  intro vs ys σ aN ρ R p e;rcases vs with _|⟨v,t⟩
  ·exact p.elim
  refine aF e λy aj q e=>?_;refine aF e λzs aM q2 e=>?_;cases e;obtain⟨ao,a1,a2,a3⟩:=iC R p.1 q;obtain⟨aY,b1,b2,b3⟩:=ih a2 (gF.mono a1.bA .refl p.2) q2;exact⟨aY,a1.trans b1,b2,by exact⟨VR.mono b1.bA a3,b3⟩⟩
end
theorem kP{T:bj}{ρ:bU}{L:Lo}:cv T ρ L (.d .none) .none:=by show VR _ _ _ _ _;rfl
theorem rJ{T:bj}{ρ:bU}{L:Lo}{b:Bool}:cv T ρ L (.d (.bool b)) (.bool b):=by show VR _ _ _ _ _;rfl
theorem jX{T:bj}{ρ:bU}{L:Lo}{i:Int}{t:Tok}:cv T ρ L (.d (.int i)) (.int i t):=by show VR _ _ _ _ _;exact⟨t,rfl⟩
theorem yO{h:Heap}{a:Addr}(hs:∃o,h.get? sysModules=some o)(f:h.get? a=none):a≠sysModules:=by rintro rfl;obtain⟨o,e⟩:=hs;rw[e]at f;cases f
section
variable{E:Value->Shared->Prop}{T:bj}{ρ:bU}{L:Lo}{σ aN:PS}
theorem dG:(1000000:Nat)+2<=sizeLine:=by decide
theorem Gj(R:Rep T ρ L σ s.heap){v:PV}{a:Addr}{l:List D}{x:D}{u:Value}(p:cv T ρ L v (.ref a))(e:σ.listOf v=some l)(hf:fits l=true)(e':σ.lb (l++[x]) v=some aN)(hx:VR T.P T.cl ρ x u)
  {Q:Value->Shared->Prop} (h:∀s',jV T ρ L s (.d .none) aN .none s'->Q .none s'): ~~~(call (.builtin "list.append") [.ref a,u]) Q E s:=by
 obtain⟨b,vs,k,hb,g,r⟩:=eg R p (mw e);cases hb;refine wpAny_list_append_plain ⟨k,g⟩ (λh' pl sb=>?_) (by rw[r.size];have:=dh hf;have:=dG;lia);obtain⟨k',g'⟩:=pl;refine h _ (.eU (kN R p e' g' ?_ sb.extBut) ⟨_,_,rfl⟩ kP);rw[Array.toList_push];refine r.append ?_;exact⟨hx,trivial⟩
theorem Vt(R:Rep T ρ L σ s.heap){v:PV}{a:Addr}{l:List D}{x:D}(p:cv T ρ L v (.ref a))(e:σ.listOf v=some l)(hf:fits l=true)(hx:l.getLast?=some x)(e':σ.lb l.dropLast v=some aN)
  {Q:Value->Shared->Prop} (h:∀u s',jV T ρ L s (.d x) aN u s'->Q u s'): ~~~(call (.builtin "list.pop") [.ref a]) Q E s:=by
 obtain⟨b,vs,k,hb,g,r⟩:=eg R p (mw e);cases hb;have hs:=r.size;rw[List.getLast?_eq_getElem?]at hx;obtain⟨u,hu,hr⟩:=r.at hx;have hz:vs.size<=sizeLine:=by rw[hs];have:=dh hf;have:=dG;lia
 refine call_meets PySem.F.slot_list_pop ⟨_,g,rfl⟩ PySem.F.entry_list_pop (PySem.F.args_list_pop_1 _) (MeetsSeq.list_pop_last a vs k u (by rw[hs];exact hu) hz) ⟨g,?_⟩;have g':=get?_update_seq g (λxs=>xs.eraseIdxIfInBounds (vs.size-1));refine h _ _ (.eU (kN R p e' g' ?_ (Heap.SameBut.update ..).extBut) ⟨_,_,rfl⟩ hr);have:(vs.eraseIdxIfInBounds (vs.size-1)).toList=vs.toList.take (l.length-1):=by
  obtain⟨vl⟩:=vs;have hs:vl.length=l.length:=hs;have:0<l.length:=by have:=(fX.mp hx).1;omega
  rw[<-hs,<-List.dropLast_eq_take];simp
 show dA _ _ _ l.dropLast (vs.eraseIdxIfInBounds (vs.size-1)).toList;rw[this,List.dropLast_eq_take];exact dA.take _ r
end
theorem o6{α:Type}(n:Nat):∀(l:List α) (k:Nat),((l.zipIdx k).filterMap λp:α×Nat=>if decide (n<=p.2)=true then none else some p.1)=l.take (n-k)
 |[],k=>by simp
 |a::r,k=>by
  rw[List.zipIdx_cons,List.filterMap_cons];by_cases h:n<=k
  ·have e:n-k=0:=Nat.sub_eq_zero_of_le h;simp only[h,decide_true,if_true];rw[o6 n r (k+1),e];have:n-(k+1)=0:=Nat.sub_eq_zero_of_le (Nat.le_succ_of_le h);rw[this];simp
  ·have h':decide (n<=k)=false:=dS h;simp only[h',vQ,if_false];rw[o6 n r (k+1)];have:n-k=(n-(k+1))+1:=oc1 (Nat.lt_of_not_le h);rw[this];rfl
theorem rK{α β:Type}{f g:α->Option β}:∀(l:List α),(∀x∈l,f x=g x)->l.filterMap f=l.filterMap g
 |[],_=>rfl
 |a::r,h=>by rw[List.filterMap_cons,List.filterMap_cons,h a (.head _),rK r λx hx=>h x (.tail _ hx)]
def sel(start stop step:Int)(i:Nat):Bool:=
 if step>0 then start<=i&&i<stop&&(i-start)%step==0
 else stop<i&&i<=start&&(start-i)%(-step)==0
theorem min_le{i:Int}{n p:Nat}(hp:p<n):min i (n:Int)<=p<->i<=p:=
 ⟨λh=>(Int.le_total i n).elim (λq=>Int.min_eq_left q▸h) λq=>absurd (Int.ofNat_le.mp (Int.min_eq_right q▸h)) (Nat.not_le_of_lt hp),λh=>Int.le_trans (Int.min_le_left ..) h⟩
theorem Gk{i:Int}{n p:Nat}(hp:p<n):sel (min i (n:Int)) n 1 p=decide (i.toNat<=p):=by have e:sel (min i (n:Int)) n 1 p=(decide (min i (n:Int)<=p)&&decide ((p:Int)<n)&&(((p:Int)-min i (n:Int))%1==0)):=rfl;rw[e,Int.emod_one,eM (pM.mpr hp),Bool.and_true,ja,bx,dK,dK,min_le hp,Int.toNat_le];exact⟨λh=>h.1,λh=>⟨h,rfl⟩⟩
theorem tR{items:Array Value}{i:Int}:(items.toList.zipIdx.filterMap λ(p:Value×Nat)=>if sel (min i (items.size:Int)) (items.size:Int) 1 p.2=true then none else some p.1)=items.toList.take i.toNat:=by
 refine(rK _ λp hp=>?_).trans (o6 i.toNat items.toList 0);have XE:p.2<items.size:=by have:=List.snd_lt_of_mem_zipIdx hp;simpa using this
 rw[Gk XE]
theorem xm{i:Int}{n:Nat}(hi:0<=i):sliceBounds (some i) none none n=(min i (n:Int),(n:Int),1):=by dsimp only[sliceBounds];have:¬i<0:=Int.not_lt.mpr hi;simp[this];exact Int.max_eq_right (Int.le_min.mpr ⟨hi,sG n⟩)
section
variable{E:Value->Shared->Prop}
set_option maxRecDepth 100000 in
theorem vg{l sl:Addr}{items:Array Value}{i:Int}{t:Tok}{n:Nat}{Q:Unit->Shared->Prop}(hl:s.heap.get? l=some (gT items n))(hi:0<=i)
  (hs:s.heap.IsSliceOf sl (.int i t) .none .none)
  (h:∀h' k,h'.get? l=some (gT (items.toList.take i.toNat).toArray k)->Heap.SameBut l s.heap h'->Q () {s with heap:=h'})
  (hsz:items.size<=sizeLine): ~~~(delItem (.ref l) (.ref sl)) Q E s:=by
 obtain⟨os,X8,RM,hds⟩:=id hs;have hTs:s.TypeIs (.ref sl) "slice":=⟨os,X8,RM⟩;have hT:s.TypeIs (.ref l) "list":=⟨_,hl,rfl⟩;unfold delItem;try with_reducible refine wpAny_holding ?_
 first|refine wpAny_bind (wpAny_pure ?_)|skip
 refine wpAny_bind (wpAny_sequenceKey hT (by decide) ?_);refine wpAny_bind (wpAny_callSpecial?_slot (name:=Str.ofString "__delitem__") hT PySem.F.slot_list_delitem
  (wpAny_call_entry PySem.F.slot_list_delitem hT PySem.F.entry_list_delitem ?_ (PySem.F.args_list_delitem_2 _ _)))
 show wpAny _ _ (Builtin.List.listSubscript? (.ref sl)>>=_) _ _ s;refine wpAny_bind ?_;refine wpAny_bind (wpAny_specialOf hTs slice_no_index ?_);refine wpAny_ite_true rfl (wpAny_pure ?_);show wpAny _ _ (typeOf (.ref sl)>>=_) _ _ s;refine wpAny_bind (wpAny_typeOf hTs ?_);refine wpAny_ite_false rfl ?_;rw[listSliceParts_eq];refine wpAny_bind (wpAny_bind (wpAny_field X8 hds (x:= .none) rfl (wpAny_bind (wpAny_listPart .none ?_))));refine wpAny_ite_false rfl ?_;refine wpAny_bind (wpAny_field X8 hds (x:= .int i t) rfl (wpAny_bind (wpAny_listPart (.int i t) ?_)));refine wpAny_bind (wpAny_field X8 hds (x:= .none) rfl (wpAny_bind (wpAny_listPart .none (wpAny_pure ?_))));refine wpAny_bind (listItems_at hl rfl ?_);refine wpAny_bind (wpAny_of_eq (sliceIndices_raw (some i) none none items.size (by decide)) ?_);rw[xm hi];show wpAny _ _ (rule "list.__delitem__.slice">>=_) _ _ s;refine wpAny_bind (wpAny_rule ?_);show wpAny _ _ (Builtin.List.listUpdate (.ref l) (λxs=>(xs.toList.zipIdx.filterMap λ(p:Value×Nat)=>if sel (min i (items.size:Int)) (items.size:Int) 1 p.2=true then none else some p.1).toArray)>>=_) _ _ s;refine wpAny_bind (listUpdate_at hl rfl ?_ hsz ?_)
 ·refine wpAny_bind (wpAny_letGo (wpAny_pure ⟨.none,rfl,wpAny_pure ?_⟩));have g:=get?_update_seq hl (λxs=>(xs.toList.zipIdx.filterMap λ(p:Value×Nat)=>if sel (min i (items.size:Int)) (items.size:Int) 1 p.2=true then none else some p.1).toArray);rw[tR]at g;exact h _ _ g (Heap.SameBut.update ..)
 ·rw[tR];rw[List.size_toArray,List.length_take,Array.length_toList];exact Nat.le_succ_of_le (bw (Nat.min_le_right _ _) hsz)
end
theorem gG{prog:Program}{w:World}{A:Around}{I:Addr}{fp wr:List Addr}{n:Nat}{P P':Nat->Value->Prop}{St:Nat->Heap->Prop}(W:Walks prog w A I fp wr n P St)(h:∀i v,i<n->P i v->P' i v):Walks prog w A I fp wr n P' St:=
 ⟨W.sub,W.frame,λi s Q E hi st hQ=>W.item i s Q E hi st λv h' tk p st' k=>hQ v h' tk (h i v hi p) st' k,W.done,W.self⟩
section
variable{cl:Nat->Addr}{ρ:bU}
def X9:D->Int
 | .int i=>i
 |_=>0
def X_:D->List Nat
 | .str i=>i
 |_=>[]
theorem xn{k:D}(h:cy k=1):k= .int (X9 k):=by cases k<;>first|change h|rfl
theorem xo{k:D}(h:cy k=2):k= .str (X_ k):=by cases k<;>first|change h|rfl
section
variable{K:Type}{f:D->K}
def X'(f:D->K)(l:List (D×D))(es:List DictEntry):List (K×Value):=List.zipWith (λp e=>(f p.1,e.val)) l es
theorem Av:∀{l:List (D×D)} {es:List DictEntry},gc w.params cl ρ l es->(X' f l es).map (·.1)=l.map λp=>f p.1
 |[],[],_=>rfl
 |(k,x)::r,e::t,q=>congrArg (f k::·) (Av q.2)
 |[],_::_,q=>q.elim
 |(_,_)::_,[],q=>q.elim
variable [DecidableEq K] {knd:KeyKind prog w K}{c:Nat}
theorem tT(a1:∀k u,cy k=c->VR w.params cl ρ k u->knd.is (f k) u=true):∀{l:List (D×D)} {es:List DictEntry},gc w.params cl ρ l es->(∀p∈l,cy p.1=c)->Pairs knd es (X' f l es)
 |[],[],_,_=> .nil
 |(k,x)::r,e::t,q,hk=> .cons (a1 _ _ (hk _ (.head _)) q.1.2.1) rfl (tT a1 q.2 λp hp=>hk p (.tail _ hp))
 |[],_::_,q,_=>q.elim
 |(_,_)::_,[],q,_=>q.elim
end
inductive yP (prog:Program) (w:World) (cl:Nat->Addr) (ρ:bU) (h:Heap) (d:Addr) (n:Nat) (l:List (D×D)):Prop
 |mk (K:Type) (dec:DecidableEq K) (knd:KeyKind prog w K) (kv:List (K×Value)) (D:h.DictAt knd d kv n) (len:kv.length=l.length)
   (key:∀(i:Nat) (x:K×Value) (v:Value),kv[i]?=some x->knd.is x.1 v=true->∃k,(l.map (·.1))[i]?=some k/\VR w.params cl ρ k v):yP prog w cl ρ h d n l
theorem Aw{K:Type} [dec:DecidableEq K] (knd:KeyKind prog w K)(f:D->K){c:Nat}(a1:∀k u,cy k=c->VR w.params cl ρ k u->knd.is (f k) u=true)(a2:∀k,cy k=c->i7 w.params k=knd.hash (f k))
  (a3:∀k k',cy k=c->cy k'=c->f k=f k'->k=k') (a4:∀k u v,cy k=c->VR w.params cl ρ k u->knd.is (f k) v=true->VR w.params cl ρ k v)
  {h:Heap} {d:Addr} {es:Array DictEntry} {n:Nat} {l:List (D×D)} (g:h.get? d=some (eV es n)) (q:gc w.params cl ρ l es.toList) (ok:kf l) (hk:∀p∈l,cy p.1=c):yP prog w cl ρ h d n l:=by
 have mp:=Av (f:=f) q;refine⟨K,dec,knd,X' f l es.toList,⟨_,es,g,⟨rfl,rfl,rfl⟩,rfl,λe he=>?_,tT a1 q hk,?_⟩,?_,λi x v h1 h2=>?_⟩
 ·obtain⟨i,hi⟩:=List.mem_iff_getElem?.mp (Array.mem_def.mp he);have hl:i<l.length:=by rw[q.length];exact(fX.mp hi).1
  obtain⟨e',h1,h2,h3,_⟩:=q.get (i:=i) (k:=(l[i]).1) (x:=(l[i]).2) (mJ hl);rw[hi]at h1;cases h1;have:=hk _ (List.getElem_mem hl);exact⟨f _,a1 _ _ this h3,h2.trans (a2 _ this)⟩
 ·rw[mp,List.Nodup,List.pairwise_map];exact(List.pairwise_map.mp ok.nodup).imp_of_mem λ{x y} hx hy n e=>n (a3 _ _ (hk x hx) (hk y hy) e)
 ·rw[<-eT (·.1),mp,eT]
 ·have:((X' f l es.toList).map (·.1))[i]?=some x.1:=by rw[pK,h1];rfl
  rw[mp,pK]at this;obtain⟨p,hp,e⟩:=Ex.mp this;obtain⟨e',_,_,hv,_⟩:=q.get (k:=p.1) (x:=p.2) hp;exact⟨p.1,by rw[pK,hp];rfl,a4 _ _ _ (hk p (qG hp)) hv (e▸h2)⟩
theorem BP{l:List (D×D)}(ok:kf l)(f:jk l=true):(∀p∈l,cy p.1=1)\/(∀p∈l,cy p.1=2):=by
 cases l with
 |nil=>exact .inl λp hp=>nomatch hp
 |cons p r=>
  have hp:=ok.key p (.head _);have f:=gY f;have:cy p.1=1\/cy p.1=2:=by cases q:p.1<;>rw[q]at f hp<;>first|(exact .inl rfl)|(exact .inr rfl)|(exact noB hp)|(exact absurd f (by show¬3<=2;omega))
  rcases this with h|h
  ·exact .inl λq hq=>(ok.kind q hq p (.head _)).trans h
  ·exact .inr λq hq=>(ok.kind q hq p (.head _)).trans h
theorem Ax{h:Heap}{d:Addr}{es:Array DictEntry}{n:Nat}{l:List (D×D)}(g:h.get? d=some (eV es n))(q:gc w.params cl ρ l es.toList)(ok:kf l)(f:jk l=true):yP prog w cl ρ h d n l:=by
 rcases BP ok f with hk|hk
 ·refine Aw (intKind prog w) X9 (λk u e q=>?_) (λk e=>?_) (λk k' e e' h=>by rw[xn e,xn e',h]) (λk u v e q g=>?_) g q ok hk
  ·rw[xn e]at q;obtain⟨t,rfl⟩:=q;show Value.isInt (X9 k) (.int (X9 k) t)=true;simp[Value.isInt]
  ·rw[xn e];exact lB _ _
  ·obtain⟨t,rfl⟩:=Value.isInt_shape g;rw[xn e];exact⟨t,rfl⟩
 ·refine Aw (strKind prog w) (λk=>nB (X_ k)) (λk u e q=>?_) (λk e=>?_) (λk k' e e' h=>?_) (λk u v e q g=>?_) g q ok hk
  ·rw[xo e]at q;obtain⟨t,rfl,_⟩:=q;show Value.isStrOf (nB (X_ k)) (.str (nB (X_ k)) t)=true;simp[Value.isStrOf]
  ·rw[xo e];rfl
  ·rw[xo e,xo e'];injection h with h;injection h with h;rw[h]
  ·obtain⟨t,rfl⟩:=Value.isStrOf_shape g;rw[xo e]at q⊢;obtain⟨_,_,o⟩:=q;exact⟨t,rfl,o⟩
def Gl:Value->Bool
 | .type n=>!(["enumerate","zip","dict_itemiterator","dict_reverseitemiterator","odict_iterator","itertools.zip_longest","itertools.pairwise"].contains n)
 |_=>false
structure Iter (prog:Program) (w:World) (A:Around) (P:Params) (cl:Nat->Addr) (ρ:bU) (items:List D) (I:Addr) (fp:List Addr) (h:Heap):Prop where
 ex:∃St:Nat->Heap->Prop,Walks prog w A I fp [I] items.length (λi v=>∃x,items[i]?=some x/\VR P cl ρ x v) St/\St 0 h/\∀i h,St i h->∃o,h.get? I=some o/\Gl o.cls=true
variable{E:Value->Shared->Prop}
theorem tU(hh:A.handled=none){d:Addr}{es:Array DictEntry}{n:Nat}{l:List (D×D)}(g:s.heap.get? d=some (eV es n))(q:gc w.params cl ρ l es.toList)(ok:kf l)(f:jk l=true)(ns:d≠sysModules)
  {Q:Value->Shared->Prop} (h:∀o,o.isFreed=false->(∀A',A'.handled=none->Iter prog w A' w.params cl ρ (l.map (·.1)) s.heap.objs.size [s.heap.objs.size,d] (s.heap.push o))->Q (.ref s.heap.objs.size) {s with heap:=s.heap.push o}):
  ~~~(pyIter (.ref d)) Q E s:=by
 have Vu:d≠s.heap.objs.size:=Nat.ne_of_lt (Heap.lt_size g);obtain⟨K,dec,knd,kv,D,len,key⟩:=Ax (prog:=prog) g q ok f;refine wpAny_pyIter_dict (qz ns) D (h _ rfl λA' OE=>?_);refine⟨⟨λi h=>h.IsKeyIter s.heap.objs.size d i kv.length n/\h.DictAt knd d kv n,?_,⟨⟨_,Heap.get?_push_size _ rfl,rfl,rfl⟩,D.push _⟩,λi h x=>let ⟨o,ho,hc,_⟩:=x.1;⟨o,ho,by rw[hc];decide⟩⟩⟩;rw[eT,<-len];exact gG (Walks.dictKeys OE s.heap.objs.size d Vu kv n) λi v _ ⟨k,x,h1,h2⟩=>key i (k,x) v h1 h2
theorem BQ(hh:A.handled=none){a:Addr}{vs:Array Value}{n:Nat}{l:List D}(g:s.heap.get? a=some (gT vs n))(q:dA w.params cl ρ l vs.toList)
  {Q:Value->Shared->Prop} (h:∀o,o.isFreed=false->(∀A',A'.handled=none->Iter prog w A' w.params cl ρ l s.heap.objs.size [s.heap.objs.size,a] (s.heap.push o))->Q (.ref s.heap.objs.size) {s with heap:=s.heap.push o}):
  ~~~(pyIter (.ref a)) Q E s:=by
 have Vu:a≠s.heap.objs.size:=Nat.ne_of_lt (Heap.lt_size g);refine wpAny_pyIter_list (gE g) ?_;refine h _ ?_ ?_
 ·rfl
 intro A' OE;refine⟨⟨λi h=>h.IsListIter s.heap.objs.size a i/\h.IsList a vs,?_,⟨⟨_,Heap.get?_push_size _ rfl,rfl,rfl⟩,(gE g).push _⟩,λi h x=>let ⟨o,ho,hc,_⟩:=x.1;⟨o,ho,by rw[hc];decide⟩⟩⟩;rw[<-q.size];refine gG (Walks.list OE s.heap.objs.size a Vu vs) ?_;intro i v _ h1;have hi:i<l.length:=by rw[<-q.size];exact(Array.getElem?_eq_some_iff.mp h1).1
 obtain⟨v',h2,h3⟩:=q.at (mJ hi);rw[h1]at h2;cases h2;exact⟨_,mJ hi,h3⟩
theorem iter_tuple(hh:A.handled=none){a:Addr}{vs:Array Value}{l:List D}(g:s.heap.get? a=some (lN vs))(q:dA w.params cl ρ l vs.toList)
  {Q:Value->Shared->Prop} (h:∀o,o.isFreed=false->(∀A',A'.handled=none->Iter prog w A' w.params cl ρ l s.heap.objs.size [s.heap.objs.size,a] (s.heap.push o))->Q (.ref s.heap.objs.size) {s with heap:=s.heap.push o}):
  ~~~(pyIter (.ref a)) Q E s:=by
 have Vu:a≠s.heap.objs.size:=Nat.ne_of_lt (Heap.lt_size g);refine wpAny_pyIter_tuple (mv g) ?_;refine h _ ?_ ?_
 ·rfl
 intro A' OE;refine⟨⟨λi h=>h.IsTupleIter s.heap.objs.size a i/\h.IsTuple a vs,?_,⟨⟨_,Heap.get?_push_size _ rfl,rfl,rfl⟩,mv (Heap.get?_push_of_some _ g)⟩,λi h x=>let ⟨o,ho,hc,_⟩:=x.1;⟨o,ho,by rw[hc];decide⟩⟩⟩;rw[<-q.size];refine gG (Walks.tuple OE s.heap.objs.size a Vu vs) ?_;intro i v _ h1;have hi:i<l.length:=by rw[<-q.size];exact(Array.getElem?_eq_some_iff.mp h1).1
 obtain⟨v',h2,h3⟩:=q.at (mJ hi);rw[h1]at h2;cases h2;exact⟨_,mJ hi,h3⟩
theorem yQ(hh:A.handled=none){a:Addr}{n:Int}{t u v:Tok}(g:s.heap.get? a=some (F9 n t u v))(h0:0<=n)(h1:n<1000000)
  {Q:Value->Shared->Prop} (h:∀o,o.isFreed=false->(∀A',A'.handled=none->Iter prog w A' w.params cl ρ ((List.range n.toNat).map λ(i:Nat)=>D.int i) s.heap.objs.size [s.heap.objs.size] (s.heap.push o))->Q (.ref s.heap.objs.size) {s with heap:=s.heap.push o}):
  ~~~(pyIter (.ref a)) Q E s:=by
 refine wpAny_pyIter_range (a:=0) (b:=n) (c:=1) g (small_one (by decide) (by decide) (by omega) (by omega)) ?_;refine h _ ?_ ?_
 ·rfl
 intro A' OE;have hs:Builtin.Range.rangeSize 0 n 1=(n.toNat:Int):=by unfold Builtin.Range.rangeSize;simp;omega
 refine⟨⟨λi h=>IsRangeIter h s.heap.objs.size (0+(i:Int)*1) ((n.toNat:Int)-i) 1,?_,?_,λi h x=>⟨_,x,(by decide:Gl (.type "range_iterator")=true)⟩⟩⟩
 ·rw[eT,List.length_range];refine gG (Walks.range (prog:=prog) (w:=w) OE s.heap.objs.size 0 1 n.toNat) ?_;rintro i v hi ⟨t,rfl⟩;refine⟨.int i,by rw[pK,List.getElem?_range hi];rfl,?_⟩;exact⟨t,by rw[show(0:Int)+(i:Int)*1=i by omega]⟩
 ·have:=Heap.get?_push_size s.heap (o:={cls:= .type "range_iterator",data:= .fields #[rawInt 0,rawInt (Builtin.Range.rangeSize 0 n 1),rawInt 1]}) rfl;rw[hs]at this⊢;exact this
end
section
variable{E:Value->Shared->Prop}{T:bj}{ρ:bU}{L:Lo}{σ aN:PS}
theorem Ay{α:Type}{l:List α}{n:Nat}(h:fits l=true)(e:n=l.length):(n:Int)<2^63:=Int.lt_of_le_of_lt (Int.ofNat_le.mpr (bw (sM e) (dh h))) (show((1000000:Nat):Int)<2^63 by decide+kernel)
theorem bV{i:Int}{u:Value}(h:cv T ρ L (.d (.int i)) u):∃t,u= .int i t:=by have h:=h;exact h
theorem iD{P:Params}{cl:Nat->Addr}{i:Int}{u:Value}(h:VR P cl ρ (.int i) u):∃t,u= .int i t:=by exact h
theorem OF{P:Params}{cl:Nat->Addr}{i:Int}{t:Tok}:VR P cl ρ (.int i) (.int i t):=by exact⟨t,rfl⟩
theorem lD(R:Rep T ρ L σ s.heap){v:PV}{u:Value}{b:Bool}(p:cv T ρ L v u)(e:σ.truth v=some b){Q:Bool->Shared->Prop}(h:∀t,Q b {s with toks:=t}):
  ~~~(truthy u) Q E s:=by
 refine aL e λx q e=>?_;cases x<;>first|change e|skip
 ·cases e;have:=pF R p q (λ_ z=>by cases z) (λ_ z=>by cases z);subst this;exact wpAny_pure (by have:=h s.toks;exact this)
 ·cases e;have:=pF R p q (λ_ z=>by cases z) (λ_ z=>by cases z);subst this;exact wpAny_truthy_bool (by have:=h s.toks;exact this)
 ·rename_i i;cases e;obtain⟨t,zq32⟩:=iD (pF R p q (λ_ z=>by cases z) (λ_ z=>by cases z));rw[zq32];have e:(!(i==0))=(i !=0):=rfl;rw[e]at h;exact PySem.P.truthy_int (h s.toks)
 ·rename_i l;refine dM e λhf e=>?_;cases e;obtain⟨a,vs,k,zq40,g,r⟩:=eg R p q;rw[zq40];refine wpAny_truthy_list (gE g) (Ay hf r.size) ?_;have e:(!vs.isEmpty)=!l.isEmpty:=by have:=r.size;unfold Array.isEmpty;rw[this];cases l<;>simp
  rw[e];exact h _
theorem Vv(R:Rep T ρ L σ s.heap)(hP:T.P=w.params){v r:PV}{u:Value}(p:cv T ρ L v u)(e:builtin .len v σ=some (r,aN)){Q:Value->Shared->Prop}(h:∀u s',jV T ρ L s r aN u s'->Q u s'):
  ~~~(call (.builtin "len") [u]) Q E s:=by
 refine aL e λc q e=>?_;cases c<;>first|change e|skip
 ·refine dM e λhf e=>?_;cases e;obtain⟨a,vs,rfl,g,rr⟩:=nH R p q;refine len_tuple (rI g) (Ay hf rr.size) ?_;rw[rr.size];exact h _ _ (.eU R ⟨_,_,rfl⟩ jX)
 ·refine dM e λhf e=>?_;cases e;obtain⟨a,vs,k,zq61,g,rr⟩:=eg R p q;rw[zq61];refine call_len_list (gE g) (Ay hf rr.size) ?_;rw[rr.size];exact h _ _ (.eU R ⟨_,_,rfl⟩ jX)
 ·refine dM e λhf e=>?_;rw[bx]at hf;cases e;obtain⟨a,es,k,zq69,g,rr,ns,ok⟩:=gN R p q;rw[zq69];obtain⟨K,dec,knd,kv,D,z,_⟩:=Ax (prog:=prog) g (hP▸rr) ok hf.2;refine call_len_dict (qz ns) D.dictOf (Ay hf.1 z) ?_;rw[z];exact h _ _ (.eU R ⟨_,_,rfl⟩ jX)
theorem Jq(R:Rep T ρ L σ s.heap){v r:PV}{u:Value}(p:cv T ρ L v u)(e:builtin .tuple v σ=some (r,aN)){Q:Value->Shared->Prop}(h:∀u s',jV T ρ L s r aN u s'->Q u s'):
  ~~~(call (.type "tuple") [u]) Q E s:=by
 refine aL e λc q e=>?_;cases c<;>first|change e|skip
 rename_i l;refine dM e λhf e=>?_;cases e;obtain⟨a,vs,k,zq82,g,rr⟩:=eg R p q;rw[zq82];refine call_tuple_list (gE g) (λh' kp=>?_) (by rw[rr.size];have:=dh hf;have:=dG;lia);have R':=R.heap λb o _ e=>kp b o e;obtain⟨aJ,x,y,z⟩:=nK (l:=l) (vs:=vs) (h':=h'.push (lN vs)) R' R'.new (λb o _ _ e=>Heap.get?_push_of_some _ e) (Heap.get?_push_size _ rfl) rr;exact h _ _ (.now x .refl y ⟨_,_,rfl⟩ z)
theorem Jr(R:Rep T ρ L σ s.heap){v r:PV}{u:Value}(p:cv T ρ L v u)(e:builtin .range v σ=some (r,aN)){Q:Value->Shared->Prop}(h:∀u s',jV T ρ L s r aN u s'->Q u s'):
  ~~~(call (.type "range") [u]) Q E s:=by
 cases v<;>first|change e|skip
 rename_i x;cases x<;>first|change e|skip
 rename_i n;cases (fj e).2;obtain⟨t,zq95⟩:=bV p;rw[zq95];refine call_range_1 ?_;obtain⟨R',le⟩:=R.yJ (F9 n s.toks t (s.toks+1));have pv:cv T (up ρ s.heap.objs.size (.bA (F9 n s.toks t (s.toks+1)))) L (.d (.nX n)) (.ref s.heap.objs.size):=by show VR T.P T.cl _ (.nX n) _;exact⟨_,_,_,_,rfl,aO⟩
 exact h _ _ (.now le .refl R' ⟨_,_,rfl⟩ pv)
theorem yR{a b:Int}(ha:0<=a)(hb:0<=b):Builtin.bitAnd a b=((a.toNat&&&b.toNat:Nat):Int):=by obtain⟨m,rfl⟩:=Int.eq_ofNat_of_zero_le ha;obtain⟨n,rfl⟩:=Int.eq_ofNat_of_zero_le hb;rfl
theorem rL(m:Nat):decide (0<=Builtin.bitNot (m:Int))=false:=by unfold Builtin.bitNot;simp;omega
theorem jY(i:Int):Builtin.bitNot (Builtin.bitNot i)=i:=by unfold Builtin.bitNot;omega
theorem BR{a b:Int}(ha:0<=a)(hb:0<=b):Builtin.bitOr a b=((a.toNat|||b.toNat:Nat):Int):=by obtain⟨m,rfl⟩:=Int.eq_ofNat_of_zero_le ha;obtain⟨n,rfl⟩:=Int.eq_ofNat_of_zero_le hb;dsimp only[Builtin.bitOr,Builtin.bitAnd];rw[rL,rL];show Builtin.bitNot (Builtin.bitNot _)=_;rw[jY,jY,jY]
def OG:mL->Operator
 | .add=> .Add| .sub=> .Sub| .mul=> .Mult| .fdiv=> .FloorDiv| .mod=> .Mod| .band=> .BitAnd| .bor=> .BitOr| .pow=> .Pow
theorem yU{a:Int}(h:small a=true):Builtin.Int.intBits a<=64:=by
 unfold Builtin.Int.intBits;split
 ·omega
 ·rename_i z;have z:a≠0:=by simpa using z
  have:a.natAbs.log2<64:=(Nat.log2_lt λe=>z (Int.natAbs_eq_zero.mp e)).mpr (Nat.lt_trans (gY h) (by decide));exact this
theorem BS{o:mL}{a b i:Int}{t u:Tok}(e:arith o a b=some i){Q:Value->Shared->Prop}(h:∀t',Q (.int i t') {s with toks:=t'+1}): ~~~(binaryOp (OG o) (.int a t) (.int b u)) Q E s:=by
 cases o<;>unfold arith at e<;>dsimp only at e
 ·cases e;exact PyProof.Rows.add_int (h _)
 ·cases e;exact PyProof.Rows.sub_int (h _)
 ·obtain⟨q,e⟩:=fj e;cases e;rw[bx]at q;exact PyProof.Rows.mul_int (h _) (IntMulOk.of_left (yU q.1))
 ·obtain⟨q,e⟩:=fj e;cases e;rw[bx,dK,dK]at q;exact PyProof.Rows.floordiv_int (by omega) (h _) (.inl (PyProof.noPylong_small (pM.mp (Int.lt_of_le_of_lt (Int.le_of_eq (Int.natAbs_of_nonneg (Int.le_of_lt q.1))) q.2))))
 ·obtain⟨q,e⟩:=fj e;cases e;rw[dK]at q;exact PyProof.Rows.mod_int (by omega) (h _)
 ·obtain⟨q,e⟩:=fj e;cases e;rw[bx,dK,dK]at q;refine PyProof.Rows.and_int ?_;rw[yR q.1 q.2];exact h _
 ·obtain⟨q,e⟩:=fj e;cases e;rw[bx,dK,dK]at q;refine PyProof.Rows.or_int ?_;rw[BR q.1 q.2];exact h _
 ·obtain⟨q,e⟩:=fj e;cases e;rw[bx,bx,dK,dK,fg]at q;obtain⟨⟨OC,q2⟩,q3⟩:=q;rw[OC];refine PyProof.Rows.pow_int q2 ?_ ?_
  ·have:Builtin.Int.intBits 2=2:=by decide+kernel
   rw[this];omega
  ·have e:((2^b.toNat:Nat):Int)=(2:Int)^b.toNat:=rfl;rw[<-e];exact h _
theorem Js(R:Rep T ρ L σ s.heap){o:mL}{x y r:PV}{u v:Value}(px:cv T ρ L x u)(py:cv T ρ L y v)(e:binop o x y σ=some (r,aN)){Q:Value->Shared->Prop}(h:∀u s',jV T ρ L s r aN u s'->Q u s'):
  ~~~(binaryOp (OG o) u v) Q E s:=by
 refine aL e λc q1 e=>?_;refine aL e λd q2 e=>?_;cases c<;>cases d<;>first|change e|skip
 ·refine aL e λi hi e=>?_;cases e;obtain⟨t,zq64⟩:=iD (pF R px q1 (λ_ z=>by cases z) (λ_ z=>by cases z));rw[zq64];obtain⟨t',zq66⟩:=iD (pF R py q2 (λ_ z=>by cases z) (λ_ z=>by cases z));rw[zq66];exact BS hi λt=>h _ _ (.eU R ⟨_,_,rfl⟩ jX)
 ·rename_i a _ b;cases o<;>first|change e|skip
  refine dM e λhf e=>?_;cases e;have V1:=pF R px q1 (λ_ z=>by cases z) (λ_ z=>by cases z);have V2:=pF R py q2 (λ_ z=>by cases z) (λ_ z=>by cases z);obtain⟨t,vs,rfl,g,rr⟩:=nH R px q1;obtain⟨t',BU,rfl,g',RO⟩:=nH R py q2;have hsz:vs.size+BU.size<=sizeLine:=by rw[rr.size,RO.size];have:=dh hf;rw[eh]at this;have:=dG;lia
  have fin:∀us:Array Value,us=vs++BU->Q (.ref s.heap.objs.size) {s with heap:=s.heap.push {cls:= .type "tuple",data:= .seq us}}:=λus he=>by subst he;obtain⟨aJ,a',b',c'⟩:=nK (l:=a++b) (vs:=vs++BU) (h':=s.heap.push (lN (vs++BU))) R R.new (λb o _ _ e=>Heap.get?_push_of_some _ e) (Heap.get?_push_size _ rfl) (by rw[Array.toList_append];exact rr.append RO);exact h _ _ (.now a' .refl b' ⟨_,_,rfl⟩ c')
  by_cases hv:vs.isEmpty=true
  ·refine concat_meets ⟨_,g,rfl⟩ ⟨_,g',rfl⟩ noFill_tuple_add seq_tuple_add PySem.F.slot_tuple_add PySem.F.entry_tuple_add (PySem.F.args_tuple_add_2 _ _) (tuple_addW0 t t' vs BU 0 0 none none #[] #[] hv) ⟨g,g',?_⟩;have:a=[]:=by have:=rr.size;rw[Array.isEmpty_iff_size_eq_zero.mp hv]at this;exact AW.mp this.symm
   subst this;exact h _ _ (.eU R ⟨_,_,rfl⟩ V2)
  ·by_cases hw:BU.isEmpty=true
   ·refine concat_meets ⟨_,g,rfl⟩ ⟨_,g',rfl⟩ noFill_tuple_add seq_tuple_add PySem.F.slot_tuple_add PySem.F.entry_tuple_add (PySem.F.args_tuple_add_2 _ _) (tuple_addW1 t t' vs BU 0 0 none none #[] #[] hv hw) ⟨g,g',?_⟩;have:b=[]:=by have:=RO.size;rw[Array.isEmpty_iff_size_eq_zero.mp hw]at this;exact AW.mp this.symm
    subst this;refine h _ _ (.eU R ⟨_,_,rfl⟩ ?_);rw[ei];exact V1
   ·refine concat_meets ⟨_,g,rfl⟩ ⟨_,g',rfl⟩ noFill_tuple_add seq_tuple_add PySem.F.slot_tuple_add PySem.F.entry_tuple_add (PySem.F.args_tuple_add_2 _ _) (tuple_addW2 t t' vs BU 0 0 none none #[] #[] hv hw hsz) ⟨g,g',?_⟩;exact fin _ rfl
 ·rename_i a _ b;cases o<;>first|change e|skip
  obtain⟨t,vs,k,rfl,g,rr⟩:=eg R px q1;obtain⟨t',BU,k',rfl,g',RO⟩:=eg R py q2;have hf:fits (a++b)=true:=(fj e).1;have hsz:vs.size+BU.size<=sizeLine:=by rw[rr.size,RO.size];have:=dh hf;rw[eh]at this;have:=dG;lia
  refine concat_meets ⟨_,g,rfl⟩ ⟨_,g',rfl⟩ noFill_list_add seq_list_add PySem.F.slot_list_add PySem.F.entry_list_add (PySem.F.args_list_add_2 _ _) (list_addW t t' vs BU k k' none none #[] #[] hsz) ⟨g,g',?_⟩;obtain⟨aJ,L',a',b',c',d'⟩:=jz (l:=a++b) (vs:=vs++BU) (k:=0) (h':=s.heap.push (gT (vs++BU) 0)) R R.new (λb o _ _ e=>Heap.get?_push_of_some _ e) (Heap.get?_push_size _ rfl) (by rw[Array.toList_append];exact rr.append RO) e;exact h _ _ (.now a' b' c' ⟨_,_,rfl⟩ d')
end
theorem yV{wr:List Addr}{s s':Shared}(m:Moved wr (λa b=>b=a) s s'):cS s s':=by obtain⟨h,g,d,t,o⟩:=s;obtain⟨h',g',d',t',o'⟩:=s';obtain⟨_,m1,m2,m3,_⟩:=m;dsimp only at m1 m2 m3;subst m1 m2 m3;exact⟨h',t',rfl⟩
section
variable{E:Value->Shared->Prop}{cl:Nat->Addr}{ρ:bU}
theorem vh(hh:A.handled=none){d:Addr}{es:Array DictEntry}{n:Nat}{l:List (D×D)}(g:s.heap.get? d=some (eV es n))(q:gc w.params cl ρ l es.toList)(ok:kf l)(f:jk l=true)(ns:d≠sysModules)(hn:l.length<=sizeLine)
  {Q:List Value->Shared->Prop} (h:∀s' (acc:Array Value),cS s s'->(∀b o,s.heap.get? b=some o->s'.heap.get? b=some o)->ItemsOf (λi v=>∃x,(l.map (·.1))[i]?=some x/\VR w.params cl ρ x v) acc (l.map (·.1)).length->Q acc.toList s'):
  ~~~(collect (.ref d)) Q E s:=by
 have hd:=Heap.lt_size g;refine wpAny_bind (wpAny_runValue (codeAny_builtin PySem.F.entry_proto_collect ?_));rw[Around.under_plainId PySem.F.plain_proto_collect _];show wpAny _ A.in1 (newList []>>=λl=>again (.builtin "list.__iadd__" ⟨[l,.ref d],[]⟩)) _ _ s;refine wpAny_bind (wpAny_newObj_type ?_);refine wpAny_pure ⟨plainId_quiet PySem.F.plain_list_iadd _,codeAny_builtin PySem.F.entry_list_iadd ?_⟩;rw[Around.under_plainId PySem.F.plain_list_iadd _];show wpAny _ A.in1 (Builtin.List.listExtendWith (.ref s.heap.objs.size) (.ref d) (.ref s.heap.objs.size)) _ _ _;have g1:(s.heap.push {cls:= .type "list",data:= .seq ([]:List Value).toArray}).get? d=some (eV es n):=Heap.get?_push_of_some _ g;refine wpAny_bind (wpAny_typeOf (T:="dict") ⟨_,g1,rfl⟩ ?_);have h1:Builtin.List.listSameRef (.ref s.heap.objs.size) (.ref d)=false:=by simp[Builtin.List.listSameRef,Nat.ne_of_gt hd]
 have h2:(Value.type "dict"==Value.type "list")=false:=by decide
 have h3:(Value.type "dict"==Value.type "tuple")=false:=by decide
 refine wpAny_ite_split (λgU=>absurd gU (by rw[h1,h2,h3];decide)) λ_=>?_;refine wpAny_bind (tU (A:=A.in1) (s:={s with heap:=s.heap.push {cls:= .type "list",data:= .seq ([]:List Value).toArray}}) hh g1 q ok f ns λo ho hI=>?_);have sz:(s.heap.push {cls:= .type "list",data:= .seq ([]:List Value).toArray}).objs.size=s.heap.objs.size+1:=Heap.size_push ..;rw[sz]at hI⊢;generalize hS:s.heap.push {cls:= .type "list",data:= .seq ([]:List Value).toArray}=H1 at*
 refine wpAny_bind (wpAny_holding (kdl_hint_dict (s:={s with heap:=H1.push o}) ⟨_,Heap.get?_push_of_some _ g1,rfl⟩ ?_));rw[if_pos];rotate_left
 ·decide+kernel
 refine wpAny_bind (wpAny_rule ?_);refine wpAny_bind ?_;show wpAny _ A.in1 (updateSeq s.heap.objs.size (·.push .none)>>=λ_=>updateSeq s.heap.objs.size (·.pop)) _ _ _;have HK:H1.get? s.heap.objs.size=some {cls:= .type "list",data:= .seq ([]:List Value).toArray}:=by rw[<-hS];exact Heap.get?_push_size _ rfl
 have LJ:(H1.push o).get? s.heap.objs.size=some {cls:= .type "list",data:= .seq ([]:List Value).toArray}:=Heap.get?_push_of_some _ HK;refine wpAny_bind (wpAny_updateSeq (s:={s with heap:=H1.push o}) LJ rfl ?_);have LK:=Heap.get?_update_self (Obj.mapSeq (·.push Value.none)) LJ rfl;refine wpAny_updateSeq (s:={s with heap:=(H1.push o).update s.heap.objs.size (Obj.mapSeq (·.push Value.none))}) LK rfl ?_;have Vw:=Heap.get?_update_self (Obj.mapSeq (·.pop)) LK rfl;have OH:∀b ob,b≠s.heap.objs.size->(H1.push o).get? b=some ob->(((H1.push o).update s.heap.objs.size (Obj.mapSeq (·.push Value.none))).update s.heap.objs.size (Obj.mapSeq (·.pop))).get? b=some ob:=
  λb ob hb e=>(Heap.get?_update_other _ _ (Ne.symm hb)).trans ((Heap.get?_update_other _ _ (Ne.symm hb)).trans e)
 obtain⟨St,W,st,_⟩:=(hI A.in1 hh).ex;have W':=W.toS;have hSf:s.heap.objs.size∉[s.heap.objs.size+1,d]:=by
  intro m;simp only[dH,yc,or_false]at m;rcases m with m|m
  ·exact absurd m (Nat.ne_of_lt (Nat.lt_succ_self _))
  ·exact absurd m (Nat.ne_of_gt hd)
 refine wpAny_pure ⟨plainId_quiet PySem.F.plain_extend_loop _,codeAny_extend_loopS W' (by rw[eT];exact hn) _ hSf _ _ 0 _ _ _ rfl (eJ _)
  (W.frame 0 _ _ st λb hb ob e=>OH b ob (λz=>hSf (z▸hb)) e) Vw (ItemsOf.nil _) λs' acc' c' hm hS' hacc=>?_⟩
 show wpAny _ A (load s.heap.objs.size>>=_) _ _ s';refine wpAny_bind (wpAny_load hS' (wpAny_pure ?_));refine h s' acc' ?_ ?_ hacc
 ·exact(cS.mk s _ s.toks).trans (yV hm)
 ·intro b ob e;have hb:=Heap.lt_size e;refine hm.heap b ob ?_ (OH b ob (Nat.ne_of_lt hb) ?_)
  ·intro m;simp only[dH,yc,or_false]at m;rcases m with m|m
   ·exact absurd m (Nat.ne_of_lt hb)
   ·exact absurd m (Nat.ne_of_lt (Nat.lt_succ_of_lt hb))
  ·refine Heap.get?_push_of_some _ ?_;rw[<-hS];exact Heap.get?_push_of_some _ e
end
theorem pH(x:Int):∀l:List Int,l.Pairwise (·<=·)->(insI x l).Pairwise (·<=·)
 |[],_=>List.pairwise_singleton _ _
 |y::r,h=>by
  dsimp only[insI];rw[List.pairwise_cons]at h;split
  ·rename_i q;rw[List.pairwise_cons,List.pairwise_cons];exact⟨λz hz=>by rcases dH.mp hz with rfl|hz;exact q;exact Int.le_trans q (h.1 z hz),h⟩
  ·rename_i q;rw[List.pairwise_cons];refine⟨λz hz=>?_,pH x r h.2⟩;rcases dH.mp ((insI_perm x r).subset hz)with rfl|hz
   ·omega
   ·exact h.1 z hz
theorem nM:∀l:List Int,(sortI l).Pairwise (·<=·)
 |[]=>List.Pairwise.nil
 |x::r=>pH x _ (nM r)
theorem s_{a b:List Int}(p:a.Perm b)(ha:a.Pairwise (·<=·))(hb:b.Pairwise (·<=·)):a=b:=
 p.eq_of_pairwise (le:=(·<=·)) (λx y _ _ h1 h2=>Int.le_antisymm h1 h2) ha hb
theorem yW{a:D}{t:List D}{is:List Int}{P:Prop}(e:intsOf (a::t)=some is)(k:∀i js,a= .int i->intsOf t=some js->is=i::js->P):P:=by have e:ioK (intsOf t) a=some is:=e;cases a<;>first|exact noS e|exact aL e λjs h q=>k _ js rfl h (fh q).symm
theorem intsAre_of{P:Params}{cl:Nat->Addr}{ρ:bU}{items:List D}{is:List Int}{acc:Array Value}(e:intsOf items=some is)(h:ItemsOf (λi v=>∃x,items[i]?=some x/\VR P cl ρ x v) acc items.length):IntsAre acc.toList is:=by
 have hs:acc.toList.length=items.length:=h.1;have hp:∀j v,acc.toList[j]?=some v->∃x,items[j]?=some x/\VR P cl ρ x v:=λj v e=>h.2 j v (by simpa using e);clear h;generalize acc.toList=l at hs hp⊢;induction items generalizing is l with
 |nil=>
  cases e;have:l=[]:=AW.mp hs;subst this;exact .nil
 |cons a r ih=>
  refine yW e λi js ea hj ee=>?_;subst ea ee;cases l with
  |nil=>cases hs
  |cons v t=>
   obtain⟨x,h1,h2⟩:=hp 0 v rfl;cases h1;obtain⟨tk,zq59⟩:=iD h2;rw[zq59];exact .cons _ tk (ih hj t (by simpa using hs) λj u e=>by have:=hp (j+1) u (by simpa using e);simpa using this)
theorem Gm{P:Params}{cl:Nat->Addr}{ρ:bU}{vs:List Value}{ns:List Int}(h:IntsAre vs ns):dA P cl ρ (ns.map .int) vs:=by
 induction h with
 |nil=>exact trivial
 |cons n t h ih=>exact⟨OF,ih⟩
section
variable{E:Value->Shared->Prop}{T:bj}{ρ:bU}{L:Lo}{σ aN:PS}
theorem Gn(R:Rep T ρ L σ s.heap)(hP:T.P=w.params)(hh:A.handled=none){v r:PV}{u:Value}(p:cv T ρ L v u)(e:builtin .sorted v σ=some (r,aN)){Q:Value->Shared->Prop}(h:∀u s',jV T ρ L s r aN u s'->Q u s'):
  ~~~(call (.builtin "sorted") [u]) Q E s:=by
 refine aL e λc q e=>?_;cases c<;>first|change e|skip
 rename_i l;refine aL e λis hi e=>?_;refine dM e λsr e=>?_;have sr:is.length<64:=by rwa [Nat.blt_eq]at sr
 obtain⟨d,es,k,zq78,g,rr,ns,ok⟩:=gN R p q;rw[zq78];have fl:jk l=true:=by
  cases l with
  |nil=>rfl
  |cons a t=>
   rw[j9]at hi;refine yW hi λi js z _ _=>?_;show Nat.ble (cy a.1) 2=true;rw[z];rfl
 have il:∀(x:List D) (y:List Int),intsOf x=some y->y.length=x.length:=by
  intro x;induction x with
  |nil=>intro y e;rw[<-fh (show some []=some y from e)];rfl
  |cons a t ih=>
   intro y e;refine yW e λi js _ hj q=>?_;rw[q,eH,eH,ih js hj]
 have hll:l.length<64:=by have:=il _ _ hi;rw[eT]at this;omega
 refine Calls.call_function_entry kind_sorted plain_sorted entry_sorted (args_sorted1 _) ?_;refine wpAny_bind (m:=checkCount "sorted" 1 1 _) (wpAny_pure ?_);refine wpAny_bind (vh (ρ:=ρ) (cl:=T.cl) (A:=A.in1) hh g (hP▸rr) ok fl ns (by have:=dG;lia) λs' acc sm kp hI=>?_);have hA:=intsAre_of hi hI;have hal:acc.toList.length<64:=by have:=hI.1;rw[eT]at this;rw[Array.length_toList];omega
 have R1:=R.heap λb o _ e=>kp b o e;refine wpAny_bind (wpAny_newList ?_ (by have:=dG;lia));have hoL:(s'.heap.push (seqObj "list" acc.toList.toArray 0)).get? s'.heap.objs.size=some (seqObj "list" acc.toList.toArray 0):=Heap.get?_push_size _ rfl;refine wpAny_bind (wpAny_holding (wpAny_call_entry slot_list_sort ⟨_,hoL,rfl⟩ entry_list_sort (list_sort_tree hoL hA hal λout ns' a1 a2 a3=>⟨_,rfl,?_⟩) (args_list_sort _)));refine wpAny_pure ⟨_,rfl,?_⟩;obtain⟨ep,g2⟩:=sortedHeap_at (out:=out) hoL;have e2:=s_ (a2.trans (sortI_perm is).symm) a3 (nM is);subst e2;have old:∀b o,b≠s'.heap.objs.size->s'.heap.get? b=some o->(sortedHeap (s'.heap.push (seqObj "list" acc.toList.toArray 0)) s'.heap.objs.size acc.toList out).get? b=some o:=λb o hb e=>by have sr:=Heap.lt_size e;rw[sortedHeap_old hb (by rw[size_push'];exact Nat.lt_succ_of_lt sr)];exact Heap.get?_push_of_some _ e
 obtain⟨aJ,L',a',b',c',d'⟩:=jz (l:=(sortI is).map .int) (vs:=out) (k:=ep) R1 R1.new (λb o hb _ e=>old b o hb e) g2 (Gm a1) e;exact h _ _ ((After.now a' b' c' ⟨_,_,rfl⟩ d').from .refl .refl sm)
end
def OI:si->CmpOp
 | .eq=> .Eq| .ne=> .NotEq| .lt=> .Lt| .le=> .LtE| .gt=> .Gt| .ge=> .GtE| .is=> .Is| .Rg=> .IsNot| .isin=> .In| .eW=> .NotIn
section
variable{E:Value->Shared->Prop}{T:bj}{ρ:bU}{L:Lo}{σ aN:PS}
theorem OJ(R:Rep T ρ L σ s.heap)(hP:T.P=w.params)(hu:A.units+100<cLine){x y:PV}{u v:Value}{b:Bool}(px:cv T ρ L x u)(py:cv T ρ L y v)(e:isIn σ x y=some b){Q:Value->Shared->Prop}
  (h:∀t,Q (.bool b) {s with toks:=t}): ~~~(compareOp .In u v) Q E s:=by
 cases x<;>first|change e|skip
 rename_i k;refine aL e λc q e=>?_;cases c<;>first|change e|skip
 ·exact Gb (P:=T.P) (cl:=T.cl) (.inr (kM R py q)) (VR.rd R.nJ px) hu e (by have:=h s.toks;exact this)
 ·exact Gb (P:=T.P) (cl:=T.cl) (.inl (kM R py q)) (VR.rd R.nJ px) hu e (by have:=h s.toks;exact this)
 ·refine dM e λdk e=>?_;cases e;obtain⟨d,es,n,rfl,g,rr,ns,ok⟩:=gN R py q;exact Ask.in_ (cl:=T.cl) (ρ:=ρ) ⟨R.nJ,by omega,g,hP▸rr,ok,dk,hP▸px,ns⟩ (by omega) h
theorem Jt(R:Rep T ρ L σ s.heap)(hP:T.P=w.params)(hu:A.units+100<cLine){x y:PV}{u v:Value}{b:Bool}(px:cv T ρ L x u)(py:cv T ρ L y v)(e:isIn σ x y=some b){Q:Value->Shared->Prop}
  (h:∀t,Q (.bool (!b)) {s with toks:=t}): ~~~(compareOp .NotIn u v) Q E s:=by
 cases x<;>first|change e|skip
 rename_i k;refine aL e λc q e=>?_;cases c<;>first|change e|skip
 ·exact tP (P:=T.P) (cl:=T.cl) (.inr (kM R py q)) (VR.rd R.nJ px) hu e (by have:=h s.toks;exact this)
 ·exact tP (P:=T.P) (cl:=T.cl) (.inl (kM R py q)) (VR.rd R.nJ px) hu e (by have:=h s.toks;exact this)
 ·refine dM e λdk e=>?_;cases e;obtain⟨d,es,n,rfl,g,rr,ns,ok⟩:=gN R py q;exact Ask.Vn (cl:=T.cl) (ρ:=ρ) ⟨R.nJ,by omega,g,hP▸rr,ok,dk,hP▸px,ns⟩ (by omega) h
theorem i8{x:PV}{u:Value}(p:cv T ρ L x u):(u==Value.none)=isNone x:=by
 cases x with
 |d x=>
  have p:VR T.P T.cl ρ x u:=p;cases x
  ·subst p;rfl
  ·subst p;rfl
  ·obtain⟨t,rfl⟩:=p;rfl
  ·obtain⟨t,rfl,_⟩:=p;rfl
  ·obtain⟨_,_,rfl,_⟩:=p;rfl
  ·obtain⟨_,_,_,rfl,_⟩:=p;rfl
  ·obtain⟨_,_,_,rfl,_⟩:=p;rfl
  ·obtain⟨_,_,_,rfl,_⟩:=p;rfl
  ·obtain⟨_,_,_,_,rfl,_⟩:=p;rfl
 |ax n=>obtain⟨_,rfl⟩:=p;rfl
 |aI n=>obtain⟨_,rfl⟩:=p;rfl
theorem rM{x:PV}{u:Value}(p:cv T ρ L x u):plainIs u .none=true:=by
 cases x with
 |d x=>
  have p:VR T.P T.cl ρ x u:=p;cases x
  ·subst p;rfl
  ·subst p;rfl
  ·obtain⟨t,rfl⟩:=p;rfl
  ·obtain⟨t,rfl,_⟩:=p;rfl
  ·obtain⟨_,_,rfl,_⟩:=p;rfl
  ·obtain⟨_,_,_,rfl,_⟩:=p;rfl
  ·obtain⟨_,_,_,rfl,_⟩:=p;rfl
  ·obtain⟨_,_,_,rfl,_⟩:=p;rfl
  ·obtain⟨_,_,_,_,rfl,_⟩:=p;rfl
 |ax n=>obtain⟨_,rfl⟩:=p;rfl
 |aI n=>obtain⟨_,rfl⟩:=p;rfl
theorem qA{o:si}{x y:PV}{b:Bool}(e:L9 o x y=some b):∃i j,x= .d (.int i)/\y= .d (.int j)/\L8 o i j=some b:=by
 cases x with
 |d x=>
  cases x<;>first|exact noS e|skip
  cases y with
  |d y=>cases y<;>first|exact noS e|exact⟨_,_,rfl,rfl,e⟩
  |_=>exact noS e
 |_=>exact noS e
theorem tV(R:Rep T ρ L σ s.heap)(hP:T.P=w.params)(hu:A.units+100<cLine){o:si}{x y:PV}{u v:Value}{b:Bool}(px:cv T ρ L x u)(py:cv T ρ L y v)(e:compare o x y σ=some b){Q:Value->Shared->Prop}
  (h:∀t,Q (.bool b) {s with toks:=t}): ~~~(compareOp (OI o) u v) Q E s:=by
 have h0:Q (.bool b) s:=by have:=h s.toks;exact this
 cases o
 ·refine aL e λc q1 e=>?_;refine aL e λd q2 e=>?_;exact OA (P:=T.P) (cl:=T.cl) (kM R px q1) (kM R py q2) hu e h0
 ·refine aL e λb' q e=>?_;cases e;refine aL q λc q1 q=>?_;refine aL q λd q2 q=>?_;exact OB (P:=T.P) (cl:=T.cl) (kM R px q1) (kM R py q2) hu q h0
 ·obtain⟨i,j,rfl,rfl,e⟩:=qA e;obtain⟨t,rfl⟩:=bV px;obtain⟨t',rfl⟩:=bV py;cases e;exact PyProof.Rows.lt_int h0
 ·obtain⟨i,j,rfl,rfl,e⟩:=qA e;obtain⟨t,rfl⟩:=bV px;obtain⟨t',rfl⟩:=bV py;cases e;exact PyProof.Rows.le_int h0
 ·obtain⟨i,j,rfl,rfl,e⟩:=qA e;obtain⟨t,rfl⟩:=bV px;obtain⟨t',rfl⟩:=bV py;cases e;exact PyProof.Rows.gt_int h0
 ·obtain⟨i,j,rfl,rfl,e⟩:=qA e;obtain⟨t,rfl⟩:=bV px;obtain⟨t',rfl⟩:=bV py;cases e;exact PyProof.Rows.ge_int h0
 ·refine dM e λn e=>?_;cases e;have:v= .none:=by have:=i8 py;rw[n]at this;exact cj this
  subst this;exact wpAny_is_plain (rM px) (by rw[i8 px];exact h0)
 ·refine dM e λn e=>?_;cases e;have:v= .none:=by have:=i8 py;rw[n]at this;exact cj this
  subst this;exact wpAny_isNot_plain (rM px) (by rw[i8 px];exact h0)
 ·exact OJ R hP hu px py e h
 ·refine aL e λb' q e=>?_;cases e;exact Jt R hP hu px py q h
theorem OK(R:Rep T ρ L σ s.heap)(hP:T.P=w.params)(hu:A.units+100<cLine){o:PV}{k x:D}{u i v:Value}(po:cv T ρ L o u)(pk:VR T.P T.cl ρ k i)(px:VR T.P T.cl ρ x v)(e:σ.A0 o k x=some aN){Q:Unit->Shared->Prop}
  (h:∀s',After T ρ L s aN s' (λ_ _=>True)->Q () s'): ~~~(setItem u i v) Q E s:=by
 refine aL e λl q e=>?_;refine dM e λdk e=>?_;rw[bx]at dk;obtain⟨d,es,n,rfl,g,rr,ns,ok⟩:=gN R po (mx q);refine Ask.setItem (cl:=T.cl) (ρ:=ρ) ⟨R.nJ,by omega,g,hP▸rr,ok,dk.1,hP▸pk,ns⟩ (by omega) (hP▸px) dk.2 λh' t vf n' g' sb r'=>?_;exact h _ (.eU (pG R po e (ok.put dk.1) g' (hP▸r') sb.extBut) ⟨_,_,rfl⟩ trivial)
theorem OL(R:Rep T ρ L σ s.heap)(hP:T.P=w.params)(hu:A.units+100<cLine){o:PV}{k:D}{u i:Value}(po:cv T ρ L o u)(pk:VR T.P T.cl ρ k i)(e:σ.HT o k=some aN){Q:Unit->Shared->Prop}
  (h:∀s',After T ρ L s aN s' (λ_ _=>True)->Q () s'): ~~~(delItem u i) Q E s:=by
 refine aL e λl q e=>?_;refine dM e λdk e=>?_;rw[bx,bx]at dk;obtain⟨d,es,n,rfl,g,rr,ns,ok⟩:=gN R po (mx q);refine Ask.delItem (cl:=T.cl) (ρ:=ρ) ⟨R.nJ,by omega,g,hP▸rr,ok,dk.1.1,hP▸pk,ns⟩ (by omega) dk.1.2 dk.2 λh' t vf n' g' sb r'=>?_;exact h _ (.eU (pG R po e ok.del g' (hP▸r') sb.extBut) ⟨_,_,rfl⟩ trivial)
set_option backward.match.sparseCases true in
theorem BV{d:Addr}{es:Array DictEntry}{n:Nat}{l:List (D×D)}{k:D}{u:Value}(a:Ask w T.cl ρ A s d es n l k u)(hu:A.units+72<cLine)(more:Option (D×Value))(hm:∀p,more=some p->VR w.params T.cl ρ p.1 p.2)
  {Q:Value->Shared->Prop} (h:∀v t,VR w.params T.cl ρ ((kx k l).getD ((more.map (·.1)).getD .none)) v->Q v {s with toks:=t}):
  ~~~(call (.builtin "dict.get") (.ref d::u::(more.map (·.2)).toList)) Q E s:=by
 have fin:∀r t,Got w.params T.cl ρ l k r->∀v,v=r.getD ((more.map (·.2)).getD .none)->Q v {s with toks:=t}:=by
  rintro r t g v rfl;refine h _ t ?_;unfold Got at g;cases z:kx k l with
  |some x=>rw[z]at g;obtain⟨v,rfl,hv⟩:=g;exact hv
  |none=>
   rw[z]at g;subst g;cases more with
   |none=>show VR _ _ _ .none .none;rfl
   |some p=>exact hm p rfl
 have body:∀dflt:Value,dflt=(more.map (·.2)).getD .none->wpAny (model prog w) A.in1 (do
   if let some v<-dictGet d u then return<-ret v
   match<-Builtin.Dict.missed d u with
   |some v=>ret v
   |none=>ret dflt) (λfin s'=>∃v,fin= .done (.ret v)/\Q v s') E s:=λdflt hd=>by
  refine wpAny_bind ((a.in1 (by omega)).get λr t g=>?_);have fin:=fin r t g;cases r with
  |some v=>exact wpAny_pure ⟨v,rfl,fin v rfl⟩
  |none=>exact wpAny_bind (wpAny_missed_other (qz a.sys) (wpAny_pure ⟨dflt,rfl,fin dflt hd⟩))
 cases more with
 |none=>exact wpAny_call_entry PySem.F.slot_dict_get a.type PySem.F.entry_dict_get (body .none rfl) (PySem.F.args_dict_get_2 _ _)
 |some p=>exact wpAny_call_entry PySem.F.slot_dict_get a.type PySem.F.entry_dict_get (body p.2 rfl) (PySem.F.args_dict_get_3 _ _ _)
end
theorem yX{T:bj}{ρ:bU}{L:Lo}{x:PV}{u:Value}(p:cv T ρ L x u):handedIn u=true:=by
 cases x with
 |d x=>
  have p:=p;cases x
  ·subst p;rfl
  ·subst p;rfl
  ·obtain⟨t,rfl⟩:=p;rfl
  ·obtain⟨t,rfl,_⟩:=p;rfl
  ·obtain⟨_,_,rfl,_⟩:=p;rfl
  ·obtain⟨_,_,_,rfl,_⟩:=p;rfl
  ·obtain⟨_,_,_,rfl,_⟩:=p;rfl
  ·obtain⟨_,_,_,rfl,_⟩:=p;rfl
  ·obtain⟨_,_,_,_,rfl,_⟩:=p;rfl
 |ax n=>obtain⟨_,rfl⟩:=p;rfl
 |aI n=>obtain⟨_,rfl⟩:=p;rfl
section
variable{T:bj}{ρ:bU}{L:Lo}{σ aN:PS}{h h':Heap}
theorem Gp(R:Rep T ρ L σ h){v v':PV}{u:Value}(p:cv T ρ L v u)(e:σ.eU v=some (v',aN)):∃aJ L',gf ρ aJ/\L.le L'/\Rep T aJ L' aN h/\cv T aJ L' v' u:=by
 cases v with
 |d x=>cases e;exact⟨ρ,L,.refl,.refl,R,p⟩
 |ax n=>cases e;exact⟨ρ,L,.refl,.refl,R,p⟩
 |aI n=>
  obtain⟨p1,rfl⟩:=p;have main:∀(t:TO) (m:MO) (o:Obj),σ.tm[n]?=some t->ρ (L.t n)= .own (.t n)->h.get? (L.t n)=some o->
    (∀L':Lo,L'.p σ.pm.length=L.t n->oV T (up ρ (L.t n) (.own (.p σ.pm.length))) L' h σ.pm.length m)->
    ∃aJ L',gf ρ aJ/\L.le L'/\Rep T aJ L' ⟨σ.pm++[m],σ.tm.set n .dead⟩ h/\cv T aJ L' (.ax σ.pm.length) (.ref (L.t n)):=by
   intro t m o q ow g c;have im:bf ρ (up ρ (L.t n) (.own (.p σ.pm.length))):=dw λo'=>by rw[ow];intro z;cases z
   let L':Lo:=⟨λk=>if k=σ.pm.length then L.t n else L.p k,L.d,L.t,L.np+1,L.nt⟩;have ll:L.le L':=⟨Nat.le_succ _,dJ _,λk hk=>by show(if k=σ.pm.length then L.t n else L.p k)=_;rw[if_neg (by rw[R.np]at hk;omega)],λ_ _=>rfl,λ_ _=>rfl⟩
   have Lb:L'.p σ.pm.length=L.t n:=by show(if _ then L.t n else _)=L.t n;rw[if_pos rfl]
   refine⟨_,L',⟨im,λa o' e=>?_⟩,ll,⟨by show L.np+1=(σ.pm++[m]).length;rw[R.np,eh];rfl,by show L.nt=(σ.tm.set n .dead).length;rw[R.nt,gq],λa=>?_,λk m' e=>?_,λk m' e=>?_⟩,?_⟩
   ·have gU:a≠L.t n:=λz=>by rw[z,ow]at e;cases e
    rw[aZ gU];exact e
   ·by_cases z:a=L.t n
    ·subst z;rw[aO];exact⟨o,g⟩
    ·rw[aZ z];exact R.role a
   ·by_cases hk:k<σ.pm.length
    ·have e':σ.pm[k]?=some m':=by rw[<-e];exact(mI hk).symm
     refine(R.ax k m' e').keep im ll (by rw[R.np];exact hk) λa g' hg z=>?_;have gU:a≠L.t n:=λy=>by rw[y,ow]at z;cases z;rcases hg with hg|hg<;>cases hg
     exact⟨by rw[aZ gU];exact z,λ_ ho=>ho⟩
    ·have hl:=bq e
     replace hl:=eh▸hl
     have:k=σ.pm.length:=by simp only[eH,List.length_nil]at hl;omega
     subst this;have:m'=m:=by simpa using e.symm
     rw[this];exact c L' Lb
   ·by_cases hk:k=n
    ·subst hk;rw[pJ (bq q)]at e;cases e;trivial
    ·replace e:=(bp (Ne.symm hk))▸e
     refine(R.aI k m' e).keep im ll (by rw[R.nt];exact bq e) λa z=>?_;have gU:a≠L.t n:=λy=>by rw[y,ow]at z;cases z;exact hk rfl
     exact⟨by rw[aZ gU];exact z,λ_ ho=>ho⟩
   ·exact⟨by show _<L.np+1;rw[R.np];exact Nat.lt_succ_self _,by rw[Lb]⟩
  refine aL e λy q e=>?_;cases y<;>cases e
  ·rename_i l;obtain⟨ow,vs,k,g,r⟩:=R.aI n _ q;exact main _ (.list l) _ q ow g λL' hL=>⟨by rw[hL,aO],vs,k,by rw[hL];exact g,dA.mono (dw λo'=>by rw[ow];intro z;cases z) r⟩
  ·rename_i l;obtain⟨ow,z,es,k,g,r⟩:=R.aI n _ q;exact main _ (.dict l) _ q ow g λL' hL=>⟨by rw[hL,aO],⟨by rw[hL];exact z.1,z.2⟩,es,k,by rw[hL];exact g,gc.mono (dw λo'=>by rw[ow];intro z;cases z) r⟩
end
section
variable{E:Value->Shared->Prop}{T:bj}{ρ:bU}{L:Lo}{σ aN:PS}
theorem Gq(ok:dF T w)(K:hH T ρ)(R:Rep T ρ L σ s.heap){o x:PV}{u:Value}{a:Nat}(po:cv T ρ L o u)(e:σ.ED o a=some x)(ha:a<T.nA){ex:Bool}{Q:Value->Shared->Prop}
  (h:∀v t,cv T ρ L x v->Q v {s with toks:=t}): ~~~(getAttr u (T.an a) ex) Q E s:=by
 cases o<;>first|exact noS e|skip
 rename_i n;obtain⟨_,rfl⟩:=po;refine aL e λm q e=>?_;cases m<;>first|change e|skip
 rename_i C fs;exact Jk ok K R q ha e (λv hv=>h v _ hv) λv hv=>yX hv
theorem Gr(ok:dF T w)(K:hH T ρ)(R:Rep T ρ L σ s.heap){o x:PV}{u v:Value}{a:Nat}(po:cv T ρ L o u)(px:cv T ρ L x v)(e:σ.v5 o a x=some aN)(ha:a<T.nA){Q:Unit->Shared->Prop}
  (h:∀s',After T ρ L s aN s' (λ_ _=>True)->Q () s'): ~~~(setAttr u (T.an a) v) Q E s:=by
 cases o<;>first|exact noS e|skip
 rename_i n;obtain⟨_,rfl⟩:=po;have hnt:∀m,x= .aI m->False:=by rintro m rfl;exact noS e
 have e:ai (Xj σ n a x) σ.pm[n]?=some aN:=by cases x<;>first|exact noS e|exact e
 refine aL e λm q e=>?_;cases m<;>first|change e|skip
 rename_i C fs;refine dM e λhlen e=>?_;cases e;have hx:Oz x=true:=by cases x<;>first|rfl|exact(hnt _ rfl).elim
 have hlen:=HS hlen;obtain⟨o1,o2,c,es,k,d,v'⟩:=R.ax n _ q;have I:PySem.W.InstAt s.heap (L.p n) (BL (T.cl C) (L.d n)) (T.cl C) (some (eV es k)):=⟨c,rfl,rfl,d⟩;have XK:=K.in R;have hz:=v'.length.symm;have hl:(lookIn (T.an a) (eV es k)).isSome=true:=by
  unfold lookIn;dsimp only;split
  ·rfl
  ·rw[v'.refKey];rfl
 have e1:=putName_dict (T.an a) (PyData.keyHash w.params (T.an a)) (.str (T.an a) (s.toks+1)) v es.toList k;have e0:dictOf es.toList k=eV es k:=rfl
 replace e1:=e0▸e1
 have xp:(Obj.putName (T.an a) (PyData.keyHash w.params (T.an a)) (.str (T.an a) (s.toks+1)) v (eV es k)).isFreed=false:=by rw[e1];rfl
 have rj:(putL (T.an a) (PyData.keyHash w.params (T.an a)) (.str (T.an a) (s.toks+1)) v es.toList).length<=1000:=by
  have:=(mr.put (x:=x) ok ha px hx (PyData.keyHash w.params (T.an a)) (s.toks+1) v').length;rw[<-this];have:∀(l:List (Nat×PV)),(sQ a x l).length<=l.length+1:=by
   intro l;induction l with
   |nil=>exact dJ _
   |cons p r ih=>
    obtain⟨b,y⟩:=p;dsimp only[sQ];split
    ·simp
    ·simp only[eH];omega
  have:=this fs;omega
 have hg:=ok.get C;refine set_plain XK I (ok.set C) (Jj (s:={s with toks:=s.toks+1}) XK I rfl (ok.over C) ?_ (ok.dict C) hl rfl (by rw[e1]) rj ?_)
 ·unfold takerIn;rw[ok.attr C a ha];rfl
 ·have g':=Heap.get?_update_self (Obj.putName (T.an a) (PyData.keyHash w.params (T.an a)) (.str (T.an a) (s.toks+1)) v) d xp;rw[e1]at g';have sb:Heap.SameBut (L.d n) s.heap (s.heap.update (L.d n) (Obj.putName (T.an a) (PyData.keyHash w.params (T.an a)) (.str (T.an a) (s.toks+1)) v)):=Heap.SameBut.update ..;have npd:L.p n≠L.d n:=λz=>by rw[z,o2]at o1;cases o1
  refine h _ (.eU (R.yM q (.inr rfl) o2 sb.extBut ⟨_,g'⟩ ⟨o1,o2,sb.extBut _ _ npd c,(putL (T.an a) (PyData.keyHash w.params (T.an a)) (.str (T.an a) (s.toks+1)) v es.toList).toArray,_,g',?_⟩) ⟨_,_,rfl⟩ trivial);exact mr.put ok ha px hx _ _ v'
theorem BW(R:Rep T ρ L σ s.heap){o:PV}{i:Int}{u:Value}{sl:Addr}{t:Tok}(po:cv T ρ L o u)(e:σ.qh o (.int i)=some aN)
  (hs:s.heap.IsSliceOf sl (.int i t) .none .none) {Q:Unit->Shared->Prop} (h:∀s',After T ρ L s aN s' (λ_ _=>True)->Q () s'): ~~~(delItem u (.ref sl)) Q E s:=by
 refine aL e λl q e=>?_;refine dM e λhc e=>?_;rw[bx,bx,dK]at hc;obtain⟨a,vs,k,rfl,g,r⟩:=eg R po (mw q);refine vg g hc.1.1 hs (λh' k' g' sb=>?_) (by rw[r.size];have:=dh hc.2;have:=dG;lia);refine h _ (.eU (kN R po e g' ?_ sb.extBut) ⟨_,_,rfl⟩ trivial);exact dA.take _ r
end
def rN(o:Obj)(m:Str->Option Value):Prop:=∃es ep,o.data= .dict es ep/\StrKeys es/\∀name,nsFind es name=m name
theorem tW{h:Heap}{a:Addr}{o:Obj}{m:Str->Option Value}(g:h.get? a=some o)(n:rN o m):h.Ns a m:=let ⟨es,ep,r⟩:=n;⟨o,es,ep,g,r⟩
theorem Az{h:Heap}{a:Addr}{m:Str->Option Value}(n:h.Ns a m):∃o,h.get? a=some o/\rN o m:=let ⟨o,es,ep,g,r⟩:=n;⟨o,g,es,ep,r⟩
structure cL (T:bj) (ρ:bU) (L:Lo) (env:Env) (nm:List Str) (ls:Ls):Prop where
 fn:env.scope.kind= .function
 Ju:env.globals=mainGlobals
 LL:env.builtins=builtinsNs
 loc:∃o m,ρ env.locals= .aX o/\rN o m/\∀(i:Nat) (x:Str) (v:PV),nm[i]?=some x->ls[i]?=some (some v)->env.kindOf x=some .local->∃u,m x=some u/\cv T ρ L v u
 LM:∀(i:Nat) (x:Str) (v:PV),nm[i]?=some x->ls[i]?=some (some v)->env.kindOf x=some .cell->∃c o u,env.cells.lookup x=some c/\ρ c= .aX o/\o.data= .cell (some u)/\cv T ρ L v u
structure dR (ρ:bU) (env:Env):Prop where
 all:∀x,env.kindOf x=some .cell->∃c o v,env.cells.lookup x=some c/\ρ c= .aX o/\o.data= .cell v
 apart:∀x y c,env.cells.lookup x=some c->env.cells.lookup y=some c->x=y
 wQ:∀x c,env.cells.lookup x=some c->c≠env.locals
section
variable{T:bj}{ρ aJ:bU}{L L':Lo}{env:Env}{nm:List Str}{ls:Ls}
theorem cL.mono(F:cL T ρ L env nm ls)(a:gf ρ aJ)(b:L.le L'):cL T aJ L' env nm ls:=by
 obtain⟨fn,Ju,LL,⟨o,m,h1,h2,h3⟩,LM⟩:=F;refine⟨fn,Ju,LL,⟨o,m,a.aX _ _ h1,h2,λi x v e1 e2 e3=>?_⟩,λi x v e1 e2 e3=>?_⟩
 ·obtain⟨u,p,q⟩:=h3 i x v e1 e2 e3;exact⟨u,p,cv.mono a.bA b q⟩
 ·obtain⟨c,o',u,p1,p2,p3,p4⟩:=LM i x v e1 e2 e3;exact⟨c,o',u,p1,a.aX _ _ p2,p3,cv.mono a.bA b p4⟩
theorem dR.mono(F:dR ρ env)(a:gf ρ aJ):dR aJ env:=
 ⟨λx e=>let ⟨c,o,v,p1,p2,p3⟩:=F.all x e;⟨c,o,v,p1,a.aX _ _ p2,p3⟩,F.apart,F.wQ⟩
variable{E:Value->Shared->Prop}{σ:PS}
theorem Vx(F:cL T ρ L env nm ls)(R:Rep T ρ L σ s.heap){i:Nat}{x:Str}{v:PV}{pos:Pos}(hx:nm[i]?=some x)(hv:ls[i]?=some (some v))(hk:env.kindOf x=some .local\/env.kindOf x=some .cell)
  (hd:(x==("__debug__":Str))=false) {Q:Value->Shared->Prop} (h:∀u,cv T ρ L v u->Q u s): ~~~(PySem.eval (.Name x pos) env) Q E s:=by
 rcases hk with hk|hk
 ·obtain⟨o,m,h1,h2,h3⟩:=F.loc;obtain⟨u,p,q⟩:=h3 i x v hx hv hk;exact wpAny_Name (wpAny_loadName_local F.fn hk (tW (R.aX h1) h2) p (h u q)) hd
 ·obtain⟨c,o,u,p1,p2,p3,p4⟩:=F.LM i x v hx hv hk;exact wpAny_Name (wpAny_loadName_cell F.fn hk p1 ⟨o,R.aX p2,p3⟩ (h u p4)) hd
theorem yY(F:cL T ρ L env nm ls)(K:hH T ρ)(R:Rep T ρ L σ s.heap){x:Str}{v:Value}{pos:Pos}(hk:env.kindOf x=some .globalImplicit)(e:nsIn T.K mainGlobals x=some (some v))
  (hd:(x==("__debug__":Str))=false) {Q:Value->Shared->Prop} (h:Q v s): ~~~(PySem.eval (.Name x pos) env) Q E s:=by
 refine wpAny_Name ?_ hd;rw[loadName_read F.fn hk];unfold loadGlobal;rw[F.Ju];exact wpAny_bind ((looks_nsIn (K.in R) e).here (wpAny_pure h))
theorem OM(F:cL T ρ L env nm ls)(K:hH T ρ)(R:Rep T ρ L σ s.heap){x:Str}{v:Value}{pos:Pos}(hk:env.kindOf x=some .globalImplicit)(e:nsIn T.K mainGlobals x=some none)(e2:nsIn T.K builtinsNs x=some (some v))
  (hd:(x==("__debug__":Str))=false) {Q:Value->Shared->Prop} (h:Q v s): ~~~(PySem.eval (.Name x pos) env) Q E s:=by
 refine wpAny_Name ?_ hd;rw[loadName_read F.fn hk];unfold loadGlobal;rw[F.Ju,F.LL];exact wpAny_bind ((looks_nsIn (K.in R) e).here (wpAny_bind ((looks_nsIn (K.in R) e2).here (wpAny_pure h))))
structure jA (env:Env) (ρ aJ:bU):Prop where
 bA:bf ρ aJ
 aX:∀a o,a≠env.locals->(∀x,env.cells.lookup x≠some a)->ρ a= .aX o->aJ a= .aX o
theorem gf.toF(x:gf ρ aJ):jA env ρ aJ:=⟨x.bA,λa o _ _ e=>x.aX a o e⟩
theorem jA.trans{ao aY cV:bU}(x:jA env ao aY)(y:jA env aY cV):jA env ao cV:=⟨x.bA.trans y.bA,λa o h1 h2 e=>y.aX a o h1 h2 (x.aX a o h1 h2 e)⟩
theorem jA.refl:jA env ρ ρ:=⟨bf.refl,λ_ _ _ _ e=>e⟩
def once(nm:List Str)(i:Nat)(x:Str):Prop:=nm[i]?=some x/\∀j:Nat,nm[j]?=some x->j=i
theorem qB(F:cL T ρ L env nm ls)(O:dR ρ env)(R:Rep T ρ L σ s.heap){i:Nat}{x:Str}{v:PV}{u:Value}(hx:once nm i x)(hk:env.kindOf x=some .local\/env.kindOf x=some .cell)(p:cv T ρ L v u)
  {Q:Unit->Shared->Prop} (h:∀s' aJ,jA env ρ aJ->Rep T aJ L σ s'.heap->cS s s'->cL T aJ L env nm (ls.set i (some v))->dR aJ env->Q () s'): ~~~(storeName env x u) Q E s:=by
 obtain⟨o,m,h1,h2,h3⟩:=F.loc;have look:∀(j:Nat) (y:Str) (w':PV),nm[j]?=some y->(ls.set i (some v))[j]?=some (some w')->(y=x/\w'=v)\/(y≠x/\ls[j]?=some (some w')):=by
  intro j y w' e1 e2;by_cases hj:j=i
  ·subst hj;have hy:y=x:=by rw[hx.1]at e1;exact(fh e1).symm
   by_cases hl:j<ls.length
   ·rw[pJ hl]at e2;exact .inl ⟨hy,by simpa using e2.symm⟩
   ·rw[List.getElem?_eq_none (by rw[gq];omega)]at e2;cases e2
  ·rw[bp (Ne.symm hj)]at e2;exact .inr ⟨λz=>hj (hx.2 j (z▸e1)),e2⟩
 rcases hk with hk|hk
 ·refine wpAny_storeName_local hk (tW (R.aX h1) h2) (λh' hn sb=>?_) (by rw[F.fn];rfl);obtain⟨o',g',n'⟩:=Az hn;have R':=R.takes (b:=env.locals) (r:= .aX o') (.inr ⟨o,h1⟩) (λa oa ha _ e=>sb.extBut a oa ha e) g';have im:bf ρ (up ρ env.locals (.aX o')):=dw λq=>by rw[h1];intro z;cases z
  have cf:∀y c oc,env.cells.lookup y=some c->ρ c= .aX oc->up ρ env.locals (.aX o') c= .aX oc:=λy c oc e1 e2=>by rw[aZ (O.wQ y c e1)];exact e2
  refine h _ _ ⟨im,λa oa ha _ e=>by rw[aZ ha];exact e⟩ R' ⟨_,_,rfl⟩ ⟨F.fn,F.Ju,F.LL,⟨o',_,aO,n',λj y w' e1 e2 e3=>?_⟩,λj y w' e1 e2 e3=>?_⟩
   ⟨λy e=>let ⟨c,oc,vc,p1,p2,p3⟩:=O.all y e;⟨c,oc,vc,p1,cf y c oc p1 p2,p3⟩,O.apart,O.wQ⟩
  ·rcases look j y w' e1 e2 with⟨rfl,rfl⟩|⟨hy,ON⟩
   ·exact⟨u,by simp,cv.mono im .refl p⟩
   ·obtain⟨u',q1,q2⟩:=h3 j y w' e1 ON e3;exact⟨u',by simp[hy,q1],cv.mono im .refl q2⟩
  ·rcases look j y w' e1 e2 with⟨rfl,rfl⟩|⟨hy,ON⟩
   ·rw[hk]at e3;cases e3
   ·obtain⟨c,oc,u',p1,p2,p3,p4⟩:=F.LM j y w' e1 ON e3;exact⟨c,oc,u',p1,cf y c oc p1 p2,p3,cv.mono im .refl p4⟩
 ·obtain⟨c,oc,vc,p1,p2,p3⟩:=O.all x hk;refine wpAny_storeName_cell F.fn hk p1 ⟨oc,R.aX p2,p3⟩ λh' hc sb=>?_;obtain⟨o',g',d'⟩:=hc;have R':=R.takes (b:=c) (r:= .aX o') (.inr ⟨oc,p2⟩) (λa oa ha _ e=>sb.extBut a oa ha e) g';have im:bf ρ (up ρ c (.aX o')):=dw λq=>by rw[p2];intro z;cases z
  have cl:=Ne.symm (O.wQ x c p1);refine h _ _ ⟨im,λa oa _ ha e=>by
   have hac:a≠c:=λz=>ha x (by rw[z];exact p1);rw[aZ hac];exact e⟩ R' ⟨_,_,rfl⟩ ⟨F.fn,F.Ju,F.LL,⟨o,m,by rw[aZ cl];exact h1,h2,λj y w' e1 e2 e3=>?_⟩,λj y w' e1 e2 e3=>?_⟩
   ⟨λy e=>?_,O.apart,O.wQ⟩
  ·rcases look j y w' e1 e2 with⟨rfl,rfl⟩|⟨hy,ON⟩
   ·rw[hk]at e3;cases e3
   ·obtain⟨u',q1,q2⟩:=h3 j y w' e1 ON e3;exact⟨u',q1,cv.mono im .refl q2⟩
  ·rcases look j y w' e1 e2 with⟨rfl,rfl⟩|⟨hy,ON⟩
   ·exact⟨c,o',u,p1,aO,d',cv.mono im .refl p⟩
   ·obtain⟨c',oc',u',q1,q2,q3,q4⟩:=F.LM j y w' e1 ON e3;have:c'≠c:=λz=>hy (O.apart y x c (by rw[<-z];exact q1) p1);exact⟨c',oc',u',q1,by rw[aZ this];exact q2,q3,cv.mono im .refl q4⟩
  ·by_cases hy:y=x
   ·subst hy;exact⟨c,o',_,p1,aO,d'⟩
   ·obtain⟨c',oc',v',q1,q2,q3⟩:=O.all y e;have:c'≠c:=λz=>hy (O.apart y x c (by rw[<-z];exact q1) p1);exact⟨c',oc',v',q1,by rw[aZ this];exact q2,q3⟩
end
section
structure Tb where
 gn:Nat->Str
 Yb:Nat->Str
 Yc:Nat->Bool
 fv:Nat->Addr
 Yd:Nat->Str
 mn:Nat->Str
 an:Nat->Str
 nA:Nat
abbrev my:=List (Str×NameKind)
def isVar(ns:my)(nm:List Str)(i:Nat)(x:Str):Bool:=nm[i]?==some x&&(ns.lookup x==some .local||ns.lookup x==some .cell)&&!(x==("__debug__":Str))
def p7(ns:my)(x:Str):Bool:=ns.lookup x==some .globalImplicit&&!(x==("__debug__":Str))
def fo(x:Expr):Bool:=!(Nat.beq x.ctorIdx 22||Nat.beq x.ctorIdx 26)
def dX{γ:Type}{a b:Nat}(f:a=b->Option γ):Option γ:=if h:a=b then f h else none
structure Dx (β α:Type) (mk:α->β) (x:β) where
 d:α
 e:x=mk d
def cC{α:Type}(f:α->Bool):Option α->Bool
 |some d=>f d
 |none=>false
theorem aB{α:Type}{f:α->Bool}{o:Option α}{P:Prop}(h:cC f o=true)(k:∀d,f d=true->P):P:=by
 cases o with
 |some d=>exact k d h
 |none=>cases h
theorem aw{a b:Bool}{P:Prop}(h:(a&&b)=true)(k:a=true->b=true->P):P:=by
 cases a with
 |true=>exact k rfl h
 |false=>cases h
theorem p8{a b:Bool}{P:Prop}(h:(a||b)=true)(k1:a=true->P)(k2:b=true->P):P:=by
 cases a with
 |true=>exact k1 rfl
 |false=>exact k2 h
theorem gy{α:Type}{l:List α}(h:l.isEmpty=true):l=[]:=List.isEmpty_iff.mp h
theorem kQ{α:Type}{l:Option α}(h:l.isNone=true):l=none:=Option.isNone_iff_eq_none.mp h
def lZ(x:Expr):Option (Dx Expr (Str×Pos) (λd=> .Name d.1 d.2) x):=dX (Expr.Name.elim x · λa b=>some ⟨(a,b),rfl⟩)
def xBin(x:Expr):Option (Dx Expr (Expr×Operator×Expr×Pos) (λd=> .BinOp d.1 d.2.1 d.2.2.1 d.2.2.2) x):=dX (Expr.BinOp.elim x · λa b c d=>some ⟨(a,b,c,d),rfl⟩)
def xCmp(x:Expr):Option (Dx Expr (Expr×List CmpOp×List Expr×Pos) (λd=> .Compare d.1 d.2.1 d.2.2.1 d.2.2.2) x):=dX (Expr.Compare.elim x · λa b c d=>some ⟨(a,b,c,d),rfl⟩)
def xUn(x:Expr):Option (Dx Expr (UnaryOp×Expr×Pos) (λd=> .UnaryOp d.1 d.2.1 d.2.2) x):=dX (Expr.UnaryOp.elim x · λa b c=>some ⟨(a,b,c),rfl⟩)
def LN(x:Expr):Option (Dx Expr (BoolOp×List Expr×Pos) (λd=> .BoolOp d.1 d.2.1 d.2.2) x):=dX (Expr.BoolOp.elim x · λa b c=>some ⟨(a,b,c),rfl⟩)
def xIf(x:Expr):Option (Dx Expr (Expr×Expr×Expr×Pos) (λd=> .IfExp d.1 d.2.1 d.2.2.1 d.2.2.2) x):=dX (Expr.IfExp.elim x · λa b c d=>some ⟨(a,b,c,d),rfl⟩)
def OO(x:Expr):Option (Dx Expr (List Expr×Nat×Pos) (λd=> .Tuple d.1 d.2.1 d.2.2) x):=dX (Expr.Tuple.elim x · λa b c=>some ⟨(a,b,c),rfl⟩)
def xLst(x:Expr):Option (Dx Expr (List Expr×Pos) (λd=> .List d.1 d.2) x):=dX (Expr.List.elim x · λa b=>some ⟨(a,b),rfl⟩)
def xDic(x:Expr):Option (Dx Expr (List (Option Expr)×List Expr×Pos) (λd=> .Dict d.1 d.2.1 d.2.2) x):=dX (Expr.Dict.elim x · λa b c=>some ⟨(a,b,c),rfl⟩)
def Ye(x:Expr):Option (Dx Expr (Expr×Str×Pos) (λd=> .Attribute d.1 d.2.1 d.2.2) x):=dX (Expr.Attribute.elim x · λa b c=>some ⟨(a,b,c),rfl⟩)
def Gs(x:Expr):Option (Dx Expr (Expr×Expr×Pos) (λd=> .Subscript d.1 d.2.1 d.2.2) x):=dX (Expr.Subscript.elim x · λa b c=>some ⟨(a,b,c),rfl⟩)
def Vy(x:Expr):Option (Dx Expr (Option Expr×Option Expr×Option Expr×Pos) (λd=> .Slice d.1 d.2.1 d.2.2.1 d.2.2.2) x):=dX (Expr.Slice.elim x · λa b c d=>some ⟨(a,b,c,d),rfl⟩)
def xq(x:Expr):Option (Dx Expr (Expr×List Expr×List Keyword×Pos) (λd=> .Call d.1 d.2.1 d.2.2.1 d.2.2.2) x):=dX (Expr.Call.elim x · λa b c d=>some ⟨(a,b,c,d),rfl⟩)
def Vz(x:Expr):Option (Dx Expr (Expr×List Comprehension×Scope×Pos) (λd=> .ListComp d.1 d.2.1 d.2.2.1 d.2.2.2) x):=dX (Expr.ListComp.elim x · λa b c d=>some ⟨(a,b,c,d),rfl⟩)
def VA(x:Expr):Option (Dx Expr (Const×Nat×Pos) (λd=> .Constant d.1 d.2.1 d.2.2) x):=dX (Expr.Constant.elim x · λa b c=>some ⟨(a,b,c),rfl⟩)
def o7(x:Expr):Bool:=((xq x).all λd=>!((lZ d.d.1).isSome&&(d.d.2.1.isEmpty&&d.d.2.2.1.isEmpty)))
def VB(x:Const):Option (Dx Const (Int) .int x):=dX (Const.int.elim x · λa=>some ⟨a,rfl⟩)
def kStr(x:Const):Option (Dx Const (Str) .str x):=dX (Const.str.elim x · λa=>some ⟨a,rfl⟩)
def VC(x:Const):Option (Dx Const (Bool) .bool x):=dX (Const.bool.elim x · λa=>some ⟨a,rfl⟩)
def VD(x:Stmt):Option (Dx Stmt (Expr×Pos) (λd=> .Expr d.1 d.2) x):=dX (Stmt.Expr.elim x · λa b=>some ⟨(a,b),rfl⟩)
def Jv(x:Stmt):Option (Dx Stmt (List Expr×Expr×Pos) (λd=> .Assign d.1 d.2.1 d.2.2) x):=dX (Stmt.Assign.elim x · λa b c=>some ⟨(a,b,c),rfl⟩)
def sAug(x:Stmt):Option (Dx Stmt (Expr×Operator×Expr×Pos) (λd=> .AugAssign d.1 d.2.1 d.2.2.1 d.2.2.2) x):=dX (Stmt.AugAssign.elim x · λa b c d=>some ⟨(a,b,c,d),rfl⟩)
def sIf(x:Stmt):Option (Dx Stmt (Expr×List Stmt×List Stmt×Pos) (λd=> .If d.1 d.2.1 d.2.2.1 d.2.2.2) x):=dX (Stmt.If.elim x · λa b c d=>some ⟨(a,b,c,d),rfl⟩)
def VE(x:Stmt):Option (Dx Stmt (Expr×Expr×List Stmt×List Stmt×Pos) (λd=> .For d.1 d.2.1 d.2.2.1 d.2.2.2.1 d.2.2.2.2) x):=dX (Stmt.For.elim x · λa b c d e=>some ⟨(a,b,c,d,e),rfl⟩)
def OP(x:Stmt):Option (Dx Stmt (Expr×List Stmt×List Stmt×Pos) (λd=> .While d.1 d.2.1 d.2.2.1 d.2.2.2) x):=dX (Stmt.While.elim x · λa b c d=>some ⟨(a,b,c,d),rfl⟩)
def sRet(x:Stmt):Option (Dx Stmt (Option Expr×Pos) (λd=> .Return d.1 d.2) x):=dX (Stmt.Return.elim x · λa b=>some ⟨(a,b),rfl⟩)
def VF(x:Stmt):Option (Dx Stmt (Pos) .Pass x):=dX (Stmt.Pass.elim x · λa=>some ⟨a,rfl⟩)
def VG(x:Stmt):Option (Dx Stmt (Pos) .Continue x):=dX (Stmt.Continue.elim x · λa=>some ⟨a,rfl⟩)
def VH(x:Stmt):Option (Dx Stmt (List Expr×Pos) (λd=> .Delete d.1 d.2) x):=dX (Stmt.Delete.elim x · λa b=>some ⟨(a,b),rfl⟩)
def l1{α:Type}(l:List α):Option (Dx (List α) α (λa=>[a]) l):=match l with
 |[a]=>some ⟨a,rfl⟩
 |_=>none
def lC{α:Type}(l:List α):Option (Dx (List α) (α×List α) (λd=>d.1::d.2) l):=match l with
 |a::r=>some ⟨(a,r),rfl⟩
 |_=>none
def oS{α:Type}(l:Option α):Option (Dx (Option α) α some l):=match l with
 |some a=>some ⟨a,rfl⟩
 |_=>none
def LO(x:E):Option (Dx E (E×Nat×E×Es) (λd=> .comp d.1 d.2.1 d.2.2.1 d.2.2.2) x):=match x with| .comp a b c d=>some ⟨(a,b,c,d),rfl⟩|_=>none
def litC(d:D)(c:Const):Bool:=match d with
 | .none=>decide (c= .none)
 | .bool b=>cC (λe=>b==e.d) (VC c)
 | .int i=>cC (λe=>i==e.d) (VB c)
 | .str l=>cC (λe=>Ej l&&e.d==nB l) (kStr c)
 |_=>false
def negC(d:D)(c:Const):Bool:=match d with
 | .int i=>cC (λe=>i==-e.d) (VB c)
 |_=>false
def OQ(d:D)(x:Expr):Bool:=cC (λc=>litC d c.d.1) (VA x)||cC (λu=>decide (u.d.1= .USub)&&cC (λc=>negC d c.d.1) (VA u.d.2.1)) (xUn x)
def Gu(o:mL)(p:Operator):Bool:=decide (p=OG o)
def LP(o:si)(p:CmpOp):Bool:=decide (p=OI o)
theorem Gv{o:mL}{p:Operator}(h:Gu o p=true):p=OG o:=of_decide_eq_true h
theorem OR{o:si}{p:CmpOp}(h:LP o p=true):p=OI o:=of_decide_eq_true h
def HL:BI->Str
 | .len=>"len"| .sorted=>"sorted"| .tuple=>"tuple"| .range=>"range"
def Yg:BI->Value
 | .len=> .builtin "len"| .sorted=> .builtin "sorted"| .tuple=> .type "tuple"| .range=> .type "range"
def rel(ns:my)(cn:my):my:=cn.map λ(n,k)=>if (k== .free&&ns.lookup n==some .cell)then(n,.cell)else(n,k)
def yZ:Str:=".0"
def rO(nm:List Str)(v:Nat)(x:Str):List Str:=(nm.map λy=>if (y==x||y==yZ)then Str.empty else y).set v x
def rP(ns cn:my)(x:Str):Bool:=cn.lookup x==some .local&&cn.all λp=>!(p.1==Str.empty)&&match p.2 with
 | .local=>(p.1==x||p.1==yZ)&&cn.lookup p.1==some .local
 | .free=>ns.lookup p.1==some .cell
 | .globalImplicit=>true
 |_=>false
def Gw:mL->Bool
 | .add=>true
 | .sub=>true
 |_=>false
def y1(x:Expr):Bool:=!Nat.beq x.ctorIdx 25
def noD:D->Bool
 | .none=>true
 |_=>false
def RQ:E->Bool
 | .lit d=>noD d
 |_=>false
theorem LQ{e:E}(h:RQ e=true):e= .lit .none:=by
 cases e<;>first|change h|skip
 rename_i d;cases d<;>first|rfl|cases h
def vi(x:Expr):Bool:=!Nat.beq x.ctorIdx 7
def rQ(x:Expr):Bool:=!(Nat.beq x.ctorIdx 8||(Nat.beq x.ctorIdx 9||Nat.beq x.ctorIdx 10))
def OS:Es->Bool
 | .nil=>true
 |_=>false
mutual
noncomputable def mE (tb:Tb) (ns:my) (nm:List Str):E->Expr->Bool
 | .lit d,x=>OQ d x
 | .loc i,x=>cC (λd=>isVar ns nm i d.d.1) (lZ x)
 | .glob g,x=>cC (λd=>p7 ns d.d.1&&d.d.1==tb.gn g) (lZ x)
 | .bin o a b,x=>cC (λd=>Gu o d.d.2.1&&(mE tb ns nm a d.d.1&&mE tb ns nm b d.d.2.2.1)) (xBin x)
 | .cmp o a b,x=>cC (λd=>cC (λp=>cC (λr=>LP o p.d&&(!behindInMarks p.d r.d&&(mE tb ns nm a d.d.1&&mE tb ns nm b r.d))) (l1 d.d.2.2.1)) (l1 d.d.2.1)) (xCmp x)
 | .nt a,x=>cC (λd=>decide (d.d.1= .Not)&&mE tb ns nm a d.d.2.1) (xUn x)
 | .and es,x=>cC (λd=>decide (d.d.1= .And)&&Et tb ns nm es d.d.2.1) (LN x)
 | .or es,x=>cC (λd=>decide (d.d.1= .Or)&&Et tb ns nm es d.d.2.1) (LN x)
 | .ite c a b,x=>cC (λd=>mE tb ns nm c d.d.1&&(mE tb ns nm a d.d.2.1&&mE tb ns nm b d.d.2.2.1)) (xIf x)
 | .tup es,x=>cC (λd=>Et tb ns nm es d.d.1) (OO x)
 | .lst es,x=>cC (λd=>Et tb ns nm es d.d.1) (xLst x)
 | .sj es,x=>cC (λd=>(OS es&&(d.d.1.isEmpty&&d.d.2.1.isEmpty))||cC (λk=>cC (λy=>cC (λv=>Et tb ns nm es [y.d,v.d]) (l1 d.d.2.1)) (oS k.d)) (l1 d.d.1)) (xDic x)
 | .attr e a,x=>cC (λd=>d.d.2.1==tb.an a&&(Nat.blt a tb.nA&&(o7 d.d.1&&mE tb ns nm e d.d.1))) (Ye x)
 | .sub e i,x=>cC (λd=>fo d.d.2.1&&(mE tb ns nm e d.d.1&&mE tb ns nm i d.d.2.1)) (Gs x)
 | .Ei e lo hi,x=>cC (λd=>cC (λs=>mE tb ns nm e d.d.1&&(s.d.2.2.1.isNone&&(((s.d.1.isNone&&RQ lo)||cC (λy=>mE tb ns nm lo y.d) (oS s.d.1))&&((s.d.2.1.isNone&&RQ hi)||cC (λy=>mE tb ns nm hi y.d) (oS s.d.2.1))))) (Vy d.d.2.1)) (Gs x)
 | .call f es,x=>cC (λd=>cC (λy=>d.d.2.2.1.isEmpty&&(tb.Yc f&&(p7 ns y.d.1&&(y.d.1==tb.Yb f&&Et tb ns nm es d.d.2.1)))) (lZ d.d.1)) (xq x)
 | .new c es,x=>cC (λd=>cC (λy=>d.d.2.2.1.isEmpty&&(p7 ns y.d.1&&(y.d.1==tb.Yd c&&(Nat.blt d.d.2.1.length 30&&Et tb ns nm es d.d.2.1)))) (lZ d.d.1)) (xq x)
 | .bi b e,x=>cC (λd=>cC (λy=>cC (λz=>d.d.2.2.1.isEmpty&&(p7 ns y.d.1&&(y.d.1==HL b&&(fo z.d&&mE tb ns nm e z.d)))) (l1 d.d.2.1)) (lZ d.d.1)) (xq x)
 | .aR e m es,x=>cC (λd=>cC (λy=>d.d.2.2.1.isEmpty&&(y.d.2.1==tb.mn m&&(o7 y.d.1&&((y.d.2.2.endLine==d.d.2.2.2.line)&&(Nat.blt d.d.2.1.length 29&&(mE tb ns nm e y.d.1&&Et tb ns nm es d.d.2.1)))))) (Ye d.d.1)) (xq x)
 | .comp el v it ifs,x=>cC (λd=>cC (λg=>cC (λz=>decide (g.d.is_async=0)&&(d.d.2.2.1.kind== .function&&(rP ns d.d.2.2.1.names z.d.1&&(vi g.d.iter&&(mE tb ns nm it g.d.iter&&(mE tb (rel ns d.d.2.2.1.names) (rO nm v z.d.1) el d.d.1&&Et tb (rel ns d.d.2.2.1.names) (rO nm v z.d.1) ifs g.d.ifs)))))) (lZ g.d.target)) (l1 d.d.2.1)) (Vz x)
 | .bad,_=>true
noncomputable def Et (tb:Tb) (ns:my) (nm:List Str):Es->List Expr->Bool
 | .nil,xs=>xs.isEmpty
 | .cons e es,xs=>cC (λd=>fo d.d.1&&(mE tb ns nm e d.d.1&&Et tb ns nm es d.d.2)) (lC xs)
end
def mT(ns:my)(nm:List Str):List Nat->List Expr->Bool
 |[],zs=>zs.isEmpty
 |i::is,zs=>cC (λd=>cC (λz=>isVar ns nm i z.d.1&&mT ns nm is d.d.2) (lZ d.d.1)) (lC zs)
mutual
noncomputable def mS (tb:Tb) (ns:my) (nm:List Str):S->Stmt->Bool
 | .expr e,x=>cC (λd=>rQ d.d.1&&mE tb ns nm e d.d.1) (VD x)
 | .asg i e,x=>cC (λd=>cC (λt=>cC (λz=>isVar ns nm i z.d.1&&(mE tb ns nm e d.d.2.1&&(rQ d.d.2.1||cC (λ_=>true) (LO e)))) (lZ t.d)) (l1 d.d.1)) (Jv x)
 | .dU o a e,x=>cC (λd=>cC (λt=>cC (λz=>z.d.2.1==tb.an a&&(Nat.blt a tb.nA&&(mE tb ns nm o z.d.1&&mE tb ns nm e d.d.2.1))) (Ye t.d)) (l1 d.d.1)) (Jv x)
 | .hY o i e,x=>cC (λd=>cC (λt=>cC (λz=>fo z.d.2.1&&(mE tb ns nm o z.d.1&&(mE tb ns nm i z.d.2.1&&mE tb ns nm e d.d.2.1))) (Gs t.d)) (l1 d.d.1)) (Jv x)
 | .kc is e,x=>cC (λd=>cC (λt=>cC (λz=>y1 d.d.2.1&&(mT ns nm is z.d.1&&mE tb ns nm e d.d.2.1)) (OO t.d)) (l1 d.d.1)) (Jv x)
 | .vW o a op e,x=>cC (λd=>cC (λz=>z.d.2.1==tb.an a&&(Nat.blt a tb.nA&&(Gu op d.d.2.1&&(Gw op&&(mE tb ns nm o z.d.1&&mE tb ns nm e d.d.2.2.1))))) (Ye d.d.1)) (sAug x)
 | .ite c a b,x=>cC (λd=>mE tb ns nm c d.d.1&&(Jw tb ns nm a d.d.2.1&&Jw tb ns nm b d.d.2.2.1)) (sIf x)
 | .gr i it b,x=>cC (λd=>cC (λz=>d.d.2.2.2.1.isEmpty&&(vi d.d.2.1&&(isVar ns nm i z.d.1&&(mE tb ns nm it d.d.2.1&&Jw tb ns nm b d.d.2.2.1)))) (lZ d.d.1)) (VE x)
 | .ye is it b,x=>cC (λd=>cC (λz=>d.d.2.2.2.1.isEmpty&&(vi d.d.2.1&&(mT ns nm is z.d.1&&(mE tb ns nm it d.d.2.1&&Jw tb ns nm b d.d.2.2.1)))) (OO d.d.1)) (VE x)
 | .l_ c b,x=>cC (λd=>d.d.2.2.1.isEmpty&&(mE tb ns nm c d.d.1&&Jw tb ns nm b d.d.2.1)) (OP x)
 | .ret e,x=>cC (λd=>(d.d.1.isNone&&RQ e)||cC (λy=>mE tb ns nm e y.d) (oS d.d.1)) (sRet x)
 | .pass,x=>cC (λ_=>true) (VF x)
 | .cont,x=>cC (λ_=>true) (VG x)
 | .sN o i,x=>cC (λd=>cC (λt=>cC (λz=>fo z.d.2.1&&(mE tb ns nm o z.d.1&&mE tb ns nm i z.d.2.1)) (Gs t.d)) (l1 d.d.1)) (VH x)
 | .yf o lo,x=>cC (λd=>cC (λt=>cC (λz=>cC (λs=>cC (λl=>s.d.2.1.isNone&&(s.d.2.2.1.isNone&&(mE tb ns nm o z.d.1&&mE tb ns nm lo l.d))) (oS s.d.1)) (Vy z.d.2.1)) (Gs t.d)) (l1 d.d.1)) (VH x)
 | .bad,_=>true
noncomputable def Jw (tb:Tb) (ns:my) (nm:List Str):Ss->List Stmt->Bool
 | .nil,xs=>xs.isEmpty
 | .cons s r,xs=>cC (λd=>mS tb ns nm s d.d.1&&Jw tb ns nm r d.d.2) (lC xs)
end
end
structure lR (n:Nat) (A:Around):Prop where
 handled:A.handled=none
 depth:A.depth+4*n+10<recursionLimit
 units:A.units+40*n+120<cLine
theorem lR.u{n:Nat}{A:Around}(r:lR n A):A.units+100<cLine:=sH (ji (qJ _ (40*n)) (show 100<=120 by decide)) r.units
def y6(T:bj)(prog:Program)(w:World)(n:Nat)(sp:Spec)(f:Value):Prop:=
 ∀(A:Around) (s:Shared) (ρ:bU) (L:Lo) (σ:PS) (args:List PV) (vals:List Value) (v:PV) (aN:PS),lR n A->hH T ρ->Rep T ρ L σ s.heap->gF T ρ L args vals->cJ sp args σ=some (v,aN)->
  ~~~(call f vals) (λu s'=>jV T ρ L s v aN u s') (λ_ _=>False) s
structure td (T:bj) (tb:Tb) (prog:Program) (w:World) (n:Nat) (X:Cx):Prop where
 an:tb.an=T.an
 nA:tb.nA=T.nA
 glob:∀g d ρ,X.glob g=some d->hH T ρ->∃v,nsIn T.K mainGlobals (tb.gn g)=some (some v)/\VR T.P T.cl ρ d v
 fn:∀f,(∃a p t r,X.fn f a p t=some r)->(tb.Yc f=true->nsIn T.K mainGlobals (tb.Yb f)=some (some (.ref (tb.fv f))))/\keepIn T.K (.ref (tb.fv f))=true/\y6 T prog w n (X.fn f) (.ref (tb.fv f))
 new:∀c,(∃a p t r,X.new c a p t=some r)->∃C,nsIn T.K mainGlobals (tb.Yd c)=some (some (.ref C))/\keepIn T.K (.ref C)=true/\y6 T prog w n (X.new c) (.ref C)
 aR:∀C m f,X.aR C m=some f->findIn T.K (.ref (T.cl C)) (tb.mn m)=some (some (.ref (tb.fv f)))/\typeIn T.K (.ref (tb.fv f))=some (.type "function")/\keepIn T.K (.ref (tb.fv f))=true/\∀a,a<T.nA->T.an a≠tb.mn m
 bi:∀b,nsIn T.K mainGlobals (HL b)=some none/\nsIn T.K builtinsNs (HL b)=some (some (Yg b))
 sys:(T.K.lookup sysModules).isSome=true
 bm:tb.mn mM="append"/\tb.mn EE="pop"/\tb.mn HU="get"
section
variable{T:bj}{tb:Tb}{n:Nat}{X:Cx}{env:Env}
abbrev lE:Value->Shared->Prop:=λ_ _=>False
theorem xr(h:Heap)(id:String):∃k,(k=Keeper.frame\/k=Keeper.machine\/k=Keeper.boundFrame)/\Looks (model prog w) h (keeperOf (.builtin id)) k:=⟨.machine,.inr (.inl rfl),Looks.of_pure rfl⟩
theorem Gx(h:Heap)(id:String):∃k,(k=Keeper.frame\/k=Keeper.machine\/k=Keeper.boundFrame)/\Looks (model prog w) h (keeperOf (.type id)) k:=⟨.machine,.inr (.inl rfl),Looks.of_pure rfl⟩
theorem rR{f:Value}(hk:keepIn T.K f=true)(h:Heap)(x:T.K.In h):∃k,(k=Keeper.frame\/k=Keeper.machine\/k=Keeper.boundFrame)/\Looks (model prog w) h (keeperOf f) k:=keeps_K hk h x
theorem evalArgs_none{M:Model}{f:Value}{Q:Args->Shared->Prop}{E:Value->Shared->Prop}(h:wpAny M A (spliced []) (λvs s'=>Q ⟨vs,[]⟩ s') E s):wpAny M A (evalArgs f true [] []) Q E s:=by show wpAny M A (spliced []>>=_) Q E s;refine wpAny_bind (wpAny_mono h (λvs s' h'=>?_) λ_ _ x=>x);refine wpAny_bind (wpAny_pure ?_);refine wpAny_holding ?_;exact wpAny_bind (wpAny_pure (wpAny_bind (wpAny_pure (wpAny_pure h'))))
theorem iE{x:Expr}{xs:List Expr}(h:fo x=true):starEach (x::xs) env=(false,PySem.eval x env)::starEach xs env:=by cases x<;>first|rfl|cases h
theorem tX{pos:Pos}:∀{xs:List Expr},(∀x∈xs,fo x=true)->(backTo pos (starEach xs env)).any (·.1)=false
 |[],_=>rfl
 |x::xs,h=>by rw[iE (h x (.head _))];show(false||(backTo pos (starEach xs env)).any (·.1))=false;rw[tX λy hy=>h y (.tail _ hy)];rfl
theorem all_plain{pos:Pos}:∀{xs:List Expr},(∀x∈xs,fo x=true)->(backTo pos (starEach xs env)).all (λx=>!x.1)=true
 |[],_=>rfl
 |x::xs,h=>by rw[iE (h x (.head _))];show(true&&(backTo pos (starEach xs env)).all (λx=>!x.1))=true;rw[all_plain λy hy=>h y (.tail _ hy)];rfl
theorem lF{ns:my}{nm:List Str}:∀{es:Es} {xs:List Expr},Et tb ns nm es xs=true->∀x∈xs,fo x=true
 | .nil,xs,h,x,hx=>by have e:=gy h;subst e;cases hx
 | .cons e es,xs,h,x,hx=>by
  refine aB h λd h=>aw h λh0 h=>aw h λ_ h=>?_
  replace hx:=d.e▸hx
  rcases dH.mp hx with rfl|hx
  ·exact h0
  ·exact lF h x hx
theorem rS{o:Expr}{a:Str}(hs:o7 o=true):attributeBase o a env (PySem.eval o env)=PySem.eval o env:=by
 cases o<;>first|rfl|skip
 rename_i f as ks p;cases f<;>first|rfl|skip
 cases as<;>first|rfl|skip
 cases ks<;>first|rfl|cases hs
theorem jB{f:Value}{first:List Value}{xs:List Expr}{pos:Pos}{Q:Value->Shared->Prop}{E:Value->Shared->Prop}(hk:∀h:Heap,T.K.In h->∃k,(k=Keeper.frame\/k=Keeper.machine\/k=Keeper.boundFrame)/\Looks (model prog w) h (keeperOf f) k)
  (hp:∀x∈xs,fo x=true) (h: ~~~(spliced (backTo pos (starEach xs env))) (λvs aC=>T.K.In aC.heap/\~~~(call f (first++vs)) Q E aC) E s):
  ~~~(callWith pos f first (backTo pos (starEach xs env)) []) Q E s:=by
 cases xs with
 |nil=>
  exact callWith_of (P:=T.K.In) rfl hk (evalArgs_none h)
 |cons x xs=>
  have e:=iE (env:=env) (xs:=xs) (hp x (.head _));rw[e]at h⊢;have a:=tX (env:=env) (pos:=pos) λy hy=>hp y (.tail _ hy);exact callWith_of (P:=T.K.In) (by show((false||(backTo pos (starEach xs env)).any (·.1))||false)=false;rw[a];rfl) hk (evalArgs_plain h)
end
section
variable(T:bj)(prog:Program)(w:World)(A:Around)(X:Cx)(env:Env)(nm:List Str)
def bO(e:E)(x:Expr):Prop:=∀ls σ s ρ L v aN,hH T ρ->cL T ρ L env nm ls->Rep T ρ L σ s.heap->eval X e ls σ=some (v,aN)->~~~(PySem.eval x env) (λu s'=>jV T ρ L s v aN u s') lE s
def kR(es:Es)(xs:List Expr):Prop:=∀pos ls σ s ρ L vs aN,hH T ρ->cL T ρ L env nm ls->Rep T ρ L σ s.heap->iU X es ls σ=some (vs,aN)->
 ~~~(spliced (backTo pos (starEach xs env))) (λus s'=>After T ρ L s aN s' λaJ L'=>gF T aJ L' vs us) lE s
def jZ(e:E)(x:Expr):Prop:=∀ls σ s ρ L b aN,hH T ρ->cL T ρ L env nm ls->Rep T ρ L σ s.heap->test X e ls σ=some (b,aN)->~~~(PySem.isTrue x env (PySem.eval x env)) (λc s'=>c=b/\After T ρ L s aN s' λ_ _=>True) lE s
end
section
variable{T:bj}{X:Cx}{env:Env}{nm:List Str}
theorem RV{P:Prop}:False->P:=False.elim
theorem bO.aV{e:E}{x:Expr}(h:bO T prog w A X env nm e x){ls:Ls}{σ aj:PS}{s:Shared}{ρ:bU}{L:Lo}{v:PV}(K:hH T ρ)(F:cL T ρ L env nm ls)(R:Rep T ρ L σ s.heap)(q:eval X e ls σ=some (v,aj)){Q:Value->Shared->Prop}
  (k:∀u aC ao aQ,gf ρ ao->L.le aQ->Rep T ao aQ aj aC.heap->cS s aC->cv T ao aQ v u->hH T ao->cL T ao aQ env nm ls->Q u aC): ~~~(PySem.eval x env) Q lE s:=by
 refine wpAny_mono (h ls σ s ρ L v aj K F R q) (λu aC p=>?_) λ_ _ z=>z;obtain⟨ao,aQ,a,b,c,d,z⟩:=p;exact k u aC ao aQ a b c d z (K.mono a) (F.mono a b)
theorem kR.aV{es:Es}{xs:List Expr}(h:kR T prog w A X env nm es xs){pos:Pos}{ls:Ls}{σ aj:PS}{s:Shared}{ρ:bU}{L:Lo}{vs:List PV}(K:hH T ρ)(F:cL T ρ L env nm ls)(R:Rep T ρ L σ s.heap)(q:iU X es ls σ=some (vs,aj)){Q:List Value->Shared->Prop}
  (k:∀us aC ao aQ,gf ρ ao->L.le aQ->Rep T ao aQ aj aC.heap->cS s aC->gF T ao aQ vs us->hH T ao->cL T ao aQ env nm ls->Q us aC): ~~~(spliced (backTo pos (starEach xs env))) Q lE s:=by
 refine wpAny_mono (h pos ls σ s ρ L vs aj K F R q) (λu aC p=>?_) λ_ _ z=>z;obtain⟨ao,aQ,a,b,c,d,z⟩:=p;exact k u aC ao aQ a b c d z (K.mono a) (F.mono a b)
theorem jZ.aV{e:E}{x:Expr}(h:jZ T prog w A X env nm e x){ls:Ls}{σ aj:PS}{s:Shared}{ρ:bU}{L:Lo}{b:Bool}(K:hH T ρ)(F:cL T ρ L env nm ls)(R:Rep T ρ L σ s.heap)(q:test X e ls σ=some (b,aj)){Q:Bool->Shared->Prop}
  (k:∀aC ao aQ,gf ρ ao->L.le aQ->Rep T ao aQ aj aC.heap->cS s aC->hH T ao->cL T ao aQ env nm ls->Q b aC): ~~~(PySem.isTrue x env (PySem.eval x env)) Q lE s:=by
 refine wpAny_mono (h ls σ s ρ L b aj K F R q) (λc aC p=>?_) λ_ _ z=>z;obtain⟨zq33,ao,aQ,a,b',c,d,_⟩:=p;rw[zq33];exact k aC ao aQ a b' c d (K.mono a) (F.mono a b')
theorem AA:kR T prog w A X env nm .nil []:=by intro pos ls σ s ρ L vs aN K F R q;exists q;exact spliced_none (.eU R (.refl s) trivial)
theorem xt{e:E}{es:Es}{x:Expr}{xs:List Expr}(hx:fo x=true)(h1:bO T prog w A X env nm e x)(h2:kR T prog w A X env nm es xs):kR T prog w A X env nm (.cons e es) (x::xs):=by intro pos ls σ s ρ L vs aN K F R q;refine aF q λv aj q1 q=>?_;refine aF q λus aM q2 q=>?_;exists q;refine spliced_more ?_ (iE hx);refine h1.aV K F R q1 λu aC ao aQ a b c d p bu br=>?_;refine h2.aV bu br c q2 λus bG aY eN a' b' c' d' p' ij j4=>?_;exact .now (a.trans a') (b.trans b') c' (d.trans d') ⟨cv.mono a'.bA b' p,p'⟩
theorem OT{d:D}{x:Expr}(h:OQ d x=true):bO T prog w A X env nm (.lit d) x:=by
 intro ls σ s ρ L v aN K F R q;exists q;refine p8 h (λh=>aB h λc h=>?_) λh=>aB h λu h=>aw h λhu h=>aB h λc h=>?_
 ·rw[c.e];cases d with
  |none=>
   rw[of_decide_eq_true h];exact wpAny_Constant_none (.eU R (.refl s) kP)
  |bool b=>
   refine aB h λe h=>?_;rw[e.e,<-fg.mp h];exact wpAny_Constant_bool (.eU R (.refl s) rJ)
  |int i=>
   refine aB h λe h=>?_;rw[e.e,<-fg.mp h];exact wpAny_Constant_int (.eU R ⟨_,_,rfl⟩ jX)
  |str l=>
   refine aB h λe h=>aw h λh1 h2=>?_;rw[e.e,cj h2];exact wpAny_Constant_str (.eU R ⟨_,_,rfl⟩ (show VR T.P T.cl ρ (.str l) _ by exact⟨_,rfl,h1⟩))
  |_=>cases h
 ·cases d with
  |int i=>
   refine aB h λe h=>?_;rw[u.e,c.e,e.e,of_decide_eq_true hu,fg.mp h];exact wpAny_UnaryOp (wpAny_Constant_int (PySem.P.neg_int (.eU R ⟨_,_,rfl⟩ jX)))
  |_=>cases h
theorem OU{i:Nat}{x:Str}{p:Pos}(hn:∀y,env.kindOf y=env.scope.names.lookup y)(h:isVar env.scope.names nm i x=true):bO T prog w A X env nm (.loc i) (.Name x p):=by intro ls σ s ρ L v aN K F R q;refine aL q λv' hv q=>?_;cases v'<;>cases q;unfold isVar at h;rw[bx,bx,mK]at h;obtain⟨⟨h1,h2⟩,h3⟩:=h;refine Vx F R (cj h1) hv ?_ (by simpa using h3) λu hu=> .eU R (.refl s) hu;rw[hn];exact h2.imp (λz=>cj z) (λz=>cj z)
theorem OV{o:mL}{a b:E}{l r:Expr}{p:Pos}(h1:bO T prog w A X env nm a l)(h2:bO T prog w A X env nm b r):bO T prog w A X env nm (.bin o a b) (.BinOp l (OG o) r p):=by intro ls σ s ρ L v aN K F R q;refine aF q λkj aj q1 q=>?_;refine aF q λy7 aM q2 q=>?_;refine wpAny_BinOp (h1.aV K F R q1 λu aC ao aQ a b c d p bu br=>h2.aV bu br c q2 λu' bG aY eN a' b' c' d' p' ij j4=>?_);exact Js c' (cv.mono a'.bA b' p) p' q λu'' fG P=>P.from (a.trans a') (b.trans b') (d.trans d')
theorem OW(hP:T.P=w.params)(hu:A.units+100<cLine){o:si}{a b:E}{l r:Expr}{p:Pos}(hb:behindInMarks (OI o) r=false)(h1:bO T prog w A X env nm a l)(h2:bO T prog w A X env nm b r):bO T prog w A X env nm (.cmp o a b) (.Compare l [OI o] [r] p):=by intro ls σ s ρ L v aN K F R q;refine aF q λkj aj q1 q=>?_;refine aF q λy7 aM q2 q=>?_;refine aL q λbb q3 q=>?_;exists q;refine wpAny_Compare1 (h1.aV K F R q1 λu aC ao aQ a b c d p bu br=>h2.aV bu br c q2 λu' bG aY eN a' b' c' d' p' ij j4=>?_) hb;exact tV c' hP hu (cv.mono a'.bA b' p) p' q3 λt=> .now (a.trans a') (b.trans b') c' ((d.trans d').trans ⟨_,_,rfl⟩) rJ
theorem OX(hP:T.P=w.params)(hu:A.units+100<cLine){o:si}{a b:E}{l r:Expr}{p:Pos}(hb:behindInMarks (OI o) r=false)(h1:bO T prog w A X env nm a l)(h2:bO T prog w A X env nm b r):jZ T prog w A X env nm (.cmp o a b) (.Compare l [OI o] [r] p):=by intro ls σ s ρ L v aN K F R q;refine aF q λv₀ σ₀ q0 q=>?_;refine aF q0 λkj aj q1 q0=>?_;refine aF q0 λy7 aM q2 q0=>?_;refine aL q0 λbb q3 q0=>?_;cases q0;have qq:=q;cases qq;refine wpAny_isTrue_Compare1 (h1.aV K F R q1 λu aC ao aQ a b c d p bu br=>h2.aV bu br c q2 λu' bG aY eN a' b' c' d' p' ij j4=>?_) hb;exact tV c' hP hu (cv.mono a'.bA b' p) p' q3 λt=>wpAny_truthy_bool ⟨rfl,.now (a.trans a') (b.trans b') c' ((d.trans d').trans ⟨_,_,rfl⟩) trivial⟩
theorem VI{a:E}{x:Expr}{p:Pos}(h1:bO T prog w A X env nm a x):bO T prog w A X env nm (.nt a) (.UnaryOp .Not x p):=by intro ls σ s ρ L v aN K F R q;refine aF q λkj aj q1 q=>?_;refine aL q λb q2 q=>?_;exists q;refine wpAny_UnaryOp (h1.aV K F R q1 λu aC ao aQ a b c d p bu br=>?_);refine not_of (lD c p q2 λt=>?_);exact .now a b c (d.trans ⟨_,_,rfl⟩) rJ
theorem VJ{a:E}{x:Expr}{p:Pos}(h1:jZ T prog w A X env nm a x):jZ T prog w A X env nm (.nt a) (.UnaryOp .Not x p):=by intro ls σ s ρ L v aN K F R q;refine aF q λb aj q1 q=>?_;exists q;exact isTrue_not (h1.aV K F R q1 λaC ao aQ a b c d bu br=>⟨rfl,.now a b c d trivial⟩)
theorem OY{c a b:E}{t x y:Expr}{p:Pos}(h0:jZ T prog w A X env nm c t)(h1:bO T prog w A X env nm a x)(h2:bO T prog w A X env nm b y):bO T prog w A X env nm (.ite c a b) (.IfExp t x y p):=by
 intro ls σ s ρ L v aN K F R q;refine aF q λb0 aj q1 q=>?_;cases b0;rotate_left
 ·refine wpAny_IfExp (h0.aV K F R q1 λaC ao aQ a b c d bu br=>?_);rw[if_pos rfl];exact wpAny_mono (h1 _ _ _ _ _ _ _ bu br c q) (λu bG P=>P.from a b d) λ_ _ z=>z
 ·refine wpAny_IfExp (h0.aV K F R q1 λaC ao aQ a b c d bu br=>?_);rw[if_neg (by decide)];exact wpAny_mono (h2 _ _ _ _ _ _ _ bu br c q) (λu bG P=>P.from a b d) λ_ _ z=>z
theorem OZ{c a b:E}{t x y:Expr}{p:Pos}(h0:jZ T prog w A X env nm c t)(h1:jZ T prog w A X env nm a x)(h2:jZ T prog w A X env nm b y):jZ T prog w A X env nm (.ite c a b) (.IfExp t x y p):=by
 intro ls σ s ρ L v aN K F R q;refine aF q λb0 aj q1 q=>?_;cases b0;rotate_left
 ·refine isTrue_IfExp (h0.aV K F R q1 λaC ao aQ a b c d bu br=>?_);rw[if_pos rfl];exact wpAny_mono (h1 _ _ _ _ _ _ _ bu br c q) (λu bG P=>⟨P.1,P.2.from a b d⟩) λ_ _ z=>z
 ·refine isTrue_IfExp (h0.aV K F R q1 λaC ao aQ a b c d bu br=>?_);rw[if_neg (by decide)];exact wpAny_mono (h2 _ _ _ _ _ _ _ bu br c q) (λu bG P=>⟨P.1,P.2.from a b d⟩) λ_ _ z=>z
theorem O0{es:Es}{xs:List Expr}{k:Nat}{p:Pos}(h:kR T prog w A X env nm es xs):bO T prog w A X env nm (.tup es) (.Tuple xs k p):=by intro ls σ s ρ L v aN K F R q;refine aF q λvs aj q1 q=>?_;refine aF q λys aM q2 q=>?_;refine dM q λhf q=>?_;exists q;refine wpAny_Tuple (h.aV K F R q1 λus aC ao aQ a b c d p bu br=>?_);obtain⟨aY,a',gV,r⟩:=kO c p q2;refine⟨by rw[<-r.length];have:=dh hf;have:=dG;lia,?_⟩;obtain⟨aJ,x,y,z⟩:=nK (l:=ys) (vs:=us.toArray) (h':=aC.heap.push (lN us.toArray)) gV gV.new (λb o _ _ e=>Heap.get?_push_of_some _ e) (Heap.get?_push_size _ rfl) (by simpa using r);exact .now ((a.trans a').trans x) b y (d.trans ⟨_,_,rfl⟩) z
theorem O1{es:Es}{xs:List Expr}{p:Pos}(h:kR T prog w A X env nm es xs):bO T prog w A X env nm (.lst es) (.List xs p):=by intro ls σ s ρ L v aN K F R q;refine aF q λvs aj q1 q=>?_;refine aF q λys aM q2 q=>?_;have hf:=(fj q).1;refine wpAny_List (h.aV K F R q1 λus aC ao aQ a b c d p bu br=>?_);obtain⟨aY,a',gV,r⟩:=kO c p q2;refine⟨by rw[<-r.length];have:=dh hf;have:=dG;lia,?_⟩;obtain⟨aJ,L',x,x',y,z⟩:=jz (l:=ys) (vs:=us.toArray) (k:=0) (h':=aC.heap.push (gT us.toArray 0)) gV gV.new (λb o _ _ e=>Heap.get?_push_of_some _ e) (Heap.get?_push_size _ rfl) (by simpa using r) q;exact .now ((a.trans a').trans x) (b.trans x') y (d.trans ⟨_,_,rfl⟩) z
theorem Jx(ok:dF T w){e:E}{a:Nat}{o:Expr}{p:Pos}(ha:a<T.nA)(hs:o7 o=true)(h:bO T prog w A X env nm e o):bO T prog w A X env nm (.attr e a) (.Attribute o (T.an a) p):=by
 intro ls σ s ρ L v aN K F R q;refine aF q λkj aj q1 q=>?_;refine aL q λr q2 q=>?_;exists q;refine Attribute_any_ (h.aV K F R q1 λu aC ao aQ a' b c d p bu br=>?_) ?_
 ·exact Gq ok bu c p q2 ha λv t hv=> .now a' b c (d.trans ⟨_,_,rfl⟩) hv
 ·rw[arm_eval_Attribute];rw[rS hs]
theorem O2(ok:dF T w)(hu:A.units+100<cLine){e i:E}{o j:Expr}{p:Pos}(h1:bO T prog w A X env nm e o)(h2:bO T prog w A X env nm i j):bO T prog w A X env nm (.sub e i) (.Subscript o j p):=by intro ls σ s ρ L v aN K F R q;refine aF q λkj aj q1 q=>?_;refine aF q λy7 aM q2 q=>?_;refine aL q λr q3 q=>?_;exists q;refine Subscript_ (h1.aV K F R q1 λu aC ao aQ a b c d p bu br=>h2.aV bu br c q2 λu' bG aY eN a' b' c' d' p' ij j4=>?_);exact OD ok c' hu (cv.mono a'.bA b' p) p' q3 λu t hu=> .now (a.trans a') (b.trans b') c' ((d.trans d').trans ⟨_,_,rfl⟩) hu
end
section
variable(T:bj)(prog:Program)(w:World)(A:Around)(X:Cx)(env:Env)(nm:List Str)
def xu(es:Es)(xs:List Expr):Prop:=∀p ls σ s ρ L v aN,hH T ρ->cL T ρ L env nm ls->Rep T ρ L σ s.heap->zB X es ls σ=some (v,aN)->~~~(PySem.eval (.BoolOp .And xs p) env) (λu s'=>jV T ρ L s v aN u s') lE s
def Gy(es:Es)(xs:List Expr):Prop:=∀p ls σ s ρ L v aN,hH T ρ->cL T ρ L env nm ls->Rep T ρ L σ s.heap->Mc X es ls σ=some (v,aN)->~~~(PySem.eval (.BoolOp .Or xs p) env) (λu s'=>jV T ρ L s v aN u s') lE s
def rT(es:Es)(xs:List Expr):Prop:=∀ls σ s ρ L b aN,hH T ρ->cL T ρ L env nm ls->Rep T ρ L σ s.heap->cx X es ls σ=some (b,aN)->~~~(allTrue .And xs env) (λc s'=>c=b/\After T ρ L s aN s' λ_ _=>True) lE s
def xw(es:Es)(xs:List Expr):Prop:=∀ls σ s ρ L b aN,hH T ρ->cL T ρ L env nm ls->Rep T ρ L σ s.heap->EG X es ls σ=some (b,aN)->~~~(allTrue .Or xs env) (λc s'=>c=b/\After T ρ L s aN s' λ_ _=>True) lE s
end
section
variable{T:bj}{tb:Tb}{n:Nat}{X:Cx}{env:Env}{nm:List Str}
theorem vj{sp:Spec}{a:List PV}{σ:PS}{r}(q:cJ sp a σ=some r):∃a p t r,sp a p t=some r:=
 let ⟨_,q⟩:=fj q;let ⟨_,_,q⟩:=fH q;let ⟨_,q,_⟩:=fH q
 ⟨_,_,_,_,q⟩
theorem Jy{e:E}{x:Expr}(h:bO T prog w A X env nm e x):xu T prog w A X env nm (.cons e .nil) [x]:=by intro p ls σ s ρ L v aN K F R q;exact BoolOp_one (h _ _ _ _ _ _ _ K F R q)
theorem O3{e:E}{x:Expr}(h:bO T prog w A X env nm e x):Gy T prog w A X env nm (.cons e .nil) [x]:=by intro p ls σ s ρ L v aN K F R q;exact BoolOp_one (h _ _ _ _ _ _ _ K F R q)
theorem and_cons{e e':E}{es:Es}{x y:Expr}{xs:List Expr}(h1:bO T prog w A X env nm e x)(h2:xu T prog w A X env nm (.cons e' es) (y::xs)):xu T prog w A X env nm (.cons e (.cons e' es)) (x::y::xs):=by
 intro p ls σ s ρ L v aN K F R q;refine aF q λkj aj q1 q=>?_;refine BoolOp_and (h1.aV K F R q1 λu aC ao aQ a b c d fq bu br=>?_);refine aL q λb0 q2 q=>?_;cases b0;rotate_left
 ·refine lD c fq q2 λt=>?_;rw[if_pos rfl];exact wpAny_mono (h2 _ _ _ _ _ _ _ bu br (s:={aC with toks:=t}) c q) (λu bG P=>P.from a b (d.trans ⟨_,_,rfl⟩)) λ_ _ z=>z
 ·cases q;refine lD c fq q2 λt=>?_;rw[if_neg (by decide)];exact .now a b c (d.trans ⟨_,_,rfl⟩) fq
theorem or_cons{e e':E}{es:Es}{x y:Expr}{xs:List Expr}(h1:bO T prog w A X env nm e x)(h2:Gy T prog w A X env nm (.cons e' es) (y::xs)):Gy T prog w A X env nm (.cons e (.cons e' es)) (x::y::xs):=by
 intro p ls σ s ρ L v aN K F R q;refine aF q λkj aj q1 q=>?_;refine BoolOp_or (h1.aV K F R q1 λu aC ao aQ a b c d fq bu br=>?_);refine aL q λb0 q2 q=>?_;cases b0;rotate_left
 ·cases q;refine lD c fq q2 λt=>?_;rw[if_pos rfl];exact .now a b c (d.trans ⟨_,_,rfl⟩) fq
 ·refine lD c fq q2 λt=>?_;rw[if_neg (by decide)];exact wpAny_mono (h2 _ _ _ _ _ _ _ bu br (s:={aC with toks:=t}) c q) (λu bG P=>P.from a b (d.trans ⟨_,_,rfl⟩)) λ_ _ z=>z
theorem xx:rT T prog w A X env nm .nil []:=by intro ls σ s ρ L v aN K F R q;exists q;exact wpAny_pure ⟨rfl,.eU R (.refl s) trivial⟩
theorem AB:xw T prog w A X env nm .nil []:=by intro ls σ s ρ L v aN K F R q;exists q;exact wpAny_pure ⟨rfl,.eU R (.refl s) trivial⟩
theorem tY{e:E}{es:Es}{x:Expr}{xs:List Expr}(h1:jZ T prog w A X env nm e x)(h2:rT T prog w A X env nm es xs):rT T prog w A X env nm (.cons e es) (x::xs):=by
 intro ls σ s ρ L v aN K F R q;refine aF q λb0 aj q1 q=>?_;cases b0;rotate_left
 ·refine wpAny_allTrue_And_cons (h1.aV K F R q1 λaC ao aQ a b c d bu br=>?_);rw[if_pos rfl];exact wpAny_mono (h2 _ _ _ _ _ _ _ bu br c q) (λu bG P=>⟨P.1,P.2.from a b d⟩) λ_ _ z=>z
 ·cases q;refine wpAny_allTrue_And_cons (h1.aV K F R q1 λaC ao aQ a b c d bu br=>?_);rw[if_neg (by decide)];exact⟨rfl,.now a b c d trivial⟩
theorem xy{e:E}{es:Es}{x:Expr}{xs:List Expr}(h1:jZ T prog w A X env nm e x)(h2:xw T prog w A X env nm es xs):xw T prog w A X env nm (.cons e es) (x::xs):=by
 intro ls σ s ρ L v aN K F R q;refine aF q λb0 aj q1 q=>?_;cases b0;rotate_left
 ·cases q;refine wpAny_allTrue_Or_cons (h1.aV K F R q1 λaC ao aQ a b c d bu br=>?_);rw[if_pos rfl];exact⟨rfl,.now a b c d trivial⟩
 ·refine wpAny_allTrue_Or_cons (h1.aV K F R q1 λaC ao aQ a b c d bu br=>?_);rw[if_neg (by decide)];exact wpAny_mono (h2 _ _ _ _ _ _ _ bu br c q) (λu bG P=>⟨P.1,P.2.from a b d⟩) λ_ _ z=>z
theorem O4{es:Es}{xs:List Expr}{p:Pos}(h:rT T prog w A X env nm es xs):jZ T prog w A X env nm (.and es) (.BoolOp .And xs p):=by intro ls σ s ρ L v aN K F R q;exact wpAny_isTrue_BoolOp (h _ _ _ _ _ _ _ K F R q)
theorem VK{es:Es}{xs:List Expr}{p:Pos}(h:xw T prog w A X env nm es xs):jZ T prog w A X env nm (.or es) (.BoolOp .Or xs p):=by intro ls σ s ρ L v aN K F R q;exact wpAny_isTrue_BoolOp (h _ _ _ _ _ _ _ K F R q)
def plainT(x:Expr):Bool:=!(Nat.beq x.ctorIdx 0||(Nat.beq x.ctorIdx 5||Nat.beq x.ctorIdx 15))&&((xUn x).all λd=>!Nat.beq d.d.1.ctorIdx 1)
theorem Gz{e:E}{x:Expr}(he:lg X e=kg (eval X e))(hx:plainT x=true)(h:bO T prog w A X env nm e x):jZ T prog w A X env nm e x:=by
 intro ls σ s ρ L b aN K F R q;have q':ai (cX Mb) (eval X e ls σ)=some (b,aN):=(congrArg (·.2 ls σ) he).symm.trans q;refine aF q' λv aj q1 q'=>?_;refine aL q' λc q2 q'=>?_;cases q';have body: ~~~(PySem.eval x env) (λv aC=>~~~(truthy v) (λc s'=>c=b/\After T ρ L s aN s' λ_ _=>True) lE aC) lE s:=
  h.aV K F R q1 λu aC ao aQ a b c d fq bu br=>lD c fq q2 λt=>⟨rfl,.now a b c (d.trans ⟨_,_,rfl⟩) trivial⟩
 refine isTrue_plain body ?_;cases x<;>first|rfl|change hx|skip
 rename_i op y p;cases op<;>first|rfl|change hx
theorem Jz(lk:td T tb prog w n X){g:Nat}{x:Str}{p:Pos}(h:p7 env.scope.names x=true)(hx:x=tb.gn g):bO T prog w A X env nm (.glob g) (.Name x p):=by intro ls σ s ρ L v aN K F R q;refine aL q λd hd q=>?_;exists q;unfold p7 at h;rw[bx]at h;obtain⟨u,h1,h2⟩:=lk.glob g d ρ hd K;subst hx;exact yY F K R (cj h.1) h1 (by simpa using h.2) (.eU R (.refl s) h2)
theorem VL(ok:dF T w)(hh:A.handled=none)(lk:td T tb prog w n X){b:BI}{e:E}{x:Str}{y:Expr}{p p':Pos}(h:p7 env.scope.names x=true)(hx:x=HL b)(hy:fo y=true)(h1:bO T prog w A X env nm e y):
  bO T prog w A X env nm (.bi b e) (.Call (.Name x p) [y] [] p'):=by
 intro ls σ s ρ L v aN K F R q;refine aF q λkj aj q1 q=>?_;unfold p7 at h;rw[bx]at h;subst hx;obtain⟨b1,b2⟩:=lk.bi b;refine wpAny_Call_NameR (OM F K R (cj h.1) b1 b2 (by simpa using h.2) ?_);refine jB (T:=T) ?_ (λz hz=>by rcases dH.mp hz with rfl|hz;exact hy;cases hz) ?_
 ·intro hp _;cases b<;>first|exact xr hp _|exact Gx hp _
 ·refine spliced_more (h1.aV K F R q1 λu aC ao aQ a b' c d fq bu br=>spliced_none ⟨bu.in c,?_⟩) (iE hy);cases b
  ·exact Vv c ok.P fq q λu bG P=>P.from a b' d
  ·exact Gn c ok.P hh fq q λu bG P=>P.from a b' d
  ·exact Jq c fq q λu bG P=>P.from a b' d
  ·exact Jr c fq q λu bG P=>P.from a b' d
theorem JA(rm:lR n A)(lk:td T tb prog w n X){f:Nat}{es:Es}{x:Str}{xs:List Expr}{p p':Pos}(hg:tb.Yc f=true)(h:p7 env.scope.names x=true)(hx:x=tb.Yb f)(hp:∀y∈xs,fo y=true)(h1:kR T prog w A X env nm es xs):
  bO T prog w A X env nm (.call f es) (.Call (.Name x p) xs [] p'):=by
 intro ls σ s ρ L v aN K F R q;refine aF q λvs aj q1 q=>?_;have hex:=vj q;obtain⟨b1,b2,b3⟩:=lk.fn f hex;unfold p7 at h;rw[bx]at h;subst hx;refine wpAny_Call_NameR (yY F K R (cj h.1) (b1 hg) (by simpa using h.2) ?_);refine jB (T:=T) (λh x=>rR b2 h x) hp ?_;refine h1.aV K F R q1 λus aC ao aQ a b c d fq bu br=>⟨bu.in c,?_⟩;exact wpAny_mono (b3 A aC ao aQ aj vs us v aN rm bu c fq q) (λu bG P=>P.from a b d) λ_ _ z=>z
theorem O5(rm:lR n A)(lk:td T tb prog w n X){f:Nat}{es:Es}{x:Str}{xs:List Expr}{p p':Pos}(h:p7 env.scope.names x=true)(hx:x=tb.Yd f)(hp:∀y∈xs,fo y=true)(h1:kR T prog w A X env nm es xs):
  bO T prog w A X env nm (.new f es) (.Call (.Name x p) xs [] p'):=by
 intro ls σ s ρ L v aN K F R q;refine aF q λvs aj q1 q=>?_;have hex:=vj q;obtain⟨C,b1,b2,b3⟩:=lk.new f hex;unfold p7 at h;rw[bx]at h;subst hx;refine wpAny_Call_NameR (yY F K R (cj h.1) b1 (by simpa using h.2) ?_);refine jB (T:=T) (λh x=>rR b2 h x) hp ?_;refine h1.aV K F R q1 λus aC ao aQ a b c d fq bu br=>⟨bu.in c,?_⟩;exact wpAny_mono (b3 A aC ao aQ aj vs us v aN rm bu c fq q) (λu bG P=>P.from a b d) λ_ _ z=>z
end
section
variable{T:bj}{ρ:bU}{L:Lo}
theorem mr.miss{x:Str}(hx:∀a,a<T.nA->T.an a≠x):∀{fs:List (Nat×PV)} {es:List DictEntry},mr T ρ L fs es->es.find? (·.key.isStr x)=none
 |[],[],_=>rfl
 |(b,y)::r,e::t,h=>by
  obtain⟨⟨hb,⟨tk,hk⟩,hv⟩,h2⟩:=h;rw[List.find?_cons,hk];have:(Value.str (T.an b) tk).isStr x=false:=by show(T.an b==x)=false;simpa using hx b hb
  rw[this];exact mr.miss hx h2
 |[],_::_,h=>by exact h.elim
 |(_,_)::_,[],h=>by exact h.elim
end
section
variable{T:bj}{tb:Tb}{n:Nat}{X:Cx}{env:Env}{nm:List Str}
theorem GA{o:Expr}{name:Str}{apos pos:Pos}{xs:List Expr}{s:Shared}{E:Value->Shared->Prop}{Q:Value->Shared->Prop}(hs:o7 o=true)(hp:∀y∈xs,fo y=true)(hl:xs.length<29)(AD:(apos.endLine==pos.line)=true)
  (h: ~~~(PySem.eval o env) (λov aC=>∀pl,~~~(getMethod ov name pl) (λfx bG=>~~~(callWith pos fx.1 fx.2 (backTo pos (starEach xs env)) []) Q E bG) E aC) E s):
  ~~~(PySem.eval (.Call (.Attribute o name apos) xs [] pos) env) Q E s:=by
 rw[arm_eval_Call,rS hs];refine wpAny_bind (wpAny_mono h (λov aC GB=>?_) λ_ _ e=>e);refine wpAny_bind (wpAny_standAt ?_);have VM:methodCallForm (xs.length+([]:List Keyword).length) (backTo pos (starEach xs env)) (backToKw pos (keywordEach [] env))=true:=by unfold methodCallForm;rw[all_plain hp];show(true&&true&&decide (xs.length+0+0<30))=true;simp;omega
 have O6:methodCallPos true o env apos pos=pure pos:=by unfold methodCallPos;simp[AD]
 dsimp only[methodCall];rw[VM];refine wpAny_bind (wpAny_holding (wpAny_mono (GB _) (λfx bG h₂=>?_) λ_ _ e=>e));exact wpAny_bind (wpAny_of_eq O6 h₂)
theorem GC{σ:PS}{k C:Nat}(hi:gh σ (.ax k)=some C){P:Prop}(h:∀fs,σ.pm[k]?=some (.inst C fs)->P):P:=by
 refine aL hi λm q e=>?_;cases m<;>first|exact noS e|skip
 rw[<-fh e]at h;exact h _ q
theorem xA(ok:dF T w)(lk:td T tb prog w n X){s:Shared}{ρ:bU}{L:Lo}{σ:PS}(K:hH T ρ)(R:Rep T ρ L σ s.heap){v:PV}{u:Value}(p:cv T ρ L v u){C m f:Nat}(hi:gh σ v=some C)(hm:X.aR C m=some f)
  {pl:Sem Bool} {Q:Value×List Value->Shared->Prop} {E:Value->Shared->Prop} (h:Q (.ref (tb.fv f),[u]) s): ~~~(getMethod u (tb.mn m) pl) Q E s:=by
 obtain⟨m1,m2,m3,m4⟩:=lk.aR C m f hm;have hg:=ok.get C;simp only[plainGet,bx,fg]at hg;cases v with
 |aI _=>exact noS hi
 |ax k=>
  obtain⟨_,rfl⟩:=p;refine GC hi λfs q=>?_;obtain⟨es,ep,I,d,v'⟩:=Ar R q;refine method_fn (K.in R) I hg.1 hg.2 m1 m2 ?_ h;show(lookIn (tb.mn m) (eV es ep)).map (·.isSome)=some false;unfold lookIn;dsimp only;rw[v'.miss m4,v'.refKey];rfl
 |d x=>
  cases x<;>first|exact noS hi|skip
  replace p:=(fh hi)▸p
  have p:=p;obtain⟨a,d,ep,rfl,i,j⟩:=p;refine method_fn (K.in R) (ox:=BL (T.cl C) d) (od:=some (eV #[] ep)) ⟨R.bA i,rfl,rfl,R.bA j⟩ hg.1 hg.2 m1 m2 ?_ h;rfl
section
variable{ρ:bU}{L:Lo}{σ aN:PS}{ov v:PV}{vs:List PV}{us:List Value}{a:Addr}{Q:Value->Shared->Prop}
theorem us1{x:PV}(p':gF T ρ L [x] us):∃u,us=[u]/\cv T ρ L x u:=by
 cases us with
 |nil=>exact p'.elim
 |cons u r=>
  cases r with
  |nil=>exact⟨u,rfl,p'.1⟩
  |cons _ _=>exact p'.2.elim
theorem VN(R:Rep T ρ L σ s.heap)(p:cv T ρ L ov (.ref a))(p':gF T ρ L vs us)(q:hJ 0 ov vs σ=some (v,aN))(h:∀u s',jV T ρ L s v aN u s'->Q u s'): ~~~(call (.builtin "list.append") (.ref a::us)) Q lE s:=by
 cases vs with
 |nil=>exact noS q
 |cons x r=>
  cases r with
  |cons _ _=>exact noS q
  |nil=>
   refine aF q λdx bJ q3 q=>?_;refine aL q λl q4 q=>?_;refine dM q λhf q=>?_;refine aL q λhN q5 q6=>?_;revert h;exists q6;intro h;refine ex1 (us1 p') λu e=>an2 e λe p1=>?_;rw[e];refine ex1 (iC R p1 q3) λcV z=>an3 z λe1 km hx=>?_;exact Gj km (cv.mono e1.bA .refl p) q4 hf q5 hx λfG P=>h _ _ (P.from e1 .refl (.refl s))
theorem VO(R:Rep T ρ L σ s.heap)(p:cv T ρ L ov (.ref a))(p':gF T ρ L vs us)(q:hJ 1 ov vs σ=some (v,aN))(h:∀u s',jV T ρ L s v aN u s'->Q u s'): ~~~(call (.builtin "list.pop") (.ref a::us)) Q lE s:=by
 cases vs with
 |cons _ _=>exact noS q
 |nil=>
  cases us with
  |cons _ _=>exact p'.elim
  |nil=>
   refine aL q λl q4 q=>?_;refine aL q λdx q5 q=>?_;refine dM q λhf q=>?_;refine aL q λhN q6 q7=>?_;revert h;exists q7;intro h;exact Vt R p q4 hf q5 q6 h
theorem GD(ok:dF T w)(hu:A.units+100<cLine)(R:Rep T ρ L σ s.heap)(p:cv T ρ L ov (.ref a)){k e:D}{u:Value}(more:Option (D×Value))(hm:∀p,more=some p->VR T.P T.cl ρ p.1 p.2)(p':VR T.P T.cl ρ k u)(he:e=(more.map (·.1)).getD .none)
  (q:ai (Xl σ k e) (σ.dictOf ov)=some (v,aN)) (h:∀u s',jV T ρ L s v aN u s'->Q u s'): ~~~(call (.builtin "dict.get") (.ref a::u::(more.map (·.2)).toList)) Q lE s:=by
 refine aL q λl q4 q=>?_;refine dM q λdk q=>?_;revert h;exists q;intro h;refine ex3 (gN R p (mx q4)) λda es nn z=>an5 z λe1 g rr hn hk=>?_;cases e1;subst he;have eP:=ok.P;rw[eP]at hm p' rr;refine BV (T:=T) (ρ:=ρ) ⟨R.nJ,by omega,g,rr,hk,dk,p',hn⟩ (by omega) more hm λv t hv=>h _ _ ?_;exact .now .refl .refl R ⟨_,_,rfl⟩ (by rw[<-eP]at hv;exact hv)
theorem VP(ok:dF T w)(hu:A.units+100<cLine)(R:Rep T ρ L σ s.heap)(p:cv T ρ L ov (.ref a))(p':gF T ρ L vs us)(q:hJ 2 ov vs σ=some (v,aN))(h:∀u s',jV T ρ L s v aN u s'->Q u s'): ~~~(call (.builtin "dict.get") (.ref a::us)) Q lE s:=by
 cases vs with
 |nil=>exact noS q
 |cons x r=>
  cases x<;>first|(cases r<;>exact noS q)|skip
  rename_i k;cases r with
  |nil=>
   refine ex1 (us1 p') λu e=>an2 e λe p1=>?_;subst e;exact GD ok hu R p none (λ_ z=>noS z) p1 rfl q h
  |cons y r=>
   cases r with
   |cons _ _=>cases y<;>exact noS q
   |nil=>
    cases us with
    |nil=>exact p'.elim
    |cons u us=>
     refine ex1 (us1 p'.2) λu' e=>an2 e λe p2=>?_;rw[e];cases y<;>first|exact noS q|skip
     exact GD ok hu R p (some (_,u')) (λp z=>fh z▸p2) p'.1 rfl q h
end
theorem JB(ok:dF T w)(rm:lR n A)(lk:td T tb prog w n X){e:E}{m:Nat}{es:Es}{o:Expr}{name:Str}{xs:List Expr}{ap p:Pos}(hx:name=tb.mn m)(hs:o7 o=true)(hp:∀y∈xs,fo y=true)(hl:xs.length<29)(AD:(ap.endLine==p.line)=true)
  (h1:bO T prog w A X env nm e o) (h2:kR T prog w A X env nm es xs):bO T prog w A X env nm (.aR e m es) (.Call (.Attribute o name ap) xs [] p):=by
 intro ls σ s ρ L v aN K F R q;subst hx;have hu:=rm.u;refine aF q λov aj q1 q=>?_;have q:Ri X m (iU X es) ls ov aj (gh aj ov)=some (v,aN):=q;cases hi:gh aj ov with
 |some C=>
  replace q:=hi▸q
  refine aL q λf hm q=>?_;refine aF q λvs aM q2 q=>?_;obtain⟨m1,m2,m3,m4⟩:=lk.aR C m f hm;have hex:=vj q;obtain⟨_,_,b3⟩:=lk.fn f hex;refine GA hs hp hl AD (h1.aV K F R q1 λu aC ao aQ a b c d fq bu br=>λpl=>?_);refine xA ok lk bu c fq hi hm ?_;refine jB (T:=T) (λh x=>rR m3 h x) hp ?_;refine h2.aV bu br c q2 λus bG aY eN a' b' c' d' p' ij j4=>⟨ij.in c',?_⟩;exact wpAny_mono (b3 A bG aY eN aM (ov::vs) (u::us) v aN rm ij c' ⟨cv.mono a'.bA b' fq,p'⟩ q) (λu fG P=>P.from (a.trans a') (b.trans b') (d.trans d')) λ_ _ z=>z
 |none=>
  rw[hi]at q;refine dM q λO7 q=>?_;refine aF q λvs aM q2 q=>?_;obtain⟨bm1,bm2,bm3⟩:=lk.bm;refine GA hs hp hl AD (h1.aV K F R q1 λu aC ao aQ a b c d fq bu br=>λpl=>?_);have args:∀(id:String) (Q:Value->Shared->Prop),(∀us bG aY eN,gf ao aY->aQ.le eN->Rep T aY eN aM bG.heap->cS aC bG->gF T aY eN vs us->~~~(call (.builtin id) (u::us)) Q lE bG)->
    ~~~(callWith p (.builtin id) [u] (backTo p (starEach xs env)) []) Q lE aC:=λid Q h=>by
   refine jB (T:=T) (λh _=>xr h id) hp ?_;exact h2.aV bu br c q2 λus bG aY eN a' b' c' d' p' ij j4=>⟨ij.in c',h us bG aY eN a' b' c' d' p'⟩
  cases y8:aj.ph ov with
  |none=>rw[y8]at O7;exact noB O7
  |some x=>
   replace O7:=y8▸O7
   cases x<;>first|exact noB O7|skip
   ·refine ex3 (eg c fq y8) λla vs0 k0 z=>an3 z λe g0 _=>?_;subst e;have hT:aC.TypeIs (.ref la) "list":=⟨_,g0,rfl⟩;have hd:∀a,Value.ref la= .ref a->∃o,aC.heap.get? a=some o/\o.dict=none:=λa e=>by cases e;exact⟨_,g0,rfl⟩
    refine Or.elim (Bool.or_eq_true_iff.mp (show(Nat.beq m mM||Nat.beq m EE)=true from O7)) (λhm=>?_) λhm=>?_<;>(have hm:=j_ hm;subst hm)
    ·rw[bm1];refine getMethod_builtin hT PySem.F.plainAttrs_list PySem.F.slot_list_append PySem.F.type_list_append hd ?_;exact args _ _ λus bG aY eN a' b' c' d' p'=>VN c' (cv.mono a'.bA b' fq) p' q λu fG P=>P.from (a.trans a') (b.trans b') (d.trans d')
    ·rw[bm2];refine getMethod_builtin hT PySem.F.plainAttrs_list PySem.F.slot_list_pop PySem.F.type_list_pop hd ?_;exact args _ _ λus bG aY eN a' b' c' d' p'=>VO c' (cv.mono a'.bA b' fq) p' q λu fG P=>P.from (a.trans a') (b.trans b') (d.trans d')
   ·refine ex3 (gN c fq y8) λla es0 k0 z=>an5 z λe g0 _ _ _=>?_;subst e;have hT:aC.TypeIs (.ref la) "dict":=⟨_,g0,rfl⟩;have hd:∀a,Value.ref la= .ref a->∃o,aC.heap.get? a=some o/\o.dict=none:=λa e=>by cases e;exact⟨_,g0,rfl⟩
    have hm:=j_ O7;subst hm;rw[bm3];refine getMethod_builtin hT PySem.F.plainAttrs_dict PySem.F.slot_dict_get PySem.F.type_dict_get hd ?_;exact args _ _ λus bG aY eN a' b' c' d' p'=>VP ok hu c' (cv.mono a'.bA b' fq) p' q λu fG P=>P.from (a.trans a') (b.trans b') (d.trans d')
end
def BX(n:Nat):Option Int->Nat
 |none=>0
 |some i=>min i.toNat n
def JC(n:Nat):Option Int->Nat
 |none=>n
 |some i=>min i.toNat n
theorem VQ{i:Int}{n:Nat}(h:0<=i):max 0 (min (if i<0 then i+(n:Int)else i) (n:Int))=((min i.toNat n:Nat):Int):=by
 obtain⟨k,rfl⟩:=Int.eq_ofNat_of_zero_le h;rw[if_neg (Int.not_lt.mpr h)];show max 0 (min (k:Int) (n:Int))=((min k n:Nat):Int);rcases Nat.le_total k n with h|h
 ·rw[Nat.min_eq_left h,Int.min_eq_left (Int.ofNat_le.mpr h),Int.max_eq_right (sG _)]
 ·rw[Nat.min_eq_right h,Int.min_eq_right (Int.ofNat_le.mpr h),Int.max_eq_right (sG _)]
theorem vm(items:Array Value)(lo hi:Option Int)(h1:∀i,lo=some i->0<=i)(h2:∀i,hi=some i->0<=i):
  slicePick items lo hi none=((items.toList.drop (BX items.size lo)).take (JC items.size hi-BX items.size lo)).toArray:=by
 have hb:sliceBounds lo hi none items.size=((BX items.size lo:Int),(JC items.size hi:Int),1):=by
  dsimp only[sliceBounds];have c:(1:Int)>0:=by decide
  simp only[Option.getD_none,c,if_true];congr 1
  ·cases lo with
   |none=>rfl
   |some i=>exact VQ (h1 i rfl)
  ·congr 1;cases hi with
   |none=>rfl
   |some i=>exact VQ (h2 i rfl)
 unfold slicePick;rw[hb];congr 1;dsimp only;dsimp only[sliceRange];have c:(1:Int)>0:=by decide
 simp only[c,if_true];rw[<-pick_run items (BX items.size lo) (JC items.size hi-BX items.size lo)];congr 1;have e1:((if (BX items.size lo:Int)<(JC items.size hi:Int)then((JC items.size hi:Int)-(BX items.size lo:Int)+1-1)/1 else 0):Int).toNat=JC items.size hi-BX items.size lo:=by
  split
  ·rw[Int.ediv_one,Int.add_sub_cancel];exact Int.toNat_sub _ _
  ·rename_i h;exact(Nat.sub_eq_zero_of_le (Int.ofNat_le.mp (Int.not_lt.mp h))).symm
 rw[e1];refine List.map_congr_left λk _=>?_;rw[Int.one_mul];rfl
def o8:D->Option Int->Prop
 | .none,o=>o=none
 | .int i,o=>o=some i/\0<=i
 |_,_=>False
theorem tZ{d:D}{o:Option Int}(h:o8 d o):∀i,o=some i->0<=i:=by
 intro i e;cases d<;>first|exact(h:False).elim|skip
 ·have h:=h;rw[h]at e;cases e
 ·obtain⟨h1,h2⟩:=h;rw[h1]at e;cases e;exact h2
def bound(n dflt:Nat)(d:D):Option Nat:=match d with
 | .none=>some dflt
 | .int i=>if 0<=i&&small i then some (min i.toNat n)else none
 |_=>none
theorem GF{n x:Nat}{d:D}(h:bound n 0 d=some x):∃o,o8 d o/\x=BX n o:=by
 cases d<;>first|change h|skip
 ·have h:some 0=some x:=h;cases h;exact⟨none,rfl,rfl⟩
 ·rename_i i;have h:(if 0<=i&&small i then some (min i.toNat n)else none)=some x:=h;split at h<;>first|change h|skip
  rename_i c;cases h;rw[bx,dK]at c;exact⟨some i,⟨rfl,c.1⟩,rfl⟩
theorem GH{n x:Nat}{d:D}(h:bound n n d=some x):∃o,o8 d o/\x=JC n o:=by
 cases d<;>first|change h|skip
 ·have h:some n=some x:=h;cases h;exact⟨none,rfl,rfl⟩
 ·rename_i i;have h:(if 0<=i&&small i then some (min i.toNat n)else none)=some x:=h;split at h<;>first|change h|skip
  rename_i c;cases h;rw[bx,dK]at c;exact⟨some i,⟨rfl,c.1⟩,rfl⟩
theorem BY{l ys:List D}{a b:D}(e:qK l a b=some ys):∃lo hi:Option Int,o8 a lo/\o8 b hi/\ys=(l.drop (BX l.length lo)).take (JC l.length hi-BX l.length lo):=by
 have e:(match bound l.length 0 a,bound l.length l.length b with
  |some a,some b=>some ((l.drop a).take (b-a))
  |_,_=>none)=some ys:=e
 cases e1:bound l.length 0 a with
 |none=>rw[e1]at e;exact noS e
 |some x=>
 cases e2:bound l.length l.length b with
 |none=>rw[e1,e2]at e;exact noS e
 |some y=>
 rw[e1,e2]at e;cases e;obtain⟨lo,h1,zq1⟩:=GF e1;rw[zq1];obtain⟨hi,h2,zq3⟩:=GH e2;rw[zq3];exact⟨lo,hi,h1,h2,rfl⟩
section
variable{T:bj}{tb:Tb}{n:Nat}{X:Cx}{env:Env}{nm:List Str}
def o9(T:bj)(prog:Program)(w:World)(A:Around)(X:Cx)(env:Env)(nm:List Str)(e:E)(x:Option Expr):Prop:=∀ls σ s ρ L v aN,hH T ρ->cL T ρ L env nm ls->Rep T ρ L σ s.heap->eval X e ls σ=some (v,aN)->
 ~~~(evalPart x env) (λu s'=>jV T ρ L s v aN u s') lE s
theorem t5{e:E}{x:Expr}(h:bO T prog w A X env nm e x):o9 T prog w A X env nm e (some x):=by intro ls σ s ρ L v aN K F R q;exact h ls σ s ρ L v aN K F R q
theorem t9{e:E}(h:RQ e=true):o9 T prog w A X env nm e none:=by intro ls σ s ρ L v aN K F R q;have e:=LQ h;subst e;exists q;rw[evalPart_none];exact wpAny_pure (.eU R (.refl s) kP)
theorem o9.aV{e:E}{x:Option Expr}(h:o9 T prog w A X env nm e x){ls:Ls}{σ aj:PS}{s:Shared}{ρ:bU}{L:Lo}{v:PV}(K:hH T ρ)(F:cL T ρ L env nm ls)(R:Rep T ρ L σ s.heap)(q:eval X e ls σ=some (v,aj)){Q:Value->Shared->Prop}
  (k:∀u aC ao aQ,gf ρ ao->L.le aQ->Rep T ao aQ aj aC.heap->cS s aC->cv T ao aQ v u->hH T ao->cL T ao aQ env nm ls->Q u aC): ~~~(evalPart x env) Q lE s:=by
 refine wpAny_mono (h ls σ s ρ L v aj K F R q) (λu aC p=>?_) λ_ _ z=>z;obtain⟨ao,aQ,a,b,c,d,z⟩:=p;exact k u aC ao aQ a b c d z (K.mono a) (F.mono a b)
end
section
variable{T:bj}{tb:Tb}{n:Nat}{X:Cx}{env:Env}{nm:List Str}
theorem t_{ρ:bU}{L:Lo}{d:D}{o:Option Int}{u:Value}(h:o8 d o)(p:cv T ρ L (.d d) u):IsPart u o:=by
 have p:VR T.P T.cl ρ d u:=p;cases d<;>first|exact(h:False).elim|skip
 ·have h:=h;rw[h];subst p;exact .none
 ·obtain⟨zq16,_⟩:=h;rw[zq16];obtain⟨t,zq18⟩:=iD p;rw[zq18];exact .int _ t
theorem O8{e lo hi:E}{o:Expr}{l h:Option Expr}{p p':Pos}(h1:bO T prog w A X env nm e o)(h2:o9 T prog w A X env nm lo l)(h3:o9 T prog w A X env nm hi h):
  bO T prog w A X env nm (.Ei e lo hi) (.Subscript o (.Slice l h none p) p'):=by
 intro ls σ s ρ L v aN K F R q;refine aF q λkj aj q1 qa=>?_;refine aF qa λy7 aM q2 qb=>?_;refine aF qb λv₃ bJ q3 qc=>?_;clear q qa qb
 rename ((_:Option (PV×PS))=_)=>q
 refine Subscript_ (h1.aV K F R q1 λu aC ao aQ a b c d fq bu br=>?_);refine wpAny_Slice (h2.aV bu br c q2 λul bG aY eN a' b' c' d' GI ij j4=>h3.aV ij j4 c' q3 λuh fG cV lQ AE AF O9 LR JD JE p_=>?_);rw[evalPart_none];refine wpAny_pure ?_;have R3:Rep T cV lQ bJ (fG.heap.push {cls:= .type "slice",data:= .fields #[ul,uh,.none]}):=O9.push _;have sl:(fG.heap.push {cls:= .type "slice",data:= .fields #[ul,uh,.none]}).IsSliceOf fG.heap.objs.size ul uh .none:=Heap.IsSliceOf.new ..;have LS:=cv.mono (a'.bA.trans AE.bA) (b'.trans AF) fq;have LU:=cv.mono AE.bA AF GI;obtain⟨ops,hs⟩:=Vs (.Slice l h none p) u (.ref fG.heap.objs.size);cases y7<;>first|change q|skip
 rename_i da;cases v₃<;>first|change q|skip
 rename_i db;refine aL q λc y8 q=>?_;cases c<;>first|change q|skip
 ·rename_i tl;obtain⟨i,rfl⟩:∃i,da= .int i:=by cases da<;>first|exact⟨_,rfl⟩|change q
  obtain rfl:db= .none:=by cases db<;>first|rfl|change q
  refine dM q λhc q=>?_;exists q;rw[bx,bx,dK,dK]at hc;obtain⟨ta,vs,rfl,g,rr⟩:=nH (h:=(fG.heap.push {cls:= .type "slice",data:= .fields #[ul,uh,.none]})) R3 LS y8;obtain⟨t,rfl⟩:=bV LU;have hn:uh= .none:=by have JD:=JD;exact JD
  subst hn;have hi0:(i.toNat:Int)=i:=by omega
  refine tail_any (T:="tuple") ⟨_,g,rfl⟩ slot_tuple_getitem.lookup ?_ hs;refine getItem_tuple_from (a:=i.toNat) (rI g) (by rw[hi0];exact sl) (by omega) (by rw[rr.size];omega) ?_ (by rw[rr.size];have:=dh hc.2;have:=dG;lia);obtain⟨aJ,x,y,z⟩:=nK (l:=tl.drop i.toNat) (vs:=(vs.toList.drop i.toNat).toArray) (h':=(fG.heap.push {cls:= .type "slice",data:= .fields #[.int i t,.none,.none]}).push (lN (vs.toList.drop i.toNat).toArray)) R3 R3.new
   (λb o _ _ e=>Heap.get?_push_of_some _ e) (Heap.get?_push_size _ rfl) (dA.drop _ rr)
  exact .now ((a.trans (a'.trans AE)).trans x) (b.trans (b'.trans AF)) y ((d.trans (d'.trans LR)).trans ⟨_,_,rfl⟩) z
 ·rename_i tl;refine aL q λys hy q=>?_;refine dM q λhf q=>?_;obtain⟨ta,vs,k,rfl,g,rr⟩:=eg (h:=(fG.heap.push {cls:= .type "slice",data:= .fields #[ul,uh,.none]})) R3 LS y8;obtain⟨lo',Yh,e1,e2,e3⟩:=BY hy;subst e3;refine tail_any (T:="list") ⟨_,g,rfl⟩ slot_list_getitem.lookup ?_ hs;refine wpAny_getItem_list_slice (gE g) sl (t_ e1 LU) (t_ e2 JD) .none (by decide) ?_ (by rw[rr.size];have:=dh hf;have:=dG;lia);rw[vm vs lo' Yh (tZ e1) (tZ e2),rr.size];obtain⟨aJ,L',x,x',y,z⟩:=jz (h':=(fG.heap.push {cls:= .type "slice",data:= .fields #[ul,uh,.none]}).push (gT ((vs.toList.drop (BX tl.length lo')).take (JC tl.length Yh-BX tl.length lo')).toArray 0)) (k:=0) R3 R3.new
   (λb o _ _ e=>Heap.get?_push_of_some _ e) (Heap.get?_push_size _ rfl) (dA.take _ (dA.drop _ rr)) q
  exact .now ((a.trans (a'.trans AE)).trans x) ((b.trans (b'.trans AF)).trans x') y ((d.trans (d'.trans LR)).trans ⟨_,_,rfl⟩) z
end
section
variable{T:bj}{tb:Tb}{n:Nat}{X:Cx}{env:Env}{nm:List Str}
theorem GJ(lk:td T tb prog w n X){ρ:bU}{L:Lo}{σ:PS}{h:Heap}(K:hH T ρ)(R:Rep T ρ L σ h){a:Addr}(f:h.get? a=none):a≠sysModules:=by obtain⟨o,e⟩:=yb.mp lk.sys;exact yO ⟨o,R.bA (K _ _ e)⟩ f
theorem JF(lk:td T tb prog w n X){p:Pos}:bO T prog w A X env nm (.sj .nil) (.Dict [] [] p):=by intro ls σ s ρ L v aN K F R q;have q:PS.newD σ []=some (v,aN):=q;refine wpAny_Dict_empty ?_;obtain⟨aJ,L',x,x',y,z⟩:=xl (h':=s.heap.push (eV #[] 0)) R R.new (λb o _ _ e=>Heap.get?_push_of_some _ e) (Heap.get?_push_size _ rfl) (l:=[]) trivial kf.nil (GJ lk K R (oZ _)) q;exact .now x x' y ⟨_,_,rfl⟩ z
theorem JG(ok:dF T w)(lk:td T tb prog w n X)(hu:A.units+100<cLine){a b:E}{k y:Expr}{p:Pos}(h1:bO T prog w A X env nm a k)(h2:bO T prog w A X env nm b y):
  bO T prog w A X env nm (.sj (.cons a (.cons b .nil))) (.Dict [some k] [y] p):=by
 intro ls σ s ρ L v aN K F R q;refine aF q λvs bJ q0 q=>?_;refine aF q0 λkj aj q1 q0=>?_;refine aF q0 λus aM q02 q0=>?_;cases q0;refine aF q02 λy7 σ₂' q2 q02=>?_;cases q02;refine aF q λys bJ q3 q=>?_;refine aL q λl ql q=>?_;have VS:=GJ lk K R (oZ s.heap);have hnew:=R.new;obtain⟨R0,GK⟩:=R.yL (eV #[] 0);have K0:=K.mono GK;have F0:=F.mono GK .refl (L':=L);refine wpAny_Dict_any rfl rfl (by simp) (Nat.zero_lt_succ _) ?_;show wpAny _ _ (evalPairs [(PySem.eval k env,do let x<-PySem.eval y env;standAt p;pure x)]) _ _ _;refine wpAny_bind ?_;refine h1.aV (s:={s with heap:=s.heap.push {cls:= .type "dict",data:= .dict #[]}}) K0 F0 R0 q1 λu aC ao aQ a1 b1 c1 d1 fq bu br=>?_;refine wpAny_bind (wpAny_holding (wpAny_bind ?_));refine h2.aV bu br c1 q2 λu' bG aY eN a2 b2 c2 d2 GI ij j4=>?_;refine wpAny_bind (wpAny_standAt (wpAny_pure ?_));refine wpAny_bind (wpAny_holding (wpAny_pure (wpAny_pure ?_)));obtain⟨cV,a3,km,r3⟩:=kO c2 (xs:=[kj,y7]) (vs:=[u,u']) ⟨cv.mono a2.bA b2 fq,GI,trivial⟩ q3;cases ys with
 |nil=>exact r3.elim
 |cons dk ys=>
  cases ys with
  |nil=>exact absurd r3.2 (by exact id)
  |cons dv ys=>
   cases ys with
   |cons _ _=>exact absurd r3.length (by simp)
   |nil=>
    obtain⟨vk,r3⟩:=r3;obtain⟨vv,_⟩:=r3;refine dM ql λuN ql=>?_;cases ql;have fb:=a3.aX _ _ (a2.aX _ _ (a1.aX _ _ aO));have g:=km.aX fb;have D0:jj dk []=true:=by unfold jj;rw[uN];rfl
    show wpAny _ _ (forIn [(u,u')] PUnit.unit _) _ _ _;rw[List.forIn_cons];refine wpAny_bind (wpAny_bind ?_);refine Ask.set (cl:=T.cl) (ρ:=cV) (l:=[]) (k:=dk) (x:=dv) ⟨km.nJ,by omega,g,trivial,kf.nil,D0,ok.P▸vk,VS⟩ (ok.P▸vv) rfl λh' t vf n' g' sb r'=>?_;refine wpAny_pure (wpAny_pure ?_);have R4:Rep T (up cV s.heap.objs.size .free) eN bJ bG.heap:=km.takes (.inr ⟨_,fb⟩) (λ_ _ _ _ e=>e) trivial;have ne:∀c o,(ρ c= .bA o\/ρ c= .aX o)->c≠s.heap.objs.size:=λc o hc e=>by rw[e,hnew]at hc;rcases hc with hc|hc<;>cases hc
    have le4:gf ρ (up cV s.heap.objs.size .free):=⟨λc o e=>by rw[aZ (ne c o (.inl e))];exact(((GK.trans a1).trans a2).trans a3).bA c o e,λc o e=>by rw[aZ (ne c o (.inr e))];exact(((GK.trans a1).trans a2).trans a3).aX c o e⟩;have vk4:gc T.P T.cl (up cV s.heap.objs.size .free) (dput dk dv []) vf.toList:=gc.mono (dw λo=>by rw[fb];intro z;cases z) (ok.P▸r');obtain⟨aJ,L',x,x',yy,z⟩:=xl (h':=h') R4 aO (λc o hc hf e=>sb.extBut c o hc e) g' vk4 (kf.nil.put D0) VS q;exact .now (le4.trans x) ((b1.trans b2).trans x') yy (((cS.mk s _ s.toks).trans (d1.trans d2)).trans ⟨_,_,rfl⟩) z
end
section
variable{T:bj}{ρ:bU}{L:Lo}{σ:PS}{h:Heap}
theorem Rep.AG(R:Rep T ρ L σ h){n:Nat}{t₀:TO}{o:Obj}(e:σ.tm[n]?=some t₀)(ow:ρ (L.t n)= .own (.t n))(ho:h.get? (L.t n)=some o):
  Rep T (up ρ (L.t n) (.aX o)) L ⟨σ.pm,σ.tm.set n .dead⟩ h/\gf ρ (up ρ (L.t n) (.aX o)):=by
 have hn:=bq e;have im:bf ρ (up ρ (L.t n) (.aX o)):=dw λo'=>by rw[ow];intro z;cases z
 refine⟨⟨R.np,by rw[R.nt,gq],λa=>?_,λk m e=>(R.ax k m e).keep im Lo.le.refl (by rw[R.np];exact bq e) ?_,λk m e=>?_⟩,im,λa o' e=>?_⟩
 ·by_cases q:a=L.t n
  ·subst q;rw[aO];exact ho
  ·rw[aZ q];exact R.role a
 ·intro a g hg q;have gU:a≠L.t n:=λz=>by rw[z,ow]at q;cases q;rcases hg with hg|hg<;>cases hg
  exact⟨by rw[aZ gU];exact q,λo ho=>ho⟩
 ·by_cases hk:k=n
  ·subst hk;rw[pJ hn]at e;cases e;trivial
  ·replace e:=(bp (Ne.symm hk))▸e
   refine(R.aI k m e).keep im Lo.le.refl (by rw[R.nt];exact bq e) λa q=>?_;have gU:a≠L.t n:=λz=>by rw[z,ow]at q;cases q;exact hk rfl
   exact⟨by rw[aZ gU];exact q,λo ho=>ho⟩
 ·have gU:a≠L.t n:=λz=>by rw[z,ow]at e;cases e
  rw[aZ gU];exact e
theorem Rep.BZ(R:Rep T ρ L σ h){n:Nat}{t:TO}{o:Obj}(fr:ρ (L.t n)= .aX o)(c:∀aJ,bf ρ aJ->aJ (L.t n)= .own (.t n)->oW T aJ L h n t):
  Rep T (up ρ (L.t n) (.own (.t n))) L ⟨σ.pm,σ.tm.set n t⟩ h/\bf ρ (up ρ (L.t n) (.own (.t n)))/\∀a o',a≠L.t n->ρ a= .aX o'->up ρ (L.t n) (.own (.t n)) a= .aX o':=by
 have im:bf ρ (up ρ (L.t n) (.own (.t n))):=dw λo'=>by rw[fr];intro z;cases z
 refine⟨⟨R.np,by rw[R.nt,gq],λa=>?_,λk m e=>(R.ax k m e).keep im Lo.le.refl (by rw[R.np];exact bq e) ?_,λk m e=>?_⟩,im,λa o' ha e=>by rw[aZ ha];exact e⟩
 ·by_cases q:a=L.t n
  ·subst q;rw[aO];exact⟨o,R.aX fr⟩
  ·rw[aZ q];exact R.role a
 ·intro a g hg q;have gU:a≠L.t n:=λz=>by rw[z,fr]at q;cases q
  exact⟨by rw[aZ gU];exact q,λo ho=>ho⟩
 ·by_cases hk:k=n
  ·subst hk;have hn:=bq e;rw[gq]at hn;rw[pJ hn]at e;cases e;exact c _ im aO
  ·replace e:=(bp (Ne.symm hk))▸e
   refine(R.aI k m e).keep im Lo.le.refl (by rw[R.nt];exact bq e) λa q=>?_;have gU:a≠L.t n:=λz=>by rw[z,fr]at q;cases q
   exact⟨by rw[aZ gU];exact q,λo ho=>ho⟩
theorem Rep.JH(R:Rep T ρ L σ h){n:Nat}{l:List D}{o:Obj}(e:σ.pm[n]?=some (.list l))(ow:ρ (L.p n)= .own (.p n))(ho:h.get? (L.p n)=some o):
  Rep T (up ρ (L.p n) (.aX o)) L ⟨σ.pm.set n .dead,σ.tm⟩ h/\gf ρ (up ρ (L.p n) (.aX o)):=by
 have hn:=bq e;have im:bf ρ (up ρ (L.p n) (.aX o)):=dw λo'=>by rw[ow];intro z;cases z
 refine⟨⟨by rw[R.np,gq],R.nt,λa=>?_,λk m e=>?_,λk m e=>(R.aI k m e).keep im Lo.le.refl (by rw[R.nt];exact bq e) ?_⟩,im,λa o' e=>?_⟩
 ·by_cases q:a=L.p n
  ·subst q;rw[aO];exact ho
  ·rw[aZ q];exact R.role a
 ·by_cases hk:k=n
  ·subst hk;rw[pJ hn]at e;cases e;trivial
  ·rw[bp (Ne.symm hk)]at e;refine(R.ax k m e).keep im Lo.le.refl (by rw[R.np];exact bq e) λa g hg q=>?_;have gU:a≠L.p n:=λz=>by rw[z,ow]at q;cases q;rcases hg with hg|hg<;>cases hg;exact hk rfl
   exact⟨by rw[aZ gU];exact q,λo ho=>ho⟩
 ·intro a q;have gU:a≠L.p n:=λz=>by rw[z,ow]at q;cases q
  exact⟨by rw[aZ gU];exact q,λo ho=>ho⟩
 ·have gU:a≠L.p n:=λz=>by rw[z,ow]at e;cases e
  rw[aZ gU];exact e
theorem Rep.B1(R:Rep T ρ L σ h){n:Nat}{t:MO}{o:Obj}(fr:ρ (L.p n)= .aX o)(c:∀aJ,bf ρ aJ->aJ (L.p n)= .own (.p n)->oV T aJ L h n t):
  Rep T (up ρ (L.p n) (.own (.p n))) L ⟨σ.pm.set n t,σ.tm⟩ h/\bf ρ (up ρ (L.p n) (.own (.p n)))/\∀a o',a≠L.p n->ρ a= .aX o'->up ρ (L.p n) (.own (.p n)) a= .aX o':=by
 have im:bf ρ (up ρ (L.p n) (.own (.p n))):=dw λo'=>by rw[fr];intro z;cases z
 refine⟨⟨by rw[R.np,gq],R.nt,λa=>?_,λk m e=>?_,λk m e=>(R.aI k m e).keep im Lo.le.refl (by rw[R.nt];exact bq e) ?_⟩,im,λa o' ha e=>by rw[aZ ha];exact e⟩
 ·by_cases q:a=L.p n
  ·subst q;rw[aO];exact⟨o,R.aX fr⟩
  ·rw[aZ q];exact R.role a
 ·by_cases hk:k=n
  ·subst hk;have hn:=bq e;rw[gq]at hn;rw[pJ hn]at e;cases e;exact c _ im aO
  ·rw[bp (Ne.symm hk)]at e;refine(R.ax k m e).keep im Lo.le.refl (by rw[R.np];exact bq e) λa g hg q=>?_;have gU:a≠L.p n:=λz=>by rw[z,fr]at q;cases q
   exact⟨by rw[aZ gU];exact q,λo ho=>ho⟩
 ·intro a q;have gU:a≠L.p n:=λz=>by rw[z,fr]at q;cases q
  exact⟨by rw[aZ gU];exact q,λo ho=>ho⟩
end
structure Walk (T:bj) (prog:Program) (w:World) (B3 ρ:bU) (items:List D) (I:Addr) (h:Heap):Prop where
 ex:∃c o,(∀o,B3 c≠.aX o)/\ρ I= .aX o/\(c=I\/∃oc,ρ c= .bA oc\/ρ c= .aX oc)/\∀A:Around,A.handled=none->∃fp,(∀b∈fp,b=I\/b=c)/\Iter prog w A T.P T.cl ρ items I fp h
section
variable{T:bj}{ρ:bU}{L:Lo}{σ aN:PS}
def gp(T:bj)(ρ:bU)(lk:Lock)(L:Lo):Prop:=match lk with
 | .none=>True
 | .aI n t=>∃o,ρ (L.t n)= .aX o/\∀h aJ L',bf ρ aJ->L.le L'->h.get? (L'.t n)=some o->aJ (L'.t n)= .own (.t n)->oW T aJ L' h n t
 | .ax n m=>∃o,ρ (L.p n)= .aX o/\∀h aJ L',bf ρ aJ->L.le L'->h.get? (L'.p n)=some o->aJ (L'.p n)= .own (.p n)->oV T aJ L' h n m
theorem B4{ρ aJ:bU}{items:List D}{I:Addr}{fp:List Addr}{h:Heap}{P:Params}{cl:Nat->Addr}(k:bf ρ aJ)(x:Iter prog w A P cl ρ items I fp h):Iter prog w A P cl aJ items I fp h:=by obtain⟨St,W,st,ex⟩:=x.ex;exact⟨St,gG W λi v _ ⟨x,e,r⟩=>⟨x,e,VR.mono k r⟩,st,ex⟩
def OpenK(T:bj)(prog:Program)(w:World)(ρ:bU)(L:Lo)(s:Shared)(Q:Value->Shared->Prop)(items:List D)(aN:PS)(lk:Lock):Prop:=
 ∀I aC ao,gf ρ ao->Rep T ao L aN aC.heap->cS s aC->ρ I= .free->Walk T prog w ρ ao items I aC.heap->gp T ao lk L->Q (.ref I) aC
theorem gp.mono{ρ aJ:bU}{lk:Lock}(r:gf ρ aJ)(cl:gp T ρ lk L):gp T aJ lk L:=by
 cases lk with
 |none=>trivial
 |aI n t=>exact ex1 cl λot z=>⟨ot,r.aX _ _ z.1,λh tf L' k l=>z.2 h tf L' (r.bA.trans k) l⟩
 |ax n m=>exact ex1 cl λot z=>⟨ot,r.aX _ _ z.1,λh tf L' k l=>z.2 h tf L' (r.bA.trans k) l⟩
section
variable{items:List D}{lk:Lock}{Q:Value->Shared->Prop}{c:Addr}{aJ:bU}
theorem nN(R:Rep T ρ L σ s.heap)(h:OpenK T prog w ρ L s Q items aN lk)(nf:∀o,ρ c≠.aX o)(le:gf ρ aJ)(R':Rep T aJ L aN s.heap)(cl:gp T aJ lk L)(hc:∃oc,aJ c= .bA oc\/aJ c= .aX oc){o:Obj}(ho:o.isFreed=false)
  (hI:∀A',A'.handled=none->∃fp,(∀b∈fp,b=s.heap.objs.size\/b=c)/\Iter prog w A' T.P T.cl ρ items s.heap.objs.size fp (s.heap.push o)):Q (.ref s.heap.objs.size) {s with heap:=s.heap.push o}:=by
 have fr:=R'.new;refine an2 (R'.yL o ho) λR1 r=>?_;refine h s.heap.objs.size _ (up aJ s.heap.objs.size (.aX o)) (le.trans r) R1 ⟨_,_,rfl⟩ R.new ⟨c,o,nf,aO,.inr ?_,λA' hA=>?_⟩ (cl.mono r)
 ·refine ex1 hc λoc hc=>⟨oc,?_⟩;have:c≠s.heap.objs.size:=λz=>by rw[z,fr]at hc;rcases hc with hc|hc<;>cases hc
  rw[aZ this];exact hc
 ·exact ex1 (hI A' hA) λfp z=>⟨fp,z.1,B4 (le.trans r).bA z.2⟩
theorem y_(hP:T.P=w.params)(hh:A.handled=none)(R:Rep T ρ L σ s.heap)(h:OpenK T prog w ρ L s Q items aN lk)(nf:∀o,ρ c≠.aX o)(le:gf ρ aJ)(R':Rep T aJ L aN s.heap)(cl:gp T aJ lk L)(hc:∃oc,aJ c= .bA oc\/aJ c= .aX oc)
  {vs:Array Value} {k:Nat} (g:s.heap.get? c=some (gT vs k)) (r:dA T.P T.cl ρ items vs.toList): ~~~(pyIter (.ref c)) Q lE s:=
 BQ hh g (hP▸r) λ_ ho hI=>nN R h nf le R' cl hc ho λA' hA=>⟨_,λb hb=>by simpa using hb,hP▸hI A' hA⟩
theorem GL(hP:T.P=w.params)(hh:A.handled=none)(R:Rep T ρ L σ s.heap){l:List (D×D)}(h:OpenK T prog w ρ L s Q (l.map (·.1)) aN lk)(nf:∀o,ρ c≠.aX o)(le:gf ρ aJ)(R':Rep T aJ L aN s.heap)(cl:gp T aJ lk L)(hc:∃oc,aJ c= .bA oc\/aJ c= .aX oc)
  {es:Array DictEntry} {k:Nat} (g:s.heap.get? c=some (eV es k)) (r:gc T.P T.cl ρ l es.toList) (ok:kf l) (f:jk l=true) (ns:c≠sysModules): ~~~(pyIter (.ref c)) Q lE s:=
 tU hh g (hP▸r) ok f ns λ_ ho hI=>nN R h nf le R' cl hc ho λA' hA=>⟨_,λb hb=>by simpa using hb,hP▸hI A' hA⟩
theorem vn{a:Addr}{o:Obj}(i:ρ a= .bA o):∀o,ρ a≠.aX o:=λo z=>by rw[i]at z;cases z
theorem za{a:Addr}{g:Tag}(i:ρ a= .own g):∀o,ρ a≠.aX o:=λo z=>by rw[i]at z;cases z
theorem O_(hP:T.P=w.params)(hh:A.handled=none)(K:hH T ρ)(R:Rep T ρ L σ s.heap){v:PV}{u:Value}(p:cv T ρ L v u)(e:dY σ v=some (items,aN,lk))(h:OpenK T prog w ρ L s Q items aN lk): ~~~(pyIter u) Q lE s:=by
 clear K;cases v with
 |d x=>
  have p:=p;cases x<;>first|exact noS e|skip
  ·revert h;exists e;intro h;refine ex2 p λa vs z=>an3 z λe i r=>?_;rw[e];exact iter_tuple hh (R.bA i) (hP▸r) λo ho hI=>nN R h (vn i) .refl R trivial ⟨_,.inl i⟩ ho λA' hA=>⟨_,λb hb=>by simpa using hb,hP▸hI A' hA⟩
  ·revert h;exists e;intro h;refine ex3 p λa vs k z=>an3 z λe i r=>?_;rw[e];exact y_ hP hh R h (vn i) .refl R trivial ⟨_,.inl i⟩ (R.bA i) r
  ·refine dM e λf e=>?_;revert h;exists e;intro h;refine ex3 p λa es k z=>an5 z λe i r ns ok=>?_;rw[e];exact GL hP hh R h (vn i) .refl R trivial ⟨_,.inl i⟩ (R.bA i) r ok f ns
  ·refine dM e λhc e=>?_;revert h;exists e;intro h;rw[bx,dK,dK]at hc;refine ex4 p λa t x y z=>an2 z λe i=>?_;rw[e];exact yQ (cl:=T.cl) (ρ:=ρ) hh (R.bA i) hc.1 hc.2 λo ho hI=>nN R h (vn i) .refl R trivial ⟨_,.inl i⟩ ho λA' hA=>⟨_,λb hb=> .inl (by simpa using hb),hP▸hI A' hA⟩
 |aI n=>
  refine an2 p λp1 e=>?_;subst e;refine aL e λy q e=>?_;clear p;have Rn:=R.aI n _ q;cases y<;>first|exact noS e|skip
  ·revert h;exists e;intro h;refine an2 Rn λow z=>ex2 z λvs k z=>an2 z λg r=>?_;refine an2 (R.AG q ow g) λR' le=>?_;exact y_ hP hh R h (za ow) le R' ⟨_,aO,λh tf L' kk ll gg oo=>⟨oo,vs,k,gg,dA.mono (le.bA.trans kk) r⟩⟩ ⟨_,.inr aO⟩ g r
  ·refine dM e λf e=>?_;revert h;exists e;intro h;refine an3 Rn λow x z=>an2 x λns ok=>ex2 z λes k z=>an2 z λg r=>?_;refine an2 (R.AG q ow g) λR' le=>?_;exact GL hP hh R h (za ow) le R' ⟨_,aO,λh tf L' kk ll gg oo=>⟨oo,⟨by rw[ll.t n p1];exact ns,ok⟩,es,k,gg,gc.mono (le.bA.trans kk) r⟩⟩ ⟨_,.inr aO⟩ g r ok f ns
 |ax n=>
  refine an2 p λp1 e=>?_;subst e;refine aL e λy q e=>?_;clear p;have Rn:=R.ax n _ q;cases y<;>first|exact noS e|skip
  revert h;exists e;intro h;refine an2 Rn λow z=>ex2 z λvs k z=>an2 z λg r=>?_;refine an2 (R.JH q ow g) λR' le=>?_;exact y_ hP hh R h (za ow) le R' ⟨_,aO,λh tf L' kk ll gg oo=>⟨oo,vs,k,gg,dA.mono (le.bA.trans kk) r⟩⟩ ⟨_,.inr aO⟩ g r
end
end
structure At (T:bj) (prog:Program) (w:World) (A:Around) (ρ:bU) (items:List D) (I c:Addr) (i:Nat) (h:Heap):Prop where
 it:∃o,ρ I= .aX o
 con:c=I\/∃oc,ρ c= .bA oc\/ρ c= .aX oc
 ex:∃(fp:List Addr) (St:Nat->Heap->Prop),(∀b∈fp,b=I\/b=c)/\Walks prog w A I fp [I] items.length (λi v=>∃x,items[i]?=some x/\VR T.P T.cl ρ x v) St/\St i h/\∀i h,St i h->∃o,h.get? I=some o/\Gl o.cls=true
section
variable{T:bj}{ρ aJ:bU}{L:Lo}{σ:PS}{items:List D}{I:Addr}
theorem Walk.at0{B3:bU}(W:Walk T prog w B3 ρ items I s.heap)(hh:A.handled=none):∃c,(∀o,B3 c≠.aX o)/\At T prog w A ρ items I c 0 s.heap:=by obtain⟨c,o,nf,h1,h2,h3⟩:=W.ex;obtain⟨fp,h4,h5⟩:=h3 A hh;obtain⟨St,a,b,d⟩:=h5.ex;exact⟨c,nf,⟨o,h1⟩,h2,fp,St,h4,a,b,d⟩
theorem At.keep{c:Addr}{i:Nat}{h h':Heap}(W:At T prog w A ρ items I c i h)(R:Rep T ρ L σ h){L':Lo}{aN:PS}(R':Rep T aJ L' aN h')(im:bf ρ aJ)(fI:∀o,ρ I= .aX o->aJ I= .aX o)(fc:∀o,ρ c= .aX o->aJ c= .aX o):At T prog w A aJ items I c i h':=by
 obtain⟨⟨o,h1⟩,h2,fp,St,h4,a,b,d⟩:=W;refine⟨⟨o,fI o h1⟩,h2.imp id λ⟨oc,z⟩=>⟨oc,z.imp (im _ _) (fc oc)⟩,fp,St,h4,gG a λi v _ ⟨x,e,r⟩=>⟨x,e,VR.mono im r⟩,a.frame _ _ _ b λz hz oz e=>?_,d⟩;have same:∀(z:Addr) (oz oo:Obj),h.get? z=some oz->h.get? z=some oo->h'.get? z=some oo->h'.get? z=some oz:=λz oz oo e1 e2 e3=>by rw[e1]at e2;cases e2;exact e3
 rcases h4 z hz with rfl|rfl
 ·exact same _ _ _ e (R.aX h1) (R'.aX (fI o h1))
 ·rcases h2 with rfl|⟨oc,h2|h2⟩
  ·exact same _ _ _ e (R.aX h1) (R'.aX (fI o h1))
  ·exact same _ _ _ e (R.bA h2) (R'.bA (im _ _ h2))
  ·exact same _ _ _ e (R.aX h2) (R'.aX (fc oc h2))
theorem Pa{c:Addr}{i:Nat}(W:At T prog w A ρ items I c i s.heap)(R:Rep T ρ L σ s.heap){x:D}(hx:items[i]?=some x){Q:Option Value->Shared->Prop}{E:Value->Shared->Prop}
  (h:∀v aC ao,bf ρ ao->(∀a o,a≠I->ρ a= .aX o->ao a= .aX o)->Rep T ao L σ aC.heap->cS s aC->VR T.P T.cl ao x v->At T prog w A ao items I c (i+1) aC.heap->Q (some v) aC): ~~~(pyNext (.ref I)) Q E s:=by
 obtain⟨⟨o,h1⟩,h2,fp,St,h4,a,b,d⟩:=W;have hi:=(fX.mp hx).1;refine a.item i s Q E hi b λv h' tk ⟨x',e,r⟩ st k=>?_;rw[hx]at e;cases e;obtain⟨o',g',_⟩:=d _ _ st;have im:bf ρ (up ρ I (.aX o')):=dw λq=>by rw[h1];intro z;cases z
 have R':Rep T (up ρ I (.aX o')) L σ h':=R.takes (.inr ⟨o,h1⟩) (λz oz hz _ e=>k z oz (by simpa using hz) e) g';refine h v _ _ im (λz oz hz e=>by rw[aZ hz];exact e) R' ⟨_,_,rfl⟩ (VR.mono im r) ⟨⟨o',aO⟩,?_,fp,St,h4,gG a λi v _ ⟨x,e,r⟩=>⟨x,e,VR.mono im r⟩,st,d⟩;rcases h2 with rfl|⟨oc,z⟩
 ·exact .inl rfl
 ·by_cases hc:c=I
  ·exact .inl hc
  ·exact .inr ⟨oc,z.imp (λe=>by rw[aZ hc];exact e) (λe=>by rw[aZ hc];exact e)⟩
theorem Pb{c:Addr}{i:Nat}(W:At T prog w A ρ items I c i s.heap)(R:Rep T ρ L σ s.heap)(hi:i=items.length){Q:Option Value->Shared->Prop}{E:Value->Shared->Prop}
  (h:∀aC ao,bf ρ ao->(∀a o,a≠I->ρ a= .aX o->ao a= .aX o)->Rep T ao L σ aC.heap->cS s aC->Q none aC): ~~~(pyNext (.ref I)) Q E s:=by
 obtain⟨⟨o,h1⟩,h2,fp,St,h4,a,b,d⟩:=W;subst hi;refine a.done s Q E b λh' tk k=>?_;have im:bf ρ (up ρ I .free):=dw λq=>by rw[h1];intro z;cases z
 have R':Rep T (up ρ I .free) L σ h':=R.takes (.inr ⟨o,h1⟩) (λz oz hz _ e=>k z oz (by simpa using hz) e) trivial;exact h _ _ im (λz oz hz e=>by rw[aZ hz];exact e) R' ⟨_,_,rfl⟩
theorem JI{lk:Lock}(C:gp T ρ lk L)(R:Rep T ρ L σ s.heap):∃ao,bf ρ ao/\Rep T ao L (itClose σ lk) s.heap/\
  ∀a o,ρ a= .aX o->(match lk with| .none=>True| .aI n _=>a≠L.t n| .ax n _=>a≠L.p n)->ao a= .aX o:=by
 cases lk with
 |none=>exact⟨ρ,.refl,R,λ_ _ e _=>e⟩
 |aI n t=>
  obtain⟨o,c1,c2⟩:=C;obtain⟨R',im,fr⟩:=R.BZ c1 λaJ k ow=>c2 _ aJ L k .refl (R.aX c1) ow;exact⟨_,im,R',λa o e z=>fr a o z e⟩
 |ax n m=>
  obtain⟨o,c1,c2⟩:=C;obtain⟨R',im,fr⟩:=R.B1 c1 λaJ k ow=>c2 _ aJ L k .refl (R.aX c1) ow;exact⟨_,im,R',λa o e z=>fr a o z e⟩
end
def iF(env:Env):my->List (Str×Addr)->List (Str×Addr)
 |[],acc=>acc
 |(n,k)::r,acc=>if k== .free then iF env r ((n,(env.cells.lookup n).getD 0)::acc)else iF env r acc
theorem B5(env:Env)(ns:my):∀(acc:List (Str×Addr)),(∀p∈ns,p.2= .free->(env.cells.lookup p.1).isSome=true)->
  (forIn ns acc λ(x:Str×NameKind) (r:List (Str×Addr))=>(match x with
   |(name,kind)=>if (kind== .free)=true then(do let a<-cellOf env name;pure (ForInStep.yield ((name,a)::r)))else pure (ForInStep.yield r):Sem (ForInStep (List (Str×Addr)))))=pure (iF env ns acc):=by
 induction ns with
 |nil=>intro acc _;rw[List.forIn_nil];rfl
 |cons nk r ih=>
  intro acc h;rcases nk with⟨n,k⟩;rw[List.forIn_cons];dsimp only[iF];have ih:=λacc=>ih acc λp hp=>h p (.tail _ hp);cases hk:(k==NameKind.free)with
  |true=>
   have hc:=h (n,k) (.head _) (cj hk);obtain⟨a,ha⟩:=yb.mp hc;have e:cellOf env n=pure a:=by unfold cellOf;rw[ha]
   simp only[hk,if_true,e];rw[ha];exact ih _
  |false=>
   simp only[hk,vQ,if_false];exact ih _
theorem rU{sc:Scope}{env:Env}(h:∀p∈sc.names,p.2= .free->(env.cells.lookup p.1).isSome=true):closureFor sc env=pure (iF env sc.names []):=by
 have:=B5 env sc.names [] h;have e:closureFor sc env=((forIn sc.names [] λ(x:Str×NameKind) (r:List (Str×Addr))=>(match x with
   |(name,kind)=>if (kind== .free)=true then(do let a<-cellOf env name;pure (ForInStep.yield ((name,a)::r)))else pure (ForInStep.yield r):Sem (ForInStep (List (Str×Addr)))))>>=λr=>pure r):=rfl
 rw[e,this];rfl
theorem pI(env:Env)(x:Str)(ns:my):∀(acc:List (Str×Addr)),(∀p∈ns,p.2= .free->(env.cells.lookup p.1).isSome=true)->
  (∀a,acc.lookup x=some a->env.cells.lookup x=some a)->(acc.lookup x).isSome=true\/(x,NameKind.free)∈ns->((iF env ns acc).lookup x)=env.cells.lookup x:=by
 induction ns with
 |nil=>
  intro acc _ h2 h3;rcases h3 with h3|h3
  ·obtain⟨a,ha⟩:=yb.mp h3;rw[ha,h2 a ha]
  ·cases h3
 |cons nk r ih=>
  intro acc h1 h2 h3;rcases nk with⟨n,k⟩;dsimp only[iF];have Xr:=λp hp=>h1 p (.tail _ hp);split
  ·rename_i hk;have hk:=cj hk;obtain⟨a,ha⟩:=yb.mp (h1 (n,k) (.head _) hk);refine ih _ Xr (λb hb=>?_) ?_
   ·rw[ha]at hb;rw[nW]at hb;split at hb
    ·rename_i q;cases hb;rw[cj q];exact ha
    ·exact h2 b hb
   ·by_cases hx:x=n
    ·left;rw[hx,nW,beq_self_eq_true];rfl
    ·rcases h3 with h3|h3
     ·left;rw[nW];have:(x==n)=false:=by simpa using hx
      rw[this];exact h3
     ·rcases dH.mp h3 with e|h3
      ·cases e;exact absurd rfl hx
      ·exact .inr h3
  ·rename_i hk;refine ih acc Xr h2 (h3.imp id λh3=>?_);rcases dH.mp h3 with e|h3
   ·cases e;exact absurd rfl hk
   ·exact h3
theorem qC{ns:my}{y:Str}{k:NameKind}:∀{cn:my},(rel ns cn).lookup y=some k->∃k0,(y,k0)∈cn/\k=if (k0== .free&&ns.lookup y==some .cell)then .cell else k0
 |[],h=>by cases h
 |(n,k0)::r,h=>by
  have h:List.lookup y ((if (k0== .free&&ns.lookup n==some .cell)then(n,NameKind.cell)else(n,k0))::rel ns r)=some k:=h;have e:(if (k0== .free&&ns.lookup n==some .cell)then(n,NameKind.cell)else(n,k0))=(n,if (k0== .free&&ns.lookup n==some .cell)then NameKind.cell else k0):=by split<;>rfl
  rw[e,nW]at h;split at h
  ·rename_i q;have q:=cj q;rw[q];exact⟨k0,.head _,by cases h;rfl⟩
  ·obtain⟨k1,a,b⟩:=qC (cn:=r) h;exact⟨k1,.tail _ a,b⟩
theorem gO{sc:Scope}{env:Env}(hk:env.scope.kind= .function):(relabel sc env).names=rel env.scope.names sc.names:=by refine List.map_congr_left λp _=>?_;obtain⟨n,k⟩:=p;simp[hk,Env.kindOf]
structure JJ (ns cn:my) (z:Str):Prop where
 var:cn.lookup z=some .local
 ne:z≠Str.empty
 names:∀y k,(y,k)∈cn->y≠Str.empty/\((k= .local/\(y=z\/y=yZ)/\cn.lookup y=some .local)\/(k= .free/\ns.lookup y=some .cell)\/k= .globalImplicit)
theorem mem_lookup{y:Str}{k:NameKind}:∀{cn:my},cn.lookup y=some k->(y,k)∈cn
 |[],h=>by cases h
 |(n,k0)::r,h=>by
  rw[nW]at h;split at h
  ·rename_i q;cases h;rw[cj q];exact .head _
  ·exact .tail _ (mem_lookup h)
theorem gH{ns cn:my}{z:Str}(h:rP ns cn z=true):JJ ns cn z:=by
 unfold rP at h;rw[bx]at h;have names:∀y k,(y,k)∈cn->y≠Str.empty/\((k= .local/\(y=z\/y=yZ)/\cn.lookup y=some .local)\/(k= .free/\ns.lookup y=some .cell)\/k= .globalImplicit):=λy k hm=>by
  have:=bc.mp h.2 _ hm;rw[bx]at this;refine⟨by simpa using this.1,?_⟩;have t:=this.2;dsimp only at t;cases k<;>first|change t|skip
  ·rw[bx,mK]at t;exact .inl ⟨rfl,t.1.imp (λz=>cj z) (λz=>cj z),cj t.2⟩
  all_goals first|exact .inr (.inl ⟨rfl,cj t⟩)|exact .inr (.inr rfl)
 have v:=cj h.1;exact⟨v,(names _ _ (mem_lookup v)).1,names⟩
theorem gz{ns:my}{y:Str}:∀{cn:my},cn.lookup y=some .local->(rel ns cn).lookup y=some .local
 |[],h=>by cases h
 |(n,k0)::r,h=>by
  show List.lookup y ((if (k0== .free&&ns.lookup n==some .cell)then(n,NameKind.cell)else(n,k0))::rel ns r)=_;have e:(if (k0== .free&&ns.lookup n==some .cell)then(n,NameKind.cell)else(n,k0))=(n,if (k0== .free&&ns.lookup n==some .cell)then NameKind.cell else k0):=by split<;>rfl
  rw[e,nW];rw[nW]at h;split at h
  ·rename_i q;cases h;rfl
  ·rename_i q;exact gz h
theorem zb{T:bj}{ρ:bU}{L:Lo}{env:Env}{nm:List Str}{ls:Ls}{sc:Scope}{z:Str}{v:Nat}{C:Addr}{o:Obj}{m:Str->Option Value}{x:D}{u:Value}(F:cL T ρ L env nm ls)(hc:rP env.scope.names sc.names z=true)(vo:sc.kind= .function)
  (hC:ρ C= .aX o) (hm:rN o m) (hz:m z=some u) (hx:VR T.P T.cl ρ x u) (xp:∀p∈sc.names,p.2= .free->(env.cells.lookup p.1).isSome=true):
  cL T ρ L (compEnvC sc (iF env sc.names []) C env) (rO nm v z) (ls.set v (some (.d x))):=by
 have N:=gH hc;have kn:∀y,(compEnvC sc (iF env sc.names []) C env).kindOf y=(rel env.scope.names sc.names).lookup y:=λy=>by show(relabel sc env).names.lookup y=_;rw[gO F.fn]
 have at_:∀(i:Nat) (y:Str),(rO nm v z)[i]?=some y->y≠Str.empty->(i=v/\y=z)\/(i≠v/\(y≠z/\y≠yZ)/\nm[i]?=some y):=by
  intro i y e hy;unfold rO at e;by_cases hi:i=v
  ·subst hi;have hl:i<(nm.map λy=>if (y==z||y==yZ)then Str.empty else y).length:=by have:=bq e;rwa [gq]at this
   rw[pJ hl]at e;exact .inl ⟨rfl,(fh e).symm⟩
  ·rw[bp (Ne.symm hi),pK]at e;obtain⟨y0,h1,h2⟩:=Ex.mp e;split at h2
   ·exact absurd h2.symm hy
   ·rename_i q;rw[<-h2];exact .inr ⟨hi,by simpa using q,h1⟩
 refine⟨vo,F.Ju,F.LL,⟨o,m,hC,hm,λi y w' e1 e2 e3=>?_⟩,λi y w' e1 e2 e3=>?_⟩
 ·rw[kn]at e3;obtain⟨k0,h1,h2⟩:=qC e3;obtain⟨hy,h3⟩:=N.names y k0 h1;have hyz:y=z\/y=yZ:=by
   rcases h3 with⟨_,h,_⟩|⟨rfl,h⟩|rfl
   ·exact h
   ·rw[h]at h2;exact absurd h2 (by decide)
   ·exact absurd h2 (by simp)
  rcases at_ i y e1 hy with⟨rfl,rfl⟩|⟨_,h,_⟩
  ·have hl:i<ls.length:=by have:=bq e2;rwa [gq]at this
   replace e2:=(pJ hl)▸e2
   cases e2;exact⟨u,hz,hx⟩
  ·exact(hyz.elim h.1 h.2).elim
 ·rw[kn]at e3;obtain⟨k0,h1,h2⟩:=qC e3;obtain⟨hy,h3⟩:=N.names y k0 h1;have hfr:k0= .free/\env.scope.names.lookup y=some .cell:=by
   rcases h3 with⟨rfl,h,_⟩|h|rfl
   ·exact absurd h2 (by simp)
   ·exact h
   ·exact absurd h2 (by simp)
  obtain⟨rfl,VT⟩:=hfr;have hyz:=(Classical.em (y=z)).symm;rcases at_ i y e1 hy with⟨rfl,rfl⟩|⟨hi,h,hn⟩
  ·
   exfalso;have lk:=N.var;have:(rel env.scope.names sc.names).lookup y=some .local:=gz lk;rw[this]at e3;cases e3
  ·replace e2:=(bp (Ne.symm hi))▸e2
   obtain⟨c,oc,u',q1,q2,q3,q4⟩:=F.LM i y w' hn e2 VT;refine⟨c,oc,u',?_,q2,q3,q4⟩;show(iF env sc.names []).lookup y=some c;rw[pI env y sc.names [] xp (λ_ z=>nomatch z) (.inr h1)];exact q1
def fO(L:Lo):Lock->Option Addr
 | .none=>none
 | .aI n _=>some (L.t n)
 | .ax n _=>some (L.p n)
def zc(L:Lo):Lock->Prop
 | .none=>True
 | .aI n _=>n<L.nt
 | .ax n _=>n<L.np
structure Under (T:bj) (prog:Program) (w:World) (A:Around) (ρ:bU) (L:Lo) (items:List D) (I c:Addr) (lk:Lock) (S:Addr->Prop) (i:Nat) (h:Heap):Prop where
 at_:At T prog w A ρ items I c i h
 cl:gp T ρ lk L
 sI:S I
 sc:S c
 sl:∀a,fO L lk=some a->S a
 lt:zc L lk
 nI:fO L lk≠some I
section
variable{T:bj}{eG ρ aJ:bU}{qd L L':Lo}{σ aN:PS}{items:List D}{I c:Addr}{lk:Lock}{S:Addr->Prop}{i:Nat}{h h':Heap}
theorem ua(lt:zc L lk)(l:L.le L'):fO L' lk=fO L lk:=by
 cases lk with
 |none=>rfl
 |aI n t=>show some _=some _;rw[l.t n lt]
 |ax n m=>show some _=some _;rw[l.p n lt]
theorem JK(lt:zc L lk)(l:L.le L'):zc L' lk:=by
 cases lk with
 |none=>trivial
 |aI n t=>exact qH lt l.nt
 |ax n m=>exact qH lt l.np
theorem gp.keep(C:gp T ρ lk L)(im:bf ρ aJ)(lt:zc L lk)(l:L.le L')(f:∀a o,fO L lk=some a->ρ a= .aX o->aJ a= .aX o):gp T aJ lk L':=by
 cases lk with
 |none=>trivial
 |aI n t=>
  obtain⟨o,c1,c2⟩:=C;exact⟨o,by rw[l.t n lt];exact f _ _ rfl c1,λh tf L'' k ll=>c2 h tf L'' (im.trans k) (l.trans ll)⟩
 |ax n m=>
  obtain⟨o,c1,c2⟩:=C;exact⟨o,by rw[l.p n lt];exact f _ _ rfl c1,λh tf L'' k ll=>c2 h tf L'' (im.trans k) (l.trans ll)⟩
theorem Under.keep(U:Under T prog w A ρ L items I c lk S i h)(R:Rep T ρ L σ h)(R':Rep T aJ L' aN h')(im:bf ρ aJ)(l:L.le L')(f:∀a o,S a->ρ a= .aX o->aJ a= .aX o):Under T prog w A aJ L' items I c lk S i h':=by have e:=ua U.lt l;exact⟨U.at_.keep R R' im (λo=>f _ o U.sI) (λo=>f _ o U.sc),U.cl.keep im U.lt l λa o ha=>f a o (U.sl a ha),U.sI,U.sc,λa ha=>U.sl a (by rw[<-e];exact ha),JK U.lt l,by rw[e];exact U.nI⟩
theorem Under.next(U:Under T prog w A ρ L items I c lk S i s.heap)(R:Rep T ρ L σ s.heap){x:D}(hx:items[i]?=some x){Q:Option Value->Shared->Prop}{E:Value->Shared->Prop}
  (k:∀v aC ao,bf ρ ao->(∀a o,a≠I->ρ a= .aX o->ao a= .aX o)->Rep T ao L σ aC.heap->cS s aC->VR T.P T.cl ao x v->Under T prog w A ao L items I c lk S (i+1) aC.heap->Q (some v) aC): ~~~(pyNext (.ref I)) Q E s:=
 Pa U.at_ R hx λv aC ao im f R' d p W=>k v aC ao im f R' d p ⟨W,U.cl.keep im U.lt .refl λa o ha=>f a o λz=>U.nI (z▸ha),U.sI,U.sc,U.sl,U.lt,U.nI⟩
theorem gp.close(C:gp T ρ lk L)(R:Rep T ρ L σ s.heap):∃ao,bf ρ ao/\Rep T ao L (itClose σ lk) s.heap/\∀a o,ρ a= .aX o->fO L lk≠some a->ao a= .aX o:=by
 obtain⟨ao,im,R',f⟩:=JI (s:=s) C R;refine⟨ao,im,R',λa o e n=>f a o e ?_⟩;cases lk with
 |none=>trivial
 |aI n t=>exactλz=>n (by rw[z];rfl)
 |ax n m=>exactλz=>n (by rw[z];rfl)
theorem Under.last(U:Under T prog w A ρ L items I c lk S i s.heap)(R:Rep T ρ L σ s.heap)(hi:i=items.length){Q:Option Value->Shared->Prop}{E:Value->Shared->Prop}
  (k:∀aC ao,bf ρ ao->(∀a o,ρ a= .aX o->a≠I->fO L lk≠some a->ao a= .aX o)->Rep T ao L (itClose σ lk) aC.heap->cS s aC->Q none aC): ~~~(pyNext (.ref I)) Q E s:=by
 refine Pb U.at_ R hi λaC ao im f R' d=>?_;have C:=U.cl.keep im U.lt .refl λa o ha=>f a o λz=>U.nI (z▸ha);obtain⟨aY,im',gV,f'⟩:=C.close R';exact k aC aY (im.trans im') (λa o e h1 h2=>f' a o (f a o h1 e) h2) gV d
theorem GN{v:PV}{items:List D}{lk:Lock}(R:Rep T ρ L σ h)(e:dY σ v=some (items,aN,lk)):zc L lk/\∀a,fO L lk=some a->∃g,ρ a= .own g:=by
 have aI:∀{n t t₀},t₀≠.dead->σ.tm[n]?=some t₀->zc L (.aI n t)/\∀a,fO L (.aI n t)=some a->∃g,ρ a= .own g:=by
  intro n t t₀ nd q;refine⟨by show n<L.nt;rw[R.nt];exact bq q,λa ha=>?_⟩;cases ha;have:=R.aI n _ q;cases t₀ with
  |list l=>exact⟨_,this.1⟩
  |dict l=>exact⟨_,this.1⟩
  |dead=>exact absurd rfl nd
 cases v with
 |d x=>
  cases x<;>first|exact noS e|skip
  ·exists e;exact⟨trivial,λa h=>nomatch h⟩
  ·exists e;exact⟨trivial,λa h=>nomatch h⟩
  ·refine dM e λ_ e=>?_;exists e;exact⟨trivial,λa h=>nomatch h⟩
  ·refine dM e λ_ e=>?_;exists e;exact⟨trivial,λa h=>nomatch h⟩
 |aI n=>
  refine aL e λy q e=>?_;cases y<;>first|exact noS e|skip
  ·exists e;exact aI (by intro z;cases z) q
  ·refine dM e λ_ e=>?_;exists e;exact aI (by intro z;cases z) q
 |ax n=>
  refine aL e λy q e=>?_;cases y<;>first|exact noS e|skip
  exists e;refine⟨by show _<L.np;rw[R.np];exact bq q,λa ha=>?_⟩;rw[<-fh (show some (L.p n)=some a from ha)];exact⟨_,(R.ax _ _ q).1⟩
theorem mz(hP:T.P=w.params)(hh:A.handled=none)(K:hH T ρ)(R:Rep T ρ L σ s.heap){v:PV}{u:Value}{items:List D}{lk:Lock}(p:cv T ρ L v u)(e:dY σ v=some (items,aN,lk)){Q:Value->Shared->Prop}
  (k:∀I c aC ao S,gf ρ ao->Rep T ao L aN aC.heap->cS s aC->ρ I= .free->(∀a,S a->ao a≠.free)->(∀a,fO L lk=some a->∀o,ρ a≠.aX o)->(∀a,S a->∀o,ρ a≠.aX o)->Under T prog w A ao L items I c lk S 0 aC.heap->Q (.ref I) aC): ~~~(pyIter u) Q lE s:=by
 obtain⟨lt,ow⟩:=GN R e;refine O_ hP hh K R p e λI aC ao le R' d hI W C=>?_;obtain⟨c,nf,W⟩:=W.at0 hh;have nI:fO L lk≠some I:=λz=>by obtain⟨g,hg⟩:=ow I z;rw[hI]at hg;cases hg
 refine k I c aC ao (λa=>a=I\/a=c\/fO L lk=some a) le R' d hI ?_ (λa ha o=>by obtain⟨g,hg⟩:=ow a ha;rw[hg];intro z;cases z) ?_ ⟨W,C,.inl rfl,.inr (.inl rfl),λa ha=> .inr (.inr ha),lt,nI⟩;obtain⟨oI,hI1⟩:=W.it;rotate_left
 ·rintro a (rfl|rfl|h) o z
  ·rw[hI]at z;cases z
  ·exact nf o z
  ·obtain⟨g,hg⟩:=ow a h;rw[hg]at z;cases z
 rintro a (rfl|rfl|h)
 ·rw[hI1];intro z;cases z
 ·rcases W.con with rfl|⟨oc,h|h⟩
  ·rw[hI1];intro z;cases z
  ·rw[h];intro z;cases z
  ·rw[h];intro z;cases z
 ·cases lk with
  |none=>cases h
  |aI n t=>cases h;obtain⟨o,c1,_⟩:=C;rw[c1];intro z;cases z
  |ax n m=>cases h;obtain⟨o,c1,_⟩:=C;rw[c1];intro z;cases z
end
section
variable(T:bj)(prog:Program)(w:World)(A:Around)(X:Cx)(env:Env)(nm:List Str)
def zd(es:Es)(xs:List Expr):Prop:=∀ls σ s ρ L b aN,hH T ρ->cL T ρ L env nm ls->Rep T ρ L σ s.heap->cx X es ls σ=some (b,aN)->
 ~~~(forIn xs true λc r=>if r=true then do let ok<-PySem.isTrue c env (PySem.eval c env);pure (ForInStep.yield ok)else pure (ForInStep.yield r)) (λc s'=>c=b/\After T ρ L s aN s' λ_ _=>True) lE s
end
section
variable{T:bj}{X:Cx}{env:Env}{nm:List Str}
theorem GO:zd T prog w A X env nm .nil []:=by intro ls σ s ρ L v aN K F R q;cases q;exact wpAny_tests_nil ⟨rfl,.eU R (.refl s) trivial⟩
theorem xB{M:Model}{Q:Bool->Shared->Prop}{E:Value->Shared->Prop}{s:Shared}(h:Q false s):∀(xs:List Expr),
  wpAny M A (forIn xs false λc r=>if r=true then do let ok<-PySem.isTrue c env (PySem.eval c env);pure (ForInStep.yield ok)else pure (ForInStep.yield r)) Q E s
 |[]=>by rw[List.forIn_nil];exact wpAny_pure h
 |x::xs=>by rw[List.forIn_cons];exact wpAny_bind (wpAny_pure (xB h xs))
theorem AH{e:E}{es:Es}{x:Expr}{xs:List Expr}(h1:jZ T prog w A X env nm e x)(h2:zd T prog w A X env nm es xs):zd T prog w A X env nm (.cons e es) (x::xs):=by
 intro ls σ s ρ L v aN K F R q;rw[List.forIn_cons];refine aF q λb0 aj q1 q=>?_;cases b0;rotate_left
 ·refine wpAny_bind ?_;rw[if_pos rfl];refine wpAny_bind (h1.aV K F R q1 λaC ao aQ a b c d bu br=>wpAny_pure ?_);exact wpAny_mono (h2 _ _ _ _ _ _ _ bu br c q) (λu bG P=>⟨P.1,P.2.from a b d⟩) λ_ _ z=>z
 ·cases q;refine wpAny_bind ?_;rw[if_pos rfl];refine wpAny_bind (h1.aV K F R q1 λaC ao aQ a b c d bu br=>wpAny_pure ?_);exact xB ⟨rfl,.now a b c d trivial⟩ xs
end
theorem At.self{T:bj}{prog:Program}{w:World}{A:Around}{ρ:bU}{items:List D}{I c:Addr}{i:Nat}{s:Shared}(W:At T prog w A ρ items I c i s.heap){Q:Value->Shared->Prop}{E:Value->Shared->Prop}(h:Q (.ref I) s):
  ~~~(pyIter (.ref I)) Q E s:=by
 obtain⟨_,_,fp,St,h4,a,b,d⟩:=W;exact a.self i s Q E b h
section
variable{T:bj}{X:Cx}{env:Env}{nm:List Str}{eG ρ:bU}{qd L:Lo}{σ bJ:PS}{items ys:List D}{I c:Addr}{lk:Lock}{S:Addr->Prop}{ls:Ls}
theorem JL{ns cn:my}{z:Str}(h:rP ns cn z=true):∀y∈cn,y.2≠.cell:=by intro y hy e;obtain⟨_,h3⟩:=(gH h).names y.1 y.2 hy;rcases h3 with⟨h,_⟩|⟨h,_⟩|h<;>(rw[h]at e;cases e)
theorem GP{kg:Ls->PS->Option (Bool×PS)}{elt:Ls->PS->Option (PV×PS)}{v:Nat}{x:D}{r ys:List D}{ls:Ls}{σ aN:PS}{P:Prop}(q:dm kg elt v (x::r) ls σ=some (ys,aN))
  (k1:∀aj u aM y bJ zs,kg (ls.set v (some (.d x))) σ=some (true,aj)->elt (ls.set v (some (.d x))) aj=some (u,aM)->aM.freeze u=some (y,bJ)->dm kg elt v r ls bJ=some (zs,aN)->ys=y::zs->P)
  (k0:∀aj,kg (ls.set v (some (.d x))) σ=some (false,aj)->dm kg elt v r ls aj=some (ys,aN)->P):P:=by
 refine aF q λb aj q1 q=>?_;cases b with
 |false=>exact k0 _ q1 q
 |true=>
  refine aF q λu aM q2 q=>?_;refine aF q λy bJ q3 q=>?_;refine aF q λzs hN q4 q=>?_;cases q;exact k1 _ _ _ _ _ _ q1 q2 q3 q4 rfl
inductive GQ (T:bj) (prog:Program) (w:World) (A:Around) (eG:bU) (qd L:Lo) (s:Shared) (items ys:List D) (I c:Addr) (lk:Lock) (S:Addr->Prop) (ts:FT) (el:FE) (v:Nat) (ls:Ls) (D C:Addr) (bJ:PS) (n:Nat) (s':Shared):Prop
 |mk (i:Nat) (done rest:List Mine.D) (vs:Array Value) (k:Nat) (oC:Obj) (mC:Str->Option Value) (aJ:bU) (L':Lo) (aN:PS) (hn:n=items.length+1-i) (hi:i<=items.length) (q:dm ts el v (items.drop i) ls aN=some (rest,bJ)) (hy:ys=done++rest)
   (le:gf eG aJ) (l:qd.le L') (l':L.le L') (R:Rep T aJ L' aN s'.heap) (d:cS s s') (eD:aJ D= .aX (gT vs k)) (rD:dA T.P T.cl aJ done vs.toList) (eC:aJ C= .aX oC) (nC:rN oC mC) (U:Under T prog w A aJ L' items I c lk S i s'.heap):GQ T prog w A eG qd L s items ys I c lk S ts el v ls D C bJ n s'
theorem rV{elt:E}{v:Nat}{ifs:Es}{y jt:Expr}{js:List Expr}{sc:Scope}{z:Str}{px pos:Pos}{RR:Value->Addr->Result->Shared->Prop}
  (F:cL T eG qd env nm ls) (K:hH T eG) (GK:gf eG ρ) (l0:qd.le L) (R:Rep T ρ L σ s.heap) (U:Under T prog w A ρ L items I c lk S 0 s.heap) (hI:eG I= .free) (hS:∀a,S a->ρ a≠.free) (hl:∀a,fO L lk=some a->∀o,eG a≠.aX o)
  (q:dm (λl s=>cx X ifs l s) (λl s=>eval X elt l s) v items ls σ=some (ys,bJ)) (hf:fits ys=true)
  (hc:rP env.scope.names sc.names z=true) (vo:sc.kind= .function) (xp:∀p∈sc.names,p.2= .free->(env.cells.lookup p.1).isSome=true)
  (hE:∀C,bO T prog w A X (compEnvC sc (iF env sc.names []) C env) (rO nm v z) elt y) (hT:∀C,zd T prog w A X (compEnvC sc (iF env sc.names []) C env) (rO nm v z) ifs js)
  (hRR:∀D C s' aJ L' vs k oC mC,gf eG aJ->qd.le L'->Rep T aJ L' (itClose bJ lk) s'.heap->cS s s'->aJ D= .aX (gT vs k)->dA T.P T.cl aJ ys vs.toList->aJ C= .aX oC->rN oC mC->(∀o,eG D≠.aX o)->(∀o,eG C≠.aX o)->D≠C->
   RR (.ref D) C (.ok .next) s'):
  ~~~(newList []) (λacc fG=>~~~(newFunctionEnv sc env.globals (iF env sc.names []) [] env.qual none .none (some env)) (λVU B6=>
   codeAny (model prog w) A (.compStart (.ListComp y [⟨.Name z px,jt,js,0⟩] sc pos) 0 (.ref I) acc {VU with scope:=relabel sc env}) (RR acc VU.locals) B6) lE fG) lE s:=by
 have N:=gH hc;refine wpAny_newObj_type (wpAny_newFunctionEnv (JL hc) (by intro y hy;simp at hy) (λGB vp vq=>?_) vo);generalize hH2:s.heap.push {cls:= .type "list",dict:=none,data:= .seq ([]:List Value).toArray}=H2 at vp vq⊢;generalize hD:s.heap.objs.size=D at hH2⊢;generalize hC:H2.objs.size=C at vp vq⊢;have fD:=hD▸R.new;have RD:=R.yL (gT #[] 0) rfl
 replace RD:=hD▸RD
 have RD1:=hH2▸RD.1;have fC:=hC▸RD1.new;have HM:D≠C:=λe=>by rw[<-e,aO]at fC;cases fC
 obtain⟨oC,gC,nC⟩:=Az vp;have RC:Rep T (up (up ρ D (.aX (gT #[] 0))) C (.aX oC)) L σ GB:=RD1.takes (.inl fC) (λa o ha _ e=>vq.extBut a o ha (Heap.get?_push_of_some _ e)) gC;have Yi:=RD.2.trans (dQ (r:= .aX oC) fC);have S_D:∀a,S a->a≠D:=λa ha e=>hS a ha (e▸fD);have S_C:∀a,S a->a≠C:=λa ha e=>by have h1:=hS a ha;subst e;rw[aZ (S_D a ha)]at fC;exact h1 fC
 have RW:∀o,eG D≠.aX o:=λo e=>by have:=GK.aX _ _ e;rw[fD]at this;cases this
 have Pc:∀o,eG C≠.aX o:=λo e=>by have:=(GK.trans RD.2).aX _ _ e;rw[fC]at this;cases this
 have UC:=U.keep R RC Yi.bA .refl λa o _ e=>Yi.aX a o e;have hkz:Env.kindOf (compEnvC sc (iF env sc.names []) C env) z=some .local:=lookup_relabel_local N.var;have loop:∀fG:Shared,fG={s with heap:=GB,toks:=s.toks+([]:List (Str×Value)).length}->
   codeAny (model prog w) A (.compLoop (.ListComp y [⟨.Name z px,jt,js,0⟩] sc pos) 0 (.ref I) (.ref D) (compEnvC sc (iF env sc.names []) C env)) (RR (.ref D) C) fG:=by
  rintro fG rfl;refine codeAny_compLoop_tests (GQ T prog w A eG qd L s items ys I c lk S (λl s=>cx X ifs l s) (λl s=>eval X elt l s) v ls D C bJ) ?_ (items.length+1)
   (.mk 0 [] ys #[] 0 oC _ _ L σ rfl (eJ _) q rfl (GK.trans Yi) l0 .refl RC ⟨_,_,rfl⟩ (by rw[aZ HM,aO]) trivial aO nC UC)
  clear q R RC UC Yi RD RD1 gC nC vq vp;intro n s' st;obtain⟨i,done,rest,vs,k,oC,mC,ao,aQ,aj,hn,hi,q,hy,RX,l1,l1',kU,tg,eD,rD,eC,nC,B7⟩:=st;by_cases sr:i<items.length
  ·have hx:=mJ sr;rw[List.drop_eq_getElem_cons sr]at q;refine B7.next kU hx λval bG aY xC ze gV mA GI U₂=>?_;have hDI:=Ne.symm (S_D I U.sI);have hCI:=Ne.symm (S_C I U.sI);have le2:gf eG aY:=⟨RX.bA.trans xC,λa o e=>ze a o (λz=>(by rw[z,hI]at e;cases e)) (RX.aX a o e)⟩;have VV:=ze _ _ hDI eD;have GR:=ze _ _ hCI eC;refine wpAny_assign_Name (wpAny_storeName_local hkz (tW (gV.aX GR) nC) (λh' hn' sb=>?_) (by show(sc.kind== .class||(sc.kind== .module&&_))=false;rw[vo];rfl));refine goQ λG hG=>?_;obtain⟨Pd,gC',nC'⟩:=Az hn';have km:Rep T (up aY C (.aX Pd)) aQ aj h':=gV.takes (.inr ⟨_,GR⟩) (λa o ha _ e=>sb.extBut a o ha e) gC';have AI:bf aY (up aY C (.aX Pd)):=dw λo=>by rw[GR];intro z;cases z
   have Eu:gf eG (up aY C (.aX Pd)):=⟨le2.bA.trans AI,λa o e=>by rw[aZ λ(z:a=C)=>Pc o (z▸e)];exact le2.aX a o e⟩;have JM:=U₂.keep gV km AI .refl λa o ha e=>by rw[aZ (S_C a ha)];exact e
   have LV:up aY C (.aX Pd) D= .aX (gT vs k):=by rw[aZ HM];exact VV
   have LW:=dA.mono (xC.trans AI) rD;have p_:=zb (v:=v) (F.mono Eu l1) hc vo aO nC' (u:=val) (by simp) (VR.mono AI GI) xp;refine GP q (λhN ev GS yv LX VW q1 q2 q3 q4 ey=>?_) λhN q1 q=>?_
   ·refine hG (wpAny_mono (hT C _ _ _ _ _ _ (K.mono Eu) p_ (s:={bG with heap:=h',toks:=bG.toks+1}) km q1) (λb B6 Pe=>?_) λ_ _ z=>RV z);obtain⟨y,iG,zf,jC,th,rW,xD,_⟩:=Pe;refine ifT y ?_;have le4:=Eu.trans jC;refine wpAny_mono (hE C _ _ _ _ _ _ _ (K.mono le4) (p_.mono jC th) rW q2) (λu s₅ h₅=>?_) λ_ _ z=>RV z;obtain⟨ub,GU,a₅,b₅,Pf,d₅,p₅⟩:=h₅;obtain⟨GV,a₆,JN,p₆⟩:=iC Pf p₅ q3;have Pg:=(jC.trans a₅).trans a₆;have b36:=th.trans b₅;have U₆:=JM.keep km JN Pg.bA b36 λa o _ e=>Pg.aX a o e;have GW:=Pg.aX _ _ LV;have VX:=Pg.aX _ _ (aO (ρ:=aY) (a:=C) (r:= .aX Pd));have VY:=dA.mono Pg.bA LW;have hsz:vs.size<=sizeLine:=by
     have e1:=rD.length;have e2:=dh hf;have e3:=dG;rw[hy,ey,eh]at e2;simp only[Array.length_toList]at e1
     lia
    refine wpAny_list_append_plain (hsz:=hsz) ⟨k,JN.aX GW⟩ λh'' hl'' sb''=>?_;obtain⟨k',g''⟩:=hl'';have VZ:Rep T (up GV D (.aX (gT (vs.push u) k'))) GU LX h'':=JN.takes (.inr ⟨_,GW⟩) (λa o ha _ e=>sb''.extBut a o ha e) g'';have AJ:bf GV (up GV D (.aX (gT (vs.push u) k'))):=dw λo=>by rw[GW];intro z;cases z
    refine⟨items.length+1-(i+1),?_,.mk (i+1) (done++[yv]) VW (vs.push u) k' Pd _ _ GU LX rfl sr q4 (by rw[hy,ey,eI];rfl) ⟨(Eu.trans Pg).bA.trans AJ,λa o e=>by rw[aZ λ(z:a=D)=>RW o (z▸e)];exact(Eu.trans Pg).aX a o e⟩ (l1.trans b36) (l1'.trans b36) VZ ?_ aO ?_ ?_ nC' ?_⟩
    ·omega
    ·exact(((tg.trans mA).trans ⟨_,_,rfl⟩).trans (xD.trans d₅)).trans ⟨_,_,rfl⟩
    ·rw[Array.toList_push];exact dA.append (dA.mono AJ VY) ⟨VR.mono AJ p₆,trivial⟩
    ·rw[aZ (Ne.symm HM)];exact VX
    ·exact U₆.keep JN VZ AJ .refl λa o ha e=>by rw[aZ (S_D a ha)];exact e
   ·refine hG (wpAny_mono (hT C _ _ _ _ _ _ (K.mono Eu) p_ (s:={bG with heap:=h',toks:=bG.toks+1}) km q1) (λb B6 Pe=>?_) λ_ _ z=>RV z);obtain⟨y,iG,zf,jC,th,rW,xD,_⟩:=Pe;refine ifF y ⟨items.length+1-(i+1),?_,.mk (i+1) done rest vs k Pd _ iG zf hN rfl sr q hy (Eu.trans jC) (l1.trans th) (l1'.trans th) rW ?_ (jC.aX _ _ LV) (dA.mono jC.bA LW) (jC.aX _ _ aO) nC' ?_⟩
    ·omega
    ·exact((tg.trans mA).trans ⟨_,_,rfl⟩).trans xD
    ·exact JM.keep km rW jC.bA th λa o _ e=>jC.aX a o e
  ·have V0:i=items.length:=by omega
   rw[V0,List.drop_length]at q;cases q;rw[ei]at hy;subst hy;have lkn:=ua U.lt l1';refine B7.last kU V0 λbG aY xC ze gV mA=>?_;have sl:=B7.sl;have f0:∀a o,eG a= .aX o->a≠I/\fO aQ lk≠some a:=λa o e=>⟨λz=>(by rw[z,hI]at e;cases e),λz=>hl a (lkn▸z) o e⟩;refine hRR D C bG aY aQ vs k oC mC ⟨RX.bA.trans xC,λa o e=>ze a o (RX.aX a o e) (f0 a o e).1 (f0 a o e).2⟩ l1 gV (tg.trans mA) (ze _ _ eD (Ne.symm (S_D I U.sI)) λz=>S_D D (sl D z) rfl) (dA.mono xC rD) (ze _ _ eC (Ne.symm (S_C I U.sI)) λz=>S_C C (sl C z) rfl) nC RW Pc HM
 exact codeAny_compStart_list (loop _ rfl) (UC.at_.self (s:={s with heap:=GB,toks:=s.toks+([]:List (Str×Value)).length}) (loop _ rfl))
end
structure l7 (env:Env):Prop where
 kind:env.scope.kind= .function
 cells:∀x,env.scope.names.lookup x=some .cell->(env.cells.lookup x).isSome=true
theorem l7.free{env:Env}(O:l7 env){cn:my}{z:Str}(hc:rP env.scope.names cn z=true):∀p∈cn,p.2= .free->(env.cells.lookup p.1).isSome=true:=by
 intro p hp e;obtain⟨_,h⟩:=(gH hc).names p.1 p.2 hp;rcases h with⟨h,_⟩|⟨_,h⟩|h
 ·rw[h]at e;cases e
 ·exact O.cells _ h
 ·rw[h]at e;cases e
theorem l7.comp{env:Env}(O:l7 env){sc:Scope}{z:Str}{C:Addr}(hc:rP env.scope.names sc.names z=true)(vo:sc.kind= .function):l7 (compEnvC sc (iF env sc.names []) C env):=by
 refine⟨vo,λx e=>?_⟩;have e:(relabel sc env).names.lookup x=some .cell:=e;rw[gO O.kind]at e;obtain⟨k0,h1,h2⟩:=qC e;obtain⟨_,h3⟩:=(gH hc).names x k0 h1;rcases h3 with⟨rfl,_⟩|⟨rfl,h⟩|rfl
 ·exact absurd h2 (by simp)
 ·show((iF env sc.names []).lookup x).isSome=true;rw[pI env x sc.names [] (O.free hc) (λ_ z=>nomatch z) (.inr h1)];exact O.cells _ h
 ·exact absurd h2 (by simp)
section
variable{T:bj}{X:Cx}{env:Env}{nm:List Str}
theorem xE{ns cn:my}{z:Str}(h:rP ns cn z=true):∀y∈cn,y.2= .local->cn.lookup y.1=some .local:=by
 intro y hy e;obtain⟨_,h3⟩:=(gH h).names y.1 y.2 hy;rcases h3 with⟨_,_,q⟩|⟨q,_⟩|q
 ·exact q
 ·rw[q]at e;cases e
 ·rw[q]at e;cases e
theorem GX{eG aJ:bU}{qd L':Lo}{σ aN:PS}{ys:List D}{v:PV}{D C:Addr}{s s':Shared}{vs:Array Value}{k:Nat}{oC:Obj}(le:gf eG aJ)(l:qd.le L')(R:Rep T aJ L' σ s'.heap)(d:cS s s')(eD:aJ D= .aX (gT vs k))(rD:dA T.P T.cl aJ ys vs.toList)
  (eC:aJ C= .aX oC) (nD:∀o,eG D≠.aX o) (nC:∀o,eG C≠.aX o) (HM:D≠C) (q:σ.sP ys=some (v,aN)) {h':Heap} (sb:Heap.SameBut C s'.heap h'):jV T eG qd s v aN (.ref D) {s' with heap:=h'}:=by
 have R1:Rep T (up aJ C .free) L' σ h':=R.takes (.inr ⟨_,eC⟩) (λa o ha _ e=>sb.extBut a o ha e) trivial;have im1:bf aJ (up aJ C .free):=dw λo=>by rw[eC];intro z;cases z
 have eD1:up aJ C .free D= .aX (gT vs k):=by rw[aZ HM];exact eD
 have g:=R1.aX eD1;have R2:Rep T (up (up aJ C .free) D .free) L' σ h':=R1.takes (.inr ⟨_,eD1⟩) (λa o ha _ e=>e) trivial;have V3:bf (up aJ C .free) (up (up aJ C .free) D .free):=dw λo=>by rw[eD1];intro z;cases z
 obtain⟨cV,lQ,a3,b3,R3,p3⟩:=jz (h':=h') (k:=k) R2 aO (λ_ _ _ _ e=>e) g (dA.mono (im1.trans V3) rD) q;refine .now ⟨((le.bA.trans im1).trans V3).trans a3.bA,λa o e=>a3.aX a o ?_⟩ (l.trans b3) R3 (d.trans ⟨_,_,rfl⟩) p3;have h1:a≠D:=λz=>nD o (z▸e);have h2:a≠C:=λz=>nC o (z▸e);rw[aZ h1,aZ h2];exact le.aX a o e
theorem JO(hP:T.P=w.params)(hh:A.handled=none)(O:l7 env){elt:E}{v:Nat}{it:E}{ifs:Es}{y jt:Expr}{js:List Expr}{sc:Scope}{z:Str}{px pos:Pos}
  (hc:rP env.scope.names sc.names z=true) (vo:sc.kind= .function) (zg:∀x,foldedSetIterable jt env x=pure x) (h1:bO T prog w A X env nm it jt)
  (hE:∀C,bO T prog w A X (compEnvC sc (iF env sc.names []) C env) (rO nm v z) elt y) (hT:∀C,zd T prog w A X (compEnvC sc (iF env sc.names []) C env) (rO nm v z) ifs js):
  bO T prog w A X env nm (.comp elt v it ifs) (.ListComp y [⟨.Name z px,jt,js,0⟩] sc pos):=by
 intro ls σ s ρ L r aN K F R q;refine aF q λxv aj q1 q=>?_;refine jb q λitems aM lk q2 q=>?_;refine aF q λys bJ q3 q=>?_;have hf:=(fj q).1;rw[eval_ListComp];refine wpAny_comprehension_free (use:=none) rfl zg (rU (O.free hc)) vo (xE hc) ?_;refine h1.aV K F R q1 λu aC ao aQ a b c d p bu br=>?_;refine mz hP hh bu c p q2 λI cc bG aY S le gV mA hI hS hl HK U=>?_;refine rV (RR:=λacc C=>compPost (model prog w) A lE none (λu s'=>jV T ρ L s r aN u s') acc C) br bu le .refl gV U hI hS hl q3 hf hc vo (O.free hc) hE hT ?_;intro D C s' aJ L' vs k oC mC Yj l' R' d' eD rD eC nC RW Pc HM;refine⟨_,tW (R'.aX eC) nC,λh' sb=>?_⟩;exact After.from a b (d.trans mA) (GX Yj l' R' d' eD rD eC RW Pc HM q sb)
theorem i_{e:Expr}(h:vi e=true):∀x,foldedSetIterable e env x=pure x:=by intro x;cases e<;>first|rfl|cases h
theorem Ph{x:Expr}:bO T prog w A X env nm .bad x:=by intro ls σ s ρ L v aN K F R q;exists q
end
structure Ctx (T:bj) (tb:Tb) (prog:Program) (w:World) (A:Around) (n:Nat) (X:Cx):Prop where
 ok:dF T w
 rm:lR n A
 lk:td T tb prog w n X
structure Pj (T:bj) (prog:Program) (w:World) (A:Around) (X:Cx) (env:Env) (nm:List Str) (e:E) (x:Expr):Prop where
 ev:bO T prog w A X env nm e x
 ts:jZ T prog w A X env nm e x
structure V4 (T:bj) (prog:Program) (w:World) (A:Around) (X:Cx) (env:Env) (nm:List Str) (es:Es) (xs:List Expr):Prop where
 KX:kR T prog w A X env nm es xs
 and:xu T prog w A X env nm es xs
 or:Gy T prog w A X env nm es xs
 V5:rT T prog w A X env nm es xs
 tor:xw T prog w A X env nm es xs
 ft:zd T prog w A X env nm es xs
section
variable{T:bj}{tb:Tb}{n:Nat}{X:Cx}
theorem bP{env:Env}{nm:List Str}{e:E}{x:Expr}(he:lg X e=kg (eval X e))(hx:plainT x=true)(h:bO T prog w A X env nm e x):Pj T prog w A X env nm e x:=⟨h,Gz he hx h⟩
theorem GY{env:Env}{nm:List Str}{x:Expr}:Pj T prog w A X env nm .bad x:=⟨Ph,by intro ls σ s ρ L v aN K F R q;cases q⟩
theorem zh{d:D}{x:Expr}(h:OQ d x=true):plainT x=true:=by
 refine p8 h (λh=>aB h λc h=>?_) λh=>aB h λu h=>aw h λhu _=>?_
 ·rw[c.e];rfl
 ·rw[u.e,of_decide_eq_true hu];rfl
theorem JP{env:Env}{nm:List Str}{xs:List Expr}:xu T prog w A X env nm .nil xs:=by intro p ls σ s ρ L v aN K F R q;exists q
theorem Pk{env:Env}{nm:List Str}{xs:List Expr}:Gy T prog w A X env nm .nil xs:=by intro p ls σ s ρ L v aN K F R q;exists q
theorem xF(g:Comprehension){z:Str}{p:Pos}(h:g.target= .Name z p)(h0:g.is_async=0):g=⟨.Name z p,g.iter,g.ifs,0⟩:=by cases g;cases h;cases h0;rfl
variable(G:Ctx T tb prog w A n X)
include G
mutual
theorem a_:∀(e:E) {x:Expr} {env:Env} {nm:List Str},l7 env->mE tb env.scope.names nm e x=true->Pj T prog w A X env nm e x
 | .lit d,x,env,nm,O,h=>bP rfl (zh h) (OT h)
 | .loc i,x,env,nm,O,h=>aB h λd h=>by rw[d.e];exact bP rfl rfl (OU (λ_=>rfl) h)
 | .glob g,x,env,nm,O,h=>aB h λd h=>aw h λh1 h2=>by rw[d.e];exact bP rfl rfl (Jz G.lk h1 (cj h2))
 | .bin o a b,x,env,nm,O,h=>aB h λd h=>aw h λh0 h=>aw h λh1 h2=>by rw[d.e,Gv h0];exact bP rfl rfl (OV (a_ a O h1).ev (a_ b O h2).ev)
 | .cmp o a b,x,env,nm,O,h=>aB h λd h=>aB h λp h=>aB h λr h=>aw h λh0 h=>aw h λhb h=>aw h λh1 h2=>by have e0:=OR h0;rw[e0]at hb;have hb:=(Bool.not_eq_true' _).mp hb;rw[d.e,p.e,r.e,e0];exact⟨OW G.ok.P G.rm.u hb (a_ a O h1).ev (a_ b O h2).ev,OX G.ok.P G.rm.u hb (a_ a O h1).ev (a_ b O h2).ev⟩
 | .nt a,x,env,nm,O,h=>aB h λd h=>aw h λh0 h=>by rw[d.e,of_decide_eq_true h0];exact⟨VI (a_ a O h).ev,VJ (a_ a O h).ts⟩
 | .and es,x,env,nm,O,h=>aB h λd h=>aw h λh0 h=>by rw[d.e,of_decide_eq_true h0];exact⟨λ_ _ _ _ _ _ _ K F R q=>(fK es O h).and _ _ _ _ _ _ _ _ K F R q,O4 (fK es O h).V5⟩
 | .or es,x,env,nm,O,h=>aB h λd h=>aw h λh0 h=>by rw[d.e,of_decide_eq_true h0];exact⟨λ_ _ _ _ _ _ _ K F R q=>(fK es O h).or _ _ _ _ _ _ _ _ K F R q,VK (fK es O h).tor⟩
 | .ite c a b,x,env,nm,O,h=>aB h λd h=>aw h λh0 h=>aw h λh1 h2=>by rw[d.e];exact⟨OY (a_ c O h0).ts (a_ a O h1).ev (a_ b O h2).ev,OZ (a_ c O h0).ts (a_ a O h1).ts (a_ b O h2).ts⟩
 | .tup es,x,env,nm,O,h=>aB h λd h=>by rw[d.e];exact bP rfl rfl (O0 (fK es O h).KX)
 | .lst es,x,env,nm,O,h=>aB h λd h=>by rw[d.e];exact bP rfl rfl (O1 (fK es O h).KX)
 | .sj .nil,x,env,nm,O,h=>aB h λd h=>p8 h (λh=>aw h λ_ h=>aw h λh1 h2=>by rw[d.e,gy h1,gy h2];exact bP rfl rfl (JF G.lk)) λh=>aB h λk h=>aB h λy h=>aB h λv h=>noB h
 | .sj (.cons a .nil),x,env,nm,O,h=>aB h λd h=>p8 h (λh=>aw h λh _=>noB h) λh=>aB h λk h=>aB h λy h=>aB h λv h=>aw h λ_ h=>aw h λ_ h=>noB h
 | .sj (.cons a (.cons b .nil)),x,env,nm,O,h=>aB h λd h=>p8 h (λh=>aw h λh _=>noB h) λh=>aB h λk h=>aB h λy h=>aB h λv h=>aw h λ_ h=>aw h λh1 h=>aw h λ_ h=>aw h λh2 h=>by rw[d.e,k.e,y.e,v.e];exact bP rfl rfl (JG G.ok G.lk G.rm.u (a_ a O h1).ev (a_ b O h2).ev)
 | .sj (.cons a (.cons b (.cons _ _))),x,env,nm,O,h=>aB h λd h=>p8 h (λh=>aw h λh _=>noB h) λh=>aB h λk h=>aB h λy h=>aB h λv h=>aw h λ_ h=>aw h λ_ h=>aw h λ_ h=>aw h λ_ h=>noB h
 | .attr e a,x,env,nm,O,h=>aB h λd h=>aw h λh0 h=>aw h λh1 h=>aw h λh2 h3=>by rw[d.e,cj h0,G.lk.an];exact bP rfl rfl (Jx G.ok (by rw[<-G.lk.nA];exact Nat.ble_eq.mp h1) h2 (a_ e O h3).ev)
 | .sub e i,x,env,nm,O,h=>aB h λd h=>aw h λ_ h=>aw h λh1 h2=>by rw[d.e];exact bP rfl rfl (O2 G.ok G.rm.u (a_ e O h1).ev (a_ i O h2).ev)
 | .Ei e lo hi,x,env,nm,O,h=>aB h λd h=>aB h λs h=>aw h λh0 h=>aw h λhn h=>aw h λh1 h2=>by
  rw[d.e,s.e,kQ hn];exact bP rfl rfl (O8 (a_ e O h0).ev (p8 h1 (λh=>aw h λh0 h=>by rw[kQ h0];exact t9 h) λh=>aB h λy h=>by rw[y.e];exact t5 (a_ lo O h).ev)
   (p8 h2 (λh=>aw h λh0 h=>by rw[kQ h0];exact t9 h) λh=>aB h λy h=>by rw[y.e];exact t5 (a_ hi O h).ev))
 | .call f es,x,env,nm,O,h=>aB h λd h=>aB h λy h=>aw h λhk h=>aw h λh0 h=>aw h λh1 h=>aw h λh2 h3=>by rw[d.e,y.e,gy hk];exact bP rfl rfl (JA G.rm G.lk h0 h1 (cj h2) (lF h3) (fK es O h3).KX)
 | .aR e m es,x,env,nm,O,h=>aB h λd h=>aB h λy h=>aw h λhk h=>aw h λh0 h=>aw h λh1 h=>aw h λh2 h=>aw h λh3 h=>aw h λh4 h5=>by rw[d.e,y.e,gy hk];exact bP rfl rfl (JB G.ok G.rm G.lk (cj h0) h1 (lF h5) (Nat.ble_eq.mp h3) h2 (a_ e O h4).ev (fK es O h5).KX)
 | .new c es,x,env,nm,O,h=>aB h λd h=>aB h λy h=>aw h λhk h=>aw h λh0 h=>aw h λh1 h=>aw h λ_ h3=>by rw[d.e,y.e,gy hk];exact bP rfl rfl (O5 G.rm G.lk h0 (cj h1) (lF h3) (fK es O h3).KX)
 | .bi b e,x,env,nm,O,h=>aB h λd h=>aB h λy h=>aB h λz h=>aw h λhk h=>aw h λh0 h=>aw h λh1 h=>aw h λh2 h3=>by rw[d.e,y.e,z.e,gy hk];exact bP rfl rfl (VL G.ok G.rm.handled G.lk h0 (cj h1) h2 (a_ e O h3).ev)
 | .comp el v it ifs,x,env,nm,O,h=>aB h λd h=>aB h λg h=>aB h λz h=>aw h λha h=>aw h λh0 h=>aw h λh1 h=>aw h λhb h=>aw h λh3 h=>aw h λh4 h5=>by rw[d.e,g.e,xF g.d z.e (of_decide_eq_true ha)];have hk:=cj h0;have nE:∀C,(compEnvC d.d.2.2.1 (iF env d.d.2.2.1.names []) C env).scope.names=rel env.scope.names d.d.2.2.1.names:=λC=>gO O.kind;exact bP rfl rfl (JO G.ok.P G.rm.handled O h1 hk (i_ hb) (a_ it O h3).ev (λC=>(a_ el (O.comp h1 hk) (by rw[nE];exact h4)).ev) (λC=>(fK ifs (O.comp h1 hk) (by rw[nE];exact h5)).ft))
 | .bad,x,env,nm,O,h=>GY
theorem fK:∀(es:Es) {xs:List Expr} {env:Env} {nm:List Str},l7 env->Et tb env.scope.names nm es xs=true->V4 T prog w A X env nm es xs
 | .nil,xs,env,nm,O,h=>by rw[gy h];exact⟨AA,JP,Pk,xx,AB,GO⟩
 | .cons e .nil,xs,env,nm,O,h=>aB h λd h=>aw h λh0 h=>aw h λh1 h2=>by have e1:=a_ e O h1;rw[d.e,gy h2];exact⟨xt h0 e1.ev AA,Jy e1.ev,O3 e1.ev,tY e1.ts xx,xy e1.ts AB,AH e1.ts GO⟩
 | .cons e (.cons e' es),xs,env,nm,O,h=>aB h λd h=>aw h λh0 h=>aw h λh1 h2=>by have e1:=a_ e O h1;have e2:=fK (.cons e' es) O h2;rw[d.e];refine aB h2 λc _=>?_;rw[c.e]at e2⊢;exact⟨xt h0 e1.ev e2.KX,and_cons e1.ev e2.and,or_cons e1.ev e2.or,tY e1.ts e2.V5,xy e1.ts e2.tor,AH e1.ts e2.ft⟩
end
end
inductive JQ (T:bj) (ρ:bU) (L:Lo):Fl->Flow->Prop
 |next:JQ T ρ L .next .next
 |cont:JQ T ρ L .cont .cont
 |ret {v:PV} {u:Value} (p:cv T ρ L v u):JQ T ρ L (.ret v) (.ret u)
@[elab_as_elim] theorem JQ.e{T:bj}{ρ:bU}{L:Lo}{fl:Fl}{f:Flow}{P:Flow->Prop}(h:JQ T ρ L fl f)(n:(∀v,fl≠.ret v)->P .next)(c:(∀v,fl≠.ret v)->P .cont)(r:∀v u,fl= .ret v->cv T ρ L v u->P (.ret u)):P f:=by
 cases h with
 |next=>exact n λv z=>nomatch z
 |cont=>exact c λv z=>nomatch z
 |ret p=>exact r _ _ rfl p
inductive gI (T:bj) (env:Env) (nm:List Str) (ρ:bU) (L:Lo) (s:Shared) (fl:Fl) (bk:Ls) (aN:PS) (f:Flow) (s':Shared):Prop
 |mk (aJ:bU) (L':Lo) (a:jA env ρ aJ) (b:L.le L') (c:Rep T aJ L' aN s'.heap) (d:cS s s') (e:cL T aJ L' env nm bk) (o:dR aJ env) (r:JQ T aJ L' fl f):gI T env nm ρ L s fl bk aN f s'
section
variable(T:bj)(prog:Program)(w:World)(A:Around)(X:Cx)(env:Env)(nm:List Str)
def iQ(st:S)(x:Stmt):Prop:=∀ls σ s ρ L fl bk aN,hH T ρ->cL T ρ L env nm ls->dR ρ env->Rep T ρ L σ s.heap->exec X st ls σ=some (fl,bk,aN)->
 ~~~(PySem.exec x env) (λf s'=>gI T env nm ρ L s fl bk aN f s') lE s
def rX(st:Ss)(xs:List Stmt):Prop:=∀ls σ s ρ L fl bk aN,hH T ρ->cL T ρ L env nm ls->dR ρ env->Rep T ρ L σ s.heap->execs X st ls σ=some (fl,bk,aN)->
 ~~~(PySem.execs xs env) (λf s'=>gI T env nm ρ L s fl bk aN f s') lE s
end
structure NmOk (env:Env) (nm:List Str):Prop where
 ok:l7 env
 one:∀i x,isVar env.scope.names nm i x=true->once nm i x
section
variable{T:bj}{tb:Tb}{n:Nat}{X:Cx}{env:Env}{nm:List Str}{ρ ao aJ:bU}{L aQ L':Lo}{s aC s':Shared}{σ aj aN:PS}{ls bk:Ls}{fl:Fl}{f:Flow}
theorem gI.from(a:jA env ρ ao)(b:L.le aQ)(d:cS s aC)(x:gI T env nm ao aQ aC fl bk aN f s'):gI T env nm ρ L s fl bk aN f s':=by obtain⟨aJ,L',a',b',c,d',e,o,r⟩:=x;exact⟨aJ,L',a.trans a',b.trans b',c,d.trans d',e,o,r⟩
theorem gI.quiet(a:gf ρ aJ)(b:L.le L')(c:Rep T aJ L' aN s'.heap)(d:cS s s')(F:cL T ρ L env nm ls)(O:dR ρ env)(r:JQ T aJ L' fl f):gI T env nm ρ L s fl ls aN f s':=
 ⟨aJ,L',a.toF,b,c,d,F.mono a b,O.mono a,r⟩
theorem jA.RY(a:jA env ρ aJ)(K:hH T ρ):hH T aJ:=λx o e=>a.bA x o (K x o e)
theorem iQ.aV{st:S}{x:Stmt}(h:iQ T prog w A X env nm st x)(K:hH T ρ)(F:cL T ρ L env nm ls)(O:dR ρ env)(R:Rep T ρ L σ s.heap)(q:exec X st ls σ=some (fl,bk,aN)){Q:Flow->Shared->Prop}
  (k:∀f aC ao aQ,jA env ρ ao->L.le aQ->Rep T ao aQ aN aC.heap->cS s aC->hH T ao->cL T ao aQ env nm bk->dR ao env->JQ T ao aQ fl f->Q f aC): ~~~(PySem.exec x env) Q lE s:=by
 refine wpAny_mono (h _ _ _ _ _ _ _ _ K F O R q) (λf aC P=>?_) λ_ _ z=>z;obtain⟨ao,aQ,a,b,c,d,e1,e2,e3⟩:=P;exact k f aC ao aQ a b c d (a.RY K) e1 e2 e3
theorem rX.aV{E:Value->Shared->Prop}{st:Ss}{x:List Stmt}(h:rX T prog w A X env nm st x)(K:hH T ρ)(F:cL T ρ L env nm ls)(O:dR ρ env)(R:Rep T ρ L σ s.heap)(q:execs X st ls σ=some (fl,bk,aN)){Q:Flow->Shared->Prop}
  (k:∀f aC ao aQ,jA env ρ ao->L.le aQ->Rep T ao aQ aN aC.heap->cS s aC->hH T ao->cL T ao aQ env nm bk->dR ao env->JQ T ao aQ fl f->Q f aC): ~~~(PySem.execs x env) Q E s:=by
 refine wpAny_mono (h _ _ _ _ _ _ _ _ K F O R q) (λf aC P=>?_) λ_ _ z=>RV z;obtain⟨ao,aQ,a,b,c,d,e1,e2,e3⟩:=P;exact k f aC ao aQ a b c d (a.RY K) e1 e2 e3
theorem Pl:rX T prog w A X env nm .nil []:=by intro ls σ s ρ L fl bk aN K F O R q;exists q;exact wpAny_execs_nil (.quiet .refl .refl R (.refl s) F O .next)
theorem JR{st:S}{r:Ss}{x:Stmt}{xs:List Stmt}(h1:iQ T prog w A X env nm st x)(h2:rX T prog w A X env nm r xs):rX T prog w A X env nm (.cons st r) (x::xs):=by
 intro ls σ s ρ L fl bk aN K F O R q;refine wpAny_execs_cons ?_;refine jb q λGZ bz aj q1 q=>?_;cases GZ
 ·refine h1.aV K F O R q1 λf aC ao aQ a b c d bu br lV fr=>?_;cases fr;exact wpAny_mono (h2 _ _ _ _ _ _ _ _ bu br lV c q) (λf bG P=>P.from a b d) λ_ _ z=>z
 all_goals
  exists q;refine h1.aV K F O R q1 λf aC ao aQ a b c d bu br lV fr=>?_;have:gI T env nm ρ L s _ _ _ f aC:=⟨ao,aQ,a,b,c,d,br,lV,fr⟩;cases fr;exact this
theorem Pm{x:Stmt}:iQ T prog w A X env nm .bad x:=by intro ls σ s ρ L fl bk aN K F O R q;exists q
theorem JS{p:Pos}:iQ T prog w A X env nm .pass (.Pass p):=by intro ls σ s ρ L fl bk aN K F O R q;exists q;exact wpAny_Pass (.quiet .refl .refl R (.refl s) F O .next)
theorem JT{p:Pos}:iQ T prog w A X env nm .cont (.Continue p):=by intro ls σ s ρ L fl bk aN K F O R q;exists q;exact wpAny_Continue (.quiet .refl .refl R (.refl s) F O .cont)
theorem Pn{e:E}{y:Expr}{p:Pos}(h1:bO T prog w A X env nm e y):iQ T prog w A X env nm (.ret e) (.Return (some y) p):=by intro ls σ s ρ L fl bk aN K F O R q;refine aF q λv aj q1 q=>?_;exists q;exact wpAny_Return_some (h1.aV K F R q1 λu aC ao aQ a b c d p bu br=> .quiet a b c d F O (.ret p))
theorem JU{e:E}{p:Pos}(h:RQ e=true):iQ T prog w A X env nm (.ret e) (.Return none p):=by intro ls σ s ρ L fl bk aN K F O R q;have e:=LQ h;subst e;exists q;exact wpAny_Return_none (.quiet .refl .refl R (.refl s) F O (.ret kP))
theorem Po{c:E}{a b:Ss}{t:Expr}{y z:List Stmt}{p:Pos}(h0:jZ T prog w A X env nm c t)(h1:rX T prog w A X env nm a y)(h2:rX T prog w A X env nm b z):iQ T prog w A X env nm (.ite c a b) (.If t y z p):=by
 intro ls σ s ρ L fl bk aN K F O R q;refine wpAny_If ?_;refine aF q λb0 aj q1 q=>?_;cases b0;rotate_left
 ·refine h0.aV K F R q1 λaC ao aQ a b c d bu br=>?_;rw[if_pos rfl];exact wpAny_mono (h1 _ _ _ _ _ _ _ _ bu br (O.mono a) c q) (λf bG P=>P.from a.toF b d) λ_ _ z=>z
 ·refine h0.aV K F R q1 λaC ao aQ a b c d bu br=>?_;rw[if_neg (by decide)];exact wpAny_mono (h2 _ _ _ _ _ _ _ _ bu br (O.mono a) c q) (λf bG P=>P.from a.toF b d) λ_ _ z=>z
theorem xG{y:Expr}(h:rQ y=true)(t:Option Expr)(l:Nat):swapsWith y t l env=pure false:=by cases y<;>first|rfl|cases h
theorem zi{y o:Expr}{a:Str}{p:Pos}(l:Nat):swapsWith y (some (.Attribute o a p)) l env=pure false:=by cases y<;>rfl
theorem B8{y o i:Expr}{p:Pos}(l:Nat):swapsWith y (some (.Subscript o i p)) l env=pure false:=by cases y<;>rfl
theorem B9{y:Expr}{ts:List Expr}{k:Nat}{p:Pos}(l:Nat):swapsWith y (some (.Tuple ts k p)) l env=pure false:=by cases y<;>rfl
theorem zj{y:Expr}{ts:List Expr}{k:Nat}{p:Pos}(h:y1 y=true):swappedStores [.Tuple ts k p] y env=pure none:=by cases y<;>first|rfl|cases h
theorem JV(O:l7 env){e:E}{y:Expr}{p:Pos}(hn:rQ y=true)(h1:bO T prog w A X env nm e y):iQ T prog w A X env nm (.expr e) (.Expr y p):=by
 intro ls σ s ρ L fl bk aN K F O' R q;refine aF q λx aj q1 q=>?_;cases x<;>first|change q|skip
 cases (fj q).2;refine wpAny_Expr_any (h1.aV K F R q1 λu aC ao aQ a b c d p bu br=> .quiet a b c d F O' .next) ?_ (xG hn _ _);unfold interactive;rw[O.kind];rfl
theorem j5{i:Nat}{x:Str}(h:isVar env.scope.names nm i x=true):env.kindOf x=some .local\/env.kindOf x=some .cell:=by unfold isVar at h;rw[bx,bx,mK]at h;exact h.1.2.imp (λz=>cj z) (λz=>cj z)
theorem B_{E:Value->Shared->Prop}(N:NmOk env nm){i:Nat}{x:Str}{v:PV}{u:Value}(h:isVar env.scope.names nm i x=true)(F:cL T ρ L env nm ls)(O:dR ρ env)(a:gf ρ ao)(b:L.le aQ)(c:Rep T ao aQ aN aC.heap)(d:cS s aC)(p:cv T ao aQ v u)
  {Q:Unit->Shared->Prop} (k:∀s',gI T env nm ρ L s .next (ls.set i (some v)) aN .next s'->Q () s'): ~~~(storeName env x u) Q E aC:=by
 refine qB (F.mono a b) (O.mono a) c (N.one i x h) (j5 h) p λs' aJ a' R' d' F' O'=>k s' ?_;exact⟨aJ,aQ,a.toF.trans a',b,R',d.trans d',F',O',.next⟩
theorem AK(N:NmOk env nm){i:Nat}{e:E}{z:Str}{y:Expr}{p p':Pos}(hv:isVar env.scope.names nm i z=true)(h1:bO T prog w A X env nm e y)(hs:swapsWith y (some (.Name z p)) p'.line env=pure false):iQ T prog w A X env nm (.asg i e) (.Assign [.Name z p] y p'):=by intro ls σ s ρ L fl bk aN K F O R q;refine aF q λv aj q1 q=>?_;exists q;refine wpAny_Assign_Name (h1.aV K F R q1 λu aC ao aQ a b c d pv bu br=>?_) hs;exact B_ N hv F O a b c d pv λs' P=>P
theorem JW(ok:dF T w){o e:E}{a:Nat}{z y:Expr}{p p':Pos}(ha:a<T.nA)(h1:bO T prog w A X env nm e y)(h2:bO T prog w A X env nm o z):iQ T prog w A X env nm (.dU o a e) (.Assign [.Attribute z (T.an a) p] y p'):=by intro ls σ s ρ L fl bk aN K F O R q;refine aF q λv aj q1 q=>?_;refine aF q λov aM q2 q=>?_;refine aF q λv' bJ q3 q=>?_;refine aL q λhN q4 q=>?_;exists q;refine plainObj_wpAny_Assign_Attribute (h1.aV K F R q1 λu aC ao aQ a b c d pv bu br=>h2.aV bu br c q2 λou bG aY eN a' b' c' d' po ij j4=>?_) (zi _);obtain⟨cV,lQ,a3,b3,R3,p3⟩:=Gp c' (cv.mono a'.bA b' pv) q3;refine Gr ok (ij.mono a3) R3 (cv.mono a3.bA b3 po) p3 q4 ha λs' P=>?_;obtain⟨iG,zf,a4,b4,R4,d4,_⟩:=P;exact .quiet (((a.trans a').trans a3).trans a4) (((b.trans b').trans b3).trans b4) R4 ((d.trans d').trans d4) F O .next
theorem JX(hP:T.P=w.params)(hu:A.units+100<cLine){o i e:E}{z j y:Expr}{p p':Pos}(h1:bO T prog w A X env nm e y)(h2:bO T prog w A X env nm o z)(h3:bO T prog w A X env nm i j):iQ T prog w A X env nm (.hY o i e) (.Assign [.Subscript z j p] y p'):=by
 intro ls σ s ρ L fl bk aN K F O R q;refine aF q λv aj q1 q=>?_;refine aF q λov aM q2 q=>?_;refine aF q λkv bJ q3 q=>?_;cases kv<;>first|change q|skip
 rename_i k;refine aF q λx hN q4 q=>?_;refine aL q λGS q5 q=>?_;exists q;refine wpAny_Assign_Subscript (h1.aV K F R q1 λu aC ao aQ a b c d pv bu br=>h2.aV bu br c q2 λou bG aY eN a' b' c' d' po ij j4=>h3.aV ij j4 c' q3 λiu fG cV lQ AE AF O9 LR pk JE p_=>?_) (B8 _);obtain⟨iG,a4,R4,p4⟩:=iC O9 (cv.mono (a'.bA.trans AE.bA) (b'.trans AF) pv) q4;refine OK R4 hP hu (cv.mono (AE.bA.trans a4.bA) AF po) (VR.mono a4.bA pk) p4 q5 λs' P=>?_;obtain⟨ub,GU,a5,b5,R5,d5,_⟩:=P;exact .quiet ((((a.trans a').trans AE).trans a4).trans a5) (((b.trans b').trans AF).trans b5) R5 (((d.trans d').trans LR).trans d5) F O .next
theorem JY(hP:T.P=w.params)(hu:A.units+100<cLine){o i:E}{z j:Expr}{p p':Pos}(h2:bO T prog w A X env nm o z)(h3:bO T prog w A X env nm i j):iQ T prog w A X env nm (.sN o i) (.Delete [.Subscript z j p] p'):=by
 intro ls σ s ρ L fl bk aN K F O R q;refine aF q λov aM q2 q=>?_;refine aF q λkv bJ q3 q=>?_;cases kv<;>first|change q|skip
 rename_i k;refine aL q λGS q5 q=>?_;exists q;refine wpAny_Delete (wpAny_deleteEach_cons ?_);rw[arm_delete_Subscript];refine wpAny_bind (h2.aV K F R q2 λou bG aY eN a' b' c' d' po ij j4=>wpAny_bind (wpAny_holding (h3.aV ij j4 c' q3 λiu fG cV lQ AE AF O9 LR pk JE p_=>wpAny_bind (wpAny_standAt (wpAny_bind (wpAny_holding ?_))))));refine OL O9 hP hu (cv.mono AE.bA AF po) pk q5 λs' P=>wpAny_release (wpAny_deleteEach_nil ?_);obtain⟨ub,GU,a5,b5,R5,d5,_⟩:=P;exact .quiet ((a'.trans AE).trans a5) ((b'.trans AF).trans b5) R5 ((d'.trans LR).trans d5) F O .next
theorem B'{E:Value->Shared->Prop}{op:mL}(hop:Gw op=true){x y z:Int}{t u:Tok}(q:arith op x y=some z){Q:Value->Shared->Prop}(h:∀t',Q (.int z t') {s with toks:=s.toks+1}): ~~~(inplaceOp (OG op) (.int x t) (.int y u)) Q E s:=by
 cases op<;>first|change hop|skip
 ·unfold arith at q;cases q;exact PySem.AutoIntOps.iadd_0 (h _)
 ·unfold arith at q;cases q;exact PySem.AutoIntOps.isub_0 (h _)
theorem JZ(ok:dF T w){o e:E}{a:Nat}{op:mL}{z y:Expr}{p p':Pos}(hop:Gw op=true)(ha:a<T.nA)(h1:bO T prog w A X env nm e y)(h2:bO T prog w A X env nm o z):iQ T prog w A X env nm (.vW o a op e) (.AugAssign (.Attribute z (T.an a) p) (OG op) y p'):=by
 intro ls σ s ρ L fl bk aN K F O R q;refine aF q λov aj q1 qa=>?_;refine aL qa λold q2 qb=>?_;refine aF qb λv aM q3 qc=>?_;clear q qa qb;obtain⟨x,rfl⟩:∃x,old= .d (.int x):=by cases old<;>first|change qc|(rename_i d;cases d<;>first|exact⟨_,rfl⟩|change qc)
 obtain⟨y,rfl⟩:∃y,v= .d (.int y):=by cases v<;>first|change qc|(rename_i d;cases d<;>first|exact⟨_,rfl⟩|change qc)
 refine aL qc λzz q4 q=>?_;refine aL q λbJ q5 q=>?_;exists q;refine wpAny_AugAssign_AttributeAny (h2.aV K F R q1 λou aC ao aQ a1 b1 c1 d1 po bu br=>?_);refine Gq ok bu c1 po q2 ha λuo t pold=>?_;refine h1.aV (s:={aC with toks:=t}) bu br c1 q3 λu bG aY eN a2 b2 c2 d2 pv ij j4=>?_;obtain⟨to,zq0⟩:=bV (cv.mono a2.bA b2 pold);rw[zq0];obtain⟨tv,zq2⟩:=bV pv;rw[zq2];refine B' hop q4 λt'=>?_;refine Gr (s:={bG with toks:=bG.toks+1}) ok ij c2 (cv.mono a2.bA b2 po) jX q5 ha λs' P=>?_;obtain⟨iG,zf,a4,b4,R4,d4,_⟩:=P;exact .quiet ((a1.trans a2).trans a4) ((b1.trans b2).trans b4) R4 (((d1.trans ⟨_,_,rfl⟩).trans d2).trans ((cS.mk _ _ _).trans d4)) F O .next
end
section
variable(T:bj)(prog:Program)(w:World)(A:Around)(env:Env)(nm:List Str)
def AL(put:D->Ls->Option Ls)(t:Expr):Prop:=∀(s:Shared) (ρ:bU) (L:Lo) (σ:PS) (ls:Ls) (x:D) (u:Value) (bz:Ls),cL T ρ L env nm ls->dR ρ env->Rep T ρ L σ s.heap->VR T.P T.cl ρ x u->put x ls=some bz->
 ∀(Q:Unit->Shared->Prop) (E:Value->Shared->Prop),(∀s' aJ,jA env ρ aJ->Rep T aJ L σ s'.heap->cS s s'->cL T aJ L env nm bz->dR aJ env->Q () s')->~~~(assign t env u) Q E s
def J0(t:Expr):Prop:=∀(s:Shared) (I:Addr) (v:Value) (Q:Unit->Shared->Prop) (E:Value->Shared->Prop),(∃o,s.heap.get? I=some o/\Gl o.cls=true)->Q () s->~~~(letOwnedTupleGo t (.ref I) v) Q E s
end
section
variable{T:bj}{tb:Tb}{n:Nat}{X:Cx}{env:Env}{nm:List Str}{ρ eG:bU}{L qd:Lo}{σ bJ:PS}{ls pn:Ls}{fl:Fl}
theorem J1{x:Str}{p:Pos}:J0 prog w A (.Name x p):=by intro s I v Q E _ h;exact wpAny_pure h
theorem Pp{zs:List Expr}{k:Nat}{p:Pos}:J0 prog w A (.Tuple zs k p):=by
 intro s I v Q E hI h;obtain⟨⟨cl,di,da,_⟩,ho,hc⟩:=hI;cases v<;>first|exact wpAny_pure h|skip
 rename_i a;refine wpAny_bind (wpAny_load ho ?_);cases cl<;>first|exact noB hc|skip
 rename_i n;cases da<;>first|exact wpAny_pure h|skip
 rename_i vs;refine wpAny_ite_false ?_ (wpAny_pure h);rw[(Bool.not_eq_true' _).mp hc];rfl
theorem G0(N:NmOk env nm){i:Nat}{x:Str}{p:Pos}(h:isVar env.scope.names nm i x=true):AL T prog w A env nm (j8 i) (.Name x p):=by intro s ρ L σ ls d u bz F O R r q Q E k;unfold j8 at q;cases q;exact wpAny_assign_Name (qB F O R (v:= .d d) (N.one i x h) (j5 h) r k)
theorem zk(N:NmOk env nm){Q:Unit->Shared->Prop}{E:Value->Shared->Prop}{is:List Nat}:∀{zs:List Expr} {l:List D} {us:List Value} {s:Shared} {ρ:bU} {ls bz:Ls},mT env.scope.names nm is zs=true->cL T ρ L env nm ls->dR ρ env->Rep T ρ L σ s.heap->dA T.P T.cl ρ l us->zC is l ls=some bz->
  (∀s' aJ,jA env ρ aJ->Rep T aJ L σ s'.heap->cS s s'->cL T aJ L env nm bz->dR aJ env->Q () s')->~~~(assignInOrder ((assignEach zs env).map (·.2)) us) Q E s:=by
 induction is with
 |nil=>
  intro zs l us s ρ ls bz hm F O R r q k;rw[gy hm];cases l with
  |cons _ _=>cases q
  |nil=>
   cases q;exact wpAny_pure (k s ρ .refl R (.refl s) F O)
 |cons i is ih=>
  intro zs l us s ρ ls bz hm F O R r q k;rcases l with _|⟨d,l⟩
  ·exact noS q
  rcases us with _|⟨u,us⟩
  ·exact r.elim
  refine aB hm λc hm=>aB hm λz hm=>aw hm λh1 h2=>?_;rw[c.e,z.e];show wpAny _ A (do holding us (assign (.Name z.d.1 z.d.2) env u);assignInOrder ((assignEach c.d.2 env).map (·.2)) us) Q E s;refine wpAny_bind (wpAny_holding (wpAny_assign_Name (qB F O R (v:= .d d) (N.one i z.d.1 h1) (j5 h1) r.1 λaC ao a kU tg br lV=>?_)));exact ih h2 br lV kU (dA.mono a.bA r.2) q λs' aJ a' R' d' F' O'=>k s' aJ (a.trans a') R' (tg.trans d') F' O'
theorem G2{ns:my}:∀{is:List Nat} {zs:List Expr},mT ns nm is zs=true->(assignEach zs env).length=is.length/\(assignEach zs env).findIdx? (·.1)=none
 |[],zs,h=>by rw[gy h];exact⟨rfl,rfl⟩
 |i::is,zs,h=>aB h λc h=>aB h λz h=>aw h λ_ h=>by obtain⟨h1,h2⟩:=G2 h;rw[c.e,z.e];have e:assignEach (.Name z.d.1 z.d.2::c.d.2) env=(false,assign (.Name z.d.1 z.d.2) env)::assignEach c.d.2 env:=rfl;rw[e];exact⟨by simp[h1],by simp[vV,h2]⟩
theorem uc:∀{is:List Nat} {l:List D} {ls bz:Ls},zC is l ls=some bz->is.length=l.length
 |[],[],_,_,_=>rfl
 |i::is,x::xs,_,_,h=>congrArg (·+1) (uc (is:=is) (l:=xs) h)
 |[],_::_,_,_,h=>noS h
 |_::_,[],_,_,h=>noS h
theorem AM(N:NmOk env nm)(hh:A.handled=none){is:List Nat}{zs:List Expr}{k:Nat}{p:Pos}(hm:mT env.scope.names nm is zs=true):AL T prog w A env nm (qL is) (.Tuple zs k p):=by
 intro s ρ L σ ls d u bz F O R r q Q E kk;cases d<;>first|exact noS q|skip
 rename_i l;obtain⟨a,vs,zq71,i,rr⟩:=r;rw[zq71];obtain⟨h1,h2⟩:=G2 (env:=env) hm;have hl:=uc q;refine wpAny_assign_Tuple hh (mv (R.bA i)) (by rw[h1,hl,rr.size]) h2 λh' x=>?_;have R':=R.extBut R.new x;exact zk N hm F O R' rr q λs' aJ a' R' d' F' O'=>kk s' aJ a' R' ((cS.mk _ _ _).trans d') F' O'
theorem J2(N:NmOk env nm)(hh:A.handled=none){is:List Nat}{zs:List Expr}{k:Nat}{e:E}{y:Expr}{p p':Pos}(ht:y1 y=true)(hm:mT env.scope.names nm is zs=true)(h1:bO T prog w A X env nm e y):iQ T prog w A X env nm (.kc is e) (.Assign [.Tuple zs k p] y p'):=by
 intro ls σ s ρ L fl bk aN K F O R q;refine aF q λv aj q1 q=>?_;cases v<;>first|change q|skip
 rename_i v;refine aL q λbz q2 q=>?_;exists q;refine Assign_Tuple (h1.aV K F R q1 λu aC ao aQ a b c d pv bu br=>?_) (show swapsWith y (some (.Tuple zs k p)) p'.line env=pure false from B9 _) (zj ht);refine AM N hh hm aC ao aQ aj ls v u bz br (O.mono a) c pv q2 _ _ λs' aJ a' R' d' F' O'=>?_;exact⟨aJ,aQ,a.toF.trans a',b,R',d.trans d',F',O',.next⟩
theorem kW{S:Addr->Prop}(F:cL T ρ L env nm ls)(O:dR ρ env)(hC:∀x,(env.cells.lookup x).isSome=true->env.kindOf x=some .cell)(h:∀a,S a->∀o,ρ a≠.aX o):∀a,S a->a≠env.locals/\∀x,env.cells.lookup x≠some a:=by intro a ha;obtain⟨o,m,h1,_⟩:=F.loc;refine⟨λz=>h a ha o (z▸h1),λx z=>?_⟩;obtain⟨c,o,v,e1,e2,_⟩:=O.all x (hC x (by rw[z];rfl));rw[e1]at z;cases z;exact h _ ha o e2
theorem cL.nO{aJ:bU}(F:cL T ρ L env nm ls)(im:bf ρ aJ)(h:∀a o,(a=env.locals\/∃x,env.cells.lookup x=some a)->ρ a= .aX o->aJ a= .aX o):cL T aJ L env nm ls:=by
 obtain⟨fn,Ju,LL,⟨o,m,h1,h2,h3⟩,LM⟩:=F;refine⟨fn,Ju,LL,⟨o,m,h _ _ (.inl rfl) h1,h2,λi x v e1 e2 e3=>?_⟩,λi x v e1 e2 e3=>?_⟩
 ·obtain⟨u,p,q⟩:=h3 i x v e1 e2 e3;exact⟨u,p,cv.mono im .refl q⟩
 ·obtain⟨c,o',u,p1,p2,p3,p4⟩:=LM i x v e1 e2 e3;exact⟨c,o',u,p1,h _ _ (.inr ⟨x,p1⟩) p2,p3,cv.mono im .refl p4⟩
theorem dR.nO{aJ:bU}(O:dR ρ env)(h:∀a o,(a=env.locals\/∃x,env.cells.lookup x=some a)->ρ a= .aX o->aJ a= .aX o):dR aJ env:=
 ⟨λx e=>let ⟨c,o,v,p1,p2,p3⟩:=O.all x e;⟨c,o,v,p1,h _ _ (.inr ⟨x,p1⟩) p2,p3⟩,O.apart,O.wQ⟩
theorem At.itk{items:List D}{I c:Addr}{i:Nat}{h:Heap}(U:At T prog w A ρ items I c i h):∃o,h.get? I=some o/\Gl o.cls=true:=by obtain⟨_,_,fp,St,_,_,st,dd⟩:=U;exact dd _ _ st
theorem J3{body:Ls->PS->Option (Fl×Ls×PS)}{put:D->Ls->Option Ls}{x:D}{r:List D}{R:Fl×Ls×PS}{P:Prop}(q:dO body put (x::r) ls σ=some R)
  (k:∀bz vr eQ aM,put x ls=some bz->body bz σ=some (vr,eQ,aM)->(∀v,vr= .ret v->R=(vr,eQ,aM))->((∀v,vr≠.ret v)->dO body put r eQ aM=some R)->P):P:=by
 refine aL q λbz h1 q=>?_;refine jb q λvr eQ aM h2 q=>?_;refine k bz vr eQ aM h1 h2 ?_ ?_
 ·rintro v rfl;exact(fh q).symm
 ·intro h;cases vr with
  |ret v=>exact absurd rfl (h v)
  |_=>exact q
inductive G4 (T:bj) (prog:Program) (w:World) (A:Around) (env:Env) (nm:List Str) (ρ:bU) (L:Lo) (bG:Shared) (items:List D) (I c:Addr) (lk:Lock) (S:Addr->Prop) (bd:Ls->PS->Option (Fl×Ls×PS)) (put:D->Ls->Option Ls) (R0:Fl×Ls×PS) (n:Nat) (s':Shared):Prop
 |mk (i:Nat) (bk:Ls) (aJ:bU) (L':Lo) (aN:PS) (hn:n=items.length+1-i) (hi:i<=items.length) (q:dO bd put (items.drop i) bk aN=some R0) (a:jA env ρ aJ) (b:L.le L') (R:Rep T aJ L' aN s'.heap) (d:cS bG s') (F:cL T aJ L' env nm bk) (O:dR aJ env) (U:Under T prog w A aJ L' items I c lk S i s'.heap):G4 T prog w A env nm ρ L bG items I c lk S bd put R0 n s'
theorem Cb{put:D->Ls->Option Ls}{t:Expr}{b:Ss}{body:List Stmt}{items:List D}{I c:Addr}{lk:Lock}{S:Addr->Prop}{aM:PS}{bG:Shared}{aY:bU}
  (hC:∀x,(env.cells.lookup x).isSome=true->env.kindOf x=some .cell) (hp:AL T prog w A env nm put t) (hg:J0 prog w A t) (hb:rX T prog w A X env nm b body)
  (K:hH T ρ) (F:cL T ρ L env nm ls) (O:dR ρ env) (le:gf ρ aY) (gV:Rep T aY L aM bG.heap) (hI:ρ I= .free) (hl:∀a,fO L lk=some a->∀o,ρ a≠.aX o) (HK:∀a,S a->∀o,ρ a≠.aX o) (U:Under T prog w A aY L items I c lk S 0 bG.heap)
  (q:dO (λl s=>execs X b l s) put items ls aM=some (fl,pn,bJ)) {Q:Flow->Shared->Prop} (k:∀f s',gI T env nm ρ L bG fl pn (itClose bJ lk) f s'->Q f s'):
  codeAny (model prog w) A (.forLoop t (.ref I) body [] env) (λr s'=>match r with| .ok f=>Q f s'| .error e=>cameBackBy (model prog w) A env lE e s') bG:=by
 have ap:∀a,(a=env.locals\/∃x,env.cells.lookup x=some a)->¬S a:=λa h sa=>h.elim (kW F O hC HK a sa).1 λ⟨x,h⟩=>(kW F O hC HK a sa).2 x h;refine codeAny_forLoop_any (G4 T prog w A env nm ρ L bG items I c lk S (λl s=>execs X b l s) put (fl,pn,bJ)) ?_ (items.length+1)
  (.mk 0 ls aY L aM rfl (eJ _) q le.toF .refl gV (.refl _) (F.mono le .refl) (O.mono le) U)
 clear q U gV le F O;intro n s' st;obtain⟨i,bk,aJ,L',aN,hn,hi,q,a,b,R,d,F,O,U⟩:=st;have apI:∀a,(a=env.locals\/∃x,env.cells.lookup x=some a)->a≠I:=λa h e=>ap a h (e▸U.sI);by_cases sr:i<items.length
 ·replace q:=(List.drop_eq_getElem_cons sr)▸q
  refine U.next R (mJ sr) λval aC ao xH Cc kU tg fq B7=>?_;have a1:jA env ρ ao:=⟨a.bA.trans xH,λx o h1 h2 e=>Cc x o (λz=>by rw[z,hI]at e;cases e) (a.aX x o h1 h2 e)⟩;have br:=F.nO xH λa o h e=>Cc a o (apI a h) e;have lV:=O.nO λa o h e=>Cc a o (apI a h) e;clear F O;refine hg aC I val _ _ B7.at_.itk ?_;refine J3 q λbz vr eQ hN qp qb qr qn=>?_;refine hp aC ao L' aN bk _ val bz br lV kU fq qp _ _ λfG cV Cd km G5 p_ J4=>?_;have np:∀x,S x->x≠env.locals/\∀y,env.cells.lookup y≠some x:=λx hx=>⟨λz=>ap x (.inl z) hx,λy z=>ap x (.inr ⟨y,z⟩) hx⟩;have JM:=B7.keep kU km Cd.bA .refl λx o hx e=>Cd.aX x o (np x hx).1 (np x hx).2 e;have Yk:=a1.trans Cd;refine hb.aV (Yk.RY K) p_ J4 km qb λf B6 iG zf jC th rW xD K₄ J5 J6 fr=>?_;have J7:=JM.keep km rW jC.bA th λx o hx e=>jC.aX x o (np x hx).1 (np x hx).2 e;have V6:(∀v,vr≠.ret v)->∃m,m<n/\G4 T prog w A env nm ρ L bG items I c lk S (λl s=>execs X _ l s) put (fl,pn,bJ) m B6:=λh=>
   ⟨items.length+1-(i+1),by omega,.mk (i+1) eQ iG zf hN rfl sr (qn h) (Yk.trans jC) (b.trans th) rW (((d.trans tg).trans G5).trans xD) J5 J6 J7⟩
  refine fr.e V6 V6 λv u e p=>?_;obtain⟨ub,G6,Pf,V7⟩:=J7.cl.close rW;have fS:∀a o,(a=env.locals\/∃x,env.cells.lookup x=some a)->iG a= .aX o->ub a= .aX o:=λa o h e=>V7 a o e λz=>ap a h (J7.sl a z);exact k _ _ (YA (qr _ e) ⟨ub,zf,⟨(Yk.trans jC).bA.trans G6,λx o h1 h2 e=>V7 x o ((Yk.trans jC).aX x o h1 h2 e) λz=>HK x (J7.sl x z) o e⟩,b.trans th,Pf,((d.trans tg).trans G5).trans xD,J5.nO G6 fS,J6.nO fS,e▸.ret (cv.mono G6 .refl p)⟩)
 ·have V0:i=items.length:=by omega
  rw[V0,List.drop_length]at q;refine U.last R V0 λaC ao xH Cc kU tg=>wpAny_execs_nil ?_;have fS:∀a o,(a=env.locals\/∃x,env.cells.lookup x=some a)->aJ a= .aX o->ao a= .aX o:=λa o h e=>Cc a o e (apI a h) λz=>ap a h (U.sl a z);exact k _ _ (someE3 q ⟨ao,L',⟨a.bA.trans xH,λx o h1 h2 e=>Cc x o (a.aX x o h1 h2 e) (λz=>by rw[z,hI]at e;cases e) λz=>HK x (U.sl x z) o e⟩,b,kU,d.trans tg,F.nO xH fS,O.nO fS,.next⟩)
end
section
variable{T:bj}{tb:Tb}{n:Nat}{X:Cx}{env:Env}{nm:List Str}
theorem G7(hP:T.P=w.params)(hh:A.handled=none)(hC:∀x,(env.cells.lookup x).isSome=true->env.kindOf x=some .cell){put:D->Ls->Option Ls}{t:Expr}{st:S}{it:E}{b:Ss}{jt:Expr}{body:List Stmt}{p:Pos}
  (hp:AL T prog w A env nm put t) (hg:J0 prog w A t) (zg:∀x,foldedSetIterable jt env x=pure x) (h1:bO T prog w A X env nm it jt) (hb:rX T prog w A X env nm b body)
  (hx:∀ls σ,exec X st ls σ=ai (cX (SA (execs X b) put ls)) (eval X it ls σ)):iQ T prog w A X env nm st (.For t jt body [] p):=by
 intro ls σ s ρ L fl bk aN K F O R q;rw[hx]at q;refine aF q λxv aj q1 q=>?_;refine jb q λitems aM lk q2 q=>?_;refine jb q λfl₃ pn bJ q3 q=>?_;exists q;refine wpAny_For ?_ zg;refine h1.aV K F R q1 λu aC ao aQ a b c d pv bu br=>?_;refine mz hP hh bu c pv q2 λI cc bG aY S le gV mA hI hS hl HK U=>?_;exact Cb hC hp hg hb bu br (O.mono a) le gV hI hl HK U q3 λf s' P=>(P.from .refl .refl mA).from a.toF b d
theorem Ce{kg:Ls->PS->Option (Bool×PS)}{body:Ls->PS->Option (Fl×Ls×PS)}{n:Nat}{ls:Ls}{σ:PS}{R:Fl×Ls×PS}{P:Prop}(q:jH kg body n ls σ=some R)
  (k0:∀aj,kg ls σ=some (false,aj)->R=(.next,ls,aj)->P) (k1:∀m aj vr eQ aM,m<n->kg ls σ=some (true,aj)->body ls aj=some (vr,eQ,aM)->(∀v,vr= .ret v->R=(vr,eQ,aM))->((∀v,vr≠.ret v)->jH kg body m eQ aM=some R)->P):P:=by
 cases n with
 |zero=>exact noS q
 |succ m=>
 refine aF q λb aj h1 q=>?_;cases b with
 |false=>exact k0 _ h1 (fh q).symm
 |true=>
  refine jb q λvr eQ aM h2 q=>?_;refine k1 m aj vr eQ aM (Nat.lt_succ_self _) h1 h2 ?_ ?_
  ·rintro v rfl;exact(fh q).symm
  ·intro h;cases vr with
   |ret v=>exact absurd rfl (h v)
   |_=>exact q
inductive Pq (T:bj) (env:Env) (nm:List Str) (ρ:bU) (L:Lo) (s:Shared) (kg:Ls->PS->Option (Bool×PS)) (bd:Ls->PS->Option (Fl×Ls×PS)) (R0:Fl×Ls×PS) (n:Nat) (s':Shared):Prop
 |mk (bz:Ls) (ao:bU) (aQ:Lo) (aj:PS) (q:jH kg bd n bz aj=some R0) (a:jA env ρ ao) (b:L.le aQ) (R:Rep T ao aQ aj s'.heap) (d:cS s s') (F:cL T ao aQ env nm bz) (O:dR ao env):Pq T env nm ρ L s kg bd R0 n s'
theorem G8{c:E}{b:Ss}{t:Expr}{body:List Stmt}{p:Pos}(h0:jZ T prog w A X env nm c t)(hb:rX T prog w A X env nm b body):iQ T prog w A X env nm (.l_ c b) (.While t body [] p):=by
 intro ls σ s ρ L fl bk aN K F O R q;refine wpAny_While ?_;refine codeAny_whileLoop (Pq T env nm ρ L s (λl s=>test X c l s) (λl s=>execs X b l s) (fl,bk,aN)) ?_ X.fuel (.mk ls ρ L σ q .refl .refl R (.refl s) F O);clear q R F O;intro n s' st;obtain⟨bz,ao,aQ,aj,q,a,b,kU,d,br,lV⟩:=st;refine Ce q (λaM q1 e=>?_) λm aM vr eQ bJ hm q1 q2 qr qn=>?_
 ·refine wpAny_mono (h0 _ _ _ _ _ _ _ (a.RY K) br kU q1) (λc bG P=>?_) λ_ _ z=>RV z;obtain⟨y,aY,eN,vt,Cf,gV,mA,_⟩:=P;exact ifF y (wpAny_execs_nil (YA e ⟨aY,eN,a.trans vt.toF,b.trans Cf,gV,d.trans mA,br.mono vt Cf,lV.mono vt,.next⟩))
 ·refine wpAny_mono (h0 _ _ _ _ _ _ _ (a.RY K) br kU q1) (λc bG P=>?_) λ_ _ z=>RV z;obtain⟨y,aY,eN,vt,Cf,gV,mA,_⟩:=P;refine ifT y (hb.aV ((a.RY K).mono vt) (br.mono vt Cf) (lV.mono vt) gV q2 λf fG cV lQ Cd V8 km G5 JE p_ J4 fr=>?_);have V6:(∀v,vr≠.ret v)->∃m,m<n/\Pq T env nm ρ L s (λl s=>test X _ l s) (λl s=>execs X _ l s) (fl,bk,aN) m fG:=λh=>
   ⟨m,hm,.mk eQ cV lQ bJ (qn h) ((a.trans vt.toF).trans Cd) ((b.trans Cf).trans V8) km ((d.trans mA).trans G5) p_ J4⟩
  exact fr.e V6 V6 λv u e p=>YA (qr _ e) ⟨cV,lQ,(a.trans vt.toF).trans Cd,(b.trans Cf).trans V8,km,(d.trans mA).trans G5,p_,J4,e▸.ret p⟩
theorem J8{o lo:E}{z l:Expr}{p p' p'':Pos}(h2:bO T prog w A X env nm o z)(h3:bO T prog w A X env nm lo l):iQ T prog w A X env nm (.yf o lo) (.Delete [.Subscript z (.Slice (some l) none none p) p'] p''):=by
 intro ls σ s ρ L fl bk aN K F O R q;refine aF q λov aM q2 q=>?_;refine aF q λkv bJ q3 qb=>?_;cases kv<;>first|change qb|skip
 rename_i k;refine aL qb λGS q5 q=>?_;exists q;refine wpAny_Delete (wpAny_deleteEach_cons ?_);rw[arm_delete_Subscript];refine wpAny_bind (h2.aV K F R q2 λou bG aY eN a' b' c' d' po ij j4=>wpAny_bind (wpAny_holding (wpAny_Slice ?_)));refine h3.aV ij j4 c' q3 λiu fG cV lQ AE AF O9 LR pk JE p_=>?_;rw[evalPart_none];refine wpAny_pure ?_;refine wpAny_pure (wpAny_bind (wpAny_standAt (wpAny_bind (wpAny_holding ?_))));have hk:∃i,k= .int i:=by cases k<;>first|exact⟨_,rfl⟩|change q5
 obtain⟨i,rfl⟩:=hk;obtain⟨t,zq76⟩:=bV pk;rw[zq76];have R3:Rep T cV lQ bJ (fG.heap.push {cls:= .type "slice",data:= .fields #[.int i t,.none,.none]}):=O9.push _;refine BW (s:={fG with heap:=fG.heap.push {cls:= .type "slice",data:= .fields #[.int i t,.none,.none]}}) R3 (cv.mono AE.bA AF po) q5 (Heap.IsSliceOf.new ..) λs' P=>wpAny_release (wpAny_deleteEach_nil ?_);obtain⟨ub,GU,a5,b5,R5,d5,_⟩:=P;exact .quiet ((a'.trans AE).trans a5) ((b'.trans AF).trans b5) R5 ((d'.trans LR).trans ((cS.mk _ _ _).trans d5)) F O .next
theorem J9(hP:T.P=w.params)(hh:A.handled=none)(N:NmOk env nm)(hC:∀x,(env.cells.lookup x).isSome=true->env.kindOf x=some .cell){i:Nat}{x:Str}{V9:Pos}{elt:E}{v:Nat}{it:E}{ifs:Es}{y jt:Expr}{js:List Expr}{sc:Scope}{z:Str}{px pos p:Pos}
  (hv:isVar env.scope.names nm i x=true) (hsw:swapsWith (.ListComp y [⟨.Name z px,jt,js,0⟩] sc pos) (some (.Name x V9)) p.line env=pure true)
  (hc:rP env.scope.names sc.names z=true) (vo:sc.kind= .function) (zg:∀x,foldedSetIterable jt env x=pure x) (h1:bO T prog w A X env nm it jt)
  (hE:∀C,bO T prog w A X (compEnvC sc (iF env sc.names []) C env) (rO nm v z) elt y) (hT:∀C,zd T prog w A X (compEnvC sc (iF env sc.names []) C env) (rO nm v z) ifs js):
  iQ T prog w A X env nm (.asg i (.comp elt v it ifs)) (.Assign [.Name x V9] (.ListComp y [⟨.Name z px,jt,js,0⟩] sc pos) p):=by
 intro ls σ s ρ L fl bk aN K F O R q;refine aF q λr σr qe q=>?_;cases q;have q:=qe;refine aF q λxv aj q1 q=>?_;refine jb q λitems aM lk q2 q=>?_;refine aF q λys bJ q3 q=>?_;have hf:=(fj q).1;rw[exec_Assign_Name_used _ _ _ _ hsw];refine wpAny_bind (wpAny_standAt (wpAny_bind ?_));show wpAny _ A (do let _<-comprehension (.ListComp y [⟨.Name z px,jt,js,0⟩] sc pos) sc env _ (newList []) false (PySem.eval jt env) (some (assign (.Name x V9) env))) _ _ s;refine wpAny_bind (wpAny_mono (wpAny_comprehension_free (use:=some (assign (.Name x V9) env)) (E:=lE) (Q:=λ_ s'=>gI T env nm ρ L s .next (ls.set i (some r)) aN .next s') rfl zg (rU (N.ok.free hc)) vo (xE hc) ?_)
  (λ_ s' hq=>wpAny_pure (wpAny_pure hq)) λ_ _ e=>e)
 refine h1.aV K F R q1 λu aC ao aQ a b c d p bu br=>?_;refine mz hP hh bu c p q2 λI cc bG aY S le gV mA hI hS hl HK U=>?_;refine rV (RR:=λacc C=>compPost (model prog w) A lE (some (assign (.Name x V9) env)) (λ_ s'=>gI T env nm ρ L s .next (ls.set i (some r)) aN .next s') acc C) br bu le .refl gV U hI hS hl q3 hf hc vo (N.ok.free hc) hE hT ?_;intro D C s' aJ L' vs k oC mC Yj l' R' d' eD rD eC nC RW Pc HM;have lV:=O.mono a;have Yl:=kW (S:=λx=>x=C) br lV hC (λ_ h o=>h▸Pc o) C rfl;have R2:Rep T (up aJ D .free) L' (itClose bJ lk) s'.heap:=R'.takes (.inr ⟨_,eD⟩) (λa o ha _ e=>e) trivial;have V3:bf aJ (up aJ D .free):=dw λo=>by rw[eD];intro z;cases z
 obtain⟨cV,lQ,a3,b3,R3,p3⟩:=jz (h':=s'.heap) (k:=k) R2 aO (λ_ _ _ _ e=>e) (R'.aX eD) (dA.mono V3 rD) q;have Eu:gf ao cV:=⟨(Yj.bA.trans V3).trans a3.bA,λx o e=>a3.aX x o (by rw[aZ λ(z:x=D)=>RW o (z▸e)];exact Yj.aX x o e)⟩;have eC3:=a3.aX _ _ (by rw[aZ (Ne.symm HM)];exact eC);refine wpAny_assign_Name (qB (br.mono Eu (l'.trans b3)) (lV.mono Eu) R3 (N.one i x hv) (j5 hv) p3 λB6 iG jC rW xD J5 J6=>?_);have eC4:=jC.aX _ _ Yl.1 Yl.2 eC3;refine⟨_,tW (rW.aX eC4) nC,λh' sb=>?_⟩;have R5:Rep T (up iG C .free) lQ aN h':=rW.takes (.inr ⟨_,eC4⟩) (λa o ha _ e=>sb.extBut a o ha e) trivial;have im5:bf iG (up iG C .free):=dw λo=>by rw[eC4];intro z;cases z
 have fS:∀a o,(a=env.locals\/∃x,env.cells.lookup x=some a)->iG a= .aX o->up iG C .free a= .aX o:=λa o h e=>by rw[aZ λ(z:a=C)=>h.elim (λh=>Yl.1 (z▸h)) λ⟨x,h⟩=>Yl.2 x (z▸h)];exact e
 refine⟨up iG C .free,lQ,⟨((a.bA.trans Eu.bA).trans jC.bA).trans im5,λx o h1 h2 e=>?_⟩,(b.trans l').trans b3,R5,(((d.trans mA).trans d').trans xD).trans ⟨_,_,rfl⟩,J5.nO im5 fS,J6.nO fS,.next⟩;rw[aZ λ(z:x=C)=>Pc o (z▸a.aX _ _ e)];exact jC.aX x o h1 h2 (Eu.aX _ _ (a.aX _ _ e))
theorem zl{y:Expr}{x:Str}{p:Pos}{l:Nat}:∃b,swapsWith y (some (.Name x p)) l env=pure b:=by cases y<;>exact⟨_,rfl⟩
end
structure vu (env:Env) (nm:List Str):Prop extends NmOk env nm where
 zm:∀x,(env.cells.lookup x).isSome=true->env.kindOf x=some .cell
section
variable{T:bj}{tb:Tb}{n:Nat}{X:Cx}{env:Env}{nm:List Str}
theorem Pt(G:Ctx T tb prog w A n X)(N:vu env nm){i:Nat}{e:E}{z:Str}{y:Expr}{p p':Pos}(hv:isVar env.scope.names nm i z=true)(hm:mE tb env.scope.names nm e y=true)(hn:(rQ y||cC (λ_=>true) (LO e))=true):iQ T prog w A X env nm (.asg i e) (.Assign [.Name z p] y p'):=by
 have h1:=(a_ G e N.ok hm).ev;obtain⟨b,hb⟩:=zl (y:=y) (x:=z) (p:=p) (l:=p'.line) (env:=env);cases b with
 |false=>exact AK N.toNmOk hv h1 hb
 |true=>
  refine p8 hn (λh=>AK N.toNmOk hv h1 (xG h _ _)) λh=>aB h λc _=>?_;clear h1;rw[c.e]at hm⊢;refine aB hm λd h=>aB h λg h=>aB h λx h=>aw h λha h=>aw h λh0 h=>aw h λhc h=>aw h λzg h=>aw h λh3 h=>aw h λh4 h5=>?_;have e1:=xF g.d x.e (of_decide_eq_true ha);rw[d.e,g.e,e1]at hb⊢;have hk:=cj h0;have nE:∀C,(compEnvC d.d.2.2.1 (iF env d.d.2.2.1.names []) C env).scope.names=rel env.scope.names d.d.2.2.1.names:=λC=>gO N.ok.kind;exact J9 G.ok.P G.rm.handled N.toNmOk N.zm hv hb hc hk (i_ zg) (a_ G _ N.ok h3).ev (λC=>(a_ G _ (N.ok.comp hc hk) (by rw[nE];exact h4)).ev) (λC=>(fK G _ (N.ok.comp hc hk) (by rw[nE];exact h5)).ft)
variable(G:Ctx T tb prog w A n X)(N:vu env nm)
include G N
mutual
theorem Pu:∀(st:S) {x:Stmt},mS tb env.scope.names nm st x=true->iQ T prog w A X env nm st x
 | .expr e,x,h=>aB h λd h=>aw h λh0 h=>by rw[d.e];exact JV N.ok h0 (a_ G e N.ok h).ev
 | .asg i e,x,h=>aB h λd h=>aB h λt h=>aB h λz h=>aw h λh0 h=>aw h λh1 h2=>by rw[d.e,t.e,z.e];exact Pt G N h0 h1 h2
 | .dU o a e,x,h=>aB h λd h=>aB h λt h=>aB h λz h=>aw h λh0 h=>aw h λh1 h=>aw h λh2 h3=>by rw[d.e,t.e,z.e,cj h0,G.lk.an];exact JW G.ok (by rw[<-G.lk.nA];exact Nat.ble_eq.mp h1) (a_ G e N.ok h3).ev (a_ G o N.ok h2).ev
 | .hY o i e,x,h=>aB h λd h=>aB h λt h=>aB h λz h=>aw h λ_ h=>aw h λh1 h=>aw h λh2 h3=>by rw[d.e,t.e,z.e];exact JX G.ok.P G.rm.u (a_ G e N.ok h3).ev (a_ G o N.ok h1).ev (a_ G i N.ok h2).ev
 | .kc is e,x,h=>aB h λd h=>aB h λt h=>aB h λz h=>aw h λh0 h=>aw h λh1 h2=>by rw[d.e,t.e,z.e];exact J2 N.toNmOk G.rm.handled h0 h1 (a_ G e N.ok h2).ev
 | .vW o a op e,x,h=>aB h λd h=>aB h λz h=>aw h λh0 h=>aw h λh1 h=>aw h λh2 h=>aw h λTi h=>aw h λh3 h4=>by rw[d.e,z.e,cj h0,Gv h2,G.lk.an];exact JZ G.ok Ti (by rw[<-G.lk.nA];exact Nat.ble_eq.mp h1) (a_ G e N.ok h4).ev (a_ G o N.ok h3).ev
 | .ite c a b,x,h=>aB h λd h=>aw h λh0 h=>aw h λh1 h2=>by rw[d.e];exact Po (a_ G c N.ok h0).ts (mB a h1) (mB b h2)
 | .gr i it b,x,h=>aB h λd h=>aB h λz h=>aw h λhk h=>aw h λhs h=>aw h λh0 h=>aw h λh1 h2=>by rw[d.e,z.e,gy hk];exact G7 G.ok.P G.rm.handled N.zm (G0 N.toNmOk h0) J1 (i_ hs) (a_ G it N.ok h1).ev (mB b h2) (λls σ=>rfl)
 | .ye is it b,x,h=>aB h λd h=>aB h λz h=>aw h λhk h=>aw h λhs h=>aw h λh0 h=>aw h λh1 h2=>by rw[d.e,z.e,gy hk];exact G7 G.ok.P G.rm.handled N.zm (AM N.toNmOk G.rm.handled h0) Pp (i_ hs) (a_ G it N.ok h1).ev (mB b h2) (λls σ=>rfl)
 | .l_ c b,x,h=>aB h λd h=>aw h λhk h=>aw h λh1 h2=>by rw[d.e,gy hk];exact G8 (a_ G c N.ok h1).ts (mB b h2)
 | .ret e,x,h=>aB h λd h=>by rw[d.e];exact p8 h (λh=>aw h λh0 h=>by rw[kQ h0];exact JU h) λh=>aB h λy h=>by rw[y.e];exact Pn (a_ G e N.ok h).ev
 | .pass,x,h=>aB h λd h=>by rw[d.e];exact JS
 | .cont,x,h=>aB h λd h=>by rw[d.e];exact JT
 | .sN o i,x,h=>aB h λd h=>aB h λt h=>aB h λz h=>aw h λ_ h=>aw h λh1 h2=>by rw[d.e,t.e,z.e];exact JY G.ok.P G.rm.u (a_ G o N.ok h1).ev (a_ G i N.ok h2).ev
 | .yf o lo,x,h=>aB h λd h=>aB h λt h=>aB h λz h=>aB h λs h=>aB h λl h=>aw h λh0 h=>aw h λh1 h=>aw h λh2 h3=>by rw[d.e,t.e,z.e,s.e,l.e,kQ h0,kQ h1];exact J8 (a_ G o N.ok h2).ev (a_ G lo N.ok h3).ev
 | .bad,x,h=>Pm
theorem mB:∀(st:Ss) {xs:List Stmt},Jw tb env.scope.names nm st xs=true->rX T prog w A X env nm st xs
 | .nil,xs,h=>by rw[gy h];exact Pl
 | .cons st r,xs,h=>aB h λd h=>aw h λh1 h2=>by rw[d.e];exact JR (Pu st h1) (mB r h2)
end
end
def posOf(n:Nat):List Nat->Nat
 |[]=>0
 |m::r=>if n=m then 0 else posOf n r+1
theorem any_beq{n:Nat}{l:List Nat}:(l.any λm=>Nat.beq n m)=true<->n∈l:=by
 rw[uk];constructor
 ·rintro⟨m,h1,h2⟩;rw[j_ h2];exact h1
 ·intro h;exact⟨n,h,Nat.beq_refl n⟩
theorem AN:∀{l:List Nat} {k n:Nat},distinct l=true->l[k]?=some n->posOf n l=k
 |[],_,_,_,h=>by simp at h
 |m::r,0,n,_,h=>by simp only[eH,Nat.zero_lt_succ,getElem?_pos,List.getElem_cons_zero,nU]at h;exact if_pos h.symm
 |m::r,k+1,n,hd,h=>by dsimp only[distinct]at hd;rw[bx]at hd;simp only[qF]at h;have hm:=qG h;exact(if_neg (by intro e;subst e;rw[any_beq.mpr hm]at hd;exact absurd hd.1 (by decide))).trans (congrArg (·+1) (AN hd.2 h))
theorem AO:∀{l:List Nat} {n:Nat},n∈l->l[posOf n l]?=some n
 |[],_,h=>by cases h
 |m::r,n,h=>by
  show(m::r)[if n=m then 0 else posOf n r+1]?=_;by_cases e:n=m
  ·rw[if_pos e];exact congrArg some e.symm
  ·rw[if_neg e];rcases dH.mp h with h|h
   ·exact absurd h e
   ·simp only[qF];exact AO h
theorem mD:∀{l:List Nat} {tm ts:List TO},vY tm l=some ts->ts.length=l.length/\∀(k n:Nat),l[k]?=some n->∃t,ts[k]?=some t/\tm[n]?=some t/\t≠.dead
 |[],tm,ts,h=>by have h:some []=some ts:=h;cases h;exact⟨rfl,λk n e=>by simp at e⟩
 |m::r,tm,ts,h=>by
  obtain⟨t,q2,h⟩:=fH h;obtain⟨nS,q1,h⟩:=fH h
  ·have hn:t≠.dead:=λz=>by subst z;cases h
   obtain rfl:ts=t::nS:=by cases t<;>cases h<;>rfl
   obtain⟨h1,h2⟩:=mD q1;refine⟨by simp[h1],λk n e=>?_⟩;cases k with
   |zero=>
    simp only[eH,Nat.zero_lt_succ,getElem?_pos,List.getElem_cons_zero,nU]at e;subst e;exact⟨t,rfl,q2,hn⟩
   |succ k=>
    simp only[qF]at e⊢;exact h2 k n e
theorem Cg{l:List Nat}:∀{tm ik ts:List TO},distinct l=true->EC tm l ts=some ik->ik.length=tm.length/\l.length=ts.length/\(∀(k n:Nat) t,l[k]?=some n->ts[k]?=some t->n<tm.length->ik[n]?=some t)/\∀n,n∉l->ik[n]?=tm[n]?:=by
 induction l with
 |nil=>
  intro tm ik ts _ h;rcases ts with _|⟨t,ts⟩;rotate_left
  ·exact noS h
  have h:some tm=some ik:=h;cases h;exact⟨rfl,rfl,λk n t e=>by simp at e,λn _=>rfl⟩
 |cons m r ih=>
  intro tm ik ts hd h;rcases ts with _|⟨t,ts⟩
  ·exact noS h
  dsimp only[distinct]at hd;rw[bx]at hd;obtain⟨h1,h2,h3,h4⟩:=ih hd.2 h
  replace h1:=gq▸h1
  have hm:m∉r:=λz=>by rw[any_beq.mpr z]at hd;exact absurd hd.1 (by decide)
  refine⟨h1,by simp[h2],λk n t' e1 e2 hl=>?_,λn hn=>?_⟩
  ·cases k with
   |zero=>
    simp only[eH,Nat.zero_lt_succ,getElem?_pos,List.getElem_cons_zero,nU]at e1 e2;subst e1;subst e2;rw[h4 m hm,pJ hl]
   |succ k=>
    simp only[qF]at e1 e2;exact h3 k n t' e1 e2 (by rw[gq];exact hl)
  ·rw[h4 n λz=>hn (.tail _ z),bp λ(z:m=n)=>hn (z▸.head _)]
def kX(ρ:bU)(h:Heap)(l:List Nat):bU:=λa=>match ρ a with
 | .own (.t n)=>if n∈l then .own (.t (posOf n l))else match h.get? a with
  |some o=> .aX o
  |none=> .free
 |r=>r
def Ym(L:Lo)(l:List Nat):Lo:=⟨L.p,L.d,λk=>L.t ((l[k]?).getD 0),L.np,l.length⟩
def kY(ρ aJ:bU)(l:List Nat):bU:=λa=>match ρ a with
 | .own (.t n)=>if n∈l then(match aJ a with
   | .own (.t _)=> .own (.t n)
   |r=>r)else .own (.t n)
 |_=>match aJ a with
  | .own (.t _)=> .free
  |r=>r
section
variable{T:bj}{ρ aJ:bU}{L L':Lo}{σ:PS}{h h':Heap}{l:List Nat}{ts:List TO}
theorem kZ:gf ρ (kX ρ h l):=⟨λa o e=>by unfold kX;rw[e],λa o e=>by unfold kX;rw[e]⟩
theorem Ci{a:Addr}{g:Tag}(hg:∀n,g≠.t n)(e:ρ a= .own g):kX ρ h l a= .own g:=by unfold kX;rw[e];cases g<;>first|rfl|exact(hg _ rfl).elim
theorem mr.to(k:bf ρ aJ)(hp:L'.p=L.p)(hn:L.np<=L'.np):∀{fs:List (Nat×PV)} {es:List DictEntry},mr T ρ L fs es->mr T aJ L' fs es
 |[],[],_=>trivial
 |(a,x)::r,e::t,h=>by
  refine⟨⟨h.1.1,h.1.2.1,?_,h.1.2.2.2⟩,mr.to k hp hn h.2⟩;have h1:=h.1.2.2.1;have h2:=h.1.2.2.2;cases x with
  |d x=>exact VR.mono k h1
  |ax n=>exact⟨qH h1.1 hn,by rw[hp];exact h1.2⟩
  |aI n=>cases h2
 |[],_::_,h=>by exact h.elim
 |(_,_)::_,[],h=>by exact h.elim
theorem oV.to{n:Nat}(k:bf ρ aJ)(hp:L'.p=L.p)(hd:L'.d=L.d)(hn:L.np<=L'.np)(w:∀a g,(g= .p n\/g= .d n)->ρ a= .own g->aJ a= .own g){m:MO}(x:oV T ρ L h n m):oV T aJ L' h n m:=by
 cases m with
 |list _=>obtain⟨a,vs,i,b,c⟩:=x;exact⟨by rw[hp];exact w _ _ (.inl rfl) a,vs,i,by rw[hp];exact b,dA.mono k c⟩
 |dict _=>obtain⟨a,z,vs,i,b,c⟩:=x;exact⟨by rw[hp];exact w _ _ (.inl rfl) a,by rw[hp];exact z,vs,i,by rw[hp];exact b,gc.mono k c⟩
 |inst C fs=>obtain⟨a,a',b,es,i,b',c⟩:=x;exact⟨by rw[hp];exact w _ _ (.inl rfl) a,by rw[hd];exact w _ _ (.inr rfl) a',by rw[hp,hd];exact b,es,i,by rw[hd];exact b',c.to k hp hn⟩
 |dead=>exact trivial
theorem oW.to{n m:Nat}(k:bf ρ aJ)(ht:L'.t m=L.t n)(w:ρ (L.t n)= .own (.t n)->aJ (L.t n)= .own (.t m)){x:TO}(y:oW T ρ L h n x):oW T aJ L' h m x:=by
 cases x with
 |list _=>obtain⟨a,vs,i,b,c⟩:=y;exact⟨by rw[ht];exact w a,vs,i,by rw[ht];exact b,dA.mono k c⟩
 |dict _=>obtain⟨a,z,vs,i,b,c⟩:=y;exact⟨by rw[ht];exact w a,by rw[ht];exact z,vs,i,by rw[ht];exact b,gc.mono k c⟩
 |dead=>exact trivial
theorem oW.own{n:Nat}{x:TO}(hx:x≠.dead)(A:oW T ρ L h n x):ρ (L.t n)= .own (.t n)/\∃o,h.get? (L.t n)=some o:=by
 cases x with
 |list l=>obtain⟨a,vs,i,b,c⟩:=A;exact⟨a,_,b⟩
 |dict l=>obtain⟨a,z,vs,i,b,c⟩:=A;exact⟨a,_,b⟩
 |dead=>exact absurd rfl hx
theorem call_in(R:Rep T ρ L σ h)(hd:distinct l=true)(hp:vY σ.tm l=some ts):Rep T (kX ρ h l) (Ym L l) ⟨σ.pm,ts⟩ h:=by
 obtain⟨p1,p2⟩:=mD hp;refine⟨R.np,p1.symm,λa=>?_,λn m e=>oV.to (L:=L) (L':=Ym L l) kZ.bA rfl rfl (dJ _) (λa g hg q=>Ci (by rcases hg with rfl|rfl<;>(intro n z;cases z)) q) (R.ax n m e),λk t e=>?_⟩
 ·have:=R.role a;unfold kX;split
  ·rename_i n q;rw[q]at this;split
   ·exact this
   ·obtain⟨o,ho⟩:=this;rw[ho];exact ho
  ·exact this
 ·have hk:k<l.length:=by rw[<-p1];exact bq e
  have hl:=mJ hk;obtain⟨t',e1,e2,e3⟩:=p2 k _ hl;have e:ts[k]?=some t:=e;rw[e]at e1;cases e1;refine(R.aI _ _ e2).to kZ.bA (by show L.t ((l[k]?).getD 0)=_;rw[hl];rfl) λq=>?_;unfold kX;rw[q];dsimp only;rw[if_pos (qG hl),AN hd hl]
theorem qD{aJ:bU}{L':Lo}(k:bf ρ aJ)(hp:L'.p=L.p)(hn:L'.np=L.np):∀{args:List PV} {vals:List Value} {j:Nat},gF T ρ L args vals->(∀i n,(eX args j).2[i]?=some n->L'.t (j+i)=L.t n)->j+(eX args j).2.length<=L'.nt->gF T aJ L' (eX args j).1 vals
 |[],[],_,_,_,_=>trivial
 | .d x::r,v::t,j,h,ht,hl=>⟨VR.mono k h.1,qD k hp hn h.2 ht hl⟩
 | .ax n::r,v::t,j,h,ht,hl=>⟨⟨by rw[hn];exact h.1.1,by rw[hp];exact h.1.2⟩,qD k hp hn h.2 ht hl⟩
 | .aI n::r,v::t,j,h,ht,hl=>by
  have hl:j+((eX r (j+1)).2.length+1)<=L'.nt:=hl;have h0:L'.t j=L.t n:=by have:=ht 0 n (rfl);simpa using this
  refine⟨⟨by omega,by rw[h0];exact h.1.2⟩,qD k hp hn h.2 (λi m e=>?_) (by omega)⟩;have:=ht (i+1) m e;rw[<-this];congr 1;omega
 |[],_::_,_,h,_,_=>h.elim
 | .d _::_,[],_,h,_,_=>h.elim
 | .ax _::_,[],_,h,_,_=>h.elim
 | .aI _::_,[],_,h,_,_=>h.elim
theorem G9(R:Rep T ρ L σ h)(hd:distinct l=true)(hp:vY σ.tm l=some ts){aA:List MO}{nS HN ik:List TO}(le:gf (kX ρ h l) aJ)(ll:(Ym L l).le L')(R':Rep T aJ L' ⟨aA,HN⟩ h')(ht:HN.take ts.length=nS)(rj:EC σ.tm l nS=some ik):
  ∃Yn Lf,gf ρ Yn/\L.le Lf/\Rep T Yn Lf ⟨aA,ik⟩ h'/\∀v u,Oz v=true->cv T aJ L' v u->cv T Yn Lf v u:=by
 obtain⟨p1,p2⟩:=mD hp;obtain⟨u1,u2,u3,u4⟩:=Cg hd rj;have GK:=(kZ (ρ:=ρ) (h:=h) (l:=l)).trans le;have leF:gf ρ (kY ρ aJ l):=⟨λa o e=>by unfold kY;rw[e];dsimp only;rw[GK.bA _ _ e],λa o e=>by unfold kY;rw[e];dsimp only;rw[GK.aX _ _ e]⟩;have OH:∀a n,ρ a= .own (.t n)->n∉l->∃o,h.get? a=some o/\aJ a= .aX o/\h'.get? a=some o:=λa n e hn=>by
  have:=R.role a;rw[e]at this;obtain⟨o,ho⟩:=this;have e1:kX ρ h l a= .aX o:=by unfold kX;rw[e];dsimp only;rw[if_neg hn,ho]
  have e2:=le.aX _ _ e1;exact⟨o,ho,e2,R'.aX e2⟩
 have imF:bf aJ (kY ρ aJ l):=λa o e=>by
  unfold kY;split
  ·rename_i n q;split
   ·rw[e]
   ·rename_i hn;obtain⟨o',_,e2,_⟩:=OH a n q hn;rw[e2]at e;cases e
  ·rw[e]
 have perF:∀a g,(∀n,g≠.t n)->aJ a= .own g->kY ρ aJ l a= .own g:=λa g hg e=>by
  unfold kY;split
  ·rename_i n q;split
   ·rw[e];cases g<;>first|rfl|exact(hg _ rfl).elim
   ·rename_i hn;obtain⟨o',_,e2,_⟩:=OH a n q hn;rw[e2]at e;cases e
  ·rw[e];cases g<;>first|rfl|exact(hg _ rfl).elim
 refine⟨kY ρ aJ l,⟨L'.p,L'.d,L.t,L'.np,L.nt⟩,leF,⟨ll.np,dJ _,ll.p,ll.d,λ_ _=>rfl⟩,⟨R'.np,by show L.nt=ik.length;rw[u1,R.nt],λa=>?_,λn m e=>oV.to (L:=L') (L':=⟨L'.p,L'.d,L.t,L'.np,L.nt⟩) imF rfl rfl (dJ _) (λa g hg q=>perF a g (by rcases hg with rfl|rfl<;>(intro n z;cases z)) q) (R'.ax n m e),λn t e=>?_⟩,λv u hv p=>?_⟩
 ·have r':=R'.role a;unfold kY;split
  ·rename_i n q;split
   ·split
    ·rename_i q';rw[q']at r';exact r'
    ·exact r'
   ·rename_i hn;obtain⟨o,_,_,e3⟩:=OH a n q hn;exact⟨o,e3⟩
  ·split
   ·trivial
   ·exact r'
 ·by_cases hn:n∈l
  ·have hk:=AO hn;obtain⟨t0,e1,e2,e3⟩:=p2 _ _ hk;have sr:posOf n l<nS.length:=by rw[<-u2];exact bq hk
   have e4:=mJ sr;have e5:=u3 _ _ _ hk e4 (bq e2);have e:ik[n]?=some t:=e;rw[e]at e5;have et:=fh e5;rw[<-et]at e4;have hE:HN[posOf n l]?=some t:=by rw[<-ht,List.getElem?_take]at e4;split at e4<;>first|exact e4|cases e4
   have hnt:=bq hk;have lt:L'.t (posOf n l)=L.t n:=by rw[ll.t _ hnt];show L.t ((l[posOf n l]?).getD 0)=_;rw[hk];rfl
   have own:=(R.aI _ _ e2).own e3;refine(R'.aI _ _ hE).to imF lt.symm λq=>?_;rw[lt]at q⊢;unfold kY;rw[own.1];dsimp only;rw[if_pos hn,q]
  ·have e:ik[n]?=some t:=e
   replace e:=(u4 n hn)▸e
   have A:=R.aI _ _ e;by_cases hx:t= .dead
   ·subst hx;trivial
   ·obtain⟨o1,o,ho⟩:=A.own hx;obtain⟨o',g1,g2,g3⟩:=OH _ _ o1 hn;have A':=A.to leF.bA rfl λ_=>by unfold kY;rw[o1];dsimp only;rw[if_neg hn]
    cases t with
    |list l=>obtain⟨a,vs,i,b,c⟩:=A';exact⟨a,vs,i,by have b:h.get? (L.t n)=_:=b;show h'.get? (L.t n)=_;rw[g1]at b;rw[g3];exact b,c⟩
    |dict l=>obtain⟨a,z,vs,i,b,c⟩:=A';exact⟨a,z,vs,i,by have b:h.get? (L.t n)=_:=b;show h'.get? (L.t n)=_;rw[g1]at b;rw[g3];exact b,c⟩
    |dead=>trivial
 ·cases v with
  |d x=>exact VR.mono imF p
  |ax n=>exact p
  |aI n=>cases hv
end
inductive zo (T:bj) (ρ:bU) (L:Lo) (s:Shared) (k:Nat) (v:PV) (aA:List MO) (nS:List TO) (u:Value) (s':Shared):Prop
 |mk (aJ:bU) (L':Lo) (HN:List TO) (a:gf ρ aJ) (b:L.le L') (c:Rep T aJ L' ⟨aA,HN⟩ s'.heap) (d:cS s s') (e:HN.take k=nS) (p:cv T aJ L' v u):zo T ρ L s k v aA nS u s'
def zp(T:bj)(prog:Program)(w:World)(n:Nat)(sp:Spec)(f:Value):Prop:=
 ∀(A:Around) (s:Shared) (ρ:bU) (L:Lo) (pm:List MO) (ts:List TO) (args:List PV) (vals:List Value) (v:PV) (aA:List MO) (nS:List TO),lR n A->hH T ρ->Rep T ρ L ⟨pm,ts⟩ s.heap->gF T ρ L args vals->sp args pm ts=some (v,aA,nS)->Oz v=true->
  ~~~(call f vals) (zo T ρ L s ts.length v aA nS) (λ_ _=>False) s
theorem ud{T:bj}{prog:Program}{w:World}{n:Nat}{sp:Spec}{f:Value}(H:zp T prog w n sp f):y6 T prog w n sp f:=by
 intro A s ρ L σ args vals v aN rm K R p q;refine dM q λhd q=>?_;refine aL q λts hp q=>?_;refine jb q λkj aA nS hs q=>?_;have fin:Oz kj=true->∀ik,EC σ.tm (eX args 0).2 nS=some ik->v=kj->aN=⟨aA,ik⟩->~~~(call f vals) (λu s'=>jV T ρ L s v aN u s') (λ_ _=>False) s:=by rintro hv ik rj rfl rfl;have Rc:=call_in R hd hp;refine wpAny_mono (H A s _ _ σ.pm ts _ vals v aA nS rm (K.mono kZ) Rc (qD (L:=L) (L':=Ym L (eX args 0).2) kZ.bA rfl rfl p (λi n e=>by show L.t (((eX args 0).2[0+i]?).getD 0)=_;rw[Nat.zero_add,e];rfl) (by show 0+_<=(eX args 0).2.length;omega)) hs hv) (λu s' P=>?_) λ_ _ z=>z;obtain⟨aJ,L',HN,a,b,c,d,e,g⟩:=P;obtain⟨Yn,Lf,a',b',c',k⟩:=G9 R hd hp a b c e rj;exact .now a' b' c' d (k v u hv g)
 cases kj with
 |aI n=>cases q
 |d x=>
  obtain⟨ik,rj,q⟩:=fH q;cases q;exact fin rfl _ rj rfl rfl
 |ax n=>
  obtain⟨ik,rj,q⟩:=fH q;cases q;exact fin rfl _ rj rfl rfl
theorem mF:∀{names:List Str} {vals:List Value} {i:Nat} {x:Str} {u:Value},names.Nodup->names[i]?=some x->vals[i]?=some u->(names.zip vals).lookup x=some u
 |[],_,_,_,_,_,h,_=>by simp at h
 |n::r,[],_,_,_,_,_,h=>by simp at h
 |n::r,v::t,0,x,u,_,h1,h2=>by simp only[eH,Nat.zero_lt_succ,getElem?_pos,List.getElem_cons_zero,nU]at h1 h2;subst h1;subst h2;simp[sF,nW]
 |n::r,v::t,i+1,x,u,hn,h1,h2=>by
  simp only[qF]at h1 h2;obtain⟨h3,h4⟩:=nV.mp hn;have hx:(x==n)=false:=by have:x≠n:=λe=>h3 (e▸qG h1);simpa using this
  rw[sF,nW,hx];exact mF h4 h1 h2
theorem xI{names:List Str}{vals:List Value}{x:Str}(hl:vals.length=names.length)(hn:names.Nodup)(h:x∈names):((names.zip vals).lookup x).isSome=true:=by
 obtain⟨i,hi⟩:=List.getElem?_of_mem h;have Yh:i<vals.length:=by rw[hl];exact bq hi
 rw[mF hn hi (mJ Yh)];rfl
theorem Cj:∀{names:List Str} {vals:List Value},vals.length=names.length->names.Nodup->(names.filterMap λn=>((names.zip vals).lookup n).map (n,·))=names.zip vals:=by
 have go:∀(names:List Str) (vals:List Value) (N:List Str) (V:List Value),vals.length=names.length->(∀(i:Nat) (x:Str) (u:Value),names[i]?=some x->vals[i]?=some u->(N.zip V).lookup x=some u)->
   (names.filterMap λn=>((N.zip V).lookup n).map (n,·))=names.zip vals:=by
  intro names;induction names with
  |nil=>intro vals N V _ _;simp
  |cons n r ih=>
   intro vals N V hl h;cases vals with
   |nil=>simp at hl
   |cons v t=>
    have h0:=h 0 n v (rfl) (rfl);rw[List.filterMap_cons,h0];simp only[Option.map_some,sF];rw[ih t N V (by simpa using hl) λi x u e1 e2=>h (i+1) x u (by simpa using e1) (by simpa using e2)]
 intro names vals hl hn;exact go names vals names vals hl λi x u e1 e2=>mF hn e1 e2
theorem xJ{α β:Type}{M:Model}{A:Around}{E:Value->Shared->Prop}{s:Shared}{f:α->β->Sem (ForInStep β)}{b:β}{Q:β->Shared->Prop}(h:Q b s):∀{l:List α},(∀x∈l,f x b=pure (.yield b))->wpAny M A (forIn l b f) Q E s
 |[],_=>by rw[List.forIn_nil];exact wpAny_pure h
 |x::r,hf=>by rw[List.forIn_cons,hf x (.head _)];exact wpAny_bind (wpAny_pure (xJ h λy hy=>hf y (.tail _ hy)))
theorem G_{α β:Type}{M:Model}{A:Around}{E:Value->Shared->Prop}{s:Shared}{f:α->β->Sem (ForInStep β)}{b:β}{Q:β->Shared->Prop}{l:List α}(e:l=[])(h:Q b s):wpAny M A (forIn l b f) Q E s:=by subst e;exact wpAny_pure h
theorem Ck{s:Shared}{fd:FuncData}{names:List Str}{vals:List Value}(O6:fd.params.posonlyargs=[])(V_:fd.params.args.map (·.arg)=names)(hkw:fd.params.kwonlyargs=[])(hva:fd.params.vararg=none)(hka:fd.params.kwarg=none)
  (hlen:vals.length=names.length) (RZ:names.Nodup) (hdef:∀(M:Model) (A:Around) (E:Value->Shared->Prop) (Q:Option (Array Value)->Shared->Prop),(∀r,Q r s)->wpAny M A (seqItems? fd.defaults) Q E s):BindsTo s fd ⟨vals,[]⟩ (names.zip vals):=by
 intro M A E Q hq;have hp:fd.params.posonlyargs.map (·.arg)++fd.params.args.map (·.arg)=names:=by rw[O6,V_];rfl
 have V':∀k,List.filter (λn=>(List.lookup n (names.zip vals)).isNone) (List.take k names)=[]:=λk=>
  List.filter_eq_nil_iff.mpr λx hx e=>by rw[Option.isNone_iff_eq_none]at e;have:=xI (vals:=vals) hlen RZ (List.mem_of_mem_take hx);rw[e]at this;exact noB this
 refine wpAny_bind (wpAny_pure (wpAny_bind (hdef _ _ _ _ λr=>?_)));refine wpAny_ite_false (show(decide (_=true))=false from ?_) ?_
 ·rw[hp,hlen,hva];simp
 refine wpAny_ite_false ?_ ?_
 ·rw[hp,V'];rfl
 refine wpAny_bind (xJ ?_ λx hx=>?_)
 ·refine wpAny_bind (G_ (by rw[hkw];rfl) (wpAny_ite_false rfl ?_));rw[hva,hka];refine wpAny_pure ?_;rw[hp,hkw,List.map_nil,ei,Cj hlen RZ];exact hq
 ·rw[hp]at hx;refine if_neg ?_;rw[hp,Option.isNone_iff_eq_none];intro e;have h2:=xI (vals:=vals) hlen RZ (List.mem_of_mem_drop (List.of_mem_zip (a:=x.1) (b:=x.2) hx).1);rw[e]at h2;exact noB h2
def cw(ρ:bU)(h:Heap):bU:=λa=>match ρ a with
 | .free=>match h.get? a with
  |some o=> .aX o
  |none=> .free
 |r=>r
section
variable{T:bj}{ρ:bU}{L:Lo}{σ:PS}{h h':Heap}
theorem o_:gf ρ (cw ρ h):=⟨λa o e=>by unfold cw;rw[e],λa o e=>by unfold cw;rw[e]⟩
theorem rY{a:Addr}{g:Tag}(e:ρ a= .own g):cw ρ h a= .own g:=by unfold cw;rw[e]
theorem zq{a:Addr}{o:Obj}(e:ρ a= .free)(g:h.get? a=some o):cw ρ h a= .aX o:=by unfold cw;rw[e];dsimp only;rw[g]
theorem Rep.cw(R:Rep T ρ L σ h)(k:∀b o,h.get? b=some o->h'.get? b=some o):Rep T (cw ρ h') L σ h':=by
 refine⟨R.np,R.nt,λa=>?_,λn m e=>(R.ax n m e).keep o_.bA .refl (by rw[R.np];exact bq e) λa g _ q=>⟨rY q,λo ho=>k a o ho⟩,λn m e=>(R.aI n m e).keep o_.bA .refl (by rw[R.nt];exact bq e) λa q=>⟨rY q,λo ho=>k a o ho⟩⟩;have:=R.role a;unfold Mine.cw;split
 ·rename_i q;split
  ·rename_i o g;exact g
  ·trivial
 ·rename_i q;revert this q;cases ρ a with
  |free=>intro _ q;exact(q rfl).elim
  |bA o=>intro e _;exact k _ _ e
  |aX o=>intro e _;exact k _ _ e
  |own g=>rintro⟨o,e⟩ _;exact⟨o,k _ _ e⟩
end
theorem rZ{ns:my}:∀{k:Nat} {acc:List (Str×Addr)} {x:Str},((cellsFrom k ns acc).lookup x).isSome=true<->((x,NameKind.cell)∈ns\/(acc.lookup x).isSome=true):=by
 induction ns with
 |nil=>intro k acc x;unfold cellsFrom;simp
 |cons nk r ih=>
  intro k acc x;rcases nk with⟨n,kd⟩;dsimp only[cellsFrom];split
  ·rename_i hk;have hk:=cj hk;rw[hk];rw[ih];constructor
   ·rintro(h|h)
    ·exact .inl (.tail _ h)
    ·rw[nW]at h;split at h
     ·rename_i q;rw[cj q];exact .inl (.head _)
     ·exact .inr h
   ·rintro(h|h)
    ·rcases dH.mp h with e|h
     ·cases e;right;rw[nW,beq_self_eq_true];rfl
     ·exact .inl h
    ·right;rw[nW];split
     ·rfl
     ·exact h
  ·rename_i hk;rw[ih];constructor
   ·rintro(h|h)
    ·exact .inl (.tail _ h)
    ·exact .inr h
   ·rintro(h|h)
    ·rcases dH.mp h with e|h
     ·cases e;exact(hk rfl).elim
     ·exact .inl h
    ·exact .inr h
theorem lookup_mem{x:Str}{k:NameKind}{ns:my}(hn:(ns.map (·.1)).Nodup)(h:(x,k)∈ns):ns.lookup x=some k:=by
 induction ns with
 |nil=>exact nomatch h
 |cons p r ih=>
  obtain⟨n,k0⟩:=p;rw[j9,nV]at hn;rw[nW];rcases dH.mp h with e|h
  ·cases e;simp
  ·have:(x==n)=false:=beq_eq_false_iff_ne.mpr λe=>hn.1 (e▸List.mem_map.mpr ⟨_,h,rfl⟩);rw[this];exact ih hn.2 h
theorem r5{kd:Str->Option NameKind}:∀{bs:List (Str×Value)} {m:Str->Option Value} {x:Str},x∉bs.map (·.1)->bindL kd bs m x=m x
 |[],_,_,_=>rfl
 |(n,v)::r,m,x,h=>by
  rw[r5 λz=>h (.tail _ z)];split
  ·have:x≠n:=λe=>h (e▸.head _);simp[this]
  ·rfl
theorem xK{kd:Str->Option NameKind}{x:Str}{u:Value}(hk:kd x=some .local):∀{bs:List (Str×Value)} {m:Str->Option Value},(bs.map (·.1)).Nodup->(x,u)∈bs->bindL kd bs m x=some u
 |(n,v)::r,m,hn,h=>by
  rw[j9,nV]at hn;dsimp only[bindL];rcases dH.mp h with e|h
  ·cases e;rw[r5 hn.1,if_pos hk];simp
  ·exact xK hk hn.2 h
theorem r7{kd:Str->Option NameKind}:∀{bs:List (Str×Value)} {m:Str->Option Value} {x:Str},x∉bs.map (·.1)->bindC kd bs m x=m x
 |[],_,_,_=>rfl
 |(n,v)::r,m,x,h=>by
  rw[r7 λz=>h (.tail _ z)];split
  ·rfl
  ·have:x≠n:=λe=>h (e▸.head _);simp[this]
theorem xM{kd:Str->Option NameKind}{x:Str}{u:Value}(hk:kd x=some .cell):∀{bs:List (Str×Value)} {m:Str->Option Value},(bs.map (·.1)).Nodup->(x,u)∈bs->bindC kd bs m x=some u
 |(n,v)::r,m,hn,h=>by
  rw[j9,nV]at hn;dsimp only[bindC];rcases dH.mp h with e|h
  ·cases e;rw[r7 hn.1,if_neg (by rw[hk];decide)];simp
  ·exact xM hk hn.2 h
theorem xN:∀{names:List Str} {vals:List Value},vals.length=names.length->(names.zip vals).map (·.1)=names
 |[],[],_=>rfl
 |n::r,v::t,h=>by simp[xN (names:=r) (vals:=t) (by simpa using h)]
 |[],_::_,h=>by simp at h
 |_::_,[],h=>by simp at h
theorem gF.get{T:bj}{ρ:bU}{L:Lo}:∀{xs:List PV} {vs:List Value} {i:Nat} {x:PV},gF T ρ L xs vs->xs[i]?=some x->∃v,vs[i]?=some v/\cv T ρ L x v
 |[],_,_,_,_,h=>by simp at h
 |_::_,[],_,_,h,_=>h.elim
 |x::r,v::t,0,y,h,e=>by simp only[eH,Nat.zero_lt_succ,getElem?_pos,List.getElem_cons_zero,nU]at e;subst e;exact⟨v,rfl,h.1⟩
 |x::r,v::t,i+1,y,h,e=>by simp only[qF]at e⊢;exact gF.get h.2 e
inductive J_ (T:bj) (tb:Tb) (F:Fn) (fa:Addr):Prop
 |mk (o:Obj) (fd:FuncData) (body:List Stmt) (nm:List Str) (h1:T.K.lookup fa=some o) (h2:o.data= .func fd) (h3:fd.body= .stmts body) (h4:fd.closure=[])
  (h5:∃c oc vs t,fd.code= .ref c/\T.K.lookup c=some oc/\oc.data= .fields vs/\vs[1]?=some (.str fd.qualname t))
  (h6:fd.params.posonlyargs=[]) (h7:fd.params.kwonlyargs=[]) (h8:fd.params.vararg=none) (h9:fd.params.kwarg=none) (HJ:fd.params.args.map (·.arg)=nm.take F.ar)
  (iP:fd.defaults= .none\/∃t ot items n,fd.defaults= .ref t/\T.K.lookup t=some ot/\ot.data= .seq items n)
  (gR:fd.scope.kind= .function) (HI:fd.scope.isCoroutine=false) (Lu:fd.scope.isGenerator=false) (h15:fd.globals=mainGlobals) (vL:fd.builtins=builtinsNs)
  (uY:F.ar<=nm.length) (lY:nm.length=F.nl) (h19:(nm.take F.ar).Nodup) (h20:(fd.scope.names.map (·.1)).Nodup) (h21:∀x∈nm.take F.ar,fd.scope.names.lookup x=some .local\/fd.scope.names.lookup x=some .cell)
  (Yo:∀i x,isVar fd.scope.names nm i x=true->once nm i x) (Yp:Jw tb fd.scope.names nm F.body body=true):J_ T tb F fa
structure xO (n:Nat) (A:Around):Prop where
 handled:A.handled=none
 depth:A.depth+4*n+8<recursionLimit
 units:A.units+40*n+110<cLine
theorem lR.to0{n:Nat}{A:Around}(r:lR n A):xO n A:=⟨r.handled,by have:=r.depth;omega,by have:=r.units;omega⟩
def r8(T:bj)(prog:Program)(w:World)(n:Nat)(sp:Spec)(f:Value):Prop:=
 ∀(A:Around) (s:Shared) (ρ:bU) (L:Lo) (pm:List MO) (ts:List TO) (args:List PV) (vals:List Value) (v:PV) (aA:List MO) (nS:List TO) (R:Result->Shared->Prop),xO n A->hH T ρ->Rep T ρ L ⟨pm,ts⟩ s.heap->gF T ρ L args vals->sp args pm ts=some (v,aA,nS)->Oz v=true->
  (∀u s',zo T ρ L s ts.length v aA nS u s'->R (.ok (.ret u)) s')->codeAny (model prog w) A (.call f ⟨vals,[]⟩) R s
theorem r8.spec{T:bj}{prog:Program}{w:World}{n:Nat}{sp:Spec}{f:Value}(H:r8 T prog w n sp f):zp T prog w n sp f:=by intro A s ρ L pm ts args vals v aA nS rm K R p q hv;exact wpAny_call (H A s ρ L pm ts args vals v aA nS _ rm.to0 K R p q hv λu s' P=>P)
structure r9 (T:bj):Prop where
 lim:∃o m,T.K.lookup cStatics=some o/\rN o m/\m "sys.recursionlimit"=none
section
variable{T:bj}{tb:Tb}{n:Nat}{X:Cx}{F:Fn}{fa:Addr}
theorem xO.deep{A:Around}{env:Env}(r:xO (n+1) A):lR n (A.deeper env):=⟨r.handled,by have:=r.depth;show A.depth+1+4*n+10<_;omega,by have:=r.units;show A.units+3+40*n+120<_;omega⟩
theorem J'(S:r9 T)(I:J_ T tb F fa)(G:∀A,lR n A->Ctx T tb prog w A n X):r8 T prog w (n+1) (ti X F) (.ref fa):=by
 obtain⟨o,fd,body,nm,h1,h2,h3,h4,h5,h6,h7,h8,h9,HJ,iP,gR,HI,Lu,h15,vL,uY,lY,h19,h20,h21,Yo,Yp⟩:=I;intro A s ρ L pm ts args vals v aA nS RR rm K R p q hv hR;refine dM q λhar q=>?_;have har:=j_ har;have Kh:=K.in R;have hlv:vals.length=(nm.take F.ar).length:=by rw[<-p.length,har,List.length_take];omega
 have hlim:s.heap.NoLimit:=by obtain⟨os,ms,e1,e2,e3⟩:=S.lim;exact⟨ms,tW (Kh _ _ e1) e2,e3⟩
 refine codeAny_call_function (by have:=rm.depth;omega) (Kh _ _ h1) h2 HI Lu h3 ?_ ?_
 ·obtain⟨c,oc,vs,t,e1,e2,e3,e4⟩:=h5;exact⟨c,oc,vs,t,e1,Kh _ _ e2,e3,e4⟩
 refine Ck h6 HJ h7 h8 h9 hlv h19 ?_ _ _ _ _ ?_
 ·intro M A E Q hQ;rcases iP with e|⟨t,ot,items,m,e1,e2,e3⟩
  ·rw[e];exact wpAny_pure (hQ _)
  ·rw[e1];exact wpAny_seqItems (Kh _ _ e2) e3 (hQ _)
 rw[h4,h15,vL];have hz:=xN hlv;refine wpAny_newFunctionEnv_cells gR (λx hx=>?_) λenv he aC C=>?_
 ·have hm:x.1∈nm.take F.ar:=by rw[<-hz];exact List.mem_map.mpr ⟨x,hx,rfl⟩
  rcases h21 _ hm with h|h
  ·exact .inl h
  ·exact .inr ⟨h,rZ.mpr (.inl (mem_lookup h))⟩
 refine⟨hlim.keeps C.toInCall.keep,codeAny_func ?_⟩;have vo:env.scope=fd.scope:=by rw[he];rfl
 have hce:env.cells=cellsFrom (s.heap.objs.size+1) fd.scope.names []:=by rw[he];rfl
 have Wa:env.locals=s.heap.objs.size:=by rw[he];rfl
 have hgl:env.globals=mainGlobals:=by rw[he];rfl
 have hbn:env.builtins=builtinsNs:=by rw[he];rfl
 have hkd:∀x,env.kindOf x=fd.scope.names.lookup x:=λx=>by show env.scope.names.lookup x=_;rw[vo]
 have RM:∀x,(env.cells.lookup x).isSome=true<->env.kindOf x=some .cell:=λx=>by
  rw[hce,rZ,hkd];constructor
  ·rintro(h|h)
   ·exact lookup_mem h20 h
   ·cases h
  ·intro h;exact .inl (mem_lookup h)
 have kU:=R.cw C.toInCall.keep;have xP:gf ρ (cw ρ aC.heap):=o_;have fr:∀a o,s.heap.objs.size<=a->aC.heap.get? a=some o->cw ρ aC.heap a= .aX o:=λa o ha g=>by
  refine zq (R.fresh ?_) g;cases e:s.heap.get? a with
  |none=>rfl
  |some o'=>exact absurd (Heap.lt_size e) (Nat.not_lt.mpr ha)
 have Yq:∀x c,env.cells.lookup x=some c->env.locals<c:=λx c e=>C.above x c (mem_of_lookup e);obtain⟨oL,gL,nL⟩:=Az C.toInCall.ns;have RZ:(((nm.take F.ar).zip vals).map (·.1)).Nodup:=by rw[hz];exact h19
 have at_:∀(i:Nat) (x:Str) (v:PV),nm[i]?=some x->(args.map some++List.replicate (F.nl-F.ar) none)[i]?=some (some v)->∃u,(x,u)∈(nm.take F.ar).zip vals/\cv T (cw ρ aC.heap) L v u:=by
  intro i x v e1 e2;have hi:i<args.length:=by
   by_cases hi:i<args.length
   ·exact hi
   ·rw[ya (by rw[eT];omega)]at e2;have:=qG e2;rw[List.mem_replicate]at this;cases this.2
  rw[mI (by simpa only[eT]using hi),pK]at e2;obtain⟨v',e3,e4⟩:=Ex.mp e2;cases e4;obtain⟨u,g1,g2⟩:=p.get e3;refine⟨u,?_,cv.mono xP.bA .refl g2⟩;have e5:(nm.take F.ar)[i]?=some x:=by rw[List.getElem?_take,if_pos (by omega)];exact e1
  exact qG (List.getElem?_zip_eq_some.mpr ⟨e5,g1⟩)
 have br:cL T (cw ρ aC.heap) L env nm (args.map some++List.replicate (F.nl-F.ar) none):=by
  refine⟨by rw[vo];exact gR,hgl,hbn,⟨oL,_,fr _ _ (by rw[Wa];exact dJ _) gL,nL,λi x v e1 e2 e3=>?_⟩,λi x v e1 e2 e3=>?_⟩
  ·obtain⟨u,g1,g2⟩:=at_ i x v e1 e2;exact⟨u,xK e3 RZ g1,g2⟩
  ·obtain⟨u,g1,g2⟩:=at_ i x v e1 e2;obtain⟨c,hc⟩:=yb.mp ((RM x).mpr e3);obtain⟨oc,k1,k2⟩:=C.cell x c hc;refine⟨c,oc,u,hc,fr _ _ (by have:=Yq x c hc;rw[Wa]at this;exact Nat.le_of_lt this) k1,?_,g2⟩;rw[k2,xM e3 RZ g1]
 have lV:dR (cw ρ aC.heap) env:=by refine⟨λx e=>?_,λx y c e1 e2=>name_of_addr C.apart (mem_of_lookup e1) (mem_of_lookup e2),λx c e=>Nat.ne_of_gt (Yq x c e)⟩;obtain⟨c,hc⟩:=yb.mp ((RM x).mpr e);obtain⟨oc,k1,k2⟩:=C.cell x c hc;exact⟨c,oc,_,hc,fr _ _ (by have:=Yq x c hc;rw[Wa]at this;exact Nat.le_of_lt this) k1,k2⟩
 have NO:vu env nm:=⟨⟨⟨by rw[vo];exact gR,λx e=>(RM x).mpr e⟩,λi x e=>Yo i x (by rw[vo]at e;exact e)⟩,λx e=>(RM x).mp e⟩;have vw:cS s aC:=by obtain⟨h,tk,e⟩:=C.toInCall.same;exact⟨h,tk,e⟩
 have apL:∀a o,ρ a= .aX o->a≠env.locals/\∀x,env.cells.lookup x≠some a:=λa o e=>by
  have sr:=Heap.lt_size (R.aX e);refine⟨λz=>?_,λx z=>?_⟩
  ·rw[z,Wa]at sr;exact Nat.lt_irrefl _ sr
  ·have:=Yq x a z;rw[Wa]at this;exact absurd sr (Nat.not_lt.mpr (Nat.le_of_lt this))
 have AP:=mB (G (A.deeper env) rm.deep) NO F.body (xs:=body) (by rw[vo];exact Yp);have back:∀{aY:bU},jA env (cw ρ aC.heap) aY->gf ρ aY:=λa=>⟨λx o e=>a.bA x o (xP.bA x o e),λx o e=>a.aX x o (apL x o e).1 (apL x o e).2 (xP.aX x o e)⟩;refine jb q λGZ eQ aM qb q=>?_;cases GZ with
 |ret rv=>
  refine AP.aV (K.mono xP) br lV kU qb λf bG aY eN a b c d ij j4 O₂ Hb=>?_;cases Hb with
  |ret pv=>
   rename_i u;refine hR _ _ ?_;cases rv with
   |aI m=>
    refine dM q λ_ q=>?_;refine aF q λx bJ qf q=>?_;cases q;obtain⟨cV,a3,R3,p3⟩:=iC c pv qf;exact⟨cV,eN,bJ.tm,(back a).trans a3,b,R3,vw.trans d,(mN _ _).symm,p3⟩
   |_=>
    cases q;exact⟨aY,eN,aM.tm,back a,b,c,vw.trans d,(mN _ _).symm,pv⟩
 |next=>
  refine AP.aV (K.mono xP) br lV kU qb λf bG aY eN a b c d ij j4 O₂ Hb=>?_;cases Hb with
  |next=>
   cases q;exact hR _ _ ⟨aY,eN,aM.tm,back a,b,c,vw.trans d,(mN _ _).symm,kP⟩
 |cont=>cases q
end
theorem Cm(C:Addr)(l:List Value):(Code.builtin "type.__call__" ⟨.ref C::l,[]⟩).weight=1:=by with_unfolding_all rfl
theorem Hc(C:Addr)(l:List Value):(Code.builtin "type.__call__" ⟨.ref C::l,[]⟩).cUnits=1:=by with_unfolding_all rfl
theorem lR.make{n:Nat}{A:Around}(r:lR n A)(C:Addr)(l:List Value):xO n (A.under (.builtin "type.__call__" ⟨.ref C::l,[]⟩)):=
 ⟨r.handled,by show A.depth+(Code.builtin "type.__call__" ⟨.ref C::l,[]⟩).weight+4*n+8<_;rw[Cm];have:=r.depth;omega,
  by show A.units+(Code.builtin "type.__call__" ⟨.ref C::l,[]⟩).cUnits+40*n+110<_;rw[Hc];have:=r.units;omega⟩
section
variable{T:bj}{ρ:bU}{L:Lo}{pm:List MO}{ts:List TO}{h:Heap}
theorem Rep.Ka(R:Rep T ρ L ⟨pm,ts⟩ h)(C:Nat):∃aJ L',gf ρ aJ/\L.le L'/\Rep T aJ L' ⟨pm++[.inst C []],ts⟩ ((h.push emptyDict).push (instObj (T.cl C) h.objs.size))/\L'.p pm.length=h.objs.size+1/\pm.length<L'.np:=by
 let d:=h.objs.size;let x:=h.objs.size+1;have gd:((h.push emptyDict).push (instObj (T.cl C) h.objs.size)).get? d=some emptyDict:=Heap.get?_push_of_some _ (Heap.get?_push_size _ rfl);have gx:((h.push emptyDict).push (instObj (T.cl C) h.objs.size)).get? x=some (instObj (T.cl C) h.objs.size):=by
  have:=Heap.get?_push_size (h.push emptyDict) (o:=instObj (T.cl C) h.objs.size) rfl
  rwa [Heap.size_push]at this
 have old:∀a o,h.get? a=some o->((h.push emptyDict).push (instObj (T.cl C) h.objs.size)).get? a=some o:=λa o e=>Heap.get?_push_of_some _ (Heap.get?_push_of_some _ e);have fd:=R.new;have fx:ρ x= .free:=R.fresh (Heap.get?_none_of_le (Nat.le_succ _));have dx:x≠d:=Nat.succ_ne_self _;have ne:∀{a},ρ a≠.free->a≠d/\a≠x:=λn=>⟨λz=>n (z▸fd),λz=>n (z▸fx)⟩;let aJ:bU:=up (up ρ d (.own (.d pm.length))) x (.own (.p pm.length));have keep:∀a r,ρ a=r->r≠.free->aJ a=r:=λa r e n=>by obtain⟨n1,n2⟩:=ne (a:=a) (by rw[e];exact n);show up _ x _ a=r;rw[aZ n2,aZ n1];exact e
 have le:gf ρ aJ:=⟨λa o e=>keep a _ e (by intro z;cases z),λa o e=>keep a _ e (by intro z;cases z)⟩;let L':Lo:=⟨λn=>if n=pm.length then x else L.p n,λn=>if n=pm.length then d else L.d n,L.t,L.np+1,L.nt⟩;have np:L.np=pm.length:=R.np;have ll:L.le L':=⟨Nat.le_succ _,dJ _,λn hn=>by show(if n=pm.length then x else L.p n)=_;rw[if_neg (by omega)],λn hn=>by show(if n=pm.length then d else L.d n)=_;rw[if_neg (by omega)],λ_ _=>rfl⟩;refine⟨aJ,L',le,ll,⟨by show L.np+1=(pm++[_]).length;rw[np,eh];rfl,R.nt,λa=>?_,λn m e=>?_,λn t e=>(R.aI n t e).keep le.bA ll (by rw[R.nt];exact bq e) λa q=>⟨keep a _ q (by intro z;cases z),λo ho=>old a o ho⟩⟩,by show(if pm.length=pm.length then x else _)=_;rw[if_pos rfl],by show pm.length<L.np+1;omega⟩
 ·by_cases hx:a=x
  ·subst hx;show oY _ _ (up _ x _ x);rw[aO];exact⟨_,gx⟩
  ·by_cases hd:a=d
   ·rw[hd];show oY _ _ (up _ x _ d);rw[aZ (Ne.symm dx),aO];exact⟨_,gd⟩
   ·have e:aJ a=ρ a:=by show up _ x _ a=_;rw[aZ hx,aZ hd]
    rw[e];have:=R.role a;revert this;cases ρ a with
    |free=>intro _;trivial
    |bA o=>exactλe=>old a o e
    |aX o=>exactλe=>old a o e
    |own g=>rintro⟨o,e⟩;exact⟨o,old a o e⟩
 ·by_cases hn:n<pm.length
  ·have e:pm[n]?=some m:=by rw[<-e];exact(mI hn).symm
   exact(R.ax n m e).keep le.bA ll (by rw[np];exact hn) λa g _ q=>⟨keep a _ q (by intro z;cases z),λo ho=>old a o ho⟩
  ·have hl:=bq e;have hl:n<(pm++[MO.inst C []]).length:=hl
   replace hl:=eh▸hl
   have:n=pm.length:=by simp only[eH,List.length_nil]at hl;omega
   subst this;have:m= .inst C []:=by simpa using e.symm
   rw[this];have p1:L'.p pm.length=x:=by show(if pm.length=pm.length then x else _)=_;rw[if_pos rfl]
   have d1:L'.d pm.length=d:=by show(if pm.length=pm.length then d else _)=_;rw[if_pos rfl]
   refine⟨?_,?_,?_,#[],0,?_,trivial⟩
   ·rw[p1];show up _ x _ x=_;rw[aO]
   ·rw[d1];show up _ x _ d=_;rw[aZ (Ne.symm dx),aO]
   ·rw[p1,d1];exact gx
   ·rw[d1];exact gd
end
def xQ(T:bj)(tb:Tb):Nw->Addr->Prop
 | .init C f,a=>a=T.cl C/\makesIn T.K (T.cl C)=true/\findIn T.K (.ref (T.cl C)) "__init__"=some (some (.ref (tb.fv f)))/\typeIn T.K (.ref (tb.fv f))=some (.type "function")
 | .bare C,a=>a=T.cl C/\makesIn T.K (T.cl C)=true/\findIn T.K (.ref (T.cl C)) "__init__"=some (some (.builtin "object.__init__"))
 | .no,_=>True
section
variable{T:bj}{tb:Tb}{n:Nat}
theorem Hd{fn:Nat->Spec}{nw:Nw}{Ca:Addr}(I:xQ T tb nw Ca)(H:∀f,(∃a p t r,fn f a p t=some r)->r8 T prog w n (fn f) (.ref (tb.fv f))):zp T prog w n (gZ fn nw) (.ref Ca):=by
 intro A s ρ L pm ts args vals v aA nS rm K R p q hv;have Kh:=K.in R;refine wpAny_call ?_;cases nw with
 |no=>unfold gZ at q;cases q
 |init C f=>
  obtain⟨rfl,i1,i2,i3⟩:=I;refine jb q λkj pm₁ ts₁ qf q=>?_;obtain rfl:kj= .d .none:=by cases kj<;>first|change q|(rename_i x;cases x<;>first|rfl|change q)
  cases q;obtain⟨ao,aQ,le,ll,kU,lp,ln⟩:=R.Ka C;obtain⟨hh,g,d,t,os⟩:=s;refine make_core (makes_of Kh i1) (looks_findIn Kh i2) (λself=>bind_fn Kh self i3) (.inl rfl) ?_;refine H f ⟨_,_,_,_,qf⟩ _ _ ao aQ _ ts (.ax pm.length::args) (.ref (hh.objs.size+1)::vals) _ _ _ _ (rm.make _ _) (K.mono le) kU ⟨⟨ln,by rw[lp]⟩,gF.mono le.bA ll p⟩ qf rfl λu s' P=>?_;obtain⟨aY,eN,HN,a,b,c,d',e,pv⟩:=P;have:u= .none:=by have pv:=pv;exact pv
  rw[this];refine And.intro rfl ?_;refine⟨aY,eN,HN,le.trans a,ll.trans b,c,?_,e,qH ln b.np,?_⟩
  ·obtain⟨h,tk,e⟩:=d';exact⟨h,tk,e⟩
  ·rw[b.p _ ln,lp]
 |bare C=>
  obtain⟨rfl,i1,i2⟩:=I;unfold gZ at q;dsimp only at q;split at q<;>first|change q|skip
  cases q;cases vals with
  |cons _ _=>exact p.elim
  |nil=>
   obtain⟨hh,g,d,t,os⟩:=s;have Y:=makes_of (M:=model prog w) Kh i1;obtain⟨R1,RX⟩:=R.yJ emptyDict rfl;have R2:=R1.yJ (instObj (T.cl C) hh.objs.size) rfl;refine make_core Y (looks_findIn Kh i2) (λself=>Looks.of_pure (oi_bind self)) (.inr ⟨rfl,rfl⟩) ?_;have gx:((hh.push emptyDict).push (instObj (T.cl C) hh.objs.size)).get? (hh.objs.size+1)=some (instObj (T.cl C) hh.objs.size):=by
    have:=Heap.get?_push_size (hh.push emptyDict) (o:=instObj (T.cl C) hh.objs.size) rfl
    rwa [Heap.size_push]at this
   have t1:Looks (model prog w) ((hh.push emptyDict).push (instObj (T.cl C) hh.objs.size)) (typeOf (.ref (hh.objs.size+1))) (.ref (T.cl C)):=(Looks.ld gx).andThen .now;have t2:Looks (model prog w) ((hh.push emptyDict).push (instObj (T.cl C) hh.objs.size)) (isInstance (.ref (hh.objs.size+1)) (.type "object")) true:=t1.andThen (Y.top.keeps λb o e=>Heap.get?_push_of_some _ (Heap.get?_push_of_some _ e));refine codeAny_call_builtin oi_plain entry_oi (@check_slot (model prog w) _ _ _ "object.__init__" "object" "__init__" (.ref (hh.objs.size+1)) [] [] _ oi_kind oi_split t2 (oi_args (.ref (hh.objs.size+1))) ?_);rw[oi_run];refine wpAny_pure (And.intro rfl ?_);rw[Heap.size_push]at R2;refine⟨_,L,nS,RX.trans R2.2,.refl,R2.1,⟨_,_,rfl⟩,by simp,?_⟩;show VR T.P T.cl _ (.cin C) _;exact⟨_,_,0,rfl,aO,by rw[aZ (Nat.ne_of_lt (Nat.lt_succ_self _))];exact aO⟩
end
structure Facts (T:bj) (tb:Tb) (w:World) (P:Pr):Prop where
 ok:dF T w
 call:r9 T
 an:tb.an=T.an
 nA:tb.nA=T.nA
 glob:∀g d ρ,P.glob g=some d->hH T ρ->∃v,nsIn T.K mainGlobals (tb.gn g)=some (some v)/\VR T.P T.cl ρ d v
 fn:∀f F,P.fn f=some F->J_ T tb F (tb.fv f)/\(tb.Yc f=true->nsIn T.K mainGlobals (tb.Yb f)=some (some (.ref (tb.fv f))))/\keepIn T.K (.ref (tb.fv f))=true
 new:∀c,P.new c≠.no->∃C,nsIn T.K mainGlobals (tb.Yd c)=some (some (.ref C))/\keepIn T.K (.ref C)=true/\xQ T tb (P.new c) C
 aR:∀C m f,P.aR C m=some f->findIn T.K (.ref (T.cl C)) (tb.mn m)=some (some (.ref (tb.fv f)))/\typeIn T.K (.ref (tb.fv f))=some (.type "function")/\keepIn T.K (.ref (tb.fv f))=true/\∀a,a<T.nA->T.an a≠tb.mn m
 bi:∀b,nsIn T.K mainGlobals (HL b)=some none/\nsIn T.K builtinsNs (HL b)=some (some (Yg b))
 sys:(T.K.lookup sysModules).isSome=true
 bm:tb.mn mM="append"/\tb.mn EE="pop"/\tb.mn HU="get"
def Wb(P:Pr)(n:Nat):Cx:=⟨P.glob,run P n,P.aR,λc=>gZ (run P n) (P.new c),P.fuel⟩
section
variable{T:bj}{tb:Tb}{P:Pr}
theorem xR{n f:Nat}{a:List PV}{p:List MO}{t:List TO}{r:PV×List MO×List TO}(h:run P n f a p t=some r):∃F,P.fn f=some F:=by
 cases n with
 |zero=>exact noS h
 |succ n=>
  cases e:P.fn f with
  |some F=>exact⟨F,rfl⟩
  |none=>
   have h:(match P.fn f with
    |some F=>ti ⟨P.glob,run P n,P.aR,λc=>gZ (run P n) (P.new c),P.fuel⟩ F
    |none=>λ_ _ _=>none) a p t=some r:=h
   rw[e]at h;exact noS h
theorem He(H:Facts T tb w P):∀(n f:Nat),r8 T prog w n (run P n f) (.ref (tb.fv f))
 |0,f=>by intro A s ρ L pm ts args vals v aA nS R rm K Rp p q;exact noS q
 |n+1,f=>by
  have ih:=He H n;intro A s ρ L pm ts args vals v aA nS R rm K Rp p q hv hR;obtain⟨F,hF⟩:=xR q;have e:run P (n+1) f=ti (Wb P n) F:=by
   show(match P.fn f with
    |some F=>ti ⟨P.glob,run P n,P.aR,λc=>gZ (run P n) (P.new c),P.fuel⟩ F
    |none=>λ_ _ _=>none)=_
   rw[hF];rfl
  rw[e]at q;have G:∀A,lR n A->Ctx T tb prog w A n (Wb P n):=λA rm=>⟨H.ok,rm,{
   an:=H.an
   nA:=H.nA
   glob:=H.glob
   fn:=λf ⟨a,p,t,r,h⟩=>by obtain⟨F',hF'⟩:=xR h;obtain⟨h1,h2,h3⟩:=H.fn f F' hF';exact⟨h2,h3,ud (ih f).spec⟩
   new:=λc ⟨a,p,t,r,h⟩=>by
    have hn:P.new c≠.no:=λz=>by have h:gZ (run P n) (P.new c) a p t=some r:=h;rw[z]at h;unfold gZ at h;cases h
    obtain⟨C,h1,h2,h3⟩:=H.new c hn;exact⟨C,h1,h2,ud (Hd h3 λf _=>ih f)⟩
   aR:=H.aR
   bi:=H.bi
   sys:=H.sys
   bm:=H.bm}⟩
  exact J' H.call (H.fn f F hF).1 G A s ρ L pm ts args vals v aA nS R rm K Rp p q hv hR
end
end
noncomputable section
section
def hSl(l:List String):List Str:=l.map sO
def hIx:List Nat:=[0,1,2,3,95,96,102,103,109,110,119,120,125,126,127,128,129,130,131,132,133,134,135,136,137,138,139,140,141,142,143,144,145,146,147,148,149,168,169,182,183,185,186,250,256,257,263,264,270,271,277,278,284,285,291,292,298,299,303,304,308,309,322,323,329,330,336,337,405,407,408,410,454,455,472,473,479,480,486,487,493,494,500,501,517,518,528,529,535,536,542,543,549,550,556,557,563,564,570,571,577,578,584,585,591,592,598,599,605,606,612,613,619,620,626,627,633,634,640,641,647,648,654,655,661,662,675,676,682,683,689,690,696,697,703,704,715,716,722,723,729,730,736,737,743,744,750,751,757,758,764,765,769,770,776,777,783,784,790,791,797,798,804,805,811,812,818,819,847,848,854,855,969,970,1004,1005,1011,1012,1047,1048,1054,1055,1068,1069,1075,1076,1078,1079,1094,1095,1097,1098,1106,1107,1113,1114,1120,1121,1122,1123,1124,1125,1126,1127,1128,1129,1130,1131,1137,1138,1144,1145,1151,1152,1158,1159,1163,1164,1168,1169,1175,1176,1180,1181,1187,1188,1194,1195,1201,1202,1208,1209,1215,1216,1220,1221]
def Kf(P:Params):Frag:=QT hIx 0 (hF P)
theorem W_(P:Params):(Kf P).In (Hf P):=Frag.in_of (as:=hIx) (by kernel_rfl) (by kernel_rfl)
def Hp(l:List String)(n:Nat):Str:=((EI l n).map sO).getD Str.empty
def KA{α:Type}(d:α)(l:List α)(n:Nat):α:=(EI l n).getD d
def tGn(n:Nat):Str:=Hp ["FIRST_ROWS","Y_PARAM","Y_UNION","NEVER","Y_ENUM","Y_NUM","NUMBER","Y_STR","Y_TPL","STRING","MARKED_ROWS","FALSE_T","FRESH_F","TRUE_T","FRESH_T","ANY","ERR","UNKNOWN","MAX_UNION","LITERAL_ROWS","R_IDENT","R_COMPARE","VALUE_ROWS","R_SUBTYPE","MAX_OPEN","R_ASSIGN","U_PROP","OBJECTT","OPEN_ROWS","DEFERRED_ROWS","UNDEF","RULE_DEFERRED","Y_INTER","Y_TUPLE","RULE_PLACES","SHAPED_ROWS","RULE_MEET","Y_KEYOF","Y_INDEX","U_READONLY","U_VAR","Y_OBJ","Y_MAPPED","U_INDEX","U_OPTION","Y_COND","Y_ALIAS","Y_REF","Y_SIG","Y_ARRAY","_law_tables"] n
def tFn(n:Nat):Str:=Hp ["","","","","","new_param","parts_of","whole_of_row","regular_twin","join_bools","stays_beside","top_of","union","without","is_literal","is_fresh","regular_one","","","","","","by_rule","silent_with","twin_of","cut_back","settled","ask_kinds","relbase_kept","close_trail","tells","taken_wider","simple_related","tops_related","unknown_told","is_numeric_enum","values_related","number_to_enum","structured","rule_for","from_union","some_part","to_union","same_kind","each_in","own_param","pid_bound","named_keys","member_of","mapped_to_param","is_empty_object","to_mapped","index_noted","keeps_marks","own_members","has_readonly","by_members","mark_rank","keys_lie","keys_and_marks","mark_notes","key_notes","mapped_pair","","","put_each","put_late","plain_put","","","","param_related","install_rel_params","_law_units","_law_lies","_law_draw","_law_made","_law_term","_law_row","_law_subsets","_law_other","_law_worlds","_law_members","_law_faults","_law_lies_in","_law_lax","_law_told","law"] n
def Q4(n:Nat):Bool:=!Nat.testBit 2093705452366038171679 n
def AQ(n:Nat):Addr:=KA 0 [96,103,110,169,183,257,264,271,278,285,292,299,304,309,323,330,337,473,480,487,494,501,529,536,543,550,557,564,571,578,585,592,599,606,613,620,627,634,641,648,655,662,676,683,690,697,704,716,723,730,737,744,751,758,765,770,777,784,791,798,805,812,819,848,855,1012,1048,1055,1069,1076,1095,1107,1114,1121,1138,1145,1152,1159,1164,1169,1176,1181,1188,1195,1202,1209,1216,1221] n
def Yw(n:Nat):Str:=Hp ["TypeTable","Notes","Rel","PutHost","ParamRule"] n
def Se(n:Nat):Str:=Hp ["append","pop","get","put","ask","holds","force","mark","same","note","put_deferred","put_in","codes"] n
def HP(n:Nat):Str:=Hp ["rows","putting","shaping","renamed","origins","names","defaults","bounds","decls","index","at","missing","twin","telling","notes","deep","road","trail","known","assumed","rules","mode","host","tab","most_deep","most_rounds"] n
def pg(n:Nat):Addr:=KA 186 [186,120,518,1079,1098] n
def tb:Tb:=⟨tGn,tFn,Q4,AQ,Yw,Se,HP,26⟩
def tS(P:Params):bj:=⟨P,pg,HP,26,Kf P⟩
def tNm(n:Nat):List Str:=(KA [] [["self"],["self","code","at"],["self","found","code","at"],["self","row"],["self","row","t"],["tab","name","bound","default","pid"],["tab","t","row"],["row","kind"],["tab","t","row"],["got"],["tab","got","t"],["got","t"],["tab","parts","got","t","part","top","kept",""],["tab","t","gone",""],["tab","t"],["tab","t","row"],["tab","t"],["self","host","mode"],["self","s","t"],["self","code"],["self","s","t"],["self"],["rel","number","s","t","rule"],["rel","mode","made"],["rel"],["rel","spot"],["host","t"],["rel","s","t","rows","told"],["rel","s","t","key","spot","answer"],["rel","clean","key"],["rel"],["rel","s","t"],["rel","s","t","told","rows","a","b"],["rel","s","t"],["rel","t","parts"],["row"],["rel","s","t","a","b"],["rel","s","a","b"],["rel","s","t","rows","a","b"],["a","b"],["rel","s","t","part"],["rel","s","parts","lax","part","spot"],["rel","s","t","tab","parts","kind"],["rel","s","t","rows","a","b"],["rel","ss","ts","s"],["tab","pid"],["tab","pid","bound"],["host","s","kind"],["rel","s","row"],["rel","t","a","keys"],["row"],["rel","s","a","b"],["rel","s","keys","host","shape"],["tab","s","keys","row"],["rel","s","b","kept"],["host","s"],["rel","s","b","host","member"],["mark"],["rel","want","have","a","b"],["rel","a","b"],["rel","a","b"],["rel","a","b","rows","all_keys"],["rel","a","b","template"],["self","t"],["self","row"],["host","many","mapping",""],["host","t","row","mapping","rest"],["host","t","mapping","row"],["self","tab"],["self","t","mapping"],["self","rel","s","t"],["rel","s","t","row","bound"],["rel"],[],[],["nums","i"],["key","opt","ro","mask","member","held","free"],["x","y"],["tab","keys","things","term","key","opt","ro","mask","member","own","parts",""],["names","found","name",""],["table","way","made","name","kind","free","closed"],["codes","worlds","table","picks","pick","smaller","few","way",""],["side","world","key","opt","ro","mask","member","base","made","name","kind","free","closed","got"],["one","other","found","name","kind","free","closed","have","lacks","fixed","want","read"],["one","other","near"],["one","other"],["fault","codes"],["script","nums","tab","t","u","k","p","pq","keys","lap","form","one","other","source","target","rel","lets","codes","faults","world","want","lost","","","",""]] n).map sO
end
end
section
set_option maxRecDepth 512
variable{prog:Program}{w:World}{A:Around}{s:Shared}
def sd:List Str->Bool
 |[]=>true
 |x::r=>!(r.contains x)&&sd r
theorem lG:∀{l:List Str},sd l=true->l.Nodup
 |[],_=>List.nodup_nil
 |x::r,h=>by have h:=ku.mp h;refine nV.mpr ⟨λhm=>?_,lG h.2⟩;have:=h.1;rw[jF.mpr hm]at this;cases this
def vE:List Str->Bool
 |[]=>true
 |x::r=>(x==Str.empty||!(r.contains x))&&vE r
theorem ug:∀{l:List Str},vE l=true->∀(i j:Nat) (x:Str),x≠Str.empty->l[i]?=some x->l[j]?=some x->i=j
 |[],_,i,j,x,_,h,_=>by simp at h
 |y::r,h,i,j,x,hx,h1,h2=>by
  have h:=(ku.mp h).imp_left Bool.or_eq_true_iff.mp;have miss:∀k,y=x->r[k]?≠some x:=λk e z=>by
   rcases h.1 with h|h
   ·exact hx (e▸cj h)
   ·rw[jF.mpr (e▸qG z)]at h;cases h
  cases i with
  |zero=>
   cases j with
   |zero=>rfl
   |succ j=>
    simp only[eH,Nat.zero_lt_succ,getElem?_pos,List.getElem_cons_zero,nU]at h1;simp only[qF]at h2;exact(miss j h1 h2).elim
  |succ i=>
   cases j with
   |zero=>
    simp only[eH,Nat.zero_lt_succ,getElem?_pos,List.getElem_cons_zero,nU]at h2;simp only[qF]at h1;exact(miss i h2 h1).elim
   |succ j=>
    simp only[qF]at h1 h2;rw[ug h.2 i j x hx h1 h2]
theorem KC{ns:my}{nm:List Str}(h0:ns.lookup Str.empty=none)(h:vE nm=true)(i:Nat)(x:Str)(hv:isVar ns nm i x=true):once nm i x:=by unfold isVar at hv;rw[bx,bx]at hv;have h1:=cj hv.1.1;refine⟨h1,λj hj=>ug h j i x (λe=>?_) hj h1⟩;subst e;have h2:=hv.1.2;rw[h0]at h2;cases h2
theorem l9{α:Type}{f:α->Bool}{o:Option α}{P:Prop}(h:cC f o=true)(k:∀d,o=some d->f d=true->P):P:=by
 cases o with
 |some d=>exact k d rfl h
 |none=>exact noB h
def vNo(v:Value):Bool:=match v with
 | .none=>true
 |_=>false
theorem L5{v:Value}(h:vNo v=true):v= .none:=by cases v<;>first|rfl|exact noB h
def KD(v:Value):Option (Dx Value Addr .ref v):=match v with
 | .ref a=>some ⟨a,rfl⟩
 |_=>none
def vBoo(v:Value):Option (Dx Value Bool .bool v):=match v with
 | .bool a=>some ⟨a,rfl⟩
 |_=>none
def vInt(v:Value):Option (Dx Value (Int×Tok) (λd=> .int d.1 d.2) v):=match v with
 | .int a b=>some ⟨(a,b),rfl⟩
 |_=>none
def vStr(v:Value):Option (Dx Value (Str×Tok) (λd=> .str d.1 d.2) v):=match v with
 | .str a b=>some ⟨(a,b),rfl⟩
 |_=>none
def vTyp(v:Value):Option (Dx Value String .type v):=match v with
 | .type a=>some ⟨a,rfl⟩
 |_=>none
def Q5(v:Data):Option (Dx Data (Array Value×Nat) (λd=> .seq d.1 d.2) v):=match v with
 | .seq a b=>some ⟨(a,b),rfl⟩
 |_=>none
def dDic(v:Data):Option (Dx Data (Array DictEntry×Nat) (λd=> .dict d.1 d.2) v):=match v with
 | .dict a b=>some ⟨(a,b),rfl⟩
 |_=>none
def dFun(v:Data):Option (Dx Data FuncData .func v):=match v with
 | .func a=>some ⟨a,rfl⟩
 |_=>none
def dFld(v:Data):Option (Dx Data (Array Value) .fields v):=match v with
 | .fields a=>some ⟨a,rfl⟩
 |_=>none
def bSts(v:FuncBody):Option (Dx FuncBody (List Stmt) .stmts v):=match v with
 | .stmts a=>some ⟨a,rfl⟩
 |_=>none
def AR(K:Frag)(fd:FuncData):Bool:=cC (λc=>cC (λo=>cC (λvs=>cC (λv=>cC (λq=>q.d.1==fd.qualname) (vStr v)) (vs.d[1]?)) (dFld o.data)) (K.lookup c.d)) (KD fd.code)
def Hq(K:Frag)(v:Value):Bool:=vNo v||cC (λt=>cC (λo=>(Q5 o.data).isSome) (K.lookup t.d)) (KD v)
def Q6(p:Arguments)(names:List Str):Bool:=p.posonlyargs.isEmpty&&(p.kwonlyargs.isEmpty&&(p.vararg.isNone&&(p.kwarg.isNone&&p.args.map (·.arg)==names)))
def vF(ns:my):List Str->Bool
 |[]=>true
 |x::r=>(ns.lookup x==some .local||ns.lookup x==some .cell)&&vF ns r
def Xa(sc:Scope):Bool:=sc.kind== .function&&(!sc.isCoroutine&&(!sc.isGenerator&&(sd (sc.names.map (·.1))&&(sc.names.lookup Str.empty).isNone)))
noncomputable def Xb (K:Frag) (tb:Tb) (F:Fn) (nm:List Str) (fd:FuncData) (body:List Stmt):Bool:=fd.closure.isEmpty&&(AR K fd&&(Q6 fd.params (nm.take F.ar)&&(Hq K fd.defaults&&(Xa fd.scope&&(Nat.beq fd.globals mainGlobals&&(Nat.beq fd.builtins builtinsNs&&
  (Nat.ble F.ar nm.length&&(Nat.beq nm.length F.nl&&(sd (nm.take F.ar)&&(vF fd.scope.names (nm.take F.ar)&&(vE nm&&Jw tb fd.scope.names nm F.body body)))))))))))
noncomputable def L6 (K:Frag) (tb:Tb) (F:Fn) (fa:Addr) (nm:List Str):Bool:=cC (λo=>cC (λfd=>cC (λb=>Xb K tb F nm fd.d b.d) (bSts fd.d.body)) (dFun o.data)) (K.lookup fa)
theorem se{ns:my}:∀{l:List Str},vF ns l=true->∀x∈l,ns.lookup x=some .local\/ns.lookup x=some .cell
 |[],_,x,hx=>by cases hx
 |y::r,h,x,hx=>by
  have h:=(ku.mp h).imp_left Bool.or_eq_true_iff.mp;rcases dH.mp hx with rfl|hx
  ·exact h.1.imp (λz=>cj z) λz=>cj z
  ·exact se h.2 x hx
theorem Q7{K:Frag}{fd:FuncData}(h:AR K fd=true):∃c oc vs t,fd.code= .ref c/\K.lookup c=some oc/\oc.data= .fields vs/\vs[1]?=some (.str fd.qualname t):=
 aB h λc h=>l9 h λo e h=>aB h λvs h=>l9 h λv ev h=>aB h λq h=>⟨c.d,o,vs.d,q.d.2,c.e,e,vs.e,ev.trans (congrArg some (q.e.trans (congrArg (λx=>Value.str x q.d.2) (cj h))))⟩
theorem Xc{K:Frag}{v:Value}(h:Hq K v=true):v= .none\/∃t ot items n,v= .ref t/\K.lookup t=some ot/\ot.data= .seq items n:=
 p8 h (λh=> .inl (L5 h)) λh=>aB h λt h=>l9 h λo e h=>by
  cases q:Q5 o.data with
  |none=>rw[q]at h;exact noB h
  |some s=>exact .inr ⟨t.d,o,s.d.1,s.d.2,t.e,e,s.e⟩
theorem L7{b:Bool}(h:(!b)=true):b=false:=by
 cases b with
 |false=>rfl
 |true=>exact noB h
theorem Hr{T:bj}{tb:Tb}{F:Fn}{fa:Addr}{nm:List Str}(h:L6 T.K tb F fa nm=true):J_ T tb F fa:=
 l9 h λo hk h=>aB h λfd h=>aB h λb h=>aw h λh1 h=>aw h λh2 h=>aw h λh3 h=>aw h λh4 h=>aw h λh5 h=>aw h λh6 h=>aw h λh7 h=>
 aw h λh8 h=>aw h λh9 h=>aw h λHJ h=>aw h λiP h=>aw h λgR HI=>
 aw h5 λs1 h=>aw h λs2 h=>aw h λs3 h=>aw h λs4 s5=>
 aw h3 λp1 h=>aw h λp2 h=>aw h λp3 h=>aw h λp4 p5=>
 .mk o fd.d b.d nm hk fd.e b.e (gy h1) (Q7 h2) (gy p1) (gy p2) (kQ p3) (kQ p4) (cj p5) (Xc h4) (cj s1) (L7 s2) (L7 s3) (j_ h6) (j_ h7)
  (gY h8) (j_ h9) (lG HJ) (lG s4) (se iP) (KC (kQ s5) gR) HI
def Xd(o:Obj)(d:Array Value×Nat):Bool:=o.dict.isNone&&(o.slots.isEmpty&&(Nat.beq d.2 0&&cC (λt=>t.d=="tuple") (vTyp o.cls)))
theorem Xe{o:Obj}{d:Array Value×Nat}(e:o.data= .seq d.1 d.2)(h:Xd o d=true):o=lN d.1:=by refine aw h λh1 h=>aw h λh2 h=>aw h λh3 h=>aB h λt h=>?_;obtain⟨c,di,da,sl⟩:=o;rw[show da=_ from e,show di=none from kQ h1,show sl=#[]from Array.isEmpty_iff.mp h2,show c=_ from t.e,cj h,j_ h3]
def vsC(f:Value->Bool)(g:List Value->Bool):List Value->Bool
 |[]=>false
 |v::t=>f v&&g t
mutual
noncomputable def AS (K:Frag):D->Value->Bool
 | .none=>vNo
 | .bool b=>λv=>cC (λc=>b==c.d) (vBoo v)
 | .int i=>λv=>cC (λc=>i==c.d.1) (vInt v)
 | .str l=>λv=>cC (λc=>Ej l&&c.d.1==nB l) (vStr v)
 | .tup l=>λv=>cC (λa=>cC (λo=>cC (λs=>Xd o s.d&&zx K l s.d.1.toList) (Q5 o.data)) (K.lookup a.d)) (KD v)
 | .lst _=>λ_=>false
 | .gP _=>λ_=>false
 | .nX _=>λ_=>false
 | .cin _=>λ_=>false
noncomputable def zx (K:Frag):List D->List Value->Bool
 |[]=>List.isEmpty
 |d::r=>vsC (AS K d) (zx K r)
end
mutual
theorem xV{T:bj}{ρ:bU}(k:hH T ρ):∀{d:D} {v:Value},AS T.K d v=true->VR T.P T.cl ρ d v
 | .none,_,h=>L5 h
 | .bool _,_,h=>aB h λc h=>by rw[cj h];exact c.e
 | .int i,_,h=>aB h λc h=>⟨c.d.2,by rw[cj h];exact c.e⟩
 | .str l,_,h=>aB h λc h=>aw h λh1 h=>⟨c.d.2,by rw[<-cj h];exact c.e,h1⟩
 | .tup l,_,h=>aB h λa h=>l9 h λo hk h=>aB h λs h=>aw h λh1 h=>⟨a.d,s.d.1,a.e,k _ _ (hk.trans (congrArg some (Xe s.e h1))),ui k h⟩
 | .lst _,_,h=>noB h
 | .gP _,_,h=>noB h
 | .nX _,_,h=>noB h
 | .cin _,_,h=>noB h
theorem ui{T:bj}{ρ:bU}(k:hH T ρ):∀{l:List D} {vs:List Value},zx T.K l vs=true->dA T.P T.cl ρ l vs
 |[],[],_=>trivial
 |[],_::_,h=>noB h
 |_::_,[],h=>noB h
 |d::r,v::t,h=>aw (a:=AS T.K d v) h λh1 h=>⟨xV k h1,ui k h⟩
end
noncomputable def AU (K:Frag) (x:Str) (d:D):Bool:=cC (cC λv=>AS K d v) (nsIn K mainGlobals x)
theorem zy{T:bj}{ρ:bU}{x:Str}{d:D}(h:AU T.K x d=true)(k:hH T ρ):∃v,nsIn T.K mainGlobals x=some (some v)/\VR T.P T.cl ρ d v:=
 l9 h λo e h=>l9 h λv e' h=>⟨v,by rw[e,e'],xV k h⟩
noncomputable section
section
def AV(K:Frag)(x:Str)(a:Addr):Bool:=cC (cC λv=>cC (λb=>Nat.beq b.d a) (KD v)) (nsIn K mainGlobals x)
theorem sf{K:Frag}{x:Str}{a:Addr}(h:AV K x a=true):nsIn K mainGlobals x=some (some (.ref a)):=
 l9 h λo e h=>l9 h λv e' h=>aB h λb h=>by rw[e,e',b.e,j_ h]
def lst{α:Type}(f:Nat->α):Nat->Nat->List α
 |_,0=>[]
 |a,n+1=>f a::lst f (a+1) n
theorem mG{α:Type}{f g:Nat->α}:∀{n a:Nat},lst f a n=lst g a n->∀i,a<=i->i<a+n->f i=g i
 |0,a,_,i,h1,h2=>absurd h1 (Nat.not_le_of_lt h2)
 |n+1,a,h,i,h1,h2=>(Nat.eq_or_lt_of_le h1).elim (λe=>e▸(List.cons.inj h).1) λh1=>mG (List.cons.inj h).2 i h1 (by rw[Nat.add_right_comm];exact h2)
def vG(P:Params)(f:Nat):Bool:=(pQ f).all λF=>L6 (Kf P) tb F (AQ f) (tNm f)&&((!Q4 f||AV (Kf P) (tFn f) (AQ f))&&keepIn (Kf P) (.ref (AQ f)))
theorem fn0(P:Params):lst (vG P) 0 22=lst (λ_=>true) 0 22:=by kernel_rfl
theorem fn1(P:Params):lst (vG P) 22 22=lst (λ_=>true) 22 22:=by kernel_rfl
theorem fn2(P:Params):lst (vG P) 44 22=lst (λ_=>true) 44 22:=by kernel_rfl
theorem fn3(P:Params):lst (vG P) 66 22=lst (λ_=>true) 66 22:=by kernel_rfl
theorem KG(k:Nat):pQ (k+88)=none:=by kernel_rfl
theorem Hs{n f:Nat}(h:¬f<n){Q:Nat->Prop}(k:∀i,Q (i+n)):Q f:=by
 have e:f=(f-n)+n:=by omega
 rw[e];exact k _
theorem Ht(P:Params)(f:Nat):vG P f=true:=by
 by_cases h:f<88
 ·rcases Nat.lt_or_ge f 22 with a|a
  ·exact mG (fn0 P) f (eJ _) a
  rcases Nat.lt_or_ge f 44 with b|b
  ·exact mG (fn1 P) f a b
  rcases Nat.lt_or_ge f 66 with c|c
  ·exact mG (fn2 P) f b c
  ·exact mG (fn3 P) f c h
 ·exact Hs h (Q:=λf=>vG P f=true) λk=>by unfold vG;rw[KG];rfl
def Xf(g:Nat):Bool:=Nat.beq g 50
def Hu(P:Params)(g:Nat):Bool:=Xf g||(lW g).all (AU (Kf P) (tGn g))
theorem gl0(P:Params):lst (Hu P) 0 51=lst (λ_=>true) 0 51:=by kernel_rfl
theorem Eg(k:Nat):lW (k+51)=none:=by kernel_rfl
theorem Q8(P:Params)(g:Nat):Hu P g=true:=by
 by_cases h:g<51
 ·exact mG (gl0 P) g (eJ _) h
 ·exact Hs h (Q:=λg=>Hu P g=true) λk=>by unfold Hu;rw[Eg];exact Bool.or_true _
def KH(P:Params)(C:Nat):Bool×Option (Option Value)×Bool×Bool×List (Option (Option Value)):=(plainGet (Kf P) (pg C) Str.empty,findIn (Kf P) (.ref (pg C)) "__setattr__",plainOver (Kf P) (pg C),hasDictIn (Kf P) (pg C),lst (λa=>findIn (Kf P) (.ref (pg C)) (HP a)) 0 26)
def Q9:Bool×Option (Option Value)×Bool×Bool×List (Option (Option Value)):=(true,some (some (.builtin "object.__setattr__")),true,true,lst (λ_=>some none) 0 26)
theorem cl0(P:Params):lst (KH P) 0 5=lst (λ_=>Q9) 0 5:=by kernel_rfl
theorem KI(k:Nat):pg (k+5)=pg 0:=by kernel_rfl
theorem sg(P:Params)(C:Nat):KH P C=Q9:=by
 by_cases h:C<5
 ·exact mG (cl0 P) C (eJ _) h
 ·exact Hs h (Q:=λC=>KH P C=Q9) λk=>by unfold KH;rw[KI];exact mG (cl0 P) 0 (dJ _) (by decide)
theorem Hv:sd ((List.range 26).map HP)=true:=by kernel_rfl
theorem KJ(w:World):dF (tS w.params) w where
 P:=rfl
 inj:=λa b ha hb e=>by
  have h:=lG Hv;have g:∀{i:Nat},i<26->((List.range 26).map HP)[i]?=some (HP i):=λhi=>by rw[pK,List.getElem?_range hi];rfl
  exact(List.getElem?_inj (by rw[eT,List.length_range];exact ha) h).mp ((g ha).trans ((congrArg some e).trans (g hb).symm))
 get:=λC=>congrArg (λx=>x.1) (sg w.params C)
 set:=λC=>congrArg (λx=>x.2.1) (sg w.params C)
 over:=λC=>congrArg (λx=>x.2.2.1) (sg w.params C)
 dict:=λC=>congrArg (λx=>x.2.2.2.1) (sg w.params C)
 attr:=λC a ha=>mG (n:=26) (a:=0) (f:=λa=>findIn (Kf w.params) (.ref (pg C)) (HP a)) (g:=λ_=>some none) (congrArg (λx=>x.2.2.2.2) (sg w.params C)) a (eJ _) ((Nat.zero_add 26).symm▸ha)
def limB(K:Frag):Bool:=cC (λo=>cC (λd=>d.d.1.toList.all (λe=>(vStr e.key).isSome)&&(nsFind d.d.1 "sys.recursionlimit").isNone) (dDic o.data)) (K.lookup cStatics)
theorem lim0(P:Params):limB (Kf P)=true:=by kernel_rfl
theorem Eh(P:Params):r9 (tS P):=
 l9 (lim0 P) λo e h=>aB h λd h=>aw h λh1 h2=>⟨o,λx=>nsFind d.d.1 x,e,⟨d.d.1,d.d.2,d.e,λen hen=>by
  have:=bc.mp h1 en (Array.mem_toList_iff.mpr hen);cases q:vStr en.key with
  |none=>rw[q]at this;exact noB this
  |some k=>exact⟨k.d.1,k.d.2,k.e⟩,λ_=>rfl⟩,kQ h2⟩
def Q_:D:= .lst [.gP [],.gP [(.str [112],.tup [.int 32,.bool false,.bool false])],.gP [(.str [112],.tup [.int 32,.bool true,.bool false]),(.str [113],.tup [.int 1,.bool false,.bool true])],.gP [(.str [112],.tup [.int 33,.bool false,.bool true]),(.str [113],.tup [.int 32,.bool true,.bool true])]]
theorem Hw:lW 50=some Q_:=by kernel_rfl
theorem Q'(P:Params):AV (Kf P) (tGn 50) 1131=true:=by kernel_rfl
theorem Xg(v:D):kf [(.str [112],v)]:=kf.put (k:= .str [112]) (x:=v) kf.nil rfl
theorem dok2(v u:D):kf [(.str [112],v),(.str [113],u)]:=kf.put (k:= .str [113]) (x:=u) (Xg v) rfl
theorem lk(P:Params):((Kf P).lookup 1131=some (⟨(vT k20),none,(.seq [vR 1122,vR 1123,vR 1125,vR 1128].toArray 0),[].toArray⟩)/\(Kf P).lookup 1122=some (dc k4 [] 0))/\((Kf P).lookup 1123=some (dc k4 [en P xU 1825 (vR 1124)] 1)/\(Kf P).lookup 1125=some (dc k4 [en P xU 1828 (vR 1126),en P DZ 1830 (vR 1127)] 2))/\((Kf P).lookup 1128=some (dc k4 [en P xU 1834 (vR 1129),en P DZ 1836 (vR 1130)] 2)/\(Kf P).lookup 1124=some (sq [vI 32 1826,vB false,vB false] 0))/\((Kf P).lookup 1126=some (sq [vI 32 1829,vB true,vB false] 0)/\(Kf P).lookup 1127=some (sq [vI 1 1831,vB false,vB true] 0))/\((Kf P).lookup 1129=some (sq [vI 33 1835,vB false,vB true] 0)/\(Kf P).lookup 1130=some (sq [vI 32 1837,vB true,vB true] 0)):=by refine⟨⟨?_,?_⟩,⟨?_,?_⟩,⟨?_,?_⟩,⟨?_,?_⟩,?_,?_⟩<;>kernel_rfl
theorem Ra(a:Addr)(h:Nat.ble 2 a=true):a≠sysModules:=by have:sysModules=1:=rfl;have:=gY h;intro e;rw[e]at this;revert this;decide
theorem nP:xU=nB [112]:=by kernel_rfl
theorem nQ:DZ=nB [113]:=by kernel_rfl
theorem Rb(P:Params)(ρ:bU)(k:hH (tS P) ρ):VR P pg ρ Q_ (.ref 1131):=by
 obtain⟨⟨h31,Yo⟩,⟨Yp,h25⟩,⟨h28,h24⟩,⟨Ui,h27⟩,h29,h30⟩:=lk P;have K:=λ{a o} (h:(Kf P).lookup a=some o)=>k a o h;have Hx:∀{a:Addr} {i:Int} {t:Tok} {b c:Bool},(Kf P).lookup a=some (lN #[.int i t,.bool b,.bool c])->VR P pg ρ (.tup [.int i,.bool b,.bool c]) (.ref a):=λh=>⟨_,_,rfl,K h,And.intro ⟨_,rfl⟩ (And.intro rfl (And.intro rfl trivial))⟩;have ent:∀{x:Str} {l:List Nat} {t:Tok} {v:Value} {d:D},x=nB l->Ej l=true->VR P pg ρ d v->((en P x t v).hash=i7 P (.str l)/\VR P pg ρ (.str l) (en P x t v).key/\VR P pg ρ d (en P x t v).val):=λ{x l t v d} hx ok h=>by subst hx;exact⟨rfl,⟨t,rfl,ok⟩,h⟩
 have d2:∀{a:Addr} {t u:Tok} {v w:Value} {x y:D},(Kf P).lookup a=some (eV #[en P xU t v,en P DZ u w] 2)->Nat.ble 2 a=true->VR P pg ρ x v->VR P pg ρ y w->VR P pg ρ (.gP [(.str [112],x),(.str [113],y)]) (.ref a):=λh ha h1 h2=>⟨_,_,_,rfl,K h,And.intro (ent nP rfl h1) (And.intro (ent nQ rfl h2) trivial),Ra _ ha,dok2 _ _⟩;unfold Q_;exact⟨1131,_,_,rfl,K h31,And.intro ⟨1122,_,_,rfl,K Yo,trivial,Ra _ rfl,kf.nil⟩ (And.intro ⟨1123,_,_,rfl,K Yp,And.intro (ent nP rfl (Hx h24)) trivial,Ra _ rfl,Xg _⟩ (And.intro (d2 h25 rfl (Hx Ui) (Hx h27)) (And.intro (d2 h28 rfl (Hx h29) (Hx h30)) trivial)))⟩
theorem xX{C m f:Nat}:∀{l:List (Nat×Nat×Nat)},zD C m l=some f->(C,m,f)∈l
 |[],h=>noS h
 |p::l,h=>by
  have h:(bif Nat.beq C p.1&&Nat.beq m p.2.1 then some p.2.2 else zD C m l)=some f:=h;cases q:Nat.beq C p.1&&Nat.beq m p.2.1 with
  |false=>rw[q]at h;exact .tail _ (xX h)
  |true=>
   rw[q]at h;refine aw q λq1 q2=>?_;rw[j_ q1,j_ q2,<-fh h];exact .head _
theorem m0(P:Params):ZT.map (λp=>(findIn (Kf P) (.ref (pg p.1)) (Se p.2.1),typeIn (Kf P) (.ref (AQ p.2.2)),keepIn (Kf P) (.ref (AQ p.2.2)),lst (λa=>HP a==Se p.2.1) 0 26))=
  ZT.map (λp=>(some (some (.ref (AQ p.2.2))),some (.type "function"),true,lst (λ_=>false) 0 26)):=by kernel_rfl
theorem Hy{P:Params}{C m f:Nat}(h:pj C m=some f):findIn (Kf P) (.ref (pg C)) (Se m)=some (some (.ref (AQ f)))/\typeIn (Kf P) (.ref (AQ f))=some (.type "function")/\keepIn (Kf P) (.ref (AQ f))=true/\∀a,a<26->HP a≠Se m:=by have a:=List.map_inj_left.mp (m0 P) _ (xX h);refine⟨congrArg (λx=>x.1) a,congrArg (λx=>x.2.1) a,congrArg (λx=>x.2.2.1) a,λi hi e=>?_⟩;have:=mG (n:=26) (a:=0) (f:=λi=>HP i==Se m) (g:=λ_=>false) (congrArg (λx=>x.2.2.2) a) i (eJ _) hi;rw[e,beq_self_eq_true]at this;exact noB this.symm
def Rd(n:Nat):Value:=KA (.builtin "object.__init__") [.ref (AQ 3),.ref (AQ 0),.ref (AQ 17),.ref (AQ 68)] n
theorem nw0(P:Params):lst (λc=>(nsIn (Kf P) mainGlobals (Yw c),keepIn (Kf P) (.ref (pg c)),makesIn (Kf P) (pg c),findIn (Kf P) (.ref (pg c)) "__init__")) 0 5=lst (λc=>(some (some (.ref (pg c))),true,true,some (some (Rd c)))) 0 5:=by kernel_rfl
theorem Yx(P:Params):lst (λc=>typeIn (Kf P) (Rd c)) 0 4=lst (λ_=>some (.type "function")) 0 4:=by kernel_rfl
theorem Hz(k:Nat):yk (k+5)= .no:=by kernel_rfl
theorem HA{P:Params}{c:Nat}(hc:c<5){nw:Nw}(h:makesIn (Kf P) (pg c)=true->findIn (Kf P) (.ref (pg c)) "__init__"=some (some (Rd c))->xQ (tS P) tb nw (pg c)):∃C,nsIn (Kf P) mainGlobals (Yw c)=some (some (.ref C))/\keepIn (Kf P) (.ref C)=true/\xQ (tS P) tb nw C:=
 have a:=mG (nw0 P) c (eJ _) hc
 ⟨pg c,congrArg (λx=>x.1) a,congrArg (λx=>x.2.1) a,h (congrArg (λx=>x.2.2.1) a) (congrArg (λx=>x.2.2.2) a)⟩
theorem KL{P:Params}:∀{c:Nat},yk c≠.no->∃C,nsIn (Kf P) mainGlobals (Yw c)=some (some (.ref C))/\keepIn (Kf P) (.ref C)=true/\xQ (tS P) tb (yk c) C
 |0,_=>HA (by decide) λa b=>⟨rfl,a,b,mG (Yx P) 0 (eJ _) (by decide)⟩
 |1,_=>HA (by decide) λa b=>⟨rfl,a,b,mG (Yx P) 1 (eJ _) (by decide)⟩
 |2,_=>HA (by decide) λa b=>⟨rfl,a,b,mG (Yx P) 2 (eJ _) (by decide)⟩
 |3,_=>HA (by decide) λa b=>⟨rfl,a,b,mG (Yx P) 3 (eJ _) (by decide)⟩
 |4,_=>HA (by decide) λa b=>⟨rfl,a,b⟩
 |k+5,h=>absurd (Hz k) h
theorem b0'(P:Params):[BI.len,.sorted,.tuple,.range].map (λb=>(nsIn (Kf P) mainGlobals (HL b),nsIn (Kf P) builtinsNs (HL b)))=[BI.len,.sorted,.tuple,.range].map (λb=>(some none,some (some (Yg b)))):=by kernel_rfl
theorem Rf(P:Params)(b:BI):nsIn (Kf P) mainGlobals (HL b)=some none/\nsIn (Kf P) builtinsNs (HL b)=some (some (Yg b)):=
 have a:=List.map_inj_left.mp (b0' P) b (by cases b<;>decide)
 ⟨congrArg (λx=>x.1) a,congrArg (λx=>x.2) a⟩
theorem facts(w:World):Facts (tS w.params) tb w pr where
 ok:=KJ w
 call:=Eh w.params
 an:=rfl
 nA:=rfl
 glob:=λg d ρ h k=>by
  by_cases hg:g=50
  ·subst hg;have h:lW 50=some d:=h;rw[Hw]at h;cases h;exact⟨_,sf (Q' w.params),Rb w.params ρ k⟩
  ·have c:=Q8 w.params g;unfold Hu at c;have h:lW g=some d:=h;rw[h]at c;exact p8 c (λc=>absurd (j_ c) hg) λc=>zy (T:=tS w.params) c k
 fn:=λf F h=>by have c:=Ht w.params f;unfold vG at c;have h:pQ f=some F:=h;rw[h]at c;refine aw c λc1 c=>aw c λc2 c3=>⟨Hr (T:=tS w.params) c1,λhg=>?_,c3⟩;have hg:Q4 f=true:=hg;rw[hg]at c2;exact sf c2
 new:=λc h=>KL h
 aR:=λC m f h=>Hy h
 bi:=Rf w.params
 sys:=by kernel_rfl
 bm:=⟨rfl,rfl,rfl⟩
end
end
noncomputable section
section
abbrev Yy:RowW:=PySem.Challenge.rw_qd0089_01.row.toRowW
theorem HB{args:List WData}(h:Yy.claim.pre args=true):∃l:List Int,args=[.list (l.map WData.int)]/\l.length<=63:=by
 obtain⟨h1,h2⟩:=pre_splitW h;obtain⟨d,r,rfl,h3,h4⟩:=hasAllW_cons (e:= .list .int) (es:=[]) h1;obtain rfl:=hasAllW_nil h4;obtain⟨xs,rfl,h5⟩:=hasW_list h3;obtain⟨l,rfl⟩:=items_int h5;clear h h1 h4 h3 h5;refine⟨l,rfl,?_⟩;have c:=condW_of (holds_andW h2).1 (by wtm_val);have c:(l.length:Int)<=63:=by simpa using c
 omega
theorem zA:lR 60 callerA:=⟨rfl,by show 1+claimMargin+4*60+10<recursionLimit;decide,by show 4+40*60+120<cLine;decide⟩
theorem uj{P:Params}{h:Heap}{T:bj}{ρ:bU}:∀{l:List Int} {vs:List Value},WellAll P h vs (l.map WData.int)->dA T.P T.cl ρ (l.map D.int) vs
 |[],vs,h=>by cases h;trivial
 |i::l,vs,h=>by
  cases h with
  |cons h1 h2=>
   cases h1;exact And.intro ⟨_,rfl⟩ (uj h2)
theorem KN(args ds:List WData):Yy.claim.post args (.bool true) ds=true:=by kernel_rfl
def sh(K:Frag)(la:Addr)(lo:Obj):bU:=λa=>match K.lookup a with
 |some o=> .bA o
 |none=>if a=la then .bA lo else .free
theorem KO{K:Frag}{h:Heap}(X:K.In h){x:Str}{a b:Addr}{og:Obj}{es:Array DictEntry}{ep:Nat}(e:nsIn K mainGlobals x=some (some (.ref b)))(e1:h.get? mainGlobals=some og)(e2:og.data= .dict es ep)(e3:nsFind es x=some (.ref a)):a=b:=by
 unfold nsIn at e;cases hk:K.lookup mainGlobals with
 |none=>rw[hk]at e;cases e
 |some o=>
  have q:=X _ _ hk;rw[e1]at q;cases q;rw[hk]at e;obtain⟨c,d,da,sl⟩:=o;have e2:da= .dict es ep:=e2;subst e2;unfold nsFind findBy at e3;rw[<-Array.find?_toList]at e3;dsimp only at e;cases he:es.toList.find? (·.key.isStr x)with
  |some en=>
   rw[he]at e e3;exact Value.ref.inj ((fh e3).symm.trans (fh (fh e)))
  |none=>
   rw[he]at e3;cases e3
abbrev Xh (l:List Int):Option (PV×List MO×List TO):=run pr 60 87 [.d (.lst (l.map .int))] [] []
theorem HC(H:∀l:List Int,l.length<=63->∃pm ts,Xh l=some (.d (.bool true),pm,ts)):WalkO q0 pf (λ_ _=>True) YP0 Yy d0 [] λf vs=>PySem.call f vs:=by
 intro w s₀ aC mg mb G Y a o pm cd doc dV kV ha ho hcd Ts hmg Xi args vals as hpre hlay hrd hwl hlow;obtain⟨l,rfl,hl⟩:=HB hpre;cases hwl with
 |cons h1 h2=>
 cases h2;cases h1 with
 |list g hw=>
 rename_i la vs;have Kin:(Kf w.params).In aC.heap:=λb ob e=>Y b ob (W_ w.params b ob e);have ea:a=1221:=by have h1:=Ht w.params 87;unfold vG at h1;rw[show pQ 87=some ⟨1,26,HV⟩from rfl,Option.all_some]at h1;have h2:AV (Kf w.params) (tFn 87) 1221=true:=aw h1 λ_ h=>aw h λh _=>h;have h3:=sf h2;obtain⟨og,es,ep,e1,e2,_,e3⟩:=G.T.g;exact KO Kin h3 e1 e2 ((e3 _).trans hmg)
 subst ea;let T:=tS w.params;let B3:bU:=cw (sh (Kf w.params) la (gT vs.toArray 0)) aC.heap;have im:∀b ob,(Kf w.params).lookup b=some ob->B3 b= .bA ob:=λb ob e=>by show cw _ _ b=_;unfold cw sh;rw[e]
 have hla:B3 la= .bA (gT vs.toArray 0):=by
  cases e:(Kf w.params).lookup la with
  |none=>
   show cw _ _ la=_;unfold cw sh;rw[e];dsimp only;rw[if_pos rfl]
  |some ob=>
   rw[im _ _ e];have:=Kin _ _ e;rw[g]at this;cases this;rfl
 have role:∀b,oY aC.heap b (B3 b):=λb=>by
  show oY _ b (cw _ _ b);unfold cw sh;cases e:(Kf w.params).lookup b with
  |some ob=>exact Kin _ _ e
  |none=>
   dsimp only;by_cases hb:b=la
   ·subst hb;rw[if_pos rfl];exact g
   ·rw[if_neg hb];dsimp only;cases e':aC.heap.get? b with
    |none=>trivial
    |some ob=>exact e'
 let L0:Lo:=⟨λ_=>0,λ_=>0,λ_=>0,0,0⟩;have R0:Rep T B3 L0 ⟨[],[]⟩ aC.heap:=⟨rfl,rfl,role,λn m e=>by simp at e,λn m e=>by simp at e⟩;have K0:hH T B3:=im;have p0:gF T B3 L0 [.d (.lst (l.map .int))] [.ref la]:=⟨⟨la,_,_,rfl,hla,uj hw⟩,trivial⟩;obtain⟨aA,nS,hr⟩:=H l hl;have fc:=(He (prog:=Yy.prog) (facts w) 60 87).spec callerA aC B3 L0 [] [] _ _ _ _ _ zA K0 R0 p0 hr rfl;refine wpAny_mono fc (λv s' P=>?_) λ_ _ z=>z.elim;obtain⟨aJ,L',HN,le,ll,R',same,_,pv⟩:=P;have hv:v= .bool true:=pv;subst hv;have keep:∀b ob,aC.heap.get? b=some ob->s'.heap.get? b=some ob:=λb ob e=>by
  have hb:=role b;cases q:B3 b with
  |free=>
   exfalso;have q:cw _ _ b=_:=q;unfold cw at q;split at q
   ·rw[e]at q;cases q
   ·rename_i n;exact n q
  |bA o'=>
   rw[q]at hb;have hb:aC.heap.get? b=some o':=hb;rw[hb]at e;cases e;exact R'.bA (le.bA _ _ q)
  |aX o'=>
   rw[q]at hb;have hb:aC.heap.get? b=some o':=hb;rw[hb]at e;cases e;exact R'.aX (le.aX _ _ q)
  |own gg=>
   exfalso;have q:cw _ _ b=_:=q;unfold cw sh at q;cases e1:(Kf w.params).lookup b with
   |some ob=>rw[e1]at q;cases q
   |none=>
    rw[e1]at q;dsimp only at q;split at q
    ·split at q<;>cases q
    ·split at q<;>cases q
 obtain⟨h',tk,hs⟩:=same;refine⟨.inl ⟨.bool true,.bool true,[],rfl,λ_=>rfl,.bool true,KN _ _,λ_=>⟨List.nodup_nil,λ_ z=>nomatch z⟩⟩,.of_keep keep,by rw[hs],?_⟩;have:s'.gens=#[]:=by rw[hs];exact Xi
 exact .of_eq this
end
end
end
end
end Mine

theorem PySem.Challenge.cw_qd0089_01_holds : PySem.Challenge.rw_qd0089_01.Holds :=
 PySem.W.holds_law Mine.said fun k => Mine.Ef k (Mine.HC Mine.Vk)
