import PyProof.Rows.All
import Wide.All
import OpenK.AllK
import Wide.FinOn
import PySem.Challenge.RW_on0127_01
set_option genSizeOf false
set_option genInjectivity false
set_option bootstrap.genMatcherCode false
set_option compiler.extract_closed false
set_option genCtorIdx false
open PySem PySem.Calls PySem.W PyProof.Rows
set_option Elab.async false
set_option linter.unusedSectionVars false
set_option linter.unusedVariables false
set_option linter.unusedSimpArgs false
set_option maxRecDepth 100000
namespace Mine.Internal
noncomputable abbrev Lw:OpenLaw:=PySem.Challenge.rw_on0127_01
noncomputable abbrev Rw:OpenRow:=Lw.row
theorem sa1:sreFenced Rw.prog.main=true:=by kernel_rfl
theorem sa2:((moduleNames Rw.prog.main.body).isEmpty||lookedIntoSs (moduleNames Rw.prog.main.body) Rw.prog.main.body)=true:=by kernel_rfl
theorem sa3:namesResolve Rw.prog=true:=by kernel_rfl
theorem sa4:(Rw.prog.boundNames.all (λn=> !worldNames.contains n))=true:=by kernel_rfl
theorem sa5:noRoadLSs {strict:= !(importedModules Rw.prog.main.body).all cThrough.contains,foot:=none,bare:=(["vars","dir","locals"]:List PySem.Str).filter (readsOut Rw.prog Rw.prog.main.body)} Rw.prog.main.body=true:=by kernel_rfl
theorem sa6:(namesMeet Rw.prog Rw.prog.main.body λ_ n=>attrL n)=true:=by kernel_rfl
theorem sa:looksOpen Rw.prog=true:=look_both (look_both (look_both (look_both (look_both sa1 sa2) sa3) sa4) sa5) sa6
theorem sb:Rw.partSaid=true:=look_both (look_both (look_both (look_both (look_both (look_both (look_both (look_both (look_both (look_both (look_both (look_both (look_both sa rfl) rfl) rfl) rfl) rfl) rfl) rfl) rfl) rfl) rfl) rfl) rfl) rfl
theorem sc:Rw.wellSaid=true:=look_both (look_both sb (by kernel_rfl)) (by kernel_rfl)
theorem sd1:decide (Lw.foot<=(behindTheImports Lw.prog).length)=true:=by kernel_rfl
theorem sd2:Lw.footing.all footLine=true:=by kernel_rfl
theorem sd3:noClassBlock Lw.prog Lw.footing=true:=by kernel_rfl
theorem sd4:Lw.most.all (λn=>decide (63<=n))=true:=by kernel_rfl
theorem sd5:Lw.bound.all (λn=>decide (2^63<=n))=true:=by kernel_rfl
theorem sd6:noRoadLSs {strict:=true,foot:=some Lw.bound',writes:=Lw.writes,may:=Lw.may} Lw.footing=true:=by kernel_rfl
theorem sd7:defStands Lw.about Lw.above=true:=by kernel_rfl
theorem sd8:Lw.namesIt=true:=by kernel_rfl
theorem sd9:((["type","isinstance","issubclass","getattr","hasattr"]:List PySem.Str).all (λn=>Lw.about != [n]))=true:=by kernel_rfl
theorem sd10:(Lw.bound'.all (λn=> !builtinNamed n||Lw.about==[n] || !Lw.reads n))=true:=by kernel_rfl
theorem sd11:(!Lw.writes||(Lw.prog.main.body.flatMap importedNames).all λn=> !Lw.reads n)=true:=by kernel_rfl
theorem sd12:((Lw.prog.main.body.flatMap importedNames).all (λn=> !Lw.reads n||(drawsOf n Lw.prog.main.body).all λmn=>mn.2 != ("attrgetter":PySem.Str)&&mn.2 != ("methodcaller":PySem.Str)))=true:=by kernel_rfl
theorem sd13:(namesMeet Lw.prog Lw.footing (λsc n=>(!(["type","isinstance","issubclass","getattr","hasattr"]:List PySem.Str).contains n||sc.names.lookup n==some .globalImplicit) &&
 (Lw.may != some n||sc.kind == .module||sc.names.lookup n==some .globalImplicit)))=true:=by kernel_rfl
theorem sd14:Lw.own.contains Lw.name=true:=by kernel_rfl
theorem sd15:(Lw.own.eraseDups.length==Lw.own.length)=true:=by kernel_rfl
theorem sd16:(Lw.own.all (λn=> !builtinNamed n))=true:=by kernel_rfl
theorem sd17:(namesMeet Lw.prog Lw.above (λ_ n=> !Lw.own.contains n))=true:=by kernel_rfl
theorem sd18:(namesMeet Lw.prog Lw.footing λsc n=>sc.kind == .module||sc.names.lookup n != some .globalExplicit)=true:=by kernel_rfl
theorem said:Lw.wellSaid=true:=look_both (look_both (look_both (look_both (look_both (look_both (look_both (look_both (look_both (look_both (look_both (look_both (look_both (look_both (look_both (look_both (look_both (look_both sc sd1) sd2) sd3) sd4) sd5) sd6) sd7) sd8) sd9) sd10) sd11) sd12) sd13) sd14) sd15) sd16) sd17) sd18
theorem B7 {P a b:Prop} (h:a/\b) (k:a->b->P):P:=k h.1 h.2
theorem E6 {P a0 a1 a2:Prop} (h:a0/\a1/\a2) (k:a0->a1->a2->P):P:=B7 h.2 (k h.1)
theorem R7 {P a0 a1 a2 a3:Prop} (h:a0/\a1/\a2/\a3) (k:a0->a1->a2->a3->P):P:=E6 h.2 (k h.1)
theorem un5 {P a0 a1 a2 a3 a4:Prop} (h:a0/\a1/\a2/\a3/\a4) (k:a0->a1->a2->a3->a4->P):P:=R7 h.2 (k h.1)
theorem un6 {P a0 a1 a2 a3 a4 a5:Prop} (h:a0/\a1/\a2/\a3/\a4/\a5) (k:a0->a1->a2->a3->a4->a5->P):P:=un5 h.2 (k h.1)
theorem un7 {P a0 a1 a2 a3 a4 a5 a6:Prop} (h:a0/\a1/\a2/\a3/\a4/\a5/\a6) (k:a0->a1->a2->a3->a4->a5->a6->P):P:=un6 h.2 (k h.1)
theorem un8 {P a0 a1 a2 a3 a4 a5 a6 a7:Prop} (h:a0/\a1/\a2/\a3/\a4/\a5/\a6/\a7) (k:a0->a1->a2->a3->a4->a5->a6->a7->P):P:=un7 h.2 (k h.1)
theorem un9 {P a0 a1 a2 a3 a4 a5 a6 a7 a8:Prop} (h:a0/\a1/\a2/\a3/\a4/\a5/\a6/\a7/\a8) (k:a0->a1->a2->a3->a4->a5->a6->a7->a8->P):P:=un8 h.2 (k h.1)
theorem un10 {P a0 a1 a2 a3 a4 a5 a6 a7 a8 a9:Prop} (h:a0/\a1/\a2/\a3/\a4/\a5/\a6/\a7/\a8/\a9) (k:a0->a1->a2->a3->a4->a5->a6->a7->a8->a9->P):P:=un9 h.2 (k h.1)
theorem un11 {P a0 a1 a2 a3 a4 a5 a6 a7 a8 a9 a10:Prop} (h:a0/\a1/\a2/\a3/\a4/\a5/\a6/\a7/\a8/\a9/\a10) (k:a0->a1->a2->a3->a4->a5->a6->a7->a8->a9->a10->P):P:=un10 h.2 (k h.1)
theorem un12 {P a0 a1 a2 a3 a4 a5 a6 a7 a8 a9 a10 a11:Prop} (h:a0/\a1/\a2/\a3/\a4/\a5/\a6/\a7/\a8/\a9/\a10/\a11) (k:a0->a1->a2->a3->a4->a5->a6->a7->a8->a9->a10->a11->P):P:=un11 h.2 (k h.1)
theorem un13 {P a0 a1 a2 a3 a4 a5 a6 a7 a8 a9 a10 a11 a12:Prop} (h:a0/\a1/\a2/\a3/\a4/\a5/\a6/\a7/\a8/\a9/\a10/\a11/\a12) (k:a0->a1->a2->a3->a4->a5->a6->a7->a8->a9->a10->a11->a12->P):P:=un12 h.2 (k h.1)
theorem un14 {P a0 a1 a2 a3 a4 a5 a6 a7 a8 a9 a10 a11 a12 a13:Prop} (h:a0/\a1/\a2/\a3/\a4/\a5/\a6/\a7/\a8/\a9/\a10/\a11/\a12/\a13) (k:a0->a1->a2->a3->a4->a5->a6->a7->a8->a9->a10->a11->a12->a13->P):P:=un13 h.2 (k h.1)
theorem un15 {P a0 a1 a2 a3 a4 a5 a6 a7 a8 a9 a10 a11 a12 a13 a14:Prop} (h:a0/\a1/\a2/\a3/\a4/\a5/\a6/\a7/\a8/\a9/\a10/\a11/\a12/\a13/\a14) (k:a0->a1->a2->a3->a4->a5->a6->a7->a8->a9->a10->a11->a12->a13->a14->P):P:=un14 h.2 (k h.1)
theorem un16 {P a0 a1 a2 a3 a4 a5 a6 a7 a8 a9 a10 a11 a12 a13 a14 a15:Prop} (h:a0/\a1/\a2/\a3/\a4/\a5/\a6/\a7/\a8/\a9/\a10/\a11/\a12/\a13/\a14/\a15) (k:a0->a1->a2->a3->a4->a5->a6->a7->a8->a9->a10->a11->a12->a13->a14->a15->P):P:=un15 h.2 (k h.1)
theorem un17 {P a0 a1 a2 a3 a4 a5 a6 a7 a8 a9 a10 a11 a12 a13 a14 a15 a16:Prop} (h:a0/\a1/\a2/\a3/\a4/\a5/\a6/\a7/\a8/\a9/\a10/\a11/\a12/\a13/\a14/\a15/\a16) (k:a0->a1->a2->a3->a4->a5->a6->a7->a8->a9->a10->a11->a12->a13->a14->a15->a16->P):P:=un16 h.2 (k h.1)
theorem un18 {P a0 a1 a2 a3 a4 a5 a6 a7 a8 a9 a10 a11 a12 a13 a14 a15 a16 a17:Prop} (h:a0/\a1/\a2/\a3/\a4/\a5/\a6/\a7/\a8/\a9/\a10/\a11/\a12/\a13/\a14/\a15/\a16/\a17) (k:a0->a1->a2->a3->a4->a5->a6->a7->a8->a9->a10->a11->a12->a13->a14->a15->a16->a17->P):P:=un17 h.2 (k h.1)
theorem un19 {P a0 a1 a2 a3 a4 a5 a6 a7 a8 a9 a10 a11 a12 a13 a14 a15 a16 a17 a18:Prop} (h:a0/\a1/\a2/\a3/\a4/\a5/\a6/\a7/\a8/\a9/\a10/\a11/\a12/\a13/\a14/\a15/\a16/\a17/\a18) (k:a0->a1->a2->a3->a4->a5->a6->a7->a8->a9->a10->a11->a12->a13->a14->a15->a16->a17->a18->P):P:=un18 h.2 (k h.1)
theorem un20 {P a0 a1 a2 a3 a4 a5 a6 a7 a8 a9 a10 a11 a12 a13 a14 a15 a16 a17 a18 a19:Prop} (h:a0/\a1/\a2/\a3/\a4/\a5/\a6/\a7/\a8/\a9/\a10/\a11/\a12/\a13/\a14/\a15/\a16/\a17/\a18/\a19) (k:a0->a1->a2->a3->a4->a5->a6->a7->a8->a9->a10->a11->a12->a13->a14->a15->a16->a17->a18->a19->P):P:=un19 h.2 (k h.1)
theorem un21 {P a0 a1 a2 a3 a4 a5 a6 a7 a8 a9 a10 a11 a12 a13 a14 a15 a16 a17 a18 a19 a20:Prop} (h:a0/\a1/\a2/\a3/\a4/\a5/\a6/\a7/\a8/\a9/\a10/\a11/\a12/\a13/\a14/\a15/\a16/\a17/\a18/\a19/\a20) (k:a0->a1->a2->a3->a4->a5->a6->a7->a8->a9->a10->a11->a12->a13->a14->a15->a16->a17->a18->a19->a20->P):P:=un20 h.2 (k h.1)
theorem un22 {P a0 a1 a2 a3 a4 a5 a6 a7 a8 a9 a10 a11 a12 a13 a14 a15 a16 a17 a18 a19 a20 a21:Prop} (h:a0/\a1/\a2/\a3/\a4/\a5/\a6/\a7/\a8/\a9/\a10/\a11/\a12/\a13/\a14/\a15/\a16/\a17/\a18/\a19/\a20/\a21) (k:a0->a1->a2->a3->a4->a5->a6->a7->a8->a9->a10->a11->a12->a13->a14->a15->a16->a17->a18->a19->a20->a21->P):P:=un21 h.2 (k h.1)
theorem C1 {P:Prop} {α0:Type} {p:α0->Prop} (h:∃x0,p x0) (k:∀x0,p x0->P):P:=Exists.elim h k
theorem J8 {P:Prop} {α0 α1:Type} {p:α0->α1->Prop} (h:∃x0 x1,p x0 x1) (k:∀x0 x1,p x0 x1->P):P:=Exists.elim h λx h=>C1 h (k x)
theorem Q0 {P:Prop} {α0 α1 α2:Type} {p:α0->α1->α2->Prop} (h:∃x0 x1 x2,p x0 x1 x2) (k:∀x0 x1 x2,p x0 x1 x2->P):P:=Exists.elim h λx h=>J8 h (k x)
theorem R6 {P:Prop} {α0 α1 α2 α3:Type} {p:α0->α1->α2->α3->Prop} (h:∃x0 x1 x2 x3,p x0 x1 x2 x3) (k:∀x0 x1 x2 x3,p x0 x1 x2 x3->P):P:=Exists.elim h λx h=>Q0 h (k x)
theorem ux5 {P:Prop} {α0 α1 α2 α3 α4:Type} {p:α0->α1->α2->α3->α4->Prop} (h:∃x0 x1 x2 x3 x4,p x0 x1 x2 x3 x4) (k:∀x0 x1 x2 x3 x4,p x0 x1 x2 x3 x4->P):P:=Exists.elim h λx h=>R6 h (k x)
theorem ux6 {P:Prop} {α0 α1 α2 α3 α4 α5:Type} {p:α0->α1->α2->α3->α4->α5->Prop} (h:∃x0 x1 x2 x3 x4 x5,p x0 x1 x2 x3 x4 x5) (k:∀x0 x1 x2 x3 x4 x5,p x0 x1 x2 x3 x4 x5->P):P:=Exists.elim h λx h=>ux5 h (k x)
theorem ux7 {P:Prop} {α0 α1 α2 α3 α4 α5 α6:Type} {p:α0->α1->α2->α3->α4->α5->α6->Prop} (h:∃x0 x1 x2 x3 x4 x5 x6,p x0 x1 x2 x3 x4 x5 x6) (k:∀x0 x1 x2 x3 x4 x5 x6,p x0 x1 x2 x3 x4 x5 x6->P):P:=Exists.elim h λx h=>ux6 h (k x)
theorem ux8 {P:Prop} {α0 α1 α2 α3 α4 α5 α6 α7:Type} {p:α0->α1->α2->α3->α4->α5->α6->α7->Prop} (h:∃x0 x1 x2 x3 x4 x5 x6 x7,p x0 x1 x2 x3 x4 x5 x6 x7) (k:∀x0 x1 x2 x3 x4 x5 x6 x7,p x0 x1 x2 x3 x4 x5 x6 x7->P):P:=Exists.elim h λx h=>ux7 h (k x)
theorem ux9 {P:Prop} {α0 α1 α2 α3 α4 α5 α6 α7 α8:Type} {p:α0->α1->α2->α3->α4->α5->α6->α7->α8->Prop} (h:∃x0 x1 x2 x3 x4 x5 x6 x7 x8,p x0 x1 x2 x3 x4 x5 x6 x7 x8) (k:∀x0 x1 x2 x3 x4 x5 x6 x7 x8,p x0 x1 x2 x3 x4 x5 x6 x7 x8->P):P:=Exists.elim h λx h=>ux8 h (k x)
theorem ux10 {P:Prop} {α0 α1 α2 α3 α4 α5 α6 α7 α8 α9:Type} {p:α0->α1->α2->α3->α4->α5->α6->α7->α8->α9->Prop} (h:∃x0 x1 x2 x3 x4 x5 x6 x7 x8 x9,p x0 x1 x2 x3 x4 x5 x6 x7 x8 x9) (k:∀x0 x1 x2 x3 x4 x5 x6 x7 x8 x9,p x0 x1 x2 x3 x4 x5 x6 x7 x8 x9->P):P:=Exists.elim h λx h=>ux9 h (k x)
theorem ux11 {P:Prop} {α0 α1 α2 α3 α4 α5 α6 α7 α8 α9 ab5:Type} {p:α0->α1->α2->α3->α4->α5->α6->α7->α8->α9->ab5->Prop} (h:∃x0 x1 x2 x3 x4 x5 x6 x7 x8 x9 x10,p x0 x1 x2 x3 x4 x5 x6 x7 x8 x9 x10) (k:∀x0 x1 x2 x3 x4 x5 x6 x7 x8 x9 x10,p x0 x1 x2 x3 x4 x5 x6 x7 x8 x9 x10->P):P:=Exists.elim h λx h=>ux10 h (k x)
theorem ux12 {P:Prop} {α0 α1 α2 α3 α4 α5 α6 α7 α8 α9 ab5 ac1:Type} {p:α0->α1->α2->α3->α4->α5->α6->α7->α8->α9->ab5->ac1->Prop} (h:∃x0 x1 x2 x3 x4 x5 x6 x7 x8 x9 x10 x11,p x0 x1 x2 x3 x4 x5 x6 x7 x8 x9 x10 x11) (k:∀x0 x1 x2 x3 x4 x5 x6 x7 x8 x9 x10 x11,p x0 x1 x2 x3 x4 x5 x6 x7 x8 x9 x10 x11->P):P:=Exists.elim h λx h=>ux11 h (k x)
theorem ux13 {P:Prop} {α0 α1 α2 α3 α4 α5 α6 α7 α8 α9 ab5 ac1 ad3:Type} {p:α0->α1->α2->α3->α4->α5->α6->α7->α8->α9->ab5->ac1->ad3->Prop} (h:∃x0 x1 x2 x3 x4 x5 x6 x7 x8 x9 x10 x11 x12,p x0 x1 x2 x3 x4 x5 x6 x7 x8 x9 x10 x11 x12) (k:∀x0 x1 x2 x3 x4 x5 x6 x7 x8 x9 x10 x11 x12,p x0 x1 x2 x3 x4 x5 x6 x7 x8 x9 x10 x11 x12->P):P:=Exists.elim h λx h=>ux12 h (k x)
theorem ux14 {P:Prop} {α0 α1 α2 α3 α4 α5 α6 α7 α8 α9 ab5 ac1 ad3 ae1:Type} {p:α0->α1->α2->α3->α4->α5->α6->α7->α8->α9->ab5->ac1->ad3->ae1->Prop} (h:∃x0 x1 x2 x3 x4 x5 x6 x7 x8 x9 x10 x11 x12 x13,p x0 x1 x2 x3 x4 x5 x6 x7 x8 x9 x10 x11 x12 x13) (k:∀x0 x1 x2 x3 x4 x5 x6 x7 x8 x9 x10 x11 x12 x13,p x0 x1 x2 x3 x4 x5 x6 x7 x8 x9 x10 x11 x12 x13->P):P:=Exists.elim h λx h=>ux13 h (k x)
theorem bn2 {P:Prop} {a b:Bool} (h:(a&&b)=true) (k:a=true->b=true->P):P:=k ((Bool.and_eq_true a b).mp h).1 ((Bool.and_eq_true a b).mp h).2
theorem bn3 {P:Prop} {a0 a1 a2:Bool} (h:(a0&&a1&&a2)=true) (k:a0=true->a1=true->a2=true->P):P:=bn2 h λh x=>bn2 h λy0 y1=>k y0 y1 x
theorem bn4 {P:Prop} {a0 a1 a2 a3:Bool} (h:(a0&&a1&&a2&&a3)=true) (k:a0=true->a1=true->a2=true->a3=true->P):P:=bn2 h λh x=>bn3 h λy0 y1 y2=>k y0 y1 y2 x
theorem bn5 {P:Prop} {a0 a1 a2 a3 a4:Bool} (h:(a0&&a1&&a2&&a3&&a4)=true) (k:a0=true->a1=true->a2=true->a3=true->a4=true->P):P:=bn2 h λh x=>bn4 h λy0 y1 y2 y3=>k y0 y1 y2 y3 x
theorem bn6 {P:Prop} {a0 a1 a2 a3 a4 a5:Bool} (h:(a0&&a1&&a2&&a3&&a4&&a5)=true) (k:a0=true->a1=true->a2=true->a3=true->a4=true->a5=true->P):P:=bn2 h λh x=>bn5 h λy0 y1 y2 y3 y4=>k y0 y1 y2 y3 y4 x
theorem bn7 {P:Prop} {a0 a1 a2 a3 a4 a5 a6:Bool} (h:(a0&&a1&&a2&&a3&&a4&&a5&&a6)=true) (k:a0=true->a1=true->a2=true->a3=true->a4=true->a5=true->a6=true->P):P:=bn2 h λh x=>bn6 h λy0 y1 y2 y3 y4 y5=>k y0 y1 y2 y3 y4 y5 x
theorem bn8 {P:Prop} {a0 a1 a2 a3 a4 a5 a6 a7:Bool} (h:(a0&&a1&&a2&&a3&&a4&&a5&&a6&&a7)=true) (k:a0=true->a1=true->a2=true->a3=true->a4=true->a5=true->a6=true->a7=true->P):P:=bn2 h λh x=>bn7 h λy0 y1 y2 y3 y4 y5 y6=>k y0 y1 y2 y3 y4 y5 y6 x
theorem bn9 {P:Prop} {a0 a1 a2 a3 a4 a5 a6 a7 a8:Bool} (h:(a0&&a1&&a2&&a3&&a4&&a5&&a6&&a7&&a8)=true) (k:a0=true->a1=true->a2=true->a3=true->a4=true->a5=true->a6=true->a7=true->a8=true->P):P:=bn2 h λh x=>bn8 h λy0 y1 y2 y3 y4 y5 y6 y7=>k y0 y1 y2 y3 y4 y5 y6 y7 x
theorem bn10 {P:Prop} {a0 a1 a2 a3 a4 a5 a6 a7 a8 a9:Bool} (h:(a0&&a1&&a2&&a3&&a4&&a5&&a6&&a7&&a8&&a9)=true) (k:a0=true->a1=true->a2=true->a3=true->a4=true->a5=true->a6=true->a7=true->a8=true->a9=true->P):P:=bn2 h λh x=>bn9 h λy0 y1 y2 y3 y4 y5 y6 y7 y8=>k y0 y1 y2 y3 y4 y5 y6 y7 y8 x
theorem bn11 {P:Prop} {a0 a1 a2 a3 a4 a5 a6 a7 a8 a9 a10:Bool} (h:(a0&&a1&&a2&&a3&&a4&&a5&&a6&&a7&&a8&&a9&&a10)=true) (k:a0=true->a1=true->a2=true->a3=true->a4=true->a5=true->a6=true->a7=true->a8=true->a9=true->a10=true->P):P:=bn2 h λh x=>bn10 h λy0 y1 y2 y3 y4 y5 y6 y7 y8 y9=>k y0 y1 y2 y3 y4 y5 y6 y7 y8 y9 x
theorem bn12 {P:Prop} {a0 a1 a2 a3 a4 a5 a6 a7 a8 a9 a10 a11:Bool} (h:(a0&&a1&&a2&&a3&&a4&&a5&&a6&&a7&&a8&&a9&&a10&&a11)=true) (k:a0=true->a1=true->a2=true->a3=true->a4=true->a5=true->a6=true->a7=true->a8=true->a9=true->a10=true->a11=true->P):P:=bn2 h λh x=>bn11 h λy0 y1 y2 y3 y4 y5 y6 y7 y8 y9 y10=>k y0 y1 y2 y3 y4 y5 y6 y7 y8 y9 y10 x
theorem bn13 {P:Prop} {a0 a1 a2 a3 a4 a5 a6 a7 a8 a9 a10 a11 a12:Bool} (h:(a0&&a1&&a2&&a3&&a4&&a5&&a6&&a7&&a8&&a9&&a10&&a11&&a12)=true) (k:a0=true->a1=true->a2=true->a3=true->a4=true->a5=true->a6=true->a7=true->a8=true->a9=true->a10=true->a11=true->a12=true->P):P:=bn2 h λh x=>bn12 h λy0 y1 y2 y3 y4 y5 y6 y7 y8 y9 y10 y11=>k y0 y1 y2 y3 y4 y5 y6 y7 y8 y9 y10 y11 x
theorem bn14 {P:Prop} {a0 a1 a2 a3 a4 a5 a6 a7 a8 a9 a10 a11 a12 a13:Bool} (h:(a0&&a1&&a2&&a3&&a4&&a5&&a6&&a7&&a8&&a9&&a10&&a11&&a12&&a13)=true) (k:a0=true->a1=true->a2=true->a3=true->a4=true->a5=true->a6=true->a7=true->a8=true->a9=true->a10=true->a11=true->a12=true->a13=true->P):P:=bn2 h λh x=>bn13 h λy0 y1 y2 y3 y4 y5 y6 y7 y8 y9 y10 y11 y12=>k y0 y1 y2 y3 y4 y5 y6 y7 y8 y9 y10 y11 y12 x
theorem bn15 {P:Prop} {a0 a1 a2 a3 a4 a5 a6 a7 a8 a9 a10 a11 a12 a13 a14:Bool} (h:(a0&&a1&&a2&&a3&&a4&&a5&&a6&&a7&&a8&&a9&&a10&&a11&&a12&&a13&&a14)=true) (k:a0=true->a1=true->a2=true->a3=true->a4=true->a5=true->a6=true->a7=true->a8=true->a9=true->a10=true->a11=true->a12=true->a13=true->a14=true->P):P:=bn2 h λh x=>bn14 h λy0 y1 y2 y3 y4 y5 y6 y7 y8 y9 y10 y11 y12 y13=>k y0 y1 y2 y3 y4 y5 y6 y7 y8 y9 y10 y11 y12 y13 x
theorem bn16 {P:Prop} {a0 a1 a2 a3 a4 a5 a6 a7 a8 a9 a10 a11 a12 a13 a14 a15:Bool} (h:(a0&&a1&&a2&&a3&&a4&&a5&&a6&&a7&&a8&&a9&&a10&&a11&&a12&&a13&&a14&&a15)=true) (k:a0=true->a1=true->a2=true->a3=true->a4=true->a5=true->a6=true->a7=true->a8=true->a9=true->a10=true->a11=true->a12=true->a13=true->a14=true->a15=true->P):P:=bn2 h λh x=>bn15 h λy0 y1 y2 y3 y4 y5 y6 y7 y8 y9 y10 y11 y12 y13 y14=>k y0 y1 y2 y3 y4 y5 y6 y7 y8 y9 y10 y11 y12 y13 y14 x
theorem bn17 {P:Prop} {a0 a1 a2 a3 a4 a5 a6 a7 a8 a9 a10 a11 a12 a13 a14 a15 a16:Bool} (h:(a0&&a1&&a2&&a3&&a4&&a5&&a6&&a7&&a8&&a9&&a10&&a11&&a12&&a13&&a14&&a15&&a16)=true) (k:a0=true->a1=true->a2=true->a3=true->a4=true->a5=true->a6=true->a7=true->a8=true->a9=true->a10=true->a11=true->a12=true->a13=true->a14=true->a15=true->a16=true->P):P:=bn2 h λh x=>bn16 h λy0 y1 y2 y3 y4 y5 y6 y7 y8 y9 y10 y11 y12 y13 y14 y15=>k y0 y1 y2 y3 y4 y5 y6 y7 y8 y9 y10 y11 y12 y13 y14 y15 x
theorem bn18 {P:Prop} {a0 a1 a2 a3 a4 a5 a6 a7 a8 a9 a10 a11 a12 a13 a14 a15 a16 a17:Bool} (h:(a0&&a1&&a2&&a3&&a4&&a5&&a6&&a7&&a8&&a9&&a10&&a11&&a12&&a13&&a14&&a15&&a16&&a17)=true) (k:a0=true->a1=true->a2=true->a3=true->a4=true->a5=true->a6=true->a7=true->a8=true->a9=true->a10=true->a11=true->a12=true->a13=true->a14=true->a15=true->a16=true->a17=true->P):P:=bn2 h λh x=>bn17 h λy0 y1 y2 y3 y4 y5 y6 y7 y8 y9 y10 y11 y12 y13 y14 y15 y16=>k y0 y1 y2 y3 y4 y5 y6 y7 y8 y9 y10 y11 y12 y13 y14 y15 y16 x
theorem bn19 {P:Prop} {a0 a1 a2 a3 a4 a5 a6 a7 a8 a9 a10 a11 a12 a13 a14 a15 a16 a17 a18:Bool} (h:(a0&&a1&&a2&&a3&&a4&&a5&&a6&&a7&&a8&&a9&&a10&&a11&&a12&&a13&&a14&&a15&&a16&&a17&&a18)=true) (k:a0=true->a1=true->a2=true->a3=true->a4=true->a5=true->a6=true->a7=true->a8=true->a9=true->a10=true->a11=true->a12=true->a13=true->a14=true->a15=true->a16=true->a17=true->a18=true->P):P:=bn2 h λh x=>bn18 h λy0 y1 y2 y3 y4 y5 y6 y7 y8 y9 y10 y11 y12 y13 y14 y15 y16 y17=>k y0 y1 y2 y3 y4 y5 y6 y7 y8 y9 y10 y11 y12 y13 y14 y15 y16 y17 x
theorem bnot {b:Bool} (h:(!b)=true):b=false:=by cases b with | false=>rfl | true=>exact h.symm
theorem oaI {α:Type} {o:Option α} {p:α->Bool} (h:o.any p=true) {P:Prop} (k:∀a,o=some a->p a=true->P):P:=by
 cases o with
 | none=>exact Bool.noConfusion h
 | some a=>exact k a rfl h
theorem nnx {α:Type} {P:Prop} {v:α} (h:none=some v):P:=nomatch h
theorem snx {α:Type} {P:Prop} {v:α} (h:some v=none):P:=nomatch h
theorem ftx {P:Prop} (h:false=true):P:=Bool.noConfusion h
theorem tfx {P:Prop} (h:true=false):P:=Bool.noConfusion h
theorem six {α:Type} {a b:α} (h:some a=some b):a=b:=Option.some.inj h
@[elab_as_elim] theorem rwx.{u} {α:Sort u} {a b:α} {p:α->Prop} (h:a=b) (x:p b):p a:=h▸x
inductive LE where | v (i:Nat) | k (n:Nat) | a (x y:LE) | m (n:Nat) (x:LE)
noncomputable instance:Add LE:=⟨LE.a⟩
noncomputable instance (n:Nat):OfNat LE n:=⟨.k n⟩
noncomputable def X0:LE:=.v 0
noncomputable def X1:LE:=.v 1
noncomputable def X2:LE:=.v 2
noncomputable def X3:LE:=.v 3
noncomputable def X4:LE:=.v 4
noncomputable def X5:LE:=.v 5
noncomputable def la:List Nat->List Nat->List Nat
 | [],y=>y
 | x::xs,[]=>x::xs
 | x::xs,y::ys=>(x+y)::la xs ys
noncomputable def lm (n:Nat):List Nat->List Nat
 | []=>[]
 | x::xs=>(n*x)::lm n xs
noncomputable def lu:Nat->List Nat
 | 0=>[1]
 | n+1=>0::lu n
noncomputable def LE.nf:LE->List Nat
 | .v i=>0::lu i
 | .k n=>[n]
 | .a x y=>la x.nf y.nf
 | .m n x=>lm n x.nf
noncomputable def ll:List Nat->List Nat->Bool
 | [],_=>true
 | x::xs,[]=>x==0&&ll xs []
 | x::xs,y::ys=>Nat.ble x y&&ll xs ys
noncomputable def at0:List Nat->Nat->Nat
 | [],_=>0
 | x::_,0=>x
 | _::xs,i+1=>at0 xs i
noncomputable def LE.den (c:List Nat):LE->Nat
 | .v i=>at0 c i
 | .k n=>n
 | .a x y=>x.den c+y.den c
 | .m n x=>n*x.den c
noncomputable def dot:List Nat->List Nat->Nat
 | [],_=>0
 | _::_,[]=>0
 | x::xs,c::cs=>x*c+dot xs cs
theorem dot_la (x y c:List Nat):dot (la x y) c=dot x c+dot y c:=by
 induction x generalizing y c with
 | nil=>cases c <;> exact (Nat.zero_add _).symm
 | cons a x ih=>cases y with
  | nil=>cases c <;> rfl
  | cons b y=>cases c with
   | nil=>rfl
   | cons c cs=>show (a+b)*c+dot (la x y) cs=(a*c+dot x cs)+(b*c+dot y cs);rw [ih,Nat.add_mul,Nat.add_add_add_comm]
theorem dot_lm (n:Nat) (x c:List Nat):dot (lm n x) c=n*dot x c:=by
 induction x generalizing c with
 | nil=>cases c <;> rfl
 | cons a x ih=>cases c with
  | nil=>rfl
  | cons c cs=>show n*a*c+dot (lm n x) cs=n*(a*c+dot x cs);rw [ih,Nat.mul_add,Nat.mul_assoc]
theorem dot_lu (i:Nat) (c:List Nat):dot (lu i) c=at0 c i:=by
 induction i generalizing c with
 | zero=>cases c with
  | nil=>rfl
  | cons x c=>show 1*x+dot [] c=x;rw [Nat.one_mul];cases c <;> rfl
 | succ i ih=>cases c with
  | nil=>rfl
  | cons x c=>show 0*x+dot (lu i) c=at0 c i;rw [Nat.zero_mul,Nat.zero_add,ih]
theorem dot_ll (x y c:List Nat) (h:ll x y=true):dot x c<=dot y c:=by
 induction x generalizing y c with
 | nil=>cases c <;> exact Nat.zero_le _
 | cons a x ih=>cases y with
  | nil=>
   have h1:=(Bool.and_eq_true _ _).mp h
   cases c with
   | nil=>exact Nat.le_refl _
   | cons c cs=>
    have:=ih [] cs h1.2
    have e:dot [] cs=0:=by cases cs <;> rfl
    rw [e] at this
    show a*c+dot x cs<=0
    rw [eq_of_beq h1.1,Nat.zero_mul,Nat.zero_add];exact this
  | cons b y=>
   have h1:=(Bool.and_eq_true _ _).mp h
   cases c with
   | nil=>exact Nat.le_refl _
   | cons c cs=>exact Nat.add_le_add (Nat.mul_le_mul_right c (Nat.le_of_ble_eq_true h1.1)) (ih y cs h1.2)
theorem LE.nf_ok (c:List Nat) (e:LE):e.den c=dot e.nf (1::c):=by
 induction e with
 | v i=>show at0 c i=0*1+dot (lu i) c;rw [dot_lu,Nat.zero_mul,Nat.zero_add]
 | k n=>show n=n*1+dot [] c;rw [Nat.mul_one];cases c <;> rfl
 | a x y hx hy=>show x.den c+y.den c=dot (la x.nf y.nf) (1::c);rw [dot_la,hx,hy]
 | m n x hx=>show n*x.den c=dot (lm n x.nf) (1::c);rw [dot_lm,hx]
theorem ln0 (c:List Nat) (l r:LE) (h:ll l.nf r.nf=true):l.den c<=r.den c:=by rw [LE.nf_ok,LE.nf_ok];exact dot_ll _ _ _ h
theorem J6 (c:List Nat) (l r a b:LE) (h:ll (l+b).nf (r+a).nf=true) (h1:a.den c<=b.den c):l.den c<=r.den c:=
 Nat.le_of_add_le_add_right (Nat.le_trans (ln0 c (l+b) (r+a) h) (Nat.add_le_add_left h1 _))
theorem K8 (c:List Nat) (l r a b a' b':LE) (h:ll (l+(b+b')).nf (r+(a+a')).nf=true) (h1:a.den c<=b.den c) (h2:a'.den c<=b'.den c):l.den c<=r.den c:=
 J6 c l r (a+a') (b+b') h (Nat.add_le_add h1 h2)
theorem n9 (c:List Nat) (l r a b a' b' d d':LE) (h:ll (l+(b+(b'+d'))).nf (r+(a+(a'+d))).nf=true) (h1:a.den c<=b.den c) (h2:a'.den c<=b'.den c) (h3:d.den c<=d'.den c):l.den c<=r.den c:=
 K8 c l r a b (a'+d) (b'+d') h h1 (Nat.add_le_add h2 h3)
theorem ln4 (c:List Nat) (l r a b a' b' d d' e e':LE) (h:ll (l+(b+(b'+(d'+e')))).nf (r+(a+(a'+(d+e)))).nf=true) (h1:a.den c<=b.den c) (h2:a'.den c<=b'.den c) (h3:d.den c<=d'.den c) (h4:e.den c<=e'.den c):l.den c<=r.den c:=
 n9 c l r a b a' b' (d+e) (d'+e') h h1 h2 (Nat.add_le_add h3 h4)
theorem ln5 (c:List Nat) (l r a b a' b' d d' e e' f f':LE) (h:ll (l+(b+(b'+(d'+(e'+f'))))).nf (r+(a+(a'+(d+(e+f))))).nf=true) (h1:a.den c<=b.den c) (h2:a'.den c<=b'.den c) (h3:d.den c<=d'.den c) (h4:e.den c<=e'.den c) (h5:f.den c<=f'.den c):l.den c<=r.den c:=
 ln4 c l r a b a' b' d d' (e+f) (e'+f') h h1 h2 h3 (Nat.add_le_add h4 h5)
theorem N2 {a b:Nat} (h:a<=b):(a:Int)<=b:=Int.ofNat_le.mpr h
theorem g9 {a b:Nat} (h:a<b):(a:Int)<b:=Int.ofNat_lt.mpr h
theorem Q9 {a b:Nat} (h:(a:Int)<=b):a<=b:=Int.ofNat_le.mp h
theorem Q8 (a:Nat):(0:Int)<=a:=Int.natCast_nonneg a
theorem J9 {a b:Nat} (h:a=b):a<=b:=Nat.le_of_eq h
theorem o0 {a b:Nat} (h:a=b):b<=a:=Nat.le_of_eq h.symm
theorem i0 {P:Prop} (h:1<=0):P:=absurd h (Nat.not_succ_le_zero 0)
inductive ZE where | v (i:Nat) | k (n:Nat) | a (x y:ZE) | m (n:Nat) (x:ZE) | g (x:ZE) | s (x y:ZE)
noncomputable instance:Add ZE:=⟨ZE.a⟩
noncomputable instance:Sub ZE:=⟨ZE.s⟩
noncomputable instance (n:Nat):OfNat ZE n:=⟨.k n⟩
noncomputable def Z0:ZE:=.v 0
noncomputable def Z1:ZE:=.v 1
noncomputable def Z2:ZE:=.v 2
noncomputable def Z3:ZE:=.v 3
noncomputable def Z4:ZE:=.v 4
noncomputable def za:List Int->List Int->List Int
 | [],y=>y
 | x::xs,[]=>x::xs
 | x::xs,y::ys=>(x+y)::za xs ys
noncomputable def zm (n:Int):List Int->List Int
 | []=>[]
 | x::xs=>(n*x)::zm n xs
noncomputable def zu:Nat->List Int
 | 0=>[1]
 | n+1=>0::zu n
noncomputable def ZE.nf:ZE->List Int
 | .v i=>0::zu i
 | .k n=>[n]
 | .a x y=>za x.nf y.nf
 | .m n x=>zm n x.nf
 | .g x=>zm (-1) x.nf
 | .s x y=>za x.nf (zm (-1) y.nf)
noncomputable def zz:List Int->Bool
 | []=>true
 | x::xs=>decide (x=0)&&zz xs
noncomputable def zlz:List Int->Bool
 | []=>true
 | x::xs=>decide (x<=0)&&zz xs
noncomputable def zat:List Int->Nat->Int
 | [],_=>0
 | x::_,0=>x
 | _::xs,i+1=>zat xs i
noncomputable def ZE.den (c:List Int):ZE->Int
 | .v i=>zat c i
 | .k n=>n
 | .a x y=>x.den c+y.den c
 | .m n x=>n*x.den c
 | .g x=> -x.den c
 | .s x y=>x.den c-y.den c
noncomputable def T5:List Int->List Int->Int
 | [],_=>0
 | _::_,[]=>0
 | x::xs,c::cs=>x*c+T5 xs cs
theorem Dg5 (x y c:List Int):T5 (za x y) c=T5 x c+T5 y c:=by
 induction x generalizing y c with
 | nil=>cases c <;> exact (Int.zero_add _).symm
 | cons a x ih=>cases y with
  | nil=>cases c <;> exact (Int.add_zero _).symm
  | cons b y=>cases c with
   | nil=>rfl
   | cons c cs=>show (a+b)*c+T5 (za x y) cs=(a*c+T5 x cs)+(b*c+T5 y cs);rw [ih,Int.add_mul,Int.add_assoc,Int.add_assoc,Int.add_left_comm (b*c)]
theorem Cb6 (n:Int) (x c:List Int):T5 (zm n x) c=n*T5 x c:=by
 induction x generalizing c with
 | nil=>cases c <;> exact (Int.mul_zero n).symm
 | cons a x ih=>cases c with
  | nil=>exact (Int.mul_zero n).symm
  | cons c cs=>show n*a*c+T5 (zm n x) cs=n*(a*c+T5 x cs);rw [ih,Int.mul_add,Int.mul_assoc]
theorem zdot_u (i:Nat) (c:List Int):T5 (zu i) c=zat c i:=by
 induction i generalizing c with
 | zero=>cases c with
  | nil=>rfl
  | cons x c=>show 1*x+T5 [] c=x;rw [Int.one_mul];cases c <;> exact Int.add_zero x
 | succ i ih=>cases c with
  | nil=>rfl
  | cons x c=>show 0*x+T5 (zu i) c=zat c i;rw [Int.zero_mul,Int.zero_add,ih]
theorem zdot_z (x c:List Int) (h:zz x=true):T5 x c=0:=by
 induction x generalizing c with
 | nil=>cases c <;> rfl
 | cons a x ih=>
  have h1:=(Bool.and_eq_true _ _).mp h
  cases c with
  | nil=>rfl
  | cons c cs=>show a*c+T5 x cs=0;rw [ih cs h1.2,of_decide_eq_true h1.1,Int.zero_mul];rfl
theorem zdot_l (x c:List Int) (h:zlz x=true):T5 x (1::c)<=0:=by
 cases x with
 | nil=>exact Int.le_refl 0
 | cons a x=>
  have h1:=(Bool.and_eq_true _ _).mp h
  show a*1+T5 x c<=0
  rw [zdot_z x c h1.2,Int.mul_one,Int.add_zero];exact of_decide_eq_true h1.1
theorem zdot_k (a:Int) (c:List Int):T5 [a] (1::c)=a:=by show a*1+T5 [] c=a;rw [Int.mul_one];cases c <;> exact Int.add_zero a
theorem ZE.nf_ok (c:List Int) (e:ZE):e.den c=T5 e.nf (1::c):=by
 induction e with
 | v i=>show zat c i=0*1+T5 (zu i) c;rw [zdot_u,Int.zero_mul,Int.zero_add]
 | k n=>exact (zdot_k _ c).symm
 | a x y hx hy=>show x.den c+y.den c=T5 (za x.nf y.nf) (1::c);rw [Dg5,hx,hy]
 | m n x hx=>show n*x.den c=T5 (zm n x.nf) (1::c);rw [Cb6,hx]
 | g x hx=>show -x.den c=T5 (zm (-1) x.nf) (1::c);rw [Cb6,hx,Int.neg_one_mul]
 | s x y hx hy=>show x.den c-y.den c=T5 (za x.nf (zm (-1) y.nf)) (1::c);rw [Dg5,Cb6,hx,hy,Int.neg_one_mul];rfl
theorem lz0 (c:List Int) (l r:ZE) (h:zlz (l-r).nf=true):l.den c<=r.den c:=Int.le_of_sub_nonpos (by
 show (l-r).den c<=0
 rw [ZE.nf_ok];exact zdot_l _ _ h)
theorem J5 (c:List Int) (l r a b:ZE) (h:zlz ((l+b)-(r+a)).nf=true) (h1:a.den c<=b.den c):l.den c<=r.den c:=
 Int.le_of_add_le_add_right (Int.le_trans (lz0 c (l+b) (r+a) h) (Int.add_le_add_left h1 _))
theorem M6 (c:List Int) (l r a b a' b':ZE) (h:zlz ((l+(b+b'))-(r+(a+a'))).nf=true) (h1:a.den c<=b.den c) (h2:a'.den c<=b'.den c):l.den c<=r.den c:=
 J5 c l r (a+a') (b+b') h (Int.add_le_add h1 h2)
theorem lz3 (c:List Int) (l r a b a' b' d d':ZE) (h:zlz ((l+(b+(b'+d')))-(r+(a+(a'+d)))).nf=true) (h1:a.den c<=b.den c) (h2:a'.den c<=b'.den c) (h3:d.den c<=d'.den c):l.den c<=r.den c:=
 M6 c l r a b (a'+d) (b'+d') h h1 (Int.add_le_add h2 h3)
theorem lz4 (c:List Int) (l r a b a' b' d d' e e':ZE) (h:zlz ((l+(b+(b'+(d'+e'))))-(r+(a+(a'+(d+e))))).nf=true) (h1:a.den c<=b.den c) (h2:a'.den c<=b'.den c) (h3:d.den c<=d'.den c) (h4:e.den c<=e'.den c):l.den c<=r.den c:=
 lz3 c l r a b a' b' (d+e) (d'+e') h h1 h2 (Int.add_le_add h3 h4)
theorem z10 {P:Prop} (h:(1:Int)<=0):P:=absurd h (by decide)
theorem mod2 {a:Nat} (h:¬a%2=1):a%2<=0:=Nat.le_of_lt_succ (Nat.lt_of_le_of_ne (Nat.le_of_lt_succ (Nat.mod_lt a (by decide))) h)
theorem Ea4 {a:Nat}:a%2<=1:=Nat.le_of_lt_succ (Nat.mod_lt a (by decide))
theorem W4 {a:Int}: -a<=(a.natAbs:Int):=Int.natAbs_neg a▸(Int.le_natAbs: -a<=((-a).natAbs:Int))
theorem v5 {a b:Nat}:a<=a-b+b:=(Nat.le_total b a).elim (λh=>J9 (Nat.sub_add_cancel h).symm) (λh=>Nat.le_trans h (Nat.le_add_left b _))
theorem evz {a:Nat} (h:¬a%2=1):a%2=0:=Nat.le_zero.mp (mod2 h)
theorem od {a:Nat} (h:a%2=1):a=2*(a/2)+1:=(Nat.div_add_mod a 2).symm.trans (congrArg (2*(a/2) + ·) h)
theorem ev {a:Nat} (h:¬a%2=1):a=2*(a/2):=(Nat.div_add_mod a 2).symm.trans (congrArg (2*(a/2) + ·) (evz h))
theorem o1 {a b:Nat} (h0:a+5<=b):a+3<=b:=J6 [a,b] (X0+3) X1 (X0+5) X1 rfl h0
theorem o2 {a b c d:Nat} (h0:a+d<=c) (h1:b+9<=d):a+b<=c:=K8 [a,b,c,d] (X0+X1) X2 (X0+X3) X2 (X1+9) X3 rfl h0 h1
theorem o3 {a b c:Nat} (h0:a+3*(b+1)+3<=c):a+1+3*b+5<=c:=J6 [a,b,c] (((X0+1)+(LE.m 3 X1))+5) X2 ((X0+(LE.m 3 (X1+1)))+3) X2 rfl h0
theorem o4 {a b c:Nat} (h0:a+40*(b+1)+60<=c):a+3+40*b+80<=c:=J6 [a,b,c] (((X0+3)+(LE.m 40 X1))+80) X2 ((X0+(LE.m 40 (X1+1)))+60) X2 rfl h0
theorem o5 {a:Int} (h0:a≠0):Int.natAbs a≠0:=Int.natAbs_ne_zero.mpr h0
theorem o6 {a b c:Nat} (h0:a<c) (h1:c+9<=b):a+1<=b:=K8 [a,b,c] (X0+1) X1 (X0+1) X2 (X2+9) X1 rfl h0 h1
theorem o7 {a:Nat}:a<=a:=Nat.le_refl a
theorem o8 {a:Prop} (h0:a):a:=h0
theorem o9 {a b:Nat} (h0:a+1<=b):a<=b:=Nat.le_of_succ_le h0
theorem o10 {a b c:Nat} (h0:a<=c) (h1:c<=b):a<=b:=Nat.le_trans h0 h1
theorem o11 {a b:Nat} (h0:(a:Int)<(b:Int)):a<b:=Q9 (J5 [(a:Int),(b:Int)] (Z0+1) Z1 (Z0+1) Z1 rfl h0)
theorem o12 {a b:Int} (h0:¬(b=a)):¬(a=b):=λh=>h0 h.symm
theorem o14 {a:Int} (h0:0<=a):¬(a<0):=λh_=>z10 (M6 [a] 1 0 0 Z0 (Z0+1) 0 rfl h0 h_)
theorem o15 {a:Int} {b:Nat} (h0:0<=a) (h1:Int.toNat a<b):0<=a/\a<(b:Int):=⟨J5 [a] 0 Z0 0 Z0 rfl h0,M6 [a,(((Int.toNat a):Nat):Int),(b:Int)] (Z0+1) Z2 (Z1+1) Z2 Z0 Z1 rfl (g9 h1) (Int.self_le_toNat a)⟩
theorem o17 {a:Nat} (h0:a<=5):a+0+0<30:=J6 [a] (((X0+0)+0)+1) 30 X0 5 rfl h0
theorem o18 {a b c:Nat} (h0:a<c) (h1:c+9<=b):a<=b:=K8 [a,b,c] X0 X1 (X0+1) X2 (X2+9) X1 rfl h0 h1
theorem o22:(1:Nat)<=(16777216:Nat):=Nat.le_of_ble_eq_true rfl
theorem o23 {a b c:Int} (h0:a<c) (h1:c+9<=b):a<=b:=M6 [a,b,c] Z0 Z1 (Z0+1) Z2 (Z2+9) Z1 rfl h0 h1
theorem o24 {a b c d:Nat} (h0:a+d<=c) (h1:b+9<=d):a+b<c:=K8 [a,b,c,d] ((X0+X1)+1) X2 (X0+X3) X2 (X1+9) X3 rfl h0 h1
theorem o25 {a b c d:Nat} (h0:a+d+b<=c):a+b<=c:=J6 [a,b,c,d] (X0+X1) X2 ((X0+X3)+X1) X2 rfl h0
theorem o26 {a b c:Nat} (h0:a+c+80<=b):a<b:=J6 [a,b,c] (X0+1) X1 ((X0+X2)+80) X1 rfl h0
theorem o27 {a b c d e:Nat} (h0:a+d+e<=c) (h1:b+9<=e):a+b<c:=K8 [a,b,c,d,e] ((X0+X1)+1) X2 ((X0+X3)+X4) X2 (X1+9) X4 rfl h0 h1
theorem o28 {a:Int} {b:Nat}:max 0 (min a (b:Int))=((min (Int.toNat a) b:Nat):Int):=(Int.le_total 0 a).elim (λh=>(Nat.le_total a.toNat b).elim (λk=>by rw [Nat.min_eq_left k,Int.min_eq_left (Int.toNat_le.mp k),Int.max_eq_right h,Int.toNat_of_nonneg h]) (λk=>by rw [Nat.min_eq_right k,Int.min_eq_right ((Int.le_toNat h).mp k),Int.max_eq_right (Q8 b)])) (λh=>by rw [Int.toNat_of_nonpos h,Nat.zero_min,Int.min_eq_left (Int.le_trans h (Q8 b)),Int.max_eq_left h];rfl)
theorem o29 {a:Nat}:a<=a+1+1:=ln0 [a] X0 ((X0+1)+1) rfl
theorem o30 {a:Nat}:a<=a+1:=Nat.le_succ a
theorem o31 {a b c:Nat} (h0:a<c) (h1:c+9<=b):1+a<=b:=K8 [a,b,c] (1+X0) X1 (X0+1) X2 (X2+9) X1 rfl h0 h1
theorem o32:(1:Nat)<=(1:Nat):=Nat.le_refl 1
theorem o33:(0:Nat)<=(1:Nat):=Nat.zero_le 1
theorem o36 {a b c d:Nat} (h0:a+c+5<=d) (h1:b<=2):a+b+c+3<=d:=K8 [a,b,c,d] (((X0+X1)+X2)+3) X3 ((X0+X2)+5) X3 X1 2 rfl h0 h1
theorem o37 {a b c d:Nat} (h0:a+c+80<=d) (h1:b<=20):a+b+c+60<=d:=K8 [a,b,c,d] (((X0+X1)+X2)+60) X3 ((X0+X2)+80) X3 X1 20 rfl h0 h1
theorem o38 {a b c:Int} (h0:a<=c) (h1:c<=b):a<=b:=Int.le_trans h0 h1
theorem o39 {a b:Int}:a<=b\/b<=a:=Int.le_total a b
theorem o40 {a:Int} (h0:a<0): -a=((Int.natAbs a:Nat):Int):=Int.le_antisymm (J5 [a,(((Int.natAbs a):Nat):Int)] (ZE.g Z0) Z1 (ZE.g Z0) Z1 rfl (@W4 a)) (J5 [a,(((Int.natAbs a):Nat):Int)] Z1 (ZE.g Z0) Z1 (ZE.g Z0) rfl (Int.le_of_eq (Int.ofNat_natAbs_of_nonpos (J5 [a] Z0 0 (Z0+1) 0 rfl h0))))
theorem o41 {a:Int} (h0:¬(a<0)):a=((Int.natAbs a:Nat):Int):=Int.le_antisymm (J5 [a,(((Int.natAbs a):Nat):Int)] Z0 Z1 Z0 Z1 rfl (@Int.le_natAbs a)) (J5 [a,(((Int.natAbs a):Nat):Int)] Z1 Z0 Z1 Z0 rfl (Int.le_of_eq (Int.natAbs_of_nonneg (J5 [a] 0 Z0 0 Z0 rfl (Int.not_lt.mp h0)))))
theorem o43 {a b c d:Nat} (h0:a=c) (h1:c<d) (h2:d+4<=b):a<b:=n9 [a,b,c,d] (X0+1) X1 X0 X2 (X2+1) X3 (X3+4) X1 rfl (J9 h0) h1 h2
theorem o44 {a b c:Nat} (h0:a<c) (h1:b=c):a<b:=K8 [a,b,c] (X0+1) X1 (X0+1) X2 X2 X1 rfl h0 (o0 h1)
theorem o46 {a b c:Nat} (h0:a<c) (h1:c=b):a<b:=K8 [a,b,c] (X0+1) X1 (X0+1) X2 X2 X1 rfl h0 (J9 h1)
theorem o47 {a b c:Nat} (h0:a+c+80<=b):a+1<b:=J6 [a,b,c] ((X0+1)+1) X1 ((X0+X2)+80) X1 rfl h0
theorem o48 {a:Int} (h0:0<=a):Int.natAbs a=Int.toNat a:=Nat.le_antisymm (Q9 (M6 [(((Int.natAbs a):Nat):Int),(((Int.toNat a):Nat):Int),a] Z0 Z1 Z0 Z2 Z2 Z1 rfl (Int.le_of_eq (Int.natAbs_of_nonneg (J5 [a] 0 Z0 0 Z0 rfl h0))) (Int.self_le_toNat a))) (Q9 (M6 [(((Int.natAbs a):Nat):Int),(((Int.toNat a):Nat):Int),a] Z1 Z0 Z2 Z0 Z1 Z2 rfl (@Int.le_natAbs a) (Int.le_of_eq (Int.toNat_of_nonneg (J5 [a] 0 Z0 0 Z0 rfl h0)))))
theorem o49 {a:Int} {b:Nat} (h0:¬(b<Int.toNat a)):a<=(b:Int):=M6 [a,(b:Int),(((Int.toNat a):Nat):Int)] Z0 Z1 Z2 Z1 Z0 Z2 rfl (N2 (Nat.not_lt.mp h0)) (Int.self_le_toNat a)
theorem o50 {a:Int} {b:Nat} (h0:¬(b<Int.toNat a)):a-(b:Int)<=0:=M6 [a,(b:Int),(((Int.toNat a):Nat):Int)] (Z0-Z1) 0 Z2 Z1 Z0 Z2 rfl (N2 (Nat.not_lt.mp h0)) (Int.self_le_toNat a)
theorem o51 {a b c:Nat} (h0:a=c) (h1:c<=b):a<=b:=h0▸h1
theorem o52 {a:Int} {b:Nat} (h0:b<Int.toNat a):0<a-(b:Int):=Int.sub_pos_of_lt (Int.lt_toNat.mp h0)
theorem o53 {a b c:Int}:a+(b+1*c)=a+b+c:=by rw [Int.one_mul,Int.add_assoc]
theorem o54 {a b:Int}:a-(b+1)=a-b-1:=Int.le_antisymm (lz0 [a,b] (Z0-(Z1+1)) ((Z0-Z1)-1) rfl) (lz0 [a,b] ((Z0-Z1)-1) (Z0-(Z1+1)) rfl)
theorem o57 {a:Int}:a-1+1=a:=Int.sub_add_cancel a 1
theorem o58:(0:Int)=(0:Int):=rfl
theorem o61 {a:Int} {b c d e:Prop} (h0:b/\c/\d/\e/\(a=1\/a = -1)):a≠0:=h0.2.2.2.2.elim (λh=>h▸by decide) (λh=>h▸by decide)
theorem o62 {a:Int} {b c d e:Prop} (h0:b/\c/\d/\e/\(a=1\/a = -1)):Int.natAbs a<1073741824:=h0.2.2.2.2.elim (λh=>h▸by decide) (λh=>h▸by decide)
theorem o63 {a b:Nat} (h0:a+80<=b):a+1<b:=J6 [a,b] ((X0+1)+1) X1 (X0+80) X1 rfl h0
theorem o64 {a b c:Nat} (h0:a+b=c+1) (h1:b<c):a-1<a:=J6 [(a-(1:Nat)),a] (X0+1) X1 (X0+1) X1 rfl (J9 (Nat.sub_add_cancel (K8 [a,b,c] 1 X0 (X2+1) (X0+X1) (X1+1) X2 rfl (o0 h0) h1)))
theorem o65 {a b c:Nat} (h0:a+b=c+1) (h1:b<c):a-1+(b+1)=c+1:=Nat.le_antisymm (K8 [(a-(1:Nat)),b,c,a] (X0+(X1+1)) (X2+1) (X3+X1) (X2+1) (X0+1) X3 rfl (J9 h0) (J9 (Nat.sub_add_cancel (K8 [a,b,c] 1 X0 (X2+1) (X0+X1) (X1+1) X2 rfl (o0 h0) h1)))) (K8 [(a-(1:Nat)),b,c,a] (X2+1) (X0+(X1+1)) (X2+1) (X3+X1) X3 (X0+1) rfl (o0 h0) (@v5 a (1:Nat)))
theorem o66 {a b c:Nat} (h0:a+c+3<=b):a<b:=J6 [a,b,c] (X0+1) X1 ((X0+X2)+3) X1 rfl h0
theorem o67 {a b:Int} {c d:Nat} (h0:a<(c:Int)) (h1:c<=d) (h2:b=(d:Int)):a<b:=lz3 [a,b,(c:Int),(d:Int)] (Z0+1) Z1 (Z0+1) Z2 Z2 Z3 Z3 Z1 rfl h0 (N2 h1) (Int.le_of_eq (Eq.symm h2))
theorem o68 {a b:Nat} (h0:a<=b):a<b+1:=Nat.lt_succ_of_le h0
theorem o69 {a b:Int} {c d:Nat} (h0:a<=(c:Int)) (h1:c<d) (h2:(d:Int)+9<=b):a<b:=lz3 [a,b,(c:Int),(d:Int)] (Z0+1) Z1 Z0 Z2 (Z2+1) Z3 (Z3+9) Z1 rfl h0 (g9 h1) h2
theorem o70 {a:Int} {b:Nat} (h0:a<=(b:Int)):Int.toNat a<=b:=Int.toNat_le.mpr h0
theorem o71 {a b:Nat} (h0:¬(b<a)):a<=b:=J6 [a,b] X0 X1 X0 X1 rfl (Nat.not_lt.mp h0)
theorem o72 {a b c:Nat} (h0:¬(b<c)):a=b->c<=a:=λh_=>K8 [c,a,b] X0 X1 X0 X2 X2 X1 rfl (Nat.not_lt.mp h0) (o0 h_)
theorem o73 {a:Nat}:0<=(a:Int):=J5 [(a:Int)] 0 Z0 0 Z0 rfl (Q8 a)
theorem o74 {a:Nat} {b:Int} {c d:Nat} (h0:a<c) (h1:c<d) (h2:b=(d:Int)):(a:Int)<b:=lz3 [(a:Int),b,(c:Int),(d:Int)] (Z0+1) Z1 (Z0+1) Z2 (Z2+1) Z3 Z3 Z1 rfl (g9 h0) (g9 h1) (Int.le_of_eq (Eq.symm h2))
theorem o75 {a b c d:Nat} (h0:a<c) (h1:c<=d) (h2:d+9<=b):a<b:=n9 [a,b,c,d] (X0+1) X1 (X0+1) X2 X2 X3 (X3+9) X1 rfl h0 h1 h2
theorem o76 {a b:Nat} (h0:a<=b):(a:Int)<((b+1:Nat):Int):=J5 [(a:Int),(b:Int)] (Z0+1) (Z1+1) Z0 Z1 rfl (N2 h0)
theorem o77 {a:Nat}:Int.toNat (a:Int)=a:=rfl
theorem o78 {a b:Nat} (h0:a<=b):(a:Int)<(b:Int)+1:=J5 [(a:Int),(b:Int)] (Z0+1) (Z1+1) Z0 Z1 rfl (N2 h0)
theorem o79 {a:Int} (h0:a<0):1-2*a=1+2*((Int.natAbs a:Nat):Int):=Int.le_antisymm (M6 [a,(((Int.natAbs a):Nat):Int)] (1-(ZE.m 2 Z0)) (1+(ZE.m 2 Z1)) (ZE.g Z0) Z1 (ZE.g Z0) Z1 rfl (@W4 a) (@W4 a)) (M6 [a,(((Int.natAbs a):Nat):Int)] (1+(ZE.m 2 Z1)) (1-(ZE.m 2 Z0)) Z1 (ZE.g Z0) Z1 (ZE.g Z0) rfl (Int.le_of_eq (Int.ofNat_natAbs_of_nonpos (J5 [a] Z0 0 (Z0+1) 0 rfl h0))) (Int.le_of_eq (Int.ofNat_natAbs_of_nonpos (J5 [a] Z0 0 (Z0+1) 0 rfl h0))))
theorem o80 {a:Int} (h0:¬(a<0)):2*a=2*((Int.natAbs a:Nat):Int):=Int.le_antisymm (M6 [a,(((Int.natAbs a):Nat):Int)] (ZE.m 2 Z0) (ZE.m 2 Z1) Z0 Z1 Z0 Z1 rfl (@Int.le_natAbs a) (@Int.le_natAbs a)) (M6 [a,(((Int.natAbs a):Nat):Int)] (ZE.m 2 Z1) (ZE.m 2 Z0) Z1 Z0 Z1 Z0 rfl (Int.le_of_eq (Int.natAbs_of_nonneg (J5 [a] 0 Z0 0 Z0 rfl (Int.not_lt.mp h0)))) (Int.le_of_eq (Int.natAbs_of_nonneg (J5 [a] 0 Z0 0 Z0 rfl (Int.not_lt.mp h0)))))
theorem o81 {a:Int} (h0:a<0):0 <= -a:=J5 [a] 0 (ZE.g Z0) (Z0+1) 0 rfl h0
theorem o82 {a:Int} {b:Nat} (h0:Int.natAbs a<=b): -a<=(b:Int):=Int.le_trans (@W4 a) (N2 h0)
theorem o83 {a:Int} (h0:a<0):Int.toNat (-a)=Int.natAbs a:=Nat.le_antisymm (Q9 (M6 [(((Int.toNat (-a)):Nat):Int),(((Int.natAbs a):Nat):Int),a] Z0 Z1 Z0 (ZE.g Z2) (ZE.g Z2) Z1 rfl (Int.le_of_eq (Int.toNat_of_nonneg (J5 [a] 0 (ZE.g Z0) (Z0+1) 0 rfl h0))) (@W4 a))) (Q9 (M6 [(((Int.toNat (-a)):Nat):Int),(((Int.natAbs a):Nat):Int),a] Z1 Z0 (ZE.g Z2) Z0 Z1 (ZE.g Z2) rfl (Int.self_le_toNat (-a)) (Int.le_of_eq (Int.ofNat_natAbs_of_nonpos (J5 [a] Z0 0 (Z0+1) 0 rfl h0)))))
theorem o84 {a:Int} (h0:¬(a<0)):0<=a:=J5 [a] 0 Z0 0 Z0 rfl (Int.not_lt.mp h0)
theorem o85 {a:Int} {b:Nat} (h0:Int.natAbs a<=b):a<=(b:Int):=M6 [a,(b:Int),(((Int.natAbs a):Nat):Int)] Z0 Z1 Z2 Z1 Z0 Z2 rfl (N2 h0) (@Int.le_natAbs a)
theorem o86 {a:Int} (h0:¬(a<0)):Int.toNat a=Int.natAbs a:=Nat.le_antisymm (Q9 (M6 [(((Int.toNat a):Nat):Int),(((Int.natAbs a):Nat):Int),a] Z0 Z1 Z0 Z2 Z2 Z1 rfl (Int.le_of_eq (Int.toNat_of_nonneg (J5 [a] 0 Z0 0 Z0 rfl (Int.not_lt.mp h0)))) (@Int.le_natAbs a))) (Q9 (M6 [(((Int.toNat a):Nat):Int),(((Int.natAbs a):Nat):Int),a] Z1 Z0 Z2 Z0 Z1 Z2 rfl (Int.self_le_toNat a) (Int.le_of_eq (Int.natAbs_of_nonneg (J5 [a] 0 Z0 0 Z0 rfl (Int.not_lt.mp h0))))))
theorem o87 {a b:Nat} (h0:a<=b):1+2*a<2*b+2:=K8 [a,b] ((1+(LE.m 2 X0))+1) ((LE.m 2 X1)+2) X0 X1 X0 X1 rfl h0 h0
theorem o88 {a b:Nat} (h0:a<=b):2*a<2*b+2:=K8 [a,b] ((LE.m 2 X0)+1) ((LE.m 2 X1)+2) X0 X1 X0 X1 rfl h0 h0
theorem o89 {a:Nat} (h0:a<1000):2*a+2<1000000:=K8 [a] (((LE.m 2 X0)+2)+1) 1000000 (X0+1) 1000 (X0+1) 1000 rfl h0 h0
theorem o90 {a b:Nat} (h0:a<b):a≠b:=λh_=>i0 (K8 [a,b] 1 0 (X0+1) X1 X1 X0 rfl h0 (o0 h_))
theorem o91 {a b:Nat} (h0:a<b+1) (h1:¬(a=b)):a<b:=Nat.lt_of_le_of_ne (Nat.le_of_lt_succ h0) h1
theorem o92 {a b:Nat} (h0:a<b):a<b+1:=Nat.lt_succ_of_lt h0
theorem o93 {a b:Nat} (h0:a<b):a+1<b+2:=J6 [a,b] ((X0+1)+1) (X1+2) (X0+1) X1 rfl h0
theorem o94 {a b:Nat} (h0:a<b):a<b+2:=J6 [a,b] (X0+1) (X1+2) (X0+1) X1 rfl h0
theorem o95 {a b c d:Nat} (h0:c+2<=d) (h1:a<c) (h2:d+9<=b):a<b:=n9 [a,b,c,d] (X0+1) X1 (X2+2) X3 (X0+1) X2 (X3+9) X1 rfl h0 h1 h2
theorem o96 {a b c:Nat} (h0:a<c) (h1:c+9<=b):a<b:=K8 [a,b,c] (X0+1) X1 (X0+1) X2 (X2+9) X1 rfl h0 h1
theorem o97 {a b:Nat} (h0:a<b+1):a<b+2:=J6 [a,b] (X0+1) (X1+2) (X0+1) (X1+1) rfl h0
theorem o98 {a b c:Nat} (h0:a+2<=c) (h1:c+9<=b):a+1<=b:=K8 [a,b,c] (X0+1) X1 (X0+2) X2 (X2+9) X1 rfl h0 h1
theorem o99 {a:Nat} {b c:Int} (h0:c+(a:Int)<b):a<Int.toNat (b-c):=Q9 (M6 [(a:Int),(((Int.toNat (b-c)):Nat):Int),c,b] (Z0+1) Z1 ((Z2+Z0)+1) Z3 (Z3-Z2) Z1 rfl h0 (Int.self_le_toNat (b-c)))
theorem o100 {a:Nat} {b c:Int} (h0:¬(c+(a:Int)<b)):¬(a<Int.toNat (b-c)):=λh=>h0 (Int.add_lt_of_lt_sub_left (Int.lt_toNat.mp h))
theorem o101 {a:Int} {b:Nat} {c:Int} (h0:¬(a<c)):¬(a+(b:Int)<c):=λh_=>z10 (lz3 [c,a,(b:Int)] 1 0 Z0 Z1 ((Z1+Z2)+1) Z0 0 Z2 rfl (Int.not_lt.mp h0) h_ (Q8 b))
theorem o102 {a b c d:Nat} (h0:c+1<=d) (h1:a<c) (h2:d+9<=b):a<b:=n9 [a,b,c,d] (X0+1) X1 (X2+1) X3 (X0+1) X2 (X3+9) X1 rfl h0 h1 h2
theorem o103 {a:Nat} (h0:a+1<=a):False:=i0 (J6 [a] 1 0 (X0+1) X0 rfl h0)
theorem o104 {a b:Nat} (h0:a<=b):min a b=a:=Nat.le_antisymm (J6 [(min a b),a] X0 X1 X0 X1 rfl (Nat.min_le_left a b)) (J6 [(min a b),a] X1 X0 X1 X0 rfl (Nat.le_min.mpr ⟨Nat.le_refl _,(J6 [a,b] X0 X1 X0 X1 rfl h0)⟩))
theorem o105 {a b c:Nat} (h0:b<c):min a b<c:=Nat.lt_of_le_of_lt (Nat.min_le_right a b) h0
theorem o106 {a b:Nat} (h0:a<=b):a+(b-a)<=b:=J9 (Nat.add_sub_of_le h0)
theorem o107 {a b:Nat} (h0:a<=b):a+(b-a)=b:=Nat.add_sub_of_le h0
theorem o108 {a:Int} {b:Nat}:a<a+((b:Int)+1):=J5 [a,(b:Int)] (Z0+1) (Z0+(Z1+1)) 0 Z1 rfl (Q8 b)
theorem o109 {a b c:Nat} (h0:a+(b+1)<=c):a+b<c:=J6 [a,b,c] ((X0+X1)+1) X2 (X0+(X1+1)) X2 rfl h0
theorem o110 {a b c d e:Nat} (h0:b<d) (h1:d<=e) (h2:e+9<=c):min a b<c:=ln4 [(min a b),c,b,d,e] (X0+1) X1 (X2+1) X3 X3 X4 (X4+9) X1 X0 X2 rfl h0 h1 h2 (Nat.min_le_right a b)
theorem o111 {a b:Nat} (h0:a<=b):(a:Int)<=(b:Int):=J5 [(a:Int),(b:Int)] Z0 Z1 Z0 Z1 rfl (N2 h0)
theorem o112 {a b:Nat} (h0:a<b):a<=b:=Nat.le_of_lt h0
theorem o113 {a b c:Nat} (h0:a+2<c) (h1:c+9<=b):a+1+1<b:=K8 [a,b,c] (((X0+1)+1)+1) X1 ((X0+2)+1) X2 (X2+9) X1 rfl h0 h1
theorem o114 {a:Int} {b:Nat} {c:Prop} {d:Nat} (h0:b<d) (h1:(d:Int)+9<=a): -a<2/\2<a /\ -a<(b:Int)/\(b:Int)<a/\((1:Int)=(1:Int)\/c):=⟨M6 [a,(d:Int)] ((ZE.g Z0)+1) 2 (Z1+9) Z0 0 Z1 rfl h1 (Q8 d),⟨M6 [a,(d:Int)] (2+1) Z0 (Z1+9) Z0 0 Z1 rfl h1 (Q8 d),⟨lz3 [a,(b:Int),(d:Int)] ((ZE.g Z0)+1) Z1 (Z2+9) Z0 0 Z1 0 Z2 rfl h1 (Q8 b) (Q8 d),⟨M6 [a,(b:Int),(d:Int)] (Z1+1) Z0 (Z1+1) Z2 (Z2+9) Z0 rfl (g9 h0) h1,Or.inl (rfl)⟩⟩⟩⟩
theorem o115 {a b:Nat} (h0:a<=b) (h1:¬(2+(a:Int)<((b+2:Nat):Int))):a=b:=Nat.le_antisymm (Q9 (J5 [(a:Int),(b:Int)] Z0 Z1 Z0 Z1 rfl (N2 h0))) (Q9 (J5 [(a:Int),(b:Int)] Z1 Z0 (Z1+2) (2+Z0) rfl (Int.not_lt.mp h1)))
theorem o116 {a b:Nat} (h0:2+(a:Int)<((b+2:Nat):Int)):a<b:=Q9 (J5 [(a:Int),(b:Int)] (Z0+1) Z1 ((2+Z0)+1) (Z1+2) rfl h0)
theorem o117 {a:Nat}:2+a=a+1+1:=Nat.le_antisymm (ln0 [a] (2+X0) ((X0+1)+1) rfl) (ln0 [a] ((X0+1)+1) (2+X0) rfl)
theorem o118:(0:Int)<=(1:Int):=lz0 [] 0 1 rfl
theorem o119 {a:Nat}:1<(a:Int)+1+1:=J5 [(a:Int)] (1+1) ((Z0+1)+1) 0 Z0 rfl (Q8 a)
theorem o120 {a b c:Nat} (h0:a+2<c) (h1:c+9<=b):a<=b:=K8 [a,b,c] X0 X1 ((X0+2)+1) X2 (X2+9) X1 rfl h0 h1
theorem o121 {a b:Nat} (h0:a<b):2+(a:Int)<(b:Int)+1+1:=J5 [(a:Int),(b:Int)] ((2+Z0)+1) ((Z1+1)+1) (Z0+1) Z1 rfl (g9 h0)
theorem o122 {a:Nat}:Int.toNat ((2+a:Nat):Int)=a+1+1:=Nat.le_antisymm (Q9 (J5 [(((Int.toNat (((2:Nat)+a):Int)):Nat):Int),(a:Int)] Z0 ((Z1+1)+1) Z0 (2+Z1) rfl (Int.le_of_eq (Int.toNat_of_nonneg (J5 [(a:Int)] 0 (2+Z0) 0 Z0 rfl (Q8 a)))))) (Q9 (J5 [(((Int.toNat (((2:Nat)+a):Int)):Nat):Int),(a:Int)] ((Z1+1)+1) Z0 (2+Z1) Z0 rfl (Int.self_le_toNat (((2:Nat)+a):Int))))
theorem o123 {a:Int} (h0:¬(0<=a)):a<0:=J5 [a] (Z0+1) 0 (Z0+1) 0 rfl (Int.not_le.mp h0)
theorem o124:(0:Int)<=(0:Int):=lz0 [] 0 0 rfl
theorem o125 {a:Nat}:0<(a:Int)+1+1:=J5 [(a:Int)] (0+1) ((Z0+1)+1) 0 Z0 rfl (Q8 a)
theorem o126 {a:Int} (h0:a<0):¬(0<a):=λh_=>z10 (M6 [a] 1 0 (Z0+1) 0 (0+1) Z0 rfl h0 h_)
theorem o127 {a:Int} (h0:a≠0) (h1:¬(a<0)):0<a:=Int.lt_iff_le_and_ne.mpr ⟨Int.not_lt.mp h1,Ne.symm h0⟩
theorem o128 {a:Int} {b:Nat} {c:Prop} {d:Nat} (h0:b<d) (h1:(d:Int)+9<=a): -a<1/\1<a /\ -a<((b+1:Nat):Int)/\((b+1:Nat):Int)<a/\((1:Int)=(1:Int)\/c):=⟨M6 [a,(d:Int)] ((ZE.g Z0)+1) 1 (Z1+9) Z0 0 Z1 rfl h1 (Q8 d),⟨M6 [a,(d:Int)] (1+1) Z0 (Z1+9) Z0 0 Z1 rfl h1 (Q8 d),⟨lz3 [a,(b:Int),(d:Int)] ((ZE.g Z0)+1) (Z1+1) (Z2+9) Z0 0 Z1 0 Z2 rfl h1 (Q8 b) (Q8 d),⟨M6 [a,(b:Int),(d:Int)] ((Z1+1)+1) Z0 (Z1+1) Z2 (Z2+9) Z0 rfl (g9 h0) h1,Or.inl (rfl)⟩⟩⟩⟩
theorem o129 {a:Nat}:0<=1+(a:Int):=J5 [(a:Int)] 0 (1+Z0) 0 Z0 rfl (Q8 a)
theorem o130 {a:Int} {b:Nat} (h0:a<((b+1:Nat):Int)):a<=(b:Int):=J5 [a,(b:Int)] Z0 Z1 (Z0+1) (Z1+1) rfl h0
theorem o131 {a:Int} {b:Nat} (h0:a<((b+1:Nat):Int)):a<(b:Int)+1:=J5 [a,(b:Int)] (Z0+1) (Z1+1) (Z0+1) (Z1+1) rfl h0
theorem o132 {a:Prop} {b:Nat} (h0:1<=b) (h1:b<=0):a:=i0 (K8 [b] 1 0 1 X0 X0 0 rfl h0 h1)
theorem o133 {a b:Nat} (h0:a<=b) (h1:¬(1+(a:Int)<((b+1:Nat):Int))):a=b:=Nat.le_antisymm (Q9 (J5 [(a:Int),(b:Int)] Z0 Z1 Z0 Z1 rfl (N2 h0))) (Q9 (J5 [(a:Int),(b:Int)] Z1 Z0 (Z1+1) (1+Z0) rfl (Int.not_lt.mp h1)))
theorem o134 {a b:Nat} {c:Prop} (h0:a=0/\c):(a:Int)<=(b:Int):=M6 [(a:Int),(b:Int)] Z0 Z1 Z0 0 0 Z1 rfl (N2 (J9 (And.left h0))) (Q8 b)
theorem o135 {a b:Nat} {c d:Prop} (h0:c/\a<=b/\d):(a:Int)<=(b:Int):=J5 [(a:Int),(b:Int)] Z0 Z1 Z0 Z1 rfl (N2 (And.left (And.right h0)))
theorem o136 {a:Nat}:Int.toNat (1+(a:Int))=a+1:=Nat.le_antisymm (Q9 (J5 [(((Int.toNat ((1:Int)+(a:Int))):Nat):Int),(a:Int)] Z0 (Z1+1) Z0 (1+Z1) rfl (Int.le_of_eq (Int.toNat_of_nonneg (J5 [(a:Int)] 0 (1+Z0) 0 Z0 rfl (Q8 a)))))) (Q9 (J5 [(((Int.toNat ((1:Int)+(a:Int))):Nat):Int),(a:Int)] (Z1+1) Z0 (1+Z1) Z0 rfl (Int.self_le_toNat ((1:Int)+(a:Int)))))
theorem o137 {a b:Nat} (h0:1+(a:Int)<((b+1:Nat):Int)):a+1<=b:=Q9 (J5 [(a:Int),(b:Int)] (Z0+1) Z1 ((1+Z0)+1) (Z1+1) rfl h0)
theorem o138 {a:Nat}:1+(a:Int)=((a+1:Nat):Int):=Int.le_antisymm (lz0 [(a:Int)] (1+Z0) (Z0+1) rfl) (lz0 [(a:Int)] (Z0+1) (1+Z0) rfl)
theorem o139 {a:Nat}:1<=a+1:=Nat.succ_pos a
theorem o140 {a b:Nat} (h0:a<=b+1) (h1:¬(a=b+1)):a<=b:=Nat.le_of_lt_succ (Nat.lt_of_le_of_ne h0 h1)
theorem o141 {a:Int} (h0:1<=a):1<=Int.toNat a:=Q9 (M6 [(((Int.toNat a):Nat):Int),a] 1 Z0 1 Z1 Z1 Z0 rfl h0 (Int.self_le_toNat a))
theorem o142 {a:Int} {b:Nat} {c:Int} (h0:a<=c) (h1:c=(b:Int)):Int.toNat a<=b:=Int.toNat_le.mpr (h1▸h0)
theorem o143 {a:Int} (h0:1<=a):a=((Int.toNat a:Nat):Int):=Int.le_antisymm (J5 [a,(((Int.toNat a):Nat):Int)] Z0 Z1 Z0 Z1 rfl (Int.self_le_toNat a)) (J5 [a,(((Int.toNat a):Nat):Int)] Z1 Z0 Z1 Z0 rfl (Int.le_of_eq (Int.toNat_of_nonneg (J5 [a] 0 Z0 1 Z0 rfl h0))))
theorem o144 {a:Nat} (h0:1<=a):¬((a:Int)=0):=λh_=>z10 (M6 [(a:Int)] 1 0 1 Z0 Z0 0 rfl (N2 h0) (Int.le_of_eq h_))
theorem o145 {a:Nat} (h0:1<=a):a≠0:=λh_=>i0 (K8 [a] 1 0 1 X0 X0 0 rfl h0 (J9 h_))
theorem o147 {a:Nat} {b:Int} {c:Nat} (h0:a<c) (h1:(c:Int)+9<=b):((a+1:Nat):Int)<=b:=M6 [(a:Int),b,(c:Int)] (Z0+1) Z1 (Z0+1) Z2 (Z2+9) Z1 rfl (g9 h0) h1
theorem o148 {a:Nat}:0<=((a+1:Nat):Int)-1:=J5 [(a:Int)] 0 ((Z0+1)-1) 0 Z0 rfl (Q8 a)
theorem o149 {a:Nat} {b:Int} {c:Nat} (h0:a<c) (h1:(c:Int)+9<=b):((a+1:Nat):Int)-1<=b:=M6 [(a:Int),b,(c:Int)] ((Z0+1)-1) Z1 (Z0+1) Z2 (Z2+9) Z1 rfl (g9 h0) h1
theorem o150 {a:Nat}:Int.toNat (((a+1:Nat):Int)-1)=a:=Nat.le_antisymm (Q9 (J5 [(((Int.toNat (((a+(1:Nat)):Int)-(1:Int))):Nat):Int),(a:Int)] Z0 Z1 Z0 ((Z1+1)-1) rfl (Int.le_of_eq (Int.toNat_of_nonneg (J5 [(a:Int)] 0 ((Z0+1)-1) 0 Z0 rfl (Q8 a)))))) (Q9 (J5 [(((Int.toNat (((a+(1:Nat)):Int)-(1:Int))):Nat):Int),(a:Int)] Z1 Z0 ((Z1+1)-1) Z0 rfl (Int.self_le_toNat (((a+(1:Nat)):Int)-(1:Int)))))
theorem o153 {a:Prop} {b:Nat} (h0:1<=b) (h1:b<2) (h2:¬((b:Int)=1)):a:=(h2 (congrArg Nat.cast (Nat.le_antisymm (Nat.le_of_lt_succ h1) h0))).elim
theorem o154 {a b:Nat} (h0:b<=a):(a:Int)-(b:Int)+1=((a-b+1:Nat):Int):=Int.le_antisymm (J5 [(a:Int),(b:Int),(((a-b):Nat):Int)] ((Z0-Z1)+1) (Z2+1) Z0 (Z2+Z1) rfl (N2 (@v5 a b))) (J5 [(a:Int),(b:Int),(((a-b):Nat):Int)] (Z2+1) ((Z0-Z1)+1) (Z2+Z1) Z0 rfl (N2 (J9 (Nat.sub_add_cancel (Q9 (J5 [(b:Int),(a:Int)] Z0 Z1 Z0 Z1 rfl (N2 h0)))))))
theorem o155 {a b:Nat} (h0:2<=b) (h1:b<=a):a-b+1<a:=K8 [(a-b),a,b] ((X0+1)+1) X1 2 X2 (X0+X2) X1 rfl h0 (J9 (Nat.sub_add_cancel (J6 [b,a] X0 X1 X0 X1 rfl h1)))
theorem o157 {a b c d:Nat} (h0:c+4<=d) (h1:a<c) (h2:d+9<=b):a<b:=n9 [a,b,c,d] (X0+1) X1 (X2+4) X3 (X0+1) X2 (X3+9) X1 rfl h0 h1 h2
theorem o158 {a b:Nat} (h0:a+4<=b):a+1<=b:=J6 [a,b] (X0+1) X1 (X0+4) X1 rfl h0
theorem o159 {a:Nat}:¬((a:Int)+1+1=1):=λh_=>z10 (M6 [(a:Int)] 1 0 ((Z0+1)+1) 1 0 Z0 rfl (Int.le_of_eq h_) (Q8 a))
theorem o160 {a b:Nat} (h0:a+4<=b):a+1+2<=b:=J6 [a,b] ((X0+1)+2) X1 (X0+4) X1 rfl h0
theorem o161 {a:Nat} (h0:a<0+1):a=0:=Nat.le_antisymm (J6 [a] X0 0 (X0+1) (0+1) rfl h0) (ln0 [a] 0 X0 rfl)
theorem o162 {a:Int} {b:Nat} {c:Prop} {d:Nat} (h0:b<d) (h1:(d:Int)+9<=a): -a<1/\1<a /\ -a<(b:Int)/\(b:Int)<a/\((1:Int)=(1:Int)\/c):=⟨M6 [a,(d:Int)] ((ZE.g Z0)+1) 1 (Z1+9) Z0 0 Z1 rfl h1 (Q8 d),⟨M6 [a,(d:Int)] (1+1) Z0 (Z1+9) Z0 0 Z1 rfl h1 (Q8 d),⟨lz3 [a,(b:Int),(d:Int)] ((ZE.g Z0)+1) Z1 (Z2+9) Z0 0 Z1 0 Z2 rfl h1 (Q8 b) (Q8 d),⟨M6 [a,(b:Int),(d:Int)] (Z1+1) Z0 (Z1+1) Z2 (Z2+9) Z0 rfl (g9 h0) h1,Or.inl (rfl)⟩⟩⟩⟩
theorem o163 {a b:Nat} (h0:¬(1+(b:Int)<(a:Int))):a<=b+1:=Q9 (J5 [(a:Int),(b:Int)] Z0 (Z1+1) Z0 (1+Z1) rfl (Int.not_lt.mp h0))
theorem o164 {a b c:Nat} (h0:a<c) (h1:c<=b):a<b:=Nat.lt_of_lt_of_le h0 h1
theorem o165 {a b:Nat} (h0:a<b):(a:Int)<(b:Int):=J5 [(a:Int),(b:Int)] (Z0+1) Z1 (Z0+1) Z1 rfl (g9 h0)
theorem o166 {a b:Nat} (h0:1+(a:Int)<(b:Int)):a+1<b:=Q9 (J5 [(a:Int),(b:Int)] ((Z0+1)+1) Z1 ((1+Z0)+1) Z1 rfl h0)
theorem o167 {a b c:Nat} (h0:a=0) (h1:c<b):a<b:=K8 [a,b,c] (X0+1) X1 X0 0 (X2+1) X1 rfl (J9 h0) h1
theorem o168 {a b:Nat} (h0:a<b):a+1<=b:=h0
theorem o169 {a:Nat} {b:Prop} (h0:a<1000): -(1000000:Int)<(0:Int)/\(0:Int)<(1000000:Int) /\ -1000000<((2*a+2:Nat):Int)/\((2*a+2:Nat):Int)<1000000/\((1:Int)=(1:Int)\/b):=⟨lz0 [] ((ZE.g 1000000)+1) 0 rfl,⟨lz0 [] (0+1) 1000000 rfl,⟨M6 [(a:Int)] ((ZE.g 1000000)+1) ((ZE.m 2 Z0)+2) 0 Z0 0 Z0 rfl (Q8 a) (Q8 a),⟨M6 [(a:Int)] (((ZE.m 2 Z0)+2)+1) 1000000 (Z0+1) 1000 (Z0+1) 1000 rfl (g9 h0) (g9 h0),Or.inl (rfl)⟩⟩⟩⟩
theorem o170 {a b:Nat} (h0:a<=2*b+2) (h1:b<1000):a<1000000:=n9 [a,b] (X0+1) 1000000 X0 ((LE.m 2 X1)+2) (X1+1) 1000 (X1+1) 1000 rfl h0 h1 h1
theorem o172 {a b:Nat} (h0:0+(a:Int)<(b:Int)):a+1<=b:=Q9 (J5 [(a:Int),(b:Int)] (Z0+1) Z1 ((0+Z0)+1) Z1 rfl h0)
theorem o173 {a b:Nat} (h0:a<=b) (h1:¬(0+(a:Int)<(b:Int))):a=b:=Nat.le_antisymm (Q9 (J5 [(a:Int),(b:Int)] Z0 Z1 Z0 Z1 rfl (N2 h0))) (Q9 (J5 [(a:Int),(b:Int)] Z1 Z0 Z1 (0+Z0) rfl (Int.not_lt.mp h1)))
theorem o174 {a:Nat} {b:Int} {c:Nat} (h0:a<c) (h1:(c:Int)+9<=b):((a+1:Nat):Int)<b:=M6 [(a:Int),b,(c:Int)] ((Z0+1)+1) Z1 (Z0+1) Z2 (Z2+9) Z1 rfl (g9 h0) h1
theorem o176 {a b:Int} (h0:Int.natAbs a=Int.natAbs b):a=b\/a = -b:=Int.natAbs_eq_natAbs_iff.mp h0
theorem o177 {a:Int} (h0:1<=Int.natAbs a):a ≠ -a:=λh=>Int.natAbs_ne_zero.mp (Nat.ne_of_gt h0) (Int.le_antisymm (Int.not_lt.mp λh_=>z10 (lz3 [a] 1 0 Z0 (ZE.g Z0) 1 Z0 1 Z0 rfl (Int.le_of_eq h) h_ h_)) (Int.not_lt.mp λh_=>z10 (lz3 [a] 1 0 (ZE.g Z0) Z0 (Z0+1) 0 (Z0+1) 0 rfl (Int.le_of_eq h.symm) h_ h_)))
theorem o178 {a:Int}:Int.natAbs a=Int.natAbs (-a):=(Int.natAbs_neg a).symm
theorem o179 {a:Int} (h0:a<0):((Int.natAbs a:Nat):Int) = -a:=Int.le_antisymm (J5 [(((Int.natAbs a):Nat):Int),a] Z0 (ZE.g Z1) Z0 (ZE.g Z1) rfl (Int.le_of_eq (Int.ofNat_natAbs_of_nonpos (J5 [a] Z0 0 (Z0+1) 0 rfl h0)))) (J5 [(((Int.natAbs a):Nat):Int),a] (ZE.g Z1) Z0 (ZE.g Z1) Z0 rfl (@W4 a))
theorem o180 {a:Int} (h0:¬(a<0)):((Int.natAbs a:Nat):Int)=a:=Int.le_antisymm (J5 [(((Int.natAbs a):Nat):Int),a] Z0 Z1 Z0 Z1 rfl (Int.le_of_eq (Int.natAbs_of_nonneg (J5 [a] 0 Z0 0 Z0 rfl (Int.not_lt.mp h0))))) (J5 [(((Int.natAbs a):Nat):Int),a] Z1 Z0 Z1 Z0 rfl (@Int.le_natAbs a))
theorem o181 {a b:Nat} (h0:a<=b):a<=b+1:=Nat.le_succ_of_le h0
theorem o182 {a:Nat} {b:Int} (h0:0<b) (h1:a=Int.natAbs b):(a:Int)=b:=Int.le_antisymm (M6 [(a:Int),b,(((Int.natAbs b):Nat):Int)] Z0 Z1 Z0 Z2 Z2 Z1 rfl (N2 (J9 h1)) (Int.le_of_eq (Int.natAbs_of_nonneg (J5 [b] 0 Z0 (0+1) Z0 rfl h0)))) (M6 [(a:Int),b,(((Int.natAbs b):Nat):Int)] Z1 Z0 Z2 Z0 Z1 Z2 rfl (N2 (o0 h1)) (@Int.le_natAbs b))
theorem o183 {a:Nat} {b:Int} (h0:a=Int.natAbs b) (h1:¬(0<b)): -(a:Int)=b:=Int.le_antisymm (M6 [(a:Int),b,(((Int.natAbs b):Nat):Int)] (ZE.g Z0) Z1 Z2 Z0 (ZE.g Z1) Z2 rfl (N2 (o0 h0)) (@W4 b)) (M6 [(a:Int),b,(((Int.natAbs b):Nat):Int)] Z1 (ZE.g Z0) Z0 Z2 Z2 (ZE.g Z1) rfl (N2 (J9 h0)) (Int.le_of_eq (Int.ofNat_natAbs_of_nonpos (J5 [b] Z0 0 Z0 0 rfl (Int.not_lt.mp h1)))))
theorem o184 {a:Nat} {b:Int} (h0:a=Int.natAbs b) (h1:¬(0<b)):(a:Int) = -b:=Int.le_antisymm (M6 [(a:Int),b,(((Int.natAbs b):Nat):Int)] Z0 (ZE.g Z1) Z0 Z2 Z2 (ZE.g Z1) rfl (N2 (J9 h0)) (Int.le_of_eq (Int.ofNat_natAbs_of_nonpos (J5 [b] Z0 0 Z0 0 rfl (Int.not_lt.mp h1))))) (M6 [(a:Int),b,(((Int.natAbs b):Nat):Int)] (ZE.g Z1) Z0 Z2 Z0 (ZE.g Z1) Z2 rfl (N2 (o0 h0)) (@W4 b))
theorem o185 {a:Int} {b:Nat} (h0:1<=Int.natAbs a) (h1:(b:Int)=a) (h2:¬(0<a)):False:=z10 (lz3 [(((Int.natAbs a):Nat):Int),a] 1 0 1 Z0 Z1 0 Z0 Z1 rfl (N2 h0) (Int.not_lt.mp h2) (Int.le_of_eq (Int.natAbs_of_nonneg (M6 [a,(b:Int)] 0 Z0 Z1 Z0 0 Z1 rfl (Int.le_of_eq h1) (Q8 b)))))
theorem o186 {a:Nat} {b:Int} (h0:¬(a=Int.natAbs b)):¬((a:Int)=b):=λh=>h0 (h▸rfl)
theorem o187 {a:Nat} {b:Int} (h0:¬(a=Int.natAbs b)):¬(-(a:Int)=b):=λh=>h0 (h▸(Int.natAbs_neg (a:Int)).symm)
theorem o188 {a b:Nat} (h0:a-b=0) (h1:¬(a<b)):a=b:=Nat.le_antisymm (K8 [a,b,(a-b)] X0 X1 X2 0 X0 (X2+X1) rfl (J9 h0) (@v5 a b)) (J6 [a,b] X1 X0 X1 X0 rfl (Nat.not_lt.mp h1))
theorem o189 {a b:Nat} (h0:a=b):a<=b:=J9 h0
theorem o190 {a b:Nat} (h0:a<b):min a b=a:=Nat.le_antisymm (J6 [(min a b),a] X0 X1 X0 X1 rfl (Nat.min_le_left a b)) (J6 [(min a b),a] X1 X0 X1 X0 rfl (Nat.le_min.mpr ⟨Nat.le_refl _,(J6 [a,b] X0 X1 (X0+1) X1 rfl h0)⟩))
theorem o191 {a b c:Nat} (h0:a<min c b):a<b:=K8 [a,b,(min c b)] (X0+1) X1 (X0+1) X2 X2 X1 rfl h0 (Nat.min_le_right c b)
theorem o192 {a b c:Nat} (h0:a<min b c):a<b:=K8 [a,b,(min b c)] (X0+1) X1 (X0+1) X2 X2 X1 rfl h0 (Nat.min_le_left b c)
theorem o193 {a b c:Nat} (h0:b<c-a):a+b<c:=Nat.add_lt_of_lt_sub' h0
theorem o194 {a b:Nat} (h0:b>0):a<a+b:=J6 [a,b] (X0+1) (X0+X1) (0+1) X1 rfl h0
theorem o195 {a b:Nat} (h0:b=a):Int.natAbs (a:Int)=b:=Nat.le_antisymm (Q9 (M6 [(((Int.natAbs (a:Int)):Nat):Int),(b:Int),(a:Int)] Z0 Z1 Z2 Z1 Z0 Z2 rfl (N2 (o0 h0)) (Int.le_of_eq (Int.natAbs_of_nonneg (J5 [(a:Int)] 0 Z0 0 Z0 rfl (Q8 a)))))) (Q9 (M6 [(((Int.natAbs (a:Int)):Nat):Int),(b:Int),(a:Int)] Z1 Z0 Z1 Z2 Z2 Z0 rfl (N2 (J9 h0)) (@Int.le_natAbs (a:Int))))
theorem o196 {a b:Nat} (h0:b=a):Int.natAbs (-(a:Int))=b:=Nat.le_antisymm (Q9 (M6 [(((Int.natAbs (-(a:Int))):Nat):Int),(b:Int),(a:Int)] Z0 Z1 Z2 Z1 Z0 (ZE.g (ZE.g Z2)) rfl (N2 (o0 h0)) (Int.le_of_eq (Int.ofNat_natAbs_of_nonpos (J5 [(a:Int)] (ZE.g Z0) 0 0 Z0 rfl (Q8 a)))))) (Q9 (M6 [(((Int.natAbs (-(a:Int))):Nat):Int),(b:Int),(a:Int)] Z1 Z0 Z1 Z2 (ZE.g (ZE.g Z2)) Z0 rfl (N2 (J9 h0)) (@W4 (-(a:Int)))))
theorem o197 {a:Nat}:Int.natAbs (a:Int)=a:=rfl
theorem o198 {a:Nat}:Int.natAbs (-(a:Int))=a:=Nat.le_antisymm (Q9 (J5 [(((Int.natAbs (-(a:Int))):Nat):Int),(a:Int)] Z0 Z1 Z0 (ZE.g (ZE.g Z1)) rfl (Int.le_of_eq (Int.ofNat_natAbs_of_nonpos (J5 [(a:Int)] (ZE.g Z0) 0 0 Z0 rfl (Q8 a)))))) (Q9 (J5 [(((Int.natAbs (-(a:Int))):Nat):Int),(a:Int)] Z1 Z0 (ZE.g (ZE.g Z1)) Z0 rfl (@W4 (-(a:Int)))))
theorem o199 {a:Int} {b:Nat} (h0:Int.natAbs a=b):a=(b:Int)\/a = -(b:Int):=h0▸Int.natAbs_eq a
theorem o200 {a b:Int} (h0:1+2*Int.natAbs a=1+2*Int.natAbs b) (h1:a<0) (h2:b<0):a=b:=Int.neg_inj.mp ((Int.ofNat_natAbs_of_nonpos (Int.le_of_lt h1)).symm.trans ((congrArg Nat.cast (Nat.eq_of_mul_eq_mul_left (by decide) (Nat.add_left_cancel h0))).trans (Int.ofNat_natAbs_of_nonpos (Int.le_of_lt h2))))
theorem o201 {a:Prop} {b c:Nat} (h0:1+2*b=2*c):a:=absurd ((Nat.add_mul_mod_self_left 1 2 b).symm.trans ((congrArg (· % 2) h0).trans (Nat.mul_mod_right 2 c))) (by decide)
theorem o202 {a:Prop} {b c:Nat} (h0:2*b=1+2*c):a:=absurd ((Nat.add_mul_mod_self_left 1 2 c).symm.trans ((congrArg (· % 2) h0.symm).trans (Nat.mul_mod_right 2 b))) (by decide)
theorem o203 {a b:Int} (h0:2*Int.natAbs a=2*Int.natAbs b) (h1:¬(a<0)) (h2:¬(b<0)):a=b:=(Int.natAbs_of_nonneg (Int.not_lt.mp h1)).symm.trans ((congrArg Nat.cast (Nat.eq_of_mul_eq_mul_left (by decide) h0)).trans (Int.natAbs_of_nonneg (Int.not_lt.mp h2)))
theorem o204 {a:Int} (h0:0<a):¬(0 < -a):=λh_=>z10 (M6 [a] 1 0 (0+1) Z0 (0+1) (ZE.g Z0) rfl h0 h_)
theorem o205 {a:Int} (h0:1<=Int.natAbs a) (h1:¬(0<a)):0 < -a:=M6 [a,(((Int.natAbs a):Nat):Int)] (0+1) (ZE.g Z0) 1 Z1 Z1 (ZE.g Z0) rfl (N2 h0) (Int.le_of_eq (Int.ofNat_natAbs_of_nonpos (J5 [a] Z0 0 Z0 0 rfl (Int.not_lt.mp h1))))
theorem o206 {a b:Nat} (h0:a<=b) (h1:b=0):a=0:=Nat.le_antisymm (K8 [a,b] X0 0 X0 X1 X1 0 rfl h0 (J9 h1)) (ln0 [a] 0 X0 rfl)
theorem o207 {a:Prop} {b:Int} (h0:0<=b) (h1:b<0):a:=z10 (M6 [b] 1 0 0 Z0 (Z0+1) 0 rfl h0 h1)
theorem o208 {a b:Nat} (h0:0<b) (h1:a<=b-1):a+1<=b:=K8 [a,b,(b-(1:Nat))] (X0+1) X1 X0 X2 (X2+1) X1 rfl h1 (J9 (Nat.sub_add_cancel (J6 [b] 1 X0 (0+1) X0 rfl h0)))
theorem o209 {a b:Nat} (h0:1<=a/\a<=b):a-1<b:=K8 [(a-(1:Nat)),b,a] (X0+1) X1 X2 X1 (X0+1) X2 rfl (And.right h0) (J9 (Nat.sub_add_cancel (J6 [a] 1 X0 1 X0 rfl (And.left h0))))
theorem o210 {a:Nat} {b:Prop} (h0:1<=a/\b):a-1+1=a:=Nat.le_antisymm (J6 [(a-(1:Nat)),a] (X0+1) X1 (X0+1) X1 rfl (J9 (Nat.sub_add_cancel (J6 [a] 1 X0 1 X0 rfl (And.left h0))))) (J6 [(a-(1:Nat)),a] X1 (X0+1) X1 (X0+1) rfl (@v5 a (1:Nat)))
theorem o211 {a b c d:Nat} (h0:a<=c) (h1:c<d) (h2:d<=b):a<b:=n9 [a,b,c,d] (X0+1) X1 X0 X2 (X2+1) X3 X3 X1 rfl h0 h1 h2
theorem o212 {a b c:Nat} (h0:a<=c) (h1:c<b):a<b:=Nat.lt_of_le_of_lt h0 h1
theorem o213 {a b c d e:Nat} (h0:a<=c) (h1:c<=d) (h2:d<e) (h3:e<=b):a<b:=ln4 [a,b,c,d,e] (X0+1) X1 X0 X2 X2 X3 (X3+1) X4 X4 X1 rfl h0 h1 h2 h3
theorem o214 {a b c:Nat} (h0:a+c<=b) (h1:c+9<=b):a<=b:=J6 [a,b,c] X0 X1 (X0+X2) X1 rfl h0
theorem o215 {a b c d:Nat} (h0:a+c<=d) (h1:d<b):a<b:=K8 [a,b,c,d] (X0+1) X1 (X0+X2) X3 (X3+1) X1 rfl h0 h1
theorem o216 {a:Nat}:¬((a:Int)<0):=λh_=>z10 (M6 [(a:Int)] 1 0 (Z0+1) 0 0 Z0 rfl h_ (Q8 a))
theorem o217 {a b c d e:Nat} (h0:c+d<=e) (h1:a<c) (h2:d+9<=e) (h3:e+9<=b):a<b:=n9 [a,b,c,d,e] (X0+1) X1 (X2+X3) X4 (X0+1) X2 (X4+9) X1 rfl h0 h1 h3
theorem o218 {a:Nat} (h0:a+10<=900000):a+1<=900000:=J6 [a] (X0+1) 900000 (X0+10) 900000 rfl h0
theorem o219 {a:Int} (h0:a<0) (h1:a=1):False:=z10 (M6 [a] 1 0 (Z0+1) 0 1 Z0 rfl h0 (Int.le_of_eq (Eq.symm h1)))
theorem o220 {a:Prop} {b:Int} (h0:b = -1) (h1:¬(b<0)):a:=z10 (M6 [b] 1 0 Z0 (ZE.g 1) 0 Z0 rfl (Int.le_of_eq h0) (Int.not_lt.mp h1))
theorem o221 {a b c d:Nat} (h0:a<=c) (h1:c<=d) (h2:d=b):a<=b:=n9 [a,b,c,d] X0 X1 X0 X2 X2 X3 X3 X1 rfl h0 h1 (J9 h2)
theorem o222 {a b:Nat} (h0:b<=a):a-b+b=a:=Nat.sub_add_cancel h0
theorem o223 {a b:Nat} (h0:a<2*b+2):(a:Int)<2*(b:Int)+2:=J5 [(a:Int),(b:Int)] (Z0+1) ((ZE.m 2 Z1)+2) (Z0+1) ((ZE.m 2 Z1)+2) rfl (g9 h0)
theorem o224 {a:Nat} (h0:a<1000):2*a<=999998:=K8 [a] (LE.m 2 X0) 999998 (X0+1) 1000 (X0+1) 1000 rfl h0 h0
theorem o225 {a b c:Nat} (h0:a+b=c) (h1:b+1<=c):a-1<a:=J6 [(a-(1:Nat)),a] (X0+1) X1 (X0+1) X1 rfl (J9 (Nat.sub_add_cancel (K8 [a,b,c] 1 X0 X2 (X0+X1) (X1+1) X2 rfl (o0 h0) h1)))
theorem o226 {a b c:Nat} (h0:a+b=c) (h1:b+1<=c):a-1+(b+1)=c:=Nat.le_antisymm (K8 [(a-(1:Nat)),b,c,a] (X0+(X1+1)) X2 (X3+X1) X2 (X0+1) X3 rfl (J9 h0) (J9 (Nat.sub_add_cancel (K8 [a,b,c] 1 X0 X2 (X0+X1) (X1+1) X2 rfl (o0 h0) h1)))) (K8 [(a-(1:Nat)),b,c,a] X2 (X0+(X1+1)) X2 (X3+X1) X3 (X0+1) rfl (o0 h0) (@v5 a (1:Nat)))
theorem o227 {a b:Nat} (h0:1<=b) (h1:a=b):1<=a:=K8 [a,b] 1 X0 1 X1 X1 X0 rfl h0 (o0 h1)
theorem o228 {a:Prop} {b c:Nat} (h0:b<c) (h1:b=c):a:=i0 (K8 [b,c] 1 0 (X0+1) X1 X1 X0 rfl h0 (o0 h1))
theorem o229 {a b:Nat} (h0:a≠b) (h1:a<=b):a<b:=Nat.lt_of_le_of_ne h1 h0
theorem o230 {a:Nat} (h0:¬(a=0)):1<=a:=Nat.pos_of_ne_zero h0
theorem o231 {a b:Nat} (h0:a<=b) (h1:¬(a=b)):a<b:=Nat.lt_of_le_of_ne h0 h1
theorem o232 {a:Nat} {b:Int} {c d:Nat} (h0:a<=c) (h1:c<d) (h2:(d:Int)+9<=b):(a:Int)<b:=lz3 [(a:Int),b,(c:Int),(d:Int)] (Z0+1) Z1 Z0 Z2 (Z2+1) Z3 (Z3+9) Z1 rfl (N2 h0) (g9 h1) h2
theorem o233 {a:Nat} (h0:1<=a):0<(a:Int):=J5 [(a:Int)] (0+1) Z0 1 Z0 rfl (N2 h0)
theorem o234 {a b:Nat} (h0:¬(a=b)):¬((a:Int)=(b:Int)):=λh=>h0 (Int.ofNat_inj.mp h)
theorem o235 {a:Nat} (h0:0<(a:Int)):1<=a:=Q9 (J5 [(a:Int)] 1 Z0 (0+1) Z0 rfl h0)
theorem o236 {a b:Nat} (h0:1<=b) (h1:b=a):a≠0:=λh_=>i0 (n9 [b,a] 1 0 1 X0 X0 X1 X1 0 rfl h0 (J9 h1) (J9 h_))
theorem o237 {a b:Nat} (h0:b<a):a-b=a-b-1+1:=(Nat.sub_add_cancel (Nat.sub_pos_of_lt h0)).symm
theorem o238 {a b:Nat}:a<a+1+b:=ln0 [a,b] (X0+1) ((X0+1)+X1) rfl
theorem o239 {a b c:Nat} (h0:b<c-a-1):a+1+b<c:=Nat.add_lt_of_lt_sub' (a:=a+1) h0
theorem o240 {a b c d e:Nat} (h0:a=c) (h1:c<=b) (h2:d=b) (h3:d=e) (h4:e<=c):a=b:=Nat.le_antisymm (K8 [a,b,c] X0 X1 X0 X2 X2 X1 rfl (J9 h0) h1) (ln4 [a,b,c,d,e] X1 X0 X2 X0 X1 X3 X3 X4 X4 X2 rfl (o0 h0) (o0 h2) (J9 h3) h4)
theorem o241 {a b:Nat} (h0:a=b+1):a-1=b:=Nat.le_antisymm (K8 [(a-(1:Nat)),b,a] X0 X1 X2 (X1+1) (X0+1) X2 rfl (J9 h0) (J9 (Nat.sub_add_cancel (J6 [a,b] 1 X0 (X1+1) X0 rfl (o0 h0))))) (K8 [(a-(1:Nat)),b,a] X1 X0 (X1+1) X2 X2 (X0+1) rfl (o0 h0) (@v5 a (1:Nat)))
theorem o242 {a b:Nat} (h0:a<b) (h1:a=b):False:=i0 (K8 [a,b] 1 0 (X0+1) X1 X1 X0 rfl h0 (o0 h1))
theorem o243 {a:Nat} (h0:a≠0):1<=a:=Nat.pos_of_ne_zero h0
theorem o244 {a b:Nat} (h0:a<b) (h1:b<=a):False:=Nat.not_lt.mpr h1 h0
theorem o245 {a:Prop} {b c:Nat} (h0:b<c) (h1:c=b):a:=i0 (K8 [b,c] 1 0 (X0+1) X1 X1 X0 rfl h0 (J9 h1))
theorem o246 {a b:Nat} (h0:a<b) (h1:b=a):False:=i0 (K8 [a,b] 1 0 (X0+1) X1 X1 X0 rfl h0 (J9 h1))
theorem o247 {a b:Nat} {c:Prop} (h0:b<a/\c):(a:Int)-1=((a-1:Nat):Int):=Int.le_antisymm (J5 [(a:Int),(((a-(1:Nat)):Nat):Int)] (Z0-1) Z1 Z0 (Z1+1) rfl (N2 (@v5 a (1:Nat)))) (J5 [(a:Int),(((a-(1:Nat)):Nat):Int)] Z1 (Z0-1) (Z1+1) Z0 rfl (N2 (J9 (Nat.sub_add_cancel (Q9 (M6 [(a:Int),(b:Int)] 1 Z0 (Z1+1) Z0 0 Z1 rfl (g9 (And.left h0)) (Q8 b)))))))
theorem o248 {a b:Nat} {c:Prop} (h0:a<b/\c):a<=b-1:=K8 [a,(b-(1:Nat)),b] X0 X1 (X0+1) X2 X2 (X1+1) rfl (And.left h0) (@v5 b (1:Nat))
theorem o249 {a b:Nat} {c:Prop} (h0:b<a/\c):a-1<a:=J6 [(a-(1:Nat)),a] (X0+1) X1 (X0+1) X1 rfl (J9 (Nat.sub_add_cancel (J6 [a,b] 1 X0 (X1+1) X0 rfl (And.left h0))))
theorem o250 {a:Prop} {b c:Nat} (h0:b-1<c) (h1:c<b):a:=i0 (n9 [(b-(1:Nat)),c,b] 1 0 (X0+1) X1 (X1+1) X2 X2 (X0+1) rfl h0 h1 (@v5 b (1:Nat)))
theorem o251 {a b:Nat} (h0:a≠b) (h1:b<=a):a-1<a:=Nat.sub_lt (Nat.lt_of_le_of_lt (Nat.zero_le b) (Nat.lt_of_le_of_ne h1 (Ne.symm h0))) (by decide)
theorem o252 {a b:Nat} (h0:a<=b) (h1:b≠a):a<=b-1:=Nat.le_sub_one_of_lt (Nat.lt_of_le_of_ne h0 (Ne.symm h1))
theorem o253 {a b:Nat} (h0:a<b):a-1<b:=K8 [(a-(1:Nat)),b,a] (X0+1) X1 (X2+1) X1 X0 X2 rfl h0 (Nat.sub_le a (1:Nat))
theorem o254 {a b:Nat} (h0:a≠b) (h1:b<=a):(a:Int)-1=((a-1:Nat):Int):=(Int.ofNat_sub (Nat.lt_of_le_of_lt (Nat.zero_le b) (Nat.lt_of_le_of_ne h1 (Ne.symm h0)))).symm
theorem o255 {a b:Nat} (h0:a-1<b) (h1:¬(b=a)):a<b:=Nat.lt_of_le_of_ne (Nat.le_trans (@v5 a 1) h0) (Ne.symm h1)
theorem o256 {a b:Nat} (h0:a=b+1):(a:Int)-1=((a-1:Nat):Int):=Int.le_antisymm (J5 [(a:Int),(((a-(1:Nat)):Nat):Int)] (Z0-1) Z1 Z0 (Z1+1) rfl (N2 (@v5 a (1:Nat)))) (J5 [(a:Int),(((a-(1:Nat)):Nat):Int)] Z1 (Z0-1) (Z1+1) Z0 rfl (N2 (J9 (Nat.sub_add_cancel (Q9 (M6 [(a:Int),(b:Int)] 1 Z0 (Z1+1) Z0 0 Z1 rfl (N2 (o0 h0)) (Q8 b)))))))
theorem o257 {a:Nat}:a<=a+1+1+1:=ln0 [a] X0 (((X0+1)+1)+1) rfl
theorem o258 {a b:Nat} {c:Prop} (h0:c/\a<=b):(a:Int)<=(b:Int):=J5 [(a:Int),(b:Int)] Z0 Z1 Z0 Z1 rfl (N2 (And.right h0))
theorem o259 {a b c:Nat} (h0:a<=min b c):a+0<=b:=K8 [a,b,(min b c)] (X0+0) X1 X0 X2 X2 X1 rfl h0 (Nat.min_le_left b c)
theorem o260 {a b:Nat} (h0:a<b):min (a+1) b=a+1:=Nat.le_antisymm (J6 [(min (a+(1:Nat)) b),a] X0 (X1+1) X0 (X1+1) rfl (Nat.min_le_left (a+(1:Nat)) b)) (J6 [(min (a+(1:Nat)) b),a] (X1+1) X0 (X1+1) X0 rfl (Nat.le_min.mpr ⟨Nat.le_refl _,(J6 [a,b] (X0+1) X1 (X0+1) X1 rfl h0)⟩))
theorem o261 {a b c:Nat} (h0:a<c) (h1:c<=b):a<=b:=K8 [a,b,c] X0 X1 (X0+1) X2 X2 X1 rfl h0 h1
theorem o262 {a:Prop} {b c:Nat} (h0:b<c) (h1:c<=b):a:=absurd h1 (Nat.not_le.mpr h0)
theorem o263 {a b:Nat} (h0:a<b):a<=min a b:=Nat.le_min.mpr ⟨Nat.le_refl a,Nat.le_of_lt h0⟩
theorem o264 {a b:Nat} (h0:a=b):a<b+1:=J6 [a,b] (X0+1) (X1+1) X0 X1 rfl (J9 h0)
theorem o265 {a b:Nat} (h0:a<b):¬(a=b):=λh_=>i0 (K8 [a,b] 1 0 (X0+1) X1 X1 X0 rfl h0 (o0 h_))
theorem o266 {a b c:Nat} (h0:a=b):a<=b+c:=J6 [a,b,c] X0 (X1+X2) X0 X1 rfl (J9 h0)
theorem o267 {a b c:Nat} (h0:a<=b):a<=b+c:=J6 [a,b,c] X0 (X1+X2) X0 X1 rfl h0
theorem o268 {a b c:Nat} (h0:a=c) (h1:b=c):a<=b:=K8 [a,b,c] X0 X1 X0 X2 X2 X1 rfl (J9 h0) (o0 h1)
theorem o269 {a b:Nat} (h0:a=0):a<=b:=J6 [a,b] X0 X1 X0 0 rfl (J9 h0)
theorem o270 {a:Nat} (h0:1<=a):a-1<a:=J6 [(a-(1:Nat)),a] (X0+1) X1 (X0+1) X1 rfl (J9 (Nat.sub_add_cancel (J6 [a] 1 X0 1 X0 rfl h0)))
theorem o271 {a b:Nat} (h0:1<=b) (h1:a=0):a<b:=K8 [a,b] (X0+1) X1 1 X1 X0 0 rfl h0 (J9 h1)
theorem o272 {a b c:Nat} (h0:a=c) (h1:c<b):a<b:=K8 [a,b,c] (X0+1) X1 X0 X2 (X2+1) X1 rfl (J9 h0) h1
theorem o273 {a b:Nat} (h0:a<b):a=min a b:=(Nat.min_eq_left (Nat.le_of_lt h0)).symm
theorem o274 {a b:Nat} {c d:Prop} (h0:c/\d/\a<b):a<=b-1:=K8 [a,(b-(1:Nat)),b] X0 X1 (X0+1) X2 X2 (X1+1) rfl (And.right (And.right h0)) (@v5 b (1:Nat))
theorem o275 {a b:Nat} (h0:a=b) (h1:b=0):a=0:=Nat.le_antisymm (K8 [a,b] X0 0 X0 X1 X1 0 rfl (J9 h0) (J9 h1)) (ln0 [a] 0 X0 rfl)
theorem o276 {a b:Nat} (h0:a<b+1) (h1:b<=a):a=b:=Nat.le_antisymm (J6 [a,b] X0 X1 (X0+1) (X1+1) rfl h0) (J6 [a,b] X1 X0 X1 X0 rfl h1)
theorem o277 {a:Int} (h0:0<a):((Int.natAbs a:Nat):Int)=a:=Int.le_antisymm (J5 [(((Int.natAbs a):Nat):Int),a] Z0 Z1 Z0 Z1 rfl (Int.le_of_eq (Int.natAbs_of_nonneg (J5 [a] 0 Z0 (0+1) Z0 rfl h0)))) (J5 [(((Int.natAbs a):Nat):Int),a] Z1 Z0 Z1 Z0 rfl (@Int.le_natAbs a))
theorem o278 {a:Int} (h0:¬(0<a)):((Int.natAbs a:Nat):Int) = -a:=Int.le_antisymm (J5 [(((Int.natAbs a):Nat):Int),a] Z0 (ZE.g Z1) Z0 (ZE.g Z1) rfl (Int.le_of_eq (Int.ofNat_natAbs_of_nonpos (J5 [a] Z0 0 Z0 0 rfl (Int.not_lt.mp h0))))) (J5 [(((Int.natAbs a):Nat):Int),a] (ZE.g Z1) Z0 (ZE.g Z1) Z0 rfl (@W4 a))
theorem o279 {a:Int} (h0:a≠0): -a≠0:=Int.neg_ne_zero.mpr h0
theorem o280 {a b:Nat} (h0:b+1<=a):a-b=a-(b+1)+1:=Nat.le_antisymm (K8 [(a-b),(a-(b+(1:Nat))),b,a] X0 (X1+1) (X0+X2) X3 X3 (X1+(X2+1)) rfl (J9 (Nat.sub_add_cancel (J6 [b,a] X0 X1 (X0+1) X1 rfl h0))) (@v5 a (b+(1:Nat)))) (K8 [(a-b),(a-(b+(1:Nat))),b,a] (X1+1) X0 X3 (X0+X2) (X1+(X2+1)) X3 rfl (@v5 a b) (J9 (Nat.sub_add_cancel (J6 [b,a] (X0+1) X1 (X0+1) X1 rfl h0))))
theorem o281 {a:Nat}:¬(a+1=0):=λh_=>i0 (J6 [a] 1 0 (X0+1) 0 rfl (J9 h_))
theorem o282 {a b c d e f:Nat} (h0:d<=1):a+(b+1)+(b-c)+d<a+(2*b+4)+e+f+1:=K8 [a,b,(b-c),d,e,f] ((((X0+(X1+1))+X2)+X3)+1) ((((X0+((LE.m 2 X1)+4))+X4)+X5)+1) X3 1 X2 X1 rfl h0 (Nat.sub_le b c)
theorem o283 {a b c d e:Nat}:a+0+(b-c)+d<a+(b+1)+e+d:=J6 [a,(b-c),d,b,e] ((((X0+0)+X1)+X2)+1) (((X0+(X3+1))+X4)+X2) X1 X3 rfl (Nat.sub_le b c)
theorem o284 {a b c d e:Nat} (h0:c<=b) (h1:e<c):a+(b-c)+d<a+(b-e)+d:=Nat.add_lt_add_right (Nat.add_lt_add_left (Nat.sub_lt_sub_left (Nat.lt_of_lt_of_le h1 h0) h1) a) d
theorem o285 {a b c d:Nat} (h0:d<=c):a+(b-c)+0<a+(b-d)+1:=Nat.lt_succ_of_le (Nat.add_le_add_left (Nat.sub_le_sub_left h0 b) a)
theorem o286 {a b:Nat} (h0:a<=1000+b) (h1:b<1000):a<100000:=K8 [a,b] (X0+1) 100000 X0 (1000+X1) (X1+1) 1000 rfl h0 h1
theorem o287 {a b:Nat} (h0:a+9<=b):a<=b:=J6 [a,b] X0 X1 (X0+9) X1 rfl h0
theorem o288:(100000:Nat)+(10:Nat)<=(900000:Nat):=ln0 [] (100000+10) 900000 rfl
theorem o289 {a b:Nat}:a<=a+b:=Nat.le_add_right a b
theorem o290 {a:Nat} (h0:1<=a):1<=(a:Int):=J5 [(a:Int)] 1 Z0 1 Z0 rfl (N2 h0)
theorem o291 {a:Nat} {b:Int} {c d:Nat} (h0:a+0<=c+1) (h1:c<d) (h2:(d:Int)+9<=b):(a:Int)<=b:=lz3 [(a:Int),b,(c:Int),(d:Int)] Z0 Z1 (Z0+0) (Z2+1) (Z2+1) Z3 (Z3+9) Z1 rfl (N2 h0) (g9 h1) h2
theorem o292 {a:Nat} {b:Int} {c d:Nat} (h0:a+1<=c+1) (h1:c<d) (h2:(d:Int)+9<=b):(a:Int)<=b:=lz3 [(a:Int),b,(c:Int),(d:Int)] Z0 Z1 (Z0+1) (Z2+1) (Z2+1) Z3 (Z3+9) Z1 rfl (N2 h0) (g9 h1) h2
theorem o293 {a:Nat} {b:Int} (h0:32*b<=(a:Int)) (h1:1<=b):a≠0:=λh=>z10 (lz3 [(a:Int),b] 1 0 (ZE.m 32 Z1) Z0 (ZE.m 32 1) (ZE.m 32 Z1) Z0 0 rfl h0 (Int.mul_le_mul_of_nonneg_left h1 (by decide)) (N2 (J9 h)))
theorem o294 {a b:Nat} (h0:a<=b):a+0<=b:=h0
theorem o295 {a b c d:Nat} (h0:a<=c+1) (h1:c<d) (h2:d+9<=b):a<b:=n9 [a,b,c,d] (X0+1) X1 X0 (X2+1) (X2+1) X3 (X3+9) X1 rfl h0 h1 h2
theorem o296 {a b:Nat} (h0:a<b+1):a<=b:=Nat.le_of_lt_succ h0
theorem o297 {a b:Nat} (h0:a<=b):a+1<=b+1:=Nat.succ_le_succ h0
theorem o298 {a b:Nat} (h0:a<=b) (h1:b<=a):a=b:=Nat.le_antisymm h0 h1
theorem o299 {a b:Nat} (h0:a<=1000+b) (h1:b<1000):a<=3000:=K8 [a,b] X0 3000 X0 (1000+X1) (X1+1) 1000 rfl h0 h1
theorem o300 {a:Nat} (h0:1<=a):¬(a=0):=λh_=>i0 (K8 [a] 1 0 1 X0 X0 0 rfl h0 (J9 h_))
theorem o301 {a b c d:Nat} (h0:a<=c) (h1:c<d) (h2:d+9<=b):Int.natAbs (a:Int)<b:=Q9 (lz4 [(((Int.natAbs (a:Int)):Nat):Int),(b:Int),(a:Int),(c:Int),(d:Int)] (Z0+1) Z1 Z2 Z3 (Z3+1) Z4 (Z4+9) Z1 Z0 Z2 rfl (N2 h0) (g9 h1) (N2 h2) (Int.le_of_eq (Int.natAbs_of_nonneg (J5 [(a:Int)] 0 Z0 0 Z0 rfl (Q8 a)))))
theorem o304 {a b:Nat} (h0:a+9<=b):a+1<=b:=J6 [a,b] (X0+1) X1 (X0+9) X1 rfl h0
theorem o305 {a b:Nat} (h0:a+9<=b):a+4<=b:=J6 [a,b] (X0+4) X1 (X0+9) X1 rfl h0
theorem o306 {a:Int} {b c:Nat} (h0:b<c) (h1:a=(c:Int)):¬(a<=(b:Int)):=λh_=>z10 (lz3 [(b:Int),(c:Int),a] 1 0 (Z0+1) Z1 Z1 Z2 Z2 Z0 rfl (g9 h0) (Int.le_of_eq (Eq.symm h1)) h_)
theorem o307 {a b c d:Nat} (h0:a<=d+1) (h1:d<=b+c):a<=b+(c+1):=K8 [a,b,c,d] X0 (X1+(X2+1)) X0 (X3+1) X3 (X1+X2) rfl h0 h1
theorem o308 {a b c d e:Nat} (h0:a<=e+1) (h1:e<=b+c):a<=b+(c+1)+d:=K8 [a,b,c,d,e] X0 ((X1+(X2+1))+X3) X0 (X4+1) X4 (X1+X2) rfl h0 h1
theorem o309 {a b:Nat} (h0:a+0<=b):a+1<=b+1:=J6 [a,b] (X0+1) (X1+1) (X0+0) X1 rfl h0
theorem o310 {a b c d:Nat} (h0:b<d) (h1:d+9<=c):min a b<c:=n9 [(min a b),c,b,d] (X0+1) X1 (X2+1) X3 (X3+9) X1 X0 X2 rfl h0 h1 (Nat.min_le_right a b)
theorem o311 {a b c d:Nat} (h0:a<=c) (h1:c<d) (h2:d+9<=b):a<b:=n9 [a,b,c,d] (X0+1) X1 X0 X2 (X2+1) X3 (X3+9) X1 rfl h0 h1 h2
theorem o312 {a b:Nat} (h0:a+9<=b):a+2<=b:=J6 [a,b] (X0+2) X1 (X0+9) X1 rfl h0
theorem o313 {a b c d e:Nat} (h0:a<=min c d) (h1:d<e) (h2:e+9<=b):a<b:=ln4 [a,b,(min c d),d,e] (X0+1) X1 X0 X2 (X3+1) X4 (X4+9) X1 X2 X3 rfl h0 h1 h2 (Nat.min_le_right c d)
theorem o314 {a b c:Nat} (h0:a<=c) (h1:c<b):a<=b:=K8 [a,b,c] X0 X1 X0 X2 (X2+1) X1 rfl h0 h1
theorem o315 {a b c d e:Nat} (h0:a<=c) (h1:c<d) (h2:d<e) (h3:e+9<=b):a<b:=ln4 [a,b,c,d,e] (X0+1) X1 X0 X2 (X2+1) X3 (X3+1) X4 (X4+9) X1 rfl h0 h1 h2 h3
theorem o316 {a b c:Nat} (h0:a<=c+1) (h1:c<=b):a<=b+1:=K8 [a,b,c] X0 (X1+1) X0 (X2+1) X2 X1 rfl h0 h1
theorem o317 {a b c d:Nat}:a+b+(c+d)=a+c+(b+d):=Nat.add_add_add_comm a b c d
theorem o318 {a:Nat}:1+a=a+1:=Nat.add_comm 1 a
theorem o319 {a b:Nat}:a+b=b+a:=Nat.add_comm a b
theorem o320 {a b c d:Nat} (h0:a<=c) (h1:b<=d):a+b<=c+d:=Nat.add_le_add h0 h1
theorem o321 {a b c:Nat} (h0:a<b+1) (h1:c=b) (h2:c≠a):a<b:=Nat.lt_of_le_of_ne (Nat.le_of_lt_succ h0) (λh=>h2 (h1.trans h.symm))
theorem o322 {a b c d:Nat} (h0:a<=c) (h1:b<=d):a+b<=c+max d c:=n9 [a,b,c,(max d c),d] (X0+X1) (X2+X3) X0 X2 X1 X4 X4 X3 rfl h0 h1 (Nat.le_max_left d c)
theorem o323 {a b c d:Nat} (h0:a<=c) (h1:b<=c):a+b<=c+max d c:=n9 [a,b,c,(max d c)] (X0+X1) (X2+X3) X0 X2 X1 X2 X2 X3 rfl h0 h1 (Nat.le_max_right d c)
theorem o324 {a b c:Nat} (h0:a<=b):a+a<=max (2*b) c:=n9 [a,(max ((2:Nat)*b) c),b] (X0+X0) X1 X0 X2 X0 X2 (LE.m 2 X2) X1 rfl h0 h0 (Nat.le_max_left ((2:Nat)*b) c)
theorem o325 {a b c:Nat} (h0:a<=c):a<=max b c:=K8 [a,(max b c),c] X0 X1 X0 X2 X2 X1 rfl h0 (Nat.le_max_right b c)
theorem o326 {a b c d:Nat} (h0:a<=c) (h1:b<=c):a+b<=max (2*c) d:=n9 [a,b,(max ((2:Nat)*c) d),c] (X0+X1) X2 X0 X3 X1 X3 (LE.m 2 X3) X2 rfl h0 h1 (Nat.le_max_left ((2:Nat)*c) d)
theorem o327 {a:Nat}:a+a+a<=3*a:=ln0 [a] ((X0+X0)+X0) (LE.m 3 X0) rfl
theorem o328 {a b:Nat} (h0:a<=b):3*a<=3*b:=n9 [a,b] (LE.m 3 X0) (LE.m 3 X1) X0 X1 X0 X1 X0 X1 rfl h0 h0 h0
theorem o329 {a b c d:Nat} (h0:a<=3*d) (h1:d<=b):a<=max (3*b) c:=ln5 [a,(max ((3:Nat)*b) c),d,b] X0 X1 X0 (LE.m 3 X2) X2 X3 X2 X3 X2 X3 (LE.m 3 X3) X1 rfl h0 h1 h1 h1 (Nat.le_max_left ((3:Nat)*b) c)
theorem o330 {a b c d e:Nat} (h0:a<=d) (h1:d<=e) (h2:e<=c):a<=max b c:=ln4 [a,(max b c),d,e,c] X0 X1 X0 X2 X2 X3 X3 X4 X4 X1 rfl h0 h1 h2 (Nat.le_max_right b c)
theorem o331 {a b c d:Nat} (h0:a<=d) (h1:d<=c):a<=max b c:=n9 [a,(max b c),d,c] X0 X1 X0 X2 X2 X3 X3 X1 rfl h0 h1 (Nat.le_max_right b c)
theorem o332 {a:Prop} {b c:Nat} (h0:b<0+1) (h1:b≠c) (h2:c<0+1):a:=absurd ((Nat.le_zero.mp (Nat.le_of_lt_succ h0)).trans (Nat.le_zero.mp (Nat.le_of_lt_succ h2)).symm) h1
theorem o333 {a b c:Nat} (h0:a+(b+1)<=c):a+b<=c:=J6 [a,b,c] (X0+X1) X2 (X0+(X1+1)) X2 rfl h0
theorem o334 {a b:Nat} (h0:a<=b+7):a-(b+1)<=6:=Nat.sub_le_of_le_add (Nat.le_trans h0 (ln0 [b] (X0+7) (6+(X0+1)) rfl))
theorem o335 {a:Nat} (h0:a<=4):a=0\/a=1\/a=2\/a=3\/a=4:=by revert h0;revert a;decide
theorem o336 {a:Nat} (h0:a<=6):a=0\/a=1\/a=2\/a=3\/a=4\/a=5\/a=6:=by revert h0;revert a;decide
theorem o337 {a:Nat} (h0:1<=a):a-1+1=a:=Nat.le_antisymm (J6 [(a-(1:Nat)),a] (X0+1) X1 (X0+1) X1 rfl (J9 (Nat.sub_add_cancel (J6 [a] 1 X0 1 X0 rfl h0)))) (J6 [(a-(1:Nat)),a] X1 (X0+1) X1 (X0+1) rfl (@v5 a (1:Nat)))
theorem o338 {a:Nat}:¬(2*a%2=1):=λh=>absurd ((Nat.mul_mod_right 2 a).symm.trans h) (by decide)
theorem o339 {a:Nat}:2*a/2=a:=Nat.mul_div_right a (by decide)
theorem o340 {a:Nat}:(2*a+1)%2=1:=Nat.mul_add_mod 2 a 1
theorem o341 {a:Nat}:(2*a+1)/2=a:=Nat.le_antisymm (Nat.le_of_not_lt λh_=>i0 (n9 [((((2:Nat)*a)+(1:Nat))/(2:Nat)),a,((((2:Nat)*a)+(1:Nat))%(2:Nat))] 1 0 (X1+1) X0 (X1+1) X0 ((LE.m 2 X0)+X2) ((LE.m 2 X1)+1) rfl h_ h_ (J9 (Nat.div_add_mod (((2:Nat)*a)+(1:Nat)) 2)))) (Nat.le_of_not_lt λh_=>i0 (ln4 [((((2:Nat)*a)+(1:Nat))/(2:Nat)),a,((((2:Nat)*a)+(1:Nat))%(2:Nat))] 1 0 (X0+1) X1 (X0+1) X1 ((LE.m 2 X1)+1) ((LE.m 2 X0)+X2) X2 1 rfl h_ h_ (J9 (Eq.symm (Nat.div_add_mod (((2:Nat)*a)+(1:Nat)) 2))) (@Ea4 (((2:Nat)*a)+(1:Nat)))))
theorem o342 {a:Nat} (h0:a%2=1):(a:Int)+1-2*((a:Int)%2)=((a-1:Nat):Int):=by rw [show (a:Int)%2=1 from congrArg Nat.cast h0,Int.ofNat_sub (Nat.le_trans (J9 h0.symm) (Nat.mod_le a 2))];exact Int.le_antisymm (lz0 [(a:Int)] (Z0+1-ZE.m 2 1) (Z0-1) rfl) (lz0 [(a:Int)] (Z0-1) (Z0+1-ZE.m 2 1) rfl)
theorem o343 {a:Nat} (h0:¬(a%2=1)):(a:Int)+1-2*((a:Int)%2)=((a+1:Nat):Int):=by rw [show (a:Int)%2=0 from congrArg Nat.cast (evz h0)];exact Int.sub_zero _
theorem o344 {a:Nat} (h0:a%2=1):(a-1)/2=a/2:=(congrArg (λx=>(x-1)/2) (od h0)).trans (Nat.mul_div_right (a/2) (by decide))
theorem o345 {a:Nat} (h0:¬(a%2=1)):(a+1)/2=a/2:=Nat.le_antisymm (Nat.le_of_not_lt λh_=>i0 (ln5 [((a+(1:Nat))/(2:Nat)),(a/(2:Nat)),(a%(2:Nat)),((a+(1:Nat))%(2:Nat)),a] 1 0 X2 0 (X1+1) X0 (X1+1) X0 ((LE.m 2 X0)+X3) (X4+1) X4 ((LE.m 2 X1)+X2) rfl (mod2 h0) h_ h_ (J9 (Nat.div_add_mod (a+(1:Nat)) 2)) (J9 (Eq.symm (Nat.div_add_mod a 2))))) (Nat.le_of_not_lt λh_=>i0 (ln5 [((a+(1:Nat))/(2:Nat)),(a/(2:Nat)),(a%(2:Nat)),((a+(1:Nat))%(2:Nat)),a] 1 0 (X0+1) X1 (X0+1) X1 (X4+1) ((LE.m 2 X0)+X3) X3 1 ((LE.m 2 X1)+X2) X4 rfl h_ h_ (J9 (Eq.symm (Nat.div_add_mod (a+(1:Nat)) 2))) (@Ea4 (a+(1:Nat))) (J9 (Nat.div_add_mod a 2))))
theorem o346 {a:Nat} (h0:a%2=1):¬((a-1)%2=1):=λh=>absurd ((Nat.mul_mod_right 2 (a/2)).symm.trans ((congrArg (λx=>(x-1)%2) (od h0)).symm.trans h)) (by decide)
theorem o347 {a:Nat} (h0:¬(a%2=1)):(a+1)%2=1:=(congrArg (λx=>(x+1)%2) (ev h0)).trans (Nat.mul_add_mod 2 (a/2) 1)
theorem o348 {a b:Nat} (h0:b=0\/a=0\/b=a):a=0\/b=0\/a=b:=h0.elim (λh=>.inr (.inl h)) λh=>h.elim .inl λh=>.inr (.inr h.symm)
theorem o349 {a b c:Nat} (h0:a=0\/a=c\/a=b):a=0\/a=b\/a=c:=h0.imp_right Or.symm
theorem o350 {a b:Nat} (h0:¬(b=0\/a=0\/b=a)):¬(a=0\/b=0\/a=b):=λh=>h0 (o348 h)
theorem o351 {a:Nat} (h0:0<a):0<2*a:=J6 [a] (0+1) (LE.m 2 X0) (0+1) X0 rfl h0
theorem o352 {a:Nat} (h0:a=0):a/2=0:=Nat.le_antisymm (K8 [(a/(2:Nat)),a,(a%(2:Nat))] X0 0 X1 0 ((LE.m 2 X0)+X2) X1 rfl (J9 h0) (J9 (Nat.div_add_mod a 2))) (ln0 [(a/(2:Nat))] 0 X0 rfl)
theorem o353 {a:Nat} (h0:a=1):a/2=0:=Nat.le_antisymm (Nat.le_of_not_lt λh_=>i0 (ln4 [(a/(2:Nat)),a,(a%(2:Nat))] 1 0 X1 1 (0+1) X0 (0+1) X0 ((LE.m 2 X0)+X2) X1 rfl (J9 h0) h_ h_ (J9 (Nat.div_add_mod a 2)))) (ln0 [(a/(2:Nat))] 0 X0 rfl)
theorem o354 {a:Nat} (h0:¬(a=1)):¬((a:Int)=1):=λh=>h0 (Int.ofNat_inj.mp h)
theorem o355 {a b:Nat} (h0:a%2=1) (h1:b/2=a/2) (h2:¬(b=a-1)) (h3:¬(b=a)):False:=(Classical.em (b%2=1)).elim (λhb=>h3 ((od hb).trans ((congrArg (2*·+1) h1).trans (od h0).symm))) λhb=>h2 ((ev hb).trans ((congrArg (2*·) h1).trans (congrArg (·-1) (od h0)).symm))
theorem o356 {a b:Nat} (h0:a/2=b/2) (h1:¬(b%2=1)) (h2:¬(a=b+1)) (h3:¬(a=b)):False:=(Classical.em (a%2=1)).elim (λha=>h2 ((od ha).trans ((congrArg (2*·+1) h0).trans (congrArg (·+1) (ev h1)).symm))) λha=>h3 ((ev ha).trans ((congrArg (2*·) h0).trans (ev h1).symm))
theorem o357 {a:Nat} (h0:¬(a=0)) (h1:¬(a=1)):2<=a:=Nat.lt_of_le_of_ne (Nat.pos_of_ne_zero h0) (Ne.symm h1)
theorem o358 {a b:Nat} (h0:2<=a) (h1:a/2≠b/2) (h2:a<=b):¬(a/2=0\/b/2=0\/a/2=b/2):=λh=>h.elim (Nat.ne_of_gt (Nat.div_pos h0 (by decide))) λh=>h.elim (Nat.ne_of_gt (Nat.div_pos (Nat.le_trans h0 h2) (by decide))) h1
theorem o359 {a b:Nat} (h0:a<b):2*a<2*b:=Nat.mul_lt_mul_of_pos_left h0 (by decide)
theorem o360 {a b:Nat} (h0:a<b+1) (h1:a>=b):a=b:=Nat.le_antisymm (J6 [a,b] X0 X1 (X0+1) (X1+1) rfl h0) (J6 [a,b] X1 X0 X1 X0 rfl h1)
theorem o361 {a b c:Nat} (h0:a<b):a<b+c:=J6 [a,b,c] (X0+1) (X1+X2) (X0+1) X1 rfl h0
theorem o362 {a b c:Nat} (h0:a<2*c) (h1:b=c):a/2<b:=h1▸Nat.div_lt_of_lt_mul h0
theorem o363 {a b:Nat} (h0:(a:Int)=(b:Int)):a=b:=Nat.le_antisymm (Q9 (J5 [(a:Int),(b:Int)] Z0 Z1 Z0 Z1 rfl (Int.le_of_eq h0))) (Q9 (J5 [(a:Int),(b:Int)] Z1 Z0 Z1 Z0 rfl (Int.le_of_eq (Eq.symm h0))))
theorem o364 {a b:Nat} (h0:¬(a<b)):¬((a:Int)<(b:Int)):=λh_=>z10 (M6 [(b:Int),(a:Int)] 1 0 Z0 Z1 (Z1+1) Z0 rfl (N2 (Nat.not_lt.mp h0)) h_)
theorem o365 {a b:Nat} (h0:a<2*b) (h1:¬(a%2=1)):a+1<2*b:=n9 [a,a/2,b] (X0+1+1) (LE.m 2 X2) X0 (LE.m 2 X1) (X1+1) X2 (X1+1) X2 rfl (J9 (ev h1)) (Nat.div_lt_of_lt_mul h0) (Nat.div_lt_of_lt_mul h0)
theorem o367 {a b c:Nat} (h0:a<=1) (h1:b<=1) (h2:c<=1):a+b+c<=3:=n9 [a,b,c] ((X0+X1)+X2) 3 X0 1 X1 1 X2 1 rfl h0 h1 h2
theorem o369 {a b:Nat} (h0:a%2=1) (h1:b%2=1):¬((a+b)%2=1):=by rw [Nat.add_mod,h0,h1];decide
theorem o372 {a b:Nat} (h0:¬(a%2=1)) (h1:¬(b%2=1)):¬((a+b)%2=1):=by rw [Nat.add_mod,evz h0,evz h1];decide
theorem o370 {a b:Nat} (h0:a%2=1) (h1:¬(b%2=1)):(a+b)%2=1:=by rw [Nat.add_mod,h0,evz h1]
theorem o371 {a b:Nat} (h0:b%2=1) (h1:¬(a%2=1)):(a+b)%2=1:=by rw [Nat.add_mod,h0,evz h1]
theorem o368 {a b:Nat}:(a+b)%2=1↔¬(a%2=1↔b%2=1):=⟨λh e=>(Classical.em (a%2=1)).elim (λp=>o369 p (e.mp p) h) (λp=>o372 p (λq=>p (e.mpr q)) h),λh=>(Classical.em (a%2=1)).elim (λp=>(Classical.em (b%2=1)).elim (λq=>(h ⟨λ_=>q,λ_=>p⟩).elim) (o370 p ·)) (λp=>(Classical.em (b%2=1)).elim (λq=>o371 q p) (λq=>(h ⟨λx=>(p x).elim,λx=>(q x).elim⟩).elim))⟩
theorem o373 {a:Prop} {b c:Nat} {d e:Prop} (h0:a/\2*b=2*c) (h1:¬(d\/e\/c=b)):False:=h1 (.inr (.inr (Nat.eq_of_mul_eq_mul_left (by decide) h0.2).symm))
theorem o374 {a:Prop} {b c:Nat} {d e:Prop} (h0:a/\2*b=2*c) (h1:¬(d\/e\/b=c)):False:=h1 (.inr (.inr (Nat.eq_of_mul_eq_mul_left (by decide) h0.2)))
theorem o375 {a b:Nat} (h0:a=2*b):a/2=b:=Nat.le_antisymm (Nat.le_of_not_lt λh_=>i0 (ln4 [(a/(2:Nat)),b,a,(a%(2:Nat))] 1 0 X2 (LE.m 2 X1) (X1+1) X0 (X1+1) X0 ((LE.m 2 X0)+X3) X2 rfl (J9 h0) h_ h_ (J9 (Nat.div_add_mod a 2)))) (Nat.le_of_not_lt λh_=>i0 (ln5 [(a/(2:Nat)),b,a,(a%(2:Nat))] 1 0 (LE.m 2 X1) X2 (X0+1) X1 (X0+1) X1 X2 ((LE.m 2 X0)+X3) X3 1 rfl (o0 h0) h_ h_ (J9 (Eq.symm (Nat.div_add_mod a 2))) (@Ea4 a)))
theorem o376 {a b:Nat} {c:Int}:((a:Int)+(b:Int)-2*c)%2=(((a+b)%2:Nat):Int):=Int.sub_mul_emod_self_left _ _ _
theorem o377 {a:Nat} (h0:a%2=1):(a:Int)%2=1:=congrArg (Nat.cast (R:=Int)) h0
theorem o378 {a:Nat} (h0:a%2=1):((a-1:Nat):Int)=((2*(a/2):Nat):Int):=congrArg (λx:Nat=>((x-1:Nat):Int)) (od h0)
theorem o379 {a:Nat} (h0:¬(a%2=1)):(a:Int)%2=0:=congrArg (Nat.cast (R:=Int)) (evz h0)
theorem o380 {a:Nat} (h0:¬(a%2=1)):(a:Int)=((2*(a/2):Nat):Int):=Int.le_antisymm (M6 [(a:Int),(((a/(2:Nat)):Nat):Int),(((a%(2:Nat)):Nat):Int)] Z0 (ZE.m 2 Z1) Z2 0 Z0 ((ZE.m 2 Z1)+Z2) rfl (N2 (mod2 h0)) (N2 (J9 (Eq.symm (Nat.div_add_mod a 2))))) (M6 [(a:Int),(((a/(2:Nat)):Nat):Int),(((a%(2:Nat)):Nat):Int)] (ZE.m 2 Z1) Z0 ((ZE.m 2 Z1)+Z2) Z0 0 Z2 rfl (N2 (J9 (Nat.div_add_mod a 2))) (Q8 (a%(2:Nat))))
theorem o381 {a b:Nat} (h0:a<b):2*(a/2)<b:=K8 [(a/(2:Nat)),b,a,(a%(2:Nat))] ((LE.m 2 X0)+1) X1 (X2+1) X1 ((LE.m 2 X0)+X3) X2 rfl h0 (J9 (Nat.div_add_mod a 2))
theorem o382 {a b:Nat} (h0:a<2*b):2*(a/2)+1<2*b:=K8 [a/2,b] (LE.m 2 X0+1+1) (LE.m 2 X1) (X0+1) X1 (X0+1) X1 rfl (Nat.div_lt_of_lt_mul h0) (Nat.div_lt_of_lt_mul h0)
theorem o383 {a b c d e:Nat} (h0:a=c+d) (h1:c<e) (h2:d<=1) (h3:e+9<=b):a<b:=ln4 [a,b,c,d,e] (X0+1) X1 X0 (X2+X3) (X2+1) X4 X3 1 (X4+9) X1 rfl (J9 h0) h1 h2 h3
theorem o384 {a b c d:Nat} (h0:a<2*c) (h1:b=c+d):2*(a/2)+1<2*b:=ln4 [a/2,b,c,d] (LE.m 2 X0+1+1) (LE.m 2 X1) (X0+1) X2 (X0+1) X2 (X2+X3) X1 (X2+X3) X1 rfl (Nat.div_lt_of_lt_mul h0) (Nat.div_lt_of_lt_mul h0) (J9 h1.symm) (J9 h1.symm)
theorem o385 {a b c d:Nat} (h0:a<2*c) (h1:b=c+d):2*(a/2)<2*b:=ln4 [(a/(2:Nat)),b,a,c,d,(a%(2:Nat))] ((LE.m 2 X0)+1) (LE.m 2 X1) (X2+1) (LE.m 2 X3) (X3+X4) X1 (X3+X4) X1 ((LE.m 2 X0)+X5) X2 rfl h0 (o0 h1) (o0 h1) (J9 (Nat.div_add_mod a 2))
theorem o386 {a b c d:Nat} (h0:a<2*c) (h1:b=c+d):a<2*b:=n9 [a,b,c,d] (X0+1) (LE.m 2 X1) (X0+1) (LE.m 2 X2) (X2+X3) X1 (X2+X3) X1 rfl h0 (o0 h1) (o0 h1)
theorem o387 {a:Prop} {b:Nat} (h0:(b-1)%2=1) (h1:b%2=1):a:=(o346 h1 h0).elim
theorem o388 {a:Nat} (h0:a%2=1):((a-1+1:Nat):Int)=(a:Int):=congrArg Nat.cast (Nat.sub_add_cancel (Nat.le_trans (J9 h0.symm) (Nat.mod_le a 2)))
theorem o389 {a:Nat}:((a+1-1:Nat):Int)=(a:Int):=Int.le_antisymm (J5 [((((a+(1:Nat))-(1:Nat)):Nat):Int),(a:Int)] Z0 Z1 (Z0+1) (Z1+1) rfl (N2 (J9 (Nat.sub_add_cancel (Q9 (J5 [(a:Int)] 1 (Z0+1) 0 Z0 rfl (Q8 a))))))) (J5 [((((a+(1:Nat))-(1:Nat)):Nat):Int),(a:Int)] Z1 Z0 (Z1+1) (Z0+1) rfl (N2 (@v5 (a+(1:Nat)) (1:Nat))))
theorem o390 {a:Prop} {b:Nat} (h0:¬((b+1)%2=1)) (h1:¬(b%2=1)):a:=(h0 (o347 h1)).elim
theorem o391 {a:Nat} (h0:¬(a%2=1)):a%2=0:=Nat.le_antisymm (J6 [(a%(2:Nat))] X0 0 X0 0 rfl (mod2 h0)) (ln0 [(a%(2:Nat))] 0 X0 rfl)
theorem o392 {a:Nat}:(a:Int)/2=((a/2:Nat):Int):=rfl
theorem o393 {a:Prop} {b c:Nat} (h0:b<c+1) (h1:c<b):a:=i0 (K8 [b,c] 1 0 (X0+1) (X1+1) (X1+1) X0 rfl h0 h1)
theorem o394 {a b c:Nat} (h0:a<c) (h1:c+9<=b):a+1<b:=K8 [a,b,c] ((X0+1)+1) X1 (X0+1) X2 (X2+9) X1 rfl h0 h1
theorem o395 {a:Int}:a-0-1+1=a:=Int.le_antisymm (lz0 [a] (((Z0-0)-1)+1) Z0 rfl) (lz0 [a] Z0 (((Z0-0)-1)+1) rfl)
theorem o396 {a:Int} (h0:0<=a) (h1:¬(a>0)):0=a:=Int.le_antisymm (J5 [a] 0 Z0 0 Z0 rfl h0) (J5 [a] Z0 0 Z0 0 rfl (Int.not_lt.mp h1))
theorem o397 {a:Nat} {b:Int} (h0:(a:Int)<b):a<Int.toNat b:=Q9 (M6 [(a:Int),(((Int.toNat b):Nat):Int),b] (Z0+1) Z1 (Z0+1) Z2 Z2 Z1 rfl h0 (Int.self_le_toNat b))
theorem o399 {a:Nat} {b:Int} (h0:¬((a:Int)<b)):¬(a<Int.toNat b):=λh=>h0 (Int.lt_toNat.mp h)
theorem o400 {a b:Nat} (h0:b<=a) (h1:b>=a):a=b:=Nat.le_antisymm (J6 [a,b] X0 X1 X0 X1 rfl h1) (J6 [a,b] X1 X0 X1 X0 rfl h0)
theorem o401 {a:Prop} {b c d:Nat} (h0:b<c) (h1:c<=d) (h2:d=b):a:=i0 (n9 [b,c,d] 1 0 (X0+1) X1 X1 X2 X2 X0 rfl h0 h1 (J9 h2))
theorem o402 {a b c d:Nat} (h0:a=c) (h1:c<d) (h2:d<b):a<b:=n9 [a,b,c,d] (X0+1) X1 X0 X2 (X2+1) X3 (X3+1) X1 rfl (J9 h0) h1 h2
theorem o403 {a:Nat} {b:Int} {c:Nat} (h0:a<c) (h1:(c:Int)+9<=b):(a:Int)<b:=M6 [(a:Int),b,(c:Int)] (Z0+1) Z1 (Z0+1) Z2 (Z2+9) Z1 rfl (g9 h0) h1
theorem o404 {a:Nat} (h0:0<a):a-1+1=a:=Nat.le_antisymm (J6 [(a-(1:Nat)),a] (X0+1) X1 (X0+1) X1 rfl (J9 (Nat.sub_add_cancel (J6 [a] 1 X0 (0+1) X0 rfl h0)))) (J6 [(a-(1:Nat)),a] X1 (X0+1) X1 (X0+1) rfl (@v5 a (1:Nat)))
theorem o405 {a b:Nat} (h0:a<2*b):((a/2:Nat):Int)<((b-1+1:Nat):Int):=g9 (Nat.lt_of_lt_of_le (Nat.div_lt_of_lt_mul h0) (@v5 b 1))
theorem o406 {a b c:Nat} (h0:a<c) (h1:c+9<=b):a-1+1<=b:=n9 [(a-(1:Nat)),b,a,c] (X0+1) X1 (X2+1) X3 (X3+9) X1 X0 X2 rfl h0 h1 (Nat.sub_le a (1:Nat))
theorem o407 {a:Nat} (h0:1<=a) (h1:a<=1):a=1:=Nat.le_antisymm (J6 [a] X0 1 X0 1 rfl h1) (J6 [a] 1 X0 1 X0 rfl h0)
theorem o408 {a:Nat} (h0:0<a):(a:Int)-1=((a-1:Nat):Int):=Int.le_antisymm (J5 [(a:Int),(((a-(1:Nat)):Nat):Int)] (Z0-1) Z1 Z0 (Z1+1) rfl (N2 (@v5 a (1:Nat)))) (J5 [(a:Int),(((a-(1:Nat)):Nat):Int)] Z1 (Z0-1) (Z1+1) Z0 rfl (N2 (J9 (Nat.sub_add_cancel (Q9 (J5 [(a:Int)] 1 Z0 (0+1) Z0 rfl (g9 h0)))))))
theorem o409 {a:Prop} {b c:Nat} (h0:b-1+1<=c) (h1:c<b):a:=i0 (n9 [(b-(1:Nat)),c,b] 1 0 (X0+1) X1 (X1+1) X2 X2 (X0+1) rfl h0 h1 (@v5 b (1:Nat)))
theorem o410 {a b c:Nat} (h0:a=c/2) (h1:c<2*b):a<b:=h0▸Nat.div_lt_of_lt_mul h1
theorem o411 {a:Int} {b:Nat} {c:Prop} {d:Int} {e:Nat} (h0:b<e) (h1:(e:Int)+9<=a): -a<((b-1:Nat):Int)/\((b-1:Nat):Int)<a /\ -a<0/\0<a/\(c\/d=d):=⟨lz3 [a,(((b-(1:Nat)):Nat):Int),(e:Int)] ((ZE.g Z0)+1) Z1 (Z2+9) Z0 0 Z1 0 Z2 rfl h1 (Q8 (b-(1:Nat))) (Q8 e),⟨lz3 [a,(((b-(1:Nat)):Nat):Int),(b:Int),(e:Int)] (Z1+1) Z0 (Z2+1) Z3 (Z3+9) Z0 Z1 Z2 rfl (g9 h0) h1 (N2 (Nat.sub_le b (1:Nat))),⟨M6 [a,(e:Int)] ((ZE.g Z0)+1) 0 (Z1+9) Z0 0 Z1 rfl h1 (Q8 e),⟨M6 [a,(e:Int)] (0+1) Z0 (Z1+9) Z0 0 Z1 rfl h1 (Q8 e),Or.inr (rfl)⟩⟩⟩⟩
theorem o412 {a b:Nat} (h0:a<=b) (h1:¬((a:Int)<(b:Int))):a=b:=Nat.le_antisymm (Q9 (J5 [(a:Int),(b:Int)] Z0 Z1 Z0 Z1 rfl (N2 h0))) (Q9 (J5 [(a:Int),(b:Int)] Z1 Z0 Z1 Z0 rfl (Int.not_lt.mp h1)))
theorem o413 {a:Int} {b:Nat} {c:Prop} {d:Nat} (h0:b<d) (h1:(d:Int)+9<=a): -a<0/\0<a /\ -a<(b:Int)/\(b:Int)<a/\((1:Int)=(1:Int)\/c):=⟨M6 [a,(d:Int)] ((ZE.g Z0)+1) 0 (Z1+9) Z0 0 Z1 rfl h1 (Q8 d),⟨M6 [a,(d:Int)] (0+1) Z0 (Z1+9) Z0 0 Z1 rfl h1 (Q8 d),⟨lz3 [a,(b:Int),(d:Int)] ((ZE.g Z0)+1) Z1 (Z2+9) Z0 0 Z1 0 Z2 rfl h1 (Q8 b) (Q8 d),⟨M6 [a,(b:Int),(d:Int)] (Z1+1) Z0 (Z1+1) Z2 (Z2+9) Z0 rfl (g9 h0) h1,Or.inl (rfl)⟩⟩⟩⟩
theorem o414 {a b c d e:Nat} (h0:a<=c) (h1:c<=d) (h2:d<e) (h3:e+9<=b):a<b:=ln4 [a,b,c,d,e] (X0+1) X1 X0 X2 X2 X3 (X3+1) X4 (X4+9) X1 rfl h0 h1 h2 h3
theorem o415 {a b:Nat} (h0:0+(a:Int)<(b:Int)):a<=b-1:=Q9 (M6 [(a:Int),(((b-(1:Nat)):Nat):Int),(b:Int)] Z0 Z1 ((0+Z0)+1) Z2 Z2 (Z1+1) rfl h0 (N2 (@v5 b (1:Nat))))
theorem o416 {a b c:Nat} (h0:a<c) (h1:c+9<=b):a-1<b:=n9 [(a-(1:Nat)),b,a,c] (X0+1) X1 (X2+1) X3 (X3+9) X1 X0 X2 rfl h0 h1 (Nat.sub_le a (1:Nat))
theorem o417 {a b c:Nat} (h0:c<2*a):a-1-b<a:=Nat.lt_of_le_of_lt (Nat.sub_le _ _) (Nat.sub_lt (Nat.lt_of_le_of_lt (Nat.zero_le _) (Nat.div_lt_of_lt_mul h0)) (by decide))
theorem o418 {a b:Nat} (h0:(b:Int)<(a:Int)):1<=a-b:=Q9 (M6 [(((a-b):Nat):Int),(b:Int),(a:Int)] 1 Z0 (Z1+1) Z2 Z2 (Z0+Z1) rfl h0 (N2 (@v5 a b)))
theorem o419 {a b:Nat} (h0:1<=a-b):(a:Int)-(b:Int)=((a-b:Nat):Int):=(Int.ofNat_sub (Nat.le_of_lt (Nat.lt_of_sub_pos h0))).symm
theorem o420 {a b:Nat} (h0:1<=a-b):a-(b+1)+1=a-b:=Nat.sub_add_cancel h0
theorem o421 {a b c:Nat} (h0:(b:Int)-(c:Int)=(a:Int)):a<=b:=Q9 (M6 [(a:Int),(b:Int),(c:Int)] Z0 Z1 Z0 (Z1-Z2) 0 Z2 rfl (Int.le_of_eq (Eq.symm h0)) (Q8 c))
theorem o422 {a b:Nat} (h0:(a:Int)<(b:Int)):a+1<=b:=Q9 (J5 [(a:Int),(b:Int)] (Z0+1) Z1 (Z0+1) Z1 rfl h0)
theorem o423 {a b c d:Nat} (h0:b-c+1=d) (h1:a<d):(a:Int)<((b+1:Nat):Int):=lz3 [(a:Int),(b:Int),(((b-c):Nat):Int),(d:Int)] (Z0+1) (Z1+1) Z3 (Z2+1) (Z0+1) Z3 Z2 Z1 rfl (N2 (o0 h0)) (g9 h1) (N2 (Nat.sub_le b c))
theorem o424 {a b c:Nat} (h0:a<=3) (h1:b<=3*c):a+b<=3*(c+1):=K8 [a,b,c] (X0+X1) (LE.m 3 (X2+1)) X0 3 X1 (LE.m 3 X2) rfl h0 h1
theorem o425 {a:Nat} (h0:a+1<a):False:=i0 (J6 [a] 1 0 ((X0+1)+1) X0 rfl h0)
theorem o426 {a:Nat} (h0:a+2<=a+1):False:=i0 (J6 [a] 1 0 (X0+2) (X0+1) rfl h0)
theorem o427 {a b:Nat} (h0:a+2<=b):a+1<=b:=J6 [a,b] (X0+1) X1 (X0+2) X1 rfl h0
theorem o428 {a:Nat} (h0:a+2<=a):False:=i0 (J6 [a] 1 0 (X0+2) X0 rfl h0)
theorem o429 {a b c:Nat} (h0:a<=3*min b c):a<=3*b:=ln4 [a,b,(min b c)] X0 (LE.m 3 X1) X0 (LE.m 3 X2) X2 X1 X2 X1 X2 X1 rfl h0 (Nat.min_le_left b c) (Nat.min_le_left b c) (Nat.min_le_left b c)
theorem o430 {a b:Nat} (h0:a<b):(a:Int)<((b-1+1:Nat):Int):=M6 [(a:Int),(((b-(1:Nat)):Nat):Int),(b:Int)] (Z0+1) (Z1+1) (Z0+1) Z2 Z2 (Z1+1) rfl (g9 h0) (N2 (@v5 b (1:Nat)))
theorem o431 {a b c d:Nat} (h0:a<=3*b) (h1:b<c) (h2:c<=d) (h3:d<200):a<1000000:=Nat.lt_of_le_of_lt (Nat.le_trans h0 (Nat.mul_le_mul_left 3 (Nat.le_of_lt (Nat.lt_trans (Nat.lt_of_lt_of_le h1 h2) h3)))) (by decide)
theorem o432 {a b c d:Nat} (h0:a<=3*b) (h1:b<c) (h2:c<=d) (h3:d<200):a+(0+1)<1000000:=Nat.lt_of_le_of_lt (Nat.succ_le_succ (Nat.le_trans h0 (Nat.mul_le_mul_left 3 (Nat.le_of_lt (Nat.lt_trans (Nat.lt_of_lt_of_le h1 h2) h3))))) (by decide)
theorem o433 {a b c d:Nat} (h0:a<=3*b) (h1:b<c) (h2:c<=d) (h3:d<200):a+(0+1)+(0+1)<1000000:=Nat.lt_of_le_of_lt (Nat.succ_le_succ (Nat.succ_le_succ (Nat.le_trans h0 (Nat.mul_le_mul_left 3 (Nat.le_of_lt (Nat.lt_trans (Nat.lt_of_lt_of_le h1 h2) h3)))))) (by decide)
theorem o434 {a b c:Nat} (h0:a<=3*b) (h1:b<=c) (h2:c<200):a<1000000:=Nat.lt_of_le_of_lt (Nat.le_trans h0 (Nat.mul_le_mul_left 3 (Nat.le_of_lt (Nat.lt_of_le_of_lt h1 h2)))) (by decide)
theorem o435 {a:Nat}:a<=a+3:=ln0 [a] X0 (X0+3) rfl
theorem o436 {a:Nat}:a+3<a+4:=ln0 [a] ((X0+3)+1) (X0+4) rfl
theorem o437 {a:Nat}:Nat.succ a+2<=a+4:=ln0 [a] ((X0+1)+2) (X0+4) rfl
theorem o438 {a:Nat}:¬(0 < -(a:Int)):=λh_=>z10 (M6 [(a:Int)] 1 0 (0+1) (ZE.g Z0) 0 Z0 rfl h_ (Q8 a))
theorem o439 {a:Nat}:0<((a+1:Nat):Int):=J5 [(a:Int)] (0+1) (Z0+1) 0 Z0 rfl (Q8 a)
theorem o440 {a b:Nat} (h0:b<a):¬(a=b):=λh_=>i0 (K8 [b,a] 1 0 (X0+1) X1 X1 X0 rfl h0 (J9 h_))
theorem o441 {a b c:Nat} (h0:b<a) (h1:b≠c) (h2:c<a):(¬(a=b)/\¬(a=c))/\¬(b=c):=⟨⟨Nat.ne_of_gt h0,Nat.ne_of_gt h2⟩,h1⟩
theorem o442 {a b:Nat} (h0:a<b):¬((a:Int)=(b:Int)):=λh_=>z10 (M6 [(a:Int),(b:Int)] 1 0 (Z0+1) Z1 Z1 Z0 rfl (g9 h0) (Int.le_of_eq (Eq.symm h_)))
theorem o443 {a b c d:Nat} (h0:a=0\/a=c/2\/a=d/2) (h1:c<2*b) (h2:d<2*b):a<b:=h0.elim (λh=>h▸Nat.lt_of_le_of_lt (Nat.zero_le _) (Nat.div_lt_of_lt_mul h1)) λh=>h.elim (λh=>h▸Nat.div_lt_of_lt_mul h1) (λh=>h▸Nat.div_lt_of_lt_mul h2)
theorem o444 {a b c:Nat} (h0:a<c) (h1:c<b):a<b:=Nat.lt_trans h0 h1
theorem o445 {a b:Nat} (h0:a<2*b):a/2<b:=Nat.le_of_not_lt λh_=>i0 (ln4 [(a/(2:Nat)),b,a,(a%(2:Nat))] 1 0 (X2+1) (LE.m 2 X1) (X1+1) (X0+1) (X1+1) (X0+1) ((LE.m 2 X0)+X3) X2 rfl h0 h_ h_ (J9 (Nat.div_add_mod a 2)))
theorem o446 {a b:Nat} (h0:a<2*b):2*(a/2)/2<b:=Nat.le_of_not_lt λh_=>i0 (ln5 [(((2:Nat)*(a/(2:Nat)))/(2:Nat)),b,a,(((2:Nat)*(a/(2:Nat)))%(2:Nat)),(a/(2:Nat)),(a%(2:Nat))] 1 0 (X2+1) (LE.m 2 X1) (X1+1) (X0+1) (X1+1) (X0+1) ((LE.m 2 X0)+X3) (LE.m 2 X4) ((LE.m 2 X4)+X5) X2 rfl h0 h_ h_ (J9 (Nat.div_add_mod ((2:Nat)*(a/(2:Nat))) 2)) (J9 (Nat.div_add_mod a 2)))
theorem o447 {a b:Nat} (h0:a<2*b):(2*(a/2)+1)/2<b:=Nat.div_lt_of_lt_mul (o382 h0)
theorem o448 {a b c:Nat} (h0:a<2*c) (h1:c<=b):a<2*b:=n9 [a,b,c] (X0+1) (LE.m 2 X1) (X0+1) (LE.m 2 X2) X2 X1 X2 X1 rfl h0 h1 h1
theorem o449 {a b c d:Nat} (h0:a<d) (h1:b<=3) (h2:d+9<=c):a+b<c:=n9 [a,b,c,d] ((X0+X1)+1) X2 (X0+1) X3 X1 3 (X3+9) X2 rfl h0 h1 h2
theorem o450 {a b c:Nat} (h0:a<=3*b) (h1:b<=c) (h2:c<100):a+(0+1)<1000:=Nat.lt_of_le_of_lt (Nat.succ_le_succ (Nat.le_trans h0 (Nat.mul_le_mul_left 3 (Nat.le_of_lt (Nat.lt_of_le_of_lt h1 h2))))) (by decide)
theorem o451 {a b c d:Nat} (h0:a=c) (h1:c<d) (h2:d+9<=b):a<b:=n9 [a,b,c,d] (X0+1) X1 X0 X2 (X2+1) X3 (X3+9) X1 rfl (J9 h0) h1 h2
theorem o452 {a b c:Nat} (h0:a<=c) (h1:c+9<=b):a<b:=K8 [a,b,c] (X0+1) X1 X0 X2 (X2+9) X1 rfl h0 h1
theorem o453 {a:Nat}:a+1<a+2:=ln0 [a] ((X0+1)+1) (X0+2) rfl
theorem o454 {a:Nat}:Nat.succ a<=a+2:=ln0 [a] (X0+1) (X0+2) rfl
theorem o455 {a b:Nat} (h0:a<b) (h1:b<=4):((a+2:Nat):Int)<1000000:=M6 [(a:Int),(b:Int)] ((Z0+2)+1) 1000000 (Z0+1) Z1 Z1 4 rfl (g9 h0) (N2 h1)
theorem o456 {a b c:Nat} (h0:a<c) (h1:c<b):a+2<b+1:=K8 [a,b,c] ((X0+2)+1) (X1+1) (X0+1) X2 (X2+1) X1 rfl h0 h1
theorem o457 {a b:Nat} (h0:a<b) (h1:b<=4):a<1000000:=K8 [a,b] (X0+1) 1000000 (X0+1) X1 X1 4 rfl h0 h1
theorem o458 {a b:Nat} (h0:a<b):0+(a:Int)<(b:Int):=J5 [(a:Int),(b:Int)] ((0+Z0)+1) Z1 (Z0+1) Z1 rfl (g9 h0)
theorem o459 {a b:Nat} (h0:¬(a<b)):¬(0+(a:Int)<(b:Int)):=λh_=>z10 (M6 [(b:Int),(a:Int)] 1 0 Z0 Z1 ((0+Z1)+1) Z0 rfl (N2 (Nat.not_lt.mp h0)) h_)
theorem o460 {a b c d:Nat} (h0:a+c=d) (h1:d+9<=b):a<b:=K8 [a,b,c,d] (X0+1) X1 (X0+X2) X3 (X3+9) X1 rfl (J9 h0) h1
theorem o461 {a:Nat} {b:Int} {c:Nat} (h0:a<c) (h1:b=(c:Int)):(a:Int)<b:=M6 [(a:Int),b,(c:Int)] (Z0+1) Z1 (Z0+1) Z2 Z2 Z1 rfl (g9 h0) (Int.le_of_eq (Eq.symm h1))
theorem o462 {a:Nat} (h0:a<50):a<=49:=J6 [a] X0 49 (X0+1) 50 rfl h0
theorem o463 {a b c:Nat} (h0:b+a=c) (h1:b<c):a-1<a:=J6 [(a-(1:Nat)),a] (X0+1) X1 (X0+1) X1 rfl (J9 (Nat.sub_add_cancel (K8 [a,b,c] 1 X0 X2 (X1+X0) (X1+1) X2 rfl (o0 h0) h1)))
theorem o464 {a b c:Nat} (h0:a+b=c) (h1:a<c):a+1+(b-1)=c:=Nat.le_antisymm (K8 [a,(b-(1:Nat)),c,b] ((X0+1)+X1) X2 (X0+X3) X2 (X1+1) X3 rfl (J9 h0) (J9 (Nat.sub_add_cancel (K8 [b,a,c] 1 X0 X2 (X1+X0) (X1+1) X2 rfl (o0 h0) h1)))) (K8 [a,(b-(1:Nat)),c,b] X2 ((X0+1)+X1) X2 (X0+X3) X3 (X1+1) rfl (o0 h0) (@v5 b (1:Nat)))
theorem o465 {a:Int} {b c:Nat} (h0:¬(b<c)) (h1:a=(c:Int)):a<=(b:Int):=M6 [a,(b:Int),(c:Int)] Z0 Z1 Z2 Z1 Z0 Z2 rfl (N2 (Nat.not_lt.mp h0)) (Int.le_of_eq h1)
theorem o466 {a b c:Nat} (h0:a+c=b):a<=b:=J6 [a,b,c] X0 X1 (X0+X2) X1 rfl (J9 h0)
theorem o467 {a:Nat} (h0:1<=a):0<a:=J6 [a] (0+1) X0 1 X0 rfl h0
theorem o468 {a b:Nat} (h0:¬(a<=b)):¬((a:Int)<=(b:Int)):=λh_=>z10 (M6 [(b:Int),(a:Int)] 1 0 (Z0+1) Z1 Z1 Z0 rfl (g9 (Nat.not_le.mp h0)) h_)
theorem o469 {a b:Nat} (h0:¬(b<=a)):a+1<=b:=J6 [a,b] (X0+1) X1 (X0+1) X1 rfl (Nat.not_le.mp h0)
theorem o470 {a b:Nat} (h0:¬(b<=a)):a<b:=J6 [a,b] (X0+1) X1 (X0+1) X1 rfl (Nat.not_le.mp h0)
theorem o471 {a:Nat}:((a+1:Nat):Int)-1=(a:Int):=Int.le_antisymm (lz0 [(a:Int)] ((Z0+1)-1) Z0 rfl) (lz0 [(a:Int)] Z0 ((Z0+1)-1) rfl)
theorem o472 {a:Nat} (h0:1<=a):(a:Int)≠0:=λh_=>z10 (M6 [(a:Int)] 1 0 1 Z0 Z0 0 rfl (N2 h0) (Int.le_of_eq h_))
theorem o473 {a b c:Nat} (h0:a<c) (h1:c+9<=b):Int.natAbs (a:Int)<b:=Q9 (lz3 [(((Int.natAbs (a:Int)):Nat):Int),(b:Int),(a:Int),(c:Int)] (Z0+1) Z1 (Z2+1) Z3 (Z3+9) Z1 Z0 Z2 rfl (g9 h0) (N2 h1) (Int.le_of_eq (Int.natAbs_of_nonneg (J5 [(a:Int)] 0 Z0 0 Z0 rfl (Q8 a)))))
theorem o474 {a:Int} (h0:0<=a):((Int.toNat a:Nat):Int)=a:=Int.toNat_of_nonneg h0
theorem o475 {a:Int} {b:Nat} (h0:1<=b) (h1:a<(b:Int)):Int.toNat a<b:=(Int.toNat_lt' h0).mpr h1
theorem o476 {a:Nat} (h0:a%2=1):(1+(a:Int))%2=0:=congrArg (Nat.cast (R:=Int)) (show (1+a)%2=0 by rw [Nat.add_mod,h0])
theorem o477 {a:Nat} (h0:¬(a%2=1)):(1+(a:Int))%2=1:=congrArg (Nat.cast (R:=Int)) (show (1+a)%2=1 by rw [Nat.add_mod,evz h0])
theorem o478 {a:Prop} {b c:Nat} (h0:b<c) (h1:c<=0):a:=i0 (K8 [b,c] 1 0 (X0+1) X1 X1 0 rfl h0 h1)
theorem o479 {a b:Nat} (h0:a<=b+1) (h1:b<a):a=b+1:=Nat.le_antisymm (J6 [a,b] X0 (X1+1) X0 (X1+1) rfl h0) (J6 [a,b] (X1+1) X0 (X1+1) X0 rfl h1)
theorem o480 {a b c:Nat} (h0:a<c) (h1:b>=c):¬(a=b):=λh_=>i0 (n9 [a,c,b] 1 0 (X0+1) X1 X1 X2 X2 X0 rfl h0 h1 (o0 h_))
theorem o481 {a b:Nat} (h0:b+1<=a):¬(a=b):=λh_=>i0 (K8 [b,a] 1 0 (X0+1) X1 X1 X0 rfl h0 (J9 h_))
theorem o482 {a b:Nat} (h0:a+1<=b):a<b:=J6 [a,b] (X0+1) X1 (X0+1) X1 rfl h0
theorem o483 {a b c:Nat} (h0:((c+1:Nat):Int)=(a:Int)) (h1:c<b):1<=a/\a<=b:=⟨Q9 (M6 [(a:Int),(c:Int)] 1 Z0 (Z1+1) Z0 0 Z1 rfl (Int.le_of_eq h0) (Q8 c)),Q9 (M6 [(a:Int),(c:Int),(b:Int)] Z0 Z2 Z0 (Z1+1) (Z1+1) Z2 rfl (Int.le_of_eq (Eq.symm h0)) (g9 h1))⟩
theorem o484 {a b:Nat} (h0:1<=a) (h1:a<=b):a-1<b:=K8 [(a-(1:Nat)),b,a] (X0+1) X1 X2 X1 (X0+1) X2 rfl h1 (J9 (Nat.sub_add_cancel (J6 [a] 1 X0 1 X0 rfl h0)))
theorem o485 {a:Nat} (h0:1<=a):((a-1+1:Nat):Int)=(a:Int):=Int.le_antisymm (J5 [(((a-(1:Nat)):Nat):Int),(a:Int)] (Z0+1) Z1 (Z0+1) Z1 rfl (N2 (J9 (Nat.sub_add_cancel (Q9 (J5 [(a:Int)] 1 Z0 1 Z0 rfl (N2 h0))))))) (J5 [(((a-(1:Nat)):Nat):Int),(a:Int)] Z1 (Z0+1) Z1 (Z0+1) rfl (N2 (@v5 a (1:Nat))))
theorem o511 {a:Nat} (h0:1<=a) (h1:a<=4):a=1\/a=2\/a=3\/a=4:=(o335 h1).resolve_left (Nat.ne_of_gt h0)
theorem o486 {a b:Nat} (h0:a<=4) (h1:b<a):a=1\/a=2\/a=3\/a=4:=o511 (Nat.lt_of_le_of_lt (Nat.zero_le b) h1) h0
theorem o560 {a:Nat} (h0:a<4):a=0\/a=1\/a=2\/a=3:=by revert h0;revert a;decide
theorem o487 {a b:Nat} (h0:a<b) (h1:b<=4):a=0\/a=1\/a=2\/a=3:=o560 (Nat.lt_of_lt_of_le h0 h1)
theorem o494 {a b:Nat} (h0:b<a):a-1+1=a:=Nat.le_antisymm (J6 [(a-(1:Nat)),a] (X0+1) X1 (X0+1) X1 rfl (J9 (Nat.sub_add_cancel (J6 [a,b] 1 X0 (X1+1) X0 rfl h0)))) (J6 [(a-(1:Nat)),a] X1 (X0+1) X1 (X0+1) rfl (@v5 a (1:Nat)))
theorem o495 {a b:Nat} (h0:0+(a:Int)<(b:Int)):a<b:=Q9 (J5 [(a:Int),(b:Int)] (Z0+1) Z1 ((0+Z0)+1) Z1 rfl h0)
theorem o496 {a b:Nat} (h0:1<=a/\a<=b) (h1:b<=4):a=1\/a=2\/a=3\/a=4:=o511 h0.1 (Nat.le_trans h0.2 h1)
theorem o497 {a:Nat} {b:Prop} (h0:1<=a/\b):¬(a=0):=λh_=>i0 (K8 [a] 1 0 1 X0 X0 0 rfl (And.left h0) (J9 h_))
theorem o498 {a:Nat} (h0:a<=4):a<1000000:=J6 [a] (X0+1) 1000000 X0 4 rfl h0
theorem o499 {a:Nat} {b:Int} {c d:Nat} (h0:0+(a:Int)<(c:Int)) (h1:c<d) (h2:(d:Int)+9<=b):((a-1:Nat):Int)<=b:=lz4 [(((a-(1:Nat)):Nat):Int),b,(a:Int),(c:Int),(d:Int)] Z0 Z1 ((0+Z2)+1) Z3 (Z3+1) Z4 (Z4+9) Z1 Z0 Z2 rfl h0 (g9 h1) h2 (N2 (Nat.sub_le a (1:Nat)))
theorem o500 {a:Nat} (h0:a<=8):Int.natAbs (a:Int)<1073741824:=Q9 (M6 [(((Int.natAbs (a:Int)):Nat):Int),(a:Int)] (Z0+1) 1073741824 Z1 8 Z0 Z1 rfl (N2 h0) (Int.le_of_eq (Int.natAbs_of_nonneg (J5 [(a:Int)] 0 Z0 0 Z0 rfl (Q8 a)))))
theorem o501 {a:Int} {b:Nat} (h0:0+a<(b:Int)):a<((b-1+1:Nat):Int):=M6 [a,(((b-(1:Nat)):Nat):Int),(b:Int)] (Z0+1) (Z1+1) ((0+Z0)+1) Z2 Z2 (Z1+1) rfl h0 (N2 (@v5 b (1:Nat)))
theorem o502 {a b:Nat} (h0:b>0) (h1:¬(1<=b/\b<=a)):a<b:=Nat.not_le.mp λh=>h1 ⟨h0,h⟩
theorem o503 {a b c:Nat} (h0:0+(c:Int)<(b:Int)) (h1:a<c):a<=b-1:=Q9 (lz3 [(a:Int),(((b-(1:Nat)):Nat):Int),(c:Int),(b:Int)] Z0 Z1 ((0+Z2)+1) Z3 (Z0+1) Z2 Z3 (Z1+1) rfl h0 (g9 h1) (N2 (@v5 b (1:Nat))))
theorem o504 {a b:Nat} (h0:a<b):a+b<b*2:=by rw [Nat.mul_two];exact Nat.add_lt_add_right h0 b
theorem o505 {a b:Nat} (h0:a<b):a+0<b*2:=by rw [Nat.mul_two];exact Nat.lt_of_lt_of_le h0 (Nat.le_add_right b b)
theorem o506 {a:Prop} {b:Nat} (h0:b<0):a:=i0 (J6 [b] 1 0 (X0+1) 0 rfl h0)
theorem o507 {a b:Nat} (h0:b<a):a=b+Nat.succ (a-b-1):=(Nat.add_sub_of_le (Nat.le_of_lt h0)).symm.trans (congrArg (b + ·) (Nat.sub_add_cancel (Nat.sub_pos_of_lt h0)).symm)
theorem o508 {a b:Nat}:(a+2*b)%2=1↔a%2=1:=by rw [Nat.add_mul_mod_self_left]
theorem o509 {a:Nat} (h0:1<=a):a-1+2=a+1:=congrArg (· + 1) (Nat.sub_add_cancel h0)
theorem o510 {a b:Nat} (h0:b<a):¬((a:Int)=(b:Int)):=λh_=>z10 (M6 [(b:Int),(a:Int)] 1 0 (Z0+1) Z1 Z1 Z0 rfl (g9 h0) (Int.le_of_eq h_))
theorem o512 {a:Nat} (h0:a<=4):(a:Int)<=1000000:=J5 [(a:Int)] Z0 1000000 Z0 4 rfl (N2 h0)
theorem o513 {a:Int} {b:Nat} {c:Prop} {d:Nat} (h0:b<=d) (h1:(d:Int)+9<=a): -a<0/\0<a /\ -a<(b:Int)/\(b:Int)<a/\((1:Int)=(1:Int)\/c):=⟨M6 [a,(d:Int)] ((ZE.g Z0)+1) 0 (Z1+9) Z0 0 Z1 rfl h1 (Q8 d),⟨M6 [a,(d:Int)] (0+1) Z0 (Z1+9) Z0 0 Z1 rfl h1 (Q8 d),⟨lz3 [a,(b:Int),(d:Int)] ((ZE.g Z0)+1) Z1 (Z2+9) Z0 0 Z1 0 Z2 rfl h1 (Q8 b) (Q8 d),⟨M6 [a,(b:Int),(d:Int)] (Z1+1) Z0 Z1 Z2 (Z2+9) Z0 rfl (N2 h0) h1,Or.inl (rfl)⟩⟩⟩⟩
theorem o514 {a b:Nat} (h0:b<=a) (h1:¬(0+(b:Int)<(a:Int))):a=b:=Nat.le_antisymm (Q9 (J5 [(a:Int),(b:Int)] Z0 Z1 Z0 (0+Z1) rfl (Int.not_lt.mp h1))) (Q9 (J5 [(a:Int),(b:Int)] Z1 Z0 Z1 Z0 rfl (N2 h0)))
theorem o515 {a b:Nat}:a<=a+1+b:=ln0 [a,b] X0 ((X0+1)+X1) rfl
theorem o516 {a b:Nat}:a+1+b<a+2+b:=ln0 [a,b] (((X0+1)+X1)+1) ((X0+2)+X1) rfl
theorem o517 {a b:Nat}:a+1+b<=a+2+b:=ln0 [a,b] ((X0+1)+X1) ((X0+2)+X1) rfl
theorem o518 {a b:Nat}:a<a+2+b:=ln0 [a,b] (X0+1) ((X0+2)+X1) rfl
theorem o519 {a b c:Nat} (h0:a<b):a<b+2+c:=J6 [a,b,c] (X0+1) ((X1+2)+X2) (X0+1) X1 rfl h0
theorem o520 {a:Nat} (h0:a<=4):a<60:=J6 [a] (X0+1) 60 X0 4 rfl h0
theorem o521 {a:Nat} (h0:1<=a):a=a-1+1:=Nat.le_antisymm (J6 [a,(a-(1:Nat))] X0 (X1+1) X0 (X1+1) rfl (@v5 a (1:Nat))) (J6 [a,(a-(1:Nat))] (X1+1) X0 (X1+1) X0 rfl (J9 (Nat.sub_add_cancel (J6 [a] 1 X0 1 X0 rfl h0))))
theorem o523 {a b c:Nat} (h0:a<=c) (h1:c+9<=b):a<=b:=K8 [a,b,c] X0 X1 X0 X2 (X2+9) X1 rfl h0 h1
theorem o524 {a:Nat} (h0:a<=4):a<=100:=J6 [a] X0 100 X0 4 rfl h0
theorem o525 {a:Nat} {b:Prop} (h0:a<=4): -(1000000:Int)<(0:Int)/\(0:Int)<(1000000:Int) /\ -1000000<(a:Int)/\(a:Int)<1000000/\((1:Int)=(1:Int)\/b):=⟨lz0 [] ((ZE.g 1000000)+1) 0 rfl,⟨lz0 [] (0+1) 1000000 rfl,⟨J5 [(a:Int)] ((ZE.g 1000000)+1) Z0 0 Z0 rfl (Q8 a),⟨J5 [(a:Int)] (Z0+1) 1000000 Z0 4 rfl (N2 h0),Or.inl (rfl)⟩⟩⟩⟩
theorem o526 {a b:Nat} (h0:a<=b) (h1:b<=4):a<1000000:=K8 [a,b] (X0+1) 1000000 X0 X1 X1 4 rfl h0 h1
theorem o527 {a:Int} {b:Nat} (h0:0+a<(b:Int)) (h1:b<=4):a<=1000000:=M6 [a,(b:Int)] Z0 1000000 ((0+Z0)+1) Z1 Z1 4 rfl h0 (N2 h1)
theorem o528 {a b:Nat} (h0:a+(b+1)<=a+b):False:=i0 (J6 [a,b] 1 0 (X0+(X1+1)) (X0+X1) rfl h0)
theorem o529 {a b:Nat} (h0:a+1+b<a):False:=i0 (J6 [a,b] 1 0 (((X0+1)+X1)+1) X0 rfl h0)
theorem o530 {a b c d e:Nat} (h0:0+(c:Int)<(d:Int)) (h1:a<=c) (h2:d<=e) (h3:e+9<=b):a<b:=Q9 (lz4 [(a:Int),(b:Int),(c:Int),(d:Int),(e:Int)] (Z0+1) Z1 ((0+Z2)+1) Z3 Z0 Z2 Z3 Z4 (Z4+9) Z1 rfl h0 (N2 h1) (N2 h2) (N2 h3))
theorem o531 (h0:(1:Nat)<=(0:Nat)):False:=i0 (J6 [] 1 0 1 0 rfl h0)
theorem o532 {a:Nat} (h0:2<=a):a≠1:=λh_=>i0 (K8 [a] 1 0 2 X0 X0 1 rfl h0 (J9 h_))
theorem o533 {a:Nat} (h0:2<=a):1<=a:=J6 [a] 1 X0 2 X0 rfl h0
theorem o534 {a:Nat} (h0:3<=a):a≠2:=λh_=>i0 (K8 [a] 1 0 3 X0 X0 2 rfl h0 (J9 h_))
theorem o535 (h0:(3:Nat)<=(2:Nat)):False:=i0 (J6 [] 1 0 3 2 rfl h0)
theorem o536 {a:Nat} (h0:3<=a):2<=a:=J6 [a] 2 X0 3 X0 rfl h0
theorem o537 (h0:(3:Nat)<=(1:Nat)):False:=i0 (J6 [] 1 0 3 1 rfl h0)
theorem o538 {a b:Nat} (h0:b=2+a):2+(a:Int)=(b:Int):=Int.le_antisymm (J5 [(a:Int),(b:Int)] (2+Z0) Z1 (2+Z0) Z1 rfl (N2 (o0 h0))) (J5 [(a:Int),(b:Int)] Z1 (2+Z0) Z1 (2+Z0) rfl (N2 (J9 h0)))
theorem o539 {a:Nat} {b:Prop} {c:Nat} (h0:a=2+c) (h1:c<3): -(1000000:Int)<(0:Int)/\(0:Int)<(1000000:Int) /\ -1000000<(a:Int)/\(a:Int)<1000000/\((1:Int)=(1:Int)\/b):=⟨lz0 [] ((ZE.g 1000000)+1) 0 rfl,⟨lz0 [] (0+1) 1000000 rfl,⟨J5 [(a:Int)] ((ZE.g 1000000)+1) Z0 0 Z0 rfl (Q8 a),⟨M6 [(a:Int),(c:Int)] (Z0+1) 1000000 Z0 (2+Z1) (Z1+1) 3 rfl (N2 (J9 h0)) (g9 h1),Or.inl (rfl)⟩⟩⟩⟩
theorem o540 {a b c:Nat} (h0:0+(a:Int)<(b:Int)) (h1:b=2+c) (h2:c<3):a<100:=Q9 (lz3 [(a:Int),(b:Int),(c:Int)] (Z0+1) 100 ((0+Z0)+1) Z1 Z1 (2+Z2) (Z2+1) 3 rfl h0 (N2 (J9 h1)) (g9 h2))
theorem o541 {a:Nat} (h0:a<7):a<1000:=J6 [a] (X0+1) 1000 (X0+1) 7 rfl h0
theorem o542 {a b:Nat} (h0:b<a):1<=a:=J6 [a,b] 1 X0 (X1+1) X0 rfl h0
theorem o543 {a b:Nat} (h0:b<a):(a:Int)-1-(b:Int)=((a-1-b:Nat):Int):=by rw [Int.ofNat_sub (Nat.le_sub_one_of_lt h0),Int.ofNat_sub (Nat.lt_of_le_of_lt (Nat.zero_le b) h0)];rfl
theorem o544 {a b:Nat} (h0:b<a):a-1-b<a:=K8 [((a-(1:Nat))-b),a,(a-(1:Nat))] (X0+1) X1 X0 X2 (X2+1) X1 rfl (Nat.sub_le (a-(1:Nat)) b) (J9 (Nat.sub_add_cancel (J6 [a,b] 1 X0 (X1+1) X0 rfl h0)))
theorem o545 {a b c d:Nat} (h0:a<=c+d) (h1:b<=1):a+b<=c+(d+1):=K8 [a,b,c,d] (X0+X1) (X2+(X3+1)) X0 (X2+X3) X1 1 rfl h0 h1
theorem o546 {a b c d:Nat} (h0:a<=b+1+c) (h1:c<=d) (h2:d<7):a<=b+7:=n9 [a,b,c,d] X0 (X1+7) X0 ((X1+1)+X2) X2 X3 (X3+1) 7 rfl h0 h1 h2
theorem o547 {a b:Nat} (h0:a=2+b):2<=a:=J6 [a,b] 2 X0 (2+X1) X0 rfl (o0 h0)
theorem o548 {a b:Nat} (h0:a=2+b) (h1:b<3):a<=4:=K8 [a,b] X0 4 X0 (2+X1) (X1+1) 3 rfl (J9 h0) h1
theorem o549 {a b c:Nat} (h0:a<=b+7) (h1:b=2+c) (h2:c<3):a<500:=n9 [a,b,c] (X0+1) 500 X0 (X1+7) X1 (2+X2) (X2+1) 3 rfl h0 (J9 h1) h2
theorem o550 {a b:Nat} (h0:b<a):((2*a:Nat):Int)-2=((2*a-2:Nat):Int):=Int.le_antisymm (J5 [(a:Int),(((((2:Nat)*a)-(2:Nat)):Nat):Int)] ((ZE.m 2 Z0)-2) Z1 (ZE.m 2 Z0) (Z1+2) rfl (N2 (@v5 ((2:Nat)*a) (2:Nat)))) (J5 [(a:Int),(((((2:Nat)*a)-(2:Nat)):Nat):Int)] Z1 ((ZE.m 2 Z0)-2) (Z1+2) (ZE.m 2 Z0) rfl (N2 (J9 (Nat.sub_add_cancel (Q9 (lz4 [(a:Int),(b:Int)] 2 (ZE.m 2 Z0) (Z1+1) Z0 (Z1+1) Z0 0 Z1 0 Z1 rfl (g9 h0) (g9 h0) (Q8 b) (Q8 b)))))))
theorem o551 {a b c:Nat} (h0:b<a) (h1:b=2+c):1<=2*a-2:=n9 [(((2:Nat)*a)-(2:Nat)),b,a,c] 1 X0 (X1+1) X2 (2+X3) X1 (LE.m 2 X2) (X0+2) rfl h0 (o0 h1) (@v5 ((2:Nat)*a) (2:Nat))
theorem o555 {a b c:Nat} (h0:a<=b+7) (h1:b=2+c) (h2:c<3):2*a<10000:=Nat.lt_of_le_of_lt (show 2*a<=2*11 from Nat.mul_le_mul_left 2 (n9 [a,b,c] X0 11 X0 (X1+7) X1 (2+X2) (X2+1) 3 rfl h0 (J9 h1) h2)) (by decide)
theorem o552 {a b c:Nat} (h0:a<=b+7) (h1:b=2+c) (h2:c<3):2*a-2<10000:=Nat.lt_of_le_of_lt (Nat.sub_le _ _) (o555 h0 h1 h2)
theorem o553 {a:Nat}:2+(a:Int)=((2+a:Nat):Int):=Int.le_antisymm (lz0 [(a:Int)] (2+Z0) (2+Z0) rfl) (lz0 [(a:Int)] (2+Z0) (2+Z0) rfl)
theorem o554 {a b:Nat} (h0:b<a):1<=2*a:=J6 [a,b] 1 (LE.m 2 X0) (X1+1) X0 rfl h0
theorem o556 {a b:Nat} (h0:a<b-2):2+a<b:=Nat.add_lt_of_lt_sub' h0
theorem o557 {a b:Nat} (h0:a=2+b):1<=a:=J6 [a,b] 1 X0 (2+X1) X0 rfl (o0 h0)
theorem o558 {a:Nat} (h0:a<4):a+1<=4:=J6 [a] (X0+1) 4 (X0+1) 4 rfl h0
theorem o559 {a b c d:Nat} (h0:a<=c+3*d) (h1:b<=3):a+b<=c+3*(d+1):=K8 [a,b,c,d] (X0+X1) (X2+(LE.m 3 (X3+1))) X0 (X2+(LE.m 3 X3)) X1 3 rfl h0 h1
theorem byc {P:Prop} (h:¬P->False):P:=Classical.byContradiction h
inductive Vr where
 | literal | number | aig | literals | used | node | left | right | clauses | variables | out
 | place | rest | bits | clause | kept | self | count | reason | variable_ | level | length | false_ | row | conflict
 | first | other | seen | open_count | skipped | best | assumptions | most | conflicts | since | turn | back | value | answer
 | solver | inputs | values | l | r | sign | script | seed | cell | many | line | found | spot | lap | size | second | differs | told | at_
 | zz (h:False)
noncomputable def Vr.ctorIdx (x:Vr):Nat:=@Vr.casesOn (λ_=>Nat) x (nat_lit 0) (nat_lit 1) (nat_lit 2) (nat_lit 3) (nat_lit 4) (nat_lit 5) (nat_lit 6) (nat_lit 7) (nat_lit 8) (nat_lit 9) (nat_lit 10) (nat_lit 11) (nat_lit 12) (nat_lit 13) (nat_lit 14) (nat_lit 15) (nat_lit 16) (nat_lit 17) (nat_lit 18) (nat_lit 19) (nat_lit 20) (nat_lit 21) (nat_lit 22) (nat_lit 23) (nat_lit 24) (nat_lit 25) (nat_lit 26) (nat_lit 27) (nat_lit 28) (nat_lit 29) (nat_lit 30) (nat_lit 31) (nat_lit 32) (nat_lit 33) (nat_lit 34) (nat_lit 35) (nat_lit 36) (nat_lit 37) (nat_lit 38) (nat_lit 39) (nat_lit 40) (nat_lit 41) (nat_lit 42) (nat_lit 43) (nat_lit 44) (nat_lit 45) (nat_lit 46) (nat_lit 47) (nat_lit 48) (nat_lit 49) (nat_lit 50) (nat_lit 51) (nat_lit 52) (nat_lit 53) (nat_lit 54) (nat_lit 55) (nat_lit 56) (nat_lit 57) (λ_=>nat_lit 58)
noncomputable def Vr.all:List Vr:=[.literal,.number,.aig,.literals,.used,.node,.left,.right,.clauses,.variables,.out,.place,.rest,.bits,.clause,.kept,.self,.count,.reason,.variable_,.level,.length,.false_,.row,.conflict,.first,.other,.seen,.open_count,.skipped,.best,.assumptions,.most,.conflicts,.since,.turn,.back,.value,.answer,.solver,.inputs,.values,.l,.r,.sign,.script,.seed,.cell,.many,.line,.found,.spot,.lap,.size,.second,.differs,.told,.at_]
theorem Vr.ui (x:Vr):Vr.all[x.ctorIdx]? = some x:=by cases x <;> first | contradiction | rfl
theorem Vr.ij {a b:Vr} (h:a.ctorIdx=b.ctorIdx):a=b:=Option.some.inj (a.ui.symm.trans (h▸b.ui))
noncomputable instance:DecidableEq Vr:=λa b=>if h:a.ctorIdx=b.ctorIdx then .isTrue (Vr.ij h) else .isFalse λe=>h (e▸rfl)
noncomputable def Vr.str:Vr->Str
 | .literal=>"literal" | .number=>"number" | .aig=>"aig" | .literals=>"literals" | .used=>"used" | .node=>"node"
 | .left=>"left" | .right=>"right" | .clauses=>"clauses" | .variables=>"variables" | .out=>"out" | .place=>"place"
 | .rest=>"rest" | .bits=>"bits" | .clause=>"clause" | .kept=>"kept" | .self=>"self" | .count=>"count" | .reason=>"reason"
 | .variable_=>"variable" | .level=>"level" | .length=>"length" | .false_=>"false" | .row=>"row" | .conflict=>"conflict"
 | .first=>"first" | .other=>"other" | .seen=>"seen" | .open_count=>"open_count" | .skipped=>"skipped" | .best=>"best"
 | .assumptions=>"assumptions" | .most=>"most" | .conflicts=>"conflicts" | .since=>"since" | .turn=>"turn" | .back=>"back"
 | .value=>"value" | .answer=>"answer" | .solver=>"solver" | .inputs=>"inputs" | .values=>"values" | .l=>"l" | .r=>"r"
 | .sign=>"sign" | .script=>"script" | .seed=>"seed" | .cell=>"cell" | .many=>"many" | .line=>"line" | .found=>"found"
 | .spot=>"spot" | .lap=>"lap" | .size=>"size" | .second=>"second" | .differs=>"differs" | .told=>"told" | .at_=>"at"
inductive At where
 | count | clauses | watches | values | levels | reasons | phases | activity | step | trail | limits | head | learned | refuted | found
 | nodes | inputs | outputs | table
 | zz (h:False)
noncomputable def At.ctorIdx (x:At):Nat:=@At.casesOn (λ_=>Nat) x (nat_lit 0) (nat_lit 1) (nat_lit 2) (nat_lit 3) (nat_lit 4) (nat_lit 5) (nat_lit 6) (nat_lit 7) (nat_lit 8) (nat_lit 9) (nat_lit 10) (nat_lit 11) (nat_lit 12) (nat_lit 13) (nat_lit 14) (nat_lit 15) (nat_lit 16) (nat_lit 17) (nat_lit 18) (λ_=>nat_lit 19)
noncomputable def At.all:List At:=[.count,.clauses,.watches,.values,.levels,.reasons,.phases,.activity,.step,.trail,.limits,.head,.learned,.refuted,.found,.nodes,.inputs,.outputs,.table]
theorem At.ui (x:At):At.all[x.ctorIdx]? = some x:=by cases x <;> first | contradiction | rfl
theorem At.ij {a b:At} (h:a.ctorIdx=b.ctorIdx):a=b:=Option.some.inj (a.ui.symm.trans (h▸b.ui))
noncomputable instance:DecidableEq At:=λa b=>if h:a.ctorIdx=b.ctorIdx then .isTrue (At.ij h) else .isFalse λe=>h (e▸rfl)
noncomputable def At.str:At->Str
 | .count=>"count" | .clauses=>"clauses" | .watches=>"watches" | .values=>"values" | .levels=>"levels" | .reasons=>"reasons"
 | .phases=>"phases" | .activity=>"activity" | .step=>"step" | .trail=>"trail" | .limits=>"limits" | .head=>"head"
 | .learned=>"learned" | .refuted=>"refuted" | .found=>"found" | .nodes=>"nodes" | .inputs=>"inputs" | .outputs=>"outputs"
 | .table=>"table"
set_option genCtorIdx true in
inductive Kl where | aig | solver
 deriving DecidableEq
noncomputable def At.kl:At->Kl
 | .nodes | .inputs | .outputs | .table=>.aig
 | _=>.solver
noncomputable def Kl.str:Kl->Str | .aig=>"Aig" | .solver=>"Solver"
inductive Fn where
 | variable_of | cone_nodes | aig_cnf | luby | slot | plain_clause
 | s_init | value | level | add | attach | learn | refute | assign | decide | cancel | propagate | still_watched | forces | bump
 | analyze | ordered | free_variable | assume | solve | leave | model
 | difference_clauses | loaded_solver | solver_difference
 | a_init | add_input | is_and | land | lor | lxor
 | law_seed | law_from | law_bits | law_side | law
 | zz (h:False)
noncomputable def Fn.ctorIdx (x:Fn):Nat:=@Fn.casesOn (λ_=>Nat) x (nat_lit 0) (nat_lit 1) (nat_lit 2) (nat_lit 3) (nat_lit 4) (nat_lit 5) (nat_lit 6) (nat_lit 7) (nat_lit 8) (nat_lit 9) (nat_lit 10) (nat_lit 11) (nat_lit 12) (nat_lit 13) (nat_lit 14) (nat_lit 15) (nat_lit 16) (nat_lit 17) (nat_lit 18) (nat_lit 19) (nat_lit 20) (nat_lit 21) (nat_lit 22) (nat_lit 23) (nat_lit 24) (nat_lit 25) (nat_lit 26) (nat_lit 27) (nat_lit 28) (nat_lit 29) (nat_lit 30) (nat_lit 31) (nat_lit 32) (nat_lit 33) (nat_lit 34) (nat_lit 35) (nat_lit 36) (nat_lit 37) (nat_lit 38) (nat_lit 39) (nat_lit 40) (λ_=>nat_lit 41)
noncomputable def Fn.all:List Fn:=[.variable_of,.cone_nodes,.aig_cnf,.luby,.slot,.plain_clause,.s_init,.value,.level,.add,.attach,.learn,.refute,.assign,.decide,.cancel,.propagate,.still_watched,.forces,.bump,.analyze,.ordered,.free_variable,.assume,.solve,.leave,.model,.difference_clauses,.loaded_solver,.solver_difference,.a_init,.add_input,.is_and,.land,.lor,.lxor,.law_seed,.law_from,.law_bits,.law_side,.law]
theorem Fn.ui (x:Fn):Fn.all[x.ctorIdx]? = some x:=by cases x <;> first | contradiction | rfl
theorem Fn.ij {a b:Fn} (h:a.ctorIdx=b.ctorIdx):a=b:=Option.some.inj (a.ui.symm.trans (h▸b.ui))
noncomputable instance:DecidableEq Fn:=λa b=>if h:a.ctorIdx=b.ctorIdx then .isTrue (Fn.ij h) else .isFalse λe=>h (e▸rfl)
noncomputable def Fn.str:Fn->Str
 | .variable_of=>"variable_of" | .cone_nodes=>"cone_nodes" | .aig_cnf=>"aig_cnf" | .luby=>"luby" | .slot=>"slot"
 | .plain_clause=>"plain_clause" | .s_init=>"__init__" | .value=>"value" | .level=>"level" | .add=>"add" | .attach=>"attach"
 | .learn=>"learn" | .refute=>"refute" | .assign=>"assign" | .decide=>"decide" | .cancel=>"cancel" | .propagate=>"propagate"
 | .still_watched=>"still_watched" | .forces=>"forces" | .bump=>"bump" | .analyze=>"analyze" | .ordered=>"ordered"
 | .free_variable=>"free_variable" | .assume=>"assume" | .solve=>"solve" | .leave=>"leave" | .model=>"model"
 | .difference_clauses=>"difference_clauses" | .loaded_solver=>"loaded_solver" | .solver_difference=>"solver_difference"
 | .a_init=>"__init__" | .add_input=>"add_input" | .is_and=>"is_and" | .land=>"land" | .lor=>"lor" | .lxor=>"lxor"
 | .law_seed=>"_law_seed" | .law_from=>"_law_from" | .law_bits=>"_law_bits" | .law_side=>"_law_side" | .law=>"law"
noncomputable def Fn.kl:Fn->Option Kl
 | .s_init | .value | .level | .add | .attach | .learn | .refute | .assign | .decide | .cancel | .propagate | .still_watched | .forces | .bump
 | .analyze | .ordered | .free_variable | .assume | .solve | .leave | .model=>some .solver
 | .a_init | .add_input | .is_and | .land | .lor | .lxor=>some .aig
 | _=>none
noncomputable def Kl.init:Kl->Fn | .aig=>.a_init | .solver=>.s_init
set_option genCtorIdx true in
inductive Cs0 where | unit | limit | scale
 deriving DecidableEq
noncomputable def Cs0.str:Cs0->Str | .unit=>"RESTART_UNIT" | .limit=>"ACTIVITY_LIMIT" | .scale=>"ACTIVITY_SCALE"
noncomputable def Cs0.val:Cs0->Int | .unit=>32 | .limit=>1000000000000 | .scale=>1000000
set_option genCtorIdx true in
inductive V (N:Type) where
 | none | bool (b:Bool) | int (i:Int) | tup (vs:List (V N)) | ref (n:N)
set_option genCtorIdx true in
inductive O (N:Type) where
 | list (xs:List (V N))
 | flist (xs:List (V N))
 | idict (es:List (Int×V N)) (ep:Nat)
 | tdict (es:List (List Int×V N))
 | inst (k:Kl) (f:At->Option (V N))
set_option genCtorIdx true in
inductive BOp where | add | sub | mul | fdiv | mod | pow | shl | shr | band | bxor
 deriving DecidableEq
set_option genCtorIdx true in
inductive COp where | eq | ne | lt | le | gt | ge
 deriving DecidableEq
set_option genCtorIdx true in
inductive Bi where | len | abs | list | tuple | sorted | sum
 deriving DecidableEq
set_option genCtorIdx true in
inductive Bm where | append | pop | index | get | bitlen
 deriving DecidableEq
mutual
inductive E where
 | none | bool (b:Bool) | int (i:Int) | var (x:Vr) | cst (c:Cs0)
 | bin (op:BOp) (a b:E) | neg (a:E)
 | cmp (op:COp) (a b:E) | isNone (a:E) | notNone (a:E)
 | eqDict0 (a:E) | eqList0 (a:E) | isIn (a b:E)
 | attr (e:E) (a:At) | sub (e i:E) | slice (e hi:E)
 | list (es:Es) | tup (es:Es) | idict0 | tdict0
 | rep (x n:E) | cat1 (x e:E)
 | ite (c:C) (a b:E)
 | call (f:Fn) (args:Es) | meth (o:E) (m:Fn) (args:Es) | new (k:Kl) (args:Es)
 | bi (b:Bi) (a:E) | bm (m:Bm) (o:E) (args:Es)
 | comp (elt:E) (x:Vr) (src:Src) (cond:Cs)
inductive Es where
 | nil | cons (e:E) (es:Es)
inductive C where
 | cmp (op:COp) (a b:E) | isNone (a:E) | notNone (a:E) | isIn (a b:E) | notIn (a b:E) | and (cs:Cs) | or (cs:Cs) | not (c:C) | val (e:E)
inductive Cs where
 | nil | cons (c:C) (cs:Cs)
inductive Src where
 | range (args:Es) | seq (e:E)
end
set_option genCtorIdx true in
inductive Tg where | one (x:Vr) | two (x y:Vr)
mutual
inductive S where
 | pass | cont | brk | retNone | ret (e:E)
 | set (x:Vr) (e:E) | set2 (x y:Vr) (e:E) | swap (x y:Vr) (a b:E)
 | setAttr (o:E) (a:At) (e:E) | setSub (o i e:E) | setSub2 (o i o' i':E) (a b:E)
 | augSub (o i:E) (op:BOp) (e:E)
 | expr (e:E) | ite (c:C) (t f:Ss) | while (c:C) (b:Ss) | for_ (t:Tg) (src:Src) (b:Ss)
inductive Ss where
 | nil | cons (s:S) (ss:Ss)
end
section
variable {N:Type} [DecidableEq N]
abbrev Hp (N:Type):=N->Option (O N)
abbrev Lc (N:Type):=Vr->Option (V N)
noncomputable def Hp.set (H:Hp N) (n:N) (o:O N):Hp N:=λm=>if m=n then some o else H m
noncomputable def Lc.set (l:Lc N) (x:Vr) (v:V N):Lc N:=λy=>if y=x then some v else l y
set_option genCtorIdx true in
inductive Fl (N:Type) where | next | brk | cont | ret (v:V N)
def thenF (next:Lc N->Hp N->Prop) (Q:Fl N->Lc N->Hp N->Prop):Fl N->Lc N->Hp N->Prop
 | .next,l,H=>next l H
 | f,l,H=>Q f l H
def d9 (again:Lc N->Hp N->Prop) (Q:Fl N->Lc N->Hp N->Prop):Fl N->Lc N->Hp N->Prop
 | .next,l,H=>again l H
 | .cont,l,H=>again l H
 | .brk,l,H=>Q .next l H
 | .ret v,l,H=>Q (.ret v) l H
noncomputable def Fl.val:Fl N->V N | .ret v=>v | _=>.none
noncomputable def V.plain:V N->Prop | .ref _=>False | .tup _=>False | _=>True
noncomputable def V.flat:V N->Prop | .int _=>True | .bool _=>True | _=>False
def Aa6:BOp->V N->V N->(V N->Prop)->Prop
 | .add,.int a,.int b,Q=>Q (.int (a+b))
 | .sub,.int a,.int b,Q=>Q (.int (a-b))
 | .mul,.int a,.int b,Q=>(a.natAbs<1073741824\/b.natAbs<1073741824)/\Q (.int (a*b))
 | .fdiv,.int a,.int b,Q=>(b≠0/\b.natAbs<1073741824)/\Q (.int (a.fdiv b))
 | .mod,.int a,.int b,Q=>(b≠0/\b.natAbs<1073741824)/\Q (.int (a.fmod b))
 | .pow,.int a,.int b,Q=>(0<=b/\b<=1000000/\a.natAbs<2^64)/\Q (.int (a^b.toNat))
 | .shl,.int a,.int b,Q=>(0<=b/\b<=1000000/\a.natAbs<2^64)/\Q (.int (a*2^b.toNat))
 | .shr,.int a,.int b,Q=>0<=b/\Q (.int (a.fdiv (2^b.toNat)))
 | .band,.int a,.int b,Q=>Q (.int (Builtin.bitAnd a b))
 | .bxor,.int a,.int b,Q=>Q (.int (Builtin.bitXor a b))
 | _,_,_,_=>False
noncomputable def J0:COp->Int->Int->Bool
 | .eq,a,b=>a==b
 | .ne,a,b=>a != b
 | .lt,a,b=>decide (a<b)
 | .le,a,b=>decide (a<=b)
 | .gt,a,b=>decide (b<a)
 | .ge,a,b=>decide (b<=a)
noncomputable def V.isNone:V N->Bool | .none=>true | _=>false
def Bi9 (H:Hp N):COp->V N->V N->(Bool->Prop)->Prop
 | op,.int a,.int b,Q=>Q (J0 op a b)
 | .ne,.bool a,.bool b,Q=>Q (a != b)
 | .eq,.ref a,.ref b,Q=>∃xs ys:List Int,H a=some (.list (xs.map V.int))/\H b=some (.list (ys.map V.int))/\xs.length<=100/\ys.length<=100/\Q (decide (xs=ys))
 | .ne,.ref a,.ref b,Q=>∃xs ys:List Int,H a=some (.list (xs.map V.int))/\H b=some (.list (ys.map V.int))/\xs.length<=100/\ys.length<=100/\Q (decide (xs≠ys))
 | _,_,_,_=>False
def Cj0 (H:Hp N):V N->V N->(Bool->Prop)->Prop
 | .int a,.ref n,Q=>∃xs:List Int,H n=some (.list (xs.map V.int))/\Q (xs.contains a)
 | .bool a,.ref n,Q=>∃xs:List Bool,H n=some (.list (xs.map V.bool))/\Q (xs.contains a)
 | .int a,.tup vs,Q=>∃xs:List Int,vs=xs.map V.int/\Q (xs.contains a)
 | _,_,_=>False
def Ae9 (H:Hp N):V N->(Bool->Prop)->Prop
 | .none,Q=>Q false
 | .bool b,Q=>Q b
 | .ref n,Q=>∃xs,H n=some (.list xs)/\xs.length<1000000/\Q (!xs.isEmpty)
 | _,_=>False
def Ah5 (H:Hp N):V N->V N->(V N->Prop)->Prop
 | .ref n,.int k,Q=>(∃xs v,H n=some (.list xs)/\0<=k/\k<1000000/\xs[k.toNat]? = some v/\Q v) \/
  (∃es ep v,H n=some (.idict es ep)/\es.lookup k=some v/\Q v)
 | .tup vs,.int k,Q=>∃v,0<=k/\k<1000000/\vs[k.toNat]? = some v/\Q v
 | _,_,_=>False
noncomputable def put {K α:Type} [DecidableEq K] (es:List (K×α)) (k:K) (v:α):List (K×α):=
 if es.any (λkv=>kv.1=k) then es.map (λkv=>if kv.1=k then (kv.1,v) else kv) else es++[(k,v)]
def setSub (H:Hp N):V N->V N->V N->(Hp N->Prop)->Prop
 | .ref n,.int k,v,Q=>(∃xs,H n=some (.list xs)/\0<=k/\k<1000000/\k<xs.length/\Q (H.set n (.list (xs.set k.toNat v)))) \/
  (∃es ep,H n=some (.idict es ep)/\es.length<1000000/\∀ep',Q (H.set n (.idict (put es k v) ep')))
 | .ref n,.tup ks,v,Q=>∃(es:List (List Int×V N)) (ns:List Int),ks=ns.map V.int/\H n=some (.tdict es)/\es.length<1000000/\Q (H.set n (.tdict (put es ns v)))
 | _,_,_,_=>False
noncomputable def rangeInts (a b c:Int):List Int:=(List.range (Builtin.Range.rangeSize a b c).toNat).map λ(i:Nat)=>a+(i:Int)*c
noncomputable def V.onI {β:Type} (v:V N) (k:Int->Option β):Option β:=@V.casesOn N (λ_=>Option β) v Option.none (λ_=>Option.none) k (λ_=>Option.none) (λ_=>Option.none)
noncomputable def V.onT {β:Type} (v:V N) (k:List (V N)->Option β):Option β:=@V.casesOn N (λ_=>Option β) v Option.none (λ_=>Option.none) (λ_=>Option.none) k (λ_=>Option.none)
noncomputable def onC {β:Type} (vs:List (V N)) (z:Option β) (k:V N->List (V N)->Option β):Option β:=@List.casesOn (V N) (λ_=>Option β) vs z k
noncomputable def Ad5 (vs:List (V N)):Option (Int×Int×Int):=onC vs none λv r=>v.onI λa=>onC r (some (0,a,1)) λv r=>v.onI λb=>onC r (some (a,b,1)) λv r=>v.onI λc=>onC r (some (a,b,c)) λ_ _=>none
def seqOf (H:Hp N):V N->(List (V N)->(Hp N->Prop)->Prop)->Prop
 | .tup vs,Q=>Q vs λ_=>True
 | .ref n,Q=>(∃xs,H n=some (.list xs)/\Q xs λH'=>H' n=some (.list xs)) \/
  (∃es ep,H n=some (.idict es ep)/\Q (es.map λe=>.int e.1) λH'=>H' n=some (.idict es ep))
 | _,_=>False
def biOp (b:Bi) (v:V N) (Q:V N->Hp N->Prop) (H:Hp N):Prop:=
 match b,v with
 | .len,.ref n=>∃xs,H n=some (.list xs)/\xs.length<1000000/\Q (.int xs.length) H
 | .len,.tup vs=>vs.length<1000000/\Q (.int vs.length) H
 | .abs,.int i=>Q (.int i.natAbs) H
 | .list,.ref n=>∃xs,H n=some (.list xs)/\xs.length<1000000/\∃m,H m=none/\Q (.ref m) (H.set m (.list xs))
 | .tuple,.ref n=>∃xs,H n=some (.list xs)/\xs.length<1000000/\Q (.tup xs) H
 | .sorted,.ref n=>∃es ep,H n=some (.idict es ep)/\es.length<60/\∃m,H m=none/\Q (.ref m) (H.set m (.list (((es.map (·.1)).mergeSort).map V.int)))
 | .sum,.ref n=>∃xs:List Int,H n=some (.list (xs.map V.int))/\Q (.int xs.sum) H
 | _,_=>False
def bmOp (m:Bm) (o:V N) (vs:List (V N)) (Q:V N->Hp N->Prop) (H:Hp N):Prop:=
 match m,o,vs with
 | .append,.ref n,[v]=>∃xs,H n=some (.list xs)/\xs.length<1000000/\Q .none (H.set n (.list (xs++[v])))
 | .pop,.ref n,[]=>∃xs v,H n=some (.list (xs++[v]))/\xs.length<1000000/\Q v (H.set n (.list xs))
 | .index,.ref n,[.int a]=>∃(xs:List Int) (i:Nat),H n=some (.list (xs.map V.int))/\xs.length<1000000/\xs.idxOf? a=some i/\Q (.int (i:Nat)) H
 | .get,.ref n,[.tup ks,d]=>∃(es:List (List Int×V N)) (ns:List Int),ks=ns.map V.int/\H n=some (.tdict es)/\Q ((es.lookup ns).getD d) H
 | .bitlen,.int i,[]=>0<=i/\Q (.int (if i=0 then 0 else i.toNat.log2+1)) H
 | _,_,_=>False
def bmPre (m:Bm) (v:V N) (H:Hp N):Prop:=
 match m,v with
 | .get,.ref n=>∃es,H n=some (.tdict es)
 | .bitlen,.int _=>True
 | .bitlen,_=>False
 | _,.ref n=>∃xs,H n=some (.list xs)
 | _,_=>False
noncomputable def m7 (t:Tg) (v:V N) (l:Lc N):Option (Lc N):=@Tg.casesOn (λ_=>Option (Lc N)) t (λx=>some (l.set x v)) λx y=>v.onT λvs=>onC vs none λa r=>onC r none λb r=>onC r (some ((l.set x a).set y b)) λ_ _=>none
abbrev Calls (N:Type):=Fn->List (V N)->(V N->Hp N->Prop)->Hp N->Prop
variable (K:Calls N)
mutual
noncomputable def O0:E->Lc N->(V N->Hp N->Prop)->Hp N->Prop
 | .none,_,Q,H=>Q .none H
 | .bool b,_,Q,H=>Q (.bool b) H
 | .int i,_,Q,H=>Q (.int i) H
 | .var x,l,Q,H=>∃v,l x=some v/\Q v H
 | .cst c,_,Q,H=>Q (.int c.val) H
 | .bin op a b,l,Q,H=>O0 a l (λva H1=>O0 b l (λvb H2=>Aa6 op va vb λr=>Q r H2) H1) H
 | .neg a,l,Q,H=>O0 a l (λv H1=>∃i,v = .int i/\Q (.int (-i)) H1) H
 | .cmp op a b,l,Q,H=>O0 a l (λva H1=>O0 b l (λvb H2=>Bi9 H2 op va vb λr=>Q (.bool r) H2) H1) H
 | .isNone a,l,Q,H=>O0 a l (λv H1=>Q (.bool v.isNone) H1) H
 | .notNone a,l,Q,H=>O0 a l (λv H1=>Q (.bool (!v.isNone)) H1) H
 | .eqDict0 a,l,Q,H=>O0 a l (λv H1=>∃n es ep,v = .ref n/\H1 n=some (.idict es ep)/\es.length<1000/\Q (.bool es.isEmpty) H1) H
 | .eqList0 a,l,Q,H=>O0 a l (λv H1=>∃(n:N) (xs:List Int),v = .ref n/\H1 n=some (.list (xs.map V.int))/\xs.length<1000/\Q (.bool xs.isEmpty) H1) H
 | .isIn a b,l,Q,H=>O0 a l (λva H1=>O0 b l (λvb H2=>Cj0 H2 va vb λr=>Q (.bool r) H2) H1) H
 | .attr e a,l,Q,H=>O0 e l (λv H1=>∃n k f w,v = .ref n/\H1 n=some (.inst k f)/\f a=some w/\Q w H1) H
 | .sub e i,l,Q,H=>O0 e l (λv H1=>O0 i l (λw H2=>Ah5 H2 v w λr=>Q r H2) H1) H
 | .slice e hi,l,Q,H=>O0 e l (λv H1=>O0 hi l (λw H2=>∃n xs k,v = .ref n/\w = .int k/\(H2 n=some (.list xs)\/H2 n=some (.flist xs))/\0<=k/\xs.length<1000000 /\
  ∃m,H2 m=none/\Q (.ref m) (H2.set m (.list (xs.take k.toNat)))) H1) H
 | .list es,l,Q,H=>Q' es l (λvs H1=>vs.length<1000000/\∃m,H1 m=none/\Q (.ref m) (H1.set m (.list vs))) H
 | .tup es,l,Q,H=>Q' es l (λvs H1=>vs.length<1000000/\Q (.tup vs) H1) H
 | .idict0,_,Q,H=>∃m,H m=none/\∀ep,Q (.ref m) (H.set m (.idict [] ep))
 | .tdict0,_,Q,H=>∃m,H m=none/\Q (.ref m) (H.set m (.tdict []))
 | .rep x n,l,Q,H=>O0 x l (λv H1=>O0 n l (λw H2=>∃k,w = .int k/\0<=k/\k<1000000/\v.flat /\
  ∃m,H2 m=none/\Q (.ref m) (H2.set m (.list (List.replicate k.toNat v)))) H1) H
 | .cat1 x e,l,Q,H=>O0 x l (λv H1=>O0 e l (λw H2=>∃n xs,w = .ref n/\H2 n=some (.list xs)/\xs.length<1000000 /\
  ∃m,H2 m=none/\Q (.ref m) (H2.set m (.list (v::xs)))) H1) H
 | .ite c a b,l,Q,H=>wpC c l (λt H1=>if t then O0 a l Q H1 else O0 b l Q H1) H
 | .call f args,l,Q,H=>Q' args l (λvs H1=>K f vs Q H1) H
 | .meth o m args,l,Q,H=>O0 o l (λv H1=>∃n k f,v = .ref n/\H1 n=some (.inst k f)/\m.kl=some k/\Q' args l (λvs H2=>K m (v::vs) Q H2) H1) H
 | .new k args,l,Q,H=>Q' args l (λvs H1=>∃m,H1 m=none /\
  K k.init (.ref m::vs) (λr H2=>r.isNone=true/\Q (.ref m) H2) (H1.set m (.inst k λ_=>none))) H
 | .bi b a,l,Q,H=>O0 a l (λv H1=>biOp b v Q H1) H
 | .bm m o args,l,Q,H=>O0 o l (λv H1=>bmPre m v H1/\Q' args l (λvs H2=>bmOp m v vs Q H2) H1) H
 | .comp elt x src cond,l,Q,H=>Dg6 src l (λitems g H1=>∃I:Nat->List (V N)->Hp N->Prop,I 0 [] H1/\∀i acc H2,I i acc H2->g H2/\acc.length<1000000 /\
  match items[i]? with
  | Option.none=>∃m,H2 m=Option.none/\Q (.ref m) (H2.set m (.list acc))
  | some v=>W1 cond (l.set x v) (λb H3=>if b then O0 elt (l.set x v) (λr H4=>I (i+1) (acc++[r]) H4) H3 else I (i+1) acc H3) H2) H
noncomputable def Q':Es->Lc N->(List (V N)->Hp N->Prop)->Hp N->Prop
 | .nil,_,Q,H=>Q [] H
 | .cons e es,l,Q,H=>O0 e l (λv H1=>Q' es l (λvs H2=>Q (v::vs) H2) H1) H
noncomputable def wpC:C->Lc N->(Bool->Hp N->Prop)->Hp N->Prop
 | .cmp op a b,l,Q,H=>O0 a l (λva H1=>O0 b l (λvb H2=>Bi9 H2 op va vb λr=>Q r H2) H1) H
 | .isNone a,l,Q,H=>O0 a l (λv H1=>Q v.isNone H1) H
 | .notNone a,l,Q,H=>O0 a l (λv H1=>Q (!v.isNone) H1) H
 | .isIn a b,l,Q,H=>O0 a l (λva H1=>O0 b l (λvb H2=>Cj0 H2 va vb λr=>Q r H2) H1) H
 | .notIn a b,l,Q,H=>O0 a l (λva H1=>O0 b l (λvb H2=>Cj0 H2 va vb λr=>Q (!r) H2) H1) H
 | .and cs,l,Q,H=>W1 cs l Q H
 | .or cs,l,Q,H=>wpOr cs l Q H
 | .not c,l,Q,H=>wpC c l (λb H1=>Q (!b) H1) H
 | .val e,l,Q,H=>O0 e l (λv H1=>Ae9 H1 v λb=>Q b H1) H
noncomputable def W1:Cs->Lc N->(Bool->Hp N->Prop)->Hp N->Prop
 | .nil,_,Q,H=>Q true H
 | .cons c cs,l,Q,H=>wpC c l (λb H1=>if b then W1 cs l Q H1 else Q false H1) H
noncomputable def wpOr:Cs->Lc N->(Bool->Hp N->Prop)->Hp N->Prop
 | .nil,_,Q,H=>Q false H
 | .cons c cs,l,Q,H=>wpC c l (λb H1=>if b then Q true H1 else wpOr cs l Q H1) H
noncomputable def Dg6:Src->Lc N->(List (V N)->(Hp N->Prop)->Hp N->Prop)->Hp N->Prop
 | .range args,l,Q,H=>Q' args l (λvs H1=>∃a b c,Ad5 vs=some (a,b,c)/\(-1000000<a/\a<1000000 /\ -1000000<b/\b<1000000/\(c=1\/c = -1))/\Q ((rangeInts a b c).map V.int) (λ_=>True) H1) H
 | .seq e,l,Q,H=>O0 e l (λv H1=>seqOf H1 v λxs g=>Q xs g H1) H
end
mutual
noncomputable def wpS:S->(Fl N->Lc N->Hp N->Prop)->Lc N->Hp N->Prop
 | .pass,Q,l,H=>Q .next l H
 | .cont,Q,l,H=>Q .cont l H
 | .brk,Q,l,H=>Q .brk l H
 | .retNone,Q,l,H=>Q (.ret .none) l H
 | .ret e,Q,l,H=>O0 K e l (λv H1=>Q (.ret v) l H1) H
 | .set x e,Q,l,H=>O0 K e l (λv H1=>Q .next (l.set x v) H1) H
 | .set2 x y e,Q,l,H=>O0 K e l (λv H1=>∃a b,v = .tup [a,b]/\Q .next ((l.set x a).set y b) H1) H
 | .swap x y a b,Q,l,H=>O0 K a l (λva H1=>O0 K b l (λvb H2=>Q .next ((l.set y vb).set x va) H2) H1) H
 | .setAttr o a e,Q,l,H=>O0 K e l (λv H1=>O0 K o l (λw H2=>∃n k f,w = .ref n/\H2 n=some (.inst k f)/\a.kl=k /\
  Q .next l (H2.set n (.inst k λb=>if b=a then some v else f b))) H1) H
 | .setSub o i e,Q,l,H=>O0 K e l (λv H1=>O0 K o l (λw H2=>O0 K i l (λk H3=>setSub H3 w k v λH4=>Q .next l H4) H2) H1) H
 | .setSub2 o i o' i' a b,Q,l,H=>O0 K a l (λva H1=>O0 K b l (λvb H2=>
  O0 K o l (λw H3=>O0 K i l (λk H4=>setSub H4 w k va λH5=>
   O0 K o' l (λw' H6=>O0 K i' l (λk' H7=>setSub H7 w' k' vb λH8=>Q .next l H8) H6) H5) H3) H2) H1) H
 | .augSub o i op e,Q,l,H=>O0 K o l (λw H1=>O0 K i l (λk H2=>Ah5 H2 w k λold=>O0 K e l (λv H3=>Aa6 op old v λr=>
  setSub H3 w k r λH4=>Q .next l H4) H2) H1) H
 | .expr e,Q,l,H=>O0 K e l (λv H1=>v.plain/\Q .next l H1) H
 | .ite c t f,Q,l,H=>wpC K c l (λb H1=>if b then C2 t Q l H1 else C2 f Q l H1) H
 | .while c b,Q,l,H=>∃I:Nat->Lc N->Hp N->Prop,(∃n,I n l H)/\∀n l1 H1,I n l1 H1 ->
  wpC K c l1 (λt H2=>if t then C2 b (d9 (λl3 H3=>∃m,m<n/\I m l3 H3) Q) l1 H2 else Q .next l1 H2) H1
 | .for_ t src b,Q,l,H=>Dg6 K src l (λitems g H1=>∃I:Nat->Lc N->Hp N->Prop,I 0 l H1/\∀i l2 H2,I i l2 H2->g H2 /\
  match items[i]? with
  | Option.none=>Q .next l2 H2
  | some v=>∃l3,m7 t v l2=some l3/\C2 b (d9 (λl4 H4=>I (i+1) l4 H4) Q) l3 H2) H
noncomputable def C2:Ss->(Fl N->Lc N->Hp N->Prop)->Lc N->Hp N->Prop
 | .nil,Q,l,H=>Q .next l H
 | .cons s ss,Q,l,H=>wpS s (thenF (λl1 H1=>C2 ss Q l1 H1) Q) l H
end
noncomputable def Lc.args:List Vr->List (V N)->Lc N
 | x::xs,v::vs=>λy=>if y=x then some v else Lc.args xs vs y
 | _,_=>λ_=>none
end
noncomputable def K0:Option NameKind->Bool
 | some .local | some .cell=>true
 | _=>false
noncomputable def N7:Option NameKind->Bool
 | some .globalImplicit=>true
 | _=>false
noncomputable def BOp.py:BOp->PySem.Operator
 | .add=>.Add | .sub=>.Sub | .mul=>.Mult | .fdiv=>.FloorDiv | .mod=>.Mod | .pow=>.Pow | .shl=>.LShift | .shr=>.RShift | .band=>.BitAnd | .bxor=>.BitXor
noncomputable def COp.py:COp->PySem.CmpOp
 | .eq=>.Eq | .ne=>.NotEq | .lt=>.Lt | .le=>.LtE | .gt=>.Gt | .ge=>.GtE
noncomputable def Bi.str:Bi->Str
 | .len=>"len" | .abs=>"abs" | .list=>"list" | .tuple=>"tuple" | .sorted=>"sorted" | .sum=>"sum"
noncomputable def Bm.str:Bm->Str
 | .append=>"append" | .pop=>"pop" | .index=>"index" | .get=>"get" | .bitlen=>"bit_length"
noncomputable def Ae3 (outer inner:Scope):Scope:=
 {inner with names:=inner.names.map λ(n,k)=>if (k == .free&&outer.kind == .function&&outer.names.lookup n==some .cell) then (n,.cell) else (n,k)}
noncomputable def Be8 (outer inner:Scope) (x:Str):Bool:=
 inner.kind == .function&&inner.names.all (λn=>n.2 != .cell&&(n.2 != .free||outer.names.lookup n.1==some .cell)&&(n.2 != .local||inner.names.lookup n.1==some .local)) &&
 inner.names.lookup x==some .local&&inner.names.all (λn=>n.2 != .free||inner.names.lookup n.1==some .free)&&decide (inner.names.map (·.1)).Nodup&&inner.names.all (λn=>n.2 != .local||n.1==x||n.1==(".0":Str))
noncomputable def W2:Expr->Bool
 | .Starred .. =>false | _=>true
noncomputable def Y9:Expr->Bool
 | .Slice .. =>false | _=>true
noncomputable def Bc2:Expr->Bool
 | .ListComp .. =>false | _=>true
noncomputable def Dh3:Expr->Bool
 | .UnaryOp .Not _ _=>false | .BoolOp .. =>false | .IfExp .. =>false | .Compare .. =>false | _=>true
noncomputable def unSet:Expr->Bool
 | .Set .. =>false | _=>true
noncomputable def V' (x:Expr) (k:Const->Bool):Bool:=if h:x.ctorIdx=19 then @Expr.Constant.elim (λ_=>Bool) x h (λc _ _=>k c) else false
noncomputable def M1 (x:Expr) (k:Str->Pos->Bool):Bool:=if h:x.ctorIdx=23 then @Expr.Name.elim (λ_=>Bool) x h (λn p=>k n p) else false
noncomputable def Ci0 (x:Expr) (k:Expr->PySem.Operator->Expr->Bool):Bool:=if h:x.ctorIdx=2 then @Expr.BinOp.elim (λ_=>Bool) x h (λl o r _=>k l o r) else false
noncomputable def onUn (x:Expr) (k:PySem.UnaryOp->Expr->Bool):Bool:=if h:x.ctorIdx=3 then @Expr.UnaryOp.elim (λ_=>Bool) x h (λo y _=>k o y) else false
noncomputable def h9 (x:Expr) (k:Expr->List PySem.CmpOp->List Expr->Bool):Bool:=if h:x.ctorIdx=15 then @Expr.Compare.elim (λ_=>Bool) x h (λl o r _=>k l o r) else false
noncomputable def Ab4 (x:Expr) (k:Expr->Str->Pos->Bool):Bool:=if h:x.ctorIdx=20 then @Expr.Attribute.elim (λ_=>Bool) x h (λv n p=>k v n p) else false
noncomputable def z4 (x:Expr) (k:Expr->Expr->Bool):Bool:=if h:x.ctorIdx=21 then @Expr.Subscript.elim (λ_=>Bool) x h (λv s _=>k v s) else false
noncomputable def onSlc (x:Expr) (k:Option Expr->Option Expr->Option Expr->Bool):Bool:=if h:x.ctorIdx=26 then @Expr.Slice.elim (λ_=>Bool) x h (λa b c _=>k a b c) else false
noncomputable def Ag1 (x:Expr) (k:List Expr->Bool):Bool:=if h:x.ctorIdx=24 then @Expr.List.elim (λ_=>Bool) x h (λes _=>k es) else false
noncomputable def n7 (x:Expr) (k:List Expr->Bool):Bool:=if h:x.ctorIdx=25 then @Expr.Tuple.elim (λ_=>Bool) x h (λes _ _=>k es) else false
noncomputable def Ag2 (x:Expr) (k:List (Option Expr)->List Expr->Bool):Bool:=if h:x.ctorIdx=6 then @Expr.Dict.elim (λ_=>Bool) x h (λa b _=>k a b) else false
noncomputable def onIf (x:Expr) (k:Expr->Expr->Expr->Bool):Bool:=if h:x.ctorIdx=5 then @Expr.IfExp.elim (λ_=>Bool) x h (λa b c _=>k a b c) else false
noncomputable def j8 (x:Expr) (k:Expr->List Expr->List Keyword->Pos->Bool):Bool:=if h:x.ctorIdx=16 then @Expr.Call.elim (λ_=>Bool) x h (λf as ks p=>k f as ks p) else false
noncomputable def Dj8 (x:Expr) (k:Expr->List Comprehension->Scope->Bool):Bool:=if h:x.ctorIdx=8 then @Expr.ListComp.elim (λ_=>Bool) x h (λe gs sc _=>k e gs sc) else false
noncomputable def Ce1 (x:Expr) (k:PySem.BoolOp->List Expr->Bool):Bool:=if h:x.ctorIdx=0 then @Expr.BoolOp.elim (λ_=>Bool) x h (λo vs _=>k o vs) else false
noncomputable def n8 {α:Type} (xs:List α) (k:α->Bool):Bool:=match xs with | [a]=>k a | _=>false
noncomputable def on2 {α:Type} (xs:List α) (k:α->α->Bool):Bool:=match xs with | [a,b]=>k a b | _=>false
noncomputable def on0 {α:Type} (xs:List α) (k:Bool):Bool:=match xs with | []=>k | _=>false
noncomputable def Cd7 {α:Type} (x:Option α) (k:α->Bool):Bool:=match x with | some a=>k a | none=>false
noncomputable def Bd3 {α:Type} (x:Option α) (k:Bool):Bool:=match x with | some _=>false | none=>k
noncomputable def Ai4:Const->Bool | .none=>true | _=>false
noncomputable def cBool (b:Bool):Const->Bool | .bool c=>b==c | _=>false
noncomputable def cInt (i:Int):Const->Bool | .int c=>i==c | _=>false
theorem I8 {c:Prop} [Decidable c] {f:c->Bool} (h:(if q:c then f q else false)=true):∃q,f q=true:=by
 by_cases q:c
 ·rw [dif_pos q] at h;exact ⟨q,h⟩
 ·rw [dif_neg q] at h;cases h
theorem d8 {x:Expr} {k:Const->Bool} (h:V' x k=true):∃c a p,x = .Constant c a p/\k c=true:=
 let ⟨i,h⟩:=I8 h
 @Expr.Constant.elim (λx=>∀hi:x.ctorIdx=19,@Expr.Constant.elim (λ_=>Bool) x hi (λc _ _=>k c)=true->∃c a p,x = .Constant c a p/\k c=true) x i (λc a p _ h=>⟨c,a,p,rfl,h⟩) i h
theorem P3 {x:Expr} {k:Str->Pos->Bool} (h:M1 x k=true):∃n p,x = .Name n p/\k n p=true:=
 let ⟨i,h⟩:=I8 h
 @Expr.Name.elim (λx=>∀hi:x.ctorIdx=23,@Expr.Name.elim (λ_=>Bool) x hi (λn p=>k n p)=true->∃n p,x = .Name n p/\k n p=true) x i (λn p _ h=>⟨n,p,rfl,h⟩) i h
theorem Ab3 {x:Expr} {k:Expr->PySem.Operator->Expr->Bool} (h:Ci0 x k=true):∃l o r p,x = .BinOp l o r p/\k l o r=true:=
 let ⟨i,h⟩:=I8 h
 @Expr.BinOp.elim (λx=>∀hi:x.ctorIdx=2,@Expr.BinOp.elim (λ_=>Bool) x hi (λl o r _=>k l o r)=true->∃l o r p,x = .BinOp l o r p/\k l o r=true) x i (λl o r p _ h=>⟨l,o,r,p,rfl,h⟩) i h
theorem Bh0 {x:Expr} {k:PySem.UnaryOp->Expr->Bool} (h:onUn x k=true):∃o y p,x = .UnaryOp o y p/\k o y=true:=
 let ⟨i,h⟩:=I8 h
 @Expr.UnaryOp.elim (λx=>∀hi:x.ctorIdx=3,@Expr.UnaryOp.elim (λ_=>Bool) x hi (λo y _=>k o y)=true->∃o y p,x = .UnaryOp o y p/\k o y=true) x i (λo y p _ h=>⟨o,y,p,rfl,h⟩) i h
theorem Dd1 {x:Expr} {k:Expr->List PySem.CmpOp->List Expr->Bool} (h:h9 x k=true):∃l o r p,x = .Compare l o r p/\k l o r=true:=
 let ⟨i,h⟩:=I8 h
 @Expr.Compare.elim (λx=>∀hi:x.ctorIdx=15,@Expr.Compare.elim (λ_=>Bool) x hi (λl o r _=>k l o r)=true->∃l o r p,x = .Compare l o r p/\k l o r=true) x i (λl o r p _ h=>⟨l,o,r,p,rfl,h⟩) i h
theorem v7 {x:Expr} {k:Expr->Str->Pos->Bool} (h:Ab4 x k=true):∃v n p,x = .Attribute v n p/\k v n p=true:=
 let ⟨i,h⟩:=I8 h
 @Expr.Attribute.elim (λx=>∀hi:x.ctorIdx=20,@Expr.Attribute.elim (λ_=>Bool) x hi (λv n p=>k v n p)=true->∃v n p,x = .Attribute v n p/\k v n p=true) x i (λv n p _ h=>⟨v,n,p,rfl,h⟩) i h
theorem V2 {x:Expr} {k:Expr->Expr->Bool} (h:z4 x k=true):∃v s p,x = .Subscript v s p/\k v s=true:=
 let ⟨i,h⟩:=I8 h
 @Expr.Subscript.elim (λx=>∀hi:x.ctorIdx=21,@Expr.Subscript.elim (λ_=>Bool) x hi (λv s _=>k v s)=true->∃v s p,x = .Subscript v s p/\k v s=true) x i (λv s p _ h=>⟨v,s,p,rfl,h⟩) i h
theorem Dc8 {x:Expr} {k:Option Expr->Option Expr->Option Expr->Bool} (h:onSlc x k=true):∃a b c p,x = .Slice a b c p/\k a b c=true:=
 let ⟨i,h⟩:=I8 h
 @Expr.Slice.elim (λx=>∀hi:x.ctorIdx=26,@Expr.Slice.elim (λ_=>Bool) x hi (λa b c _=>k a b c)=true->∃a b c p,x = .Slice a b c p/\k a b c=true) x i (λa b c p _ h=>⟨a,b,c,p,rfl,h⟩) i h
theorem j7 {x:Expr} {k:List Expr->Bool} (h:Ag1 x k=true):∃es p,x = .List es p/\k es=true:=
 let ⟨i,h⟩:=I8 h
 @Expr.List.elim (λx=>∀hi:x.ctorIdx=24,@Expr.List.elim (λ_=>Bool) x hi (λes _=>k es)=true->∃es p,x = .List es p/\k es=true) x i (λes p _ h=>⟨es,p,rfl,h⟩) i h
theorem t9 {x:Expr} {k:List Expr->Bool} (h:n7 x k=true):∃es c p,x = .Tuple es c p/\k es=true:=
 let ⟨i,h⟩:=I8 h
 @Expr.Tuple.elim (λx=>∀hi:x.ctorIdx=25,@Expr.Tuple.elim (λ_=>Bool) x hi (λes _ _=>k es)=true->∃es c p,x = .Tuple es c p/\k es=true) x i (λes c p _ h=>⟨es,c,p,rfl,h⟩) i h
theorem Cd9 {x:Expr} {k:List (Option Expr)->List Expr->Bool} (h:Ag2 x k=true):∃a b p,x = .Dict a b p/\k a b=true:=
 let ⟨i,h⟩:=I8 h
 @Expr.Dict.elim (λx=>∀hi:x.ctorIdx=6,@Expr.Dict.elim (λ_=>Bool) x hi (λa b _=>k a b)=true->∃a b p,x = .Dict a b p/\k a b=true) x i (λa b p _ h=>⟨a,b,p,rfl,h⟩) i h
theorem Dj6 {x:Expr} {k:Expr->Expr->Expr->Bool} (h:onIf x k=true):∃a b c p,x = .IfExp a b c p/\k a b c=true:=
 let ⟨i,h⟩:=I8 h
 @Expr.IfExp.elim (λx=>∀hi:x.ctorIdx=5,@Expr.IfExp.elim (λ_=>Bool) x hi (λa b c _=>k a b c)=true->∃a b c p,x = .IfExp a b c p/\k a b c=true) x i (λa b c p _ h=>⟨a,b,c,p,rfl,h⟩) i h
theorem Ag3 {x:Expr} {k:Expr->List Expr->List Keyword->Pos->Bool} (h:j8 x k=true):∃f as ks p,x = .Call f as ks p/\k f as ks p=true:=
 let ⟨i,h⟩:=I8 h
 @Expr.Call.elim (λx=>∀hi:x.ctorIdx=16,@Expr.Call.elim (λ_=>Bool) x hi (λf as ks p=>k f as ks p)=true->∃f as ks p,x = .Call f as ks p/\k f as ks p=true) x i (λf as ks p _ h=>⟨f,as,ks,p,rfl,h⟩) i h
theorem Ce0 {x:Expr} {k:Expr->List Comprehension->Scope->Bool} (h:Dj8 x k=true):∃e gs sc p,x = .ListComp e gs sc p/\k e gs sc=true:=
 let ⟨i,h⟩:=I8 h
 @Expr.ListComp.elim (λx=>∀hi:x.ctorIdx=8,@Expr.ListComp.elim (λ_=>Bool) x hi (λe gs sc _=>k e gs sc)=true->∃e gs sc p,x = .ListComp e gs sc p/\k e gs sc=true) x i (λe gs sc p _ h=>⟨e,gs,sc,p,rfl,h⟩) i h
theorem Ag4 {x:Expr} {k:PySem.BoolOp->List Expr->Bool} (h:Ce1 x k=true):∃o vs p,x = .BoolOp o vs p/\k o vs=true:=
 let ⟨i,h⟩:=I8 h
 @Expr.BoolOp.elim (λx=>∀hi:x.ctorIdx=0,@Expr.BoolOp.elim (λ_=>Bool) x hi (λo vs _=>k o vs)=true->∃o vs p,x = .BoolOp o vs p/\k o vs=true) x i (λo vs p _ h=>⟨o,vs,p,rfl,h⟩) i h
section inv
variable {x:Expr}
variable {α:Type}
theorem j9 {xs:List α} {k:α->Bool} (h:n8 xs k=true):∃a,xs=[a]/\k a=true:=match xs,h with | [a],h=>⟨a,rfl,h⟩
theorem Bd5 {xs:List α} {k:α->α->Bool} (h:on2 xs k=true):∃a b,xs=[a,b]/\k a b=true:=match xs,h with | [a,b],h=>⟨a,b,rfl,h⟩
theorem k7 {xs:List α} {k:Bool} (h:on0 xs k=true):xs=[]/\k=true:=match xs,h with | [],h=>⟨rfl,h⟩
theorem Af9 {x:Option α} {k:α->Bool} (h:Cd7 x k=true):∃a,x=some a/\k a=true:=match x,h with | some a,h=>⟨a,rfl,h⟩
theorem v6 {x:Option α} {k:Bool} (h:Bd3 x k=true):x=none/\k=true:=match x,h with | none,h=>⟨rfl,h⟩
theorem Bb3 {c:Const} (h:Ai4 c=true):c = .none:=by cases c <;> first | rfl | cases h
theorem Dg0 {b:Bool} {c:Const} (h:cBool b c=true):c = .bool b:=by cases c <;> first | cases h | (have h:(b==_)=true:=h;rw [eq_of_beq h])
theorem Ee2 {i:Int} {c:Const} (h:cInt i c=true):c = .int i:=by cases c <;> first | cases h | (have h:(i==_)=true:=h;rw [eq_of_beq h])
theorem D9 {a b:Bool} (h:(a&&b)=true):a=true/\b=true:=(Bool.and_eq_true a b).mp h
end inv
mutual
noncomputable def mE (sc:Scope):E->Expr->Bool
 | .none,x=>V' x Ai4
 | .bool b,x=>V' x (cBool b)
 | .int i,x=>V' x (cInt i)
 | .var y,x=>M1 x λn _=>n==y.str&&K0 (sc.names.lookup n)
 | .cst c,x=>M1 x λn _=>n==c.str&&N7 (sc.names.lookup n)
 | .bin op a b,x=>Ci0 x λl o r=>o==op.py&&mE sc a l&&mE sc b r
 | .neg a,x=>onUn x λo y=>o == .USub&&mE sc a y
 | .cmp op a b,x=>h9 x λl os rs=>n8 os λo=>n8 rs λr=>o==op.py&&mE sc a l&&mE sc b r
 | .isNone a,x=>h9 x λl os rs=>n8 os λo=>n8 rs λr=>o == .Is&&V' r Ai4&&mE sc a l
 | .notNone a,x=>h9 x λl os rs=>n8 os λo=>n8 rs λr=>o == .IsNot&&V' r Ai4&&mE sc a l
 | .eqDict0 a,x=>h9 x λl os rs=>n8 os λo=>n8 rs λr=>o == .Eq&&(Ag2 r λks vs=>on0 ks (on0 vs true))&&mE sc a l
 | .eqList0 a,x=>h9 x λl os rs=>n8 os λo=>n8 rs λr=>o == .Eq&&(Ag1 r λes=>on0 es true)&&mE sc a l
 | .isIn a b,x=>h9 x λl os rs=>n8 os λo=>n8 rs λr=>o == .In&&(mE sc a l&&mE sc b r&&behindInMarks .In r==false)
 | .attr e a,x=>Ab4 x λv n _=>n==a.str&&mE sc e v
 | .sub e i,x=>z4 x λv s=>mE sc e v&&mE sc i s
 | .slice e hi,x=>z4 x λv s=>onSlc s λa b c=>Bd3 a (Bd3 c (Cd7 b λh=>mE sc e v&&mE sc hi h))
 | .list es,x=>Ag1 x λxs=>z6 sc es xs
 | .tup es,x=>n7 x λxs=>z6 sc es xs
 | .idict0,x=>Ag2 x λks vs=>on0 ks (on0 vs true)
 | .tdict0,x=>Ag2 x λks vs=>on0 ks (on0 vs true)
 | .rep a n,x=>Ci0 x λl o r=>o == .Mult&&Ag1 l λes=>n8 es λe=>mE sc a e&&mE sc n r
 | .cat1 a b,x=>Ci0 x λl o r=>o == .Add&&Ag1 l λes=>n8 es λe=>mE sc a e&&mE sc b r
 | .ite c a b,x=>onIf x λt u v=>mC sc c t&&mE sc a u&&mE sc b v
 | .call f args,x=>j8 x λg as ks _=>on0 ks (M1 g λn _=>n==f.str&&f.kl.isNone&&N7 (sc.names.lookup n)&&z6 sc args as)
 | .new k args,x=>j8 x λg as ks _=>on0 ks (M1 g λn _=>n==k.str&&N7 (sc.names.lookup n)&&z6 sc args as)
 | .meth o m args,x=>j8 x λg as ks p=>on0 ks (Ab4 g λv n ap=>n==m.str&&mE sc o v&&z6 sc args as&&as.length<=5&&ap.endLine==p.line)
 | .bi b a,x=>j8 x λg as ks _=>on0 ks (M1 g λn _=>n8 as λy=>n==b.str&&N7 (sc.names.lookup n)&&mE sc a y)
 | .bm m o args,x=>j8 x λg as ks p=>on0 ks (Ab4 g λv n ap=>n==m.str&&mE sc o v&&z6 sc args as&&as.length<=5&&ap.endLine==p.line)
 | .comp elt y src cond,x=>Dj8 x λe gs isc=>n8 gs λg=>g.is_async==0&&M1 g.target λn _=>n==y.str&&Be8 sc isc n&&mSrc sc src g.iter&&mE (Ae3 sc isc) elt e&&mCs (Ae3 sc isc) cond g.ifs&&g.ifs.length<=1
noncomputable def z6 (sc:Scope):Es->List Expr->Bool
 | .nil,xs=>xs.isEmpty
 | .cons e es,xs=>match xs with | []=>false | x::xs=>mE sc e x&&z6 sc es xs&&W2 x
noncomputable def mC (sc:Scope):C->Expr->Bool
 | .cmp op a b,x=>h9 x λl os rs=>n8 os λo=>n8 rs λr=>o==op.py&&mE sc a l&&mE sc b r
 | .isNone a,x=>h9 x λl os rs=>n8 os λo=>n8 rs λr=>o == .Is&&V' r Ai4&&mE sc a l
 | .notNone a,x=>h9 x λl os rs=>n8 os λo=>n8 rs λr=>o == .IsNot&&V' r Ai4&&mE sc a l
 | .isIn a b,x=>h9 x λl os rs=>n8 os λo=>n8 rs λr=>o == .In&&(mE sc a l&&mE sc b r&&behindInMarks .In r==false)
 | .notIn a b,x=>h9 x λl os rs=>n8 os λo=>n8 rs λr=>o == .NotIn&&(mE sc a l&&mE sc b r&&behindInMarks .NotIn r==false)
 | .and cs,x=>Ce1 x λo vs=>o == .And&&mCs sc cs vs
 | .or cs,x=>Ce1 x λo vs=>o == .Or&&mCs sc cs vs
 | .not c,x=>onUn x λo y=>o == .Not&&mC sc c y
 | .val e,x=>Dh3 x&&mE sc e x
noncomputable def mCs (sc:Scope):Cs->List Expr->Bool
 | .nil,xs=>xs.isEmpty
 | .cons c cs,xs=>match xs with | []=>false | x::xs=>mC sc c x&&mCs sc cs xs
noncomputable def mSrc (sc:Scope):Src->Expr->Bool
 | .range args,x=>j8 x λg as ks _=>on0 ks (M1 g λn _=>n==("range":Str)&&N7 (sc.names.lookup n)&&z6 sc args as)
 | .seq e,x=>mE sc e x&&unSet x
end
noncomputable def mTg (sc:Scope):Tg->Expr->Bool
 | .one y,x=>M1 x λn _=>n==y.str&&K0 (sc.names.lookup n)
 | .two y z,x=>n7 x λes=>on2 es λa b=>M1 a λn _=>M1 b λm _=>n==y.str&&K0 (sc.names.lookup n)&&m==z.str&&K0 (sc.names.lookup m)&&n != m
noncomputable def V0:Expr->Bool
 | .Tuple .. =>false | .List .. =>false | .ListComp .. =>false | .SetComp .. =>false | .DictComp .. =>false | _=>true
noncomputable def Dj5 (x:Stmt) (k:Option Expr->Bool):Bool:=if h:x.ctorIdx=3 then @Stmt.Return.elim (λ_=>Bool) x h (λv _=>k v) else false
noncomputable def z5 (x:Stmt) (k:List Expr->Expr->Bool):Bool:=if h:x.ctorIdx=5 then @Stmt.Assign.elim (λ_=>Bool) x h (λts v _=>k ts v) else false
noncomputable def onAug (x:Stmt) (k:Expr->PySem.Operator->Expr->Bool):Bool:=if h:x.ctorIdx=7 then @Stmt.AugAssign.elim (λ_=>Bool) x h (λt o v _=>k t o v) else false
noncomputable def Dj7 (x:Stmt) (k:Expr->Bool):Bool:=if h:x.ctorIdx=24 then @Stmt.Expr.elim (λ_=>Bool) x h (λv _=>k v) else false
noncomputable def onIfS (x:Stmt) (k:Expr->List Stmt->List Stmt->Bool):Bool:=if h:x.ctorIdx=12 then @Stmt.If.elim (λ_=>Bool) x h (λt a b _=>k t a b) else false
noncomputable def onWhl (x:Stmt) (k:Expr->List Stmt->List Stmt->Bool):Bool:=if h:x.ctorIdx=11 then @Stmt.While.elim (λ_=>Bool) x h (λt a b _=>k t a b) else false
noncomputable def onFor (x:Stmt) (k:Expr->Expr->List Stmt->List Stmt->Bool):Bool:=if h:x.ctorIdx=9 then @Stmt.For.elim (λ_=>Bool) x h (λg it a b _=>k g it a b) else false
theorem Ba4 {x:Stmt} {k:Option Expr->Bool} (h:Dj5 x k=true):∃v p,x = .Return v p/\k v=true:=
 let ⟨i,h⟩:=I8 h
 @Stmt.Return.elim (λx=>∀hi:x.ctorIdx=3,@Stmt.Return.elim (λ_=>Bool) x hi (λv _=>k v)=true->∃v p,x = .Return v p/\k v=true) x i (λv p _ h=>⟨v,p,rfl,h⟩) i h
theorem Dd3 {x:Stmt} {k:List Expr->Expr->Bool} (h:z5 x k=true):∃ts v p,x = .Assign ts v p/\k ts v=true:=
 let ⟨i,h⟩:=I8 h
 @Stmt.Assign.elim (λx=>∀hi:x.ctorIdx=5,@Stmt.Assign.elim (λ_=>Bool) x hi (λts v _=>k ts v)=true->∃ts v p,x = .Assign ts v p/\k ts v=true) x i (λts v p _ h=>⟨ts,v,p,rfl,h⟩) i h
theorem Dd2 {x:Stmt} {k:Expr->PySem.Operator->Expr->Bool} (h:onAug x k=true):∃t o v p,x = .AugAssign t o v p/\k t o v=true:=
 let ⟨i,h⟩:=I8 h
 @Stmt.AugAssign.elim (λx=>∀hi:x.ctorIdx=7,@Stmt.AugAssign.elim (λ_=>Bool) x hi (λt o v _=>k t o v)=true->∃t o v p,x = .AugAssign t o v p/\k t o v=true) x i (λt o v p _ h=>⟨t,o,v,p,rfl,h⟩) i h
theorem Cd8 {x:Stmt} {k:Expr->Bool} (h:Dj7 x k=true):∃v p,x = .Expr v p/\k v=true:=
 let ⟨i,h⟩:=I8 h
 @Stmt.Expr.elim (λx=>∀hi:x.ctorIdx=24,@Stmt.Expr.elim (λ_=>Bool) x hi (λv _=>k v)=true->∃v p,x = .Expr v p/\k v=true) x i (λv p _ h=>⟨v,p,rfl,h⟩) i h
theorem Dc9 {x:Stmt} {k:Expr->List Stmt->List Stmt->Bool} (h:onIfS x k=true):∃t a b p,x = .If t a b p/\k t a b=true:=
 let ⟨i,h⟩:=I8 h
 @Stmt.If.elim (λx=>∀hi:x.ctorIdx=12,@Stmt.If.elim (λ_=>Bool) x hi (λt a b _=>k t a b)=true->∃t a b p,x = .If t a b p/\k t a b=true) x i (λt a b p _ h=>⟨t,a,b,p,rfl,h⟩) i h
theorem Dc7 {x:Stmt} {k:Expr->List Stmt->List Stmt->Bool} (h:onWhl x k=true):∃t a b p,x = .While t a b p/\k t a b=true:=
 let ⟨i,h⟩:=I8 h
 @Stmt.While.elim (λx=>∀hi:x.ctorIdx=11,@Stmt.While.elim (λ_=>Bool) x hi (λt a b _=>k t a b)=true->∃t a b p,x = .While t a b p/\k t a b=true) x i (λt a b p _ h=>⟨t,a,b,p,rfl,h⟩) i h
theorem Dd0 {x:Stmt} {k:Expr->Expr->List Stmt->List Stmt->Bool} (h:onFor x k=true):∃g it a b p,x = .For g it a b p/\k g it a b=true:=
 let ⟨i,h⟩:=I8 h
 @Stmt.For.elim (λx=>∀hi:x.ctorIdx=9,@Stmt.For.elim (λ_=>Bool) x hi (λg it a b _=>k g it a b)=true->∃g it a b p,x = .For g it a b p/\k g it a b=true) x i (λg it a b p _ h=>⟨g,it,a,b,p,rfl,h⟩) i h
mutual
noncomputable def mS (sc:Scope):S->Stmt->Bool
 | .pass,x=>x.ctorIdx==25
 | .cont,x=>x.ctorIdx==27
 | .brk,x=>x.ctorIdx==26
 | .retNone,x=>Dj5 x λv=>Bd3 v true
 | .ret e,x=>Dj5 x λv=>Cd7 v λy=>mE sc e y
 | .set y e,x=>z5 x λts v=>n8 ts λt=>M1 t λn _=>n==y.str&&K0 (sc.names.lookup n)&&mE sc e v&&Bc2 v
 | .set2 y z e,x=>z5 x λts v=>n8 ts λt=>n7 t λes=>on2 es λa b=>M1 a λn _=>M1 b λm _=>n==y.str&&K0 (sc.names.lookup n)&&m==z.str&&K0 (sc.names.lookup m)&&n != m&&mE sc e v&&V0 v
 | .swap y z a b,x=>z5 x λts v=>n8 ts λt=>n7 t λes=>on2 es λc d=>M1 c λn p=>M1 d λm q=>n7 v λus=>on2 us λc' d'=>M1 c' λa' _=>M1 d' λb' _=>
  n==y.str&&sc.names.lookup n==some .local&&m==z.str&&sc.names.lookup m==some .local&&n != m&&p.line==q.line&&mE sc a (.Name a' default)&&mE sc b (.Name b' default)
 | .setAttr o a e,x=>z5 x λts y=>n8 ts λt=>Ab4 t λv n _=>n==a.str&&mE sc o v&&mE sc e y
 | .setSub o i e,x=>z5 x λts y=>n8 ts λt=>z4 t λv s=>mE sc o v&&mE sc i s&&mE sc e y&&Y9 s
 | .setSub2 o i o' i' a b,x=>z5 x λts y=>n8 ts λt=>n7 t λes=>on2 es λc d=>z4 c λv s=>z4 d λv' s'=>n7 y λus=>on2 us λx1 x2=>mE sc o v&&mE sc i s&&mE sc o' v'&&mE sc i' s'&&mE sc a x1&&mE sc b x2 &&
  Y9 s&&Y9 s'&&V0 x1&&V0 x2&&W2 x1&&W2 x2
 | .augSub o i op e,x=>onAug x λt p y=>z4 t λv s=>p==op.py&&op == .add&&mE sc o v&&mE sc i s&&mE sc e y&&Y9 s
 | .expr e,x=>Dj7 x λv=>mE sc e v&&V0 v
 | .ite c t f,x=>onIfS x λy b o=>mC sc c y&&mSs sc t b&&mSs sc f o
 | .while c b,x=>onWhl x λy ss o=>on0 o (mC sc c y&&mSs sc b ss)
 | .for_ t src b,x=>onFor x λg it ss o=>on0 o (mTg sc t g&&mSrc sc src it&&mSs sc b ss)
noncomputable def mSs (sc:Scope):Ss->List Stmt->Bool
 | .nil,xs=>xs.isEmpty
 | .cons s ss,xs=>match xs with | []=>false | x::xs=>mS sc s x&&mSs sc ss xs
end
section inv
variable {sc:Scope} {x:Expr} {a b:E}
theorem mE_none (hm:mE sc .none x=true):∃k p,x = .Constant .none k p:=by
 refine byc λB5=>Q0 (d8 hm) λc k p B3=>B7 B3 λe1 H2=>B5 ?_
 clear B3 B5
 exact ⟨k,p,by rw [e1,Bb3 H2]⟩
theorem mE_bool {v:Bool} (hm:mE sc (.bool v) x=true):∃k p,x = .Constant (.bool v) k p:=by
 refine byc λB5=>Q0 (d8 hm) λc k p B3=>B7 B3 λe1 H2=>B5 ?_
 clear B3 B5
 exact ⟨k,p,by rw [e1,Dg0 H2]⟩
theorem mE_int {v:Int} (hm:mE sc (.int v) x=true):∃k p,x = .Constant (.int v) k p:=by
 refine byc λB5=>Q0 (d8 hm) λc k p B3=>B7 B3 λe1 H2=>B5 ?_
 clear B3 B5
 exact ⟨k,p,by rw [e1,Ee2 H2]⟩
theorem mE_var {y:Vr} (hm:mE sc (.var y) x=true):∃p,x = .Name y.str p/\K0 (sc.names.lookup y.str)=true:=by
 refine byc λB5=>J8 (P3 hm) λn p B3=>B7 B3 λe1 H2=>B5 ?_
 clear B3 B5
 refine B7 (D9 H2) λH3 H4=>?_
 have e5:=eq_of_beq H3
 exact ⟨p,by rw [e1,e5],e5▸H4⟩
theorem mE_cst {c:Cs0} (hm:mE sc (.cst c) x=true):∃p,x = .Name c.str p/\N7 (sc.names.lookup c.str)=true:=by
 refine byc λB5=>J8 (P3 hm) λn p B3=>B7 B3 λe1 H2=>B5 ?_
 clear B3 B5
 refine B7 (D9 H2) λH3 H4=>?_
 have e5:=eq_of_beq H3
 exact ⟨p,by rw [e1,e5],e5▸H4⟩
theorem mE_bin {op:BOp} (hm:mE sc (.bin op a b) x=true):∃l r p,x = .BinOp l op.py r p/\mE sc a l=true/\mE sc b r=true:=by
 refine byc λB5=>R6 (Ab3 hm) λl o r p B3=>B7 B3 λe1 H2=>B5 ?_
 clear B3 B5
 refine B7 (D9 H2) λH3 H4=>?_
 refine B7 (D9 H3) λH5 H6=>?_
 have e7:=eq_of_beq H5
 exact ⟨l,r,p,by rw [e1,e7],H6,H4⟩
theorem mE_neg (hm:mE sc (.neg a) x=true):∃y p,x = .UnaryOp .USub y p/\mE sc a y=true:=by
 refine byc λB5=>Q0 (Bh0 hm) λo y p B3=>B7 B3 λe1 H2=>B5 ?_
 clear B3 B5
 refine B7 (D9 H2) λH3 H4=>?_
 have e5:=eq_of_beq H3
 exact ⟨y,p,by rw [e1,e5],H4⟩
theorem T9 {k:Expr->PySem.CmpOp->Expr->Bool} (hm:(h9 x λl os rs=>n8 os λo=>n8 rs λr=>k l o r)=true):∃l o r p,x = .Compare l [o] [r] p/\k l o r=true:=by
 refine byc λB5=>R6 (Dd1 hm) λl os rs p B3=>B7 B3 λe H1=>B5 ?_
 clear B3 B5
 refine byc λB5=>C1 (j9 H1) λo B3=>B7 B3 λe1 H2=>B5 ?_
 clear B3 B5
 refine byc λB5=>C1 (j9 H2) λr B3=>B7 B3 λe2 H3=>B5 ?_
 clear B3 B5
 exact ⟨l,o,r,p,by rw [e,e1,e2],H3⟩
theorem mE_cmp {op:COp} (hm:mE sc (.cmp op a b) x=true):∃l r p,x = .Compare l [op.py] [r] p/\mE sc a l=true/\mE sc b r=true:=by
 refine byc λB5=>R6 (T9 hm) λl o r p B3=>B7 B3 λe1 H2=>B5 ?_
 clear B3 B5
 refine B7 (D9 H2) λH3 H4=>?_
 refine B7 (D9 H3) λH5 H6=>?_
 have e7:=eq_of_beq H5
 exact ⟨l,r,p,by rw [e1,e7],H6,H4⟩
theorem Ci9 {o o':PySem.CmpOp} {r:Expr} {t:Bool} (h:(o==o'&&V' r Ai4&&t)=true):o=o'/\(∃k q,r = .Constant .none k q)/\t=true:=by
 refine B7 (D9 h) λH1 H2=>?_
 refine B7 (D9 H1) λH3 H4=>?_
 refine byc λB5=>Q0 (d8 H4) λc k q B3=>B7 B3 λe5 H6=>B5 ?_
 clear B3 B5
 exact ⟨eq_of_beq H3,⟨k,q,by rw [e5,Bb3 H6]⟩,H2⟩
theorem Ba6 (hm:mE sc (.isNone a) x=true):∃l k q p,x = .Compare l [.Is] [.Constant .none k q] p/\mE sc a l=true:=by
 refine byc λB5=>R6 (T9 hm) λl o r p B3=>B7 B3 λe1 H2=>B5 ?_
 clear B3 B5
 refine E6 (Ci9 H2) λe3 C' H5=>?_
 refine J8 C' λk q e4=>?_
 clear C'
 exact ⟨l,k,q,p,by rw [e1,e3,e4],H5⟩
theorem Ag8 (hm:mE sc (.notNone a) x=true):∃l k q p,x = .Compare l [.IsNot] [.Constant .none k q] p/\mE sc a l=true:=by
 refine byc λB5=>R6 (T9 hm) λl o r p B3=>B7 B3 λe1 H2=>B5 ?_
 clear B3 B5
 refine E6 (Ci9 H2) λe3 C' H5=>?_
 refine J8 C' λk q e4=>?_
 clear C'
 exact ⟨l,k,q,p,by rw [e1,e3,e4],H5⟩
theorem Ab9 {r:Expr} (h:(Ag2 r λks vs=>on0 ks (on0 vs true))=true):∃q,r = .Dict [] [] q:=by
 refine byc λB5=>Q0 (Cd9 h) λks vs q B3=>B7 B3 λe1 H2=>B5 ?_
 clear B3 B5
 refine B7 (k7 H2) λe3 H4=>?_
 refine B7 (k7 H4) λe5 H6=>?_
 exact ⟨q,by rw [e1,e3,e5]⟩
theorem Ce9 (hm:mE sc (.eqDict0 a) x=true):∃l q p,x = .Compare l [.Eq] [.Dict [] [] q] p/\mE sc a l=true:=by
 refine byc λB5=>R6 (T9 hm) λl o r p B3=>B7 B3 λe1 H2=>B5 ?_
 clear B3 B5
 refine B7 (D9 H2) λH3 H4=>?_
 refine B7 (D9 H3) λH5 H6=>?_
 have e7:=eq_of_beq H5
 refine C1 (Ab9 H6) λq e8=>?_
 exact ⟨l,q,p,by rw [e1,e7,e8],H4⟩
theorem Ce8 (hm:mE sc (.eqList0 a) x=true):∃l q p,x = .Compare l [.Eq] [.List [] q] p/\mE sc a l=true:=by
 refine byc λB5=>R6 (T9 hm) λl o r p B3=>B7 B3 λe1 H2=>B5 ?_
 clear B3 B5
 refine B7 (D9 H2) λH3 H4=>?_
 refine B7 (D9 H3) λH5 H6=>?_
 have e7:=eq_of_beq H5
 refine byc λB5=>J8 (j7 H6) λes q B3=>B7 B3 λe8 H9=>B5 ?_
 clear B3 B5
 refine B7 (k7 H9) λe10 _=>?_
 exact ⟨l,q,p,by rw [e1,e7,e8,e10],H4⟩
theorem Ch9 {o o':PySem.CmpOp} {t:Bool} (h:(o==o'&&t)=true):o=o'/\t=true:=by
 refine B7 (D9 h) λH1 H2=>?_
 exact ⟨eq_of_beq H1,H2⟩
theorem Ci3 (hm:mE sc (.isIn a b) x=true):∃l r p,x = .Compare l [.In] [r] p/\(mE sc a l&&mE sc b r&&behindInMarks .In r==false)=true:=by
 refine byc λB5=>R6 (T9 hm) λl o r p B3=>B7 B3 λe1 H2=>B5 ?_
 clear B3 B5
 refine B7 (Ch9 H2) λe3 H4=>?_
 exact ⟨l,r,p,by rw [e1,e3],H4⟩
theorem mE_attr {at_:At} (hm:mE sc (.attr a at_) x=true):∃v p,x = .Attribute v at_.str p/\mE sc a v=true:=by
 refine byc λB5=>Q0 (v7 hm) λv n p B3=>B7 B3 λe1 H2=>B5 ?_
 clear B3 B5
 refine B7 (D9 H2) λH3 H4=>?_
 have e5:=eq_of_beq H3
 exact ⟨v,p,by rw [e1,e5],H4⟩
theorem mE_sub (hm:mE sc (.sub a b) x=true):∃v s p,x = .Subscript v s p/\mE sc a v=true/\mE sc b s=true:=by
 refine byc λB5=>Q0 (V2 hm) λv s p B3=>B7 B3 λe1 H2=>B5 ?_
 clear B3 B5
 exact ⟨v,s,p,by rw [e1],D9 H2⟩
theorem Ea8 (hm:mE sc (.slice a b) x=true):∃v hi q p,x = .Subscript v (.Slice none (some hi) none q) p/\(mE sc a v&&mE sc b hi)=true:=by
 refine byc λB5=>Q0 (V2 hm) λv s p B3=>B7 B3 λe1 H2=>B5 ?_
 clear B3 B5
 refine byc λB5=>R6 (Dc8 H2) λu w z q B3=>B7 B3 λe3 H4=>B5 ?_
 clear B3 B5
 refine B7 (v6 H4) λe5 H6=>?_
 refine B7 (v6 H6) λe7 H8=>?_
 refine byc λB5=>C1 (Af9 H8) λhi B3=>B7 B3 λe9 H10=>B5 ?_
 clear B3 B5
 exact ⟨v,hi,q,p,by rw [e1,e3,e5,e7,e9],H10⟩
theorem mE_list {es:Es} (hm:mE sc (.list es) x=true):∃xs p,x = .List xs p/\z6 sc es xs=true:=j7 hm
theorem mE_tup {es:Es} (hm:mE sc (.tup es) x=true):∃xs c p,x = .Tuple xs c p/\z6 sc es xs=true:=t9 hm
theorem mE_rep (hm:mE sc (.rep a b) x=true):∃e q r p,x = .BinOp (.List [e] q) .Mult r p/\mE sc a e=true/\mE sc b r=true:=by
 refine byc λB5=>R6 (Ab3 hm) λl o r p B3=>B7 B3 λe1 H2=>B5 ?_
 clear B3 B5
 refine B7 (D9 H2) λH3 H4=>?_
 have e5:=eq_of_beq H3
 refine byc λB5=>J8 (j7 H4) λes q B3=>B7 B3 λe6 H7=>B5 ?_
 clear B3 B5
 refine byc λB5=>C1 (j9 H7) λe B3=>B7 B3 λe8 H9=>B5 ?_
 clear B3 B5
 exact ⟨e,q,r,p,by rw [e1,e5,e6,e8],D9 H9⟩
theorem mE_cat1 (hm:mE sc (.cat1 a b) x=true):∃e q r p,x = .BinOp (.List [e] q) .Add r p/\(mE sc a e&&mE sc b r)=true:=by
 refine byc λB5=>R6 (Ab3 hm) λl o r p B3=>B7 B3 λe1 H2=>B5 ?_
 clear B3 B5
 refine B7 (D9 H2) λH3 H4=>?_
 have e5:=eq_of_beq H3
 refine byc λB5=>J8 (j7 H4) λes q B3=>B7 B3 λe6 H7=>B5 ?_
 clear B3 B5
 refine byc λB5=>C1 (j9 H7) λe B3=>B7 B3 λe8 H9=>B5 ?_
 clear B3 B5
 exact ⟨e,q,r,p,by rw [e1,e5,e6,e8],H9⟩
theorem mE_ite {c:C} (hm:mE sc (.ite c a b) x=true):∃t u v p,x = .IfExp t u v p/\(mC sc c t&&mE sc a u&&mE sc b v)=true:=Dj6 hm
theorem u4 {k:Str->List Expr->Bool} (hm:(j8 x λg as ks _=>on0 ks (M1 g λn _=>k n as))=true):∃n q as p,x = .Call (.Name n q) as [] p/\k n as=true:=by
 refine byc λB5=>R6 (Ag3 hm) λf as ks p B3=>B7 B3 λe1 H2=>B5 ?_
 clear B3 B5
 refine B7 (k7 H2) λe3 H4=>?_
 refine byc λB5=>J8 (P3 H4) λn q B3=>B7 B3 λe5 H6=>B5 ?_
 clear B3 B5
 exact ⟨n,q,as,p,by rw [e1,e3,e5],H6⟩
theorem Bb1 {k:Expr->Str->Pos->List Expr->Pos->Bool} (hm:(j8 x λg as ks p=>on0 ks (Ab4 g λv n ap=>k v n ap as p))=true):∃v n ap as p,x = .Call (.Attribute v n ap) as [] p/\k v n ap as p=true:=by
 refine byc λB5=>R6 (Ag3 hm) λf as ks p B3=>B7 B3 λe1 H2=>B5 ?_
 clear B3 B5
 refine B7 (k7 H2) λe3 H4=>?_
 refine byc λB5=>Q0 (v7 H4) λv n ap B3=>B7 B3 λe5 H6=>B5 ?_
 clear B3 B5
 exact ⟨v,n,ap,as,p,by rw [e1,e3,e5],H6⟩
theorem mE_call {f:Fn} {es:Es} (hm:mE sc (.call f es) x=true):∃n q as p,x = .Call (.Name n q) as [] p/\(n==f.str&&f.kl.isNone&&N7 (sc.names.lookup n)&&z6 sc es as)=true:=u4 (k:=λn as=>n==f.str&&f.kl.isNone&&N7 (sc.names.lookup n)&&z6 sc es as) hm
theorem mE_new {k:Kl} {es:Es} (hm:mE sc (.new k es) x=true):∃n q as p,x = .Call (.Name n q) as [] p/\(n==k.str&&N7 (sc.names.lookup n)&&z6 sc es as)=true:=u4 (k:=λn as=>n==k.str&&N7 (sc.names.lookup n)&&z6 sc es as) hm
theorem mE_meth {m:Fn} {es:Es} (hm:mE sc (.meth a m es) x=true):∃v n ap as p,x = .Call (.Attribute v n ap) as [] p/\(n==m.str&&mE sc a v&&z6 sc es as&&decide (as.length<=5)&&ap.endLine==p.line)=true:=Bb1 (k:=λv n ap as p=>n==m.str&&mE sc a v&&z6 sc es as&&decide (as.length<=5)&&ap.endLine==p.line) hm
theorem mE_bm {m:Bm} {es:Es} (hm:mE sc (.bm m a es) x=true):∃v n ap as p,x = .Call (.Attribute v n ap) as [] p/\(n==m.str&&mE sc a v&&z6 sc es as&&decide (as.length<=5)&&ap.endLine==p.line)=true:=Bb1 (k:=λv n ap as p=>n==m.str&&mE sc a v&&z6 sc es as&&decide (as.length<=5)&&ap.endLine==p.line) hm
theorem mE_bi {f:Bi} (hm:mE sc (.bi f a) x=true):∃n q y p,x = .Call (.Name n q) [y] [] p/\(n==f.str&&N7 (sc.names.lookup n)&&mE sc a y)=true:=by
 refine byc λB5=>R6 (u4 (k:=λn as=>n8 as λy=>n==f.str&&N7 (sc.names.lookup n)&&mE sc a y) hm) λn q as p B3=>B7 B3 λe1 H2=>B5 ?_
 clear B3 B5
 refine byc λB5=>C1 (j9 H2) λy B3=>B7 B3 λe3 H4=>B5 ?_
 clear B3 B5
 exact ⟨n,q,y,p,by rw [e1,e3],H4⟩
theorem mE_comp {elt:E} {y:Vr} {src:Src} {cond:Cs} (hm:mE sc (.comp elt y src cond) x=true):∃e n q it ifs isc p,x = .ListComp e [⟨.Name n q,it,ifs,0⟩] isc p /\
  (n==y.str&&Be8 sc isc n&&mSrc sc src it&&mE (Ae3 sc isc) elt e&&mCs (Ae3 sc isc) cond ifs&&decide (ifs.length<=1))=true:=by
 refine byc λB5=>R6 (Ce0 hm) λe gs isc p B3=>B7 B3 λe1 H2=>B5 ?_
 clear B3 B5
 refine byc λB5=>C1 (j9 H2) λC' B3=>B7 B3 λe3 H4=>B5 ?_
 clear B3 B5
 obtain ⟨t,it,ifs,as⟩:=C'
 refine B7 (D9 H4) λH5 H6=>?_
 refine byc λB5=>J8 (P3 H6) λn q B3=>B7 B3 λH7 H8=>B5 ?_
 clear B3 B5
 have h1:t = .Name n q:=H7
 have h0:as=0:=eq_of_beq H5
 exact ⟨e,n,q,it,ifs,isc,p,by rw [e1,e3,h1,h0],H8⟩
theorem mEs_nil {xs:List Expr} (hm:z6 sc .nil xs=true):xs=[]:=List.isEmpty_iff.mp hm
theorem Bh4 {e:E} {es:Es} {xs:List Expr} (hm:z6 sc (.cons e es) xs=true):∃y ys,xs=y::ys/\(mE sc e y=true/\z6 sc es ys=true)/\W2 y=true:=by
 cases xs with
 | nil=>cases hm
 | cons y ys=>
  refine B7 (D9 hm) λh h2=>?_
  exact ⟨y,ys,rfl,D9 h,h2⟩
theorem Ci4 {xs:List Expr} (hm:mCs sc .nil xs=true):xs=[]:=List.isEmpty_iff.mp hm
theorem Ag9 {c:C} {cs:Cs} {xs:List Expr} (hm:mCs sc (.cons c cs) xs=true):∃y ys,xs=y::ys/\mC sc c y=true/\mCs sc cs ys=true:=by
 cases xs with
 | nil=>cases hm
 | cons y ys=>exact ⟨y,ys,rfl,D9 hm⟩
theorem mC_cmp {op:COp} (hm:mC sc (.cmp op a b) x=true):∃l o r p,x = .Compare l [o] [r] p/\(o==op.py&&mE sc a l&&mE sc b r)=true:=T9 hm
theorem Dd9 (hm:mC sc (.isNone a) x=true):∃l k q p,x = .Compare l [.Is] [.Constant .none k q] p/\mE sc a l=true:=Ba6 hm
theorem Cf0 (hm:mC sc (.notNone a) x=true):∃l k q p,x = .Compare l [.IsNot] [.Constant .none k q] p/\mE sc a l=true:=Ag8 hm
theorem mC_isIn (hm:mC sc (.isIn a b) x=true):∃l r p,x = .Compare l [.In] [r] p/\(mE sc a l&&mE sc b r&&behindInMarks .In r==false)=true:=Ci3 hm
theorem Ea9 (hm:mC sc (.notIn a b) x=true):∃l r p,x = .Compare l [.NotIn] [r] p/\(mE sc a l&&mE sc b r&&behindInMarks .NotIn r==false)=true:=by
 refine byc λB5=>R6 (T9 hm) λl o r p B3=>B7 B3 λe1 H2=>B5 ?_
 clear B3 B5
 refine B7 (Ch9 H2) λe3 H4=>?_
 exact ⟨l,r,p,by rw [e1,e3],H4⟩
theorem mC_and {cs:Cs} (hm:mC sc (.and cs) x=true):∃vs p,x = .BoolOp .And vs p/\mCs sc cs vs=true:=by
 refine byc λB5=>Q0 (Ag4 hm) λo vs p B3=>B7 B3 λe1 H2=>B5 ?_
 clear B3 B5
 refine B7 (D9 H2) λH3 H4=>?_
 have e5:=eq_of_beq H3
 exact ⟨vs,p,by rw [e1,e5],H4⟩
theorem mC_or {cs:Cs} (hm:mC sc (.or cs) x=true):∃vs p,x = .BoolOp .Or vs p/\mCs sc cs vs=true:=by
 refine byc λB5=>Q0 (Ag4 hm) λo vs p B3=>B7 B3 λe1 H2=>B5 ?_
 clear B3 B5
 refine B7 (D9 H2) λH3 H4=>?_
 have e5:=eq_of_beq H3
 exact ⟨vs,p,by rw [e1,e5],H4⟩
theorem mC_not {c:C} (hm:mC sc (.not c) x=true):∃y p,x = .UnaryOp .Not y p/\mC sc c y=true:=by
 refine byc λB5=>Q0 (Bh0 hm) λo y p B3=>B7 B3 λe1 H2=>B5 ?_
 clear B3 B5
 refine B7 (D9 H2) λH3 H4=>?_
 have e5:=eq_of_beq H3
 exact ⟨y,p,by rw [e1,e5],H4⟩
theorem mC_val {e:E} (hm:mC sc (.val e) x=true):Dh3 x=true/\mE sc e x=true:=D9 hm
theorem Ag7 {es:Es} (hm:mSrc sc (.range es) x=true):∃n q as p,x = .Call (.Name n q) as [] p/\(n==("range":Str)&&N7 (sc.names.lookup n)&&z6 sc es as)=true:=u4 (k:=λn as=>n==("range":Str)&&N7 (sc.names.lookup n)&&z6 sc es as) hm
theorem Bh3 {e:E} (hm:mSrc sc (.seq e) x=true):mE sc e x=true/\unSet x=true:=D9 hm
theorem mTg_one {y:Vr} (hm:mTg sc (.one y) x=true):∃n q1,x = .Name n q1/\(n==y.str&&K0 (sc.names.lookup n))=true:=P3 hm
theorem w9 {k:Str->Pos->Str->Pos->Bool} (hm:(n7 x λes=>on2 es λa b=>M1 a λn p=>M1 b λm q=>k n p m q)=true):∃n q1 m q2 c q3,x = .Tuple [.Name n q1,.Name m q2] c q3/\k n q1 m q2=true:=by
 refine byc λB5=>Q0 (t9 hm) λes c p B3=>B7 B3 λe1 H2=>B5 ?_
 clear B3 B5
 refine byc λB5=>J8 (Bd5 H2) λa b B3=>B7 B3 λe3 H4=>B5 ?_
 clear B3 B5
 refine byc λB5=>J8 (P3 H4) λn q1 B3=>B7 B3 λe5 H6=>B5 ?_
 clear B3 B5
 refine byc λB5=>J8 (P3 H6) λm q2 B3=>B7 B3 λe7 H8=>B5 ?_
 clear B3 B5
 exact ⟨n,q1,m,q2,c,p,by rw [e1,e3,e5,e7],H8⟩
theorem mTg_two {y z:Vr} (hm:mTg sc (.two y z) x=true):∃n q1 m q2 c q3,x = .Tuple [.Name n q1,.Name m q2] c q3 /\
 (n==y.str&&K0 (sc.names.lookup n)&&m==z.str&&K0 (sc.names.lookup m)&&n != m)=true:=w9 (k:=λn _ m _=>n==y.str&&K0 (sc.names.lookup n)&&m==z.str&&K0 (sc.names.lookup m)&&n != m) hm
end inv
section invS
variable {sc:Scope} {x:Stmt}
theorem mS_pass (hm:mS sc .pass x=true):∃p,x = .Pass p:=by
 exact @Stmt.Pass.elim (λx=>∃p,x = .Pass p) x (eq_of_beq hm) λp=>⟨p,rfl⟩
theorem mS_cont (hm:mS sc .cont x=true):∃p,x = .Continue p:=by
 exact @Stmt.Continue.elim (λx=>∃p,x = .Continue p) x (eq_of_beq hm) λp=>⟨p,rfl⟩
theorem mS_brk (hm:mS sc .brk x=true):∃p,x = .Break p:=by
 exact @Stmt.Break.elim (λx=>∃p,x = .Break p) x (eq_of_beq hm) λp=>⟨p,rfl⟩
theorem Ce7 (hm:mS sc .retNone x=true):∃p,x = .Return none p:=by
 refine byc λB5=>J8 (Ba4 hm) λv p B3=>B7 B3 λe1 H2=>B5 ?_
 clear B3 B5
 refine B7 (v6 H2) λe3 _=>?_
 exact ⟨p,by rw [e1,e3]⟩
theorem mS_ret {e:E} (hm:mS sc (.ret e) x=true):∃v p,x = .Return (some v) p/\mE sc e v=true:=by
 refine byc λB5=>J8 (Ba4 hm) λv p B3=>B7 B3 λe1 H2=>B5 ?_
 clear B3 B5
 refine byc λB5=>C1 (Af9 H2) λy B3=>B7 B3 λe3 H4=>B5 ?_
 clear B3 B5
 exact ⟨y,p,by rw [e1,e3],H4⟩
theorem i7 {k:Expr->Expr->Bool} (hm:(z5 x λts v=>n8 ts λt=>k t v)=true):∃t v p,x = .Assign [t] v p/\k t v=true:=by
 refine byc λB5=>Q0 (Dd3 hm) λts v p B3=>B7 B3 λe1 H2=>B5 ?_
 clear B3 B5
 refine byc λB5=>C1 (j9 H2) λt B3=>B7 B3 λe3 H4=>B5 ?_
 clear B3 B5
 exact ⟨t,v,p,by rw [e1,e3],H4⟩
theorem mS_set {y:Vr} {e:E} (hm:mS sc (.set y e) x=true):∃n q v p,x = .Assign [.Name n q] v p/\(n==y.str&&K0 (sc.names.lookup n)&&mE sc e v&&Bc2 v)=true:=by
 refine byc λB5=>Q0 (i7 hm) λt v p B3=>B7 B3 λe1 H2=>B5 ?_
 clear B3 B5
 refine byc λB5=>J8 (P3 H2) λn q B3=>B7 B3 λe3 H4=>B5 ?_
 clear B3 B5
 exact ⟨n,q,v,p,by rw [e1,e3],H4⟩
theorem mS_set2 {a b:Vr} {e:E} (hm:mS sc (.set2 a b e) x=true):∃n q1 m q2 c q3 v p,x = .Assign [.Tuple [.Name n q1,.Name m q2] c q3] v p /\
  (n==a.str&&K0 (sc.names.lookup n)&&m==b.str&&K0 (sc.names.lookup m)&&n != m&&mE sc e v&&V0 v)=true:=by
 refine byc λB5=>Q0 (i7 hm) λt v p B3=>B7 B3 λe1 H2=>B5 ?_
 clear B3 B5
 refine byc λB5=>ux6 (w9 (k:=λn _ m _=>n==a.str&&K0 (sc.names.lookup n)&&m==b.str&&K0 (sc.names.lookup m)&&n != m&&mE sc e v&&V0 v) H2) λn q1 m q2 c q3 B3=>B7 B3 λe3 H4=>B5 ?_
 clear B3 B5
 exact ⟨n,q1,m,q2,c,q3,v,p,by rw [e1,e3],H4⟩
noncomputable def Ci8 (sc:Scope) (a b:Vr) (u w:E) (n:Str) (p:Pos) (m:Str) (q:Pos) (a' b':Str):Bool:=
 n==a.str&&sc.names.lookup n==some .local&&m==b.str&&sc.names.lookup m==some .local&&n != m&&p.line==q.line&&mE sc u (.Name a' default)&&mE sc w (.Name b' default)
theorem mS_swap {a b:Vr} {e1 e2:E} (hm:mS sc (.swap a b e1 e2) x=true):∃n q1 m q2 c q3 n' q4 m' q5 c' q6 p,x = .Assign [.Tuple [.Name n q1,.Name m q2] c q3] (.Tuple [.Name n' q4,.Name m' q5] c' q6) p/\Ci8 sc a b e1 e2 n q1 m q2 n' m'=true:=by
 refine byc λB5=>Q0 (i7 hm) λt v p B3=>B7 B3 λg0 G0=>B5 ?_
 clear B3 B5
 refine byc λB5=>ux6 (w9 (k:=λn p m q=>n7 v λus=>on2 us λc' d'=>M1 c' λa' _=>M1 d' λb' _=>Ci8 sc a b e1 e2 n p m q a' b') G0) λn q1 m q2 c q3 B3=>B7 B3 λg1 G1=>B5 ?_
 clear B3 B5
 refine byc λB5=>ux6 (w9 (k:=λa' _ b' _=>Ci8 sc a b e1 e2 n q1 m q2 a' b') G1) λn' q4 m' q5 c' q6 B3=>B7 B3 λg2 G2=>B5 ?_
 clear B3 B5
 exact ⟨n,q1,m,q2,c,q3,n',q4,m',q5,c',q6,p,by rw [g0,g1,g2],G2⟩
theorem Ce6 {o e:E} {a:At} (hm:mS sc (.setAttr o a e) x=true):∃v n q y p,x = .Assign [.Attribute v n q] y p/\(n==a.str&&mE sc o v&&mE sc e y)=true:=by
 refine byc λB5=>Q0 (i7 hm) λt y p B3=>B7 B3 λe1 H2=>B5 ?_
 clear B3 B5
 refine byc λB5=>Q0 (v7 H2) λv n q B3=>B7 B3 λe3 H4=>B5 ?_
 clear B3 B5
 exact ⟨v,n,q,y,p,by rw [e1,e3],H4⟩
theorem Dd7 {o i e:E} (hm:mS sc (.setSub o i e) x=true):∃v j q y p,x = .Assign [.Subscript v j q] y p/\(mE sc o v&&mE sc i j&&mE sc e y&&Y9 j)=true:=by
 refine byc λB5=>Q0 (i7 hm) λt y p B3=>B7 B3 λe1 H2=>B5 ?_
 clear B3 B5
 refine byc λB5=>Q0 (V2 H2) λv s q B3=>B7 B3 λe3 H4=>B5 ?_
 clear B3 B5
 exact ⟨v,s,q,y,p,by rw [e1,e3],H4⟩
noncomputable def Ec2 (sc:Scope) (o i o' i' a b:E) (v s v' s' x1 x2:Expr):Bool:=
 mE sc o v&&mE sc i s&&mE sc o' v'&&mE sc i' s'&&mE sc a x1&&mE sc b x2&&Y9 s&&Y9 s'&&V0 x1&&V0 x2&&W2 x1&&W2 x2
theorem Ce5 {o i o' i' a b:E} (hm:mS sc (.setSub2 o i o' i' a b) x=true):∃v s q1 v' s' q2 c q3 x1 x2 c' q4 p,x = .Assign [.Tuple [.Subscript v s q1,.Subscript v' s' q2] c q3] (.Tuple [x1,x2] c' q4) p/\Ec2 sc o i o' i' a b v s v' s' x1 x2=true:=by
 have hm:(z5 x λts y=>n8 ts λt=>n7 t λes=>on2 es λc d=>z4 c λv s=>z4 d λv' s'=>n7 y λus=>on2 us λx1 x2=>Ec2 sc o i o' i' a b v s v' s' x1 x2)=true:=hm
 refine byc λB5=>Q0 (i7 hm) λt y p B3=>B7 B3 λe0 h1=>B5 ?_
 clear B3 B5
 refine byc λB5=>Q0 (t9 h1) λes c q3 B3=>B7 B3 λe1 h2=>B5 ?_
 clear B3 B5
 refine byc λB5=>J8 (Bd5 h2) λt1 t2 B3=>B7 B3 λe2 h3=>B5 ?_
 clear B3 B5
 refine byc λB5=>Q0 (V2 h3) λv s q1 B3=>B7 B3 λe3 h4=>B5 ?_
 clear B3 B5
 refine byc λB5=>Q0 (V2 h4) λv' s' q2 B3=>B7 B3 λe4 h5=>B5 ?_
 clear B3 B5
 refine byc λB5=>Q0 (t9 h5) λus c' q4 B3=>B7 B3 λe5 h6=>B5 ?_
 clear B3 B5
 refine byc λB5=>J8 (Bd5 h6) λx1 x2 B3=>B7 B3 λe6 h7=>B5 ?_
 clear B3 B5
 exact ⟨v,s,q1,v',s',q2,c,q3,x1,x2,c',q4,p,by rw [e0,e1,e2,e3,e4,e5,e6],h7⟩
theorem Dd8 {o i e:E} {op:BOp} (hm:mS sc (.augSub o i op e) x=true):∃v s q o' y p,x = .AugAssign (.Subscript v s q) o' y p /\
  (o'==op.py&&op == .add&&mE sc o v&&mE sc i s&&mE sc e y&&Y9 s)=true:=by
 refine byc λB5=>R6 (Dd2 hm) λt o' y p B3=>B7 B3 λe1 H2=>B5 ?_
 clear B3 B5
 refine byc λB5=>Q0 (V2 H2) λv s q B3=>B7 B3 λe3 H4=>B5 ?_
 clear B3 B5
 exact ⟨v,s,q,o',y,p,by rw [e1,e3],H4⟩
theorem mS_expr {e:E} (hm:mS sc (.expr e) x=true):∃v p,x = .Expr v p/\mE sc e v=true/\V0 v=true:=by
 refine byc λB5=>J8 (Cd8 hm) λv p B3=>B7 B3 λe1 H2=>B5 ?_
 clear B3 B5
 exact ⟨v,p,by rw [e1],D9 H2⟩
theorem mS_ite {c:C} {t f:Ss} (hm:mS sc (.ite c t f) x=true):∃y b o p,x = .If y b o p/\(mC sc c y=true/\mSs sc t b=true)/\mSs sc f o=true:=by
 refine byc λB5=>R6 (Dc9 hm) λy b o p B3=>B7 B3 λe1 H2=>B5 ?_
 clear B3 B5
 refine B7 (D9 H2) λH3 H4=>?_
 exact ⟨y,b,o,p,by rw [e1],D9 H3,H4⟩
theorem Ea7 {c:C} {b:Ss} (hm:mS sc (.while c b) x=true):∃t ss p,x = .While t ss [] p/\(mC sc c t&&mSs sc b ss)=true:=by
 refine byc λB5=>R6 (Dc7 hm) λt ss o p B3=>B7 B3 λe1 H2=>B5 ?_
 clear B3 B5
 refine B7 (k7 H2) λe3 H4=>?_
 exact ⟨t,ss,p,by rw [e1,e3],H4⟩
theorem mS_for {t:Tg} {src:Src} {b:Ss} (hm:mS sc (.for_ t src b) x=true):∃g it ss p,x = .For g it ss [] p/\(mTg sc t g&&mSrc sc src it&&mSs sc b ss)=true:=by
 refine byc λB5=>ux5 (Dd0 hm) λg it ss o p B3=>B7 B3 λe1 H2=>B5 ?_
 clear B3 B5
 refine B7 (k7 H2) λe3 H4=>?_
 exact ⟨g,it,ss,p,by rw [e1,e3],H4⟩
theorem mSs_nil {xs:List Stmt} (hm:mSs sc .nil xs=true):xs=[]:=List.isEmpty_iff.mp hm
theorem Ea6 {s:Mine.Internal.S} {ss:Ss} {xs:List Stmt} (hm:mSs sc (.cons s ss) xs=true):∃y ys,xs=y::ys/\mS sc s y=true/\mSs sc ss ys=true:=by
 cases xs with
 | nil=>cases hm
 | cons y ys=>exact ⟨y,ys,rfl,D9 hm⟩
end invS
noncomputable def Fn.params:Fn->List Vr
 | .variable_of=>[.literal]
 | .cone_nodes=>[.aig,.literals]
 | .aig_cnf=>[.aig,.literals]
 | .luby=>[.place]
 | .slot=>[.literal]
 | .plain_clause=>[.clause]
 | .s_init=>[.self,.count]
 | .value=>[.self,.literal]
 | .level=>[.self]
 | .add=>[.self,.clause]
 | .attach=>[.self,.literals]
 | .learn=>[.self,.literals]
 | .refute=>[.self]
 | .assign=>[.self,.literal,.reason]
 | .decide=>[.self,.literal]
 | .cancel=>[.self,.level]
 | .propagate=>[.self]
 | .still_watched=>[.self,.number,.false_]
 | .forces=>[.self,.number]
 | .bump=>[.self,.variable_]
 | .analyze=>[.self,.conflict]
 | .ordered=>[.self,.first,.rest]
 | .free_variable=>[.self]
 | .assume=>[.self,.assumptions]
 | .solve=>[.self,.assumptions,.most]
 | .leave=>[.self,.answer]
 | .model=>[.self]
 | .difference_clauses=>[.aig,.literal]
 | .loaded_solver=>[.count,.clauses]
 | .solver_difference=>[.aig,.left,.right,.inputs,.conflicts]
 | .a_init=>[.self]
 | .add_input=>[.self]
 | .is_and=>[.self,.node]
 | .land=>[.self,.l,.r]
 | .lor=>[.self,.l,.r]
 | .lxor=>[.self,.l,.r]
 | .law_seed=>[.script]
 | .law_from=>[.seed,.many]
 | .law_bits=>[.aig,.line]
 | .law_side=>[.found,.literal]
 | .law=>[.script]
noncomputable def u9:Ss:=
  (.cons (.set .number (.bin .add (.bin .shr (.var .literal) (.int 1)) (.int 1)))
 (.cons (.ite (.cmp .eq (.bin .band (.var .literal) (.int 1)) (.int 1))
  (.cons (.ret (.neg (.var .number)))
  .nil)
  .nil)
 (.cons (.ret (.var .number))
 .nil)))
noncomputable def Aa8:Ss:=
  (.cons (.set .used (.rep (.bool false) (.bi .len (.attr (.var .aig) .nodes))))
 (.cons (.for_ (.one .literal) (.seq (.var .literals))
  (.cons (.setSub (.var .used) (.bin .shr (.var .literal) (.int 1)) (.bool true))
  .nil))
 (.cons (.for_ (.one .node) (.range (.cons (.bin .sub (.bi .len (.attr (.var .aig) .nodes)) (.int 1)) (.cons (.int 0) (.cons (.neg (.int 1)) .nil))))
  (.cons (.ite (.and (.cons (.val (.sub (.var .used) (.var .node))) (.cons (.val (.meth (.var .aig) .is_and (.cons (.var .node) .nil))) .nil)))
   (.cons (.set2 .left .right (.sub (.attr (.var .aig) .nodes) (.var .node)))
   (.cons (.setSub (.var .used) (.bin .shr (.var .left) (.int 1)) (.bool true))
   (.cons (.setSub (.var .used) (.bin .shr (.var .right) (.int 1)) (.bool true))
   .nil)))
   .nil)
  .nil))
 (.cons (.ret (.comp (.var .node) .node (.range (.cons (.bi .len (.attr (.var .aig) .nodes)) .nil)) (.cons (.val (.sub (.var .used) (.var .node))) .nil)))
 .nil))))
noncomputable def Bb7:Ss:=
  (.cons (.set .clauses (.list .nil))
 (.cons (.set .variables (.rep (.int 0) (.bi .len (.attr (.var .aig) .nodes))))
 (.cons (.for_ (.one .node) (.seq (.call .cone_nodes (.cons (.var .aig) (.cons (.var .literals) .nil))))
  (.cons (.set .out (.bin .add (.var .node) (.int 1)))
  (.cons (.setSub (.var .variables) (.var .node) (.var .out))
  (.cons (.ite (.cmp .eq (.var .node) (.int 0))
   (.cons (.expr (.bm .append (.var .clauses) (.cons (.tup (.cons (.neg (.var .out)) .nil)) .nil)))
   .nil)
   (.cons (.ite (.val (.meth (.var .aig) .is_and (.cons (.var .node) .nil)))
    (.cons (.set .left (.call .variable_of (.cons (.sub (.sub (.attr (.var .aig) .nodes) (.var .node)) (.int 0)) .nil)))
    (.cons (.set .right (.call .variable_of (.cons (.sub (.sub (.attr (.var .aig) .nodes) (.var .node)) (.int 1)) .nil)))
    (.cons (.expr (.bm .append (.var .clauses) (.cons (.tup (.cons (.neg (.var .out)) (.cons (.var .left) .nil))) .nil)))
    (.cons (.expr (.bm .append (.var .clauses) (.cons (.tup (.cons (.neg (.var .out)) (.cons (.var .right) .nil))) .nil)))
    (.cons (.expr (.bm .append (.var .clauses) (.cons (.tup (.cons (.var .out) (.cons (.neg (.var .left)) (.cons (.neg (.var .right)) .nil)))) .nil)))
    .nil)))))
    .nil)
   .nil))
  .nil))))
 (.cons (.ret (.tup (.cons (.var .clauses) (.cons (.var .variables) .nil))))
 .nil))))
noncomputable def Ee6:Ss:=
  (.cons (.set .rest (.var .place))
 (.cons (.while (.val (.bool true))
  (.cons (.set .bits (.bm .bitlen (.var .rest) .nil))
  (.cons (.ite (.cmp .eq (.var .rest) (.bin .sub (.bin .shl (.int 1) (.var .bits)) (.int 1)))
   (.cons (.ret (.bin .shl (.int 1) (.bin .sub (.var .bits) (.int 1))))
   .nil)
   .nil)
  (.cons (.set .rest (.bin .add (.bin .sub (.var .rest) (.bin .shl (.int 1) (.bin .sub (.var .bits) (.int 1)))) (.int 1)))
  .nil))))
 .nil))
noncomputable def b_slot:Ss:=
  (.cons (.ite (.cmp .lt (.var .literal) (.int 0))
  (.cons (.ret (.bin .sub (.int 1) (.bin .mul (.int 2) (.var .literal))))
  .nil)
  .nil)
 (.cons (.ret (.bin .mul (.int 2) (.var .literal)))
 .nil))
noncomputable def t6:Ss:=
  (.cons (.set .kept (.list .nil))
 (.cons (.for_ (.one .literal) (.seq (.var .clause))
  (.cons (.ite (.isIn (.neg (.var .literal)) (.var .kept))
   (.cons (.ret .none)
   .nil)
   .nil)
  (.cons (.ite (.notIn (.var .literal) (.var .kept))
   (.cons (.expr (.bm .append (.var .kept) (.cons (.var .literal) .nil)))
   .nil)
   .nil)
  .nil)))
 (.cons (.ret (.var .kept))
 .nil)))
noncomputable def Bj9:Ss:=
  (.cons (.setAttr (.var .self) .count (.var .count))
 (.cons (.setAttr (.var .self) .clauses (.list .nil))
 (.cons (.setAttr (.var .self) .watches (.comp (.list .nil) .place (.range (.cons (.bin .add (.bin .mul (.int 2) (.var .count)) (.int 2)) .nil)) .nil))
 (.cons (.setAttr (.var .self) .values (.rep (.int 0) (.bin .add (.var .count) (.int 1))))
 (.cons (.setAttr (.var .self) .levels (.rep (.int 0) (.bin .add (.var .count) (.int 1))))
 (.cons (.setAttr (.var .self) .reasons (.rep (.neg (.int 1)) (.bin .add (.var .count) (.int 1))))
 (.cons (.setAttr (.var .self) .phases (.rep (.neg (.int 1)) (.bin .add (.var .count) (.int 1))))
 (.cons (.setAttr (.var .self) .activity (.rep (.int 0) (.bin .add (.var .count) (.int 1))))
 (.cons (.setAttr (.var .self) .step (.int 1))
 (.cons (.setAttr (.var .self) .trail (.list .nil))
 (.cons (.setAttr (.var .self) .limits (.list .nil))
 (.cons (.setAttr (.var .self) .head (.int 0))
 (.cons (.setAttr (.var .self) .learned (.list .nil))
 (.cons (.setAttr (.var .self) .refuted (.bool false))
 (.cons (.setAttr (.var .self) .found (.rep (.bool false) (.bin .add (.var .count) (.int 1))))
 .nil)))))))))))))))
noncomputable def b_value:Ss:=
  (.cons (.ite (.cmp .lt (.var .literal) (.int 0))
  (.cons (.ret (.neg (.sub (.attr (.var .self) .values) (.neg (.var .literal)))))
  .nil)
  .nil)
 (.cons (.ret (.sub (.attr (.var .self) .values) (.var .literal)))
 .nil))
noncomputable def b_level:Ss:=
  (.cons (.ret (.bi .len (.attr (.var .self) .limits)))
 .nil)
noncomputable def b_add:Ss:=
  (.cons (.set .literals (.call .plain_clause (.cons (.var .clause) .nil)))
 (.cons (.ite (.or (.cons (.isNone (.var .literals)) (.cons (.val (.attr (.var .self) .refuted)) .nil)))
  (.cons .retNone
  .nil)
  .nil)
 (.cons (.set .rest (.list .nil))
 (.cons (.for_ (.one .literal) (.seq (.var .literals))
  (.cons (.ite (.cmp .eq (.meth (.var .self) .value (.cons (.var .literal) .nil)) (.int 1))
   (.cons .retNone
   .nil)
   .nil)
  (.cons (.ite (.cmp .eq (.meth (.var .self) .value (.cons (.var .literal) .nil)) (.int 0))
   (.cons (.expr (.bm .append (.var .rest) (.cons (.var .literal) .nil)))
   .nil)
   .nil)
  .nil)))
 (.cons (.ite (.not (.val (.var .rest)))
  (.cons (.expr (.meth (.var .self) .refute .nil))
  .nil)
  (.cons (.ite (.cmp .eq (.bi .len (.var .rest)) (.int 1))
   (.cons (.expr (.meth (.var .self) .assign (.cons (.sub (.var .rest) (.int 0)) (.cons (.neg (.int 1)) .nil))))
   .nil)
   (.cons (.expr (.meth (.var .self) .attach (.cons (.var .rest) .nil)))
   .nil))
  .nil))
 .nil)))))
noncomputable def Ca5:Ss:=
  (.cons (.set .number (.bi .len (.attr (.var .self) .clauses)))
 (.cons (.expr (.bm .append (.attr (.var .self) .clauses) (.cons (.var .literals) .nil)))
 (.cons (.expr (.bm .append (.sub (.attr (.var .self) .watches) (.call .slot (.cons (.sub (.var .literals) (.int 0)) .nil))) (.cons (.var .number) .nil)))
 (.cons (.expr (.bm .append (.sub (.attr (.var .self) .watches) (.call .slot (.cons (.sub (.var .literals) (.int 1)) .nil))) (.cons (.var .number) .nil)))
 (.cons (.ret (.var .number))
 .nil)))))
noncomputable def Db0:Ss:=
  (.cons (.expr (.bm .append (.attr (.var .self) .learned) (.cons (.bi .tuple (.var .literals)) .nil)))
 (.cons (.ite (.cmp .eq (.bi .len (.var .literals)) (.int 1))
  (.cons (.expr (.meth (.var .self) .assign (.cons (.sub (.var .literals) (.int 0)) (.cons (.neg (.int 1)) .nil))))
  .nil)
  (.cons (.expr (.meth (.var .self) .assign (.cons (.sub (.var .literals) (.int 0)) (.cons (.meth (.var .self) .attach (.cons (.var .literals) .nil)) .nil))))
  .nil))
 .nil))
noncomputable def Ca0:Ss:=
  (.cons (.setAttr (.var .self) .refuted (.bool true))
 (.cons (.expr (.bm .append (.attr (.var .self) .learned) (.cons (.tup .nil) .nil)))
 .nil))
noncomputable def Ca7:Ss:=
  (.cons (.set .variable_ (.bi .abs (.var .literal)))
 (.cons (.setSub (.attr (.var .self) .values) (.var .variable_) (.ite (.cmp .gt (.var .literal) (.int 0)) (.int 1) (.neg (.int 1))))
 (.cons (.setSub (.attr (.var .self) .levels) (.var .variable_) (.meth (.var .self) .level .nil))
 (.cons (.setSub (.attr (.var .self) .reasons) (.var .variable_) (.var .reason))
 (.cons (.expr (.bm .append (.attr (.var .self) .trail) (.cons (.var .literal) .nil)))
 .nil)))))
noncomputable def Ca3:Ss:=
  (.cons (.expr (.bm .append (.attr (.var .self) .limits) (.cons (.bi .len (.attr (.var .self) .trail)) .nil)))
 (.cons (.expr (.meth (.var .self) .assign (.cons (.var .literal) (.cons (.neg (.int 1)) .nil))))
 .nil))
noncomputable def Ca4:Ss:=
  (.cons (.ite (.cmp .ge (.var .level) (.meth (.var .self) .level .nil))
  (.cons .retNone
  .nil)
  .nil)
 (.cons (.set .length (.sub (.attr (.var .self) .limits) (.var .level)))
 (.cons (.while (.cmp .gt (.bi .len (.attr (.var .self) .trail)) (.var .length))
  (.cons (.set .variable_ (.bi .abs (.bm .pop (.attr (.var .self) .trail) .nil)))
  (.cons (.setSub (.attr (.var .self) .phases) (.var .variable_) (.sub (.attr (.var .self) .values) (.var .variable_)))
  (.cons (.setSub (.attr (.var .self) .values) (.var .variable_) (.int 0))
  .nil))))
 (.cons (.setAttr (.var .self) .limits (.slice (.attr (.var .self) .limits) (.var .level)))
 (.cons (.setAttr (.var .self) .head (.var .length))
 .nil)))))
noncomputable def Ad0:Ss:=
  (.cons (.while (.cmp .lt (.attr (.var .self) .head) (.bi .len (.attr (.var .self) .trail)))
  (.cons (.set .false_ (.neg (.sub (.attr (.var .self) .trail) (.attr (.var .self) .head))))
  (.cons (.setAttr (.var .self) .head (.bin .add (.attr (.var .self) .head) (.int 1)))
  (.cons (.set .row (.sub (.attr (.var .self) .watches) (.call .slot (.cons (.var .false_) .nil))))
  (.cons (.set .kept (.list .nil))
  (.cons (.set .conflict (.neg (.int 1)))
  (.cons (.for_ (.one .number) (.seq (.var .row))
   (.cons (.ite (.or (.cons (.cmp .ge (.var .conflict) (.int 0)) (.cons (.val (.meth (.var .self) .still_watched (.cons (.var .number) (.cons (.var .false_) .nil)))) .nil)))
    (.cons (.expr (.bm .append (.var .kept) (.cons (.var .number) .nil)))
    (.cons (.ite (.and (.cons (.cmp .lt (.var .conflict) (.int 0)) (.cons (.val (.meth (.var .self) .forces (.cons (.var .number) .nil))) .nil)))
     (.cons (.set .conflict (.var .number))
     .nil)
     .nil)
    .nil))
    .nil)
   .nil))
  (.cons (.setSub (.attr (.var .self) .watches) (.call .slot (.cons (.var .false_) .nil)) (.var .kept))
  (.cons (.ite (.cmp .ge (.var .conflict) (.int 0))
   (.cons (.ret (.var .conflict))
   .nil)
   .nil)
  .nil)))))))))
 (.cons (.ret (.neg (.int 1)))
 .nil))
noncomputable def p1:Ss:=
  (.cons (.set .clause (.sub (.attr (.var .self) .clauses) (.var .number)))
 (.cons (.ite (.cmp .eq (.sub (.var .clause) (.int 0)) (.var .false_))
  (.cons (.setSub (.var .clause) (.int 0) (.sub (.var .clause) (.int 1)))
  (.cons (.setSub (.var .clause) (.int 1) (.var .false_))
  .nil))
  .nil)
 (.cons (.ite (.cmp .eq (.meth (.var .self) .value (.cons (.sub (.var .clause) (.int 0)) .nil)) (.int 1))
  (.cons (.ret (.bool true))
  .nil)
  .nil)
 (.cons (.for_ (.one .place) (.range (.cons (.int 2) (.cons (.bi .len (.var .clause)) .nil)))
  (.cons (.ite (.cmp .ge (.meth (.var .self) .value (.cons (.sub (.var .clause) (.var .place)) .nil)) (.int 0))
   (.cons (.setSub (.var .clause) (.int 1) (.sub (.var .clause) (.var .place)))
   (.cons (.setSub (.var .clause) (.var .place) (.var .false_))
   (.cons (.expr (.bm .append (.sub (.attr (.var .self) .watches) (.call .slot (.cons (.sub (.var .clause) (.int 1)) .nil))) (.cons (.var .number) .nil)))
   (.cons (.ret (.bool false))
   .nil))))
   .nil)
  .nil))
 (.cons (.ret (.bool true))
 .nil)))))
noncomputable def Ca2:Ss:=
  (.cons (.set .first (.sub (.sub (.attr (.var .self) .clauses) (.var .number)) (.int 0)))
 (.cons (.ite (.cmp .eq (.meth (.var .self) .value (.cons (.var .first) .nil)) (.int 0))
  (.cons (.expr (.meth (.var .self) .assign (.cons (.var .first) (.cons (.var .number) .nil))))
  .nil)
  .nil)
 (.cons (.ret (.cmp .lt (.meth (.var .self) .value (.cons (.var .first) .nil)) (.int 0)))
 .nil)))
noncomputable def Ee8:Ss:=
  (.cons (.augSub (.attr (.var .self) .activity) (.var .variable_) .add (.attr (.var .self) .step))
 (.cons (.ite (.cmp .gt (.sub (.attr (.var .self) .activity) (.var .variable_)) (.cst .limit))
  (.cons (.for_ (.one .other) (.range (.cons (.int 1) (.cons (.bin .add (.attr (.var .self) .count) (.int 1)) .nil)))
   (.cons (.setSub (.attr (.var .self) .activity) (.var .other) (.bin .fdiv (.sub (.attr (.var .self) .activity) (.var .other)) (.cst .scale)))
   .nil))
  (.cons (.setAttr (.var .self) .step (.bin .add (.bin .fdiv (.attr (.var .self) .step) (.cst .scale)) (.int 1)))
  .nil))
  .nil)
 .nil))
noncomputable def Bb6:Ss:=
  (.cons (.set .seen (.rep (.bool false) (.bin .add (.attr (.var .self) .count) (.int 1))))
 (.cons (.set .rest (.list .nil))
 (.cons (.set .open_count (.int 0))
 (.cons (.set .place (.bi .len (.attr (.var .self) .trail)))
 (.cons (.set .number (.var .conflict))
 (.cons (.set .skipped (.int 0))
 (.cons (.while (.val (.bool true))
  (.cons (.for_ (.one .literal) (.seq (.sub (.attr (.var .self) .clauses) (.var .number)))
   (.cons (.set .variable_ (.bi .abs (.var .literal)))
   (.cons (.ite (.and (.cons (.cmp .ne (.var .literal) (.var .skipped)) (.cons (.not (.val (.sub (.var .seen) (.var .variable_)))) (.cons (.cmp .gt (.sub (.attr (.var .self) .levels) (.var .variable_)) (.int 0)) .nil))))
    (.cons (.setSub (.var .seen) (.var .variable_) (.bool true))
    (.cons (.expr (.meth (.var .self) .bump (.cons (.var .variable_) .nil)))
    (.cons (.ite (.cmp .eq (.sub (.attr (.var .self) .levels) (.var .variable_)) (.meth (.var .self) .level .nil))
     (.cons (.set .open_count (.bin .add (.var .open_count) (.int 1)))
     .nil)
     (.cons (.expr (.bm .append (.var .rest) (.cons (.var .literal) .nil)))
     .nil))
    .nil)))
    .nil)
   .nil)))
  (.cons (.set .place (.bin .sub (.var .place) (.int 1)))
  (.cons (.while (.not (.val (.sub (.var .seen) (.bi .abs (.sub (.attr (.var .self) .trail) (.var .place))))))
   (.cons (.set .place (.bin .sub (.var .place) (.int 1)))
   .nil))
  (.cons (.set .skipped (.sub (.attr (.var .self) .trail) (.var .place)))
  (.cons (.set .open_count (.bin .sub (.var .open_count) (.int 1)))
  (.cons (.ite (.cmp .eq (.var .open_count) (.int 0))
   (.cons (.ret (.meth (.var .self) .ordered (.cons (.neg (.var .skipped)) (.cons (.var .rest) .nil))))
   .nil)
   .nil)
  (.cons (.set .number (.sub (.attr (.var .self) .reasons) (.bi .abs (.var .skipped))))
  .nil))))))))
 .nil)))))))
noncomputable def Bb5:Ss:=
  (.cons (.set .best (.int 0))
 (.cons (.for_ (.one .place) (.range (.cons (.int 1) (.cons (.bi .len (.var .rest)) .nil)))
  (.cons (.ite (.cmp .gt (.sub (.attr (.var .self) .levels) (.bi .abs (.sub (.var .rest) (.var .place)))) (.sub (.attr (.var .self) .levels) (.bi .abs (.sub (.var .rest) (.var .best)))))
   (.cons (.set .best (.var .place))
   .nil)
   .nil)
  .nil))
 (.cons (.ite (.not (.val (.var .rest)))
  (.cons (.ret (.tup (.cons (.list (.cons (.var .first) .nil)) (.cons (.int 0) .nil))))
  .nil)
  .nil)
 (.cons (.setSub2 (.var .rest) (.int 0) (.var .rest) (.var .best) (.sub (.var .rest) (.var .best)) (.sub (.var .rest) (.int 0)))
 (.cons (.ret (.tup (.cons (.cat1 (.var .first) (.var .rest)) (.cons (.sub (.attr (.var .self) .levels) (.bi .abs (.sub (.var .rest) (.int 0)))) .nil))))
 .nil)))))
noncomputable def p9:Ss:=
  (.cons (.set .best (.int 0))
 (.cons (.for_ (.one .variable_) (.range (.cons (.int 1) (.cons (.bin .add (.attr (.var .self) .count) (.int 1)) .nil)))
  (.cons (.ite (.and (.cons (.cmp .eq (.sub (.attr (.var .self) .values) (.var .variable_)) (.int 0)) (.cons (.or (.cons (.cmp .eq (.var .best) (.int 0)) (.cons (.cmp .gt (.sub (.attr (.var .self) .activity) (.var .variable_)) (.sub (.attr (.var .self) .activity) (.var .best))) .nil))) .nil)))
   (.cons (.set .best (.var .variable_))
   .nil)
   .nil)
  .nil))
 (.cons (.ret (.var .best))
 .nil)))
noncomputable def Ca6:Ss:=
  (.cons (.while (.cmp .lt (.meth (.var .self) .level .nil) (.bi .len (.var .assumptions)))
  (.cons (.set .literal (.sub (.var .assumptions) (.meth (.var .self) .level .nil)))
  (.cons (.ite (.cmp .ne (.meth (.var .self) .value (.cons (.var .literal) .nil)) (.int 1))
   (.cons (.ret (.var .literal))
   .nil)
   .nil)
  (.cons (.expr (.bm .append (.attr (.var .self) .limits) (.cons (.bi .len (.attr (.var .self) .trail)) .nil)))
  .nil))))
 (.cons (.ret (.int 0))
 .nil))
noncomputable def Da7:Ss:=
  (.cons (.set .conflicts (.int 0))
 (.cons (.set .since (.int 0))
 (.cons (.set .turn (.int 1))
 (.cons (.while (.not (.val (.attr (.var .self) .refuted)))
  (.cons (.set .conflict (.meth (.var .self) .propagate .nil))
  (.cons (.ite (.cmp .ge (.var .conflict) (.int 0))
   (.cons (.ite (.cmp .eq (.meth (.var .self) .level .nil) (.int 0))
    (.cons (.expr (.meth (.var .self) .refute .nil))
    .nil)
    (.cons (.set .conflicts (.bin .add (.var .conflicts) (.int 1)))
    (.cons (.set .since (.bin .add (.var .since) (.int 1)))
    (.cons (.set2 .literals .back (.meth (.var .self) .analyze (.cons (.var .conflict) .nil)))
    (.cons (.expr (.meth (.var .self) .cancel (.cons (.var .back) .nil)))
    (.cons (.expr (.meth (.var .self) .learn (.cons (.var .literals) .nil)))
    (.cons (.setAttr (.var .self) .step (.bin .add (.bin .add (.attr (.var .self) .step) (.bin .fdiv (.attr (.var .self) .step) (.int 16))) (.int 1)))
    (.cons (.ite (.cmp .ge (.var .conflicts) (.var .most))
     (.cons (.ret (.meth (.var .self) .leave (.cons .none .nil)))
     .nil)
     .nil)
    .nil))))))))
   .nil)
   (.cons (.ite (.cmp .ge (.var .since) (.bin .mul (.cst .unit) (.call .luby (.cons (.var .turn) .nil))))
    (.cons (.set .since (.int 0))
    (.cons (.set .turn (.bin .add (.var .turn) (.int 1)))
    (.cons (.expr (.meth (.var .self) .cancel (.cons (.int 0) .nil)))
    .nil)))
    (.cons (.set .literal (.meth (.var .self) .assume (.cons (.var .assumptions) .nil)))
    (.cons (.ite (.and (.cons (.cmp .ne (.var .literal) (.int 0)) (.cons (.cmp .lt (.meth (.var .self) .value (.cons (.var .literal) .nil)) (.int 0)) .nil)))
     (.cons (.ret (.meth (.var .self) .leave (.cons (.bool false) .nil)))
     .nil)
     .nil)
    (.cons (.ite (.cmp .eq (.var .literal) (.int 0))
     (.cons (.set .literal (.meth (.var .self) .free_variable .nil))
     (.cons (.ite (.cmp .eq (.var .literal) (.int 0))
      (.cons (.setAttr (.var .self) .found (.comp (.cmp .eq (.var .value) (.int 1)) .value (.seq (.attr (.var .self) .values)) .nil))
      (.cons (.ret (.meth (.var .self) .leave (.cons (.bool true) .nil)))
      .nil))
      .nil)
     (.cons (.set .literal (.bin .mul (.var .literal) (.sub (.attr (.var .self) .phases) (.var .literal))))
     .nil)))
     .nil)
    (.cons (.expr (.meth (.var .self) .decide (.cons (.var .literal) .nil)))
    .nil)))))
   .nil))
  .nil)))
 (.cons (.ret (.bool false))
 .nil)))))
noncomputable def Da9:Ss:=
  (.cons (.expr (.meth (.var .self) .cancel (.cons (.int 0) .nil)))
 (.cons (.ret (.var .answer))
 .nil))
noncomputable def Da8:Ss:=
  (.cons (.ret (.bi .list (.attr (.var .self) .found)))
 .nil)
noncomputable def U0:Ss:=
  (.cons (.set .clauses (.bi .list (.sub (.call .aig_cnf (.cons (.var .aig) (.cons (.list (.cons (.var .literal) .nil)) .nil))) (.int 0))))
 (.cons (.expr (.bm .append (.var .clauses) (.cons (.tup (.cons (.call .variable_of (.cons (.var .literal) .nil)) .nil)) .nil)))
 (.cons (.ret (.tup (.cons (.bi .len (.attr (.var .aig) .nodes)) (.cons (.var .clauses) .nil))))
 .nil)))
noncomputable def p4:Ss:=
  (.cons (.set .solver (.new .solver (.cons (.var .count) .nil)))
 (.cons (.for_ (.one .clause) (.seq (.var .clauses))
  (.cons (.expr (.meth (.var .solver) .add (.cons (.var .clause) .nil)))
  .nil))
 (.cons (.ret (.var .solver))
 .nil)))
noncomputable def U7:Ss:=
  (.cons (.set .literal (.meth (.var .aig) .lxor (.cons (.var .left) (.cons (.var .right) .nil))))
 (.cons (.ite (.cmp .eq (.var .literal) (.int 0))
  (.cons (.ret .idict0)
  .nil)
  .nil)
 (.cons (.set2 .count .clauses (.call .difference_clauses (.cons (.var .aig) (.cons (.var .literal) .nil))))
 (.cons (.set .solver (.call .loaded_solver (.cons (.var .count) (.cons (.var .clauses) .nil))))
 (.cons (.set .answer (.meth (.var .solver) .solve (.cons (.tup .nil) (.cons (.var .conflicts) .nil))))
 (.cons (.ite (.isNone (.var .answer))
  (.cons (.ret .none)
  .nil)
  .nil)
 (.cons (.set .bits .idict0)
 (.cons (.ite (.val (.var .answer))
  (.cons (.set .values (.meth (.var .solver) .model .nil))
  (.cons (.for_ (.one .node) (.seq (.var .inputs))
   (.cons (.setSub (.var .bits) (.var .node) (.ite (.val (.sub (.var .values) (.bin .add (.var .node) (.int 1)))) (.int 1) (.int 0)))
   .nil))
  .nil))
  .nil)
 (.cons (.ret (.var .bits))
 .nil)))))))))
noncomputable def Ca8:Ss:=
  (.cons (.setAttr (.var .self) .nodes (.list (.cons .none .nil)))
 (.cons (.setAttr (.var .self) .inputs (.list .nil))
 (.cons (.setAttr (.var .self) .outputs (.list .nil))
 (.cons (.setAttr (.var .self) .table .tdict0)
 .nil))))
noncomputable def Ad1:Ss:=
  (.cons (.set .node (.bi .len (.attr (.var .self) .nodes)))
 (.cons (.expr (.bm .append (.attr (.var .self) .nodes) (.cons .none .nil)))
 (.cons (.expr (.bm .append (.attr (.var .self) .inputs) (.cons (.var .node) .nil)))
 (.cons (.ret (.bin .mul (.int 2) (.var .node)))
 .nil))))
noncomputable def Ca1:Ss:=
  (.cons (.ret (.notNone (.sub (.attr (.var .self) .nodes) (.var .node))))
 .nil)
noncomputable def Cg9:Ss:=
  (.cons (.ite (.cmp .gt (.var .l) (.var .r))
  (.cons (.swap .l .r (.var .r) (.var .l))
  .nil)
  .nil)
 (.cons (.ite (.or (.cons (.cmp .eq (.var .l) (.int 0)) (.cons (.cmp .eq (.var .l) (.bin .bxor (.var .r) (.int 1))) .nil)))
  (.cons (.ret (.int 0))
  .nil)
  .nil)
 (.cons (.ite (.or (.cons (.cmp .eq (.var .l) (.int 1)) (.cons (.cmp .eq (.var .l) (.var .r)) .nil)))
  (.cons (.ret (.var .r))
  .nil)
  .nil)
 (.cons (.set .node (.bm .get (.attr (.var .self) .table) (.cons (.tup (.cons (.var .l) (.cons (.var .r) .nil))) (.cons (.neg (.int 1)) .nil))))
 (.cons (.ite (.cmp .lt (.var .node) (.int 0))
  (.cons (.set .node (.bi .len (.attr (.var .self) .nodes)))
  (.cons (.expr (.bm .append (.attr (.var .self) .nodes) (.cons (.tup (.cons (.var .l) (.cons (.var .r) .nil))) .nil)))
  (.cons (.setSub (.attr (.var .self) .table) (.tup (.cons (.var .l) (.cons (.var .r) .nil))) (.var .node))
  .nil)))
  .nil)
 (.cons (.ret (.bin .mul (.int 2) (.var .node)))
 .nil))))))
noncomputable def b_lor:Ss:=
  (.cons (.ret (.bin .bxor (.meth (.var .self) .land (.cons (.bin .bxor (.var .l) (.int 1)) (.cons (.bin .bxor (.var .r) (.int 1)) .nil))) (.int 1)))
 .nil)
noncomputable def Ee5:Ss:=
  (.cons (.set .sign (.bin .band (.bin .bxor (.var .l) (.var .r)) (.int 1)))
 (.cons (.set .left (.bin .bxor (.var .l) (.bin .band (.var .l) (.int 1))))
 (.cons (.set .right (.bin .bxor (.var .r) (.bin .band (.var .r) (.int 1))))
 (.cons (.ret (.bin .bxor (.meth (.var .self) .lor (.cons (.meth (.var .self) .land (.cons (.var .left) (.cons (.bin .bxor (.var .right) (.int 1)) .nil))) (.cons (.meth (.var .self) .land (.cons (.bin .bxor (.var .left) (.int 1)) (.cons (.var .right) .nil))) .nil))) (.var .sign)))
 .nil))))
noncomputable def Ai8:Ss:=
  (.cons (.set .seed (.list .nil))
 (.cons (.for_ (.one .cell) (.seq (.slice (.var .script) (.int 30)))
  (.cons (.set .left (.ite (.cmp .ge (.var .cell) (.int 0)) (.bin .add (.int 1) (.bin .mul (.int 2) (.var .cell))) (.bin .sub (.int 0) (.bin .mul (.int 2) (.var .cell)))))
  (.cons (.while (.cmp .lt (.bi .len (.var .seed)) (.int 50))
   (.cons (.expr (.bm .append (.var .seed) (.cons (.bin .mod (.var .left) (.int 167)) .nil)))
   (.cons (.set .left (.bin .fdiv (.var .left) (.int 167)))
   (.cons (.ite (.cmp .eq (.var .left) (.int 0))
    (.cons .brk
    .nil)
    .nil)
   .nil))))
  .nil)))
 (.cons (.ret (.list (.cons (.var .seed) (.cons (.int 0) .nil))))
 .nil)))
noncomputable def Ai9:Ss:=
  (.cons (.ite (.cmp .ge (.sub (.var .seed) (.int 1)) (.bi .len (.sub (.var .seed) (.int 0))))
  (.cons (.ret (.int 0))
  .nil)
  .nil)
 (.cons (.setSub (.var .seed) (.int 1) (.bin .add (.sub (.var .seed) (.int 1)) (.int 1)))
 (.cons (.ret (.bin .mod (.sub (.sub (.var .seed) (.int 0)) (.bin .sub (.sub (.var .seed) (.int 1)) (.int 1))) (.var .many)))
 .nil)))
noncomputable def Aj0:Ss:=
  (.cons (.set .found (.rep (.int 0) (.bi .len (.attr (.var .aig) .nodes))))
 (.cons (.for_ (.one .spot) (.range (.cons (.bi .len (.attr (.var .aig) .nodes)) .nil))
  (.cons (.ite (.isIn (.var .spot) (.attr (.var .aig) .inputs))
   (.cons (.setSub (.var .found) (.var .spot) (.bin .mod (.bin .fdiv (.var .line) (.bin .pow (.int 2) (.bm .index (.attr (.var .aig) .inputs) (.cons (.var .spot) .nil)))) (.int 2)))
   .nil)
   (.cons (.ite (.notNone (.sub (.attr (.var .aig) .nodes) (.var .spot)))
    (.cons (.setSub (.var .found) (.var .spot) (.bin .mul (.call .law_side (.cons (.var .found) (.cons (.sub (.sub (.attr (.var .aig) .nodes) (.var .spot)) (.int 0)) .nil))) (.call .law_side (.cons (.var .found) (.cons (.sub (.sub (.attr (.var .aig) .nodes) (.var .spot)) (.int 1)) .nil)))))
    .nil)
    .nil)
   .nil))
  .nil))
 (.cons (.ret (.var .found))
 .nil)))
noncomputable def Ai7:Ss:=
  (.cons (.ret (.bin .mod (.bin .add (.sub (.var .found) (.bin .fdiv (.var .literal) (.int 2))) (.var .literal)) (.int 2)))
 .nil)
noncomputable def Ee7:Ss:=
  (.cons (.set .seed (.call .law_seed (.cons (.var .script) .nil)))
 (.cons (.set .aig (.new .aig .nil))
 (.cons (.set .many (.bin .add (.int 2) (.call .law_from (.cons (.var .seed) (.cons (.int 3) .nil)))))
 (.cons (.for_ (.one .lap) (.range (.cons (.var .many) .nil))
  (.cons (.expr (.meth (.var .aig) .add_input .nil))
  .nil))
 (.cons (.for_ (.one .lap) (.range (.cons (.call .law_from (.cons (.var .seed) (.cons (.int 7) .nil))) .nil))
  (.cons (.set .size (.bin .mul (.int 2) (.bi .len (.attr (.var .aig) .nodes))))
  (.cons (.expr (.meth (.var .aig) .land (.cons (.call .law_from (.cons (.var .seed) (.cons (.var .size) .nil))) (.cons (.bin .sub (.bin .sub (.var .size) (.int 1)) (.call .law_from (.cons (.var .seed) (.cons (.var .size) .nil)))) .nil))))
  .nil)))
 (.cons (.set .left (.bin .add (.int 2) (.call .law_from (.cons (.var .seed) (.cons (.bin .sub (.bin .mul (.int 2) (.bi .len (.attr (.var .aig) .nodes))) (.int 2)) .nil)))))
 (.cons (.set .right (.bin .sub (.bin .sub (.bin .mul (.int 2) (.bi .len (.attr (.var .aig) .nodes))) (.int 1)) (.call .law_from (.cons (.var .seed) (.cons (.bin .mul (.int 2) (.bi .len (.attr (.var .aig) .nodes))) .nil)))))
 (.cons (.for_ (.two .first .second) (.seq (.list (.cons (.tup (.cons (.var .left) (.cons (.var .right) .nil))) (.cons (.tup (.cons (.var .right) (.cons (.var .left) .nil))) (.cons (.tup (.cons (.var .left) (.cons (.bin .bxor (.var .left) (.int 1)) .nil))) (.cons (.tup (.cons (.var .left) (.cons (.var .left) .nil))) .nil))))))
  (.cons (.set .differs (.list .nil))
  (.cons (.for_ (.one .line) (.range (.cons (.bin .pow (.int 2) (.var .many)) .nil))
   (.cons (.set .found (.call .law_bits (.cons (.var .aig) (.cons (.var .line) .nil))))
   (.cons (.ite (.cmp .ne (.call .law_side (.cons (.var .found) (.cons (.var .first) .nil))) (.call .law_side (.cons (.var .found) (.cons (.var .second) .nil))))
    (.cons (.expr (.bm .append (.var .differs) (.cons (.var .line) .nil)))
    .nil)
    .nil)
   .nil)))
  (.cons (.set .told (.call .solver_difference (.cons (.var .aig) (.cons (.var .first) (.cons (.var .second) (.cons (.bi .list (.attr (.var .aig) .inputs)) (.cons (.int 1000) .nil)))))))
  (.cons (.ite (.or (.cons (.isNone (.var .told)) (.cons (.cmp .ne (.eqDict0 (.var .told)) (.eqList0 (.var .differs))) .nil)))
   (.cons (.ret (.bool false))
   .nil)
   .nil)
  (.cons (.ite (.cmp .eq (.var .differs) (.list .nil))
   (.cons .cont
   .nil)
   .nil)
  (.cons (.ite (.or (.cons (.cmp .ne (.bi .sorted (.var .told)) (.attr (.var .aig) .inputs)) (.cons (.isIn (.bool false) (.comp (.isIn (.sub (.var .told) (.var .spot)) (.tup (.cons (.int 0) (.cons (.int 1) .nil)))) .spot (.seq (.var .told)) .nil)) .nil)))
   (.cons (.ret (.bool false))
   .nil)
   .nil)
  (.cons (.set .line (.bi .sum (.comp (.bin .mul (.sub (.var .told) (.sub (.attr (.var .aig) .inputs) (.var .at_))) (.bin .pow (.int 2) (.var .at_))) .at_ (.range (.cons (.var .many) .nil)) .nil)))
  (.cons (.ite (.notIn (.var .line) (.var .differs))
   (.cons (.ret (.bool false))
   .nil)
   .nil)
  .nil)))))))))
 (.cons (.ret (.bool true))
 .nil)))))))))
noncomputable def Fn.body:Fn->Ss
 | .variable_of=>u9
 | .cone_nodes=>Aa8
 | .aig_cnf=>Bb7
 | .luby=>Ee6
 | .slot=>b_slot
 | .plain_clause=>t6
 | .s_init=>Bj9
 | .value=>b_value
 | .level=>b_level
 | .add=>b_add
 | .attach=>Ca5
 | .learn=>Db0
 | .refute=>Ca0
 | .assign=>Ca7
 | .decide=>Ca3
 | .cancel=>Ca4
 | .propagate=>Ad0
 | .still_watched=>p1
 | .forces=>Ca2
 | .bump=>Ee8
 | .analyze=>Bb6
 | .ordered=>Bb5
 | .free_variable=>p9
 | .assume=>Ca6
 | .solve=>Da7
 | .leave=>Da9
 | .model=>Da8
 | .difference_clauses=>U0
 | .loaded_solver=>p4
 | .solver_difference=>U7
 | .a_init=>Ca8
 | .add_input=>Ad1
 | .is_and=>Ca1
 | .land=>Cg9
 | .lor=>b_lor
 | .lxor=>Ee5
 | .law_seed=>Ai8
 | .law_from=>Ai9
 | .law_bits=>Aj0
 | .law_side=>Ai7
 | .law=>Ee7
noncomputable def dC (d:Data) (kf:FuncData->Bool) (kc:ClassData->Bool) (ks:Bool) (kv:Array Value->Bool):Bool:=@Data.casesOn (λ_=>Bool) d false (λ_=>false) (λ_ _=>ks) (λ_ _=>false) (λ_ _ _=>false) (λ_ _=>false) (λ_=>false) kf kc kv false
noncomputable def vC (v:Value) (kn:Bool) (ki:Int->Bool) (ks:Str->Bool) (kr:Addr->Bool):Bool:=@Value.casesOn (λ_=>Bool) v kn false false (λ_=>false) (λi _=>ki i) (λ_ _=>false) (λs _=>ks s) (λ_ _=>false) (λ_=>false) (λ_=>false) kr
noncomputable def vR (v:Value) (k:Addr->Bool):Bool:=vC v false (λ_=>false) (λ_=>false) k
noncomputable def codeOk (g:Addr->Option Obj) (cd:Value) (q:Str):Bool:=vR cd λc=>(g c).any λo=>dC o.data (λ_=>false) (λ_=>false) false λvs=>(vs[1]? :Option Value).any λv=>vC v false (λ_=>false) (λx=>x==q) λ_=>false
noncomputable def dfltOk (g:Addr->Option Obj) (d:Value):Bool:=vC d true (λ_=>false) (λ_=>false) λT=>(g T).any λo=>dC o.data (λ_=>false) (λ_=>false) true λ_=>false
noncomputable def fnOk (g:Addr->Option Obj) (f:Fn) (a:Addr):Bool:=(g a).any λo=>dC o.data (λfd=>o.cls == .type "function"&&fd.scope.kind == .function && !fd.scope.isCoroutine && !fd.scope.isGenerator &&
 fd.globals==mainGlobals&&fd.builtins==builtinsNs&&fd.closure.isEmpty&&(match fd.body with | .stmts b=>mSs fd.scope f.body b | _=>false) &&
 fd.params.posonlyargs.isEmpty&&fd.params.vararg.isNone&&fd.params.kwonlyargs.isEmpty&&fd.params.kwarg.isNone &&
 fd.params.args.map (·.arg)==f.params.map Vr.str&&decide (f.params.map Vr.str).Nodup&&f.params.all (λx=>fd.scope.names.lookup x.str==some .local) &&
 fd.scope.names.all (λn=>n.2 != .free)&&decide (fd.scope.names.map (·.1)).Nodup &&
 codeOk g fd.code fd.qualname&&dfltOk g fd.defaults) (λ_=>false) false λ_=>false
noncomputable def Kl.addr:Kl->Addr | .solver=>216 | .aig=>336
noncomputable def Kl.ns:Kl->Addr | .solver=>215 | .aig=>335
noncomputable def Fn.addr:Fn->Addr
 | .variable_of=>28 | .cone_nodes=>33 | .aig_cnf=>40 | .luby=>47 | .slot=>54 | .plain_clause=>61 | .s_init=>73 | .value=>80 | .level=>87
 | .add=>94 | .attach=>101 | .learn=>108 | .refute=>115 | .assign=>122 | .decide=>129 | .cancel=>136 | .propagate=>143 | .still_watched=>150
 | .forces=>157 | .bump=>164 | .analyze=>171 | .ordered=>178 | .free_variable=>185 | .assume=>192 | .solve=>199 | .leave=>206 | .model=>213
 | .difference_clauses=>227 | .loaded_solver=>234 | .solver_difference=>241 | .a_init=>255 | .add_input=>262 | .is_and=>276 | .land=>283 | .lor=>290
 | .lxor=>297 | .law_seed=>354 | .law_from=>361 | .law_bits=>368 | .law_side=>375 | .law=>380
noncomputable def Bi.all:List Bi:=[.len,.abs,.list,.tuple,.sorted,.sum]
noncomputable def lC {α:Type} (xs:List α) (k:α->List α->Bool):Bool:=@List.casesOn α (λ_=>Bool) xs false k
noncomputable def Bj0 (g:Addr->Option Obj) (k:Kl):Bool:=(g k.addr).any λo=>dC o.data (λ_=>false) (λcd=>o.cls == .type "type"&&(lC o.slots.toList λ_ r=>lC r λ_ r=>lC r λ_ r=>lC r λ_ r=>lC r λn r=>lC r λ_ r=>n==some (.builtin "object.__new__")&&r.isEmpty) &&
 cd.mro==[.ref k.addr,.type "object"] && !cd.hasDel&&cd.hasDict && !cd.abstract&&cd.ns==k.ns) false λ_=>false
noncomputable def Aa3 (K:Frag) (k:Kl):Bool:=nsOkIn K k.ns&&Fn.all.all (λf=>f.kl != some k||nsIn K k.ns f.str==some (some (.ref f.addr)))&&At.all.all (λa=>a.kl != k||nsIn K k.ns a.str==some none) &&
 nsIn K k.ns "__getattribute__"==some none&&nsIn K k.ns "__getattr__"==some none&&nsIn K k.ns "__setattr__"==some none
noncomputable def Cj1 (o:Option (Option Value)) (i:Int):Bool:=o.any λo=>o.any λv=>vC v false (λj=>j==i) (λ_=>false) λ_=>false
noncomputable def Ec6 (K:Frag):Bool:=Fn.all.all (λf=>f.kl.isSome||nsIn K mainGlobals f.str==some (some (.ref f.addr)))&&nsIn K mainGlobals "Aig"==some (some (.ref (336:Nat)))&&nsIn K mainGlobals "Solver"==some (some (.ref (216:Nat))) &&
 Cj1 (nsIn K mainGlobals "RESTART_UNIT") 32 &&
 Cj1 (nsIn K mainGlobals "ACTIVITY_LIMIT") 1000000000000 &&
 Cj1 (nsIn K mainGlobals "ACTIVITY_SCALE") 1000000 &&
 Bi.all.all (λb=>nsIn K mainGlobals b.str==some none)&&nsIn K mainGlobals "range"==some none
noncomputable def lawView:Program:=view PySem.Challenge.rw_on0127_01.row.prog [25]
noncomputable def lawLoose:List PySem.Str:=["_wall","variable_of","cone_nodes","aig_cnf","RESTART_UNIT","ACTIVITY_LIMIT","ACTIVITY_SCALE","luby","slot","plain_clause","Solver","difference_clauses","loaded_solver","solver_difference","Aig","literal_word","_law_seed","_law_from","_law_bits","_law_side","__name__"]
theorem cdx {α:Type} {b:Bool} {x:Option α} {y:α} {P:Prop} (h:cond b x none=some y) (k:b=true->x=some y->P):P:=by
 cases b with
 | false=>exact nnx h
 | true=>exact k rfl h
theorem obx {α β:Type} {o:Option α} {f:α->Option β} {y:β} {P:Prop} (h:o.bind f=some y) (k:∀a,o=some a->f a=some y->P):P:=by
 cases o with
 | none=>exact nnx h
 | some a=>exact k a rfl h
theorem cd2 {b c:Bool} {s s':SharedT} {o:Option SharedT} {o':Option Shared} (h:cond b (some s) (cond c o none)=some s') (k:o=some s'->o'=some s'.abs):cond b (some s.abs) (cond c o' none)=some s'.abs:=by
 cases b with
 | true=>exact six h▸rfl
 | false=>exact cdx h λe h=>e▸k h
noncomputable def Ch1 (ok:Thread->Bool) (st:SharedT->Thread->Option (SharedT×Thread)) (n:Nat):SharedT->Thread->Option SharedT:=
 @Nat.rec (λ_=>SharedT->Thread->Option SharedT) (λ_ _=>none) (λ_ ih s t=>cond (through t) (some s) (cond (ok t) ((st s t).bind λx=>ih x.1 x.2) none)) n
theorem Dh5 {p:Program} {w:World} {ab7:Nat} {ann:Option Value} {n:Nat} {s:Shared} {t:Thread}:topRun treeTable p w ab7 ann (n+1) s t =
  cond (through t) (some s) (cond (stepOk ab7 ann t) (match step (denote treeTable) p w s t with | .go s' t'=>topRun treeTable p w ab7 ann n s' t' | .halt _ _=>none) none):=(topRun.eq_2 ..).trans (by
 cases through t with
 | true=>rfl
 | false=>cases stepOk ab7 ann t <;> rfl)
theorem Cc5 {p:Program} {w:World} {ab7:Nat} {ann:Option Value} (n:Nat):∀{s s':SharedT} {t:Thread},Ch1 (stepOk ab7 ann) (stepT (denote treeTable) p w) n s t=some s'->topRun treeTable p w ab7 ann n s.abs t=some s'.abs:=by
 induction n with
 | zero=>exact nnx
 | succ n ih=>exact λh=>Dh5.trans (cd2 h λh=>obx h λx e h=>by rw [stepT_spec e];exact ih h)
noncomputable def Cc4 (os:List Obj):Nat->BT->Option BT:=
 @List.rec Obj (λ_=>Nat->BT->Option BT) (λ_ T=>some T) (λo _ ih n T=>cond ((T.ins n o).get n).isSome (ih (n+1) (T.ins n o)) none) os
theorem Cc3 {life:Life} {T':BT} (os:List Obj):∀{n:Nat} {T:BT} {xs:List Obj},Cc4 os n T=some T'->absHeap T n life=⟨xs.toArray,life⟩->absHeap T' (n+os.length) life=⟨(xs++os).toArray,life⟩:=by
 induction os with
 | nil=>exact λh e=>six h▸(List.append_nil _).symm▸e
 | cons o os ih=>
  refine λ{n _ xs} h e=>cdx h λg h=>?_
  have:=ih (xs:=xs++[o]) h ((absHeap_ins g).trans (e▸congrArg (Heap.mk · life) (List.push_toArray ..)))
  rw [List.append_assoc,Nat.add_right_comm] at this
  exact this
noncomputable def x' (ok:Nat->Option Value->Thread->Bool) (st:Program->World->SharedT->Thread->Option (SharedT×Thread)) (p:Program) (w:World) (N:Nat) (aa9:Shared):Option SharedT:=
 cond (aa9.heap.isNs mainGlobals&&aa9.gens.size==0) ((Cc4 aa9.heap.objs.toList 0 .nil).bind λT=>
  (Ch1 (ok aa9.heap.objs.size (aa9.heap.nsMap mainGlobals "__annotations__")) (st p w) N ⟨T,aa9.heap.objs.size,aa9.heap.life,aa9.gens,aa9.drawn,aa9.toks,aa9.os⟩ (topStub p)).bind λs=>
   cond (staticsOk (importedModules p.main.body) aa9.heap s.abs.heap&&namesBound p s.abs.heap&&gensDone s.abs&&laidKept aa9.heap s.abs.heap) (some s) none) none
theorem tfy {g:Bool} {o:Option Shared} {c:Shared->Bool} {s:Shared} (hg:g=true) (ho:o=some s) (hc:c s=true):cond g (o.bind λX7=>cond (c X7) (some X7) none) none=some s:=
 hg.symm▸ho.symm▸congrArg (cond · (some s) none) hc
theorem Cc2 {h:Heap} {T:BT} (e:Cc4 h.objs.toList 0 .nil=some T):absHeap T h.objs.size h.life=h:=(Nat.zero_add h.objs.size)▸Cc3 (xs:=[]) _ e rfl
theorem Bf8 {p:Program} {w:World} {N:Nat} {aa9:Shared} {s:SharedT} (h:x' stepOk (stepT (denote treeTable)) p w N aa9=some s):topFrom treeTable p w N aa9=some s.abs:=
 cdx h λhg h=>obx h λT e h=>obx h λs' e' h=>cdx h λhc h=>six h▸tfy (c:=λs=>staticsOk (importedModules p.main.body) aa9.heap s.heap&&namesBound p s.heap&&gensDone s&&laidKept aa9.heap s.heap) hg ((congrArg (λh=>topRun _ _ _ _ _ _ (⟨h,_,_,_,_⟩:Shared) _) (Cc2 e)).symm.trans (Cc5 _ e')) hc
theorem twins:x' PySem.W.Fast.tw6613529449190102663 (PySem.W.Fast.tw10156331382660048174 (PySem.W.Fast.tw11892475500146522536 PySem.W.Fast.tw14364793385576792824))=x' stepOk (stepT (denote treeTable)):=by rw [<-PySem.W.Fast.te6613529449190102663,<-PySem.W.Fast.te10156331382660048174,<-PySem.W.Fast.te11892475500146522536,<-PySem.W.Fast.te14364793385576792824]
theorem leftT {p q:Program} {loose:List PySem.Str} {Xt:Shared->Bool} {α:Type} {Yf:Shared->α} {Ya:World->α} {N:Nat} {g0:Bool}
  (h:∀w,((fencedOpening treeTable p w N).bind (x' PySem.W.Fast.tw6613529449190102663 (PySem.W.Fast.tw10156331382660048174 (PySem.W.Fast.tw11892475500146522536 PySem.W.Fast.tw14364793385576792824)) p w N)).map (λs=>(PySem.W.Fast.tw4187177175401517315 q loose (importedModules p.main.body) Xt g0 s.abs,Yf s.abs))=some (openGood q loose,Ya w)):LeftO p q loose Xt Yf Ya N g0:=λw=>
 C1 (Option.map_eq_some_iff.mp (h w)) λs x=>obx x.1 λaa9 e0 e1=>by
  show ((fencedOpening treeTable p w N).bind (topFrom treeTable p w N)).map _=_
  rw [e0]
  show (topFrom treeTable p w N aa9).map _=_
  rw [Bf8 (twins▸e1),PySem.W.Fast.te4187177175401517315]
  exact congrArg some x.2
end Mine.Internal
local macro_rules | `(tactic| o_head $H) => `(tactic| (
    refine holds_open (q := Mine.Internal.lawView) (loose := Mine.Internal.lawLoose) (Xt := fun s => xlAt Mine.Internal.lawView [] s && recOk (RowW.records (OpenRow.toRowW PySem.Challenge.rw_on0127_01.row)) s) (XP := XL Mine.Internal.lawView []) (Yf := Hook.obs $H) (Ya := Hook.val $H) (YP := Hook.says $H) (N := 4270) ?hl (Hook.of $H) (Hook.keeps $H) (fun s e => xl_of s (Bool.and_eq_true_iff.mp e).1) XL.keeps (by rfl) (by rfl) (by rfl) (fun s e => recFacts_of (Bool.and_eq_true_iff.mp e).2) (by rfl) (by first | assumption | decide +kernel) (by decide +kernel) ⟨rfl, rfl, rfl, rfl, rfl, by decide +kernel⟩ ?hw ?hc
    case hl => (refine Mine.Internal.leftT fun w => ?_; kernel_rfl)))
namespace Mine.Internal
noncomputable def Be3 (h:Heap):Frag:=[mainGlobals,Kl.ns .solver,Kl.ns .aig].filterMap λa=>(h.get? a).map λo=>(a,o)
noncomputable def chk (K:Frag) (g:Addr->Option Obj):Bool:=Ec6 K&&(Fn.all.all λf=>fnOk g f f.addr)&&Bj0 g .aig&&Aa3 K .aig&&Bj0 g .solver&&Aa3 K .solver&&nsIn K mainGlobals "law"==some (some (.ref (380:Nat)))
def Says (h:Heap):Prop:=∃K:Frag,∃g:Addr->Option Obj,K.In h/\(∀a o,g a=some o->h.get? a=some o)/\chk K g=true
theorem De6 (h:Heap):(Be3 h).In h:=by
 intro a o e
 have m:(a,o)∈Be3 h:=J8 (List.lookup_eq_some_iff.mp e) λl1 l2 q=>q.1▸List.mem_append_right l1 (List.mem_cons_self ..)
 refine C1 (List.mem_filterMap.mp m) λb hb=>?_
 cases g:h.get? b with
 | none=>rw [g] at hb;cases hb.2
 | some o'=>rw [g] at hb;cases hb.2;exact g
noncomputable def hook:Hook:=⟨Bool,λs=>chk (Be3 s.heap) s.heap.get?,λ_=>true,λ_ h=>Says h,λ_ s e=>⟨Be3 s.heap,s.heap.get?,De6 _,λ_ _ e=>e,e⟩,
 λ_ _ _ x k=>C1 x λK x=>C1 x λg y=>⟨K,g,Frag.In.keeps y.1 k,λa o e=>k a o (y.2.1 a o e),y.2.2⟩⟩
end Mine.Internal
local macro_rules | `(tactic| k_head) => `(tactic| o_head Mine.Internal.hook)
local macro_rules | `(tactic| o_law) => `(tactic| refine holds_law Mine.Internal.said fun said => ?_)
namespace Mine.Internal
set_option maxRecDepth 100000 in
set_option maxHeartbeats 8000000 in
open_top hd for PySem.Challenge.rw_on0127_01
end Mine.Internal
local macro_rules | `(tactic| cases $e:ident) => `(tactic| first | exact Mine.Internal.nnx $e | exact Mine.Internal.snx $e | exact Mine.Internal.ftx $e | exact Mine.Internal.tfx $e | (replace $e := Mine.Internal.six $e; subst $e) | fail)
local macro_rules
  | `(tactic| rewrite [$e:term]) => do
    if ((e.raw.reprint.getD "").splitOn "?_").length > 1 then Lean.Macro.throwUnsupported
    `(tactic| first | with_reducible refine Eq.trans $e ?_ | refine Mine.Internal.rwx $e ?_ | with_reducible refine Eq.trans ($e ..) ?_ | fail)
  | `(tactic| rewrite [← $e:term]) => `(tactic| first | with_reducible refine Eq.trans (Eq.symm $e) ?_ | refine Mine.Internal.rwx (Eq.symm $e) ?_ | fail)
  | `(tactic| rewrite [$r, $rs,*]) => `(tactic| (rewrite [$r]; rewrite [$rs,*]))
  | `(tactic| rewrite [$e:term] at $h:ident) => `(tactic| first | with_reducible replace $h := Eq.trans (Eq.symm $e) $h | fail)
local macro_rules | `(tactic| exists $e:term) => do
    let b := Lean.mkIdent `B5
    let r := Lean.mkIdent `B3
    `(tactic| (refine Mine.Internal.byc fun $b => $e; clear $r $b))
local macro_rules
  | `(tactic| simp) => `(tactic| first | with_reducible exact List.mem_cons_self | with_reducible exact List.mem_cons_of_mem _ List.mem_cons_self | with_reducible exact List.mem_append_right _ List.mem_cons_self | exact Bool.false_ne_true | exact Nat.succ_pos _ | with_reducible rfl | decide | fail)
namespace Mine.Internal
section
variable {N:Type} [DecidableEq N]
abbrev Nm (N:Type):=N->Option (Addr×Addr)
def q7 (X':Heap) (ι:Nm N) (a:Addr):Prop:=X'.objs.size<=a/\∃n p,ι n=some p/\(a=p.1\/a=p.2)
inductive VR (X':Heap) (ι:Nm N) (h:Heap):V N->Value->Prop
 | none:VR X' ι h .none .none
 | bool (b:Bool):VR X' ι h (.bool b) (.bool b)
 | int (i:Int) (t:Tok):VR X' ι h (.int i) (.int i t)
 | ref {n:N} {p:Addr×Addr}:ι n=some p->VR X' ι h (.ref n) (.ref p.1)
 | tup {vs:List (V N)} {a:Addr} {items:Array Value}:h.IsTuple a items->¬q7 X' ι a->items.size=vs.length ->
  (∀(i:Nat) v w,vs[i]? = some v->items[i]? = some w->VR X' ι h v w)->VR X' ι h (.tup vs) (.ref a)
def VRs (X':Heap) (ι:Nm N) (h:Heap) (vs:List (V N)) (ws:List Value):Prop:=
 ws.length=vs.length/\∀(i:Nat) v w,vs[i]? = some v->ws[i]? = some w->VR X' ι h v w
noncomputable def u5:List Str:=["count","clauses","watches","values","levels","reasons","phases","activity","step","trail","limits","head","learned","refuted","found","nodes","inputs","outputs","table"]
def OR (prog:Program) (w:World) (X':Heap) (ι:Nm N) (h:Heap) (p:Addr×Addr):O N->Prop
 | .list xs=>X'.objs.size<=p.1/\X'.objs.size<=p.2/\∃items,h.PlainList p.1 items/\VRs X' ι h xs items.toList
 | .flist xs=>p.1<X'.objs.size/\p.2<X'.objs.size/\∃items,h.IsList p.1 items/\VRs X' ι h xs items.toList
 | .idict es ep=>X'.objs.size<=p.1/\X'.objs.size<=p.2/\∃kvs:List (Int×Value),h.DictAt (intKind prog w) p.1 kvs ep/\kvs.map (·.1)=es.map (·.1)/\VRs X' ι h (es.map (·.2)) (kvs.map (·.2))
 | .tdict es=>X'.objs.size<=p.1/\X'.objs.size<=p.2/\∃xs:List (List Int×Addr×Value),h.DictOfH (tupleKind (intKind prog w)) p.1 xs/\xs.map (·.1)=es.map (·.1) /\
  VRs X' ι h (es.map (·.2)) (xs.map (·.2.2))/\∀x∈xs,¬q7 X' ι x.2.1
 | .inst k f=>X'.objs.size<=p.1/\X'.objs.size<=p.2/\∃o mA,h.get? p.1=some o/\o.cls = .ref k.addr/\(∀c,o.data ≠ .cls c)/\o.dict=some p.2/\p.2≠p.1/\h.Ns1 p.2 mA /\
  (∀a v,f a=some v->a.kl=k/\∃w,mA a.str=some w/\VR X' ι h v w)/\Within mA u5
structure St (prog:Program) (w:World) (X':Heap) (ι:Nm N) (H:Hp N) (h:Heap):Prop where
 keep:∀b o,X'.get? b=some o->h.get? b=some o
 obj:∀n o,H n=some o->∃p,ι n=some p/\OR prog w X' ι h p o
 sep:∀n n' p p',ι n=some p->ι n'=some p'->n≠n'->p.1≠p'.1/\p.1≠p'.2/\p.2≠p'.1/\p.2≠p'.2
 liv:∀n p,ι n=some p->(∃o,h.get? p.1=some o)/\∃o,h.get? p.2=some o
 size:X'.objs.size<=h.objs.size
 dom:∀n,H n=none->ι n=none
structure Stp (X':Heap) (X:Addr->Prop) (ι ι':Nm N) (h h':Heap):Prop where
 ext:∀n p,ι n=some p->ι' n=some p
 fresh:∀n p,ι n=none->ι' n=some p->h.objs.size<=p.1/\h.objs.size<=p.2
 keep:∀a o,¬q7 X' ι a->(¬X a\/((∃xs n,o.data = .seq xs n)/\o.cls = .type "tuple"))->h.get? a=some o->h'.get? a=some o
 size:h.objs.size<=h'.objs.size
abbrev U8:Addr->Prop:=λ_=>False
variable {X':Heap} {X Y:Addr->Prop} {ι ι' X8:Nm N} {h h' aa6:Heap} {prog:Program} {w:World} {H:Hp N}
theorem Stp.refl:Stp X' X ι ι h h:=⟨λ_ _ e=>e,λn p e e'=>(by rw [e] at e';cases e'),λ_ _ _ _ e=>e,Nat.le_refl _⟩
theorem Stp.own (x:Stp X' X ι ι' h h') {a:Addr} (ha:a<h.objs.size) (ho:¬q7 X' ι a):¬q7 X' ι' a:=by
 intro q_
 exists B7 q_ λhb B3=>J8 B3 λn p C5=>B7 C5 λe hp=>B5 ?_
 clear C5 q_
 cases e':ι n with
 | none=>
  have:=x.fresh n p e' e
  rcases hp with rfl | rfl
  ·exact absurd ha (Nat.not_lt.mpr this.1)
  ·exact absurd ha (Nat.not_lt.mpr this.2)
 | some q=>
  have:=x.ext n q e'
  rw [this] at e;cases e
  exact ho ⟨hb,n,q,e',hp⟩
theorem Stp.trans (x:Stp X' X ι X8 h aa6) (y:Stp X' X X8 ι' aa6 h'):Stp X' X ι ι' h h':=by
 refine ⟨λn p e=>y.ext n p (x.ext n p e),λn p e e'=>?_,λa o ho hx e=>?_,Nat.le_trans x.size y.size⟩
 ·cases e1:X8 n with
  | none=>have:=y.fresh n p e1 e';exact ⟨Nat.le_trans x.size this.1,Nat.le_trans x.size this.2⟩
  | some q=>
   have:=y.ext n q e1
   rw [this] at e';cases e'
   exact x.fresh n q e e1
 ·exact y.keep a o (x.own (Heap.lt_size e) ho) hx (x.keep a o ho hx e)
theorem Stp.weak (x:Stp X' X ι ι' h h') (hx:∀a,X a->Y a):Stp X' Y ι ι' h h':=
 ⟨x.ext,x.fresh,λa o ho hy e=>x.keep a o ho (hy.imp (λz u=>z (hx a u)) id) e,x.size⟩
theorem Stp.of_keep (hk:∀a o,h.get? a=some o->¬q7 X' ι a->(¬X a\/((∃xs n,o.data = .seq xs n)/\o.cls = .type "tuple"))->h'.get? a=some o) (hs:h.objs.size<=h'.objs.size):Stp X' X ι ι h h':=
 ⟨λ_ _ e=>e,λn p e e'=>(by rw [e] at e';cases e'),λa o ho hx e=>hk a o e ho hx,hs⟩
theorem Stp.of_ext (hk:∀a o,h.get? a=some o->h'.get? a=some o) (hs:h.objs.size<=h'.objs.size):Stp X' X ι ι h h':=
 Stp.of_keep (λa o e _ _=>hk a o e) hs
theorem VR.step {v:V N} {u:Value} (x:VR X' ι h v u) (y:Stp X' X ι ι' h h'):VR X' ι' h' v u:=by
 induction x with
 | none=>exact .none
 | bool=>exact .bool _
 | int=>exact .int _ _
 | ref e=>exact .ref (y.ext _ _ e)
 | tup ht ho hl hv ih=>
  exists C1 (id ht) λo B3=>E6 B3 λe hc C5=>C1 C5 λn hd=>B5 ?_
  clear C5
  refine .tup ⟨o,y.keep _ _ ho (.inr ⟨⟨_,_,hd⟩,hc⟩) e,hc,n,hd⟩ (y.own (Heap.lt_size e) ho) hl ih
theorem VRs.step {vs:List (V N)} {us:List Value} (x:VRs X' ι h vs us) (y:Stp X' X ι ι' h h'):VRs X' ι' h' vs us:=
 ⟨x.1,λi v w e e'=>(x.2 i v w e e').step y⟩
theorem VRs.nil:VRs X' ι h [] ([]:List Value):=⟨rfl,λ_ _ _ e=>by simp at e⟩
theorem VRs.cons {v:V N} {vs:List (V N)} {u:Value} {us:List Value} (a:VR X' ι h v u) (b:VRs X' ι h vs us):VRs X' ι h (v::vs) (u::us):=by
 refine ⟨by simp [b.1],λi x y e e'=>?_⟩
 cases i with
 | zero=>simp at e e';subst e;subst e';exact a
 | succ i=>simp at e e';exact b.2 i x y e e'
theorem VRs.get {vs:List (V N)} {us:List Value} (x:VRs X' ι h vs us) {i:Nat} {v:V N} (e:vs[i]? = some v):∃u,us[i]? = some u/\VR X' ι h v u:=by
 have hi:i<us.length:=by rw [x.1];exact (List.getElem?_eq_some_iff.mp e).1
 exact ⟨us[i],List.getElem?_eq_getElem hi,x.2 i v _ e (List.getElem?_eq_getElem hi)⟩
theorem VRs.none {vs:List (V N)} {us:List Value} (x:VRs X' ι h vs us) {i:Nat} (e:vs[i]? = Option.none):us[i]? = Option.none:=by
 rw [List.getElem?_eq_none_iff] at e ⊢;rw [x.1];exact e
theorem VRs.snoc {v:V N} {vs:List (V N)} {u:Value} {us:List Value} (b:VRs X' ι h vs us) (a:VR X' ι h v u):VRs X' ι h (vs++[v]) (us++[u]):=by
 refine ⟨by simp [b.1],λi x y e e'=>?_⟩
 by_cases hi:i<vs.length
 ·rw [List.getElem?_append_left hi] at e
  rw [List.getElem?_append_left (by rw [b.1];exact hi)] at e'
  exact b.2 i x y e e'
 ·have hi':vs.length<=i:=Nat.le_of_not_lt hi
  rw [List.getElem?_append_right hi'] at e
  rw [List.getElem?_append_right (by rw [b.1];exact hi'),b.1] at e'
  cases hj:i-vs.length with
  | zero=>rw [hj] at e e';simp at e e';subst e;subst e';exact a
  | succ j=>rw [hj] at e;simp at e
theorem VRs.set {v:V N} {vs:List (V N)} {u:Value} {us:List Value} (b:VRs X' ι h vs us) (a:VR X' ι h v u) (k:Nat):VRs X' ι h (vs.set k v) (us.set k u):=by
 refine ⟨by simp [b.1],λi x y e e'=>?_⟩
 rw [List.getElem?_set] at e e'
 split at e
 ·rename_i hk
  subst hk
  rw [if_pos rfl] at e'
  split at e
  ·rename_i h1;rw [if_pos (by rw [b.1];exact h1)] at e';cases e;cases e';exact a
  ·cases e
 ·rename_i hk
  rw [if_neg hk] at e'
  exact b.2 i x y e e'
theorem VRs.take {vs:List (V N)} {us:List Value} (b:VRs X' ι h vs us) (k:Nat):VRs X' ι h (vs.take k) (us.take k):=by
 refine ⟨by simp [b.1],λi x y e e'=>?_⟩
 rw [List.getElem?_take] at e e'
 split at e
 ·rename_i hk;rw [if_pos hk] at e';exact b.2 i x y e e'
 ·cases e
theorem VRs.replicate {v:V N} {u:Value} (a:VR X' ι h v u) (k:Nat):VRs X' ι h (List.replicate k v) (List.replicate k u):=by
 refine ⟨by simp,λi x y e e'=>?_⟩
 rw [List.getElem?_replicate] at e e'
 split at e
 ·rename_i hk;rw [if_pos hk] at e';cases e;cases e';exact a
 ·cases e
theorem VRs.mapInt {ns:List Int} {us:List Value} (x:VRs X' ι h (ns.map V.int) us):IntsAre us ns:=by
 refine B7 x λhl hv=>?_
 clear x
 induction ns generalizing us with
 | nil=>cases us with | nil=>exact .nil | cons=>simp at hl
 | cons n ns ih=>
  cases us with
  | nil=>simp at hl
  | cons u us=>
   have h1:=hv 0 (.int n) u (by simp) (by simp)
   have h2:IntsAre us ns:=ih (by simpa using hl) λi v w e e'=>hv (i+1) v w (by simpa using e) (by simpa using e')
   cases h1
   exact .cons _ _ h2
noncomputable def Nm.set (ι:Nm N) (n:N) (p:Addr×Addr):Nm N:=λm=>if m=n then some p else ι m
theorem Dj4 (hb:X'.objs.size<=a) {n:N} {p:Addr×Addr} (e:ι n=some p) (ha:a=p.1\/a=p.2):q7 X' ι a:=⟨hb,n,p,e,ha⟩
theorem OR.step {p:Addr×Addr} {o:O N} (x:OR prog w X' ι h p o) (e1:h'.get? p.1=h.get? p.1) (e2:h'.get? p.2=h.get? p.2) (y:Stp X' X ι ι' h h'):OR prog w X' ι' h' p o:=by
 cases o with
 | list xs=>
  exists E6 x λa b B3=>C1 B3 λitems C5=>B7 C5 λC' v=>B5 ?_
  clear C5 x
  refine C1 C' λob g=>?_
  clear C'
  exact ⟨a,b,items,⟨ob,e1.trans g⟩,v.step y⟩
 | flist xs=>
  exists E6 x λa b B3=>C1 B3 λitems C5=>B7 C5 λC' v=>B5 ?_
  clear C5 x
  exists C1 C' λob B3=>B7 B3 λg r=>B5 ?_
  clear C'
  exact ⟨a,b,items,⟨ob,e1.trans g,r⟩,v.step y⟩
 | idict es ep=>
  exists E6 x λa b B3=>C1 B3 λkvs C5=>E6 C5 λC' hk v=>B5 ?_
  clear C5 x
  exists J8 C' λob es' B3=>B7 B3 λg r=>B5 ?_
  clear C'
  exact ⟨a,b,kvs,⟨ob,es',e1.trans g,r⟩,hk,v.step y⟩
 | tdict es=>
  exists E6 x λa b B3=>C1 B3 λxs C5=>R7 C5 λC' hk v hn=>B5 ?_
  clear C5 x
  exists Q0 C' λob es' ep B3=>un6 B3 λg r1 r2 r3 r4 r5=>B5 ?_
  clear C'
  have key:∀x∈xs,(tupleKind (intKind prog w)).is h x.1 x.2.1->(tupleKind (intKind prog w)).is h' x.1 x.2.1/\¬q7 X' ι' x.2.1:=by
   intro x hx hi
   obtain ⟨ok,items,n,g,hc,hd,hi⟩:=hi
   exact ⟨⟨ok,items,n,y.keep _ _ (hn x hx) (.inr ⟨⟨_,_,hd⟩,hc⟩) g,hc,hd,hi⟩,y.own (Heap.lt_size g) (hn x hx)⟩
  exact ⟨a,b,xs,⟨ob,es',ep,e1.trans g,r1,r2,r3,λx hx=>(key x hx (r4 x hx)).1,r5⟩,hk,v.step y,λx hx=>(key x hx (r4 x hx)).2⟩
 | inst k f=>
  exists E6 x λa b B3=>J8 B3 λob mA C5=>un8 C5 λg hc hn hd hne hns hv hw=>B5 ?_
  clear C5 x
  exact ⟨a,b,ob,mA,e1.trans g,hc,hn,hd,hne,hns.at λo e=>e2.trans e,λq v hq=>let ⟨z0,u,z1,z2⟩:=hv q v hq;⟨z0,u,z1,z2.step y⟩,hw⟩
theorem St.off (S:St prog w X' ι H h) (y:Stp X' X ι ι h h') (hX:∀a,X a->X'.objs.size<=a) (hk:∀n p,ι n=some p->h'.get? p.1=h.get? p.1/\h'.get? p.2=h.get? p.2):St prog w X' ι H h':=by
 refine ⟨λb o e=>?_,λn o e=>?_,S.sep,λn p e=>?_,Nat.le_trans S.size y.size,S.dom⟩
 ·have hb:=Heap.lt_size e
  exact y.keep b o (λz=>Nat.not_le.mpr hb z.1) (.inl λz=>Nat.not_le.mpr hb (hX b z)) (S.keep b o e)
 ·exists C1 (S.obj n o e) λp B3=>B7 B3 λe1 r=>B5 ?_
  exact ⟨p,e1,r.step (hk n p e1).1 (hk n p e1).2 y⟩
 ·have:=S.liv n p e
  exact ⟨this.1.imp λo z=>(hk n p e).1.trans z,this.2.imp λo z=>(hk n p e).2.trans z⟩
theorem Ae4 (hk:∀a o,h.get? a=some o->h'.get? a=some o) {a:Addr} {o:Obj} (e:h.get? a=some o):h'.get? a=h.get? a:=by rw [e];exact hk a o e
theorem Stp.of_new {n:N} {p:Addr×Addr} (hn:ι n=none) (hk:∀a o,h.get? a=some o->h'.get? a=some o) (hs:h.objs.size<=h'.objs.size) (hp:h.objs.size<=p.1/\h.objs.size<=p.2):
  Stp X' X ι (ι.set n p) h h':=by
 refine ⟨λm q e=>?_,λm q e e'=>?_,λa o _ _ e=>hk a o e,hs⟩
 ·unfold Nm.set;rw [if_neg (by rintro rfl;rw [hn] at e;cases e)];exact e
 ·unfold Nm.set at e'
  split at e'
  ·cases e';exact hp
  ·rw [e] at e';cases e'
theorem St.more (S:St prog w X' ι H h) (hk:∀a o,h.get? a=some o->h'.get? a=some o) (hs:h.objs.size<=h'.objs.size):St prog w X' ι H h':=
 S.off (X:=λ_=>False) (Stp.of_ext hk hs) (λ_ z=>z.elim) λn p e=>let ⟨⟨o,a⟩,⟨o',b⟩⟩:=S.liv n p e;⟨Ae4 hk a,Ae4 hk b⟩
theorem St.new (S:St prog w X' ι H h) {n:N} {p:Addr×Addr} {o:O N} (hn:H n=none) (hk:∀a o,h.get? a=some o->h'.get? a=some o) (hs:h.objs.size<=h'.objs.size)
  (hp:h.objs.size<=p.1/\h.objs.size<=p.2) (hl:(∃o,h'.get? p.1=some o)/\∃o,h'.get? p.2=some o) (ho:OR prog w X' (ι.set n p) h' p o):
  St prog w X' (ι.set n p) (H.set n o) h':=by
 have hi:=S.dom n hn
 have Y:Stp X' (λ_=>False) ι (ι.set n p) h h':=Stp.of_new hi hk hs hp
 have lt1:∀m q,ι m=some q->q.1<h.objs.size/\q.2<h.objs.size:=λm q e=>let ⟨⟨o,a⟩,⟨o',b⟩⟩:=S.liv m q e;⟨Heap.lt_size a,Heap.lt_size b⟩
 refine ⟨λb o e=>hk b o (S.keep b o e),λm q e=>?_,λm m' q q' e e' hne=>?_,λm q e=>?_,Nat.le_trans S.size hs,λm e=>?_⟩
 ·unfold Hp.set at e
  split at e
  ·rename_i hm;subst hm;cases e;exact ⟨p,by simp [Nm.set],ho⟩
  ·rename_i hm
   exists C1 (S.obj m q e) λr B3=>B7 B3 λe1 x=>B5 ?_
   refine B7 (S.liv m r e1) λC' U5=>?_
   refine C1 C' λo1 g1=>?_
   clear C'
   refine C1 U5 λo2 g2=>?_
   clear U5
   exact ⟨r,by simp [Nm.set,hm,e1],x.step (Ae4 hk g1) (Ae4 hk g2) Y⟩
 ·unfold Nm.set at e e'
  split at e <;> split at e'
  ·rename_i h1 h2;exact absurd (h1.trans h2.symm) hne
  ·cases e;have:=lt1 _ _ e'
   exact ⟨Nat.ne_of_gt (Nat.lt_of_lt_of_le this.1 hp.1),Nat.ne_of_gt (Nat.lt_of_lt_of_le this.2 hp.1),Nat.ne_of_gt (Nat.lt_of_lt_of_le this.1 hp.2),Nat.ne_of_gt (Nat.lt_of_lt_of_le this.2 hp.2)⟩
  ·cases e';have:=lt1 _ _ e
   exact ⟨Nat.ne_of_lt (Nat.lt_of_lt_of_le this.1 hp.1),Nat.ne_of_lt (Nat.lt_of_lt_of_le this.1 hp.2),Nat.ne_of_lt (Nat.lt_of_lt_of_le this.2 hp.1),Nat.ne_of_lt (Nat.lt_of_lt_of_le this.2 hp.2)⟩
  ·exact S.sep m m' q q' e e' hne
 ·unfold Nm.set at e
  split at e
  ·cases e;exact hl
  ·obtain ⟨⟨o,a⟩,⟨o',b⟩⟩:=S.liv m q e;exact ⟨⟨o,hk _ _ a⟩,⟨o',hk _ _ b⟩⟩
 ·unfold Hp.set at e
  unfold Nm.set
  split at e
  ·cases e
  ·rename_i hm;rw [if_neg hm];exact S.dom m e
theorem St.newStp (S:St prog w X' ι H h) {n:N} {p:Addr×Addr} (hn:H n=none) (hk:∀a o,h.get? a=some o->h'.get? a=some o) (hs:h.objs.size<=h'.objs.size)
 (hp:h.objs.size<=p.1/\h.objs.size<=p.2):Stp X' X ι (ι.set n p) h h':=Stp.of_new (S.dom n hn) hk hs hp
theorem St.updStp (S:St prog w X' ι H h) {n:N} {p:Addr×Addr} (hi:ι n=some p) (hb:X'.objs.size<=p.1/\X'.objs.size<=p.2)
  (hk:∀b o,b≠p.1->b≠p.2->h.get? b=some o->h'.get? b=some o) (hs:h.objs.size<=h'.objs.size):Stp X' X ι ι h h':=
 Stp.of_keep (λa o e ho _=>hk a o (by rintro rfl;exact ho (Dj4 hb.1 hi (.inl rfl))) (by rintro rfl;exact ho (Dj4 hb.2 hi (.inr rfl))) e) hs
theorem St.upd (S:St prog w X' ι H h) {n:N} {p:Addr×Addr} {o:O N} (hi:ι n=some p) (hb:X'.objs.size<=p.1/\X'.objs.size<=p.2)
  (hk:∀b o,b≠p.1->b≠p.2->h.get? b=some o->h'.get? b=some o) (hs:h.objs.size<=h'.objs.size)
  (hl:(∃o,h'.get? p.1=some o)/\∃o,h'.get? p.2=some o) (ho:OR prog w X' ι h' p o):St prog w X' ι (H.set n o) h':=by
 have Y:Stp X' (λ_=>False) ι ι h h':=S.updStp hi hb hk hs
 have oth:∀m q,m≠n->ι m=some q->h'.get? q.1=h.get? q.1/\h'.get? q.2=h.get? q.2:=λm q hm e=>by
  refine B7 (S.liv m q e) λC' U5=>?_
  refine C1 C' λo1 g1=>?_
  clear C'
  refine C1 U5 λo2 g2=>?_
  clear U5
  refine R7 (S.sep m n q p e hi hm) λa b c d=>?_
  exact ⟨by rw [g1];exact hk _ _ a b g1,by rw [g2];exact hk _ _ c d g2⟩
 refine ⟨λb o e=>hk b o ?_ ?_ (S.keep b o e),λm q e=>?_,S.sep,λm q e=>?_,Nat.le_trans S.size hs,λm e=>?_⟩
 ·rintro rfl;exact absurd (Heap.lt_size e) (Nat.not_lt.mpr hb.1)
 ·rintro rfl;exact absurd (Heap.lt_size e) (Nat.not_lt.mpr hb.2)
 ·unfold Hp.set at e
  split at e
  ·rename_i hm;subst hm;cases e;exact ⟨p,hi,ho⟩
  ·rename_i hm
   exists C1 (S.obj m q e) λr B3=>B7 B3 λe1 x=>B5 ?_
   exact ⟨r,e1,x.step (oth m r hm e1).1 (oth m r hm e1).2 Y⟩
 ·by_cases hm:m=n
  ·subst hm;rw [hi] at e;cases e;exact hl
  ·refine B7 (S.liv m q e) λC' U5=>?_
   refine C1 C' λo a=>?_
   clear C'
   refine C1 U5 λo' b=>?_
   clear U5
   exact ⟨⟨o,(oth m q hm e).1.trans a⟩,⟨o',(oth m q hm e).2.trans b⟩⟩
 ·unfold Hp.set at e
  split at e
  ·cases e
  ·exact S.dom m e
end
structure AOk (d:Nat) (A:Around):Prop where
 hd:A.handled=none
 depth:A.depth+3*d+5<=recursionLimit
 units:A.units+40*d+80<=cLine
structure AOkC (d:Nat) (A:Around):Prop where
 hd:A.handled=none
 depth:A.depth+3*d+3<=recursionLimit
 units:A.units+40*d+60<=cLine
theorem AOk.call {d:Nat} {A:Around} (x:AOk d A):AOkC d A:=⟨x.hd,by have:=x.depth;exact o1 this,by have:=x.units;exact o2 this (by decide)⟩
theorem AOkC.deeper {d:Nat} {A:Around} (x:AOkC (d+1) A) (env:Env):AOk d (A.deeper env):=
 ⟨x.hd,by have:=x.depth;show A.depth+1+3*d+5<=_;exact o3 this,by have:=x.units;show A.units+3+40*d+80<=_;exact o4 this⟩
section
variable {N:Type} [DecidableEq N]
structure Fm (X':Heap) (env:Env) (ι:Nm N) (l:Lc N) (h:Heap):Prop where
 kind:env.scope.kind = .function
 glob:env.globals=mainGlobals
 blt:env.builtins=builtinsNs
 ns:∃m,h.Ns env.locals m/\∀x v,l x=some v->env.kindOf x.str=some .local->∃u,m x.str=some u/\VR X' ι h v u
 cell:∀x:Vr,env.kindOf x.str=some .cell->∃c,env.cells.lookup x.str=some c/\∃v0,h.IsCell c v0/\∀v,l x=some v->∃u,v0=some u/\VR X' ι h v u
 offL:¬q7 X' ι env.locals
 offC:∀n c,(n,c)∈env.cells->¬q7 X' ι c/\c≠env.locals
 apart:env.cells.Pairwise λx y=>x.2≠y.2
 aboveL:X'.objs.size<=env.locals
 aboveC:∀n c,(n,c)∈env.cells->X'.objs.size<=c
 ltC:∀n c,(n,c)∈env.cells->c<h.objs.size
 cells:∀n:Str,env.kindOf n=some .cell->∃c,env.cells.lookup n=some c
def FrX (env:Env):Addr->Prop:=λa=>a=env.locals\/∃n,(n,a)∈env.cells
def Pst {α:Type} (prog:Program) (w:World) (X':Heap) (X:Addr->Prop) (ι:Nm N) (s:Shared) (R:α->Nm N->Hp N->Heap->Prop):α->Shared->Prop:=
 λv s'=>∃h' tk ι' H',s'={s with heap:=h',toks:=tk}/\Stp X' X ι ι' s.heap h'/\St prog w X' ι' H' h'/\R v ι' H' h'
abbrev W':Value->Shared->Prop:=λ_ _=>False
variable {X':Heap} {X Y:Addr->Prop} {ι ι' X8:Nm N} {h h' aa6:Heap} {prog:Program} {w:World} {H:Hp N} {s:Shared} {α β:Type} {A:Around} {M:Model} {env:Env} {l:Lc N}
theorem Fm.step (F:Fm X' env ι l h) (x:Stp X' U8 ι ι' h h'):Fm X' env ι' l h':=by
 have keep:∀a o,¬q7 X' ι a->h.get? a=some o->h'.get? a=some o:=λa o ho e=>x.keep a o ho (.inl λz=>z) e
 refine ⟨F.kind,F.glob,F.blt,?_,?_,?_,?_,F.apart,F.aboveL,F.aboveC,λn c hm=>Nat.lt_of_lt_of_le (F.ltC n c hm) x.size,F.cells⟩
 ·exists C1 F.ns λm B3=>B7 B3 λhn hv=>B5 ?_
  exists Q0 hn λo es ep B3=>B7 B3 λe r=>B5 ?_
  clear hn
  exact ⟨m,⟨o,es,ep,keep _ _ F.offL e,r⟩,λy v hl hk=>let ⟨u,a,b⟩:=hv y v hl hk;⟨u,a,b.step x⟩⟩
 ·intro y hk
  exists C1 (F.cell y hk) λc B3=>B7 B3 λhc C5=>C1 C5 λv0 N1=>B7 N1 λC' hv=>B5 ?_
  clear C5 N1
  exists C1 C' λo B3=>B7 B3 λe r=>B5 ?_
  clear C'
  exact ⟨c,hc,v0,⟨o,keep _ _ (F.offC _ _ (mem_of_lookup hc)).1 e,r⟩,λv hl=>let ⟨u,a,b⟩:=hv v hl;⟨u,a,b.step x⟩⟩
 ·exists C1 F.ns λm B3=>B7 B3 λhn _=>B5 ?_
  exact x.own hn.lt F.offL
 ·intro n c hm
  exact ⟨x.own (F.ltC n c hm) (F.offC n c hm).1,(F.offC n c hm).2⟩
theorem I7 {R:α->Nm N->Hp N->Heap->Prop} {v:α} {tk:Nat} (S:St prog w X' ι H s.heap) (r:R v ι H s.heap):Pst prog w X' X ι s R v {s with toks:=tk}:=
 ⟨s.heap,tk,ι,H,rfl,Stp.refl,S,r⟩
theorem C4 {R:α->Nm N->Hp N->Heap->Prop} {v:α} (S:St prog w X' ι H s.heap) (r:R v ι H s.heap):Pst prog w X' X ι s R v s:=I7 (tk:=s.toks) S r
theorem Pst.lift {R:α->Nm N->Hp N->Heap->Prop} {v:α} {s1 s2:Shared} {h1:Heap} {t1:Nat} (e:s1={s with heap:=h1,toks:=t1}) (x:Stp X' X ι X8 s.heap s1.heap)
  (p:Pst prog w X' X X8 s1 R v s2):Pst prog w X' X ι s R v s2:=by
 subst e
 refine byc λB5=>R6 p λh' tk ι' H' B3=>B7 B3 λC' C5=>?_
 clear B3 p
 subst C'
 refine E6 C5 λa b c=>B5 ?_
 clear C5 B5
 exact ⟨h',tk,ι',H',rfl,x.trans a,b,c⟩
theorem Pst.mono {R R':α->Nm N->Hp N->Heap->Prop} {v:α} {s2:Shared} (p:Pst prog w X' X ι s R v s2) (hR:∀ι' H' h',R v ι' H' h'->R' v ι' H' h'):Pst prog w X' X ι s R' v s2:=by
 exists R6 p λh' tk ι' H' B3=>R7 B3 λe a b c=>B5 ?_
 clear p
 exact ⟨h',tk,ι',H',e,a,b,hR _ _ _ c⟩
abbrev W9 (prog:Program) (w:World) (X':Heap) (X:Addr->Prop) (ι X8:Nm N) (s X7:Shared):Prop:=
 ∀(β:Type) (R:β->Nm N->Hp N->Heap->Prop) (c:β) (Z6:Shared),Pst prog w X' X X8 X7 R c Z6->Pst prog w X' X ι s R c Z6
theorem seqP {m:Sem α} {C:α->Shared->Prop} {ac7:α->Nm N->Hp N->Heap->Prop} (h1:wpAny M A m (Pst prog w X' X ι s ac7) W' s)
  (h2:∀v X8 aa0 X7,W9 prog w X' X ι X8 s X7->Stp X' X ι X8 s.heap X7.heap->St prog w X' X8 aa0 X7.heap->ac7 v X8 aa0 X7.heap->C v X7):
  wpAny M A m C W' s:=by
 refine wpAny_mono h1 (λv s1 p=>?_) λ_ _ z=>z
 refine byc λB5=>R6 p λh' tk ι' H' B3=>B7 B3 λC' C5=>?_
 clear B3 p
 subst C'
 refine E6 C5 λa b c=>B5 ?_
 clear C5 B5
 exact h2 v ι' H' _ (λβ R c Z6 q=>q.lift rfl a) a b c
theorem J1 {t:Sem β} {R:β->Nm N->Hp N->Heap->Prop} {X7 J:Shared} (L:W9 prog w X' X ι X8 s X7) (x:wpAny M A t (Pst prog w X' X X8 X7 R) W' J):wpAny M A t (Pst prog w X' X ι s R) W' J:=
 wpAny_mono x (λ_ _ q=>L _ _ _ _ q) λ_ _ z=>z
def Vof (X':Heap) (Q:V N->Hp N->Prop):Value->Nm N->Hp N->Heap->Prop:=λv ι H h=>∃r,VR X' ι h r v/\Q r H
def Vsof (X':Heap) (Q:List (V N)->Hp N->Prop):List Value->Nm N->Hp N->Heap->Prop:=λvs ι H h=>∃rs,VRs X' ι h rs vs/\Q rs H
def Bof (Q:Bool->Hp N->Prop):Bool->Nm N->Hp N->Heap->Prop:=λb _ H _=>Q b H
def SE (prog:Program) (w:World) (X':Heap) (d:Nat) (K:Calls N) (e:E):Prop:=∀(x:Expr) (A:Around) (env:Env) (ι:Nm N) (l:Lc N) (H:Hp N) (s:Shared) (Q:V N->Hp N->Prop),
 mE env.scope e x=true->AOk d A->Fm X' env ι l s.heap->St prog w X' ι H s.heap->O0 K e l Q H->wpAny (model prog w) A (eval x env) (Pst prog w X' U8 ι s (Vof X' Q)) W' s
def SEs (prog:Program) (w:World) (X':Heap) (d:Nat) (K:Calls N) (e:Es):Prop:=∀(pos:Pos) (x:List Expr) (A:Around) (env:Env) (ι:Nm N) (l:Lc N) (H:Hp N) (s:Shared) (Q:List (V N)->Hp N->Prop),
 z6 env.scope e x=true->AOk d A->Fm X' env ι l s.heap->St prog w X' ι H s.heap->Q' K e l Q H->wpAny (model prog w) A (spliced (backTo pos (starEach x env))) (Pst prog w X' U8 ι s (Vsof X' Q)) W' s
def SC (prog:Program) (w:World) (X':Heap) (d:Nat) (K:Calls N) (e:C):Prop:=∀(x:Expr) (A:Around) (env:Env) (ι:Nm N) (l:Lc N) (H:Hp N) (s:Shared) (Q:Bool->Hp N->Prop),
 mC env.scope e x=true->AOk d A->Fm X' env ι l s.heap->St prog w X' ι H s.heap->wpC K e l Q H->wpAny (model prog w) A (isTrue x env (eval x env)) (Pst prog w X' U8 ι s (Bof Q)) W' s
section cases
variable {d:Nat} {K:Calls N}
theorem P8 {e:E} {x:Expr} {Q:V N->Hp N->Prop} {C:Value->Shared->Prop} (ih:SE prog w X' d K e) (hm:mE env.scope e x=true) (hA:AOk d A) (F:Fm X' env ι l s.heap) (S:St prog w X' ι H s.heap) (hw:O0 K e l Q H)
  (k:∀v X8 aa0 X7,W9 prog w X' U8 ι X8 s X7->Stp X' U8 ι X8 s.heap X7.heap->St prog w X' X8 aa0 X7.heap->∀r,VR X' X8 X7.heap r v->Q r aa0->C v X7):wpAny (model prog w) A (eval x env) C W' s:=
 seqP (ih _ _ _ _ _ _ _ _ hm hA F S hw) λv X8 aa0 X7 L st S q=>C1 q λr q=>B7 q λa b=>k v X8 aa0 X7 L st S r a b
theorem Af3 {pos:Pos} {e:Es} {x:List Expr} {Q:List (V N)->Hp N->Prop} {C:List Value->Shared->Prop} (ih:SEs prog w X' d K e) (hm:z6 env.scope e x=true) (hA:AOk d A) (F:Fm X' env ι l s.heap) (S:St prog w X' ι H s.heap) (hw:Q' K e l Q H)
  (k:∀v X8 aa0 X7,W9 prog w X' U8 ι X8 s X7->Stp X' U8 ι X8 s.heap X7.heap->St prog w X' X8 aa0 X7.heap->∀r,VRs X' X8 X7.heap r v->Q r aa0->C v X7):wpAny (model prog w) A (spliced (backTo pos (starEach x env))) C W' s:=
 seqP (ih pos _ _ _ _ _ _ _ _ hm hA F S hw) λv X8 aa0 X7 L st S q=>C1 q λr q=>B7 q λa b=>k v X8 aa0 X7 L st S r a b
theorem se_none:SE prog w X' d K (N:=N) .none:=by
 intro x A env ι l H s Q hm hA F S hw
 refine J8 (mE_none hm) λk p C'=>?_
 subst C'
 exact wpAny_Constant_none (C4 S ⟨_,.none,hw⟩)
theorem se_bool (b:Bool):SE prog w X' d K (N:=N) (.bool b):=by
 intro x A env ι l H s Q hm hA F S hw
 refine J8 (mE_bool hm) λk p C'=>?_
 subst C'
 exact wpAny_Constant_bool (C4 S ⟨_,.bool _,hw⟩)
theorem se_int (i:Int):SE prog w X' d K (N:=N) (.int i):=by
 intro x A env ι l H s Q hm hA F S hw
 refine J8 (mE_int hm) λk p C'=>?_
 subst C'
 exact wpAny_Constant_int (I7 S ⟨_,.int _ _,hw⟩)
theorem Vr.noDebug (x:Vr):(x.str==("__debug__":Str))=false:=by cases x <;> first | contradiction | kernel_rfl
theorem Eb2 (F:Fm X' env ι l s.heap) {x:Vr} (hk:K0 (env.scope.names.lookup x.str)=true) {v:V N} (hv:l x=some v) {Q:Value->Shared->Prop} {E':Value->Shared->Prop}
  (h:∀u,VR X' ι s.heap v u->Q u s):wpAny M A (loadName env x.str) Q E' s:=by
 have hk':K0 (env.kindOf x.str)=true:=hk
 cases hq:env.kindOf x.str with
 | none=>rw [hq] at hk';cases hk'
 | some k=>
  rw [hq] at hk'
  cases k <;> simp only [K0,Bool.false_eq_true] at hk'
  ·exists C1 F.ns λm B3=>B7 B3 λhn hv'=>B5 ?_
   exists C1 (hv' x v hv hq) λu B3=>B7 B3 λhu r=>B5 ?_
   exact wpAny_loadName_local F.kind hq hn hu (h u r)
  ·exists C1 (F.cell x hq) λc B3=>B7 B3 λhc C5=>C1 C5 λv0 N1=>B7 N1 λhcell hv'=>B5 ?_
   clear C5 N1
   exists C1 (hv' v hv) λu B3=>B7 B3 λC' r=>B5 ?_
   subst C'
   exact wpAny_loadName_cell F.kind hq hc hcell (h u r)
theorem se_var (y:Vr):SE prog w X' d K (N:=N) (.var y):=by
 intro x A env ι l H s Q hm hA F S hw
 exists C1 (mE_var hm) λp B3=>B7 B3 λC' hk=>B5 ?_
 subst C'
 exists C1 hw λv B3=>B7 B3 λhv hq=>B5 ?_
 clear hw
 exact wpAny_Name (Eb2 F hk hv λu r=>C4 S ⟨v,r,hq⟩) y.noDebug
theorem u7 {a:Int} (h:a.natAbs<1073741824):Builtin.Int.intBits a<=64:=by
 unfold Builtin.Int.intBits
 split
 ·exact Nat.zero_le _
 ·rename_i h0
  have h1:a≠0:=by simpa using h0
  have h2:a.natAbs≠0:=o5 h1
  have h3:=(Nat.log2_lt (n:=a.natAbs) (k:=30) h2).mpr h
  exact o6 h3 (by decide)
theorem Ee3 {op:BOp} {va vb:V N} {a b:Value} {Q:V N->Prop} {R:Value->Nm N->Hp N->Heap->Prop} (ha:VR X' ι s.heap va a) (hb:VR X' ι s.heap vb b) (S:St prog w X' ι H s.heap)
  (hw:Aa6 op va vb Q) (h:∀i t,Q (.int i)->R (.int i t) ι H s.heap):wpAny (model prog w) A (binaryOp op.py a b) (Pst prog w X' X ι s R) W' s:=by
 cases ha <;> first | (cases op <;> exact hw.elim) | skip
 cases hb <;> first | (cases op <;> exact hw.elim) | skip
 cases op
 ·exact PyProof.Rows.add_int (I7 S (h _ _ hw))
 ·exact sub_int (I7 S (h _ _ hw))
 ·exact mul_int (I7 S (h _ _ hw.2)) (hw.1.elim (λz=>IntMulOk.of_left (u7 z)) λz=>IntMulOk.of_right (u7 z))
 ·exact PyProof.Rows.floordiv_int hw.1.1 (I7 S (h _ _ hw.2)) (hp:=Or.inl (PyProof.noPylong_small hw.1.2))
 ·exact PyProof.Rows.mod_int' hw.1.1 (I7 S (h _ _ hw.2))
 ·exact pow_int_small hw.1.1 hw.1.2.1 hw.1.2.2 (I7 S (h _ _ hw.2))
 ·exact lshift_int_small hw.1.1 hw.1.2.1 hw.1.2.2 (I7 S (h _ _ hw.2))
 ·exact rshift_int hw.1 (I7 S (h _ _ hw.2))
 ·exact and_int (I7 S (h _ _ hw))
 ·exact xor_int (I7 S (h _ _ hw))
theorem se_bin (op:BOp) (a b:E) (iha:SE prog w X' d K a) (ihb:SE prog w X' d K b):SE prog w X' d K (N:=N) (.bin op a b):=by
 intro x A env ι l H s Q hm hA F S hw
 refine byc λB5=>Q0 (mE_bin hm) λl' r' p' B3=>B7 B3 λC' C5=>?_
 clear B3
 subst C'
 refine B7 C5 λha hb=>B5 ?_
 clear C5 B5
 refine wpAny_BinOp (P8 iha ha hA F S hw λva X8 aa0 X7 Z9 Z7 Z8 ra va' X9=>P8 ihb hb hA (F.step Z7) Z8 X9 λvb aa4 aa8 Z6 aa5 aa1 aa2 rb vb' aa3=>?_)
 exact J1 Z9 (J1 aa5 (Ee3 (va'.step aa1) vb' aa2 aa3 λi t q=>⟨_,.int _ _,q⟩))
theorem Bf0 {op:COp} {a b:Int} {t u:Tok} {R:Value->Nm N->Hp N->Heap->Prop} (S:St prog w X' ι H s.heap) (h:R (.bool (J0 op a b)) ι H s.heap):
  wpAny (model prog w) A (compareOp op.py (.int a t) (.int b u)) (Pst prog w X' X ι s R) W' s:=by
 cases op
 ·exact PyProof.Rows.eq_int (C4 S h)
 ·exact ne_int (C4 S h)
 ·exact PyProof.Rows.lt_int (C4 S h)
 ·exact le_int (C4 S h)
 ·exact gt_int (C4 S h)
 ·exact ge_int (C4 S h)
end cases
end
theorem Ab1 {M:Model} {Γ:Ctx} {p:Pos} {t:Sem Fin} {fs:List Frame} {s s':Shared} {e:End} (h:Runs M Γ p t fs s e s'):s.heap.objs.size<=s'.heap.objs.size:=by
 induction h <;> (try simp only [Shared.setGen,Heap.size_after_update,Heap.size_push] at *) <;> (first | exact o7 | exact o8 ‹_› | exact o9 ‹_› | exact o10 ‹_› ‹_›)
theorem Bc8 {M:Model} {Γ:Ctx} {p:Pos} {s s':Shared} {r:Result} (h:Returns M Γ p s r s'):s.heap.objs.size<=s'.heap.objs.size:=Ab1 h
theorem Cb7 {M:Model} {Γ:Ctx} {p:Pos} {g:Nat} {r:Resume} {s s':Shared} {res:GenResult} (h:Wakes M Γ p g r s res s'):s.heap.objs.size<=s'.heap.objs.size:=by
 unfold Wakes at h
 split at h
 ·exact h.elim
 ·split at h
  ·obtain ⟨ae5,X7,hr,_,_,rfl⟩:=h;exact (Ab1 hr:(s.setGen g .running).heap.objs.size<=X7.heap.objs.size)
  ·rw [h.2];exact Nat.le_refl _
  ·rw [h.2];exact Nat.le_refl _
 ·obtain ⟨ae5,X7,hr,_,_,rfl⟩:=h;exact (Ab1 hr:(s.setGen g .running).heap.objs.size<=X7.heap.objs.size)
 ·rw [h.2];exact Nat.le_refl _
 ·rw [h.2];exact Nat.le_refl _
theorem wp_size {α:Type} (M:Model) (Γ:Ctx) (n:Nat) (t:Sem α):∀(Q:α->Pos->Shared->Prop) (E:Value->Pos->Shared->Prop) (p:Pos) (s:Shared),n<=s.heap.objs.size->Sem.wp M Γ t Q E p s ->
  Sem.wp M Γ t (λa p' s'=>n<=s'.heap.objs.size/\Q a p' s') (λe p' s'=>n<=s'.heap.objs.size/\E e p' s') p s:=by
 induction t with
 | pure a=>intro Q E p s hn h;exact ⟨hn,h⟩
 | raise e=>intro Q E p s hn h;exact ⟨hn,h⟩
 | unsupported _=>intro Q E p s _ h;exact h
 | finish _=>intro Q E p s _ h;exact h
 | rule _ k ih=>intro Q E p s hn h;exact ih () Q E p s hn h
 | «at» p' k ih=>intro Q E p s hn h;exact ih () Q E p' s hn h
 | load a _ k ih=>intro Q E p s hn h;obtain ⟨o,ho,h⟩:=h;exact ⟨o,ho,ih o Q E p s hn h⟩
 | update a _ f k ih=>intro Q E p s hn h;exact ⟨h.1,ih () Q E p _ (by rw [Heap.size_after_update];exact hn) h.2⟩
 | loadIfAlive a k ih=>intro Q E p s hn h;exact ih _ Q E p s hn h
 | point _ k ih=>intro Q E p s hn h;exact ih () Q E p s hn h
 | register _ _=>intro Q E p s _ h;exact h
 | alloc o k ih=>intro Q E p s hn h;exact ih _ Q E p _ (by rw [Heap.size_push];exact Nat.le_succ_of_le hn) h
 | fresh k ih=>intro Q E p s hn h;exact ih _ Q E p _ hn h
 | ask k ih=>intro Q E p s hn h;exact ih _ Q E p s hn h
 | choose src m k ih=>intro Q E p s hn h;exact ⟨h.1,ih _ Q E p _ hn h.2⟩
 | os q _ k ih=>intro Q E p s hn h;exact ih _ Q E p _ hn h
 | call c hd _ _ k ih=>intro Q E p s hn h;obtain ⟨r,s',hr,h⟩:=h;exact ⟨r,s',hr,ih r Q E p s' (Nat.le_trans hn (Bc8 hr)) h⟩
 | handled own k ih=>intro Q E p s hn h;exact ih _ Q E p s hn h
 | genState g k ih=>intro Q E p s hn h;obtain ⟨st,hs,h⟩:=h;exact ⟨st,hs,ih _ Q E p s hn h⟩
 | newGen c k ih=>intro Q E p s hn h;exact ih _ Q E p _ hn h
 | resume g r _ k ih=>intro Q E p s hn h;obtain ⟨res,s',hw,h⟩:=h;exact ⟨res,s',hw,ih res Q E p s' (Nat.le_trans hn (Cb7 hw)) h⟩
 | yield _ _ _ _=>intro Q E p s _ h;exact h
 | stack k ih=>intro Q E p s hn h;exact ih _ Q E p s hn h
 | fork _ _=>intro Q E p s _ h;exact h
 | thread k ih=>intro Q E p s hn h;exact ih _ Q E p s hn h
 | await _ _ _ _ _=>intro Q E p s _ h;exact h
theorem N9 {α:Type} {M:Model} {A:Around} {s:Shared} {t:Sem α} {Q:α->Shared->Prop} {E:Value->Shared->Prop}
  (h:wpAny M A t (λa s'=>s.heap.objs.size<=s'.heap.objs.size->Q a s') E s):wpAny M A t Q E s:=by
 have h2:wpAny M A t (λa s'=>s.heap.objs.size<=s'.heap.objs.size/\(s.heap.objs.size<=s'.heap.objs.size->Q a s')) (λe s'=>s.heap.objs.size<=s'.heap.objs.size/\E e s') s:=
  λΓ p hΓ=>wp_size M Γ s.heap.objs.size t _ _ p s (Nat.le_refl _) (h Γ p hΓ)
 exact wpAny_mono h2 (λ_ _ x=>x.2 x.1) λ_ _ x=>x.2
def FnAt (h:Heap) (f:Fn):Prop:=∃(o:Obj) (fd:FuncData) (body:List Stmt),h.get? f.addr=some o/\o.cls = .type "function"/\o.data = .func fd /\
 fd.scope.kind = .function/\fd.scope.isCoroutine=false/\fd.scope.isGenerator=false/\fd.globals=mainGlobals/\fd.builtins=builtinsNs/\fd.closure=[] /\
 fd.body = .stmts body/\mSs fd.scope f.body body=true/\fd.params.posonlyargs=[]/\fd.params.vararg=none/\fd.params.kwonlyargs=[]/\fd.params.kwarg=none /\
 fd.params.args.map (·.arg)=f.params.map Vr.str/\(f.params.map Vr.str).Nodup/\(∀x∈f.params,fd.scope.names.lookup x.str=some .local) /\
 (∀n∈fd.scope.names,n.2 ≠ .free)/\(fd.scope.names.map (·.1)).Nodup/\h.CodeRec fd.code fd.qualname /\
 (fd.defaults = .none\/∃T oT xs n,fd.defaults = .ref T/\h.get? T=some oT/\oT.data = .seq xs n)
def ClsAt (h:Heap) (k:Kl):Prop:=∃nm q bs sn sub col dd k0 k1 k2 k3 k5 newId mN,ObjNewFacts newId /\
 h.get? k.addr=some (excClassObj nm q k.addr k.ns bs [.type "object"] true sn sub false col dd k0 k1 k2 k3 k5 newId)/\h.Ns k.ns mN /\
 (∀f:Fn,f.kl=some k->mN f.str=some (.ref f.addr))/\(∀a:At,a.kl=k->mN a.str=none)/\mN "__getattribute__"=none/\mN "__getattr__"=none/\mN "__setattr__"=none
structure Bs (h:Heap):Prop where
 lim:h.NoLimit
 glob:∃mg mb,h.Ns mainGlobals mg/\h.Ns builtinsNs mb/\(∀f:Fn,f.kl=none->mg f.str=some (.ref f.addr))/\(∀k:Kl,mg k.str=some (.ref k.addr)) /\
  (∀c:Cs0,∃t,mg c.str=some (.int c.val t))/\(∀b:Bi,mg b.str=none)/\mg "range"=none /\
  mb "len"=some (.builtin "len")/\mb "abs"=some (.builtin "abs")/\mb "list"=some (.type "list")/\mb "tuple"=some (.type "tuple")/\mb "sorted"=some (.builtin "sorted") /\
  mb "sum"=some (.builtin "sum")/\mb "range"=some (.type "range")
 fn:∀f,FnAt h f
 cls:∀k,ClsAt h k
theorem FnAt.keeps {h h':Heap} {f:Fn} (x:FnAt h f) (k:∀b o,h.get? b=some o->h'.get? b=some o):FnAt h' f:=by
 exists Q0 x λo fd body B3=>un22 B3 λa1 a2 a3 a4 a5 a6 a7 a8 a9 a10 a11 a12 a13 a14 a15 a16 a17 a18 a19 a20 a21 a22=>B5 ?_
 clear x
 refine ⟨o,fd,body,k _ _ a1,a2,a3,a4,a5,a6,a7,a8,a9,a10,a11,a12,a13,a14,a15,a16,a17,a18,a19,a20,a21.keeps k,a22.imp id ?_⟩
 intro q_
 exists R6 q_ λT oT xs n B3=>E6 B3 λb1 b2 b3=>B5 ?_
 clear q_
 exact ⟨T,oT,xs,n,b1,k _ _ b2,b3⟩
theorem ClsAt.keeps {h h':Heap} {c:Kl} (x:ClsAt h c) (k:∀b o,h.get? b=some o->h'.get? b=some o):ClsAt h' c:=by
 exists ux14 x λnm q bs sn sub col dd k0 k1 k2 k3 k5 newId mN B3=>R7 B3 λa1 a2 a3 r=>B5 ?_
 clear x
 exact ⟨nm,q,bs,sn,sub,col,dd,k0,k1,k2,k3,k5,newId,mN,a1,k _ _ a2,a3.keeps k,r⟩
theorem Bs.keeps {h h':Heap} (x:Bs h) (k:∀b o,h.get? b=some o->h'.get? b=some o):Bs h':=by
 exists J8 x.glob λmg mb B3=>E6 B3 λa1 a2 r=>B5 ?_
 exact ⟨x.lim.keeps k,⟨mg,mb,a1.keeps k,a2.keeps k,r⟩,λf=>(x.fn f).keeps k,λc=>(x.cls c).keeps k⟩
theorem Bh1 (a:At):typeLookup (.type "object") a.str=pure none:=by
 rw [typeLookup_type,builtinLookup_eq_fast];cases a <;> first | contradiction | kernel_rfl
theorem Dj9 (f:Fn):∃y,typeLookup (.type "object") f.str=pure y:=by
 have e:(fastLookup "object" f.str).isSome=true:=by cases f <;> first | contradiction | kernel_rfl
 refine C1 (Option.isSome_iff_exists.mp e) λy hy=>?_
 exact ⟨y,by rw [typeLookup_type,builtinLookup_eq_fast,hy]⟩
theorem At.inNames (a:At):a.str∈u5:=List.contains_iff_mem.mp (show u5.contains a.str=true by cases a <;> first | contradiction | kernel_rfl)
theorem Fn.notAt (f:Fn):f.str∉u5:=λh=>ftx ((show u5.contains f.str=false by cases f <;> first | contradiction | kernel_rfl).symm.trans (List.contains_iff_mem.mpr h))
theorem At.dec (a:At):At.all.find? (λb=>b.str==a.str)=some a:=by cases a <;> first | contradiction | kernel_rfl
theorem At.str_inj {a b:At} (h:a.str=b.str):a=b:=Option.some.inj ((At.dec a).symm.trans ((congrArg (λs=>At.all.find? λb=>b.str==s) h).trans (At.dec b)))
theorem Be2 {N:Type} {X':Heap} {ι:Nm N} {h:Heap} {v:V N} {u:Value} (x:VR X' ι h v u):handedOut u=pure u:=by
 cases x <;> rfl
section
variable {N:Type} [DecidableEq N]
variable {X':Heap} {X Y:Addr->Prop} {ι ι' X8:Nm N} {h h' aa6:Heap} {prog:Program} {w:World} {H:Hp N} {s:Shared} {α β:Type} {A:Around} {env:Env} {l:Lc N} {d:Nat} {K:Calls N}
theorem VR.refInv {n:N} {u:Value} (x:VR X' ι h (.ref n) u):∃p,u = .ref p.1/\ι n=some p:=by
 cases x with
 | ref e=>exact ⟨_,rfl,e⟩
theorem St.at (S:St prog w X' ι H h) {n:N} {o:O N} (hn:H n=some o) {p:Addr×Addr} (e:ι n=some p):OR prog w X' ι h p o:=by
 exists C1 (S.obj n o hn) λq B3=>B7 B3 λe1 r=>B5 ?_
 rw [e] at e1;cases e1;exact r
theorem Dg2 (B:Bs X') (S:St prog w X' ι H s.heap) {n:N} {k:Kl} {f:At->Option (V N)} {a:At} {v:V N} {u:Value} (hu:VR X' ι s.heap (.ref n) u) (hn:H n=some (.inst k f)) (hf:f a=some v)
  {Q:V N->Hp N->Prop} (hq:Q v H):wpAny (model prog w) A (getAttr u a.str true) (Pst prog w X' X ι s (Vof X' Q)) W' s:=by
 exists C1 hu.refInv λp B3=>B7 B3 λC' hi=>B5 ?_
 subst C'
 exists E6 (S.at hn hi) λ_ _ B3=>J8 B3 λob mA C5=>un8 C5 λg hc hnc hd hne hns hv hw=>B5 ?_
 clear C5
 exists ux14 ((B.keeps S.keep).cls k) λnm q bs sn sub col dd k0 k1 k2 k3 k5 newId mN B3=>un8 B3 λFF hC hN hm hat hga _ _=>B5 ?_
 exists B7 (hv a v hf) λhak B3=>C1 B3 λu C5=>B7 C5 λhu r=>B5 ?_
 clear C5
 exact load_attr hC hN hga (hat a hak) (Bh1 a) ⟨ob,g,hc,hnc,.inr ⟨_,hd,hne,hns⟩⟩ hu (Be2 r) (I7 S ⟨v,r,hq⟩)
theorem Ea0 {sc:Scope} {e:E} {id:Str} {q pos:Pos} (hm:mE sc e (.Call (.Name id q) [] [] pos)=true):(id != ("super":Str))=true:=by
 cases e <;> first | (cases hm;done) | skip
 ·rename_i f _
  rw [eq_of_beq (D9 (D9 (D9 hm).1).1).1];cases f <;> first | contradiction | kernel_rfl
 ·rename_i k _
  rw [eq_of_beq (D9 (D9 hm).1).1];cases k <;> kernel_rfl
theorem Ai6 {sc:Scope} {e:E} {o:Expr} (hm:mE sc e o=true) (attr:Str) (env:Env) (whole:Sem Value):attributeBase o attr env whole=whole:=by
 cases o with
 | Call f as ks pos=>
  cases f with
  | Name id q=>
   cases as with
   | nil=>
    cases ks with
    | nil=>delta attributeBase;dsimp only;rw [if_pos (by rw [Ea0 hm];rfl)]
    | cons=>rfl
   | cons=>rfl
  | _=>rfl
 | _=>rfl
theorem se_attr (B:Bs X') (e:E) (a:At) (ih:SE prog w X' d K e):SE prog w X' d K (N:=N) (.attr e a):=by
 intro x A env ι l H s Q hm hA F S hw
 exists J8 (mE_attr hm) λv p B3=>B7 B3 λC' hm'=>B5 ?_
 subst C'
 replace hm:=hm'
 refine Attribute_any_ (P8 ih hm hA F S hw λva X8 aa0 X7 Z9 Z7 Z8 ra va' X9=>?_) (by rw [arm_eval_Attribute,Ai6 hm])
 refine byc λB5=>R6 X9 λn k f v B3=>B7 B3 λC' C5=>?_
 clear B3 X9
 subst C'
 refine E6 C5 λhn hf hq=>B5 ?_
 clear C5 B5
 exact J1 Z9 (Dg2 B Z8 va' hn hf hq)
theorem se_cst (B:Bs X') (c:Cs0):SE prog w X' d K (N:=N) (.cst c):=by
 intro x A env ι l H s Q hm hA F S hw
 exists C1 (mE_cst hm) λp B3=>B7 B3 λC' hm'=>B5 ?_
 subst C'
 replace hm:=hm'
 exists J8 ((B.keeps S.keep).glob) λmg mb B3=>un6 B3 λhg hb _ _ hc _=>B5 ?_
 refine C1 (hc c) λt ht=>?_
 have hk:env.kindOf c.str=some .globalImplicit:=by
  unfold Env.kindOf;revert hm;cases env.scope.names.lookup c.str with
  | none=>intro h;cases h
  | some k=>cases k <;> intro h <;> first | rfl | cases h
 exact Name_function_global F.kind hk (loadGlobal_global (mg:=mg) (by rw [F.glob];exact hg) ht (C4 S ⟨_,.int _ _,hw⟩)) (by cases c <;> kernel_rfl)
theorem St.listAt (S:St prog w X' ι H h) {n:N} {xs:List (V N)} (hn:H n=some (.list xs)) {p:Addr×Addr} (e:ι n=some p):
 X'.objs.size<=p.1/\X'.objs.size<=p.2/\∃items:Array Value,h.PlainList p.1 items/\VRs X' ι h xs items.toList:=S.at hn e
theorem VRs.size {vs:List (V N)} {items:Array Value} (x:VRs X' ι h vs items.toList):items.size=vs.length:=by simpa using x.1
theorem St.newList (S:St prog w X' ι H h) {n:N} (hn:H n=none) {a:Addr} (ha:h.objs.size<=a) {items:Array Value} {xs:List (V N)} (hk:∀a o,h.get? a=some o->h'.get? a=some o) (hs:h.objs.size<=h'.objs.size)
  (hl:h'.PlainList a items) (hv:VRs X' ι h xs items.toList):St prog w X' (ι.set n (a,a)) (H.set n (.list xs)) h'/\Stp X' X ι (ι.set n (a,a)) h h':=by
 have Y:Stp X' X ι (ι.set n (a,a)) h h':=S.newStp hn hk hs ⟨ha,ha⟩
 refine C1 (id hl) λk e=>?_
 exact ⟨S.new hn hk hs ⟨ha,ha⟩ ⟨⟨_,e⟩,⟨_,e⟩⟩ ⟨Nat.le_trans S.size ha,Nat.le_trans S.size ha,items,hl,hv.step Y⟩,Y⟩
theorem VR.newRef {n:N} {p:Addr×Addr}:VR X' (ι.set n p) h (.ref n) (.ref p.1):=.ref (by simp [Nm.set])
theorem St.updList (S:St prog w X' ι H h) {n:N} {p:Addr×Addr} {xs ys:List (V N)} (hn:H n=some (.list xs)) (hi:ι n=some p) {items:Array Value} (hsb:Heap.SameBut p.1 h h')
  (hl:h'.PlainList p.1 items) (hv:VRs X' ι h ys items.toList):St prog w X' ι (H.set n (.list ys)) h'/\Stp X' X ι ι h h':=by
 refine E6 (S.listAt hn hi) λb1 b2 _=>?_
 have hk:∀b o,b≠p.1->b≠p.2->h.get? b=some o->h'.get? b=some o:=λb o hb _ e=>(hsb.2 b hb).trans e
 have hs:h.objs.size<=h'.objs.size:=Nat.le_of_eq hsb.1.symm
 have Y:Stp X' X ι ι h h':=S.updStp hi ⟨b1,b2⟩ hk hs
 refine C1 (id hl) λk e=>?_
 refine B7 (S.liv n p hi) λ_ C'=>?_
 refine C1 C' λo2 g2=>?_
 clear C'
 refine ⟨S.upd hi ⟨b1,b2⟩ hk hs ⟨⟨_,e⟩,?_⟩ ⟨b1,b2,items,hl,hv.step Y⟩,Y⟩
 by_cases hp:p.2=p.1
 ·exact ⟨_,hp▸e⟩
 ·exact ⟨o2,(hsb.2 _ hp).trans g2⟩
theorem Aj4 {l:Addr} {items:Array Value} {k:Int} {t:Tok} {v:Value} {Q:Unit->Shared->Prop} {E':Value->Shared->Prop} (hl:s.heap.PlainList l items)
  (h0:0<=k) (hfit:k<2^63) (hn:k<items.size)
  (hQ:∀h',h'.PlainList l (items.setIfInBounds k.toNat v)->Heap.SameBut l s.heap h'->Q () {s with heap:=h'}):
  wpAny (model prog w) A (setItem (.ref l) (.int k t) v) Q E' s:=by
 refine C1 (id hl) λc ho=>?_
 have hT:s.TypeIs (.ref l) "list":=⟨_,ho,rfl⟩
 unfold setItem
 refine wpAny_holding ?_
 refine wpAny_bind (wpAny_sequenceKey hT (by decide) ?_)
 refine wpAny_bind (wpAny_callSpecial?_slot (name:=Str.ofString "__setitem__") hT slot_list_setitem
  (wpAny_call_entry slot_list_setitem hT entry_list_setitem ?_ (args_list_setitem _ _ _)))
 show wpAny _ _ (Builtin.List.listSubscript? (.int k t)>>=_) _ _ s
 refine wpAny_bind (wpAny_listSubscript_int (fitsIndex_of h0 hfit) ?_)
 refine C1 (Int.eq_ofNat_of_zero_le h0) λj C'=>?_
 subst C'
 have hj:j<items.size:=o11 hn
 have hx':items[j]? = some items[j]:=Array.getElem?_eq_getElem hj
 show wpAny _ _ ((seqItemAt l j>>=λr=>pure (r.map (j,·)))>>=_) _ _ s
 refine wpAny_bind (wpAny_bind (wpAny_seqItemAt ho rfl (wpAny_pure ?_)))
 rw [hx']
 show wpAny _ _ (setSeqItemAt l j v>>=_) _ _ s
 refine wpAny_bind (wpAny_setSeqItemAt ho rfl ?_)
 have e:Obj.mapSeq (λx=>x.setIfInBounds j v) {cls:=.type "list",data:=.seq items c}={cls:=.type "list",data:=.seq (items.setIfInBounds j v) c}:=by
  simp [Obj.mapSeq]
 refine wpAny_pure ⟨.none,rfl,wpAny_pure (hQ _ ⟨c,?_⟩ (Heap.SameBut.update ..))⟩
 rw [Heap.get?_update_self _ ho (by rw [e];rfl),e]
 rfl
theorem VRs.tail {v:V N} {vs:List (V N)} {u:Value} {us:List Value} (x:VRs X' ι h (v::vs) (u::us)):VR X' ι h v u/\VRs X' ι h vs us:=
 ⟨x.2 0 v u rfl rfl,by simpa using x.1,λi a b e e'=>x.2 (i+1) a b (by simpa using e) (by simpa using e')⟩
theorem VRs.nilI {us:List Value} (x:VRs X' ι h ([]:List (V N)) us):us=[]:=List.length_eq_zero_iff.mp x.1
theorem VRs.consI {v:V N} {vs:List (V N)} {us:List Value} (x:VRs X' ι h (v::vs) us) {P:Prop} (k:∀u us',us=u::us'->VR X' ι h v u->VRs X' ι h vs us'->P):P:=by
 cases us with
 | nil=>exact absurd x.1 (Nat.zero_ne_add_one _)
 | cons u us'=>exact k u us' rfl x.tail.1 x.tail.2
theorem Cf1 {kvs:List (Int×Value)} {es:List (Int×V N)} (hk:kvs.map (·.1)=es.map (·.1)) (hv:VRs X' ι h (es.map (·.2)) (kvs.map (·.2))) {k:Int}:
  (∀v,es.lookup k=some v->∃u,valueAt kvs k=some u/\VR X' ι h v u):=by
 induction es generalizing kvs with
 | nil=>intro v e;simp at e
 | cons e es ih=>
  cases kvs with
  | nil=>simp at hk
  | cons q kvs=>
   obtain ⟨k1,v1⟩:=e
   obtain ⟨k2,v2⟩:=q
   simp only [List.map_cons,List.cons.injEq] at hk
   refine B7 hk ?_
   clear hk
   intro C' hk
   subst C'
   refine B7 (VRs.tail hv) λr1 r2=>?_
   intro v e
   simp only [List.lookup_cons] at e
   unfold valueAt
   simp only [List.find?_cons]
   by_cases hkk:k=k2
   ·subst hkk;simp at e;subst e;exact ⟨v2,by simp,r1⟩
   ·have h1:(k==k2)=false:=by simpa using hkk
    have h2:decide (k2=k)=false:=by simp;exact o12 hkk
    rw [h1] at e
    rw [h2]
    exact ih hk r2 v e
theorem t7 {vs:List (V N)} {u:Value} (x:VR X' ι h (.tup vs) u):∃a items,u = .ref a/\h.IsTuple a items/\¬q7 X' ι a/\VRs X' ι h vs items.toList:=by
 cases x with
 | tup ht ho hl hv=>exact ⟨_,_,rfl,ht,ho,by simpa using hl,λi v w e e'=>hv i v w e (by simpa using e')⟩
theorem M4 {i:Int} {u:Value} (x:VR X' ι h (V.int i) u):∃t,u = .int i t:=by cases x;exact ⟨_,rfl⟩
theorem Ea1 {sc:Scope} {e:E} {x:Expr} (hm:mE sc e x=true):∀o i,subscripted x false o i=operate [o,i] (getItem o i):=by
 intro o i
 cases x <;> first | rfl | (cases e <;> cases hm)
theorem Aa2 (S:St prog w X' ι H s.heap) {vo vi:V N} {o i:Value} (ho:VR X' ι s.heap vo o) (hi:VR X' ι s.heap vi i) {Q:V N->Prop} (hw:Ah5 H vo vi Q) {C:Value->Shared->Prop} {E':Value->Shared->Prop}
  (h:∀r u tk,VR X' ι s.heap r u->Q r->C u {s with toks:=tk}):
  ∃T id,s.TypeIs o T/\typeLookup (.type T) "__getitem__"=pure (some (.builtin id))/\wpAny (model prog w) A (getItem o i) C E' s:=by
 cases vo with
 | ref n=>
  exists C1 ho.refInv λp B3=>B7 B3 λC' hp=>B5 ?_
  subst C'
  cases vi with
  | int k=>
   refine C1 (M4 hi) λt C'=>?_
   subst C'
   rcases hw with q_ | q_
   ·exists J8 q_ λxs v B3=>un5 B3 λhn h0 h1 hx hq=>B5 ?_
    clear q_
    exists E6 (S.listAt hn hp) λ_ _ B3=>C1 B3 λitems C5=>B7 C5 λhl hv=>B5 ?_
    clear C5
    exists C1 (hv.get hx) λu B3=>B7 B3 λhu r=>B5 ?_
    exact ⟨_,_,hl.isList.typeIs,slot_list_getitem.lookup,wpAny_getItem_list hl.isList h0 (Int.lt_trans h1 (by decide)) (by simpa using hu) (h v u s.toks r hq)⟩
   ·exists Q0 q_ λes ep v B3=>E6 B3 λhn hx hq=>B5 ?_
    clear q_
    exists E6 (S.at hn hp) λ_ _ B3=>C1 B3 λkvs C5=>E6 C5 λhd hk hv=>B5 ?_
    clear C5
    exists C1 (Cf1 hk hv v hx) λu B3=>B7 B3 λhu r=>B5 ?_
    have hd:=hd.dictOf
    exact ⟨_,_,hd.mapOf.typeIs,F.slot_dict_getitem.lookup,wpAny_getItem_of (k:=k) (by simp [intKind,Value.isInt]) hd.mapOf hu (h v u _ r hq)⟩
  | _=>exact hw.elim
 | tup vs=>
  refine byc λB5=>J8 (t7 ho) λa items B3=>B7 B3 λC' C5=>?_
  clear B3
  subst C'
  refine E6 C5 λht hoff hv=>B5 ?_
  clear C5 B5
  cases vi with
  | int k=>
   refine C1 (M4 hi) λt C'=>?_
   subst C'
   exists C1 hw λv B3=>R7 B3 λh0 h1 hx hq=>B5 ?_
   clear hw
   exists C1 (hv.get hx) λu B3=>B7 B3 λhu r=>B5 ?_
   have hlt:k.toNat<items.size:=by
    have:=(List.getElem?_eq_some_iff.mp hu).1
    simpa using this
   have hj:seqIndex? k items.size=some k.toNat:=by
    have e:(if k<0 then k+(items.size:Int) else k)=k:=if_neg (o14 h0)
    unfold seqIndex?
    simp only [e]
    rw [if_pos (by simp only [Bool.and_eq_true,decide_eq_true_eq];exact o15 h0 hlt)]
   exact ⟨_,_,ht.typeIs,slot_tuple_getitem.lookup,getItem_tuple ht (Int.le_trans (by decide) h0) (Int.lt_trans h1 (by decide)) hj (by simpa using hu) (h v u s.toks r hq)⟩
  | _=>exact hw.elim
 | _=>exact (by cases vi <;> exact hw.elim)
theorem se_sub (e i:E) (ihe:SE prog w X' d K e) (ihi:SE prog w X' d K i):SE prog w X' d K (N:=N) (.sub e i):=by
 intro x A env ι l H s Q hm hA F S hw
 refine byc λB5=>Q0 (mE_sub hm) λv' s' p' B3=>B7 B3 λC' C5=>?_
 clear B3
 subst C'
 refine B7 C5 λhe hi=>B5 ?_
 clear C5 B5
 refine Subscript_ (P8 ihe he hA F S hw λva X8 aa0 X7 Z9 Z7 Z8 ra va' X9=>P8 ihi hi hA (F.step Z7) Z8 X9 λvb aa4 aa8 Z6 aa5 aa1 aa2 rb vb' aa3=>?_)
 exists J8 (Aa2 (A:=A) (E':=W') aa2 (va'.step aa1) vb' aa3 (C:=Pst prog w X' U8 aa4 Z6 (Vof X' Q)) λr u tk hr hq=>I7 aa2 ⟨r,hr,hq⟩) λT id B3=>E6 B3 λhT hl hg=>B5 ?_
 exact J1 Z9 (J1 aa5 (tail_any hT hl hg (Ea1 hi _ _)))
theorem se_neg (a:E) (ih:SE prog w X' d K a):SE prog w X' d K (N:=N) (.neg a):=by
 intro x A env ι l H s Q hm hA F S hw
 exists J8 (mE_neg hm) λy p B3=>B7 B3 λC' hm'=>B5 ?_
 subst C'
 replace hm:=hm'
 refine wpAny_UnaryOp (P8 ih hm hA F S hw λva X8 aa0 X7 Z9 Z7 Z8 ra va' X9=>?_)
 exists C1 X9 λi B3=>B7 B3 λC' hq=>B5 ?_
 clear X9
 subst C'
 refine C1 (M4 va') λt C'=>?_
 subst C'
 exact J1 Z9 (PyProof.Rows.neg_int (I7 Z8 ⟨_,.int _ _,hq⟩))
theorem ses_nil:SEs prog w X' d K (N:=N) .nil:=by
 intro pos x A env ι l H s Q hm hA F S hw
 obtain rfl:=mEs_nil hm
 exact spliced_nil (C4 S ⟨_,.nil,hw⟩)
theorem O' {x:Expr} {xs:List Expr} (hx:W2 x=true):starEach (x::xs) env=(false,eval x env)::starEach xs env:=by
 cases x <;> first | rfl | cases hx
theorem Di4 (e:E) (es:Es) (ih:SE prog w X' d K e) (ihs:SEs prog w X' d K es):SEs prog w X' d K (N:=N) (.cons e es):=by
 intro pos x A env ι l H s Q hm hA F S hw
 refine byc λB5=>J8 (Bh4 hm) λy ys B3=>B7 B3 λC' C5=>?_
 clear B3
 subst C'
 refine B7 C5 λU5 h3=>B5 ?_
 clear C5 B5
 refine B7 U5 λh1 h2=>?_
 clear U5
 rw [O' h3]
 refine spliced_cons (P8 ih h1 hA F S hw λva X8 aa0 X7 Z9 Z7 Z8 ra va' X9=>wpAny_mono (ihs pos _ _ _ _ _ _ _ _ h2 hA (F.step Z7) Z8 X9) (λvs s2 q=>?_) λ_ _ z=>z)
 exists R6 q λh' tk ι' H' B3=>R7 B3 λe a b C5=>C1 C5 λrs N1=>B7 N1 λc dd=>B5 ?_
 clear C5 N1 q
 exact Z9 _ _ _ _ ⟨h',tk,ι',H',e,a,b,ra::rs,VRs.cons (va'.step a) c,dd⟩
theorem Ag6 {sc:Scope} {es:Es} {x:List Expr} (hm:z6 sc es x=true) (pos:Pos) (env:Env):(backTo pos (starEach x env)).any (·.1)=false/\(backTo pos (starEach x env)).all (λy=> !y.1)=true/\(x≠[]->∃t r,backTo pos (starEach x env)=(false,t)::r):=by
 induction x generalizing es with
 | nil=>exact ⟨rfl,rfl,λz=>(z rfl).elim⟩
 | cons y ys ih=>
  cases es with
  | nil=>cases hm
  | cons e es=>
   exists J8 (Bh4 hm) λ_ _ B3=>E6 B3 λe0 C' h3=>B5 ?_
   refine B7 C' λh1 h2=>?_
   clear C'
   cases e0
   refine E6 (ih h2) λa b _=>?_
   rw [O' h3]
   refine ⟨?_,?_,λ_=>⟨_,_,rfl⟩⟩
   ·show (false||_)=false;rw [Bool.false_or];exact a
   ·show (true&&_)=true;rw [Bool.true_and];exact b
theorem R4 {sc:Scope} {es:Es} {x:List Expr} (hm:z6 sc es x=true) {pos:Pos} {f:Value} {Q:Args->Shared->Prop} {E':Value->Shared->Prop} {M:Model}
  (hh:wpAny M A (spliced (backTo pos (starEach x env))) (λvs s'=>Q ⟨vs,[]⟩ s') E' s):wpAny M A (evalArgs f true (backTo pos (starEach x env)) []) Q E' s:=by
 by_cases hx:x=[]
 ·subst hx
  intro Γ p hΓ
  exact (PySem.evalArgs_none (Q:=Q) (hh Γ p hΓ)) Γ p hΓ
 ·refine J8 ((Ag6 hm pos env).2.2 hx) λt r e=>?_
  rw [e] at hh ⊢
  exact evalArgs_plain hh
theorem t4 {sc:Scope} {eo:E} {es:Es} {o:Expr} {as:List Expr} {name:Str} {ap pos:Pos} {Q:Value->Shared->Prop} {E':Value->Shared->Prop}
  (hm:mE sc eo o=true) (hs:z6 sc es as=true) (hlen:as.length<=5) (hline:(ap.endLine==pos.line)=true)
  (hh:wpAny (model prog w) A (eval o env) (λov X7=>∀pl,wpAny (model prog w) A (getMethod ov name pl) (λfr Z6=>wpAny (model prog w) A (callWith pos fr.1 fr.2 (backTo pos (starEach as env)) []) Q E' Z6) E' X7) E' s):
  wpAny (model prog w) A (eval (.Call (.Attribute o name ap) as [] pos) env) Q E' s:=by
 rw [arm_eval_Call,Ai6 hm]
 refine wpAny_bind (wpAny_mono hh (λov X7 aa6=>wpAny_bind (wpAny_standAt ?_)) λ_ _ e=>e)
 have hform:methodCallForm (as.length+([]:List Keyword).length) (backTo pos (starEach as env)) (backToKw pos (keywordEach [] env))=true:=by
  unfold methodCallForm
  rw [(Ag6 hs pos env).2.1]
  show (true&&true&&decide (as.length+0+0<30))=true
  rw [decide_eq_true (o17 hlen)];rfl
 have hpos:methodCallPos true o env ap pos=pure pos:=by unfold methodCallPos;simp [hline]
 unfold methodCall
 rw [hform,hpos]
 refine wpAny_bind (wpAny_holding (m:=calleeOf true o env ov name) ?_)
 unfold calleeOf
 rw [if_pos rfl]
 exact wpAny_mono (aa6 _) (λfr Z6 ab4=>wpAny_bind (wpAny_pure ab4)) λ_ _ e=>e
def SF (prog:Program) (w:World) (X':Heap) (d:Nat) (K:Calls N):Prop:=∀(f:Fn) (A:Around) (ι:Nm N) (H:Hp N) (s:Shared) (vs:List (V N)) (ws:List Value) (Q:V N->Hp N->Prop),
 AOkC d A->St prog w X' ι H s.heap->VRs X' ι s.heap vs ws->K f vs Q H->wpAny (model prog w) A (call (.ref f.addr) ws) (Pst prog w X' U8 ι s (Vof X' Q)) W' s
theorem se_meth (B:Bs X') (hK:SF prog w X' d K) (o:E) (m:Fn) (args:Es) (iho:SE prog w X' d K o) (iha:SEs prog w X' d K args):SE prog w X' d K (N:=N) (.meth o m args):=by
 intro x A env ι l H s Q hm hA F S hw
 exists ux5 (mE_meth hm) λo' name ap as pos B3=>B7 B3 λC' hm'=>B5 ?_
 subst C'
 replace hm:=hm'
 refine bn5 hm λb0_ ho hs hlen hline=>?_
 clear hm
 rcases eq_of_beq b0_ with rfl
 try replace ho:=eq_of_beq ho
 try replace ho:=of_decide_eq_true ho
 try replace hs:=eq_of_beq hs
 try replace hs:=of_decide_eq_true hs
 try replace hlen:=eq_of_beq hlen
 try replace hlen:=of_decide_eq_true hlen
 try replace hline:=eq_of_beq hline
 try replace hline:=of_decide_eq_true hline
 refine t4 ho hs hlen (by simpa using hline) (P8 iho ho hA F S hw λva X8 aa0 X7 Z9 Z7 Z8 ra va' X9=>?_)
 obtain ⟨n,k,g,rfl,hn,hkl,X9⟩:=X9
 intro pl
 exists C1 va'.refInv λp B3=>B7 B3 λC' hi=>B5 ?_
 subst C'
 exists E6 (Z8.at hn hi) λ_ _ B3=>J8 B3 λob mA C5=>un8 C5 λgo hc hnc hd hne hns hv hwi=>B5 ?_
 clear C5
 have ab1:=B.keeps Z8.keep
 exists ux14 (ab1.cls k) λnm q bs sn sub col dd k0 k1 k2 k3 k5 newId mN B3=>un8 B3 λFF hC hN hmm hat hga hgt _=>B5 ?_
 exists Q0 (ab1.fn m) λof fd body B3=>R7 B3 λf1 f2 f3 _=>B5 ?_
 refine C1 (Dj9 m) λy hy=>?_
 have hno:mA m.str=none:=by
  cases e:mA m.str with
  | none=>rfl
  | some z=>exact absurd (hwi m.str (by rw [e];exact λz=>nomatch z)) m.notAt
 refine method_of hC hN hga hgt (hmm m hkl) f1 f2 hy ⟨ob,go,hc,hnc,.inr ⟨_,hd,hne,hns⟩⟩ hno ?_
 refine callWith_function (o:=of) (fd:=fd) (R4 hs (Af3 (pos:=pos) iha hs hA (F.step Z7) Z8 X9 λws aa4 aa8 Z6 aa5 aa1 aa2 rs vr aa3=>⟨⟨?_,f3⟩,?_⟩))
 ·exact aa1.keep _ _ (λz=>absurd (Heap.lt_size (B.fn m).choose_spec.choose_spec.choose_spec.1) (Nat.not_lt.mpr z.1)) (.inl λz=>z) f1
 ·exact J1 Z9 (J1 aa5 (hK m A _ _ _ _ _ _ hA.call aa2 (VRs.cons ((va'.step aa1)) vr) aa3))
theorem se_call (B:Bs X') (hK:SF prog w X' d K) (f:Fn) (args:Es) (iha:SEs prog w X' d K args):SE prog w X' d K (N:=N) (.call f args):=by
 intro x A env ι l H s Q hm hA F S hw
 exists R6 (mE_call hm) λname np as pos B3=>B7 B3 λC' hm'=>B5 ?_
 subst C'
 replace hm:=hm'
 refine bn4 hm λb0_ hkl hg hs=>?_
 clear hm
 rcases eq_of_beq b0_ with rfl
 try replace hkl:=eq_of_beq hkl
 try replace hg:=eq_of_beq hg
 try replace hs:=eq_of_beq hs
 have hkl':f.kl=none:=by simpa using hkl
 have ab1:=B.keeps S.keep
 exists J8 ab1.glob λmg mb B3=>R7 B3 λhG hb hf _=>B5 ?_
 have hk:env.kindOf f.str=some .globalImplicit:=by
  unfold Env.kindOf;revert hg;cases env.scope.names.lookup f.str with
  | none=>intro h;cases h
  | some k=>cases k <;> intro h <;> first | rfl | cases h
 exists Q0 (ab1.fn f) λof fd body B3=>R7 B3 λf1 f2 f3 _=>B5 ?_
 refine wpAny_Call_Name_kw (Name_function_global F.kind hk (loadGlobal_global (mg:=mg) (by rw [F.glob];exact hG) (hf f hkl') ?_) (by cases f <;> first | contradiction | kernel_rfl))
 refine callWith_function (o:=of) (fd:=fd) (R4 hs (Af3 (pos:=pos) iha hs hA F S hw λws aa4 aa8 Z6 aa5 aa1 aa2 rs vr aa3=>⟨⟨?_,f3⟩,?_⟩))
 ·exact aa1.keep _ _ (λz=>absurd (Heap.lt_size (B.fn f).choose_spec.choose_spec.choose_spec.1) (Nat.not_lt.mpr z.1)) (.inl λz=>z) f1
 ·exact J1 aa5 (hK f A _ _ _ _ _ _ hA.call aa2 vr aa3)
theorem Ec7 {n:Str} (hg:N7 (env.scope.names.lookup n)=true):env.kindOf n=some .globalImplicit:=by
 unfold Env.kindOf;revert hg;cases env.scope.names.lookup n with
 | none=>intro h;cases h
 | some k=>cases k <;> intro h <;> first | rfl | cases h
theorem G5 {o:Obj}:∀b ob,h.get? b=some ob->(h.push o).get? b=some ob:=λb ob e=>Heap.get?_push_of_some o e
theorem E7 {o:Obj}:h.objs.size<=(h.push o).objs.size:=by rw [Heap.size_push];exact Nat.le_succ _
theorem j4 (items:Array Value):(h.push {cls:=.type "list",data:=.seq items}).PlainList h.objs.size items:=⟨0,Heap.get?_push_size _ rfl⟩
theorem V3 (S:St prog w X' ι H s.heap) {m:N} (hm:H m=none) {a:Addr} (ha:s.heap.objs.size<=a) {items:Array Value} {xs:List (V N)} (hk:∀a o,s.heap.get? a=some o->h'.get? a=some o)
  (hl:h'.PlainList a items) (hv:VRs X' ι s.heap xs items.toList) {Q:V N->Hp N->Prop} (hq:Q (.ref m) (H.set m (.list xs))) {tk:Nat} (hs:s.heap.objs.size<=h'.objs.size):
  Pst prog w X' X ι s (Vof X' Q) (.ref a) {s with heap:=h',toks:=tk}:=by
 refine B7 (S.newList (X:=X) hm ha hk hs hl hv) λS' Y=>?_
 exact ⟨h',tk,_,_,rfl,Y,S',.ref m,VR.newRef (p:=(a,a)),hq⟩
theorem se_list (es:Es) (ih:SEs prog w X' d K es):SE prog w X' d K (N:=N) (.list es):=by
 intro x A env ι l H s Q hm hA F S hw
 exists J8 (mE_list hm) λxs p B3=>B7 B3 λC' hm'=>B5 ?_
 subst C'
 replace hm:=hm'
 refine List_ (Af3 ih hm hA F S hw λvs X8 aa0 X7 Z9 Z7 Z8 rs vr q_=>?_)
 exists B7 q_ λhlen B3=>C1 B3 λm C5=>B7 C5 λhmn hq=>B5 ?_
 clear C5 q_
 have hsz:vs.length<=sizeLine:=by rw [vr.1,sizeLine_eq];exact o18 hlen (by decide)
 exact J1 Z9 (wpAny_newObj_type (V3 Z8 hmn (Nat.le_refl _) G5 (j4 _) (by simpa using vr) hq E7 (tk:=X7.toks)) (by show vs.toArray.size<=_;simpa using hsz))
theorem Ae8 (S:St prog w X' ι H s.heap) {vs:List Value} {rs:List (V N)} (vr:VRs X' ι s.heap rs vs) {Q:V N->Hp N->Prop} (hq:Q (.tup rs) H) {tk:Nat}:
  Pst prog w X' X ι s (Vof X' Q) (.ref s.heap.objs.size) {s with heap:=s.heap.push {cls:=.type "tuple",data:=.seq vs.toArray},toks:=tk}:=by
 have Y:Stp X' X ι ι s.heap (s.heap.push {cls:=.type "tuple",data:=.seq vs.toArray}):=Stp.of_ext G5 E7
 refine ⟨_,tk,ι,H,rfl,Y,S.more G5 E7,.tup rs,?_,hq⟩
 refine .tup ⟨_,Heap.get?_push_size _ rfl,rfl,0,rfl⟩ ?_ (by simpa using vr.1) λi v u e e'=>(vr.2 i v u e (by simpa using e')).step Y
 intro q_
 exists B7 q_ λhb B3=>J8 B3 λn p C5=>B7 C5 λe hp=>B5 ?_
 clear C5 q_
 refine B7 (S.liv n p e) λC' U5=>?_
 refine C1 C' λo g=>?_
 clear C'
 refine C1 U5 λo' g'=>?_
 clear U5
 rcases hp with hp | hp
 ·exact Nat.lt_irrefl _ (hp▸Heap.lt_size g)
 ·exact Nat.lt_irrefl _ (hp▸Heap.lt_size g')
theorem se_tup (es:Es) (ih:SEs prog w X' d K es):SE prog w X' d K (N:=N) (.tup es):=by
 intro x A env ι l H s Q hm hA F S hw
 exists Q0 (mE_tup hm) λxs c p B3=>B7 B3 λC' hm'=>B5 ?_
 subst C'
 replace hm:=hm'
 refine Tuple_ (Af3 ih hm hA F S hw λvs X8 aa0 X7 Z9 Z7 Z8 rs vr q_=>?_)
 refine B7 q_ λhlen hq=>?_
 clear q_
 have hsz:vs.length<=sizeLine:=by rw [vr.1,sizeLine_eq];exact o18 hlen (by decide)
 exact J1 Z9 (wpAny_newTuple (Ae8 Z8 vr hq (tk:=X7.toks)) hsz)
theorem Dc2:SE prog w X' d K (N:=N) .idict0:=by
 intro x A env ι l H s Q hm hA F S hw
 refine C1 (Ab9 hm) λp C'=>?_
 subst C'
 exists C1 hw λm B3=>B7 B3 λhmn hq=>B5 ?_
 clear hw
 have hk:∀b ob,s.heap.get? b=some ob->(s.heap.push {cls:=.type "dict",data:=.dict #[]}).get? b=some ob:=G5
 have e:=Heap.get?_push_size s.heap (o:={cls:=.type "dict",data:=.dict #[]}) rfl
 have hq:=hq 0
 refine wpAny_Dict_empty ⟨_,s.toks,ι.set m (s.heap.objs.size,s.heap.objs.size),H.set m (.idict [] 0),rfl,S.newStp hmn hk E7 ⟨Nat.le_refl _,Nat.le_refl _⟩,
  S.new hmn hk E7 ⟨Nat.le_refl _,Nat.le_refl _⟩ ⟨⟨_,e⟩,⟨_,e⟩⟩ ⟨S.size,S.size,[],?_,rfl,VRs.nil⟩,.ref m,VR.newRef (p:=(s.heap.objs.size,s.heap.objs.size)),hq⟩
 exact ⟨_,#[],e,⟨rfl,rfl,rfl⟩,rfl,λ_ he=>by simp at he,.nil,List.nodup_nil⟩
theorem Dc0:SE prog w X' d K (N:=N) .tdict0:=by
 intro x A env ι l H s Q hm hA F S hw
 refine C1 (Ab9 hm) λp C'=>?_
 subst C'
 exists C1 hw λm B3=>B7 B3 λhmn hq=>B5 ?_
 clear hw
 have hk:∀b ob,s.heap.get? b=some ob->(s.heap.push {cls:=.type "dict",data:=.dict #[]}).get? b=some ob:=G5
 have e:=Heap.get?_push_size s.heap (o:={cls:=.type "dict",data:=.dict #[]}) rfl
 refine wpAny_Dict_empty ⟨_,s.toks,ι.set m (s.heap.objs.size,s.heap.objs.size),H.set m (.tdict []),rfl,S.newStp hmn hk E7 ⟨Nat.le_refl _,Nat.le_refl _⟩,
  S.new hmn hk E7 ⟨Nat.le_refl _,Nat.le_refl _⟩ ⟨⟨_,e⟩,⟨_,e⟩⟩ ⟨S.size,S.size,[],Heap.DictOfH.new _,rfl,VRs.nil,λ_ z=>by simp at z⟩,.ref m,VR.newRef (p:=(s.heap.objs.size,s.heap.objs.size)),hq⟩
theorem mulL {la:Addr} {items:Array Value} {k:Nat} {x:Int} {u:Tok} {Q:Value->Shared->Prop} {E':Value->Shared->Prop}
  (hl:s.heap.get? la=some {cls:=.type "list",data:=.seq items k}) (hlo: -(2^63:Int)<=x) (hhi:x<2^63) (hsz:items.size*x.toNat<=2^24)
  (hh:Q (.ref s.heap.objs.size) {s with heap:=s.heap.push {cls:=.type "list",data:=.seq (List.foldl (λx1 x2=>x1++x2) #[] (List.replicate (if items.isEmpty=true then 0 else x.toNat) items))}}):
  wpAny (model prog w) A (binaryOp .Mult (.ref la) (.int x u)) Q E' s:=
 wpAny_binaryOp_repeat_ref (T:="list") (U:="int") (by decide) ⟨_,hl,rfl⟩ (λs'=>typeIs_int s' x u) noFill_list_mul F.fills_int_mul F.slot_int_rmul repeat_list F.slot_int_index.lookup
  (call_meets F.slot_int_rmul (typeIs_int s x u) F.entry_int_rmul (F.args_int_rmul_2 _ _) (int___rmul___int_list x u la items k)
   ⟨hl,rfl,⟨_,hl,rfl⟩,call_meets F.slot_list_mul ⟨_,hl,rfl⟩ F.entry_list_mul (F.args_list_mul_2 _ _)
    (AutoListH.list___mul___list_int_3 la items k x u (by simp [Builtin.List.listFitsIndex];exact ⟨hlo,hhi⟩) (Nat.not_lt.mpr (Nat.le_trans hsz (by decide))) (by simp [Builtin.List.listTooLong,sizeLine];exact hsz))
    ⟨hl,hh⟩⟩)
theorem De7 (u:Value):∀(n:Nat) (acc:Array Value),(List.foldl (λx1 x2=>x1++x2) acc (List.replicate n #[u])).toList=acc.toList++List.replicate n u:=by
 intro n
 induction n with
 | zero=>intro acc;simp
 | succ n ih=>intro acc;rw [List.replicate_succ,List.foldl_cons,ih,List.replicate_succ];simp
theorem Cb4 {a:Expr} {p:Pos} {Q:Value->Shared->Prop} {E':Value->Shared->Prop} (hx:W2 a=true)
  (hh:wpAny (model prog w) A (eval a env) (λu X7=>Q (.ref X7.heap.objs.size) {X7 with heap:=X7.heap.push {cls:=.type "list",data:=.seq #[u]}}) E' s):
  wpAny (model prog w) A (eval (.List [a] p) env) Q E' s:=by
 refine List_ ?_
 rw [O' hx]
 refine spliced_cons (wpAny_mono hh (λu X7 aa6=>?_) λ_ _ e=>e)
 exact spliced_nil (wpAny_newObj_type aa6 (by show (1:Nat)<=sizeLine;rw [sizeLine_eq];exact o22))
theorem v8 {sc:Scope} {e:E} {a:Expr} (hm:mE sc e a=true):W2 a=true:=by
 cases a <;> first | rfl | (cases e <;> cases hm)
theorem se_rep (x n:E) (ihx:SE prog w X' d K x) (ihn:SE prog w X' d K n):SE prog w X' d K (N:=N) (.rep x n):=by
 intro y A env ι l H s Q hm hA F S hw
 refine byc λB5=>R6 (mE_rep hm) λa p2 rgt p B3=>B7 B3 λC' C5=>?_
 clear B3
 subst C'
 refine B7 C5 λha hn=>B5 ?_
 clear C5 B5
 refine wpAny_BinOp (Cb4 (v8 ha) (P8 ihx ha hA F S hw λva X8 aa0 X7 Z9 Z7 Z8 ra va' X9=>?_))
 have hk1:∀b ob,X7.heap.get? b=some ob->(X7.heap.push {cls:=.type "list",data:=.seq #[va]}).get? b=some ob:=G5
 have Y1:Stp X' U8 X8 X8 X7.heap (X7.heap.push {cls:=.type "list",data:=.seq #[va]}):=Stp.of_ext hk1 E7
 have S1':=Z8.more hk1 E7
 have F1':=(F.step Z7).step Y1
 have L1':W9 prog w X' U8 X8 X8 X7 {X7 with heap:=X7.heap.push {cls:=.type "list",data:=.seq #[va]}}:=λβ R c Z6 q=>q.lift (t1:=X7.toks) rfl Y1
 refine P8 ihn hn hA F1' S1' X9 λvb aa4 aa8 Z6 aa5 aa1 aa2 rb vb' q_=>?_
 exists C1 q_ λk B3=>un5 B3 λhk h0 h1 hsc C5=>C1 C5 λm N1=>B7 N1 λhmn hq=>B5 ?_
 clear C5 N1 q_
 subst hk
 refine C1 (M4 vb') λt C'=>?_
 subst C'
 have hg:Z6.heap.get? X7.heap.objs.size=some {cls:=.type "list",data:=.seq #[va]}:=by
  refine aa1.keep _ _ ?_ (.inl λz=>z) (Heap.get?_push_size _ rfl)
  intro q_
  exists B7 q_ λhb B3=>J8 B3 λn' p' C5=>B7 C5 λe hp=>B5 ?_
  clear C5 q_
  refine B7 (Z8.liv n' p' e) λC' U5=>?_
  refine C1 C' λo g=>?_
  clear C'
  refine C1 U5 λo' g'=>?_
  clear U5
  rcases hp with hp | hp
  ·exact Nat.lt_irrefl _ (hp▸Heap.lt_size g)
  ·exact Nat.lt_irrefl _ (hp▸Heap.lt_size g')
 refine J1 Z9 (J1 L1' (J1 aa5 (mulL hg (Int.le_trans (by decide) h0) (Int.lt_trans h1 (by decide)) (by simp;exact o23 h1 (by decide)) (V3 aa2 hmn (Nat.le_refl _) G5 (j4 _) ?_ hq E7 (tk:=Z6.toks)))))
 have e1:(if (#[va]:Array Value).isEmpty=true then 0 else k.toNat)=k.toNat:=by simp
 rw [e1,De7]
 exact VRs.replicate ((va'.step Y1).step aa1) k.toNat
theorem Ee4 {op:CmpOp} {r:Expr} (h1:op ≠ .In) (h2:op ≠ .NotIn):behindInMarks op r=false:=by
 cases r <;> first | rfl | (cases op <;> first | (exact absurd rfl h1) | (exact absurd rfl h2) | (simp [behindInMarks];done) | (simp [behindInMarks];rfl))
theorem COp.plain (op:COp):op.py ≠ .In/\op.py ≠ .NotIn:=by cases op <;> exact ⟨by decide,by decide⟩
theorem Bi8 {op:COp} {va vb:V N} {a b:Value} (hA:A.units+80<=cLine) (ha:VR X' ι s.heap va a) (hb:VR X' ι s.heap vb b) (S:St prog w X' ι H s.heap) {Q:Bool->Prop} (hw:Bi9 H op va vb Q)
  {R:Value->Nm N->Hp N->Heap->Prop} (hR:∀r,Q r->R (.bool r) ι H s.heap):wpAny (model prog w) A (compareOp op.py a b) (Pst prog w X' X ι s R) W' s:=by
 cases va with
 | int i=>
  refine C1 (M4 ha) λt C'=>?_
  subst C'
  cases vb with
  | int j=>
   refine C1 (M4 hb) λu C'=>?_
   subst C'
   exact Bf0 S (hR _ (by cases op <;> exact hw))
  | _=>cases op <;> exact hw.elim
 | bool i=>
  cases ha
  cases vb with
  | bool j=>
   cases hb
   cases op <;> first | exact hw.elim | exact ne_bool (C4 S (hR _ hw))
  | _=>cases op <;> exact hw.elim
 | ref n=>
  exists C1 ha.refInv λp B3=>B7 B3 λC' hp=>B5 ?_
  subst C'
  cases vb with
  | ref m=>
   exists C1 hb.refInv λq B3=>B7 B3 λC' hq=>B5 ?_
   subst C'
   cases op <;> first | exact hw.elim | skip
   ·exists J8 hw λxs ys B3=>un5 B3 λh1 h2 h3 h4 h5=>B5 ?_
    clear hw
    exists E6 (S.listAt h1 hp) λ_ _ B3=>C1 B3 λit1 C5=>B7 C5 λl1 v1=>B5 ?_
    clear C5
    exists E6 (S.listAt h2 hq) λ_ _ B3=>C1 B3 λit2 C5=>B7 C5 λl2 v2=>B5 ?_
    clear C5
    exact eq_intsK (vs:=it1.toList) (us:=it2.toList) (by simpa using l1.isList) v1.mapInt (by simpa using l2.isList) v2.mapInt (o24 hA (by decide)) (C4 S (hR _ h5))
   exists J8 hw λxs ys B3=>un5 B3 λh1 h2 h3 h4 h5=>B5 ?_
   clear hw
   exists E6 (S.listAt h1 hp) λ_ _ B3=>C1 B3 λit1 C5=>B7 C5 λl1 v1=>B5 ?_
   clear C5
   exists E6 (S.listAt h2 hq) λ_ _ B3=>C1 B3 λit2 C5=>B7 C5 λl2 v2=>B5 ?_
   clear C5
   refine ne_intsK (vs:=it1.toList) (us:=it2.toList) (by simpa using l1.isList) v1.mapInt (by simpa using l2.isList) v2.mapInt (o24 hA (by decide)) (C4 S (hR _ ?_))
   simpa using h5
  | _=>cases op <;> exact hw.elim
 | _=>cases op <;> exact hw.elim
theorem se_cmp (op:COp) (a b:E) (iha:SE prog w X' d K a) (ihb:SE prog w X' d K b):SE prog w X' d K (N:=N) (.cmp op a b):=by
 intro x A env ι l H s Q hm hA F S hw
 refine byc λB5=>Q0 (mE_cmp hm) λlf r p B3=>B7 B3 λC' C5=>?_
 clear B3
 subst C'
 refine B7 C5 λha hb=>B5 ?_
 clear C5 B5
 refine wpAny_Compare1 (P8 iha ha hA F S hw λva X8 aa0 X7 Z9 Z7 Z8 ra va' X9=>P8 ihb hb hA (F.step Z7) Z8 X9 λvb aa4 aa8 Z6 aa5 aa1 aa2 rb vb' aa3=>?_) (Ee4 op.plain.1 op.plain.2)
 exact J1 Z9 (J1 aa5 (Bi8 (by have:=hA.units;exact o25 this) (va'.step aa1) vb' aa2 aa3 λr q=>⟨_,.bool _,q⟩))
theorem k9 {v:V N} {u:Value} (x:VR X' ι h v u):(u==Value.none)=v.isNone:=by
 cases x <;> rfl
theorem Dc1 (a:E) (ih:SE prog w X' d K a):SE prog w X' d K (N:=N) (.isNone a):=by
 intro x A env ι l H s Q hm hA F S hw
 exists R6 (Ba6 hm) λlf k q p B3=>B7 B3 λC' hm'=>B5 ?_
 subst C'
 replace hm:=hm'
 refine wpAny_Compare1 (P8 ih hm hA F S hw λva X8 aa0 X7 Z9 Z7 Z8 ra va' X9=>wpAny_Constant_none ?_) rfl
 exact J1 Z9 (is_none_gen (C4 Z8 ⟨_,.bool _,by rw [k9 va'];exact X9⟩))
theorem Cd2 (a:E) (ih:SE prog w X' d K a):SE prog w X' d K (N:=N) (.notNone a):=by
 intro x A env ι l H s Q hm hA F S hw
 exists R6 (Ag8 hm) λlf k q p B3=>B7 B3 λC' hm'=>B5 ?_
 subst C'
 replace hm:=hm'
 refine wpAny_Compare1 (P8 ih hm hA F S hw λva X8 aa0 X7 Z9 Z7 Z8 ra va' X9=>wpAny_Constant_none ?_) rfl
 exact J1 Z9 (isnot_none_gen (C4 Z8 ⟨_,.bool _,by rw [k9 va'];exact X9⟩))
theorem Ag5 {a:Addr} (ha:2<=a):(a==sysModules)=false:=by
 have:sysModules=1:=rfl
 rw [this];simp only [beq_eq_false_iff_ne];intro e;rw [e] at ha;exact absurd ha (by decide)
theorem Cd4 (hb:2<=X'.objs.size) (a:E) (ih:SE prog w X' d K a):SE prog w X' d K (N:=N) (.eqDict0 a):=by
 intro x A env ι l H s Q hm hA F S hw
 exists Q0 (Ce9 hm) λlf q p B3=>B7 B3 λC' hm'=>B5 ?_
 subst C'
 replace hm:=hm'
 refine wpAny_Compare1 (P8 ih hm hA F S hw λva X8 aa0 X7 Z9 Z7 Z8 ra va' X9=>wpAny_Dict_empty ?_) rfl
 refine byc λB5=>Q0 X9 λn es ep B3=>B7 B3 λC' C5=>?_
 clear B3 X9
 subst C'
 refine E6 C5 λhn hlen hq=>B5 ?_
 clear C5 B5
 exists C1 va'.refInv λp' B3=>B7 B3 λC' hi=>B5 ?_
 subst C'
 exists E6 (Z8.at hn hi) λb1 _ B3=>C1 B3 λkvs C5=>E6 C5 λhd hk hv=>B5 ?_
 clear C5
 have hd:=hd.dictOf
 have hk1:∀b ob,X7.heap.get? b=some ob->(X7.heap.push {cls:=.type "dict",data:=.dict #[]}).get? b=some ob:=G5
 have Y1:Stp X' U8 X8 X8 X7.heap (X7.heap.push {cls:=.type "dict",data:=.dict #[]}):=Stp.of_ext hk1 E7
 have L1':W9 prog w X' U8 X8 X8 X7 {X7 with heap:=X7.heap.push {cls:=.type "dict",data:=.dict #[]}}:=λβ R c Z6 q=>q.lift (t1:=X7.toks) rfl Y1
 have hl:kvs.length=es.length:=by have:=congrArg List.length hk;simpa using this
 have hd1:(X7.heap.push {cls:=.type "dict",data:=.dict #[]}).DictOf (intKind prog w) p'.1 kvs:=by
  obtain ⟨o,es',ep,g,r⟩:=hd;exact ⟨o,es',ep,hk1 _ _ g,r⟩
 have hd2:(X7.heap.push {cls:=.type "dict",data:=.dict #[]}).DictOf (intKind prog w) X7.heap.objs.size []:=
  ⟨_,#[],0,Heap.get?_push_size _ rfl,⟨rfl,rfl,rfl⟩,rfl,λ_ he=>by simp at he,.nil,List.nodup_nil⟩
 refine J1 Z9 (J1 L1' (keq_eq (r:=true) (Ag5 (Nat.le_trans hb b1)) (Ag5 (Nat.le_trans hb Z8.size)) hd1 hd2 (by have:=hA.units;exact o26 this) (λe=>?_) (C4 (Z8.more hk1 E7) ⟨_,.bool _,?_⟩)))
 ·have:kvs=[]:=List.length_eq_zero_iff.mp (by simpa using e)
  rw [this];exact .nil
 ·have e:(kvs.length==([]:List (Int×Value)).length&&true)=es.isEmpty:=by
   rw [hl];cases es <;> simp
  rw [e];exact hq
theorem Cd3 (a:E) (ih:SE prog w X' d K a):SE prog w X' d K (N:=N) (.eqList0 a):=by
 intro x A env ι l H s Q hm hA F S hw
 exists Q0 (Ce8 hm) λlf q p B3=>B7 B3 λC' hm'=>B5 ?_
 subst C'
 replace hm:=hm'
 refine wpAny_Compare1 (P8 ih hm hA F S hw λva X8 aa0 X7 Z9 Z7 Z8 ra va' X9=>List_ (spliced_nil (wpAny_newObj_type ?_))) rfl
 refine byc λB5=>J8 X9 λn xs B3=>B7 B3 λC' C5=>?_
 clear B3 X9
 subst C'
 refine E6 C5 λhn hlen hq=>B5 ?_
 clear C5 B5
 exists C1 va'.refInv λp' B3=>B7 B3 λC' hi=>B5 ?_
 subst C'
 exists E6 (Z8.listAt hn hi) λb1 _ B3=>C1 B3 λitems C5=>B7 C5 λhl hv=>B5 ?_
 clear C5
 have hk1:∀b ob,X7.heap.get? b=some ob->(X7.heap.push {cls:=.type "list",data:=.seq ([]:List Value).toArray}).get? b=some ob:=G5
 have Y1:Stp X' U8 X8 X8 X7.heap (X7.heap.push {cls:=.type "list",data:=.seq ([]:List Value).toArray}):=Stp.of_ext hk1 E7
 have L1':W9 prog w X' U8 X8 X8 X7 {X7 with heap:=X7.heap.push {cls:=.type "list",data:=.seq ([]:List Value).toArray}}:=λβ R c Z6 q=>q.lift (t1:=X7.toks) rfl Y1
 have hl1:(X7.heap.push {cls:=.type "list",data:=.seq ([]:List Value).toArray}).IsList p'.1 items.toList.toArray:=by
  obtain ⟨n,g⟩:=hl;exact ⟨_,hk1 _ _ g,rfl,n,by simp⟩
 refine J1 Z9 (J1 L1' (eq_intsK (us:=[]) (ms:=[]) hl1 hv.mapInt ⟨_,Heap.get?_push_size _ rfl,rfl,0,rfl⟩ .nil (by have:=hA.units;exact o27 this (by decide)) (C4 (Z8.more hk1 E7) ⟨_,.bool _,?_⟩)))
 have e:decide (xs=[])=xs.isEmpty:=by cases xs <;> simp
 rw [e];exact hq
theorem Ba1 (b c:Bool):MeetsSeq.EqGives (.bool b) (.bool c) (b==c):=by
 intro prog w A E' s Q hq
 unfold eqBool
 show wpAny _ _ (if (Value.bool b==Value.bool c)=true then _ else _) Q E' s
 by_cases hab:(Value.bool b==Value.bool c)=true
 ·rw [if_pos hab]
  have e:b=c:=by have:=eq_of_beq hab;injection this
  subst e
  exact wpAny_bind (wpAny_rule (wpAny_pure (by simpa using hq)))
 ·rw [if_neg hab]
  exact wpAny_bind (eq_bool (Q:=λv s'=>wpAny (model prog w) A (truthOfDropped v) Q E' s') (wpAny_truthy_bool hq))
theorem Dg4 {xs:List Bool} {us:List Value} (hv:VRs X' ι h (xs.map V.bool) us) (i:Bool):us.any (λy=>match y with | .bool b=>b==i | _=>false)=xs.contains i:=by
 induction xs generalizing us with
 | nil=>cases us with
  | nil=>rfl
  | cons=>have:=hv.1;simp at this
 | cons x xs ih=>
  cases us with
  | nil=>have:=hv.1;simp at this
  | cons u us=>
   refine B7 (VRs.tail hv) λa b=>?_
   cases a
   rw [List.any_cons,ih b,List.contains_cons]
   cases x <;> cases i <;> rfl
theorem Ab7 {va vb:V N} {a b:Value} (ha:VR X' ι s.heap va a) (hb:VR X' ι s.heap vb b) (S:St prog w X' ι H s.heap) {Q:Bool->Prop} (hw:Cj0 H va vb Q)
  {C:Value->Shared->Prop} {E':Value->Shared->Prop} (hR:∀r,Q r->C (.bool r) s):wpAny (model prog w) A (compareOp .In a b) C E' s:=by
 cases va with
 | int i=>
  refine C1 (M4 ha) λt C'=>?_
  subst C'
  cases vb with
  | ref n=>
   exists C1 hb.refInv λp B3=>B7 B3 λC' hp=>B5 ?_
   subst C'
   exists C1 hw λxs B3=>B7 B3 λhn hq=>B5 ?_
   clear hw
   exists E6 (S.listAt hn hp) λ_ _ B3=>C1 B3 λitems C5=>B7 C5 λhl hv=>B5 ?_
   clear C5
   refine in_list_ints (vs:=items.toList) (by simpa using hl.isList) hv.mapInt (hR _ ?_)
   rw [List.any_beq'];exact hq
  | tup vs=>
   refine byc λB5=>J8 (t7 hb) λp items B3=>B7 B3 λC' C5=>?_
   clear B3
   subst C'
   refine E6 C5 λht hoff hv=>B5 ?_
   clear C5 B5
   exists C1 hw λxs B3=>B7 B3 λC' hq=>B5 ?_
   clear hw
   subst C'
   refine in_tuple_ints ht hv.mapInt (hR _ ?_)
   rw [List.any_beq'];exact hq
  | _=>exact hw.elim
 | bool i=>
  cases ha
  cases vb with
  | ref n=>
   exists C1 hb.refInv λp B3=>B7 B3 λC' hp=>B5 ?_
   subst C'
   exists C1 hw λxs B3=>B7 B3 λhn hq=>B5 ?_
   clear hw
   exists E6 (S.listAt hn hp) λ_ _ B3=>C1 B3 λitems C5=>B7 C5 λhl hv=>B5 ?_
   clear C5
   refine SeqInW.in_listW (λy=>match y with | .bool b=>b==i | _=>false) (λy hy=>?_) hl.isList (hR _ ?_)
   ·obtain ⟨j,hj,e⟩:=Array.mem_iff_getElem.mp hy
    have h1:items.toList[j]? = some y:=by simp [<-e,hj]
    have h2:j<(xs.map V.bool:List (V N)).length:=by rw [<-hv.1];simpa using hj
    have h3:=hv.2 j _ y (List.getElem?_eq_getElem h2) h1
    simp only [List.getElem_map] at h3
    cases h3
    exact Ba1 _ _
   ·have e:items.any (λy=>match y with | .bool b=>b==i | _=>false)=xs.contains i:=by
     rw [<-Array.any_toList];exact Dg4 hv i
    rw [e];exact hq
  | _=>exact hw.elim
 | _=>cases vb <;> exact hw.elim
theorem se_isIn (a b:E) (iha:SE prog w X' d K a) (ihb:SE prog w X' d K b):SE prog w X' d K (N:=N) (.isIn a b):=by
 intro x A env ι l H s Q hm hA F S hw
 exists Q0 (Ci3 hm) λlf r p B3=>B7 B3 λC' M5=>B5 ?_
 subst C'
 refine bn3 M5 λha hb hbm=>?_
 clear M5
 try replace ha:=eq_of_beq ha
 try replace hb:=eq_of_beq hb
 try replace hbm:=eq_of_beq hbm
 refine wpAny_Compare1 (P8 iha ha hA F S hw λva X8 aa0 X7 Z9 Z7 Z8 ra va' X9=>P8 ihb hb hA (F.step Z7) Z8 X9 λvb aa4 aa8 Z6 aa5 aa1 aa2 rb vb' aa3=>?_) hbm
 exact J1 Z9 (J1 aa5 (Ab7 (va'.step aa1) vb' aa2 aa3 λr q=>C4 aa2 ⟨_,.bool _,q⟩))
theorem se_ite (c:C) (a b:E) (ihc:SC prog w X' d K c) (iha:SE prog w X' d K a) (ihb:SE prog w X' d K b):SE prog w X' d K (N:=N) (.ite c a b):=by
 intro x A env ι l H s Q hm hA F S hw
 exists R6 (mE_ite hm) λt u v p B3=>B7 B3 λC' M5=>B5 ?_
 subst C'
 refine bn3 M5 λhc ha hb=>?_
 clear M5
 refine wpAny_IfExp (seqP (ihc _ _ _ _ _ _ _ _ hc hA F S hw) λt X8 aa0 X7 Z9 Z7 Z8 X9=>?_)
 have aa7:(if t=true then O0 K a l Q aa0 else O0 K b l Q aa0):=X9
 cases t with
 | true=>exact J1 Z9 (iha _ _ _ _ _ _ _ _ ha hA (F.step Z7) Z8 aa7)
 | false=>exact J1 Z9 (ihb _ _ _ _ _ _ _ _ hb hA (F.step Z7) Z8 aa7)
theorem Dc6 (items:Array Value) {k:Int} (hk:0<=k):(slicePick items none (some k) none).toList=items.toList.take k.toNat:=by
 have e:sliceBounds none (some k) none items.size=(((0:Nat):Int),((min k.toNat items.size:Nat):Int),1):=by
  simp only [sliceBounds,Option.getD_none,show (1:Int)>0 by decide,if_true,if_neg (show ¬(k<0) by exact o14 hk)]
  congr 1
  congr 1
  exact o28
 rw [kmk_pick_nat _ e,List.drop_zero,Nat.sub_zero]
 show (items.toList.take (min k.toNat items.size))=_
 rw [<-Array.length_toList,kmk_take_min]
theorem Di5 (a b:E) (iha:SE prog w X' d K a) (ihb:SE prog w X' d K b):SE prog w X' d K (N:=N) (.slice a b):=by
 intro x A env ι l H s Q hm hA F S hw
 exists R6 (Ea8 hm) λv hi q p B3=>B7 B3 λC' M5=>B5 ?_
 subst C'
 refine bn2 M5 λha hb=>?_
 clear M5
 refine Subscript_ (P8 iha ha hA F S hw λva X8 aa0 X7 Z9 Z7 Z8 ra va' X9=>wpAny_Slice (wpAny_pure (P8 ihb hb hA (F.step Z7) Z8 X9 λvb aa4 aa8 Z6 aa5 aa1 aa2 rb vb' aa3=>wpAny_pure ?_)))
 refine byc λB5=>Q0 aa3 λn xs k B3=>B7 B3 λC' C5=>?_
 clear B3 aa3
 subst C'
 refine B7 C5 λU5 N1=>?_
 clear C5
 subst U5
 refine R7 N1 λhn h0 hlen r4_=>C1 r4_ λm r5_=>B7 r5_ λhmn hq=>B5 ?_
 clear N1 r4_ r5_ B5
 refine C1 (M4 vb') λt C'=>?_
 subst C'
 exists C1 ((va'.step aa1).refInv) λp' B3=>B7 B3 λC' hi'=>B5 ?_
 subst C'
 have hl:∃items:Array Value,Z6.heap.IsList p'.1 items/\VRs X' aa4 Z6.heap xs items.toList:=by
  rcases hn with hn | hn
  ·obtain ⟨_,_,items,z1,z2⟩:=aa2.listAt hn hi';exact ⟨items,z1.isList,z2⟩
  ·obtain ⟨_,_,items,z1,z2⟩:=aa2.at hn hi';exact ⟨items,z1,z2⟩
 obtain ⟨items,hl,hv⟩:=hl
 have hk1:∀b ob,Z6.heap.get? b=some ob->(Z6.heap.push {cls:=.type "slice",data:=.fields #[.none,.int k t,.none]}).get? b=some ob:=G5
 have hk2:∀b ob,Z6.heap.get? b=some ob->((Z6.heap.push {cls:=.type "slice",data:=.fields #[.none,.int k t,.none]}).push {cls:=.type "list",data:=.seq (slicePick items none (some k) none)}).get? b=some ob:=
  λb ob e=>Heap.get?_push_of_some _ (hk1 b ob e)
 have hs2:Z6.heap.objs.size<=((Z6.heap.push {cls:=.type "slice",data:=.fields #[.none,.int k t,.none]}).push {cls:=.type "list",data:=.seq (slicePick items none (some k) none)}).objs.size:=by
  rw [Heap.size_push,Heap.size_push];exact o29
 refine J1 Z9 (J1 aa5 (tail_any (hl.push _).typeIs slot_list_getitem.lookup (wpAny_getItem_list_slice (hl.push _) (Heap.IsSliceOf.new _ _ _ _) .none (.int k t) .none (by decide) ?_ (by rw [hv.size,sizeLine_eq];exact o18 hlen (by decide))) rfl))
 refine V3 aa2 hmn (a:=(Z6.heap.push {cls:=.type "slice",data:=.fields #[.none,.int k t,.none]}).objs.size) (by rw [Heap.size_push];exact o30) hk2 (j4 _) ?_ hq hs2 (tk:=Z6.toks)
 rw [Dc6 _ h0]
 exact hv.take _
theorem se_cat1 (a b:E) (iha:SE prog w X' d K a) (ihb:SE prog w X' d K b):SE prog w X' d K (N:=N) (.cat1 a b):=by
 intro x A env ι l H s Q hm hA F S hw
 exists R6 (mE_cat1 hm) λe q r p B3=>B7 B3 λC' M5=>B5 ?_
 subst C'
 refine bn2 M5 λha hb=>?_
 clear M5
 refine wpAny_BinOp (Cb4 (v8 ha) (P8 iha ha hA F S hw λva X8 aa0 X7 Z9 Z7 Z8 ra va' X9=>?_))
 have hk1:∀b ob,X7.heap.get? b=some ob->(X7.heap.push {cls:=.type "list",data:=.seq #[va]}).get? b=some ob:=G5
 have Y1:Stp X' U8 X8 X8 X7.heap (X7.heap.push {cls:=.type "list",data:=.seq #[va]}):=Stp.of_ext hk1 E7
 have S1':=Z8.more hk1 E7
 have F1':=(F.step Z7).step Y1
 have L1':W9 prog w X' U8 X8 X8 X7 {X7 with heap:=X7.heap.push {cls:=.type "list",data:=.seq #[va]}}:=λβ R c Z6 q=>q.lift (t1:=X7.toks) rfl Y1
 refine P8 ihb hb hA F1' S1' X9 λvb aa4 aa8 Z6 aa5 aa1 aa2 rb vb' q_=>?_
 exists J8 q_ λn xs B3=>R7 B3 λhr hn hlen C5=>C1 C5 λm N1=>B7 N1 λhmn hq=>B5 ?_
 clear C5 N1 q_
 subst hr
 exists C1 vb'.refInv λp' B3=>B7 B3 λC' hi'=>B5 ?_
 subst C'
 exists E6 (aa2.listAt hn hi') λ_ _ B3=>C1 B3 λitems C5=>B7 C5 λC' hv=>B5 ?_
 clear C5
 refine C1 C' λc hl=>?_
 clear C'
 have hg:Z6.heap.get? X7.heap.objs.size=some {cls:=.type "list",data:=.seq #[va]}:=by
  refine aa1.keep _ _ ?_ (.inl λz=>z) (Heap.get?_push_size _ rfl)
  intro q_
  exists B7 q_ λhb B3=>J8 B3 λn' p' C5=>B7 C5 λe hp=>B5 ?_
  clear C5 q_
  refine B7 (Z8.liv n' p' e) λC' U5=>?_
  refine C1 C' λo g=>?_
  clear C'
  refine C1 U5 λo' g'=>?_
  clear U5
  rcases hp with hp | hp
  ·exact Nat.lt_irrefl _ (hp▸Heap.lt_size g)
  ·exact Nat.lt_irrefl _ (hp▸Heap.lt_size g')
 refine J1 Z9 (J1 L1' (J1 aa5 (P.add_list hg hl (V3 aa2 hmn (Nat.le_refl _) G5 (j4 _) ?_ hq E7 (tk:=Z6.toks)) (by rw [hv.size,sizeLine_eq];simp;exact o31 hlen (by decide)))))
 rw [Array.toList_append]
 exact VRs.cons ((va'.step Y1).step aa1) hv
theorem Db2 (hA:AOk d A) (a:Addr) (rest:List Value):AOkC d (A.under (.builtin "type.__call__" ⟨.ref a::rest,[]⟩)):=by
 have h1:(Code.builtin "type.__call__" ⟨.ref a::rest,[]⟩).weight<=2:=Nat.le_of_ble_eq_true (by kernel_rfl)
 have h2:(Code.builtin "type.__call__" ⟨.ref a::rest,[]⟩).cUnits<=20:=Nat.le_of_ble_eq_true (by kernel_rfl)
 refine ⟨hA.hd,?_,?_⟩
 ·have:=hA.depth;show A.depth+_+3*d+3<=_;exact o36 this h1
 ·have:=hA.units;show A.units+_+40*d+60<=_;exact o37 this h2
end
section make
variable {prog:Program} {w:World} {A:Around} {E':Value->Shared->Prop} {h:Heap} {g:Array GenState} {d:Drawn} {t:Nat} {os:OsState}
variable {nm q:Str} {C Nn:Addr} {bs:List Value} {sn:List Str} {sub:List Value} {col:Option Bool} {dd:Option Addr} {k0 k1 k2 k3 k5:Option Value} {newId:String}
abbrev N8 (h:Heap) (C:Addr):Heap:=(h.push {cls:=.type "dict",data:=.dict #[]}).push {cls:=.ref C,dict:=some h.objs.size,data:=.plain}
theorem Dd5 (FF:ObjNewFacts newId) {mN:Str->Option Value} {rest:List Value} {fI:Addr} {oI:Obj} {Q:PySem.Fin->Shared->Prop}
  (hC:h.get? C=some (excClassObj nm q C Nn bs [.type "object"] true sn sub false col dd k0 k1 k2 k3 k5 newId)) (hn:h.Ns Nn mN) (hi:mN "__init__"=some (.ref fI))
  (hfI:h.get? fI=some oI) (hfc:oI.cls = .type "function")
  (hq:wpAny (model prog w) A (call (.ref fI) (.ref (h.objs.size+1)::rest)) (λr s'=>r = .none/\Q (.done (.ret (.ref (h.objs.size+1)))) s') E' ⟨N8 h C,g,d,t,os⟩):
  wpAny (model prog w) A (Builtin.«type.__call__» ⟨.ref C::rest,[]⟩) Q E' ⟨h,g,d,t,os⟩:=by
 have hmro:mroOf (.type "object")=pure [.type "object"]:=by kernel_rfl
 have hlk:typeLookup (.type "object") "__init__"=pure (some (.builtin "object.__init__")):=by rw [typeLookup_type,builtinLookup_eq_fast];kernel_rfl
 repeat (first | with_reducible refine wpAny_loadPart_at hC ?_ | with_reducible refine wpAny_madeBy_exc hC ?_ | wp_step)
 refine codeAny_call_builtin_code (Code.quiet_builtin _ FF.quiet) (wpAny_check_obj_new FF hC ?_)
 refine codeAny_obj_new FF hC hn hi ?_
 show wpAny _ _ _ _ _ _
 have up:∀b o,h.get? b=some o->(N8 h C).get? b=some o:=λb o e=>Heap.get?_push_of_some _ (Heap.get?_push_of_some _ e)
 have hget:(N8 h C).get? (h.objs.size+1)=some {cls:=.ref C,dict:=some h.objs.size,data:=.plain}:=by
  have:=Heap.get?_push_size (h.push {cls:=.type "dict",data:=.dict #[]}) (o:={cls:=.ref C,dict:=some h.objs.size,data:=.plain}) rfl
  rw [Heap.size_push] at this;exact this
 have hcC:(Value.ref C::[Value.type "object"]).contains (.ref C)=true:=by simp
 unfold isInstance
 repeat (first | with_reducible refine wpAny_loadPart_at hget ?_ | (with_reducible refine wpAny_isSubtype_exc (up _ _ hC) ?_;rw [hcC]) | wp_step)
 show wpAny _ _ (typeLookup (.ref C) _) _ _ _
 refine wpAny_typeLookup_exc (up _ _ hC) (hn.keeps up) hmro hlk ?_
 rw [hi]
 refine wpAny_holding (wpAny_bind ?_)
 unfold bindSpecial
 refine wpAny_bind (wpAny_typeOf (T:="function") ⟨_,up _ _ hfI,hfc⟩ ?_)
 rw [if_pos (by decide)]
 refine wpAny_pure (wpAny_bind (wpAny_mono hq (λr s' hr=>?_) λ_ _ x=>x))
 refine B7 hr λC' hQ=>?_
 clear hr
 subst C'
 wp_walk
 exact hQ
theorem Dd6 (FF:ObjNewFacts newId) {mN:Str->Option Value} {rest:List Value} {fI:Addr} {oI:Obj} {Q:Value->Shared->Prop}
  (hC:h.get? C=some (excClassObj nm q C Nn bs [.type "object"] true sn sub false col dd k0 k1 k2 k3 k5 newId)) (hn:h.Ns Nn mN) (hi:mN "__init__"=some (.ref fI))
  (hfI:h.get? fI=some oI) (hfc:oI.cls = .type "function")
  (hq:wpAny (model prog w) (A.under (.builtin "type.__call__" ⟨.ref C::rest,[]⟩)) (call (.ref fI) (.ref (h.objs.size+1)::rest)) (λr s'=>r = .none/\Q (.ref (h.objs.size+1)) s') E' ⟨N8 h C,g,d,t,os⟩):
  wpAny (model prog w) A (call (.ref C) rest) Q E' ⟨h,g,d,t,os⟩:=by
 have f1:=tc_lookup
 have f2:=tc_bind (.ref C)
 have hT:(⟨h,g,d,t,os⟩:Shared).TypeIs (.ref C) "type":=⟨_,hC,rfl⟩
 refine wpAny_call (codeAny_of_tree ?_)
 show wpAny _ _ (callAny (.ref C) _) _ _ _
 repeat (any_goals (first | assumption | with_reducible refine wpAny_loadPart_at hC ?_ | wp_step))
 refine ⟨rfl,?_⟩
 exact codeAny_call_builtin_at (Code.quiet_builtin _ (by decide +kernel)) entry_typeCall (wpAny_check_type_call_sub hC (Dd5 FF hC hn hi hfI hfc hq))
theorem Aj9 {sc:Scope} {es:Es} {as:List Expr} (hm:z6 sc es as=true) {env:Env} {s:Shared} {pos:Pos} {Q:Value->Shared->Prop}
  (hh:wpAny (model prog w) A (spliced (backTo pos (starEach as env))) (λvs X7=>X7.heap.get? C=some (excClassObj nm q C Nn bs [.type "object"] true sn sub false col dd k0 k1 k2 k3 k5 newId)/\wpAny (model prog w) A (call (.ref C) vs) Q E' X7) E' s):
  wpAny (model prog w) A (callWith pos (.ref C) [] (backTo pos (starEach as env)) []) Q E' s:=by
 have hst:((backTo pos (starEach as env)).any (λx=>x.fst)||([]:List (Option Str×Sem Value)).any λx=>x.fst.isNone)=false:=by
  rw [(Ag6 hm pos env).1];rfl
 unfold callWith
 refine wpAny_bind (wpAny_holding (R4 hm (wpAny_mono hh (λvs X7 aa6=>?_) λ_ _ x=>x)))
 obtain ⟨hh,g,d,t,os⟩:=X7
 refine B7 aa6 λhC ab4=>?_
 clear aa6
 have f1:=tc_lookup
 have hT:(⟨hh,g,d,t,os⟩:Shared).TypeIs (.ref C) "type":=⟨_,hC,rfl⟩
 refine wpAny_bind (wpAny_standAt ?_)
 show wpAny _ _ (keeperOf (.ref C)>>=_) _ _ _
 unfold keeperOf specialOf
 repeat (any_goals (first | assumption | with_reducible refine wpAny_loadPart_at hC ?_ | with_reducible refine wpAny_load' hC ?_ | wp_step))
 rw [if_pos (by rfl),hst]
 show wpAny _ _ (call (.ref C) vs []>>=λr=>do holding [r] point;pure r) _ _ _
 exact wpAny_bind (wpAny_mono ab4 (λr s' hr=>wpAny_bind (wpAny_holding (wpAny_point (wpAny_pure hr)))) λ_ _ x=>x)
end make
section
variable {N:Type} [DecidableEq N]
variable {X':Heap} {X Y:Addr->Prop} {ι ι' X8:Nm N} {h h' aa6:Heap} {prog:Program} {w:World} {H:Hp N} {s:Shared} {α β:Type} {A:Around} {env:Env} {l:Lc N} {d:Nat} {K:Calls N}
theorem Kl.init_str (k:Kl):k.init.str=("__init__":Str):=by cases k <;> rfl
theorem Kl.init_kl (k:Kl):k.init.kl=some k:=by cases k <;> rfl
theorem Cf5 {v:V N} {u:Value} (x:VR X' ι h v u) (hv:v.isNone=true):u = .none:=by
 cases x <;> first | rfl | cases hv
theorem se_new (B:Bs X') (hK:SF prog w X' d K) (k:Kl) (args:Es) (iha:SEs prog w X' d K args):SE prog w X' d K (N:=N) (.new k args):=by
 intro x A env ι l H s Q hm hA F S hw
 exists R6 (mE_new hm) λn q0 as pos B3=>B7 B3 λC' M5=>B5 ?_
 subst C'
 refine bn3 M5 λb0_ hg hs=>?_
 clear M5
 rcases eq_of_beq b0_ with rfl
 try replace hg:=eq_of_beq hg
 try replace hs:=eq_of_beq hs
 have ab1:=B.keeps S.keep
 exists J8 ab1.glob λmg mb B3=>un5 B3 λhG hb _ hkl _=>B5 ?_
 exists ux14 (B.cls k) λnm q bs sn sub col dd k0 k1 k2 k3 k5 newId mN B3=>un8 B3 λFF hC0 hN hmm hat hga hgt _=>B5 ?_
 refine wpAny_Call_Name_kw (Name_function_global F.kind (Ec7 hg) (loadGlobal_global (mg:=mg) (by rw [F.glob];exact hG) (hkl k) ?_) (by cases k <;> kernel_rfl))
 refine Aj9 (C:=k.addr) hs (Af3 (pos:=pos) iha hs hA F S hw λws aa4 aa8 Z6 aa5 aa1 aa2 rs vr q_=>⟨aa2.keep _ _ hC0,?_⟩)
 exists C1 q_ λm B3=>B7 B3 λhmn aa3=>B5 ?_
 clear q_
 have ae8:=B.keeps aa2.keep
 exists Q0 (ae8.fn k.init) λof fd body B3=>R7 B3 λf1 f2 f3 _=>B5 ?_
 have hi:mN "__init__"=some (.ref k.init.addr):=by rw [<-k.init_str];exact hmm _ k.init_kl
 refine J1 aa5 (Dd6 FF (aa2.keep _ _ hC0) (hN.keeps aa2.keep) hi f1 f2 ?_)
 have up:∀b o,Z6.heap.get? b=some o->(N8 Z6.heap k.addr).get? b=some o:=λb o e=>Heap.get?_push_of_some _ (Heap.get?_push_of_some _ e)
 have hsz:Z6.heap.objs.size<=(N8 Z6.heap k.addr).objs.size:=by rw [Heap.size_push,Heap.size_push];exact o29
 have hget:(N8 Z6.heap k.addr).get? (Z6.heap.objs.size+1)=some {cls:=.ref k.addr,dict:=some Z6.heap.objs.size,data:=.plain}:=by
  have:=Heap.get?_push_size (Z6.heap.push {cls:=.type "dict",data:=.dict #[]}) (o:={cls:=.ref k.addr,dict:=some Z6.heap.objs.size,data:=.plain}) rfl
  rw [Heap.size_push] at this;exact this
 have hgd:(N8 Z6.heap k.addr).get? Z6.heap.objs.size=some {cls:=.type "dict",data:=.dict #[]}:=Heap.get?_push_of_some _ (Heap.get?_push_size _ rfl)
 have hp:Z6.heap.objs.size<=(Z6.heap.objs.size+1,Z6.heap.objs.size).1/\Z6.heap.objs.size<=(Z6.heap.objs.size+1,Z6.heap.objs.size).2:=⟨Nat.le_succ _,Nat.le_refl _⟩
 have Y:=aa2.newStp (X:=U8) hmn up hsz hp
 have ac6:St prog w X' (aa4.set m (Z6.heap.objs.size+1,Z6.heap.objs.size)) (aa8.set m (.inst k λ_=>none)) (N8 Z6.heap k.addr):=by
  refine aa2.new hmn up hsz hp ⟨⟨_,hget⟩,⟨_,hgd⟩⟩ ⟨Nat.le_trans aa2.size hp.1,Nat.le_trans aa2.size hp.2,_,λ_=>none,hget,rfl,λc=>by simp,rfl,?_,?_,?_,?_⟩
  ·exact Nat.ne_of_lt (Nat.lt_succ_self _)
  ·exact Heap.Ns1.of_empty ⟨_,#[],_,hgd,rfl,λe he=>absurd he (by simp),λ_=>rfl⟩
  ·intro a v e;cases e
  ·intro y hy;exact absurd rfl hy
 have ad6:W9 prog w X' U8 aa4 (aa4.set m (Z6.heap.objs.size+1,Z6.heap.objs.size)) Z6 {Z6 with heap:=N8 Z6.heap k.addr}:=λβ R c s' q=>q.lift (t1:=Z6.toks) rfl Y
 have hr:VR X' (aa4.set m (Z6.heap.objs.size+1,Z6.heap.objs.size)) (N8 Z6.heap k.addr) (.ref m) (.ref (Z6.heap.objs.size+1)):=VR.newRef (p:=(Z6.heap.objs.size+1,Z6.heap.objs.size))
 refine wpAny_mono (hK k.init _ _ _ {Z6 with heap:=N8 Z6.heap k.addr} _ (.ref (Z6.heap.objs.size+1)::ws) _ (Db2 hA _ _) ac6 (VRs.cons hr (vr.step Y)) aa3) (λr s' q=>?_) λ_ _ z=>z
 refine byc λB5=>R6 q λh' tk ι' H' B3=>B7 B3 λC' C5=>?_
 clear B3 q
 subst C'
 refine E6 C5 λa b N1=>C1 N1 λrv r4_=>E6 r4_ λc hno hq=>B5 ?_
 clear C5 N1 r4_ B5
 refine ⟨Cf5 c hno,ad6 _ _ _ _ ⟨h',tk,ι',H',rfl,a,b,.ref m,?_,hq⟩⟩
 exact hr.step a
theorem Db9 {a b:List Int} (hp:a.Perm b) (ha:a.Pairwise (· <= ·)):a=b.mergeSort:=by
 refine ksm_same (hp.trans (List.mergeSort_perm b _).symm) ha ?_
 have h1:=List.pairwise_mergeSort (le:=λa b:Int=>decide (a<=b)) (λa b c h1 h2=>by simp at *;exact o38 h1 h2) (λa b=>by simp;exact o39) b
 exact h1.imp λz=>by simpa using z
theorem Bg3 {da:Addr} {kvs:List (Int×Value)} {Q:Value->Shared->Prop} {E':Value->Shared->Prop} (hh:A.handled=none) (lo:(da==sysModules)=false) (hd:s.heap.DictOf (intKind prog w) da kvs) (h64:kvs.length<64)
  (hq:∀(h':Heap) (tk:Nat) (a:Addr) (out:Array Value),s.heap.objs.size<=a->(∀b o,s.heap.get? b=some o->h'.get? b=some o)->h'.PlainList a out->IntsAre out.toList (kvs.map (·.1)).mergeSort ->
   Q (.ref a) {s with heap:=h',toks:=tk}):
  wpAny (model prog w) A (call (.builtin "sorted") [.ref da]) Q E' s:=by
 refine C1 hd.dictAt λep hat=>?_
 refine call_function_entry kind_sorted plain_sorted entry_sorted (args_sorted1 _) ?_
 unfold Builtin.«sorted»
 refine wpAny_bind (m:=checkCount "sorted" 1 1 _) (wpAny_pure ?_)
 refine wpAny_bind (N9 (kdu_collect (A:=A.in1) (kdl_dict (knd:=intKind prog w) (kvs:=kvs) (ep:=ep) lo) hh hat (by rw [sizeLine_eq];exact o18 h64 (by decide)) λh' tk acc hk hacc=>λhs=>?_))
 have hl:acc.toList.length=kvs.length:=by rw [Array.length_toList];exact hacc.1
 have hI:IntsAre acc.toList (kvs.map (·.1)):=by
  have key:∀(vs:List Value) (ks:List (Int×Value)),vs.length=ks.length->(∀(j:Nat) (v:Value),vs[j]? = some v->∃k x,ks[j]? = some (k,x)/\(intKind prog w).is k v=true)->IntsAre vs (ks.map (·.1)):=by
   intro vs
   induction vs with
   | nil=>intro ks hl _;cases ks with
    | nil=>exact .nil
    | cons=>simp at hl
   | cons v vs ih=>
    intro ks hl hv
    cases ks with
    | nil=>simp at hl
    | cons k ks=>
     exists J8 (hv 0 v rfl) λk' x B3=>B7 B3 λe hk=>B5 ?_
     simp at e;subst e
     refine C1 (Value.isInt_shape hk) λt C'=>?_
     subst C'
     exact .cons _ _ (ih ks (by simpa using hl) λj v e=>hv (j+1) v (by simpa using e))
  exact key _ _ hl λj v e=>hacc.2 j v (by rw [<-Array.getElem?_toList];exact e)
 refine wpAny_bind (wpAny_newList ?_ (by rw [hl,sizeLine_eq];exact o18 h64 (by decide)))
 have hoL:(h'.push (seqObj "list" acc.toList.toArray 0)).get? h'.objs.size=some (seqObj "list" acc.toList.toArray 0):=Heap.get?_push_size _ rfl
 refine wpAny_bind (wpAny_holding (wpAny_call_entry slot_list_sort ⟨_,hoL,rfl⟩ entry_list_sort (list_sort_tree hoL hI (by rw [hl];exact h64) λout ns' a1 a2 a3=>⟨_,rfl,?_⟩) (args_list_sort _)))
 refine wpAny_pure ⟨_,rfl,?_⟩
 refine C1 (sortedHeap_at (vs:=acc.toList) (out:=out) hoL) λe he=>?_
 refine hq _ tk h'.objs.size out hs (λb o hb=>?_) ⟨e,he⟩ ?_
 ·have hb':=hk b o hb
  exact (sortedHeap_old (Nat.ne_of_lt (Heap.lt_size hb')) (by rw [size_push'];exact Nat.lt_succ_of_lt (Heap.lt_size hb'))).trans (Heap.get?_push_of_some _ hb')
 ·rw [<-Db9 a2 a3];exact a1
theorem VRs.ofInts {us:List Value} {ns:List Int} (x:IntsAre us ns):VRs X' ι h (ns.map V.int) us:=by
 induction x with
 | nil=>exact VRs.nil
 | cons n t _ ih=>exact VRs.cons (.int _ _) ih
theorem Bf1 {pos:Pos} {a:Expr} {v:Value} {Q:Value->Shared->Prop} {E':Value->Shared->Prop} {M:Model} (hx:W2 a=true) (hv:(∃id,v = .builtin id)\/∃T,v = .type T)
  (hh:wpAny M A (eval a env) (λu X7=>wpAny M A (call v [u]) Q E' X7) E' s):wpAny M A (callWith pos v [] (backTo pos (starEach [a] env)) []) Q E' s:=by
 rw [O' hx]
 rcases hv with q_ | q_
 ·refine C1 q_ λid C'=>?_
  clear q_
  subst C'
  exact callWith_builtin rfl (evalArgs_plain (spliced_cons (wpAny_mono hh (λ_ _ aa6=>spliced_nil aa6) λ_ _ e=>e)))
 ·refine C1 q_ λT C'=>?_
  clear q_
  subst C'
  exact PyProof.Rows.callWith_type rfl (evalArgs_plain (spliced_cons (wpAny_mono hh (λ_ _ aa6=>spliced_nil aa6) λ_ _ e=>e)))
noncomputable def Bi.val:Bi->Value
 | .len=>.builtin "len" | .abs=>.builtin "abs" | .list=>.type "list" | .tuple=>.type "tuple" | .sorted=>.builtin "sorted" | .sum=>.builtin "sum"
theorem Bi.kind (b:Bi):(∃id,b.val = .builtin id)\/∃T,b.val = .type T:=by cases b <;> first | exact .inl ⟨_,rfl⟩ | exact .inr ⟨_,rfl⟩
theorem St.ext (S:St prog w X' ι H s.heap) (hk:∀b o,s.heap.get? b=some o->h'.get? b=some o) (hs:s.heap.objs.size<=h'.objs.size) {R:α->Nm N->Hp N->Heap->Prop} {v:α} {tk:Nat} (r:R v ι H h'):
 Pst prog w X' X ι s R v {s with heap:=h',toks:=tk}:=⟨h',tk,ι,H,rfl,Stp.of_ext hk hs,S.more hk hs,r⟩
theorem bi_leaf (hA:AOk d A) (hb:2<=X'.objs.size) (S:St prog w X' ι H s.heap) (b:Bi) {va:V N} {u:Value} (ha:VR X' ι s.heap va u) {Q:V N->Hp N->Prop} (hw:biOp b va Q H):
  wpAny (model prog w) A (call b.val [u]) (Pst prog w X' X ι s (Vof X' Q)) W' s:=by
 cases va with
 | int i=>
  refine C1 (M4 ha) λt C'=>?_
  subst C'
  cases b <;> first | exact hw.elim | skip
  refine call_abs_int λu tk=>I7 S ⟨.int i.natAbs,?_,hw⟩
  have e:(if i<0 then -i else i)=(i.natAbs:Int):=by split <;> (first | exact o40 ‹_› | exact o41 ‹_›)
  rw [e];exact .int _ _
 | ref n=>
  exists C1 ha.refInv λp B3=>B7 B3 λC' hp=>B5 ?_
  subst C'
  cases b with
  | len=>
   exists C1 hw λxs B3=>E6 B3 λhn hlen hq=>B5 ?_
   clear hw
   exists E6 (S.listAt hn hp) λ_ _ B3=>C1 B3 λitems C5=>B7 C5 λhl hv=>B5 ?_
   clear C5
   refine call_len_list hl.isList (by rw [hv.size];exact (Int.lt_trans (Int.ofNat_lt.mpr hlen) (by decide))) (I7 S ⟨_,?_,hq⟩)
   rw [hv.size];exact .int _ _
  | abs=>exact hw.elim
  | list=>
   exists C1 hw λxs B3=>E6 B3 λhn hlen C5=>C1 C5 λm N1=>B7 N1 λhmn hq=>B5 ?_
   clear C5 N1 hw
   exists E6 (S.listAt hn hp) λ_ _ B3=>C1 B3 λitems C5=>B7 C5 λC' hv=>B5 ?_
   clear C5
   refine C1 C' λc hl=>?_
   clear C'
   exact call_list_seq p.1 (.inl rfl) hl rfl rfl (λh' c' hk hg=>V3 S hmn (Nat.le_refl _) hk ⟨c',hg⟩ hv hq (tk:=s.toks) (Nat.le_of_lt (Heap.lt_size hg))) (by rw [hv.size,sizeLine_eq];exact o18 hlen (by decide))
  | tuple=>
   exists C1 hw λxs B3=>E6 B3 λhn hlen hq=>B5 ?_
   clear hw
   exists E6 (S.listAt hn hp) λ_ _ B3=>C1 B3 λitems C5=>B7 C5 λhl hv=>B5 ?_
   clear C5
   refine N9 (call_tuple_list hl.isList (λh' hk=>λhs=>?_) (by rw [hv.size,sizeLine_eq];exact o18 hlen (by decide)))
   have hk2:∀b o,s.heap.get? b=some o->(h'.push {cls:=.type "tuple",data:=.seq items}).get? b=some o:=λb o e=>Heap.get?_push_of_some _ (hk b o e)
   refine S.ext hk2 hs (tk:=s.toks) ⟨.tup xs,?_,hq⟩
   have Y:Stp X' X ι ι s.heap (h'.push {cls:=.type "tuple",data:=.seq items}):=Stp.of_ext hk2 hs
   refine .tup ⟨_,Heap.get?_push_size _ rfl,rfl,0,rfl⟩ ?_ hv.size λi v u e e'=>(hv.2 i v u e (by simpa using e')).step Y
   intro q_
   exists B7 q_ λhb B3=>J8 B3 λn' p' C5=>B7 C5 λe hp'=>B5 ?_
   clear C5 q_
   refine B7 (S.liv n' p' e) λC' U5=>?_
   refine C1 C' λo g=>?_
   clear C'
   refine C1 U5 λo' g'=>?_
   clear U5
   rcases hp' with hp' | hp'
   ·exact Nat.lt_irrefl _ (hp'▸Heap.lt_size (hk _ _ g))
   ·exact Nat.lt_irrefl _ (hp'▸Heap.lt_size (hk _ _ g'))
  | sorted=>
   exists J8 hw λes ep B3=>E6 B3 λhn hlen C5=>C1 C5 λm N1=>B7 N1 λhmn hq=>B5 ?_
   clear C5 N1 hw
   exists E6 (S.at hn hp) λb1 _ B3=>C1 B3 λkvs C5=>E6 C5 λhd hkeys hv=>B5 ?_
   clear C5
   have hd:=hd.dictOf
   have hl:kvs.length=es.length:=by have:=congrArg List.length hkeys;simpa using this
   refine N9 (Bg3 hA.hd (Ag5 (Nat.le_trans hb b1)) hd (o43 hl hlen (by decide)) λh' tk a out ha hk hpl hI=>λhs=>?_)
   rw [hkeys] at hI
   exact V3 S hmn ha hk hpl (VRs.ofInts hI) hq hs
  | sum=>
   exists C1 hw λxs B3=>B7 B3 λhn hq=>B5 ?_
   clear hw
   exists E6 (S.listAt hn hp) λ_ _ B3=>C1 B3 λitems C5=>B7 C5 λhl hv=>B5 ?_
   clear C5
   have hi:=hv.mapInt
   refine C1 ((hi.allInts).items) λys hys=>?_
   have hnum:xs=numsOf items.toList:=(hi.numsOf).symm
   have hit:items=intItems ys:=by
    simpa using hys
   subst hit
   refine N9 (sum_intListG hA.hd hl.isList λh' tk t' hk=>λhs=>S.ext hk hs ⟨.int xs.sum,?_,hq⟩)
   rw [preSum_eq,List.take_of_length_le (by simp),<-nums_intItems,<-hnum];exact .int _ _
 | tup vs=>
  cases b <;> first | exact hw.elim | skip
  refine B7 hw λhlen hq=>?_
  clear hw
  refine byc λB5=>J8 (t7 ha) λa items B3=>B7 B3 λC' C5=>?_
  clear B3
  subst C'
  refine E6 C5 λht ho hv=>B5 ?_
  clear C5 B5
  refine PyProof.Rows.len_tuple ht (by rw [hv.size];exact (Int.lt_trans (Int.ofNat_lt.mpr hlen) (by decide))) (I7 S ⟨_,?_,hq⟩)
  rw [hv.size];exact .int _ _
 | _=>cases b <;> exact hw.elim
theorem se_bi (hb:2<=X'.objs.size) (B:Bs X') (b:Bi) (a:E) (ih:SE prog w X' d K a):SE prog w X' d K (N:=N) (.bi b a):=by
 intro x A env ι l H s Q hm hA F S hw
 exists R6 (mE_bi hm) λn q0 ax pos B3=>B7 B3 λC' M5=>B5 ?_
 subst C'
 refine bn3 M5 λb0_ hg ha=>?_
 clear M5
 rcases eq_of_beq b0_ with rfl
 try replace hg:=eq_of_beq hg
 try replace ha:=eq_of_beq ha
 have ab1:=B.keeps S.keep
 exists J8 ab1.glob λmg mb B3=>un14 B3 λhG hB _ _ _ hmiss _ b1 b2 b3 b4 b5 b6 _=>B5 ?_
 have hval:mb b.str=some b.val:=by cases b <;> first | exact b1 | exact b2 | exact b3 | exact b4 | exact b5 | exact b6
 refine wpAny_Call_Name_kw (Name_function_global F.kind (Ec7 hg) (loadGlobal_builtin (mg:=mg) (mb:=mb) (by rw [F.glob];exact hG) (hmiss b) (by rw [F.blt];exact hB) hval ?_) (by cases b <;> kernel_rfl))
 exact Bf1 (v8 ha) b.kind (P8 ih ha hA F S hw λva X8 aa0 X7 Z9 Z7 Z8 ra va' X9=>J1 Z9 (bi_leaf hA hb Z8 b va' X9))
noncomputable def Bm.id:Bm->String
 | .append=>"list.append" | .pop=>"list.pop" | .index=>"list.index" | .get=>"dict.get" | .bitlen=>"int.bit_length"
theorem Dd4? {xs:List Int} {a:Int} {i:Nat} (e:xs.idxOf? a=some i):a∈xs/\xs.idxOf a=i:=by
 induction xs generalizing i with
 | nil=>simp at e
 | cons x xs ih=>
  rw [List.idxOf?_cons] at e
  by_cases hx:(x==a)=true
  ·rw [if_pos hx] at e;cases e
   have:x=a:=by simpa using hx
   subst this;exact ⟨by simp,by simp⟩
  ·rw [if_neg hx] at e
   cases e':xs.idxOf? a with
   | none=>rw [e'] at e;cases e
   | some j=>
    rw [e'] at e;cases e
    refine B7 (ih e') λh1 h2=>?_
    refine ⟨List.mem_cons_of_mem _ h1,?_⟩
    rw [List.idxOf_cons]
    have:(x==a)=false:=by simpa using hx
    rw [this,h2];rfl
theorem Aj6 {ks:List Int} {vs:List Value} (x:IntsAre vs ks):ItemsAre (intKind prog w) ks vs:=by
 induction x with
 | nil=>exact .nil
 | cons n t _ ih=>exact .cons (by simp [intKind,Value.isInt]) ih
theorem Ah3 {ks:List Int} {u:Value} (x:VR X' ι s.heap (.tup (ks.map V.int)) u):∃a,u = .ref a/\¬q7 X' ι a/\(tupleKind (intKind prog w)).is s.heap ks a:=by
 refine byc λB5=>J8 (t7 x) λa items B3=>B7 B3 λC' C5=>?_
 clear B3
 subst C'
 refine E6 C5 λU5 ho hv=>B5 ?_
 clear C5 B5
 exists C1 U5 λo B3=>E6 B3 λg hc C5=>C1 C5 λn hd=>B5 ?_
 clear C5 U5
 exact ⟨a,rfl,ho,o,items,n,g,hc,hd,Aj6 hv.mapInt⟩
theorem Bh6 {xs:List (List Int×Addr×Value)} {es:List (List Int×V N)} (hk:xs.map (·.1)=es.map (·.1)) (hv:VRs X' ι h (es.map (·.2)) (xs.map (·.2.2))) {k:List Int} {v:V N} {u:Value}
  (hvu:VR X' ι h v u):VR X' ι h ((es.lookup k).getD v) (((atKey xs k).map (·.2)).getD u):=by
 induction es generalizing xs with
 | nil=>cases xs with
  | nil=>exact hvu
  | cons=>simp at hk
 | cons e es ih=>
  cases xs with
  | nil=>simp at hk
  | cons q xs=>
   obtain ⟨k1,v1⟩:=e
   obtain ⟨k2,v2⟩:=q
   simp only [List.map_cons,List.cons.injEq] at hk
   refine B7 hk ?_
   clear hk
   intro C' hk
   subst C'
   refine B7 (VRs.tail hv) λr1 r2=>?_
   simp only [List.lookup_cons]
   unfold atKey
   simp only [List.find?_cons]
   by_cases hkk:k=k2
   ·subst hkk;simpa using r1
   ·have h1:(k==k2)=false:=by simpa using hkk
    have h2:decide (k2=k)=false:=by simpa using λz=>hkk z.symm
    rw [h1,h2]
    exact ih hk r2
theorem VRs.pop {xs:List (V N)} {v:V N} {us:List Value} (x:VRs X' ι h (xs++[v]) us):∃p y,us=p++[y]/\VRs X' ι h xs p/\VR X' ι h v y:=by
 refine B7 x λhl hv=>?_
 clear x
 rcases List.eq_nil_or_concat us with rfl | q_
 ·simp at hl
 ·refine J8 q_ λp y C'=>?_
  clear q_
  subst C'
  have hl':p.length=xs.length:=by simpa using hl
  refine ⟨p,y,by simp,⟨hl',λi a b e e'=>?_⟩,?_⟩
  ·have hi:=(List.getElem?_eq_some_iff.mp e).1
   refine hv i a b ?_ ?_
   ·rw [List.getElem?_append_left hi];exact e
   ·rw [List.concat_eq_append,List.getElem?_append_left (o44 hi hl')];exact e'
  ·refine hv xs.length v y (by simp) ?_
   rw [List.concat_eq_append,<-hl'];simp
theorem Di9 {la:Addr} {p:List Value} {y:Value} {Q:Value->Shared->Prop} {E':Value->Shared->Prop} (hl:s.heap.PlainList la (p++[y]).toArray) (hz:(p++[y]).length<=sizeLine)
  (h:∀h',h'.PlainList la p.toArray->Heap.SameBut la s.heap h'->Q y {s with heap:=h'}):wpAny (model prog w) A (call (.builtin "list.pop") [.ref la]) Q E' s:=by
 refine C1 hl λn z=>?_
 clear hl
 have hz':(p++[y]).toArray.size<=sizeLine:=by rw [List.size_toArray];exact hz
 have hk:(p++[y]).toArray.size-1=p.length:=by rw [List.size_toArray,List.length_append];rfl
 have hy:(p++[y]).toArray[(p++[y]).toArray.size-1]? = some y:=by rw [hk];simp
 have he:(p++[y]).toArray.eraseIdxIfInBounds ((p++[y]).toArray.size-1)=p.toArray:=by
  rw [hk,kl_erase,List.append_nil]
 refine call_meets PySem.F.slot_list_pop ⟨_,z,rfl⟩ PySem.F.entry_list_pop (PySem.F.args_list_pop_1 _) (PySem.MeetsSeq.list_pop_last la _ n y hy hz') ⟨z,h _ ⟨n+1,?_⟩ (Heap.SameBut.update ..)⟩
 have q:=PySem.IsL.update z (λxs=>xs.eraseIdxIfInBounds ((p++[y]).toArray.size-1))
 rw [he,if_neg (by rw [List.size_toArray,List.size_toArray,List.length_append];simp)] at q
 exact q
theorem Cf6 {la:Addr} {items:Array Value} {ns:List Int} {k:Int} {t:Tok} {Q:Value->Shared->Prop} {E':Value->Shared->Prop} (hl:s.heap.PlainList la items) (hi:IntsAre items.toList ns)
  (hlen:ns.length<1000000) (hk:k∈ns) (h:Q (.int (ns.idxOf k:Nat) s.toks) {s with toks:=s.toks+1}):
  wpAny (model prog w) A (call (.builtin "list.index") [.ref la,.int k t]) Q E' s:=by
 refine C1 hl λn ho=>?_
 clear hl
 have hlen':=hi.length
 rw [Array.length_toList] at hlen'
 have hj:ns.idxOf k<ns.length:=List.idxOf_lt_length_iff.mpr hk
 refine call_meets PySem.F.slot_list_index ⟨_,ho,rfl⟩ PySem.F.entry_list_index (PySem.F.args_list_index_2 _ _)
  (PySem.MeetsSeq.list_index la items n (.int k t) (isInt k) (λy hy=>eq_isInt k t hi y (by simpa using hy)) (ns.idxOf k) (o44 hj hlen') (Int.lt_trans (Int.ofNat_lt.mpr (Nat.lt_trans hj hlen)) (by decide)) ?_ ?_) ⟨ho,h⟩
 ·have h1:=isInt_at k hi (ns.idxOf k) (by rw [Array.length_toList];exact o44 hj hlen') hj
  rw [Array.getElem_toList] at h1
  rw [h1]
  simpa using List.getElem_idxOf hj
 ·intro j hjs hlt
  have h1:=isInt_at k hi j (by rw [Array.length_toList];exact o8 hjs) (o46 hjs hlen')
  rw [Array.getElem_toList] at h1
  rw [h1]
  exact ne_of_lt_idxOf hlt _
theorem bm_get (S:St prog w X' ι H s.heap) (m:Bm) {ra:V N} {va:Value} (hr:VR X' ι s.heap ra va) (hw:bmPre m ra H) {pl:Sem Bool} {Q:Value×List Value->Shared->Prop} {E':Value->Shared->Prop}
  (hq:Q (.builtin m.id,[va]) s):wpAny (model prog w) A (getMethod va m.str pl) Q E' s:=by
 have lst:∀n xs,ra = .ref n->H n=some (.list xs)->∃a items,va = .ref a/\s.heap.PlainList a items:=by
  rintro n xs rfl hn
  exists C1 hr.refInv λp B3=>B7 B3 λC' hp=>B5 ?_
  subst C'
  exists E6 (S.listAt hn hp) λ_ _ B3=>C1 B3 λitems C5=>B7 C5 λhl hv=>B5 ?_
  clear C5
  exact ⟨_,_,rfl,hl⟩
 cases ra with
 | int i=>
  cases m <;> first | exact hw.elim | skip
  refine C1 (M4 hr) λt C'=>?_
  subst C'
  exact getMethod_int_bit_length hq
 | ref n=>
  cases m with
  | append=>
   refine C1 hw λxs hn=>?_
   clear hw
   exists J8 (lst n xs rfl hn) λa items B3=>B7 B3 λC' hl=>B5 ?_
   subst C'
   exact getMethod_list_of PySem.F.slot_list_append PySem.F.type_list_append hl.isList ⟨_,hl.choose_spec,rfl⟩ hq
  | pop=>
   refine C1 hw λxs hn=>?_
   clear hw
   exists J8 (lst n xs rfl hn) λa items B3=>B7 B3 λC' hl=>B5 ?_
   subst C'
   exact getMethod_list_of PySem.F.slot_list_pop PySem.F.type_list_pop hl.isList ⟨_,hl.choose_spec,rfl⟩ hq
  | index=>
   refine C1 hw λxs hn=>?_
   clear hw
   exists J8 (lst n xs rfl hn) λa items B3=>B7 B3 λC' hl=>B5 ?_
   subst C'
   exact getMethod_list_of PySem.F.slot_list_index PySem.F.type_list_index hl.isList ⟨_,hl.choose_spec,rfl⟩ hq
  | get=>
   refine C1 hw λes hn=>?_
   clear hw
   exists C1 hr.refInv λp B3=>B7 B3 λC' hp=>B5 ?_
   subst C'
   exists E6 (S.at hn hp) λ_ _ B3=>C1 B3 λxs C5=>B7 C5 λhd _=>B5 ?_
   clear C5
   exact getMethod_builtin hd.typeIs PySem.F.plainAttrs_dict PySem.F.slot_dict_get PySem.F.type_dict_get (λa e=>by cases e;obtain ⟨o,es,ep,g,hx,_⟩:=hd;exact ⟨o,g,hx.2.1⟩) hq
  | bitlen=>exact hw.elim
 | _=>exact (by cases m <;> exact hw.elim)
theorem bm_call (hA:AOk d A) (hb:2<=X'.objs.size) (S:St prog w X' ι H s.heap) (m:Bm) {ra:V N} {va:Value} {rs:List (V N)} {ws:List Value} (hr:VR X' ι s.heap ra va) (vr:VRs X' ι s.heap rs ws)
  {Q:V N->Hp N->Prop} (hw:bmOp m ra rs Q H):wpAny (model prog w) A (call (.builtin m.id) (va::ws)) (Pst prog w X' X ι s (Vof X' Q)) W' s:=by
 cases m with
 | append=>
  cases ra <;> first | exact hw.elim | skip
  rename_i n
  exists C1 hr.refInv λp B3=>B7 B3 λC' hp=>B5 ?_
  subst C'
  cases rs with
  | nil=>exact hw.elim
  | cons r rs1=>
   refine vr.consI λu us1 e1_ a1_ vr1=>?_
   subst e1_
   cases rs1 with
   | nil=>
    rcases vr1.nilI with rfl
    exists C1 hw λxs B3=>E6 B3 λhn hlen hq=>B5 ?_
    clear hw
    exists E6 (S.listAt hn hp) λ_ _ B3=>C1 B3 λitems C5=>B7 C5 λhl hv=>B5 ?_
    clear C5
    refine wpAny_list_append_plain hl (λh' hl' hsb=>?_) (by rw [hv.size,sizeLine_eq];exact o18 hlen (by decide))
    obtain ⟨S',Y⟩:=S.updList (X:=X) (ys:=xs++[r]) hn hp hsb hl' (by rw [Array.toList_push];exact hv.snoc (vr.2 0 r u rfl rfl))
    exact ⟨h',s.toks,ι,_,rfl,Y,S',.none,.none,hq⟩
   | cons=>exact hw.elim
 | pop=>
  cases ra <;> first | exact hw.elim | skip
  rename_i n
  exists C1 hr.refInv λp B3=>B7 B3 λC' hp=>B5 ?_
  subst C'
  cases rs with
  | nil=>
   rcases vr.nilI with rfl
   exists J8 hw λxs v B3=>E6 B3 λhn hlen hq=>B5 ?_
   clear hw
   exists E6 (S.listAt hn hp) λ_ _ B3=>C1 B3 λitems C5=>B7 C5 λhl hv=>B5 ?_
   clear C5
   exists J8 hv.pop λps y B3=>E6 B3 λe hps hy=>B5 ?_
   have hit:items=(ps++[y]).toArray:=by simpa using congrArg List.toArray e
   subst hit
   refine Di9 hl (by rw [List.length_append,hps.1,sizeLine_eq];simp;exact o18 hlen (by decide)) λh' hl' hsb=>?_
   refine B7 (S.updList (X:=X) (ys:=xs) hn hp hsb hl' (by simpa using hps)) λS' Y=>?_
   exact ⟨h',s.toks,ι,_,rfl,Y,S',v,hy.step Y,hq⟩
  | cons=>exact hw.elim
 | index=>
  cases ra <;> first | exact hw.elim | skip
  rename_i n
  exists C1 hr.refInv λp B3=>B7 B3 λC' hp=>B5 ?_
  subst C'
  cases rs with
  | nil=>exact hw.elim
  | cons w0 rs1=>
   refine vr.consI λu us1 e1_ a1_ vr1=>?_
   subst e1_
   cases w0 with
   | int a=>
    cases rs1 with
    | nil=>
     rcases vr1.nilI with rfl
     exists J8 hw λxs i B3=>R7 B3 λhn hlen hidx hq=>B5 ?_
     clear hw
     exists E6 (S.listAt hn hp) λ_ _ B3=>C1 B3 λitems C5=>B7 C5 λhl hv=>B5 ?_
     clear C5
     refine C1 (M4 (vr.2 0 _ u rfl rfl)) λt C'=>?_
     subst C'
     refine B7 (Dd4? hidx) λhmem hix=>?_
     exact Cf6 hl hv.mapInt (by simpa using hlen) hmem (I7 S ⟨_,by rw [hix];exact .int _ _,hq⟩)
    | cons=>exact hw.elim
   | _=>exact (by cases rs1 with | nil=>exact hw.elim | cons a_ b_=>cases b_ <;> exact hw.elim)
 | get=>
  cases ra <;> first | exact hw.elim | skip
  rename_i n
  exists C1 hr.refInv λp B3=>B7 B3 λC' hp=>B5 ?_
  subst C'
  cases rs with
  | nil=>exact hw.elim
  | cons w0 rs1=>
   refine vr.consI λu us1 e1_ a1_ vr1=>?_
   subst e1_
   cases w0 with
   | tup ks=>
    cases rs1 with
    | nil=>exact hw.elim
    | cons dv rs2=>
     refine vr1.consI λdd us2 e2_ a2_ vr2=>?_
     subst e2_
     cases rs2 with
     | nil=>
      rcases vr2.nilI with rfl
      refine byc λB5=>J8 hw λes ns B3=>B7 B3 λC' C5=>?_
      clear B3 hw
      subst C'
      refine B7 C5 λhn hq=>B5 ?_
      clear C5 B5
      exists E6 (S.at hn hp) λb1 _ B3=>C1 B3 λxs C5=>R7 C5 λhd hk hv ho=>B5 ?_
      clear C5
      refine byc λB5=>C1 (Ah3 (prog:=prog) (w:=w) (vr.2 0 _ u rfl rfl)) λa B3=>B7 B3 λC' C5=>?_
      clear B3
      subst C'
      refine B7 C5 λ_ hkey=>B5 ?_
      clear C5 B5
      refine call_meetsIn PySem.F.slot_dict_get hd.typeIs PySem.F.entry_dict_get (PySem.F.args_dict_get_3 _ _ _) (meetsH_dict_get_default (tupleKind (intKind prog w)) p.1 a (Ag5 (Nat.le_trans hb b1)) dd) ⟨?_,ns,xs,hkey,hd,?_⟩
      ·exact tupleKind_room_in1 (by have:=hA.units;exact o47 this)
      ·exact I7 S ⟨_,Bh6 hk hv (vr.2 1 _ _ rfl rfl),hq⟩
     | cons=>exact hw.elim
   | _=>exact (by cases rs1 with | nil=>exact hw.elim | cons a_ b_=>cases b_ <;> exact hw.elim)
 | bitlen=>
  cases ra <;> first | exact hw.elim | skip
  rename_i i
  refine C1 (M4 hr) λt C'=>?_
  subst C'
  cases rs with
  | nil=>
   rcases vr.nilI with rfl
   refine call_int_bit_length (I7 S ⟨_,?_,hw.2⟩)
   have e:(Builtin.Int.intBits i:Int)=if i=0 then 0 else (i.toNat.log2:Int)+1:=by
    have h0:=hw.1
    unfold Builtin.Int.intBits
    by_cases hi:i=0
    ·simp [hi]
    ·have:(i==0)=false:=by simpa using hi
     rw [this,if_neg hi]
     have h2:i.natAbs=i.toNat:=o48 h0
     simp [h2]
   rw [e]
   exact .int _ _
  | cons=>exact hw.elim
theorem se_bm (hb:2<=X'.objs.size) (m:Bm) (o:E) (args:Es) (iho:SE prog w X' d K o) (iha:SEs prog w X' d K args):SE prog w X' d K (N:=N) (.bm m o args):=by
 intro x A env ι l H s Q hm hA F S hw
 exists ux5 (mE_bm hm) λv n ap as pos B3=>B7 B3 λC' M5=>B5 ?_
 subst C'
 refine bn5 M5 λb0_ ho hs hlen hline=>?_
 clear M5
 rcases eq_of_beq b0_ with rfl
 try replace ho:=eq_of_beq ho
 try replace ho:=of_decide_eq_true ho
 try replace hs:=eq_of_beq hs
 try replace hs:=of_decide_eq_true hs
 try replace hlen:=eq_of_beq hlen
 try replace hlen:=of_decide_eq_true hlen
 try replace hline:=eq_of_beq hline
 try replace hline:=of_decide_eq_true hline
 refine t4 ho hs hlen (by simpa using hline) (P8 iho ho hA F S hw λva X8 aa0 X7 Z9 Z7 Z8 ra va' X9=>?_)
 intro pl
 obtain ⟨hpre,X9⟩:=X9
 refine bm_get Z8 m va' hpre (callWith_builtin (Ag6 hs pos env).1 (R4 hs (Af3 (pos:=pos) iha hs hA (F.step Z7) Z8 X9 λws aa4 aa8 Z6 aa5 aa1 aa2 rs vr aa3=>?_)))
 exact J1 Z9 (J1 aa5 (bm_call hA hb aa2 m (va'.step aa1) vr aa3))
theorem truthP {ι:Nm N} {s:Shared} {a b:Value} {op:CmpOp} {Q:Bool->Hp N->Prop} (h:wpAny (model prog w) A (compareOp op a b) (Pst prog w X' X ι s (Vof X' λv H=>∃r,v = .bool r/\Q r H)) W' s):
  wpAny (model prog w) A (compareOp op a b) (λc ab0=>wpAny (model prog w) A (truthy c) (Pst prog w X' X ι s (Bof Q)) W' ab0) W' s:=by
 refine wpAny_mono h (λc ab0 q=>?_) λ_ _ z=>z
 exists R6 q λh' tk ι' H' B3=>R7 B3 λe a b C5=>C1 C5 λrv N1=>B7 N1 λc' r4_=>C1 r4_ λr r5_=>B7 r5_ λC' hq=>B5 ?_
 clear C5 N1 r4_ r5_ q
 subst C'
 cases c'
 exact wpAny_truthy_bool ⟨h',tk,ι',H',e,a,b,hq⟩
theorem sc_cmp (op:COp) (a b:E) (iha:SE prog w X' d K a) (ihb:SE prog w X' d K b):SC prog w X' d K (N:=N) (.cmp op a b):=by
 intro x A env ι l H s Q hm hA F S hw
 exists R6 (mC_cmp hm) λlf o r p B3=>B7 B3 λC' M5=>B5 ?_
 subst C'
 refine bn3 M5 λb0_ ha hb=>?_
 clear M5
 rcases eq_of_beq b0_ with rfl
 try replace ha:=eq_of_beq ha
 try replace hb:=eq_of_beq hb
 refine wpAny_isTrue_Compare1 (P8 iha ha hA F S hw λva X8 aa0 X7 Z9 Z7 Z8 ra va' X9=>P8 ihb hb hA (F.step Z7) Z8 X9 λvb aa4 aa8 Z6 aa5 aa1 aa2 rb vb' aa3=>?_) (Ee4 op.plain.1 op.plain.2)
 refine wpAny_mono (truthP (X:=U8) (Q:=Q) (Bi8 (by have:=hA.units;exact o25 this) (va'.step aa1) vb' aa2 aa3 λr q=>⟨_,.bool _,r,rfl,q⟩)) (λ_ _ q=>J1 Z9 (J1 aa5 q)) λ_ _ z=>z
theorem Dc3 (a:E) (ih:SE prog w X' d K a):SC prog w X' d K (N:=N) (.isNone a):=by
 intro x A env ι l H s Q hm hA F S hw
 exists R6 (Dd9 hm) λlf k q p B3=>B7 B3 λC' hm'=>B5 ?_
 subst C'
 replace hm:=hm'
 refine wpAny_isTrue_Compare1 (P8 ih hm hA F S hw λva X8 aa0 X7 Z9 Z7 Z8 ra va' X9=>wpAny_Constant_none ?_) rfl
 exact is_none_gen (wpAny_truthy_bool (Z9 _ _ _ _ (C4 Z8 (show Q _ _ by rw [k9 va'];exact X9))))
theorem Cd5 (a:E) (ih:SE prog w X' d K a):SC prog w X' d K (N:=N) (.notNone a):=by
 intro x A env ι l H s Q hm hA F S hw
 exists R6 (Cf0 hm) λlf k q p B3=>B7 B3 λC' hm'=>B5 ?_
 subst C'
 replace hm:=hm'
 refine wpAny_isTrue_Compare1 (P8 ih hm hA F S hw λva X8 aa0 X7 Z9 Z7 Z8 ra va' X9=>wpAny_Constant_none ?_) rfl
 exact isnot_none_gen (wpAny_truthy_bool (Z9 _ _ _ _ (C4 Z8 (show Q _ _ by rw [k9 va'];exact X9))))
theorem sc_isIn (a b:E) (iha:SE prog w X' d K a) (ihb:SE prog w X' d K b):SC prog w X' d K (N:=N) (.isIn a b):=by
 intro x A env ι l H s Q hm hA F S hw
 exists Q0 (mC_isIn hm) λlf r p B3=>B7 B3 λC' M5=>B5 ?_
 subst C'
 refine bn3 M5 λha hb hbm=>?_
 clear M5
 try replace ha:=eq_of_beq ha
 try replace hb:=eq_of_beq hb
 try replace hbm:=eq_of_beq hbm
 refine wpAny_isTrue_Compare1 (P8 iha ha hA F S hw λva X8 aa0 X7 Z9 Z7 Z8 ra va' X9=>P8 ihb hb hA (F.step Z7) Z8 X9 λvb aa4 aa8 Z6 aa5 aa1 aa2 rb vb' aa3=>?_) hbm
 exact Ab7 (va'.step aa1) vb' aa2 aa3 λr q=>wpAny_truthy_bool (Z9 _ _ _ _ (aa5 _ _ _ _ (C4 aa2 q)))
theorem Ea2 {a b:Value} {C:Value->Shared->Prop} {E':Value->Shared->Prop} (h:wpAny (model prog w) A (compareOp .In a b) (λv s'=>∃r,v = .bool r/\C (.bool (!r)) s') E' s):
  wpAny (model prog w) A (compareOp .NotIn a b) C E' s:=by
 show wpAny _ _ (contains b a>>=λr=>pure (Value.bool (!r))) _ _ s
 have h2:wpAny (model prog w) A (contains b a>>=λr=>pure (Value.bool r)) (λv s'=>∃r,v = .bool r/\C (.bool (!r)) s') E' s:=h
 intro Γ p hΓ
 have h3:=h2 Γ p hΓ
 rw [Sem.wp_bind'] at h3 ⊢
 refine Sem.wp_mono _ Γ _ (λr p' s' h4=>?_) (λ_ _ _ z=>z) _ _ h3
 exists C1 h4 λr' B3=>B7 B3 λe q=>B5 ?_
 clear h4
 cases e
 exact q
theorem Di6 (a b:E) (iha:SE prog w X' d K a) (ihb:SE prog w X' d K b):SC prog w X' d K (N:=N) (.notIn a b):=by
 intro x A env ι l H s Q hm hA F S hw
 exists Q0 (Ea9 hm) λlf r p B3=>B7 B3 λC' M5=>B5 ?_
 subst C'
 refine bn3 M5 λha hb hbm=>?_
 clear M5
 try replace ha:=eq_of_beq ha
 try replace hb:=eq_of_beq hb
 try replace hbm:=eq_of_beq hbm
 refine wpAny_isTrue_Compare1 (P8 iha ha hA F S hw λva X8 aa0 X7 Z9 Z7 Z8 ra va' X9=>P8 ihb hb hA (F.step Z7) Z8 X9 λvb aa4 aa8 Z6 aa5 aa1 aa2 rb vb' aa3=>?_) hbm
 exact Ea2 (Ab7 (va'.step aa1) vb' aa2 aa3 λr q=>⟨r,rfl,wpAny_truthy_bool (Z9 _ _ _ _ (aa5 _ _ _ _ (C4 aa2 q)))⟩)
def SAnd (prog:Program) (w:World) (X':Heap) (d:Nat) (K:Calls N) (e:Cs):Prop:=∀(x:List Expr) (A:Around) (env:Env) (ι:Nm N) (l:Lc N) (H:Hp N) (s:Shared) (Q:Bool->Hp N->Prop),
 mCs env.scope e x=true->AOk d A->Fm X' env ι l s.heap->St prog w X' ι H s.heap->W1 K e l Q H->wpAny (model prog w) A (allTrue .And x env) (Pst prog w X' U8 ι s (Bof Q)) W' s
def SOr (prog:Program) (w:World) (X':Heap) (d:Nat) (K:Calls N) (e:Cs):Prop:=∀(x:List Expr) (A:Around) (env:Env) (ι:Nm N) (l:Lc N) (H:Hp N) (s:Shared) (Q:Bool->Hp N->Prop),
 mCs env.scope e x=true->AOk d A->Fm X' env ι l s.heap->St prog w X' ι H s.heap->wpOr K e l Q H->wpAny (model prog w) A (allTrue .Or x env) (Pst prog w X' U8 ι s (Bof Q)) W' s
theorem Di7:SAnd prog w X' d K (N:=N) .nil:=by
 intro x A env ι l H s Q hm hA F S hw
 obtain rfl:=Ci4 hm
 exact wpAny_allTrue_And_nil (C4 S hw)
theorem sor_nil:SOr prog w X' d K (N:=N) .nil:=by
 intro x A env ι l H s Q hm hA F S hw
 obtain rfl:=Ci4 hm
 exact wpAny_allTrue_Or_nil (C4 S hw)
theorem Dc5 (c:C) (cs:Cs) (ihc:SC prog w X' d K c) (ihs:SAnd prog w X' d K cs):SAnd prog w X' d K (N:=N) (.cons c cs):=by
 intro x A env ι l H s Q hm hA F S hw
 exists J8 (Ag9 hm) λy ys B3=>B7 B3 λC' hm'=>B5 ?_
 subst C'
 replace hm:=hm'
 refine wpAny_allTrue_And_cons (seqP (ihc _ _ _ _ _ _ _ _ hm.1 hA F S hw) λt X8 aa0 X7 Z9 Z7 Z8 X9=>?_)
 have aa7:(if t=true then W1 K cs l Q aa0 else Q false aa0):=X9
 cases t with
 | true=>exact J1 Z9 (ihs _ _ _ _ _ _ _ _ hm.2 hA (F.step Z7) Z8 aa7)
 | false=>exact Z9 _ _ _ _ (C4 Z8 aa7)
theorem Dh9 (c:C) (cs:Cs) (ihc:SC prog w X' d K c) (ihs:SOr prog w X' d K cs):SOr prog w X' d K (N:=N) (.cons c cs):=by
 intro x A env ι l H s Q hm hA F S hw
 exists J8 (Ag9 hm) λy ys B3=>B7 B3 λC' hm'=>B5 ?_
 subst C'
 replace hm:=hm'
 refine wpAny_allTrue_Or_cons (seqP (ihc _ _ _ _ _ _ _ _ hm.1 hA F S hw) λt X8 aa0 X7 Z9 Z7 Z8 X9=>?_)
 have aa7:(if t=true then Q true aa0 else wpOr K cs l Q aa0):=X9
 cases t with
 | true=>exact Z9 _ _ _ _ (C4 Z8 aa7)
 | false=>exact J1 Z9 (ihs _ _ _ _ _ _ _ _ hm.2 hA (F.step Z7) Z8 aa7)
theorem sc_and (cs:Cs) (ih:SAnd prog w X' d K cs):SC prog w X' d K (N:=N) (.and cs):=by
 intro x A env ι l H s Q hm hA F S hw
 exists J8 (mC_and hm) λvs p B3=>B7 B3 λC' M5=>B5 ?_
 subst C'
 exact wpAny_isTrue_BoolOp (ih _ _ _ _ _ _ _ _ M5 hA F S hw)
theorem sc_or (cs:Cs) (ih:SOr prog w X' d K cs):SC prog w X' d K (N:=N) (.or cs):=by
 intro x A env ι l H s Q hm hA F S hw
 exists J8 (mC_or hm) λvs p B3=>B7 B3 λC' M5=>B5 ?_
 subst C'
 exact wpAny_isTrue_BoolOp (ih _ _ _ _ _ _ _ _ M5 hA F S hw)
theorem sc_not (c:C) (ih:SC prog w X' d K c):SC prog w X' d K (N:=N) (.not c):=by
 intro x A env ι l H s Q hm hA F S hw
 exists J8 (mC_not hm) λy p B3=>B7 B3 λC' M5=>B5 ?_
 subst C'
 exact wpAny_isTrue_Not (wpAny_mono (ih _ _ _ _ _ _ _ _ M5 hA F S hw) (λb s' q=>by obtain ⟨h',tk,ι',H',e,a,b,c⟩:=q;exact ⟨h',tk,ι',H',e,a,b,c⟩) λ_ _ z=>z)
theorem Cc1 (S:St prog w X' ι H s.heap) {v:V N} {u:Value} (hv:VR X' ι s.heap v u) {Q:Bool->Hp N->Prop} (hw:Ae9 H v λb=>Q b H):
  wpAny (model prog w) A (truthy u) (Pst prog w X' X ι s (Bof Q)) W' s:=by
 cases v with
 | none=>cases hv;exact λΓ p hΓ=>C4 S hw
 | bool b=>cases hv;exact wpAny_truthy_bool (C4 S hw)
 | ref n=>
  exists C1 hv.refInv λp B3=>B7 B3 λC' hp=>B5 ?_
  subst C'
  exists C1 hw λxs B3=>E6 B3 λhn hlen hq=>B5 ?_
  clear hw
  exists E6 (S.listAt hn hp) λ_ _ B3=>C1 B3 λitems C5=>B7 C5 λhl hv=>B5 ?_
  clear C5
  refine wpAny_truthy_list hl.isList (by rw [hv.size];exact (Int.lt_trans (Int.ofNat_lt.mpr hlen) (by decide))) (I7 S ?_)
  have e:items.isEmpty=xs.isEmpty:=by
   have:=hv.size
   cases xs with
   | nil=>simp at this;simp [this]
   | cons=>
    have h2:items.size≠0:=by rw [this];simp
    simpa using h2
  rw [e];exact hq
 | _=>exact hw.elim
theorem sc_val (e:E) (ih:SE prog w X' d K e):SC prog w X' d K (N:=N) (.val e):=by
 intro x A env ι l H s Q hm hA F S hw
 refine B7 (mC_val hm) λh1 h2=>?_
 refine wpAny_isTrue_value (P8 ih h2 hA F S hw λva X8 aa0 X7 Z9 Z7 Z8 ra va' X9=>J1 Z9 (Cc1 Z8 va' X9)) ?_
 cases x <;> first | rfl | (cases h1;done) | skip
 rename_i op y p
 cases op <;> first | rfl | cases h1
inductive ItAt (prog:Program) (w:World) (X':Heap) (a:Addr) (ι:Nm N) (h:Heap):List (V N)->(Hp N->Prop)->Nat->Prop
 | range (x y c:Int) (i:Nat):IsRangeIter h a (x+i*c) (Builtin.Range.rangeSize x y c-i) c->ItAt prog w X' a ι h ((Mine.Internal.rangeInts x y c).map V.int) (λ_=>True) i
 | list {n:N} {p:Addr×Addr} {xs:List (V N)} (i:Nat):ι n=some p->h.IsListIter a p.1 i->ItAt prog w X' a ι h xs (λH'=>H' n=some (.list xs)) i
 | tup {t:Addr} {its:Array Value} {xs:List (V N)} (i:Nat):h.IsTuple t its->¬q7 X' ι t->VRs X' ι h xs its.toList->h.IsTupleIter a t i->ItAt prog w X' a ι h xs (λ_=>True) i
 | dict {n:N} {p:Addr×Addr} {es:List (Int×V N)} {ep:Nat} (i:Nat):ι n=some p->h.IsKeyIter a p.1 i es.length ep->ItAt prog w X' a ι h (es.map λe=>V.int e.1) (λH'=>H' n=some (.idict es ep)) i
theorem ItAt.step {a:Addr} {items:List (V N)} {g:Hp N->Prop} {i:Nat} (x:ItAt prog w X' a ι h items g i) (ho:¬q7 X' ι a) (hX:¬X a) (y:Stp X' X ι ι' h h'):ItAt prog w X' a ι' h' items g i:=by
 have k:∀o,h.get? a=some o->h'.get? a=some o:=λo e=>y.keep a o ho (.inl hX) e
 cases x with
 | range p q c i hi=>exact .range p q c i (k _ hi)
 | list i e hi=>obtain ⟨o,g,r⟩:=hi;exact .list i (y.ext _ _ e) ⟨o,k _ g,r⟩
 | tup i ht hown hv hi=>
  exists C1 hi λo B3=>B7 B3 λg r=>B5 ?_
  clear hi
  exists C1 ht λot B3=>E6 B3 λgt hc C5=>C1 C5 λn hd=>B5 ?_
  clear C5 ht
  exact .tup i ⟨ot,y.keep _ _ hown (.inr ⟨⟨_,_,hd⟩,hc⟩) gt,hc,n,hd⟩ (y.own (Heap.lt_size gt) hown) (hv.step y) ⟨o,k _ g,r⟩
 | dict i e hi=>obtain ⟨o,g,r⟩:=hi;exact .dict i (y.ext _ _ e) ⟨o,k _ g,r⟩
theorem rangeInts_get {a b c:Int} {i:Nat}:(Mine.Internal.rangeInts a b c)[i]? = if i<(Builtin.Range.rangeSize a b c).toNat then some (a+(i:Int)*c) else none:=by
 unfold Mine.Internal.rangeInts
 rw [List.getElem?_map]
 split
 ·rename_i hh;simp [hh]
 ·rename_i hh;simp;exact o49 hh
theorem ItAt.fields {a:Addr} {items:List (V N)} {g:Hp N->Prop} {i:Nat} (x:ItAt prog w X' a ι h items g i):∃o f,h.get? a=some o/\o.data = .fields f:=by
 cases x with
 | range p q c i hi=>exact ⟨_,_,hi,rfl⟩
 | list i e hi=>obtain ⟨o,g,_,r⟩:=hi;exact ⟨o,_,g,r⟩
 | tup i ht hown hv hi=>obtain ⟨o,g,_,r⟩:=hi;exact ⟨o,_,g,r⟩
 | dict i e hi=>obtain ⟨o,g,_,r⟩:=hi;exact ⟨o,_,g,r⟩
theorem St.changeAt (S:St prog w X' ι H h) {a:Addr} (ho:¬q7 X' ι a) (hb:X'.objs.size<=a) (hf:∃o f,h.get? a=some o/\o.data=f/\(∀xs n,f = .seq xs n->o.cls ≠ .type "tuple")) (hx:Heap.ExtBut a h h') (hs:h.objs.size<=h'.objs.size):
  Stp X' (· = a) ι ι h h'/\St prog w X' ι H h':=by
 have Y:Stp X' (· = a) ι ι h h':=by
  refine Stp.of_keep (λb o e _ hn=>?_) hs
  by_cases hba:b=a
  ·subst hba
   exists J8 hf λo' f B3=>E6 B3 λe' hd hne=>B5 ?_
   clear hf
   rw [e] at e';cases e'
   rcases hn with hn | q_
   ·exact absurd rfl hn
   ·refine B7 q_ λC' hcl=>?_
    clear q_
    refine J8 C' λxs n hn=>?_
    clear C'
    rw [hd] at hn;exact absurd hcl (hne _ _ hn)
  ·exact hx b o hba e
 refine ⟨Y,S.off Y (λb z=>z▸hb) λn p e=>?_⟩
 refine B7 (S.liv n p e) λC' U5=>?_
 refine C1 C' λo1 g1=>?_
 clear C'
 refine C1 U5 λo2 g2=>?_
 clear U5
 have key:∀q,(q=p.1\/q=p.2)->q≠a:=by
  rintro q hq rfl
  exact ho ⟨hb,n,p,e,hq⟩
 exact ⟨by rw [g1];exact hx _ _ (key _ (.inl rfl)) g1,by rw [g2];exact hx _ _ (key _ (.inr rfl)) g2⟩
theorem Db1 {a:Addr} {items:List (V N)} {g:Hp N->Prop} {i:Nat} (hh:A.handled=none) (S:St prog w X' ι H s.heap) (hg:g H) (x:ItAt prog w X' a ι s.heap items g i)
  (ho:¬q7 X' ι a) (hb:X'.objs.size<=a) {Q:Option Value->Shared->Prop} {E':Value->Shared->Prop}
  (hQ:∀(r:Option Value) (h':Heap) (tk:Nat),Stp X' (· = a) ι ι s.heap h'->St prog w X' ι H h' ->
   (match items[i]? with
    | none=>r=none
    | some v=>∃u,r=some u/\VR X' ι h' v u/\ItAt prog w X' a ι h' items g (i+1))->Q r {s with heap:=h',toks:=tk}):
  wpAny (model prog w) A (pyNext (.ref a)) Q E' s:=by
 have hf:∃o f,s.heap.get? a=some o/\o.data=f/\(∀xs n,f = .seq xs n->o.cls ≠ .type "tuple"):=by
  exists J8 x.fields λo f B3=>B7 B3 λe hd=>B5 ?_
  exact ⟨o,_,e,hd,λ_ _=>by simp⟩
 have own:∀n p,ι n=some p->p.1≠a:=by
  rintro n p e rfl
  exact ho ⟨hb,n,p,e,.inl rfl⟩
 have fin:∀(h':Heap) (tk:Nat),Heap.ExtBut a s.heap h'->s.heap.objs.size<=h'.objs.size->items[i]? = none->Q none {s with heap:=h',toks:=tk}:=by
  intro h' tk hx hs hi
  refine B7 (S.changeAt ho hb hf hx hs) λY S'=>?_
  exact hQ none h' tk Y S' (by rw [hi])
 have one:∀(h':Heap) (tk:Nat) (v:V N) (u:Value),Heap.SameBut a s.heap h'->items[i]? = some v->VR X' ι s.heap v u->(Stp X' (· = a) ι ι s.heap h'->ItAt prog w X' a ι h' items g (i+1))->Q (some u) {s with heap:=h',toks:=tk}:=by
  intro h' tk v u hx hi hv hit
  refine B7 (S.changeAt ho hb hf hx.extBut (Nat.le_of_eq hx.1.symm)) λY S'=>?_
  exact hQ (some u) h' tk Y S' (by rw [hi];exact ⟨u,rfl,hv.step Y,hit Y⟩)
 cases hi:items[i]? with
 | none=>
  cases x with
  | range p q c i hit=>
   rw [List.getElem?_map,Mine.Internal.rangeInts_get] at hi
   have hle:Builtin.Range.rangeSize p q c-i<=0:=by
     split at hi
     ·cases hi
     ·exact o50 ‹_›
   exact N9 (wpAny_pyNext_range_end hh hit hle λh' hx=>λhs=>fin h' s.toks hx hs (by rw [List.getElem?_map,Mine.Internal.rangeInts_get];exact hi))
  | list i e hit=>
   exists E6 (S.listAt hg e) λ_ _ B3=>C1 B3 λits C5=>B7 C5 λhl hv=>B5 ?_
   clear C5
   exact N9 (wpAny_pyNext_list_end hh hit hl.isList (by simpa using hv.none hi) λh' hx=>λhs=>fin h' s.toks hx hs hi)
  | tup i ht hown hv hit=>
   exact N9 (wpAny_pyNext_tuple_end hh hit ht (by simpa using hv.none hi) λh' hx=>λhs=>fin h' s.toks hx hs hi)
  | dict i e hit=>
   exists E6 (S.at hg e) λ_ _ B3=>C1 B3 λkvs C5=>E6 C5 λhd hk hv=>B5 ?_
   clear C5
   have hl:=congrArg List.length hk
   rw [List.length_map,List.length_map] at hl
   rw [<-hl] at hit
   exact N9 (wpAny_pyNext_dict_end hh hit hd (by rw [List.getElem?_eq_none_iff] at hi ⊢;simp at hi;exact o51 hl hi) λh' hx=>λhs=>fin h' s.toks hx hs hi)
 | some v=>
  cases x with
  | range p q c i hit=>
   have hi':=hi
   rw [List.getElem?_map,Mine.Internal.rangeInts_get] at hi'
   split at hi'
   . rename_i hlt
     simp at hi';subst hi'
     refine wpAny_pyNext_range_item hit (o52 hlt) λh' hit' hx=>one h' _ _ _ hx hi (.int _ _) λY=>?_
     refine .range p q c (i+1) ?_
     have e1:p+((i+1:Nat):Int)*c=p+i*c+c:=by push_cast;rw [Int.add_mul];exact o53
     have e2:Builtin.Range.rangeSize p q c-((i+1:Nat):Int)=Builtin.Range.rangeSize p q c-i-1:=by push_cast;exact o54
     rw [e1,e2];exact hit'
   . cases hi'
  | list i e hit=>
   exists E6 (S.listAt hg e) λ_ _ B3=>C1 B3 λits C5=>B7 C5 λhl hv=>B5 ?_
   clear C5
   exists C1 (hv.get hi) λu B3=>B7 B3 λhu r=>B5 ?_
   exact wpAny_pyNext_list_item hit hl.isList (by simpa using hu) λh' hit' hx=>one h' s.toks _ _ hx hi r λY=>.list (i+1) e hit'
  | tup i ht hown hv hit=>
   exists C1 (hv.get hi) λu B3=>B7 B3 λhu r=>B5 ?_
   refine wpAny_pyNext_tuple_item hit ht (by simpa using hu) λh' hit' hx=>one h' s.toks _ _ hx hi r λY=>?_
   exists C1 ht λot B3=>E6 B3 λgt hc C5=>C1 C5 λn hd=>B5 ?_
   clear C5 ht
   exact .tup (i+1) ⟨ot,Y.keep _ _ hown (.inr ⟨⟨_,_,hd⟩,hc⟩) gt,hc,n,hd⟩ (Y.own (Heap.lt_size gt) hown) (hv.step Y) hit'
  | @dict n p es ep i e hit=>
   exists E6 (S.at hg e) λ_ _ B3=>C1 B3 λkvs C5=>E6 C5 λhd hk hv=>B5 ?_
   clear C5
   have hl:=congrArg List.length hk
   rw [List.length_map,List.length_map] at hl
   have hit2:=hit
   rw [<-hl] at hit2
   rw [List.getElem?_map] at hi
   cases he:es[i]? with
   | none=>rw [he] at hi;cases hi
   | some kv=>
     rw [he] at hi;cases hi
     have hk2:(kvs.map (·.1))[i]? = some kv.1:=by rw [hk,List.getElem?_map,he];rfl
     rw [List.getElem?_map] at hk2
     cases hkv:kvs[i]? with
     | none=>rw [hkv] at hk2;cases hk2
     | some q=>
      rw [hkv] at hk2
      have hq1:q.1=kv.1:=by simpa using hk2
      refine wpAny_pyNext_dict_item hit2 hd (k:=q.1) (v:=q.2) hkv λkey h' hkey hit' hx=>?_
      refine C1 (Value.isInt_shape hkey) λt C'=>?_
      subst C'
      refine one h' s.toks _ _ hx (by rw [List.getElem?_map,he];rfl) ?_ λY=>.dict (i+1) e (by rw [hl] at hit';exact hit')
      rw [hq1];exact .int _ _
def Iof (prog:Program) (w:World) (X':Heap) (b:Nat) (Q:List (V N)->(Hp N->Prop)->Hp N->Prop):Value->Nm N->Hp N->Heap->Prop:=
 λv ι H h=>∃a items g,v = .ref a/\b<=a/\¬q7 X' ι a/\ItAt prog w X' a ι h items g 0/\Q items g H
def SSrc (prog:Program) (w:World) (X':Heap) (d:Nat) (K:Calls N) (e:Src):Prop:=∀(x:Expr) (A:Around) (env:Env) (ι:Nm N) (l:Lc N) (H:Hp N) (s:Shared) (Q:List (V N)->(Hp N->Prop)->Hp N->Prop),
 mSrc env.scope e x=true->AOk d A->Fm X' env ι l s.heap->St prog w X' ι H s.heap->Dg6 K e l Q H ->
  wpAny (model prog w) A (eval x env) (λv X7=>wpAny (model prog w) A (pyIter v) (Pst prog w X' U8 ι s (Iof prog w X' s.heap.objs.size Q)) W' X7) W' s
theorem Bg4 {a b c:Int} (h: -1000000<a/\a<1000000 /\ -1000000<b/\b<1000000/\(c=1\/c = -1)):Builtin.Range.small a b c=true:=by
 obtain ⟨h1,h2,h3,h4,rfl | rfl⟩:=h
 ·exact small_one (Int.le_of_lt (Int.lt_of_le_of_lt (by decide) h1)) (Int.lt_trans h2 (by decide)) (Int.le_of_lt (Int.lt_of_le_of_lt (by decide) h3)) (Int.lt_trans h4 (by decide))
 ·have e:Builtin.Range.rangeSize a b (-1)=if a>b then a-b else 0:=by
   unfold Builtin.Range.rangeSize
   simp only [show ¬((-1:Int)>0) by decide,if_false,Int.neg_neg,Int.ediv_one]
   split <;> (first | exact o57 | exact o58)
  unfold Builtin.Range.small
  rw [e]
  simp only [Builtin.Range.rangeFitsLong,Bool.and_eq_true,Bool.or_eq_true,decide_eq_true_eq,beq_iff_eq,show ¬((-1:Int)>0) by decide,if_false]
  have s:∀{x:Int},-1000000<x->x<1000000 -> -2^63<=x/\x<2^63:=λa b=>⟨Int.le_of_lt (Int.lt_of_le_of_lt (by decide) a),Int.lt_trans b (by decide)⟩
  refine ⟨⟨⟨⟨s h1 h2,s h3 h4⟩,by decide⟩,?_⟩,.inr (by show -2^63<=b+0/\b+0<2^63;rw [Int.add_zero];exact s h3 h4)⟩
  split
  ·exact ⟨Int.le_trans (by decide:(-2^63:Int) <= -2000000) (M6 [a,b] (ZE.g 2000000) (Z0-Z1) (ZE.g 1000000+1) Z0 (Z1+1) 1000000 rfl h1 h4),Int.lt_trans (M6 [a,b] (Z0-Z1+1) 2000000 (Z0+1) 1000000 (ZE.g 1000000+1) Z1 rfl h2 h3) (by decide:(2000000:Int)<2^63)⟩
  ·decide
theorem i6 (S:St prog w X' ι H h) {a:Addr} (ha:h.objs.size<=a):¬q7 X' ι a:=by
 intro q_
 exists B7 q_ λhb B3=>J8 B3 λn p C5=>B7 C5 λe hp=>B5 ?_
 clear C5 q_
 refine B7 (S.liv n p e) λC' U5=>?_
 refine C1 C' λo g=>?_
 clear C'
 refine C1 U5 λo' g'=>?_
 clear U5
 rcases hp with hp | hp
 ·exact Nat.lt_irrefl _ (Nat.lt_of_lt_of_le (Heap.lt_size g) (hp▸ha))
 ·exact Nat.lt_irrefl _ (Nat.lt_of_lt_of_le (Heap.lt_size g') (hp▸ha))
theorem Bd8 (S:St prog w X' ι H s.heap) {b:Nat} (hb:b<=s.heap.objs.size) {o:Obj} {items:List (V N)} {g:Hp N->Prop} {Q:List (V N)->(Hp N->Prop)->Hp N->Prop} (hi:ItAt prog w X' s.heap.objs.size ι (s.heap.push o) items g 0) (hq:Q items g H) {tk:Nat}:
  Pst prog w X' X ι s (Iof prog w X' b Q) (.ref s.heap.objs.size) {s with heap:=s.heap.push o,toks:=tk}:=
 S.ext G5 E7 ⟨_,items,g,rfl,hb,i6 S (Nat.le_refl _),hi,hq⟩
theorem Cd6 (S:St prog w X' ι H s.heap) {a b c:Int} (hr: -1000000<a/\a<1000000 /\ -1000000<b/\b<1000000/\(c=1\/c = -1)) {rs:List (V N)} {ws:List Value} (vr:VRs X' ι s.heap rs ws) (e:Ad5 rs=some (a,b,c))
  {C:Value->Shared->Prop} {E':Value->Shared->Prop} (hC:∀tk t u v,C (.ref s.heap.objs.size) {s with heap:=s.heap.push {cls:=.type "range",data:=.fields #[.int a t,.int b u,.int c v]},toks:=tk}):
  wpAny (model prog w) A (call (.type "range") ws) C E' s:=by
 cases rs with
 | nil=>cases e
 | cons v1 r1=>
  cases v1 with
  | int x=>
   refine vr.consI λu us e1 a1 vr=>?_
   refine C1 (M4 a1) λt C'=>?_
   rw [e1,C']
   cases r1 with
   | nil=>rw [vr.nilI];cases e;exact call_range_1 (hC _ _ _ _)
   | cons v2 r2=>
    cases v2 with
    | int y=>
     refine vr.consI λu us e1 a1 vr=>?_
     refine C1 (M4 a1) λt' C'=>?_
     rw [e1,C']
     cases r2 with
     | nil=>rw [vr.nilI];cases e;exact call_range_2 (hC _ _ _ _)
     | cons v3 r3=>
      cases v3 with
      | int z=>
       refine vr.consI λu us e1 a1 vr=>?_
       refine C1 (M4 a1) λt'' C'=>?_
       rw [e1,C']
       cases r3 with
       | nil=>rw [vr.nilI];cases e;exact call_range_3 (o61 hr) (hC s.toks _ _ _) (hp:=Or.inl (PyProof.noPylong_small (o62 hr)))
       | cons=>cases e
      | _=>cases e
    | _=>cases e
  | _=>cases e
theorem Cc8 (B:Bs X') (es:Es) (ih:SEs prog w X' d K es):SSrc prog w X' d K (N:=N) (.range es):=by
 intro x A env ι l H s Q hm hA F S hw
 exists R6 (Ag7 hm) λn q0 as pos B3=>B7 B3 λC' M5=>B5 ?_
 subst C'
 refine bn3 M5 λb0_ hg hs=>?_
 clear M5
 rcases eq_of_beq b0_ with rfl
 try replace hg:=eq_of_beq hg
 try replace hs:=eq_of_beq hs
 have ab1:=B.keeps S.keep
 exists J8 ab1.glob λmg mb B3=>un14 B3 λhG hB _ _ _ _ hmiss _ _ _ _ _ _ hr=>B5 ?_
 refine wpAny_Call_Name_kw (Name_function_global F.kind (Ec7 hg) (loadGlobal_builtin (mg:=mg) (mb:=mb) (by rw [F.glob];exact hG) hmiss (by rw [F.blt];exact hB) hr ?_) (by decide +kernel))
 refine PyProof.Rows.callWith_type (Ag6 hs pos env).1 (R4 hs (Af3 (pos:=pos) ih hs hA F S hw λws aa4 aa8 Z6 aa5 aa1 aa2 rs vr q_=>?_))
 exists Q0 q_ λa b c B3=>E6 B3 λe hrange hq=>B5 ?_
 clear q_
 refine Cd6 aa2 hrange vr e λtk t u v=>?_
 have ac6:St prog w X' aa4 aa8 (Z6.heap.push {cls:=.type "range",data:=.fields #[.int a t,.int b u,.int c v]}):=aa2.more G5 E7
 refine wpAny_pyIter_range (IsRange.new _ _ _ _ _ _ _) (Bg4 hrange) ?_
 have p:=Bd8 (X:=U8) (s:={Z6 with heap:=Z6.heap.push {cls:=.type "range",data:=.fields #[.int a t,.int b u,.int c v]},toks:=tk}) ac6 (b:=s.heap.objs.size) (Nat.le_trans aa1.size E7)
  (o:={cls:=.type "range_iterator",data:=.fields #[rawInt a,rawInt (Builtin.Range.rangeSize a b c),rawInt c]}) (items:=(Mine.Internal.rangeInts a b c).map V.int) (g:=λ_=>True) (Q:=Q) ?_ hq (tk:=tk)
 ·exact aa5 _ _ _ _ (p.lift rfl (Stp.of_ext G5 E7))
 ·refine .range a b c 0 ?_
  have e1:a+((0:Nat):Int)*c=a:=by simp
  have e2:Builtin.Range.rangeSize a b c-((0:Nat):Int)=Builtin.Range.rangeSize a b c:=by simp
  rw [e1,e2]
  exact Heap.get?_push_size _ rfl
theorem Dh7 (hb:2<=X'.objs.size) (e:E) (ih:SE prog w X' d K e):SSrc prog w X' d K (N:=N) (.seq e):=by
 intro x A env ι l H s Q hm hA F S hw
 refine B7 (Bh3 hm) λhm _=>?_
 refine P8 ih hm hA F S hw λva X8 aa0 X7 Z9 Z7 Z8 ra va' X9=>J1 Z9 ?_
 cases ra with
 | tup vs=>
  refine byc λB5=>J8 (t7 va') λt its B3=>B7 B3 λC' C5=>?_
  clear B3
  subst C'
  refine E6 C5 λht ho hv=>B5 ?_
  clear C5 B5
  refine wpAny_pyIter_tuple ht (Bd8 Z8 Z7.size ?_ X9 (tk:=X7.toks))
  have Y:Stp X' U8 X8 X8 X7.heap (X7.heap.push {cls:=.type "tuple_iterator",data:=.fields #[.ref t,.int 0 0]}):=Stp.of_ext G5 E7
  exists C1 ht λot B3=>B7 B3 λgt r=>B5 ?_
  clear ht
  exact .tup 0 ⟨ot,G5 _ _ gt,r⟩ ho (hv.step Y) ⟨_,Heap.get?_push_size _ rfl,rfl,rfl⟩
 | ref n=>
  exists C1 va'.refInv λp B3=>B7 B3 λC' hp=>B5 ?_
  subst C'
  rcases X9 with q_ | q_
  ·exists C1 q_ λxs B3=>B7 B3 λhn hq=>B5 ?_
   clear q_
   exists E6 (Z8.listAt hn hp) λ_ _ B3=>C1 B3 λits C5=>B7 C5 λhl hv=>B5 ?_
   clear C5
   exact wpAny_pyIter_list hl.isList (Bd8 Z8 Z7.size (.list 0 hp ⟨_,Heap.get?_push_size _ rfl,rfl,rfl⟩) hq (tk:=X7.toks))
  ·exists J8 q_ λes ep B3=>B7 B3 λhn hq=>B5 ?_
   clear q_
   exists E6 (Z8.at hn hp) λb1 _ B3=>C1 B3 λkvs C5=>E6 C5 λhd hk hv=>B5 ?_
   clear C5
   have hl:=congrArg List.length hk
   rw [List.length_map,List.length_map] at hl
   exact wpAny_pyIter_dict (Ag5 (Nat.le_trans hb b1)) hd (Bd8 Z8 Z7.size (.dict 0 hp ⟨_,Heap.get?_push_size _ rfl,rfl,by rw [hl];rfl⟩) hq (tk:=X7.toks))
 | _=>exact X9.elim
end
theorem Vr.find (x:Vr):Vr.all.find? (λy=>y.str==x.str)=some x:=by cases x <;> first | contradiction | kernel_rfl
theorem Vr.str_inj {x y:Vr} (h:x.str=y.str):x=y:=by
 have h1:=Vr.find x
 have h2:=Vr.find y
 rw [h] at h1
 exact Option.some.inj (h1.symm.trans h2)
section
variable {N:Type} [DecidableEq N]
variable {X':Heap} {X Y:Addr->Prop} {ι ι' X8:Nm N} {h h' aa6:Heap} {prog:Program} {w:World} {H:Hp N} {s:Shared} {α β:Type} {A:Around} {env:Env} {l:Lc N} {d:Nat} {K:Calls N}
theorem Fm.stepX (F:Fm X' env ι l h) (x:Stp X' X ι ι' h h') (hX:∀a,FrX env a->¬X a):Fm X' env ι' l h':=by
 have keep:∀a o,FrX env a->¬q7 X' ι a->h.get? a=some o->h'.get? a=some o:=λa o hf ho e=>x.keep a o ho (.inl (hX a hf)) e
 refine ⟨F.kind,F.glob,F.blt,?_,?_,?_,?_,F.apart,F.aboveL,F.aboveC,λn c hm=>Nat.lt_of_lt_of_le (F.ltC n c hm) x.size,F.cells⟩
 ·exists C1 F.ns λm B3=>B7 B3 λhn hv=>B5 ?_
  exists Q0 hn λo es ep B3=>B7 B3 λe r=>B5 ?_
  clear hn
  exact ⟨m,⟨o,es,ep,keep _ _ (.inl rfl) F.offL e,r⟩,λy v hl hk=>let ⟨u,a,b⟩:=hv y v hl hk;⟨u,a,b.step x⟩⟩
 ·intro y hk
  exists C1 (F.cell y hk) λc B3=>B7 B3 λhc C5=>C1 C5 λv0 N1=>B7 N1 λC' hv=>B5 ?_
  clear C5 N1
  exists C1 C' λo B3=>B7 B3 λe r=>B5 ?_
  clear C'
  exact ⟨c,hc,v0,⟨o,keep _ _ (.inr ⟨_,mem_of_lookup hc⟩) (F.offC _ _ (mem_of_lookup hc)).1 e,r⟩,λv hl=>let ⟨u,a,b⟩:=hv v hl;⟨u,a,b.step x⟩⟩
 ·exists C1 F.ns λm B3=>B7 B3 λhn _=>B5 ?_
  exact x.own hn.lt F.offL
 ·intro n c hm
  exact ⟨x.own (F.ltC n c hm) (F.offC n c hm).1,(F.offC n c hm).2⟩
theorem FrX.above (F:Fm X' env ι l h) {a:Addr} (ha:FrX env a):X'.objs.size<=a/\¬q7 X' ι a/\a<h.objs.size:=by
 rcases ha with rfl | q_
 ·exists C1 F.ns λm B3=>B7 B3 λhns _=>B5 ?_
  exact ⟨F.aboveL,F.offL,hns.lt⟩
 ·refine C1 q_ λn hn=>?_
  clear q_
  exact ⟨F.aboveC _ _ hn,(F.offC _ _ hn).1,F.ltC _ _ hn⟩
theorem Ac5 (F:Fm X' env ι l s.heap) (S:St prog w X' ι H s.heap) {y:Vr} (hq:env.kindOf y.str=some .local) {v:V N} {u:Value} (hv:VR X' ι s.heap v u) {M:Model} {Q:Unit->Shared->Prop} {E':Value->Shared->Prop}
  (h:∀h' tk,Stp X' (· = env.locals) ι ι s.heap h'->St prog w X' ι H h'->Fm X' env ι (l.set y v) h'->Q () {s with heap:=h',toks:=tk}):wpAny M A (storeName env y.str u) Q E' s:=by
 exists C1 F.ns λm B3=>B7 B3 λhn hv'=>B5 ?_
 refine wpAny_storeName_local hq hn (λh' hn' hs'=>?_) (by rw [F.kind];rfl)
 exists Q0 (id hn) λo es ep B3=>E6 B3 λe hd _=>B5 ?_
 refine B7 (S.changeAt F.offL F.aboveL ⟨o,_,e,hd,λ_ _ z=>by cases z⟩ hs'.extBut (Nat.le_of_eq hs'.1.symm)) λY S'=>?_
 refine h h' _ Y S' ⟨F.kind,F.glob,F.blt,⟨_,hn',?_⟩,?_,F.offL,F.offC,F.apart,F.aboveL,F.aboveC,λn c hm=>Nat.lt_of_lt_of_le (F.ltC n c hm) Y.size,F.cells⟩
 ·intro z q hl hkz
  unfold Lc.set at hl
  by_cases hzy:z=y
  ·subst hzy;rw [if_pos rfl] at hl;cases hl;exact ⟨u,by simp,hv.step Y⟩
  ·rw [if_neg hzy] at hl
   exists C1 (hv' z q hl hkz) λu' B3=>B7 B3 λa b=>B5 ?_
   exact ⟨u',by rw [if_neg (λe=>hzy (Vr.str_inj e))];exact a,b.step Y⟩
 ·intro z hkz
  exists C1 (F.cell z hkz) λc B3=>B7 B3 λhc C5=>C1 C5 λv0 N1=>B7 N1 λC' hv''=>B5 ?_
  clear C5 N1
  exists C1 C' λo B3=>B7 B3 λe r=>B5 ?_
  clear C'
  have hzy:z≠y:=by rintro rfl;rw [hq] at hkz;cases hkz
  refine ⟨c,hc,v0,⟨o,(hs'.2 _ (F.offC _ _ (mem_of_lookup hc)).2).trans e,r⟩,λq hl=>?_⟩
  unfold Lc.set at hl;rw [if_neg hzy] at hl
  exists C1 (hv'' q hl) λu' B3=>B7 B3 λa b=>B5 ?_
  exact ⟨u',a,b.step Y⟩
theorem V1 (F:Fm X' env ι l s.heap) (S:St prog w X' ι H s.heap) {y:Vr} (hk:K0 (env.scope.names.lookup y.str)=true) {v:V N} {u:Value} (hv:VR X' ι s.heap v u) {M:Model} {Q:Unit->Shared->Prop} {E':Value->Shared->Prop}
  (h:∀h' tk,Stp X' (FrX env) ι ι s.heap h'->St prog w X' ι H h'->Fm X' env ι (l.set y v) h'->Q () {s with heap:=h',toks:=tk}):wpAny M A (storeName env y.str u) Q E' s:=by
 have hk':K0 (env.kindOf y.str)=true:=hk
 cases hq:env.kindOf y.str with
 | none=>rw [hq] at hk';cases hk'
 | some k=>
  rw [hq] at hk'
  cases k <;> simp only [K0,Bool.false_eq_true] at hk'
  ·exact Ac5 F S hq hv λh' tk Y S' F'=>h h' tk (Y.weak λa z=>.inl z) S' F'
  ·exists C1 (F.cell y hq) λc B3=>B7 B3 λhc C5=>C1 C5 λv0 N1=>B7 N1 λhcell hv'=>B5 ?_
   clear C5 N1
   refine wpAny_storeName_cell F.kind hq hc hcell λh' hc' hs'=>?_
   exists C1 (id hcell) λo B3=>B7 B3 λe hd=>B5 ?_
   refine B7 (S.changeAt (F.offC _ _ (mem_of_lookup hc)).1 (F.aboveC _ _ (mem_of_lookup hc)) ⟨o,_,e,rfl,λxs n z=>by simp [hd] at z⟩ hs'.extBut (Nat.le_of_eq hs'.1.symm)) λY S'=>?_
   have Y':Stp X' (FrX env) ι ι s.heap h':=Y.weak λa z=>.inr ⟨_,z▸mem_of_lookup hc⟩
   refine h h' s.toks Y' S' ⟨F.kind,F.glob,F.blt,?_,?_,F.offL,F.offC,F.apart,F.aboveL,F.aboveC,λn c hm=>Nat.lt_of_lt_of_le (F.ltC n c hm) Y.size,F.cells⟩
   ·exists C1 F.ns λm B3=>B7 B3 λhn hvm=>B5 ?_
    refine ⟨m,hn.sameBut hs' (F.offC _ _ (mem_of_lookup hc)).2.symm,λz q hl hkz=>?_⟩
    have hzy:z≠y:=by rintro rfl;rw [hq] at hkz;cases hkz
    unfold Lc.set at hl;rw [if_neg hzy] at hl
    exists C1 (hvm z q hl hkz) λu' B3=>B7 B3 λa b=>B5 ?_
    exact ⟨u',a,b.step Y⟩
   ·intro z hkz
    by_cases hzy:z=y
    ·subst hzy
     refine ⟨c,hc,some u,hc',λq hl=>?_⟩
     unfold Lc.set at hl;rw [if_pos rfl] at hl;cases hl
     exact ⟨u,rfl,hv.step Y⟩
    ·exists C1 (F.cell z hkz) λc2 B3=>B7 B3 λhc2 C5=>C1 C5 λv0 N1=>B7 N1 λhcell2 hv''=>B5 ?_
     clear C5 N1
     refine ⟨c2,hc2,v0,hcell2.sameBut hs' λe=>hzy (Vr.str_inj (name_of_addr F.apart (mem_of_lookup hc2) (e▸mem_of_lookup hc))),λq hl=>?_⟩
     unfold Lc.set at hl;rw [if_neg hzy] at hl
     exists C1 (hv'' q hl) λu' B3=>B7 B3 λa b=>B5 ?_
     exact ⟨u',a,b.step Y⟩
inductive FlR (X':Heap) (ι:Nm N) (h:Heap):Fl N->Flow->Prop
 | next:FlR X' ι h .next .next | brk:FlR X' ι h .brk .brk | cont:FlR X' ι h .cont .cont
 | ret {v:V N} {u:Value}:VR X' ι h v u->FlR X' ι h (.ret v) (.ret u)
def Fof (X':Heap) (env:Env) (Q:Fl N->Lc N->Hp N->Prop):Flow->Nm N->Hp N->Heap->Prop:=λf ι H h=>∃fl l,FlR X' ι h fl f/\Fm X' env ι l h/\Q fl l H
def SS (prog:Program) (w:World) (X':Heap) (d:Nat) (K:Calls N) (e:S):Prop:=∀(x:Stmt) (A:Around) (env:Env) (ι:Nm N) (l:Lc N) (H:Hp N) (s:Shared) (Q:Fl N->Lc N->Hp N->Prop),
 mS env.scope e x=true->AOk d A->Fm X' env ι l s.heap->St prog w X' ι H s.heap->wpS K e Q l H->wpAny (model prog w) A (exec x env) (Pst prog w X' (FrX env) ι s (Fof X' env Q)) W' s
def SSs (prog:Program) (w:World) (X':Heap) (d:Nat) (K:Calls N) (e:Ss):Prop:=∀(x:List Stmt) (A:Around) (env:Env) (ι:Nm N) (l:Lc N) (H:Hp N) (s:Shared) (Q:Fl N->Lc N->Hp N->Prop),
 mSs env.scope e x=true->AOk d A->Fm X' env ι l s.heap->St prog w X' ι H s.heap->C2 K e Q l H->wpAny (model prog w) A (execs x env) (Pst prog w X' (FrX env) ι s (Fof X' env Q)) W' s
theorem seqX {m:Sem α} {C:α->Shared->Prop} {ac7:α->Nm N->Hp N->Heap->Prop} (h1:wpAny (model prog w) A m (Pst prog w X' U8 ι s ac7) W' s)
  (h2:∀v X8 aa0 X7,W9 prog w X' X ι X8 s X7->Stp X' U8 ι X8 s.heap X7.heap->St prog w X' X8 aa0 X7.heap->ac7 v X8 aa0 X7.heap->C v X7):
  wpAny (model prog w) A m C W' s:=by
 refine wpAny_mono h1 (λv s1 p=>?_) λ_ _ z=>z
 refine byc λB5=>R6 p λh' tk ι' H' B3=>B7 B3 λC' C5=>?_
 clear B3 p
 subst C'
 refine E6 C5 λa b c=>B5 ?_
 clear C5 B5
 exact h2 v ι' H' _ (λβ R c Z6 q=>q.lift rfl (a.weak λ_ z=>z.elim)) a b c
theorem R8 {e:E} {x:Expr} {Q:V N->Hp N->Prop} {C:Value->Shared->Prop} (ih:SE prog w X' d K e) (hm:mE env.scope e x=true) (hA:AOk d A) (F:Fm X' env ι l s.heap) (S:St prog w X' ι H s.heap) (hw:O0 K e l Q H)
  (k:∀v X8 aa0 X7,W9 prog w X' X ι X8 s X7->Stp X' U8 ι X8 s.heap X7.heap->St prog w X' X8 aa0 X7.heap->∀r,VR X' X8 X7.heap r v->Q r aa0->C v X7):wpAny (model prog w) A (eval x env) C W' s:=
 seqX (ih _ _ _ _ _ _ _ _ hm hA F S hw) λv X8 aa0 X7 L st S q=>C1 q λr q=>B7 q λa b=>k v X8 aa0 X7 L st S r a b
theorem Fof.el {X':Heap} {env:Env} {Q:Fl N->Lc N->Hp N->Prop} {f:Flow} {ι:Nm N} {H:Hp N} {h:Heap} (x:Fof X' env Q f ι H h) {P:Prop} (k:∀fl l,FlR X' ι h fl f->Fm X' env ι l h->Q fl l H->P):P:=J8 x λfl l q=>E6 q λa b c=>k fl l a b c
theorem seqFs {e:Ss} {x:List Stmt} {Q:Fl N->Lc N->Hp N->Prop} {C:Flow->Shared->Prop} (ih:SSs prog w X' d K e) (hm:mSs env.scope e x=true) (hA:AOk d A) (F:Fm X' env ι l s.heap) (S:St prog w X' ι H s.heap) (hw:C2 K e Q l H)
  (k:∀f X8 aa0 X7,W9 prog w X' (FrX env) ι X8 s X7->Stp X' (FrX env) ι X8 s.heap X7.heap->St prog w X' X8 aa0 X7.heap->∀fl ab2,FlR X' X8 X7.heap fl f->Fm X' env X8 ab2 X7.heap->Q fl ab2 aa0->C f X7):wpAny (model prog w) A (execs x env) C W' s:=
 seqP (ih _ _ _ _ _ _ _ _ hm hA F S hw) λf X8 aa0 X7 L st S q=>q.el λfl ab2 a b c=>k f X8 aa0 X7 L st S fl ab2 a b c
theorem seqF {e:S} {x:Stmt} {Q:Fl N->Lc N->Hp N->Prop} {C:Flow->Shared->Prop} (ih:SS prog w X' d K e) (hm:mS env.scope e x=true) (hA:AOk d A) (F:Fm X' env ι l s.heap) (S:St prog w X' ι H s.heap) (hw:wpS K e Q l H)
  (k:∀f X8 aa0 X7,W9 prog w X' (FrX env) ι X8 s X7->Stp X' (FrX env) ι X8 s.heap X7.heap->St prog w X' X8 aa0 X7.heap->∀fl ab2,FlR X' X8 X7.heap fl f->Fm X' env X8 ab2 X7.heap->Q fl ab2 aa0->C f X7):wpAny (model prog w) A (exec x env) C W' s:=
 seqP (ih _ _ _ _ _ _ _ _ hm hA F S hw) λf X8 aa0 X7 L st S q=>q.el λfl ab2 a b c=>k f X8 aa0 X7 L st S fl ab2 a b c
theorem sss_nil:SSs prog w X' d K (N:=N) .nil:=by
 intro x A env ι l H s Q hm hA F S hw
 obtain rfl:=mSs_nil hm
 exact wpAny_execs_nil (C4 S ⟨_,l,.next,F,hw⟩)
theorem Dh6 (a:Mine.Internal.S) (ss:Ss) (iha:SS prog w X' d K a) (ihs:SSs prog w X' d K ss):SSs prog w X' d K (N:=N) (.cons a ss):=by
 intro x A env ι l H s Q hm hA F S hw
 exists J8 (Ea6 hm) λy ys B3=>B7 B3 λC' hm'=>B5 ?_
 subst C'
 replace hm:=hm'
 refine wpAny_execs_cons (seqF iha hm.1 hA F S hw λf X8 aa0 X7 Z9 Z7 Z8 fl ab2 hf ad1 X9=>?_)
 cases hf with
 | next=>exact J1 Z9 (ihs _ _ _ _ _ _ _ _ hm.2 hA ad1 Z8 X9)
 | brk=>exact Z9 _ _ _ _ (C4 Z8 ⟨_,ab2,.brk,ad1,X9⟩)
 | cont=>exact Z9 _ _ _ _ (C4 Z8 ⟨_,ab2,.cont,ad1,X9⟩)
 | ret hv=>exact Z9 _ _ _ _ (C4 Z8 ⟨_,ab2,.ret hv,ad1,X9⟩)
theorem ss_pass:SS prog w X' d K (N:=N) .pass:=by
 intro x A env ι l H s Q hm hA F S hw
 refine C1 (mS_pass hm) λp C'=>?_
 subst C'
 exact wpAny_Pass (C4 S ⟨_,l,.next,F,hw⟩)
theorem ss_cont:SS prog w X' d K (N:=N) .cont:=by
 intro x A env ι l H s Q hm hA F S hw
 refine C1 (mS_cont hm) λp C'=>?_
 subst C'
 exact wpAny_Continue (C4 S ⟨_,l,.cont,F,hw⟩)
theorem ss_brk:SS prog w X' d K (N:=N) .brk:=by
 intro x A env ι l H s Q hm hA F S hw
 refine C1 (mS_brk hm) λp C'=>?_
 subst C'
 exact wpAny_Break (C4 S ⟨_,l,.brk,F,hw⟩)
theorem Cd1:SS prog w X' d K (N:=N) .retNone:=by
 intro x A env ι l H s Q hm hA F S hw
 refine C1 (Ce7 hm) λp C'=>?_
 subst C'
 exact wpAny_Return_none (C4 S ⟨_,l,.ret .none,F,hw⟩)
theorem ss_ret (e:E) (ih:SE prog w X' d K e):SS prog w X' d K (N:=N) (.ret e):=by
 intro x A env ι l H s Q hm hA F S hw
 exists J8 (mS_ret hm) λv p B3=>B7 B3 λC' hm'=>B5 ?_
 subst C'
 replace hm:=hm'
 exact wpAny_Return_some (R8 (X:=FrX env) ih hm hA F S hw λva X8 aa0 X7 Z9 Z7 Z8 ra va' X9=>Z9 _ _ _ _ (C4 Z8 ⟨_,l,.ret va',F.step Z7,X9⟩))
theorem ss_ite (c:C) (t f:Ss) (ihc:SC prog w X' d K c) (iht:SSs prog w X' d K t) (ihf:SSs prog w X' d K f):SS prog w X' d K (N:=N) (.ite c t f):=by
 intro x A env ι l H s Q hm hA F S hw
 exists R6 (mS_ite hm) λy b' o' p B3=>B7 B3 λC' hm'=>B5 ?_
 subst C'
 replace hm:=hm'
 refine wpAny_If (seqX (X:=FrX env) (ihc _ _ _ _ _ _ _ _ hm.1.1 hA F S hw) λb X8 aa0 X7 Z9 Z7 Z8 X9=>?_)
 have aa7:(if b=true then C2 K t Q l aa0 else C2 K f Q l aa0):=X9
 cases b with
 | true=>exact J1 Z9 (iht _ _ _ _ _ _ _ _ hm.1.2 hA (F.step Z7) Z8 aa7)
 | false=>exact J1 Z9 (ihf _ _ _ _ _ _ _ _ hm.2 hA (F.step Z7) Z8 aa7)
theorem Ci1 {sc:Scope} {e:E} {v:Expr} (hm:mE sc e v=true) (hc:Bc2 v=true) (t:Option Expr) (line:Nat) (env:Env):swapsWith v t line env=pure false:=by
 cases v <;> first | rfl | (cases hc;done) | (cases e <;> cases hm)
theorem ss_set (y:Vr) (e:E) (ih:SE prog w X' d K e):SS prog w X' d K (N:=N) (.set y e):=by
 intro x A env ι l H s Q hm hA F S hw
 exists R6 (mS_set hm) λn q v p B3=>B7 B3 λC' M5=>B5 ?_
 subst C'
 refine bn4 M5 λb0_ hk he hc=>?_
 clear M5
 rcases eq_of_beq b0_ with rfl
 try replace hk:=eq_of_beq hk
 try replace he:=eq_of_beq he
 try replace hc:=eq_of_beq hc
 refine wpAny_Assign_Name (R8 (X:=FrX env) ih he hA F S hw λva X8 aa0 X7 Z9 Z7 Z8 ra va' X9=>?_) (Ci1 he hc _ _ _)
 exact V1 (F.step Z7) Z8 hk va' λh' tk Y S' F'=>Z9 _ _ _ _ ⟨h',tk,X8,aa0,rfl,Y,S',_,_,.next,F',X9⟩
theorem ss_expr (e:E) (ih:SE prog w X' d K e):SS prog w X' d K (N:=N) (.expr e):=by
 intro x A env ι l H s Q hm hA F S hw
 refine byc λB5=>J8 (mS_expr hm) λv p B3=>B7 B3 λC' C5=>?_
 clear B3
 subst C'
 refine B7 C5 λhe hn=>B5 ?_
 clear C5 B5
 have hc:Bc2 v=true:=by cases v <;> first | rfl | cases hn
 refine wpAny_Expr (R8 (X:=FrX env) ih he hA F S hw λva X8 aa0 X7 Z9 Z7 Z8 ra va' q_=>?_) (by unfold interactive;rw [F.kind];rfl) (Ci1 he hc _ _ _)
 refine B7 q_ λhp X9=>?_
 clear q_
 have fin:Pst prog w X' (FrX env) ι s (Fof X' env Q) Flow.next X7:=Z9 _ _ _ _ (C4 Z8 ⟨_,l,.next,F.step Z7,X9⟩)
 cases va' with
 | ref e=>exact hp.elim
 | tup=>exact hp.elim
 | _=>exact fin
theorem T6 {v:Expr} {t:Expr} (ht:(match t with | .Name .. =>false | _=>true)=true) (line:Nat) (env:Env):swapsWith v (some t) line env=pure false:=by
 cases v <;> first | rfl | (cases t <;> first | rfl | cases ht)
theorem any_key {kvs:List (Int×Value)} {es:List (Int×V N)} (hk:kvs.map (·.1)=es.map (·.1)) (k:Int):kvs.any (λkv=>decide (kv.1=k))=es.any (λkv=>decide (kv.1=k)):=by
 have e1:kvs.any (λkv=>decide (kv.1=k))=(kvs.map (·.1)).any (λx=>decide (x=k)):=by rw [List.any_map];rfl
 have e2:es.any (λkv=>decide (kv.1=k))=(es.map (·.1)).any (λx=>decide (x=k)):=by rw [List.any_map];rfl
 rw [e1,e2,hk]
theorem VRs.mapPut {κ β γ:Type} [DecidableEq κ] (f:β->Value):∀{kvs:List (κ×Value)} {es:List (κ×V N)} (hk:kvs.map (·.1)=es.map (·.1)) (hv:VRs X' ι h (es.map (·.2)) (kvs.map (·.2))) (k:κ) {v:V N} {u:Value},VR X' ι h v u ->
  VRs X' ι h ((es.map (λkv=>if kv.1=k then (kv.1,v) else kv)).map (·.2)) ((kvs.map (λkv=>if kv.1=k then (kv.1,u) else kv)).map (·.2))
 | [],[],_,_,_,_,_,_=>VRs.nil
 | [],_::_,hk,_,_,_,_,_=>by simp at hk
 | _::_,[],hk,_,_,_,_,_=>by simp at hk
 | (k1,u1)::kvs,(k2,v2)::es,hk,hv,k,v,u,hvu=>by
  simp only [List.map_cons,List.cons.injEq] at hk
  refine B7 hk ?_
  clear hk
  intro C' hk
  subst C'
  refine B7 (VRs.tail hv) λr1 r2=>?_
  have ih:=VRs.mapPut (γ:=γ) f hk r2 k hvu
  simp only [List.map_cons]
  by_cases hkk:k1=k
  ·rw [if_pos hkk,if_pos hkk];exact VRs.cons hvu ih
  ·rw [if_neg hkk,if_neg hkk];exact VRs.cons r1 ih
theorem Cc7 {kvs:List (Int×Value)} {es:List (Int×V N)} (hk:kvs.map (·.1)=es.map (·.1)) (hv:VRs X' ι h (es.map (·.2)) (kvs.map (·.2))) (k:Int) {v:V N} {u:Value} (hvu:VR X' ι h v u):
  (stored kvs k u).map (·.1)=(put es k v).map (·.1)/\VRs X' ι h ((put es k v).map (·.2)) ((stored kvs k u).map (·.2)):=by
 unfold stored put
 rw [any_key hk k]
 split
 ·refine ⟨?_,VRs.mapPut (β:=Value) (γ:=Value) id hk hv k hvu⟩
  have e1:∀(xs:List (Int×Value)),(xs.map (λkv=>if kv.1=k then (kv.1,u) else kv)).map (·.1)=xs.map (·.1):=λxs=>by
   rw [List.map_map];exact List.map_congr_left λx _=>by show (if x.1=k then (x.1,u) else x).1=x.1;split <;> rfl
  have e2:∀(xs:List (Int×V N)),(xs.map (λkv=>if kv.1=k then (kv.1,v) else kv)).map (·.1)=xs.map (·.1):=λxs=>by
   rw [List.map_map];exact List.map_congr_left λx _=>by show (if x.1=k then (x.1,v) else x).1=x.1;split <;> rfl
  rw [e1,e2,hk]
 ·rw [List.map_append,List.map_append,List.map_append,List.map_append,hk]
  exact ⟨rfl,hv.snoc hvu⟩
theorem Ch0 {xs:List (List Int×Addr×Value)} {es:List (List Int×V N)} (hk:xs.map (·.1)=es.map (·.1)) (k:List Int):(atKey xs k).isSome=es.any (λkv=>decide (kv.1=k)):=by
 have e2:es.any (λkv=>decide (kv.1=k))=(es.map (·.1)).any (λx=>decide (x=k)):=by rw [List.any_map];rfl
 rw [e2,<-hk,List.any_map]
 unfold atKey
 rw [Option.isSome_map,Bool.eq_iff_iff,List.find?_isSome,List.any_eq_true]
 rfl
theorem Bg0 {xs:List (List Int×Addr×Value)} {es:List (List Int×V N)} (hk:xs.map (·.1)=es.map (·.1)) (hv:VRs X' ι h (es.map (·.2)) (xs.map (·.2.2))) (k:List Int) (a:Addr) {v:V N} {u:Value} (hvu:VR X' ι h v u):
  (storedH xs k a u).map (·.1)=(put es k v).map (·.1)/\VRs X' ι h ((put es k v).map (·.2)) ((storedH xs k a u).map (·.2.2)):=by
 unfold storedH put
 rw [Ch0 hk k]
 split
 ·have e1:(xs.map (putAt k u)).map (·.1)=xs.map (·.1):=by
   rw [List.map_map];exact List.map_congr_left λx _=>by show (if x.1=k then (x.1,x.2.1,u) else x).1=x.1;split <;> rfl
  have e2:∀(xs:List (List Int×V N)),(xs.map (λkv=>if kv.1=k then (kv.1,v) else kv)).map (·.1)=xs.map (·.1):=λxs=>by
   rw [List.map_map];exact List.map_congr_left λx _=>by show (if x.1=k then (x.1,v) else x).1=x.1;split <;> rfl
  refine ⟨by rw [e1,e2,hk],?_⟩
  have hk2:(xs.map λx=>(x.1,x.2.2)).map (·.1)=es.map (·.1):=by rw [List.map_map];exact hk
  have hv2:VRs X' ι h (es.map (·.2)) ((xs.map λx=>(x.1,x.2.2)).map (·.2)):=by rw [List.map_map];exact hv
  have h3:=VRs.mapPut (β:=Value) (γ:=Value) id hk2 hv2 k hvu
  have e3:((xs.map λx=>(x.1,x.2.2)).map (λkv=>if kv.1=k then (kv.1,u) else kv)).map (·.2)=(xs.map (putAt k u)).map (·.2.2):=by
   rw [List.map_map,List.map_map,List.map_map]
   refine List.map_congr_left λx _=>?_
   show (if x.1=k then (x.1,u) else (x.1,x.2.2)).2=(if x.1=k then (x.1,x.2.1,u) else x).2.2
   split <;> rfl
  rw [<-e3];exact h3
 ·rw [List.map_append,List.map_append,List.map_append,List.map_append,hk]
  exact ⟨rfl,hv.snoc hvu⟩
theorem St.updAt (S:St prog w X' ι H h) {n:N} {p:Addr×Addr} {o:O N} (hi:ι n=some p) (hb:X'.objs.size<=p.1/\X'.objs.size<=p.2) (hsb:Heap.SameBut p.1 h h') (hl:∃o,h'.get? p.1=some o)
  (ho:Stp X' X ι ι h h'->OR prog w X' ι h' p o):St prog w X' ι (H.set n o) h'/\Stp X' X ι ι h h':=by
 have hk:∀b o,b≠p.1->b≠p.2->h.get? b=some o->h'.get? b=some o:=λb o hb _ e=>(hsb.2 b hb).trans e
 have hs:h.objs.size<=h'.objs.size:=Nat.le_of_eq hsb.1.symm
 have Y:Stp X' X ι ι h h':=S.updStp hi hb hk hs
 refine B7 (S.liv n p hi) λ_ C'=>?_
 refine C1 C' λo2 g2=>?_
 clear C'
 refine ⟨S.upd hi hb hk hs ⟨hl,?_⟩ (ho Y),Y⟩
 by_cases hp:p.2=p.1
 ·rw [hp];exact hl
 ·exact ⟨o2,(hsb.2 _ hp).trans g2⟩
theorem U9 (hu:A.units+80<=cLine) (S:St prog w X' ι H s.heap) {vo vi vv:V N} {o i u:Value} (ho:VR X' ι s.heap vo o) (hi:VR X' ι s.heap vi i) (hv:VR X' ι s.heap vv u) {Q:Hp N->Prop} (hw:setSub H vo vi vv Q)
  {C:Unit->Shared->Prop} {E':Value->Shared->Prop} (hC:∀h' tk H',Stp X' X ι ι s.heap h'->St prog w X' ι H' h'->Q H'->C () {s with heap:=h',toks:=tk}):
  wpAny (model prog w) A (setItem o i u) C E' s:=by
 cases vo with
 | ref n=>
  exists C1 ho.refInv λp B3=>B7 B3 λC' hp=>B5 ?_
  subst C'
  cases vi with
  | int k=>
   refine C1 (M4 hi) λt C'=>?_
   subst C'
   rcases hw with q_ | q_
   ·exists C1 q_ λxs B3=>un5 B3 λhn h0 h1 h2 hq=>B5 ?_
    clear q_
    exists E6 (S.listAt hn hp) λ_ _ B3=>C1 B3 λitems C5=>B7 C5 λhl hvs=>B5 ?_
    clear C5
    refine Aj4 hl h0 (Int.lt_trans h1 (by decide)) (by rw [hvs.size];exact h2) λh' hl' hsb=>?_
    obtain ⟨S',Y⟩:=S.updList (X:=X) (ys:=xs.set k.toNat vv) hn hp hsb hl' (by rw [Array.toList_setIfInBounds];exact hvs.set hv _)
    exact hC h' s.toks _ Y S' hq
   ·exists J8 q_ λes ep B3=>E6 B3 λhn hlen hq=>B5 ?_
    clear q_
    exists E6 (S.at hn hp) λb1 b2 B3=>C1 B3 λkvs C5=>E6 C5 λhd hk hvs=>B5 ?_
    clear C5
    have hl:=congrArg List.length hk
    rw [List.length_map,List.length_map] at hl
    refine wpAny_setItem_pairs (k:=k) (by simp [intKind,Value.isInt]) hd.dictOf (λh' hd' hsb=>?_) (by rw [hl,sizeLine_eq];exact o18 hlen (by decide))
    refine C1 hd'.dictAt λep' hd2=>?_
    refine B7 (Cc7 hk hvs k hv) λr1 r2=>?_
    obtain ⟨S',Y⟩:=S.updAt (X:=X) (o:=.idict (put es k vv) ep') hp ⟨b1,b2⟩ hsb (by obtain ⟨o,es,g,_⟩:=hd2;exact ⟨o,g⟩) λY=>⟨b1,b2,_,hd2,r1,r2.step Y⟩
    exact hC h' _ _ Y S' (hq ep')
  | tup ks=>
   refine byc λB5=>J8 hw λes ns B3=>B7 B3 λC' C5=>?_
   clear B3 hw
   subst C'
   refine E6 C5 λhn hlen hq=>B5 ?_
   clear C5 B5
   refine byc λB5=>C1 (Ah3 (prog:=prog) (w:=w) hi) λa B3=>B7 B3 λC' C5=>?_
   clear B3
   subst C'
   refine B7 C5 λha hkey=>B5 ?_
   clear C5 B5
   exists E6 (S.at hn hp) λb1 b2 B3=>C1 B3 λxs C5=>R7 C5 λhd hk hvs hoff=>B5 ?_
   clear C5
   have hl:=congrArg List.length hk
   rw [List.length_map,List.length_map] at hl
   refine wpAny_setItem_heap (tupleKind_room_in1 (o63 hu)) hkey hd (λh' hd' hsb=>?_) (by rw [hl,sizeLine_eq];exact o18 hlen (by decide))
   refine B7 (Bg0 hk hvs ns a hv) λr1 r2=>?_
   have hoff':∀x∈storedH xs ns a u,¬q7 X' ι x.2.1:=by
    intro x hx
    unfold storedH at hx
    split at hx
    ·exists C1 (List.mem_map.mp hx) λy B3=>B7 B3 λhy C'=>B5 ?_
     subst C'
     have:(putAt ns u y).2.1=y.2.1:=by unfold putAt;split <;> rfl
     rw [this];exact hoff y hy
    ·rcases List.mem_append.mp hx with hx | hx
     ·exact hoff x hx
     ·simp at hx;subst hx;exact ha
   obtain ⟨S',Y⟩:=S.updAt (X:=X) (o:=.tdict (put es ns vv)) hp ⟨b1,b2⟩ hsb (by obtain ⟨o,es,ep,g,_⟩:=hd';exact ⟨o,g⟩) λY=>⟨b1,b2,_,hd',r1,r2.step Y,hoff'⟩
   exact hC h' _ _ Y S' hq
  | _=>exact hw.elim
 | _=>exact (by cases vi <;> exact hw.elim)
theorem Bc6 (B:Bs X') (S:St prog w X' ι H s.heap) {n:N} {k:Kl} {f:At->Option (V N)} {a:At} {v:V N} {o u:Value} (ho:VR X' ι s.heap (.ref n) o) (hv:VR X' ι s.heap v u) (hn:H n=some (.inst k f)) (hak:a.kl=k)
  {C:Unit->Shared->Prop} {E':Value->Shared->Prop} (hC:∀h' tk,Stp X' X ι ι s.heap h'->St prog w X' ι (H.set n (.inst k λb=>if b=a then some v else f b)) h'->C () {s with heap:=h',toks:=tk}):
  wpAny (model prog w) A (setAttr o a.str u) C E' s:=by
 exists C1 ho.refInv λp B3=>B7 B3 λC' hi=>B5 ?_
 subst C'
 exists E6 (S.at hn hi) λb1 b2 B3=>J8 B3 λob mA C5=>un8 C5 λg hc hnc hd hne hns hvs hw=>B5 ?_
 clear C5
 exists ux14 ((B.keeps S.keep).cls k) λnm q bs sn sub col dd k0 k1 k2 k3 k5 newId mN B3=>un8 B3 λFF hC0 hN hm hat hga hgt hsa=>B5 ?_
 obtain ⟨hh,gg,dr,tk,os⟩:=s
 have hxC:p.1≠k.addr:=by
  exists ux14 (B.cls k) λ_ _ _ _ _ _ _ _ _ _ _ _ _ _ B3=>E6 B3 λ_ hC1 _=>B5 ?_
  exact Nat.ne_of_gt (Nat.lt_of_lt_of_le (Heap.lt_size hC1) b1)
 refine N9 (store_attr PySem.F.store_object hC0 hN hsa (hat a hak) (Bh1 a) hxC ⟨ob,g,hc,hnc,.inr ⟨_,hd,hne,hns⟩⟩ (λh' tk' I' hk hsame=>λhs=>?_) hw (by show u5.length<=sizeLine;rw [sizeLine_eq];decide))
 exists C1 (hsame ob g) λae3 B3=>un5 B3 λad5 c1 c2 c3 c4=>B5 ?_
 exists C1 I' λae9 B3=>R7 B3 λad8 e2 n2 hdd=>B5 ?_
 clear I'
 rw [ad5] at ad8;cases ad8
 have hd1:=c4 _ hd
 have hns':h'.Ns1 p.2 (λy=>if y=a.str then some u else mA y):=by
  rcases hdd with q_ | q_
  ·refine B7 q_ λz _=>?_
   clear q_
   rw [hd1] at z;cases z
  ·exists C1 q_ λdx B3=>E6 B3 λz _ hx=>B5 ?_
   clear q_
   rw [hd1] at z;cases z;exact hx
 have hk':∀b o,b≠p.1->b≠p.2->hh.get? b=some o->h'.get? b=some o:=λb o h1 h2 e=>hk b o h1 (λaf0 dx e0 e1=>by rw [g] at e0;cases e0;rw [hd] at e1;cases e1;exact h2) e
 have Y:Stp X' X ι ι hh h':=S.updStp hi ⟨b1,b2⟩ hk' hs
 exists Q0 (id hns') λo3 es3 ep3 B3=>B7 B3 λg3 r3=>B5 ?_
 refine hC h' tk' Y (S.upd hi ⟨b1,b2⟩ hk' hs ⟨⟨_,ad5⟩,⟨_,g3⟩⟩ ⟨b1,b2,ae3,_,ad5,e2,n2,hd1,hne,hns',?_,?_⟩)
 ·intro b x hb
  by_cases hba:b=a
  ·subst hba;simp at hb;subst hb;exact ⟨hak,u,by simp,hv.step Y⟩
  ·simp [hba] at hb
   exists B7 (hvs b x hb) λz0 B3=>C1 B3 λu' C5=>B7 C5 λz1 z2=>B5 ?_
   clear C5
   exact ⟨z0,u',by show (if b.str=a.str then _ else _)=_;rw [if_neg λe=>hba (At.str_inj e)];exact z1,z2.step Y⟩
 ·intro y hy
  by_cases hya:y=a.str
  ·rw [hya];exact a.inNames
  ·exact hw y (by simpa [hya] using hy)
theorem Cd0 (B:Bs X') (o:E) (a:At) (e:E) (iho:SE prog w X' d K o) (ihe:SE prog w X' d K e):SS prog w X' d K (N:=N) (.setAttr o a e):=by
 intro x A env ι l H s Q hm hA F S hw
 exists ux5 (Ce6 hm) λv n q y p B3=>B7 B3 λC' M5=>B5 ?_
 subst C'
 refine bn3 M5 λb0_ ho he=>?_
 clear M5
 rcases eq_of_beq b0_ with rfl
 try replace ho:=eq_of_beq ho
 try replace he:=eq_of_beq he
 refine plainObj_wpAny_Assign_Attribute (R8 (X:=FrX env) ihe he hA F S hw λva X8 aa0 X7 Z9 Z7 Z8 ra va' X9=>R8 (X:=FrX env) iho ho hA (F.step Z7) Z8 X9 λvb aa4 aa8 Z6 aa5 aa1 aa2 rb vb' q_=>?_) (T6 rfl _ _)
 exists Q0 q_ λn k f B3=>R7 B3 λe1 hn hak aa3=>B5 ?_
 clear q_
 subst e1
 exact Bc6 (X:=U8) B aa2 vb' (va'.step aa1) hn hak λh' tk Y S'=>Z9 _ _ _ _ (aa5 _ _ _ _ ⟨h',tk,aa4,_,rfl,Y.weak λ_ z=>z.elim,S',_,l,.next,((F.step Z7).step aa1).step Y,aa3⟩)
theorem Db6 (o i e:E) (iho:SE prog w X' d K o) (ihi:SE prog w X' d K i) (ihe:SE prog w X' d K e):SS prog w X' d K (N:=N) (.setSub o i e):=by
 intro x A env ι l H s Q hm hA F S hw
 exists ux5 (Dd7 hm) λv j q y p B3=>B7 B3 λC' M5=>B5 ?_
 subst C'
 refine bn4 M5 λho hi he hsl=>?_
 clear M5
 refine wpAny_Assign_Subscript (R8 (X:=FrX env) ihe he hA F S hw λva X8 aa0 X7 Z9 Z7 Z8 ra va' X9=>R8 (X:=FrX env) iho ho hA (F.step Z7) Z8 X9 λvb aa4 aa8 Z6 aa5 aa1 aa2 rb vb' aa3=>
  R8 (X:=FrX env) ihi hi hA ((F.step Z7).step aa1) aa2 aa3 λvc ad7 af2 ab0 ad6 ac2 ac6 rc vc' ac4=>?_) (T6 rfl _ _)
 refine U9 (X:=U8) (by have:=hA.units;exact o25 this) ac6 (vb'.step ac2) vc' ((va'.step aa1).step ac2) ac4 λh' tk H' Y S' hq=>Z9 _ _ _ _ (aa5 _ _ _ _ (ad6 _ _ _ _ ⟨h',tk,ad7,H',rfl,Y.weak λ_ z=>z.elim,S',_,l,.next,(((F.step Z7).step aa1).step ac2).step Y,hq⟩))
theorem Ad2 {o i:Expr} {pos:Pos} {v:Value} {Q:Unit->Shared->Prop} {E':Value->Shared->Prop} {M:Model}
  (h:wpAny M A (eval o env) (λov Z6=>wpAny M A (eval i env) (λiv ab0=>wpAny M A (setItem ov iv v) Q E' ab0) E' Z6) E' s):wpAny M A (assign (.Subscript o i pos) env v) Q E' s:=by
 rw [PySem.assign_Subscript]
 refine wpAny_bind (wpAny_holding (wpAny_mono h (λov Z6 ab4=>wpAny_bind (wpAny_holding (wpAny_mono ab4 (λiv ab0 ac0=>wpAny_bind (wpAny_standAt (wpAny_bind (wpAny_holding (wpAny_mono ac0 (λ_ ab6 ae4=>?_) λ_ _ z=>z))))) λ_ _ z=>z))) λ_ _ z=>z))
 intro Γ p hΓ
 simp only [Sem.wp_release,Sem.wp_pure']
 exact ae4
theorem v9 (hh:A.handled=none) (S:St prog w X' ι H s.heap) {vs:List (V N)} {u:Value} (hv:VR X' ι s.heap (.tup vs) u) {n:Nat} (hn:n=vs.length) {C:List Value->Shared->Prop} {E':Value->Shared->Prop}
  (hC:∀h' us,Stp X' U8 ι ι s.heap h'->St prog w X' ι H h'->VRs X' ι h' vs us->C us {s with heap:=h'}):wpAny (model prog w) A (unpackItems u n none) C E' s:=by
 refine byc λB5=>J8 (t7 hv) λt items B3=>B7 B3 λC' C5=>?_
 clear B3
 subst C'
 refine E6 C5 λht ho hvs=>B5 ?_
 clear C5 B5
 rw [hn,<-hvs.size]
 refine N9 (wpAny_unpackItems_tuple hh ht λh' hx=>λhs=>?_)
 have hk:∀a o,s.heap.get? a=some o->h'.get? a=some o:=λa o e=>hx a o (Nat.ne_of_lt (Heap.lt_size e)) e
 exact hC h' _ (Stp.of_ext hk hs) (S.more hk hs) (hvs.step (X:=U8) (Stp.of_ext hk hs))
theorem Cc0 {va vb:V N} {us:List Value} (x:VRs X' ι h [va,vb] us):∃u1 u2,us=[u1,u2]/\VR X' ι h va u1/\VR X' ι h vb u2:=x.consI λu1 r e1 a x=>x.consI λu2 r' e2 b x=>⟨u1,u2,by rw [e1,e2,x.nilI],a,b⟩
theorem Aj2 (hh:A.handled=none) (F:Fm X' env ι l s.heap) (S:St prog w X' ι H s.heap) {a b:Vr} (ha:K0 (env.scope.names.lookup a.str)=true) (hb:K0 (env.scope.names.lookup b.str)=true) {q1 q2 q3:Pos} {c:Nat}
  {va vb:V N} {u:Value} (hv:VR X' ι s.heap (.tup [va,vb]) u) {C:Unit->Shared->Prop}
  (hC:∀h' tk,Stp X' (FrX env) ι ι s.heap h'->St prog w X' ι H h'->Fm X' env ι ((l.set a va).set b vb) h'->C () {s with heap:=h',toks:=tk}):
  wpAny (model prog w) A (PySem.assign (.Tuple [.Name a.str q1,.Name b.str q2] c q3) env u) C W' s:=by
 rw [arm_assign_Tuple]
 refine wpAny_bind (wpAny_standAt ?_)
 show wpAny _ _ (unpack u [(false,PySem.assign (.Name a.str q1) env),(false,PySem.assign (.Name b.str q2) env)]) _ _ _
 unfold unpack
 refine wpAny_bind (wpAny_holding (v9 hh S hv rfl λh' us Y S' hvs=>?_))
 refine byc λB5=>J8 (Cc0 hvs) λu1 u2 B3=>B7 B3 λC' C5=>?_
 clear B3
 subst C'
 refine B7 C5 λr1 r2=>B5 ?_
 clear C5 B5
 show wpAny _ _ (do holding [u2] (PySem.assign (.Name a.str q1) env u1);(do holding [] (PySem.assign (.Name b.str q2) env u2);pure ())) _ _ _
 refine wpAny_bind (wpAny_holding (wpAny_assign_Name (V1 (s:={s with heap:=h'}) (F.step Y) S' ha r1 λh2 tk2 Y2 S2 F2=>?_)))
 refine wpAny_bind (wpAny_holding (wpAny_assign_Name (V1 (s:={s with heap:=h2,toks:=tk2}) F2 S2 hb (r2.step Y2) λh3 tk3 Y3 S3 F3=>wpAny_pure ?_)))
 exact hC h3 tk3 ((Y.weak λ_ z=>z.elim).trans (Y2.trans Y3)) S3 F3
theorem ss_set2 (a b:Vr) (e:E) (ih:SE prog w X' d K e):SS prog w X' d K (N:=N) (.set2 a b e):=by
 intro x A env ι l H s Q hm hA F S hw
 exists ux8 (mS_set2 hm) λn q1 m q2 c q3 v p B3=>B7 B3 λC' M5=>B5 ?_
 subst C'
 refine bn7 M5 λb0_ hka b2_ hkb hne he hnt=>?_
 clear M5
 rcases eq_of_beq b0_ with rfl
 try replace hka:=eq_of_beq hka
 rcases eq_of_beq b2_ with rfl
 try replace hkb:=eq_of_beq hkb
 try replace hne:=eq_of_beq hne
 try replace he:=eq_of_beq he
 try replace hnt:=eq_of_beq hnt
 refine Assign_Tuple (R8 (X:=FrX env) ih he hA F S hw λva X8 aa0 X7 Z9 Z7 Z8 ra va' q_=>?_) (by unfold swapsWithSole;exact T6 rfl _ _) ?_
 exists J8 q_ λx y B3=>B7 B3 λe1 X9=>B5 ?_
 clear q_
 ·subst e1
  exact Aj2 hA.hd (F.step Z7) Z8 hka hkb va' λh' tk Y S' F'=>Z9 _ _ _ _ ⟨h',tk,X8,aa0,rfl,Y,S',_,_,.next,F',X9⟩
 ·cases v <;> first | rfl | cases hnt
theorem Ci2 {sc:Scope} {e:E} {n:Str} {q q':Pos} (hm:mE sc e (.Name n q)=true):mE sc e (.Name n q')=true/\(n==("__debug__":Str))=false:=by
 cases e <;> first | (cases hm;done) | skip
 ·exact ⟨hm,by rw [eq_of_beq (D9 hm).1];exact Vr.noDebug _⟩
 ·exact ⟨hm,by rw [eq_of_beq (D9 hm).1];rename_i c;cases c <;> kernel_rfl⟩
theorem ss_swap (a b:Vr) (e1 e2:E) (ih1:SE prog w X' d K e1) (ih2:SE prog w X' d K e2):SS prog w X' d K (N:=N) (.swap a b e1 e2):=by
 intro x A env ι l H s Q hm hA F S hw
 exists ux13 (mS_swap hm) λn q1 m q2 c q3 n' q4 m' q5 c' q6 p B3=>B7 B3 λC' M5=>B5 ?_
 subst C'
 simp only [Ci8,Bool.and_eq_true,beq_iff_eq] at M5
 refine B7 M5 λC' he2=>?_
 clear M5
 refine B7 C' λu1_ he1=>?_
 clear C'
 obtain ⟨⟨⟨⟨⟨rfl,hka⟩,rfl⟩,hkb⟩,hne⟩,hline⟩:=u1_
 have hka':env.kindOf a.str=some .local:=hka
 have hkb':env.kindOf b.str=some .local:=hkb
 refine B7 (Ci2 (q':=q4) he1) λhe1' hd1=>?_
 refine B7 (Ci2 (q':=q5) he2) λhe2' hd2=>?_
 have hab:a.str≠b.str:=by simpa using hne
 refine Assign_Tuple_swapped (names:=[a.str,b.str]) (Tuple_ (spliced_cons (R8 (X:=FrX env) ih1 he1' hA F S hw λva X8 aa0 X7 Z9 Z7 Z8 ra va' X9=>
  spliced_cons (R8 (X:=FrX env) ih2 he2' hA (F.step Z7) Z8 X9 λvb aa4 aa8 Z6 aa5 aa1 aa2 rb vb' aa3=>spliced_nil ?_)))) (by unfold swapsWithSole;exact T6 rfl _ _) ?_
 ·have vr:VRs X' aa4 Z6.heap [ra,rb] [va,vb]:=VRs.cons (va'.step aa1) (VRs.cons vb' VRs.nil)
  have pt:=Ae8 (X:=U8) aa2 vr (Q:=λv H=>v = .tup [ra,rb]/\H=aa8) ⟨rfl,rfl⟩ (tk:=Z6.toks)
  refine wpAny_newTuple ?_ (by show 2<=sizeLine;rw [sizeLine_eq];decide)
  exists R6 pt λh3 tk3 ι3 H3 B3=>R7 B3 λes Y3 S3 C5=>C1 C5 λr3 N1=>E6 N1 λhr3 C' U5=>B5 ?_
  clear C5 N1 pt
  subst C'
  subst U5
  have L3:W9 prog w X' (FrX env) aa4 ι3 Z6 {Z6 with heap:=h3,toks:=tk3}:=λβ R c Z6 q=>q.lift (t1:=tk3) rfl (Y3.weak λ_ z=>z.elim)
  rw [es]
  refine v9 (s:={Z6 with heap:=h3,toks:=tk3}) hA.hd S3 hr3 rfl λh4 us Y4 S4 hvs=>?_
  refine byc λB5=>J8 (Cc0 hvs) λu1 u2 B3=>B7 B3 λC' C5=>?_
  clear B3
  subst C'
  refine B7 C5 λr1 r2=>B5 ?_
  clear C5 B5
  show wpAny _ _ (do holding [u1] (bindName env b.str u2);(do holding [] (bindName env a.str u1);pure ())) _ _ _
  have F4:=(((F.step Z7).step aa1).step Y3).step Y4
  refine wpAny_bind (wpAny_holding (bindName_ (V1 (s:={Z6 with heap:=h4,toks:=tk3}) F4 S4 (by rw [hkb];rfl) r2 λh5 tk5 Y5 S5 F5=>?_)))
  refine wpAny_bind (wpAny_holding (bindName_ (V1 (s:={Z6 with heap:=h5,toks:=tk5}) F5 S5 (by rw [hka];rfl) (r1.step Y5) λh6 tk6 Y6 S6 F6=>wpAny_pure ?_)))
  exact Z9 _ _ _ _ (aa5 _ _ _ _ (L3 _ _ _ _ ⟨h6,tk6,ι3,_,rfl,(Y4.weak λ_ z=>z.elim).trans (Y5.trans Y6),S6,_,_,.next,F6,aa3⟩))
 ·have hbk:env.blockKind = .function:=by unfold Env.blockKind;rw [F.kind];rfl
  have hba:(b.str==a.str)=false:=by simpa using λe=>hab e.symm
  unfold swappedStores
  have hp1:(Expr.Name a.str q1).pos=q1:=rfl
  have f1:foldedForSure 8 (.Name n' q4)=false:=rfl
  have f2:foldedForSure 8 (.Name m' q5)=false:=rfl
  have c1:constantsAlone 8 (.Name n' q4)=false:=hd1
  have c2:constantsAlone 8 (.Name m' q5)=false:=hd2
  simp [hbk,hp1,hka',hkb',hline,hab,f1,f2,c1,c2,List.eraseDups_cons,hba,List.filterMap_cons]
  done
theorem Cc9 (o i o' i' a b:E) (iho:SE prog w X' d K o) (ihi:SE prog w X' d K i) (iho':SE prog w X' d K o') (ihi':SE prog w X' d K i') (iha:SE prog w X' d K a) (ihb:SE prog w X' d K b):
  SS prog w X' d K (N:=N) (.setSub2 o i o' i' a b):=by
 intro x A env ι l H s Q hm hA F S hw
 exists ux13 (Ce5 hm) λv j q1 v' j' q2 c q3 x1 x2 c' q4 p B3=>B7 B3 λC' M5=>B5 ?_
 subst C'
 simp only [Ec2,Bool.and_eq_true] at M5
 refine B7 M5 λC' hs2=>?_
 clear M5
 refine B7 C' λu1_ hs1=>?_
 clear C'
 obtain ⟨⟨⟨⟨⟨⟨⟨⟨⟨ho,hi⟩,ho'⟩,hi'⟩,ha⟩,hb⟩,_⟩,_⟩,_⟩,_⟩:=u1_
 have hst:starEach [x1,x2] env=[(false,eval x1 env),(false,eval x2 env)]:=by rw [O' hs1,O' hs2];rfl
 have hu:A.units+80<=cLine:=by have:=hA.units;exact o25 this
 refine Assign_Tuple (Tuple_ ?_) (by unfold swapsWithSole;exact T6 rfl _ _) ?_
 ·rw [hst]
  refine spliced_cons (R8 (X:=FrX env) iha ha hA F S hw λva X8 aa0 X7 Z9 Z7 Z8 ra va' X9=>
   spliced_cons (R8 (X:=FrX env) ihb hb hA (F.step Z7) Z8 X9 λvb aa4 aa8 Z6 aa5 aa1 aa2 rb vb' aa3=>spliced_nil ?_))
  have vr:VRs X' aa4 Z6.heap [ra,rb] [va,vb]:=VRs.cons (va'.step aa1) (VRs.cons vb' VRs.nil)
  have pt:=Ae8 (X:=U8) aa2 vr (Q:=λv H=>v = .tup [ra,rb]/\H=aa8) ⟨rfl,rfl⟩ (tk:=Z6.toks)
  refine wpAny_newTuple ?_ (by show 2<=sizeLine;rw [sizeLine_eq];decide)
  exists R6 pt λh3 tk3 ι3 H3 B3=>R7 B3 λes Y3 S3 C5=>C1 C5 λr3 N1=>E6 N1 λhr3 C' U5=>B5 ?_
  clear C5 N1 pt
  subst C'
  subst U5
  have L3:W9 prog w X' (FrX env) aa4 ι3 Z6 {Z6 with heap:=h3,toks:=tk3}:=λβ R c Z6 q=>q.lift (t1:=tk3) rfl (Y3.weak λ_ z=>z.elim)
  rw [es,arm_assign_Tuple]
  refine wpAny_bind (wpAny_standAt ?_)
  show wpAny _ _ (unpack _ [(false,PySem.assign (.Subscript v j q1) env),(false,PySem.assign (.Subscript v' j' q2) env)]) _ _ _
  unfold unpack
  refine wpAny_bind (wpAny_holding (v9 (s:={Z6 with heap:=h3,toks:=tk3}) hA.hd S3 hr3 rfl λh4 us Y4 S4 hvs=>?_))
  refine byc λB5=>J8 (Cc0 hvs) λu1 u2 B3=>B7 B3 λC' C5=>?_
  clear B3
  subst C'
  refine B7 C5 λr1 r2=>B5 ?_
  clear C5 B5
  have L4:W9 prog w X' (FrX env) ι3 ι3 {Z6 with heap:=h3,toks:=tk3} {Z6 with heap:=h4,toks:=tk3}:=λβ R c Z6 q=>q.lift (t1:=tk3) rfl (Y4.weak λ_ z=>z.elim)
  show wpAny _ _ (do holding [u2] (PySem.assign (.Subscript v j q1) env u1);(do holding [] (PySem.assign (.Subscript v' j' q2) env u2);pure ())) _ _ _
  have F4:=(((F.step Z7).step aa1).step Y3).step Y4
  refine wpAny_bind (wpAny_holding (Ad2 (R8 (X:=FrX env) iho ho hA F4 S4 aa3 λvo ι5 H5 s5 L5 st5 S5 ro vo' hw5=>R8 (X:=FrX env) ihi hi hA (F4.step st5) S5 hw5 λvi ι6 H6 s6 L6 st6 S6 ri vi' hw6=>?_)))
  refine U9 (X:=U8) hu S6 (vo'.step st6) vi' ((r1.step st5).step st6) hw6 λh7 tk7 H7 Y7 S7 hw7=>?_
  have L7:W9 prog w X' (FrX env) ι6 ι6 s6 {s6 with heap:=h7,toks:=tk7}:=λβ R c Z6 q=>q.lift (t1:=tk7) rfl (Y7.weak λ_ z=>z.elim)
  have F7:=((F4.step st5).step st6).step Y7
  refine wpAny_bind (wpAny_holding (Ad2 (seqX (X:=FrX env) (iho' _ _ _ _ _ _ {s6 with heap:=h7,toks:=tk7} _ ho' hA F7 S7 hw7) λvo2 ι8 H8 s8 L8 st8 S8 ⟨ro2,vo2',hw8⟩=>R8 (X:=FrX env) ihi' hi' hA (F7.step st8) S8 hw8 λvi2 ι9 H9 s9 L9 st9 S9 ri2 vi2' hw9=>?_)))
  refine U9 (X:=U8) hu S9 (vo2'.step st9) vi2' (((((r2.step st5).step st6).step Y7).step st8).step st9) hw9 λh10 tk10 H10 Y10 S10 hw10=>wpAny_pure ?_
  exact Z9 _ _ _ _ (aa5 _ _ _ _ (L3 _ _ _ _ (L4 _ _ _ _ (L5 _ _ _ _ (L6 _ _ _ _ (L7 _ _ _ _ (L8 _ _ _ _ (L9 _ _ _ _ ⟨h10,tk10,ι9,_,rfl,Y10.weak λ_ z=>z.elim,S10,_,_,.next,((F7.step st8).step st9).step Y10,hw10⟩))))))))
 ·have hp:∀y:Expr,W2 y=true->(match y with | .Starred .. =>true | _=>false)=false:=λy hy=>by cases y <;> first | rfl | cases hy
  unfold swappedStores
  simp
theorem Db7 (o i:E) (op:BOp) (e:E) (iho:SE prog w X' d K o) (ihi:SE prog w X' d K i) (ihe:SE prog w X' d K e):SS prog w X' d K (N:=N) (.augSub o i op e):=by
 intro x A env ι l H s Q hm hA F S hw
 exists ux6 (Dd8 hm) λv j q op' y p B3=>B7 B3 λC' M5=>B5 ?_
 subst C'
 refine bn6 M5 λb0_ b1_ ho hi he hsl=>?_
 clear M5
 rcases eq_of_beq b0_ with rfl
 rcases eq_of_beq b1_ with rfl
 try replace ho:=eq_of_beq ho
 try replace hi:=eq_of_beq hi
 try replace he:=eq_of_beq he
 try replace hsl:=eq_of_beq hsl
 refine wpAny_AugAssign_SubscriptAny (R8 (X:=FrX env) iho ho hA F S hw λvo X8 aa0 X7 Z9 Z7 Z8 ro vo' X9=>R8 (X:=FrX env) ihi hi hA (F.step Z7) Z8 X9 λvi aa4 aa8 Z6 aa5 aa1 aa2 ri vi' aa3=>?_) ?_
 ·refine (Aa2 (A:=A) (E':=W') aa2 (vo'.step aa1) vi' aa3 (C:=λold ab0=>wpAny (model prog w) A (eval y env) (λv ab6=>wpAny (model prog w) A (inplaceOp .Add old v) (λnew ae2=>
      wpAny (model prog w) A (setItem vo vi new) (λ_=>Pst prog w X' (FrX env) ι s (Fof X' env Q) .next) W' ae2) W' ab6) W' ab0) λr u tk hr ac4=>?_).choose_spec.choose_spec.2.2
  ·have F2:=(F.step Z7).step aa1
   refine seqX (X:=FrX env) (ihe _ _ _ _ _ _ {Z6 with toks:=tk} _ he hA F2 aa2 ac4) λve ad2 af1 ab6 ae7 ab9 ae6 ⟨re,ve',ac3⟩=>?_
   have hr4:=hr.step ab9
   cases r with
   | int x=>
    cases re with
    | int z=>
     refine C1 (M4 hr4) λt C'=>?_
     subst C'
     refine C1 (M4 ve') λt' C'=>?_
     subst C'
     refine wpAny_iadd_int ?_
     refine U9 (X:=U8) (s:={ab6 with toks:=ab6.toks+1}) (by have:=hA.units;exact o25 this) ae6 ((vo'.step aa1).step ab9) (vi'.step ab9) (.int _ _) ac3 λh7 tk7 H7 Y7 S7 hw7=>?_
     have L4':W9 prog w X' (FrX env) aa4 ad2 Z6 ab6:=λβ R c s' q=>by
      have:=ae7 β R c s' q
      exists R6 this λh' tk' ι' H' B3=>B7 B3 λe1 r1=>B5 ?_
      clear this
      exact ⟨h',tk',ι',H',e1,r1⟩
     exact Z9 _ _ _ _ (aa5 _ _ _ _ (L4' _ _ _ _ ⟨h7,tk7,ad2,_,rfl,Y7.weak λ_ z=>z.elim,S7,_,_,.next,(F2.step ab9).step Y7,hw7⟩))
    | _=>exact ac3.elim
   | _=>exact ac3.elim
 ·intro ov iv new
  cases j <;> first | rfl | cases hsl
theorem Dh8 (c:C) (b:Ss) (ihc:SC prog w X' d K c) (ihb:SSs prog w X' d K b):SS prog w X' d K (N:=N) (.while c b):=by
 intro x A env ι l H s Q hm hA F S hw
 exists Q0 (Ea7 hm) λt ss p B3=>B7 B3 λC' M5=>B5 ?_
 subst C'
 refine bn2 M5 λhc hb=>?_
 clear M5
 exists C1 hw λI B3=>B7 B3 λC' hI=>B5 ?_
 clear hw
 refine C1 C' λn h0=>?_
 clear C'
 refine wpAny_While (codeAny_whileLoop (λn s'=>Pst prog w X' (FrX env) ι s (λ_ ι' H' h'=>∃l',Fm X' env ι' l' h'/\I n l' H') () s') (λn s' hn=>?_) n (C4 S ⟨l,F,h0⟩))
 refine byc λB5=>R6 hn λh' tk ι' H' B3=>B7 B3 λC' C5=>?_
 clear B3 hn
 subst C'
 refine E6 C5 λY' S' N1=>C1 N1 λl' r4_=>B7 r4_ λF' hi=>B5 ?_
 clear C5 N1 r4_ B5
 have L':W9 prog w X' (FrX env) ι ι' s {s with heap:=h',toks:=tk}:=λβ R c Z6 q=>q.lift (t1:=tk) rfl Y'
 refine wpAny_mono (seqX (X:=FrX env) (ihc _ _ _ _ _ _ {s with heap:=h',toks:=tk} _ hc hA F' S' (hI n l' H' hi)) λr X8 aa0 X7 Z9 Z7 Z8 X9=>(?_:(λb Z6=>_) r X7)) (λ_ _ q=>q) λ_ _ z=>z.elim
 cases r with
 | true=>
  have aa7:C2 K b (d9 (λl3 H3=>∃m,m<n/\I m l3 H3) Q) l' aa0:=X9
  refine wpAny_mono (seqFs ihb hb hA (F'.step Z7) Z8 aa7 λf aa4 aa8 Z6 aa5 aa1 aa2 fl ac8 hf ad0 aa3=>(?_:(λf ab0=>_) f Z6)) (λ_ _ q=>q) λ_ _ z=>z.elim
  cases hf with
  | next=>obtain ⟨m,hm,hi⟩:=aa3;exact ⟨m,hm,L' _ _ _ _ (Z9 _ _ _ _ (aa5 _ _ _ _ (C4 aa2 ⟨ac8,ad0,hi⟩)))⟩
  | cont=>obtain ⟨m,hm,hi⟩:=aa3;exact ⟨m,hm,L' _ _ _ _ (Z9 _ _ _ _ (aa5 _ _ _ _ (C4 aa2 ⟨ac8,ad0,hi⟩)))⟩
  | brk=>exact L' _ _ _ _ (Z9 _ _ _ _ (aa5 _ _ _ _ (C4 aa2 ⟨_,ac8,.next,ad0,aa3⟩)))
  | ret hv=>exact L' _ _ _ _ (Z9 _ _ _ _ (aa5 _ _ _ _ (C4 aa2 ⟨_,ac8,.ret hv,ad0,aa3⟩)))
 | false=>
  have aa7:Q .next l' aa0:=X9
  exact wpAny_execs_nil (L' _ _ _ _ (Z9 _ _ _ _ (C4 Z8 ⟨_,l',.next,F'.step Z7,aa7⟩)))
theorem Ed3 {R:Result->Shared->Prop} {target it body orelse env} (I:Nat->Shared->Prop)
  (turn:∀n s,I n s->wpAny (model prog w) A (pyNext it) (λr X7=>match r with
   | none=>wpAny (model prog w) A (execs orelse env) (λf ab0=>R (.ok f) ab0) W' X7
   | some v=>wpAny (model prog w) A (letOwnedTupleGo target it v) (λ_ Z6=>wpAny (model prog w) A (PySem.assign target env v) (λ_ Z6=>wpAny (model prog w) A (execs body env) (λf ab0=>match f with
    | .next | .cont=>∃m,m<n/\I m ab0
    | .brk=>R (.ok .next) ab0
    | .ret v=>R (.ok (.ret v)) ab0) W' Z6) W' Z6) W' X7) W' s)
  (n:Nat) (h:I n s):codeAny (model prog w) A (.forLoop target it body orelse env) R s:=by
 refine codeAny_loop' rfl I (λn s hI=>?_) n h
 show wpAny _ _ ((forTurn target it body orelse env).onRaise (λx=>do noteFrame x env;theTreesLotGoes x)) _ _ s
 refine wpAny_noted ?_
 simp only [forTurn]
 refine wpAny_bind (wpAny_standAt (wpAny_bind (wpAny_onRaise (wpAny_mono (turn n s hI) (λr X7 aa6=>?_) λ_ _ h'=>h'.elim))))
 cases r with
 | none=>exact wpAny_pure (.inr ⟨rfl,codeAny_block (wpAny_mono aa6 (λ_ _ q=>q) λ_ _ z=>z.elim)⟩)
 | some v=>
  refine wpAny_bind (wpAny_mono aa6 (λ_ Z6 ab4=>wpAny_bind (wpAny_mono ab4 (λ_ Z6 ab4=>wpAny_bind (wpAny_mono ab4 (λf ab0 ac0=>?_) λ_ _ h'=>h'.elim)) λ_ _ h'=>h'.elim)) λ_ _ h'=>h'.elim)
  cases f with
  | next=>exact wpAny_pure (.inl ⟨rfl,ac0⟩)
  | cont=>exact wpAny_pure (.inl ⟨rfl,ac0⟩)
  | brk=>exact wpAny_pure ac0
  | ret v=>exact wpAny_pure ac0
theorem ItAt.cls {a:Addr} {items:List (V N)} {g:Hp N->Prop} {i:Nat} (x:ItAt prog w X' a ι h items g i):
  ∃o T,h.get? a=some o/\o.cls = .type T/\["enumerate","zip","dict_itemiterator","dict_reverseitemiterator","odict_iterator","itertools.zip_longest","itertools.pairwise"].contains T=false:=by
 cases x with
 | range p q c i hi=>exact ⟨_,_,hi,rfl,by decide⟩
 | list i e hi=>obtain ⟨o,g,r,_⟩:=hi;exact ⟨o,_,g,r,by decide⟩
 | tup i ht hown hv hi=>obtain ⟨o,g,r,_⟩:=hi;exact ⟨o,_,g,r,by decide⟩
 | dict i e hi=>obtain ⟨o,g,r,_⟩:=hi;exact ⟨o,_,g,r,by decide⟩
theorem letGo {target:Expr} {a:Addr} {v:Value} {M:Model} {Q:Unit->Shared->Prop} {E':Value->Shared->Prop} (hc:∃o T,s.heap.get? a=some o/\o.cls = .type T /\
   ["enumerate","zip","dict_itemiterator","dict_reverseitemiterator","odict_iterator","itertools.zip_longest","itertools.pairwise"].contains T=false) (hQ:Q () s):
  wpAny M A (letOwnedTupleGo target (.ref a) v) Q E' s:=by
 obtain ⟨o,T,g,hc,hn⟩:=hc
 unfold letOwnedTupleGo
 split
 ·split
  ·rename_i r a' e
   cases e
   refine wpAny_bind (wpAny_load g ?_)
   rw [hc]
   split
   ·rename_i n vs e1 e2
    cases e1
    rw [hn]
    exact wpAny_pure hQ
   ·exact wpAny_pure hQ
  ·exact wpAny_pure hQ
 ·split
  ·rename_i r a' e
   cases e
   refine wpAny_bind (wpAny_load g ?_)
   rw [hc]
   split
   ·rename_i n vs e1 e2
    cases e1
    rw [hn]
    exact wpAny_pure hQ
   ·exact wpAny_pure hQ
  ·exact wpAny_pure hQ
 ·exact wpAny_pure hQ
theorem Stp.transAt {a:Addr} (x:Stp X' X ι X8 h aa6) (y:Stp X' (· = a) X8 ι' aa6 h') (ha:h.objs.size<=a):Stp X' X ι ι' h h':=by
 refine ⟨λn p e=>y.ext n p (x.ext n p e),λn p e e'=>?_,λb o ho hx e=>?_,Nat.le_trans x.size y.size⟩
 ·cases e1:X8 n with
  | none=>have:=y.fresh n p e1 e';exact ⟨Nat.le_trans x.size this.1,Nat.le_trans x.size this.2⟩
  | some q=>
   have:=y.ext n q e1
   rw [this] at e';cases e'
   exact x.fresh n q e e1
 ·exact y.keep b o (x.own (Heap.lt_size e) ho) (.inl (Nat.ne_of_lt (Nat.lt_of_lt_of_le (Heap.lt_size e) ha))) (x.keep b o ho hx e)
theorem noSet {sc:Scope} {src:Src} {x:Expr} (hm:mSrc sc src x=true) (env:Env):∀v,foldedSetIterable x env v=pure v:=by
 intro v
 cases src with
 | range es=>obtain ⟨n,q,as,p,rfl,_⟩:=Ag7 hm;rfl
 | seq e=>
  refine B7 (Bh3 hm) λ_ h2=>?_
  cases x <;> first | rfl | cases h2
theorem Dg3 (hh:A.handled=none) (F:Fm X' env ι l s.heap) (S:St prog w X' ι H s.heap) {t:Tg} {g:Expr} (hm:mTg env.scope t g=true) {v:V N} {u:Value} (hv:VR X' ι s.heap v u) {l3:Lc N} (hl:m7 t v l=some l3)
  {C:Unit->Shared->Prop} (hC:∀h' tk,Stp X' (FrX env) ι ι s.heap h'->St prog w X' ι H h'->Fm X' env ι l3 h'->C () {s with heap:=h',toks:=tk}):
  wpAny (model prog w) A (PySem.assign g env u) C W' s:=by
 cases t with
 | one x=>
  exists J8 (mTg_one hm) λn q B3=>B7 B3 λC' M5=>B5 ?_
  subst C'
  refine bn2 M5 λb0_ hk=>?_
  clear M5
  rcases eq_of_beq b0_ with rfl
  try replace hk:=eq_of_beq hk
  cases hl
  exact wpAny_assign_Name (V1 F S hk hv hC)
 | two x y=>
  exists ux6 (mTg_two hm) λn q1 m q2 c q3 B3=>B7 B3 λC' M5=>B5 ?_
  subst C'
  refine bn5 M5 λb0_ hka b2_ hkb hne=>?_
  clear M5
  rcases eq_of_beq b0_ with rfl
  try replace hka:=eq_of_beq hka
  rcases eq_of_beq b2_ with rfl
  try replace hkb:=eq_of_beq hkb
  try replace hne:=eq_of_beq hne
  cases v with
  | tup vs=>
   cases vs with
   | nil=>cases hl
   | cons a vs=>cases vs with
    | nil=>cases hl
    | cons b vs=>cases vs with
     | nil=>cases hl;exact Aj2 hh F S hka hkb hv hC
     | cons=>cases hl
  | _=>cases hl
theorem ss_for (t:Tg) (src:Src) (b:Ss) (ihs:SSrc prog w X' d K src) (ihb:SSs prog w X' d K b):SS prog w X' d K (N:=N) (.for_ t src b):=by
 intro x A env ι l H s Q hm hA F S hw
 exists R6 (mS_for hm) λg it ss p B3=>B7 B3 λC' M5=>B5 ?_
 subst C'
 refine bn3 M5 λhg hs hb=>?_
 clear M5
 refine wpAny_For (wpAny_mono (ihs _ _ _ _ _ _ _ _ hs hA F S hw) (λv X7 h1=>wpAny_mono h1 (λitv Z6 h2=>?_) λ_ _ z=>z) λ_ _ z=>z) (noSet hs env)
 obtain ⟨h2,tk2,ι2,H2,rfl,Y2,S2,a,items,gd,rfl,hba,hoa,hit,I,hI0,hI⟩:=h2
 have hXa:¬FrX env a:=λz=>Nat.not_lt.mpr hba (FrX.above F z).2.2
 have hb0:X'.objs.size<=a:=Nat.le_trans S.size hba
 refine Ed3 (λn s'=>Pst prog w X' (FrX env) ι s (λ_ ι' H' h'=>∃i l',n+i=items.length+1/\Fm X' env ι' l' h'/\¬q7 X' ι' a/\ItAt prog w X' a ι' h' items gd i/\I i l' H') () s') (λn s' hn=>?_) (items.length+1)
  ⟨h2,tk2,ι2,H2,rfl,Y2.weak λ_ z=>z.elim,S2,0,l,rfl,F.step Y2,hoa,hit,hI0⟩
 refine byc λB5=>R6 hn λh' tk ι' H' B3=>B7 B3 λC' C5=>?_
 clear B3 hn
 subst C'
 refine E6 C5 λY' S' N1=>J8 N1 λi l' r4_=>un5 r4_ λhni F' ho' hit' hi=>B5 ?_
 clear C5 N1 r4_ B5
 refine B7 (hI i l' H' hi) λhgd hi2=>?_
 have hcls:=hit'.cls
 refine Db1 (s:={s with heap:=h',toks:=tk}) hA.hd S' hgd hit' ho' hb0 λr h3 tk3 Y3 S3 hr=>?_
 have Y03:Stp X' (FrX env) ι ι' s.heap h3:=Y'.transAt Y3 hba
 have F3:Fm X' env ι' l' h3:=F'.stepX Y3 λb hb e=>hXa (e▸hb)
 have L3:W9 prog w X' (FrX env) ι ι' s {s with heap:=h3,toks:=tk3}:=λβ R c Z6 q=>q.lift (t1:=tk3) rfl Y03
 cases hitem:items[i]? with
 | none=>
  rw [hitem] at hr hi2
  subst hr
  exact wpAny_execs_nil (L3 _ _ _ _ (C4 (s:={s with heap:=h3,toks:=tk3}) S3 ⟨_,l',.next,F3,hi2⟩))
 | some v=>
  rw [hitem] at hr hi2
  refine byc λB5=>C1 hr λu B3=>B7 B3 λC' C5=>?_
  clear B3 hr
  subst C'
  refine B7 C5 λhv hit3=>B5 ?_
  clear C5 B5
  exists C1 hi2 λl3 B3=>B7 B3 λhl3 hw3=>B5 ?_
  clear hi2
  refine letGo hit3.cls ?_
  refine Dg3 (s:={s with heap:=h3,toks:=tk3}) hA.hd F3 S3 hg hv hl3 λh4 tk4 Y4 S4 F4=>?_
  have hlt:i<items.length:=(List.getElem?_eq_some_iff.mp hitem).1
  have it4:=hit3.step (ho') hXa Y4
  have al:a<h3.objs.size:=by obtain ⟨o,_,g,_⟩:=hit3.fields;exact Heap.lt_size g
  refine seqP (s:={s with heap:=h4,toks:=tk4}) (ihb _ _ _ _ _ _ _ _ hb hA F4 S4 hw3) λf ι5 H5 s5 L5 st5 S5 ⟨fl,l5,hf,F5,hw5⟩=>?_
  have L4:W9 prog w X' (FrX env) ι' ι' {s with heap:=h3,toks:=tk3} {s with heap:=h4,toks:=tk4}:=λβ R c Z6 q=>q.lift (t1:=tk4) rfl Y4
  have al4:a<h4.objs.size:=Nat.lt_of_lt_of_le al Y4.size
  have ho5:¬q7 X' ι5 a:=st5.own al4 ho'
  have it5:=it4.step ho' hXa st5
  have again:I (i+1) l5 H5->∃m,m<n/\Pst prog w X' (FrX env) ι s (λ_ ι' H' h'=>∃i l',m+i=items.length+1/\Fm X' env ι' l' h'/\¬q7 X' ι' a/\ItAt prog w X' a ι' h' items gd i/\I i l' H') () s5:=
   λhi5=>⟨n-1,o64 hni hlt,L3 _ _ _ _ (L4 _ _ _ _ (L5 _ _ _ _ (C4 S5 ⟨i+1,l5,o65 hni hlt,F5,ho5,it5,hi5⟩)))⟩
  cases hf with
  | next=>exact again hw5
  | cont=>exact again hw5
  | brk=>exact L3 _ _ _ _ (L4 _ _ _ _ (L5 _ _ _ _ (C4 S5 ⟨_,l5,.next,F5,hw5⟩)))
  | ret hv=>exact L3 _ _ _ _ (L4 _ _ _ _ (L5 _ _ _ _ (C4 S5 ⟨_,l5,.ret hv,F5,hw5⟩)))
theorem Cg1 (hc:∀n:Str,env.kindOf n=some .cell->∃c,env.cells.lookup n=some c) (names:List (Str×NameKind)) (h:∀x∈names,x.2 = .free->env.kindOf x.1=some .cell) (cs:List (Str×Addr)):
  ∃cl,(forIn names cs λ(x:Str×NameKind) r=>if x.2 == .free then (do let a ← cellOf env x.1;pure (.yield ((x.1,a)::r))) else pure (.yield r):Sem (List (Str×Addr)))=pure cl /\
   (∀n a,(n,a)∈cl->(n,a)∈cs\/((n,NameKind.free)∈names/\env.cells.lookup n=some a))/\(∀n,(n,NameKind.free)∈names->∃a,(n,a)∈cl)/\(∀p∈cs,p∈cl) /\
   ((cs.map (·.1)).Nodup->(∀x∈names,x.1∉cs.map (·.1))->(names.map (·.1)).Nodup->(cl.map (·.1)).Nodup):=by
 induction names generalizing cs with
 | nil=>exact ⟨cs,rfl,λn a hm=>.inl hm,λn hm=>by simp at hm,λp hp=>hp,λhn _ _=>hn⟩
 | cons x names ih=>
  rw [List.forIn_cons]
  by_cases hx:x.2 = .free
  ·refine C1 (hc x.1 (h x List.mem_cons_self hx)) λc hcc=>?_
   exists C1 (ih (λy hy=>h y (List.mem_cons_of_mem _ hy)) ((x.1,c)::cs)) λcl B3=>un5 B3 λe h1 h2 h3 h4=>B5 ?_
   have hcell:cellOf env x.1=pure c:=by unfold cellOf;rw [hcc]
   refine ⟨cl,?_,λn a hm=>?_,λn hm=>?_,λp hp=>h3 p (List.mem_cons_of_mem _ hp),λhn ha hd=>?_⟩
   ·rw [<-e]
    have:(x.2==NameKind.free)=true:=by rw [hx];rfl
    rw [if_pos this,hcell]
    rfl
   ·rcases h1 n a hm with h1 | q_
    ·rcases List.mem_cons.mp h1 with h1 | h1
     ·cases h1
      refine .inr ⟨?_,hcc⟩
      rw [<-hx];exact List.mem_cons_self
     ·exact .inl h1
    ·refine B7 q_ λh1 h5=>?_
     clear q_
     exact .inr ⟨List.mem_cons_of_mem _ h1,h5⟩
   ·rcases List.mem_cons.mp hm with hm | hm
    ·subst hm
     exact ⟨c,h3 _ List.mem_cons_self⟩
    ·exact h2 n hm
   ·rw [List.map_cons,List.nodup_cons] at hd
    refine h4 ?_ ?_ hd.2
    ·rw [List.map_cons,List.nodup_cons];exact ⟨ha x List.mem_cons_self,hn⟩
    ·intro y hy hmem
     rw [List.map_cons] at hmem
     rcases List.mem_cons.mp hmem with e1 | e1
     ·exact hd.1 (e1▸List.mem_map_of_mem hy)
     ·exact ha y (List.mem_cons_of_mem _ hy) e1
  ·exists C1 (ih (λy hy=>h y (List.mem_cons_of_mem _ hy)) cs) λcl B3=>un5 B3 λe h1 h2 h3 h4=>B5 ?_
   refine ⟨cl,?_,λn a hm=>?_,λn hm=>?_,h3,λhn ha hd=>?_⟩
   ·rw [<-e]
    have:¬(x.2==NameKind.free)=true:=by simpa using hx
    rw [if_neg this]
    rfl
   ·exact (h1 n a hm).imp id λz=>⟨List.mem_cons_of_mem _ z.1,z.2⟩
   ·rcases List.mem_cons.mp hm with hm | hm
    ·subst hm;exact absurd rfl hx
    ·exact h2 n hm
   ·rw [List.map_cons,List.nodup_cons] at hd
    exact h4 hn (λy hy=>ha y (List.mem_cons_of_mem _ hy)) hd.2
theorem Aj8 (hc:∀n:Str,env.kindOf n=some .cell->∃c,env.cells.lookup n=some c) (sc:Scope) (h:∀x∈sc.names,x.2 = .free->env.kindOf x.1=some .cell) (hd:(sc.names.map (·.1)).Nodup):
  ∃cl,closureFor sc env=pure cl/\(∀n a,(n,a)∈cl->(n,NameKind.free)∈sc.names/\env.cells.lookup n=some a)/\(∀n,(n,NameKind.free)∈sc.names->∃a,(n,a)∈cl)/\(cl.map (·.1)).Nodup:=by
 exists C1 (Cg1 hc sc.names h []) λcl B3=>un5 B3 λe h1 h2 _ h4=>B5 ?_
 refine ⟨cl,?_,λn a hm=>(h1 n a hm).resolve_left (by simp),h2,h4 (by simp) (by simp) hd⟩
 unfold closureFor
 have e2:(forIn sc.names ([]:List (Str×Addr)) λ(x:Str×NameKind) r=>if x.2 == .free then (do let a ← cellOf env x.1;pure (.yield ((x.1,a)::r))) else pure (.yield r):Sem (List (Str×Addr)))>>=pure=pure cl:=by rw [e];rfl
 exact e2
theorem it_self {a:Addr} {items:List (V N)} {g:Hp N->Prop} {i:Nat} (x:ItAt prog w X' a ι s.heap items g i) {Q:Value->Shared->Prop} {E':Value->Shared->Prop} (h:Q (.ref a) s):wpAny (model prog w) A (pyIter (.ref a)) Q E' s:=by
 cases x with
 | range p q c i hi=>exact wpAny_pyIter_rangeiter hi h
 | list i e hi=>exact wpAny_pyIter_listiter hi h
 | tup i ht hown hv hi=>exact wpAny_pyIter_tupleiter hi h
 | dict i e hi=>exact wpAny_pyIter_keyiter hi h
theorem Vr.noDot1 (x:Vr):(x.str==(".0":Str))=false:=by cases x <;> first | contradiction | kernel_rfl
theorem Vr.noDot0 (x:Vr):x.str≠(".0":Str):=ne_of_beq_false x.noDot1
theorem Q2 {β:Type} {xs:List (Str×β)} (hn:(xs.map (·.1)).Nodup) {n:Str} {b:β} (hm:(n,b)∈xs):xs.lookup n=some b:=by
 induction xs with
 | nil=>simp at hm
 | cons x xs ih=>
  rw [List.map_cons,List.nodup_cons] at hn
  rw [List.lookup_cons]
  rcases List.mem_cons.mp hm with rfl | hm
  ·simp
  ·have:(n==x.1)=false:=by
    simp only [beq_eq_false_iff_ne]
    rintro rfl
    exact hn.1 (List.mem_map.mpr ⟨_,hm,rfl⟩)
   rw [this];exact ih hn.2 hm
theorem Ac7 {isc:Scope} {n:Str} {k:NameKind} (hm:(n,k)∈(relabel isc env).names):(n,k)∈isc.names\/(k = .cell/\(n,NameKind.free)∈isc.names):=by
 exists C1 (List.mem_map.mp hm) λC' B3=>B7 B3 λM5 e=>B5 ?_
 obtain ⟨n',k'⟩:=C'
 simp only at e
 split at e
 ·rename_i hh
  simp only [Bool.and_eq_true,beq_iff_eq] at hh
  cases e
  exact .inr ⟨rfl,by rw [<-hh.1.1];exact M5⟩
 ·cases e;exact .inl M5
structure Ef1 (env:Env) (isc:Scope) (n:Str):Prop where
 kind:isc.kind = .function
 noCell:∀x∈isc.names,x.2 ≠ .cell
 free:∀x∈isc.names,x.2 = .free->env.kindOf x.1=some .cell
 loc:∀x∈isc.names,x.2 = .local->isc.names.lookup x.1=some .local
 here:isc.names.lookup n=some .local
 nodup:(isc.names.map (·.1)).Nodup
 only:∀x∈isc.names,x.2 = .local->x.1=n\/x.1=(".0":Str)
theorem Df1 {isc:Scope} {n:Str} (h:Be8 env.scope isc n=true):Ef1 env isc n:=by
 unfold Be8 at h
 simp only [Bool.and_eq_true,List.all_eq_true,Bool.or_eq_true,bne_iff_ne,beq_iff_eq,decide_eq_true_eq,ne_eq] at h
 refine B7 h λC' h6=>?_
 clear h
 refine B7 C' λu1_ h5=>?_
 clear C'
 obtain ⟨⟨⟨h1,h2⟩,h3⟩,h4⟩:=u1_
 refine ⟨h1,λx hx=>(h2 x hx).1.1,λx hx e=>?_,λx hx e=>?_,h3,h5,λx hx e=>?_⟩
 ·rcases (h2 x hx).1.2 with h | h
  ·exact absurd e h
  ·exact h
 ·rcases (h2 x hx).2 with h | h
  ·exact absurd e h
  ·exact h
 ·rcases h6 x hx with (h | h) | h
  ·exact absurd e h
  ·exact .inl h
  ·exact .inr h
theorem Cf8 (F:Fm X' env ι l h) {isc:Scope} {y:Vr} (O:Ef1 env isc y.str) {cl:List (Str×Addr)} (hcl:∀n a,(n,a)∈cl->(n,NameKind.free)∈isc.names/\env.cells.lookup n=some a)
  (hfr:∀n,(n,NameKind.free)∈isc.names->∃a,(n,a)∈cl) (hnd:(cl.map (·.1)).Nodup) {C:Addr} (hC:h.Ns C λ_=>none) (hb:X'.objs.size<=C) (ho:¬q7 X' ι C) (hne:∀n c,(n,c)∈env.cells->c≠C):
  Fm X' (compEnvC isc cl C env) ι (λz=>if z=y then none else l z) h:=by
 have kd:∀n,(compEnvC isc cl C env).kindOf n=(relabel isc env).names.lookup n:=λn=>rfl
 have mem:∀n c,(n,c)∈cl->(n,c)∈env.cells:=λn c hm=>mem_of_lookup (hcl n c hm).2
 have cellOf:∀n,(compEnvC isc cl C env).kindOf n=some .cell->∃a,cl.lookup n=some a/\env.cells.lookup n=some a/\env.kindOf n=some .cell:=by
  intro n hk
  rw [kd] at hk
  rcases Ac7 (mem_of_lookup hk) with hm | q_
  ·exact absurd rfl (O.noCell _ hm)
  ·refine B7 q_ λ_ hm=>?_
   clear q_
   refine C1 (hfr n hm) λa ha=>?_
   exact ⟨a,Q2 hnd ha,(hcl n a ha).2,O.free _ hm rfl⟩
 refine ⟨O.kind,F.glob,F.blt,⟨_,hC,λz v hl hk=>?_⟩,λz hk=>?_,ho,λn c hm=>?_,?_,hb,λn c hm=>F.aboveC n c (mem n c hm),λn c hm=>F.ltC n c (mem n c hm),λn hk=>?_⟩
 ·rw [kd] at hk
  rcases Ac7 (mem_of_lookup hk) with hm | q_
  ·rcases O.only _ hm rfl with e | e
   ·rw [if_pos (Vr.str_inj e)] at hl;cases hl
   ·exact absurd e z.noDot0
  ·refine B7 q_ λe _=>?_
   clear q_
   cases e
 ·exists C1 (cellOf z.str hk) λa B3=>E6 B3 λh1 h2 h3=>B5 ?_
  exists C1 (F.cell z h3) λc B3=>B7 B3 λhc C5=>C1 C5 λv0 N1=>B7 N1 λhcell hv=>B5 ?_
  clear C5 N1
  rw [h2] at hc;cases hc
  refine ⟨a,h1,v0,hcell,λv hl=>hv v ?_⟩
  split at hl
  ·cases hl
  ·exact hl
 ·exact ⟨(F.offC n c (mem n c hm)).1,hne n c (mem n c hm)⟩
 ·have key:∀cl':List (Str×Addr),(∀p∈cl',p∈env.cells)->(cl'.map (·.1)).Nodup->cl'.Pairwise λx y=>x.2≠y.2:=by
   intro cl'
   induction cl' with
   | nil=>intro _ _;exact List.Pairwise.nil
   | cons p cl' ih=>
    intro hm hn
    rw [List.map_cons,List.nodup_cons] at hn
    refine List.pairwise_cons.mpr ⟨λq hq e=>?_,ih (λr hr=>hm r (List.mem_cons_of_mem _ hr)) hn.2⟩
    have h1:=hm p List.mem_cons_self
    have h2:=hm q (List.mem_cons_of_mem _ hq)
    have:p.1=q.1:=name_of_addr F.apart (n:=p.1) (n':=q.1) (c:=p.2) h1 (by rw [e];exact h2)
    exact hn.1 (this▸List.mem_map_of_mem hq)
  exact key cl (λp hp=>mem p.1 p.2 hp) hnd
 ·exists C1 (cellOf n hk) λa B3=>B7 B3 λh1 _=>B5 ?_
  exact ⟨a,h1⟩
theorem Ba3 {n:N} {a b:Addr} {items:Array Value} (hl:h.PlainList a items) (hb:¬q7 X' ι b) {o:Obj} (hg:h.get? b=some o) (hc:o.cls = .type "tuple"):¬q7 X' (ι.set n (a,a)) b:=by
 intro q_
 exists B7 q_ λh1 B3=>J8 B3 λm p C5=>B7 C5 λe hp=>B5 ?_
 clear C5 q_
 unfold Nm.set at e
 split at e
 ·cases e
  refine C1 hl λk g=>?_
  clear hl
  have:b=a:=by rcases hp with hp | hp <;> exact hp
  subst this
  rw [hg] at g;cases g
  simp at hc
 ·exact hb ⟨h1,m,p,e,hp⟩
theorem VR.adopt {v:V N} {u:Value} (x:VR X' ι h v u) {n:N} {a:Addr} {items:Array Value} (hi:ι n=Option.none) (hl:h.PlainList a items):VR X' (ι.set n (a,a)) h v u:=by
 induction x with
 | none=>exact .none
 | bool=>exact .bool _
 | int=>exact .int _ _
 | @ref m p e=>
  refine .ref ?_
  unfold Nm.set
  rw [if_neg (by rintro rfl;rw [hi] at e;cases e)];exact e
 | tup ht ho hs hv ih=>
  exists C1 (id ht) λo B3=>E6 B3 λg hc C5=>C1 C5 λk hd=>B5 ?_
  clear C5
  exact .tup ht (Ba3 hl ho g hc) hs ih
theorem VRs.adopt {vs:List (V N)} {us:List Value} (x:VRs X' ι h vs us) {n:N} {a:Addr} {items:Array Value} (hi:ι n=Option.none) (hl:h.PlainList a items):VRs X' (ι.set n (a,a)) h vs us:=
 ⟨x.1,λi v u e e'=>(x.2 i v u e e').adopt hi hl⟩
theorem OR.adopt {p:Addr×Addr} {o:O N} (x:OR prog w X' ι h p o) {n:N} {a:Addr} {items:Array Value} (hi:ι n=Option.none) (hl:h.PlainList a items):OR prog w X' (ι.set n (a,a)) h p o:=by
 cases o with
 | list xs=>obtain ⟨a1,a2,its,b,v⟩:=x;exact ⟨a1,a2,its,b,v.adopt hi hl⟩
 | flist xs=>obtain ⟨a1,a2,its,b,v⟩:=x;exact ⟨a1,a2,its,b,v.adopt hi hl⟩
 | idict es ep=>obtain ⟨a1,a2,kvs,b,hk,v⟩:=x;exact ⟨a1,a2,kvs,b,hk,v.adopt hi hl⟩
 | tdict es=>
  exists E6 x λa1 a2 B3=>C1 B3 λxs C5=>R7 C5 λb hk v hn=>B5 ?_
  clear C5 x
  refine ⟨a1,a2,xs,b,hk,v.adopt hi hl,λx hx=>?_⟩
  exists Q0 b λo es' ep B3=>un6 B3 λg r1 r2 r3 r4 r5=>B5 ?_
  clear b
  exists Q0 (r4 x hx) λok its k B3=>E6 B3 λg' hc _=>B5 ?_
  exact Ba3 hl (hn x hx) g' hc
 | inst k f=>
  exists E6 x λa1 a2 B3=>J8 B3 λob mA C5=>un8 C5 λg hc hnc hd hne hns hv hw=>B5 ?_
  clear C5 x
  exact ⟨a1,a2,ob,mA,g,hc,hnc,hd,hne,hns,λq v hq=>let ⟨z0,u,z1,z2⟩:=hv q v hq;⟨z0,u,z1,z2.adopt hi hl⟩,hw⟩
theorem St.adopt (S:St prog w X' ι H h) {n:N} (hn:H n=Option.none) {a:Addr} (hb:X'.objs.size<=a) (ho:¬q7 X' ι a) {items:Array Value} (hl:h.PlainList a items) {xs:List (V N)} (hv:VRs X' ι h xs items.toList):
  St prog w X' (ι.set n (a,a)) (H.set n (.list xs)) h:=by
 have hi:=S.dom n hn
 have ne:∀m q,ι m=some q->q.1≠a/\q.2≠a:=λm q e=>⟨by rintro rfl;exact ho ⟨hb,m,q,e,.inl rfl⟩,by rintro rfl;exact ho ⟨hb,m,q,e,.inr rfl⟩⟩
 refine ⟨S.keep,λm o e=>?_,λm m' p p' e e' hne=>?_,λm q e=>?_,S.size,λm e=>?_⟩
 ·unfold Hp.set at e
  split at e
  ·rename_i hm;subst hm;cases e
   exact ⟨(a,a),by simp [Nm.set],hb,hb,items,hl,hv.adopt hi hl⟩
  ·rename_i hm
   exists C1 (S.obj m o e) λp B3=>B7 B3 λe1 r=>B5 ?_
   exact ⟨p,by simp [Nm.set,hm,e1],r.adopt hi hl⟩
 ·unfold Nm.set at e e'
  split at e <;> split at e'
  ·rename_i h1 h2;exact absurd (h1.trans h2.symm) hne
  ·cases e;have:=ne _ _ e';exact ⟨this.1.symm,this.2.symm,this.1.symm,this.2.symm⟩
  ·cases e';have:=ne _ _ e;exact ⟨this.1,this.1,this.2,this.2⟩
  ·exact S.sep m m' p p' e e' hne
 ·unfold Nm.set at e
  split at e
  ·cases e;obtain ⟨k,g⟩:=hl;exact ⟨⟨_,g⟩,⟨_,g⟩⟩
  ·exact S.liv m q e
 ·unfold Hp.set at e
  unfold Nm.set
  split at e
  ·cases e
  ·rename_i hm;rw [if_neg hm];exact S.dom m e
theorem Stp.adopt (x:Stp X' X ι ι' h h') {n:N} (hn:ι' n=Option.none) {a:Addr} (ha:h.objs.size<=a):Stp X' X ι (ι'.set n (a,a)) h h':=by
 refine ⟨λm p e=>?_,λm p e e'=>?_,x.keep,x.size⟩
 ·have h1:=x.ext m p e
  unfold Nm.set
  rw [if_neg (by rintro rfl;rw [hn] at h1;cases h1)];exact h1
 ·unfold Nm.set at e'
  split at e'
  ·cases e';exact ⟨ha,ha⟩
  ·exact x.fresh m p e e'
theorem Heap.PlainList.step {a:Addr} {items:Array Value} (hl:h.PlainList a items) (ho:¬q7 X' ι a) (hX:¬X a) (y:Stp X' X ι ι' h h'):h'.PlainList a items:=
 hl.at λo e=>y.keep a o ho (.inl hX) e
def Ef0 (prog:Program) (w:World) (X':Heap) (d:Nat) (K:Calls N):Cs->Prop
 | .nil=>True
 | .cons c _=>SC prog w X' d K c
theorem Cc6 {cond:Cs} (ihc:Ef0 prog w X' d K cond) {ifs:List Expr} {cenv:Env} (hm:mCs cenv.scope cond ifs=true) (hlen:ifs.length<=1) (hA:AOk d A) (F:Fm X' cenv ι l s.heap) (S:St prog w X' ι H s.heap) {Q:Bool->Hp N->Prop}
  (hw:W1 K cond l Q H):wpAny (model prog w) A (forIn ifs true λc r=>if r=true then do let ok ← isTrue c cenv (eval c cenv);pure (ForInStep.yield ok) else pure (ForInStep.yield r)) (Pst prog w X' U8 ι s (Bof Q)) W' s:=by
 cases ifs with
 | nil=>
  cases cond <;> first | (cases hm;done) | skip
  exact wpAny_tests_nil (C4 S hw)
 | cons c ifs=>
  cases ifs with
  | cons=>simp at hlen
  | nil=>
   cases cond with
   | nil=>cases hm
   | cons c' cs=>
    cases cs with
    | cons=>obtain ⟨_,h0⟩:=D9 hm;cases h0
    | nil=>
     exists J8 (Ag9 hm) λ_ _ B3=>E6 B3 λe0 hm _=>B5 ?_
     cases e0
     have hw':wpC K c' l (λb H1=>if b then W1 K .nil l Q H1 else Q false H1) H:=hw
     refine wpAny_tests_one (wpAny_mono (ihc _ _ _ _ _ _ _ _ hm hA F S hw') (λb s' q=>q.mono λι' H' h' r=>?_) λ_ _ z=>z)
     have r':if b=true then W1 K .nil l Q H' else Q false H':=r
     cases b with
     | true=>exact r'
     | false=>exact r'
theorem se_comp (elt:E) (y:Vr) (src:Src) (cond:Cs) (ihs:SSrc prog w X' d K src) (ihc:Ef0 prog w X' d K cond) (ihe:SE prog w X' d K elt):SE prog w X' d K (N:=N) (.comp elt y src cond):=by
 intro x A env ι l H s Q hm hA F S hw
 exists ux7 (mE_comp hm) λe n q it ifs isc pos B3=>B7 B3 λC' M5=>B5 ?_
 subst C'
 refine bn6 M5 λb0_ hok hsrc helt hcond hlen=>?_
 clear M5
 rcases eq_of_beq b0_ with rfl
 try replace hok:=eq_of_beq hok
 try replace hok:=of_decide_eq_true hok
 try replace hsrc:=eq_of_beq hsrc
 try replace hsrc:=of_decide_eq_true hsrc
 try replace helt:=eq_of_beq helt
 try replace helt:=of_decide_eq_true helt
 try replace hcond:=eq_of_beq hcond
 try replace hcond:=of_decide_eq_true hcond
 try replace hlen:=eq_of_beq hlen
 try replace hlen:=of_decide_eq_true hlen
 have O:=Df1 hok
 exists C1 (Aj8 F.cells isc O.free O.nodup) λcl B3=>R7 B3 λhclos hcl hfr hnd=>B5 ?_
 rw [eval_ListComp]
 refine wpAny_comprehension_free (use:=none) rfl (noSet hsrc env) hclos O.kind O.loc (wpAny_mono (ihs _ _ _ _ _ _ _ _ hsrc hA F S hw) (λv X7 h1=>wpAny_mono h1 (λitv Z6 p2=>?_) λ_ _ z=>z) λ_ _ z=>z)
 refine byc λB5=>R6 p2 λh2 tk2 ι2 H2 B3=>B7 B3 λC' C5=>?_
 clear B3 p2
 subst C'
 refine E6 C5 λY2 S2 N1=>Q0 N1 λa items gd r4_=>B7 r4_ λU5 r5_=>?_
 clear C5 N1 r4_
 subst U5
 refine R7 r5_ λhba hoa hit r6_=>C1 r6_ λI r7_=>B7 r7_ λhI0 hI=>B5 ?_
 clear r5_ r6_ r7_ B5
 refine wpAny_newObj_type (wpAny_newFunctionEnv O.noCell (by intro y hy;simp at hy) (λaa6 ab8 ab3=>?_) O.kind)
 dsimp only at ab8 ab3 ⊢
 generalize hHD:h2.push {cls:=.type "list",dict:=none,data:=.seq ([]:List Value).toArray}=HD at ab8 ab3 ⊢
 generalize hD:h2.objs.size=D at *
 generalize hC:HD.objs.size=C at *
 have hCD:C=D+1:=by rw [<-hC,<-hHD,Heap.size_push,hD]
 have hDC:D≠C:=by rw [hCD];exact Nat.ne_of_lt (Nat.lt_succ_self _)
 have hsD:s.heap.objs.size<=D:=hD▸Y2.size
 have hsC:s.heap.objs.size<=C:=by rw [hCD];exact Nat.le_succ_of_le hsD
 have haD:a<D:=by obtain ⟨o,_,g,_⟩:=hit.fields;rw [<-hD];exact Heap.lt_size g
 have haC:a<C:=by rw [hCD];exact Nat.lt_succ_of_lt haD
 have hb0:X'.objs.size<=a:=Nat.le_trans S.size hba
 have hbD:X'.objs.size<=D:=Nat.le_trans S.size hsD
 have hbC:X'.objs.size<=C:=Nat.le_trans S.size hsC
 have ac5:h2.objs.size<=aa6.objs.size:=by rw [ab3.1,Heap.size_push,hC,hCD,hD];exact o29
 have up:∀b o,h2.get? b=some o->aa6.get? b=some o:=λb o eb=>by
  have hlt:=Heap.lt_size eb
  rw [hD] at hlt
  refine ab3.extBut b o (by rw [hCD];exact Nat.ne_of_lt (Nat.lt_succ_of_lt hlt)) (Heap.get?_push_of_some _ ?_)
  rw [<-hHD];exact Heap.get?_push_of_some _ eb
 have Y1:Stp X' U8 ι2 ι2 h2 aa6:=Stp.of_ext up ac5
 have S1:St prog w X' ι2 H2 aa6:=S2.more up ac5
 have hlD:aa6.PlainList D #[]:=by
  refine ⟨0,ab3.extBut _ _ hDC (Heap.get?_push_of_some _ ?_)⟩
  rw [<-hHD,<-hD];exact Heap.get?_push_size _ rfl
 have ownD:¬q7 X' ι2 D:=i6 S2 (Nat.le_of_eq hD)
 have ownC:¬q7 X' ι2 C:=i6 S2 (by rw [hD,hCD];exact Nat.le_succ _)
 have F1:Fm X' (compEnvC isc cl C env) ι2 (λz=>if z=y then none else l z) aa6:=
  Cf8 ((F.step Y2).step Y1) O hcl hfr hnd ab8 hbC ownC λn c hmem=>Nat.ne_of_lt (Nat.lt_of_lt_of_le (F.ltC n c hmem) hsC)
 have frX:∀b,FrX (compEnvC isc cl C env) b->b=C\/b<s.heap.objs.size:=by
  rintro b (rfl | ⟨n,hn⟩)
  ·exact .inl rfl
  ·exact .inr (F.ltC n b (mem_of_lookup (hcl n b hn).2))
 have setEq:∀(lc:Lc N) v,(∀z,z≠y->lc z=l z)->lc.set y v=l.set y v:=by
  intro lc v hl;funext z;unfold Lc.set
  by_cases hz:z=y
  ·rw [if_pos hz,if_pos hz]
  ·rw [if_neg hz,if_neg hz];exact hl z hz
 let Inv:Nat->Shared->Prop:=λn s'=>Pst prog w X' U8 ι s (λ_ ι' H' h'=>∃i acc its lc,n+i=items.length+1/\(∀z,z≠y->lc z=l z)/\Fm X' (compEnvC isc cl C env) ι' lc h'/\¬q7 X' ι' a/\ItAt prog w X' a ι' h' items gd i /\
  ¬q7 X' ι' D/\h'.PlainList D its/\VRs X' ι' h' acc its.toList/\I i acc H') () s'
 have start:∀tk,Inv (items.length+1) {s with heap:=aa6,toks:=tk}:=λtk=>
  ⟨aa6,tk,ι2,H2,rfl,Y2.trans Y1,S1,0,[],#[],_,rfl,λz hz=>if_neg hz,F1,hoa,hit.step hoa (λz=>z) Y1,ownD,hlD,VRs.nil,hI0⟩
 have loop:∀tk,codeAny (model prog w) A (.compLoop (.ListComp e [⟨.Name y.str q,it,ifs,0⟩] isc pos) 0 (.ref a) (.ref D) (compEnvC isc cl C env))
   (compPost (model prog w) A W' none (Pst prog w X' U8 ι s (Vof X' Q)) (.ref D) C) {s with heap:=aa6,toks:=tk}:=by
  intro tk
  refine codeAny_compLoop_tests Inv (λn s' hn=>?_) (items.length+1) (start tk)
  refine byc λB5=>R6 hn λh' tk' ι' H' B3=>B7 B3 λC' C5=>?_
  clear B3 hn
  subst C'
  refine E6 C5 λY' S' N1=>R6 N1 λi acc its lc r4_=>un9 r4_ λhni hlc F' ho' hit' hoD hpl hvs hi=>B5 ?_
  clear C5 N1 r4_ B5
  refine E6 (hI i acc H' hi) λhgd hal hi2=>?_
  have aD:a≠D:=Nat.ne_of_lt haD
  have aC:a≠C:=Nat.ne_of_lt haC
  have dLive:∀{hh:Heap} {its:Array Value},hh.PlainList D its->D<hh.objs.size:=λ⟨k,g⟩=>Heap.lt_size g
  refine wpAny_mono (Db1 (s:={s with heap:=h',toks:=tk'}) (E':=W') hA.hd S' hgd hit' ho' hb0 (Q:=λr X7=>_) λr h3 tk3 Y3 S3 hr=>?_) (λ_ _ z=>z) λ_ _ z=>z.elim
  have Y03:Stp X' U8 ι ι' s.heap h3:=Y'.transAt Y3 hba
  have F3:Fm X' (compEnvC isc cl C env) ι' lc h3:=F'.stepX Y3 λb hb e=>by
   subst e
   rcases frX _ hb with hb | hb
   ·exact aC hb
   ·exact Nat.not_lt.mpr hba hb
  have hpl3:h3.PlainList D its:=Heap.PlainList.step hpl hoD (λe=>aD e.symm) Y3
  have hvs3:=hvs.step Y3
  cases hitem:items[i]? with
  | none=>
   rw [hitem] at hr hi2
   subst hr
   exists C1 hi2 λm B3=>B7 B3 λhmn hq=>B5 ?_
   clear hi2
   exists C1 F3.ns λmC B3=>B7 B3 λhnC _=>B5 ?_
   refine ⟨mC,hnC,λh4 hs4=>?_⟩
   exists Q0 (id hnC) λo es ep B3=>E6 B3 λeg hd _=>B5 ?_
   refine B7 (S3.changeAt F3.offL hbC ⟨o,_,eg,hd,λ_ _ z=>by cases z⟩ hs4.extBut (Nat.le_of_eq hs4.1.symm)) λY4 S4=>?_
   have hpl4:h4.PlainList D its:=Heap.PlainList.step hpl3 hoD hDC Y4
   have S5:=S4.adopt hmn hbD hoD hpl4 (hvs3.step Y4)
   have Y05:Stp X' U8 ι (ι'.set m (D,D)) s.heap h4:=(Y03.transAt Y4 hsC).adopt (S4.dom m hmn) hsD
   exact ⟨h4,tk3,_,_,rfl,Y05,S5,.ref m,VR.newRef (p:=(D,D)),hq⟩
  | some v=>
   rw [hitem] at hr hi2
   refine byc λB5=>C1 hr λu B3=>B7 B3 λC' C5=>?_
   clear B3 hr
   subst C'
   refine B7 C5 λhv hit3=>B5 ?_
   clear C5 B5
   have hlt:i<items.length:=(List.getElem?_eq_some_iff.mp hitem).1
   have hloc:(compEnvC isc cl C env).kindOf y.str=some .local:=lookup_relabel_local O.here
   refine wpAny_mono (wpAny_assign_Name (Ac5 (s:={s with heap:=h3,toks:=tk3}) (E':=W') (Q:=λu Z6=>_) F3 S3 hloc hv λh4 tk4 Y4 S4 F4=>?_)) (λ_ _ z=>z) λ_ _ z=>z.elim
   rw [setEq lc v hlc] at F4
   have Y04:Stp X' U8 ι ι' s.heap h4:=Y03.transAt Y4 hsC
   have hpl4:h4.PlainList D its:=Heap.PlainList.step hpl3 hoD hDC Y4
   have hit4:=hit3.step ho' aC Y4
   have hvs4:=hvs3.step Y4
   refine wpAny_mono (seqP (s:={s with heap:=h4,toks:=tk4}) (Cc6 ihc hcond hlen hA F4 S4 hi2) (C:=λok ab0=>_) λok ι5 H5 s5 L5 st5 S5 hw5=>?_) (λ_ _ z=>z) λ_ _ z=>z.elim
   have hw5':if ok=true then O0 K elt (l.set y v) (λr H4=>I (i+1) (acc++[r]) H4) H5 else I (i+1) acc H5:=hw5
   have L04:W9 prog w X' U8 ι ι' s {s with heap:=h4,toks:=tk4}:=λβ R c Z6 q=>q.lift (t1:=tk4) rfl Y04
   have aLt4:a<h4.objs.size:=by obtain ⟨o,_,g,_⟩:=hit4.fields;exact Heap.lt_size g
   have ho5:¬q7 X' ι5 a:=st5.own aLt4 ho'
   have hoD5:¬q7 X' ι5 D:=st5.own (dLive hpl4) hoD
   have hpl5:s5.heap.PlainList D its:=Heap.PlainList.step hpl4 hoD (λz=>z) st5
   have hit5:=hit4.step ho' (λz=>z) st5
   have hvs5:=hvs4.step st5
   have F5:=F4.step st5
   have lset:∀z,z≠y->(l.set y v) z=l z:=λz hz=>by unfold Lc.set;rw [if_neg hz]
   cases ok with
   | false=>
    exact ⟨n-1,o64 hni hlt,L04 _ _ _ _ (L5 _ _ _ _ (C4 S5 ⟨i+1,acc,its,_,o65 hni hlt,lset,F5,ho5,hit5,hoD5,hpl5,hvs5,hw5'⟩))⟩
   | true=>
    show wpAny _ _ (eval e _) _ _ _
    refine wpAny_mono (seqP (ihe _ _ _ _ _ _ _ _ helt hA F5 S5 hw5') (C:=λx ab6=>_) λr ι6 H6 s6 L6 st6 S6 ⟨rv,hrv,hw6⟩=>?_) (λ_ _ z=>z) λ_ _ z=>z.elim
    have hpl6:s6.heap.PlainList D its:=Heap.PlainList.step hpl5 hoD5 (λz=>z) st6
    have hvs6:=hvs5.step st6
    have aLt5:a<s5.heap.objs.size:=by obtain ⟨o,_,g,_⟩:=hit5.fields;exact Heap.lt_size g
    have ho6:¬q7 X' ι6 a:=st6.own aLt5 ho5
    have hoD6:¬q7 X' ι6 D:=st6.own (dLive hpl5) hoD5
    have hit6:=hit5.step ho5 (λz=>z) st6
    have F6:=F5.step st6
    refine wpAny_list_append_plain hpl6 (λh7 hpl7 hsb7=>?_) (by rw [hvs6.size,sizeLine_eq];exact o18 hal (by decide))
    refine C1 (id hpl6) λk6 g6=>?_
    refine B7 (S6.changeAt hoD6 hbD ⟨_,_,g6,rfl,λ_ _ _ z=>by simp at z⟩ hsb7.extBut (Nat.le_of_eq hsb7.1.symm)) λY7 S7=>?_
    have Y06:Pst prog w X' U8 ι s (λ_ ι' H' h'=>ι'=ι6/\H'=H6/\h'=s6.heap) () s6:=L04 _ _ _ _ (L5 _ _ _ _ (L6 _ _ _ _ (C4 S6 ⟨rfl,rfl,rfl⟩)))
    obtain ⟨h6',tk6,ae0,H6',e6,Y06,_,rfl,rfl,rfl⟩:=Y06
    have Y07:=Y06.transAt Y7 hsD
    have F7:=F6.stepX Y7 λb hb eb=>by
     subst eb
     rcases frX _ hb with hb | hb
     ·exact hDC hb
     ·exact Nat.not_lt.mpr hsD hb
    refine ⟨n-1,o64 hni hlt,h7,tk6,ae0,H6',?_,Y07,S7,i+1,acc++[rv],its.push r,_,o65 hni hlt,lset,F7,ho6,hit6.step ho6 aD Y7,hoD6,hpl7,?_,hw6⟩
    ·rw [e6]
    ·rw [Array.toList_push];exact (hvs6.step Y7).snoc (hrv.step Y7)
 exact codeAny_compStart_list (loop _) (it_self (hit.step hoa (λz=>z) Y1) (loop _))
end
theorem Ae7 {β:Type} {ns:List Str} {ws:List β} (hl:ws.length=ns.length) {n:Str} (hn:n∈ns):((ns.zip ws).lookup n).isSome=true:=by
 induction ns generalizing ws with
 | nil=>simp at hn
 | cons x ns ih=>
  cases ws with
  | nil=>simp at hl
  | cons y ws=>
   rw [List.zip_cons_cons,List.lookup_cons]
   by_cases hx:(n==x)=true
   ·rw [hx];rfl
   ·have hx':(n==x)=false:=by simpa using hx
    rw [hx']
    refine ih (by simpa using hl) ?_
    rcases List.mem_cons.mp hn with rfl | h
    ·simp at hx
    ·exact h
theorem Aj3 {β:Type} {ns:List Str} {ws:List β} (hl:ws.length=ns.length) (hn:ns.Nodup):ns.filterMap (λn=>((ns.zip ws).lookup n).map (n,·))=ns.zip ws:=by
 have key:∀(ms:List Str) (us:List β) (pre:List (Str×β)),us.length=ms.length->ms.Nodup->(∀m∈ms,pre.lookup m=none)->ms.filterMap (λn=>((pre++ms.zip us).lookup n).map (n,·))=ms.zip us:=by
  intro ms
  induction ms with
  | nil=>intro us pre _ _ _;rfl
  | cons m ms ih=>
   intro us pre hl hn hp
   cases us with
   | nil=>simp at hl
   | cons u us=>
    rw [List.nodup_cons] at hn
    rw [List.zip_cons_cons,List.filterMap_cons]
    have h1:(pre++(m,u)::ms.zip us).lookup m=some u:=by
     rw [List.lookup_append,hp m List.mem_cons_self];simp [List.lookup_cons]
    rw [h1]
    show (m,u)::_=(m,u)::_
    congr 1
    have:=ih us (pre++[(m,u)]) (by simpa using hl) hn.2 (λx hx=>by
     rw [List.lookup_append,hp x (List.mem_cons_of_mem _ hx)]
     have:(x==m)=false:=by simp only [beq_eq_false_iff_ne];rintro rfl;exact hn.1 hx
     simp [List.lookup_cons,this])
    rw [List.append_assoc] at this
    exact this
 have:=key ns ws [] hl hn (λ_ _=>rfl)
 simpa using this
theorem Bf4 {M:Model} {A:Around} {s:Shared} {fd:FuncData} {ns:List Str} {ws:List Value} (h1:fd.params.posonlyargs=[]) (h2:fd.params.vararg=none) (h3:fd.params.kwonlyargs=[]) (h4:fd.params.kwarg=none)
  (h5:fd.params.args.map (·.arg)=ns) (hn:ns.Nodup) (hl:ws.length=ns.length) (hd:fd.defaults = .none\/∃T oT xs n,fd.defaults = .ref T/\s.heap.get? T=some oT/\oT.data = .seq xs n)
  {Q:List (Str×Value)->Shared->Prop} {E:Value->Shared->Prop} (hQ:Q (ns.zip ws) s):wpAny M A (bindArgs fd ⟨ws,[]⟩) Q E s:=by
 have fin:∀D:List Value,(forIn ((ns.drop (ns.length-D.length)).zip D) (ns.zip ws) λ(x:Str×Value) r=>if (r.lookup x.1).isNone=true then pure (.yield (r++[(x.1,x.2)])) else pure (.yield r):Sem (List (Str×Value)))=pure (ns.zip ws):=by
  intro D
  have key:∀(xs:List (Str×Value)),(∀x∈xs,x.1∈ns)->(forIn xs (ns.zip ws) λ(x:Str×Value) r=>if (r.lookup x.1).isNone=true then pure (.yield (r++[(x.1,x.2)])) else pure (.yield r):Sem (List (Str×Value)))=pure (ns.zip ws):=by
   intro xs
   induction xs with
   | nil=>intro _;rfl
   | cons x xs ih=>
    intro hx
    rw [List.forIn_cons]
    have:=Ae7 hl (hx x List.mem_cons_self)
    rw [if_neg (by rw [Option.isNone_iff_eq_none];intro e;rw [e] at this;cases this)]
    exact ih λy hy=>hx y (List.mem_cons_of_mem _ hy)
  refine key _ λx hx=>?_
  exact List.mem_of_mem_drop (List.of_mem_zip (a:=x.1) (b:=x.2) hx).1
 have none_missing:∀k,((ns.take k).filter λn=>((ns.zip ws).lookup n).isNone)=[]:=by
  intro k
  rw [List.filter_eq_nil_iff]
  intro n hm
  have:=Ae7 hl (List.mem_of_mem_take hm)
  rw [Option.isNone_iff_eq_none];intro e;rw [e] at this;cases this
 unfold bindArgs
 simp only [h1,h2,h3,h4,h5,List.map_nil,List.nil_append,List.append_nil,hl,List.forIn_nil,pure_bind,Nat.lt_irrefl,gt_iff_lt,decide_false,Bool.false_and]
 have step:wpAny M A (seqItems? fd.defaults) (λ_ s'=>s'=s) E s:=by
  rcases hd with hd | q_
  ·rw [hd];exact wpAny_pure rfl
  ·exists R6 q_ λT oT xs n B3=>E6 B3 λhd hT hs=>B5 ?_
   clear q_
   rw [hd];exact wpAny_seqItems hT hs rfl
 refine wpAny_bind (wpAny_mono step (λr s' e=>?_) λ_ _ z=>z)
 subst e
 simp only [none_missing,fin,Bool.false_eq_true,if_false,List.isEmpty_nil,Bool.not_true,pure_bind,Aj3 hl hn]
 exact wpAny_pure hQ
theorem W6:∀(names:List (Str×NameKind)) (k:Nat) (acc:List (Str×Addr)),(names.map (·.1)).Nodup->(∀x∈names,x.1∉acc.map (·.1))->(acc.map (·.1)).Nodup ->
  ((cellsFrom k names acc).map (·.1)).Nodup/\(∀p∈acc,p∈cellsFrom k names acc)/\(∀n,(n,NameKind.cell)∈names->∃c,(n,c)∈cellsFrom k names acc)
 | [],k,acc,_,_,h=>⟨h,λp hp=>hp,λn hn=>by simp at hn⟩
 | (name,kind)::r,k,acc,hn,hd,ha=>by
  rw [List.map_cons,List.nodup_cons] at hn
  unfold cellsFrom
  by_cases hk:(kind==NameKind.cell)=true
  ·rw [if_pos hk]
   obtain ⟨a,b,c⟩:=W6 r (k+1) ((name,k)::acc) hn.2 (λx hx hm=>by
    rw [List.map_cons] at hm
    rcases List.mem_cons.mp hm with e | e
    ·exact hn.1 (e▸List.mem_map_of_mem hx)
    ·exact hd x (List.mem_cons_of_mem _ hx) e) (by
    rw [List.map_cons,List.nodup_cons];exact ⟨hd (name,kind) List.mem_cons_self,ha⟩)
   refine ⟨a,λp hp=>b p (List.mem_cons_of_mem _ hp),λn hm=>?_⟩
   rcases List.mem_cons.mp hm with e | e
   ·cases e;exact ⟨k,b _ List.mem_cons_self⟩
   ·exact c n e
  ·rw [if_neg hk]
   refine E6 (W6 r k acc hn.2 (λx hx=>hd x (List.mem_cons_of_mem _ hx)) ha) λa b c=>?_
   refine ⟨a,b,λn hm=>?_⟩
   rcases List.mem_cons.mp hm with e | e
   ·cases e;simp at hk
   ·exact c n e
theorem Bb4 {kd:Str->Option NameKind} {n:Str}:∀(binds:List (Str×Value)) (m:Str->Option Value),n∉binds.map (·.1)->bindL kd binds m n=m n
 | [],m,_=>rfl
 | (x,v)::r,m,h=>by
  unfold bindL
  rw [List.map_cons] at h
  rw [Bb4 r _ λhm=>h (List.mem_cons_of_mem _ hm)]
  split
  ·show (if n=x then _ else _)=_
   rw [if_neg λe=>h (by rw [e];exact List.mem_cons_self)]
  ·rfl
section
variable {N:Type} [DecidableEq N]
variable {X':Heap} {X Y:Addr->Prop} {ι ι' X8:Nm N} {h h' aa6:Heap} {prog:Program} {w:World} {H:Hp N} {s:Shared} {α β:Type} {A:Around} {env:Env} {l:Lc N} {d:Nat} {K:Calls N}
theorem Cb1 {kd:Str->Option NameKind}:∀(xs:List Vr) (vs:List (V N)) (ws:List Value) (m:Str->Option Value),VRs X' ι h vs ws->(xs.map Vr.str).Nodup->(∀x∈xs,kd x.str=some .local) ->
  ∀y v,Lc.args xs vs y=some v->y∈xs/\∃u,bindL kd ((xs.map Vr.str).zip ws) m y.str=some u/\VR X' ι h v u
 | [],_,_,_,_,_,_,y,v,e=>by simp [Lc.args] at e
 | x::xs,[],_,_,_,_,_,y,v,e=>by simp [Lc.args] at e
 | x::xs,v0::vs,[],_,hv,_,_,y,v,e=>by have:=hv.1;simp at this
 | x::xs,v0::vs,w0::ws,m,hv,hn,hk,y,v,e=>by
  refine B7 (VRs.tail hv) λr1 r2=>?_
  rw [List.map_cons,List.nodup_cons] at hn
  unfold Lc.args at e
  rw [List.map_cons,List.zip_cons_cons]
  unfold bindL
  rw [if_pos (hk x List.mem_cons_self)]
  by_cases hy:y=x
  ·subst hy
   rw [if_pos rfl] at e;cases e
   refine ⟨List.mem_cons_self,w0,?_,r1⟩
   rw [Bb4 _ _ λhm=>?_]
   ·simp
   ·exists C1 (List.mem_map.mp hm) λp B3=>B7 B3 λhp e=>B5 ?_
    have:=(List.of_mem_zip (a:=p.1) (b:=p.2) hp).1
    rw [e] at this
    exact hn.1 this
  ·rw [if_neg hy] at e
   obtain ⟨a,b⟩:=Cb1 xs vs ws _ r2 hn.2 (λz hz=>hk z (List.mem_cons_of_mem _ hz)) y v e
   exact ⟨List.mem_cons_of_mem _ a,b⟩
theorem Stp.transX (x:Stp X' X ι X8 h aa6) (y:Stp X' Y X8 ι' aa6 h') (hY:∀a,Y a->h.objs.size<=a):Stp X' X ι ι' h h':=by
 refine ⟨λn p e=>y.ext n p (x.ext n p e),λn p e e'=>?_,λb o ho hx e=>?_,Nat.le_trans x.size y.size⟩
 ·cases e1:X8 n with
  | none=>have:=y.fresh n p e1 e';exact ⟨Nat.le_trans x.size this.1,Nat.le_trans x.size this.2⟩
  | some q=>
   have:=y.ext n q e1
   rw [this] at e';cases e'
   exact x.fresh n q e e1
 ·exact y.keep b o (x.own (Heap.lt_size e) ho) (.inl λz=>Nat.not_le.mpr (Heap.lt_size e) (hY b z)) (x.keep b o ho hx e)
noncomputable def C9:Nat->Calls N
 | 0,_,_,_,_=>False
 | k+1,f,vs,Q,H=>vs.length=f.params.length/\C2 (C9 k) f.body (λfl _ H'=>Q fl.val H') (Lc.args f.params vs) H
theorem sf_zero:SF prog w X' 0 (C9 (N:=N) 0):=λf A ι H s vs ws Q hA S vr hw=>hw.elim
theorem Bb0 (B:Bs X') (ih:∀f:Fn,SSs prog w X' d (C9 (N:=N) d) f.body) (f:Fn) (A:Around) (ι:Nm N) (H:Hp N) (s:Shared) (vs:List (V N)) (ws:List Value) (Q:V N->Hp N->Prop)
  (hA:AOkC (d+1) A) (S:St prog w X' ι H s.heap) (vr:VRs X' ι s.heap vs ws) (hw:C9 (d+1) f vs Q H):codeAny (model prog w) A (.call (.ref f.addr) ⟨ws,[]⟩)
   (λr s'=>match r with | .ok (.ret v)=>Pst prog w X' U8 ι s (Vof X' Q) v s' | .ok _=>False | .error e=>W' e s') s:=by
 refine B7 hw ?_
 clear hw
 intro hlen hw
 have ab1:=B.keeps S.keep
 exists Q0 (ab1.fn f) λo fd body B3=>un22 B3 λa1 a2 a3 a4 a5 a6 a7 a8 a9 a10 a11 a12 a13 a14 a15 a16 a17 a18 a19 a20 a21 a22=>B5 ?_
 have hwl:ws.length=(f.params.map Vr.str).length:=by rw [vr.1,hlen,List.length_map]
 refine codeAny_call_function (by have:=hA.depth;exact o66 this) a1 a3 a5 a6 a10 a21 (Bf4 a12 a13 a14 a15 a16 a17 hwl a22 ?_)
 rw [a9]
 refine wpAny_newFunctionEnv_cells a4 (λx hx=>.inl ?_) λenv he X7 x=>?_
 ·have hm:=(List.of_mem_zip (a:=x.1) (b:=x.2) hx).1
  exists C1 (List.mem_map.mp hm) λy B3=>B7 B3 λhy e=>B5 ?_
  rw [<-e];exact a18 y hy
 ·refine ⟨ab1.lim.keeps x.toInCall.keep,codeAny_func ?_⟩
  have hsc:env.scope=fd.scope:=by rw [he];rfl
  have hL:env.locals=s.heap.objs.size:=by rw [he];rfl
  have hcells:env.cells=cellsFrom (s.heap.objs.size+1) fd.scope.names []:=by rw [he];rfl
  refine E6 (W6 fd.scope.names (s.heap.objs.size+1) [] a20 (by simp) (by simp)) λc1 _ c3=>?_
  rw [<-hcells] at c1 c3
  have hcl:∀n c,(n,c)∈env.cells->X7.heap.IsCell c (bindC env.kindOf ((f.params.map Vr.str).zip ws) (λ_=>none) n):=λn c hm=>x.cell n c (Q2 c1 hm)
  refine J8 x.toInCall.same λh1 tk1 es=>?_
  have hkeep:=x.toInCall.keep
  have hns:=x.toInCall.ns
  have hab:=x.above
  have hap:=x.apart
  have hss:s.heap.objs.size<=X7.heap.objs.size:=by have:=hns.lt;rw [hL] at this;exact Nat.le_of_lt this
  have Y1:Stp X' U8 ι ι s.heap X7.heap:=Stp.of_ext hkeep hss
  have S1:St prog w X' ι H X7.heap:=S.more hkeep hss
  have hargs:=λy v e=>Cb1 (kd:=env.kindOf) f.params vs ws (λ_=>none) (vr.step Y1) a17 (λx hx=>by unfold Env.kindOf;rw [hsc];exact a18 x hx) y v e
  have F1:Fm X' env ι (Lc.args f.params vs) X7.heap:=by
   refine ⟨by rw [hsc];exact a4,by rw [he];exact a7,by rw [he];exact a8,⟨_,hns,λy v hl hk=>(hargs y v hl).2⟩,λy hk=>?_,?_,λn c hm=>⟨?_,?_⟩,hap,?_,λn c hm=>?_,λn c hm=>?_,λn hk=>?_⟩
   ·have hmem:(y.str,NameKind.cell)∈fd.scope.names:=by rw [<-hsc];exact mem_of_lookup hk
    refine C1 (c3 y.str hmem) λc hc=>?_
    refine ⟨c,Q2 c1 hc,_,hcl _ _ hc,λv hl=>?_⟩
    have:=a18 y (hargs y v hl).1
    have hk2:fd.scope.names.lookup y.str=some .cell:=by rw [<-hsc];exact hk
    rw [this] at hk2;cases hk2
   ·rw [hL];exact i6 S (Nat.le_refl _)
   ·exact i6 S (by have:=hab n c hm;rw [hL] at this;exact Nat.le_of_lt this)
   ·exact Nat.ne_of_gt (hab n c hm)
   ·rw [hL];exact S.size
   ·exact Nat.le_trans S.size (by have:=hab n c hm;rw [hL] at this;exact Nat.le_of_lt this)
   ·obtain ⟨o,g,_⟩:=hcl n c hm;exact Heap.lt_size g
   ·have hmem:(n,NameKind.cell)∈fd.scope.names:=by rw [<-hsc];exact mem_of_lookup hk
    refine C1 (c3 n hmem) λc hc=>?_
    exact ⟨c,Q2 c1 hc⟩
  have hfr:∀a,FrX env a->s.heap.objs.size<=a:=by
   rintro a (rfl | ⟨n,hn⟩)
   ·exact Nat.le_of_eq hL.symm
   ·have:=hab n a hn;rw [hL] at this;exact Nat.le_of_lt this
  refine wpAny_mono (ih f body (A.deeper env) env ι _ H X7 _ (by rw [hsc];exact a11) (hA.deeper env) F1 S1 hw) (λfl Z6 q=>?_) λ_ _ z=>z.elim
  refine byc λB5=>R6 q λh2 tk2 ι2 H2 B3=>B7 B3 λC' C5=>?_
  clear B3 q
  subst C'
  refine E6 C5 λY2 S2 N1=>J8 N1 λfv l2 r4_=>E6 r4_ λhf F2 hq=>B5 ?_
  clear C5 N1 r4_ B5
  have Y02:=Y1.transX Y2 hfr
  show Pst prog w X' U8 ι s (Vof X' Q) _ _
  refine ⟨h2,tk2,ι2,H2,by rw [es],Y02,S2,?_⟩
  cases hf with
  | next=>exact ⟨.none,.none,hq⟩
  | brk=>exact ⟨.none,.none,hq⟩
  | cont=>exact ⟨.none,.none,hq⟩
  | ret hv=>exact ⟨_,hv,hq⟩
theorem sf_succ (B:Bs X') (ih:∀f:Fn,SSs prog w X' d (C9 (N:=N) d) f.body):SF prog w X' (d+1) (C9 (N:=N) (d+1)):=
 λf A ι H s vs ws Q hA S vr hw=>wpAny_call (Bb0 B ih f A ι H s vs ws Q hA S vr hw)
end
section
variable {N:Type} [DecidableEq N]
variable {X':Heap} {prog:Program} {w:World} {d:Nat} {K:Calls N}
mutual
theorem D7 (hb:2<=X'.objs.size) (B:Bs X') (hK:SF prog w X' d K):∀e:E,SE prog w X' d K e
 | .none=>se_none | .bool b=>se_bool b | .int i=>se_int i | .var x=>se_var x | .cst c=>se_cst B c
 | .bin op a b=>se_bin op a b (D7 hb B hK a) (D7 hb B hK b)
 | .neg a=>se_neg a (D7 hb B hK a)
 | .cmp op a b=>se_cmp op a b (D7 hb B hK a) (D7 hb B hK b)
 | .isNone a=>Dc1 a (D7 hb B hK a)
 | .notNone a=>Cd2 a (D7 hb B hK a)
 | .eqDict0 a=>Cd4 hb a (D7 hb B hK a)
 | .eqList0 a=>Cd3 a (D7 hb B hK a)
 | .isIn a b=>se_isIn a b (D7 hb B hK a) (D7 hb B hK b)
 | .attr e a=>se_attr B e a (D7 hb B hK e)
 | .sub e i=>se_sub e i (D7 hb B hK e) (D7 hb B hK i)
 | .slice e i=>Di5 e i (D7 hb B hK e) (D7 hb B hK i)
 | .list es=>se_list es (b9 hb B hK es)
 | .tup es=>se_tup es (b9 hb B hK es)
 | .idict0=>Dc2 | .tdict0=>Dc0
 | .rep x n=>se_rep x n (D7 hb B hK x) (D7 hb B hK n)
 | .cat1 x n=>se_cat1 x n (D7 hb B hK x) (D7 hb B hK n)
 | .ite c a b=>se_ite c a b (v4 hb B hK c) (D7 hb B hK a) (D7 hb B hK b)
 | .call f args=>se_call B hK f args (b9 hb B hK args)
 | .meth o m args=>se_meth B hK o m args (D7 hb B hK o) (b9 hb B hK args)
 | .new k args=>se_new B hK k args (b9 hb B hK args)
 | .bi b a=>se_bi hb B b a (D7 hb B hK a)
 | .bm m o args=>se_bm hb m o args (D7 hb B hK o) (b9 hb B hK args)
 | .comp elt y src cond=>se_comp elt y src cond (Bg1 hb B hK src) (Db8 hb B hK cond) (D7 hb B hK elt)
theorem b9 (hb:2<=X'.objs.size) (B:Bs X') (hK:SF prog w X' d K):∀e:Es,SEs prog w X' d K e
 | .nil=>ses_nil
 | .cons e es=>Di4 e es (D7 hb B hK e) (b9 hb B hK es)
theorem v4 (hb:2<=X'.objs.size) (B:Bs X') (hK:SF prog w X' d K):∀e:C,SC prog w X' d K e
 | .cmp op a b=>sc_cmp op a b (D7 hb B hK a) (D7 hb B hK b)
 | .isNone a=>Dc3 a (D7 hb B hK a)
 | .notNone a=>Cd5 a (D7 hb B hK a)
 | .isIn a b=>sc_isIn a b (D7 hb B hK a) (D7 hb B hK b)
 | .notIn a b=>Di6 a b (D7 hb B hK a) (D7 hb B hK b)
 | .and cs=>sc_and cs (Bg2 hb B hK cs)
 | .or cs=>sc_or cs (Ch3 hb B hK cs)
 | .not c=>sc_not c (v4 hb B hK c)
 | .val e=>sc_val e (D7 hb B hK e)
theorem Bg2 (hb:2<=X'.objs.size) (B:Bs X') (hK:SF prog w X' d K):∀e:Cs,SAnd prog w X' d K e
 | .nil=>Di7
 | .cons c cs=>Dc5 c cs (v4 hb B hK c) (Bg2 hb B hK cs)
theorem Ch3 (hb:2<=X'.objs.size) (B:Bs X') (hK:SF prog w X' d K):∀e:Cs,SOr prog w X' d K e
 | .nil=>sor_nil
 | .cons c cs=>Dh9 c cs (v4 hb B hK c) (Ch3 hb B hK cs)
theorem Db8 (hb:2<=X'.objs.size) (B:Bs X') (hK:SF prog w X' d K):∀e:Cs,Ef0 prog w X' d K e
 | .nil=>trivial
 | .cons c _=>v4 hb B hK c
theorem Bg1 (hb:2<=X'.objs.size) (B:Bs X') (hK:SF prog w X' d K):∀e:Src,SSrc prog w X' d K e
 | .range es=>Cc8 B es (b9 hb B hK es)
 | .seq e=>Dh7 hb e (D7 hb B hK e)
end
mutual
theorem soundS (hb:2<=X'.objs.size) (B:Bs X') (hK:SF prog w X' d K):∀e:Mine.Internal.S,SS prog w X' d K e
 | .pass=>ss_pass | .cont=>ss_cont | .brk=>ss_brk | .retNone=>Cd1
 | .ret e=>ss_ret e (D7 hb B hK e)
 | .set x e=>ss_set x e (D7 hb B hK e)
 | .set2 x y e=>ss_set2 x y e (D7 hb B hK e)
 | .swap x y a b=>ss_swap x y a b (D7 hb B hK a) (D7 hb B hK b)
 | .setAttr o a e=>Cd0 B o a e (D7 hb B hK o) (D7 hb B hK e)
 | .setSub o i e=>Db6 o i e (D7 hb B hK o) (D7 hb B hK i) (D7 hb B hK e)
 | .setSub2 o i o' i' a b=>Cc9 o i o' i' a b (D7 hb B hK o) (D7 hb B hK i) (D7 hb B hK o') (D7 hb B hK i') (D7 hb B hK a) (D7 hb B hK b)
 | .augSub o i op e=>Db7 o i op e (D7 hb B hK o) (D7 hb B hK i) (D7 hb B hK e)
 | .expr e=>ss_expr e (D7 hb B hK e)
 | .ite c t f=>ss_ite c t f (v4 hb B hK c) (j3 hb B hK t) (j3 hb B hK f)
 | .while c b=>Dh8 c b (v4 hb B hK c) (j3 hb B hK b)
 | .for_ t src b=>ss_for t src b (Bg1 hb B hK src) (j3 hb B hK b)
theorem j3 (hb:2<=X'.objs.size) (B:Bs X') (hK:SF prog w X' d K):∀e:Ss,SSs prog w X' d K e
 | .nil=>sss_nil
 | .cons a ss=>Dh6 a ss (soundS hb B hK a) (j3 hb B hK ss)
end
theorem sound (hb:2<=X'.objs.size) (B:Bs X'):∀d:Nat,SF prog w X' d (C9 (N:=N) d)
 | 0=>sf_zero
 | d+1=>sf_succ B λf=>j3 hb B (sound hb B d) f.body
end
theorem Be7 {d:Data} {kf:FuncData->Bool} {kc:ClassData->Bool} {ks:Bool} {kv:Array Value->Bool} (h:dC d kf kc ks kv=true) {P:Prop} (pf:∀f,d = .func f->kf f=true->P) (pc:∀c,d = .cls c->kc c=true->P)
  (ps:∀xs n,d = .seq xs n->ks=true->P) (pv:∀vs,d = .fields vs->kv vs=true->P):P:=by
 cases d with
 | func f=>exact pf f rfl h
 | cls c=>exact pc c rfl h
 | seq xs n=>exact ps xs n rfl h
 | fields vs=>exact pv vs rfl h
 | _=>cases h
theorem Bc1 {v:Value} {kn:Bool} {ki:Int->Bool} {ks:Str->Bool} {kr:Addr->Bool} (h:vC v kn ki ks kr=true) {P:Prop} (pn:v = .none->kn=true->P) (pi:∀i t,v = .int i t->ki i=true->P) (ps:∀s t,v = .str s t->ks s=true->P) (pr:∀a,v = .ref a->kr a=true->P):P:=by
 cases v with
 | none=>exact pn rfl h
 | int i t=>exact pi i t rfl h
 | str s t=>exact ps s t rfl h
 | ref a=>exact pr a rfl h
 | _=>cases h
theorem nf {P:Prop} (h:false=true):P:=Bool.noConfusion h
theorem Ab5 {α:Type} {xs:List α} {k:α->List α->Bool} (h:lC xs k=true) {P:Prop} (q:∀a r,xs=a::r->k a r=true->P):P:=by
 cases xs with
 | nil=>exact nf h
 | cons a r=>exact q a r rfl h
theorem r9 {K:Frag} {h:Heap} {N:Addr} {mg:Str->Option Value} {n:Str} {v:Value} (X:K.In h) (G:h.Ns N mg) (e:nsIn K N n=some (some v)):mg n=some v:=by
 exists Q0 G λo es ep B3=>R7 B3 λho hd _ hf=>B5 ?_
 clear G
 unfold nsIn at e
 split at e
 ·rename_i c d es' n' sl q
  have:=X _ _ q
  rw [ho] at this
  cases this
  cases hd
  split at e
  ·rename_i en he
   cases e
   rw [<-hf]
   unfold nsFind findBy
   rw [<-Array.find?_toList,he]
   rfl
  ·split at e <;> cases e
 ·cases e
theorem Fn.mem (f:Fn):f∈Fn.all:=List.contains_iff_mem.mp (show Fn.all.contains f=true by cases f <;> first | contradiction | rfl)
theorem At.mem (a:At):a∈At.all:=List.contains_iff_mem.mp (show At.all.contains a=true by cases a <;> first | contradiction | rfl)
theorem Bi.mem (b:Bi):b∈Bi.all:=List.contains_iff_mem.mp (show Bi.all.contains b=true by cases b <;> rfl)
theorem Bj1 {K:Frag} {g:Addr->Option Obj} {h:Heap} (X:K.In h) (Y:∀a o,g a=some o->h.get? a=some o) {k:Kl} (e:Bj0 g k=true) (e2:Aa3 K k=true):ClsAt h k:=by
 refine bn6 e2 λn1 n2 n3 n4 n5 n6=>?_
 have G:h.Ns k.ns (h.nsMap k.ns):=.of_isNs (isNs_of_in X n1)
 refine oaI e λo ho e=>Be7 e (λ_ _ z=>nf z) (λcd hd e=>?_) (λ_ _ _ z=>nf z) (λ_ _ z=>nf z)
 refine bn7 e λhcls hsl hmro hdel hdict habs hns=>?_
 refine Ab5 hsl λk0 r e0 hsl=>Ab5 hsl λk1 r e1 hsl=>Ab5 hsl λk2 r e2 hsl=>Ab5 hsl λk3 r e3 hsl=>Ab5 hsl λk4 r e4 hsl=>Ab5 hsl λk5 r e5 hsl=>bn2 hsl λh4 h6=>?_
 obtain ⟨oc,dd,od,sl⟩:=o
 obtain ⟨nm,bs,mro,ns,qn,hd',sn,sub,ab,col,del⟩:=cd
 obtain ⟨l⟩:=sl
 have ho:=Y _ _ ho
 rw [show oc=_ from eq_of_beq hcls,show od=_ from hd,show mro=_ from eq_of_beq hmro,show del=_ from bnot hdel,show hd'=_ from hdict,show ab=_ from bnot habs,show ns=_ from eq_of_beq hns,
  show l=_ from e0,e1,e2,e3,e4,e5,eq_of_beq h4,List.isEmpty_iff.mp h6] at ho
 refine ⟨nm,qn,bs,sn,sub,col,dd,k0,k1,k2,k3,k5,_,_,F.objNew,ho,G,λf hf=>?_,λa ha=>ns_none_of X G (eq_of_beq (((Bool.or_eq_true _ _).mp (List.all_eq_true.mp n3 a a.mem)).resolve_left λz=>bne_iff_ne.mp z ha)),ns_none_of X G (eq_of_beq n4),ns_none_of X G (eq_of_beq n5),ns_none_of X G (eq_of_beq n6)⟩
 exact r9 X G (eq_of_beq (((Bool.or_eq_true _ _).mp (List.all_eq_true.mp n2 f f.mem)).resolve_left λz=>bne_iff_ne.mp z hf))
theorem fnAt_of {g:Addr->Option Obj} {h:Heap} (X:∀a o,g a=some o->h.get? a=some o) {f:Fn} (e:fnOk g f f.addr=true):FnAt h f:=by
 refine oaI e λo ho e=>Be7 e (λfd hd e=>?_) (λ_ _ z=>nf z) (λ_ _ _ z=>nf z) (λ_ _ z=>nf z)
 refine bn19 e λe1 e2 e3 e4 e5 e6 e7 e8 e9 e10 e11 e12 e13 e14 e15 e16 e17 e18 e19=>?_
 have hb:∃b,fd.body = .stmts b/\mSs fd.scope f.body b=true:=by
  revert e8
  cases fd.body with
  | stmts b=>exact λh=>⟨b,rfl,h⟩
  | _=>exact λh=>nf h
 refine C1 hb λb B3=>?_
 refine ⟨o,fd,b,X _ _ ho,eq_of_beq e1,hd,eq_of_beq e2,bnot e3,bnot e4,eq_of_beq e5,eq_of_beq e6,List.isEmpty_iff.mp e7,B3.1,B3.2,List.isEmpty_iff.mp e9,Option.isNone_iff_eq_none.mp e10,List.isEmpty_iff.mp e11,Option.isNone_iff_eq_none.mp e12,eq_of_beq e13,of_decide_eq_true e14,
  λx hx=>eq_of_beq (List.all_eq_true.mp e15 x hx),λn hn=>bne_iff_ne.mp (List.all_eq_true.mp e16 n hn),of_decide_eq_true e17,?_,?_⟩
 ·refine Bc1 e18 (λ_ z=>nf z) (λ_ _ _ z=>nf z) (λ_ _ _ z=>nf z) λc hc e=>oaI e λo hl e=>Be7 e (λ_ _ z=>nf z) (λ_ _ z=>nf z) (λ_ _ _ z=>nf z) λvs hv e=>oaI e λv e1 e=>Bc1 e (λ_ z=>nf z) (λ_ _ _ z=>nf z) (λs t e2 e=>?_) λ_ _ z=>nf z
  refine ⟨c,_,vs,t,hc,X _ _ hl,hv,?_⟩
  rw [e1,e2,eq_of_beq e]
 ·exact Bc1 e19 (λz _=>.inl z) (λ_ _ _ z=>nf z) (λ_ _ _ z=>nf z) λT hT e=>oaI e λo hl e=>Be7 e (λ_ _ z=>nf z) (λ_ _ z=>nf z) (λxs n hs _=>.inr ⟨T,o,xs,n,hT,X _ _ hl,hs⟩) λ_ _ z=>nf z
theorem Ab8 {o:Option (Option Value)} {i:Int} (h:Cj1 o i=true):∃t,o=some (some (.int i t)):=
 oaI h λo e h=>oaI h λv e' h=>Bc1 h (λ_ z=>nf z) (λj t e'' h=>⟨t,by rw [e,e',e'',eq_of_beq h]⟩) (λ_ _ _ z=>nf z) λ_ _ z=>nf z
theorem bs_of {K:Frag} {g:Addr->Option Obj} {h:Heap} (X:K.In h) (Y:∀a o,g a=some o->h.get? a=some o) {mg mb:Str->Option Value} (G:h.Ns mainGlobals mg) (Bn:h.Ns builtinsNs mb) (lim:h.NoLimit) (hb:∀x:Str,x≠"__name__"->mb x=bootBuiltins x)
  (e1:Ec6 K=true) (e2:(Fn.all.all λf=>fnOk g f f.addr)=true) (e3:Bj0 g .aig=true) (e4:Aa3 K .aig=true) (e5:Bj0 g .solver=true) (e6:Aa3 K .solver=true):Bs h:=by
 refine bn8 e1 λg1 g2 g3 g4 g5 g6 g7 g8=>?_
 refine ⟨lim,⟨mg,mb,G,Bn,λf hf=>r9 X G (eq_of_beq (((Bool.or_eq_true _ _).mp (List.all_eq_true.mp g1 f f.mem)).resolve_left λz=>?_)),λk=>?_,λc=>?_,λb=>mg_none_of X G (eq_of_beq (List.all_eq_true.mp g7 b b.mem)),mg_none_of X G (eq_of_beq g8),?_,?_,?_,?_,?_,?_,?_⟩,λf=>fnAt_of Y (List.all_eq_true.mp e2 f f.mem),λk=>?_⟩
 ·rw [hf] at z;cases z
 ·cases k
  ·exact r9 X G (eq_of_beq g2)
  ·exact r9 X G (eq_of_beq g3)
 ·cases c
  ·exact C1 (Ab8 g4) λt h=>⟨t,r9 X G h⟩
  ·exact C1 (Ab8 g5) λt h=>⟨t,r9 X G h⟩
  ·exact C1 (Ab8 g6) λt h=>⟨t,r9 X G h⟩
 ·rw [hb _ (ne_of_beq_false (by kernel_rfl))];kernel_rfl
 ·rw [hb _ (ne_of_beq_false (by kernel_rfl))];kernel_rfl
 ·rw [hb _ (ne_of_beq_false (by kernel_rfl))];kernel_rfl
 ·rw [hb _ (ne_of_beq_false (by kernel_rfl))];kernel_rfl
 ·rw [hb _ (ne_of_beq_false (by kernel_rfl))];kernel_rfl
 ·rw [hb _ (ne_of_beq_false (by kernel_rfl))];kernel_rfl
 ·rw [hb _ (ne_of_beq_false (by kernel_rfl))];kernel_rfl
 ·cases k
  ·exact Bj1 X Y e3 e4
  ·exact Bj1 X Y e5 e6
theorem Df3:AOkC 12 callerA:=⟨by decide +kernel,by decide +kernel,by decide +kernel⟩
def Cb5:Prop:=∃(N:Type) (_:DecidableEq N) (n:N),∀ns:List Int,ns.length<=63 ->
 C9 12 .law [.ref n] (λv _=>v = .bool true) (λm=>if m=n then some (.flist (ns.map V.int)) else none)
theorem law_run (L:Cb5) {prog:Program} {w:World} {s:Shared} (B:Bs s.heap) (hb:2<=s.heap.objs.size) {l:Addr} {vs:List Value} {ns:List Int} (hl:s.heap.IsList l vs.toArray) (hI:IntsAre vs ns) (hn:ns.length<=63):
  codeAny (model prog w) callerA (.call (.ref (380:Nat)) ⟨[.ref l],[]⟩) (λr s'=>r = .ok (.ret (.bool true))/\∃h' tk,s'={s with heap:=h',toks:=tk}/\∀b o,s.heap.get? b=some o->h'.get? b=some o) s:=by
 obtain ⟨N,_,n,L⟩:=L
 have hlt:l<s.heap.objs.size:=by obtain ⟨o,g,_⟩:=hl;exact Heap.lt_size g
 let ι:Nm N:=λm=>if m=n then some (l,l) else none
 have hi:∀m p,ι m=some p->m=n/\p=(l,l):=by
  intro m p e
  show m=n/\_
  have e':(if m=n then some (l,l) else none)=some p:=e
  split at e'
  ·cases e';exact ⟨by assumption,rfl⟩
  ·cases e'
 have S:St prog w s.heap ι (λm=>if m=n then some (.flist (ns.map V.int)) else none) s.heap:=by
  refine ⟨λb o e=>e,λm o e=>?_,λm m' p p' e e' hne=>?_,λm p e=>?_,Nat.le_refl _,λm e=>?_⟩
  ·by_cases hm:m=n
   ·rw [if_pos hm] at e;cases e
    exact ⟨(l,l),if_pos hm,hlt,hlt,vs.toArray,hl,by simpa using VRs.ofInts hI⟩
   ·rw [if_neg hm] at e;cases e
  ·exact absurd ((hi m p e).1.trans (hi m' p' e').1.symm) hne
  ·rw [(hi m p e).2]
   exists C1 hl λo B3=>B7 B3 λg _=>B5 ?_
   clear hl
   exact ⟨⟨o,g⟩,⟨o,g⟩⟩
  ·by_cases hm:m=n
   ·rw [if_pos hm] at e;cases e
   ·exact if_neg hm
 have vr:VRs s.heap ι s.heap [V.ref n] [.ref l]:=VRs.cons (.ref (p:=(l,l)) (if_pos rfl)) VRs.nil
 have B':Bs s.heap:=B
 refine codeAny_mono (Bb0 (d:=11) B (λf=>j3 hb B (sound hb B 11) f.body) .law callerA ι _ s [.ref n] [.ref l] _ Df3 S vr (L ns hn)) λr s' h=>?_
 cases r with
 | error e=>exact h.elim
 | ok f=>
  cases f with
  | ret v=>
   refine byc λB5=>R6 h λh' tk ι' H' q=>R7 q λe Y S' q=>C1 q λrv q=>B7 q λhv hq=>B5 ?_
   subst hq
   cases hv
   exact ⟨rfl,h',tk,e,S'.keep⟩
  | _=>exact h.elim
inductive Tag where
 | script | seedL | seedC | seedP | aig | nodes | inputs | outputs | table | pairs | differs | bits | told | toldC | sumC | inCopy | srt | emp
 | used | cone | clsL | clsC | vars | dcl | kept | rest | self | clauses | watches | values | levels | reasons | phases | activity | trail | limits | learned | found | found2 | mdl
 | seen | rest2 | one | big | row (s:Nat) | cls (i:Nat) | litL
noncomputable def Tag.ctorIdx (x:Tag):Nat:=@Tag.casesOn (λ_=>Nat) x (nat_lit 0) (nat_lit 1) (nat_lit 2) (nat_lit 3) (nat_lit 4) (nat_lit 5) (nat_lit 6) (nat_lit 7) (nat_lit 8) (nat_lit 9) (nat_lit 10) (nat_lit 11) (nat_lit 12) (nat_lit 13) (nat_lit 14) (nat_lit 15) (nat_lit 16) (nat_lit 17) (nat_lit 18) (nat_lit 19) (nat_lit 20) (nat_lit 21) (nat_lit 22) (nat_lit 23) (nat_lit 24) (nat_lit 25) (nat_lit 26) (nat_lit 27) (nat_lit 28) (nat_lit 29) (nat_lit 30) (nat_lit 31) (nat_lit 32) (nat_lit 33) (nat_lit 34) (nat_lit 35) (nat_lit 36) (nat_lit 37) (nat_lit 38) (nat_lit 39) (nat_lit 40) (nat_lit 41) (nat_lit 42) (nat_lit 43) (λ_=>nat_lit 44) (λ_=>nat_lit 45) (nat_lit 46)
noncomputable def Tag.jx:Tag->Nat
 | .row s=>s
 | .cls i=>i
 | _=>0
noncomputable def Tag.all (s:Nat):List Tag:=[.script,.seedL,.seedC,.seedP,.aig,.nodes,.inputs,.outputs,.table,.pairs,.differs,.bits,.told,.toldC,.sumC,.inCopy,.srt,.emp,.used,.cone,.clsL,.clsC,.vars,.dcl,.kept,.rest,.self,.clauses,.watches,.values,.levels,.reasons,.phases,.activity,.trail,.limits,.learned,.found,.found2,.mdl,.seen,.rest2,.one,.big,.row s,.cls s,.litL]
theorem Tag.ui (x:Tag):(Tag.all x.jx)[x.ctorIdx]? = some x:=by cases x <;> rfl
theorem Tag.ij {a b:Tag} (h:a.ctorIdx=b.ctorIdx) (g:a.jx=b.jx):a=b:=Option.some.inj (a.ui.symm.trans (h▸g▸b.ui))
noncomputable instance:DecidableEq Tag:=λa b=>if h:a.ctorIdx=b.ctorIdx then if g:a.jx=b.jx then .isTrue (Tag.ij h g) else .isFalse λe=>g (e▸rfl) else .isFalse λe=>h (e▸rfl)
abbrev G9:=Tag×Nat
abbrev Vl:=V G9
abbrev Ob:=O G9
abbrev Hq:=Hp G9
abbrev Lq:=Lc G9
section
variable {α β:Type}
noncomputable def onI (k:Int->Option β) (v:Vl):Option β:=@V.casesOn G9 (λ_=>Option β) v none (λ_=>none) k (λ_=>none) (λ_=>none)
noncomputable def onRT (kr:G9->Option β) (kt:List Vl->Option β) (v:Vl):Option β:=@V.casesOn G9 (λ_=>Option β) v none (λ_=>none) (λ_=>none) kt kr
noncomputable abbrev onR (k:G9->Option β) (v:Vl):Option β:=onRT k (λ_=>none) v
noncomputable def onO (kl:List Vl->Option β) (kd:List (Int×Vl)->Option β) (ki:Kl->(At->Option Vl)->Option β) (o:Ob):Option β:=@O.casesOn G9 (λ_=>Option β) o kl (λ_=>none) (λes _=>kd es) (λ_=>none) ki
noncomputable abbrev onL (k:List Vl->Option β) (o:Ob):Option β:=onO k (λ_=>none) (λ_ _=>none) o
noncomputable def l1 (k:Vl->Option β) (vs:List Vl):Option β:=@List.casesOn Vl (λ_=>Option β) vs none λa t=>@List.casesOn Vl (λ_=>Option β) t (k a) λ_ _=>none
noncomputable def l2 (k:Vl->Vl->Option β) (vs:List Vl):Option β:=@List.casesOn Vl (λ_=>Option β) vs none λa t=>l1 (k a) t
theorem nn {P:Prop} {v:β} (h:none=some v):P:=nomatch h
theorem ss {Q:β->Prop} {a v:β} (h:some a=some v) (q:Q v):Q a:=Option.some.inj h▸q
theorem q9 {o:Option α} {k:α->Option β} {v:β} (h:o.bind k=some v) {P:Prop} (q:∀a,o=some a->k a=some v->P):P:=by
 cases o with
 | none=>exact nn h
 | some a=>exact q a rfl h
theorem ifI {c:Prop} [Decidable c] {a:Option β} {v:β} (h:(if c then a else none)=some v) {P:Prop} (q:c->a=some v->P):P:=by
 by_cases x:c
 ·rw [if_pos x] at h;exact q x h
 ·rw [if_neg x] at h;exact nn h
theorem R3 {k:Int->Option β} {v:Vl} {r:β} (h:onI k v=some r) {P:Prop} (q:∀i,v = .int i->k i=some r->P):P:=by
 cases v with
 | int i=>exact q i rfl h
 | _=>exact nn h
theorem Ag0 {kr:G9->Option β} {kt:List Vl->Option β} {v:Vl} {r:β} (h:onRT kr kt v=some r) {P:Prop} (q:∀n,v = .ref n->kr n=some r->P) (q':∀vs,v = .tup vs->kt vs=some r->P):P:=by
 cases v with
 | ref n=>exact q n rfl h
 | tup vs=>exact q' vs rfl h
 | _=>exact nn h
theorem j6 {k:G9->Option β} {v:Vl} {r:β} (h:onR k v=some r) {P:Prop} (q:∀n,v = .ref n->k n=some r->P):P:=Ag0 h q λ_ _ h=>nn h
theorem Ad9 {kl:List Vl->Option β} {kd:List (Int×Vl)->Option β} {ki:Kl->(At->Option Vl)->Option β} {o:Ob} {r:β} (h:onO kl kd ki o=some r) {P:Prop}
  (ql:∀xs,o = .list xs->kl xs=some r->P) (qd:∀es ep,o = .idict es ep->kd es=some r->P) (qi:∀k f,o = .inst k f->ki k f=some r->P):P:=by
 cases o with
 | list xs=>exact ql xs rfl h
 | idict es ep=>exact qd es ep rfl h
 | inst k f=>exact qi k f rfl h
 | _=>exact nn h
theorem Bd4 {k:List Vl->Option β} {o:Ob} {r:β} (h:onL k o=some r) {P:Prop} (q:∀xs,o = .list xs->k xs=some r->P):P:=Ad9 h q (λ_ _ _ h=>nn h) λ_ _ _ h=>nn h
theorem Cf4 {k:Vl->Option β} {vs:List Vl} {r:β} (h:l1 k vs=some r) {P:Prop} (q:∀a,vs=[a]->k a=some r->P):P:=by
 cases vs with
 | nil=>exact nn h
 | cons a t=>cases t with
  | nil=>exact q a rfl h
  | cons=>exact nn h
theorem l2_inv {k:Vl->Vl->Option β} {vs:List Vl} {r:β} (h:l2 k vs=some r) {P:Prop} (q:∀a b,vs=[a,b]->k a b=some r->P):P:=by
 cases vs with
 | nil=>exact nn h
 | cons a t=>exact Cf4 (k:=k a) h λb e h=>q a b (congrArg (a :: ·) e) h
end
noncomputable def i5 (xs:List Vl) (k:Int):Option Vl:=if 0<=k/\k<1000000 then xs[k.toNat]? else none
noncomputable def idxO (o:Option Ob) (w:Vl):Option Vl:=o.bind (onO (λxs=>onI (i5 xs) w) (λes=>onI (λk=>es.lookup k) w) λ_ _=>none)
noncomputable def Ca9 (o:Option Ob) (a:At):Option Vl:=o.bind (onO (λ_=>none) (λ_=>none) λ_ f=>f a)
noncomputable def binI (op:BOp) (a b:Int):Option Vl:=@BOp.casesOn (λ_=>Option Vl) op (some (.int (a+b))) (some (.int (a-b))) (if a.natAbs<1073741824\/b.natAbs<1073741824 then some (.int (a*b)) else none)
 (if b≠0/\b.natAbs<1073741824 then some (.int (a.fdiv b)) else none) (if b≠0/\b.natAbs<1073741824 then some (.int (a.fmod b)) else none)
 (if 0<=b/\b<=1000000/\a.natAbs<2^64 then some (.int (a^b.toNat)) else none) (if 0<=b/\b<=1000000/\a.natAbs<2^64 then some (.int (a*2^b.toNat)) else none)
 (if 0<=b then some (.int (a.fdiv (2^b.toNat))) else none) (some (.int (Builtin.bitAnd a b))) (some (.int (Builtin.bitXor a b)))
noncomputable def binF (op:BOp) (a b:Vl):Option Vl:=onI (λx=>onI (binI op x) b) a
noncomputable def onB (k:Bool->Option Bool) (v:Vl):Option Bool:=@V.casesOn G9 (λ_=>Option Bool) v none k (λ_=>none) (λ_=>none) (λ_=>none)
noncomputable def cmpF (op:COp) (a b:Vl):Option Bool:=@V.casesOn G9 (λ_=>Option Bool) a none (λx=>onB (λy=>if op = .ne then some (x != y) else none) b) (λx=>onI (λy=>some (J0 op x y)) b) (λ_=>none) (λ_=>none)
noncomputable def Cb9 (H:Hq) (s:G9) (l:Int):Option Vl:=
 (Ca9 (H s) .values).bind (onR λn=>if l<0 then (idxO (H n) (.int (-l))).bind (onI λv=>some (.int (-v))) else idxO (H n) (.int l))
noncomputable def lenO (o:Option Ob):Option Vl:=o.bind (onL λxs=>if xs.length<1000000 then some (.int xs.length) else none)
noncomputable def Cf3 (H:Hq) (s:G9):Option Vl:=(Ca9 (H s) .limits).bind (onR λn=>lenO (H n))
noncomputable def Bg5 (l:Int):Int:=if l<0 then 1-2*l else 2*l
noncomputable def Da1 (H:Hq) (f:Fn) (vs:List Vl):Option Vl:=
 if f = .value then l2 (λa b=>onR (λs=>onI (Cb9 H s) b) a) vs else if f = .level then l1 (onR (Cf3 H)) vs else if f = .slot then l1 (onI λl=>some (.int (Bg5 l))) vs else none
noncomputable def subF (H:Hq) (v w:Vl):Option Vl:=onRT (λn=>idxO (H n) w) (λvs=>onI (i5 vs) w) v
noncomputable def tupF (vs:List Vl):Option Vl:=if vs.length<1000000 then some (.tup vs) else none
noncomputable def biF (H:Hq) (b:Bi) (v:Vl):Option Vl:=@Bi.casesOn (λ_=>Option Vl) b (onRT (λn=>lenO (H n)) (λvs=>if vs.length<1000000 then some (.int vs.length) else none) v) (onI (λi=>some (.int i.natAbs)) v) none
 (onR (λn=>(H n).bind (onL tupF)) v) none none
noncomputable def truF (H:Hq) (v:Vl):Option Bool:=@V.casesOn G9 (λ_=>Option Bool) v (some false) some (λ_=>none) (λ_=>none) λn=>(H n).bind (onL λxs=>if xs.length<1000000 then some (!xs.isEmpty) else none)
mutual
noncomputable def pE (H:Hq) (l:Lq):E->Option Vl
 | .none=>some .none
 | .bool b=>some (.bool b)
 | .int i=>some (.int i)
 | .var x=>l x
 | .cst c=>some (.int c.val)
 | .bin op a b=>(pE H l a).bind λx=>(pE H l b).bind (binF op x)
 | .neg a=>(pE H l a).bind (onI λi=>some (.int (-i)))
 | .cmp op a b=>(pE H l a).bind λx=>(pE H l b).bind λy=>(cmpF op x y).bind λr=>some (.bool r)
 | .isNone a=>(pE H l a).bind λv=>some (.bool v.isNone)
 | .notNone a=>(pE H l a).bind λv=>some (.bool (!v.isNone))
 | .attr e a=>(pE H l e).bind (onR λn=>Ca9 (H n) a)
 | .sub e i=>(pE H l e).bind λv=>(pE H l i).bind (subF H v)
 | .ite c a b=>(pC H l c).bind λt=>cond t (pE H l a) (pE H l b)
 | .bi b a=>(pE H l a).bind (biF H b)
 | .tup es=>(c9 H l es).bind tupF
 | .call f args=>(c9 H l args).bind (Da1 H f)
 | .meth o m args=>(pE H l o).bind (onR λn=>(H n).bind (onO (λ_=>Option.none) (λ_=>Option.none) λk _=>if m.kl=some k then (c9 H l args).bind λvs=>Da1 H m (.ref n::vs) else Option.none))
 | .eqDict0 _=>Option.none | .eqList0 _=>Option.none | .isIn _ _=>Option.none | .slice _ _=>Option.none | .list _=>Option.none | .idict0=>Option.none | .tdict0=>Option.none
 | .rep _ _=>Option.none | .cat1 _ _=>Option.none | .new _ _=>Option.none | .bm _ _ _=>Option.none | .comp _ _ _ _=>Option.none
noncomputable def c9 (H:Hq) (l:Lq):Es->Option (List Vl)
 | .nil=>some []
 | .cons e es=>(pE H l e).bind λv=>(c9 H l es).bind λvs=>some (v::vs)
noncomputable def pC (H:Hq) (l:Lq):C->Option Bool
 | .cmp op a b=>(pE H l a).bind λx=>(pE H l b).bind (cmpF op x)
 | .isNone a=>(pE H l a).bind λv=>some v.isNone
 | .notNone a=>(pE H l a).bind λv=>some (!v.isNone)
 | .and cs=>pAnd H l cs
 | .or cs=>pOr H l cs
 | .not c=>(pC H l c).bind λb=>some (!b)
 | .val e=>(pE H l e).bind (truF H)
 | .isIn _ _=>Option.none | .notIn _ _=>Option.none
noncomputable def pAnd (H:Hq) (l:Lq):Cs->Option Bool
 | .nil=>some true
 | .cons c cs=>(pC H l c).bind λb=>cond b (pAnd H l cs) (some false)
noncomputable def pOr (H:Hq) (l:Lq):Cs->Option Bool
 | .nil=>some false
 | .cons c cs=>(pC H l c).bind λb=>cond b (some true) (pOr H l cs)
end
def D5 (K:Calls G9):Prop:=∀f vs (H:Hq) v (Q:Vl->Hq->Prop),Da1 H f vs=some v->Q v H->K f vs Q H
theorem Da6 {op:BOp} {a b v:Vl} (h:binF op a b=some v) {Q:Vl->Prop} (q:Q v):Aa6 op a b Q:=
 R3 h λx ha h=>R3 h λy hb h=>by
  rw [ha,hb]
  cases op <;> first | exact ss (Q:=Q) h q | exact ifI h λc h=>⟨c,ss (Q:=Q) h q⟩
theorem Cj8 {H:Hq} {op:COp} {a b:Vl} {r:Bool} (h:cmpF op a b=some r) {Q:Bool->Prop} (q:Q r):Bi9 H op a b Q:=by
 cases a with
 | int x=>exact R3 h λy hb h=>by rw [hb];cases op <;> exact ss (Q:=Q) h q
 | bool x=>
  cases b with
  | bool y=>exact ifI h λc h=>by rw [c];exact ss (Q:=Q) h q
  | _=>exact nn h
 | _=>exact nn h
theorem Cj2 {xs:List Vl} {k:Int} {r:Vl} (h:i5 xs k=some r):0<=k/\k<1000000/\xs[k.toNat]? = some r:=ifI h λc h=>⟨c.1,c.2,h⟩
theorem Be0 {H:Hq} {n:G9} {w r:Vl} (h:idxO (H n) w=some r) {Q:Vl->Prop} (q:Q r):Ah5 H (.ref n) w Q:=
 q9 h λo e h=>Ad9 h (λxs eo h=>R3 h λk ew h=>by rw [ew];rw [eo] at e;exact .inl ⟨xs,r,e,E6 (Cj2 h) λa b c=>⟨a,b,c,q⟩⟩)
  (λes ep eo h=>R3 h λk ew h=>by rw [ew];rw [eo] at e;exact .inr ⟨es,ep,r,e,h,q⟩) λ_ _ _ h=>nn h
theorem Ci6 {o:Option Ob} {v:Vl} (h:lenO o=some v) {P:Prop} (q:∀xs,o=some (.list xs)->xs.length<1000000->V.int xs.length=v->P):P:=
 q9 h λ_ e h=>Bd4 h λxs eo h=>ifI h λc h=>q xs (e.trans (congrArg some eo)) c (Option.some.inj h)
theorem Aj1 {o:Option Ob} {a:At} {v:Vl} (h:Ca9 o a=some v) {P:Prop} (q:∀k f,o=some (.inst k f)->f a=some v->P):P:=
 q9 h λ_ e h=>Ad9 h (λ_ _ h=>nn h) (λ_ _ _ h=>nn h) λk f eo h=>q k f (e.trans (congrArg some eo)) h
section
variable {K:Calls G9} (hK:D5 K)
theorem subF_ok {H:Hq} {v w r:Vl} (h:subF H v w=some r) {Q:Vl->Prop} (q:Q r):Ah5 H v w Q:=
 Ag0 h (λn e h=>by rw [e];exact Be0 h q) λvs e h=>R3 h λk ew h=>by rw [e,ew];exact ⟨r,E6 (Cj2 h) λa b c=>⟨a,b,c,q⟩⟩
theorem biF_ok {H:Hq} {b:Bi} {v r:Vl} (h:biF H b v=some r) {Q:Vl->Hq->Prop} (q:Q r H):biOp b v Q H:=by
 cases b with
 | len=>exact Ag0 h (λn e h=>Ci6 h λxs ho hl er=>by rw [e];exact ⟨xs,ho,hl,er▸q⟩) λvs e h=>ifI h λc h=>by rw [e];exact ⟨c,ss (Q:=λv=>Q v H) h q⟩
 | abs=>exact R3 h λi e h=>by rw [e];exact ss (Q:=λv=>Q v H) h q
 | tuple=>exact j6 h λn e h=>q9 h λo ho h=>Bd4 h λxs eo h=>ifI h λc h=>by rw [e];exact ⟨xs,ho.trans (congrArg some eo),c,ss (Q:=λv=>Q v H) h q⟩
 | _=>exact nn h
theorem truF_ok {H:Hq} {v:Vl} {r:Bool} (h:truF H v=some r) {Q:Bool->Prop} (q:Q r):Ae9 H v Q:=by
 cases v with
 | none=>exact ss (Q:=Q) h q
 | bool b=>exact ss (Q:=Q) h q
 | ref n=>exact q9 h λo ho h=>Bd4 h λxs eo h=>ifI h λc h=>⟨xs,ho.trans (congrArg some eo),c,ss (Q:=Q) h q⟩
 | _=>exact nn h
mutual
theorem D3 (hK:D5 K) {H:Hq} {l:Lq}:∀{e:E} {v:Vl} {Q:Vl->Hq->Prop},pE H l e=some v->Q v H->O0 K e l Q H
 | .none,_,Q,h,q=>ss (Q:=λv=>Q v H) h q
 | .bool b,_,Q,h,q=>ss (Q:=λv=>Q v H) h q
 | .int i,_,Q,h,q=>ss (Q:=λv=>Q v H) h q
 | .var x,v,Q,h,q=>⟨v,h,q⟩
 | .cst c,_,Q,h,q=>ss (Q:=λv=>Q v H) h q
 | .bin op a b,v,Q,h,q=>q9 (o:=pE H l a) h λx h1 h=>q9 (o:=pE H l b) h λy h2 h=>D3 (e:=a) hK h1 (D3 (e:=b) hK h2 (Da6 h q))
 | .neg a,v,Q,h,q=>q9 (o:=pE H l a) h λx h1 h=>R3 h λi e h=>D3 (e:=a) hK h1 ⟨i,e,ss (Q:=λv=>Q v H) h q⟩
 | .cmp op a b,v,Q,h,q=>q9 (o:=pE H l a) h λx h1 h=>q9 (o:=pE H l b) h λy h2 h=>q9 h λr h3 h=>D3 (e:=a) hK h1 (D3 (e:=b) hK h2 (Cj8 h3 (ss (Q:=λv=>Q v H) h q)))
 | .isNone a,v,Q,h,q=>q9 (o:=pE H l a) h λx h1 h=>D3 (e:=a) hK h1 (ss (Q:=λv=>Q v H) h q)
 | .notNone a,v,Q,h,q=>q9 (o:=pE H l a) h λx h1 h=>D3 (e:=a) hK h1 (ss (Q:=λv=>Q v H) h q)
 | .attr e a,v,Q,h,q=>q9 (o:=pE H l e) h λx h1 h=>j6 h λn en h=>Aj1 h λk f hn hf=>D3 (e:=e) hK h1 ⟨n,k,f,v,en,hn,hf,q⟩
 | .sub e i,v,Q,h,q=>q9 (o:=pE H l e) h λx h1 h=>q9 (o:=pE H l i) h λy h2 h=>D3 (e:=e) hK h1 (D3 (e:=i) hK h2 (subF_ok h q))
 | .ite c a b,v,Q,h,q=>q9 (o:=pC H l c) h λt h1 h=>r8 (c:=c) hK h1 (by cases t with | true=>exact D3 (e:=a) hK h q | false=>exact D3 (e:=b) hK h q)
 | .bi b a,v,Q,h,q=>q9 (o:=pE H l a) h λx h1 h=>D3 (e:=a) hK h1 (biF_ok h q)
 | .tup a,v,Q,h,q=>q9 (o:=c9 H l a) h λvs h1 h=>ifI h λc h=>J' (es:=a) hK h1 ⟨c,ss (Q:=λv=>Q v H) h q⟩
 | .call f args,v,Q,h,q=>q9 (o:=c9 H l args) h λvs h1 h=>J' (es:=args) hK h1 (hK f vs H v Q h q)
 | .meth o m args,v,Q,h,q=>q9 (o:=pE H l o) h λx h1 h=>j6 h λn en h=>q9 h λob hn h=>Ad9 h (λ_ _ h=>nn h) (λ_ _ _ h=>nn h) λk f eo h=>ifI h λhk h=>
  q9 (o:=c9 H l args) h λvs h2 h=>D3 (e:=o) hK h1 ⟨n,k,f,en,hn.trans (congrArg some eo),hk,by rw [en];exact J' (es:=args) hK h2 (hK m _ H v Q h q)⟩
 | .eqDict0 _,_,_,h,_=>nn h | .eqList0 _,_,_,h,_=>nn h | .isIn _ _,_,_,h,_=>nn h | .slice _ _,_,_,h,_=>nn h | .list _,_,_,h,_=>nn h
 | .idict0,_,_,h,_=>nn h | .tdict0,_,_,h,_=>nn h | .rep _ _,_,_,h,_=>nn h | .cat1 _ _,_,_,h,_=>nn h | .new _ _,_,_,h,_=>nn h | .bm _ _ _,_,_,h,_=>nn h | .comp _ _ _ _,_,_,h,_=>nn h
theorem J' (hK:D5 K) {H:Hq} {l:Lq}:∀{es:Es} {vs:List Vl} {Q:List Vl->Hq->Prop},c9 H l es=some vs->Q vs H->Q' K es l Q H
 | .nil,_,Q,h,q=>ss (Q:=λv=>Q v H) h q
 | .cons e es,vs,Q,h,q=>q9 (o:=pE H l e) h λx h1 h=>q9 (o:=c9 H l es) h λy h2 h=>D3 (e:=e) hK h1 (J' (es:=es) hK h2 (ss (Q:=λv=>Q v H) h q))
theorem r8 (hK:D5 K) {H:Hq} {l:Lq}:∀{c:C} {r:Bool} {Q:Bool->Hq->Prop},pC H l c=some r->Q r H->wpC K c l Q H
 | .cmp op a b,v,Q,h,q=>q9 (o:=pE H l a) h λx h1 h=>q9 (o:=pE H l b) h λy h2 h=>D3 (e:=a) hK h1 (D3 (e:=b) hK h2 (Cj8 h q))
 | .isNone a,v,Q,h,q=>q9 (o:=pE H l a) h λx h1 h=>D3 (e:=a) hK h1 (ss (Q:=λv=>Q v H) h q)
 | .notNone a,v,Q,h,q=>q9 (o:=pE H l a) h λx h1 h=>D3 (e:=a) hK h1 (ss (Q:=λv=>Q v H) h q)
 | .and cs,v,Q,h,q=>Ch8 (c:=cs) hK h q
 | .or cs,v,Q,h,q=>Dj0 (c:=cs) hK h q
 | .not c,v,Q,h,q=>q9 (o:=pC H l c) h λx h1 h=>r8 (c:=c) hK h1 (ss (Q:=λv=>Q v H) h q)
 | .val e,v,Q,h,q=>q9 (o:=pE H l e) h λx h1 h=>D3 (e:=e) hK h1 (truF_ok h q)
 | .isIn _ _,_,_,h,_=>nn h
 | .notIn _ _,_,_,h,_=>nn h
theorem Ch8 (hK:D5 K) {H:Hq} {l:Lq}:∀{c:Cs} {r:Bool} {Q:Bool->Hq->Prop},pAnd H l c=some r->Q r H->W1 K c l Q H
 | .nil,_,Q,h,q=>ss (Q:=λv=>Q v H) h q
 | .cons c cs,v,Q,h,q=>q9 (o:=pC H l c) h λt h1 h=>r8 (c:=c) hK h1 (by cases t with | true=>exact Ch8 (c:=cs) hK h q | false=>exact ss (Q:=λv=>Q v H) h q)
theorem Dj0 (hK:D5 K) {H:Hq} {l:Lq}:∀{c:Cs} {r:Bool} {Q:Bool->Hq->Prop},pOr H l c=some r->Q r H->wpOr K c l Q H
 | .nil,_,Q,h,q=>ss (Q:=λv=>Q v H) h q
 | .cons c cs,v,Q,h,q=>q9 (o:=pC H l c) h λt h1 h=>r8 (c:=c) hK h1 (by cases t with | true=>exact ss (Q:=λv=>Q v H) h q | false=>exact Dj0 (c:=cs) hK h q)
end
end
theorem b1 {α β:Type} {o:Option α} {a:α} (k:α->Option β) (h:o=some a):o.bind k=k a:=congrArg (Option.bind · k) h
section
variable {H:Hq} {l:Lq}
theorem E0 {op:COp} {a b:E} {x y:Int} (ha:pE H l a=some (.int x)) (hb:pE H l b=some (.int y)):pC H l (.cmp op a b)=some (J0 op x y):=(b1 _ ha).trans (b1 (cmpF op (.int x)) hb)
theorem Dj2 {op:COp} {a b:E} {x y:Int} (ha:pE H l a=some (.int x)) (hb:pE H l b=some (.int y)):pE H l (.cmp op a b)=some (.bool (J0 op x y)):=(b1 _ ha).trans (b1 (λy=>(cmpF op (.int x) y).bind λr=>some (V.bool r)) hb)
theorem D8 {op:BOp} {a b:E} {x y:Int} (ha:pE H l a=some (.int x)) (hb:pE H l b=some (.int y)):pE H l (.bin op a b)=binF op (.int x) (.int y):=(b1 _ ha).trans (b1 (binF op (.int x)) hb)
theorem B9 {e:E} {es:Es} {v:Vl} {vs:List Vl} (h1:pE H l e=some v) (h2:c9 H l es=some vs):c9 H l (.cons e es)=some (v::vs):=(b1 _ h1).trans (b1 (λvs=>some (v::vs)) h2)
theorem Bd2 {e:E} {x:Int} (he:pE H l e=some (.int x)):pE H l (.neg e)=some (.int (-x)):=b1 _ he
end
theorem Bg9 {H:Hq} {l:Lq} {e:E} {n:G9} {a:At} (h:pE H l e=some (.ref n)):pE H l (.attr e a)=Ca9 (H n) a:=b1 _ h
theorem Bd0 {H:Hq} {l:Lq} {e i:E} {v w:Vl} (h:pE H l e=some v) (h':pE H l i=some w):pE H l (.sub e i)=subF H v w:=(b1 _ h).trans (b1 (subF H v) h')
theorem Ad7 {H:Hq} {l:Lq} {e:E} {n:G9} (h:pE H l e=some (.ref n)):pE H l (.bi .len e)=lenO (H n):=b1 _ h
theorem C7 (k:Nat):D5 (C9 (k+1)):=by
 intro f vs H v Q h q
 unfold Da1 at h
 by_cases f1:f = .value
 ·rw [if_pos f1] at h
  refine l2_inv h λa b ev h=>j6 h λs ea h=>R3 h λx eb h=>q9 h λr e1 h=>j6 h λn er hh=>Aj1 e1 λkd fl hs hf=>?_
  replace hf:=hf.trans (congrArg some er)
  rw [f1,ev,ea,eb]
  refine ⟨rfl,?_⟩
  by_cases hl:x<0
  ·rw [if_pos hl] at hh
   refine q9 hh λy hy h=>R3 h λi ei h=>?_
   rw [ei] at hy
   refine ⟨V.int x,rfl,?_⟩
   show (if (decide (x<0))=true then _ else _)
   rw [if_pos (decide_eq_true hl)]
   exact ⟨_,rfl,s,kd,fl,_,rfl,hs,hf,V.int x,rfl,x,rfl,Be0 hy ⟨i,rfl,ss (Q:=λv=>Q v H) h q⟩⟩
  ·rw [if_neg hl] at hh
   refine ⟨V.int x,rfl,?_⟩
   show (if (decide (x<0))=true then _ else _)
   rw [if_neg (by rw [decide_eq_true_iff];exact hl)]
   exact ⟨_,rfl,s,kd,fl,_,rfl,hs,hf,V.int x,rfl,Be0 hh q⟩
 rw [if_neg f1] at h
 by_cases f2:f = .level
 ·rw [if_pos f2] at h
  refine Cf4 h λa ev h=>j6 h λs ea h=>q9 h λr e1 h=>j6 h λn er h=>Aj1 e1 λkd fl hs hf=>Ci6 h λxs hx hl er'=>?_
  replace hf:=hf.trans (congrArg some er)
  rw [f2,ev,ea]
  rw [<-er'] at q
  exact ⟨rfl,_,rfl,s,kd,fl,_,rfl,hs,hf,xs,hx,hl,q⟩
 rw [if_neg f2] at h
 refine ifI h λf3 h=>Cf4 h λa ev h=>R3 h λx ea h=>?_
 rw [f3,ev,ea]
 refine ⟨rfl,V.int x,rfl,?_⟩
 show (if (decide (x<0))=true then _ else _)
 have q:=ss (Q:=λv=>Q v H) h q
 unfold Bg5 at q
 by_cases hl:x<0
 ·rw [if_pos (decide_eq_true hl)]
  rw [if_pos hl] at q
  exact ⟨V.int x,rfl,.inl (by decide),q⟩
 ·rw [if_neg (by rw [decide_eq_true_iff];exact hl)]
  rw [if_neg hl] at q
  exact ⟨V.int x,rfl,.inl (by decide),q⟩
abbrev M0 (K:Calls G9) (ss:Ss) (Q:Fl G9->Lq->Hq->Prop):Fl G9->Lq->Hq->Prop:=thenF (λl1 H1=>C2 K ss Q l1 H1) Q
section
variable {K:Calls G9} {H:Hq} {l:Lq} {ss:Ss} {Q:Fl G9->Lq->Hq->Prop} (hK:D5 K)
theorem C0 (q:Q .next l H):C2 K .nil Q l H:=q
theorem B6 (q:C2 K ss Q l H):M0 K ss Q .next l H:=q
theorem J2 {x:Vr} {e:E} {v:Vl} (hK:D5 K) (h:pE H l e=some v) (q:C2 K ss Q (l.set x v) H):C2 K (.cons (.set x e) ss) Q l H:=D3 (e:=e) hK h q
theorem M3 {e:E} {v:Vl} (hK:D5 K) (h:pE H l e=some v) (q:Q (.ret v) l H):C2 K (.cons (.ret e) ss) Q l H:=D3 (e:=e) hK h q
theorem Ac1 (q:Q (.ret .none) l H):C2 K (.cons .retNone ss) Q l H:=q
theorem c_ite {c:C} {t f:Ss} {b:Bool} (hK:D5 K) (h:pC H l c=some b) (q:if b then C2 K t (M0 K ss Q) l H else C2 K f (M0 K ss Q) l H):C2 K (.cons (.ite c t f) ss) Q l H:=r8 (c:=c) hK h q
theorem G6 {c:C} {t f:Ss} (hK:D5 K) (h:pC H l c=some true) (q:C2 K t (M0 K ss Q) l H):C2 K (.cons (.ite c t f) ss) Q l H:=c_ite hK h (by rw [if_pos rfl];exact q)
theorem E9 {c:C} {t f:Ss} (hK:D5 K) (h:pC H l c=some false) (q:C2 K f (M0 K ss Q) l H):C2 K (.cons (.ite c t f) ss) Q l H:=c_ite hK h (by rw [if_neg (by simp)];exact q)
theorem V7 {o e:E} {a:At} {v:Vl} {n:G9} {k:Kl} {f:At->Option Vl} (hK:D5 K) (he:pE H l e=some v) (ho:pE H l o=some (.ref n)) (hn:H n=some (.inst k f)) (ha:a.kl=k)
  (q:C2 K ss Q l (H.set n (.inst k λb=>if b=a then some v else f b))):C2 K (.cons (.setAttr o a e) ss) Q l H:=
 D3 (e:=e) hK he (D3 (e:=o) hK ho ⟨n,k,f,rfl,hn,ha,q⟩)
theorem K5 {o i e:E} {v:Vl} {n:G9} {xs:List Vl} {k:Int} (hK:D5 K) (he:pE H l e=some v) (ho:pE H l o=some (.ref n)) (hi:pE H l i=some (.int k)) (hn:H n=some (.list xs))
  (h0:0<=k) (h1:k<xs.length) (h2:xs.length<=1000000) (q:C2 K ss Q l (H.set n (.list (xs.set k.toNat v)))):C2 K (.cons (.setSub o i e) ss) Q l H:=
 D3 (e:=e) hK he (D3 (e:=o) hK ho (D3 (e:=i) hK hi (.inl ⟨xs,hn,h0,o67 h1 h2 (by decide),h1,q⟩)))
theorem I9 {o e:E} {n:G9} {xs:List Vl} {v:Vl} (hK:D5 K) (ho:pE H l o=some (.ref n)) (hn:H n=some (.list xs)) (he:pE H l e=some v) (hl:xs.length<1000000)
  (q:C2 K ss Q l (H.set n (.list (xs++[v])))):C2 K (.cons (.expr (.bm .append o (.cons e .nil))) ss) Q l H:=
 D3 (e:=o) hK ho ⟨⟨xs,hn⟩,D3 (e:=e) hK he ⟨xs,hn,hl,trivial,q⟩⟩
theorem Q5 {o:E} {m:Fn} {args:Es} {n:G9} {k:Kl} {f:At->Option Vl} {vs:List Vl} (hK:D5 K) (ho:pE H l o=some (.ref n)) (hn:H n=some (.inst k f)) (hk:m.kl=some k) (ha:c9 H l args=some vs)
  (q:K m (.ref n::vs) (λv H'=>v.plain/\C2 K ss Q l H') H):C2 K (.cons (.expr (.meth o m args)) ss) Q l H:=
 D3 (e:=o) hK ho ⟨n,k,f,rfl,hn,hk,J' (es:=args) hK ha q⟩
theorem V5 {o:E} {m:Fn} {args:Es} {n:G9} {k:Kl} {f:At->Option Vl} {vs:List Vl} {x:Vr} (hK:D5 K) (ho:pE H l o=some (.ref n)) (hn:H n=some (.inst k f)) (hk:m.kl=some k) (ha:c9 H l args=some vs)
  (q:K m (.ref n::vs) (λv H'=>C2 K ss Q (l.set x v) H') H):C2 K (.cons (.set x (.meth o m args)) ss) Q l H:=
 D3 (e:=o) hK ho ⟨n,k,f,rfl,hn,hk,J' (es:=args) hK ha q⟩
theorem V6 {f:Fn} {args:Es} {vs:List Vl} {x:Vr} (hK:D5 K) (ha:c9 H l args=some vs)
 (q:K f vs (λv H'=>C2 K ss Q (l.set x v) H') H):C2 K (.cons (.set x (.call f args)) ss) Q l H:=J' (es:=args) hK ha q
theorem T0 {es:Es} {vs:List Vl} {x:Vr} (hK:D5 K) (ha:c9 H l es=some vs) (hl:vs.length<1000000) (m:G9) (hm:H m=none) (q:C2 K ss Q (l.set x (.ref m)) (H.set m (.list vs))):
 C2 K (.cons (.set x (.list es)) ss) Q l H:=J' (es:=es) hK ha ⟨hl,m,hm,q⟩
theorem Aa4 {a n:E} {v:Vl} {k:Int} {x:Vr} (hK:D5 K) (ha:pE H l a=some v) (hn:pE H l n=some (.int k)) (h0:0<=k) (h1:k<1000000) (hv:v.flat) (m:G9) (hm:H m=none)
  (q:C2 K ss Q (l.set x (.ref m)) (H.set m (.list (List.replicate k.toNat v)))):C2 K (.cons (.set x (.rep a n)) ss) Q l H:=
 D3 (e:=a) hK ha (D3 (e:=n) hK hn ⟨k,rfl,h0,h1,hv,m,hm,q⟩)
theorem D0 {k:Nat} {f:Fn} {vs:List Vl} {R:Vl->Hq->Prop} (hl:vs.length=f.params.length)
 (q:C2 (C9 k) f.body (λfl _ H'=>R fl.val H') (Lc.args f.params vs) H):C9 (k+1) f vs R H:=⟨hl,q⟩
end
structure Sg where
 n:Nat
 m:Nat
 cls:Nat->List Int
 rows:Nat->List Nat
 val:Nat->Int
 lev:Nat->Nat
 rea:Nat->Int
 pha:Nat->Int
 act:Nat->Int
 step:Int
 trail:List Int
 lim:List Nat
 head:Nat
 lrn:List Vl
 refuted:Bool
 fnd:List Vl
structure Nu where
 self:Nat
 clauses:Nat
 watches:Nat
 values:Nat
 levels:Nat
 reasons:Nat
 phases:Nat
 activity:Nat
 trail:Nat
 limits:Nat
 learned:Nat
 found:Nat
 row:Nat->Nat
 cl:Nat->Nat
 tk:Nat
noncomputable def T4 (n:Nat) (f:Nat->Int):List Vl:=(List.range (n+1)).map λi=>V.int (f i)
noncomputable def C8 (xs:List Int):List Vl:=xs.map V.int
noncomputable def E8 (xs:List Nat):List Vl:=xs.map λq:Nat=>V.int (q:Int)
noncomputable def flds (ν:Nu) (J:Sg):At->Option Vl
 | .count=>some (.int J.n)
 | .clauses=>some (.ref (.clauses,ν.clauses))
 | .watches=>some (.ref (.watches,ν.watches))
 | .values=>some (.ref (.values,ν.values))
 | .levels=>some (.ref (.levels,ν.levels))
 | .reasons=>some (.ref (.reasons,ν.reasons))
 | .phases=>some (.ref (.phases,ν.phases))
 | .activity=>some (.ref (.activity,ν.activity))
 | .step=>some (.int J.step)
 | .trail=>some (.ref (.trail,ν.trail))
 | .limits=>some (.ref (.limits,ν.limits))
 | .head=>some (.int J.head)
 | .learned=>some (.ref (.learned,ν.learned))
 | .refuted=>some (.bool J.refuted)
 | .found=>some (.ref (.found,ν.found))
 | _=>none
noncomputable def Sg.wA (J:Sg) (a:Nat->Int) (s:Int):Sg:={J with act:=a,step:=s}
noncomputable def Sg.wC (J:Sg) (c:Nat->List Int):Sg:={J with cls:=c}
noncomputable def Sg.wH (J:Sg) (h:Nat):Sg:={J with head:=h}
noncomputable def Nu.wT (ν:Nu) (t:Nat):Nu:={ν with tk:=t}
structure Sv (H:Hq) (ν:Nu) (J:Sg):Prop where
 self:H (.self,ν.self)=some (.inst .solver (flds ν J))
 clauses:H (.clauses,ν.clauses)=some (.list ((List.range J.m).map λi=>V.ref (Tag.cls i,ν.cl i)))
 cls:∀i,i<J.m->H (.cls i,ν.cl i)=some (.list (C8 (J.cls i)))
 watches:H (.watches,ν.watches)=some (.list ((List.range (2*J.n+2)).map λs=>V.ref (Tag.row s,ν.row s)))
 rows:∀s,s<2*J.n+2->H (.row s,ν.row s)=some (.list (E8 (J.rows s)))
 values:H (.values,ν.values)=some (.list (T4 J.n J.val))
 levels:H (.levels,ν.levels)=some (.list (T4 J.n λv=>(J.lev v:Int)))
 reasons:H (.reasons,ν.reasons)=some (.list (T4 J.n J.rea))
 phases:H (.phases,ν.phases)=some (.list (T4 J.n J.pha))
 activity:H (.activity,ν.activity)=some (.list (T4 J.n J.act))
 trail:H (.trail,ν.trail)=some (.list (C8 J.trail))
 limits:H (.limits,ν.limits)=some (.list (E8 J.lim))
 learned:H (.learned,ν.learned)=some (.list J.lrn)
 found:H (.found,ν.found)=some (.list J.fnd)
 fresh:∀t j,ν.tk<=j->H (t,j)=none
structure Sz (b:Nat) (J:Sg):Prop where
 le:b<=900000
 n:J.n<1000
 m:J.m<b
 cls:∀i,i<J.m->(J.cls i).length<1000
 rows:∀s,(J.rows s).length<b
 trail:J.trail.length<b
 lim:J.lim.length<b
 lrn:J.lrn.length<b
theorem Sz.of {b:Nat} {J σ':Sg} (Z:Sz b J) (h1:σ'.n=J.n) (h2:σ'.m=J.m) (h3:σ'.cls=J.cls) (h4:σ'.rows=J.rows) (h5:σ'.trail=J.trail) (h6:σ'.lim=J.lim) (h7:σ'.lrn=J.lrn):Sz b σ':=
 ⟨Z.le,h1▸Z.n,h2▸Z.m,h2▸h3▸Z.cls,h4▸Z.rows,h5▸Z.trail,h6▸Z.lim,h7▸Z.lrn⟩
noncomputable def upd (f:Nat->Int) (k:Nat) (v:Int):Nat->Int:=λi=>if i=k then v else f i
noncomputable def P6 (f:Nat->Nat) (k:Nat) (v:Nat):Nat->Nat:=λi=>if i=k then v else f i
theorem E5 (n:Nat) (f:Nat->Int):(T4 n f).length=n+1:=by simp [T4]
theorem Bf5 {n:Nat} {f:Nat->Int} {k:Nat} (h:k<=n):(T4 n f)[k]? = some (.int (f k)):=by
 unfold T4
 rw [List.getElem?_map,List.getElem?_range (o68 h)];rfl
theorem Aa1 {n:Nat} {f:Nat->Int} {k:Int} (h0:0<=k) (h:k<=n) (hn:n<1000):i5 (T4 n f) k=some (.int (f k.toNat)):=by
 unfold i5
 rw [if_pos ⟨h0,o69 h hn (by decide)⟩]
 exact Bf5 (o70 h)
theorem T3 {n:Nat} {f:Nat->Int} {k:Nat} {v:Int}:(T4 n f).set k (.int v)=T4 n (upd f k v):=by
 unfold T4
 apply List.ext_getElem?
 intro i
 rw [List.getElem?_set,List.getElem?_map,List.getElem?_map]
 by_cases hi:i<n+1
 ·rw [List.getElem?_range hi]
  by_cases hk:k=i
  ·subst hk;simp [upd,hi]
  ·have:¬i=k:=λe=>hk e.symm
   simp [upd,hk,this]
 ·rw [List.getElem?_eq_none (by simp;exact o71 hi)]
  simp
  exact o72 hi
theorem C3 (xs:List Int):(C8 xs).length=xs.length:=by simp [C8]
theorem G8 (xs:List Nat):(E8 xs).length=xs.length:=by simp [E8]
theorem J7 {xs:List Int} {k:Nat} {v:Int} (h:xs[k]? = some v) (hl:xs.length<1000000):i5 (C8 xs) k=some (.int v):=by
 have hk:=(List.getElem?_eq_some_iff.mp h).1
 unfold i5
 rw [if_pos ⟨o73,o74 hk hl (by decide)⟩]
 unfold C8
 simp [h]
theorem Ba8 {xs:List Nat} {k:Nat} {v:Nat} (h:xs[k]? = some v) (hl:xs.length<1000000):i5 (E8 xs) k=some (.int v):=by
 have hk:=(List.getElem?_eq_some_iff.mp h).1
 unfold i5
 rw [if_pos ⟨o73,o74 hk hl (by decide)⟩]
 unfold E8
 simp [h]
theorem Ba7 {n:Nat} {g:Nat->G9} {k:Nat} (h:k<n) (hl:n<1000000):i5 ((List.range n).map λi=>(V.ref (g i):Vl)) k=some (.ref (g k)):=by
 unfold i5
 rw [if_pos ⟨o73,o74 h hl (by decide)⟩]
 simp [List.getElem?_range h]
theorem i3 {xs:List Vl} (h:xs.length<1000000):lenO (some (.list xs))=some (.int xs.length):=by show (if xs.length<1000000 then _ else _)=_;rw [if_pos h]
theorem B2 {H:Hq} {m n:G9} {o:Ob} (h:m≠n):(H.set n o) m=H m:=by unfold Hp.set;rw [if_neg h]
theorem C6 {t t':Tag} {j j':Nat} (h:Nat.beq t.ctorIdx t'.ctorIdx=false):(t,j)≠(t',j'):=λe=>Nat.ne_of_beq_eq_false h (congrArg (λp:G9=>p.1.ctorIdx) e)
theorem D2 {H:Hq} {n:G9} {o:Ob}:(H.set n o) n=some o:=by unfold Hp.set;rw [if_pos rfl]
theorem K4 {H:Hq} {tk:Nat} (hf:∀t j,tk<=j->H (t,j)=none) {n:G9} {o o':Ob} (hs:H n=some o):∀t j,tk<=j->(H.set n o') (t,j)=none:=by
 intro t j hj
 rw [B2]
 ·exact hf t j hj
 ·rintro rfl
  rw [hf t j hj] at hs;cases hs
section
variable {H:Hq} {ν:Nu} {J:Sg}
theorem Sv.setValues (S:Sv H ν J) (f:Nat->Int):Sv (H.set (.values,ν.values) (.list (T4 J.n f))) ν {J with val:=f}:=
 ⟨(B2 (C6 rfl)).trans S.self,(B2 (C6 rfl)).trans S.clauses,λi hi=>(B2 (C6 rfl)).trans (S.cls i hi),(B2 (C6 rfl)).trans S.watches,λs hs=>(B2 (C6 rfl)).trans (S.rows s hs),D2,(B2 (C6 rfl)).trans S.levels,(B2 (C6 rfl)).trans S.reasons,(B2 (C6 rfl)).trans S.phases,(B2 (C6 rfl)).trans S.activity,(B2 (C6 rfl)).trans S.trail,(B2 (C6 rfl)).trans S.limits,(B2 (C6 rfl)).trans S.learned,(B2 (C6 rfl)).trans S.found,K4 S.fresh S.values⟩
theorem Sv.setLevels (S:Sv H ν J) (f:Nat->Nat):Sv (H.set (.levels,ν.levels) (.list (T4 J.n λv=>(f v:Int)))) ν {J with lev:=f}:=
 ⟨(B2 (C6 rfl)).trans S.self,(B2 (C6 rfl)).trans S.clauses,λi hi=>(B2 (C6 rfl)).trans (S.cls i hi),(B2 (C6 rfl)).trans S.watches,λs hs=>(B2 (C6 rfl)).trans (S.rows s hs),(B2 (C6 rfl)).trans S.values,D2,(B2 (C6 rfl)).trans S.reasons,(B2 (C6 rfl)).trans S.phases,(B2 (C6 rfl)).trans S.activity,(B2 (C6 rfl)).trans S.trail,(B2 (C6 rfl)).trans S.limits,(B2 (C6 rfl)).trans S.learned,(B2 (C6 rfl)).trans S.found,K4 S.fresh S.levels⟩
theorem Sv.setReasons (S:Sv H ν J) (f:Nat->Int):Sv (H.set (.reasons,ν.reasons) (.list (T4 J.n f))) ν {J with rea:=f}:=
 ⟨(B2 (C6 rfl)).trans S.self,(B2 (C6 rfl)).trans S.clauses,λi hi=>(B2 (C6 rfl)).trans (S.cls i hi),(B2 (C6 rfl)).trans S.watches,λs hs=>(B2 (C6 rfl)).trans (S.rows s hs),(B2 (C6 rfl)).trans S.values,(B2 (C6 rfl)).trans S.levels,D2,(B2 (C6 rfl)).trans S.phases,(B2 (C6 rfl)).trans S.activity,(B2 (C6 rfl)).trans S.trail,(B2 (C6 rfl)).trans S.limits,(B2 (C6 rfl)).trans S.learned,(B2 (C6 rfl)).trans S.found,K4 S.fresh S.reasons⟩
theorem Sv.setPhases (S:Sv H ν J) (f:Nat->Int):Sv (H.set (.phases,ν.phases) (.list (T4 J.n f))) ν {J with pha:=f}:=
 ⟨(B2 (C6 rfl)).trans S.self,(B2 (C6 rfl)).trans S.clauses,λi hi=>(B2 (C6 rfl)).trans (S.cls i hi),(B2 (C6 rfl)).trans S.watches,λs hs=>(B2 (C6 rfl)).trans (S.rows s hs),(B2 (C6 rfl)).trans S.values,(B2 (C6 rfl)).trans S.levels,(B2 (C6 rfl)).trans S.reasons,D2,(B2 (C6 rfl)).trans S.activity,(B2 (C6 rfl)).trans S.trail,(B2 (C6 rfl)).trans S.limits,(B2 (C6 rfl)).trans S.learned,(B2 (C6 rfl)).trans S.found,K4 S.fresh S.phases⟩
theorem Sv.setActivity (S:Sv H ν J) (f:Nat->Int):Sv (H.set (.activity,ν.activity) (.list (T4 J.n f))) ν {J with act:=f}:=
 ⟨(B2 (C6 rfl)).trans S.self,(B2 (C6 rfl)).trans S.clauses,λi hi=>(B2 (C6 rfl)).trans (S.cls i hi),(B2 (C6 rfl)).trans S.watches,λs hs=>(B2 (C6 rfl)).trans (S.rows s hs),(B2 (C6 rfl)).trans S.values,(B2 (C6 rfl)).trans S.levels,(B2 (C6 rfl)).trans S.reasons,(B2 (C6 rfl)).trans S.phases,D2,(B2 (C6 rfl)).trans S.trail,(B2 (C6 rfl)).trans S.limits,(B2 (C6 rfl)).trans S.learned,(B2 (C6 rfl)).trans S.found,K4 S.fresh S.activity⟩
theorem Sv.setTrail (S:Sv H ν J) (f:List Int):Sv (H.set (.trail,ν.trail) (.list (C8 f))) ν {J with trail:=f}:=
 ⟨(B2 (C6 rfl)).trans S.self,(B2 (C6 rfl)).trans S.clauses,λi hi=>(B2 (C6 rfl)).trans (S.cls i hi),(B2 (C6 rfl)).trans S.watches,λs hs=>(B2 (C6 rfl)).trans (S.rows s hs),(B2 (C6 rfl)).trans S.values,(B2 (C6 rfl)).trans S.levels,(B2 (C6 rfl)).trans S.reasons,(B2 (C6 rfl)).trans S.phases,(B2 (C6 rfl)).trans S.activity,D2,(B2 (C6 rfl)).trans S.limits,(B2 (C6 rfl)).trans S.learned,(B2 (C6 rfl)).trans S.found,K4 S.fresh S.trail⟩
theorem Sv.setLimits (S:Sv H ν J) (f:List Nat):Sv (H.set (.limits,ν.limits) (.list (E8 f))) ν {J with lim:=f}:=
 ⟨(B2 (C6 rfl)).trans S.self,(B2 (C6 rfl)).trans S.clauses,λi hi=>(B2 (C6 rfl)).trans (S.cls i hi),(B2 (C6 rfl)).trans S.watches,λs hs=>(B2 (C6 rfl)).trans (S.rows s hs),(B2 (C6 rfl)).trans S.values,(B2 (C6 rfl)).trans S.levels,(B2 (C6 rfl)).trans S.reasons,(B2 (C6 rfl)).trans S.phases,(B2 (C6 rfl)).trans S.activity,(B2 (C6 rfl)).trans S.trail,D2,(B2 (C6 rfl)).trans S.learned,(B2 (C6 rfl)).trans S.found,K4 S.fresh S.limits⟩
theorem Sv.setLearned (S:Sv H ν J) (f:List Vl):Sv (H.set (.learned,ν.learned) (.list (f))) ν {J with lrn:=f}:=
 ⟨(B2 (C6 rfl)).trans S.self,(B2 (C6 rfl)).trans S.clauses,λi hi=>(B2 (C6 rfl)).trans (S.cls i hi),(B2 (C6 rfl)).trans S.watches,λs hs=>(B2 (C6 rfl)).trans (S.rows s hs),(B2 (C6 rfl)).trans S.values,(B2 (C6 rfl)).trans S.levels,(B2 (C6 rfl)).trans S.reasons,(B2 (C6 rfl)).trans S.phases,(B2 (C6 rfl)).trans S.activity,(B2 (C6 rfl)).trans S.trail,(B2 (C6 rfl)).trans S.limits,D2,(B2 (C6 rfl)).trans S.found,K4 S.fresh S.learned⟩
theorem Sv.setHead (S:Sv H ν J) (f:Nat):Sv (H.set (.self,ν.self) (.inst .solver λb=>if b = .head then some (.int f) else flds ν J b)) ν (J.wH f):=
 ⟨by rw [D2];congr 2;funext b;cases b <;> first | contradiction | rfl,(B2 (C6 rfl)).trans S.clauses,λi hi=>(B2 (C6 rfl)).trans (S.cls i hi),(B2 (C6 rfl)).trans S.watches,λs hs=>(B2 (C6 rfl)).trans (S.rows s hs),(B2 (C6 rfl)).trans S.values,(B2 (C6 rfl)).trans S.levels,(B2 (C6 rfl)).trans S.reasons,(B2 (C6 rfl)).trans S.phases,(B2 (C6 rfl)).trans S.activity,(B2 (C6 rfl)).trans S.trail,(B2 (C6 rfl)).trans S.limits,(B2 (C6 rfl)).trans S.learned,(B2 (C6 rfl)).trans S.found,K4 S.fresh S.self⟩
theorem Sv.setStep (S:Sv H ν J) (f:Int):Sv (H.set (.self,ν.self) (.inst .solver λb=>if b = .step then some (.int f) else flds ν J b)) ν {J with step:=f}:=
 ⟨by rw [D2];congr 2;funext b;cases b <;> first | contradiction | rfl,(B2 (C6 rfl)).trans S.clauses,λi hi=>(B2 (C6 rfl)).trans (S.cls i hi),(B2 (C6 rfl)).trans S.watches,λs hs=>(B2 (C6 rfl)).trans (S.rows s hs),(B2 (C6 rfl)).trans S.values,(B2 (C6 rfl)).trans S.levels,(B2 (C6 rfl)).trans S.reasons,(B2 (C6 rfl)).trans S.phases,(B2 (C6 rfl)).trans S.activity,(B2 (C6 rfl)).trans S.trail,(B2 (C6 rfl)).trans S.limits,(B2 (C6 rfl)).trans S.learned,(B2 (C6 rfl)).trans S.found,K4 S.fresh S.self⟩
theorem Sv.setRefuted (S:Sv H ν J) (f:Bool):Sv (H.set (.self,ν.self) (.inst .solver λb=>if b = .refuted then some (.bool f) else flds ν J b)) ν {J with refuted:=f}:=
 ⟨by rw [D2];congr 2;funext b;cases b <;> first | contradiction | rfl,(B2 (C6 rfl)).trans S.clauses,λi hi=>(B2 (C6 rfl)).trans (S.cls i hi),(B2 (C6 rfl)).trans S.watches,λs hs=>(B2 (C6 rfl)).trans (S.rows s hs),(B2 (C6 rfl)).trans S.values,(B2 (C6 rfl)).trans S.levels,(B2 (C6 rfl)).trans S.reasons,(B2 (C6 rfl)).trans S.phases,(B2 (C6 rfl)).trans S.activity,(B2 (C6 rfl)).trans S.trail,(B2 (C6 rfl)).trans S.limits,(B2 (C6 rfl)).trans S.learned,(B2 (C6 rfl)).trans S.found,K4 S.fresh S.self⟩
end
noncomputable def Sg.assign (J:Sg) (l r:Int):Sg:=
 {J with val:=upd J.val l.natAbs (if 0<l then 1 else -1),lev:=P6 J.lev l.natAbs J.lim.length,rea:=upd J.rea l.natAbs r,trail:=J.trail++[l]}
theorem Ee9 {n:Nat} {f:Nat->Nat} {k:Nat} {v:Nat}:(T4 n λi=>(f i:Int)).set k (.int v)=T4 n λi=>(P6 f k v i:Int):=by
 rw [T3]
 unfold T4
 refine List.map_congr_left λi _=>?_
 show V.int (if i=k then (v:Int) else f i)=V.int ((if i=k then v else f i:Nat):Int)
 split <;> rfl
theorem Eb4 {H:Hq} {ν:Nu} {J:Sg} (S:Sv H ν J) {b:Nat} (Z:Sz b J):Cf3 H (.self,ν.self)=some (.int J.lim.length):=by
 unfold Cf3
 rw [S.self]
 show lenO (H (.limits,ν.limits))=_
 rw [S.limits,i3 (by rw [G8];have:=Z.lim;have:=Z.le;exact o75 ‹_› this (by decide)),G8]
theorem P9 (xs:List Int) (v:Int):C8 xs++[V.int v]=C8 (xs++[v]):=by simp [C8]
theorem M7 (xs:List Nat) (v:Nat):E8 xs++[V.int (v:Int)]=E8 (xs++[v]):=by simp [E8]
theorem D6 {H:Hq} {ν:Nu} {J:Sg} (S:Sv H ν J) {l:Lq} (h:l .self=some (.ref (.self,ν.self))) (a:At):pE H l (.attr (.var .self) a)=flds ν J a:=(Bg9 (e:=.var .self) h).trans (by rw [S.self];rfl)
theorem r7 {H:Hq} {ν:Nu} {J:Sg} (S:Sv H ν J) {b:Nat} (Z:Sz b J) {l:Lq} (h:l .self=some (.ref (.self,ν.self))):pE H l (.meth (.var .self) .level .nil)=some (.int J.lim.length):=by
 refine (b1 _ h).trans ((b1 _ S.self).trans ?_)
 exact Eb4 S Z
theorem s7 {k:Nat} {H:Hq} {ν:Nu} {J:Sg} (S:Sv H ν J) {b:Nat} (Z:Sz b J) {l r:Int} (hn:l.natAbs<=J.n) {Q:Vl->Hq->Prop}
  (q:∀H',Sv H' ν (J.assign l r)->(∀t j,t ≠ .values->t ≠ .levels->t ≠ .reasons->t ≠ .trail->H' (t,j)=H (t,j))->Q .none H'):
  C9 (k+2) .assign [.ref (.self,ν.self),.int l,.int r] Q H:=by
 have hK:=C7 k
 have hn0:=Z.n
 refine D0 rfl ?_
 show C2 (C9 (k+1)) Ca7 _ _ _
 refine J2 hK (v:=.int l.natAbs) rfl ?_
 have e1:pE H ((Lc.args Fn.assign.params [V.ref (Tag.self,ν.self),V.int l,V.int r]).set .variable_ (V.int l.natAbs)) (.ite (.cmp .gt (.var .literal) (.int 0)) (.int 1) (.neg (.int 1)))=some (.int (if 0<l then 1 else -1)):=by
  show cond (decide (0<l)) (some (V.int 1)) (some (V.int (-1)))=_
  by_cases hl:0<l
  ·rw [decide_eq_true hl,if_pos hl];rfl
  ·rw [decide_eq_false hl,if_neg hl];rfl
 refine K5 hK e1 (D6 S rfl .values) (k:=l.natAbs) rfl S.values o73 (by rw [E5];exact o76 hn) (by rw [E5];exact o6 hn0 (by decide)) ?_
 rw [show ((l.natAbs:Int)).toNat=l.natAbs by exact o77,T3]
 have S1:=S.setValues (upd J.val l.natAbs (if 0<l then 1 else -1))
 refine K5 hK (v:=.int J.lim.length) ?_ (D6 S1 rfl .levels) (k:=l.natAbs) rfl S1.levels o73 (by rw [E5];show _<(J.n:Int)+1;exact o78 hn) (by rw [E5];show J.n+1<=_;exact o6 hn0 (by decide)) ?_
 ·exact r7 S1 (Z.of rfl rfl rfl rfl rfl rfl rfl) rfl
 rw [show ((l.natAbs:Int)).toNat=l.natAbs by exact o77,Ee9]
 have S2:=S1.setLevels (P6 J.lev l.natAbs J.lim.length)
 refine K5 hK (v:=.int r) rfl (D6 S2 rfl .reasons) (k:=l.natAbs) rfl S2.reasons o73 (by rw [E5];show _<(J.n:Int)+1;exact o78 hn) (by rw [E5];show J.n+1<=_;exact o6 hn0 (by decide)) ?_
 rw [show ((l.natAbs:Int)).toNat=l.natAbs by exact o77,T3]
 have S3:=S2.setReasons (upd J.rea l.natAbs r)
 refine I9 hK (D6 S3 rfl .trail) S3.trail (v:=.int l) rfl (by rw [C3];show J.trail.length<_;have:=Z.trail;have:=Z.le;exact o75 ‹_› this (by decide)) ?_
 rw [P9]
 have S4:=S3.setTrail (J.trail++[l])
 refine C0 (q _ S4 λt j h1 h2 h3 h4=>?_)
 rw [B2 (by intro e;cases e;exact h4 rfl),B2 (by intro e;cases e;exact h3 rfl),B2 (by intro e;cases e;exact h2 rfl),B2 (by intro e;cases e;exact h1 rfl)]
noncomputable def B8 (l:Int):Nat:=if l<0 then 1+2*l.natAbs else 2*l.natAbs
theorem Di0 (l:Int):Bg5 l=(B8 l:Int):=by unfold Bg5 B8;split <;> push_cast <;> (first | exact o79 ‹_› | exact o80 ‹_›)
noncomputable def Sg.value (J:Sg) (l:Int):Int:=if l<0 then -(J.val l.natAbs) else J.val l.natAbs
section
variable {H:Hq} {ν:Nu} {J:Sg} {l:Lq}
theorem Dh2 (S:Sv H ν J) {b:Nat} (Z:Sz b J) {x:Int} (hx:x.natAbs<=J.n):Cb9 H (.self,ν.self) x=some (.int (J.value x)):=by
 have hn:=Z.n
 unfold Cb9
 rw [S.self]
 show (if x<0 then (idxO (H (.values,ν.values)) (V.int (-x))).bind (onI λv=>some (V.int (-v))) else idxO (H (.values,ν.values)) (V.int x))=_
 unfold Sg.value
 by_cases hl:x<0
 ·rw [if_pos hl,if_pos hl,S.values]
  show (i5 (T4 J.n J.val) (-x)).bind (onI λv=>some (V.int (-v)))=_
  rw [Aa1 (o81 hl) (o82 hx) hn]
  show some (V.int _)=some (V.int _)
  rw [show (-x).toNat=x.natAbs by exact o83 hl]
 ·rw [if_neg hl,if_neg hl,S.values]
  show i5 (T4 J.n J.val) x=_
  rw [Aa1 (o84 hl) (o85 hx) hn,show x.toNat=x.natAbs by exact o86 hl]
theorem r6 (S:Sv H ν J) {b:Nat} (Z:Sz b J) (h:l .self=some (.ref (.self,ν.self))) {e:E} {x:Int} (he:pE H l e=some (.int x)) (hx:x.natAbs<=J.n):
  pE H l (.meth (.var .self) .value (.cons e .nil))=some (.int (J.value x)):=by
 refine (b1 _ h).trans ((b1 _ S.self).trans ((b1 _ (B9 he rfl)).trans ?_))
 exact Dh2 S Z hx
theorem Ch6 {e:E} {x:Int} (he:pE H l e=some (.int x)):pE H l (.call .slot (.cons e .nil))=some (.int (B8 x:Nat)):=by
 refine (b1 _ (B9 he rfl)).trans ?_
 show some (V.int (Bg5 x))=_
 rw [Di0]
theorem J4 {e i:E} {n:G9} {xs:List Vl} {k:Int} (he:pE H l e=some (.ref n)) (hi:pE H l i=some (.int k)) (hn:H n=some (.list xs)):pE H l (.sub e i)=i5 xs k:=by
 refine (Bd0 he hi).trans ?_
 show idxO (H n) (.int k)=_
 rw [hn];rfl
theorem T7 {x:Int} (hx:x.natAbs<=J.n):B8 x<2*J.n+2:=by unfold B8;split <;> (first | exact o87 hx | exact o88 hx)
theorem Bd1 (S:Sv H ν J) {b:Nat} (Z:Sz b J) (h:l .self=some (.ref (.self,ν.self))) {e:E} {x:Int} (he:pE H l e=some (.int x)) (hx:x.natAbs<=J.n):
  pE H l (.sub (.attr (.var .self) .watches) (.call .slot (.cons e .nil)))=some (.ref (.row (B8 x),ν.row (B8 x))):=by
 rw [J4 (D6 S h .watches) (Ch6 he) S.watches]
 exact Ba7 (T7 hx) (by have:=Z.n;exact o89 this)
theorem Ab2 (S:Sv H ν J) {b:Nat} (Z:Sz b J) (h:l .self=some (.ref (.self,ν.self))) {e:E} {i:Nat} (he:pE H l e=some (.int i)) (hi:i<J.m):
  pE H l (.sub (.attr (.var .self) .clauses) e)=some (.ref (.cls i,ν.cl i)):=by
 rw [J4 (D6 S h .clauses) he S.clauses]
 exact Ba7 hi (by have:=Z.m;have:=Z.le;exact o75 ‹_› this (by decide))
theorem U2 {b:Nat} (Z:Sz b J) {e i:E} {n:G9} {f:Nat->Int} {k:Int} (he:pE H l e=some (.ref n)) (hi:pE H l i=some (.int k)) (hn:H n=some (.list (T4 J.n f))) (h0:0<=k) (h1:k<=J.n):pE H l (.sub e i)=some (.int (f k.toNat)):=by
 rw [J4 he hi hn]
 exact Aa1 h0 h1 Z.n
noncomputable def G4 (rows:Nat->List Nat) (s i:Nat):Nat->List Nat:=λt=>if t=s then rows t++[i] else rows t
noncomputable def setRow (rows:Nat->List Nat) (s:Nat) (r:List Nat):Nat->List Nat:=λt=>if t=s then r else rows t
noncomputable def D4 (cls:Nat->List Int) (i:Nat) (c:List Int):Nat->List Int:=λj=>if j=i then c else cls j
theorem Sv.setRow (S:Sv H ν J) {s:Nat} (hs:s<2*J.n+2) (r:List Nat):Sv (H.set (.row s,ν.row s) (.list (E8 r))) ν {J with rows:=Mine.Internal.setRow J.rows s r}:=by
 refine ⟨(B2 (C6 rfl)).trans S.self,(B2 (C6 rfl)).trans S.clauses,λi hi=>(B2 (C6 rfl)).trans (S.cls i hi),(B2 (C6 rfl)).trans S.watches,λt ht=>?_,
  (B2 (C6 rfl)).trans S.values,(B2 (C6 rfl)).trans S.levels,(B2 (C6 rfl)).trans S.reasons,(B2 (C6 rfl)).trans S.phases,(B2 (C6 rfl)).trans S.activity,
  (B2 (C6 rfl)).trans S.trail,(B2 (C6 rfl)).trans S.limits,(B2 (C6 rfl)).trans S.learned,(B2 (C6 rfl)).trans S.found,K4 S.fresh (S.rows s hs)⟩
 by_cases h:t=s
 ·subst h
  show _=some (O.list (E8 (if t=t then r else J.rows t)))
  rw [if_pos rfl];exact D2
 ·show _=some (O.list (E8 (if t=s then r else J.rows t)))
  rw [if_neg h]
  exact (B2 (by intro e;cases e;exact h rfl)).trans (S.rows t ht)
theorem Sv.setCls (S:Sv H ν J) {i:Nat} (hi:i<J.m) (c:List Int):Sv (H.set (.cls i,ν.cl i) (.list (C8 c))) ν (J.wC (D4 J.cls i c)):=by
 refine ⟨(B2 (C6 rfl)).trans S.self,(B2 (C6 rfl)).trans S.clauses,λj hj=>?_,(B2 (C6 rfl)).trans S.watches,λt ht=>(B2 (C6 rfl)).trans (S.rows t ht),
  (B2 (C6 rfl)).trans S.values,(B2 (C6 rfl)).trans S.levels,(B2 (C6 rfl)).trans S.reasons,(B2 (C6 rfl)).trans S.phases,(B2 (C6 rfl)).trans S.activity,
  (B2 (C6 rfl)).trans S.trail,(B2 (C6 rfl)).trans S.limits,(B2 (C6 rfl)).trans S.learned,(B2 (C6 rfl)).trans S.found,K4 S.fresh (S.cls i hi)⟩
 by_cases h:j=i
 ·subst h
  show _=some (O.list (C8 (if j=j then c else J.cls j)))
  rw [if_pos rfl];exact D2
 ·show _=some (O.list (C8 (if j=i then c else J.cls j)))
  rw [if_neg h]
  exact (B2 (by intro e;cases e;exact h rfl)).trans (S.cls j hj)
theorem Sv.addCls (S:Sv H ν J) {j:Nat} {c:List Int} (hc:H (.cls J.m,j)=some (.list (C8 c))):
  Sv (H.set (.clauses,ν.clauses) (.list (((List.range J.m).map λi=>(V.ref (Tag.cls i,ν.cl i):Vl))++[V.ref (Tag.cls J.m,j)]))) {ν with cl:=P6 ν.cl J.m j} {J with m:=J.m+1,cls:=D4 J.cls J.m c}:=by
 refine ⟨(B2 (C6 rfl)).trans S.self,?_,λi hi=>?_,(B2 (C6 rfl)).trans S.watches,λt ht=>(B2 (C6 rfl)).trans (S.rows t ht),
  (B2 (C6 rfl)).trans S.values,(B2 (C6 rfl)).trans S.levels,(B2 (C6 rfl)).trans S.reasons,(B2 (C6 rfl)).trans S.phases,(B2 (C6 rfl)).trans S.activity,
  (B2 (C6 rfl)).trans S.trail,(B2 (C6 rfl)).trans S.limits,(B2 (C6 rfl)).trans S.learned,(B2 (C6 rfl)).trans S.found,K4 S.fresh S.clauses⟩
 ·show _=some (O.list ((List.range (J.m+1)).map λi=>(V.ref (Tag.cls i,P6 ν.cl J.m j i):Vl)))
  rw [D2,List.range_succ,List.map_append]
  congr 2
  congr 1
  ·refine List.map_congr_left λi hi=>?_
   have:i≠J.m:=by have:=List.mem_range.mp hi;exact o90 this
   unfold P6;rw [if_neg this]
  ·simp [P6]
 ·have hi':i<J.m+1:=hi
  show H.set _ _ (Tag.cls i,P6 ν.cl J.m j i)=some (O.list (C8 (if i=J.m then c else J.cls i)))
  rw [B2 (C6 rfl)]
  unfold P6
  by_cases h:i=J.m
  ·rw [if_pos h,if_pos h,h];exact hc
  ·rw [if_neg h,if_neg h];exact S.cls i (o91 hi' h)
end
noncomputable def Sg.attach (J:Sg) (c:List Int) (c0 c1:Int):Sg:=
 {J with m:=J.m+1,cls:=D4 J.cls J.m c,rows:=G4 (G4 J.rows (B8 c0) J.m) (B8 c1) J.m}
theorem Ac6 {b:Nat} {rows:Nat->List Nat} (h:∀s,(rows s).length<b) (t i:Nat):∀s,(G4 rows t i s).length<b+1:=by
 intro s
 unfold G4
 have:=h s
 split
 ·rw [List.length_append];simp;exact o8 this
 ·exact o92 this
theorem Sz.addCls {b:Nat} {J:Sg} (Z:Sz b J) (hb:b+2<=900000) {c:List Int} (hl:c.length<1000):Sz (b+2) {J with m:=J.m+1,cls:=D4 J.cls J.m c}:=by
 refine ⟨hb,Z.n,?_,λi hi=>?_,λs=>?_,?_,?_,?_⟩
 ·have:=Z.m;show J.m+1<_;exact o93 this
 ·show (D4 J.cls J.m c i).length<1000
  have hi':i<J.m+1:=hi
  unfold D4
  split
  ·exact hl
  ·exact Z.cls i (o91 hi' ‹_›)
 ·have:=Z.rows s;show (J.rows s).length<_;exact o94 this
 ·have:=Z.trail;show J.trail.length<_;exact o94 this
 ·have:=Z.lim;show J.lim.length<_;exact o94 this
 ·have:=Z.lrn;show J.lrn.length<_;exact o94 this
theorem Sz.attach {b:Nat} {J:Sg} (Z:Sz b J) (hb:b+2<=900000) {c:List Int} (hl:c.length<1000) (c0 c1:Int):Sz (b+2) (J.attach c c0 c1):=by
 have Z1:=Z.addCls hb hl
 exact ⟨hb,Z1.n,Z1.m,Z1.cls,λs=>Ac6 (b:=b+1) (Ac6 Z.rows _ _) _ _ s,Z1.trail,Z1.lim,Z1.lrn⟩
theorem Bi1 {k:Nat} {H:Hq} {ν:Nu} {J:Sg} (S:Sv H ν J) {b:Nat} (Z:Sz b J) (hb:b+2<=900000) {j:Nat} {c:List Int} {c0 c1:Int} (hc:H (.cls J.m,j)=some (.list (C8 c))) (h0:c[0]? = some c0) (h1:c[1]? = some c1)
  (hl:c.length<1000) (n0:c0.natAbs<=J.n) (n1:c1.natAbs<=J.n) {Q:Vl->Hq->Prop}
  (q:∀H',Sv H' {ν with cl:=P6 ν.cl J.m j} (J.attach c c0 c1)->(∀t j,t ≠ .clauses->(∀s,t ≠ .row s)->H' (t,j)=H (t,j))->Q (.int J.m) H'):
  C9 (k+2) .attach [.ref (.self,ν.self),.ref (.cls J.m,j)] Q H:=by
 have hK:=C7 k
 have hn:=Z.n
 have hm:=Z.m
 have hle:=Z.le
 refine D0 rfl ?_
 show C2 (C9 (k+1)) Ca5 _ _ _
 refine J2 hK (v:=.int J.m) ?_ ?_
 ·refine (Ad7 (D6 S rfl .clauses)).trans ?_
  show lenO (H (.clauses,ν.clauses))=_
  rw [S.clauses,i3 (by simp;exact o95 hb hm (by decide))];simp
 refine I9 hK (D6 S rfl .clauses) S.clauses (v:=.ref (.cls J.m,j)) rfl (by simp;exact o95 hb hm (by decide)) ?_
 have S1:=S.addCls hc
 have Z1:=Z.addCls hb hl
 have g0:∀{H':Hq} (hh:H' (.cls J.m,j)=some (.list (C8 c))) (l:Lq),l .literals=some (.ref (.cls J.m,j))->pE H' l (.sub (.var .literals) (.int 0))=some (.int c0)/\pE H' l (.sub (.var .literals) (.int 1))=some (.int c1):=by
  intro H' hh l hl'
  rw [J4 (e:=.var .literals) (i:=.int 0) (n:=(.cls J.m,j)) hl' rfl hh,J4 (e:=.var .literals) (i:=.int 1) (n:=(.cls J.m,j)) hl' rfl hh]
  exact ⟨J7 (k:=0) h0 (o96 hl (by decide)),J7 (k:=1) h1 (o96 hl (by decide))⟩
 have hc1:=(B2 (o:=.list (((List.range J.m).map λi=>(V.ref (Tag.cls i,ν.cl i):Vl))++[V.ref (Tag.cls J.m,j)])) (n:=(Tag.clauses,ν.clauses)) (C6 rfl)).trans hc
 refine I9 hK (Bd1 S1 Z1 rfl (g0 hc1 _ rfl).1 n0) (S1.rows _ (T7 (J:=J) n0)) (v:=.int J.m) rfl (by rw [G8];have:=Z.rows (B8 c0);show (J.rows _).length<_;exact o95 hb this (by decide)) ?_
 rw [M7]
 have S2:=S1.setRow (T7 (J:=J) n0) (J.rows (B8 c0)++[J.m])
 have hc2:=(B2 (o:=.list (E8 (J.rows (B8 c0)++[J.m]))) (n:=(Tag.row (B8 c0),ν.row (B8 c0))) (C6 rfl)).trans hc1
 have hlen2:∀s,(setRow J.rows (B8 c0) (J.rows (B8 c0)++[J.m]) s).length<b+1:=by
  intro s
  unfold setRow
  have h1:=Z.rows s
  have h2:=Z.rows (B8 c0)
  split
  ·rw [List.length_append];simp;exact o8 h2
  ·exact o92 h1
 have Z2:Sz (b+2) {J with m:=J.m+1,cls:=D4 J.cls J.m c,rows:=setRow J.rows (B8 c0) (J.rows (B8 c0)++[J.m])}:=⟨hb,Z1.n,Z1.m,Z1.cls,λs=>by have:=hlen2 s;show (setRow _ _ _ s).length<_;exact o97 this,Z1.trail,Z1.lim,Z1.lrn⟩
 refine I9 hK (Bd1 S2 Z2 rfl (g0 hc2 _ rfl).2 n1) (S2.rows _ (T7 (J:=J) n1)) (v:=.int J.m) rfl (by rw [G8];exact Nat.lt_of_lt_of_le (hlen2 (B8 c1)) (o98 hb (by decide))) ?_
 rw [M7]
 have S3:=S2.setRow (T7 (J:=J) n1) (setRow J.rows (B8 c0) (J.rows (B8 c0)++[J.m]) (B8 c1)++[J.m])
 have er:setRow (setRow J.rows (B8 c0) (J.rows (B8 c0)++[J.m])) (B8 c1) (setRow J.rows (B8 c0) (J.rows (B8 c0)++[J.m]) (B8 c1)++[J.m])=G4 (G4 J.rows (B8 c0) J.m) (B8 c1) J.m:=by
  funext t
  unfold setRow G4
  by_cases h1:t=B8 c1
  ·rw [if_pos h1,if_pos h1,h1]
   by_cases h2:B8 c1=B8 c0
   ·rw [if_pos h2,if_pos h2,h2]
   ·rw [if_neg h2,if_neg h2]
  ·rw [if_neg h1,if_neg h1]
   by_cases h2:t=B8 c0
   ·rw [if_pos h2,if_pos h2,h2]
   ·rw [if_neg h2,if_neg h2]
 refine M3 hK (v:=.int J.m) rfl (q _ ?_ λt j h1 h2=>?_)
 ·have S4:=S3
  simp only [er] at S4
  exact S4
 ·rw [B2 (by intro e;cases e;exact h2 _ rfl),B2 (by intro e;cases e;exact h2 _ rfl),B2 (by intro e;cases e;exact h1 rfl)]
def Frm (T:Tag->Bool) (H H':Hq):Prop:=∀t j,T t=false->H' (t,j)=H (t,j)
theorem Frm.refl {T:Tag->Bool} {H:Hq}:Frm T H H:=λ_ _ _=>rfl
theorem Frm.trans {T:Tag->Bool} {H H1 H2:Hq} (a:Frm T H H1) (b:Frm T H1 H2):Frm T H H2:=λt j h=>(b t j h).trans (a t j h)
theorem Frm.mono {T T':Tag->Bool} {H H':Hq} (a:Frm T H H') (h:∀t,T' t=false->T t=false):Frm T' H H':=λt j ht=>a t j (h t ht)
theorem Frm.set {T:Tag->Bool} {H:Hq} {t:Tag} {j:Nat} {o:Ob} (h:T t=true):Frm T H (H.set (t,j) o):=λt' j' h'=>B2 (by intro e;cases e;rw [h] at h';cases h')
noncomputable def tAsg:Tag->Bool | .values | .levels | .reasons | .trail=>true | _=>false
noncomputable def Q3:Tag->Bool
 | .self | .clauses | .watches | .values | .levels | .reasons | .phases | .activity | .trail | .limits | .learned | .found | .row _ | .cls _=>true
 | _=>false
section rules
variable {K:Calls G9} {H:Hq} {l:Lq} {ss:Ss} {Q:Fl G9->Lq->Hq->Prop}
theorem c_while {c:C} {b:Ss} (I:Nat->Lq->Hq->Prop) (n0:Nat) (h0:I n0 l H)
 (hI:∀n l1 H1,I n l1 H1->wpC K c l1 (λt H2=>if t then C2 K b (d9 (λl3 H3=>∃m,m<n/\I m l3 H3) (M0 K ss Q)) l1 H2 else C2 K ss Q l1 H2) H1):C2 K (.cons (.while c b) ss) Q l H:=⟨I,⟨n0,h0⟩,hI⟩
theorem U' {c:C} {b:Ss} (hK:D5 K) (I:Nat->Lq->Hq->Prop) (n0:Nat) (h0:I n0 l H)
  (hI:∀n l1 H1,I n l1 H1->∃r,pC H1 l1 c=some r/\if r then C2 K b (d9 (λl3 H3=>∃m,m<n/\I m l3 H3) (M0 K ss Q)) l1 H1 else C2 K ss Q l1 H1):C2 K (.cons (.while c b) ss) Q l H:=
 c_while I n0 h0 λn l1 H1 h=>let ⟨r,e,q⟩:=hI n l1 H1 h;r8 (c:=c) hK e q
theorem V8 {t:Tg} {e:E} {b:Ss} {n:G9} {xs:List Vl} (hK:D5 K) (he:pE H l e=some (.ref n)) (hn:H n=some (.list xs)) (I:Nat->Lq->Hq->Prop) (h0:I 0 l H)
  (hI:∀i l2 H2,I i l2 H2->H2 n=some (.list xs)/\(xs[i]? = none->C2 K ss Q l2 H2) /\
   ∀v,xs[i]? = some v->∃l3,m7 t v l2=some l3/\C2 K b (d9 (λl4 H4=>I (i+1) l4 H4) (M0 K ss Q)) l3 H2):C2 K (.cons (.for_ t (.seq e) b) ss) Q l H:=by
 refine D3 (e:=e) hK he (.inl ⟨xs,hn,I,h0,λi l2 H2 h=>⟨(hI i l2 H2 h).1,?_⟩⟩)
 have h2:=(hI i l2 H2 h).2
 cases hx:xs[i]? with
 | none=>exact h2.1 hx
 | some v=>exact h2.2 v hx
theorem P5 {t:Tg} {args:Es} {b:Ss} {vs:List Vl} {x y z:Int} (hK:D5 K) (he:c9 H l args=some vs) (hr:Ad5 vs=some (x,y,z)) (hb: -1000000<x/\x<1000000 /\ -1000000<y/\y<1000000/\(z=1\/z = -1)) (I:Nat->Lq->Hq->Prop) (h0:I 0 l H)
  (hI:∀i l2 H2,I i l2 H2->((Mine.Internal.rangeInts x y z)[i]? = none->C2 K ss Q l2 H2) /\
   ∀v,(Mine.Internal.rangeInts x y z)[i]? = some v->∃l3,m7 t (.int v) l2=some l3/\C2 K b (d9 (λl4 H4=>I (i+1) l4 H4) (M0 K ss Q)) l3 H2):C2 K (.cons (.for_ t (.range args) b) ss) Q l H:=by
 refine J' (es:=args) hK he ⟨x,y,z,hr,hb,I,h0,λi l2 H2 h=>⟨trivial,?_⟩⟩
 have h2:=hI i l2 H2 h
 cases hx:(Mine.Internal.rangeInts x y z)[i]? with
 | none=>rw [List.getElem?_map,hx];exact h2.1 hx
 | some v=>rw [List.getElem?_map,hx];exact h2.2 v hx
theorem Bj4 {x:Vr} {o:E} {n:G9} {xs:List Vl} {v:Int} (hK:D5 K) (ho:pE H l o=some (.ref n)) (hn:H n=some (.list (xs++[.int v]))) (hl:xs.length<1000000)
  (q:C2 K ss Q (l.set x (.int v.natAbs)) (H.set n (.list xs))):C2 K (.cons (.set x (.bi .abs (.bm .pop o .nil))) ss) Q l H:=
 D3 (e:=o) hK ho ⟨⟨_,hn⟩,xs,.int v,hn,hl,q⟩
theorem Ai1 {o e hi:E} {a:At} {n n':G9} {xs:List Vl} {k:Int} {kd:Kl} {f:At->Option Vl} (hK:D5 K) (he:pE H l e=some (.ref n)) (hh:pE H l hi=some (.int k)) (hn:H n=some (.list xs)) (h0:0<=k) (hl:xs.length<1000000)
  (m:G9) (hm:H m=none) (ho:pE (H.set m (.list (xs.take k.toNat))) l o=some (.ref n')) (hn':(H.set m (.list (xs.take k.toNat))) n'=some (.inst kd f)) (ha:a.kl=kd)
  (q:C2 K ss Q l ((H.set m (.list (xs.take k.toNat))).set n' (.inst kd λb=>if b=a then some (.ref m) else f b))):C2 K (.cons (.setAttr o a (.slice e hi)) ss) Q l H:=
 D3 (e:=e) hK he (D3 (e:=hi) hK hh ⟨n,xs,k,rfl,rfl,.inl hn,h0,hl,m,hm,D3 (e:=o) hK ho ⟨n',kd,f,rfl,hn',ha,q⟩⟩)
end rules
theorem G7 {a b:Int} {i:Nat}:(Mine.Internal.rangeInts a b 1)[i]? = if a+i<b then some (a+i) else none:=by
 rw [Mine.Internal.rangeInts_get,rangeSize_one]
 by_cases h:a<b
 ·rw [if_pos h]
  by_cases h2:a+i<b
  ·rw [if_pos h2,if_pos (o99 h2)];simp
  ·rw [if_neg h2,if_neg (o100 h2)]
 ·rw [if_neg h,if_neg (by simp),if_neg (o101 h)]
noncomputable def Sg.refute (J:Sg):Sg:={J with refuted:=true,lrn:=J.lrn++[V.tup []]}
section
variable {k:Nat} {H:Hq} {ν:Nu} {J:Sg} {b:Nat}
theorem Frm.asg {H H':Hq} (h:∀t j,t ≠ .values->t ≠ .levels->t ≠ .reasons->t ≠ .trail->H' (t,j)=H (t,j)):Frm tAsg H H':=
 λt j ht=>h t j (by rintro rfl;cases ht) (by rintro rfl;cases ht) (by rintro rfl;cases ht) (by rintro rfl;cases ht)
theorem Bh9 (S:Sv H ν J) (Z:Sz b J) {Q:Vl->Hq->Prop} (q:∀H',Sv H' ν J.refute->Frm Q3 H H'->Q .none H'):C9 (k+2) .refute [.ref (.self,ν.self)] Q H:=by
 have hK:=C7 k
 have h1:=Z.lrn;have h2:=Z.le
 refine D0 rfl ?_
 show C2 (C9 (k+1)) Ca0 _ _ _
 refine V7 hK (v:=.bool true) rfl (n:=(.self,ν.self)) rfl S.self rfl ?_
 have S1:=S.setRefuted true
 refine I9 hK (D6 S1 rfl .learned) S1.learned (v:=.tup []) rfl (by show J.lrn.length<_;exact o75 h1 h2 (by decide)) ?_
 exact C0 (q _ (S1.setLearned _) ((Frm.set rfl).trans (Frm.set rfl)))
noncomputable def Sg.decide (J:Sg) (l:Int):Sg:=({J with lim:=J.lim++[J.trail.length]}:Sg).assign l (-1)
theorem d0 (S:Sv H ν J) (Z:Sz b J) {l:Lq} (h:l .self=some (.ref (.self,ν.self))):pE H l (.bi .len (.attr (.var .self) .trail))=some (.int J.trail.length):=by
 refine (Ad7 (D6 S h .trail)).trans ?_
 show lenO (H (.trail,ν.trail))=_
 rw [S.trail,i3 (by rw [C3];have:=Z.trail;have:=Z.le;exact o75 ‹_› this (by decide)),C3]
theorem Sz.push (Z:Sz b J) (hb:b+1<=900000):Sz (b+1) {J with lim:=J.lim++[J.trail.length]}:=
 ⟨hb,Z.n,Nat.lt_succ_of_lt Z.m,Z.cls,λs=>Nat.lt_succ_of_lt (Z.rows s),Nat.lt_succ_of_lt Z.trail,by have:=Z.lim;show (J.lim++[_]).length<_;rw [List.length_append];simp;exact o8 this,Nat.lt_succ_of_lt Z.lrn⟩
theorem Ec0 (S:Sv H ν J) (Z:Sz b J) (hb:b+1<=900000) {l:Int} (hn:l.natAbs<=J.n) {Q:Vl->Hq->Prop} (q:∀H',Sv H' ν (J.decide l)->Frm Q3 H H'->Q .none H'):C9 (k+3) .decide [.ref (.self,ν.self),.int l] Q H:=by
 have hK:=C7 (k+1)
 have h1:=Z.lim;have h2:=Z.le
 refine D0 rfl ?_
 show C2 (C9 (k+2)) Ca3 _ _ _
 refine I9 hK (D6 S rfl .limits) S.limits (v:=.int J.trail.length) (d0 S Z rfl) (by rw [G8];exact o102 hb h1 (by decide)) ?_
 rw [M7]
 have S1:=S.setLimits (J.lim++[J.trail.length])
 have Z1:=Z.push hb
 refine Q5 hK (n:=(.self,ν.self)) rfl S1.self rfl rfl ?_
 exact s7 S1 Z1 hn λH' S' f'=>⟨trivial,C0 (q _ S' ((Frm.set rfl).trans ((Frm.asg f').mono λt ht=>by cases t <;> first | rfl | cases ht)))⟩
end
noncomputable def vars (xs:List Int):List Nat:=xs.map Int.natAbs
noncomputable def Sg.cut (J:Sg) (p:Nat):Sg:=
 {J with trail:=J.trail.take p,val:=λv=>if v∈vars (J.trail.drop p) then 0 else J.val v,pha:=λv=>if v∈vars (J.trail.drop p) then J.val v else J.pha v}
noncomputable def Sg.cancel (J:Sg) (L:Nat):Sg:=match J.lim[L]? with
 | some q=>{J.cut q with lim:=J.lim.take L,head:=q}
 | none=>J
noncomputable def tCan:Tag->Bool | .trail | .values | .phases | .limits | .self=>true | _=>false
section
variable {k:Nat} {H:Hq} {ν:Nu} {J:Sg} {b:Nat}
theorem Sv.newLimits (S:Sv H ν J) (q:List Nat):
  Sv ((H.set (.limits,ν.tk) (.list (E8 q))).set (.self,ν.self) (.inst .solver λb=>if b = .limits then some (.ref (.limits,ν.tk)) else flds ν J b)) {ν with limits:=ν.tk,tk:=ν.tk+1} {J with lim:=q}:=by
 have two:∀{m:G9} {o:Ob},m≠(.self,ν.self)->m≠(.limits,ν.tk)->H m=some o->((H.set (.limits,ν.tk) (.list (E8 q))).set (.self,ν.self) (.inst .solver λb=>if b = .limits then some (.ref (.limits,ν.tk)) else flds ν J b)) m=some o:=
  λh1 h2 h=>(B2 h1).trans ((B2 h2).trans h)
 refine ⟨by rw [D2];congr 2;funext b;cases b <;> first | contradiction | rfl,two (C6 rfl) (C6 rfl) S.clauses,λi hi=>two (C6 rfl) (C6 rfl) (S.cls i hi),two (C6 rfl) (C6 rfl) S.watches,
  λs hs=>two (C6 rfl) (C6 rfl) (S.rows s hs),two (C6 rfl) (C6 rfl) S.values,two (C6 rfl) (C6 rfl) S.levels,two (C6 rfl) (C6 rfl) S.reasons,
  two (C6 rfl) (C6 rfl) S.phases,two (C6 rfl) (C6 rfl) S.activity,two (C6 rfl) (C6 rfl) S.trail,(B2 (C6 rfl)).trans D2,
  two (C6 rfl) (C6 rfl) S.learned,two (C6 rfl) (C6 rfl) S.found,λt j hj=>?_⟩
 have hj':ν.tk+1<=j:=hj
 have h1:=S.fresh t j (o9 hj')
 rw [B2,B2]
 ·exact h1
 ·intro e;cases e;exact o103 hj'
 ·intro e;cases e
  rw [S.self] at h1;cases h1
theorem R9 {xs:List Int} {p:Nat} {x:Int} (h:xs[p]? = some x):xs.take (p+1)=xs.take p++[x]:=by
 rw [List.take_add_one,h];rfl
theorem l8 {xs:List Int} {p:Nat} {x:Int} (h:xs[p]? = some x):xs.drop p=x::xs.drop (p+1):=by
 obtain ⟨hp,e⟩:=List.getElem?_eq_some_iff.mp h
 rw [List.drop_eq_getElem_cons hp,e]
theorem Ce2 {xs:List Int} {p:Nat} {x:Int} (hn:(vars xs).Nodup) (h:xs[p]? = some x):x.natAbs∉vars (xs.drop (p+1)):=by
 have h1:(vars (xs.drop p)).Nodup:=by
  unfold vars at hn ⊢
  rw [List.map_drop];exact hn.sublist (List.drop_sublist _ _)
 rw [l8 h] at h1
 unfold vars at h1 ⊢
 rw [List.map_cons,List.nodup_cons] at h1
 exact h1.1
theorem cut_len {p:Nat} (h:p<=J.trail.length):(J.cut p).trail.length=p:=by
 show (J.trail.take p).length=p
 rw [List.length_take];exact o104 h
theorem Sz.cut (Z:Sz b J) (p:Nat):Sz b (J.cut p):=
 ⟨Z.le,Z.n,Z.m,Z.cls,Z.rows,by have:=Z.trail;show (J.trail.take p).length<b;rw [List.length_take];exact o105 this,Z.lim,Z.lrn⟩
theorem Ed6 {p:Nat} {x:Int} (hn:(vars J.trail).Nodup) (h:J.trail[p]? = some x):
  (upd (J.cut (p+1)).pha x.natAbs ((J.cut (p+1)).val x.natAbs))=(J.cut p).pha/\upd (J.cut (p+1)).val x.natAbs 0=(J.cut p).val:=by
 have h1:=Ce2 hn h
 have h2:=l8 h
 have hv:∀v,v∈vars (J.trail.drop p)↔v=x.natAbs\/v∈vars (J.trail.drop (p+1)):=by
  intro v;rw [h2];unfold vars;rw [List.map_cons,List.mem_cons]
 constructor
 ·funext v
  show (if v=x.natAbs then (if x.natAbs∈vars (J.trail.drop (p+1)) then 0 else J.val x.natAbs) else (if v∈vars (J.trail.drop (p+1)) then J.val v else J.pha v))=if v∈vars (J.trail.drop p) then J.val v else J.pha v
  rw [if_neg h1]
  by_cases hx:v=x.natAbs
  ·rw [if_pos hx,if_pos ((hv v).mpr (.inl hx)),hx]
  ·rw [if_neg hx]
   by_cases hd:v∈vars (J.trail.drop (p+1))
   ·rw [if_pos hd,if_pos ((hv v).mpr (.inr hd))]
   ·rw [if_neg hd,if_neg λz=>((hv v).mp z).elim hx hd]
 ·funext v
  show (if v=x.natAbs then 0 else (if v∈vars (J.trail.drop (p+1)) then 0 else J.val v))=if v∈vars (J.trail.drop p) then 0 else J.val v
  by_cases hx:v=x.natAbs
  ·rw [if_pos hx,if_pos ((hv v).mpr (.inl hx))]
  ·rw [if_neg hx]
   by_cases hd:v∈vars (J.trail.drop (p+1))
   ·rw [if_pos hd,if_pos ((hv v).mpr (.inr hd))]
   ·rw [if_neg hd,if_neg λz=>((hv v).mp z).elim hx hd]
theorem cut_all:J.cut J.trail.length=J:=by
 unfold Sg.cut
 rw [List.take_length,List.drop_length]
 simp [vars]
theorem Ah4 (S:Sv H ν J) (Z:Sz b J) (hnd:(vars J.trail).Nodup) (hlit:∀l∈J.trail,l.natAbs<=J.n) {L:Nat} (hL:∀q,J.lim[L]? = some q->q<=J.trail.length) {Q:Vl->Hq->Prop}
  (q:∀H' ν',Sv H' ν' (J.cancel L)->Frm tCan H H'->ν'.self=ν.self->ν'.cl=ν.cl->ν.tk<=ν'.tk->Q .none H'):C9 (k+2) .cancel [.ref (.self,ν.self),.int L] Q H:=by
 have hK:=C7 k
 have hn:=Z.n;have hle:=Z.le;have hlim:=Z.lim;have htr:=Z.trail
 refine D0 rfl ?_
 show C2 (C9 (k+1)) Ca4 _ _ _
 have hc:pC H (Lc.args Fn.cancel.params [V.ref (Tag.self,ν.self),V.int (L:Int)]) (.cmp .ge (.var .level) (.meth (.var .self) .level .nil))=some (decide ((J.lim.length:Int)<=L)):=by
  exact E0 (x:=(L:Int)) rfl (r7 S Z rfl)
 by_cases hlt:L<J.lim.length
 ·have hq:J.lim[L]? = some J.lim[L]:=List.getElem?_eq_getElem hlt
  generalize hqq:J.lim[L]=q0 at hq
  have hq0:=hL q0 hq
  refine E9 hK (by rw [hc];simp;exact o8 hlt) ?_
  refine C0 (B6 ?_)
  refine J2 hK (v:=.int q0) ?_ ?_
  ·rw [J4 (D6 S rfl .limits) rfl S.limits]
   exact Ba8 hq (o75 hlim hle (by decide))
  refine U' hK (λm l1 H1=>q0+m<=J.trail.length/\l1 .self=some (.ref (.self,ν.self))/\l1 .length=some (.int q0)/\l1 .level=some (.int L)/\Sv H1 ν (J.cut (q0+m))/\Frm tCan H H1) (J.trail.length-q0) ?_ ?_
  ·refine ⟨o106 hq0,rfl,rfl,rfl,?_,Frm.refl⟩
   rw [show q0+(J.trail.length-q0)=J.trail.length by exact o107 hq0,cut_all];exact S
  ·intro m l1 H1 q_
   refine un6 q_ λhm e1 e2 e3 S1 f1=>?_
   clear q_
   have Z1:=Z.cut (q0+m)
   have ec:pC H1 l1 (.cmp .gt (.bi .len (.attr (.var .self) .trail)) (.var .length))=some (decide ((q0:Int)<(q0+m:Nat))):=by
    exact (E0 (b:=.var .length) (d0 S1 Z1 e1) e2).trans (by rw [cut_len hm];rfl)
   refine ⟨_,ec,?_⟩
   cases m with
   | zero=>
    rw [if_neg (by simp)]
    simp only [Nat.add_zero] at S1
    refine Ai1 hK (D6 S1 e1 .limits) (k:=L) e3 S1.limits o73 (by rw [G8];show J.lim.length<_;exact o75 hlim hle (by decide)) (.limits,ν.tk) (S1.fresh _ _ (Nat.le_refl _)) (n':=(.self,ν.self)) ?_ ((B2 (C6 rfl)).trans S1.self) rfl ?_
    ·exact e1
    have et:(E8 J.lim).take L=E8 (J.lim.take L):=by unfold E8;rw [List.map_take]
    have S2:=S1.newLimits (J.lim.take L)
    have eT:(E8 (J.cut q0).lim).take ((L:Int)).toNat=E8 (J.lim.take L):=et
    rw [eT]
    refine V7 hK (v:=.int q0) (n:=(.self,ν.self)) e2 e1 S2.self rfl ?_
    have S3:=S2.setHead q0
    have ecan:J.cancel L={J.cut q0 with lim:=J.lim.take L,head:=q0}:=by unfold Sg.cancel;rw [hq]
    refine C0 (q _ {ν with limits:=ν.tk,tk:=ν.tk+1} (by rw [ecan];exact S3) (f1.trans (((Frm.set rfl).trans (Frm.set rfl)).trans (Frm.set rfl))) rfl rfl (Nat.le_succ _))
   | succ m=>
    rw [if_pos (by simp;exact o108)]
    have hlt':q0+m<J.trail.length:=o109 hm
    have hx:J.trail[q0+m]? = some J.trail[q0+m]:=List.getElem?_eq_getElem hlt'
    generalize hxx:J.trail[q0+m]=x at hx
    have hxm:x∈J.trail:=List.mem_of_getElem? hx
    have hxn:=hlit x hxm
    have etr:(J.cut (q0+(m+1))).trail=J.trail.take (q0+m)++[x]:=R9 (p:=q0+m) hx
    have hT:H1 (.trail,ν.trail)=some (.list (C8 (J.trail.take (q0+m))++[.int x])):=by rw [S1.trail,etr,P9]
    refine Bj4 hK (D6 S1 e1 .trail) hT (by rw [C3,List.length_take];exact o110 htr hle (by decide)) ?_
    have S2:=S1.setTrail (J.trail.take (q0+m))
    have Z2:Sz b {J.cut (q0+(m+1)) with trail:=J.trail.take (q0+m)}:=⟨Z.le,Z.n,Z.m,Z.cls,Z.rows,by show (J.trail.take _).length<b;rw [List.length_take];exact o105 htr,Z.lim,Z.lrn⟩
    refine K5 hK (v:=.int ((J.cut (q0+(m+1))).val x.natAbs)) (k:=x.natAbs) ?_ (D6 S2 e1 .phases) rfl S2.phases o73 (by rw [E5];show _<(J.n:Int)+1;exact o78 hxn) (by rw [E5];show J.n+1<=_;exact o6 hn (by decide)) ?_
    ·rw [U2 (l:=l1.set .variable_ (V.int x.natAbs)) (i:=.var .variable_) Z2 (D6 S2 e1 .values) (k:=x.natAbs) rfl S2.values o73 (by show _<=(J.n:Int);exact o111 hxn)]
     rfl
    rw [show ((x.natAbs:Int)).toNat=x.natAbs by exact o77,T3]
    have S3:=S2.setPhases (upd (J.cut (q0+(m+1))).pha x.natAbs ((J.cut (q0+(m+1))).val x.natAbs))
    refine K5 hK (v:=.int 0) (k:=x.natAbs) rfl (D6 S3 e1 .values) rfl S3.values o73 (by rw [E5];show _<(J.n:Int)+1;exact o78 hxn) (by rw [E5];show J.n+1<=_;exact o6 hn (by decide)) ?_
    rw [show ((x.natAbs:Int)).toNat=x.natAbs by exact o77,T3]
    have S4:=S3.setValues (upd (J.cut (q0+(m+1))).val x.natAbs 0)
    refine B7 (Ed6 hnd hx) λc1 c2=>?_
    refine C0 ⟨m,Nat.lt_succ_self m,o112 hlt',e1,e2,e3,?_,f1.trans (((Frm.set rfl).trans (Frm.set rfl)).trans (Frm.set rfl))⟩
    have es:J.cut (q0+m)={J.cut (q0+m+1) with trail:=J.trail.take (q0+m),pha:=upd (J.cut (q0+m+1)).pha x.natAbs ((J.cut (q0+m+1)).val x.natAbs),val:=upd (J.cut (q0+m+1)).val x.natAbs 0}:=by
     rw [c1,c2];rfl
    rw [es];exact S4
 ·have hnone:J.lim[L]? = none:=List.getElem?_eq_none (o71 hlt)
  have ecan:J.cancel L=J:=by unfold Sg.cancel;rw [hnone]
  refine G6 hK (by rw [hc];simp;exact o71 hlt) ?_
  exact Ac1 (q H ν (by rw [ecan];exact S) Frm.refl rfl rfl (Nat.le_refl _))
theorem Sz.setCls (Z:Sz b J) {i:Nat} {c:List Int} (hc:c.length<1000):Sz b (J.wC (D4 J.cls i c)):=
 ⟨Z.le,Z.n,Z.m,λj hj=>by show (D4 J.cls i c j).length<1000;unfold D4;split <;> first | exact hc | exact Z.cls j hj,Z.rows,Z.trail,Z.lim,Z.lrn⟩
theorem c8 (f:Nat->List Int) (i:Nat) (c d:List Int):D4 (D4 f i c) i d=D4 f i d:=by
 funext j;unfold D4;split <;> rfl
theorem Af1 (f:Nat->List Int) (i:Nat):D4 f i (f i)=f:=by
 funext j;unfold D4;split
 ·rename_i h;rw [h]
 ·rfl
theorem Af2 (f:Nat->List Int) (i:Nat) (c:List Int):D4 f i c i=c:=by unfold D4;rw [if_pos rfl]
def Cb3 (ν:Nu) (i:Nat) (H H':Hq):Prop:=∀t j,t ≠ .cls i->(∀s,(t,j)≠(Tag.row s,ν.row s))->H' (t,j)=H (t,j)
theorem V4 (xs:List Int) (p:Nat) (v:Int):(C8 xs).set p (.int v)=C8 (xs.set p v):=by unfold C8;rw [List.map_set]
theorem k_still (S:Sv H ν J) (Z:Sz b J) {i:Nat} {fl x0 y0:Int} {r:List Int} (hi:i<J.m) (hc:J.cls i=x0::y0::r) (hlit:∀u∈J.cls i,u.natAbs<=J.n) (hfl:fl.natAbs<=J.n) {Q:Vl->Hq->Prop}
  {x y:Int} (hxy:(x,y)=if x0=fl then (y0,fl) else (x0,y0))
  (q1:∀H',Sv H' ν (J.wC (D4 J.cls i (x::y::r)))->Cb3 ν i H H'->(J.value x=1\/∀u∈r,J.value u<0)->Q (.bool true) H')
  (q2:∀H' p u,r[p]? = some u->0<=J.value u->J.value x≠1->Sv H' ν {J with cls:=D4 J.cls i (x::u::r.set p fl),rows:=G4 J.rows (B8 u) i}->Cb3 ν i H H'->Q (.bool false) H'):
  C9 (k+2) .still_watched [.ref (.self,ν.self),.int i,.int fl] Q H:=by
 have hK:=C7 k
 have hle:=Z.le;have hm:=Z.m;have hn:=Z.n
 have hlen:(x0::y0::r).length<1000:=hc▸Z.cls i hi
 have hlen':r.length+2<1000:=by simpa using hlen
 have hx0:x0.natAbs<=J.n:=hlit x0 (by rw [hc];simp)
 have hy0:y0.natAbs<=J.n:=hlit y0 (by rw [hc];simp)
 have hr:∀u∈r,u.natAbs<=J.n:=λu hu=>hlit u (by rw [hc];simp [hu])
 have hx:x.natAbs<=J.n:=by
  split at hxy
  ·cases hxy;exact hy0
  ·cases hxy;exact hx0
 refine D0 rfl ?_
 show C2 (C9 (k+1)) p1 _ _ _
 refine J2 hK (v:=.ref (.cls i,ν.cl i)) (Ab2 S Z rfl rfl hi) ?_
 have tail:∀H1 (l1:Lq),Sv H1 ν (J.wC (D4 J.cls i (x::y::r)))->Cb3 ν i H H1->l1 .self=some (.ref (.self,ν.self))->l1 .clause=some (.ref (.cls i,ν.cl i))->l1 .number=some (.int i)->l1 .false_=some (.int fl) ->
   C2 (C9 (k+1)) (.cons (.ite (.cmp .eq (.meth (.var .self) .value (.cons (.sub (.var .clause) (.int 0)) .nil)) (.int 1)) (.cons (.ret (.bool true)) .nil) .nil)
    (.cons (.for_ (.one .place) (.range (.cons (.int 2) (.cons (.bi .len (.var .clause)) .nil)))
     (.cons (.ite (.cmp .ge (.meth (.var .self) .value (.cons (.sub (.var .clause) (.var .place)) .nil)) (.int 0))
      (.cons (.setSub (.var .clause) (.int 1) (.sub (.var .clause) (.var .place)))
      (.cons (.setSub (.var .clause) (.var .place) (.var .false_))
      (.cons (.expr (.bm .append (.sub (.attr (.var .self) .watches) (.call .slot (.cons (.sub (.var .clause) (.int 1)) .nil))) (.cons (.var .number) .nil)))
      (.cons (.ret (.bool false)) .nil)))) .nil) .nil))
    (.cons (.ret (.bool true)) .nil))) (λfl _ H'=>Q fl.val H') l1 H1:=by
  intro H1 l1 S1 f1 e1 e2 e3 e4
  have Z1:Sz b (J.wC (D4 J.cls i (x::y::r))):=Z.setCls (by simpa using hlen')
  have hcl:∀{l:Lq},l .clause=some (.ref (.cls i,ν.cl i))->H1 (.cls i,ν.cl i)=some (.list (C8 (x::y::r))):=λ_=>by
   have:=S1.cls i hi
   rw [show ((J.wC (D4 J.cls i (x::y::r))):Sg).cls i=x::y::r from Af2 _ _ _] at this
   exact this
  have hH:=hcl e2
  have g0:pE H1 l1 (.sub (.var .clause) (.int 0))=some (.int x):=by
   rw [J4 (e:=.var .clause) (i:=.int 0) e2 rfl hH]
   exact J7 (k:=0) rfl (by simp;exact o113 hlen' (by decide))
  have v0:=r6 S1 Z1 e1 g0 hx
  have c0:pC H1 l1 (.cmp .eq (.meth (.var .self) .value (.cons (.sub (.var .clause) (.int 0)) .nil)) (.int 1))=some (J.value x==1):=by
   exact E0 v0 rfl
  by_cases hv:J.value x=1
  ·exact G6 hK (by rw [c0];simp [hv]) (M3 hK (v:=.bool true) rfl (q1 H1 S1 f1 (.inl hv)))
  refine E9 hK (by rw [c0];simp [hv]) (C0 (B6 ?_))
  have lenE:c9 H1 l1 (.cons (.int 2) (.cons (.bi .len (.var .clause)) .nil))=some [.int 2,.int (r.length+2:Nat)]:=by
   exact B9 rfl (B9 ((Ad7 (e:=.var .clause) e2).trans (by rw [hH,i3 (by rw [C3];simp;exact o113 hlen' (by decide)),C3];rfl)) rfl)
  refine P5 hK lenE rfl (o114 hlen' (by decide)) (λj l2 H2=>j<=r.length/\H2=H1/\l2 .self=some (.ref (.self,ν.self))/\l2 .clause=some (.ref (.cls i,ν.cl i))/\l2 .number=some (.int i)/\l2 .false_=some (.int fl)/\∀p u,p<j->r[p]? = some u->J.value u<0)
   ⟨Nat.zero_le _,rfl,e1,e2,e3,e4,λp u hp=>absurd hp (Nat.not_lt_zero _)⟩ ?_
  intro j l2 H2 q_
  refine byc λB5=>E6 q_ λhj C' B3=>?_
  clear q_
  subst C'
  refine un5 B3 λa1 a2 a3 a4 hall=>B5 ?_
  clear B3 B5
  constructor
  ·intro hend
   rw [G7] at hend
   have hjl:j=r.length:=by
    split at hend
    ·cases hend
    ·exact o115 hj ‹_›
   refine M3 hK (v:=.bool true) rfl (q1 H2 S1 f1 (.inr λu hu=>?_))
   obtain ⟨p,hp,e⟩:=List.mem_iff_getElem.mp hu
   exact hall p u (o44 hp hjl) (by rw [List.getElem?_eq_getElem hp,e])
  ·intro v hv2
   rw [G7] at hv2
   split at hv2
   ·rename_i hjlt
    cases hv2
    have hjr:j<r.length:=o116 hjlt
    have hu:r[j]? = some r[j]:=List.getElem?_eq_getElem hjr
    generalize hgu:r[j]=u at hu
    have hun:=hr u (List.mem_of_getElem? hu)
    refine ⟨l2.set .place (.int (2+j)),rfl,?_⟩
    have gp:pE H2 (l2.set .place (.int (2+j))) (.sub (.var .clause) (.var .place))=some (.int u):=by
     rw [J4 (l:=l2.set .place (.int (2+j))) (e:=.var .clause) (i:=.var .place) (k:=((2+j:Nat):Int)) a2 (by show some (V.int (2+(j:Int)))=_;congr 2) hH]
     refine J7 (k:=2+j) ?_ (by simp;exact o113 hlen' (by decide))
     rw [show 2+j=j+1+1 by exact o117,List.getElem?_cons_succ,List.getElem?_cons_succ];exact hu
    have vp:=r6 (l:=l2.set .place (.int (2+j))) S1 Z1 a1 gp hun
    have cp:pC H2 (l2.set .place (.int (2+j))) (.cmp .ge (.meth (.var .self) .value (.cons (.sub (.var .clause) (.var .place)) .nil)) (.int 0))=some (decide (0<=J.value u)):=by
     exact E0 vp rfl
    by_cases hge:0<=J.value u
    ·refine G6 hK (by rw [cp];simp [hge]) ?_
     refine K5 hK gp (n:=(.cls i,ν.cl i)) a2 (k:=1) rfl hH o118 (by rw [C3];simp;exact o119) (by rw [C3];simp;exact o120 hlen' (by decide)) ?_
     rw [V4]
     have S2:=S1.setCls hi (x::u::r)
     rw [show (x::y::r).set (1:Int).toNat u=x::u::r from rfl]
     have hH2:(H2.set (.cls i,ν.cl i) (.list (C8 (x::u::r)))) (.cls i,ν.cl i)=some (.list (C8 (x::u::r))):=D2
     refine K5 hK (v:=.int fl) (k:=((2+j:Nat):Int)) a4 (n:=(.cls i,ν.cl i)) a2 (by show some (V.int (2+(j:Int)))=_;congr 2) hH2 o73 (by rw [C3];simp;exact o121 hjr) (by rw [C3];simp;exact o120 hlen' (by decide)) ?_
     rw [V4]
     rw [show (x::u::r).set ((2+j:Nat):Int).toNat fl=x::u::r.set j fl by rw [show ((2+j:Nat):Int).toNat=j+1+1 by exact o122];rfl]
     have S3:=S2.setCls hi (x::u::r.set j fl)
     have Z3:Sz b (J.wC (D4 (D4 (D4 J.cls i (x::y::r)) i (x::u::r)) i (x::u::r.set j fl))):=
      ((Z1.setCls (i:=i) (c:=x::u::r) (by simpa using hlen')).setCls (i:=i) (c:=x::u::r.set j fl) (by simpa using hlen'))
     have hH3:((H2.set (.cls i,ν.cl i) (.list (C8 (x::u::r)))).set (.cls i,ν.cl i) (.list (C8 (x::u::r.set j fl)))) (.cls i,ν.cl i)=some (.list (C8 (x::u::r.set j fl))):=D2
     have g1:pE ((H2.set (.cls i,ν.cl i) (.list (C8 (x::u::r)))).set (.cls i,ν.cl i) (.list (C8 (x::u::r.set j fl)))) (l2.set .place (.int (2+j))) (.sub (.var .clause) (.int 1))=some (.int u):=by
      rw [J4 (l:=l2.set .place (.int (2+j))) (e:=.var .clause) (i:=.int 1) a2 rfl hH3]
      exact J7 (k:=1) rfl (by simp;exact o113 hlen' (by decide))
     refine I9 hK (Bd1 (l:=l2.set .place (.int (2+j))) S3 Z3 a1 g1 hun) (S3.rows _ (T7 (J:=J) hun)) (v:=.int i) a3 (by rw [G8];have:=Z.rows (B8 u);show (J.rows _).length<_;exact o75 this hle (by decide)) ?_
     rw [M7]
     have S4:=S3.setRow (T7 (J:=J) hun) (J.rows (B8 u)++[i])
     refine M3 hK (v:=.bool false) rfl (q2 _ j u hu hge hv ?_ ?_)
     ·have es:({J with cls:=D4 J.cls i (x::u::r.set j fl),rows:=G4 J.rows (B8 u) i}:Sg)={J with cls:=D4 (D4 (D4 J.cls i (x::y::r)) i (x::u::r)) i (x::u::r.set j fl),rows:=setRow J.rows (B8 u) (J.rows (B8 u)++[i])}:=by
       rw [c8,c8]
       congr 1
       funext t;unfold G4 setRow
       split
       ·rename_i h;rw [h]
       ·rfl
      rw [es];exact S4
     ·intro t jj h1 h2
      rw [B2 (h2 _),B2 (by intro e;cases e;exact h1 rfl),B2 (by intro e;cases e;exact h1 rfl)]
      exact f1 t jj h1 h2
    ·refine E9 hK (by rw [cp];simp [hge]) (C0 (B6 (C0 ⟨hjr,rfl,a1,a2,a3,a4,λp u' hp hu'=>?_⟩)))
     by_cases hpj:p=j
     ·subst hpj;rw [hu] at hu';cases hu';exact o123 hge
     ·exact hall p u' (o91 hp hpj) hu'
   ·cases hv2
 have hH0:H (.cls i,ν.cl i)=some (.list (C8 (x0::y0::r))):=by rw [<-hc];exact S.cls i hi
 have gz:∀(l:Lq),l .clause=some (.ref (.cls i,ν.cl i))->pE H l (.sub (.var .clause) (.int 0))=some (.int x0)/\pE H l (.sub (.var .clause) (.int 1))=some (.int y0):=λl h=>by
  rw [J4 (e:=.var .clause) (i:=.int 0) h rfl hH0,J4 (e:=.var .clause) (i:=.int 1) h rfl hH0]
  exact ⟨J7 (k:=0) rfl (by simp;exact o113 hlen' (by decide)),J7 (k:=1) rfl (by simp;exact o113 hlen' (by decide))⟩
 have ct:∀(l:Lq),l .clause=some (.ref (.cls i,ν.cl i))->l .false_=some (.int fl)->pC H l (.cmp .eq (.sub (.var .clause) (.int 0)) (.var .false_))=some (x0==fl):=λl h1 h2=>by
  exact E0 (gz l h1).1 h2
 by_cases hsw:x0=fl
 ·rw [if_pos hsw] at hxy
  cases hxy
  refine G6 hK (by rw [ct _ rfl rfl];simp [hsw]) ?_
  refine K5 hK (gz _ rfl).2 (n:=(.cls i,ν.cl i)) rfl (k:=0) rfl hH0 o124 (by rw [C3];simp;exact o125) (by rw [C3];simp;exact o120 hlen' (by decide)) ?_
  rw [V4]
  have S1:=S.setCls hi (y0::y0::r)
  rw [show (x0::y0::r).set (0:Int).toNat y0=y0::y0::r from rfl]
  refine K5 hK (v:=.int fl) rfl (n:=(.cls i,ν.cl i)) rfl (k:=1) rfl (D2 (o:=.list (C8 (y0::y0::r)))) o118 (by rw [C3];simp;exact o119) (by rw [C3];simp;exact o120 hlen' (by decide)) ?_
  rw [V4]
  have S2:=S1.setCls hi (y0::fl::r)
  rw [show (y0::y0::r).set (1:Int).toNat fl=y0::fl::r from rfl]
  refine C0 (B6 (tail _ _ ?_ ?_ rfl rfl rfl rfl))
  ·have es:((J.wC (D4 J.cls i (y0::fl::r))):Sg)=(J.wC (D4 (D4 J.cls i (y0::y0::r)) i (y0::fl::r))):=by rw [c8]
   rw [es];exact S2
  ·intro t jj h1 h2
   rw [B2 (by intro e;cases e;exact h1 rfl),B2 (by intro e;cases e;exact h1 rfl)]
 ·rw [if_neg hsw] at hxy
  cases hxy
  refine E9 hK (by rw [ct _ rfl rfl];simp [hsw]) (C0 (B6 (tail _ _ ?_ (λ_ _ _ _=>rfl) rfl rfl rfl rfl)))
  have es:((J.wC (D4 J.cls i (x0::y0::r))):Sg)=J:=by rw [<-hc,Af1];rfl
  rw [es];exact S
end
section rules
variable {K:Calls G9} {H:Hq} {l:Lq} {ss:Ss} {Q:Fl G9->Lq->Hq->Prop}
theorem Ee1 {o i e:E} {n:G9} {xs:List Vl} {k:Int} {x y:Int} (hK:D5 K) (ho:pE H l o=some (.ref n)) (hi:pE H l i=some (.int k)) (hn:H n=some (.list xs)) (h0:0<=k) (h1:k<xs.length) (h2:xs.length<=1000000)
  (hx:xs[k.toNat]? = some (.int x)) (he:pE H l e=some (.int y)) (q:C2 K ss Q l (H.set n (.list (xs.set k.toNat (.int (x+y)))))):C2 K (.cons (.augSub o i .add e) ss) Q l H:=
 D3 (e:=o) hK ho (D3 (e:=i) hK hi (.inl ⟨xs,.int x,hn,h0,o67 h1 h2 (by decide),hx,D3 (e:=e) hK he (.inl ⟨xs,hn,h0,o67 h1 h2 (by decide),h1,q⟩)⟩))
theorem Bj3 {x:Vr} {o:E} {i:Int} (hK:D5 K) (ho:pE H l o=some (.int i)) (h0:0<=i) (q:C2 K ss Q (l.set x (.int (if i=0 then 0 else i.toNat.log2+1))) H):C2 K (.cons (.set x (.bm .bitlen o .nil)) ss) Q l H:=
 D3 (e:=o) hK ho ⟨trivial,h0,q⟩
theorem V9 {a b:Int} (h:b≠0/\b.natAbs<1073741824):binF .fdiv (.int a) (.int b)=some (.int (a.fdiv b)):=by
 show (if b≠0/\b.natAbs<1073741824 then some (V.int (a.fdiv b)) else none)=_
 rw [if_pos h]
end rules
section
variable {k:Nat} {H:Hq} {ν:Nu} {J:Sg} {b:Nat}
theorem Bc0 {l r:Int} (hl:l≠0):(J.assign l r).value l=1:=by
 unfold Sg.value
 show (if l<0 then -(upd J.val l.natAbs (if 0<l then 1 else -1) l.natAbs) else upd J.val l.natAbs (if 0<l then 1 else -1) l.natAbs)=1
 unfold upd
 rw [if_pos rfl]
 by_cases h:l<0
 ·rw [if_pos h,if_neg (o126 h)];rfl
 ·rw [if_neg h,if_pos (o127 hl h)]
theorem Sz.assign (Z:Sz b J) (hb:b+1<=900000) (l r:Int):Sz (b+1) (J.assign l r):=
 ⟨hb,Z.n,Nat.lt_succ_of_lt Z.m,Z.cls,λs=>Nat.lt_succ_of_lt (Z.rows s),by have:=Z.trail;show (J.trail++[l]).length<_;rw [List.length_append];simp;exact o8 this,Nat.lt_succ_of_lt Z.lim,Nat.lt_succ_of_lt Z.lrn⟩
theorem Eb9 (S:Sv H ν J) (Z:Sz b J) (hb:b+1<=900000) {i:Nat} {x:Int} {r:List Int} (hi:i<J.m) (hc:J.cls i=x::r) (hx:x.natAbs<=J.n) (hx0:x≠0) {Q:Vl->Hq->Prop}
  (q1:∀H',J.value x=0->Sv H' ν (J.assign x i)->Frm tAsg H H'->Q (.bool false) H') (q2:J.value x≠0->Q (.bool (decide (J.value x<0))) H):
  C9 (k+3) .forces [.ref (.self,ν.self),.int i] Q H:=by
 have hK:=C7 (k+1)
 have hle:=Z.le
 refine D0 rfl ?_
 show C2 (C9 (k+2)) Ca2 _ _ _
 have hlen:=Z.cls i hi
 have hH:H (.cls i,ν.cl i)=some (.list (C8 (x::r))):=by rw [<-hc];exact S.cls i hi
 refine J2 hK (v:=.int x) ?_ ?_
 ·rw [J4 (i:=.int 0) (Ab2 S Z rfl rfl hi) rfl hH]
  exact J7 (k:=0) rfl (by rw [<-hc];exact o96 hlen (by decide))
 have v0:=r6 (e:=.var .first) (l:=(Lc.args Fn.forces.params [V.ref (Tag.self,ν.self),V.int (i:Int)]).set .first (V.int x)) S Z rfl rfl hx
 by_cases hv:J.value x=0
 ·refine G6 hK (by rw [E0 v0 rfl];simp [J0,hv]) ?_
  refine Q5 hK (n:=(.self,ν.self)) rfl S.self rfl (vs:=[.int x,.int i]) rfl ?_
  refine s7 S Z hx λH' S' f'=>⟨trivial,C0 (B6 ?_)⟩
  have v1:=r6 (e:=.var .first) (l:=(Lc.args Fn.forces.params [V.ref (Tag.self,ν.self),V.int (i:Int)]).set .first (V.int x)) S' (Z.assign hb x i) rfl rfl hx
  refine M3 hK (v:=.bool false) ?_ (q1 H' hv S' (Frm.asg f'))
  exact (Dj2 v1 rfl).trans (by rw [Bc0 hx0];rfl)
 ·refine E9 hK (by rw [E0 v0 rfl];simp [J0,hv]) (C0 (B6 ?_))
  refine M3 hK (v:=.bool (decide (J.value x<0))) ?_ (q2 hv)
  exact Dj2 v0 rfl
noncomputable def tBump:Tag->Bool | .activity | .self=>true | _=>false
theorem k_bump (S:Sv H ν J) (Z:Sz b J) {v:Nat} (hv:v<=J.n) {Q:Vl->Hq->Prop}
  (q:∀H' act step,Sv H' ν (J.wA act step)->Frm tBump H H'->Q .none H'):C9 (k+2) .bump [.ref (.self,ν.self),.int v] Q H:=by
 have hK:=C7 k
 have hn:=Z.n
 refine D0 rfl ?_
 show C2 (C9 (k+1)) Ee8 _ _ _
 refine Ee1 hK (D6 S rfl .activity) (k:=v) rfl S.activity o73 (by rw [E5];exact o76 hv) (by rw [E5];exact o6 hn (by decide)) (x:=J.act v) (by rw [show ((v:Int)).toNat=v by exact o77];exact Bf5 hv) (D6 S rfl .step) ?_
 rw [show ((v:Int)).toNat=v by exact o77,T3]
 have S1:=S.setActivity (upd J.act v (J.act v+J.step))
 have Z1:Sz b {J with act:=upd J.act v (J.act v+J.step)}:=Z.of rfl rfl rfl rfl rfl rfl rfl
 have g1:=U2 (l:=Lc.args Fn.bump.params [V.ref (Tag.self,ν.self),V.int (v:Int)]) (i:=.var .variable_) Z1 (D6 S1 rfl .activity) (k:=v) rfl S1.activity o73 (by show (v:Int)<=(J.n:Int);exact o111 hv)
 have c1:=E0 (op:=.gt) (b:=.cst .limit) g1 rfl
 by_cases hc:J0 .gt (upd J.act v (J.act v+J.step) ((v:Int)).toNat) Cs0.limit.val=true
 ·refine G6 hK (by rw [c1];rw [hc]) ?_
  refine P5 hK (vs:=[.int 1,.int (J.n+1:Nat)]) (x:=1) (y:=(J.n+1:Nat)) (z:=1) ?_ rfl (o128 hn (by decide)) (λj l2 H2=>l2 .self=some (.ref (.self,ν.self))/\(∃act,Sv H2 ν {J with act:=act})/\Frm tBump H H2) ⟨rfl,⟨_,S1⟩,Frm.set rfl⟩ ?_
  ·exact B9 rfl (B9 (by rw [D8 (b:=.int 1) (x:=J.n) (y:=1) (D6 S1 rfl .count) rfl];rfl) rfl)
  intro j l2 H2 q_
  refine E6 q_ λe1 C' f2=>?_
  clear q_
  refine C1 C' λact S2=>?_
  clear C'
  have Z2:Sz b {J with act:=act}:=Z.of rfl rfl rfl rfl rfl rfl rfl
  constructor
  ·intro _
   have d1:pE H2 l2 (.bin .fdiv (.attr (.var .self) .step) (.cst .scale))=some (.int (Int.fdiv J.step 1000000)):=by
    refine (D8 (x:=J.step) (y:=1000000) (D6 S2 e1 .step) rfl).trans ?_
    exact V9 ⟨by decide,by decide⟩
   have d2:pE H2 l2 (.bin .add (.bin .fdiv (.attr (.var .self) .step) (.cst .scale)) (.int 1))=some (.int (Int.fdiv J.step 1000000+1)):=D8 (y:=1) d1 rfl
   refine V7 hK d2 (n:=(.self,ν.self)) e1 S2.self rfl ?_
   have S3:=S2.setStep (Int.fdiv J.step 1000000+1)
   exact C0 (B6 (C0 (q _ act _ S3 (f2.trans (Frm.set rfl)))))
  ·intro u hu
   rw [G7] at hu
   split at hu
   ·rename_i hj
    cases hu
    refine ⟨l2.set .other (.int (1+j)),rfl,?_⟩
    have g2:=U2 (l:=l2.set .other (.int (1+j))) (i:=.var .other) Z2 (D6 (l:=l2.set .other (.int (1+j))) S2 e1 .activity) (k:=1+j) rfl S2.activity o129 (by show (1+j:Int)<=(J.n:Int);exact o130 hj)
    refine K5 hK (v:=.int (Int.fdiv (act (1+(j:Int)).toNat) 1000000)) (k:=1+j) ?_ (D6 (l:=l2.set .other (.int (1+j))) S2 e1 .activity) rfl S2.activity o129 (by rw [E5];show _<(J.n:Int)+1;exact o131 hj) (by rw [E5];show J.n+1<=_;exact o6 hn (by decide)) ?_
    ·exact (D8 (b:=.cst .scale) (y:=1000000) g2 rfl).trans (V9 ⟨by decide,by decide⟩)
    rw [T3]
    exact C0 ⟨e1,⟨_,S2.setActivity _⟩,f2.trans (Frm.set rfl)⟩
   ·cases hu
 ·refine E9 hK (by rw [c1];simpa using hc) (C0 (B6 (C0 (q _ _ J.step S1 (Frm.set rfl)))))
theorem Ec1 (S:Sv H ν J) (Z:Sz b J) {Q:Vl->Hq->Prop} (q:Q (.int 0) H):C9 (k+2) .assume [.ref (.self,ν.self),.tup []] Q H:=by
 have hK:=C7 k
 refine D0 rfl ?_
 show C2 (C9 (k+1)) Ca6 _ _ _
 refine U' hK (λm l1 H1=>l1=Lc.args Fn.assume.params [V.ref (Tag.self,ν.self),V.tup []]/\H1=H) 0 ⟨rfl,rfl⟩ ?_
 intro m l1 H1 q_
 refine B7 q_ λC' U5=>?_
 clear q_
 subst C'
 subst U5
 refine ⟨_,E0 (y:=0) (r7 S Z rfl) rfl,?_⟩
 rw [if_neg (by simp [J0])]
 exact M3 hK (v:=.int 0) rfl q
theorem k_model (S:Sv H ν J) (Z:Sz b J) (hf:J.fnd.length<1000000) {Q:Vl->Hq->Prop} (m:G9) (hm:H m=none) (q:Q (.ref m) (H.set m (.list J.fnd))):C9 (k+2) .model [.ref (.self,ν.self)] Q H:=by
 have hK:=C7 k
 refine D0 rfl ?_
 show C2 (C9 (k+1)) Da8 _ _ _
 exact D3 (e:=.attr (.var .self) .found) hK (D6 S rfl .found) ⟨J.fnd,S.found,hf,m,hm,q⟩
end
section rules
variable {H:Hq} {l:Lq}
theorem Dj3 {a b:C} {x y:Bool} (ha:pC H l a=some x) (hb:x=true->pC H l b=some y):pC H l (.and (.cons a (.cons b .nil)))=some (x&&y):=by
 refine (b1 _ ha).trans ?_
 cases x with
 | false=>rfl
 | true=>exact (b1 _ (hb rfl)).trans (by cases y <;> rfl)
theorem Ch7 {a b:C} {x y:Bool} (ha:pC H l a=some x) (hb:x=false->pC H l b=some y):pC H l (.or (.cons a (.cons b .nil)))=some (x||y):=by
 refine (b1 _ ha).trans ?_
 cases x with
 | true=>rfl
 | false=>exact (b1 _ (hb rfl)).trans (by cases y <;> rfl)
theorem Bj7 {a b:Int} (h:0<=b/\b<=1000000/\a.natAbs<2^64):binF .shl (.int a) (.int b)=some (.int (a*2^b.toNat)):=by
 show (if 0<=b/\b<=1000000/\a.natAbs<2^64 then some (V.int (a*2^b.toNat)) else none)=_
 rw [if_pos h]
end rules
section
variable {k:Nat} {H:Hq} {ν:Nu} {J:Sg} {b:Nat}
theorem k_free (S:Sv H ν J) (Z:Sz b J) {Q:Vl->Hq->Prop}
  (q:∀w:Nat,(w=0/\∀v,1<=v->v<=J.n->J.val v≠0)\/(1<=w/\w<=J.n/\J.val w=0)->Q (.int w) H):C9 (k+2) .free_variable [.ref (.self,ν.self)] Q H:=by
 have hK:=C7 k
 have hn:=Z.n
 refine D0 rfl ?_
 show C2 (C9 (k+1)) p9 _ _ _
 refine J2 hK (v:=.int 0) rfl ?_
 have lenE:c9 H ((Lc.args Fn.free_variable.params [V.ref (Tag.self,ν.self)]).set .best (V.int 0)) (.cons (.int 1) (.cons (.bin .add (.attr (.var .self) .count) (.int 1)) .nil))=some [.int 1,.int (J.n+1:Nat)]:=
  B9 rfl (B9 (D8 (y:=1) (D6 S rfl .count) rfl) rfl)
 refine P5 hK lenE rfl (o128 hn (by decide)) (λj l2 H2=>j<=J.n/\H2=H/\l2 .self=some (.ref (.self,ν.self))/\∃w:Nat,l2 .best=some (.int w)/\((w=0/\∀v,1<=v->v<=j->J.val v≠0)\/(1<=w/\w<=J.n/\J.val w=0)))
  ⟨Nat.zero_le _,rfl,rfl,0,rfl,.inl ⟨rfl,λv h1 h2=>o132 h1 h2⟩⟩ ?_
 intro j l2 H2 q_
 refine byc λB5=>E6 q_ λhj C' B3=>?_
 clear q_
 subst C'
 refine B7 B3 λe1 C5=>C1 C5 λw N1=>B7 N1 λe2 hw=>B5 ?_
 clear B3 C5 N1 B5
 constructor
 ·intro hend
  rw [G7] at hend
  have hjl:j=J.n:=by
   split at hend
   ·cases hend
   ·exact o133 hj ‹_›
  exact M3 hK (v:=.int w) e2 (q w (by rw [hjl] at hw;exact hw))
 ·intro u hu
  rw [G7] at hu
  split at hu
  ·rename_i hjl
   cases hu
   refine ⟨l2.set .variable_ (.int (1+j)),rfl,?_⟩
   have hS:=D6 (l:=l2.set .variable_ (.int (1+j))) S e1
   have gv:=U2 (l:=l2.set .variable_ (.int (1+j))) (i:=.var .variable_) (k:=1+j) Z (hS .values) rfl S.values o129 (o130 hjl)
   have ga:=U2 (l:=l2.set .variable_ (.int (1+j))) (i:=.var .variable_) (k:=1+j) Z (hS .activity) rfl S.activity o129 (o130 hjl)
   have gb:=U2 (l:=l2.set .variable_ (.int (1+j))) (i:=.var .best) (k:=w) Z (hS .activity) e2 S.activity o73 (by rcases hw with h | h <;> (first | exact o134 h | exact o135 h))
   have ej:(1+(j:Int)).toNat=j+1:=o136
   rw [ej] at gv ga
   have c1:=E0 (op:=.eq) (y:=0) gv (show pE H2 _ (.int 0)=_ from rfl)
   have c2:=E0 (op:=.eq) (y:=0) (show pE H2 (l2.set .variable_ (.int (1+j))) (.var .best)=some (.int w) from e2) (show pE H2 _ (.int 0)=_ from rfl)
   have c3:=E0 (op:=.gt) ga gb
   have cc:∃r,pC H2 (l2.set .variable_ (.int (1+j))) (.and (.cons (.cmp .eq (.sub (.attr (.var .self) .values) (.var .variable_)) (.int 0)) (.cons (.or (.cons (.cmp .eq (.var .best) (.int 0)) (.cons (.cmp .gt (.sub (.attr (.var .self) .activity) (.var .variable_)) (.sub (.attr (.var .self) .activity) (.var .best))) .nil))) .nil)))=some r /\
     (r=true->J.val (j+1)=0)/\(r=false->w=0->J.val (j+1)≠0):=by
    refine ⟨_,Dj3 c1 (λ_=>Ch7 c2 λ_=>c3),λh=>?_,λh h0=>?_⟩
    ·simp only [Bool.and_eq_true] at h
     simpa [J0] using h.1
    ·subst h0
     simpa [J0] using h
   exists C1 cc λr B3=>E6 B3 λer h1 h2=>B5 ?_
   clear cc
   cases r with
   | true=>
    refine G6 hK er (J2 hK (v:=.int (1+j)) rfl (C0 (B6 (C0 ⟨o137 hjl,rfl,e1,j+1,by show some (V.int (1+(j:Int)))=_;congr 2;exact o138,.inr ⟨o139,o137 hjl,h1 rfl⟩⟩))))
   | false=>
    refine E9 hK er (C0 (B6 (C0 ⟨o137 hjl,rfl,e1,w,e2,?_⟩)))
    rcases hw with q_ | h
    ·refine B7 q_ λh0 hall=>?_
     clear q_
     refine .inl ⟨h0,λv hv1 hv2=>?_⟩
     by_cases hvj:v=j+1
     ·rw [hvj];exact h2 rfl h0
     ·exact hall v hv1 (o140 hv2 hvj)
    ·exact .inr h
  ·cases hu
theorem k_luby {p:Int} (hp:1<=p) (hp2:p<=500000) {Q:Vl->Hq->Prop} (q:∀r:Int,1<=r->r<=500000->Q (.int r) H):C9 (k+2) .luby [.int p] Q H:=by
 have hK:=C7 k
 refine D0 rfl ?_
 show C2 (C9 (k+1)) Ee6 _ _ _
 refine J2 hK (v:=.int p) rfl ?_
 refine U' hK (λm l1 H1=>1<=m/\m<=500000/\l1 .rest=some (.int m)/\H1=H) p.toNat ⟨o141 hp,o142 hp2 (by decide),by show some (V.int p)=_;congr 2;exact o143 hp,rfl⟩ ?_
 intro m l1 H1 q_
 refine R7 q_ λh1 h2 e1 C'=>?_
 clear q_
 subst C'
 refine ⟨true,rfl,?_⟩
 rw [if_pos rfl]
 refine Bj3 (o:=.var .rest) hK e1 o73 ?_
 have hb0:(if (m:Int)=0 then (0:Int) else ((m:Int).toNat.log2:Int)+1)=(m.log2+1:Nat):=by
  rw [if_neg (o144 h1)];simp
 rw [hb0]
 have hlog:m.log2<19:=(Nat.log2_lt (o145 h1)).mpr (Nat.lt_of_le_of_lt h2 (by decide))
 have hlo:2^m.log2<=m:=Nat.log2_self_le (o145 h1)
 have hhi:m<2^(m.log2+1):=Nat.lt_log2_self
 have pw:∀n:Nat,((2:Int)^n)=((2^n:Nat):Int):=λn=>by push_cast;rfl
 have s1:pE H1 (l1.set .bits (.int (m.log2+1:Nat))) (.bin .shl (.int 1) (.var .bits))=some (.int ((2^(m.log2+1):Nat):Int)):=by
  refine (D8 (x:=1) (y:=(m.log2+1:Nat)) rfl rfl).trans ?_
  rw [Bj7 ⟨o73,o147 hlog (by decide),by decide⟩]
  rw [show (((m.log2+1:Nat):Int)).toNat=m.log2+1 by exact o77,pw,Int.one_mul]
 have s2:pE H1 (l1.set .bits (.int (m.log2+1:Nat))) (.bin .shl (.int 1) (.bin .sub (.var .bits) (.int 1)))=some (.int ((2^m.log2:Nat):Int)):=by
  refine (D8 (x:=1) (y:=((m.log2+1:Nat):Int)-1) rfl (D8 (x:=(m.log2+1:Nat)) (y:=1) rfl rfl)).trans ?_
  rw [Bj7 ⟨o148,o149 hlog (by decide),by decide⟩]
  rw [show (((m.log2+1:Nat):Int)-1).toNat=m.log2 by exact o150,pw,Int.one_mul]
 have cc:pC H1 (l1.set .bits (.int (m.log2+1:Nat))) (.cmp .eq (.var .rest) (.bin .sub (.bin .shl (.int 1) (.var .bits)) (.int 1)))=some ((m:Int)==((2^(m.log2+1):Nat):Int)-1):=
  E0 (op:=.eq) (x:=m) e1 (D8 (y:=1) s1 rfl)
 have hpos:1<=2^m.log2:=Nat.one_le_two_pow
 by_cases hc:(m:Int)=((2^(m.log2+1):Nat):Int)-1
 ·refine G6 hK (by rw [cc];simpa using hc) (M3 hK s2 (q _ (Int.ofNat_le.mpr hpos) (Int.ofNat_le.mpr (Nat.le_trans hlo h2))))
 ·refine E9 hK (by rw [cc];simpa using hc) (C0 (B6 ?_))
  have s3:pE H1 (l1.set .bits (.int (m.log2+1:Nat))) (.bin .add (.bin .sub (.var .rest) (.bin .shl (.int 1) (.bin .sub (.var .bits) (.int 1)))) (.int 1))=some (.int ((m:Int)-((2^m.log2:Nat):Int)+1)):=
   D8 (y:=1) (D8 (x:=m) e1 s2) rfl
  have h2':2<=2^m.log2:=by
   rcases Nat.eq_zero_or_pos m.log2 with hz | hz
   ·rw [hz] at hhi hc;simp at hhi hc;exact o153 h1 hhi hc
   ·calc 2=2^1:=rfl
     _<=2^m.log2:=Nat.pow_le_pow_right (by decide) hz
  have heq:(some (V.int ((m:Int)-((2^m.log2:Nat):Int)+1)):Option Vl)=some (V.int ((m-2^m.log2+1:Nat):Int)):=by
   have:((m:Int)-((2^m.log2:Nat):Int)+1)=((m-2^m.log2+1:Nat):Int):=o154 hlo
   rw [this]
  exact J2 hK s3 (C0 ⟨m-2^m.log2+1,o155 h2' hlo,o139,Nat.le_trans (Nat.le_of_lt (o155 h2' hlo)) h2,heq,rfl⟩)
theorem k_leave (S:Sv H ν J) (Z:Sz b J) (hnd:(vars J.trail).Nodup) (hlit:∀l∈J.trail,l.natAbs<=J.n) (hL:∀q,J.lim[0]? = some q->q<=J.trail.length) {a:Vl} {Q:Vl->Hq->Prop}
  (q:∀H' ν',Sv H' ν' (J.cancel 0)->Frm tCan H H'->ν'.self=ν.self->ν'.cl=ν.cl->ν.tk<=ν'.tk->Q a H'):C9 (k+3) .leave [.ref (.self,ν.self),a] Q H:=by
 have hK:=C7 (k+1)
 refine D0 rfl ?_
 show C2 (C9 (k+2)) Da9 _ _ _
 refine Q5 hK (n:=(.self,ν.self)) rfl S.self rfl (vs:=[.int 0]) rfl ?_
 exact Ah4 (L:=0) S Z hnd hlit hL λH' ν' S' f' h1 h2 h3=>⟨trivial,M3 hK (v:=a) rfl (q H' ν' S' f' h1 h2 h3)⟩
end
section rules
variable {K:Calls G9} {H:Hq} {l:Lq} {ss:Ss} {Q:Fl G9->Lq->Hq->Prop} {R:List Vl->Hq->Prop}
theorem Da2 {o:E} {m:Fn} {args:Es} {n:G9} {k:Kl} {f:At->Option Vl} (hK:D5 K) (ho:pE H l o=some (.ref n)) (hn:H n=some (.inst k f)) (hk:m.kl=some k)
 (q:Q' K args l (λvs H2=>K m (.ref n::vs) (λv H'=>v.plain/\C2 K ss Q l H') H2) H):C2 K (.cons (.expr (.meth o m args)) ss) Q l H:=D3 (e:=o) hK ho ⟨n,k,f,rfl,hn,hk,q⟩
theorem w4 (q:R [] H):Q' K .nil l R H:=q
theorem f6 {e:E} {es:Es} {v:Vl} (hK:D5 K) (he:pE H l e=some v) (q:Q' K es l (λvs H2=>R (v::vs) H2) H):Q' K (.cons e es) l R H:=D3 (e:=e) hK he q
theorem Be6 {o:E} {m:Fn} {args es:Es} {n:G9} {k:Kl} {f:At->Option Vl} {vs:List Vl} (hK:D5 K) (ho:pE H l o=some (.ref n)) (hn:H n=some (.inst k f)) (hk:m.kl=some k) (ha:c9 H l args=some vs)
 (q:K m (.ref n::vs) (λv H1=>Q' K es l (λvs H2=>R (v::vs) H2) H1) H):Q' K (.cons (.meth o m args) es) l R H:=D3 (e:=o) hK ho ⟨n,k,f,rfl,hn,hk,J' (es:=args) hK ha q⟩
theorem es_call {f:Fn} {args es:Es} {vs:List Vl} (hK:D5 K) (ha:c9 H l args=some vs)
 (q:K f vs (λv H1=>Q' K es l (λvs H2=>R (v::vs) H2) H1) H):Q' K (.cons (.call f args) es) l R H:=J' (es:=args) hK ha q
end rules
section
variable {k:Nat} {H:Hq} {ν:Nu} {J:Sg} {b:Nat}
theorem Sv.alloc (S:Sv H ν J) (t:Tag) (o:Ob):Sv (H.set (t,ν.tk) o) (ν.wT (ν.tk+1)) J:=by
 have hf:=S.fresh t ν.tk (Nat.le_refl _)
 have ne:∀{m:G9} {o':Ob},H m=some o'->(H.set (t,ν.tk) o) m=some o':=λ{m o'} h=>(B2 (by rintro rfl;rw [hf] at h;cases h)).trans h
 exact ⟨ne S.self,ne S.clauses,λi hi=>ne (S.cls i hi),ne S.watches,λs hs=>ne (S.rows s hs),ne S.values,ne S.levels,ne S.reasons,ne S.phases,ne S.activity,ne S.trail,ne S.limits,ne S.learned,ne S.found,
  λt' j hj=>(B2 (by have hj':ν.tk+1<=j:=hj;intro e;cases e;exact o103 hj')).trans (S.fresh t' j (by have hj':ν.tk+1<=j:=hj;exact o9 hj'))⟩
theorem Sv.other (S:Sv H ν J) {t:Tag} {j:Nat} {o o':Ob} (ht:Q3 t=false) (h:H (t,j)=some o):Sv (H.set (t,j) o') ν J:=by
 have ne:∀{t':Tag} {j':Nat} {o'':Ob},Q3 t'=true->H (t',j')=some o''->(H.set (t,j) o') (t',j')=some o'':=λht' h'=>(B2 (by intro e;cases e;rw [ht] at ht';cases ht')).trans h'
 exact ⟨ne rfl S.self,ne rfl S.clauses,λi hi=>ne rfl (S.cls i hi),ne rfl S.watches,λs hs=>ne rfl (S.rows s hs),ne rfl S.values,ne rfl S.levels,ne rfl S.reasons,ne rfl S.phases,ne rfl S.activity,ne rfl S.trail,ne rfl S.limits,ne rfl S.learned,ne rfl S.found,
  K4 S.fresh h⟩
noncomputable def Sg.logd (J:Sg) (c:List Int):Sg:={J with lrn:=J.lrn++[V.tup (C8 c)]}
theorem Sz.logd (Z:Sz b J) (hb:b+1<=900000) (c:List Int):Sz (b+1) (J.logd c):=
 ⟨hb,Z.n,Nat.lt_succ_of_lt Z.m,Z.cls,λs=>Nat.lt_succ_of_lt (Z.rows s),Nat.lt_succ_of_lt Z.trail,Nat.lt_succ_of_lt Z.lim,by have:=Z.lrn;show (J.lrn++[_]).length<_;rw [List.length_append];simp;exact o8 this⟩
noncomputable def Sg.learn (J:Sg):List Int->Sg
 | []=>J
 | [x]=>(J.logd [x]).assign x (-1)
 | x::y::r=>((J.logd (x::y::r)).attach (x::y::r) x y).assign x J.m
theorem Ae6 {t:Tag} (h:Q3 t=false):tAsg t=false:=by cases t <;> first | rfl | cases h
theorem k_learn (S:Sv H ν J) (Z:Sz b J) (hb:b+4<=900000) {j:Nat} {x:Int} {r:List Int} (hc:H (.cls J.m,j)=some (.list (C8 (x::r)))) (hl:r.length+1<1000) (hn:∀u∈x::r,u.natAbs<=J.n) {Q:Vl->Hq->Prop}
  (q:∀H' ν',Sv H' ν' (J.learn (x::r))->Frm Q3 H H'->ν'.self=ν.self->ν'.tk=ν.tk->Q .none H'):C9 (k+3) .learn [.ref (.self,ν.self),.ref (.cls J.m,j)] Q H:=by
 have hK:=C7 (k+1)
 have hle:=Z.le
 refine D0 rfl ?_
 show C2 (C9 (k+2)) Db0 _ _ _
 have tupE:pE H (Lc.args Fn.learn.params [V.ref (Tag.self,ν.self),V.ref (Tag.cls J.m,j)]) (.bi .tuple (.var .literals))=some (.tup (C8 (x::r))):=by
  exact (b1 (onL tupF) hc).trans (if_pos (by rw [C3];simp;exact o96 hl (by decide)))
 refine I9 hK (D6 S rfl .learned) S.learned tupE (by have:=Z.lrn;exact o157 hb this (by decide)) ?_
 have S1:=S.setLearned (J.lrn++[V.tup (C8 (x::r))])
 have Z1:=Z.logd (o158 hb) (x::r)
 have hc1:(H.set (.learned,ν.learned) (.list (J.lrn++[V.tup (C8 (x::r))]))) (.cls J.m,j)=some (.list (C8 (x::r))):=(B2 (C6 rfl)).trans hc
 have hx:=hn x (by simp)
 have g0:pE (H.set (.learned,ν.learned) (.list (J.lrn++[V.tup (C8 (x::r))]))) (Lc.args Fn.learn.params [V.ref (Tag.self,ν.self),V.ref (Tag.cls J.m,j)]) (.sub (.var .literals) (.int 0))=some (.int x):=by
  rw [J4 (e:=.var .literals) (i:=.int 0) (n:=(.cls J.m,j)) rfl rfl hc1]
  exact J7 (k:=0) rfl (by simp;exact o96 hl (by decide))
 have lenE:pE (H.set (.learned,ν.learned) (.list (J.lrn++[V.tup (C8 (x::r))]))) (Lc.args Fn.learn.params [V.ref (Tag.self,ν.self),V.ref (Tag.cls J.m,j)]) (.bi .len (.var .literals))=some (.int (r.length+1:Nat)):=by
  show lenO ((H.set (.learned,ν.learned) (.list (J.lrn++[V.tup (C8 (x::r))]))) (.cls J.m,j))=_
  rw [hc1,i3 (by rw [C3];simp;exact o96 hl (by decide)),C3];rfl
 have cc:=E0 (op:=.eq) (y:=1) lenE (show pE _ _ (.int 1)=_ from rfl)
 cases r with
 | nil=>
  refine G6 hK (by rw [cc];rfl) ?_
  refine Q5 hK (n:=(.self,ν.self)) rfl S1.self rfl (B9 g0 (B9 (v:=.int (-1)) rfl rfl)) ?_
  exact s7 S1 Z1 hx λH' S' f'=>⟨trivial,C0 (B6 (C0 (q H' ν S' ((Frm.set rfl).trans ((Frm.asg f').mono λt ht=>Ae6 ht)) rfl rfl)))⟩
 | cons y r=>
  refine E9 hK (by rw [cc];simp [J0];exact o159) ?_
  have hy:=hn y (by simp)
  refine Da2 hK (n:=(.self,ν.self)) rfl S1.self rfl (f6 hK g0 (Be6 hK (n:=(.self,ν.self)) (vs:=[.ref (.cls J.m,j)]) rfl S1.self rfl rfl ?_))
  refine Bi1 (J:=J.logd (x::y::r)) S1 Z1 (o160 hb) hc1 (c0:=x) (c1:=y) rfl rfl (by simp at hl ⊢;exact o8 hl) hx hy λH2 S2 f2=>?_
  have Z2:=Z1.attach (o160 hb) (c:=x::y::r) (by simp at hl ⊢;exact o8 hl) x y
  refine w4 ?_
  refine s7 (k:=k) (J:=(J.logd (x::y::r)).attach (x::y::r) x y) (l:=x) (r:=(J.m:Int)) S2 Z2 hx λH3 S3 f3=>⟨trivial,C0 (B6 (C0 (q H3 _ S3 ?_ rfl rfl)))⟩
  refine (Frm.set rfl).trans (Frm.trans (λt j ht=>f2 t j (by rintro rfl;cases ht) (by rintro s rfl;cases ht)) ((Frm.asg f3).mono λt ht=>Ae6 ht))
end
section rules
variable {K:Calls G9} {H:Hq} {l:Lq} {ss:Ss} {Q:Fl G9->Lq->Hq->Prop} {R:List Vl->Hq->Prop}
theorem Cj7 {es' es:Es} {vs:List Vl} (hK:D5 K) (ha:c9 H l es'=some vs) (hl:vs.length<1000000) (m:G9) (hm:H m=none) (q:Q' K es l (λvs' H2=>R (.ref m::vs') H2) (H.set m (.list vs))):
 Q' K (.cons (.list es') es) l R H:=J' (es:=es') hK ha ⟨hl,m,hm,q⟩
theorem es_cat1 {x e:E} {es:Es} {v:Vl} {n:G9} {xs:List Vl} (hK:D5 K) (hx:pE H l x=some v) (he:pE H l e=some (.ref n)) (hn:H n=some (.list xs)) (hl:xs.length<1000000) (m:G9) (hm:H m=none)
  (q:Q' K es l (λvs' H2=>R (.ref m::vs') H2) (H.set m (.list (v::xs)))):Q' K (.cons (.cat1 x e) es) l R H:=
 D3 (e:=x) hK hx (D3 (e:=e) hK he ⟨n,xs,rfl,hn,hl,m,hm,q⟩)
theorem Bj5 {es:Es} (q:Q' K es l (λvs H1=>vs.length<1000000/\Q (.ret (.tup vs)) l H1) H):C2 K (.cons (.ret (.tup es)) ss) Q l H:=q
theorem Df5 {o i o' i' a b:E} {va vb:Vl} {n:G9} {xs:List Vl} {k k':Int} (hK:D5 K) (ha:pE H l a=some va) (hb:pE H l b=some vb) (ho:pE H l o=some (.ref n)) (hi:pE H l i=some (.int k)) (hn:H n=some (.list xs))
  (h0:0<=k) (h1:k<xs.length) (h2:xs.length<=1000000) (ho':pE (H.set n (.list (xs.set k.toNat va))) l o'=some (.ref n)) (hi':pE (H.set n (.list (xs.set k.toNat va))) l i'=some (.int k')) (h0':0<=k') (h1':k'<xs.length)
  (q:C2 K ss Q l ((H.set n (.list (xs.set k.toNat va))).set n (.list ((xs.set k.toNat va).set k'.toNat vb)))):C2 K (.cons (.setSub2 o i o' i' a b) ss) Q l H:=
 D3 (e:=a) hK ha (D3 (e:=b) hK hb (D3 (e:=o) hK ho (D3 (e:=i) hK hi (.inl ⟨xs,hn,h0,o67 h1 h2 (by decide),h1,D3 (e:=o') hK ho' (D3 (e:=i') hK hi'
  (.inl ⟨xs.set k.toNat va,D2,h0',o67 h1' h2 (by decide),by rw [List.length_set];exact h1',q⟩))⟩))))
theorem Af6 {e:E} {x:Int} (he:pE H l e=some (.int x)):pE H l (.bi .abs e)=some (.int x.natAbs):=b1 _ he
theorem W3 {e:E} {n:G9} {xs:List Vl} (he:pE H l e=some (.ref n)) (hn:H n=some (.list xs)) (hl:xs.length<1000000):pE H l (.bi .len e)=some (.int xs.length):=(Ad7 he).trans ((b1 _ hn).trans (if_pos hl))
theorem Af7 {e:E} {n:G9} {xs:List Vl} (he:pE H l e=some (.ref n)) (hn:H n=some (.list xs)) (hl:xs.length<1000000):pC H l (.val e)=some (!xs.isEmpty):=(b1 _ he).trans ((b1 _ hn).trans (if_pos hl))
theorem N0 {e:E} {b:Bool} (he:pE H l e=some (.bool b)):pC H l (.val e)=some b:=b1 _ he
theorem Af8 {c:C} {b:Bool} (h:pC H l c=some b):pC H l (.not c)=some (!b):=b1 _ h
end rules
section
variable {k:Nat} {H:Hq} {ν:Nu} {J:Sg} {b:Nat}
theorem De2 (S:Sv H ν J) (Z:Sz b J) {j:Nat} {x:Int} {r:List Int} (hr:H (.rest2,j)=some (.list (C8 r))) (hl:r.length<1000) (hn:∀u∈r,u.natAbs<=J.n) {Q:Vl->Hq->Prop}
  (q0:r=[]->Q (.tup [.ref (.cls J.m,ν.tk),.int 0]) (H.set (.cls J.m,ν.tk) (.list (C8 [x]))))
  (q1:∀p y z,r[p]? = some y->r[0]? = some z->(∀u∈r,J.lev u.natAbs<=J.lev y.natAbs) ->
   Q (.tup [.ref (.cls J.m,ν.tk),.int (J.lev y.natAbs)]) ((((H.set (.rest2,j) (.list (C8 (r.set 0 y)))).set (.rest2,j) (.list (C8 ((r.set 0 y).set p z)))).set (.cls J.m,ν.tk) (.list (C8 (x::(r.set 0 y).set p z)))))):
  C9 (k+2) .ordered [.ref (.self,ν.self),.int x,.ref (.rest2,j)] Q H:=by
 have hK:=C7 k
 have hnn:=Z.n
 have hfr:H (.cls J.m,ν.tk)=none:=S.fresh _ _ (Nat.le_refl _)
 refine D0 rfl ?_
 show C2 (C9 (k+1)) Bb5 _ _ _
 refine J2 hK (v:=.int 0) rfl ?_
 have gr:∀(l:Lq) (e:E) (p:Nat) (u:Int),l .rest=some (.ref (.rest2,j))->pE H l e=some (.int p)->r[p]? = some u->pE H l (.sub (.var .rest) e)=some (.int u):=λl e p u h1 h2 h3=>by
  rw [J4 (e:=.var .rest) h1 h2 hr];exact J7 h3 (o96 hl (by decide))
 have gl:∀(l:Lq) (e:E) (p:Nat) (u:Int),l .self=some (.ref (.self,ν.self))->l .rest=some (.ref (.rest2,j))->pE H l e=some (.int p)->r[p]? = some u ->
   pE H l (.sub (.attr (.var .self) .levels) (.bi .abs (.sub (.var .rest) e)))=some (.int (J.lev u.natAbs)):=λl e p u h0 h1 h2 h3=>by
  have:=U2 Z (D6 S h0 .levels) (Af6 (gr l e p u h1 h2 h3)) S.levels o73 (by have:=hn u (List.mem_of_getElem? h3);exact o111 this)
  rw [this];rfl
 have lenE:c9 H ((Lc.args Fn.ordered.params [V.ref (Tag.self,ν.self),V.int x,V.ref (Tag.rest2,j)]).set .best (V.int 0)) (.cons (.int 1) (.cons (.bi .len (.var .rest)) .nil))=some [.int 1,.int (r.length:Nat)]:=
  B9 rfl (B9 (by rw [W3 (e:=.var .rest) rfl hr (by rw [C3];exact o96 hl (by decide)),C3]) rfl)
 have base:∀y,r[0]? = some y->∀t u,t<0+1->r[t]? = some u->J.lev u.natAbs<=J.lev y.natAbs:=by
  intro y hy t u ht hu
  have:t=0:=o161 ht
  subst this
  rw [hy] at hu;cases hu;exact Nat.le_refl _
 refine P5 hK lenE rfl (o162 hl (by decide)) (λi l2 H2=>H2=H/\l2 .self=some (.ref (.self,ν.self))/\l2 .rest=some (.ref (.rest2,j))/\l2 .first=some (.int x)/\(i=0\/i+1<=r.length) /\
   ∃p:Nat,l2 .best=some (.int p)/\(p=0\/p<r.length)/\∀y,r[p]? = some y->∀t u,t<i+1->r[t]? = some u->J.lev u.natAbs<=J.lev y.natAbs)
  ⟨rfl,rfl,rfl,rfl,.inl rfl,0,rfl,.inl rfl,base⟩ ?_
 intro i l2 H2 q_
 refine byc λB5=>B7 q_ λC' B3=>?_
 clear q_
 subst C'
 refine un5 B3 λe1 e2 e3 hi C5=>C1 C5 λp N1=>E6 N1 λe4 hp hmax=>B5 ?_
 clear B3 C5 N1 B5
 constructor
 ·intro hend
  rw [G7] at hend
  have hil:r.length<=i+1:=by
   split at hend
   ·cases hend
   ·exact o163 ‹_›
  have cv:=Af8 (Af7 (e:=.var .rest) (l:=l2) e2 hr (by rw [C3];exact o96 hl (by decide)))
  cases r with
  | nil=>
   refine G6 hK (by rw [cv];rfl) (Bj5 ?_)
   refine Cj7 hK (vs:=[.int x]) (B9 (e:=.var .first) e3 rfl) (by simp) (.cls J.m,ν.tk) hfr ?_
   exact f6 hK (v:=.int 0) rfl (w4 ⟨by simp,q0 rfl⟩)
  | cons z r=>
   refine E9 hK (by rw [cv];rfl) (C0 (B6 ?_))
   have hpl:p<(z::r).length:=by
    rcases hp with h | h
    ·rw [h];simp
    ·exact h
   have hy:(z::r)[p]? = some (z::r)[p]:=List.getElem?_eq_getElem hpl
   generalize hgy:(z::r)[p]=y at hy
   have hall:∀u∈z::r,J.lev u.natAbs<=J.lev y.natAbs:=λu hu=>by
    obtain ⟨t,ht,e⟩:=List.mem_iff_getElem.mp hu
    exact hmax y hy t u (o164 ht hil) (by rw [List.getElem?_eq_getElem ht,e])
   refine Df5 hK (gr l2 (.var .best) p y e2 e4 hy) (gr l2 (.int 0) 0 z e2 rfl rfl) (n:=(.rest2,j)) e2 (k:=0) rfl hr o124 (by rw [C3];simp) (by rw [C3];exact o18 hl (by decide)) e2 (k':=p) e4 o73 (by rw [C3];exact o165 hpl) ?_
   rw [V4,V4]
   have epn:((p:Nat):Int).toNat=p:=o77
   rw [epn]
   have fin:=q1 p y z hy rfl hall
   have S1:=S.other (t:=.rest2) (j:=j) (o':=.list (C8 ((z::r).set 0 y))) rfl hr
   have S2:=S1.other (t:=.rest2) (j:=j) (o':=.list (C8 (((z::r).set 0 y).set p z))) rfl D2
   have S3:=S2.alloc (.cls J.m) (.list (C8 (x::((z::r).set 0 y).set p z)))
   have h0':(((z::r).set 0 y).set p z)[0]? = some y:=by
    cases p with
    | zero=>simp at hy;subst hy;rfl
    | succ p=>rfl
   have hlen':(((z::r).set 0 y).set p z).length<1000000:=by simp at hl ⊢;exact o96 hl (by decide)
   refine Bj5 (es_cat1 hK (x:=.var .first) (e:=.var .rest) e3 (n:=(.rest2,j)) e2 D2 (by rw [C3];exact hlen') (.cls J.m,ν.tk) ((B2 (C6 rfl)).trans ((B2 (C6 rfl)).trans hfr)) ?_)
   have g0:=J4 (H:=(((H2.set (.rest2,j) (.list (C8 ((z::r).set 0 y)))).set (.rest2,j) (.list (C8 (((z::r).set 0 y).set p z)))).set (.cls J.m,ν.tk) (.list (C8 (x::((z::r).set 0 y).set p z)))))
    (l:=l2) (e:=.var .rest) (i:=.int 0) (n:=(.rest2,j)) (k:=0) e2 rfl ((B2 (C6 rfl)).trans D2)
   have g0':=g0.trans (J7 (k:=0) h0' hlen')
   have hyn:=hn y (List.mem_of_getElem? hy)
   have g1:=U2 Z (D6 S3 e1 .levels) (Af6 g0') S3.levels o73 (o111 hyn)
   exact f6 hK g1 (w4 ⟨by simp,fin⟩)
 ·intro u hu
  rw [G7] at hu
  split at hu
  ·rename_i hil
   cases hu
   refine ⟨l2.set .place (.int (1+i)),rfl,?_⟩
   have hil':i+1<r.length:=o166 hil
   have hu1:r[i+1]? = some r[i+1]:=List.getElem?_eq_getElem hil'
   generalize hgu:r[i+1]=u1 at hu1
   have hpl:p<r.length:=by rcases hp with h | h <;> (first | exact o167 h hil' | exact o8 h)
   have hy:r[p]? = some r[p]:=List.getElem?_eq_getElem hpl
   generalize hgy:r[p]=y at hy
   have g1:=gl (l2.set .place (.int (1+i))) (.var .place) (i+1) u1 e1 e2 (by show some (V.int (1+(i:Int)))=_;rw [show (1+(i:Int))=((i+1:Nat):Int) by exact o138]) hu1
   have g2:=gl (l2.set .place (.int (1+i))) (.var .best) p y e1 e2 e4 hy
   have cc:=E0 (op:=.gt) g1 g2
   by_cases hc:J.lev y.natAbs<J.lev u1.natAbs
   ·refine G6 hK (by rw [cc];simp [J0,hc]) (J2 hK (v:=.int (1+i)) rfl (C0 (B6 (C0 ⟨rfl,e1,e2,e3,.inr (o168 hil'),i+1,?_,.inr hil',?_⟩))))
    ·show some (V.int (1+(i:Int)))=_;rw [show (1+(i:Int))=((i+1:Nat):Int) by exact o138]
    ·intro y' hy' t u ht hu
     rw [hu1] at hy';cases hy'
     by_cases hti:t=i+1
     ·subst hti;rw [hu1] at hu;cases hu;exact Nat.le_refl _
     ·exact Nat.le_trans (hmax y hy t u (o91 ht hti) hu) (Nat.le_of_lt hc)
   ·refine E9 hK (by rw [cc];simp [J0,hc]) (C0 (B6 (C0 ⟨rfl,e1,e2,e3,.inr (o168 hil'),p,e4,.inr hpl,?_⟩)))
    intro y' hy' t u ht hu
    rw [hy] at hy';cases hy'
    by_cases hti:t=i+1
    ·subst hti;rw [hu1] at hu;cases hu;exact o71 hc
    ·exact hmax y hy t u (o91 ht hti) hu
  ·cases hu
end
section rules
variable {K:Calls G9} {H:Hq} {l:Lq} {ss:Ss} {Q:Fl G9->Lq->Hq->Prop} {a:At} {n:G9} {k:Kl} {f:At->Option Vl}
theorem Ac0 (hK:D5 K) (hs:l .self=some (.ref n)) (hn:H n=some (.inst k f)) (ha:a.kl=k) (m:G9) (hm:H m=none)
  (q:C2 K ss Q l ((H.set m (.list [])).set n (.inst k λb=>if b=a then some (.ref m) else f b))):C2 K (.cons (.setAttr (.var .self) a (.list .nil)) ss) Q l H:=
 ⟨by decide,m,hm,_,hs,n,k,f,rfl,(B2 (by rintro rfl;rw [hn] at hm;cases hm)).trans hn,ha,q⟩
theorem c_saRep {x e:E} {v:Vl} {c:Int} (hK:D5 K) (hx:pE H l x=some v) (he:pE H l e=some (.int c)) (h0:0<=c) (h1:c<1000000) (hv:v.flat) (hs:l .self=some (.ref n)) (hn:H n=some (.inst k f)) (ha:a.kl=k) (m:G9) (hm:H m=none)
  (q:C2 K ss Q l ((H.set m (.list (List.replicate c.toNat v))).set n (.inst k λb=>if b=a then some (.ref m) else f b))):C2 K (.cons (.setAttr (.var .self) a (.rep x e)) ss) Q l H:=
 D3 (e:=x) hK hx (D3 (e:=e) hK he ⟨c,rfl,h0,h1,hv,m,hm,_,hs,n,k,f,rfl,(B2 (by rintro rfl;rw [hn] at hm;cases hm)).trans hn,ha,q⟩)
theorem c_saSet {e:E} {v:Vl} (hK:D5 K) (he:pE H l e=some v) (hs:l .self=some (.ref n)) (hn:H n=some (.inst k f)) (ha:a.kl=k)
  (q:C2 K ss Q l (H.set n (.inst k λb=>if b=a then some v else f b))):C2 K (.cons (.setAttr (.var .self) a e) ss) Q l H:=
 V7 hK he hs hn ha q
end rules
noncomputable def nu0 (s t:Nat):Nu:={self:=s,clauses:=t,watches:=t,values:=t,levels:=t,reasons:=t,phases:=t,activity:=t,trail:=t,limits:=t,learned:=t,found:=t,row:=(λ_=>t),cl:=(λ_=>t),tk:=t+1}
noncomputable def sg0 (n:Nat):Sg:={n:=n,m:=0,cls:=(λ_=>[]),rows:=(λ_=>[]),val:=(λ_=>0),lev:=(λ_=>0),rea:=(λ_=> -1),pha:=(λ_=> -1),act:=(λ_=>0),step:=1,trail:=[],lim:=[],head:=0,lrn:=[],refuted:=false,fnd:=List.replicate (n+1) (.bool false)}
theorem m8 (n:Nat) (v:Int):List.replicate (n+1) (V.int v:Vl)=T4 n λ_=>v:=by
 unfold T4
 apply List.ext_getElem?
 intro i
 rw [List.getElem?_replicate,List.getElem?_map]
 by_cases h:i<n+1
 ·rw [if_pos h,List.getElem?_range h];rfl
 ·rw [if_neg h,List.getElem?_eq_none (by simp;exact o71 h)];rfl
theorem fstE {a c:Tag} {b d:Nat} (h:(a,b)=(c,d)):a=c:=congrArg Prod.fst h
theorem sndE {a c:Tag} {b d:Nat} (h:(a,b)=(c,d)):b=d:=congrArg Prod.snd h
theorem rowI {a b:Nat} (h:Tag.row a=Tag.row b):a=b:=by cases h;rfl
noncomputable def tRow:Tag->Bool | .row _=>true | _=>false
structure I0 (H0 H:Hq) (s t m:Nat) (fs:List (At×Vl)) (ls:List (Tag×Ob)):Prop where
 self:H (.self,s)=some (.inst .solver λa=>fs.lookup a)
 tab:∀g,tRow g=false->H (g,t)=ls.lookup g
 row:∀r,r<m->H (.row r,t)=some (.list [])
 rest:∀r,m<=r->H (.row r,t)=none
 fr:∀g j,Q3 g=false\/j≠t->(g,j)≠(Tag.self,s)->H (g,j)=H0 (g,j)
section
variable {H0 H:Hq} {s t m n k:Nat} {fs:List (At×Vl)} {ls:List (Tag×Ob)} {l:Lq} {ss:Ss} {Q:Fl G9->Lq->Hq->Prop} {v:Vl} {e:E} {x:Vl}
theorem look1 {α β:Type} [DecidableEq α] {es:List (α×β)} {a b:α} {v:β} (h:b≠a):((a,v)::es).lookup b=es.lookup b:=by
 show (match b==a with | true=>some v | false=>es.lookup b)=_
 rw [beq_eq_false_iff_ne.mpr h]
theorem look0 {α β:Type} [DecidableEq α] {es:List (α×β)} {a:α} {v:β}:((a,v)::es).lookup a=some v:=by
 show (match a==a with | true=>some v | false=>es.lookup a)=_
 rw [beq_self_eq_true]
theorem I0.set (A:I0 H0 H s t m fs ls) (hst:s≠t) (a:At) (v:Vl):I0 H0 (H.set (.self,s) (.inst .solver λb=>if b=a then some v else fs.lookup b)) s t m ((a,v)::fs) ls:=by
 have ne:∀g,(g,t)≠(Tag.self,s):=λg e=>hst (sndE e).symm
 refine ⟨D2.trans (congrArg (λf=>some (O.inst .solver f)) (funext λb=>?_)),λg h=>(B2 (ne _)).trans (A.tab g h),λr h=>(B2 (ne _)).trans (A.row r h),λr h=>(B2 (ne _)).trans (A.rest r h),λg j h h'=>(B2 h').trans (A.fr g j h h')⟩
 by_cases h:b=a
 ·rw [if_pos h,h,look0]
 ·rw [if_neg h,look1 h]
theorem I0.new (A:I0 H0 H s t m fs ls) (hst:s≠t) (g:Tag) (o:Ob) (h1:tRow g=false) (h2:Q3 g=true):I0 H0 (H.set (g,t) o) s t m fs ((g,o)::ls):=by
 refine ⟨(B2 λe=>hst (sndE e)).trans A.self,λg' h=>?_,λr h=>(B2 λe=>?_).trans (A.row r h),λr h=>(B2 λe=>?_).trans (A.rest r h),λg' j h h'=>(B2 λe=>?_).trans (A.fr g' j h h')⟩
 ·by_cases e:g'=g
  ·rw [e,D2,look0]
  ·rw [B2 λz=>e (fstE z),look1 e];exact A.tab g' h
 ·rw [<-fstE e] at h1;cases h1
 ·rw [<-fstE e] at h1;cases h1
 ·rcases h with h | h
  ·rw [fstE e,h2] at h;cases h
  ·exact h (sndE e)
theorem I0.newRow (A:I0 H0 H s t m fs ls) (hst:s≠t):I0 H0 (H.set (.row m,t) (.list [])) s t (m+1) fs ls:=by
 refine ⟨(B2 λe=>hst (sndE e)).trans A.self,λg' h=>(B2 λe=>?_).trans (A.tab g' h),λr h=>?_,λr h=>(B2 λe=>?_).trans (A.rest r (Nat.le_of_succ_le h)),λg' j h h'=>(B2 λe=>?_).trans (A.fr g' j h h')⟩
 ·rw [fstE e] at h;cases h
 ·by_cases e:r=m
  ·rw [e];exact D2
  ·exact (B2 λz=>e (rowI (fstE z))).trans (A.row r (o91 h e))
 ·rw [rowI (fstE e)] at h;exact Nat.lt_irrefl _ h
 ·rcases h with h | h
  ·rw [fstE e] at h;cases h
  ·exact h (sndE e)
theorem Cj3 (A:I0 H0 H s t m fs ls) (hst:s≠t) (l1:l .self=some (.ref (.self,s))) (a:At) (ha:a.kl = .solver) (he:pE H l e=some v)
 (q:∀H,I0 H0 H s t m ((a,v)::fs) ls->C2 (C9 (k+1)) ss Q l H):C2 (C9 (k+1)) (.cons (.setAttr (.var .self) a e) ss) Q l H:=c_saSet (C7 k) he l1 A.self ha (q _ (A.set hst a v))
theorem Be1 (A:I0 H0 H s t m fs ls) (hst:s≠t) (l1:l .self=some (.ref (.self,s))) (a:At) (ha:a.kl = .solver) (g:Tag) (h1:tRow g=false) (h2:Q3 g=true) (h3:ls.lookup g=none)
  (q:∀H,I0 H0 H s t m ((a,.ref (g,t))::fs) ((g,.list [])::ls)->C2 (C9 (k+1)) ss Q l H):C2 (C9 (k+1)) (.cons (.setAttr (.var .self) a (.list .nil)) ss) Q l H:=
 Ac0 (C7 k) l1 A.self ha (g,t) ((A.tab g h1).trans h3) (q _ ((A.new hst g _ h1 h2).set hst a _))
theorem Ba9 (A:I0 H0 H s t m fs ls) (hst:s≠t) (l1:l .self=some (.ref (.self,s))) (l2:l .count=some (.int n)) (hn:n<1000) (a:At) (ha:a.kl = .solver) (g:Tag) (h1:tRow g=false) (h2:Q3 g=true) (h3:ls.lookup g=none) (he:pE H l e=some x) (hx:x.flat) {xs:List Vl} (hxs:List.replicate (n+1) x=xs)
  (q:∀H,I0 H0 H s t m ((a,.ref (g,t))::fs) ((g,.list xs)::ls)->C2 (C9 (k+1)) ss Q l H):C2 (C9 (k+1)) (.cons (.setAttr (.var .self) a (.rep e (.bin .add (.var .count) (.int 1)))) ss) Q l H:=by
 refine c_saRep (c:=((n+1:Nat):Int)) (C7 k) he (D8 (a:=.var .count) (x:=n) (y:=1) l2 rfl) o73 (o174 hn (by decide)) hx l1 A.self ha (g,t) ((A.tab g h1).trans h3) ?_
 cases hxs
 exact q _ ((A.new hst g _ h1 h2).set hst a _)
end
theorem k_init {k:Nat} {H:Hq} {s t n:Nat} (hn:n<1000) (hs:H (.self,s)=some (.inst .solver λ_=>none)) (hf:∀g j,t<=j->H (g,j)=none) {Q:Vl->Hq->Prop}
  (q:∀H',Sv H' (nu0 s t) (sg0 n)->(∀g j,Q3 g=false->H' (g,j)=H (g,j))->Q .none H'):C9 (k+2) .s_init [.ref (.self,s),.int n] Q H:=by
 have hK:=C7 k
 refine D0 rfl ?_
 show C2 (C9 (k+1)) Bj9 _ _ _
 generalize hl:Lc.args Fn.s_init.params [(V.ref (Tag.self,s):Vl),V.int (n:Int)]=l
 have l1:l .self=some (.ref (.self,s)):=by rw [<-hl];rfl
 have l2:l .count=some (.int n):=by rw [<-hl];rfl
 have fr:∀g,H (g,t)=none:=λg=>hf g t (Nat.le_refl _)
 have hst:s≠t:=by rintro rfl;rw [fr] at hs;cases hs
 have A0:I0 H H s t 0 [] []:=⟨hs,λg _=>fr g,λr h=>absurd h (Nat.not_lt_zero r),λr _=>fr _,λ_ _ _ _=>rfl⟩
 refine Cj3 A0 hst l1 .count rfl l2 λH1 A1=>?_
 refine Be1 A1 hst l1 .clauses rfl .clauses rfl rfl rfl λH2 A2=>?_
 have wE:c9 H2 l (.cons (.bin .add (.bin .mul (.int 2) (.var .count)) (.int 2)) .nil)=some [.int (2*n+2:Nat)]:=
  B9 (D8 (op:=.add) (x:=2*n) (y:=2) ((D8 (op:=.mul) (a:=.int 2) (b:=.var .count) (x:=2) (y:=n) rfl l2).trans (show (if (2:Int).natAbs<1073741824\/(n:Int).natAbs<1073741824 then some (V.int (2*(n:Int)):Vl) else none)=_ from if_pos (.inl (by decide)))) rfl) rfl
 show Q' (C9 (k+1)) _ l _ H2
 refine J' (es:=.cons (.bin .add (.bin .mul (.int 2) (.var .count)) (.int 2)) .nil) hK wE ⟨0,(2*n+2:Nat),1,rfl,o169 hn,λi acc H'=>i<=2*n+2/\acc=(List.range i).map (λr=>(V.ref (Tag.row r,t):Vl))/\I0 H H' s t i [(.clauses,.ref (.clauses,t)),(.count,.int n)] [(.clauses,.list [])],
  ⟨Nat.zero_le _,rfl,A2⟩,λi acc H3 q_=>E6 q_ λhi ha A3=>?_⟩
 rw [ha]
 refine ⟨trivial,by rw [List.length_map,List.length_range];exact o170 hi hn,?_⟩
 rw [List.getElem?_map,G7]
 by_cases hlt:(0:Int)+i<(2*n+2:Nat)
 ·rw [if_pos hlt]
  refine ⟨Nat.zero_lt_succ _,(.row i,t),A3.rest i (Nat.le_refl i),o172 hlt,?_,A3.newRow hst⟩
  rw [List.range_succ,List.map_append];rfl
 rw [if_neg hlt]
 have hi':i=2*n+2:=o173 hi hlt
 rw [hi'] at A3 ⊢
 have A4:=A3.new hst .watches (.list ((List.range (2*n+2)).map λr=>(V.ref (Tag.row r,t):Vl))) rfl rfl
 refine ⟨(.watches,t),A3.tab .watches rfl,_,l1,(.self,s),.solver,_,rfl,A4.self,rfl,?_⟩
 have A5:=A4.set hst .watches (.ref (.watches,t))
 refine Ba9 A5 hst l1 l2 hn .values rfl .values rfl rfl rfl rfl trivial (m8 n 0) λH A=>?_
 refine Ba9 A hst l1 l2 hn .levels rfl .levels rfl rfl rfl rfl trivial (m8 n 0) λH A=>?_
 refine Ba9 A hst l1 l2 hn .reasons rfl .reasons rfl rfl rfl rfl trivial (m8 n (-1)) λH A=>?_
 refine Ba9 A hst l1 l2 hn .phases rfl .phases rfl rfl rfl rfl trivial (m8 n (-1)) λH A=>?_
 refine Ba9 A hst l1 l2 hn .activity rfl .activity rfl rfl rfl rfl trivial (m8 n 0) λH A=>?_
 refine Cj3 A hst l1 .step rfl rfl λH A=>?_
 refine Be1 A hst l1 .trail rfl .trail rfl rfl rfl λH A=>?_
 refine Be1 A hst l1 .limits rfl .limits rfl rfl rfl λH A=>?_
 refine Cj3 A hst l1 .head rfl rfl λH A=>?_
 refine Be1 A hst l1 .learned rfl .learned rfl rfl rfl λH A=>?_
 refine Cj3 A hst l1 .refuted rfl rfl λH A=>?_
 refine Ba9 A hst l1 l2 hn .found rfl .found rfl rfl rfl rfl trivial rfl λH' A=>?_
 refine C0 (q _ ⟨A.self.trans ?_,A.tab .clauses rfl,λi hi=>absurd hi (Nat.not_lt_zero _),A.tab .watches rfl,A.row,A.tab .values rfl,A.tab .levels rfl,A.tab .reasons rfl,A.tab .phases rfl,A.tab .activity rfl,A.tab .trail rfl,A.tab .limits rfl,A.tab .learned rfl,A.tab .found rfl,λg j hj=>?_⟩ λg j hg=>A.fr g j (.inl hg) λe=>?_)
 ·congr 2;funext b;cases b <;> first | contradiction | rfl
 ·have hne:j≠t:=Nat.ne_of_gt hj
  refine (A.fr g j (.inr hne) λe=>?_).trans (hf g j (Nat.le_of_succ_le hj))
  have:=hf g j (Nat.le_of_succ_le hj)
  rw [e,hs] at this;cases this
 ·rw [fstE e] at hg;cases hg
def N6 (α:Nat->Bool) (l:Int):Prop:=α l.natAbs=decide (0<l)
def S0 (α:Nat->Bool) (c:List Int):Prop:=∃l∈c,N6 α l
noncomputable def lvl (lim:List Nat) (p:Nat):Nat:=(lim.filter λq=>decide (q<=p)).length
structure Base (J:Sg):Prop where
 lit:∀l∈J.trail,1<=l.natAbs/\l.natAbs<=J.n
 nd:(vars J.trail).Nodup
 val:∀v,1<=v->v<=J.n->J.val v=if (v:Int)∈J.trail then 1 else if -(v:Int)∈J.trail then -1 else 0
 inc:J.lim.Pairwise (· < ·)
 lt:∀q∈J.lim,q<J.trail.length
 lev:∀p l,J.trail[p]? = some l->J.lev l.natAbs=lvl J.lim p
 pha:∀v,1<=v->v<=J.n->J.pha v=1\/J.pha v = -1
theorem Q4 {a b:Int} (h:a.natAbs=b.natAbs):a=b\/a = -b:=o176 h
theorem Dh1 {xs:List Int} (hn:(vars xs).Nodup) {x y:Int} (hx:x∈xs) (hy:y∈xs) (h:x.natAbs=y.natAbs):x=y:=by
 induction xs with
 | nil=>cases hx
 | cons z xs ih=>
  unfold vars at hn
  rw [List.map_cons,List.nodup_cons] at hn
  rcases List.mem_cons.mp hx with rfl | hx' <;> rcases List.mem_cons.mp hy with rfl | hy'
  ·rfl
  ·exact absurd (List.mem_map.mpr ⟨y,hy',h.symm⟩) hn.1
  ·exact absurd (List.mem_map.mpr ⟨x,hx',h⟩) hn.1
  ·exact ih hn.2 hx' hy'
section
variable {J:Sg}
theorem Base.noNeg (B:Base J) {l:Int} (h:l∈J.trail): -l∉J.trail:=by
 intro h2
 have h0:=(B.lit l h).1
 have hne:l ≠ -l:=o177 h0
 exact hne (Dh1 B.nd h h2 o178)
theorem Base.value (B:Base J) {l:Int} (h1:1<=l.natAbs) (h2:l.natAbs<=J.n):J.value l=if l∈J.trail then 1 else if -l∈J.trail then -1 else 0:=by
 unfold Sg.value
 have hv:=B.val l.natAbs h1 h2
 by_cases hl:l<0
 ·rw [if_pos hl,hv,show ((l.natAbs:Nat):Int) = -l by exact o179 hl,Int.neg_neg]
  by_cases hm:l∈J.trail
  ·have:=B.noNeg hm
   rw [if_neg this,if_pos hm,if_pos hm];rfl
  ·rw [if_neg hm,if_neg hm]
   by_cases M5: -l∈J.trail
   ·rw [if_pos M5,if_pos M5]
   ·rw [if_neg M5,if_neg M5];rfl
 ·rw [if_neg hl,hv,show ((l.natAbs:Nat):Int)=l by exact o180 hl]
theorem Base.tt (B:Base J) {l:Int} (h1:1<=l.natAbs) (h2:l.natAbs<=J.n):J.value l=1↔l∈J.trail:=by
 rw [B.value h1 h2]
 by_cases hm:l∈J.trail
 ·simp [hm]
 ·rw [if_neg hm]
  refine ⟨λh=>?_,λh=>absurd h hm⟩
  split at h <;> cases h
theorem Base.ff (B:Base J) {l:Int} (h1:1<=l.natAbs) (h2:l.natAbs<=J.n):J.value l<0 ↔ -l∈J.trail:=by
 rw [B.value h1 h2]
 by_cases hm:l∈J.trail
 ·rw [if_pos hm]
  exact ⟨λh=>absurd h (by decide),λh=>absurd h (B.noNeg hm)⟩
 ·rw [if_neg hm]
  by_cases M5: -l∈J.trail
  ·simp [M5]
  ·simp [M5]
theorem Base.uu (B:Base J) {l:Int} (h1:1<=l.natAbs) (h2:l.natAbs<=J.n):J.value l=0↔l∉J.trail /\ -l∉J.trail:=by
 rw [B.value h1 h2]
 by_cases hm:l∈J.trail
 ·simp [hm]
 ·rw [if_neg hm]
  by_cases M5: -l∈J.trail
  ·simp [M5]
  ·simp [hm,M5]
theorem Ah0 (lim:List Nat) (p:Nat):lvl lim p<=lim.length:=List.length_filter_le _ _
theorem z7 {lim:List Nat} {p:Nat} (h:∀q∈lim,q<=p):lvl lim p=lim.length:=by
 unfold lvl
 rw [List.filter_eq_self.mpr λq hq=>by simpa using h q hq]
theorem Eb0 {lim:List Nat} {p p':Nat} (h:p<=p'):lvl lim p<=lvl lim p':=by
 unfold lvl
 induction lim with
 | nil=>simp
 | cons q lim ih=>
  rw [List.filter_cons,List.filter_cons]
  by_cases h1:q<=p
  ·rw [if_pos (by simpa using h1),if_pos (by simp;exact o10 h1 h)];simp;exact ih
  ·rw [if_neg (by simpa using h1)]
   split
   ·simp;exact o181 ih
   ·exact ih
theorem Base.assign (B:Base J) {l r:Int} (h1:1<=l.natAbs) (h2:l.natAbs<=J.n) (h3:J.value l=0):Base (J.assign l r):=by
 refine B7 ((B.uu h1 h2).mp h3) λu1 u2=>?_
 have hnew:l.natAbs∉vars J.trail:=by
  intro h
  exists C1 (List.mem_map.mp h) λx B3=>B7 B3 λhx e=>B5 ?_
  rcases Q4 e with rfl | rfl
  ·exact u1 hx
  ·exact u2 hx
 refine ⟨λx hx=>?_,?_,λv hv1 hv2=>?_,B.inc,λq hq=>?_,λp x hx=>?_,B.pha⟩
 ·rcases List.mem_append.mp (show x∈J.trail++[l] from hx) with h | h
  ·exact B.lit x h
  ·simp at h;subst h;exact ⟨h1,h2⟩
 ·show (vars (J.trail++[l])).Nodup
  unfold vars
  rw [List.map_append,List.nodup_append]
  refine ⟨B.nd,by simp,λa ha b hb e=>?_⟩
  simp at hb;subst hb;subst e;exact hnew ha
 ·show upd J.val l.natAbs (if 0<l then 1 else -1) v=if (v:Int)∈J.trail++[l] then 1 else if -(v:Int)∈J.trail++[l] then -1 else 0
  unfold upd
  have hm:∀x:Int,x∈J.trail++[l]↔x∈J.trail\/x=l:=λx=>by simp
  by_cases hvl:v=l.natAbs
  ·rw [if_pos hvl]
   by_cases hp:0<l
   ·rw [if_pos hp,if_pos ((hm _).mpr (.inr (o182 hp hvl)))]
   ·rw [if_neg hp,if_neg (λh=>?_),if_pos ((hm _).mpr (.inr (o183 hvl hp)))]
    rcases (hm _).mp h with h | h
    ·rw [show ((v:Nat):Int) = -l by exact o184 hvl hp] at h;exact u2 h
    ·exact o185 h1 h hp
  ·rw [if_neg hvl,B.val v hv1 hv2]
   have e1:((v:Int)∈J.trail++[l])↔(v:Int)∈J.trail:=by
    rw [hm];exact ⟨λh=>h.resolve_right (o186 hvl),.inl⟩
   have e2:(-(v:Int)∈J.trail++[l]) ↔ -(v:Int)∈J.trail:=by
    rw [hm];exact ⟨λh=>h.resolve_right (o187 hvl),.inl⟩
   simp only [e1,e2]
 ·have:=B.lt q hq
  show q<(J.trail++[l]).length
  rw [List.length_append];simp;exact o92 this
 ·have hx':(J.trail++[l])[p]? = some x:=hx
  show P6 J.lev l.natAbs J.lim.length x.natAbs=lvl J.lim p
  unfold P6
  by_cases hp:p<J.trail.length
  ·rw [List.getElem?_append_left hp] at hx'
   have hxm:x∈J.trail:=List.mem_of_getElem? hx'
   rw [if_neg λe=>hnew (by rw [<-e];exact List.mem_map_of_mem hxm)]
   exact B.lev p x hx'
  ·rw [List.getElem?_append_right (o71 hp)] at hx'
   have hpe:p=J.trail.length:=by
    have:=(List.getElem?_eq_some_iff.mp hx').1
    simp at this;exact o188 this hp
   subst hpe
   simp at hx';subst hx'
   rw [if_pos rfl,z7 λq hq=>Nat.le_of_lt (B.lt q hq)]
theorem Base.push (B:Base J) (h:∀q∈J.lim,q<J.trail.length) {l:Int} (h1:1<=l.natAbs) (h2:l.natAbs<=J.n) (h3:J.value l=0):Base (J.decide l):=by
 refine B7 ((B.uu h1 h2).mp h3) λu1 u2=>?_
 have hnew:l.natAbs∉vars J.trail:=by
  intro h
  exists C1 (List.mem_map.mp h) λx B3=>B7 B3 λhx e=>B5 ?_
  rcases Q4 e with rfl | rfl
  ·exact u1 hx
  ·exact u2 hx
 have A:=B.assign (r:= -1) h1 h2 h3
 refine ⟨A.lit,A.nd,A.val,?_,λq hq=>?_,λp x hx=>?_,A.pha⟩
 ·show (J.lim++[J.trail.length]).Pairwise (· < ·)
  rw [List.pairwise_append]
  exact ⟨B.inc,by simp,λa ha b hb=>by simp at hb;subst hb;exact h a ha⟩
 ·show q<(J.trail++[l]).length
  rw [List.length_append]
  rcases List.mem_append.mp (show q∈J.lim++[J.trail.length] from hq) with hq | hq
  ·have:=h q hq;simp;exact o92 this
  ·simp at hq;subst hq;simp
 ·have hx':(J.trail++[l])[p]? = some x:=hx
  show P6 J.lev l.natAbs (J.lim++[J.trail.length]).length x.natAbs=lvl (J.lim++[J.trail.length]) p
  unfold P6
  by_cases hp:p<J.trail.length
  ·rw [List.getElem?_append_left hp] at hx'
   have hxm:x∈J.trail:=List.mem_of_getElem? hx'
   rw [if_neg λe=>hnew (by rw [<-e];exact List.mem_map_of_mem hxm),B.lev p x hx']
   unfold lvl
   rw [List.filter_append,List.length_append]
   have:(List.filter (λq=>decide (q<=p)) [J.trail.length])=[]:=by simp;exact o8 hp
   rw [this];simp
  ·rw [List.getElem?_append_right (o71 hp)] at hx'
   have hpe:p=J.trail.length:=by
    have:=(List.getElem?_eq_some_iff.mp hx').1
    simp at this;exact o188 this hp
   subst hpe
   simp at hx';subst hx'
   rw [if_pos rfl,z7]
   intro q hq
   rcases List.mem_append.mp hq with hq | hq
   ·exact Nat.le_of_lt (h q hq)
   ·simp at hq;exact o189 hq
theorem Base.cancel (B:Base J) {L q:Nat} (hq:J.lim[L]? = some q):Base {J.cut q with lim:=J.lim.take L,head:=q}:=by
 have hqm:q∈J.lim:=List.mem_of_getElem? hq
 have hql:=B.lt q hqm
 have hL:=(List.getElem?_eq_some_iff.mp hq).1
 have hsplit:J.trail=J.trail.take q++J.trail.drop q:=(List.take_append_drop q J.trail).symm
 have hlen:(J.trail.take q).length=q:=by rw [List.length_take];exact o190 hql
 have mem:∀x:Int,x∈J.trail↔x∈J.trail.take q\/x∈J.trail.drop q:=λx=>by rw [<-List.mem_append,<-hsplit]
 have dis:∀x∈J.trail.take q,∀y∈J.trail.drop q,x.natAbs≠y.natAbs:=by
  have h:=B.nd
  rw [hsplit] at h
  unfold vars at h
  rw [List.map_append,List.nodup_append] at h
  exact λx hx y hy e=>h.2.2 _ (List.mem_map_of_mem hx) _ (List.mem_map_of_mem hy) e
 have hlt:∀q'∈J.lim.take L,q'<q:=by
  intro q' hq'
  obtain ⟨i,hi,e⟩:=List.mem_iff_getElem.mp hq'
  rw [List.length_take] at hi
  rw [List.getElem_take] at e
  have:=List.pairwise_iff_getElem.mp B.inc i L (o191 hi) hL (o192 hi)
  rw [e,(List.getElem?_eq_some_iff.mp hq).2] at this
  exact this
 have hge:∀q'∈J.lim.drop L,q<=q':=by
  intro q' hq'
  obtain ⟨i,hi,e⟩:=List.mem_iff_getElem.mp hq'
  rw [List.length_drop] at hi
  rw [List.getElem_drop] at e
  rcases Nat.eq_zero_or_pos i with hz | hz
  ·subst hz
   simp only [Nat.add_zero] at e
   rw [<-e,(List.getElem?_eq_some_iff.mp hq).2];exact Nat.le_refl _
  ·have:=List.pairwise_iff_getElem.mp B.inc L (L+i) hL (o193 hi) (o194 hz)
   rw [e,(List.getElem?_eq_some_iff.mp hq).2] at this
   exact Nat.le_of_lt this
 refine ⟨λl hl=>B.lit l ((mem l).mpr (.inl hl)),?_,λv h1 h2=>?_,B.inc.sublist (List.take_sublist _ _),λq' hq'=>?_,λp l hp=>?_,λv h1 h2=>?_⟩
 ·show (vars (J.trail.take q)).Nodup
  have:=B.nd
  unfold vars at this ⊢
  rw [List.map_take]
  exact this.sublist (List.take_sublist _ _)
 ·show (if v∈vars (J.trail.drop q) then 0 else J.val v)=if (v:Int)∈J.trail.take q then 1 else if -(v:Int)∈J.trail.take q then -1 else 0
  by_cases hd:v∈vars (J.trail.drop q)
  ·exists C1 (List.mem_map.mp hd) λy B3=>B7 B3 λhy e=>B5 ?_
   rw [if_pos hd,if_neg λh=>dis _ h y hy (o195 e),if_neg λh=>dis _ h y hy (o196 e)]
  ·have n1:(v:Int)∉J.trail.drop q:=λh=>hd (List.mem_map.mpr ⟨_,h,o197⟩)
   have n2: -(v:Int)∉J.trail.drop q:=λh=>hd (List.mem_map.mpr ⟨_,h,o198⟩)
   rw [if_neg hd,B.val v h1 h2]
   have e1:(v:Int)∈J.trail↔(v:Int)∈J.trail.take q:=by rw [mem];exact ⟨λh=>h.resolve_right n1,.inl⟩
   have e2: -(v:Int)∈J.trail ↔ -(v:Int)∈J.trail.take q:=by rw [mem];exact ⟨λh=>h.resolve_right n2,.inl⟩
   simp only [e1,e2]
 ·show q'<(J.trail.take q).length
  rw [hlen];exact hlt q' hq'
 ·have hp':(J.trail.take q)[p]? = some l:=hp
  rw [List.getElem?_take] at hp'
  split at hp'
  ·rename_i hpq
   show J.lev l.natAbs=lvl (J.lim.take L) p
   rw [B.lev p l hp']
   unfold lvl
   have hs:J.lim=J.lim.take L++J.lim.drop L:=(List.take_append_drop L J.lim).symm
   have hz:(J.lim.drop L).filter (λq=>decide (q<=p))=[]:=by
    rw [List.filter_eq_nil_iff]
    intro q' hq'
    have:=hge q' hq'
    simp;exact o164 hpq this
   calc ((J.lim.filter λq=>decide (q<=p)).length)=(((J.lim.take L++J.lim.drop L).filter λq=>decide (q<=p)).length):=by rw [<-hs]
    _=_:=by rw [List.filter_append,hz,List.append_nil]
  ·cases hp'
 ·show (if v∈vars (J.trail.drop q) then J.val v else J.pha v)=1\/(if v∈vars (J.trail.drop q) then J.val v else J.pha v) = -1
  by_cases hd:v∈vars (J.trail.drop q)
  ·rw [if_pos hd]
   exists C1 (List.mem_map.mp hd) λy B3=>B7 B3 λhy e=>B5 ?_
   have hym:y∈J.trail:=(mem y).mpr (.inr hy)
   rw [B.val v h1 h2]
   by_cases h3:(v:Int)∈J.trail
   ·rw [if_pos h3];exact .inl rfl
   ·rw [if_neg h3]
    have: -(v:Int)∈J.trail:=by
     rcases (o199 e:y=v\/y = -(v:Int)) with h | h
     ·exact absurd (h▸hym) h3
     ·exact h▸hym
    rw [if_pos this];exact .inr rfl
  ·rw [if_neg hd];exact B.pha v h1 h2
end
structure Dbx (M:(Nat->Bool)->Prop) (J:Sg):Prop where
 ok:∀i,i<J.m->∃a b r,J.cls i=a::b::r
 lits:∀i,i<J.m->∀l∈J.cls i,1<=l.natAbs/\l.natAbs<=J.n
 nd:∀i,i<J.m->(vars (J.cls i)).Nodup
 ent:∀i,i<J.m->∀α,M α->S0 α (J.cls i)
structure Wx (m:Nat) (cls:Nat->List Int) (rows:Nat->List Nat):Prop where
 ex:∀i,i<m->∀a b r,cls i=a::b::r->∀s,i∈rows s↔s=B8 a\/s=B8 b
 nd:∀s,(rows s).Nodup
 lt:∀s,∀i∈rows s,i<m
def Reas (J:Sg):Prop:=∀p l,J.trail[p]? = some l ->
 (∃i:Nat,J.rea l.natAbs=i/\i<J.m/\l∈J.cls i/\∀u∈J.cls i,u≠l -> -u∈J.trail.take p)\/(J.rea l.natAbs = -1/\(p∈J.lim\/∀q∈J.lim,p<q))
def Vx (J:Sg) (h:Nat):Prop:=∀i,i<J.m->∀a b r,J.cls i=a::b::r ->
 (-a∈J.trail.take h->b∈J.trail/\J.lev b.natAbs<=J.lev a.natAbs)/\(-b∈J.trail.take h->a∈J.trail/\J.lev a.natAbs<=J.lev b.natAbs)
def L0 (M:(Nat->Bool)->Prop) (J:Sg):Prop:=∀l∈J.trail,J.lev l.natAbs=0->∀α,M α->N6 α l
theorem Q7 {a b:Int} (ha:1<=a.natAbs) (hb:1<=b.natAbs) (h:B8 a=B8 b):a=b:=by
 unfold B8 at h
 split at h <;> split at h <;> (first | exact o200 h ‹_› ‹_› | exact o201 h | exact o202 h | exact o203 h ‹_› ‹_›)
theorem Dc4 {α:Nat->Bool} {c d:List Int} (h:∀l,l∈c↔l∈d):S0 α c↔S0 α d:=
 ⟨λ⟨l,h1,h2⟩=>⟨l,(h l).mp h1,h2⟩,λ⟨l,h1,h2⟩=>⟨l,(h l).mpr h1,h2⟩⟩
section
variable {J:Sg} {M:(Nat->Bool)->Prop}
theorem Dbx.perm (D:Dbx M J) {i:Nat} {c:List Int} (hp:(J.cls i).Perm c) (h2:∃a b r,c=a::b::r):Dbx M (J.wC (D4 J.cls i c)):=by
 refine ⟨λj hj=>?_,λj hj l hl=>?_,λj hj=>?_,λj hj α hα=>?_⟩
 ·show ∃a b r,D4 J.cls i c j=_
  unfold D4
  split
  ·exact h2
  ·exact D.ok j hj
 ·have hl':l∈D4 J.cls i c j:=hl
  unfold D4 at hl'
  split at hl'
  ·rename_i e;subst e
   exact D.lits j hj l (hp.mem_iff.mpr hl')
  ·exact D.lits j hj l hl'
 ·show (vars (D4 J.cls i c j)).Nodup
  unfold D4
  split
  ·rename_i e;subst e
   exact ((hp.map Int.natAbs).nodup_iff).mp (D.nd j hj)
  ·exact D.nd j hj
 ·show S0 α (D4 J.cls i c j)
  unfold D4
  split
  ·rename_i e;subst e
   exact (Dc4 λl=>hp.mem_iff).mp (D.ent j hj α hα)
  ·exact D.ent j hj α hα
theorem Reas.perm (R:Reas J) {i:Nat} {c:List Int} (hp:(J.cls i).Perm c) {rows:Nat->List Nat}:Reas {J with cls:=D4 J.cls i c,rows:=rows}:=by
 intro p l hl
 rcases R p l hl with q_ | h
 ·exists C1 q_ λj B3=>R7 B3 λh1 h2 h3 h4=>B5 ?_
  clear q_
  refine .inl ⟨j,h1,h2,?_,λu hu hne=>?_⟩
  ·show l∈D4 J.cls i c j
   unfold D4
   split
   ·rename_i e;subst e;exact hp.mem_iff.mp h3
   ·exact h3
  ·have hu':u∈D4 J.cls i c j:=hu
   unfold D4 at hu'
   split at hu'
   ·rename_i e;subst e;exact h4 u (hp.mem_iff.mpr hu') hne
   ·exact h4 u hu' hne
 ·exact .inr h
theorem J3 {xs ys:List Int} {h:Nat} (hh:h<=xs.length):(xs++ys).take h=xs.take h:=by
 rw [List.take_append_of_le_length hh]
theorem Base.assign_lev (B:Base J) {l r:Int} (h1:1<=l.natAbs) (h2:l.natAbs<=J.n) (h3:J.value l=0) {x:Int} (hx:x∈J.trail):(J.assign l r).lev x.natAbs=J.lev x.natAbs:=by
 refine B7 ((B.uu h1 h2).mp h3) λu1 u2=>?_
 show P6 J.lev l.natAbs J.lim.length x.natAbs=_
 unfold P6
 rw [if_neg λe=>?_]
 rcases Q4 e with rfl | rfl
 ·exact u1 hx
 ·exact u2 hx
theorem Base.assign_rea (B:Base J) {l r:Int} (h1:1<=l.natAbs) (h2:l.natAbs<=J.n) (h3:J.value l=0) {x:Int} (hx:x∈J.trail):(J.assign l r).rea x.natAbs=J.rea x.natAbs:=by
 refine B7 ((B.uu h1 h2).mp h3) λu1 u2=>?_
 show upd J.rea l.natAbs r x.natAbs=_
 unfold upd
 rw [if_neg λe=>?_]
 rcases Q4 e with rfl | rfl
 ·exact u1 hx
 ·exact u2 hx
theorem Reas.assign (B:Base J) (R:Reas J) {l:Int} (h1:1<=l.natAbs) (h2:l.natAbs<=J.n) (h3:J.value l=0) {i:Nat} (hi:i<J.m) (hl:l∈J.cls i) (hf:∀u∈J.cls i,u≠l -> -u∈J.trail):Reas (J.assign l i):=by
 intro p x hx
 have hx':(J.trail++[l])[p]? = some x:=hx
 by_cases hp:p<J.trail.length
 ·rw [List.getElem?_append_left hp] at hx'
  have hxm:=List.mem_of_getElem? hx'
  rw [B.assign_rea h1 h2 h3 hxm]
  rcases R p x hx' with q_ | h
  ·exists C1 q_ λj B3=>R7 B3 λa1 a2 a3 a4=>B5 ?_
   clear q_
   refine .inl ⟨j,a1,a2,a3,λu hu hne=>?_⟩
   show -u∈(J.trail++[l]).take p
   rw [J3 (Nat.le_of_lt hp)];exact a4 u hu hne
  ·exact .inr h
 ·rw [List.getElem?_append_right (o71 hp)] at hx'
  have hpe:p=J.trail.length:=by
   have:=(List.getElem?_eq_some_iff.mp hx').1
   simp at this;exact o188 this hp
  subst hpe
  simp at hx';subst hx'
  refine .inl ⟨i,?_,hi,hl,λu hu hne=>?_⟩
  ·show upd J.rea l.natAbs i l.natAbs=_
   unfold upd;rw [if_pos rfl]
  ·show -u∈(J.trail++[l]).take J.trail.length
   rw [List.take_left];exact hf u hu hne
theorem Vx.assign (B:Base J) {h:Nat} (hh:h<=J.trail.length) (W:Vx J h) {l r:Int} (h1:1<=l.natAbs) (h2:l.natAbs<=J.n) (h3:J.value l=0):Vx (J.assign l r) h:=by
 intro i hi a b c e
 refine B7 (W i hi a b c e) λw1 w2=>?_
 have key:∀x y:Int,(-x∈J.trail.take h->y∈J.trail/\J.lev y.natAbs<=J.lev x.natAbs) -> -x∈(J.trail++[l]).take h->y∈J.trail++[l]/\(J.assign l r).lev y.natAbs<=(J.assign l r).lev x.natAbs:=by
  intro x y w hx
  rw [J3 hh] at hx
  refine B7 (w hx) λy1 y2=>?_
  have hxm: -x∈J.trail:=List.mem_of_mem_take hx
  have ex:=B.assign_lev (r:=r) h1 h2 h3 hxm
  rw [Int.natAbs_neg] at ex
  rw [B.assign_lev h1 h2 h3 y1,ex]
  exact ⟨List.mem_append_left _ y1,y2⟩
 exact ⟨key a b w1,key b a w2⟩
end
theorem i1 {α:Nat->Bool} {u:Int} (h:1<=u.natAbs):N6 α (-u)↔¬N6 α u:=by
 unfold N6
 rw [Int.natAbs_neg]
 have e:decide (0 < -u) = !decide (0<u):=by
  by_cases hu:0<u
  ·rw [decide_eq_true hu,decide_eq_false (o204 hu)];rfl
  ·rw [decide_eq_false hu,decide_eq_true (o205 h hu)];rfl
 rw [e]
 cases α u.natAbs <;> cases decide (0<u) <;> simp
structure Pi (M:(Nat->Bool)->Prop) (J:Sg) (p:Nat) (fl:Int) (kept rest:List Nat) (cf:Option Nat):Prop where
 B:Base J
 D:Dbx M J
 R:Reas J
 Z:L0 M J
 at_:J.trail[p]? = some (-fl)
 top:∀q∈J.lim,q<=p
 W:Wx J.m J.cls (setRow J.rows (B8 fl) (kept++rest))
 V:Vx J p
 K:cf=none->∀i∈kept,∀a b r,J.cls i=a::b::r->(a=fl->b∈J.trail)/\(b=fl->a∈J.trail)
 C:∀c,cf=some c->c<J.m/\∀u∈J.cls c,-u∈J.trail
section
variable {M:(Nat->Bool)->Prop} {J:Sg} {p:Nat} {fl:Int} {kept rest:List Nat} {cf:Option Nat} {i:Nat}
theorem Pi.fln (P:Pi M J p fl kept rest cf):1<=fl.natAbs/\fl.natAbs<=J.n /\ -fl∈J.trail:=by
 have hm:=List.mem_of_getElem? P.at_
 have:=P.B.lit _ hm
 rw [Int.natAbs_neg] at this
 exact ⟨this.1,this.2,hm⟩
theorem Pi.in_ (P:Pi M J p fl kept (i::rest) cf):i<J.m/\i∉kept/\i∉rest:=by
 have h1:setRow J.rows (B8 fl) (kept++i::rest) (B8 fl)=kept++i::rest:=by unfold setRow;rw [if_pos rfl]
 have hm:i∈setRow J.rows (B8 fl) (kept++i::rest) (B8 fl):=by rw [h1];simp
 have hn:=P.W.nd (B8 fl)
 rw [h1,List.nodup_append] at hn
 refine ⟨P.W.lt _ i hm,λh=>hn.2.2 i h i (by simp) rfl,?_⟩
 have:=hn.2.1
 rw [List.nodup_cons] at this
 exact this.1
theorem Pi.watch (P:Pi M J p fl kept (i::rest) cf) {a b:Int} {r:List Int} (hc:J.cls i=a::b::r):a=fl\/b=fl:=by
 have h1:setRow J.rows (B8 fl) (kept++i::rest) (B8 fl)=kept++i::rest:=by unfold setRow;rw [if_pos rfl]
 have hm:i∈setRow J.rows (B8 fl) (kept++i::rest) (B8 fl):=by rw [h1];simp
 have ha:=P.D.lits i P.in_.1 a (by rw [hc];simp)
 have hb:=P.D.lits i P.in_.1 b (by rw [hc];simp)
 have hf:=P.fln
 rcases (P.W.ex i P.in_.1 a b r hc (B8 fl)).mp hm with h | h
 ·exact .inl (Q7 ha.1 hf.1 h.symm)
 ·exact .inr (Q7 hb.1 hf.1 h.symm)
theorem Pi.skip {c:Nat} (P:Pi M J p fl kept (i::rest) (some c)):Pi M J p fl (kept++[i]) rest (some c):=by
 refine ⟨P.B,P.D,P.R,P.Z,P.at_,P.top,?_,P.V,(λh=>nomatch h),P.C⟩
 rw [List.append_assoc];exact P.W
theorem Pi.swap (P:Pi M J p fl kept rest cf) (hi:i<J.m) {a b:Int} {r:List Int} (hc:J.cls i=a::b::r):Pi M (J.wC (D4 J.cls i (b::a::r))) p fl kept rest cf:=by
 have hp:(J.cls i).Perm (b::a::r):=by rw [hc];exact List.Perm.swap b a r
 have cases_:∀j a' b' r',D4 J.cls i (b::a::r) j=a'::b'::r'->J.cls j=a'::b'::r'\/J.cls j=b'::a'::r':=by
  intro j a' b' r' e
  unfold D4 at e
  split at e
  ·rename_i h;subst h;cases e;exact .inr hc
  ·exact .inl e
 refine ⟨⟨P.B.lit,P.B.nd,P.B.val,P.B.inc,P.B.lt,P.B.lev,P.B.pha⟩,P.D.perm hp ⟨_,_,_,rfl⟩,P.R.perm hp,P.Z,P.at_,P.top,⟨λj hj a' b' r' e s=>?_,P.W.nd,P.W.lt⟩,λj hj a' b' r' e=>?_,λh j hj a' b' r' e=>?_,λc hcf=>?_⟩
 ·rcases cases_ j a' b' r' e with h | h
  ·exact P.W.ex j hj _ _ _ h s
  ·exact (P.W.ex j hj _ _ _ h s).trans Or.comm
 ·rcases cases_ j a' b' r' e with h | h
  ·exact P.V j hj _ _ _ h
  ·exact (P.V j hj _ _ _ h).symm
 ·rcases cases_ j a' b' r' e with h1 | h1
  ·exact P.K h j hj _ _ _ h1
  ·exact (P.K h j hj _ _ _ h1).symm
 ·refine B7 (P.C c hcf) λh1 h2=>?_
  refine ⟨h1,λu hu=>?_⟩
  have hu':u∈D4 J.cls i (b::a::r) c:=hu
  unfold D4 at hu'
  split at hu'
  ·rename_i h;subst h;exact h2 u (hp.mem_iff.mpr hu')
  ·exact h2 u hu'
theorem Pi.keepTrue (P:Pi M J p fl kept (i::rest) none) {x:Int} {r:List Int} (hc:J.cls i=x::fl::r) (hx:x∈J.trail):Pi M J p fl (kept++[i]) rest none:=by
 have hne:x≠fl:=by
  rintro rfl
  have:=P.D.nd i P.in_.1
  rw [hc] at this
  simp [vars] at this
 refine ⟨P.B,P.D,P.R,P.Z,P.at_,P.top,by rw [List.append_assoc];exact P.W,P.V,λ_ j hj a b r' e=>?_,λc h=>nomatch h⟩
 rcases List.mem_append.mp hj with h | h
 ·exact P.K rfl j h a b r' e
 ·simp at h;subst h
  rw [hc] at e;cases e
  exact ⟨λh=>absurd h hne,λ_=>hx⟩
theorem Pi.keepConf (P:Pi M J p fl kept (i::rest) none) {x:Int} {r:List Int} (hc:J.cls i=x::fl::r) (hx: -x∈J.trail) (hr:∀u∈r,-u∈J.trail):Pi M J p fl (kept++[i]) rest (some i):=by
 refine ⟨P.B,P.D,P.R,P.Z,P.at_,P.top,by rw [List.append_assoc];exact P.W,P.V,(λh=>nomatch h),λc h=>?_⟩
 cases h
 refine ⟨P.in_.1,λu hu=>?_⟩
 rw [hc] at hu
 rcases List.mem_cons.mp hu with rfl | hu
 ·exact hx
 rcases List.mem_cons.mp hu with rfl | hu
 ·exact P.fln.2.2
 ·exact hr u hu
theorem L0.assign (B:Base J) (D:Dbx M J) (Z:L0 M J) {l:Int} (h1:1<=l.natAbs) (h2:l.natAbs<=J.n) (h3:J.value l=0) (hi:i<J.m) (hl:l∈J.cls i) (hf:∀u∈J.cls i,u≠l -> -u∈J.trail):L0 M (J.assign l i):=by
 intro x hx hlev α hα
 rcases List.mem_append.mp (show x∈J.trail++[l] from hx) with h | h
 ·rw [B.assign_lev h1 h2 h3 h] at hlev
  exact Z x h hlev α hα
 ·simp at h;subst h
  have hl0:J.lim.length=0:=by
   have:(J.assign x i).lev x.natAbs=J.lim.length:=by
    show P6 J.lev x.natAbs J.lim.length x.natAbs=_
    unfold P6;rw [if_pos rfl]
   rw [this] at hlev;exact hlev
  exists C1 (D.ent i hi α hα) λu B3=>B7 B3 λhu hs=>B5 ?_
  by_cases hux:u=x
  ·rw [<-hux];exact hs
  ·have hm:=hf u hu hux
   refine C1 (List.getElem?_of_mem hm) λq hq=>?_
   have hlv:=B.lev q (-u) hq
   have:lvl J.lim q=0:=by
    have:=Ah0 J.lim q
    exact o206 this hl0
   rw [this] at hlv
   have:=Z (-u) hm hlv α hα
   exact absurd hs ((i1 (D.lits i hi u hu).1).mp this)
theorem Pi.keepAssign (P:Pi M J p fl kept (i::rest) none) {x:Int} {r:List Int} (hc:J.cls i=x::fl::r) (hx:J.value x=0) (hr:∀u∈r,-u∈J.trail):Pi M (J.assign x i) p fl (kept++[i]) rest none:=by
 have hi:=P.in_.1
 obtain ⟨x1,x2⟩:=P.D.lits i hi x (by rw [hc];simp)
 have hp:p<J.trail.length:=(List.getElem?_eq_some_iff.mp P.at_).1
 have hf:∀u∈J.cls i,u≠x -> -u∈J.trail:=by
  intro u hu hne
  rw [hc] at hu
  rcases List.mem_cons.mp hu with rfl | hu
  ·exact absurd rfl hne
  rcases List.mem_cons.mp hu with rfl | hu
  ·exact P.fln.2.2
  ·exact hr u hu
 have hxi:x∈J.cls i:=by rw [hc];simp
 have hne:x≠fl:=by
  rintro rfl
  have:=P.D.nd i hi
  rw [hc] at this
  simp [vars] at this
 refine ⟨P.B.assign x1 x2 hx,⟨P.D.ok,P.D.lits,P.D.nd,P.D.ent⟩,P.R.assign P.B x1 x2 hx hi hxi hf,P.Z.assign P.B P.D x1 x2 hx hi hxi hf,?_,P.top,by rw [List.append_assoc];exact P.W,P.V.assign P.B (Nat.le_of_lt hp) x1 x2 hx,
  λ_ j hj a b r' e=>?_,λc h=>nomatch h⟩
 ·show (J.trail++[x])[p]? = _
  rw [List.getElem?_append_left hp];exact P.at_
 ·rcases List.mem_append.mp hj with h | h
  ·refine B7 (P.K rfl j h a b r' e) λw1 w2=>?_
   exact ⟨λh=>List.mem_append_left _ (w1 h),λh=>List.mem_append_left _ (w2 h)⟩
  ·simp at h;subst h
   have e':J.cls j=a::b::r':=e
   rw [hc] at e';cases e'
   exact ⟨λh=>absurd h hne,λ_=>by show x∈J.trail++[x];simp⟩
theorem Af0 {r:List Int} {q:Nat} {u:Int} (h:r[q]? = some u) (x:Int):(x::r).Perm (u::r.set q x):=by
 induction r generalizing q with
 | nil=>simp at h
 | cons y r ih=>
  cases q with
  | zero=>simp at h;subst h;exact List.Perm.swap y x r
  | succ q=>
   simp at h
   have:=ih h
   exact (List.Perm.swap y x r).trans ((this.cons y).trans (List.Perm.swap u y _))
theorem Pi.move (P:Pi M J p fl kept (i::rest) none) {x u:Int} {r:List Int} {q:Nat} (hc:J.cls i=x::fl::r) (hu:r[q]? = some u) (hv:0<=J.value u):
  Pi M {J with cls:=D4 J.cls i (x::u::r.set q fl),rows:=G4 J.rows (B8 u) i} p fl kept rest none:=by
 refine E6 P.in_ λhi hik hir=>?_
 have hum:u∈r:=List.mem_of_getElem? hu
 have hui:u∈J.cls i:=by rw [hc];simp [hum]
 refine B7 (P.D.lits i hi u hui) λu1 u2=>?_
 obtain ⟨x1,x2⟩:=P.D.lits i hi x (by rw [hc];simp)
 refine E6 P.fln λf1 f2 f3=>?_
 have hnd:=P.D.nd i hi
 rw [hc] at hnd
 have hnd':(x.natAbs≠fl.natAbs/\x.natAbs∉vars r)/\fl.natAbs∉vars r:=by
  unfold vars at hnd ⊢
  simp only [List.map_cons,List.nodup_cons,List.mem_cons,not_or] at hnd
  exact ⟨⟨hnd.1.1,hnd.1.2⟩,hnd.2.1⟩
 have hxf:x≠fl:=λe=>hnd'.1.1 (by rw [e])
 have huf:u≠fl:=λe=>hnd'.2 (by rw [<-e];exact List.mem_map_of_mem hum)
 have hux:u≠x:=λe=>hnd'.1.2 (by rw [<-e];exact List.mem_map_of_mem hum)
 have sxf:B8 x≠B8 fl:=λe=>hxf (Q7 x1 f1 e)
 have suf:B8 u≠B8 fl:=λe=>huf (Q7 u1 f1 e)
 have sux:B8 u≠B8 x:=λe=>hux (Q7 u1 x1 e)
 have hp:(J.cls i).Perm (x::u::r.set q fl):=by rw [hc];exact (Af0 hu fl).cons x
 have row0:setRow J.rows (B8 fl) (kept++i::rest) (B8 fl)=kept++i::rest:=by unfold setRow;rw [if_pos rfl]
 have W8:∀s,s≠B8 fl->setRow J.rows (B8 fl) (kept++i::rest) s=J.rows s:=λs hs=>by unfold setRow;rw [if_neg hs]
 have new0:setRow (G4 J.rows (B8 u) i) (B8 fl) (kept++rest) (B8 fl)=kept++rest:=by unfold setRow;rw [if_pos rfl]
 have newU:setRow (G4 J.rows (B8 u) i) (B8 fl) (kept++rest) (B8 u)=J.rows (B8 u)++[i]:=by unfold setRow G4;rw [if_neg suf,if_pos rfl]
 have newN:∀s,s≠B8 fl->s≠B8 u->setRow (G4 J.rows (B8 u) i) (B8 fl) (kept++rest) s=J.rows s:=λs h1 h2=>by unfold setRow G4;rw [if_neg h1,if_neg h2]
 have other:∀j,j≠i->D4 J.cls i (x::u::r.set q fl) j=J.cls j:=λj hj=>by unfold D4;rw [if_neg hj]
 have atI:D4 J.cls i (x::u::r.set q fl) i=x::u::r.set q fl:=Af2 _ _ _
 refine ⟨⟨P.B.lit,P.B.nd,P.B.val,P.B.inc,P.B.lt,P.B.lev,P.B.pha⟩,?_,P.R.perm hp,P.Z,P.at_,P.top,⟨λj hj a b r' e s=>?_,λs=>?_,λs j hj=>?_⟩,λj hj a b r' e=>?_,λ_ j hj a b r' e=>?_,λc h=>nomatch h⟩
 ·have D':=P.D.perm hp ⟨_,_,_,rfl⟩
  exact ⟨D'.ok,D'.lits,D'.nd,D'.ent⟩
 ·have e':D4 J.cls i (x::u::r.set q fl) j=a::b::r':=e
  show j∈setRow (G4 J.rows (B8 u) i) (B8 fl) (kept++rest) s↔_
  by_cases hji:j=i
  ·subst hji
   rw [atI] at e';cases e'
   have old:=P.W.ex j hj _ _ _ hc s
   by_cases hs:s=B8 fl
   ·rw [hs,new0]
    constructor
    ·intro h;rcases List.mem_append.mp h with h | h
     ·exact absurd h hik
     ·exact absurd h hir
    ·rintro (h | h)
     ·exact absurd h.symm sxf
     ·exact absurd h.symm suf
   ·by_cases hs2:s=B8 u
    ·rw [hs2,newU];simp
    ·rw [newN s hs hs2]
     rw [W8 s hs] at old
     rw [old]
     exact ⟨λh=>.inl (h.resolve_right hs),λh=>.inl (h.resolve_right hs2)⟩
  ·rw [other j hji] at e'
   rw [<-P.W.ex j hj a b r' e' s]
   by_cases hs:s=B8 fl
   ·rw [hs,new0,row0];simp [hji]
   ·by_cases hs2:s=B8 u
    ·rw [hs2,newU,W8 _ suf];simp [hji]
    ·rw [newN s hs hs2,W8 s hs]
 ·show (setRow (G4 J.rows (B8 u) i) (B8 fl) (kept++rest) s).Nodup
  have hn:=P.W.nd s
  by_cases hs:s=B8 fl
  ·rw [hs,row0] at hn
   rw [hs,new0]
   rw [List.nodup_append] at hn ⊢
   exact ⟨hn.1,(List.nodup_cons.mp hn.2.1).2,λa ha b hb=>hn.2.2 a ha b (List.mem_cons_of_mem _ hb)⟩
  ·by_cases hs2:s=B8 u
   ·rw [W8 s hs] at hn
    rw [hs2,newU,List.nodup_append]
    refine ⟨hs2▸hn,by simp,λa ha b hb e=>?_⟩
    simp at hb;subst hb;subst e
    have old:=(P.W.ex a hi _ _ _ hc (B8 u)).mp (by rw [W8 _ suf];exact ha)
    exact old.elim sux suf
   ·rw [newN s hs hs2];rw [W8 s hs] at hn;exact hn
 ·have hj':j∈setRow (G4 J.rows (B8 u) i) (B8 fl) (kept++rest) s:=hj
  by_cases hs:s=B8 fl
  ·rw [hs,new0] at hj'
   refine P.W.lt (B8 fl) j ?_
   rw [row0]
   rcases List.mem_append.mp hj' with h | h
   ·exact List.mem_append_left _ h
   ·exact List.mem_append_right _ (List.mem_cons_of_mem _ h)
  ·by_cases hs2:s=B8 u
   ·rw [hs2,newU] at hj'
    rcases List.mem_append.mp hj' with h | h
    ·exact P.W.lt (B8 u) j (by rw [W8 _ suf];exact h)
    ·simp at h;subst h;exact hi
   ·rw [newN s hs hs2] at hj'
    exact P.W.lt s j (by rw [W8 s hs];exact hj')
 ·have e':D4 J.cls i (x::u::r.set q fl) j=a::b::r':=e
  by_cases hji:j=i
  ·subst hji
   rw [atI] at e';cases e'
   constructor
   ·intro h
    have:=((P.V j hj _ _ _ hc).1 h).1
    exact absurd f3 (P.B.noNeg this)
   ·intro h
    have:=(P.B.ff u1 u2).mpr (List.mem_of_mem_take h)
    exact o207 hv this
  ·rw [other j hji] at e';exact P.V j hj a b r' e'
 ·have e':D4 J.cls i (x::u::r.set q fl) j=a::b::r':=e
  have hji:j≠i:=by rintro rfl;exact hik hj
  rw [other j hji] at e'
  exact P.K rfl j hj a b r' e'
theorem Pi.done (P:Pi M J p fl kept [] none):Vx J (p+1):=by
 intro j hj a b r e
 have hp:p<J.trail.length:=(List.getElem?_eq_some_iff.mp P.at_).1
 have htake:J.trail.take (p+1)=J.trail.take p++[-fl]:=R9 P.at_
 have hlv:J.lev fl.natAbs=J.lim.length:=by
  have:=P.B.lev p (-fl) P.at_
  rw [Int.natAbs_neg] at this
  rw [this,z7 P.top]
 have le:∀y∈J.trail,J.lev y.natAbs<=J.lev fl.natAbs:=by
  intro y hy
  refine C1 (List.getElem?_of_mem hy) λq hq=>?_
  rw [P.B.lev q y hq,hlv];exact Ah0 _ _
 have row0:setRow J.rows (B8 fl) (kept++[]) (B8 fl)=kept:=by unfold setRow;rw [if_pos rfl,List.append_nil]
 refine B7 (P.V j hj a b r e) λw1 w2=>?_
 constructor
 ·intro h
  rw [htake] at h
  rcases List.mem_append.mp h with h | h
  ·exact w1 h
  ·simp at h
   have haf:a=fl:=o8 h
   have hk:j∈kept:=by rw [<-row0];exact (P.W.ex j hj a b r e (B8 fl)).mpr (.inl (by rw [haf]))
   have:=(P.K rfl j hk a b r e).1 haf
   exact ⟨this,by rw [haf];exact le b this⟩
 ·intro h
  rw [htake] at h
  rcases List.mem_append.mp h with h | h
  ·exact w2 h
  ·simp at h
   have hbf:b=fl:=o8 h
   have hk:j∈kept:=by rw [<-row0];exact (P.W.ex j hj a b r e (B8 fl)).mpr (.inr (by rw [hbf]))
   have:=(P.K rfl j hk a b r e).2 hbf
   exact ⟨this,by rw [hbf];exact le a this⟩
end
structure Ext (J σ':Sg):Prop where
 n:σ'.n=J.n
 m:σ'.m=J.m
 lim:σ'.lim=J.lim
 pha:σ'.pha=J.pha
 step:σ'.step=J.step
 act:σ'.act=J.act
 lrn:σ'.lrn=J.lrn
 refuted:σ'.refuted=J.refuted
 fnd:σ'.fnd=J.fnd
 trail:∃t,σ'.trail=J.trail++t
 cls:∀i,(J.cls i).Perm (σ'.cls i)
theorem Ext.refl {J:Sg}:Ext J J:=⟨rfl,rfl,rfl,rfl,rfl,rfl,rfl,rfl,rfl,⟨[],by simp⟩,λ_=>.refl _⟩
theorem Ext.trans {J σ1 σ2:Sg} (a:Ext J σ1) (b:Ext σ1 σ2):Ext J σ2:=by
 refine C1 a.trail λt ht=>?_
 refine C1 b.trail λt' ht'=>?_
 exact ⟨b.n.trans a.n,b.m.trans a.m,b.lim.trans a.lim,b.pha.trans a.pha,b.step.trans a.step,b.act.trans a.act,b.lrn.trans a.lrn,b.refuted.trans a.refuted,b.fnd.trans a.fnd,⟨t++t',by rw [ht',ht,List.append_assoc]⟩,λi=>(a.cls i).trans (b.cls i)⟩
theorem Ext.assign {J:Sg} (l r:Int):Ext J (J.assign l r):=⟨rfl,rfl,rfl,rfl,rfl,rfl,rfl,rfl,rfl,⟨[l],rfl⟩,λ_=>.refl _⟩
theorem Ext.perm {J:Sg} {i:Nat} {c:List Int} (hp:(J.cls i).Perm c) (rows:Nat->List Nat):Ext J {J with cls:=D4 J.cls i c,rows:=rows}:=by
 refine ⟨rfl,rfl,rfl,rfl,rfl,rfl,rfl,rfl,rfl,⟨[],by simp⟩,λj=>?_⟩
 show (J.cls j).Perm (D4 J.cls i c j)
 unfold D4
 split
 ·rename_i h;subst h;exact hp
 ·exact .refl _
theorem Ext.rowsHead {J:Sg} (rows:Nat->List Nat) (h:Nat):Ext J {J with rows:=rows,head:=h}:=⟨rfl,rfl,rfl,rfl,rfl,rfl,rfl,rfl,rfl,⟨[],by simp⟩,λ_=>.refl _⟩
structure Inv (M:(Nat->Bool)->Prop) (J:Sg):Prop where
 B:Base J
 D:Dbx M J
 R:Reas J
 Z:L0 M J
 W:Wx J.m J.cls J.rows
 V:Vx J J.head
 hd:J.head<=J.trail.length
 top:∀q∈J.lim,q<=J.head
structure Cfl (M:(Nat->Bool)->Prop) (J:Sg) (c:Nat):Prop where
 B:Base J
 D:Dbx M J
 R:Reas J
 Z:L0 M J
 W:Wx J.m J.cls J.rows
 V:∃p,(∀q∈J.lim,q<=p)/\p<J.trail.length/\Vx J p
 lt:c<J.m
 no:∀u∈J.cls c,-u∈J.trail
theorem Bc3:∀{xs ys:List Nat},xs.Nodup->(∀x∈xs,x∈ys)->xs.length<=ys.length
 | [],ys,_,_=>Nat.zero_le _
 | x::xs,ys,hn,h=>by
  rw [List.nodup_cons] at hn
  have hx:=h x List.mem_cons_self
  have:=Bc3 (xs:=xs) (ys:=ys.erase x) hn.2 λy hy=>(List.mem_erase_of_ne (by rintro rfl;exact hn.1 hy)).mpr (h y (List.mem_cons_of_mem _ hy))
  rw [List.length_erase_of_mem hx] at this
  have hp:0<ys.length:=List.length_pos_of_mem hx
  simp;exact o208 hp this
theorem s4 {xs:List Nat} {n:Nat} (hn:xs.Nodup) (h:∀x∈xs,x<n):xs.length<=n:=by
 have:=Bc3 hn (ys:=List.range n) λx hx=>List.mem_range.mpr (h x hx)
 simpa using this
theorem Y8 {xs:List Int} {n:Nat} (hn:(vars xs).Nodup) (h:∀l∈xs,1<=l.natAbs/\l.natAbs<=n):xs.length<=n:=by
 have:=Bc3 hn (ys:=(List.range n).map (· + 1)) λv hv=>by
  exists C1 (List.mem_map.mp hv) λx B3=>B7 B3 λhx C'=>B5 ?_
  subst C'
  have:=h x hx
  exact List.mem_map.mpr ⟨x.natAbs-1,List.mem_range.mpr (o209 this),o210 this⟩
 simpa [vars] using this
theorem lim_le {lim:List Nat} (h:lim.Pairwise (· < ·)) {n:Nat} (hl:∀q∈lim,q<n):lim.length<=n:=
 s4 (h.imp λh=>Nat.ne_of_lt h) hl
theorem Sz.mk' {M:(Nat->Bool)->Prop} {J:Sg} {b:Nat} (B:Base J) (D:Dbx M J) (hr:∀s,(J.rows s).length<b) (hn:J.n<1000) (hm:J.m<b) (hb:1000<=b) (hb':b<=900000) (hl:J.lrn.length<b):Sz b J:=by
 have ht:=Y8 B.nd B.lit
 refine ⟨hb',hn,hm,λi hi=>?_,hr,o211 ht hn hb,?_,hl⟩
 ·have:=Y8 (D.nd i hi) (D.lits i hi);exact o212 this hn
 ·have:=lim_le B.inc B.lt;exact o213 this ht hn hb
theorem Inv.sz {M:(Nat->Bool)->Prop} {J:Sg} {b:Nat} (I:Inv M J) (hn:J.n<1000) (hm:J.m<b) (hb:1000<=b) (hb':b<=900000) (hl:J.lrn.length<b):Sz b J:=
 Sz.mk' I.B I.D (λs=>by have:=s4 (I.W.nd s) (I.W.lt s);exact o212 this hm) hn hm hb hb' hl
theorem Cfl.sz {M:(Nat->Bool)->Prop} {J:Sg} {b c:Nat} (I:Cfl M J c) (hn:J.n<1000) (hm:J.m<b) (hb:1000<=b) (hb':b<=900000) (hl:J.lrn.length<b):Sz b J:=
 Sz.mk' I.B I.D (λs=>by have:=s4 (I.W.nd s) (I.W.lt s);exact o212 this hm) hn hm hb hb' hl
theorem Inv.turn {M:(Nat->Bool)->Prop} {J:Sg} (I:Inv M J) {l:Int} (h:J.trail[J.head]? = some l):Pi M (J.wH (J.head+1)) J.head (-l) [] (J.rows (B8 (-l))) none:=by
 refine ⟨⟨I.B.lit,I.B.nd,I.B.val,I.B.inc,I.B.lt,I.B.lev,I.B.pha⟩,⟨I.D.ok,I.D.lits,I.D.nd,I.D.ent⟩,I.R,I.Z,by rw [Int.neg_neg];exact h,I.top,?_,I.V,λ_ i hi=>by simp at hi,λc h=>nomatch h⟩
 have:setRow J.rows (B8 (-l)) ([]++J.rows (B8 (-l)))=J.rows:=by
  funext t;unfold setRow;split
  ·rename_i h;rw [h];rfl
  ·rfl
 show Wx J.m J.cls (setRow J.rows (B8 (-l)) ([]++J.rows (B8 (-l))))
 rw [this];exact I.W
section rules
variable {K:Calls G9} {H:Hq} {l:Lq} {ss:Ss} {Q:Fl G9->Lq->Hq->Prop} {R:Bool->Hq->Prop}
theorem w6 {c:C} {t f:Ss} (q:wpC K c l (λb H1=>if b then C2 K t (M0 K ss Q) l H1 else C2 K f (M0 K ss Q) l H1) H):C2 K (.cons (.ite c t f) ss) Q l H:=q
theorem w_orF {c:C} {cs:Cs} (hK:D5 K) (h:pC H l c=some false) (q:wpOr K cs l R H):wpC K (.or (.cons c cs)) l R H:=r8 (c:=c) hK h (by rw [if_neg (by simp)];exact q)
theorem w_orT {c:C} {cs:Cs} (hK:D5 K) (h:pC H l c=some true) (q:R true H):wpC K (.or (.cons c cs)) l R H:=r8 (c:=c) hK h (by rw [if_pos rfl];exact q)
theorem Dg8 {c:C} {cs:Cs} (hK:D5 K) (h:pC H l c=some true) (q:W1 K cs l R H):wpC K (.and (.cons c cs)) l R H:=r8 (c:=c) hK h (by rw [if_pos rfl];exact q)
theorem Dg9 {c:C} {cs:Cs} (hK:D5 K) (h:pC H l c=some false) (q:R false H):wpC K (.and (.cons c cs)) l R H:=r8 (c:=c) hK h (by rw [if_neg (by simp)];exact q)
theorem Dg7 {o:E} {m:Fn} {args:Es} {n:G9} {k:Kl} {f:At->Option Vl} {vs:List Vl} (hK:D5 K) (ho:pE H l o=some (.ref n)) (hn:H n=some (.inst k f)) (hk:m.kl=some k) (ha:c9 H l args=some vs)
  (q:K m (.ref n::vs) (λv H1=>Ae9 H1 v λb=>if b=true then R true H1 else R false H1) H):
  wpOr K (.cons (.val (.meth o m args)) .nil) l R H:=
 D3 (e:=o) hK ho ⟨n,k,f,rfl,hn,hk,J' (es:=args) hK ha q⟩
theorem Ba2 {o:E} {m:Fn} {args:Es} {n:G9} {k:Kl} {f:At->Option Vl} {vs:List Vl} (hK:D5 K) (ho:pE H l o=some (.ref n)) (hn:H n=some (.inst k f)) (hk:m.kl=some k) (ha:c9 H l args=some vs)
  (q:K m (.ref n::vs) (λv H1=>Ae9 H1 v λb=>if b=true then R true H1 else R false H1) H):
  W1 K (.cons (.val (.meth o m args)) .nil) l R H:=
 D3 (e:=o) hK ho ⟨n,k,f,rfl,hn,hk,J' (es:=args) hK ha q⟩
end rules
section
variable {H:Hq} {ν:Nu} {J:Sg}
theorem Sv.swapRow (S:Sv H ν J) {s:Nat} (hs:s<2*J.n+2) {j:Nat} {r:List Nat} (hr:H (.row s,j)=some (.list (E8 r))):
  Sv (H.set (.watches,ν.watches) (.list ((((List.range (2*J.n+2)).map λs=>(V.ref (Tag.row s,ν.row s):Vl))).set s (.ref (Tag.row s,j))))) {ν with row:=P6 ν.row s j} {J with rows:=Mine.Internal.setRow J.rows s r}:=by
 refine ⟨(B2 (C6 rfl)).trans S.self,(B2 (C6 rfl)).trans S.clauses,λi hi=>(B2 (C6 rfl)).trans (S.cls i hi),?_,λt ht=>?_,
  (B2 (C6 rfl)).trans S.values,(B2 (C6 rfl)).trans S.levels,(B2 (C6 rfl)).trans S.reasons,(B2 (C6 rfl)).trans S.phases,(B2 (C6 rfl)).trans S.activity,
  (B2 (C6 rfl)).trans S.trail,(B2 (C6 rfl)).trans S.limits,(B2 (C6 rfl)).trans S.learned,(B2 (C6 rfl)).trans S.found,K4 S.fresh S.watches⟩
 ·show _=some (O.list ((List.range (2*J.n+2)).map λt=>(V.ref (Tag.row t,P6 ν.row s j t):Vl)))
  rw [D2]
  congr 2
  apply List.ext_getElem?
  intro i
  rw [List.getElem?_set,List.getElem?_map,List.getElem?_map]
  by_cases hi:i<2*J.n+2
  ·rw [List.getElem?_range hi]
   by_cases his:s=i
   ·subst his;simp [P6,hi]
   ·have:¬i=s:=λe=>his e.symm
    simp [P6,his,this]
  ·rw [List.getElem?_eq_none (by simp;exact o71 hi)]
   simp;exact o72 hi
 ·show (H.set _ _) (Tag.row t,P6 ν.row s j t)=some (O.list (E8 (Mine.Internal.setRow J.rows s r t)))
  rw [B2 (C6 rfl)]
  unfold P6 Mine.Internal.setRow
  by_cases h:t=s
  ·rw [if_pos h,if_pos h,h];exact hr
  ·rw [if_neg h,if_neg h];exact S.rows t ht
end
section
variable {M:(Nat->Bool)->Prop} {J:Sg} {p:Nat} {fl:Int} {kept rest:List Nat} {cf:Option Nat} {i:Nat}
theorem Pi.sz {b:Nat} (P:Pi M J p fl kept rest cf) (hr:(J.rows (B8 fl)).length<b) (hn:J.n<1000) (hm:J.m<b) (hb:1000<=b) (hb':b<=900000) (hl:J.lrn.length<b):Sz b J:=by
 refine Sz.mk' P.B P.D (λs=>?_) hn hm hb hb' hl
 by_cases hs:s=B8 fl
 ·rw [hs];exact hr
 ·have h1:=s4 (P.W.nd s) (P.W.lt s)
  have:setRow J.rows (B8 fl) (kept++rest) s=J.rows s:=by unfold setRow;rw [if_neg hs]
  rw [this] at h1;exact o212 h1 hm
end
theorem Sv.otherRow {H:Hq} {ν:Nu} {J:Sg} (S:Sv H ν J) {s j:Nat} {o o':Ob} (h:H (.row s,j)=some o) (hj:ν.row s≠j):Sv (H.set (.row s,j) o') ν J:=by
 exact ⟨(B2 (C6 rfl)).trans S.self,(B2 (C6 rfl)).trans S.clauses,λi hi=>(B2 (C6 rfl)).trans (S.cls i hi),(B2 (C6 rfl)).trans S.watches,
  λt ht=>(B2 (by intro e;cases e;exact hj rfl)).trans (S.rows t ht),
  (B2 (C6 rfl)).trans S.values,(B2 (C6 rfl)).trans S.levels,(B2 (C6 rfl)).trans S.reasons,(B2 (C6 rfl)).trans S.phases,(B2 (C6 rfl)).trans S.activity,
  (B2 (C6 rfl)).trans S.trail,(B2 (C6 rfl)).trans S.limits,(B2 (C6 rfl)).trans S.learned,(B2 (C6 rfl)).trans S.found,K4 S.fresh h⟩
theorem tr_B {H:Hq} {b:Bool} {P:Bool->Prop} (q:P b):Ae9 H (.bool b) P:=q
noncomputable def cfI:Option Nat->Int | none=> -1 | some c=>c
theorem Di8 {k:Nat} {M:(Nat->Bool)->Prop} {H:Hq} {ν:Nu} {J:Sg} {b:Nat} {p:Nat} {fl:Int} {kept rest:List Nat} {cf:Option Nat} {i:Nat} {s0 j0:Nat} (S:Sv H ν J) (P:Pi M J p fl kept (i::rest) cf)
  (hr:(J.rows (B8 fl)).length<b) (hn:J.n<1000) (hm:J.m<b) (hb:1000<=b) (hb':b+10<=900000) (hlr:J.lrn.length<b) {l:Lq} (e1:l .self=some (.ref (.self,ν.self))) (e2:l .false_=some (.int fl))
  (e3:l .kept=some (.ref (.row (B8 fl),j0))) (hj0:ν.row (B8 fl)≠j0) (hk:H (.row (B8 fl),j0)=some (.list (E8 kept))) (e4:l .conflict=some (.int (cfI cf))) (e5:l .number=some (.int i)) {Q:Fl G9->Lq->Hq->Prop}
  (q:∀H' σ' kept' cf' l',Sv H' ν σ'->Pi M σ' p fl kept' rest cf'->Ext J σ'->σ'.head=J.head->σ'.rows (B8 fl)=J.rows (B8 fl)->H' (.row (B8 fl),j0)=some (.list (E8 kept'))->(∀t j,Q3 t=false->H' (t,j)=H (t,j)) ->
   (l'=l\/∃v,l'=l.set .conflict v)->l' .conflict=some (.int (cfI cf'))->Q .next l' H'):
  C2 (C9 (k+3)) (.cons (.ite (.or (.cons (.cmp .ge (.var .conflict) (.int 0)) (.cons (.val (.meth (.var .self) .still_watched (.cons (.var .number) (.cons (.var .false_) .nil)))) .nil)))
   (.cons (.expr (.bm .append (.var .kept) (.cons (.var .number) .nil)))
   (.cons (.ite (.and (.cons (.cmp .lt (.var .conflict) (.int 0)) (.cons (.val (.meth (.var .self) .forces (.cons (.var .number) .nil))) .nil)))
    (.cons (.set .conflict (.var .number)) .nil) .nil) .nil)) .nil) .nil) Q l H:=by
 have hK:=C7 (k+2)
 have hi:=P.in_.1
 have Z:=P.sz hr hn hm hb (o214 hb' (by decide)) hlr
 have hkl:kept.length<b:=by
  have h1:=P.W.nd (B8 fl)
  have h2:=P.W.lt (B8 fl)
  have h3:setRow J.rows (B8 fl) (kept++i::rest) (B8 fl)=kept++i::rest:=by unfold setRow;rw [if_pos rfl]
  rw [h3] at h1 h2
  have:=s4 h1 h2
  rw [List.length_append] at this;exact o215 this hm
 have cge:pC H l (.cmp .ge (.var .conflict) (.int 0))=some (J0 .ge (cfI cf) 0):=E0 (y:=0) e4 rfl
 have clt:∀H',pC H' l (.cmp .lt (.var .conflict) (.int 0))=some (J0 .lt (cfI cf) 0):=λH'=>E0 (y:=0) e4 rfl
 cases cf with
 | some c=>
  have hc1:J0 .ge (cfI (some c)) 0=true:=by
   show decide ((0:Int)<=(c:Int))=true
   exact decide_eq_true o73
  have hc2:J0 .lt (cfI (some c)) 0=false:=by
   show decide ((c:Int)<(0:Int))=false
   exact decide_eq_false o216
  refine w6 (w_orT hK (by rw [cge,hc1]) ?_)
  rw [if_pos rfl]
  refine I9 (n:=(.row (B8 fl),j0)) hK e3 hk (v:=.int i) e5 (by rw [G8];exact o217 hb' hkl (by decide) (by decide)) ?_
  rw [M7]
  refine w6 (Dg9 hK (by rw [clt,hc2]) ?_)
  rw [if_neg (by simp)]
  refine C0 (B6 (C0 (B6 (C0 (q _ J (kept++[i]) (some c) l (S.otherRow hk hj0) P.skip Ext.refl rfl rfl D2 (λt j ht=>B2 (by intro e;cases e;cases ht)) (.inl rfl) e4)))))
 | none=>
  have hc1:J0 .ge (cfI none) 0=false:=rfl
  have hc2:J0 .lt (cfI none) 0=true:=rfl
  refine Q0 (P.D.ok i hi) λx0 y0 r hc=>?_
  have hlits:=P.D.lits i hi
  refine E6 P.fln λf1 f2 f3=>?_
  have hw:=P.watch hc
  have turned:∃x,(x,fl)=(if x0=fl then (y0,fl) else (x0,y0))/\Pi M (J.wC (D4 J.cls i (x::fl::r))) p fl kept (i::rest) none/\(J.cls i).Perm (x::fl::r):=by
   by_cases h:x0=fl
   ·refine ⟨y0,by rw [if_pos h],?_,?_⟩
    ·have:=P.swap hi hc
     rw [h] at this;exact this
    ·rw [hc,h];exact List.Perm.swap _ _ _
   ·have hy:y0=fl:=hw.resolve_left h
    refine ⟨x0,by rw [if_neg h,hy],?_,?_⟩
    ·have:D4 J.cls i (x0::fl::r)=J.cls:=by rw [<-hy,<-hc,Af1]
     rw [this];exact P
    ·rw [hc,hy]
  exists C1 turned λx B3=>E6 B3 λhxy P1 hperm=>B5 ?_
  clear turned
  have hc':((J.wC (D4 J.cls i (x::fl::r))):Sg).cls i=x::fl::r:=Af2 _ _ _
  have hx:=P1.D.lits i hi x (by rw [hc'];simp)
  have hrl:∀u∈r,1<=u.natAbs/\u.natAbs<=J.n:=λu hu=>P1.D.lits i hi u (by rw [hc'];simp [hu])
  have keepK:∀{H1:Hq},Cb3 ν i H H1->H1 (.row (B8 fl),j0)=some (.list (E8 kept)):=λf=>by
   rw [f _ _ (by simp) (λs e=>by cases e;exact hj0 rfl)];exact hk
  have keepF:∀{H1:Hq},Cb3 ν i H H1->∀t j,Q3 t=false->H1 (t,j)=H (t,j):=λf t j ht=>f t j (by rintro rfl;cases ht) (λs e=>by cases e;cases ht)
  refine w6 (w_orF hK (by rw [cge,hc1]) (Dg7 (vs:=[.int i,.int fl]) hK (n:=(.self,ν.self)) e1 S.self rfl (B9 (e:=.var .number) e5 (B9 (e:=.var .false_) e2 rfl)) ?_))
  refine k_still (k:=k+1) S Z hi hc (λu hu=>(hlits u hu).2) f2 hxy (λH1 S1 o1 hor=>?_) (λH1 qq u hu hge hne S1 o1=>?_)
  ·-- kept
   have Z1:=P1.sz (b:=b) hr hn hm hb (o214 hb' (by decide)) hlr
   have hk1:=keepK o1
   refine tr_B ?_
   rw [if_pos rfl,if_pos rfl]
   refine I9 (n:=(.row (B8 fl),j0)) hK e3 hk1 (v:=.int i) e5 (by rw [G8];exact o217 hb' hkl (by decide) (by decide)) ?_
   rw [M7]
   have S2:=S1.otherRow (o':=.list (E8 (kept++[i]))) hk1 hj0
   refine w6 (Dg8 hK (by rw [clt,hc2]) (Ba2 (vs:=[.int i]) hK (n:=(.self,ν.self)) e1 S2.self rfl (B9 (e:=.var .number) e5 rfl) ?_))
   refine Eb9 (k:=k) S2 Z1 (o218 hb') hi hc' hx.2 (by intro e;rw [e] at hx;simp at hx) (λH2 hv S3 f3=>?_) (λhv=>?_)
   ·have hrf:∀u∈r,-u∈J.trail:=λu hu=>(P1.B.ff (hrl u hu).1 (hrl u hu).2).mp ((hor.resolve_left λh=>by
     have h':((J.wC (D4 J.cls i (x::fl::r))):Sg).value x=1:=h
     rw [hv] at h';cases h') u hu)
    refine tr_B ?_
    rw [if_neg (by simp),if_neg (by simp)]
    refine C0 (B6 (C0 (B6 (C0 (q H2 _ (kept++[i]) none l S3 (P1.keepAssign hc' hv hrf) ((Ext.perm hperm J.rows).trans (Ext.assign _ _)) rfl rfl ?_ (λt j ht=>?_) (.inl rfl) e4)))))
    ·rw [f3 _ _ rfl];exact D2
    ·rw [f3 t j (Ae6 ht),B2 (by intro e;cases e;cases ht)];exact keepF o1 t j ht
   ·refine tr_B ?_
    by_cases hv2:((J.wC (D4 J.cls i (x::fl::r))):Sg).value x<0
    ·have hrf:∀u∈r,-u∈J.trail:=λu hu=>(P1.B.ff (hrl u hu).1 (hrl u hu).2).mp ((hor.resolve_left λh=>by
      have h':((J.wC (D4 J.cls i (x::fl::r))):Sg).value x=1:=h
      exact o219 hv2 h') u hu)
     have hxn:=(P1.B.ff hx.1 hx.2).mp hv2
     rw [if_pos (by simpa using hv2),if_pos rfl]
     refine J2 hK (v:=.int i) e5 (C0 (B6 (C0 (B6 (C0 (q _ _ (kept++[i]) (some i) _ S2 (P1.keepConf hc' hxn hrf) (Ext.perm hperm J.rows) rfl rfl D2 (λt j ht=>?_) (.inr ⟨_,rfl⟩) rfl))))))
     rw [B2 (by intro e;cases e;cases ht)];exact keepF o1 t j ht
    ·rw [if_neg (by simpa using hv2),if_neg (by simp)]
     have hxt:x∈J.trail:=by
      have h1:=P1.B.value hx.1 hx.2
      by_cases hm':x∈J.trail
      ·exact hm'
      ·have h1:J.value x=if -x∈J.trail then -1 else 0:=h1.trans (if_neg hm')
       split at h1
       ·exact o220 h1 hv2
       ·exact absurd h1 hv
     refine C0 (B6 (C0 (B6 (C0 (q _ _ (kept++[i]) none l S2 (P1.keepTrue hc' hxt) (Ext.perm hperm J.rows) rfl rfl D2 (λt j ht=>?_) (.inl rfl) e4)))))
     rw [B2 (by intro e;cases e;cases ht)];exact keepF o1 t j ht
  ·-- moved
   refine tr_B ?_
   rw [if_neg (by simp),if_neg (by simp)]
   have P2:=P1.move hc' hu hge
   have hsu:B8 fl≠B8 u:=λe=>by
    have hu1:=hrl u (List.mem_of_getElem? hu)
    have:=Q7 f1 hu1.1 e
    have h2:=(P1.B.ff f1 f2).mpr f3
    rw [this] at h2
    exact absurd hge (Int.not_le.mpr h2)
   have es:({J with cls:=D4 J.cls i (x::u::r.set qq fl),rows:=G4 J.rows (B8 u) i}:Sg) =
     {((J.wC (D4 J.cls i (x::fl::r))):Sg) with cls:=D4 ((J.wC (D4 J.cls i (x::fl::r))):Sg).cls i (x::u::r.set qq fl),rows:=G4 ((J.wC (D4 J.cls i (x::fl::r))):Sg).rows (B8 u) i}:=by
    show _=({J with cls:=D4 (D4 J.cls i (x::fl::r)) i (x::u::r.set qq fl),rows:=G4 J.rows (B8 u) i}:Sg)
    rw [c8]
   refine C0 (B6 (C0 (q H1 _ kept none l S1 (by rw [es];exact P2) (Ext.perm (hperm.trans ((Af0 hu fl).cons x)) _) rfl ?_ (keepK o1) (keepF o1) (.inl rfl) e4)))
   show G4 J.rows (B8 u) i (B8 fl)=_
   unfold G4;rw [if_neg hsu]
theorem k_prop {k:Nat} {M:(Nat->Bool)->Prop} {H:Hq} {ν:Nu} {J:Sg} {b:Nat} (S:Sv H ν J) (I:Inv M J) (hn:J.n<1000) (hm:J.m<b) (hb:1000<=b) (hb':b+10<=900000) (hlr:J.lrn.length<b) {Q:Vl->Hq->Prop}
  (q1:∀H' ν' σ',Sv H' ν' σ'->Inv M σ'->σ'.head=σ'.trail.length->Ext J σ'->Frm Q3 H H'->ν'.self=ν.self->ν.tk<=ν'.tk->Q (.int (-1)) H')
  (q2:∀H' ν' σ' (c:Nat),Sv H' ν' σ'->Cfl M σ' c->Ext J σ'->Frm Q3 H H'->ν'.self=ν.self->ν.tk<=ν'.tk->Q (.int c) H'):
  C9 (k+4) .propagate [.ref (.self,ν.self)] Q H:=by
 have hK:=C7 (k+2)
 refine D0 rfl ?_
 show C2 (C9 (k+3)) Ad0 _ _ _
 have hle:∀{σ':Sg},Inv M σ'->Ext J σ'->σ'.head<=J.n:=λI' E'=>by
  have h1:=Y8 I'.B.nd I'.B.lit
  have h2:=I'.hd
  have h3:=E'.n
  exact o221 h2 h1 h3
 refine U' hK (λm l1 H1=>l1 .self=some (.ref (.self,ν.self))/\∃ν1 σ1,Sv H1 ν1 σ1/\Inv M σ1/\Ext J σ1/\Frm Q3 H H1/\ν1.self=ν.self/\ν.tk<=ν1.tk/\m+σ1.head=J.n) (J.n-J.head) ⟨rfl,ν,J,S,I,Ext.refl,Frm.refl,rfl,Nat.le_refl _,by have:=hle I Ext.refl;exact o222 this⟩ ?_
 intro m l1 H1 q_
 exists B7 q_ λe1 B3=>J8 B3 λν1 σ1 C5=>un7 C5 λS1 I1 E1 f1 hs1 ht1 hm1=>B5 ?_
 clear C5 q_
 have e1':l1 .self=some (.ref (.self,ν1.self)):=by rw [hs1];exact e1
 have n1:σ1.n<1000:=by rw [E1.n];exact hn
 have m1:σ1.m<b:=by rw [E1.m];exact hm
 have r1:σ1.lrn.length<b:=by rw [E1.lrn];exact hlr
 have Z1:=I1.sz n1 m1 hb (o214 hb' (by decide)) r1
 have cc:pC H1 l1 (.cmp .lt (.attr (.var .self) .head) (.bi .len (.attr (.var .self) .trail)))=some (J0 .lt σ1.head σ1.trail.length):=E0 (D6 S1 e1' .head) (d0 S1 Z1 e1')
 refine ⟨_,cc,?_⟩
 by_cases hlt:σ1.head<σ1.trail.length
 ·rw [if_pos (by show decide ((σ1.head:Int)<σ1.trail.length)=true;exact decide_eq_true (o165 hlt))]
  have hx:σ1.trail[σ1.head]? = some σ1.trail[σ1.head]:=List.getElem?_eq_getElem hlt
  generalize hxx:σ1.trail[σ1.head]=x at hx
  have P0:=I1.turn hx
  refine E6 P0.fln λf1' f2' f3'=>?_
  have hxn:(-x).natAbs<=σ1.n:=f2'
  have g1:pE H1 l1 (.neg (.sub (.attr (.var .self) .trail) (.attr (.var .self) .head)))=some (.int (-x)):=by
   have h:=(J4 (D6 S1 e1' .trail) (D6 S1 e1' .head) S1.trail).trans (J7 hx (by have:=Z1.trail;exact o217 hb' this (by decide) (by decide)))
   exact Bd2 h
  refine J2 hK g1 ?_
  refine V7 hK (v:=.int (σ1.head+1:Nat)) (n:=(.self,ν1.self)) (D8 (y:=1) (D6 (l:=l1.set .false_ (.int (-x))) S1 e1' .head) rfl) e1' S1.self rfl ?_
  have S2:=S1.setHead (σ1.head+1)
  have Z2:Sz b (σ1.wH (σ1.head+1)):=Z1.of rfl rfl rfl rfl rfl rfl rfl
  refine J2 hK (v:=.ref (.row (B8 (-x)),ν1.row (B8 (-x)))) (Bd1 (e:=.var .false_) (l:=l1.set .false_ (.int (-x))) S2 Z2 e1' rfl hxn) ?_
  refine T0 hK (vs:=[]) rfl (by decide) (.row (B8 (-x)),ν1.tk) (S2.fresh _ _ (Nat.le_refl _)) ?_
  have S3:=S2.alloc (.row (B8 (-x))) (.list [])
  refine J2 hK (v:=.int (-1)) rfl ?_
  have hsl:B8 (-x)<2*σ1.n+2:=T7 (J:=σ1) hxn
  have hrow:ν1.row (B8 (-x))≠ν1.tk:=by
   intro e
   have h1:=S1.rows (B8 (-x)) hsl
   rw [e,S1.fresh _ _ (Nat.le_refl _)] at h1;cases h1
  have hrl:(σ1.rows (B8 (-x))).length<b:=Z1.rows _
  have row0:(H1.set (.self,ν1.self) (.inst .solver λb=>if b=At.head then some (V.int ((σ1.head+1:Nat):Int)) else flds ν1 σ1 b)).set (.row (B8 (-x)),ν1.tk) (.list []) (.row (B8 (-x)),ν1.row (B8 (-x)))=some (.list (E8 (σ1.rows (B8 (-x))))):=S3.rows _ hsl
  refine V8 (e:=.var .row) (n:=(.row (B8 (-x)),ν1.row (B8 (-x)))) hK rfl row0
   (λj l2 H2=>∃σ' kept cf,l2 .self=some (.ref (.self,ν1.self))/\l2 .false_=some (.int (-x))/\l2 .kept=some (.ref (.row (B8 (-x)),ν1.tk))/\l2 .conflict=some (.int (cfI cf)) /\
    Sv H2 (ν1.wT (ν1.tk+1)) σ'/\H2 (.row (B8 (-x)),ν1.tk)=some (.list (E8 kept))/\Pi M σ' σ1.head (-x) kept ((σ1.rows (B8 (-x))).drop j) cf/\Ext (σ1.wH (σ1.head+1)) σ'/\σ'.head=σ1.head+1 /\
    σ'.rows (B8 (-x))=σ1.rows (B8 (-x))/\∀t j,Q3 t=false->H2 (t,j)=H1 (t,j))
   ⟨(σ1.wH (σ1.head+1)),[],none,e1',rfl,rfl,rfl,S3,D2,by rw [List.drop_zero];exact P0,Ext.refl,rfl,rfl,λt j ht=>by rw [B2 (by intro e;cases e;cases ht),B2 (by intro e;cases e;cases ht)]⟩ ?_
  intro j l2 H2 q_
  exists Q0 q_ λσ' kept cf B3=>un11 B3 λa1 a2 a3 a4 S' hk P E' hh hrr hfr=>B5 ?_
  clear q_
  have n':σ'.n<1000:=by rw [E'.n];exact n1
  have m':σ'.m<b:=by rw [E'.m];exact m1
  have r':σ'.lrn.length<b:=by rw [E'.lrn];exact r1
  have hrl':(σ'.rows (B8 (-x))).length<b:=by rw [hrr];exact hrl
  have hsl':B8 (-x)<2*σ'.n+2:=by rw [E'.n];exact hsl
  have E1':Ext J σ':=E1.trans ((Ext.rowsHead σ1.rows (σ1.head+1)).trans E')
  refine ⟨by have:=S'.rows (B8 (-x)) hsl';rw [hrr] at this;exact this,λhend=>?_,λv hv=>?_⟩
  ·have hj:(σ1.rows (B8 (-x))).drop j=[]:=by
    rw [List.getElem?_eq_none_iff,G8] at hend
    exact List.drop_eq_nil_of_le hend
   rw [hj] at P
   have Z':=P.sz (b:=b) hrl' n' m' hb (o214 hb' (by decide)) r'
   refine K5 hK (v:=.ref (.row (B8 (-x)),ν1.tk)) (k:=(B8 (-x):Nat)) a3 (D6 S' a1 .watches) (Ch6 (e:=.var .false_) a2) S'.watches o73 (by simp;exact o223 hsl') (by simp;exact o224 n') ?_
   rw [show (((B8 (-x):Nat):Int)).toNat=B8 (-x) by exact o77]
   have S4:=S'.swapRow hsl' hk
   have f4:Frm Q3 H1 (H2.set (.watches,ν1.watches) (.list ((((List.range (2*σ'.n+2)).map λs=>(V.ref (Tag.row s,ν1.row s):Vl))).set (B8 (-x)) (.ref (Tag.row (B8 (-x)),ν1.tk))))):=
    λt j ht=>by rw [B2 (by intro e;cases e;cases ht)];exact hfr t j ht
   have hW:Wx σ'.m σ'.cls (setRow σ'.rows (B8 (-x)) kept):=by have:=P.W;rw [List.append_nil] at this;exact this
   have hp:=(List.getElem?_eq_some_iff.mp P.at_).1
   have E4:Ext J {σ' with rows:=setRow σ'.rows (B8 (-x)) kept}:=E1'.trans ⟨rfl,rfl,rfl,rfl,rfl,rfl,rfl,rfl,rfl,⟨[],by simp⟩,λ_=>.refl _⟩
   have cge:∀H',pC H' l2 (.cmp .ge (.var .conflict) (.int 0))=some (J0 .ge (cfI cf) 0):=λH'=>E0 (y:=0) a4 rfl
   cases cf with
   | some c=>
    refine B7 (P.C c rfl) λc1 c2=>?_
    refine G6 hK (by rw [cge];show some (decide ((0:Int)<=(c:Int)))=_;rw [decide_eq_true o73]) ?_
    refine M3 hK (v:=.int c) a4 (q2 _ _ _ c S4 ⟨⟨P.B.lit,P.B.nd,P.B.val,P.B.inc,P.B.lt,P.B.lev,P.B.pha⟩,⟨P.D.ok,P.D.lits,P.D.nd,P.D.ent⟩,P.R,P.Z,hW,⟨σ1.head,P.top,hp,P.V⟩,c1,c2⟩ E4 (f1.trans f4) hs1 (Nat.le_succ_of_le ht1))
   | none=>
    refine E9 hK (by rw [cge];rfl) (C0 (B6 (C0 ?_)))
    have hle4:σ1.head+1<=J.n:=by
     have h1:=Y8 P.B.nd P.B.lit
     have h2:=E1'.n
     exact h2▸Nat.lt_of_lt_of_le hp h1
    refine ⟨m-1,o225 hm1 hle4,by rw [<-hs1];exact a1,_,_,S4,⟨⟨P.B.lit,P.B.nd,P.B.val,P.B.inc,P.B.lt,P.B.lev,P.B.pha⟩,⟨P.D.ok,P.D.lits,P.D.nd,P.D.ent⟩,P.R,P.Z,hW,?_,?_,?_⟩,E4,f1.trans f4,hs1,Nat.le_succ_of_le ht1,?_⟩
    ·show Vx {σ' with rows:=setRow σ'.rows (B8 (-x)) kept} σ'.head
     rw [hh];exact P.done
    ·show σ'.head<=σ'.trail.length
     rw [hh];exact hp
    ·intro q hq
     show q<=σ'.head
     rw [hh];exact Nat.le_succ_of_le (P.top q hq)
    ·show m-1+σ'.head=J.n
     rw [hh];exact o226 hm1 hle4
  ·unfold E8 at hv
   rw [List.getElem?_map] at hv
   cases hi:(σ1.rows (B8 (-x)))[j]? with
   | none=>rw [hi] at hv;cases hv
   | some i=>
    rw [hi] at hv;cases hv
    refine ⟨l2.set .number (.int i),rfl,?_⟩
    have hdrop:(σ1.rows (B8 (-x))).drop j=i::(σ1.rows (B8 (-x))).drop (j+1):=by
     obtain ⟨hj,e⟩:=List.getElem?_eq_some_iff.mp hi
     rw [List.drop_eq_getElem_cons hj,e]
    rw [hdrop] at P
    refine Di8 (l:=l2.set .number (.int i)) (s0:=0) S' P hrl' n' m' hb hb' r' a1 a2 a3 hrow hk a4 rfl λH3 ad9 kept' cf' l' S'' P'' E'' hh'' hr'' hk'' hfr'' hl' hcf=>?_
    have keep:∀y:Vr,y ≠ .conflict->l' y=(l2.set .number (.int i)) y:=by
     intro y hy
     rcases hl' with rfl | q_
     ·rfl
     ·refine C1 q_ λv C'=>?_
      clear q_
      subst C'
      unfold Lc.set;rw [if_neg hy]
    exact ⟨ad9,kept',cf',(keep .self (by decide)).trans a1,(keep .false_ (by decide)).trans a2,(keep .kept (by decide)).trans a3,hcf,S'',hk'',P'',E'.trans E'',hh''.trans hh,hr''.trans hrr,λt j ht=>(hfr'' t j ht).trans (hfr t j ht)⟩
 ·rw [if_neg (by show ¬(decide ((σ1.head:Int)<σ1.trail.length)=true);simp;exact o71 hlt)]
  exact M3 hK (v:=.int (-1)) rfl (q1 H1 ν1 σ1 S1 I1 (Nat.le_antisymm I1.hd (o71 hlt)) E1 f1 hs1 ht1)
noncomputable def t5 (lev:Nat->Nat) (L:Nat) (seen:Nat->Bool) (xs:List Int):Nat:=(xs.filter λl=>seen l.natAbs&&(lev l.natAbs==L)).length
noncomputable def N3 (f:Nat->Bool) (k:Nat) (v:Bool):Nat->Bool:=λi=>if i=k then v else f i
theorem cnt_out {lev:Nat->Nat} {L:Nat} {seen:Nat->Bool} {v:Nat}:∀{xs:List Int},v∉vars xs->t5 lev L (N3 seen v true) xs=t5 lev L seen xs:=by
 intro xs h
 unfold t5
 congr 1
 refine List.filter_congr λl hl=>?_
 have:l.natAbs≠v:=λe=>h (by rw [<-e];exact List.mem_map_of_mem hl)
 unfold N3;rw [if_neg this]
theorem Bi7 {lev:Nat->Nat} {L:Nat} {seen:Nat->Bool} {v:Nat} (hs:seen v=false) (hl:lev v=L):∀{xs:List Int},(vars xs).Nodup->v∈vars xs->t5 lev L (N3 seen v true) xs=t5 lev L seen xs+1
 | [],_,h=>by simp [vars] at h
 | x::xs,hn,h=>by
  unfold vars at hn h
  rw [List.map_cons,List.nodup_cons] at hn
  rw [List.map_cons] at h
  by_cases hx:x.natAbs=v
  ·have h1:v∉vars xs:=by rw [<-hx];exact hn.1
   have h2:=cnt_out (lev:=lev) (L:=L) (seen:=seen) h1
   unfold t5 at h2 ⊢
   rw [List.filter_cons,List.filter_cons]
   have e1:(N3 seen v true x.natAbs&&(lev x.natAbs==L))=true:=by rw [hx];simp [N3,hl]
   have e2:(seen x.natAbs&&(lev x.natAbs==L))=false:=by rw [hx,hs];rfl
   rw [if_pos e1,if_neg (by rw [e2];simp),List.length_cons,h2]
  ·have h1:v∈vars xs:=by
    rcases List.mem_cons.mp h with e | e
    ·exact absurd e.symm hx
    ·exact e
   have ih:=Bi7 hs hl (xs:=xs) hn.2 h1
   unfold t5 at ih ⊢
   rw [List.filter_cons,List.filter_cons]
   have e1:N3 seen v true x.natAbs=seen x.natAbs:=by unfold N3;rw [if_neg hx]
   rw [e1]
   split
   ·rw [List.length_cons,List.length_cons,ih]
   ·exact ih
theorem cnt_low {lev:Nat->Nat} {L:Nat} {seen:Nat->Bool} {v:Nat} (hl:lev v≠L) (xs:List Int):t5 lev L (N3 seen v true) xs=t5 lev L seen xs:=by
 unfold t5
 congr 1
 refine List.filter_congr λl _=>?_
 by_cases hx:l.natAbs=v
 ·have:(lev l.natAbs==L)=false:=by rw [hx];simpa using hl
  rw [this];simp
 ·unfold N3;rw [if_neg hx]
theorem Cf9 {lev:Nat->Nat} {L:Nat} {seen:Nat->Bool} (xs ys:List Int):t5 lev L seen (xs++ys)=t5 lev L seen xs+t5 lev L seen ys:=by
 unfold t5;rw [List.filter_append,List.length_append]
theorem Ae5 {lev:Nat->Nat} {L:Nat} {seen:Nat->Bool} {xs:List Int} (h:t5 lev L seen xs≠0):∃l∈xs,seen l.natAbs=true/\lev l.natAbs=L:=by
 unfold t5 at h
 cases hf:xs.filter λl=>seen l.natAbs&&(lev l.natAbs==L) with
 | nil=>rw [hf] at h;simp at h
 | cons l r=>
  have:l∈xs.filter λl=>seen l.natAbs&&(lev l.natAbs==L):=by rw [hf];simp
  refine B7 (List.mem_filter.mp this) λh1 h2=>?_
  simp at h2
  exact ⟨l,h1,h2⟩
theorem Be9 {lev:Nat->Nat} {L:Nat} {seen:Nat->Bool} {xs:List Int} {l:Int} (h:l∈xs) (h1:seen l.natAbs=true) (h2:lev l.natAbs=L):t5 lev L seen xs≠0:=by
 unfold t5
 have:l∈xs.filter λl=>seen l.natAbs&&(lev l.natAbs==L):=List.mem_filter.mpr ⟨h,by simp [h1,h2]⟩
 exact Nat.ne_of_gt (List.length_pos_of_mem this)
structure Am (M:(Nat->Bool)->Prop) (J:Sg) (pl:Nat) (seen:Nat->Bool) (rest:List Int) (oc:Nat):Prop where
 r1:∀u∈rest,-u∈J.trail/\1<=J.lev u.natAbs/\J.lev u.natAbs<J.lim.length/\seen u.natAbs=true
 r2:(vars rest).Nodup
 s1:∀v,seen v=true->∃l∈J.trail,l.natAbs=v/\1<=J.lev v
 s2:∀v,seen v=true->J.lev v<J.lim.length->v∈vars rest
 s3:∀v,seen v=true->∃i,i<J.m/\v∈vars (J.cls i)
 c:oc=t5 J.lev J.lim.length seen (J.trail.take pl)
def Rv (M:(Nat->Bool)->Prop) (J:Sg) (pl:Nat) (seen:Nat->Bool) (rest:List Int) (sk:Option Int):Prop:=
 ∀α,M α->(∃u∈rest,N6 α u)\/(∃s,sk=some s/\N6 α (-s))\/∃l∈J.trail.take pl,seen l.natAbs=true/\J.lev l.natAbs=J.lim.length/\N6 α (-l)
section
variable {M:(Nat->Bool)->Prop} {J:Sg} {pl:Nat} {seen:Nat->Bool} {rest:List Int} {oc:Nat}
theorem Eb5 (B:Base J) {l:Int} (h:l∈J.trail):J.lev l.natAbs<=J.lim.length:=by
 refine C1 (List.getElem?_of_mem h) λq hq=>?_
 rw [B.lev q l hq];exact Ah0 _ _
theorem Am.mark (A:Am M J pl seen rest oc) (B:Base J) {u:Int} (hu: -u∈J.trail.take pl) (hs:seen u.natAbs=false) (hl:J.lev u.natAbs=J.lim.length) (hL:1<=J.lim.length) (hc:∃i,i<J.m/\u.natAbs∈vars (J.cls i)):Am M J pl (N3 seen u.natAbs true) rest (oc+1):=by
 have hm:=List.mem_of_mem_take hu
 refine ⟨λw hw=>?_,A.r2,λv hv=>?_,λv hv hv2=>?_,λv hv=>?_,?_⟩
 ·refine R7 (A.r1 w hw) λa b c d=>?_
  refine ⟨a,b,c,?_⟩
  unfold N3;split
  ·rfl
  ·exact d
 ·unfold N3 at hv
  split at hv
  ·rename_i e;subst e;exact ⟨-u,hm,by simp,o227 hL hl⟩
  ·exact A.s1 v hv
 ·unfold N3 at hv
  split at hv
  ·rename_i e;subst e;exact o228 hv2 hl
  ·exact A.s2 v hv hv2
 ·unfold N3 at hv
  split at hv
  ·rename_i e;subst e;exact hc
  ·exact A.s3 v hv
 ·have hn:(vars (J.trail.take pl)).Nodup:=by
   have:=B.nd
   unfold vars at this ⊢
   rw [List.map_take];exact this.sublist (List.take_sublist _ _)
  rw [Bi7 hs hl hn (by have:=List.mem_map_of_mem (f:=Int.natAbs) hu;rw [Int.natAbs_neg] at this;exact this),A.c]
theorem Am.low (A:Am M J pl seen rest oc) (B:Base J) {u:Int} (hu: -u∈J.trail) (hs:seen u.natAbs=false) (h1:1<=J.lev u.natAbs) (h2:J.lev u.natAbs≠J.lim.length) (hc:∃i,i<J.m/\u.natAbs∈vars (J.cls i)):Am M J pl (N3 seen u.natAbs true) (rest++[u]) oc:=by
 have hlt:J.lev u.natAbs<J.lim.length:=by
  have:=Eb5 B hu
  rw [Int.natAbs_neg] at this;exact o229 h2 this
 refine ⟨λw hw=>?_,?_,λv hv=>?_,λv hv hv2=>?_,λv hv=>?_,?_⟩
 ·rcases List.mem_append.mp hw with h | h
  ·refine R7 (A.r1 w h) λa b c d=>?_
   refine ⟨a,b,c,?_⟩
   unfold N3;split
   ·rfl
   ·exact d
  ·simp at h;subst h
   exact ⟨hu,h1,hlt,by unfold N3;rw [if_pos rfl]⟩
 ·unfold vars
  rw [List.map_append,List.nodup_append]
  refine ⟨A.r2,by simp,λa ha b hb e=>?_⟩
  simp at hb;subst hb;subst e
  exists C1 (List.mem_map.mp ha) λw B3=>B7 B3 λhw e=>B5 ?_
  have:=(A.r1 w hw).2.2.2
  rw [e,hs] at this;cases this
 ·unfold N3 at hv
  split at hv
  ·rename_i e;subst e;exact ⟨-u,hu,by simp,h1⟩
  ·exact A.s1 v hv
 ·unfold vars
  rw [List.map_append,List.mem_append]
  unfold N3 at hv
  split at hv
  ·rename_i e;subst e;exact .inr (by simp)
  ·exact .inl (A.s2 v hv hv2)
 ·unfold N3 at hv
  split at hv
  ·rename_i e;subst e;exact hc
  ·exact A.s3 v hv
 ·rw [cnt_low h2];exact A.c
theorem Rv.clause (B:Base J) (D:Dbx M J) (Z:L0 M J) {i:Nat} (hi:i<J.m) {sk:Option Int} {seen':Nat->Bool} {rest':List Int} (hR:sk=none\/Rv M J pl seen rest sk)
  (hno:∀u∈J.cls i,(∀s,sk=some s->u≠s) -> -u∈J.trail.take pl) (hmark:∀u∈J.cls i,(∀s,sk=some s->u≠s)->1<=J.lev u.natAbs->seen' u.natAbs=true)
  (hsub:∀v,seen v=true->seen' v=true) (hrest:∀u∈rest,u∈rest') (hlow:∀v,seen' v=true->J.lev v<J.lim.length->v∈vars rest') (hr':∀u∈rest',-u∈J.trail):Rv M J pl seen' rest' none:=by
 have lift:∀α,(∃u∈rest,N6 α u)\/(∃l∈J.trail.take pl,seen l.natAbs=true/\J.lev l.natAbs=J.lim.length/\N6 α (-l)) ->
   (∃u∈rest',N6 α u)\/(∃s,(none:Option Int)=some s/\N6 α (-s))\/∃l∈J.trail.take pl,seen' l.natAbs=true/\J.lev l.natAbs=J.lim.length/\N6 α (-l):=by
  rintro α (⟨u,h1,h2⟩ | ⟨l,h1,h2,h3⟩)
  ·exact .inl ⟨u,hrest u h1,h2⟩
  ·exact .inr (.inr ⟨l,h1,hsub _ h2,h3⟩)
 have byLit:∀α,M α->∀u∈J.cls i,(∀s,sk=some s->u≠s)->N6 α u ->
   (∃u∈rest',N6 α u)\/(∃s,(none:Option Int)=some s/\N6 α (-s))\/∃l∈J.trail.take pl,seen' l.natAbs=true/\J.lev l.natAbs=J.lim.length/\N6 α (-l):=by
  intro α hα u hu hne hlit
  have hneg:=hno u hu hne
  have hm:=List.mem_of_mem_take hneg
  have hu1:=(D.lits i hi u hu).1
  by_cases hl0:J.lev u.natAbs=0
  ·have:=Z (-u) hm (by rw [Int.natAbs_neg];exact hl0) α hα
   exact absurd hlit ((i1 hu1).mp this)
  ·have hsn:=hmark u hu hne (o230 hl0)
   have hle:=Eb5 B hm
   rw [Int.natAbs_neg] at hle
   by_cases hlast:J.lev u.natAbs=J.lim.length
   ·exact .inr (.inr ⟨-u,hneg,by rw [Int.natAbs_neg];exact hsn,by rw [Int.natAbs_neg];exact hlast,by rw [Int.neg_neg];exact hlit⟩)
   ·exists C1 (List.mem_map.mp (hlow _ hsn (o231 hle hlast))) λw B3=>B7 B3 λhw e=>B5 ?_
    have hw2:=hr' w hw
    rcases Q4 e with rfl | rfl
    ·exact .inl ⟨w,hw,hlit⟩
    ·exact absurd hm (B.noNeg (by simpa using hw2))
 intro α hα
 cases sk with
 | none=>
  exists C1 (D.ent i hi α hα) λu B3=>B7 B3 λhu hlit=>B5 ?_
  exact byLit α hα u hu (λs h=>nomatch h) hlit
 | some s=>
  rcases hR with h | hR
  ·cases h
  rcases hR α hα with h | q_ | h
  ·exact lift α (.inl h)
  ·exists C1 q_ λs' B3=>B7 B3 λe h=>B5 ?_
   clear q_
   cases e
   exists C1 (D.ent i hi α hα) λu B3=>B7 B3 λhu hlit=>B5 ?_
   by_cases hus:u=s
   ·subst hus
    exact absurd hlit ((i1 (D.lits i hi u hu).1).mp h)
   ·exact byLit α hα u hu (λs' e=>by cases e;exact hus) hlit
  ·exact lift α (.inr h)
end
noncomputable def U1 (n:Nat) (f:Nat->Bool):List Vl:=(List.range (n+1)).map λi=>V.bool (f i)
theorem N5 (n:Nat) (f:Nat->Bool):(U1 n f).length=n+1:=by simp [U1]
theorem Cb0 (n:Nat) (v:Bool):List.replicate (n+1) (V.bool v:Vl)=U1 n λ_=>v:=by
 unfold U1
 apply List.ext_getElem?
 intro i
 rw [List.getElem?_replicate,List.getElem?_map]
 by_cases h:i<n+1
 ·rw [if_pos h,List.getElem?_range h];rfl
 ·rw [if_neg h,List.getElem?_eq_none (by simp;exact o71 h)];rfl
theorem De4 {n:Nat} {f:Nat->Bool} {k:Nat} (h:k<=n) (hn:n<1000):i5 (U1 n f) k=some (.bool (f k)):=by
 unfold i5
 rw [if_pos ⟨o73,o232 h hn (by decide)⟩]
 unfold U1
 rw [List.getElem?_map,show ((k:Int)).toNat=k by exact o77,List.getElem?_range (o68 h)];rfl
theorem Aa9 {n:Nat} {f:Nat->Bool} {k:Nat} {v:Bool}:(U1 n f).set k (.bool v)=U1 n (N3 f k v):=by
 unfold U1
 apply List.ext_getElem?
 intro i
 rw [List.getElem?_set,List.getElem?_map,List.getElem?_map]
 by_cases hi:i<n+1
 ·rw [List.getElem?_range hi]
  by_cases hk:k=i
  ·subst hk;simp [N3,hi]
  ·have:¬i=k:=λe=>hk e.symm
   simp [N3,hk,this]
 ·rw [List.getElem?_eq_none (by simp;exact o71 hi)]
  simp
  exact o72 hi
theorem Ad8 {H:Hq} {l:Lq} {e i:E} {n:G9} {m:Nat} {f:Nat->Bool} {k:Nat} (he:pE H l e=some (.ref n)) (hi:pE H l i=some (.int k)) (hn:H n=some (.list (U1 m f))) (h1:k<=m) (hm:m<1000):pE H l (.sub e i)=some (.bool (f k)):=by
 rw [J4 he hi hn]
 exact De4 h1 hm
theorem pC_and3 {H:Hq} {l:Lq} {a b c:C} {x y z:Bool} (ha:pC H l a=some x) (hb:pC H l b=some y) (hc:pC H l c=some z):pC H l (.and (.cons a (.cons b (.cons c .nil))))=some (x&&y&&z):=by
 refine (b1 _ ha).trans ?_
 cases x with
 | false=>rfl
 | true=>
  refine (b1 _ hb).trans ?_
  cases y with
  | false=>rfl
  | true=>exact (b1 _ hc).trans (by cases z <;> rfl)
theorem Eb3 {k:Nat} {M:(Nat->Bool)->Prop} {H:Hq} {ν:Nu} {J:Sg} {b:Nat} {pl:Nat} {seen:Nat->Bool} {rest:List Int} {oc:Nat} {u sk:Int} {j1 j2:Nat} (S:Sv H ν J) (B:Base J) (Z:Sz b J) (A:Am M J pl seen rest oc)
  (hL:1<=J.lim.length) (hcl:∃i,i<J.m/\u.natAbs∈vars (J.cls i)) (hu1:u.natAbs<=J.n) (hu:u≠sk -> -u∈J.trail.take pl) {l:Lq} (e1:l .self=some (.ref (.self,ν.self))) (e2:l .seen=some (.ref (.seen,j1))) (e3:l .rest=some (.ref (.rest2,j2))) (e4:l .open_count=some (.int oc))
  (e5:l .skipped=some (.int sk)) (e6:l .literal=some (.int u)) (hs:H (.seen,j1)=some (.list (U1 J.n seen))) (hr:H (.rest2,j2)=some (.list (C8 rest))) (hrl:rest.length<1000) {Q:Fl G9->Lq->Hq->Prop}
  (q:∀H' σ' seen' rest' oc' l',Sv H' ν σ'->Am M σ' pl seen' rest' oc'->(∃act step,σ'=(J.wA act step))->H' (.seen,j1)=some (.list (U1 J.n seen'))->H' (.rest2,j2)=some (.list (C8 rest')) ->
   (∀t j,Q3 t=false->(t,j)≠(Tag.seen,j1)->(t,j)≠(Tag.rest2,j2)->H' (t,j)=H (t,j))->(∀y,y ≠ .variable_->y ≠ .open_count->l' y=l y)->l' .open_count=some (.int oc') ->
   (u≠sk->1<=J.lev u.natAbs->seen' u.natAbs=true)->(∀v,seen v=true->seen' v=true)->(∀w∈rest,w∈rest')->Q .next l' H'):
  C2 (C9 (k+2)) (.cons (.set .variable_ (.bi .abs (.var .literal)))
   (.cons (.ite (.and (.cons (.cmp .ne (.var .literal) (.var .skipped)) (.cons (.not (.val (.sub (.var .seen) (.var .variable_)))) (.cons (.cmp .gt (.sub (.attr (.var .self) .levels) (.var .variable_)) (.int 0)) .nil))))
    (.cons (.setSub (.var .seen) (.var .variable_) (.bool true))
    (.cons (.expr (.meth (.var .self) .bump (.cons (.var .variable_) .nil)))
    (.cons (.ite (.cmp .eq (.sub (.attr (.var .self) .levels) (.var .variable_)) (.meth (.var .self) .level .nil))
     (.cons (.set .open_count (.bin .add (.var .open_count) (.int 1))) .nil)
     (.cons (.expr (.bm .append (.var .rest) (.cons (.var .literal) .nil))) .nil)) .nil))) .nil) .nil)) Q l H:=by
 have hK:=C7 (k+1)
 have hn:=Z.n
 refine J2 hK (Af6 (e:=.var .literal) e6) ?_
 have gs:pE H (l.set .variable_ (.int u.natAbs)) (.sub (.var .seen) (.var .variable_))=some (.bool (seen u.natAbs)):=Ad8 (e:=.var .seen) (i:=.var .variable_) e2 rfl hs hu1 hn
 have gl:pE H (l.set .variable_ (.int u.natAbs)) (.sub (.attr (.var .self) .levels) (.var .variable_))=some (.int (J.lev u.natAbs)):=by
  have:=U2 (l:=l.set .variable_ (.int u.natAbs)) (i:=.var .variable_) (k:=u.natAbs) Z (D6 (l:=l.set .variable_ (.int u.natAbs)) S e1 .levels) rfl S.levels o73 (o111 hu1)
  rw [this];rfl
 have c1:=E0 (op:=.ne) (show pE H (l.set .variable_ (.int u.natAbs)) (.var .literal)=some (.int u) from e6) (show pE H (l.set .variable_ (.int u.natAbs)) (.var .skipped)=some (.int sk) from e5)
 have c2:=Af8 (N0 gs)
 have c3:=E0 (op:=.gt) (y:=0) gl (show pE H _ (.int 0)=_ from rfl)
 have cc:=pC_and3 c1 c2 c3
 by_cases hgo:u≠sk/\seen u.natAbs=false/\1<=J.lev u.natAbs
 ·refine E6 hgo λg1 g2 g3=>?_
  clear hgo
  have hneg:=hu g1
  have hm:=List.mem_of_mem_take hneg
  have ct:(J0 .ne u sk && !(seen u.natAbs)&&J0 .gt (J.lev u.natAbs) 0)=true:=by
   have a1:J0 .ne u sk=true:=by show (u != sk)=true;simpa using g1
   have a3:J0 .gt (J.lev u.natAbs) 0=true:=by show decide ((0:Int)<(J.lev u.natAbs:Int))=true;exact decide_eq_true (o233 g3)
   rw [a1,g2,a3];rfl
  refine G6 hK (by rw [cc,ct]) ?_
  refine K5 hK (v:=.bool true) rfl (n:=(.seen,j1)) e2 (k:=u.natAbs) rfl hs o73 (by rw [N5];exact o76 hu1) (by rw [N5];exact o6 hn (by decide)) ?_
  rw [show ((u.natAbs:Int)).toNat=u.natAbs by exact o77,Aa9]
  have S1:=S.other (t:=.seen) (j:=j1) (o':=.list (U1 J.n (N3 seen u.natAbs true))) rfl hs
  refine Q5 hK (n:=(.self,ν.self)) e1 S1.self rfl (vs:=[.int u.natAbs]) rfl ?_
  refine k_bump (k:=k) S1 Z hu1 λH2 act step S2 f2=>⟨trivial,?_⟩
  have Z2:Sz b (J.wA act step):=Z.of rfl rfl rfl rfl rfl rfl rfl
  have hs2:H2 (.seen,j1)=some (.list (U1 J.n (N3 seen u.natAbs true))):=(f2 _ _ rfl).trans D2
  have hr2:H2 (.rest2,j2)=some (.list (C8 rest)):=(f2 _ _ rfl).trans ((B2 (C6 rfl)).trans hr)
  have fr2:∀t j,Q3 t=false->(t,j)≠(Tag.seen,j1)->H2 (t,j)=H (t,j):=λt j ht h=>by
   rw [f2 t j (by cases t <;> first | rfl | cases ht),B2 h]
  have hsub:∀v,seen v=true->N3 seen u.natAbs true v=true:=by
   intro v hv
   unfold N3
   split
   ·rfl
   ·exact hv
  have gl2:pE H2 (l.set .variable_ (.int u.natAbs)) (.sub (.attr (.var .self) .levels) (.var .variable_))=some (.int (J.lev u.natAbs)):=by
   have:=U2 (l:=l.set .variable_ (.int u.natAbs)) (i:=.var .variable_) (k:=u.natAbs) Z2 (D6 (l:=l.set .variable_ (.int u.natAbs)) S2 e1 .levels) rfl S2.levels o73 (by show (u.natAbs:Int)<=(J.n:Int);exact o111 hu1)
   rw [this];rfl
  have c4:=E0 (op:=.eq) gl2 (r7 (l:=l.set .variable_ (.int u.natAbs)) S2 Z2 e1)
  by_cases hlast:J.lev u.natAbs=J.lim.length
  ·refine G6 hK (by rw [c4];show some ((J.lev u.natAbs:Int)==(J.lim.length:Int))=_;rw [hlast];simp) ?_
   refine J2 hK (v:=.int (oc+1:Nat)) (D8 (a:=.var .open_count) (x:=oc) (y:=1) e4 rfl) ?_
   refine C0 (B6 (C0 (B6 (C0 (q H2 _ (N3 seen u.natAbs true) rest (oc+1) _ S2 ?_ ⟨act,step,rfl⟩ hs2 hr2 (λt j ht h1 h2=>fr2 t j ht h1) (λy h1 h2=>?_) rfl (λ_ _=>by unfold N3;rw [if_pos rfl]) hsub (λw hw=>hw))))))
   ·have A':=A.mark B hneg g2 hlast hL hcl
    exact ⟨A'.r1,A'.r2,A'.s1,A'.s2,A'.s3,A'.c⟩
   ·unfold Lc.set;rw [if_neg h2,if_neg h1]
  ·refine E9 hK (by rw [c4];show some ((J.lev u.natAbs:Int)==(J.lim.length:Int))=_;simp;exact o234 hlast) ?_
   refine I9 (n:=(.rest2,j2)) hK e3 hr2 (v:=.int u) e6 (by rw [C3];exact o96 hrl (by decide)) ?_
   rw [P9]
   have S3:=S2.other (t:=.rest2) (j:=j2) (o':=.list (C8 (rest++[u]))) rfl hr2
   refine C0 (B6 (C0 (B6 (C0 (q _ _ (N3 seen u.natAbs true) (rest++[u]) oc _ S3 ?_ ⟨act,step,rfl⟩ ((B2 (C6 rfl)).trans hs2) D2 (λt j ht h1 h2=>(B2 h2).trans (fr2 t j ht h1)) (λy h1 h2=>?_) e4 (λ_ _=>by unfold N3;rw [if_pos rfl]) hsub (λw hw=>List.mem_append_left _ hw))))))
   ·have A':=A.low B hm g2 g3 hlast hcl
    exact ⟨A'.r1,A'.r2,A'.s1,A'.s2,A'.s3,A'.c⟩
   ·unfold Lc.set;rw [if_neg h1]
 ·have cf:(J0 .ne u sk && !(seen u.natAbs)&&J0 .gt (J.lev u.natAbs) 0)=false:=by
   rw [Bool.eq_false_iff]
   intro h
   simp only [Bool.and_eq_true,Bool.not_eq_true'] at h
   refine B7 h λC' h3=>?_
   clear h
   refine B7 C' λh1 h2=>?_
   clear C'
   have h1':(u != sk)=true:=h1
   have h3':decide ((0:Int)<(J.lev u.natAbs:Int))=true:=h3
   exact hgo ⟨by simpa using h1',h2,by have:=of_decide_eq_true h3';exact o235 this⟩
  refine E9 hK (by rw [cc,cf]) (C0 (B6 (C0 (q H J seen rest oc _ S A ⟨J.act,J.step,rfl⟩ hs hr (λ_ _ _ _ _=>rfl) (λy h1 h2=>?_) e4 (λh1 h2=>?_) (λ_ h=>h) (λ_ h=>h)))))
  ·unfold Lc.set;rw [if_neg h1]
  ·cases hsn:seen u.natAbs with
   | true=>rfl
   | false=>exact absurd ⟨h1,hsn,h2⟩ hgo
structure La (M:(Nat->Bool)->Prop) (J:Sg) (x:Int) (r:List Int) (back:Nat):Prop where
 x1: -x∈J.trail
 x2:J.lev x.natAbs=J.lim.length
 r1:∀u∈r,-u∈J.trail/\1<=J.lev u.natAbs/\J.lev u.natAbs<J.lim.length
 nd:(vars (x::r)).Nodup
 ent:∀α,M α->S0 α (x::r)
 inV:∀u∈x::r,∃i,i<J.m/\u.natAbs∈vars (J.cls i)
 bk:(r=[]/\back=0)\/∃y r',r=y::r'/\back=J.lev y.natAbs/\∀u∈r,J.lev u.natAbs<=J.lev y.natAbs
section
variable {M:(Nat->Bool)->Prop} {J:Sg} {pl:Nat} {seen:Nat->Bool} {rest:List Int} {oc:Nat}
structure An (M:(Nat->Bool)->Prop) (J:Sg) (pl:Nat) (seen:Nat->Bool) (rest:List Int) (oc:Nat) (num:Nat) (sk:Int):Prop where
 A:Am M J pl seen rest oc
 lt:num<J.m
 no:∀u∈J.cls num,u≠sk -> -u∈J.trail.take pl
 st:(sk=0/\∃a b r,J.cls num=a::b::r/\J.lev a.natAbs=J.lim.length /\ -a∈J.trail.take pl)\/(J.trail[pl]? = some sk/\1<=oc/\Rv M J pl seen rest (some sk))
theorem An.next (B:Base J) (D:Dbx M J) (Z:L0 M J) {num:Nat} {sk:Int} (N:An M J pl seen rest oc num sk) {seen':Nat->Bool} {rest':List Int} {oc':Nat} (A':Am M J pl seen' rest' oc')
  (hmark:∀u∈J.cls num,u≠sk->1<=J.lev u.natAbs->seen' u.natAbs=true) (hsub:∀v,seen v=true->seen' v=true) (hrest:∀u∈rest,u∈rest') (hL:1<=J.lim.length):
  Rv M J pl seen' rest' none/\oc'≠0:=by
 have hz:sk=0->∀u∈J.cls num,u≠sk:=λh u hu e=>by
  have:=(D.lits num N.lt u hu).1
  rw [e,h] at this;simp at this
 constructor
 ·rcases N.st with q_ | q_
  ·refine B7 q_ λh0 _=>?_
   clear q_
   exact Rv.clause (sk:=none) (seen:=seen) (rest:=rest) B D Z N.lt (.inl rfl) (λu hu _=>N.no u hu (hz h0 u hu)) (λu hu _=>hmark u hu (hz h0 u hu)) hsub hrest A'.s2 (λu hu=>(A'.r1 u hu).1)
  ·refine E6 q_ λh1 _ hR=>?_
   clear q_
   exact Rv.clause (sk:=some sk) B D Z N.lt (.inr hR) (λu hu h=>N.no u hu (h sk rfl)) (λu hu h=>hmark u hu (h sk rfl)) hsub hrest A'.s2 (λu hu=>(A'.r1 u hu).1)
 ·rw [A'.c]
  rcases N.st with q_ | q_
  ·exists B7 q_ λh0 B3=>Q0 B3 λa b r C5=>E6 C5 λhc ha hm=>B5 ?_
   clear C5 q_
   have ham:a∈J.cls num:=by rw [hc];simp
   exact Be9 hm (by rw [Int.natAbs_neg];exact hmark a ham (hz h0 a ham) (o227 hL ha)) (by rw [Int.natAbs_neg];exact ha)
  ·refine E6 q_ λh1 h2 hR=>?_
   clear q_
   have:=N.A.c
   have hne:t5 J.lev J.lim.length seen (J.trail.take pl)≠0:=o236 h2 this
   exists C1 (Ae5 hne) λl B3=>E6 B3 λhl s1 s2=>B5 ?_
   exact Be9 hl (hsub _ s1) s2
theorem Bi6 {lev:Nat->Nat} {L:Nat} {seen:Nat->Bool} {xs:List Int} (h:∀l∈xs,seen l.natAbs=false):t5 lev L seen xs=0:=by
 unfold t5
 rw [List.filter_eq_nil_iff.mpr λl hl=>by rw [h l hl];simp];rfl
theorem An.pick (B:Base J) {seen':Nat->Bool} {rest':List Int} {oc':Nat} (A':Am M J pl seen' rest' oc') (hR:Rv M J pl seen' rest' none) (h0:oc'≠0) (hpl:pl<=J.trail.length) {q:Nat} {s:Int} (hq:q<pl) (hs:J.trail[q]? = some s) (hseen:seen' s.natAbs=true)
  (hno:∀q' l,q<q'->q'<pl->J.trail[q']? = some l->seen' l.natAbs=false):J.lev s.natAbs=J.lim.length/\oc'=t5 J.lev J.lim.length seen' (J.trail.take q)+1/\Am M J q seen' rest' (oc'-1)/\Rv M J q seen' rest' (some s):=by
 have hsplit:J.trail.take pl=J.trail.take q++s::(J.trail.drop (q+1)).take (pl-q-1):=by
  have h1:J.trail.take pl=(J.trail.take pl).take q++(J.trail.take pl).drop q:=(List.take_append_drop q _).symm
  rw [List.take_take,Nat.min_eq_left (Nat.le_of_lt hq),List.drop_take,l8 hs] at h1
  rw [h1,show pl-q=(pl-q-1)+1 by exact o237 hq,List.take_succ_cons]
  rfl
 have hun:∀l∈(J.trail.drop (q+1)).take (pl-q-1),seen' l.natAbs=false:=by
  intro l hl
  refine C1 (List.getElem?_of_mem hl) λt ht=>?_
  rw [List.getElem?_take] at ht
  split at ht
  ·rename_i hlt
   rw [List.getElem?_drop] at ht
   exact hno (q+1+t) l o238 (o239 hlt) ht
  ·cases ht
 have hz:=Bi6 (lev:=J.lev) (L:=J.lim.length) hun
 have hlev:J.lev s.natAbs=J.lim.length:=by
  have hne:t5 J.lev J.lim.length seen' (J.trail.take pl)≠0:=by rw [<-A'.c];exact h0
  exists C1 (Ae5 hne) λl B3=>E6 B3 λhl s1 s2=>B5 ?_
  refine C1 (List.getElem?_of_mem hl) λt ht=>?_
  rw [List.getElem?_take] at ht
  split at ht
  ·rename_i htl
   have htq:t<=q:=by
    rcases Nat.lt_or_ge q t with h | h
    ·have:=hno t l h htl ht
     rw [s1] at this;cases this
    ·exact h
   have h1:=B.lev t l ht
   have h2:=B.lev q s hs
   have h3:=Eb0 (lim:=J.lim) htq
   have h4:=Ah0 J.lim q
   exact o240 h2 h4 s2 h1 h3
  ·cases ht
 have hone:t5 J.lev J.lim.length seen' (s::(J.trail.drop (q+1)).take (pl-q-1))=1:=by
  unfold t5 at hz ⊢
  rw [List.filter_cons,if_pos (by simp [hseen,hlev]),List.length_cons,hz]
 have hcnt:oc'=t5 J.lev J.lim.length seen' (J.trail.take q)+1:=by rw [A'.c,hsplit,Cf9,hone]
 refine ⟨hlev,hcnt,⟨A'.r1,A'.r2,A'.s1,A'.s2,A'.s3,o241 hcnt⟩,λα hα=>?_⟩
 rcases hR α hα with h | q_ | q_
 ·exact .inl h
 ·exists C1 q_ λs' B3=>B7 B3 λe _=>B5 ?_
  clear q_
  cases e
 ·exists C1 q_ λl B3=>R7 B3 λh1 h2 h3 h4=>B5 ?_
  clear q_
  rw [hsplit] at h1
  rcases List.mem_append.mp h1 with h | h
  ·exact .inr (.inr ⟨l,h,h2,h3,h4⟩)
  ·rcases List.mem_cons.mp h with rfl | h
   ·exact .inr (.inl ⟨l,rfl,h4⟩)
   ·rw [hun l h] at h2;cases h2
theorem An.learn (B:Base J) {q:Nat} {s:Int} (A:Am M J q seen rest 0) (hR:Rv M J q seen rest (some s)) (hs:J.trail[q]? = some s) (hlev:J.lev s.natAbs=J.lim.length):
  (∀u∈rest,-u∈J.trail/\1<=J.lev u.natAbs/\J.lev u.natAbs<J.lim.length)/\s.natAbs∉vars rest/\∀α,M α->N6 α (-s)\/∃u∈rest,N6 α u:=by
 refine ⟨λu hu=>⟨(A.r1 u hu).1,(A.r1 u hu).2.1,(A.r1 u hu).2.2.1⟩,λh=>?_,λα hα=>?_⟩
 ·exists C1 (List.mem_map.mp h) λu B3=>B7 B3 λhu e=>B5 ?_
  have:=(A.r1 u hu).2.2.1
  rw [e] at this;exact o242 this hlev
 ·rcases hR α hα with h | q_ | q_
  ·exact .inr h
  ·exists C1 q_ λs' B3=>B7 B3 λe h=>B5 ?_
   clear q_
   cases e;exact .inl h
  ·exists C1 q_ λl B3=>R7 B3 λh1 h2 h3 h4=>B5 ?_
   clear q_
   have:=Be9 h1 h2 h3
   exact absurd A.c.symm this
theorem An.reason (B:Base J) (R:Reas J) (D:Dbx M J) {q:Nat} {s:Int} (A:Am M J q seen rest oc) (hR:Rv M J q seen rest (some s)) (hs:J.trail[q]? = some s) (hlev:J.lev s.natAbs=J.lim.length) (hL:1<=J.lim.length) (h0:oc≠0):
  ∃num:Nat,J.rea s.natAbs=num/\An M J q seen rest oc num s:=by
 rcases R q s hs with q_ | q_
 ·exists C1 q_ λi B3=>R7 B3 λh1 h2 h3 h4=>B5 ?_
  clear q_
  exact ⟨i,h1,A,h2,h4,.inr ⟨hs,o243 h0,hR⟩⟩
 ·refine B7 q_ λ_ h=>?_
  clear q_
  exfalso
  have hlv:=B.lev q s hs
  rw [hlev] at hlv
  have hall:∀q'∈J.lim,q'<=q:=by
   intro q' hq'
   rcases Nat.lt_or_ge q q' with h' | h'
   ·have hlt:lvl J.lim q<J.lim.length:=by
     unfold lvl
     refine Nat.lt_of_le_of_ne (List.length_filter_le _ _) λe=>?_
     have:=List.length_filter_eq_length_iff.mp e q' hq'
     simp at this;exact o244 h' this
    exact o245 hlt hlv
   ·exact h'
  rcases h with h | h
  ·have hne:t5 J.lev J.lim.length seen (J.trail.take q)≠0:=by rw [<-A.c];exact h0
   exists C1 (Ae5 hne) λl B3=>E6 B3 λhl s1 s2=>B5 ?_
   refine C1 (List.getElem?_of_mem hl) λt ht=>?_
   rw [List.getElem?_take] at ht
   split at ht
   ·rename_i htq
    have h2:=B.lev t l ht
    rw [s2] at h2
    have hlt:lvl J.lim t<J.lim.length:=by
     unfold lvl
     refine Nat.lt_of_le_of_ne (List.length_filter_le _ _) λe=>?_
     have:=List.length_filter_eq_length_iff.mp e q h
     simp at this;exact o244 htq this
    exact o246 hlt h2
   ·cases ht
  ·cases hlim:J.lim with
   | nil=>rw [hlim] at hL;simp at hL
   | cons a r=>
    have hm:a∈J.lim:=by rw [hlim];simp
    have:=h a hm
    have:=hall a hm
    exact o244 ‹_› this
end
theorem Cfl.start {M:(Nat->Bool)->Prop} {J:Sg} {c:Nat} (C:Cfl M J c) (hL:1<=J.lim.length):An M J J.trail.length (λ_=>false) [] 0 c 0:=by
 refine Q0 (C.D.ok c C.lt) λa b r hc=>?_
 exists C1 C.V λp B3=>E6 B3 λhp1 hp2 hV=>B5 ?_
 refine ⟨⟨λu hu=>by simp at hu,by simp [vars],λv hv=>by simp at hv,λv hv=>by simp at hv,λv hv=>by simp at hv,?_⟩,C.lt,λu hu _=>by rw [List.take_length];exact C.no u hu,.inl ⟨rfl,a,b,r,hc,?_,by rw [List.take_length];exact C.no a (by rw [hc];simp)⟩⟩
 ·exact (Bi6 λl _=>rfl).symm
 ·have hna:=C.no a (by rw [hc];simp)
  have hnb:=C.no b (by rw [hc];simp)
  refine C1 (List.getElem?_of_mem hna) λt ht=>?_
  have hlv:=C.B.lev t (-a) ht
  rw [Int.natAbs_neg] at hlv
  rw [hlv]
  refine z7 λq hq=>?_
  rcases Nat.lt_or_ge t p with h | h
  ·have hin: -a∈J.trail.take p:=by
    refine List.mem_of_getElem? (i:=t) ?_
    rw [List.getElem?_take,if_pos h];exact ht
   have hbt:=((hV c C.lt a b r hc).1 hin).1
   exact absurd hnb (C.B.noNeg hbt)
  ·exact Nat.le_trans (hp1 q hq) h
theorem Bb2 {K:Calls G9} {H:Hq} {l:Lq} {ss:Ss} {Q:Fl G9->Lq->Hq->Prop} {o:E} {m:Fn} {args:Es} {n:G9} {k:Kl} {f:At->Option Vl} {vs:List Vl} (hK:D5 K) (ho:pE H l o=some (.ref n)) (hn:H n=some (.inst k f)) (hk:m.kl=some k) (ha:c9 H l args=some vs)
  (q:K m (.ref n::vs) (λv H'=>Q (.ret v) l H') H):C2 K (.cons (.ret (.meth o m args)) ss) Q l H:=
 D3 (e:=o) hK ho ⟨n,k,f,rfl,hn,hk,J' (es:=args) hK ha q⟩
theorem Am.act {M:(Nat->Bool)->Prop} {J:Sg} {pl:Nat} {seen:Nat->Bool} {rest:List Int} {oc:Nat} (A:Am M J pl seen rest oc) (act:Nat->Int) (step:Int):Am M (J.wA act step) pl seen rest oc:=⟨A.r1,A.r2,A.s1,A.s2,A.s3,A.c⟩
theorem Am.unact {M:(Nat->Bool)->Prop} {J:Sg} {pl:Nat} {seen:Nat->Bool} {rest:List Int} {oc:Nat} {act:Nat->Int} {step:Int} (A:Am M (J.wA act step) pl seen rest oc):Am M J pl seen rest oc:=⟨A.r1,A.r2,A.s1,A.s2,A.s3,A.c⟩
theorem Db4 {r:List Int} {p:Nat} {y z:Int} (hy:r[p]? = some y) (hz:r[0]? = some z):((r.set 0 y).set p z).Perm r/\∃r',(r.set 0 y).set p z=y::r':=by
 cases r with
 | nil=>simp at hz
 | cons w t=>
  simp at hz;subst hz
  cases p with
  | zero=>simp at hy;subst hy;exact ⟨.refl _,t,rfl⟩
  | succ p=>
   have hy':t[p]? = some y:=hy
   exact ⟨(Af0 hy' w).symm,t.set p w,rfl⟩
inductive AI (M:(Nat->Bool)->Prop) (H:Hq) (ν:Nu) (J:Sg) (m:Nat) (l:Lq) (H1:Hq):Prop
 | mk (act:Nat->Int) (step:Int) (seen:Nat->Bool) (rest:List Int) (oc num:Nat) (sk:Int) (a:l .self=some (.ref (.self,ν.self))) (b:l .seen=some (.ref (.seen,ν.tk))) (c:l .rest=some (.ref (.rest2,ν.tk+1))) (d:l .open_count=some (.int (oc:Nat)))
  (e:l .place=some (.int (m:Nat))) (f:l .number=some (.int (num:Nat))) (g:l .skipped=some (.int sk)) (h:m<=J.trail.length) (i:Sv H1 (ν.wT (ν.tk+1+1)) (J.wA act step)) (j:H1 (.seen,ν.tk)=some (.list (U1 J.n seen)))
  (k:H1 (.rest2,ν.tk+1)=some (.list (C8 rest))) (n:An M J m seen rest oc num sk) (o:∀t j,Q3 t=false->t ≠ .seen->t ≠ .rest2->H1 (t,j)=H (t,j))
inductive AJ (M:(Nat->Bool)->Prop) (H:Hq) (ν:Nu) (J:Sg) (m num:Nat) (sk:Int) (seen:Nat->Bool) (rest:List Int) (j:Nat) (l2:Lq) (H2:Hq):Prop
 | mk (act:Nat->Int) (step:Int) (seen':Nat->Bool) (rest':List Int) (oc':Nat) (a:l2 .self=some (.ref (.self,ν.self))) (b:l2 .seen=some (.ref (.seen,ν.tk))) (c:l2 .rest=some (.ref (.rest2,ν.tk+1))) (d:l2 .open_count=some (.int (oc':Nat)))
  (e:l2 .place=some (.int (m:Nat))) (f:l2 .number=some (.int (num:Nat))) (g:l2 .skipped=some (.int sk)) (h:Sv H2 (ν.wT (ν.tk+1+1)) (J.wA act step)) (i:H2 (.seen,ν.tk)=some (.list (U1 J.n seen')))
  (k:H2 (.rest2,ν.tk+1)=some (.list (C8 rest'))) (n:Am M J m seen' rest' oc') (o:∀t j,Q3 t=false->t ≠ .seen->t ≠ .rest2->H2 (t,j)=H (t,j))
  (p:∀i u,i<j->(J.cls num)[i]? = some u->u≠sk->1<=J.lev u.natAbs->seen' u.natAbs=true) (q:∀v,seen v=true->seen' v=true) (r:∀u∈rest,u∈rest')
theorem De3 {k:Nat} {M:(Nat->Bool)->Prop} {H:Hq} {ν:Nu} {J:Sg} {b c:Nat} (S:Sv H ν J) (C:Cfl M J c) (hL:1<=J.lim.length) (Z:Sz b J) {Q:Vl->Hq->Prop}
  (q:∀H' ν' act step j x r back,Sv H' ν' (J.wA act step)->H' (.cls J.m,j)=some (.list (C8 (x::r)))->La M J x r back->(∀t j,Q3 t=false->t ≠ .seen->t ≠ .rest2->H' (t,j)=H (t,j))->ν'.self=ν.self->ν.tk<=ν'.tk ->
   Q (.tup [.ref (.cls J.m,j),.int (back:Nat)]) H'):C9 (k+3) .analyze [.ref (.self,ν.self),.int c] Q H:=by
 have hK:=C7 (k+1)
 have hn:=Z.n
 have hle:=Z.le
 have htr:=Z.trail
 refine D0 rfl ?_
 show C2 (C9 (k+2)) Bb6 _ _ _
 refine Aa4 hK (v:=.bool false) (k:=(J.n+1:Nat)) rfl (D8 (y:=1) (D6 S rfl .count) rfl) o73 (o174 hn (by decide)) trivial (.seen,ν.tk) (S.fresh _ _ (Nat.le_refl _)) ?_
 rw [show (((J.n+1:Nat):Int)).toNat=J.n+1 by exact o77,Cb0]
 have S1:=S.alloc .seen (.list (U1 J.n λ_=>false))
 refine T0 hK (vs:=[]) rfl (by decide) (.rest2,ν.tk+1) (S1.fresh _ _ (Nat.le_refl _)) ?_
 have S2:=S1.alloc .rest2 (.list [])
 refine J2 hK (v:=.int 0) rfl ?_
 refine J2 hK (v:=.int J.trail.length) (d0 S2 Z rfl) ?_
 refine J2 hK (v:=.int c) rfl ?_
 refine J2 hK (v:=.int 0) rfl ?_
 refine U' hK (AI M H ν J) J.trail.length
  ⟨J.act,J.step,λ_=>false,[],0,c,0,rfl,rfl,rfl,rfl,rfl,rfl,rfl,Nat.le_refl _,S2,(B2 (C6 rfl)).trans D2,D2,C.start hL,λt j ht h1 h2=>by
   rw [B2 (by intro e;cases e;exact h2 rfl),B2 (by intro e;cases e;exact h1 rfl)]⟩ ?_
 intro m l1 H1 q_
 obtain ⟨act,step,seen,rest,oc,num,sk,e1,e2,e3,e4,e5,e6,e7,hm,S3,hs3,hr3,N,hfr⟩:=q_
 refine ⟨true,rfl,?_⟩
 rw [if_pos rfl]
 have e1':l1 .self=some (.ref (.self,ν.self)):=e1
 have Z3:Sz b (J.wA act step):=Z.of rfl rfl rfl rfl rfl rfl rfl
 have hrest:∀{seen:Nat->Bool} {rest:List Int} {oc:Nat},Am M J m seen rest oc->rest.length<1000:=λA=>by
  have:=Y8 (n:=J.n) A.r2 λu hu=>by
   have:=C.B.lit _ (A.r1 u hu).1
   rw [Int.natAbs_neg] at this;exact this
  exact o212 this hn
 have hcl:H1 (.cls num,ν.cl num)=some (.list (C8 (J.cls num))):=S3.cls num N.lt
 refine V8 (e:=.sub (.attr (.var .self) .clauses) (.var .number)) (n:=(.cls num,ν.cl num)) hK (Ab2 S3 Z3 e1 e6 N.lt) hcl
  (AJ M H ν J m num sk seen rest)
  ⟨act,step,seen,rest,oc,e1,e2,e3,e4,e5,e6,e7,S3,hs3,hr3,N.A,hfr,λi u hi=>absurd hi (Nat.not_lt_zero _),λ_ h=>h,λ_ h=>h⟩ ?_
 intro j l2 H2 q_
 obtain ⟨act2,step2,seen2,rest2,oc2,a1,a2,a3,a4,a5,a6,a7,S4,hs4,hr4,A4,hfr4,hmk,hsub,hrs⟩:=q_
 have Z4:Sz b (J.wA act2 step2):=Z.of rfl rfl rfl rfl rfl rfl rfl
 refine ⟨S4.cls num N.lt,λhend=>?_,λv hv=>?_⟩
 ·have hjl:(J.cls num).length<=j:=by rw [List.getElem?_eq_none_iff,C3] at hend;exact hend
  have hall:∀u∈J.cls num,u≠sk->1<=J.lev u.natAbs->seen2 u.natAbs=true:=λu hu h1 h2=>by
   refine C1 (List.getElem?_of_mem hu) λi hi=>?_
   have:=(List.getElem?_eq_some_iff.mp hi).1
   exact hmk i u (o164 this hjl) hi h1 h2
  refine B7 (N.next C.B C.D C.Z A4 hall hsub hrs hL) λhRv hoc=>?_
  obtain ⟨t0,hs0⟩:∃t,t<m/\∃l,J.trail[t]? = some l/\seen2 l.natAbs=true:=by
   have hne:t5 J.lev J.lim.length seen2 (J.trail.take m)≠0:=by rw [<-A4.c];exact hoc
   obtain ⟨l,hl,s1,s2⟩:=Ae5 hne
   refine C1 (List.getElem?_of_mem hl) λt ht=>?_
   rw [List.getElem?_take] at ht
   split at ht
   ·rename_i h;exact ⟨t,h,l,ht,s1⟩
   ·cases ht
  refine J2 hK (v:=.int ((m-1:Nat):Int)) ?_ ?_
  ·rw [D8 (a:=.var .place) (x:=(m:Int)) (y:=1) a5 rfl]
   show some (V.int ((m:Int)-1))=_
   rw [show ((m:Int)-1)=((m-1:Nat):Int) by exact o247 hs0]
  refine U' hK (λp l3 H3=>H3=H2/\t0<=p/\p<m/\(∀y,y ≠ .place->l3 y=l2 y)/\l3 .place=some (.int (p:Nat))/\∀q' l,p<q'->q'<m->J.trail[q']? = some l->seen2 l.natAbs=false) (m-1) ?_ ?_
  ·refine ⟨rfl,?_,?_,λy hy=>?_,rfl,λq' l h1 h2=>?_⟩
   ·have:=hs0.1;exact o248 hs0
   ·have:=hs0.1;exact o249 hs0
   ·unfold Lc.set;rw [if_neg hy]
   ·exact o250 h1 h2
  intro p l3 H3 q_
  refine byc λB5=>B7 q_ λC' B3=>?_
  clear q_
  subst C'
  refine un5 B3 λhp1 hp2 hl3 hpl hno=>B5 ?_
  clear B3 B5
  have hpt:p<J.trail.length:=o164 hp2 hm
  have hsx:J.trail[p]? = some J.trail[p]:=List.getElem?_eq_getElem hpt
  generalize hsxx:J.trail[p]=s at hsx
  have hsn:=C.B.lit s (List.mem_of_getElem? hsx)
  have b1:l3 .self=some (.ref (.self,ν.self)):=(hl3 .self (by decide)).trans a1
  have b2:l3 .seen=some (.ref (.seen,ν.tk)):=(hl3 .seen (by decide)).trans a2
  have b3:l3 .rest=some (.ref (.rest2,ν.tk+1)):=(hl3 .rest (by decide)).trans a3
  have b4:l3 .open_count=some (.int (oc2:Nat)):=(hl3 .open_count (by decide)).trans a4
  have gt:pE H3 l3 (.sub (.attr (.var .self) .trail) (.var .place))=some (.int s):=
   (J4 (i:=.var .place) (D6 S4 b1 .trail) hpl S4.trail).trans (J7 hsx (by show J.trail.length<_;exact o75 htr hle (by decide)))
  have gs:=Af8 (N0 (Ad8 (e:=.var .seen) (k:=s.natAbs) b2 (Af6 gt) hs4 hsn.2 hn))
  refine ⟨_,gs,?_⟩
  cases hseen:seen2 s.natAbs with
  | false=>
   rw [if_pos (show (!false)=true from rfl)]
   have hne:p≠t0:=by
    rintro rfl
    exists B7 hs0 λ_ B3=>C1 B3 λl C5=>B7 C5 λh2 h3=>B5 ?_
    clear C5 hs0
    rw [hsx] at h2;cases h2
    rw [hseen] at h3;cases h3
   refine J2 hK (v:=.int ((p-1:Nat):Int)) ?_ (C0 ⟨p-1,o251 hne hp1,rfl,o252 hp1 hne,o253 hp2,λy hy=>?_,rfl,λq' l h1 h2 h3=>?_⟩)
   ·rw [D8 (a:=.var .place) (x:=(p:Int)) (y:=1) hpl rfl]
    show some (V.int ((p:Int)-1))=_
    rw [show ((p:Int)-1)=((p-1:Nat):Int) by exact o254 hne hp1]
   ·unfold Lc.set;rw [if_neg hy];exact hl3 y hy
   ·by_cases hqp:q'=p
    ·subst hqp;rw [hsx] at h3;cases h3;exact hseen
    ·exact hno q' l (o255 h1 hqp) h2 h3
  | true=>
   rw [if_neg (show ¬(!true)=true by decide)]
   refine R7 (An.pick C.B A4 hRv hoc hm hp2 hsx hseen hno) λhlev hcnt A5 hR5=>?_
   refine J2 hK gt ?_
   refine J2 hK (v:=.int ((oc2-1:Nat):Int)) ?_ ?_
   ·refine (D8 (H:=H3) (l:=l3.set .skipped (V.int s)) (op:=.sub) (a:=.var .open_count) (b:=.int 1) (x:=(oc2:Int)) (y:=1) b4 rfl).trans ?_
    show some (V.int ((oc2:Int)-1))=_
    rw [show ((oc2:Int)-1)=((oc2-1:Nat):Int) by exact o256 hcnt]
   have c0:=E0 (op:=.eq) (a:=.var .open_count) (b:=.int 0) (l:=(l3.set .skipped (V.int s)).set .open_count (.int ((oc2-1:Nat):Int))) (H:=H3) (x:=((oc2-1:Nat):Int)) (y:=0) rfl rfl
   by_cases hz:oc2-1=0
   ·refine G6 hK (by rw [c0];show some (((oc2-1:Nat):Int)==0)=_;rw [hz];rfl) ?_
    rw [hz] at A5
    refine E6 (An.learn C.B A5 hR5 hsx hlev) λL1 L2 L3=>?_
    have hV:∀u ∈ -s::rest2,∃i,i<J.m/\u.natAbs∈vars (J.cls i):=λu hu=>by
     rcases List.mem_cons.mp hu with rfl | hu
     ·rw [Int.natAbs_neg];exact A4.s3 _ hseen
     ·exact A4.s3 _ (A4.r1 u hu).2.2.2
    have hnd:(vars (-s::rest2)).Nodup:=by
     show ((-s).natAbs::vars rest2).Nodup
     rw [Int.natAbs_neg,List.nodup_cons];exact ⟨L2,A4.r2⟩
    have hx1: - -s∈J.trail:=by rw [Int.neg_neg];exact List.mem_of_getElem? hsx
    have hx2:J.lev (-s).natAbs=J.lim.length:=by rw [Int.natAbs_neg];exact hlev
    refine Bb2 hK (n:=(.self,ν.self)) (vs:=[.int (-s),.ref (.rest2,ν.tk+1)]) b1 S4.self rfl (B9 ?_ (B9 (e:=.var .rest) b3 rfl)) ?_
    ·rfl
    refine De2 (k:=k) (x:= -s) (r:=rest2) S4 Z4 hr4 (hrest A4) (λu hu=>?_) (λhr0=>?_) (λpp y z hy hz' hall'=>?_)
    ·have:=(C.B.lit _ (A4.r1 u hu).1).2
     rw [Int.natAbs_neg] at this;exact this
    ·subst hr0
     refine q _ _ act2 step2 _ (-s) [] 0 (S4.alloc (.cls J.m) (.list (C8 [-s]))) D2 ⟨hx1,hx2,λu hu=>by simp at hu,hnd,λα hα=>?_,hV,.inl ⟨rfl,rfl⟩⟩ (λt j ht h1 h2=>?_) rfl (by show ν.tk<=ν.tk+1+1+1;exact o257)
     ·rcases L3 α hα with h | q_
      ·exact ⟨-s,by simp,h⟩
      ·exists C1 q_ λu B3=>B7 B3 λhu _=>B5 ?_
       clear q_
       simp at hu
     ·rw [B2 (by intro e;cases e;cases ht)];exact hfr4 t j ht h1 h2
    ·exists B7 (Db4 hy hz') λhperm B3=>C1 B3 λr'' er=>B5 ?_
     have S5:=S4.other (t:=.rest2) (j:=ν.tk+1) (o':=.list (C8 (rest2.set 0 y))) rfl hr4
     have S6:=S5.other (t:=.rest2) (j:=ν.tk+1) (o':=.list (C8 ((rest2.set 0 y).set pp z))) rfl D2
     refine q _ _ act2 step2 _ (-s) ((rest2.set 0 y).set pp z) (J.lev y.natAbs) (S6.alloc (.cls J.m) (.list (C8 (-s::(rest2.set 0 y).set pp z)))) D2 ⟨hx1,hx2,λu hu=>L1 u (hperm.mem_iff.mp hu),?_,λα hα=>?_,λu hu=>?_,.inr ⟨y,r'',er,rfl,λu hu=>hall' u (hperm.mem_iff.mp hu)⟩⟩ (λt j ht h1 h2=>?_) rfl (by show ν.tk<=ν.tk+1+1+1;exact o257)
     ·exact (((hperm.cons (-s)).map Int.natAbs).nodup_iff).mpr hnd
     ·rcases L3 α hα with h | q_
      ·exact ⟨-s,by simp,h⟩
      ·exists C1 q_ λu B3=>B7 B3 λhu h=>B5 ?_
       clear q_
       exact ⟨u,List.mem_cons_of_mem _ (hperm.mem_iff.mpr hu),h⟩
     ·exact hV u ((hperm.cons (-s)).mem_iff.mp hu)
     ·rw [B2 (by intro e;cases e;cases ht),B2 (by intro e;cases e;exact h2 rfl),B2 (by intro e;cases e;exact h2 rfl)];exact hfr4 t j ht h1 h2
   ·refine E9 hK (by rw [c0];show some (((oc2-1:Nat):Int)==0)=_;simp;exact o8 hz) (C0 (B6 ?_))
    exists C1 (An.reason C.B C.R C.D A5 hR5 hsx hlev hL hz) λnum' B3=>B7 B3 λhnum N'=>B5 ?_
    have gn:=U2 (l:=(l3.set .skipped (V.int s)).set .open_count (.int ((oc2-1:Nat):Int))) (i:=.bi .abs (.var .skipped)) (k:=s.natAbs) Z4 (D6 (l:=(l3.set .skipped (V.int s)).set .open_count (.int ((oc2-1:Nat):Int))) S4 b1 .reasons) (Af6 (e:=.var .skipped) rfl) S4.reasons o73 (by show (s.natAbs:Int)<=(J.n:Int);exact o258 hsn)
    refine J2 hK (v:=.int (num':Nat)) ?_ (C0 ⟨p,hp2,act2,step2,seen2,rest2,oc2-1,num',s,b1,b2,b3,rfl,hpl,rfl,rfl,o112 hpt,S4,hs4,hr4,N',hfr4⟩)
    rw [gn]
    show some (V.int (J.rea s.natAbs))=_
    rw [hnum]
 ·unfold C8 at hv
  rw [List.getElem?_map] at hv
  cases hu:(J.cls num)[j]? with
  | none=>rw [hu] at hv;cases hv
  | some u=>
   rw [hu] at hv;cases hv
   refine ⟨l2.set .literal (.int u),rfl,?_⟩
   have hum:=List.mem_of_getElem? hu
   have B4:Base (J.wA act2 step2):=⟨C.B.lit,C.B.nd,C.B.val,C.B.inc,C.B.lt,C.B.lev,C.B.pha⟩
   refine Eb3 (k:=k) (M:=M) (l:=l2.set .literal (.int u)) S4 B4 Z4 (A4.act act2 step2) hL ⟨num,N.lt,List.mem_map_of_mem hum⟩ (C.D.lits num N.lt u hum).2 (λh=>N.no u hum h) a1 a2 a3 a4 a7 rfl hs4 hr4 (hrest A4) λH3 σ' seen3 rest3 oc3 l3 S5 A5 hst hs5 hr5 hfr5 hl3 hoc hm5 hsub5 hrs5=>?_
   refine J8 hst λact3 step3 C'=>?_
   clear hst
   subst C'
   refine ⟨act3,step3,seen3,rest3,oc3,?_,?_,?_,hoc,?_,?_,?_,S5,hs5,hr5,A5.unact.unact,λt j ht h1 h2=>(hfr5 t j ht (by intro e;cases e;exact h1 rfl) (by intro e;cases e;exact h2 rfl)).trans (hfr4 t j ht h1 h2),λi w hi hw hne hl=>?_,λv hv=>hsub5 v (hsub v hv),λw hw=>hrs5 w (hrs w hw)⟩
   ·rw [hl3 _ (by decide) (by decide)];exact a1
   ·rw [hl3 _ (by decide) (by decide)];exact a2
   ·rw [hl3 _ (by decide) (by decide)];exact a3
   ·rw [hl3 _ (by decide) (by decide)];exact a5
   ·rw [hl3 _ (by decide) (by decide)];exact a6
   ·rw [hl3 _ (by decide) (by decide)];exact a7
   ·by_cases hij:i=j
    ·subst hij;rw [hu] at hw;cases hw;exact hm5 hne hl
    ·exact hsub5 _ (hmk i w (o91 hi hij) hw hne hl)
section lims
variable {lim:List Nat} {L q:Nat}
theorem Ah1 (a b:List Nat) (p:Nat):lvl (a++b) p=lvl a p+lvl b p:=by
 unfold lvl;rw [List.filter_append,List.length_append]
theorem Ae2 (inc:lim.Pairwise (· < ·)) (hq:lim[L]? = some q):(∀q'∈lim.take L,q'<q)/\∀q'∈lim.drop L,q<=q':=by
 obtain ⟨hL,e⟩:=List.getElem?_eq_some_iff.mp hq
 constructor
 ·intro q' hq'
  obtain ⟨i,hi,e'⟩:=List.mem_iff_getElem.mp hq'
  rw [List.length_take] at hi
  rw [List.getElem_take] at e'
  have:=List.pairwise_iff_getElem.mp inc i L (o191 hi) hL (o192 hi)
  rw [e',e] at this;exact this
 ·intro q' hq'
  obtain ⟨i,hi,e'⟩:=List.mem_iff_getElem.mp hq'
  rw [List.length_drop] at hi
  rw [List.getElem_drop] at e'
  rcases Nat.eq_zero_or_pos i with hz | hz
  ·subst hz
   simp only [Nat.add_zero] at e'
   rw [<-e',e];exact Nat.le_refl _
  ·have:=List.pairwise_iff_getElem.mp inc L (L+i) hL (o193 hi) (o194 hz)
   rw [e',e] at this
   exact Nat.le_of_lt this
theorem lvl_lt (inc:lim.Pairwise (· < ·)) (hq:lim[L]? = some q) {p:Nat} (h:p<q):lvl lim p<=L:=by
 have hs:lim=lim.take L++lim.drop L:=(List.take_append_drop L lim).symm
 have hz:lvl (lim.drop L) p=0:=by
  unfold lvl
  rw [List.filter_eq_nil_iff.mpr λq' hq'=>by have:=(Ae2 inc hq).2 q' hq';simp;exact o164 h this];rfl
 rw [hs,Ah1,hz]
 have:=Ah0 (lim.take L) p
 rw [List.length_take] at this;exact o259 this
theorem lvl_ge (inc:lim.Pairwise (· < ·)) (hq:lim[L]? = some q) {p:Nat} (h:q<=p):L<lvl lim p:=by
 have hL:=(List.getElem?_eq_some_iff.mp hq).1
 have hs:lim=lim.take (L+1)++lim.drop (L+1):=(List.take_append_drop (L+1) lim).symm
 have ha:lvl (lim.take (L+1)) p=L+1:=by
  rw [z7,List.length_take]
  ·exact o260 hL
  ·intro q' hq'
   rw [List.take_add_one,hq] at hq'
   rcases List.mem_append.mp hq' with h' | h'
   ·have:=(Ae2 inc hq).1 q' h';exact o261 this h
   ·simp at h';exact o51 h' h
 rw [hs,Ah1,ha];exact o238
end lims
def Closed (A c:List Int):Prop:=(∃l∈c,l∈A)\/∃l∈c,∃l'∈c,l≠l' /\ -l∉A /\ -l'∉A
theorem Closed.sub {A c d:List Int} (h:∀l∈c,l∈d):Closed A c->Closed A d
 | .inl ⟨l,a,b⟩=>.inl ⟨l,h l a,b⟩
 | .inr ⟨l,a,l',b,c⟩=>.inr ⟨l,h l a,l',h l' b,c⟩
structure Pre (M:(Nat->Bool)->Prop) (J:Sg):Prop where
 B:Base J
 D:Dbx M J
 R:Reas J
 Z:L0 M J
 W:Wx J.m J.cls J.rows
 V:∃p,(∀q∈J.lim,q<=p)/\Vx J p
section
variable {M:(Nat->Bool)->Prop} {J:Sg}
theorem Inv.pre (I:Inv M J):Pre M J:=⟨I.B,I.D,I.R,I.Z,I.W,J.head,I.top,I.V⟩
theorem Cfl.pre {c:Nat} (I:Cfl M J c):Pre M J:=⟨I.B,I.D,I.R,I.Z,I.W,let ⟨p,a,_,b⟩:=I.V;⟨p,a,b⟩⟩
theorem Base.take_lev (B:Base J) {L q:Nat} (hq:J.lim[L]? = some q) {l:Int}:l∈J.trail.take q↔l∈J.trail/\J.lev l.natAbs<=L:=by
 constructor
 ·intro h
  refine ⟨List.mem_of_mem_take h,?_⟩
  refine C1 (List.getElem?_of_mem h) λp hp=>?_
  rw [List.getElem?_take] at hp
  split at hp
  ·rename_i hpq
   rw [B.lev p l hp];exact lvl_lt B.inc hq hpq
  ·cases hp
 ·intro q_
  refine B7 q_ λh hl=>?_
  clear q_
  refine C1 (List.getElem?_of_mem h) λp hp=>?_
  rw [B.lev p l hp] at hl
  have hpq:p<q:=by
   rcases Nat.lt_or_ge p q with h' | h'
   ·exact h'
   ·have:=lvl_ge B.inc hq h';exact o262 this hl
  refine List.mem_of_getElem? (i:=p) ?_
  rw [List.getElem?_take,if_pos hpq];exact hp
theorem Pre.cancel (P:Pre M J) {L q:Nat} (hq:J.lim[L]? = some q):Inv M {J.cut q with lim:=J.lim.take L,head:=q}:=by
 have hqm:q∈J.lim:=List.mem_of_getElem? hq
 have hql:=P.B.lt q hqm
 refine B7 (Ae2 P.B.inc hq) λhlt hge=>?_
 refine ⟨P.B.cancel hq,⟨P.D.ok,P.D.lits,P.D.nd,P.D.ent⟩,λp l hp=>?_,λl hl hl0 α hα=>P.Z l (List.mem_of_mem_take hl) hl0 α hα,P.W,λi hi a b r e=>?_,?_,λq' hq'=>Nat.le_of_lt (hlt q' hq')⟩
 ·have hp':(J.trail.take q)[p]? = some l:=hp
  rw [List.getElem?_take] at hp'
  split at hp'
  ·rename_i hpq
   rcases P.R p l hp' with q_ | q_
   ·exists C1 q_ λi B3=>R7 B3 λh1 h2 h3 h4=>B5 ?_
    clear q_
    refine .inl ⟨i,h1,h2,h3,λu hu hne=>?_⟩
    show -u∈(J.trail.take q).take p
    rw [List.take_take,Nat.min_eq_left (Nat.le_of_lt hpq)];exact h4 u hu hne
   ·refine B7 q_ λh1 h2=>?_
    clear q_
    refine .inr ⟨h1,?_⟩
    rcases h2 with h2 | h2
    ·rw [<-List.take_append_drop L J.lim] at h2
     rcases List.mem_append.mp h2 with h | h
     ·exact .inl h
     ·have:=hge p h;exact o262 hpq this
    ·exact .inr λq' hq'=>h2 q' (List.mem_of_mem_take hq')
  ·cases hp'
 ·exists C1 P.V λp0 B3=>B7 B3 λhp1 hp2=>B5 ?_
  have hqp:=hp1 q hqm
  refine B7 (hp2 i hi a b r e) λw1 w2=>?_
  have key:∀x y:Int,(-x∈J.trail.take p0->y∈J.trail/\J.lev y.natAbs<=J.lev x.natAbs) -> -x∈(J.trail.take q).take q->y∈J.trail.take q/\J.lev y.natAbs<=J.lev x.natAbs:=by
   intro x y w hx
   rw [List.take_take,Nat.min_self] at hx
   have hx2: -x∈J.trail.take p0:=by
    have:J.trail.take q=(J.trail.take p0).take q:=by rw [List.take_take,Nat.min_eq_left hqp]
    rw [this] at hx;exact List.mem_of_mem_take hx
   refine B7 (w hx2) λy1 y2=>?_
   have hxl:=((P.B.take_lev hq).mp hx).2
   rw [Int.natAbs_neg] at hxl
   exact ⟨(P.B.take_lev hq).mpr ⟨y1,o10 y2 hxl⟩,y2⟩
  exact ⟨key a b w1,key b a w2⟩
 ·show q<=(J.trail.take q).length
  rw [List.length_take];exact o263 hql
theorem Inv.closed (I:Inv M J) (h:J.head=J.trail.length) {i:Nat} (hi:i<J.m):Closed J.trail (J.cls i):=by
 refine Q0 (I.D.ok i hi) λa b r e=>?_
 refine B7 (I.V i hi a b r e) λw1 w2=>?_
 rw [h,List.take_length] at w1 w2
 rw [e]
 by_cases ha: -a∈J.trail
 ·exact .inl ⟨b,by simp,(w1 ha).1⟩
 by_cases hb: -b∈J.trail
 ·exact .inl ⟨a,by simp,(w2 hb).1⟩
 refine .inr ⟨a,by simp,b,by simp,?_,ha,hb⟩
 rintro rfl
 have:=I.D.nd i hi
 rw [e] at this
 simp [vars] at this
theorem Wx.attach {m:Nat} {cls:Nat->List Int} {rows:Nat->List Nat} (W:Wx m cls rows) {x y:Int} {r:List Int} (hxy:B8 x≠B8 y):
  Wx (m+1) (D4 cls m (x::y::r)) (G4 (G4 rows (B8 x) m) (B8 y) m):=by
 have hm:∀s,m∉rows s:=λs h=>absurd (W.lt s m h) (Nat.lt_irrefl _)
 have mem:∀i s,i∈G4 (G4 rows (B8 x) m) (B8 y) m s↔i∈rows s\/(i=m/\(s=B8 x\/s=B8 y)):=by
  intro i s
  unfold G4
  by_cases h1:s=B8 y
  ·rw [if_pos h1]
   by_cases h2:s=B8 x
   ·exact absurd (h2.symm.trans h1) hxy
   ·rw [if_neg h2];simp [h1]
  ·rw [if_neg h1]
   by_cases h2:s=B8 x
   ·rw [if_pos h2];simp [h2]
   ·rw [if_neg h2];simp [h1,h2]
 refine ⟨λi hi a b r' e s=>?_,λs=>?_,λs i hi=>?_⟩
 ·rw [mem]
  unfold D4 at e
  by_cases h:i=m
  ·rw [if_pos h] at e;cases e
   subst h
   simp [hm]
  ·rw [if_neg h] at e
   rw [<-W.ex i (o91 hi h) a b r' e s]
   simp [h]
 ·unfold G4
  have h0:=W.nd s
  by_cases h1:s=B8 y
  ·rw [if_pos h1]
   by_cases h2:s=B8 x
   ·exact absurd (h2.symm.trans h1) hxy
   ·rw [if_neg h2,List.nodup_append]
    exact ⟨h0,by simp,λa ha b hb e=>by simp at hb;subst hb;subst e;exact hm _ ha⟩
  ·rw [if_neg h1]
   by_cases h2:s=B8 x
   ·rw [if_pos h2,List.nodup_append]
    exact ⟨h0,by simp,λa ha b hb e=>by simp at hb;subst hb;subst e;exact hm _ ha⟩
   ·rw [if_neg h2];exact h0
 ·rcases (mem i s).mp hi with h | q_
  ·have:=W.lt s i h;exact o92 this
  ·refine B7 q_ λh _=>?_
   clear q_
   exact o264 h
theorem Dbx.attach (D:Dbx M J) {x y:Int} {r:List Int} (h1:∀l∈x::y::r,1<=l.natAbs/\l.natAbs<=J.n) (h2:(vars (x::y::r)).Nodup) (h3:∀α,M α->S0 α (x::y::r)):Dbx M (J.attach (x::y::r) x y):=by
 have split:∀i,i<J.m+1->(i=J.m/\D4 J.cls J.m (x::y::r) i=x::y::r)\/(i<J.m/\D4 J.cls J.m (x::y::r) i=J.cls i):=by
  intro i hi
  unfold D4
  by_cases h:i=J.m
  ·exact .inl ⟨h,by rw [if_pos h]⟩
  ·exact .inr ⟨o91 hi h,by rw [if_neg h]⟩
 refine ⟨λi hi=>?_,λi hi l hl=>?_,λi hi=>?_,λi hi α hα=>?_⟩
 ·show ∃a b r',D4 J.cls J.m (x::y::r) i=a::b::r'
  rcases split i hi with q_ | q_
  ·refine B7 q_ λ_ e=>?_
   clear q_
   rw [e];exact ⟨_,_,_,rfl⟩
  ·refine B7 q_ λh e=>?_
   clear q_
   rw [e];exact D.ok i h
 ·have hl':l∈D4 J.cls J.m (x::y::r) i:=hl
  rcases split i hi with q_ | q_
  ·refine B7 q_ λ_ e=>?_
   clear q_
   rw [e] at hl';exact h1 l hl'
  ·refine B7 q_ λh e=>?_
   clear q_
   rw [e] at hl';exact D.lits i h l hl'
 ·show (vars (D4 J.cls J.m (x::y::r) i)).Nodup
  rcases split i hi with q_ | q_
  ·refine B7 q_ λ_ e=>?_
   clear q_
   rw [e];exact h2
  ·refine B7 q_ λh e=>?_
   clear q_
   rw [e];exact D.nd i h
 ·show S0 α (D4 J.cls J.m (x::y::r) i)
  rcases split i hi with q_ | q_
  ·refine B7 q_ λ_ e=>?_
   clear q_
   rw [e];exact h3 α hα
  ·refine B7 q_ λh e=>?_
   clear q_
   rw [e];exact D.ent i h α hα
theorem Base.attach (B:Base J) (c:List Int) (x y:Int):Base (J.attach c x y):=⟨B.lit,B.nd,B.val,B.inc,B.lt,B.lev,B.pha⟩
theorem Base.logd (B:Base J) (c:List Int):Base (J.logd c):=⟨B.lit,B.nd,B.val,B.inc,B.lt,B.lev,B.pha⟩
theorem W7 {c:List Int} {x y:Int} {i:Nat} (hi:i<J.m):(J.attach c x y).cls i=J.cls i:=by
 show D4 J.cls J.m c i=_
 unfold D4;rw [if_neg (o265 hi)]
theorem T1 {c:List Int} {x y:Int}:(J.attach c x y).cls J.m=c:=by
 show D4 J.cls J.m c J.m=_
 unfold D4;rw [if_pos rfl]
theorem Reas.attach (R:Reas J) (c:List Int) (x y:Int):Reas (J.attach c x y):=by
 intro p l hp
 rcases R p l hp with q_ | h
 ·exists C1 q_ λi B3=>R7 B3 λh1 h2 h3 h4=>B5 ?_
  clear q_
  refine .inl ⟨i,h1,Nat.lt_succ_of_lt h2,?_,?_⟩
  ·rw [W7 h2];exact h3
  ·rw [W7 h2];exact h4
 ·exact .inr h
theorem Inv.logd (I:Inv M J) (c:List Int):Inv M (J.logd c):=⟨I.B.logd c,⟨I.D.ok,I.D.lits,I.D.nd,I.D.ent⟩,I.R,I.Z,I.W,I.V,I.hd,I.top⟩
theorem Inv.learn2 (I:Inv M J) (hh:J.head=J.trail.length) {x y:Int} {r:List Int} (h1:∀l∈x::y::r,1<=l.natAbs/\l.natAbs<=J.n) (h2:(vars (x::y::r)).Nodup) (h3:∀α,M α->S0 α (x::y::r))
  (hx:J.value x=0) (hr:∀u∈y::r,-u∈J.trail) (hy:J.lev y.natAbs=J.lim.length):Inv M ((J.attach (x::y::r) x y).assign x J.m):=by
 refine B7 (h1 x (by simp)) λx1 x2=>?_
 refine B7 (h1 y (by simp)) λy1 y2=>?_
 have hne:x≠y:=by rintro rfl;simp [vars] at h2
 have B1:=I.B.attach (x::y::r) x y
 have D1:=I.D.attach h1 h2 h3
 have R1:=I.R.attach (x::y::r) x y
 have hf:∀u∈(J.attach (x::y::r) x y).cls J.m,u≠x -> -u∈(J.attach (x::y::r) x y).trail:=by
  rw [T1]
  intro u hu hne
  rcases List.mem_cons.mp hu with rfl | hu
  ·exact absurd rfl hne
  ·exact hr u hu
 have hxm:x∈(J.attach (x::y::r) x y).cls J.m:=by rw [T1];simp
 refine ⟨B1.assign x1 x2 hx,⟨D1.ok,D1.lits,D1.nd,D1.ent⟩,R1.assign B1 x1 x2 hx (Nat.lt_succ_self _) hxm hf,L0.assign B1 D1 I.Z x1 x2 hx (Nat.lt_succ_self _) hxm hf,I.W.attach (λe=>hne (Q7 x1 y1 e)),?_,?_,I.top⟩
 ·intro i hi a b c e
  have e':(J.attach (x::y::r) x y).cls i=a::b::c:=e
  have hle:J.head<=J.trail.length:=I.hd
  have hxn:=(I.B.uu x1 x2).mp hx
  by_cases him:i=J.m
  ·subst him
   rw [T1] at e';cases e'
   constructor
   ·intro h
    have h': -x∈(J.trail++[x]).take J.head:=h
    rw [J3 hle] at h'
    exact absurd (List.mem_of_mem_take h') hxn.2
   ·intro _
    refine ⟨by show x∈J.trail++[x];simp,?_⟩
    have hyl:=I.B.assign_lev (r:=(J.m:Int)) x1 x2 hx (hr y (by simp))
    rw [Int.natAbs_neg] at hyl
    have e1:((J.attach (x::y::r) x y).assign x J.m).lev y.natAbs=J.lev y.natAbs:=hyl
    rw [e1,hy]
    show P6 J.lev x.natAbs J.lim.length x.natAbs<=_
    unfold P6;rw [if_pos rfl];exact Nat.le_refl _
  ·have him':i<J.m:=by have hi':i<J.m+1:=hi;exact o91 hi' him
   rw [W7 him'] at e'
   exact I.V.assign (r:=(J.m:Int)) I.B hle x1 x2 hx i him' a b c e'
 ·have:=I.hd
  show J.head<=(J.trail++[x]).length
  rw [List.length_append];exact o266 hh
theorem Inv.unit (I:Inv M J) (h0:J.lim=[]) {x:Int} (x1:1<=x.natAbs) (x2:x.natAbs<=J.n) (h3:∀α,M α->N6 α x) (hx:J.value x=0):Inv M (J.assign x (-1)):=by
 refine ⟨I.B.assign x1 x2 hx,⟨I.D.ok,I.D.lits,I.D.nd,I.D.ent⟩,λp l hp=>?_,λl hl hl0 α hα=>?_,I.W,I.V.assign I.B I.hd x1 x2 hx,?_,I.top⟩
 ·have hp':(J.trail++[x])[p]? = some l:=hp
  by_cases hpl:p<J.trail.length
  ·rw [List.getElem?_append_left hpl] at hp'
   rw [I.B.assign_rea x1 x2 hx (List.mem_of_getElem? hp')]
   rcases I.R p l hp' with q_ | h
   ·exists C1 q_ λi B3=>R7 B3 λa1 a2 a3 a4=>B5 ?_
    clear q_
    refine .inl ⟨i,a1,a2,a3,λu hu hne=>?_⟩
    show -u∈(J.trail++[x]).take p
    rw [J3 (Nat.le_of_lt hpl)];exact a4 u hu hne
   ·exact .inr h
  ·rw [List.getElem?_append_right (o71 hpl)] at hp'
   have hpe:p=J.trail.length:=by
    have:=(List.getElem?_eq_some_iff.mp hp').1
    simp at this;exact o188 this hpl
   subst hpe
   simp at hp';subst hp'
   refine .inr ⟨?_,.inr λq hq=>?_⟩
   ·show upd J.rea x.natAbs (-1) x.natAbs=_
    unfold upd;rw [if_pos rfl]
   ·have hq':q∈J.lim:=hq
    rw [h0] at hq';cases hq'
 ·rcases List.mem_append.mp (show l∈J.trail++[x] from hl) with h | h
  ·rw [I.B.assign_lev x1 x2 hx h] at hl0
   exact I.Z l h hl0 α hα
  ·simp at h;subst h;exact h3 α hα
 ·have:=I.hd
  show J.head<=(J.trail++[x]).length
  rw [List.length_append];exact o267 this
theorem Inv.decide (I:Inv M J) (hh:J.head=J.trail.length) {x:Int} (x1:1<=x.natAbs) (x2:x.natAbs<=J.n) (hx:J.value x=0):Inv M (J.decide x):=by
 refine B7 ((I.B.uu x1 x2).mp hx) λu1 u2=>?_
 have hnew:∀l∈J.trail,l.natAbs≠x.natAbs:=by
  intro l hl e
  rcases Q4 e with rfl | rfl
  ·exact u1 hl
  ·exact u2 hl
 have elev:∀l∈J.trail,(J.decide x).lev l.natAbs=J.lev l.natAbs:=by
  intro l hl
  show P6 J.lev x.natAbs _ l.natAbs=_
  unfold P6;rw [if_neg (hnew l hl)]
 have erea:∀l∈J.trail,(J.decide x).rea l.natAbs=J.rea l.natAbs:=by
  intro l hl
  show upd J.rea x.natAbs _ l.natAbs=_
  unfold upd;rw [if_neg (hnew l hl)]
 refine ⟨I.B.push I.B.lt x1 x2 hx,⟨I.D.ok,I.D.lits,I.D.nd,I.D.ent⟩,λp l hp=>?_,λl hl hl0 α hα=>?_,I.W,λi hi a b r e=>?_,?_,λq hq=>?_⟩
 ·have hp':(J.trail++[x])[p]? = some l:=hp
  by_cases hpl:p<J.trail.length
  ·rw [List.getElem?_append_left hpl] at hp'
   rw [erea l (List.mem_of_getElem? hp')]
   rcases I.R p l hp' with q_ | q_
   ·exists C1 q_ λi B3=>R7 B3 λa1 a2 a3 a4=>B5 ?_
    clear q_
    refine .inl ⟨i,a1,a2,a3,λu hu hne=>?_⟩
    show -u∈(J.trail++[x]).take p
    rw [J3 (Nat.le_of_lt hpl)];exact a4 u hu hne
   ·refine B7 q_ λa1 h=>?_
    clear q_
    refine .inr ⟨a1,?_⟩
    show p∈J.lim++[J.trail.length]\/∀q∈J.lim++[J.trail.length],p<q
    rcases h with h | h
    ·exact .inl (List.mem_append_left _ h)
    ·refine .inr λq hq=>?_
     rcases List.mem_append.mp hq with h' | h'
     ·exact h q h'
     ·simp at h';exact o44 hpl h'
  ·rw [List.getElem?_append_right (o71 hpl)] at hp'
   have hpe:p=J.trail.length:=by
    have:=(List.getElem?_eq_some_iff.mp hp').1
    simp at this;exact o188 this hpl
   subst hpe
   simp at hp';subst hp'
   refine .inr ⟨?_,.inl ?_⟩
   ·show upd J.rea x.natAbs (-1) x.natAbs=_
    unfold upd;rw [if_pos rfl]
   ·show J.trail.length∈J.lim++[J.trail.length]
    simp
 ·rcases List.mem_append.mp (show l∈J.trail++[x] from hl) with h | h
  ·rw [elev l h] at hl0
   exact I.Z l h hl0 α hα
  ·simp at h;subst h
   have:(J.decide l).lev l.natAbs=(J.lim++[J.trail.length]).length:=by
    show P6 J.lev l.natAbs _ l.natAbs=_
    unfold P6;rw [if_pos rfl]
   rw [this] at hl0;simp at hl0
 ·have hle:J.head<=J.trail.length:=I.hd
  refine B7 (I.V i hi a b r e) λw1 w2=>?_
  have key:∀u v:Int,(-u∈J.trail.take J.head->v∈J.trail/\J.lev v.natAbs<=J.lev u.natAbs) -> -u∈(J.trail++[x]).take J.head->v∈J.trail++[x]/\(J.decide x).lev v.natAbs<=(J.decide x).lev u.natAbs:=by
   intro u v w hu
   rw [J3 hle] at hu
   refine B7 (w hu) λv1 v2=>?_
   have eu:=elev _ (List.mem_of_mem_take hu)
   rw [Int.natAbs_neg] at eu
   rw [elev v v1,eu]
   exact ⟨List.mem_append_left _ v1,v2⟩
  exact ⟨key a b w1,key b a w2⟩
 ·have:=I.hd
  show J.head<=(J.trail++[x]).length
  rw [List.length_append];exact o266 hh
 ·have hq':q∈J.lim++[J.trail.length]:=hq
  show q<=J.head
  rcases List.mem_append.mp hq' with h | h
  ·exact I.top q h
  ·simp at h;exact o268 h hh
theorem Inv.attach (I:Inv M J) (hh:J.head=0) {x y:Int} {r:List Int} (h1:∀l∈x::y::r,1<=l.natAbs/\l.natAbs<=J.n) (h2:(vars (x::y::r)).Nodup) (h3:∀α,M α->S0 α (x::y::r)):Inv M (J.attach (x::y::r) x y):=by
 refine B7 (h1 x (by simp)) λx1 x2=>?_
 refine B7 (h1 y (by simp)) λy1 y2=>?_
 have hne:x≠y:=by rintro rfl;simp [vars] at h2
 refine ⟨I.B.attach _ _ _,I.D.attach h1 h2 h3,I.R.attach _ _ _,I.Z,I.W.attach (λe=>hne (Q7 x1 y1 e)),λi hi a b c e=>?_,I.hd,I.top⟩
 have e0:(J.attach (x::y::r) x y).head=0:=hh
 rw [e0];simp
end
structure Ok (Or:List (List Int)) (C:Nat->Prop) (J:Sg):Prop where
 cov:∀o∈Or,(∃l∈o,l∈J.trail/\J.lev l.natAbs=0)\/∃i,i<J.m/\∀u∈J.cls i,u∈o
 cl:∀q∈J.lim,∀i,i<J.m->Closed (J.trail.take q) (J.cls i)
 vc:∀i,i<J.m->∀u∈J.cls i,C u.natAbs
def Excl (C:Nat->Prop) (J:Sg) (A:List Int):Prop:=(∃i,i<J.m/\¬Closed A (J.cls i))\/∃l∈J.trail,J.lev l.natAbs=0/\C l.natAbs/\l∉A
def Gd (Or:List (List Int)) (A:List Int):Prop:=(∀l∈A,-l∉A)/\∀o∈Or,Closed A o
def Df (C:Nat->Prop) (A A':List Int):Prop:=∃l:Int,C l.natAbs/\¬(l∈A↔l∈A')
structure Hist (Or:List (List Int)) (C:Nat->Prop) (J:Sg) (Ls:List (List Int)):Prop where
 pw:Ls.Pairwise (Df C)
 gd:∀A∈Ls,Gd Or A
 ex:∀A∈Ls,Excl C J A
section
variable {M:(Nat->Bool)->Prop} {Or:List (List Int)} {C:Nat->Prop} {J σ':Sg} {Ls:List (List Int)}
theorem Ext.lev (E:Ext J σ') (B:Base J) (B':Base σ') {l:Int} (h:l∈J.trail):σ'.lev l.natAbs=J.lev l.natAbs:=by
 refine C1 (List.getElem?_of_mem h) λp hp=>?_
 refine C1 E.trail λt ht=>?_
 have hp':σ'.trail[p]? = some l:=by
  rw [ht,List.getElem?_append_left (List.getElem?_eq_some_iff.mp hp).1];exact hp
 rw [B'.lev p l hp',B.lev p l hp,E.lim]
theorem Ok.ext (O:Ok Or C J) (B:Base J) (B':Base σ') (E:Ext J σ'):Ok Or C σ':=by
 refine C1 E.trail λt ht=>?_
 refine ⟨λo ho=>?_,λq hq i hi=>?_,λi hi u hu=>?_⟩
 ·rcases O.cov o ho with q_ | q_
  ·exists C1 q_ λl B3=>E6 B3 λh1 h2 h3=>B5 ?_
   clear q_
   exact .inl ⟨l,h1,by rw [ht];exact List.mem_append_left _ h2,by rw [E.lev B B' h2];exact h3⟩
  ·exists C1 q_ λi B3=>B7 B3 λh1 h2=>B5 ?_
   clear q_
   exact .inr ⟨i,by rw [E.m];exact h1,λu hu=>h2 u ((E.cls i).mem_iff.mpr hu)⟩
 ·rw [E.lim] at hq
  rw [E.m] at hi
  rw [ht,J3 (Nat.le_of_lt (B.lt q hq))]
  exact (O.cl q hq i hi).sub λl hl=>(E.cls i).mem_iff.mp hl
 ·rw [E.m] at hi
  exact O.vc i hi u ((E.cls i).mem_iff.mpr hu)
theorem Excl.ext {A:List Int} (X:Excl C J A) (B:Base J) (B':Base σ') (E:Ext J σ'):Excl C σ' A:=by
 refine C1 E.trail λt ht=>?_
 rcases X with q_ | q_
 ·exists C1 q_ λi B3=>B7 B3 λh1 h2=>B5 ?_
  clear q_
  exact .inl ⟨i,by rw [E.m];exact h1,λh=>h2 (h.sub λl hl=>(E.cls i).mem_iff.mpr hl)⟩
 ·exists C1 q_ λl B3=>R7 B3 λh1 h2 h3 h4=>B5 ?_
  clear q_
  exact .inr ⟨l,by rw [ht];exact List.mem_append_left _ h1,by rw [E.lev B B' h1];exact h2,h3,h4⟩
theorem Hist.ext (X:Hist Or C J Ls) (B:Base J) (B':Base σ') (E:Ext J σ'):Hist Or C σ' Ls:=⟨X.pw,X.gd,λA hA=>(X.ex A hA).ext B B' E⟩
theorem Ok.grow (O:Ok Or C J) (B:Base J) (hm:J.m<=σ'.m) (hc:∀i,i<J.m->σ'.cls i=J.cls i) {t:List Int} (ht:σ'.trail=J.trail++t) (hl:∀l∈J.trail,σ'.lev l.natAbs=J.lev l.natAbs) (hlim:σ'.lim=J.lim)
  (hnew:∀i,J.m<=i->i<σ'.m->(∀q∈J.lim,Closed (J.trail.take q) (σ'.cls i))/\∀u∈σ'.cls i,C u.natAbs):Ok Or C σ':=by
 refine ⟨λo ho=>?_,λq hq i hi=>?_,λi hi u hu=>?_⟩
 ·rcases O.cov o ho with q_ | q_
  ·exists C1 q_ λl B3=>E6 B3 λh1 h2 h3=>B5 ?_
   clear q_
   exact .inl ⟨l,h1,by rw [ht];exact List.mem_append_left _ h2,by rw [hl l h2];exact h3⟩
  ·exists C1 q_ λi B3=>B7 B3 λh1 h2=>B5 ?_
   clear q_
   exact .inr ⟨i,Nat.lt_of_lt_of_le h1 hm,by rw [hc i h1];exact h2⟩
 ·rw [hlim] at hq
  rw [ht,J3 (Nat.le_of_lt (B.lt q hq))]
  rcases Nat.lt_or_ge i J.m with h | h
  ·rw [hc i h];exact O.cl q hq i h
  ·exact (hnew i h hi).1 q hq
 ·rcases Nat.lt_or_ge i J.m with h | h
  ·rw [hc i h] at hu;exact O.vc i h u hu
  ·exact (hnew i h hi).2 u hu
theorem Excl.grow {A:List Int} (X:Excl C J A) (hm:J.m<=σ'.m) (hc:∀i,i<J.m->σ'.cls i=J.cls i) {t:List Int} (ht:σ'.trail=J.trail++t) (hl:∀l∈J.trail,σ'.lev l.natAbs=J.lev l.natAbs):Excl C σ' A:=by
 rcases X with q_ | q_
 ·exists C1 q_ λi B3=>B7 B3 λh1 h2=>B5 ?_
  clear q_
  exact .inl ⟨i,Nat.lt_of_lt_of_le h1 hm,by rw [hc i h1];exact h2⟩
 ·exists C1 q_ λl B3=>R7 B3 λh1 h2 h3 h4=>B5 ?_
  clear q_
  exact .inr ⟨l,by rw [ht];exact List.mem_append_left _ h1,by rw [hl l h1];exact h2,h3,h4⟩
theorem Base.decide_lev (B:Base J) {x:Int} (x1:1<=x.natAbs) (x2:x.natAbs<=J.n) (hx:J.value x=0) {l:Int} (hl:l∈J.trail):(J.decide x).lev l.natAbs=J.lev l.natAbs:=by
 refine B7 ((B.uu x1 x2).mp hx) λu1 u2=>?_
 show P6 J.lev x.natAbs _ l.natAbs=_
 unfold P6;rw [if_neg λe=>?_]
 rcases Q4 e with rfl | rfl
 ·exact u1 hl
 ·exact u2 hl
theorem Ok.decide (O:Ok Or C J) (I:Inv M J) (hh:J.head=J.trail.length) {x:Int} (x1:1<=x.natAbs) (x2:x.natAbs<=J.n) (hx:J.value x=0):Ok Or C (J.decide x):=by
 refine ⟨λo ho=>?_,λq hq i hi=>?_,O.vc⟩
 ·rcases O.cov o ho with q_ | h
  ·exists C1 q_ λl B3=>E6 B3 λh1 h2 h3=>B5 ?_
   clear q_
   exact .inl ⟨l,h1,List.mem_append_left _ h2,by rw [I.B.decide_lev x1 x2 hx h2];exact h3⟩
  ·exact .inr h
 ·have hq':q∈J.lim++[J.trail.length]:=hq
  show Closed ((J.trail++[x]).take q) (J.cls i)
  rcases List.mem_append.mp hq' with h | h
  ·rw [J3 (Nat.le_of_lt (I.B.lt q h))];exact O.cl q h i hi
  ·simp at h;subst h
   rw [List.take_left];exact I.closed hh hi
theorem Hist.decide (X:Hist Or C J Ls) (B:Base J) {x:Int} (x1:1<=x.natAbs) (x2:x.natAbs<=J.n) (hx:J.value x=0):Hist Or C (J.decide x) Ls:=
 ⟨X.pw,X.gd,λA hA=>(X.ex A hA).grow (Nat.le_refl _) (λ_ _=>rfl) (t:=[x]) rfl λl hl=>B.decide_lev x1 x2 hx hl⟩
theorem Ok.cut (O:Ok Or C J) (B:Base J) {L q:Nat} (hq:J.lim[L]? = some q):Ok Or C {J.cut q with lim:=J.lim.take L,head:=q}:=by
 refine ⟨λo ho=>?_,λq' hq' i hi=>?_,O.vc⟩
 ·rcases O.cov o ho with q_ | h
  ·exists C1 q_ λl B3=>E6 B3 λh1 h2 h3=>B5 ?_
   clear q_
   exact .inl ⟨l,h1,(B.take_lev hq).mpr ⟨h2,o269 h3⟩,h3⟩
  ·exact .inr h
 ·have:=(Ae2 B.inc hq).1 q' hq'
  show Closed ((J.trail.take q).take q') (J.cls i)
  rw [List.take_take,Nat.min_eq_left (Nat.le_of_lt this)]
  exact O.cl q' (List.mem_of_mem_take hq') i hi
theorem Excl.cut {A:List Int} (X:Excl C J A) (B:Base J) {L q:Nat} (hq:J.lim[L]? = some q):Excl C {J.cut q with lim:=J.lim.take L,head:=q} A:=by
 rcases X with h | q_
 ·exact .inl h
 ·exists C1 q_ λl B3=>R7 B3 λh1 h2 h3 h4=>B5 ?_
  clear q_
  exact .inr ⟨l,(B.take_lev hq).mpr ⟨h1,o269 h2⟩,h2,h3,h4⟩
theorem Hist.cut (X:Hist Or C J Ls) (B:Base J) {L q:Nat} (hq:J.lim[L]? = some q):Hist Or C {J.cut q with lim:=J.lim.take L,head:=q} Ls:=⟨X.pw,X.gd,λA hA=>(X.ex A hA).cut B hq⟩
theorem Pre.cancel' (P:Pre M J) {L q:Nat} (hq:J.lim[L]? = some q):J.cancel L={J.cut q with lim:=J.lim.take L,head:=q}:=by
 unfold Sg.cancel;rw [hq]
section learn
variable {c back:Nat} {x:Int} {r:List Int}
noncomputable def mark (J:Sg):List Int:=match J.lim[J.lim.length-1]? with | some q=>J.trail.take q | none=>[]
theorem W5 (B:Base J) (hL:1<=J.lim.length) {l:Int}:l∈mark J↔l∈J.trail/\J.lev l.natAbs<=J.lim.length-1:=by
 unfold mark
 have h:J.lim[J.lim.length-1]? = some J.lim[J.lim.length-1]:=List.getElem?_eq_getElem (o270 hL)
 rw [h]
 exact B.take_lev h
theorem Ac8 (O:Ok Or C J) (hL:1<=J.lim.length) {i:Nat} (hi:i<J.m):Closed (mark J) (J.cls i):=by
 unfold mark
 have h:J.lim[J.lim.length-1]? = some J.lim[J.lim.length-1]:=List.getElem?_eq_getElem (o270 hL)
 rw [h]
 exact O.cl _ (List.mem_of_getElem? h) i hi
theorem mark_gd (O:Ok Or C J) (B:Base J) (hL:1<=J.lim.length):Gd Or (mark J):=by
 refine ⟨λl hl hl'=>B.noNeg ((W5 B hL).mp hl).1 ((W5 B hL).mp hl').1,λo ho=>?_⟩
 rcases O.cov o ho with q_ | q_
 ·exists C1 q_ λl B3=>E6 B3 λh1 h2 h3=>B5 ?_
  clear q_
  exact .inl ⟨l,h1,(W5 B hL).mpr ⟨h2,o269 h3⟩⟩
 ·exists C1 q_ λi B3=>B7 B3 λh1 h2=>B5 ?_
  clear q_
  exact (Ac8 O hL h1).sub h2
theorem Ea5 (O:Ok Or C J) (B:Base J) (hL:1<=J.lim.length) {A:List Int} (X:Excl C J A):Df C (mark J) A:=by
 rcases Classical.em (Df C (mark J) A) with h | h
 ·exact h
 have h':∀l:Int,C l.natAbs->(l∈mark J↔l∈A):=λl hl=>Classical.byContradiction λh2=>h ⟨l,hl,h2⟩
 exfalso
 rcases X with q_ | q_
 ·exists C1 q_ λi B3=>B7 B3 λh1 h2=>B5 ?_
  clear q_
  refine h2 ?_
  have hC:=O.vc i h1
  rcases Ac8 O hL h1 with q_ | q_
  ·exists C1 q_ λl B3=>B7 B3 λa b=>B5 ?_
   clear q_
   exact .inl ⟨l,a,(h' l (hC l a)).mp b⟩
  ·exists C1 q_ λl B3=>B7 B3 λa C5=>C1 C5 λl' N1=>R7 N1 λa' n b b'=>B5 ?_
   clear C5 N1 q_
   exact .inr ⟨l,a,l',a',n,λz=>b ((h' (-l) (by rw [Int.natAbs_neg];exact hC l a)).mpr z),λz=>b' ((h' (-l') (by rw [Int.natAbs_neg];exact hC l' a')).mpr z)⟩
 ·exists C1 q_ λl B3=>R7 B3 λh1 h2 h3 h4=>B5 ?_
  clear q_
  exact h4 ((h' l h3).mp ((W5 B hL).mpr ⟨h1,o269 h2⟩))
theorem Cfl.learned (K:Cfl M J c) (O:Ok Or C J) (X:Hist Or C J Ls) (hL:1<=J.lim.length) (A:La M J x r back):
  Inv M ((J.cancel back).learn (x::r))/\Ok Or C ((J.cancel back).learn (x::r))/\Hist Or C ((J.cancel back).learn (x::r)) (mark J::Ls):=by
 have hback:back<J.lim.length:=by
  rcases A.bk with q_ | q_
  ·refine B7 q_ λ_ h=>?_
   clear q_
   exact o271 hL h
  ·exists J8 q_ λy r' B3=>E6 B3 λh1 h2 _=>B5 ?_
   clear q_
   have:=(A.r1 y (by rw [h1];simp)).2.2;exact o272 h2 this
 have hq:J.lim[back]? = some J.lim[back]:=List.getElem?_eq_getElem hback
 generalize hqq:J.lim[back]=q at hq
 rw [K.pre.cancel' hq]
 have I1:=K.pre.cancel hq
 have O1:=O.cut K.B hq
 have X1:=X.cut K.B hq
 have hxl:=K.B.lit _ A.x1
 rw [Int.natAbs_neg] at hxl
 have hx0:({J.cut q with lim:=J.lim.take back,head:=q}:Sg).value x=0:=by
  rw [I1.B.uu hxl.1 hxl.2]
  constructor
  ·intro h
   have:=((K.B.take_lev hq).mp h).1
   exact K.B.noNeg this A.x1
  ·intro h
   have:=((K.B.take_lev hq).mp h).2
   rw [Int.natAbs_neg,A.x2] at this;exact o244 hback this
 have hlev:∀u∈r,J.lev u.natAbs<=back:=by
  intro u hu
  rcases A.bk with q_ | q_
  ·refine B7 q_ λh _=>?_
   clear q_
   rw [h] at hu;cases hu
  ·exists J8 q_ λy r' B3=>E6 B3 λh1 h2 h3=>B5 ?_
   clear q_
   rw [h2];exact h3 u hu
 have hr1:∀u∈r,-u∈({J.cut q with lim:=J.lim.take back,head:=q}:Sg).trail:=λu hu=>(K.B.take_lev hq).mpr ⟨(A.r1 u hu).1,by rw [Int.natAbs_neg];exact hlev u hu⟩
 have hql:=K.B.lt q (List.mem_of_getElem? hq)
 have hh:({J.cut q with lim:=J.lim.take back,head:=q}:Sg).head=({J.cut q with lim:=J.lim.take back,head:=q}:Sg).trail.length:=by
  show q=(J.trail.take q).length
  rw [List.length_take];exact o273 hql
 have hCx:∀u∈x::r,C u.natAbs:=by
  intro u hu
  exists C1 (A.inV u hu) λi B3=>B7 B3 λhi hv=>B5 ?_
  exists C1 (List.mem_map.mp hv) λw B3=>B7 B3 λhw e=>B5 ?_
  have:=O.vc i hi w hw
  rw [e] at this;exact this
 have xnm:x∉mark J:=λh=>K.B.noNeg ((W5 K.B hL).mp h).1 A.x1
 have mk0:¬Closed (mark J) (x::r):=by
  rintro (⟨l,h1,h2⟩ | ⟨l,h1,l',h1',hne,h2,h2'⟩)
  ·rcases List.mem_cons.mp h1 with rfl | h
   ·exact xnm h2
   ·exact K.B.noNeg ((W5 K.B hL).mp h2).1 (A.r1 l h).1
  ·have key:∀u∈x::r,-u∉mark J->u=x:=by
    intro u hu hn
    rcases List.mem_cons.mp hu with h | h
    ·exact h
    ·have h3:=A.r1 u h
     exact absurd ((W5 K.B hL).mpr ⟨h3.1,by rw [Int.natAbs_neg];exact o274 h3⟩) hn
   exact hne ((key l h1 h2).trans (key l' h1' h2').symm)
 have hpw:(mark J::Ls).Pairwise (Df C):=List.pairwise_cons.mpr ⟨λA' hA'=>Ea5 O K.B hL (X.ex A' hA'),X.pw⟩
 have hgd:∀A'∈mark J::Ls,Gd Or A':=λA' hA'=>by
  rcases List.mem_cons.mp hA' with rfl | h
  ·exact mark_gd O K.B hL
  ·exact X.gd A' h
 generalize ad4:({J.cut q with lim:=J.lim.take back,head:=q}:Sg)=σ1 at *
 have en:σ1.n=J.n:=by rw [<-ad4];rfl
 have elim:σ1.lim.length=back:=by
  rw [<-ad4]
  show (J.lim.take back).length=back
  rw [List.length_take];exact o190 hback
 have elev:σ1.lev=J.lev:=by rw [<-ad4];rfl
 rcases r with _ | ⟨y,r⟩
 ·-- a unit clause
  have h0:σ1.lim=[]:=by
   rcases A.bk with q_ | q_
   ·refine B7 q_ λ_ h=>?_
    clear q_
    exact List.eq_nil_of_length_eq_zero (o275 elim h)
   ·exists J8 q_ λy r' B3=>B7 B3 λh1 _=>B5 ?_
    clear q_
    cases h1
  have ent:∀α,M α->N6 α x:=λα hα=>by
   exists C1 (A.ent α hα) λl B3=>B7 B3 λh1 h2=>B5 ?_
   simp at h1;subst h1;exact h2
  have I2:=(I1.logd [x]).unit h0 hxl.1 (by show _<=σ1.n;rw [en];exact hxl.2) ent hx0
  have hgl:∀l∈σ1.trail,((σ1.logd [x]).assign x (-1)).lev l.natAbs=σ1.lev l.natAbs:=λl hl=>(I1.B.logd [x]).assign_lev (r:= -1) hxl.1 (by show _<=σ1.n;rw [en];exact hxl.2) hx0 hl
  refine ⟨I2,O1.grow I1.B (σ':=(σ1.logd [x]).assign x (-1)) (Nat.le_refl _) (λ_ _=>rfl) (t:=[x]) rfl hgl rfl (λi h1 h2=>absurd h2 (Nat.not_lt_of_le h1)),hpw,hgd,λA' hA'=>?_⟩
  rcases List.mem_cons.mp hA' with rfl | h
  ·refine .inr ⟨x,?_,?_,hCx x (by simp),xnm⟩
   ·show x∈σ1.trail++[x];simp
   ·show P6 σ1.lev x.natAbs σ1.lim.length x.natAbs=0
    unfold P6;rw [if_pos rfl,h0];rfl
  ·exact (X1.ex A' h).grow (σ':=(σ1.logd [x]).assign x (-1)) (Nat.le_refl _) (λ_ _=>rfl) (t:=[x]) rfl hgl
 ·have hyb:J.lev y.natAbs=back:=by
   rcases A.bk with q_ | q_
   ·refine B7 q_ λh _=>?_
    clear q_
    cases h
   ·exists J8 q_ λy' r' B3=>E6 B3 λh1 h2 _=>B5 ?_
    clear q_
    cases h1;exact h2.symm
  have hlits:∀l∈x::y::r,1<=l.natAbs/\l.natAbs<=(σ1.logd (x::y::r)).n:=by
   intro l hl
   show 1<=l.natAbs/\l.natAbs<=σ1.n
   rw [en]
   rcases List.mem_cons.mp hl with rfl | h
   ·exact hxl
   ·have:=K.B.lit _ (A.r1 l h).1
    rw [Int.natAbs_neg] at this;exact this
  have I2:=(I1.logd (x::y::r)).learn2 hh hlits A.nd A.ent hx0 hr1 (by show σ1.lev y.natAbs=σ1.lim.length;rw [elev,elim,hyb])
  have hgl:∀l∈σ1.trail,(((σ1.logd (x::y::r)).attach (x::y::r) x y).assign x σ1.m).lev l.natAbs=σ1.lev l.natAbs:=
   λl hl=>((I1.B.logd (x::y::r)).attach (x::y::r) x y).assign_lev (r:=(σ1.m:Int)) hxl.1 (by show _<=σ1.n;rw [en];exact hxl.2) hx0 hl
  have hcls:∀i,i<σ1.m->(((σ1.logd (x::y::r)).attach (x::y::r) x y).assign x σ1.m).cls i=σ1.cls i:=λi hi=>W7 (J:=σ1.logd (x::y::r)) (x:=x) (y:=y) hi
  have hnew:(((σ1.logd (x::y::r)).attach (x::y::r) x y).assign x σ1.m).cls σ1.m=x::y::r:=T1 (J:=σ1.logd (x::y::r)) (x:=x) (y:=y)
  refine ⟨I2,O1.grow I1.B (σ':=((σ1.logd (x::y::r)).attach (x::y::r) x y).assign x σ1.m) (Nat.le_succ _) hcls (t:=[x]) rfl hgl rfl (λi h1 h2=>?_),hpw,hgd,λA' hA'=>?_⟩
  ·have hi:i=σ1.m:=by have h2':i<σ1.m+1:=h2;exact o276 h2' h1
   subst hi
   rw [hnew]
   refine ⟨λq' hq'=>?_,hCx⟩
   refine C1 (List.getElem?_of_mem hq') λj hj=>?_
   have hjl:j<back:=by rw [<-elim];exact (List.getElem?_eq_some_iff.mp hj).1
   refine .inr ⟨x,by simp,y,by simp,?_,λh=>?_,λh=>?_⟩
   ·rintro rfl
    have:=A.nd
    simp [vars] at this
   ·have:=((I1.B.uu hxl.1 (by rw [en];exact hxl.2)).mp hx0).2
    exact this (List.mem_of_mem_take h)
   ·have:=((I1.B.take_lev hj).mp h).2
    rw [Int.natAbs_neg,elev,hyb] at this;exact o244 hjl this
  ·rcases List.mem_cons.mp hA' with rfl | h
   ·exact .inl ⟨σ1.m,Nat.lt_succ_self _,λz=>mk0 (hnew▸z)⟩
   ·exact (X1.ex A' h).grow (σ':=((σ1.logd (x::y::r)).attach (x::y::r) x y).assign x σ1.m) (Nat.le_succ _) hcls (t:=[x]) rfl hgl
end learn
theorem Cfl.unsat {c:Nat} (K:Cfl M J c) (h0:J.lim=[]) (α:Nat->Bool):¬M α:=by
 intro hα
 exists C1 (K.D.ent c K.lt α hα) λu B3=>B7 B3 λhu hs=>B5 ?_
 have hm:=K.no u hu
 refine C1 (List.getElem?_of_mem hm) λp hp=>?_
 have hl:=K.B.lev p (-u) hp
 rw [h0] at hl
 have:=K.Z (-u) hm (by rw [hl];rfl) α hα
 exact absurd hs ((i1 (K.D.lits c K.lt u hu).1).mp this)
theorem Inv.model (I:Inv M J) (O:Ok Or C J) (hh:J.head=J.trail.length) (hall:∀v,1<=v->v<=J.n->J.val v≠0):∀o∈Or,S0 (λv=>J.val v==1) o:=by
 have lit:∀l:Int,l∈J.trail->N6 (λv=>J.val v==1) l:=by
  intro l hl
  refine B7 (I.B.lit l hl) λl1 l2=>?_
  unfold N6
  have hv:=I.B.val l.natAbs l1 l2
  by_cases hp:0<l
  ·rw [show ((l.natAbs:Nat):Int)=l by exact o277 hp,if_pos hl] at hv
   simp [hv,hp]
  ·have hn:((l.natAbs:Nat):Int) = -l:=o278 hp
   rw [hn,if_neg (I.B.noNeg hl),Int.neg_neg,if_pos hl] at hv
   simp [hv,hp]
 have cls:∀i,i<J.m->S0 (λv=>J.val v==1) (J.cls i):=by
  intro i hi
  rcases I.closed hh hi with q_ | q_
  ·exists C1 q_ λl B3=>B7 B3 λh1 h2=>B5 ?_
   clear q_
   exact ⟨l,h1,lit l h2⟩
  ·exists C1 q_ λl B3=>B7 B3 λh1 C5=>C1 C5 λl' N1=>R7 N1 λh1' hne h2 h2'=>B5 ?_
   clear C5 N1 q_
   refine B7 (I.D.lits i hi l h1) λa b=>?_
   have hv:J.value l≠0:=by
    unfold Sg.value
    have:=hall l.natAbs a b
    split
    ·exact o279 this
    ·exact this
   have:l∈J.trail:=Classical.byContradiction λh=>hv ((I.B.uu a b).mpr ⟨h,h2⟩)
   exact ⟨l,h1,lit l this⟩
 intro o ho
 rcases O.cov o ho with q_ | q_
 ·exists C1 q_ λl B3=>E6 B3 λh1 h2 _=>B5 ?_
  clear q_
  exact ⟨l,h1,lit l h2⟩
 ·exists C1 q_ λi B3=>B7 B3 λh1 h2=>B5 ?_
  clear q_
  exists C1 (cls i h1) λl B3=>B7 B3 λa b=>B5 ?_
  exact ⟨l,h2 l a,b⟩
theorem Inv.act (I:Inv M J) (a:Nat->Int) (s:Int):Inv M (J.wA a s):=⟨⟨I.B.lit,I.B.nd,I.B.val,I.B.inc,I.B.lt,I.B.lev,I.B.pha⟩,⟨I.D.ok,I.D.lits,I.D.nd,I.D.ent⟩,I.R,I.Z,I.W,I.V,I.hd,I.top⟩
theorem Cfl.act {c:Nat} (I:Cfl M J c) (a:Nat->Int) (s:Int):Cfl M (J.wA a s) c:=⟨⟨I.B.lit,I.B.nd,I.B.val,I.B.inc,I.B.lt,I.B.lev,I.B.pha⟩,⟨I.D.ok,I.D.lits,I.D.nd,I.D.ent⟩,I.R,I.Z,I.W,I.V,I.lt,I.no⟩
theorem La.act {x:Int} {r:List Int} {back:Nat} (A:La M J x r back) (a:Nat->Int) (s:Int):La M (J.wA a s) x r back:=⟨A.x1,A.x2,A.r1,A.nd,A.ent,A.inV,A.bk⟩
theorem Ok.act (O:Ok Or C J) (a:Nat->Int) (s:Int):Ok Or C (J.wA a s):=⟨O.cov,O.cl,O.vc⟩
theorem Hist.act (X:Hist Or C J Ls) (a:Nat->Int) (s:Int):Hist Or C (J.wA a s) Ls:=⟨X.pw,X.gd,X.ex⟩
end
noncomputable def tSlv:Tag->Bool | .seen | .rest2=>true | t=>Q3 t
theorem z' {t:Tag} (h:tSlv t=false):Q3 t=false/\t ≠ .seen/\t ≠ .rest2:=by
 cases t <;> first | (cases h;done) | exact ⟨h,by simp,by simp⟩
theorem Frm.slv {H H':Hq} (f:Frm Q3 H H'):Frm tSlv H H':=f.mono λt h=>(z' h).1
theorem can_sol {t:Tag} (h:Q3 t=false):tCan t=false:=by cases t <;> first | rfl | cases h
theorem Frm.canslv {H H':Hq} (f:Frm tCan H H'):Frm tSlv H H':=f.mono λt h=>can_sol (z' h).1
noncomputable def mu (n P since T:Nat) (r:Bool):Nat:=(1000-P)*(2*n+4)+(if since=0 then 0 else n+1)+(n-T)+(if r then 0 else 1)
theorem mu_conf {n P since T T':Nat} {r':Bool} (h:P+1<=1000):mu n (P+1) (since+1) T' r'<mu n P since T false:=by
 unfold mu
 have e:(1000-P)*(2*n+4)=(1000-(P+1))*(2*n+4)+(2*n+4):=by
  rw [show 1000-P=(1000-(P+1))+1 by exact o280 h,Nat.succ_mul]
 rw [e,if_neg o281]
 have h1:(if r'=true then (0:Nat) else 1)<=1:=by split <;> (first | exact o33 | exact o32)
 have h2:n-T'<=n:=Nat.sub_le _ _
 rw [if_neg (show ¬(false=true) by decide)]
 exact o282 h1
theorem Ce4 {n P since T T':Nat} {r:Bool} (h:since≠0):mu n P 0 T' r<mu n P since T r:=by
 unfold mu
 rw [if_pos rfl,if_neg h]
 have h2:n-T'<=n:=Nat.sub_le _ _
 exact o283
theorem mu_dec {n P since T T':Nat} {r:Bool} (h:T<T') (h':T'<=n):mu n P since T' r<mu n P since T r:=by
 unfold mu;exact o284 h' h
theorem mu_ref {n P since T T':Nat} (h:T<=T'):mu n P since T' true<mu n P since T false:=by
 unfold mu
 rw [if_pos rfl,if_neg (show ¬(false=true) by decide)];exact o285 h
section rules
variable {K:Calls G9} {H:Hq} {l:Lq} {ss:Ss} {Q:Fl G9->Lq->Hq->Prop}
theorem Cg3 {o:E} {m:Fn} {args:Es} {n:G9} {k:Kl} {f:At->Option Vl} {vs:List Vl} {x y:Vr} (hK:D5 K) (ho:pE H l o=some (.ref n)) (hn:H n=some (.inst k f)) (hk:m.kl=some k) (ha:c9 H l args=some vs)
  (q:K m (.ref n::vs) (λv H'=>∃a b,v = .tup [a,b]/\C2 K ss Q ((l.set x a).set y b) H') H):C2 K (.cons (.set2 x y (.meth o m args)) ss) Q l H:=
 D3 (e:=o) hK ho ⟨n,k,f,rfl,hn,hk,J' (es:=args) hK ha q⟩
theorem Bj6 {a:E} {c:Cs0} {f:Fn} {args:Es} {x:Int} {vs:List Vl} {t u:Ss} (hK:D5 K) (ha:pE H l a=some (.int x)) (hv:c9 H l args=some vs)
  (q:K f vs (λvb H2=>Aa6 .mul (.int c.val) vb λr=>Bi9 H2 .ge (.int x) r λb=>if b=true then C2 K t (M0 K ss Q) l H2 else C2 K u (M0 K ss Q) l H2) H):
  C2 K (.cons (.ite (.cmp .ge a (.bin .mul (.cst c) (.call f args))) t u) ss) Q l H:=
 D3 (e:=a) hK ha (J' (es:=args) hK hv q)
theorem Df0 {elt e:E} {x:Vr} {cond:Cs} {n:G9} {xs:List Vl} {R:Vl->Hq->Prop} (hK:D5 K) (he:pE H l e=some (.ref n)) (hn:H n=some (.list xs)) (I:Nat->List Vl->Hq->Prop) (h0:I 0 [] H)
  (hI:∀i acc H2,I i acc H2->H2 n=some (.list xs)/\acc.length<1000000/\(xs[i]? = none->∃m,H2 m=none/\R (.ref m) (H2.set m (.list acc))) /\
   ∀v,xs[i]? = some v->W1 K cond (l.set x v) (λb H3=>if b then O0 K elt (l.set x v) (λr H4=>I (i+1) (acc++[r]) H4) H3 else I (i+1) acc H3) H2):O0 K (.comp elt x (.seq e) cond) l R H:=by
 refine D3 (e:=e) hK he (Or.inl ⟨xs,hn,I,h0,λi acc H2 h=>⟨(hI i acc H2 h).1,(hI i acc H2 h).2.1,?_⟩⟩)
 have h2:=(hI i acc H2 h).2.2
 cases hx:xs[i]? with
 | none=>exact h2.1 hx
 | some v=>exact h2.2 v hx
theorem Ed9 {e:E} {a:At} (q:O0 K e l (λv H1=>∃w,l .self=some w/\∃n k f,w = .ref n/\H1 n=some (.inst k f)/\a.kl=k/\C2 K ss Q l (H1.set n (.inst k λb=>if b=a then some v else f b))) H):
 C2 K (.cons (.setAttr (.var .self) a e) ss) Q l H:=q
end rules
section
variable {H:Hq} {ν:Nu} {J:Sg}
theorem Sv.newFound (S:Sv H ν J) (q:List Vl):
  Sv ((H.set (.found,ν.tk) (.list q)).set (.self,ν.self) (.inst .solver λb=>if b = .found then some (.ref (.found,ν.tk)) else flds ν J b)) {ν with found:=ν.tk,tk:=ν.tk+1} {J with fnd:=q}:=by
 have two:∀{m:G9} {o:Ob},m≠(.self,ν.self)->m≠(.found,ν.tk)->H m=some o->((H.set (.found,ν.tk) (.list q)).set (.self,ν.self) (.inst .solver λb=>if b = .found then some (.ref (.found,ν.tk)) else flds ν J b)) m=some o:=
  λh1 h2 h=>(B2 h1).trans ((B2 h2).trans h)
 refine ⟨by rw [D2];congr 2;funext b;cases b <;> first | contradiction | rfl,two (C6 rfl) (C6 rfl) S.clauses,λi hi=>two (C6 rfl) (C6 rfl) (S.cls i hi),two (C6 rfl) (C6 rfl) S.watches,
  λs hs=>two (C6 rfl) (C6 rfl) (S.rows s hs),two (C6 rfl) (C6 rfl) S.values,two (C6 rfl) (C6 rfl) S.levels,two (C6 rfl) (C6 rfl) S.reasons,
  two (C6 rfl) (C6 rfl) S.phases,two (C6 rfl) (C6 rfl) S.activity,two (C6 rfl) (C6 rfl) S.trail,two (C6 rfl) (C6 rfl) S.limits,
  two (C6 rfl) (C6 rfl) S.learned,(B2 (C6 rfl)).trans D2,λt j hj=>?_⟩
 have hj':ν.tk+1<=j:=hj
 have h1:=S.fresh t j (o9 hj')
 rw [B2,B2]
 ·exact h1
 ·intro e;cases e;exact o103 hj'
 ·intro e;cases e
  rw [S.self] at h1;cases h1
end
section
variable {M:(Nat->Bool)->Prop} {Or:List (List Int)} {C:Nat->Prop} {J:Sg} {Ls:List (List Int)}
theorem learn_n {c:List Int}:(J.learn c).n=J.n:=by unfold Sg.learn;split <;> rfl
theorem Aj5 {c:List Int}:(J.learn c).refuted=J.refuted:=by unfold Sg.learn;split <;> rfl
theorem learn_m {c:List Int}:(J.learn c).m<=J.m+1:=by
 unfold Sg.learn;split
 ·exact Nat.le_succ _
 ·exact Nat.le_succ _
 ·exact Nat.le_refl _
theorem De0 {c:List Int}:(J.learn c).lrn.length<=J.lrn.length+1:=by
 unfold Sg.learn;split
 ·exact Nat.le_succ _
 ·show (J.lrn++[_]).length<=_;rw [List.length_append];exact Nat.le_refl _
 ·show (J.lrn++[_]).length<=_;rw [List.length_append];exact Nat.le_refl _
theorem Sz.cutL {b:Nat} (Z:Sz b J) (q L:Nat):Sz b {J.cut q with lim:=J.lim.take L,head:=q}:=by
 have Z1:=Z.cut q
 exact ⟨Z.le,Z.n,Z.m,Z.cls,Z.rows,Z1.trail,by have:=Z.lim;show (J.lim.take L).length<b;rw [List.length_take];exact o105 this,Z.lrn⟩
theorem Pre.cancel0 (I:Inv M J) (O:Ok Or C J) (X:Hist Or C J Ls):Inv M (J.cancel 0)/\Ok Or C (J.cancel 0)/\Hist Or C (J.cancel 0) Ls/\(J.cancel 0).n=J.n/\(J.cancel 0).m=J.m/\(J.cancel 0).lrn=J.lrn/\(J.cancel 0).refuted=J.refuted/\(J.cancel 0).fnd=J.fnd:=by
 cases h:J.lim[0]? with
 | none=>
  have:J.cancel 0=J:=by unfold Sg.cancel;rw [h]
  rw [this];exact ⟨I,O,X,rfl,rfl,rfl,rfl,rfl⟩
 | some q=>
  rw [I.pre.cancel' h]
  exact ⟨I.pre.cancel h,O.cut I.B h,X.cut I.B h,rfl,rfl,rfl,rfl,rfl⟩
end
structure Sl (M:(Nat->Bool)->Prop) (Or:List (List Int)) (C:Nat->Prop) (n:Nat) (J:Sg) (Ls:List (List Int)) (since turn:Nat):Prop where
 inv:J.refuted=false->Inv M J/\Ok Or C J/\Hist Or C J Ls
 ref:J.refuted=true->∀α,¬M α
 n:J.n=n
 m:J.m<=1000+Ls.length
 lrn:J.lrn.length<=1000+Ls.length+(if J.refuted then 1 else 0)
 tn:turn+(if since=0 then 0 else 1)<=Ls.length+1
 t1:1<=turn
 few:Ls.length<1000
set_option maxHeartbeats 800000 in
inductive SI (M:(Nat->Bool)->Prop) (Or:List (List Int)) (C:Nat->Prop) (n s:Nat) (H0:Hq) (N:Nat) (l:Lq) (H:Hq):Prop
 | mk (ν:Nu) (J:Sg) (Ls:List (List Int)) (since turn:Nat) (a:l .self=some (.ref (.self,s))) (b:l .conflicts=some (.int (Ls.length:Nat))) (c:l .since=some (.int (since:Nat))) (d:l .turn=some (.int (turn:Nat)))
  (e:l .assumptions=some (.tup [])) (f:l .most=some (.int 1000)) (g:Sv H ν J) (h:Sl M Or C n J Ls since turn) (i:ν.self=s) (j:Frm tSlv H0 H) (k:N=mu n Ls.length since J.trail.length J.refuted)
theorem k_solve {k:Nat} {M:(Nat->Bool)->Prop} {Or:List (List Int)} {C:Nat->Prop} {H:Hq} {ν:Nu} {J:Sg} {n:Nat} (S:Sv H ν J) (hI:J.refuted=false->Inv M J/\Ok Or C J) (hR:J.refuted=true->∀α,¬M α) (hn:J.n=n) (hn':n<1000) (hm:J.m<=1000) (hlr:J.lrn.length<=1000)
  (bound:∀Ls:List (List Int),Ls.Pairwise (Df C)->(∀A∈Ls,Gd Or A)->Ls.length<1000) {Q:Vl->Hq->Prop}
  (q0:∀H' ν' σ',(∀α,¬M α)->Sv H' ν' σ'->Frm tSlv H H'->Q (.bool false) H')
  (q1:∀H' ν' σ' (α:Nat->Bool),Sv H' ν' σ'->(∀o∈Or,S0 α o)->σ'.n=n->σ'.m<=3000->σ'.lrn.length<=3000->Inv M σ'->σ'.fnd=(List.range (n+1)).map (λv=>V.bool (α v))->ν'.self=ν.self->Frm tSlv H H'->Q (.bool true) H'):
  C9 (k+5) .solve [.ref (.self,ν.self),.tup [],.int 1000] Q H:=by
 have hK:=C7 (k+3)
 refine D0 rfl ?_
 show C2 (C9 (k+4)) Da7 _ _ _
 refine J2 hK (v:=.int 0) rfl ?_
 refine J2 hK (v:=.int 0) rfl ?_
 refine J2 hK (v:=.int 1) rfl ?_
 refine U' hK (SI M Or C n ν.self H) (mu n 0 0 J.trail.length J.refuted)
  ⟨ν,J,[],0,1,rfl,rfl,rfl,rfl,rfl,rfl,S,⟨λh=>⟨(hI h).1,(hI h).2,⟨List.Pairwise.nil,λA h=>(by cases h),λA h=>(by cases h)⟩⟩,hR,hn,by simpa using hm,by simp;exact o267 hlr,by simp,o32,by simp⟩,rfl,Frm.refl,rfl⟩ ?_
 intro N l1 H1 q_
 obtain ⟨ν1,σ1,Ls,since,turn,e1,e2,e3,e4,e5,e6,S1,L,hs1,f1,rfl⟩:=q_
 have e1':l1 .self=some (.ref (.self,ν1.self)):=by rw [hs1];exact e1
 refine ⟨_,Af8 (N0 (D6 S1 e1' .refuted)),?_⟩
 cases href:σ1.refuted with
 | true=>
  rw [if_neg (show ¬(!true)=true by decide)]
  exact M3 hK (v:=.bool false) rfl (q0 H1 ν1 σ1 (L.ref href) S1 f1)
 | false=>
  rw [if_pos (show (!false)=true by decide)]
  refine E6 (L.inv href) λI1 O1 X1=>?_
  have n1:σ1.n<1000:=by rw [L.n];exact hn'
  have few:=L.few
  have m1:σ1.m<100000:=by have:=L.m;exact o286 this few
  have r1:σ1.lrn.length<100000:=by have:=L.lrn;rw [href] at this;simp at this;exact o286 this few
  refine V5 hK (n:=(.self,ν1.self)) (vs:=[]) e1' S1.self rfl rfl ?_
  refine k_prop (k:=k) (b:=100000) S1 I1 n1 m1 (o287 (by decide)) o288 r1 (λH2 ν2 σ2 S2 I2 hh E2 f2 hs2 _=>?_) (λH2 ν2 σ2 c S2 K2 E2 f2 hs2 _=>?_)
  ·-- nothing false
   have a1:(l1.set .conflict (.int (-1))) .self=some (.ref (.self,ν2.self)):=by rw [hs2];exact e1'
   have O2:=O1.ext I1.B I2.B E2
   have X2:=X1.ext I1.B I2.B E2
   have n2:σ2.n<1000:=by rw [E2.n];exact n1
   have Z2:=I2.sz (b:=100000) n2 (by rw [E2.m];exact m1) (o287 (by decide)) (o287 (by decide)) (by rw [E2.lrn];exact r1)
   have href2:σ2.refuted=false:=by rw [E2.refuted];exact href
   have htl:σ1.trail.length<=σ2.trail.length:=by obtain ⟨t,ht⟩:=E2.trail;rw [ht,List.length_append];exact o289
   have f12:=f1.trans f2.slv
   refine E9 hK (by rw [E0 (op:=.ge) (a:=.var .conflict) (b:=.int 0) (x:= -1) (y:=0) rfl rfl];rfl) ?_
   refine Bj6 (a:=.var .since) (x:=(since:Int)) (vs:=[.int (turn:Int)]) hK e3 (B9 (e:=.var .turn) e4 rfl) ?_
   have hturn:=L.tn
   refine k_luby (k:=k+2) (p:=turn) (by have:=L.t1;exact o290 this) (by split at hturn <;> (first | exact o291 hturn few (by decide) | exact o292 hturn few (by decide))) λr hr1 hr2=>?_
   refine ⟨.inl (by decide),?_⟩
   show if (decide ((32:Int)*r<=(since:Int)))=true then _ else _
   by_cases hc:(32:Int)*r<=(since:Int)
   ·rw [if_pos (decide_eq_true hc)]
    have hs0:since≠0:=o293 hc hr1
    refine J2 hK (v:=.int 0) rfl ?_
    refine J2 hK (v:=.int ((turn+1:Nat):Int)) (D8 (a:=.var .turn) (x:=(turn:Int)) (y:=1) e4 rfl) ?_
    refine Q5 hK (n:=(.self,ν2.self)) (vs:=[.int 0]) a1 S2.self rfl rfl ?_
    refine Ah4 (k:=k+2) (L:=0) S2 Z2 I2.B.nd (λl hl=>(I2.B.lit l hl).2) (λq hq=>Nat.le_of_lt (I2.B.lt q (List.mem_of_getElem? hq))) λH3 ν3 S3 f3 hs3 _ _=>⟨trivial,C0 (B6 (C0 (B6 (C0 ?_))))⟩
    refine un8 (Pre.cancel0 I2 O2 X2) λI3 O3 X3 c1 c2 c3 c4 c5=>?_
    refine ⟨_,Ce4 hs0,ν3,σ2.cancel 0,Ls,0,turn+1,e1,e2,rfl,rfl,e5,e6,S3,⟨λ_=>⟨I3,O3,X3⟩,λh=>?_,?_,?_,?_,?_,o139,few⟩,hs3.trans (hs2.trans hs1),f12.trans f3.canslv,by rw [c4,href2]⟩
    ·rw [c4,href2] at h;cases h
    ·rw [c1,E2.n];exact L.n
    ·rw [c2,E2.m];exact L.m
    ·rw [c3,c4,E2.lrn,href2];have:=L.lrn;rw [href] at this;exact this
    ·rw [if_pos rfl];rw [if_neg hs0] at hturn;exact o294 hturn
   ·rw [if_neg (by simpa using hc)]
    refine V5 hK (n:=(.self,ν2.self)) (vs:=[.tup []]) a1 S2.self rfl (B9 (e:=.var .assumptions) e5 rfl) ?_
    refine Ec1 (k:=k+2) S2 Z2 ?_
    have cn:pC H2 ((l1.set .conflict (.int (-1))).set .literal (.int 0)) (.cmp .ne (.var .literal) (.int 0))=some (J0 .ne 0 0):=E0 (x:=0) (y:=0) rfl rfl
    refine E9 hK (Dj3 (y:=false) cn (λh=>by cases h)) (C0 (B6 ?_))
    have ce:pC H2 ((l1.set .conflict (.int (-1))).set .literal (.int 0)) (.cmp .eq (.var .literal) (.int 0))=some (J0 .eq 0 0):=E0 (x:=0) (y:=0) rfl rfl
    refine G6 hK ce ?_
    refine V5 hK (n:=(.self,ν2.self)) (vs:=[]) a1 S2.self rfl rfl ?_
    refine k_free (k:=k+2) S2 Z2 λw hw=>?_
    have ce2:pC H2 (((l1.set .conflict (.int (-1))).set .literal (.int 0)).set .literal (.int w)) (.cmp .eq (.var .literal) (.int 0))=some (J0 .eq w 0):=E0 (x:=w) (y:=0) rfl rfl
    rcases hw with q_ | q_
    ·refine B7 q_ λC' hall=>?_
     clear q_
     subst C'
     refine G6 hK ce2 (Ed9 ?_)
     refine Df0 (e:=.attr (.var .self) .values) hK (D6 S2 a1 .values) S2.values (λi acc H3=>H3=H2/\i<=σ2.n+1/\acc=(List.range i).map λv=>(V.bool (σ2.val v==1):Vl)) ⟨rfl,Nat.zero_le _,rfl⟩ ?_
     intro i acc H3 q_
     refine byc λB5=>B7 q_ λC' B3=>?_
     clear q_
     subst C'
     refine B7 B3 λhi U5=>B5 ?_
     clear B3 B5
     subst U5
     refine ⟨S2.values,by simp;exact o295 hi n2 (by decide),λhend=>?_,λv hv=>?_⟩
     rotate_left
     ·have hlt:i<=σ2.n:=by
       have:=(List.getElem?_eq_some_iff.mp hv).1
       rw [E5] at this;exact o296 this
      rw [Bf5 hlt] at hv
      cases hv
      refine ⟨_,rfl,?_⟩
      refine ⟨rfl,o297 hlt,?_⟩
      rw [List.range_succ,List.map_append];rfl
     ·have hi':i=σ2.n+1:=by
       rw [List.getElem?_eq_none_iff,E5] at hend;exact o298 hi hend
      subst hi'
      refine ⟨(.found,ν2.tk),S2.fresh _ _ (Nat.le_refl _),_,a1,(.self,ν2.self),.solver,flds ν2 σ2,rfl,(B2 (C6 rfl)).trans S2.self,rfl,?_⟩
      have S3:=S2.newFound ((List.range (σ2.n+1)).map λv=>(V.bool (σ2.val v==1):Vl))
      have I3:Inv M {σ2 with fnd:=(List.range (σ2.n+1)).map λv=>(V.bool (σ2.val v==1):Vl)}:=⟨⟨I2.B.lit,I2.B.nd,I2.B.val,I2.B.inc,I2.B.lt,I2.B.lev,I2.B.pha⟩,⟨I2.D.ok,I2.D.lits,I2.D.nd,I2.D.ent⟩,I2.R,I2.Z,I2.W,I2.V,I2.hd,I2.top⟩
      have O3:Ok Or C {σ2 with fnd:=(List.range (σ2.n+1)).map λv=>(V.bool (σ2.val v==1):Vl)}:=⟨O2.cov,O2.cl,O2.vc⟩
      have X3:Hist Or C {σ2 with fnd:=(List.range (σ2.n+1)).map λv=>(V.bool (σ2.val v==1):Vl)} Ls:=⟨X2.pw,X2.gd,X2.ex⟩
      refine Bb2 hK (n:=(.self,ν2.self)) (vs:=[.bool true]) a1 S3.self rfl rfl ?_
      refine k_leave (k:=k+1) S3 (Z2.of rfl rfl rfl rfl rfl rfl rfl) I2.B.nd (λl hl=>(I2.B.lit l hl).2) (λq hq=>Nat.le_of_lt (I2.B.lt q (List.mem_of_getElem? hq))) λH4 ν4 S4 f4 hs4 _ _=>?_
      refine un8 (Pre.cancel0 I3 O3 X3) λI4 O4 X4 c1 c2 c3 c4 c5=>?_
      refine q1 H4 ν4 _ (λv=>σ2.val v==1) S4 (I2.model O2 hh hall) (by rw [c1];show σ2.n=n;rw [E2.n];exact L.n) (by rw [c2];show σ2.m<=3000;rw [E2.m];have:=L.m;exact o299 this few)
       (by rw [c3];show σ2.lrn.length<=3000;rw [E2.lrn];have:=L.lrn;rw [href] at this;simp at this;exact o299 this few) I4 (by rw [c5];show (List.range (σ2.n+1)).map _=_;rw [E2.n,L.n]) (hs4.trans (hs2.trans hs1)) (f12.trans (((Frm.set rfl).trans (Frm.set rfl)).trans f4.canslv))
    ·refine E6 q_ λw1 w2 w3=>?_
     clear q_
     refine E9 hK (by rw [ce2];show some ((w:Int)==0)=_;simp;exact o300 w1) (C0 (B6 ?_))
     have hp:=I2.B.pha w w1 w2
     have gp:=U2 (l:=((l1.set .conflict (.int (-1))).set .literal (.int 0)).set .literal (.int w)) (i:=.var .literal) (k:=w) Z2 (D6 (l:=((l1.set .conflict (.int (-1))).set .literal (.int 0)).set .literal (.int w)) S2 a1 .phases) rfl S2.phases o73 (o111 w2)
     rw [show ((w:Nat):Int).toNat=w by exact o77] at gp
     have gm:pE H2 (((l1.set .conflict (.int (-1))).set .literal (.int 0)).set .literal (.int w)) (.bin .mul (.var .literal) (.sub (.attr (.var .self) .phases) (.var .literal)))=some (.int (w*σ2.pha w)):=by
      refine (D8 (a:=.var .literal) (x:=w) rfl gp).trans ?_
      show (if (w:Int).natAbs<1073741824\/(σ2.pha w).natAbs<1073741824 then some (V.int (w*σ2.pha w)) else none)=_
      rw [if_pos (.inl (o301 w2 n2 (by decide)))]
     refine J2 hK gm (C0 (B6 ?_))
     have ha:((w:Int)*σ2.pha w).natAbs=w:=by rcases hp with h | h <;> rw [h] <;> exact (Int.natAbs_mul _ _).trans (Nat.mul_one w)
     have hv:σ2.value ((w:Int)*σ2.pha w)=0:=by
      unfold Sg.value
      rw [ha,w3];split <;> rfl
     refine Q5 hK (n:=(.self,ν2.self)) (vs:=[.int ((w:Int)*σ2.pha w)]) a1 S2.self rfl rfl ?_
     refine Ec0 (k:=k+1) S2 Z2 (o304 (by decide)) (by rw [ha];exact w2) λH3 S3 f3=>⟨trivial,C0 (B6 (C0 (B6 (C0 ?_))))⟩
     have I3:=I2.decide hh (by rw [ha];exact w1) (by rw [ha];exact w2) hv
     have hle:=Y8 I3.B.nd I3.B.lit
     refine ⟨_,mu_dec (T':=(σ2.decide ((w:Int)*σ2.pha w)).trail.length) ?_ ?_,ν2,σ2.decide ((w:Int)*σ2.pha w),Ls,since,turn,e1,e2,e3,e4,e5,e6,S3,⟨λ_=>⟨I3,O2.decide I2 hh (by rw [ha];exact w1) (by rw [ha];exact w2) hv,X2.decide I2.B (by rw [ha];exact w1) (by rw [ha];exact w2) hv⟩,
      λh=>?_,?_,?_,?_,hturn,L.t1,few⟩,hs2.trans hs1,f12.trans f3.slv,?_⟩
     ·show σ1.trail.length<(σ2.trail++[_]).length
      rw [List.length_append];simp;exact o68 htl
     ·have e:(σ2.decide ((w:Int)*σ2.pha w)).n=n:=by show σ2.n=n;rw [E2.n];exact L.n
      rw [e] at hle;exact hle
     ·have h':σ2.refuted=true:=h
      rw [href2] at h';cases h'
     ·show σ2.n=n;rw [E2.n];exact L.n
     ·show σ2.m<=_;rw [E2.m];exact L.m
     ·show σ2.lrn.length<=1000+Ls.length+(if σ2.refuted=true then 1 else 0)
      rw [E2.lrn,E2.refuted];exact L.lrn
     ·show mu _ _ _ _ false=mu _ _ _ _ σ2.refuted
      rw [href2]
  ·-- a false clause
   have a1:(l1.set .conflict (.int c)) .self=some (.ref (.self,ν2.self)):=by rw [hs2];exact e1'
   have O2:=O1.ext I1.B K2.B E2
   have X2:=X1.ext I1.B K2.B E2
   have n2:σ2.n<1000:=by rw [E2.n];exact n1
   have Z2:=K2.sz (b:=100000) n2 (by rw [E2.m];exact m1) (o287 (by decide)) (o287 (by decide)) (by rw [E2.lrn];exact r1)
   have href2:σ2.refuted=false:=by rw [E2.refuted];exact href
   have htl:σ1.trail.length<=σ2.trail.length:=by obtain ⟨t,ht⟩:=E2.trail;rw [ht,List.length_append];exact o289
   have f12:=f1.trans f2.slv
   refine G6 hK (by rw [E0 (op:=.ge) (a:=.var .conflict) (b:=.int 0) (x:=c) (y:=0) rfl rfl];show some (decide ((0:Int)<=(c:Int)))=_;rw [decide_eq_true o73]) ?_
   have cl:=E0 (op:=.eq) (b:=.int 0) (y:=0) (r7 S2 Z2 a1) rfl
   by_cases h0:σ2.lim=[]
   ·refine G6 hK (by rw [cl,h0];rfl) ?_
    refine Q5 hK (n:=(.self,ν2.self)) (vs:=[]) a1 S2.self rfl rfl ?_
    refine Bh9 (k:=k+2) S2 Z2 λH3 S3 f3=>⟨trivial,C0 (B6 (C0 (B6 (C0 ?_))))⟩
    refine ⟨_,mu_ref htl,ν2,σ2.refute,Ls,since,turn,e1,e2,e3,e4,e5,e6,S3,⟨λh=>(by cases h),λ_=>K2.unsat h0,?_,?_,?_,L.tn,L.t1,few⟩,hs2.trans hs1,f12.trans f3.slv,rfl⟩
    ·show σ2.n=n;rw [E2.n];exact L.n
    ·show σ2.m<=_;rw [E2.m];exact L.m
    ·show (σ2.lrn++[_]).length<=1000+Ls.length+1
     rw [List.length_append,E2.lrn]
     have:=L.lrn;rw [href] at this;simp at this ⊢;exact o8 this
   ·have hL:1<=σ2.lim.length:=by
     rcases Nat.eq_zero_or_pos σ2.lim.length with h | h
     ·exact absurd (List.eq_nil_of_length_eq_zero h) h0
     ·exact h
    refine E9 hK (by rw [cl];show some ((σ2.lim.length:Int)==0)=_;simp;exact o8 h0) ?_
    refine J2 hK (v:=.int ((Ls.length+1:Nat):Int)) (D8 (a:=.var .conflicts) (x:=(Ls.length:Int)) (y:=1) e2 rfl) ?_
    refine J2 hK (v:=.int ((since+1:Nat):Int)) (D8 (a:=.var .since) (x:=(since:Int)) (y:=1) e3 rfl) ?_
    refine Cg3 hK (n:=(.self,ν2.self)) (vs:=[.int c]) a1 S2.self rfl rfl ?_
    refine De3 (k:=k+1) S2 K2 hL Z2 λH3 ν3 act step j x r back S3 hj A f3 hs3 _=>⟨_,_,rfl,?_⟩
    have K3:=K2.act act step
    have A3:=A.act act step
    have Z3:Sz 100000 (σ2.wA act step):=Z2.of rfl rfl rfl rfl rfl rfl rfl
    refine E6 (K3.learned (O2.act act step) (X2.act act step) hL A3) λI5 O5 X5=>?_
    have hback:back<σ2.lim.length:=by
     rcases A.bk with q_ | q_
     ·refine B7 q_ λ_ h=>?_
      clear q_
      exact o271 hL h
     ·exists J8 q_ λy r' B3=>E6 B3 λh1 h2 _=>B5 ?_
      clear q_
      have:=(A.r1 y (by rw [h1];simp)).2.2;exact o272 h2 this
    have hq:((σ2.wA act step):Sg).lim[back]? = some σ2.lim[back]:=List.getElem?_eq_getElem hback
    generalize hqq:σ2.lim[back]=q at hq
    have hs3':ν3.self=ν1.self:=hs3.trans hs2
    refine Q5 hK (n:=(.self,ν3.self)) (vs:=[.int (back:Nat)]) (by rw [hs3'];exact e1') S3.self rfl rfl ?_
    refine Ah4 (k:=k+2) (L:=back) S3 Z3 K2.B.nd (λl hl=>(K2.B.lit l hl).2) (λq hq=>Nat.le_of_lt (K2.B.lt q (List.mem_of_getElem? hq))) λH4 ν4 S4 f4 hs4 _ _=>⟨trivial,?_⟩
    rw [K3.pre.cancel' hq] at S4 I5 O5 X5
    have hj4:H4 (.cls σ2.m,j)=some (.list (C8 (x::r))):=(f4 _ _ rfl).trans hj
    have hlits:∀u∈x::r,1<=u.natAbs/\u.natAbs<=σ2.n:=λu hu=>by
     have h: -u∈σ2.trail:=by
      rcases List.mem_cons.mp hu with rfl | h
      ·exact A.x1
      ·exact (A.r1 u h).1
     have:=K2.B.lit _ h
     rw [Int.natAbs_neg] at this;exact this
    have hlen:=Y8 A.nd hlits
    have hs4':ν4.self=ν1.self:=hs4.trans hs3'
    refine Q5 hK (n:=(.self,ν4.self)) (vs:=[.ref (.cls σ2.m,j)]) (by rw [hs4'];exact e1') S4.self rfl rfl ?_
    refine k_learn (k:=k+1) S4 (Z3.cutL q back) (o305 (by decide)) hj4 (by simp at hlen;exact o212 hlen n2) (λu hu=>(hlits u hu).2) λH5 ν5 S5 f5 hs5 _=>⟨trivial,?_⟩
    generalize ac9:Sg.learn _ (x::r)=σ5 at S5 I5 O5 X5
    have hs5':ν5.self=ν1.self:=hs5.trans hs4'
    generalize hl5:((((l1.set Vr.conflict (V.int (c:Int))).set Vr.conflicts (V.int ((Ls.length+1:Nat):Int))).set Vr.since (V.int ((since+1:Nat):Int))).set Vr.literals (V.ref (Tag.cls σ2.m,j))).set Vr.back (V.int (back:Int))=l5
    have b1:l5 .self=some (.ref (.self,ν5.self)):=by rw [hs5',<-hl5];exact e1'
    have b0:l5 .self=some (.ref (.self,ν.self)):=by rw [<-hl5];exact e1
    have b2:l5 .conflicts=some (.int ((Ls.length+1:Nat):Int)):=by rw [<-hl5];rfl
    have b3:l5 .since=some (.int ((since+1:Nat):Int)):=by rw [<-hl5];rfl
    have b4:l5 .turn=some (.int turn):=by rw [<-hl5];exact e4
    have b5:l5 .assumptions=some (.tup []):=by rw [<-hl5];exact e5
    have b6:l5 .most=some (.int 1000):=by rw [<-hl5];exact e6
    have gs:pE H5 l5 (.bin .add (.bin .add (.attr (.var .self) .step) (.bin .fdiv (.attr (.var .self) .step) (.int 16))) (.int 1))=some (.int (σ5.step+σ5.step.fdiv 16+1)):=by
     refine D8 (y:=1) (D8 (x:=σ5.step) (y:=σ5.step.fdiv 16) (D6 S5 b1 .step) ?_) rfl
     exact (D8 (b:=.int 16) (x:=σ5.step) (y:=16) (D6 S5 b1 .step) rfl).trans (V9 ⟨by decide,by decide⟩)
    refine V7 hK gs (n:=(.self,ν5.self)) b1 S5.self rfl ?_
    have S6:=S5.setStep (σ5.step+σ5.step.fdiv 16+1)
    have I6:=I5.act σ5.act (σ5.step+σ5.step.fdiv 16+1)
    have O6:=O5.act σ5.act (σ5.step+σ5.step.fdiv 16+1)
    have X6:=X5.act σ5.act (σ5.step+σ5.step.fdiv 16+1)
    have hb:=bound _ X6.pw X6.gd
    have hb':Ls.length+1<1000:=hb
    have cm:=E0 (H:=H5.set (.self,ν5.self) (.inst .solver λb=>if b = .step then some (.int (σ5.step+σ5.step.fdiv 16+1)) else flds ν5 σ5 b)) (l:=l5) (op:=.ge) (a:=.var .conflicts) (b:=.var .most) b2 b6
    refine E9 hK (by rw [cm];show some (decide ((1000:Int)<=((Ls.length+1:Nat):Int)))=_;rw [decide_eq_false (o306 hb' (by decide))]) (C0 (B6 (C0 (B6 (C0 ?_)))))
    have sn:σ5.n=σ2.n:=by rw [<-ac9,learn_n];rfl
    have sr:σ5.refuted=σ2.refuted:=by rw [<-ac9,Aj5];rfl
    have sm:σ5.m<=σ2.m+1:=by rw [<-ac9];exact learn_m
    have sl:σ5.lrn.length<=σ2.lrn.length+1:=by rw [<-ac9];exact De0
    have f3':Frm tSlv H2 H3:=λt j ht=>f3 t j (z' ht).1 (z' ht).2.1 (z' ht).2.2
    refine ⟨_,mu_conf (P:=Ls.length) (since:=since) (T':=σ5.trail.length) (r':=σ5.refuted) (o168 few),ν5,(σ5.wA σ5.act (σ5.step+σ5.step.fdiv 16+1)),mark (σ2.wA act step)::Ls,since+1,turn,b0,b2,b3,b4,b5,b6,S6,⟨λ_=>⟨I6,O6,X6⟩,λh=>?_,?_,?_,?_,?_,L.t1,hb⟩,hs5'.trans hs1,f12.trans (f3'.trans (f4.canslv.trans (f5.slv.trans (Frm.set rfl)))),?_⟩
    ·have h':σ5.refuted=true:=h
     rw [sr,href2] at h';cases h'
    ·show σ5.n=n;rw [sn,E2.n];exact L.n
    ·show σ5.m<=1000+(Ls.length+1)
     have:=L.m;rw [E2.m] at sm;exact o307 sm this
    ·show σ5.lrn.length<=1000+(Ls.length+1)+(if σ5.refuted=true then 1 else 0)
     have:=L.lrn;rw [href] at this;simp at this
     rw [E2.lrn] at sl;exact o308 sl this
    ·have:=L.tn
     rw [if_neg o281]
     show turn+1<=Ls.length+1+1
     split at this <;> (first | exact o309 this | exact o181 this)
    ·rfl
section rules
variable {K:Calls G9} {H:Hq} {l:Lq} {ss:Ss} {Q:Fl G9->Lq->Hq->Prop}
theorem u8 {H:Hq} {n:G9} {a b:Ob}:(H.set n a).set n b=H.set n b:=by
 funext m
 unfold Hp.set
 split <;> rfl
theorem Da3 {a b:E} {t f:Ss} {x:Int} {n:G9} {xs:List Int} (hK:D5 K) (ha:pE H l a=some (.int x)) (hb:pE H l b=some (.ref n)) (hn:H n=some (.list (C8 xs)))
  (q:if xs.contains x=true then C2 K t (M0 K ss Q) l H else C2 K f (M0 K ss Q) l H):C2 K (.cons (.ite (.isIn a b) t f) ss) Q l H:=
 D3 (e:=a) hK ha (D3 (e:=b) hK hb ⟨xs,hn,q⟩)
theorem Ai2 {a b:E} {t f:Ss} {x:Int} {n:G9} {xs:List Int} (hK:D5 K) (ha:pE H l a=some (.int x)) (hb:pE H l b=some (.ref n)) (hn:H n=some (.list (C8 xs)))
  (q:if (!xs.contains x)=true then C2 K t (M0 K ss Q) l H else C2 K f (M0 K ss Q) l H):C2 K (.cons (.ite (.notIn a b) t f) ss) Q l H:=
 D3 (e:=a) hK ha (D3 (e:=b) hK hb ⟨xs,hn,q⟩)
theorem Ee0 {t:Tg} {e:E} {b:Ss} {xs:List Vl} (hK:D5 K) (he:pE H l e=some (.tup xs)) (I:Nat->Lq->Hq->Prop) (h0:I 0 l H)
  (hI:∀i l2 H2,I i l2 H2->(xs[i]? = none->C2 K ss Q l2 H2) /\
   ∀v,xs[i]? = some v->∃l3,m7 t v l2=some l3/\C2 K b (d9 (λl4 H4=>I (i+1) l4 H4) (M0 K ss Q)) l3 H2):C2 K (.cons (.for_ t (.seq e) b) ss) Q l H:=by
 refine D3 (e:=e) hK he ⟨I,h0,λi l2 H2 h=>⟨trivial,?_⟩⟩
 have h2:=hI i l2 H2 h
 cases hx:xs[i]? with
 | none=>exact h2.1 hx
 | some v=>exact h2.2 v hx
theorem Bj2 {k:Kl} {args:Es} {x:Vr} {vs:List Vl} (hK:D5 K) (ha:c9 H l args=some vs) (m:G9) (hm:H m=none)
  (q:K k.init (.ref m::vs) (λr H2=>r.isNone=true/\C2 K ss Q (l.set x (.ref m)) H2) (H.set m (.inst k λ_=>none))):C2 K (.cons (.set x (.new k args)) ss) Q l H:=
 J' (es:=args) hK ha ⟨m,hm,q⟩
theorem j5 {e:E} {v:Vl} (he:pE H l e=some v):pC H l (.isNone e)=some v.isNone:=b1 _ he
end rules
theorem Bh2 {c:List Int} (hnd:(vars c).Nodup) {i:Nat} {u:Int} (hu:c[i]? = some u) (h0:1<=u.natAbs):u∉c.take i /\ -u∉c.take i:=by
 have hs:c=c.take i++u::c.drop (i+1):=by rw [<-l8 hu,List.take_append_drop]
 have h:=hnd
 rw [hs] at h
 unfold vars at h
 rw [List.map_append,List.nodup_append] at h
 constructor
 ·intro hm
  exact h.2.2 _ (List.mem_map_of_mem hm) u.natAbs (by simp) rfl
 ·intro hm
  exact h.2.2 _ (List.mem_map_of_mem hm) u.natAbs (by simp) (by rw [Int.natAbs_neg])
theorem k_plain {k:Nat} {H:Hq} {c:List Int} {j:Nat} (hnd:(vars c).Nodup) (h0:∀u∈c,1<=u.natAbs) (hl:c.length<1000) (hj:H (.kept,j)=none) {Q:Vl->Hq->Prop}
  (q:Q (.ref (.kept,j)) (H.set (.kept,j) (.list (C8 c)))):C9 (k+2) .plain_clause [.tup (C8 c)] Q H:=by
 have hK:=C7 k
 refine D0 rfl ?_
 show C2 (C9 (k+1)) t6 _ _ _
 refine T0 hK (vs:=[]) rfl (by decide) (.kept,j) hj ?_
 refine Ee0 (e:=.var .clause) (xs:=C8 c) hK rfl (λi l2 H2=>l2 .kept=some (.ref (.kept,j))/\H2=H.set (.kept,j) (.list (C8 (c.take i)))) ⟨rfl,by simp [C8]⟩ ?_
 intro i l2 H2 q_
 refine B7 q_ λe1 C'=>?_
 clear q_
 subst C'
 constructor
 ·intro hend
  rw [List.getElem?_eq_none_iff,C3] at hend
  rw [List.take_of_length_le hend]
  exact M3 hK (v:=.ref (.kept,j)) e1 q
 ·intro v hv
  unfold C8 at hv
  rw [List.getElem?_map] at hv
  cases hu:c[i]? with
  | none=>rw [hu] at hv;cases hv
  | some u=>
   rw [hu] at hv;cases hv
   refine B7 (Bh2 hnd hu (h0 u (List.mem_of_getElem? hu))) λn1 n2=>?_
   refine ⟨l2.set .literal (.int u),rfl,?_⟩
   have gn:pE (H.set (.kept,j) (.list (C8 (c.take i)))) (l2.set .literal (.int u)) (.neg (.var .literal))=some (.int (-u)):=rfl
   refine Da3 (b:=.var .kept) hK gn e1 D2 ?_
   rw [if_neg (by simpa using n2)]
   refine C0 (B6 ?_)
   refine Ai2 (a:=.var .literal) (b:=.var .kept) (x:=u) hK rfl e1 D2 ?_
   rw [if_pos (by simpa using n1)]
   refine I9 (o:=.var .kept) (e:=.var .literal) (v:=.int u) hK e1 D2 rfl (by rw [C3,List.length_take];exact o310 hl (by decide)) ?_
   rw [u8,P9]
   refine C0 (B6 (C0 ⟨e1,?_⟩))
   rw [R9 hu]
structure Ld (M:(Nat->Bool)->Prop) (Or:List (List Int)) (C:Nat->Prop) (J:Sg):Prop where
 inv:J.refuted=false->Inv M J/\Ok Or C J/\J.lim=[]/\J.head=0
 ref:J.refuted=true->∀α,¬M α
noncomputable def tAdd:Tag->Bool | .kept=>true | t=>Q3 t
theorem Ch2 {t:Tag} (h:tAdd t=false):Q3 t=false/\t ≠ .kept:=by
 cases t <;> first | (cases h;done) | exact ⟨h,by simp⟩
theorem Frm.add {H H':Hq} (f:Frm Q3 H H'):Frm tAdd H H':=f.mono λt h=>(Ch2 h).1
theorem lev0 {J:Sg} (B:Base J) (h:J.lim=[]) {l:Int} (hl:l∈J.trail):J.lev l.natAbs=0:=by
 refine C1 (List.getElem?_of_mem hl) λp hp=>?_
 rw [B.lev p l hp,h];rfl
section
variable {M:(Nat->Bool)->Prop} {Or:List (List Int)} {C:Nat->Prop} {J:Sg} {c:List Int}
theorem Ld.skip (L:Ld M Or C J) {l:Int} (hl:l∈c) (ht:l∈J.trail):Ld M (Or++[c]) C J:=by
 refine ⟨λh=>?_,L.ref⟩
 refine R7 (L.inv h) λI O h1 h2=>?_
 refine ⟨I,⟨λo ho=>?_,O.cl,O.vc⟩,h1,h2⟩
 rcases List.mem_append.mp ho with h | h
 ·exact O.cov o h
 ·simp at h;subst h
  exact .inl ⟨l,hl,ht,lev0 I.B h1 ht⟩
theorem Ld.refuted (L:Ld M Or C J) (h:J.refuted=true):Ld M (Or++[c]) C J:=⟨λh'=>(by rw [h] at h';cases h'),L.ref⟩
variable (hr:J.refuted=false) (hM:∀α,M α->S0 α c) (hc:∀u∈c,1<=u.natAbs/\u.natAbs<=J.n/\C u.natAbs) (hnt:∀u∈c,u∉J.trail)
noncomputable def Sg.free (J:Sg) (c:List Int):List Int:=c.filter λu=>J.value u==0
theorem Ah7 (L:Ld M Or C J) (hr:J.refuted=false) (hM:∀α,M α->S0 α c) (hc:∀u∈c,1<=u.natAbs/\u.natAbs<=J.n/\C u.natAbs) (hnt:∀u∈c,u∉J.trail):∀α,M α->S0 α (J.free c):=by
 refine R7 (L.inv hr) λI O h1 h2=>?_
 intro α hα
 exists C1 (hM α hα) λu B3=>B7 B3 λhu hs=>B5 ?_
 refine ⟨u,List.mem_filter.mpr ⟨hu,?_⟩,hs⟩
 refine E6 (hc u hu) λa b _=>?_
 have:J.value u=0:=by
  rw [I.B.uu a b]
  refine ⟨hnt u hu,λh=>?_⟩
  have:=I.Z (-u) h (lev0 I.B h1 h) α hα
  exact absurd hs ((i1 a).mp this)
 simp [this]
theorem Ld.none (L:Ld M Or C J) (hr:J.refuted=false) (hM:∀α,M α->S0 α c) (hc:∀u∈c,1<=u.natAbs/\u.natAbs<=J.n/\C u.natAbs) (hnt:∀u∈c,u∉J.trail) (hf:J.free c=[]):Ld M (Or++[c]) C J.refute:=by
 refine ⟨λh=>(by cases h),λ_ α hα=>?_⟩
 exists C1 (Ah7 L hr hM hc hnt α hα) λu B3=>B7 B3 λhu _=>B5 ?_
 rw [hf] at hu;cases hu
theorem Ld.one (L:Ld M Or C J) (hr:J.refuted=false) (hM:∀α,M α->S0 α c) (hc:∀u∈c,1<=u.natAbs/\u.natAbs<=J.n/\C u.natAbs) (hnt:∀u∈c,u∉J.trail) {x:Int} (hf:J.free c=[x]):Ld M (Or++[c]) C (J.assign x (-1)):=by
 refine R7 (L.inv hr) λI O h1 h2=>?_
 have hx:=List.mem_filter.mp (show x∈J.free c by rw [hf];simp)
 have hx0:J.value x=0:=by simpa using hx.2
 refine E6 (hc x hx.1) λx1 x2 x3=>?_
 have ent:∀α,M α->N6 α x:=λα hα=>by
  exists C1 (Ah7 L hr hM hc hnt α hα) λu B3=>B7 B3 λhu hs=>B5 ?_
  rw [hf] at hu;simp at hu;subst hu;exact hs
 have I2:=I.unit h1 x1 x2 ent hx0
 have hgl:∀l∈J.trail,(J.assign x (-1)).lev l.natAbs=J.lev l.natAbs:=λl hl=>I.B.assign_lev x1 x2 hx0 hl
 have O2:=O.grow I.B (σ':=J.assign x (-1)) (Nat.le_refl _) (λ_ _=>rfl) (t:=[x]) rfl hgl rfl λi a b=>absurd b (Nat.not_lt_of_le a)
 refine ⟨λ_=>⟨I2,⟨λo ho=>?_,O2.cl,O2.vc⟩,h1,h2⟩,λh=>(by have h':J.refuted=true:=h;rw [hr] at h';cases h')⟩
 rcases List.mem_append.mp ho with h | h
 ·exact O2.cov o h
 ·simp at h;subst h
  have hm:x∈(J.assign x (-1)).trail:=by show x∈J.trail++[x];simp
  exact .inl ⟨x,hx.1,hm,lev0 I2.B h1 hm⟩
theorem Ld.more (L:Ld M Or C J) (hr:J.refuted=false) (hM:∀α,M α->S0 α c) (hc:∀u∈c,1<=u.natAbs/\u.natAbs<=J.n/\C u.natAbs) (hnt:∀u∈c,u∉J.trail) (hnd:(vars c).Nodup) {x y:Int} {r:List Int} (hf:J.free c=x::y::r):
  Ld M (Or++[c]) C (J.attach (x::y::r) x y):=by
 refine R7 (L.inv hr) λI O h1 h2=>?_
 have hsub:∀u∈x::y::r,u∈c:=λu hu=>(List.mem_filter.mp (show u∈J.free c by rw [hf];exact hu)).1
 have hnd':(vars (x::y::r)).Nodup:=by
  rw [<-hf]
  unfold vars at hnd ⊢
  exact hnd.sublist (List.filter_sublist.map _)
 have I2:=I.attach h2 (λu hu=>⟨(hc u (hsub u hu)).1,(hc u (hsub u hu)).2.1⟩) hnd' (by rw [<-hf];exact Ah7 L hr hM hc hnt)
 have O2:=O.grow I.B (σ':=J.attach (x::y::r) x y) (Nat.le_succ _) (λi hi=>W7 hi) (t:=[]) (by simp [Sg.attach]) (λ_ _=>rfl) rfl λi a b=>by
  have hi:i=J.m:=by have b':i<J.m+1:=b;exact o276 b' a
  subst hi
  rw [T1,h1]
  exact ⟨λq hq=>(by cases hq),λu hu=>(hc u (hsub u hu)).2.2⟩
 refine ⟨λ_=>⟨I2,⟨λo ho=>?_,O2.cl,O2.vc⟩,h1,h2⟩,λh=>(by have h':J.refuted=true:=h;rw [hr] at h';cases h')⟩
 rcases List.mem_append.mp ho with h | h
 ·exact O2.cov o h
 ·simp at h;subst h
  exact .inr ⟨J.m,Nat.lt_succ_self _,by rw [T1];exact hsub⟩
end
theorem k_add {k:Nat} {M:(Nat->Bool)->Prop} {Or:List (List Int)} {C:Nat->Prop} {H:Hq} {ν:Nu} {J:Sg} {c:List Int} (S:Sv H ν J) (hn:J.n<1000) (hZ:J.refuted=false->Sz 5000 J) (L:Ld M Or C J) (hnd:(vars c).Nodup) (hM:∀α,M α->S0 α c) (hc:∀u∈c,1<=u.natAbs/\u.natAbs<=J.n/\C u.natAbs) {Q:Vl->Hq->Prop}
  (q:∀H' ν' σ',Sv H' ν' σ'->Ld M (Or++[c]) C σ'->σ'.n=J.n->σ'.m<=J.m+1->σ'.lrn.length<=J.lrn.length+1->ν'.self=ν.self->Frm tAdd H H'->Q .none H'):
  C9 (k+3) .add [.ref (.self,ν.self),.tup (C8 c)] Q H:=by
 have hK:=C7 (k+1)
 have hcl:c.length<1000:=by
  have:=Y8 hnd λu hu=>⟨(hc u hu).1,(hc u hu).2.1⟩
  exact o212 this hn
 refine D0 rfl ?_
 show C2 (C9 (k+2)) b_add _ _ _
 refine V6 hK (vs:=[.tup (C8 c)]) rfl ?_
 refine k_plain (k:=k) hnd (λu hu=>(hc u hu).1) hcl (S.fresh .kept ν.tk (Nat.le_refl _)) ?_
 have S1:=S.alloc .kept (.list (C8 c))
 have f1:Frm tAdd H (H.set (.kept,ν.tk) (.list (C8 c))):=Frm.set rfl
 generalize hl0:(Lc.args Fn.add.params [V.ref (Tag.self,ν.self),V.tup (C8 c)]).set .literals (V.ref (Tag.kept,ν.tk))=l0
 have e1:l0 .self=some (.ref (.self,ν.self)):=by rw [<-hl0];rfl
 have e2:l0 .literals=some (.ref (.kept,ν.tk)):=by rw [<-hl0];rfl
 generalize hH1:H.set (.kept,ν.tk) (.list (C8 c))=H1 at S1 f1 ⊢
 have hk1:H1 (.kept,ν.tk)=some (.list (C8 c)):=by rw [<-hH1];exact D2
 have c0:pC H1 l0 (.isNone (.var .literals))=some false:=j5 (e:=.var .literals) e2
 have c1:=Ch7 c0 λ_=>N0 (D6 S1 e1 .refuted)
 cases href:J.refuted with
 | true=>
  refine G6 hK (by rw [c1,href];rfl) (Ac1 (q H1 _ J S1 (L.refuted href) rfl (Nat.le_succ _) (Nat.le_succ _) rfl f1))
 | false=>
  refine E9 hK (by rw [c1,href];rfl) (C0 (B6 ?_))
  refine R7 (L.inv href) λI O h1 h2=>?_
  have Z:=hZ href
  refine T0 hK (vs:=[]) rfl (by decide) (.cls J.m,ν.tk+1) (S1.fresh _ _ (Nat.le_refl _)) ?_
  have S2:=S1.alloc (.cls J.m) (.list [])
  refine V8 (e:=.var .literals) (n:=(.kept,ν.tk)) (xs:=C8 c) hK e2 ((B2 (C6 rfl)).trans hk1)
   (λi l2 H2=>l2 .self=some (.ref (.self,ν.self))/\l2 .rest=some (.ref (.cls J.m,ν.tk+1))/\(∀u∈c.take i,u∉J.trail)/\H2=H1.set (.cls J.m,ν.tk+1) (.list (C8 (J.free (c.take i))))) ⟨e1,rfl,λu hu=>by simp at hu,by simp [Sg.free,C8]⟩ ?_
  intro i l2 H2 q_
  refine R7 q_ λa1 a2 hno C'=>?_
  clear q_
  subst C'
  have S3:Sv (H1.set (.cls J.m,ν.tk+1) (.list (C8 (J.free (c.take i))))) (ν.wT (ν.tk+1+1)) J:=S1.alloc (.cls J.m) _
  have f3:Frm tAdd H (H1.set (.cls J.m,ν.tk+1) (.list (C8 (J.free (c.take i))))):=f1.trans (Frm.set rfl)
  refine ⟨(B2 (C6 rfl)).trans hk1,λhend=>?_,λv hv=>?_⟩
  ·rw [List.getElem?_eq_none_iff,C3] at hend
   rw [List.take_of_length_le hend] at hno S3 f3 ⊢
   have hfl:(J.free c).length<=c.length:=List.length_filter_le _ _
   have cv:=Af8 (Af7 (H:=H1.set (.cls J.m,ν.tk+1) (.list (C8 (J.free c)))) (e:=.var .rest) (l:=l2) a2 D2 (by rw [C3];exact o311 hfl hcl (by decide)))
   have lenE:pE (H1.set (.cls J.m,ν.tk+1) (.list (C8 (J.free c)))) l2 (.bi .len (.var .rest))=some (.int ((J.free c).length:Nat)):=by
    rw [W3 (e:=.var .rest) a2 D2 (by rw [C3];exact o311 hfl hcl (by decide)),C3]
   have cl:=E0 (op:=.eq) (y:=1) lenE (show pE _ _ (.int 1)=_ from rfl)
   have g0:∀x r,J.free c=x::r->pE (H1.set (.cls J.m,ν.tk+1) (.list (C8 (J.free c)))) l2 (.sub (.var .rest) (.int 0))=some (.int x):=λx r hf=>by
    rw [J4 (e:=.var .rest) (i:=.int 0) (n:=(.cls J.m,ν.tk+1)) a2 rfl D2]
    exact J7 (k:=0) (by rw [hf];rfl) (o311 hfl hcl (by decide))
   have hmem:∀u∈J.free c,u∈c:=λu hu=>(List.mem_filter.mp hu).1
   cases hf:J.free c with
   | nil=>
    rw [hf] at cv cl lenE S3 f3 g0
    refine G6 hK (by rw [cv];rfl) ?_
    refine Q5 hK (n:=(.self,ν.self)) (vs:=[]) a1 S3.self rfl rfl ?_
    exact Bh9 (k:=k) S3 Z λH4 S4 f4=>⟨trivial,C0 (B6 (C0 (q H4 _ J.refute S4 (L.none href hM hc hno hf) rfl (Nat.le_succ _) (by show (J.lrn++[_]).length<=_;rw [List.length_append];exact Nat.le_refl _) rfl (f3.trans f4.add))))⟩
   | cons x r=>
    have hxc:=hmem x (by rw [hf];simp)
    have hxn:=(hc x hxc).2.1
    have g0:=g0 x r hf
    rw [hf] at cv cl lenE S3 f3 g0
    refine E9 hK (by rw [cv];rfl) ?_
    cases r with
    | nil=>
     refine G6 hK (by rw [cl];rfl) ?_
     refine Q5 hK (n:=(.self,ν.self)) (vs:=[.int x,.int (-1)]) a1 S3.self rfl (B9 g0 (B9 rfl rfl)) ?_
     exact s7 (k:=k) S3 Z hxn λH4 S4 f4=>⟨trivial,C0 (B6 (C0 (B6 (C0 (q H4 _ _ S4 (L.one href hM hc hno hf) rfl (Nat.le_succ _) (Nat.le_succ _) rfl (f3.trans (((Frm.asg f4).mono λt ht=>Ae6 ht):Frm Q3 _ _).add))))))⟩
    | cons y r=>
     refine E9 hK (by rw [cl];show some (((r.length+1+1:Nat):Int)==1)=_;simp;exact o159) ?_
     have hyn:=(hc y (hmem y (by rw [hf];simp))).2.1
     refine Q5 hK (n:=(.self,ν.self)) (vs:=[.ref (.cls J.m,ν.tk+1)]) a1 S3.self rfl (B9 (e:=.var .rest) a2 rfl) ?_
     refine Bi1 (k:=k) (J:=J) S3 Z (o312 (by decide)) D2 (c0:=x) (c1:=y) rfl rfl (by rw [<-hf];exact o212 hfl hcl) hxn hyn λH4 S4 f4=>⟨trivial,C0 (B6 (C0 (B6 (C0 (q H4 _ _ S4 (L.more href hM hc hno hnd hf) rfl (Nat.le_refl _) (Nat.le_succ _) rfl (f3.trans (Frm.add λt j ht=>f4 t j (by rintro rfl;cases ht) (by rintro s rfl;cases ht))))))))⟩
  ·unfold C8 at hv
   rw [List.getElem?_map] at hv
   cases hu:c[i]? with
   | none=>rw [hu] at hv;cases hv
   | some u=>
    rw [hu] at hv;cases hv
    have huc:=List.mem_of_getElem? hu
    refine E6 (hc u huc) λu1 u2 u3=>?_
    refine ⟨l2.set .literal (.int u),rfl,?_⟩
    have gv:=r6 (l:=l2.set .literal (.int u)) (e:=.var .literal) S3 Z a1 rfl u2
    have cv1:=E0 (op:=.eq) (y:=1) gv (show pE _ _ (.int 1)=_ from rfl)
    have cv0:=E0 (op:=.eq) (y:=0) gv (show pE _ _ (.int 0)=_ from rfl)
    by_cases ht:u∈J.trail
    ·have hv1:=(I.B.tt u1 u2).mpr ht
     exact G6 hK (by rw [cv1,hv1];rfl) (Ac1 (q _ _ J S3 (L.skip huc ht) rfl (Nat.le_succ _) (Nat.le_succ _) rfl f3))
    ·have hv1:J.value u≠1:=λh=>ht ((I.B.tt u1 u2).mp h)
     have hno':∀w∈c.take (i+1),w∉J.trail:=by
      intro w hw
      rw [R9 hu] at hw
      rcases List.mem_append.mp hw with h | h
      ·exact hno w h
      ·simp at h;subst h;exact ht
     refine E9 hK (by rw [cv1];show some (J.value u==1)=_;simp [hv1]) (C0 (B6 ?_))
     by_cases hv0:J.value u=0
     ·refine G6 hK (by rw [cv0,hv0];rfl) ?_
      refine I9 (o:=.var .rest) (e:=.var .literal) (v:=.int u) hK a2 D2 rfl (by rw [C3];have:(J.free (c.take i)).length<=(c.take i).length:=List.length_filter_le _ _;rw [List.length_take] at this;exact o313 this hcl (by decide)) ?_
      rw [u8,P9]
      refine C0 (B6 (C0 ⟨a1,a2,hno',?_⟩))
      rw [R9 hu]
      unfold Sg.free
      rw [List.filter_append,List.filter_cons_of_pos (by simp [hv0])];rfl
     ·refine E9 hK (by rw [cv0];show some (J.value u==0)=_;simp [hv0]) (C0 (B6 (C0 ⟨a1,a2,hno',?_⟩)))
      rw [R9 hu]
      unfold Sg.free
      rw [List.filter_append,List.filter_cons_of_neg (by simp [hv0])];simp
theorem sg0_ld (M:(Nat->Bool)->Prop) (C:Nat->Prop) (n:Nat):Ld M [] C (sg0 n):=by
 have hB:Base (sg0 n):=by
  refine ⟨?_,?_,?_,?_,?_,?_,?_⟩
  ·intro l hl;cases hl
  ·exact List.Pairwise.nil
  ·intro v _ _;rfl
  ·exact List.Pairwise.nil
  ·intro q hq;cases hq
  ·intro p l hp;cases hp
  ·intro v _ _;exact Or.inr rfl
 have hD:Dbx M (sg0 n):=by
  refine ⟨?_,?_,?_,?_⟩ <;> intro i hi <;> exact absurd hi (Nat.not_lt_zero _)
 have hW:Wx (sg0 n).m (sg0 n).cls (sg0 n).rows:=by
  refine ⟨?_,?_,?_⟩
  ·intro i hi;exact absurd hi (Nat.not_lt_zero _)
  ·intro s;exact List.Pairwise.nil
  ·intro s i hi;cases hi
 have hI:Inv M (sg0 n):=by
  refine ⟨hB,hD,?_,?_,hW,?_,Nat.le_refl _,?_⟩
  ·intro p l hp;cases hp
  ·intro l hl;cases hl
  ·intro i hi;exact absurd hi (Nat.not_lt_zero _)
  ·intro q hq;cases hq
 refine ⟨λ_=>⟨hI,⟨?_,?_,?_⟩,rfl,rfl⟩,?_⟩
 ·intro o ho;cases ho
 ·intro q hq;cases hq
 ·intro i hi;exact absurd hi (Nat.not_lt_zero _)
 ·intro h;cases h
theorem Ld.sz {M:(Nat->Bool)->Prop} {Or:List (List Int)} {C:Nat->Prop} {J:Sg} (L:Ld M Or C J) (hr:J.refuted=false) (hn:J.n<1000) (hm:J.m<4000) (hl:J.lrn.length<4000):Sz 5000 J:=
 (L.inv hr).1.sz hn (o96 hm (by decide)) (o287 (by decide)) (o287 (by decide)) (o96 hl (by decide))
noncomputable def Q6 (cs:List (List Int)):List Vl:=cs.map λc=>V.tup (C8 c)
theorem Eb8 {k:Nat} {C:Nat->Prop} {H:Hq} {t n:Nat} {cs:List (List Int)} {m:G9} (hm:H m=some (.list (Q6 cs))) (hmt:tAdd m.1=false) (hf:∀g j,t<=j->H (g,j)=none) (hn:n<1000) (hl:cs.length<1000) (hnd:∀c∈cs,(vars c).Nodup) (hc:∀c∈cs,∀u∈c,1<=u.natAbs/\u.natAbs<=n/\C u.natAbs) {Q:Vl->Hq->Prop}
  (q:∀H' ν' σ',Sv H' ν' σ'->Ld (λα=>∀o∈cs,S0 α o) cs C σ'->σ'.n=n->σ'.m<=1000->σ'.lrn.length<=1000->Frm tAdd H H'->Q (.ref (.self,ν'.self)) H'):
  C9 (k+4) .loaded_solver [.int n,.ref m] Q H:=by
 have hK:=C7 (k+2)
 refine D0 rfl ?_
 show C2 (C9 (k+3)) p4 _ _ _
 refine Bj2 (args:=.cons (.var .count) .nil) (vs:=[.int n]) hK rfl (.self,t) (hf _ _ (Nat.le_refl _)) ?_
 refine k_init (k:=k+1) (s:=t) (t:=t+1) hn D2 (λg j hj=>?_) λH1 S1 f1=>⟨rfl,?_⟩
 ·rw [B2 (by intro e;cases e;exact o103 hj)];exact hf g j (o9 hj)
 have f1':Frm tAdd H H1:=λg j hg=>by
  rw [f1 g j (Ch2 hg).1,B2 (by intro e;cases e;cases hg)]
 have hm1:H1 m=some (.list (Q6 cs)):=(f1' m.1 m.2 hmt).trans hm
 refine V8 (e:=.var .clauses) (n:=m) (xs:=Q6 cs) hK rfl hm1
  (λi l2 H2=>∃ν' σ',l2 .solver=some (.ref (.self,t))/\ν'.self=t/\Sv H2 ν' σ'/\Ld (λα=>∀o∈cs,S0 α o) (cs.take i) C σ'/\σ'.n=n/\σ'.m<=i/\σ'.lrn.length<=i/\i<=cs.length/\Frm tAdd H H2)
  ⟨nu0 t (t+1),sg0 n,rfl,rfl,S1,by rw [List.take_zero];exact sg0_ld _ _ _,rfl,Nat.le_refl _,Nat.le_refl _,Nat.zero_le _,f1'⟩ ?_
 intro i l2 H2 q_
 exists J8 q_ λν' σ' B3=>un9 B3 λe1 es S2 L2 hn2 M5 hl2 hi f2=>B5 ?_
 clear q_
 refine ⟨(f2 m.1 m.2 hmt).trans hm,λhend=>?_,λv hv=>?_⟩
 ·unfold Q6 at hend
  rw [List.getElem?_eq_none_iff,List.length_map] at hend
  have hie:i=cs.length:=o298 hi hend
  subst hie
  rw [List.take_length] at L2
  refine M3 hK (v:=.ref (.self,t)) e1 ?_
  rw [<-es]
  exact q H2 ν' σ' S2 L2 hn2 (o314 M5 hl) (o314 hl2 hl) f2
 ·unfold Q6 at hv
  rw [List.getElem?_map] at hv
  cases hu:cs[i]? with
  | none=>rw [hu] at hv;cases hv
  | some c=>
   rw [hu] at hv;cases hv
   have hcm:=List.mem_of_getElem? hu
   have hil:=(List.getElem?_eq_some_iff.mp hu).1
   refine ⟨l2.set .clause (.tup (C8 c)),rfl,?_⟩
   refine Q5 (o:=.var .solver) hK (n:=(.self,ν'.self)) (vs:=[.tup (C8 c)]) (by rw [es];exact e1) S2.self rfl (B9 (e:=.var .clause) rfl rfl) ?_
   refine k_add (k:=k) (c:=c) S2 (o272 hn2 hn) (λhr=>L2.sz hr (o272 hn2 hn) (o315 M5 hil hl (by decide)) (o315 hl2 hil hl (by decide))) L2 (hnd c hcm) (λα hα=>hα c hcm) (by rw [hn2];exact hc c hcm) λH3 ν3 σ3 S3 L3 n3 m3 l3 s3 f3=>⟨trivial,C0 ⟨ν3,σ3,e1,s3.trans es,S3,?_,n3.trans hn2,o316 m3 M5,o316 l3 hl2,o168 hil,f2.trans f3⟩⟩
   rw [List.take_add_one,hu];exact L3
set_option genCtorIdx true in
inductive Tri where | T | F | U
 deriving DecidableEq
noncomputable def Tri.neg:Tri->Tri | .T=>.F | .F=>.T | .U=>.U
noncomputable def N4:Tri->Tri->List Tri
 | .F,_=>[.F]
 | .T,.F=>[.F]
 | .U,.F=>[.F]
 | .T,.T=>[.T]
 | .U,.U=>[.U,.F]
 | .T,.U=>[.U]
 | .U,.T=>[.U]
abbrev Gt:=List (Option (Nat×Nat))
noncomputable def w7 (xs:List Tri) (l:Nat):Tri:=if l%2=1 then (xs[l/2]?.getD .F).neg else xs[l/2]?.getD .F
noncomputable def extT (g:Gt) (i:Nat) (xs:List Tri):List Tri:=match g[i]? with
 | some (some (l,r))=>N4 (w7 xs l) (w7 xs r)
 | _=>if i=0 then [.F] else [.T,.F,.U]
noncomputable def CL (g:Gt):Nat->List (List Tri)
 | 0=>[[]]
 | i+1=>(CL g i).flatMap λxs=>(extT g i xs).map λt=>xs++[t]
noncomputable def f0 (xs:List Tri) (v:Nat):Bool:=decide (xs[v]? = some .U)
noncomputable def cU (L:List (List Tri)) (v:Nat):Nat:=L.countP λxs=>f0 xs v
noncomputable def c2 (L:List (List Tri)) (u v:Nat):Nat:=L.countP λxs=>f0 xs u&&f0 xs v
section sums
variable {α β:Type}
theorem i9 (L:List α) (f g:α->Nat):(L.map λx=>f x+g x).sum=(L.map f).sum+(L.map g).sum:=by
 induction L with
 | nil=>rfl
 | cons x L ih=>simp only [List.map_cons,List.sum_cons,ih];exact o317
theorem Q1 (L:List α) (p:α->Bool):(L.map λx=>(p x).toNat).sum=L.countP p:=by
 induction L with
 | nil=>rfl
 | cons x L ih=>
  rw [List.map_cons,List.sum_cons,ih,List.countP_cons]
  cases p x <;> simp <;> exact o318
theorem sum_one (L:List α):(L.map λ_=>1).sum=L.length:=by
 induction L with
 | nil=>rfl
 | cons x L ih=>simp only [List.map_cons,List.sum_cons,ih,List.length_cons];exact o318
theorem Db5 (L:List α) (c:Nat):(L.map λ_=>c).sum=c*L.length:=by
 induction L with
 | nil=>rfl
 | cons x L ih=>simp only [List.map_cons,List.sum_cons,ih,List.length_cons];rw [Nat.mul_succ];exact o319
theorem R2 (L:List α) {f g:α->Nat} (h:∀x∈L,f x<=g x):(L.map f).sum<=(L.map g).sum:=by
 induction L with
 | nil=>exact Nat.le_refl _
 | cons x L ih=>
  simp only [List.map_cons,List.sum_cons]
  have h1:=h x (by simp)
  have h2:=ih λy hy=>h y (by simp [hy])
  exact o320 h1 h2
theorem Bi5 (L:List α) (f:α->List β) (p:β->Bool):(L.flatMap f).countP p=(L.map λx=>(f x).countP p).sum:=by
 induction L with
 | nil=>rfl
 | cons x L ih=>rw [List.flatMap_cons,List.countP_append,ih,List.map_cons,List.sum_cons]
theorem Bh8 (L:List α) (f:α->List β):(L.flatMap f).length=(L.map λx=>(f x).length).sum:=by
 induction L with
 | nil=>rfl
 | cons x L ih=>rw [List.flatMap_cons,List.length_append,ih,List.map_cons,List.sum_cons]
end sums
structure Bd (L:List (List Tri)) (i N P M:Nat):Prop where
 len:∀xs∈L,xs.length=i
 N:L.length<=N
 P:∀u v,u<i->v<i->u≠v->c2 L u v<=P
 M:∀v,v<i->cU L v<=M
theorem Aa0 {xs:List Tri} {t:Tri} {v:Nat} (h:v<xs.length):f0 (xs++[t]) v=f0 xs v:=by
 unfold f0;rw [List.getElem?_append_left h]
theorem Bd9 {xs:List Tri} {t:Tri} {i:Nat} (h:xs.length=i):f0 (xs++[t]) i=decide (t = .U):=by
 unfold f0;rw [List.getElem?_append_right (o189 h),h];simp
theorem tvL_U {xs:List Tri} {l:Nat} (h:l/2<xs.length):f0 xs (l/2)=decide (w7 xs l = .U):=by
 unfold f0 w7
 rw [List.getElem?_eq_getElem h]
 cases xs[l/2] <;> by_cases hl:l%2=1 <;> simp [hl,Tri.neg]
section step
variable {L:List (List Tri)} {i N P M:Nat} {f:List Tri->List Tri}
theorem Bd.step (B:Bd L i N P M) {N' P' M':Nat}
  (hN:(L.map λxs=>(f xs).length).sum<=N')
  (hM:∀v,v<i->(L.map λxs=>(f xs).countP λ_=>f0 xs v).sum<=M')
  (hM2:(L.map λxs=>(f xs).countP λt=>decide (t = .U)).sum<=M')
  (hP:∀u v,u<i->v<i->u≠v->(L.map λxs=>(f xs).countP λ_=>f0 xs u&&f0 xs v).sum<=P')
  (hP2:∀u,u<i->(L.map λxs=>(f xs).countP λt=>f0 xs u&&decide (t = .U)).sum<=P'):
  Bd (L.flatMap λxs=>(f xs).map λt=>xs++[t]) (i+1) N' P' M':=by
 have t5:∀(p:List Tri->Bool) (p':List Tri->Tri->Bool),(∀xs∈L,∀t,p (xs++[t])=p' xs t)->(L.flatMap λxs=>(f xs).map λt=>xs++[t]).countP p=(L.map λxs=>(f xs).countP (p' xs)).sum:=by
  intro p p' h
  rw [Bi5]
  congr 1
  refine List.map_congr_left λxs hx=>?_
  rw [List.countP_map]
  congr 1
  funext t
  exact h xs hx t
 refine ⟨λxs hx=>?_,?_,λu v hu hv huv=>?_,λv hv=>?_⟩
 ·exists C1 (List.mem_flatMap.mp hx) λys B3=>B7 B3 λhy hx=>B5 ?_
  exists C1 (List.mem_map.mp hx) λt B3=>B7 B3 λ_ C'=>B5 ?_
  subst C'
  rw [List.length_append,B.len ys hy];rfl
 ·rw [Bh8]
  simpa using hN
 ·unfold c2
  by_cases h1:u=i
  ·have h2:v<i:=o321 hv h1 huv
   rw [t5 _ (λxs t=>f0 xs v&&decide (t = .U)) λxs hx t=>by rw [h1,Bd9 (B.len xs hx),Aa0 (by rw [B.len xs hx];exact h2),Bool.and_comm]]
   exact hP2 v h2
  ·by_cases h2:v=i
   ·have h3:u<i:=o91 hu h1
    rw [t5 _ (λxs t=>f0 xs u&&decide (t = .U)) λxs hx t=>by rw [h2,Bd9 (B.len xs hx),Aa0 (by rw [B.len xs hx];exact h3)]]
    exact hP2 u h3
   ·rw [t5 _ (λxs t=>f0 xs u&&f0 xs v) λxs hx t=>by rw [Aa0 (by rw [B.len xs hx];exact o91 hu h1),Aa0 (by rw [B.len xs hx];exact o91 hv h2)]]
    exact hP u v (o91 hu h1) (o91 hv h2) huv
 ·unfold cU
  by_cases h1:v=i
  ·rw [t5 _ (λxs t=>decide (t = .U)) λxs hx t=>by rw [h1,Bd9 (B.len xs hx)]]
   exact hM2
  ·rw [t5 _ (λxs t=>f0 xs v) λxs hx t=>by rw [Aa0 (by rw [B.len xs hx];exact o91 hv h1)]]
   exact hM v (o91 hv h1)
theorem Ed2 (a b:Tri):(N4 a b).length<=1+(decide (a = .U)&&decide (b = .U)).toNat:=by cases a <;> cases b <;> decide
theorem Ec9 (a b:Tri) (x:Bool):((N4 a b).countP λ_=>x)<=x.toNat+(decide (a = .U)&&decide (b = .U)).toNat:=by cases a <;> cases b <;> cases x <;> decide
theorem Ed0 (a b:Tri):((N4 a b).countP λt=>decide (t = .U))<=(decide (a = .U)).toNat+(decide (b = .U)).toNat:=by cases a <;> cases b <;> decide
theorem Ec8 (a b:Tri) (x:Bool):((N4 a b).countP λ_=>x)<=x.toNat+x.toNat:=by cases a <;> cases b <;> cases x <;> decide
theorem gate_a (a b:Tri):((N4 a b).countP λt=>decide (a = .U)&&decide (t = .U))<=(decide (a = .U)).toNat:=by cases a <;> cases b <;> decide
theorem gate_b (a b:Tri):((N4 a b).countP λt=>decide (b = .U)&&decide (t = .U))<=(decide (b = .U)).toNat:=by cases a <;> cases b <;> decide
theorem gate_u (a b:Tri) (x:Bool):((N4 a b).countP λt=>x&&decide (t = .U))<=(x&&decide (a = .U)).toNat+(x&&decide (b = .U)).toNat:=by cases a <;> cases b <;> cases x <;> decide
theorem Bd.gate (B:Bd L i N P M) {l r:Nat} (hl:l/2<i) (hr:r/2<i) (hne:l/2≠r/2):Bd (L.flatMap λxs=>(N4 (w7 xs l) (w7 xs r)).map λt=>xs++[t]) (i+1) (N+P) (max (2*P) M) (M+max P M):=by
 have ea:∀xs∈L,decide (w7 xs l = .U)=f0 xs (l/2):=λxs hx=>(tvL_U (by rw [B.len xs hx];exact hl)).symm
 have eb:∀xs∈L,decide (w7 xs r = .U)=f0 xs (r/2):=λxs hx=>(tvL_U (by rw [B.len xs hx];exact hr)).symm
 have pl:=B.P _ _ hl hr hne
 have ml:=B.M _ hl
 have mr:=B.M _ hr
 unfold c2 at pl
 unfold cU at ml mr
 refine B.step (f:=λxs=>N4 (w7 xs l) (w7 xs r)) ?_ (λv hv=>?_) ?_ (λu v hu hv huv=>?_) (λu hu=>?_)
 ·refine Nat.le_trans (R2 L (g:=λxs=>1+(f0 xs (l/2)&&f0 xs (r/2)).toNat) λxs hx=>?_) ?_
  ·have:=Ed2 (w7 xs l) (w7 xs r)
   rw [ea xs hx,eb xs hx] at this;exact this
  ·rw [i9,sum_one,Q1]
   have:=B.N;exact o320 this pl
 ·refine Nat.le_trans (R2 L (g:=λxs=>(f0 xs v).toNat+(f0 xs (l/2)&&f0 xs (r/2)).toNat) λxs hx=>?_) ?_
  ·have:=Ec9 (w7 xs l) (w7 xs r) (f0 xs v)
   rw [ea xs hx,eb xs hx] at this;exact this
  ·rw [i9,Q1,Q1]
   have:=B.M v hv
   unfold cU at this
   exact o322 this pl
 ·refine Nat.le_trans (R2 L (g:=λxs=>(f0 xs (l/2)).toNat+(f0 xs (r/2)).toNat) λxs hx=>?_) ?_
  ·have:=Ed0 (w7 xs l) (w7 xs r)
   rw [ea xs hx,eb xs hx] at this;exact this
  ·rw [i9,Q1,Q1]
   exact o323 ml mr
 ·refine Nat.le_trans (R2 L (g:=λxs=>(f0 xs u&&f0 xs v).toNat+(f0 xs u&&f0 xs v).toNat) λxs hx=>Ec8 _ _ _) ?_
  rw [i9,Q1]
  have:=B.P u v hu hv huv
  unfold c2 at this
  exact o324 this
 ·by_cases h1:u=l/2
  ·subst h1
   refine Nat.le_trans (R2 L (g:=λxs=>(f0 xs (l/2)).toNat) λxs hx=>?_) ?_
   ·have:=gate_a (w7 xs l) (w7 xs r)
    rw [ea xs hx] at this;exact this
   ·rw [Q1];exact o325 ml
  ·by_cases h2:u=r/2
   ·subst h2
    refine Nat.le_trans (R2 L (g:=λxs=>(f0 xs (r/2)).toNat) λxs hx=>?_) ?_
    ·have:=gate_b (w7 xs l) (w7 xs r)
     rw [eb xs hx] at this;exact this
    ·rw [Q1];exact o325 mr
   ·refine Nat.le_trans (R2 L (g:=λxs=>(f0 xs u&&f0 xs (l/2)).toNat+(f0 xs u&&f0 xs (r/2)).toNat) λxs hx=>?_) ?_
    ·have:=gate_u (w7 xs l) (w7 xs r) (f0 xs u)
     rw [ea xs hx,eb xs hx] at this;exact this
    ·rw [i9,Q1,Q1]
     have a1:=B.P u _ hu hl h1
     have a2:=B.P u _ hu hr h2
     unfold c2 at a1 a2
     exact o326 a1 a2
theorem Bd.input (B:Bd L i N P M):Bd (L.flatMap λxs=>[Tri.T,.F,.U].map λt=>xs++[t]) (i+1) (3*N) (max (3*P) M) (max (3*M) N):=by
 have t3:∀p:List Tri->Bool,(L.map λxs=>[Tri.T,.F,.U].countP λ_=>p xs).sum<=3*L.countP p:=by
  intro p
  refine Nat.le_trans (R2 L (g:=λxs=>((p xs).toNat+(p xs).toNat)+(p xs).toNat) λxs hx=>?_) ?_
  ·cases p xs <;> decide
  ·rw [i9,i9,Q1];exact o327
 have t1:∀p:List Tri->Bool,(L.map λxs=>[Tri.T,.F,.U].countP λt=>p xs&&decide (t = .U)).sum<=L.countP p:=by
  intro p
  refine Nat.le_trans (R2 L (g:=λxs=>(p xs).toNat) λxs hx=>?_) ?_
  ·cases p xs <;> decide
  ·rw [Q1];exact Nat.le_refl _
 refine B.step (f:=λ_=>[Tri.T,.F,.U]) ?_ (λv hv=>?_) ?_ (λu v hu hv huv=>?_) (λu hu=>?_)
 ·have:(L.map λ_=>[Tri.T,.F,.U].length).sum=3*L.length:=by
   exact Db5 L 3
  rw [this]
  have:=B.N;exact o328 this
 ·have h1:=t3 λxs=>f0 xs v
  have h2:=B.M v hv
  unfold cU at h2
  exact o329 h1 h2
 ·have h1:=t1 λ_=>true
  simp only [Bool.true_and] at h1
  have h2:L.countP (λ_=>true)<=L.length:=List.countP_le_length
  have:=B.N
  exact o330 h1 h2 this
 ·have h1:=t3 λxs=>f0 xs u&&f0 xs v
  have h2:=B.P u v hu hv huv
  unfold c2 at h2
  exact o329 h1 h2
 ·have h1:=t1 λxs=>f0 xs u
  have h2:=B.M u hu
  unfold cU at h2
  exact o331 h1 h2
end step
noncomputable def stI (x:Nat×Nat×Nat):Nat×Nat×Nat:=(3*x.1,max (3*x.2.1) x.2.2,max (3*x.2.2) x.1)
noncomputable def stG (x:Nat×Nat×Nat):Nat×Nat×Nat:=(x.1+x.2.1,max (2*x.2.1) x.2.2,x.2.2+max x.2.1 x.2.2)
noncomputable def itI:Nat->Nat×Nat×Nat | 0=>(1,0,0) | k+1=>stI (itI k)
noncomputable def itG (n:Nat):Nat->Nat×Nat×Nat | 0=>itI n | k+1=>stG (itG n k)
structure Cb2 (g:Gt) (ni nb:Nat):Prop where
 nn:∀i,i<=ni->g[i]? = some none
 sm:∀i,ni<i->i<nb->∃l r,g[i]? = some (some (l,r))
 ok:∀i l r,g[i]? = some (some (l,r))->l/2<i/\r/2<i/\l/2≠r/2
theorem CL_bd {g:Gt} {ni nb:Nat} (S:Cb2 g ni nb):(∀k,k<=ni->Bd (CL g (k+1)) (k+1) (itI k).1 (itI k).2.1 (itI k).2.2)/\∀k,ni+1+k<=nb->Bd (CL g (ni+1+k)) (ni+1+k) (itG ni k).1 (itG ni k).2.1 (itG ni k).2.2:=by
 have h1:∀k,k<=ni->Bd (CL g (k+1)) (k+1) (itI k).1 (itI k).2.1 (itI k).2.2:=by
  intro k
  induction k with
  | zero=>
   intro _
   have e:CL g 1=[[.F]]:=by
    show ([[]]:List (List Tri)).flatMap _=_
    simp [extT,S.nn 0 (Nat.zero_le _)]
   rw [e]
   refine ⟨λxs hx=>by simp at hx;subst hx;rfl,Nat.le_refl _,λu v hu hv huv=>o332 hu huv hv,λv hv=>?_⟩
   have:v=0:=o161 hv
   subst this;decide
  | succ k ih=>
   intro hk
   have B:=(ih (o9 hk)).input
   have e:CL g (k+1+1)=(CL g (k+1)).flatMap λxs=>[Tri.T,.F,.U].map λt=>xs++[t]:=by
    show (CL g (k+1)).flatMap _=_
    simp only [extT,S.nn (k+1) hk,Nat.add_one_ne_zero,if_false]
   rw [e];exact B
 refine ⟨h1,λk=>?_⟩
 induction k with
 | zero=>intro _;exact h1 ni (Nat.le_refl _)
 | succ k ih=>
  intro hk
  refine J8 (S.sm (ni+1+k) o238 (o109 hk)) λl r e=>?_
  refine E6 (S.ok _ _ _ e) λa b c=>?_
  have B:=(ih (o333 hk)).gate a b c
  have e':CL g (ni+1+(k+1))=(CL g (ni+1+k)).flatMap λxs=>(N4 (w7 xs l) (w7 xs r)).map λt=>xs++[t]:=by
   have e2:∀xs,extT g (ni+1+k) xs=N4 (w7 xs l) (w7 xs r):=λxs=>by unfold extT;rw [e]
   show ((CL g (ni+1+k)).flatMap λxs=>(extT g (ni+1+k) xs).map λt=>xs++[t])=_
   simp only [e2]
  rw [e'];exact B
theorem CL_len {g:Gt} {ni nb:Nat} (S:Cb2 g ni nb) (h4:ni<=4) (h1:ni+1<=nb) (h6:nb<=ni+7):(CL g nb).length<1000:=by
 have B:=(CL_bd S).2 (nb-(ni+1)) (o106 h1)
 rw [show ni+1+(nb-(ni+1))=nb by exact o107 h1] at B
 have hk:nb-(ni+1)<=6:=o334 h6
 have key:∀n,n<=4->∀k,k<=6->(itG n k).1<1000:=by
  intro n hn k hk
  have hn':n=0\/n=1\/n=2\/n=3\/n=4:=o335 hn
  have hk':k=0\/k=1\/k=2\/k=3\/k=4\/k=5\/k=6:=o336 hk
  rcases hn' with rfl | rfl | rfl | rfl | rfl <;> rcases hk' with rfl | rfl | rfl | rfl | rfl | rfl | rfl <;> decide
 exact Nat.lt_of_le_of_lt B.N (key ni h4 _ hk)
noncomputable def R5 (A:List Int) (z:Int):Tri:=if z∈A then .T else if -z∈A then .F else .U
noncomputable def zl (l:Nat):Int:=if l%2=1 then -((l/2+1:Nat):Int) else ((l/2+1:Nat):Int)
theorem O8 {A:List Int} (hA:∀l∈A,-l∉A) (z:Int):R5 A (-z)=(R5 A z).neg:=by
 unfold R5
 rw [Int.neg_neg]
 by_cases h1:z∈A
 ·rw [if_neg (hA z h1),if_pos h1,if_pos h1];rfl
 ·rw [if_neg h1,if_neg h1]
  by_cases h2: -z∈A
  ·rw [if_pos h2,if_pos h2];rfl
  ·rw [if_neg h2,if_neg h2];rfl
theorem Ac3 {A:List Int} {z:Int}:R5 A z = .T↔z∈A:=by
 unfold R5
 by_cases h1:z∈A
 ·simp [h1]
 ·by_cases h2: -z∈A <;> simp [h1,h2]
theorem Bf7 {A:List Int} (hA:∀l∈A,-l∉A) {z:Int}:R5 A z = .F ↔ -z∈A:=by
 unfold R5
 by_cases h1:z∈A
 ·simp [h1,hA z h1]
 ·by_cases h2: -z∈A <;> simp [h1,h2]
theorem Da0 {A:List Int} {a:Int} (h:Closed A [a]):R5 A a = .T:=by
 rw [Ac3]
 rcases h with q_ | q_
 ·exists C1 q_ λl B3=>B7 B3 λh1 h2=>B5 ?_
  clear q_
  simp at h1;subst h1;exact h2
 ·exists C1 q_ λl B3=>B7 B3 λh1 C5=>C1 C5 λl' N1=>E6 N1 λh1' hne _=>B5 ?_
  clear C5 N1 q_
  simp at h1 h1';exact absurd (h1.trans h1'.symm) hne
theorem Cj9 {A:List Int} (hA:∀l∈A,-l∉A) {a b:Int} (h:Closed A [a,b]):R5 A a = .T\/R5 A b = .T\/(R5 A a ≠ .F/\R5 A b ≠ .F):=by
 rcases h with q_ | q_
 ·exists C1 q_ λl B3=>B7 B3 λh1 h2=>B5 ?_
  clear q_
  simp at h1
  rcases h1 with rfl | rfl
  ·exact .inl (Ac3.mpr h2)
  ·exact .inr (.inl (Ac3.mpr h2))
 ·exists C1 q_ λl B3=>B7 B3 λh1 C5=>C1 C5 λl' N1=>R7 N1 λh1' hne h2 h3=>B5 ?_
  clear C5 N1 q_
  refine .inr (.inr ?_)
  rw [Ne,Bf7 hA,Ne,Bf7 hA]
  simp at h1 h1'
  rcases h1 with rfl | rfl <;> rcases h1' with rfl | rfl
  ·exact absurd rfl hne
  ·exact ⟨h2,h3⟩
  ·exact ⟨h3,h2⟩
  ·exact absurd rfl hne
theorem closed3 {A:List Int} (hA:∀l∈A,-l∉A) {a b c:Int} (h:Closed A [a,b,c]):
  R5 A a = .T\/R5 A b = .T\/R5 A c = .T\/(R5 A a ≠ .F/\R5 A b ≠ .F)\/(R5 A a ≠ .F/\R5 A c ≠ .F)\/(R5 A b ≠ .F/\R5 A c ≠ .F):=by
 rcases h with q_ | q_
 ·exists C1 q_ λl B3=>B7 B3 λh1 h2=>B5 ?_
  clear q_
  simp at h1
  rcases h1 with rfl | rfl | rfl
  ·exact .inl (Ac3.mpr h2)
  ·exact .inr (.inl (Ac3.mpr h2))
  ·exact .inr (.inr (.inl (Ac3.mpr h2)))
 ·exists C1 q_ λl B3=>B7 B3 λh1 C5=>C1 C5 λl' N1=>R7 N1 λh1' hne h2 h3=>B5 ?_
  clear C5 N1 q_
  have n:∀z:Int,-z∉A->R5 A z ≠ .F:=λz hz h=>hz ((Bf7 hA).mp h)
  have h2:=n _ h2
  have h3:=n _ h3
  simp at h1 h1'
  rcases h1 with rfl | rfl | rfl <;> rcases h1' with rfl | rfl | rfl
  ·exact absurd rfl hne
  ·exact .inr (.inr (.inr (.inl ⟨h2,h3⟩)))
  ·exact .inr (.inr (.inr (.inr (.inl ⟨h2,h3⟩))))
  ·exact .inr (.inr (.inr (.inl ⟨h3,h2⟩)))
  ·exact absurd rfl hne
  ·exact .inr (.inr (.inr (.inr (.inr ⟨h2,h3⟩))))
  ·exact .inr (.inr (.inr (.inr (.inl ⟨h3,h2⟩))))
  ·exact .inr (.inr (.inr (.inr (.inr ⟨h3,h2⟩))))
  ·exact absurd rfl hne
theorem Bi3 {A:List Int} (hA:∀l∈A,-l∉A) {p x y:Int} (h1:Closed A [-p,x]) (h2:Closed A [-p,y]) (h3:Closed A [p,-x,-y]):R5 A p∈N4 (R5 A x) (R5 A y):=by
 have a:=Cj9 hA h1
 have b:=Cj9 hA h2
 have c:=closed3 hA h3
 rw [O8 hA] at a b
 rw [O8 hA,O8 hA] at c
 revert a b c
 generalize R5 A p=tp
 generalize R5 A x=tx
 generalize R5 A y=ty
 cases tp <;> cases tx <;> cases ty <;> decide
noncomputable def sg (g:Gt) (Cn:Nat->Bool) (A:List Int):Nat->List Tri
 | 0=>[]
 | i+1=>sg g Cn A i++[if Cn i=true then R5 A ((i+1:Nat):Int) else (extT g i (sg g Cn A i)).headD .F]
theorem Bc4 (g:Gt) (Cn:Nat->Bool) (A:List Int):∀i,(sg g Cn A i).length=i
 | 0=>rfl
 | i+1=>by
  show (sg g Cn A i++[_]).length=_
  rw [List.length_append,Bc4 g Cn A i];rfl
theorem Bc5 {g:Gt} {Cn:Nat->Bool} {A:List Int} {j:Nat} (hj:Cn j=true):∀{i},j<i->(sg g Cn A i)[j]? = some (R5 A ((j+1:Nat):Int))
 | 0,h=>absurd h (Nat.not_lt_zero _)
 | i+1,h=>by
  show (sg g Cn A i++[_])[j]? = _
  by_cases hji:j=i
  ·subst hji
   rw [List.getElem?_append_right (by rw [Bc4];exact Nat.le_refl _),Bc4,Nat.sub_self,if_pos hj];rfl
  ·rw [List.getElem?_append_left (by rw [Bc4];exact o91 h hji)]
   exact Bc5 hj (o91 h hji)
theorem ext_ne (g:Gt) (i:Nat) (xs:List Tri):(extT g i xs).headD .F∈extT g i xs:=by
 have:extT g i xs≠[]:=by
  unfold extT
  split
  ·rename_i l r _
   cases w7 xs l <;> cases w7 xs r <;> simp [N4]
  ·split <;> simp
 cases h:extT g i xs with
 | nil=>exact absurd h this
 | cons a b=>simp
structure Cnf (g:Gt) (Cn:Nat->Bool) (Or:List (List Int)):Prop where
 zero:Cn 0=true->[-1]∈Or
 gate:∀i l r,Cn i=true->g[i]? = some (some (l,r))->[-((i+1:Nat):Int),zl l]∈Or/\[-((i+1:Nat):Int),zl r]∈Or/\[((i+1:Nat):Int),-zl l,-zl r]∈Or
 fan:∀i l r,Cn i=true->g[i]? = some (some (l,r))->Cn (l/2)=true/\Cn (r/2)=true
 bnd:∀i,Cn i=true->i<g.length
theorem Dh4 {g:Gt} {Cn:Nat->Bool} {A:List Int} (hA:∀l∈A,-l∉A) {l i:Nat} (hl:l/2<i) (hc:Cn (l/2)=true):w7 (sg g Cn A i) l=R5 A (zl l):=by
 unfold w7 zl
 rw [Bc5 hc hl]
 by_cases h:l%2=1
 ·rw [if_pos h,if_pos h,O8 hA];rfl
 ·rw [if_neg h,if_neg h];rfl
theorem Ah6 {g:Gt} {Cn:Nat->Bool} {Or:List (List Int)} (K:Cnf g Cn Or) {A:List Int} (G:Gd Or A) {i l r:Nat} (hc:Cn i=true) (e:g[i]? = some (some (l,r))):R5 A ((i+1:Nat):Int)∈N4 (R5 A (zl l)) (R5 A (zl r)):=by
 refine E6 (K.gate i l r hc e) λa b c=>?_
 exact Bi3 G.1 (G.2 _ a) (G.2 _ b) (G.2 _ c)
theorem Di3 {g:Gt} {Cn:Nat->Bool} {Or:List (List Int)} {ni nb:Nat} (S:Cb2 g ni nb) (K:Cnf g Cn Or) {A:List Int} (G:Gd Or A):∀i,i<=nb->sg g Cn A i∈CL g i
 | 0,_=>by show []∈[[]];simp
 | i+1,h=>by
  refine List.mem_flatMap.mpr ⟨sg g Cn A i,Di3 S K G i (o9 h),List.mem_map.mpr ⟨_,?_,rfl⟩⟩
  by_cases hc:Cn i=true
  ·rw [if_pos hc]
   unfold extT
   split
   ·rename_i l r e
    refine E6 (S.ok i l r e) λa b _=>?_
    refine B7 (K.fan i l r hc e) λfl fr=>?_
    rw [Dh4 G.1 a fl,Dh4 G.1 b fr]
    exact Ah6 K G hc e
   ·by_cases h0:i=0
    ·subst h0
     rw [if_pos rfl]
     have h1:=Da0 (G.2 _ (K.zero hc))
     have h2:=O8 G.1 (1:Int)
     rw [h1] at h2
     have:R5 A ((0+1:Nat):Int) = .F:=by
      show R5 A (1:Int) = .F
      cases ht:R5 A (1:Int) <;> rw [ht] at h2 <;> simp [Tri.neg] at h2 ⊢
     rw [this];simp
    ·rw [if_neg h0]
     cases R5 A ((i+1:Nat):Int) <;> simp
  ·rw [if_neg hc]
   exact ext_ne _ _ _
theorem Bf9 {α:Type} [DecidableEq α]:∀{xs ys:List α},xs.Nodup->(∀x∈xs,x∈ys)->xs.length<=ys.length
 | [],ys,_,_=>Nat.zero_le _
 | x::xs,ys,hn,h=>by
  rw [List.nodup_cons] at hn
  have hx:=h x List.mem_cons_self
  have:=Bf9 (xs:=xs) (ys:=ys.erase x) hn.2 λy hy=>(List.mem_erase_of_ne (by rintro rfl;exact hn.1 hy)).mpr (h y (List.mem_cons_of_mem _ hy))
  rw [List.length_erase_of_mem hx] at this
  have hp:0<ys.length:=List.length_pos_of_mem hx
  simp;exact o208 hp this
def Cv (Cn:Nat->Bool) (v:Nat):Prop:=1<=v/\Cn (v-1)=true
theorem Aj7 {g:Gt} {Cn:Nat->Bool} {Or:List (List Int)} {ni nb:Nat} (S:Cb2 g ni nb) (K:Cnf g Cn Or) (h4:ni<=4) (h1:ni+1<=nb) (h6:nb<=ni+7)
  (hdet:∀A A',Gd Or A->Gd Or A'->(∀j,j<nb->Cn j=true->R5 A ((j+1:Nat):Int)=R5 A' ((j+1:Nat):Int))->∀j,nb<=j->Cn j=true->R5 A ((j+1:Nat):Int)=R5 A' ((j+1:Nat):Int))
  (Ls:List (List Int)) (hp:Ls.Pairwise (Df (Cv Cn))) (hg:∀A∈Ls,Gd Or A):Ls.length<1000:=by
 have hinj:∀A A',Gd Or A->Gd Or A'->sg g Cn A nb=sg g Cn A' nb->¬Df (Cv Cn) A A':=by
  intro A A' G G' e q_
  exists C1 q_ λl B3=>B7 B3 λC' hl3=>B5 ?_
  clear q_
  refine B7 C' λhl1 hl2=>?_
  clear C'
  have low:∀j,j<nb->Cn j=true->R5 A ((j+1:Nat):Int)=R5 A' ((j+1:Nat):Int):=by
   intro j hj hc
   have h1:=Bc5 (g:=g) (A:=A) hc hj
   have h2:=Bc5 (g:=g) (A:=A') hc hj
   rw [e,h2] at h1
   cases h1':R5 A' ((j+1:Nat):Int) <;> rw [h1'] at h1 <;> cases h2':R5 A ((j+1:Nat):Int) <;> rw [h2'] at h1 <;> first | rfl | cases h1
  have all:R5 A ((l.natAbs-1+1:Nat):Int)=R5 A' ((l.natAbs-1+1:Nat):Int):=by
   rcases Nat.lt_or_ge (l.natAbs-1) nb with h | h
   ·exact low _ h hl2
   ·exact hdet A A' G G' low _ h hl2
  rw [show l.natAbs-1+1=l.natAbs by exact o337 hl1] at all
  refine hl3 ?_
  by_cases hpos:0<l
  ·rw [show ((l.natAbs:Nat):Int)=l by exact o277 hpos] at all
   rw [<-Ac3,<-Ac3,all]
  ·rw [show ((l.natAbs:Nat):Int) = -l by exact o278 hpos] at all
   have h1:=Bf7 G.1 (z:= -l)
   have h2:=Bf7 G'.1 (z:= -l)
   rw [Int.neg_neg] at h1 h2
   rw [<-h1,<-h2,all]
 have hnd:(Ls.map λA=>sg g Cn A nb).Nodup:=by
  rw [List.Nodup,List.pairwise_map]
  refine hp.imp_of_mem λ{A A'} hA hA' hd e=>hinj A A' (hg A hA) (hg A' hA') e hd
 have:=Bf9 hnd (ys:=CL g nb) λx hx=>by
  exists C1 (List.mem_map.mp hx) λA B3=>B7 B3 λhA C'=>B5 ?_
  subst C'
  exact Di3 S K (hg A hA) nb (Nat.le_refl _)
 rw [List.length_map] at this
 exact Nat.lt_of_le_of_lt this (CL_len S h4 h1 h6)
noncomputable def allT (p:Tri->Bool):Bool:=p .T&&p .F&&p .U
theorem m9 {p:Tri->Bool} (h:allT p=true) (t:Tri):p t=true:=by
 unfold allT at h
 simp only [Bool.and_eq_true] at h
 cases t
 ·exact h.1.1
 ·exact h.1.2
 ·exact h.2
noncomputable def inG (t a b:Tri):Bool:=(N4 a b).contains t
theorem xor_all:(allT λx=>allT λy=>allT λa=>allT λb=>allT λa'=>allT λb'=>allT λc=>
 !(decide (c ≠ .U)&&inG a x y.neg&&inG b x.neg y&&inG c a.neg b.neg&&inG a' x y.neg&&inG b' x.neg y&&inG c a'.neg b'.neg)||(decide (a=a')&&decide (b=b')))=true:=by decide +kernel
theorem xor_det {x y a b a' b' c:Tri} (hc:c ≠ .U) (h1:a∈N4 x y.neg) (h2:b∈N4 x.neg y) (h3:c∈N4 a.neg b.neg) (h1':a'∈N4 x y.neg) (h2':b'∈N4 x.neg y) (h3':c∈N4 a'.neg b'.neg):a=a'/\b=b':=by
 have h:=m9 (m9 (m9 (m9 (m9 (m9 (m9 xor_all x) y) a) b) a') b') c
 have i:∀{t u v:Tri},t∈N4 u v->inG t u v=true:=λh=>by unfold inG;simpa using h
 rw [i h1,i h2,i h3,i h1',i h2',i h3'] at h
 simpa [hc] using h
theorem De5 (a b:Tri):N4 a b=N4 b a:=by cases a <;> cases b <;> rfl
def pairG (g:Gt) (i p q:Nat):Prop:=g[i]? = some (some (p,q))\/g[i]? = some (some (q,p))
theorem h8 {g:Gt} {Cn:Nat->Bool} {Or:List (List Int)} (K:Cnf g Cn Or) {A:List Int} (G:Gd Or A) {i p q:Nat} (hc:Cn i=true) (e:pairG g i p q):R5 A ((i+1:Nat):Int)∈N4 (R5 A (zl p)) (R5 A (zl q)):=by
 rcases e with e | e
 ·exact Ah6 K G hc e
 ·rw [De5];exact Ah6 K G hc e
theorem Bg8 {g:Gt} {Cn:Nat->Bool} {Or:List (List Int)} (K:Cnf g Cn Or) {i p q:Nat} (hc:Cn i=true) (e:pairG g i p q):Cn (p/2)=true/\Cn (q/2)=true:=by
 rcases e with e | e
 ·exact K.fan _ _ _ hc e
 ·exact (K.fan _ _ _ hc e).symm
theorem Ad4 (x:Nat):zl (2*x)=((x+1:Nat):Int):=by
 unfold zl;rw [if_neg o338,show 2*x/2=x by exact o339]
theorem r0 (x:Nat):zl (2*x+1) = -((x+1:Nat):Int):=by
 unfold zl;rw [if_pos o340,show (2*x+1)/2=x by exact o341]
theorem det_xor {g:Gt} {Cn:Nat->Bool} {Or:List (List Int)} {nb x y a b c o:Nat} (K:Cnf g Cn Or) (hx:x<nb) (hy:y<nb) (pa:pairG g a (2*x) (2*y+1)) (pb:pairG g b (2*x+1) (2*y)) (pc:pairG g c (2*a+1) (2*b+1)) (ho:o/2=c) (hu:[zl o]∈Or) (hC:Cn c=true)
  (honly:∀j,nb<=j->Cn j=true->j=a\/j=b\/j=c):
  ∀A A',Gd Or A->Gd Or A'->(∀j,j<nb->Cn j=true->R5 A ((j+1:Nat):Int)=R5 A' ((j+1:Nat):Int))->∀j,nb<=j->Cn j=true->R5 A ((j+1:Nat):Int)=R5 A' ((j+1:Nat):Int):=by
 intro A A' G G' low
 have fc:=Bg8 K hC pc
 rw [show (2*a+1)/2=a by exact o341,show (2*b+1)/2=b by exact o341] at fc
 have fa:=Bg8 K fc.1 pa
 rw [show 2*x/2=x by exact o339,show (2*y+1)/2=y by exact o341] at fa
 have va:=h8 K G fc.1 pa
 have vb:=h8 K G fc.2 pb
 have vc:=h8 K G hC pc
 have va':=h8 K G' fc.1 pa
 have vb':=h8 K G' fc.2 pb
 have vc':=h8 K G' hC pc
 rw [Ad4,r0,O8 G.1] at va
 rw [Ad4,r0,O8 G.1] at vb
 rw [r0,r0,O8 G.1,O8 G.1] at vc
 rw [Ad4,r0,O8 G'.1,<-low x hx fa.1,<-low y hy fa.2] at va'
 rw [Ad4,r0,O8 G'.1,<-low x hx fa.1,<-low y hy fa.2] at vb'
 rw [r0,r0,O8 G'.1,O8 G'.1] at vc'
 have uc:∀B,Gd Or B->R5 B ((c+1:Nat):Int)=(if o%2=1 then .F else .T):=by
  intro B GB
  have h:=Da0 (GB.2 _ hu)
  unfold zl at h
  rw [ho] at h
  by_cases hp:o%2=1
  ·rw [if_pos hp,O8 GB.1] at h
   rw [if_pos hp]
   cases ht:R5 B ((c+1:Nat):Int) <;> rw [ht] at h <;> simp [Tri.neg] at h ⊢
  ·rw [if_neg hp] at h;rw [if_neg hp];exact h
 have ec:=(uc A G).trans (uc A' G').symm
 have hcu:R5 A ((c+1:Nat):Int) ≠ .U:=by rw [uc A G];split <;> simp
 rw [<-ec] at vc'
 refine B7 (xor_det hcu va vb vc va' vb' vc') λea eb=>?_
 intro j hj hc
 rcases honly j hj hc with rfl | rfl | rfl
 ·exact ea
 ·exact eb
 ·exact ec
structure Gr where
 g:Gt
 tab:List (List Int×Vl)
noncomputable def ndV:Option (Nat×Nat)->Vl | none=>.none | some (l,r)=>.tup [.int l,.int r]
noncomputable def U3 (g:Gt):List Vl:=g.map ndV
noncomputable def aflds (j:Nat):At->Option Vl
 | .nodes=>some (.ref (.nodes,j))
 | .inputs=>some (.ref (.inputs,j))
 | .outputs=>some (.ref (.outputs,j))
 | .table=>some (.ref (.table,j))
 | _=>none
noncomputable def inL (ni:Nat):List Vl:=E8 ((List.range ni).map (· + 1))
structure Av (H:Hq) (j ni:Nat) (G:Gr):Prop where
 self:H (.aig,j)=some (.inst .aig (aflds j))
 nodes:H (.nodes,j)=some (.list (U3 G.g))
 inputs:H (.inputs,j)=some (.list (inL ni))
 table:H (.table,j)=some (.tdict G.tab)
structure u6 (ni:Nat) (G:Gr):Prop where
 tl:G.tab.length<=G.g.length
 pos:ni<G.g.length
 nn:∀i,i<=ni->G.g[i]? = some none
 sm:∀i,ni<i->i<G.g.length->∃l r,G.g[i]? = some (some (l,r))
 ok:∀i l r,G.g[i]? = some (some (l,r))->l/2<i/\r/2<i/\l/2≠r/2
 tb:∀(l r:Nat) v,G.tab.lookup [(l:Int),(r:Int)]=some v->∃i:Nat,v = .int i/\G.g[i]? = some (some (l,r))
noncomputable def lv (f:Nat->Bool) (l:Nat):Bool:=f (l/2) != decide (l%2=1)
def Evl (g:Gt) (f:Nat->Bool):Prop:=f 0=false/\∀i l r,g[i]? = some (some (l,r))->f i=(lv f l&&lv f r)
noncomputable def Y0 (n:Nat):Nat:=if n%2=1 then n-1 else n+1
theorem bx1 (n:Nat):Builtin.bitXor (n:Int) 1=((Y0 n:Nat):Int):=by
 rw [bitXor_and,bitAnd_m1];unfold Y0;split <;> (first | exact o342 ‹_› | exact o343 ‹_›)
theorem bx0 (n:Nat):Builtin.bitXor (n:Int) 0=(n:Int):=bitXor_zero _
theorem i8 (n:Nat):Y0 n/2=n/2:=by unfold Y0;split <;> (first | exact o344 ‹_› | exact o345 ‹_›)
theorem Ah2 (f:Nat->Bool) (n:Nat):lv f (Y0 n) = !lv f n:=by
 unfold lv
 rw [i8]
 have:decide (Y0 n%2=1) = !decide (n%2=1):=by
  unfold Y0
  by_cases h:n%2=1
  ·rw [if_pos h,decide_eq_true h,decide_eq_false (o346 h)];rfl
  ·rw [if_neg h,decide_eq_false h,decide_eq_true (o347 h)];rfl
 rw [this]
 cases f (n/2) <;> cases decide (n%2=1) <;> rfl
theorem Ae0 (f:Nat->Bool) (x:Nat):lv f (2*x)=f x:=by
 unfold lv
 rw [show 2*x/2=x by exact o339,decide_eq_false o338];cases f x <;> rfl
theorem Eb1 (f:Nat->Bool) (x:Nat):lv f (2*x+1) = !f x:=by
 unfold lv
 rw [show (2*x+1)/2=x by exact o341,decide_eq_true o340];cases f x <;> rfl
def q8 (l r:Nat):Prop:=l/2=0\/r/2=0\/l/2=r/2
structure Lnd (G G':Gr) (l r o:Nat):Prop where
 ext:∃t,G'.g=G.g++t/\t.length<=1
 lt:o<2*G'.g.length
 val:∀f,Evl G'.g f->lv f o=(lv f l&&lv f r)
 fold:q8 l r->G'=G/\(o/2=0\/o/2=l/2\/o/2=r/2)
 node:¬q8 l r->∃i,o=2*i/\pairG G'.g i l r/\∀j,G.g.length<=j->j<G'.g.length->j=i
def AigF (j:Nat) (H H':Hq):Prop:=∀m,m≠(Tag.nodes,j)->m≠(Tag.table,j)->H' m=H m
theorem AigF.refl {j:Nat} {H:Hq}:AigF j H H:=λ_ _ _=>rfl
theorem AigF.trans {j:Nat} {H H1 H2:Hq} (a:AigF j H H1) (b:AigF j H1 H2):AigF j H H2:=λm h1 h2=>(b m h1 h2).trans (a m h1 h2)
section rules
variable {K:Calls G9} {H:Hq} {l:Lq} {ss:Ss} {Q:Fl G9->Lq->Hq->Prop}
noncomputable def Ac4:Ss->Ss | .cons _ t=>t | .nil=>.nil
theorem c_swap {x y:Vr} {a b:E} {va vb:Vl} (hK:D5 K) (ha:pE H l a=some va) (hb:pE H l b=some vb) (q:C2 K ss Q ((l.set y vb).set x va) H):C2 K (.cons (.swap x y a b) ss) Q l H:=
 D3 (e:=a) hK ha (D3 (e:=b) hK hb q)
theorem Ed8 {z:Vr} {o:E} {args:Es} {n:G9} {es:List (List Int×Vl)} {ns:List Int} {d:Vl} (hK:D5 K) (ho:pE H l o=some (.ref n)) (hn:H n=some (.tdict es)) (ha:c9 H l args=some [.tup (ns.map .int),d])
  (q:C2 K ss Q (l.set z ((es.lookup ns).getD d)) H):C2 K (.cons (.set z (.bm .get o args)) ss) Q l H:=
 D3 (e:=o) hK ho ⟨⟨es,hn⟩,J' (es:=args) hK ha ⟨es,ns,rfl,hn,q⟩⟩
theorem Ed7 {o i e:E} {n:G9} {es:List (List Int×Vl)} {ns:List Int} {v:Vl} (hK:D5 K) (he:pE H l e=some v) (ho:pE H l o=some (.ref n)) (hi:pE H l i=some (.tup (ns.map .int))) (hn:H n=some (.tdict es)) (hl:es.length<1000000)
  (q:C2 K ss Q l (H.set n (.tdict (put es ns v)))):C2 K (.cons (.setSub o i e) ss) Q l H:=
 D3 (e:=e) hK he (D3 (e:=o) hK ho (D3 (e:=i) hK hi ⟨es,ns,rfl,hn,hl,q⟩))
theorem Aa5 {o e:E} {m:Fn} {args:Es} {n:G9} {k:Kl} {f:At->Option Vl} (hK:D5 K) (ho:pE H l o=some (.ref n)) (hn:H n=some (.inst k f)) (hk:m.kl=some k)
  (q:Q' K args l (λvs H2=>K m (.ref n::vs) (λva H1=>O0 K e l (λvb H2=>Aa6 .bxor va vb λr=>Q (.ret r) l H2) H1) H2) H):C2 K (.cons (.ret (.bin .bxor (.meth o m args) e)) ss) Q l H:=
 D3 (e:=o) hK ho ⟨n,k,f,rfl,hn,hk,q⟩
theorem T2 {a b:E} {x y:Vl} (ha:pE H l a=some x) (hb:pE H l b=some y):pE H l (.tup (.cons a (.cons b .nil)))=some (.tup [x,y]):=b1 tupF (B9 (es:=.cons b .nil) ha (B9 (es:=.nil) hb rfl))
end rules
theorem M9 {H:Hq} {j ni:Nat} {G:Gr} (A:Av H j ni G) {l:Lq} {e:E} (h:pE H l e=some (.ref (.aig,j))) (a:At):pE H l (.attr e a)=aflds j a:=(Bg9 h).trans (by rw [A.self];rfl)
theorem E3 (g:Gt):(U3 g).length=g.length:=by simp [U3]
theorem k8 {g:Gt} {i:Nat} {o:Option (Nat×Nat)} (h:g[i]? = some o) (hl:g.length<1000000):i5 (U3 g) i=some (ndV o):=by
 have hi:=(List.getElem?_eq_some_iff.mp h).1
 unfold i5
 rw [if_pos ⟨o73,o74 hi hl (by decide)⟩]
 unfold U3
 rw [List.getElem?_map,show ((i:Int)).toNat=i by exact o77,h];rfl
theorem Ac2 (n:Nat):binF .mul (.int 2) (.int (n:Int))=some (.int ((2*n:Nat):Int)):=by
 show (if (2:Int).natAbs<1073741824\/(n:Int).natAbs<1073741824 then some (V.int (2*(n:Int))) else none)=_
 rw [if_pos (.inl (by decide))];rfl
theorem Cf2 {es:List (List Int×Vl)} {k:List Int} (h:es.lookup k=none):(es.any λkv=>decide (kv.1=k))=false:=by
 induction es with
 | nil=>rfl
 | cons x es ih=>
  obtain ⟨a,b⟩:=x
  rw [List.lookup_cons] at h
  cases hk:(k==a) with
  | true=>rw [hk] at h;cases h
  | false=>
   rw [hk] at h
   rw [List.any_cons,ih h]
   have:¬a=k:=λe=>by rw [e] at hk;simp at hk
   simp [this]
theorem put_new {es:List (List Int×Vl)} {k:List Int} {v:Vl} (h:es.lookup k=none):put es k v=es++[(k,v)]:=by
 unfold put
 rw [Cf2 h];rfl
theorem Lnd.of_fold {G:Gr} {ni l r o:Nat} (K:u6 ni G) (ho:o<2*G.g.length) (hf:q8 l r) (hv:∀f:Nat->Bool,f 0=false->lv f o=(lv f l&&lv f r)) (hd:o/2=0\/o/2=l/2\/o/2=r/2):Lnd G G l r o:=
 ⟨⟨[],by simp,by simp⟩,ho,λf hf=>hv f hf.1,λ_=>⟨rfl,hd⟩,λh=>absurd hf h⟩
theorem Ci5 {f:Nat->Bool} (h:f 0=false):lv f 0=false/\lv f 1=true:=by
 unfold lv
 constructor
 ·show (f 0 != false)=false;rw [h];rfl
 ·show (f 0 != true)=true;rw [h];rfl
theorem Lnd.comm {G G':Gr} {l r o:Nat} (h:Lnd G G' l r o):Lnd G G' r l o:=by
 refine ⟨h.ext,h.lt,λf hf=>by rw [h.val f hf,Bool.and_comm],λhf=>?_,λhf=>?_⟩
 ·obtain ⟨a,b⟩:=h.fold (by unfold q8 at hf ⊢;exact o348 hf)
  exact ⟨a,o349 b⟩
 ·obtain ⟨i,a,b,c⟩:=h.node (by unfold q8 at hf ⊢;exact o350 hf)
  exact ⟨i,a,b.symm,c⟩
theorem Bd7 {k:Nat} {H:Hq} {j ni:Nat} {G:Gr} (A:Av H j ni G) (K:u6 ni G) (hs:G.g.length<500) {l r:Nat} (hl:l<2*G.g.length) (hr:r<2*G.g.length) {Q:Vl->Hq->Prop}
  (q:∀H' G' o,Av H' j ni G'->u6 ni G'->Lnd G G' l r o->AigF j H H'->Q (.int (o:Nat)) H'):
  C9 (k+2) .land [.ref (.aig,j),.int (l:Nat),.int (r:Nat)] Q H:=by
 have hK:=C7 k
 refine D0 rfl ?_
 show C2 (C9 (k+1)) Cg9 _ _ _
 have tail:∀(l1:Lq) (a b:Nat),a<=b->a<2*G.g.length->b<2*G.g.length->l1 .self=some (.ref (.aig,j))->l1 .l=some (.int (a:Nat))->l1 .r=some (.int (b:Nat)) ->
   (∀H' G' o,Av H' j ni G'->u6 ni G'->Lnd G G' a b o->AigF j H H'->Q (.int (o:Nat)) H')->C2 (C9 (k+1)) (Ac4 Cg9) (λfl _ H'=>Q fl.val H') l1 H:=by
  intro l1 a b hab ha hb e1 e2 e3 q
  have cx:pE H l1 (.bin .bxor (.var .r) (.int 1))=some (.int ((Y0 b:Nat):Int)):=by
   rw [D8 (a:=.var .r) (b:=.int 1) (x:=(b:Int)) (y:=1) e3 rfl,<-bx1];rfl
  have c1:=Ch7 (E0 (op:=.eq) (a:=.var .l) (b:=.int 0) (x:=(a:Int)) (y:=0) e2 rfl) λ_=>E0 (op:=.eq) (a:=.var .l) e2 cx
  have c2:=Ch7 (H:=H) (E0 (op:=.eq) (a:=.var .l) (b:=.int 1) (x:=(a:Int)) (y:=1) e2 rfl) λ_=>E0 (op:=.eq) (a:=.var .l) (b:=.var .r) e2 e3
  have hsz:0<G.g.length:=Nat.lt_of_le_of_lt (Nat.zero_le _) K.pos
  by_cases h1:a=0\/a=Y0 b
  ·refine G6 hK (by rw [c1];show some (((a:Int)==0)||((a:Int)==(Y0 b:Int)))=_;rcases h1 with h | h <;> simp [h]) ?_
   refine M3 hK (v:=.int ((0:Nat):Int)) rfl (q H G 0 A K (Lnd.of_fold K (o351 hsz) ?_ (λf hf=>?_) (.inl rfl)) AigF.refl)
   ·unfold q8
    rcases h1 with h | h
    ·exact .inl (o352 h)
    ·exact .inr (.inr (by rw [h,i8]))
   ·rw [(Ci5 hf).1]
    rcases h1 with h | h
    ·rw [h,(Ci5 hf).1];rfl
    ·rw [h,Ah2];cases lv f b <;> rfl
  ·refine E9 hK (by
    rw [c1];show some (((a:Int)==0)||((a:Int)==(Y0 b:Int)))=_
    have n1:¬a=0:=λh=>h1 (.inl h)
    have n2:¬a=Y0 b:=λh=>h1 (.inr h)
    have m1:((a:Int)==0)=false:=by simp;exact o8 n1
    have m2:((a:Int)==(Y0 b:Int))=false:=by simp;exact o234 n2
    rw [m1,m2];rfl) (C0 (B6 ?_))
   by_cases h2:a=1\/a=b
   ·refine G6 hK (by rw [c2];show some (((a:Int)==1)||((a:Int)==(b:Int)))=_;rcases h2 with h | h <;> simp [h]) ?_
    refine M3 hK (v:=.int (b:Nat)) e3 (q H G b A K (Lnd.of_fold K hb ?_ (λf hf=>?_) (.inr (.inr rfl))) AigF.refl)
    ·unfold q8
     rcases h2 with h | h
     ·exact .inl (o353 h)
     ·exact .inr (.inr (by rw [h]))
    ·rcases h2 with h | h
     ·rw [h,(Ci5 hf).2];rfl
     ·rw [h];cases lv f b <;> rfl
   ·refine E9 hK (by
     rw [c2];show some (((a:Int)==1)||((a:Int)==(b:Int)))=_
     have n1:¬a=1:=λh=>h2 (.inl h)
     have n2:¬a=b:=λh=>h2 (.inr h)
     have m1:((a:Int)==1)=false:=by simp;exact o354 n1
     have m2:((a:Int)==(b:Int))=false:=by simp;exact o234 n2
     rw [m1,m2];rfl) (C0 (B6 ?_))
    have hab2:a/2≠b/2:=by
     intro h
     have n1:¬a=Y0 b:=λh=>h1 (.inr h)
     have n2:¬a=b:=λh=>h2 (.inr h)
     unfold Y0 at n1
     split at n1 <;> (first | exact o355 ‹_› h n1 n2 | exact o356 h ‹_› n1 n2)
    have ha2:2<=a:=by
     have n1:¬a=0:=λh=>h1 (.inl h)
     have n2:¬a=1:=λh=>h2 (.inl h)
     exact o357 n1 n2
    have nf:¬q8 a b:=by unfold q8;exact o358 ha2 hab2 hab
    have tE:∀H' (l2:Lq),l2 .l=some (.int (a:Nat))->l2 .r=some (.int (b:Nat))->pE H' l2 (.tup (.cons (.var .l) (.cons (.var .r) .nil)))=some (.tup (([(a:Int),(b:Int)]:List Int).map .int)):=λH' l2 h1 h2=>T2 (a:=.var .l) (b:=.var .r) h1 h2
    refine Ed8 (n:=(.table,j)) (ns:=[(a:Int),(b:Int)]) (d:=.int (-1)) hK (M9 A (e:=.var .self) e1 .table) A.table (B9 (tE H l1 e2 e3) (B9 rfl rfl)) ?_
    have fin:∀(H':Hq) (G':Gr) (l2:Lq) (i:Nat),l2 .node=some (.int (i:Nat))->Av H' j ni G'->u6 ni G'->Lnd G G' a b (2*i)->AigF j H H'->C2 (C9 (k+1)) (.cons (.ret (.bin .mul (.int 2) (.var .node))) .nil) (λfl _ H'=>Q fl.val H') l2 H':=
     λH' G' l2 i hi A' K' L' F'=>M3 hK (v:=.int ((2*i:Nat):Int)) ((D8 (a:=.int 2) (b:=.var .node) (x:=2) (y:=(i:Int)) rfl hi).trans (Ac2 i)) (q H' G' (2*i) A' K' L' F')
    cases hlk:G.tab.lookup [(a:Int),(b:Int)] with
    | some v=>
     exists C1 (K.tb a b v hlk) λi B3=>B7 B3 λC' hi=>B5 ?_
     subst C'
     have hil:=(List.getElem?_eq_some_iff.mp hi).1
     refine E9 hK (by rw [E0 (op:=.lt) (a:=.var .node) (b:=.int 0) (x:=(i:Int)) (y:=0) rfl rfl];show some (decide ((i:Int)<0))=_;rw [decide_eq_false o216]) (C0 (B6 ?_))
     refine fin H G _ i rfl A K ⟨⟨[],by simp,by simp⟩,o359 hil,λf hf=>?_,λh=>absurd h nf,λ_=>⟨i,rfl,.inl hi,λj h1 h2=>o262 h2 h1⟩⟩ AigF.refl
     rw [Ae0,hf.2 i a b hi]
    | none=>
     refine G6 hK (by rw [E0 (op:=.lt) (a:=.var .node) (b:=.int 0) (x:= -1) (y:=0) rfl rfl];rfl) ?_
     generalize hl2:l1.set .node (((none:Option Vl)).getD (.int (-1)))=l2
     have b1:l2 .self=some (.ref (.aig,j)):=by rw [<-hl2];exact e1
     have b2:l2 .l=some (.int (a:Nat)):=by rw [<-hl2];exact e2
     have b3:l2 .r=some (.int (b:Nat)):=by rw [<-hl2];exact e3
     refine J2 hK (v:=.int (G.g.length:Nat)) ?_ ?_
     ·rw [W3 (M9 A (e:=.var .self) b1 .nodes) A.nodes (by rw [E3];exact o96 hs (by decide)),E3]
     refine I9 (n:=(.nodes,j)) (v:=.tup [.int (a:Nat),.int (b:Nat)]) hK (M9 A (e:=.var .self) (l:=l2.set .node (.int (G.g.length:Nat))) b1 .nodes) A.nodes (tE H _ b2 b3) (by rw [E3];exact o96 hs (by decide)) ?_
     have en:U3 G.g++[(.tup [.int (a:Nat),.int (b:Nat)]:Vl)]=U3 (G.g++[some (a,b)]):=by unfold U3;rw [List.map_append];rfl
     rw [en]
     have A1:Av (H.set (.nodes,j) (.list (U3 (G.g++[some (a,b)])))) j ni ⟨G.g++[some (a,b)],G.tab⟩:=
      ⟨(B2 (C6 rfl)).trans A.self,D2,(B2 (C6 rfl)).trans A.inputs,(B2 (C6 rfl)).trans A.table⟩
     have htl:=K.tl
     refine Ed7 (n:=(.table,j)) (ns:=[(a:Int),(b:Int)]) (v:=.int (G.g.length:Nat)) (e:=.var .node) hK rfl (M9 A1 (e:=.var .self) (l:=l2.set .node (.int (G.g.length:Nat))) b1 .table) (tE _ _ b2 b3) A1.table (by show G.tab.length<_;exact o311 htl hs (by decide)) ?_
     show C2 (C9 (k+1)) _ _ _ ((H.set (.nodes,j) (.list (U3 (G.g++[some (a,b)])))).set (.table,j) (.tdict (put G.tab [(a:Int),(b:Int)] (.int (G.g.length:Nat)))))
     rw [put_new hlk]
     refine C0 (B6 ?_)
     have gl:(G.g++[some (a,b)])[G.g.length]? = some (some (a,b)):=by rw [List.getElem?_append_right (Nat.le_refl _),Nat.sub_self];rfl
     have go:∀i,i<G.g.length->(G.g++[some (a,b)])[i]? = G.g[i]? :=λi hi=>List.getElem?_append_left hi
     have gs:∀i p,(G.g++[some (a,b)])[i]? = some p->(i<G.g.length/\G.g[i]? = some p)\/(i=G.g.length/\p=some (a,b)):=by
      intro i p h
      rcases Nat.lt_or_ge i G.g.length with hi | hi
      ·rw [go i hi] at h;exact .inl ⟨hi,h⟩
      ·have hi':=(List.getElem?_eq_some_iff.mp h).1
       rw [List.length_append] at hi'
       simp at hi'
       have:i=G.g.length:=o360 hi' hi
       subst this
       rw [gl] at h;cases h;exact .inr ⟨rfl,rfl⟩
     refine fin _ ⟨G.g++[some (a,b)],G.tab++[([(a:Int),(b:Int)],.int (G.g.length:Nat))]⟩ _ G.g.length rfl ⟨(B2 (C6 rfl)).trans A1.self,(B2 (C6 rfl)).trans A1.nodes,(B2 (C6 rfl)).trans A1.inputs,D2⟩ ?_ ?_ ?_
     ·refine ⟨?_,?_,λi hi=>?_,λi hi hi2=>?_,λi l r h=>?_,λl r v h=>?_⟩
      ·show (G.tab++[_]).length<=(G.g++[_]).length
       rw [List.length_append,List.length_append];simp;exact K.tl
      ·show ni<(G.g++[_]).length
       rw [List.length_append];have:=K.pos;exact o361 this
      ·show (G.g++[some (a,b)])[i]? = _
       rw [go i (by have:=K.pos;exact o212 hi this)];exact K.nn i hi
      ·show ∃l r,(G.g++[some (a,b)])[i]? = some (some (l,r))
       rcases Nat.lt_or_ge i G.g.length with h | h
       ·rw [go i h];exact K.sm i hi h
       ·have hi2':i<(G.g++[some (a,b)]).length:=hi2
        rw [List.length_append] at hi2'
        simp at hi2'
        have:i=G.g.length:=o360 hi2' h
        subst this
        exact ⟨a,b,gl⟩
      ·rcases gs i _ h with q_ | q_
       ·refine B7 q_ λ_ h=>?_
        clear q_
        exact K.ok i l r h
       ·refine B7 q_ λhi h'=>?_
        clear q_
        cases h'
        exact ⟨o362 ha hi,o362 hb hi,hab2⟩
      ·have h':(G.tab++[([(a:Int),(b:Int)],(.int (G.g.length:Nat):Vl))]).lookup [(l:Int),(r:Int)]=some v:=h
       rw [List.lookup_append] at h'
       cases hlk2:G.tab.lookup [(l:Int),(r:Int)] with
       | some w=>
        rw [hlk2] at h';cases h'
        exists C1 (K.tb l r _ hlk2) λi B3=>B7 B3 λe hi=>B5 ?_
        refine ⟨i,e,?_⟩
        show (G.g++[some (a,b)])[i]? = _
        rw [go i (List.getElem?_eq_some_iff.mp hi).1];exact hi
       | none=>
        rw [hlk2,Option.none_or,List.lookup_cons] at h'
        by_cases he:([(l:Int),(r:Int)]:List Int)=[(a:Int),(b:Int)]
        ·rw [he] at h'
         simp only [beq_self_eq_true] at h'
         cases h'
         simp at he
         refine B7 he λe1 e2=>?_
         clear he
         have e1':l=a:=o363 e1
         have e2':r=b:=o363 e2
         subst e1';subst e2'
         exact ⟨G.g.length,rfl,gl⟩
        ·have:(([(l:Int),(r:Int)]:List Int)==[(a:Int),(b:Int)])=false:=by simpa using he
         rw [this] at h';cases h'
     ·refine ⟨⟨[some (a,b)],rfl,by simp⟩,?_,λf hf=>?_,λh=>absurd h nf,λ_=>⟨G.g.length,rfl,.inl gl,λj h1 h2=>?_⟩⟩
      ·show 2*G.g.length<2*(G.g++[_]).length
       rw [List.length_append];simp
      ·rw [Ae0,hf.2 _ a b gl]
      ·have h2':j<(G.g++[some (a,b)]).length:=h2
       rw [List.length_append] at h2'
       simp at h2';exact o276 h2' h1
     ·intro m h1 h2
      rw [B2 h2,B2 h1]
 generalize hl0:Lc.args Fn.land.params [(V.ref (Tag.aig,j):Vl),V.int (l:Int),V.int (r:Int)]=l0
 have e1:l0 .self=some (.ref (.aig,j)):=by rw [<-hl0];rfl
 have e2:l0 .l=some (.int (l:Nat)):=by rw [<-hl0];rfl
 have e3:l0 .r=some (.int (r:Nat)):=by rw [<-hl0];rfl
 have c0:=E0 (H:=H) (op:=.gt) (a:=.var .l) (b:=.var .r) e2 e3
 by_cases hlr:r<l
 ·refine G6 hK (by rw [c0];show some (decide ((r:Int)<(l:Int)))=_;rw [decide_eq_true (o165 hlr)]) ?_
  refine c_swap (a:=.var .r) (b:=.var .l) hK e3 e2 (C0 (B6 ?_))
  exact tail _ r l (o112 hlr) hr hl e1 rfl rfl λH' G' o A' K' L' F'=>q H' G' o A' K' L'.comm F'
 ·refine E9 hK (by rw [c0];show some (decide ((r:Int)<(l:Int)))=_;rw [decide_eq_false (o364 hlr)]) (C0 (B6 ?_))
  exact tail _ l r (o71 hlr) hl hr e1 e2 e3 q
theorem Bi4 {l r:Nat}:q8 (Y0 l) (Y0 r)↔q8 l r:=by unfold q8;rw [i8,i8]
theorem Bb8 {l n:Nat} (h:l<2*n):Y0 l<2*n:=by unfold Y0;split <;> (first | exact o253 h | exact o365 h ‹_›)
theorem w8 (x:Nat):Y0 (2*x)=2*x+1:=by unfold Y0;rw [if_neg o338]
theorem Af5 {H:Hq} {l:Lq} {e:E} {n:Nat} (he:pE H l e=some (.int (n:Nat))):pE H l (.bin .bxor e (.int 1))=some (.int ((Y0 n:Nat):Int)):=by
 rw [D8 (b:=.int 1) (x:=(n:Int)) (y:=1) he rfl,<-bx1];rfl
theorem k_lor {k:Nat} {H:Hq} {j ni:Nat} {G:Gr} (A:Av H j ni G) (K:u6 ni G) (hs:G.g.length<500) {l r:Nat} (hl:l<2*G.g.length) (hr:r<2*G.g.length) {Q:Vl->Hq->Prop}
  (q:∀H' G' o,Av H' j ni G'->u6 ni G'->Lnd G G' (Y0 l) (Y0 r) o->AigF j H H'->Q (.int ((Y0 o:Nat):Int)) H'):
  C9 (k+3) .lor [.ref (.aig,j),.int (l:Nat),.int (r:Nat)] Q H:=by
 have hK:=C7 (k+1)
 refine D0 rfl ?_
 show C2 (C9 (k+2)) b_lor _ _ _
 refine Aa5 (o:=.var .self) hK rfl A.self rfl (J' (vs:=[.int ((Y0 l:Nat):Int),.int ((Y0 r:Nat):Int)]) hK (B9 (Af5 (e:=.var .l) rfl) (B9 (Af5 (e:=.var .r) rfl) rfl)) ?_)
 refine Bd7 (k:=k) A K hs (Bb8 hl) (Bb8 hr) λH' G' o A' K' L' F'=>?_
 show Q (.int (Builtin.bitXor (o:Int) 1)) H'
 rw [bx1]
 exact q H' G' o A' K' L' F'
theorem Evl.pre {g t:Gt} {f:Nat->Bool} (h:Evl (g++t) f):Evl g f:=
 ⟨h.1,λi l r e=>h.2 i l r (by rw [List.getElem?_append_left (List.getElem?_eq_some_iff.mp e).1];exact e)⟩
theorem pairG.app {g t:Gt} {i p q:Nat} (h:pairG g i p q):pairG (g++t) i p q:=by
 rcases h with h | h
 ·exact .inl (by rw [List.getElem?_append_left (List.getElem?_eq_some_iff.mp h).1];exact h)
 ·exact .inr (by rw [List.getElem?_append_left (List.getElem?_eq_some_iff.mp h).1];exact h)
structure Lx (G G':Gr) (l r o:Nat):Prop where
 ext:∃t,G'.g=G.g++t/\t.length<=3
 lt:o<2*G'.g.length
 val:∀f,Evl G'.g f->lv f o=(lv f l != lv f r)
 shape:(G'=G/\(o/2=0\/o/2=l/2\/o/2=r/2))\/∃a b c,pairG G'.g a (2*(l/2)) (2*(r/2)+1)/\pairG G'.g b (2*(l/2)+1) (2*(r/2))/\pairG G'.g c (2*a+1) (2*b+1)/\o/2=c /\
  ∀j,G.g.length<=j->j<G'.g.length->j=a\/j=b\/j=c
theorem Bh5 (f:Nat->Bool) (l:Nat):lv f l=(f (l/2) != decide (l%2=1)):=rfl
theorem ev2 (x:Nat):2*x/2=x:=Nat.mul_div_cancel_left x (by decide)
theorem od2 (x:Nat):(2*x+1)/2=x:=by rw [Nat.mul_add_div (by decide)];rfl
theorem Cj5 (x y:Nat):q8 (2*x) (2*y+1)↔(x=0\/y=0\/x=y):=by unfold q8;rw [ev2,od2]
theorem Cj4 (x y:Nat):q8 (2*x+1) (2*y)↔(x=0\/y=0\/x=y):=by unfold q8;rw [ev2,od2]
theorem fold_ab {p q x y:Nat} (hp:p=0\/p=x\/p=y) (hq:q=0\/q=x\/q=y) (h:x=0\/y=0\/x=y):p=0\/q=0\/p=q:=by
 rcases hp with h1 | h1 | h1
 ·exact .inl h1
 ·rcases hq with h2 | h2 | h2
  ·exact .inr (.inl h2)
  ·exact .inr (.inr (h1.trans h2.symm))
  ·rcases h with h | h | h
   ·exact .inl (h1.trans h)
   ·exact .inr (.inl (h2.trans h))
   ·exact .inr (.inr (h1.trans (h.trans h2.symm)))
 ·rcases hq with h2 | h2 | h2
  ·exact .inr (.inl h2)
  ·rcases h with h | h | h
   ·exact .inr (.inl (h2.trans h))
   ·exact .inl (h1.trans h)
   ·exact .inr (.inr (h1.trans (h.symm.trans h2.symm)))
  ·exact .inr (.inr (h1.trans h2.symm))
theorem fold_c {c p q x y:Nat} (hc:c=0\/c=p\/c=q) (hp:p=0\/p=x\/p=y) (hq:q=0\/q=x\/q=y):c=0\/c=x\/c=y:=by
 rcases hc with h | h | h
 ·exact .inl h
 ·rw [h];exact hp
 ·rw [h];exact hq
theorem Lx.of {ni:Nat} {G G1 G2 G3:Gr} {l r oa ob oc:Nat} (K3:u6 ni G3) (La:Lnd G G1 (2*(l/2)) (2*(r/2)+1) oa) (Lb:Lnd G1 G2 (2*(l/2)+1) (2*(r/2)) ob) (Lc:Lnd G2 G3 (Y0 oa) (Y0 ob) oc):
  Lx G G3 l r (if (l+r)%2=1 then oc else Y0 oc):=by
 exists C1 La.ext λta B3=>B7 B3 λea la=>B5 ?_
 exists C1 Lb.ext λtb B3=>B7 B3 λeb lb=>B5 ?_
 exists C1 Lc.ext λtc B3=>B7 B3 λec lc=>B5 ?_
 have hdiv:(if (l+r)%2=1 then oc else Y0 oc)/2=oc/2:=by split <;> simp [i8]
 refine ⟨⟨ta++tb++tc,by rw [ec,eb,ea];simp,by rw [List.length_append,List.length_append];exact o367 la lb lc⟩,?_,λf hf=>?_,?_⟩
 ·have h1:=Lc.lt
  have h2:=Bb8 h1
  split
  ·exact h1
  ·exact h2
 ·have f2:Evl G2.g f:=by rw [ec] at hf;exact hf.pre
  have f1:Evl G1.g f:=by rw [eb] at f2;exact f2.pre
  have va:=La.val f f1
  have vb:=Lb.val f f2
  have vc:=Lc.val f hf
  rw [Ah2,Ah2,va,vb,Ae0,Eb1,Ae0,Eb1] at vc
  have hp:(l+r)%2=1↔¬(l%2=1↔r%2=1):=o368
  rw [Bh5 f l,Bh5 f r]
  by_cases h1:l%2=1 <;> by_cases h2:r%2=1
  ·rw [if_neg (o369 h1 h2),Ah2,vc,decide_eq_true h1,decide_eq_true h2];cases f (l/2) <;> cases f (r/2) <;> rfl
  ·rw [if_pos (o370 h1 h2),vc,decide_eq_true h1,decide_eq_false h2];cases f (l/2) <;> cases f (r/2) <;> rfl
  ·rw [if_pos (o371 h2 h1),vc,decide_eq_false h1,decide_eq_true h2];cases f (l/2) <;> cases f (r/2) <;> rfl
  ·rw [if_neg (o372 h1 h2),Ah2,vc,decide_eq_false h1,decide_eq_false h2];cases f (l/2) <;> cases f (r/2) <;> rfl
 ·rw [hdiv]
  by_cases h:l/2=0\/r/2=0\/l/2=r/2
  ·refine B7 (La.fold ((Cj5 _ _).mpr h)) λga da=>?_
   refine B7 (Lb.fold ((Cj4 _ _).mpr h)) λgb db=>?_
   rw [ev2,od2] at da
   rw [od2,ev2] at db
   refine B7 (Lc.fold (Bi4.mpr (fold_ab da db h))) λgc dc=>?_
   rw [i8,i8] at dc
   exact .inl ⟨by rw [gc,gb,ga],fold_c dc da db⟩
  ·exists C1 (La.node λz=>h ((Cj5 _ _).mp z)) λa B3=>E6 B3 λha pa na=>B5 ?_
   exists C1 (Lb.node λz=>h ((Cj4 _ _).mp z)) λb B3=>E6 B3 λhb pb nb=>B5 ?_
   have pa3:pairG G3.g a (2*(l/2)) (2*(r/2)+1):=by rw [ec,eb];exact pa.app.app
   have pb3:pairG G3.g b (2*(l/2)+1) (2*(r/2)):=by rw [ec];exact pb.app
   have z0:=K3.nn 0 (Nat.zero_le _)
   have a0:a≠0:=by
    rintro rfl
    rcases pa3 with h | h <;> rw [z0] at h <;> cases h
   have b0:b≠0:=by
    rintro rfl
    rcases pb3 with h | h <;> rw [z0] at h <;> cases h
   have ab:a≠b:=by
    rintro rfl
    rcases pa3 with h1 | h1 <;> rcases pb3 with h2 | h2 <;> rw [h1] at h2 <;> simp at h2 <;> (first | exact o373 h2 h | exact o374 h2 h)
   have nf:¬q8 (Y0 oa) (Y0 ob):=by
    rw [Bi4,ha,hb];unfold q8;rw [ev2,ev2]
    rintro (z | z | z)
    ·exact a0 z
    ·exact b0 z
    ·exact ab z
   exists C1 (Lc.node nf) λc B3=>E6 B3 λhc pc nc=>B5 ?_
   rw [ha,hb,w8,w8] at pc
   refine .inr ⟨a,b,c,pa3,pb3,pc,o375 hc,λj h1 h2=>?_⟩
   have e1:G1.g.length=G.g.length+ta.length:=by rw [ea,List.length_append]
   have e2:G2.g.length=G1.g.length+tb.length:=by rw [eb,List.length_append]
   rcases Nat.lt_or_ge j G1.g.length with h3 | h3
   ·exact .inl (na j h1 h3)
   ·rcases Nat.lt_or_ge j G2.g.length with h4 | h4
    ·exact .inr (.inl (nb j h3 h4))
    ·exact .inr (.inr (nc j h4 h2))
theorem bsign (l r:Nat):Builtin.bitAnd (Builtin.bitXor (l:Int) (r:Int)) 1=(((l+r)%2:Nat):Int):=by
 rw [bitXor_and,bitAnd_m1];exact o376
theorem bclr (l:Nat):Builtin.bitXor (l:Int) (Builtin.bitAnd (l:Int) 1)=((2*(l/2):Nat):Int):=by
 rw [bitAnd_m1]
 by_cases h:l%2=1
 ·rw [show (l:Int)%2=1 by exact o377 h,bx1];unfold Y0;rw [if_pos h];exact o378 h
 ·rw [show (l:Int)%2=0 by exact o379 h,bx0];exact o380 h
theorem k_lxor {k:Nat} {H:Hq} {j ni:Nat} {G:Gr} (A:Av H j ni G) (K:u6 ni G) (hs:G.g.length<400) {l r:Nat} (hl:l<2*G.g.length) (hr:r<2*G.g.length) {Q:Vl->Hq->Prop}
  (q:∀H' G' o,Av H' j ni G'->u6 ni G'->Lx G G' l r o->AigF j H H'->Q (.int (o:Nat)) H'):
  C9 (k+4) .lxor [.ref (.aig,j),.int (l:Nat),.int (r:Nat)] Q H:=by
 have hK:=C7 (k+2)
 refine D0 rfl ?_
 show C2 (C9 (k+3)) Ee5 _ _ _
 refine J2 hK (v:=.int (((l+r)%2:Nat):Int)) (by rw [<-bsign];rfl) ?_
 refine J2 hK (v:=.int ((2*(l/2):Nat):Int)) (by rw [<-bclr l];rfl) ?_
 refine J2 hK (v:=.int ((2*(r/2):Nat):Int)) (by rw [<-bclr r];rfl) ?_
 generalize hl0:(((Lc.args Fn.lxor.params [(V.ref (Tag.aig,j):Vl),V.int (l:Int),V.int (r:Int)]).set .sign (V.int (((l+r)%2:Nat):Int))).set .left (V.int ((2*(l/2):Nat):Int))).set .right (V.int ((2*(r/2):Nat):Int))=l0
 have e1:l0 .self=some (.ref (.aig,j)):=by rw [<-hl0];rfl
 have e2:l0 .left=some (.int ((2*(l/2):Nat):Int)):=by rw [<-hl0];rfl
 have e3:l0 .right=some (.int ((2*(r/2):Nat):Int)):=by rw [<-hl0];rfl
 have e4:l0 .sign=some (.int (((l+r)%2:Nat):Int)):=by rw [<-hl0];rfl
 refine Aa5 (o:=.var .self) hK e1 A.self rfl ?_
 have gx:∀H',pE H' l0 (.bin .bxor (.var .right) (.int 1))=some (.int ((2*(r/2)+1:Nat):Int)):=λH'=>by rw [Af5 (e:=.var .right) e3,w8]
 have gy:∀H',pE H' l0 (.bin .bxor (.var .left) (.int 1))=some (.int ((2*(l/2)+1:Nat):Int)):=λH'=>by rw [Af5 (e:=.var .left) e2,w8]
 refine Be6 (o:=.var .self) hK e1 A.self rfl (B9 (e:=.var .left) e2 (B9 (gx H) rfl)) ?_
 refine Bd7 (k:=k+1) A K (o96 hs (by decide)) (o381 hl) (o382 hr) λH1 G1 oa A1 K1 L1 F1=>?_
 exists C1 L1.ext λt1 B3=>B7 B3 λx1 y1=>B5 ?_
 have n1:G1.g.length=G.g.length+t1.length:=by rw [x1,List.length_append]
 refine Be6 (o:=.var .self) hK e1 A1.self rfl (B9 (gy H1) (B9 (e:=.var .right) e3 rfl)) ?_
 refine Bd7 (k:=k+1) A1 K1 (o383 n1 hs y1 (by decide)) (o384 hl n1) (o385 hr n1) λH2 G2 ob A2 K2 L2 F2=>?_
 exists C1 L2.ext λt2 B3=>B7 B3 λx2 y2=>B5 ?_
 have n2:G2.g.length=G1.g.length+t2.length:=by rw [x2,List.length_append]
 refine w4 ?_
 have lt1:=L1.lt
 refine k_lor (k:=k) A2 K2 (ln5 [G2.g.length,G1.g.length,G.g.length,t1.length,t2.length] (X0+1) 500 X0 (X1+X4) X1 (X2+X3) X3 1 X4 1 (X2+1) 400 rfl (Nat.le_of_eq n2) (Nat.le_of_eq n1) y1 y2 hs) (o386 lt1 n2) L2.lt λH3 G3 oc A3 K3 L3 F3=>?_
 refine D3 (e:=.var .sign) hK e4 ?_
 show Q (.int (Builtin.bitXor ((Y0 oc:Nat):Int) (((l+r)%2:Nat):Int))) H3
 have key:Builtin.bitXor ((Y0 oc:Nat):Int) (((l+r)%2:Nat):Int)=(((if (l+r)%2=1 then oc else Y0 oc):Nat):Int):=by
  by_cases h:(l+r)%2=1
  ·rw [h,if_pos rfl]
   show Builtin.bitXor ((Y0 oc:Nat):Int) 1=_
   rw [bx1]
   unfold Y0
   split <;> split <;> (first | exact o387 ‹_› ‹_› | exact o388 ‹_› | exact o389 | exact o390 ‹_› ‹_›)
  ·rw [if_neg h,show (l+r)%2=0 by exact o391 h]
   exact bx0 _
 rw [key]
 exact q H3 G3 _ A3 K3 (Lx.of K3 L1 L2 L3) (F1.trans (F2.trans F3))
theorem Bi0 {k:Nat} {H:Hq} {j ni:Nat} {G:Gr} (A:Av H j ni G) (hs:G.g.length<500) {i:Nat} {o:Option (Nat×Nat)} (hi:G.g[i]? = some o) {Q:Vl->Hq->Prop} (q:Q (.bool o.isSome) H):C9 (k+2) .is_and [.ref (.aig,j),.int (i:Nat)] Q H:=by
 have hK:=C7 k
 refine D0 rfl ?_
 show C2 (C9 (k+1)) Ca1 _ _ _
 refine M3 hK (v:=.bool o.isSome) ?_ q
 refine (b1 _ ((J4 (k:=(i:Int)) (M9 A (e:=.var .self) rfl .nodes) rfl A.nodes).trans (k8 hi (o96 hs (by decide))))).trans ?_
 cases o with
 | none=>rfl
 | some p=>rfl
theorem shr1 (l:Nat):(l:Int).fdiv (2^(1:Int).toNat)=((l/2:Nat):Int):=by
 rw [Int.fdiv_eq_ediv_of_nonneg _ (by decide)]
 show (l:Int)/2=_
 exact o392
theorem Ad6 {H:Hq} {l:Lq} {e:E} {n:Nat} (he:pE H l e=some (.int (n:Nat))):pE H l (.bin .shr e (.int 1))=some (.int ((n/2:Nat):Int)):=by
 rw [D8 (b:=.int 1) (x:=(n:Int)) (y:=1) he rfl]
 show (if (0:Int)<=1 then some (V.int ((n:Int).fdiv (2^(1:Int).toNat))) else none)=_
 rw [if_pos (by decide),shr1]
theorem f8 {k:Nat} {H:Hq} {l:Nat} {Q:Vl->Hq->Prop} (q:Q (.int (zl l)) H):C9 (k+2) .variable_of [.int (l:Nat)] Q H:=by
 have hK:=C7 k
 refine D0 rfl ?_
 show C2 (C9 (k+1)) u9 _ _ _
 refine J2 hK (v:=.int ((l/2+1:Nat):Int)) (D8 (x:=((l/2:Nat):Int)) (y:=1) (Ad6 (e:=.var .literal) rfl) rfl) ?_
 have cb:pE H ((Lc.args Fn.variable_of.params [(V.int (l:Int):Vl)]).set .number (V.int ((l/2+1:Nat):Int))) (.bin .band (.var .literal) (.int 1))=some (.int ((l:Int)%2)):=by
  rw [<-bitAnd_m1];rfl
 have cc:=E0 (op:=.eq) (b:=.int 1) (y:=1) cb rfl
 unfold zl at q
 by_cases h:l%2=1
 ·rw [if_pos h] at q
  refine G6 hK (by rw [cc];show some ((l:Int)%2==1)=_;rw [show (l:Int)%2=1 by exact o377 h];rfl) ?_
  exact M3 hK (v:=.int (-((l/2+1:Nat):Int))) rfl q
 ·rw [if_neg h] at q
  refine E9 hK (by rw [cc];show some ((l:Int)%2==1)=_;rw [show (l:Int)%2=0 by exact o379 h];rfl) (C0 (B6 ?_))
  exact M3 hK (v:=.int ((l/2+1:Nat):Int)) rfl q
noncomputable def gr0 (n:Nat):Gr:=⟨List.replicate (n+1) none,[]⟩
theorem gr0_ok (n:Nat):u6 n (gr0 n):=by
 refine ⟨Nat.zero_le _,by simp [gr0],λi hi=>?_,λi h1 h2=>?_,λi l r h=>?_,λl r v h=>by cases h⟩
 ·show (List.replicate (n+1) none)[i]? = _
  rw [List.getElem?_replicate,if_pos (o68 hi)]
 ·have:i<(List.replicate (n+1) (none:Option (Nat×Nat))).length:=h2
  simp at this;exact o393 this h1
 ·have h':(List.replicate (n+1) (none:Option (Nat×Nat)))[i]? = some (some (l,r)):=h
  rw [List.getElem?_replicate] at h'
  split at h' <;> cases h'
theorem k_ainit {k:Nat} {H:Hq} {s:Nat} (hs:H (.aig,s)=some (.inst .aig λ_=>none)) (hf:∀g,g ≠ .aig->H (g,s)=none) {Q:Vl->Hq->Prop}
  (q:∀H',Av H' s 0 (gr0 0)->(∀g j,j≠s->H' (g,j)=H (g,j))->Q .none H'):C9 (k+2) .a_init [.ref (.aig,s)] Q H:=by
 have hK:=C7 k
 refine D0 rfl ?_
 show C2 (C9 (k+1)) Ca8 _ _ _
 generalize hl0:Lc.args Fn.a_init.params [(V.ref (Tag.aig,s):Vl)]=l0
 have e1:l0 .self=some (.ref (.aig,s)):=by rw [<-hl0];rfl
 refine Ed9 ?_
 refine J' (es:=.cons .none .nil) (vs:=[.none]) hK rfl ⟨by decide,(.nodes,s),hf _ (by simp),_,e1,(.aig,s),.aig,_,rfl,(B2 (C6 rfl)).trans hs,rfl,?_⟩
 refine Ac0 hK e1 D2 rfl (.inputs,s) (by simp [Hp.set,hf]) ?_
 refine Ac0 hK e1 D2 rfl (.outputs,s) (by simp [Hp.set,hf]) ?_
 refine Ed9 ?_
 refine ⟨(.table,s),by simp [Hp.set,hf],_,e1,(.aig,s),.aig,_,rfl,(B2 (C6 rfl)).trans D2,rfl,?_⟩
 refine C0 (q _ ⟨?_,?_,?_,?_⟩ λg j hj=>?_)
 ·refine D2.trans ?_
  congr 2;funext b;cases b <;> first | contradiction | rfl
 ·simp [Hp.set,U3,gr0,ndV]
 ·simp [Hp.set,inL,E8]
 ·simp [Hp.set,gr0]
 ·simp [Hp.set,hj]
theorem Bi2 {k:Nat} {H:Hq} {j n:Nat} (A:Av H j n (gr0 n)) (hn:n<100) {Q:Vl->Hq->Prop}
  (q:∀H',Av H' j (n+1) (gr0 (n+1))->(∀m,m≠(Tag.nodes,j)->m≠(Tag.inputs,j)->H' m=H m)->∀i:Int,Q (.int i) H'):C9 (k+2) .add_input [.ref (.aig,j)] Q H:=by
 have hK:=C7 k
 refine D0 rfl ?_
 show C2 (C9 (k+1)) Ad1 _ _ _
 generalize hl0:Lc.args Fn.add_input.params [(V.ref (Tag.aig,j):Vl)]=l0
 have e1:l0 .self=some (.ref (.aig,j)):=by rw [<-hl0];rfl
 refine J2 hK (v:=.int ((n+1:Nat):Int)) ?_ ?_
 ·rw [W3 (M9 A (e:=.var .self) e1 .nodes) A.nodes (by rw [E3];simp [gr0];exact o394 hn (by decide)),E3]
  simp [gr0]
 refine I9 (n:=(.nodes,j)) (v:=.none) hK (M9 A (e:=.var .self) (l:=l0.set .node (.int ((n+1:Nat):Int))) e1 .nodes) A.nodes rfl (by rw [E3];simp [gr0];exact o394 hn (by decide)) ?_
 have A1:Av (H.set (.nodes,j) (.list (U3 (gr0 n).g++[.none]))) j n ⟨(gr0 (n+1)).g,[]⟩:=by
  refine ⟨(B2 (C6 rfl)).trans A.self,?_,(B2 (C6 rfl)).trans A.inputs,(B2 (C6 rfl)).trans A.table⟩
  rw [D2]
  congr 2
  show (List.replicate (n+1) none).map ndV++[V.none]=(List.replicate (n+1+1) none).map ndV
  rw [List.replicate_succ' (n:=n+1),List.map_append];rfl
 refine I9 (n:=(.inputs,j)) (v:=.int ((n+1:Nat):Int)) (e:=.var .node) hK (M9 A1 (e:=.var .self) (l:=l0.set .node (.int ((n+1:Nat):Int))) e1 .inputs) A1.inputs rfl (by simp [inL,E8];exact o96 hn (by decide)) ?_
 refine M3 hK (v:=.int ((2*(n+1):Nat):Int)) ((D8 (a:=.int 2) (b:=.var .node) (x:=2) (y:=((n+1:Nat):Int)) rfl rfl).trans (Ac2 (n+1))) (q _ ⟨(B2 (C6 rfl)).trans A1.self,(B2 (C6 rfl)).trans A1.nodes,?_,(B2 (C6 rfl)).trans A1.table⟩ (λm h1 h2=>?_) _)
 ·rw [D2]
  congr 2
  unfold inL E8
  rw [List.range_succ,List.map_append,List.map_append];rfl
 ·rw [B2 h2,B2 h1]
section rules
variable {K:Calls G9} {H:Hq} {l:Lq} {ss:Ss} {Q:Fl G9->Lq->Hq->Prop}
theorem c_set2 {x y:Vr} {e:E} {a b:Vl} (hK:D5 K) (he:pE H l e=some (.tup [a,b])) (q:C2 K ss Q ((l.set x a).set y b) H):C2 K (.cons (.set2 x y e) ss) Q l H:=
 D3 (e:=e) hK he ⟨a,b,rfl,q⟩
theorem Ac9 {elt:E} {x:Vr} {args:Es} {cond:Cs} {R:Vl->Hq->Prop} {vs:List Vl} {a b c:Int} (hK:D5 K) (he:c9 H l args=some vs) (hr:Ad5 vs=some (a,b,c)) (hb: -1000000<a/\a<1000000 /\ -1000000<b/\b<1000000/\(c=1\/c = -1)) (I:Nat->List Vl->Hq->Prop) (h0:I 0 [] H)
  (hI:∀i acc H2,I i acc H2->acc.length<1000000/\((Mine.Internal.rangeInts a b c)[i]? = none->∃m,H2 m=none/\R (.ref m) (H2.set m (.list acc))) /\
   ∀v,(Mine.Internal.rangeInts a b c)[i]? = some v->W1 K cond (l.set x (.int v)) (λb H3=>if b then O0 K elt (l.set x (.int v)) (λr H4=>I (i+1) (acc++[r]) H4) H3 else I (i+1) acc H3) H2):O0 K (.comp elt x (.range args) cond) l R H:=by
 refine J' (es:=args) hK he ⟨a,b,c,hr,hb,I,h0,λi acc H2 h=>⟨trivial,(hI i acc H2 h).1,?_⟩⟩
 have h2:=(hI i acc H2 h).2
 cases hx:(Mine.Internal.rangeInts a b c)[i]? with
 | none=>rw [List.getElem?_map,hx];exact h2.1 hx
 | some v=>rw [List.getElem?_map,hx];exact h2.2 v hx
theorem w_and1 {c:C} {r:Bool} {R:Bool->Hq->Prop} (hK:D5 K) (h:pC H l c=some r) (q:R r H):W1 K (.cons c .nil) l R H:=by
 refine r8 (c:=c) hK h ?_
 cases r with
 | true=>rw [if_pos rfl];exact q
 | false=>rw [if_neg (by decide)];exact q
theorem c_retW {e:E} (q:O0 K e l (λv H1=>Q (.ret v) l H1) H):C2 K (.cons (.ret e) ss) Q l H:=q
theorem Df9 {f:Fn} {args:Es} {t:Tg} {b:Ss} {vs:List Vl} (hK:D5 K) (ha:c9 H l args=some vs)
  (q:∀R:Vl->Hq->Prop,(∀H1 n xs,H1 n=some (.list xs)->(∃I:Nat->Lq->Hq->Prop,I 0 l H1/\∀i l2 H2,I i l2 H2->H2 n=some (.list xs)/\(xs[i]? = none->C2 K ss Q l2 H2) /\
   ∀v,xs[i]? = some v->∃l3,m7 t v l2=some l3/\C2 K b (d9 (λl4 H4=>I (i+1) l4 H4) (M0 K ss Q)) l3 H2)->R (.ref n) H1)->K f vs R H):
  C2 K (.cons (.for_ t (.seq (.call f args)) b) ss) Q l H:=by
 refine J' (es:=args) hK ha (q _ ?_)
 intro H1 n xs hn q_
 exists C1 q_ λI B3=>B7 B3 λh0 hI=>B5 ?_
 clear q_
 refine Or.inl ⟨xs,hn,I,h0,λi l2 H2 h=>⟨(hI i l2 H2 h).1,?_⟩⟩
 have h2:=(hI i l2 H2 h).2
 cases hx:xs[i]? with
 | none=>exact h2.1 hx
 | some v=>exact h2.2 v hx
theorem Bf2 {f:Fn} {args:Es} {x:Vr} (hK:D5 K)
  (q:∀R:Vl->Hq->Prop,(∀H1 n w xs m,H1 n=some (.list xs)->xs.length<1000000->H1 m=none->C2 K ss Q (l.set x (.ref m)) (H1.set m (.list xs))->R (.tup [.ref n,w]) H1)->Q' K args l (λvs H1=>K f vs R H1) H):
  C2 K (.cons (.set x (.bi .list (.sub (.call f args) (.int 0)))) ss) Q l H:=by
 refine q _ ?_
 intro H1 n w xs m hn hl hm q'
 exact ⟨.ref n,by decide,by decide,rfl,xs,hn,hl,m,hm,q'⟩
theorem Ad3 {o:E} {f:Fn} {args:Es} {n:G9} {xs:List Vl} {vs:List Vl} (hK:D5 K) (ho:pE H l o=some (.ref n)) (hn:H n=some (.list xs)) (ha:c9 H l args=some vs) (hl:xs.length<1000000)
  (q:∀R:Vl->Hq->Prop,(∀v,C2 K ss Q l (H.set n (.list (xs++[.tup [v]])))->R v H)->K f vs R H):
  C2 K (.cons (.expr (.bm .append o (.cons (.tup (.cons (.call f args) .nil)) .nil))) ss) Q l H:=by
 refine D3 (e:=o) hK ho ⟨⟨xs,hn⟩,J' (es:=args) hK ha (q _ ?_)⟩
 intro v q'
 exact ⟨by simp,xs,hn,hl,trivial,q'⟩
end rules
theorem Af4 {a:Int} (h:0<=a) {i:Nat}:(Mine.Internal.rangeInts a 0 (-1))[i]? = if (i:Int)<a then some (a-i) else none:=by
 have hs:Builtin.Range.rangeSize a 0 (-1)=a:=by
  unfold Builtin.Range.rangeSize
  rw [if_neg (show ¬((-1:Int)>0) by decide)]
  have h1:(-(-1):Int)=1:=rfl
  rw [h1,Int.ediv_one]
  split <;> (first | exact o395 | exact o396 h ‹_›)
 rw [Mine.Internal.rangeInts_get,hs]
 by_cases h2:(i:Int)<a
 ·rw [if_pos h2,if_pos (o397 h2)];congr 1;rw [Int.mul_neg,Int.mul_one];rfl
 ·rw [if_neg h2,if_neg (o399 h2)]
structure Cone (g:Gt) (lit:Nat) (Cn:Nat->Bool):Prop where
 top:Cn (lit/2)=true
 fan:∀i l r,Cn i=true->g[i]? = some (some (l,r))->Cn (l/2)=true/\Cn (r/2)=true
 bnd:∀i,Cn i=true->i<g.length
 least:∀P:Nat->Prop,P (lit/2)->(∀i l r,P i->g[i]? = some (some (l,r))->P (l/2)/\P (r/2))->∀i,Cn i=true->P i
structure Scan (g:Gt) (lit:Nat) (at_:Nat) (f:Nat->Bool):Prop where
 top:f (lit/2)=true
 fan:∀i l r,at_<=i->f i=true->g[i]? = some (some (l,r))->f (l/2)=true/\f (r/2)=true
 bnd:∀i,f i=true->i<g.length
 least:∀P:Nat->Prop,P (lit/2)->(∀i l r,P i->g[i]? = some (some (l,r))->P (l/2)/\P (r/2))->∀i,f i=true->P i
theorem K7 {f:Nat->Bool} {k i:Nat}:N3 f k true i=true↔i=k\/f i=true:=by
 unfold N3
 by_cases h:i=k
 ·simp [h]
 ·simp [h]
theorem Scan.skip {g:Gt} {lit a:Nat} {f:Nat->Bool} (S:Scan g lit (a+1) f) (h:f a=false\/g[a]? = some none):Scan g lit a f:=by
 refine ⟨S.top,λi l r hi hf e=>?_,S.bnd,S.least⟩
 rcases Nat.lt_or_ge a i with h' | h'
 ·exact S.fan i l r h' hf e
 ·have:i=a:=o400 hi h'
  subst this
  rcases h with h | h
  ·rw [h] at hf;cases hf
  ·rw [h] at e;cases e
theorem Scan.mark {g:Gt} {lit a l r:Nat} {f:Nat->Bool} (S:Scan g lit (a+1) f) (hf:f a=true) (e:g[a]? = some (some (l,r))) (hl:l/2<a) (hr:r/2<a):Scan g lit a (N3 (N3 f (l/2) true) (r/2) true):=by
 have hal:=(List.getElem?_eq_some_iff.mp e).1
 have up:∀i,f i=true->N3 (N3 f (l/2) true) (r/2) true i=true:=λi h=>K7.mpr (.inr (K7.mpr (.inr h)))
 refine ⟨up _ S.top,λi l' r' hi h e'=>?_,λi h=>?_,λP p0 pc i h=>?_⟩
 ·have hfi:f i=true:=by
   rcases K7.mp h with h | h
   ·exact o401 hr hi h
   ·rcases K7.mp h with h | h
    ·exact o401 hl hi h
    ·exact h
  rcases Nat.lt_or_ge a i with h' | h'
  ·refine B7 (S.fan i l' r' h' hfi e') λa1 a2=>?_
   exact ⟨up _ a1,up _ a2⟩
  ·have:i=a:=o400 hi h'
   subst this
   rw [e] at e';cases e'
   exact ⟨K7.mpr (.inr (K7.mpr (.inl rfl))),K7.mpr (.inl rfl)⟩
 ·rcases K7.mp h with h | h
  ·exact o402 h hr hal
  ·rcases K7.mp h with h | h
   ·exact o402 h hl hal
   ·exact S.bnd i h
 ·have pa:=pc a l r (S.least P p0 pc a hf) e
  rcases K7.mp h with h | h
  ·rw [h];exact pa.2
  ·rcases K7.mp h with h | h
   ·rw [h];exact pa.1
   ·exact S.least P p0 pc i h
theorem Scan.done {g:Gt} {lit:Nat} {f:Nat->Bool} (S:Scan g lit 1 f) (h0:g[0]? = some none):Cone g lit f:=
 ⟨S.top,λi l r hf e=>(S.skip (a:=0) (.inr h0)).fan i l r (Nat.zero_le _) hf e,S.bnd,S.least⟩
def Fr (H:Hq) (tk:Nat):Prop:=∀t i,tk<=i->H (t,i)=none
theorem Fr.lt {H:Hq} {tk:Nat} (F:Fr H tk) {t:Tag} {i:Nat} {o:Ob} (h:H (t,i)=some o):i<tk:=by
 rcases Nat.lt_or_ge i tk with h' | h'
 ·exact h'
 ·rw [F t i h'] at h;cases h
theorem k_cone {k:Nat} {H:Hq} {j ni:Nat} {G:Gr} (A:Av H j ni G) (K:u6 ni G) (hs:G.g.length<500) {lit tk:Nat} (hlit:lit<2*G.g.length) {lm:G9} (hm:H lm=some (.list [.int (lit:Nat)])) (F:Fr H tk) {Q:Vl->Hq->Prop}
  (q:∀H' Cn,Cone G.g lit Cn->H' (.cone,tk)=some (.list (E8 ((List.range G.g.length).filter Cn)))->(∀m,m≠(Tag.used,tk)->m≠(Tag.cone,tk)->H' m=H m)->Q (.ref (.cone,tk)) H'):
  C9 (k+3) .cone_nodes [.ref (.aig,j),.ref lm] Q H:=by
 have hK:=C7 (k+1)
 have hpos:0<G.g.length:=Nat.lt_of_le_of_lt (Nat.zero_le _) K.pos
 refine D0 rfl ?_
 show C2 (C9 (k+2)) Aa8 _ _ _
 generalize hl0:Lc.args Fn.cone_nodes.params [(V.ref (Tag.aig,j):Vl),V.ref lm]=l0
 have e1:l0 .aig=some (.ref (.aig,j)):=by rw [<-hl0];rfl
 have e2:l0 .literals=some (.ref lm):=by rw [<-hl0];rfl
 have lenE:∀{H':Hq} {l':Lq},Av H' j ni G->l' .aig=some (.ref (.aig,j))->pE H' l' (.bi .len (.attr (.var .aig) .nodes))=some (.int (G.g.length:Nat)):=λA' h=>by
  rw [W3 (M9 A' (e:=.var .aig) h .nodes) A'.nodes (by rw [E3];exact o96 hs (by decide)),E3]
 refine Aa4 hK (v:=.bool false) (k:=(G.g.length:Nat)) rfl (lenE A e1) o73 (o403 hs (by decide)) trivial (.used,tk) (F _ _ (Nat.le_refl _)) ?_
 have eu:List.replicate (((G.g.length:Nat):Int)).toNat (V.bool false:Vl)=U1 (G.g.length-1) λ_=>false:=by
  rw [<-Cb0,show G.g.length-1+1=G.g.length by exact o404 hpos,show (((G.g.length:Nat):Int)).toNat=G.g.length by exact o77]
 rw [eu]
 have hlm:lm≠(.used,tk):=by rintro rfl;rw [F _ _ (Nat.le_refl _)] at hm;cases hm
 have keepA:∀f,Av (H.set (.used,tk) (.list (U1 (G.g.length-1) f))) j ni G:=λf=>⟨(B2 (C6 rfl)).trans A.self,(B2 (C6 rfl)).trans A.nodes,(B2 (C6 rfl)).trans A.inputs,(B2 (C6 rfl)).trans A.table⟩
 refine V8 (e:=.var .literals) (n:=lm) (xs:=[.int (lit:Nat)]) hK e2 ((B2 hlm).trans hm)
  (λi l2 H2=>i<=1/\l2 .aig=some (.ref (.aig,j))/\l2 .used=some (.ref (.used,tk))/\H2=H.set (.used,tk) (.list (U1 (G.g.length-1) (if i=0 then λ_=>false else N3 (λ_=>false) (lit/2) true)))) ⟨Nat.zero_le _,e1,rfl,rfl⟩ ?_
 intro i l2 H2 q_
 refine R7 q_ λhi a1 a2 C'=>?_
 clear q_
 subst C'
 refine ⟨(B2 hlm).trans hm,λhend=>?_,λv hv=>?_⟩
 rotate_left
 ·have hi0:i=0:=by
   have:=(List.getElem?_eq_some_iff.mp hv).1
   simp at this;exact this
  subst hi0
  cases hv
  refine ⟨l2.set .literal (.int (lit:Nat)),rfl,?_⟩
  refine K5 (k:=((lit/2:Nat):Int)) hK (v:=.bool true) rfl (n:=(.used,tk)) a2 (Ad6 (e:=.var .literal) rfl) D2 o73 (by rw [N5];exact o405 hlit) (by rw [N5];exact o406 hs (by decide)) ?_
  rw [show (((lit/2:Nat):Int)).toNat=lit/2 by exact o77,Aa9,u8]
  exact C0 ⟨Nat.le_refl _,a1,a2,rfl⟩
 have hi1:i=1:=by
  rw [List.getElem?_eq_none_iff] at hend
  simp at hend;exact o407 hend hi
 subst hi1
 rw [if_neg (by decide)]
 have rE:c9 (H.set (.used,tk) (.list (U1 (G.g.length-1) (N3 (λ_=>false) (lit/2) true)))) l2 (.cons (.bin .sub (.bi .len (.attr (.var .aig) .nodes)) (.int 1)) (.cons (.int 0) (.cons (.neg (.int 1)) .nil)))=some [.int ((G.g.length-1:Nat):Int),.int 0,.int (-1)]:=by
  refine B9 ?_ rfl
  rw [D8 (b:=.int 1) (x:=(G.g.length:Nat)) (y:=1) (lenE (keepA _) a1) rfl]
  show some (V.int ((G.g.length:Int)-1))=_
  rw [show ((G.g.length:Int)-1)=((G.g.length-1:Nat):Int) by exact o408 hpos]
 have scan0:Scan G.g lit (G.g.length-1+1) (N3 (λ_=>false) (lit/2) true):=by
  refine ⟨K7.mpr (.inl rfl),λi l r hi hf e=>?_,λi h=>?_,λP p0 pc i h=>?_⟩
  ·have:=(List.getElem?_eq_some_iff.mp e).1;exact o409 hi this
  ·rcases K7.mp h with h | h
   ·exact o410 h hlit
   ·cases h
  ·rcases K7.mp h with h | h
   ·rw [h];exact p0
   ·cases h
 refine P5 hK rE rfl (o411 hs (by decide)) (λi l3 H3=>i<=G.g.length-1/\l3 .aig=some (.ref (.aig,j))/\l3 .used=some (.ref (.used,tk))/\∃f,H3=H.set (.used,tk) (.list (U1 (G.g.length-1) f))/\Scan G.g lit (G.g.length-1-i+1) f) ⟨Nat.zero_le _,a1,a2,_,rfl,scan0⟩ ?_
 intro i l3 H3 q_
 exists R7 q_ λhi3 b1 b2 B3=>C1 B3 λf C5=>B7 C5 λC' S=>B5 ?_
 clear C5 q_
 subst C'
 constructor
 ·intro hend2
  rw [Af4 o73] at hend2
  have hie:i=G.g.length-1:=by
   split at hend2
   ·cases hend2
   ·exact o412 hi3 ‹_›
  rw [hie,Nat.sub_self] at S
  have C:=S.done (K.nn 0 (Nat.zero_le _))
  refine c_retW (Ac9 hK (B9 (lenE (keepA f) b1) rfl) rfl (o413 hs (by decide)) (λi acc H4=>i<=G.g.length/\acc=E8 ((List.range i).filter f)/\H4=H.set (.used,tk) (.list (U1 (G.g.length-1) f))) ⟨Nat.zero_le _,rfl,rfl⟩ ?_)
  intro i acc H4 q_
  refine E6 q_ λhi4 C' U5=>?_
  clear q_
  subst C'
  subst U5
  refine ⟨?_,λhend3=>?_,λv hv=>?_⟩
  ·rw [G8]
   have:=List.length_filter_le f (List.range i)
   rw [List.length_range] at this;exact o414 this hi4 hs (by decide)
  ·rw [G7] at hend3
   have hie:i=G.g.length:=by
    split at hend3
    ·cases hend3
    ·exact o173 hi4 ‹_›
   subst hie
   refine ⟨(.cone,tk),(B2 (C6 rfl)).trans (F _ _ (Nat.le_refl _)),q _ f C D2 λm h1 h2=>?_⟩
   rw [B2 h2,B2 h1]
  ·rw [G7] at hv
   split at hv
   ·rename_i hlt
    cases hv
    have gu:=Ad8 (H:=H.set (.used,tk) (.list (U1 (G.g.length-1) f))) (l:=l3.set .node (.int (0+(i:Int)))) (e:=.var .used) (i:=.var .node) (k:=i) b2 (by show some (V.int (0+(i:Int)))=_;rw [Int.zero_add]) D2 (o415 hlt) (o416 hs (by decide))
    have cu:=N0 gu
    refine w_and1 hK cu ?_
    cases hf:f i with
    | true=>
     rw [if_pos rfl]
     refine ⟨_,rfl,o172 hlt,?_,rfl⟩
     rw [List.range_succ,List.filter_append,List.filter_cons_of_pos hf]
     show E8 _++[V.int (0+(i:Int))]=_
     rw [Int.zero_add,M7];rfl
    | false=>
     rw [if_neg (by decide)]
     refine ⟨o172 hlt,?_,rfl⟩
     rw [List.range_succ,List.filter_append,List.filter_cons_of_neg (by rw [hf];decide)];simp
   ·cases hv
 ·intro v hv
  rw [Af4 o73] at hv
  split at hv
  ·rename_i hlt
   cases hv
   have hn0:G.g.length-1-i<G.g.length:=o417 hlit
   have hng:G.g[G.g.length-1-i]? = some G.g[G.g.length-1-i]:=List.getElem?_eq_getElem hn0
   have hni:1<=G.g.length-1-i:=o418 hlt
   have ev:(((G.g.length-1:Nat):Int)-(i:Int))=((G.g.length-1-i:Nat):Int):=o419 hni
   rw [ev]
   have hnext:G.g.length-1-(i+1)+1=G.g.length-1-i:=o420 hni
   generalize hnn:G.g.length-1-i=nd at *
   generalize hgo:G.g[nd]=o at hng
   refine ⟨l3.set .node (.int (nd:Nat)),rfl,?_⟩
   have gu:=Ad8 (H:=H.set (.used,tk) (.list (U1 (G.g.length-1) f))) (l:=l3.set .node (.int (nd:Nat))) (e:=.var .used) (i:=.var .node) (k:=nd) b2 rfl D2 (o421 ev) (o416 hs (by decide))
   refine w6 ?_
   cases hf:f nd with
   | false=>
    refine Dg9 hK (by rw [N0 gu,hf]) ?_
    rw [if_neg (by decide)]
    exact C0 (B6 (C0 ⟨o422 hlt,b1,b2,f,rfl,by rw [hnext];exact S.skip (.inl hf)⟩))
   | true=>
    refine Dg8 hK (by rw [N0 gu,hf]) ?_
    refine Ba2 (o:=.var .aig) (n:=(.aig,j)) (vs:=[.int (nd:Nat)]) hK b1 (keepA f).self rfl (B9 (e:=.var .node) rfl rfl) ?_
    refine Bi0 (k:=k) (keepA f) hs hng ?_
    refine tr_B ?_
    cases o with
    | none=>
     rw [if_neg (by decide),if_neg (by decide)]
     exact C0 (B6 (C0 ⟨o422 hlt,b1,b2,f,rfl,by rw [hnext];exact S.skip (.inr hng)⟩))
    | some p=>
     obtain ⟨l,r⟩:=p
     refine E6 (K.ok _ _ _ hng) λk1 k2 _=>?_
     rw [if_pos (show (some (l,r)).isSome=true from rfl),if_pos rfl]
     have gnd:pE (H.set (.used,tk) (.list (U1 (G.g.length-1) f))) (l3.set .node (.int (nd:Nat))) (.sub (.attr (.var .aig) .nodes) (.var .node))=some (.tup [.int (l:Nat),.int (r:Nat)]):=by
      rw [J4 (k:=((nd:Nat):Int)) (M9 (keepA f) (e:=.var .aig) (l:=l3.set .node (.int (nd:Nat))) b1 .nodes) rfl (keepA f).nodes,k8 hng (o96 hs (by decide))];rfl
     refine c_set2 hK gnd ?_
     refine K5 (k:=((l/2:Nat):Int)) hK (v:=.bool true) rfl (n:=(.used,tk)) b2 (Ad6 (e:=.var .left) rfl) D2 o73 (by rw [N5];exact o423 hnext k1) (by rw [N5];exact Nat.le_of_lt (Nat.lt_of_le_of_lt (Nat.le_of_eq (Nat.sub_add_cancel hpos)) (Nat.lt_trans hs (by decide)))) ?_
     rw [show (((l/2:Nat):Int)).toNat=l/2 by exact o77,Aa9,u8]
     refine K5 (k:=((r/2:Nat):Int)) hK (v:=.bool true) rfl (n:=(.used,tk)) b2 (Ad6 (e:=.var .right) rfl) D2 o73 (by rw [N5];exact o423 hnext k2) (by rw [N5];exact Nat.le_of_lt (Nat.lt_of_le_of_lt (Nat.le_of_eq (Nat.sub_add_cancel hpos)) (Nat.lt_trans hs (by decide)))) ?_
     rw [show (((r/2:Nat):Int)).toNat=r/2 by exact o77,Aa9,u8]
     exact C0 (B6 (C0 ⟨o422 hlt,b1,b2,_,rfl,by rw [hnext];exact S.mark hf hng k1 k2⟩))
  ·cases hv
noncomputable def ncl (g:Gt) (i:Nat):List (List Int):=
 if i=0 then [[-1]] else match g[i]? with
  | some (some (l,r))=>[[-((i+1:Nat):Int),zl l],[-((i+1:Nat):Int),zl r],[((i+1:Nat):Int),-zl l,-zl r]]
  | _=>[]
noncomputable def P4 (g:Gt) (Cn:Nat->Bool):List Nat:=(List.range g.length).filter Cn
noncomputable def cnfL (g:Gt) (Cn:Nat->Bool) (lit:Nat):List (List Int):=(P4 g Cn).flatMap (ncl g)++[[zl lit]]
def OldF (tk:Nat) (H H':Hq):Prop:=∀m:G9,m.2<tk->H' m=H m
theorem OldF.trans {tk:Nat} {H H1 H2:Hq} (a:OldF tk H H1) (b:OldF tk H1 H2):OldF tk H H2:=λm h=>(b m h).trans (a m h)
theorem OldF.mono {tk tk':Nat} {H H':Hq} (a:OldF tk H H') (h:tk'<=tk):OldF tk' H H':=λm hm=>a m (o164 hm h)
theorem OldF.set {tk:Nat} {H:Hq} {t:Tag} {i:Nat} {o:Ob} (h:tk<=i):OldF tk H (H.set (t,i) o):=λm hm=>B2 (by rintro rfl;simp at hm;exact o244 hm h)
theorem Fr.set {H:Hq} {tk tk':Nat} (F:Fr H tk) {t:Tag} {i:Nat} {o:Ob} (h:i<tk') (h2:tk<=tk'):Fr (H.set (t,i) o) tk':=λt' i' hi=>(B2 (by intro e;cases e;exact o244 h hi)).trans (F t' i' (o10 h2 hi))
theorem Fr.mono {H:Hq} {tk tk':Nat} (F:Fr H tk) (h:tk<=tk'):Fr H tk':=λt i hi=>F t i (o10 h hi)
theorem Av.old {H H':Hq} {j ni tk:Nat} {G:Gr} (A:Av H j ni G) (h:j<tk) (O:OldF tk H H'):Av H' j ni G:=⟨(O _ h).trans A.self,(O _ h).trans A.nodes,(O _ h).trans A.inputs,(O _ h).trans A.table⟩
section rules
variable {K:Calls G9} {H:Hq} {l:Lq} {ss:Ss} {Q:Fl G9->Lq->Hq->Prop}
theorem Df8 {o:E} {m:Fn} {args:Es} {n:G9} {k:Kl} {f:At->Option Vl} {vs:List Vl} {t u:Ss} (hK:D5 K) (ho:pE H l o=some (.ref n)) (hn:H n=some (.inst k f)) (hk:m.kl=some k) (ha:c9 H l args=some vs)
  (q:K m (.ref n::vs) (λv H1=>Ae9 H1 v λb=>if b=true then C2 K t (M0 K ss Q) l H1 else C2 K u (M0 K ss Q) l H1) H):C2 K (.cons (.ite (.val (.meth o m args)) t u) ss) Q l H:=
 D3 (e:=o) hK ho ⟨n,k,f,rfl,hn,hk,J' (es:=args) hK ha q⟩
theorem Bc9 {es:Es} {vs:List Vl} (ha:c9 H l es=some vs) (hl:vs.length<1000000):pE H l (.tup es)=some (.tup vs):=(b1 _ ha).trans (if_pos hl)
theorem t8 {e i:E} {vs:List Vl} {k:Int} {v:Vl} (he:pE H l e=some (.tup vs)) (hi:pE H l i=some (.int k)) (h:i5 vs k=some v):pE H l (.sub e i)=some v:=(Bd0 he hi).trans h
end rules
theorem R0 (cs:List (List Int)) (c:List Int):Q6 cs++[V.tup (C8 c)]=Q6 (cs++[c]):=by unfold Q6;rw [List.map_append];rfl
theorem P7 (cs:List (List Int)):(Q6 cs).length=cs.length:=by simp [Q6]
theorem ncl_len (g:Gt) (i:Nat):(ncl g i).length<=3:=by
 unfold ncl
 split
 ·simp
 ·split <;> simp
theorem Ah8 (g:Gt) (xs:List Nat):(xs.flatMap (ncl g)).length<=3*xs.length:=by
 induction xs with
 | nil=>simp
 | cons x xs ih=>
  rw [List.flatMap_cons,List.length_append,List.length_cons]
  have:=ncl_len g x;exact o424 this ih
theorem k_cnf {k:Nat} {H:Hq} {j ni:Nat} {G:Gr} (A:Av H j ni G) (K:u6 ni G) (hs:G.g.length<200) {lit tk:Nat} (hlit:lit<2*G.g.length) {lm:G9} (hm:H lm=some (.list [.int (lit:Nat)])) (F:Fr H tk) {Q:Vl->Hq->Prop}
  (q:∀H' Cn w,Cone G.g lit Cn->H' (.clsL,tk)=some (.list (Q6 ((P4 G.g Cn).flatMap (ncl G.g))))->OldF tk H H'->Fr H' (tk+2)->Q (.tup [.ref (.clsL,tk),w]) H'):
  C9 (k+4) .aig_cnf [.ref (.aig,j),.ref lm] Q H:=by
 have hK:=C7 (k+2)
 have hpos:0<G.g.length:=Nat.lt_of_le_of_lt (Nat.zero_le _) K.pos
 have hj:=F.lt A.self
 have hlm:lm.2<tk:=F.lt (t:=lm.1) (i:=lm.2) hm
 refine D0 rfl ?_
 show C2 (C9 (k+3)) Bb7 _ _ _
 generalize hl0:Lc.args Fn.aig_cnf.params [(V.ref (Tag.aig,j):Vl),V.ref lm]=l0
 have e1:l0 .aig=some (.ref (.aig,j)):=by rw [<-hl0];rfl
 have e2:l0 .literals=some (.ref lm):=by rw [<-hl0];rfl
 refine T0 hK (vs:=[]) rfl (by decide) (.clsL,tk) (F _ _ (Nat.le_refl _)) ?_
 have O1:OldF tk H (H.set (.clsL,tk) (.list [])):=OldF.set (Nat.le_refl _)
 have A1:=A.old hj O1
 refine Aa4 hK (v:=.int 0) (k:=(G.g.length:Nat)) rfl ?_ o73 (o403 hs (by decide)) trivial (.vars,tk) ((B2 (C6 rfl)).trans (F _ _ (Nat.le_refl _))) ?_
 ·rw [W3 (M9 A1 (e:=.var .aig) (l:=l0.set .clauses (.ref (.clsL,tk))) e1 .nodes) A1.nodes (by rw [E3];exact o96 hs (by decide)),E3]
 have ev:List.replicate (((G.g.length:Nat):Int)).toNat (V.int 0:Vl)=T4 (G.g.length-1) λ_=>0:=by
  rw [<-m8,show G.g.length-1+1=G.g.length by exact o404 hpos,show (((G.g.length:Nat):Int)).toNat=G.g.length by exact o77]
 rw [ev]
 have O2:=O1.trans (OldF.set (H:=H.set (.clsL,tk) (.list [])) (t:=.vars) (o:=.list (T4 (G.g.length-1) λ_=>0)) (Nat.le_refl tk))
 have F2:Fr ((H.set (.clsL,tk) (.list [])).set (.vars,tk) (.list (T4 (G.g.length-1) λ_=>0))) (tk+1):=(F.set (Nat.lt_succ_self tk) (Nat.le_succ tk)).set (Nat.lt_succ_self tk) (Nat.le_refl _)
 have A2:=A.old hj O2
 have hc2:((H.set (.clsL,tk) (.list [])).set (.vars,tk) (.list (T4 (G.g.length-1) λ_=>0))) (.clsL,tk)=some (.list []):=(B2 (C6 rfl)).trans D2
 have hv2:((H.set (.clsL,tk) (.list [])).set (.vars,tk) (.list (T4 (G.g.length-1) λ_=>0))) (.vars,tk)=some (.list (T4 (G.g.length-1) λ_=>0)):=D2
 generalize hH2:(H.set (.clsL,tk) (.list [])).set (.vars,tk) (.list (T4 (G.g.length-1) λ_=>0))=H2 at O2 F2 A2 hc2 hv2
 refine Df9 (vs:=[.ref (.aig,j),.ref lm]) hK (B9 (e:=.var .aig) e1 (B9 (e:=.var .literals) e2 rfl)) λR hR=>?_
 refine k_cone (k:=k) A2 K (o96 hs (by decide)) hlit ((O2 lm hlm).trans hm) F2 λH3 Cn C h3 f3=>?_
 have h3:H3 (.cone,tk+1)=some (.list (E8 (P4 G.g Cn))):=h3
 have O3:OldF tk H H3:=λm hm=>(f3 m (by rintro rfl;simp at hm;exact o425 hm) (by rintro rfl;simp at hm;exact o425 hm)).trans (O2 m hm)
 have F3:Fr H3 (tk+2):=λt i hi=>(f3 _ (by intro e;cases e;exact o426 hi) (by intro e;cases e;exact o426 hi)).trans (F2 t i (o427 hi))
 have hxl:(P4 G.g Cn).length<=G.g.length:=by
  have:=List.length_filter_le Cn (List.range G.g.length)
  rw [List.length_range] at this;exact this
 refine hR H3 _ _ h3 ⟨λi l2 H4=>l2 .aig=some (.ref (.aig,j))/\l2 .clauses=some (.ref (.clsL,tk))/\l2 .variables=some (.ref (.vars,tk))/\∃w,H4 (.clsL,tk)=some (.list (Q6 (((P4 G.g Cn).take i).flatMap (ncl G.g))))/\H4 (.vars,tk)=some (.list (T4 (G.g.length-1) w)) /\
   ∀m,m≠(Tag.clsL,tk)->m≠(Tag.vars,tk)->H4 m=H3 m,⟨e1,rfl,rfl,_,(f3 _ (C6 rfl) (C6 rfl)).trans hc2,(f3 _ (C6 rfl) (C6 rfl)).trans hv2,λ_ _ _=>rfl⟩,?_⟩
 intro i l2 H4 q_
 exists R7 q_ λa1 a2 a3 B3=>C1 B3 λw C5=>E6 C5 λhc4 hv4 f4=>B5 ?_
 clear C5 q_
 have O4:OldF tk H H4:=λm hm=>(f4 m (by rintro rfl;simp at hm) (by rintro rfl;simp at hm)).trans (O3 m hm)
 have A4:=A.old hj O4
 refine ⟨(f4 _ (C6 rfl) (C6 rfl)).trans h3,λhend=>?_,λv hv=>?_⟩
 ·rw [List.getElem?_eq_none_iff,G8] at hend
  rw [List.take_of_length_le hend] at hc4
  refine M3 hK (v:=.tup [.ref (.clsL,tk),.ref (.vars,tk)]) (T2 (a:=.var .clauses) (b:=.var .variables) a2 a3) (q H4 Cn _ C hc4 O4 λt i hi=>?_)
  rw [f4 _ (by intro e;cases e;exact o428 hi) (by intro e;cases e;exact o428 hi)]
  exact F3 t i hi
 ·unfold E8 at hv
  rw [List.getElem?_map] at hv
  cases hu:(P4 G.g Cn)[i]? with
  | none=>rw [hu] at hv;cases hv
  | some nd=>
   rw [hu] at hv;cases hv
   have hnm:=List.mem_of_getElem? hu
   have hnl:nd<G.g.length:=List.mem_range.mp (List.mem_filter.mp hnm).1
   have hil:=(List.getElem?_eq_some_iff.mp hu).1
   have htake:(P4 G.g Cn).take (i+1)=(P4 G.g Cn).take i++[nd]:=by rw [List.take_add_one,hu];rfl
   have hlen:(((P4 G.g Cn).take i).flatMap (ncl G.g)).length<=3*i:=by
    have:=Ah8 G.g ((P4 G.g Cn).take i)
    rw [List.length_take] at this;exact o429 this
   have hnew:((P4 G.g Cn).take (i+1)).flatMap (ncl G.g)=((P4 G.g Cn).take i).flatMap (ncl G.g)++ncl G.g nd:=by rw [htake,List.flatMap_append];simp
   have hng:G.g[nd]? = some G.g[nd]:=List.getElem?_eq_getElem hnl
   generalize hgo:G.g[nd]=o at hng
   refine ⟨l2.set .node (.int (nd:Nat)),rfl,?_⟩
   refine J2 hK (v:=.int ((nd+1:Nat):Int)) (D8 (a:=.var .node) (x:=(nd:Int)) (y:=1) rfl rfl) ?_
   generalize hl5:(l2.set .node (.int (nd:Nat))).set .out (.int ((nd+1:Nat):Int))=l5
   have b1:l5 .aig=some (.ref (.aig,j)):=by rw [<-hl5];exact a1
   have b2:l5 .clauses=some (.ref (.clsL,tk)):=by rw [<-hl5];exact a2
   have b3:l5 .variables=some (.ref (.vars,tk)):=by rw [<-hl5];exact a3
   have b4:l5 .node=some (.int (nd:Nat)):=by rw [<-hl5];rfl
   have b5:l5 .out=some (.int ((nd+1:Nat):Int)):=by rw [<-hl5];rfl
   refine K5 (k:=((nd:Nat):Int)) hK (v:=.int ((nd+1:Nat):Int)) (e:=.var .out) b5 (o:=.var .variables) b3 (i:=.var .node) b4 hv4 o73 (by rw [E5];exact o430 hnl) (by rw [E5];exact o406 hs (by decide)) ?_
   rw [show (((nd:Nat):Int)).toNat=nd by exact o77,T3]
   generalize hw5:upd w nd ((nd+1:Nat):Int)=w5
   have hc5:(H4.set (.vars,tk) (.list (T4 (G.g.length-1) w5))) (.clsL,tk)=some (.list (Q6 (((P4 G.g Cn).take i).flatMap (ncl G.g)))):=(B2 (C6 rfl)).trans hc4
   have hv5:(H4.set (.vars,tk) (.list (T4 (G.g.length-1) w5))) (.vars,tk)=some (.list (T4 (G.g.length-1) w5)):=D2
   have f5:∀m,m≠(Tag.clsL,tk)->m≠(Tag.vars,tk)->(H4.set (.vars,tk) (.list (T4 (G.g.length-1) w5))) m=H3 m:=λm h1 h2=>(B2 h2).trans (f4 m h1 h2)
   have A5:Av (H4.set (.vars,tk) (.list (T4 (G.g.length-1) w5))) j ni G:=A4.old hj (OldF.set (Nat.le_refl _))
   generalize hH5:H4.set (.vars,tk) (.list (T4 (G.g.length-1) w5))=H5 at hc5 hv5 f5 A5
   have gneg:∀H' (l':Lq),l' .out=some (.int ((nd+1:Nat):Int))->pE H' l' (.neg (.var .out))=some (.int (-((nd+1:Nat):Int))):=λH' l' h=>Bd2 (e:=.var .out) h
   have fin:∀(cs:List (List Int)) (H':Hq) (l':Lq),l' .aig=some (.ref (.aig,j))->l' .clauses=some (.ref (.clsL,tk))->l' .variables=some (.ref (.vars,tk))->cs=ncl G.g nd->H' (.clsL,tk)=some (.list (Q6 (((P4 G.g Cn).take i).flatMap (ncl G.g)++cs)))->H' (.vars,tk)=some (.list (T4 (G.g.length-1) w5)) ->
     (∀m,m≠(Tag.clsL,tk)->m≠(Tag.vars,tk)->H' m=H3 m)->l' .aig=some (.ref (.aig,j))/\l' .clauses=some (.ref (.clsL,tk))/\l' .variables=some (.ref (.vars,tk))/\∃w,H' (.clsL,tk)=some (.list (Q6 (((P4 G.g Cn).take (i+1)).flatMap (ncl G.g))))/\H' (.vars,tk)=some (.list (T4 (G.g.length-1) w))/\∀m,m≠(Tag.clsL,tk)->m≠(Tag.vars,tk)->H' m=H3 m:=
    λcs H' l' h1 h2 h3 hcs hc hv hf=>⟨h1,h2,h3,w5,by rw [hnew,<-hcs];exact hc,hv,hf⟩
   have c0:=E0 (H:=H5) (op:=.eq) (b:=.int 0) (x:=(nd:Int)) (y:=0) (show pE H5 l5 (.var .node)=some (.int (nd:Nat)) from b4) rfl
   by_cases h0:nd=0
   ·refine G6 hK (by rw [c0,h0];rfl) ?_
    refine I9 (o:=.var .clauses) (v:=.tup (C8 [-1])) hK b2 hc5 ?_ (by rw [P7];exact o431 hlen hil hxl hs) ?_
    ·refine Bc9 (vs:=[.int (-1)]) (B9 ?_ rfl) (by decide)
     rw [gneg _ _ b5,h0];rfl
    rw [R0]
    exact C0 (B6 (C0 (fin [[-1]] _ l5 b1 b2 b3 (by unfold ncl;rw [if_pos h0]) D2 ((B2 (C6 rfl)).trans hv5) λm h1 h2=>(B2 h1).trans (f5 m h1 h2))))
   ·refine E9 hK (by rw [c0];show some ((nd:Int)==0)=_;simp;exact o8 h0) ?_
    refine Df8 (o:=.var .aig) (n:=(.aig,j)) (vs:=[.int (nd:Nat)]) hK b1 A5.self rfl (B9 (e:=.var .node) b4 rfl) ?_
    refine Bi0 (k:=k+1) A5 (o96 hs (by decide)) hng (tr_B ?_)
    cases o with
    | none=>
     rw [if_neg (by decide)]
     refine C0 (B6 (C0 (B6 ?_)))
     refine C0 (fin [] _ l5 b1 b2 b3 (by unfold ncl;rw [if_neg h0,hng]) (by rw [List.append_nil];exact hc5) hv5 f5)
    | some p=>
     obtain ⟨l,r⟩:=p
     rw [if_pos (show (some (l,r)).isSome=true from rfl)]
     have gnd:∀(l':Lq),l' .aig=some (.ref (.aig,j))->l' .node=some (.int (nd:Nat))->pE H5 l' (.sub (.attr (.var .aig) .nodes) (.var .node))=some (.tup [.int (l:Nat),.int (r:Nat)]):=λl' h1 h2=>by
      rw [J4 (k:=((nd:Nat):Int)) (M9 A5 (e:=.var .aig) h1 .nodes) (i:=.var .node) h2 A5.nodes,k8 hng (o96 hs (by decide))];rfl
     refine V6 (vs:=[.int (l:Nat)]) hK (B9 (t8 (i:=.int 0) (gnd l5 b1 b4) rfl rfl) rfl) ?_
     refine f8 (k:=k+1) ?_
     refine V6 (vs:=[.int (r:Nat)]) hK (B9 (t8 (i:=.int 1) (gnd (l5.set .left (.int (zl l))) b1 b4) rfl rfl) rfl) ?_
     refine f8 (k:=k+1) ?_
     generalize hl6:(l5.set .left (.int (zl l))).set .right (.int (zl r))=l6
     have d1:l6 .aig=some (.ref (.aig,j)):=by rw [<-hl6];exact b1
     have d2:l6 .clauses=some (.ref (.clsL,tk)):=by rw [<-hl6];exact b2
     have d3:l6 .variables=some (.ref (.vars,tk)):=by rw [<-hl6];exact b3
     have d5:l6 .out=some (.int ((nd+1:Nat):Int)):=by rw [<-hl6];exact b5
     have d6:l6 .left=some (.int (zl l)):=by rw [<-hl6];rfl
     have d7:l6 .right=some (.int (zl r)):=by rw [<-hl6];rfl
     refine I9 (o:=.var .clauses) (v:=.tup (C8 [-((nd+1:Nat):Int),zl l])) hK d2 hc5 (T2 (b:=.var .left) (gneg _ _ d5) d6) (by rw [P7];exact o431 hlen hil hxl hs) ?_
     rw [R0]
     refine I9 (o:=.var .clauses) (v:=.tup (C8 [-((nd+1:Nat):Int),zl r])) hK d2 D2 (T2 (b:=.var .right) (gneg _ _ d5) d7) (by rw [P7,List.length_append];simp only [List.length_cons,List.length_nil];exact o432 hlen hil hxl hs) ?_
     rw [R0,u8]
     refine I9 (o:=.var .clauses) (v:=.tup (C8 [((nd+1:Nat):Int),-zl l,-zl r])) hK d2 D2 (Bc9 (B9 (e:=.var .out) d5 (B9 (Bd2 (e:=.var .left) d6) (B9 (Bd2 (e:=.var .right) d7) rfl))) (by show (3:Nat)<1000000;decide)) (by rw [P7,List.length_append,List.length_append];simp only [List.length_cons,List.length_nil];exact o433 hlen hil hxl hs) ?_
     rw [R0,u8]
     refine C0 (B6 (C0 (B6 (C0 (fin [[-((nd+1:Nat):Int),zl l],[-((nd+1:Nat):Int),zl r],[((nd+1:Nat):Int),-zl l,-zl r]] _ l6 d1 d2 d3 (by unfold ncl;rw [if_neg h0,hng]) ?_ ((B2 (C6 rfl)).trans hv5) λm h1 h2=>(B2 h1).trans (f5 m h1 h2))))))
     rw [D2];simp
theorem k_dcl {k:Nat} {H:Hq} {j ni:Nat} {G:Gr} (A:Av H j ni G) (K:u6 ni G) (hs:G.g.length<200) {lit tk:Nat} (hlit:lit<2*G.g.length) (F:Fr H tk) {Q:Vl->Hq->Prop}
  (q:∀H' Cn,Cone G.g lit Cn->H' (.dcl,tk+3)=some (.list (Q6 (cnfL G.g Cn lit)))->OldF tk H H'->Fr H' (tk+4)->Q (.tup [.int (G.g.length:Nat),.ref (.dcl,tk+3)]) H'):
  C9 (k+5) .difference_clauses [.ref (.aig,j),.int (lit:Nat)] Q H:=by
 have hK:=C7 (k+3)
 have hj:=F.lt A.self
 refine D0 rfl ?_
 show C2 (C9 (k+4)) U0 _ _ _
 generalize hl0:Lc.args Fn.difference_clauses.params [(V.ref (Tag.aig,j):Vl),V.int (lit:Int)]=l0
 have e1:l0 .aig=some (.ref (.aig,j)):=by rw [<-hl0];rfl
 have e2:l0 .literal=some (.int (lit:Nat)):=by rw [<-hl0];rfl
 refine Bf2 hK λR hR=>?_
 refine f6 hK (e:=.var .aig) e1 (Cj7 hK (vs:=[.int (lit:Nat)]) (B9 (e:=.var .literal) e2 rfl) (by simp) (.litL,tk) (F _ _ (Nat.le_refl _)) (w4 ?_))
 have O1:OldF tk H (H.set (.litL,tk) (.list [.int (lit:Nat)])):=OldF.set (Nat.le_refl _)
 refine k_cnf (k:=k) (A.old hj O1) K hs hlit D2 (F.set (Nat.lt_succ_self tk) (Nat.le_succ tk)) λH2 Cn w C hc O2 F2=>?_
 have hcl:(P4 G.g Cn).length<=G.g.length:=by
  have:=List.length_filter_le Cn (List.range G.g.length)
  rw [List.length_range] at this;exact this
 have hfl:=Ah8 G.g (P4 G.g Cn)
 refine hR H2 _ w _ (.dcl,tk+3) hc (by rw [P7];exact o434 hfl hcl hs) (F2 _ _ (Nat.le_refl _)) ?_
 have O3:OldF tk H (H2.set (.dcl,tk+3) (.list (Q6 ((P4 G.g Cn).flatMap (ncl G.g))))):=O1.trans ((O2.mono (Nat.le_succ tk)).trans (OldF.set o435))
 refine Ad3 (o:=.var .clauses) (n:=(.dcl,tk+3)) (vs:=[.int (lit:Nat)]) hK rfl D2 (B9 (e:=.var .literal) e2 rfl) (by rw [P7];exact o434 hfl hcl hs) λR hR=>?_
 refine f8 (k:=k+2) (hR _ ?_)
 rw [u8]
 have en:Q6 ((P4 G.g Cn).flatMap (ncl G.g))++[(V.tup [.int (zl lit)]:Vl)]=Q6 (cnfL G.g Cn lit):=R0 _ [zl lit]
 rw [en]
 have O4:OldF tk H (H2.set (.dcl,tk+3) (.list (Q6 (cnfL G.g Cn lit)))):=O1.trans ((O2.mono (Nat.le_succ tk)).trans (OldF.set o435))
 have A4:=A.old hj O4
 refine M3 hK (v:=.tup [.int (G.g.length:Nat),.ref (.dcl,tk+3)]) (T2 (b:=.var .clauses) ?_ rfl) (q _ Cn C D2 O4 (F2.set o436 o437))
 rw [W3 (M9 A4 (e:=.var .aig) (l:=l0.set .clauses (.ref (.dcl,tk+3))) e1 .nodes) A4.nodes (by rw [E3];exact o96 hs (by decide)),E3]
theorem W0 (l:Nat):(zl l).natAbs=l/2+1:=by unfold zl;split <;> (first | exact o198 | exact o197)
theorem Ae1 {f:Nat->Bool} {α:Nat->Bool} {l:Nat} (h:α (l/2+1)=f (l/2)):N6 α (zl l)↔lv f l=true:=by
 unfold N6 lv
 rw [W0,h]
 unfold zl
 by_cases hp:l%2=1
 ·rw [if_pos hp,decide_eq_false o438,decide_eq_true hp];cases f (l/2) <;> simp
 ·rw [if_neg hp,decide_eq_true o439,decide_eq_false hp];cases f (l/2) <;> simp
theorem Bh7 {α:Nat->Bool} (n:Nat):N6 α ((n+1:Nat):Int)↔α (n+1)=true:=by
 unfold N6
 rw [show (((n+1:Nat):Int)).natAbs=n+1 by exact o197,decide_eq_true o439]
theorem u0 {α:Nat->Bool} (n:Nat):N6 α (-((n+1:Nat):Int))↔α (n+1)=false:=by
 unfold N6
 rw [show (-((n+1:Nat):Int)).natAbs=n+1 by exact o198,decide_eq_false o438]
theorem z8 {α:Nat->Bool} {l:Nat}:N6 α (-zl l)↔¬N6 α (zl l):=i1 (by rw [W0];exact o139)
theorem Ba5 {g:Gt} {Cn:Nat->Bool} {lit:Nat} (C:Cone g lit Cn) {i:Nat}:i∈P4 g Cn↔Cn i=true:=by
 unfold P4
 rw [List.mem_filter,List.mem_range]
 exact ⟨λh=>h.2,λh=>⟨C.bnd i h,h⟩⟩
theorem T8 {g:Gt} {Cn:Nat->Bool} {lit:Nat} (C:Cone g lit Cn) {c:List Int}:c∈cnfL g Cn lit↔(∃i,Cn i=true/\c∈ncl g i)\/c=[zl lit]:=by
 unfold cnfL
 rw [List.mem_append,List.mem_flatMap]
 constructor
 ·rintro (⟨i,h1,h2⟩ | h)
  ·exact .inl ⟨i,(Ba5 C).mp h1,h2⟩
  ·exact .inr (by simpa using h)
 ·rintro (⟨i,h1,h2⟩ | h)
  ·exact .inl ⟨i,(Ba5 C).mpr h1,h2⟩
  ·exact .inr (by simpa using h)
section
variable {ni:Nat} {G:Gr} {lit:Nat} {Cn:Nat->Bool}
theorem Ed1 (K:u6 ni G) {i l r:Nat} (e:G.g[i]? = some (some (l,r))):i≠0:=by
 rintro rfl
 rw [K.nn 0 (Nat.zero_le _)] at e;cases e
theorem Ea3 (K:u6 ni G) {i l r:Nat} (e:G.g[i]? = some (some (l,r))):ncl G.g i=[[-((i+1:Nat):Int),zl l],[-((i+1:Nat):Int),zl r],[((i+1:Nat):Int),-zl l,-zl r]]:=by
 unfold ncl
 rw [if_neg (Ed1 K e),e]
theorem Cg0 (K:u6 ni G) (C:Cone G.g lit Cn):Cnf G.g Cn (cnfL G.g Cn lit):=by
 refine ⟨λh=>(T8 C).mpr (.inl ⟨0,h,by simp [ncl]⟩),λi l r h e=>?_,C.fan,C.bnd⟩
 have hn:=Ea3 K e
 exact ⟨(T8 C).mpr (.inl ⟨i,h,by rw [hn];simp⟩),(T8 C).mpr (.inl ⟨i,h,by rw [hn];simp⟩),(T8 C).mpr (.inl ⟨i,h,by rw [hn];simp⟩)⟩
theorem cnfL_ok (K:u6 ni G) (C:Cone G.g lit Cn) (c:List Int) (hc:c∈cnfL G.g Cn lit):(vars c).Nodup/\∀u∈c,1<=u.natAbs/\u.natAbs<=G.g.length/\Cv Cn u.natAbs:=by
 have key:∀i,Cn i=true->1<=i+1/\i+1<=G.g.length/\Cv Cn (i+1):=λi h=>⟨o139,C.bnd i h,o139,by rw [Nat.add_sub_cancel];exact h⟩
 rcases (T8 C).mp hc with q_ | rfl
 ·exists C1 q_ λi B3=>B7 B3 λh1 h2=>B5 ?_
  clear q_
  unfold ncl at h2
  split at h2
  ·rename_i h0
   subst h0
   simp at h2;subst h2
   exact ⟨by simp [vars],λu hu=>by simp at hu;subst hu;exact key 0 h1⟩
  ·split at h2
   ·rename_i l r e
    refine E6 (K.ok i l r e) λk1 k2 k3=>?_
    refine B7 (C.fan i l r h1 e) λfl fr=>?_
    have ai:(-((i+1:Nat):Int)).natAbs=i+1:=o198
    have ap:(((i+1:Nat):Int)).natAbs=i+1:=o197
    simp only [List.mem_cons,List.not_mem_nil,or_false] at h2
    rcases h2 with rfl | rfl | rfl
    ·refine ⟨?_,λu hu=>?_⟩
     ·show [(-((i+1:Nat):Int)).natAbs,(zl l).natAbs].Nodup
      rw [ai,W0];simp;exact o440 k1
     ·simp only [List.mem_cons,List.not_mem_nil,or_false] at hu
      rcases hu with rfl | rfl
      ·rw [ai];exact key i h1
      ·rw [W0];exact key _ fl
    ·refine ⟨?_,λu hu=>?_⟩
     ·show [(-((i+1:Nat):Int)).natAbs,(zl r).natAbs].Nodup
      rw [ai,W0];simp;exact o440 k2
     ·simp only [List.mem_cons,List.not_mem_nil,or_false] at hu
      rcases hu with rfl | rfl
      ·rw [ai];exact key i h1
      ·rw [W0];exact key _ fr
    ·refine ⟨?_,λu hu=>?_⟩
     ·show [(((i+1:Nat):Int)).natAbs,(-zl l).natAbs,(-zl r).natAbs].Nodup
      rw [ap,Int.natAbs_neg,Int.natAbs_neg,W0,W0];simp;exact o441 k1 k3 k2
     ·simp only [List.mem_cons,List.not_mem_nil,or_false] at hu
      rcases hu with rfl | rfl | rfl
      ·rw [ap];exact key i h1
      ·rw [Int.natAbs_neg,W0];exact key _ fl
      ·rw [Int.natAbs_neg,W0];exact key _ fr
   ·cases h2
 ·exact ⟨by simp [vars],λu hu=>by simp at hu;subst hu;rw [W0];exact key _ C.top⟩
theorem Ch4 {α:Nat->Bool} {a b:Int}:S0 α [a,b]↔N6 α a\/N6 α b:=by simp [S0]
theorem satC3 {α:Nat->Bool} {a b c:Int}:S0 α [a,b,c]↔N6 α a\/N6 α b\/N6 α c:=by simp [S0]
theorem Df2 (K:u6 ni G) (C:Cone G.g lit Cn) {α:Nat->Bool} (hα:∀c∈cnfL G.g Cn lit,S0 α c) {f:Nat->Bool} (hf:Evl G.g f) (hin:∀i,1<=i->i<=ni->f i=α (i+1)):lv f lit=true:=by
 have all:∀i,Cn i=true->α (i+1)=f i:=by
  intro i
  induction i using Nat.strongRecOn with
  | _ i ih=>
   intro hc
   rcases Nat.eq_zero_or_pos i with h0 | h0
   ·subst h0
    have:=hα _ ((Cg0 K C).zero hc)
    have h1:N6 α (-((0+1:Nat):Int)):=by
     exists C1 this λl B3=>B7 B3 λh1 h2=>B5 ?_
     clear this
     simp at h1;subst h1;exact h2
    rw [(u0 0).mp h1,hf.1]
   ·rcases Nat.lt_or_ge ni i with hi | hi
    ·refine J8 (K.sm i hi (C.bnd i hc)) λl r e=>?_
     refine E6 (K.ok i l r e) λk1 k2 _=>?_
     refine B7 (C.fan i l r hc e) λfl fr=>?_
     have hl:=Ae1 (ih _ k1 fl)
     have hr:=Ae1 (ih _ k2 fr)
     refine E6 ((Cg0 K C).gate i l r hc e) λa b c=>?_
     have a:=Ch4.mp (hα _ a)
     have b:=Ch4.mp (hα _ b)
     have c:=satC3.mp (hα _ c)
     rw [u0,hl] at a
     rw [u0,hr] at b
     rw [Bh7,z8,z8,hl,hr] at c
     rw [hf.2 i l r e]
     cases h1:α (i+1) <;> cases h2:lv f l <;> cases h3:lv f r <;> rw [h1,h2] at a <;> rw [h1,h3] at b <;> rw [h1,h2,h3] at c <;> simp at a b c ⊢
    ·exact (hin i h0 hi).symm
 have:=hα _ ((T8 C).mpr (.inr rfl))
 exists C1 this λl B3=>B7 B3 λh1 h2=>B5 ?_
 clear this
 simp at h1;subst h1
 exact (Ae1 (all _ C.top)).mp h2
theorem cnf_sat (K:u6 ni G) (C:Cone G.g lit Cn) {f:Nat->Bool} (hf:Evl G.g f) (ht:lv f lit=true):∀c∈cnfL G.g Cn lit,S0 (λv=>f (v-1)) c:=by
 intro c hc
 have z:∀l,N6 (λv=>f (v-1)) (zl l)↔lv f l=true:=λl=>Ae1 (α:=λv=>f (v-1)) (by show f (l/2+1-1)=_;rw [Nat.add_sub_cancel])
 rcases (T8 C).mp hc with q_ | rfl
 ·exists C1 q_ λi B3=>B7 B3 λh1 h2=>B5 ?_
  clear q_
  unfold ncl at h2
  split at h2
  ·simp at h2;subst h2
   refine ⟨-1,by simp,?_⟩
   show f 0=_
   rw [hf.1];rfl
  ·split at h2
   ·rename_i l r e
    have hv:=hf.2 i l r e
    have hp:=Bh7 (α:=λv=>f (v-1)) i
    have hn:=u0 (α:=λv=>f (v-1)) i
    simp only [Nat.add_sub_cancel] at hp hn
    simp only [List.mem_cons,List.not_mem_nil,or_false] at h2
    rcases h2 with rfl | rfl | rfl
    ·rw [Ch4,hn,z,hv];cases lv f l <;> cases lv f r <;> simp
    ·rw [Ch4,hn,z,hv];cases lv f l <;> cases lv f r <;> simp
    ·rw [satC3,hp,z8,z8,z,z,hv];cases lv f l <;> cases lv f r <;> simp
   ·cases h2
 ·exact ⟨zl lit,by simp,(z lit).mpr ht⟩
end
section rules
variable {K:Calls G9} {H:Hq} {l:Lq} {ss:Ss} {Q:Fl G9->Lq->Hq->Prop}
theorem Cg4 {f:Fn} {args:Es} {vs:List Vl} {x y:Vr} (hK:D5 K) (ha:c9 H l args=some vs)
 (q:K f vs (λv H'=>∃a b,v = .tup [a,b]/\C2 K ss Q ((l.set x a).set y b) H') H):C2 K (.cons (.set2 x y (.call f args)) ss) Q l H:=J' (es:=args) hK ha q
theorem Ai0 {x:Vr} (m:G9) (hm:H m=none) (q:∀ep,C2 K ss Q (l.set x (.ref m)) (H.set m (.idict [] ep))):C2 K (.cons (.set x .idict0) ss) Q l H:=⟨m,hm,q⟩
theorem Cg5 (m:G9) (hm:H m=none) (q:∀ep,Q (.ret (.ref m)) l (H.set m (.idict [] ep))):C2 K (.cons (.ret .idict0) ss) Q l H:=⟨m,hm,q⟩
theorem Df4 {o i e:E} {v:Vl} {n:G9} {es:List (Int×Vl)} {ep:Nat} {k:Int} (hK:D5 K) (he:pE H l e=some v) (ho:pE H l o=some (.ref n)) (hi:pE H l i=some (.int k)) (hn:H n=some (.idict es ep)) (hl:es.length<1000000)
  (q:∀ep',C2 K ss Q l (H.set n (.idict (put es k v) ep'))):C2 K (.cons (.setSub o i e) ss) Q l H:=
 D3 (e:=e) hK he (D3 (e:=o) hK ho (D3 (e:=i) hK hi (Or.inr ⟨es,ep,hn,hl,q⟩)))
theorem Dj1 {c:C} {a b:E} {r:Bool} (h:pC H l c=some r):pE H l (.ite c a b)=if r then pE H l a else pE H l b:=(b1 _ h).trans (by cases r <;> rfl)
end rules
noncomputable def tKeep:Tag->Bool
 | .script | .seedL | .seedC | .seedP | .aig | .inputs | .outputs | .pairs | .differs | .inCopy | .emp | .found2=>true
 | _=>false
def Ab0 (tk:Nat) (H H':Hq):Prop:=∀t i,tKeep t=true->i<tk->H' (t,i)=H (t,i)
noncomputable def bitI (b:Bool):Vl:=.int (if b then 1 else 0)
noncomputable def M8 (ni:Nat) (α:Nat->Bool):List (Int×Vl):=(List.range ni).map λi=>(((i+1:Nat):Int),bitI (α (i+2)))
theorem Dg1 (i:Nat) (α:Nat->Bool):put (M8 i α) ((i+1:Nat):Int) (bitI (α (i+2)))=M8 (i+1) α:=by
 have h:((M8 i α).any λkv=>decide (kv.1=((i+1:Nat):Int)))=false:=by
  rw [List.any_eq_false]
  intro kv hkv
  exists C1 (List.mem_map.mp hkv) λa B3=>B7 B3 λha C'=>B5 ?_
  subst C'
  have:=List.mem_range.mp ha
  simp;exact o442 this
 unfold put
 rw [h]
 unfold M8
 rw [List.range_succ,List.map_append];rfl
def Told (ni:Nat) (g:Gt) (l r:Nat) (es:List (Int×Vl)):Prop:=
 (es=[]/\∀f,Evl g f->lv f l=lv f r)\/∃α:Nat->Bool,es=M8 ni α/\∀f,Evl g f->(∀i,1<=i->i<=ni->f i=α (i+1))->lv f l≠lv f r
theorem z9 {t:Tag} (h:tKeep t=true):tSlv t=false/\tAdd t=false/\t ≠ .nodes/\t ≠ .table/\t ≠ .bits/\t ≠ .mdl:=by
 cases t <;> first | (cases h;done) | exact ⟨rfl,rfl,by simp,by simp,by simp,by simp⟩
theorem Di2 {ni nb:Nat} {G:Gr} (K:u6 ni G) (hnb:nb<=G.g.length):Cb2 G.g ni nb:=⟨K.nn,λi h1 h2=>K.sm i h1 (o164 h2 hnb),K.ok⟩
theorem few_of {ni nb:Nat} {G G':Gr} {l r o:Nat} {Cn:Nat->Bool} (K:u6 ni G') (C:Cone G'.g o Cn) (L:Lx G G' l r o) (h4:ni<=4) (h1:ni+1<=nb) (h6:nb<=ni+7) (hnb:nb<=G.g.length) (hl:l<2*nb) (hr:r<2*nb):
  ∀Ls:List (List Int),Ls.Pairwise (Df (Cv Cn))->(∀A∈Ls,Gd (cnfL G'.g Cn o) A)->Ls.length<1000:=by
 exists C1 L.ext λt B3=>B7 B3 λet _=>B5 ?_
 have hnb':nb<=G'.g.length:=by rw [et,List.length_append];exact o267 hnb
 have Kc:=Cg0 K C
 refine Aj7 (Di2 K hnb') Kc h4 h1 h6 ?_
 rcases L.shape with q_ | q_
 ·refine B7 q_ λ_ hd=>?_
  clear q_
  have hlow:∀i,Cn i=true->i<nb:=C.least (λi=>i<nb) (o443 hd hl hr) λi l r hi e=>by
   refine E6 (K.ok i l r e) λk1 k2 _=>?_
   exact ⟨o444 k1 hi,o444 k2 hi⟩
  intro A A' _ _ _ j hj hc
  have:=hlow j hc;exact o262 this hj
 ·exists Q0 q_ λa b c B3=>un5 B3 λpa pb pc ho _=>B5 ?_
  clear q_
  have hC:Cn c=true:=by rw [<-ho];exact C.top
  refine det_xor Kc (x:=l/2) (y:=r/2) (o445 hl) (o445 hr) pa pb pc ho ((T8 C).mpr (.inr rfl)) hC ?_
  have hP:∀i,Cn i=true->i<nb\/i=a\/i=b\/i=c:=by
   refine C.least (λi=>i<nb\/i=a\/i=b\/i=c) (.inr (.inr (.inr ho))) λi p q hi e=>?_
   rcases hi with hi | rfl | rfl | rfl
   ·refine E6 (K.ok i p q e) λk1 k2 _=>?_
    exact ⟨.inl (o444 k1 hi),.inl (o444 k2 hi)⟩
   ·rcases pa with h | h <;> rw [h] at e <;> cases e <;> exact ⟨.inl (by (first | exact o446 hl | exact o447 hr)),.inl (by (first | exact o447 hr | exact o446 hl))⟩
   ·rcases pb with h | h <;> rw [h] at e <;> cases e <;> exact ⟨.inl (by (first | exact o447 hl | exact o446 hr)),.inl (by (first | exact o446 hr | exact o447 hl))⟩
   ·rcases pc with h | h <;> rw [h] at e <;> cases e
    ·exact ⟨.inr (.inl o341),.inr (.inr (.inl o341))⟩
    ·exact ⟨.inr (.inr (.inl o341)),.inr (.inl o341)⟩
  intro j hj hc
  rcases hP j hc with h | h
  ·exact o262 h hj
  ·exact h
set_option maxHeartbeats 800000 in
theorem k_sd {k:Nat} {H:Hq} {j ni nb:Nat} {G:Gr} (A:Av H j ni G) (K:u6 ni G) (hs:G.g.length<90) (h4:ni<=4) (h1:ni+1<=nb) (h6:nb<=ni+7) (hnb:nb<=G.g.length) {l r tk:Nat} (hl:l<2*nb) (hr:r<2*nb) (F:Fr H tk)
  {im:Nat} (him:H (.inCopy,im)=some (.list (inL ni))) {Q:Vl->Hq->Prop}
  (q:∀H' G' t es ep tk',Av H' j ni G'->u6 ni G'->(∃t,G'.g=G.g++t/\t.length<=3)->Fr H' tk'->Ab0 tk H H'->H' (.bits,t)=some (.idict es ep)->Told ni G'.g l r es->Q (.ref (.bits,t)) H'):
  C9 (k+6) .solver_difference [.ref (.aig,j),.int (l:Nat),.int (r:Nat),.ref (.inCopy,im),.int 1000] Q H:=by
 have hK:=C7 (k+4)
 have hj:=F.lt A.self
 have himl:=F.lt him
 refine D0 rfl ?_
 show C2 (C9 (k+5)) U7 _ _ _
 generalize hl0:Lc.args Fn.solver_difference.params [(V.ref (Tag.aig,j):Vl),V.int (l:Int),V.int (r:Int),V.ref (Tag.inCopy,im),V.int 1000]=l0
 have e1:l0 .aig=some (.ref (.aig,j)):=by rw [<-hl0];rfl
 have e2:l0 .left=some (.int (l:Nat)):=by rw [<-hl0];rfl
 have e3:l0 .right=some (.int (r:Nat)):=by rw [<-hl0];rfl
 have e4:l0 .inputs=some (.ref (.inCopy,im)):=by rw [<-hl0];rfl
 have e5:l0 .conflicts=some (.int 1000):=by rw [<-hl0];rfl
 clear hl0
 refine V5 (o:=.var .aig) (n:=(.aig,j)) (vs:=[.int (l:Nat),.int (r:Nat)]) hK e1 A.self rfl (B9 (e:=.var .left) e2 (B9 (e:=.var .right) e3 rfl)) ?_
 refine k_lxor (k:=k+1) A K (o96 hs (by decide)) (o448 hl hnb) (o448 hr hnb) λH1 G1 o A1 K1 L1 f1=>?_
 exists C1 L1.ext λtx B3=>B7 B3 λex lx=>B5 ?_
 have hs1:G1.g.length<100:=by rw [ex,List.length_append];exact o449 hs lx (by decide)
 have F1:Fr H1 tk:=λt i hi=>(f1 _ (by intro e;cases e;exact o244 hj hi) (by intro e;cases e;exact o244 hj hi)).trans (F t i hi)
 have k1:Ab0 tk H H1:=λt i ht _=>f1 _ (by intro e;cases e;cases ht) (by intro e;cases e;cases ht)
 have him1:H1 (.inCopy,im)=some (.list (inL ni)):=(k1 _ _ rfl himl).trans him
 have c0:=E0 (H:=H1) (op:=.eq) (a:=.var .literal) (b:=.int 0) (l:=l0.set .literal (.int (o:Nat))) (x:=(o:Int)) (y:=0) rfl rfl
 by_cases h0:o=0
 ·refine G6 hK (by rw [c0,h0];rfl) ?_
  refine Cg5 (.bits,tk) (F1 _ _ (Nat.le_refl _)) λep=>?_
  refine q _ G1 tk [] ep (tk+1) ⟨(B2 (C6 rfl)).trans A1.self,(B2 (C6 rfl)).trans A1.nodes,(B2 (C6 rfl)).trans A1.inputs,(B2 (C6 rfl)).trans A1.table⟩ K1 ⟨tx,ex,lx⟩ (F1.set (Nat.lt_succ_self _) (Nat.le_succ _)) (λt i ht hi=>?_) D2 (.inl ⟨rfl,λf hf=>?_⟩)
  ·rw [B2 (by intro e;cases e;cases ht)];exact k1 t i ht hi
  ·have:=L1.val f hf
   rw [h0,(Ci5 hf.1).1] at this
   cases h:lv f l <;> cases h':lv f r <;> rw [h,h'] at this <;> first | rfl | cases this
 ·refine E9 hK (by rw [c0];show some ((o:Int)==0)=_;simp;exact o8 h0) (C0 (B6 ?_))
  refine Cg4 (vs:=[.ref (.aig,j),.int (o:Nat)]) hK (B9 (e:=.var .aig) e1 (B9 (e:=.var .literal) rfl rfl)) ?_
  refine k_dcl (k:=k) A1 K1 (o96 hs1 (by decide)) L1.lt F1 λH2 Cn C hd O2 F2=>⟨_,_,rfl,?_⟩
  have A2:=A1.old hj O2
  have him2:=(O2 (.inCopy,im) himl).trans him1
  have k2:Ab0 tk H H2:=λt i ht hi=>(O2 (t,i) hi).trans (k1 t i ht hi)
  have cok:=cnfL_ok K1 C
  have clen:(cnfL G1.g Cn o).length<1000:=by
   have hcl:(P4 G1.g Cn).length<=G1.g.length:=by
    have:=List.length_filter_le Cn (List.range G1.g.length)
    rw [List.length_range] at this;exact this
   have hfl:=Ah8 G1.g (P4 G1.g Cn)
   unfold cnfL
   rw [List.length_append];simp only [List.length_cons,List.length_nil];exact o450 hfl hcl hs1
  refine V6 (vs:=[.int (G1.g.length:Nat),.ref (.dcl,tk+3)]) hK (B9 (e:=.var .count) rfl (B9 (e:=.var .clauses) rfl rfl)) ?_
  refine Eb8 (k:=k+1) (C:=Cv Cn) (t:=tk+4) hd rfl F2 (o96 hs1 (by decide)) clen (λc hc=>(cok c hc).1) (λc hc=>(cok c hc).2) λH3 ν3 σ3 S3 L3 n3 m3 l3 f3=>?_
  have A3:Av H3 j ni G1:=⟨(f3 _ _ rfl).trans A2.self,(f3 _ _ rfl).trans A2.nodes,(f3 _ _ rfl).trans A2.inputs,(f3 _ _ rfl).trans A2.table⟩
  have him3:=(f3 .inCopy im rfl).trans him2
  have k3:Ab0 tk H H3:=λt i ht hi=>(f3 t i (z9 ht).2.1).trans (k2 t i ht hi)
  refine V5 (o:=.var .solver) (n:=(.self,ν3.self)) (vs:=[.tup [],.int 1000]) hK rfl S3.self rfl (B9 (Bc9 (es:=.nil) (vs:=[]) rfl (by decide)) (B9 (e:=.var .conflicts) e5 rfl)) ?_
  refine k_solve (k:=k) (C:=Cv Cn) (Or:=cnfL G1.g Cn o) S3 (λh=>⟨(L3.inv h).1,(L3.inv h).2.1⟩) L3.ref n3 (o96 hs1 (by decide)) m3 l3 (few_of K1 C L1 h4 h1 h6 hnb hl hr) (λH4 ν4 σ4 hno S4 f4=>?_) (λH4 ν4 σ4 α S4 hα n4 m4 l4 I4 hfnd es4 f4=>?_)
  ·-- no bits
   have A4:Av H4 j ni G1:=⟨(f4 _ _ rfl).trans A3.self,(f4 _ _ rfl).trans A3.nodes,(f4 _ _ rfl).trans A3.inputs,(f4 _ _ rfl).trans A3.table⟩
   have k4:Ab0 tk H H4:=λt i ht hi=>(f4 t i (z9 ht).1).trans (k3 t i ht hi)
   refine E9 hK (j5 (e:=.var .answer) (v:=.bool false) rfl) (C0 (B6 ?_))
   refine Ai0 (.bits,ν4.tk) (S4.fresh _ _ (Nat.le_refl _)) λep=>?_
   refine E9 hK (N0 (e:=.var .answer) (b:=false) rfl) (C0 (B6 ?_))
   refine M3 hK (v:=.ref (.bits,ν4.tk)) rfl (q _ G1 ν4.tk [] ep (ν4.tk+1) ⟨(B2 (C6 rfl)).trans A4.self,(B2 (C6 rfl)).trans A4.nodes,(B2 (C6 rfl)).trans A4.inputs,(B2 (C6 rfl)).trans A4.table⟩ K1 ⟨tx,ex,lx⟩
    (Fr.set S4.fresh (Nat.lt_succ_self _) (Nat.le_succ _)) (λt i ht hi=>?_) D2 (.inl ⟨rfl,λf hf=>?_⟩))
   ·rw [B2 (by intro e;cases e;cases ht)];exact k4 t i ht hi
   ·have hv:=L1.val f hf
    have hlit:lv f o=false:=by
     cases h:lv f o with
     | false=>rfl
     | true=>exact absurd (cnf_sat K1 C hf h) (hno _)
    rw [hlit] at hv
    cases h:lv f l <;> cases h':lv f r <;> rw [h,h'] at hv <;> first | rfl | cases hv
  ·-- bits of a model
   have A4:Av H4 j ni G1:=⟨(f4 _ _ rfl).trans A3.self,(f4 _ _ rfl).trans A3.nodes,(f4 _ _ rfl).trans A3.inputs,(f4 _ _ rfl).trans A3.table⟩
   have him4:=(f4 .inCopy im rfl).trans him3
   have k4:Ab0 tk H H4:=λt i ht hi=>(f4 t i (z9 ht).1).trans (k3 t i ht hi)
   refine E9 hK (j5 (e:=.var .answer) (v:=.bool true) rfl) (C0 (B6 ?_))
   refine Ai0 (.bits,ν4.tk) (S4.fresh _ _ (Nat.le_refl _)) λep=>?_
   have S5:=S4.alloc .bits (.idict [] ep)
   refine G6 hK (N0 (e:=.var .answer) (b:=true) rfl) ?_
   have Z5:Sz 5000 σ4:=I4.sz (o451 n4 hs1 (by decide)) (o452 m4 (by decide)) (o287 (by decide)) (o287 (by decide)) (o452 l4 (by decide))
   have hfl:σ4.fnd.length<1000000:=by rw [hfnd];simp;exact o394 hs1 (by decide)
   refine V5 (o:=.var .solver) (n:=(.self,ν4.self)) (vs:=[]) hK (by rw [es4];rfl) S5.self rfl rfl ?_
   refine k_model (k:=k+3) S5 Z5 hfl (.mdl,ν4.tk+1) (S5.fresh _ _ (Nat.le_refl _)) ?_
   have hm6:((H4.set (.bits,ν4.tk) (.idict [] ep)).set (.mdl,ν4.tk+1) (.list σ4.fnd)) (.mdl,ν4.tk+1)=some (.list σ4.fnd):=D2
   have hb6:((H4.set (.bits,ν4.tk) (.idict [] ep)).set (.mdl,ν4.tk+1) (.list σ4.fnd)) (.bits,ν4.tk)=some (.idict (M8 0 α) ep):=(B2 (C6 rfl)).trans D2
   have F6:Fr ((H4.set (.bits,ν4.tk) (.idict [] ep)).set (.mdl,ν4.tk+1) (.list σ4.fnd)) (ν4.tk+2):=(Fr.set S4.fresh (t:=.bits) (o:=.idict [] ep) (Nat.lt_succ_self ν4.tk) (Nat.le_succ _)).set o453 o454
   have o6:∀t i,t ≠ .bits->t ≠ .mdl->((H4.set (.bits,ν4.tk) (.idict [] ep)).set (.mdl,ν4.tk+1) (.list σ4.fnd)) (t,i)=H4 (t,i):=λt i h1 h2=>by
    rw [B2 (by intro e;cases e;exact h2 rfl),B2 (by intro e;cases e;exact h1 rfl)]
   generalize hH6:(H4.set (.bits,ν4.tk) (.idict [] ep)).set (.mdl,ν4.tk+1) (.list σ4.fnd)=H6 at hm6 hb6 F6 o6
   refine V8 (e:=.var .inputs) (n:=(.inCopy,im)) (xs:=inL ni) hK e4 ((o6 _ _ (by simp) (by simp)).trans him4)
    (λi l2 H7=>i<=ni/\l2 .values=some (.ref (.mdl,ν4.tk+1))/\l2 .bits=some (.ref (.bits,ν4.tk))/\(∃ep,H7 (.bits,ν4.tk)=some (.idict (M8 i α) ep))/\∀m,m≠(Tag.bits,ν4.tk)->H7 m=H6 m) ⟨Nat.zero_le _,rfl,rfl,⟨ep,hb6⟩,λ_ _=>rfl⟩ ?_
   intro i l2 H7 q_
   refine un5 q_ λhi a1 a2 C' o7=>?_
   clear q_
   refine C1 C' λep7 hb7=>?_
   clear C'
   have o7':∀t i,t ≠ .bits->t ≠ .mdl->H7 (t,i)=H4 (t,i):=λt i h1 h2=>(o7 _ (by intro e;cases e;exact h1 rfl)).trans (o6 t i h1 h2)
   refine ⟨(o7' _ _ (by simp) (by simp)).trans him4,λhend=>?_,λv hv=>?_⟩
   ·have hie:i=ni:=by
     rw [List.getElem?_eq_none_iff] at hend
     simp [inL,E8] at hend;exact o298 hi hend
    subst hie
    refine C0 (B6 ?_)
    refine M3 hK (v:=.ref (.bits,ν4.tk)) a2 (q H7 G1 ν4.tk (M8 i α) ep7 (ν4.tk+2) ⟨(o7' _ _ (by simp) (by simp)).trans A4.self,(o7' _ _ (by simp) (by simp)).trans A4.nodes,(o7' _ _ (by simp) (by simp)).trans A4.inputs,(o7' _ _ (by simp) (by simp)).trans A4.table⟩ K1 ⟨tx,ex,lx⟩
     (λt i hi=>(o7 _ (by intro e;cases e;exact o428 hi)).trans (F6 t i hi)) (λt i ht hi=>?_) hb7 (.inr ⟨α,rfl,λf hf hin=>?_⟩))
    ·refine un6 (z9 ht) λ_ _ _ _ n5 n6=>?_
     exact (o7' t i n5 n6).trans (k4 t i ht hi)
    ·have hlit:=Df2 K1 C hα hf hin
     have hv:=L1.val f hf
     rw [hlit] at hv
     intro he
     rw [he] at hv
     cases h:lv f r <;> rw [h] at hv <;> cases hv
   ·have hil:i<ni:=by
     have:=(List.getElem?_eq_some_iff.mp hv).1
     simpa [inL,E8] using this
    have ev:v = .int ((i+1:Nat):Int):=by
     have:(inL ni)[i]? = some (.int ((i+1:Nat):Int)):=by
      unfold inL E8
      rw [List.getElem?_map,List.getElem?_map,List.getElem?_range hil];rfl
     rw [this] at hv;cases hv;rfl
    subst ev
    refine ⟨l2.set .node (.int ((i+1:Nat):Int)),rfl,?_⟩
    have hni:=K1.pos
    have gv:pE H7 (l2.set .node (.int ((i+1:Nat):Int))) (.sub (.var .values) (.bin .add (.var .node) (.int 1)))=some (.bool (α (i+2))):=by
     rw [J4 (l:=l2.set .node (.int ((i+1:Nat):Int))) (e:=.var .values) (i:=.bin .add (.var .node) (.int 1)) (n:=(.mdl,ν4.tk+1)) (k:=((i+2:Nat):Int)) a1 rfl ((o7 _ (C6 rfl)).trans hm6)]
     unfold i5
     rw [if_pos ⟨o73,o455 hil h4⟩,hfnd,List.getElem?_map,show (((i+2:Nat):Int)).toNat=i+2 by exact o77,List.getElem?_range (o456 hil hni)];rfl
    have ge:pE H7 (l2.set .node (.int ((i+1:Nat):Int))) (.ite (.val (.sub (.var .values) (.bin .add (.var .node) (.int 1)))) (.int 1) (.int 0))=some (bitI (α (i+2))):=by
     rw [Dj1 (N0 gv)]
     unfold bitI
     cases α (i+2) <;> rfl
    refine Df4 (k:=((i+1:Nat):Int)) hK ge (o:=.var .bits) a2 (i:=.var .node) rfl hb7 (by simp [M8];exact o457 hil h4) λep'=>?_
    rw [Dg1]
    exact C0 ⟨o168 hil,a1,a2,⟨ep',D2⟩,λm hm=>(B2 hm).trans (o7 m hm)⟩
def U4 (K:Calls G9) (e:E) (l:Lq) (H:Hq) (v:Vl):Prop:=∀R:Vl->Hq->Prop,R v H->O0 K e l R H
section rules
variable {K:Calls G9} {H:Hq} {l:Lq} {ss:Ss} {Q:Fl G9->Lq->Hq->Prop}
theorem Be4 {e:E} {v:Vl} (hK:D5 K) (h:pE H l e=some v):U4 K e l H v:=λ_ q=>D3 (e:=e) hK h q
theorem Be5 {op:BOp} {a b:E} {va vb r:Vl} (ha:U4 K a l H va) (hb:U4 K b l H vb) (h:binF op va vb=some r):U4 K (.bin op a b) l H r:=λR q=>ha _ (hb _ (Da6 h q))
theorem Cj6 {f:Fn} {args:Es} {vs:List Vl} {v:Vl} (hK:D5 K) (hv:c9 H l args=some vs) (h:∀R:Vl->Hq->Prop,R v H->K f vs R H):U4 K (.call f args) l H v:=λR q=>J' (es:=args) hK hv (h R q)
theorem Ed4 {o a:E} {n:G9} {xs:List Int} {x:Int} {i:Nat} (hK:D5 K) (ho:pE H l o=some (.ref n)) (hn:H n=some (.list (C8 xs))) (hl:xs.length<1000000) (ha:pE H l a=some (.int x)) (hi:xs.idxOf? x=some i):U4 K (.bm .index o (.cons a .nil)) l H (.int i):=
 λR q=>D3 (e:=o) hK ho ⟨⟨_,hn⟩,D3 (e:=a) hK ha ⟨xs,i,hn,hl,hi,q⟩⟩
theorem Ah9 {o i e:E} {v:Vl} {n:G9} {xs:List Vl} {k:Int} (hK:D5 K) (he:U4 K e l H v) (ho:pE H l o=some (.ref n)) (hi:pE H l i=some (.int k)) (hn:H n=some (.list xs))
  (h0:0<=k) (h1:k<xs.length) (h2:xs.length<=1000000) (q:C2 K ss Q l (H.set n (.list (xs.set k.toNat v)))):C2 K (.cons (.setSub o i e) ss) Q l H:=
 he _ (D3 (e:=o) hK ho (D3 (e:=i) hK hi (Or.inl ⟨xs,hn,h0,o67 h1 h2 (by decide),h1,q⟩)))
theorem Df7 {a b:E} {x y:Int} {t u:Ss} (ha:U4 K a l H (.int x)) (hb:U4 K b l H (.int y)) (q:if (x != y)=true then C2 K t (M0 K ss Q) l H else C2 K u (M0 K ss Q) l H):C2 K (.cons (.ite (.cmp .ne a b) t u) ss) Q l H:=
 ha _ (hb _ q)
theorem m0 {op:BOp} {a:E} {f:Fn} {args:Es} {x:Vr} {va:Vl} {vs:List Vl} (hK:D5 K) (ha:pE H l a=some va) (hv:c9 H l args=some vs)
  (q:K f vs (λvb H2=>Aa6 op va vb λr=>C2 K ss Q (l.set x r) H2) H):C2 K (.cons (.set x (.bin op a (.call f args))) ss) Q l H:=
 D3 (e:=a) hK ha (J' (es:=args) hK hv q)
theorem Cf7 {op:BOp} {a:E} {f:Fn} {args es:Es} {va:Vl} {vs:List Vl} {R:List Vl->Hq->Prop} (hK:D5 K) (ha:pE H l a=some va) (hv:c9 H l args=some vs)
  (q:K f vs (λvb H2=>Aa6 op va vb λr=>Q' K es l (λvs' H3=>R (r::vs') H3) H2) H):Q' K (.cons (.bin op a (.call f args)) es) l R H:=
 D3 (e:=a) hK ha (J' (es:=args) hK hv q)
theorem De8 {a:E} {es:Es} {n:G9} {xs:List Vl} {R:List Vl->Hq->Prop} (hK:D5 K) (ha:pE H l a=some (.ref n)) (hn:H n=some (.list xs)) (hl:xs.length<1000000) (m:G9) (hm:H m=none)
  (q:Q' K es l (λvs' H3=>R (.ref m::vs') H3) (H.set m (.list xs))):Q' K (.cons (.bi .list a) es) l R H:=
 D3 (e:=a) hK ha ⟨xs,hn,hl,m,hm,q⟩
theorem Ai3 {t:Vr} {f:Fn} {args:Es} {b:Ss} {vs:List Vl} (hK:D5 K) (hv:c9 H l args=some vs)
  (q:∀R:Vl->Hq->Prop,(∀H1 (n:Nat),n<1000->(∃I:Nat->Lq->Hq->Prop,I 0 l H1/\∀i l2 H2,I i l2 H2->(n<=i->C2 K ss Q l2 H2) /\
   (i<n->C2 K b (d9 (λl4 H4=>I (i+1) l4 H4) (M0 K ss Q)) (l2.set t (.int i)) H2))->R (.int n) H1)->K f vs R H):
  C2 K (.cons (.for_ (.one t) (.range (.cons (.call f args) .nil)) b) ss) Q l H:=by
 refine J' (es:=args) hK hv (q _ ?_)
 intro H1 n hn q_
 exists C1 q_ λI B3=>B7 B3 λh0 hI=>B5 ?_
 clear q_
 refine ⟨0,n,1,rfl,o413 hn (by decide),I,h0,λi l2 H2 h=>⟨trivial,?_⟩⟩
 refine B7 (hI i l2 H2 h) λha hb=>?_
 rw [List.getElem?_map,G7]
 by_cases hi:i<n
 ·rw [if_pos (o458 hi)]
  refine ⟨l2.set t (.int (0+(i:Int))),rfl,?_⟩
  rw [Int.zero_add];exact hb hi
 ·rw [if_neg (o459 hi)];exact ha (o71 hi)
theorem Bf3 {t:Tg} {es:Es} {b:Ss} {vs:List Vl} (hK:D5 K) (ha:c9 H l es=some vs) (hl:vs.length<1000000) (m:G9) (hm:H m=none) (I:Nat->Lq->Hq->Prop) (h0:I 0 l (H.set m (.list vs)))
  (hI:∀i l2 H2,I i l2 H2->H2 m=some (.list vs)/\(vs[i]? = none->C2 K ss Q l2 H2) /\
   ∀v,vs[i]? = some v->∃l3,m7 t v l2=some l3/\C2 K b (d9 (λl4 H4=>I (i+1) l4 H4) (M0 K ss Q)) l3 H2):C2 K (.cons (.for_ t (.seq (.list es)) b) ss) Q l H:=by
 refine J' (es:=es) hK ha ⟨hl,m,hm,Or.inl ⟨vs,D2,I,h0,λi l2 H2 h=>⟨(hI i l2 H2 h).1,?_⟩⟩⟩
 have h2:=(hI i l2 H2 h).2
 cases hx:vs[i]? with
 | none=>exact h2.1 hx
 | some v=>exact h2.2 v hx
theorem Cg7 {t:Tg} {e hi:E} {b:Ss} {n:G9} {xs:List Vl} {k:Int} (hK:D5 K) (he:pE H l e=some (.ref n)) (hh:pE H l hi=some (.int k)) (hn:H n=some (.list xs)\/H n=some (.flist xs)) (h0k:0<=k) (hl:xs.length<1000000) (m:G9) (hm:H m=none) (I:Nat->Lq->Hq->Prop) (h0:I 0 l (H.set m (.list (xs.take k.toNat))))
  (hI:∀i l2 H2,I i l2 H2->H2 m=some (.list (xs.take k.toNat))/\((xs.take k.toNat)[i]? = none->C2 K ss Q l2 H2) /\
   ∀v,(xs.take k.toNat)[i]? = some v->∃l3,m7 t v l2=some l3/\C2 K b (d9 (λl4 H4=>I (i+1) l4 H4) (M0 K ss Q)) l3 H2):C2 K (.cons (.for_ t (.seq (.slice e hi)) b) ss) Q l H:=by
 refine D3 (e:=e) hK he (D3 (e:=hi) hK hh ⟨n,xs,k,rfl,rfl,hn,h0k,hl,m,hm,Or.inl ⟨_,D2,I,h0,λi l2 H2 h=>⟨(hI i l2 H2 h).1,?_⟩⟩⟩)
 have h2:=(hI i l2 H2 h).2
 cases hx:(xs.take k.toNat)[i]? with
 | none=>exact h2.1 hx
 | some v=>exact h2.2 v hx
theorem brk_out {again:Lq->Hq->Prop} (q:C2 K ss Q l H):M0 K .nil (d9 again (M0 K ss Q)) .brk l H:=q
theorem c_brk (q:Q .brk l H):C2 K (.cons .brk ss) Q l H:=q
theorem Df6 {es:Es} {vs:List Vl} (hK:D5 K) (ha:c9 H l es=some vs) (hl:vs.length<1000000) (m:G9) (hm:H m=none) (q:Q (.ret (.ref m)) l (H.set m (.list vs))):C2 K (.cons (.ret (.list es)) ss) Q l H:=
 J' (es:=es) hK ha ⟨hl,m,hm,q⟩
end rules
theorem Aa7 {a b:Int} (h:b≠0/\b.natAbs<1073741824):binF .mod (.int a) (.int b)=some (.int (a.fmod b)):=by
 show (if b≠0/\b.natAbs<1073741824 then some (V.int (a.fmod b)) else none)=_
 rw [if_pos h]
theorem Bj8 {a b:Int} (h:a.natAbs<1073741824\/b.natAbs<1073741824):binF .mul (.int a) (.int b)=some (.int (a*b)):=by
 show (if a.natAbs<1073741824\/b.natAbs<1073741824 then some (V.int (a*b)) else none)=_
 rw [if_pos h]
theorem Ai5 {a b:Int} (h:0<=b/\b<=1000000/\a.natAbs<2^64):binF .pow (.int a) (.int b)=some (.int (a^b.toNat)):=by
 show (if 0<=b/\b<=1000000/\a.natAbs<2^64 then some (V.int (a^b.toNat)) else none)=_
 rw [if_pos h]
structure Sd (H:Hq) (s:Nat) (xs:List Int) (p:Nat):Prop where
 pr:H (.seedP,s)=some (.list [.ref (.seedL,s),.int (p:Nat)])
 ls:H (.seedL,s)=some (.list (C8 xs))
 lt:p<=xs.length
 sz:xs.length<1000
theorem k_seed {k:Nat} {H:Hq} {n:G9} {ns:List Int} (hn:H n=some (.flist (ns.map V.int))) (hl:ns.length<1000) {tk:Nat} (F:Fr H tk) {Q:Vl->Hq->Prop}
  (q:∀H' xs,Sd H' tk xs 0->(∀t i,i≠tk->H' (t,i)=H (t,i))->Q (.ref (.seedP,tk)) H'):C9 (k+2) .law_seed [.ref n] Q H:=by
 have hK:=C7 k
 have hnt:n.2<tk:=F.lt (t:=n.1) (i:=n.2) hn
 refine D0 rfl ?_
 show C2 (C9 (k+1)) Ai8 _ _ _
 refine T0 hK (vs:=[]) rfl (by decide) (.seedL,tk) (F _ _ (Nat.le_refl _)) ?_
 have hn1:(H.set (.seedL,tk) (.list [])) n=some (.flist (ns.map V.int)):=(B2 (by rintro rfl;simp at hnt)).trans hn
 refine Cg7 (e:=.var .script) (hi:=.int 30) (n:=n) (k:=30) hK rfl rfl (.inr hn1) (by decide) (by simp;exact o96 hl (by decide)) (.seedC,tk) ((B2 (C6 rfl)).trans (F _ _ (Nat.le_refl _)))
  (λi l2 H2=>l2 .seed=some (.ref (.seedL,tk))/\∃xs:List Int,xs.length<=50/\H2 (.seedL,tk)=some (.list (C8 xs))/\∀m,m≠(Tag.seedL,tk)->H2 m=((H.set (.seedL,tk) (.list [])).set (.seedC,tk) (.list ((ns.map V.int).take (30:Int).toNat))) m)
  ⟨rfl,[],by decide,(B2 (C6 rfl)).trans D2,λ_ _=>rfl⟩ ?_
 intro i l2 H2 q_
 exists B7 q_ λe1 B3=>C1 B3 λxs C5=>E6 C5 λhx hL o2=>B5 ?_
 clear C5 q_
 have o2':∀t i,i≠tk->H2 (t,i)=H (t,i):=λt i hi=>by
  rw [o2 _ (by intro e;cases e;exact hi rfl),B2 (by intro e;cases e;exact hi rfl),B2 (by intro e;cases e;exact hi rfl)]
 refine ⟨(o2 _ (C6 rfl)).trans D2,λ_=>?_,λv hv=>?_⟩
 ·have hp:H2 (.seedP,tk)=none:=by
   rw [o2 _ (C6 rfl),B2 (C6 rfl),B2 (C6 rfl)];exact F _ _ (Nat.le_refl _)
  refine Df6 hK (vs:=[.ref (.seedL,tk),.int 0]) (B9 (e:=.var .seed) e1 rfl) (by simp) (.seedP,tk) hp (q _ xs ⟨D2,(B2 (C6 rfl)).trans hL,Nat.zero_le _,o452 hx (by decide)⟩ λt i hi=>?_)
  rw [B2 (by intro e;cases e;exact hi rfl)];exact o2' t i hi
 ·have hvi:∃c:Int,v = .int c:=by
   rw [List.getElem?_take] at hv
   split at hv
   ·rw [List.getElem?_map] at hv
    cases hc:ns[i]? with
    | none=>rw [hc] at hv;cases hv
    | some c=>rw [hc] at hv;cases hv;exact ⟨c,rfl⟩
   ·cases hv
  refine C1 hvi λc C'=>?_
  clear hvi
  subst C'
  refine ⟨l2.set .cell (.int c),rfl,?_⟩
  have g2:pE H2 (l2.set .cell (.int c)) (.bin .mul (.int 2) (.var .cell))=some (.int (2*c)):=(D8 (a:=.int 2) (b:=.var .cell) (x:=2) (y:=c) rfl rfl).trans (Bj8 (.inl (by decide)))
  have gl:∃y:Int,pE H2 (l2.set .cell (.int c)) (.ite (.cmp .ge (.var .cell) (.int 0)) (.bin .add (.int 1) (.bin .mul (.int 2) (.var .cell))) (.bin .sub (.int 0) (.bin .mul (.int 2) (.var .cell))))=some (.int y):=by
   have cc:=E0 (H:=H2) (l:=l2.set .cell (.int c)) (op:=.ge) (a:=.var .cell) (b:=.int 0) (x:=c) (y:=0) rfl rfl
   rw [Dj1 cc]
   cases J0 .ge c 0 with
   | true=>exact ⟨1+2*c,by rw [if_pos rfl];exact D8 (a:=.int 1) (x:=1) rfl g2⟩
   | false=>exact ⟨0-2*c,by rw [if_neg (by decide)];exact D8 (a:=.int 0) (x:=0) rfl g2⟩
  refine C1 gl ?_
  clear gl
  intro y gl
  refine J2 hK gl ?_
  refine U' hK (λm l3 H3=>l3 .seed=some (.ref (.seedL,tk))/\(∃y:Int,l3 .left=some (.int y))/\∃xs:List Int,xs.length+m=50/\H3 (.seedL,tk)=some (.list (C8 xs))/\∀m,m≠(Tag.seedL,tk)->H3 m=H2 m) (50-xs.length)
   ⟨e1,⟨y,rfl⟩,xs,o107 hx,hL,λ_ _=>rfl⟩ ?_
  intro m l3 H3 q_
  exists E6 q_ λb1 C' B3=>C1 B3 λxs3 C5=>E6 C5 λhx3 hL3 o3=>B5 ?_
  clear C5 q_
  refine C1 C' λy b2=>?_
  clear C'
  have lenE:pE H3 l3 (.bi .len (.var .seed))=some (.int (xs3.length:Nat)):=by
   rw [W3 (e:=.var .seed) b1 hL3 (by rw [C3];exact o460 hx3 (by decide)),C3]
  refine ⟨_,E0 (op:=.lt) (b:=.int 50) (y:=50) lenE rfl,?_⟩
  by_cases hlt:xs3.length<50
  ·rw [if_pos (by show decide ((xs3.length:Int)<50)=true;exact decide_eq_true (o461 hlt (by decide)))]
   refine I9 (o:=.var .seed) (v:=.int (y.fmod 167)) hK b1 hL3 ((D8 (a:=.var .left) (b:=.int 167) (x:=y) (y:=167) b2 rfl).trans (Aa7 ⟨by decide,by decide⟩)) (by rw [C3];exact o96 hlt (by decide)) ?_
   rw [P9]
   refine J2 hK (v:=.int (y.fdiv 167)) ((D8 (a:=.var .left) (b:=.int 167) (x:=y) (y:=167) b2 rfl).trans (V9 ⟨by decide,by decide⟩)) ?_
   have fin:∀m',m'≠(Tag.seedL,tk)->(H3.set (.seedL,tk) (.list (C8 (xs3++[y.fmod 167])))) m'=H2 m':=λm' hm'=>(B2 hm').trans (o3 m' hm')
   have cz:=E0 (H:=H3.set (.seedL,tk) (.list (C8 (xs3++[y.fmod 167])))) (l:=l3.set .left (.int (y.fdiv 167))) (op:=.eq) (a:=.var .left) (b:=.int 0) (x:=y.fdiv 167) (y:=0) rfl rfl
   cases hz:J0 .eq (y.fdiv 167) 0 with
   | true=>
    rw [hz] at cz
    refine G6 hK cz (c_brk (brk_out (C0 ⟨b1,xs3++[y.fmod 167],by rw [List.length_append];simp;exact o462 hlt,D2,λm' hm'=>(fin m' hm').trans (o2 m' hm')⟩)))
   | false=>
    rw [hz] at cz
    refine E9 hK cz (C0 (B6 (C0 ⟨m-1,o463 hx3 hlt,b1,⟨_,rfl⟩,xs3++[y.fmod 167],by rw [List.length_append];simp;exact o464 hx3 hlt,D2,fin⟩)))
  ·rw [if_neg (by show ¬decide ((xs3.length:Int)<50)=true;simp;exact o465 hlt (by decide))]
   exact C0 ⟨b1,xs3,o466 hx3,hL3,λm' hm'=>(o3 m' hm').trans (o2 m' hm')⟩
theorem Ab6 {k:Nat} {H:Hq} {s:Nat} {xs:List Int} {p many:Nat} (S:Sd H s xs p) (hm:1<=many) (hm':many<10000) {Q:Vl->Hq->Prop}
  (q:∀H' (v:Nat),v<many->(∃p',Sd H' s xs p')->(∀m,m≠(Tag.seedP,s)->H' m=H m)->Q (.int (v:Nat)) H'):C9 (k+2) .law_from [.ref (.seedP,s),.int (many:Nat)] Q H:=by
 have hK:=C7 k
 have hsz:=S.sz
 have hlt:=S.lt
 refine D0 rfl ?_
 show C2 (C9 (k+1)) Ai9 _ _ _
 generalize hl0:Lc.args Fn.law_from.params [(V.ref (Tag.seedP,s):Vl),V.int (many:Int)]=l0
 have e1:l0 .seed=some (.ref (.seedP,s)):=by rw [<-hl0];rfl
 have e2:l0 .many=some (.int (many:Nat)):=by rw [<-hl0];rfl
 have g1:pE H l0 (.sub (.var .seed) (.int 1))=some (.int (p:Nat)):=by
  rw [J4 (e:=.var .seed) (i:=.int 1) (k:=1) e1 rfl S.pr];rfl
 have g0:pE H l0 (.sub (.var .seed) (.int 0))=some (.ref (.seedL,s)):=by
  rw [J4 (e:=.var .seed) (i:=.int 0) (k:=0) e1 rfl S.pr];rfl
 have gl:pE H l0 (.bi .len (.sub (.var .seed) (.int 0)))=some (.int (xs.length:Nat)):=by
  rw [W3 g0 S.ls (by rw [C3];exact o96 hsz (by decide)),C3]
 have cc:=E0 (op:=.ge) g1 gl
 by_cases hp:xs.length<=p
 ·refine G6 hK (by rw [cc];show some (decide ((xs.length:Int)<=(p:Int)))=_;rw [decide_eq_true (o111 hp)]) ?_
  exact M3 hK (v:=.int ((0:Nat):Int)) rfl (q H 0 (o467 hm) ⟨p,S⟩ λ_ _=>rfl)
 ·refine E9 hK (by rw [cc];show some (decide ((xs.length:Int)<=(p:Int)))=_;rw [decide_eq_false (o468 hp)]) (C0 (B6 ?_))
  refine K5 (k:=1) hK (v:=.int ((p+1:Nat):Int)) (D8 (b:=.int 1) (y:=1) g1 rfl) (o:=.var .seed) e1 (i:=.int 1) rfl S.pr (by decide) (by simp) (by simp) ?_
  have S':Sd (H.set (.seedP,s) (.list ([.ref (.seedL,s),.int ((p+1:Nat):Int)]:List Vl))) s xs (p+1):=⟨D2,(B2 (C6 rfl)).trans S.ls,o469 hp,S.sz⟩
  have hx:xs[p]? = some xs[p]:=List.getElem?_eq_getElem (o470 hp)
  generalize hgx:xs[p]=x at hx
  show C2 (C9 (k+1)) _ _ l0 (H.set (.seedP,s) (.list ([.ref (.seedL,s),.int ((p+1:Nat):Int)]:List Vl)))
  have h1:pE (H.set (.seedP,s) (.list ([.ref (.seedL,s),.int ((p+1:Nat):Int)]:List Vl))) l0 (.sub (.var .seed) (.int 1))=some (.int ((p+1:Nat):Int)):=by
   rw [J4 (e:=.var .seed) (i:=.int 1) (k:=1) e1 rfl S'.pr];rfl
  have h0:pE (H.set (.seedP,s) (.list ([.ref (.seedL,s),.int ((p+1:Nat):Int)]:List Vl))) l0 (.sub (.var .seed) (.int 0))=some (.ref (.seedL,s)):=by
   rw [J4 (e:=.var .seed) (i:=.int 0) (k:=0) e1 rfl S'.pr];rfl
  have h2:pE (H.set (.seedP,s) (.list ([.ref (.seedL,s),.int ((p+1:Nat):Int)]:List Vl))) l0 (.bin .sub (.sub (.var .seed) (.int 1)) (.int 1))=some (.int (p:Nat)):=by
   rw [D8 (b:=.int 1) (y:=1) h1 rfl]
   show some (V.int (((p+1:Nat):Int)-1))=_
   rw [show (((p+1:Nat):Int)-1)=(p:Int) by exact o471]
  have h3:pE (H.set (.seedP,s) (.list ([.ref (.seedL,s),.int ((p+1:Nat):Int)]:List Vl))) l0 (.sub (.sub (.var .seed) (.int 0)) (.bin .sub (.sub (.var .seed) (.int 1)) (.int 1)))=some (.int x):=by
   rw [J4 h0 h2 S'.ls];exact J7 hx (o96 hsz (by decide))
  have hf1:0<=x.fmod many:=Int.fmod_nonneg_of_pos x (o233 hm)
  have hf2:x.fmod many<many:=Int.fmod_lt_of_pos x (o233 hm)
  have h4:pE (H.set (.seedP,s) (.list ([.ref (.seedL,s),.int ((p+1:Nat):Int)]:List Vl))) l0 (.bin .mod (.sub (.sub (.var .seed) (.int 0)) (.bin .sub (.sub (.var .seed) (.int 1)) (.int 1))) (.var .many))=some (.int (((x.fmod many).toNat:Nat):Int)):=by
   rw [D8 (b:=.var .many) h3 e2,Aa7 ⟨o472 hm,o473 hm' (by decide)⟩,show (((x.fmod many).toNat:Nat):Int)=x.fmod many by exact o474 hf1]
  exact M3 hK h4 (q _ _ (o475 hm hf2) ⟨p+1,S'⟩ λm hm=>B2 hm)
noncomputable def fI (v:Nat->Bool):Nat->Int:=λi=>if v i then 1 else 0
noncomputable def z3 (v:Nat->Bool) (l:Nat):Int:=if lv v l then 1 else 0
theorem side_eq (v:Nat->Bool) (l:Nat):(fI v (l/2)+(l:Int)).fmod 2=z3 v l:=by
 unfold fI z3 lv
 rw [Int.fmod_eq_emod_of_nonneg _ (by decide)]
 by_cases h:l%2=1 <;> cases hv:v (l/2) <;> simp [h] <;> (first | exact o377 h | exact o476 h | exact o379 h | exact o477 h)
theorem Di1 {v:Nat->Bool} {a b:Nat}:(z3 v a != z3 v b)=(lv v a != lv v b):=by
 unfold z3;cases lv v a <;> cases lv v b <;> rfl
theorem Eb7 {k:Nat} {H:Hq} {fm:G9} {n:Nat} {v:Nat->Bool} (hf:H fm=some (.list (T4 n (fI v)))) (hn:n<1000) {l:Nat} (hl:l/2<=n) {Q:Vl->Hq->Prop} (q:Q (.int (z3 v l)) H):C9 (k+2) .law_side [.ref fm,.int (l:Nat)] Q H:=by
 have hK:=C7 k
 refine D0 rfl ?_
 show C2 (C9 (k+1)) Ai7 _ _ _
 generalize hl0:Lc.args Fn.law_side.params [(V.ref fm:Vl),V.int (l:Int)]=l0
 have e1:l0 .found=some (.ref fm):=by rw [<-hl0];rfl
 have e2:l0 .literal=some (.int (l:Nat)):=by rw [<-hl0];rfl
 have gd:pE H l0 (.bin .fdiv (.var .literal) (.int 2))=some (.int ((l/2:Nat):Int)):=by
  rw [D8 (a:=.var .literal) (b:=.int 2) (x:=(l:Int)) (y:=2) e2 rfl,V9 ⟨by decide,by decide⟩,Int.fdiv_eq_ediv_of_nonneg _ (by decide)]
  show some (V.int ((l:Int)/2))=_
  rw [show (l:Int)/2=((l/2:Nat):Int) by exact o392]
 have gs:pE H l0 (.sub (.var .found) (.bin .fdiv (.var .literal) (.int 2)))=some (.int (fI v (l/2))):=by
  rw [J4 (e:=.var .found) e1 gd hf]
  rw [Aa1 o73 (o111 hl) hn,show (((l/2:Nat):Int)).toNat=l/2 by exact o77]
 refine M3 hK ?_ q
 rw [D8 (b:=.int 2) (x:=fI v (l/2)+(l:Int)) (y:=2) (D8 (b:=.var .literal) gs e2) rfl,Aa7 ⟨by decide,by decide⟩,side_eq]
noncomputable def U6 (g:Gt) (inp:Nat->Bool):Nat->Nat->Bool
 | 0=>λ_=>false
 | i+1=>λk=>if k=i then (match g[i]? with | some (some (l,r))=>lv (U6 g inp i) l&&lv (U6 g inp i) r | _=>inp i) else U6 g inp i k
noncomputable def evG (g:Gt) (inp:Nat->Bool):Nat->Bool:=U6 g inp g.length
theorem m5 (g:Gt) (inp:Nat->Bool) {i:Nat}:∀{n m},i<n->n<=m->U6 g inp m i=U6 g inp n i
 | n,0,h,h'=>o478 h h'
 | n,m+1,h,h'=>by
  rcases Nat.lt_or_ge m n with hm | hm
  ·have:n=m+1:=o479 h' hm
   rw [this]
  ·show (if i=m then _ else U6 g inp m i)=_
   rw [if_neg (o480 h hm)]
   exact m5 g inp h hm
theorem Da4 (g:Gt) (inp:Nat->Bool):∀{n i},n<=i->U6 g inp n i=false
 | 0,i,_=>rfl
 | n+1,i,h=>by
  show (if i=n then _ else U6 g inp n i)=_
  rw [if_neg (o481 h)]
  exact Da4 g inp (o9 h)
theorem Da5 (g t:Gt) (inp:Nat->Bool):∀{n},n<=g.length->U6 (g++t) inp n=U6 g inp n
 | 0,_=>rfl
 | n+1,h=>by
  funext k
  show (if k=n then (match (g++t)[n]? with | some (some (l,r))=>lv (U6 (g++t) inp n) l&&lv (U6 (g++t) inp n) r | _=>inp n) else U6 (g++t) inp n k)=(if k=n then (match g[n]? with | some (some (l,r))=>lv (U6 g inp n) l&&lv (U6 g inp n) r | _=>inp n) else U6 g inp n k)
  rw [Da5 g t inp (o9 h),List.getElem?_append_left (o482 h)]
theorem ev_app (g t:Gt) (inp:Nat->Bool) {i:Nat} (h:i<g.length):evG (g++t) inp i=evG g inp i:=by
 unfold evG
 rw [m5 (g++t) inp h (by rw [List.length_append];exact o289),Da5 g t inp (Nat.le_refl _)]
theorem Ed5 {ni:Nat} {G:Gr} (K:u6 ni G) {inp:Nat->Bool} (h0:inp 0=false):Evl G.g (evG G.g inp)/\∀i,i<=ni->evG G.g inp i=inp i:=by
 have at_:∀i,i<G.g.length->evG G.g inp i=(match G.g[i]? with | some (some (l,r))=>lv (U6 G.g inp i) l&&lv (U6 G.g inp i) r | _=>inp i):=by
  intro i hi
  unfold evG
  rw [m5 G.g inp (Nat.lt_succ_self i) hi]
  show (if i=i then _ else _)=_
  rw [if_pos rfl]
 have hpos:=K.pos
 have low:∀i,i<=ni->evG G.g inp i=inp i:=λi hi=>by rw [at_ i (o212 hi hpos),K.nn i hi]
 refine ⟨⟨by rw [low 0 (Nat.zero_le _)];exact h0,λi l r e=>?_⟩,low⟩
 have hi:=(List.getElem?_eq_some_iff.mp e).1
 refine E6 (K.ok i l r e) λk1 k2 _=>?_
 rw [at_ i hi,e]
 have lo:∀x,x/2<i->lv (U6 G.g inp i) x=lv (evG G.g inp) x:=λx hx=>by
  unfold lv evG
  rw [m5 G.g inp hx (Nat.le_of_lt hi)]
 show (lv (U6 G.g inp i) l&&lv (U6 G.g inp i) r)=_
 rw [lo l k1,lo r k2]
noncomputable def M2 (line:Nat):Nat->Bool:=λi=>if i=0 then false else decide (line/2^(i-1)%2=1)
noncomputable def inZ (ni:Nat):List Int:=(List.range ni).map λi=>((i+1:Nat):Int)
theorem Ec5 (ni:Nat):inL ni=C8 (inZ ni):=by unfold inL E8 C8 inZ;rw [List.map_map,List.map_map];rfl
theorem Ec4 {ni i:Nat}:(inZ ni).contains ((i:Nat):Int)=decide (1<=i/\i<=ni):=by
 rw [Bool.eq_iff_iff,List.contains_iff_mem,decide_eq_true_iff]
 unfold inZ
 rw [List.mem_map]
 constructor
 ·intro q_
  exists C1 q_ λa B3=>B7 B3 λha e=>B5 ?_
  clear q_
  have:=List.mem_range.mp ha
  exact o483 e this
 ·intro q_
  refine B7 q_ λh1 h2=>?_
  clear q_
  exact ⟨i-1,List.mem_range.mpr (o484 h1 h2),o485 h1⟩
theorem inZ_idx {ni i:Nat} (h4:ni<=4) (h:i<ni):(inZ ni).idxOf? ((i+1:Nat):Int)=some i:=by
 have hn:ni=1\/ni=2\/ni=3\/ni=4:=o486 h4 h
 have hi:i=0\/i=1\/i=2\/i=3:=o487 h h4
 rcases hn with rfl | rfl | rfl | rfl <;> rcases hi with rfl | rfl | rfl | rfl <;> first | exact absurd h (by decide) | decide
theorem fI_upd {v:Nat->Bool} {i:Nat} {b:Bool}:upd (fI v) i (if b then 1 else 0)=fI (λk=>if k=i then b else v k):=by
 funext k
 unfold upd fI
 by_cases h:k=i <;> simp [h]
theorem k_bits {k:Nat} {H:Hq} {j ni:Nat} {G:Gr} (A:Av H j ni G) (K:u6 ni G) (hs:G.g.length<500) (h4:ni<=4) {line tk:Nat} (F:Fr H tk) {Q:Vl->Hq->Prop}
  (q:∀H',H' (.big,tk)=some (.list (T4 (G.g.length-1) (fI (evG G.g (M2 line)))))->(∀m,m≠(Tag.big,tk)->H' m=H m)->Q (.ref (.big,tk)) H'):
  C9 (k+3) .law_bits [.ref (.aig,j),.int (line:Nat)] Q H:=by
 have hK:=C7 (k+1)
 have hpos:=K.pos
 refine D0 rfl ?_
 show C2 (C9 (k+2)) Aj0 _ _ _
 generalize hl0:Lc.args Fn.law_bits.params [(V.ref (Tag.aig,j):Vl),V.int (line:Int)]=l0
 have e1:l0 .aig=some (.ref (.aig,j)):=by rw [<-hl0];rfl
 have e2:l0 .line=some (.int (line:Nat)):=by rw [<-hl0];rfl
 have lenE:∀{H':Hq} {l':Lq},Av H' j ni G->l' .aig=some (.ref (.aig,j))->pE H' l' (.bi .len (.attr (.var .aig) .nodes))=some (.int (G.g.length:Nat)):=λA' h=>by
  rw [W3 (M9 A' (e:=.var .aig) h .nodes) A'.nodes (by rw [E3];exact o96 hs (by decide)),E3]
 refine Aa4 hK (v:=.int 0) (k:=(G.g.length:Nat)) rfl (lenE A e1) o73 (o403 hs (by decide)) trivial (.big,tk) (F _ _ (Nat.le_refl _)) ?_
 have ev:List.replicate (((G.g.length:Nat):Int)).toNat (V.int 0:Vl)=T4 (G.g.length-1) (fI (U6 G.g (M2 line) 0)):=by
  show _=T4 (G.g.length-1) λ_=>0
  rw [<-m8,show G.g.length-1+1=G.g.length by exact o494 hpos,show (((G.g.length:Nat):Int)).toNat=G.g.length by exact o77]
 rw [ev]
 have keepA:∀o,Av (H.set (.big,tk) o) j ni G:=λo=>⟨(B2 (C6 rfl)).trans A.self,(B2 (C6 rfl)).trans A.nodes,(B2 (C6 rfl)).trans A.inputs,(B2 (C6 rfl)).trans A.table⟩
 refine P5 hK (B9 (lenE (keepA _) (l':=l0.set .found (.ref (.big,tk))) e1) rfl) rfl (o413 hs (by decide))
  (λi l2 H2=>i<=G.g.length/\l2 .aig=some (.ref (.aig,j))/\l2 .line=some (.int (line:Nat))/\l2 .found=some (.ref (.big,tk))/\H2=H.set (.big,tk) (.list (T4 (G.g.length-1) (fI (U6 G.g (M2 line) i))))) ⟨Nat.zero_le _,e1,e2,rfl,rfl⟩ ?_
 intro i l2 H2 q_
 refine un5 q_ λhi a1 a2 a3 C'=>?_
 clear q_
 subst C'
 constructor
 ·intro hend
  rw [G7] at hend
  have hie:i=G.g.length:=by
   split at hend
   ·cases hend
   ·exact o173 hi ‹_›
  rw [hie]
  exact M3 hK (v:=.ref (.big,tk)) a3 (q _ D2 λm hm=>B2 hm)
 ·intro v hv
  rw [G7] at hv
  split at hv
  ·rename_i hlt
   cases hv
   rw [Int.zero_add]
   have hil:i<G.g.length:=o495 hlt
   refine ⟨l2.set .spot (.int (i:Nat)),rfl,?_⟩
   have A2:=keepA (.list (T4 (G.g.length-1) (fI (U6 G.g (M2 line) i))))
   have hin:(H.set (.big,tk) (.list (T4 (G.g.length-1) (fI (U6 G.g (M2 line) i))))) (.inputs,j)=some (.list (C8 (inZ ni))):=by rw [<-Ec5];exact A2.inputs
   have hng:G.g[i]? = some G.g[i]:=List.getElem?_eq_getElem hil
   generalize hgo:G.g[i]=o at hng
   have stp:∀b:Bool,(match G.g[i]? with | some (some (l,r))=>lv (U6 G.g (M2 line) i) l&&lv (U6 G.g (M2 line) i) r | _=>M2 line i)=b->upd (fI (U6 G.g (M2 line) i)) i (if b then 1 else 0)=fI (U6 G.g (M2 line) (i+1)):=by
    intro b hb
    rw [fI_upd,<-hb];rfl
   refine Da3 (a:=.var .spot) (b:=.attr (.var .aig) .inputs) hK rfl (M9 A2 (e:=.var .aig) (l:=l2.set .spot (.int (i:Nat))) a1 .inputs) hin ?_
   by_cases hc:1<=i/\i<=ni
   ·rw [if_pos (by rw [Ec4];exact decide_eq_true hc)]
    have hidx:=inZ_idx (ni:=ni) (i:=i-1) h4 (o209 hc)
    rw [show i-1+1=i by exact o210 hc] at hidx
    have hb:(match G.g[i]? with | some (some (l,r))=>lv (U6 G.g (M2 line) i) l&&lv (U6 G.g (M2 line) i) r | _=>M2 line i)=M2 line i:=by rw [K.nn i hc.2]
    have pw:((2:Int)^(((i-1:Nat):Int)).toNat)=((2^(i-1):Nat):Int):=by
     rw [show (((i-1:Nat):Int)).toNat=i-1 by exact o77];push_cast;rfl
    have hp16:2^(i-1)<=8:=by
     have:i=1\/i=2\/i=3\/i=4:=o496 hc h4
     rcases this with h | h | h | h <;> rw [h] <;> decide
    have hp1:1<=2^(i-1):=Nat.one_le_two_pow
    have hinp:M2 line i=decide (line/2^(i-1)%2=1):=by unfold M2;rw [if_neg (o497 hc)]
    generalize hPP:2^(i-1)=P at pw hp16 hp1 hinp
    have val:U4 (C9 (k+2)) (.bin .mod (.bin .fdiv (.var .line) (.bin .pow (.int 2) (.bm .index (.attr (.var .aig) .inputs) (.cons (.var .spot) .nil)))) (.int 2)) (l2.set .spot (.int (i:Nat))) (H.set (.big,tk) (.list (T4 (G.g.length-1) (fI (U6 G.g (M2 line) i))))) (.int (if M2 line i then 1 else 0)):=by
     refine Be5 (va:=.int ((line:Int).fdiv (P:Int))) (vb:=.int 2) (Be5 (va:=.int (line:Nat)) (vb:=.int (P:Int)) (Be4 (e:=.var .line) hK a2) (Be5 (va:=.int 2) (vb:=.int ((i-1:Nat):Int)) (Be4 (e:=.int 2) hK rfl) (Ed4 (a:=.var .spot) hK (M9 A2 (e:=.var .aig) (l:=l2.set .spot (.int (i:Nat))) a1 .inputs) hin (by simp [inZ];exact o498 h4) rfl hidx) ?_) ?_) (Be4 (e:=.int 2) hK rfl) ?_
     ·rw [Ai5 ⟨o73,o499 hlt hs (by decide),by decide⟩,pw]
     ·exact V9 ⟨o472 hp1,o500 hp16⟩
     ·rw [Aa7 ⟨by decide,by decide⟩,Int.fdiv_eq_ediv_of_nonneg _ (Int.natCast_nonneg _),Int.fmod_eq_emod_of_nonneg _ (by decide)]
      rw [hinp]
      have hd:((line:Int)/(P:Int))=((line/P:Nat):Int):=by push_cast;rfl
      have key:∀x:Nat,(x:Int)%2=if decide (x%2=1)=true then 1 else 0:=by
       intro x
       by_cases h:x%2=1
       ·rw [decide_eq_true h,if_pos rfl];exact o377 h
       ·rw [decide_eq_false h,if_neg (by decide)];exact o379 h
      rw [hd,key]
    refine Ah9 (k:=((i:Nat):Int)) hK val (o:=.var .found) a3 (i:=.var .spot) rfl D2 o73 (by rw [E5];exact o501 hlt) (by rw [E5];exact o406 hs (by decide)) ?_
    rw [show (((i:Nat):Int)).toNat=i by exact o77,T3,u8,stp _ hb]
    exact C0 (B6 (C0 ⟨o172 hlt,a1,a2,a3,rfl⟩))
   ·rw [if_neg (by rw [Ec4];simpa using hc)]
    have gnd:pE (H.set (.big,tk) (.list (T4 (G.g.length-1) (fI (U6 G.g (M2 line) i))))) (l2.set .spot (.int (i:Nat))) (.sub (.attr (.var .aig) .nodes) (.var .spot))=some (ndV o):=by
     rw [J4 (k:=((i:Nat):Int)) (M9 A2 (e:=.var .aig) (l:=l2.set .spot (.int (i:Nat))) a1 .nodes) (i:=.var .spot) rfl A2.nodes,k8 hng (o96 hs (by decide))]
    have cn:pC (H.set (.big,tk) (.list (T4 (G.g.length-1) (fI (U6 G.g (M2 line) i))))) (l2.set .spot (.int (i:Nat))) (.notNone (.sub (.attr (.var .aig) .nodes) (.var .spot)))=some (!(ndV o).isNone):=by
     exact b1 _ gnd
    cases o with
    | none=>
     have h0:i=0:=by
      rcases Nat.eq_zero_or_pos i with h | h
      ·exact h
      ·have hni:ni<i:=o502 h hc
       refine J8 (K.sm i hni hil) λl r e=>?_
       rw [hng] at e;cases e
     refine E9 hK cn (C0 (B6 (C0 (B6 ?_))))
     have:fI (U6 G.g (M2 line) i)=fI (U6 G.g (M2 line) (i+1)):=by
      funext k
      show (if U6 G.g (M2 line) i k=true then (1:Int) else 0)=(if (if k=i then _ else U6 G.g (M2 line) i k)=true then (1:Int) else 0)
      by_cases hk:k=i
      ·rw [if_pos hk,hk,Da4 G.g _ (Nat.le_refl _),hng,h0];rfl
      ·rw [if_neg hk]
     rw [this]
     exact C0 ⟨o172 hlt,a1,a2,a3,rfl⟩
    | some p=>
     obtain ⟨l,r⟩:=p
     refine E6 (K.ok i l r hng) λk1 k2 _=>?_
     have hb:(match G.g[i]? with | some (some (l,r))=>lv (U6 G.g (M2 line) i) l&&lv (U6 G.g (M2 line) i) r | _=>M2 line i)=(lv (U6 G.g (M2 line) i) l&&lv (U6 G.g (M2 line) i) r):=by rw [hng]
     refine G6 hK cn ?_
     have sd:∀(x:Nat) (e:E),x/2<i->pE (H.set (.big,tk) (.list (T4 (G.g.length-1) (fI (U6 G.g (M2 line) i))))) (l2.set .spot (.int (i:Nat))) e=some (.int (x:Nat)) ->
       U4 (C9 (k+2)) (.call .law_side (.cons (.var .found) (.cons e .nil))) (l2.set .spot (.int (i:Nat))) (H.set (.big,tk) (.list (T4 (G.g.length-1) (fI (U6 G.g (M2 line) i))))) (.int (z3 (U6 G.g (M2 line) i) x)):=
      λx e hx he=>Cj6 hK (B9 (e:=.var .found) a3 (B9 he rfl)) λR hR=>Eb7 (k:=k) D2 (o416 hs (by decide)) (o503 hlt hx) hR
     have val:=Be5 (op:=.mul) (r:=.int (if (lv (U6 G.g (M2 line) i) l&&lv (U6 G.g (M2 line) i) r) then 1 else 0)) (sd l _ k1 (t8 (i:=.int 0) gnd rfl rfl)) (sd r _ k2 (t8 (i:=.int 1) gnd rfl rfl)) (by
      unfold z3
      cases lv (U6 G.g (M2 line) i) l <;> cases lv (U6 G.g (M2 line) i) r <;> rfl)
     refine Ah9 (k:=((i:Nat):Int)) hK val (o:=.var .found) a3 (i:=.var .spot) rfl D2 o73 (by rw [E5];exact o501 hlt) (by rw [E5];exact o406 hs (by decide)) ?_
     rw [show (((i:Nat):Int)).toNat=i by exact o77,T3,u8,stp _ hb]
     exact C0 (B6 (C0 (B6 (C0 ⟨o172 hlt,a1,a2,a3,rfl⟩))))
  ·cases hv
noncomputable def forBody:Ss->Ss | .cons (.for_ _ _ b) _=>b | _=>.nil
noncomputable def Ci7:Ss:=forBody (Ac4 (Ac4 (Ac4 (Ac4 (Ac4 (Ac4 (Ac4 Ee7)))))))
section rules
variable {K:Calls G9} {H:Hq} {l:Lq} {ss:Ss} {Q:Fl G9->Lq->Hq->Prop}
theorem Cg2 {f:Fn} {args:Es} {x:Vr} (q:Q' K args l (λvs H1=>K f vs (λv H'=>C2 K ss Q (l.set x v) H') H1) H):C2 K (.cons (.set x (.call f args)) ss) Q l H:=q
theorem Bf6 {a b:E} {n m:G9} {es:List (Int×Vl)} {ep:Nat} {xs:List Int} {R:Bool->Hq->Prop} (hK:D5 K) (ha:pE H l a=some (.ref n)) (hn:H n=some (.idict es ep)) (he:es.length<1000) (hb:pE H l b=some (.ref m)) (hm:H m=some (.list (C8 xs))) (hx:xs.length<1000)
  (q:R (es.isEmpty != xs.isEmpty) H):wpOr K (.cons (.cmp .ne (.eqDict0 a) (.eqList0 b)) .nil) l R H:=by
 refine D3 (e:=a) hK ha ⟨n,es,ep,rfl,hn,he,D3 (e:=b) hK hb ⟨m,xs,rfl,hm,hx,?_⟩⟩
 show if (es.isEmpty != xs.isEmpty)=true then R true H else R false H
 cases h:(es.isEmpty != xs.isEmpty) with
 | true=>rw [if_pos rfl];rw [h] at q;exact q
 | false=>rw [if_neg (by decide)];rw [h] at q;exact q
theorem Cg6 {b:E} {n:G9} {xs:List Int} {t u:Ss} (hK:D5 K) (hb:pE H l b=some (.ref n)) (hn:H n=some (.list (C8 xs))) (hx:xs.length<=100) (m:G9) (hm:H m=none)
  (q:if decide (xs=[])=true then C2 K t (M0 K ss Q) l (H.set m (.list [])) else C2 K u (M0 K ss Q) l (H.set m (.list []))):C2 K (.cons (.ite (.cmp .eq b (.list .nil)) t u) ss) Q l H:=by
 refine D3 (e:=b) hK hb ⟨by decide,m,hm,?_⟩
 exact ⟨xs,[],(B2 (by rintro rfl;rw [hn] at hm;cases hm)).trans hn,D2,hx,by decide,q⟩
theorem c_cont (q:Q .cont l H):C2 K (.cons .cont ss) Q l H:=q
theorem Bb9 {a b:E} {cs:Cs} {n m':G9} {es:List (Int×Vl)} {ep:Nat} {ys:List Int} {R:Bool->Hq->Prop} (hK:D5 K) (ha:pE H l a=some (.ref n)) (hn:H n=some (.idict es ep)) (he:es.length<60) (m:G9) (hm:H m=none)
  (hb:pE (H.set m (.list (((es.map (·.1)).mergeSort).map V.int))) l b=some (.ref m')) (hm':H m'=some (.list (C8 ys))) (hy:ys.length<=100) (hs:(es.map (·.1)).mergeSort=ys)
  (q:wpOr K cs l R (H.set m (.list (C8 ys)))):wpOr K (.cons (.cmp .ne (.bi .sorted a) b) cs) l R H:=by
 refine D3 (e:=a) hK ha ⟨es,ep,hn,he,m,hm,D3 (e:=b) hK hb ?_⟩
 have hne:m'≠m:=by rintro rfl;rw [hm] at hm';cases hm'
 refine ⟨ys,ys,by rw [hs];exact D2,(B2 hne).trans hm',hy,hy,?_⟩
 show if decide (ys≠ys)=true then _ else _
 rw [if_neg (by simp),hs];exact q
theorem Ba0 {x:Vr} {e:E} (q:O0 K e l (λv H1=>biOp .sum v (λr H2=>C2 K ss Q (l.set x r) H2) H1) H):C2 K (.cons (.set x (.bi .sum e)) ss) Q l H:=q
theorem Dh0 {R:Bool->Hq->Prop} (q:R true H):W1 K .nil l R H:=q
theorem Ch5 {e i:E} {n:G9} {k:Int} {es:List (Int×Vl)} {ep:Nat} {v:Vl} (he:pE H l e=some (.ref n)) (hi:pE H l i=some (.int k)) (hn:H n=some (.idict es ep)) (h:es.lookup k=some v):pE H l (.sub e i)=some v:=(Bd0 he hi).trans ((b1 _ hn).trans h)
theorem De9 {a b:E} {x:Int} {xs:List Int} {R:Vl->Hq->Prop} (hK:D5 K) (ha:pE H l a=some (.int x)) (hb:pE H l b=some (.tup (xs.map V.int))) (q:R (.bool (xs.contains x)) H):O0 K (.isIn a b) l R H:=
 D3 (e:=a) hK ha (D3 (e:=b) hK hb ⟨xs,rfl,q⟩)
theorem Cb8 {elt e:E} {y:Vr} {n:G9} {es:List (Int×Vl)} {ep:Nat} {R:Bool->Hq->Prop} (hK:D5 K) (he:pE H l e=some (.ref n)) (hn:H n=some (.idict es ep)) (hl:es.length<1000000) (m:G9) (hm:H m=none)
  (helt:∀(k:Int) (v:Vl) (R:Vl->Hq->Prop),(k,v)∈es->R (.bool true) H->O0 K elt (l.set y (.int k)) R H) (q:R false (H.set m (.list ((List.replicate es.length true).map V.bool)))):
  wpOr K (.cons (.isIn (.bool false) (.comp elt y (.seq e) .nil)) .nil) l R H:=by
 refine D3 (e:=e) hK he (Or.inr ⟨es,ep,hn,λi acc H2=>H2=H/\i<=es.length/\acc=(List.replicate i true).map V.bool,⟨rfl,Nat.zero_le _,rfl⟩,?_⟩)
 intro i acc H2 q_
 refine byc λB5=>B7 q_ λC' B3=>?_
 clear q_
 subst C'
 refine B7 B3 λhi U5=>B5 ?_
 clear B3 B5
 subst U5
 refine ⟨hn,by simp;exact o212 hi hl,?_⟩
 cases hx:es[i]? with
 | none=>
  rw [List.getElem?_map,hx]
  have hie:i=es.length:=by
   rw [List.getElem?_eq_none_iff] at hx;exact o298 hi hx
  subst hie
  refine ⟨m,hm,List.replicate es.length true,D2,?_⟩
  show if (List.replicate es.length true).contains false=true then R true _ else R false _
  rw [if_neg (by simp)];exact q
 | some kv=>
  rw [List.getElem?_map,hx]
  obtain ⟨k,v⟩:=kv
  have hil:=(List.getElem?_eq_some_iff.mp hx).1
  refine Dh0 ?_
  rw [if_pos rfl]
  refine helt k v _ (List.mem_of_getElem? hx) ⟨rfl,o168 hil,?_⟩
  rw [List.replicate_succ',List.map_append];rfl
end rules
theorem Ce3 (D:List Nat):E8 D=C8 (D.map λn:Nat=>(n:Int)):=by unfold E8 C8;rw [List.map_map];rfl
noncomputable def W8 (α:Nat->Bool):Nat->Nat | 0=>0 | n+1=>W8 α n+(if α (n+2) then 2^n else 0)
theorem Bc7 (α:Nat->Bool):∀n,W8 α n<2^n
 | 0=>Nat.zero_lt_one
 | n+1=>by
  have:=Bc7 α n
  show W8 α n+(if α (n+2) then 2^n else 0)<2^(n+1)
  rw [Nat.pow_succ]
  split <;> (first | exact o504 this | exact o505 this)
theorem Bg7 (α:Nat->Bool):∀{n i},i<n->decide (W8 α n/2^i%2=1)=α (i+2)
 | 0,i,h=>o506 h
 | n+1,i,h=>by
  show decide ((W8 α n+(if α (n+2) then 2^n else 0))/2^i%2=1)=_
  have hp:0<2^i:=Nat.two_pow_pos i
  rcases Nat.lt_or_ge i n with hi | hi
  ·rw [<-Bg7 α hi]
   cases α (n+2) with
   | false=>rw [if_neg (by decide),Nat.add_zero]
   | true=>
    rw [if_pos rfl]
    have e:2^n=2^i*(2*2^(n-i-1)):=by
     rw [<-Nat.pow_succ',<-Nat.pow_add];congr 1;exact o507 hi
    rw [e,Nat.add_mul_div_left _ _ hp]
    congr 1
    rw [eq_iff_iff]
    exact o508
  ·have hin:i=n:=o360 h hi
   subst hin
   have hlt:=Bc7 α i
   cases α (i+2) with
   | false=>rw [if_neg (by decide),Nat.add_zero,Nat.div_eq_of_lt hlt];rfl
   | true=>
    rw [if_pos rfl]
    have:(W8 α i+2^i)/2^i=1:=by
     have h:=Nat.add_mul_div_left (W8 α i) 1 hp
     rw [Nat.mul_one,Nat.div_eq_of_lt hlt] at h
     exact h
    rw [this];rfl
theorem Ec3 (α:Nat->Bool) {ni i:Nat} (h1:1<=i) (h2:i<=ni):M2 (W8 α ni) i=α (i+1):=by
 unfold M2
 rw [if_neg (o300 h1),Bg7 α (show i-1<ni by exact o484 h1 h2)]
 congr 1;exact o509 h1
noncomputable def rowT (α:Nat->Bool) (at_:Nat):Int:=(if α (at_+2) then 1 else 0)*((2^at_:Nat):Int)
theorem Bg6 (α:Nat->Bool):∀n,((List.range n).map (rowT α)).sum=((W8 α n:Nat):Int)
 | 0=>rfl
 | n+1=>by
  rw [List.range_succ,List.map_append,List.sum_append,Bg6 α n]
  show _+(rowT α n+0)=((W8 α n+(if α (n+2) then 2^n else 0):Nat):Int)
  unfold rowT
  cases α (n+2) <;> simp
theorem m6 (α:Nat->Bool):∀{n i},i<n->(M8 n α).lookup ((i+1:Nat):Int)=some (bitI (α (i+2)))
 | 0,i,h=>o506 h
 | n+1,i,h=>by
  have e:M8 (n+1) α=M8 n α++[(((n+1:Nat):Int),bitI (α (n+2)))]:=by unfold M8;rw [List.range_succ,List.map_append];rfl
  rw [e,List.lookup_append]
  rcases Nat.lt_or_ge i n with hi | hi
  ·rw [m6 α hi];rfl
  ·have hin:i=n:=o360 h hi
   subst hin
   have hno:(M8 i α).lookup ((i+1:Nat):Int)=none:=by
    rw [List.lookup_eq_none_iff]
    intro p hp
    exists C1 (List.mem_map.mp hp) λa B3=>B7 B3 λha C'=>B5 ?_
    subst C'
    have:=List.mem_range.mp ha
    simp;exact o510 this
   rw [hno,Option.none_or,List.lookup_cons]
   simp
theorem Cg8 (n:Nat) (α:Nat->Bool):((M8 n α).map (·.1)).mergeSort=inZ n:=by
 have e:(M8 n α).map (·.1)=inZ n:=by unfold M8 inZ;rw [List.map_map];rfl
 rw [e]
 refine List.mergeSort_of_pairwise ?_
 unfold inZ
 rw [List.pairwise_map]
 refine List.pairwise_lt_range.imp λh=>?_
 simp;exact o112 h
noncomputable def dfR (g:Gt) (p q:Nat) (line:Nat):Bool:=lv (evG g (M2 line)) p != lv (evG g (M2 line)) q
noncomputable def f7 (g:Gt) (ni p q:Nat):List Nat:=(List.range (2^ni)).filter (dfR g p q)
theorem Bd6 {g t:Gt} {inp:Nat->Bool} {p:Nat} (h:p<2*g.length):lv (evG (g++t) inp) p=lv (evG g inp) p:=by
 unfold lv;rw [ev_app g t inp (o445 h)]
theorem Db3 {ni p q:Nat} {G G':Gr} (K':u6 ni G') (h:∃t,G'.g=G.g++t/\t.length<=3) (hp:p<2*G.g.length) (hq:q<2*G.g.length) {es:List (Int×Vl)} (T:Told ni G'.g p q es):
  (es=[]/\f7 G.g ni p q=[])\/∃α,es=M8 ni α/\W8 α ni∈f7 G.g ni p q:=by
 exists C1 h λt B3=>B7 B3 λe _=>B5 ?_
 clear h
 rcases T with q_ | q_
 ·refine B7 q_ λh1 h2=>?_
  clear q_
  refine .inl ⟨h1,?_⟩
  unfold f7
  rw [List.filter_eq_nil_iff]
  intro line _
  have E:=(Ed5 K' (inp:=M2 line) rfl).1
  have:=h2 _ E
  rw [e,Bd6 hp,Bd6 hq] at this
  unfold dfR
  rw [this];simp
 ·exists C1 q_ λα B3=>B7 B3 λh1 h2=>B5 ?_
  clear q_
  refine .inr ⟨α,h1,?_⟩
  unfold f7
  rw [List.mem_filter,List.mem_range]
  refine ⟨Bc7 α ni,?_⟩
  refine B7 (Ed5 K' (inp:=M2 (W8 α ni)) rfl) λE Ein=>?_
  have:=h2 _ E λi h1 h2=>by rw [Ein i h2,Ec3 α h1 h2]
  rw [e,Bd6 hp,Bd6 hq] at this
  unfold dfR
  simpa using this
set_option maxHeartbeats 800000 in
theorem k_turn {k:Nat} {H:Hq} {j ni nb:Nat} {G:Gr} (A:Av H j ni G) (K:u6 ni G) (hs:G.g.length<90) (h2':1<=ni) (h4:ni<=4) (h1:ni+1<=nb) (h6:nb<=ni+7) (hnb:nb<=G.g.length) {p r tk:Nat} (hp:p<2*nb) (hr:r<2*nb) (F:Fr H tk)
  {l1:Lq} (e1:l1 .aig=some (.ref (.aig,j))) (e2:l1 .many=some (.int (ni:Nat))) (e3:l1 .first=some (.int (p:Nat))) (e4:l1 .second=some (.int (r:Nat))) {Q:Fl G9->Lq->Hq->Prop}
  (q:∀H' G' tk' l' fl,(fl = .next\/fl = .cont)->Av H' j ni G'->u6 ni G'->(∃t,G'.g=G.g++t/\t.length<=3)->Fr H' tk'->Ab0 tk H H'->l' .aig=l1 .aig->l' .many=l1 .many->l' .left=l1 .left->l' .right=l1 .right->Q fl l' H'):
  C2 (C9 (k+7)) Ci7 Q l1 H:=by
 have hK:=C7 (k+6)
 have hj:=F.lt A.self
 have hpos:=K.pos
 have hN:2^ni<=16:=by
  have:ni=1\/ni=2\/ni=3\/ni=4:=o511 h2' h4
  rcases this with rfl | rfl | rfl | rfl <;> decide
 obtain ⟨N,hNe⟩:∃N,N=2^ni:=⟨_,rfl⟩
 rw [<-hNe] at hN
 refine T0 hK (vs:=[]) rfl (by decide) (.differs,tk) (F _ _ (Nat.le_refl _)) ?_
 have rE:c9 (H.set (.differs,tk) (.list [])) (l1.set .differs (.ref (.differs,tk))) (.cons (.bin .pow (.int 2) (.var .many)) .nil)=some [.int (N:Int)]:=by
  refine B9 ?_ rfl
  refine (D8 (l:=l1.set .differs (.ref (.differs,tk))) (a:=.int 2) (b:=.var .many) (x:=2) (y:=(ni:Int)) rfl e2).trans ?_
  rw [Ai5 ⟨o73,o512 h4,by decide⟩,show ((ni:Int)).toNat=ni by exact o77,hNe]
  push_cast;rfl
 have A0:Av (H.set (.differs,tk) (.list [])) j ni G:=A.old hj (OldF.set (Nat.le_refl _))
 refine P5 hK rE rfl (o513 hN (by decide)) (λi l2 H2=>i<=N/\l2 .aig=some (.ref (.aig,j))/\l2 .many=some (.int (ni:Nat))/\l2 .first=some (.int (p:Nat))/\l2 .second=some (.int (r:Nat))/\l2 .differs=some (.ref (.differs,tk))/\l2 .left=l1 .left/\l2 .right=l1 .right /\
   H2 (.differs,tk)=some (.list (E8 ((List.range i).filter (dfR G.g p r))))/\Fr H2 (tk+1+i)/\OldF tk H H2) ⟨Nat.zero_le _,e1,e2,e3,e4,rfl,rfl,rfl,D2,F.set (Nat.lt_succ_self _) (Nat.le_succ _),OldF.set (Nat.le_refl _)⟩ ?_
 intro i l2 H2 q_
 refine un11 q_ λhi a1 a2 a3 a4 a5 a6 a7 hD F2 O2=>?_
 clear q_
 have A2:=A.old hj O2
 have hflen:∀n,((List.range n).filter (dfR G.g p r)).length<=n:=λn=>by
  have:=List.length_filter_le (dfR G.g p r) (List.range n)
  rw [List.length_range] at this;exact this
 constructor
 ·intro hend
  rw [G7] at hend
  have hie:N=i:=by
   split at hend
   ·cases hend
   ·exact o514 hi ‹_›
  subst hie
  have hD:H2 (.differs,tk)=some (.list (E8 (f7 G.g ni p r))):=by unfold f7;rw [<-hNe];exact hD
  have hDl:(f7 G.g ni p r).length<=16:=by unfold f7;rw [<-hNe];exact Nat.le_trans (hflen _) hN
  refine Cg2 ?_
  refine f6 hK (e:=.var .aig) a1 (f6 hK (e:=.var .first) a3 (f6 hK (e:=.var .second) a4 ?_))
  refine De8 hK (M9 A2 (e:=.var .aig) a1 .inputs) A2.inputs (by simp [inL,E8];exact o498 h4) (.inCopy,tk+1+N) (F2 _ _ (Nat.le_refl _)) ?_
  refine f6 hK (v:=.int 1000) rfl (w4 ?_)
  have O3:OldF tk H (H2.set (.inCopy,tk+1+N) (.list (inL ni))):=O2.trans (OldF.set o515)
  have A3:=A.old hj O3
  have hD3:(H2.set (.inCopy,tk+1+N) (.list (inL ni))) (.differs,tk)=some (.list (E8 (f7 G.g ni p r))):=(B2 (C6 rfl)).trans hD
  have F3:Fr (H2.set (.inCopy,tk+1+N) (.list (inL ni))) (tk+2+N):=F2.set o516 o517
  refine k_sd (k:=k+1) A3 K hs h4 h1 h6 hnb hp hr F3 D2 λH4 G' t es ep tk' A4 K' hx F4 k4 hb TD=>?_
  have hD4:H4 (.differs,tk)=some (.list (E8 (f7 G.g ni p r))):=(k4 _ _ rfl o518).trans hD3
  have k5:Ab0 tk H H4:=λt i ht hi=>(k4 t i ht (o519 hi)).trans (O3 (t,i) hi)
  have TR:=Db3 K' hx (o448 hp hnb) (o448 hr hnb) TD
  generalize hl3:l2.set .told (.ref (.bits,t))=l3
  have b1:l3 .aig=some (.ref (.aig,j)):=by rw [<-hl3];exact a1
  have b2:l3 .many=some (.int (ni:Nat)):=by rw [<-hl3];exact a2
  have b5:l3 .differs=some (.ref (.differs,tk)):=by rw [<-hl3];exact a5
  have b6:l3 .left=l1 .left:=by rw [<-hl3];exact a6
  have b7:l3 .right=l1 .right:=by rw [<-hl3];exact a7
  have b8:l3 .told=some (.ref (.bits,t)):=by rw [<-hl3];rfl
  have c1:l3 .aig=l1 .aig:=by rw [b1,e1]
  have c2:l3 .many=l1 .many:=by rw [b2,e2]
  clear hl3
  rw [Ce3] at hD4
  have hesl:es.length<60:=by
   rcases TR with ⟨h,_⟩ | ⟨α,h,_⟩ <;> rw [h] <;> simp [M8];exact o520 h4
  have heq:es.isEmpty=((f7 G.g ni p r).map λn:Nat=>(n:Int)).isEmpty:=by
   rcases TR with q_ | q_
   ·refine B7 q_ λh h'=>?_
    clear q_
    rw [h,h'];rfl
   ·exists C1 q_ λα B3=>B7 B3 λh h'=>B5 ?_
    clear q_
    rw [h]
    cases hd:f7 G.g ni p r with
    | nil=>rw [hd] at h';cases h'
    | cons x xs=>
     obtain ⟨m,rfl⟩:∃m,ni=m+1:=⟨ni-1,o521 h2'⟩
     unfold M8
     rw [List.range_succ]
     simp
  refine w6 ?_
  refine w_orF hK (j5 (e:=.var .told) b8) ?_
  refine Bf6 (a:=.var .told) (b:=.var .differs) hK b8 hb (Nat.lt_trans hesl (by decide)) b5 hD4 (by simp;exact o452 hDl (by decide)) ?_
  rw [heq,bne_self_eq_false,if_neg (by decide)]
  refine C0 (B6 ?_)
  have F4':Fr H4 (max tk' tk):=F4.mono (Nat.le_max_left _ _)
  have hT:tk<=max tk' tk:=Nat.le_max_right _ _
  generalize max tk' tk=T at F4' hT
  refine Cg6 (b:=.var .differs) hK b5 hD4 (by simp;exact o523 hDl (by decide)) (.emp,T) (F4' _ _ (Nat.le_refl _)) ?_
  have hjT:j<T:=F4'.lt A4.self
  have fin:∀H',OldF T H4 H'->Ab0 tk H H':=λH' O t i ht hi=>(O (t,i) (Nat.lt_of_lt_of_le hi hT)).trans (k5 t i ht hi)
  have O5:OldF T H4 (H4.set (.emp,T) (.list [])):=OldF.set (Nat.le_refl _)
  have F5:Fr (H4.set (.emp,T) (.list [])) (T+1):=F4'.set (Nat.lt_succ_self _) (Nat.le_succ _)
  rcases TR with q_ | q_
  ·refine B7 q_ λh h'=>?_
   clear q_
   rw [if_pos (by rw [h'];rfl)]
   exact c_cont (q _ G' (T+1) l3 .cont (.inr rfl) (A4.old hjT O5) K' hx F5 (fin _ O5) c1 c2 b6 b7)
  ·exists C1 q_ λα B3=>B7 B3 λh h'=>B5 ?_
   clear q_
   have hne:¬decide (((f7 G.g ni p r).map λn:Nat=>(n:Int))=[])=true:=by
    rw [decide_eq_true_iff,List.map_eq_nil_iff]
    intro h0
    rw [h0] at h';cases h'
   rw [if_neg hne]
   refine C0 (B6 ?_)
   subst h
   have htT:t<T:=F4'.lt hb
   refine w6 ?_
   refine Bb9 (a:=.var .told) (b:=.attr (.var .aig) .inputs) (ys:=inZ ni) (m':=(.inputs,j)) hK b8 ((O5 (.bits,t) htT).trans hb) (by simpa [M8] using (o520 h4:ni<60)) (.srt,T) ((B2 (C6 rfl)).trans (F4' _ _ (Nat.le_refl _))) ?_ ?_ (by simp [inZ];exact o524 h4) (Cg8 ni α) ?_
   ·have O6:OldF T H4 ((H4.set (.emp,T) (.list [])).set (.srt,T) (.list (((M8 ni α).map (·.1)).mergeSort.map V.int))):=O5.trans (OldF.set (Nat.le_refl _))
    exact M9 (A4.old hjT O6) (e:=.var .aig) b1 .inputs
   ·rw [<-Ec5];exact (A4.old hjT O5).inputs
   have O6:OldF T H4 ((H4.set (.emp,T) (.list [])).set (.srt,T) (.list (C8 (inZ ni)))):=O5.trans (OldF.set (Nat.le_refl _))
   have F6:Fr ((H4.set (.emp,T) (.list [])).set (.srt,T) (.list (C8 (inZ ni)))) (T+1):=F5.set (Nat.lt_succ_self _) (Nat.le_refl _)
   have hn6:((H4.set (.emp,T) (.list [])).set (.srt,T) (.list (C8 (inZ ni)))) (.toldC,T)=none:=(B2 (C6 rfl)).trans ((B2 (C6 rfl)).trans (F4' _ _ (Nat.le_refl _)))
   have hs6:((H4.set (.emp,T) (.list [])).set (.srt,T) (.list (C8 (inZ ni)))) (.sumC,T)=none:=(B2 (C6 rfl)).trans ((B2 (C6 rfl)).trans (F4' _ _ (Nat.le_refl _)))
   generalize (H4.set (.emp,T) (.list [])).set (.srt,T) (.list (C8 (inZ ni)))=H6 at O6 F6 hn6 hs6
   have hb6:H6 (.bits,t)=some (.idict (M8 ni α) ep):=(O6 (.bits,t) htT).trans hb
   refine Cb8 (e:=.var .told) hK b8 hb6 (by simp [M8];exact o498 h4) (.toldC,T) hn6 (λkk v R hmem hR=>?_) ?_
   ·exists C1 (List.mem_map.mp hmem) λi B3=>B7 B3 λhi e=>B5 ?_
    have hi':=List.mem_range.mp hi
    cases e
    refine De9 (x:=if α (i+2) then 1 else 0) (xs:=[0,1]) hK (Ch5 (e:=.var .told) (i:=.var .spot) (l:=l3.set .spot (.int ((i+1:Nat):Int))) b8 rfl hb6 (m6 α hi')) (T2 (a:=.int 0) (b:=.int 1) rfl rfl) ?_
    cases α (i+2) <;> exact hR
   rw [if_neg (by decide)]
   refine C0 (B6 ?_)
   have O7:OldF T H4 (H6.set (.toldC,T) (.list ((List.replicate (M8 ni α).length true).map V.bool))):=O6.trans (OldF.set (Nat.le_refl _))
   have F7:Fr (H6.set (.toldC,T) (.list ((List.replicate (M8 ni α).length true).map V.bool))) (T+1):=F6.set (Nat.lt_succ_self _) (Nat.le_refl _)
   have hs7:(H6.set (.toldC,T) (.list ((List.replicate (M8 ni α).length true).map V.bool))) (.sumC,T)=none:=(B2 (C6 rfl)).trans hs6
   generalize H6.set (.toldC,T) (.list ((List.replicate (M8 ni α).length true).map V.bool))=H7 at O7 F7 hs7
   have hb7:H7 (.bits,t)=some (.idict (M8 ni α) ep):=(O7 (.bits,t) htT).trans hb
   have A7:=A4.old hjT O7
   refine Ba0 ?_
   refine Ac9 (vs:=[.int (ni:Nat)]) (a:=0) (b:=ni) (c:=1) hK (B9 (e:=.var .many) b2 rfl) rfl (o525 h4) (λi acc H8=>H8=H7/\i<=ni/\acc=((List.range i).map (rowT α)).map V.int) ⟨rfl,Nat.zero_le _,rfl⟩ ?_
   intro i acc H8 q_
   refine byc λB5=>B7 q_ λC' B3=>?_
   clear q_
   subst C'
   refine B7 B3 λhi U5=>B5 ?_
   clear B3 B5
   subst U5
   refine ⟨by simp;exact o526 hi h4,λhend=>?_,λv hv=>?_⟩
   ·rw [G7] at hend
    have hie:i=ni:=by
     split at hend
     ·cases hend
     ·exact o173 hi ‹_›
    subst hie
    refine ⟨(.sumC,T),hs7,(List.range i).map (rowT α),D2,?_⟩
    rw [Bg6]
    have O9:OldF T H4 (H8.set (.sumC,T) (.list (((List.range i).map (rowT α)).map V.int))):=O7.trans (OldF.set (Nat.le_refl _))
    have F9:Fr (H8.set (.sumC,T) (.list (((List.range i).map (rowT α)).map V.int))) (T+1):=F7.set (Nat.lt_succ_self _) (Nat.le_refl _)
    generalize H8.set (.sumC,T) (.list (((List.range i).map (rowT α)).map V.int))=H9 at O9 F9
    have hdT:tk<T:=F4'.lt hD4
    refine Ai2 (a:=.var .line) (b:=.var .differs) hK rfl b5 ((O9 (.differs,tk) hdT).trans hD4) ?_
    have hcon:((f7 G.g i p r).map λn:Nat=>(n:Int)).contains ((W8 α i:Nat):Int)=true:=by
     rw [List.contains_iff_mem]
     exact List.mem_map.mpr ⟨_,h',rfl⟩
    rw [hcon,if_neg (by decide)]
    refine C0 (B6 (C0 (q H9 G' (T+1) _ .next (.inl rfl) (A4.old hjT O9) K' hx F9 (fin _ O9) ?_ ?_ ?_ ?_)))
    ·exact c1
    ·exact c2
    ·exact b6
    ·exact b7
   ·rw [G7] at hv
    split at hv
    ·rename_i hlt
     cases hv
     rw [Int.zero_add]
     have hil:i<ni:=o495 hlt
     have gi:pE H8 (l3.set .at_ (.int (i:Nat))) (.sub (.attr (.var .aig) .inputs) (.var .at_))=some (.int ((i+1:Nat):Int)):=by
      rw [J4 (k:=((i:Nat):Int)) (M9 A7 (e:=.var .aig) (l:=l3.set .at_ (.int (i:Nat))) b1 .inputs) (i:=.var .at_) rfl A7.inputs]
      unfold inL
      refine Ba8 ?_ (by simp;exact o498 h4)
      rw [List.getElem?_map,List.getElem?_range hil];rfl
     have gt:pE H8 (l3.set .at_ (.int (i:Nat))) (.sub (.var .told) (.sub (.attr (.var .aig) .inputs) (.var .at_)))=some (.int (if α (i+2) then 1 else 0)):=Ch5 (e:=.var .told) b8 gi hb7 (m6 α hil)
     have gp:pE H8 (l3.set .at_ (.int (i:Nat))) (.bin .pow (.int 2) (.var .at_))=some (.int ((2^i:Nat):Int)):=by
      refine (D8 (l:=l3.set .at_ (.int (i:Nat))) (a:=.int 2) (b:=.var .at_) (x:=2) (y:=(i:Int)) rfl rfl).trans ?_
      rw [Ai5 ⟨o73,o527 hlt h4,by decide⟩,show ((i:Int)).toNat=i by exact o77]
      push_cast;rfl
     have gm:pE H8 (l3.set .at_ (.int (i:Nat))) (.bin .mul (.sub (.var .told) (.sub (.attr (.var .aig) .inputs) (.var .at_))) (.bin .pow (.int 2) (.var .at_)))=some (.int (rowT α i)):=by
      rw [D8 gt gp,Bj8 (.inl (by cases α (i+2) <;> decide))];rfl
     refine Dh0 ?_
     rw [if_pos rfl]
     refine D3 hK gm ⟨rfl,o172 hlt,?_⟩
     rw [List.range_succ,List.map_append,List.map_append];rfl
    ·cases hv
 ·intro v hv
  rw [G7] at hv
  split at hv
  ·rename_i hlt
   cases hv
   rw [Int.zero_add]
   refine ⟨l2.set .line (.int (i:Nat)),rfl,?_⟩
   refine V6 (vs:=[.ref (.aig,j),.int (i:Nat)]) hK (B9 (e:=.var .aig) a1 (B9 (e:=.var .line) rfl rfl)) ?_
   refine k_bits (k:=k+4) A2 K (o96 hs (by decide)) h4 F2 λH3 hb3 o3=>?_
   have sd:∀(x:Nat) (e:E),x<2*nb->pE H3 ((l2.set .line (.int (i:Nat))).set .found (.ref (.big,tk+1+i))) e=some (.int (x:Nat)) ->
     U4 (C9 (k+7)) (.call .law_side (.cons (.var .found) (.cons e .nil))) ((l2.set .line (.int (i:Nat))).set .found (.ref (.big,tk+1+i))) H3 (.int (z3 (evG G.g (M2 i)) x)):=
    λx e hx he=>Cj6 hK (B9 (e:=.var .found) rfl (B9 he rfl)) λR hR=>Eb7 (k:=k+5) hb3 (o416 hs (by decide)) (Nat.le_sub_one_of_lt (Nat.lt_of_lt_of_le (Nat.div_lt_of_lt_mul hx) hnb)) hR
   have hD3:H3 (.differs,tk)=some (.list (E8 ((List.range i).filter (dfR G.g p r)))):=(o3 _ (C6 rfl)).trans hD
   have F3:Fr H3 (tk+1+(i+1)):=λt x hx=>(o3 _ (by intro e;cases e;exact o528 hx)).trans (F2 t x (o333 hx))
   have O3:OldF tk H H3:=λm hm=>(o3 m (by rintro rfl;simp at hm;exact o529 hm)).trans (O2 m hm)
   refine Df7 (sd p (.var .first) hp a3) (sd r (.var .second) hr a4) ?_
   rw [Di1]
   cases hd:dfR G.g p r i with
   | true=>
    rw [if_pos (show (lv (evG G.g (M2 i)) p != lv (evG G.g (M2 i)) r)=true from hd)]
    refine I9 (o:=.var .differs) (e:=.var .line) (v:=.int (i:Nat)) hK a5 hD3 rfl (by rw [G8];have:=hflen i;exact o530 hlt this hN (by decide)) ?_
    rw [M7]
    refine C0 (B6 (C0 ⟨o172 hlt,a1,a2,a3,a4,a5,a6,a7,?_,F3.set o238 (Nat.le_refl _),O3.trans (OldF.set (Nat.le_refl _))⟩))
    rw [List.range_succ,List.filter_append,List.filter_cons_of_pos hd];exact D2
   | false=>
    rw [if_neg (show ¬(lv (evG G.g (M2 i)) p != lv (evG G.g (M2 i)) r)=true by unfold dfR at hd;rw [hd];decide)]
    refine C0 (B6 (C0 ⟨o172 hlt,a1,a2,a3,a4,a5,a6,a7,?_,F3,O3⟩))
    rw [List.range_succ,List.filter_append,List.filter_cons_of_neg (by rw [hd];decide),List.filter_nil,List.append_nil];exact hD3
  ·cases hv
theorem Sd.keep {H H':Hq} {s:Nat} {xs:List Int} {p:Nat} (S:Sd H s xs p) (h1:H' (.seedP,s)=H (.seedP,s)) (h2:H' (.seedL,s)=H (.seedL,s)):Sd H' s xs p:=⟨h1.trans S.pr,h2.trans S.ls,S.lt,S.sz⟩
theorem bin_sub {x y:Int} {P:Vl->Prop} (q:P (.int (x-y))):Aa6 .sub (.int x) (.int y) P:=q
theorem Eb6 {H:Hq} {ni:Nat} {G:Gr} {j:Nat} (A:Av H j ni G) (hs:G.g.length<500) {l:Lq} (h:l .aig=some (.ref (.aig,j))):pE H l (.bin .mul (.int 2) (.bi .len (.attr (.var .aig) .nodes)))=some (.int ((2*G.g.length:Nat):Int)):=by
 refine (D8 (a:=.int 2) (x:=2) (y:=(G.g.length:Nat)) rfl ?_).trans (Ac2 _)
 rw [W3 (M9 A (e:=.var .aig) h .nodes) A.nodes (by rw [E3];exact o96 hs (by decide)),E3]
set_option maxHeartbeats 400000 in
theorem De1:Cb5:=by
 refine ⟨G9,inferInstance,(.script,0),λns hl=>?_⟩
 generalize hH0:(λm:G9=>if m=(Tag.script,0) then some (O.flist (ns.map V.int):Ob) else none)=H0
 have F0:Fr H0 1:=λt i hi=>by
  rw [<-hH0]
  show (if (t,i)=(Tag.script,0) then _ else none)=none
  rw [if_neg (by intro e;cases e;exact o531 hi)]
 have hsc:H0 (.script,0)=some (.flist (ns.map V.int)):=by
  rw [<-hH0]
  show (if (Tag.script,0)=(Tag.script,0) then _ else none)=_
  rw [if_pos rfl]
 clear hH0
 have hK:D5 (C9 (N:=G9) 11):=C7 10
 refine D0 (k:=11) rfl ?_
 show C2 (C9 11) Ee7 _ _ _
 refine V6 (vs:=[.ref (.script,0)]) hK rfl ?_
 refine k_seed (k:=9) hsc (o452 hl (by decide)) F0 λH1 xs S1 o1=>?_
 have F1:Fr H1 2:=λt i hi=>(o1 t i (o532 hi)).trans (F0 t i (o533 hi))
 refine Bj2 (args:=.nil) (vs:=[]) hK rfl (.aig,2) (F1 _ _ (Nat.le_refl _)) ?_
 refine k_ainit (k:=9) (s:=2) D2 (λg hg=>(B2 (by intro e;cases e;exact hg rfl)).trans (F1 g 2 (Nat.le_refl _))) λH2 A2 o2=>⟨rfl,?_⟩
 have F2:Fr H2 3:=λt i hi=>(o2 t i (o534 hi)).trans ((B2 (by intro e;cases e;exact o535 hi)).trans (F1 t i (o536 hi)))
 have S2:Sd H2 1 xs 0:=S1.keep ((o2 _ _ (by decide)).trans (B2 (C6 rfl))) ((o2 _ _ (by decide)).trans (B2 (C6 rfl)))
 refine m0 (a:=.int 2) (va:=.int 2) (vs:=[.ref (.seedP,1),.int ((3:Nat):Int)]) hK rfl (B9 (e:=.var .seed) rfl (B9 rfl rfl)) ?_
 refine Ab6 (k:=9) S2 (by decide) (by decide) λH3 v hv S3 o3=>?_
 refine C1 S3 ?_
 clear S3
 intro p3 S3
 have F3:Fr H3 3:=λt i hi=>(o3 _ (by intro e;cases e;exact o537 hi)).trans (F2 t i hi)
 have A3:Av H3 2 0 (gr0 0):=⟨(o3 _ (C6 rfl)).trans A2.self,(o3 _ (C6 rfl)).trans A2.nodes,(o3 _ (C6 rfl)).trans A2.inputs,(o3 _ (C6 rfl)).trans A2.table⟩
 obtain ⟨ni,hni⟩:∃ni,ni=2+v:=⟨_,rfl⟩
 generalize hl3:(((Lc.args Fn.law.params [(V.ref (Tag.script,0):Vl)]).set .seed (.ref (.seedP,1))).set .aig (.ref (.aig,2))).set .many (.int (2+(v:Int)))=l3
 have e1:l3 .seed=some (.ref (.seedP,1)):=by rw [<-hl3];rfl
 have e2:l3 .aig=some (.ref (.aig,2)):=by rw [<-hl3];rfl
 have e3:l3 .many=some (.int (ni:Nat)):=by rw [<-hl3];show some (V.int (2+(v:Int)))=_;rw [show (2+(v:Int))=(ni:Int) by exact o538 hni]
 show C2 (C9 11) _ _ ((((Lc.args Fn.law.params [(V.ref (Tag.script,0):Vl)]).set .seed (.ref (.seedP,1))).set .aig (.ref (.aig,2))).set .many (.int (2+(v:Int)))) H3
 rw [hl3]
 clear hl3
 refine P5 (vs:=[.int (ni:Nat)]) (x:=0) (y:=ni) (z:=1) hK (B9 (e:=.var .many) e3 rfl) rfl (o539 hni hv) (λi l H=>i<=ni/\l .seed=some (.ref (.seedP,1))/\l .aig=some (.ref (.aig,2))/\l .many=some (.int (ni:Nat))/\Av H 2 i (gr0 i)/\Sd H 1 xs p3/\Fr H 3) ⟨Nat.zero_le _,e1,e2,e3,A3,S3,F3⟩ ?_
 intro i l4 H4 q_
 refine un7 q_ λhi a1 a2 a3 A4 S4 F4=>?_
 clear q_
 refine ⟨λhend=>?_,λv' hv'=>?_⟩
 rotate_left
 ·rw [G7] at hv'
  split at hv'
  ·rename_i hlt
   cases hv'
   refine ⟨_,rfl,?_⟩
   refine Q5 (o:=.var .aig) (n:=(.aig,2)) (vs:=[]) hK a2 A4.self rfl rfl ?_
   refine Bi2 (k:=9) A4 (o540 hlt hni hv) λH5 A5 o5 x=>⟨trivial,C0 ⟨o172 hlt,a1,a2,a3,A5,S4.keep (o5 _ (C6 rfl) (C6 rfl)) (o5 _ (C6 rfl) (C6 rfl)),λt i hi=>(o5 _ (by intro e;cases e;exact o535 hi) (by intro e;cases e;exact o535 hi)).trans (F4 t i hi)⟩⟩
  ·cases hv'
 rw [G7] at hend
 have hie:i=ni:=by
  split at hend
  ·cases hend
  ·exact o173 hi ‹_›
 subst hie
 refine Ai3 (vs:=[.ref (.seedP,1),.int ((7:Nat):Int)]) hK (B9 (e:=.var .seed) a1 (B9 rfl rfl)) λR hR=>?_
 refine Ab6 (k:=9) S4 (by decide) (by decide) λH5 w hw S5 o5=>?_
 refine C1 S5 ?_
 clear S5
 intro p5 S5
 have A5:Av H5 2 i (gr0 i):=⟨(o5 _ (C6 rfl)).trans A4.self,(o5 _ (C6 rfl)).trans A4.nodes,(o5 _ (C6 rfl)).trans A4.inputs,(o5 _ (C6 rfl)).trans A4.table⟩
 have F5:Fr H5 3:=λt i hi=>(o5 _ (by intro e;cases e;exact o537 hi)).trans (F4 t i hi)
 refine hR H5 w (o541 hw) ⟨λn l H=>n<=w/\l .seed=some (.ref (.seedP,1))/\l .aig=some (.ref (.aig,2))/\l .many=some (.int (i:Nat))/\∃G p,Av H 2 i G/\u6 i G/\G.g.length<=i+1+n/\Sd H 1 xs p/\Fr H 3,
  ⟨Nat.zero_le _,a1,a2,a3,gr0 i,p5,A5,gr0_ok i,by simp [gr0],S5,F5⟩,?_⟩
 intro n l6 H6 q_
 exists un5 q_ λhn b1 b2 b3 B3=>J8 B3 λG p6 C5=>un5 C5 λA6 K6 hlen S6 F6=>B5 ?_
 clear C5 q_
 have hpos:=K6.pos
 refine ⟨λhend2=>?_,λhlt=>?_⟩
 rotate_left
 ·-- one conjunction
  have gsz:pE H6 (l6.set .lap (.int (n:Nat))) (.bin .mul (.int 2) (.bi .len (.attr (.var .aig) .nodes)))=some (.int ((2*G.g.length:Nat):Int)):=Eb6 A6 (o549 (o546 hlen hn hw) hni hv) b2
  refine J2 hK gsz ?_
  generalize hl7:(l6.set .lap (.int (n:Nat))).set .size (.int ((2*G.g.length:Nat):Int))=l7
  have d1:l7 .seed=some (.ref (.seedP,1)):=by rw [<-hl7];exact b1
  have d2:l7 .aig=some (.ref (.aig,2)):=by rw [<-hl7];exact b2
  have d3:l7 .many=some (.int (i:Nat)):=by rw [<-hl7];exact b3
  have d4:l7 .size=some (.int ((2*G.g.length:Nat):Int)):=by rw [<-hl7];rfl
  clear hl7
  refine Da2 (o:=.var .aig) (n:=(.aig,2)) hK d2 A6.self rfl ?_
  refine es_call (vs:=[.ref (.seedP,1),.int ((2*G.g.length:Nat):Int)]) hK (B9 (e:=.var .seed) d1 (B9 (e:=.var .size) d4 rfl)) ?_
  refine Ab6 (k:=9) S6 (o554 hpos) (o555 (o546 hlen hn hw) hni hv) λH7 x hx S7 o7=>?_
  refine C1 S7 ?_
  clear S7
  intro p7 S7
  refine Cf7 (a:=.bin .sub (.var .size) (.int 1)) (va:=.int (((2*G.g.length:Nat):Int)-1)) (vs:=[.ref (.seedP,1),.int ((2*G.g.length:Nat):Int)]) hK (D8 (a:=.var .size) (b:=.int 1) d4 rfl) (B9 (e:=.var .seed) d1 (B9 (e:=.var .size) d4 rfl)) ?_
  refine Ab6 (k:=9) S7 (o542 hx) (o555 (o546 hlen hn hw) hni hv) λH8 y hy S8 o8=>?_
  refine C1 S8 ?_
  clear S8
  intro p8 S8
  have o68:∀m,m≠(Tag.seedP,1)->H8 m=H6 m:=λm hm=>(o8 m hm).trans (o7 m hm)
  have A8:Av H8 2 i G:=⟨(o68 _ (C6 rfl)).trans A6.self,(o68 _ (C6 rfl)).trans A6.nodes,(o68 _ (C6 rfl)).trans A6.inputs,(o68 _ (C6 rfl)).trans A6.table⟩
  have F8:Fr H8 3:=λt i hi=>(o68 _ (by intro e;cases e;exact o537 hi)).trans (F6 t i hi)
  refine bin_sub ?_
  refine w4 ?_
  rw [show (((2*G.g.length:Nat):Int)-1-(y:Int))=((2*G.g.length-1-y:Nat):Int) by exact o543 hy]
  refine Bd7 (k:=9) A8 K6 (o549 (o546 hlen hn hw) hni hv) hx (o544 hy) λH9 G' o A9 K9 L9 f9=>⟨trivial,C0 ⟨o168 hlt,d1,d2,d3,G',p8,A9,K9,?_,S8.keep (f9 _ (C6 rfl) (C6 rfl)) (f9 _ (C6 rfl) (C6 rfl)),λt i hi=>(f9 _ (by intro e;cases e;exact o535 hi) (by intro e;cases e;exact o535 hi)).trans (F8 t i hi)⟩⟩
  exists C1 L9.ext λt B3=>B7 B3 λet ht=>B5 ?_
  rw [et,List.length_append];exact o545 hlen ht
 have hnb:G.g.length<=i+7:=o546 hlen hn hw
 have hlenI:i+1<=G.g.length:=hpos
 have i2:2<=i:=o547 hni
 have i4:i<=4:=o548 hni hv
 refine m0 (a:=.int 2) (va:=.int 2) (vs:=[.ref (.seedP,1),.int ((2*G.g.length-2:Nat):Int)]) hK rfl (B9 (e:=.var .seed) b1 (B9 ?_ rfl)) ?_
 ·rw [D8 (b:=.int 2) (y:=2) (Eb6 A6 (o549 hnb hni hv) b2) rfl]
  show some (V.int (((2*G.g.length:Nat):Int)-2))=_
  rw [show (((2*G.g.length:Nat):Int)-2)=((2*G.g.length-2:Nat):Int) by exact o550 hpos]
 refine Ab6 (k:=9) S6 (o551 hpos hni) (o552 hnb hni hv) λH7 x hx S7 o7=>?_
 refine C1 S7 ?_
 clear S7
 intro p7 S7
 have A7:Av H7 2 i G:=⟨(o7 _ (C6 rfl)).trans A6.self,(o7 _ (C6 rfl)).trans A6.nodes,(o7 _ (C6 rfl)).trans A6.inputs,(o7 _ (C6 rfl)).trans A6.table⟩
 have F7:Fr H7 3:=λt i hi=>(o7 _ (by intro e;cases e;exact o537 hi)).trans (F6 t i hi)
 show C2 (C9 11) _ _ (l6.set .left (.int (2+(x:Int)))) H7
 rw [show (2+(x:Int))=((2+x:Nat):Int) by exact o553]
 have gl7:=Eb6 A7 (l:=l6.set .left (.int ((2+x:Nat):Int))) (o549 hnb hni hv) b2
 refine m0 (a:=.bin .sub (.bin .mul (.int 2) (.bi .len (.attr (.var .aig) .nodes))) (.int 1)) (va:=.int (((2*G.g.length:Nat):Int)-1)) (vs:=[.ref (.seedP,1),.int ((2*G.g.length:Nat):Int)]) hK (D8 (b:=.int 1) (y:=1) gl7 rfl) (B9 (e:=.var .seed) b1 (B9 gl7 rfl)) ?_
 refine Ab6 (k:=9) S7 (o554 hpos) (o555 hnb hni hv) λH8 y hy S8 o8=>?_
 have A8:Av H8 2 i G:=⟨(o8 _ (C6 rfl)).trans A7.self,(o8 _ (C6 rfl)).trans A7.nodes,(o8 _ (C6 rfl)).trans A7.inputs,(o8 _ (C6 rfl)).trans A7.table⟩
 have F8:Fr H8 3:=λt i hi=>(o8 _ (by intro e;cases e;exact o537 hi)).trans (F7 t i hi)
 show C2 (C9 11) _ _ ((l6.set .left (.int ((2+x:Nat):Int))).set .right (.int (((2*G.g.length:Nat):Int)-1-(y:Int)))) H8
 rw [show (((2*G.g.length:Nat):Int)-1-(y:Int))=((2*G.g.length-1-y:Nat):Int) by exact o543 hy]
 have hleft:2+x<2*G.g.length:=o556 hx
 have hright:2*G.g.length-1-y<2*G.g.length:=o544 hy
 generalize 2+x=left at hleft
 generalize 2*G.g.length-1-y=right at hright
 generalize hl9:(l6.set .left (.int (left:Int))).set .right (.int (right:Int))=l9
 have g1:l9 .aig=some (.ref (.aig,2)):=by rw [<-hl9];exact b2
 have g2:l9 .many=some (.int (i:Nat)):=by rw [<-hl9];exact b3
 have g3:l9 .left=some (.int (left:Nat)):=by rw [<-hl9];rfl
 have g4:l9 .right=some (.int (right:Nat)):=by rw [<-hl9];rfl
 clear hl9
 refine Bf3 (vs:=[.tup [.int (left:Nat),.int (right:Nat)],.tup [.int (right:Nat),.int (left:Nat)],.tup [.int (left:Nat),.int ((Y0 left:Nat):Int)],.tup [.int (left:Nat),.int (left:Nat)]]) hK
  (B9 (T2 (a:=.var .left) (b:=.var .right) g3 g4) (B9 (T2 (a:=.var .right) (b:=.var .left) g4 g3) (B9 (T2 (a:=.var .left) g3 (Af5 (e:=.var .left) g3)) (B9 (T2 (a:=.var .left) (b:=.var .left) g3 g3) rfl)))) (by simp) (.pairs,3) (F8 _ _ (Nat.le_refl _))
  (λn l H=>n<=4/\l .aig=some (.ref (.aig,2))/\l .many=some (.int (i:Nat))/\H (.pairs,3)=some (.list [.tup [.int (left:Nat),.int (right:Nat)],.tup [.int (right:Nat),.int (left:Nat)],.tup [.int (left:Nat),.int ((Y0 left:Nat):Int)],.tup [.int (left:Nat),.int (left:Nat)]]) /\
   ∃G' tk,Av H 2 i G'/\u6 i G'/\G.g.length<=G'.g.length/\G'.g.length<=G.g.length+3*n/\Fr H tk)
  ⟨Nat.zero_le _,g1,g2,D2,G,4,⟨(B2 (C6 rfl)).trans A8.self,(B2 (C6 rfl)).trans A8.nodes,(B2 (C6 rfl)).trans A8.inputs,(B2 (C6 rfl)).trans A8.table⟩,K6,Nat.le_refl _,o289,F8.set (by decide) (by decide)⟩ ?_
 intro n2 l10 H10 q_
 exists un5 q_ λhn2 k1 k2 hpr B3=>J8 B3 λG' tk C5=>un5 C5 λA10 K10 hg1 hg2 F10=>B5 ?_
 clear C5 q_
 refine ⟨hpr,λ_=>M3 hK (v:=.bool true) rfl rfl,λv' hv'=>?_⟩
 have hxl:=Bb8 hleft
 have turn:∀(p r:Nat),p<2*G.g.length->r<2*G.g.length->v' = .tup [.int (p:Nat),.int (r:Nat)]->n2<4->∃l3,m7 (.two .first .second) v' l10=some l3/\C2 (C9 11) Ci7 (d9 (λl4 H4=>n2+1<=4/\l4 .aig=some (.ref (.aig,2))/\l4 .many=some (.int (i:Nat))/\H4 (.pairs,3)=some (.list [.tup [.int (left:Nat),.int (right:Nat)],.tup [.int (right:Nat),.int (left:Nat)],.tup [.int (left:Nat),.int ((Y0 left:Nat):Int)],.tup [.int (left:Nat),.int (left:Nat)]]) /\
   ∃G' tk,Av H4 2 i G'/\u6 i G'/\G.g.length<=G'.g.length/\G'.g.length<=G.g.length+3*(n2+1)/\Fr H4 tk) (M0 (C9 11) (.cons (.ret (.bool true)) .nil) λfl _ H'=>fl.val = .bool true)) l3 H10:=by
  rintro p r hp hr rfl hn4
  refine ⟨(l10.set .first (.int (p:Nat))).set .second (.int (r:Nat)),rfl,?_⟩
  refine k_turn (k:=4) (nb:=G.g.length) (l1:=(l10.set .first (.int (p:Nat))).set .second (.int (r:Nat))) A10 K10 (ln4 [G'.g.length,G.g.length,n2,i] (X0+1) 90 X0 (X1+LE.m 3 X2) X1 (X3+7) X3 4 (LE.m 3 X2) (LE.m 3 4) rfl hg2 hnb i4 (Nat.mul_le_mul_left 3 hn2)) (o557 hni) i4 hlenI hnb hg1 hp hr F10 k1 k2 rfl rfl λH11 G2 tk2 l11 fl hfl A11 K11 hx F11 k11 q1 q2 q3 q4=>?_
  exists C1 hx λt B3=>B7 B3 λet ht=>B5 ?_
  clear hx
  have res:n2+1<=4/\l11 .aig=some (.ref (.aig,2))/\l11 .many=some (.int (i:Nat))/\H11 (.pairs,3)=some (.list [.tup [.int (left:Nat),.int (right:Nat)],.tup [.int (right:Nat),.int (left:Nat)],.tup [.int (left:Nat),.int ((Y0 left:Nat):Int)],.tup [.int (left:Nat),.int (left:Nat)]]) /\
    ∃G' tk,Av H11 2 i G'/\u6 i G'/\G.g.length<=G'.g.length/\G'.g.length<=G.g.length+3*(n2+1)/\Fr H11 tk:=
   ⟨o558 hn4,q1.trans k1,q2.trans k2,(k11 _ _ rfl (F10.lt hpr)).trans hpr,G2,tk2,A11,K11,by rw [et,List.length_append];exact o267 hg1,by rw [et,List.length_append];exact o559 hg2 ht,F11⟩
  rcases hfl with rfl | rfl
  ·exact res
  ·exact res
 have h4:n2=0\/n2=1\/n2=2\/n2=3:=by
  have:=(List.getElem?_eq_some_iff.mp hv').1
  simp at this;exact o560 this
 rcases h4 with rfl | rfl | rfl | rfl
 ·cases hv';exact turn left right hleft hright rfl (by decide)
 ·cases hv';exact turn right left hright hleft rfl (by decide)
 ·cases hv';exact turn left (Y0 left) hleft hxl rfl (by decide)
 ·cases hv';exact turn left left hleft hleft rfl (by decide)
set_option maxRecDepth 100000
theorem join {w:World} {X7:Shared} {mg mb:Str->Option Value} (KX:Says X7.heap) (G:X7.heap.Ns mainGlobals mg) (Bn:X7.heap.Ns builtinsNs mb) (lim:X7.heap.NoLimit)
  (hb:∀x:Str,x≠"__name__"->mb x=bootBuiltins x) {fa:Addr} (hmg:mg "law"=some (.ref fa)) {l:Addr} {vs:List Value} {ns:List Int} (hl:X7.heap.IsList l vs.toArray) (hI:IntsAre vs ns) (hn:¬(63:Int)<(ns.length:Int))
  {prog:Program} {R:Result->Shared->Prop} (hR:∀h' tk,(∀b o,X7.heap.get? b=some o->h'.get? b=some o)->R (.ok (.ret (.bool true))) {X7 with heap:=h',toks:=tk}):
  codeAny (model prog w) callerA (.call (.ref fa) ⟨[.ref l],[]⟩) R X7:=by
 refine C1 KX λK y=>C1 y λg y=>bn7 y.2.2 λc1 c2 c3 c4 c5 c6 c7=>?_
 have B:=bs_of y.1 y.2.1 G Bn lim hb c1 c2 c3 c4 c5 c6
 have e:=r9 y.1 G (eq_of_beq c7)
 rw [hmg] at e;cases e
 have hsz:2<=X7.heap.objs.size:=by
  obtain ⟨o,fd,body,g,_⟩:=B.fn .law
  exact Nat.le_of_lt (Nat.lt_of_le_of_lt (show 2<=380 by decide) (Heap.lt_size g))
 refine codeAny_mono (law_run De1 B hsz hl hI (Int.ofNat_le.mp (Int.not_lt.mp hn))) λr s' h=>?_
 obtain ⟨rfl,h',tk,rfl,hk⟩:=h
 exact hR h' tk hk
end Mine.Internal
set_option maxRecDepth 100000 in
set_option maxHeartbeats 8000000 in
theorem PySem.Challenge.cw_on0127_01_holds : PySem.Challenge.rw_on0127_01.Holds := by
 refine Mine.Internal.hd (by
 w_strict (
 intro w aa9 X7 mg mb G Y fa o pm cd doc dV kV ho hd hcd hD hmg hg args vals as hpre hlay hrd hwl hlo
 have X:=(Ground.X G).1
 have V:=(Ground.X G).2
 refine Ground.open G ?_
 intro T B D TE TW
 try (refine guard_noD D (by decide +kernel) ?_;clear D)
 obtain ⟨_,_,M⟩:=bmod_of_top T
 have TA:=at_of_top T
 have hmg':=hmg
 try (obtain ⟨_,_,he,B0⟩:=based_of_top T rfl hmg ho hd;have he':cd=_:=he;subst he';clear he)
 clear hmg
 wrow_args hpre hlay hrd hwl hlo
 all_goals (
  first | refine callC_kw (enter_call ?_) | refine enter_call ?_ | refine callC_kw (enter_callW ?_) | refine enter_callW ?_ | w_how
  w_top on
  try refine codeAny_mono ?_ (λ_ _ g=>GoodW.toG g))
 refine Mine.Internal.join Y T.g T.b T.nolimit T.builtins hmg' (by assumption) (by assumption) (by assumption) λh' tk hk=>?_
 refine ⟨.inl ⟨_,_,_,rfl,raisesW_false ?_,.bool _,?_,unshared_nil⟩,hk,rfl,hg⟩
 ·wrow_none_raised
 ·wrow_post))
