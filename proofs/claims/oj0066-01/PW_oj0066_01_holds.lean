import PyProof.Rows.All
import Wide.FinOn
import OpenK.AllK
import Wide.All
import PySem.Challenge.RW_oj0066_01
set_option Elab.async false
set_option maxRecDepth 100000
set_option linter.all false
set_option bootstrap.genMatcherCode false
set_option genSizeOf false
set_option genInjectivity true
set_option tactic.hygienic false
section
namespace Mine.Internal
theorem cq{α:Type}{a:α}{P:Prop}(h:none=some a):P:=nomatch h
theorem Gv{α:Type}{a:α}{P:Prop}(h:some a=none):P:=cq h.symm
theorem j9{P:Prop}(h:false=true):P:=Bool.noConfusion h
theorem J6{P:Prop}(h:true=false):P:=Bool.noConfusion h
theorem fH{α:Type}{C:Prop}(o:Option α)(h1:o=none→C)(h2:∀ a,o=some a→C):C:=match o,h1,h2 with | none,h1,_=>h1 rfl | some a,_,h2=>h2 a rfl
theorem cV{α β:Type}{a:Option α}{f:α→Option β}{z:β}(h:a.bind f=some z){C:Prop}(k:∀ x,a=some x→f x=some z→C):C:=(Option.bind_eq_some_iff.mp h).elim fun x q=>k x q.1 q.2
theorem mn{α β:Type}{a:Option α}{f:α→β}{z:β}(h:a.map f=some z){C:Prop}(k:∀ x,a=some x→f x=z→C):C:=(Option.map_eq_some_iff.mp h).elim fun x q=>k x q.1 q.2
theorem ln{α:Type}{a b:Option α}{z:α}(h:a.or b=some z){C:Prop}(k:a=some z→C)(l:b=some z→C):C:=(Option.or_eq_some_iff.mp h).elim k fun q=>l q.2
theorem gf{α:Type}{c:Prop}[Decidable c]{a:Option α}{z:α}(h:(if c then a else none)=some z){C:Prop}(k:c→a=some z→C):C:=if hc:c then k hc ((if_pos hc).symm.trans h) else cq ((if_neg hc).symm.trans h)
theorem GX{α:Type}{c:Prop}[Decidable c]{a b:Option α}{z:α}(h:(if c then a else b)=some z){C:Prop}(k:c→a=some z→C)(l:¬c→b=some z→C):C:=if hc:c then k hc ((if_pos hc).symm.trans h) else l hc ((if_neg hc).symm.trans h)
theorem Gw{α:Type}{c:Prop}[Decidable c]{a:Option α}{z:α}(h:(if c then none else a)=some z){C:Prop}(k:¬c→a=some z→C):C:=if hc:c then cq ((if_pos hc).symm.trans h) else k hc ((if_neg hc).symm.trans h)
theorem jF{a b:Bool}(h:(a&&b)=true){C:Prop}(k:a=true→b=true→C):C:=k (Bool.and_eq_true_iff.mp h).1 (Bool.and_eq_true_iff.mp h).2
theorem rO{P:Prop}(h:∀ C:Prop,(P→C)→C):P:=h P id
theorem bC  {A0:Prop}{A1:Prop}{P:Prop}(h:A0∧A1)(k:A0→A1→P):P:=k h.1 h.2
theorem gk  {A0:Prop}{A1:Prop}{A2:Prop}{P:Prop}(h:A0∧A1∧A2)(k:A0→A1→A2→P):P:=k h.1 h.2.1 h.2.2
theorem oq  {A0:Prop}{A1:Prop}{A2:Prop}{A3:Prop}{P:Prop}(h:A0∧A1∧A2∧A3)(k:A0→A1→A2→A3→P):P:=k h.1 h.2.1 h.2.2.1 h.2.2.2
theorem CU  {A0:Prop}{A1:Prop}{A2:Prop}{A3:Prop}{A4:Prop}{P:Prop}(h:A0∧A1∧A2∧A3∧A4)(k:A0→A1→A2→A3→A4→P):P:=k h.1 h.2.1 h.2.2.1 h.2.2.2.1 h.2.2.2.2
theorem tD  {A0:Prop}{A1:Prop}{A2:Prop}{A3:Prop}{A4:Prop}{A5:Prop}{P:Prop}(h:A0∧A1∧A2∧A3∧A4∧A5)(k:A0→A1→A2→A3→A4→A5→P):P:=k h.1 h.2.1 h.2.2.1 h.2.2.2.1 h.2.2.2.2.1 h.2.2.2.2.2
theorem ob_1_1.{u0}{α0:Sort u0}{A0:α0→Prop}{P:Prop}(h:∃ x0,A0 x0)(k:∀ x0,A0 x0→P):P:=h.elim k
theorem ob_1_2.{u0}{α0:Sort u0}{A0:α0→Prop}{A1:α0→Prop}{P:Prop}(h:∃ x0,A0 x0∧A1 x0)(k:∀ x0,A0 x0→A1 x0→P):P:=h.elim fun x y=>bC y (k x)
theorem ob_1_3.{u0}{α0:Sort u0}{A0:α0→Prop}{A1:α0→Prop}{A2:α0→Prop}{P:Prop}(h:∃ x0,A0 x0∧A1 x0∧A2 x0)(k:∀ x0,A0 x0→A1 x0→A2 x0→P):P:=h.elim fun x y=>gk y (k x)
theorem ob_1_4.{u0}{α0:Sort u0}{A0:α0→Prop}{A1:α0→Prop}{A2:α0→Prop}{A3:α0→Prop}{P:Prop}(h:∃ x0,A0 x0∧A1 x0∧A2 x0∧A3 x0)(k:∀ x0,A0 x0→A1 x0→A2 x0→A3 x0→P):P:=h.elim fun x y=>oq y (k x)
theorem ob_2_1.{u0,u1}{α0:Sort u0}{α1:Sort u1}{A0:α0→α1→Prop}{P:Prop}(h:∃ x0 x1,A0 x0 x1)(k:∀ x0 x1,A0 x0 x1→P):P:=h.elim fun x y=>ob_1_1 y (k x)
theorem ob_2_2.{u0,u1}{α0:Sort u0}{α1:Sort u1}{A0:α0→α1→Prop}{A1:α0→α1→Prop}{P:Prop}(h:∃ x0 x1,A0 x0 x1∧A1 x0 x1)(k:∀ x0 x1,A0 x0 x1→A1 x0 x1→P):P:=h.elim fun x y=>ob_1_2 y (k x)
theorem ob_2_3.{u0,u1}{α0:Sort u0}{α1:Sort u1}{A0:α0→α1→Prop}{A1:α0→α1→Prop}{A2:α0→α1→Prop}{P:Prop}(h:∃ x0 x1,A0 x0 x1∧A1 x0 x1∧A2 x0 x1)(k:∀ x0 x1,A0 x0 x1→A1 x0 x1→A2 x0 x1→P):P:=h.elim fun x y=>ob_1_3 y (k x)
theorem ob_2_4.{u0,u1}{α0:Sort u0}{α1:Sort u1}{A0:α0→α1→Prop}{A1:α0→α1→Prop}{A2:α0→α1→Prop}{A3:α0→α1→Prop}{P:Prop}(h:∃ x0 x1,A0 x0 x1∧A1 x0 x1∧A2 x0 x1∧A3 x0 x1)(k:∀ x0 x1,A0 x0 x1→A1 x0 x1→A2 x0 x1→A3 x0 x1→P):P:=h.elim fun x y=>ob_1_4 y (k x)
theorem ob_2_5.{u0,u1}{α0:Sort u0}{α1:Sort u1}{A0:α0→α1→Prop}{A1:α0→α1→Prop}{A2:α0→α1→Prop}{A3:α0→α1→Prop}{A4:α0→α1→Prop}{P:Prop}(h:∃ x0 x1,A0 x0 x1∧A1 x0 x1∧A2 x0 x1∧A3 x0 x1∧A4 x0 x1)(k:∀ x0 x1,A0 x0 x1→A1 x0 x1→A2 x0 x1→A3 x0 x1→A4 x0 x1→P):P:=by
 obtain ⟨x0,x1,y0,y1,y2,y3,y4⟩:=h
 exact k x0 x1 y0 y1 y2 y3 y4
theorem ob_2_6.{u0,u1}{α0:Sort u0}{α1:Sort u1}{A0:α0→α1→Prop}{A1:α0→α1→Prop}{A2:α0→α1→Prop}{A3:α0→α1→Prop}{A4:α0→α1→Prop}{A5:α0→α1→Prop}{P:Prop}(h:∃ x0 x1,A0 x0 x1∧A1 x0 x1∧A2 x0 x1∧A3 x0 x1∧A4 x0 x1∧A5 x0 x1)(k:∀ x0 x1,A0 x0 x1→A1 x0 x1→A2 x0 x1→A3 x0 x1→A4 x0 x1→A5 x0 x1→P):P:=by
 obtain ⟨x0,x1,y0,y1,y2,y3,y4,y5⟩:=h
 exact k x0 x1 y0 y1 y2 y3 y4 y5
theorem ob_3_1.{u0,u1,u2}{α0:Sort u0}{α1:Sort u1}{α2:Sort u2}{A0:α0→α1→α2→Prop}{P:Prop}(h:∃ x0 x1 x2,A0 x0 x1 x2)(k:∀ x0 x1 x2,A0 x0 x1 x2→P):P:=h.elim fun x y=>ob_2_1 y (k x)
theorem ob_3_2.{u0,u1,u2}{α0:Sort u0}{α1:Sort u1}{α2:Sort u2}{A0:α0→α1→α2→Prop}{A1:α0→α1→α2→Prop}{P:Prop}(h:∃ x0 x1 x2,A0 x0 x1 x2∧A1 x0 x1 x2)(k:∀ x0 x1 x2,A0 x0 x1 x2→A1 x0 x1 x2→P):P:=h.elim fun x y=>ob_2_2 y (k x)
theorem ob_3_3.{u0,u1,u2}{α0:Sort u0}{α1:Sort u1}{α2:Sort u2}{A0:α0→α1→α2→Prop}{A1:α0→α1→α2→Prop}{A2:α0→α1→α2→Prop}{P:Prop}(h:∃ x0 x1 x2,A0 x0 x1 x2∧A1 x0 x1 x2∧A2 x0 x1 x2)(k:∀ x0 x1 x2,A0 x0 x1 x2→A1 x0 x1 x2→A2 x0 x1 x2→P):P:=h.elim fun x y=>ob_2_3 y (k x)
theorem ob_3_4.{u0,u1,u2}{α0:Sort u0}{α1:Sort u1}{α2:Sort u2}{A0:α0→α1→α2→Prop}{A1:α0→α1→α2→Prop}{A2:α0→α1→α2→Prop}{A3:α0→α1→α2→Prop}{P:Prop}(h:∃ x0 x1 x2,A0 x0 x1 x2∧A1 x0 x1 x2∧A2 x0 x1 x2∧A3 x0 x1 x2)(k:∀ x0 x1 x2,A0 x0 x1 x2→A1 x0 x1 x2→A2 x0 x1 x2→A3 x0 x1 x2→P):P:=h.elim fun x y=>ob_2_4 y (k x)
theorem ob_3_6.{u0,u1,u2}{α0:Sort u0}{α1:Sort u1}{α2:Sort u2}{A0:α0→α1→α2→Prop}{A1:α0→α1→α2→Prop}{A2:α0→α1→α2→Prop}{A3:α0→α1→α2→Prop}{A4:α0→α1→α2→Prop}{A5:α0→α1→α2→Prop}{P:Prop}(h:∃ x0 x1 x2,A0 x0 x1 x2∧A1 x0 x1 x2∧A2 x0 x1 x2∧A3 x0 x1 x2∧A4 x0 x1 x2∧A5 x0 x1 x2)(k:∀ x0 x1 x2,A0 x0 x1 x2→A1 x0 x1 x2→A2 x0 x1 x2→A3 x0 x1 x2→A4 x0 x1 x2→A5 x0 x1 x2→P):P:=h.elim fun x y=>ob_2_6 y (k x)
theorem ob_4_1.{u0,u1,u2,u3}{α0:Sort u0}{α1:Sort u1}{α2:Sort u2}{α3:Sort u3}{A0:α0→α1→α2→α3→Prop}{P:Prop}(h:∃ x0 x1 x2 x3,A0 x0 x1 x2 x3)(k:∀ x0 x1 x2 x3,A0 x0 x1 x2 x3→P):P:=h.elim fun x y=>ob_3_1 y (k x)
theorem ob_4_3.{u0,u1,u2,u3}{α0:Sort u0}{α1:Sort u1}{α2:Sort u2}{α3:Sort u3}{A0:α0→α1→α2→α3→Prop}{A1:α0→α1→α2→α3→Prop}{A2:α0→α1→α2→α3→Prop}{P:Prop}(h:∃ x0 x1 x2 x3,A0 x0 x1 x2 x3∧A1 x0 x1 x2 x3∧A2 x0 x1 x2 x3)(k:∀ x0 x1 x2 x3,A0 x0 x1 x2 x3→A1 x0 x1 x2 x3→A2 x0 x1 x2 x3→P):P:=h.elim fun x y=>ob_3_3 y (k x)
theorem ob_4_5.{u0,u1,u2,u3}{α0:Sort u0}{α1:Sort u1}{α2:Sort u2}{α3:Sort u3}{A0:α0→α1→α2→α3→Prop}{A1:α0→α1→α2→α3→Prop}{A2:α0→α1→α2→α3→Prop}{A3:α0→α1→α2→α3→Prop}{A4:α0→α1→α2→α3→Prop}{P:Prop}(h:∃ x0 x1 x2 x3,A0 x0 x1 x2 x3∧A1 x0 x1 x2 x3∧A2 x0 x1 x2 x3∧A3 x0 x1 x2 x3∧A4 x0 x1 x2 x3)(k:∀ x0 x1 x2 x3,A0 x0 x1 x2 x3→A1 x0 x1 x2 x3→A2 x0 x1 x2 x3→A3 x0 x1 x2 x3→A4 x0 x1 x2 x3→P):P:=by
 obtain ⟨x0,x1,x2,x3,y0,y1,y2,y3,y4⟩:=h
 exact k x0 x1 x2 x3 y0 y1 y2 y3 y4
theorem ob_4_8.{u0,u1,u2,u3}{α0:Sort u0}{α1:Sort u1}{α2:Sort u2}{α3:Sort u3}{A0:α0→α1→α2→α3→Prop}{A1:α0→α1→α2→α3→Prop}{A2:α0→α1→α2→α3→Prop}{A3:α0→α1→α2→α3→Prop}{A4:α0→α1→α2→α3→Prop}{A5:α0→α1→α2→α3→Prop}{A6:α0→α1→α2→α3→Prop}{A7:α0→α1→α2→α3→Prop}{P:Prop}(h:∃ x0 x1 x2 x3,A0 x0 x1 x2 x3∧A1 x0 x1 x2 x3∧A2 x0 x1 x2 x3∧A3 x0 x1 x2 x3∧A4 x0 x1 x2 x3∧A5 x0 x1 x2 x3∧A6 x0 x1 x2 x3∧A7 x0 x1 x2 x3)(k:∀ x0 x1 x2 x3,A0 x0 x1 x2 x3→A1 x0 x1 x2 x3→A2 x0 x1 x2 x3→A3 x0 x1 x2 x3→A4 x0 x1 x2 x3→A5 x0 x1 x2 x3→A6 x0 x1 x2 x3→A7 x0 x1 x2 x3→P):P:=by
 obtain ⟨x0,x1,x2,x3,y0,y1,y2,y3,y4,y5,y6,y7⟩:=h
 exact k x0 x1 x2 x3 y0 y1 y2 y3 y4 y5 y6 y7
theorem ob_5_2.{u0,u1,u2,u3,u4}{α0:Sort u0}{α1:Sort u1}{α2:Sort u2}{α3:Sort u3}{α4:Sort u4}{A0:α0→α1→α2→α3→α4→Prop}{A1:α0→α1→α2→α3→α4→Prop}{P:Prop}(h:∃ x0 x1 x2 x3 x4,A0 x0 x1 x2 x3 x4∧A1 x0 x1 x2 x3 x4)(k:∀ x0 x1 x2 x3 x4,A0 x0 x1 x2 x3 x4→A1 x0 x1 x2 x3 x4→P):P:=by
 obtain ⟨x0,x1,x2,x3,x4,y0,y1⟩:=h
 exact k x0 x1 x2 x3 x4 y0 y1
theorem ob_5_7.{u0,u1,u2,u3,u4}{α0:Sort u0}{α1:Sort u1}{α2:Sort u2}{α3:Sort u3}{α4:Sort u4}{A0:α0→α1→α2→α3→α4→Prop}{A1:α0→α1→α2→α3→α4→Prop}{A2:α0→α1→α2→α3→α4→Prop}{A3:α0→α1→α2→α3→α4→Prop}{A4:α0→α1→α2→α3→α4→Prop}{A5:α0→α1→α2→α3→α4→Prop}{A6:α0→α1→α2→α3→α4→Prop}{P:Prop}(h:∃ x0 x1 x2 x3 x4,A0 x0 x1 x2 x3 x4∧A1 x0 x1 x2 x3 x4∧A2 x0 x1 x2 x3 x4∧A3 x0 x1 x2 x3 x4∧A4 x0 x1 x2 x3 x4∧A5 x0 x1 x2 x3 x4∧A6 x0 x1 x2 x3 x4)(k:∀ x0 x1 x2 x3 x4,A0 x0 x1 x2 x3 x4→A1 x0 x1 x2 x3 x4→A2 x0 x1 x2 x3 x4→A3 x0 x1 x2 x3 x4→A4 x0 x1 x2 x3 x4→A5 x0 x1 x2 x3 x4→A6 x0 x1 x2 x3 x4→P):P:=by
 obtain ⟨x0,x1,x2,x3,x4,y0,y1,y2,y3,y4,y5,y6⟩:=h
 exact k x0 x1 x2 x3 x4 y0 y1 y2 y3 y4 y5 y6
theorem ob_7_5.{u0,u1,u2,u3,u4,u5,u6}{α0:Sort u0}{α1:Sort u1}{α2:Sort u2}{α3:Sort u3}{α4:Sort u4}{α5:Sort u5}{α6:Sort u6}{A0:α0→α1→α2→α3→α4→α5→α6→Prop}{A1:α0→α1→α2→α3→α4→α5→α6→Prop}{A2:α0→α1→α2→α3→α4→α5→α6→Prop}{A3:α0→α1→α2→α3→α4→α5→α6→Prop}{A4:α0→α1→α2→α3→α4→α5→α6→Prop}{P:Prop}(h:∃ x0 x1 x2 x3 x4 x5 x6,A0 x0 x1 x2 x3 x4 x5 x6∧A1 x0 x1 x2 x3 x4 x5 x6∧A2 x0 x1 x2 x3 x4 x5 x6∧A3 x0 x1 x2 x3 x4 x5 x6∧A4 x0 x1 x2 x3 x4 x5 x6)(k:∀ x0 x1 x2 x3 x4 x5 x6,A0 x0 x1 x2 x3 x4 x5 x6→A1 x0 x1 x2 x3 x4 x5 x6→A2 x0 x1 x2 x3 x4 x5 x6→A3 x0 x1 x2 x3 x4 x5 x6→A4 x0 x1 x2 x3 x4 x5 x6→P):P:=by
 obtain ⟨x0,x1,x2,x3,x4,x5,x6,y0,y1,y2,y3,y4⟩:=h
 exact k x0 x1 x2 x3 x4 x5 x6 y0 y1 y2 y3 y4
theorem ob_8_11.{u0,u1,u2,u3,u4,u5,u6,u7}{α0:Sort u0}{α1:Sort u1}{α2:Sort u2}{α3:Sort u3}{α4:Sort u4}{α5:Sort u5}{α6:Sort u6}{α7:Sort u7}{A0:α0→α1→α2→α3→α4→α5→α6→α7→Prop}{A1:α0→α1→α2→α3→α4→α5→α6→α7→Prop}{A2:α0→α1→α2→α3→α4→α5→α6→α7→Prop}{A3:α0→α1→α2→α3→α4→α5→α6→α7→Prop}{A4:α0→α1→α2→α3→α4→α5→α6→α7→Prop}{A5:α0→α1→α2→α3→α4→α5→α6→α7→Prop}{A6:α0→α1→α2→α3→α4→α5→α6→α7→Prop}{A7:α0→α1→α2→α3→α4→α5→α6→α7→Prop}{A8:α0→α1→α2→α3→α4→α5→α6→α7→Prop}{A9:α0→α1→α2→α3→α4→α5→α6→α7→Prop}{A10:α0→α1→α2→α3→α4→α5→α6→α7→Prop}{P:Prop}(h:∃ x0 x1 x2 x3 x4 x5 x6 x7,A0 x0 x1 x2 x3 x4 x5 x6 x7∧A1 x0 x1 x2 x3 x4 x5 x6 x7∧A2 x0 x1 x2 x3 x4 x5 x6 x7∧A3 x0 x1 x2 x3 x4 x5 x6 x7∧A4 x0 x1 x2 x3 x4 x5 x6 x7∧A5 x0 x1 x2 x3 x4 x5 x6 x7∧A6 x0 x1 x2 x3 x4 x5 x6 x7∧A7 x0 x1 x2 x3 x4 x5 x6 x7∧A8 x0 x1 x2 x3 x4 x5 x6 x7∧A9 x0 x1 x2 x3 x4 x5 x6 x7∧A10 x0 x1 x2 x3 x4 x5 x6 x7)(k:∀ x0 x1 x2 x3 x4 x5 x6 x7,A0 x0 x1 x2 x3 x4 x5 x6 x7→A1 x0 x1 x2 x3 x4 x5 x6 x7→A2 x0 x1 x2 x3 x4 x5 x6 x7→A3 x0 x1 x2 x3 x4 x5 x6 x7→A4 x0 x1 x2 x3 x4 x5 x6 x7→A5 x0 x1 x2 x3 x4 x5 x6 x7→A6 x0 x1 x2 x3 x4 x5 x6 x7→A7 x0 x1 x2 x3 x4 x5 x6 x7→A8 x0 x1 x2 x3 x4 x5 x6 x7→A9 x0 x1 x2 x3 x4 x5 x6 x7→A10 x0 x1 x2 x3 x4 x5 x6 x7→P):P:=by
 obtain ⟨x0,x1,x2,x3,x4,x5,x6,x7,y0,y1,y2,y3,y4,y5,y6,y7,y8,y9,y10⟩:=h
 exact k x0 x1 x2 x3 x4 x5 x6 x7 y0 y1 y2 y3 y4 y5 y6 y7 y8 y9 y10
theorem ib_1_2.{u0}{α0:Sort u0}{A0:α0→Prop}{A1:α0→Prop}(x0:α0)(y0:A0 x0)(y1:A1 x0):∃ x0,A0 x0∧A1 x0:=⟨x0,y0,y1⟩
theorem ib_1_3.{u0}{α0:Sort u0}{A0:α0→Prop}{A1:α0→Prop}{A2:α0→Prop}(x0:α0)(y0:A0 x0)(y1:A1 x0)(y2:A2 x0):∃ x0,A0 x0∧A1 x0∧A2 x0:=⟨x0,y0,y1,y2⟩
theorem ib_1_4.{u0}{α0:Sort u0}{A0:α0→Prop}{A1:α0→Prop}{A2:α0→Prop}{A3:α0→Prop}(x0:α0)(y0:A0 x0)(y1:A1 x0)(y2:A2 x0)(y3:A3 x0):∃ x0,A0 x0∧A1 x0∧A2 x0∧A3 x0:=⟨x0,y0,y1,y2,y3⟩
theorem ib_2_1.{u0,u1}{α0:Sort u0}{α1:Sort u1}{A0:α0→α1→Prop}(x0:α0)(x1:α1)(y0:A0 x0 x1):∃ x0 x1,A0 x0 x1:=⟨x0,x1,y0⟩
theorem ib_2_2.{u0,u1}{α0:Sort u0}{α1:Sort u1}{A0:α0→α1→Prop}{A1:α0→α1→Prop}(x0:α0)(x1:α1)(y0:A0 x0 x1)(y1:A1 x0 x1):∃ x0 x1,A0 x0 x1∧A1 x0 x1:=⟨x0,x1,y0,y1⟩
theorem ib_2_3.{u0,u1}{α0:Sort u0}{α1:Sort u1}{A0:α0→α1→Prop}{A1:α0→α1→Prop}{A2:α0→α1→Prop}(x0:α0)(x1:α1)(y0:A0 x0 x1)(y1:A1 x0 x1)(y2:A2 x0 x1):∃ x0 x1,A0 x0 x1∧A1 x0 x1∧A2 x0 x1:=⟨x0,x1,y0,y1,y2⟩
theorem ib_2_4.{u0,u1}{α0:Sort u0}{α1:Sort u1}{A0:α0→α1→Prop}{A1:α0→α1→Prop}{A2:α0→α1→Prop}{A3:α0→α1→Prop}(x0:α0)(x1:α1)(y0:A0 x0 x1)(y1:A1 x0 x1)(y2:A2 x0 x1)(y3:A3 x0 x1):∃ x0 x1,A0 x0 x1∧A1 x0 x1∧A2 x0 x1∧A3 x0 x1:=⟨x0,x1,y0,y1,y2,y3⟩
theorem ib_2_5.{u0,u1}{α0:Sort u0}{α1:Sort u1}{A0:α0→α1→Prop}{A1:α0→α1→Prop}{A2:α0→α1→Prop}{A3:α0→α1→Prop}{A4:α0→α1→Prop}(x0:α0)(x1:α1)(y0:A0 x0 x1)(y1:A1 x0 x1)(y2:A2 x0 x1)(y3:A3 x0 x1)(y4:A4 x0 x1):∃ x0 x1,A0 x0 x1∧A1 x0 x1∧A2 x0 x1∧A3 x0 x1∧A4 x0 x1:=⟨x0,x1,y0,y1,y2,y3,y4⟩
theorem ib_3_2.{u0,u1,u2}{α0:Sort u0}{α1:Sort u1}{α2:Sort u2}{A0:α0→α1→α2→Prop}{A1:α0→α1→α2→Prop}(x0:α0)(x1:α1)(x2:α2)(y0:A0 x0 x1 x2)(y1:A1 x0 x1 x2):∃ x0 x1 x2,A0 x0 x1 x2∧A1 x0 x1 x2:=⟨x0,x1,x2,y0,y1⟩
theorem ib_3_3.{u0,u1,u2}{α0:Sort u0}{α1:Sort u1}{α2:Sort u2}{A0:α0→α1→α2→Prop}{A1:α0→α1→α2→Prop}{A2:α0→α1→α2→Prop}(x0:α0)(x1:α1)(x2:α2)(y0:A0 x0 x1 x2)(y1:A1 x0 x1 x2)(y2:A2 x0 x1 x2):∃ x0 x1 x2,A0 x0 x1 x2∧A1 x0 x1 x2∧A2 x0 x1 x2:=⟨x0,x1,x2,y0,y1,y2⟩
theorem ib_3_5.{u0,u1,u2}{α0:Sort u0}{α1:Sort u1}{α2:Sort u2}{A0:α0→α1→α2→Prop}{A1:α0→α1→α2→Prop}{A2:α0→α1→α2→Prop}{A3:α0→α1→α2→Prop}{A4:α0→α1→α2→Prop}(x0:α0)(x1:α1)(x2:α2)(y0:A0 x0 x1 x2)(y1:A1 x0 x1 x2)(y2:A2 x0 x1 x2)(y3:A3 x0 x1 x2)(y4:A4 x0 x1 x2):∃ x0 x1 x2,A0 x0 x1 x2∧A1 x0 x1 x2∧A2 x0 x1 x2∧A3 x0 x1 x2∧A4 x0 x1 x2:=⟨x0,x1,x2,y0,y1,y2,y3,y4⟩
theorem ib_4_4.{u0,u1,u2,u3}{α0:Sort u0}{α1:Sort u1}{α2:Sort u2}{α3:Sort u3}{A0:α0→α1→α2→α3→Prop}{A1:α0→α1→α2→α3→Prop}{A2:α0→α1→α2→α3→Prop}{A3:α0→α1→α2→α3→Prop}(x0:α0)(x1:α1)(x2:α2)(x3:α3)(y0:A0 x0 x1 x2 x3)(y1:A1 x0 x1 x2 x3)(y2:A2 x0 x1 x2 x3)(y3:A3 x0 x1 x2 x3):∃ x0 x1 x2 x3,A0 x0 x1 x2 x3∧A1 x0 x1 x2 x3∧A2 x0 x1 x2 x3∧A3 x0 x1 x2 x3:=⟨x0,x1,x2,x3,y0,y1,y2,y3⟩
theorem ib_5_2.{u0,u1,u2,u3,u4}{α0:Sort u0}{α1:Sort u1}{α2:Sort u2}{α3:Sort u3}{α4:Sort u4}{A0:α0→α1→α2→α3→α4→Prop}{A1:α0→α1→α2→α3→α4→Prop}(x0:α0)(x1:α1)(x2:α2)(x3:α3)(x4:α4)(y0:A0 x0 x1 x2 x3 x4)(y1:A1 x0 x1 x2 x3 x4):∃ x0 x1 x2 x3 x4,A0 x0 x1 x2 x3 x4∧A1 x0 x1 x2 x3 x4:=⟨x0,x1,x2,x3,x4,y0,y1⟩
theorem ib_6_8.{u0,u1,u2,u3,u4,u5}{α0:Sort u0}{α1:Sort u1}{α2:Sort u2}{α3:Sort u3}{α4:Sort u4}{α5:Sort u5}{A0:α0→α1→α2→α3→α4→α5→Prop}{A1:α0→α1→α2→α3→α4→α5→Prop}{A2:α0→α1→α2→α3→α4→α5→Prop}{A3:α0→α1→α2→α3→α4→α5→Prop}{A4:α0→α1→α2→α3→α4→α5→Prop}{A5:α0→α1→α2→α3→α4→α5→Prop}{A6:α0→α1→α2→α3→α4→α5→Prop}{A7:α0→α1→α2→α3→α4→α5→Prop}(x0:α0)(x1:α1)(x2:α2)(x3:α3)(x4:α4)(x5:α5)(y0:A0 x0 x1 x2 x3 x4 x5)(y1:A1 x0 x1 x2 x3 x4 x5)(y2:A2 x0 x1 x2 x3 x4 x5)(y3:A3 x0 x1 x2 x3 x4 x5)(y4:A4 x0 x1 x2 x3 x4 x5)(y5:A5 x0 x1 x2 x3 x4 x5)(y6:A6 x0 x1 x2 x3 x4 x5)(y7:A7 x0 x1 x2 x3 x4 x5):∃ x0 x1 x2 x3 x4 x5,A0 x0 x1 x2 x3 x4 x5∧A1 x0 x1 x2 x3 x4 x5∧A2 x0 x1 x2 x3 x4 x5∧A3 x0 x1 x2 x3 x4 x5∧A4 x0 x1 x2 x3 x4 x5∧A5 x0 x1 x2 x3 x4 x5∧A6 x0 x1 x2 x3 x4 x5∧A7 x0 x1 x2 x3 x4 x5:=⟨x0,x1,x2,x3,x4,x5,y0,y1,y2,y3,y4,y5,y6,y7⟩
theorem ib_7_5.{u0,u1,u2,u3,u4,u5,u6}{α0:Sort u0}{α1:Sort u1}{α2:Sort u2}{α3:Sort u3}{α4:Sort u4}{α5:Sort u5}{α6:Sort u6}{A0:α0→α1→α2→α3→α4→α5→α6→Prop}{A1:α0→α1→α2→α3→α4→α5→α6→Prop}{A2:α0→α1→α2→α3→α4→α5→α6→Prop}{A3:α0→α1→α2→α3→α4→α5→α6→Prop}{A4:α0→α1→α2→α3→α4→α5→α6→Prop}(x0:α0)(x1:α1)(x2:α2)(x3:α3)(x4:α4)(x5:α5)(x6:α6)(y0:A0 x0 x1 x2 x3 x4 x5 x6)(y1:A1 x0 x1 x2 x3 x4 x5 x6)(y2:A2 x0 x1 x2 x3 x4 x5 x6)(y3:A3 x0 x1 x2 x3 x4 x5 x6)(y4:A4 x0 x1 x2 x3 x4 x5 x6):∃ x0 x1 x2 x3 x4 x5 x6,A0 x0 x1 x2 x3 x4 x5 x6∧A1 x0 x1 x2 x3 x4 x5 x6∧A2 x0 x1 x2 x3 x4 x5 x6∧A3 x0 x1 x2 x3 x4 x5 x6∧A4 x0 x1 x2 x3 x4 x5 x6:=⟨x0,x1,x2,x3,x4,x5,x6,y0,y1,y2,y3,y4⟩
end Mine.Internal
end
section
open PySem
set_option genCtorIdx false
namespace Mine.Internal
inductive V where
 | none | bool (b:Bool) | int (i:Int) | str (s:Str)
 | tup (l:List V) | lst (l:List V)
 | ref (n:Nat) | dct (n:Nat) | inst (n:Nat)
 | exc (code val:V) | own (l:List V)
 deriving Inhabited
noncomputable def V.ctorIdx(x:V):Nat:=x.casesOn 0 (fun z9=>1) (fun z9=>2) (fun z9=>3) (fun z9=>4) (fun z9=>5) (fun z9=>6) (fun z9=>7) (fun z9=>8) (fun z9 z9=>9) (fun z9=>10)
set_option genInjectivity false in
inductive kO where
 | list (l:List V) | dict (d:List (Str×V)) | attrs (d:List (Str×V))
 deriving Inhabited
noncomputable def kO.ctorIdx(x:kO):Nat:=x.casesOn (fun z9=>0) (fun z9=>1) (fun z9=>2)
noncomputable abbrev St:=List kO
noncomputable abbrev ck:=List (Option V)
set_option genCtorIdx true in
set_option genInjectivity false in
inductive B_ | add | sub | mul | mod | pow deriving DecidableEq
set_option genCtorIdx true in
set_option genInjectivity false in
inductive rP | eq | ne | lt | le | gt | ge | isin | notin | is | isnot deriving DecidableEq
set_option genInjectivity false in
inductive PE where
 | none | bool (b:Bool) | int (i:Int) | str (s:Str) | loc (i:Nat)
 | tup (es:List PE) | lst (es:List PE) | cel (es:List PE)
 | dct (ks:List Str) (es:List PE) | dget (ks:List Str) (is:List Int) (i:Nat) (d:Int)
 | sub (e i:PE) | slc (e lo hi:PE) | attr (e:PE) (a:Str)
 | bin (op:B_) (a b:PE) | cmp (op:rP) (a b:PE) | cmp2 (o1 o2:rP) (a b c:PE)
 | and (a b:PE) | or (a b:PE) | not (a:PE) | ite (c a b:PE)
 | call (f:Nat) (es:List PE) | meth (f:Nat) (m:Str) (e:PE) (es:List PE) | raised (es:List PE) | mkErr (e:PE) | newInst (k:Nat) (es:List PE)
 | len (e:PE) | strOf (e:PE) | ord (e:PE) | sum (e:PE) | tuple (e:PE) | ownTup (i:Nat)
 | append (e x:PE) | pop (e:PE) | find (e x y:PE) | strip (e x:PE) | join (e x:PE) | count (e x:PE)
 | comp (elt:PE) (src:PE) (cond:PE) | compR (elt:PE) (n:PE)
 | comp2 (elt src src2:PE) | bad
set_option genInjectivity false in
inductive PS where
 | asg (i:Nat) (e:PE) | own (i:Nat) | asgT (is:List Nat) (e:PE)
 | setA (o:PE) (a:Str) (e:PE) | setI (o ix e:PE) | aug (i:Nat) (e:PE) | augA (o:PE) (a:Str) (e:PE)
 | ownApp (i:Nat) (e:PE) | ownPop (i j:Nat)
 | expr (e:PE) | ifs (c:PE) (t e:List PS) | whl (c:PE) (b:List PS)
 | for1 (i:Nat) (e:PE) (b:List PS) | forR (i:Nat) (e:PE) (b:List PS) | forT (is:List Nat) (e:PE) (b:List PS)
 | ret (e:PE) | brk | pass | raise (e:PE) | try1 (b:List PS) (x:Nat) (h:List PS) | bad
inductive jE (α:Type) where
 | ok (a:α) (s:St) | exc (v:V) (s:St)
 deriving Inhabited
noncomputable def jE.ctorIdx{α:Type}(x:jE α):Nat:=x.casesOn (fun z9 z9=>0) (fun z9 z9=>1)
noncomputable abbrev cR(α:Type):=Option (jE α)
noncomputable def cR.bind{α β:Type}(x:cR α)(f:α→St→cR β):cR β:=match x with
 | none=>none
 | some (.exc v s)=>some (.exc v s)
 | some (.ok a s)=>f a s
set_option genInjectivity false in
inductive FR where
 | next (ρ:ck) (s:St) | brk (ρ:ck) (s:St) | ret (v:V) (ρ:ck) (s:St) | exc (v:V) (ρ:ck) (s:St)
 deriving Inhabited
noncomputable def FR.ctorIdx(x:FR):Nat:=x.casesOn (fun z9 z9=>0) (fun z9 z9=>1) (fun z9 z9 z9=>2) (fun z9 z9 z9=>3)
noncomputable def bv{α:Type}(a:α)(s:St):cR α:=some (.ok a s)
noncomputable def dz:V→Option Str
 | .str s=>some s
 | _=>none
noncomputable def lU:V→Option Bool
 | .bool s=>some s
 | _=>none
noncomputable def eE:V→Option Int
 | .int s=>some s
 | _=>none
noncomputable def jG{α:Type}(f:V→Option α):List V→Option (List α)
 | []=>some []
 | v::r=>(f v).bind fun x=>(jG f r).map (x::·)
noncomputable def ed(l:List V):Option (List Str):=jG dz l
noncomputable def mo(l:List V):Option (List Bool):=jG lU l
noncomputable def mV(l:List V):Option (List Int):=jG eE l
noncomputable def gg:V→Option (List V)
 | .tup l=>some l
 | _=>none
noncomputable def gU:V→Option (List V)
 | .lst l=>some l
 | _=>none
noncomputable def kz:V→Option (List V)
 | .own l=>some l
 | _=>none
noncomputable def qP:V→Option Nat
 | .ref n=>some n
 | _=>none
noncomputable def we:V→Option Nat
 | .dct n=>some n
 | _=>none
noncomputable def pS:V→Option Nat
 | .inst n=>some n
 | _=>none
noncomputable def Ca:V→Option (V×V)
 | .exc c v=>some (c,v)
 | _=>none
noncomputable def EU:kO→Option (List V)
 | .list l=>some l
 | _=>none
noncomputable def EW:kO→Option (List (Str×V))
 | .dict l=>some l
 | _=>none
noncomputable def GY:kO→Option (List (Str×V))
 | .attrs l=>some l
 | _=>none
noncomputable def fO(σ:St)(n:Nat):Option (List V):=(σ[n]?).bind EU
noncomputable def kP(σ:St)(n:Nat):Option (List (Str×V)):=(σ[n]?).bind EW
noncomputable def lN(σ:St)(n:Nat):Option (List (Str×V)):=(σ[n]?).bind GY
theorem gD{σ:St}{n:Nat}{l:List V}(h:σ[n]?=some (.list l)):fO σ n=some l:=congrArg (Option.bind · EU) h
theorem ot{σ:St}{n:Nat}{l:List (Str×V)}(h:σ[n]?=some (.dict l)):kP σ n=some l:=congrArg (Option.bind · EW) h
noncomputable def dH(σ:St)(v:V):Option (List V):=(gg v).or ((gU v).or ((qP v).bind (fO σ)))
noncomputable def tE{α β:Type}(p:V→Option α)(x y:V)(f:α→α→Option β):Option β:=(p x).bind fun a=>(p y).bind (f a)
noncomputable def isNone:V→Bool
 | .none=>true
 | _=>false
noncomputable def rS(v:V):Option PyData:=(if isNone v then some .none else none).or (((lU v).map .bool).or (((eE v).map .int).or ((dz v).bind fun s=>if PyData.strOk s then some (.str s) else none)))
noncomputable def mW(σ:St):Nat→V→Option PyData
 | 0,v=>rS v
 | n+1,v=>(rS v).or (((gg v).bind fun l=>(jG (mW σ n) l).map .tuple).or (((gU v).or ((qP v).bind (fO σ))).bind fun l=>(jG (mW σ n) l).map .list))
noncomputable def CV(σ:St)(a b:V):Option Bool:=(mW σ 8 a).bind fun x=>(mW σ 8 b).map fun y=>PyData.eqv x y
noncomputable def CW(σ:St)(a b:V):Option Bool:=(tE dz a b fun x y=>some (decide (x=y))).or ((tE eE a b fun x y=>some (decide (x=y))).or ((tE lU a b fun x y=>some (x == y)).or (CV σ a b)))
noncomputable def look(k:Str):List (Str×V)→Option V
 | []=>none
 | (x,v)::r=>if x=k then some v else look k r
noncomputable def bE{α:Type}(x:Str):List (Str×α)→Option α
 | []=>none
 | (y,v)::r=>if x=y then some v else bE x r
noncomputable def j_:List Str→Bool
 | []=>true
 | k::r=>(!r.any fun y=>decide (y=k))&&j_ r
noncomputable def nR(k:Str)(v:V):List (Str×V)→List (Str×V)
 | []=>[(k,v)]
 | (x,u)::r=>if x=k then (x,v)::r else (x,u)::nR k v r
noncomputable def fl(n:Nat):Bool:=Nat.ble n 100000
noncomputable def eQ(i:Int):Bool:=Nat.ble i.natAbs 4611686018427387903
noncomputable def lO(k:Int)(m:Nat):Bool:=match k with
 | .ofNat n=>Nat.ble (n+1) m
 | .negSucc _=>false
noncomputable def eF(σ:St)(v:V):Option Bool:=(if isNone v then some false else none).or ((lU v).or (((eE v).map (· != 0)).or (((dH σ v).map fun l=>!l.isEmpty).or ((kz v).map fun l=>!l.isEmpty))))
noncomputable def gJ(op:B_)(x y:V):Option V:=match op with
 | .add=>(tE eE x y fun a b=>if eQ a&&eQ b then some (.int (a+b)) else none).or ((tE dz x y fun a b=>if fl (a.length+b.length) then some (.str (a++b)) else none).or
  (tE gU x y fun a b=>if fl (a.length+b.length) then some (.lst (a++b)) else none))
 | .sub=>tE eE x y fun a b=>if eQ a&&eQ b then some (.int (a-b)) else none
 | .mul=>none
 | .mod=>tE eE x y fun a b=>if b≤0 then none else some (.int (Int.fmod a b))
 | .pow=>tE eE x y fun a b=>if (a=3 || a=10)&&decide (0≤b)&&decide (b≤1000) then some (.int (a ^ b.toNat)) else none
noncomputable def GZ(σ:St)(x c:V):Option Bool:=((dz x).bind fun s=>((dz c).map fun t=>Txt.contains t s).or ((((we c).bind (kP σ)).map fun d=>(look s d).isSome).or
  (((gg c).or (gU c)).bind fun l=>(ed l).map fun ss=>ss.any fun y=>decide (y=s)))).or
 ((lU x).bind fun s=>(gg c).bind fun l=>(mo l).map fun ss=>ss.any fun y=>y == s)
noncomputable def dG(σ:St)(o:rP)(x y:V):Option Bool:=match o with
 | .eq=>CW σ x y
 | .ne=>(CW σ x y).map (!·)
 | .lt=>tE eE x y fun a b=>some (decide (a<b))
 | .le=>tE eE x y fun a b=>some (decide (a≤b))
 | .gt=>tE eE x y fun a b=>some (decide (a>b))
 | .ge=>tE eE x y fun a b=>some (decide (a≥b))
 | .isin=>GZ σ x y
 | .notin=>(GZ σ x y).map (!·)
 | .is=>if isNone y then some (isNone x) else none
 | .isnot=>if isNone y then some (!isNone x) else none
noncomputable def eA(σ:St)(v i:V):Option V:=((eE i).bind fun k=>if lO k 1000000 then ((dH σ v).bind fun l=>l[k.toNat]?).or ((dz v).bind fun s=>if (Txt.charAt s k).isSome then some (.str (Txt.item s k)) else none) else none).or
 ((dz i).bind fun k=>((we v).bind (kP σ)).bind (look k))
noncomputable def EF(v:V):Option (Option Int):=if isNone v then some none else (eE v).bind fun k=>if lO k 1000000 then some (some k) else none
noncomputable def xw:Option Int→Option Int→Option Int
 | some k,none=>some k
 | _,_=>none
noncomputable def rT(v lo hi:V):Option V:=(EF lo).bind fun a=>(EF hi).bind fun b=>((dz v).bind fun s=>if fl s.length then some (.str (Txt.slice s a b)) else none).or
 (((gg v).bind fun l=>(xw a b).bind fun k=>if decide (k.toNat≤l.length) then some (.tup (l.drop k.toNat)) else none).or ((gU v).bind fun l=>(xw b a).map fun k=>.lst (l.take k.toNat)))
noncomputable def gh(σ:St)(v:V)(a:Str):Option V:=(((pS v).bind (lN σ)).bind (look a)).or ((Ca v).bind fun cx=>if a=Str.ofString "code" then some cx.1 else if a=Str.ofString "value" then some cx.2
  else if a=Str.ofString "errorcode" then some (.tup [.str (Str.ofString "NONE")]) else none)
noncomputable def wf(σ:St)(v:V):Option Nat:=((dz v).bind fun s=>if fl s.length then some s.length else none).or ((dH σ v).map List.length)
noncomputable def tF:List Int→Int
 | []=>0
 | x::r=>x+tF r
noncomputable def gV:List Int→Bool
 | []=>true
 | x::r=>decide (0≤x)&&decide (x<2000000)&&gV r
noncomputable def p_:List Str:=["host","compilers","is_slots","rows","ranges","names","sources","loops","depth","eaches"]
noncomputable def rU:List Str:=["code","value","errorcode"]
noncomputable def fD(a:Str):Bool:=(p_++rU).any fun b=>decide (b=a)
noncomputable def gW:PE→Bool
 | .bool _ | .int _ | .str _ | .loc _=>true
 | .sub e i=>gW e&&gW i
 | .attr e _=>gW e
 | .cmp _ a b | .count a b=>gW a&&gW b
 | _=>false
noncomputable def kQ:PE→Bool
 | .bool _ | .loc _=>true
 | .not a=>kQ a
 | .and a b | .or a b=>kQ a&&kQ b
 | .cmp _ a b=>gW a&&gW b
 | _=>false
noncomputable def lstAt(σ:St)(v:V):Option Nat:=(qP v).bind fun n=>(fO σ n).map fun z9=>n
noncomputable def jP(σ:St)(m:Str)(v:V):Option Unit:=((pS v).bind (lN σ)).bind fun d=>if (look m d).isNone then some () else none
noncomputable def xx(σ:St)(n:Nat)(a:V):Option V:=(dz a).bind fun t=>(fO σ n).bind fun l=>(ed l).map fun ss=>.int ((ss.filter fun y=>decide (y=t)).length:Int)
noncomputable def jV(ρ:ck)(i:Nat):Option V:=(ρ[i]?).bind id
noncomputable def uW:V→Bool
 | .own _=>true
 | _=>false
noncomputable def isLst:V→Bool
 | .lst _=>true
 | _=>false
noncomputable def isExc:V→Bool
 | .exc _ _=>true
 | _=>false
noncomputable def isRef:V→Bool
 | .ref _=>true
 | _=>false
noncomputable def xy(ρ:ck)(i:Nat):Option V:=(jV ρ i).bind fun v=>if uW v then none else some v
noncomputable def CX(s:Str):Option V:=match s.cps.toList with
 | [c]=>some (.int (c:Int))
 | _=>none
section
variable (C:Nat→List V→St→cR V)
noncomputable def gK(f:V→St→cR V):List V→St→cR (List V)
 | [],σ=>bv [] σ
 | v::r,σ=>(f v σ).bind fun x σ=>(gK f r σ).bind fun xs σ=>bv (x::xs) σ
noncomputable def gI(c:V→St→cR Bool)(f:V→St→cR V):List V→St→cR (List V)
 | [],σ=>bv [] σ
 | v::r,σ=>(c v σ).bind fun b σ=>match b with
  | true=>(f v σ).bind fun x σ=>(gI c f r σ).bind fun xs σ=>bv (x::xs) σ
  | false=>gI c f r σ
noncomputable def kA(f:V→St→cR (List V)):List V→St→cR (List V)
 | [],σ=>bv [] σ
 | v::r,σ=>(f v σ).bind fun x σ=>(kA f r σ).bind fun xs σ=>bv (x++xs) σ
noncomputable def lift{α:Type}(x:Option α)(σ:St):cR α:=match x with
 | some a=>bv a σ
 | none=>none
noncomputable def rng(n:Int):List V:=(List.range n.toNat).map fun (k:Nat)=>V.int (k:Int)
noncomputable def nS(σ:St)(v:V):Option (List V):=((dz v).bind fun s=>if fl s.length then some (s.cps.toList.map fun c=>.str ⟨#[c]⟩) else none).or (dH σ v)
noncomputable def Cb(a:V):Bool:=decide ((gg a).bind ed=some [Str.ofString "NONE"])
noncomputable def n9(l:List V):Option V:=match l with
 | c::v::r=>match r with
  | []=>some (.exc c v)
  | e::r=>if r.isEmpty&&Cb e then some (.exc c v) else none
 | _=>none
mutual
noncomputable def ev(ρ:ck):PE→St→cR V
 | .none,σ=>bv .none σ
 | .bool b,σ=>bv (.bool b) σ
 | .int i,σ=>bv (.int i) σ
 | .str s,σ=>bv (.str s) σ
 | .loc i,σ=>lift (xy ρ i) σ
 | .tup es,σ=>(lJ ρ es σ).bind fun vs σ=>bv (.tup vs) σ
 | .lst es,σ=>(lJ ρ es σ).bind fun vs σ=>bv (.lst vs) σ
 | .cel es,σ=>(lJ ρ es σ).bind fun vs σ=>bv (.ref σ.length) (σ++[.list vs])
 | .dct ks es,σ=>if j_ ks&&decide (ks.length=es.length)&&decide (ks.length≤15) then (lJ ρ es (σ++[.dict []])).bind fun vs σ'=>(kP σ' σ.length).bind fun d=>if d.isEmpty then bv (.dct σ.length) (σ'.set σ.length (.dict (ks.zip vs))) else none else none
 | .dget ks is i d,σ=>lift (((jV ρ i).bind dz).bind fun s=>if j_ ks&&decide (ks.length=is.length)&&decide (ks.length≤15) then some (.int ((bE s (ks.zip is)).getD d)) else none) σ
 | .sub e i,σ=>(ev ρ e σ).bind fun v σ=>(ev ρ i σ).bind fun k σ=>lift (eA σ v k) σ
 | .slc e a b,σ=>(ev ρ e σ).bind fun v σ=>(ev ρ a σ).bind fun x σ=>(ev ρ b σ).bind fun y σ=>lift (rT v x y) σ
 | .attr e a,σ=>(ev ρ e σ).bind fun v σ=>lift (gh σ v a) σ
 | .bin op a b,σ=>(ev ρ a σ).bind fun x σ=>(ev ρ b σ).bind fun y σ=>lift (gJ op x y) σ
 | .cmp op a b,σ=>(ev ρ a σ).bind fun x σ=>(ev ρ b σ).bind fun y σ=>lift ((dG σ op x y).map .bool) σ
 | .cmp2 o1 o2 a b c,σ=>(ev ρ a σ).bind fun x σ=>(ev ρ b σ).bind fun y σ=>(lift (dG σ o1 x y) σ).bind fun t σ=>match t with
  | true=>(ev ρ c σ).bind fun z σ=>lift ((dG σ o2 y z).map .bool) σ
  | false=>bv (.bool false) σ
 | .and a b,σ=>(ev ρ a σ).bind fun x σ=>(lift (eF σ x) σ).bind fun t σ=>match t with
  | true=>ev ρ b σ
  | false=>bv x σ
 | .or a b,σ=>(ev ρ a σ).bind fun x σ=>(lift (eF σ x) σ).bind fun t σ=>match t with
  | true=>bv x σ
  | false=>ev ρ b σ
 | .not a,σ=>(ev ρ a σ).bind fun x σ=>lift ((eF σ x).map fun b=>.bool (!b)) σ
 | .ite c a b,σ=>(fw ρ c σ).bind fun t σ=>match t with
  | true=>ev ρ a σ
  | false=>ev ρ b σ
 | .call f es,σ=>(lJ ρ es σ).bind fun vs σ=>C f vs σ
 | .meth f m e es,σ=>(ev ρ e σ).bind fun v σ=>(lift (jP σ m v) σ).bind fun z9 σ=>(lJ ρ es σ).bind fun vs σ=>C f (v::vs) σ
 | .raised es,σ=>(lJ ρ es σ).bind fun vs σ=>lift (n9 vs) σ
 | .mkErr e,σ=>(ev ρ e σ).bind fun v σ=>bv (.exc (.int 1) v) σ
 | .newInst f es,σ=>(lJ ρ es σ).bind fun vs σ=>(C f (.inst σ.length::vs) (σ++[.attrs []])).bind fun v σ'=>if isNone v then bv (.inst σ.length) σ' else none
 | .len e,σ=>(ev ρ e σ).bind fun v σ=>lift ((wf σ v).map fun (n:Nat)=>.int n) σ
 | .strOf e,σ=>(ev ρ e σ).bind fun v σ=>lift ((eE v).bind fun i=>if lO i (10 ^ 40) then some (.str (Str.ofString (toString i))) else none) σ
 | .ord e,σ=>(ev ρ e σ).bind fun v σ=>lift ((dz v).bind CX) σ
 | .sum e,σ=>(ev ρ e σ).bind fun v σ=>lift ((gU v).bind fun l=>(mV l).bind fun is=>if gV is&&fl is.length then some (.int (tF is)) else none) σ
 | .tuple e,σ=>(ev ρ e σ).bind fun v σ=>lift ((gU v).map .tup) σ
 | .ownTup i,σ=>lift (((jV ρ i).bind kz).map .tup) σ
 | .append e x,σ=>(ev ρ e σ).bind fun v σ=>(lift (lstAt σ v) σ).bind fun n σ=>(ev ρ x σ).bind fun y σ=>(fO σ n).bind fun l=>if fl l.length then bv .none (σ.set n (.list (l++[y]))) else none
 | .pop e,σ=>(ev ρ e σ).bind fun v σ=>(lift (lstAt σ v) σ).bind fun n σ=>(fO σ n).bind fun l=>(l.getLast?).bind fun x=>bv x (σ.set n (.list l.dropLast))
 | .find e x y,σ=>(ev ρ e σ).bind fun v σ=>(lift (dz v) σ).bind fun s σ=>(ev ρ x σ).bind fun a σ=>(ev ρ y σ).bind fun k σ=>lift ((dz a).bind fun t=>(eE k).bind fun i=>if lO i 1000000 then some (.int (PySem.Txt.find3 s t i)) else none) σ
 | .strip e x,σ=>(ev ρ e σ).bind fun v σ=>(lift (dz v) σ).bind fun s σ=>(ev ρ x σ).bind fun a σ=>lift ((dz a).bind fun t=>if fl s.length then some (.str (Txt.stripChars s t)) else none) σ
 | .join e x,σ=>(ev ρ e σ).bind fun v σ=>(lift (dz v) σ).bind fun s σ=>(ev ρ x σ).bind fun a σ=>lift ((gU a).bind fun l=>(ed l).bind fun ss=>if JoinOk s ss then some (.str (Txt.join s ss)) else none) σ
 | .count e x,σ=>(ev ρ e σ).bind fun v σ=>(lift (lstAt σ v) σ).bind fun n σ=>(ev ρ x σ).bind fun a σ=>lift (xx σ n a) σ
 | .comp elt src cond,σ=>(ev ρ src σ).bind fun s σ=>(nS σ s).bind fun l=>if !isRef s || (gW elt&&kQ cond) then (gI (fun v σ=>fw (ρ++[some v]) cond σ) (fun v σ=>ev (ρ++[some v]) elt σ) l σ).bind fun vs σ=>bv (.lst vs) σ else none
 | .compR elt n,σ=>(ev ρ n σ).bind fun s σ=>(eE s).bind fun k=>if decide (-100000<k)&&decide (k<100000) then (gK (fun v σ=>ev (ρ++[some v]) elt σ) (rng k) σ).bind fun vs σ=>bv (.lst vs) σ else none
 | .comp2 elt src src2,σ=>(ev ρ src σ).bind fun s σ=>(gg s).bind fun l=>if Nat.ble l.length 100 then (kA (fun v σ=>(ev (ρ++[some v]) src2 σ).bind fun s2 σ=>(dz s2).bind fun t=>(nS σ (.str t)).bind fun l2=>gK (fun u σ=>ev (ρ++[some v,some u]) elt σ) l2 σ) l σ).bind fun vs σ=>bv (.lst vs) σ else none
 | .bad,_=>none
noncomputable def lJ(ρ:ck):List PE→St→cR (List V)
 | [],σ=>bv [] σ
 | e::r,σ=>(ev ρ e σ).bind fun v σ=>(lJ ρ r σ).bind fun vs σ=>bv (v::vs) σ
noncomputable def fw(ρ:ck):PE→St→cR Bool
 | .not a,σ=>(fw ρ a σ).bind fun b σ=>bv (!b) σ
 | .and a b,σ=>(fw ρ a σ).bind fun t σ=>match t with
  | true=>fw ρ b σ
  | false=>bv false σ
 | .or a b,σ=>(fw ρ a σ).bind fun t σ=>match t with
  | true=>bv true σ
  | false=>fw ρ b σ
 | .cmp op a b,σ=>(ev ρ a σ).bind fun x σ=>(ev ρ b σ).bind fun y σ=>lift (dG σ op x y) σ
 | .cmp2 o1 o2 a b c,σ=>(ev ρ a σ).bind fun x σ=>(ev ρ b σ).bind fun y σ=>(lift (dG σ o1 x y) σ).bind fun t σ=>match t with
  | true=>(ev ρ c σ).bind fun z σ=>lift (dG σ o2 y z) σ
  | false=>bv false σ
 | .bool b,σ=>bv b σ
 | .loc i,σ=>lift ((jV ρ i).bind (eF σ)) σ
 | .call f es,σ=>(lJ ρ es σ).bind fun vs σ=>(C f vs σ).bind fun v σ=>lift (eF σ v) σ
 | .attr e a,σ=>(ev ρ e σ).bind fun v σ=>(lift (gh σ v a) σ).bind fun x σ=>lift (eF σ x) σ
 | .sub e i,σ=>(ev ρ e σ).bind fun v σ=>(ev ρ i σ).bind fun k σ=>(lift (eA σ v k) σ).bind fun x σ=>lift (eF σ x) σ
 | _,_=>none
end
noncomputable def eX(ρ:ck):List Nat→List V→Option ck
 | [],[]=>some ρ
 | i::is,v::vs=>eX (ρ.set i (some v)) is vs
 | _,_=>none
noncomputable def lP(t:ck→St→cR Bool)(b:ck→St→Option FR):Nat→ck→St→Option FR
 | 0,_,_=>none
 | n+1,ρ,σ=>match t ρ σ with
  | none=>none
  | some (.exc v σ)=>some (.exc v ρ σ)
  | some (.ok false σ)=>some (.next ρ σ)
  | some (.ok true σ)=>match b ρ σ with
   | some (.next ρ σ)=>lP t b n ρ σ
   | some (.brk ρ σ)=>some (.next ρ σ)
   | r=>r
noncomputable def fU(b:V→ck→St→Option FR):List V→ck→St→Option FR
 | [],ρ,σ=>some (.next ρ σ)
 | v::r,ρ,σ=>match b v ρ σ with
  | some (.next ρ σ)=>fU b r ρ σ
  | some (.brk ρ σ)=>some (.next ρ σ)
  | x=>x
noncomputable def bH{α:Type}(ρ:ck)(x:cR α)(f:α→St→Option FR):Option FR:=match x with
 | none=>none
 | some (.exc v σ)=>some (.exc v ρ σ)
 | some (.ok v σ)=>f v σ
noncomputable def qc(ρ:ck):Bool:=ρ.all fun x=>match x with
 | some v=>!uW v
 | none=>true
noncomputable def EX(x:Option FR)(f:V→ck→St→Option FR):Option FR:=match x with
 | some (.exc v ρ σ)=>f v ρ σ
 | r=>r
noncomputable def xz(x:Nat):Option FR→Option FR
 | some (.next ρ σ)=>some (.next (ρ.set x none) σ)
 | some (.ret v ρ σ)=>some (.ret v (ρ.set x none) σ)
 | _=>none
mutual
noncomputable def Cc:PS→Bool
 | .ret e=>gW e
 | .ifs c t e=>kQ c&&gX t&&gX e
 | _=>false
noncomputable def gX:List PS→Bool
 | []=>true
 | s::r=>Cc s&&gX r
end
mutual
noncomputable def ex(w:Nat):PS→ck→St→Option FR
 | .asg i e,ρ,σ=>bH ρ (ev C ρ e σ) fun v σ=>some (.next (ρ.set i (some v)) σ)
 | .own i,ρ,σ=>if qc ρ then some (.next (ρ.set i (some (.own []))) σ) else none
 | .asgT is e,ρ,σ=>bH ρ (ev C ρ e σ) fun v σ=>(gg v).bind fun l=>(eX ρ is l).map fun ρ=>.next ρ σ
 | .setA o a e,ρ,σ=>bH ρ (ev C ρ e σ) fun v σ=>bH ρ (ev C ρ o σ) fun ov σ=>(pS ov).bind fun n=>(lN σ n).bind fun d=>if fD a&&Nat.ble d.length 900 then some (.next ρ (σ.set n (.attrs (nR a v d)))) else none
 | .setI o ix e,ρ,σ=>bH ρ (ev C ρ e σ) fun v σ=>bH ρ (ev C ρ o σ) fun ov σ=>bH ρ (ev C ρ ix σ) fun iv σ=>
  ((qP ov).bind fun n=>(eE iv).bind fun k=>(fO σ n).bind fun l=>if decide (0≤k)&&decide (k<l.length)&&fl l.length then some (.next ρ (σ.set n (.list (l.set k.toNat v)))) else none).or
  ((we ov).bind fun n=>(dz iv).bind fun k=>(kP σ n).bind fun d=>if fl d.length then some (.next ρ (σ.set n (.dict (nR k v d)))) else none)
 | .aug i e,ρ,σ=>(xy ρ i).bind fun x=>bH ρ (ev C ρ e σ) fun y σ=>(gJ .add x y).bind fun z=>if isLst z then none else some (.next (ρ.set i (some z)) σ)
 | .augA o a e,ρ,σ=>bH ρ (ev C ρ o σ) fun ov σ=>(pS ov).bind fun n=>(gh σ ov a).bind fun x=>bH ρ (ev C ρ e σ) fun y σ=>(eE x).bind fun i=>(eE y).bind fun j=>(lN σ n).bind fun d=>
  if fD a&&Nat.ble d.length 900&&eQ i&&eQ j then some (.next ρ (σ.set n (.attrs (nR a (.int (i+j)) d)))) else none
 | .ownApp i e,ρ,σ=>((jV ρ i).bind kz).bind fun l=>if fl l.length then bH ρ (ev C ρ e σ) fun v σ=>some (.next (ρ.set i (some (.own (l++[v])))) σ) else none
 | .ownPop i j,ρ,σ=>((jV ρ j).bind kz).bind fun l=>(l.getLast?).bind fun x=>some (.next ((ρ.set j (some (.own l.dropLast))).set i (some x)) σ)
 | .expr e,ρ,σ=>bH ρ (ev C ρ e σ) fun z9 σ=>some (.next ρ σ)
 | .ifs c t e,ρ,σ=>bH ρ (fw C ρ c σ) fun q σ=>match q with
  | true=>fz w t ρ σ
  | false=>fz w e ρ σ
 | .whl c b,ρ,σ=>lP (fun ρ σ=>fw C ρ c σ) (fun ρ σ=>fz w b ρ σ) w ρ σ
 | .for1 i e b,ρ,σ=>bH ρ (ev C ρ e σ) fun s σ=>(dH σ s).bind fun l=>if !isRef s || gX b then fU (fun v ρ σ=>fz w b (ρ.set i (some v)) σ) l ρ σ else none
 | .forR i e b,ρ,σ=>bH ρ (ev C ρ e σ) fun s σ=>(eE s).bind fun k=>if decide (-100000<k)&&decide (k<100000) then fU (fun v ρ σ=>fz w b (ρ.set i (some v)) σ) (rng k) ρ σ else none
 | .forT is e b,ρ,σ=>bH ρ (ev C ρ e σ) fun s σ=>(dH σ s).bind fun l=>if !isRef s || gX b then fU (fun v ρ σ=>(gg v).bind fun us=>(eX ρ is us).bind fun ρ=>fz w b ρ σ) l ρ σ else none
 | .ret e,ρ,σ=>bH ρ (ev C ρ e σ) fun v σ=>some (.ret v ρ σ)
 | .brk,ρ,σ=>some (.brk ρ σ)
 | .pass,ρ,σ=>some (.next ρ σ)
 | .raise e,ρ,σ=>bH ρ (ev C ρ e σ) fun v σ=>if isExc v then some (.exc v ρ σ) else none
 | .try1 b x h,ρ,σ=>EX (fz w b ρ σ) fun v ρ σ=>xz x (fz w h (ρ.set x (some v)) σ)
 | .bad,_,_=>none
noncomputable def fz(w:Nat):List PS→ck→St→Option FR
 | [],ρ,σ=>some (.next ρ σ)
 | s::r,ρ,σ=>match ex w s ρ σ with
  | some (.next ρ σ)=>fz w r ρ σ
  | x=>x
end
end
set_option genInjectivity false in
structure Fn where
 np:Nat
 nl:Nat
 dfl:List V
 body:List PS
noncomputable def xA:Option FR→cR V
 | some (.next _ σ)=>bv .none σ
 | some (.ret v _ σ)=>bv v σ
 | some (.exc v _ σ)=>some (.exc v σ)
 | _=>none
noncomputable def cS(fn:Fn)(args:List V):Option ck:=
 let a:=args++fn.dfl.drop (fn.dfl.length-(fn.np-args.length))
 if a.length=fn.np&&args.length≤fn.np then some (a.map some++List.replicate (fn.nl-fn.np) none) else none
noncomputable def au(P:Nat→Option Fn)(w:Nat):Nat→Nat→List V→St→cR V
 | 0,_,_,_=>none
 | d+1,f,args,σ=>match P f with
  | some fn=>match cS fn args with
   | some ρ=>xA (fz (au P w d) w fn.body ρ σ)
   | none=>none
  | none=>none
end Mine.Internal
end
section
open PySem
namespace Mine.Internal
section
variable {C:Nat→List V→St→cR V} {w:Nat} {ρ:ck} {σ:St}
theorem aw :ev C ρ (.none ) σ=bv .none σ:=rfl
theorem aB{b:Bool}:ev C ρ (.bool b) σ=bv (.bool b) σ:=rfl
theorem aF{i:Int}:ev C ρ (.int i) σ=bv (.int i) σ:=rfl
theorem aJ{s:Str}:ev C ρ (.str s) σ=bv (.str s) σ:=rfl
theorem Cd{i:Nat}:ev C ρ (.loc i) σ=lift (xy ρ i) σ:=rfl
theorem aN{es:List PE}:ev C ρ (.tup es) σ=(lJ C ρ es σ).bind fun vs σ=>bv (.tup vs) σ:=rfl
theorem aM{es:List PE}:ev C ρ (.lst es) σ=(lJ C ρ es σ).bind fun vs σ=>bv (.lst vs) σ:=rfl
theorem Ce{es:List PE}:ev C ρ (.cel es) σ=(lJ C ρ es σ).bind fun vs σ=>bv (.ref σ.length) (σ++[.list vs]):=rfl
theorem Cf{ks:List Str}{es:List PE}:ev C ρ (.dct ks es) σ=if j_ ks&&decide (ks.length=es.length)&&decide (ks.length≤15) then (lJ C ρ es (σ++[.dict []])).bind fun vs σ'=>(kP σ' σ.length).bind fun d=>if d.isEmpty then bv (.dct σ.length) (σ'.set σ.length (.dict (ks.zip vs))) else none else none:=rfl
theorem CY{ks:List Str}{is:List Int}{i:Nat}{d:Int}:ev C ρ (.dget ks is i d) σ=lift (((jV ρ i).bind dz).bind fun s=>if j_ ks&&decide (ks.length=is.length)&&decide (ks.length≤15) then some (.int ((bE s (ks.zip is)).getD d)) else none) σ:=rfl
theorem aH{e:PE}{i:PE}:ev C ρ (.sub e i) σ=(ev C ρ e σ).bind fun v σ=>(ev C ρ i σ).bind fun k σ=>lift (eA σ v k) σ:=rfl
theorem aQ{e:PE}{a:PE}{b:PE}:ev C ρ (.slc e a b) σ=(ev C ρ e σ).bind fun v σ=>(ev C ρ a σ).bind fun x σ=>(ev C ρ b σ).bind fun y σ=>lift (rT v x y) σ:=rfl
theorem aq{e:PE}{a:Str}:ev C ρ (.attr e a) σ=(ev C ρ e σ).bind fun v σ=>lift (gh σ v a) σ:=rfl
theorem aP{op:B_}{a:PE}{b:PE}:ev C ρ (.bin op a b) σ=(ev C ρ a σ).bind fun x σ=>(ev C ρ b σ).bind fun y σ=>lift (gJ op x y) σ:=rfl
theorem aL{op:rP}{a:PE}{b:PE}:ev C ρ (.cmp op a b) σ=(ev C ρ a σ).bind fun x σ=>(ev C ρ b σ).bind fun y σ=>lift ((dG σ op x y).map .bool) σ:=rfl
theorem CZ{o1:rP}{o2:rP}{a:PE}{b:PE}{c:PE}:ev C ρ (.cmp2 o1 o2 a b c) σ=(ev C ρ a σ).bind fun x σ=>(ev C ρ b σ).bind fun y σ=>(lift (dG σ o1 x y) σ).bind fun t σ=>match t with
  | true=>(ev C ρ c σ).bind fun z σ=>lift ((dG σ o2 y z).map .bool) σ
  | false=>bv (.bool false) σ:=rfl
theorem EY{a:PE}{b:PE}:ev C ρ (.and a b) σ=(ev C ρ a σ).bind fun x σ=>(lift (eF σ x) σ).bind fun t σ=>match t with
  | true=>ev C ρ b σ
  | false=>bv x σ:=rfl
theorem G8{a:PE}{b:PE}:ev C ρ (.or a b) σ=(ev C ρ a σ).bind fun x σ=>(lift (eF σ x) σ).bind fun t σ=>match t with
  | true=>bv x σ
  | false=>ev C ρ b σ:=rfl
theorem ai{f:Nat}{es:List PE}:ev C ρ (.call f es) σ=(lJ C ρ es σ).bind fun vs σ=>C f vs σ:=rfl
theorem ax{f:Nat}{m:Str}{e:PE}{es:List PE}:ev C ρ (.meth f m e es) σ=(ev C ρ e σ).bind fun v σ=>(lift (jP σ m v) σ).bind fun z9 σ=>(lJ C ρ es σ).bind fun vs σ=>C f (v::vs) σ:=rfl
theorem aa{es:List PE}:ev C ρ (.raised es) σ=(lJ C ρ es σ).bind fun vs σ=>lift (n9 vs) σ:=rfl
theorem aO{e:PE}:ev C ρ (.len e) σ=(ev C ρ e σ).bind fun v σ=>lift ((wf σ v).map fun (n:Nat)=>.int n) σ:=rfl
theorem z6{e:PE}:ev C ρ (.strOf e) σ=(ev C ρ e σ).bind fun v σ=>lift ((eE v).bind fun i=>if lO i (10 ^ 40) then some (.str (Str.ofString (toString i))) else none) σ:=rfl
theorem EZ{e:PE}:ev C ρ (.ord e) σ=(ev C ρ e σ).bind fun v σ=>lift ((dz v).bind CX) σ:=rfl
theorem E0{e:PE}:ev C ρ (.sum e) σ=(ev C ρ e σ).bind fun v σ=>lift ((gU v).bind fun l=>(mV l).bind fun is=>if gV is&&fl is.length then some (.int (tF is)) else none) σ:=rfl
theorem z7{e:PE}:ev C ρ (.tuple e) σ=(ev C ρ e σ).bind fun v σ=>lift ((gU v).map .tup) σ:=rfl
theorem xB{i:Nat}:ev C ρ (.ownTup i) σ=lift (((jV ρ i).bind kz).map .tup) σ:=rfl
theorem xC{e:PE}{x:PE}:ev C ρ (.append e x) σ=(ev C ρ e σ).bind fun v σ=>(lift (lstAt σ v) σ).bind fun n σ=>(ev C ρ x σ).bind fun y σ=>(fO σ n).bind fun l=>if fl l.length then bv .none (σ.set n (.list (l++[y]))) else none:=rfl
theorem E1{e:PE}:ev C ρ (.pop e) σ=(ev C ρ e σ).bind fun v σ=>(lift (lstAt σ v) σ).bind fun n σ=>(fO σ n).bind fun l=>(l.getLast?).bind fun x=>bv x (σ.set n (.list l.dropLast)):=rfl
theorem C3{e:PE}{x:PE}{y:PE}:ev C ρ (.find e x y) σ=(ev C ρ e σ).bind fun v σ=>(lift (dz v) σ).bind fun s σ=>(ev C ρ x σ).bind fun a σ=>(ev C ρ y σ).bind fun k σ=>lift ((dz a).bind fun t=>(eE k).bind fun i=>if lO i 1000000 then some (.int (PySem.Txt.find3 s t i)) else none) σ:=rfl
theorem z8{e:PE}{x:PE}:ev C ρ (.strip e x) σ=(ev C ρ e σ).bind fun v σ=>(lift (dz v) σ).bind fun s σ=>(ev C ρ x σ).bind fun a σ=>lift ((dz a).bind fun t=>if fl s.length then some (.str (Txt.stripChars s t)) else none) σ:=rfl
theorem C4{e:PE}{x:PE}:ev C ρ (.join e x) σ=(ev C ρ e σ).bind fun v σ=>(lift (dz v) σ).bind fun s σ=>(ev C ρ x σ).bind fun a σ=>lift ((gU a).bind fun l=>(ed l).bind fun ss=>if JoinOk s ss then some (.str (Txt.join s ss)) else none) σ:=rfl
theorem uX{e:PE}{x:PE}:ev C ρ (.count e x) σ=(ev C ρ e σ).bind fun v σ=>(lift (lstAt σ v) σ).bind fun n σ=>(ev C ρ x σ).bind fun a σ=>lift (xx σ n a) σ:=rfl
theorem xD{elt:PE}{src:PE}{cond:PE}:ev C ρ (.comp elt src cond) σ=(ev C ρ src σ).bind fun s σ=>(nS σ s).bind fun l=>if !isRef s || (gW elt&&kQ cond) then (gI (fun v σ=>fw C (ρ++[some v]) cond σ) (fun v σ=>ev C (ρ++[some v]) elt σ) l σ).bind fun vs σ=>bv (.lst vs) σ else none:=rfl
theorem uY{elt:PE}{n:PE}:ev C ρ (.compR elt n) σ=(ev C ρ n σ).bind fun s σ=>(eE s).bind fun k=>if decide (-100000<k)&&decide (k<100000) then (gK (fun v σ=>ev C (ρ++[some v]) elt σ) (rng k) σ).bind fun vs σ=>bv (.lst vs) σ else none:=rfl
theorem z_{elt:PE}{src:PE}{src2:PE}:ev C ρ (.comp2 elt src src2) σ=(ev C ρ src σ).bind fun s σ=>(gg s).bind fun l=>if Nat.ble l.length 100 then (kA (fun v σ=>(ev C (ρ++[some v]) src2 σ).bind fun s2 σ=>(dz s2).bind fun t=>(nS σ (.str t)).bind fun l2=>gK (fun u σ=>ev C (ρ++[some v,some u]) elt σ) l2 σ) l σ).bind fun vs σ=>bv (.lst vs) σ else none:=rfl
theorem ay{a:PE}:fw C ρ (.not a) σ=(fw C ρ a σ).bind fun b σ=>bv (!b) σ:=rfl
theorem xE{a:PE}{b:PE}:fw C ρ (.and a b) σ=(fw C ρ a σ).bind fun t σ=>match t with
  | true=>fw C ρ b σ
  | false=>bv false σ:=rfl
theorem Cg{a:PE}{b:PE}:fw C ρ (.or a b) σ=(fw C ρ a σ).bind fun t σ=>match t with
  | true=>bv true σ
  | false=>fw C ρ b σ:=rfl
theorem an{op:rP}{a:PE}{b:PE}:fw C ρ (.cmp op a b) σ=(ev C ρ a σ).bind fun x σ=>(ev C ρ b σ).bind fun y σ=>lift (dG σ op x y) σ:=rfl
theorem Ac{o1:rP}{o2:rP}{a:PE}{b:PE}{c:PE}:fw C ρ (.cmp2 o1 o2 a b c) σ=(ev C ρ a σ).bind fun x σ=>(ev C ρ b σ).bind fun y σ=>(lift (dG σ o1 x y) σ).bind fun t σ=>match t with
  | true=>(ev C ρ c σ).bind fun z σ=>lift (dG σ o2 y z) σ
  | false=>bv false σ:=rfl
theorem xF{i:Nat}:fw C ρ (.loc i) σ=lift ((jV ρ i).bind (eF σ)) σ:=rfl
theorem af{f:Nat}{es:List PE}:fw C ρ (.call f es) σ=(lJ C ρ es σ).bind fun vs σ=>(C f vs σ).bind fun v σ=>lift (eF σ v) σ:=rfl
theorem ag{e:PE}{a:Str}:fw C ρ (.attr e a) σ=(ev C ρ e σ).bind fun v σ=>(lift (gh σ v a) σ).bind fun x σ=>lift (eF σ x) σ:=rfl
theorem az{e:PE}{i:PE}:fw C ρ (.sub e i) σ=(ev C ρ e σ).bind fun v σ=>(ev C ρ i σ).bind fun k σ=>(lift (eA σ v k) σ).bind fun x σ=>lift (eF σ x) σ:=rfl
theorem tG{i:Nat}{e:PE}:ex C w (.asg i e) ρ σ=bH ρ (ev C ρ e σ) fun v σ=>some (.next (ρ.set i (some v)) σ):=rfl
theorem C5{i:Nat}:ex C w (.own i) ρ σ=if qc ρ then some (.next (ρ.set i (some (.own []))) σ) else none:=rfl
theorem Ad{is:List Nat}{e:PE}:ex C w (.asgT is e) ρ σ=bH ρ (ev C ρ e σ) fun v σ=>(gg v).bind fun l=>(eX ρ is l).map fun ρ=>.next ρ σ:=rfl
theorem Af{o:PE}{a:Str}{e:PE}:ex C w (.setA o a e) ρ σ=bH ρ (ev C ρ e σ) fun v σ=>bH ρ (ev C ρ o σ) fun ov σ=>(pS ov).bind fun n=>(lN σ n).bind fun d=>if fD a&&Nat.ble d.length 900 then some (.next ρ (σ.set n (.attrs (nR a v d)))) else none:=rfl
theorem Ah{o:PE}{ix:PE}{e:PE}:ex C w (.setI o ix e) ρ σ=bH ρ (ev C ρ e σ) fun v σ=>bH ρ (ev C ρ o σ) fun ov σ=>bH ρ (ev C ρ ix σ) fun iv σ=>
  ((qP ov).bind fun n=>(eE iv).bind fun k=>(fO σ n).bind fun l=>if decide (0≤k)&&decide (k<l.length)&&fl l.length then some (.next ρ (σ.set n (.list (l.set k.toNat v)))) else none).or
  ((we ov).bind fun n=>(dz iv).bind fun k=>(kP σ n).bind fun d=>if fl d.length then some (.next ρ (σ.set n (.dict (nR k v d)))) else none):=rfl
theorem xG{i:Nat}{e:PE}:ex C w (.aug i e) ρ σ=(xy ρ i).bind fun x=>bH ρ (ev C ρ e σ) fun y σ=>(gJ .add x y).bind fun z=>if isLst z then none else some (.next (ρ.set i (some z)) σ):=rfl
theorem Ai{o:PE}{a:Str}{e:PE}:ex C w (.augA o a e) ρ σ=bH ρ (ev C ρ o σ) fun ov σ=>(pS ov).bind fun n=>(gh σ ov a).bind fun x=>bH ρ (ev C ρ e σ) fun y σ=>(eE x).bind fun i=>(eE y).bind fun j=>(lN σ n).bind fun d=>
  if fD a&&Nat.ble d.length 900&&eQ i&&eQ j then some (.next ρ (σ.set n (.attrs (nR a (.int (i+j)) d)))) else none:=rfl
theorem wg{i:Nat}{e:PE}:ex C w (.ownApp i e) ρ σ=((jV ρ i).bind kz).bind fun l=>if fl l.length then bH ρ (ev C ρ e σ) fun v σ=>some (.next (ρ.set i (some (.own (l++[v])))) σ) else none:=rfl
theorem wh{i:Nat}{j:Nat}:ex C w (.ownPop i j) ρ σ=((jV ρ j).bind kz).bind fun l=>(l.getLast?).bind fun x=>some (.next ((ρ.set j (some (.own l.dropLast))).set i (some x)) σ):=rfl
theorem Aj{e:PE}:ex C w (.expr e) ρ σ=bH ρ (ev C ρ e σ) fun z9 σ=>some (.next ρ σ):=rfl
theorem tH{c:PE}{t:List PS}{e:List PS}:ex C w (.ifs c t e) ρ σ=bH ρ (fw C ρ c σ) fun q σ=>match q with
  | true=>fz C w t ρ σ
  | false=>fz C w e ρ σ:=rfl
theorem C6{c:PE}{b:List PS}:ex C w (.whl c b) ρ σ=lP (fun ρ σ=>fw C ρ c σ) (fun ρ σ=>fz C w b ρ σ) w ρ σ:=rfl
theorem Ak{i:Nat}{e:PE}{b:List PS}:ex C w (.for1 i e b) ρ σ=bH ρ (ev C ρ e σ) fun s σ=>(dH σ s).bind fun l=>if !isRef s || gX b then fU (fun v ρ σ=>fz C w b (ρ.set i (some v)) σ) l ρ σ else none:=rfl
theorem Al{is:List Nat}{e:PE}{b:List PS}:ex C w (.forT is e b) ρ σ=bH ρ (ev C ρ e σ) fun s σ=>(dH σ s).bind fun l=>if !isRef s || gX b then fU (fun v ρ σ=>(gg v).bind fun us=>(eX ρ is us).bind fun ρ=>fz C w b ρ σ) l ρ σ else none:=rfl
theorem tI{e:PE}:ex C w (.ret e) ρ σ=bH ρ (ev C ρ e σ) fun v σ=>some (.ret v ρ σ):=rfl
theorem C7 :ex C w (.brk ) ρ σ=some (.brk ρ σ):=rfl
theorem Am :ex C w (.pass ) ρ σ=some (.next ρ σ):=rfl
theorem xH{e:PE}:ex C w (.raise e) ρ σ=bH ρ (ev C ρ e σ) fun v σ=>if isExc v then some (.exc v ρ σ) else none:=rfl
theorem An{b:List PS}{x:Nat}{h:List PS}:ex C w (.try1 b x h) ρ σ=EX (fz C w b ρ σ) fun v ρ σ=>xz x (fz C w h (ρ.set x (some v)) σ):=rfl
theorem q_nil:lJ C ρ [] σ=bv [] σ:=rfl
theorem q_cons{e:PE}{r:List PE}:lJ C ρ (e::r) σ=(ev C ρ e σ).bind fun v σ=>(lJ C ρ r σ).bind fun vs σ=>bv (v::vs) σ:=rfl
theorem uZ{s:PS}{r:List PS}:fz C w (s::r) ρ σ=match ex C w s ρ σ with | some (.next ρ σ)=>fz C w r ρ σ | x=>x:=rfl
end
end Mine.Internal
end
section
open PySem
set_option genCtorIdx false
namespace Mine.Internal
set_option genInjectivity false in
structure TC where
 mode:Nat
 fns:List (Str×Nat)
 meths:List (Str×Nat)
 init:Nat
 k0:Nat
noncomputable def gL(x:Str):Nat→List Str→Option Nat→Option Nat
 | _,[],r=>r
 | n,y::l,r=>gL x (n+1) l (if x=y then some n else r)
noncomputable def bD(nm:List Str)(x:Str):Option Nat:=gL x 0 nm none
noncomputable def bt(sc:List (Str×NameKind))(x:Str):Bool:=match bE x sc with
 | some .local | some .cell | some .free=>true
 | _=>false
noncomputable def bz(sc:List (Str×NameKind))(x:Str):Bool:=match bE x sc with
 | some .globalImplicit=>true
 | _=>false
noncomputable def xI:Operator→Option B_
 | .Add=>some .add | .Sub=>some .sub | .Mult=>some .mul | .Mod=>some .mod | .Pow=>some .pow
 | _=>none
noncomputable def xJ:CmpOp→Option rP
 | .Eq=>some .eq | .NotEq=>some .ne | .Lt=>some .lt | .LtE=>some .le | .Gt=>some .gt | .GtE=>some .ge
 | .In=>some .isin | .NotIn=>some .notin | .Is=>some .is | .IsNot=>some .isnot
set_option genInjectivity false in
inductive EV where
 | name (x:Str) | cst (c:Const) | call (f:Expr) (as:List Expr) (ks:List Keyword) (p:Pos) | attr (o:Expr) (m:Str) (p:Pos) | dict (ks:List (Option Expr)) (vs:List Expr)
 | lc (elt:Expr) (gs:List Comprehension) (sc:Scope) (p:Pos) | lst (es:List Expr) | tup (es:List Expr) | tag (n:Nat)
noncomputable def EV.ctorIdx(x:EV):Nat:=x.casesOn (fun z9=>0) (fun z9=>1) (fun z9 z9 z9 z9=>2) (fun z9 z9 z9=>3) (fun z9 z9=>4) (fun z9 z9 z9 z9=>5) (fun z9=>6) (fun z9=>7) (fun z9=>8)
noncomputable def vw:Expr→EV
 | .Name x _=>.name x
 | .Constant c _ _=>.cst c
 | .Call f as ks p=>.call f as ks p
 | .Attribute o m p=>.attr o m p
 | .Dict ks vs _=>.dict ks vs
 | .ListComp elt gs sc p=>.lc elt gs sc p
 | .List es _=>.lst es
 | .Starred ..=>.tag 1
 | .Set ..=>.tag 2
 | .Tuple es _ _=>.tup es
 | .SetComp ..=>.tag 4
 | .DictComp ..=>.tag 4
 | .Slice ..=>.tag 5
 | _=>.tag 0
noncomputable def EV.no:EV→Nat
 | .tag n=>n
 | .call ..=>6
 | .tup ..=>3
 | .lc ..=>4
 | _=>0
noncomputable def EG(k:Nat)(e:Expr):Bool:=Nat.beq (vw e).no k
noncomputable def bw(e:Expr):Bool:=!EG 1 e
noncomputable def fv(e:Expr):Bool:=!EG 6 e
noncomputable def dD(e:Expr):Bool:=!EG 2 e
noncomputable def mq(e:Expr):Bool:=!EG 3 e
noncomputable def fm(e:Expr):Bool:=!EG 4 e
noncomputable def mX(e:Expr):Bool:=!EG 5 e
noncomputable def Ip(e:Expr):EV→Prop
 | .name x=>∃ p,e=.Name x p
 | .cst c=>∃ k p,e=.Constant c k p
 | .call f as ks p=>e=.Call f as ks p
 | .attr o m p=>e=.Attribute o m p
 | .dict ks vs=>∃ p,e=.Dict ks vs p
 | .lc elt gs sc p=>e=.ListComp elt gs sc p
 | .lst es=>∃ p,e=.List es p
 | .tup es=>∃ c p,e=.Tuple es c p
 | .tag _=>True
theorem tJ(e:Expr):Ip e (vw e):=by
 cases e<;>first | exact trivial | exact rfl | exact ⟨_,rfl⟩ | exact ⟨_,_,rfl⟩
theorem Ch{α:Type}{f:EV→Option α}{e:Expr}{x:α}(h:f (vw e)=some x){C:Prop}(k:∀ v,Ip e v→f v=some x→C):C:=k (vw e) (tJ e) h
noncomputable def kR(x:Str):Bool:=!(x == ("__debug__":Str))&&!(x == ("__classdict__":Str))
noncomputable def rV(f:PE→PE→PE):List PE→PE
 | []=>.bad
 | [a]=>a
 | a::r=>f a (rV f r)
noncomputable def EV.str:EV→Option Str
 | .cst (.str s)=>some s
 | _=>none
noncomputable def EV.int:EV→Option Int
 | .cst (.int s)=>some s
 | _=>none
noncomputable def EV.nm:EV→Option Str
 | .name x=>some x
 | _=>none
noncomputable def EV.cl:EV→Option (Expr×List Expr×Pos)
 | .call f as ks p=>if ks.isEmpty then some (f,as,p) else none
 | _=>none
noncomputable def EV.at:EV→Option (Expr×Str×Pos)
 | .attr o m p=>some (o,m,p)
 | _=>none
noncomputable def EV.di:EV→Option (List (Option Expr)×List Expr)
 | .dict ks vs=>some (ks,vs)
 | _=>none
noncomputable def E6(gs:List Comprehension):Option Comprehension:=if gs.length=1 then gs[0]? else none
noncomputable def EV.li:EV→Option (Expr×Comprehension×Scope×Pos)
 | .lc elt gs sc p=>(E6 gs).map fun g=>(elt,g,sc,p)
 | _=>none
noncomputable def EV.ni:EV→Option Unit
 | .lst es=>if es.isEmpty then some () else none
 | _=>none
noncomputable def Ci(e:Expr):Option Str:=(vw e).str
noncomputable def nC(e:Expr):Option Int:=(vw e).int
noncomputable def eW(e:Expr):Option Str:=(vw e).nm
noncomputable def tK(e:Expr):Option (Expr×List Expr×Pos):=(vw e).cl
noncomputable def qQ(e:Expr):Option (Expr×Str×Pos):=(vw e).at
noncomputable def tL(e:Expr):Option (List (Option Expr)×List Expr):=(vw e).di
noncomputable def Ao(e:Expr):Option (Expr×Comprehension×Scope×Pos):=(vw e).li
noncomputable def u8(e:Expr):Bool:=(vw e).ni.isSome
theorem tM{e:Expr}{x:Str}(h:Ci e=some x):∃ k p,e=.Constant (.str x) k p:=Ch h fun v i h=>by
 cases v with
 | cst c=>cases c<;>first | exact cq h | exact Option.some.inj h▸i
 | _=>exact cq h
theorem lV{e:Expr}{x:Int}(h:nC e=some x):∃ k p,e=.Constant (.int x) k p:=Ch h fun v i h=>by
 cases v with
 | cst c=>cases c<;>first | exact cq h | exact Option.some.inj h▸i
 | _=>exact cq h
theorem dE{e:Expr}{x:Str}(h:eW e=some x):∃ p,e=.Name x p:=Ch h fun v i h=>by
 cases v<;>first | exact cq h | exact Option.some.inj h▸i
theorem nE{e:Expr}{c:Expr×Str×Pos}(h:qQ e=some c):e=.Attribute c.1 c.2.1 c.2.2:=Ch h fun v i h=>by
 cases v<;>first | exact cq h | exact Option.some.inj h▸i
theorem rW{e:Expr}{c:List (Option Expr)×List Expr}(h:tL e=some c):∃ p,e=.Dict c.1 c.2 p:=Ch h fun v i h=>by
 cases v<;>first | exact cq h | exact Option.some.inj h▸i
theorem nF{e:Expr}{c:Expr×List Expr×Pos}(h:tK e=some c):e=.Call c.1 c.2.1 [] c.2.2:=Ch h fun v i h=>by
 cases v<;>first | exact cq h | exact gf h fun hk e=>Option.some.inj e▸List.isEmpty_iff.mp hk▸i
theorem wi{gs:List Comprehension}{g:Comprehension}(h:E6 gs=some g):gs=[g]:=gf h fun hl h=>by
 cases gs with
 | nil=>exact cq h
 | cons a r=>cases r with
  | nil=>exact congrArg (·::[]) (Option.some.inj h)
  | cons=>exact nomatch hl
theorem wj{e:Expr}{c:Expr×Comprehension×Scope×Pos}(h:Ao e=some c):e=.ListComp c.1 [c.2.1] c.2.2.1 c.2.2.2:=Ch h fun v i h=>by
 cases v<;>first | exact cq h | exact mn h fun g hg e=>e▸wi hg▸i
theorem xK{e:Expr}(h:u8 e=true):∃ p,e=.List [] p:=(Option.isSome_iff_exists.mp h).elim fun u h=>Ch h fun v i h=>by
 cases v<;>first | exact cq h | exact gf h fun hk z9=>List.isEmpty_iff.mp hk▸i
noncomputable def ou(e:Expr):Option (Str×List Expr):=(tK e).bind fun c=>(eW c.1).map fun f=>(f,c.2.1)
noncomputable def mY(e:Expr):Option (Str×Str×List Expr):=(tK e).bind fun c=>(qQ c.1).bind fun a=>(eW a.1).bind fun y=>bif a.2.2.endLine == c.2.2.line then some (y,a.2.1,c.2.1) else none
noncomputable def gY:List (Option Expr)→Option (List Str)
 | []=>some []
 | k::r=>k.bind fun e=>(Ci e).bind fun s=>(gY r).map (s::·)
noncomputable def mZ:List Expr→Option (List Int)
 | []=>some []
 | e::r=>(nC e).bind fun i=>(mZ r).map (i::·)
noncomputable def u9:Const→PE
 | .none=>.none
 | .bool b=>.bool b
 | .int i=>.int i
 | .str s=>.str s
 | _=>.bad
noncomputable def tN(sc:List (Str×NameKind))(nm:List Str)(x:Str):PE:=bif bt sc x then (match bD nm x with | some i=>.loc i | none=>.bad) else .bad
noncomputable def G9(f:Str)(a:PE):PE:=
 if f="len" then .len a else if f="str" then .strOf a else if f="ord" then .ord a
 else if f="sum" then .sum a else if f="tuple" then .tuple a else .bad
noncomputable def Cj:List PE→Bool
 | []=>true
 | [.int _]=>true
 | _=>false
noncomputable def tO(mode:Nat)(xs:List PE):PE:=bif mode == 1&&Cj xs then .cel xs else .lst xs
noncomputable def tP(ks:List (Option Expr))(vs:List PE):PE:=match gY ks with
 | some xs=>bif xs.length == vs.length then .dct xs vs else .bad
 | none=>.bad
noncomputable def tQ(go:Expr→PE):Option Expr→PE
 | none=>.none
 | some e=>go e
noncomputable def Ck(go:Expr→PE)(v i:Expr):PE:=match i with
 | .Slice lo hi none _=>.slc (go v) (tQ go lo) (tQ go hi)
 | i=>bif mX i then .sub (go v) (go i) else .bad
noncomputable def Cl(go:Expr→PE)(a:Expr)(ops:List CmpOp)(cs:List Expr):PE:=match ops,cs with
 | [op],[b]=>(match xJ op with | some o=>bif behindInMarks op b then .bad else .cmp o (go a) (go b) | none=>.bad)
 | [o1,o2],[b,c]=>(match xJ o1,xJ o2 with | some p,some q=>bif lastMarks [o1,o2] [b,c] then .bad else .cmp2 p q (go a) (go b) (go c) | _,_=>.bad)
 | _,_=>.bad
noncomputable def u_(T:TC)(go:Expr→PE)(sc:List (Str×NameKind))(nm:List Str)(f:Str)(as:List Expr):PE:=
 bif !(bz sc f&&as.all bw) then .bad else match bE f T.fns with
 | some k=>.call k (as.map go)
 | none=>if f="Raised" then .raised (as.map go) else if f="Comp" then .newInst T.init (as.map go)
  else match as with
  | [a]=>(match bif T.mode == 2&&f == ("tuple":Str) then eW a else none with
   | some x=>bif bt sc x then (match bD nm x with | some i=>.ownTup i | none=>.bad) else .bad
   | none=>G9 f (go a))
  | _=>.bad
noncomputable def Cm(sc:List (Str×NameKind))(nm:List Str)(ks:List (Option Expr))(vs:List Expr)(as:List Expr):PE:=match as with
 | [a,b]=>(match eW a,nC b with
  | some x,some d=>bif bt sc x&&!ks.isEmpty then (match gY ks,mZ vs,bD nm x with
   | some ks,some is,some i=>.dget ks is i d
   | _,_,_=>.bad) else .bad
  | _,_=>.bad)
 | _=>.bad
noncomputable def tR(T:TC)(go:Expr→PE)(o:Expr)(m:Str)(as:List Expr):PE:=match bE m T.meths with
 | some k=>bif Nat.ble as.length 28 then .meth k m (go o) (as.map go) else .bad
 | none=>match as with
  | []=>if m="pop" then .pop (go o) else .bad
  | [a]=>if m="append" then .append (go o) (go a) else if m="strip" then .strip (go o) (go a) else if m="join" then .join (go o) (go a)
   else if m="count" then .count (go o) (go a) else .bad
  | [a,b]=>if m="find" then .find (go o) (go a) (go b) else .bad
  | _=>.bad
noncomputable def tS(T:TC)(go:Expr→PE)(sc:List (Str×NameKind))(nm:List Str)(f:Expr)(as:List Expr)(p:Pos):PE:=match eW f with
 | some f=>u_ T go sc nm f as
 | none=>match qQ f with
  | some (o,m,ap)=>bif ap.endLine == p.line then (match tL o with
   | some (ks,vs)=>bif decide (m="get") then Cm sc nm ks vs as else .bad
   | none=>bif fv o&&as.all bw then tR T go o m as else .bad) else .bad
  | none=>.bad
noncomputable def rX(sc:List (Str×NameKind))(nm xs:List Str)(scope:Scope):Bool:=
 scope.kind == .function&&scope.names.all (fun y=>y.2 != .cell&&(y.2 != .local || bE y.1 scope.names == some .local)&&(y.2 != .free || bE y.1 sc == some .cell)&&(y.2 != .local || xs.any (fun x=>decide (x=y.1)) || (bD nm y.1).isNone))&&
 xs.all fun x=>bE x scope.names == some .local&&kR x
noncomputable def gM(sc:List (Str×NameKind))(e:Expr):Option Expr:=match ou e with
 | some (r,[k])=>bif decide (r="range")&&bz sc r&&bw k then some k else none
 | _=>none
noncomputable def kB(g:Comprehension):Option (Str×Expr×List Expr):=bif g.is_async == 0 then (eW g.target).map fun x=>(x,g.iter,g.ifs) else none
noncomputable def ow(_T:TC)(go:Expr→PE)(inn:List (Str×NameKind)→List Str→Expr→PE)(sc:List (Str×NameKind))(nm:List Str)(elt:Expr)(gens:List Comprehension)(sc':Scope):PE:=match gens with
 | [g]=>(match kB g with
  | some (x,it,ifs)=>bif !(rX sc nm [x] sc'&&dD it) then .bad else (match gM sc it with
   | some k=>(match ifs with | []=>.compR (inn sc'.names (nm++[x]) elt) (go k) | _=>.bad)
   | none=>(match ifs with
    | []=>.comp (inn sc'.names (nm++[x]) elt) (go it) (.bool true)
    | [c]=>.comp (inn sc'.names (nm++[x]) elt) (go it) (inn sc'.names (nm++[x]) c)
    | _=>.bad))
  | none=>.bad)
 | [g,g2]=>(match kB g,kB g2 with
  | some (x,it,[]),some (y,it2,[])=>bif rX sc nm [x] sc'&&rX sc nm [x,y] sc'&&decide (x≠y)&&dD it&&dD it2 then .comp2 (inn sc'.names (nm++[x,y]) elt) (go it) (inn sc'.names (nm++[x]) it2) else .bad
  | _,_=>.bad)
 | _=>.bad
noncomputable def jQ:Nat→TC→List (Str×NameKind)→List Str→Expr→PE
 | 0,_,_,_,_=>.bad
 | n+1,T,sc,nm,e=>match e with
  | .Constant c _ _=>u9 c
  | .UnaryOp .USub (.Constant (.int i) _ _) _=>.int (-i)
  | .UnaryOp .Not a _=>.not (jQ n T sc nm a)
  | .Name x _=>tN sc nm x
  | .Tuple es _ _=>bif fl es.length&&es.all bw then .tup (es.map (jQ n T sc nm)) else .bad
  | .List es _=>bif fl es.length&&es.all bw then tO T.mode (es.map (jQ n T sc nm)) else .bad
  | .Dict ks vs _=>bif vs.all bw then tP ks (vs.map (jQ n T sc nm)) else .bad
  | .Subscript v i _=>Ck (jQ n T sc nm) v i
  | .Attribute v a _=>bif fD a&&fv v then .attr (jQ n T sc nm v) a else .bad
  | .BinOp a op b _=>(match xI op with | some o=>.bin o (jQ n T sc nm a) (jQ n T sc nm b) | none=>.bad)
  | .Compare a ops cs _=>Cl (jQ n { T with mode:=0 } sc nm) a ops cs
  | .BoolOp .And es _=>rV .and (es.map (jQ n T sc nm))
  | .BoolOp .Or es _=>rV .or (es.map (jQ n T sc nm))
  | .IfExp c a b _=>.ite (jQ n T sc nm c) (jQ n T sc nm a) (jQ n T sc nm b)
  | .Call f as [] p=>tS T (jQ n T sc nm) sc nm f as p
  | .ListComp elt gens sc' _=>ow T (jQ n T sc nm) (jQ n { T with mode:=0 }) sc nm elt gens sc'
  | _=>.bad
noncomputable def jR(sc:List (Str×NameKind))(nm:List Str)(x:Str):Option Nat:=bif bt sc x then bD nm x else none
noncomputable def oy(sc:List (Str×NameKind))(nm:List Str):List Expr→Option (List Nat)
 | []=>some []
 | e::r=>(eW e).bind fun x=>(jR sc nm x).bind fun i=>(oy sc nm r).map (i::·)
noncomputable def Ap:Const→Bool
 | .none=>true
 | _=>false
noncomputable def EV.sim:EV→Bool
 | .cst c=>Ap c
 | .name _=>true
 | .attr o a _=>(eW o).isSome&&fD a
 | _=>false
noncomputable def qR(e:Expr):Bool:=(vw e).sim
noncomputable def EV.tu:EV→Option (List Expr)
 | .tup es=>some es
 | _=>none
noncomputable def vd(_sc:List (Str×NameKind))(e:Expr):Bool:=(vw e).tu.any fun es=>es.all qR
noncomputable def tT(sc:List (Str×NameKind))(x:Str)(xl l:Nat)(scope:Scope):Bool:=
 (bE x sc == some .local&&xl == l&&!(scope.names.any fun (n,k)=>n == x&&(k == .local || k == .cell))) || bE x sc != some .local
noncomputable def Cn(T:TC)(E:Expr→PE)(sc:List (Str×NameKind))(nm:List Str)(t e:Expr):PS:=match t with
 | .Name x xp=>(match jR sc nm x with
  | none=>.bad
  | some i=>bif fm e then (bif T.mode == 2&&u8 e then .own i else match bif T.mode == 2 then mY e else none with
    | some (y,m,[])=>(bif decide (m="pop") then (match jR sc nm y with | some j=>.ownPop i j | none=>.bad) else .asg i (E e))
    | _=>.asg i (E e))
   else match Ao e with
    | some (elt,g,sc',p)=>bif tT sc x xp.line p.line sc' then .asg i (E e) else .bad
    | none=>.bad)
 | .Tuple ts _ _=>bif mq e then (match oy sc nm ts with | some is=>.asgT is (E e) | none=>.bad) else .bad
 | .Attribute o a _=>.setA (E o) a (E e)
 | .Subscript o i _=>.setI (E o) (E i) (E e)
 | _=>.bad
noncomputable def Co(E:Expr→PE)(sc:List (Str×NameKind))(nm:List Str)(t:Expr)(op:Operator)(e:Expr):PS:=match op with
 | .Add=>(match t with
  | .Name x _=>(match jR sc nm x with | some i=>.aug i (E e) | none=>.bad)
  | .Attribute o a _=>bif fD a then .augA (E o) a (E e) else .bad
  | _=>.bad)
 | .Sub=>(match (eW t).bind (jR sc nm),nC e with
  | some i,some k=>.aug i (.int (-k))
  | _,_=>.bad)
 | _=>.bad
noncomputable def xL(T:TC)(E:Expr→PE)(sc:List (Str×NameKind))(nm:List Str)(e:Expr):PS:=match bif T.mode == 2 then mY e else none with
 | some (y,m,[a])=>bif decide (m="append")&&bw a then (match jR sc nm y with | some j=>.ownApp j (E a) | none=>.bad) else bif fm e then .expr (E e) else .bad
 | _=>bif fm e then .expr (E e) else .bad
noncomputable def Cp(E:Expr→PE)(sc:List (Str×NameKind))(nm:List Str)(t it:Expr)(b:List PS):PS:=match eW t with
 | some x=>(match jR sc nm x with
  | none=>.bad
  | some i=>match gM sc it with
   | some k=>.forR i (E k) b
   | none=>bif dD it then .for1 i (E it) b else .bad)
 | none=>match t with
  | .Tuple ts _ _=>(match oy sc nm ts with | some is=>bif dD it then .forT is (E it) b else .bad | none=>.bad)
  | _=>.bad
noncomputable def qS(E:Expr→PE)(sc:List (Str×NameKind))(e:Expr):PS:=match ou e with
 | some (f,as)=>bif !(as.all bw) then .bad else bif decide (f="error")&&bz sc f then (match as with | [a]=>.raise (.mkErr (E a)) | _=>.bad)
  else bif decide (f="Raised")&&bz sc f then .raise (.raised (as.map E)) else .bad
 | none=>.bad
noncomputable def Cq:Stmt→Option Expr
 | .Return h _=>h
 | _=>none
noncomputable def qT:ExceptHandler→Option (Str×Str×Expr)
 | .ExceptHandler (some e) (some x) [st] _=>(eW e).bind fun r=>(Cq st).map fun h=>(r,x,h)
 | _=>none
noncomputable def xM:Nat→TC→List (Str×NameKind)→List Str→Stmt→PS
 | 0,_,_,_,_=>.bad
 | n+1,T,sc,nm,s=>match s with
  | .Assign [t] e _=>Cn T (jQ 40 T sc nm) sc nm t e
  | .AugAssign t op e _=>Co (jQ 40 T sc nm) sc nm t op e
  | .Expr e _=>xL T (jQ 40 T sc nm) sc nm e
  | .If c t e _=>.ifs (jQ 40 T sc nm c) (t.map (xM n T sc nm)) (e.map (xM n T sc nm))
  | .While c b [] _=>.whl (jQ 40 T sc nm c) (b.map (xM n T sc nm))
  | .For t it b [] _=>Cp (jQ 40 T sc nm) sc nm t it (b.map (xM n T sc nm))
  | .Return (some e) _=>.ret (jQ 40 T sc nm e)
  | .Return none _=>.ret .none
  | .Break _=>.brk
  | .Pass _=>.pass
  | .Raise (some e) none _=>qS (jQ 40 T sc nm) sc e
  | .Try b [hd] [] [] _=>(match qT hd with
   | some (r,x,h)=>bif decide (r="Raised")&&bz sc r&&vd sc h&&bE x sc == some .local then (match bD nm x with | some i=>.try1 (b.map (xM n T sc nm)) i [.ret (jQ 40 T sc nm h)] | none=>.bad) else .bad
   | none=>.bad)
  | _=>.bad
noncomputable def kS(params:List Str)(sc:List (Str×NameKind)):List Str:=params++(sc.filter fun x=>(match x.2 with | .local | .cell=>true | _=>false)&&!params.any fun y=>decide (y=x.1)).map (·.1)
noncomputable def E7:Expr→Option V
 | .Constant (.bool b) _ _=>some (.bool b)
 | .Constant (.int b) _ _=>some (.int b)
 | .Tuple [.Constant (.str s) _ _] _ _=>some (.tup [.str s])
 | _=>none
noncomputable def qU:List Expr→Option (List V)
 | []=>some []
 | e::r=>match E7 e,qU r with
  | some v,some vs=>some (v::vs)
  | _,_=>none
noncomputable def C8(ps:List Str)(sc:Scope)(nm:List Str):Bool:=
 sc.kind == .function&&!sc.isCoroutine&&!sc.isGenerator&&sc.names.all (fun y=>y.2 != .free&&(!nm.any (fun x=>decide (x=y.1)) || kR y.1))&&
 (List.range ps.length).all (fun i=>match ps[i]? with | some x=>bD nm x == some i&&bt sc.names x | none=>false)&&decide ps.Nodup
noncomputable def vf(ar:Arguments)(dec:List Expr)(ret:Option Expr)(tp:List TypeParam)(ts:Option Scope):Bool:=
 ar.posonlyargs.isEmpty&&ar.vararg.isNone&&ar.kwonlyargs.isEmpty&&ar.kwarg.isNone&&dec.isEmpty&&ret.isNone&&tp.isEmpty&&ts.isNone
noncomputable def G_(T:TC)(ar:Arguments)(body:List Stmt)(scope:Scope)(nm:List Str):Option Fn:=(qU ar.defaults).bind fun d=>if C8 (ar.args.map (·.arg)) scope nm&&Nat.ble d.length ar.args.length then some ⟨ar.args.length,nm.length,d,body.map (xM 40 T scope.names nm)⟩ else none
noncomputable def EH(T:TC):Stmt→Option Fn
 | .FunctionDef _ ar body dec ret tp scope ts _ _=>if vf ar dec ret tp ts then G_ T ar body scope (kS (ar.args.map (·.arg)) scope.names) else none
 | _=>none
noncomputable def mr:Nat→List Stmt→List (Str×Nat)
 | _,[]=>[]
 | i,.FunctionDef n ..::r=>(n,i)::mr (i+1) r
 | i,_::r=>mr (i+1) r
noncomputable def lq(x:Str):List Stmt→List Stmt
 | []=>[]
 | .ClassDef n _ _ b _ _ _ _ _ _ _::r=>if n=x then b else lq x r
 | _::r=>lq x r
noncomputable def C_(x:Str):Nat:=if x="law" || x="_law_rows" || x="__init__" then 1 else if x="compile_tree" || x="parts_until" || x="command_at" then 2 else 0
noncomputable def Da:Stmt→Str
 | .FunctionDef n ..=>n
 | _=>""
noncomputable def oz(body:List Stmt):List (Str×Nat):=mr 0 body
noncomputable def mu(body:List Stmt):TC:=⟨0,oz body,(mr 100 (lq "Comp" body)).filter fun x=>x.1 != "__init__",(bE "__init__" (mr 100 (lq "Comp" body))).getD 0,0⟩
noncomputable def pT(body:List Stmt)(k:Nat):Option Stmt:=if k<100 then body[k]? else (lq "Comp" body)[k-100]?
noncomputable def oA(body:List Stmt)(k:Nat):Option Fn:=(pT body k).bind fun s=>EH { mu body with mode:=C_ (Da s) } s
end Mine.Internal
end
section
open PySem
namespace Mine.Internal
noncomputable def Kp{α:Type}(x:cR α)(σ:St):Prop:=∀ v σ',x=some (.ok v σ')→σ'=σ
theorem Kp.of{α:Type}{x y:cR α}{σ:St}(e:x=y)(h:Kp y σ):Kp x σ:=e▸h
theorem Kp.ok{α:Type}(v:α)(σ:St):Kp (bv v σ) σ:=fun z9 z9 h=>(jE.ok.inj (Option.some.inj h)).2.symm
theorem Kp.bind{α β:Type}{x:cR α}{f:α→St→cR β}{σ:St}(a:Kp x σ)(k:∀ v,Kp (f v σ) σ):Kp (x.bind f) σ:=by
 intro v σ' h
 cases x with
 | none=>exact cq h
 | some r=>cases r with
  | ok b σ1=>exact k b v σ' ((congrArg (fun s=>f b s) (a b σ1 rfl)).symm.trans h)
  | exc c σ1=>exact nomatch Option.some.inj h
theorem Kp.lift{α:Type}{x:Option α}{σ:St}:Kp (lift x σ) σ:=by
 intro v σ' h
 cases x with
 | none=>exact cq h
 | some a=>exact Kp.ok a σ v σ' h
section
variable {C:Nat→List V→St→cR V}
theorem mv(p:PE):∀ {ρ:ck} {σ:St},gW p=true→Kp (ev C ρ p σ) σ:=by
 induction p using PE.rec (motive_2:=fun z9=>True) with
 | bool=>exact fun z9=>Kp.ok _ _
 | int=>exact fun z9=>Kp.ok _ _
 | str=>exact fun z9=>Kp.ok _ _
 | loc i=>exact fun z9=>Kp.of Cd .lift
 | sub e i h1 h2=>exact fun hp=>jF hp fun a b=>Kp.of aH (.bind (h1 a) fun z9=>.bind (h2 b) fun z9=>.lift)
 | attr e a h1=>exact fun hp=>Kp.of aq (.bind (h1 hp) fun z9=>.lift)
 | cmp o x y h1 h2=>exact fun hp=>jF hp fun a b=>Kp.of aL (.bind (h1 a) fun z9=>.bind (h2 b) fun z9=>.lift)
 | count x y h1 h2=>exact fun hp=>jF hp fun a b=>Kp.of uX (.bind (h1 a) fun z9=>.bind .lift fun z9=>.bind (h2 b) fun z9=>.lift)
 | nil=>trivial
 | cons=>trivial
 | _=>exact fun hp=>j9 hp
theorem oB(p:PE):∀ {ρ:ck} {σ:St},kQ p=true→Kp (fw C ρ p σ) σ:=by
 induction p using PE.rec (motive_2:=fun z9=>True) with
 | bool=>exact fun z9=>Kp.ok _ _
 | loc i=>exact fun z9=>Kp.of xF .lift
 | not x h1=>exact fun hp=>Kp.of ay (.bind (h1 hp) fun z9=>.ok _ _)
 | and x y h1 h2=>exact fun hp=>jF hp fun a b=>Kp.of xE (.bind (h1 a) fun t=>match t with | true=>h2 b | false=>.ok _ _)
 | or x y h1 h2=>exact fun hp=>jF hp fun a b=>Kp.of Cg (.bind (h1 a) fun t=>match t with | true=>.ok _ _ | false=>h2 b)
 | cmp o x y=>exact fun hp=>jF hp fun a b=>Kp.of an (.bind (mv x a) fun z9=>.bind (mv y b) fun z9=>.lift)
 | nil=>trivial
 | cons=>trivial
 | _=>exact fun hp=>j9 hp
noncomputable def Gx:FR→Option St
 | .next _ σ=>some σ
 | .brk _ σ=>some σ
 | .ret _ _ σ=>some σ
 | .exc _ _ _=>none
noncomputable def Ks(x:Option FR)(σ:St):Prop:=∀ r σ',x=some r→Gx r=some σ'→σ'=σ
theorem Ks.of{x y:Option FR}{σ:St}(e:x=y)(h:Ks y σ):Ks x σ:=e▸h
theorem Ks.one{r:FR}{σ:St}(h:Gx r=some σ):Ks (some r) σ:=fun z9 z9 h1 h2=>Option.some.inj ((h2.symm.trans (congrArg Gx (Option.some.inj h1).symm)).trans h)
theorem Ks.thn{α:Type}{ρ:ck}{x:cR α}{f:α→St→Option FR}{σ:St}(a:Kp x σ)(k:∀ v,Ks (f v σ) σ):Ks (bH ρ x f) σ:=by
 intro r σ' h h2
 cases x with
 | none=>exact cq h
 | some q=>cases q with
  | ok v σ1=>exact k v r σ' ((congrArg (fun s=>f v s) (a v σ1 rfl)).symm.trans h) h2
  | exc c σ1=>exact cq ((congrArg Gx (Option.some.inj h)).trans h2)
theorem Ks.seq{w:Nat}{p:PS}{ps:List PS}{ρ:ck}{σ:St}(a:Ks (ex C w p ρ σ) σ)(k:∀ {ρ},Ks (fz C w ps ρ σ) σ):Ks (fz C w (p::ps) ρ σ) σ:=by
 intro r σ' h h2
 have h:=uZ.symm.trans h
 refine fH (ex C w p ρ σ) (fun q=>?_) fun x q=>?_
 ·rw [q] at h;exact cq h
 ·rw [q] at h
  cases x with
  | next ρ1 σ1=>exact k r σ' ((congrArg (fun s=>fz C w ps ρ1 s) (a _ σ1 q rfl)).symm.trans h) h2
  | _=>exact a _ _ (q.trans h) h2
theorem wk(w:Nat)(ps:List PS):∀ {ρ:ck} {σ:St},gX ps=true→Ks (fz C w ps ρ σ) σ:=by
 induction ps using PS.rec_1 (motive_1:=fun p=>∀ {ρ:ck} {σ:St},Cc p=true→Ks (ex C w p ρ σ) σ) with
 | nil=>exact fun z9=>Ks.one rfl
 | cons p ps h1 h2=>exact fun hp=>jF hp fun a b=>Ks.seq (h1 a) (h2 b)
 | ret e=>exact Ks.of tI (.thn (mv e ‹_›) fun z9=>.one rfl)
 | ifs c t e h1 h2=>exact jF ‹_› fun a b=>jF a fun a1 a2=>Ks.of tH (.thn (oB c a1) fun t=>match t with | true=>h1 a2 | false=>h2 b)
 | _=>exact j9 ‹_›
end
end Mine.Internal
end
section
open PySem PySem.W PyProof.Rows
set_option genCtorIdx false
namespace Mine.Internal
noncomputable abbrev cQ:Addr:=315
noncomputable abbrev br:Addr:=68
noncomputable def Aq(h:Heap)(a:Addr)(o:Obj):Prop:=∃ sl,h.get? a=some { o with slots:=sl }
noncomputable def NF(o:Obj):Prop:=o.cls≠.ref br∧o.cls≠.type "traceback"
structure Gh where
 ca:List Addr
 im:List (Addr×Obj)
 xs:List (Addr×Addr)
structure Gh.le (g g':Gh):Prop where
 ca:∃ l,g'.ca=g.ca++l
 im:∀ p∈g.im,p∈g'.im
 xs:∀ p∈g.xs,p∈g'.xs
theorem Gh.le.refl(g:Gh):g.le g:=⟨⟨[],by simp⟩,fun z9 h=>h,fun z9 h=>h⟩
theorem Gh.le.trans{a b c:Gh}(x:a.le b)(y:b.le c):a.le c:=
 ⟨let ⟨l,e⟩:=x.ca;let ⟨l',e'⟩:=y.ca;⟨l++l',by simp only [e',e,List.append_assoc]⟩,fun p h=>y.im p (x.im p h),fun p h=>y.xs p (x.xs p h)⟩
theorem Gh.le.get{g g':Gh}(x:g.le g'){n:Nat}{a:Addr}(h:g.ca[n]?=some a):g'.ca[n]?=some a:=by
 refine ob_1_1 x.ca fun l e=>?_
 rw [e,List.getElem?_append_left (List.getElem?_eq_some_iff.mp h).1];exact h
noncomputable def Cr(w:World)(e:DictEntry)(k:Str):Prop:=(∃ t,e.key=.str k t)∧e.hash=PyData.keyHash w.params k
mutual
inductive VR (g:Gh):Value→V→Prop
 | none:VR g .none .none
 | bool (b:Bool):VR g (.bool b) (.bool b)
 | int (i:Int) (t:Tok):VR g (.int i t) (.int i)
 | str (s:Str) (t:Tok):VR g (.str s t) (.str s)
 | tup {a:Addr} {o:Obj} {vs:List Value} {n:Nat} {l:List V}:(a,o)∈g.im→o.cls=.type "tuple"→o.data=.seq vs.toArray n∧vs.length≤sizeLine→eC g vs l→VR g (.ref a) (.tup l)
 | lst {a:Addr} {o:Obj} {vs:List Value} {n:Nat} {l:List V}:(a,o)∈g.im→o.cls=.type "list"→o.data=.seq vs.toArray n∧vs.length≤sizeLine→eC g vs l→VR g (.ref a) (.lst l)
 | ref {a:Addr} {n:Nat}:g.ca[n]?=some a→VR g (.ref a) (.ref n)
 | dct {a:Addr} {n:Nat}:g.ca[n]?=some a→VR g (.ref a) (.dct n)
 | inst {x d:Addr} {n:Nat}:(x,(⟨.ref cQ,some d,.plain,#[]⟩:Obj))∈g.im→g.ca[n]?=some d→VR g (.ref x) (.inst n)
 | exc {e d:Addr} {o:Obj} {es:Array DictEntry} {n:Nat} {v1 v2 v3:Value} {c v:V}:(e,d)∈g.xs→(d,o)∈g.im→o.data=.dict es n→StrKeys es→nsFind es "code"=some v1→nsFind es "value"=some v2→nsFind es "errorcode"=some v3→
   VR g v1 c→VR g v2 v→VR g v3 (.tup [.str "NONE"])→VR g (.ref e) (.exc c v)
inductive eC (g:Gh):List Value→List V→Prop
 | nil:eC g [] []
 | cons {v:Value} {x:V} {vs:List Value} {xs:List V}:VR g v x→eC g vs xs→eC g (v::vs) (x::xs)
end
noncomputable def Hc(g:Gh)(v:Value):V→Prop
 | .none=>v=.none
 | .bool b=>v=.bool b
 | .int i=>∃ t,v=.int i t
 | .str s=>∃ t,v=.str s t
 | .ref n=>∃ a,v=.ref a∧g.ca[n]?=some a
 | .dct n=>∃ a,v=.ref a∧g.ca[n]?=some a
 | .tup l=>∃ a o vs n,v=.ref a∧(a,o)∈g.im∧o.cls=.type "tuple"∧(o.data=.seq vs.toArray n∧vs.length≤sizeLine)∧eC g vs l
 | .lst l=>∃ a o vs n,v=.ref a∧(a,o)∈g.im∧o.cls=.type "list"∧(o.data=.seq vs.toArray n∧vs.length≤sizeLine)∧eC g vs l
 | .inst n=>∃ x d,v=.ref x∧(x,(⟨.ref cQ,some d,.plain,#[]⟩:Obj))∈g.im∧g.ca[n]?=some d
 | .exc c x=>∃ e d o es n v1 v2 v3,v=.ref e∧(e,d)∈g.xs∧(d,o)∈g.im∧o.data=.dict es n∧StrKeys es∧nsFind es "code"=some v1∧nsFind es "value"=some v2∧nsFind es "errorcode"=some v3∧VR g v1 c∧VR g v2 x∧VR g v3 (.tup [.str "NONE"])
 | .own _=>False
theorem VR.inv{g:Gh}{v:Value}{x:V}(R:VR g v x):Hc g v x:=by
 cases R with
 | none=>exact rfl
 | bool b=>exact rfl
 | int i t=>exact ⟨t,rfl⟩
 | str s t=>exact ⟨t,rfl⟩
 | ref h=>exact ⟨_,rfl,h⟩
 | dct h=>exact ⟨_,rfl,h⟩
 | tup h a b c=>exact ⟨_,_,_,_,rfl,h,a,b,c⟩
 | lst h a b c=>exact ⟨_,_,_,_,rfl,h,a,b,c⟩
 | inst h a=>exact ⟨_,_,rfl,h,a⟩
 | exc a1 a2 a3 a4 a5 a6 a7 a8 a9 b1=>exact ⟨_,_,_,_,_,_,_,_,rfl,a1,a2,a3,a4,a5,a6,a7,a8,a9,b1⟩
@[elab_as_elim] theorem VR.eN{g:Gh}{v:Value}(R:VR g v .none){C:Value→Prop}(k:C .none):C v:=(R.inv:v=.none)▸k
@[elab_as_elim] theorem VR.eB{g:Gh}{v:Value}{b:Bool}(R:VR g v (.bool b)){C:Value→Prop}(k:C (.bool b)):C v:=(R.inv:v=.bool b)▸k
@[elab_as_elim] theorem VR.eI{g:Gh}{v:Value}{i:Int}(R:VR g v (.int i)){C:Value→Prop}(k:∀ t,C (.int i t)):C v:=Exists.elim (R.inv:∃ t,v=.int i t) fun t e=>e▸k t
@[elab_as_elim] theorem VR.eS{g:Gh}{v:Value}{s:Str}(R:VR g v (.str s)){C:Value→Prop}(k:∀ t,C (.str s t)):C v:=Exists.elim (R.inv:∃ t,v=.str s t) fun t e=>e▸k t
@[elab_as_elim] theorem VR.eR{g:Gh}{v:Value}{n:Nat}(R:VR g v (.ref n)){C:Value→Prop}(k:∀ a,g.ca[n]?=some a→C (.ref a)):C v:=Exists.elim (R.inv:∃ a,v=.ref a∧g.ca[n]?=some a) fun a e=>e.1▸k a e.2
@[elab_as_elim] theorem VR.eD{g:Gh}{v:Value}{n:Nat}(R:VR g v (.dct n)){C:Value→Prop}(k:∀ a,g.ca[n]?=some a→C (.ref a)):C v:=Exists.elim (R.inv:∃ a,v=.ref a∧g.ca[n]?=some a) fun a e=>e.1▸k a e.2
@[elab_as_elim] theorem eC.eNil{g:Gh}{vs:List Value}(R:eC g vs []){C:List Value→Prop}(k:C []):C vs:=by
 cases R;exact k
@[elab_as_elim] theorem eC.eCons{g:Gh}{vs:List Value}{x:V}{l:List V}(R:eC g vs (x::l)){C:List Value→Prop}(k:∀ v us,VR g v x→eC g us l→C (v::us)):C vs:=by
 cases R with | cons a b=>exact k _ _ a b
theorem VR.mono{g g':Gh}(k:g.le g'){v:Value}{x:V}(R:VR g v x):VR g' v x:=
 VR.rec (motive_1:=fun v x z9=>VR g' v x) (motive_2:=fun v x z9=>eC g' v x) .none .bool .int .str (fun h a b z9 c=>.tup (k.im _ h) a b c) (fun h a b z9 c=>.lst (k.im _ h) a b c)
  (fun h=>.ref (k.get h)) (fun h=>.dct (k.get h)) (fun h a=>.inst (k.im _ h) (k.get a)) (fun h a b s c d e z9 z9 z9 f i j=>.exc (k.xs _ h) (k.im _ a) b s c d e f i j) .nil (fun z9 z9 a b=>.cons a b) R
theorem eC.ind{g:Gh}{D:List Value→List V→Prop}(h0:D [] [])(h1:∀ {v x vs xs},VR g v x→eC g vs xs→D vs xs→D (v::vs) (x::xs)){xs:List V}:∀ {vs:List Value},eC g vs xs→D vs xs:=by
 induction xs with
 | nil=>exact fun R=>R.eNil h0
 | cons x l ih=>exact fun R=>R.eCons (C:=fun vs=>D vs (x::l)) fun v us a b=>h1 a b (ih b)
theorem eC.mono{g g':Gh}(k:g.le g'){vs:List Value}{xs:List V}(R:eC g vs xs):eC g' vs xs:=R.ind (D:=eC g') .nil fun a z9 b=>.cons (a.mono k) b
theorem eC.length{g:Gh}{vs:List Value}{xs:List V}(R:eC g vs xs):vs.length=xs.length:=R.ind (D:=fun a b=>a.length=b.length) rfl fun z9 z9=>congrArg (·+1)
theorem eC.get{g:Gh}{vs:List Value}{xs:List V}(R:eC g vs xs):∀ {i:Nat} {x:V},xs[i]?=some x→∃ v,vs[i]?=some v∧VR g v x:=by
 refine R.ind (D:=fun vs xs=>∀ {i:Nat} {x:V},xs[i]?=some x→∃ v,vs[i]?=some v∧VR g v x) (fun h=>cq h) fun {v x vs xs} a _ ih i y h=>?_
 cases i with
 | zero=>exact ⟨v,rfl,Option.some.inj h▸a⟩
 | succ i=>exact ih h
theorem eC.append{g:Gh}{vs us:List Value}{xs ys:List V}(R:eC g vs xs)(h:eC g us ys):eC g (vs++us) (xs++ys):=R.ind (D:=fun vs xs=>eC g (vs++us) (xs++ys)) h fun a z9 b=>.cons a b
theorem eC.one{g:Gh}{v:Value}{x:V}(h:VR g v x):eC g [v] [x]:=.cons h .nil
theorem eC.set{g:Gh}{vs:List Value}{xs:List V}(R:eC g vs xs):∀ (i:Nat) {v:Value} {x:V},VR g v x→eC g (vs.set i v) (xs.set i x):=by
 refine R.ind (D:=fun vs xs=>∀ (i:Nat) {v:Value} {x:V},VR g v x→eC g (vs.set i v) (xs.set i x)) (fun z9 z9 z9 z9=>.nil) fun a b ih i v x h=>?_
 cases i with
 | zero=>exact .cons h b
 | succ i=>exact .cons a (ih i h)
theorem eC.dropLast{g:Gh}{vs:List Value}{xs:List V}(R:eC g vs xs):eC g vs.dropLast xs.dropLast:=by
 refine R.ind (D:=fun vs xs=>eC g vs.dropLast xs.dropLast) .nil fun {v x vs xs} a b ih=>?_
 cases xs with
 | nil=>exact b.eNil (C:=fun vs=>eC g (v::vs).dropLast [x].dropLast) .nil
 | cons y l=>exact b.eCons (C:=fun vs=>eC g vs.dropLast (y::l).dropLast→eC g (v::vs).dropLast (x::y::l).dropLast) (fun z9 z9 z9 z9 h=>.cons a h) ih
theorem eC.drop{g:Gh}(n:Nat):∀ {vs:List Value} {xs:List V},eC g vs xs→eC g (vs.drop n) (xs.drop n):=by
 induction n with
 | zero=>exact fun h=>h
 | succ n ih=>exact fun R=>R.ind (D:=fun vs xs=>eC g (vs.drop (n+1)) (xs.drop (n+1))) .nil fun z9 b z9=>ih b
theorem eC.take{g:Gh}(n:Nat):∀ {vs:List Value} {xs:List V},eC g vs xs→eC g (vs.take n) (xs.take n):=by
 induction n with
 | zero=>exact fun z9=>.nil
 | succ n ih=>exact fun R=>R.ind (D:=fun vs xs=>eC g (vs.take (n+1)) (xs.take (n+1))) .nil fun a b z9=>.cons a (ih b)
inductive DR (w:World) (g:Gh):List DictEntry→List (Str×V)→Prop
 | nil:DR w g [] []
 | cons {e:DictEntry} {k:Str} {x:V} {es:List DictEntry} {d:List (Str×V)}:Cr w e k→VR g e.val x→DR w g es d→DR w g (e::es) ((k,x)::d)
theorem DR.mono{w:World}{g g':Gh}(k:g.le g'){es:List DictEntry}{d:List (Str×V)}(h:DR w g es d):DR w g' es d:=by
 induction h with
 | nil=>exact .nil
 | cons a b _ ih=>exact .cons a (b.mono k) ih
noncomputable def cn:List (Str×V)→Prop
 | []=>True
 | (k,_)::r=>(∀ p∈r,p.1≠k)∧cn r
inductive CR (w:World) (g:Gh) (o:Obj):kO→Prop
 | list {vs:List Value} {n:Nat} {l:List V}:o.cls=.type "list"→o.dict=none→o.data=.seq vs.toArray n∧vs.length≤sizeLine→eC g vs l→CR w g o (.list l)
 | dict {es:List DictEntry} {n:Nat} {d:List (Str×V)}:o.cls=.type "dict"→o.dict=none∧o.slots=#[]→o.data=.dict es.toArray n→DR w g es d→cn d→CR w g o (.dict d)
 | attrs {es:List DictEntry} {n:Nat} {d:List (Str×V)}:o.cls=.type "dict"→o.data=.dict es.toArray n→DR w g es d→cn d→CR w g o (.attrs d)
noncomputable def Hd(w:World)(g:Gh)(o:Obj):kO→Prop
 | .list l=>∃ vs n,o.cls=.type "list"∧o.dict=none∧(o.data=.seq vs.toArray n∧vs.length≤sizeLine)∧eC g vs l
 | .dict d=>∃ es n,o.cls=.type "dict"∧(o.dict=none∧o.slots=#[])∧o.data=.dict es.toArray n∧DR w g es d∧cn d
 | .attrs d=>∃ es n,o.cls=.type "dict"∧o.data=.dict es.toArray n∧DR w g es d∧cn d
theorem CR.inv{w:World}{g:Gh}{o:Obj}{c:kO}(h:CR w g o c):Hd w g o c:=by
 cases h with
 | list a b c d=>exact ⟨_,_,a,b,c,d⟩
 | dict a b c d e=>exact ⟨_,_,a,b,c,d,e⟩
 | attrs a b c d=>exact ⟨_,_,a,b,c,d⟩
theorem CR.mono{w:World}{g g':Gh}(k:g.le g'){o:Obj}{c:kO}(h:CR w g o c):CR w g' o c:=by
 cases h with
 | list a b c d=>exact .list a b c (d.mono k)
 | dict a b c d e=>exact .dict a b c (d.mono k) e
 | attrs a b c d=>exact .attrs a b (c.mono k) d
structure HI (w:World) (base:Heap) (g:Gh) (oth:List (Addr×Obj)) (σ:St) (h:Heap):Prop where
 hb:∀ b o,base.get? b=some o→h.get? b=some o
 him:∀ p∈g.im,Aq h p.1 p.2∧NF p.2
 hxs:∀ p∈g.xs,base.get? p.1=none∧∃ vs sl,h.get? p.1=some ⟨.ref br,some p.2,.fields vs,sl⟩
 len:g.ca.length=σ.length
 cells:∀ (i:Nat) (c:kO),σ[i]?=some c→∃ a o,g.ca[i]?=some a∧h.get? a=some o∧CR w g o c
 hoth:∀ p∈oth,Aq h p.1 p.2∧NF p.2
 nd:(g.ca++oth.map (·.1)).Nodup
 sep:∀ a∈g.ca++oth.map (·.1),base.get? a=none∧∀ p∈g.im,p.1≠a
 hex:∀ p∈oth,p.2.cls≠.type "frame"→h.get? p.1=some p.2
section
variable {w:World} {base:Heap} {g g':Gh} {oth:List (Addr×Obj)} {σ:St} {h h':Heap}
theorem Aq.keeps{a:Addr}{o:Obj}(x:Aq h a o)(k:∀ b o,h.get? b=some o→h'.get? b=some o):Aq h' a o:=let ⟨sl,e⟩:=x;⟨sl,k _ _ e⟩
theorem HI.grow(H:HI w base g oth σ h)(k:∀ b o,h.get? b=some o→h'.get? b=some o):HI w base g oth σ h':=
 ⟨fun b o e=>k _ _ (H.hb b o e),fun p hp=>⟨(H.him p hp).1.keeps k,(H.him p hp).2⟩,fun p hp=>let ⟨a,vs,sl,e⟩:=H.hxs p hp;⟨a,vs,sl,k _ _ e⟩,H.len,
  fun i c e=>let ⟨a,o,x,y,z⟩:=H.cells i c e;⟨a,o,x,k _ _ y,z⟩,fun p hp=>⟨(H.hoth p hp).1.keeps k,(H.hoth p hp).2⟩,H.nd,H.sep,fun p hp q=>k _ _ (H.hex p hp q)⟩
theorem HI.ca_lt(H:HI w base g oth σ h){a:Addr}(ha:a∈g.ca):a<h.objs.size:=by
 refine rO fun C kC=>?_
 obtain ⟨i,hi,e⟩:=List.getElem_of_mem ha
 have hs:i<σ.length:=H.len▸hi
 refine ob_2_3 (H.cells i σ[i] (by simp [hs])) fun a' o x y z9=>?_
 simp only [List.getElem?_eq_getElem hi,e] at x
 obtain rfl:=Option.some.inj x
 refine kC ?_
 exact Heap.lt_size y
theorem HI.oth_lt(H:HI w base g oth σ h){p:Addr×Obj}(hp:p∈oth):p.1<h.objs.size:=let ⟨sl,e⟩:=(H.hoth p hp).1;Heap.lt_size e
theorem HI.im_lt(H:HI w base g oth σ h){p:Addr×Obj}(hp:p∈g.im):p.1<h.objs.size:=let ⟨sl,e⟩:=(H.him p hp).1;Heap.lt_size e
theorem HI.base_none(H:HI w base g oth σ h){a:Addr}(ha:h.objs.size≤a):base.get? a=none:=by
 cases q:base.get? a with
 | none=>rfl
 | some o=>exact absurd (Heap.lt_size (H.hb _ _ q)) (Nat.not_lt.mpr ha)
theorem HI.tracked_lt(H:HI w base g oth σ h){a:Addr}(ha:a∈g.ca++oth.map (·.1)):a<h.objs.size:=by
 refine Or.elim (List.mem_append.mp ha) (fun q=>?_) fun q=>?_
 ·exact H.ca_lt q
 ·refine ob_1_2 (List.mem_map.mp q) fun p hp hq151_2=>?_
  subst hq151_2
  exact H.oth_lt hp
noncomputable abbrev Gh.addIm(g:Gh)(a:Addr)(o:Obj):Gh:={ g with im:=(a,o)::g.im }
theorem Gh.le.addIm(g:Gh)(a:Addr)(o:Obj):g.le (g.addIm a o):=⟨⟨[],by simp⟩,fun z9 h=>.tail _ h,fun z9 h=>h⟩
theorem HI.addIm(H:HI w base g oth σ h){a:Addr}{o:Obj}(e:Aq h a o)(hn:NF o)(ha:a∉g.ca++oth.map (·.1)):HI w base (g.addIm a o) oth σ h:=
 ⟨H.hb,fun p hp=>by rcases List.mem_cons.mp hp with rfl | hp;exact ⟨e,hn⟩;exact H.him p hp,H.hxs,H.len,
  fun i c q=>let ⟨a,o,x,y,z⟩:=H.cells i c q;(ib_2_3 a o x y (z.mono (.addIm ..))),H.hoth,H.nd,
  fun b hb=>⟨(H.sep b hb).1,fun p hp=>by rcases List.mem_cons.mp hp with rfl | hp;exact fun q=>ha ((show a=b from q)▸hb);exact (H.sep b hb).2 p hp⟩,H.hex⟩
theorem HI.fresh(H:HI w base g oth σ h){a:Addr}(ha:h.objs.size≤a):a∉g.ca++oth.map (·.1):=fun q=>absurd (H.tracked_lt q) (Nat.not_lt.mpr ha)
theorem HI.pushIm(H:HI w base g oth σ h){o:Obj}(hf:o.isFreed=false)(hn:NF o):HI w base (g.addIm h.objs.size o) oth σ (h.push o):=
 (H.grow fun z9 z9 e=>Heap.get?_push_of_some _ e).addIm ⟨o.slots,Heap.get?_push_size h hf⟩ hn (H.fresh (Nat.le_refl _))
theorem HI.pushAny(H:HI w base g oth σ h)(o:Obj):HI w base g oth σ (h.push o):=H.grow fun z9 z9 e=>Heap.get?_push_of_some _ e
noncomputable abbrev Gh.addCa(g:Gh)(a:Addr):Gh:={ g with ca:=g.ca++[a] }
theorem Gh.le.addCa(g:Gh)(a:Addr):g.le (g.addCa a):=⟨⟨[a],rfl⟩,fun z9 h=>h,fun z9 h=>h⟩
theorem HI.addCa(H:HI w base g oth σ h){a:Addr}{o:Obj}{c:kO}(e:h'.get? a=some o)(k:∀ b o,h.get? b=some o→h'.get? b=some o)(hc:CR w g o c)(ha:h.objs.size≤a):HI w base (g.addCa a) oth (σ++[c]) h':=by
 have G:=H.grow k
 refine ⟨G.hb,G.him,G.hxs,by simp [H.len],fun i c' q=>?_,G.hoth,?_,fun b hb=>?_,G.hex⟩
 ·by_cases hi:i<σ.length
  ·rw [List.getElem?_append_left hi] at q
   refine ob_2_3 (G.cells i c' q) fun a' o' x y z=>?_
   exact (ib_2_3 a' o' ((Gh.le.addCa g a).get x) y (z.mono (.addCa ..)))
  ·have:i=σ.length:=by
    have:=(List.getElem?_eq_some_iff.mp q).1
    simp at this;lia
   subst this
   simp at q;subst q
   exact (ib_2_3 a o (by simp [← H.len]) e (hc.mono (.addCa ..)))
 ·have nd:=H.nd
  have fr:=H.fresh ha
  simp only [List.append_assoc]
  rw [List.nodup_append] at nd ⊢
  refine ⟨nd.1,?_,fun x hx y hy=>?_⟩
  ·simp only [List.singleton_append,List.nodup_cons]
   exact ⟨fun q=>fr (List.mem_append_right _ q),nd.2.1⟩
  ·rcases List.mem_append.mp hy with q | q
   ·cases List.mem_singleton.mp q
    exact fun z=>fr (List.mem_append_left _ (z▸hx))
   ·exact nd.2.2 x hx y q
 ·rw [List.append_assoc] at hb
  refine Or.elim (List.mem_append.mp hb) (fun q=>?_) fun q=>?_
  ·exact H.sep b (List.mem_append_left _ q)
  ·rcases List.mem_append.mp q with q | q
   ·cases List.mem_singleton.mp q
    exact ⟨H.base_none ha,fun p hp z=>absurd (z▸H.im_lt hp) (Nat.not_lt.mpr ha)⟩
   ·exact H.sep b (List.mem_append_right _ q)
theorem HI.setCell(H:HI w base g oth σ h){n:Nat}{a:Addr}{c:kO}{o':Obj}(ha:g.ca[n]?=some a)(hs:Heap.SameBut a h h')(e:h'.get? a=some o')(hc:CR w g o' c):HI w base g oth (σ.set n c) h':=by
 have hm:a∈g.ca:=List.mem_of_getElem? ha
 have hin:a∈g.ca++oth.map (·.1):=List.mem_append_left _ hm
 have sp:=H.sep a hin
 refine ⟨fun b o q=>(hs.2 b fun z=>?_).trans (H.hb b o q),fun p hp=>⟨?_,(H.him p hp).2⟩,fun p hp=>?_,by simp [H.len],fun i c' q=>?_,fun p hp=>⟨?_,(H.hoth p hp).2⟩,H.nd,H.sep,fun p hp q=>(hs.2 _ fun z=>(List.nodup_append.mp H.nd).2.2 a hm p.1 (List.mem_map_of_mem hp) z.symm).trans (H.hex p hp q)⟩
 ·simp only [z,sp.1] at q;exact cq q
 ·obtain ⟨sl,q⟩:=(H.him p hp).1
  exact ⟨sl,(hs.2 _ (sp.2 p hp)).trans q⟩
 ·obtain ⟨x,vs,sl,q⟩:=H.hxs p hp
  refine ⟨x,vs,sl,(hs.2 _ fun z=>?_).trans q⟩
  obtain ⟨i,hi,ei⟩:=List.getElem_of_mem hm
  have hs':i<σ.length:=H.len▸hi
  refine ob_2_3 (H.cells i σ[i] (by simp [hs'])) fun a' o x y cr=>?_
  simp only [List.getElem?_eq_getElem hi,ei] at x
  obtain rfl:=Option.some.inj x
  simp only [← z,q] at y
  obtain rfl:=Option.some.inj y
  generalize σ[i]=c9 at cr
  cases cr<;>simp_all
 ·by_cases hi:i=n
  ·subst hi
   have hl:i<σ.length:=by have:=(List.getElem?_eq_some_iff.mp q).1;simpa using this
   rw [List.getElem?_set_self hl] at q
   obtain rfl:=Option.some.inj q
   exact (ib_2_3 a o' ha e hc)
  ·rw [List.getElem?_set_ne (Ne.symm hi)] at q
   refine ob_2_3 (H.cells i c' q) fun b o x y z=>?_
   refine (ib_2_3 b o x ((hs.2 b fun q=>?_).trans y) z)
   subst q
   have nd:=(List.nodup_append.mp H.nd).1
   exact hi (by
    refine ob_1_1 (List.getElem?_eq_some_iff.mp x) fun h1 e1=>?_
    refine ob_1_1 (List.getElem?_eq_some_iff.mp ha) fun h2 e2=>?_
    exact (List.getElem_inj nd).mp (e1.trans e2.symm))
 ·obtain ⟨sl,q⟩:=(H.hoth p hp).1
  refine ⟨sl,(hs.2 _ fun z=>?_).trans q⟩
  exact (List.nodup_append.mp H.nd).2.2 a hm p.1 (List.mem_map_of_mem hp) z.symm
theorem HI.setOth{pre post:List (Addr×Obj)}{a:Addr}{o o':Obj}(H:HI w base g (pre++(a,o)::post) σ h)(hs:Heap.SameBut a h h')(e:Aq h' a o')(hn:NF o')(e9:o'.cls≠.type "frame"→h'.get? a=some o'):HI w base g (pre++(a,o')::post) σ h':=by
 have em:(pre++(a,o')::post).map (·.1)=(pre++(a,o)::post).map (·.1):=by simp
 have hin:a∈g.ca++(pre++(a,o)::post).map (·.1):=by simp
 have sp:=H.sep a hin
 have nd:=H.nd
 refine ⟨fun b o q=>(hs.2 b fun z=>?_).trans (H.hb b o q),fun p hp=>⟨?_,(H.him p hp).2⟩,fun p hp=>?_,H.len,fun i c' q=>?_,fun p hp=>?_,em▸H.nd,em▸H.sep,fun p hp qf=>?_⟩
 ·simp only [z,sp.1] at q;exact cq q
 ·obtain ⟨sl,q⟩:=(H.him p hp).1
  exact ⟨sl,(hs.2 _ (sp.2 p hp)).trans q⟩
 ·obtain ⟨x,vs,sl,q⟩:=H.hxs p hp
  refine ⟨x,vs,sl,(hs.2 _ fun z=>?_).trans q⟩
  obtain ⟨sl',y⟩:=(H.hoth (a,o) (by simp)).1
  have hnf:=(H.hoth (a,o) (by simp)).2
  simp only [← z,q] at y
  exact hnf.1 (by have:=congrArg Obj.cls (Option.some.inj y);exact this.symm)
 ·refine ob_2_3 (H.cells i c' q) fun b ob x y z=>?_
  refine (ib_2_3 b ob x ((hs.2 b fun q=>?_).trans y) z)
  subst q
  exact (List.nodup_append.mp nd).2.2 b (List.mem_of_getElem? x) b (by simp) rfl
 ·have nd2:=(List.nodup_append.mp nd).2.1
  simp only [List.map_append,List.map_cons,List.nodup_append,List.nodup_cons] at nd2
  have key:p∈pre∨p∈post→p.1≠a:=fun q z=>by
   refine Or.elim q (fun q=>?_) fun q=>?_
   ·exact nd2.2.2 p.1 (List.mem_map_of_mem q) a (.head _) z
   ·exact nd2.2.1.1 (List.mem_map.mpr (ib_1_2 p q z))
  refine Or.elim (List.mem_append.mp hp) (fun q=>?_) fun q=>?_
  ·obtain ⟨⟨sl,y⟩,z⟩:=H.hoth p (by simp [q])
   exact ⟨⟨sl,(hs.2 _ (key (.inl q))).trans y⟩,z⟩
  ·rcases List.mem_cons.mp q with rfl | q
   ·exact ⟨e,hn⟩
   ·obtain ⟨⟨sl,y⟩,z⟩:=H.hoth p (by simp [q])
    exact ⟨⟨sl,(hs.2 _ (key (.inr q))).trans y⟩,z⟩
 ·have nd2:=(List.nodup_append.mp nd).2.1
  simp only [List.map_append,List.map_cons,List.nodup_append,List.nodup_cons] at nd2
  have key:p∈pre∨p∈post→p.1≠a:=fun q z=>by
   refine Or.elim q (fun q=>?_) fun q=>?_
   ·exact nd2.2.2 p.1 (List.mem_map_of_mem q) a (.head _) z
   ·exact nd2.2.1.1 (List.mem_map.mpr (ib_1_2 p q z))
  refine Or.elim (List.mem_append.mp hp) (fun q=>?_) fun q=>?_
  ·exact (hs.2 _ (key (.inl q))).trans (H.hex p (by simp [q]) qf)
  ·rcases List.mem_cons.mp q with rfl | q
   ·exact e9 qf
   ·exact (hs.2 _ (key (.inr q))).trans (H.hex p (by simp [q]) qf)
end
end Mine.Internal
end
section
open PySem PySem.W PyProof.Rows
set_option genCtorIdx false
namespace Mine.Internal
inductive kD (base:Heap) (e:Addr) (h:Heap):Prop
 | mk (d:Addr) (vs:Array Value) (sl:Array (Option Value)) (a0:Value):h.get? e=some ⟨.ref br,some d,.fields vs,sl⟩→vs[0]?=some a0→1<vs.size→
  (vs[1]?=some .none∨∃ T oT ts x,vs[1]?=some (.ref T)∧base.get? T=none∧T≠e∧h.get? T=some oT∧oT.cls=.type "traceback"∧oT.data=.fields ts∧ts[3]?=some x)→kD base e h
theorem kD.E{base:Heap}{e:Addr}{h:Heap}(F:kD base e h){C:Prop}(k:∀ (d:Addr) (vs:Array Value) (sl:Array (Option Value)) (a0:Value),h.get? e=some ⟨.ref br,some d,.fields vs,sl⟩→vs[0]?=some a0→1<vs.size→
  (vs[1]?=some .none∨∃ T oT ts x,vs[1]?=some (.ref T)∧base.get? T=none∧T≠e∧h.get? T=some oT∧oT.cls=.type "traceback"∧oT.data=.fields ts∧ts[3]?=some x)→C):C:=by
 cases F with | mk d vs sl a0 a1 a2 a3 a4=>exact k d vs sl a0 a1 a2 a3 a4
structure Cx where
 prog:Program
 w:World
 base:Heap
 C:Nat→List V→St→cR V
noncomputable abbrev Cx.M(X:Cx):Model:=model X.prog X.w
noncomputable def eh(X:Cx)(g:Gh)(oth:List (Addr×Obj))(s:Shared)(Q E:Value→Shared→Prop):jE V→Prop
 | .ok v σ=>∀ val h tk g',g.le g'→HI X.w X.base g' oth σ h→VR g' val v→Q val { s with heap:=h,toks:=tk }
 | .exc v σ=>∀ e h tk g',g.le g'→HI X.w X.base g' oth σ h→VR g' (.ref e) v→kD X.base e h→E (.ref e) { s with heap:=h,toks:=tk }
noncomputable def jH(X:Cx)(g:Gh)(oth:List (Addr×Obj))(s:Shared)(Q:Bool→Shared→Prop)(E:Value→Shared→Prop):jE Bool→Prop
 | .ok v σ=>∀ h tk g',g.le g'→HI X.w X.base g' oth σ h→Q v { s with heap:=h,toks:=tk }
 | .exc v σ=>∀ e h tk g',g.le g'→HI X.w X.base g' oth σ h→VR g' (.ref e) v→kD X.base e h→E (.ref e) { s with heap:=h,toks:=tk }
noncomputable def qd(X:Cx)(g:Gh)(oth:List (Addr×Obj))(s:Shared)(Q:List Value→Shared→Prop)(E:Value→Shared→Prop):jE (List V)→Prop
 | .ok v σ=>∀ vs h tk g',g.le g'→HI X.w X.base g' oth σ h→eC g' vs v→Q vs { s with heap:=h,toks:=tk }
 | .exc v σ=>∀ e h tk g',g.le g'→HI X.w X.base g' oth σ h→VR g' (.ref e) v→kD X.base e h→E (.ref e) { s with heap:=h,toks:=tk }
noncomputable def fV(x:Str):Prop:=(x == ("__debug__":Str))=false∧(x == ("__classdict__":Str))=false
noncomputable def EI(o:Obj)(x:Str)(val:Value):Prop:=∃ es ep,o.data=.dict es ep∧StrKeys es∧nsFind es x=some val
noncomputable def bY(env:Env)(oth:List (Addr×Obj))(x:Str)(val:Value):Prop:=
 (env.kindOf x=some .local∧∃ o,(env.locals,o)∈oth∧EI o x val)∨
 ((env.kindOf x=some .cell∨env.kindOf x=some .free)∧∃ c o,env.cells.lookup x=some c∧(c,o)∈oth∧o.data=.cell (some val))
inductive gl (g:Gh) (oth:List (Addr×Obj)):Value→List V→Prop
 | mk {a:Addr} {o:Obj} {vs:List Value} {n:Nat} {l:List V}:(a,o)∈oth→o.cls=.type "list"∧o.dict=none→o.data=.seq vs.toArray n∧vs.length≤sizeLine→eC g vs l→gl g oth (.ref a) l
noncomputable def LR(g:Gh)(oth:List (Addr×Obj))(val:Value):V→Prop
 | .own l=>gl g oth val l
 | v=>VR g val v
noncomputable def nT(A:Around)(oth:List (Addr×Obj)):Prop:=∃ l,A.frames=some l∧∀ e∈l,e.scope.kind≠.module∧∃ L o,e.frame=some L∧(L,o)∈oth∧(∀ vs,o.data≠.fields vs)∧o.cls=.type "frame"
structure eV (A:Around) (g:Gh) (oth:List (Addr×Obj)) (env:Env) (nm:List Str) (ρ:ck):Prop where
 fn:env.scope.kind=.function
 len:ρ.length=nm.length
 fr:nT A oth
 top:∃ L,env.frame=some L∧∃ e0 rest,A.frames=some (e0::rest)∧e0.frame=some L
 cel:∀ x,env.kindOf x=some .cell→∃ c,env.cells.lookup x=some c
 has:∀ x i v,bD nm x=some i→bt env.scope.names x=true→ρ[i]?=some (some v)→fV x∧∃ val,bY env oth x val∧LR g oth val v
theorem LR.mono{g g':Gh}{oth:List (Addr×Obj)}{val:Value}{v:V}(k:g.le g')(h:LR g oth val v):LR g' oth val v:=by
 cases v<;>first
  | exact VR.mono k h
  | (obtain ⟨a,b,c,d⟩:=h;exact .mk a b c (d.mono k))
theorem eV.mono{A:Around}{g g':Gh}{oth:List (Addr×Obj)}{env:Env}{nm:List Str}{ρ:ck}(k:g.le g')(h:eV A g oth env nm ρ):eV A g' oth env nm ρ:=
 ⟨h.fn,h.len,h.fr,h.top,h.cel,fun x i v a b c=>let ⟨o,val,d,e⟩:=h.has x i v a b c;⟨o,val,d,e.mono k⟩⟩
section
variable {X:Cx} {A:Around} {env:Env} {g g':Gh} {oth:List (Addr×Obj)} {s:Shared} {Q E:Value→Shared→Prop}
theorem eh.at{r:jE V}(P:eh X g oth s Q E r)(k:g.le g')(h:Heap)(tk:Tok):eh X g' oth { s with heap:=h,toks:=tk } Q E r:=by
 cases r with
 | ok v σ=>exact fun val h' tk' g2 k2 H R=>P val h' tk' g2 (k.trans k2) H R
 | exc v σ=>exact fun e h' tk' g2 k2 H R F=>P e h' tk' g2 (k.trans k2) H R F
theorem jH.at{Q:Bool→Shared→Prop}{r:jE Bool}(P:jH X g oth s Q E r)(k:g.le g')(h:Heap)(tk:Tok):jH X g' oth { s with heap:=h,toks:=tk } Q E r:=by
 cases r with
 | ok v σ=>exact fun h' tk' g2 k2 H=>P h' tk' g2 (k.trans k2) H
 | exc v σ=>exact fun e h' tk' g2 k2 H R F=>P e h' tk' g2 (k.trans k2) H R F
theorem qd.at{Q:List Value→Shared→Prop}{r:jE (List V)}(P:qd X g oth s Q E r)(k:g.le g')(h:Heap)(tk:Tok):qd X g' oth { s with heap:=h,toks:=tk } Q E r:=by
 cases r with
 | ok v σ=>exact fun val h' tk' g2 k2 H R=>P val h' tk' g2 (k.trans k2) H R
 | exc v σ=>exact fun e h' tk' g2 k2 H R F=>P e h' tk' g2 (k.trans k2) H R F
theorem rQ{α β:Type}{x:cR α}{f:α→St→cR β}{r:jE β}(h:x.bind f=some r){C:Prop}(k1:∀ v σ,x=some (.exc v σ)→r=.exc v σ→C)(k2:∀ a σ,x=some (.ok a σ)→f a σ=some r→C):C:=by
 cases x with
 | none=>exact cq h
 | some x=>cases x with
  | exc v σ=>exact k1 v σ rfl (Option.some.inj h).symm
  | ok a σ=>exact k2 a σ rfl h
theorem rR{α:Type}{x:Option α}{σ:St}{r:jE α}(h:lift x σ=some r){D:jE α→Prop}(P:D r){C:Prop}(k:∀ v,x=some v→D (.ok v σ)→C):C:=by
 cases x with
 | none=>exact cq h
 | some v=>exact k v rfl (Option.some.inj h▸P)
theorem xN{α β:Type}{x:Option α}{f:α→St→cR β}{σ:St}{r:jE β}(h:(lift x σ).bind f=some r){C:Prop}(k:∀ a,x=some a→f a σ=some r→C):C:=by
 cases x with
 | none=>exact cq h
 | some v=>exact k v rfl h
theorem EJ{α β:Type}{x:Option α}{f:α→β}{σ:St}{r:jE β}(h:lift (x.map f) σ=some r){D:jE β→Prop}(P:D r){C:Prop}(k:∀ v,x=some v→D (.ok (f v) σ)→C):C:=by
 cases x with
 | none=>exact cq h
 | some v=>exact k v rfl (Option.some.inj h▸P)
theorem lQ{α:Type}{x y:α}(h:some x=some y){D:α→Prop}(P:D y):D x:=Option.some.inj h▸P
end
noncomputable def JE(X:Cx)(A:Around)(env:Env)(nm:List Str)(e:Expr)(pe:PE):Prop:=
 ∀ ρ σ r,ev X.C ρ pe σ=some r→∀ g oth,eV A g oth env nm ρ→∀ s Q E,HI X.w X.base g oth σ s.heap→eh X g oth s Q E r→wpAny X.M A (eval e env) Q E s
noncomputable def JT(X:Cx)(A:Around)(env:Env)(nm:List Str)(e:Expr)(pe:PE):Prop:=
 ∀ ρ σ r,fw X.C ρ pe σ=some r→∀ g oth,eV A g oth env nm ρ→∀ s Q E,HI X.w X.base g oth σ s.heap→jH X g oth s Q E r→wpAny X.M A (isTrue e env (eval e env)) Q E s
section
variable {X:Cx} {A:Around} {env:Env} {nm:List Str} {e:Expr} {pe:PE}
theorem JE.step(J:JE X A env nm e pe){α:Type}{ρ:ck}{σ:St}{f:V→St→cR α}{r:jE α}(hr:(ev X.C ρ pe σ).bind f=some r)
  {g:Gh} {oth:List (Addr×Obj)} (F:eV A g oth env nm ρ) {s:Shared} {Q1 E:Value→Shared→Prop} (H:HI X.w X.base g oth σ s.heap)
  (PE:∀ v σ',r=.exc v σ'→∀ e h tk g',g.le g'→HI X.w X.base g' oth σ' h→VR g' (.ref e) v→kD X.base e h→E (.ref e) { s with heap:=h,toks:=tk })
  (k:∀ v σ',f v σ'=some r→∀ val h tk g',g.le g'→HI X.w X.base g' oth σ' h→VR g' val v→Q1 val { s with heap:=h,toks:=tk }) :
  wpAny X.M A (eval e env) Q1 E s:=by
 exact rQ hr (fun v σ' h1 h2=>J ρ σ _ h1 g oth F s Q1 E H (PE v σ' h2)) fun v σ' h1 h2=>J ρ σ _ h1 g oth F s Q1 E H (k v σ' h2)
theorem eh.exc{X:Cx}{g:Gh}{oth:List (Addr×Obj)}{s:Shared}{Q E:Value→Shared→Prop}{r:jE V}(P:eh X g oth s Q E r) :
  ∀ v σ',r=.exc v σ'→∀ e h tk g',g.le g'→HI X.w X.base g' oth σ' h→VR g' (.ref e) v→kD X.base e h→E (.ref e) { s with heap:=h,toks:=tk }:=fun v σ' q=>by
 subst q;exact P
theorem jH.exc{X:Cx}{g:Gh}{oth:List (Addr×Obj)}{s:Shared}{Q:Bool→Shared→Prop}{E:Value→Shared→Prop}{r:jE Bool}(P:jH X g oth s Q E r) :
  ∀ v σ',r=.exc v σ'→∀ e h tk g',g.le g'→HI X.w X.base g' oth σ' h→VR g' (.ref e) v→kD X.base e h→E (.ref e) { s with heap:=h,toks:=tk }:=fun v σ' q=>by
 subst q;exact P
theorem qd.exc{X:Cx}{g:Gh}{oth:List (Addr×Obj)}{s:Shared}{Q:List Value→Shared→Prop}{E:Value→Shared→Prop}{r:jE (List V)}(P:qd X g oth s Q E r) :
  ∀ v σ',r=.exc v σ'→∀ e h tk g',g.le g'→HI X.w X.base g' oth σ' h→VR g' (.ref e) v→kD X.base e h→E (.ref e) { s with heap:=h,toks:=tk }:=fun v σ' q=>by
 subst q;exact P
theorem eh.okk{X:Cx}{g:Gh}{oth:List (Addr×Obj)}{s:Shared}{Q E:Value→Shared→Prop}{r:jE V}(P:eh X g oth s Q E r){v:V}{σ:St}(q:r=.ok v σ){val:Value}{h:Heap}{tk:Tok}{g':Gh}(k:g.le g')
  (H:HI X.w X.base g' oth σ h) (R:VR g' val v):Q val { s with heap:=h,toks:=tk }:=by subst q;exact P val h tk g' k H R
theorem jH.okk{X:Cx}{g:Gh}{oth:List (Addr×Obj)}{s:Shared}{Q:Bool→Shared→Prop}{E:Value→Shared→Prop}{r:jE Bool}(P:jH X g oth s Q E r){v:Bool}{σ:St}(q:r=.ok v σ){h:Heap}{tk:Tok}{g':Gh}(k:g.le g')
  (H:HI X.w X.base g' oth σ h):Q v { s with heap:=h,toks:=tk }:=by subst q;exact P h tk g' k H
theorem Aq.ns{h:Heap}{a:Addr}{o:Obj}(k:Aq h a o){x:Str}{val:Value}(q:EI o x val):∃ m,h.Ns a m∧m x=some val:=by
 obtain ⟨sl,e⟩:=k
 refine ob_2_3 q fun es ep hd hk hf=>?_
 exact ⟨nsFind es,⟨_,es,ep,e,hd,hk,fun z9=>rfl⟩,hf⟩
theorem fP{M:Model}{g:Gh}{oth:List (Addr×Obj)}{w:World}{base:Heap}{σ:St}{s:Shared}{x:Str}{val:Value}{Q E:Value→Shared→Prop}(hk:env.scope.kind=.function)(ok:fV x)(n:bY env oth x val)(H:HI w base g oth σ s.heap)
  (h:Q val s):wpAny M A (loadName env x) Q E s:=by
 rcases n with ⟨hl,o,ho,hn⟩ | ⟨hl,c,o,hc,ho,hd⟩
 ·refine ob_1_2 ((H.hoth _ ho).1.ns hn) fun m h1 h2=>?_
  exact wpAny_loadName_local hk hl h1 h2 h
 ·obtain ⟨sl,e⟩:=(H.hoth _ ho).1
  rcases hl with hl | hl
  ·exact wpAny_loadName_cell hk hl hc ⟨_,e,hd⟩ h
  ·exact wpAny_loadName_free hk hl hc ⟨_,e,hd⟩ h ok.2
theorem LR.vr{g:Gh}{oth:List (Addr×Obj)}{val:Value}{v:V}(h:LR g oth val v)(hv:¬ uW v=true):VR g val v:=by
 cases v<;>first | exact h | exact absurd rfl hv
theorem jW{ρ:ck}{i:Nat}{v:V}(h:jV ρ i=some v):ρ[i]?=some (some v):=cV h fun z9 hx e=>hx.trans (congrArg some e)
theorem eV.loc{A:Around}{g:Gh}{oth:List (Addr×Obj)}{nm:List Str}{ρ:ck}(F:eV A g oth env nm ρ){x:Str}{i:Nat}{v:V}(h:xy ρ i=some v)(hi:bD nm x=some i)(hl:bt env.scope.names x=true){C:Prop}
  (k:fV x→∀ val,bY env oth x val→VR g val v→C):C:=
 cV h fun y hy h=>Gw h fun hn h=>(F.has x i y hi hl (jW hy)).elim fun ok q=>q.elim fun val q=>k ok val q.1 (Option.some.inj h▸q.2.vr hn)
theorem qV{x:Str}{pos:Pos}{i:Nat}(hl:bt env.scope.names x=true)(hi:bD nm x=some i):JE X A env nm (.Name x pos) (.loc i):=by
 intro ρ σ r hr g oth F s Q E H P
 refine rR (Cd.symm.trans hr) P fun v hv P=>F.loc hv hi hl fun ok val n R=>?_
 exact wpAny_Name (fP F.fn ok n H (P val s.heap s.toks g (.refl g) H R)) ok.1
theorem vg{k:Nat}{pos:Pos}:JE X A env nm (.Constant .none k pos) .none:=by
 intro ρ σ r hr g oth F s Q E H P
 exact wpAny_Constant_none (lQ hr P .none s.heap s.toks g (.refl g) H .none)
theorem Ar{b:Bool}{k:Nat}{pos:Pos}:JE X A env nm (.Constant (.bool b) k pos) (.bool b):=by
 intro ρ σ r hr g oth F s Q E H P
 exact wpAny_Constant_bool (lQ hr P (.bool b) s.heap s.toks g (.refl g) H (.bool b))
theorem xO{i:Int}{k:Nat}{pos:Pos}:JE X A env nm (.Constant (.int i) k pos) (.int i):=by
 intro ρ σ r hr g oth F s Q E H P
 exact wpAny_Constant_int (lQ hr P _ s.heap _ g (.refl g) H (.int i s.toks))
theorem Db{x:Str}{k:Nat}{pos:Pos}:JE X A env nm (.Constant (.str x) k pos) (.str x):=by
 intro ρ σ r hr g oth F s Q E H P
 exact wpAny_Constant_str (lQ hr P _ s.heap _ g (.refl g) H (.str x s.toks))
theorem mw{M:Model}{g:Gh}{s:Shared}{b:Bool}{val:Value}(R:VR g val (.bool b)){Q:Bool→Shared→Prop}{E:Value→Shared→Prop}(h:Q b s):wpAny M A (truthy val) Q E s:=by
 refine VR.eB R ?_
 exact wpAny_truthy_bool h
theorem Dc{a b:Expr}{pa pb:PE}{op:Operator}{o:B_}{pos:Pos}(Ja:JE X A env nm a pa)(Jb:JE X A env nm b pb)
  (hop:∀ x y z,gJ o x y=some z→∀ g oth σ (s:Shared),HI X.w X.base g oth σ s.heap→∀ vx vy,VR g vx x→VR g vy y→∀ Q E,eh X g oth s Q E (.ok z σ)→wpAny X.M A (binaryOp op vx vy) Q E s) :
  JE X A env nm (.BinOp a op b pos) (.bin o pa pb):=by
 intro ρ σ r hr g oth F s Q E H P
 refine wpAny_BinOp (Ja.step (aP.symm.trans hr) F H P.exc fun x σ1 hr1 vx h1 tk1 g1 k1 H1 R1=>?_)
 refine Jb.step hr1 (F.mono k1) H1 (P.at k1 h1 tk1).exc fun y σ2 hr2 vy h2 tk2 g2 k2 H2 R2=>?_
 exact rR hr2 ((P.at k1 h1 tk1).at k2 h2 tk2) fun z hz=>hop x y z hz g2 oth σ2 _ H2 vx vy (R1.mono k2) R2 Q E
theorem Dd{a b:Expr}{pa pb:PE}{op:CmpOp}{o:rP}{pos:Pos}(Ja:JE X A env nm a pa)(Jb:JE X A env nm b pb)(hm:behindInMarks op b=false)
  (hop:∀ g oth σ x y z,dG σ o x y=some z→∀ (s:Shared),HI X.w X.base g oth σ s.heap→∀ vx vy,VR g vx x→VR g vy y→∀ Q E,eh X g oth s Q E (.ok (.bool z) σ)→wpAny X.M A (compareOp op vx vy) Q E s) :
  JE X A env nm (.Compare a [op] [b] pos) (.cmp o pa pb):=by
 intro ρ σ r hr g oth F s Q E H P
 refine wpAny_Compare1 (Ja.step (aL.symm.trans hr) F H P.exc fun x σ1 hr1 vx h1 tk1 g1 k1 H1 R1=>?_) hm
 refine Jb.step hr1 (F.mono k1) H1 (P.at k1 h1 tk1).exc fun y σ2 hr2 vy h2 tk2 g2 k2 H2 R2=>?_
 exact EJ hr2 ((P.at k1 h1 tk1).at k2 h2 tk2) fun z hz=>hop g2 oth σ2 x y z hz _ H2 vx vy (R1.mono k2) R2 Q E
theorem De{a b:Expr}{pa pb:PE}{op:CmpOp}{o:rP}{pos:Pos}(Ja:JE X A env nm a pa)(Jb:JE X A env nm b pb)(hm:behindInMarks op b=false)
  (hop:∀ g oth σ x y z,dG σ o x y=some z→∀ (s:Shared),HI X.w X.base g oth σ s.heap→∀ vx vy,VR g vx x→VR g vy y→∀ Q E,eh X g oth s Q E (.ok (.bool z) σ)→wpAny X.M A (compareOp op vx vy) Q E s) :
  JT X A env nm (.Compare a [op] [b] pos) (.cmp o pa pb):=by
 intro ρ σ r hr g oth F s Q E H P
 refine wpAny_isTrue_Compare1 (Ja.step (an.symm.trans hr) F H P.exc fun x σ1 hr1 vx h1 tk1 g1 k1 H1 R1=>?_) hm
 refine Jb.step hr1 (F.mono k1) H1 (P.at k1 h1 tk1).exc fun y σ2 hr2 vy h2 tk2 g2 k2 H2 R2=>?_
 refine rR hr2 P fun z hz P=>hop g2 oth σ2 x y z hz _ H2 vx vy (R1.mono k2) R2 _ E fun val h3 tk3 g3 k3 H3 R3=>?_
 exact mw R3 (P h3 tk3 g3 ((k1.trans k2).trans k3) H3)
end
end Mine.Internal
end
section
open PySem PySem.W PyProof.Rows
namespace Mine.Internal
theorem ls{n:Nat}(h:fl n=true):n≤100000:=Nat.le_of_ble_eq_true h
theorem fh{n:Nat}(h:fl n=true):n≤sizeLine:=by
 have:=ls h
 simp only [sizeLine_eq];lia
theorem bV{o:Obj}{t:String}(h:o.cls=.type t)(ht:(t == "traceback")=false):NF o:=by
 constructor
 ·rw [h];intro q;cases q
 ·rw [h];intro q;cases q;exact absurd ht (by decide)
section
variable {X:Cx} {A:Around} {env:Env} {nm:List Str} {g:Gh} {oth:List (Addr×Obj)} {σ:St} {s:Shared}
theorem VR.isTup(H:HI X.w X.base g oth σ s.heap){val:Value}{l:List V}(R:VR g val (.tup l)):∃ a vs,val=.ref a∧IsTup s.heap a vs.toArray∧eC g vs l∧vs.length≤sizeLine:=
 ob_4_5 R.inv fun a o vs n e h c d r=>(H.him _ h).1.elim fun sl q=>ib_2_4 a vs e ⟨_,q,c,n,d.1⟩ r d.2
theorem VR.isLst(H:HI X.w X.base g oth σ s.heap){val:Value}{l:List V}(R:VR g val (.lst l)):∃ a vs,val=.ref a∧s.heap.IsList a vs.toArray∧eC g vs l∧vs.length≤sizeLine:=
 ob_4_5 R.inv fun a o vs n e h c d r=>(H.him _ h).1.elim fun sl q=>ib_2_4 a vs e ⟨_,q,c,n,d.1⟩ r d.2
theorem VR.isRef(H:HI X.w X.base g oth σ s.heap){val:Value}{k:Nat}(R:VR g val (.ref k)){l:List V}(hk:σ[k]?=some (.list l)):∃ a vs,val=.ref a∧g.ca[k]?=some a∧s.heap.IsList a vs.toArray∧eC g vs l∧vs.length≤sizeLine:=
 ob_1_2 R.inv fun a e ha=>ob_2_3 (H.cells _ _ hk) fun b o x y z=>ob_2_4 z.inv fun vs n c z9 d r=>ib_2_5 a vs e ha ⟨_,Option.some.inj (x.symm.trans ha)▸y,c,n,d.1⟩ r d.2
theorem qW{M:Model}{vs:List Value}{l:List V}{Q E:Value→Shared→Prop}(H:HI X.w X.base g oth σ s.heap)(R:eC g vs l)(hsz:vs.length≤sizeLine)(P:eh X g oth s Q E (.ok (.lst l) σ)) :
  Q (.ref s.heap.objs.size) { s with heap:=s.heap.push { cls:=.type "list",data:=.seq vs.toArray } }:=by
 have hf:({ cls:=.type "list",data:=.seq vs.toArray }:Obj).isFreed=false:=rfl
 refine P _ _ s.toks (g.addIm s.heap.objs.size _) (Gh.le.addIm ..) (H.pushIm hf (bV rfl (by decide))) ?_
 exact .lst (.head _) rfl ⟨rfl,hsz⟩ (R.mono (Gh.le.addIm ..))
theorem n_{vs:List Value}{l:List V}{Q E:Value→Shared→Prop}(H:HI X.w X.base g oth σ s.heap)(R:eC g vs l)(hsz:vs.length≤sizeLine)(P:eh X g oth s Q E (.ok (.tup l) σ)) :
  Q (.ref s.heap.objs.size) { s with heap:=s.heap.push { cls:=.type "tuple",data:=.seq vs.toArray } }:=by
 have hf:({ cls:=.type "tuple",data:=.seq vs.toArray }:Obj).isFreed=false:=rfl
 refine P _ _ s.toks (g.addIm s.heap.objs.size _) (Gh.le.addIm ..) (H.pushIm hf (bV rfl (by decide))) ?_
 exact .tup (.head _) rfl ⟨rfl,hsz⟩ (R.mono (Gh.le.addIm ..))
theorem tU{prog:Program}{w:World}{l b:Addr}{vs ws:List Value}{Q E:Value→Shared→Prop}(hl:s.heap.IsList l vs.toArray)(hb:s.heap.IsList b ws.toArray)
  (h:Q (.ref s.heap.objs.size) { s with heap:=s.heap.push { cls:=.type "list",data:=.seq (vs++ws).toArray } }) (hsz:vs.length+ws.length≤sizeLine) :
  wpAny (model prog w) A (binaryOp .Add (.ref l) (.ref b)) Q E s:=by
 have hL:=hl
 obtain ⟨⟨cls,dd,data,sl⟩,ho,hc,n,hd⟩:=id hl
 obtain ⟨⟨cls2,dd2,data2,sl2⟩,ho2,hc2,n2,hd2⟩:=id hb
 simp only at hc hd hc2 hd2
 subst hc hd hc2 hd2
 have e:vs.toArray++ws.toArray=(vs++ws).toArray:=by simp
 refine concat_meets ⟨_,ho,rfl⟩ ⟨_,ho2,rfl⟩ noFill_list_add seq_list_add PySem.F.slot_list_add PySem.F.entry_list_add (PySem.F.args_list_add_2 _ _) (list_addW l b vs.toArray ws.toArray n n2 dd dd2 sl sl2 (by simpa using hsz)) ⟨ho,ho2,?_⟩
 rw [e]
 exact h
theorem pU(n:Nat)(h:n≤1000):(Builtin.Int.intBits 3:Int)*n≤2 ^ 27∧(Builtin.Int.intBits 10:Int)*n≤2 ^ 27:=by
 have a:Builtin.Int.intBits 3=2:=by decide +kernel
 have b:Builtin.Int.intBits 10=4:=by decide +kernel
 rw [a,b];constructor<;>lia
theorem jX{x:V}(h:isNone x=true):x=.none:=by
 cases x<;>first | rfl | exact j9 h
theorem gZ{v:V}{s:Str}(h:dz v=some s):v=.str s:=by
 cases v<;>first | exact congrArg V.str (Option.some.inj h) | exact cq h
theorem rY{v:V}{s:Bool}(h:lU v=some s):v=.bool s:=by
 cases v<;>first | exact congrArg V.bool (Option.some.inj h) | exact cq h
theorem lW{v:V}{s:Int}(h:eE v=some s):v=.int s:=by
 cases v<;>first | exact congrArg V.int (Option.some.inj h) | exact cq h
theorem gm{v:V}{l:List V}(h:gg v=some l):v=.tup l:=by
 cases v<;>first | exact congrArg V.tup (Option.some.inj h) | exact cq h
theorem tV{v:V}{l:List V}(h:gU v=some l):v=.lst l:=by
 cases v<;>first | exact congrArg V.lst (Option.some.inj h) | exact cq h
theorem oE{v:V}{l:List V}(h:kz v=some l):v=.own l:=by
 cases v<;>first | exact congrArg V.own (Option.some.inj h) | exact cq h
theorem tW{v:V}{c:V×V}(h:Ca v=some c):v=.exc c.1 c.2:=by
 cases v<;>first | exact Option.some.inj h▸rfl | exact cq h
theorem m5{v:V}{n:Nat}(h:qP v=some n):v=.ref n:=by
 cases v<;>first | exact congrArg V.ref (Option.some.inj h) | exact cq h
theorem qe{v:V}{n:Nat}(h:we v=some n):v=.dct n:=by
 cases v<;>first | exact congrArg V.dct (Option.some.inj h) | exact cq h
theorem qg{v:V}{n:Nat}(h:pS v=some n):v=.inst n:=by
 cases v<;>first | exact congrArg V.inst (Option.some.inj h) | exact cq h
theorem lX{n:Nat}{l:List V}(h:fO σ n=some l):σ[n]?=some (.list l):=cV h fun c hc e=>by
 cases c<;>first | exact Option.some.inj e▸hc | exact cq e
theorem lY{n:Nat}{l:List (Str×V)}(h:kP σ n=some l):σ[n]?=some (.dict l):=cV h fun c hc e=>by
 cases c<;>first | exact Option.some.inj e▸hc | exact cq e
theorem oF{n:Nat}{l:List (Str×V)}(h:lN σ n=some l):σ[n]?=some (.attrs l):=cV h fun c hc e=>by
 cases c<;>first | exact Option.some.inj e▸hc | exact cq e
@[elab_as_elim] theorem VR.int'{val:Value}{x:V}{i:Int}(R:VR g val x)(h:eE x=some i){C:Value→Prop}(k:∀ t,C (.int i t)):C val:=(lW h▸R).eI k
@[elab_as_elim] theorem VR.str'{val:Value}{x:V}{i:Str}(R:VR g val x)(h:dz x=some i){C:Value→Prop}(k:∀ t,C (.str i t)):C val:=(gZ h▸R).eS k
@[elab_as_elim] theorem VR.bool'{val:Value}{x:V}{i:Bool}(R:VR g val x)(h:lU x=some i){C:Value→Prop}(k:C (.bool i)):C val:=(rY h▸R).eB k
theorem VR.tup'(H:HI X.w X.base g oth σ s.heap){val:Value}{x:V}{l:List V}(R:VR g val x)(h:gg x=some l){C:Prop}(k:∀ a vs,val=.ref a→IsTup s.heap a vs.toArray→eC g vs l→vs.length≤sizeLine→C):C:=ob_2_4 ((gm h▸R).isTup H) k
theorem VR.lst'(H:HI X.w X.base g oth σ s.heap){val:Value}{x:V}{l:List V}(R:VR g val x)(h:gU x=some l){C:Prop}(k:∀ a vs,val=.ref a→s.heap.IsList a vs.toArray→eC g vs l→vs.length≤sizeLine→C):C:=ob_2_4 ((tV h▸R).isLst H) k
theorem VR.ref'(H:HI X.w X.base g oth σ s.heap){val:Value}{x:V}{l:List V}(R:VR g val x)(h:(qP x).bind (fO σ)=some l){C:Prop}(k:∀ a vs,val=.ref a→s.heap.IsList a vs.toArray→eC g vs l→vs.length≤sizeLine→C):C:=
 cV h fun n h1 h2=>ob_2_5 ((m5 h1▸R).isRef H (lX h2)) fun a vs e z9=>k a vs e
@[elab_as_elim] theorem gA{β:Type}{vx vy:Value}{x y:V}{f:Int→Int→Option β}{z:β}(h:tE eE x y f=some z)(Rx:VR g vx x)(Ry:VR g vy y){C:Value→Value→Prop}(k:∀ a b t u,f a b=some z→C (.int a t) (.int b u)):C vx vy:=
 cV h fun a h1 h=>cV h fun b h2 h=>Rx.int' h1 fun t=>Ry.int' h2 fun u=>k a b t u h
@[elab_as_elim] theorem qX{β:Type}{vx vy:Value}{x y:V}{f:Str→Str→Option β}{z:β}(h:tE dz x y f=some z)(Rx:VR g vx x)(Ry:VR g vy y){C:Value→Value→Prop}(k:∀ a b t u,f a b=some z→C (.str a t) (.str b u)):C vx vy:=
 cV h fun a h1 h=>cV h fun b h2 h=>Rx.str' h1 fun t=>Ry.str' h2 fun u=>k a b t u h
noncomputable def Hf:B_→Operator
 | .add=>.Add
 | .sub=>.Sub
 | .mul=>.Mult
 | .mod=>.Mod
 | .pow=>.Pow
theorem xP{op:Operator}{o:B_}(h:xI op=some o):op=Hf o:=by
 cases op<;>first | exact cq h | exact Option.some.inj h▸rfl
theorem As{op:Operator}{o:B_}(ho:xI op=some o)(x y z:V)(hz:gJ o x y=some z)(g:Gh)(oth:List (Addr×Obj))(σ:St)(s:Shared)(H:HI X.w X.base g oth σ s.heap)
  (vx vy:Value) (Rx:VR g vx x) (Ry:VR g vy y) (Q E:Value→Shared→Prop) (P:eh X g oth s Q E (.ok z σ)):wpAny X.M A (binaryOp op vx vy) Q E s:=by
 have P1:∀ val tk w,w=z→VR g val w→Q val { s with toks:=tk }:=fun val tk w e R=>P val s.heap tk g (.refl g) H (e▸R)
 obtain rfl:=xP ho
 cases o with
 | add=>
  refine ln hz (fun hz=>?_) fun hz=>ln hz (fun hz=>?_) fun hz=>?_
  ·refine gA hz Rx Ry fun a b t u hz=>gf hz fun z9 e=>?_
   exact PyProof.Rows.add_int (P1 _ _ _ (Option.some.inj e) (.int _ _))
  ·refine qX hz Rx Ry fun a b t u hz=>gf hz fun hb e=>?_
   exact SBL.add (fun t' k z9=>P1 _ k _ (Option.some.inj e) (.str _ t')) (fh hb)
  ·refine cV hz fun a h1 hz=>cV hz fun b h2 hz=>gf hz fun hb e=>?_
   refine Rx.lst' H h1 fun c vs ex La Ra z9=>Ry.lst' H h2 fun d us ey Lb Rb z9=>?_
   subst ex ey
   have hz9:vs.length+us.length≤sizeLine:=Ra.length▸Rb.length▸fh hb
   exact tU La Lb (qW (M:=X.M) H (Ra.append Rb) (List.length_append▸hz9) (Option.some.inj e▸P)) hz9
 | sub=>
  refine gA hz Rx Ry fun a b t u hz=>gf hz fun z9 e=>?_
  exact sub_int' (P1 _ _ _ (Option.some.inj e) (.int _ _))
 | mul=>exact cq hz
 | mod=>
  refine gA hz Rx Ry fun a b t u hz=>Gw hz fun hb e=>?_
  exact mod_int' (Int.ne_of_gt (Int.lt_of_not_ge hb)) (P1 _ _ _ (Option.some.inj e) (.int _ _))
 | pow=>
  refine gA hz Rx Ry fun a b t u hz=>gf hz fun hb e=>jF hb fun hb h1=>jF hb fun ha h0=>?_
  refine pow_int (of_decide_eq_true h0) ?_ (P1 _ _ _ (Option.some.inj e) (.int _ _))
  have:=pU b.toNat (Int.toNat_le.mpr (of_decide_eq_true h1))
  rw [Int.toNat_of_nonneg (of_decide_eq_true h0)] at this
  refine (Bool.or_eq_true_iff.mp ha).elim (fun e=>?_) fun e=>?_
  ·exact of_decide_eq_true e▸this.1
  ·exact of_decide_eq_true e▸this.2
noncomputable def Rd(h:Heap)(val:Value)(n:Nat)(d:PyData):Prop:=(∃ as,Reads h val d as)∧d.canLay0=true∧d.depth≤n
theorem oG{h:Heap}{val:Value}{v:V}{d:PyData}(R:VR g val v)(q:rS v=some d)(n:Nat):Rd h val n d:=by
 have z:∀ {d:PyData},d.depth=0→d.depth≤n:=fun e=>e▸Nat.zero_le n
 refine ln q (fun q=>gf q fun c e=>?_) fun q=>ln q (fun q=>mn q fun b hb e=>?_) fun q=>ln q (fun q=>mn q fun i hi e=>?_) fun q=>cV q fun x hx q=>gf q fun c e=>?_
 ·have R:=jX c▸R
  refine Option.some.inj e▸R.eN ?_
  exact ⟨⟨_,.none⟩,rfl,z rfl⟩
 ·refine e▸R.bool' hb ?_
  exact ⟨⟨_,.bool b⟩,rfl,z rfl⟩
 ·refine e▸R.int' hi fun t=>?_
  exact ⟨⟨_,.int i t⟩,rfl,z rfl⟩
 ·refine Option.some.inj e▸R.str' hx fun t=>?_
  exact ⟨⟨_,.str x t⟩,c,z rfl⟩
theorem reads_all{h:Heap}{n:Nat}(ih:∀ {val:Value} {v:V} {d:PyData},VR g val v→mW σ n v=some d→Rd h val n d):∀ {l:List V} {vs:List Value} {ds:List PyData},eC g vs l→jG (mW σ n) l=some ds→(∃ as,ReadsAll h vs ds as)∧PyData.canLayAll0 ds=true∧PyData.depthAll ds≤n:=by
 intro l
 induction l with
 | nil=>
  intro vs ds R q
  refine R.eNil ?_
  exact Option.some.inj q▸⟨⟨_,.nil⟩,rfl,Nat.zero_le n⟩
 | cons v l i2=>
  intro vs ds R q
  refine cV q fun d h1 q=>mn q fun ds' h2 e=>R.eCons fun val us R1 R2=>?_
  refine (ih R1 h1).elim fun a c=>a.elim fun as ra=>(i2 R2 h2).elim fun a' c'=>a'.elim fun bs rb=>?_
  exact e▸⟨⟨_,.cons ra rb⟩,(Bool.and_eq_true _ _).mpr ⟨c.1,c'.1⟩,Nat.max_le.mpr ⟨c.2,c'.2⟩⟩
theorem rZ(H:HI X.w X.base g oth σ s.heap):∀ (n:Nat) {val:Value} {v:V} {d:PyData},VR g val v→mW σ n v=some d→Rd s.heap val n d:=by
 intro n
 induction n with
 | zero=>exact fun R q=>oG R q 0
 | succ n ih=>
  intro val v d R q
  refine ln q (fun q=>oG R q _) fun q=>ln q (fun q=>cV q fun l hl q=>mn q fun ds hd e=>?_) fun q=>cV q fun l hl q=>mn q fun ds hd e=>?_
  ·refine R.tup' H hl fun a vs ev T Rs z9=>T.elim fun o t=>t.2.2.elim fun m hm=>(reads_all ih Rs hd).elim fun ra c=>ra.elim fun as ra=>?_
   exact e▸ev▸⟨⟨_,.tuple t.1 t.2.1 hm ra⟩,c.1,Nat.succ_le_succ c.2⟩
  ·have f:∀ {a:Addr} {vs:List Value},val=.ref a→s.heap.IsList a vs.toArray→eC g vs l→Rd s.heap val (n+1) d:=fun ev T Rs=>T.elim fun o t=>t.2.2.elim fun m hm=>(reads_all ih Rs hd).elim fun ra c=>ra.elim fun as ra=>
    e▸ev▸⟨⟨_,.list t.1 t.2.1 hm ra⟩,c.1,Nat.succ_le_succ c.2⟩
   exact ln hl (fun hl=>R.lst' H hl fun a vs ev T Rs z9=>f ev T Rs) fun hl=>R.ref' H hl fun a vs ev T Rs z9=>f ev T Rs
end
end Mine.Internal
end
section
open PySem PySem.W PyProof.Rows
namespace Mine.Internal
section
variable {X:Cx} {A:Around} {env:Env} {nm:List Str} {g:Gh} {oth:List (Addr×Obj)} {σ:St} {s:Shared}
theorem xQ(hu:A.units+8<cLine){d d':PyData}(h:d.depth≤8):A.units+min d.depth d'.depth<cLine:=by
 have:min d.depth d'.depth≤8:=Nat.le_trans (Nat.min_le_left _ _) h
 lia
theorem Au{x y:V}{b:Bool}(h:CV σ x y=some b)(H:HI X.w X.base g oth σ s.heap){vx vy:Value}(Rx:VR g vx x)(Ry:VR g vy y){C:Prop}
  (k:∀ d d' as bs,Reads s.heap vx d as→Reads s.heap vy d' bs→d.canLay0=true→d'.canLay0=true→d.depth≤8→PyData.eqv d d'=b→C):C:=
 cV h fun d h1 h=>mn h fun d' h2 e=>gk (rZ H 8 Rx h1) fun a c p=>gk (rZ H 8 Ry h2) fun a' c' z9=>a.elim fun as ra=>a'.elim fun bs rb=>k d d' as bs ra rb c c' p e
theorem og(x y:Str):(x == y)=decide (x=y):=by
 by_cases h:x=y
 ·subst h;simp
 ·simp only [decide_eq_false h];simpa using h
theorem Av(x y:Int):(x == y)=decide (x=y):=by
 by_cases h:x=y
 ·subst h;simp
 ·simp only [decide_eq_false h];simpa using h
theorem vh{x y:V}{z:Bool}(hz:CW σ x y=some z)(H:HI X.w X.base g oth σ s.heap){vx vy:Value}(Rx:VR g vx x)(Ry:VR g vy y){D:Value→Value→Bool→Prop}(d1:∀ a b t u,D (.str a t) (.str b u) (a == b))(d2:∀ a b t u,D (.int a t) (.int b u) (a == b))(d3:∀ a b,D (.bool a) (.bool b) (a == b))
  (d4:∀ d d' as bs,Reads s.heap vx d as→Reads s.heap vy d' bs→d.canLay0=true→d'.canLay0=true→d.depth≤8→D vx vy (PyData.eqv d d')):D vx vy z:=by
 refine ln hz (fun hz=>?_) fun hz=>ln hz (fun hz=>?_) fun hz=>ln hz (fun hz=>cV hz fun a h1 hz=>cV hz fun b h2 e=>?_) fun hz=>Au hz H Rx Ry fun d d' as bs q1 q2 q3 q4 q5 e=>e▸d4 d d' as bs q1 q2 q3 q4 q5
 ·exact qX hz Rx Ry (C:=fun vx vy=>D vx vy z) fun a b t u e=>Option.some.inj e▸og a b▸d1 a b t u
 ·exact gA hz Rx Ry (C:=fun vx vy=>D vx vy z) fun a b t u e=>Option.some.inj e▸Av a b▸d2 a b t u
 ·exact Rx.bool' h1 (C:=fun vx=>D vx vy z) (Ry.bool' h2 (C:=fun vy=>D _ vy z) (Option.some.inj e▸d3 a b))
theorem Df(hu:A.units+8<cLine){x y:V}{z:Bool}(hz:CW σ x y=some z)(H:HI X.w X.base g oth σ s.heap){vx vy:Value}(Rx:VR g vx x)(Ry:VR g vy y){Q E:Value→Shared→Prop}:Q (.bool z) s→wpAny X.M A (compareOp .Eq vx vy) Q E s:=
 vh hz H Rx Ry (D:=fun vx vy z=>Q (.bool z) s→wpAny X.M A (compareOp .Eq vx vy) Q E s) (fun z9 z9 z9 z9=>PyProof.Rows.eq_str) (fun z9 z9 z9 z9=>PyProof.Rows.eq_int) (fun z9 z9=>PyProof.Rows.eq_bool) fun z9 z9 z9 z9 ra rb c1 c2 p=>SeqAt.compareEq_reads ra rb c1 c2 (xQ hu p)
theorem Dg(hu:A.units+8<cLine){x y:V}{z:Bool}(hz:CW σ x y=some z)(H:HI X.w X.base g oth σ s.heap){vx vy:Value}(Rx:VR g vx x)(Ry:VR g vy y){Q E:Value→Shared→Prop}:Q (.bool (!z)) s→wpAny X.M A (compareOp .NotEq vx vy) Q E s:=
 vh hz H Rx Ry (D:=fun vx vy z=>Q (.bool (!z)) s→wpAny X.M A (compareOp .NotEq vx vy) Q E s) (fun z9 z9 z9 z9=>PyProof.Rows.ne_str) (fun z9 z9 z9 z9=>PyProof.Rows.ne_int) (fun z9 z9=>PyProof.Rows.ne_bool) fun z9 z9 z9 z9 ra rb c1 c2 p=>SeqAt.compareNe_reads ra rb c1 c2 (xQ hu p)
theorem jI:∀ {l:List V} {ss:List Str} {vs:List Value},ed l=some ss→eC g vs l→∃ ts:List (Str×Tok),vs=strValues ts∧ts.map (·.1)=ss:=by
 intro l
 induction l with
 | nil=>exact fun h R=>R.eNil (C:=fun vs=>∃ ts:List (Str×Tok),vs=strValues ts∧ts.map (·.1)=_) ⟨[],rfl,Option.some.inj h⟩
 | cons v l ih=>
  intro ss vs h R
  refine cV h fun x hx h=>mn h fun ys hy e=>?_
  refine R.eCons fun val us a b=>a.str' hx fun t=>?_
  exact ob_1_2 (ih hy b) fun ts e1 e2=>⟨(x,t)::ts,e1▸rfl,e▸e2▸rfl⟩
theorem oH{l:List V}{ss:List Str}{vs:List Value}(h:ed l=some ss)(R:eC g vs l):∀ v∈vs,∃ y t,v=.str y t:=by
 refine ob_1_2 (jI h R) fun ts hq75_1 z9=>?_
 subst hq75_1
 intro v hv
 refine ob_1_2 (List.mem_map.mp hv) fun p z9 hq77_2=>?_
 subst hq77_2
 exact ⟨_,_,rfl⟩
noncomputable def jS(s:Str):Value→Bool
 | .str y _=>decide (y=s)
 | _=>false
noncomputable def lu(s:Bool):Value→Bool
 | .bool y=>y == s
 | _=>false
theorem tX{l:List V}{ss:List Str}{vs:List Value}(h:ed l=some ss)(R:eC g vs l)(x:Str):vs.any (jS x)=ss.any fun y=>decide (y=x):=by
 refine ob_1_2 (jI h R) fun ts hq86_1 hq86_2=>?_
 subst hq86_1
 subst hq86_2
 unfold strValues
 simp only [List.any_map,List.any_map];rfl
theorem tY{l:List V}{ss:List Str}{vs:List Value}(h:ed l=some ss)(R:eC g vs l)(x:Str):vs.countP (jS x)=(ss.filter fun y=>decide (y=x)).length:=by
 refine ob_1_2 (jI h R) fun ts hq90_1 hq90_2=>?_
 subst hq90_1
 subst hq90_2
 unfold strValues
 simp only [List.countP_map,← List.countP_eq_length_filter,List.countP_map];rfl
theorem r8:∀ {l:List V} {ss:List Bool} {vs:List Value},mo l=some ss→eC g vs l→(∀ v∈vs,∃ y,v=.bool y)∧∀ x,vs.any (lu x)=ss.any fun y=>y == x:=by
 intro l
 induction l with
 | nil=>exact fun {ss vs} h R=>R.eNil (C:=fun vs=>(∀ v∈vs,∃ y,v=.bool y)∧∀ x,vs.any (lu x)=ss.any fun y=>y == x) ⟨(fun z9 hv=>nomatch hv),fun x=>congrArg (fun ss=>ss.any fun y=>y == x) (Option.some.inj h)⟩
 | cons v l ih=>
  intro ss vs h R
  refine cV h fun x hx h=>mn h fun ys hy e=>?_
  refine R.eCons fun val us a b=>a.bool' hx ?_
  have i:=ih hy b
  exact ⟨fun v hv=>(List.mem_cons.mp hv).elim (fun e=>⟨_,e⟩) (i.1 v),fun z=>e▸(congrArg (x == z || ·) (i.2 z))⟩
theorem E8{w:World}{e:DictEntry}{k:Str}(a:Cr w e k)(x:Str):Value.isStrOf x e.key=decide (k=x):=by
 obtain ⟨⟨t,hk⟩,hh⟩:=a
 rw [hk]
 exact og k x
theorem DR.look{w:World}{es:List DictEntry}{d:List (Str×V)}(R:DR w g es d)(x:Str):(∀ v,look x d=some v→∃ e,es.find? (fun e=>Value.isStrOf x e.key)=some e∧VR g e.val v)∧(look x d=none→es.find? (fun e=>Value.isStrOf x e.key)=none):=by
 induction R with
 | nil=>exact ⟨fun v h=>cq h,fun z9=>rfl⟩
 | @cons e k y es d a b c ih=>
  unfold Mine.Internal.look
  simp only [List.find?_cons,E8 a x]
  by_cases q:k=x
  ·simp only [if_pos q,decide_eq_true q]
   exact ⟨fun v h=>⟨e,rfl,Option.some.inj h▸b⟩,fun h=>Gv h⟩
  ·simp only [if_neg q,decide_eq_false q]
   exact ih
theorem DR.keys{w:World}{prog:Program}{es:List DictEntry}{d:List (Str×V)}(R:DR w g es d):∀ e∈es,∃ x,(strKind prog w).is x e.key=true∧e.hash=(strKind prog w).hash x:=by
 induction R with
 | nil=>exact fun e he=>nomatch he
 | @cons e k y es d a b c ih=>
  refine fun e' he=>(List.mem_cons.mp he).elim (fun q=>q▸a.1.elim fun t hk=>⟨k,hk▸strKind_is prog w k t,a.2⟩) (ih e')
theorem vi(H:HI X.w X.base g oth σ s.heap){val:Value}{x:V}{d:List (Str×V)}(R:VR g val x)(hk:(we x).bind (kP σ)=some d){C:Prop}
  (k:∀ a es,val=.ref a→a∈g.ca→s.heap.MapOf (strKind X.prog X.w) a (fun k=>findBy Value.isStrOf (List.toArray es) k)→DR X.w g es d→C):C:=
 cV hk fun n h1 h2=>ob_1_2 (qe h1▸R).inv fun a e ha=>ob_2_3 (H.cells _ _ (lY h2)) fun b o x y z=>ob_2_5 z.inv fun es n p q r t z9=>
  k a es e (List.mem_of_getElem? ha) ⟨o,_,_,Option.some.inj (x.symm.trans ha)▸y,⟨p,q.1,q.2⟩,r,fun e he=>t.keys e (List.mem_toArray.mp he),fun z9=>rfl⟩ t
theorem Dh(hs:∃ o,X.base.get? sysModules=some o)(H:HI X.w X.base g oth σ s.heap){a:Addr}(ha:a∈g.ca):(a == sysModules)=false:=by
 obtain ⟨o,e⟩:=hs
 have:=(H.sep a (List.mem_append_left _ ha)).1
 by_cases q:a=sysModules
 ·simp only [q,e] at this;cases this
 ·simpa using q
theorem qh{v:Value}(x:Str)(t:Tok)(hv:∃ y t,v=.str y t):SeqAt.EqAt A s v (.str x t) (jS x v):=by
 refine ob_2_1 hv fun y u hq155_2=>?_
 subst hq155_2
 have:=SeqAt.EqAt.str_str (A:=A) (s:=s) y u x t
 simp only [og] at this
 exact this
theorem oK{v:Value}(x:Bool)(hv:∃ y,v=.bool y):SeqAt.EqAt A s v (.bool x) (lu x v):=by
 obtain ⟨y,rfl⟩:=hv
 exact SeqAt.EqAt.bool_bool y x
theorem xR(hs:∃ o,X.base.get? sysModules=some o){x y:V}{z:Bool}(hz:GZ σ x y=some z)(H:HI X.w X.base g oth σ s.heap){vx vy:Value}(Rx:VR g vx x)(Ry:VR g vy y){Q E:Value→Shared→Prop} :
  ((∀ tk,Q (.bool z) { s with toks:=tk })→wpAny X.M A (compareOp .In vx vy) Q E s)∧((∀ tk,Q (.bool (!z)) { s with toks:=tk })→wpAny X.M A (compareOp .NotIn vx vy) Q E s):=by
 refine ln hz (fun hz=>cV hz fun x0 hx hz=>?_) fun hz=>cV hz fun x0 hx hz=>cV hz fun l hl hz=>mn hz fun ss h1 e=>?_
 ·refine Rx.str' hx fun t0=>?_
  refine ln hz (fun hz=>mn hz fun y0 hy e=>?_) fun hz=>ln hz (fun hz=>mn hz fun d hd e=>?_) fun hz=>cV hz fun l hl hz=>mn hz fun ss h1 e=>?_
  ·refine e▸Ry.str' hy fun t1=>?_
   exact ⟨fun P=>SB.contains (P s.toks),fun P=>SB.notContains (P s.toks)⟩
  ·refine vi H Ry hd fun a es ey ha hm D=>?_
   have lk:=D.look x0
   have e2:(findBy Value.isStrOf (List.toArray es) x0).isSome=z:=by
    unfold findBy
    rw [List.find?_toArray]
    refine fH (Mine.Internal.look x0 d) (fun q=>?_) fun v q=>?_
    ·rw [lk.2 q,← e,q];rfl
    ·rw [q] at e
     exact (lk.1 v q).elim fun e' h=>h.1▸e
   have ne:=Dh hs H ha
   exact ey▸⟨fun P=>wpAny_in_of (strKind_is X.prog X.w x0 t0) ne hm (e2.symm▸P _),fun P=>wpAny_notIn_of (strKind_is X.prog X.w x0 t0) ne hm (e2.symm▸P _)⟩
  ·have Rs':∀ {vs},eC g vs l→(∀ y∈vs.toArray,SeqAt.EqAt A.in1 s y (.str x0 t0) (jS x0 y))∧vs.toArray.any (jS x0)=z:=fun Rs=>⟨fun y hy=>qh x0 t0 (oH h1 Rs y (List.mem_toArray.mp hy)),List.any_toArray.trans ((tX h1 Rs x0).trans e)⟩
   refine ln hl (fun hl=>Ry.tup' H hl fun a vs ey T Rs z9=>?_) fun hl=>Ry.lst' H hl fun a vs ey T Rs z9=>?_
   ·exact ey▸⟨fun P=>SeqAt.in_tupleAt (jS x0) T (Rs' Rs).1 ((Rs' Rs).2.symm▸P s.toks),fun P=>SeqAt.notIn_tupleAt (jS x0) T (Rs' Rs).1 ((Rs' Rs).2.symm▸P s.toks)⟩
   ·exact ey▸⟨fun P=>SeqAt.in_listAt (jS x0) T (Rs' Rs).1 ((Rs' Rs).2.symm▸P s.toks),fun P=>SeqAt.notIn_listAt (jS x0) T (Rs' Rs).1 ((Rs' Rs).2.symm▸P s.toks)⟩
 ·refine Rx.bool' hx ?_
  refine Ry.tup' H hl fun a vs ey T Rs z9=>?_
  have i:=r8 h1 Rs
  have i2:vs.toArray.any (lu x0)=z:=List.any_toArray.trans ((i.2 x0).trans e)
  exact ey▸⟨fun P=>SeqAt.in_tupleAt (lu x0) T (fun y hy=>oK x0 (i.1 y (List.mem_toArray.mp hy))) (i2.symm▸P s.toks),fun P=>SeqAt.notIn_tupleAt (lu x0) T (fun y hy=>oK x0 (i.1 y (List.mem_toArray.mp hy))) (i2.symm▸P s.toks)⟩
theorem oM{v:Value}{x:V}(R:VR g v x):(v == .none)=isNone x:=by cases R<;>rfl
noncomputable def E9:rP→CmpOp
 | .eq=>.Eq
 | .ne=>.NotEq
 | .lt=>.Lt
 | .le=>.LtE
 | .gt=>.Gt
 | .ge=>.GtE
 | .isin=>.In
 | .notin=>.NotIn
 | .is=>.Is
 | .isnot=>.IsNot
theorem Aw{op:CmpOp}{o:rP}(h:xJ op=some o):op=E9 o:=by
 cases op<;>first | exact cq h | exact Option.some.inj h▸rfl
theorem lw(hs:∃ o,X.base.get? sysModules=some o)(hu:A.units+8<cLine){op:CmpOp}{o:rP}(ho:xJ op=some o)(g:Gh)(oth:List (Addr×Obj))(σ:St)(x y:V)(z:Bool)(hz:dG σ o x y=some z)(s:Shared)(H:HI X.w X.base g oth σ s.heap)
  (vx vy:Value) (Rx:VR g vx x) (Ry:VR g vy y) (Q E:Value→Shared→Prop) (P:eh X g oth s Q E (.ok (.bool z) σ)):wpAny X.M A (compareOp op vx vy) Q E s:=by
 have P0:∀ tk,Q (.bool z) { s with toks:=tk }:=fun tk=>P _ s.heap tk g (.refl g) H (.bool z)
 clear P
 obtain rfl:=Aw ho
 clear ho
 have P1:∀ {w tk},some w=some z→Q (.bool w) { s with toks:=tk }:=fun e=>Option.some.inj e▸P0 _
 cases o with
 | eq=>exact Df hu hz H Rx Ry (P0 s.toks)
 | ne=>exact mn hz fun b h1 e=>Dg hu h1 H Rx Ry (e.symm▸P0 s.toks)
 | lt=>refine gA hz Rx Ry fun a b t u e=>?_;exact PyProof.Rows.lt_int (P1 e)
 | le=>refine gA hz Rx Ry fun a b t u e=>?_;exact PyProof.Rows.le_int (P1 e)
 | gt=>refine gA hz Rx Ry fun a b t u e=>?_;exact PyProof.Rows.gt_int (P1 e)
 | ge=>refine gA hz Rx Ry fun a b t u e=>?_;exact PyProof.Rows.ge_int (P1 e)
 | isin=>exact (xR hs hz H Rx Ry).1 P0
 | notin=>exact mn hz fun b h1 e=>(xR hs h1 H Rx Ry).2 (e.symm▸P0)
 | is=>
  refine gf hz fun c e=>VR.eN (jX c▸Ry) (C:=fun vy=>wpAny X.M A (compareOp .Is vx vy) Q E s) ?_
  exact is_none (oM Rx▸P1 e)
 | isnot=>
  refine gf hz fun c e=>VR.eN (jX c▸Ry) (C:=fun vy=>wpAny X.M A (compareOp .IsNot vx vy) Q E s) ?_
  exact isNot_none (oM Rx▸P1 e)
end
end Mine.Internal
end
section
open PySem PySem.W PyProof.Rows
namespace Mine.Internal
section
variable {X:Cx} {A:Around} {env:Env} {nm:List Str} {g:Gh} {oth:List (Addr×Obj)} {σ:St} {s:Shared}
theorem oN{n:Nat}(h:n≤sizeLine):(n:Int)<2 ^ 63:=by
 simp only [sizeLine_eq] at h;lia
theorem m6{k:Int}{m:Nat}(h:lO k m=true):0≤k∧k<m:=by
 cases k with
 | ofNat n=>exact ⟨Int.natCast_nonneg n,Int.ofNat_lt.mpr (Nat.le_of_ble_eq_true h)⟩
 | negSucc n=>exact j9 h
theorem qi{k:Int}(h:lO k 1000000=true):0≤k∧k<1000000:=m6 h
theorem r9{k:Int}{n:Nat}(h0:0≤k)(h1:k.toNat<n):seqIndex? k n=some k.toNat:=by
 unfold seqIndex?
 have h2:k<(n:Int):=(Int.toNat_of_nonneg h0)▸Int.ofNat_lt.mpr h1
 rw [if_neg (Int.not_lt.mpr h0)]
 exact if_pos ((Bool.and_eq_true _ _).mpr ⟨decide_eq_true h0,decide_eq_true h2⟩)
theorem xS{value slice:Expr}(hsl:∀ a b c d,slice≠.Slice a b c d)(o i:Value):subscripted slice false o i=operate [o,i] (getItem o i):=by
 cases slice<;>first | rfl | exact absurd rfl (hsl _ _ _ _)
theorem jJ{x:V}{l:List V}(h:dH σ x=some l)(H:HI X.w X.base g oth σ s.heap){vx:Value}(Rx:VR g vx x){C:Prop}
  (k1:∀ a vs,vx=.ref a→IsTup s.heap a vs.toArray→eC g vs l→vs.length≤sizeLine→C) (k2:∀ a vs,vx=.ref a→s.heap.IsList a vs.toArray→eC g vs l→vs.length≤sizeLine→C):C:=
 ln h (fun h=>Rx.tup' H h k1) fun h=>ln h (fun h=>Rx.lst' H h k2) fun h=>Rx.ref' H h k2
theorem Ax{value slice:Expr}(hsl:∀ a b c d,slice≠.Slice a b c d){x y z:V}(hz:eA σ x y=some z)(H:HI X.w X.base g oth σ s.heap){vx vy:Value}(Rx:VR g vx x)(Ry:VR g vy y){Q E:Value→Shared→Prop}(P:eh X g oth s Q E (.ok z σ)) :
  wpAny X.M A (subscriptTail value slice vx vy) Q E s:=by
 have hs:=xS (value:=value) hsl
 refine ln hz (fun hz=>cV hz fun k hk hz=>gf hz fun hb hz=>?_) fun hz=>cV hz fun k hk hz=>cV hz fun d hd hz=>?_
 ·refine Ry.int' hk fun t0=>?_
  have hn:=qi hb
  refine ln hz (fun hz=>cV hz fun l hl hz=>?_) fun hz=>cV hz fun x0 hx hz=>gf hz fun hc e=>?_
  ·refine jJ hl H Rx (fun a vs ex T Rs sz=>?_) fun a vs ex T Rs sz=>?_
   ·refine ob_1_2 (Rs.get hz) fun v hv Rv=>?_
    have hl:k.toNat<vs.length:=(List.getElem?_eq_some_iff.mp hv).1
    clear hsl
    exact ex▸item_tupleT T (by lia) (by lia) (j:=k.toNat) (r9 hn.1 hl) hv (P v s.heap s.toks g (.refl g) H Rv) (hs _ _)
   ·refine ob_1_2 (Rs.get hz) fun v hv Rv=>?_
    exact ex▸tail_any T.typeIs slot_list_getitem.lookup (wpAny_getItem_list T hn.1 (by lia) (List.getElem?_toArray.trans hv) (P v s.heap s.toks g (.refl g) H Rv)) (hs _ _)
  ·refine Rx.str' hx fun t1=>?_
   exact tail_any (typeIs_str s x0 t1) F.slot_str_getitem.lookup (SB.getItem (by unfold fitsSsize;simp;lia) hc (P _ s.heap _ g (.refl g) H (Option.some.inj e▸.str _ _))) (hs _ _)
 ·refine Ry.str' hk fun t0=>?_
  refine vi H Rx hd fun a es ex ha hm D=>?_
  refine ob_1_2 ((D.look k).1 z hz) fun e h1 Re=>?_
  have hf:findBy Value.isStrOf (List.toArray es) k=some e.val:=(congrArg (Option.map DictEntry.val) (List.find?_toArray _ _)).trans (congrArg (Option.map DictEntry.val) h1)
  exact ex▸tail_any hm.typeIs slot_dict_getitem.lookup (wpAny_getItem_of (strKind_is X.prog X.w k t0) hm hf (P e.val s.heap _ g (.refl g) H Re)) (hs _ _)
theorem Di{a b:Expr}{pa pb:PE}{pos:Pos}(Ja:JE X A env nm a pa)(Jb:JE X A env nm b pb)(hsl:∀ x y c d,b≠.Slice x y c d):JE X A env nm (.Subscript a b pos) (.sub pa pb):=by
 intro ρ σ r hr g oth F s Q E H P
 refine Subscript_ (Ja.step (aH.symm.trans hr) F H P.exc fun x σ1 hr1 vx h1 tk1 g1 k1 H1 R1=>?_)
 refine Jb.step hr1 (F.mono k1) H1 (P.at k1 h1 tk1).exc fun y σ2 hr2 vy h2 tk2 g2 k2 H2 R2=>?_
 exact rR hr2 ((P.at k1 h1 tk1).at k2 h2 tk2) fun z hz=>Ax (s:={ s with heap:=h2,toks:=tk2 }) hsl hz H2 (R1.mono k2) R2
theorem xT{α β:Type}{vs:List α}{l:List β}(e:vs.length=l.length):(!vs.toArray.isEmpty)=!l.isEmpty:=by
 cases l<;>cases vs<;>first | rfl | exact nomatch e
theorem LR.own{v:Value}{x:V}{l:List V}(R:LR g oth v x)(h:kz x=some l):gl g oth v l:=by
 obtain rfl:=oE h
 exact R
theorem gl.lst{v:Value}{l:List V}(R:gl g oth v l)(H:HI X.w X.base g oth σ s.heap){C:Prop}(k:∀ a vs,v=.ref a→s.heap.IsList a vs.toArray→eC g vs l→vs.length≤sizeLine→C):C:=by
 obtain ⟨ha,hc,hd,Rs⟩:=R
 exact (H.hoth _ ha).1.elim fun sl e=>k _ _ rfl ⟨_,e,hc.1,_,hd.1⟩ Rs hd.2
theorem jY{x:V}{b:Bool}(hz:eF σ x=some b)(H:HI X.w X.base g oth σ s.heap){vx:Value}(Rx:LR g oth vx x){Q:Bool→Shared→Prop}{E:Value→Shared→Prop}(P:∀ tk,Q b { s with toks:=tk }):wpAny X.M A (truthy vx) Q E s:=by
 have L:∀ {l:List V} a vs,vx=.ref a→s.heap.IsList a vs.toArray→eC g vs l→vs.length≤sizeLine→(!l.isEmpty)=b→wpAny X.M A (truthy vx) Q E s:=fun a vs ev T Rs sz e=>
  ev▸wpAny_truthy_list T (List.size_toArray ..▸oN sz) ((xT Rs.length).trans e▸P _)
 have N:∀ {α:Type} {f:V→Option α} {a:α},f x=some a→(∀ l,f (.own l)=none)→VR g vx x:=fun h n=>LR.vr Rx fun q=>by
  cases x<;>first | exact j9 q | exact cq ((n _).symm.trans h)
 refine ln hz (fun hz=>gf hz fun c e=>?_) fun hz=>ln hz (fun hz=>?_) fun hz=>ln hz (fun hz=>mn hz fun i hi e=>?_) fun hz=>ln hz (fun hz=>mn hz fun l hl e=>?_) fun hz=>mn hz fun l hl e=>?_
 ·have R:VR g vx .none:=(congrArg (LR g oth vx) (jX c)).mp Rx
  refine R.eN ?_
  exact wpAny_pure (Option.some.inj e▸P s.toks)
 ·refine (N hz fun z9=>rfl).bool' hz ?_
  exact wpAny_truthy_bool (P s.toks)
 ·refine (N hi fun z9=>rfl).int' hi fun t=>?_
  exact truthy_int (e▸P s.toks)
 ·refine jJ hl H (N hl fun z9=>rfl) (fun a vs ev T Rs sz=>?_) fun a vs ev T Rs sz=>L a vs ev T Rs sz e
  exact ev▸truthy_tuple T (List.size_toArray ..▸oN sz) ((xT Rs.length).trans e▸P _)
 ·exact (Rx.own hl).lst H fun a vs ev T Rs sz=>L a vs ev T Rs sz e
end
end Mine.Internal
end
section
open PySem PySem.W PyProof.Rows
namespace Mine.Internal
noncomputable def JL(X:Cx)(A:Around)(env:Env)(nm:List Str)(es:List Expr)(ps:List PE):Prop:=
 ∀ ρ σ r,lJ X.C ρ ps σ=some r→∀ g oth,eV A g oth env nm ρ→∀ s Q E pos,HI X.w X.base g oth σ s.heap→qd X g oth s Q E r→wpAny X.M A (spliced (backTo pos (starEach es env))) Q E s
section
variable {X:Cx} {A:Around} {env:Env} {nm:List Str} {g:Gh} {oth:List (Addr×Obj)} {σ:St} {s:Shared}
theorem VR.lr{v:Value}{x:V}(R:VR g v x):LR g oth v x:=by
 cases x<;>first | exact R | (cases R;done)
theorem qY:JL X A env nm [] []:=by
 intro ρ σ r hr g oth F s Q E pos H P
 obtain rfl:=Option.some.inj hr
 exact wpAny_items_nil (P [] s.heap s.toks g (.refl g) H .nil)
theorem eT{e:Expr}{es:List Expr}(h:bw e=true):starEach (e::es) env=(false,eval e env)::starEach es env:=by
 cases e<;>first | rfl | exact j9 h
theorem lx{e:Expr}{es:List Expr}{p:PE}{ps:List PE}(hn:bw e=true)(Je:JE X A env nm e p)(Js:JL X A env nm es ps):JL X A env nm (e::es) (p::ps):=by
 intro ρ σ r hr g oth F s Q E pos H P
 refine wpAny_items_cons (Je.step hr F H P.exc fun x σ1 hr1 vx h1 tk1 g1 k1 H1 R1=>?_) (eT hn)
 refine rQ hr1 (fun v σ' e1 e2=>?_) fun xs σ' e1 e2=>?_
 ·subst e2
  exact Js ρ σ1 _ e1 g1 oth (F.mono k1) { s with heap:=h1,toks:=tk1 } _ E pos H1 fun e h tk g' k H' R Fl=>P e h tk g' (k1.trans k) H' R Fl
 ·obtain rfl:=Option.some.inj e2
  exact Js ρ σ1 _ e1 g1 oth (F.mono k1) { s with heap:=h1,toks:=tk1 } _ E pos H1 fun vs h tk g' k H' R=>P (vx::vs) h tk g' (k1.trans k) H' (.cons (R1.mono k) R)
theorem JL.step{es:List Expr}{ps:List PE}(J:JL X A env nm es ps){α:Type}{ρ:ck}{σ:St}{f:List V→St→cR α}{r:jE α}(hr:(lJ X.C ρ ps σ).bind f=some r)
  {g:Gh} {oth:List (Addr×Obj)} (F:eV A g oth env nm ρ) {s:Shared} {Q1:List Value→Shared→Prop} {E:Value→Shared→Prop} {pos:Pos} (H:HI X.w X.base g oth σ s.heap)
  (PE:∀ v σ',r=.exc v σ'→∀ e h tk g',g.le g'→HI X.w X.base g' oth σ' h→VR g' (.ref e) v→kD X.base e h→E (.ref e) { s with heap:=h,toks:=tk })
  (k:∀ v σ',f v σ'=some r→∀ vs h tk g',g.le g'→HI X.w X.base g' oth σ' h→eC g' vs v→Q1 vs { s with heap:=h,toks:=tk }) :
  wpAny X.M A (spliced (backTo pos (starEach es env))) Q1 E s:=by
 refine rQ hr (fun v σ' h1 h2=>?_) fun v σ' h1 h2=>?_
 ·exact J ρ σ _ h1 g oth F s Q1 E pos H (PE v σ' h2)
 ·exact J ρ σ _ h1 g oth F s Q1 E pos H fun val h tk g' kk H' R=>k v σ' h2 val h tk g' kk H' R
theorem lZ{C:Nat→List V→St→cR V}{ρ:ck}:∀ {ps:List PE} {σ σ':St} {vs:List V},lJ C ρ ps σ=some (.ok vs σ')→vs.length=ps.length:=by
 intro ps
 induction ps with
 | nil=>intro σ σ' vs h;cases h;rfl
 | cons p ps ih=>
  intro σ σ' vs h
  refine rQ (q_cons.symm.trans h) (fun v s1 e1 e2=>?_) fun v s1 e1 e2=>?_
  ·cases e2
  ·refine rQ e2 (fun v2 s2 e3 e4=>?_) fun v2 s2 e3 e4=>?_
   ·cases e4
   ·cases e4
    exact congrArg Nat.succ (ih e3)
theorem xU{es:List Expr}{ps:List PE}{k:Nat}{pos:Pos}(Js:JL X A env nm es ps)(hsz:fl ps.length=true):JE X A env nm (.Tuple es k pos) (.tup ps):=by
 intro ρ σ r hr g oth F s Q E H P
 have hl:=fun vs σ'=>@lZ X.C ρ ps σ σ' vs
 refine rQ hr (fun v σ' h1 h2=>?_) fun v σ' h1 h2=>?_
 ·subst h2
  exact wpAny_Tuple (Js ρ σ _ h1 g oth F s _ E pos H P)
 ·obtain rfl:=Option.some.inj h2
  refine wpAny_Tuple (Js ρ σ _ h1 g oth F s _ E pos H fun vs h tk g' kk H' R=>?_)
  have sz:vs.length≤sizeLine:=by simp only [R.length,hl _ _ h1];exact fh hsz
  exact ⟨sz,n_ (s:={ s with heap:=h,toks:=tk }) H' R sz (P.at kk h tk)⟩
theorem Dj{es:List Expr}{ps:List PE}{pos:Pos}(Js:JL X A env nm es ps)(hsz:fl ps.length=true):JE X A env nm (.List es pos) (.lst ps):=by
 intro ρ σ r hr g oth F s Q E H P
 have hl:=fun vs σ'=>@lZ X.C ρ ps σ σ' vs
 refine rQ hr (fun v σ' h1 h2=>?_) fun v σ' h1 h2=>?_
 ·subst h2
  exact wpAny_List (Js ρ σ _ h1 g oth F s _ E pos H P)
 ·obtain rfl:=Option.some.inj h2
  refine wpAny_List (Js ρ σ _ h1 g oth F s _ E pos H fun vs h tk g' kk H' R=>?_)
  have sz:vs.length≤sizeLine:=by simp only [R.length,hl _ _ h1];exact fh hsz
  exact ⟨sz,qW (M:=X.M) (s:={ s with heap:=h,toks:=tk }) H' R sz (P.at kk h tk)⟩
theorem Dk{es:List Expr}{ps:List PE}{pos:Pos}(Js:JL X A env nm es ps)(hsz:fl ps.length=true):JE X A env nm (.List es pos) (.cel ps):=by
 intro ρ σ r hr g oth F s Q E H P
 have hl:=fun vs σ'=>@lZ X.C ρ ps σ σ' vs
 refine rQ hr (fun v σ' h1 h2=>?_) fun v σ' h1 h2=>?_
 ·subst h2
  exact wpAny_List (Js ρ σ _ h1 g oth F s _ E pos H P)
 ·obtain rfl:=Option.some.inj h2
  refine wpAny_List (Js ρ σ _ h1 g oth F s _ E pos H fun vs h tk g' kk H' R=>?_)
  have sz:vs.length≤sizeLine:=by simp only [R.length,hl _ _ h1];exact fh hsz
  refine ⟨sz,P _ _ tk (g'.addCa h.objs.size) (kk.trans (.addCa ..)) (H'.addCa (Heap.get?_push_size h rfl) (fun z9 z9 e=>Heap.get?_push_of_some _ e) (.list rfl rfl ⟨rfl,sz⟩ R) (Nat.le_refl _)) ?_⟩
  exact .ref (by simp [← H'.len])
theorem Dl{a:Expr}{pa:PE}{pos:Pos}(Ja:JE X A env nm a pa):JE X A env nm (.UnaryOp .Not a pos) (.not pa):=by
 intro ρ σ r hr g oth F s Q E H P
 refine wpAny_UnaryOp (Ja.step hr F H P.exc fun x σ1 hr1 vx h1 tk1 g1 k1 H1 R1=>?_)
 exact EJ hr1 P fun b hb P=>not_of (jY (s:={ s with heap:=h1,toks:=tk1 }) hb H1 (x:=x) R1.lr fun tk=>P _ h1 tk g1 k1 H1 (.bool _))
theorem Dm{a:Expr}{pa:PE}{pos:Pos}(Ja:JT X A env nm a pa):JT X A env nm (.UnaryOp .Not a pos) (.not pa):=by
 intro ρ σ r hr g oth F s Q E H P
 refine rQ hr (fun v σ' h1 h2=>?_) fun v σ' h1 h2=>?_
 ·subst h2
  exact isTrue_not (Ja ρ σ _ h1 g oth F s _ E H P)
 ·obtain rfl:=Option.some.inj h2
  exact isTrue_not (Ja ρ σ _ h1 g oth F s _ E H fun h tk g' k H'=>P h tk g' k H')
theorem Dn{c a b:Expr}{pc pa pb:PE}{pos:Pos}(Jc:JT X A env nm c pc)(Ja:JE X A env nm a pa)(Jb:JE X A env nm b pb):JE X A env nm (.IfExp c a b pos) (.ite pc pa pb):=by
 intro ρ σ r hr g oth F s Q E H P
 refine rQ hr (fun v σ' h1 h2=>?_) fun t σ' h1 h2=>?_
 ·subst h2
  exact wpAny_IfExp (Jc ρ σ _ h1 g oth F s _ E H P)
 ·refine wpAny_IfExp (Jc ρ σ _ h1 g oth F s _ E H fun h tk g' k H'=>?_)
  cases t
  ·exact Jb ρ σ' r h2 g' oth (F.mono k) _ Q E H' (P.at k h tk)
  ·exact Ja ρ σ' r h2 g' oth (F.mono k) _ Q E H' (P.at k h tk)
theorem oO{e:Expr}{p q:PE}(hr0:∀ ρ σ,fw X.C ρ q σ=(ev X.C ρ p σ).bind fun v σ=>lift (eF σ v) σ)(J:JE X A env nm e p)
  (he:∀ whole,isTrue e env whole=(do let v←whole;standAt e.pos;holding [v] (truthy v))):JT X A env nm e q:=by
 intro ρ σ r hr g oth F s Q E H P
 refine wpAny_isTrue_value (J.step ((hr0 ρ σ).symm.trans hr) F H P.exc fun x σ1 hr1 vx h1 tk1 g1 k1 H1 R1=>?_) (he _)
 exact rR hr1 P fun b hb P=>jY (s:={ s with heap:=h1,toks:=tk1 }) hb H1 (x:=x) R1.lr fun tk=>P h1 tk g1 k1 H1
theorem Do{x:Str}{pos:Pos}{i:Nat}(hl:bt env.scope.names x=true)(hi:bD nm x=some i):JT X A env nm (.Name x pos) (.loc i):=by
 intro ρ σ r hr g oth F s Q E H P
 refine rR (xF.symm.trans hr) P fun b hb P=>cV hb fun v hv hb=>(F.has x i v hi hl (jW hv)).elim fun ok q=>q.elim fun val q=>?_
 refine wpAny_isTrue_value (wpAny_Name (fP F.fn ok q.1 H ?_) ok.1) rfl
 exact jY hb H q.2 fun tk=>P s.heap tk g (.refl g) H
theorem Ay{b:Bool}{k:Nat}{pos:Pos}:JT X A env nm (.Constant (.bool b) k pos) (.bool b):=by
 intro ρ σ r hr g oth F s Q E H P
 obtain rfl:=Option.some.inj hr
 exact wpAny_isTrue_value (wpAny_Constant_bool (wpAny_truthy_bool (P s.heap s.toks g (.refl g) H))) rfl
end
end Mine.Internal
end
section
open PySem PySem.W PyProof.Rows
set_option genCtorIdx false
namespace Mine.Internal
section
variable {X:Cx} {A:Around} {env:Env} {nm:List Str} {g:Gh} {oth:List (Addr×Obj)} {σ:St} {s:Shared}
inductive JB (X:Cx) (A:Around) (env:Env) (nm:List Str) (f:PE→PE→PE):List Expr→PE→Prop
 | one {e:Expr} {p:PE}:JE X A env nm e p→JB X A env nm f [e] p
 | more {e e':Expr} {es:List Expr} {p q:PE}:JE X A env nm e p→JB X A env nm f (e'::es) q→JB X A env nm f (e::e'::es) (f p q)
theorem tZ{pos:Pos}{es:List Expr}{p:PE}(J:JB X A env nm .and es p):∀ ρ σ r,ev X.C ρ p σ=some r→∀ g oth,eV A g oth env nm ρ→∀ s Q E,HI X.w X.base g oth σ s.heap→eh X g oth s Q E r→wpAny X.M A (boolOp pos .And (evalEach es env)) Q E s:=by
 induction J with
 | one J=>intro ρ σ r hr g oth F s Q E H P;exact J ρ σ r hr g oth F s Q E H P
 | @more e e' es p q J _ ih=>
  intro ρ σ r hr g oth F s Q E H P
  show wpAny _ _ (do
   let v←eval e env
   standAt pos
   let t←holding [v] (truthy v)
   match BoolOp.And,t with
   | .And,false | .Or,true=>pure v
   | _,_=>boolOp pos .And (evalEach (e'::es) env)) Q E s
  refine wpAny_bind (J.step (EY.symm.trans hr) F H P.exc fun x σ1 hr1 vx h1 tk1 g1 k1 H1 R1=>?_)
  refine wpAny_bind (wpAny_standAt (wpAny_bind (wpAny_holding ?_)))
  refine xN hr1 fun t hb e2=>jY (s:={ s with heap:=h1,toks:=tk1 }) hb H1 R1.lr fun tk=>?_
  cases t with
  | false=>exact wpAny_pure (lQ e2 (D:=eh X g oth s Q E) P vx h1 tk g1 k1 H1 R1)
  | true=>exact ih ρ σ1 r e2 g1 oth (F.mono k1) { s with heap:=h1,toks:=tk } Q E H1 (P.at k1 h1 tk)
theorem wl{pos:Pos}{es:List Expr}{p:PE}(J:JB X A env nm .or es p):∀ ρ σ r,ev X.C ρ p σ=some r→∀ g oth,eV A g oth env nm ρ→∀ s Q E,HI X.w X.base g oth σ s.heap→eh X g oth s Q E r→wpAny X.M A (boolOp pos .Or (evalEach es env)) Q E s:=by
 induction J with
 | one J=>intro ρ σ r hr g oth F s Q E H P;exact J ρ σ r hr g oth F s Q E H P
 | @more e e' es p q J _ ih=>
  intro ρ σ r hr g oth F s Q E H P
  show wpAny _ _ (do
   let v←eval e env
   standAt pos
   let t←holding [v] (truthy v)
   match BoolOp.Or,t with
   | .And,false | .Or,true=>pure v
   | _,_=>boolOp pos .Or (evalEach (e'::es) env)) Q E s
  refine wpAny_bind (J.step (G8.symm.trans hr) F H P.exc fun x σ1 hr1 vx h1 tk1 g1 k1 H1 R1=>?_)
  refine wpAny_bind (wpAny_standAt (wpAny_bind (wpAny_holding ?_)))
  refine xN hr1 fun t hb e2=>jY (s:={ s with heap:=h1,toks:=tk1 }) hb H1 R1.lr fun tk=>?_
  cases t with
  | false=>exact ih ρ σ1 r e2 g1 oth (F.mono k1) { s with heap:=h1,toks:=tk } Q E H1 (P.at k1 h1 tk)
  | true=>exact wpAny_pure (lQ e2 (D:=eh X g oth s Q E) P vx h1 tk g1 k1 H1 R1)
theorem Dp{es:List Expr}{p:PE}{pos:Pos}(J:JB X A env nm .and es p):JE X A env nm (.BoolOp .And es pos) p:=fun ρ σ r hr g oth F s Q E H P=>tZ J ρ σ r hr g oth F s Q E H P
theorem E_{es:List Expr}{p:PE}{pos:Pos}(J:JB X A env nm .or es p):JE X A env nm (.BoolOp .Or es pos) p:=fun ρ σ r hr g oth F s Q E H P=>wl J ρ σ r hr g oth F s Q E H P
inductive Cs (X:Cx) (A:Around) (env:Env) (nm:List Str) (f:PE→PE→PE):List Expr→PE→Prop
 | one {e:Expr} {p:PE}:JT X A env nm e p→Cs X A env nm f [e] p
 | more {e e':Expr} {es:List Expr} {p q:PE}:JT X A env nm e p→Cs X A env nm f (e'::es) q→Cs X A env nm f (e::e'::es) (f p q)
theorem r_{es:List Expr}{p:PE}(J:Cs X A env nm .and es p):∀ ρ σ r,fw X.C ρ p σ=some r→∀ g oth,eV A g oth env nm ρ→∀ s Q E,HI X.w X.base g oth σ s.heap→jH X g oth s Q E r→wpAny X.M A (allTrue .And es env) Q E s:=by
 induction J with
 | @one e p J=>
  intro ρ σ r hr g oth F s Q E H P
  refine wpAny_allTrue_And_cons (J ρ σ r hr g oth F s _ E H ?_)
  cases r with
  | exc v σ'=>exact P
  | ok b σ'=>
   intro h tk g' k H'
   cases b
   ·exact P h tk g' k H'
   ·exact wpAny_allTrue_And_nil (P h tk g' k H')
 | @more e e' es p q J _ ih=>
  intro ρ σ r hr g oth F s Q E H P
  refine rQ (xE.symm.trans hr) (fun v σ' e1 e2=>?_) fun t σ' e1 e2=>?_
  ·subst e2
   exact wpAny_allTrue_And_cons (J ρ σ _ e1 g oth F s _ E H P)
  ·refine wpAny_allTrue_And_cons (J ρ σ _ e1 g oth F s _ E H fun h tk g' k H'=>?_)
   cases t with
   | false=>exact lQ e2 (D:=jH X g oth s Q E) P h tk g' k H'
   | true=>exact ih ρ σ' r e2 g' oth (F.mono k) { s with heap:=h,toks:=tk } Q E H' (P.at k h tk)
theorem t6{es:List Expr}{p:PE}(J:Cs X A env nm .or es p):∀ ρ σ r,fw X.C ρ p σ=some r→∀ g oth,eV A g oth env nm ρ→∀ s Q E,HI X.w X.base g oth σ s.heap→jH X g oth s Q E r→wpAny X.M A (allTrue .Or es env) Q E s:=by
 induction J with
 | @one e p J=>
  intro ρ σ r hr g oth F s Q E H P
  refine wpAny_allTrue_Or_cons (J ρ σ r hr g oth F s _ E H ?_)
  cases r with
  | exc v σ'=>exact P
  | ok b σ'=>
   intro h tk g' k H'
   cases b
   ·exact wpAny_allTrue_Or_nil (P h tk g' k H')
   ·exact P h tk g' k H'
 | @more e e' es p q J _ ih=>
  intro ρ σ r hr g oth F s Q E H P
  refine rQ (Cg.symm.trans hr) (fun v σ' e1 e2=>?_) fun t σ' e1 e2=>?_
  ·subst e2
   exact wpAny_allTrue_Or_cons (J ρ σ _ e1 g oth F s _ E H P)
  ·refine wpAny_allTrue_Or_cons (J ρ σ _ e1 g oth F s _ E H fun h tk g' k H'=>?_)
   cases t with
   | false=>exact ih ρ σ' r e2 g' oth (F.mono k) { s with heap:=h,toks:=tk } Q E H' (P.at k h tk)
   | true=>exact lQ e2 (D:=jH X g oth s Q E) P h tk g' k H'
theorem Dq{es:List Expr}{p:PE}{pos:Pos}(J:Cs X A env nm .and es p):JT X A env nm (.BoolOp .And es pos) p:=fun ρ σ r hr g oth F s Q E H P=>wpAny_isTrue_BoolOp (r_ J ρ σ r hr g oth F s Q E H P)
theorem Fa{es:List Expr}{p:PE}{pos:Pos}(J:Cs X A env nm .or es p):JT X A env nm (.BoolOp .Or es pos) p:=fun ρ σ r hr g oth F s Q E H P=>wpAny_isTrue_BoolOp (t6 J ρ σ r hr g oth F s Q E H P)
noncomputable abbrev Az(X:Cx)(A:Around)(op:CmpOp)(o:rP):Prop:=∀ g oth σ x y z,dG σ o x y=some z→∀ (s:Shared),HI X.w X.base g oth σ s.heap→∀ vx vy,VR g vx x→VR g vy y→∀ Q E,eh X g oth s Q E (.ok (.bool z) σ)→wpAny X.M A (compareOp op vx vy) Q E s
theorem AA{a b c:Expr}{pa pb pc:PE}{op1 op2:CmpOp}{o1 o2:rP}{pos:Pos}(Ja:JE X A env nm a pa)(Jb:JE X A env nm b pb)(Jc:JE X A env nm c pc)(hm:lastMarks [op1,op2] [b,c]=false)
  (h1:Az X A op1 o1) (h2:Az X A op2 o2):JE X A env nm (.Compare a [op1,op2] [b,c] pos) (.cmp2 o1 o2 pa pb pc):=by
 intro ρ σ r hr g oth F s Q E H P
 refine Compare_chain (Ja.step (CZ.symm.trans hr) F H P.exc fun x σ1 hr1 vx h1' tk1 g1 k1 H1 R1=>?_) hm
 refine chain_link (Jb.step hr1 (F.mono k1) H1 (P.at k1 h1' tk1).exc fun y σ2 hr2 vy h2' tk2 g2 k2 H2 R2=>?_)
 refine xN hr2 fun t hz e2=>h1 g2 oth σ2 x y t hz { s with heap:=h2',toks:=tk2 } H2 vx vy (R1.mono k2) R2 _ E fun val h3 tk3 g3 k3 H3 R3=>?_
 refine mw R3 ?_
 have K:=(k1.trans k2).trans k3
 cases t with
 | false=>exact lQ e2 (D:=eh X g oth s Q E) P _ h3 tk3 g3 K H3 R3
 | true=>
  refine chain_last (Jc.step e2 (F.mono K) (s:={ s with heap:=h3,toks:=tk3 }) H3 (P.at K h3 tk3).exc fun w σ4 hr4 vw h4 tk4 g4 k4 H4 R4=>?_)
  exact EJ hr4 (P.at (K.trans k4) h4 tk4) fun z4 hz4=>h2 g4 oth σ4 y w z4 hz4 { s with heap:=h4,toks:=tk4 } H4 vy vw ((R2.mono k3).mono k4) R4 Q E
theorem AB{a b c:Expr}{pa pb pc:PE}{op1 op2:CmpOp}{o1 o2:rP}{pos:Pos}(Ja:JE X A env nm a pa)(Jb:JE X A env nm b pb)(Jc:JE X A env nm c pc)(hm:lastMarks [op1,op2] [b,c]=false)
  (h1:Az X A op1 o1) (h2:Az X A op2 o2):JT X A env nm (.Compare a [op1,op2] [b,c] pos) (.cmp2 o1 o2 pa pb pc):=by
 intro ρ σ r hr g oth F s Q E H P
 refine isTrue_chain (Ja.step (Ac.symm.trans hr) F H P.exc fun x σ1 hr1 vx h1' tk1 g1 k1 H1 R1=>?_) hm
 refine test_link (Jb.step hr1 (F.mono k1) H1 (P.at k1 h1' tk1).exc fun y σ2 hr2 vy h2' tk2 g2 k2 H2 R2=>?_)
 refine xN hr2 fun t hz e2=>h1 g2 oth σ2 x y t hz { s with heap:=h2',toks:=tk2 } H2 vx vy (R1.mono k2) R2 _ E fun val h3 tk3 g3 k3 H3 R3=>?_
 refine mw R3 ?_
 have K:=(k1.trans k2).trans k3
 cases t with
 | false=>exact lQ e2 (D:=jH X g oth s Q E) P h3 tk3 g3 K H3
 | true=>
  refine test_last (Jc.step e2 (F.mono K) (s:={ s with heap:=h3,toks:=tk3 }) H3 (P.at K h3 tk3).exc fun w σ4 hr4 vw h4 tk4 g4 k4 H4 R4=>?_)
  refine rR hr4 (P.at (K.trans k4) h4 tk4) fun z4 hz4 P=>h2 g4 oth σ4 y w z4 hz4 { s with heap:=h4,toks:=tk4 } H4 vy vw ((R2.mono k3).mono k4) R4 _ E fun val h5 tk5 g5 k5 H5 R5=>?_
  exact mw R5 (P h5 tk5 g5 k5 H5)
theorem sa{w:V}{o:Option Int}(h:EF w=some o){v:Value}(R:VR g v w):IsPart v o∧(∃ p:Option (Int×Tok),v=partValue p∧p.map (·.1)=o)∧∀ k,o=some k→0≤k:=by
 refine Or.elim (Decidable.em (isNone w=true)) (fun c=>?_) fun c=>?_
 ·obtain rfl:=Option.some.inj ((if_pos c).symm.trans h)
  refine (jX c▸R).eN ?_
  exact ⟨.none,⟨none,rfl,rfl⟩,fun z9 q=>cq q⟩
 ·refine cV ((if_neg c).symm.trans h) fun k hk h=>gf h fun hb e=>R.int' hk fun t=>?_
  exact Option.some.inj e▸⟨.int _ _,⟨some (_,_),rfl,rfl⟩,fun k q=>Option.some.inj q▸(qi hb).1⟩
end
end Mine.Internal
end
section
open PySem PySem.W PyProof.Rows
namespace Mine.Internal
section
variable {prog:Program} {w:World} {A:Around} {E:Value→Shared→Prop} {s:Shared}
theorem lK{t sl:Addr}{items:Array Value}{u:Tok}{Q:Value→Shared→Prop}(ht:IsTup s.heap t items)(hs:s.heap.IsSliceOf sl (.int (0:Nat) u) .none .none)
  (h:Q (.ref t) s):wpAny (model prog w) A (getItem (.ref t) (.ref sl)) Q E s:=by
 refine ob_1_3 (id hs) fun os hos hcs hds=>?_
 have hTs:s.TypeIs (.ref sl) "slice":=⟨os,hos,hcs⟩
 unfold getItem
 try with_reducible refine wpAny_holding ?_
 first | refine wpAny_bind (wpAny_pure ?_) | skip
 refine wpAny_bind (wpAny_sequenceKey ht.typeIs (by decide) ?_)
 refine wpAny_bind (wpAny_callSpecial?_slot (name:=Str.ofString "__getitem__") ht.typeIs slot_tuple_getitem
  (wpAny_call_entry slot_tuple_getitem ht.typeIs entry_tuple_getitem ?_ (args_tuple_getitem _ _)))
 show wpAny _ _ (Builtin.Tuple.tupleItemsOf (.ref t) >>= _) _ _ s
 refine wpAny_bind (tupleItemsOf_ ht ?_)
 refine wpAny_bind (wpAny_typeOf hTs ?_)
 rw [if_pos (by decide)]
 refine wpAny_bind (sliceApplied_from hs (Nat.zero_le _) ?_)
 show wpAny _ _ (if (((0:Nat):Int) == 0&&(1:Int) == 1&&(items.size-0) == items.size)=true then _ else _) _ _ s
 rw [if_pos (by simp)]
 refine wpAny_bind ?_
 unfold Builtin.Tuple.tupleIsExact
 refine wpAny_bind (wpAny_typeOf ht.typeIs (wpAny_pure ?_))
 rw [if_pos (by decide)]
 refine wpAny_bind (wpAny_rule ?_)
 exact wpAny_bind (wpAny_pure (wpAny_pure ⟨_,rfl,wpAny_pure h⟩))
end
noncomputable def JP(X:Cx)(A:Around)(env:Env)(nm:List Str):Option Expr→PE→Prop
 | none,p=>p=.none
 | some e,p=>JE X A env nm e p
section
variable {X:Cx} {A:Around} {env:Env} {nm:List Str} {g:Gh} {oth:List (Addr×Obj)} {σ:St} {s:Shared}
theorem JP.step{e:Option Expr}{pe:PE}(J:JP X A env nm e pe){α:Type}{ρ:ck}{σ:St}{f:V→St→cR α}{r:jE α}(hr:(ev X.C ρ pe σ).bind f=some r)
  {g:Gh} {oth:List (Addr×Obj)} (F:eV A g oth env nm ρ) {s:Shared} {Q1 E:Value→Shared→Prop} (H:HI X.w X.base g oth σ s.heap)
  (PE:∀ v σ',r=.exc v σ'→∀ e h tk g',g.le g'→HI X.w X.base g' oth σ' h→VR g' (.ref e) v→kD X.base e h→E (.ref e) { s with heap:=h,toks:=tk })
  (k:∀ v σ',f v σ'=some r→∀ val h tk g',g.le g'→HI X.w X.base g' oth σ' h→VR g' val v→Q1 val { s with heap:=h,toks:=tk }) :
  wpAny X.M A (evalPart e env) Q1 E s:=by
 cases e with
 | none=>
  cases J
  exact wpAny_pure (k .none σ hr .none s.heap s.toks g (.refl g) H .none)
 | some e=>exact JE.step J hr F H PE k
theorem HI.slice(H:HI X.w X.base g oth σ s.heap)(o:Obj):HI X.w X.base g oth σ (s.heap.push o):=H.pushAny o
theorem oP{a b:Option Int}{k:Int}(h:xw a b=some k):a=some k∧b=none:=by
 cases a with
 | none=>exact cq h
 | some x=>cases b with
  | none=>exact ⟨h,rfl⟩
  | some y=>exact cq h
theorem AC{value:Expr}{slice:Expr}(hsl:∃ l u p,slice=.Slice l u none p){x a b z:V}(hz:rT x a b=some z)(H:HI X.w X.base g oth σ s.heap){vx va vb:Value}(Rx:VR g vx x)(Ra:VR g va a)(Rb:VR g vb b){Q E:Value→Shared→Prop}(P:eh X g oth s Q E (.ok z σ)) :
  wpAny X.M A (subscriptTail value slice vx (.ref s.heap.objs.size)) Q E { s with heap:=s.heap.push { cls:=.type "slice",data:=.fields #[va,vb,.none] } }:=by
 have hs:∀ o i,subscripted slice false o i=operate [i,o] (getItem o i):=fun o i=>by
  refine ob_3_1 hsl fun l u p hq51_3=>?_
  subst hq51_3
  rfl
 have H1:=H.slice { cls:=.type "slice",data:=.fields #[va,vb,.none] }
 have hL:(s.heap.push { cls:=.type "slice",data:=.fields #[va,vb,.none] }).IsSliceOf s.heap.objs.size va vb .none:=Heap.IsSliceOf.new ..
 refine cV hz fun lo h1 hz=>cV hz fun hi h2 hz=>?_
 refine gk (sa h1 Ra) fun pa ea na=>ob_1_1 ea fun qa ea=>?_
 refine gk (sa h2 Rb) fun pb eb nb=>ob_1_1 eb fun qb eb=>?_
 refine ln hz (fun hz=>cV hz fun x0 hx hz=>gf hz fun hc e=>?_) fun hz=>ln hz (fun hz=>cV hz fun l hl hz=>cV hz fun k hk hz=>gf hz fun hc e=>?_) fun hz=>cV hz fun l hl hz=>mn hz fun k hk e=>?_
 ·clear na nb
  obtain ⟨rfl,rfl⟩:=ea
  obtain ⟨rfl,rfl⟩:=eb
  refine Rx.str' hx fun t0=>?_
  refine tail_any (typeIs_str _ x0 t0) F.slot_str_getitem.lookup ?_ (hs _ _)
  refine wpAny_getItem_str_slice (l:=qa) (u:=qb) (st:=none) ⟨_,Heap.get?_push_size _ rfl,rfl,rfl⟩ rfl ?_
  exact post_val_or_str ⟨Nat.le_trans (Txt.slice_le x0 _ _) (fh hc),fun t' k=>P (.str (Txt.slice x0 _ _) t') _ k g (.refl g) H1 (Option.some.inj e▸.str _ t')⟩
 ·have q:=oP hk
  obtain rfl:=q.1
  obtain rfl:=q.2
  have Pz:=(Option.some.inj e).symm▸P
  refine VR.tup' (X:=X) (s:={ s with heap:=s.heap.push { cls:=.type "slice",data:=.fields #[va,vb,.none] } }) H1 Rx hl fun t vs ex T Rs sz=>?_
  have hk0:k=((k.toNat:Nat):Int):=(Int.toNat_of_nonneg (na _ rfl)).symm
  have hle:k.toNat≤vs.toArray.size:=(List.size_toArray ..).symm▸Rs.length▸of_decide_eq_true hc
  have hv:∃ tk,va=.int ((k.toNat:Nat):Int) tk:=hk0▸(by cases pa;exact ⟨_,rfl⟩)
  have hn:vb=.none:=by cases pb;rfl
  refine ob_1_1 hv fun tk0 ev=>?_
  clear na nb ea eb pa pb hv
  subst ev hn
  refine ex▸tail_any T.typeIs slot_tuple_getitem.lookup ?_ (hs _ _)
  by_cases h0:k.toNat=0
  ·have hd:l.drop k.toNat=l:=h0▸rfl
   exact lK T ((congrArg (fun n:Nat=>Heap.IsSliceOf _ _ (.int (n:Int) tk0) .none .none) h0).mp hL) (Pz _ _ s.toks g (.refl g) H1 (ex▸hd.symm▸gm hl▸Rx))
  ·refine getItem_tuple_from T hL (Nat.pos_of_ne_zero h0) hle ?_ (List.size_toArray ..▸sz)
   exact n_ (X:=X) (s:={ s with heap:=s.heap.push { cls:=.type "slice",data:=.fields #[.int ((k.toNat:Nat):Int) tk0,.none,.none] } }) (Q:=Q) (E:=E) H1 (Rs.drop _) (List.length_drop▸Nat.le_trans (Nat.sub_le _ _) sz) Pz
 ·have q:=oP hk
  obtain rfl:=q.1
  obtain rfl:=q.2
  refine VR.lst' (X:=X) (s:={ s with heap:=s.heap.push { cls:=.type "slice",data:=.fields #[va,vb,.none] } }) H1 Rx hl fun t vs ex T Rs sz=>?_
  refine ex▸tail_any T.typeIs slot_list_getitem.lookup (wpAny_getItem_list_slice T hL pa pb .none (by simp) ?_ (List.size_toArray ..▸sz)) (hs _ _)
  rw [show slicePick vs.toArray none (some k) none=(vs.take k.toNat).toArray from (congrArg (fun k=>slicePick vs.toArray none (some k) none) (Int.toNat_of_nonneg (nb _ rfl)).symm).trans (slicePick_upto' ..)]
  exact qW (M:=X.M) (X:=X) (s:={ s with heap:=s.heap.push { cls:=.type "slice",data:=.fields #[va,vb,.none] } }) H1 (Rs.take k.toNat) (by rw [List.length_take];lia) (e▸P.at (.refl g) _ _)
theorem Dr{v:Expr}{lo hi:Option Expr}{p pos:Pos}{pv pl ph:PE}(Jv:JE X A env nm v pv)(Jl:JP X A env nm lo pl)(Jh:JP X A env nm hi ph):JE X A env nm (.Subscript v (.Slice lo hi none p) pos) (.slc pv pl ph):=by
 intro ρ σ r hr g oth F s Q E H P
 refine Subscript_ (Jv.step (aQ.symm.trans hr) F H P.exc fun x σ1 hr1 vx h1 tk1 g1 k1 H1 R1=>?_)
 refine wpAny_Slice (Jl.step hr1 (F.mono k1) H1 (P.at k1 h1 tk1).exc fun a σ2 hr2 va h2 tk2 g2 k2 H2 R2=>?_)
 refine Jh.step hr2 (F.mono (k1.trans k2)) H2 (P.at (k1.trans k2) h2 tk2).exc fun b σ3 hr3 vb h3 tk3 g3 k3 H3 R3=>?_
 refine rR hr3 (P.at ((k1.trans k2).trans k3) h3 tk3) fun z hz P=>wpAny_pure ?_
 exact AC (s:={ s with heap:=h3,toks:=tk3 }) ⟨lo,hi,p,rfl⟩ hz H3 (R1.mono (k2.trans k3)) (R2.mono k3) R3 P
end
end Mine.Internal
end
section
open PySem PySem.W PyProof.Rows PySem.Calls
set_option genCtorIdx false
namespace Mine.Internal
noncomputable def l5(X:Cx)(A:Around)(a:Addr)(k:Nat):Prop:=
 ∀ vs σ r,X.C k vs σ=some r→∀ g oth,nT A oth→∀ s vals Q E,HI X.w X.base g oth σ s.heap→eC g vals vs→eh X g oth s Q E r→codeAny X.M A (.call (.ref a) ⟨vals,[]⟩) (fun r s'=>match r with | .ok (.ret v)=>Q v s' | .ok _=>False | .error e=>E e s') s
noncomputable def t7(base:Heap)(a:Addr):Prop:=∃ o fd,base.get? a=some o∧o.data=.func fd
structure jZ (X:Cx) (fns:List (Str×Nat)):Prop where
 sys:∃ o,X.base.get? sysModules=some o
 nolimit:X.base.NoLimit
 glob:∃ mg mb,X.base.Ns mainGlobals mg∧X.base.Ns builtinsNs mb∧
  (∀ x k,bE x fns=some k→fV x∧∃ a,mg x=some (.ref a)∧t7 X.base a)∧mg "Raised"=some (.ref br)∧mg "Comp"=some (.ref cQ)∧
  mg "len"=none∧mg "str"=none∧mg "ord"=none∧mg "sum"=none∧mg "tuple"=none∧mg "range"=none∧
  mb "len"=some (.builtin "len")∧mb "str"=some (.type "str")∧mb "ord"=some (.builtin "ord")∧mb "sum"=some (.builtin "sum")∧mb "tuple"=some (.type "tuple")∧mb "range"=some (.type "range")
structure dI (env:Env):Prop where
 g:env.globals=mainGlobals
 b:env.builtins=builtinsNs
 k:∀ x,bz env.scope.names x=true→env.kindOf x=some .globalImplicit
theorem bW{env:Env}:∀ {es:List Expr} {pos:Pos},es.all bw=true→(backTo pos (starEach es env)).any (·.1)=false
 | [],_,_=>rfl
 | e::es,pos,h=>by
  rw [List.all_cons,Bool.and_eq_true] at h
  rw [eT h.1]
  show ((false:Bool) || (backTo pos (starEach es env)).any (·.1))=false
  rw [bW h.2];rfl
section
variable {M:Model} {A:Around} {E:Value→Shared→Prop} {s:Shared} {env:Env}
theorem eY{f:Value}{args:List (Bool×Sem Value)}{Q:Args→Shared→Prop}(hp:args.any (·.1)=false)(h:wpAny M A (spliced args) (fun vs s'=>Q ⟨vs,[]⟩ s') E s):wpAny M A (evalArgs f true args []) Q E s:=by
 cases args with
 | nil=>
  unfold evalArgs
  show wpAny M A (spliced [] >>= _) Q E s
  refine wpAny_bind (wpAny_mono h (fun vs s' h'=>?_) fun z9 z9 x=>x)
  refine wpAny_bind (wpAny_pure ?_)
  refine wpAny_holding ?_
  exact wpAny_bind (wpAny_pure (wpAny_bind (wpAny_pure (wpAny_pure h'))))
 | cons a r=>
  obtain ⟨b,t⟩:=a
  have:b=false:=by
   simp only [List.any_cons] at hp
   cases b
   ·rfl
   ·exact hp
  subst this
  exact evalArgs_plain h
end
section
variable {X:Cx} {A:Around} {env:Env} {nm:List Str} {g:Gh} {oth:List (Addr×Obj)} {σ:St} {s:Shared} {fns:List (Str×Nat)}
theorem cP{x:Str}{np:Pos}{as:List Expr}{pos:Pos}{Q E:Value→Shared→Prop}{M:Model}
  (h:wpAny M A (eval (.Name x np) env) (fun f s₁=>wpAny M A (callWith pos f [] (backTo pos (starEach as env)) []) Q E s₁) E s):wpAny M A (eval (.Call (.Name x np) as [] pos) env) Q E s:=by
 show wpAny M A (do callWith pos (← eval (.Name x np) env) [] (backTo pos (starEach as env)) (backToKw pos (keywordEach [] env))) Q E s
 exact wpAny_bind h
theorem vj(T:jZ X fns)(O:dI env)(hk:env.scope.kind=.function){x:Str}{k:Nat}(hx:bE x fns=some k)(hg:bz env.scope.names x=true){np:Pos}(H:HI X.w X.base g oth σ s.heap){Q E:Value→Shared→Prop}{M:Model}
  (h:∀ a,t7 X.base a→(∃ mg,X.base.Ns mainGlobals mg∧mg x=some (.ref a))→Q (.ref a) s):wpAny M A (eval (.Name x np) env) Q E s:=by
 refine ob_2_4 T.glob fun mg mb h1 h2 h3 z9=>?_
 obtain ⟨ok,a,e,f⟩:=h3 x k hx
 exact Name_function_global hk (O.k x hg) (loadGlobal_global (by rw [O.g];exact h1.keeps H.hb) e (h a f ⟨mg,h1,e⟩)) ok.1
theorem t7.of{a:Addr}(f:t7 X.base a)(H:HI X.w X.base g oth σ s.heap):∃ o fd,s.heap.get? a=some o∧o.data=.func fd:=let ⟨o,fd,e,d⟩:=f;⟨o,fd,H.hb _ _ e,d⟩
theorem AD(T:jZ X fns)(O:dI env){x:Str}{k:Nat}(hx:bE x fns=some k)(hg:bz env.scope.names x=true)(SC:∀ a,(∃ mg,X.base.Ns mainGlobals mg∧mg x=some (.ref a))→l5 X A a k)
  {as:List Expr} {ps:List PE} {np pos:Pos} (Js:JL X A env nm as ps) (hn:as.all bw=true):JE X A env nm (.Call (.Name x np) as [] pos) (.call k ps):=by
 intro ρ σ r hr g oth F s Q E H P
 refine cP (vj T O F.fn hx hg H fun a fa mg=>?_)
 refine ob_2_2 fa fun o0 fd0 e0 d0=>?_
 refine callWith_function (o:=o0) (fd:=fd0) (eY (bW hn) (Js.step (ai.symm.trans hr) F H P.exc fun vs σ1 hr1 vals h1 tk1 g1 k1 H1 R1=>⟨⟨H1.hb _ _ e0,d0⟩,?_⟩))
 refine wpAny_call ?_
 exact SC a mg vs σ1 r hr1 g1 oth F.fr { s with heap:=h1,toks:=tk1 } vals Q E H1 R1 (P.at k1 h1 tk1)
theorem ka(T:jZ X fns)(O:dI env)(hk:env.scope.kind=.function){x:Str}{v:Value}(hg:bz env.scope.names x=true)(hv:∀ mg mb,(X.base.Ns mainGlobals mg∧X.base.Ns builtinsNs mb∧
  (∀ x k,bE x fns=some k→fV x∧∃ a,mg x=some (.ref a)∧t7 X.base a)∧mg "Raised"=some (.ref br)∧mg "Comp"=some (.ref cQ)∧
  mg "len"=none∧mg "str"=none∧mg "ord"=none∧mg "sum"=none∧mg "tuple"=none∧mg "range"=none∧
  mb "len"=some (.builtin "len")∧mb "str"=some (.type "str")∧mb "ord"=some (.builtin "ord")∧mb "sum"=some (.builtin "sum")∧mb "tuple"=some (.type "tuple")∧mb "range"=some (.type "range"))→mg x=none∧mb x=some v)
  (hd:(x == ("__debug__":Str))=false) {np:Pos} (H:HI X.w X.base g oth σ s.heap) {Q E:Value→Shared→Prop} {M:Model} (h:Q v s):wpAny M A (eval (.Name x np) env) Q E s:=by
 refine ob_2_1 T.glob fun mg mb h0=>?_
 obtain ⟨e1,e2⟩:=hv mg mb h0
 exact Name_function_global hk (O.k x hg) (loadGlobal_builtin (by rw [O.g];exact h0.1.keeps H.hb) e1 (by rw [O.b];exact h0.2.1.keeps H.hb) e2 h) hd
theorem Ds{e:Expr}{p:PE}(hn:bw e=true)(J:JE X A env nm e p):JL X A env nm [e] [p]:=lx hn J qY
theorem AE{C:Nat→List V→St→cR V}{ρ:ck}{p:PE}{σ:St}{α:Type}{f:V→St→cR α}:(ev C ρ p σ).bind f=(lJ C ρ [p] σ).bind fun vs σ=>match vs with | [v]=>f v σ | _=>none:=by
 simp only [q_cons]
 cases h:ev C ρ p σ with
 | none=>rfl
 | some r=>cases r<;>rfl
theorem g7{a:Expr}{p:PE}{pos:Pos}{f:Value}(hn:bw a=true)(J:JE X A env nm a p){α:Type}{ρ:ck}{σ:St}{k:V→St→cR α}{r:jE α}(hr:(ev X.C ρ p σ).bind k=some r){g:Gh}{oth:List (Addr×Obj)}(F:eV A g oth env nm ρ)
  {s:Shared} {Q1:Args→Shared→Prop} {E:Value→Shared→Prop} (H:HI X.w X.base g oth σ s.heap)
  (PE:∀ v σ',r=.exc v σ'→∀ e h tk g',g.le g'→HI X.w X.base g' oth σ' h→VR g' (.ref e) v→kD X.base e h→E (.ref e) { s with heap:=h,toks:=tk })
  (kk:∀ v σ',k v σ'=some r→∀ val h tk g',g.le g'→HI X.w X.base g' oth σ' h→VR g' val v→Q1 ⟨[val],[]⟩ { s with heap:=h,toks:=tk }) :
  wpAny X.M A (evalArgs f true (backTo pos (starEach [a] env)) []) Q1 E s:=by
 refine eY (bW (by simp [hn])) (JL.step (Ds hn J) (AE▸hr) F H PE fun vs σ1 hr1 vals h1 tk1 g1 k1 H1 R1=>?_)
 split at hr1
 ·cases R1 with
  | cons a b=>cases b;exact kk _ σ1 hr1 _ h1 tk1 g1 k1 H1 a
 ·exact cq hr1
theorem Dt(T:jZ X fns)(O:dI env)(hg:bz env.scope.names "len"=true){a:Expr}{p:PE}{np pos:Pos}(hn:bw a=true)(J:JE X A env nm a p):JE X A env nm (.Call (.Name "len" np) [a] [] pos) (.len p):=by
 intro ρ σ r hr g oth F s Q E H P
 refine cP (ka T O F.fn (v:=.builtin "len") hg (fun mg mb h=>⟨h.2.2.2.2.2.1,h.2.2.2.2.2.2.2.2.2.2.2.1⟩) (by decide) H ?_)
 refine callWith_builtin (bW (by simp [hn])) (g7 hn J (aO.symm.trans hr) F H P.exc fun v σ1 hr1 val h1 tk1 g1 k1 H1 R1=>?_)
 refine EJ hr1 P fun n hq P=>?_
 show wpAny _ _ (call (.builtin "len") [val] []) _ _ _
 have fY:∀ {m t tk2},m=n→Q (.int (m:Int) t) { s with heap:=h1,toks:=tk2 }:=fun {m t tk2} e=>e▸P _ h1 tk2 g1 k1 H1 (.int _ t)
 refine ln hq (fun hq=>cV hq fun x0 hx hq=>gf hq fun hc e=>?_) fun hq=>mn hq fun l hl e=>?_
 ·refine R1.str' hx fun t0=>?_
  exact PyProof.Rows.len_str (by have:=ls hc;lia) (fY (Option.some.inj e))
 ·refine jJ (X:=X) (s:={ s with heap:=h1,toks:=tk1 }) hl H1 R1 (fun a vs ev T Rs sz=>?_) fun a vs ev T Rs sz=>?_
  ·exact ev▸len_tuple T (List.size_toArray ..▸oN sz) (fY ((List.size_toArray ..).trans (Rs.length.trans e)))
  ·exact ev▸len_list T (List.size_toArray ..▸oN sz) (fY ((List.size_toArray ..).trans (Rs.length.trans e)))
end
end Mine.Internal
end
section
open PySem PySem.W PyProof.Rows PySem.Calls
namespace Mine.Internal
section
variable {X:Cx} {A:Around} {env:Env} {nm:List Str} {g:Gh} {oth:List (Addr×Obj)} {σ:St} {s:Shared} {fns:List (Str×Nat)}
theorem t8{i:Int}(h0:0≤i)(h1:i<10 ^ 40):i.natAbs.log2<1920:=by
 have:i.natAbs<2 ^ 200:=by
  have:i.natAbs<10 ^ 40:=by lia
  exact Nat.lt_trans this (by decide)
 by_cases q:i.natAbs=0
 ·rw [q];decide
 ·have:=(Nat.log2_lt q).mpr this
  lia
theorem xV(T:jZ X fns)(O:dI env)(hg:bz env.scope.names "str"=true){a:Expr}{p:PE}{np pos:Pos}(hn:bw a=true)(J:JE X A env nm a p):JE X A env nm (.Call (.Name "str" np) [a] [] pos) (.strOf p):=by
 intro ρ σ r hr g oth F s Q E H P
 refine cP (ka T O F.fn (v:=.type "str") hg (fun mg mb h=>⟨h.2.2.2.2.2.2.1,h.2.2.2.2.2.2.2.2.2.2.2.2.1⟩) (by decide) H ?_)
 refine PyProof.Rows.callWith_type (bW (by simp [hn])) (g7 hn J (z6.symm.trans hr) F H P.exc fun v σ1 hr1 val h1 tk1 g1 k1 H1 R1=>?_)
 refine rR hr1 P fun z hz P=>cV hz fun i hi hz=>gf hz fun hc e=>?_
 obtain rfl:=Option.some.inj e
 refine R1.int' hi fun t0=>?_
 exact PySem.P.str_of_int (t8 (m6 hc).1 (m6 hc).2) (P _ h1 _ g1 k1 H1 (.str _ _))
theorem xW{x:Str}{z:V}(h:CX x=some z){D:Str→Prop}(k:∀ c:Nat,.int (c:Int)=z→D ⟨⟨[c]⟩⟩):D x:=by
 obtain ⟨⟨l⟩⟩:=x
 cases l with
 | nil=>exact cq h
 | cons c l=>cases l with
  | nil=>exact k c (Option.some.inj h)
  | cons b l=>exact cq h
theorem Du(T:jZ X fns)(O:dI env)(hg:bz env.scope.names "ord"=true){a:Expr}{p:PE}{np pos:Pos}(hn:bw a=true)(J:JE X A env nm a p):JE X A env nm (.Call (.Name "ord" np) [a] [] pos) (.ord p):=by
 intro ρ σ r hr g oth F s Q E H P
 refine cP (ka T O F.fn (v:=.builtin "ord") hg (fun mg mb h=>⟨h.2.2.2.2.2.2.2.1,h.2.2.2.2.2.2.2.2.2.2.2.2.2.1⟩) (by decide) H ?_)
 refine callWith_builtin (bW (by simp [hn])) (g7 hn J (EZ.symm.trans hr) F H P.exc fun v σ1 hr1 val h1 tk1 g1 k1 H1 R1=>?_)
 refine rR hr1 P fun z hz P=>cV hz fun x hx hz=>R1.str' hx fun t0=>xW hz (D:=fun x=>wpAny _ _ (call (.builtin "ord") [.str x t0] []) Q E _) fun c e=>?_
 exact PySem.P.ord_of_char (P _ h1 _ g1 k1 H1 (e▸.int _ _))
theorem xX(T:jZ X fns)(O:dI env)(hg:bz env.scope.names "tuple"=true){a:Expr}{p:PE}{np pos:Pos}(hn:bw a=true)(J:JE X A env nm a p):JE X A env nm (.Call (.Name "tuple" np) [a] [] pos) (.tuple p):=by
 intro ρ σ r hr g oth F s Q E H P
 refine cP (ka T O F.fn (v:=.type "tuple") hg (fun mg mb h=>⟨h.2.2.2.2.2.2.2.2.2.1,h.2.2.2.2.2.2.2.2.2.2.2.2.2.2.2.1⟩) (by decide) H ?_)
 refine PyProof.Rows.callWith_type (bW (by simp [hn])) (g7 hn J (z7.symm.trans hr) F H P.exc fun v σ1 hr1 val h1 tk1 g1 k1 H1 R1=>?_)
 refine EJ hr1 P fun l hl P=>VR.lst' (X:=X) (s:={ s with heap:=h1,toks:=tk1 }) H1 R1 hl fun a vs ev T Rs sz=>?_
 refine ev▸call_tuple_list T (fun h' hk=>?_) (List.size_toArray ..▸sz)
 exact n_ (X:=X) (s:={ s with heap:=h',toks:=tk1 }) (H1.grow hk) Rs sz (eh.at (r:=.ok (.tup l) σ1) P k1 h' tk1)
theorem wm(T:jZ X fns)(O:dI env)(hg:bz env.scope.names "tuple"=true){x:Str}{xp:Pos}{i:Nat}{np pos:Pos}(hl:bt env.scope.names x=true)(hi:bD nm x=some i) :
  JE X A env nm (.Call (.Name "tuple" np) [.Name x xp] [] pos) (.ownTup i):=by
 intro ρ σ r hr g oth F s Q E H P
 refine cP (ka T O F.fn (v:=.type "tuple") hg (fun mg mb h=>⟨h.2.2.2.2.2.2.2.2.2.1,h.2.2.2.2.2.2.2.2.2.2.2.2.2.2.2.1⟩) (by decide) H ?_)
 refine EJ (xB.symm.trans hr) P fun l hv P=>cV hv fun v hv hw=>(F.has x i v hi hl (jW hv)).elim fun ok q=>q.elim fun val q=>(q.2.own hw).lst H fun a vs ev T Rs sz=>?_
 refine PyProof.Rows.callWith_type (bW (by rfl)) (eY (bW (by rfl)) (wpAny_items_cons (wpAny_Name (fP F.fn ok q.1 H ?_) ok.1) rfl))
 refine wpAny_items_nil (ev▸?_)
 refine call_tuple_list (s:=s) T (fun h' hk=>?_) (List.size_toArray ..▸sz)
 exact n_ (X:=X) (s:={ s with heap:=h' }) (H.grow hk) Rs sz (eh.at (r:=.ok (.tup l) σ) P (.refl g) h' s.toks)
theorem qZ{is:List Int}(h:gV is=true):∀ i,0≤is.getD i 0∧is.getD i 0<2000000:=by
 induction is with
 | nil=>exact fun i=>⟨Int.le_refl 0,(by decide:(0:Int)<2000000)⟩
 | cons x r ih=>
  intro i
  have h2:=(Bool.and_eq_true _ _).mp h
  cases i with
  | zero=>exact ⟨of_decide_eq_true ((Bool.and_eq_true _ _).mp h2.1).1,of_decide_eq_true ((Bool.and_eq_true _ _).mp h2.1).2⟩
  | succ i=>exact ih h2.2 i
theorem q0{f:Nat→Int}(hf:∀ i,0≤f i∧f i<2000000)(n:Nat):0≤preSum f n∧preSum f n≤2000000*n:=by
 induction n with
 | zero=>exact ⟨Int.le_refl 0,Int.le_refl 0⟩
 | succ n ih=>
  have h2:=hf n
  refine (?_:0≤preSum f n+f n∧preSum f n+f n≤2000000*((n:Int)+1))
  lia
theorem q6(f:Nat→Int)(n:Nat):preSum f (n+1)=f 0+preSum (fun i=>f (i+1)) n:=by
 induction n with
 | zero=>exact Int.add_comm 0 (f 0)
 | succ n ih=>exact (congrArg (·+f (n+1)) ih).trans (Int.add_assoc ..)
theorem se(is:List Int):preSum (fun i=>is.getD i 0) is.length=tF is:=by
 induction is with
 | nil=>rfl
 | cons x r ih=>exact (q6 _ _).trans (congrArg (x + ·) ih)
theorem t9:∀ {l:List V} {is:List Int} {vs:List Value},mV l=some is→eC g vs l→vs.length=is.length∧∀ i v,vs[i]?=some v→∃ t,v=Value.int (is.getD i 0) t:=by
 intro l
 induction l with
 | nil=>exact fun {is vs} h R=>R.eNil (C:=fun vs=>vs.length=is.length∧∀ i v,vs[i]?=some v→∃ t,v=Value.int (is.getD i 0) t) ⟨congrArg List.length (Option.some.inj h),fun i v q=>cq q⟩
 | cons v l ih=>
  intro is vs h R
  refine cV h fun x hx h=>mn h fun ys hy e=>?_
  refine R.eCons fun val us a b=>a.int' hx fun t=>?_
  have i:=ih hy b
  refine e▸⟨congrArg Nat.succ i.1,fun j v q=>?_⟩
  cases j with
  | zero=>exact ⟨t,(Option.some.inj q).symm⟩
  | succ j=>exact i.2 j v q
theorem Dv(hh:A.handled=none)(T:jZ X fns)(O:dI env)(hg:bz env.scope.names "sum"=true){a:Expr}{p:PE}{np pos:Pos}(hn:bw a=true)(J:JE X A env nm a p):JE X A env nm (.Call (.Name "sum" np) [a] [] pos) (.sum p):=by
 intro ρ σ r hr g oth F s Q E H P
 refine cP (ka T O F.fn (v:=.builtin "sum") hg (fun mg mb h=>⟨h.2.2.2.2.2.2.2.2.1,h.2.2.2.2.2.2.2.2.2.2.2.2.2.2.1⟩) (by decide) H ?_)
 refine callWith_builtin (bW (by simp [hn])) (g7 hn J (E0.symm.trans hr) F H P.exc fun v σ1 hr1 val h1 tk1 g1 k1 H1 R1=>?_)
 refine rR hr1 P fun z hz P=>cV hz fun l hl hz=>cV hz fun is his hz=>gf hz fun hs e=>jF hs fun hs1 hs2=>?_
 refine VR.lst' (X:=X) (s:={ s with heap:=h1,toks:=tk1 }) H1 R1 hl fun a vs ev T Rs sz=>?_
 have i12:=t9 his Rs
 have sg:=qZ hs1
 have sb:=q0 sg
 have sl:=ls hs2
 have T':=T
 refine ev▸call_sum_walk (wpAny_pyIter_list T ?_)
 have hlt:a<h1.objs.size:=T'.elim fun o e=>Heap.lt_size e.1
 refine ⟨h1.objs.size,_,_,vs.toArray.size,_,_,fun i=>is.getD i 0,rfl,Walks.list (A:=A.in1) hh h1.objs.size a (Nat.ne_of_lt hlt) vs.toArray,⟨⟨_,Heap.get?_push_size _ rfl,rfl,rfl⟩,T.push _⟩,?_,fun i v hv=>i12.2 i v (List.getElem?_toArray.symm.trans hv),?_,?_⟩
 ·intro b hb
  simp only [Heap.size_push]
  refine (List.mem_cons.mp hb).elim (fun q=>q▸Nat.lt_succ_self _) fun q=>(List.mem_singleton.mp q)▸Nat.lt_succ_of_lt hlt
 ·intro j hj
  have q1:=sg j
  have q2:=sb (j+1)
  simp only [List.size_toArray,i12.1] at hj
  unfold InLong
  dsimp only
  clear i12 sg sb P
  constructor<;>constructor<;>lia
 ·intro h' tk' t' hk
  simp only [List.size_toArray,i12.1,se]
  refine P _ h' tk' g1 k1 ?_ (Option.some.inj e▸.int _ _)
  exact H1.grow fun b o e=>hk b o (fun q=>Nat.ne_of_lt (Heap.lt_size e) (List.mem_singleton.mp q)) (Heap.get?_push_of_some _ e)
end
end Mine.Internal
end
section
open PySem PySem.W PyProof.Rows PySem.Calls
set_option genCtorIdx false
namespace Mine.Internal
structure KOK (base:Heap) (K:Frag):Prop where
 inB:K.In base
 cGet:plainGet K cQ ""=true
 cDict:hasDictIn K cQ=true
 cAttr:∀ a,fD a=true→findIn K (.ref cQ) a=some none
 rGa:findIn K (.ref br) "__getattribute__"=some (some (.builtin "BaseException.__getattribute__"))
 rHook:findIn K (.ref br) "__getattr__"=some none
 rMro:mroIn K br (.type "BaseException")=some true
 rDict:hasDictIn K br=true
 rAttr:∀ a,fD a=true→findIn K (.ref br) a=some none
theorem xY:builtinKind "BaseException.__getattribute__"=some .slot:=by decide +kernel
theorem wo:splitId "BaseException.__getattribute__"=some ("BaseException","__getattribute__"):=by decide +kernel
theorem VR.handed{g:Gh}{val:Value}{v:V}(R:VR g val v):handedIn val=true:=by cases R<;>rfl
section
variable {prog:Program} {w:World} {A:Around} {E:Value→Shared→Prop} {s:Shared} {K:Frag} {x C:Addr} {ox:Obj} {od:Option Obj} {name:Str} {expr:Bool} {Q:Value→Shared→Prop}
theorem AF{v:Value}(X:K.In s.heap)(I:InstAt s.heap x ox C od)(hga:findIn K (.ref C) "__getattribute__"=some (some (.builtin "BaseException.__getattribute__")))(hgm:findIn K (.ref C) "__getattr__"=some none)(hm:mroIn K C (.type "BaseException")=some true)
  (hf:findObj K C od name=some (.value v)) (hh:handedIn v=true) (h:Q v { s with toks:=s.toks+1 }):wpAny (model prog w) A (getAttr (.ref x) name expr) Q E s:=by
 have FX:=PySem.F.excAttr_ValueError
 obtain ⟨hh',g,d,t,os⟩:=s
 have L0:=I.type (M:=model prog w)
 have L1:=looks_findIn (M:=model prog w) X hga
 have L2:=looks_findIn (M:=model prog w) X hgm
 have L3:=looks_find (M:=model prog w) X I hf
 have L4:Looks (model prog w) hh' (isInstance (.ref x) (.type "BaseException")) true:=L0.andThen (looks_mroIn X hm)
 have hx0:(expr&&onTheHeap (Value.builtin "BaseException.__getattribute__"))=false:=by cases expr<;>rfl
 unfold getAttr getAttrBy
 refine wpAny_bind (wpAny_mkText (wpAny_holding (wpAny_bind (L0.at (wpAny_bind (L1.at ?_))))))
 show wpAny _ _ (getAttrByItsOwn _ _ _ _ _ _) _ _ _
 unfold getAttrByItsOwn
 refine wpAny_bind (show wpAny _ _ (typeLookup _ _) _ _ _ from L2.at ?_)
 refine wpAny_bind (wpAny_attempt ?_)
 show wpAny _ _ (holding [] (callGetattribute _ _ _ _)) _ _ _
 refine wpAny_holding ?_
 unfold callGetattribute
 rw [hx0]
 show wpAny _ _ (boundAndCalled _ _ _) _ _ _
 unfold boundAndCalled
 rw [FX.ga.bind (.ref x)]
 refine wpAny_bind (wpAny_pure (wpAny_call ?_))
 refine codeAny_call_builtin FX.ga.plain PySem.F.entry_bexc_ga (@check_slot (model prog w) _ _ _ "BaseException.__getattribute__" "BaseException" "__getattribute__" (.ref x) [_] [] _ xY wo L4 (PySem.F.args_bexc_ga _ _) ?_)
 show wpAny _ _ (pure _ >>= _) _ _ _
 refine wpAny_bind (wpAny_pure ?_)
 refine wpAny_bind (wpAny_pure (wpAny_bind (L0.at (wpAny_bind (L3.at ?_)))))
 refine wpAny_pure ?_
 show wpAny _ _ (handedOut v) _ _ _
 rw [handedOut_of hh];exact wpAny_pure h
end
end Mine.Internal
namespace Mine.Internal
section
variable {X:Cx} {A:Around} {env:Env} {nm:List Str} {g:Gh} {oth:List (Addr×Obj)} {σ:St} {s:Shared} {K:Frag}
theorem oQ(x:Str)(v:Value):v.isStr x=Value.isStrOf x v:=by cases v<;>rfl
theorem wp{w:World}{es:List DictEntry}{d:List (Str×V)}(D:DR w g es d){o:Obj}{n:Nat}(ho:o.data=.dict es.toArray n){x:Str}{v:V}(hv:Mine.Internal.look x d=some v):∃ val,lookIn x o=some (some val)∧VR g val v:=by
 refine ob_1_2 ((D.look x).1 v hv) fun e he R=>?_
 refine ⟨e.val,?_,R⟩
 unfold PySem.W.lookIn
 rw [ho]
 simp only [oQ,he]
theorem pV{es:Array DictEntry}{o:Obj}{n:Nat}(ho:o.data=.dict es n){x:Str}{val:Value}(h:nsFind es x=some val):lookIn x o=some (some val):=by
 unfold nsFind findBy at h
 obtain ⟨l⟩:=es
 unfold PySem.W.lookIn
 rw [ho]
 rw [List.find?_toArray] at h
 refine ob_1_2 (Option.map_eq_some_iff.mp h) fun e h1 h2=>?_
 dsimp only
 rw [h1,← h2]
theorem sf(KO:KOK X.base K){x z:V}{a:Str}(ha:fD a=true)(hz:gh σ x a=some z)(H:HI X.w X.base g oth σ s.heap){vx:Value}(Rx:VR g vx x){Q E:Value→Shared→Prop}(P:eh X g oth s Q E (.ok z σ)) :
  wpAny X.M A (getAttr vx a true) Q E s:=by
 have KI:K.In s.heap:=fun b o e=>H.hb _ _ (KO.inB b o e)
 refine ln hz (fun hz=>cV hz fun d hd hz=>cV hd fun n hn hd=>?_) fun hz=>cV hz fun cx hc hz=>?_
 ·refine ob_2_3 (qg hn▸Rx).inv fun x d' ex h1 h2=>ob_2_3 (H.cells _ _ (oF hd)) fun a' o q1 q2 q3=>?_
  refine (H.him _ h1).1.elim fun sl e1=>ob_2_4 q3.inv fun es n r1 r2 r3 z9=>ob_1_2 (wp r3 r2 hz) fun val l1 l2=>?_
  refine ex▸get_value KI (ox:=_) (od:=some o) ⟨e1,rfl,rfl,Option.some.inj (q1.symm.trans h2)▸q2⟩ (plainGet_of (name:="") KO.cGet).1 (findObj_own KO.cDict (KO.cAttr a ha) rfl l1) l2.handed ?_
  exact P val s.heap _ g (.refl g) H l2
 ·refine ob_8_11 (tW hc▸Rx).inv fun e d o es n v1 v2 v3 ex h1 h2 h3 h4 f1 f2 f3 r1 r2 r3=>?_
  have fY:∀ {val:Value},nsFind es a=some val→VR g val z→wpAny X.M A (getAttr (.ref e) a true) Q E s:=fun h4 R=>(H.hxs _ h1).elim fun z9 q=>ob_2_1 q fun vs sl e1=>(H.him _ h2).1.elim fun sl2 e2=>
   AF KI (ox:=_) (od:=some { o with slots:=sl2 }) ⟨e1,rfl,rfl,e2⟩ KO.rGa KO.rHook KO.rMro (findObj_own KO.rDict (KO.rAttr a ha) rfl (pV (n:=n) h3 h4)) R.handed (P _ s.heap _ g (.refl g) H R)
  refine ex▸GX hz (fun q e=>?_) fun z9 hz=>GX hz (fun q e=>?_) fun z9 hz=>gf hz fun q e=>?_
  ·exact fY (q▸f1) (Option.some.inj e▸r1)
  ·exact fY (q▸f2) (Option.some.inj e▸r2)
  ·exact fY (q▸f3) (Option.some.inj e▸r3)
theorem fM{e:Expr}(h:fv e=true)(a:Str)(env:Env)(m:Sem Value):attributeBase e a env m=m:=by
 unfold attributeBase
 cases e<;>first | rfl | cases h
theorem vk(KO:KOK X.base K){e:Expr}{p:PE}{a:Str}{pos:Pos}(hb:fv e=true)(ha:fD a=true)(J:JE X A env nm e p):JE X A env nm (.Attribute e a pos) (.attr p a):=by
 intro ρ σ r hr g oth F s Q E H P
 refine Attribute_any_ (J.step (aq.symm.trans hr) F H P.exc fun v σ1 hr1 val h1 tk1 g1 k1 H1 R1=>?_) (by simp only [show eval (.Attribute e a pos) env=(do let o←attributeBase e a env (eval e env);standAt pos.atName;let r←holding [o] (getAttr o a true);letTemporaryGo e o r;pure r) from by with_unfolding_all rfl,fM hb])
 exact rR hr1 (P.at k1 h1 tk1) fun z hz P=>sf (X:=X) (s:={ s with heap:=h1,toks:=tk1 }) KO ha hz H1 R1 P
end
end Mine.Internal
end
section
open PySem PySem.W PyProof.Rows PySem.Calls
namespace Mine.Internal
section
variable {prog:Program} {w:World} {A:Around} {E:Value→Shared→Prop} {s:Shared}
theorem xZ{D:Addr}{o:Obj}{its:Array Value}{n:Nat}{y:Value}{Q:Value→Shared→Prop}(ho:s.heap.get? D=some o)(hc:o.cls=.type "list")(hd:o.data=.seq its n)(hy:its[its.size-1]?=some y)
  (hsz:its.size≤sizeLine) (h:∀ h',Heap.SameBut D s.heap h'→h'.get? D=some (Obj.mapSeq (·.eraseIdxIfInBounds (its.size-1)) o)→Q y { s with heap:=h' }) :
  wpAny (model prog w) A (call (.builtin "list.pop") [.ref D]) Q E s:=by
 obtain ⟨n',hd'⟩:=Obj.data_mapSeq hd (·.eraseIdxIfInBounds (its.size-1))
 have hq:=h _ (Heap.SameBut.update ..) (Heap.get?_update_self (Obj.mapSeq (·.eraseIdxIfInBounds (its.size-1))) ho (Obj.isFreed_of_seq hd'))
 obtain ⟨hp,g,d,tk,os⟩:=s
 refine wpAny_call_entry PySem.F.slot_list_pop ⟨_,ho,hc⟩ PySem.F.entry_list_pop ?_ (PySem.F.args_list_pop_1 _)
 have hpos:0<its.size:=by
  rcases Nat.eq_zero_or_pos its.size with h0 | h0
  ·simp [h0] at hy
  ·exact h0
 have hne:¬ its.isEmpty=true:=by
  intro he;have:its.size=0:=by simpa using he
  lia
 have hk:seqIndex? (-1) its.size=some (its.size-1):=by
  rw [seqIndex_neg (by lia) (by lia)];congr 1;lia
 obtain ⟨oc,od,oda,osl⟩:=o
 dsimp only at hc hd
 subst hc hd
 wp_walk using wpAny_loadPart' ho
 simp only [hk,hy,Option.bind_some,Option.map_some]
 have hz':(its.eraseIdxIfInBounds (its.size-1)).size≤sizeLine+1:=by unfold Array.eraseIdxIfInBounds;split;rw [Array.size_eraseIdx];all_goals lia
 wp_walk using (wpAny_updateSeq ho rfl (hz:=hsz) (_hz':=hz')),wpAny_loadPart' ho
 exact ⟨_,rfl,hq⟩
theorem l6{D:Addr}{o:Obj}{its:Array Value}{n:Nat}{x:Value}{Q:Value→Shared→Prop}(ho:s.heap.get? D=some o)(hc:o.cls=.type "list")(hd:o.data=.seq its n)
  (hsz:its.size≤sizeLine) (h:∀ h',Heap.SameBut D s.heap h'→h'.get? D=some (Obj.mapSeq (·.push x) o)→Q .none { s with heap:=h' }) :
  wpAny (model prog w) A (call (.builtin "list.append") [.ref D,x]) Q E s:=by
 obtain ⟨n',hd'⟩:=Obj.data_mapSeq hd (·.push x)
 refine wpAny_call_entry slot_list_append ⟨_,ho,hc⟩ entry_list_append ?_ (args_list_append _ _)
 show wpAny _ _ (updateSeq D (·.push x) >>= fun z9=>ret .none) _ _ s
 refine wpAny_bind ?_
 refine wpAny_updateSeq ho hd (wpAny_pure ⟨.none,rfl,h _ (Heap.SameBut.update ..) ?_⟩)
 exact Heap.get?_update_self _ ho (Obj.isFreed_of_seq hd')
end
theorem oR(l:List Value):(l.toArray.eraseIdxIfInBounds (l.toArray.size-1))=l.dropLast.toArray:=by
 rcases List.eq_nil_or_concat l with rfl | ⟨r,x,rfl⟩
 ·rfl
 ·simp [Array.eraseIdxIfInBounds,List.eraseIdx_eq_dropLast]
theorem eC.last{g:Gh}:∀ {vs:List Value} {xs:List V},eC g vs xs→∀ {x:V},xs.getLast?=some x→∃ v,vs.getLast?=some v∧VR g v x:=by
 intro vs xs R x h
 rw [List.getLast?_eq_getElem?] at h ⊢
 rw [R.length]
 exact R.get h
section
variable {X:Cx} {A:Around} {env:Env} {nm:List Str} {g:Gh} {oth:List (Addr×Obj)} {σ:St} {s:Shared}
theorem fW{e:Expr}(hn:bw e=true):starEach [e] env=[(false,eval e env)]:=eT hn
theorem mx{e f:Expr}(hn:bw e=true)(hm:bw f=true):starEach [e,f] env=[(false,eval e env),(false,eval f env)]:=by
 rw [eT hn,eT hm];rfl
@[elab_as_elim] theorem VR.lstAt{val:Value}{x:V}{n:Nat}(R:VR g val x)(h:lstAt σ x=some n){C:Value→Prop}(k:∀ D l,g.ca[n]?=some D→fO σ n=some l→C (.ref D)):C val:=
 cV h fun m h1 h=>mn h fun l h2 e=>(m5 h1▸R).eR fun D hD=>k D l (e▸hD) (e▸h2)
theorem HI.lst(H:HI X.w X.base g oth σ s.heap){a:Addr}{n:Nat}{l:List V}(ha:g.ca[n]?=some a)(hn:fO σ n=some l){C:Prop}
  (k:∀ o vs k,s.heap.get? a=some o→o.cls=.type "list"→o.dict=none→(o.data=.seq vs.toArray k∧vs.length≤sizeLine)→eC g vs l→C):C:=
 ob_2_3 (H.cells _ _ (lX hn)) fun a' o x y z=>ob_2_4 z.inv fun vs m p q r t=>k o vs m (Option.some.inj (x.symm.trans ha)▸y) p q r t
theorem fQ{o:Obj}{f:Array Value→Array Value}{vs:Array Value}{k:Nat}(h:o.data=.seq vs k)(e:o.dict=none):(Obj.mapSeq f o).dict=none:=by
 obtain ⟨_,_,dd,_⟩:=o
 cases h
 exact e
theorem wq{o a:Expr}{po pa:PE}{apos pos:Pos}(hb:fv o=true)(hline:(apos.endLine == pos.line)=true)(hn:bw a=true)(Jo:JE X A env nm o po)(Ja:JE X A env nm a pa) :
  JE X A env nm (.Call (.Attribute o "append" apos) [a] [] pos) (.append po pa):=by
 intro ρ σ r hr g oth F s Q E H P
 refine Call_method1 (fM hb _ _ _) (fW hn) hline (Jo.step (xC.symm.trans hr) F H P.exc fun v σ1 hr1 ov h1 tk1 g1 k1 H1 R1=>?_)
 refine xN hr1 fun n hv hr2=>R1.lstAt hv fun D l ha hl=>?_
 refine HI.lst (s:={ s with heap:=h1,toks:=tk1 }) H1 ha hl fun ob vs k e1 e2 e3 e4 e5=>?_
 refine ⟨"list","list.append",PySem.F.plainAttrs_list,PySem.F.slot_list_append,PySem.F.type_list_append,⟨_,e1,e2⟩,(fun z9 q=>Value.ref.inj q▸⟨_,e1,e3⟩),callWith_builtin rfl (evalArgs_plain (spliced_cons ?_))⟩
 clear e1 e2 e3 e4 e5 hl R1
 refine Ja.step hr2 (F.mono k1) H1 (P.at k1 h1 tk1).exc fun y σ2 hr3 vy h2 tk2 g2 k2 H2 R2=>spliced_nil ?_
 refine cV hr3 fun l2 hl2 hr3=>gf hr3 fun hsz hr3=>?_
 refine HI.lst (s:={ s with heap:=h2,toks:=tk2 }) H2 (k2.get ha) hl2 fun ob2 vs2 m2 f1 f2 f3 f4 f5=>?_
 have hlen:vs2.length≤100000:=f5.length▸ls hsz
 refine l6 f1 f2 f4.1 (List.size_toArray ..▸f4.2) fun h' hs' e'=>?_
 refine (Obj.data_mapSeq f4.1 (·.push vy)).elim fun m3 hd3=>?_
 refine lQ hr3 (D:=eh X g oth s Q E) P _ h' tk2 g2 (k1.trans k2) (H2.setCell (k2.get ha) hs' e' (.list ((Obj.cls_mapSeq ..).trans f2) (fQ f4.1 f3) ⟨hd3.trans (by simp;rfl),?_⟩ (f5.append (.one R2)))) .none
 simp only [List.length_append,List.length_singleton,sizeLine_eq];lia
theorem Dx{o:Expr}{po:PE}{apos pos:Pos}(hb:fv o=true)(hline:(apos.endLine == pos.line)=true)(Jo:JE X A env nm o po) :
  JE X A env nm (.Call (.Attribute o "pop" apos) [] [] pos) (.pop po):=by
 intro ρ σ r hr g oth F s Q E H P
 refine Call_method0 (fM hb _ _ _) hline (Jo.step (E1.symm.trans hr) F H P.exc fun v σ1 hr1 ov h1 tk1 g1 k1 H1 R1=>?_)
 refine xN hr1 fun n hv hr2=>R1.lstAt hv fun D z9 ha z9=>cV hr2 fun l hl hr2=>cV hr2 fun x hx hr2=>?_
 refine HI.lst (s:={ s with heap:=h1,toks:=tk1 }) H1 ha hl fun ob vs k e1 e2 e3 e4 e5=>?_
 refine ⟨"list","list.pop",PySem.F.plainAttrs_list,PySem.F.slot_list_pop,PySem.F.type_list_pop,⟨_,e1,e2⟩,(fun z9 q=>Value.ref.inj q▸⟨_,e1,e3⟩),callWith_builtin rfl (PySem.evalArgs_none ?_)⟩
 refine ob_1_2 (e5.last hx) fun val hv1 hv2=>?_
 refine xZ e1 e2 e4.1 (y:=val) (List.getElem?_toArray.trans (List.getLast?_eq_getElem?.symm.trans hv1)) (List.size_toArray ..▸e4.2) fun h' hs' e'=>?_
 refine (Obj.data_mapSeq e4.1 (·.eraseIdxIfInBounds (vs.toArray.size-1))).elim fun m3 hd3=>?_
 refine lQ hr2 (D:=eh X g oth s Q E) P _ h' tk1 g1 k1 (H1.setCell ha hs' e' (.list ((Obj.cls_mapSeq ..).trans e2) (fQ e4.1 e3) ⟨hd3.trans (by rw [oR]),?_⟩ e5.dropLast)) hv2
 exact List.length_dropLast▸Nat.le_trans (Nat.sub_le _ _) e4.2
theorem x_{o a:Expr}{po pa:PE}{apos pos:Pos}(hb:fv o=true)(hline:(apos.endLine == pos.line)=true)(hn:bw a=true)(Jo:JE X A env nm o po)(Ja:JE X A env nm a pa) :
  JE X A env nm (.Call (.Attribute o "count" apos) [a] [] pos) (.count po pa):=by
 intro ρ σ r hr g oth F s Q E H P
 refine Call_method1 (fM hb _ _ _) (fW hn) hline (Jo.step (uX.symm.trans hr) F H P.exc fun v σ1 hr1 ov h1 tk1 g1 k1 H1 R1=>?_)
 refine xN hr1 fun n hv hr2=>R1.lstAt hv fun D l ha hl=>?_
 refine HI.lst (s:={ s with heap:=h1,toks:=tk1 }) H1 ha hl fun ob vs k e1 e2 e3 e4 e5=>?_
 refine ⟨"list","list.count",PySem.F.plainAttrs_list,PySem.F.slot_list_count,PySem.F.type_list_count,⟨_,e1,e2⟩,(fun z9 q=>Value.ref.inj q▸⟨_,e1,e3⟩),callWith_builtin rfl (evalArgs_plain (spliced_cons ?_))⟩
 clear e1 e2 e3 e4 e5 hl R1
 refine Ja.step hr2 (F.mono k1) H1 (P.at k1 h1 tk1).exc fun y σ2 hr3 vy h2 tk2 g2 k2 H2 R2=>spliced_nil ?_
 refine rR hr3 P fun w2 hc P=>cV hc fun x hx hc=>cV hc fun l2 hl2 hc=>mn hc fun ss hss e=>?_
 refine HI.lst (s:={ s with heap:=h2,toks:=tk2 }) H2 (k2.get ha) hl2 fun ob2 vs2 m2 f1 f2 f3 f4 f5=>?_
 refine R2.str' hx fun u=>?_
 obtain ⟨oc,od,oda,osl⟩:=ob2
 cases f2
 cases f4.1
 refine call_meets PySem.F.slot_list_count ⟨_,f1,rfl⟩ PySem.F.entry_list_count (PySem.F.args_list_count_2 _ _) (SeqAt.list_countAt D vs2.toArray m2 od osl (.str x u) (jS x)) ⟨f1,fun y hy=>qh x u (oH hss f5 y (List.mem_toArray.mp hy)),?_⟩
 exact P _ h2 _ g2 (k1.trans k2) H2 (e▸tY hss f5 x▸.int _ _)
theorem AG{o a b:Expr}{po pa pb:PE}{apos pos:Pos}(hb:fv o=true)(hline:(apos.endLine == pos.line)=true)(hn:bw a=true)(hm:bw b=true)(Jo:JE X A env nm o po)(Ja:JE X A env nm a pa)(Jb:JE X A env nm b pb) :
  JE X A env nm (.Call (.Attribute o "find" apos) [a,b] [] pos) (.find po pa pb):=by
 intro ρ σ r hr g oth F s Q E H P
 refine Call_method2 (fM hb _ _ _) (mx hn hm) hline (Jo.step (C3.symm.trans hr) F H P.exc fun v σ1 hr1 ov h1 tk1 g1 k1 H1 R1=>?_)
 refine xN hr1 fun x hv hr2=>R1.str' hv fun t=>?_
 refine ⟨"str","str.find",PySem.F.plainAttrs_str,PySem.F.slot_str_find,PySem.F.type_str_find,typeIs_str _ _ _,(fun z9 q=>Value.noConfusion q),callWith_builtin rfl (evalArgs_plain (spliced_cons ?_))⟩
 refine Ja.step hr2 (F.mono k1) H1 (P.at k1 h1 tk1).exc fun y σ2 hr3 vy h2 tk2 g2 k2 H2 R2=>spliced_cons ?_
 refine Jb.step hr3 (F.mono (k1.trans k2)) H2 ((P.at k1 h1 tk1).at k2 h2 tk2).exc fun z σ3 hr4 vz h3 tk3 g3 k3 H3 R3=>spliced_nil ?_
 refine rR hr4 P fun w hw P=>cV hw fun y hy hw=>cV hw fun i hi hw=>gf hw fun z9 e=>?_
 refine R2.str' hy fun u=>?_
 refine R3.int' hi fun u'=>?_
 exact SC.find3 (P _ h3 _ g3 ((k1.trans k2).trans k3) H3 (Option.some.inj e▸.int _ _))
theorem ya{o a:Expr}{po pa:PE}{apos pos:Pos}(hb:fv o=true)(hline:(apos.endLine == pos.line)=true)(hn:bw a=true)(Jo:JE X A env nm o po)(Ja:JE X A env nm a pa) :
  JE X A env nm (.Call (.Attribute o "strip" apos) [a] [] pos) (.strip po pa):=by
 intro ρ σ r hr g oth F s Q E H P
 refine Call_method1 (fM hb _ _ _) (fW hn) hline (Jo.step (z8.symm.trans hr) F H P.exc fun v σ1 hr1 ov h1 tk1 g1 k1 H1 R1=>?_)
 refine xN hr1 fun x hv hr2=>R1.str' hv fun t=>?_
 refine ⟨"str","str.strip",PySem.F.plainAttrs_str,PySem.F.slot_str_strip,PySem.F.type_str_strip,typeIs_str _ _ _,(fun z9 q=>Value.noConfusion q),callWith_builtin rfl (evalArgs_plain (spliced_cons ?_))⟩
 refine Ja.step hr2 (F.mono k1) H1 (P.at k1 h1 tk1).exc fun y σ2 hr3 vy h2 tk2 g2 k2 H2 R2=>spliced_nil ?_
 refine rR hr3 P fun w hw P=>cV hw fun y hy hw=>gf hw fun hsz e=>?_
 refine R2.str' hy fun u=>?_
 exact SCL.stripChars (fun t' k z9=>P _ h2 _ g2 (k1.trans k2) H2 (Option.some.inj e▸.str _ _)) (hsz:=fh hsz)
theorem AH{o a:Expr}{po pa:PE}{apos pos:Pos}(hb:fv o=true)(hline:(apos.endLine == pos.line)=true)(hn:bw a=true)(Jo:JE X A env nm o po)(Ja:JE X A env nm a pa) :
  JE X A env nm (.Call (.Attribute o "join" apos) [a] [] pos) (.join po pa):=by
 intro ρ σ r hr g oth F s Q E H P
 refine Call_method1 (fM hb _ _ _) (fW hn) hline (Jo.step (C4.symm.trans hr) F H P.exc fun v σ1 hr1 ov h1 tk1 g1 k1 H1 R1=>?_)
 refine xN hr1 fun x hv hr2=>R1.str' hv fun t=>?_
 refine ⟨"str","str.join",PySem.F.plainAttrs_str,PySem.F.slot_str_join,PySem.F.type_str_join,typeIs_str _ _ _,(fun z9 q=>Value.noConfusion q),callWith_builtin rfl (evalArgs_plain (spliced_cons ?_))⟩
 refine Ja.step hr2 (F.mono k1) H1 (P.at k1 h1 tk1).exc fun y σ2 hr3 vy h2 tk2 g2 k2 H2 R2=>spliced_nil ?_
 refine rR hr3 P fun w hw P=>cV hw fun l hl hw=>cV hw fun ss hss hw=>gf hw fun hok e=>?_
 refine VR.lst' (X:=X) (s:={ s with heap:=h2,toks:=tk2 }) H2 R2 hl fun D vs ev T Rs sz=>?_
 refine ob_1_2 (jI hss Rs) fun ts e1 e2=>?_
 subst ev e1
 exact SC.join T rfl (e2.symm▸hok) fun t' k=>P _ h2 _ g2 (k1.trans k2) H2 (Option.some.inj e▸e2▸.str _ _)
end
end Mine.Internal
end
section
open PySem PySem.W PyProof.Rows PySem.Calls
set_option genCtorIdx false
namespace Mine.Internal
theorem er{α β γ:Type}(x:cR α)(f:α→St→cR β)(k:β→St→cR γ):(x.bind f).bind k=x.bind fun a σ=>(f a σ).bind k:=by
 cases x with
 | none=>rfl
 | some r=>cases r<;>rfl
inductive KR (g:Gh):List (Str×Value)→List (Str×V)→Prop
 | nil:KR g [] []
 | cons {k:Str} {v:Value} {x:V} {vs:List (Str×Value)} {xs:List (Str×V)}:VR g v x→KR g vs xs→KR g ((k,v)::vs) ((k,x)::xs)
theorem KR.keys{g:Gh}{kvs:List (Str×Value)}{d:List (Str×V)}(R:KR g kvs d):kvs.map (·.1)=d.map (·.1):=by
 induction R with
 | nil=>rfl
 | cons a b ih=>simp [ih]
theorem KR.length{g:Gh}{kvs:List (Str×Value)}{d:List (Str×V)}(R:KR g kvs d):kvs.length=d.length:=by simpa using congrArg List.length R.keys
theorem g_:∀ {d:List (Str×V)},cn d↔(d.map (·.1)).Nodup
 | []=>by simp [cn]
 | (k,v)::r=>by
  unfold cn
  rw [List.map_cons,List.nodup_cons,g_ (d:=r)]
  refine and_congr_left fun z9=>⟨fun h q=>?_,fun h p hp q=>h ?_⟩
  ·obtain ⟨p,hp,e⟩:=List.mem_map.mp q
   exact h p hp e
  ·rw [← q];exact List.mem_map.mpr ⟨p,hp,rfl⟩
theorem DR.pairs{prog:Program}{w:World}{g:Gh}{es:List DictEntry}{d:List (Str×V)}(D:DR w g es d):∃ kvs,Pairs (strKind prog w) es kvs∧KR g kvs d:=by
 induction D with
 | nil=>exact ⟨[],.nil,.nil⟩
 | @cons e k x es' d' a b _ ih=>
  refine ob_1_2 ih fun kvs h1 h2=>?_
  obtain ⟨⟨t,hk⟩,hh⟩:=a
  exact ⟨(k,e.val)::kvs,.cons (by rw [hk];exact strKind_is prog w k t) rfl h1,.cons b h2⟩
theorem DR.of_pairs{prog:Program}{w:World}{g:Gh}{es:List DictEntry}{kvs:List (Str×Value)}(h:Pairs (strKind prog w) es kvs):∀ {d:List (Str×V)},(∀ e∈es,∃ k,(strKind prog w).is k e.key=true∧e.hash=(strKind prog w).hash k)→KR g kvs d→DR w g es d:=by
 induction h with
 | nil=>intro d _ R;cases R;exact .nil
 | @cons e kv es' kvs' a b _ ih=>
  intro d hk R
  cases R with
  | @cons k v x vs xs r1 r2=>
   obtain ⟨t,ht⟩:=Value.isStrOf_shape (show Value.isStrOf k e.key=true from a)
   refine ob_1_2 (hk e (.head _)) fun k' h1 h2=>?_
   have:k'=k:=Value.isStrOf_inj e.key k' k h1 a
   subst this
   exact .cons ⟨⟨t,ht⟩,h2⟩ (by rw [b];exact r1) (ih (fun e he=>hk e (.tail _ he)) r2)
set_option tactic.hygienic true in
theorem KR.stored{g:Gh}{k:Str}{v:Value}{x:V}(hv:VR g v x){kvs:List (Str×Value)}{d:List (Str×V)}(R:KR g kvs d):cn d→KR g (PySem.stored kvs k v) (nR k x d):=by
 induction R with
 | nil=>intro _;exact .cons hv .nil
 | cons a b ih=>
  rename_i k' v' x' vs xs
  intro hd
  obtain ⟨h1,h2⟩:=hd
  have ih:=ih h2
  unfold PySem.stored at ih ⊢
  unfold nR
  by_cases q:k'=k
  ·subst q
   have e1:(List.map (fun kv:Str×Value=>if kv.1=k' then (kv.1,v) else kv) vs)=vs:=by
    have:∀ p∈vs,(if p.1=k' then (p.1,v) else p)=p:=fun p hp=>by
     rw [if_neg]
     intro e
     have:p.1∈xs.map (·.1):=b.keys▸List.mem_map_of_mem hp
     refine ob_1_2 (List.mem_map.mp this) fun p' hp' e'=>?_
     exact h1 p' hp' (e'.trans e)
    rw [List.map_congr_left this];simp
   simp only [List.any_cons,decide_true,Bool.true_or,if_true,List.map_cons,e1]
   exact .cons hv b
  ·rw [if_neg q]
   simp only [List.any_cons,decide_eq_false q,Bool.false_or,List.map_cons,if_neg q]
   split
   ·rename_i c;rw [if_pos c] at ih;exact .cons a ih
   ·rename_i c;rw [if_neg c] at ih;exact .cons a ih
theorem sh{k:Str}{x:V}:∀ {d:List (Str×V)},∀ p∈(nR k x d).map (·.1),p=k∨p∈d.map (·.1)
 | [],p,h=>by simp [nR] at h;exact .inl h
 | (k',v)::r,p,h=>by
  unfold nR at h
  split at h
  ·exact .inr (by simpa using h)
  ·rcases List.mem_cons.mp (by simpa using h:p∈k'::(nR k x r).map (·.1)) with q | q
   ·exact .inr (by simp [q])
   ·rcases sh p q with z | z
    ·exact .inl z
    ·exact .inr (by simp only [List.map_cons];exact .tail _ z)
set_option tactic.hygienic true in
theorem my{k:Str}{x:V}:∀ {d:List (Str×V)},cn d→cn (nR k x d)
 | [],_=>⟨by simp,trivial⟩
 | (k',v)::r,h=>by
  unfold nR
  split
  ·exact h
  ·rename_i q
   refine ⟨fun p hp e=>?_,my h.2⟩
   rcases sh p.1 (List.mem_map_of_mem hp) with z | z
   ·exact q (e▸z)
   ·obtain ⟨p',hp',e'⟩:=List.mem_map.mp z
    exact h.1 p' hp' (e'.trans e)
section
variable {X:Cx} {A:Around} {env:Env} {nm:List Str} {g:Gh} {oth:List (Addr×Obj)} {σ:St} {s:Shared}
theorem CR.dictOf{h:Heap}{a:Addr}{o:Obj}{d:List (Str×V)}(C:CR X.w g o (.dict d))(e:h.get? a=some o):∃ kvs,h.DictOf (strKind X.prog X.w) a kvs∧KR g kvs d∧cn d:=by
 cases C with
 | dict p q r t u=>
  refine ob_1_2 (t.pairs (prog:=X.prog)) fun kvs h1 h2=>?_
  exact ⟨kvs,⟨o,_,_,e,⟨p,q.1,q.2⟩,r,fun e he=>t.keys e (by simpa using he),by simpa using h1,by simp only [h2.keys];exact g_.mp u⟩,h2,u⟩
theorem CR.of_dictOf{h:Heap}{a:Addr}{kvs:List (Str×Value)}{d:List (Str×V)}(D:h.DictOf (strKind X.prog X.w) a kvs)(R:KR g kvs d):∃ o,h.get? a=some o∧CR X.w g o (.dict d):=by
 refine ob_3_6 D fun o es ep e p r t u v=>?_
 refine ⟨o,e,.dict (es:=es.toList) (n:=ep) p.1 p.2 r (DR.of_pairs u (fun e he=>t e (by simpa using he)) R) ?_⟩
 simp only [g_,← R.keys];exact v
theorem mz:∀ {ks:List Str},j_ ks=true→ks.Nodup:=by
 intro ks
 induction ks with
 | nil=>intro _;exact .nil
 | cons k r ih=>
  intro h
  unfold j_ at h
  simp only [Bool.and_eq_true,Bool.not_eq_true',List.any_eq_false] at h
  exact List.nodup_cons.mpr ⟨fun q=>h.1 k q (decide_eq_true rfl),ih h.2⟩
theorem kT{k:Option Expr}{ks:List (Option Expr)}{xs:List Str}(h:gY (k::ks)=some xs):∃ x n p ys,k=some (.Constant (.str x) n p)∧gY ks=some ys∧xs=x::ys:=by
 refine ob_1_2 (Option.bind_eq_some_iff.mp h) fun e hk h2=>?_
 refine ob_1_2 (Option.bind_eq_some_iff.mp h2) fun x hx h3=>?_
 refine ob_1_2 (Option.map_eq_some_iff.mp h3) fun ys hy h4=>?_
 refine ob_2_1 (tM hx) fun n p he=>?_
 exact ⟨x,n,p,ys,by simp only [hk,he],hy,h4.symm⟩
inductive JD (X:Cx) (A:Around) (env:Env) (nm:List Str):List (Option Expr)→List Expr→List Str→List PE→Prop
 | nil:JD X A env nm [] [] [] []
 | cons {x:Str} {k0:Nat} {kp:Pos} {ks:List (Option Expr)} {e:Expr} {es:List Expr} {xs:List Str} {p:PE} {ps:List PE}:JE X A env nm e p→JD X A env nm ks es xs ps→JD X A env nm (some (.Constant (.str x) k0 kp)::ks) (e::es) (x::xs) (p::ps)
theorem JD.facts{keys:List (Option Expr)}{es:List Expr}{ks:List Str}{ps:List PE}(J:JD X A env nm keys es ks ps):keys.all (·.isSome)=true∧keys.length=es.length∧keys.length=ks.length:=by
 induction J with
 | nil=>exact ⟨rfl,rfl,rfl⟩
 | cons a b ih=>exact ⟨by simpa using ih.1,by simp [ih.2.1],by simp [ih.2.2]⟩
theorem JD.step{pos:Pos}{keys:List (Option Expr)}{es:List Expr}{ks:List Str}{ps:List PE}(J:JD X A env nm keys es ks ps):∀ {α:Type} {ρ:ck} {σ:St} {f:List V→St→cR α} {r:jE α} (hr:(lJ X.C ρ ps σ).bind f=some r)
  {g:Gh} {oth:List (Addr×Obj)} (F:eV A g oth env nm ρ) {s:Shared} {Q1:List (Value×Value)→Shared→Prop} {E:Value→Shared→Prop} (H:HI X.w X.base g oth σ s.heap)
  (PE:∀ v σ',r=.exc v σ'→∀ e h tk g',g.le g'→HI X.w X.base g' oth σ' h→VR g' (.ref e) v→kD X.base e h→E (.ref e) { s with heap:=h,toks:=tk })
  (k:∀ vs σ',f vs σ'=some r→vs.length=ks.length→∀ pairs kvs h tk g',g.le g'→HI X.w X.base g' oth σ' h→Carries (strKind X.prog X.w) pairs kvs→kvs.map (·.1)=ks→KR g' kvs (ks.zip vs)→Q1 pairs { s with heap:=h,toks:=tk }),
  wpAny X.M A (evalPairs (pairTrees keys es env pos)) Q1 E s:=by
 induction J with
 | nil=>
  intro α ρ σ f r hr g oth F s Q1 E H PE k
  exact pairTrees_nil_walk (k [] σ hr rfl [] [] s.heap s.toks g (.refl g) H trivial rfl .nil)
 | @cons x k0 kp ks' e es' xs' p ps' a b ih=>
  intro α ρ σ f r hr g oth F s Q1 E H PE k
  rw [q_cons,er] at hr
  have hr':(ev X.C ρ p σ).bind (fun v σ=>(lJ X.C ρ ps' σ).bind fun vs σ=>f (v::vs) σ)=some r:=by
   simp only [← hr]
   congr 1
   funext v σ
   simp only [er];rfl
  refine pairTrees_cons_walk (wpAny_Constant_str ?_)
  refine a.step (s:={ s with toks:=s.toks+1 }) hr' F H PE fun v σ1 hr1 val h1 tk1 g1 k1 H1 R1=>?_
  refine ih (s:={ s with heap:=h1,toks:=tk1 }) hr1 (F.mono k1) H1 (fun v σ' q e h tk g' kk H' R' Fl=>PE v σ' q e h tk g' (k1.trans kk) H' R' Fl) fun vs σ2 hr2 hl pairs kvs h2 tk2 g2 k2 H2 C2 e2 R2=>?_
  exact k (v::vs) σ2 hr2 (by simp [hl]) _ ((x,val)::kvs) h2 tk2 g2 (k1.trans k2) H2 ⟨strKind_is _ _ _ _,rfl,C2⟩ (by simp [e2]) (.cons (R1.mono k2) R2)
theorem AI{pos:Pos}:JE X A env nm (.Dict [] [] pos) (.dct [] []):=by
 intro ρ σ r hr g oth F s Q E H P
 refine gf (Cf.symm.trans hr) fun z9 hr=>cV hr fun d hd hr=>gf hr fun z9 hr=>?_
 have e2:(σ++[kO.dict []]).set σ.length (.dict ([].zip []))=σ++[.dict []]:=by simp
 refine wpAny_Dict_empty ?_
 refine lQ ((congrArg (bv (V.dct σ.length)) e2).symm.trans hr) (D:=eh X g oth s Q E) P _ _ s.toks (g.addCa s.heap.objs.size) (.addCa ..) (H.addCa (Heap.get?_push_size _ rfl) (fun z9 z9 e=>Heap.get?_push_of_some _ e) (.dict (es:=[]) rfl ⟨rfl,rfl⟩ rfl .nil trivial) (Nat.le_refl _)) (.dct ?_)
 exact H.len▸List.getElem?_concat_length ..
theorem Dy{keys:List (Option Expr)}{es:List Expr}{ks:List Str}{ps:List PE}{pos:Pos}(J:JD X A env nm keys es ks ps)(h0:keys≠[]):JE X A env nm (.Dict keys es pos) (.dct ks ps):=by
 intro ρ σ r hr g oth F s Q E H P
 refine gf (Cf.symm.trans hr) fun c hr=>jF c fun c c3=>jF c fun c1 c2=>gk J.facts fun f1 f2 f3=>?_
 have H0:HI X.w X.base (g.addCa s.heap.objs.size) oth (σ++[.dict []]) (s.heap.push { cls:=.type "dict",data:=.dict #[] }):=
  H.addCa (Heap.get?_push_size _ rfl) (fun z9 z9 e=>Heap.get?_push_of_some _ e) (.dict (es:=[]) rfl ⟨rfl,rfl⟩ rfl .nil trivial) (Nat.le_refl _)
 have k0:=Gh.le.addCa g s.heap.objs.size
 have a0:(g.addCa s.heap.objs.size).ca[σ.length]?=some s.heap.objs.size:=H.len▸List.getElem?_concat_length ..
 refine wpAny_Dict_walk (knd:=strKind X.prog X.w) f1 f2 h0 (Nat.le_trans (f3▸of_decide_eq_true c3) (by decide)) (J.step (s:={ s with heap:=s.heap.push { cls:=.type "dict",data:=.dict #[] } }) hr (F.mono k0) H0 (P.at k0 _ s.toks).exc fun vs σ1 hr1 hl pairs kvs h1 tk1 g1 k1 H1 C1 e1 R1=>?_)
 refine cV hr1 fun d hd hr1=>gf hr1 fun he hr1=>?_
 have ca1:=k1.get a0
 refine ob_2_3 (H1.cells _ _ (lY hd)) fun a' o' q1 q2 q3=>?_
 obtain rfl:=Option.some.inj (q1.symm.trans ca1)
 refine ob_1_3 (CR.dictOf (X:=X) q3 q2) fun kvs0 d0 r0 z9=>?_
 have hk0:kvs0=[]:=List.length_eq_zero_iff.mp (r0.length.trans (List.length_eq_zero_iff.mpr (List.isEmpty_iff.mp he)))
 subst hk0
 refine ⟨kvs,C1,d0,fun h' D' hs'=>?_⟩
 have hn:(kvs.map (·.1)).Nodup:=e1▸mz c1
 refine ob_1_2 (CR.of_dictOf (X:=X) (merged_nil_of_nodup _ hn▸D') R1) fun o2 g2 c2=>?_
 exact lQ hr1 (D:=eh X g oth s Q E) P _ h' _ g1 (k0.trans k1) (H1.setCell ca1 hs' g2 c2) (.dct ca1)
theorem KR.valueAt{kvs:List (Str×Value)}{d:List (Str×V)}(R:KR g kvs d)(x:Str):match look x d with
  | some v=>∃ val,PySem.valueAt kvs x=some val∧VR g val v
  | none=>PySem.valueAt kvs x=none:=by
 induction R with
 | nil=>rfl
 | @cons k v y vs xs a b ih=>
  unfold look PySem.valueAt
  by_cases q:k=x
  ·rw [if_pos q]
   exact ⟨v,by rw [List.find?_cons_of_pos (by simpa using q)];rfl,a⟩
  ·rw [if_neg q,List.find?_cons_of_neg (by simpa using q)]
   exact ih
theorem wt{pos:Pos}:∀ {keys:List (Option Expr)} {vals:List Expr} {ks:List Str} {is:List Int},gY keys=some ks→mZ vals=some is→ks.length=is.length→∀ {s:Shared} {Q:List (Value×Value)→Shared→Prop} {E:Value→Shared→Prop},
  (∀ pairs kvs tk,Carries (strKind X.prog X.w) pairs kvs→kvs.map (·.1)=ks→KR g kvs (ks.zip (is.map .int))→Q pairs { s with toks:=tk })→wpAny X.M A (evalPairs (pairTrees keys vals env pos)) Q E s:=by
 intro keys
 induction keys with
 | nil=>
  intro vals ks is h1 h2 hl s Q E k
  obtain rfl:=Option.some.inj h1
  cases vals with
  | nil=>obtain rfl:=Option.some.inj h2;exact pairTrees_nil_walk (k [] [] s.toks trivial rfl .nil)
  | cons e vals=>
   obtain ⟨i,_,h3⟩:=Option.bind_eq_some_iff.mp h2
   obtain ⟨is',_,rfl⟩:=Option.map_eq_some_iff.mp h3
   cases hl
 | cons key keys ih=>
  intro vals ks is h1 h2 hl s Q E k
  refine ob_4_3 (kT h1) fun x n p ys hq224_4 hy hq224_6=>?_
  subst hq224_4
  subst hq224_6
  cases vals with
  | nil=>obtain rfl:=Option.some.inj h2;cases hl
  | cons e vals=>
   obtain ⟨i,hi,h3⟩:=Option.bind_eq_some_iff.mp h2
   obtain ⟨is',e2,rfl⟩:=Option.map_eq_some_iff.mp h3
   refine ob_2_1 (lV hi) fun k1 ip hq230_2=>?_
   subst hq230_2
   refine pairTrees_cons_walk (wpAny_Constant_str (wpAny_Constant_int ?_))
   refine ih hy e2 (Nat.succ.inj hl) fun pairs kvs tk C e R=>?_
   exact k _ ((x,_)::kvs) tk ⟨strKind_is _ _ _ _,rfl,C⟩ (by simp only [List.map_cons,e]) (.cons (.int i _) R)
theorem wu(x:Str):∀ (ks:List Str) (is:List Int),look x (ks.zip (is.map V.int))=(bE x (ks.zip is)).map V.int:=by
 intro ks
 induction ks with
 | nil=>intro is;rfl
 | cons k ks ih=>
  intro is
  cases is with
  | nil=>rfl
  | cons i is=>
   show (if k=x then some (V.int i) else look x (ks.zip (is.map V.int)))=(if x=k then some i else bE x (ks.zip is)).map V.int
   by_cases q:k=x
   ·rw [if_pos q,if_pos q.symm];rfl
   ·rw [if_neg q,if_neg fun e=>q e.symm];exact ih is
theorem yb{kvs:List (Str×Value)}{ks:List Str}{is:List Int}(R:KR g kvs (ks.zip (is.map .int)))(x:Str)(d:Int)(t:Tok):VR g ((PySem.valueAt kvs x).getD (.int d t)) (.int ((bE x (ks.zip is)).getD d)):=by
 have:=R.valueAt x
 rw [wu] at this
 cases q:bE x (ks.zip is) with
 | none=>rw [q] at this;rw [show PySem.valueAt kvs x=none from this];exact .int d t
 | some i=>
  rw [q] at this
  refine ob_1_2 this fun val h1 h2=>?_
  rw [h1];exact h2
theorem AJ(hs:∃ o,X.base.get? sysModules=some o){keys:List (Option Expr)}{vals:List Expr}{ks:List Str}{is:List Int}{dp ap xp cp pos:Pos}{x:Str}{i c:Nat}{d:Int}(h1:gY keys=some ks)(h2:mZ vals=some is)(h0:keys≠[])
  (hk:keys.all (·.isSome)=true) (hkl:keys.length=ks.length) (hvl:vals.length=is.length) (hline:(ap.endLine == pos.line)=true) (hl:bt env.scope.names x=true) (hi:bD nm x=some i) :
  JE X A env nm (.Call (.Attribute (.Dict keys vals dp) "get" ap) [.Name x xp,.Constant (.int d) c cp] [] pos) (.dget ks is i d):=by
 intro ρ σ r hr g oth F s Q E H P
 refine rR (CY.symm.trans hr) P fun z hz P=>cV hz fun y hv hz=>gf hz fun c e=>cV hv fun v hv hw=>jF c fun c c3=>jF c fun c1 c2=>?_
 obtain rfl:=gZ hw
 obtain rfl:=Option.some.inj e
 refine Call_method2 (fM rfl _ _ _) (mx rfl rfl) hline ?_
 have c2:=of_decide_eq_true c2
 refine wpAny_Dict_walk (knd:=strKind X.prog X.w) hk (hkl.trans (c2.trans hvl.symm)) h0 (Nat.le_trans (hkl▸of_decide_eq_true c3) (by decide)) (wt (g:=g) h1 h2 c2 fun pairs kvs tk C e R=>?_)
 refine ⟨kvs,C,Heap.DictOf.new _,fun h' D' hs'=>?_⟩
 have D':=merged_nil_of_nodup kvs ((congrArg List.Nodup e).mpr (mz c1))▸D'
 have H':HI X.w X.base g oth σ h':=H.grow fun b o q=>(hs'.2 b (Nat.ne_of_lt (Heap.lt_size q))).trans (Heap.get?_push_of_some _ q)
 refine hs.elim fun os hso=>?_
 have hd:(s.heap.objs.size == sysModules)=false:=beq_false_of_ne (Nat.ne_of_gt (Heap.lt_size (H.hb _ _ hso)))
 refine ⟨"dict","dict.get",PySem.F.plainAttrs_dict,PySem.F.slot_dict_get,PySem.F.type_dict_get,D'.typeIs,D'.mapOf.noDict,wpAny_dict_get2 (knd:=strKind X.prog X.w) hd ?_⟩
 refine (F.has x i _ hi hl (jW hv)).elim fun ok q=>q.elim fun val q=>?_
 refine wpAny_Name (fP F.fn ok q.1 H' (wpAny_Constant_int ?_)) ok.1
 refine VR.eS q.2 fun t0=>?_
 exact ⟨y,_,strKind_is _ _ _ _,D'.mapOf,P _ h' _ g (.refl g) H' (yb R y d _)⟩
end
end Mine.Internal
end
section
open PySem PySem.W PyProof.Rows PySem.Calls
set_option genCtorIdx false
namespace Mine.Internal
structure Ct (base:Heap) (K:Frag) (meths:List (Str×Nat)) (fI:Addr):Prop extends KOK base K where
 mMeth:∀ m k,bE m meths=some k→∃ f,findIn K (.ref cQ) m=some (some (.ref f))∧typeIn K (.ref f)=some (.type "function")∧t7 base f
 cSet:findIn K (.ref cQ) "__setattr__"=some (some (.builtin "object.__setattr__"))
 cOver:plainOver K cQ=true
 cTaker:∀ a,fD a=true→takerIn K cQ a=some none
 cMakes:makesIn K cQ=true
 cInit:findIn K (.ref cQ) "__init__"=some (some (.ref fI))
 cInitF:typeIn K (.ref fI)=some (.type "function")
 cKeep:keepIn K (.ref cQ)=true
section
variable {X:Cx} {A:Around} {env:Env} {nm:List Str} {g:Gh} {oth:List (Addr×Obj)} {σ:St} {s:Shared} {K:Frag} {meths fns:List (Str×Nat)} {fI:Addr}
theorem AK{σ:St}{m:Str}{v:V}{u:Unit}(h:jP σ m v=some u){C:Prop}(k:∀ n d,pS v=some n→lN σ n=some d→look m d=none→C):C:=
 cV h fun d hd h=>cV hd fun n hn hd=>gf h fun hl z9=>k n d hn hd (Option.isNone_iff_eq_none.mp hl)
theorem DR.noRef{w:World}{es:List DictEntry}{d:List (Str×V)}(D:DR w g es d):es.any (·.refKey)=false:=by
 induction D with
 | nil=>rfl
 | cons a b _ ih=>
  refine bC a fun hq30_0 z9=>?_
  obtain ⟨t,hk⟩:=hq30_0
  simp only [List.any_cons,ih]
  unfold DictEntry.refKey
  rw [hk];rfl
theorem oU{w:World}{es:List DictEntry}{d:List (Str×V)}(D:DR w g es d){o:Obj}{n:Nat}(ho:o.data=.dict es.toArray n){x:Str}(hv:Mine.Internal.look x d=none):lookIn x o=some none:=by
 unfold PySem.W.lookIn
 simp only [ho]
 simp only [oQ]
 rw [show es.find? (fun e=>Value.isStrOf x e.key)=none from (D.look x).2 hv]
 dsimp only
 rw [if_neg (by rw [D.noRef];decide)]
theorem HI.inst(H:HI X.w X.base g oth σ s.heap){val:Value}{v:V}{n:Nat}(R:VR g val v)(hn:pS v=some n){d:List (Str×V)}(hd:lN σ n=some d){C:Prop}
  (k:∀ x dx sl o es k,val=.ref x→g.ca[n]?=some dx→InstAt s.heap x ⟨.ref cQ,some dx,.plain,sl⟩ cQ (some o)→s.heap.get? dx=some o→o.cls=.type "dict"→o.data=.dict es.toArray k→DR X.w g es d→cn d→C):C:=
 ob_2_3 (qg hn▸R).inv fun x d' ex h1 h2=>(H.him _ h1).1.elim fun sl e1=>ob_2_3 (H.cells _ _ (oF hd)) fun a' o q1 q2 q3=>ob_2_4 q3.inv fun es m r1 r2 r3 r4=>
  have q2:=Option.some.inj (q1.symm.trans h2)▸q2
  k x d' sl o es m ex h2 ⟨e1,rfl,rfl,q2⟩ q2 r1 r2 r3 r4
theorem si{as:List Expr}{pos:Pos}(hn:as.all bw=true)(hl:as.length<29) :
  methodCallForm (as.length+([]:List Keyword).length) (backTo pos (starEach as env)) (backToKw pos (keywordEach [] env))=true:=by
 unfold methodCallForm
 have h1:=bW (env:=env) (pos:=pos) hn
 have h2:(backTo pos (starEach as env)).all (fun x=>!x.1)=true:=by
  rw [List.all_eq_not_any_not]
  simp only [Bool.not_not]
  rw [h1];rfl
 simp only [h2]
 refine (?_:(true&&true&&decide (as.length+0+0<30))=true)
 simp;lia
theorem AL(KO:Ct X.base K meths fI){m:Str}{k:Nat}(hm:bE m meths=some k)(SC:∀ a,findIn K (.ref cQ) m=some (some (.ref a))→l5 X A a k)
  {o:Expr} {po:PE} {apos pos:Pos} (hb:fv o=true) (hline:(apos.endLine == pos.line)=true) (Jo:JE X A env nm o po)
  {as:List Expr} {ps:List PE} (Js:JL X A env nm as ps) (hn:as.all bw=true) (hl:as.length<29):JE X A env nm (.Call (.Attribute o m apos) as [] pos) (.meth k m po ps):=by
 intro ρ σ r hr g oth F s Q E H P
 simp only [arm_eval_Call,fM hb]
 refine wpAny_bind (Jo.step (ax.symm.trans hr) F H P.exc fun v σ1 hr1 ov h1 tk1 g1 k1 H1 R1=>?_)
 refine xN hr1 fun z9 hv hr2=>AK hv fun n d hn9 hd hlk=>?_
 refine wpAny_bind (wpAny_standAt ?_)
 have hpos:methodCallPos true o env apos pos=pure pos:=by unfold methodCallPos;simp [hline]
 refine ob_1_3 (KO.mMeth m k hm) fun f f1 f2 f3=>?_
 refine HI.inst (X:=X) (s:={ s with heap:=h1,toks:=tk1 }) H1 R1 hn9 hd fun x dx sl ob es k' hq76_6 e1 I e2 e3 e4 D z9=>?_
 subst hq76_6
 have KI:K.In h1:=fun b o e=>H1.hb _ _ (KO.inB b o e)
 unfold methodCall
 rw [si hn hl]
 refine wpAny_bind (wpAny_holding (method_fn (s:={ s with heap:=h1,toks:=tk1 }) KI I (plainGet_of (name:="") KO.cGet).1 (plainGet_of (name:="") KO.cGet).2 f1 f2 (by show (lookIn m ob).map _=_;rw [oU D e4 hlk];rfl) ?_))
 refine wpAny_bind (wpAny_of_eq hpos ?_)
 refine ob_2_2 f3 fun o0 fd0 e0 d0=>?_
 refine callWith_function (o:=o0) (fd:=fd0) (eY (bW hn) (Js.step hr2 (F.mono k1) H1 (P.at k1 h1 tk1).exc fun vs σ2 hr3 vals h2 tk2 g2 k2 H2 R2=>⟨⟨H2.hb _ _ e0,d0⟩,wpAny_call ?_⟩))
 exact SC f f1 _ σ2 r hr3 g2 oth F.fr { s with heap:=h2,toks:=tk2 } (.ref x::vals) Q E H2 (.cons (R1.mono k2) R2) ((P.at k1 h1 tk1).at k2 h2 tk2)
theorem oV(T:jZ X fns)(O:dI env)(hk:env.scope.kind=.function){x:Str}{C:Addr}(hx:∀ mg:Str→Option Value,(mg "Raised"=some (Value.ref br)∧mg "Comp"=some (Value.ref cQ))→mg x=some (Value.ref C))(hd:(x == ("__debug__":Str))=false)(hg:bz env.scope.names x=true){np:Pos}(H:HI X.w X.base g oth σ s.heap){Q E:Value→Shared→Prop}{M:Model}
  (h:Q (.ref C) s):wpAny M A (eval (.Name x np) env) Q E s:=by
 refine ob_2_6 T.glob fun mg mb h1 h2 h3 h4 h5 z9=>?_
 exact Name_function_global hk (O.k x hg) (loadGlobal_global (by rw [O.g];exact h1.keeps H.hb) (hx mg ⟨h4,h5⟩) h) hd
theorem t_(T:jZ X fns)(O:dI env)(KO:Ct X.base K meths fI){k:Nat}(SC:∀ c,l5 X (A.under (.builtin "type.__call__" c)) fI k)(hfr:∀ c oth,nT A oth→nT (A.under (.builtin "type.__call__" c)) oth)(hg:bz env.scope.names "Comp"=true)
  {as:List Expr} {ps:List PE} {np pos:Pos} (Js:JL X A env nm as ps) (hn:as.all bw=true):JE X A env nm (.Call (.Name "Comp" np) as [] pos) (.newInst k ps):=by
 intro ρ σ r hr g oth F s Q E H P
 refine cP (oV T O F.fn (C:=cQ) (fun mg h=>h.2) (by decide) hg H ?_)
 refine callWith_of (P:=K.In) (by rw [bW hn];rfl) (keeps_K KO.cKeep) (eY (bW hn) (Js.step hr F H P.exc fun vs σ1 hr1 vals h1 tk1 g1 k1 H1 R1=>⟨fun b o e=>H1.hb _ _ (KO.inB b o e),?_⟩))
 have KI:K.In h1:=fun b o e=>H1.hb _ _ (KO.inB b o e)
 refine wpAny_call (make_core (makes_of KI KO.cMakes) (looks_findIn KI KO.cInit) (fun self=>bind_fn KI self KO.cInitF) (.inl rfl) ?_)
 have H2:HI X.w X.base (g1.addCa h1.objs.size) oth (σ1++[.attrs []]) (h1.push emptyDict):=
  H1.addCa (Heap.get?_push_size _ rfl) (fun z9 z9 e=>Heap.get?_push_of_some _ e) (.attrs (es:=[]) rfl rfl .nil trivial) (Nat.le_refl _)
 have H3:=H2.pushIm (o:=instObj cQ h1.objs.size) rfl ⟨(show Value.ref cQ≠.ref br by decide),(show Value.ref cQ≠.type "traceback" by decide)⟩
 rw [Heap.size_push] at H3
 have k3:g1.le ((g1.addCa h1.objs.size).addIm (h1.objs.size+1) (instObj cQ h1.objs.size)):=(Gh.le.addCa ..).trans (.addIm ..)
 have Ri:VR ((g1.addCa h1.objs.size).addIm (h1.objs.size+1) (instObj cQ h1.objs.size)) (.ref (h1.objs.size+1)) (.inst σ1.length):=.inst (.head _) (by simp [← H1.len])
 refine rQ hr1 (fun v σ' q1 q2=>?_) fun v σ' q1 q2=>?_
 ·refine codeAny_mono (SC _ _ _ _ q1 _ oth (hfr _ _ F.fr) _ _ (fun z9 z9=>False) E H3 (.cons Ri (R1.mono k3)) ?_) fun rr s' z=>?_
  ·subst q2
   intro e h tk g' kk H' R' Fl
   exact P e h tk g' ((k1.trans k3).trans kk) H' R' Fl
  ·rcases rr with e | (v | _ | _ | _)<;>first | exact z | exact z.elim
 ·refine gf q2 fun hn q2=>?_
  refine codeAny_mono (SC _ _ _ _ q1 _ oth (hfr _ _ F.fr) _ _ (fun v s'=>v=.none∧Q (.ref (h1.objs.size+1)) s') E H3 (.cons Ri (R1.mono k3)) ?_) fun rr s' z=>?_
  ·intro val h tk g' kk H' R'
   exact ⟨(jX hn▸R').inv,lQ q2 (D:=eh X g oth s Q E) P _ h tk g' ((k1.trans k3).trans kk) H' (Ri.mono kk)⟩
  ·rcases rr with e | (v | _ | _ | _)<;>first | exact z | exact z.elim
end
end Mine.Internal
end
section
open PySem PySem.W PyProof.Rows PySem.Calls PySem.Builtin.ObjectAttr
namespace Mine.Internal
theorem DR.putL{w:World}{g:Gh}{name:Str}{t:Tok}{v:Value}{x:V}(hv:VR g v x){es:List DictEntry}{d:List (Str×V)}(D:DR w g es d):DR w g (PySem.W.putL name (PyData.keyHash w.params name) (.str name t) v es) (nR name x d):=by
 induction D with
 | nil=>exact .cons ⟨⟨t,rfl⟩,rfl⟩ hv .nil
 | @cons e k y es' d' a b c ih=>
  have hi:e.key.isStr name=decide (k=name):=by
   refine bC a fun hq10_0 hh=>?_
   obtain ⟨t,hk⟩:=hq10_0
   rw [hk]
   exact og k name
  unfold PySem.W.putL nR
  rw [hi]
  by_cases q:k=name
  ·simp only [decide_eq_true q,if_true,if_pos q]
   exact .cons a hv c
  ·simp only [decide_eq_false q,Bool.false_eq_true,if_false,if_neg q]
   exact .cons a b ih
theorem DR.length{w:World}{g:Gh}{es:List DictEntry}{d:List (Str×V)}(D:DR w g es d):es.length=d.length:=by
 induction D with
 | nil=>rfl
 | cons a b c ih=>simp [ih]
theorem l7(k:Str)(x:V):∀ d:List (Str×V),(nR k x d).length≤d.length+1
 | []=>by simp [nR]
 | (k',v)::r=>by
  unfold nR
  split
  ·simp
  ·have:=l7 k x r
   simp;lia
noncomputable abbrev kU(w:World)(name:Str)(t:Tok)(v:Value)(o:Obj):Obj:=Obj.putName name (PyData.keyHash w.params name) (.str name t) v o
theorem ly{w:World}{g:Gh}{name:Str}{t:Tok}{v:Value}{x:V}(hv:VR g v x){o:Obj}{es:List DictEntry}{n:Nat}{d:List (Str×V)}(ho:o.data=.dict es.toArray n)(D:DR w g es d) :
  ∃ es' n',(kU w name t v o).data=.dict es'.toArray n'∧DR w g es' (nR name x d)∧(kU w name t v o).cls=o.cls∧(kU w name t v o).dict=o.dict:=by
 obtain ⟨oc,od,oda,osl⟩:=o
 dsimp only at ho
 subst ho
 have e:=putName_dict name (PyData.keyHash w.params name) (.str name t) v es n
 refine (ib_2_4 (PySem.W.putL name (PyData.keyHash w.params name) (.str name t) v es) (putN name es n) ?_ (D.putL hv) ?_ ?_)
 ·have h2:(Obj.putName name (PyData.keyHash w.params name) (.str name t) v ⟨oc,od,.dict es.toArray n,osl⟩).data=(Obj.putName name (PyData.keyHash w.params name) (.str name t) v (dictOf es n)).data:=by
   simp only [Obj.putName_eq]
   unfold Obj.putNameByArray dictOf
   dsimp only
   split<;>rfl
  simp only [h2,e]
 ·unfold kU
  simp only [Obj.putName_eq]
  unfold Obj.putNameByArray
  dsimp only
  split<;>rfl
 ·unfold kU
  simp only [Obj.putName_eq]
  unfold Obj.putNameByArray
  dsimp only
  split<;>rfl
theorem m7{o:Obj}{es:Array DictEntry}{n:Nat}(h:o.data=.dict es n):o.isFreed=false:=by
 obtain ⟨_,_,dd,_⟩:=o
 subst h;rfl
section
variable {prog:Program} {w:World} {A:Around} {E:Value→Shared→Prop} {s:Shared} {g:Gh}
theorem oW{dx:Addr}{o:Obj}{es:List DictEntry}{n:Nat}{d:List (Str×V)}{name:Str}{tk:Tok}{v:Value}{x:V}{Q:Fin→Shared→Prop}(D:s.heap.get? dx=some o)(ho:o.data=.dict es.toArray n)(R:DR w g es d)(hv:VR g v x)(hl:d.length≤900)
  (h:∀ h',Heap.SameBut dx s.heap h'→h'.get? dx=some (kU w name s.toks v o)→Q (.done (.ret .none)) { s with heap:=h',toks:=s.toks+1 }) :
  wpAny (model prog w) A (storeInDict dx (.str name tk) name v) Q E s:=by
 refine ob_2_4 (ly (t:=s.toks) (name:=name) hv ho R) fun es' n' e1 R' z9 z9=>?_
 have hq:=h _ (Heap.SameBut.update ..) (Heap.get?_update_self (kU w name s.toks v) D (m7 e1))
 have hsz:es'.length≤1000:=by rw [R'.length];have:=l7 name x d;lia
 refine wpAny_bind (wpAny_pure (wpAny_bind ?_))
 refine wpAny_bind (wpAny_bind (wpAny_askSetting (wpAny_pure (wpAny_bind (wpAny_mkText (wpAny_bind (wpAny_loadPart D ?_)))))))
 rw [ho]
 dsimp only
 have c:(!es.toArray.any (·.key.isStr name)&&es.toArray.any (·.refKey))=false:=by
  have:=R.noRef
  simp only [List.any_toArray,this,Bool.and_false]
 rw [aRefKeyMayBeTheName_at,c]
 refine wpAny_updatePart D ?_
 refine wpAny_bind (wpAny_lookBehind (s:={ s with heap:=_,toks:=_ }) (Heap.get?_update_self (kU w name s.toks v) D (m7 e1)) (by rw [e1];exact pastItsLine_dict (by rw [List.size_toArray,sizeLine_eq];lia)) ?_)
 exact wpAny_pure hq
theorem yc{K:Frag}{x dx:Addr}{ox o:Obj}{es:List DictEntry}{n:Nat}{d:List (Str×V)}{name:Str}{v:Value}{y:V}{Q:Unit→Shared→Prop}{C:Addr}(X:K.In s.heap)(I:InstAt s.heap x ox C (some o))(hd:ox.dict=some dx)
  (hs:findIn K (.ref C) "__setattr__"=some (some (.builtin "object.__setattr__"))) (hp:plainOver K C=true) (ht:takerIn K C name=some none) (hh:hasDictIn K C=true)
  (ho:o.data=.dict es.toArray n) (R:DR w g es d) (hv:VR g v y) (hl:d.length≤900)
  (h:∀ h',Heap.SameBut dx s.heap h'→h'.get? dx=some (kU w name (s.toks+1) v o)→Q () { s with heap:=h',toks:=s.toks+2 }) :
  wpAny (model prog w) A (setAttr (.ref x) name v) Q E s:=by
 refine set_plain X I hs (osa_open (s:={ s with toks:=s.toks+1 }) X I hp ht fun b=>?_)
 refine rO fun C kC=>?_
 refine ob_1_2 (any_some hh) fun cd hc hd'=>?_
 obtain ⟨hx,hcl,hn,hdi⟩:=I
 obtain ⟨oc,odi,oda,osl⟩:=ox
 refine kC ?_
 dsimp only at hcl hd hdi
 subst hcl hd
 refine wpAny_bind (wpAny_pure (wpAny_bind (wpAny_bind (wpAny_loadPart hx (wpAny_bind (looks_clsIn (h:=s.heap) X hc _ _ _ _ (fun z9 z9 e=>e) ?_))))))
 rw [hd']
 refine wpAny_pure (a:=some dx) ?_
 exact oW (s:={ s with toks:=s.toks+1 }) hdi ho R hv hl fun h' hs' he'=>h h' hs' he'
theorem vm{K:Frag}{x C:Addr}{ox:Obj}{od:Option Obj}{cd:ClassData}{name:Str}{tk:Tok}{v:Value}{R:Result→Shared→Prop}(X:K.In s.heap)(I:InstAt s.heap x ox C od)(hc:clsIn K C=some cd)(hm:cd.mro=[.ref C,.type "Exception",.type "BaseException",.type "object"])
  (ht:takerIn K C name=some none)
  (h:∀ b,wpAny (model prog w) A.in1 (storeInOwnDict (.ref x) (.ref C) (.str name tk) name v b)
   (fun fY s'=>match fY with | .done f=>R (.ok f) s' | .again c'=>c'.quiet=true∧codeAny (model prog w) A c' R s') (fun e s'=>R (.error e) s') s) :
  codeAny (model prog w) A (.call (.builtin "object.__setattr__") ⟨[.ref x,.str name tk,v],[]⟩) R s:=by
 have SF:=PySem.F.store_object
 have ne:cd.mro.isEmpty=false:=by rw [hm];rfl
 have ho:cd.mro.contains (.type "object")=true:=by rw [hm];simp
 have sub:Looks (model prog w) s.heap (isInstance (.ref x) (.type "object")) true:=I.type.andThen (looks_mroIn X (by unfold mroIn;rw [hc,Option.bind_some,if_neg (by rw [ne];decide),ho]))
 refine codeAny_call_builtin SF.slot.plain SF.entry (@check_slot (model prog w) _ _ s "object.__setattr__" "object" "__setattr__" (.ref x) [.str name tk,v] [] _ SF.kind SF.split sub (SF.args (.ref x) (.str name tk) v) ?_)
 refine ob_1_2 (Option.bind_eq_some_iff.mp ht) fun attr ha hr=>?_
 have hmr:Looks (model prog w) s.heap (mroOf (.ref C)) cd.mro:=(looks_clsIn X hc).andThen .now
 have L3:Looks (model prog w) s.heap (storeTaker? attr) none:=by
  cases attr with
  | none=>cases hr;exact .now
  | some a=>
   refine ob_1_2 (Option.map_eq_some_iff.mp hr) fun b hb hb'=>?_
   cases b with
   | true=>cases hb'
   | false=>exact (looks_takesIn X hb).andThen .now
 simp only [osa_eq,refuse_eq]
 refine wpAny_bind (wpAny_bind (I.type.here (wpAny_bind (hmr.here ?_))))
 simp only [hm,refuseLoop_ref,PySem.F.store_Exception.passes]
 refine wpAny_pure (wpAny_bind (I.type.here (wpAny_bind ((looks_findIn X ha).here (wpAny_bind (L3.here ?_))))))
 exact h _
theorem yd{K:Frag}{x dx C:Addr}{cd:ClassData}{ox o:Obj}{es:List DictEntry}{n:Nat}{d:List (Str×V)}{name:Str}{v:Value}{y:V}{Q:Unit→Shared→Prop}(X:K.In s.heap)(I:InstAt s.heap x ox C (some o))(hd:ox.dict=some dx)
  (hs:findIn K (.ref C) "__setattr__"=some (some (.builtin "object.__setattr__"))) (hc:clsIn K C=some cd) (hm:cd.mro=[.ref C,.type "Exception",.type "BaseException",.type "object"]) (hh:cd.hasDict=true) (ht:takerIn K C name=some none)
  (ho:o.data=.dict es.toArray n) (R:DR w g es d) (hv:VR g v y) (hl:d.length≤900)
  (h:∀ h',Heap.SameBut dx s.heap h'→h'.get? dx=some (kU w name (s.toks+1) v o)→Q () { s with heap:=h',toks:=s.toks+2 }) :
  wpAny (model prog w) A (setAttr (.ref x) name v) Q E s:=by
 refine set_plain X I hs (vm (s:={ s with toks:=s.toks+1 }) X I hc hm ht fun b=>?_)
 obtain ⟨hx,hcl,hn,hdi⟩:=I
 obtain ⟨oc,odi,oda,osl⟩:=ox
 dsimp only at hcl hd hdi
 subst hcl hd
 refine wpAny_bind (wpAny_pure (wpAny_bind (wpAny_bind (wpAny_loadPart hx (wpAny_bind (looks_clsIn (h:=s.heap) X hc _ _ _ _ (fun z9 z9 e=>e) ?_))))))
 rw [hh]
 refine wpAny_pure (a:=some dx) ?_
 exact oW (s:={ s with toks:=s.toks+1 }) hdi ho R hv hl fun h' hs' he'=>h h' hs' he'
theorem ye{K:Frag}{x C:Addr}{cd:ClassData}{ox:Obj}{vs:Array Value}{name:Str}{v:Value}{y:V}{Q:Unit→Shared→Prop}(X:K.In s.heap)(I:InstAt s.heap x ox C none)(hd:ox.dict=none)(hdat:ox.data=.fields vs)
  (hs:findIn K (.ref C) "__setattr__"=some (some (.builtin "object.__setattr__"))) (hc:clsIn K C=some cd) (hm:cd.mro=[.ref C,.type "Exception",.type "BaseException",.type "object"]) (hh:cd.hasDict=true) (ht:takerIn K C name=some none)
  (hv:VR g v y)
  (h:∀ h',(∀ b o,b≠x→s.heap.get? b=some o→h'.get? b=some o)→h'.get? x=some { ox with dict:=some s.heap.objs.size }→h'.get? s.heap.objs.size=some (kU w name (s.toks+1) v emptyDict)→Q () { s with heap:=h',toks:=s.toks+2 }) :
  wpAny (model prog w) A (setAttr (.ref x) name v) Q E s:=by
 refine set_plain X I hs (vm (s:={ s with toks:=s.toks+1 }) X I hc hm ht fun b=>?_)
 obtain ⟨hx,hcl,hn,hdi⟩:=I
 obtain ⟨oc,odi,oda,osl⟩:=ox
 dsimp only at hcl hd hdat
 subst hcl hd hdat
 refine wpAny_bind (wpAny_pure (wpAny_bind (wpAny_bind (wpAny_loadPart hx (wpAny_bind (looks_clsIn (h:=s.heap) X hc _ _ _ _ (fun z9 z9 e=>e) ?_))))))
 rw [hh]
 have hx₁:(s.heap.push emptyDict).get? x=some ⟨.ref C,none,.fields vs,osl⟩:=Heap.get?_push_of_some _ hx
 have hxs:x≠s.heap.objs.size:=Nat.ne_of_lt (Heap.lt_size hx)
 refine wpAny_bind (wpAny_alloc (wpAny_bind (wpAny_update hx₁ ?_)))
 refine wpAny_pure ?_
 have hgd:((s.heap.push emptyDict).update x fun o=>{ o with dict:=some s.heap.objs.size }).get? s.heap.objs.size=some emptyDict:=
  (Heap.get?_update_ne _ _ _ _ hxs.symm).trans (Heap.get?_push_at rfl rfl)
 refine oW (g:=g) (es:=[]) (d:=[]) (x:=y) (s:={ s with heap:=_,toks:=s.toks+1 }) hgd rfl .nil hv (by simp) fun h' hs' he'=>?_
 refine h h' (fun b o hb e=>(hs'.2 b (Nat.ne_of_lt (Heap.lt_size e))).trans ((Heap.get?_update_ne _ _ _ _ hb).trans (Heap.get?_push_of_some _ e))) ?_ he'
 exact (hs'.2 x hxs).trans (Heap.get?_update_self _ hx₁ rfl)
end
end Mine.Internal
end
section
open PySem PySem.W PyProof.Rows PySem.Calls
set_option genCtorIdx false
namespace Mine.Internal
inductive gd (base:Heap) (e:Addr) (h:Heap):Prop
 | mk (d:Addr) (vs:Array Value) (sl:Array (Option Value)) (a0:Value) (T:Addr) (oT:Obj) (ts:Array Value) (x:Value):h.get? e=some ⟨.ref br,some d,.fields vs,sl⟩→vs[0]?=some a0→1<vs.size→vs[1]?=some (.ref T)→base.get? T=none→T≠e→h.get? T=some oT→oT.cls=.type "traceback"→oT.data=.fields ts→ts[3]?=some x→gd base e h
theorem gd.E{base:Heap}{e:Addr}{h:Heap}(F:gd base e h){C:Prop}(k:∀ (d:Addr) (vs:Array Value) (sl:Array (Option Value)) (a0:Value) (T:Addr) (oT:Obj) (ts:Array Value) (x:Value),h.get? e=some ⟨.ref br,some d,.fields vs,sl⟩→vs[0]?=some a0→1<vs.size→vs[1]?=some (.ref T)→base.get? T=none→T≠e→h.get? T=some oT→oT.cls=.type "traceback"→oT.data=.fields ts→ts[3]?=some x→C):C:=by
 cases F with | mk d vs sl a0 T oT ts x a1 a2 a3 a4 a5 a6 a7 a8 a9 b1=>exact k d vs sl a0 T oT ts x a1 a2 a3 a4 a5 a6 a7 a8 a9 b1
theorem gd.fly{base:Heap}{e:Addr}{h:Heap}(F:gd base e h):kD base e h:=F.E fun d vs sl a0 T oT ts x h1 h2 h3 h4 h5 h6 h7 h8 h9 h10=>⟨d,vs,sl,a0,h1,h2,h3,.inr ⟨T,oT,ts,x,h4,h5,h6,h7,h8,h9,h10⟩⟩
theorem ew{oth:List (Addr×Obj)}(nd:(oth.map (·.1)).Nodup){p q:Addr×Obj}(hp:p∈oth)(hq:q∈oth)(e:p.1=q.1):p=q:=by
 induction oth with
 | nil=>cases hp
 | cons x r ih=>
  simp only [List.map_cons,List.nodup_cons] at nd
  rcases List.mem_cons.mp hp with h1 | h1<;>rcases List.mem_cons.mp hq with h2 | h2
  ·simp only [h1,h2]
  ·exact absurd (List.mem_map.mpr ⟨q,h2,by rw [← e,h1]⟩) nd.1
  ·exact absurd (List.mem_map.mpr ⟨p,h1,by rw [e,h2]⟩) nd.1
  ·exact ih nd.2 h1 h2
section
variable {w:World} {base:Heap} {g g':Gh} {oth:List (Addr×Obj)} {σ:St} {h h':Heap}
theorem HI.touched(H:HI w base g oth σ h)(S R:List Addr)(e d:Addr)(hS:∀ b∈S,∃ o,(b,o)∈oth∧o.cls=.type "frame")
  (hR:∀ b∈R,base.get? b=none∧∀ o,h.get? b=some o→o.cls=.type "traceback") (hen:base.get? e=none) (he:∃ vs sl,h.get? e=some ⟨.ref br,some d,.fields vs,sl⟩) (he':∃ vs sl,h'.get? e=some ⟨.ref br,some d,.fields vs,sl⟩)
  (k:∀ b o,b∉S→b∉R→b≠e→h.get? b=some o→h'.get? b=some o) (ks:∀ b o,b∈S→h.get? b=some o→∃ sl,h'.get? b=some { o with slots:=sl }):HI w base g oth σ h':=by
 obtain ⟨vs0,sl0,he⟩:=he
 have noR:∀ b o,h.get? b=some o→o.cls≠.type "traceback"→b∉R:=fun b o q n m=>n ((hR b m).2 o q)
 have noE:∀ b o,h.get? b=some o→o.cls≠.ref br→b≠e:=fun b o q n m=>by subst m;rw [he] at q;obtain rfl:=Option.some.inj q;exact n rfl
 have oS:∀ b,b∈S→b∈g.ca++oth.map (·.1):=fun b m=>List.mem_append_right _ (let ⟨o,h1,_⟩:=hS b m;List.mem_map.mpr (ib_1_2 _ h1 rfl))
 refine ⟨fun b o q=>?_,fun p hp=>⟨?_,(H.him p hp).2⟩,fun p hp=>?_,H.len,fun i c q=>?_,fun p hp=>⟨?_,(H.hoth p hp).2⟩,H.nd,H.sep,fun p hp qf=>?_⟩
 ·refine k b o (fun m=>?_) (fun m=>?_) (fun m=>?_) (H.hb b o q)
  ·rw [(H.sep b (oS b m)).1] at q;exact cq q
  ·rw [(hR b m).1] at q;exact cq q
  ·subst m;rw [hen] at q;exact cq q
 ·obtain ⟨⟨sl,q⟩,n⟩:=H.him p hp
  exact ⟨sl,k _ _ (fun m=>(H.sep _ (oS _ m)).2 p hp rfl) (noR _ _ q n.2) (noE _ _ q n.1) q⟩
 ·obtain ⟨a,vs,sl,q⟩:=H.hxs p hp
  refine ⟨a,?_⟩
  by_cases hpe:p.1=e
  ·obtain ⟨vs',sl',q'⟩:=he'
   have:p.2=d:=by simp only [hpe,he] at q;cases q;rfl
   exact (ib_2_1 vs' sl' (by rw [hpe,this];exact q'))
  ·by_cases hpS:p.1∈S
   ·obtain ⟨sl',q'⟩:=ks _ _ hpS q
    exact (ib_2_1 vs sl' q')
   ·exact (ib_2_1 vs sl (k _ _ hpS (noR _ _ q (show (Value.ref br)≠.type "traceback" by intro q;cases q)) hpe q))
 ·refine ob_2_3 (H.cells i c q) fun a o x y z=>?_
  have c1:o.cls≠.type "traceback"∧o.cls≠.ref br:=by
   cases z with
   | list a b c d=>rw [a];exact ⟨by decide,by decide⟩
   | dict a b c d=>rw [a];exact ⟨by decide,by decide⟩
   | attrs a b c d=>rw [a];exact ⟨by decide,by decide⟩
  refine (ib_2_3 a o x (k _ _ (fun m=>?_) (noR _ _ y c1.1) (noE _ _ y c1.2) y) z)
  exact (List.nodup_append.mp H.nd).2.2 a (List.mem_of_getElem? x) a (let ⟨o,h1,_⟩:=hS a m;List.mem_map.mpr (ib_1_2 _ h1 rfl)) rfl
 ·obtain ⟨⟨sl,q⟩,n⟩:=H.hoth p hp
  by_cases hpS:p.1∈S
  ·obtain ⟨sl',q'⟩:=ks _ _ hpS q
   exact ⟨sl',q'⟩
  ·exact ⟨sl,k _ _ hpS (noR _ _ q n.2) (noE _ _ q n.1) q⟩
 ·have q:=H.hex p hp qf
  have n:=(H.hoth p hp).2
  refine k _ _ (fun m=>?_) (noR _ _ q n.2) (noE _ _ q n.1) q
  obtain ⟨o,h1,h2⟩:=hS _ m
  have:p=(p.1,o):=ew (List.nodup_append.mp H.nd).2.1 hp h1 rfl
  rw [this] at qf
  exact qf h2
theorem nT.funFrames{A:Around}{l:List Env}(K:nT A oth)(hl:A.frames=some l)(H:HI w base g oth σ h):h.FunFrames base l∧∀ b∈l.filterMap (·.frame),∃ o,(b,o)∈oth∧o.cls=.type "frame":=by
 refine ob_1_2 K fun l' h1 h2=>?_
 rw [hl] at h1;cases h1
 clear hl
 induction l with
 | nil=>exact ⟨trivial,fun b hb=>by simp at hb⟩
 | cons e r ih=>
  refine bC (ih fun e he=>h2 e (.tail _ he)) fun i1 i2=>?_
  obtain ⟨k1,L,o,k2,k3,k4,k5'⟩:=h2 e (.head _)
  refine bC (H.hoth _ k3) fun hq75_0 z9=>?_
  obtain ⟨sl,k5⟩:=hq75_0
  have hm:L∈oth.map (·.1):=List.mem_map.mpr (ib_1_2 _ k3 rfl)
  refine ⟨⟨k1,(ib_2_4 L _ k2 ((H.sep L (List.mem_append_right _ hm)).1) k5 k4),i1⟩,fun b hb=>?_⟩
  simp only [List.filterMap_cons,k2] at hb
  refine Or.elim (List.mem_cons.mp hb) (fun ho79_0=>?_) fun hb=>?_
  ·subst ho79_0
   exact ⟨o,k3,k5'⟩
  ·exact i2 b hb
end
section
variable {X:Cx} {A:Around} {env:Env} {g:Gh} {oth:List (Addr×Obj)} {σ:St} {s:Shared} {M:Model}
theorem sj{base:Heap}{e0:Env}{pd:List Env}{L:Addr}{Q:Value→Shared→Prop}{E:Value→Shared→Prop}(hfr:A.frames=some (e0::pd))(hl:s.heap.FunFrames base (e0::pd))
  (h0:e0.frame=some L) (hf:env.frame=some L) (h:∀ h',Heap.SlotsOnly ((e0::pd).filterMap (·.frame)) s.heap h'→Q (.ref L) { s with heap:=h' }):wpAny M A (PySem.frameOf env) Q E s:=by
 refine wpAny_bind (wpAny_frameEnvs hfr ?_)
 have hdw:((e0::pd).dropWhile fun x=>x.frame != env.frame)=e0::pd:=by simp [List.dropWhile,h0,hf]
 rw [hdw]
 refine wpAny_bind (wpAny_bind (wpAny_readyFrames_fun hl fun h₁ hs₁=>wpAny_pure ?_))
 rw [h0]
 exact wpAny_pure (h h₁ hs₁)
noncomputable abbrev Gy(A:Around)(env:Env):Prop:=∃ L,env.frame=some L∧∃ e0 rest,A.frames=some (e0::rest)∧e0.frame=some L
theorem oX{L:Addr}{e d:Addr}{head:Value}{hadNext:Bool}{Q:Unit→Shared→Prop}{E:Value→Shared→Prop}{e0:Env}{rest:List Env}(H:HI X.w X.base g oth σ s.heap)(K:nT A oth)(hfr:A.frames=some (e0::rest))(h0:e0.frame=some L)(hf:env.frame=some L)
  {vs:Array Value} {sl:Array (Option Value)} {a0:Value} (he:s.heap.get? e=some ⟨.ref br,some d,.fields vs,sl⟩) (hen:X.base.get? e=none) (ha:vs[0]?=some a0) (hsz:1<vs.size)
  (h:∀ h',HI X.w X.base g oth σ h'→gd X.base e h'→Q () { s with heap:=h' }) :
  wpAny M A (do setField (.ref e) 1 (← EntryCells.newEntry head (← PySem.frameOf env) .none (rawInt L) .none (← entryPlaceOf L hadNext))) Q E s:=by
 obtain ⟨hl,hS⟩:=K.funFrames hfr H
 refine wpAny_bind (sj hfr hl h0 hf fun h₁ hs₁=>?_)
 refine wpAny_bind (wpAny_entryPlaceOf fun pl hpl=>?_)
 unfold EntryCells.newEntry newFields
 have hene:e∉(e0::rest).filterMap (·.frame):=fun hm=>by
  obtain ⟨_,o,ho,hnf⟩:=hl.mem hm
  rw [he] at ho;injection ho with ho;subst ho;exact hnf vs rfl
 have he₁:h₁.get? e=some ⟨.ref br,some d,.fields vs,sl⟩:=(hs₁.2.1 e hene).trans he
 have H1:HI X.w X.base g oth σ h₁:=H.touched _ [] e d hS (fun b hb=>nomatch hb) hen ⟨_,_,he⟩ ⟨_,_,he₁⟩ (fun b o h1 z9 z9 q=>(hs₁.2.1 b h1).trans q) fun b o z9 q=>hs₁.2.2 b o q
 refine wpAny_bind (wpAny_newObj_type ?_ (hpl.sizeOk5 _ _ _ _ _))
 have H2:=H1.pushAny { cls:=.type "traceback",dict:=none,data:=.fields ([head,.ref L,.none,rawInt L,.none]++(if pl.isEmpty then List.replicate 6 Value.none else pl)).toArray }
 have he₂:=Heap.get?_push_of_some (h:=h₁) { cls:=.type "traceback",dict:=none,data:=.fields ([head,.ref L,.none,rawInt L,.none]++(if pl.isEmpty then List.replicate 6 Value.none else pl)).toArray } he₁
 refine wpAny_setField he₂ rfl hsz ?_
 have hTe:h₁.objs.size≠e:=Nat.ne_of_gt (Heap.lt_size he₁)
 have hd₃:(Obj.mapFields (·.setIfInBounds 1 (Value.ref h₁.objs.size)) ⟨.ref br,some d,.fields vs,sl⟩).data=.fields (vs.setIfInBounds 1 (Value.ref h₁.objs.size)):=Obj.data_mapFields rfl _
 have he₃:=Heap.get?_update_self (Obj.mapFields (·.setIfInBounds 1 (Value.ref h₁.objs.size))) he₂ (Obj.isFreed_of_fields hd₃)
 have hT₃:=(Heap.get?_update_other (h₁.push { cls:=.type "traceback",dict:=none,data:=.fields ([head,.ref L,.none,rawInt L,.none]++(if pl.isEmpty then List.replicate 6 Value.none else pl)).toArray })
  (Obj.mapFields (·.setIfInBounds 1 (Value.ref h₁.objs.size))) (Ne.symm hTe)).trans (Heap.get?_push_size h₁ rfl)
 refine h _ (H2.touched [] [] e d (fun b hb=>nomatch hb) (fun b hb=>nomatch hb) hen ⟨_,_,he₂⟩ ⟨_,_,he₃⟩ (fun b o z9 z9 hb q=>(Heap.get?_update_other _ _ (Ne.symm hb)).trans q) fun b o hb=>nomatch hb) ?_
 refine ⟨d,vs.setIfInBounds 1 (.ref h₁.objs.size),sl,a0,h₁.objs.size,_,_,rawInt L,he₃,by rw [Array.getElem?_setIfInBounds_ne (by decide)];exact ha,by simpa using hsz,by simp [hsz],H1.base_none (Nat.le_refl _),hTe,hT₃,rfl,rfl,?_⟩
 first | (simp;done) | (rcases hpl with rfl | ⟨_,_,_,_,_,_,_,rfl⟩<;>simp)
theorem VR.isExc(H:HI X.w X.base g oth σ s.heap){e:Addr}{v:V}(R:VR g (.ref e) v)(F:kD X.base e s.heap):∃ c x,v=.exc c x:=by
 refine kD.E F fun d vs sl a0 he z9 z9 z9=>?_
 have im:∀ {o:Obj},(e,o)∈g.im→o.cls≠.ref br→False:=fun h1 h2=>by
  refine bC (H.him _ h1) fun hq124_0 z9=>?_
  obtain ⟨sl',q⟩:=hq124_0
  rw [he] at q
  exact h2 (congrArg Obj.cls (Option.some.inj q)).symm
 have ce:∀ {n:Nat},g.ca[n]?=some e→False:=fun {n} hn=>by
  refine ob_1_1 (List.getElem?_eq_some_iff.mp hn) fun hl z9=>?_
  have hs:n<σ.length:=H.len▸hl
  refine ob_2_3 (H.cells n σ[n] (by simp [hs])) fun a' o x y z=>?_
  rw [hn] at x;obtain rfl:=Option.some.inj x
  rw [he] at y;obtain rfl:=Option.some.inj y
  generalize σ[n]=c9 at z
  cases z with
  | list a _ _ _=>cases a
  | dict a _ _ _=>cases a
  | attrs a _ _ _=>cases a
 cases R with
 | tup h1 h2 _ _=>exact (im h1 (by rw [h2];intro q;cases q)).elim
 | lst h1 h2 _ _=>exact (im h1 (by rw [h2];intro q;cases q)).elim
 | ref h1=>exact (ce h1).elim
 | dct h1=>exact (ce h1).elim
 | inst h1 _=>exact (im h1 (by show (Value.ref cQ)≠.ref br;decide)).elim
 | exc _ _ _ _ _ _ _ _ _ _=>exact (ib_2_1 _ _ rfl)
theorem vn{e:Addr}{v:V}{Q:Unit→Shared→Prop}{E:Value→Shared→Prop}(H:HI X.w X.base g oth σ s.heap)(K:nT A oth)(T:Gy A env)(R:VR g (.ref e) v)(F:kD X.base e s.heap)
  (h:∀ h',HI X.w X.base g oth σ h'→gd X.base e h'→Q () { s with heap:=h' }):wpAny M A (noteFrame (.ref e) env) Q E s:=by
 refine ob_2_1 (R.isExc H F) fun c x hq149_2=>?_
 subst hq149_2
 have hen:X.base.get? e=none:=by
  cases R with
  | exc h1=>exact (H.hxs _ h1).1
 refine rO fun C kC=>?_
 obtain ⟨L,hf,e0,rest,hfr,h0⟩:=T
 refine kD.E F fun d vs sl a0 he ha hsz hh=>?_
 refine kC ?_
 unfold noteFrame
 simp only [hf]
 refine Or.elim hh (fun h1=>?_) fun ho156_1=>?_
 ·refine wpAny_bind (wpAny_field he rfl h1 ?_)
  exact oX H K hfr h0 hf he hen ha hsz h
 ·obtain ⟨T,oT,ts,x3,h1,hnT,hTe,hT,hcT,hdT,h3⟩:=ho156_1
  refine wpAny_bind (wpAny_field he rfl h1 ?_)
  refine wpAny_bind (wpAny_field hT hdT h3 ?_)
  by_cases hq:(x3 == rawInt L)=true
  ·rw [if_pos hq]
   exact wpAny_pure (h _ H ⟨d,vs,sl,a0,T,oT,ts,x3,he,ha,hsz,h1,hnT,hTe,hT,hcT,hdT,h3⟩)
  ·rw [if_neg hq]
   refine wpAny_bind (wpAny_setField hT hdT (Array.getElem?_eq_some_iff.mp h3).1 ?_)
   have he₂:(s.heap.update T (Obj.mapFields (·.setIfInBounds 3 Value.none))).get? e=some ⟨.ref br,some d,.fields vs,sl⟩:=(Heap.get?_update_other _ _ hTe).trans he
   refine oX (s:={ s with heap:=s.heap.update T (Obj.mapFields (·.setIfInBounds 3 Value.none)) }) (H.touched [] [T] e d (fun b hb=>nomatch hb) (fun b hb=>?_) hen ⟨_,_,he⟩ ⟨_,_,he₂⟩ (fun b o z9 hb z9 q=>(Heap.get?_update_other _ _ fun z=>hb (by simp [z])).trans q) fun b o hb=>nomatch hb) K hfr h0 hf he₂ hen ha hsz h
   cases List.mem_singleton.mp hb
   exact ⟨hnT,fun o q=>by rw [hT] at q;obtain rfl:=Option.some.inj q;exact hcT⟩
theorem fX{e:Addr}{f:Option Addr}{v:V}{Q:Unit→Shared→Prop}{E:Value→Shared→Prop}(H:HI X.w X.base g oth σ s.heap)(R:VR g (.ref e) v)(F:gd X.base e s.heap)
  (h:∀ h',HI X.w X.base g oth σ h'→gd X.base e h'→Q () { s with heap:=h' }):wpAny M A (setFlight (.ref e) f) Q E s:=by
 refine ob_2_1 (R.isExc H F.fly) fun c x hq175_2=>?_
 subst hq175_2
 have hen:X.base.get? e=none:=by
  cases R with
  | exc h1=>exact (H.hxs _ h1).1
 refine gd.E F fun d vs sl a0 T oT ts x3 he ha hsz h1 hnT hTe hT hcT hdT h3=>?_
 unfold setFlight
 refine wpAny_bind (wpAny_field he rfl h1 ?_)
 rw [if_pos (show (Value.ref T != Value.none)=true from by simp)]
 refine wpAny_setField hT hdT (Array.getElem?_eq_some_iff.mp h3).1 ?_
 have he₂:∀ y,(s.heap.update T (Obj.mapFields (·.setIfInBounds 3 y))).get? e=some ⟨.ref br,some d,.fields vs,sl⟩:=fun y=>(Heap.get?_update_other _ _ hTe).trans he
 have hT₂:=fun y=>Heap.get?_update_self (Obj.mapFields (·.setIfInBounds 3 y)) hT (Obj.isFreed_of_fields (Obj.data_mapFields hdT _))
 refine h _ (H.touched [] [T] e d (fun b hb=>nomatch hb) (fun b hb=>?_) hen ⟨_,_,he⟩ ⟨_,_,he₂ _⟩ (fun b o z9 hb z9 q=>(Heap.get?_update_other _ _ fun z=>hb (by simp [z])).trans q) fun b o hb=>nomatch hb) ?_
 ·cases List.mem_singleton.mp hb
  exact ⟨hnT,fun o q=>by rw [hT] at q;obtain rfl:=Option.some.inj q;exact hcT⟩
 ·exact ⟨d,vs,sl,a0,T,_,_,_,he₂ _,ha,hsz,h1,hnT,hTe,hT₂ _,(Obj.cls_mapFields _ _).trans hcT,Obj.data_mapFields hdT _,by rw [Array.getElem?_setIfInBounds_self_of_lt (Array.getElem?_eq_some_iff.mp h3).1]⟩
theorem yf{E:Value→Shared→Prop}{e:Addr}{v:V}(K:nT A oth)(T:Gy A env)(H:HI X.w X.base g oth σ s.heap)(R:VR g (.ref e) v)(F:kD X.base e s.heap)
  (P:∀ h',HI X.w X.base g oth σ h'→gd X.base e h'→E (.ref e) { s with heap:=h' }):notedBy M A env (cameBackBy M A env E) (.ref e) s:=by
 refine (?_:wpAny M A (noteFrame (.ref e) env) (fun z9 s'=>cameBackBy M A env E (.ref e) s') _ s)
 refine vn H K T R F fun h' H' F'=>?_
 refine gd.E F' fun d vs sl a0 T oT ts x3 he ha hsz h1 hnT hTe hT hcT hdT h3=>?_
 show wpAny M A (do
  if (← field (.ref e) 1) == .none then unsupported "frame.own-activation:exception-without-traceback"
  setFlight (.ref e) env.frame) _ _ _
 refine wpAny_bind (wpAny_field (s:={ s with heap:=h' }) he rfl h1 ?_)
 first
  | exact wpAny_bind (wpAny_pure (fX (s:={ s with heap:=h' }) H' R F' fun h2 H2 F2=>P h2 H2 F2))
  | exact fX (s:={ s with heap:=h' }) H' R F' fun h2 H2 F2=>P h2 H2 F2
theorem Dz{Q:Value→Shared→Prop}{E:Value→Shared→Prop}{e:Addr}{v:V}(K:nT A oth)(T:Gy A env)(H:HI X.w X.base g oth σ s.heap)(R:VR g (.ref e) v)(F:kD X.base e s.heap)
  (P:∀ h',HI X.w X.base g oth σ h'→gd X.base e h'→Q (.ref e) { s with heap:=h' }):wpAny M A (leaving env (.ref e)) (fun z9 s'=>Q (.ref e) s') E s:=by
 refine wpAny_bind (vn H K T R F fun h' H' F'=>?_)
 exact fX (s:={ s with heap:=h' }) H' R F' fun h2 H2 F2=>P h2 H2 F2
end
end Mine.Internal
end
section
open PySem PySem.W PyProof.Rows PySem.Calls
set_option genCtorIdx false
namespace Mine.Internal
section
variable {w:World} {base:Heap} {g g':Gh} {oth:List (Addr×Obj)} {σ:St} {h h':Heap}
theorem HI.pushOth(H:HI w base g oth σ h){o:Obj}(hf:o.isFreed=false)(hn:NF o):HI w base g ((h.objs.size,o)::oth) σ (h.push o):=by
 have G:=H.pushAny o
 have e:=Heap.get?_push_size h hf
 have fr:=H.fresh (Nat.le_refl _)
 refine ⟨G.hb,G.him,G.hxs,G.len,G.cells,fun p hp=>?_,?_,fun b hb=>?_,fun p hp q=>?_⟩
 ·rcases List.mem_cons.mp hp with rfl | hp
  ·exact ⟨⟨o.slots,e⟩,hn⟩
  ·exact G.hoth p hp
 ·rw [List.map_cons,List.nodup_append,List.nodup_cons]
  have nd:=List.nodup_append.mp H.nd
  refine ⟨nd.1,⟨fun m=>fr (List.mem_append_right _ m),nd.2.1⟩,fun a ha b hb=>?_⟩
  refine Or.elim (List.mem_cons.mp hb) (fun ho18_0=>?_) fun hb=>?_
  ·subst ho18_0
   exact fun z=>fr (List.mem_append_left _ ((show a=h.objs.size from z)▸ha))
  ·exact nd.2.2 a ha b hb
 ·rcases List.mem_append.mp hb with q | q
  ·exact H.sep b (List.mem_append_left _ q)
  ·rw [List.map_cons] at q
   refine Or.elim (List.mem_cons.mp q) (fun ho24_0=>?_) fun q=>?_
   ·subst ho24_0
    exact ⟨H.base_none (Nat.le_refl _),fun p hp z=>absurd (z▸H.im_lt hp) (Nat.lt_irrefl _)⟩
   ·exact H.sep b (List.mem_append_right _ q)
 ·rcases List.mem_cons.mp hp with rfl | hp
  ·exact e
  ·exact G.hex p hp q
theorem HI.sub{oth':List (Addr×Obj)}(H:HI w base g oth' σ h)(hs:List.Sublist oth oth'):HI w base g oth σ h:=
 ⟨H.hb,H.him,H.hxs,H.len,H.cells,fun p hp=>H.hoth p (hs.mem hp),(List.Sublist.append (List.Sublist.refl _) (hs.map _)).nodup H.nd,fun b hb=>H.sep b (by
  refine Or.elim (List.mem_append.mp hb) (fun q=>?_) fun q=>?_
  ·exact List.mem_append_left _ q
  ·exact List.mem_append_right _ ((hs.map _).mem q)),fun p hp q=>H.hex p (hs.mem hp) q⟩
theorem HI.perm{oth':List (Addr×Obj)}(H:HI w base g oth' σ h)(hs:List.Perm oth oth'):HI w base g oth σ h:=
 ⟨H.hb,H.him,H.hxs,H.len,H.cells,fun p hp=>H.hoth p (hs.mem_iff.mp hp),(((hs.map _).append_left g.ca).nodup_iff).mpr H.nd,fun b hb=>H.sep b (((hs.map _).append_left g.ca).mem_iff.mp hb),fun p hp q=>H.hex p (hs.mem_iff.mp hp) q⟩
theorem HI.dropOth{p:Addr×Obj}(H:HI w base g (p::oth) σ h):HI w base g oth σ h:=H.sub (List.sublist_cons_self ..)
theorem HI.dropMid{pre post:List (Addr×Obj)}{p:Addr×Obj}(H:HI w base g (pre++p::post) σ h):HI w base g (pre++post) σ h:=H.sub (List.Sublist.append (List.Sublist.refl _) (List.sublist_cons_self ..))
theorem HI.dropBut{pre post:List (Addr×Obj)}{a:Addr}{o:Obj}(H:HI w base g (pre++(a,o)::post) σ h)(k:∀ b o,b≠a→h.get? b=some o→h'.get? b=some o):HI w base g (pre++post) σ h':=by
 have hm:a∈g.ca++(pre++(a,o)::post).map (·.1):=by simp
 have sp:=H.sep a hm
 have nd:=List.nodup_append.mp H.nd
 have D:=H.dropMid
 have hno:a∉(pre++post).map (·.1):=fun q=>by
  have n2:=nd.2.1
  simp only [List.map_append,List.map_cons,List.nodup_append,List.nodup_cons] at n2
  rw [List.map_append] at q
  refine Or.elim (List.mem_append.mp q) (fun q=>?_) fun q=>?_
  ·exact n2.2.2 a q a (.head _) rfl
  ·exact n2.2.1.1 q
 have hof:=(H.hoth (a,o) (by simp)).2
 refine ob_1_1 ((H.hoth (a,o) (by simp)).1) fun sl ho=>?_
 refine ⟨fun b o q=>k _ _ (fun z=>?_) (D.hb b o q),fun p hp=>⟨?_,(D.him p hp).2⟩,fun p hp=>?_,D.len,fun i c q=>?_,fun p hp=>⟨?_,(D.hoth p hp).2⟩,D.nd,D.sep,fun p hp q=>k _ _ (fun z=>hno (z▸List.mem_map_of_mem hp)) (D.hex p hp q)⟩
 ·subst z;rw [sp.1] at q;exact cq q
 ·obtain ⟨sl,q⟩:=(D.him p hp).1
  exact ⟨sl,k _ _ (sp.2 p hp) q⟩
 ·obtain ⟨x,vs,sl,q⟩:=D.hxs p hp
  refine ⟨x,vs,sl,k _ _ (fun z=>?_) q⟩
  rw [z,ho] at q
  exact hof.1 (congrArg Obj.cls (Option.some.inj q))
 ·refine ob_2_3 (D.cells i c q) fun b ob x y z=>?_
  exact (ib_2_3 b ob x (k _ _ (fun q=>by subst q;exact nd.2.2 _ (List.mem_of_getElem? x) _ (by simp) rfl) y) z)
 ·obtain ⟨sl,q⟩:=(D.hoth p hp).1
  exact ⟨sl,k _ _ (fun z=>hno (z▸List.mem_map_of_mem hp)) q⟩
theorem HI.toIm{pre post:List (Addr×Obj)}{a:Addr}{o:Obj}(H:HI w base g (pre++(a,o)::post) σ h):HI w base (g.addIm a o) (pre++post) σ h:=by
 refine bC (H.hoth (a,o) (by simp)) fun h1 h2=>?_
 refine H.dropMid.addIm h1 h2 fun q=>?_
 have nd:=List.nodup_append.mp H.nd
 refine Or.elim (List.mem_append.mp q) (fun q=>?_) fun q=>?_
 ·exact nd.2.2 a q a (by simp) rfl
 ·have n2:=nd.2.1
  simp only [List.map_append,List.map_cons,List.nodup_append,List.nodup_cons] at n2
  rw [List.map_append] at q
  refine Or.elim (List.mem_append.mp q) (fun q=>?_) fun q=>?_
  ·exact n2.2.2 a q a (.head _) rfl
  ·exact n2.2.1.1 q
end
inductive lL (g:Gh):V→Nat→Obj→Prop
 | lst {a:Addr} {l:List V} {i:Nat} {o:Obj}:VR g (.ref a) (.lst l)→o.cls=.type "list_iterator"→o.data=.fields #[.ref a,.int i 0]→lL g (.lst l) i o
 | ref {a:Addr} {n:Nat} {i:Nat} {o:Obj}:g.ca[n]?=some a→o.cls=.type "list_iterator"→o.data=.fields #[.ref a,.int i 0]→lL g (.ref n) i o
 | tup {a:Addr} {l:List V} {i:Nat} {o:Obj}:VR g (.ref a) (.tup l)→o.cls=.type "tuple_iterator"→o.data=.fields #[.ref a,.int i 0]→lL g (.tup l) i o
 | strA {x:Str} {t:Tok} {i:Nat} {o:Obj}:o.cls=.type "str_ascii_iterator"→o.data=.fields #[.str x t,.int i 0]→lL g (.str x) i o
 | strW {x:Str} {t:Tok} {i:Nat} {o:Obj}:o.cls=.type "str_iterator"→o.data=.fields #[.str x t,.int i 0]→lL g (.str x) i o
 | rng {k:Int} {i:Nat}:lL g (.int k) i { cls:=.type "range_iterator",dict:=none,data:=.fields #[rawInt i,rawInt ((k.toNat:Int)-i),rawInt 1],slots:=#[] }
theorem lL.mono{g g':Gh}(k:g.le g'){src:V}{i:Nat}{o:Obj}(I:lL g src i o):lL g' src i o:=by
 cases I with
 | lst a b c=>exact .lst (a.mono k) b c
 | ref a b c=>exact .ref (k.get a) b c
 | tup a b c=>exact .tup (a.mono k) b c
 | strA a b=>exact .strA a b
 | strW a b=>exact .strW a b
 | rng=>exact .rng
noncomputable def eZ(σ:St):V→Option (List V)
 | .str s=>some (s.cps.toList.map fun c=>.str ⟨#[c]⟩)
 | .int k=>some (rng k)
 | v=>dH σ v
theorem l9{σ:St}{n:Nat}{l:List V}(h:eZ σ (.ref n)=some l):σ[n]?=some (.list l):=by
 exact lX h
theorem lL.cls{g:Gh}{src:V}{i:Nat}{o:Obj}(I:lL g src i o):o.cls≠.type "frame":=by
 cases I with
 | rng=>show (Value.type "range_iterator")≠_;decide
 | lst a b c=>rw [b];decide
 | ref a b c=>rw [b];decide
 | tup a b c=>rw [b];decide
 | strA a b=>rw [a];decide
 | strW a b=>rw [a];decide
theorem sk{x:Str}{i:Nat}{v:V}(h:(x.cps.toList.map fun c=>V.str ⟨#[c]⟩)[i]?=some v):∃ c,x.cps[i]?=some c∧v=.str ⟨#[c]⟩:=by
 rw [List.getElem?_map] at h
 refine ob_1_2 (Option.map_eq_some_iff.mp h) fun c h1 h2=>?_
 exact (ib_1_2 c (by simpa using h1) h2.symm)
theorem rng_get{k:Int}{i:Nat}{v:V}(h:(rng k)[i]?=some v):i<k.toNat∧v=.int i:=by
 unfold rng at h
 rw [List.getElem?_map] at h
 refine ob_1_2 (Option.map_eq_some_iff.mp h) fun c h1 h2=>?_
 rw [List.getElem?_range] at h1
 ·obtain rfl:=Option.some.inj h1
  refine ⟨?_,h2.symm⟩
  by_cases q:i<k.toNat
  ·exact q
  ·exfalso
   simp_all
 ·by_cases q:i<k.toNat
  ·exact q
  ·have:(List.range k.toNat)[i]?=none:=List.getElem?_eq_none (by simpa using q)
   rw [this] at h1;exact cq h1
theorem oY(k:Int):(rng k).length=k.toNat:=by simp [rng]
section
variable {X:Cx} {A:Around} {g:Gh} {pre post:List (Addr×Obj)} {σ:St} {s:Shared} {I0:Addr} {o:Obj} {src:V} {i:Nat} {l:List V}
theorem qj(I:lL g src i o)(hl:eZ σ src=some l){v:V}(hv:l[i]?=some v)(H:HI X.w X.base g (pre++(I0,o)::post) σ s.heap){Q:Option Value→Shared→Prop}{E:Value→Shared→Prop}
  (k:∀ val h tk o',HI X.w X.base g (pre++(I0,o')::post) σ h→lL g src (i+1) o'→VR g val v→Q (some val) { s with heap:=h,toks:=tk }):wpAny X.M A (pyNext (.ref I0)) Q E s:=by
 have hx:=H.hex (I0,o) (by simp) I.cls
 have step:∀ {h':Heap} {o':Obj},Heap.SameBut I0 s.heap h'→h'.get? I0=some o'→lL g src (i+1) o'→NF o'→HI X.w X.base g (pre++(I0,o')::post) σ h':=fun {h' o'} hs e J n=>
  H.setOth hs ⟨o'.slots,e⟩ n fun z9=>e
 cases I with
 | lst a b c=>
  cases hl
  obtain ⟨a',vs,e1,T,Rs,sz⟩:=a.isLst H
  cases e1
  obtain ⟨val,h1,h2⟩:=Rs.get hv
  refine wpAny_pyNext_list_item (ib_1_3 _ hx b c) T (x:=val) (by simpa using h1) fun h' hit hs=>?_
  refine ob_1_3 hit fun o' e p q=>?_
  exact k val h' s.toks o' (step hs e (.lst a p q) (bV p (by decide))) (.lst a p q) h2
 | ref a b c=>
  have hn:=l9 hl
  refine ob_2_5 (VR.isRef H (.ref a) hn) fun a' vs e1 e2 T Rs sz=>?_
  cases e1
  refine ob_1_2 (Rs.get hv) fun val h1 h2=>?_
  refine wpAny_pyNext_list_item (ib_1_3 _ hx b c) T (x:=val) (by simpa using h1) fun h' hit hs=>?_
  refine ob_1_3 hit fun o' e p q=>?_
  exact k val h' s.toks o' (step hs e (.ref a p q) (bV p (by decide))) (.ref a p q) h2
 | tup a b c=>
  cases hl
  obtain ⟨a',vs,e1,T,Rs,sz⟩:=a.isTup H
  cases e1
  obtain ⟨val,h1,h2⟩:=Rs.get hv
  refine wpAny_pyNext_tuple_item (ib_1_3 _ hx b c) T (x:=val) (by simpa using h1) fun h' hit hs=>?_
  refine ob_1_3 hit fun o' e p q=>?_
  exact k val h' s.toks o' (step hs e (.tup a p q) (bV p (by decide))) (.tup a p q) h2
 | strA a b=>
  cases hl
  obtain ⟨c,h1,rfl⟩:=sk hv
  refine wpAny_pyNext_ascii_item (ib_1_3 _ hx a b) h1 fun h' hit hs=>?_
  obtain ⟨o',e,p,q⟩:=hit
  exact k _ h' _ o' (step hs e (.strA p q) (bV p (by decide))) (.strA p q) (.str _ _)
 | strW a b=>
  cases hl
  obtain ⟨c,h1,rfl⟩:=sk hv
  refine wpAny_pyNext_wide_item (ib_1_3 _ hx a b) h1 fun h' hit hs=>?_
  obtain ⟨o',e,p,q⟩:=hit
  exact k _ h' _ o' (step hs e (.strW p q) (bV p (by decide))) (.strW p q) (.str _ _)
 | @rng k0=>
  obtain rfl:=Option.some.inj hl
  refine bC (rng_get hv) fun h1 hq179_1=>?_
  subst hq179_1
  refine wpAny_pyNext_range_item (x:=(i:Int)) hx (by lia) fun h' hit hs=>?_
  have e2:IsRangeIter h' I0 ((i+1:Nat):Int) ((k0.toNat:Int)-((i+1:Nat):Int)) 1:=by
   have:(k0.toNat:Int)-((i+1:Nat):Int)=(k0.toNat:Int)-i-1:=by push_cast;lia
   simp only [this];exact hit
  exact k _ h' _ _ (step hs e2 .rng (bV rfl (by decide))) .rng (.int _ _)
theorem sm(hh:A.handled=none)(I:lL g src i o)(hl:eZ σ src=some l)(hv:l.length=i)(H:HI X.w X.base g (pre++(I0,o)::post) σ s.heap){Q:Option Value→Shared→Prop}{E:Value→Shared→Prop}
  (k:∀ h,HI X.w X.base g (pre++post) σ h→Q none { s with heap:=h }):wpAny X.M A (pyNext (.ref I0)) Q E s:=by
 have hx:=H.hex (I0,o) (by simp) I.cls
 have fY:∀ h',Heap.ExtBut I0 s.heap h'→Q none { s with heap:=h' }:=fun h' he=>k h' (H.dropBut fun b o hb e=>he b o hb e)
 cases I with
 | lst a b c=>
  cases hl
  obtain ⟨a',vs,e1,T,Rs,sz⟩:=a.isLst H
  cases e1
  exact wpAny_pyNext_list_end hh (ib_1_3 _ hx b c) T (by simp [Rs.length,hv]) fY
 | ref a b c=>
  have hn:=l9 hl
  refine ob_2_5 (VR.isRef H (.ref a) hn) fun a' vs e1 e2 T Rs sz=>?_
  cases e1
  exact wpAny_pyNext_list_end hh (ib_1_3 _ hx b c) T (by simp [Rs.length,hv]) fY
 | tup a b c=>
  cases hl
  obtain ⟨a',vs,e1,T,Rs,sz⟩:=a.isTup H
  cases e1
  exact wpAny_pyNext_tuple_end hh (ib_1_3 _ hx b c) T (by simp [Rs.length,hv]) fY
 | strA a b=>
  cases hl
  exact wpAny_pyNext_ascii_end hh (ib_1_3 _ hx a b) (by simp at hv;simp [hv]) fY
 | strW a b=>
  cases hl
  exact wpAny_pyNext_wide_end hh (ib_1_3 _ hx a b) (by simp at hv;simp [hv]) fY
 | @rng k0=>
  obtain rfl:=Option.some.inj hl
  rw [oY] at hv
  exact wpAny_pyNext_range_end hh hx (by lia) fY
end
section
variable {X:Cx} {A:Around} {g:Gh} {oth:List (Addr×Obj)} {σ:St} {s:Shared} {src:V}
noncomputable def yg:V→Bool
 | .lst _ | .tup _ | .ref _ | .str _=>true
 | _=>false
theorem ke{val:Value}(R:VR g val src){l:List V}(hi:eZ σ src=some l)(hs:yg src=true)(H:HI X.w X.base g oth σ s.heap){Q:Value→Shared→Prop}{E:Value→Shared→Prop}
  (k:∀ I0 o h,HI X.w X.base g ((I0,o)::oth) σ h→lL g src 0 o→Q (.ref I0) { s with heap:=h }):wpAny X.M A (pyIter val) Q E s:=by
 cases R with
 | lst h1 h2 h3 h4=>
  obtain ⟨a',vs,e1,T,Rs,sz⟩:=VR.isLst H (.lst h1 h2 h3 h4)
  cases e1
  exact wpAny_pyIter_list T (k _ _ _ (H.pushOth rfl (bV rfl (by decide))) (.lst (.lst h1 h2 h3 h4) rfl rfl))
 | tup h1 h2 h3 h4=>
  obtain ⟨a',vs,e1,T,Rs,sz⟩:=VR.isTup H (.tup h1 h2 h3 h4)
  cases e1
  exact wpAny_pyIter_tuple T (k _ _ _ (H.pushOth rfl (bV rfl (by decide))) (.tup (.tup h1 h2 h3 h4) rfl rfl))
 | ref h1=>
  have hn:=l9 hi
  refine ob_2_5 (VR.isRef H (.ref h1) hn) fun a' vs e1 e2 T Rs sz=>?_
  cases e1
  exact wpAny_pyIter_list T (k _ _ _ (H.pushOth rfl (bV rfl (by decide))) (.ref h1 rfl rfl))
 | str x t=>
  cases ha:x.cps.all (· < 128)
  ·exact wpAny_pyIter_wide ha (k _ _ _ (H.pushOth rfl (bV rfl (by decide))) (.strW rfl rfl))
  ·exact wpAny_pyIter_ascii ha (k _ _ _ (H.pushOth rfl (bV rfl (by decide))) (.strA rfl rfl))
 | none=>exact j9 hs
 | bool _=>exact j9 hs
 | int _ _=>exact j9 hs
 | dct _=>exact j9 hs
 | inst _ _=>exact j9 hs
 | exc _ _ _ _ _ _ _ _ _ _=>exact j9 hs
theorem oZ{n:Int}{t u v:Tok}{r:Addr}(hn:n<100000)(h1:IsRange s.heap r 0 n 1 t u v)(H:HI X.w X.base g oth σ s.heap){Q:Value→Shared→Prop}{E:Value→Shared→Prop}
  (k:∀ I0 o h,HI X.w X.base g ((I0,o)::oth) σ h→lL g (.int n) 0 o→Q (.ref I0) { s with heap:=h }) (hlo:-(2 ^ 62)≤n):wpAny X.M A (pyIter (.ref r)) Q E s:=by
 refine wpAny_pyIter_range h1 (small_one (by lia) (by lia) hlo (by lia)) ?_
 have e:Builtin.Range.rangeSize 0 n 1=(n.toNat:Int)-(0:Nat):=by
  rw [rangeSize_one];split<;>lia
 rw [e]
 exact k _ _ _ (H.pushOth rfl (bV rfl (by decide))) (.rng (i:=0))
end
end Mine.Internal
end
section
open PySem PySem.W PyProof.Rows PySem.Calls
set_option genCtorIdx false
namespace Mine.Internal
set_option tactic.hygienic true in
theorem jK{x:Str}:∀ (l:List Str) (n:Nat) (r:Option Nat) (i:Nat),gL x n l r=some i→r=some i∨(n≤i∧l[i-n]?=some x)
 | [],_,_,_,h=>.inl h
 | y::l,n,r,i,h=>by
  refine Or.elim (jK l (n+1) _ i h) (fun q=>?_) fun ho9_1=>?_
  ·split at q
   ·rename_i e;obtain rfl:=Option.some.inj q;exact .inr ⟨Nat.le_refl _,by simp [e]⟩
   ·exact .inl q
  ·obtain ⟨q1,q2⟩:=ho9_1
   refine .inr ⟨by lia,?_⟩
   rw [show i-n=(i-(n+1))+1 by lia]
   simpa using q2
theorem gO{nm:List Str}{x:Str}{i:Nat}(h:bD nm x=some i):nm[i]?=some x:=by
 refine Or.elim (jK nm 0 none i h) (fun q=>?_) fun ho17_1=>?_
 ·exact cq q
 ·obtain ⟨_,q⟩:=ho17_1
  simpa using q
theorem lA{nm:List Str}{x y:Str}{i:Nat}(h:bD nm x=some i)(h':bD nm y=some i):x=y:=by
 have a:=gO h
 have b:=gO h'
 rw [a] at b;exact Option.some.inj b
theorem DA{w:World}{o:Obj}{es:Array DictEntry}{ep:Nat}{name:Str}{t:Tok}{v:Value}(hd:o.data=.dict es ep)(hk:StrKeys es) :
  ∃ es' ep',(kU w name t v o).data=.dict es' ep'∧StrKeys es'∧(∀ x,nsFind es' x=if x=name then some v else nsFind es x)∧(kU w name t v o).cls=o.cls:=by
 obtain ⟨c,d,dt,sl⟩:=o
 subst hd
 unfold kU
 cases hi:es.findIdx? (·.key.isStr name) with
 | some i=>
  refine (ib_2_4 _ ep (by simp only [Obj.putName_eq,Obj.putNameByArray,hi];rfl) (hk.modify _ _) (fun x=>?_) (by simp only [Obj.putName_eq,Obj.putNameByArray,hi]<;>rfl))
  exact findBy_modify (fun n v=>v.isStr n) Value.isStr_inj es name x v i hi
 | none=>
  refine (ib_2_4 _ (ep+1) (by simp only [Obj.putName_eq,Obj.putNameByArray,hi];rfl) (hk.push _ _ _ _) (fun x=>?_) (by simp only [Obj.putName_eq,Obj.putNameByArray,hi]<;>rfl))
  exact findBy_push (fun n v=>v.isStr n) es name x _ _ v (fun y=>by
   refine (?_:(name == y)=decide (y=name))
   by_cases h:y=name
   ·subst h;simp
   ·have:¬ name=y:=fun e=>h e.symm
    simp [h,this]) hi
section
variable {prog:Program} {w:World} {A:Around} {E:Value→Shared→Prop} {s:Shared}
theorem yh{a:Addr}{o:Obj}{es:Array DictEntry}{ep:Nat}{name:Str}{v:Value}{Q:Unit→Shared→Prop}(D:s.heap.get? a=some o)(hd:o.data=.dict es ep)(hk:StrKeys es)
  (h:∀ h' o' es' ep',Heap.SameBut a s.heap h'→h'.get? a=some o'→o'.cls=o.cls→o'.data=.dict es' ep'→StrKeys es'→(∀ x,nsFind es' x=if x=name then some v else nsFind es x)→Q () { s with heap:=h',toks:=s.toks+1 }) :
  wpAny (model prog w) A (nsSet a name v) Q E s:=by
 refine ob_2_4 (DA (w:=w) (name:=name) (t:=s.toks) (v:=v) hd hk) fun es' ep' e1 e2 e3 e4=>?_
 have hq:=h _ _ es' ep' (Heap.SameBut.update ..) (Heap.get?_update_self (kU w name s.toks v) D (m7 e1)) e4 e1 e2 e3
 refine wpAny_bind (wpAny_bind (wpAny_askSetting (wpAny_pure (wpAny_bind (wpAny_mkText (wpAny_bind (wpAny_loadPart D ?_)))))))
 rw [hd]
 dsimp only
 have c:(!es.any (·.key.isStr name)&&es.any (·.refKey))=false:=by
  have:es.any (·.refKey)=false:=by
   simp only [Array.any_eq_false'];intro e he;obtain ⟨n,t,h⟩:=hk e he;simp [DictEntry.refKey,h]
  simp only [this,Bool.and_false]
 rw [aRefKeyMayBeTheName_at,c]
 exact wpAny_updatePart D hq
theorem yi{a:Addr}{o:Obj}{es:Array DictEntry}{ep:Nat}{name:Str}{Q:Bool→Shared→Prop}(D:s.heap.get? a=some o)(hd:o.data=.dict es ep)(hk:StrKeys es)(hs:(nsFind es name).isSome=true)
  (h:∀ h' o' es' ep',Heap.SameBut a s.heap h'→h'.get? a=some o'→o'.cls=o.cls→o'.data=.dict es' ep'→StrKeys es'→(∀ x,x≠name→nsFind es' x=nsFind es x)→Q true { s with heap:=h' }) :
  wpAny (model prog w) A (nsDel a name) Q E s:=by
 have hany:es.any (·.refKey)=false:=by
  simp only [Array.any_eq_false'];intro e he;obtain ⟨n,t,h⟩:=hk e he;simp [DictEntry.refKey,h]
 have hsome:(nsFind es name).isSome=es.any (·.key.isStr name):=by
  simp only [nsFind,findBy,Option.isSome_map]
  rw [Bool.eq_iff_iff];simp only [Array.find?_isSome,Array.any_eq_true]
  constructor
  ·rintro ⟨x,hx,hp⟩;obtain ⟨i,hi,rfl⟩:=Array.mem_iff_getElem.mp hx;exact ⟨i,hi,hp⟩
  ·rintro ⟨i,hi,hp⟩;exact ⟨_,Array.getElem_mem hi,hp⟩
 have hhas:nsHas name o=pure true:=by
  rw [nsHas_eq];unfold nsHasByArray;rw [hd]
  refine (?_:(if (es.any fun x=>x.key.isStr name)=true then _ else _)=_)
  rw [← hsome,hs];simp
 refine wpAny_bind (wpAny_loadPart D ?_)
 rw [hhas]
 refine wpAny_bind (wpAny_pure ?_)
 refine wpAny_bind (wpAny_updatePart D (wpAny_pure ?_))
 refine rO fun C kC=>?_
 obtain ⟨cl,d,dt,sl⟩:=o
 subst hd
 refine kC ?_
 cases hi:es.findIdx? (·.key.isStr name) with
 | some i=>
  exact h _ _ _ (ep+1) (Heap.SameBut.update ..) (Heap.get?_update_self _ D (by simp only [Obj.dropName_eq,Obj.dropNameByArray,hi]<;>rfl)) (by simp only [Obj.dropName_eq,Obj.dropNameByArray,hi]<;>rfl) (by simp only [Obj.dropName_eq,Obj.dropNameByArray,hi]<;>rfl) (hk.erase i) fun x hx=>nsFind_erase_other hi hx
 | none=>
  exact h _ _ _ ep (Heap.SameBut.update ..) (Heap.get?_update_self _ D (by simp only [Obj.dropName_eq,Obj.dropNameByArray,hi]<;>rfl)) (by simp only [Obj.dropName_eq,Obj.dropNameByArray,hi]<;>rfl) (by simp only [Obj.dropName_eq,Obj.dropNameByArray,hi]<;>rfl) hk fun x hx=>rfl
end
theorem ff{pre post:List (Addr×Obj)}{a:Addr}{o o':Obj}{p:Addr×Obj}(h:p∈pre++(a,o)::post)(hn:p.1≠a):p∈pre++(a,o')::post:=by
 refine Or.elim (List.mem_append.mp h) (fun q=>?_) fun q=>?_
 ·exact List.mem_append_left _ q
 ·rcases List.mem_cons.mp q with rfl | q
  ·exact absurd rfl hn
  ·exact List.mem_append_right _ (.tail _ q)
theorem dB{pre post:List (Addr×Obj)}{a:Addr}{o:Obj}:(a,o)∈pre++(a,o)::post:=List.mem_append_right _ (.head _)
section
variable {X:Cx} {A:Around} {env:Env} {g:Gh} {pre post:List (Addr×Obj)} {σ:St} {s:Shared} {nm:List Str} {ρ:ck}
theorem o3{w:World}{base:Heap}{oth:List (Addr×Obj)}{h:Heap}(H:HI w base g oth σ h):(oth.map (·.1)).Nodup:=(List.nodup_append.mp H.nd).2.1
theorem o5{x:Str}{val:Value}{o:Obj}{es:Array DictEntry}{ep:Nat}(hk:env.scope.kind=.function)(hl:env.kindOf x=some .local)(H:HI X.w X.base g (pre++(env.locals,o)::post) σ s.heap)(hd:o.data=.dict es ep)(hs:StrKeys es)
  {Q:Unit→Shared→Prop} {E:Value→Shared→Prop}
  (k:∀ h tk o' es' ep',HI X.w X.base g (pre++(env.locals,o')::post) σ h→o'.cls=o.cls→o'.data=.dict es' ep'→StrKeys es'→(∀ y,nsFind es' y=if y=x then some val else nsFind es y)→Q () { s with heap:=h,toks:=tk }) :
  wpAny X.M A (storeName env x val) Q E s:=by
 refine bC (H.hoth (env.locals,o) dB) fun hq104_0 nf=>?_
 obtain ⟨sl,e⟩:=hq104_0
 rw [storeName_local hl (by rw [hk];rfl)]
 refine yh e hd hs fun h' o' es' ep' h1 h2 h3 h4 h5 h6=>?_
 have nf':NF o':=⟨by rw [h3];exact nf.1,by rw [h3];exact nf.2⟩
 exact k h' _ o' es' ep' (H.setOth h1 ⟨o'.slots,h2⟩ nf' fun z9=>h2) h3 h4 h5 h6
theorem AM{x:Str}{val:Value}{o:Obj}{c:Addr}{v0:Option Value}(hk:env.scope.kind=.function)(hl:env.kindOf x=some .cell)(hc:env.cells.lookup x=some c)(H:HI X.w X.base g (pre++(c,o)::post) σ s.heap)(hd:o.data=.cell v0)(hcl:o.cls=.type "cell")
  {Q:Unit→Shared→Prop} {E:Value→Shared→Prop}
  (k:∀ h,HI X.w X.base g (pre++(c,{ o with data:=.cell (some val) })::post) σ h→Q () { s with heap:=h }) :
  wpAny X.M A (storeName env x val) Q E s:=by
 have e:=H.hex (c,o) dB (by show o.cls≠_;rw [hcl];decide)
 unfold storeName
 simp only [hl,hk]
 refine wpAny_bind (wpAny_cellOf hc ?_)
 refine wpAny_bind (wpAny_load e ?_)
 rw [hd]
 have e2:=Heap.get?_update_self (fun o:Obj=>{ o with data:=.cell (some val) }) e rfl
 exact wpAny_update e (k _ (H.setOth (Heap.SameBut.update ..) ⟨_,e2⟩ (bV hcl (by decide)) fun z9=>e2))
end
theorem gl.mono{g g':Gh}{oth:List (Addr×Obj)}{val:Value}{l:List V}(k:g.le g')(h:gl g oth val l):gl g' oth val l:=by
 obtain ⟨a,b,c,d⟩:=h
 exact .mk a b c (d.mono k)
structure fA (A:Around) (g:Gh) (own oth0:List (Addr×Obj)) (env:Env) (nm:List Str) (ρ:ck):Prop where
 fr:eV A g (own++oth0) env nm ρ
 loc:∃ o es n,(env.locals,o)∈own∧o.cls=.type "frame"∧o.data=.dict es n∧StrKeys es
 cell:∀ x,env.kindOf x=some .cell→∃ c o v,env.cells.lookup x=some c∧(c,o)∈own∧o.data=.cell v∧o.cls=.type "cell"
 inj:∀ x y c,env.cells.lookup x=some c→env.cells.lookup y=some c→x=y
 nofree:∀ x,env.kindOf x≠some .free
 ok:∀ x i,bD nm x=some i→bt env.scope.names x=true→fV x
 own1:∀ (i j:Nat) (l l':List V),ρ[i]?=some (some (V.own l))→ρ[j]?=some (some (V.own l'))→i=j
 ownIn:∀ (x:Str) (i:Nat) (l:List V),bD nm x=some i→bt env.scope.names x=true→ρ[i]?=some (some (V.own l))→∃ val,bY env (own++oth0) x val∧gl g own val l
theorem fA.mono{A:Around}{g g':Gh}{own oth0:List (Addr×Obj)}{env:Env}{nm:List Str}{ρ:ck}(k:g.le g')(F:fA A g own oth0 env nm ρ):fA A g' own oth0 env nm ρ:=
 ⟨F.fr.mono k,F.loc,F.cell,F.inj,F.nofree,F.ok,F.own1,fun x i l a b c=>let ⟨val,n,R⟩:=F.ownIn x i l a b c;(ib_1_2 val n (R.mono k))⟩
theorem bA{α:Type}(x:Str):∀ l:List (Str×α),bE x l=l.lookup x
 | []=>rfl
 | (y,v)::r=>by
  unfold bE
  simp only [List.lookup_cons]
  by_cases h:x=y
  ·subst h;simp
  ·rw [if_neg h,bA x r]
   have:(x == y)=false:=by simpa using h
   simp only [this]
set_option tactic.hygienic true in
theorem mA{env:Env}{x:Str}(h:bt env.scope.names x=true):env.kindOf x=some .local∨env.kindOf x=some .cell∨env.kindOf x=some .free:=by
 unfold bt at h
 rw [bA] at h
 refine (?_:env.scope.names.lookup x=_∨env.scope.names.lookup x=_∨env.scope.names.lookup x=_)
 split at h
 ·rename_i q;exact .inl q
 ·rename_i q;exact .inr (.inl q)
 ·rename_i q;exact .inr (.inr q)
 ·exact j9 h
noncomputable def notOwn:V→Prop
 | .own _=>False
 | _=>True
theorem jL{ρ:ck}{i j:Nat}{u v:Option V}(h:(ρ.set i u)[j]?=some v):(i=j∧u=v)∨(i≠j∧ρ[j]?=some v):=by
 by_cases q:i=j
 ·subst q
  have hl:i<ρ.length:=by have:=(List.getElem?_eq_some_iff.mp h).1;simpa using this
  rw [List.getElem?_set_self hl] at h
  exact .inl ⟨rfl,Option.some.inj h⟩
 ·rw [List.getElem?_set_ne q] at h
  exact .inr ⟨q,h⟩
theorem eV.swap{A:Around}{g:Gh}{oth oth':List (Addr×Obj)}{env:Env}{nm:List Str}{ρ:ck}{x:Str}{i:Nat}{u:Option V}(F:eV A g oth env nm ρ)(hi:bD nm x=some i)
  (hA:nT A oth') (hn:∀ y val,y≠x→bY env oth y val→bY env oth' y val) (ho:∀ val l,gl g oth val l→gl g oth' val l)
  (hx:bt env.scope.names x=true→∀ v,u=some v→fV x∧∃ val,bY env oth' x val∧LR g oth' val v):eV A g oth' env nm (ρ.set i u):=by
 refine ⟨F.fn,by rw [List.length_set];exact F.len,hA,F.top,F.cel,fun y j v hj hl hv=>?_⟩
 refine Or.elim (jL hv) (fun ho172_0=>?_) fun ho172_1=>?_
 ·obtain ⟨rfl,e⟩:=ho172_0
  have:=lA hi hj
  subst this
  exact hx hl v e
 ·obtain ⟨q,hv⟩:=ho172_1
  obtain ⟨ok,val,n,R⟩:=F.has y j v hj hl hv
  refine ⟨ok,val,hn y val (fun e=>?_) n,?_⟩
  ·subst e;rw [hi] at hj;exact q (Option.some.inj hj)
  ·cases v<;>first | exact R | exact ho _ _ R
theorem nT.swap{A:Around}{pre post:List (Addr×Obj)}{a:Addr}{o o':Obj}(K:nT A (pre++(a,o)::post))(nd:((pre++(a,o)::post).map (·.1)).Nodup)(h1:∀ vs,o'.data≠.fields vs)(h2:o'.cls=o.cls):nT A (pre++(a,o')::post):=by
 refine ob_1_2 K fun l e h=>?_
 refine (ib_1_2 l e (fun x hx=>?_))
 obtain ⟨a1,L,ob,a2,a3,a4,a5⟩:=h x hx
 refine ⟨a1,L,?_⟩
 by_cases q:L=a
 ·subst q
  have:=ew nd a3 dB rfl
  cases this
  exact (ib_1_4 o' a2 dB h1 (h2.trans a5))
 ·exact (ib_1_4 ob a2 (ff a3 q) a4 a5)
theorem gl.swap{g:Gh}{pre post:List (Addr×Obj)}{a:Addr}{o o':Obj}{val:Value}{l:List V}(R:gl g (pre++(a,o)::post) val l)(nd:((pre++(a,o)::post).map (·.1)).Nodup)(ho:o.cls≠.type "list"):gl g (pre++(a,o')::post) val l:=by
 obtain ⟨h1,h2,h3,h4⟩:=R
 refine .mk (ff h1 fun q=>?_) h2 h3 h4
 have:=ew nd h1 dB q
 cases this
 exact ho h2.1
theorem wv{own oth0:List (Addr×Obj)}{p:Addr×Obj}(h:p∈own):∃ a b,own=a++p::b∧own++oth0=a++p::(b++oth0):=by
 refine ob_2_1 (List.append_of_mem h) fun a b e=>?_
 exact (ib_2_2 a b e (by rw [e];simp))
theorem yj{own oth0 a b:List (Addr×Obj)}{p p':Addr×Obj}(h:own=a++p::b):a++p'::(b++oth0)=(a++p'::b)++oth0:=by simp
section
variable {X:Cx} {A:Around} {env:Env} {g:Gh} {own oth0:List (Addr×Obj)} {σ:St} {s:Shared} {nm:List Str} {ρ:ck}
theorem bY.cells{oth:List (Addr×Obj)}{y:Str}{val:Value}(n:bY env oth y val)(hf:env.kindOf y≠some .free):(env.kindOf y=some .local∧∃ o,(env.locals,o)∈oth∧EI o y val)∨(env.kindOf y=some .cell∧∃ c o,env.cells.lookup y=some c∧(c,o)∈oth∧o.data=.cell (some val)):=by
 rcases n with h | ⟨h | h,r⟩
 ·exact .inl h
 ·exact .inr ⟨h,r⟩
 ·exact absurd h hf
theorem gl.swapG{oth oth':List (Addr×Obj)}{a:Addr}{o:Obj}{val:Value}{l:List V}(R:gl g oth val l)(nd:(oth.map (·.1)).Nodup)(hm:(a,o)∈oth)(hs:∀ p∈oth,p.1≠a→p∈oth')(ho:o.cls≠.type "list"):gl g oth' val l:=by
 obtain ⟨h1,h2,h3,h4⟩:=R
 exact .mk (hs _ h1 fun q=>ho ((congrArg (fun p:Addr×Obj=>p.2.cls) (ew nd h1 hm q)).symm.trans h2.1)) h2 h3 h4
theorem nT.swapG{oth oth':List (Addr×Obj)}{a:Addr}{o o':Obj}(K:nT A oth)(nd:(oth.map (·.1)).Nodup)(hm:(a,o)∈oth)(hm':(a,o')∈oth')(hs:∀ p∈oth,p.1≠a→p∈oth')(h1:∀ vs,o'.data≠.fields vs)(h2:o'.cls=o.cls):nT A oth':=by
 refine ob_1_2 K fun l e h=>⟨l,e,fun x hx=>?_⟩
 refine bC (h x hx) fun a1 q=>ob_2_4 q fun L ob a2 a3 a4 a5=>⟨a1,L,?_⟩
 by_cases q:L=a
 ·subst q
  exact ⟨o',a2,hm',h1,h2.trans ((congrArg (fun p:Addr×Obj=>p.2.cls) (ew nd a3 hm rfl)).symm.trans a5)⟩
 ·exact ⟨ob,a2,hs _ a3 q,a4,a5⟩
theorem fA.swapAt{own':List (Addr×Obj)}(F:fA A g own oth0 env nm ρ)(nd:((own++oth0).map (·.1)).Nodup){x:Str}{i:Nat}(hi:bD nm x=some i){a:Addr}{o o':Obj}(hm:(a,o)∈own)(hm':(a,o')∈own')(hs:∀ p∈own,p.1≠a→p∈own'){u:Option V}(ho:o.cls≠.type "list")(hc:o'.cls=o.cls)(hnf:∀ vs,o'.data≠.fields vs)
  (keepN:∀ y val,y≠x→bY env (own++oth0) y val→bY env (own'++oth0) y val) (hx:bt env.scope.names x=true→∀ v,u=some v→∃ val,bY env (own'++oth0) x val∧LR g (own++oth0) val v∧∀ l,v=.own l→gl g own val l)
  (h1:∀ l,u=some (V.own l)→∀ j l',ρ[j]?=some (some (V.own l'))→i=j) (hl:∃ oL es n,(env.locals,oL)∈own'∧oL.cls=.type "frame"∧oL.data=.dict es n∧StrKeys es)
  (hcl:∀ y,env.kindOf y=some .cell→∃ c oc v,env.cells.lookup y=some c∧(c,oc)∈own'∧oc.data=.cell v∧oc.cls=.type "cell"):fA A g own' oth0 env nm (ρ.set i u):=by
 have hm0:(a,o)∈own++oth0:=List.mem_append_left _ hm
 have hs0:∀ p∈own++oth0,p.1≠a→p∈own'++oth0:=fun p hp q=>(List.mem_append.mp hp).elim (fun h=>List.mem_append_left _ (hs p h q)) fun h=>List.mem_append_right _ h
 have ndo:(own.map (·.1)).Nodup:=(List.nodup_append.mp (List.map_append▸nd)).1
 have sw:∀ val l,gl g (own++oth0) val l→gl g (own'++oth0) val l:=fun z9 z9 r=>r.swapG nd hm0 hs0 ho
 refine ⟨F.fr.swap hi (F.fr.fr.swapG nd hm0 (List.mem_append_left _ hm') hs0 hnf hc) keepN sw fun q v e=>?_,hl,hcl,F.inj,F.nofree,F.ok,fun i1 i2 l1 l2 q1 q2=>?_,fun y j l hj hly hv=>?_⟩
 ·refine ob_1_3 (hx q v e) fun val n R z9=>⟨F.ok x i hi q,val,n,?_⟩
  cases v<;>first | exact R | exact sw _ _ R
 ·refine Or.elim (jL q1) (fun a1=>Or.elim (jL q2) (fun a2=>a1.1.symm.trans a2.1) fun a2=>?_) fun a1=>Or.elim (jL q2) (fun a2=>?_) fun a2=>F.own1 i1 i2 l1 l2 a1.2 a2.2
  ·exact a1.1.symm.trans (h1 l1 a1.2 i2 l2 a2.2)
  ·exact ((h1 l2 a2.2 i1 l1 a1.2).symm.trans a2.1)
 ·refine Or.elim (jL hv) (fun a1=>?_) fun a1=>?_
  ·obtain rfl:=a1.1
   obtain rfl:=lA hi hj
   exact ob_1_3 (hx hly _ a1.2) fun val n z9 r=>⟨val,n,(r l rfl).swapG ndo hm hs ho⟩
  ·exact ob_1_2 (F.ownIn y j l hj hly a1.2) fun val n r=>⟨val,keepN y val (fun e=>a1.1 (Option.some.inj (hi.symm.trans (e▸hj)))) n,r.swapG ndo hm hs ho⟩
theorem fA.locAt{own':List (Addr×Obj)}(F:fA A g own oth0 env nm ρ)(nd:((own++oth0).map (·.1)).Nodup){x:Str}{i:Nat}(hi:bD nm x=some i){o o':Obj}{es es':Array DictEntry}{n n':Nat}(hm:(env.locals,o)∈own)(hm':(env.locals,o')∈own')(hs:∀ p∈own,p.1≠env.locals→p∈own'){u:Option V}(ho:o.cls=.type "frame")(hc:o'.cls=o.cls)(hd:o.data=.dict es n)(hd':o'.data=.dict es' n')(hk':StrKeys es')
  (hf:∀ y,y≠x→nsFind es' y=nsFind es y) (hx:bt env.scope.names x=true→∀ v,u=some v→∃ val,bY env (own'++oth0) x val∧LR g (own++oth0) val v∧∀ l,v=.own l→gl g own val l)
  (h1:∀ l,u=some (V.own l)→∀ j l',ρ[j]?=some (some (V.own l'))→i=j):fA A g own' oth0 env nm (ρ.set i u):=by
 have hm0:(env.locals,o)∈own++oth0:=List.mem_append_left _ hm
 have nc:∀ {c oc v},(c,oc)∈own++oth0→oc.data=.cell v→c≠env.locals:=fun {c oc v} m q e=>by
  have:=congrArg (fun p:Addr×Obj=>p.2.data) (ew nd m hm0 e)
  exact nomatch q.symm.trans (this.trans hd)
 refine F.swapAt nd hi hm hm' hs (ho▸by decide) hc (fun vs q=>nomatch hd'.symm.trans q) (fun y val hy m=>?_) hx h1 ⟨o',es',n',hm',hc.trans ho,hd',hk'⟩ fun y hy=>?_
 ·refine Or.elim m (fun m=>?_) fun m=>?_
  ·refine ob_1_2 m.2 fun ob p2 p3=>?_
   obtain rfl:=congrArg Prod.snd (ew nd p2 hm0 rfl)
   exact .inl ⟨m.1,o',List.mem_append_left _ hm',ob_2_3 p3 fun es2 ep2 q1 z9 q3=>⟨es',n',hd',hk',(hf y hy).trans ((Data.dict.inj (q1.symm.trans hd)).1▸q3)⟩⟩
  ·refine ob_2_3 m.2 fun c ob p2 p3 p4=>.inr ⟨m.1,c,ob,p2,?_,p4⟩
   exact (List.mem_append.mp p3).elim (fun h=>List.mem_append_left _ (hs _ h (nc p3 p4))) fun h=>List.mem_append_right _ h
 ·exact ob_3_4 (F.cell y hy) fun c oc v0 q1 q2 q3 q4=>⟨c,oc,v0,q1,hs _ q2 (nc (List.mem_append_left _ q2) q3),q3,q4⟩
theorem q7{a b:List (Addr×Obj)}{A0:Addr}{o o':Obj}:∀ p∈a++(A0,o)::b,p.1≠A0→p∈a++(A0,o')::b:=fun z9 h hn=>ff h hn
theorem fA.store{A2:Around}(F:fA A g own oth0 env nm ρ){x:Str}{i:Nat}{val:Value}{v:V}(hl:bt env.scope.names x=true)(hi:bD nm x=some i)(H:HI X.w X.base g (own++oth0) σ s.heap)(R:LR g (own++oth0) val v)
  (h1:∀ l,v=V.own l→gl g own val l∧∀ j l',ρ[j]?=some (some (V.own l'))→i=j)
  {Q:Unit→Shared→Prop} {E:Value→Shared→Prop}
  (k:∀ h tk own',HI X.w X.base g (own'++oth0) σ h→fA A g own' oth0 env nm (ρ.set i (some v))→Q () { s with heap:=h,toks:=tk }):wpAny X.M A2 (storeName env x val) Q E s:=by
 have nd:=o3 H
 have hk:=F.fr.fn
 have h1':∀ l,some v=some (V.own l)→∀ j l',ρ[j]?=some (some (V.own l'))→i=j:=fun l e=>(h1 l (Option.some.inj e)).2
 rcases mA hl with hk1 | hk1 | hk1
 ·refine ob_3_4 F.loc fun o es n m1 m2 m3 m4=>?_
  obtain ⟨a,b,rfl⟩:=List.append_of_mem m1
  refine o5 hk hk1 (pre:=a) (post:=b++oth0) (List.append_assoc a ((env.locals,o)::b) oth0▸H) m3 m4 fun h tk o' es' ep' H2 c1 c2 c3 c4=>?_
  refine k h tk (a++(env.locals,o')::b) (List.append_assoc a ((env.locals,o')::b) oth0▸H2) (F.locAt nd hi m1 dB q7 m2 c1 m3 c2 c3 (fun y hy=>(c4 y).trans (if_neg hy)) (fun z9 v' e=>?_) h1')
  obtain rfl:=Option.some.inj e
  exact ⟨val,.inl ⟨hk1,o',List.mem_append_left _ dB,es',ep',c2,c3,(c4 x).trans (if_pos rfl)⟩,R,fun l e=>(h1 l e).1⟩
 ·refine ob_3_4 (F.cell x hk1) fun c o v0 m0 m1 m3 m2=>?_
  obtain ⟨a,b,rfl⟩:=List.append_of_mem m1
  refine AM hk hk1 m0 (pre:=a) (post:=b++oth0) (List.append_assoc a ((c,o)::b) oth0▸H) m3 m2 fun h H2=>?_
  have hm0:(c,o)∈(a++(c,o)::b)++oth0:=List.mem_append_left _ m1
  have nl:∀ {d od es n},(d,od)∈(a++(c,o)::b)++oth0→od.data=.dict es n→d≠c:=fun {d od es n} m q e=>by
   have:=congrArg (fun p:Addr×Obj=>p.2.data) (ew nd m hm0 e)
   exact nomatch q.symm.trans (this.trans m3)
  refine k h s.toks (a++(c,{ o with data:=.cell (some val) })::b) (List.append_assoc a ((c,{ o with data:=.cell (some val) })::b) oth0▸H2) (F.swapAt nd hi m1 dB q7 (m2▸by decide) rfl (fun vs q=>nomatch q) (fun y val' hy n=>?_) (fun z9 v' e=>?_) h1' ?_ fun y hy=>?_)
  ·refine Or.elim (n.cells (F.nofree y)) (fun n=>?_) fun n=>?_
   ·refine ob_1_2 n.2 fun ob p2 p3=>.inl ⟨n.1,ob,?_,p3⟩
    exact (List.mem_append.mp p2).elim (fun h=>List.mem_append_left _ (ff h (ob_2_3 p3 fun z9 z9 q z9 z9=>nl p2 q))) fun h=>List.mem_append_right _ h
   ·refine ob_2_3 n.2 fun c' ob p2 p3 p4=>.inr ⟨.inl n.1,c',ob,p2,?_,p4⟩
    exact (List.mem_append.mp p3).elim (fun h=>List.mem_append_left _ (ff h fun e=>hy (F.inj y x c' p2 ((show c=c' from e.symm)▸m0)))) fun h=>List.mem_append_right _ h
  ·obtain rfl:=Option.some.inj e
   exact ⟨val,.inr ⟨.inl hk1,c,_,m0,List.mem_append_left _ dB,rfl⟩,R,fun l e=>(h1 l e).1⟩
  ·exact ob_3_4 F.loc fun oL es n l1 l2 l3 l4=>⟨oL,es,n,ff l1 (nl (List.mem_append_left _ l1) l3),l2,l3,l4⟩
  ·by_cases q:y=x
   ·exact ⟨c,_,some val,q▸m0,dB,rfl,m2⟩
   ·exact ob_3_4 (F.cell y hy) fun c' oc v' q1 q2 q3 q4=>⟨c',oc,v',q1,ff q2 fun e=>q (F.inj y x c' q1 ((show c=c' from e.symm)▸m0)),q3,q4⟩
 ·exact absurd hk1 (F.nofree x)
end
end Mine.Internal
end
section
open PySem PySem.W PyProof.Rows PySem.Calls
set_option genCtorIdx false
namespace Mine.Internal
theorem kE{n:Str}:∀ {ns:List Str} {vs:List Value},n∉ns→(ns.zip vs).lookup n=none
 | [],_,_=>by simp
 | k::ns,[],_=>by simp
 | k::ns,v::vs,h=>by
  rw [List.zip_cons_cons,List.lookup_cons]
  have:(n == k)=false:=by simp;intro e;exact h (by simp [e])
  rw [this]
  exact kE fun q=>h (.tail _ q)
theorem kG{n:Str}:∀ {ns:List Str} {vs:List Value},n∈ns→ns.length≤vs.length→((ns.zip vs).lookup n).isSome=true
 | k::ns,[],_,hl=>by simp at hl
 | k::ns,v::vs,h,hl=>by
  rw [List.zip_cons_cons,List.lookup_cons]
  cases hq:n == k with
  | true=>rfl
  | false=>
   rcases List.mem_cons.mp h with e | h
   ·simp [e] at hq
   ·exact kG h (by simpa using hl)
theorem kH{n:Str}:∀ {ns:List Str} {vs:List Value},n∈ns.take vs.length→((ns.zip vs).lookup n).isSome=true
 | [],_,h=>by simp at h
 | k::ns,[],h=>by simp at h
 | k::ns,v::vs,h=>by
  rw [List.zip_cons_cons,List.lookup_cons]
  cases hq:n == k with
  | true=>rfl
  | false=>
   rw [List.length_cons,List.take_succ_cons] at h
   rcases List.mem_cons.mp h with e | h
   ·simp [e] at hq
   ·exact kH h
theorem kg{n:Str}:∀ {l r:List (Str×Value)},(l++r).lookup n=(l.lookup n).or (r.lookup n)
 | [],r=>by simp
 | (k,v)::l,r=>by
  rw [List.cons_append,List.lookup_cons,List.lookup_cons]
  cases n == k with
  | true=>rfl
  | false=>exact kg
theorem lR:∀ {ns:List Str} {vs:List Value},ns.Nodup→ns.length=vs.length→(pre:List (Str×Value))→(∀ n∈ns,pre.lookup n=none)→ns.filterMap (fun n=>((pre++ns.zip vs).lookup n).map (n,·))=ns.zip vs
 | [],[],_,_,_,_=>rfl
 | [],_::_,_,hl,_,_=>by simp at hl
 | _::_,[],_,hl,_,_=>by simp at hl
 | n::ns,v::vs,nd,hl,pre,hp=>by
  rw [List.nodup_cons] at nd
  have e1:(pre++(n::ns).zip (v::vs)).lookup n=some v:=by
   rw [kg,hp n (.head _),List.zip_cons_cons,List.lookup_cons];simp
  rw [List.filterMap_cons,e1]
  simp only [Option.map_some,List.zip_cons_cons]
  congr 1
  have ih:=lR nd.2 (by simpa using hl) (pre++[(n,v)]) (fun m hm=>by
   rw [kg,hp m (.tail _ hm)]
   have:¬ m=n:=fun e=>nd.1 (e▸hm)
   simpa using this)
  simpa [List.append_assoc] using ih
theorem so:∀ (l:List (Str×Value)) (S:List (Str×Value)),(∀ p∈l,(S.lookup p.1).isSome=true)→l.foldl (fun S p=>if (S.lookup p.1).isNone=true then S++[p] else S) S=S
 | [],_,_=>rfl
 | p::l,S,h=>by
  rw [List.foldl_cons]
  have:=h p (.head _)
  rw [if_neg (by simp only [Option.isSome_iff_ne_none] at this;simpa using this)]
  exact so l S fun q hq=>h q (.tail _ hq)
theorem sq:∀ (l:List (Str×Value)) (S:List (Str×Value)),(∀ p∈l,S.lookup p.1=none)→(l.map (·.1)).Nodup→l.foldl (fun S p=>if (S.lookup p.1).isNone=true then S++[p] else S) S=S++l
 | [],S,_,_=>by simp
 | p::l,S,h,nd=>by
  rw [List.map_cons,List.nodup_cons] at nd
  rw [List.foldl_cons,if_pos (by rw [h p (.head _)];rfl),sq l (S++[p]) (fun q hq=>?_) nd.2]
  ·simp
  ·rw [kg,h q (.tail _ hq)]
   have:¬ q.1=p.1:=fun e=>nd.1 (e▸List.mem_map_of_mem hq)
   obtain ⟨a,b⟩:=p
   simpa using this
theorem yk{names:List Str}{vals ds:List Value}(nd:names.Nodup)(h1:vals.length≤names.length)(h2:ds.length≤names.length)(h3:names.length-ds.length≤vals.length) :
  names.filterMap (fun n=>((((names.drop (names.length-ds.length)).zip ds).foldl (fun S p=>if (S.lookup p.1).isNone=true then S++[p] else S) (names.zip vals)).lookup n).map (n,·))=names.zip (vals++ds.drop (ds.length-(names.length-vals.length))):=by
 obtain ⟨N1,N2,rfl,k1⟩:∃ N1 N2,names=N1++N2∧N1.length=vals.length:=⟨names.take vals.length,names.drop vals.length,(List.take_append_drop ..).symm,(List.length_take ..).trans (Nat.min_eq_left h1)⟩
 have ej:ds.length-((N1++N2).length-vals.length)=vals.length-((N1++N2).length-ds.length):=
  (Nat.sub_sub_right ds.length h1).trans ((congrArg (· - (N1++N2).length) (Nat.add_comm ..)).trans (Nat.sub_sub_right vals.length h2).symm)
 have hT:=Nat.sub_add_cancel h2
 rw [ej]
 generalize (N1++N2).length-ds.length=f at h3 hT
 have hle:vals.length-f≤ds.length:=Nat.sub_le_of_le_add (Nat.le_trans h1 (Nat.le_of_eq (hT.symm.trans (Nat.add_comm ..))))
 have hl:N2.length=ds.length-(vals.length-f):=by
  rw [Nat.sub_sub_right _ h3,Nat.add_comm,hT,List.length_append,k1,Nat.add_sub_cancel_left]
 clear h1 h2 ej hT
 have z0:(N1++N2).zip vals=N1.zip vals:=(congrArg (List.zip (N1++N2)) (List.append_nil vals).symm).trans ((List.zip_append (l₁:=N1) (r₁:=N2) (l₂:=vals) (r₂:=[]) k1).trans (by rw [List.zip_nil_right,List.append_nil]))
 have z1:(N1++N2).zip (vals++ds.drop (vals.length-f))=N1.zip vals++N2.zip (ds.drop (vals.length-f)):=List.zip_append k1
 have z2:((N1++N2).drop f).zip ds=(N1.drop f).zip (ds.take (vals.length-f))++N2.zip (ds.drop (vals.length-f)):=by
  rw [List.drop_append_of_le_length (k1▸h3)]
  conv=>lhs;rw [← List.take_append_drop (vals.length-f) ds]
  exact List.zip_append (by rw [List.length_drop,List.length_take,k1,Nat.min_eq_left hle])
 have l2:N2.length=(ds.drop (vals.length-f)).length:=hl.trans List.length_drop.symm
 have ndp:=List.nodup_append.mp nd
 have e:(((N1++N2).drop f).zip ds).foldl (fun S p=>if (S.lookup p.1).isNone=true then S++[p] else S) ((N1++N2).zip vals)=(N1++N2).zip (vals++ds.drop (vals.length-f)):=by
  rw [z2,z0,z1,List.foldl_append,so ((N1.drop f).zip (ds.take (vals.length-f))) (N1.zip vals) fun p hp=>kG (List.mem_of_mem_drop (List.of_mem_zip hp).1) (Nat.le_of_eq k1)]
  exact sq _ _ (fun p hp=>kE fun q=>ndp.2.2 p.1 q p.1 (List.of_mem_zip hp).1 rfl) (by rw [List.map_fst_zip (Nat.le_of_eq l2)];exact ndp.2.1)
 rw [e]
 exact lR (ns:=N1++N2) (vs:=vals++ds.drop (vals.length-f)) nd (by rw [List.length_append,List.length_append,k1,l2]) [] (fun z9 z9=>rfl)
section
variable {M:Model} {A:Around} {E:Value→Shared→Prop} {s:Shared}
theorem ua{α β:Type}(l:List α)(b:β)(f:α→β→Sem (ForInStep β))(g:β→α→β)(h:∀ x b,f x b=pure (.yield (g b x))):forIn l b f=pure (l.foldl g b):=by
 induction l generalizing b with
 | nil=>rfl
 | cons x l ih=>simp only [List.forIn_cons,h,pure_bind,List.foldl_cons];exact ih _
theorem q8{α:Type}{c:Prop}[Decidable c]{a b:Sem α}{Q:α→Shared→Prop}(h:¬c)(k:wpAny M A b Q E s):wpAny M A (if c then a else b) Q E s:=(if_neg h).symm▸k
theorem qk{fd:FuncData}{vals dv:List Value}{args:List Arg}{kd:List (Option Expr)}{df:List Expr}(hp:fd.params=⟨[],args,none,[],kd,none,df⟩)(nd:(args.map (·.arg)).Nodup)
  (h1:vals.length≤args.length) (h2:dv.length≤args.length) (h3:args.length-dv.length≤vals.length) (hd:(dv=[]∧fd.defaults=.none)∨∃ T o n,fd.defaults=.ref T∧s.heap.get? T=some o∧o.data=.seq dv.toArray n)
  {Q:List (Str×Value)→Shared→Prop} (h:Q ((args.map (·.arg)).zip (vals++dv.drop (dv.length-(args.length-vals.length)))) s):wpAny M A (bindArgs fd ⟨vals,[]⟩) Q E s:=by
 have hlm:(args.map (·.arg)).length=args.length:=List.length_map ..
 have key:=yk (names:=args.map (·.arg)) (vals:=vals) (ds:=dv) nd (hlm.symm▸h1) (hlm.symm▸h2) (hlm.symm▸h3)
 have hsq:∀ {Q':Option (Array Value)→Shared→Prop},(∀ o,(o.getD #[]).toList=dv→Q' o s)→wpAny M A (seqItems? fd.defaults) Q' E s:=by
  intro Q' hq
  rcases hd with ⟨rfl,e⟩ | ⟨T,o,n,e,e1,e2⟩
  ·rw [e];exact wpAny_pure (hq none rfl)
  ·rw [e];exact wpAny_seqItems e1 e2 (hq _ (by simp))
 rw [← hlm] at h h1 h2 h3
 clear hd hlm
 obtain ⟨f1,f2,f3,f4,f5,f6,f7,f8,f9,Ix,f11,f12,f13,Iy,Iz⟩:=fd
 obtain rfl:=hp
 refine (?_:wpAny M A (forIn (m:=Sem) ([]:List (Str×Value)) _ _ >>= _) Q E s)
 refine wpAny_bind (wpAny_pure ?_)
 refine wpAny_bind (hsq fun o ho=>?_)
 clear hsq
 dsimp only [List.map_nil,List.nil_append]
 rw [ho]
 generalize args.map (·.arg)=names at nd h h1 h2 h3 key
 refine q8 (by simp only [gt_iff_lt,Bool.and_eq_true,decide_eq_true_eq];exact fun q=>absurd q.1 (Nat.not_lt.mpr h1)) ?_
 rw [show List.drop (dv.length-((List.map (fun x:Arg=>x.arg) []++names).length)) dv=dv from (congrArg (List.drop · dv) (Nat.sub_eq_zero_of_le h2)).trans List.drop_zero]
 refine q8 (fun q=>?_) ?_
 ·refine absurd (List.isEmpty_iff.mpr (List.filter_eq_nil_iff.mpr fun n hn=>?_)) fun e=>j9 ((congrArg Bool.not e).symm.trans q)
  have:=kH (vs:=vals) (List.take_subset_take_left _ h3 hn)
  simp only [Option.isSome_iff_ne_none] at this
  simpa using this
 ·refine wpAny_bind (wpAny_of_eq (ua (g:=fun S p=>if (S.lookup p.1).isNone=true then S++[p] else S) _ _ _ fun x b=>?_) ?_)
  ·by_cases c:(b.lookup x.1).isNone=true<;>simp [c]
  ·refine (?_:wpAny M A (forIn (m:=Sem) ([]:List Str) _ _ >>= _) Q E s)
   refine wpAny_bind (wpAny_pure ?_)
   refine q8 (by simp) ?_
   refine wpAny_pure ?_
   simp only [List.map_nil,List.nil_append,List.append_nil]
   exact key▸h
end
inductive EK (base:Heap):Value→V→Prop
 | bool (b:Bool):EK base (.bool b) (.bool b)
 | int (i:Int) (t:Tok):EK base (.int i t) (.int i)
 | tup {T:Addr} {o:Obj} {x:Str} {t:Tok} {n:Nat}:base.get? T=some o→o.cls=.type "tuple"→o.data=.seq #[.str x t] n→EK base (.ref T) (.tup [.str x])
inductive o6 (base:Heap):List Value→List V→Prop
 | nil:o6 base [] []
 | cons {v:Value} {x:V} {vs:List Value} {xs:List V}:EK base v x→o6 base vs xs→o6 base (v::vs) (x::xs)
theorem o6.length{base:Heap}{vs:List Value}{xs:List V}(h:o6 base vs xs):vs.length=xs.length:=by
 induction h with
 | nil=>rfl
 | cons _ _ ih=>simp [ih]
theorem o6.vrs{w:World}{base:Heap}{vs:List Value}{xs:List V}(h:o6 base vs xs):∀ {g:Gh} {oth:List (Addr×Obj)} {σ:St} {hp:Heap},HI w base g oth σ hp→∃ g',g.le g'∧HI w base g' oth σ hp∧eC g' vs xs:=by
 induction h with
 | nil=>exact fun H=>⟨_,.refl _,H,.nil⟩
 | cons a b ih=>
  intro g oth σ hp H
  refine ob_1_3 (ih H) fun g' k H' R=>?_
  cases a with
  | bool b=>exact ⟨g',k,H',.cons (.bool b) R⟩
  | int i t=>exact ⟨g',k,H',.cons (.int i t) R⟩
  | @tup T o x t n h1 h2 h3=>
   have h4:=H'.hb _ _ h1
   refine ⟨g'.addIm T o,k.trans (.addIm ..),H'.addIm ⟨o.slots,h4⟩ (bV h2 (by decide)) (fun m=>?_),.cons (.tup (.head _) h2 (vs:=[.str x t]) (n:=n) ⟨h3,by simp [sizeLine_eq]⟩ (.one (.str x t))) (R.mono (.addIm ..))⟩
   rw [(H'.sep T m).1] at h1;exact cq h1
inductive ww (base:Heap) (a:Addr) (ps:List Arg) (body:List Stmt) (scope:Scope) (fn:Fn):Prop
 | mk (o:Obj) (fd:FuncData) (dv:List Value) (kd:List (Option Expr)) (df:List Expr):base.get? a=some o→o.data=.func fd→fd.body=.stmts body→fd.scope=scope→fd.params=⟨[],ps,none,[],kd,none,df⟩→fd.globals=mainGlobals→fd.builtins=builtinsNs→fd.closure=[]→base.CodeRec fd.code fd.qualname→o6 base dv fn.dfl→
  ((dv=[]∧fd.defaults=.none)∨∃ T o n,fd.defaults=.ref T∧base.get? T=some o∧o.data=.seq dv.toArray n)→ww base a ps body scope fn
theorem ww.E{base:Heap}{a:Addr}{ps:List Arg}{body:List Stmt}{scope:Scope}{fn:Fn}(F:ww base a ps body scope fn){C:Prop}(k:∀ (o:Obj) (fd:FuncData) (dv:List Value) (kd:List (Option Expr)) (df:List Expr),base.get? a=some o→o.data=.func fd→fd.body=.stmts body→fd.scope=scope→fd.params=⟨[],ps,none,[],kd,none,df⟩→fd.globals=mainGlobals→fd.builtins=builtinsNs→fd.closure=[]→base.CodeRec fd.code fd.qualname→o6 base dv fn.dfl→
  ((dv=[]∧fd.defaults=.none)∨∃ T o n,fd.defaults=.ref T∧base.get? T=some o∧o.data=.seq dv.toArray n)→C):C:=by
 cases F with | mk o fd dv kd df a1 a2 a3 a4 a5 a6 a7 a8 a9 b1 b2=>exact k o fd dv kd df a1 a2 a3 a4 a5 a6 a7 a8 a9 b1 b2
structure yl (base:Heap) (a:Addr) (ps:List Arg) (body:List Stmt) (scope:Scope) (nm:List Str) (fn:Fn):Prop where
 obj:ww base a ps body scope fn
 kind:scope.kind=.function∧scope.isCoroutine=false∧scope.isGenerator=false
 np:fn.np=ps.length
 nl:fn.nl=nm.length
 par:∀ i x,(ps.map (·.arg))[i]?=some x→bD nm x=some i∧bt scope.names x=true
 nd:(ps.map (·.arg)).Nodup
 nofree:∀ x,scope.names.lookup x≠some .free
 ok:∀ x i,bD nm x=some i→bt scope.names x=true→fV x
 dl:fn.dfl.length≤fn.np
noncomputable abbrev ql:Obj:={ cls:=.type "cell",data:=.cell none }
noncomputable def fJ(n:Nat):List (Str×NameKind)→List (Addr×Obj)→List (Addr×Obj)
 | [],acc=>acc
 | (_,kind)::r,acc=>if kind == .cell then fJ (n+1) r ((n,ql)::acc) else fJ n r acc
theorem kh:∀ (names:List (Str×NameKind)) (n:Nat) (acc:List (Addr×Obj)) (p:Addr×Obj),p∈acc→p∈fJ n names acc
 | [],_,_,_,h=>h
 | (_,kind)::r,n,acc,p,h=>by
  unfold fJ
  split
  ·exact kh r _ _ p (.tail _ h)
  ·exact kh r _ _ p h
set_option tactic.hygienic true in
theorem m8:∀ (names:List (Str×NameKind)) (n:Nat) (a1:List (Str×Addr)) (a2:List (Addr×Obj)) (x:Str) (c:Addr),(∀ x c,(x,c)∈a1→(c,ql)∈a2)→(x,c)∈cellsFrom n names a1→(c,ql)∈fJ n names a2
 | [],_,_,_,x,c,k,h=>k x c h
 | (nme,kind)::r,n,a1,a2,x,c,k,h=>by
  unfold cellsFrom at h
  unfold fJ
  split at h
  ·rename_i q
   rw [if_pos q]
   refine m8 r (n+1) ((nme,n)::a1) _ x c (fun y d hy=>?_) h
   rcases List.mem_cons.mp hy with e | hy
   ·cases e;exact .head _
   ·exact .tail _ (k y d hy)
  ·rename_i q
   rw [if_neg q]
   exact m8 r n a1 a2 x c k h
theorem jT:∀ (names:List (Str×NameKind)) (n:Nat) (a1:List (Str×Addr)) (p:Str×Addr),p∈a1→p∈cellsFrom n names a1
 | [],_,_,_,h=>h
 | (_,kind)::r,n,acc,p,h=>by
  unfold cellsFrom
  split
  ·exact jT r _ _ p (.tail _ h)
  ·exact jT r _ _ p h
theorem gB:∀ (names:List (Str×NameKind)) (n:Nat) (a1:List (Str×Addr)) (x:Str),(x,NameKind.cell)∈names→∃ c,(x,c)∈cellsFrom n names a1
 | (nme,kind)::r,n,a1,x,h=>by
  unfold cellsFrom
  rcases List.mem_cons.mp h with e | h
  ·cases e
   exact ⟨n,by rw [if_pos (show (NameKind.cell == NameKind.cell)=true from rfl)];exact jT r _ _ _ (.head _)⟩
  ·split
   ·exact gB r _ _ x h
   ·exact gB r _ _ x h
theorem fK{α:Type}:∀ {l:List (Str×α)} {n:Str} {c:α},(n,c)∈l→∃ c',l.lookup n=some c'
 | (k,v)::r,n,c,h=>by
  rw [List.lookup_cons]
  cases hq:n == k with
  | true=>exact ⟨v,rfl⟩
  | false=>
   rcases List.mem_cons.mp h with e | h
   ·cases e;simp at hq
   ·exact fK h
theorem HI.pushCells{w:World}{base:Heap}{g:Gh}{oth:List (Addr×Obj)}{σ:St}:∀ (names:List (Str×NameKind)) (h:Heap) (acc:List (Addr×Obj)),HI w base g (acc++oth) σ h→HI w base g (fJ h.objs.size names acc++oth) σ (pushCells h names)
 | [],_,_,H=>H
 | (_,kind)::r,h,acc,H=>by
  unfold fJ PySem.pushCells
  split
  ·have:=HI.pushCells r (h.push ql) ((h.objs.size,ql)::acc) (H.pushOth rfl (bV rfl (by decide)))
   rwa [Heap.size_push] at this
  ·exact HI.pushCells r h acc H
section
variable {X:Cx} {A A2:Around} {env:Env} {g:Gh} {oth:List (Addr×Obj)} {σ:St} {s:Shared} {nm:List Str}
theorem wx(f:Str×Value→PUnit→Sem (ForInStep PUnit))(hf:∀ n v u,f (n,v) u=(do storeName env n v;pure (.yield ⟨⟩))){Q:PUnit→Shared→Prop}{E:Value→Shared→Prop}
  {vals:List Value} {vs:List V} (Rs:eC g vals vs):∀ (names:List Str) (i:Nat) (s:Shared) (own:List (Addr×Obj)) (done rest:ck),fA A g own oth env nm (done++rest)→done.length=i→names.length=vals.length→vs.length≤rest.length→HI X.w X.base g (own++oth) σ s.heap→
   (∀ j x,names[j]?=some x→bD nm x=some (i+j)∧bt env.scope.names x=true)→
   (∀ h tk own',HI X.w X.base g (own'++oth) σ h→fA A g own' oth env nm (done++(vs.map some++rest.drop vs.length))→Q ⟨⟩ { s with heap:=h,toks:=tk })→wpAny X.M A2 (forIn (names.zip vals) ⟨⟩ f) Q E s:=by
 induction vals generalizing vs with
 | nil=>
  intro names i s own done rest F hd he hl H hp k
  cases Rs
  rw [List.zip_nil_right,List.forIn_nil]
  exact wpAny_pure (k s.heap s.toks own H (by simpa using F))
 | cons v vl ih=>
  intro names i s own done rest F hd he hl H hp k
  cases names with
  | nil=>simp at he
  | cons n ns=>
   obtain ⟨x,xs,rfl,R,Rs'⟩:∃ x xs,vs=x::xs∧VR g v x∧eC g vl xs:=by cases Rs with | cons a b=>exact ⟨_,_,rfl,a,b⟩
   simp only [List.zip_cons_cons,List.forIn_cons,hf]
   obtain ⟨h1,h2⟩:=hp 0 n rfl
   cases rest with
   | nil=>simp at hl
   | cons r0 rest=>
    refine wpAny_bind (wpAny_bind (F.store h2 h1 H R.lr (fun l e=>by subst e;cases R) fun h tk own' H' F'=>wpAny_pure ?_))
    have e1:(done++r0::rest).set (i+0) (some x)=(done++[some x])++rest:=by
     subst hd;simp
    simp only [e1] at F'
    refine ih Rs' ns (i+1) { s with heap:=h,toks:=tk } own' (done++[some x]) rest F' (by simp [hd]) (by simpa using he) (by simpa using hl) H' (fun j y hy=>?_) fun h2 tk2 own2 H2 F2=>?_
    ·obtain ⟨q1,q2⟩:=hp (j+1) y (by simpa using hy)
     exact ⟨by simp only [q1];congr 1;lia,q2⟩
    ·refine k h2 tk2 own2 H2 ?_
     simpa using F2
set_option tactic.hygienic true in
theorem vo{a:Addr}{ps:List Arg}{body:List Stmt}{scope:Scope}{fn:Fn}(FA:yl X.base a ps body scope nm fn)(hlim:X.base.NoLimit)(H:HI X.w X.base g oth σ s.heap){vals:List Value}{vs:List V}(Rs:eC g vals vs){ρ:ck}(he:cS fn vs=some ρ)(K:nT A oth)
  (hroom:A.depth<recursionLimit) {R:Result→Shared→Prop}
  (h:∀ env own g' h' tk,env.scope=scope→dI env→g.le g'→HI X.w X.base g' (own++oth) σ h'→fA (A.deeper env) g' own oth env nm ρ→
   wpAny X.M (A.deeper env) (execs body env) (fun f s'=>R (.ok (.ret (match f with | .ret v=>v | _=>.none))) s')
    (fun e s'=>wpAny X.M (A.deeper env) (leaving env e) (fun z9 s''=>R (.error e) s'') (fun e' s''=>R (.error e') s'') s') { s with heap:=h',toks:=tk }) :
  codeAny X.M A (.call (.ref a) ⟨vals,[]⟩) R s:=by
 refine ww.E FA.obj fun o fd dv kd df e1 e2 e3 e4 e5 e6 e7 e8 e9 e10 e11=>?_
 refine gk FA.kind fun k1 k2 k3=>?_
 unfold cS at he
 dsimp only at he
 split at he
 ·rename_i hc
  simp only [Bool.and_eq_true,decide_eq_true_eq] at hc
  obtain rfl:=Option.some.inj he
  obtain ⟨hc1,hc2⟩:=hc
  have lv:=Rs.length
  have ld:=e10.length
  have np:=FA.np
  have dl:=FA.dl
  simp only [List.length_append,List.length_drop] at hc1
  refine ob_1_3 (e10.vrs H) fun g1 le1 H1 Rd=>?_
  refine codeAny_call_function (o:=o) (fd:=fd) hroom (H.hb _ _ e1) e2 (by rw [e4];exact k2) (by rw [e4];exact k3) e3 (e9.keeps H.hb) ?_
  refine qk (dv:=dv) e5 FA.nd (by lia) (by lia) (by lia) (e11.imp id fun ⟨T,o,n,q1,q2,q3⟩=>⟨T,o,n,q1,H.hb _ _ q2,q3⟩) ?_
  rw [e8]
  simp only [newFunctionEnv,Option.isSome_none,Bool.false_eq_true,if_false]
  refine wpAny_bind (wpAny_alloc ?_)
  refine wpAny_bind (wpAny_layCells _ (fun name kind cells=>by cases hkc:kind == NameKind.cell<;>simp [hkc]) _ _ _ _ ?_)
  have ok:=cellsFrom_ok fd.scope.names (s.heap.push { cls:=.type "frame",data:=.dict #[] }) (s.heap.objs.size+1) [] ⟨fun z9 z9 hm=>(nomatch hm),List.Pairwise.nil⟩ (by simp only [Heap.size_push];exact Nat.le_refl _)
  have H2:=HI.pushCells fd.scope.names (s.heap.push { cls:=.type "frame",data:=.dict #[] }) [(s.heap.objs.size,{ cls:=.type "frame",data:=.dict #[] })] (H1.pushOth rfl (bV rfl (by decide)))
  rw [Heap.size_push] at ok H2
  dsimp only
  rw [Heap.size_push]
  generalize henv:({ scope:=fd.scope,locals:=s.heap.objs.size,globals:=fd.globals,cells:=cellsFrom (s.heap.objs.size+1) fd.scope.names [],qual:=fd.qualname++".<locals>.",func:=some a,code:=fd.code,frame:=some s.heap.objs.size,builtins:=fd.builtins }:Env)=env
  have hs:env.scope=scope:=by rw [← henv];exact e4
  have hL:env.locals=s.heap.objs.size:=by rw [← henv]
  have hFm:env.frame=some s.heap.objs.size:=by rw [← henv]
  have hcs:env.cells=cellsFrom (s.heap.objs.size+1) fd.scope.names []:=by rw [← henv]
  have hK:∀ x,env.kindOf x=fd.scope.names.lookup x:=fun x=>by rw [← henv];rfl
  have EO:dI env:=⟨by rw [← henv];exact e6,by rw [← henv];exact e7,fun x hx=>by
   unfold bz at hx
   rw [bA] at hx
   show env.scope.names.lookup x=_
   split at hx
   ·rename_i q;exact q
   ·cases hx⟩
  have mL:(env.locals,({ cls:=.type "frame",data:=.dict #[] }:Obj))∈fJ (s.heap.objs.size+1) fd.scope.names [(s.heap.objs.size,{ cls:=.type "frame",data:=.dict #[] })]:=by
   rw [hL];exact kh _ _ _ _ (.head _)
  refine ob_1_2 K fun lF hlF K'=>?_
  have F0:fA (A.deeper env) g1 (fJ (s.heap.objs.size+1) fd.scope.names [(s.heap.objs.size,{ cls:=.type "frame",data:=.dict #[] })]) oth env nm ([]++List.replicate fn.nl none):=by
   refine ⟨⟨by rw [hs];exact k1,by simp [FA.nl],?_,?_,fun x hx=>?_,fun x i v a b c=>?_⟩,⟨_,_,_,mL,rfl,rfl,fun e he=>by simp at he⟩,fun x hx=>?_,fun x y c hx hy=>?_,fun x=>?_,fun x i hi hl=>FA.ok x i hi (hs▸hl),fun i j l l' hi=>?_,fun x i l z9 z9 hi=>?_⟩
   ·refine ⟨env::lF,Around.frames_deeper hlF,fun e he=>?_⟩
    rcases List.mem_cons.mp he with rfl | he
    ·exact ⟨by simp only [hs,k1];decide,_,_,hFm,List.mem_append_left _ (hL▸mL),(fun vs q=>by cases q),rfl⟩
    ·obtain ⟨q1,L,ob,q2,q3,q4,q5⟩:=K' e he
     exact ⟨q1,L,ob,q2,List.mem_append_right _ q3,q4,q5⟩
   ·exact ⟨_,hFm,env,lF,Around.frames_deeper hlF,hFm⟩
   ·rw [hK] at hx
    obtain ⟨c,hc⟩:=gB _ (s.heap.objs.size+1) [] x (mem_of_lookup hx)
    obtain ⟨c',hc'⟩:=fK hc
    exact ⟨c',by rw [hcs];exact hc'⟩
   ·exfalso
    simp only [List.nil_append,List.getElem?_replicate] at c
    split at c<;>cases c
   ·rw [hK] at hx
    obtain ⟨c,hc⟩:=gB _ (s.heap.objs.size+1) [] x (mem_of_lookup hx)
    obtain ⟨c',hc'⟩:=fK hc
    refine ⟨c',ql,none,by rw [hcs];exact hc',m8 _ _ [] _ x c' (fun z9 z9 q=>nomatch q) (mem_of_lookup hc'),rfl,rfl⟩
   ·rw [hcs] at hx hy
    exact name_of_addr ok.apart (mem_of_lookup hx) (mem_of_lookup hy)
   ·rw [hK,e4];exact FA.nofree x
   ·exfalso
    simp only [List.nil_append,List.getElem?_replicate] at hi
    split at hi<;>cases hi
   ·exfalso
    simp only [List.nil_append,List.getElem?_replicate] at hi
    split at hi<;>cases hi
  have Rall:eC g1 (vals++dv.drop (dv.length-(ps.length-vals.length))) (vs++fn.dfl.drop (fn.dfl.length-(fn.np-vs.length))):=by
   simp only [ld,← np,lv];exact (Rs.mono le1).append (Rd.drop _)
  refine wpAny_bind ?_
  refine wx (X:=X) (A:=A.deeper env) (nm:=nm) (oth:=oth) (g:=g1) (σ:=σ) _ ?hf Rall (ps.map (·.arg)) 0 _ _ [] (List.replicate fn.nl none) F0 rfl ?_ ?_ ?_ (fun j x hj=>?_) fun h2 tk2 own2 HH FF=>?_
  case hf=>intro _ _ _;rfl
  ·simp only [List.length_map,List.length_append,List.length_drop];lia
  ·have nnl:fn.np≤fn.nl:=by
    simp only [FA.nl]
    by_cases q:fn.np=0
    ·lia
    ·have hp:=FA.par (fn.np-1) ((ps.map (·.arg))[fn.np-1]'(by simp;lia)) (List.getElem?_eq_getElem _)
     have:=(List.getElem?_eq_some_iff.mp (gO hp.1)).1
     lia
   simp only [List.length_append,List.length_drop,List.length_replicate];lia
  ·exact H2
  ·obtain ⟨q1,q2⟩:=FA.par j x hj
   exact ⟨by rw [q1];congr 1;lia,hs▸q2⟩
  ·refine wpAny_pure ⟨hlim.keeps HH.hb,codeAny_func ?_⟩
   refine h env own2 g1 h2 tk2 hs EO le1 HH ?_
   have:([]:ck)++((vs++fn.dfl.drop (fn.dfl.length-(fn.np-vs.length))).map some++(List.replicate fn.nl (none:Option V)).drop (vs++fn.dfl.drop (fn.dfl.length-(fn.np-vs.length))).length)=(vs++fn.dfl.drop (fn.dfl.length-(fn.np-vs.length))).map some++List.replicate (fn.nl-fn.np) none:=by
    simp only [List.nil_append,List.drop_replicate]
    congr 2
    simp only [List.length_append,List.length_drop];lia
   simp only [this] at FF
   exact FF
 ·exact cq he
end
end Mine.Internal
end
section
open PySem PySem.W PyProof.Rows PySem.Calls
set_option genCtorIdx false
namespace Mine.Internal
theorem pW:findCls [] (.type "Exception") (.type "type") "__init__"=some (.val (.builtin "Exception.__init__")):=by kernel_rfl
section
variable {prog:Program} {w:World} {A:Around} {E:Value→Shared→Prop} {s:Shared}
theorem DB(h:Heap):Frag.In [] h:=fun b o e=>by exact cq e
theorem ub{pl:Sem Bool}{Q:Value×List Value→Shared→Prop}(h:Q (.builtin "Exception.__init__",[]) { s with toks:=s.toks+1 }):wpAny (model prog w) A (getMethod (.type "Exception") "__init__" pl) Q E s:=by
 have X:Frag.In [] s.heap:=DB _
 have hstub:opaqueClassAbove (.type "Exception")=pure none:=by unfold opaqueClassAbove;dsimp only;rw [show Manifest.isStub "Exception"=false by decide +kernel];rfl
 have L0:Looks (model prog w) s.heap (typeOf (.type "Exception")) (.type "type"):=Looks.of_pure (by first | rfl | kernel_rfl)
 have hg:findIn [] (.type "type") "__getattribute__"=some (some (.builtin "type.__getattribute__")):=type_tga
 unfold getMethod specialOf
 refine wpAny_bind (wpAny_bind (L0.here ((looks_findIn X hg).here ?_)))
 dsimp only
 rw [if_pos canon_tga]
 refine wpAny_bind (wpAny_mono (Q:=fun v=>Q (v,[])) (E:=E) ?_ (fun z9 z9 z=>wpAny_pure z) fun z9 z9 z=>z)
 have LO:Looks (model prog w) s.heap (opaqueClassAbove (.type "Exception")) none:=Looks.of_pure hstub
 refine cls_open X LO L0 hg (looks_hook X (r:=none) (by rfl)) (by show subIn [] _ _=_;rfl) pW
  (wpAny_pure (by show wpAny _ _ (handedOut (.builtin "Exception.__init__")) _ _ _;rw [handedOut_of rfl];exact wpAny_pure h))
variable {h:Heap} {g:Array GenState} {d:Drawn} {t:Nat} {os:OsState}
variable {nm q:Str} {C N:Addr} {bs bm:List Value} {hdct:Bool} {sn:List Str} {sub:List Value} {ab:Bool} {col:Option Bool} {dd:Option Addr} {k0 k1 k2 k3 k5:Option Value} {B newId initId:String}
theorem ym(F:ExcBaseFacts B newId initId bm){e:Addr}{od:Option Addr}{vs:Array Value}{sl:Array (Option Value)}{v:Value}{Q:Value→Shared→Prop}(hC:h.get? C=some (excClassObj nm q C N bs bm hdct sn sub ab col dd k0 k1 k2 k3 k5 newId))
  (he:h.get? e=some ⟨.ref C,od,.fields vs,sl⟩) {t0:Addr} (h0:vs[0]?=some (.ref t0))
  (hq:Q .none ⟨(h.push { cls:=.type "tuple",data:=.seq #[v] }).update e (Obj.mapFields (·.setIfInBounds 0 (.ref h.objs.size))),g,d,t,os⟩) :
  wpAny (model prog w) A (call (.builtin initId) [.ref e,v]) Q E ⟨h,g,d,t,os⟩:=by
 have hsz:0<vs.size:=(Array.getElem?_eq_some_iff.mp h0).1
 refine wpAny_call (codeAny_call_builtin F.init.plain F.initEntry (wpAny_check_init_sub F hC he rfl ?_))
 unfold Builtin.«BaseException.__init__»
 dsimp only
 rw [if_neg (by simp)]
 unfold newTuple Builtin.BaseException.bexcPut
 have he₁:=Heap.get?_push_of_some (h:=h) { cls:=.type "tuple",data:=.seq [v].toArray } he
 refine wpAny_bind (wpAny_newObj_type (wpAny_bind (wpAny_bind (wpAny_field he₁ rfl h0 (wpAny_bind (wpAny_setField he₁ rfl hsz ?_))))) (by size_fits))
 exact wpAny_letGo (wpAny_pure hq)
theorem yn(F:ExcBaseFacts B newId initId bm){mN:Str→Option Value}{rest:List Value}{fI:Addr}{R:Result→Shared→Prop}
  (hC:h.get? C=some (excClassObj nm q C N bs bm hdct sn sub ab col dd k0 k1 k2 k3 k5 newId)) (hn:h.Ns N mN) (hni:mN "__init__"=some (.ref fI)) (hb:∀ self,Looks (model prog w) h (bindSpecial (.ref fI) self) (.ref fI,[self]))
  (hq:codeAny (model prog w) (A.under (.builtin "type.__call__" ⟨.ref C::rest,[]⟩)) (.call (.ref fI) ⟨.ref (h.objs.size+1)::rest,[]⟩) (InitBack (h.objs.size+1) R) ⟨(h.push { cls:=.type "tuple",data:=.seq rest.toArray }).push
   { cls:=.ref C,data:=.fields #[.ref h.objs.size,.none,.none,.none,.bool false,.none] },g,d,t,os⟩) (hrest:rest.length≤sizeLine) :
  codeAny (model prog w) A (.call (.ref C) ⟨rest,[]⟩) R ⟨h,g,d,t,os⟩:=by
 have f1:=tc_lookup
 have f2:=tc_bind (.ref C)
 have hT:(⟨h,g,d,t,os⟩:Shared).TypeIs (.ref C) "type":=⟨_,hC,rfl⟩
 refine codeAny_of_tree ?_
 show wpAny _ _ (callAny (.ref C) _) _ _ _
 repeat (any_goals (first | assumption | with_reducible refine wpAny_loadPart_at hC ?_ | wp_step))
 refine ⟨rfl,?_⟩
 refine codeAny_call_builtin_at (Code.quiet_builtin _ (by decide +kernel)) entry_typeCall (wpAny_check_type_call_sub hC ?_)
 unfold Builtin.«type.__call__»
 repeat (first | with_reducible refine wpAny_loadPart_at hC ?_ | with_reducible refine wpAny_madeBy_exc hC ?_ | wp_step)
 refine codeAny_call_builtin_code (Code.quiet_builtin _ F.quiet) (wpAny_check_new_sub F hC ?_)
 refine codeAny_exc_new_sub F hC ?_ hrest
 show wpAny _ _ _ _ _ _
 have k:∀ b o,h.get? b=some o→((h.push { cls:=.type "tuple",data:=.seq rest.toArray }).push
   { cls:=.ref C,data:=.fields #[.ref h.objs.size,.none,.none,.none,.bool false,.none] }).get? b=some o:=fun b o e=>Heap.get?_push_of_some _ (Heap.get?_push_of_some _ e)
 have hC₁:=k _ _ hC
 have hn₁:=hn.keeps k
 have b1:=(hb (.ref (h.objs.size+1))).keeps k
 have hget:((h.push { cls:=.type "tuple",data:=.seq rest.toArray }).push
   { cls:=.ref C,data:=.fields #[.ref h.objs.size,.none,.none,.none,.bool false,.none] }).get? (h.objs.size+1)=some
   { cls:=.ref C,data:=.fields #[.ref h.objs.size,.none,.none,.none,.bool false,.none] }:=by heap_get
 have hcC:(Value.ref C::bm).contains (.ref C)=true:=by simp
 unfold isInstance
 repeat (first | with_reducible refine wpAny_loadPart_at hget ?_ | wp_step)
 refine wpAny_isSubtype_exc hC₁ ?_
 rw [hcC]
 repeat (first | with_reducible refine wpAny_loadPart_at hget ?_ | wp_step)
 show wpAny _ _ (typeLookup (.ref C) _) _ _ _
 refine wpAny_typeLookup_exc hC₁ hn₁ F.mroIs F.init.lookup ?_
 rw [hni]
 dsimp only
 refine wpAny_holding (wpAny_bind (b1.at ?_))
 refine wpAny_bind (wpAny_call ?_)
 refine codeAny_mono hq fun r s' z=>?_
 rcases r with e | (v | _ | _ | _)<;>first | exact z | exact z.elim | skip
 obtain ⟨rfl,z⟩:=z
 first | exact wpAny_pure (wpAny_pure z) | exact wpAny_pure z
end
section
variable {w:World} {base:Heap} {g g':Gh} {oth:List (Addr×Obj)} {σ:St} {h h':Heap}
theorem HI.setExc(H:HI w base g oth σ h){e:Addr}{oe:Obj}(he:h.get? e=some oe)(hc:oe.cls=.ref br)(hb:base.get? e=none)(hx:∀ p∈g.xs,p.1≠e)(k:∀ b o,b≠e→h.get? b=some o→h'.get? b=some o):HI w base g oth σ h':=by
 have ne:∀ {b o},h.get? b=some o→o.cls≠.ref br→b≠e:=fun q n z=>by subst z;rw [he] at q;obtain rfl:=Option.some.inj q;exact n hc
 refine ⟨fun b o q=>k _ _ (fun z=>?_) (H.hb b o q),fun p hp=>?_,fun p hp=>?_,H.len,fun i c q=>?_,fun p hp=>?_,H.nd,H.sep,fun p hp q=>k _ _ (ne (H.hex p hp q) (H.hoth p hp).2.1) (H.hex p hp q)⟩
 ·subst z;rw [hb] at q;exact cq q
 ·obtain ⟨⟨sl,q⟩,n⟩:=H.him p hp
  exact ⟨⟨sl,k _ _ (ne q n.1) q⟩,n⟩
 ·obtain ⟨a,vs,sl,q⟩:=H.hxs p hp
  exact ⟨a,vs,sl,k _ _ (hx p hp) q⟩
 ·refine ob_2_3 (H.cells i c q) fun a o x y z=>?_
  refine ⟨a,o,x,k _ _ (ne y ?_) y,z⟩
  cases z with
  | list a b c d=>rw [a];decide
  | dict a b c d=>rw [a];decide
  | attrs a b c d=>rw [a];decide
 ·obtain ⟨⟨sl,q⟩,n⟩:=H.hoth p hp
  exact ⟨⟨sl,k _ _ (ne q n.1) q⟩,n⟩
theorem HI.consOth(H:HI w base g oth σ h){a:Addr}{o:Obj}(e:h.get? a=some o)(hn:NF o)(hb:base.get? a=none)(hf:a∉g.ca++oth.map (·.1))(hi:∀ p∈g.im,p.1≠a):HI w base g ((a,o)::oth) σ h:=by
 refine ⟨H.hb,H.him,H.hxs,H.len,H.cells,fun p hp=>?_,?_,fun b hb'=>?_,fun p hp q=>?_⟩
 ·rcases List.mem_cons.mp hp with rfl | hp
  ·exact ⟨⟨o.slots,e⟩,hn⟩
  ·exact H.hoth p hp
 ·simp only [List.map_cons,List.nodup_append,List.nodup_cons]
  have nd:=List.nodup_append.mp H.nd
  refine ⟨nd.1,⟨fun m=>hf (List.mem_append_right _ m),nd.2.1⟩,fun x hx b hb'=>?_⟩
  rcases List.mem_cons.mp hb' with z' | hb'
  ·exact fun z=>hf (List.mem_append_left _ ((show x=a from z.trans z')▸hx))
  ·exact nd.2.2 x hx b hb'
 ·rcases List.mem_append.mp hb' with q | q
  ·exact H.sep b (List.mem_append_left _ q)
  ·simp only [List.map_cons] at q
   rcases List.mem_cons.mp q with z | q
   ·have z':b=a:=z
    subst z'
    exact ⟨hb,hi⟩
   ·exact H.sep b (List.mem_append_right _ q)
 ·rcases List.mem_cons.mp hp with rfl | hp
  ·exact e
  ·exact H.hex p hp q
noncomputable abbrev Gh.addXs(g:Gh)(e d:Addr):Gh:={ g with xs:=(e,d)::g.xs }
theorem Gh.le.addXs(g:Gh)(e d:Addr):g.le (g.addXs e d):=⟨⟨[],by simp⟩,fun z9 h=>h,fun z9 h=>.tail _ h⟩
theorem HI.addXs(H:HI w base g oth σ h){e d:Addr}(hb:base.get? e=none)(he:∃ vs sl,h.get? e=some ⟨.ref br,some d,.fields vs,sl⟩):HI w base (g.addXs e d) oth σ h:=
 ⟨H.hb,H.him,fun p hp=>by
  rcases List.mem_cons.mp hp with rfl | hp
  ·exact ⟨hb,he⟩
  ·exact H.hxs p hp,H.len,fun i c q=>let ⟨a,o,x,y,z⟩:=H.cells i c q;⟨a,o,x,y,z.mono (.addXs ..)⟩,H.hoth,H.nd,H.sep,H.hex⟩
end
noncomputable def yo(a:Str)(e:Expr)(p q r:Pos):Stmt:=.Assign [.Attribute (.Name "self" p) a q] e r
noncomputable def Cu(p:Nat→Pos)(k1 k2 k3:Nat):List Stmt:=[yo "value" (.Name "value" (p 10)) (p 11) (p 12) (p 13),yo "errorcode" (.Name "errorcode" (p 14)) (p 15) (p 16) (p 17),
 yo "level" (.Name "level" (p 18)) (p 19) (p 20) (p 21),yo "ret" (.Name "ret" (p 22)) (p 23) (p 24) (p 25),yo "info" (.Constant (.str "") k1 (p 26)) (p 27) (p 28) (p 29),
 yo "is_noted" (.Constant (.bool false) k2 (p 30)) (p 31) (p 32) (p 33),yo "line" (.Constant (.int 0) k3 (p 34)) (p 35) (p 36) (p 37),yo "extra" (.List [] (p 38)) (p 39) (p 40) (p 41)]
noncomputable def sr(body:List Stmt):Prop:=∃ (p:Nat→Pos) (k1 k2 k3:Nat),((p 1).endLine == (p 4).line)=true∧
 body=.Expr (.Call (.Attribute (.Name "Exception" (p 0)) "__init__" (p 1)) [.Name "self" (p 2),.Name "value" (p 3)] [] (p 4)) (p 5)::yo "code" (.Name "code" (p 6)) (p 7) (p 8) (p 9)::Cu p k1 k2 k3
noncomputable def fE:List Str:=["self","code","value","errorcode","level","ret"]
noncomputable def gn:List Str:=["code","value","errorcode","level","ret","info","is_noted","line","extra"]
structure uc (base:Heap) (f:Addr):Prop where
 at':∃ ps body scope nm fn,yl base f ps body scope nm fn∧ps.map (·.arg)=fE∧fn.dfl=[.tup [.str "NONE"],.int 0,.int 0]∧sr body∧
  (∀ x∈fE,scope.names.lookup x=some NameKind.local)∧scope.names.lookup (Str.ofString "Exception")=some NameKind.globalImplicit∧(∀ x∈scope.names,x.2≠.cell)
inductive Fb (base:Heap) (K:Frag):Prop
 | mk (nm q:Str) (N:Addr) (bs:List Value) (sn:List Str) (sub:List Value) (ab:Bool) (col:Option Bool) (dd:Option Addr) (k0 k1 k2 k3 k5:Option Value) (mN:Str→Option Value) (fR:Addr):base.get? br=some (excClassObj nm q br N bs [.type "Exception",.type "BaseException",.type "object"] true sn sub ab col dd k0 k1 k2 k3 k5 "Exception.__new__")→base.Ns N mN→mN "__init__"=some (.ref fR)→typeIn K (.ref fR)=some (.type "function")→uc base fR→Fb base K
structure xv (base:Heap) (K:Frag):Prop where
 inB:K.In base
 cls:Fb base K
 setA:findIn K (.ref br) "__setattr__"=some (some (.builtin "object.__setattr__"))
 cd:∃ cd,clsIn K br=some cd∧cd.mro=[.ref br,.type "Exception",.type "BaseException",.type "object"]∧cd.hasDict=true
 taker:∀ a∈gn,takerIn K br a=some none
 keep:keepIn K (.ref br)=true
 glob:∃ mg mb,base.Ns mainGlobals mg∧base.Ns builtinsNs mb∧mg "Exception"=none∧mb "Exception"=some (.type "Exception")
 nolimit:base.NoLimit
structure RS (X:Cx) (g:Gh) (oth:List (Addr×Obj)) (σ:St) (L e:Addr) (m:Str→Option Value) (d:List (Str×V)) (dx:Addr) (o:Obj) (h:Heap):Prop where
 hi:HI X.w X.base g ((dx,o)::oth) σ h
 ns:h.Ns L m
 ex:∃ vs sl a0,h.get? e=some ⟨.ref br,some dx,.fields vs,sl⟩∧vs[0]?=some a0∧vs[1]?=some .none
 nb:X.base.get? e=none∧∀ p∈g.xs,p.1≠e
 dat:o.cls=.type "dict"∧∃ es n,o.data=.dict es.toArray n∧DR X.w g es d
 ne:L≠dx
theorem RS.mono{X:Cx}{g:Gh}{oth:List (Addr×Obj)}{σ:St}{L e:Addr}{m:Str→Option Value}{d:List (Str×V)}{dx:Addr}{o:Obj}{h:Heap}(R:RS X g oth σ L e m d dx o h){a:Addr}{oa:Obj}(H:HI X.w X.base (g.addIm a oa) ((dx,o)::oth) σ h):RS X (g.addIm a oa) oth σ L e m d dx o h:=
 ⟨H,R.ns,R.ex,R.nb,⟨R.dat.1,let ⟨es,n,h1,h2⟩:=R.dat.2;⟨es,n,h1,h2.mono (.addIm ..)⟩⟩,R.ne⟩
section
variable {X:Cx} {A:Around} {env:Env} {g:Gh} {oth:List (Addr×Obj)} {σ:St} {s:Shared} {K:Frag} {L e dx:Addr} {m:Str→Option Value} {d:List (Str×V)} {o:Obj}
theorem wy(RO:xv X.base K)(hk:env.scope.kind=.function)(hL:env.locals=L)(hself:env.kindOf "self"=some .local)(hm:m "self"=some (.ref e)){a:Str}(ha:a∈gn){val:Expr}{p q r:Pos}(hl:d.length≤900){y:V}{E:Value→Shared→Prop}{Q:Flow→Shared→Prop}
  (hsw:swapsWith val (some (.Attribute (.Name "self" p) a q)) r.line env=pure false)
  (hv:∀ Q1:Value→Shared→Prop,(∀ v h tk g',g.le g'→RS X g' oth σ L e m d dx o h→VR g' v y→Q1 v { s with heap:=h,toks:=tk })→wpAny X.M A (eval val env) Q1 E s)
  (k:∀ h tk g' o',g.le g'→RS X g' oth σ L e m (nR a y d) dx o' h→Q .next { s with heap:=h,toks:=tk }) :
  wpAny X.M A (exec (yo a val p q r) env) Q E s:=by
 refine plainObj_wpAny_Assign_Attribute (hv _ fun v h tk g' le R Rv=>?_) hsw
 have hns:=R.ns
 rw [← hL] at hns
 refine wpAny_Name (wpAny_loadName_local hk hself hns hm ?_) (by decide)
 refine ob_3_3 R.ex fun vs sl a0 he h0 h1=>?_
 obtain ⟨c1,es,n,c2,c3⟩:=R.dat
 refine ob_1_3 RO.cd fun cd q1 q2 q3=>?_
 have hd:=R.hi.hex (dx,o) (.head _) (by show o.cls≠_;rw [c1];decide)
 refine yd (K:=K) (s:={ s with heap:=h,toks:=tk }) (fun b ob z=>R.hi.hb _ _ (RO.inB b ob z)) (ox:=_) (o:=o) ⟨he,rfl,rfl,hd⟩ rfl RO.setA q1 q2 q3 (RO.taker a ha) c2 c3 Rv hl fun h' hs' he'=>?_
 refine ob_2_4 (ly (t:=tk+1) (name:=a) Rv c2 c3) fun es' n' e1 e2 e3 e4=>?_
 refine k h' _ g' (kU X.w a (tk+1) v o) le ⟨?_,R.ns.sameBut hs' R.ne,⟨vs,sl,a0,(hs'.2 e fun z=>?_).trans he,h0,h1⟩,R.nb,⟨e3.trans c1,es',n',e1,e2⟩,R.ne⟩
 ·exact R.hi.setOth (pre:=[]) hs' ⟨_,he'⟩ ⟨by rw [e3];exact (bV c1 (by decide)).1,by rw [e3];exact (bV c1 (by decide)).2⟩ fun z9=>he'
 ·subst z
  rw [hd] at he;obtain rfl:=Option.some.inj he;cases c1
end
section
variable {X:Cx} {A:Around} {g:Gh} {oth:List (Addr×Obj)} {σ:St} {s:Shared} {K:Frag}
theorem pl{k:Str}{v:V}{d:List (Str×V)}{n:Nat}(h:d.length≤n):(nR k v d).length≤n+1:=by have:=l7 k v d;lia
theorem q9{w:World}{es:List DictEntry}{d:List (Str×V)}(D:DR w g es d){x:Str}{y:V}(h:look x d=some y):∃ val,nsFind es.toArray x=some val∧VR g val y:=by
 refine ob_1_2 ((D.look x).1 y h) fun e h1 h2=>?_
 refine ⟨e.val,?_,h2⟩
 unfold nsFind findBy
 rw [List.find?_toArray]
 simp only [oQ,h1]
 rfl
theorem AN{w:World}{es:List DictEntry}{d:List (Str×V)}(D:DR w g es d):StrKeys es.toArray:=by
 intro e he
 have he':e∈es:=by simpa using he
 clear he
 induction D with
 | nil=>cases he'
 | cons a b _ ih=>
  rcases List.mem_cons.mp he' with rfl | q
  ·obtain ⟨⟨t,h⟩,_⟩:=a;exact ⟨_,t,h⟩
  ·exact ih q
theorem wz{w:World}{name:Str}{t:Tok}{v:Value}{y:V}(hv:VR g v y){h:Heap}{D:Addr}(hd:h.get? D=some (kU w name t v emptyDict)) :
  ∃ o es n,h.get? D=some o∧o.cls=.type "dict"∧o.data=.dict es.toArray n∧DR w g es [(name,y)]:=by
 refine ob_2_4 (ly (w:=w) (o:=emptyDict) (t:=t) (name:=name) hv (es:=[]) (d:=[]) (n:=0) rfl .nil) fun es' n' ed1 ed2 ed3 ed4=>?_
 exact ⟨_,es',n',hd,ed3,ed1,ed2⟩
structure IE (env:Env) (L:Addr) (m:Str→Option Value) (vs:List Value):Prop where
 hk:env.scope.kind=.function
 hL:env.locals=L
 kind:∀ x∈fE,env.kindOf x=some .local
 m:∀ p∈fE.zip vs,m p.1=some p.2
theorem IE.ld{L:Addr}{m:Str→Option Value}{vs:List Value}(I:IE env L m vs){M:Model}{s1:Shared}{x:Str}{val:Value}{ps:Pos}{Q:Value→Shared→Prop}{E:Value→Shared→Prop}(hn:s1.heap.Ns L m)(hx:x∈fE)(hm:(x,val)∈fE.zip vs)(hd:(x == ("__debug__":Str))=false)(q:Q val s1):wpAny M A (eval (.Name x ps) env) Q E s1:=
 wpAny_Name (wpAny_loadName_local I.hk (I.kind _ hx) (I.hL.symm▸hn) (I.m _ hm) q) hd
noncomputable abbrev Hg:=Str×Expr×V×Pos×Pos×Pos
noncomputable def EL(X:Cx)(A:Around)(env:Env)(oth:List (Addr×Obj))(σ:St)(L e dx:Addr)(m:Str→Option Value)(g0:Gh)(val:Expr)(y:V):Prop:=∀ (g':Gh) (d:List (Str×V)) (o:Obj) (s:Shared) (E:Value→Shared→Prop) (Q1:Value→Shared→Prop),g0.le g'→RS X g' oth σ L e m d dx o s.heap→
 (∀ v h tk g2,g'.le g2→RS X g2 oth σ L e m d dx o h→VR g2 v y→Q1 v { s with heap:=h,toks:=tk })→wpAny X.M A (eval val env) Q1 E s
noncomputable def IM(X:Cx)(A:Around)(env:Env)(oth:List (Addr×Obj))(σ:St)(L e dx:Addr)(m:Str→Option Value)(g0:Gh)(it:Hg):Prop:=it.1∈gn∧swapsWith it.2.1 (some (.Attribute (.Name "self" it.2.2.2.1) it.1 it.2.2.2.2.1)) it.2.2.2.2.2.line env=pure false∧EL X A env oth σ L e dx m g0 it.2.1 it.2.2.1
theorem yq(RO:xv X.base K){L e dx:Addr}{m:Str→Option Value}{vs:List Value}(I:IE env L m (.ref e::vs)){g0:Gh}:∀ (its:List Hg),(∀ it∈its,IM X A env oth σ L e dx m g0 it)→∀ {g:Gh} {d:List (Str×V)} {o:Obj} {s:Shared} {Q:Flow→Shared→Prop} {E:Value→Shared→Prop},g0.le g→RS X g oth σ L e m d dx o s.heap→d.length+its.length≤900→
  (∀ h tk g' o',g.le g'→RS X g' oth σ L e m (its.foldl (fun d it=>nR it.1 it.2.2.1 d) d) dx o' h→Q .next { s with heap:=h,toks:=tk })→wpAny X.M A (execs (its.map fun it=>yo it.1 it.2.1 it.2.2.2.1 it.2.2.2.2.1 it.2.2.2.2.2) env) Q E s:=by
 intro its
 induction its with
 | nil=>exact fun _ {g d o s Q E} _ R _ k=>wpAny_execs_nil (k s.heap s.toks g o (.refl g) R)
 | cons it its ih=>
  intro hi g d o s Q E k0 R hl k
  have h1:=hi it (.head _)
  refine wpAny_execs_cons (wy RO I.hk I.hL (I.kind _ (.head _)) (I.m _ (.head _)) h1.1 (Nat.le_trans (Nat.le_add_right ..) hl) h1.2.1 (fun Q1 kk=>h1.2.2 g d o s E Q1 k0 R kk) fun h tk g' o' le R'=>?_)
  exact ih (fun it h=>hi it (.tail _ h)) (k0.trans le) R' (Nat.le_trans (Nat.add_le_add_right (pl (Nat.le_refl _)) _) (Nat.le_trans (Nat.le_of_eq (Nat.succ_add_eq_add_succ ..)) hl)) fun h2 tk2 g2 o2 le2 R2=>k h2 tk2 g2 o2 (le.trans le2) R2
noncomputable def Fc(p:Nat→Pos)(k1 k2 k3:Nat)(v:V):List Hg:=[("value",.Name "value" (p 10),v,p 11,p 12,p 13),("errorcode",.Name "errorcode" (p 14),.tup [.str "NONE"],p 15,p 16,p 17),("level",.Name "level" (p 18),.int 0,p 19,p 20,p 21),("ret",.Name "ret" (p 22),.int 0,p 23,p 24,p 25),
 ("info",.Constant (.str "") k1 (p 26),.str "",p 27,p 28,p 29),("is_noted",.Constant (.bool false) k2 (p 30),.bool false,p 31,p 32,p 33),("line",.Constant (.int 0) k3 (p 34),.int 0,p 35,p 36,p 37),("extra",.List [] (p 38),.lst [],p 39,p 40,p 41)]
theorem mB{α:Type}{P:α→Prop}{a:α}{l:List α}(h:P a)(k:∀ x∈l,P x):∀ x∈a::l,P x:=List.forall_mem_cons.mpr ⟨h,k⟩
section
variable {L dx e:Addr} {m:Str→Option Value} {g0:Gh}
theorem q_{vs:List Value}(I:IE env L m vs){x:Str}{val:Value}{y:V}{ps:Pos}(hx:x∈fE)(hm:(x,val)∈fE.zip vs)(hd:(x == ("__debug__":Str))=false)(Rv:VR g0 val y):EL X A env oth σ L e dx m g0 (.Name x ps) y:=
 fun g' d o s E Q1 k0 R kk=>I.ld R.ns hx hm hd (kk val s.heap s.toks g' (.refl _) R (Rv.mono k0))
theorem Fd{x:Str}{k:Nat}{ps:Pos}:EL X A env oth σ L e dx m g0 (.Constant (.str x) k ps) (.str x):=fun g' d o s E Q1 k0 R kk=>wpAny_Constant_str (kk _ s.heap _ _ (.refl _) R (.str _ _))
theorem DD{x:Bool}{k:Nat}{ps:Pos}:EL X A env oth σ L e dx m g0 (.Constant (.bool x) k ps) (.bool x):=fun g' d o s E Q1 k0 R kk=>wpAny_Constant_bool (kk _ s.heap s.toks _ (.refl _) R (.bool _))
theorem Fe{x:Int}{k:Nat}{ps:Pos}:EL X A env oth σ L e dx m g0 (.Constant (.int x) k ps) (.int x):=fun g' d o s E Q1 k0 R kk=>wpAny_Constant_int (kk _ s.heap _ _ (.refl _) R (.int _ _))
theorem Ff{ps:Pos}:EL X A env oth σ L e dx m g0 (.List [] ps) (.lst []):=fun g' d o s E Q1 k0 R kk=>by
 refine wpAny_List (wpAny_items_nil ⟨Nat.zero_le _,?_⟩)
 have HH:=R.hi.pushIm (o:=({ cls:=.type "list",data:=.seq #[] }:Obj)) rfl (bV rfl (by decide))
 refine kk _ _ s.toks _ (.addIm ..) (RS.mono ⟨R.hi.pushAny _,R.ns.push _,?_,R.nb,R.dat,R.ne⟩ HH) (.lst (.head _) rfl (vs:=[]) (n:=0) ⟨rfl,Nat.zero_le _⟩ .nil)
 exact ob_3_3 R.ex fun vs sl a0 q1 q2 q3=>⟨vs,sl,a0,Heap.get?_push_of_some _ q1,q2,q3⟩
end
theorem wA(RO:xv X.base K){L dx e:Addr}{m:Str→Option Value}{g1:Gh}{o4:Obj}{vc vv ve vl vr:Value}{c v:V}(I:IE env L m [.ref e,vc,vv,ve,vl,vr])(R4:RS X g1 oth σ L e m [("code",c)] dx o4 s.heap)(Rv:VR g1 vv v)(Re:VR g1 ve (.tup [.str "NONE"]))(Rl:VR g1 vl (.int 0))(Rr:VR g1 vr (.int 0)){p:Nat→Pos}{n1 n2 n3:Nat}{Q:Flow→Shared→Prop}{E:Value→Shared→Prop}
  (k:∀ h tk g',g1.le g'→HI X.w X.base g' oth σ h→VR g' (.ref e) (.exc c v)→kD X.base e h→Q .next { s with heap:=h,toks:=tk }):wpAny X.M A (execs (Cu p n1 n2 n3) env) Q E s:=by
 refine yq RO I (Fc p n1 n2 n3 v) ?_ (.refl g1) R4 (show 1+8≤900 by decide) fun h tk g' o' le R=>?_
 ·exact mB ⟨(show ("value":Str)∈gn by decide),rfl,q_ I (by decide) (.tail _ (.tail _ (.head _))) (by decide) Rv⟩ (mB ⟨(show ("errorcode":Str)∈gn by decide),rfl,q_ I (by decide) (.tail _ (.tail _ (.tail _ (.head _)))) (by decide) Re⟩
   (mB ⟨(show ("level":Str)∈gn by decide),rfl,q_ I (by decide) (.tail _ (.tail _ (.tail _ (.tail _ (.head _))))) (by decide) Rl⟩ (mB ⟨(show ("ret":Str)∈gn by decide),rfl,q_ I (by decide) (.tail _ (.tail _ (.tail _ (.tail _ (.tail _ (.head _)))))) (by decide) Rr⟩
   (mB ⟨(show ("info":Str)∈gn by decide),rfl,Fd⟩ (mB ⟨(show ("is_noted":Str)∈gn by decide),rfl,DD⟩ (mB ⟨(show ("line":Str)∈gn by decide),rfl,Fe⟩ (mB ⟨(show ("extra":Str)∈gn by decide),rfl,Ff⟩ fun z9 q=>nomatch q)))))))
 ·refine ob_3_3 R.ex fun vs sl a0 q1 q2 q3=>bC R.dat fun c1 q=>ob_2_2 q fun es nn c2 D=>?_
  have leB:=(Gh.le.addIm g' dx o').trans (.addXs _ e dx)
  refine ob_1_2 (q9 D (x:="code") (y:=c) (by rfl)) fun v1 f1 r1=>ob_1_2 (q9 D (x:="value") (y:=v) (by rfl)) fun v2 f2 r2=>ob_1_2 (q9 D (x:="errorcode") (y:=.tup [.str "NONE"]) (by rfl)) fun v3 f3 r3=>?_
  exact k h tk ((g'.addIm dx o').addXs e dx) (le.trans leB) ((R.hi.toIm (pre:=[])).addXs R.nb.1 ⟨vs,sl,q1⟩) (.exc (.head _) (.head _) c2 (AN D) f1 f2 f3 (r1.mono leB) (r2.mono leB) (r3.mono leB)) ⟨dx,vs,sl,a0,q1,q2,(Array.getElem?_eq_some_iff.mp q3).1,.inl q3⟩
theorem wB(RO:xv X.base K){fR e:Addr}(IA:uc X.base fR)(H:HI X.w X.base g oth σ s.heap){t0:Addr}(he:s.heap.get? e=some ⟨.ref br,none,.fields #[.ref t0,.none,.none,.none,.bool false,.none],#[]⟩)(hb:X.base.get? e=none)
  {nm q:Str} {N:Addr} {bs:List Value} {sn:List Str} {sub:List Value} {ab:Bool} {col:Option Bool} {dd:Option Addr} {k0 k1 k2 k3 k5:Option Value}
  (hC:X.base.get? br=some (excClassObj nm q br N bs [.type "Exception",.type "BaseException",.type "object"] true sn sub ab col dd k0 k1 k2 k3 k5 "Exception.__new__"))
  {vals:List Value} {vc vv:Value} {c v:V} (Rc:VR g vc c) (Rv:VR g vv v) (hvals:vals=[vc,vv]∨∃ ve,vals=[vc,vv,ve]∧VR g ve (.tup [.str "NONE"])) (hroom:A.depth<recursionLimit) {R:Result→Shared→Prop}
  (k:∀ h tk g',g.le g'→HI X.w X.base g' oth σ h→VR g' (.ref e) (.exc c v)→kD X.base e h→R (.ok (.ret .none)) { s with heap:=h,toks:=tk }) :
  codeAny X.M A (.call (.ref fR) ⟨.ref e::vals,[]⟩) R s:=by
 refine ob_5_7 IA.at' fun ps body scope nm0 fn FA hps hdf hbody hloc hexc hcell=>?_
 refine ww.E FA.obj fun o fd dv kd df e1 e2 e3 e4 e5 e6 e7 e8 e9 e10 e11=>?_
 refine gk FA.kind fun kk1 kk2 kk3=>?_
 simp only [hdf] at e10
 refine ob_1_3 (e10.vrs H) fun g1 le1 H1 Rd=>?_
 obtain ⟨vT,vl,vr,rfl,RT,Rl,Rr⟩:∃ a b c,dv=[a,b,c]∧VR g1 a (.tup [.str "NONE"])∧VR g1 b (.int 0)∧VR g1 c (.int 0):=
  Rd.eCons fun a z9 Ra R=>R.eCons fun b z9 Rb R=>R.eCons fun c z9 Rc R=>R.eNil ⟨a,b,c,rfl,Ra,Rb,Rc⟩
 clear Rd
 have hlen:ps.length=6:=by have:=congrArg List.length hps;simpa [fE] using this
 obtain ⟨ve,Re,hW⟩:∃ ve,VR g1 ve (.tup [.str "NONE"])∧(Value.ref e::vals)++([vT,vl,vr]:List Value).drop (3-(6-(Value.ref e::vals).length))=[.ref e,vc,vv,ve,vl,vr]:=by
  rcases hvals with rfl | ⟨ve,rfl,r⟩
  ·exact ⟨vT,RT,rfl⟩
  ·exact ⟨ve,r.mono le1,rfl⟩
 have hnl:(Value.ref e::vals).length=3∨(Value.ref e::vals).length=4:=by rcases hvals with rfl | ⟨ve,rfl,r⟩<;>simp
 have hbind:BindsTo s fd ⟨.ref e::vals,[]⟩ (fE.zip [.ref e,vc,vv,ve,vl,vr]):=fun M A E Q hq=>by
  refine qk (dv:=[vT,vl,vr]) e5 FA.nd (by simp only [hlen];lia) (by rw [hlen];simp) (by rw [hlen];simp only [List.length_cons,List.length_nil] at hnl ⊢;lia) (e11.imp id fun ⟨T,o,n,q1,q2,q3⟩=>⟨T,o,n,q1,H.hb _ _ q2,q3⟩) ?_
  rw [hps,hlen]
  show Q (fE.zip ((Value.ref e::vals)++([vT,vl,vr]:List Value).drop (3-(6-(Value.ref e::vals).length)))) s
  rw [hW];exact hq
 refine codeAny_call_def hroom (H.hb _ _ e1) e2 (RO.nolimit.keeps H.hb) (e9.keeps H.hb) e3 hbind (by rw [e4];exact hcell) (fun x hx=>?_) (fun h₀ hns hk=>?_) (by rw [e4];exact kk2) (by rw [e4];exact kk3) (by rw [e4];exact kk1)
 ·rw [e4]
  refine hloc x.1 (List.of_mem_zip (?_:(x.1,x.2)∈fE.zip [.ref e,vc,vv,ve,vl,vr])).1
  exact hx
 have Hs:=H1.grow hk
 have hx1:∀ p∈g1.xs,p.1≠e:=fun p hp z=>by
  obtain ⟨_,vs,sl,q⟩:=H1.hxs p hp
  rw [z,he] at q;cases q
 have hes:=hk _ _ he
 obtain ⟨m,hmq⟩:∃ m,m=fun x=>(fE.zip [Value.ref e,vc,vv,ve,vl,vr]).reverse.lookup x:=⟨_,rfl⟩
 rw [← hmq] at hns
 have hmm:∀ p∈fE.zip [Value.ref e,vc,vv,ve,vl,vr],m p.1=some p.2:=hmq▸mB (by rfl) (mB (by rfl) (mB (by rfl) (mB (by rfl) (mB (by rfl) (mB (by rfl) fun z9 q=>nomatch q)))))
 clear hmq
 generalize henv:callEnv fd s.heap.objs.size fR=env
 have I:IE env s.heap.objs.size m [.ref e,vc,vv,ve,vl,vr]:=⟨by rw [← henv];exact (congrArg Scope.kind e4).trans kk1,by rw [← henv];rfl,fun x hx=>by rw [← henv];show fd.scope.names.lookup x=_;rw [e4];exact hloc x hx,hmm⟩
 have hk:=I.hk
 have kexc:env.kindOf "Exception"=some .globalImplicit:=by rw [← henv];show fd.scope.names.lookup _=_;rw [e4];exact hexc
 have hgl:env.globals=mainGlobals:=by rw [← henv];exact e6
 have hbi:env.builtins=builtinsNs:=by rw [← henv];exact e7
 obtain ⟨p,n1,n2,n3,hline,rfl⟩:=hbody
 refine wpAny_execs_cons (wpAny_Expr_any ?_ (by show interactive env=false;unfold interactive;rw [hk];rfl) rfl)
 rw [arm_eval_Call,fM rfl]
 obtain ⟨mg,mb,gl1,gl2,gl3,gl4⟩:=RO.glob
 refine wpAny_bind (Name_function_global hk kexc (loadGlobal_builtin (by rw [hgl];exact gl1.keeps Hs.hb) gl3 (by rw [hbi];exact gl2.keeps Hs.hb) gl4 ?_) (by decide))
 refine wpAny_bind (wpAny_standAt ?_)
 have hpos:methodCallPos true (.Name "Exception" (p 0)) env (p 1) (p 4)=pure (p 4):=by unfold methodCallPos;simp [hline]
 unfold methodCall
 rw [si (as:=[.Name "self" (p 2),.Name "value" (p 3)]) rfl (by simp)]
 refine wpAny_bind (wpAny_holding (ub ?_))
 refine wpAny_bind (wpAny_of_eq hpos ?_)
 refine callWith_builtin (bW rfl) (eY (bW rfl) (wpAny_items_cons (I.ld hns (.head _) (.head _) (by decide) ?_) (eT rfl)))
 refine wpAny_items_cons (I.ld hns (by decide) (.tail _ (.tail _ (.head _))) (by decide) ?_) (eT rfl)
 refine wpAny_items_nil ?_
 refine ym PySem.F.excBase_Exception (Hs.hb _ _ hC) hes (t0:=t0) rfl ?_
 have Hs2:=Hs.pushAny ({ cls:=.type "tuple",data:=.seq #[vv] }:Obj)
 have he2:=Heap.get?_push_of_some (h:=h₀) ({ cls:=.type "tuple",data:=.seq #[vv] }:Obj) hes
 have he3:=Heap.get?_update_self (Obj.mapFields (·.setIfInBounds 0 (.ref h₀.objs.size))) he2 rfl
 have H3:=Hs2.setExc (h':=(h₀.push { cls:=.type "tuple",data:=.seq #[vv] }).update e (Obj.mapFields (·.setIfInBounds 0 (.ref h₀.objs.size)))) he2 rfl hb hx1 fun b o hbe q=>(Heap.get?_update_other _ _ (Ne.symm hbe)).trans q
 have hLe:s.heap.objs.size≠e:=Nat.ne_of_gt (Heap.lt_size he)
 have ns3:((h₀.push { cls:=.type "tuple",data:=.seq #[vv] }).update e (Obj.mapFields (·.setIfInBounds 0 (.ref h₀.objs.size)))).Ns s.heap.objs.size m:=(hns.push _).sameBut (Heap.SameBut.update ..) hLe
 generalize hh3:(h₀.push { cls:=.type "tuple",data:=.seq #[vv] }).update e (Obj.mapFields (·.setIfInBounds 0 (.ref h₀.objs.size)))=h3 at he3 H3 ns3
 dsimp only at hh3 ⊢
 refine wpAny_execs_cons (plainObj_wpAny_Assign_Attribute (I.ld (s1:={ s with heap:=h3,toks:=_ }) ns3 (by decide) (.tail _ (.head _)) (by decide) (I.ld (s1:={ s with heap:=h3,toks:=_ }) ns3 (.head _) (.head _) (by decide) ?_)) rfl)
 obtain ⟨cd,cq1,cq2,cq3⟩:=RO.cd
 refine ye (g:=g1) (K:=K) (C:=br) (ox:=_) (y:=c) (fun b ob z=>H3.hb _ _ (RO.inB b ob z)) ⟨he3,rfl,rfl,trivial⟩ rfl rfl RO.setA cq1 cq2 cq3 (RO.taker _ (by simp [gn])) (Rc.mono le1) fun h4 hk4 hx4 hd4=>?_
 have H4:=H3.setExc (h':=h4) he3 rfl hb hx1 fun b o hbe q=>hk4 b o hbe q
 obtain ⟨o4,es4,n4,hd4,oc4,od4,D4⟩:=wz (Rc.mono le1) hd4
 dsimp only at hd4 hk4 hx4
 have fr4:=H3.fresh (Nat.le_refl _)
 have hD:h3.objs.size≠e:=Nat.ne_of_gt (Heap.lt_size he3)
 have hLD:s.heap.objs.size≠h3.objs.size:=by
  obtain ⟨ob,_,_,q,_⟩:=ns3
  exact Nat.ne_of_lt (Heap.lt_size q)
 have R4:RS X g1 oth σ s.heap.objs.size e m [("code",c)] h3.objs.size o4 h4:=⟨H4.consOth hd4 (bV oc4 (by decide)) (H3.base_none (Nat.le_refl _)) fr4 (fun p hp z=>absurd (z▸H3.im_lt hp) (Nat.lt_irrefl _)),
  (by obtain ⟨ob,es,ep,q,r⟩:=ns3;exact ⟨ob,es,ep,hk4 _ _ hLe q,r⟩),⟨_,_,_,hx4,rfl,rfl⟩,⟨hb,hx1⟩,⟨oc4,es4,n4,od4,D4⟩,hLD⟩
 exact wA (s:={ s with heap:=h4,toks:=_ }) RO I R4 (Rv.mono le1) Re Rl Rr fun h tk g' le' H' R' Fl=>k h tk g' (le1.trans le') H' R' Fl
end
end Mine.Internal
end
section
open PySem PySem.W PyProof.Rows PySem.Calls
set_option genCtorIdx false
namespace Mine.Internal
noncomputable def qm(X:Cx)(g:Gh)(oth:List (Addr×Obj))(s:Shared)(Q E:Value→Shared→Prop):jE V→Prop
 | .ok v σ=>∀ a h tk g',g.le g'→HI X.w X.base g' oth σ h→VR g' (.ref a) v→kD X.base a h→Q (.ref a) { s with heap:=h,toks:=tk }
 | .exc v σ=>∀ e h tk g',g.le g'→HI X.w X.base g' oth σ h→VR g' (.ref e) v→kD X.base e h→E (.ref e) { s with heap:=h,toks:=tk }
noncomputable def JF(X:Cx)(A:Around)(env:Env)(nm:List Str)(e:Expr)(pe:PE):Prop:=
 ∀ ρ σ r,ev X.C ρ pe σ=some r→∀ g oth,eV A g oth env nm ρ→∀ s Q E,HI X.w X.base g oth σ s.heap→qm X g oth s Q E r→wpAny X.M A (eval e env) Q E s
section
variable {X:Cx} {A:Around} {env:Env} {nm:List Str} {g g':Gh} {oth:List (Addr×Obj)} {σ:St} {s:Shared} {K:Frag} {fns:List (Str×Nat)}
theorem qm.exc{Q E:Value→Shared→Prop}{r:jE V}(P:qm X g oth s Q E r) :
  ∀ v σ',r=.exc v σ'→∀ e h tk g',g.le g'→HI X.w X.base g' oth σ' h→VR g' (.ref e) v→kD X.base e h→E (.ref e) { s with heap:=h,toks:=tk }:=fun v σ' q=>by
 subst q;exact P
theorem qm.at{Q E:Value→Shared→Prop}{r:jE V}(P:qm X g oth s Q E r)(k:g.le g')(h:Heap)(tk:Tok):qm X g' oth { s with heap:=h,toks:=tk } Q E r:=by
 cases r with
 | ok v σ=>exact fun val h' tk' g2 k2 H R=>P val h' tk' g2 (k.trans k2) H R
 | exc v σ=>exact fun e h' tk' g2 k2 H R F=>P e h' tk' g2 (k.trans k2) H R F
theorem JF.je{e:Expr}{pe:PE}(J:JF X A env nm e pe)(hx:∀ ρ σ v σ',ev X.C ρ pe σ=some (.ok v σ')→True):JE X A env nm e pe:=fun ρ σ r hr g oth F s Q E H P=>by
 refine J ρ σ r hr g oth F s Q E H ?_
 cases r with
 | ok v σ=>exact fun a h tk g' k H R z9=>P (.ref a) h tk g' k H R
 | exc v σ=>exact P
theorem ud:∀ {l:List V} {ss:List Str},ed l=some ss→l=ss.map .str:=by
 intro l
 induction l with
 | nil=>exact fun h=>Option.some.inj h▸rfl
 | cons v l ih=>exact fun h=>cV h fun x hx h=>mn h fun ys hy e=>e▸gZ hx▸congrArg (V.str x::·) (ih hy)
theorem ue{a:V}(h:Cb a=true):a=.tup [.str "NONE"]:=cV (of_decide_eq_true h) fun l h1 h2=>(gm h1).trans (congrArg V.tup (ud h2))
theorem AO{l:List V}{z:V}(h:n9 l=some z){C:Prop}(k:∀ c v r,l=c::v::r→.exc c v=z→(r=[]∨r=[.tup [.str "NONE"]])→C):C:=by
 cases l with
 | nil=>exact cq h
 | cons c l=>cases l with
  | nil=>exact cq h
  | cons v r=>cases r with
   | nil=>exact k c v [] rfl (Option.some.inj h) (.inl rfl)
   | cons e r=>exact gf h fun hb h=>jF hb fun h1 h2=>k c v _ rfl (Option.some.inj h) (.inr (by rw [List.isEmpty_iff.mp h1,ue h2]))
theorem m9(T:jZ X fns)(O:dI env)(RO:xv X.base K)(hroom:A.depth+1<recursionLimit)(hg:bz env.scope.names "Raised"=true){as:List Expr}{ps:List PE}{np pos:Pos}(Js:JL X A env nm as ps)(hn:as.all bw=true) :
  JF X A env nm (.Call (.Name "Raised" np) as [] pos) (.raised ps):=by
 intro ρ σ r hr g oth F s Q E H P
 refine cP (oV T O F.fn (C:=br) (fun mg h=>h.1) (by decide) hg H ?_)
 refine callWith_of (P:=K.In) (by rw [bW hn];rfl) (keeps_K RO.keep) (eY (bW hn) (Js.step hr F H P.exc fun vs σ1 hr1 vals h1 tk1 g1 k1 H1 R1=>⟨fun b o e=>H1.hb _ _ (RO.inB b o e),?_⟩))
 obtain ⟨nm',q,N,bs,sn,sub,ab,col,dd,k0,k1',k2,k3,k5,mN,fR,c1,c2,c3,c4,c5⟩:=RO.cls
 have KI:K.In h1:=fun b o e=>H1.hb _ _ (RO.inB b o e)
 refine rR hr1 P fun z hz P=>AO hz fun c v r' q1 q2 q3=>?_
 obtain rfl:=q1
 obtain rfl:=q2
 clear hz hr1
 refine eC.eCons R1 fun vc u Rc R1=>eC.eCons R1 fun vv u Rv R1=>?_
 have hvals:vc::vv::u=[vc,vv]∨∃ ve,vc::vv::u=[vc,vv,ve]∧VR g1 ve (.tup [.str "NONE"]):=q3.elim (fun e=>.inl ((e▸R1).eNil rfl)) fun e=>.inr ((e▸R1).eCons fun ve u a b=>b.eNil ⟨ve,rfl,a⟩)
 clear R1 q3
 generalize hv9:vc::vv::u=vals at hvals
 have hlen:vals.length≤sizeLine:=by simp only [sizeLine_eq];rcases hvals with rfl | ⟨ve,rfl,_⟩<;>simp
 have H2:=(H1.pushIm (o:=({ cls:=.type "tuple",data:=.seq vals.toArray }:Obj)) rfl (bV rfl (by decide))).pushAny ({ cls:=.ref br,data:=.fields #[.ref h1.objs.size,.none,.none,.none,.bool false,.none] }:Obj)
 have le2:=Gh.le.addIm g1 h1.objs.size ({ cls:=.type "tuple",data:=.seq vals.toArray }:Obj)
 refine wpAny_call (yn PySem.F.excBase_Exception (H1.hb _ _ c1) (c2.keeps H1.hb) c3 (fun self=>bind_fn KI self c4) ?_ hlen)
 have hp:=Heap.get?_push_size (h1.push { cls:=.type "tuple",data:=.seq vals.toArray }) (o:=({ cls:=.ref br,data:=.fields #[.ref h1.objs.size,.none,.none,.none,.bool false,.none] }:Obj)) rfl
 simp only [Heap.size_push] at hp
 refine wB (X:=X) (s:=⟨(h1.push { cls:=.type "tuple",data:=.seq vals.toArray }).push { cls:=.ref br,data:=.fields #[.ref h1.objs.size,.none,.none,.none,.bool false,.none] },_,_,_,_⟩) RO c5 H2 hp (H1.base_none (by lia)) c1 (Rc.mono le2) (Rv.mono le2) ?_ hroom fun h tk g' le' H' R' Fl=>?_
 ·rcases hvals with rfl | ⟨ve,rfl,r3⟩
  ·exact .inl rfl
  ·exact .inr ⟨ve,rfl,r3.mono le2⟩
 ·exact ⟨rfl,P _ h tk g' ((k1.trans le2).trans le') H' R' Fl⟩
structure yr (base:Heap) (f:Addr):Prop where
 at':∃ ps body scope nm fn,yl base f ps body scope nm fn∧fn.np=2∧fn.dfl=[.tup [.str "NONE"]]∧bD nm "text"=some 0∧bD nm "errorcode"=some 1∧bt scope.names "text"=true∧bt scope.names "errorcode"=true∧
  bz scope.names "Raised"=true∧∃ k p1 p2 p3 p4 p5 p6,body=[.Return (some (.Call (.Name "Raised" p1) [.Constant (.int 1) k p2,.Name "text" p3,.Name "errorcode" p4] [] p5)) p6]
theorem HI.pre{w:World}{base:Heap}{g:Gh}{own oth:List (Addr×Obj)}{σ:St}{h:Heap}(H:HI w base g (own++oth) σ h):HI w base g oth σ h:=H.sub (List.sublist_append_right ..)
theorem yt(T:jZ X fns)(O:dI env)(RO:xv X.base K)(hroom:A.depth+2<recursionLimit){k:Nat}(hx:bE "error" fns=some k)(EO:∀ a,(∃ mg,X.base.Ns mainGlobals mg∧mg "error"=some (.ref a))→yr X.base a)(hg:bz env.scope.names "error"=true)
  {a:Expr} {p:PE} {np pos:Pos} (hn:bw a=true) (J:JE X A env nm a p):JF X A env nm (.Call (.Name "error" np) [a] [] pos) (.mkErr p):=by
 intro ρ σ r hr g oth F s Q E H P
 refine cP (vj T O F.fn hx hg H fun fa hfa mg=>?_)
 refine rO fun C kC=>?_
 refine ob_2_2 hfa fun o0 fd0 e0 d0=>?_
 obtain ⟨ps,body,scope,nm',fn,FA,hnp,hdf,i1,i2,l1,l2,gR,kk,p1,p2,p3,p4,p5,p6,hb⟩:=(EO fa mg).at'
 refine kC ?_
 refine callWith_function (o:=o0) (fd:=fd0) (g7 hn J hr F H P.exc fun v σ1 hr1 val h1 tk1 g1 k1 H1 R1=>⟨⟨H1.hb _ _ e0,d0⟩,wpAny_call ?_⟩)
 obtain rfl:=Option.some.inj hr1
 have henter:cS fn [v]=some ([some v,some (.tup [.str "NONE"])]++List.replicate (fn.nl-2) none):=by
  unfold cS;simp [hnp,hdf]
 refine vo (s:={ s with heap:=h1,toks:=tk1 }) FA T.nolimit H1 (.one R1) henter F.fr (by lia) fun env' own g2 h2 tk2 hs O' le2 H2 F2=>?_
 subst hb
 refine wpAny_execs_cons (wpAny_Return_some ?_)
 have JT:JE X (A.deeper env') env' nm' (.Name "text" p3) (.loc 0):=qV (hs▸l1) i1
 have JC:JE X (A.deeper env') env' nm' (.Name "errorcode" p4) (.loc 1):=qV (hs▸l2) i2
 have JR:=m9 (A:=A.deeper env') (env:=env') (nm:=nm') (np:=p1) (pos:=p5) T O' RO (show A.depth+1+1<recursionLimit by lia) (hs▸gR) (lx (rfl:bw (.Constant (.int 1) kk p2)=true) xO (lx rfl JT (lx rfl JC qY))) (by rfl)
 refine JR _ σ1 (.ok (.exc (.int 1) v) σ1) ?_ g2 _ F2.fr _ _ _ H2 fun a h tk g' k' H' R' Fl=>?_
 ·have nv:∀ l,v≠.own l:=fun l q=>by subst q;cases R1
  have e1:∀ σ1,ev X.C ([some v,some (.tup [.str "NONE"])]++List.replicate (fn.nl-2) none) (.int 1) σ1=bv (.int 1) σ1:=fun σ1=>rfl
  have e2:∀ σ1,ev X.C ([some v,some (.tup [.str "NONE"])]++List.replicate (fn.nl-2) none) (.loc 0) σ1=bv v σ1:=fun σ1=>by
   cases v<;>first | rfl | exact absurd rfl (nv _)
  have e3:∀ σ1,ev X.C ([some v,some (.tup [.str "NONE"])]++List.replicate (fn.nl-2) none) (.loc 1) σ1=bv (.tup [.str "NONE"]) σ1:=fun σ1=>rfl
  simp only [aa,q_cons,q_nil,e1,e2,e3,bv,cR.bind]
  rfl
 ·exact P a h tk g' ((k1.trans le2).trans k') H'.pre R' Fl
end
end Mine.Internal
end
section
open PySem PySem.W PyProof.Rows PySem.Calls
namespace Mine.Internal
noncomputable def kJ(X:Cx)(A:Around)(env:Env)(nm:List Str)(g:Gh)(oth0:List (Addr×Obj))(s:Shared)(Q:Flow→Shared→Prop)(E:Value→Shared→Prop):FR→Prop
 | .next ρ σ=>∀ h tk g' own,g.le g'→HI X.w X.base g' (own++oth0) σ h→fA A g' own oth0 env nm ρ→Q .next { s with heap:=h,toks:=tk }
 | .brk ρ σ=>∀ h tk g' own,g.le g'→HI X.w X.base g' (own++oth0) σ h→fA A g' own oth0 env nm ρ→Q .brk { s with heap:=h,toks:=tk }
 | .ret v ρ σ=>∀ val h tk g' own,g.le g'→HI X.w X.base g' (own++oth0) σ h→fA A g' own oth0 env nm ρ→VR g' val v→Q (.ret val) { s with heap:=h,toks:=tk }
 | .exc v ρ σ=>∀ e h tk g' own,g.le g'→HI X.w X.base g' (own++oth0) σ h→fA A g' own oth0 env nm ρ→VR g' (.ref e) v→kD X.base e h→E (.ref e) { s with heap:=h,toks:=tk }
noncomputable def JS(X:Cx)(A:Around)(w:Nat)(env:Env)(nm:List Str)(st:Stmt)(ps:PS):Prop:=
 ∀ ρ σ r,ex X.C w ps ρ σ=some r→∀ g own oth0,fA A g own oth0 env nm ρ→∀ s Q E,HI X.w X.base g (own++oth0) σ s.heap→kJ X A env nm g oth0 s Q E r→wpAny X.M A (exec st env) Q E s
noncomputable def tB(X:Cx)(A:Around)(w:Nat)(env:Env)(nm:List Str)(st:List Stmt)(ps:List PS):Prop:=
 ∀ ρ σ r,fz X.C w ps ρ σ=some r→∀ g own oth0,fA A g own oth0 env nm ρ→∀ s Q E,HI X.w X.base g (own++oth0) σ s.heap→kJ X A env nm g oth0 s Q E r→wpAny X.M A (execs st env) Q E s
section
variable {X:Cx} {A:Around} {wn:Nat} {env:Env} {nm:List Str} {g g':Gh} {own oth0:List (Addr×Obj)} {σ:St} {s:Shared} {ρ:ck}
theorem kJ.at{Q:Flow→Shared→Prop}{E:Value→Shared→Prop}{r:FR}(P:kJ X A env nm g oth0 s Q E r)(k:g.le g')(h:Heap)(tk:Tok):kJ X A env nm g' oth0 { s with heap:=h,toks:=tk } Q E r:=by
 cases r with
 | next ρ σ=>exact fun h' tk' g2 own k2 H F=>P h' tk' g2 own (k.trans k2) H F
 | brk ρ σ=>exact fun h' tk' g2 own k2 H F=>P h' tk' g2 own (k.trans k2) H F
 | ret v ρ σ=>exact fun val h' tk' g2 own k2 H F R=>P val h' tk' g2 own (k.trans k2) H F R
 | exc v ρ σ=>exact fun e h' tk' g2 own k2 H F R Fl=>P e h' tk' g2 own (k.trans k2) H F R Fl
theorem vp:tB X A wn env nm [] []:=by
 intro ρ σ r hr g own oth0 F s Q E H P
 obtain rfl:=Option.some.inj hr
 exact wpAny_execs_nil (P s.heap s.toks g own (.refl g) H F)
theorem su{st:Stmt}{sts:List Stmt}{p:PS}{ps:List PS}(J:JS X A wn env nm st p)(Js:tB X A wn env nm sts ps):tB X A wn env nm (st::sts) (p::ps):=by
 intro ρ σ r hr g own oth0 F s Q E H P
 simp only [uZ] at hr
 refine wpAny_execs_cons ?_
 cases h1:ex X.C wn p ρ σ with
 | none=>rw [h1] at hr;exact cq hr
 | some r1=>
  rw [h1] at hr
  refine J ρ σ r1 h1 g own oth0 F s _ E H ?_
  cases r1 with
  | next ρ1 σ1=>exact fun h tk g1 own1 k1 H1 F1=>Js ρ1 σ1 r hr g1 own1 oth0 F1 { s with heap:=h,toks:=tk } Q E H1 (P.at k1 h tk)
  | brk ρ1 σ1=>obtain rfl:=Option.some.inj hr;exact P
  | ret v ρ1 σ1=>obtain rfl:=Option.some.inj hr;exact P
  | exc v ρ1 σ1=>obtain rfl:=Option.some.inj hr;exact P
theorem kW{ρ:ck}{x:cR V}{f:V→St→Option FR}{r:FR}(h:bH ρ x f=some r):(∃ v σ,x=some (.exc v σ)∧r=.exc v ρ σ)∨∃ v σ,x=some (.ok v σ)∧f v σ=some r:=by
 unfold bH at h
 split at h
 ·exact cq h
 ·obtain rfl:=Option.some.inj h;exact .inl ⟨_,_,rfl,rfl⟩
 ·exact .inr ⟨_,_,rfl,h⟩
theorem JE.stepS{e:Expr}{pe:PE}(J:JE X A env nm e pe){f:V→St→Option FR}{r:FR}(hr:bH ρ (ev X.C ρ pe σ) f=some r)(F:fA A g own oth0 env nm ρ)(H:HI X.w X.base g (own++oth0) σ s.heap){Q:Flow→Shared→Prop}{Q1 E:Value→Shared→Prop}(P:kJ X A env nm g oth0 s Q E r)
  (k:∀ v σ',f v σ'=some r→∀ val h tk g',g.le g'→HI X.w X.base g' (own++oth0) σ' h→VR g' val v→Q1 val { s with heap:=h,toks:=tk }):wpAny X.M A (eval e env) Q1 E s:=by
 rcases kW hr with ⟨v,σ',h1,h2⟩ | ⟨v,σ',h1,h2⟩
 ·subst h2
  exact J ρ σ _ h1 g (own++oth0) F.fr s Q1 E H fun e h tk g' k' H' R Fl=>P e h tk g' own k' H' (F.mono k') R Fl
 ·exact J ρ σ _ h1 g (own++oth0) F.fr s Q1 E H fun val h tk g' k' H' R=>k v σ' h2 val h tk g' k' H' R
theorem j0{e:Expr}(h:fm e=true){t:Option Expr}{l:Nat}:swapsWith e t l env=pure false:=by
 cases e<;>first | rfl | cases h
theorem VR.notOwn{v:Value}{x:V}(R:VR g v x):∀ l,x≠.own l:=fun l q=>by subst q;cases R
theorem DE{x:Str}{xp pos:Pos}{e:Expr}{pe:PE}{i:Nat}(hc:fm e=true)(hl:bt env.scope.names x=true)(hi:bD nm x=some i)(J:JE X A env nm e pe):JS X A wn env nm (.Assign [.Name x xp] e pos) (.asg i pe):=by
 intro ρ σ r hr g own oth0 F s Q E H P
 simp only [tG] at hr
 refine wpAny_Assign_Name (J.stepS hr F H P fun v σ1 hr1 val h1 tk1 g1 k1 H1 R1=>?_) (j0 hc)
 obtain rfl:=Option.some.inj hr1
 exact (F.mono k1).store (s:={ s with heap:=h1,toks:=tk1 }) hl hi H1 R1.lr (fun l q=>absurd q (R1.notOwn l)) fun h2 tk2 own2 H2 F2=>P h2 tk2 g1 own2 k1 H2 F2
theorem AP{e:Expr}{pos:Pos}{pe:PE}(hc:fm e=true)(J:JE X A env nm e pe):JS X A wn env nm (.Expr e pos) (.expr pe):=by
 intro ρ σ r hr g own oth0 F s Q E H P
 simp only [Aj] at hr
 refine wpAny_Expr_any (J.stepS hr F H P fun v σ1 hr1 val h1 tk1 g1 k1 H1 R1=>?_) (by unfold interactive;rw [F.fr.fn];rfl) (j0 hc)
 obtain rfl:=Option.some.inj hr1
 exact P h1 tk1 g1 own k1 H1 (F.mono k1)
theorem yu{e:Expr}{pos:Pos}{pe:PE}(J:JE X A env nm e pe):JS X A wn env nm (.Return (some e) pos) (.ret pe):=by
 intro ρ σ r hr g own oth0 F s Q E H P
 simp only [tI] at hr
 refine wpAny_Return_some (J.stepS hr F H P fun v σ1 hr1 val h1 tk1 g1 k1 H1 R1=>?_)
 obtain rfl:=Option.some.inj hr1
 exact P val h1 tk1 g1 own k1 H1 (F.mono k1) R1
theorem AQ{pos:Pos}:JS X A wn env nm (.Return none pos) (.ret .none):=by
 intro ρ σ r hr g own oth0 F s Q E H P
 simp only [tI] at hr
 have:bH ρ (ev X.C ρ .none σ) (fun v σ=>some (.ret v ρ σ))=some (.ret .none ρ σ):=rfl
 rw [this] at hr
 obtain rfl:=Option.some.inj hr
 exact wpAny_Return_none (P .none s.heap s.toks g own (.refl g) H F .none)
theorem DF{pos:Pos}:JS X A wn env nm (.Break pos) .brk:=by
 intro ρ σ r hr g own oth0 F s Q E H P
 simp only [C7] at hr
 obtain rfl:=Option.some.inj hr
 exact wpAny_Break (P s.heap s.toks g own (.refl g) H F)
theorem AR{pos:Pos}:JS X A wn env nm (.Pass pos) .pass:=by
 intro ρ σ r hr g own oth0 F s Q E H P
 simp only [Am] at hr
 obtain rfl:=Option.some.inj hr
 exact wpAny_Pass (P s.heap s.toks g own (.refl g) H F)
theorem Fh{c:Expr}{t e:List Stmt}{pos:Pos}{pc:PE}{pt pe:List PS}(Jc:JT X A env nm c pc)(Jt:tB X A wn env nm t pt)(Je:tB X A wn env nm e pe):JS X A wn env nm (.If c t e pos) (.ifs pc pt pe):=by
 intro ρ σ r hr g own oth0 F s Q E H P
 simp only [tH] at hr
 refine wpAny_If ?_
 cases h1:fw X.C ρ pc σ with
 | none=>rw [h1] at hr;exact cq hr
 | some r1=>
  rw [h1] at hr
  refine Jc ρ σ r1 h1 g (own++oth0) F.fr s _ E H ?_
  cases r1 with
  | exc v σ1=>
   obtain rfl:=Option.some.inj hr
   exact fun e h tk g' k' H' R Fl=>P e h tk g' own k' H' (F.mono k') R Fl
  | ok b σ1=>
   intro h tk g' k' H'
   cases b with
   | true=>exact Jt ρ σ1 r hr g' own oth0 (F.mono k') { s with heap:=h,toks:=tk } Q E H' (P.at k' h tk)
   | false=>exact Je ρ σ1 r hr g' own oth0 (F.mono k') { s with heap:=h,toks:=tk } Q E H' (P.at k' h tk)
theorem uf{e o:Expr}{a:Str}{p:Pos}{l:Nat}:swapsWith e (some (.Attribute o a p)) l env=pure false:=by
 cases e<;>rfl
theorem wC{e o i:Expr}{p:Pos}{l:Nat}:swapsWith e (some (.Subscript o i p)) l env=pure false:=by
 cases e<;>rfl
theorem sv{K:Frag}{e:Expr}{pos:Pos}{pe:PE}(RO:xv X.base K)(hh:A.handled=none)(J:JF X A env nm e pe):JS X A wn env nm (.Raise (some e) none pos) (.raise pe):=by
 intro ρ σ r hr g own oth0 F s Q E H P
 simp only [xH] at hr
 rw [show exec (.Raise (some e) none pos) env=(do standAt pos;raiseStmt env ((evalOpt (some e) env).map fun x=>do let v←x;standAt pos;pure v) ((evalOpt none env).map fun c=>do let v←c;standAt pos;pure v)) from rfl]
 refine wpAny_bind (wpAny_standAt ?_)
 show wpAny X.M A (raiseStmt env (some (do let v←eval e env;standAt pos;pure v)) none) Q E s
 unfold raiseStmt
 obtain ⟨nm',q,N,bs,sn,sub,ab,col,dd,k0,k1',k2,k3,k5,mN,fR,c1,c2,c3,c4,c5⟩:=RO.cls
 have hcB:(Value.ref br::[Value.type "Exception",.type "BaseException",.type "object"]).contains (.type "BaseException")=true:=by decide
 refine wpAny_bind (wpAny_bind ?_)
 rcases kW hr with ⟨v,σ',h1,h2⟩ | ⟨v,σ',h1,h2⟩
 ·subst h2
  exact J ρ σ _ h1 g (own++oth0) F.fr s _ E H fun e h tk g' k' H' R Fl=>P e h tk g' own k' H' (F.mono k') R Fl
 ·refine J ρ σ _ h1 g (own++oth0) F.fr s _ E H fun a h tk g' k' H' R Fl=>?_
  refine wpAny_bind (wpAny_standAt (wpAny_pure ?_))
  refine ob_2_1 (VR.isExc (X:=X) (s:={ s with heap:=h,toks:=tk }) H' R Fl) fun c x hq130_2=>?_
  subst hq130_2
  obtain rfl:=Option.some.inj h2
  have hC:=H'.hb _ _ c1
  refine kD.E Fl fun d vs sl a0 he f1 f2 f3=>?_
  obtain ⟨hp0,gs,dr,tk0,os⟩:=s
  repeat (first | with_reducible refine wpAny_loadPart_at he ?_ | with_reducible refine wpAny_loadPart_at hC ?_ | (with_reducible refine wpAny_isSubtype_exc hC ?_;simp only [hcB]) | wp_step)
  have fY:∀ h',HI X.w X.base g' (own++oth0) σ' h'→kD X.base a h'→wpAny X.M A (raiseNew (.ref a):Sem Flow) Q E ⟨h',gs,dr,tk,os⟩:=fun h' H2 F2=>wpAny_raiseNew_none hh (P a h' tk g' own k' H2 (F.mono k') R F2)
  rcases f3 with f3 | ⟨T,oT,ts,x3,f3,hnT,hTe,hT,hcT,hdT,h3⟩
  ·rw [f3]
   refine wpAny_pure ?_
   rw [if_neg (by decide)]
   exact wpAny_pure (fY h H' Fl)
  ·simp only [f3]
   refine wpAny_pure ?_
   rw [if_pos (show (Value.ref T != Value.none)=true from by simp)]
   have hen:X.base.get? a=none:=by
    cases R with
    | exc h1=>exact (H'.hxs _ h1).1
   refine wpAny_setField hT hdT (Array.getElem?_eq_some_iff.mp h3).1 ?_
   have he₂:∀ y,(h.update T (Obj.mapFields (·.setIfInBounds 3 y))).get? a=some ⟨.ref br,some d,.fields vs,sl⟩:=fun y=>(Heap.get?_update_other _ _ hTe).trans he
   have hT₂:=fun y=>Heap.get?_update_self (Obj.mapFields (·.setIfInBounds 3 y)) hT (Obj.isFreed_of_fields (Obj.data_mapFields hdT _))
   refine fY _ (H'.touched [] [T] a d (fun b hb=>nomatch hb) (fun b hb=>?_) hen ⟨_,_,he⟩ ⟨_,_,he₂ _⟩ (fun b o z9 hb z9 q=>(Heap.get?_update_other _ _ fun z=>hb (by simp [z])).trans q) fun b o hb=>nomatch hb) ?_
   ·cases List.mem_singleton.mp hb
    exact ⟨hnT,fun o q=>by rw [hT] at q;obtain rfl:=Option.some.inj q;exact hcT⟩
   ·exact ⟨d,vs,sl,a0,he₂ _,f1,f2,.inr ⟨T,_,_,_,f3,hnT,hTe,hT₂ _,(Obj.cls_mapFields _ _).trans hcT,Obj.data_mapFields hdT _,by rw [Array.getElem?_setIfInBounds_self_of_lt (Array.getElem?_eq_some_iff.mp h3).1]⟩⟩
end
end Mine.Internal
end
section
open PySem PySem.W PyProof.Rows PySem.Calls
namespace Mine.Internal
section
variable {X:Cx} {A:Around} {wn:Nat} {env:Env} {nm:List Str} {g g':Gh} {own oth oth0:List (Addr×Obj)} {σ:St} {s:Shared} {ρ:ck} {K:Frag} {meths fns:List (Str×Nat)} {fI:Addr}
theorem sx(KO:Ct X.base K meths fI){ov val:Value}{n:Nat}{d:List (Str×V)}{a:Str}{v u:V}(R:VR g ov u)(hn:pS u=some n)(hd:lN σ n=some d)(ha:fD a=true)(hl:Nat.ble d.length 900=true)(Rv:VR g val v)(H:HI X.w X.base g oth σ s.heap)
  {Q:Unit→Shared→Prop} {E:Value→Shared→Prop} (k:∀ h tk,HI X.w X.base g oth (σ.set n (.attrs (nR a v d))) h→Q () { s with heap:=h,toks:=tk }):wpAny X.M A (setAttr ov a val) Q E s:=by
 refine HI.inst H R hn hd fun x dx sl o es kk hq10_6 e1 I e2 e3 e4 D dd=>?_
 subst hq10_6
 have KI:K.In s.heap:=fun b o e=>H.hb _ _ (KO.inB b o e)
 refine yc KI I rfl KO.cSet KO.cOver (KO.cTaker a ha) KO.cDict e4 D Rv (Nat.le_of_ble_eq_true hl) fun h' hs he=>?_
 refine ob_2_4 (ly (t:=s.toks+1) (name:=a) Rv e4 D) fun es' n' f1 f2 f3 f4=>?_
 exact k h' _ (H.setCell e1 hs he (.attrs (f3.trans e3) f1 f2 (my dd)))
theorem AS(KO:Ct X.base K meths fI){o e:Expr}{a:Str}{p pos:Pos}{po pe:PE}(Jo:JE X A env nm o po)(Je:JE X A env nm e pe):JS X A wn env nm (.Assign [.Attribute o a p] e pos) (.setA po a pe):=by
 intro ρ σ r hr g own oth0 F s Q E H P
 refine plainObj_wpAny_Assign_Attribute (Je.stepS (Af.symm.trans hr) F H P fun v σ1 hr1 val h1 tk1 g1 k1 H1 R1=>?_) uf
 refine Jo.stepS (s:={ s with heap:=h1,toks:=tk1 }) hr1 (F.mono k1) H1 (P.at k1 h1 tk1) fun ov σ2 hr2 valo h2 tk2 g2 k2 H2 R2=>?_
 refine cV hr2 fun n hn hr2=>cV hr2 fun d hd hr2=>gf hr2 fun hc hr2=>jF hc fun hc1 hc2=>?_
 exact sx (s:={ s with heap:=h2,toks:=tk2 }) KO R2 hn hd hc1 hc2 (R1.mono k2) H2 fun h3 tk3 H3=>lQ hr2 P h3 tk3 g2 own (k1.trans k2) H3 (F.mono (k1.trans k2))
theorem ug{l:Addr}{o:Obj}{items:Array Value}{ne:Nat}{k:Int}{t:Tok}{v:Value}{Q:Unit→Shared→Prop}{E:Value→Shared→Prop}{prog:Program}{w:World}(ho:s.heap.get? l=some o)(hc:o.cls=.type "list")(hd:o.data=.seq items ne)
  (h0:0≤k) (hfit:k<2 ^ 63) (hn:k<items.size)
  (hQ:∀ h',Heap.SameBut l s.heap h'→h'.get? l=some (Obj.mapSeq (·.setIfInBounds k.toNat v) o)→Q () { s with heap:=h' }) :
  wpAny (model prog w) A (setItem (.ref l) (.int k t) v) Q E s:=by
 have hl:s.heap.IsList l items:=⟨o,ho,hc,ne,hd⟩
 unfold setItem
 try with_reducible refine wpAny_holding ?_
 first | refine wpAny_bind (wpAny_pure ?_) | skip
 refine wpAny_bind (wpAny_sequenceKey hl.typeIs (by decide) ?_)
 refine wpAny_bind (wpAny_callSpecial?_slot (name:=Str.ofString "__setitem__") hl.typeIs slot_list_setitem
  (wpAny_call_entry slot_list_setitem hl.typeIs entry_list_setitem ?_ (args_list_setitem _ _ _)))
 show wpAny _ _ (Builtin.List.listSubscript? (.int k t) >>= _) _ _ s
 refine wpAny_bind (wpAny_listSubscript_int (fitsIndex_of h0 hfit) ?_)
 clear hfit
 obtain ⟨j,rfl⟩:=Int.eq_ofNat_of_zero_le h0
 have hj:j<items.size:=by lia
 have hx':items[j]?=some items[j]:=Array.getElem?_eq_getElem hj
 show wpAny _ _ ((seqItemAt l j >>= fun r=>pure (r.map (j,·))) >>= _) _ _ s
 refine wpAny_bind (wpAny_bind (wpAny_seqItemAt ho hd (wpAny_pure ?_)))
 rw [hx']
 show wpAny _ _ (setSeqItemAt l j v >>= _) _ _ s
 obtain ⟨n',hd'⟩:=Obj.data_mapSeq hd (·.setIfInBounds j v)
 have hfin:=Heap.get?_update_self (Obj.mapSeq (·.setIfInBounds j v)) ho (Obj.isFreed_of_seq hd')
 refine wpAny_bind (wpAny_setSeqItemAt ho hd ?_)
 first
  | exact wpAny_bind (wpAny_pure (wpAny_pure ⟨.none,rfl,wpAny_pure (hQ _ (Heap.SameBut.update ..) hfin)⟩))
  | exact wpAny_pure ⟨.none,rfl,wpAny_pure (hQ _ (Heap.SameBut.update ..) hfin)⟩
theorem AT{o i e:Expr}{p pos:Pos}{po pi pe:PE}(Jo:JE X A env nm o po)(Ji:JE X A env nm i pi)(Je:JE X A env nm e pe):JS X A wn env nm (.Assign [.Subscript o i p] e pos) (.setI po pi pe):=by
 intro ρ σ r hr g own oth0 F s Q E H P
 refine wpAny_Assign_Subscript (Je.stepS (Ah.symm.trans hr) F H P fun v σ1 hr1 val h1 tk1 g1 k1 H1 R1=>?_) wC
 refine Jo.stepS (s:={ s with heap:=h1,toks:=tk1 }) hr1 (F.mono k1) H1 (P.at k1 h1 tk1) fun ov σ2 hr2 valo h2 tk2 g2 k2 H2 R2=>?_
 refine Ji.stepS (s:={ s with heap:=h2,toks:=tk2 }) hr2 (F.mono (k1.trans k2)) H2 (P.at (k1.trans k2) h2 tk2) fun iv σ3 hr3 vali h3 tk3 g3 k3 H3 R3=>?_
 have R2':=R2.mono k3
 have R1':=R1.mono (k2.trans k3)
 have K:=(k1.trans k2).trans k3
 refine ln hr3 (fun hr3=>cV hr3 fun n hn hr3=>cV hr3 fun k hk hr3=>cV hr3 fun l hl hr3=>gf hr3 fun hc hr3=>jF hc fun hc hc3=>jF hc fun hc1 hc2=>?_) fun hr3=>cV hr3 fun n hn hr3=>cV hr3 fun k hk hr3=>cV hr3 fun d hd hr3=>gf hr3 fun hc hr3=>?_
 ·refine R3.int' hk fun t=>?_
  refine (m5 hn▸R2').eR fun a ha=>?_
  refine HI.lst (s:={ s with heap:=h3,toks:=tk3 }) H3 ha hl fun ob vs kk e1 e2 e3 e4 e5=>?_
  have h0:=of_decide_eq_true hc1
  have hlt:k<vs.toArray.size:=(List.size_toArray ..).symm▸e5.length.symm▸of_decide_eq_true hc2
  refine ug (s:={ s with heap:=h3,toks:=tk3 }) e1 e2 e4.1 h0 (Int.lt_trans hlt (oN (List.size_toArray ..▸e4.2))) hlt fun h' hs' e'=>?_
  refine (Obj.data_mapSeq e4.1 (·.setIfInBounds k.toNat val)).elim fun m3 hd3=>?_
  exact lQ hr3 P h' tk3 g3 own K (H3.setCell ha hs' e' (.list (vs:=vs.set k.toNat val) ((Obj.cls_mapSeq ..).trans e2) (fQ e4.1 e3) ⟨hd3.trans (by simp;rfl),Nat.le_trans (Nat.le_of_eq (List.length_set ..)) e4.2⟩ (e5.set _ R1'))) (F.mono K)
 ·refine R3.str' hk fun t=>?_
  refine (qe hn▸R2').eD fun a ha=>?_
  refine ob_2_3 (H3.cells _ _ (lY hd)) fun a' o' q1 q2 q3=>?_
  obtain rfl:=Option.some.inj (q1.symm.trans ha)
  refine ob_1_3 (CR.dictOf (X:=X) q3 q2) fun kvs d0 r0 dd=>?_
  refine wpAny_setItem_pairs (s:={ s with heap:=h3,toks:=tk3 }) (strKind_is X.prog X.w k t) d0 (fun h' D' hs'=>?_) (r0.length▸fh hc)
  refine ob_1_2 (CR.of_dictOf (X:=X) D' (r0.stored R1' dd)) fun o2 g2' c2=>?_
  exact lQ hr3 P h' _ g3 own K (H3.setCell ha hs' g2' c2) (F.mono K)
theorem yv{x y z:V}(hz:gJ .add x y=some z)(hnl:¬ isLst z=true){vx vy:Value}(Rx:VR g vx x)(Ry:VR g vy y){Q E:Value→Shared→Prop}(k:∀ val tk,VR g val z→Q val { s with toks:=tk }):wpAny X.M A (inplaceOp .Add vx vy) Q E s:=by
 refine ln hz (fun hz=>?_) fun hz=>ln hz (fun hz=>?_) fun hz=>cV hz fun a h1 hz=>cV hz fun b h2 hz=>gf hz fun z9 e=>absurd (Option.some.inj e▸rfl) hnl
 ·refine gA hz Rx Ry fun a b t u hz=>gf hz fun z9 e=>?_
  exact PySem.P.iadd_int (k _ _ (Option.some.inj e▸.int _ _))
 ·refine qX hz Rx Ry fun a b t u hz=>gf hz fun hb e=>?_
  exact SB.iadd (fun t' kk=>k _ kk (Option.some.inj e▸.str _ t')) (fh hb)
theorem DG{x:Str}{xp pos:Pos}{e:Expr}{pe:PE}{i:Nat}(hl:bt env.scope.names x=true)(hi:bD nm x=some i)(J:JE X A env nm e pe):JS X A wn env nm (.AugAssign (.Name x xp) .Add e pos) (.aug i pe):=by
 intro ρ σ r hr g own oth0 F s Q E H P
 refine cV (xG.symm.trans hr) fun v hv hr=>F.fr.loc hv hi hl fun ok val n R=>?_
 refine wpAny_AugAssign_Name (fP F.fr.fn ok n H ?_)
 refine J.stepS hr F H P fun y σ1 hr1 valy h1 tk1 g1 k1 H1 R1=>?_
 refine cV hr1 fun z hz hr1=>Gw hr1 fun hnl hr1=>?_
 refine yv (s:={ s with heap:=h1,toks:=tk1 }) hz hnl (R.mono k1) R1 fun valz tkz Rz=>?_
 exact (F.mono k1).store (s:={ s with heap:=h1,toks:=tkz }) hl hi H1 Rz.lr (fun l q=>absurd q (Rz.notOwn l)) fun h2 tk2 own2 H2 F2=>lQ hr1 P h2 tk2 g1 own2 k1 H2 F2
theorem wD{x:Str}{xp pos cp:Pos}{k0:Nat}{k:Int}{i:Nat}(hl:bt env.scope.names x=true)(hi:bD nm x=some i):JS X A wn env nm (.AugAssign (.Name x xp) .Sub (.Constant (.int k) k0 cp) pos) (.aug i (.int (-k))):=by
 intro ρ σ r hr g own oth0 F s Q E H P
 refine cV (xG.symm.trans hr) fun v hv hr=>F.fr.loc hv hi hl fun ok val n R=>?_
 refine cV (show (gJ .add v (.int (-k))).bind _=some r from hr) fun z hz hr=>Gw hr fun z9 hr=>?_
 refine wpAny_AugAssign_Name (fP F.fr.fn ok n H (wpAny_Constant_int ?_))
 refine ln hz (fun hz=>cV hz fun a ha hz=>gf hz fun z9 e=>?_) fun hz=>ln hz (fun hz=>cV hz fun a z9 hz=>cq hz) fun hz=>cV hz fun a z9 hz=>cq hz
 refine R.int' ha fun t0=>PySem.P.isub_int ?_
 have hz:=Int.sub_eq_add_neg.symm▸Option.some.inj e
 exact F.store (s:={ s with toks:=s.toks+1+1 }) hl hi H (v:=z) (hz▸.int _ _) (fun l q=>by subst q;cases hz) fun h2 tk2 own2 H2 F2=>lQ hr P h2 tk2 g own2 (.refl g) H2 F2
theorem AU(KO:Ct X.base K meths fI){o e:Expr}{a:Str}{p pos:Pos}{po pe:PE}(ha:fD a=true)(Jo:JE X A env nm o po)(Je:JE X A env nm e pe):JS X A wn env nm (.AugAssign (.Attribute o a p) .Add e pos) (.augA po a pe):=by
 intro ρ σ r hr g own oth0 F s Q E H P
 refine wpAny_AugAssign_AttributeAny (Jo.stepS (Ai.symm.trans hr) F H P fun ov σ1 hr1 valo h1 tk1 g1 k1 H1 R1=>?_)
 refine cV hr1 fun n hn hr1=>cV hr1 fun x hx hr1=>?_
 refine sf (X:=X) (s:={ s with heap:=h1,toks:=tk1 }) KO.toKOK ha hx H1 R1 (σ:=σ1) (g:=g1) fun valx h2 tk2 g2 k2 H2 R2=>?_
 refine Je.stepS (s:={ s with heap:=h2,toks:=tk2 }) hr1 (F.mono (k1.trans k2)) H2 (P.at (k1.trans k2) h2 tk2) fun y σ3 hr3 valy h3 tk3 g3 k3 H3 R3=>?_
 refine cV hr3 fun i hi hr3=>cV hr3 fun j hj hr3=>cV hr3 fun d hd hr3=>gf hr3 fun hc hr3=>jF hc fun hc z9=>jF hc fun hc z9=>jF hc fun hc1 hc2=>?_
 refine (R2.mono k3).int' hi fun ti=>?_
 refine R3.int' hj fun tj=>PySem.P.iadd_int ?_
 exact sx (s:={ s with heap:=h3,toks:=tk3+1 }) KO (R1.mono (k2.trans k3)) hn hd hc1 hc2 (.int (i+j) _) H3 fun h4 tk4 H4=>lQ hr3 P h4 tk4 g3 own ((k1.trans k2).trans k3) H4 (F.mono ((k1.trans k2).trans k3))
end
end Mine.Internal
end
section
open PySem PySem.W PyProof.Rows PySem.Calls
set_option genCtorIdx false
namespace Mine.Internal
theorem o7{ρ:ck}{i:Nat}{l:List V}(h:qc ρ=true)(q:ρ[i]?=some (some (V.own l))):False:=j9 (List.all_eq_true.mp h _ (List.mem_of_getElem? q))
section
variable {X:Cx} {A:Around} {wn:Nat} {env:Env} {nm:List Str} {g g':Gh} {own oth oth0:List (Addr×Obj)} {σ:St} {s:Shared} {ρ:ck}
inductive TN (env:Env) (nm:List Str):List Expr→List Nat→Prop
 | nil:TN env nm [] []
 | cons {x:Str} {p:Pos} {i:Nat} {ts:List Expr} {is:List Nat}:bt env.scope.names x=true→bD nm x=some i→TN env nm ts is→TN env nm (.Name x p::ts) (i::is)
theorem TN.length{ts:List Expr}{is:List Nat}(h:TN env nm ts is):ts.length=is.length:=by
 induction h with
 | nil=>rfl
 | cons _ _ _ ih=>simp [ih]
theorem TN.assign{ts:List Expr}{is:List Nat}(h:TN env nm ts is){A2:Around}:∀ {ρ ρ':ck} {l:List V} {vs:List Value} {s:Shared} {own:List (Addr×Obj)} {E:Value→Shared→Prop},eX ρ is l=some ρ'→eC g vs l→fA A g own oth0 env nm ρ→HI X.w X.base g (own++oth0) σ s.heap→
  ∀ {Q:Unit→Shared→Prop},(∀ h tk own',HI X.w X.base g (own'++oth0) σ h→fA A g own' oth0 env nm ρ'→Q () { s with heap:=h,toks:=tk })→wpAny X.M A2 (assignInOrder ((assignEach ts env).map (·.2)) vs) Q E s:=by
 induction h with
 | nil=>
  intro ρ ρ' l vs s own E hs R F H Q k
  cases l with
  | nil=>exact R.eNil (lQ hs (D:=fun ρ=>fA A g own oth0 env nm ρ→_) (fun F=>wpAny_pure (k s.heap s.toks own H F)) F)
  | cons _ _=>exact cq hs
 | @cons x p i ts is h1 h2 _ ih=>
  intro ρ ρ' l vs s own E hs R F H Q k
  cases l with
  | nil=>exact cq hs
  | cons y ys=>
   refine R.eCons fun v vs R Rs=>?_
   show wpAny X.M A2 (do holding vs (PySem.assign (.Name x p) env v);assignInOrder ((assignEach ts env).map (·.2)) vs) Q E s
   refine wpAny_bind (wpAny_holding (PyProof.Rows.assign_Name (F.store h1 h2 H R.lr (fun l q=>absurd q (R.notOwn l)) fun h tk own' H' F'=>?_)))
   exact ih hs Rs F' (s:={ s with heap:=h,toks:=tk }) H' fun h2 tk2 own2 H2 F2=>k h2 tk2 own2 H2 F2
theorem TN.star{ts:List Expr}{is:List Nat}(h:TN env nm ts is):(assignEach ts env).findIdx? (·.1)=none∧(assignEach ts env).length=ts.length:=by
 induction h with
 | nil=>exact ⟨rfl,rfl⟩
 | @cons x p i ts is h1 h2 _ ih=>
  have e:assignEach (.Name x p::ts) env=(false,PySem.assign (.Name x p) env)::assignEach ts env:=rfl
  rw [e]
  refine ⟨?_,by simp [ih.2]⟩
  rw [List.findIdx?_cons,ih.1];rfl
theorem rc{ts:List Expr}{k:Nat}{p:Pos}{e:Expr}(h:mq e=true):swappedStores [.Tuple ts k p] e env=pure none:=by
 cases e<;>first | rfl | cases h
theorem wE{ts:List Expr}{k l:Nat}{p:Pos}{e:Expr}:swapsWithSole [.Tuple ts k p] e l env=pure false:=by
 show swapsWith e (some (.Tuple ts k p)) l env=pure false
 cases e<;>rfl
theorem o8{ts:List Expr}{is:List Nat}{k:Nat}{p:Pos}(T:TN env nm ts is){A2:Around}(hh:A2.handled=none){ρ ρ':ck}{l:List V}{val:Value}{E:Value→Shared→Prop}(hs:eX ρ is l=some ρ')(hl:l.length=is.length)(R:VR g val (.tup l))(F:fA A g own oth0 env nm ρ)(H:HI X.w X.base g (own++oth0) σ s.heap)
  {Q:Unit→Shared→Prop} (kk:∀ h tk own',HI X.w X.base g (own'++oth0) σ h→fA A g own' oth0 env nm ρ'→Q () { s with heap:=h,toks:=tk }):wpAny X.M A2 (assign (.Tuple ts k p) env val) Q E s:=by
 refine ob_2_4 (R.isTup H) fun a vs hq74_2 TT Rs sz=>?_
 subst hq74_2
 show wpAny X.M A2 (do standAt p;unpack (.ref a) (assignEach ts env)) Q E s
 refine wpAny_bind (wpAny_standAt ?_)
 unfold unpack
 rw [T.star.1,T.star.2]
 have e:ts.length=vs.toArray.size:=by simp only [List.size_toArray,Rs.length,hl,T.length]
 rw [e]
 refine wpAny_bind (wpAny_holding (unpackItems_tuple hh TT fun h' he=>?_))
 have H':=H.grow fun b o q=>he b o (Nat.ne_of_lt (Heap.lt_size q)) q
 exact T.assign (s:={ s with heap:=h' }) hs (by simpa using Rs) F H' fun h tk own' H2 F2=>kk h tk own' H2 F2
theorem lS:∀ {is:List Nat} {l:List V} {ρ ρ':ck},eX ρ is l=some ρ'→l.length=is.length:=by
 intro is
 induction is with
 | nil=>intro l ρ ρ' h;cases l with
  | nil=>rfl
  | cons=>exact cq h
 | cons i is ih=>intro l ρ ρ' h;cases l with
  | nil=>exact cq h
  | cons v l=>exact congrArg Nat.succ (ih h)
theorem AV{ts:List Expr}{is:List Nat}{k:Nat}{p pos:Pos}{e:Expr}{pe:PE}(hh:A.handled=none)(ht:mq e=true)(T:TN env nm ts is)(J:JE X A env nm e pe):JS X A wn env nm (.Assign [.Tuple ts k p] e pos) (.asgT is pe):=by
 intro ρ σ r hr g own oth0 F s Q E H P
 refine Assign_Tuple (J.stepS (Ad.symm.trans hr) F H P fun v σ1 hr1 val h1 tk1 g1 k1 H1 R1=>?_) wE (rc ht)
 refine cV hr1 fun l hl hr1=>mn hr1 fun ρ' hs e=>?_
 exact o8 (s:={ s with heap:=h1,toks:=tk1 }) T hh hs (lS hs) (gm hl▸R1) (F.mono k1) H1 fun h2 tk2 own2 H2 F2=>lQ (congrArg some e) P h2 tk2 g1 own2 k1 H2 F2
theorem eV.swapOwn{A:Around}{g:Gh}{pre post:List (Addr×Obj)}{a:Addr}{o o':Obj}{n n':Nat}{vs vs':List Value}{l l':List V}{ρ:ck}{i:Nat}(F:eV A g (pre++(a,o)::post) env nm ρ)(nd:((pre++(a,o)::post).map (·.1)).Nodup)
  (hc:o.cls=.type "list") (hd:o.data=.seq vs.toArray n) (hc':o'.cls=.type "list") (hdd:o'.dict=none) (hd':o'.data=.seq vs'.toArray n'∧vs'.length≤sizeLine) (Rs:eC g vs' l')
  (hx:∀ x,bD nm x=some i→bt env.scope.names x=true→bY env (pre++(a,o)::post) x (.ref a)∧fV x) (h1:∀ j l2,ρ[j]?=some (some (V.own l2))→j=i) :
  eV A g (pre++(a,o')::post) env nm (ρ.set i (some (.own l'))):=by
 have key:∀ y val,bY env (pre++(a,o)::post) y val→bY env (pre++(a,o')::post) y val:=fun y val n=>by
  rcases n with ⟨p1,ob,p2,es2,ep2,q1,q2,q3⟩ | ⟨p1,c,ob,p2,p3,p4⟩
  ·refine .inl ⟨p1,ob,ff p2 fun q=>?_,es2,ep2,q1,q2,q3⟩
   have:=ew nd p2 dB q
   cases this
   rw [hd] at q1;cases q1
  ·refine .inr ⟨p1,c,ob,p2,ff p3 fun q=>?_,p4⟩
   have:=ew nd p3 dB q
   cases this
   rw [hd] at p4;cases p4
 refine ⟨F.fn,by rw [List.length_set];exact F.len,F.fr.swap nd (fun vs2 q=>by rw [hd'.1] at q;cases q) (hc'.trans hc.symm),F.top,F.cel,fun y j v hj hl hv=>?_⟩
 rcases jL hv with ⟨rfl,e⟩ | ⟨q,hv⟩
 ·obtain rfl:=Option.some.inj e
  obtain ⟨n1,n2⟩:=hx y hj hl
  exact ⟨n2,.ref a,key _ _ n1,.mk dB ⟨hc',hdd⟩ hd' Rs⟩
 ·obtain ⟨ok,val,n,R⟩:=F.has y j v hj hl hv
  refine ⟨ok,val,key _ _ n,?_⟩
  cases v<;>first | exact R | exact absurd (h1 j _ hv).symm q
set_option tactic.hygienic true in
theorem DH{x:Str}{xp lp pos:Pos}{i:Nat}(hl:bt env.scope.names x=true)(hi:bD nm x=some i):JS X A wn env nm (.Assign [.Name x xp] (.List [] lp) pos) (.own i):=by
 intro ρ σ r hr g own oth0 F s Q E H P
 simp only [C5] at hr
 split at hr
 ·rename_i hno
  obtain rfl:=Option.some.inj hr
  refine wpAny_Assign_Name (wpAny_List (wpAny_items_nil ⟨by simp,?_⟩)) (j0 rfl)
  have H1:=H.pushOth (o:=({ cls:=.type "list",data:=.seq #[] }:Obj)) rfl (bV rfl (by decide))
  have fr:=H.fresh (Nat.le_refl _)
  have F1:fA A g ((s.heap.objs.size,({ cls:=.type "list",data:=.seq #[] }:Obj))::own) oth0 env nm ρ:=by
   refine ⟨⟨F.fr.fn,F.fr.len,?_,F.fr.top,F.fr.cel,fun y j v a b c=>?_⟩,?_,fun y hy=>?_,F.inj,F.nofree,F.ok,F.own1,fun y j l z9 z9 q=>(o7 hno q).elim⟩
   ·refine ob_1_2 F.fr.fr fun lF e1 e2=>?_
    exact ⟨lF,e1,fun e he=>let ⟨q1,L,ob,q2,q3,q4⟩:=e2 e he;⟨q1,L,ob,q2,.tail _ q3,q4⟩⟩
   ·obtain ⟨ok,val,n,R⟩:=F.fr.has y j v a b c
    refine ⟨ok,val,?_,?_⟩
    ·rcases n with ⟨p1,ob,p2,p3⟩ | ⟨p1,cc,ob,p2,p3,p4⟩
     ·exact .inl ⟨p1,ob,.tail _ p2,p3⟩
     ·exact .inr ⟨p1,cc,ob,p2,.tail _ p3,p4⟩
    ·cases v<;>first | exact R | exact absurd c (fun q=>o7 hno q)
   ·refine ob_3_2 F.loc fun ob es n p1 p2=>?_
    exact ⟨ob,es,n,.tail _ p1,p2⟩
   ·refine ob_3_3 (F.cell y hy) fun cc ob v p1 p2 p3=>?_
    exact ⟨cc,ob,v,p1,.tail _ p2,p3⟩
  refine F1.store (s:={ s with heap:=s.heap.push { cls:=.type "list",data:=.seq #[] } }) (v:=.own []) hl hi H1 (.mk (vs:=[]) (n:=0) (.head _) ⟨rfl,rfl⟩ ⟨rfl,by simp⟩ .nil) (fun l e=>by cases e;exact ⟨.mk (vs:=[]) (n:=0) (.head _) ⟨rfl,rfl⟩ ⟨rfl,by simp⟩ .nil,fun j l' q=>(o7 hno q).elim⟩) fun h2 tk2 own2 H2 F2=>P h2 tk2 g own2 (.refl g) H2 F2
 ·exact cq hr
end
end Mine.Internal
end
section
open PySem PySem.W PyProof.Rows PySem.Calls
namespace Mine.Internal
section
variable {X:Cx} {A:Around} {wn:Nat} {env:Env} {nm:List Str} {g g':Gh} {own oth oth0:List (Addr×Obj)} {σ:St} {s:Shared} {ρ:ck}
theorem bY.swapOwn{pre post:List (Addr×Obj)}{a:Addr}{o o':Obj}{vs:List Value}{n:Nat}{y:Str}{val:Value}(h:bY env (pre++(a,o)::post) y val)(nd:((pre++(a,o)::post).map (·.1)).Nodup)(hd:o.data=.seq vs.toArray n):bY env (pre++(a,o')::post) y val:=by
 rcases h with ⟨p1,ob,p2,es2,ep2,q1,q2,q3⟩ | ⟨p1,c,ob,p2,p3,p4⟩
 ·refine .inl ⟨p1,ob,ff p2 fun q=>?_,es2,ep2,q1,q2,q3⟩
  have:=ew nd p2 dB q
  cases this
  rw [hd] at q1;cases q1
 ·refine .inr ⟨p1,c,ob,p2,ff p3 fun q=>?_,p4⟩
  have:=ew nd p3 dB q
  cases this
  rw [hd] at p4;cases p4
set_option tactic.hygienic true in
theorem fA.turn(F:fA A g own oth0 env nm ρ){y:Str}{j:Nat}{l:List V}(hl:bt env.scope.names y=true)(hj:bD nm y=some j)(hv:ρ[j]?=some (some (V.own l)))(H:HI X.w X.base g (own++oth0) σ s.heap) :
  ∃ a o vs n,bY env (own++oth0) y (.ref a)∧fV y∧s.heap.get? a=some o∧o.cls=.type "list"∧o.dict=none∧(o.data=.seq vs.toArray n∧vs.length≤sizeLine)∧eC g vs l∧
   ∀ h' o' vs' n' l',Heap.SameBut a s.heap h'→h'.get? a=some o'→o'.cls=.type "list"→o'.dict=none→(o'.data=.seq vs'.toArray n'∧vs'.length≤sizeLine)→eC g vs' l'→∃ own',HI X.w X.base g (own'++oth0) σ h'∧fA A g own' oth0 env nm (ρ.set j (some (.own l'))):=by
 refine ob_1_2 (F.ownIn y j l hj hl hv) fun val nh R=>?_
 obtain ⟨m1,m2,m3,m4⟩:=R
 rename_i a o vs n
 refine ob_2_2 (wv (oth0:=oth0) m1) fun p q e1 e2=>?_
 have ho:=H.hex (a,o) (List.mem_append_left _ m1) (by show o.cls≠_;rw [m2.1];decide)
 refine ⟨a,o,vs,n,nh,F.ok y j hj hl,ho,m2.1,m2.2,m3,m4,fun h' o' vs' n' l' hs he hc hd hdd Rs=>?_⟩
 have nd:=o3 H
 have FF:=F.fr
 have nh':=nh
 rw [e2] at H nd FF nh'
 have H':=H.setOth hs ⟨o'.slots,he⟩ (bV hc (by decide)) fun z9=>he
 have F':=FF.swapOwn (i:=j) (l:=l) nd m2.1 m3.1 hc hd hdd Rs (fun x hx hlx=>by
  have:=lA hj hx
  subst this
  exact ⟨nh',F.ok _ _ hj hl⟩) fun k l2 hk=>F.own1 k j l2 l hk hv
 have n':bY env (p++(a,o')::(q++oth0)) y (.ref a):=nh'.swapOwn nd m3.1
 rw [yj (oth0:=oth0) (p':=(a,o')) e1] at H' F' n'
 refine ob_3_4 F.loc fun oL es nL l1 l2 l3 l4=>?_
 have ne:∀ {b:Addr} {ob:Obj},(b,ob)∈own→ob.cls≠.type "list"→(b,ob)∈p++(a,o')::q:=fun {b} {ob} hb hne=>by
  have hb':=hb
  rw [e1] at hb
  refine ff hb fun z=>?_
  have:=ew nd (e2▸List.mem_append_left _ hb':(b,ob)∈p++(a,o)::(q++oth0)) dB z
  cases this
  exact hne m2.1
 refine ⟨p++(a,o')::q,H',⟨F',⟨oL,es,nL,ne l1 (by rw [l2];decide),l2,l3,l4⟩,fun z hz=>?_,F.inj,F.nofree,F.ok,fun i1 i2 l1 l2 q1 q2=>?_,fun z k lz hz hlz hvz=>?_⟩⟩
 ·refine ob_3_4 (F.cell z hz) fun c oc v0 c1 c2 c3 c4=>?_
  exact ⟨c,oc,v0,c1,ne c2 (by rw [c4];decide),c3,c4⟩
 ·have f1:∀ i l,(ρ.set j (some (.own l')))[i]?=some (some (V.own l))→i=j:=fun i l q=>by
   rcases jL q with ⟨e,_⟩ | ⟨_,q⟩
   ·exact e.symm
   ·exact F.own1 i j l _ q hv
  simp only [f1 _ _ q1,f1 _ _ q2]
 ·rcases jL hvz with ⟨rfl,e⟩ | ⟨qne,hvz⟩
  ·cases e
   have:=lA hj hz
   subst this
   exact ⟨.ref a,n',.mk dB ⟨hc,hd⟩ hdd Rs⟩
  ·exact absurd (F.own1 k j _ _ hvz hv).symm qne
theorem yw{i:Nat}{l:List V}(h:(jV ρ i).bind kz=some l):ρ[i]?=some (some (.own l)):=cV h fun v h1 h2=>oE h2▸jW h1
theorem EI.uniq{o:Obj}{x:Str}{v v':Value}(h:EI o x v)(h':EI o x v'):v=v':=
 ob_2_3 h fun es ep d z9 f=>ob_2_3 h' fun es' ep' d' z9 f'=>Option.some.inj (f.symm.trans ((Data.dict.inj (d.symm.trans d')).1▸f'))
theorem bY.uniq{y:Str}{v v':Value}(nd:(oth.map (·.1)).Nodup)(n:bY env oth y v)(n':bY env oth y v'):v=v':=by
 refine Or.elim n (fun a=>Or.elim n' (fun b=>?_) fun b=>?_) fun a=>Or.elim n' (fun b=>?_) fun b=>?_
 ·refine a.2.elim fun o p=>b.2.elim fun o' p'=>?_
  obtain rfl:o=o':=congrArg Prod.snd (ew nd p.1 p'.1 rfl)
  exact p.2.uniq p'.2
 ·exact b.1.elim (fun e=>nomatch a.1.symm.trans e) fun e=>nomatch a.1.symm.trans e
 ·exact a.1.elim (fun e=>nomatch b.1.symm.trans e) fun e=>nomatch b.1.symm.trans e
 ·refine ob_2_3 a.2 fun c o e1 e2 e3=>ob_2_3 b.2 fun c' o' f1 f2 f3=>?_
  obtain rfl:=Option.some.inj (e1.symm.trans f1)
  obtain rfl:=congrArg Prod.snd (ew nd e2 f2 rfl)
  exact Option.some.inj (Data.cell.inj (e3.symm.trans f3))
theorem wF{y:Str}{yp ap p pos:Pos}{j:Nat}{a:Expr}{pa:PE}(hl:bt env.scope.names y=true)(hj:bD nm y=some j)(hline:(ap.endLine == p.line)=true)(hn:bw a=true)(Ja:JE X A env nm a pa) :
  JS X A wn env nm (.Expr (.Call (.Attribute (.Name y yp) "append" ap) [a] [] p) pos) (.ownApp j pa):=by
 intro ρ σ r hr g own oth0 F s Q E H P
 refine cV (wg.symm.trans hr) fun l hv hr=>gf hr fun hsz hr=>?_
 have hv:=yw hv
 refine ob_4_8 (F.turn hl hj hv H) fun b o vs n nh ok e1 e2 e3 e4 e5 z9=>?_
 refine wpAny_Expr_any ?_ (by unfold interactive;rw [F.fr.fn];rfl) (j0 rfl)
 refine Call_method1 (fM rfl _ _ _) (fW hn) hline (wpAny_Name (fP F.fr.fn ok nh H ?_) ok.1)
 refine ⟨"list","list.append",PySem.F.plainAttrs_list,PySem.F.slot_list_append,PySem.F.type_list_append,⟨_,e1,e2⟩,(fun z9 q=>Value.ref.inj q▸⟨_,e1,e3⟩),callWith_builtin rfl (evalArgs_plain (spliced_cons ?_))⟩
 clear e1 e2 e3 e4 e5
 refine Ja.stepS hr F H P fun v σ1 hr1 val h1 tk1 g1 k1 H1 R1=>spliced_nil ?_
 refine ob_4_8 ((F.mono k1).turn (s:={ s with heap:=h1,toks:=tk1 }) hl hj hv H1) fun b' o' vs' n' nh' ok' f1 f2 f3 f4 f5 kk=>?_
 obtain rfl:=Value.ref.inj (nh.uniq (o3 H1) nh')
 have hlen:vs'.length≤100000:=f5.length▸ls hsz
 refine l6 (s:={ s with heap:=h1,toks:=tk1 }) f1 f2 f4.1 (List.size_toArray ..▸f4.2) fun h' hs' e'=>?_
 refine (Obj.data_mapSeq f4.1 (·.push val)).elim fun m3 hd3=>?_
 have hz:(vs'++[val]).length≤sizeLine:=by simp only [List.length_append,List.length_singleton,sizeLine_eq];lia
 exact ob_1_2 (kk h' _ (vs'++[val]) m3 (l++[v]) hs' e' ((Obj.cls_mapSeq ..).trans f2) (fQ f4.1 f3) ⟨hd3.trans (by simp),hz⟩ (f5.append (.one R1))) fun own' H' F'=>lQ hr1 P h' tk1 g1 own' k1 H' F'
theorem wG{x y:Str}{xp yp ap p pos:Pos}{i j:Nat}(hlx:bt env.scope.names x=true)(hi:bD nm x=some i)(hl:bt env.scope.names y=true)(hj:bD nm y=some j)(hline:(ap.endLine == p.line)=true) :
  JS X A wn env nm (.Assign [.Name x xp] (.Call (.Attribute (.Name y yp) "pop" ap) [] [] p) pos) (.ownPop i j):=by
 intro ρ σ r hr g own oth0 F s Q E H P
 refine cV (wh.symm.trans hr) fun l hv hr=>cV hr fun v hx hr=>?_
 refine ob_4_8 (F.turn hl hj (yw hv) H) fun b o vs n nh ok e1 e2 e3 e4 e5 kk=>?_
 refine wpAny_Assign_Name ?_ (j0 rfl)
 refine Call_method0 (fM rfl _ _ _) hline (wpAny_Name (fP F.fr.fn ok nh H ?_) ok.1)
 refine ⟨"list","list.pop",PySem.F.plainAttrs_list,PySem.F.slot_list_pop,PySem.F.type_list_pop,⟨_,e1,e2⟩,(fun z9 q=>Value.ref.inj q▸⟨_,e1,e3⟩),callWith_builtin rfl (PySem.evalArgs_none ?_)⟩
 refine ob_1_2 (e5.last hx) fun val hv1 hv2=>?_
 refine xZ e1 e2 e4.1 (y:=val) (List.getElem?_toArray.trans (List.getLast?_eq_getElem?.symm.trans hv1)) (List.size_toArray ..▸e4.2) fun h' hs' e'=>?_
 refine (Obj.data_mapSeq e4.1 (·.eraseIdxIfInBounds (vs.toArray.size-1))).elim fun m3 hd3=>?_
 refine ob_1_2 (kk h' _ vs.dropLast m3 l.dropLast hs' e' ((Obj.cls_mapSeq ..).trans e2) (fQ e4.1 e3) ⟨hd3.trans (by rw [oR]),List.length_dropLast▸Nat.le_trans (Nat.sub_le _ _) e4.2⟩ e5.dropLast) fun own' H' F'=>?_
 exact F'.store (s:={ s with heap:=h' }) hlx hi H' hv2.lr (fun l q=>absurd q (hv2.notOwn l)) fun h2 tk2 own2 H2 F2=>lQ hr P h2 tk2 g own2 (.refl g) H2 F2
end
end Mine.Internal
end
section
open PySem PySem.W PyProof.Rows PySem.Calls
set_option genCtorIdx false
namespace Mine.Internal
section
variable {X:Cx} {A:Around} {wn:Nat} {env:Env} {nm:List Str} {g g':Gh} {own oth oth0:List (Addr×Obj)} {σ:St} {s:Shared} {ρ:ck} {fns:List (Str×Nat)}
theorem bY.sub{oth oth':List (Addr×Obj)}{y:Str}{val:Value}(n:bY env oth y val)(hs:∀ p∈oth,p∈oth'):bY env oth' y val:=by
 refine Or.elim n (fun ho9_0=>?_) fun ho9_1=>?_
 ·obtain ⟨p1,ob,p2,p3⟩:=ho9_0
  exact .inl ⟨p1,ob,hs _ p2,p3⟩
 ·obtain ⟨p1,cc,ob,p2,p3,p4⟩:=ho9_1
  exact .inr ⟨p1,cc,ob,p2,hs _ p3,p4⟩
theorem gl.sub{oth oth':List (Addr×Obj)}{val:Value}{l:List V}(R:gl g oth val l)(hs:∀ p∈oth,p∈oth'):gl g oth' val l:=by
 obtain ⟨a,b,c,d⟩:=R
 exact .mk (hs _ a) b c d
theorem nT.sub{oth oth':List (Addr×Obj)}(K:nT A oth)(hs:∀ p∈oth,p∈oth'):nT A oth':=by
 refine ob_1_2 K fun l e h=>?_
 exact (ib_1_2 l e (fun x hx=>let ⟨a,L,ob,b,c,d⟩:=h x hx;⟨a,L,ob,b,hs _ c,d⟩))
theorem eV.sub{oth oth':List (Addr×Obj)}(F:eV A g oth env nm ρ)(hs:∀ p∈oth,p∈oth'):eV A g oth' env nm ρ:=
 ⟨F.fn,F.len,F.fr.sub hs,F.top,F.cel,fun x i v a b c=>let ⟨ok,val,n,R⟩:=F.has x i v a b c;⟨ok,val,n.sub hs,by cases v<;>first | exact R | exact gl.sub R hs⟩⟩
theorem sy{own oth0:List (Addr×Obj)}{p q:Addr×Obj}(h:q∈own++oth0):q∈own++p::oth0:=by
 refine Or.elim (List.mem_append.mp h) (fun h=>?_) fun h=>?_
 ·exact List.mem_append_left _ h
 ·exact List.mem_append_right _ (.tail _ h)
theorem fA.more(F:fA A g own oth0 env nm ρ)(p:Addr×Obj):fA A g own (p::oth0) env nm ρ:=
 ⟨F.fr.sub fun q hq=>sy hq,F.loc,F.cell,F.inj,F.nofree,F.ok,F.own1,fun x i l a b c=>let ⟨val,n,R⟩:=F.ownIn x i l a b c;(ib_1_2 val (n.sub fun q hq=>sy hq) R)⟩
theorem fA.less{p:Addr×Obj}(F:fA A g own (p::oth0) env nm ρ)(nd:((own++p::oth0).map (·.1)).Nodup)(hp:p.2.cls≠.type "frame"):fA A g own oth0 env nm ρ:=by
 have key:∀ y val,bY env (own++p::oth0) y val→bY env (own++oth0) y val:=fun y val n=>by
  refine Or.elim (n.cells (F.nofree y)) (fun ho28_0=>?_) fun ho28_1=>?_
  ·obtain ⟨p1,ob,p2,p3⟩:=ho28_0
   refine ob_3_2 F.loc fun oL es n l1 l2=>?_
   have:=ew nd p2 (List.mem_append_left _ l1) rfl
   cases this
   exact .inl ⟨p1,_,List.mem_append_left _ l1,p3⟩
  ·obtain ⟨p1,cc,ob,p2,p3,p4⟩:=ho28_1
   refine ob_3_3 (F.cell y p1) fun c' o' v q1 q2 q3=>?_
   rw [p2] at q1;obtain rfl:=Option.some.inj q1
   have:=ew nd p3 (List.mem_append_left _ q2) rfl
   cases this
   exact .inr ⟨.inl p1,_,_,p2,List.mem_append_left _ q2,p4⟩
 refine ⟨⟨F.fr.fn,F.fr.len,?_,F.fr.top,F.fr.cel,fun x i v a b c=>?_⟩,F.loc,F.cell,F.inj,F.nofree,F.ok,F.own1,fun x i l a b c=>let ⟨val,n,R⟩:=F.ownIn x i l a b c;(ib_1_2 val (key _ _ n) R)⟩
 ·refine ob_1_2 F.fr.fr fun l e h=>?_
  refine (ib_1_2 l e (fun x hx=>?_))
  obtain ⟨a,L,ob,b,c,d1,d2⟩:=h x hx
  refine ⟨a,L,ob,b,?_,d1,d2⟩
  refine Or.elim (List.mem_append.mp c) (fun c=>?_) fun c=>?_
  ·exact List.mem_append_left _ c
  ·rcases List.mem_cons.mp c with e | c
   ·subst e;exact absurd d2 hp
   ·exact List.mem_append_right _ c
 ·obtain ⟨ok,val,n,R⟩:=F.fr.has x i v a b c
  cases v with
  | own l=>
   refine ob_1_2 (F.ownIn x i l a b c) fun val' n' R'=>?_
   exact ⟨ok,val',key _ _ n',R'.sub fun q hq=>List.mem_append_left _ hq⟩
  | _=>exact ⟨ok,val,key _ _ n,R⟩
theorem sC{Q:Flow→Shared→Prop}{E:Value→Shared→Prop}{v:V}{ρ':ck}{σ':St}(P:kJ X A env nm g oth0 s Q E (.exc v ρ' σ')){e:Addr}{h:Heap}{tk:Tok}{g':Gh}{own' oth':List (Addr×Obj)}(k:g.le g')(H:HI X.w X.base g' (own'++oth') σ' h)(F:fA A g' own' oth' env nm ρ')(R:VR g' (.ref e) v)(Fl:kD X.base e h)
  (hd:∀ h',HI X.w X.base g' (own'++oth') σ' h'→HI X.w X.base g' (own'++oth0) σ' h'∧fA A g' own' oth0 env nm ρ') :
  notedBy X.M A env (cameBackBy X.M A env E) (.ref e) { s with heap:=h,toks:=tk }:=
 yf (s:={ s with heap:=h,toks:=tk }) F.fr.fr F.fr.top H R Fl fun h' H' F'=>P e h' tk g' own' k (hd h' H').1 (hd h' H').2 R F'.fly
noncomputable def uh(K:ck→St→Option FR):FR→Option FR
 | .next ρ σ=>K ρ σ
 | .brk ρ σ=>some (.next ρ σ)
 | r=>some r
theorem AW{t:ck→St→cR Bool}{b:ck→St→Option FR}{n:Nat}{r:FR}(h:lP t b (n+1) ρ σ=some r){C:Prop}(k1:∀ v σ',t ρ σ=some (.exc v σ')→.exc v ρ σ'=r→C)(k2:∀ σ',t ρ σ=some (.ok false σ')→.next ρ σ'=r→C)
  (k3:∀ σ' rb,t ρ σ=some (.ok true σ')→b ρ σ'=some rb→uh (lP t b n) rb=some r→C):C:=by
 unfold lP at h
 refine fH (t ρ σ) (fun q=>?_) fun x q=>?_
 ·rw [q] at h;exact cq h
 ·rw [q] at h
  cases x with
  | exc v σ'=>exact k1 v σ' q (Option.some.inj h)
  | ok c σ'=>cases c with
   | false=>exact k2 σ' q (Option.some.inj h)
   | true=>
    refine fH (b ρ σ') (fun q2=>?_) fun rb q2=>?_
    ·simp only [q2] at h;exact cq h
    ·simp only [q2] at h
     refine k3 σ' rb q q2 (Eq.trans ?_ h)
     cases rb<;>rfl
theorem AX{b:V→ck→St→Option FR}{v:V}{l:List V}{r:FR}(h:fU b (v::l) ρ σ=some r){C:Prop}(k:∀ rb,b v ρ σ=some rb→uh (fU b l) rb=some r→C):C:=by
 unfold fU at h
 refine fH (b v ρ σ) (fun q=>?_) fun rb q=>?_
 ·rw [q] at h;exact cq h
 ·rw [q] at h
  refine k rb q (Eq.trans ?_ h)
  cases rb<;>rfl
theorem qo{oth':List (Addr×Obj)}{Q Q':Flow→Shared→Prop}{E:Value→Shared→Prop}{r rb:FR}{K:ck→St→Option FR}{h1:Heap}{tk1:Tok}(P:kJ X A env nm g oth0 s Q E r)(k:g.le g')
  (hd:∀ σ h g2 own2 ρ2,HI X.w X.base g2 (own2++oth') σ h→fA A g2 own2 oth' env nm ρ2→HI X.w X.base g2 (own2++oth0) σ h∧fA A g2 own2 oth0 env nm ρ2) (hr:uh K rb=some r)
  (kn:∀ ρ σ,rb=.next ρ σ→K ρ σ=some r→∀ h tk g2 own,g'.le g2→HI X.w X.base g2 (own++oth') σ h→fA A g2 own oth' env nm ρ→Q' .next { s with heap:=h,toks:=tk }) (kb:∀ s',Q .next s'→Q' .brk s') (kr:∀ v s',Q (.ret v) s'→Q' (.ret v) s') :
  kJ X A env nm g' oth' { s with heap:=h1,toks:=tk1 } Q' (notedBy X.M A env (cameBackBy X.M A env E)) rb:=by
 cases rb with
 | next ρ σ=>exact fun h tk g2 own k2 H F=>kn ρ σ rfl hr h tk g2 own k2 H F
 | brk ρ σ=>exact fun h tk g2 own k2 H F=>kb _ (lQ hr P h tk g2 own (k.trans k2) (hd _ _ _ _ _ H F).1 (hd _ _ _ _ _ H F).2)
 | ret v ρ σ=>exact fun val h tk g2 own k2 H F R=>kr _ _ (lQ hr P val h tk g2 own (k.trans k2) (hd _ _ _ _ _ H F).1 (hd _ _ _ _ _ H F).2 R)
 | exc v ρ σ=>exact fun e h tk g2 own k2 H F R Fl=>sC (lQ hr (D:=kJ X A env nm g oth0 s Q E) P) (k.trans k2) H F R Fl fun h' H'=>hd _ _ _ _ _ H' F
inductive WI (X:Cx) (A:Around) (env:Env) (nm:List Str) (g:Gh) (oth0:List (Addr×Obj)) (s:Shared) (L:Nat→ck→St→Prop):Nat→Shared→Prop
 | mk {n:Nat} {ρ:ck} {σ:St} {h:Heap} {tk:Tok} {g1:Gh} {own:List (Addr×Obj)}:g.le g1→HI X.w X.base g1 (own++oth0) σ h→fA A g1 own oth0 env nm ρ→L n ρ σ→WI X A env nm g oth0 s L n { s with heap:=h,toks:=tk }
theorem yx{c:Expr}{b:List Stmt}{pos:Pos}{pc:PE}{pb:List PS}(Jc:JT X A env nm c pc)(Jb:tB X A wn env nm b pb):JS X A wn env nm (.While c b [] pos) (.whl pc pb):=by
 intro ρ σ r hr g own oth0 F s Q E H P
 refine wpAny_While (codeAny_whileLoop (WI X A env nm g oth0 s fun n ρ σ=>lP (fun ρ σ=>fw X.C ρ pc σ) (fun ρ σ=>fz X.C wn pb ρ σ) n ρ σ=some r) (fun n s' I=>?_) wn (.mk (.refl g) H F (C6.symm.trans hr)))
 cases I with
 | @mk ρ1 σ1 h tk g1 own1 k1 H1 F1 hl=>
  cases n with
  | zero=>exact cq hl
  | succ n=>
   refine AW hl (fun v σ' q e=>?_) (fun σ' q e=>?_) fun σ' rb q qb hr=>?_
   ·exact Jc ρ1 σ1 _ q g1 _ F1.fr _ _ _ H1 fun e' h2 tk2 g2 k2 H2 R2 Fl=>sC (lQ (congrArg some e) P) (k1.trans k2) H2 (F1.mono k2) R2 Fl fun h' H'=>⟨H',F1.mono k2⟩
   ·exact Jc ρ1 σ1 _ q g1 _ F1.fr _ _ _ H1 fun h2 tk2 g2 k2 H2=>wpAny_execs_nil (lQ (congrArg some e) P h2 tk2 g2 own1 (k1.trans k2) H2 (F1.mono k2))
   ·refine Jc ρ1 σ1 _ q g1 _ F1.fr _ _ _ H1 fun h2 tk2 g2 k2 H2=>Jb ρ1 σ' rb qb g2 own1 oth0 (F1.mono k2) _ _ _ H2 ?_
    exact qo P (k1.trans k2) (fun z9 z9 z9 z9 z9 a b=>⟨a,b⟩) hr (fun ρ3 σ3 z9 hl h3 tk3 g3 own3 k3 H3 F3=>⟨n,Nat.lt_succ_self n,.mk ((k1.trans k2).trans k3) H3 F3 hl⟩) (fun z9 h=>h) fun z9 z9 h=>h
theorem sD{prog:Program}{w:World}{R:Result→Shared→Prop}{target:Expr}{it:Value}{body orelse:List Stmt}(I:Nat→Shared→Prop)
  (turn:∀ n s,I n s→wpAny (model prog w) A (pyNext it) (fun r s₁=>match r with
   | none=>wpAny (model prog w) A (execs orelse env) (fun f s₃=>R (.ok f) s₃) (notedBy (model prog w) A env fun e s'=>R (.error e) s') s₁
   | some v=>wpAny (model prog w) A (letOwnedTupleGo target it v) (fun z9 s₁=>wpAny (model prog w) A (assign target env v) (fun z9 s₂=>wpAny (model prog w) A (execs body env) (fun f s₃=>match f with
     | .next | .cont=>∃ m,m<n∧I m s₃
     | .brk=>R (.ok .next) s₃
     | .ret v=>R (.ok (.ret v)) s₃) (notedBy (model prog w) A env fun e s'=>R (.error e) s') s₂) (notedBy (model prog w) A env fun e s'=>R (.error e) s') s₁) (notedBy (model prog w) A env fun e s'=>R (.error e) s') s₁) (notedBy (model prog w) A env fun e s'=>R (.error e) s') s)
  (n:Nat) (h:I n s):codeAny (model prog w) A (.forLoop target it body orelse env) R s:=by
 refine codeAny_loop' rfl I (fun n s hI=>?_) n h
 refine wpAny_noted ?_
 refine wpAny_bind (wpAny_standAt (wpAny_bind (wpAny_onRaise (wpAny_mono (turn n s hI) (fun r s₁ h₁=>?_) fun z9 z9 h'=>wpAny_standAt h'))))
 cases r with
 | none=>exact wpAny_pure (.inr ⟨rfl,codeAny_block h₁⟩)
 | some v=>
  refine wpAny_bind (wpAny_mono h₁ (fun z9 s₁ h₁=>?_) fun z9 z9 h'=>h')
  refine wpAny_bind (wpAny_mono h₁ (fun z9 s₂ h₂=>wpAny_bind (wpAny_mono h₂ (fun f s₃ h₃=>?_) fun z9 z9 h'=>h')) fun z9 z9 h'=>h')
  cases f with
  | next=>exact wpAny_pure (.inl ⟨rfl,h₃⟩)
  | cont=>exact wpAny_pure (.inl ⟨rfl,h₃⟩)
  | brk=>exact wpAny_pure h₃
  | ret v=>exact wpAny_pure h₃
inductive FI (X:Cx) (A:Around) (env:Env) (nm:List Str) (g:Gh) (oth0:List (Addr×Obj)) (s:Shared) (I0:Addr) (src:V) (l:List V) (L:List V→ck→St→Prop):Nat→Shared→Prop
 | mk {i:Nat} {ρ:ck} {σ:St} {h:Heap} {tk:Tok} {g1:Gh} {own:List (Addr×Obj)} {o:Obj}:g.le g1→HI X.w X.base g1 (own++(I0,o)::oth0) σ h→fA A g1 own oth0 env nm ρ→lL g1 src i o→eZ σ src=some l→L (l.drop i) ρ σ→i≤l.length→FI X A env nm g oth0 s I0 src l L (l.length-i) { s with heap:=h,toks:=tk }
theorem sE(hh:A.handled=none){target:Expr}{b:List Stmt}{pb:List PS}(Jb:tB X A wn env nm b pb){bind:V→ck→Option ck}{src:V}{l:List V}
  (ht:∀ v ρ ρ',bind v ρ=some ρ'→∀ val g own oth' σ (s:Shared) E (o:Obj) (I0:Addr) i,VR g val v→(I0,o)∈own++oth'→lL g src i o→fA A g own oth' env nm ρ→HI X.w X.base g (own++oth') σ s.heap→∀ Q:Unit→Shared→Prop,(∀ h tk own',HI X.w X.base g (own'++oth') σ h→fA A g own' oth' env nm ρ'→Q () { s with heap:=h,toks:=tk })→
   wpAny X.M A (letOwnedTupleGo target (.ref I0) val) (fun z9 s₁=>wpAny X.M A (assign target env val) Q E s₁) E s)
  {B:V→ck→St→Option FR} (hB:∀ v ρ σ rb,B v ρ σ=some rb→∃ ρ',bind v ρ=some ρ'∧fz X.C wn pb ρ' σ=some rb)
  {I0:Addr} {o:Obj} {r:FR} {Q:Flow→Shared→Prop} {E:Value→Shared→Prop} (hl:eZ σ src=some l) (hp:isRef src=true→gX pb=true)
  (hr:fU B l ρ σ=some r) (F:fA A g own oth0 env nm ρ) (H:HI X.w X.base g (own++(I0,o)::oth0) σ s.heap) (IR:lL g src 0 o) (P:kJ X A env nm g oth0 s Q E r) :
  codeAny X.M A (.forLoop target (.ref I0) b [] env) (fun r s'=>match r with | .ok f=>Q f s' | .error e=>cameBackBy X.M A env E e s') s:=by
 refine sD (FI X A env nm g oth0 s I0 src l fun l ρ σ=>fU B l ρ σ=some r) (fun n s' I=>?_) _ (.mk (.refl g) H F IR hl hr (Nat.zero_le _))
 cases I with
 | @mk i ρ1 σ1 h tk g1 own1 o1 k1 H1 F1 IR1 hl1 hr1 hi=>
  by_cases hlt:i<l.length
  ·refine qj (s:={ s with heap:=h,toks:=tk }) IR1 hl1 (List.getElem?_eq_getElem hlt) H1 fun val h2 tk2 o2 H2 IR2 R2=>?_
   refine AX (List.drop_eq_getElem_cons hlt▸hr1) fun rb qb hr2=>ob_1_2 (hB _ _ _ _ qb) fun ρ2 hb hx=>?_
   refine ht _ _ _ hb val g1 own1 ((I0,o2)::oth0) σ1 { s with heap:=h2,toks:=tk2 } _ o2 I0 (i+1) R2 (List.mem_append_right _ (.head _)) IR2 (F1.more _) H2 _ fun h3 tk3 own3 H3 F3=>?_
   refine Jb ρ2 σ1 rb hx g1 own3 ((I0,o2)::oth0) F3 _ _ _ H3 ?_
   refine qo P k1 (fun z9 z9 z9 z9 z9 a b=>⟨a.dropMid,b.less (o3 a) IR2.cls⟩) hr2 (fun ρ4 σ4 e hl h4 tk4 g4 own4 k4 H4 F4=>?_) (fun z9 h=>h) fun z9 z9 h=>h
   subst e
   have hl4:eZ σ4 src=some l:=by
    cases src with
    | ref n0=>exact wk wn pb (hp rfl) _ _ hx rfl▸hl1
    | _=>exact hl1
   exact ⟨l.length-(i+1),by lia,.mk (k1.trans k4) H4 (F4.less (o3 H4) IR2.cls) (IR2.mono k4) hl4 hl hlt⟩
  ·have hin:l.length=i:=by lia
   have hr2:some (.next ρ1 σ1)=some r:=(List.drop_eq_nil_of_le (Nat.le_of_eq hin)▸hr1:fU B [] ρ1 σ1=some r)
   exact sm hh IR1 hl1 hin H1 fun h2 H2=>wpAny_execs_nil (lQ hr2 P h2 tk g1 own1 k1 H2 F1)
end
end Mine.Internal
end
section
open PySem PySem.W PyProof.Rows PySem.Calls
namespace Mine.Internal
section
variable {X:Cx} {A:Around} {wn:Nat} {env:Env} {nm:List Str} {g g':Gh} {own oth oth0:List (Addr×Obj)} {σ:St} {s:Shared} {ρ:ck} {fns:List (Str×Nat)}
theorem gp{e:Expr}(h:dD e=true)(x:Value):foldedSetIterable e env x=pure x:=by
 cases e<;>first | rfl | exact j9 h
theorem qp{x:Str}{xp:Pos}{i:Nat}(hl:bt env.scope.names x=true)(hi:bD nm x=some i){src:V}:∀ v ρ ρ',some (ρ.set i (some v))=some ρ'→∀ val g own oth' σ (s:Shared) E (o:Obj) (I0:Addr) k,VR g val v→(I0,o)∈own++oth'→lL g src k o→fA A g own oth' env nm ρ→HI X.w X.base g (own++oth') σ s.heap→∀ Q:Unit→Shared→Prop,(∀ h tk own',HI X.w X.base g (own'++oth') σ h→fA A g own' oth' env nm ρ'→Q () { s with heap:=h,toks:=tk })→
   wpAny X.M A (letOwnedTupleGo (.Name x xp) (.ref I0) val) (fun z9 s₁=>wpAny X.M A (assign (.Name x xp) env val) Q E s₁) E s:=by
 intro v ρ ρ' hb val g own oth' σ s E o I0 k R _ _ F H Q kk
 obtain rfl:=Option.some.inj hb
 exact wpAny_pure (wpAny_assign_Name (F.store hl hi H R.lr (fun l q=>absurd q (R.notOwn l)) kk))
noncomputable def Cv(is:List Nat)(v:V)(ρ:ck):Option ck:=(gg v).bind fun us=>eX ρ is us
theorem m_{a b:Bool}(h:a=false):¬ (a&&b)=true:=h▸Bool.false_ne_true
theorem yy(hh:A.handled=none){ts:List Expr}{is:List Nat}{k0:Nat}{p:Pos}(T:TN env nm ts is){src:V}:∀ v ρ ρ',Cv is v ρ=some ρ'→∀ val g own oth' σ (s:Shared) E (o:Obj) (I0:Addr) k,VR g val v→(I0,o)∈own++oth'→lL g src k o→fA A g own oth' env nm ρ→HI X.w X.base g (own++oth') σ s.heap→∀ Q:Unit→Shared→Prop,(∀ h tk own',HI X.w X.base g (own'++oth') σ h→fA A g own' oth' env nm ρ'→Q () { s with heap:=h,toks:=tk })→
   wpAny X.M A (letOwnedTupleGo (.Tuple ts k0 p) (.ref I0) val) (fun z9 s₁=>wpAny X.M A (assign (.Tuple ts k0 p) env val) Q E s₁) E s:=by
 intro v ρ ρ' hb val g own oth' σ s E o I0 k R hm IR F H Q kk
 refine cV hb fun us hu hb=>?_
 have R:=gm hu▸R
 have e:=H.hex (I0,o) hm IR.cls
 have fY:=o8 (k:=k0) (p:=p) (s:=s) (E:=E) T hh hb (lS hb) R F H kk
 refine ob_4_1 R.inv fun a z9 z9 z9 ev=>?_
 have ev:=ev.1
 subst ev
 refine wpAny_bind (wpAny_load e ?_)
 clear H R kk hm
 cases IR with
 | lst a b c=>rw [b,c];dsimp only;exact q8 (m_ (by decide)) (wpAny_pure fY)
 | ref a b c=>rw [b,c];dsimp only;exact q8 (m_ (by decide)) (wpAny_pure fY)
 | tup a b c=>rw [b,c];dsimp only;exact q8 (m_ (by decide)) (wpAny_pure fY)
 | strA b c=>rw [b,c];dsimp only;exact q8 (m_ (by decide)) (wpAny_pure fY)
 | strW b c=>rw [b,c];dsimp only;exact q8 (m_ (by decide)) (wpAny_pure fY)
 | rng=>dsimp only;exact q8 (m_ (by decide)) (wpAny_pure fY)
theorem ng{σ:St}{v:V}{l:List V}(h:dH σ v=some l):eZ σ v=some l∧yg v=true:=by
 cases v<;>first | exact cq h | exact ⟨h,rfl⟩
theorem vq(hh:A.handled=none){target it:Expr}{b:List Stmt}{pos:Pos}{pit:PE}{pb:List PS}(hs:dD it=true)(Ji:JE X A env nm it pit)(Jb:tB X A wn env nm b pb){bind:V→ck→Option ck}
  (ht:∀ src v ρ ρ',bind v ρ=some ρ'→∀ val g own oth' σ (s:Shared) E (o:Obj) (I0:Addr) i,VR g val v→(I0,o)∈own++oth'→lL g src i o→fA A g own oth' env nm ρ→HI X.w X.base g (own++oth') σ s.heap→∀ Q:Unit→Shared→Prop,(∀ h tk own',HI X.w X.base g (own'++oth') σ h→fA A g own' oth' env nm ρ'→Q () { s with heap:=h,toks:=tk })→
   wpAny X.M A (letOwnedTupleGo target (.ref I0) val) (fun z9 s₁=>wpAny X.M A (assign target env val) Q E s₁) E s)
  {B:V→ck→St→Option FR} (hB:∀ v ρ σ rb,B v ρ σ=some rb→∃ ρ',bind v ρ=some ρ'∧fz X.C wn pb ρ' σ=some rb)
  {r:FR} (hr:bH ρ (ev X.C ρ pit σ) (fun s σ=>(dH σ s).bind fun l=>if !isRef s || gX pb then fU B l ρ σ else none)=some r) (F:fA A g own oth0 env nm ρ) {Q:Flow→Shared→Prop} {E:Value→Shared→Prop} (H:HI X.w X.base g (own++oth0) σ s.heap) (P:kJ X A env nm g oth0 s Q E r):wpAny X.M A (exec (.For target it b [] pos) env) Q E s:=by
 refine wpAny_For (Ji.stepS hr F H P fun v σ1 hr1 val h1 tk1 g1 k1 H1 R1=>?_) (gp hs)
 refine cV hr1 fun l hl hr1=>gf hr1 fun hc hr1=>?_
 refine bC (ng hl) fun hl' hq=>?_
 refine ke (s:={ s with heap:=h1,toks:=tk1 }) R1 hl' hq H1 fun I0 o h2 H2 IR=>?_
 have H3:HI X.w X.base g1 (own++(I0,o)::oth0) σ1 h2:=H2.perm (by simpa using List.perm_middle.symm)
 exact sE (s:={ s with heap:=h2,toks:=tk1 }) hh Jb (bind:=bind) (src:=v) (l:=l) (ht v) hB hl' (fun hr=>by simpa [hr] using hc) hr1 (F.mono k1) H3 IR (P.at k1 h2 tk1)
end
end Mine.Internal
end
section
open PySem PySem.W PyProof.Rows PySem.Calls
namespace Mine.Internal
section
variable {X:Cx} {A:Around} {wn:Nat} {env:Env} {nm:List Str} {g g':Gh} {own oth oth0:List (Addr×Obj)} {σ:St} {s:Shared} {ρ:ck} {fns:List (Str×Nat)}
theorem AY(hh:A.handled=none){x:Str}{xp:Pos}{i:Nat}{it:Expr}{b:List Stmt}{pos:Pos}{pit:PE}{pb:List PS}(hl:bt env.scope.names x=true)(hi:bD nm x=some i)(hs:dD it=true)(Ji:JE X A env nm it pit)(Jb:tB X A wn env nm b pb) :
  JS X A wn env nm (.For (.Name x xp) it b [] pos) (.for1 i pit pb):=by
 intro ρ σ r hr g own oth0 F s Q E H P
 exact vq hh hs Ji Jb (bind:=fun v ρ=>some (ρ.set i (some v))) (fun src=>qp hl hi) (fun v ρ σ rb h=>⟨_,rfl,h⟩) (Ak.symm.trans hr) F H P
theorem AZ(hh:A.handled=none){ts:List Expr}{is:List Nat}{k0:Nat}{p:Pos}{it:Expr}{b:List Stmt}{pos:Pos}{pit:PE}{pb:List PS}(T:TN env nm ts is)(hs:dD it=true)(Ji:JE X A env nm it pit)(Jb:tB X A wn env nm b pb) :
  JS X A wn env nm (.For (.Tuple ts k0 p) it b [] pos) (.forT is pit pb):=by
 intro ρ σ r hr g own oth0 F s Q E H P
 exact vq hh hs Ji Jb (bind:=Cv is) (fun src=>yy hh T) (fun v ρ σ rb h=>cV h fun us h1 h=>cV h fun ρ' h2 h=>⟨ρ',(congrArg (Option.bind · fun us=>eX ρ is us) h1).trans h2,h⟩) (Al.symm.trans hr) F H P
theorem l_(T:jZ X fns)(O:dI env)(hg:bz env.scope.names "range"=true){k:Expr}{pk:PE}{np cp:Pos}(hn:bw k=true)(J:JE X A env nm k pk){α:Type}{f:V→St→cR α}{r:jE α}(hr:(ev X.C ρ pk σ).bind f=some r)(F:eV A g oth env nm ρ)(H:HI X.w X.base g oth σ s.heap)
  {Q1 E:Value→Shared→Prop} (PE:∀ v σ',r=.exc v σ'→∀ e h tk g',g.le g'→HI X.w X.base g' oth σ' h→VR g' (.ref e) v→kD X.base e h→E (.ref e) { s with heap:=h,toks:=tk })
  (hint:∀ v σ',f v σ'=some r→∃ n,v=.int n)
  (kk:∀ n σ',f (.int n) σ'=some r→∀ rg a t u h tk g',IsRange h rg 0 n 1 a t u→g.le g'→HI X.w X.base g' oth σ' h→Q1 (.ref rg) { s with heap:=h,toks:=tk }):wpAny X.M A (eval (.Call (.Name "range" np) [k] [] cp) env) Q1 E s:=by
 refine cP (ka T O F.fn (v:=.type "range") hg (fun mg mb h=>⟨h.2.2.2.2.2.2.2.2.2.2.1,h.2.2.2.2.2.2.2.2.2.2.2.2.2.2.2.2⟩) (by decide) H ?_)
 refine PyProof.Rows.callWith_type (bW (by simp [hn])) (g7 hn J hr F H PE fun v σ1 hr1 val h1 tk1 g1 k1 H1 R1=>?_)
 refine ob_1_1 (hint v σ1 hr1) fun n hq35_1=>?_
 subst hq35_1
 obtain ⟨t0,rfl⟩:∃ t0,val=.int n t0:=by cases R1;exact ⟨_,rfl⟩
 exact call_range_1 (kk n σ1 hr1 _ _ _ _ _ _ g1 (IsRange.new ..) k1 (H1.pushAny _))
theorem A_(T:jZ X fns)(O:dI env)(hg:bz env.scope.names "range"=true)(hh:A.handled=none){x:Str}{xp:Pos}{i:Nat}{k:Expr}{pk:PE}{np cp:Pos}{b:List Stmt}{pos:Pos}{pb:List PS}(hl:bt env.scope.names x=true)(hi:bD nm x=some i)(hn:bw k=true)(Jk:JE X A env nm k pk)(Jb:tB X A wn env nm b pb) :
  JS X A wn env nm (.For (.Name x xp) (.Call (.Name "range" np) [k] [] cp) b [] pos) (.forR i pk pb):=by
 intro ρ σ r hr g own oth0 F s Q E H P
 refine wpAny_For ?_ (gp rfl)
 refine Or.elim (kW hr) (fun ho43_0=>?_) fun ho43_1=>?_
 ·obtain ⟨v,σ',h1,h2⟩:=ho43_0
  subst h2
  refine l_ (f:=fun v σ=>(none:cR V)) (r:=.exc v σ') T O hg hn Jk (by rw [h1];rfl) F.fr H (fun v2 σ2 q=>by cases q;exact fun e h tk g' k' H' R Fl=>P e h tk g' own k' H' (F.mono k') R Fl) (fun v σ q=>by exact cq q) fun n σ q=>by exact cq q
 ·obtain ⟨v,σ',h1,h2⟩:=ho43_1
  refine cV h2 fun n hn9 h8=>gf h8 fun hb h7=>jF hb fun z9 hb=>?_
  obtain rfl:=lW hn9
  refine l_ (f:=fun v σ=>bv v σ) (r:=.ok (.int n) σ') T O hg hn Jk (by rw [h1];rfl) F.fr H (fun v2 σ2 q=>nomatch q) (fun v σ q=>⟨n,(jE.ok.inj (Option.some.inj q)).1⟩) fun n2 σ2 q rg a t u h tk g1 IR k1 H1=>?_
  obtain ⟨rfl,rfl⟩:n2=n∧σ2=σ':=⟨V.int.inj (jE.ok.inj (Option.some.inj q)).1,(jE.ok.inj (Option.some.inj q)).2⟩
  refine oZ (s:={ s with heap:=h,toks:=tk }) (of_decide_eq_true hb) IR H1 (fun I0 o h9 H2 IRr=>?_) (by lia)
  have H3:HI X.w X.base g1 (own++(I0,o)::oth0) σ2 h9:=H2.perm (by simpa using List.perm_middle.symm)
  exact sE (s:={ s with heap:=h9,toks:=tk }) hh Jb (bind:=fun v ρ=>some (ρ.set i (some v))) (src:=.int n2) (l:=rng n2) (qp hl hi) (fun v ρ σ rb h=>⟨_,rfl,h⟩) rfl (fun q=>j9 q) h7 (F.mono k1) H3 IRr (P.at k1 h9 tk)
theorem fA.mark{h:Option Value}(F:fA A g own oth0 env nm ρ):fA (A.mark h) g own oth0 env nm ρ:=⟨⟨F.fr.fn,F.fr.len,F.fr.fr,F.fr.top,F.fr.cel,F.fr.has⟩,F.loc,F.cell,F.inj,F.nofree,F.ok,F.own1,F.ownIn⟩
theorem fA.unmark{h:Option Value}(F:fA (A.mark h) g own oth0 env nm ρ):fA A g own oth0 env nm ρ:=⟨⟨F.fr.fn,F.fr.len,F.fr.fr,F.fr.top,F.fr.cel,F.fr.has⟩,F.loc,F.cell,F.inj,F.nofree,F.ok,F.own1,F.ownIn⟩
theorem fA.del{A2:Around}(F:fA A g own oth0 env nm ρ){x:Str}{i:Nat}{v:V}(hl:env.kindOf x=some .local)(hi:bD nm x=some i)(hv:ρ[i]?=some (some v))(hno:∀ l,v≠.own l)(H:HI X.w X.base g (own++oth0) σ s.heap)
  {Q:Bool→Shared→Prop} {E:Value→Shared→Prop}
  (k:∀ h own',HI X.w X.base g (own'++oth0) σ h→fA A g own' oth0 env nm (ρ.set i none)→Q true { s with heap:=h }):wpAny X.M A2 (nsDel env.locals x) Q E s:=by
 have nd:=o3 H
 refine ob_3_4 F.loc fun o es n m1 m2 m3 m4=>?_
 have isl:bt env.scope.names x=true:=by
  unfold bt
  simp only [bA,show env.scope.names.lookup x=some .local from hl]
 have hm0:(env.locals,o)∈own++oth0:=List.mem_append_left _ m1
 have hsome:(nsFind es x).isSome=true:=by
  refine (F.fr.has x i v hi isl hv).elim fun z9 q=>ob_1_2 q fun val nh z9=>Or.elim nh (fun a=>?_) fun a=>?_
  ·refine ob_1_2 a.2 fun ob p2 p3=>?_
   obtain rfl:=congrArg Prod.snd (ew nd p2 hm0 rfl)
   exact ob_2_3 p3 fun es2 ep2 q1 z9 q3=>Option.isSome_iff_exists.mpr ⟨val,(Data.dict.inj (q1.symm.trans m3)).1▸q3⟩
  ·exact a.1.elim (fun e=>nomatch hl.symm.trans e) fun e=>nomatch hl.symm.trans e
 refine bC (H.hoth _ hm0) fun hs nf=>hs.elim fun sl e=>?_
 obtain ⟨a,b,rfl⟩:=List.append_of_mem m1
 refine yi e m3 m4 hsome fun h' o' es' ep' hs he hc hd hk hf=>?_
 have H2:=(List.append_assoc a ((env.locals,o)::b) oth0▸H:HI X.w X.base g (a++(env.locals,o)::(b++oth0)) σ s.heap).setOth hs ⟨o'.slots,he⟩ ⟨hc.symm▸nf.1,hc.symm▸nf.2⟩ fun z9=>he
 exact k h' (a++(env.locals,o')::b) (List.append_assoc a ((env.locals,o')::b) oth0▸H2) (F.locAt nd hi m1 dB q7 m2 hc m3 hd hk hf (fun z9 z9 e=>cq e) fun z9 e=>cq e)
theorem fA.goes(F:fA A g own oth0 env nm ρ){A2:Around}{x:Str}{i:Nat}{pos:Pos}(hl:env.kindOf x=some .local)(hi:bD nm x=some i)(hlt:i<ρ.length)(H:HI X.w X.base g (own++oth0) σ s.heap){Q:Unit→Shared→Prop}{E:Value→Shared→Prop}
  (k:∀ h tk own',HI X.w X.base g (own'++oth0) σ h→fA A g own' oth0 env nm (ρ.set i none)→Q () { s with heap:=h,toks:=tk }):wpAny X.M A2 (do bindName env x .none;unbindBehindTheSuite env x pos) Q E s:=by
 have isl:bt env.scope.names x=true:=by
  unfold bt
  simp only [bA,show env.scope.names.lookup x=some .local from hl]
 refine wpAny_bind (wpAny_bindName (F.store isl hi H (v:=.none) .none (fun l q=>by cases q) fun h1 tk1 own1 H1 F1=>?_))
 refine wpAny_onRaise ?_
 refine wpAny_bind (wpAny_point (wpAny_bind ?_))
 unfold deleteName
 simp only [hl,F.fr.fn]
 refine wpAny_bind (F1.del (s:={ s with heap:=h1,toks:=tk1 }) hl hi (List.getElem?_set_self hlt) (fun l q=>by cases q) H1 fun h2 own2 H2 F2=>?_)
 simp only [List.set_set] at F2
 exact wpAny_pure (wpAny_point (k h2 tk1 own2 H2 F2))
end
end Mine.Internal
end
section
open PySem PySem.W PyProof.Rows PySem.Calls
namespace Mine.Internal
section
variable {X:Cx} {A:Around} {wn:Nat} {env:Env} {nm:List Str} {g g':Gh} {own oth oth0:List (Addr×Obj)} {σ:St} {s:Shared} {ρ:ck} {fns:List (Str×Nat)} {K:Frag}
theorem DI(T:jZ X fns)(O:dI env)(RO:xv X.base K)(hg:bz env.scope.names "Raised"=true){b hs:List Stmt}{h0:Stmt}{x:Str}{rp hp pos:Pos}{pb ph:List PS}{i:Nat}(hl:env.kindOf x=some .local)(hi:bD nm x=some i)
  (Jb:tB X A wn env nm b pb) (Jh:∀ e,tB X (A.mark (some (.ref e))) wn env nm (h0::hs) ph):JS X A wn env nm (.Try b [.ExceptHandler (some (.Name "Raised" rp)) (some x) (h0::hs) hp] [] [] pos) (.try1 pb i ph):=by
 intro ρ σ r hr g own oth0 F s Q E H P
 have hr:=An.symm.trans hr
 refine wpAny_Try_except ?_
 cases hb:fz X.C wn pb ρ σ with
 | none=>rw [hb] at hr;exact cq hr
 | some rb=>
  rw [hb] at hr
  refine Jb ρ σ rb hb g own oth0 F s _ _ H ?_
  cases rb with
  | next ρ1 σ1=>obtain rfl:=Option.some.inj hr;exact fun h tk g1 own1 k1 H1 F1=>wpAny_execs_nil (P h tk g1 own1 k1 H1 F1)
  | brk ρ1 σ1=>obtain rfl:=Option.some.inj hr;exact P
  | ret v ρ1 σ1=>obtain rfl:=Option.some.inj hr;exact P
  | exc v ρ1 σ1=>
   intro e h tk g1 own1 k1 H1 F1 R1 Fl
   have hr:xz i (fz X.C wn ph (ρ1.set i (some v)) σ1)=some r:=hr
   obtain ⟨nm',q,N,bs,sn,sub,ab,col,dd,k0,k1',k2,k3,k5,mN,fR,c1,c2,c3,c4,c5⟩:=RO.cls
   have isl:bt env.scope.names x=true:=by
    unfold bt
    simp only [bA,show env.scope.names.lookup x=some .local from hl]
   refine ob_2_1 (VR.isExc (X:=X) (s:={ s with heap:=h,toks:=tk }) H1 R1 Fl) fun c y hq28_2=>?_
   subst hq28_2
   refine vn (s:={ s with heap:=h,toks:=tk }) H1 F1.fr.fr F1.fr.top R1 Fl fun h2 H2 Fl2=>?_
   refine fX (s:={ s with heap:=h2,toks:=tk }) H2 R1 Fl2 fun h3 H3 Fl3=>?_
   refine wpAny_handleBy_cons (codeAny_handlers_test ?_) (by intro q;cases q)
   refine oV (s:={ s with heap:=h3,toks:=tk }) T O F1.fr.fn (C:=br) (fun mg h=>h.1) (by decide) hg H3 ?_
   refine gd.E Fl3 fun d vs sl a0 Tb oT ts x3 he z9 z9 z9 z9 z9 z9 z9 z9 z9=>?_
   refine wpAny_excMatches_sub_self (H3.hb _ _ c1) he rfl (by decide) ?_
   refine codeAny_handlers_suite_as (fX (s:={ s with heap:=h3,toks:=tk }) H3 R1 Fl3 fun h4 H4 Fl4=>?_)
   refine (F1.mark (h:=some (.ref e))).store (A2:=A.mark (some (.ref e))) (s:={ s with heap:=h4,toks:=tk }) (v:=.exc c y) isl hi H4 R1 (fun l q=>by cases q) fun h5 tk5 own5 H5 F5=>?_
   have hlen:∀ {A':Around} {g':Gh} {own':List (Addr×Obj)} {ρ':ck},fA A' g' own' oth0 env nm ρ'→i<ρ'.length:=fun F'=>by
    simp only [F'.fr.len];exact (List.getElem?_eq_some_iff.mp (gO hi)).1
   cases hx:fz X.C wn ph (ρ1.set i (some (.exc c y))) σ1 with
   | none=>rw [hx] at hr;exact cq hr
   | some rh=>
    rw [hx] at hr
    refine Jh e _ σ1 rh hx g1 own5 oth0 F5 { s with heap:=h5,toks:=tk5 } _ _ H5 ?_
    cases rh with
    | next ρ6 σ6=>
     obtain rfl:=Option.some.inj hr
     intro h6 tk6 g6 own6 k6 H6 F6
     exact F6.unmark.goes (s:={ s with heap:=h6,toks:=tk6 }) hl hi (hlen F6) H6 fun h7 tk7 own7 H7 F7=>P h7 tk7 g6 own7 (k1.trans k6) H7 F7
    | ret v ρ6 σ6=>
     obtain rfl:=Option.some.inj hr
     intro val h6 tk6 g6 own6 k6 H6 F6 R6
     exact F6.unmark.goes (s:={ s with heap:=h6,toks:=tk6 }) hl hi (hlen F6) H6 fun h7 tk7 own7 H7 F7=>P val h7 tk7 g6 own7 (k1.trans k6) H7 F7 R6
    | brk ρ6 σ6=>exact cq hr
    | exc v ρ6 σ6=>exact cq hr
end
end Mine.Internal
end
section
open PySem PySem.W PyProof.Rows PySem.Calls
set_option genCtorIdx false
namespace Mine.Internal
noncomputable def nj(env:Env):List (Str×NameKind)→List (Str×Addr)→List (Str×Addr)
 | [],cs=>cs
 | (n,k)::r,cs=>nj env r (if k == .free then (n,(env.cells.lookup n).getD 0)::cs else cs)
theorem rd{env:Env}{scope:Scope}(h:∀ y∈scope.names,y.2=.free→∃ c,env.cells.lookup y.1=some c):closureFor scope env=pure (nj env scope.names []):=by
 unfold closureFor
 have:∀ (l:List (Str×NameKind)) (cs:List (Str×Addr)),(∀ y∈l,y.2=.free→∃ c,env.cells.lookup y.1=some c)→(forIn l cs fun x cs=>match x with
   | (name,kind)=>if (kind == NameKind.free)=true then do let a←cellOf env name;pure (ForInStep.yield ((name,a)::cs)) else pure (ForInStep.yield cs):Sem (List (Str×Addr)))=pure (nj env l cs):=by
  intro l
  induction l with
  | nil=>intro cs _;rfl
  | cons x r ih=>
   intro cs hl
   obtain ⟨n,k⟩:=x
   simp only [List.forIn_cons]
   unfold nj
   by_cases hk:(k == NameKind.free)=true
   ·obtain ⟨c,hc⟩:=hl (n,k) (.head _) (by simpa using hk)
    have e1:cellOf env n=pure c:=by unfold cellOf;rw [hc]
    simp only [hk,if_true,e1,pure_bind,hc,Option.getD_some]
    exact ih _ fun y hy=>hl y (.tail _ hy)
   ·simp only [hk,if_false,Bool.false_eq_true,pure_bind]
    exact ih _ fun y hy=>hl y (.tail _ hy)
 have e:=this scope.names [] h
 simp only [e]
 rfl
set_option tactic.hygienic true in
theorem sF{env:Env}:∀ {l:List (Str×NameKind)} {cs:List (Str×Addr)} {y:Str} {c:Addr},(∀ y∈l,y.2=.free→∃ c,env.cells.lookup y.1=some c)→(∀ y c,(y,c)∈cs→env.cells.lookup y=some c)→(y,c)∈nj env l cs→env.cells.lookup y=some c
 | [],cs,y,c,_,h,m=>h y c m
 | (n,k)::r,cs,y,c,hl,h,m=>by
  refine sF (fun y hy=>hl y (.tail _ hy)) (fun y' c' m'=>?_) m
  split at m'
  ·rename_i hk
   refine Or.elim (List.mem_cons.mp m') (fun e=>?_) fun m'=>?_
   ·cases e
    refine ob_1_1 (hl (n,k) (.head _) (by simpa using hk)) fun c hc=>?_
    dsimp only at hc
    rw [hc];rfl
   ·exact h y' c' m'
  ·exact h y' c' m'
theorem sG{env:Env}:∀ {l:List (Str×NameKind)} {cs:List (Str×Addr)} {p:Str×Addr},p∈cs→p∈nj env l cs
 | [],_,_,h=>h
 | (n,k)::r,cs,p,h=>by
  unfold nj
  refine sG ?_
  split
  ·exact .tail _ h
  ·exact h
theorem o9{env:Env}:∀ {l:List (Str×NameKind)} {cs:List (Str×Addr)} {y:Str},(y,NameKind.free)∈l→∃ c,(y,c)∈nj env l cs
 | (n,k)::r,cs,y,h=>by
  unfold nj
  refine Or.elim (List.mem_cons.mp h) (fun e=>?_) fun h=>?_
  ·cases e
   exact ⟨_,sG (by rw [if_pos (show (NameKind.free == NameKind.free)=true from rfl)];exact .head _)⟩
  ·exact o9 h
structure CS (env:Env) (nm xs:List Str) (scope:Scope):Prop where
 kind:scope.kind=.function
 nocell:∀ y∈scope.names,y.2≠.cell
 loc1:∀ y∈scope.names,y.2=.local→scope.names.lookup y.1=some .local
 bound:∀ x∈xs,scope.names.lookup x=some .local
 other:∀ y,scope.names.lookup y=some .local→y∈xs∨bD nm y=none
 free:∀ y∈scope.names,y.2=.free→env.kindOf y.1=some .cell
 ok:∀ x∈xs,fV x
theorem kX{env:Env}{y:Str}:∀ {names:List (Str×NameKind)},(names.map fun (n,k)=>if (k == NameKind.free&&env.scope.kind == .function&&env.kindOf n == some .cell) then (n,NameKind.cell) else (n,k)).lookup y =
  (names.lookup y).map fun k=>if (k == NameKind.free&&env.scope.kind == .function&&env.kindOf y == some .cell) then NameKind.cell else k
 | []=>rfl
 | (n,k)::r=>by
  have ih:=@kX env y r
  refine (?_:List.lookup y ((if (k == NameKind.free&&env.scope.kind == .function&&env.kindOf n == some .cell)=true then (n,NameKind.cell) else (n,k))::_)=_)
  cases hx:y == n with
  | true=>
   have:y=n:=by simpa using hx
   subst this
   by_cases hc:(k == NameKind.free&&env.scope.kind == .function&&env.kindOf y == some .cell)=true
   ·rw [if_pos hc,List.lookup_cons,List.lookup_cons,hx];simp only [Option.map_some];rw [if_pos hc]
   ·rw [if_neg hc,List.lookup_cons,List.lookup_cons,hx];simp only [Option.map_some];rw [if_neg hc]
  | false=>
   by_cases hc:(k == NameKind.free&&env.scope.kind == .function&&env.kindOf n == some .cell)=true
   ·rw [if_pos hc];simp only [List.lookup_cons,hx];exact ih
   ·rw [if_neg hc];simp only [List.lookup_cons,hx];exact ih
theorem nG{y:Str}:∀ (xs:List Str) (n:Nat) (r:Option Nat) (i:Nat),y∈xs→gL y n xs r=some i→n≤i∧xs[i-n]?=some y
 | x::xs,n,r,i,hm,h=>by
  by_cases q:y∈xs
  ·obtain ⟨a,b⟩:=nG xs (n+1) _ i q h
   exact ⟨by lia,by simp only [show i-n=(i-(n+1))+1 by lia];simpa using b⟩
  ·rcases List.mem_cons.mp hm with e | m
   ·subst e
    rcases jK xs (n+1) _ i h with z | ⟨z1,z2⟩
    ·rw [if_pos rfl] at z;obtain rfl:=Option.some.inj z;exact ⟨Nat.le_refl _,by simp⟩
    ·exact absurd (List.mem_of_getElem? z2) q
   ·exact absurd m q
theorem nH{y:Str}:∀ (as bs:List Str) (n:Nat) (r:Option Nat),gL y n (as++bs) r=gL y (n+as.length) bs (gL y n as r)
 | [],bs,n,r=>by simp [gL]
 | a::as,bs,n,r=>by
  simp only [List.cons_append,gL,List.length_cons]
  simp only [nH as bs (n+1)]
  congr 1;lia
theorem Ba{nm xs:List Str}{y:Str}{i:Nat}(h:bD (nm++xs) y=some i):(y∉xs∧bD nm y=some i)∨(nm.length≤i∧xs[i-nm.length]?=some y):=by
 unfold bD at h
 rw [nH,Nat.zero_add] at h
 by_cases q:y∈xs
 ·exact .inr (nG xs _ _ i q h)
 ·rcases jK xs _ _ i h with z | ⟨_,z2⟩
  ·exact .inl ⟨q,z⟩
  ·exact absurd (List.mem_of_getElem? z2) q
section
variable {X:Cx} {A:Around} {env:Env} {nm:List Str} {g g':Gh} {oth oth':List (Addr×Obj)} {σ:St} {s:Shared} {ρ:ck} {scope:Scope} {C:Addr} {xs:List Str}
noncomputable abbrev eG(env:Env)(scope:Scope)(C:Addr):Env:=compEnvC scope (nj env scope.names []) C env
theorem CS.cells(S:CS env nm xs scope)(F:eV A g oth env nm ρ):∀ y∈scope.names,y.2=.free→∃ c,env.cells.lookup y.1=some c:=fun y hy hf=>F.cel y.1 (S.free y hy hf)
theorem gq(S:CS env nm xs scope)(hk:env.scope.kind=.function)(y:Str):(eG env scope C).kindOf y=(scope.names.lookup y).map fun k=>if k=NameKind.free then NameKind.cell else k:=by
 refine (?_:(relabel scope env).names.lookup y=_)
 unfold relabel
 simp only [kX]
 refine fH (scope.names.lookup y) (fun hl=>?_) fun k hl=>?_
 ·rw [hl];rfl
 ·rw [hl];skip
  simp only [Option.map_some]
  by_cases q:k=NameKind.free
  ·subst q
   have:=S.free (y,.free) (mem_of_lookup hl) rfl
   dsimp only at this
   simp [this,hk]
  ·simp [q]
theorem ui(S:CS env nm xs scope)(hk:env.scope.kind=.function){y:Str}(h:bt scope.names y=true):bt (eG env scope C).scope.names y=true:=by
 unfold bt at h ⊢
 rw [bA] at h ⊢
 have:=gq (C:=C) S hk y
 change (eG env scope C).scope.names.lookup y=_ at this
 rw [this]
 refine fH (scope.names.lookup y) (fun hl=>?_) fun k hl=>?_
 ·rw [hl];rw [hl] at h;cases h
 ·rw [hl];rw [hl] at h;cases k<;>first | rfl | cases h
theorem sH(S:CS env nm xs scope)(hk:env.scope.kind=.function){y:Str}(h:bz scope.names y=true):bz (eG env scope C).scope.names y=true:=by
 unfold bz at h ⊢
 rw [bA] at h ⊢
 have:=gq (C:=C) S hk y
 change (eG env scope C).scope.names.lookup y=_ at this
 rw [this]
 refine fH (scope.names.lookup y) (fun hl=>?_) fun k hl=>?_
 ·rw [hl];rw [hl] at h;cases h
 ·rw [hl];rw [hl] at h;cases k<;>first | rfl | cases h
set_option tactic.hygienic true in
theorem oh(O:dI env):dI (eG env scope C):=⟨O.g,O.b,fun x hx=>by
 unfold bz at hx
 rw [bA] at hx
 refine (?_:(eG env scope C).scope.names.lookup x=_)
 split at hx
 ·rename_i q;exact q
 ·exact j9 hx⟩
set_option tactic.hygienic true in
theorem vu(F:eV A g oth env nm ρ)(S:CS env nm xs scope)(hs:∀ p∈oth,p∈oth'){oC:Obj}{es:Array DictEntry}{ep:Nat}(hC:(C,oC)∈oth')(hd:oC.data=.dict es ep)(hk:StrKeys es){vs:List V}
  (hx:∀ (k:Nat) (x:Str),xs[k]?=some x→∃ val v,nsFind es x=some val∧vs[k]?=some v∧VR g val v) (hl:vs.length=xs.length):eV A g oth' (eG env scope C) (nm++xs) (ρ++vs.map some):=by
 have cl:=S.cells F
 refine ⟨S.kind,by simp [F.len,hl],F.fr.sub hs,F.top,fun x hxk=>?_,fun y i v hi hly hv=>?_⟩
 ·rw [gq S F.fn] at hxk
  refine ob_1_2 (Option.map_eq_some_iff.mp hxk) fun k h1 h2=>?_
  split at h2
  ·rename_i q
   subst q
   obtain ⟨c,hc⟩:=o9 (env:=env) (cs:=[]) (mem_of_lookup h1)
   exact fK hc
  ·exact absurd h2 (S.nocell _ (mem_of_lookup h1))
 ·rcases Ba hi with ⟨h1,h2⟩ | ⟨h1,h2⟩
  ·have hlt:i<ρ.length:=by simp only [F.len];exact (List.getElem?_eq_some_iff.mp (gO h2)).1
   rw [List.getElem?_append_left hlt] at hv
   have hkd:=gq (C:=C) S F.fn y
   have isl:=mA hly
   rw [hkd] at isl
   refine fH (scope.names.lookup y) (fun hlk=>?_) fun k hlk=>?_
   ·rw [hlk] at isl;simp at isl
   ·skip
    by_cases q:k=.free
    ·subst q
     have hm:=mem_of_lookup hlk
     have kc:=S.free _ hm rfl
     dsimp only at kc
     have isy:bt env.scope.names y=true:=by
      unfold bt
      simp only [bA,show env.scope.names.lookup y=some .cell from kc]
     obtain ⟨ok,val,n,R⟩:=F.has y i v h2 isy hv
     refine ⟨ok,val,?_,by cases v<;>first | exact R | exact gl.sub R hs⟩
     refine Or.elim n (fun ho185_0=>?_) fun ho185_1=>?_
     ·obtain ⟨p1,_⟩:=ho185_0
      rw [kc] at p1;cases p1
     ·obtain ⟨p1,c,ob,p2,p3,p4⟩:=ho185_1
      obtain ⟨c',hc'⟩:=o9 (env:=env) (cs:=[]) hm
      refine ob_1_1 (fK hc') fun c'' hc''=>?_
      have:=sF (cs:=[]) cl (fun z9 z9 q=>nomatch q) (mem_of_lookup hc'')
      rw [p2] at this;obtain rfl:=Option.some.inj this
      refine .inr ⟨.inl ?_,c,ob,hc'',hs _ p3,p4⟩
      simp only [hkd,hlk];rfl
    ·rw [hlk] at isl
     simp only [Option.map_some,if_neg q] at isl
     rcases isl with z | z | z
     ·obtain rfl:=Option.some.inj z
      refine Or.elim (S.other y hlk) (fun w=>?_) fun w=>?_
      ·exact absurd w h1
      ·rw [h2] at w;exact Gv w
     ·obtain rfl:=Option.some.inj z;exact absurd rfl (S.nocell _ (mem_of_lookup hlk))
     ·obtain rfl:=Option.some.inj z;exact absurd rfl q
  ·have hm:=List.mem_of_getElem? h2
   rw [List.getElem?_append_right (by rw [F.len];exact h1),F.len] at hv
   refine ob_2_3 (hx _ _ h2) fun val v' n1 n2 R=>?_
   have:v=v':=by rw [List.getElem?_map,n2] at hv;simpa using hv.symm
   subst this
   refine ⟨S.ok y hm,val,.inl ⟨?_,oC,hC,es,ep,hd,hk,n1⟩,R.lr⟩
   rw [gq S F.fn,S.bound y hm];rfl
end
end Mine.Internal
end
section
open PySem PySem.W PyProof.Rows PySem.Calls
set_option genCtorIdx false
namespace Mine.Internal
noncomputable def DL(X:Cx)(g:Gh)(o:Obj)(vs:List Value)(dn:List V):Prop:=o.cls=.type "list"∧o.dict=none∧(∃ n,o.data=.seq vs.toArray n)∧eC g vs dn
noncomputable def DC(o:Obj):Prop:=o.cls=.type "dict"∧∃ es ep,o.data=.dict es ep∧StrKeys es
noncomputable def DX(o:Obj)(x:Str)(val:Value):Prop:=o.cls=.type "dict"∧∃ es ep,o.data=.dict es ep∧StrKeys es∧nsFind es x=some val
theorem DX.dc{o:Obj}{x:Str}{val:Value}(h:DX o x val):DC o:=let ⟨a,es,ep,b,c,_⟩:=h;⟨a,es,ep,b,c⟩
section
variable {C:V→St→cR Bool} {f:V→St→cR V} {f2:V→St→cR (List V)} {v:V} {l:List V} {σ:St} {dn:List V} {β:Type} {K:List V→St→cR β} {r:jE β}
theorem Cw{x:cR (List V)}{y:V}(h:(x.bind fun xs σ=>bv (y::xs) σ).bind (fun xs σ=>K (dn++xs) σ)=some r):x.bind (fun xs σ=>K (dn++[y]++xs) σ)=some r:=
 (congrArg (cR.bind x) (funext fun xs=>funext fun σ=>congrArg (K · σ) (List.append_cons dn y xs).symm)).trans ((er ..).symm.trans h)
theorem DJ(h:(gK f (v::l) σ).bind (fun xs σ=>K (dn++xs) σ)=some r){G:Prop}(k1:∀ w s',f v σ=some (.exc w s')→r=.exc w s'→G)
  (k2:∀ y s',f v σ=some (.ok y s')→(gK f l s').bind (fun xs σ=>K (dn++[y]++xs) σ)=some r→G):G:=
 rQ ((er (f v σ) _ _).symm.trans h) k1 fun y s' e h=>k2 y s' e (Cw h)
theorem Bb(h:(gI C f (v::l) σ).bind (fun xs σ=>K (dn++xs) σ)=some r){G:Prop}(k1:∀ w s',C v σ=some (.exc w s')→r=.exc w s'→G)
  (k2:∀ s',C v σ=some (.ok false s')→(gI C f l s').bind (fun xs σ=>K (dn++xs) σ)=some r→G) (k3:∀ s' w s'',C v σ=some (.ok true s')→f v s'=some (.exc w s'')→r=.exc w s''→G)
  (k4:∀ s' y s'',C v σ=some (.ok true s')→f v s'=some (.ok y s'')→(gI C f l s'').bind (fun xs σ=>K (dn++[y]++xs) σ)=some r→G):G:=by
 refine rQ ((er (C v σ) _ _).symm.trans h) k1 fun b s' e h=>?_
 cases b with
 | false=>exact k2 s' e h
 | true=>exact rQ ((er (f v s') _ _).symm.trans h) (fun w s''=>k3 s' w s'' e) fun y s'' e2 h=>k4 s' y s'' e e2 (Cw h)
theorem Bc(h:(kA f2 (v::l) σ).bind (fun ys σ=>K (dn++ys) σ)=some r):(f2 v σ).bind (fun xs σ=>(kA f2 l σ).bind fun ys σ=>K (dn++xs++ys) σ)=some r:=
 Eq.trans (congrArg (cR.bind (f2 v σ)) (funext fun xs=>funext fun σ=>(congrArg (cR.bind (kA f2 l σ)) (funext fun ys=>funext fun σ=>congrArg (K · σ) (List.append_assoc dn xs ys))).trans (er (kA f2 l σ) (fun zs σ=>bv (xs++zs) σ) (fun ys σ=>K (dn++ys) σ)).symm)) ((er (f2 v σ) _ _).symm.trans h)
end
section
variable {X:Cx} {A:Around} {env:Env} {nm:List Str} {g g':Gh} {oth oth':List (Addr×Obj)} {σ:St} {s:Shared} {ρ:ck} {scope:Scope} {C D I0:Addr} {rest:List (Addr×Obj)}
noncomputable def Cy(X:Cx)(A:Around)(env:Env)(nm:List Str)(ifs:List Expr)(pc:PE):Prop:=(ifs=[]∧pc=.bool true)∨∃ c,ifs=[c]∧JT X A env nm c pc
theorem mC{ifs:List Expr}{pc:PE}(J:Cy X A env nm ifs pc){rt:jE Bool}(hr:fw X.C ρ pc σ=some rt)(F:eV A g oth env nm ρ)(H:HI X.w X.base g oth σ s.heap){Q:Bool→Shared→Prop}{E:Value→Shared→Prop}(P:jH X g oth s Q E rt) :
  wpAny X.M A (forIn ifs true fun c r=>if r=true then do let ok←isTrue c env (eval c env);pure (ForInStep.yield ok) else pure (ForInStep.yield r)) Q E s:=by
 rcases J with ⟨rfl,rfl⟩ | ⟨c,rfl,J⟩
 ·obtain rfl:=Option.some.inj hr
  exact wpAny_tests_nil (P s.heap s.toks g (.refl g) H)
 ·exact wpAny_tests_one (J ρ σ rt hr g oth F s Q E H P)
theorem nk(hh:A.handled=none){pre post:List (Addr×Obj)}{o:Obj}{src:V}{i:Nat}{l:List V}(IR:lL g src i o)(hl:eZ σ src=some l)(H:HI X.w X.base g (pre++(I0,o)::post) σ s.heap)(hi:i≤l.length){Q:Option Value→Shared→Prop}{E:Value→Shared→Prop}
  (k0:l.length=i→l.drop i=[]→∀ h,HI X.w X.base g (pre++post) σ h→Q none { s with heap:=h })
  (k1:∀ v,i<l.length→l.drop i=v::l.drop (i+1)→∀ val h tk o',HI X.w X.base g (pre++(I0,o')::post) σ h→lL g src (i+1) o'→VR g val v→Q (some val) { s with heap:=h,toks:=tk }):wpAny X.M A (pyNext (.ref I0)) Q E s:=by
 by_cases hlt:i<l.length
 ·exact qj IR hl (List.getElem?_eq_getElem hlt) H fun val h tk o'=>k1 _ hlt (List.drop_eq_getElem_cons hlt) val h tk o'
 ·have e:l.length=i:=Nat.le_antisymm (Nat.not_lt.mp hlt) hi
  exact sm hh IR hl e H (k0 e (List.drop_eq_nil_of_le (Nat.le_of_eq e)))
theorem o_(F:eV A g oth env nm ρ)(hsub:∀ p∈oth,p∈rest){R:Result→Shared→Prop}{v:V}{e:Addr}{tk:Tok}{h:Heap}{oD oC oI:Obj}(H:HI X.w X.base g' ((D,oD)::(C,oC)::(I0,oI)::rest) σ h)(Rv:VR g' (.ref e) v)(Fl:kD X.base e h)
  (k:∀ h3,HI X.w X.base g' ((D,oD)::(C,oC)::rest) σ h3→gd X.base e h3→R (.error (.ref e)) { s with heap:=h3,toks:=tk }):notedBy X.M A (eG env scope C) (fun e s'=>R (.error e) s') (.ref e) { s with heap:=h,toks:=tk }:=by
 have topC:Gy A (eG env scope C):=F.top
 refine (?_:wpAny X.M A (noteFrame (.ref e) (eG env scope C)) _ _ _)
 exact vn (s:={ s with heap:=h,toks:=tk }) H (F.fr.sub fun p hp=>.tail _ (.tail _ (.tail _ (hsub p hp)))) topC Rv Fl fun h3 H3 F3=>k h3 (H3.dropMid (pre:=[(D,oD),(C,oC)])) F3
theorem nI(F:eV A g oth env nm ρ)(k1:g.le g'){x:Str}(S:CS env nm [x] scope)(hsub:∀ p∈oth,p∈rest){px:Pos}{oD oC oI:Obj}(H:HI X.w X.base g' ((D,oD)::(C,oC)::(I0,oI)::rest) σ s.heap)(hC:DC oC){val:Value}{v:V}(Rv:VR g' val v){Q:Unit→Shared→Prop}{E:Value→Shared→Prop}
  (k:∀ h tk oC',HI X.w X.base g' ((D,oD)::(C,oC')::(I0,oI)::rest) σ h→DX oC' x val→eV A g' ((D,oD)::(C,oC')::(I0,oI)::rest) (eG env scope C) (nm++[x]) (ρ++[some v])→Q () { s with heap:=h,toks:=tk }):wpAny X.M A (assign (.Name x px) (eG env scope C) val) Q E s:=by
 refine bC hC fun cC q=>ob_2_2 q fun es ep dC kC=>?_
 refine wpAny_assign_Name (o5 (env:=eG env scope C) (pre:=[(D,oD)]) S.kind ?_ H dC kC fun h3 tk3 oC3 es3 ep3 H3 c1 c2 c3 c4=>?_)
 ·rw [gq S F.fn,S.bound x (.head _)];rfl
 ·have fx:=(c4 x).trans (if_pos rfl)
  refine k h3 tk3 oC3 H3 ⟨c1.trans cC,es3,ep3,c2,c3,fx⟩ ?_
  refine vu (vs:=[v]) (F.mono k1) S (fun p hp=>.tail _ (.tail _ (.tail _ (hsub p hp)))) (.tail _ (.head _)) c2 c3 (fun k y hy=>?_) rfl
  cases k with
  | zero=>exact Option.some.inj hy▸(ib_2_3 val v fx rfl Rv)
  | succ k=>exact cq hy
theorem vA{oD:Obj}{vs:List Value}{dn:List V}(H:HI X.w X.base g' ((D,oD)::rest) σ s.heap)(hD:DL X g oD vs dn)(k1:g.le g')(hlt:vs.length≤sizeLine){val:Value}{y:V}(Rv:VR g' val y){A2:Around}{Q:Value→Shared→Prop}{E:Value→Shared→Prop}
  (k:∀ h oD',HI X.w X.base g' ((D,oD')::rest) σ h→DL X g' oD' (vs++[val]) (dn++[y])→Q .none { s with heap:=h }):wpAny X.M A2 (call (.builtin "list.append") [.ref D,val]) Q E s:=by
 refine oq hD fun d1 d2 hd d4=>hd.elim fun nD d3=>?_
 refine l6 (H.hex (D,oD) (.head _) (by show oD.cls≠_;rw [d1];decide)) d1 d3 (List.size_toArray ..▸hlt) fun h6 hs6 e6=>(Obj.data_mapSeq d3 (·.push val)).elim fun m3 hd3=>?_
 have c6:=(Obj.cls_mapSeq oD (·.push val)).trans d1
 exact k h6 _ (H.setOth (pre:=[]) hs6 ⟨_,e6⟩ (bV c6 (by decide)) fun z9=>e6) ⟨c6,fQ d3 d2,⟨m3,hd3.trans (by simp)⟩,(d4.mono k1).append (.one Rv)⟩
theorem DL.mono{o:Obj}{vs:List Value}{dn:List V}(k:g.le g')(h:DL X g o vs dn):DL X g' o vs dn:=⟨h.1,h.2.1,h.2.2.1,h.2.2.2.mono k⟩
inductive CI (X:Cx) (g:Gh) (C D I0:Addr) (rest:List (Addr×Obj)) (s:Shared) (PC:Obj→Prop) (src:V) (l:List V) (B:Nat→Nat) (L:List V→List V→St→Prop):Nat→Shared→Prop
 | mk {i:Nat} {σ:St} {h:Heap} {tk:Tok} {g1:Gh} {oD oC oI:Obj} {vs:List Value} {dn:List V}:g.le g1→HI X.w X.base g1 ((D,oD)::(C,oC)::(I0,oI)::rest) σ h→DL X g1 oD vs dn→vs.length≤B i→PC oC→lL g1 src i oI→eZ σ src=some l→L (l.drop i) dn σ→i≤l.length→
   CI X g C D I0 rest s PC src l B L (l.length-i) { s with heap:=h,toks:=tk }
theorem CI.next{PC:Obj→Prop}{src:V}{l:List V}{B:Nat→Nat}{L:List V→List V→St→Prop}{i:Nat}{σ:St}{h:Heap}{tk:Tok}{g1:Gh}{oD oC oI:Obj}{vs:List Value}{dn:List V}(k:g.le g1)(H:HI X.w X.base g1 ((D,oD)::(C,oC)::(I0,oI)::rest) σ h)(hD:DL X g1 oD vs dn)(hv:vs.length≤B (i+1))(hC:PC oC)
  (I:lL g1 src (i+1) oI) (hl:eZ σ src=some l) (hL:L (l.drop (i+1)) dn σ) (hi:i<l.length):∃ m,m<l.length-i∧CI X g C D I0 rest s PC src l B L m { s with heap:=h,toks:=tk }:=
 (ib_1_2 (l.length-(i+1)) (Nat.sub_lt_sub_left hi (Nat.lt_succ_self i)) (.mk k H hD hv hC I hl hL hi))
theorem sI{α:Type}{l:List α}{a:α}{n:Nat}(h:l.length≤n):(l++[a]).length≤n+1:=List.length_append▸Nat.add_le_add_right h 1
theorem uj{src:V}{σ':St}{l:List V}(hl:eZ σ src=some l)(h:isRef src=true→σ'=σ):eZ σ' src=some l:=by
 cases src with
 | ref n0=>exact h rfl▸hl
 | _=>exact hl
theorem wH(hh:A.handled=none)(F:eV A g oth env nm ρ){x:Str}(S:CS env nm [x] scope){elt iter:Expr}{ifs:List Expr}{px pos:Pos}{pe pc:PE}(Je:JE X A (eG env scope C) (nm++[x]) elt pe)(Jc:Cy X A (eG env scope C) (nm++[x]) ifs pc)
  {src:V} {l:List V} (hl:eZ σ src=some l) (hp:isRef src=true→gW pe=true∧kQ pc=true) (hsz:l.length≤sizeLine) {oD oC oI:Obj} (H:HI X.w X.base g ((D,oD)::(C,oC)::(I0,oI)::oth) σ s.heap) (hD:DL X g oD [] []) (hC:DC oC) (IR:lL g src 0 oI)
  {r:jE V} (hr:(gI (fun v σ=>fw X.C (ρ++[some v]) pc σ) (fun v σ=>ev X.C (ρ++[some v]) pe σ) l σ).bind (fun vs σ=>bv (.lst vs) σ)=some r) {R:Result→Shared→Prop}
  (kok:∀ σ' dn,r=.ok (.lst dn) σ'→∀ h tk g' oD oC vs,g.le g'→HI X.w X.base g' ((D,oD)::(C,oC)::oth) σ' h→DL X g' oD vs dn→vs.length≤sizeLine→DC oC→R (.ok .next) { s with heap:=h,toks:=tk })
  (kexc:∀ v σ',r=.exc v σ'→∀ e h tk g' oD oC,g.le g'→HI X.w X.base g' ((D,oD)::(C,oC)::oth) σ' h→DC oC→VR g' (.ref e) v→gd X.base e h→R (.error (.ref e)) { s with heap:=h,toks:=tk }) :
  codeAny X.M A (.compLoop (.ListComp elt [⟨.Name x px,iter,ifs,0⟩] scope pos) 0 (.ref I0) (.ref D) (eG env scope C)) R s:=by
 refine codeAny_compLoop_tests (CI X g C D I0 oth s DC src l id fun l' dn σ=>(gI (fun v σ=>fw X.C (ρ++[some v]) pc σ) (fun v σ=>ev X.C (ρ++[some v]) pe σ) l' σ).bind (fun vs σ=>bv (.lst (dn++vs)) σ)=some r) (fun n s' I=>?_) _ (.mk (.refl g) H hD (Nat.le_refl 0) hC IR hl hr (Nat.zero_le _))
 cases I with
 | @mk i σ1 h tk g1 oD1 oC1 oI1 vs dn k1 H1 hD1 hvi hC1 IR1 hl1 hr1 hi=>
  refine nk (s:={ s with heap:=h,toks:=tk }) (pre:=[(D,oD1),(C,oC1)]) hh IR1 hl1 H1 hi (fun e hd h2 H2=>?_) fun v hlt hd val h2 tk2 oI2 H2 IR2 R2=>?_
  ·refine kok σ1 dn ?_ h2 tk g1 oD1 oC1 vs k1 H2 hD1 (Nat.le_trans hvi (Nat.le_trans hi hsz)) hC1
   rw [hd] at hr1
   exact (Option.some.inj ((congrArg (fun z=>bv (V.lst z) σ1) (List.append_nil dn)).symm.trans hr1)).symm
  ·have exc:∀ {w:V} {σ':St} {e:Addr} {h2:Heap} {tk2:Tok} {g2:Gh} {oD2 oC2 oI2:Obj},r=.exc w σ'→g1.le g2→HI X.w X.base g2 ((D,oD2)::(C,oC2)::(I0,oI2)::oth) σ' h2→DC oC2→VR g2 (.ref e) w→kD X.base e h2→
     notedBy X.M A (eG env scope C) (fun e s'=>R (.error e) s') (.ref e) { s with heap:=h2,toks:=tk2 }:=fun q k2 H2 hC2 R2 Fl=>o_ F (fun z9 hp=>hp) H2 R2 Fl fun h3 H3 F3=>kexc _ _ q _ h3 _ _ _ _ (k1.trans k2) H3 hC2 R2 F3
   refine nI (s:={ s with heap:=h2,toks:=tk2 }) F k1 S (fun z9 hp=>hp) H2 hC1 R2 fun h3 tk3 oC3 H3 hC3 F3=>?_
   have hl4:∀ {σ'},(isRef src=true→σ'=σ1)→eZ σ' src=some l:=uj hl1
   rw [hd] at hr1
   refine Bb (K:=fun z σ=>bv (V.lst z) σ) hr1 (fun w s' e1 e2=>?_) (fun s' e1 hr2=>?_) (fun s' w s'' e1 e2 e3=>?_) fun s' y s'' e1 e2 hr2=>?_
   ·exact mC (s:={ s with heap:=h3,toks:=tk3 }) Jc e1 F3 H3 fun e h4 tk4 g4 k4 H4 R4 Fl=>exc e2 k4 H4 hC3.dc R4 Fl
   ·refine mC (s:={ s with heap:=h3,toks:=tk3 }) Jc e1 F3 H3 fun h4 tk4 g4 k4 H4=>?_
    exact CI.next (k1.trans k4) H4 (hD1.mono k4) (Nat.le_succ_of_le hvi) hC3.dc (IR2.mono k4) (hl4 fun q=>oB pc (hp q).2 _ _ e1) hr2 hlt
   ·refine mC (s:={ s with heap:=h3,toks:=tk3 }) Jc e1 F3 H3 fun h4 tk4 g4 k4 H4=>?_
    exact Je _ s' _ e2 g4 _ (F3.mono k4) { s with heap:=h4,toks:=tk4 } _ _ H4 fun e h5 tk5 g5 k5 H5 R5 Fl=>exc e3 (k4.trans k5) H5 hC3.dc R5 Fl
   ·refine mC (s:={ s with heap:=h3,toks:=tk3 }) Jc e1 F3 H3 fun h4 tk4 g4 k4 H4=>?_
    refine Je _ s' _ e2 g4 _ (F3.mono k4) { s with heap:=h4,toks:=tk4 } _ _ H4 fun valy h5 tk5 g5 k5 H5 R5=>?_
    refine vA (s:={ s with heap:=h5,toks:=tk5 }) H5 hD1 (k4.trans k5) (Nat.le_trans hvi (Nat.le_trans hi hsz)) R5 fun h6 oD6 H6 hD6=>?_
    exact CI.next ((k1.trans k4).trans k5) H6 hD6 (sI hvi) hC3.dc ((IR2.mono k4).mono k5) (hl4 fun q=>(mv pe (hp q).1 _ _ e2).trans (oB pc (hp q).2 _ _ e1)) hr2 hlt
end
end Mine.Internal
end
section
open PySem PySem.W PyProof.Rows PySem.Calls
namespace Mine.Internal
section
variable {X:Cx} {A:Around} {wn:Nat} {env:Env} {nm:List Str} {g g':Gh} {own oth0 oth oth':List (Addr×Obj)} {σ:St} {s:Shared} {ρ:ck} {scope:Scope} {C D I0:Addr} {fns:List (Str×Nat)}
theorem nq{src:V}{i:Nat}{o:Obj}(IR:lL g src i o)(e:s.heap.get? I0=some o){Q:Value→Shared→Prop}{E:Value→Shared→Prop}(h:Q (.ref I0) s):wpAny X.M A (pyIter (.ref I0)) Q E s:=by
 cases IR with
 | lst a b c=>exact wpAny_pyIter_listiter ⟨o,e,b,c⟩ h
 | ref a b c=>exact wpAny_pyIter_listiter ⟨o,e,b,c⟩ h
 | tup a b c=>exact wpAny_pyIter_tupleiter (ib_1_3 o e b c) h
 | strA a b=>exact wpAny_pyIter_striter_ascii (ib_1_3 o e a b) h
 | strW a b=>exact wpAny_pyIter_striter_wide (ib_1_3 o e a b) h
 | rng=>exact wpAny_pyIter_rangeiter e h
theorem DC.ns{oC:Obj}(h:DC oC){hp:Heap}(e:hp.get? C=some oC):∃ m,hp.Ns C m:=by
 obtain ⟨_,es,ep,h1,h2⟩:=h
 exact (ib_4_4 _ oC es ep e h1 h2 (fun z9=>rfl))
theorem gd.but{base:Heap}{e:Addr}{h h':Heap}{oC:Obj}(F:gd base e h)(hc:h.get? C=some oC)(hC:DC oC)(hs:Heap.SameBut C h h'):gd base e h':=by
 refine gd.E F fun d vs sl a0 T oT ts x h1 h2 h3 h4 h5 h6 h7 h8 h9 h10=>?_
 refine ⟨d,vs,sl,a0,T,oT,ts,x,(hs.2 _ fun q=>?_).trans h1,h2,h3,h4,h5,h6,(hs.2 _ fun q=>?_).trans h7,h8,h9,h10⟩
 ·subst q;rw [hc] at h1;obtain rfl:=Option.some.inj h1;have:=hC.1;cases this
 ·subst q;rw [hc] at h7;obtain rfl:=Option.some.inj h7;rw [hC.1] at h8;exact absurd h8 (by decide)
theorem nJ{α:Type}{what:String}{cenv:Env}{e:Addr}{v:V}(H:HI X.w X.base g oth σ s.heap)(R:VR g (.ref e) v)(F:gd X.base e s.heap){Q:α→Shared→Prop}{E:Value→Shared→Prop}
  (P:∀ h',HI X.w X.base g oth σ h'→gd X.base e h'→E (.ref e) { s with heap:=h' }):wpAny X.M A (PySem.passOn what (.ref e) cenv:Sem α) Q E s:=by
 refine gd.E F fun d vs sl a0 T oT ts x3 he ha hsz h1 hnT hTe hT hcT hdT h3=>?_
 refine wpAny_bind (wpAny_field he rfl h1 ?_)
 first
  | exact wpAny_bind (wpAny_pure (wpAny_bind (fX H R F fun h2 H2 F2=>wpAny_throw (P h2 H2 F2))))
  | exact wpAny_bind (fX H R F fun h2 H2 F2=>wpAny_throw (P h2 H2 F2))
theorem sJ(hh:A.handled=none)(F:eV A g oth env nm ρ){x:Str}(S:CS env nm [x] scope){elt iter:Expr}{ifs:List Expr}{px pos:Pos}{pe pc:PE}(Je:∀ C,JE X A (eG env scope C) (nm++[x]) elt pe)(Jc:∀ C,Cy X A (eG env scope C) (nm++[x]) ifs pc)
  {src:V} {l:List V} (hl:eZ σ src=some l) (hp:isRef src=true→gW pe=true∧kQ pc=true) (hsz:l.length≤sizeLine) {oI:Obj} (H:HI X.w X.base g ((I0,oI)::oth) σ s.heap) (IR:lL g src 0 oI)
  {r:jE V} (hr:(gI (fun v σ=>fw X.C (ρ++[some v]) pc σ) (fun v σ=>ev X.C (ρ++[some v]) pe σ) l σ).bind (fun vs σ=>bv (.lst vs) σ)=some r) {use:Option (Value→Sem Unit)} {Q E:Value→Shared→Prop}
  (PE:∀ v σ',r=.exc v σ'→∀ e h tk g',g.le g'→HI X.w X.base g' oth σ' h→VR g' (.ref e) v→kD X.base e h→E (.ref e) { s with heap:=h,toks:=tk })
  (kok:∀ σ' dn,r=.ok (.lst dn) σ'→∀ D C h tk g' oC,g.le g'→HI X.w X.base g' ((C,oC)::oth) σ' h→VR g' (.ref D) (.lst dn)→DC oC→compPost X.M A E use Q (.ref D) C (.ok .next) { s with heap:=h,toks:=tk }) :
  wpAny X.M A (newList []) (fun acc s₃=>wpAny X.M A (newFunctionEnv scope env.globals (nj env scope.names []) [] env.qual none .none (some env)) (fun cenv s₄=>
   codeAny X.M A (.compStart (.ListComp elt [⟨.Name x px,iter,ifs,0⟩] scope pos) 0 (.ref I0) acc { cenv with scope:=relabel scope env }) (compPost X.M A E use Q acc cenv.locals) s₄) E s₃) E s:=by
 refine wpAny_newObj_type ?_
 have H1:=H.pushOth (o:=({ cls:=.type "list",data:=.seq ([]:List Value).toArray }:Obj)) rfl (bV rfl (by decide))
 simp only [newFunctionEnv,Option.isSome_some,if_true]
 refine wpAny_bind (wpAny_alloc ?_)
 rw [forIn_yield_id (nj env scope.names []) (fun y hy c=>by
  obtain ⟨name,kind⟩:=y
  have:(kind == NameKind.cell)=false:=by simpa using S.nocell _ hy
  simp only [this,Bool.false_eq_true,if_false])]
 refine wpAny_bind (wpAny_pure (wpAny_bind ?_))
 refine wpAny_pure (wpAny_pure ?_)
 have H2:=H1.pushOth (o:=({ cls:=.type "dict",data:=.dict #[] }:Obj)) rfl (bV rfl (by decide))
 generalize hC:(s.heap.push { cls:=.type "list",data:=.seq ([]:List Value).toArray }).objs.size=C at H2
 generalize hh2:(s.heap.push { cls:=.type "list",data:=.seq ([]:List Value).toArray }).push { cls:=.type "dict",data:=.dict #[] }=h2 at H2
 have H3:HI X.w X.base g ((s.heap.objs.size,{ cls:=.type "list",data:=.seq ([]:List Value).toArray })::(C,{ cls:=.type "dict",data:=.dict #[] })::(I0,oI)::oth) σ h2:=H2.perm (List.Perm.swap ..)
 have loop:codeAny X.M A (.compLoop (.ListComp elt [⟨.Name x px,iter,ifs,0⟩] scope pos) 0 (.ref I0) (.ref s.heap.objs.size) (eG env scope C)) (compPost X.M A E use Q (.ref s.heap.objs.size) C) { s with heap:=h2 }:=by
  refine wH (s:={ s with heap:=h2 }) hh F S (Je C) (Jc C) hl hp hsz H3 ⟨rfl,rfl,⟨0,rfl⟩,.nil⟩ ⟨rfl,_,_,rfl,fun e he=>by simp at he⟩ IR hr ?_ ?_
  ·intro σ' dn q h tk g' oD oC vs k' H' hD hvs hC'
   refine oq hD fun d1 d2 hq58_2 d4=>?_
   refine ob_1_1 hq58_2 fun n d3=>?_
   exact kok σ' dn q _ C h tk (g'.addIm _ oD) oC (k'.trans (.addIm ..)) (H'.toIm (pre:=[])) (.lst (.head _) d1 ⟨d3,hvs⟩ (d4.mono (.addIm ..))) hC'
  ·intro v σ' q e h tk g' oD oC k' H' hC' R' Fl
   have ec:=H'.hex (C,oC) (.tail _ (.head _)) (by show oC.cls≠_;rw [hC'.1];decide)
   refine ob_1_1 (hC'.ns ec) fun m hm=>?_
   have key:∃ m,({ s with heap:=h,toks:=tk }:Shared).heap.Ns C m∧∀ h',Heap.SameBut C ({ s with heap:=h,toks:=tk }:Shared).heap h'→∀ cenv:Env,cenv.locals=C→wpAny X.M A (PySem.passOn "comprehension.variables-let-go" (.ref e) cenv:Sem Value) (fun z9 z9=>False) E { s with heap:=h',toks:=tk }:=by
    refine (ib_1_2 m hm (fun h' hs cenv z9=>?_))
    have H'':HI X.w X.base g' oth σ' h':=(H'.dropBut (pre:=[_]) fun b o hb q=>(hs.2 b hb).trans q).dropOth
    exact nJ (s:={ s with heap:=h',toks:=tk }) H'' R' (Fl.but ec hC' hs) fun h3 H3 F3=>PE v σ' q e h3 tk g' k' H3 R' F3.fly
   cases use<;>exact key
 have eI:h2.get? I0=some oI:=H3.hex (I0,oI) (.tail _ (.tail _ (.head _))) IR.cls
 exact codeAny_compStart_list (s:={ s with heap:=h2 }) loop (nq (s:={ s with heap:=h2 }) IR eI loop)
end
end Mine.Internal
end
section
open PySem PySem.W PyProof.Rows PySem.Calls
namespace Mine.Internal
theorem Bd{n:Int}(h:n<100000):(rng n).length≤sizeLine:=by
 simp only [oY,sizeLine_eq];lia
section
variable {X:Cx} {A:Around} {wn:Nat} {env:Env} {nm:List Str} {g g':Gh} {own oth0 oth oth':List (Addr×Obj)} {σ:St} {s:Shared} {ρ:ck} {scope:Scope} {fns:List (Str×Nat)}
theorem yz{v:V}{l:List V}{val:Value}(h:nS σ v=some l)(R:VR g val v)(H:HI X.w X.base g oth σ s.heap):eZ σ v=some l∧yg v=true∧l.length≤sizeLine:=by
 refine ln h (fun h=>cV h fun x hx h=>gf h fun hs e=>?_) fun h=>⟨(ng h).1,(ng h).2,jJ h H R (fun a vs ev T Rs sz=>Rs.length▸sz) fun a vs ev T Rs sz=>Rs.length▸sz⟩
 obtain rfl:=gZ hx
 refine ⟨e,rfl,Option.some.inj e▸?_⟩
 simp only [List.length_map,Array.length_toList]
 exact fh hs
theorem Be{f:V→St→cR V}(l:List V):∀ σ:St,gK f l σ=gI (fun z9 σ=>bv true σ) f l σ:=by
 induction l with
 | nil=>exact fun z9=>rfl
 | cons v r ih=>exact fun σ=>congrArg (cR.bind (f v σ)) (funext fun x=>funext fun σ=>congrArg (cR.bind · _) (ih σ))
theorem Bf{α β:Type}{x:cR α}{f:α→St→cR β}{b:β}{σ':St}(h:x.bind f=some (.ok b σ')){C:Prop}(k:∀ a σ1,x=some (.ok a σ1)→f a σ1=some (.ok b σ')→C):C:=rQ h (fun z9 z9 z9 e=>nomatch e) k
noncomputable def Fi(X:Cx)(A:Around)(env:Env)(nm:List Str)(it:Expr)(elt:PE)(pc:PE)(pe:PE):Prop:=
 ∀ ρ σ (r:jE V),ev X.C ρ pe σ=some r→∀ g oth,eV A g oth env nm ρ→∀ (s:Shared) E (Q1:Value→Shared→Prop),HI X.w X.base g oth σ s.heap→
  (∀ v σ',r=.exc v σ'→∀ e h tk g',g.le g'→HI X.w X.base g' oth σ' h→VR g' (.ref e) v→kD X.base e h→E (.ref e) { s with heap:=h,toks:=tk })→
  (∀ σ1 src l I0 oI h tk g',g.le g'→HI X.w X.base g' ((I0,oI)::oth) σ1 h→lL g' src 0 oI→eZ σ1 src=some l→(isRef src=true→gW elt=true∧kQ pc=true)→l.length≤sizeLine→
   (gI (fun v σ=>fw X.C (ρ++[some v]) pc σ) (fun v σ=>ev X.C (ρ++[some v]) elt σ) l σ1).bind (fun vs σ=>bv (.lst vs) σ)=some r→Q1 (.ref I0) { s with heap:=h,toks:=tk })→
  wpAny X.M A (eval it env) (fun x s₁=>wpAny X.M A (pyIter x) Q1 E s₁) E s
theorem yA{it:Expr}{pit pe pc:PE}(Ji:JE X A env nm it pit):Fi X A env nm it pe pc (.comp pe pit pc):=by
 intro ρ σ r hr g oth F s E Q1 H PE k
 refine Ji.step (xD.symm.trans hr) F H PE fun v σ1 hr1 val h1 tk1 g1 k1 H1 R1=>?_
 refine cV hr1 fun l hl hr1=>gf hr1 fun hpure hr1=>?_
 refine gk (yz (s:={ s with heap:=h1,toks:=tk1 }) hl R1 H1) fun i1 i2 i3=>?_
 refine ke (s:={ s with heap:=h1,toks:=tk1 }) R1 i1 i2 H1 fun I0 o h2 H2 IR=>?_
 exact k σ1 v l I0 o h2 tk1 g1 k1 H2 IR i1 (fun q=>(Bool.or_eq_true_iff.mp hpure).elim (fun e=>absurd (q.symm.trans (Bool.not_eq_true' _▸e)) (by decide)) fun e=>(Bool.and_eq_true _ _).mp e) i3 hr1
theorem wI(T:jZ X fns)(O:dI env)(hg:bz env.scope.names "range"=true){n:Expr}{pn pe:PE}{np cp:Pos}(hn:bw n=true)(Jn:JE X A env nm n pn):Fi X A env nm (.Call (.Name "range" np) [n] [] cp) pe (.bool true) (.compR pe pn):=by
 intro ρ σ r hr g oth F s E Q1 H PE k
 refine l_ T O hg hn Jn (uY.symm.trans hr) F H PE (fun v σ' q=>cV q fun n h z9=>⟨n,lW h⟩) fun n σ1 hr1 rg a t u h tk g1 IR k1 H1=>?_
 refine gf (show (if _ then _ else none)=some r from hr1) fun hb hr1=>jF hb fun z9 hb=>?_
 have hb:=of_decide_eq_true hb
 refine oZ (s:={ s with heap:=h,toks:=tk }) hb IR H1 (fun I0 o h2 H2 IRr=>?_) (by lia)
 exact k σ1 (.int n) (rng n) I0 o h2 tk g1 k1 H2 IRr rfl (fun q=>j9 q) (Bd hb) ((congrArg (cR.bind · _) (Be (rng n) σ1)).symm.trans hr1)
theorem yB(hh:A.handled=none){x:Str}(S:CS env nm [x] scope){elt it:Expr}{ifs:List Expr}{px pos:Pos}{pe pc p:PE}(hs:dD it=true)(hp:∀ vs σ' ρ σ r,ev X.C ρ p σ=some r→r=.ok vs σ'→∃ dn,vs=.lst dn)(Sr:Fi X A env nm it pe pc p)(Je:∀ C,JE X A (eG env scope C) (nm++[x]) elt pe)(Jc:∀ C,Cy X A (eG env scope C) (nm++[x]) ifs pc) :
  JE X A env nm (.ListComp elt [⟨.Name x px,it,ifs,0⟩] scope pos) p:=by
 intro ρ σ r hr g oth F s Q E H P
 simp only [eval_ListComp]
 refine wpAny_comprehension_free (use:=none) rfl (gp hs) (rd (S.cells F)) S.kind S.loc1 ?_
 refine Sr ρ σ r hr g oth F s E _ H P.exc fun σ1 src l I0 oI h tk g1 k1 H1 IR hl hpu hsz hr1=>?_
 refine sJ (s:={ s with heap:=h,toks:=tk }) hh (F.mono k1) S Je Jc hl hpu hsz H1 IR hr1 (P.at k1 h tk).exc fun σ' dn q D C h2 tk2 g2 oC k2 H2 R2 hC=>?_
 have ec:=H2.hex (C,oC) (.head _) (by show oC.cls≠_;rw [hC.1];decide)
 obtain ⟨m,hm⟩:=hC.ns ec
 refine ⟨m,hm,fun h' hs=>?_⟩
 subst q
 exact P _ h' tk2 g2 (k1.trans k2) (H2.dropBut (pre:=[]) fun b o hb q=>(hs.2 b hb).trans q) R2
theorem Bg{x:Str}{xp pos:Pos}{e:Expr}{pe:PE}{i:Nat}(hc:swapsWith e (some (.Name x xp)) pos.line env=pure false)(hl:bt env.scope.names x=true)(hi:bD nm x=some i)(J:JE X A env nm e pe):JS X A wn env nm (.Assign [.Name x xp] e pos) (.asg i pe):=by
 intro ρ σ r hr g own oth0 F s Q E H P
 refine wpAny_Assign_Name (J.stepS (tG.symm.trans hr) F H P fun v σ1 hr1 val h1 tk1 g1 k1 H1 R1=>?_) hc
 exact (F.mono k1).store (s:={ s with heap:=h1,toks:=tk1 }) hl hi H1 R1.lr (fun l q=>absurd q (R1.notOwn l)) fun h2 tk2 own2 H2 F2=>lQ hr1 P h2 tk2 g1 own2 k1 H2 F2
theorem Bh(hh:A.handled=none){x:Str}(S:CS env nm [x] scope){elt it:Expr}{ifs:List Expr}{px pos spos yp:Pos}{pe pc p:PE}{y:Str}{i:Nat}(hs:dD it=true)(hsw:swapsWith (.ListComp elt [⟨.Name x px,it,ifs,0⟩] scope pos) (some (.Name y yp)) spos.line env=pure true)(hl:bt env.scope.names y=true)(hi:bD nm y=some i)
  (Sr:Fi X A env nm it pe pc p) (Je:∀ C,JE X A (eG env scope C) (nm++[x]) elt pe) (Jc:∀ C,Cy X A (eG env scope C) (nm++[x]) ifs pc):JS X A wn env nm (.Assign [.Name y yp] (.ListComp elt [⟨.Name x px,it,ifs,0⟩] scope pos) spos) (.asg i p):=by
 intro ρ σ r hr g own oth0 F s Q E H P
 simp only [tG] at hr
 rw [exec_Assign_Name_used _ _ _ _ hsw]
 refine wpAny_bind (wpAny_standAt (wpAny_bind ?_))
 show wpAny _ A (do let _←comprehension (.ListComp elt [⟨.Name x px,it,ifs,0⟩] scope pos) scope env _ (newList []) false (eval it env) (some (assign (.Name y yp) env))) _ _ s
 refine wpAny_bind (wpAny_mono (wpAny_comprehension_free (use:=some (assign (.Name y yp) env)) (Q:=fun z9 s'=>Q .next s') rfl (gp hs) (rd (S.cells F.fr)) S.kind S.loc1 ?_) (fun z9 s' hq=>wpAny_pure (wpAny_pure hq)) fun z9 z9 e=>e)
 cases h0:ev X.C ρ p σ with
 | none=>rw [h0] at hr;exact cq hr
 | some r0=>
  rw [h0] at hr
  have PX:∀ v σ',r0=.exc v σ'→∀ e h tk g',g.le g'→HI X.w X.base g' (own++oth0) σ' h→VR g' (.ref e) v→kD X.base e h→E (.ref e) { s with heap:=h,toks:=tk }:=fun v σ' q e h tk g' k' H' R' Fl=>by
   subst q;obtain rfl:=Option.some.inj hr
   exact P e h tk g' own k' H' (F.mono k') R' Fl
  refine Sr ρ σ r0 h0 g (own++oth0) F.fr s E _ H PX fun σ1 src l I0 oI h tk g1 k1 H1 IR hlI hpu hsz hr1=>?_
  refine sJ (s:={ s with heap:=h,toks:=tk }) (use:=some (assign (.Name y yp) env)) (Q:=fun z9 s'=>Q .next s') hh (F.fr.mono k1) S Je Jc hlI hpu hsz H1 IR hr1 (fun v σ' q e h2 tk2 g2 k2 H2 R2 Fl=>PX v σ' q e h2 tk2 g2 (k1.trans k2) H2 R2 Fl) fun σ' dn q D C h2 tk2 g2 oC k2 H2 R2 hC=>?_
  subst q
  obtain rfl:=Option.some.inj hr
  have H3:HI X.w X.base g2 (own++(C,oC)::oth0) σ' h2:=H2.perm (by simpa using List.perm_middle)
  show wpAny X.M A (assign (.Name y yp) env (.ref D)) _ _ _
  refine wpAny_assign_Name (((F.mono (k1.trans k2)).more (C,oC)).store (s:={ s with heap:=h2,toks:=tk2 }) hl hi H3 R2.lr (fun l q=>absurd q (R2.notOwn l)) fun h4 tk4 own4 H4 F4=>?_)
  have cC:oC.cls≠.type "frame":=by rw [hC.1];decide
  have ec:=H4.hex (C,oC) (List.mem_append_right _ (.head _)) cC
  obtain ⟨m,hm⟩:=hC.ns ec
  refine ⟨m,hm,fun h' hs=>?_⟩
  exact P h' tk4 g2 own4 (k1.trans k2) (H4.dropBut fun b o hb q=>(hs.2 b hb).trans q) (F4.less (o3 H4) cC)
theorem yC{ρ:ck}{pe pit pc:PE}{r:jE V}{vs:V}{σ':St}(h:ev X.C ρ (.comp pe pit pc) σ=some r)(q:r=.ok vs σ'):∃ dn,vs=.lst dn:=
 Bf (xD.symm.trans (h.trans (congrArg some q))) fun a σ1 z9 h=>cV h fun l z9 h=>gf h fun z9 h=>Bf h fun b σ2 z9 h4=>⟨b,(jE.ok.inj (Option.some.inj h4)).1.symm⟩
theorem wJ{ρ:ck}{pe pn:PE}{r:jE V}{vs:V}{σ':St}(h:ev X.C ρ (.compR pe pn) σ=some r)(q:r=.ok vs σ'):∃ dn,vs=.lst dn:=
 Bf (uY.symm.trans (h.trans (congrArg some q))) fun a σ1 z9 h=>cV h fun k z9 h=>gf h fun z9 h=>Bf h fun b σ2 z9 h4=>⟨b,(jE.ok.inj (Option.some.inj h4)).1.symm⟩
end
end Mine.Internal
end
section
open PySem PySem.W PyProof.Rows PySem.Calls
namespace Mine.Internal
section
variable {prog:Program} {w:World} {A:Around} {R:Result→Shared→Prop} {s:Shared} {elt t0 i0 t1 i1:Expr} {scope:Scope} {pos:Pos} {it acc:Value} {env:Env}
noncomputable abbrev ki(elt t0 i0 t1 i1:Expr)(scope:Scope)(pos:Pos):Expr:=.ListComp elt [⟨t0,i0,[],0⟩,⟨t1,i1,[],0⟩] scope pos
theorem Fj:compTurn (ki elt t0 i0 t1 i1 scope pos) 1 it acc env=(standAt i1.pos >>= fun z9=>pyNext it >>= fun r=>match r with
   | none=>pure (.done .next)
   | some v=>letOwnedTupleGo t1 it v >>= fun z9=>assign t1 env v >>= fun z9=>
    (eval elt env >>= fun x=>call (.builtin "list.append") [acc,x] >>= fun z9=>pure ()) >>= fun z9=>
     again (.compLoop (ki elt t0 i0 t1 i1 scope pos) 1 it acc env)):=by rfl
theorem Fk:compTurn (ki elt t0 i0 t1 i1 scope pos) 0 it acc env=(standAt i0.pos >>= fun z9=>pyNext it >>= fun r=>match r with
   | none=>pure (.done .next)
   | some v=>letOwnedTupleGo t0 it v >>= fun z9=>assign t0 env v >>= fun z9=>
    eval i1 env >>= fun x=>standAt i1.pos >>= fun z9=>foldedSetIterable i1 env x >>= fun x=>holding [x] (pyIter x) >>= fun it2=>runOwn (.compStart (ki elt t0 i0 t1 i1 scope pos) 1 it2 acc env) env >>= fun z9=>
     again (.compLoop (ki elt t0 i0 t1 i1 scope pos) 0 it acc env)):=by rfl
noncomputable abbrev Nt(prog:Program)(w:World)(A:Around)(env:Env)(R:Result→Shared→Prop):Value→Shared→Prop:=notedBy (model prog w) A env fun e s'=>R (.error e) s'
theorem Fm(I:Nat→Shared→Prop)
  (turn:∀ n s,I n s→wpAny (model prog w) A (pyNext it) (fun r s₁=>match r with
   | none=>R (.ok .next) s₁
   | some v=>wpAny (model prog w) A (assign t1 env v) (fun z9 s₂=>wpAny (model prog w) A (eval elt env) (fun x s₃=>
     wpAny (model prog w) A (call (.builtin "list.append") [acc,x]) (fun z9 s₄=>∃ m,m<n∧I m s₄) (Nt prog w A env R) s₃) (Nt prog w A env R) s₂) (Nt prog w A env R) s₁) (Nt prog w A env R) s)
  (n:Nat) (h:I n s) (ht:∀ v,letOwnedTupleGo t1 it v=pure ()):codeAny (model prog w) A (.compLoop (ki elt t0 i0 t1 i1 scope pos) 1 it acc env) R s:=by
 refine codeAny_loop rfl I (fun n s hI=>?_) n h
 show wpAny _ A ((compTurn (ki elt t0 i0 t1 i1 scope pos) 1 it acc env).onRaise (fun x=>do noteFrame x env;theTreesLotGoes x)) _ _ s
 refine wpAny_noted ?_
 simp only [Fj]
 refine wpAny_bind (wpAny_standAt (wpAny_bind (wpAny_mono (turn n s hI) (fun r s₁ h₁=>?_) fun z9 z9 h'=>h')))
 cases r with
 | none=>exact wpAny_pure h₁
 | some v=>
  refine wpAny_bind (wpAny_of_eq (ht v) ?_)
  refine wpAny_bind (wpAny_mono h₁ (fun z9 s₂ h₂=>wpAny_bind (wpAny_bind (wpAny_mono h₂ (fun x s₃ h₃=>wpAny_bind (wpAny_mono h₃ (fun z9 s₄ h₄=>wpAny_pure (wpAny_pure ⟨rfl,h₄⟩)) fun z9 z9 h'=>h')) fun z9 z9 h'=>h'))) fun z9 z9 h'=>h')
theorem Fo(I:Nat→Shared→Prop)
  (turn:∀ n s,I n s→wpAny (model prog w) A (pyNext it) (fun r s₁=>match r with
   | none=>R (.ok .next) s₁
   | some v=>wpAny (model prog w) A (assign t0 env v) (fun z9 s₂=>wpAny (model prog w) A (eval i1 env) (fun x s₃=>wpAny (model prog w) A (pyIter x) (fun it2 s₄=>
     codeAny (model prog w) A (.compStart (ki elt t0 i0 t1 i1 scope pos) 1 it2 acc env) (fun r s₅=>match r with | .ok _=>∃ m,m<n∧I m s₅ | .error e=>cameBackBy (model prog w) A env (Nt prog w A env R) e s₅) s₄) (Nt prog w A env R) s₃) (Nt prog w A env R) s₂) (Nt prog w A env R) s₁) (Nt prog w A env R) s)
  (n:Nat) (h:I n s) (ht:∀ v,letOwnedTupleGo t0 it v=pure ()) (hf:∀ x,foldedSetIterable i1 env x=pure x):codeAny (model prog w) A (.compLoop (ki elt t0 i0 t1 i1 scope pos) 0 it acc env) R s:=by
 refine codeAny_loop rfl I (fun n s hI=>?_) n h
 show wpAny _ A ((compTurn (ki elt t0 i0 t1 i1 scope pos) 0 it acc env).onRaise (fun x=>do noteFrame x env;theTreesLotGoes x)) _ _ s
 refine wpAny_noted ?_
 simp only [Fk]
 refine wpAny_bind (wpAny_standAt (wpAny_bind (wpAny_mono (turn n s hI) (fun r s₁ h₁=>?_) fun z9 z9 h'=>h')))
 cases r with
 | none=>exact wpAny_pure h₁
 | some v=>
  refine wpAny_bind (wpAny_of_eq (ht v) ?_)
  refine wpAny_bind (wpAny_mono h₁ (fun z9 s₂ h₂=>wpAny_bind (wpAny_mono h₂ (fun x s₃ h₃=>wpAny_bind (wpAny_standAt (wpAny_bind (wpAny_of_eq (hf x) (wpAny_bind (wpAny_holding (wpAny_mono h₃ (fun it2 s₄ h₄=>wpAny_bind (wpAny_runOwn (codeAny_mono h₄ fun r s₅ h₅=>?_))) fun z9 z9 h'=>h'))))))) fun z9 z9 h'=>h')) fun z9 z9 h'=>h')
  cases r with
  | ok f=>exact wpAny_pure ⟨rfl,h₅⟩
  | error e=>exact h₅
theorem DK
  (h0:codeAny (model prog w) A (.compLoop (ki elt t0 i0 t1 i1 scope pos) 1 it acc env) R s)
  (h:wpAny (model prog w) A (pyIter it) (fun it' s'=>codeAny (model prog w) A (.compLoop (ki elt t0 i0 t1 i1 scope pos) 1 it' acc env) R s')
   (Nt prog w A env R) s) :
  codeAny (model prog w) A (.compStart (ki elt t0 i0 t1 i1 scope pos) 1 it acc env) R s:=by
 refine codeAny_of_tree ?_
 refine wpAny_notedAt ?_
 refine (?_:wpAny _ _ (ask >>= _) _ _ s)
 refine wpAny_bind (wpAny_askSetting (wpAny_ite ?_))
 split
 ·first
   | exact wpAny_bind (wpAny_pure (wpAny_pure (And.intro rfl h0)))
   | exact wpAny_pure (And.intro rfl h0)
 ·first
   | exact wpAny_bind (wpAny_rule (wpAny_bind (wpAny_standAt (wpAny_bind (wpAny_mono h (fun it' s' h'=>wpAny_pure (And.intro rfl h')) fun z9 z9 x=>x)))))
   | (refine wpAny_bind (wpAny_rule ?_);show wpAny _ _ (standAt i1.pos >>= _) _ _ s;exact wpAny_bind (wpAny_standAt (wpAny_bind (wpAny_mono h (fun it' s' h'=>wpAny_pure (And.intro rfl h')) fun z9 z9 x=>x))))
end
end Mine.Internal
end
section
open PySem PySem.W PyProof.Rows PySem.Calls
namespace Mine.Internal
section
variable {X:Cx} {A:Around} {env:Env} {nm:List Str} {g g':Gh} {oth rest:List (Addr×Obj)} {σ:St} {s:Shared} {ρ:ck} {scope:Scope} {C D I0 I1:Addr}
theorem Fp(hh:A.handled=none)(F:eV A g oth env nm ρ){x y:Str}(hxy:x≠y)(S:CS env nm [x,y] scope)(hsub:∀ p∈oth,p∈rest){elt i0 i1:Expr}{px py pos:Pos}{pe:PE}(Je:JE X A (eG env scope C) (nm++[x,y]) elt pe)
  {val:Value} {v:V} (Rv:VR g val v) {x0:Str} {l:List V} (hl:eZ σ (.str x0)=some l) {oD oC oI:Obj} {vs:List Value} {dn:List V} {b:Nat} (H:HI X.w X.base g ((D,oD)::(C,oC)::(I1,oI)::rest) σ s.heap) (hD:DL X g oD vs dn) (hb:vs.length≤b) (hC:DX oC x val) (IR:lL g (.str x0) 0 oI) (hsz:b+l.length≤sizeLine)
  {r:jE V} {K:List V→St→cR V} (hr:(gK (fun u σ=>ev X.C (ρ++[some v,some u]) pe σ) l σ).bind (fun xs σ=>K (dn++xs) σ)=some r) {R:Result→Shared→Prop}
  (kok:∀ σ' dn,K dn σ'=some r→∀ h tk g' oD oC vs,g.le g'→HI X.w X.base g' ((D,oD)::(C,oC)::rest) σ' h→DL X g' oD vs dn→vs.length≤b+l.length→DC oC→R (.ok .next) { s with heap:=h,toks:=tk })
  (kexc:∀ v σ',r=.exc v σ'→∀ e h tk g' oD oC,g.le g'→HI X.w X.base g' ((D,oD)::(C,oC)::rest) σ' h→DC oC→VR g' (.ref e) v→gd X.base e h→R (.error (.ref e)) { s with heap:=h,toks:=tk }) :
  codeAny X.M A (.compLoop (ki elt (.Name x px) i0 (.Name y py) i1 scope pos) 1 (.ref I1) (.ref D) (eG env scope C)) R s:=by
 refine Fm (CI X g C D I1 rest s (DX · x val) (.str x0) l (b + ·) fun l' dn σ=>(gK (fun u σ=>ev X.C (ρ++[some v,some u]) pe σ) l' σ).bind (fun xs σ=>K (dn++xs) σ)=some r) (fun n s' I=>?_) _ (.mk (.refl g) H hD hb hC IR hl hr (Nat.zero_le _)) (fun z9=>rfl)
 cases I with
 | @mk i σ1 h tk g1 oD1 oC1 oI1 vs1 dn1 k1 H1 hD1 hvi hC1 IR1 hl1 hr1 hi=>
  refine nk (s:={ s with heap:=h,toks:=tk }) (pre:=[(D,oD1),(C,oC1)]) hh IR1 hl1 H1 hi (fun e hd h2 H2=>?_) fun u hlt hd valu h2 tk2 oI2 H2 IR2 R2=>?_
  ·rw [hd] at hr1
   exact kok σ1 dn1 ((congrArg (K · σ1) (List.append_nil dn1)).symm.trans hr1) h2 tk g1 oD1 oC1 vs1 k1 H2 hD1 (e▸hvi) hC1.dc
  ·have exc:∀ {w:V} {σ':St} {e:Addr} {h2:Heap} {tk2:Tok} {g2:Gh} {oD2 oC2 oI2:Obj},r=.exc w σ'→g1.le g2→HI X.w X.base g2 ((D,oD2)::(C,oC2)::(I1,oI2)::rest) σ' h2→DC oC2→VR g2 (.ref e) w→kD X.base e h2→
     Nt X.prog X.w A (eG env scope C) R (.ref e) { s with heap:=h2,toks:=tk2 }:=fun q k2 H2 hC2 R2 Fl=>o_ F hsub H2 R2 Fl fun h3 H3 F3=>kexc _ _ q _ h3 _ _ _ _ (k1.trans k2) H3 hC2 R2 F3
   refine bC hC1 fun cC q=>ob_2_3 q fun es ep dC kC fC=>?_
   refine wpAny_assign_Name (o5 (env:=eG env scope C) (s:={ s with heap:=h2,toks:=tk2 }) (pre:=[(D,oD1)]) S.kind ?_ H2 dC kC fun h3 tk3 oC3 es3 ep3 H3 c1 c2 c3 c4=>?_)
   ·rw [gq S F.fn,S.bound y (.tail _ (.head _))];rfl
   ·have fx:nsFind es3 x=some val:=(c4 x).trans ((if_neg hxy).trans fC)
    have fy:nsFind es3 y=some valu:=(c4 y).trans (if_pos rfl)
    have hC3:DX oC3 x val:=⟨c1.trans cC,es3,ep3,c2,c3,fx⟩
    have F3:eV A g1 ((D,oD1)::(C,oC3)::(I1,oI2)::rest) (eG env scope C) (nm++[x,y]) (ρ++[some v,some u]):=by
     refine vu (vs:=[v,u]) (F.mono k1) S (fun p hp=>.tail _ (.tail _ (.tail _ (hsub p hp)))) (.tail _ (.head _)) c2 c3 (fun k z hz=>?_) rfl
     cases k with
     | zero=>exact Option.some.inj hz▸(ib_2_3 val v fx rfl (Rv.mono k1))
     | succ k=>cases k with
      | zero=>exact Option.some.inj hz▸(ib_2_3 valu u fy rfl R2)
      | succ k=>exact cq hz
    clear c4 fx fy dC kC fC cC
    rw [hd] at hr1
    refine DJ hr1 (fun w s' e1 e2=>?_) fun z s' e1 hr2=>?_
    ·exact Je _ σ1 _ e1 g1 _ F3 { s with heap:=h3,toks:=tk3 } _ _ H3 fun e h5 tk5 g5 k5 H5 R5 Fl=>exc e2 k5 H5 hC3.dc R5 Fl
    ·refine Je _ σ1 _ e1 g1 _ F3 { s with heap:=h3,toks:=tk3 } _ _ H3 fun valz h5 tk5 g5 k5 H5 R5=>?_
     refine vA (s:={ s with heap:=h5,toks:=tk5 }) H5 hD1 k5 (Nat.le_trans hvi (Nat.le_trans (Nat.add_le_add_left hi b) hsz)) R5 fun h6 oD6 H6 hD6=>?_
     exact CI.next (k1.trans k5) H6 hD6 (sI hvi) hC3 (IR2.mono k5) hl hr2 hlt
end
end Mine.Internal
end
section
open PySem PySem.W PyProof.Rows PySem.Calls
namespace Mine.Internal
section
variable {X:Cx} {A:Around} {env:Env} {nm:List Str} {g g':Gh} {oth rest:List (Addr×Obj)} {σ:St} {s:Shared} {ρ:ck} {scope:Scope} {C D I0 I1:Addr}
theorem wK{M:Model}{E:Value→Shared→Prop}{e:Addr}{v:V}(H:HI X.w X.base g oth σ s.heap)(R:VR g (.ref e) v)(F':gd X.base e s.heap)
  (P:∀ h',HI X.w X.base g oth σ h'→gd X.base e h'→E (.ref e) { s with heap:=h' }):cameBackBy M A env E (.ref e) s:=by
 refine gd.E F' fun d vs sl a0 T oT ts x3 he ha hsz h1 hnT hTe hT hcT hdT h3=>?_
 show wpAny M A (do
  if (← field (.ref e) 1) == .none then unsupported "frame.own-activation:exception-without-traceback"
  setFlight (.ref e) env.frame) _ _ _
 refine wpAny_bind (wpAny_field he rfl h1 ?_)
 rw [if_neg (show ¬ ((Value.ref T == Value.none)=true) from by simp)]
 first
  | exact wpAny_bind (wpAny_pure (fX H R F' fun h2 H2 F2=>P h2 H2 F2))
  | exact fX H R F' fun h2 H2 F2=>P h2 H2 F2
noncomputable def Gz(C:Nat→List V→St→cR V)(ρ:ck)(pe:PE)(v s2:V)(σ:St):cR (List V):=(dz s2).bind fun t=>(nS σ (.str t)).bind fun l2=>gK (fun u σ=>ev C (ρ++[some v,some u]) pe σ) l2 σ
noncomputable def f2(C:Nat→List V→St→cR V)(ρ:ck)(pe p2:PE)(v:V)(σ:St):cR (List V):=(ev C (ρ++[some v]) p2 σ).bind (Gz C ρ pe v)
theorem uk{R:Result→Shared→Prop}{elt t0 i0 t1 i1:Expr}{pos:Pos}{acc:Value}(h:codeAny X.M A (.compLoop (ki elt t0 i0 t1 i1 scope pos) 1 (.ref I1) acc env) R s)(hs:∀ (Q:Value→Shared→Prop) E,Q (.ref I1) s→wpAny X.M A (pyIter (.ref I1)) Q E s) :
  codeAny X.M A (.compStart (ki elt t0 i0 t1 i1 scope pos) 1 (.ref I1) acc env) R s:=DK h (hs _ _ h)
theorem pd(hh:A.handled=none)(F:eV A g oth env nm ρ){x y:Str}(hxy:x≠y)(S1:CS env nm [x] scope)(S2:CS env nm [x,y] scope){elt i0 i1:Expr}{px py pos:Pos}{pe p2:PE}(hs2:dD i1=true)(J2:JE X A (eG env scope C) (nm++[x]) i1 p2)(Je:JE X A (eG env scope C) (nm++[x,y]) elt pe)
  {l:List V} {oD oC oI:Obj} (H:HI X.w X.base g ((D,oD)::(C,oC)::(I0,oI)::oth) σ s.heap) (hD:DL X g oD [] []) (hC:DC oC) (IR:lL g (.tup l) 0 oI) (hsz:l.length≤100)
  {r:jE V} (hr:(kA (f2 X.C ρ pe p2) l σ).bind (fun xs σ=>bv (.lst xs) σ)=some r) {R:Result→Shared→Prop}
  (kok:∀ σ' dn,r=.ok (.lst dn) σ'→∀ h tk g' oD oC vs,g.le g'→HI X.w X.base g' ((D,oD)::(C,oC)::oth) σ' h→DL X g' oD vs dn→vs.length≤sizeLine→DC oC→R (.ok .next) { s with heap:=h,toks:=tk })
  (kexc:∀ v σ',r=.exc v σ'→∀ e h tk g' oD oC,g.le g'→HI X.w X.base g' ((D,oD)::(C,oC)::oth) σ' h→DC oC→VR g' (.ref e) v→gd X.base e h→R (.error (.ref e)) { s with heap:=h,toks:=tk }) :
  codeAny X.M A (.compLoop (ki elt (.Name x px) i0 (.Name y py) i1 scope pos) 0 (.ref I0) (.ref D) (eG env scope C)) R s:=by
 refine Fo (CI X g C D I0 oth s DC (.tup l) l (·*100000) fun l' dn σ=>(kA (f2 X.C ρ pe p2) l' σ).bind (fun ys σ=>bv (.lst (dn++ys)) σ)=some r) (fun n s' I=>?_) _ (.mk (.refl g) H hD (Nat.le_refl 0) hC IR rfl hr (Nat.zero_le _)) (fun z9=>rfl) (gp hs2)
 cases I with
 | @mk i σ1 h tk g1 oD1 oC1 oI1 vs1 dn1 k1 H1 hD1 hvi hC1 IR1 hl1 hr1 hi=>
  have hi9:i*100000≤10000000:=Nat.mul_le_mul_right 100000 (Nat.le_trans hi hsz)
  refine nk (s:={ s with heap:=h,toks:=tk }) (pre:=[(D,oD1),(C,oC1)]) hh IR1 hl1 H1 hi (fun e hd h2 H2=>?_) fun v hlt hd val h2 tk2 oI2 H2 IR2 R2=>?_
  ·rw [hd] at hr1
   exact kok σ1 dn1 (Option.some.inj ((congrArg (fun z=>bv (V.lst z) σ1) (List.append_nil dn1)).symm.trans hr1)).symm h2 tk g1 oD1 oC1 vs1 k1 H2 hD1 (Nat.le_trans hvi (Nat.le_trans hi9 (by simp only [sizeLine_eq];decide))) hC1
  ·have exc:∀ {w:V} {σ':St} {e:Addr} {h2:Heap} {tk2:Tok} {g2:Gh} {oD2 oC2 oI2:Obj},r=.exc w σ'→g1.le g2→HI X.w X.base g2 ((D,oD2)::(C,oC2)::(I0,oI2)::oth) σ' h2→DC oC2→VR g2 (.ref e) w→kD X.base e h2→
     Nt X.prog X.w A (eG env scope C) R (.ref e) { s with heap:=h2,toks:=tk2 }:=fun q k2 H2 hC2 R2 Fl=>o_ F (fun z9 hp=>hp) H2 R2 Fl fun h3 H3 F3=>kexc _ _ q _ h3 _ _ _ _ (k1.trans k2) H3 hC2 R2 F3
   refine nI (s:={ s with heap:=h2,toks:=tk2 }) F k1 S1 (fun z9 hp=>hp) H2 hC1 R2 fun h3 tk3 oC3 H3 hC3 F3=>?_
   rw [hd] at hr1
   refine rQ ((er (ev X.C (ρ++[some v]) p2 σ1) (Gz X.C ρ pe v) _).symm.trans (Bc (K:=fun z σ=>bv (V.lst z) σ) hr1)) (fun w s' e1 e2=>?_) fun s2 σ5 e1 hr2=>?_
   ·exact J2 _ σ1 _ e1 g1 _ F3 { s with heap:=h3,toks:=tk3 } _ _ H3 fun e h5 tk5 g5 k5 H5 R5 Fl=>exc e2 k5 H5 hC3.dc R5 Fl
   ·refine J2 _ σ1 _ e1 g1 _ F3 { s with heap:=h3,toks:=tk3 } _ _ H3 fun vals2 h5 tk5 g5 k5 H5 R5=>?_
    clear hr1 H3 F3 H2 H1
    have hx:∃ t,dz s2=some t∧∃ l2,nS σ5 (.str t)=some l2∧Gz X.C ρ pe v s2 σ5=gK (fun u σ=>ev X.C (ρ++[some v,some u]) pe σ) l2 σ5:=by
     unfold Gz at hr2 ⊢
     refine fH (dz s2) (fun q=>?_) fun t q=>fH (nS σ5 (.str t)) (fun q2=>?_) fun l2 q2=>?_
     ·rw [q] at hr2;exact cq hr2
     ·rw [q] at hr2;simp only [Option.bind_some,q2] at hr2;exact cq hr2
     ·exact ⟨t,q,l2,q2,by rw [q];simp only [Option.bind_some,q2]⟩
    refine ob_1_2 hx fun t ht hx=>ob_1_2 hx fun l2 hl2 e9=>?_
    rw [e9] at hr2
    obtain rfl:=gZ ht
    refine gk (yz (s:={ s with heap:=h5,toks:=tk5 }) hl2 R5 H5) fun j1 j2 j3=>?_
    have hl2s:l2.length≤100000:=ln hl2 (fun h=>gf (show (if fl t.length=true then _ else none)=some l2 from h) fun hs e=>by
     obtain rfl:=Option.some.inj e
     simp only [List.length_map,Array.length_toList];exact ls hs) fun h=>cq h
    refine ke (s:={ s with heap:=h5,toks:=tk5 }) R5 j1 j2 H5 fun I1 oJ h6 H6 IRJ=>?_
    have H7:HI X.w X.base g5 ((D,oD1)::(C,oC3)::(I1,oJ)::(I0,oI2)::oth) σ5 h6:=H6.perm ((List.Perm.cons _ (List.Perm.swap ..)).trans (List.Perm.swap ..))
    have eI:h6.get? I1=some oJ:=H7.hex (I1,oJ) (.tail _ (.tail _ (.head _))) IRJ.cls
    refine uk ?_ fun Q E q=>nq (s:={ s with heap:=h6,toks:=tk5 }) IRJ eI q
    clear hx H5 H6 e9 hl2 j2 j3 eI
    refine Fp (r:=r) (s:={ s with heap:=h6,toks:=tk5 }) (b:=i*100000) (K:=fun xs σ=>(kA (f2 X.C ρ pe p2) (l.drop (i+1)) σ).bind fun ys σ=>bv (.lst (xs++ys)) σ) hh (F.mono (k1.trans k5)) hxy S2 (fun p hp=>.tail _ hp) Je (R2.mono k5) (x0:=t) (l:=l2) (dn:=dn1) j1 H7 (hD1.mono k5) hvi hC3 IRJ (by simp only [sizeLine_eq];lia) hr2 (fun σ' dn q h8 tk8 g8 oD8 oC8 vs8 k8 H8 hD8 hv8 hC8=>?_) fun v' σ' q e h8 tk8 g8 oD8 oC8 k8 H8 hC8 R8 Fl8=>?_
    ·exact CI.next ((k1.trans k5).trans k8) H8 hD8 (by clear hvi hi9;show vs8.length≤(i+1)*100000;lia) hC8 ((IR2.mono k5).mono k8) rfl q hlt
    ·exact wK (s:={ s with heap:=h8,toks:=tk8 }) H8 R8 Fl8 fun h9 H9 F9=>exc q (k5.trans k8) H9 hC8 R8 F9.fly
theorem yD(hh:A.handled=none){x y:Str}(hxy:x≠y)(S1:CS env nm [x] scope)(S2:CS env nm [x,y] scope){elt i0 i1:Expr}{px py pos:Pos}{pe pi p2:PE}(hs:dD i0=true)(hs2:dD i1=true)(Ji:JE X A env nm i0 pi)(J2:∀ C,JE X A (eG env scope C) (nm++[x]) i1 p2)(Je:∀ C,JE X A (eG env scope C) (nm++[x,y]) elt pe) :
  JE X A env nm (ki elt (.Name x px) i0 (.Name y py) i1 scope pos) (.comp2 pe pi p2):=by
 intro ρ σ r hr g oth F s Q E H P
 simp only [eval_ListComp]
 refine wpAny_comprehension_free (use:=none) rfl (gp hs) (rd (S1.cells F)) S1.kind S1.loc1 ?_
 refine Ji.step (z_.symm.trans hr) F H P.exc fun v σ1 hr1 val h1 tk1 g1 k1 H1 R1=>?_
 refine cV hr1 fun l hl9 hr8=>gf hr8 fun hle hr9=>?_
 obtain rfl:=gm hl9
 refine ke (s:={ s with heap:=h1,toks:=tk1 }) R1 (l:=l) rfl rfl H1 fun I0 oI h2 H2 IR=>?_
 refine wpAny_newObj_type ?_
 have H3:=H2.pushOth (o:=({ cls:=.type "list",data:=.seq ([]:List Value).toArray }:Obj)) rfl (bV rfl (by decide))
 simp only [newFunctionEnv,Option.isSome_some,if_true]
 refine wpAny_bind (wpAny_alloc ?_)
 rw [forIn_yield_id (nj env scope.names []) (fun y hy c=>by
  obtain ⟨name,kind⟩:=y
  have:(kind == NameKind.cell)=false:=by simpa using S1.nocell _ hy
  simp only [this,Bool.false_eq_true,if_false])]
 refine wpAny_bind (wpAny_pure (wpAny_bind ?_))
 refine wpAny_pure (wpAny_pure ?_)
 have H4:=H3.pushOth (o:=({ cls:=.type "dict",data:=.dict #[] }:Obj)) rfl (bV rfl (by decide))
 dsimp only
 generalize hC:(h2.push { cls:=.type "list",data:=.seq ([]:List Value).toArray }).objs.size=C at H4
 generalize hh2:(h2.push { cls:=.type "list",data:=.seq ([]:List Value).toArray }).push { cls:=.type "dict",data:=.dict #[] }=h4 at H4
 have H5:HI X.w X.base g1 ((h2.objs.size,{ cls:=.type "list",data:=.seq ([]:List Value).toArray })::(C,{ cls:=.type "dict",data:=.dict #[] })::(I0,oI)::oth) σ1 h4:=H4.perm (List.Perm.swap ..)
 have loop:codeAny X.M A (.compLoop (ki elt (.Name x px) i0 (.Name y py) i1 scope pos) 0 (.ref I0) (.ref h2.objs.size) (eG env scope C)) (compPost X.M A E none Q (.ref h2.objs.size) C) { s with heap:=h4,toks:=tk1 }:=by
  refine pd (s:={ s with heap:=h4,toks:=tk1 }) hh (F.mono k1) hxy S1 S2 hs2 (J2 C) (Je C) H5 ⟨rfl,rfl,⟨0,rfl⟩,.nil⟩ ⟨rfl,_,_,rfl,fun e he=>by simp at he⟩ IR (Nat.le_of_ble_eq_true hle) hr9 ?_ ?_
  ·intro σ' dn q h tk g' oD oC vs k' H' hD hvs hC'
   refine oq hD fun d1 d2 hq4_2 d4=>?_
   refine ob_1_1 hq4_2 fun n d3=>?_
   have ec:=H'.hex (C,oC) (.tail _ (.head _)) (by show oC.cls≠_;rw [hC'.1];decide)
   refine ob_1_1 (hC'.ns ec) fun m hm=>?_
   refine (ib_1_2 m hm (fun h' hs=>?_))
   subst q
   have Hn:=(H'.dropBut (pre:=[_]) fun b o hb q=>(hs.2 b hb).trans q).toIm (pre:=[])
   exact P (.ref h2.objs.size) h' tk (g'.addIm h2.objs.size oD) ((k1.trans k').trans (.addIm ..)) Hn (.lst (.head _) d1 ⟨d3,hvs⟩ (d4.mono (.addIm ..)))
  ·intro v σ' q e h tk g' oD oC k' H' hC' R' Fl
   have ec:=H'.hex (C,oC) (.tail _ (.head _)) (by show oC.cls≠_;rw [hC'.1];decide)
   refine ob_1_1 (hC'.ns ec) fun m hm=>?_
   refine (ib_1_2 m hm (fun h' hs cenv z9=>?_))
   have H'':HI X.w X.base g' oth σ' h':=(H'.dropBut (pre:=[_]) fun b o hb q=>(hs.2 b hb).trans q).dropOth
   exact nJ (s:={ s with heap:=h',toks:=tk }) H'' R' (Fl.but ec hC' hs) fun h3 H3 F3=>P.exc v σ' q e h3 tk g' (k1.trans k') H3 R' F3.fly
 have eI:h4.get? I0=some oI:=H5.hex (I0,oI) (.tail _ (.tail _ (.head _))) IR.cls
 exact codeAny_compStart_list (s:={ s with heap:=h4,toks:=tk1 }) loop (nq (s:={ s with heap:=h4,toks:=tk1 }) IR eI loop)
end
end Mine.Internal
end
section
open PySem PySem.W PyProof.Rows PySem.Calls
set_option genCtorIdx false
namespace Mine.Internal
noncomputable def JJ(X:Cx)(A:Around)(env:Env)(nm:List Str)(e:Expr)(p:PE):Prop:=JE X A env nm e p∧JT X A env nm e p
structure mD (sc:List (Str×NameKind)) (env:Env):Prop where
 kind:env.scope.kind=.function
 loc:∀ y,bt sc y=true→bt env.scope.names y=true
 glob:∀ y,bz sc y=true→bz env.scope.names y=true
 cell:∀ y,bE y sc=some .cell→env.kindOf y=some .cell
structure re (X:Cx) (A:Around) (K:Frag) (fI:Addr) (T:TC):Prop where
 top:jZ X T.fns
 ko:Ct X.base K T.meths fI
 ro:xv X.base K
 ek:∃ k,bE "error" T.fns=some k
 eo:∀ a,(∃ mg,X.base.Ns mainGlobals mg∧mg "error"=some (.ref a))→yr X.base a
 hh:A.handled=none
 hu:A.units+8<cLine
 hroom:A.depth+2<recursionLimit
 kF:∀ x k,bE x T.fns=some k→∀ a,(∃ mg,X.base.Ns mainGlobals mg∧mg x=some (.ref a))→l5 X A a k
 kM:∀ m k,bE m T.meths=some k→∀ a,findIn K (.ref cQ) m=some (some (.ref a))→l5 X A a k
 kI:∀ c,l5 X (A.under (.builtin "type.__call__" c)) fI T.init
 fr:∀ c oth,nT A oth→nT (A.under (.builtin "type.__call__" c)) oth
theorem re.mode0{X:Cx}{A:Around}{K:Frag}{fI:Addr}{T:TC}(W:re X A K fI T)(m:Nat):re X A K fI { T with mode:=m }:=
 ⟨W.top,W.ko,W.ro,W.ek,W.eo,W.hh,W.hu,W.hroom,W.kF,W.kM,W.kI,W.fr⟩
theorem kj(e:Expr):bw e=bw e:=rfl
theorem Cz(es:List Expr):es.all bw=es.all bw:=rfl
theorem nr(e:Expr):dD e=dD e:=rfl
theorem ul(e:Expr):fm e=fm e:=rfl
theorem CA(e:Expr):mq e=mq e:=rfl
theorem sK{e:Expr}(h:mX e=true):∀ a b c d,e≠.Slice a b c d:=by
 intro a b c d q;subst q;exact j9 h
theorem kY{x:Str}(h:kR x=true):fV x:=by
 unfold kR at h
 simp only [Bool.and_eq_true,Bool.not_eq_true',Bool.not_eq_true'] at h
 exact h
theorem nK{e:Expr}{f:Str}{as:List Expr}(h:ou e=some (f,as)):∃ np p,e=.Call (.Name f np) as [] p:=by
 refine ob_1_2 (Option.bind_eq_some_iff.mp h) fun c hc h=>?_
 refine ob_1_2 (Option.map_eq_some_iff.mp h) fun x hx h=>?_
 cases h
 refine ob_1_1 (dE hx) fun np hn=>?_
 exact (ib_2_1 np c.2.2 (by rw [nF hc,hn]))
theorem qq{α:Type}{c:Bool}{a b:α}(h:(bif c then some a else none)=some b):c=true∧a=b:=by
 cases c with
 | true=>obtain rfl:=Option.some.inj h;exact ⟨rfl,rfl⟩
 | false=>exact cq h
theorem nM{e:Expr}{y m:Str}{as:List Expr}(h:mY e=some (y,m,as)):∃ yp ap p,e=.Call (.Attribute (.Name y yp) m ap) as [] p∧(ap.endLine == p.line)=true:=by
 refine ob_1_2 (Option.bind_eq_some_iff.mp h) fun c hc h=>?_
 refine ob_1_2 (Option.bind_eq_some_iff.mp h) fun a ha h=>?_
 refine ob_1_2 (Option.bind_eq_some_iff.mp h) fun x hx h=>?_
 refine bC (qq h) fun h1 h2=>?_
 cases h2
 refine ob_1_1 (dE hx) fun yp hy=>?_
 exact (ib_3_2 yp a.2.2 c.2.2 (by rw [nF hc,nE ha,hy]) h1)
theorem mE{sc:List (Str×NameKind)}{e k:Expr}(h:gM sc e=some k):∃ np p,e=.Call (.Name "range" np) [k] [] p∧bz sc "range"=true∧bw k=true:=by
 unfold gM at h
 refine fH (ou e) (fun hc=>?_) fun c hc=>?_
 ·rw [hc] at h;exact cq h
 ·skip
  rw [hc] at h
  obtain ⟨r,as⟩:=c
  match as with
  | []=>exact cq h
  | [a]=>
   refine bC (qq h) fun h1 h2=>?_
   subst h2
   simp only [Bool.and_eq_true,Bool.and_eq_true,decide_eq_true_eq] at h1
   refine rO fun C kC=>?_
   obtain ⟨⟨rfl,h2⟩,h3⟩:=h1
   refine ob_2_1 (nK hc) fun np p hq92_2=>?_
   subst hq92_2
   refine kC ?_
   exact ⟨np,p,rfl,h2,h3⟩
  | _::_::_=>exact cq h
noncomputable def Hh:PE→Bool
 | .not _ | .and .. | .or .. | .cmp .. | .cmp2 .. | .bool _ | .loc _ | .call .. | .attr .. | .sub ..=>false
 | _=>true
section
variable {X:Cx} {A:Around} {env:Env} {nm:List Str} {K:Frag} {fI:Addr} {T:TC} {sc:List (Str×NameKind)}
theorem Fq{e:Expr}{p:PE}(h:Hh p=true):JT X A env nm e p:=by
 intro ρ σ r hr
 cases p<;>first | (exact j9 h;done) | (exact cq hr;done)
theorem el{e:Expr}{p:PE}(J:JE X A env nm e p)(h:Hh p=true):JJ X A env nm e p:=⟨J,Fq h⟩
theorem DM{e:Expr}:JE X A env nm e .bad:=by
 intro ρ σ r hr
 exact cq hr
theorem bB{e:Expr}:JJ X A env nm e .bad:=el DM rfl
theorem Bi{e:Expr}{k:Nat}{ps:List PE}(J:JE X A env nm e (.call k ps))(he:∀ whole,isTrue e env whole=(do let v←whole;standAt e.pos;holding [v] (truthy v))):JT X A env nm e (.call k ps):=
 oO (fun ρ σ=>by simp only [af,ai,er]) J he
theorem Bj{e:Expr}{k:PE}{a:Str}(J:JE X A env nm e (.attr k a))(he:∀ whole,isTrue e env whole=(do let v←whole;standAt e.pos;holding [v] (truthy v))):JT X A env nm e (.attr k a):=
 oO (fun ρ σ=>by simp only [ag,aq,er]) J he
theorem DN{e:Expr}{k i:PE}(J:JE X A env nm e (.sub k i))(he:∀ whole,isTrue e env whole=(do let v←whole;standAt e.pos;holding [v] (truthy v))):JT X A env nm e (.sub k i):=
 oO (fun ρ σ=>by rw [az,aH,er];congr 1;funext v σ;simp only [er]) J he
theorem DO{i:Int}{k:Nat}{p pos:Pos}:JE X A env nm (.UnaryOp .USub (.Constant (.int i) k p) pos) (.int (-i)):=by
 intro ρ σ r hr g oth F s Q E H P
 obtain rfl:=Option.some.inj hr
 exact UnaryOp_ (wpAny_Constant_int (neg_int (P _ _ _ g (.refl g) H (.int _ _))))
theorem nt{go:Expr→PE}:∀ {es:List Expr},(∀ e,JE X A env nm e (go e))→es.all bw=true→JL X A env nm es (es.map go)
 | [],_,_=>qY
 | e::es,h,hn=>by
  simp only [List.all_cons,Bool.and_eq_true,kj] at hn
  exact lx hn.1 (h e) (nt h hn.2)
theorem mc{e:Expr}{c:Bool}{p:PE}(h:c=true→JJ X A env nm e p):JJ X A env nm e (bif c then p else .bad):=by
 cases c with
 | true=>exact h rfl
 | false=>exact bB
theorem DP{go:Expr→PE}(hg:∀ e,JE X A env nm e (go e)):∀ {ks:List (Option Expr)} {xs:List Str} {es:List Expr},gY ks=some xs→xs.length=es.length→JD X A env nm ks es xs (es.map go):=by
 intro ks
 induction ks with
 | nil=>
  intro xs es h hl
  obtain rfl:=Option.some.inj h
  cases es with
  | nil=>exact .nil
  | cons _ _=>cases hl
 | cons k ks ih=>
  intro xs es h hl
  refine ob_4_3 (kT h) fun x n p ys hq142_4 hy hq142_6=>?_
  subst hq142_4
  subst hq142_6
  cases es with
  | nil=>cases hl
  | cons e es=>exact .cons (hg e) (ih hy (Nat.succ.inj hl))
theorem yE{c:Const}{k:Nat}{pos:Pos}:JJ X A env nm (.Constant c k pos) (u9 c):=by
 cases c<;>first | exact bB | exact el vg rfl | exact ⟨Ar,Ay⟩ | exact el xO rfl | exact el Db rfl
theorem rf(S:mD sc env){x:Str}{pos:Pos}:JJ X A env nm (.Name x pos) (tN sc nm x):=by
 refine mc fun hl=>?_
 cases hi:bD nm x with
 | some i=>exact ⟨qV (S.loc x hl) hi,Do (S.loc x hl) hi⟩
 | none=>exact bB
theorem Bl{go:Expr→PE}(G:∀ e,JE X A env nm e (go e)){m:Nat}{es:List Expr}{pos:Pos}(hs:fl es.length=true)(hn:es.all bw=true):JJ X A env nm (.List es pos) (tO m (es.map go)):=by
 have J:=nt G hn
 have hl:fl (es.map go).length=true:=by rw [List.length_map];exact hs
 unfold tO
 cases m == 1&&Cj (es.map go) with
 | true=>exact el (Dk J hl) rfl
 | false=>exact el (Dj J hl) rfl
theorem Bm{go:Expr→PE}(G:∀ e,JE X A env nm e (go e)){ks:List (Option Expr)}{vs:List Expr}{pos:Pos}:JJ X A env nm (.Dict ks vs pos) (tP ks (vs.map go)):=by
 unfold tP
 refine fH (gY ks) (fun hk=>?_) fun xs hk=>?_
 ·simp only [hk];exact bB
 ·simp only [hk];skip
  refine mc fun hl=>?_
  simp only [List.length_map,beq_iff_eq] at hl
  have J:=DP (X:=X) (A:=A) (env:=env) (nm:=nm) (go:=go) G hk hl
  cases ks with
  | nil=>
   obtain rfl:=Option.some.inj hk
   cases vs with
   | nil=>exact el AI rfl
   | cons _ _=>cases hl
  | cons k ks=>exact el (Dy J fun q=>nomatch q) rfl
theorem vB{go:Expr→PE}(G:∀ e,JE X A env nm e (go e)):∀ e,JP X A env nm e (tQ go e)
 | none=>rfl
 | some e=>G e
theorem Bn{go:Expr→PE}(G:∀ e,JE X A env nm e (go e)){v i:Expr}{pos:Pos}:JJ X A env nm (.Subscript v i pos) (bif mX i then .sub (go v) (go i) else .bad):=
 mc fun h=>by
  have J:=Di (pos:=pos) (G v) (G i) (sK h)
  exact ⟨J,DN J fun z9=>rfl⟩
set_option tactic.hygienic true in
theorem DQ{go:Expr→PE}(G:∀ e,JE X A env nm e (go e)){v i:Expr}{pos:Pos}:JJ X A env nm (.Subscript v i pos) (Ck go v i):=by
 cases i<;>first | exact Bn G | skip
 rename_i lo hi st p
 cases st with
 | none=>exact el (Dr (G v) (vB G _) (vB G _)) rfl
 | some e=>exact bB
theorem DS{e:Expr}{c:Bool}{p:PE}(h:c=false→JJ X A env nm e p):JJ X A env nm e (bif c then .bad else p):=by
 cases c with
 | true=>exact bB
 | false=>exact h rfl
theorem DT(W:re X A K fI T){go:Expr→PE}(G:∀ e,JE X A env nm e (go e)){a:Expr}{ops:List CmpOp}{cs:List Expr}{pos:Pos}:JJ X A env nm (.Compare a ops cs pos) (Cl go a ops cs):=by
 match ops,cs with
 | [],_=>exact bB
 | [_],[]=>exact bB
 | [op],[b]=>
  refine (?_:JJ X A env nm _ (match xJ op with | some o=>bif behindInMarks op b then .bad else .cmp o (go a) (go b) | none=>.bad))
  cases ho:xJ op with
  | none=>exact bB
  | some o=>exact DS fun hm=>⟨Dd (G _) (G _) hm (lw W.top.sys W.hu ho),De (G _) (G _) hm (lw W.top.sys W.hu ho)⟩
 | [_],_::_::_=>exact bB
 | [_,_],[]=>exact bB
 | [_,_],[_]=>exact bB
 | [o1,o2],[b,c]=>
  refine (?_:JJ X A env nm _ (match xJ o1,xJ o2 with | some p,some q=>bif lastMarks [o1,o2] [b,c] then .bad else .cmp2 p q (go a) (go b) (go c) | _,_=>.bad))
  cases hp:xJ o1 with
  | none=>exact bB
  | some p=>cases hq:xJ o2 with
   | none=>exact bB
   | some q=>exact DS fun hm=>⟨AA (G _) (G _) (G _) hm (lw W.top.sys W.hu hp) (lw W.top.sys W.hu hq),AB (G _) (G _) (G _) hm (lw W.top.sys W.hu hp) (lw W.top.sys W.hu hq)⟩
 | [_,_],_::_::_::_=>exact bB
 | _::_::_::_,_=>exact bB
theorem um{f:PE→PE→PE}{go:Expr→PE}(G:∀ e,JE X A env nm e (go e)):∀ (e:Expr) (es:List Expr),JB X A env nm f (e::es) (rV f ((e::es).map go))
 | e,[]=>.one (G e)
 | e,e'::es=>.more (G e) (um G e' es)
theorem ri{f:PE→PE→PE}{go:Expr→PE}(G:∀ e,JT X A env nm e (go e)):∀ (e:Expr) (es:List Expr),Cs X A env nm f (e::es) (rV f ((e::es).map go))
 | e,[]=>.one (G e)
 | e,e'::es=>.more (G e) (ri G e' es)
theorem pf:∀ {ks:List (Option Expr)} {xs:List Str},gY ks=some xs→ks.all (·.isSome)=true∧ks.length=xs.length:=by
 intro ks
 induction ks with
 | nil=>intro xs h;obtain rfl:=Option.some.inj h;exact ⟨rfl,rfl⟩
 | cons k ks ih=>
  intro xs h
  refine ob_4_3 (kT h) fun x n p ys hq225_4 hy hq225_6=>?_
  subst hq225_4
  subst hq225_6
  exact ⟨(ih hy).1,congrArg Nat.succ (ih hy).2⟩
theorem uo:∀ {ks:List Expr} {xs:List Int},mZ ks=some xs→ks.length=xs.length:=by
 intro ks
 induction ks with
 | nil=>intro xs h;obtain rfl:=Option.some.inj h;rfl
 | cons k ks ih=>
  intro xs h
  refine ob_1_2 (Option.bind_eq_some_iff.mp h) fun x hx h=>?_
  refine ob_1_2 (Option.map_eq_some_iff.mp h) fun ys hy hq234_2=>?_
  subst hq234_2
  exact congrArg Nat.succ (ih hy)
set_option tactic.hygienic true in
theorem DU(W:re X A K fI T)(O:dI env){f:Str}(hg:bz env.scope.names f=true){a:Expr}{p:PE}(hn:bw a=true)(J:JE X A env nm a p){np pos:Pos}:JJ X A env nm (.Call (.Name f np) [a] [] pos) (G9 f p):=by
 unfold G9
 split
 ·rename_i q;subst q;exact el (Dt W.top O hg hn J) rfl
 split
 ·rename_i q;subst q;exact el (xV W.top O hg hn J) rfl
 split
 ·rename_i q;subst q;exact el (Du W.top O hg hn J) rfl
 split
 ·rename_i q;subst q;exact el (Dv W.hh W.top O hg hn J) rfl
 split
 ·rename_i q;subst q;exact el (xX W.top O hg hn J) rfl
 exact bB
theorem yF(W:re X A K fI T)(O:dI env)(S:mD sc env){go:Expr→PE}(G:∀ e,JE X A env nm e (go e)){f:Str}{as:List Expr}{np pos:Pos}:JJ X A env nm (.Call (.Name f np) as [] pos) (u_ T go sc nm f as):=by
 refine DS fun h=>?_
 simp only [Bool.not_eq_false',Bool.and_eq_true] at h
 have hg:=S.glob f h.1
 have J:=nt G h.2
 have hn:=h.2
 cases hk:bE f T.fns with
 | some k=>
  have J:=AD (np:=np) (pos:=pos) W.top O hk hg (W.kF f k hk) J hn
  exact ⟨J,Bi J fun z9=>rfl⟩
 | none=>
  refine (?_:JJ X A env nm _ (if f="Raised" then _ else _))
  by_cases q:f="Raised"
  ·rw [if_pos q];subst q
   exact el ((m9 W.top O W.ro (by have:=W.hroom;lia) hg J hn).je fun z9 z9 z9 z9 z9=>trivial) rfl
  rw [if_neg q]
  by_cases q:f="Comp"
  ·rw [if_pos q];subst q
   exact el (t_ W.top O W.ko W.kI W.fr hg J hn) rfl
  rw [if_neg q]
  match as with
  | []=>exact bB
  | [a]=>
   have hn1:=(Bool.and_eq_true _ _).mp ((List.all_cons (l:=[])).symm.trans hn)
   refine (?_:JJ X A env nm _ (match bif T.mode == 2&&f == ("tuple":Str) then eW a else none with | some x=>_ | none=>_))
   refine fH ((bif T.mode == 2&&f == ("tuple":Str) then eW a else none)) (fun hx=>?_) fun x hx=>?_
   ·rw [hx];exact DU W O hg hn1.1 (G _)
   ·rw [hx];skip
    cases hb:T.mode == 2&&f == ("tuple":Str) with
    | false=>rw [hb] at hx;exact cq hx
    | true=>
     rw [hb] at hx
     refine ob_1_1 (dE hx) fun xp hq289_1=>?_
     subst hq289_1
     simp only [Bool.and_eq_true,beq_iff_eq,beq_iff_eq] at hb
     obtain ⟨_,rfl⟩:=hb
     refine mc fun hl=>?_
     cases hi:bD nm x with
     | some i=>exact el (wm W.top O hg (S.loc _ hl) hi) rfl
     | none=>exact bB
  | _::_::_=>exact bB
theorem DV(W:re X A K fI T)(S:mD sc env){ks:List (Option Expr)}{vs as:List Expr}{dp ap pos:Pos}(hline:(ap.endLine == pos.line)=true):JJ X A env nm (.Call (.Attribute (.Dict ks vs dp) "get" ap) as [] pos) (Cm sc nm ks vs as):=by
 match as with
 | []=>exact bB
 | [_]=>exact bB
 | [a,b]=>
  refine (?_:JJ X A env nm _ (match eW a,nC b with | some x,some d=>_ | _,_=>_))
  cases ha:eW a with
  | none=>exact bB
  | some x=>cases hb:nC b with
   | none=>exact bB
   | some d=>
    refine ob_1_1 (dE ha) fun xp hq308_1=>?_
    subst hq308_1
    refine ob_2_1 (lV hb) fun k p hq303_2=>?_
    subst hq303_2
    refine mc fun h=>?_
    simp only [Bool.and_eq_true] at h
    cases h1:gY ks with
    | none=>exact bB
    | some k1=>cases h2:mZ vs with
     | none=>exact bB
     | some i1=>cases h3:bD nm x with
      | none=>exact bB
      | some i=>exact el (AJ W.top.sys h1 h2 (by rintro rfl;cases h.2) (pf h1).1 (pf h1).2 (uo h2) hline (S.loc _ h.1) h3) rfl
 | _::_::_::_=>exact bB
theorem Bo(W:re X A K fI T){go:Expr→PE}(G:∀ e,JE X A env nm e (go e)){o:Expr}{m:Str}{as:List Expr}{ap pos:Pos}(hb:fv o=true)(hline:(ap.endLine == pos.line)=true)(hn:as.all bw=true):JJ X A env nm (.Call (.Attribute o m ap) as [] pos) (tR T go o m as):=by
 unfold tR
 have J:=nt G hn
 cases hk:bE m T.meths with
 | some k=>exact mc fun hl=>el (AL W.ko hk (W.kM m k hk) hb hline (G o) J hn (by have:=Nat.le_of_ble_eq_true hl;lia)) rfl
 | none=>
  match as with
  | []=>
   refine (?_:JJ X A env nm _ (if m="pop" then _ else _))
   by_cases q:m="pop"
   ·rw [if_pos q];subst q;exact el (Dx hb hline (G o)) rfl
   ·rw [if_neg q];exact bB
  | [a]=>
   have hn:=((Bool.and_eq_true _ _).mp ((List.all_cons (l:=[])).symm.trans hn)).1
   refine (?_:JJ X A env nm _ (if m="append" then _ else _))
   by_cases q:m="append"
   ·rw [if_pos q];subst q;exact el (wq hb hline hn (G _) (G _)) rfl
   rw [if_neg q]
   by_cases q:m="strip"
   ·rw [if_pos q];subst q;exact el (ya hb hline hn (G _) (G _)) rfl
   rw [if_neg q]
   by_cases q:m="join"
   ·rw [if_pos q];subst q;exact el (AH hb hline hn (G _) (G _)) rfl
   rw [if_neg q]
   by_cases q:m="count"
   ·rw [if_pos q];subst q;exact el (x_ hb hline hn (G _) (G _)) rfl
   ·rw [if_neg q];exact bB
  | [a,b]=>
   have hn:=(Bool.and_eq_true _ _).mp ((List.all_cons (l:=[b])).symm.trans hn)
   have hn2:=((Bool.and_eq_true _ _).mp ((List.all_cons (l:=[])).symm.trans hn.2)).1
   refine (?_:JJ X A env nm _ (if m="find" then _ else _))
   by_cases q:m="find"
   ·rw [if_pos q];subst q;exact el (AG hb hline hn.1 hn2 (G _) (G _) (G _)) rfl
   ·rw [if_neg q];exact bB
  | _::_::_::_=>exact bB
theorem Bp(W:re X A K fI T)(O:dI env)(S:mD sc env){go:Expr→PE}(G:∀ e,JE X A env nm e (go e)){f:Expr}{as:List Expr}{pos:Pos}:JJ X A env nm (.Call f as [] pos) (tS T go sc nm f as pos):=by
 unfold tS
 cases hf:eW f with
 | some x=>
  refine ob_1_1 (dE hf) fun xp hq361_1=>?_
  subst hq361_1
  exact yF W O S G
 | none=>
  refine fH (qQ f) (fun ha=>?_) fun c ha=>?_
  ·rw [ha];exact bB
  ·rw [ha];skip
   obtain ⟨o,m,ap⟩:=c
   obtain rfl:f=.Attribute o m ap:=nE ha
   refine mc fun hl=>?_
   cases hd:tL o with
   | some c=>
    obtain ⟨ks,vs⟩:=c
    refine ob_1_1 (rW hd) fun dp hq373_1=>?_
    subst hq373_1
    refine mc fun h=>?_
    simp only [decide_eq_true_eq] at h
    subst h
    exact DV W S hl
   | none=>
    refine mc fun h=>?_
    simp only [Bool.and_eq_true] at h
    exact Bo W G h.1 hl h.2
end
end Mine.Internal
end
section
open PySem PySem.W PyProof.Rows PySem.Calls
namespace Mine.Internal
section
variable {X:Cx} {A:Around} {env:Env} {nm:List Str} {K:Frag} {fI:Addr} {T:TC} {sc:List (Str×NameKind)}
theorem rj(S:mD sc env){xs:List Str}{scope:Scope}(h:rX sc nm xs scope=true):CS env nm xs scope:=by
 unfold rX at h
 rw [Bool.and_eq_true,Bool.and_eq_true,List.all_eq_true,List.all_eq_true] at h
 refine bC h fun hq10_0 h3=>?_
 obtain ⟨h1,h2⟩:=hq10_0
 have k1:scope.kind=.function:=by revert h1;cases scope.kind<;>decide
 have h2:∀ y∈scope.names,y.2≠.cell∧(y.2=.local→bE y.1 scope.names=some .local)∧(y.2=.free→bE y.1 sc=some .cell)∧(y.2=.local→y.1∈xs∨bD nm y.1=none):=by
  intro y hy
  have:=h2 y hy
  simp only [Bool.and_eq_true,Bool.and_eq_true,Bool.and_eq_true] at this
  refine bC this fun hq16_0 d=>?_
  obtain ⟨⟨a,b⟩,c⟩:=hq16_0
  refine ⟨fun q=>?_,fun q=>?_,fun q=>?_,fun q=>?_⟩
  ·rw [q] at a;revert a;decide
  ·rw [q] at b;revert b;cases bE y.1 scope.names with
   | none=>decide
   | some k=>cases k<;>decide
  ·rw [q] at c;revert c;cases bE y.1 sc with
   | none=>decide
   | some k=>cases k<;>decide
  ·rw [q] at d
   refine Or.elim (Bool.or_eq_true _ _ |>.mp d) (fun d=>?_) fun d=>?_
   ·rcases Bool.or_eq_true _ _ |>.mp d with d | d
    ·exact absurd d (by decide)
    ·refine ob_1_2 (List.any_eq_true.mp d) fun x hx e=>?_
     simp only [decide_eq_true_eq] at e
     subst e;exact .inl hx
   ·exact .inr (by simpa using d)
 have h3:∀ x∈xs,bE x scope.names=some .local∧fV x:=by
  intro x hx
  have:=h3 x hx
  simp only [Bool.and_eq_true] at this
  refine ⟨?_,kY this.2⟩
  have:=this.1
  revert this;cases bE x scope.names with
   | none=>decide
   | some k=>cases k<;>decide
 refine ⟨k1,fun y hy=>(h2 y hy).1,fun y hy q=>?_,fun x hx=>?_,fun y q=>?_,fun y hy q=>S.cell _ ((h2 y hy).2.2.1 q),fun x hx=>(h3 x hx).2⟩
 ·rw [← bA];exact (h2 y hy).2.1 q
 ·rw [← bA];exact (h3 x hx).1
 ·exact (h2 _ (mem_of_lookup q)).2.2.2 rfl
theorem vC{xs:List Str}{scope:Scope}(S:CS env nm xs scope)(hk:env.scope.kind=.function)(C:Addr):mD scope.names (eG env scope C):=
 ⟨S.kind,fun y h=>ui S hk h,fun y h=>sH S hk h,fun y h=>by rw [bA] at h;exact absurd rfl (S.nocell _ (mem_of_lookup h))⟩
noncomputable def yG(X:Cx)(A:Around)(env:Env)(nm:List Str)(elt:Expr)(gen:Comprehension)(scope:Scope)(p:PE):Prop:=
 ∃ x px it ifs pe pc,gen=⟨.Name x px,it,ifs,0⟩∧CS env nm [x] scope∧dD it=true∧Fi X A env nm it pe pc p∧(∀ C,JE X A (eG env scope C) (nm++[x]) elt pe)∧(∀ C,Cy X A (eG env scope C) (nm++[x]) ifs pc)∧
  (∀ vs σ' ρ σ r,ev X.C ρ p σ=some r→r=.ok vs σ'→∃ dn,vs=.lst dn)∧Hh p=true
theorem sL{elt it:Expr}{x:Str}{px:Pos}{ifs:List Expr}{scope:Scope}{pit pe pc:PE}(S:CS env nm [x] scope)(hs:dD it=true)(Ji:JE X A env nm it pit)(Je:∀ C,JE X A (eG env scope C) (nm++[x]) elt pe)(Jc:∀ C,Cy X A (eG env scope C) (nm++[x]) ifs pc) :
  yG X A env nm elt ⟨.Name x px,it,ifs,0⟩ scope (.comp pe pit pc):=
 (ib_6_8 x px it ifs pe pc rfl S (by rw [← nr];exact hs) (yA Ji) Je Jc (fun vs σ' ρ σ r h q=>yC h q) rfl)
theorem md{g:Comprehension}{x:Str}{it:Expr}{ifs:List Expr}(h:kB g=some (x,it,ifs)):∃ px,g=⟨.Name x px,it,ifs,0⟩:=by
 obtain ⟨t,i,s,n⟩:=g
 unfold kB at h
 cases hn:(n == 0:Bool) with
 | false=>simp only [hn] at h;exact cq h
 | true=>
  simp only [hn] at h
  refine ob_1_2 (Option.map_eq_some_iff.mp h) fun y hy h=>?_
  cases h
  obtain ⟨px,rfl⟩:=dE hy
  simp only [beq_iff_eq] at hn
  exact ⟨px,by rw [hn]⟩
theorem vD(W:re X A K fI T)(O:dI env)(S:mD sc env){go:Expr→PE}{inn:List (Str×NameKind)→List Str→Expr→PE}(G:∀ e,JE X A env nm e (go e))
  (I:∀ env' sc' nm' e,dI env'→mD sc' env'→JJ X A env' nm' e (inn sc' nm' e)) {elt:Expr} {gen:Comprehension} {scope:Scope}:ow T go inn sc nm elt [gen] scope=.bad∨yG X A env nm elt gen scope (ow T go inn sc nm elt [gen] scope):=by
 show (match kB gen with | some (x,it,ifs)=>_ | none=>_)=_∨yG X A env nm elt _ scope (match kB gen with | some (x,it,ifs)=>_ | none=>_)
 cases hg:kB gen with
 | none=>exact .inl rfl
 | some c=>
 obtain ⟨x,it,ifs⟩:=c
 refine ob_1_1 (md hg) fun px hq73_1=>?_
 subst hq73_1
 refine (?_:(bif !(rX sc nm [x] scope&&dD it) then PE.bad else _)=_∨yG X A env nm elt _ scope (bif !(rX sc nm [x] scope&&dD it) then PE.bad else _))
 cases h:rX sc nm [x] scope&&dD it with
 | false=>exact .inl rfl
 | true=>
 simp only [Bool.and_eq_true] at h
 have CSk:=rj (nm:=nm) S h.1
 have Je:∀ C,JE X A (eG env scope C) (nm++[x]) elt (inn scope.names (nm++[x]) elt):=fun C=>(I _ _ _ _ (oh O) (vC CSk S.kind C)).1
 have Jn:∀ C,Cy X A (eG env scope C) (nm++[x]) [] (.bool true):=fun C=>.inl ⟨rfl,rfl⟩
 refine (?_:(match gM sc it with | some k=>_ | none=>_)=_∨yG X A env nm elt _ scope (match gM sc it with | some k=>_ | none=>_))
 cases hr:gM sc it with
 | some k=>
  cases ifs with
  | nil=>
   obtain ⟨np,p,rfl,hg,hn⟩:=mE hr
   exact .inr (ib_6_8 x px _ ([]) _ _ rfl CSk rfl (wI W.top O (S.glob _ hg) (by rw [← kj];exact hn) (G _)) Je Jn (fun vs σ' ρ σ r h q=>wJ h q) rfl)
  | cons=>exact .inl rfl
 | none=>
  match ifs with
  | []=>exact .inr (sL CSk h.2 (G _) Je Jn)
  | [c]=>exact .inr (sL CSk h.2 (G _) Je fun C=>.inr ⟨c,rfl,(I _ _ _ _ (oh O) (vC CSk S.kind C)).2⟩)
  | _::_::_=>exact .inl rfl
theorem Bq(W:re X A K fI T)(O:dI env)(S:mD sc env){go:Expr→PE}{inn:List (Str×NameKind)→List Str→Expr→PE}(G:∀ e,JE X A env nm e (go e))
  (I:∀ env' sc' nm' e,dI env'→mD sc' env'→JJ X A env' nm' e (inn sc' nm' e)) {elt:Expr} {gens:List Comprehension} {scope:Scope} {pos:Pos}:JJ X A env nm (.ListComp elt gens scope pos) (ow T go inn sc nm elt gens scope):=by
 match gens with
 | []=>exact bB
 | [gen]=>
  rcases vD W O S G I (elt:=elt) (gen:=gen) (scope:=scope) with h | ⟨x,px,it,ifs,pe,pc,rfl,CSk,hs,Sr,Je,Jc,hp,ht⟩
  ·simp only [h];exact bB
  ·exact el (yB W.hh CSk hs hp Sr Je Jc) ht
 | [g1,g2]=>
  refine (?_:JJ X A env nm _ (match kB g1,kB g2 with | some (x,it,[]),some (y,it2,[])=>_ | _,_=>_))
  cases h1:kB g1 with
  | none=>exact bB
  | some c1=>
   obtain ⟨x,it,ifs⟩:=c1
   cases ifs with
   | cons=>exact bB
   | nil=>cases h2:kB g2 with
    | none=>exact bB
    | some c2=>
     obtain ⟨y,it2,ifs2⟩:=c2
     cases ifs2 with
     | cons=>exact bB
     | nil=>
      refine ob_1_1 (md h1) fun px hq118_1=>?_
      subst hq118_1
      refine ob_1_1 (md h2) fun py hq119_1=>?_
      subst hq119_1
      refine mc fun h=>?_
      simp only [Bool.and_eq_true,Bool.and_eq_true,Bool.and_eq_true,Bool.and_eq_true,decide_eq_true_eq,nr,nr] at h
      have S1:=rj (nm:=nm) S h.1.1.1.1
      exact el (yD W.hh h.1.1.2 S1 (rj (nm:=nm) S h.1.1.1.2) h.1.2 h.2 (G _) (fun C=>(I _ _ _ _ (oh O) (vC S1 S.kind C)).1) (fun C=>(I _ _ _ _ (oh O) (vC S1 S.kind C)).1)) rfl
 | _::_::_::_=>exact bB
theorem pg:∀ (n:Nat) {T:TC} {env:Env} {sc:List (Str×NameKind)} {nm:List Str},re X A K fI T→dI env→mD sc env→∀ e,JJ X A env nm e (jQ n T sc nm e):=by
 intro n
 induction n with
 | zero=>intro T env sc nm W O S e;exact bB
 | succ n ih=>
  intro T env sc nm W O S e
  have G2:∀ e,JJ X A env nm e (jQ n T sc nm e):=ih W O S
  have G:∀ e,JE X A env nm e (jQ n T sc nm e):=fun e=>(G2 e).1
  cases e with
  | Constant=>exact yE
  | Name=>exact rf S
  | UnaryOp op a p=>cases op with
   | Not=>exact ⟨Dl (G _),Dm (G2 _).2⟩
   | USub=>cases a with
    | Constant c k p=>cases c with
     | int i=>exact el DO rfl
     | _=>exact bB
    | _=>exact bB
   | _=>exact bB
  | Tuple es c p=>
   refine mc fun h=>?_
   simp only [Bool.and_eq_true] at h
   exact el (xU (nt G h.2) (by rw [List.length_map];exact h.1)) rfl
  | List es p=>
   refine mc fun h=>?_
   simp only [Bool.and_eq_true] at h
   exact Bl G h.1 h.2
  | Dict ks vs p=>exact mc fun z9=>Bm G
  | Subscript=>exact DQ G
  | Attribute v a p=>
   refine mc fun h=>?_
   simp only [Bool.and_eq_true] at h
   have J:=vk (pos:=p) W.ko.toKOK h.2 h.1 (G _)
   exact ⟨J,Bj J fun z9=>rfl⟩
  | BinOp a op b p=>
   refine (?_:JJ X A env nm _ (match xI op with | some o=>.bin o (jQ n T sc nm a) (jQ n T sc nm b) | none=>.bad))
   refine fH (xI op) (fun ho=>?_) fun o ho=>?_
   ·rw [ho];exact bB
   ·rw [ho];exact el (Dc (G _) (G _) (fun x y z hz g oth σ s H=>As ho x y z hz g oth σ s H)) rfl
  | Compare=>exact DT (W.mode0 0) fun e=>(ih (W.mode0 0) O S e).1
  | BoolOp op es p=>cases op with
   | And=>cases es with
    | nil=>exact bB
    | cons e es=>exact ⟨Dp (um G e es),Dq (ri (fun e=>(G2 e).2) e es)⟩
   | Or=>cases es with
    | nil=>exact bB
    | cons e es=>exact ⟨E_ (um G e es),Fa (ri (fun e=>(G2 e).2) e es)⟩
  | IfExp=>exact el (Dn (G2 _).2 (G _) (G _)) rfl
  | Call f as ks p=>cases ks with
   | nil=>exact Bp W O S G
   | cons=>exact bB
  | ListComp=>exact Bq W O S G fun env' sc' nm' e O' S'=>ih (W.mode0 0) O' S' e
  | _=>exact bB
end
end Mine.Internal
end
section
open PySem PySem.W PyProof.Rows PySem.Calls
namespace Mine.Internal
section
variable {X:Cx} {A:Around} {wn:Nat} {env:Env} {nm:List Str} {K:Frag} {fI:Addr} {T:TC} {sc:List (Str×NameKind)}
theorem lB(h:env.scope.names=sc)(x:Str):env.kindOf x=bE x sc:=by
 simp only [bA,← h];rfl
theorem sM(h:env.scope.names=sc)(hk:env.scope.kind=.function):mD sc env:=
 ⟨hk,fun y q=>by rw [h];exact q,fun y q=>by rw [h];exact q,fun y q=>by rw [lB h];exact q⟩
theorem ct{st:Stmt}:JS X A wn env nm st .bad:=by
 intro ρ σ r hr
 exact cq hr
theorem rk{go:Stmt→PS}(G:∀ s,JS X A wn env nm s (go s)):∀ ss:List Stmt,tB X A wn env nm ss (ss.map go)
 | []=>vp
 | s::ss=>su (G s) (rk G ss)
theorem pj(h:env.scope.names=sc){x:Str}{i:Nat}(q:jR sc nm x=some i):bt env.scope.names x=true∧bD nm x=some i:=by
 unfold jR at q
 rw [h]
 cases l:bt sc x with
 | true=>rw [l] at q;exact ⟨rfl,q⟩
 | false=>rw [l] at q;exact cq q
theorem yH(h:env.scope.names=sc):∀ {ts:List Expr} {is:List Nat},oy sc nm ts=some is→TN env nm ts is:=by
 intro ts
 induction ts with
 | nil=>intro is q;obtain rfl:=Option.some.inj q;exact .nil
 | cons t ts ih=>
  intro is q
  refine ob_1_2 (Option.bind_eq_some_iff.mp q) fun x hx q=>?_
  refine ob_1_2 (Option.bind_eq_some_iff.mp q) fun i hi q=>?_
  refine ob_1_2 (Option.map_eq_some_iff.mp q) fun js hj hq31_2=>?_
  subst hq31_2
  refine ob_1_1 (dE hx) fun p hq33_1=>?_
  subst hq33_1
  refine bC (pj h hi) fun a b=>?_
  exact .cons a b (ih hj)
theorem sN{st:Stmt}{c:Bool}{p:PS}(h:c=true→JS X A wn env nm st p):JS X A wn env nm st (bif c then p else .bad):=by
 cases c with
 | true=>exact h rfl
 | false=>exact ct
theorem vE{go:Expr→PE}:∀ {es:List Expr},(∀ e∈es,JE X A env nm e (go e))→es.all bw=true→JL X A env nm es (es.map go)
 | [],_,_=>qY
 | e::es,h,hn=>by
  simp only [List.all_cons,Bool.and_eq_true,kj] at hn
  exact lx hn.1 (h e (.head _)) (vE (fun e he=>h e (.tail _ he)) hn.2)
theorem up(KO:KOK X.base K)(S:mD sc env)(n:Nat){e:Expr}(h:qR e=true):JE X A env nm e (jQ (n+2) T sc nm e):=by
 have i:=tJ e
 have h:(vw e).sim=true:=h
 generalize vw e=v at i h
 cases v with
 | cst c=>cases c<;>first | exact j9 h | exact ob_2_1 i fun k p e=>e▸vg
 | name x=>exact i.elim fun p e=>e▸(rf S).1
 | attr o a p=>
  refine jF h fun h1 h2=>(Option.isSome_iff_exists.mp h1).elim fun x hx=>(dE hx).elim fun xp eo=>?_
  subst eo
  obtain rfl:e=_:=i
  refine (?_:JE X A env nm _ (bif fD a&&fv (.Name x xp) then .attr (tN sc nm x) a else .bad))
  rw [h2]
  exact vk KO rfl h2 (rf S).1
 | _=>exact j9 h
theorem wL(KO:KOK X.base K)(S:mD sc env)(n:Nat){e:Expr}(h:vd sc e=true):JE X A env nm e (jQ (n+3) T sc nm e):=by
 have i:=tJ e
 have h:(vw e).tu.any (fun es=>es.all qR)=true:=h
 generalize vw e=v at i h
 cases v with
 | tup es=>
  refine ob_2_1 i fun c p e=>e▸?_
  refine (mc (X:=X) (A:=A) (env:=env) (nm:=nm) (c:=fl es.length&&es.all bw) fun hc=>?_).1
  simp only [Bool.and_eq_true] at hc
  exact el (xU (vE (fun e he=>up KO S n (List.all_eq_true.mp h e he)) hc.2) (by rw [List.length_map];exact hc.1)) rfl
 | _=>exact j9 h
theorem Br(W:re X A K fI T)(O:dI env)(hn:env.scope.names=sc)(hk:env.scope.kind=.function)(n:Nat){x:Str}{xp:Pos}{i:Nat}{elt:Expr}{g:Comprehension}{sc':Scope}{p pos:Pos}(l1:bt env.scope.names x=true)(l2:bD nm x=some i)
  (hs:tT sc x xp.line p.line sc'=true):JS X A wn env nm (.Assign [.Name x xp] (.ListComp elt [g] sc' p) pos) (.asg i (jQ (n+1) T sc nm (.ListComp elt [g] sc' p))):=by
 have S:=sM hn hk
 unfold tT at hs
 rcases Bool.or_eq_true _ _ |>.mp hs with h | h
 ·simp only [Bool.and_eq_true,Bool.and_eq_true] at h
  have hkd:env.kindOf x=some .local:=by
   rw [lB hn]
   have:=h.1.1
   revert this
   cases bE x sc with
   | none=>decide
   | some k=>cases k<;>decide
  have hsw:swapsWith (.ListComp elt [g] sc' p) (some (.Name x xp)) pos.line env=pure true:=by
   refine (?_:(pure (env.blockKind == .function&&env.kindOf x == some .local&&xp.line == p.line&&!(sc'.names.any fun (n,k)=>n == x&&(k == .local || k == .cell))):Sem Bool)=pure true)
   simp only [h.2,hkd,h.1.2,show env.blockKind=.function from by unfold Env.blockKind;rw [hk];rfl]
   rfl
  have hg:jQ (n+1) T sc nm (.ListComp elt [g] sc' p)=ow T (jQ n T sc nm) (jQ n { T with mode:=0 }) sc nm elt [g] sc':=rfl
  rw [hg]
  rcases vD W O S (fun e=>(pg n W O S e).1) (fun env' sc' nm' e O' S'=>pg n (W.mode0 0) O' S' e) (elt:=elt) (gen:=g) (scope:=sc') with h | ⟨x',px,it,ifs,pe,pc,rfl,CSk,hs,Sr,Je,Jc,hp,ht⟩
  ·rw [h]
   intro ρ σ r hr
   exact cq hr
  ·exact Bh W.hh CSk hs hsw l1 l2 Sr Je Jc
 ·have hsw:swapsWith (.ListComp elt [g] sc' p) (some (.Name x xp)) pos.line env=pure false:=by
   refine (?_:(pure (env.blockKind == .function&&env.kindOf x == some .local&&xp.line == p.line&&!(sc'.names.any fun (n,k)=>n == x&&(k == .local || k == .cell))):Sem Bool)=pure false)
   have:(env.kindOf x == some .local)=false:=by
    rw [lB hn]
    revert h
    cases bE x sc with
    | none=>decide
    | some k=>cases k<;>decide
   simp only [this,Bool.and_false,Bool.false_and,Bool.false_and]
  exact Bg hsw l1 l2 (pg (n+1) W O S _).1
theorem DW(W:re X A K fI T)(O:dI env)(hn:env.scope.names=sc)(hk:env.scope.kind=.function)(n:Nat){t e:Expr}{pos:Pos}:JS X A wn env nm (.Assign [t] e pos) (Cn T (jQ (n+1) T sc nm) sc nm t e):=by
 have S:=sM hn hk
 have G2:∀ e,JJ X A env nm e (jQ (n+1) T sc nm e):=pg (n+1) W O S
 have G:∀ e,JE X A env nm e (jQ (n+1) T sc nm e):=fun e=>(G2 e).1
 cases t with
 | Name x xp=>
  refine (?_:JS X A wn env nm _ (match jR sc nm x with | none=>.bad | some i=>_))
  cases hi:jR sc nm x with
  | none=>exact ct
  | some i=>
   refine bC (pj hn hi) fun l1 l2=>?_
   refine (?_:JS X A wn env nm _ (bif fm e then _ else _))
   cases hc:fm e with
   | true=>
    have plain:JS X A wn env nm (.Assign [.Name x xp] e pos) (.asg i (jQ (n+1) T sc nm e)):=DE hc l1 l2 (G _)
    refine (?_:JS X A wn env nm _ (bif T.mode == 2&&u8 e then _ else _))
    cases hz:T.mode == 2&&u8 e with
    | true=>
     simp only [Bool.and_eq_true] at hz
     refine ob_1_1 (xK hz.2) fun p hq122_1=>?_
     subst hq122_1
     exact DH l1 l2
    | false=>
     refine (?_:JS X A wn env nm _ (match bif T.mode == 2 then mY e else none with | some (y,m,[])=>_ | _=>_))
     refine fH ((bif T.mode == 2 then mY e else none)) (fun hm=>?_) fun c hm=>?_
     ·rw [hm];exact plain
     ·rw [hm];skip
      obtain ⟨y,m,as⟩:=c
      cases as with
      | cons=>exact plain
      | nil=>
       cases h2:T.mode == 2 with
       | false=>rw [h2] at hm;exact cq hm
       | true=>
        rw [h2] at hm
        refine ob_3_2 (nM hm) fun yp ap p hq136_3 hq=>?_
        subst hq136_3
        refine (?_:JS X A wn env nm _ (bif decide (m="pop") then _ else _))
        cases hp:decide (m="pop") with
        | false=>exact plain
        | true=>
         simp only [decide_eq_true_eq] at hp
         subst hp
         refine (?_:JS X A wn env nm _ (match jR sc nm y with | some j=>_ | none=>_))
         cases hj:jR sc nm y with
         | none=>exact ct
         | some j=>
          refine bC (pj hn hj) fun m1 m2=>?_
          exact wG l1 l2 m1 m2 hq
   | false=>
    refine (?_:JS X A wn env nm _ (match Ao e with | some (elt,g,sc',p)=>_ | none=>_))
    refine fH (Ao e) (fun hl=>?_) fun c hl=>?_
    ·rw [hl];exact ct
    ·rw [hl];skip
     obtain ⟨elt,g,sc',p⟩:=c
     obtain rfl:e=.ListComp elt [g] sc' p:=wj hl
     exact sN fun hs=>Br W O hn hk n l1 l2 hs
 | Tuple ts c p=>
  refine sN fun ht=>?_
  refine fH (oy sc nm ts) (fun hi=>?_) fun is hi=>?_
  ·rw [hi];exact ct
  ·rw [hi];exact AV W.hh ht (yH hn hi) (G _)
 | Attribute=>exact AS W.ko (G _) (G _)
 | Subscript=>exact AT (G _) (G _) (G _)
 | _=>exact ct
theorem DY(W:re X A K fI T){E:Expr→PE}(G:∀ e,JE X A env nm e (E e))(hn:env.scope.names=sc){t e:Expr}{op:Operator}{pos:Pos}:JS X A wn env nm (.AugAssign t op e pos) (Co E sc nm t op e):=by
 cases op with
 | Add=>cases t with
  | Name x p=>
   refine (?_:JS X A wn env nm _ (match jR sc nm x with | some i=>_ | none=>_))
   cases hi:jR sc nm x with
   | none=>exact ct
   | some i=>
    refine bC (pj hn hi) fun l1 l2=>?_
    exact DG l1 l2 (G _)
  | Attribute=>exact sN fun ha=>AU W.ko ha (G _) (G _)
  | _=>exact ct
 | Sub=>
  refine (?_:JS X A wn env nm _ (match (eW t).bind (jR sc nm),nC e with | some i,some k=>_ | _,_=>_))
  cases ht:(eW t).bind (jR sc nm) with
  | none=>exact ct
  | some i=>cases he:nC e with
   | none=>exact ct
   | some k=>
    refine ob_1_2 (Option.bind_eq_some_iff.mp ht) fun x hx hi=>?_
    refine ob_1_1 (dE hx) fun p hq188_1=>?_
    subst hq188_1
    refine ob_2_1 (lV he) fun k1 k2 hq187_2=>?_
    subst hq187_2
    obtain ⟨l1,l2⟩:=pj hn hi
    exact wD l1 l2
 | _=>exact ct
theorem DZ{E:Expr→PE}(G:∀ e,JE X A env nm e (E e))(hn:env.scope.names=sc){e:Expr}{pos:Pos}:JS X A wn env nm (.Expr e pos) (xL T E sc nm e):=by
 have plain:JS X A wn env nm (.Expr e pos) (bif fm e then .expr (E e) else .bad):=sN fun h=>AP (by rw [← ul];exact h) (G _)
 unfold xL
 cases hm:(bif T.mode == 2 then mY e else none) with
 | none=>exact plain
 | some c=>
  obtain ⟨y,m,as⟩:=c
  match as with
  | []=>exact plain
  | [a]=>
   refine (?_:JS X A wn env nm _ (bif decide (m="append")&&bw a then _ else _))
   cases h:decide (m="append")&&bw a with
   | false=>exact plain
   | true=>
    cases h2:T.mode == 2 with
    | false=>rw [h2] at hm;exact cq hm
    | true=>
     rw [h2] at hm
     refine ob_3_2 (nM hm) fun yp ap p hq209_3 hq=>?_
     subst hq209_3
     rw [Bool.and_eq_true,decide_eq_true_eq,kj] at h
     obtain ⟨rfl,h⟩:=h
     refine (?_:JS X A wn env nm _ (match jR sc nm y with | some j=>_ | none=>_))
     refine fH (jR sc nm y) (fun hj=>?_) fun j hj=>?_
     ·rw [hj];exact ct
     ·rw [hj];skip
      refine bC (pj hn hj) fun l1 l2=>?_
      exact wF l1 l2 hq h (G _)
  | _::_::_=>exact plain
theorem D0(W:re X A K fI T)(O:dI env){E:Expr→PE}(G:∀ e,JE X A env nm e (E e))(hn:env.scope.names=sc)(hk:env.scope.kind=.function){t it:Expr}{b:List Stmt}{pb:List PS}{pos:Pos}(Jb:tB X A wn env nm b pb):JS X A wn env nm (.For t it b [] pos) (Cp E sc nm t it pb):=by
 have S:=sM hn hk
 cases ht:eW t with
 | some x=>
  refine ob_1_1 (dE ht) fun xp hq228_1=>?_
  subst hq228_1
  refine (?_:JS X A wn env nm _ (match jR sc nm x with | none=>.bad | some i=>_))
  cases hi:jR sc nm x with
  | none=>exact ct
  | some i=>
   refine bC (pj hn hi) fun l1 l2=>?_
   refine (?_:JS X A wn env nm _ (match gM sc it with | some k=>_ | none=>_))
   cases hr:gM sc it with
   | some k=>
    refine ob_2_3 (mE hr) fun np p hq233_2 hg h2=>?_
    subst hq233_2
    exact A_ W.top O (S.glob _ hg) W.hh l1 l2 h2 (G _) Jb
   | none=>
    refine sN fun h=>?_
    exact AY W.hh l1 l2 h (G _) Jb
 | none=>
  cases t with
  | Tuple ts c p=>
   refine (?_:JS X A wn env nm _ (match oy sc nm ts with | some is=>_ | none=>_))
   cases hi:oy sc nm ts with
   | none=>exact ct
   | some is=>
    refine sN fun h=>?_
    exact AZ W.hh (yH hn hi) h (G _) Jb
  | Name=>exact Gv ht
  | _=>exact ct
theorem yI(W:re X A K fI T)(O:dI env){E:Expr→PE}(G:∀ e,JE X A env nm e (E e))(hn:env.scope.names=sc)(hk:env.scope.kind=.function){e:Expr}{pos:Pos}:JS X A wn env nm (.Raise (some e) none pos) (qS E sc e):=by
 have S:=sM hn hk
 unfold qS
 cases hc:ou e with
 | none=>exact ct
 | some c=>
  obtain ⟨f,as⟩:=c
  refine ob_2_1 (nK hc) fun np p hq259_2=>?_
  subst hq259_2
  refine (?_:JS X A wn env nm _ (bif !(as.all bw) then _ else _))
  cases h:as.all bw with
  | false=>exact ct
  | true=>
   refine (?_:JS X A wn env nm _ (bif decide (f="error")&&bz sc f then _ else _))
   cases hq:decide (f="error")&&bz sc f with
   | true=>
    rw [Bool.and_eq_true,decide_eq_true_eq] at hq
    obtain ⟨rfl,hg⟩:=hq
    match as with
    | []=>exact ct
    | [a]=>
     have h:=((Bool.and_eq_true _ _).mp ((List.all_cons (l:=[])).symm.trans h)).1
     refine ob_1_1 W.ek fun k hx=>?_
     exact sv W.ro W.hh (yt W.top O W.ro W.hroom hx W.eo (S.glob _ hg) h (G _))
    | _::_::_=>exact ct
   | false=>
    refine sN fun hq=>?_
    rw [Bool.and_eq_true,decide_eq_true_eq] at hq
    obtain ⟨rfl,hg⟩:=hq
    have J:=nt G h
    exact sv W.ro W.hh (m9 W.top O W.ro (by have:=W.hroom;lia) (S.glob _ hg) J h)
theorem uq{st:Stmt}{h:Expr}(e:Cq st=some h):∃ p,st=.Return (some h) p:=by
 cases st<;>first | exact cq e | exact ⟨_,congrArg (Stmt.Return · _) e⟩
theorem wM{hd:ExceptHandler}{r x:Str}{h:Expr}(q:qT hd=some (r,x,h)):∃ rp sp hp,hd=.ExceptHandler (some (.Name r rp)) (some x) [.Return (some h) sp] hp:=by
 obtain ⟨ty,nmo,body,hp⟩:=hd
 cases ty with
 | none=>exact cq q
 | some ty=>cases nmo with
  | none=>exact cq q
  | some x'=>cases body with
   | nil=>exact cq q
   | cons st b=>cases b with
    | cons=>exact cq q
    | nil=>exact cV q fun r' hr q=>mn q fun h' hh q=>(dE hr).elim fun rp e=>(uq hh).elim fun sp e2=>⟨rp,sp,hp,by
      obtain ⟨rfl,rfl,rfl⟩:r'=r∧x'=x∧h'=h:=⟨congrArg (·.1) q,congrArg (·.2.1) q,congrArg (·.2.2) q⟩
      rw [e,e2]⟩
theorem D1:∀ (n:Nat) {nm:List Str},re X A K fI T→dI env→env.scope.names=sc→env.scope.kind=.function→∀ s,JS X A wn env nm s (xM n T sc nm s):=by
 intro n
 induction n with
 | zero=>intro nm W O hn hk s;exact ct
 | succ n ih=>
  intro nm W O hn hk s
  have S:=sM hn hk
  have G2:∀ e,JJ X A env nm e (jQ 40 T sc nm e):=pg 40 W O S
  have G:∀ e,JE X A env nm e (jQ 40 T sc nm e):=fun e=>(G2 e).1
  have B:∀ ss:List Stmt,tB X A wn env nm ss (ss.map (xM n T sc nm)):=fun ss=>rk (ih W O hn hk) ss
  cases s with
  | Assign ts e p=>match ts with
   | []=>exact ct
   | [t]=>exact DW W O hn hk 39
   | _::_::_=>exact ct
  | AugAssign=>exact DY W G hn
  | Expr=>exact DZ G hn
  | If=>exact Fh (G2 _).2 (B _) (B _)
  | While c b o p=>cases o with
   | nil=>exact yx (G2 _).2 (B _)
   | cons=>exact ct
  | For t it b o p=>cases o with
   | nil=>exact D0 W O G hn hk (B _)
   | cons=>exact ct
  | Return v p=>cases v with
   | none=>exact AQ
   | some e=>exact yu (G _)
  | Break=>exact DF
  | Pass=>exact AR
  | Raise e c p=>cases e with
   | none=>exact ct
   | some e=>cases c with
    | none=>exact yI W O G hn hk
    | some=>exact ct
  | Try b hs o f p=>match hs,o,f with
   | [],_,_=>exact ct
   | [_],_::_,_=>exact ct
   | [_],[],_::_=>exact ct
   | _::_::_,_,_=>exact ct
   | [hd],[],[]=>
    refine (?_:JS X A wn env nm _ (match qT hd with | some (r,x,h)=>_ | none=>_))
    cases hh:qT hd with
    | none=>exact ct
    | some c=>
     obtain ⟨r,x,h⟩:=c
     refine ob_3_1 (wM hh) fun rp sp hp hq348_3=>?_
     subst hq348_3
     refine sN fun hc=>?_
     simp only [Bool.and_eq_true,Bool.and_eq_true,Bool.and_eq_true,decide_eq_true_eq] at hc
     obtain ⟨⟨⟨rfl,h1⟩,h2⟩,h3⟩:=hc
     refine fH (bD nm x) (fun hi=>?_) fun i hi=>?_
     ·simp only [hi];exact ct
     ·simp only [hi];skip
      refine DI W.top O W.ro (S.glob _ h1) ?_ hi (B _) fun e=>su (yu (wL W.ko.toKOK S 37 h2)) vp
      rw [lB hn]
      revert h3
      generalize bE _ sc=z
      cases z with
      | none=>decide
      | some k=>cases k<;>decide
  | _=>exact ct
end
end Mine.Internal
end
section
open PySem PySem.W PyProof.Rows PySem.Calls
set_option genCtorIdx false
namespace Mine.Internal
theorem pp(A:Around)(c:Args):(A.under (.builtin "type.__call__" c)).handled=A.handled∧(A.under (.builtin "type.__call__" c)).depth≤A.depth+1∧(A.under (.builtin "type.__call__" c)).frames=A.frames∧(A.under (.builtin "type.__call__" c)).units=A.units+1:=by
 have hf:(Code.builtin "type.__call__" c).frames=0:=rfl
 have hg:(Code.builtin "type.__call__" c).isGuard=false:=by show guardIds.contains "type.__call__"=false;decide
 have hc:(Code.builtin "type.__call__" c).isCaller=false:=by unfold Code.isCaller;split<;>simp_all
 refine ⟨rfl,?_,?_,?_⟩
 ·show A.depth+(Code.builtin "type.__call__" c).weight≤_
  unfold Code.weight
  rw [hf,hg,hc]
  split<;>simp
 ·show pushEnvs (Code.builtin "type.__call__" c).envs A.frames=_
  have:(Code.builtin "type.__call__" c).envs=[]:=by unfold Code.envs;simp [Code.isFrame]
  rw [this];rfl
 ·show A.units+(1+3*(Code.builtin "type.__call__" c).frames)=_
  rw [hf]
theorem wN{A:Around}{c:Args}{oth:List (Addr×Obj)}(K:nT A oth):nT (A.under (.builtin "type.__call__" c)) oth:=by
 refine ob_1_2 K fun l a b=>?_
 exact (ib_1_2 l (by rw [(pp A c).2.2.1];exact a) b)
noncomputable def Iq(base:Heap)(K:Frag)(fI:Addr)(T:TC)(k:Nat)(a:Addr):Prop:=
 (∃ x,bE x T.fns=some k∧∃ mg,base.Ns mainGlobals mg∧mg x=some (.ref a))∨(∃ m,bE m T.meths=some k∧findIn K (.ref cQ) m=some (some (.ref a)))∨(k=T.init∧a=fI)
structure Fr (prog:Program) (w:World) (base:Heap) (K:Frag) (fI:Addr) (T:TC) (P:Nat→Option Fn):Prop where
 top:∀ C,jZ ⟨prog,w,base,C⟩ T.fns
 ko:Ct base K T.meths fI
 ro:xv base K
 ek:∃ k,bE "error" T.fns=some k
 eo:∀ a,(∃ mg,base.Ns mainGlobals mg∧mg "error"=some (.ref a))→yr base a
 ft:∀ k a fn,Iq base K fI T k a→P k=some fn→∃ ps body scope nm m,yl base a ps body scope nm fn∧fn.body=body.map (xM 40 { T with mode:=m } scope.names nm)
set_option tactic.hygienic true in
theorem keeps{prog:Program}{w:World}{base:Heap}{K:Frag}{fI:Addr}{T:TC}{P:Nat→Option Fn}(L:Fr prog w base K fI T P)(wn:Nat):∀ (d:Nat) (A:Around) (k:Nat) (a:Addr),Iq base K fI T k a→A.handled=none→A.depth+2*d+4<recursionLimit→A.units+4*d+8<cLine→
  l5 ⟨prog,w,base,au P wn d⟩ A a k
 | 0,A,k,a,ha,h1,h2,h3=>by
  intro vs σ r hr
  unfold au at hr;exact cq hr
 | d+1,A,k,a,ha,h1,h2,h3=>by
  intro vs σ r hr g oth hA s vals Q E H R PP
  unfold au at hr
  split at hr
  ·rename_i fn hfn
   split at hr
   ·rename_i ρ hen
    refine ob_5_2 (L.ft k a fn ha hfn) fun ps body scope nm m FA hb=>?_
    refine vo (X:=⟨prog,w,base,au P wn d⟩) FA (L.top (au P wn d)).nolimit H R hen hA (by lia) fun env own g' h' tk hs O' le' H' F'=>?_
    have W':re ⟨prog,w,base,au P wn d⟩ (A.deeper env) K fI T:=by
     have u:=pp (A.deeper env)
     refine ⟨L.top _,L.ko,L.ro,L.ek,L.eo,h1,?_,?_,fun x k hx a hm=>?_,fun x k hx a hm=>?_,fun c=>?_,fun c oth=>wN⟩
     ·refine (?_:A.units+3+8<cLine);lia
     ·refine (?_:A.depth+1+2<recursionLimit);lia
     ·exact keeps L wn d _ k a (.inl (ib_1_2 x hx hm)) h1 (by show A.depth+1+2*d+4<_;lia) (by show A.units+3+4*d+8<_;lia)
     ·exact keeps L wn d _ k a (.inr (.inl (ib_1_2 x hx hm))) h1 (by show A.depth+1+2*d+4<_;lia) (by show A.units+3+4*d+8<_;lia)
     ·refine keeps L wn d _ _ _ (.inr (.inr ⟨rfl,rfl⟩)) ((u c).1.trans h1) ?_ ?_
      ·have:=(u c).2.1
       have e:(A.deeper env).depth=A.depth+1:=rfl
       lia
      ·rw [(u c).2.2.2]
       refine (?_:A.units+3+1+4*d+8<_);lia
    have JB:=rk (wn:=wn) (fun st=>D1 40 (nm:=nm) (W'.mode0 m) O' (congrArg Scope.names hs) (by rw [hs];exact FA.kind.1) st) body
    rw [hb] at hr
    refine fH (fz (au P wn d) wn (body.map (xM 40 { T with mode:=m } scope.names nm)) ρ σ) (fun hx=>?_) fun fr hx=>?_
    ·rw [hx] at hr;cases hr
    ·skip
     simp only [hx] at hr
     refine JB ρ σ fr hx g' own oth F' _ _ _ H' ?_
     cases fr with
     | next ρ2 σ2=>
      obtain rfl:=Option.some.inj hr
      exact fun h2 tk2 g2 own2 k2 H2 F2=>PP _ h2 tk2 g2 (le'.trans k2) H2.pre .none
     | brk ρ2 σ2=>exact cq hr
     | ret v ρ2 σ2=>
      obtain rfl:=Option.some.inj hr
      exact fun val h2 tk2 g2 own2 k2 H2 F2 R2=>PP val h2 tk2 g2 (le'.trans k2) H2.pre R2
     | exc v ρ2 σ2=>
      obtain rfl:=Option.some.inj hr
      intro e h2 tk2 g2 own2 k2 H2 F2 R2 Fl
      exact Dz (X:=⟨prog,w,base,au P wn d⟩) (s:={ s with heap:=h2,toks:=tk2 }) F2.fr.fr F2.fr.top H2 R2 Fl fun h3 H3 F3=>PP e h3 tk2 g2 (le'.trans k2) H3.pre R2 F3.fly
   ·exact cq hr
  ·exact cq hr
end Mine.Internal
end
section
open PySem PySem.W PyProof.Rows PySem.Calls
namespace Mine.Internal
noncomputable def KS(h:Heap):Frag:=(List.range h.objs.size).filterMap fun a=>(h.get? a).map fun o=>(a,o)
set_option tactic.hygienic true in
theorem nN{β:Type}{a:Nat}{b:β}:∀ {l:List (Nat×β)},l.lookup a=some b→(a,b)∈l
 | (c,d)::l,h=>by
  simp only [List.lookup_cons] at h
  split at h
  ·rename_i q
   obtain rfl:=Option.some.inj h
   rw [beq_iff_eq] at q
   subst q
   exact .head _
  ·exact .tail _ (nN h)
theorem Fs(h:Heap):(KS h).In h:=by
 intro a o e
 have:=nN e
 unfold KS at this
 refine ob_1_2 (List.mem_filterMap.mp this) fun b z9 hb=>?_
 refine ob_1_2 (Option.map_eq_some_iff.mp hb) fun o' e1 e2=>?_
 cases e2
 exact e1
noncomputable def D2:Data→Option (Array Value)
 | .seq its _=>some its
 | _=>none
noncomputable def vF:Data→Option (Array Value)
 | .fields vs=>some vs
 | _=>none
noncomputable def CB:Data→Option FuncData
 | .func fd=>some fd
 | _=>none
noncomputable def Ft:Value→Option Addr
 | .ref a=>some a
 | _=>none
noncomputable def D3:Value→Option Str
 | .str x _=>some x
 | _=>none
noncomputable def Ir:Value→Option String
 | .type t=>some t
 | _=>none
theorem qr{d:Data}{x:Array Value}(h:D2 d=some x):∃ n,d=.seq x n:=by
 cases d<;>first | exact cq h | exact Option.some.inj h▸⟨_,rfl⟩
theorem rl{d:Data}{x:Array Value}(h:vF d=some x):d=.fields x:=by
 cases d<;>first | exact cq h | exact Option.some.inj h▸rfl
theorem ur{d:Data}{x:FuncData}(h:CB d=some x):d=.func x:=by
 cases d<;>first | exact cq h | exact Option.some.inj h▸rfl
theorem wO{d:Value}{x:Addr}(h:Ft d=some x):d=.ref x:=by
 cases d<;>first | exact cq h | exact Option.some.inj h▸rfl
theorem qs{d:Value}{x:Str}(h:D3 d=some x):∃ t,d=.str x t:=by
 cases d<;>first | exact cq h | exact Option.some.inj h▸⟨_,rfl⟩
theorem yJ{d:Value}{x:String}(h:Ir d=some x):d=.type x:=by
 cases d<;>first | exact cq h | exact Option.some.inj h▸rfl
noncomputable def CC(K:Frag)(fd:FuncData):Bool:=decide ((((Ft fd.code).bind fun c=>K.lookup c).bind fun o=>(vF o.data).bind fun vs=>(vs[1]?).bind D3)=some fd.qualname)
noncomputable def It(K:Frag)(T:Addr):Option V:=(K.lookup T).bind fun o=>if Ir o.cls=some "tuple" then (D2 o.data).bind fun its=>if its.toList.length=1 then ((its.toList[0]?).bind D3).map fun x=>.tup [.str x] else none else none
noncomputable def Iu(K:Frag):Value→Option V
 | .bool b=>some (.bool b)
 | .int i _=>some (.int i)
 | .ref T=>It K T
 | _=>none
noncomputable def D5(K:Frag):List Value→Option (List V)
 | []=>some []
 | v::r=>(Iu K v).bind fun x=>(D5 K r).map (x::·)
noncomputable def Iv(K:Frag):Value→Option (List V)
 | .none=>some []
 | .ref T=>(K.lookup T).bind fun o=>(D2 o.data).bind fun its=>D5 K its.toList
 | _=>none
noncomputable abbrev pX:=FuncBody×Scope×Arguments×(Addr×Addr×Bool×Bool)×Option (List V)
noncomputable def nU(K:Frag)(a:Addr):Option pX:=((K.lookup a).bind fun o=>CB o.data).map fun fd=>(fd.body,fd.scope,fd.params,(fd.globals,fd.builtins,fd.closure.isEmpty,CC K fd),Iv K fd.defaults)
noncomputable def kK:Stmt→Option pX
 | .FunctionDef _ ar body _ _ _ scope _ _ _=>some (.stmts body,scope,ar,(mainGlobals,builtinsNs,true,true),qU ar.defaults)
 | _=>none
section
variable {base:Heap} {K:Frag}
theorem yK(X:K.In base){fd:FuncData}(h:CC K fd=true):base.CodeRec fd.code fd.qualname:=
 cV (of_decide_eq_true h) fun o h1 h=>cV h1 fun c hc hl=>cV h fun vs hd h=>cV h fun v hv hs=>(qs hs).elim fun t e=>(ib_4_4 c o vs t (wO hc) (X _ _ hl) (rl hd) (e▸hv))
theorem D6(X:K.In base){T:Addr}{x:V}(h:It K T=some x):EK base (.ref T) x:=
 cV h fun o hl h=>gf h fun ht h=>cV h fun its hi h=>gf h fun h1 h=>mn h fun y hy e=>cV hy fun v h0 hs=>(qs hs).elim fun t ev=>(qr hi).elim fun n hd=>by
  obtain ⟨l⟩:=its
  cases l with
  | nil=>exact cq h0
  | cons v' r=>cases r with
   | cons=>exact nomatch h1
   | nil=>
    obtain rfl:=Option.some.inj h0
    subst ev
    exact e▸.tup (X _ _ hl) (yJ ht) hd
theorem D7(X:K.In base){v:Value}{x:V}(h:Iu K v=some x):EK base v x:=by
 cases v<;>first | exact cq h | exact Option.some.inj h▸.bool _ | exact Option.some.inj h▸.int _ _ | exact D6 X h
theorem Bs(X:K.In base):∀ {vs:List Value} {xs:List V},D5 K vs=some xs→o6 base vs xs:=by
 intro vs
 induction vs with
 | nil=>exact fun h=>Option.some.inj h▸.nil
 | cons v r ih=>exact fun h=>cV h fun x h1 h=>mn h fun ys h2 e=>e▸.cons (D7 X h1) (ih h2)
theorem D8(X:K.In base){v:Value}{xs:List V}(h:Iv K v=some xs):∃ dv,o6 base dv xs∧((dv=[]∧v=.none)∨∃ T o n,v=.ref T∧base.get? T=some o∧o.data=.seq dv.toArray n):=by
 cases v<;>first | exact cq h | exact Option.some.inj h▸⟨[],.nil,.inl ⟨rfl,rfl⟩⟩ | exact cV h fun o hl h=>cV h fun its hi h=>(qr hi).elim fun n hd=>⟨its.toList,Bs X h,.inr (ib_3_3 _ o n rfl (X _ _ hl) hd)⟩
theorem Bt{ps:List Str}{sc:Scope}{nm:List Str}(h:C8 ps sc nm=true):(sc.kind=.function∧sc.isCoroutine=false∧sc.isGenerator=false)∧(∀ y∈sc.names,y.2≠.free∧(y.1∈nm→fV y.1))∧
  (∀ i x,ps[i]?=some x→bD nm x=some i∧bt sc.names x=true)∧ps.Nodup:=by
 unfold C8 at h
 simp only [Bool.and_eq_true] at h
 refine rO fun C kC=>?_
 refine bC h fun hq124_0 h6=>?_
 refine bC hq124_0 fun hq104_0 h5=>?_
 obtain ⟨⟨⟨h1,h2⟩,h3⟩,h4⟩:=hq104_0
 refine kC ?_
 refine ⟨⟨by revert h1;cases sc.kind<;>decide,by simpa using h2,by simpa using h3⟩,fun y hy=>?_,fun i x hx=>?_,by simpa using h6⟩
 ·have:=List.all_eq_true.mp h4 y hy
  simp only [Bool.and_eq_true] at this
  refine ⟨?_,fun hm=>?_⟩
  ·intro q
   rw [q] at this
   exact absurd this.1 (by decide)
  ·rcases Bool.or_eq_true _ _ |>.mp this.2 with q | q
   ·simp only [Bool.not_eq_true',List.any_eq_false] at q
    exact absurd (decide_eq_true rfl) (q _ hm)
   ·exact kY q
 ·have hi:=(List.getElem?_eq_some_iff.mp hx).1
  have:=List.all_eq_true.mp h5 i (List.mem_range.mpr hi)
  rw [hx] at this
  simp only [Bool.and_eq_true,beq_iff_eq] at this
  exact this
theorem ut{ar:Arguments}{dec:List Expr}{ret:Option Expr}{tp:List TypeParam}{ts:Option Scope}(h:vf ar dec ret tp ts=true):ar=⟨[],ar.args,none,[],ar.kw_defaults,none,ar.defaults⟩∧dec=[]∧tp=[]:=by
 obtain ⟨a,b,c,d,e,f,g⟩:=ar
 refine jF h fun h z9=>jF h fun h h7=>jF h fun h z9=>jF h fun h h5=>jF h fun h h4=>jF h fun h h3=>jF h fun h1 h2=>?_
 obtain rfl:=List.isEmpty_iff.mp h1
 obtain rfl:=Option.isNone_iff_eq_none.mp h2
 obtain rfl:=List.isEmpty_iff.mp h3
 obtain rfl:=Option.isNone_iff_eq_none.mp h4
 exact ⟨rfl,List.isEmpty_iff.mp h5,List.isEmpty_iff.mp h7⟩
theorem wP{x:Str}{l:List (Str×NameKind)}(hl:bt l x=true):∃ k,l.lookup x=some k:=by
 unfold bt at hl
 rw [bA] at hl
 refine fH (l.lookup x) (fun hq=>?_) fun k hq=>⟨k,hq⟩
 rw [hq] at hl;exact j9 hl
theorem rm(X:K.In base){a:Addr}{s:Stmt}{T:TC}{fn:Fn}(h:nU K a=kK s)(ht:EH T s=some fn):∃ ps body scope nm,yl base a ps body scope nm fn∧fn.body=body.map (xM 40 T scope.names nm)∧nm=kS (ps.map (·.arg)) scope.names∧
  ∃ n df p ds x y z,s=.FunctionDef n ⟨[],ps,none,[],df,none,ds⟩ body [] x [] scope y z p∧qU ds=some fn.dfl:=by
 cases s with
 | FunctionDef nme ar body dec ret tp scope y z p=>
  refine rO fun C9 k9=>gf ht fun hp ht=>cV ht fun d hd ht=>gf ht fun hc e=>jF hc fun hc hle=>oq (Bt hc) fun k1 k2 k3 k4=>k9 ?_
  refine mn h fun fd hf h=>cV hf fun o hl hf=>?_
  refine ob_1_2 (D8 X ((congrArg (·.2.2.2.2) h).trans hd)) fun dv e1 e2=>gk (ut hp) fun q1 q2 q3=>?_
  clear hp
  obtain rfl:=Option.some.inj e
  refine ⟨ar.args,body,scope,_,⟨⟨o,fd,dv,ar.kw_defaults,ar.defaults,X _ _ hl,ur hf,congrArg (·.1) h,congrArg (·.2.1) h,(congrArg (·.2.2.1) h).trans q1,congrArg (·.2.2.2.1.1) h,congrArg (·.2.2.2.1.2.1) h,List.isEmpty_iff.mp (congrArg (·.2.2.2.1.2.2.1) h),yK X (congrArg (·.2.2.2.1.2.2.2) h),e1,e2⟩,k1,rfl,rfl,k3,k4,fun x q=>(k2 _ (PySem.mem_of_lookup q)).1 rfl,fun x i hi hl=>?_,Nat.le_of_ble_eq_true hle⟩,rfl,rfl,nme,_,p,_,ret,y,z,by rw [q2,q3,← q1],hd⟩
  exact (wP hl).elim fun k hk=>(k2 _ (PySem.mem_of_lookup hk)).2 (List.mem_of_getElem? (gO hi))
 | _=>exact cq ht
end
end Mine.Internal
end
section
open PySem PySem.W PyProof.Rows PySem.Calls
namespace Mine.Internal
noncomputable def mF:List Str:=p_++rU
noncomputable def sO:Option (Option Value)→Option Addr
 | some (some (.ref f))=>some f
 | _=>none
noncomputable def sP(K:Frag)(v:Option (Option Value)):Bool:=(sO v).any fun f=>decide (typeIn K (.ref f)=some (.type "function"))&&fnIn K f
noncomputable def yL(K:Frag):Addr:=(sO (findIn K (.ref cQ) "__init__")).getD 0
noncomputable def yM(K:Frag)(meths:List (Str×Nat)):Bool:=
 plainGet K cQ ""&&hasDictIn K cQ&&mF.all (fun a=>decide (findIn K (.ref cQ) a=some none))&&
 decide (findIn K (.ref br) "__getattribute__"=some (some (.builtin "BaseException.__getattribute__")))&&decide (findIn K (.ref br) "__getattr__"=some none)&&
 decide (mroIn K br (.type "BaseException")=some true)&&hasDictIn K br&&mF.all (fun a=>decide (findIn K (.ref br) a=some none))&&
 (meths.all fun m=>sP K (findIn K (.ref cQ) m.1))&&decide (findIn K (.ref cQ) "__setattr__"=some (some (.builtin "object.__setattr__")))&&plainOver K cQ&&
 mF.all (fun a=>decide (takerIn K cQ a=some none))&&makesIn K cQ&&sP K (findIn K (.ref cQ) "__init__")&&keepIn K (.ref cQ)
noncomputable def Fu:Data→Option ClassData
 | .cls cd=>some cd
 | _=>none
theorem wQ{d:Data}{x:ClassData}(h:Fu d=some x):d=.cls x:=by
 cases d<;>first | exact cq h | exact Option.some.inj h▸rfl
noncomputable def gS(sl:Array (Option Value))(i:Nat):Option Value:=(sl[i]?).bind id
noncomputable def IN(sl:Array (Option Value)):Bool:=decide (sl.toList=[gS sl 0,gS sl 1,gS sl 2,gS sl 3,some (.builtin "Exception.__new__"),gS sl 5])
noncomputable def Fv(K:Frag):Option (Obj×ClassData):=(K.lookup br).bind fun o=>(Fu o.data).map fun cd=>(o,cd)
noncomputable def Hi(K:Frag)(o:Obj)(cd:ClassData):Bool:=decide (o.cls=.type "type")&&IN o.slots&&decide (cd.mro=[.ref br,.type "Exception",.type "BaseException",.type "object"])&&cd.hasDict&&!cd.hasDel&&nsOkIn K cd.ns&&sP K (nsIn K cd.ns "__init__")
noncomputable def Hj(K:Frag):Bool:=(Fv K).any fun p=>Hi K p.1 p.2
noncomputable def yN(K:Frag):Addr:=(((Fv K).bind fun p=>sO (nsIn K p.2.ns "__init__"))).getD 0
noncomputable def vG(K:Frag):Bool:=Hj K&&decide (findIn K (.ref br) "__setattr__"=some (some (.builtin "object.__setattr__")))&&gn.all (fun a=>decide (takerIn K br a=some none))&&keepIn K (.ref br)
noncomputable def rn(K:Frag)(fns:List (Str×Nat)):Bool:=(K.lookup sysModules).isSome&&
 (fns.all fun x=>kR x.1&&sP K (nsIn K mainGlobals x.1))&&decide (nsIn K mainGlobals "Raised"=some (some (.ref br)))&&decide (nsIn K mainGlobals "Comp"=some (some (.ref cQ)))&&
 (["len","str","ord","sum","tuple","range","Exception"]:List Str).all (fun x=>decide (nsIn K mainGlobals x=some none))&&
 ([("len",.builtin "len"),("str",.type "str"),("ord",.builtin "ord"),("sum",.builtin "sum"),("tuple",.type "tuple"),("range",.type "range"),("Exception",.type "Exception")]:List (Str×Value)).all fun x=>decide (nsIn K builtinsNs x.1=some (some x.2))
section
variable {base:Heap} {K:Frag} {T:TC}
theorem wR{v:Option (Option Value)}{f:Addr}(h:sO v=some f):v=some (some (.ref f)):=by
 refine fH v (fun q=>cq (q▸h)) fun w q=>fH w (fun r=>cq (r▸q▸h)) fun u r=>?_
 subst r q
 cases u<;>first | exact cq h | exact Option.some.inj h▸rfl
theorem Fw{α:Type}{o:Option α}{p:α→Bool}(h:o.any p=true){C:Prop}(k:∀ x,o=some x→p x=true→C):C:=fH o (fun q=>j9 ((congrArg (Option.any p) q).symm.trans h)) fun x q=>k x q ((congrArg (Option.any p) q).symm.trans h)
theorem kZ{v:Option (Option Value)}(h:sP K v=true):∃ f,v=some (some (.ref f))∧typeIn K (.ref f)=some (.type "function")∧fnIn K f=true:=
 Fw h fun f hf h=>jF h fun h1 h2=>(ib_1_3 f (wR hf) (of_decide_eq_true h1) h2)
theorem vH(X:K.In base){f:Addr}(h:fnIn K f=true):t7 base f:=by
 delta fnIn at h
 refine fH (K.lookup f) (fun q=>?_) fun o q=>?_
 ·rw [q] at h;exact j9 h
 ·rw [q] at h
  obtain ⟨a,b,c,d⟩:=o
  cases c<;>first | exact j9 h | exact (ib_2_2 _ _ (X _ _ q) rfl)
theorem pq{a:Str}(h:fD a=true):a∈mF:=by
 refine ob_1_2 (List.any_eq_true.mp h) fun b hb e=>?_
 simp only [decide_eq_true_eq] at e
 subst e
 exact hb
theorem yO(X:K.In base)(h:yM K T.meths=true):Ct base K T.meths (yL K):=by
 unfold yM at h
 simp only [Bool.and_eq_true,List.all_eq_true,decide_eq_true_eq] at h
 refine rO fun C kC=>?_
 refine bC h fun hq55_0 h15=>?_
 refine bC hq55_0 fun hq59_0 h14=>?_
 obtain ⟨⟨⟨⟨⟨⟨⟨⟨⟨⟨⟨⟨h1,h2⟩,h3⟩,h4⟩,h5⟩,h6⟩,h7⟩,h8⟩,h9⟩,h10⟩,h11⟩,h12⟩,h13⟩:=hq59_0
 refine ob_1_3 (kZ h14) fun f f1 f2 f3=>?_
 have hf:yL K=f:=by unfold yL;rw [f1];rfl
 refine kC ?_
 refine ⟨⟨X,h1,h2,fun a ha=>h3 a (pq ha),h4,h5,h6,h7,fun a ha=>h8 a (pq ha)⟩,fun m k hm=>?_,h10,h11,fun a ha=>h12 a (pq ha),h13,by rw [hf];exact f1,by rw [hf];exact f2,h15⟩
 refine ob_1_3 (kZ (h9 (m,k) (PySem.mem_of_lookup (by simp only [← bA];exact hm)))) fun f a b c=>?_
 exact (ib_1_3 f a b (vH X c))
theorem lC{N:Addr}{m:Str→Option Value}{x:Str}{v:Value}(X:K.In base)(G:base.Ns N m)(e:nsIn K N x=some (some v)):m x=some v:=by
 refine ob_3_4 G fun o es ep ho hd z9 hf=>?_
 delta nsIn at e
 refine fH (K.lookup N) (fun q=>?_) fun o' q=>?_
 ·rw [q] at e;exact cq e
 ·rw [q] at e
  obtain rfl:=Option.some.inj ((X _ _ q).symm.trans ho)
  obtain ⟨a,b,c,d⟩:=o'
  subst hd
  refine (hf x).symm.trans ?_
  refine fH (es.toList.find? (·.key.isStr x)) (fun r=>?_) fun en r=>?_
  ·simp only [r] at e
   exact GX e (fun z9 h=>cq h) fun z9 h=>nomatch Option.some.inj h
  ·simp only [r] at e
   unfold nsFind findBy
   simp only [← Array.find?_toList,r]
   exact Option.some.inj e
theorem uu(X:K.In base)(h:vG K=true)(IA:uc base (yN K))(hn:base.NoLimit)(G:∃ mg mb,base.Ns mainGlobals mg∧base.Ns builtinsNs mb∧mg "Exception"=none∧mb "Exception"=some (.type "Exception")):xv base K:=by
 refine rO fun C kC=>?_
 refine jF h fun h h4=>jF h fun h h3=>jF h fun h1 h2=>Fw h1 fun p hp h1=>?_
 have hx:=hp
 refine cV hp fun o hl hp=>mn hp fun cd hcd e=>?_
 subst e
 refine jF h1 fun h1 hi=>jF h1 fun h1 hok=>jF h1 fun h1 hdel=>jF h1 fun h1 hd=>jF h1 fun h1 hm=>jF h1 fun ht hs=>ob_1_3 (kZ hi) fun f f1 f2 f3=>?_
 have hf:yN K=f:=by unfold yN;rw [hx];refine (?_:(sO (nsIn K cd.ns "__init__")).getD 0=f);rw [f1];rfl
 have hN:=Heap.Ns.of_isNs (isNs_of_in X hok)
 clear hi hok hx h1
 obtain ⟨oc,dd,od,sl⟩:=o
 obtain rfl:=wQ hcd
 obtain rfl:=of_decide_eq_true ht
 have hc:clsIn K br=some cd:=by delta clsIn;rw [hl]
 have hm:=of_decide_eq_true hm
 refine kC ?_
 refine ⟨X,?_,of_decide_eq_true h2,⟨cd,hc,hm,hd⟩,fun a ha=>of_decide_eq_true (List.all_eq_true.mp h3 a ha),h4,G,hn⟩
 obtain ⟨nm,bs,mro,ns,qn,hdd,sn,sub,ab,col,del⟩:=cd
 dsimp only at hm hd hdel hN f1
 refine rO fun C kC=>?_
 subst hm hd
 obtain rfl:=Bool.not_eq_true' _▸hdel
 have hs:=of_decide_eq_true hs
 have hsl:sl=#[gS sl 0,gS sl 1,gS sl 2,gS sl 3,some (.builtin "Exception.__new__"),gS sl 5]:=Array.toList_inj.mp hs
 refine kC ?_
 exact ⟨nm,qn,ns,bs,sn,sub,ab,col,dd,gS sl 0,gS sl 1,gS sl 2,gS sl 3,gS sl 5,_,f,(congrArg (fun z=>base.get? br=some (Obj.mk _ dd _ z)) hsl).mp (X _ _ hl),hN,lC X hN f1,f2,hf▸IA⟩
theorem wS{prog:Program}{w:World}{fns:List (Str×Nat)}(X:K.In base)(h:rn K fns=true)(hn:base.NoLimit){mg mb:Str→Option Value}(G:base.Ns mainGlobals mg)(B:base.Ns builtinsNs mb) :
  (∀ C,jZ ⟨prog,w,base,C⟩ fns)∧mg "Exception"=none∧mb "Exception"=some (.type "Exception"):=by
 unfold rn at h
 simp only [Bool.and_eq_true,List.all_eq_true,decide_eq_true_eq] at h
 refine rO fun C kC=>?_
 refine bC h fun hq110_0 h6=>?_
 refine bC hq110_0 fun hq109_0 h5=>?_
 obtain ⟨⟨⟨h1,h2⟩,h3⟩,h4⟩:=hq109_0
 have e:∀ x∈(["len","str","ord","sum","tuple","range","Exception"]:List Str),mg x=none:=fun x hx=>ns_none_of X G (h5 x hx)
 have b:∀ x∈([("len",.builtin "len"),("str",.type "str"),("ord",.builtin "ord"),("sum",.builtin "sum"),("tuple",.type "tuple"),("range",.type "range"),("Exception",.type "Exception")]:List (Str×Value)),mb x.1=some x.2:=fun x hx=>lC X B (h6 x hx)
 refine kC ?_
 refine ⟨fun C=>⟨?_,hn,mg,mb,G,B,fun x k hx=>?_,lC X G h3,lC X G h4,e _ (by decide),e _ (by simp),e _ (by simp),e _ (by simp),e _ (by simp),e _ (by simp),b _ (.head _),b _ (.tail _ (.head _)),b _ (.tail _ (.tail _ (.head _))),b _ (.tail _ (.tail _ (.tail _ (.head _)))),b _ (.tail _ (.tail _ (.tail _ (.tail _ (.head _))))),b _ (.tail _ (.tail _ (.tail _ (.tail _ (.tail _ (.head _))))))⟩,e _ (by simp),b _ (.tail _ (.tail _ (.tail _ (.tail _ (.tail _ (.tail _ (.head _))))))) ⟩
 ·obtain ⟨o,ho⟩:=Option.isSome_iff_exists.mp h1
  exact ⟨o,X _ _ ho⟩
 ·have:=h2 (x,k) (PySem.mem_of_lookup (by simp only [← bA];exact hx))
  refine ob_1_3 (kZ this.2) fun f a z9 c=>?_
  exact ⟨kY this.1,f,lC X G a,vH X c⟩
end
noncomputable def Hk(body:List Stmt):Option Stmt:=(lq "Raised" body)[0]?
noncomputable def yP(body:List Stmt)(K:Frag):Bool×List (Option pX)×List (Option pX)×Option pX×Option pX:=
 (rn K (oz body)&&yM K (mu body).meths&&vG K,(oz body).map fun x=>(sO (nsIn K mainGlobals x.1)).bind (nU K),(mu body).meths.map fun x=>(sO (findIn K (.ref cQ) x.1)).bind (nU K),nU K (yL K),nU K (yN K))
noncomputable def yQ(body:List Stmt):Bool×List (Option pX)×List (Option pX)×Option pX×Option pX:=
 (true,(oz body).map fun x=>(pT body x.2).bind kK,(mu body).meths.map fun x=>(pT body x.2).bind kK,(pT body (mu body).init).bind kK,(Hk body).bind kK)
end Mine.Internal
end
section
open PySem PySem.W PyProof.Rows PySem.Calls
set_option genCtorIdx false
namespace Mine.Internal
noncomputable def gr:Stmt→List Stmt
 | .FunctionDef _ _ body _ _ _ _ _ _ _=>body
 | _=>[]
noncomputable def jM:Stmt→List (Str×NameKind)
 | .FunctionDef _ _ _ _ _ _ scope _ _ _=>scope.names
 | _=>[]
noncomputable def rq:Stmt→List Str
 | .FunctionDef _ ar _ _ _ _ _ _ _ _=>ar.args.map (·.arg)
 | _=>[]
noncomputable def sQ(s:Stmt):Bool:=decide (rq s=(["text","errorcode"]:List Str))&&decide (bD (kS (rq s) (jM s)) "text"=some 0)&&decide (bD (kS (rq s) (jM s)) "errorcode"=some 1)&&
 bt (jM s) "text"&&bt (jM s) "errorcode"&&bz (jM s) "Raised"
noncomputable def qt(s:Stmt):Bool:=decide (rq s=fE)&&fE.all (fun x=>decide ((jM s).lookup x=some .local))&&decide ((jM s).lookup (Str.ofString "Exception")=some .globalImplicit)&&(jM s).all fun x=>decide (x.2≠.cell)
noncomputable def CD(o:Option Fn)(d:List V):Prop:=∃ fn,o=some fn∧fn.dfl=d
structure yR (body:List Stmt):Prop where
 err:∃ k s,bE "error" (oz body)=some k∧pT body k=some s∧sQ s=true∧CD (EH (mu body) s) [.tup [.str "NONE"]]∧
  ∃ c p1 p2 p3 p4 p5 p6,gr s=[.Return (some (.Call (.Name "Raised" p1) [.Constant (.int 1) c p2,.Name "text" p3,.Name "errorcode" p4] [] p5)) p6]
 ini:∃ s,Hk body=some s∧qt s=true∧CD (EH (mu body) s) [.tup [.str "NONE"],.int 0,.int 0]∧sr (gr s)
section
variable {base:Heap} {K:Frag} {body:List Stmt} {prog:Program} {w:World}
theorem Fx(h:(mu body).meths.map (fun x=>(sO (findIn K (.ref cQ) x.1)).bind (nU K))=(mu body).meths.map fun x=>(pT body x.2).bind kK){m:Str}{k:Nat}(hm:bE m (mu body).meths=some k){a:Addr}(ha:findIn K (.ref cQ) m=some (some (.ref a))):nU K a=(pT body k).bind kK:=by
 have:=List.map_inj_left.mp h (m,k) (PySem.mem_of_lookup (by simp only [← bA];exact hm))
 dsimp only at this
 rw [ha] at this
 exact this
theorem Bu(X:K.In base)(TX:yR body)(h:yP body K=yQ body)(hn:base.NoLimit){mg mb:Str→Option Value}(G:base.Ns mainGlobals mg)(B:base.Ns builtinsNs mb):Fr prog w base K (yL K) (mu body) (oA body):=by
 unfold yP yQ at h
 simp only [Prod.mk.injEq,Bool.and_eq_true] at h
 refine CU h fun hq32_0 h4 h5 h6 h7=>?_
 refine bC hq32_0 fun hq33_0 h3=>?_
 obtain ⟨h1,h2⟩:=hq33_0
 refine gk (wS (prog:=prog) (w:=w) X h1 hn G B) fun T0 ge be=>?_
 have C0:=yO X h2
 have glob:∀ x k a,bE x (oz body)=some k→(∃ mg,base.Ns mainGlobals mg∧mg x=some (.ref a))→nU K a=(pT body k).bind kK:=by
  intro x k a hx ⟨mg',G',hm⟩
  have mem:=PySem.mem_of_lookup (show (oz body).lookup x=some k by simp only [← bA];exact hx)
  have:=List.map_inj_left.mp h4 (x,k) mem
  dsimp only at this
  unfold rn at h1
  simp only [Bool.and_eq_true,List.all_eq_true] at h1
  refine ob_1_3 (kZ (h1.1.1.1.1.2 (x,k) mem).2) fun f q z9 z9=>?_
  have e:=lC X G' q
  dsimp only at e q
  rw [hm] at e
  cases e
  rw [q] at this
  exact this
 have RO:xv base K:=by
  refine uu X h3 ?_ hn (ib_2_4 mg mb G B ge be)
  refine rO fun C kC=>?_
  refine ob_1_4 TX.ini fun s s1 s2 hq51_3 s5=>?_
  obtain ⟨fn,s3,s4⟩:=hq51_3
  rw [s1] at h7
  obtain ⟨ps,bd,scope,nm,FA,_,hnm,n,df,p,ds,x,y,z,rfl,_⟩:=rm X (show nU K (yN K)=kK s from h7) s3
  refine kC ?_
  unfold qt at s2
  simp only [Bool.and_eq_true,List.all_eq_true,decide_eq_true_eq] at s2
  refine bC s2 fun hq58_0 t4=>?_
  obtain ⟨⟨t1,t2⟩,t3⟩:=hq58_0
  exact ⟨ps,bd,scope,nm,fn,FA,t1,s4,s5,t2,t3,t4⟩
 refine ⟨T0,C0,RO,let ⟨k,_,a,_⟩:=TX.err;⟨k,a⟩,fun a ha=>?_,fun k a fn ha hP=>?_⟩
 ·obtain ⟨k,s,e1,e2,e3,⟨fn,e4,e5⟩,c,p1,p2,p3,p4,p5,p6,e6⟩:=TX.err
  have:=glob _ k a e1 ha
  rw [e2] at this
  obtain ⟨ps,bd,scope,nm,FA,_,hnm,n,df,p,ds,x,y,z,rfl,_⟩:=rm X (show nU K a=kK s from this) e4
  unfold sQ at e3
  simp only [Bool.and_eq_true,decide_eq_true_eq] at e3
  obtain ⟨⟨⟨⟨⟨t0,t1⟩,t2⟩,t3⟩,t4⟩,t5⟩:=e3
  change ps.map (·.arg)=_ at t0
  change bD (kS (ps.map (·.arg)) scope.names) _=_ at t1 t2
  rw [← hnm] at t1 t2
  refine ⟨ps,bd,scope,nm,fn,FA,?_,e5,t1,t2,t3,t4,t5,c,p1,p2,p3,p4,p5,p6,e6⟩
  rw [FA.np]
  have:=congrArg List.length t0
  simpa using this
 ·unfold oA at hP
  refine ob_1_2 (Option.bind_eq_some_iff.mp hP) fun s hs ht=>?_
  have key:nU K a=(pT body k).bind kK:=by
   rcases ha with ⟨x,hx,hm⟩ | ⟨m,hm,hf⟩ | ⟨rfl,rfl⟩
   ·exact glob x k a hx hm
   ·exact Fx h5 hm hf
   ·exact h6
  rw [hs] at key
  refine ob_4_3 (rm X (show nU K a=kK s from key) ht) fun ps bd scope nm FA hb z9=>?_
  exact (ib_5_2 ps bd scope nm _ FA hb)
end
end Mine.Internal
end
section
open PySem PySem.W PyProof.Rows
namespace Mine.Internal
noncomputable def yS(tb:String→Option Builtin)(p:Program)(w:World)(n₀:Nat)(ann:Option Value):Nat→SharedT→Thread→Option SharedT
 | 0,_,_=>none
 | n+1,s,t=>match through t with
  | true=>some s
  | false=>match PySem.W.stepOk n₀ ann t with
   | false=>none
   | true=>match PySem.W.stepT (PySem.denote tb) p w s t with
    | some (s',t')=>yS tb p w n₀ ann n s' t'
    | none=>none
theorem sR{tb:String→Option Builtin}{p:Program}{w:World}{n₀:Nat}{ann:Option Value}:∀ (n:Nat) {s s1:SharedT} {t:Thread},yS tb p w n₀ ann n s t=some s1→topRun tb p w n₀ ann n s.abs t=some s1.abs
 | 0,_,_,_,h=>by cases h
 | n+1,s,s1,t,h=>by
  unfold yS at h
  unfold topRun
  cases ht:through t with
  | true=>rw [ht] at h;cases h;rfl
  | false=>
   rw [ht] at h
   cases hk:stepOk n₀ ann t with
   | false=>rw [hk] at h;cases h
   | true=>
    rw [hk] at h
    cases hs:stepT (denote tb) p w s t with
    | none=>rw [hs] at h;cases h
    | some x=>
     obtain ⟨s',t'⟩:=x
     rw [hs] at h
     rw [stepT_spec hs]
     exact sR n h
noncomputable def yT(tb:String→Option Builtin)(p:Program)(w:World)(n₀:Nat)(ann:Option Value):Nat→SharedT→Thread→Option SharedT
 | 0,_,_=>none
 | n+1,s,t=>match through t with
  | true=>some s
  | false=>match PySem.W.Fast.tw6613529449190102663 n₀ ann t with
   | false=>none
   | true=>match PySem.W.Fast.tw10156331382660048174 (PySem.W.Fast.tw11892475500146522536 tb) p w s t with
    | some (s',t')=>yT tb p w n₀ ann n s' t'
    | none=>none
theorem vI{tb:String→Option Builtin}{p:Program}{w:World}{n₀:Nat}{ann:Option Value}:∀ (n:Nat) (s:SharedT) (t:Thread),yT tb p w n₀ ann n s t=yS tb p w n₀ ann n s t
 | 0,_,_=>rfl
 | n+1,s,t=>by
  unfold yT yS
  rw [PySem.W.Fast.te6613529449190102663,PySem.W.Fast.te10156331382660048174,PySem.W.Fast.te11892475500146522536]
  cases through t with
  | true=>rfl
  | false=>
   dsimp only
   cases PySem.W.Fast.tw6613529449190102663 n₀ ann t with
   | false=>rfl
   | true=>
    dsimp only
    cases PySem.W.Fast.tw10156331382660048174 (PySem.W.Fast.tw11892475500146522536 tb) p w s t with
    | none=>rfl
    | some x=>exact vI n x.1 x.2
noncomputable abbrev pw:Program:=PySem.Challenge.pw_oj0066_01
noncomputable def Hl(P:Params):BT:=(((((((((((BT.nil.ins 0 (boot_o_0 P)).ins 1 (boot_o_1 P)).ins 2 (boot_o_2 P)).ins 3 (boot_o_3 P)).ins 4 (boot_o_4 P)).ins 5 (boot_o_5 P)).ins 6 (boot_o_6 P)).ins 7 (boot_o_7 P)).ins 8 (boot_o_8 P)).ins 9 (boot_o_9 P)).ins 10 (boot_o_10 P))
theorem Bv(P:Params):absHeap (Hl P) 11 (boot_heap P).life=boot_heap P:=by kernel_rfl
theorem ws:PySem.Challenge.rw_oj0066_01.wellSaid=true:=by
 rw [PySem.W.Fast.te9446332074065402090];kernel_rfl
theorem IO:opening pw=plainProg pw.main.scope.names:=by kernel_rfl
end Mine.Internal
end
section
open PySem PySem.W PyProof.Rows
namespace Mine.Internal
noncomputable def qv:Program:=view pw [61]
noncomputable def kl:List Str:=pw.boundNames.filter fun x=>!(x == ("law":Str))
noncomputable def CE:Thread:=topStub pw
noncomputable def Hm(w:World)(os:OsState):SharedT:=⟨Hl w.params,11,(boot_heap w.params).life,#[],boot_drawn,boot_toks,os⟩
noncomputable def uv(b:Heap)(st:SharedT):=let s:=st.abs
 ((staticsOk (importedModules pw.main.body) b s.heap&&namesBound pw s.heap&&gensDone s&&laidKept b s.heap),PySem.W.Fast.tw4187177175401517315 qv kl (importedModules pw.main.body) (fun z9=>true) true s)
end Mine.Internal
end
section
open PySem PySem.W PyProof.Rows
namespace Mine.Internal
theorem D9:∀ s,fenceModules? pw s=some s:=by
 intro s
 kernel_rfl
theorem uw(w:World):((boot_heap w.params).isNs mainGlobals,(boot_heap w.params).objs.size,(boot_heap w.params).nsMap mainGlobals "__annotations__")=(true,11,some (.ref 6)):=by kernel_rfl
theorem Bw(w:World)(os:OsState):(Hm w os).abs=⟨boot_heap w.params,#[],boot_drawn,boot_toks,os⟩:=by
 show Shared.mk (absHeap (Hl w.params) 11 (boot_heap w.params).life) _ _ _ _=_
 rw [Bv]
 rfl
theorem Fy{α:Type}(Yf:Shared→α)(Ya:World→α)(h:∀ w os,((yT PySem.W.Fast.tw14364793385576792824 pw w 11 (some (.ref 6)) 3200 (Hm w os) CE)).map (fun st=>(uv (boot_heap w.params) st,Yf st.abs))=some ((true,openGood qv kl),Ya w)) :
  LeftO pw qv kl (fun z9=>true) Yf Ya 3200:=fun w=>by
 obtain ⟨s₀,e1,e2⟩:=Option.map_eq_some_iff.mp (boot_open (p:=pw) (N:=3200) IO (by decide) D9 w)
 obtain ⟨hp,gs,dr,tk,os⟩:=s₀
 simp only [Prod.mk.injEq] at e2
 obtain ⟨rfl,rfl,rfl,rfl⟩:=e2
 have h1:=h w os
 rw [vI,← PySem.W.Fast.te14364793385576792824] at h1
 obtain ⟨st,r1,r2⟩:=Option.map_eq_some_iff.mp h1
 have r3:=sR _ r1
 rw [Bw] at r3
 simp only [Prod.mk.injEq] at r2
 obtain ⟨r4,r5⟩:=r2
 unfold uv at r4
 rw [Prod.mk.injEq,← PySem.W.Fast.te4187177175401517315] at r4
 obtain ⟨q1,q2⟩:=r4
 obtain ⟨z1,z2,z3⟩:_∧_∧_:=by simpa only [Prod.mk.injEq] using uw w
 unfold openEnds
 rw [e1]
 rw [Option.bind_some]
 unfold topFrom
 dsimp only
 rw [z1,z2,z3]
 show Option.map _ ((topRun treeTable pw w 11 (some (.ref 6)) 3200 _ (topStub pw)).bind _)=_
 rw [show topRun treeTable pw w 11 (some (.ref 6)) 3200 ⟨boot_heap w.params,#[],boot_drawn,boot_toks,os⟩ (topStub pw)=some st.abs from r3]
 show Option.map _ (match staticsOk (importedModules pw.main.body) (boot_heap w.params) st.abs.heap&&namesBound pw st.abs.heap&&gensDone st.abs&&laidKept (boot_heap w.params) st.abs.heap with | true=>some st.abs | false=>none)=_
 rw [q1]
 show some (_,_)=_
 rw [q2,r5]
end Mine.Internal
end
section
open PySem PySem.W PyProof.Rows
namespace Mine.Internal
noncomputable abbrev fi:OpenRow:=PySem.Challenge.rw_oj0066_01.row
theorem head(H:Hook)(hl:LeftO pw qv kl (fun z9=>true) H.obs H.val 3200){d:DefRec}{kwd:List (Str×Expr)}(hd:defOf qv fi.name=some (d,kwd))(hp:fi.prog.theDef fi.name=some (d.params,d.body,d.scope))(hk:kwWritten? d.params.kwonlyargs d.params.kw_defaults=some kwd)
  (call:WalkO qv kl (fun z9 z9=>True) H.says fi.toRowW d kwd fun f vs=>PySem.call f vs):PySem.Challenge.rw_oj0066_01.Holds:=
 holds_law ws fun said=>holds_open (r:=fi) (q:=qv) (loose:=kl) (Xt:=fun z9=>true) (XP:=fun z9 z9=>True) (Yf:=H.obs) (Ya:=H.val) (YP:=H.says) (N:=3200) hl H.of H.keeps (fun z9 z9=>trivial) (fun z9 z9 z9 z9 z9=>trivial) hd hp hk
  (fun z9 z9=>recFacts_nil rfl) (by kernel_rfl) said (by kernel_rfl) ⟨rfl,rfl,rfl,rfl,rfl,by decide +kernel⟩ ⟨[.list []],by decide +kernel,by decide +kernel⟩ call
end Mine.Internal
end
section
open PySem PySem.W PyProof.Rows
namespace Mine.Internal
theorem Ho(w:World)(os:OsState):((yT PySem.W.Fast.tw14364793385576792824 pw w 11 (some (.ref 6)) 3200 (Hm w os) CE)).map (fun st=>(uv (boot_heap w.params) st,yP pw.main.body (KS st.abs.heap)))=some ((true,openGood qv kl),yQ pw.main.body):=by kernel_rfl
end Mine.Internal
end
section
open PySem PySem.W PyProof.Rows
namespace Mine.Internal
noncomputable def ux:Nat→Expr→List Pos
 | 0,_=>[]
 | n+1,e=>match e with
  | .Name _ p=>[p]
  | .Attribute v _ p=>ux n v++[p]
  | .Call f as _ p=>ux n f++as.flatMap (ux n)++[p]
  | .Constant _ _ p=>[p]
  | .List _ p=>[p]
  | _=>[]
noncomputable def Hp:Stmt→List Pos
 | .Expr e p=>ux 9 e++[p]
 | .Assign [t] e p=>ux 9 e++ux 9 t++[p]
 | .Return (some e) p=>ux 9 e++[p]
 | _=>[]
noncomputable def pr(b:List Stmt)(i:Nat):Pos:=((b.flatMap Hp)[i]?).getD default
noncomputable def rs:Stmt:=(pT pw.main.body 8).getD (.Pass default)
noncomputable def wT:Stmt:=(Hk pw.main.body).getD (.Pass default)
noncomputable def Iw:Expr→Nat
 | .Constant _ k _=>k
 | .Call _ (a::_) _ _=>(match a with | .Constant _ k _=>k | _=>0)
 | _=>0
noncomputable def Hq:Stmt→Nat
 | .Assign _ e _=>Iw e
 | .Return (some e) _=>Iw e
 | _=>0
noncomputable def GA(b:List Stmt)(i:Nat):Nat:=(b[i]?.map Hq).getD 0
theorem D_:yR pw.main.body:=
 ⟨⟨8,rs,by kernel_rfl,by kernel_rfl,by kernel_rfl,(ib_1_2 ((EH (mu pw.main.body) rs).getD ⟨0,0,[],[]⟩) (by kernel_rfl) (by kernel_rfl)),
  GA (gr rs) 0,pr (gr rs) 0,pr (gr rs) 1,pr (gr rs) 2,pr (gr rs) 3,pr (gr rs) 4,pr (gr rs) 5,by kernel_rfl⟩,
  ⟨wT,by kernel_rfl,by kernel_rfl,(ib_1_2 ((EH (mu pw.main.body) wT).getD ⟨0,0,[],[]⟩) (by kernel_rfl) (by kernel_rfl)),
  pr (gr wT),GA (gr wT) 6,GA (gr wT) 7,GA (gr wT) 8,by kernel_rfl,by kernel_rfl⟩⟩
end Mine.Internal
end
section
open PySem PySem.W PyProof.Rows
namespace Mine.Internal
noncomputable def vJ:Hook:=⟨_,fun s=>yP pw.main.body (KS s.heap),fun z9=>yQ pw.main.body,fun z9 h=>∃ K:Frag,K.In h∧yP pw.main.body K=yQ pw.main.body,fun w s e=>⟨_,Fs _,e⟩,fun w h h' ⟨K,a,b⟩ k=>⟨K,a.keeps k,b⟩⟩
theorem Fz:LeftO pw qv kl (fun z9=>true) vJ.obs vJ.val 3200:=Fy _ _ Ho
theorem sS{g:Gh}{vs:List Value}{ns:List Int}(h:IntsAre vs ns):eC g vs (ns.map .int):=by
 induction h with
 | nil=>exact .nil
 | cons n t _ ih=>exact .cons (.int n t) ih
noncomputable def vK:Prop:=∀ ns:List Int,ns.length≤63→∃ σ,au (oA pw.main.body) 5000 60 61 [.lst (ns.map .int)] []=some (.ok (.bool true) σ)
theorem FB:bE "law" (mu pw.main.body).fns=some 61:=by kernel_rfl
set_option tactic.hygienic true in
theorem FC(law:vK){d:DefRec}{kwd:List (Str×Expr)}(hd:d.name="law"):WalkO qv kl (fun z9 z9=>True) vJ.says fi.toRowW d kwd fun f vs=>PySem.call f vs:=by
 intro w s₀ s₁ mg mb G Y a o pm cd doc dV kV ho hdat hcode hD hmg hg args vals as hpre hlay hrd hwl hlo
 wrow_args hpre hlay hrd hwl hlo
 rename_i ns hs hlay0 hLy hr1 hl2 b1 b2 L vs b3 hL ra w1 r0 hI hr hcond1 hcond2
 refine ob_1_2 Y fun K KI hobs=>?_
 have LA:=Bu (prog:=pw) (w:=w) KI D_ hobs G.T.nolimit G.T.g G.T.b
 have KP:=keeps LA 5000 60 callerA 61 a (.inl ⟨"law",FB,mg,G.T.g,hd▸hmg⟩) rfl (by decide) (by decide)
 refine ob_1_1 (law ns (by lia)) fun σ' hlaw=>?_
 obtain ⟨oL,e1,e2,nL,e3⟩:=hL
 have hlen:vs.length≤sizeLine:=by
  have:=(sS (g:=⟨[],[],[]⟩) hI).length
  simp only [List.length_map] at this
  simp only [sizeLine_eq];lia
 have H0:HI w s₁.heap ⟨[],[],[]⟩ [] [] s₁.heap:=⟨fun z9 z9 e=>e,fun p hp=>(nomatch hp),fun p hp=>(nomatch hp),rfl,fun i c q=>by simp at q,fun p hp=>(nomatch hp),.nil,fun a ha=>(nomatch ha),fun p hp=>(nomatch hp)⟩
 have H1:=H0.addIm (a:=L) (o:=oL) ⟨oL.slots,e1⟩ (bV e2 (by decide)) (fun q=>nomatch q)
 refine wpAny_call ?_
 refine KP [.lst (ns.map .int)] [] _ hlaw _ [] (ib_1_2 ([]) rfl (fun e he=>nomatch he)) s₁ [.ref L] _ _ H1 (.one (.lst (.head _) e2 ⟨e3,hlen⟩ (sS hI))) ?_
 intro val h tk g' k H R
 cases R
 exact ⟨.inl (ib_3_5 _ (.bool true) ([]) rfl (fun z9=>rfl) (.bool true) (by kernel_rfl) (fun z9=>⟨.nil,fun z9 q=>nomatch q⟩)),OldK.of_keep H.hb,rfl,.of_eq hg⟩
theorem Hr:∃ d kwd,defOf qv fi.name=some (d,kwd)∧fi.prog.theDef fi.name=some (d.params,d.body,d.scope)∧kwWritten? d.params.kwonlyargs d.params.kw_defaults=some kwd∧d.name="law":=by
 refine fH (defOf qv fi.name) (fun h=>?_) fun x h=>?_
 ·rw [h];refine absurd h fun q=>?_
  have:(defOf qv fi.name).isSome=true:=by kernel_rfl
  rw [q] at this;exact j9 this
 ·rw [h];skip
  obtain ⟨d,kwd⟩:=x
  refine (ib_2_4 d kwd rfl ?_ ?_ ?_)
  ·have:(defOf qv fi.name).map (fun x=>fi.prog.theDef fi.name)=(defOf qv fi.name).map (fun x=>some (x.1.params,x.1.body,x.1.scope)):=by kernel_rfl
   rw [h] at this;exact Option.some.inj this
  ·have:(defOf qv fi.name).map (fun x=>kwWritten? x.1.params.kwonlyargs x.1.params.kw_defaults)=(defOf qv fi.name).map (fun x=>some x.2):=by kernel_rfl
   rw [h] at this;exact Option.some.inj this
  ·have:(defOf qv fi.name).map (fun x=>x.1.name)=some ("law":Str):=by kernel_rfl
   rw [h] at this;exact Option.some.inj this
theorem holds_of(law:vK):PySem.Challenge.rw_oj0066_01.Holds:=by
 refine ob_2_4 Hr fun d kwd h1 h2 h3 h4=>?_
 exact head vJ Fz h1 h2 h3 (FC law h4)
end Mine.Internal
end
section
open PySem
namespace Mine.Internal.Q
noncomputable abbrev Ht:List Stmt:=PySem.Challenge.pw_oj0066_01.main.body
noncomputable def f2:Fn:=⟨2,5,[],[(.asg 2 (.cmp .eq (.sub (.loc 1) (.int 0)) (.str "or"))),(.asg 3 (.meth 101 "emit" (.loc 0) [(.ite (.loc 2) (.str "jump_true") (.str "jump_false")),.none,.none,(.int (-1))])),(.expr (.call 5 [(.loc 0),(.sub (.loc 1) (.int 2))])),(.expr (.meth 101 "emit" (.loc 0) [(.str "truth"),.none,.none,(.int 0)])),(.asg 4 (.meth 101 "emit" (.loc 0) [(.str "jump"),.none,.none,(.int (-1))])),(.expr (.meth 102 "patch" (.loc 0) [(.loc 3),(.len (.attr (.loc 0) "rows"))])),(.expr (.meth 101 "emit" (.loc 0) [(.str "push"),(.ite (.loc 2) (.str "1") (.str "0")),.none,(.int 1)])),(.expr (.meth 102 "patch" (.loc 0) [(.loc 4),(.len (.attr (.loc 0) "rows"))]))]⟩
noncomputable def f3:Fn:=⟨2,4,[],[(.expr (.call 5 [(.loc 0),(.sub (.loc 1) (.int 1))])),(.asg 2 (.meth 101 "emit" (.loc 0) [(.str "jump_false"),.none,.none,(.int (-1))])),(.expr (.call 5 [(.loc 0),(.sub (.loc 1) (.int 2))])),(.asg 3 (.meth 101 "emit" (.loc 0) [(.str "jump"),.none,.none,(.int (-1))])),(.expr (.meth 102 "patch" (.loc 0) [(.loc 2),(.len (.attr (.loc 0) "rows"))])),(.expr (.call 5 [(.loc 0),(.sub (.loc 1) (.int 3))])),(.expr (.meth 102 "patch" (.loc 0) [(.loc 3),(.len (.attr (.loc 0) "rows"))]))]⟩
noncomputable def f4:Fn:=⟨2,4,[],[(.asg 2 (.sub (.loc 1) (.int 0))),(.ifs (.cmp .eq (.loc 2) (.str "num")) [(.expr (.meth 101 "emit" (.loc 0) [(.str "push"),(.strOf (.sub (.loc 1) (.int 1))),.none,(.int 1)]))] [(.ifs (.cmp .eq (.loc 2) (.str "text")) [(.expr (.meth 101 "emit" (.loc 0) [(.str "push"),(.sub (.loc 1) (.int 1)),.none,(.int 1)]))] [(.ifs (.cmp .eq (.loc 2) (.str "parts")) [(.expr (.meth 106 "parts" (.loc 0) [(.sub (.loc 1) (.int 1))]))] [(.ifs (.cmp .eq (.loc 2) (.str "un")) [(.expr (.call 5 [(.loc 0),(.sub (.loc 1) (.int 2))])),(.expr (.meth 101 "emit" (.loc 0) [(.str "unary"),(.sub (.loc 1) (.int 1)),.none,(.int 0)]))] [(.ifs (.cmp .eq (.loc 2) (.str "if")) [(.expr (.call 3 [(.loc 0),(.loc 1)]))] [(.for1 3 (.sub (.loc 1) (.int 2)) [(.expr (.call 5 [(.loc 0),(.loc 3)]))]),(.expr (.meth 101 "emit" (.loc 0) [(.str "function"),(.sub (.loc 1) (.int 1)),(.len (.sub (.loc 1) (.int 2))),(.bin .sub (.int 1) (.len (.sub (.loc 1) (.int 2))))]))])])])])])]⟩
noncomputable def f5:Fn:=⟨2,4,[],[(.own 2),(.whl (.cmp .isin (.sub (.loc 1) (.int 0)) (.tup [(.str "bin"),(.str "and"),(.str "or")])) [(.ownApp 2 (.loc 1)),(.asg 1 (.ite (.cmp .eq (.sub (.loc 1) (.int 0)) (.str "bin")) (.sub (.loc 1) (.int 2)) (.sub (.loc 1) (.int 1))))]),(.expr (.call 4 [(.loc 0),(.loc 1)])),(.whl (.loc 2) [(.ownPop 3 2),(.ifs (.cmp .eq (.sub (.loc 3) (.int 0)) (.str "bin")) [(.expr (.call 5 [(.loc 0),(.sub (.loc 3) (.int 3))])),(.expr (.meth 101 "emit" (.loc 0) [(.str "binary"),(.sub (.loc 3) (.int 1)),.none,(.int (-1))]))] [(.expr (.call 2 [(.loc 0),(.loc 3)]))])])]⟩
noncomputable def f8:Fn:=⟨2,2,[.tup [.str "NONE"]],[(.ret (.raised [(.int 1),(.loc 0),(.loc 1)]))]⟩
noncomputable def Ix:Fn:=⟨1,2,[],[(.ifs (.cmp .ne (.len (.loc 0)) (.int 1)) [(.ret (.int (-1)))] []),(.asg 1 (.ord (.loc 0))),(.ifs (.cmp2 .le .le (.int 48) (.loc 1) (.int 57)) [(.ret (.bin .sub (.loc 1) (.int 48)))] []),(.ifs (.cmp2 .le .le (.int 97) (.loc 1) (.int 122)) [(.ret (.bin .sub (.loc 1) (.int 87)))] []),(.ifs (.cmp2 .le .le (.int 65) (.loc 1) (.int 90)) [(.ret (.bin .sub (.loc 1) (.int 55)))] []),(.ret (.int (-1)))]⟩
noncomputable def Iy:Fn:=⟨2,5,[],[(.asg 2 (.slc (.loc 0) (.bin .add (.loc 1) (.int 1)) (.bin .add (.loc 1) (.int 2)))),(.ifs (.cmp .eq (.loc 2) (.str "")) [(.ret (.tup [(.str "\\"),(.bin .add (.loc 1) (.int 1))]))] []),(.asg 3 .bad),(.ifs (.cmp .ge (.loc 3) (.int 0)) [(.ret (.tup [(.sub (.str "\x07\x08\x0c\n\x0d\t\x0b") (.loc 3)),(.bin .add (.loc 1) (.int 2))]))] []),(.ifs (.cmp .eq (.loc 2) (.str "\n")) [(.asg 4 (.bin .add (.loc 1) (.int 2))),(.whl (.cmp .isin (.slc (.loc 0) (.loc 4) (.bin .add (.loc 4) (.int 1))) (.tup [(.str " "),(.str "\t")])) [(.aug 4 (.int 1))]),(.ret (.tup [(.str " "),(.loc 4)]))] []),(.ifs (.cmp .isin (.loc 2) (.tup [(.str "x"),(.str "u"),(.str "U")])) [(.ret (.call 12 [(.loc 0),(.bin .add (.loc 1) (.int 1))]))] []),(.ifs (.cmp .isin (.loc 2) (.tup [(.str "0"),(.str "1"),(.str "2"),(.str "3"),(.str "4"),(.str "5"),(.str "6"),(.str "7")])) [(.ret (.call 13 [(.loc 0),(.bin .add (.loc 1) (.int 1))]))] []),(.ret (.tup [(.loc 2),(.bin .add (.loc 1) (.int 2))]))]⟩
noncomputable def Iz:Fn:=⟨1,1,[],[(.ret (.cmp .isin (.loc 0) (.tup [(.str " "),(.str "\t"),(.str "\x0b"),(.str "\x0c"),(.str "\x0d")])))]⟩
noncomputable def IP:Fn:=⟨2,2,[],[(.whl (.cmp .lt (.loc 1) (.len (.loc 0))) [(.ifs (.call 15 [(.sub (.loc 0) (.loc 1))]) [(.aug 1 (.int 1))] [(.ifs (.cmp .eq (.slc (.loc 0) (.loc 1) (.bin .add (.loc 1) (.int 2))) (.str "\\\n")) [(.aug 1 (.int 2))] [(.ret (.loc 1))])])]),(.ret (.loc 1))]⟩
noncomputable def IQ:Fn:=⟨2,3,[],[(.asg 2 (.len (.loc 0))),(.whl (.cmp .lt (.loc 1) (.loc 2)) [(.ifs (.cmp .eq (.sub (.loc 0) (.loc 1)) (.str "\\")) [(.aug 1 (.int 2))] [(.ifs (.cmp .eq (.sub (.loc 0) (.loc 1)) (.str "\n")) [(.ret (.bin .add (.loc 1) (.int 1)))] [(.aug 1 (.int 1))])])]),(.ret (.loc 2))]⟩
noncomputable def IS:Fn:=⟨2,2,[],[(.asg 1 (.call 16 [(.loc 0),(.loc 1)])),(.whl (.cmp .isin (.slc (.loc 0) (.loc 1) (.bin .add (.loc 1) (.int 1))) (.tup [(.str "\n"),(.str ";"),(.str "#")])) [(.ifs (.cmp .eq (.sub (.loc 0) (.loc 1)) (.str "#")) [(.asg 1 (.call 17 [(.loc 0),(.loc 1)]))] [(.aug 1 (.int 1))]),(.asg 1 (.call 16 [(.loc 0),(.loc 1)]))]),(.ret (.loc 1))]⟩
noncomputable def IT:Fn:=⟨2,2,[],[(.whl (.cmp .lt (.loc 1) (.len (.loc 0))) [(.ifs (.or (.cmp .eq (.sub (.loc 0) (.loc 1)) (.str "_")) (.cmp .ge (.call 10 [(.sub (.loc 0) (.loc 1))]) (.int 0))) [(.aug 1 (.int 1))] [(.ifs (.cmp .eq (.slc (.loc 0) (.loc 1) (.bin .add (.loc 1) (.int 2))) (.str "::")) [(.aug 1 (.int 2)),(.whl (.cmp .eq (.slc (.loc 0) (.loc 1) (.bin .add (.loc 1) (.int 1))) (.str ":")) [(.aug 1 (.int 1))])] [(.ret (.loc 1))])])]),(.ret (.loc 1))]⟩
noncomputable def IU:Fn:=⟨2,6,[],[(.asg 2 (.bin .add (.loc 1) (.int 1))),(.ifs (.cmp .eq (.slc (.loc 0) (.loc 2) (.bin .add (.loc 2) (.int 1))) (.str "{")) [(.asg 3 (.find (.loc 0) (.str "}") (.loc 2))),(.ifs (.cmp .lt (.loc 3) (.int 0)) [(.raise (.mkErr (.str "missing close-brace for variable name")))] []),(.ret (.tup [(.tup [(.str "var"),(.slc (.loc 0) (.bin .add (.loc 2) (.int 1)) (.loc 3)),.none]),(.bin .add (.loc 3) (.int 1))]))] []),(.asg 4 (.call 19 [(.loc 0),(.loc 2)])),(.ifs (.cmp .eq (.slc (.loc 0) (.loc 4) (.bin .add (.loc 4) (.int 1))) (.str "(")) [(.asgT [5,3] (.call 23 [(.loc 0),(.bin .add (.loc 4) (.int 1)),(.tup [(.str ")")])])),(.ifs (.cmp .ge (.loc 3) (.len (.loc 0))) [(.raise (.mkErr (.str "missing )")))] []),(.ret (.tup [(.tup [(.str "var"),(.slc (.loc 0) (.loc 2) (.loc 4)),(.loc 5)]),(.bin .add (.loc 3) (.int 1))]))] []),(.ifs (.cmp .eq (.loc 4) (.loc 2)) [(.ret (.tup [(.tup [(.str "text"),(.str "$")]),(.loc 2)]))] []),(.ret (.tup [(.tup [(.str "var"),(.slc (.loc 0) (.loc 2) (.loc 4)),.none]),(.loc 4)]))]⟩
noncomputable def IV:Fn:=⟨2,5,[],[(.asg 2 (.bin .add (.loc 1) (.int 1))),(.asg 3 (.call 18 [(.loc 0),(.loc 2)])),(.whl (.and (.cmp .lt (.loc 3) (.len (.loc 0))) (.cmp .ne (.sub (.loc 0) (.loc 3)) (.str "]"))) [(.asg 4 (.call 27 [(.loc 0),(.loc 3),(.bool true)])),(.asg 3 (.call 18 [(.loc 0),(.sub (.loc 4) (.int 3))]))]),(.ifs (.cmp .ge (.loc 3) (.len (.loc 0))) [(.raise (.mkErr (.str "missing close-bracket")))] []),(.ret (.tup [(.slc (.loc 0) (.loc 2) (.loc 3)),(.bin .add (.loc 3) (.int 1))]))]⟩
noncomputable def IW:Fn:=⟨2,9,[],[(.asg 2 (.len (.loc 0))),(.asg 3 (.bin .add (.loc 1) (.int 1))),(.asg 4 (.loc 3)),(.asg 5 (.str "")),(.asg 6 (.int 1)),(.whl (.cmp .lt (.loc 4) (.loc 2)) [(.ifs (.cmp .eq (.sub (.loc 0) (.loc 4)) (.str "{")) [(.aug 6 (.int 1)),(.aug 4 (.int 1))] [(.ifs (.cmp .eq (.sub (.loc 0) (.loc 4)) (.str "}")) [(.aug 6 (.int (-1))),(.aug 4 (.int 1)),(.ifs (.cmp .eq (.loc 6) (.int 0)) [(.ret (.tup [(.bin .add (.loc 5) (.slc (.loc 0) (.loc 3) (.bin .sub (.loc 4) (.int 1)))),(.loc 4)]))] [])] [(.ifs (.cmp .eq (.slc (.loc 0) (.loc 4) (.bin .add (.loc 4) (.int 2))) (.str "\\\n")) [(.asgT [7,8] (.call 14 [(.loc 0),(.loc 4)])),(.aug 5 (.bin .add (.slc (.loc 0) (.loc 3) (.loc 4)) (.loc 7))),(.asg 4 (.loc 8)),(.asg 3 (.loc 8))] [(.ifs (.cmp .eq (.sub (.loc 0) (.loc 4)) (.str "\\")) [(.aug 4 (.int 2))] [(.whl (.and (.cmp .lt (.loc 4) (.loc 2)) (.cmp .notin (.sub (.loc 0) (.loc 4)) (.str "{}\\"))) [(.aug 4 (.int 1))])])])])])]),(.raise (.mkErr (.str "missing close-brace")))]⟩
noncomputable def IX:Fn:=⟨3,10,[],[(.own 3),(.asg 4 (.str "")),(.asg 5 (.len (.loc 0))),(.whl (.and (.cmp .lt (.loc 1) (.loc 5)) (.cmp .notin (.sub (.loc 0) (.loc 1)) (.loc 2))) [(.ifs (.cmp .eq (.sub (.loc 0) (.loc 1)) (.str "$")) [(.asgT [6,1] (.call 20 [(.loc 0),(.loc 1)]))] [(.ifs (.cmp .eq (.sub (.loc 0) (.loc 1)) (.str "[")) [(.asgT [7,1] (.call 21 [(.loc 0),(.loc 1)])),(.asg 6 (.tup [(.str "cmd"),(.loc 7)]))] [(.ifs (.cmp .eq (.sub (.loc 0) (.loc 1)) (.str "\\")) [(.ifs (.and (.cmp .isin (.str " ") (.loc 2)) (.cmp .eq (.slc (.loc 0) (.bin .add (.loc 1) (.int 1)) (.bin .add (.loc 1) (.int 2))) (.str "\n"))) [.brk] []),(.asgT [8,1] (.call 14 [(.loc 0),(.loc 1)])),(.asg 6 (.tup [(.str "text"),(.loc 8)]))] [(.asg 9 (.loc 1)),(.whl (.and (.cmp .lt (.loc 1) (.loc 5)) (.and (.cmp .notin (.sub (.loc 0) (.loc 1)) (.str "$[\\")) (.cmp .notin (.sub (.loc 0) (.loc 1)) (.loc 2)))) [(.aug 1 (.int 1))]),(.asg 6 (.tup [(.str "text"),(.slc (.loc 0) (.loc 9) (.loc 1))]))])])]),(.ifs (.cmp .eq (.sub (.loc 6) (.int 0)) (.str "text")) [(.aug 4 (.sub (.loc 6) (.int 1)))] [(.ifs (.cmp .ne (.loc 4) (.str "")) [(.ownApp 3 (.tup [(.str "text"),(.loc 4)])),(.asg 4 (.str ""))] []),(.ownApp 3 (.loc 6))])]),(.ifs (.cmp .ne (.loc 4) (.str "")) [(.ownApp 3 (.tup [(.str "text"),(.loc 4)]))] []),(.ret (.tup [(.ownTup 3),(.loc 1)]))]⟩
noncomputable def IY:Fn:=⟨1,1,[],[(.ifs (.loc 0) [(.ret (.tup [(.str " "),(.str "\t"),(.str "\x0b"),(.str "\x0c"),(.str "\x0d"),(.str "\n"),(.str ";"),(.str "]")]))] []),(.ret (.tup [(.str " "),(.str "\t"),(.str "\x0b"),(.str "\x0c"),(.str "\x0d"),(.str "\n"),(.str ";")]))]⟩
noncomputable def IZ:Fn:=⟨2,3,[],[(.ifs (.cmp .ne (.slc (.loc 0) (.loc 1) (.bin .add (.loc 1) (.int 3))) (.str "{*}")) [(.ret (.bool false))] []),(.asg 2 (.bin .add (.loc 1) (.int 3))),(.ifs (.cmp .isin (.slc (.loc 0) (.loc 2) (.bin .add (.loc 2) (.int 1))) (.tup [(.str ""),(.str "\n"),(.str ";")])) [(.ret (.bool false))] []),(.ret (.cmp .eq (.call 16 [(.loc 0),(.loc 2)]) (.loc 2)))]⟩
noncomputable def I2:Fn:=⟨3,9,[],[(.asg 3 (.call 25 [(.loc 0),(.loc 1)])),(.ifs (.loc 3) [(.aug 1 (.int 3))] []),(.asg 4 (.slc (.loc 0) (.loc 1) (.bin .add (.loc 1) (.int 1)))),(.ifs (.cmp .eq (.loc 4) (.str "{")) [(.asgT [5,6] (.call 22 [(.loc 0),(.loc 1)])),(.ifs (.cmp .eq (.loc 5) (.str "")) [(.ret (.tup [(.tup [(.loc 3),(.tup [])]),(.loc 6)]))] []),(.ret (.tup [(.tup [(.loc 3),(.tup [(.tup [(.str "text"),(.loc 5)])])]),(.loc 6)]))] []),(.ifs (.cmp .eq (.loc 4) (.str "\"")) [(.asgT [7,8] (.call 23 [(.loc 0),(.bin .add (.loc 1) (.int 1)),(.tup [(.str "\"")])])),(.ifs (.cmp .ge (.loc 8) (.len (.loc 0))) [(.raise (.mkErr (.str "missing \"")))] []),(.ret (.tup [(.tup [(.loc 3),(.loc 7)]),(.bin .add (.loc 8) (.int 1))]))] []),(.asgT [7,6] (.call 23 [(.loc 0),(.loc 1),(.call 24 [(.loc 2)])])),(.ret (.tup [(.tup [(.loc 3),(.loc 7)]),(.loc 6)]))]⟩
noncomputable def I3:Fn:=⟨3,9,[.bool false],[(.asg 3 (.call 18 [(.loc 0),(.loc 1)])),(.asg 4 (.len (.loc 0))),(.ifs (.or (.cmp .ge (.loc 3) (.loc 4)) (.and (.loc 2) (.cmp .eq (.sub (.loc 0) (.loc 3)) (.str "]")))) [(.ret .none)] []),(.own 5),(.asg 6 (.loc 3)),(.whl (.bool true) [(.asgT [7,8] (.call 26 [(.loc 0),(.loc 6),(.loc 2)])),(.ownApp 5 (.loc 7)),(.asg 6 (.call 16 [(.loc 0),(.loc 8)])),(.ifs (.cmp .ge (.loc 6) (.loc 4)) [(.ret (.tup [(.ownTup 5),(.loc 3),(.loc 8),(.loc 4)]))] []),(.ifs (.cmp .isin (.sub (.loc 0) (.loc 6)) (.tup [(.str "\n"),(.str ";")])) [(.ret (.tup [(.ownTup 5),(.loc 3),(.loc 8),(.bin .add (.loc 6) (.int 1))]))] []),(.ifs (.and (.loc 2) (.cmp .eq (.sub (.loc 0) (.loc 6)) (.str "]"))) [(.ret (.tup [(.ownTup 5),(.loc 3),(.loc 8),(.loc 6)]))] []),(.ifs (.cmp .eq (.loc 6) (.loc 8)) [(.ifs (.cmp .eq (.sub (.loc 0) (.bin .sub (.loc 8) (.int 1))) (.str "\"")) [(.raise (.mkErr (.str "extra characters after close-quote")))] []),(.raise (.mkErr (.str "extra characters after close-brace")))] [])])]⟩
noncomputable def I4:Fn:=⟨1,3,[],[(.asgT [1,2] (.loc 0)),(.ifs (.or (.loc 1) (.cmp .gt (.len (.loc 2)) (.int 1))) [(.ret .none)] []),(.ifs (.cmp .eq (.len (.loc 2)) (.int 0)) [(.ret (.str ""))] []),(.ifs (.cmp .eq (.sub (.sub (.loc 2) (.int 0)) (.int 0)) (.str "text")) [(.ret (.sub (.sub (.loc 2) (.int 0)) (.int 1)))] []),(.ret .none)]⟩
noncomputable def I5:Fn:=⟨2,3,[],[(.try1 [(.ret (.tup [(.call 27 [(.loc 0),(.loc 1)]),.none]))] 2 [(.ret (.tup [.none,(.loc 2)]))])]⟩
noncomputable def FD:Fn:=⟨2,3,[],[(.ifs (.or (.not (.attr (.loc 0) "is_slots")) (.or (.cmp .isin (.str "::") (.loc 1)) (.cmp .isin (.str "(") (.loc 1)))) [(.ret .none)] []),(.forR 2 (.len (.attr (.loc 0) "names")) [(.ifs (.cmp .eq (.sub (.attr (.loc 0) "names") (.loc 2)) (.loc 1)) [(.ret (.loc 2))] [])]),(.expr (.append (.attr (.loc 0) "names") (.loc 1))),(.ret (.bin .sub (.len (.attr (.loc 0) "names")) (.int 1)))]⟩
noncomputable def GB:Fn:=⟨2,4,[],[(.asg 3 (.tuple (.comp (.sub (.loc 4) (.int 0)) (.loc 1) (.bool true)))),(.for1 2 (.loc 1) [(.expr (.meth 105 "word" (.loc 0) [(.loc 2)])),(.ifs (.sub (.loc 2) (.int 0)) [(.expr (.meth 101 "emit" (.loc 0) [(.str "split"),.none,.none,(.int 0)]))] [])]),(.ifs (.cmp .isin (.bool true) (.loc 3)) [(.expr (.meth 101 "emit" (.loc 0) [(.str "invoke_split"),(.len (.loc 1)),(.loc 3),(.bin .sub (.int 1) (.len (.loc 1)))]))] [(.expr (.meth 101 "emit" (.loc 0) [(.str "invoke"),(.len (.loc 1)),.none,(.bin .sub (.int 1) (.len (.loc 1)))]))])]⟩
noncomputable def I6:Fn:=⟨2,4,[],[(.asg 2 (.call 28 [(.sub (.loc 1) (.int 0))])),(.ifs (.or (.cmp .is (.loc 2) .none) (.or (.cmp .notin (.loc 2) (.attr (.loc 0) "compilers")) (.not .bad))) [(.ret .none)] []),(.for1 3 (.loc 1) [(.ifs (.sub (.loc 3) (.int 0)) [(.ret .none)] [])]),(.ret (.sub (.attr (.loc 0) "compilers") (.loc 2)))]⟩
noncomputable def I7:Fn:=⟨3,8,[],[(.asg 3 (.call 35 [(.loc 0),(.loc 1)])),(.ifs (.cmp .is (.loc 3) .none) [(.ret (.bool false))] []),(.asg 4 (.tup [(.len (.attr (.loc 0) "rows")),(.len (.attr (.loc 0) "ranges")),(.len (.attr (.loc 0) "names")),(.len (.attr (.loc 0) "sources"))])),(.asg 5 (.attr (.loc 0) "depth")),(.asg 6 (.attr (.loc 0) "eaches")),(.asg 7 (.meth 101 "emit" (.loc 0) [(.str "start"),(.loc 2),.none,(.int 0)])),(.ifs .bad [(.expr (.meth 102 "patch" (.loc 0) [(.loc 7),(.len (.attr (.loc 0) "rows"))])),(.ret (.bool true))] []),(.expr (.call 37 [(.loc 0),(.loc 4)])),(.setA (.loc 0) "depth" (.loc 5)),(.setA (.loc 0) "eaches" (.loc 6)),(.ret (.bool false))]⟩
noncomputable def GC:Fn:=⟨3,5,[],[(.asg 3 (.sub (.loc 1) (.int 0))),(.setI (.loc 1) (.int 0) (.bin .add (.loc 3) (.int 1))),(.asg 4 (.ite (.cmp .lt (.loc 3) (.len (.loc 0))) (.sub (.loc 0) (.loc 3)) (.bin .mod (.bin .pow (.int 3) (.loc 3)) (.int 1009)))),(.ret (.bin .mod (.loc 4) (.loc 2)))]⟩
noncomputable def I8:Fn:=⟨0,0,[],[(.ret (.lst [(.tup [(.str "rec 0"),(.lst [(.lst [(.lst [(.tup [(.str "t"),(.str "rec")])]),(.lst [(.tup [(.str "t"),(.str "0")])])])])]),(.tup [(.str "rec $x"),(.lst [(.lst [(.lst [(.tup [(.str "t"),(.str "rec")])]),(.lst [(.tup [(.str "v"),(.str "x")])])])])]),(.tup [(.str "rec 1; rec ${y}2"),(.lst [(.lst [(.lst [(.tup [(.str "t"),(.str "rec")])]),(.lst [(.tup [(.str "t"),(.str "1")])])]),(.lst [(.lst [(.tup [(.str "t"),(.str "rec")])]),(.lst [(.tup [(.str "v"),(.str "y")]),(.tup [(.str "t"),(.str "2")])])])])]),(.tup [(.str " # none\n"),(.lst [])]),(.tup [(.str "rec [rec 3] $y"),(.lst [(.lst [(.lst [(.tup [(.str "t"),(.str "rec")])]),(.lst [(.tup [(.str "c"),(.int 4)])]),(.lst [(.tup [(.str "v"),(.str "y")])])])])]),(.tup [(.str "rec 4;rec {"),(.lst [(.lst [(.lst [(.tup [(.str "t"),(.str "rec")])]),(.lst [(.tup [(.str "t"),(.str "4")])])]),(.str "missing close-brace")])]),(.tup [(.str "stop e$x"),(.lst [(.lst [(.lst [(.tup [(.str "t"),(.str "stop")])]),(.lst [(.tup [(.str "t"),(.str "e")]),(.tup [(.str "v"),(.str "x")])])])])]),(.tup [(.str "rec 3"),(.lst [(.lst [(.lst [(.tup [(.str "t"),(.str "rec")])]),(.lst [(.tup [(.str "t"),(.str "3")])])])])])]))]⟩
noncomputable def GD:Fn:=⟨2,4,[],[(.asg 2 (.call 39 [(.loc 0),(.loc 1),(.int 8)])),(.ifs (.cmp .eq (.loc 2) (.int 0)) [(.ret (.tup [(.str "num"),(.call 39 [(.loc 0),(.loc 1),(.bin .pow (.int 10) (.int 30))])]))] []),(.ifs (.cmp .eq (.loc 2) (.int 1)) [(.ret (.tup [(.str "text"),(.sub (.lst [(.str "yes"),(.str "0"),(.str ""),(.str "x"),(.str "no"),(.str "1")]) (.call 39 [(.loc 0),(.loc 1),(.int 6)]))]))] []),(.ifs (.cmp .eq (.loc 2) (.int 2)) [(.ret (.tup [(.str "parts"),(.tup [(.tup [(.str "var"),(.sub (.str "xyq") (.call 39 [(.loc 0),(.loc 1),(.int 3)])),.none])])]))] []),(.ifs (.cmp .eq (.loc 2) (.int 3)) [(.asg 3 (.sub (.lst [(.tup [(.str "text"),(.str "1")]),(.tup [(.str "var"),(.str "x"),.none]),(.tup [(.str "cmd"),(.str "rec 0")])]) (.call 39 [(.loc 0),(.loc 1),(.int 3)]))),(.ret (.tup [(.str "parts"),(.tup [(.tup [(.str "var"),(.str "a"),(.tup [(.loc 3)])])])]))] []),(.ifs (.cmp .eq (.loc 2) (.int 4)) [(.ret (.tup [(.str "parts"),(.tup [(.tup [(.str "text"),(.str "e")]),(.tup [(.str "var"),(.str "y"),.none]),(.tup [(.str "cmd"),(.sub (.sub (.call 40 []) (.call 39 [(.loc 0),(.loc 1),(.int 7)])) (.int 0))])])]))] []),(.ret (.tup [(.str "parts"),(.tup [(.tup [(.str "cmd"),(.sub (.sub (.call 40 []) (.call 39 [(.loc 0),(.loc 1),(.int 7)])) (.int 0))])])]))]⟩
noncomputable def GE:Fn:=⟨2,2,[],[(.ret (.sub (.lst [(.str "+"),(.str "eq"),(.str "**"),(.str "&")]) (.call 39 [(.loc 0),(.loc 1),(.int 4)])))]⟩
noncomputable def sT:Fn:=⟨3,6,[],[(.asg 3 (.call 39 [(.loc 0),(.loc 1),(.int 10)])),(.ifs (.or (.cmp .eq (.loc 2) (.int 0)) (.cmp .lt (.loc 3) (.int 2))) [(.ret (.call 41 [(.loc 0),(.loc 1)]))] []),(.asg 4 (.call 43 [(.loc 0),(.loc 1),(.bin .sub (.loc 2) (.int 1))])),(.ifs (.cmp .eq (.loc 3) (.int 2)) [(.ret (.tup [(.str "un"),(.sub (.str "-!~+") (.call 39 [(.loc 0),(.loc 1),(.int 4)])),(.loc 4)]))] []),(.ifs (.cmp .eq (.loc 3) (.int 3)) [(.ret (.tup [(.str "call"),(.sub (.str "fg") (.call 39 [(.loc 0),(.loc 1),(.int 2)])),(.tup [(.loc 4)])]))] []),(.asg 5 (.call 43 [(.loc 0),(.loc 1),(.bin .sub (.loc 2) (.int 1))])),(.ifs (.cmp .eq (.loc 3) (.int 4)) [(.ret (.tup [(.str "call"),(.str "f"),(.slc (.tup [(.loc 4),(.loc 5),(.tup [(.str "num"),(.int 7)])]) (.call 39 [(.loc 0),(.loc 1),(.int 3)]) .none)]))] []),(.ifs (.or (.cmp .eq (.loc 3) (.int 5)) (.cmp .eq (.loc 3) (.int 6))) [(.ret (.tup [(.sub (.lst [(.str "and"),(.str "or")]) (.bin .sub (.loc 3) (.int 5))),(.loc 4),(.loc 5)]))] []),(.ifs (.cmp .eq (.loc 3) (.int 7)) [(.ret (.tup [(.str "if"),(.loc 4),(.loc 5),(.call 43 [(.loc 0),(.loc 1),(.bin .sub (.loc 2) (.int 1))])]))] []),(.ret (.tup [(.str "bin"),(.call 42 [(.loc 0),(.loc 1)]),(.loc 4),(.loc 5)]))]⟩
noncomputable def GF:Fn:=⟨3,6,[],[(.forR 3 (.call 39 [(.loc 0),(.loc 1),(.int 7)]) [(.asg 4 (.call 39 [(.loc 0),(.loc 1),(.int 4)])),(.asg 5 (.call 43 [(.loc 0),(.loc 1),(.int 1)])),(.ifs (.cmp .lt (.loc 4) (.int 2)) [(.asg 2 (.tup [(.sub (.lst [(.str "and"),(.str "or")]) (.loc 4)),(.loc 2),(.loc 5)]))] [(.asg 2 (.tup [(.str "bin"),(.call 42 [(.loc 0),(.loc 1)]),(.loc 2),(.loc 5)]))])]),(.ret (.loc 2))]⟩
noncomputable def GH:Fn:=⟨2,5,[],[(.asg 2 (.compR (.call 41 [(.loc 0),(.loc 1)]) (.int 8))),(.asg 3 (.tup [(.str "or"),(.sub (.loc 2) (.int 0)),(.tup [(.str "and"),(.sub (.loc 2) (.int 1)),(.sub (.loc 2) (.int 2))])])),(.asg 4 (.tup [(.str "if"),(.loc 3),(.tup [(.str "call"),(.str "g"),(.tup [(.sub (.loc 2) (.int 3)),(.tup [(.str "un"),(.str "-"),(.sub (.loc 2) (.int 4))])])]),(.sub (.loc 2) (.int 5))])),(.ret (.tup [(.str "bin"),(.str "+"),(.tup [(.str "or"),(.tup [(.str "bin"),(.str "eq"),(.loc 4),(.sub (.loc 2) (.int 6))]),(.tup [(.str "num"),(.int 0)])]),(.tup [(.str "and"),(.sub (.loc 2) (.int 7)),(.tup [(.str "call"),(.str "f"),(.tup [])])])]))]⟩
noncomputable def GI:Fn:=⟨2,3,[],[(.expr (.append (.sub (.loc 0) (.int 1)) (.loc 1))),(.asg 2 (.sum (.comp2 (.ord (.loc 4)) (.loc 1) (.loc 3)))),(.ifs (.cmp .eq (.bin .mod (.loc 2) (.int 17)) (.int 3)) [(.raise (.raised [(.int 1),(.bin .add (.str "odd ") (.strOf (.loc 2)))]))] []),(.ret (.sub (.lst [(.str "1"),(.str "0"),(.str "yes"),(.str "no"),(.str "2"),(.str "0"),(.str "x")]) (.bin .mod (.loc 2) (.int 7))))]⟩
noncomputable def GJ:Fn:=⟨2,2,[],[(.ifs (.cmp .notin (.loc 1) (.sub (.loc 0) (.int 0))) [(.raise (.raised [(.int 1),(.bin .add (.str "no ") (.loc 1))]))] []),(.ret (.sub (.sub (.loc 0) (.int 0)) (.loc 1)))]⟩
noncomputable def GK:Fn:=⟨2,2,[],[(.expr (.append (.sub (.loc 0) (.int 1)) (.tup [(.str "truth"),(.loc 1)]))),(.ifs (.or (.cmp .isin (.loc 1) (.lst [(.str ""),(.str "x")])) (.cmp .eq (.sub (.loc 1) (.int 0)) (.str "e"))) [(.raise (.raised [(.int 1),(.bin .add (.str "no truth: ") (.loc 1))]))] []),(.ret (.cmp .notin (.strip (.loc 1) (.str "0")) (.lst [(.str ""),(.str "no")])))]⟩
noncomputable def GL:Fn:=⟨2,3,[],[(.asg 2 (.call 46 [(.loc 0),(.tuple (.loc 1))])),(.ifs (.cmp .eq (.sub (.loc 1) (.int 0)) (.str "stop")) [(.raise (.raised [(.sub (.loc 0) (.int 2)),(.loc 2)]))] []),(.ret (.loc 2))]⟩
noncomputable def GM:Fn:=⟨2,5,[],[(.asg 2 (.str "")),(.forT [3,4] (.loc 1) [(.ifs (.cmp .eq (.loc 3) (.str "t")) [(.asg 2 (.bin .add (.loc 2) (.loc 4)))] [(.ifs (.cmp .eq (.loc 3) (.str "v")) [(.asg 2 (.bin .add (.loc 2) (.call 47 [(.loc 0),(.loc 4)])))] [(.asg 2 (.bin .add (.loc 2) (.call 51 [(.loc 0),(.str "rec 3")])))])])]),(.ret (.loc 2))]⟩
noncomputable def GN:Fn:=⟨2,4,[],[(.asg 2 (.str "")),(.for1 3 (.sub (.comp (.sub (.loc 4) (.int 1)) (.call 40 []) (.cmp .eq (.sub (.loc 4) (.int 0)) (.loc 1))) (.int 0)) [(.ifs (.cmp .eq (.loc 3) (.str "missing close-brace")) [(.raise (.raised [(.int 1),(.loc 3)]))] []),(.asg 2 (.call 49 [(.loc 0),(.comp (.call 50 [(.loc 0),(.loc 4)]) (.loc 3) (.bool true))]))]),(.ret (.loc 2))]⟩
noncomputable def GO:Fn:=⟨2,4,[],[(.asg 2 (.str "")),(.for1 3 (.loc 1) [(.ifs (.cmp .eq (.sub (.loc 3) (.int 0)) (.str "text")) [(.asg 2 (.bin .add (.loc 2) (.sub (.loc 3) (.int 1))))] [(.ifs (.cmp .eq (.sub (.loc 3) (.int 0)) (.str "cmd")) [(.asg 2 (.bin .add (.loc 2) (.call 51 [(.loc 0),(.sub (.loc 3) (.int 1))])))] [(.ifs (.cmp .is (.sub (.loc 3) (.int 2)) .none) [(.asg 2 (.bin .add (.loc 2) (.call 47 [(.loc 0),(.sub (.loc 3) (.int 1))])))] [(.asg 2 (.bin .add (.loc 2) (.call 47 [(.loc 0),(.bin .add (.bin .add (.bin .add (.sub (.loc 3) (.int 1)) (.str "(")) (.call 52 [(.loc 0),(.sub (.loc 3) (.int 2))])) (.str ")"))])))])])])]),(.ret (.loc 2))]⟩
noncomputable def z5:Fn:=⟨2,5,[],[(.asg 2 (.sub (.loc 1) (.int 0))),(.ifs (.cmp .eq (.loc 2) (.str "num")) [(.ret (.strOf (.sub (.loc 1) (.int 1))))] []),(.ifs (.cmp .eq (.loc 2) (.str "text")) [(.ret (.sub (.loc 1) (.int 1)))] []),(.ifs (.cmp .eq (.loc 2) (.str "parts")) [(.ret (.call 52 [(.loc 0),(.sub (.loc 1) (.int 1))]))] []),(.ifs (.cmp .eq (.loc 2) (.str "if")) [(.ret (.call 53 [(.loc 0),(.ite (.call 48 [(.loc 0),(.call 53 [(.loc 0),(.sub (.loc 1) (.int 1))])]) (.sub (.loc 1) (.int 2)) (.sub (.loc 1) (.int 3)))]))] []),(.ifs (.cmp .eq (.loc 2) (.str "call")) [(.ret (.call 46 [(.loc 0),(.tuple (.bin .add (.lst [(.bin .add (.str "f:") (.sub (.loc 1) (.int 1)))]) (.comp (.call 53 [(.loc 0),(.loc 5)]) (.sub (.loc 1) (.int 2)) (.bool true))))]))] []),(.ifs (.cmp .eq (.loc 2) (.str "un")) [(.ret (.call 46 [(.loc 0),(.tup [(.bin .add (.str "u:") (.sub (.loc 1) (.int 1))),(.call 53 [(.loc 0),(.sub (.loc 1) (.int 2))])])]))] []),(.ifs (.cmp .eq (.loc 2) (.str "bin")) [(.asg 3 (.call 53 [(.loc 0),(.sub (.loc 1) (.int 2))])),(.ret (.call 46 [(.loc 0),(.tup [(.bin .add (.str "b:") (.sub (.loc 1) (.int 1))),(.loc 3),(.call 53 [(.loc 0),(.sub (.loc 1) (.int 3))])])]))] []),(.asg 4 (.call 48 [(.loc 0),(.call 53 [(.loc 0),(.sub (.loc 1) (.int 1))])])),(.ifs (.cmp .ne (.loc 4) (.cmp .eq (.loc 2) (.str "or"))) [(.asg 4 (.call 48 [(.loc 0),(.call 53 [(.loc 0),(.sub (.loc 1) (.int 2))])]))] []),(.ret (.ite (.loc 4) (.str "1") (.str "0")))]⟩
noncomputable def I9:Fn:=⟨1,1,[],[(.ret (.dget [" # none\n","rec $x","rec 0","rec 3","rec [rec 3] $y","stop e$x"] [1,3,3,3,6,5] 0 0))]⟩
noncomputable def CG:Fn:=⟨1,4,[],[(.asg 1 (.sub (.loc 0) (.int 0))),(.ifs (.cmp .isin (.loc 1) (.lst [(.str "num"),(.str "text")])) [(.ret (.int 1))] []),(.ifs (.cmp .eq (.loc 1) (.str "parts")) [(.asg 2 (.ite (.cmp .eq (.len (.sub (.loc 0) (.int 1))) (.int 1)) (.int 0) (.int 1))),(.for1 3 (.sub (.loc 0) (.int 1)) [(.ifs (.and (.cmp .eq (.sub (.loc 3) (.int 0)) (.str "var")) (.cmp .isnot (.sub (.loc 3) (.int 2)) .none)) [(.asg 2 (.bin .add (.bin .add (.loc 2) (.call 55 [(.tup [(.str "parts"),(.sub (.loc 3) (.int 2))])])) (.int 1)))] [(.ifs (.and (.cmp .eq (.sub (.loc 3) (.int 0)) (.str "cmd")) (.cmp .eq (.sub (.loc 3) (.int 1)) (.str "rec 4;rec {"))) [(.asg 2 (.bin .add (.loc 2) (.int 5)))] [(.ifs (.and (.cmp .eq (.sub (.loc 3) (.int 0)) (.str "cmd")) (.cmp .eq (.sub (.loc 3) (.int 1)) (.str "rec 1; rec ${y}2"))) [(.asg 2 (.bin .add (.loc 2) (.int 9)))] [(.asg 2 (.bin .add (.loc 2) (.ite (.cmp .eq (.sub (.loc 3) (.int 0)) (.str "cmd")) (.call 54 [(.sub (.loc 3) (.int 1))]) (.int 1))))])])])]),(.ret (.loc 2))] []),(.ifs (.cmp .eq (.loc 1) (.str "call")) [(.ret (.bin .add (.int 1) (.sum (.comp (.call 55 [(.loc 4)]) (.sub (.loc 0) (.int 2)) (.bool true)))))] []),(.ifs (.cmp .eq (.loc 1) (.str "un")) [(.ret (.bin .add (.int 1) (.call 55 [(.sub (.loc 0) (.int 2))])))] []),(.ifs (.cmp .eq (.loc 1) (.str "bin")) [(.ret (.bin .add (.bin .add (.int 1) (.call 55 [(.sub (.loc 0) (.int 2))])) (.call 55 [(.sub (.loc 0) (.int 3))])))] []),(.ret (.bin .add (.sum (.comp (.call 55 [(.loc 4)]) (.slc (.loc 0) (.int 1) .none) (.bool true))) (.ite (.cmp .eq (.loc 1) (.str "if")) (.int 2) (.int 4))))]⟩
noncomputable def GP:Fn:=⟨2,3,[],[(.asg 2 (.compR (.pop (.loc 0)) (.loc 1))),(.ret (.compR (.sub (.loc 2) (.bin .sub (.bin .sub (.loc 1) (.int 1)) (.loc 3))) (.loc 1)))]⟩
noncomputable def nV:Fn:=⟨3,6,[],[(.asgT [3,4,5] (.loc 2)),(.ifs (.cmp .eq (.loc 3) (.str "push")) [(.ret (.loc 4))] []),(.ifs (.cmp .isin (.loc 3) (.lst [(.str "load"),(.str "load_name")])) [(.ret (.call 47 [(.loc 0),(.ite (.cmp .eq (.loc 3) (.str "load")) (.loc 5) (.loc 4))]))] []),(.ifs (.cmp .eq (.loc 3) (.str "load_element")) [(.ret (.call 47 [(.loc 0),(.bin .add (.bin .add (.bin .add (.loc 4) (.str "(")) (.pop (.loc 1))) (.str ")"))]))] []),(.ifs (.cmp .eq (.loc 3) (.str "join")) [(.ret (.join (.str "") (.call 56 [(.loc 1),(.loc 4)])))] []),(.ifs (.cmp .eq (.loc 3) (.str "invoke")) [(.ret (.call 49 [(.loc 0),(.call 56 [(.loc 1),(.loc 4)])]))] []),(.ifs (.cmp .eq (.loc 3) (.str "unary")) [(.ret (.call 46 [(.loc 0),(.tup [(.bin .add (.str "u:") (.loc 4)),(.pop (.loc 1))])]))] []),(.ifs (.cmp .eq (.loc 3) (.str "binary")) [(.ret (.call 46 [(.loc 0),(.tuple (.bin .add (.lst [(.bin .add (.str "b:") (.loc 4))]) (.call 56 [(.loc 1),(.int 2)])))]))] []),(.ifs (.cmp .eq (.loc 3) (.str "function")) [(.ret (.call 46 [(.loc 0),(.tuple (.bin .add (.lst [(.bin .add (.str "f:") (.loc 4))]) (.call 56 [(.loc 1),(.loc 5)])))]))] []),(.ifs (.cmp .eq (.loc 3) (.str "truth")) [(.ret (.ite (.call 48 [(.loc 0),(.pop (.loc 1))]) (.str "1") (.str "0")))] []),(.raise (.raised [(.ite (.cmp .eq (.loc 3) (.str "fail")) (.int 1) (.int 9)),(.loc 4)]))]⟩
noncomputable def GQ:Fn:=⟨2,7,[],[(.asg 2 (.cel [])),(.asg 3 (.int 0)),(.whl (.cmp .lt (.loc 3) (.len (.loc 1))) [(.asgT [4,5,6] (.sub (.loc 1) (.loc 3))),(.asg 3 (.bin .add (.loc 3) (.int 1))),(.ifs (.cmp .isin (.loc 4) (.lst [(.str "jump"),(.str "jump_true"),(.str "jump_false")])) [(.ifs (.not (.cmp2 .le .le (.loc 3) (.loc 5) (.len (.loc 1)))) [(.raise (.raised [(.int 9),(.str "a jump that does not lead ahead")]))] []),(.ifs (.or (.cmp .eq (.loc 4) (.str "jump")) (.cmp .eq (.call 48 [(.loc 0),(.pop (.loc 2))]) (.cmp .eq (.loc 4) (.str "jump_true")))) [(.asg 3 (.loc 5))] [])] [(.ifs (.cmp .eq (.loc 4) (.str "pop")) [(.expr (.pop (.loc 2)))] [(.expr (.append (.loc 2) (.call 57 [(.loc 0),(.loc 2),(.tup [(.loc 4),(.loc 5),(.loc 6)])])))])])]),(.ret (.loc 2))]⟩
noncomputable def EN:Fn:=⟨3,4,[],[(.try1 [(.ifs (.cmp .isnot (.loc 1) .none) [(.ret (.tup [(.int 0),(.call 58 [(.loc 0),(.loc 1)])]))] []),(.ret (.tup [(.int 0),(.comp (.call 53 [(.loc 0),(.loc 4)]) (.loc 2) (.bool true))]))] 3 [(.ret (.tup [(.attr (.loc 3) "code"),(.attr (.loc 3) "value")]))])]⟩
noncomputable def GR:Fn:=⟨2,5,[],[(.forT [2,3,4] (.attr (.loc 0) "rows") [(.ifs (.or (.and (.cmp .eq (.loc 2) (.str "load")) (.not (.and (.loc 1) (.cmp .eq (.sub (.attr (.loc 0) "names") (.loc 3)) (.loc 4))))) (.and (.cmp .eq (.loc 2) (.str "load_name")) (.loc 1))) [(.ret (.bool false))] [])]),(.ret (.cmp .eq (.comp (.loc 5) (.attr (.loc 0) "names") (.cmp .gt (.count (.attr (.loc 0) "names") (.loc 5)) (.int 1))) (.lst [])))]⟩
noncomputable def Ea:Fn:=⟨1,10,[],[(.asg 0 (.slc (.loc 0) .none (.int 63))),(.asg 1 (.cel [(.int 0)])),(.asg 2 (.cmp .eq (.call 39 [(.loc 0),(.loc 1),(.int 2)]) (.int 1))),(.asg 3 (.call 43 [(.loc 0),(.loc 1),(.int 3)])),(.asg 3 (.call 44 [(.loc 0),(.loc 1),(.loc 3)])),(.asg 4 (.lst [(.loc 3),(.call 45 [(.loc 0),(.loc 1)])])),(.asg 5 (.dct ["x","y"] [(.sub (.lst [(.str "1"),(.str "0"),(.str "no"),(.str "x")]) (.call 39 [(.loc 0),(.loc 1),(.int 4)])),(.sub (.lst [(.str "yes"),(.str "2"),(.str "")]) (.call 39 [(.loc 0),(.loc 1),(.int 3)]))])),(.setI (.loc 5) (.str "a(1)") (.str "0")),(.asg 6 (.sub (.lst [(.int 1),(.int 3),(.int 4),(.int 2),(.int 5)]) (.call 39 [(.loc 0),(.loc 1),(.int 5)]))),(.asg 7 (.lst [(.tup [(.loc 5),(.cel []),(.loc 6)]),(.tup [(.loc 5),(.cel []),(.loc 6)])])),(.asg 8 (.newInst 100 [.none,(.dct [] []),(.loc 2)])),(.forR 9 (.int 2) [(.expr (.call 5 [(.loc 8),(.sub (.loc 4) (.loc 9))])),(.ifs (.cmp .ne (.attr (.loc 8) "depth") (.bin .add (.loc 9) (.int 1))) [(.ret (.bool false))] [])]),(.ifs (.cmp .ne (.call 59 [(.sub (.loc 7) (.int 0)),(.attr (.loc 8) "rows"),(.loc 4)]) (.call 59 [(.sub (.loc 7) (.int 1)),.none,(.loc 4)])) [(.ret (.bool false))] []),(.ifs (.or (.cmp .ne (.sub (.sub (.loc 7) (.int 0)) (.int 1)) (.sub (.sub (.loc 7) (.int 1)) (.int 1))) (.cmp .ne (.len (.attr (.loc 8) "rows")) (.sum (.comp (.call 55 [(.loc 10)]) (.loc 4) (.bool true))))) [(.ret (.bool false))] []),(.ret (.and (.cmp .eq (.attr (.loc 8) "ranges") (.lst [])) (.and (.cmp .eq (.attr (.loc 8) "loops") (.lst [])) (.call 60 [(.loc 8),(.loc 2)]))))]⟩
noncomputable def Bx:Fn:=⟨5,5,[],[(.expr (.append (.attr (.loc 0) "rows") (.tup [(.loc 1),(.loc 2),(.loc 3)]))),(.augA (.loc 0) "depth" (.loc 4)),(.ret (.bin .sub (.len (.attr (.loc 0) "rows")) (.int 1)))]⟩
noncomputable def By:Fn:=⟨3,6,[],[(.asgT [3,4,5] (.sub (.attr (.loc 0) "rows") (.loc 1))),(.ifs (.cmp .isin (.loc 3) (.tup [(.str "start"),(.str "each_step")])) [(.setI (.attr (.loc 0) "rows") (.loc 1) (.tup [(.loc 3),(.loc 4),(.loc 2)]))] [(.setI (.attr (.loc 0) "rows") (.loc 1) (.tup [(.loc 3),(.loc 2),(.loc 5)]))])]⟩
noncomputable def Bz:Fn:=⟨2,3,[],[(.asg 2 (.call 33 [(.loc 0),(.loc 1)])),(.ifs (.cmp .is (.loc 2) .none) [(.expr (.meth 101 "emit" (.loc 0) [(.str "load_name"),(.loc 1),.none,(.int 1)]))] [(.expr (.meth 101 "emit" (.loc 0) [(.str "load"),(.loc 2),(.loc 1),(.int 1)]))])]⟩
noncomputable def BA:Fn:=⟨2,2,[],[(.expr (.meth 106 "parts" (.loc 0) [(.sub (.loc 1) (.int 1))]))]⟩
noncomputable def BB:Fn:=⟨2,3,[],[(.for1 2 (.loc 1) [(.ifs (.cmp .eq (.sub (.loc 2) (.int 0)) (.str "text")) [(.expr (.meth 101 "emit" (.loc 0) [(.str "push"),(.sub (.loc 2) (.int 1)),.none,(.int 1)]))] [(.ifs (.cmp .eq (.sub (.loc 2) (.int 0)) (.str "cmd")) [(.expr (.meth 107 "script" (.loc 0) [(.sub (.loc 2) (.int 1))]))] [(.ifs (.cmp .is (.sub (.loc 2) (.int 2)) .none) [(.expr (.meth 103 "load" (.loc 0) [(.sub (.loc 2) (.int 1))]))] [(.expr (.meth 106 "parts" (.loc 0) [(.sub (.loc 2) (.int 2))])),(.expr (.meth 101 "emit" (.loc 0) [(.str "load_element"),(.sub (.loc 2) (.int 1)),.none,(.int 0)]))])])])]),(.ifs (.cmp .eq (.len (.loc 1)) (.int 0)) [(.expr (.meth 101 "emit" (.loc 0) [(.str "push"),(.str ""),.none,(.int 1)]))] [(.ifs (.cmp .gt (.len (.loc 1)) (.int 1)) [(.expr (.meth 101 "emit" (.loc 0) [(.str "join"),(.len (.loc 1)),.none,(.bin .sub (.int 1) (.len (.loc 1)))]))] [])])]⟩
noncomputable def BC:Fn:=⟨2,5,[],[(.asg 2 (.attr (.loc 0) "depth")),(.asgT [3,4] (.call 31 [(.loc 1),(.int 0)])),(.whl (.or (.cmp .isnot (.loc 3) .none) (.cmp .isnot (.loc 4) .none)) [(.ifs (.cmp .gt (.attr (.loc 0) "depth") (.loc 2)) [(.expr (.meth 101 "emit" (.loc 0) [(.str "pop"),.none,.none,(.int (-1))]))] []),(.ifs (.cmp .isnot (.loc 4) .none) [(.expr (.meth 101 "emit" (.loc 0) [(.str "fail"),(.attr (.loc 4) "value"),(.attr (.loc 4) "errorcode"),(.int 1)])),(.ret .none)] []),(.expr (.meth 108 "command" (.loc 0) [(.loc 3),(.slc (.loc 1) (.sub (.loc 3) (.int 1)) (.sub (.loc 3) (.int 2)))])),(.asgT [3,4] (.call 31 [(.loc 1),(.sub (.loc 3) (.int 3))]))]),(.ifs (.cmp .eq (.attr (.loc 0) "depth") (.loc 2)) [(.expr (.meth 101 "emit" (.loc 0) [(.str "push"),(.str ""),.none,(.int 1)]))] [])]⟩
noncomputable def BD:Fn:=⟨3,4,[],[(.asg 3 (.len (.attr (.loc 0) "rows"))),(.ifs (.not (.call 36 [(.loc 0),(.sub (.loc 1) (.int 0)),(.loc 2)])) [(.expr (.call 34 [(.loc 0),(.sub (.loc 1) (.int 0))]))] []),(.expr (.append (.attr (.loc 0) "sources") (.tup [(.loc 3),(.len (.attr (.loc 0) "rows")),(.loc 2)])))]⟩
noncomputable def Hu:Fn:=⟨4,4,[],[(.setA (.loc 0) "host" (.loc 1)),(.setA (.loc 0) "compilers" (.loc 2)),(.setA (.loc 0) "is_slots" (.loc 3)),(.setA (.loc 0) "rows" (.cel [])),(.setA (.loc 0) "ranges" (.cel [])),(.setA (.loc 0) "names" (.cel [])),(.setA (.loc 0) "sources" (.cel [])),(.setA (.loc 0) "loops" (.cel [])),(.setA (.loc 0) "depth" (.int 0)),(.setA (.loc 0) "eaches" (.int 0))]⟩
noncomputable def GS:List (Nat×Fn):=[(2,f2),(3,f3),(4,f4),(5,f5),(8,f8),(10,Ix),(14,Iy),(15,Iz),(16,IP),(17,IQ),(18,IS),(19,IT),(20,IU),(21,IV),(22,IW),(23,IX),(24,IY),(25,IZ),(26,I2),(27,I3),(28,I4),(31,I5),(33,FD),(34,GB),(35,I6),(36,I7),(39,GC),(40,I8),(41,GD),(42,GE),(43,sT),(44,GF),(45,GH),(46,GI),(47,GJ),(48,GK),(49,GL),(50,GM),(51,GN),(52,GO),(53,z5),(54,I9),(55,CG),(56,GP),(57,nV),(58,GQ),(59,EN),(60,GR),(61,Ea),(101,Bx),(102,By),(103,Bz),(105,BA),(106,BB),(107,BC),(108,BD),(100,Hu)]
noncomputable def sU:Nat→List (Nat×Fn)→Option Fn
 | _,[]=>none
 | k,(n,f)::r=>bif Nat.beq k n then some f else sU k r
noncomputable def PL(k:Nat):Option Fn:=match sU k GS with
 | some f=>some f
 | none=>oA Ht k
theorem qu{k:Nat}{f:Fn}:∀ {l:List (Nat×Fn)},sU k l=some f→(k,f)∈l
 | (n,g)::r,h=>by
  unfold sU at h
  cases hb:Nat.beq k n with
  | true=>
   rw [hb] at h
   cases h
   rw [Nat.eq_of_beq_eq_true hb]
   exact .head _
  | false=>
   rw [hb] at h
   exact .tail _ (qu h)
theorem Eb:GS.map (fun x=>oA Ht x.1)=GS.map fun x=>some x.2:=by kernel_rfl
theorem PL_eq:oA Ht=PL:=by
 funext k
 unfold PL
 cases h:sU k GS with
 | none=>rfl
 | some f=>exact List.map_inj_left.mp Eb (k,f) (qu h)
end Mine.Internal.Q
end
section
open PySem
namespace Mine.Internal.Q
noncomputable section
theorem CH{P:Nat→Prop}(r:Nat)(h:r<0):P r:=absurd h (Nat.not_lt_zero r)
theorem lD{P:Nat→Prop}{n:Nat}(h:P n)(k:∀ r,r<n→P r)(r:Nat)(hr:r<n+1):P r:=(Nat.lt_succ_iff_lt_or_eq.mp hr).elim (k r) fun e=>e▸h
theorem Hv{α:Type}{P:List α→Prop}(h:P [])(l:List α)(e:l.length=0):P l:=List.length_eq_zero_iff.mp e▸h
theorem sV{α:Type}{P:List α→Prop}{n:Nat}(h:∀ a l,l.length=n→P (a::l))(l:List α)(e:l.length=n+1):P l:=by
 cases l with
 | nil=>exact nomatch e
 | cons a l=>exact h a l (Nat.succ.inj e)
noncomputable abbrev CF:=Nat→List V→St→cR V
noncomputable def uy{α:Type}(v:V)(σ:St):cR α:=some (.exc v σ)
noncomputable def plain:V→Bool
 | .own _=>false
 | _=>true
section
variable {C:CF} {w d:Nat} {ρ:ck} {σ σ':St} {v:V} {l:List V} {e e1 e2 e3:PE} {es:List PE}
theorem aD{α β:Type}{a:α}{f:α→St→cR β}:(bv a σ).bind f=f a σ:=rfl
theorem bh{α β:Type}{f:α→St→cR β}:(uy v σ).bind f=uy v σ:=rfl
theorem aX{α:Type}{a:α}:lift (some a) σ=bv a σ:=rfl
theorem bp{α:Type}{a:α}:some (jE.ok a σ)=bv a σ:=rfl
theorem bq{α:Type}:some (jE.exc (α:=α) v σ)=uy v σ:=rfl
theorem bf{α β:Type}{a:α}{f:α→β}:Option.map f (some a)=some (f a):=rfl
theorem k_{α β γ:Type}{x:cR α}{f:α→St→cR β}{g:β→St→cR γ}:(x.bind f).bind g=x.bind fun a σ=>(f a σ).bind g:=by
 cases x with
 | none=>rfl
 | some r=>cases r<;>rfl
theorem Hw{α:Type}{x:cR α}:(x.bind fun a σ=>bv a σ)=x:=by
 cases x with
 | none=>rfl
 | some r=>cases r<;>rfl
theorem am{s:Str}:plain (.str s)=true:=(rfl)
theorem al{i:Int}:plain (.int i)=true:=(rfl)
theorem ae{b:Bool}:plain (.bool b)=true:=(rfl)
theorem ac:plain .none=true:=(rfl)
theorem ao:plain (.tup l)=true:=(rfl)
theorem ak:plain (.lst l)=true:=(rfl)
theorem aj{n:Nat}:plain (.ref n)=true:=(rfl)
theorem aC{n:Nat}:plain (.dct n)=true:=(rfl)
theorem ad{n:Nat}:plain (.inst n)=true:=(rfl)
theorem aA{a b:V}:plain (.exc a b)=true:=(rfl)
theorem lf{i:Nat}(h:ρ[i]?=some (some v))(hp:plain v=true):ev C ρ (.loc i) σ=bv v σ:=by
 have e:jV ρ i=some v:=congrArg (Option.bind · id) h
 refine congrArg (lift · σ) ((congrArg (Option.bind · fun v=>if uW v then none else some v) e).trans (if_neg fun q=>?_))
 cases v<;>first | exact j9 q | exact j9 hp
section
variable {x0 x1 x2 x3 x4 x5 x6 x7 x8 x9:Option V}
theorem aV(h:plain v=true):ev C (some v::ρ) (.loc 0) σ=bv v σ:=lf rfl h
theorem aW(h:plain v=true):ev C (x0::some v::ρ) (.loc 1) σ=bv v σ:=lf rfl h
theorem aY(h:plain v=true):ev C (x0::x1::some v::ρ) (.loc 2) σ=bv v σ:=lf rfl h
theorem ba(h:plain v=true):ev C (x0::x1::x2::some v::ρ) (.loc 3) σ=bv v σ:=lf rfl h
theorem a_(h:plain v=true):ev C (x0::x1::x2::x3::some v::ρ) (.loc 4) σ=bv v σ:=lf rfl h
theorem bc(h:plain v=true):ev C (x0::x1::x2::x3::x4::some v::ρ) (.loc 5) σ=bv v σ:=lf rfl h
theorem bj(h:plain v=true):ev C (x0::x1::x2::x3::x4::x5::some v::ρ) (.loc 6) σ=bv v σ:=lf rfl h
theorem bl(h:plain v=true):ev C (x0::x1::x2::x3::x4::x5::x6::some v::ρ) (.loc 7) σ=bv v σ:=lf rfl h
theorem bg(h:plain v=true):ev C (x0::x1::x2::x3::x4::x5::x6::x7::some v::ρ) (.loc 8) σ=bv v σ:=lf rfl h
theorem bi(h:plain v=true):ev C (x0::x1::x2::x3::x4::x5::x6::x7::x8::some v::ρ) (.loc 9) σ=bv v σ:=lf rfl h
theorem aR(h:plain v=true):ev C (x0::x1::x2::x3::x4::x5::x6::x7::x8::x9::some v::ρ) (.loc 10) σ=bv v σ:=lf rfl h
variable {y:Option V}
theorem bR:List.set (x0::ρ) 0 y=y::ρ:=rfl
theorem bN:List.set (x0::x1::ρ) 1 y=x0::y::ρ:=rfl
theorem bF:List.set (x0::x1::x2::ρ) 2 y=x0::x1::y::ρ:=rfl
theorem bG:List.set (x0::x1::x2::x3::ρ) 3 y=x0::x1::x2::y::ρ:=rfl
theorem bI:List.set (x0::x1::x2::x3::x4::ρ) 4 y=x0::x1::x2::x3::y::ρ:=rfl
theorem bO:List.set (x0::x1::x2::x3::x4::x5::ρ) 5 y=x0::x1::x2::x3::x4::y::ρ:=rfl
theorem bS:List.set (x0::x1::x2::x3::x4::x5::x6::ρ) 6 y=x0::x1::x2::x3::x4::x5::y::ρ:=rfl
theorem bT:List.set (x0::x1::x2::x3::x4::x5::x6::x7::ρ) 7 y=x0::x1::x2::x3::x4::x5::x6::y::ρ:=rfl
theorem bU:List.set (x0::x1::x2::x3::x4::x5::x6::x7::x8::ρ) 8 y=x0::x1::x2::x3::x4::x5::x6::x7::y::ρ:=rfl
theorem bP:List.set (x0::x1::x2::x3::x4::x5::x6::x7::x8::x9::ρ) 9 y=x0::x1::x2::x3::x4::x5::x6::x7::x8::y::ρ:=rfl
end
theorem q_nil:lJ C ρ [] σ=bv [] σ:=rfl
theorem q_cons:lJ C ρ (e::es) σ=(ev C ρ e σ).bind fun v σ=>(lJ C ρ es σ).bind fun vs σ=>bv (v::vs) σ:=rfl
theorem Ec{α:Type}(x:cR Bool)(f g:St→cR α):(x.bind fun t σ=>match t with | true=>f σ | false=>g σ)=x.bind fun t σ=>bif t then f σ else g σ:=by
 cases x with
 | none=>rfl
 | some r=>cases r with
  | exc=>rfl
  | ok b s=>cases b<;>rfl
theorem aS:ev C ρ (.ite e1 e2 e3) σ=(fw C ρ e1 σ).bind fun t σ=>bif t then ev C ρ e2 σ else ev C ρ e3 σ:=Ec (fw C ρ e1 σ) (ev C ρ e2) (ev C ρ e3)
theorem ru(h:ev C ρ e σ=bv (.lst l) σ'):ev C ρ (.tuple e) σ=bv (.tup l) σ':=by
 refine (?_:(ev C ρ e σ).bind _=_)
 rw [h];rfl
theorem aT:fw C ρ (.and e1 e2) σ=(fw C ρ e1 σ).bind fun t σ=>bif t then fw C ρ e2 σ else bv false σ:=Ec (fw C ρ e1 σ) (fw C ρ e2) (bv false)
theorem bn:fw C ρ (.or e1 e2) σ=(fw C ρ e1 σ).bind fun t σ=>bif t then bv true σ else fw C ρ e2 σ:=Ec (fw C ρ e1 σ) (bv true) (fw C ρ e2)
theorem bb{α:Type}{a b:α}:(bif true then a else b)=a:=rfl
theorem aZ{α:Type}{a b:α}:(bif false then a else b)=b:=rfl
noncomputable abbrev KK:=ck→St→cR V
noncomputable def fY(K B:KK):Option FR→cR V
 | none=>none
 | some (.next ρ σ)=>K ρ σ
 | some (.brk ρ σ)=>B ρ σ
 | some (.ret v _ σ)=>bv v σ
 | some (.exc v _ σ)=>uy v σ
noncomputable def fk(C:CF)(w:Nat)(ps:List PS)(K B:KK)(ρ:ck)(σ:St):cR V:=fY K B (fz C w ps ρ σ)
noncomputable def K0:KK:=fun z9 σ=>bv .none σ
noncomputable def B0:KK:=fun z9 z9=>none
variable {ps r t b:List PS} {i j n:Nat} {p:PS} {ρ':ck} {K B:KK} {is:List Nat}
theorem gu:fk C w (p::ps) K B ρ σ=fY (fk C w ps K B) B (ex C w p ρ σ):=by
 refine (?_:fY K B (match ex C w p ρ σ with | some (.next ρ σ)=>fz C w ps ρ σ | x=>x)=_)
 cases ex C w p ρ σ with
 | none=>rfl
 | some r=>cases r<;>rfl
theorem gE{α:Type}{f:α→St→Option FR}{x:cR α}:fY K B (bH ρ x f)=x.bind fun v σ=>fY K B (f v σ):=by
 cases x with
 | none=>rfl
 | some r=>cases r<;>rfl
theorem bQ:K0 ρ σ=bv .none σ:=rfl
theorem aG:fk C w [] K B ρ σ=K ρ σ:=rfl
theorem aK:fk C w (.ret e::ps) K B ρ σ=ev C ρ e σ:=gu.trans (gE.trans Hw)
theorem aE:fk C w (.asg i e::ps) K B ρ σ=(ev C ρ e σ).bind fun v σ=>fk C w ps K B (ρ.set i (some v)) σ:=gu.trans gE
theorem av:fk C w (.expr e::ps) K B ρ σ=(ev C ρ e σ).bind fun z9 σ=>fk C w ps K B ρ σ:=gu.trans gE
noncomputable def FE(v:V)(σ:St):cR V:=match v with
 | .exc c x=>uy (.exc c x) σ
 | _=>none
theorem aU{a b:V}:FE (.exc a b) σ=uy (.exc a b) σ:=rfl
theorem ah:fk C w (.raise e::ps) K B ρ σ=(ev C ρ e σ).bind FE:=gu.trans (gE.trans (congrArg (cR.bind _) (funext fun v=>funext fun σ=>by cases v<;>rfl)))
theorem aI:fk C w (.ifs e t b::ps) K B ρ σ=(fw C ρ e σ).bind fun c σ=>fk C w (bif c then t else b) (fk C w ps K B) B ρ σ:=by
 refine gu.trans ((congrArg (fY _ B) tH).trans (gE.trans ?_))
 refine congrArg (cR.bind (fw C ρ e σ)) (funext fun v=>funext fun σ=>?_)
 cases v<;>rfl
noncomputable def yU(is:List Nat)(ρ:ck)(K:ck→cR V):V→cR V
 | .tup us=>match eX ρ is us with
  | some ρ=>K ρ
  | none=>none
 | _=>none
set_option tactic.hygienic true in
theorem rv:fk C w (.asgT is e::ps) K B ρ σ=(ev C ρ e σ).bind fun v σ=>yU is ρ (fun ρ=>fk C w ps K B ρ σ) v:=gu.trans (gE.trans (congrArg (cR.bind _) (funext fun v=>funext fun σ=>by
 cases v<;>first | rfl | skip
 rename_i l
 refine (?_:fY _ _ ((eX ρ is l).map _)=match eX ρ is l with | some ρ=>_ | none=>_)
 cases eX ρ is l<;>rfl)))
theorem uz{us:List V}{K:ck→cR V}(h:eX ρ is us=some ρ'):yU is ρ K (.tup us)=K ρ':=by
 refine (?_:(match eX ρ is us with | some ρ=>K ρ | none=>none)=_)
 rw [h]
theorem nu(h:ex C w p ρ σ=some (.next ρ' σ')):fk C w (p::ps) K B ρ σ=fk C w ps K B ρ' σ':=by
 simp only [gu,h];rfl
noncomputable def FL(C:CF)(w i:Nat)(b:List PS)(l:List V)(K B:KK)(ρ:ck)(σ:St):cR V:=fY K B (fU (fun v ρ σ=>fz C w b (ρ.set i (some v)) σ) l ρ σ)
theorem rx:FL C w i b [] K B ρ σ=K ρ σ:=rfl
theorem gC:FL C w i b (v::l) K B ρ σ=fk C w b (FL C w i b l K B) K (ρ.set i (some v)) σ:=by
 refine (?_:fY K B (match fz C w b (ρ.set i (some v)) σ with | some (.next ρ σ)=>fU _ l ρ σ | some (.brk ρ σ)=>some (.next ρ σ) | x=>x)=fY _ K (fz C w b (ρ.set i (some v)) σ))
 cases fz C w b (ρ.set i (some v)) σ with
 | none=>rfl
 | some r=>cases r<;>rfl
theorem pu(h:ev C ρ e σ=bv v σ')(h2:dH σ' v=some l)(h3:isRef v=false):fk C w (.for1 i e b::ps) K B ρ σ=FL C w i b l (fk C w ps K B) B ρ σ':=by
 refine gu.trans (gE.trans ((congrArg (cR.bind · _) h).trans ?_))
 refine (congrArg (fun o=>fY _ B (Option.bind o _)) h2).trans (congrArg (fY _ B) (if_pos ?_))
 rw [h3];rfl
theorem uA{k:Int}(h:ev C ρ e σ=bv (.int k) σ')(h2:-100000<k∧k<100000):fk C w (.forR i e b::ps) K B ρ σ=FL C w i b (rng k) (fk C w ps K B) B ρ σ':=by
 rw [gu]
 refine (?_:fY _ B (bH ρ (ev C ρ e σ) _)=_)
 rw [h]
 refine (?_:fY _ B (if (decide (-100000<k)&&decide (k<100000))=true then fU _ (rng k) ρ σ' else none)=_)
 rw [decide_eq_true h2.1,decide_eq_true h2.2];rfl
noncomputable def FT(C:CF)(w:Nat)(is:List Nat)(b:List PS)(l:List V)(K B:KK)(ρ:ck)(σ:St):cR V:=fY K B (fU (fun v ρ σ=>(gg v).bind fun us=>(eX ρ is us).bind fun ρ=>fz C w b ρ σ) l ρ σ)
theorem Ed:FT C w is b [] K B ρ σ=K ρ σ:=rfl
theorem oi{us:List V}(h:eX ρ is us=some ρ'):FT C w is b (.tup us::l) K B ρ σ=fk C w b (FT C w is b l K B) K ρ' σ:=by
 refine (?_:fY K B (match (eX ρ is us).bind fun ρ=>fz C w b ρ σ with | some (.next ρ σ)=>fU _ l ρ σ | some (.brk ρ σ)=>some (.next ρ σ) | x=>x)=fY _ K (fz C w b ρ' σ))
 rw [h]
 refine (?_:fY K B (match fz C w b ρ' σ with | some (.next ρ σ)=>fU _ l ρ σ | some (.brk ρ σ)=>some (.next ρ σ) | x=>x)=fY _ K (fz C w b ρ' σ))
 cases fz C w b ρ' σ with
 | none=>rfl
 | some r=>cases r<;>rfl
theorem yV(h:ev C ρ e σ=bv v σ')(h2:dH σ' v=some l)(h3:(!isRef v || gX b)=true):fk C w (.forT is e b::ps) K B ρ σ=FT C w is b l (fk C w ps K B) B ρ σ':=by
 refine gu.trans (gE.trans ((congrArg (cR.bind · _) h).trans ?_))
 exact (congrArg (fun o=>fY _ B (Option.bind o _)) h2).trans (congrArg (fY _ B) (if_pos h3))
noncomputable def WL(C:CF)(w:Nat)(e:PE)(b:List PS)(n:Nat)(K B:KK)(ρ:ck)(σ:St):cR V:=fY K B (lP (fun ρ σ=>fw C ρ e σ) (fun ρ σ=>fz C w b ρ σ) n ρ σ)
theorem gN:WL C w e b (n+1) K B ρ σ=(fw C ρ e σ).bind fun t σ=>bif t then fk C w b (WL C w e b n K B) K ρ σ else K ρ σ:=by
 refine (?_:fY K B (match fw C ρ e σ with | none=>none | some (.exc v σ)=>some (.exc v ρ σ) | some (.ok false σ)=>some (.next ρ σ) | some (.ok true σ)=>match fz C w b ρ σ with | some (.next ρ σ)=>lP _ _ n ρ σ | some (.brk ρ σ)=>some (.next ρ σ) | r=>r)=_)
 cases fw C ρ e σ with
 | none=>rfl
 | some r=>cases r with
  | exc=>rfl
  | ok c s=>cases c with
   | false=>rfl
   | true=>
    refine (?_:fY K B (match fz C w b ρ s with | some (.next ρ σ)=>lP _ _ n ρ σ | some (.brk ρ σ)=>some (.next ρ σ) | r=>r)=fY _ K (fz C w b ρ s))
    cases fz C w b ρ s with
    | none=>rfl
    | some r=>cases r<;>rfl
theorem vL:fk C w (.whl e b::ps) K B ρ σ=WL C w e b w (fk C w ps K B) B ρ σ:=gu
theorem bo{k:Nat}{fn:Fn}{args:List V}(h1:PL k=some fn)(h2:cS fn args=some ρ)(σ:St):au PL w (d+1) k args σ=fk (au PL w d) w fn.body K0 B0 ρ σ:=by
 refine (?_:(match PL k with | some fn=>_ | none=>_)=_)
 rw [h1]
 refine (?_:(match cS fn args with | some ρ=>_ | none=>_)=_)
 rw [h2]
 refine (?_:xA (fz _ w fn.body ρ σ)=fY K0 B0 (fz _ w fn.body ρ σ))
 cases fz _ w fn.body ρ σ with
 | none=>rfl
 | some r=>cases r<;>rfl
theorem pz{n m:Nat}(h:n<m):lO (n:Int) m=true:=Nat.ble_eq.mpr h
theorem cO{i:Int}(h:-1000000<i∧i<1000000):eQ i=true:=Nat.ble_eq.mpr (by omega)
theorem e_{n:Nat}(h:n≤100000):fl n=true:=Nat.ble_eq.mpr h
end
end
end Mine.Internal.Q
end
section
open PySem
set_option genCtorIdx false
namespace Mine.Internal.Q
noncomputable section
noncomputable def uB(sl:Bool)(dep:Int):List (Str×V):=[("host",.none),("compilers",.dct 4),("is_slots",.bool sl),("rows",.ref 6),("ranges",.ref 7),("names",.ref 8),("sources",.ref 9),("loops",.ref 10),("depth",.int dep),("eaches",.int 0)]
noncomputable abbrev jN:=Str×V×V
noncomputable def hG(r:jN):V:=.tup [.str r.1,r.2.1,r.2.2]
noncomputable def fL(l:List jN):List V:=l.map hG
noncomputable def cT(ns:List Str):List V:=ns.map .str
noncomputable abbrev fS:=List (List Str)
noncomputable def lM(l:fS):List V:=l.map fun t=>.tup (cT t)
structure SS where
 n:Int
 bk:List (Str×V)
 l1:fS
 l2:fS
 sl:Bool
 rows:List jN
 names:List Str
 srcs:List V
 dep:Int
 stk:List kO
noncomputable def SS.st(s:SS):St:=.list [.int s.n]::.dict s.bk::.list (lM s.l1)::.list (lM s.l2)::.dict []::.attrs (uB s.sl s.dep)::.list (fL s.rows)::.list []::.list (cT s.names)::.list s.srcs::.list []::s.stk
theorem gP{l:List jN}:(fL l).length=l.length:=List.length_map ..
theorem hH{l:List Str}:(cT l).length=l.length:=List.length_map ..
theorem sW{l:fS}:(lM l).length=l.length:=List.length_map ..
theorem wU{l m:List jN}:fL (l++m)=fL l++fL m:=List.map_append ..
theorem pA{l m:List Str}:cT (l++m)=cT l++cT m:=List.map_append ..
theorem yW{l m:fS}:lM (l++m)=lM l++lM m:=List.map_append ..
theorem qw{l:List jN}{i:Nat}{r:jN}(h:l[i]?=some r):(fL l)[i]?=some (hG r):=by
 unfold fL;simp only [List.getElem?_map,h];rfl
theorem pB{l:List Str}{i:Nat}{r:Str}(h:l[i]?=some r):(cT l)[i]?=some (.str r):=by
 unfold cT;simp only [List.getElem?_map,h];rfl
section
variable {C:CF} {w d:Nat} {s:SS} {sl:Bool} {dep:Int} {v:V} {l:List V} {ρ:ck} {K B:KK}
theorem g1:s.st[1]?=some (.dict s.bk):=rfl
theorem g5:s.st[5]?=some (.attrs (uB s.sl s.dep)):=rfl
theorem g6:s.st[6]?=some (.list (fL s.rows)):=rfl
theorem g8:s.st[8]?=some (.list (cT s.names)):=rfl
theorem g9:s.st[9]?=some (.list s.srcs):=rfl
theorem FG:look "is_slots" (uB sl dep)=some (.bool sl):=rfl
theorem FH:look "rows" (uB sl dep)=some (.ref 6):=rfl
theorem FJ:look "names" (uB sl dep)=some (.ref 8):=rfl
theorem FK:look "sources" (uB sl dep)=some (.ref 9):=rfl
theorem FM:look "depth" (uB sl dep)=some (.int dep):=rfl
theorem FN:gh s.st (.inst 5) "is_slots"=some (.bool s.sl):=FG (sl:=s.sl) (dep:=s.dep)
theorem pY:gh s.st (.inst 5) "rows"=some (.ref 6):=FH (sl:=s.sl) (dep:=s.dep)
theorem wV:gh s.st (.inst 5) "names"=some (.ref 8):=FJ (sl:=s.sl) (dep:=s.dep)
theorem Hx:gh s.st (.inst 5) "sources"=some (.ref 9):=FK (sl:=s.sl) (dep:=s.dep)
theorem ry:gh s.st (.inst 5) "depth"=some (.int s.dep):=FM (sl:=s.sl)
theorem lh:jP s.st "emit" (.inst 5)=some ():=by kernel_rfl
theorem FO:jP s.st "patch" (.inst 5)=some ():=by kernel_rfl
theorem Ee:jP s.st "parts" (.inst 5)=some ():=by kernel_rfl
theorem Hy:jP s.st "script" (.inst 5)=some ():=by kernel_rfl
theorem Hz:jP s.st "load" (.inst 5)=some ():=by kernel_rfl
theorem HA:jP s.st "word" (.inst 5)=some ():=by kernel_rfl
theorem HB:jP s.st "command" (.inst 5)=some ():=by kernel_rfl
theorem qx:wf s.st (.ref 6)=some s.rows.length:=congrArg some gP
theorem CJ:wf s.st (.ref 8)=some s.names.length:=congrArg some hH
theorem lj{a b:Int}(ha:eQ a=true)(hb:eQ b=true):gJ .sub (.int a) (.int b)=some (.int (a-b)):=by
 exact if_pos ((Bool.and_eq_true _ _).mpr ⟨ha,hb⟩)
theorem uC{a b:Int}(ha:eQ a=true)(hb:eQ b=true):gJ .add (.int a) (.int b)=some (.int (a+b)):=by
 exact congrArg (Option.or · _) (if_pos ((Bool.and_eq_true _ _).mpr ⟨ha,hb⟩))
theorem pC{σ:St}{n:Nat}(h:σ[n]?=some (.list l)):lstAt σ (.ref n)=some n:=congrArg (Option.map fun z9=>n) (gD h)
theorem wW{σ:St}{n:Nat}(h:σ[n]?=some (.list l)):dH σ (.ref n)=some l:=gD h
theorem qy{σ σ' σ'':St}{e x:PE}{n:Nat}{l l':List V}{v:V}(h1:ev C ρ e σ=bv (.ref n) σ')(h2:σ'[n]?=some (.list l))(h3:ev C ρ x σ'=bv v σ'')(h4:σ''[n]?=some (.list l'))(h5:fl l'.length=true):ev C ρ (.append e x) σ=bv .none (σ''.set n (.list (l'++[v]))):=by
 refine (?_:(ev C ρ e σ).bind _=_)
 rw [h1]
 refine (?_:(lift (lstAt σ' (.ref n)) σ').bind _=_)
 rw [pC h2]
 refine (?_:(ev C ρ x σ').bind _=_)
 rw [h3]
 refine (?_:(fO σ'' n).bind _=_)
 rw [gD h4]
 exact if_pos h5
noncomputable def SS.em(s:SS)(r:jN)(c:Int):SS:={ s with rows:=s.rows++[r],dep:=s.dep+c }
structure gi (k:Nat) (s:SS):Prop where
 a:s.rows.length+k≤4000
 b:s.dep+k≤4000
 c:-20000+3*(k:Int)≤s.dep
 e:s.names.length≤s.rows.length
 f:s.srcs.length≤s.rows.length
theorem gi.mono{k k':Nat}(h:gi k s)(hk:k'≤k):gi k' s:=⟨by have:=h.a;lia,by have:=h.b;lia,by have:=h.c;lia,h.e,h.f⟩
theorem gi.sd{k:Nat}(h:gi k s):eQ s.dep=true:=cO (by have:=h.b;have:=h.c;lia)
theorem mf{c:Int}(hc:-3≤c∧c≤3):eQ c=true:=cO (by lia)
theorem HC{r:jN}:s.st.set 6 (.list (fL s.rows++[hG r]))={ s with rows:=s.rows++[r] }.st:=by
 simp only [show fL s.rows++[hG r]=fL (s.rows++[r]) from (wU (m:=[r])).symm];rfl
theorem Ef{ps:List PS}{j:Int}{e:PE}(he:ev C ρ (.loc 0) s.st=bv (.inst 5) s.st)(h:ev C ρ e s.st=bv (.int j) s.st)(hj:eQ j=true)(hd:eQ s.dep=true):fk C w (.augA (.loc 0) "depth" e::ps) K B ρ s.st=fk C w ps K B ρ { s with dep:=s.dep+j }.st:=by
 refine nu ?_
 refine (?_:bH ρ (ev C ρ (.loc 0) s.st) _=_)
 simp only [he]
 refine (?_:bH ρ (ev C ρ e s.st) _=_)
 simp only [h]
 refine (?_:(if (true&&true&&eQ s.dep&&eQ j)=true then _ else _)=_)
 simp only [hj,hd];rfl
theorem HD:PL 101=some Bx:=by kernel_rfl
theorem HE{op:Str}{a b:V}{c:Int}:cS Bx [.inst 5,.str op,a,b,.int c]=some [some (.inst 5),some (.str op),some a,some b,some (.int c)]:=rfl
theorem pD{op:Str}{a b:V}{c:Int}(h2:plain a=true)(h3:plain b=true)(z:s.rows.length+1≤4000)(hd:eQ s.dep=true)(hc:-3≤c∧c≤3) :
  au PL w (d+1) 101 [.inst 5,.str op,a,b,.int c] s.st=bv (.int s.rows.length) (s.em (op,a,b) c).st:=by
 rw [bo HD HE,Bx]
 have k1:=qy (C:=au PL w d) (ρ:=[some (.inst 5),some (.str op),some a,some b,some (.int c)]) (σ:=s.st) (σ':=s.st) (σ'':=s.st) (v:=.tup [.str op,a,b]) (e:=.attr (.loc 0) "rows") (x:=.tup [.loc 1,.loc 2,.loc 3]) (by simp only [aD,bh,aX,bp,bq,bf,am,al,ae,ac,ao,ak,aj,aC,ad,aA,aw,aB,aF,aJ,aV,aW,aY,ba,a_,bc,bj,bl,bg,bi,aR,bR,bN,bF,bG,bI,bO,bS,bT,bU,bP,aN,aM,q_nil,q_cons,aH,aQ,aq,aP,aL,aS,ai,ax,aa,aO,ay,an,aT,bn,af,ag,az,bb,aZ,bQ,aG,aK,aE,av,ah,aU,aI,pY]) g6 (by simp only [aD,bh,aX,bp,bq,bf,am,al,ae,ac,ao,ak,aj,aC,ad,aA,aw,aB,aF,aJ,aV,aW,aY,ba,a_,bc,bj,bl,bg,bi,aR,bR,bN,bF,bG,bI,bO,bS,bT,bU,bP,aN,aM,q_nil,q_cons,aH,aQ,aq,aP,aL,aS,ai,ax,aa,aO,ay,an,aT,bn,af,ag,az,bb,aZ,bQ,aG,aK,aE,av,ah,aU,aI,h2,h3]) g6 (e_ (by rw [gP];lia))
 rw [av,k1,aD,show V.tup [.str op,a,b]=hG (op,a,b) from rfl,HC,Ef (s:={ s with rows:=s.rows++[(op,a,b)] }) (j:=c) rfl rfl (mf hc) hd]
 simp only [aD,bh,aX,bp,bq,bf,am,al,ae,ac,ao,ak,aj,aC,ad,aA,aw,aB,aF,aJ,aV,aW,aY,ba,a_,bc,bj,bl,bg,bi,aR,bR,bN,bF,bG,bI,bO,bS,bT,bU,bP,aN,aM,q_nil,q_cons,aH,aQ,aq,aP,aL,aS,ai,ax,aa,aO,ay,an,aT,bn,af,ag,az,bb,aZ,bQ,aG,aK,aE,av,ah,aU,aI,pY,qx,List.length_append,List.length_cons,List.length_nil,lj (cO (show (-1000000:Int)<(s.rows.length+(0+1):Nat)∧((s.rows.length+(0+1):Nat):Int)<1000000 by lia)) (mf (show (-3:Int)≤1∧(1:Int)≤3 by lia))]
 simp only [show ((s.rows.length+(0+1):Nat):Int)-1=s.rows.length by lia];rfl
theorem ci{op:Str}{a b:V}{c:Int}(h2:plain a=true)(h3:plain b=true)(h:gi 1 s)(hc:-3≤c∧c≤3) :
  au PL w (d+1) 101 [.inst 5,.str op,a,b,.int c] s.st=bv (.int s.rows.length) (s.em (op,a,b) c).st:=pD h2 h3 h.a h.sd hc
end
end
end Mine.Internal.Q
end
section
open PySem
namespace Mine.Internal.Q
noncomputable section
section
variable {C:CF} {w d:Nat} {s:SS} {v:V} {l:List V} {ρ:ck} {K B:KK} {σ σ':St}
theorem Eg{n:Nat}:decide ((0:Int)≤(n:Int))=true:=decide_eq_true (Int.natCast_nonneg n)
theorem Eh{n m:Nat}(h:n<m):decide ((n:Int)<(m:Int))=true:=decide_eq_true (by lia)
theorem HF{p:Nat}{r:jN}:s.st.set 6 (.list ((fL s.rows).set p (hG r)))={ s with rows:=s.rows.set p r }.st:=by
 simp only [show (fL s.rows).set p (hG r)=fL (s.rows.set p r) by unfold fL;simp only [List.map_set]];rfl
theorem yX{ps:List PS}{o ix e:PE}{n k:Nat}{l:List V}(h1:ev C ρ e σ=bv v σ)(h2:ev C ρ o σ=bv (.ref n) σ)(h3:ev C ρ ix σ=bv (.int k) σ)(h4:σ[n]?=some (.list l))(h5:k<l.length)(h6:fl l.length=true):fk C w (.setI o ix e::ps) K B ρ σ=fk C w ps K B ρ (σ.set n (.list (l.set k v))):=by
 refine nu ?_
 refine (?_:bH ρ (ev C ρ e σ) _=_)
 simp only [h1]
 refine (?_:bH ρ (ev C ρ o σ) _=_)
 simp only [h2]
 refine (?_:bH ρ (ev C ρ ix σ) _=_)
 simp only [h3]
 refine (?_:((fO σ n).bind fun l=>if (decide (0≤(k:Int))&&decide ((k:Int)<l.length)&&fl l.length)=true then some (FR.next ρ (σ.set n (.list (l.set k v)))) else none).or none=_)
 simp only [gD h4]
 exact congrArg (Option.or · none) (if_pos (by simp only [Eg,Eh h5,h6];rfl))
theorem nw{n:Nat}(h:n<1000000)(h2:dH σ v=some l)(h3:dz v=none):eA σ v (.int n)=l[n]?:=by
 refine (?_:(if lO n 1000000=true then ((dH σ v).bind fun l=>l[n]?).or ((dz v).bind _) else none).or none=_)
 rw [if_pos (pz h),h2,h3]
 refine (?_:(l[n]?.or none).or none=_)
 rw [Option.or_none,Option.or_none]
theorem oj{n:Nat}(h:n<1000000):eA σ (.tup l) (.int n)=l[n]?:=nw h rfl rfl
theorem mG{n:Nat}(h:n<1000000):eA σ (.lst l) (.int n)=l[n]?:=nw h rfl rfl
theorem mH{n k:Nat}(h:n<1000000)(h2:σ[k]?=some (.list l)):eA σ (.ref k) (.int n)=l[n]?:=nw h (wW h2) rfl
theorem uD(h:isNone v=false):dG σ .is v .none=some false:=congrArg some h
theorem sX{x:Str}{l:List V}{ss:List Str}(h:ed l=some ss):dG σ .isin (.str x) (.tup l)=some (ss.any fun y=>decide (y=x)):=by
 refine (?_:((ed l).map _).or none=_)
 simp only [h];rfl
theorem HG:PL 102=some By:=by kernel_rfl
theorem HJ{p t:Int}:cS By [.inst 5,.int p,.int t]=some [some (.inst 5),some (.int p),some (.int t),none,none,none]:=rfl
theorem km{p t:Nat}{op:Str}{a b:V}(hr:s.rows[p]?=some (op,a,b))(hb:plain b=true)(h:gi 0 s)(hop:(([("start":Str),"each_step"]).any fun y=>decide (y=op))=false) :
  au PL w (d+1) 102 [.inst 5,.int p,.int t] s.st=bv .none { s with rows:=s.rows.set p (op,.int t,b) }.st:=by
 have hf:=h.a
 have hlt:p<(fL s.rows).length:=by simp only [gP];exact (List.getElem?_eq_some_iff.mp hr).1
 have hlt2:=hlt
 simp only [gP] at hlt2
 simp only [bo HG HJ,By]
 simp only [aD,bh,aX,bp,bq,bf,am,al,ae,ac,ao,ak,aj,aC,ad,aA,aw,aB,aF,aJ,aV,aW,aY,ba,a_,bc,bj,bl,bg,bi,aR,bR,bN,bF,bG,bI,bO,bS,bT,bU,bP,aN,aM,q_nil,q_cons,aH,aQ,aq,aP,aL,aS,ai,ax,aa,aO,ay,an,aT,bn,af,ag,az,bb,aZ,bQ,aG,aK,aE,av,ah,aU,aI,rv,pY,mH (show p<1000000 by lia) g6,qw hr]
 rw [show hG (op,a,b)=.tup [.str op,a,b] from rfl,uz (ρ':=[some (.inst 5),some (.int p),some (.int t),some (.str op),some a,some b]) rfl]
 have st:ed [V.str "start",.str "each_step"]=some [("start":Str),"each_step"]:=rfl
 simp only [aD,bh,aX,bp,bq,bf,am,al,ae,ac,ao,ak,aj,aC,ad,aA,aw,aB,aF,aJ,aV,aW,aY,ba,a_,bc,bj,bl,bg,bi,aR,bR,bN,bF,bG,bI,bO,bS,bT,bU,bP,aN,aM,q_nil,q_cons,aH,aQ,aq,aP,aL,aS,ai,ax,aa,aO,ay,an,aT,bn,af,ag,az,bb,aZ,bQ,aG,aK,aE,av,ah,aU,aI,sX st,hop]
 rw [yX (n:=6) (k:=p) (l:=fL s.rows) (v:=hG (op,.int t,b)) (by simp only [aD,bh,aX,bp,bq,bf,am,al,ae,ac,ao,ak,aj,aC,ad,aA,aw,aB,aF,aJ,aV,aW,aY,ba,a_,bc,bj,bl,bg,bi,aR,bR,bN,bF,bG,bI,bO,bS,bT,bU,bP,aN,aM,q_nil,q_cons,aH,aQ,aq,aP,aL,aS,ai,ax,aa,aO,ay,an,aT,bn,af,ag,az,bb,aZ,bQ,aG,aK,aE,av,ah,aU,aI,hb];rfl) (by simp only [aD,bh,aX,bp,bq,bf,am,al,ae,ac,ao,ak,aj,aC,ad,aA,aw,aB,aF,aJ,aV,aW,aY,ba,a_,bc,bj,bl,bg,bi,aR,bR,bN,bF,bG,bI,bO,bS,bT,bU,bP,aN,aM,q_nil,q_cons,aH,aQ,aq,aP,aL,aS,ai,ax,aa,aO,ay,an,aT,bn,af,ag,az,bb,aZ,bQ,aG,aK,aE,av,ah,aU,aI,pY]) (by simp only [aD,bh,aX,bp,bq,bf,am,al,ae,ac,ao,ak,aj,aC,ad,aA,aw,aB,aF,aJ,aV,aW,aY,ba,a_,bc,bj,bl,bg,bi,aR,bR,bN,bF,bG,bI,bO,bS,bT,bU,bP,aN,aM,q_nil,q_cons,aH,aQ,aq,aP,aL,aS,ai,ax,aa,aO,ay,an,aT,bn,af,ag,az,bb,aZ,bQ,aG,aK,aE,av,ah,aU,aI]) g6 hlt (e_ (by rw [gP];lia)),HF];rfl
noncomputable def hJ(x:Str):Nat→List Str→Option Nat
 | _,[]=>none
 | k,y::r=>if y=x then some k else hJ x (k+1) r
theorem rz(n:Nat):rng (n:Int)=(List.range' 0 n).map fun k:Nat=>V.int (k:Int):=by
 refine (?_:(List.range n).map _=_)
 rw [List.range_eq_range']
theorem IB:PL 33=some FD:=by kernel_rfl
theorem IC{x:Str}:cS FD [.inst 5,.str x]=some [some (.inst 5),some (.str x),none]:=rfl
theorem BE{x:Str}(h:s.sl=false):au PL w (d+1) 33 [.inst 5,.str x] s.st=bv .none s.st:=by
 simp only [bo IB IC,FD]
 simp only [aD,bh,aX,bp,bq,bf,am,al,ae,ac,ao,ak,aj,aC,ad,aA,aw,aB,aF,aJ,aV,aW,aY,ba,a_,bc,bj,bl,bg,bi,aR,bR,bN,bF,bG,bI,bO,bS,bT,bU,bP,aN,aM,q_nil,q_cons,aH,aQ,aq,aP,aL,aS,ai,ax,aa,aO,ay,an,aT,bn,af,ag,az,bb,aZ,bQ,aG,aK,aE,av,ah,aU,aI,FN,h,show ∀ σ,eF σ (.bool false)=some false from fun z9=>rfl,Bool.not_false]
theorem bu{x y:Str}:dG σ .eq (.str x) (.str y)=some (decide (x=y)):=rfl
noncomputable def ID:List PS:=[.ifs (.cmp .eq (.sub (.attr (.loc 0) "names") (.loc 2)) (.loc 1)) [.ret (.loc 2)] []]
theorem wX{x:Str}{R:cR V}(hs:s.names.length≤4000)(hK:∀ c,K [some (.inst 5),some (.str x),c] s.st=R):∀ (r:List Str) (k:Nat) (c:Option V),s.names.drop k=r→
  FL C w 2 ID ((List.range' k r.length).map fun k:Nat=>V.int (k:Int)) K B [some (.inst 5),some (.str x),c] s.st=match hJ x k r with
   | some j=>bv (.int j) s.st
   | none=>R:=by
 intro r
 induction r with
 | nil=>intro k c _;exact hK c
 | cons z r ih=>
  intro k c hd
  have hz:s.names[k]?=some z:=by
   have:=congrArg List.head? hd
   rw [List.head?_drop] at this;exact this
  have hk:=(List.getElem?_eq_some_iff.mp hz).1
  have hr:s.names.drop (k+1)=r:=by
   have:=congrArg List.tail hd
   rw [List.tail_drop] at this;exact this
  simp only [List.length_cons,List.range'_succ,List.map_cons,gC,ID]
  simp only [aD,bh,aX,bp,bq,bf,am,al,ae,ac,ao,ak,aj,aC,ad,aA,aw,aB,aF,aJ,aV,aW,aY,ba,a_,bc,bj,bl,bg,bi,aR,bR,bN,bF,bG,bI,bO,bS,bT,bU,bP,aN,aM,q_nil,q_cons,aH,aQ,aq,aP,aL,aS,ai,ax,aa,aO,ay,an,aT,bn,af,ag,az,bb,aZ,bQ,aG,aK,aE,av,ah,aU,aI,wV,mH (show k<1000000 by lia) g8,pB hz,bu]
  unfold hJ
  by_cases q:z=x
  ·rw [if_pos q,decide_eq_true q]
   simp only [aD,bh,aX,bp,bq,bf,am,al,ae,ac,ao,ak,aj,aC,ad,aA,aw,aB,aF,aJ,aV,aW,aY,ba,a_,bc,bj,bl,bg,bi,aR,bR,bN,bF,bG,bI,bO,bS,bT,bU,bP,aN,aM,q_nil,q_cons,aH,aQ,aq,aP,aL,aS,ai,ax,aa,aO,ay,an,aT,bn,af,ag,az,bb,aZ,bQ,aG,aK,aE,av,ah,aU,aI]
  ·rw [if_neg q,decide_eq_false q]
   exact ih (k+1) _ hr
theorem BF{x:Str}(h:s.sl=true)(c1:Txt.contains x "::"=false)(c2:Txt.contains x "("=false) {c:Option V}:fw C [some (.inst 5),some (.str x),c] (.or (.not (.attr (.loc 0) "is_slots")) (.or (.cmp .isin (.str "::") (.loc 1)) (.cmp .isin (.str "(") (.loc 1)))) s.st=bv false s.st:=by
 simp only [aD,bh,aX,bp,bq,bf,am,al,ae,ac,ao,ak,aj,aC,ad,aA,aw,aB,aF,aJ,aV,aW,aY,ba,a_,bc,bj,bl,bg,bi,aR,bR,bN,bF,bG,bI,bO,bS,bT,bU,bP,aN,aM,q_nil,q_cons,aH,aQ,aq,aP,aL,aS,ai,ax,aa,aO,ay,an,aT,bn,af,ag,az,bb,aZ,bQ,aG,aK,aE,av,ah,aU,aI,FN,h,show ∀ σ,eF σ (.bool true)=some true from fun z9=>rfl,Bool.not_true,show ∀ σ s t,dG σ .isin (.str s) (.str t)=some (Txt.contains t s) from fun z9 z9 z9=>rfl,c1,c2]
theorem yY{x:Str}(h:s.sl=true)(hf:gi 0 s)(c1:Txt.contains x "::"=false)(c2:Txt.contains x "("=false) :
  au PL w (d+1) 33 [.inst 5,.str x] s.st=match hJ x 0 s.names with
   | some j=>bv (.int j) s.st
   | none=>bv (.int s.names.length) { s with names:=s.names++[x] }.st:=by
 have hl:s.names.length≤4000:=by have:=hf.a;have:=hf.e;lia
 rw [bo IB IC,FD,aI,BF h c1 c2,aD,aZ,aG,uA (k:=s.names.length) (σ':=s.st) (by simp only [aD,bh,aX,bp,bq,bf,am,al,ae,ac,ao,ak,aj,aC,ad,aA,aw,aB,aF,aJ,aV,aW,aY,ba,a_,bc,bj,bl,bg,bi,aR,bR,bN,bF,bG,bI,bO,bS,bT,bU,bP,aN,aM,q_nil,q_cons,aH,aQ,aq,aP,aL,aS,ai,ax,aa,aO,ay,an,aT,bn,af,ag,az,bb,aZ,bQ,aG,aK,aE,av,ah,aU,aI,wV,CJ]) (by lia),rz]
 refine wX hl (fun c=>?_) s.names 0 none rfl
 rw [av,qy (n:=8) (σ':=s.st) (σ'':=s.st) (v:=.str x) (by simp only [aD,bh,aX,bp,bq,bf,am,al,ae,ac,ao,ak,aj,aC,ad,aA,aw,aB,aF,aJ,aV,aW,aY,ba,a_,bc,bj,bl,bg,bi,aR,bR,bN,bF,bG,bI,bO,bS,bT,bU,bP,aN,aM,q_nil,q_cons,aH,aQ,aq,aP,aL,aS,ai,ax,aa,aO,ay,an,aT,bn,af,ag,az,bb,aZ,bQ,aG,aK,aE,av,ah,aU,aI,wV]) g8 (by simp only [aD,bh,aX,bp,bq,bf,am,al,ae,ac,ao,ak,aj,aC,ad,aA,aw,aB,aF,aJ,aV,aW,aY,ba,a_,bc,bj,bl,bg,bi,aR,bR,bN,bF,bG,bI,bO,bS,bT,bU,bP,aN,aM,q_nil,q_cons,aH,aQ,aq,aP,aL,aS,ai,ax,aa,aO,ay,an,aT,bn,af,ag,az,bb,aZ,bQ,aG,aK,aE,av,ah,aU,aI]) g8 (e_ (by rw [hH];lia)),aD,
  show s.st.set 8 (.list (cT s.names++[.str x]))={ s with names:=s.names++[x] }.st by rw [show cT s.names++[.str x]=cT (s.names++[x]) from (pA (m:=[x])).symm];rfl]
 simp only [aD,bh,aX,bp,bq,bf,am,al,ae,ac,ao,ak,aj,aC,ad,aA,aw,aB,aF,aJ,aV,aW,aY,ba,a_,bc,bj,bl,bg,bi,aR,bR,bN,bF,bG,bI,bO,bS,bT,bU,bP,aN,aM,q_nil,q_cons,aH,aQ,aq,aP,aL,aS,ai,ax,aa,aO,ay,an,aT,bn,af,ag,az,bb,aZ,bQ,aG,aK,aE,av,ah,aU,aI,wV,CJ,List.length_append,List.length_cons,List.length_nil,lj (cO (show (-1000000:Int)<(s.names.length+(0+1):Nat)∧((s.names.length+(0+1):Nat):Int)<1000000 by lia)) (mf (show (-3:Int)≤1∧(1:Int)≤3 by lia))]
 rw [show ((s.names.length+(0+1):Nat):Int)-1=s.names.length by lia]
noncomputable def SS.ld(s:SS)(x:Str):SS:=match s.sl with
 | false=>s.em ("load_name",.str x,.none) 1
 | true=>match hJ x 0 s.names with
  | some j=>s.em ("load",.int j,.str x) 1
  | none=>{ s with names:=s.names++[x] }.em ("load",.int s.names.length,.str x) 1
theorem HK:PL 103=some Bz:=by kernel_rfl
theorem HL{x:Str}:cS Bz [.inst 5,.str x]=some [some (.inst 5),some (.str x),none]:=rfl
noncomputable def rA(x:Str):Bool:=!(Txt.contains x "::")&&!(Txt.contains x "(")
theorem yZ{j:Int}{x:Str}{s:SS}(z:s.rows.length+1≤4000)(hd:eQ s.dep=true):fk (au PL w (d+1)) w [.ifs (.cmp .is (.loc 2) .none) [.expr (.meth 101 "emit" (.loc 0) [.str "load_name",.loc 1,.none,.int 1])] [.expr (.meth 101 "emit" (.loc 0) [.str "load",.loc 2,.loc 1,.int 1])]] K0 B0 [some (.inst 5),some (.str x),some (.int j)] s.st=bv .none (s.em ("load",.int j,.str x) 1).st:=by
 simp only [aD,bh,aX,bp,bq,bf,am,al,ae,ac,ao,ak,aj,aC,ad,aA,aw,aB,aF,aJ,aV,aW,aY,ba,a_,bc,bj,bl,bg,bi,aR,bR,bN,bF,bG,bI,bO,bS,bT,bU,bP,aN,aM,q_nil,q_cons,aH,aQ,aq,aP,aL,aS,ai,ax,aa,aO,ay,an,aT,bn,af,ag,az,bb,aZ,bQ,aG,aK,aE,av,ah,aU,aI,uD (show isNone (.int j)=false from rfl),lh,pD al am z hd (show (-3:Int)≤1∧(1:Int)≤3 by lia)]
theorem wY{x:Str}(h:gi 1 s)(hx:rA x=true):au PL w (d+2) 103 [.inst 5,.str x] s.st=bv .none (s.ld x).st:=by
 unfold rA at hx
 simp only [Bool.and_eq_true,Bool.not_eq_true',Bool.not_eq_true'] at hx
 simp only [bo HK HL,Bz,aE]
 unfold SS.ld
 rcases Bool.eq_false_or_eq_true s.sl with hsl | hsl
 ·have e:=yY (w:=w) (d:=d) hsl (h.mono (Nat.zero_le _)) hx.1 hx.2
  rw [hsl]
  cases hs:hJ x 0 s.names with
  | some j=>
   simp only [hs] at e
   simp only [ai,q_nil,q_cons,aV ad,aW am,aD,e,bF,yZ h.a h.sd]
  | none=>
   simp only [hs] at e
   simp only [ai,q_nil,q_cons,aV ad,aW am,aD,e,bF,yZ (s:={ s with names:=s.names++[x] }) h.a h.sd]
   rw [hsl]
 ·simp only [hsl]
  simp only [aD,bh,aX,bp,bq,bf,am,al,ae,ac,ao,ak,aj,aC,ad,aA,aw,aB,aF,aJ,aV,aW,aY,ba,a_,bc,bj,bl,bg,bi,aR,bR,bN,bF,bG,bI,bO,bS,bT,bU,bP,aN,aM,q_nil,q_cons,aH,aQ,aq,aP,aL,aS,ai,ax,aa,aO,ay,an,aT,bn,af,ag,az,bb,aZ,bQ,aG,aK,aE,av,ah,aU,aI,BE hsl,show ∀ σ,dG σ .is .none .none=some true from fun z9=>rfl,lh,pD am ac h.a h.sd (show (-3:Int)≤1∧(1:Int)≤3 by lia)]
end
end
end Mine.Internal.Q
end
section
open PySem
set_option genCtorIdx false
namespace Mine.Internal.Q
noncomputable section
inductive ER (α:Type) where
 | ok (a:α) (l:fS)
 | ex (c:Int) (x:Str) (l:fS)
noncomputable def ER.ctorIdx{α:Type}(x:ER α):Nat:=x.casesOn (fun z9 z9=>0) (fun z9 z9 z9=>1)
noncomputable abbrev EM(α:Type):=fS→ER α
noncomputable def EM.pure{α:Type}(a:α):EM α:=fun l=>.ok a l
noncomputable def EM.bind{α β:Type}(m:EM α)(f:α→EM β):EM β:=fun l=>match m l with
 | .ok a l=>f a l
 | .ex c x l=>.ex c x l
noncomputable def kN(x:Str):Prop:=x.length≤100∧PyData.strOk x=true
theorem pE{x:Str}(h:(Nat.ble x.length 100&&PyData.strOk x)=true):kN x:=by
 simp only [Bool.and_eq_true] at h;exact ⟨Nat.le_of_ble_eq_true h.1,h.2⟩
noncomputable def tC(x:Str):List Nat:=x.cps.toList
theorem nx{x:Str}:PyData.strOk x=true↔∀ c∈tC x,c<1114112:=by
 unfold PyData.strOk tC
 simp only [← Array.all_toList,List.all_eq_true]
 exact ⟨fun h c hc=>of_decide_eq_true (h c hc),fun h c hc=>decide_eq_true (h c hc)⟩
theorem BG{x y:Str}:tC (x++y)=tC x++tC y:=Array.toList_append ..
theorem ez{x y:Str}:(x++y).length=x.length+y.length:=Array.size_append ..
theorem lE{x y:Str}(hx:PyData.strOk x=true)(hy:PyData.strOk y=true):PyData.strOk (x++y)=true:=by
 simp only [nx] at *
 intro c hc
 simp only [BG,List.mem_append] at hc
 exact hc.elim (hx c) (hy c)
noncomputable def mI(told:List Str):Nat:=(told.flatMap tC).sum
noncomputable def pF(n:Nat):Str:=((["1","0","yes","no","2","0","x"]:List Str)[n]?).getD ""
noncomputable def nW(n:Nat):Str:=Str.ofString (toString (n:Int))
noncomputable def gv(told:List Str):EM Str:=fun l=>if mI told % 17=3 then .ex 1 ("odd "++nW (mI told)) (l++[told]) else .ok (pF (mI told % 7)) (l++[told])
theorem y_(n:Nat):tC (nW n)=(Nat.toDigits 10 n).map Char.toNat:=by
 unfold nW tC
 rw [show ((n:Nat):Int)=Int.ofNat n from rfl,PyProof.Rows.text_ofNat]
theorem rB{n k:Nat}(hk:1≤k)(h:n<10 ^ k):(nW n).length≤k∧PyData.strOk (nW n)=true:=by
 have e:(nW n).length=(tC (nW n)).length:=rfl
 simp only [e,nx,y_,List.length_map]
 refine ⟨PyProof.Rows.digits10_le hk h,?_⟩
 intro c hc
 refine ob_1_2 (List.mem_map.mp hc) fun d hd hq55_2=>?_
 subst hq55_2
 have h0:=Nat.isDigit_of_mem_toDigits (b:=10) (by decide) (by decide) hd
 have:=PySem.digit_ascii h0
 lia
structure Wd (k:Nat) (bk:List (Str×V)) (l:fS) (σ:St):Prop where
 hk:σ[k]?=some (.list (lM l))
 h1:σ[1]?=some (.dict bk)
 ne:k≠1
noncomputable def lg(k:Nat)(σ:St)(l:fS):St:=σ.set k (.list (lM l))
section
variable {C:CF} {w d k:Nat} {s:SS} {v:V} {l l':fS} {ρ:ck} {K B:KK} {σ σ':St} {bk:List (Str×V)} {c:Int}
theorem Wd.lt(h:Wd k bk l σ):k<σ.length:=(List.getElem?_eq_some_iff.mp h.hk).1
theorem Wd.set(h:Wd k bk l σ):Wd k bk l' (lg k σ l'):=⟨List.getElem?_set_self h.lt,by
 unfold lg;rw [List.getElem?_set_ne h.ne];exact h.h1,h.ne⟩
theorem fZ:lg k (lg k σ l) l'=lg k σ l':=List.set_set ..
theorem Wd.self(h:Wd k bk l σ):lg k σ l=σ:=by
 refine ob_1_1 (List.getElem?_eq_some_iff.mp h.hk) fun hl e=>?_
 unfold lg
 rw [← e];exact List.set_getElem_self hl
noncomputable def nX{α:Type}(g:α→V)(k:Nat)(σ:St):ER α→cR V
 | .ok a l=>bv (g a) (lg k σ l)
 | .ex c x l=>uy (.exc (.int c) (.str x)) (lg k σ l)
noncomputable abbrev kL(k:Nat)(σ:St)(r:ER Str):cR V:=nX .str k σ r
theorem BH{α:Type}{g:α→V}{r:ER α}:nX g k (lg k σ l) r=nX g k σ r:=by
 cases r with
 | ok a l'=>exact congrArg (bv (g a)) fZ
 | ex c x l'=>exact congrArg (uy _) fZ
noncomputable def WV(k:Nat)(c:Int):V:=.tup [.dct 1,.ref k,.int c]
theorem ef:plain (WV k c)=true:=(rfl)
theorem za:eA σ (WV k c) (.int 0)=some (.dct 1):=rfl
theorem zb:eA σ (WV k c) (.int 1)=some (.ref k):=rfl
theorem vM{f:V→St→cR V}{g:V→V}:∀ {l:List V},(∀ v∈l,f v σ=bv (g v) σ)→gK f l σ=bv (l.map g) σ:=by
 intro l
 induction l with
 | nil=>intro _;rfl
 | cons v r ih=>
  intro h
  refine (?_:(f v σ).bind _=_)
  simp only [h v (.head _),aD,ih fun v hv=>h v (.tail _ hv)];rfl
theorem zc{f:V→St→cR (List V)}{g:V→List V}:∀ {l:List V},(∀ v∈l,f v σ=bv (g v) σ)→kA f l σ=bv (l.flatMap g) σ:=by
 intro l
 induction l with
 | nil=>intro _;rfl
 | cons v r ih=>
  intro h
  refine (?_:(f v σ).bind _=_)
  simp only [h v (.head _),aD,ih fun v hv=>h v (.tail _ hv)];rfl
theorem sY:∀ l:List Nat,mV (l.map fun n:Nat=>V.int (n:Int))=some (l.map fun n:Nat=>(n:Int)):=by
 intro l
 induction l with
 | nil=>rfl
 | cons n r ih=>
  refine (?_:(mV (r.map fun n:Nat=>V.int (n:Int))).map _=_)
  simp only [ih];rfl
theorem wZ:∀ l:List Nat,tF (l.map fun n:Nat=>(n:Int))=(l.sum:Nat):=by
 intro l
 induction l with
 | nil=>rfl
 | cons n r ih=>
  refine (?_:(n:Int)+tF (r.map fun n:Nat=>(n:Int))=_)
  simp only [ih,List.sum_cons];rfl
theorem pZ:∀ l:List Nat,(∀ n∈l,n<2000000)→gV (l.map fun n:Nat=>(n:Int))=true:=by
 intro l
 induction l with
 | nil=>intro _;rfl
 | cons n r ih=>
  intro h
  refine (?_:(decide ((0:Int)≤n)&&decide ((n:Int)<2000000)&&gV (r.map fun n:Nat=>(n:Int)))=true)
  have:=h n (.head _)
  rw [ih fun n hn=>h n (.tail _ hn),decide_eq_true (by lia),decide_eq_true (by lia)];rfl
theorem qz:∀ l:List Nat,(∀ n∈l,n<2000000)→l.sum≤l.length*2000000:=by
 intro l
 induction l with
 | nil=>intro _;exact Nat.le_refl _
 | cons n r ih=>
  intro h
  have:=h n (.head _)
  have:=ih fun n hn=>h n (.tail _ hn)
  simp only [List.sum_cons,List.length_cons];lia
theorem zd{e:PE}{l:List Nat}(h:ev C ρ e σ=bv (.lst (l.map fun n:Nat=>V.int (n:Int))) σ')(hs:∀ n∈l,n<2000000)(hl:l.length≤100000):ev C ρ (.sum e) σ=bv (.int (l.sum:Nat)) σ':=by
 refine (?_:(ev C ρ e σ).bind _=_)
 rw [h]
 refine (?_:lift ((mV (l.map fun n:Nat=>V.int (n:Int))).bind _) σ'=_)
 rw [sY]
 refine (?_:lift (if (gV (l.map fun n:Nat=>(n:Int))&&fl (l.map fun n:Nat=>(n:Int)).length)=true then some (V.int (tF _)) else none) σ'=_)
 simp only [pZ l hs,List.length_map,e_ hl,wZ];rfl
theorem rC{e:PE}{n:Nat}(h:ev C ρ e σ=bv (.int n) σ')(hn:n<10 ^ 40):ev C ρ (.strOf e) σ=bv (.str (nW n)) σ':=by
 refine (?_:(ev C ρ e σ).bind _=_)
 rw [h]
 exact congrArg (lift · σ') (if_pos (pz hn))
theorem dA{a b:Str}(h:a.length+b.length≤100000):gJ .add (.str a) (.str b)=some (.str (a++b)):=by
 exact congrArg (Option.or · none) (if_pos (e_ h))
theorem uE{a b:Nat}(h:0<b):gJ .mod (.int a) (.int b)=some (.int (a % b:Nat)):=by
 refine (?_:(if (b:Int)≤0 then _ else _)=_)
 rw [if_neg (by lia),Int.ofNat_fmod]
theorem pG{told:List Str}(h:∀ x∈told,kN x):(told.flatMap tC).length≤100*told.length:=by
 induction told with
 | nil=>exact Nat.le_refl _
 | cons x r ih=>
  have h1:=(h x (.head _)).1
  have h2:=ih fun x hx=>h x (.tail _ hx)
  have h3:(tC x).length≤100:=h1
  simp only [List.flatMap_cons,List.length_append,List.length_cons];lia
theorem mh{told:List Str}(h:∀ x∈told,kN x):∀ n∈told.flatMap tC,n<2000000:=by
 intro n hn
 refine ob_1_2 (List.mem_flatMap.mp hn) fun x hx hc=>?_
 have:=nx.mp (h x hx).2 n hc
 lia
theorem FP{told:List Str}{a b:Option V}(h:∀ x∈told,kN x)(hl:told.length≤100):ev C [a,some (.tup (cT told)),b] (.sum (.comp2 (.ord (.loc 4)) (.loc 1) (.loc 3))) σ=bv (.int (mI told)) σ:=by
 have hn:=pG h
 refine zd (l:=told.flatMap tC) ?_ (mh h) (by lia)
 refine (?_:(ev C [a,some (.tup (cT told)),b] (.loc 1) σ).bind _=_)
 refine (?_:(if Nat.ble (cT told).length 100=true then (kA _ (cT told) σ).bind _ else none)=_)
 rw [hH,Nat.ble_eq.mpr hl,if_pos rfl]
 rw [zc (g:=fun v=>match v with | .str t=>(tC t).map fun n:Nat=>V.int (n:Int) | _=>[])]
 ·rw [aD]
  refine congrArg (bv · σ) (congrArg V.lst ?_)
  unfold cT
  rw [List.flatMap_map,List.map_flatMap]
 ·intro v hv
  refine ob_1_2 (List.mem_map.mp hv) fun x hx hq182_2=>?_
  subst hq182_2
  refine (?_:((nS σ (.str x)).bind fun l2=>gK (fun u σ=>ev C ([a,some (.tup (cT told)),b]++[some (V.str x),some u]) (.ord (.loc 4)) σ) l2 σ)=_)
  simp only [show nS σ (.str x)=some ((tC x).map fun c=>V.str ⟨#[c]⟩) from congrArg (Option.or · none) (if_pos (e_ (by have:=(h x hx).1;lia)))]
  refine (?_:gK _ ((tC x).map fun c=>V.str ⟨#[c]⟩) σ=_)
  rw [vM (g:=fun v=>match v with | .str ⟨⟨[c]⟩⟩=>.int (c:Nat) | v=>v)]
  ·rw [List.map_map];rfl
  ·intro u hu
   refine ob_1_2 (List.mem_map.mp hu) fun c hc hq191_2=>?_
   subst hq191_2
   rfl
theorem cW{x y:Int}:dG σ .eq (.int x) (.int y)=some (decide (x=y)):=rfl
theorem I_:PL 46=some GI:=by kernel_rfl
theorem Jd{a b:V}:cS GI [a,b]=some [some a,some b,none]:=rfl
theorem kq{a b:V}:n9 [a,b]=some (.exc a b):=rfl
theorem qA{n:Nat}(h:n<7):eA σ (.lst [.str "1",.str "0",.str "yes",.str "no",.str "2",.str "0",.str "x"]) (.int n)=some (.str (pF n)):=by
 rw [mG (by lia)]
 have:∀ n<7,([V.str "1",.str "0",.str "yes",.str "no",.str "2",.str "0",.str "x"])[n]?=some (V.str ((([("1":Str),"0","yes","no","2","0","x"])[n]?).getD "")):=by
  exact lD rfl (lD rfl (lD rfl (lD rfl (lD rfl (lD rfl (lD rfl CH))))))
 exact this n h
theorem ze{told:List Str}:σ.set k (.list (lM l++[.tup (cT told)]))=lg k σ (l++[told]):=by
 unfold lg
 simp only [yW];rfl
theorem gw{told:List Str}(W:Wd k bk l σ)(h:∀ x∈told,kN x)(hl:told.length≤100)(hr:l.length≤90000):au PL w (d+1) 46 [WV k c,.tup (cT told)] σ=kL k σ (gv told l):=by
 have hb:=qz _ (mh h)
 have hf:=pG h
 have ht:mI told≤100000000000:=by unfold mI;lia
 have hd:=rB (n:=mI told) (k:=20) (by decide) (by lia)
 rw [bo I_ Jd,GI,av,qy (n:=k) (σ':=σ) (σ'':=σ) (v:=.tup (cT told)) (by simp only [aD,bh,aX,bp,bq,bf,am,al,ae,ac,ao,ak,aj,aC,ad,aA,aw,aB,aF,aJ,aV,aW,aY,ba,a_,bc,bj,bl,bg,bi,aR,bR,bN,bF,bG,bI,bO,bS,bT,bU,bP,aN,aM,q_nil,q_cons,aH,aQ,aq,aP,aL,aS,ai,ax,aa,aO,ay,an,aT,bn,af,ag,az,bb,aZ,bQ,aG,aK,aE,av,ah,aU,aI,aV ef,zb]) W.hk (by simp only [aD,bh,aX,bp,bq,bf,am,al,ae,ac,ao,ak,aj,aC,ad,aA,aw,aB,aF,aJ,aV,aW,aY,ba,a_,bc,bj,bl,bg,bi,aR,bR,bN,bF,bG,bI,bO,bS,bT,bU,bP,aN,aM,q_nil,q_cons,aH,aQ,aq,aP,aL,aS,ai,ax,aa,aO,ay,an,aT,bn,af,ag,az,bb,aZ,bQ,aG,aK,aE,av,ah,aU,aI]) W.hk (e_ (by rw [sW];lia)),ze,aD,aE,FP h hl]
 simp only [aD,bh,aX,bp,bq,bf,am,al,ae,ac,ao,ak,aj,aC,ad,aA,aw,aB,aF,aJ,aV,aW,aY,ba,a_,bc,bj,bl,bg,bi,aR,bR,bN,bF,bG,bI,bO,bS,bT,bU,bP,aN,aM,q_nil,q_cons,aH,aQ,aq,aP,aL,aS,ai,ax,aa,aO,ay,an,aT,bn,af,ag,az,bb,aZ,bQ,aG,aK,aE,av,ah,aU,aI,uE (show 0<17 by decide),uE (show 0<7 by decide),show ((17:Int))=((17:Nat):Int) from rfl,show ((7:Int))=((7:Nat):Int) from rfl,show ((3:Int))=((3:Nat):Int) from rfl,cW,qA (Nat.mod_lt _ (show 7>0 by decide))]
 unfold gv
 by_cases q:mI told % 17=3
 ·rw [if_pos q,decide_eq_true (by rw [q])]
  have l4:("odd ":Str).length=4:=by decide +kernel
  simp only [aD,bh,aX,bp,bq,bf,am,al,ae,ac,ao,ak,aj,aC,ad,aA,aw,aB,aF,aJ,aV,aW,aY,ba,a_,bc,bj,bl,bg,bi,aR,bR,bN,bF,bG,bI,bO,bS,bT,bU,bP,aN,aM,q_nil,q_cons,aH,aQ,aq,aP,aL,aS,ai,ax,aa,aO,ay,an,aT,bn,af,ag,az,bb,aZ,bQ,aG,aK,aE,av,ah,aU,aI,rC (σ:=lg k σ (l++[told])) (σ':=lg k σ (l++[told])) (e:=.loc 2) (n:=mI told) (C:=au PL w d) (ρ:=[some (WV k c),some (.tup (cT told)),some (.int (mI told))]) (aY al) (by lia),dA (show ("odd ":Str).length+(nW (mI told)).length≤100000 by lia),kq]
  rfl
 ·rw [if_neg q,decide_eq_false (by lia)]
  simp only [aD,bh,aX,bp,bq,bf,am,al,ae,ac,ao,ak,aj,aC,ad,aA,aw,aB,aF,aJ,aV,aW,aY,ba,a_,bc,bj,bl,bg,bi,aR,bR,bN,bF,bG,bI,bO,bS,bT,bU,bP,aN,aM,q_nil,q_cons,aH,aQ,aq,aP,aL,aS,ai,ax,aa,aO,ay,an,aT,bn,af,ag,az,bb,aZ,bQ,aG,aK,aE,av,ah,aU,aI,uE (show 0<7 by decide),qA (Nat.mod_lt _ (show 7>0 by decide))]
  rfl
end
end
end Mine.Internal.Q
end
section
open PySem
set_option genCtorIdx false
namespace Mine.Internal.Q
noncomputable section
structure pH (bk:List (Str×V)):Prop where
 ok:∀ x v,look x bk=some v→∃ s,v=.str s∧kN s
noncomputable def gF(bk:List (Str×V))(x:Str):EM Str:=fun l=>match look x bk with
 | some (.str v)=>.ok v l
 | _=>.ex 1 ("no "++x) l
noncomputable def BI(x:Str):Bool:=(([("":Str),"x"]).any fun y=>decide (y=x)) || decide (Txt.item x 0="e")
noncomputable def HM(x:Str):Bool:=!(([("":Str),"no"]).any fun y=>decide (y=Txt.stripChars x "0"))
noncomputable def fN(x:Str):EM Bool:=fun l=>if BI x then .ex 1 ("no truth: "++x) (l++[[("truth":Str),x]]) else .ok (HM x) (l++[[("truth":Str),x]])
noncomputable def qB(c:Int)(ws:List Str):EM Str:=(gv ws).bind fun v=>if ws.head?=some ("stop":Str) then fun l=>.ex c v l else EM.pure v
section
variable {C:CF} {w d k:Nat} {s:SS} {v:V} {l l':fS} {ρ:ck} {K B:KK} {σ σ':St} {bk:List (Str×V)} {c:Int}
theorem Jf:PL 47=some GJ:=by kernel_rfl
theorem Jg{a b:V}:cS GJ [a,b]=some [some a,some b]:=rfl
theorem BJ{x:Str}{n:Nat}{dd:List (Str×V)}(h:σ[n]?=some (.dict dd)):dG σ .notin (.str x) (.dct n)=some (!(look x dd).isSome):=by
 refine (?_:((((kP σ n).map fun d=>(look x d).isSome).or none).or none).map _=_)
 rw [ot h];rfl
theorem vN{x:Str}{n:Nat}{dd:List (Str×V)}(h:σ[n]?=some (.dict dd)):eA σ (.dct n) (.str x)=look x dd:=by
 exact congrArg (Option.bind · (look x)) (ot h)
theorem gQ{x:Str}(W:Wd k bk l σ)(Bk:pH bk)(hx:x.length≤1000):au PL w (d+1) 47 [WV k c,.str x] σ=kL k σ (gF bk x l):=by
 simp only [bo Jf Jg,GJ]
 have l4:("no ":Str).length=3:=by decide +kernel
 simp only [aD,bh,aX,bp,bq,bf,am,al,ae,ac,ao,ak,aj,aC,ad,aA,aw,aB,aF,aJ,aV,aW,aY,ba,a_,bc,bj,bl,bg,bi,aR,bR,bN,bF,bG,bI,bO,bS,bT,bU,bP,aN,aM,q_nil,q_cons,aH,aQ,aq,aP,aL,aS,ai,ax,aa,aO,ay,an,aT,bn,af,ag,az,bb,aZ,bQ,aG,aK,aE,av,ah,aU,aI,aV ef,za,BJ W.h1,vN W.h1]
 unfold gF kL nX
 refine fH (look x bk) (fun h=>?_) fun v h=>?_
 ·rw [h];skip
  simp only [aD,bh,aX,bp,bq,bf,am,al,ae,ac,ao,ak,aj,aC,ad,aA,aw,aB,aF,aJ,aV,aW,aY,ba,a_,bc,bj,bl,bg,bi,aR,bR,bN,bF,bG,bI,bO,bS,bT,bU,bP,aN,aM,q_nil,q_cons,aH,aQ,aq,aP,aL,aS,ai,ax,aa,aO,ay,an,aT,bn,af,ag,az,bb,aZ,bQ,aG,aK,aE,av,ah,aU,aI,Option.isSome_none,Bool.not_false,dA (show ("no ":Str).length+x.length≤100000 by lia),kq]
  simp only [W.self]
 ·rw [h];skip
  refine ob_1_2 (Bk.ok x v h) fun s hq38_1 z9=>?_
  subst hq38_1
  simp only [aD,bh,aX,bp,bq,bf,am,al,ae,ac,ao,ak,aj,aC,ad,aA,aw,aB,aF,aJ,aV,aW,aY,ba,a_,bc,bj,bl,bg,bi,aR,bR,bN,bF,bG,bI,bO,bS,bT,bU,bP,aN,aM,q_nil,q_cons,aH,aQ,aq,aP,aL,aS,ai,ax,aa,aO,ay,an,aT,bn,af,ag,az,bb,aZ,bQ,aG,aK,aE,av,ah,aU,aI,Option.isSome_some,Bool.not_true,aV ef,za,vN W.h1,h]
  simp only [W.self]
theorem Jj:PL 48=some GK:=by kernel_rfl
theorem Jm{a b:V}:cS GK [a,b]=some [some a,some b]:=rfl
theorem pI{x:Str}{l:List V}{ss:List Str}(h:ed l=some ss):dG σ .isin (.str x) (.lst l)=some (ss.any fun y=>decide (y=x)):=by
 refine (?_:((ed l).map _).or none=_)
 simp only [h];rfl
theorem sZ{x:Str}{l:List V}{ss:List Str}(h:ed l=some ss):dG σ .notin (.str x) (.lst l)=some (!(ss.any fun y=>decide (y=x))):=by
 refine (?_:(((ed l).map _).or none).map _=_)
 rw [h];rfl
theorem BK{e x:PE}{a b:Str}(h:ev C ρ e σ=bv (.str a) σ)(h2:ev C ρ x σ=bv (.str b) σ)(hl:a.length≤100000):ev C ρ (.strip e x) σ=bv (.str (Txt.stripChars a b)) σ:=by
 refine (?_:(ev C ρ e σ).bind _=_)
 simp only [h]
 refine (?_:(ev C ρ x σ).bind _=_)
 simp only [h2]
 exact congrArg (lift · σ) (if_pos (e_ hl))
theorem zf{x:Str}(h:x≠""):eA σ (.str x) (.int 0)=some (.str (Txt.item x 0)):=by
 refine (?_:(if (Txt.charAt x 0).isSome=true then some (V.str (Txt.item x 0)) else none).or none=_)
 have:(Txt.charAt x 0).isSome=true:=by
  obtain ⟨⟨l⟩⟩:=x
  cases l with
  | nil=>exact absurd (by decide +kernel) h
  | cons a r=>
   refine (?_:((seqIndex? 0 (r.length+1)).bind _).isSome=true)
   rw [show seqIndex? 0 (r.length+1)=some 0 by unfold seqIndex?;simp];rfl
 rw [this];rfl
theorem hO{x:Str}(W:Wd k bk l σ)(hx:x.length≤1000)(hr:l.length≤90000):au PL w (d+1) 48 [WV k c,.str x] σ=nX .bool k σ (fN x l):=by
 have s1:ed [V.str "",.str "x"]=some [("":Str),"x"]:=rfl
 have s2:ed [V.str "",.str "no"]=some [("":Str),"no"]:=rfl
 have l4:("no truth: ":Str).length=10:=by decide +kernel
 rw [bo Jj Jm,GK,av,qy (n:=k) (σ':=σ) (σ'':=σ) (v:=.tup (cT [("truth":Str),x])) (by simp only [aD,bh,aX,bp,bq,bf,am,al,ae,ac,ao,ak,aj,aC,ad,aA,aw,aB,aF,aJ,aV,aW,aY,ba,a_,bc,bj,bl,bg,bi,aR,bR,bN,bF,bG,bI,bO,bS,bT,bU,bP,aN,aM,q_nil,q_cons,aH,aQ,aq,aP,aL,aS,ai,ax,aa,aO,ay,an,aT,bn,af,ag,az,bb,aZ,bQ,aG,aK,aE,av,ah,aU,aI,aV ef,zb]) W.hk (by simp only [aD,bh,aX,bp,bq,bf,am,al,ae,ac,ao,ak,aj,aC,ad,aA,aw,aB,aF,aJ,aV,aW,aY,ba,a_,bc,bj,bl,bg,bi,aR,bR,bN,bF,bG,bI,bO,bS,bT,bU,bP,aN,aM,q_nil,q_cons,aH,aQ,aq,aP,aL,aS,ai,ax,aa,aO,ay,an,aT,bn,af,ag,az,bb,aZ,bQ,aG,aK,aE,av,ah,aU,aI];rfl) W.hk (e_ (by rw [sW];lia)),ze,aD]
 simp only [aD,bh,aX,bp,bq,bf,am,al,ae,ac,ao,ak,aj,aC,ad,aA,aw,aB,aF,aJ,aV,aW,aY,ba,a_,bc,bj,bl,bg,bi,aR,bR,bN,bF,bG,bI,bO,bS,bT,bU,bP,aN,aM,q_nil,q_cons,aH,aQ,aq,aP,aL,aS,ai,ax,aa,aO,ay,an,aT,bn,af,ag,az,bb,aZ,bQ,aG,aK,aE,av,ah,aU,aI,pI s1,sZ s2]
 unfold fN BI
 by_cases q:x=""
 ·have q1:(([("":Str),"x"]).any fun y=>decide (y=x))=true:=by
   rw [q];decide +kernel
  rw [q1]
  simp only [aD,bh,aX,bp,bq,bf,am,al,ae,ac,ao,ak,aj,aC,ad,aA,aw,aB,aF,aJ,aV,aW,aY,ba,a_,bc,bj,bl,bg,bi,aR,bR,bN,bF,bG,bI,bO,bS,bT,bU,bP,aN,aM,q_nil,q_cons,aH,aQ,aq,aP,aL,aS,ai,ax,aa,aO,ay,an,aT,bn,af,ag,az,bb,aZ,bQ,aG,aK,aE,av,ah,aU,aI,Bool.true_or,if_true,dA (show ("no truth: ":Str).length+x.length≤100000 by lia),kq]
  rfl
 ·simp only [zf q,aX,aD,bu]
  have r1:ev (au PL w d) [some (WV k c),some (.str x)] (.strip (.loc 1) (.str "0")) (lg k σ (l++[[("truth":Str),x]]))=bv (.str (Txt.stripChars x "0")) (lg k σ (l++[[("truth":Str),x]])):=BK (aW am) aJ (by lia)
  cases (([("":Str),"x"]).any fun y=>decide (y=x)) with
  | true=>
   simp only [aD,bh,aX,bp,bq,bf,am,al,ae,ac,ao,ak,aj,aC,ad,aA,aw,aB,aF,aJ,aV,aW,aY,ba,a_,bc,bj,bl,bg,bi,aR,bR,bN,bF,bG,bI,bO,bS,bT,bU,bP,aN,aM,q_nil,q_cons,aH,aQ,aq,aP,aL,aS,ai,ax,aa,aO,ay,an,aT,bn,af,ag,az,bb,aZ,bQ,aG,aK,aE,av,ah,aU,aI,Bool.true_or,if_true,dA (show ("no truth: ":Str).length+x.length≤100000 by lia),kq]
   rfl
  | false=>
   cases decide (Txt.item x 0="e") with
   | true=>
    simp only [aD,bh,aX,bp,bq,bf,am,al,ae,ac,ao,ak,aj,aC,ad,aA,aw,aB,aF,aJ,aV,aW,aY,ba,a_,bc,bj,bl,bg,bi,aR,bR,bN,bF,bG,bI,bO,bS,bT,bU,bP,aN,aM,q_nil,q_cons,aH,aQ,aq,aP,aL,aS,ai,ax,aa,aO,ay,an,aT,bn,af,ag,az,bb,aZ,bQ,aG,aK,aE,av,ah,aU,aI,if_true,dA (show ("no truth: ":Str).length+x.length≤100000 by lia),kq]
    rfl
   | false=>
    simp only [aD,bh,aX,bp,bq,bf,am,al,ae,ac,ao,ak,aj,aC,ad,aA,aw,aB,aF,aJ,aV,aW,aY,ba,a_,bc,bj,bl,bg,bi,aR,bR,bN,bF,bG,bI,bO,bS,bT,bU,bP,aN,aM,q_nil,q_cons,aH,aQ,aq,aP,aL,aS,ai,ax,aa,aO,ay,an,aT,bn,af,ag,az,bb,aZ,bQ,aG,aK,aE,av,ah,aU,aI,r1,sZ s2]
    rfl
theorem Jp:PL 49=some GL:=by kernel_rfl
theorem Jq{a b:V}:cS GL [a,b]=some [some a,some b,none]:=rfl
theorem qC{α β:Type}{g:α→V}{h:β→V}{m:EM α}{f:α→EM β}{F:V→St→cR V}(hF:∀ a l',m l=.ok a l'→F (g a) (lg k σ l')=nX h k σ (f a l')):(nX g k σ (m l)).bind F=nX h k σ (EM.bind m f l):=by
 unfold EM.bind
 cases e:m l with
 | ok a l'=>exact hF a l' e
 | ex c x l'=>rfl
theorem qD{ws:List Str}{x:Str}(W:Wd k bk l σ)(hd:ws.head?=some x)(h:∀ x∈ws,kN x)(hl:ws.length≤100)(hr:l.length≤90000):au PL w (d+2) 49 [WV k c,.lst (cT ws)] σ=kL k σ (qB c ws l):=by
 simp only [bo Jp Jq,GL]
 have e0:(cT ws)[0]?=some (.str x):=by
  cases ws with
  | nil=>exact cq hd
  | cons y r=>obtain rfl:=Option.some.inj hd;rfl
 simp only [aD,bh,aX,bp,bq,bf,am,al,ae,ac,ao,ak,aj,aC,ad,aA,aw,aB,aF,aJ,aV,aW,aY,ba,a_,bc,bj,bl,bg,bi,aR,bR,bN,bF,bG,bI,bO,bS,bT,bU,bP,aN,aM,q_nil,q_cons,aH,aQ,aq,aP,aL,aS,ai,ax,aa,aO,ay,an,aT,bn,af,ag,az,bb,aZ,bQ,aG,aK,aE,av,ah,aU,aI,aV ef,ru (aW ak),gw W h hl hr]
 refine qC fun v l' z9=>?_
 simp only [aD,bh,aX,bp,bq,bf,am,al,ae,ac,ao,ak,aj,aC,ad,aA,aw,aB,aF,aJ,aV,aW,aY,ba,a_,bc,bj,bl,bg,bi,aR,bR,bN,bF,bG,bI,bO,bS,bT,bU,bP,aN,aM,q_nil,q_cons,aH,aQ,aq,aP,aL,aS,ai,ax,aa,aO,ay,an,aT,bn,af,ag,az,bb,aZ,bQ,aG,aK,aE,av,ah,aU,aI,mG (show 0<1000000 by decide),show (0:Int)=((0:Nat):Int) from rfl,e0,bu,hd]
 by_cases q:x="stop"
 ·rw [decide_eq_true q,if_pos (by rw [q])]
  rfl
 ·rw [decide_eq_false q,if_neg (fun e=>q (Option.some.inj e))]
  rfl
end
end
end Mine.Internal.Q
end
section
open PySem
namespace Mine.Internal.Q
noncomputable section
noncomputable def vs(s:SS)(S:List Str)(l:fS):SS:={ s with l1:=l,stk:=[.list (cT S)] }
noncomputable def kt:List Str→Str
 | []=>""
 | x::r=>x++kt r
section
variable {C:CF} {w d k:Nat} {s:SS} {v:V} {l l':fS} {ρ:ck} {K B:KK} {σ σ':St} {bk:List (Str×V)} {c:Int} {S T A:List Str}
theorem rD:Wd 2 s.bk l (vs s S l).st:=⟨rfl,rfl,by decide⟩
theorem vO:(vs s S l).st[11]?=some (.list (cT S)):=rfl
theorem HN:(vs s S l).st[6]?=some (.list (fL s.rows)):=rfl
theorem Ei:(vs s S l).st.set 11 (.list (cT T))=(vs s T l).st:=rfl
theorem FQ{e:PE}{n:Nat}{m:List V}(h:ev C ρ e σ=bv (.ref n) σ')(h2:σ'[n]?=some (.list (m++[v]))):ev C ρ (.pop e) σ=bv v (σ'.set n (.list m)):=by
 refine (?_:(ev C ρ e σ).bind _=_)
 rw [h]
 refine (?_:(lift (lstAt σ' (.ref n)) σ').bind _=_)
 rw [pC h2]
 refine (?_:(fO σ' n).bind _=_)
 rw [gD h2]
 refine (?_:((m++[v]).getLast?).bind (fun x=>bv x (σ'.set n (.list (m++[v]).dropLast)))=_)
 rw [List.getLast?_concat,List.dropLast_concat];rfl
theorem ny{e:PE}{x:Str}(h:ev C ρ e (vs s (S++[x]) l).st=bv (.ref 11) (vs s (S++[x]) l).st):ev C ρ (.pop e) (vs s (S++[x]) l).st=bv (.str x) (vs s S l).st:=by
 simp only [FQ (m:=cT S) (v:=.str x) h (by simp only [vO,pA];rfl)];rfl
theorem zg{e x:PE}{k:Int}{vs:List V}(h:ev C ρ x σ=bv (.int k) σ)(hn:-100000<k∧k<100000)(h2:gK (fun v σ=>ev C (ρ++[some v]) e σ) (rng k) σ=bv vs σ'):ev C ρ (.compR e x) σ=bv (.lst vs) σ':=by
 refine (?_:(ev C ρ x σ).bind _=_)
 simp only [h]
 refine (?_:(if (decide (-100000<k)&&decide (k<100000))=true then (gK _ (rng k) σ).bind _ else none)=_)
 simp only [decide_eq_true hn.1,decide_eq_true hn.2,h2];rfl
theorem rE{e x:PE}{n:Nat}{vs:List V}(h:ev C ρ x σ=bv (.int n) σ)(hn:n≤1000)(h2:gK (fun v σ=>ev C (ρ++[some v]) e σ) (rng n) σ=bv vs σ'):ev C ρ (.compR e x) σ=bv (.lst vs) σ':=zg h (by lia) h2
theorem s7{f:V→St→cR V}:∀ {l m:List V},l.length=m.length→(∀ (i:Nat) (v x:V),l[i]?=some v→m[i]?=some x→f v σ=bv x σ)→gK f l σ=bv m σ:=by
 intro l
 induction l with
 | nil=>intro m hl _;cases m with
  | nil=>rfl
  | cons=>cases hl
 | cons v r ih=>
  intro m hl h
  cases m with
  | nil=>cases hl
  | cons x m=>
   refine (?_:(f v σ).bind _=_)
   rw [h 0 v x rfl rfl,aD,ih (Nat.succ.inj hl) fun i v x a b=>h (i+1) v x a b];rfl
theorem HO{f:V→St→cR V}(hf:∀ v S x,f v (vs s (S++[x]) l).st=bv (.str x) (vs s S l).st):∀ (L:List V) (A T:List Str),A.length=L.length→gK f L (vs s (T++A) l).st=bv (cT A.reverse) (vs s T l).st:=by
 intro L
 induction L with
 | nil=>intro A T h;cases A with
  | nil=>rw [List.append_nil];rfl
  | cons=>cases h
 | cons v r ih=>
  intro A T h
  refine Or.elim (List.eq_nil_or_concat A) (fun ho59_0=>?_) fun ho59_1=>?_
  ·subst ho59_0
   cases h
  ·obtain ⟨A',x,rfl⟩:=ho59_1
   rw [List.concat_eq_append] at *
   rw [List.length_append] at h
   refine (?_:(f v _).bind _=_)
   simp only [← List.append_assoc,hf v (T++A') x,aD,ih A' T (by simp only [List.length_cons,List.length_nil] at h;lia),aD,List.reverse_append];rfl
theorem Jr:PL 56=some GP:=by kernel_rfl
theorem Ju{a b:V}:cS GP [a,b]=some [some a,some b,none]:=rfl
theorem ol{n:Nat}:(rng n).length=n:=by
 simp only [rz,List.length_map,List.length_range']
theorem rng_get{n i:Nat}{v:V}(h:(rng n)[i]?=some v):v=.int i∧i<n:=by
 rw [rz,List.getElem?_map] at h
 refine ob_1_2 (Option.map_eq_some_iff.mp h) fun j hj hq72_2=>?_
 subst hq72_2
 have hi:=(List.getElem?_eq_some_iff.mp hj).1
 simp only [List.length_range'] at hi
 rw [List.getElem?_range' hi] at hj
 obtain rfl:=Option.some.inj hj
 exact ⟨by rw [Nat.zero_add,Nat.one_mul],hi⟩
theorem ku{n:Nat}(hn:A.length=n)(h:n≤100):au PL w (d+1) 56 [.ref 11,.int n] (vs s (T++A) l).st=bv (.lst (cT A)) (vs s T l).st:=by
 simp only [bo Jr Ju,GP,aE,rE (n:=n) (vs:=cT A.reverse) (σ':=(vs s T l).st) (aW al) (by omega) (HO (fun v S x=>ny (aV aj)) _ A T (by simp only [ol];exact hn)),aD,aK]
 refine rE (n:=n) (aW al) (by omega) (s7 (by simp only [ol,hH];exact hn.symm) ?_)
 intro i v x hv hx
 refine bC (rng_get hv) fun hq83_0 hi=>?_
 subst hq83_0
 have hg:(cT A.reverse)[n-1-i]?=some x:=by
  unfold cT at *
  rw [List.getElem?_map] at *
  rw [List.getElem?_reverse (by omega),← hx]
  exact congrArg (fun j=>(A[j]?).map V.str) (by lia)
 refine (?_:ev _ [_,_,_,_] _ _=_)
 simp only [aD,bh,aX,bp,bq,bf,am,al,ae,ac,ao,ak,aj,aC,ad,aA,aw,aB,aF,aJ,aV,aW,aY,ba,a_,bc,bj,bl,bg,bi,aR,bR,bN,bF,bG,bI,bO,bS,bT,bU,bP,aN,aM,q_nil,q_cons,aH,aQ,aq,aP,aL,aS,ai,ax,aa,aO,ay,an,aT,bn,af,ag,az,bb,aZ,bQ,aG,aK,aE,av,ah,aU,aI,lj (cO (show (-1000000:Int)<(n:Int)∧(n:Int)<1000000 by lia)) (mf (show (-3:Int)≤1∧(1:Int)≤3 by omega)),lj (cO (show (-1000000:Int)<(n:Int)-1∧(n:Int)-1<1000000 by omega)) (cO (show (-1000000:Int)<(i:Int)∧(i:Int)<1000000 by omega))]
 rw [show (n:Int)-1-i=((n-1-i:Nat):Int) by omega,mG (by omega),hg];rfl
end
end
end Mine.Internal.Q
end
section
open PySem
namespace Mine.Internal.Q
noncomputable section
noncomputable def hU(d:Nat)(c:Int)(s:SS)(r:jN)(A:List Str)(f:EM Str):Prop:=∀ T l,l.length≤90000→au PL 5000 (d+3) 57 [WV 2 c,.ref 11,hG r] (vs s (T++A) l).st=nX .str 2 (vs s T l).st (f l)
section
variable {C:CF} {w d k:Nat} {s:SS} {v:V} {l l':fS} {ρ:ck} {K B:KK} {σ σ':St} {bk:List (Str×V)} {c:Int} {S T A:List Str}
theorem zh:PL 57=some nV:=by kernel_rfl
theorem zi{a b c:V}:cS nV [a,b,c]=some [some a,some b,some c,none,none,none]:=rfl
noncomputable abbrev rF(c:Int)(op:Str)(a b:V):ck:=[some (WV 2 c),some (.ref 11),some (hG (op,a,b)),some (.str op),some a,some b]
theorem s8{x:Str}{b:V}:hU d c s ("push",.str x,b) [] (EM.pure x):=by
 intro T l hl
 rw [bo zh zi,show ∀ σ,fk (au PL 5000 (d+2)) 5000 nV.body K0 B0 [some (WV 2 c),some (.ref 11),some (hG ("push",.str x,b)),none,none,none] σ=fk (au PL 5000 (d+2)) 5000 (nV.body.drop 1) K0 B0 (rF c "push" (.str x) b) σ from fun z9=>by kernel_rfl]
 refine (?_:fk _ _ (PS.ifs _ _ _::_) _ _ _ _=_)
 simp only [aD,bh,aX,bp,bq,bf,am,al,ae,ac,ao,ak,aj,aC,ad,aA,aw,aB,aF,aJ,aV,aW,aY,ba,a_,bc,bj,bl,bg,bi,aR,bR,bN,bF,bG,bI,bO,bS,bT,bU,bP,aN,aM,q_nil,q_cons,aH,aQ,aq,aP,aL,aS,ai,ax,aa,aO,ay,an,aT,bn,af,ag,az,bb,aZ,bQ,aG,aK,aE,av,ah,aU,aI,bu,eq_self,decide_true,List.append_nil]
 rfl
theorem s9{x:Str}{i:Int}(Bk:pH s.bk)(hx:x.length≤1000):hU d c s ("load",.int i,.str x) [] (gF s.bk x):=by
 intro T l hl
 rw [bo zh zi,show ∀ σ,fk (au PL 5000 (d+2)) 5000 nV.body K0 B0 [some (WV 2 c),some (.ref 11),some (hG ("load",.int i,.str x)),none,none,none] σ=fk (au PL 5000 (d+2)) 5000 (nV.body.drop 2) K0 B0 (rF c "load" (.int i) (.str x)) σ from fun z9=>by kernel_rfl]
 refine (?_:fk _ _ (PS.ifs _ _ _::_) _ _ _ _=_)
 simp only [aI,show ∀ C σ,fw C (rF c "load" (.int i) (.str x)) (.cmp .isin (.loc 3) (.lst [.str "load",.str "load_name"])) σ=bv true σ from fun z9 z9=>by kernel_rfl]
 simp only [aD,bh,aX,bp,bq,bf,am,al,ae,ac,ao,ak,aj,aC,ad,aA,aw,aB,aF,aJ,aV,aW,aY,ba,a_,bc,bj,bl,bg,bi,aR,bR,bN,bF,bG,bI,bO,bS,bT,bU,bP,aN,aM,q_nil,q_cons,aH,aQ,aq,aP,aL,aS,ai,ax,aa,aO,ay,an,aT,bn,af,ag,az,bb,aZ,bQ,aG,aK,aE,av,ah,aU,aI,aV ef,bu,eq_self,decide_true,List.append_nil]
 exact gQ rD Bk hx
theorem w3{x:Str}(Bk:pH s.bk)(hx:x.length≤1000):hU d c s ("load_name",.str x,.none) [] (gF s.bk x):=by
 intro T l hl
 rw [bo zh zi,show ∀ σ,fk (au PL 5000 (d+2)) 5000 nV.body K0 B0 [some (WV 2 c),some (.ref 11),some (hG ("load_name",.str x,.none)),none,none,none] σ=fk (au PL 5000 (d+2)) 5000 (nV.body.drop 2) K0 B0 (rF c "load_name" (.str x) .none) σ from fun z9=>by kernel_rfl]
 refine (?_:fk _ _ (PS.ifs _ _ _::_) _ _ _ _=_)
 simp only [aI,show ∀ C σ,fw C (rF c "load_name" (.str x) .none) (.cmp .isin (.loc 3) (.lst [.str "load",.str "load_name"])) σ=bv true σ from fun z9 z9=>by kernel_rfl]
 simp only [aD,bh,aX,bp,bq,bf,am,al,ae,ac,ao,ak,aj,aC,ad,aA,aw,aB,aF,aJ,aV,aW,aY,ba,a_,bc,bj,bl,bg,bi,aR,bR,bN,bF,bG,bI,bO,bS,bT,bU,bP,aN,aM,q_nil,q_cons,aH,aQ,aq,aP,aL,aS,ai,ax,aa,aO,ay,an,aT,bn,af,ag,az,bb,aZ,bQ,aG,aK,aE,av,ah,aU,aI,aV ef,bu,show decide (("load_name":Str)="load")=false by decide +kernel,List.append_nil]
 exact gQ rD Bk hx
theorem BL{x v:Str}(Bk:pH s.bk)(hx:x.length≤100)(hv:v.length≤100):hU d c s ("load_element",.str x,.none) [v] (gF s.bk (x++"("++v++")")):=by
 intro T l hl
 simp only [bo zh zi,show ∀ σ,fk (au PL 5000 (d+2)) 5000 nV.body K0 B0 [some (WV 2 c),some (.ref 11),some (hG ("load_element",.str x,.none)),none,none,none] σ=fk (au PL 5000 (d+2)) 5000 (nV.body.drop 3) K0 B0 (rF c "load_element" (.str x) .none) σ from fun z9=>by kernel_rfl]
 refine (?_:fk _ _ (PS.ifs _ _ _::_) _ _ _ _=_)
 have l1:("(":Str).length=1:=by decide +kernel
 have l2:(")":Str).length=1:=by decide +kernel
 have hp:=ny (C:=au PL 5000 (d+2)) (s:=s) (S:=T) (l:=l) (x:=v) (ρ:=rF c "load_element" (.str x) .none) (e:=.loc 1) (aW aj)
 simp only [aD,bh,aX,bp,bq,bf,am,al,ae,ac,ao,ak,aj,aC,ad,aA,aw,aB,aF,aJ,aV,aW,aY,ba,a_,bc,bj,bl,bg,bi,aR,bR,bN,bF,bG,bI,bO,bS,bT,bU,bP,aN,aM,q_nil,q_cons,aH,aQ,aq,aP,aL,aS,ai,ax,aa,aO,ay,an,aT,bn,af,ag,az,bb,aZ,bQ,aG,aK,aE,av,ah,aU,aI,aV ef,bu,eq_self,decide_true,hp,dA (show x.length+("(":Str).length≤100000 by lia),dA (show (x++("(":Str)).length+v.length≤100000 by rw [ez];lia),dA (show (x++("(":Str)++v).length+(")":Str).length≤100000 by rw [ez,ez];lia)]
 exact gQ rD Bk (by rw [ez,ez,ez];lia)
theorem zj{ss:List Str}:Txt.join "" ss=kt ss:=by
 have e0:("":Str)=⟨#[]⟩:=by decide +kernel
 have hf:∀ (r:List Str) (acc:Array Nat),r.foldl (fun acc p=>acc++("":Str).cps++p.cps) acc=acc++(kt r).cps:=by
  intro r
  induction r with
  | nil=>intro acc;show acc=acc++("":Str).cps;rw [e0,Array.append_empty]
  | cons p r ih=>
   intro acc
   rw [List.foldl_cons,ih,e0,Array.append_empty]
   refine (?_:_=acc++(p.cps++(kt r).cps))
   rw [Array.append_assoc]
 cases ss with
 | nil=>show (⟨(List.foldl _ Str.empty.cps [])⟩:Str)="";rw [e0];rfl
 | cons x r=>
  refine (?_:(⟨List.foldl _ x.cps r⟩:Str)=⟨x.cps++(kt r).cps⟩)
  rw [hf]
theorem nO:∀ ss:List Str,ed (cT ss)=some ss:=by
 intro ss
 induction ss with
 | nil=>rfl
 | cons x r ih=>show (ed (cT r)).map _=_;rw [ih];rfl
theorem Ej{e x:PE}{ss:List Str}(h:ev C ρ e σ=bv (.str "") σ)(h2:ev C ρ x σ=bv (.lst (cT ss)) σ')(hl:(ss.map (·.length)).sum≤1000):ev C ρ (.join e x) σ=bv (.str (kt ss)) σ':=by
 refine (?_:(ev C ρ e σ).bind _=_)
 rw [h]
 refine (?_:(ev C ρ x σ).bind _=_)
 rw [h2]
 refine (?_:lift ((ed (cT ss)).bind _) σ'=_)
 rw [nO]
 have l1:("":Str).length=0:=by decide +kernel
 refine (congrArg (lift · σ') (if_pos (PyProof.Rows.joinOk_of (by rw [l1];lia)))).trans ?_
 rw [zj];rfl
theorem zk{n:Nat}(hn:A.length=n)(h:n≤100)(hl:(A.map (·.length)).sum≤1000):hU d c s ("join",.int n,.none) A (EM.pure (kt A)):=by
 intro T l _
 rw [bo zh zi,show ∀ σ,fk (au PL 5000 (d+2)) 5000 nV.body K0 B0 [some (WV 2 c),some (.ref 11),some (hG ("join",.int n,.none)),none,none,none] σ=fk (au PL 5000 (d+2)) 5000 (nV.body.drop 4) K0 B0 (rF c "join" (.int n) .none) σ from fun z9=>by kernel_rfl]
 refine (?_:fk _ _ (PS.ifs _ _ _::_) _ _ _ _=_)
 have hj:=Ej (C:=au PL 5000 (d+2)) (ρ:=rF c "join" (.int n) .none) (σ:=(vs s (T++A) l).st) (σ':=(vs s T l).st) (e:=.str "") (x:=.call 56 [.loc 1,.loc 4]) (ss:=A) rfl (by simp only [aD,bh,aX,bp,bq,bf,am,al,ae,ac,ao,ak,aj,aC,ad,aA,aw,aB,aF,aJ,aV,aW,aY,ba,a_,bc,bj,bl,bg,bi,aR,bR,bN,bF,bG,bI,bO,bS,bT,bU,bP,aN,aM,q_nil,q_cons,aH,aQ,aq,aP,aL,aS,ai,ax,aa,aO,ay,an,aT,bn,af,ag,az,bb,aZ,bQ,aG,aK,aE,av,ah,aU,aI,ku hn h]) hl
 simp only [aD,bh,aX,bp,bq,bf,am,al,ae,ac,ao,ak,aj,aC,ad,aA,aw,aB,aF,aJ,aV,aW,aY,ba,a_,bc,bj,bl,bg,bi,aR,bR,bN,bF,bG,bI,bO,bS,bT,bU,bP,aN,aM,q_nil,q_cons,aH,aQ,aq,aP,aL,aS,ai,ax,aa,aO,ay,an,aT,bn,af,ag,az,bb,aZ,bQ,aG,aK,aE,av,ah,aU,aI,bu,eq_self,decide_true,hj]
 rfl
theorem uF{n:Nat}{x:Str}(hn:A.length=n)(h:n≤100)(hd:A.head?=some x)(ha:∀ x∈A,kN x):hU d c s ("invoke",.int n,.none) A (qB c A):=by
 intro T l hl
 rw [bo zh zi,show ∀ σ,fk (au PL 5000 (d+2)) 5000 nV.body K0 B0 [some (WV 2 c),some (.ref 11),some (hG ("invoke",.int n,.none)),none,none,none] σ=fk (au PL 5000 (d+2)) 5000 (nV.body.drop 5) K0 B0 (rF c "invoke" (.int n) .none) σ from fun z9=>by kernel_rfl]
 refine (?_:fk _ _ (PS.ifs _ _ _::_) _ _ _ _=_)
 simp only [aD,bh,aX,bp,bq,bf,am,al,ae,ac,ao,ak,aj,aC,ad,aA,aw,aB,aF,aJ,aV,aW,aY,ba,a_,bc,bj,bl,bg,bi,aR,bR,bN,bF,bG,bI,bO,bS,bT,bU,bP,aN,aM,q_nil,q_cons,aH,aQ,aq,aP,aL,aS,ai,ax,aa,aO,ay,an,aT,bn,af,ag,az,bb,aZ,bQ,aG,aK,aE,av,ah,aU,aI,aV ef,bu,eq_self,decide_true,ku hn h]
 exact qD rD hd ha (by lia) hl
theorem w4{op v:Str}(ho:kN ("u:"++op))(hv:kN v):hU d c s ("unary",.str op,.none) [v] (gv ["u:"++op,v]):=by
 intro T l hl
 rw [bo zh zi,show ∀ σ,fk (au PL 5000 (d+2)) 5000 nV.body K0 B0 [some (WV 2 c),some (.ref 11),some (hG ("unary",.str op,.none)),none,none,none] σ=fk (au PL 5000 (d+2)) 5000 (nV.body.drop 6) K0 B0 (rF c "unary" (.str op) .none) σ from fun z9=>by kernel_rfl]
 refine (?_:fk _ _ (PS.ifs _ _ _::_) _ _ _ _=_)
 have hp:=ny (C:=au PL 5000 (d+2)) (s:=s) (S:=T) (l:=l) (x:=v) (ρ:=rF c "unary" (.str op) .none) (e:=.loc 1) (aW aj)
 have ho':=ho.1
 rw [ez] at ho'
 simp only [aD,bh,aX,bp,bq,bf,am,al,ae,ac,ao,ak,aj,aC,ad,aA,aw,aB,aF,aJ,aV,aW,aY,ba,a_,bc,bj,bl,bg,bi,aR,bR,bN,bF,bG,bI,bO,bS,bT,bU,bP,aN,aM,q_nil,q_cons,aH,aQ,aq,aP,aL,aS,ai,ax,aa,aO,ay,an,aT,bn,af,ag,az,bb,aZ,bQ,aG,aK,aE,av,ah,aU,aI,aV ef,bu,eq_self,decide_true,hp,dA (show ("u:":Str).length+op.length≤100000 by lia)]
 exact gw (told:=["u:"++op,v]) rD (fun x hx=>by simp only [List.mem_cons,List.not_mem_nil,or_false] at hx;rcases hx with rfl | rfl<;>assumption) (Nat.le_of_ble_eq_true rfl) hl
theorem zl{e:PE}{a:Str}{b:List Str}{x:PE}(h:ev C ρ e σ=bv (.str a) σ)(h2:ev C ρ x σ=bv (.lst (cT b)) σ')(hb:b.length≤1000):ev C ρ (.tuple (.bin .add (.lst [e]) x)) σ=bv (.tup (cT (a::b))) σ':=by
 refine ru ?_
 simp only [aP,aM,q_cons,q_nil,h,aD,h2]
 refine (?_:lift (if fl _=true then _ else _) _=_)
 rw [e_ (show [V.str a].length+(cT b).length≤100000 by rw [hH];simp only [List.length_cons,List.length_nil];lia)];rfl
theorem uG{op:Str}(hn:A.length=2)(ho:kN ("b:"++op))(ha:∀ x∈A,kN x):hU d c s ("binary",.str op,.none) A (gv (("b:"++op)::A)):=by
 intro T l hl
 rw [bo zh zi,show ∀ σ,fk (au PL 5000 (d+2)) 5000 nV.body K0 B0 [some (WV 2 c),some (.ref 11),some (hG ("binary",.str op,.none)),none,none,none] σ=fk (au PL 5000 (d+2)) 5000 (nV.body.drop 7) K0 B0 (rF c "binary" (.str op) .none) σ from fun z9=>by kernel_rfl]
 refine (?_:fk _ _ (PS.ifs _ _ _::_) _ _ _ _=_)
 have ho':=ho.1
 rw [ez] at ho'
 have ht:=zl (C:=au PL 5000 (d+2)) (ρ:=rF c "binary" (.str op) .none) (σ:=(vs s (T++A) l).st) (σ':=(vs s T l).st) (e:=.bin .add (.str "b:") (.loc 4)) (a:="b:"++op) (x:=.call 56 [.loc 1,.int 2]) (b:=A) (by simp only [aD,bh,aX,bp,bq,bf,am,al,ae,ac,ao,ak,aj,aC,ad,aA,aw,aB,aF,aJ,aV,aW,aY,ba,a_,bc,bj,bl,bg,bi,aR,bR,bN,bF,bG,bI,bO,bS,bT,bU,bP,aN,aM,q_nil,q_cons,aH,aQ,aq,aP,aL,aS,ai,ax,aa,aO,ay,an,aT,bn,af,ag,az,bb,aZ,bQ,aG,aK,aE,av,ah,aU,aI,dA (show ("b:":Str).length+op.length≤100000 by lia)]) (by simp only [aD,bh,aX,bp,bq,bf,am,al,ae,ac,ao,ak,aj,aC,ad,aA,aw,aB,aF,aJ,aV,aW,aY,ba,a_,bc,bj,bl,bg,bi,aR,bR,bN,bF,bG,bI,bO,bS,bT,bU,bP,aN,aM,q_nil,q_cons,aH,aQ,aq,aP,aL,aS,ai,ax,aa,aO,ay,an,aT,bn,af,ag,az,bb,aZ,bQ,aG,aK,aE,av,ah,aU,aI];exact ku hn (by decide)) (by lia)
 simp only [aD,bh,aX,bp,bq,bf,am,al,ae,ac,ao,ak,aj,aC,ad,aA,aw,aB,aF,aJ,aV,aW,aY,ba,a_,bc,bj,bl,bg,bi,aR,bR,bN,bF,bG,bI,bO,bS,bT,bU,bP,aN,aM,q_nil,q_cons,aH,aQ,aq,aP,aL,aS,ai,ax,aa,aO,ay,an,aT,bn,af,ag,az,bb,aZ,bQ,aG,aK,aE,av,ah,aU,aI,aV ef,bu,eq_self,decide_true,ht]
 exact gw (told:=("b:"++op)::A) rD (fun x hx=>by rcases List.mem_cons.mp hx with rfl | hx;exact ho;exact ha x hx) (by simp only [List.length_cons];lia) hl
theorem rG{f:Str}{n:Nat}(hn:A.length=n)(h:n≤90)(ho:kN ("f:"++f))(ha:∀ x∈A,kN x):hU d c s ("function",.str f,.int n) A (gv (("f:"++f)::A)):=by
 intro T l hl
 rw [bo zh zi,show ∀ σ,fk (au PL 5000 (d+2)) 5000 nV.body K0 B0 [some (WV 2 c),some (.ref 11),some (hG ("function",.str f,.int n)),none,none,none] σ=fk (au PL 5000 (d+2)) 5000 (nV.body.drop 8) K0 B0 (rF c "function" (.str f) (.int n)) σ from fun z9=>by kernel_rfl]
 refine (?_:fk _ _ (PS.ifs _ _ _::_) _ _ _ _=_)
 have ho':=ho.1
 rw [ez] at ho'
 have ht:=zl (C:=au PL 5000 (d+2)) (ρ:=rF c "function" (.str f) (.int n)) (σ:=(vs s (T++A) l).st) (σ':=(vs s T l).st) (e:=.bin .add (.str "f:") (.loc 4)) (a:="f:"++f) (x:=.call 56 [.loc 1,.loc 5]) (b:=A) (by simp only [aD,bh,aX,bp,bq,bf,am,al,ae,ac,ao,ak,aj,aC,ad,aA,aw,aB,aF,aJ,aV,aW,aY,ba,a_,bc,bj,bl,bg,bi,aR,bR,bN,bF,bG,bI,bO,bS,bT,bU,bP,aN,aM,q_nil,q_cons,aH,aQ,aq,aP,aL,aS,ai,ax,aa,aO,ay,an,aT,bn,af,ag,az,bb,aZ,bQ,aG,aK,aE,av,ah,aU,aI,dA (show ("f:":Str).length+f.length≤100000 by lia)]) (by simp only [aD,bh,aX,bp,bq,bf,am,al,ae,ac,ao,ak,aj,aC,ad,aA,aw,aB,aF,aJ,aV,aW,aY,ba,a_,bc,bj,bl,bg,bi,aR,bR,bN,bF,bG,bI,bO,bS,bT,bU,bP,aN,aM,q_nil,q_cons,aH,aQ,aq,aP,aL,aS,ai,ax,aa,aO,ay,an,aT,bn,af,ag,az,bb,aZ,bQ,aG,aK,aE,av,ah,aU,aI];exact ku hn (by lia)) (by lia)
 simp only [aD,bh,aX,bp,bq,bf,am,al,ae,ac,ao,ak,aj,aC,ad,aA,aw,aB,aF,aJ,aV,aW,aY,ba,a_,bc,bj,bl,bg,bi,aR,bR,bN,bF,bG,bI,bO,bS,bT,bU,bP,aN,aM,q_nil,q_cons,aH,aQ,aq,aP,aL,aS,ai,ax,aa,aO,ay,an,aT,bn,af,ag,az,bb,aZ,bQ,aG,aK,aE,av,ah,aU,aI,aV ef,bu,eq_self,decide_true,ht]
 exact gw (told:=("f:"++f)::A) rD (fun x hx=>by rcases List.mem_cons.mp hx with rfl | hx;exact ho;exact ha x hx) (by simp only [List.length_cons];lia) hl
noncomputable def f0(b:Bool):Str:=if b then "1" else "0"
theorem w5{v:Str}(hv:v.length≤1000):hU d c s ("truth",.none,.none) [v] (EM.bind (fN v) fun b=>EM.pure (f0 b)):=by
 intro T l hl
 rw [bo zh zi,show ∀ σ,fk (au PL 5000 (d+2)) 5000 nV.body K0 B0 [some (WV 2 c),some (.ref 11),some (hG ("truth",.none,.none)),none,none,none] σ=fk (au PL 5000 (d+2)) 5000 (nV.body.drop 9) K0 B0 (rF c "truth" .none .none) σ from fun z9=>by kernel_rfl]
 refine (?_:fk _ _ (PS.ifs _ _ _::_) _ _ _ _=_)
 have hp:=ny (C:=au PL 5000 (d+2)) (s:=s) (S:=T) (l:=l) (x:=v) (ρ:=rF c "truth" .none .none) (e:=.loc 1) (aW aj)
 simp only [aD,bh,aX,bp,bq,bf,am,al,ae,ac,ao,ak,aj,aC,ad,aA,aw,aB,aF,aJ,aV,aW,aY,ba,a_,bc,bj,bl,bg,bi,aR,bR,bN,bF,bG,bI,bO,bS,bT,bU,bP,aN,aM,q_nil,q_cons,aH,aQ,aq,aP,aL,aS,ai,ax,aa,aO,ay,an,aT,bn,af,ag,az,bb,aZ,bQ,aG,aK,aE,av,ah,aU,aI,aV ef,bu,eq_self,decide_true,hp,hO (rD (s:=s) (S:=T)) hv hl,k_]
 refine qC fun b l' z9=>?_
 cases b<;>rfl
theorem zm{x:Str}{b:V}:hU d c s ("fail",.str x,b) [] (fun l=>.ex 1 x l):=by
 intro T l hl
 rw [bo zh zi,show ∀ σ,fk (au PL 5000 (d+2)) 5000 nV.body K0 B0 [some (WV 2 c),some (.ref 11),some (hG ("fail",.str x,b)),none,none,none] σ=fk (au PL 5000 (d+2)) 5000 (nV.body.drop 10) K0 B0 (rF c "fail" (.str x) b) σ from fun z9=>by kernel_rfl]
 refine (?_:fk _ _ (PS.raise _::_) _ _ _ _=_)
 simp only [aD,bh,aX,bp,bq,bf,am,al,ae,ac,ao,ak,aj,aC,ad,aA,aw,aB,aF,aJ,aV,aW,aY,ba,a_,bc,bj,bl,bg,bi,aR,bR,bN,bF,bG,bI,bO,bS,bT,bU,bP,aN,aM,q_nil,q_cons,aH,aQ,aq,aP,aL,aS,ai,ax,aa,aO,ay,an,aT,bn,af,ag,az,bb,aZ,bQ,aG,aK,aE,av,ah,aU,aI,bu,eq_self,decide_true,kq,List.append_nil]
 rfl
end
end
end Mine.Internal.Q
end
section
open PySem
namespace Mine.Internal.Q
noncomputable section
noncomputable abbrev IF:PE:=.cmp .lt (.loc 3) (.len (.loc 1))
noncomputable def GU:List PS:=[.ifs (.not (.cmp2 .le .le (.loc 3) (.loc 5) (.len (.loc 1)))) [.raise (.raised [.int 9,.str "a jump that does not lead ahead"])] [],.ifs (.or (.cmp .eq (.loc 4) (.str "jump")) (.cmp .eq (.call 48 [.loc 0,.pop (.loc 2)]) (.cmp .eq (.loc 4) (.str "jump_true")))) [.asg 3 (.loc 5)] []]
noncomputable def GV:List PS:=[.ifs (.cmp .eq (.loc 4) (.str "pop")) [.expr (.pop (.loc 2))] [.expr (.append (.loc 2) (.call 57 [.loc 0,.loc 2,.tup [.loc 4,.loc 5,.loc 6]]))]]
noncomputable def IG:List PS:=[.asgT [4,5,6] (.sub (.loc 1) (.loc 3)),.asg 3 (.bin .add (.loc 3) (.int 1)),.ifs (.cmp .isin (.loc 4) (.lst [.str "jump",.str "jump_true",.str "jump_false"])) GU GV]
noncomputable def EP(d:Nat):CF:=au PL 5000 (d+3)
noncomputable def HP(d:Nat):KK:=fk (EP d) 5000 [.ret (.loc 2)] K0 B0
noncomputable def Ek(d n:Nat)(ρ:ck)(σ:St):cR V:=WL (EP d) 5000 IF IG n (HP d) B0 ρ σ
noncomputable def FS(s:SS):ER (List Str)→cR V→Prop
 | .ok S l,r=>r=bv (.ref 11) (vs s S l).st
 | .ex c x l,r=>∃ T,r=uy (.exc (.int c) (.str x)) (vs s T l).st
noncomputable def VF(d:Nat)(c:Int)(s:SS)(p:Nat)(S:List Str)(l:fS)(res:ER (List Str)):Prop:=
 l.length≤80000+p→S.length≤p→∀ n x y z,s.rows.length<n+p→FS s res (Ek d n [some (WV 2 c),some (.ref 6),some (.ref 11),some (.int p),x,y,z] (vs s S l).st)
noncomputable def CK(op:Str):Bool:=([("jump":Str),"jump_true","jump_false"]).any fun y=>decide (y=op)
noncomputable def jU{α:Type}(r:ER α)(res:ER (List Str))(K:α→fS→Prop):Prop:=match r with
 | .ok a l=>K a l
 | .ex c x l=>res=.ex c x l
section
variable {C:CF} {w d k p:Nat} {s:SS} {v:V} {l l':fS} {ρ:ck} {K B:KK} {σ σ':St} {bk:List (Str×V)} {c:Int} {S T A:List Str} {res:ER (List Str)} {x y z:Option V}
theorem CL{a b:Nat}:dG σ .lt (.int a) (.int b)=some (decide (a<b)):=congrArg some (decide_eq_decide.mpr Int.ofNat_lt)
theorem FU:wf (vs s S l).st (.ref 6)=some s.rows.length:=congrArg some gP
theorem IH:fw C [some (WV 2 c),some (.ref 6),some (.ref 11),some (.int p),x,y,z] IF (vs s S l).st=bv (decide (p<s.rows.length)) (vs s S l).st:=by
 simp only [aD,bh,aX,bp,bq,bf,am,al,ae,ac,ao,ak,aj,aC,ad,aA,aw,aB,aF,aJ,aV,aW,aY,ba,a_,bc,bj,bl,bg,bi,aR,bR,bN,bF,bG,bI,bO,bS,bT,bU,bP,aN,aM,q_nil,q_cons,aH,aQ,aq,aP,aL,aS,ai,ax,aa,aO,ay,an,aT,bn,af,ag,az,bb,aZ,bQ,aG,aK,aE,av,ah,aU,aI,FU,CL]
theorem mJ{n:Nat}{op:Str}{a b:V}(hz:s.rows.length≤4000)(hr:s.rows[p]?=some (op,a,b)):Ek d (n+1) [some (WV 2 c),some (.ref 6),some (.ref 11),some (.int p),x,y,z] (vs s S l).st =
  fk (EP d) 5000 (bif CK op then GU else GV) (Ek d n) (HP d) [some (WV 2 c),some (.ref 6),some (.ref 11),some (.int (p+1:Nat)),some (.str op),some a,some b] (vs s S l).st:=by
 have hp:=(List.getElem?_eq_some_iff.mp hr).1
 unfold Ek
 simp only [gN,IH,decide_eq_true hp,aD,bb,IG,rv]
 have s1:ed [V.str "jump",.str "jump_true",.str "jump_false"]=some [("jump":Str),"jump_true","jump_false"]:=rfl
 simp only [aD,bh,aX,bp,bq,bf,am,al,ae,ac,ao,ak,aj,aC,ad,aA,aw,aB,aF,aJ,aV,aW,aY,ba,a_,bc,bj,bl,bg,bi,aR,bR,bN,bF,bG,bI,bO,bS,bT,bU,bP,aN,aM,q_nil,q_cons,aH,aQ,aq,aP,aL,aS,ai,ax,aa,aO,ay,an,aT,bn,af,ag,az,bb,aZ,bQ,aG,aK,aE,av,ah,aU,aI,mH (show p<1000000 by lia) HN,qw hr]
 rw [show hG (op,a,b)=.tup [.str op,a,b] from rfl,uz (ρ':=[some (WV 2 c),some (.ref 6),some (.ref 11),some (.int p),some (.str op),some a,some b]) rfl]
 simp only [aD,bh,aX,bp,bq,bf,am,al,ae,ac,ao,ak,aj,aC,ad,aA,aw,aB,aF,aJ,aV,aW,aY,ba,a_,bc,bj,bl,bg,bi,aR,bR,bN,bF,bG,bI,bO,bS,bT,bU,bP,aN,aM,q_nil,q_cons,aH,aQ,aq,aP,aL,aS,ai,ax,aa,aO,ay,an,aT,bn,af,ag,az,bb,aZ,bQ,aG,aK,aE,av,ah,aU,aI,uC (cO (show (-1000000:Int)<(p:Int)∧(p:Int)<1000000 by lia)) (mf (show (-3:Int)≤1∧(1:Int)≤3 by lia)),pI s1]
 rfl
theorem El(hp:p=s.rows.length):VF d c s p S l (.ok S l):=by
 intro _ _ n x y z hn
 obtain ⟨n,rfl⟩:∃ m,n=m+1:=⟨n-1,by lia⟩
 refine (?_:Ek _ _ _ _=_)
 unfold Ek
 rw [gN,IH,decide_eq_false (by lia),aD,aZ,HP]
 simp only [aD,bh,aX,bp,bq,bf,am,al,ae,ac,ao,ak,aj,aC,ad,aA,aw,aB,aF,aJ,aV,aW,aY,ba,a_,bc,bj,bl,bg,bi,aR,bR,bN,bF,bG,bI,bO,bS,bT,bU,bP,aN,aM,q_nil,q_cons,aH,aQ,aq,aP,aL,aS,ai,ax,aa,aO,ay,an,aT,bn,af,ag,az,bb,aZ,bQ,aG,aK,aE,av,ah,aU,aI]
theorem BM{σ σ' σ'':St}{e x:PE}{n:Nat}{l:List V}{v:V}(h1:ev C ρ e σ=bv (.ref n) σ')(h2:σ'[n]?=some (.list l))(h3:ev C ρ x σ'=uy v σ''):ev C ρ (.append e x) σ=uy v σ'':=by
 refine (?_:(ev C ρ e σ).bind _=_)
 rw [h1]
 refine (?_:(lift (lstAt σ' (.ref n)) σ').bind _=_)
 rw [pC h2]
 refine (?_:(ev C ρ x σ').bind _=_)
 rw [h3];rfl
theorem Em{r:jN}{f:EM Str}(hz:s.rows.length≤4000)(hr:s.rows[p]?=some r)(R:hU d c s r A f)(hj:CK r.1=false)(hpp:decide (r.1="pop")=false)(ha:plain r.2.1=true)(hb:plain r.2.2=true)
  (hg:∀ v l',f l=.ok v l'→l'.length≤l.length+1) (h:jU (f l) res fun v l'=>VF d c s (p+1) (T++[v]) l' res):VF d c s p (T++A) l res:=by
 intro hl hT n x y z hn
 have hp:=(List.getElem?_eq_some_iff.mp hr).1
 obtain ⟨n,rfl⟩:∃ m,n=m+1:=⟨n-1,by lia⟩
 obtain ⟨op,a,b⟩:=r
 have R':=R T l (by lia)
 simp only [mJ hz hr,hj,aZ,GV]
 simp only [aD,bh,aX,bp,bq,bf,am,al,ae,ac,ao,ak,aj,aC,ad,aA,aw,aB,aF,aJ,aV,aW,aY,ba,a_,bc,bj,bl,bg,bi,aR,bR,bN,bF,bG,bI,bO,bS,bT,bU,bP,aN,aM,q_nil,q_cons,aH,aQ,aq,aP,aL,aS,ai,ax,aa,aO,ay,an,aT,bn,af,ag,az,bb,aZ,bQ,aG,aK,aE,av,ah,aU,aI,bu,hpp]
 have e1:∀ σ,ev (EP d) [some (WV 2 c),some (.ref 6),some (.ref 11),some (.int (p+1:Nat)),some (.str op),some a,some b] (.call 57 [.loc 0,.loc 2,.tup [.loc 4,.loc 5,.loc 6]]) σ=EP d 57 [WV 2 c,.ref 11,.tup [.str op,a,b]] σ:=fun σ=>by simp only [aD,bh,aX,bp,bq,bf,am,al,ae,ac,ao,ak,aj,aC,ad,aA,aw,aB,aF,aJ,aV,aW,aY,ba,a_,bc,bj,bl,bg,bi,aR,bR,bN,bF,bG,bI,bO,bS,bT,bU,bP,aN,aM,q_nil,q_cons,aH,aQ,aq,aP,aL,aS,ai,ax,aa,aO,ay,an,aT,bn,af,ag,az,bb,aZ,bQ,aG,aK,aE,av,ah,aU,aI,aV ef,bc ha,bj hb]
 rw [List.length_append] at hT
 cases hf:f l with
 | ok v l'=>
  rw [hf] at h R'
  simp only [qy (n:=11) (σ':=(vs s (T++A) l).st) (σ'':=(vs s T l').st) (v:=.str v) (aY aj) vO ((e1 _).trans R') vO (e_ (by rw [hH];lia)),aD,show cT T++[.str v]=cT (T++[v]) from (pA (m:=[v])).symm,Ei]
  exact h (by have:=hg v l' hf;lia) (by rw [List.length_append];simp only [List.length_cons,List.length_nil];lia) n _ _ _ (by lia)
 | ex c x l'=>
  simp only [hf] at h R'
  simp only [BM (n:=11) (σ':=(vs s (T++A) l).st) (σ'':=(vs s T l').st) (v:=.exc (.int c) (.str x)) (aY aj) vO ((e1 _).trans R'),bh]
  rw [h]
  exact ⟨T,rfl⟩
theorem En{u:Str}{a b:V}(hz:s.rows.length≤4000)(hr:s.rows[p]?=some (("pop",a,b):jN))(h:VF d c s (p+1) S l res):VF d c s p (S++[u]) l res:=by
 intro hl hT n x y z hn
 have hp:=(List.getElem?_eq_some_iff.mp hr).1
 obtain ⟨n,rfl⟩:∃ m,n=m+1:=⟨n-1,by lia⟩
 rw [mJ hz hr,show CK "pop"=false by kernel_rfl,aZ,GV]
 simp only [aD,bh,aX,bp,bq,bf,am,al,ae,ac,ao,ak,aj,aC,ad,aA,aw,aB,aF,aJ,aV,aW,aY,ba,a_,bc,bj,bl,bg,bi,aR,bR,bN,bF,bG,bI,bO,bS,bT,bU,bP,aN,aM,q_nil,q_cons,aH,aQ,aq,aP,aL,aS,ai,ax,aa,aO,ay,an,aT,bn,af,ag,az,bb,aZ,bQ,aG,aK,aE,av,ah,aU,aI,bu,eq_self,decide_true]
 rw [ny (aY aj),aD]
 exact h (by lia) (by first | lia | (rw [List.length_append] at hT;lia)) n _ _ _ (by lia)
theorem vP{a m:Nat}{op:Str}{b:V}(h:p+1≤a∧a≤s.rows.length):fw C [some (WV 2 c),some (.ref 6),some (.ref 11),some (.int (p+1:Nat)),some (.str op),some (.int a),some b] (.not (.cmp2 .le .le (.loc 3) (.loc 5) (.len (.loc 1)))) (vs s S l).st=bv false (vs s S l).st:=by
 refine (?_:((ev C _ (.loc 3) (vs s S l).st).bind fun x σ=>(ev C _ (.loc 5) σ).bind fun y σ=>(lift (dG σ .le x y) σ).bind _).bind _=_)
 simp only [ba al,aD,bc al,aD,show ∀ σ,dG σ .le (.int (p+1:Nat)) (.int a)=some true from fun z9=>congrArg some (decide_eq_true (by lia)),aX,aD]
 refine (?_:((ev C _ (.len (.loc 1)) (vs s S l).st).bind fun y σ=>lift (dG σ .le (.int a) y) σ).bind _=_)
 simp only [aO,aW aj,aD,FU,bf,aX,aD,show ∀ σ,dG σ .le (.int a) (.int (s.rows.length:Nat))=some true from fun z9=>congrArg some (decide_eq_true (by lia))];rfl
theorem vQ{a:Nat}{b:V}(hz:s.rows.length≤4000)(hr:s.rows[p]?=some (("jump",.int a,b):jN))(ha:p+1≤a∧a≤s.rows.length)(h:VF d c s a S l res):VF d c s p S l res:=by
 intro hl hT n x y z hn
 obtain ⟨n,rfl⟩:∃ m,n=m+1:=⟨n-1,by lia⟩
 simp only [mJ hz hr,show CK "jump"=true by kernel_rfl,bb,GU,aI,vP (m:=0) ha]
 exact h (by lia) (by first | lia | (rw [List.length_append] at hT;lia)) n _ _ _ (by lia)
theorem zn{x y:Bool}:dG σ .eq (.bool x) (.bool y)=some (x == y):=rfl
theorem kw{u:Str}{b:Bool}(h:fN u l=.ok b l'):l'.length=l.length+1:=by
 unfold fN at h
 cases hb:BI u with
 | true=>rw [hb] at h;cases h
 | false=>rw [hb] at h;cases h;simp only [List.length_append];rfl
theorem vR{t:Bool}{u:Str}{a:Nat}{b:V}(hz:s.rows.length≤4000)(hr:s.rows[p]?=some ((if t then "jump_true" else "jump_false",.int a,b):jN))(ha:p+1≤a∧a≤s.rows.length)(hu:u.length≤1000)
  (h:jU (fN u l) res fun q l'=>VF d c s (if q=t then a else p+1) S l' res):VF d c s p (S++[u]) l res:=by
 intro hl hT n x y z hn
 obtain ⟨n,rfl⟩:∃ m,n=m+1:=⟨n-1,by lia⟩
 have j1:CK (if t then "jump_true" else "jump_false")=true:=by cases t<;>kernel_rfl
 have j2:decide ((if t=true then "jump_true" else "jump_false":Str)="jump")=false:=by cases t<;>decide +kernel
 have j3:decide ((if t=true then "jump_true" else "jump_false":Str)="jump_true")=t:=by cases t<;>decide +kernel
 rw [mJ hz hr,j1,bb,GU,aI,vP (m:=0) ha]
 have hq:=hO (w:=5000) (d:=d+2) (c:=c) (rD (s:=s) (S:=S)) hu (show l.length≤90000 by lia)
 simp only [aD,bh,aX,bp,bq,bf,am,al,ae,ac,ao,ak,aj,aC,ad,aA,aw,aB,aF,aJ,aV,aW,aY,ba,a_,bc,bj,bl,bg,bi,aR,bR,bN,bF,bG,bI,bO,bS,bT,bU,bP,aN,aM,q_nil,q_cons,aH,aQ,aq,aP,aL,aS,ai,ax,aa,aO,ay,an,aT,bn,af,ag,az,bb,aZ,bQ,aG,aK,aE,av,ah,aU,aI,aV ef,bu,j2,ny (aY aj),EP,hq,j3]
 cases hf:fN u l with
 | ok q l'=>
  simp only [hf] at h
  have hk:=kw hf
  replace h:VF d c s (if q=t then a else p+1) S l' res:=h
  simp only [show nX V.bool 2 (vs s S l).st (ER.ok q l')=bv (.bool q) (vs s S l').st from rfl]
  simp only [aD,bh,aX,bp,bq,bf,am,al,ae,ac,ao,ak,aj,aC,ad,aA,aw,aB,aF,aJ,aV,aW,aY,ba,a_,bc,bj,bl,bg,bi,aR,bR,bN,bF,bG,bI,bO,bS,bT,bU,bP,aN,aM,q_nil,q_cons,aH,aQ,aq,aP,aL,aS,ai,ax,aa,aO,ay,an,aT,bn,af,ag,az,bb,aZ,bQ,aG,aK,aE,av,ah,aU,aI,zn]
  by_cases e:q=t
  ·subst e
   rw [if_pos rfl] at h
   simp only [beq_self_eq_true,bb]
   exact h (by lia) (by first | lia | (rw [List.length_append] at hT;lia)) n _ _ _ (by lia)
  ·rw [if_neg e] at h
   simp only [beq_eq_false_iff_ne.mpr e,aZ]
   exact h (by lia) (by first | lia | (rw [List.length_append] at hT;lia)) n _ _ _ (by lia)
 | ex c x l'=>
  simp only [hf] at h
  rw [h]
  exact ⟨S,rfl⟩
end
end
end Mine.Internal.Q
end
section
open PySem
set_option genCtorIdx false
namespace Mine.Internal.Q
noncomputable section
inductive Pt where
 | txt (s:Str) | var (x:Str) | elt (a:Str) (i:Pt) | cmd (t:Str)
noncomputable def Pt.ctorIdx(x:Pt):Nat:=x.casesOn (fun z9=>0) (fun z9=>1) (fun z9 z9=>2) (fun z9=>3)
noncomputable def Pt.v:Pt→V
 | .txt s=>.tup [.str "text",.str s]
 | .var x=>.tup [.str "var",.str x,.none]
 | .elt a i=>.tup [.str "var",.str a,.tup [i.v]]
 | .cmd t=>.tup [.str "cmd",.str t]
noncomputable def Pt.pc:Pt→V
 | .txt s=>.tup [.str "t",.str s]
 | .var x=>.tup [.str "v",.str x]
 | .elt a i=>.none
 | .cmd t=>.tup [.str "c",.int 4]
noncomputable abbrev Wo:=List Pt
noncomputable def Wo.v(w:Wo):V:=.tup [.bool false,.tup (w.map Pt.v)]
noncomputable def Wo.pc(w:Wo):V:=.lst (w.map Pt.pc)
structure lT where
 words:List Wo
 a:Nat
 b:Nat
 next:Nat
noncomputable def lT.v(c:lT):V:=.tup [.tup (c.words.map Wo.v),.int c.a,.int c.b,.int c.next]
noncomputable def lT.pc(c:lT):V:=.lst (c.words.map Wo.pc)
structure uH where
 cmds:List lT
 err:Option Str
noncomputable def CM:Option Str→List V
 | none=>[]
 | some e=>[.str e]
noncomputable def uH.pc(s:uH):V:=.lst (s.cmds.map lT.pc++CM s.err)
noncomputable def j4:List (Str×uH):=[
 ("rec 0",⟨[⟨[[.txt "rec"],[.txt "0"]],0,5,5⟩],none⟩),
 ("rec $x",⟨[⟨[[.txt "rec"],[.var "x"]],0,6,6⟩],none⟩),
 ("rec 1; rec ${y}2",⟨[⟨[[.txt "rec"],[.txt "1"]],0,5,6⟩,⟨[[.txt "rec"],[.var "y",.txt "2"]],7,16,16⟩],none⟩),
 (" # none\n",⟨[],none⟩),
 ("rec [rec 3] $y",⟨[⟨[[.txt "rec"],[.cmd "rec 3"],[.var "y"]],0,14,14⟩],none⟩),
 ("rec 4;rec {",⟨[⟨[[.txt "rec"],[.txt "4"]],0,5,6⟩],some "missing close-brace"⟩),
 ("stop e$x",⟨[⟨[[.txt "stop"],[.txt "e",.var "x"]],0,8,8⟩],none⟩),
 ("rec 3",⟨[⟨[[.txt "rec"],[.txt "3"]],0,5,5⟩],none⟩)]
noncomputable def cX(n:Nat)(x:Str):Prop:=x.length≤n∧PyData.strOk x=true
noncomputable def gG(m:Nat)(l l':fS):Prop:=∃ t,l'=l++t∧t.length≤m∧∀ ws∈t,∀ x∈ws,PyData.strOk x=true
noncomputable def Fg{α:Type}(P:α→Prop)(m:Nat)(f:EM α):Prop:=∀ l,match f l with
 | .ok a l'=>P a∧gG m l l'
 | .ex c x l'=>PyData.strOk x=true∧gG m l l'
section
variable {α β:Type} {P:α→Prop} {Q:β→Prop} {m m' n:Nat} {f:EM α} {g:α→EM β} {l l' l'':fS}
theorem gG.rfl:gG m l l:=(ib_1_3 ([]) ((List.append_nil l).symm) (Nat.zero_le _) (fun z9 h=>nomatch h))
theorem gG.trans(h:gG m l l')(h':gG m' l' l''):gG (m+m') l l'':=by
 refine ob_1_3 h fun t hq58_1 a b=>?_
 subst hq58_1
 refine ob_1_3 h' fun t' hq59_1 a' b'=>?_
 subst hq59_1
 refine (ib_1_3 (t++t') (List.append_assoc ..) (by rw [List.length_append];lia) (fun ws hw=>?_))
 exact (List.mem_append.mp hw).elim (b ws) (b' ws)
theorem gG.mono(h:gG m l l')(hm:m≤m'):gG m' l l':=by
 refine ob_1_3 h fun t hq63_1 a b=>?_
 subst hq63_1
 exact (ib_1_3 t _root_.rfl (Nat.le_trans a hm) b)
theorem gG.len(h:gG m l l'):l'.length≤l.length+m:=by
 refine ob_1_3 h fun t hq66_1 a b=>?_
 subst hq66_1
 simp only [List.length_append];lia
theorem Fg.mono{P':α→Prop}(h:Fg P m f)(hm:m≤m')(hP:∀ a,P a→P' a):Fg P' m' f:=by
 intro l
 have:=h l
 cases e:f l with
 | ok a l'=>simp only [e] at this;exact ⟨hP a this.1,this.2.mono hm⟩
 | ex c x l'=>simp only [e] at this;exact ⟨this.1,this.2.mono hm⟩
theorem Fg.bind(h:Fg P m f)(h':∀ a,P a→Fg Q m' (g a)):Fg Q (m+m') (EM.bind f g):=by
 intro l
 have:=h l
 unfold EM.bind
 cases e:f l with
 | ok a l'=>
  simp only [e] at this
  have k:=h' a this.1 l'
  refine (?_:match g a l' with | .ok a l'=>_ | .ex c x l'=>_)
  cases e':g a l' with
  | ok b l''=>simp only [e'] at k;exact ⟨k.1,this.2.trans k.2⟩
  | ex c x l''=>simp only [e'] at k;exact ⟨k.1,this.2.trans k.2⟩
 | ex c x l'=>simp only [e] at this;exact ⟨this.1,this.2.mono (Nat.le_add_right ..)⟩
theorem Fg.pure{a:α}(h:P a):Fg P m (EM.pure a):=fun l=>⟨h,.rfl⟩
theorem Fg.ok{a:α}(h:Fg P m f)(e:f l=.ok a l'):P a∧gG m l l':=by
 have:=h l;rw [e] at this;exact this
theorem Fg.len{a:α}(h:Fg P m f)(e:f l=.ok a l'):l'.length≤l.length+m:=(h.ok e).2.len
theorem fo{n:Nat}{x:Str}(h:(Nat.ble x.length n&&PyData.strOk x)=true):cX n x:=by
 simp only [Bool.and_eq_true] at h;exact ⟨Nat.le_of_ble_eq_true h.1,h.2⟩
theorem cX.mono{n':Nat}{x:Str}(h:cX n x)(hn:n≤n'):cX n' x:=⟨Nat.le_trans h.1 hn,h.2⟩
theorem cX.app{n':Nat}{x y:Str}(h:cX n x)(h':cX n' y):cX (n+n') (x++y):=⟨by have:=h.1;have:=h'.1;rw [ez];lia,lE h.2 h'.2⟩
theorem gG.one{ws:List Str}(h:∀ x∈ws,PyData.strOk x=true):gG 1 l (l++[ws]):=⟨[ws],_root_.rfl,Nat.le_refl _,fun w hw=>by
 simp only [List.mem_singleton] at hw;subst hw;exact h⟩
theorem w6:∀ n,cX 3 (pF n):=by
 intro n
 by_cases h:n<7
 ·have:∀ n<7,(Nat.ble (pF n).length 3&&PyData.strOk (pF n))=true:=by decide +kernel
  exact fo (this n h)
 ·have:pF n="":=by
   unfold pF
   rw [List.getElem?_eq_none (by simp only [List.length_cons,List.length_nil];lia)];rfl
  simp only [this]
  exact fo (by decide +kernel)
theorem kx{ws:List Str}(h:∀ x∈ws,kN x)(hl:ws.length≤100):Fg (cX 3) 1 (gv ws):=by
 intro l
 have hb:=qz _ (mh h)
 have hf:=pG h
 have ht:mI ws<10 ^ 20:=by unfold mI;lia
 unfold gv
 by_cases q:mI ws % 17=3
 ·rw [if_pos q]
  exact ⟨lE (by decide +kernel) (rB (by decide) ht).2,.one fun x hx=>(h x hx).2⟩
 ·rw [if_neg q]
  exact ⟨w6 _,.one fun x hx=>(h x hx).2⟩
structure dF (bk:List (Str×V)):Prop where
 ok:∀ x v,look x bk=some v→∃ s,v=.str s∧cX 5 s
theorem dF.bk{bk:List (Str×V)}(h:dF bk):pH bk:=⟨fun x v e=>by
 refine ob_1_2 (h.ok x v e) fun s hq122_1 hs=>?_
 subst hq122_1
 exact (ib_1_2 s rfl (hs.mono (by decide)))⟩
theorem mK{bk:List (Str×V)}{x:Str}(h:dF bk)(hx:PyData.strOk x=true):Fg (cX 5) 0 (gF bk x):=by
 intro l
 unfold gF
 refine fH (look x bk) (fun e=>?_) fun v e=>?_
 ·simp only [e];exact ⟨lE (by decide +kernel) hx,.rfl⟩
 ·rw [e];skip
  refine ob_1_2 (h.ok x v e) fun s hq130_1 hs=>?_
  subst hq130_1
  exact ⟨hs,.rfl⟩
theorem pJ{x:Str}(hx:PyData.strOk x=true):Fg (fun z9=>True) 1 (fN x):=by
 intro l
 have hl:gG 1 l (l++[[("truth":Str),x]]):=.one fun y hy=>by
  refine Or.elim (List.mem_cons.mp hy) (fun ho138_0=>?_) fun hy=>?_
  ·subst ho138_0
   decide +kernel
  ·rw [List.mem_singleton.mp hy];exact hx
 unfold fN
 cases BI x with
 | true=>exact ⟨lE (by decide +kernel) hx,hl⟩
 | false=>exact ⟨trivial,hl⟩
theorem rH{c:Int}{ws:List Str}(h:∀ x∈ws,kN x)(hl:ws.length≤100):Fg (cX 3) 1 (qB c ws):=by
 refine Fg.bind (m:=1) (m':=0) (kx h hl) fun v hv=>?_
 by_cases q:ws.head?=some ("stop":Str)
 ·rw [if_pos q];exact fun l=>⟨hv.2,.rfl⟩
 ·rw [if_neg q];exact .pure hv
end
noncomputable def mM(bk:List (Str×V))(run:Str→EM Str):Pt→EM Str
 | .txt s=>EM.pure s
 | .var x=>gF bk x
 | .elt a i=>EM.bind (mM bk run i) fun v=>gF bk (a++"("++v++")")
 | .cmd t=>run t
noncomputable def eg{α β:Type}(f:α→EM β):List α→EM (List β)
 | []=>EM.pure []
 | p::r=>EM.bind (f p) fun v=>EM.bind (eg f r) fun vs=>EM.pure (v::vs)
noncomputable def fj(bk:List (Str×V))(run:Str→EM Str)(w:Wo):EM Str:=EM.bind (eg (mM bk run) w) fun vs=>EM.pure (kt vs)
noncomputable def s_(bk:List (Str×V))(c:Int)(run:Str→EM Str)(m:lT):EM Str:=EM.bind (eg (fj bk run) m.words) (qB c)
noncomputable def nP(bk:List (Str×V))(c:Int)(run:Str→EM Str)(err:Option Str):Str→List lT→EM Str
 | v,[]=>(match err with | none=>EM.pure v | some e=>fun l=>.ex 1 e l)
 | _,m::r=>EM.bind (s_ bk c run m) fun v=>nP bk c run err v r
noncomputable def p7(bk:List (Str×V))(c:Int)(run:Str→EM Str)(s:uH):EM Str:=nP bk c run s.err "" s.cmds
noncomputable def ta:uH:=⟨[],none⟩
noncomputable def p8(bk:List (Str×V))(c:Int)(t:Str):EM Str:=p7 bk c (fun z9=>EM.pure "") ((bE t j4).getD ta)
noncomputable def mi(bk:List (Str×V))(c:Int)(t:Str):EM Str:=p7 bk c (p8 bk c) ((bE t j4).getD ta)
end
end Mine.Internal.Q
end
section
open PySem
namespace Mine.Internal.Q
noncomputable section
noncomputable def f_{α γ:Type}(k:Nat)(σ:St)(r:ER α)(F:α→fS→cR γ):cR γ:=match r with
 | .ok a l=>F a l
 | .ex c x l=>uy (.exc (.int c) (.str x)) (lg k σ l)
section
variable {C:CF} {w d k:Nat} {s:SS} {v:V} {l l':fS} {ρ:ck} {K B:KK} {σ σ':St} {bk:List (Str×V)} {c:Int} {run:Str→EM Str} {α β γ δ:Type}
theorem cj{g:α→V}{r:ER α}{F:V→St→cR γ}:(nX g k σ r).bind F=f_ k σ r fun a l=>F (g a) (lg k σ l):=by
 cases r<;>rfl
theorem gb{g:α→V}{r:ER α}:nX g k σ r=f_ k σ r fun a l=>bv (g a) (lg k σ l):=by
 cases r<;>rfl
theorem dJ{r:ER α}{F:α→fS→cR γ}{G:γ→St→cR δ}:(f_ k σ r F).bind G=f_ k σ r fun a l=>(F a l).bind G:=by
 cases r<;>rfl
theorem bX{m:EM α}{f:α→EM β}{F:β→fS→cR γ}:f_ k σ (EM.bind m f l) F=f_ k σ (m l) fun a l'=>f_ k σ (f a l') F:=by
 unfold EM.bind
 cases m l<;>rfl
theorem gT{a:α}{F:α→fS→cR γ}:f_ k σ (EM.pure a l) F=F a l:=rfl
theorem fc{r:ER α}{F:α→fS→cR γ}:f_ k (lg k σ l) r F=f_ k σ r F:=by
 cases r with
 | ok=>rfl
 | ex c x l'=>exact congrArg (uy _) fZ
theorem bx{r:ER α}{F G:α→fS→cR γ}(h:∀ a l',r=.ok a l'→F a l'=G a l'):f_ k σ r F=f_ k σ r G:=by
 cases r with
 | ok a l=>exact h a l rfl
 | ex=>rfl
theorem qE{x:Str}:("":Str)++x=x:=by
 have e0:("":Str)=⟨#[]⟩:=by decide +kernel
 rw [e0];exact congrArg Str.mk (Array.empty_append)
theorem qF{x y z:Str}:x++y++z=x++(y++z):=congrArg Str.mk (Array.append_assoc ..)
theorem mj{x:Str}:x++("":Str)=x:=by
 have e0:("":Str)=⟨#[]⟩:=by decide +kernel
 rw [e0];exact congrArg Str.mk (Array.append_empty)
noncomputable def Pc:Pt→Prop
 | .txt s=>cX 10 s
 | .var x=>cX 10 x
 | .cmd t=>t="rec 3"
 | .elt ..=>False
noncomputable def ll(C:CF)(k:Nat)(c:Int)(bk:List (Str×V))(run:Str→EM Str)(m:Nat)(t:Str):Prop:=Fg (cX 5) m (run t)∧∀ σ l,Wd k bk l σ→l.length+m≤90000→C 51 [WV k c,.str t] σ=kL k σ (run t l)
noncomputable def qG:Pt→Nat
 | .cmd _=>1
 | _=>0
noncomputable def FV:List PS:=[.ifs (.cmp .eq (.loc 3) (.str "t")) [.asg 2 (.bin .add (.loc 2) (.loc 4))] [.ifs (.cmp .eq (.loc 3) (.str "v")) [.asg 2 (.bin .add (.loc 2) (.call 47 [.loc 0,.loc 4]))] [.asg 2 (.bin .add (.loc 2) (.call 51 [.loc 0,.str "rec 3"]))]]]
theorem w7{v0:Option V}(Bk:dF bk)(hK:∀ kL x y σ,K [some (WV k c),v0,some (.str kL),x,y] σ=bv (V.str kL) σ):∀ (ps:List Pt) (o:Str) (l:fS) (σ:St) (x y:Option V),(∀ p∈ps,Pc p)→(∀ t,Pt.cmd t∈ps→ll (au PL 5000 (d+1)) k c bk run 1 t)→Wd k bk l σ→l.length+(ps.map qG).sum≤90000→o.length+10*ps.length≤1000→
  FT (au PL 5000 (d+1)) 5000 [3,4] FV (ps.map Pt.pc) K B [some (WV k c),v0,some (.str o),x,y] σ=f_ k σ (eg (mM bk run) ps l) fun vs l'=>bv (V.str (o++kt vs)) (lg k σ l'):=by
 intro ps
 induction ps with
 | nil=>
  intro o l σ x y _ _ W _ _
  simp only [List.map_nil,Ed,hK]
  refine (?_:_=bv (V.str (o++"")) (lg k σ l))
  simp only [mj,W.self]
 | cons p r ih=>
  intro o l σ x y hp hrun W hl ho
  simp only [List.map_cons,List.sum_cons] at hl
  simp only [List.length_cons] at ho
  have hrun':∀ t,Pt.cmd t∈r→ll (au PL 5000 (d+1)) k c bk run 1 t:=fun t ht=>hrun t (.tail _ ht)
  have hp':∀ p∈r,Pc p:=fun q hq=>hp q (.tail _ hq)
  unfold eg
  rw [bX]
  have done:∀ v l',v.length≤10→l'.length≤l.length+qG p→∀ x y,FT (au PL 5000 (d+1)) 5000 [3,4] FV (r.map Pt.pc) K B [some (WV k c),v0,some (.str (o++v)),x,y] (lg k σ l')=f_ k σ (EM.bind (eg (mM bk run) r) (fun vs=>EM.pure (v::vs)) l') fun vs l'=>bv (V.str (o++kt vs)) (lg k σ l'):=by
   intro v l' hv hl' x y
   simp only [ih (o++v) l' (lg k σ l') x y hp' hrun' W.set (by lia) (by rw [ez];lia),bX,fc]
   refine bx fun vs l'' z9=>?_
   simp only [gT,fZ]
   refine (?_:bv (V.str (o++v++kt vs)) _=bv (V.str (o++(v++kt vs))) _)
   simp only [qF]
  cases p with
  | txt s=>
   have hs:cX 10 s:=hp _ (.head _)
   have:=hs.1
   rw [List.map_cons,show Pt.pc (.txt s)=.tup [.str "t",.str s] from rfl,oi (ρ':=[some (WV k c),v0,some (.str o),some (.str "t"),some (.str s)]) rfl,FV]
   simp only [aD,bh,aX,bp,bq,bf,am,al,ae,ac,ao,ak,aj,aC,ad,aA,aw,aB,aF,aJ,aV,aW,aY,ba,a_,bc,bj,bl,bg,bi,aR,bR,bN,bF,bG,bI,bO,bS,bT,bU,bP,aN,aM,q_nil,q_cons,aH,aQ,aq,aP,aL,aS,ai,ax,aa,aO,ay,an,aT,bn,af,ag,az,bb,aZ,bQ,aG,aK,aE,av,ah,aU,aI,bu,eq_self,decide_true,dA (show o.length+s.length≤100000 by lia)]
   have h2:=done s l (by lia) (by lia) (some (.str "t")) (some (.str s))
   simp only [W.self] at h2
   exact h2
  | var u=>
   have hu:cX 10 u:=hp _ (.head _)
   have:=hu.1
   rw [List.map_cons,show Pt.pc (.var u)=.tup [.str "v",.str u] from rfl,oi (ρ':=[some (WV k c),v0,some (.str o),some (.str "v"),some (.str u)]) rfl,FV]
   simp only [aD,bh,aX,bp,bq,bf,am,al,ae,ac,ao,ak,aj,aC,ad,aA,aw,aB,aF,aJ,aV,aW,aY,ba,a_,bc,bj,bl,bg,bi,aR,bR,bN,bF,bG,bI,bO,bS,bT,bU,bP,aN,aM,q_nil,q_cons,aH,aQ,aq,aP,aL,aS,ai,ax,aa,aO,ay,an,aT,bn,af,ag,az,bb,aZ,bQ,aG,aK,aE,av,ah,aU,aI,aV ef,bu,show decide (("v":Str)="t")=false by decide +kernel,eq_self,decide_true,gQ W Bk.bk (show u.length≤1000 by lia),k_,cj,dJ]
   refine bx fun v l' e=>?_
   have hf:=(mK Bk hu.2).ok e
   have:=hf.1.1
   have:=hf.2.len
   simp only [aD,bh,aX,bp,bq,bf,am,al,ae,ac,ao,ak,aj,aC,ad,aA,aw,aB,aF,aJ,aV,aW,aY,ba,a_,bc,bj,bl,bg,bi,aR,bR,bN,bF,bG,bI,bO,bS,bT,bU,bP,aN,aM,q_nil,q_cons,aH,aQ,aq,aP,aL,aS,ai,ax,aa,aO,ay,an,aT,bn,af,ag,az,bb,aZ,bQ,aG,aK,aE,av,ah,aU,aI,dA (show o.length+v.length≤100000 by lia)]
   exact done v l' (by lia) (by lia) _ _
  | elt a i=>exact (hp _ (.head _)).elim
  | cmd t=>
   obtain rfl:t="rec 3":=hp _ (.head _)
   have hrun:=hrun _ (.head _)
   have hc:qG (.cmd "rec 3")=1:=rfl
   rw [List.map_cons,show Pt.pc (.cmd "rec 3")=.tup [.str "c",.int 4] from rfl,oi (ρ':=[some (WV k c),v0,some (.str o),some (.str "c"),some (.int 4)]) rfl,FV]
   simp only [aD,bh,aX,bp,bq,bf,am,al,ae,ac,ao,ak,aj,aC,ad,aA,aw,aB,aF,aJ,aV,aW,aY,ba,a_,bc,bj,bl,bg,bi,aR,bR,bN,bF,bG,bI,bO,bS,bT,bU,bP,aN,aM,q_nil,q_cons,aH,aQ,aq,aP,aL,aS,ai,ax,aa,aO,ay,an,aT,bn,af,ag,az,bb,aZ,bQ,aG,aK,aE,av,ah,aU,aI,aV ef,bu,show decide (("c":Str)="t")=false by decide +kernel,show decide (("c":Str)="v")=false by decide +kernel,hrun.2 σ l W (by rw [hc] at hl;lia),k_,cj,dJ]
   refine bx fun v l' e=>?_
   have hf:=hrun.1.ok e
   have:=hf.1.1
   have:=hf.2.len
   simp only [aD,bh,aX,bp,bq,bf,am,al,ae,ac,ao,ak,aj,aC,ad,aA,aw,aB,aF,aJ,aV,aW,aY,ba,a_,bc,bj,bl,bg,bi,aR,bR,bN,bF,bG,bI,bO,bS,bT,bU,bP,aN,aM,q_nil,q_cons,aH,aQ,aq,aP,aL,aS,ai,ax,aa,aO,ay,an,aT,bn,af,ag,az,bb,aZ,bQ,aG,aK,aE,av,ah,aU,aI,dA (show o.length+v.length≤100000 by lia)]
   exact done v l' (by lia) (by lia) _ _
theorem Jw:PL 50=some GM:=by kernel_rfl
theorem Jx{a b:V}:cS GM [a,b]=some [some a,some b,none,none,none]:=rfl
theorem Eo{kL:Str}{x0 x1:Option V}{r:ck}:fk C w [.ret (.loc 2)] K0 B0 (x0::x1::some (.str kL)::r) σ=bv (V.str kL) σ:=by simp only [aD,bh,aX,bp,bq,bf,am,al,ae,ac,ao,ak,aj,aC,ad,aA,aw,aB,aF,aJ,aV,aW,aY,ba,a_,bc,bj,bl,bg,bi,aR,bR,bN,bF,bG,bI,bO,bS,bT,bU,bP,aN,aM,q_nil,q_cons,aH,aQ,aq,aP,aL,aS,ai,ax,aa,aO,ay,an,aT,bn,af,ag,az,bb,aZ,bQ,aG,aK,aE,av,ah,aU,aI]
theorem w8{ps:List Pt}(Bk:dF bk)(hp:∀ p∈ps,Pc p)(hrun:∀ t,Pt.cmd t∈ps→ll (au PL 5000 (d+1)) k c bk run 1 t)(W:Wd k bk l σ)(hl:l.length+(ps.map qG).sum≤90000)(hn:ps.length≤90):au PL 5000 (d+2) 50 [WV k c,Wo.pc ps] σ=kL k σ (fj bk run ps l):=by
 simp only [bo Jw Jx,GM,aE,aJ,aD,bF,yV (v:=Wo.pc ps) (l:=ps.map Pt.pc) (aW (v:=Wo.pc ps) rfl) rfl rfl]
 have l0:("":Str).length=0:=by decide +kernel
 refine (w7 Bk (fun z9 z9 z9 z9=>Eo) ps "" l σ none none hp hrun W hl (by lia)).trans ?_
 unfold fj kL
 simp only [gb,bX]
 refine bx fun vs l' z9=>?_
 simp only [gT,qE]
theorem fp{β:Type}{f:α→EM β}{P:β→Prop}{ms:α→Nat}:∀ {as:List α},(∀ a∈as,Fg P (ms a) (f a))→Fg (fun vs=>vs.length=as.length∧∀ v∈vs,P v) ((as.map ms).sum) (eg f as):=by
 intro as
 induction as with
 | nil=>intro _;exact .pure ⟨rfl,fun z9 h=>nomatch h⟩
 | cons a r ih=>
  intro h
  refine (h a (.head _)).bind fun v hv=>?_
  exact ((ih fun a ha=>h a (.tail _ ha)).bind (m':=0) fun vs hvs=>.pure ⟨by simp only [List.length_cons,List.length_cons,hvs.1],fun x hx=>by
   refine Or.elim (List.mem_cons.mp hx) (fun ho129_0=>?_) fun hx=>?_
   ·subst ho129_0
    exact hv
   ·exact hvs.2 x hx⟩)
theorem nz{elt src:PE}{v:V}{vs:List V}(h:ev C ρ src σ=bv v σ)(h2:dH σ v=some vs)(h3:nS σ v=dH σ v)(h4:isRef v=false):ev C ρ (.comp elt src (.bool true)) σ=(gK (fun v σ=>ev C (ρ++[some v]) elt σ) vs σ).bind fun vs σ=>bv (V.lst vs) σ:=by
 refine (?_:(ev C ρ src σ).bind _=_)
 simp only [h]
 refine (?_:((nS σ v).bind fun l=>if (!isRef v || gW elt&&kQ (.bool true))=true then (gI (fun v σ=>bv true σ) (fun v σ=>ev C (ρ++[some v]) elt σ) l σ).bind fun vs σ=>bv (V.lst vs) σ else none)=_)
 simp only [h3,h2]
 have hm:∀ (f:V→St→cR V) (l:List V) σ,gI (fun v σ=>bv true σ) f l σ=gK f l σ:=by
  intro f l
  induction l with
  | nil=>intro σ;rfl
  | cons v r ih=>
   intro σ
   refine (?_:(f v σ).bind _=(f v σ).bind _)
   exact congrArg _ (funext fun x=>funext fun σ=>by rw [ih])
 exact (if_pos (by rw [h4];rfl)).trans (congrArg (fun x=>cR.bind x _) (hm _ _ _))
theorem Ep{elt:PE}{g:α→V}{f:α→EM Str}{P:Str→Prop}{ms:α→Nat}:∀ (as:List α) (l:fS) (σ:St),(∀ a∈as,Fg P (ms a) (f a)∧∀ l σ,Wd k bk l σ→l.length+ms a≤90000→ev C (ρ++[some (g a)]) elt σ=kL k σ (f a l))→Wd k bk l σ→l.length+(as.map ms).sum≤90000→
  gK (fun v σ=>ev C (ρ++[some v]) elt σ) (as.map g) σ=f_ k σ (eg f as l) fun vs l'=>bv (cT vs) (lg k σ l'):=by
 intro as
 induction as with
 | nil=>
  intro l σ _ W _
  refine (?_:bv [] σ=bv [] (lg k σ l))
  rw [W.self]
 | cons a r ih=>
  intro l σ h W hl
  simp only [List.map_cons,List.sum_cons] at hl
  refine bC (h a (.head _)) fun h1 h2=>?_
  unfold eg
  refine (?_:(ev C (ρ++[some (g a)]) elt σ).bind _=_)
  simp only [h2 l σ W (by lia),cj,bX]
  refine bx fun v l' e=>?_
  have:=h1.len e
  simp only [ih l' (lg k σ l') (fun a ha=>h a (.tail _ ha)) W.set (by lia),fc,dJ,bX]
  refine bx fun vs l'' z9=>?_
  simp only [aD,gT,fZ];rfl
theorem vS{n:Nat}:∀ {vs:List Str},(∀ v∈vs,cX n v)→cX (n*vs.length) (kt vs):=by
 intro vs
 induction vs with
 | nil=>intro _;exact fo (by rw [show n*([]:List Str).length=0 from Nat.mul_zero n];decide +kernel)
 | cons x r ih=>
  intro h
  simp only [List.length_cons,Nat.mul_succ,Nat.add_comm]
  exact (h x (.head _)).app (ih fun v hv=>h v (.tail _ hv))
end
end
end Mine.Internal.Q
end
section
open PySem
set_option genCtorIdx false
namespace Mine.Internal.Q
noncomputable section
noncomputable def nQ(w:Wo):Nat:=(w.map qG).sum
noncomputable def vU(m:lT):Nat:=(m.words.map nQ).sum+1
noncomputable def mO(s:List lT):Nat:=(s.map vU).sum
structure tc (m:lT):Prop where
 neq:∀ σ,dG σ .eq m.pc (.str "missing close-brace")=some false
 ne:m.words≠[]
 le:m.words.length≤3
 ws:∀ w∈m.words,w.length≤2∧∀ p∈w,Pc p
noncomputable def HQ:List PS:=[.ifs (.cmp .eq (.loc 3) (.str "missing close-brace")) [.raise (.raised [.int 1,.loc 3])] [],.asg 2 (.call 49 [.loc 0,.comp (.call 50 [.loc 0,.loc 4]) (.loc 3) (.bool true)])]
section
variable {C:CF} {w d k:Nat} {s:SS} {v:V} {l l':fS} {ρ:ck} {K B:KK} {σ σ':St} {bk:List (Str×V)} {c:Int} {run:Str→EM Str} {α β γ δ:Type}
theorem zo{p:Pt}(Bk:dF bk)(hp:Pc p)(hrun:∀ t,p=.cmd t→Fg (cX 5) 1 (run t)):Fg (cX 10) (qG p) (mM bk run p):=by
 cases p with
 | txt s=>exact .pure hp
 | var x=>exact (mK Bk hp.2).mono (Nat.le_refl _) fun z9 h=>h.mono (by decide)
 | elt a i=>exact hp.elim
 | cmd t=>exact (hrun t rfl).mono (Nat.le_refl _) fun z9 h=>h.mono (by decide)
theorem mP{w:Wo}(Bk:dF bk)(hl:w.length≤2)(hp:∀ p∈w,Pc p)(hrun:∀ t,Pt.cmd t∈w→Fg (cX 5) 1 (run t)):Fg (cX 20) (nQ w) (fj bk run w):=by
 refine (fp fun p hm=>zo Bk (hp p hm) fun t e=>hrun t (e▸hm)).bind (m':=0) fun vs hvs=>.pure ?_
 exact (vS hvs.2).mono (by rw [hvs.1];lia)
theorem BN{m:lT}(Bk:dF bk)(hm:tc m)(hrun:∀ t,(∃ w∈m.words,Pt.cmd t∈w)→Fg (cX 5) 1 (run t)):Fg (cX 3) (vU m) (s_ bk c run m):=by
 refine (fp (P:=cX 20) (ms:=nQ) fun w hw=>mP Bk (hm.ws w hw).1 (hm.ws w hw).2 fun t ht=>hrun t ⟨w,hw,ht⟩).bind fun vs hvs=>?_
 exact rH (fun x hx=>(hvs.2 x hx).mono (by decide)) (by have:=hm.le;lia)
theorem zp{err:Option Str}(Bk:dF bk)(he:∀ e,err=some e→PyData.strOk e=true):∀ {ms:List lT} {v:Str},cX 5 v→(∀ m∈ms,tc m∧∀ t,(∃ w∈m.words,Pt.cmd t∈w)→Fg (cX 5) 1 (run t))→Fg (cX 5) (mO ms) (nP bk c run err v ms):=by
 intro ms
 induction ms with
 | nil=>
  intro v hv _
  cases err with
  | none=>exact .pure hv
  | some e=>exact fun l=>⟨he e rfl,.rfl⟩
 | cons m r ih=>
  intro v hv h
  unfold mO
  exact (BN Bk (h m (.head _)).1 (h m (.head _)).2).bind fun v hv=>ih (hv.mono (by decide)) fun m hm=>h m (.tail _ hm)
theorem zq{v0:Option V}{err:Option Str}(Bk:dF bk)(he:∀ e,err=some e→e="missing close-brace")(hK:∀ kL x σ,K [some (WV k c),v0,some (.str kL),x] σ=bv (V.str kL) σ):∀ (ms:List lT) (v:Str) (l:fS) (σ:St) (x:Option V),(∀ m∈ms,tc m∧∀ t,(∃ w∈m.words,Pt.cmd t∈w)→ll (au PL 5000 (d+1)) k c bk run 1 t)→Wd k bk l σ→l.length+mO ms≤90000→
  FL (au PL 5000 (d+2)) 5000 3 HQ (ms.map lT.pc++CM err) K B [some (WV k c),v0,some (.str v),x] σ=kL k σ (nP bk c run err v ms l):=by
 intro ms
 induction ms with
 | nil=>
  intro v l σ x _ W _
  cases err with
  | none=>
   refine (?_:FL _ _ _ _ [] _ _ _ _=_)
   simp only [rx,hK]
   refine (?_:_=bv _ (lg k σ l))
   simp only [W.self]
  | some e=>
   obtain rfl:=he e rfl
   refine (?_:FL _ _ _ _ [.str "missing close-brace"] _ _ _ _=_)
   simp only [gC,HQ]
   simp only [aD,bh,aX,bp,bq,bf,am,al,ae,ac,ao,ak,aj,aC,ad,aA,aw,aB,aF,aJ,aV,aW,aY,ba,a_,bc,bj,bl,bg,bi,aR,bR,bN,bF,bG,bI,bO,bS,bT,bU,bP,aN,aM,q_nil,q_cons,aH,aQ,aq,aP,aL,aS,ai,ax,aa,aO,ay,an,aT,bn,af,ag,az,bb,aZ,bQ,aG,aK,aE,av,ah,aU,aI,bu,eq_self,decide_true,kq]
   refine (?_:_=uy _ (lg k σ l))
   simp only [W.self]
 | cons m r ih=>
  intro v l σ x h W hl
  refine bC (h m (.head _)) fun hm hr=>?_
  unfold mO at hl
  simp only [List.map_cons,List.sum_cons] at hl
  have hcc:(m.words.map nQ).sum+1=vU m:=rfl
  simp only [List.map_cons,List.cons_append,gC,HQ]
  have hc:=nz (C:=au PL 5000 (d+2)) (ρ:=[some (WV k c),v0,some (.str v),some m.pc]) (σ:=σ) (elt:=.call 50 [.loc 0,.loc 4]) (src:=.loc 3) (v:=m.pc) (vs:=m.words.map Wo.pc) (ba (v:=m.pc) rfl) rfl rfl rfl
  rw [Ep (k:=k) (bk:=bk) (f:=fj bk run) (P:=cX 20) (ms:=nQ) m.words l σ (fun w hw=>⟨mP Bk (hm.ws w hw).1 (hm.ws w hw).2 fun t ht=>(hr t ⟨w,hw,ht⟩).1,fun l σ W hl=>by
   refine (?_:ev _ [_,_,_,_,_] _ _=_)
   exact w8 Bk (hm.ws w hw).2 (fun t ht=>hr t ⟨w,hw,ht⟩) W hl (by have:=(hm.ws w hw).1;lia)⟩) W (by lia),dJ] at hc
  simp only [aD,bh,aX,bp,bq,bf,am,al,ae,ac,ao,ak,aj,aC,ad,aA,aw,aB,aF,aJ,aV,aW,aY,ba,a_,bc,bj,bl,bg,bi,aR,bR,bN,bF,bG,bI,bO,bS,bT,bU,bP,aN,aM,q_nil,q_cons,aH,aQ,aq,aP,aL,aS,ai,ax,aa,aO,ay,an,aT,bn,af,ag,az,bb,aZ,bQ,aG,aK,aE,av,ah,aU,aI,aV ef,ba (show plain m.pc=true from rfl),hm.neq,hc,k_,cj,dJ]
  unfold nP s_ kL
  simp only [gb,bX,bX]
  refine bx fun vs l' e=>?_
  have hv:=(fp (P:=cX 20) (ms:=nQ) fun w hw=>mP Bk (hm.ws w hw).1 (hm.ws w hw).2 fun t ht=>(hr t (ib_1_2 w hw ht)).1).ok e
  have hlen:=hv.2.len
  have hne:∃ x,vs.head?=some x:=by
   cases vs with
   | nil=>exact absurd (List.length_eq_zero_iff.mp hv.1.1.symm) hm.ne
   | cons x r=>exact ⟨x,rfl⟩
  refine ob_1_1 hne fun x0 hx0=>?_
  have ho:∀ x∈vs,kN x:=fun x hx=>(hv.1.2 x hx).mono (by decide)
  have hvl:vs.length≤100:=by have:=hm.le;have:=hv.1.1;lia
  simp only [qD (W.set (l':=l')) hx0 ho hvl (by lia),cj,fc]
  refine bx fun u l'' e'=>?_
  have hu:=(rH ho hvl).ok e'
  have:=hu.2.len
  have hi:=ih u l'' (lg k σ l'') (some m.pc) (fun m hm=>h m (.tail _ hm)) W.set (by show _+(r.map vU).sum≤_;lia)
  simp only [fZ]
  refine hi.trans ?_
  rw [kL,BH,gb]
theorem Jy:PL 51=some GN:=by kernel_rfl
theorem Jz{a b:V}:cS GN [a,b]=some [some a,some b,none,none]:=rfl
structure zr (t:Str) (s:uH):Prop where
 src:∀ d σ W,ev (au PL 5000 (d+1)) [W,some (.str t),some (.str ""),none] (.sub (.comp (.sub (.loc 4) (.int 1)) (.call 40 []) (.cmp .eq (.sub (.loc 4) (.int 0)) (.loc 1))) (.int 0)) σ=bv s.pc σ
 err:∀ e,s.err=some e→e="missing close-brace"
 cmds:∀ m∈s.cmds,tc m
theorem uI:PyData.strOk "missing close-brace"=true:=by decide +kernel
theorem td{t:Str}{s:uH}(Bk:dF bk)(hs:zr t s)(hr:∀ m∈s.cmds,∀ t,(∃ w∈m.words,Pt.cmd t∈w)→ll (au PL 5000 (d+1)) k c bk run 1 t)(W:Wd k bk l σ)(hl:l.length+mO s.cmds≤90000):au PL 5000 (d+3) 51 [WV k c,.str t] σ=kL k σ (p7 bk c run s l):=by
 simp only [bo Jy Jz,GN,aE,aJ,aD,bF,pu (hs.src (d+1) σ _) rfl rfl]
 exact zq Bk hs.err (fun z9 z9 z9=>Eo) s.cmds "" l σ none (fun m hm=>⟨hs.cmds m hm,hr m hm⟩) W hl
theorem vV{t:Str}{s:uH}(Bk:dF bk)(hs:zr t s)(hr:∀ m∈s.cmds,∀ t,(∃ w∈m.words,Pt.cmd t∈w)→Fg (cX 5) 1 (run t)):Fg (cX 5) (mO s.cmds) (p7 bk c run s):=
 zp Bk (fun e he=>hs.err e he▸uI) (fo (by decide +kernel)) fun m hm=>⟨hs.cmds m hm,hr m hm⟩
end
end
end Mine.Internal.Q
end
section
open PySem
set_option genCtorIdx false
namespace Mine.Internal.Q
noncomputable section
noncomputable def II:Pt→Bool
 | .txt s=>Nat.ble s.length 10&&PyData.strOk s
 | .var s=>Nat.ble s.length 10&&PyData.strOk s
 | .cmd t=>decide (t="rec 3")
 | .elt ..=>false
noncomputable def FW(m:lT):Bool:=!m.words.isEmpty&&Nat.ble m.words.length 3&&m.words.all fun w=>Nat.ble w.length 2&&w.all II
theorem FY{p:Pt}(h:II p=true):Pc p:=by
 cases p with
 | txt s=>exact fo h
 | var s=>exact fo h
 | cmd t=>exact of_decide_eq_true (p:=t="rec 3") h
 | elt=>exact j9 h
theorem zt{m:lT}(h:FW m=true)(hn:∀ σ,dG σ .eq m.pc (.str "missing close-brace")=some false):tc m:=by
 unfold FW at h
 rw [Bool.and_eq_true,Bool.and_eq_true] at h
 refine bC h fun hq23_0 h3=>?_
 obtain ⟨h1,h2⟩:=hq23_0
 refine ⟨hn,fun e=>?_,Nat.le_of_ble_eq_true h2,fun w hw=>?_⟩
 ·rw [e] at h1;exact j9 h1
 ·have:=List.all_eq_true.mp h3 w hw
  simp only [Bool.and_eq_true] at this
  exact ⟨Nat.le_of_ble_eq_true this.1,fun p hp=>FY (List.all_eq_true.mp this.2 p hp)⟩
structure HR (t:Str) (s:uH):Prop where
 ok:zr t s
 lk:bE t j4=some s
 cost:mO s.cmds≤2
theorem lG:∀ x∈j4,HR x.1 x.2:=by
 unfold j4
 simp only [List.forall_mem_cons]
 refine ⟨?_,?_,?_,?_,?_,?_,?_,?_,fun z9 h=>nomatch h⟩ <;>
 ·refine ⟨⟨fun d σ W=>by kernel_rfl,?_,?_⟩,by kernel_rfl,by decide⟩
  ·intro e he
   first | (exact cq he;done) | (obtain rfl:=Option.some.inj he;rfl)
  ·simp only [List.forall_mem_cons]
   repeat' first | exact fun z9 h=>nomatch h | refine ⟨?_,?_⟩ | refine zt (by kernel_rfl) fun σ=>by kernel_rfl
section
variable {C:CF} {w d k:Nat} {s:SS} {v:V} {l l':fS} {ρ:ck} {K B:KK} {σ σ':St} {bk:List (Str×V)} {c:Int} {run:Str→EM Str} {α β γ δ:Type}
theorem rI:(("rec 3":Str),(⟨[⟨[[.txt "rec"],[.txt "3"]],0,5,5⟩],none⟩:uH))∈j4:=by
 repeat first | exact .head _ | refine .tail _ ?_
theorem zu(Bk:dF bk):ll (au PL 5000 (d+3)) k c bk (p8 bk c) 1 "rec 3":=by
 have F:=lG _ rI
 have e:p8 bk c "rec 3"=p7 bk c (fun z9=>EM.pure "") ⟨[⟨[[.txt "rec"],[.txt "3"]],0,5,5⟩],none⟩:=by
  unfold p8;rw [F.lk];rfl
 have no:∀ m∈[(⟨[[.txt "rec"],[.txt "3"]],0,5,5⟩:lT)],∀ t,¬ ∃ w∈m.words,Pt.cmd t∈w:=by
  intro m hm t ⟨w,hw,ht⟩
  simp only [List.mem_singleton] at hm;subst hm
  simp only [List.mem_cons,List.not_mem_nil,or_false] at hw
  rcases hw with rfl | rfl<;>(simp only [List.mem_singleton] at ht;cases ht)
 unfold ll
 exact ⟨vV Bk F.ok fun m hm t h=>(no m hm t h).elim,fun σ l W hl=>td Bk F.ok (fun m hm t h=>(no m hm t h).elim) W hl⟩
noncomputable def te(t:Str):Nat:=mO ((bE t j4).getD ta).cmds
theorem CN(Bk:dF bk){t:Str}{s:uH}(h:(t,s)∈j4):ll (au PL 5000 (d+5)) k c bk (mi bk c) (te t) t:=by
 have F:=lG _ h
 have e:mi bk c t=p7 bk c (p8 bk c) s:=by
  unfold mi;rw [F.lk];rfl
 have e2:te t=mO s.cmds:=by
  unfold te;rw [F.lk];rfl
 have hr:∀ m∈s.cmds,∀ t,(∃ w∈m.words,Pt.cmd t∈w)→ll (au PL 5000 (d+2+1)) k c bk (p8 bk c) 1 t:=by
  intro m hm t ⟨w,hw,ht⟩
  obtain rfl:t="rec 3":=((F.ok.cmds m hm).ws w hw).2 _ ht
  exact zu Bk
 unfold ll
 rw [e,e2]
 exact ⟨vV Bk F.ok fun m hm t h=>(hr m hm t h).1,fun σ l W hl=>td Bk F.ok hr W hl⟩
end
end
end Mine.Internal.Q
end
section
open PySem
namespace Mine.Internal.Q
noncomputable section
noncomputable def lm:Pt→Nat
 | .cmd t=>te t
 | .elt _ i=>lm i
 | _=>0
noncomputable def EQ:List PS:=[.ifs (.cmp .eq (.sub (.loc 3) (.int 0)) (.str "text")) [.asg 2 (.bin .add (.loc 2) (.sub (.loc 3) (.int 1)))] [.ifs (.cmp .eq (.sub (.loc 3) (.int 0)) (.str "cmd")) [.asg 2 (.bin .add (.loc 2) (.call 51 [.loc 0,.sub (.loc 3) (.int 1)]))] [.ifs (.cmp .is (.sub (.loc 3) (.int 2)) .none) [.asg 2 (.bin .add (.loc 2) (.call 47 [.loc 0,.sub (.loc 3) (.int 1)]))] [.asg 2 (.bin .add (.loc 2) (.call 47 [.loc 0,.bin .add (.bin .add (.bin .add (.sub (.loc 3) (.int 1)) (.str "(")) (.call 52 [.loc 0,.sub (.loc 3) (.int 2)])) (.str ")")]))]]]]
section
variable {C:CF} {w d k:Nat} {s:SS} {v:V} {l l':fS} {ρ:ck} {K B:KK} {σ σ':St} {bk:List (Str×V)} {c:Int} {run:Str→EM Str} {α β γ δ:Type}
noncomputable def pK(C:CF)(k:Nat)(c:Int)(bk:List (Str×V))(run:Str→EM Str):Pt→Prop
 | .txt s=>cX 10 s
 | .var x=>cX 10 x
 | .cmd t=>ll C k c bk run (te t) t
 | .elt a i=>cX 10 a∧Fg (cX 10) (lm i) (mM bk run i)∧∀ σ l,Wd k bk l σ→l.length+lm i≤90000→C 52 [WV k c,.tup [i.v]] σ=kL k σ (mM bk run i l)
theorem zv{a v:Str}(ha:cX 10 a)(hv:cX 10 v):cX 30 (a++"("++v++")"):=by
 have h1:cX 1 ("(":Str):=fo (by decide +kernel)
 have h2:cX 1 (")":Str):=fo (by decide +kernel)
 exact (((ha.app h1).app hv).app h2).mono (by decide)
theorem pK.fg{p:Pt}(Bk:dF bk)(h:pK C k c bk run p):Fg (cX 10) (lm p) (mM bk run p):=by
 cases p with
 | txt s=>exact .pure h
 | var x=>exact (mK Bk h.2).mono (Nat.le_refl _) fun z9 h=>h.mono (by decide)
 | cmd t=>exact h.1.mono (Nat.le_refl _) fun z9 h=>h.mono (by decide)
 | elt a i=>exact (h.2.1.bind (m':=0) fun v hv=>(mK Bk (zv h.1 hv).2).mono (Nat.le_refl _) fun z9 h=>h.mono (by decide))
theorem gx{a b:V}{r:List V}:eA σ (.tup (a::b::r)) (.int 1)=some b:=oj (n:=1) (by decide)
theorem fF{a:V}{r:List V}:eA σ (.tup (a::r)) (.int 0)=some a:=oj (n:=0) (by decide)
theorem ky{a b x:V}{r:List V}:eA σ (.tup (a::b::x::r)) (.int 2)=some x:=oj (n:=2) (by decide)
theorem w9{a b x y:V}{r:List V}:eA σ (.tup (a::b::x::y::r)) (.int 3)=some y:=oj (n:=3) (by decide)
theorem w_{v0:Option V}{o:Str}{p:Pt}{x:Option V}(Bk:dF bk)(hp:pK (au PL 5000 (d+1)) k c bk run p)(W:Wd k bk l σ)(hl:l.length+lm p≤90000)(ho:o.length≤900) :
  fk (au PL 5000 (d+1)) 5000 EQ K B [some (WV k c),v0,some (.str o),some p.v] σ=f_ k σ (mM bk run p l) fun v l'=>K [some (WV k c),v0,some (.str (o++v)),some p.v] (lg k σ l'):=by
 have hf:=hp.fg Bk
 have add:∀ {v l'},mM bk run p l=.ok v l'→gJ .add (.str o) (.str v)=some (.str (o++v)):=fun e=>dA (by have:=(hf.ok e).1.1;lia)
 have n1:decide (("cmd":Str)="text")=false:=by decide +kernel
 have n2:decide (("var":Str)="text")=false:=by decide +kernel
 have n3:decide (("var":Str)="cmd")=false:=by decide +kernel
 cases p with
 | txt s=>
  have:=add (v:=s) (l':=l) rfl
  rw [show Pt.v (.txt s)=.tup [.str "text",.str s] from rfl,EQ]
  simp only [aD,bh,aX,bp,bq,bf,am,al,ae,ac,ao,ak,aj,aC,ad,aA,aw,aB,aF,aJ,aV,aW,aY,ba,a_,bc,bj,bl,bg,bi,aR,bR,bN,bF,bG,bI,bO,bS,bT,bU,bP,aN,aM,q_nil,q_cons,aH,aQ,aq,aP,aL,aS,ai,ax,aa,aO,ay,an,aT,bn,af,ag,az,bb,aZ,bQ,aG,aK,aE,av,ah,aU,aI,fF,gx,bu,eq_self,decide_true,this]
  refine (?_:_=K _ (lg k σ l))
  simp only [W.self]
 | var u=>
  have hu:cX 10 u:=hp
  have:=hu.1
  rw [show Pt.v (.var u)=.tup [.str "var",.str u,.none] from rfl,EQ]
  simp only [aD,bh,aX,bp,bq,bf,am,al,ae,ac,ao,ak,aj,aC,ad,aA,aw,aB,aF,aJ,aV,aW,aY,ba,a_,bc,bj,bl,bg,bi,aR,bR,bN,bF,bG,bI,bO,bS,bT,bU,bP,aN,aM,q_nil,q_cons,aH,aQ,aq,aP,aL,aS,ai,ax,aa,aO,ay,an,aT,bn,af,ag,az,bb,aZ,bQ,aG,aK,aE,av,ah,aU,aI,aV ef,fF,gx,ky,bu,n2,n3,show ∀ σ,dG σ .is .none .none=some true from fun z9=>rfl,gQ W Bk.bk (show u.length≤1000 by lia),k_,cj,dJ]
  refine bx fun v l' e=>?_
  simp only [aD,bh,aX,bp,bq,bf,am,al,ae,ac,ao,ak,aj,aC,ad,aA,aw,aB,aF,aJ,aV,aW,aY,ba,a_,bc,bj,bl,bg,bi,aR,bR,bN,bF,bG,bI,bO,bS,bT,bU,bP,aN,aM,q_nil,q_cons,aH,aQ,aq,aP,aL,aS,ai,ax,aa,aO,ay,an,aT,bn,af,ag,az,bb,aZ,bQ,aG,aK,aE,av,ah,aU,aI,add e]
 | cmd t=>
  rw [show Pt.v (.cmd t)=.tup [.str "cmd",.str t] from rfl,EQ]
  simp only [aD,bh,aX,bp,bq,bf,am,al,ae,ac,ao,ak,aj,aC,ad,aA,aw,aB,aF,aJ,aV,aW,aY,ba,a_,bc,bj,bl,bg,bi,aR,bR,bN,bF,bG,bI,bO,bS,bT,bU,bP,aN,aM,q_nil,q_cons,aH,aQ,aq,aP,aL,aS,ai,ax,aa,aO,ay,an,aT,bn,af,ag,az,bb,aZ,bQ,aG,aK,aE,av,ah,aU,aI,aV ef,fF,gx,bu,n1,eq_self,decide_true,hp.2 σ l W hl,k_,cj,dJ]
  refine bx fun v l' e=>?_
  simp only [aD,bh,aX,bp,bq,bf,am,al,ae,ac,ao,ak,aj,aC,ad,aA,aw,aB,aF,aJ,aV,aW,aY,ba,a_,bc,bj,bl,bg,bi,aR,bR,bN,bF,bG,bI,bO,bS,bT,bU,bP,aN,aM,q_nil,q_cons,aH,aQ,aq,aP,aL,aS,ai,ax,aa,aO,ay,an,aT,bn,af,ag,az,bb,aZ,bQ,aG,aK,aE,av,ah,aU,aI,add e]
 | elt a i=>
  have l1:("(":Str).length=1:=by decide +kernel
  have l2:(")":Str).length=1:=by decide +kernel
  have ha:=hp.1.1
  simp only [show Pt.v (.elt a i)=.tup [.str "var",.str a,.tup [i.v]] from rfl,EQ]
  simp only [aD,bh,aX,bp,bq,bf,am,al,ae,ac,ao,ak,aj,aC,ad,aA,aw,aB,aF,aJ,aV,aW,aY,ba,a_,bc,bj,bl,bg,bi,aR,bR,bN,bF,bG,bI,bO,bS,bT,bU,bP,aN,aM,q_nil,q_cons,aH,aQ,aq,aP,aL,aS,ai,ax,aa,aO,ay,an,aT,bn,af,ag,az,bb,aZ,bQ,aG,aK,aE,av,ah,aU,aI,aV ef,fF,gx,ky,bu,n2,n3,uD (show isNone (.tup [i.v])=false from rfl),dA (show a.length+("(":Str).length≤100000 by lia),hp.2.2 σ l W hl,k_,cj,dJ]
  simp only [show mM bk run (.elt a i) l=EM.bind (mM bk run i) (fun v=>gF bk (a++"("++v++")")) l from rfl,bX]
  refine bx fun v l' e=>?_
  have hv:=(hp.2.1.ok e).1
  have:=hv.1
  have he:=zv hp.1 hv
  have:=he.1
  simp only [aD,bh,aX,bp,bq,bf,am,al,ae,ac,ao,ak,aj,aC,ad,aA,aw,aB,aF,aJ,aV,aW,aY,ba,a_,bc,bj,bl,bg,bi,aR,bR,bN,bF,bG,bI,bO,bS,bT,bU,bP,aN,aM,q_nil,q_cons,aH,aQ,aq,aP,aL,aS,ai,ax,aa,aO,ay,an,aT,bn,af,ag,az,bb,aZ,bQ,aG,aK,aE,av,ah,aU,aI,dA (show (a++("(":Str)).length+v.length≤100000 by rw [ez];lia),dA (show (a++("(":Str)++v).length+(")":Str).length≤100000 by rw [ez,ez];lia),gQ (W.set (l':=l')) Bk.bk (show (a++"("++v++")").length≤1000 by lia),k_,cj,dJ]
  simp only [fc]
  refine bx fun u l'' e'=>?_
  have hu:=((mK Bk he.2).ok e').1.1
  simp only [aD,bh,aX,bp,bq,bf,am,al,ae,ac,ao,ak,aj,aC,ad,aA,aw,aB,aF,aJ,aV,aW,aY,ba,a_,bc,bj,bl,bg,bi,aR,bR,bN,bF,bG,bI,bO,bS,bT,bU,bP,aN,aM,q_nil,q_cons,aH,aQ,aq,aP,aL,aS,ai,ax,aa,aO,ay,an,aT,bn,af,ag,az,bb,aZ,bQ,aG,aK,aE,av,ah,aU,aI,dA (show o.length+u.length≤100000 by lia)]
  simp only [fZ]
theorem uJ{v0:Option V}(Bk:dF bk)(hK:∀ kL x σ,K [some (WV k c),v0,some (.str kL),x] σ=bv (V.str kL) σ):∀ (ps:List Pt) (o:Str) (l:fS) (σ:St) (x:Option V),(∀ p∈ps,pK (au PL 5000 (d+1)) k c bk run p)→Wd k bk l σ→l.length+(ps.map lm).sum≤90000→o.length+10*ps.length≤900→
  FL (au PL 5000 (d+1)) 5000 3 EQ (ps.map Pt.v) K B [some (WV k c),v0,some (.str o),x] σ=f_ k σ (eg (mM bk run) ps l) fun vs l'=>bv (V.str (o++kt vs)) (lg k σ l'):=by
 intro ps
 induction ps with
 | nil=>
  intro o l σ x _ W _ _
  simp only [List.map_nil,rx,hK]
  refine (?_:_=bv (V.str (o++"")) (lg k σ l))
  simp only [mj,W.self]
 | cons p r ih=>
  intro o l σ x hp W hl ho
  simp only [List.map_cons,List.sum_cons] at hl
  simp only [List.length_cons] at ho
  unfold eg
  rw [bX,List.map_cons,gC,bG,w_ (x:=x) Bk (hp p (.head _)) W (by lia) (by lia)]
  refine bx fun v l' e=>?_
  have hv:=((hp p (.head _)).fg Bk).ok e
  have:=hv.1.1
  have:=hv.2.len
  simp only [ih (o++v) l' (lg k σ l') _ (fun p hq=>hp p (.tail _ hq)) W.set (by lia) (by rw [ez];lia),bX,fc]
  refine bx fun vs l'' z9=>?_
  simp only [gT,fZ]
  refine (?_:bv (V.str (o++v++kt vs)) _=bv (V.str (o++(v++kt vs))) _)
  simp only [qF]
theorem JA:PL 52=some GO:=by kernel_rfl
theorem JG{a b:V}:cS GO [a,b]=some [some a,some b,none,none]:=rfl
theorem qH{ps:List Pt}(Bk:dF bk)(hp:∀ p∈ps,pK (au PL 5000 (d+1)) k c bk run p)(W:Wd k bk l σ)(hl:l.length+(ps.map lm).sum≤90000)(hn:ps.length≤80):au PL 5000 (d+2) 52 [WV k c,.tup (ps.map Pt.v)] σ=kL k σ (fj bk run ps l):=by
 simp only [bo JA JG,GO,aE,aJ,aD,bF,pu (v:=.tup (ps.map Pt.v)) (l:=ps.map Pt.v) (aW ao) rfl rfl]
 have l0:("":Str).length=0:=by decide +kernel
 refine (uJ Bk (fun z9 z9 z9=>Eo) ps "" l σ none hp W hl (by lia)).trans ?_
 unfold fj kL
 simp only [gb,bX]
 refine bx fun vs l' z9=>?_
 simp only [gT,qE]
theorem pL{p:Pt}:fj bk run [p]=mM bk run p:=by
 funext l
 refine (?_:EM.bind (EM.bind (mM bk run p) fun v=>EM.bind (EM.pure []) fun vs=>EM.pure (v::vs)) (fun vs=>EM.pure (kt vs)) l=_)
 unfold EM.bind
 cases mM bk run p l with
 | ok v l'=>show ER.ok (v++("":Str)) l'=_;rw [mj]
 | ex=>rfl
noncomputable def vW:Pt→Prop
 | .txt s=>cX 10 s
 | .var x=>cX 10 x
 | .cmd t=>∃ s,(t,s)∈j4
 | .elt ..=>False
noncomputable def tf(p:Pt):Prop:=match p with
 | .txt s=>cX 10 s
 | .var x=>cX 10 x
 | .cmd t=>∃ s,(t,s)∈j4
 | .elt a i=>cX 10 a∧vW i
theorem zw{p:Pt}(Bk:dF bk)(h:vW p):pK (au PL 5000 (d+5)) k c bk (mi bk c) p:=by
 cases p with
 | txt=>exact h
 | var=>exact h
 | cmd t=>exact CN Bk h.choose_spec
 | elt=>exact h.elim
theorem zx{p:Pt}(Bk:dF bk)(h:tf p):pK (au PL 5000 (d+6)) k c bk (mi bk c) p:=by
 cases p with
 | txt=>exact h
 | var=>exact h
 | cmd t=>exact CN (d:=d+1) Bk h.choose_spec
 | elt a i=>
  have hi:=zw (d:=d) (k:=k) (c:=c) (p:=i) Bk h.2
  refine ⟨h.1,hi.fg Bk,fun σ l W hl=>?_⟩
  have:=qH (d:=d+4) (ps:=[i]) Bk (fun p hp=>by simp only [List.mem_singleton] at hp;subst hp;exact hi) W (by simp only [List.map_cons,List.map_nil,List.sum_cons,List.sum_nil];lia) (Nat.le_of_ble_eq_true rfl)
  simp only [pL] at this
  exact this
end
end
end Mine.Internal.Q
end
section
open PySem
set_option genCtorIdx false
namespace Mine.Internal.Q
noncomputable section
noncomputable def At(s:SS)(p:Nat)(code:List jN):Prop:=∀ i r,code[i]?=some r→s.rows[p+i]?=some r
noncomputable def gy(sl:Bool)(names:List Str)(r:jN):Prop:=
 (r.1="load"→sl=true∧∃ (i:Nat) (x:Str),r.2.1=.int i∧r.2.2=.str x∧names[i]?=some x)∧(r.1="load_name"→sl=false)
structure gH (s s':SS) (code:List jN) (c:Int):Prop where
 rows:s'.rows=s.rows++code
 dep:s'.dep=s.dep+c
 names:∃ nn,s'.names=s.names++nn∧nn.length≤code.length
 srcs:s'.srcs.length≤s.srcs.length+code.length
 same:s'.n=s.n∧s'.bk=s.bk∧s'.l1=s.l1∧s'.l2=s.l2∧s'.sl=s.sl∧s'.stk=s.stk
 nd:s.names.Nodup→s'.names.Nodup
 slots:∀ r∈code,gy s'.sl s'.names r
 cb:-3*(code.length:Int)≤c∧c≤code.length
noncomputable def mQ(c:Int)(bk:List (Str×V))(p:Nat)(code:List jN)(I:List Str)(f:EM (List Str)):Prop:=
 ∀ (s:SS) (d:Nat),At s p code→s.rows.length≤4000→s.bk=bk→∀ T l res,jU (f l) res (fun A l'=>VF d c s (p+code.length) (T++A) l' res)→VF d c s p (T++I) l res
noncomputable def one(f:EM Str):EM (List Str):=EM.bind f fun v=>EM.pure [v]
section
variable {C:CF} {w d k p:Nat} {s s' s'':SS} {v:V} {l l':fS} {ρ:ck} {K B:KK} {σ σ':St} {bk:List (Str×V)} {c:Int} {run:Str→EM Str} {α β γ δ:Type} {code code':List jN} {I J A:List Str} {f f':EM (List Str)} {res:ER (List Str)}
theorem At.left(h:At s p (code++code')):At s p code:=fun i r e=>h i r (by rw [List.getElem?_append_left (List.getElem?_eq_some_iff.mp e).1];exact e)
theorem At.right(h:At s p (code++code')):At s (p+code.length) code':=fun i r e=>by
 have:=h (code.length+i) r (by rw [List.getElem?_append_right (Nat.le_add_right ..),Nat.add_sub_cancel_left];exact e)
 rw [← Nat.add_assoc] at this;exact this
theorem At.one{r:jN}(h:At s p [r]):s.rows[p]?=some r:=h 0 r rfl
theorem At.le(h:At s p code)(hc:code≠[]):p+code.length≤s.rows.length:=by
 have hl:code.length-1<code.length:=by have:=List.length_pos_iff.mpr hc;lia
 have:=h (code.length-1) _ (List.getElem?_eq_getElem hl)
 have:=(List.getElem?_eq_some_iff.mp this).1
 lia
theorem gy.mono{sl:Bool}{ns nn:List Str}{r:jN}(h:gy sl ns r):gy sl (ns++nn) r:=by
 refine ⟨fun e=>?_,h.2⟩
 obtain ⟨a,i,x,b,b',b''⟩:=h.1 e
 exact ⟨a,i,x,b,b',by rw [List.getElem?_append_left (List.getElem?_eq_some_iff.mp b'').1];exact b''⟩
theorem gH.refl:gH s s [] 0:=⟨(List.append_nil _).symm,(Int.add_zero _).symm,(ib_1_2 ([]) ((List.append_nil _).symm) (Nat.le_refl _)),Nat.le_refl _,⟨rfl,rfl,rfl,rfl,rfl,rfl⟩,id,fun z9 h=>(nomatch h),⟨Int.le_refl _,Int.le_refl _⟩⟩
theorem gH.trans{x y:Int}(h:gH s s' code x)(h':gH s' s'' code' y):gH s s'' (code++code') (x+y):=by
 refine ob_1_2 h.names fun nn hn hl=>?_
 refine ob_1_2 h'.names fun nn' hn' hl'=>?_
 refine tD h.same fun a1 a2 a3 a4 a5 a6=>?_
 refine tD h'.same fun b1 b2 b3 b4 b5 b6=>?_
 have e1:=h.srcs
 have e2:=h'.srcs
 have q1:=h.cb
 have q2:=h'.cb
 refine ⟨by simp only [h'.rows,h.rows,List.append_assoc],by simp only [h'.dep,h.dep,Int.add_assoc],⟨nn++nn',by rw [hn',hn,List.append_assoc],by rw [List.length_append,List.length_append];lia⟩,by rw [List.length_append];lia,
  ⟨b1.trans a1,b2.trans a2,b3.trans a3,b4.trans a4,b5.trans a5,b6.trans a6⟩,fun e=>h'.nd (h.nd e),fun r hr=>?_,by rw [List.length_append];lia⟩
 rcases List.mem_append.mp hr with hr | hr
 ·simp only [hn',b5];exact (h.slots r hr).mono
 ·exact h'.slots r hr
theorem gH.fit{x:Int}{k:Nat}(h:gH s s' code x)(F:gi (code.length+k) s):gi k s':=by
 refine ob_1_2 h.names fun nn hn hl=>?_
 have e1:=h.srcs
 have q1:=h.cb
 obtain ⟨a,b,c,e,f⟩:=F
 refine ⟨?_,?_,?_,?_,?_⟩
 ·simp only [h.rows,List.length_append];lia
 ·rw [h.dep];lia
 ·simp only [h.dep];lia
 ·simp only [hn,h.rows,List.length_append,List.length_append];lia
 ·simp only [h.rows,List.length_append];lia
theorem gH.em{r:jN}{x:Int}(hx:-3≤x∧x≤1)(hr:∀ sl ns,gy sl ns r):gH s (s.em r x) [r] x:=by
 refine ⟨rfl,rfl,(ib_1_2 ([]) ((List.append_nil _).symm) (Nat.zero_le _)),Nat.le_add_right _ _,⟨rfl,rfl,rfl,rfl,rfl,rfl⟩,id,fun q hq=>?_,?_⟩
 ·simp only [List.mem_singleton] at hq;subst hq;exact hr _ _
 ·simp only [List.length_cons,List.length_nil];lia
theorem ee{op:Str}{a b:V}(h:(decide (op="load") || decide (op="load_name"))=false)(sl:Bool)(ns:List Str):gy sl ns (op,a,b):=by
 simp only [Bool.or_eq_false_iff] at h
 exact ⟨fun e=>absurd e (of_decide_eq_false h.1),fun e=>absurd e (of_decide_eq_false h.2)⟩
theorem mQ.nil:mQ c bk p [] I (EM.pure I):=fun s d z9 z9 z9 T l res h=>h
theorem jU.bind{α β:Type}{f:EM α}{g:α→EM β}{K:β→fS→Prop}:jU (EM.bind f g l) res K↔jU (f l) res fun a l'=>jU (g a l') res K:=by
 unfold EM.bind
 cases f l<;>exact Iff.rfl
theorem jU.imp{α:Type}{r:ER α}{K K':α→fS→Prop}(h:jU r res K)(hk:∀ a l',r=.ok a l'→K a l'→K' a l'):jU r res K':=by
 cases r with
 | ok a l=>exact hk a l rfl h
 | ex=>exact h
theorem mQ.seq{g:List Str→EM (List Str)}(h:mQ c bk p code I f)(h':∀ A l l',f l=.ok A l'→mQ c bk (p+code.length) code' A (g A)):mQ c bk p (code++code') I (EM.bind f g):=by
 intro s d ha hz hb T l res he
 refine h s d ha.left hz hb T l res ?_
 simp only [jU.bind] at he
 refine he.imp fun A l' e q=>?_
 refine h' A l l' e s d ha.right hz hb T l' res (q.imp fun A' l'' z9 q=>?_)
 simp only [List.length_append,← Nat.add_assoc] at q
 exact q
theorem mQ.frame(h:mQ c bk p code I f):mQ c bk p code (J++I) (EM.bind f fun A=>EM.pure (J++A)):=by
 intro s d ha hz hb T l res he
 rw [← List.append_assoc]
 refine h s d ha hz hb (T++J) l res ?_
 simp only [jU.bind] at he
 refine he.imp fun A l' e q=>?_
 rw [List.append_assoc];exact q
theorem mQ.of_eq{f':EM (List Str)}(h:mQ c bk p code I f)(e:f=f'):mQ c bk p code I f':=e▸h
theorem mQ.row{r:jN}{g:EM Str}(R:∀ (s:SS) (d:Nat),s.bk=bk→hU d c s r I g)(hj:CK r.1=false)(hpp:decide (r.1="pop")=false)(ha:plain r.2.1=true)(hb:plain r.2.2=true)(hg:∀ l v l',g l=.ok v l'→l'.length≤l.length+1):mQ c bk p [r] I (one g):=by
 intro s d hat hz hbk T l res he
 refine Em hz hat.one (R s d hbk) hj hpp ha hb (hg l) ?_
 unfold one at he
 simp only [jU.bind] at he
 exact he
theorem mQ.pop{u:Str}{a b:V}:mQ c bk p [("pop",a,b)] [u] (EM.pure []):=by
 intro s d hat hz hbk T l res he
 refine En hz hat.one ?_
 have he:VF d c s (p+1) (T++[]) l res:=he
 rw [List.append_nil] at he
 exact he
theorem pure_bind{a:α}{g:α→EM β}:EM.bind (EM.pure a) g=g a:=rfl
theorem eU{m:EM α}{g:α→EM β}{h:β→EM γ}:EM.bind (EM.bind m g) h=EM.bind m fun a=>EM.bind (g a) h:=by
 funext l
 unfold EM.bind
 cases m l<;>rfl
noncomputable def cU(c:Int)(s s':SS)(m:Nat)(P:List Str→Prop)(g:List Str→EM (List Str))(x:Int):Prop:=
 ∃ code,code.length=m∧gH s s' code x∧∀ I,P I→mQ c s.bk s.rows.length code I (g I)
noncomputable def qI(I:List Str):Prop:=I=[]
variable {m m' n:Nat} {x y:Int} {P Q:List Str→Prop} {g g':List Str→EM (List Str)}
theorem cU.nil:cU c s s 0 P EM.pure 0:=(ib_1_3 ([]) rfl .refl (fun z9 z9=>.nil))
theorem cU.seq(h:cU c s s' m P g x)(h':cU c s' s'' m' Q g' y)(hq:∀ I,P I→∀ l A l',g I l=.ok A l'→Q A):cU c s s'' (m+m') P (fun I=>EM.bind (g I) g') (x+y):=by
 refine ob_1_3 h fun code hl ha he=>?_
 refine ob_1_3 h' fun code' hl' ha' he'=>?_
 refine (ib_1_3 (code++code') (by rw [List.length_append];lia) (ha.trans ha') (fun I hI=>(he I hI).seq fun A l l' e=>?_))
 have:=he' A (hq I hI l A l' e)
 simp only [ha.rows,List.length_append,ha.same.2.1] at this
 exact this
theorem cU.under{f:EM (List Str)}(h:cU c s s' m qI (fun z9=>f) x):cU c s s' m Q (fun J=>EM.bind f fun A=>EM.pure (J++A)) x:=by
 refine ob_1_3 h fun code hl ha he=>?_
 refine (ib_1_3 code hl ha (fun J z9=>?_))
 have:=(he [] rfl).frame (J:=J)
 simp only [List.append_nil] at this
 exact this
theorem cU.of(h:cU c s s' m P g x)(hm:m=m')(hx:x=y)(hg:∀ I,P I→g I=g' I):cU c s s' m' P g' y:=by
 refine ob_1_3 h fun code hl ha he=>?_
 exact (ib_1_3 code (hl.trans hm) (hx▸ha) (fun I hI=>(he I hI).of_eq (hg I hI)))
theorem cU.row{r:jN}{f:List Str→EM Str}(hx:-3≤x∧x≤1)(hr:(decide (r.1="load") || decide (r.1="load_name") || CK r.1 || decide (r.1="pop"))=false)(ha:plain r.2.1=true)(hb:plain r.2.2=true)(R:∀ I,P I→(∀ (s:SS) (d:Nat),hU d c s r I (f I))∧∀ l v l',f I l=.ok v l'→l'.length≤l.length+1):cU c s (s.em r x) 1 P (fun I=>one (f I)) x:=by
 obtain ⟨op,a,b⟩:=r
 rw [Bool.or_eq_false_iff,Bool.or_eq_false_iff] at hr
 exact (ib_1_3 ([(op,a,b)]) rfl (.em hx (ee hr.1.1)) (fun I hI=>.row (fun s d z9=>(R I hI).1 s d) hr.1.2 hr.2 ha hb (R I hI).2))
theorem cU.fit(h:cU c s s' m P g x)(F:gi (m+k) s):gi k s':=by
 refine ob_1_3 h fun code hl ha z9=>?_
 exact ha.fit (hl▸F)
theorem cU.dep(h:cU c s s' m P g x):s'.dep=s.dep+x:=h.elim fun z9 h=>h.2.1.dep
theorem cU.book(h:cU c s s' m P g x):s'.bk=s.bk:=h.elim fun z9 h=>h.2.1.same.2.1
theorem cU.rows(h:cU c s s' m P g x):s'.rows.length=s.rows.length+m:=h.elim fun z9 h=>by simp only [h.2.1.rows,List.length_append,h.1]
end
end
end Mine.Internal.Q
end
section
open PySem
namespace Mine.Internal.Q
noncomputable section
noncomputable def uK:List PS:=[.ifs (.cmp .eq (.sub (.loc 2) (.int 0)) (.str "text")) [.expr (.meth 101 "emit" (.loc 0) [.str "push",.sub (.loc 2) (.int 1),.none,.int 1])] [.ifs (.cmp .eq (.sub (.loc 2) (.int 0)) (.str "cmd")) [.expr (.meth 107 "script" (.loc 0) [.sub (.loc 2) (.int 1)])] [.ifs (.cmp .is (.sub (.loc 2) (.int 2)) .none) [.expr (.meth 103 "load" (.loc 0) [.sub (.loc 2) (.int 1)])] [.expr (.meth 106 "parts" (.loc 0) [.sub (.loc 2) (.int 2)]),.expr (.meth 101 "emit" (.loc 0) [.str "load_element",.sub (.loc 2) (.int 1),.none,.int 0])]]]]
noncomputable def fB(C:CF)(c:Int)(bk:List (Str×V))(f:Nat)(a:V)(m:Nat)(g:EM Str):Prop:=
 ∀ s:SS,s.bk=bk→gi m s→∃ s',C f [.inst 5,a] s.st=bv V.none s'.st∧cU c s s' m qI (fun z9=>one g) 1
noncomputable def CO(C:CF)(c:Int)(bk:List (Str×V))(run:Str→EM Str)(m:Nat)(p:Pt):Prop:=
 ∀ (s:SS) (K B:KK) (v0:Option V),s.bk=bk→gi m s→∃ s',fk C 5000 uK K B [some (.inst 5),v0,some p.v] s.st=K [some (.inst 5),v0,some p.v] s'.st∧cU c s s' m qI (fun z9=>one (mM bk run p)) 1
section
variable {C:CF} {w d k p:Nat} {s s' s'':SS} {v:V} {l l':fS} {ρ:ck} {K B:KK} {σ σ':St} {bk:List (Str×V)} {c:Int} {run:Str→EM Str} {α β γ δ:Type} {m n:Nat} {x y:Int} {P Q:List Str→Prop} {g g':List Str→EM (List Str)}
theorem uL{x:Str}:∀ {ns:List Str} {k j:Nat},hJ x k ns=some j→∃ i,j=k+i∧ns[i]?=some x:=by
 intro ns
 induction ns with
 | nil=>intro k j h;exact cq h
 | cons y r ih=>
  intro k j h
  unfold hJ at h
  by_cases q:y=x
  ·rw [if_pos q] at h;obtain rfl:=Option.some.inj h;exact (ib_1_2 0 rfl (congrArg some q))
  ·rw [if_neg q] at h
   refine ob_1_2 (ih h) fun i e h2=>?_
   exact (ib_1_2 (i+1) (by lia) h2)
theorem tg{x:Str}:∀ {ns:List Str} {k:Nat},hJ x k ns=none→x∉ns:=by
 intro ns
 induction ns with
 | nil=>intro k _ h;cases h
 | cons y r ih=>
  intro k h
  unfold hJ at h
  by_cases q:y=x
  ·rw [if_pos q] at h;exact Gv h
  ·rw [if_neg q] at h
   intro hm
   refine Or.elim (List.mem_cons.mp hm) (fun e=>?_) fun hm=>?_
   ·exact q e.symm
   ·exact ih h hm
theorem th{x:Str}{l l':fS}{v:Str}(h:gF bk x l=.ok v l'):l'.length≤l.length+1:=by
 unfold gF at h
 split at h
 ·cases h;lia
 ·cases h
theorem HS{r:jN}:-3*(([r]:List jN).length:Int)≤1∧(1:Int)≤(([r]:List jN).length:Int):=by
 simp only [List.length_cons,List.length_nil];lia
theorem BO{u:Str}(Bk:dF s.bk)(hu:u.length≤1000):cU c s (s.ld u) 1 qI (fun z9=>one (gF s.bk u)) 1:=by
 have ex1:∀ {r:jN},(∀ (t:SS) (d:Nat),t.bk=s.bk→hU d c t r [] (gF s.bk u))→CK r.1=false→decide (r.1="pop")=false→plain r.2.1=true→plain r.2.2=true→∀ I,qI I→mQ c s.bk s.rows.length [r] I (one (gF s.bk u)):=by
  intro r R hj hpp ha hb I hI
  subst hI
  exact mQ.row R hj hpp ha hb fun l v l' e=>th e
 have nol:∀ {j:Int} {sl ns},sl=true→(∃ (i:Nat),j=i∧ns[i]?=some u)→gy sl ns ("load",.int j,.str u):=by
  intro j sl ns hs ⟨i,e,hg⟩
  exact ⟨fun z9=>⟨hs,i,u,by rw [e],rfl,hg⟩,fun e=>absurd e (show ("load":Str)≠"load_name" by decide +kernel)⟩
 unfold SS.ld
 rcases Bool.eq_false_or_eq_true s.sl with hsl | hsl
 ·rw [hsl]
  cases hs:hJ u 0 s.names with
  | some j=>
   refine ⟨[("load",.int j,.str u)],rfl,⟨rfl,rfl,(ib_1_2 ([]) ((List.append_nil _).symm) (Nat.zero_le _)),Nat.le_add_right _ _,⟨rfl,rfl,rfl,rfl,rfl,rfl⟩,id,fun q hq=>?_,HS⟩,ex1 (fun t d e=>e▸s9 (e▸Bk.bk) hu) (by kernel_rfl) (by kernel_rfl) rfl rfl⟩
   simp only [List.mem_singleton] at hq;subst hq
   refine ob_1_2 (uL hs) fun i e hg=>?_
   exact nol hsl (ib_1_2 i (by lia) hg)
  | none=>
   refine ⟨[("load",.int s.names.length,.str u)],rfl,⟨rfl,rfl,(ib_1_2 ([u]) rfl (Nat.le_refl _)),Nat.le_add_right _ _,⟨rfl,rfl,rfl,rfl,hsl.symm▸rfl,rfl⟩,fun hn=>?_,fun q hq=>?_,HS⟩,ex1 (fun t d e=>e▸s9 (e▸Bk.bk) hu) (by kernel_rfl) (by kernel_rfl) rfl rfl⟩
   ·refine List.nodup_append.mpr ⟨hn,List.nodup_cons.mpr ⟨(fun h=>nomatch h),.nil⟩,fun a ha b hb=>?_⟩
    simp only [List.mem_singleton] at hb;subst hb
    exact fun e=>tg hs (e▸ha)
   ·simp only [List.mem_singleton] at hq;subst hq
    exact nol rfl (ib_1_2 s.names.length rfl (List.getElem?_concat_length ..))
 ·simp only [hsl]
  refine ⟨[("load_name",.str u,.none)],rfl,⟨rfl,rfl,(ib_1_2 ([]) ((List.append_nil _).symm) (Nat.zero_le _)),Nat.le_add_right _ _,⟨rfl,rfl,rfl,rfl,rfl,rfl⟩,id,fun q hq=>?_,HS⟩,ex1 (fun t d e=>e▸w3 (e▸Bk.bk) hu) (by kernel_rfl) (by kernel_rfl) rfl rfl⟩
  simp only [List.mem_singleton] at hq;subst hq
  exact ⟨fun e=>absurd e (show ("load_name":Str)≠"load" by decide +kernel),fun z9=>hsl⟩
theorem pM{a:Str}{l l':fS}{v:Str}(h:EM.pure a l=.ok v l'):l'.length≤l.length+1:=by
 cases h;lia
theorem lH{u:Str}:cU c s (s.em ("push",.str u,.none) 1) 1 qI (fun z9=>one (EM.pure u)) 1:=
 .row (by decide) (by kernel_rfl) rfl rfl fun I hI=>⟨fun s d=>by subst hI;exact s8,fun z9 z9 z9 e=>pM e⟩
theorem j5{f:EM Str}{g:List Str→EM (List Str)}:EM.bind (one f) g=EM.bind f fun v=>g [v]:=by
 unfold one
 simp only [eU];rfl
theorem vX{u:Str}:CO (au PL 5000 (d+1)) c bk run 1 (.txt u):=by
 intro s K B v0 hb F
 refine (ib_1_2 _ ?_ lH)
 simp only [show Pt.v (.txt u)=.tup [.str "text",.str u] from rfl,uK]
 simp only [aD,bh,aX,bp,bq,bf,am,al,ae,ac,ao,ak,aj,aC,ad,aA,aw,aB,aF,aJ,aV,aW,aY,ba,a_,bc,bj,bl,bg,bi,aR,bR,bN,bF,bG,bI,bO,bS,bT,bU,bP,aN,aM,q_nil,q_cons,aH,aQ,aq,aP,aL,aS,ai,ax,aa,aO,ay,an,aT,bn,af,ag,az,bb,aZ,bQ,aG,aK,aE,av,ah,aU,aI,fF,gx,bu,eq_self,decide_true,lh,ci am ac F (show (-3:Int)≤1∧(1:Int)≤3 by decide)]
theorem vY{u:Str}(Bk:dF bk)(hu:u.length≤1000)(hn:rA u=true):CO (au PL 5000 (d+2)) c bk run 1 (.var u):=by
 intro s K B v0 hb F
 subst hb
 refine (ib_1_2 _ ?_ (BO Bk hu))
 have n2:decide (("var":Str)="text")=false:=by decide +kernel
 have n3:decide (("var":Str)="cmd")=false:=by decide +kernel
 simp only [show Pt.v (.var u)=.tup [.str "var",.str u,.none] from rfl,uK]
 simp only [aD,bh,aX,bp,bq,bf,am,al,ae,ac,ao,ak,aj,aC,ad,aA,aw,aB,aF,aJ,aV,aW,aY,ba,a_,bc,bj,bl,bg,bi,aR,bR,bN,bF,bG,bI,bO,bS,bT,bU,bP,aN,aM,q_nil,q_cons,aH,aQ,aq,aP,aL,aS,ai,ax,aa,aO,ay,an,aT,bn,af,ag,az,bb,aZ,bQ,aG,aK,aE,av,ah,aU,aI,fF,gx,ky,bu,n2,n3,show ∀ σ,dG σ .is .none .none=some true from fun z9=>rfl,Hz,wY F hn]
theorem vZ{t:Str}(h:fB C c bk 107 (.str t) m (run t)):CO C c bk run m (.cmd t):=by
 intro s K B v0 hb F
 refine ob_1_2 (h s hb F) fun s' e M=>?_
 refine (ib_1_2 s' ?_ M)
 have n1:decide (("cmd":Str)="text")=false:=by decide +kernel
 simp only [show Pt.v (.cmd t)=.tup [.str "cmd",.str t] from rfl,uK]
 simp only [aD,bh,aX,bp,bq,bf,am,al,ae,ac,ao,ak,aj,aC,ad,aA,aw,aB,aF,aJ,aV,aW,aY,ba,a_,bc,bj,bl,bg,bi,aR,bR,bN,bF,bG,bI,bO,bS,bT,bU,bP,aN,aM,q_nil,q_cons,aH,aQ,aq,aP,aL,aS,ai,ax,aa,aO,ay,an,aT,bn,af,ag,az,bb,aZ,bQ,aG,aK,aE,av,ah,aU,aI,fF,gx,bu,n1,eq_self,decide_true,Hy,e]
theorem BP{a:Str}{i:Pt}(Bk:dF bk)(ha:cX 10 a){k:Nat}(hi:Fg (cX 10) k (mM bk run i))(h:fB (au PL 5000 (d+1)) c bk 106 (.tup [i.v]) m (mM bk run i)):CO (au PL 5000 (d+1)) c bk run (m+1) (.elt a i):=by
 intro s K B v0 hb F
 refine ob_1_2 (h s hb (F.mono (Nat.le_add_right ..))) fun s' e M=>?_
 have F':gi 1 s':=M.fit F
 have R:cU c s' (s'.em ("load_element",.str a,.none) 0) 1 (fun I=>∃ v,I=[v]∧cX 10 v) (fun I=>one (gF bk (a++"("++(I.headD "")++")"))) 0:=by
  refine ob_1_3 (cU.row (c:=c) (s:=s') (x:=0) (r:=("load_element",.str a,.none)) (P:=fun z9=>False) (f:=fun z9=>EM.pure "") (by decide) (by kernel_rfl) rfl rfl (fun z9 h=>h.elim)) fun code e1 e2 e3=>?_
  refine ⟨[("load_element",.str a,.none)],rfl,.em (by decide) (ee (by kernel_rfl)),fun I hI=>?_⟩
  refine ob_1_2 hI fun v hq112_1 hv=>?_
  subst hq112_1
  have hb':s'.bk=bk:=M.book.trans hb
  refine mQ.row (fun t d et=>?_) (by kernel_rfl) (by kernel_rfl) rfl rfl fun l v l' e=>th e
  have et:t.bk=bk:=et.trans hb'
  subst et
  exact BL Bk.bk (Nat.le_trans ha.1 (by decide)) (Nat.le_trans hv.1 (by decide))
 refine (ib_1_2 _ ?_ ((M.seq R fun I hI l A l' e=>?_).of rfl (Int.add_zero _) fun I hI=>?_))
 ·have n2:decide (("var":Str)="text")=false:=by decide +kernel
  have n3:decide (("var":Str)="cmd")=false:=by decide +kernel
  rw [show Pt.v (.elt a i)=.tup [.str "var",.str a,.tup [i.v]] from rfl,uK]
  simp only [aD,bh,aX,bp,bq,bf,am,al,ae,ac,ao,ak,aj,aC,ad,aA,aw,aB,aF,aJ,aV,aW,aY,ba,a_,bc,bj,bl,bg,bi,aR,bR,bN,bF,bG,bI,bO,bS,bT,bU,bP,aN,aM,q_nil,q_cons,aH,aQ,aq,aP,aL,aS,ai,ax,aa,aO,ay,an,aT,bn,af,ag,az,bb,aZ,bQ,aG,aK,aE,av,ah,aU,aI,fF,gx,ky,bu,n2,n3,uD (show isNone (.tup [i.v])=false from rfl),Ee,e,lh,ci am ac F' (show (-3:Int)≤0∧(0:Int)≤3 by decide)]
 ·unfold one EM.bind at e
  cases hv:mM bk run i l with
  | ok v l2=>rw [hv] at e;cases e;exact (ib_1_2 v rfl ((hi.ok hv).1))
  | ex=>rw [hv] at e;cases e
 ·simp only [j5]
  refine (?_:_=one (EM.bind (mM bk run i) fun v=>gF bk (a++"("++v++")")))
  unfold one
  simp only [eU];rfl
end
end
end Mine.Internal.Q
end
section
open PySem
namespace Mine.Internal.Q
noncomputable section
section
variable {C:CF} {w d k p:Nat} {s s' s'':SS} {v:V} {l l':fS} {ρ:ck} {K B:KK} {σ σ':St} {bk:List (Str×V)} {c:Int} {run:Str→EM Str} {α β γ δ:Type} {m n:Nat} {x y:Int} {P Q:List Str→Prop} {g g':List Str→EM (List Str)}
theorem j6{f:EM Str}{r:EM (List Str)}{m m':Nat}{y:Int}(h:cU c s s' m qI (fun z9=>one f) 1)(h':cU c s' s'' m' qI (fun z9=>r) y):cU c s s'' (m+m') qI (fun z9=>EM.bind f fun v=>EM.bind r fun vs=>EM.pure (v::vs)) (1+y):=
 (h.seq (h'.under (Q:=fun z9=>True)) fun z9 z9 z9 z9 z9 z9=>trivial).of rfl rfl fun I hI=>j5
theorem uM(ms:Pt→Nat):∀ (ps:List Pt),(∀ p∈ps,CO C c bk run (ms p) p)→∀ (s:SS) (K B:KK) (v0 x:Option V),s.bk=bk→gi (ps.map ms).sum s→
  ∃ s' x',FL C 5000 2 uK (ps.map Pt.v) K B [some (.inst 5),v0,x] s.st=K [some (.inst 5),v0,x'] s'.st∧cU c s s' (ps.map ms).sum qI (fun z9=>eg (mM bk run) ps) ps.length:=by
 intro ps
 induction ps with
 | nil=>
  intro _ s K B v0 x _ _
  exact (ib_2_2 s x rfl (cU.nil.of rfl rfl fun I hI=>by subst hI;rfl))
 | cons p r ih=>
  intro h s K B v0 x hb F
  refine ob_1_2 (h p (.head _) s (FL C 5000 2 uK (r.map Pt.v) K B) K v0 hb (F.mono (Nat.le_add_right ..))) fun s1 e1 M1=>?_
  refine ob_2_2 (ih (fun p hp=>h p (.tail _ hp)) s1 K B v0 (some p.v) (M1.book.trans hb) (M1.fit F)) fun s2 x2 e2 M2=>?_
  refine (ib_2_2 s2 x2 ?_ ((j6 M1 M2).of (by simp only [List.map_cons,List.sum_cons]) (by simp only [List.length_cons];lia) fun z9 z9=>rfl))
  simp only [List.map_cons,gC,bF,e1,e2]
noncomputable def wr(ms:Pt→Nat)(ps:Wo):Nat:=(ps.map ms).sum+(if ps.length=1 then 0 else 1)
theorem xa{p:Pt}:eg (mM bk run) [p]=one (fj bk run [p]):=by
 simp only [pL];rfl
theorem xb{ps:List Pt}:EM.bind (eg (mM bk run) ps) (fun A=>one (EM.pure (kt A)))=one (fj bk run ps):=by
 unfold fj one
 simp only [eU]
theorem BQ{n:Nat}:∀ {A:List Str},(∀ v∈A,cX n v)→(A.map (·.length)).sum≤A.length*n:=by
 intro A
 induction A with
 | nil=>intro _;exact Nat.zero_le _
 | cons x r ih=>
  intro h
  have:=(h x (.head _)).1
  have:=ih fun v hv=>h v (.tail _ hv)
  simp only [List.map_cons,List.sum_cons,List.length_cons,Nat.succ_mul];lia
theorem xc{ps:List Pt}(hf:∀ p∈ps,∃ k,Fg (cX 10) k (mM bk run p)){A:List Str}(e:eg (mM bk run) ps l=.ok A l'):A.length=ps.length∧∀ v∈A,cX 10 v:=by
 classical
 have:∀ p∈ps,Fg (cX 10) (if h:∃ k,Fg (cX 10) k (mM bk run p) then h.choose else 0) (mM bk run p):=fun p hp=>by
  rw [dif_pos (hf p hp)];exact (hf p hp).choose_spec
 exact ((fp this).ok e).1
theorem HT:PL 106=some BB:=by kernel_rfl
theorem HU{a b:V}:cS BB [a,b]=some [some a,some b,none]:=rfl
theorem rJ{vs:List V}:wf σ (.tup vs)=some vs.length:=rfl
theorem pN{a b:Int}:dG σ .gt (.int a) (.int b)=some (decide (a>b)):=rfl
theorem ml{ps:List Pt}(ms:Pt→Nat)(hn:1≤ps.length∧ps.length≤3)(h:∀ p∈ps,CO (au PL 5000 (d+1)) c bk run (ms p) p)(hf:∀ p∈ps,∃ k,Fg (cX 10) k (mM bk run p)):fB (au PL 5000 (d+2)) c bk 106 (.tup (ps.map Pt.v)) (wr ms ps) (fj bk run ps):=by
 intro s hb F
 refine ob_2_2 (uM ms ps h s (fk (au PL 5000 (d+1)) 5000 [.ifs (.cmp .eq (.len (.loc 1)) (.int 0)) [.expr (.meth 101 "emit" (.loc 0) [.str "push",.str "",.none,.int 1])] [.ifs (.cmp .gt (.len (.loc 1)) (.int 1)) [.expr (.meth 101 "emit" (.loc 0) [.str "join",.len (.loc 1),.none,.bin .sub (.int 1) (.len (.loc 1))])] []]] K0 B0) B0 (some (.tup (ps.map Pt.v))) none hb (F.mono (Nat.le_add_right ..))) fun s1 x1 e1 M1=>?_
 rw [bo HT HU,BB,pu (v:=.tup (ps.map Pt.v)) (l:=ps.map Pt.v) (aW ao) rfl rfl]
 have z:decide (((ps.map Pt.v).length:Int)=0)=false:=decide_eq_false (by rw [List.length_map];lia)
 by_cases q:ps.length=1
 ·have hw:wr ms ps=(ps.map ms).sum:=by unfold wr;rw [if_pos q];rfl
  refine (ib_1_2 s1 (e1.trans ?_) (M1.of hw.symm (by lia) fun I hI=>?_))
  ·simp only [aD,bh,aX,bp,bq,bf,am,al,ae,ac,ao,ak,aj,aC,ad,aA,aw,aB,aF,aJ,aV,aW,aY,ba,a_,bc,bj,bl,bg,bi,aR,bR,bN,bF,bG,bI,bO,bS,bT,bU,bP,aN,aM,q_nil,q_cons,aH,aQ,aq,aP,aL,aS,ai,ax,aa,aO,ay,an,aT,bn,af,ag,az,bb,aZ,bQ,aG,aK,aE,av,ah,aU,aI,rJ,cW,z,pN,show decide (((ps.map Pt.v).length:Int)>1)=false from decide_eq_false (by rw [List.length_map];lia)]
  ·obtain ⟨p,rfl⟩:=List.length_eq_one_iff.mp q
   exact xa
 ·have hw:wr ms ps=(ps.map ms).sum+1:=by unfold wr;rw [if_neg q]
  rw [hw] at F
  have F':gi 1 s1:=M1.fit F
  refine (ib_1_2 (s1.em ("join",.int ps.length,.none) (1-ps.length)) (e1.trans ?_) ((M1.seq (Q:=fun A=>A.length=ps.length∧∀ v∈A,cX 10 v) (cU.row (f:=fun A=>EM.pure (kt A)) (by lia) (by kernel_rfl) rfl rfl fun A hA=>⟨fun s d=>zk hA.1 (by lia) (Nat.le_trans (BQ hA.2) (by rw [hA.1];lia)),fun z9 z9 z9 e=>pM e⟩) fun I hI l A l' e=>xc hf e).of hw.symm (by lia) fun I hI=>xb))
  simp only [aD,bh,aX,bp,bq,bf,am,al,ae,ac,ao,ak,aj,aC,ad,aA,aw,aB,aF,aJ,aV,aW,aY,ba,a_,bc,bj,bl,bg,bi,aR,bR,bN,bF,bG,bI,bO,bS,bT,bU,bP,aN,aM,q_nil,q_cons,aH,aQ,aq,aP,aL,aS,ai,ax,aa,aO,ay,an,aT,bn,af,ag,az,bb,aZ,bQ,aG,aK,aE,av,ah,aU,aI,rJ,cW,z,pN,show decide (((ps.map Pt.v).length:Int)>1)=true from decide_eq_true (by rw [List.length_map];lia),lj (cO (show (-1000000:Int)<1∧(1:Int)<1000000 by decide)) (cO (show (-1000000:Int)<((ps.map Pt.v).length:Nat)∧(((ps.map Pt.v).length:Nat):Int)<1000000 by rw [List.length_map];lia)),lh]
  rw [List.length_map,ci al ac F' (show (-3:Int)≤1-ps.length∧(1:Int)-ps.length≤3 by lia)];rfl
theorem HV:PL 105=some BA:=by kernel_rfl
theorem HW{a b:V}:cS BA [a,b]=some [some a,some b]:=rfl
theorem xd{ps:Wo}{f:EM Str}(h:fB (au PL 5000 d) c bk 106 (.tup (ps.map Pt.v)) m f):fB (au PL 5000 (d+1)) c bk 105 (Wo.v ps) m f:=by
 intro s hb F
 refine ob_1_2 (h s hb F) fun s' e M=>?_
 refine (ib_1_2 s' ?_ M)
 simp only [bo HV HW,BA]
 have:=aW (C:=au PL 5000 d) (x0:=some (.inst 5)) (ρ:=[]) (v:=Wo.v ps) (σ:=s.st) rfl
 simp only [aD,bh,aX,bp,bq,bf,am,al,ae,ac,ao,ak,aj,aC,ad,aA,aw,aB,aF,aJ,aV,aW,aY,ba,a_,bc,bj,bl,bg,bi,aR,bR,bN,bF,bG,bI,bO,bS,bT,bU,bP,aN,aM,q_nil,q_cons,aH,aQ,aq,aP,aL,aS,ai,ax,aa,aO,ay,an,aT,bn,af,ag,az,bb,aZ,bQ,aG,aK,aE,av,ah,aU,aI,this,show ∀ σ,eA σ (Wo.v ps) (.int 1)=some (.tup (ps.map Pt.v)) from fun z9=>rfl,Ee,e]
noncomputable def IJ:List PS:=[.expr (.meth 105 "word" (.loc 0) [.loc 2]),.ifs (.sub (.loc 2) (.int 0)) [.expr (.meth 101 "emit" (.loc 0) [.str "split",.none,.none,.int 0])] []]
theorem uN(ms:Wo→Nat):∀ (ws:List Wo),(∀ w∈ws,fB C c bk 105 (Wo.v w) (ms w) (fj bk run w))→∀ (s:SS) (K B:KK) (v0 x y:Option V),s.bk=bk→gi (ws.map ms).sum s→
  ∃ s' x',FL C 5000 2 IJ (ws.map Wo.v) K B [some (.inst 5),v0,x,y] s.st=K [some (.inst 5),v0,x',y] s'.st∧cU c s s' (ws.map ms).sum qI (fun z9=>eg (fj bk run) ws) ws.length:=by
 intro ws
 induction ws with
 | nil=>
  intro _ s K B v0 x y _ _
  exact (ib_2_2 s x rfl (cU.nil.of rfl rfl fun I hI=>by subst hI;rfl))
 | cons w r ih=>
  intro h s K B v0 x y hb F
  refine ob_1_2 (h w (.head _) s hb (F.mono (Nat.le_add_right ..))) fun s1 e1 M1=>?_
  refine ob_2_2 (ih (fun p hp=>h p (.tail _ hp)) s1 K B v0 (some (Wo.v w)) y (M1.book.trans hb) (M1.fit F)) fun s2 x2 e2 M2=>?_
  refine (ib_2_2 s2 x2 ?_ ((j6 M1 M2).of (by simp only [List.map_cons,List.sum_cons]) (by simp only [List.length_cons];lia) fun z9 z9=>rfl))
  simp only [List.map_cons,gC,IJ]
  have:=fun σ=>aY (C:=C) (x0:=some (.inst 5)) (x1:=v0) (ρ:=[y]) (v:=Wo.v w) (σ:=σ) rfl
  simp only [aD,bh,aX,bp,bq,bf,am,al,ae,ac,ao,ak,aj,aC,ad,aA,aw,aB,aF,aJ,aV,aW,aY,ba,a_,bc,bj,bl,bg,bi,aR,bR,bN,bF,bG,bI,bO,bS,bT,bU,bP,aN,aM,q_nil,q_cons,aH,aQ,aq,aP,aL,aS,ai,ax,aa,aO,ay,an,aT,bn,af,ag,az,bb,aZ,bQ,aG,aK,aE,av,ah,aU,aI,this,HA,e1,show ∀ σ,eA σ (Wo.v w) (.int 0)=some (.bool false) from fun z9=>rfl,show ∀ σ,eF σ (.bool false)=some false from fun z9=>rfl]
  exact e2
theorem JH:PL 34=some GB:=by kernel_rfl
theorem JI{a b:V}:cS GB [a,b]=some [some a,some b,none,none]:=rfl
theorem zy:∀ n:Nat,mo (List.replicate n (V.bool false))=some (List.replicate n false):=by
 intro n
 induction n with
 | zero=>rfl
 | succ n ih=>show (mo (List.replicate n (V.bool false))).map _=_;rw [ih];rfl
noncomputable def j7(ms:Wo→Nat)(ws:List Wo):Nat:=(ws.map ms).sum+1
theorem zz{ws:List Wo}(ms:Wo→Nat)(hn:1≤ws.length∧ws.length≤3)(h:∀ w∈ws,fB (au PL 5000 (d+1)) c bk 105 (Wo.v w) (ms w) (fj bk run w))(hf:∀ w∈ws,Fg (cX 20) (nQ w) (fj bk run w)):∀ s:SS,s.bk=bk→gi (j7 ms ws) s→
  ∃ s',au PL 5000 (d+2) 34 [.inst 5,.tup (ws.map Wo.v)] s.st=bv V.none s'.st∧cU c s s' (j7 ms ws) qI (fun z9=>one (EM.bind (eg (fj bk run) ws) (qB c))) 1∧s'.srcs.length+1≤s.srcs.length+j7 ms ws:=by
 intro s hb F
 have hfl:ev (au PL 5000 (d+1)) [some (.inst 5),some (.tup (ws.map Wo.v)),none,none] (.tuple (.comp (.sub (.loc 4) (.int 0)) (.loc 1) (.bool true))) s.st=bv (.tup (List.replicate ws.length (.bool false))) s.st:=by
  refine ru ?_
  rw [nz (v:=.tup (ws.map Wo.v)) (vs:=ws.map Wo.v) (aW ao) rfl rfl rfl,vM (g:=fun z9=>.bool false)]
  ·simp only [aD,List.map_map,show ((fun z9=>V.bool false)∘Wo.v)=fun z9=>V.bool false from rfl,List.map_const']
  ·intro v hv
   refine ob_1_2 (List.mem_map.mp hv) fun w z9 hq113_2=>?_
   subst hq113_2
   rfl
 have hin:∀ σ,dG σ .isin (.bool true) (.tup (List.replicate ws.length (.bool false)))=some false:=by
  intro σ
  refine (?_:(mo _).map _=_)
  rw [zy]
  refine (?_:some ((List.replicate ws.length false).any fun y=>y == true)=some false)
  rw [List.any_replicate]
  split<;>rfl
 refine ob_2_2 (uN ms ws h s (fk (au PL 5000 (d+1)) 5000 [.ifs (.cmp .isin (.bool true) (.loc 3)) [.expr (.meth 101 "emit" (.loc 0) [.str "invoke_split",.len (.loc 1),.loc 3,.bin .sub (.int 1) (.len (.loc 1))])] [.expr (.meth 101 "emit" (.loc 0) [.str "invoke",.len (.loc 1),.none,.bin .sub (.int 1) (.len (.loc 1))])]] K0 B0) B0 (some (.tup (ws.map Wo.v))) none (some (.tup (List.replicate ws.length (.bool false)))) hb (F.mono (Nat.le_add_right ..))) fun s1 x1 e1 M1=>?_
 have F':gi 1 s1:=M1.fit F
 refine (ib_1_3 (s1.em ("invoke",.int ws.length,.none) (1-ws.length)) ?_ ((M1.seq (Q:=fun A=>A.length=ws.length∧∀ v∈A,cX 20 v) (cU.row (f:=qB c) (by lia) (by kernel_rfl) rfl rfl fun A hA=>?_) fun I hI l A l' e=>((fp hf).ok e).1).of rfl (by lia) fun I hI=>?_) ?_)
 ·simp only [bo JH JI,GB,aE,hfl,aD,bG,pu (v:=.tup (ws.map Wo.v)) (l:=ws.map Wo.v) (aW ao) rfl rfl]
  refine e1.trans ?_
  simp only [aD,bh,aX,bp,bq,bf,am,al,ae,ac,ao,ak,aj,aC,ad,aA,aw,aB,aF,aJ,aV,aW,aY,ba,a_,bc,bj,bl,bg,bi,aR,bR,bN,bF,bG,bI,bO,bS,bT,bU,bP,aN,aM,q_nil,q_cons,aH,aQ,aq,aP,aL,aS,ai,ax,aa,aO,ay,an,aT,bn,af,ag,az,bb,aZ,bQ,aG,aK,aE,av,ah,aU,aI,hin,rJ,lj (cO (show (-1000000:Int)<1∧(1:Int)<1000000 by decide)) (cO (show (-1000000:Int)<((ws.map Wo.v).length:Nat)∧(((ws.map Wo.v).length:Nat):Int)<1000000 by rw [List.length_map];lia)),lh]
  rw [List.length_map,ci al ac F' (show (-3:Int)≤1-ws.length∧(1:Int)-ws.length≤3 by lia)];rfl
 ·have hne:∃ x,A.head?=some x:=by
   cases A with
   | nil=>have:=hA.1;simp only [List.length_nil] at this;lia
   | cons x r=>exact ⟨x,rfl⟩
  refine ob_1_1 hne fun x0 hx0=>?_
  have ho:∀ x∈A,kN x:=fun x hx=>(hA.2 x hx).mono (by decide)
  exact ⟨fun s d=>uF hA.1 (by lia) hx0 ho,fun l v l' e=>(rH ho (by have:=hA.1;lia)).len e⟩
 ·unfold one;simp only [eU]
 ·refine ob_1_3 M1 fun code a1 a2 z9=>?_
  have:=a2.srcs
  refine (?_:s1.srcs.length+1≤_)
  unfold j7
  lia
end
end
end Mine.Internal.Q
end
section
open PySem
namespace Mine.Internal.Q
noncomputable section
noncomputable def HX:Option Str→V
 | none=>.tup [.none,.none]
 | some e=>.tup [.none,.exc (.int 1) (.str e)]
noncomputable def lI(d:Nat)(σ:St)(t:Str)(err:Option Str):Nat→List lT→Prop
 | p,[]=>au PL 5000 (d+20) 31 [.str t,.int p] σ=bv (HX err) σ
 | p,c::r=>au PL 5000 (d+20) 31 [.str t,.int p] σ=bv (.tup [c.v,.none]) σ∧lI d σ t err c.next r
theorem reads_all(d:Nat)(σ:St):(∀ x∈j4,lI d σ x.1 x.2.err 0 x.2.cmds):=by
 unfold j4
 simp only [List.forall_mem_cons,lI]
 refine ⟨⟨?_,?_⟩,⟨?_,?_⟩,⟨?_,?_,?_⟩,?_,⟨?_,?_⟩,⟨?_,?_⟩,⟨?_,?_⟩,⟨?_,?_⟩,fun x hx=>nomatch hx⟩<;>kernel_rfl
theorem Er(w d:Nat)(s:SS)(t src:Str)(r:List Wo):au PL w (d+3) 36 [.inst 5,.tup (([Pt.txt t]::r:List Wo).map Wo.v),.str src] s.st=bv (.bool false) s.st:=by kernel_rfl
section
variable {C:CF} {w d k p:Nat} {s s' s'':SS} {v:V} {l l':fS} {ρ:ck} {K B:KK} {σ σ':St} {bk:List (Str×V)} {c:Int} {run:Str→EM Str} {α β γ δ:Type} {m n:Nat} {x y:Int} {P Q:List Str→Prop} {g g':List Str→EM (List Str)}
theorem HY:PL 108=some BD:=by kernel_rfl
theorem HZ{a b c:V}:cS BD [a,b,c]=some [some a,some b,some c,none]:=rfl
theorem cU.src{L:List V}(h:cU c s s' m P g x)(hL:L.length≤s.srcs.length+m):cU c s { s' with srcs:=L } m P g x:=by
 refine ob_1_3 h fun code e1 a e2=>?_
 exact (ib_1_3 code e1 (⟨a.rows,a.dep,a.names,e1▸hL,a.same,a.nd,a.slots,a.cb⟩) e2)
noncomputable def Es(C:CF)(c:Int)(bk:List (Str×V))(m:lT)(n:Nat)(f:EM Str):Prop:=
 ∀ (s:SS) (src:Str),s.bk=bk→gi n s→∃ s',C 108 [.inst 5,m.v,.str src] s.st=bv V.none s'.st∧cU c s s' n qI (fun z9=>one f) 1
theorem zA{m:lT}(ms:Wo→Nat)(ht:∃ t r,m.words=[.txt t]::r)(hn:m.words.length≤3)(h:∀ w∈m.words,fB (au PL 5000 (d+2)) c bk 105 (Wo.v w) (ms w) (fj bk run w))(hf:∀ w∈m.words,Fg (cX 20) (nQ w) (fj bk run w)):Es (au PL 5000 (d+4)) c bk m (j7 ms m.words) (s_ bk c run m):=by
 intro s src hb F
 refine ob_2_1 ht fun t r hw=>?_
 have h1:1≤m.words.length:=by rw [hw];exact Nat.succ_le_succ (Nat.zero_le _)
 refine ob_1_3 (zz (d:=d+1) ms ⟨h1,hn⟩ h hf s hb F) fun s1 e1 M1 hs=>?_
 refine (ib_1_2 ({ s1 with srcs:=s1.srcs++[.tup [.int s.rows.length,.int s1.rows.length,.str src]] }) ?_ (M1.src (by rw [List.length_append];exact hs)))
 have F0:gi 0 s1:=M1.fit F
 have hz:s1.srcs.length≤4000:=by have:=F0.a;have:=F0.f;lia
 have hm:∀ σ,eA σ m.v (.int 0)=some (.tup (m.words.map Wo.v)):=fun z9=>rfl
 simp only [bo HY HZ,BD]
 have p0:=fun σ=>aW (C:=au PL 5000 (d+3)) (x0:=some (.inst 5)) (ρ:=[some (.str src),some (.int s.rows.length)]) (v:=m.v) (σ:=σ) rfl
 have pip:au PL 5000 (d+3) 36 [.inst 5,.tup (m.words.map Wo.v),.str src] s.st=bv (.bool false) s.st:=by
  rw [hw];exact Er 5000 d s t src r
 simp only [aD,bh,aX,bp,bq,bf,am,al,ae,ac,ao,ak,aj,aC,ad,aA,aw,aB,aF,aJ,aV,aW,aY,ba,a_,bc,bj,bl,bg,bi,aR,bR,bN,bF,bG,bI,bO,bS,bT,bU,bP,aN,aM,q_nil,q_cons,aH,aQ,aq,aP,aL,aS,ai,ax,aa,aO,ay,an,aT,bn,af,ag,az,bb,aZ,bQ,aG,aK,aE,av,ah,aU,aI,pY,qx,p0,hm,pip,show ∀ σ,eF σ (.bool false)=some false from fun z9=>rfl,Bool.not_false,e1]
 rw [qy (n:=9) (σ':=s1.st) (σ'':=s1.st) (v:=.tup [.int s.rows.length,.int s1.rows.length,.str src]) (by simp only [aD,bh,aX,bp,bq,bf,am,al,ae,ac,ao,ak,aj,aC,ad,aA,aw,aB,aF,aJ,aV,aW,aY,ba,a_,bc,bj,bl,bg,bi,aR,bR,bN,bF,bG,bI,bO,bS,bT,bU,bP,aN,aM,q_nil,q_cons,aH,aQ,aq,aP,aL,aS,ai,ax,aa,aO,ay,an,aT,bn,af,ag,az,bb,aZ,bQ,aG,aK,aE,av,ah,aU,aI,Hx]) g9 (by simp only [aD,bh,aX,bp,bq,bf,am,al,ae,ac,ao,ak,aj,aC,ad,aA,aw,aB,aF,aJ,aV,aW,aY,ba,a_,bc,bj,bl,bg,bi,aR,bR,bN,bF,bG,bI,bO,bS,bT,bU,bP,aN,aM,q_nil,q_cons,aH,aQ,aq,aP,aL,aS,ai,ax,aa,aO,ay,an,aT,bn,af,ag,az,bb,aZ,bQ,aG,aK,aE,av,ah,aU,aI,pY,qx]) g9 (e_ (by lia)),aD]
 rfl
noncomputable abbrev uO:PE:=.or (.cmp .isnot (.loc 3) .none) (.cmp .isnot (.loc 4) .none)
noncomputable def nY:List PS:=[.ifs (.cmp .gt (.attr (.loc 0) "depth") (.loc 2)) [.expr (.meth 101 "emit" (.loc 0) [.str "pop",.none,.none,.int (-1)])] [],.ifs (.cmp .isnot (.loc 4) .none) [.expr (.meth 101 "emit" (.loc 0) [.str "fail",.attr (.loc 4) "value",.attr (.loc 4) "errorcode",.int 1]),.ret .none] [],.expr (.meth 108 "command" (.loc 0) [.loc 3,.slc (.loc 1) (.sub (.loc 3) (.int 1)) (.sub (.loc 3) (.int 2))]),.asgT [3,4] (.call 31 [.loc 1,.sub (.loc 3) (.int 3)])]
noncomputable def nZ(C:CF):KK:=fk C 5000 [.ifs (.cmp .eq (.attr (.loc 0) "depth") (.loc 2)) [.expr (.meth 101 "emit" (.loc 0) [.str "push",.str "",.none,.int 1])] []] K0 B0
noncomputable def gc(cs:lT→Nat)(err:Option Str):Nat→List lT→Nat
 | i,[]=>(match err with | none=>1-i | some _=>i+1)
 | i,m::r=>i+(cs m+gc cs err 1 r)
theorem gz:dG σ .isnot v .none=some (!isNone v):=by
 cases v<;>rfl
theorem mR:cU c s (s.em ("pop",.none,.none) (-1)) 1 (fun I=>I.length=1) (fun z9=>EM.pure []) (-1):=by
 refine (ib_1_3 ([("pop",.none,.none)]) rfl (.em (by decide) (ee (by kernel_rfl))) (fun I hI=>?_))
 obtain ⟨u,rfl⟩:=List.length_eq_one_iff.mp hI
 exact mQ.pop
theorem qJ{e:Str}{b:V}(hb:plain b=true):cU c s (s.em ("fail",.str e,b) 1) 1 qI (fun z9=>one (fun l=>.ex 1 e l)) 1:=
 .row (by decide) (by kernel_rfl) rfl hb fun I hI=>⟨fun s d=>by subst hI;exact zm,fun z9 z9 z9 e=>nomatch e⟩
theorem v8{a:Nat}(h:a<1000000):EF (.int a)=some (some (a:Int)):=if_pos (pz h)
theorem BR{t:Str}{a b:Nat}(h:a<1000000)(h2:b<1000000)(h3:t.length≤100000):rT (.str t) (.int a) (.int b)=some (.str (Txt.slice t (some a) (some b))):=by
 refine (?_:(EF (.int a)).bind (fun x=>(EF (.int b)).bind _)=_)
 rw [v8 h,v8 h2]
 exact congrArg (Option.or · _) (if_pos (e_ h3))
end
end
end Mine.Internal.Q
end
section
open PySem
namespace Mine.Internal.Q
noncomputable section
noncomputable def zB:List lT→V
 | []=>.none
 | m::_=>m.v
noncomputable def zC(err:Option Str):List lT→V
 | []=>(match err with | none=>.none | some e=>.exc (.int 1) (.str e))
 | _::_=>.none
noncomputable def uP(d:Nat)(t:Str)(err:Option Str):List lT→Prop
 | []=>True
 | m::r=>∀ σ,lI d σ t err m.next r
section
variable {C:CF} {w d k p:Nat} {s s' s'':SS} {v:V} {l l':fS} {ρ:ck} {K B:KK} {σ σ':St} {bk:List (Str×V)} {c:Int} {run:Str→EM Str} {α β γ δ:Type} {m n:Nat} {x y:Int} {P Q P':List Str→Prop} {g g':List Str→EM (List Str)}
theorem cU.imp(h:cU c s s' m P g x)(hp:∀ I,P' I→P I):cU c s s' m P' g x:=by
 refine ob_1_3 h fun code e1 a e2=>?_
 exact (ib_1_3 code e1 a (fun I hI=>e2 I (hp I hI)))
theorem v9{t:Str}{err:Option Str}{ms:List lT}(h:lI d σ t err p ms):au PL 5000 (d+20) 31 [.str t,.int p] σ=bv (.tup [zB ms,zC err ms]) σ:=by
 cases ms with
 | nil=>cases err<;>exact h
 | cons m r=>exact h.1
theorem BS{f:EM Str}{A:List Str}(e:one f l=.ok A l'):A.length=1:=by
 unfold one EM.bind at e
 cases h:f l with
 | ok v l2=>rw [h] at e;cases e;rfl
 | ex=>rw [h] at e;cases e
theorem tl{t:Str}{err:Option Str}(cs:lT→Nat)(ht:t.length≤1000):∀ (ms:List lT),(∀ m∈ms,Es (au PL 5000 (d+20)) c bk m (cs m) (s_ bk c run m)∧m.a<1000∧m.b<1000)→
  ∀ (s:SS) (i n:Nat) (bot:Int),i≤1→s.bk=bk→gi (gc cs err i ms) s→s.dep=bot+i→ms.length<n→uP d t err ms→
  ∃ s',WL (au PL 5000 (d+20)) 5000 uO nY n (nZ (au PL 5000 (d+20))) B0 [some (.inst 5),some (.str t),some (.int bot),some (zB ms),some (zC err ms)] s.st=bv V.none s'.st∧
   cU c s s' (gc cs err i ms) (fun I=>I.length=i) (fun I=>one (nP bk c run err (I.headD "") ms)) (1-i):=by
 intro ms
 induction ms with
 | nil=>
  intro _ s i n bot hi hb F hd hn _
  obtain ⟨n,rfl⟩:∃ q,n=q+1:=⟨n-1,by lia⟩
  cases err with
  | none=>
   have K1:WL (au PL 5000 (d+20)) 5000 uO nY (n+1) (nZ (au PL 5000 (d+20))) B0 [some (.inst 5),some (.str t),some (.int bot),some (zB []),some (zC none [])] s.st=nZ (au PL 5000 (d+20)) [some (.inst 5),some (.str t),some (.int bot),some (zB []),some (zC none [])] s.st:=by
    rw [gN]
    simp only [aD,bh,aX,bp,bq,bf,am,al,ae,ac,ao,ak,aj,aC,ad,aA,aw,aB,aF,aJ,aV,aW,aY,ba,a_,bc,bj,bl,bg,bi,aR,bR,bN,bF,bG,bI,bO,bS,bT,bU,bP,aN,aM,q_nil,q_cons,aH,aQ,aq,aP,aL,aS,ai,ax,aa,aO,ay,an,aT,bn,af,ag,az,bb,aZ,bQ,aG,aK,aE,av,ah,aU,aI,zB,zC,gz,show isNone .none=true from rfl,Bool.not_true]
   rw [K1,nZ]
   match i,hi with
   | 0,_=>
    refine (ib_1_2 (s.em ("push",.str "",.none) 1) ?_ ((lH.imp fun I hI=>List.length_eq_zero_iff.mp hI).of rfl rfl fun I hI=>?_))
    ·simp only [aD,bh,aX,bp,bq,bf,am,al,ae,ac,ao,ak,aj,aC,ad,aA,aw,aB,aF,aJ,aV,aW,aY,ba,a_,bc,bj,bl,bg,bi,aR,bR,bN,bF,bG,bI,bO,bS,bT,bU,bP,aN,aM,q_nil,q_cons,aH,aQ,aq,aP,aL,aS,ai,ax,aa,aO,ay,an,aT,bn,af,ag,az,bb,aZ,bQ,aG,aK,aE,av,ah,aU,aI,ry,cW,show decide (s.dep=bot)=true from decide_eq_true (by lia),lh,ci am ac F (show (-3:Int)≤1∧(1:Int)≤3 by decide)]
    ·cases List.length_eq_zero_iff.mp hI;rfl
   | 1,_=>
    refine (ib_1_2 s ?_ (cU.nil.of rfl rfl fun I hI=>?_))
    ·simp only [aD,bh,aX,bp,bq,bf,am,al,ae,ac,ao,ak,aj,aC,ad,aA,aw,aB,aF,aJ,aV,aW,aY,ba,a_,bc,bj,bl,bg,bi,aR,bR,bN,bF,bG,bI,bO,bS,bT,bU,bP,aN,aM,q_nil,q_cons,aH,aQ,aq,aP,aL,aS,ai,ax,aa,aO,ay,an,aT,bn,af,ag,az,bb,aZ,bQ,aG,aK,aE,av,ah,aU,aI,ry,cW,show decide (s.dep=bot)=false from decide_eq_false (by lia)]
    ·obtain ⟨u,rfl⟩:=List.length_eq_one_iff.mp hI
     rfl
  | some e=>
   have K1:WL (au PL 5000 (d+20)) 5000 uO nY (n+1) (nZ (au PL 5000 (d+20))) B0 [some (.inst 5),some (.str t),some (.int bot),some (zB []),some (zC (some e) [])] s.st=fk (au PL 5000 (d+20)) 5000 nY (WL (au PL 5000 (d+20)) 5000 uO nY n (nZ (au PL 5000 (d+20))) B0) (nZ (au PL 5000 (d+20))) [some (.inst 5),some (.str t),some (.int bot),some .none,some (.exc (.int 1) (.str e))] s.st:=by
    simp only [gN]
    simp only [aD,bh,aX,bp,bq,bf,am,al,ae,ac,ao,ak,aj,aC,ad,aA,aw,aB,aF,aJ,aV,aW,aY,ba,a_,bc,bj,bl,bg,bi,aR,bR,bN,bF,bG,bI,bO,bS,bT,bU,bP,aN,aM,q_nil,q_cons,aH,aQ,aq,aP,aL,aS,ai,ax,aa,aO,ay,an,aT,bn,af,ag,az,bb,aZ,bQ,aG,aK,aE,av,ah,aU,aI,zB,zC,gz,show isNone .none=true from rfl,Bool.not_true,show isNone (.exc (.int 1) (.str e))=false from rfl,Bool.not_false]
   have a1:∀ σ,gh σ (.exc (.int 1) (.str e)) "value"=some (.str e):=fun z9=>by kernel_rfl
   have a2:∀ σ,gh σ (.exc (.int 1) (.str e)) "errorcode"=some (.tup [.str "NONE"]):=fun z9=>by kernel_rfl
   simp only [K1]
   match i,hi with
   | 0,_=>
    refine (ib_1_2 (s.em ("fail",.str e,.tup [.str "NONE"]) 1) ?_ (((qJ ao).imp fun I hI=>List.length_eq_zero_iff.mp hI).of rfl rfl fun I hI=>?_))
    ·simp only [nY]
     simp only [aD,bh,aX,bp,bq,bf,am,al,ae,ac,ao,ak,aj,aC,ad,aA,aw,aB,aF,aJ,aV,aW,aY,ba,a_,bc,bj,bl,bg,bi,aR,bR,bN,bF,bG,bI,bO,bS,bT,bU,bP,aN,aM,q_nil,q_cons,aH,aQ,aq,aP,aL,aS,ai,ax,aa,aO,ay,an,aT,bn,af,ag,az,bb,aZ,bQ,aG,aK,aE,av,ah,aU,aI,ry,pN,show decide (s.dep>bot)=false from decide_eq_false (by lia),gz,show isNone (.exc (.int 1) (.str e))=false from rfl,Bool.not_false,a1,a2,lh,ci am ao F (show (-3:Int)≤1∧(1:Int)≤3 by decide)]
    ·cases List.length_eq_zero_iff.mp hI;rfl
   | 1,_=>
    have F1:gi 1 s:=F.mono (k':=1) (Nat.le_succ 1)
    have F2:gi 1 (s.em ("pop",.none,.none) (-1)):=(mR (c:=c)).fit (k:=1) F
    refine (ib_1_2 ((s.em ("pop",.none,.none) (-1)).em ("fail",.str e,.tup [.str "NONE"]) 1) ?_ ((mR.seq (qJ ao) fun I hI l A l' e=>by cases e;rfl).of rfl rfl fun I hI=>?_))
    ·simp only [nY]
     simp only [aD,bh,aX,bp,bq,bf,am,al,ae,ac,ao,ak,aj,aC,ad,aA,aw,aB,aF,aJ,aV,aW,aY,ba,a_,bc,bj,bl,bg,bi,aR,bR,bN,bF,bG,bI,bO,bS,bT,bU,bP,aN,aM,q_nil,q_cons,aH,aQ,aq,aP,aL,aS,ai,ax,aa,aO,ay,an,aT,bn,af,ag,az,bb,aZ,bQ,aG,aK,aE,av,ah,aU,aI,ry,pN,show decide (s.dep>bot)=true from decide_eq_true (by lia),lh,ci ac ac F1 (show (-3:Int)≤-1∧(-1:Int)≤3 by decide),gz,show isNone (.exc (.int 1) (.str e))=false from rfl,Bool.not_false,a1,a2,ci am ao F2 (show (-3:Int)≤1∧(1:Int)≤3 by decide)]
    ·rfl
 | cons m r ih=>
  intro h s i n bot hi hb F hd hn hr
  obtain ⟨n,rfl⟩:∃ q,n=q+1:=⟨n-1,by lia⟩
  refine gk (h m (.head _)) fun hc ha hbb=>?_
  simp only [List.length_cons] at hn
  have hcur:∀ σ,au PL 5000 (d+20) 31 [.str t,.int m.next] σ=bv (.tup [zB r,zC err r]) σ:=fun σ=>v9 (hr σ)
  have hnext:uP d t err r:=by
   cases r with
   | nil=>trivial
   | cons m' r'=>exact fun σ=>(hr σ).2
  have K1:WL (au PL 5000 (d+20)) 5000 uO nY (n+1) (nZ (au PL 5000 (d+20))) B0 [some (.inst 5),some (.str t),some (.int bot),some (zB (m::r)),some (zC err (m::r))] s.st=fk (au PL 5000 (d+20)) 5000 nY (WL (au PL 5000 (d+20)) 5000 uO nY n (nZ (au PL 5000 (d+20))) B0) (nZ (au PL 5000 (d+20))) [some (.inst 5),some (.str t),some (.int bot),some m.v,some .none] s.st:=by
   simp only [gN]
   simp only [aD,bh,aX,bp,bq,bf,am,al,ae,ac,ao,ak,aj,aC,ad,aA,aw,aB,aF,aJ,aV,aW,aY,ba,a_,bc,bj,bl,bg,bi,aR,bR,bN,bF,bG,bI,bO,bS,bT,bU,bP,aN,aM,q_nil,q_cons,aH,aQ,aq,aP,aL,aS,ai,ax,aa,aO,ay,an,aT,bn,af,ag,az,bb,aZ,bQ,aG,aK,aE,av,ah,aU,aI,zB,zC,ba (show plain m.v=true from rfl),gz,show isNone m.v=false from rfl,Bool.not_false]
  have body:∀ (s1:SS),s1.bk=bk→gi (cs m+gc cs err 1 r) s1→s1.dep=bot→∃ s',fk (au PL 5000 (d+20)) 5000 [.ifs (.cmp .isnot (.loc 4) .none) [.expr (.meth 101 "emit" (.loc 0) [.str "fail",.attr (.loc 4) "value",.attr (.loc 4) "errorcode",.int 1]),.ret .none] [],.expr (.meth 108 "command" (.loc 0) [.loc 3,.slc (.loc 1) (.sub (.loc 3) (.int 1)) (.sub (.loc 3) (.int 2))]),.asgT [3,4] (.call 31 [.loc 1,.sub (.loc 3) (.int 3)])] (WL (au PL 5000 (d+20)) 5000 uO nY n (nZ (au PL 5000 (d+20))) B0) (nZ (au PL 5000 (d+20))) [some (.inst 5),some (.str t),some (.int bot),some m.v,some .none] s1.st=bv V.none s'.st∧
    cU c s1 s' (cs m+gc cs err 1 r) qI (fun z9=>one (EM.bind (s_ bk c run m) fun v=>nP bk c run err v r)) 1:=by
   intro s1 hb1 F1 hd1
   refine ob_1_2 (hc s1 (Txt.slice t (some (m.a:Int)) (some (m.b:Int))) hb1 (F1.mono (Nat.le_add_right ..))) fun s2 e2 M2=>?_
   refine ob_1_2 (ih (fun m hm=>h m (.tail _ hm)) s2 1 n bot (Nat.le_refl _) (M2.book.trans hb1) (M2.fit F1) (by rw [M2.dep,hd1];rfl) (by lia) hnext) fun s3 e3 M3=>?_
   refine (ib_1_2 s3 ?_ ((M2.seq M3 fun I hI l A l' e=>BS e).of rfl rfl fun I hI=>?_))
   ·have v1:∀ σ,eA σ m.v (.int 1)=some (.int m.a):=fun z9=>rfl
    have v2:∀ σ,eA σ m.v (.int 2)=some (.int m.b):=fun z9=>rfl
    have v3:∀ σ,eA σ m.v (.int 3)=some (.int m.next):=fun z9=>rfl
    simp only [aD,bh,aX,bp,bq,bf,am,al,ae,ac,ao,ak,aj,aC,ad,aA,aw,aB,aF,aJ,aV,aW,aY,ba,a_,bc,bj,bl,bg,bi,aR,bR,bN,bF,bG,bI,bO,bS,bT,bU,bP,aN,aM,q_nil,q_cons,aH,aQ,aq,aP,aL,aS,ai,ax,aa,aO,ay,an,aT,bn,af,ag,az,bb,aZ,bQ,aG,aK,aE,av,ah,aU,aI,rv,ba (show plain m.v=true from rfl),gz,show isNone .none=true from rfl,Bool.not_true,HB,v1,v2,v3,BR (show m.a<1000000 by lia) (show m.b<1000000 by lia) (show t.length≤100000 by lia),e2,hcur]
    exact e3
   ·rw [j5]
    show _=one (EM.bind (s_ bk c run m) fun v=>nP bk c run err v r)
    unfold one
    simp only [eU];rfl
  have htr:gc cs err i (m::r)=i+(cs m+gc cs err 1 r):=rfl
  simp only [htr] at F
  rw [K1,nY]
  match i,hi with
  | 0,_=>
   refine ob_1_2 (body s hb (F.mono (by lia)) (by lia)) fun s' e' M'=>?_
   refine (ib_1_2 s' ?_ ((M'.imp fun I hI=>List.length_eq_zero_iff.mp hI).of (by simp only [htr,Nat.zero_add]) (by decide) fun I hI=>rfl))
   rw [aI]
   simp only [aL,an,aq,aV ad,aY al,aD,ry,aX,pN,show decide (s.dep>bot)=false from decide_eq_false (by lia),aZ,aG]
   exact e'
  | 1,_=>
   have F1:gi 1 s:=F.mono (Nat.le_add_right ..)
   refine ob_1_2 (body (s.em ("pop",.none,.none) (-1)) hb ((mR (c:=c)).fit F) (by show s.dep + -1=bot;lia)) fun s' e' M'=>?_
   refine (ib_1_2 s' ?_ ((mR.seq M' fun I hI l A l' e=>by cases e;rfl).of htr.symm (by decide) fun I hI=>rfl))
   rw [aI]
   simp only [an,aq,aV ad,aY al,aD,ry,aX,pN,show decide (s.dep>bot)=true from decide_eq_true (by lia),bb,av,aG,ax,lh,q_cons,q_nil,aJ,aw,aF,ci ac ac F1 (show (-3:Int)≤-1∧(-1:Int)≤3 by decide)]
   exact e'
theorem H_:PL 107=some BC:=by kernel_rfl
theorem Ia{a b:V}:cS BC [a,b]=some [some a,some b,none,none,none]:=rfl
theorem tm{t:Str}{sc:uH}(cs:lT→Nat)(ht:t.length≤1000)(hn:sc.cmds.length<4000)(hr:∀ σ,lI d σ t sc.err 0 sc.cmds)(h:∀ m∈sc.cmds,Es (au PL 5000 (d+20)) c bk m (cs m) (s_ bk c run m)∧m.a<1000∧m.b<1000):fB (au PL 5000 (d+21)) c bk 107 (.str t) (gc cs sc.err 0 sc.cmds) (p7 bk c run sc):=by
 intro s hb F
 have hcur:=v9 (hr s.st)
 have hnext:uP d t sc.err sc.cmds:=by
  cases e:sc.cmds with
  | nil=>trivial
  | cons m' r'=>exact fun σ=>by have:=hr σ;simp only [e] at this;exact this.2
 refine ob_1_2 (tl cs ht sc.cmds h s 0 5000 s.dep (by decide) hb F (by lia) (by lia) hnext) fun s' e' M'=>?_
 refine ⟨s',?_,(M'.imp (P':=qI) fun I hI=>by subst hI;rfl).of rfl (by decide) fun I hI=>by cases hI;rfl⟩
 simp only [bo H_ Ia,BC]
 simp only [aD,bh,aX,bp,bq,bf,am,al,ae,ac,ao,ak,aj,aC,ad,aA,aw,aB,aF,aJ,aV,aW,aY,ba,a_,bc,bj,bl,bg,bi,aR,bR,bN,bF,bG,bI,bO,bS,bT,bU,bP,aN,aM,q_nil,q_cons,aH,aQ,aq,aP,aL,aS,ai,ax,aa,aO,ay,an,aT,bn,af,ag,az,bb,aZ,bQ,aG,aK,aE,av,ah,aU,aI,rv,ry,show (0:Int)=((0:Nat):Int) from rfl,hcur]
 rw [uz (ρ':=[some (.inst 5),some (.str t),some (.int s.dep),some (zB sc.cmds),some (zC sc.err sc.cmds)]) rfl,vL]
 exact e'
end
end
end Mine.Internal.Q
end
section
open PySem
namespace Mine.Internal.Q
noncomputable section
noncomputable def Et:Pt→Nat
 | .cmd _=>3
 | _=>1
noncomputable def FZ(m:lT):Nat:=j7 (wr Et) m.words
noncomputable def uQ(s:uH):Nat:=gc FZ s.err 0 s.cmds
noncomputable def CP:Pt→Bool
 | .var u=>rA u
 | .elt _ i=>CP i
 | _=>true
noncomputable def CQ:List Wo→Bool
 | [.txt _]::_=>true
 | _=>false
noncomputable def zD(m:lT):Bool:=CQ m.words&&m.words.all (fun w=>!w.isEmpty&&w.all CP)&&Nat.ble m.a 999&&Nat.ble m.b 999
theorem zE{ws:List Wo}(h:CQ ws=true):∃ t r,ws=[.txt t]::r:=by
 cases ws with
 | nil=>exact j9 h
 | cons w r=>cases w with
  | nil=>exact j9 h
  | cons a w=>cases a with
   | txt t=>cases w with
    | nil=>exact ⟨t,r,rfl⟩
    | cons=>exact j9 h
   | _=>exact j9 h
theorem zF:∀ x∈j4,(Nat.ble x.1.length 1000&&x.2.cmds.all zD&&Nat.ble x.2.cmds.length 3&&Nat.ble (uQ x.2) 9)=true:=by
 have:j4.all (fun x=>Nat.ble x.1.length 1000&&x.2.cmds.all zD&&Nat.ble x.2.cmds.length 3&&Nat.ble (uQ x.2) 9)=true:=by kernel_rfl
 exact List.all_eq_true.mp this
section
variable {C:CF} {w d k p:Nat} {s s' s'':SS} {v:V} {l l':fS} {ρ:ck} {K B:KK} {σ σ':St} {bk:List (Str×V)} {c:Int} {run:Str→EM Str} {α β γ δ:Type} {m n:Nat} {x y:Int} {P Q P':List Str→Prop} {g g':List Str→EM (List Str)}
theorem tn{t:Str}{sc:uH}(Bk:dF bk)(hm:(t,sc)∈j4)(hr:∀ m∈sc.cmds,∀ t,(∃ w∈m.words,Pt.cmd t∈w)→fB (au PL 5000 (d+16)) c bk 107 (.str t) 3 (run t)∧Fg (cX 5) 1 (run t)):fB (au PL 5000 (d+21)) c bk 107 (.str t) (uQ sc) (p7 bk c run sc):=by
 have F:=lG _ hm
 have B:=zF _ hm
 simp only [Bool.and_eq_true,Bool.and_eq_true,Bool.and_eq_true] at B
 refine bC B fun hq33_0 b4=>?_
 obtain ⟨⟨b1,b2⟩,b3⟩:=hq33_0
 have b3':sc.cmds.length≤3:=Nat.le_of_ble_eq_true b3
 refine tm FZ (Nat.le_of_ble_eq_true b1) (by lia) (fun σ=>reads_all d σ _ hm) fun m hmm=>?_
 have bm:=List.all_eq_true.mp b2 m hmm
 unfold zD at bm
 simp only [Bool.and_eq_true,Bool.and_eq_true,Bool.and_eq_true] at bm
 refine bC bm fun hq39_0 c4=>?_
 obtain ⟨⟨c1,c2⟩,c3⟩:=hq39_0
 have ha:m.a≤999:=Nat.le_of_ble_eq_true c3
 have hb:m.b≤999:=Nat.le_of_ble_eq_true c4
 have ok:=F.ok.cmds m hmm
 refine ⟨zA (d:=d+16) (wr Et) (zE c1) ok.le (fun w hw=>?_) (fun w hw=>?_),by lia,by lia⟩
 ·have hw2:=List.all_eq_true.mp c2 w hw
  simp only [Bool.and_eq_true] at hw2
  have hl:=(ok.ws w hw).1
  have hne:1≤w.length:=by
   cases w with
   | nil=>cases hw2.1
   | cons=>exact Nat.succ_le_succ (Nat.zero_le _)
  refine xd (d:=d+17) (ml (d:=d+15) Et ⟨hne,by lia⟩ (fun q hq=>?_) (fun q hq=>?_))
  ·have hp:=(ok.ws w hw).2 q hq
   have hv:=List.all_eq_true.mp hw2.2 q hq
   cases q with
   | txt u=>exact vX
   | var u=>exact vY (d:=d+14) Bk (Nat.le_trans hp.1 (by decide)) hv
   | elt=>exact hp.elim
   | cmd u=>exact vZ (hr m hmm u (ib_1_2 w hw hq)).1
  ·exact ⟨_,zo Bk ((ok.ws w hw).2 q hq) fun u e=>(hr m hmm u (ib_1_2 w hw (e▸hq))).2⟩
 ·exact mP Bk (ok.ws w hw).1 (ok.ws w hw).2 fun u hu=>(hr m hmm u (ib_1_2 w hw hu)).2
theorem xe(Bk:dF bk):fB (au PL 5000 (d+21)) c bk 107 (.str "rec 3") 3 (p8 bk c "rec 3"):=by
 have F:=lG _ rI
 have e:p8 bk c "rec 3"=p7 bk c (fun z9=>EM.pure "") ⟨[⟨[[.txt "rec"],[.txt "3"]],0,5,5⟩],none⟩:=by
  unfold p8;rw [F.lk];rfl
 refine tn Bk rI fun m hm t ⟨w,hw,ht⟩=>?_
 simp only [List.mem_singleton] at hm;subst hm
 simp only [List.mem_cons,List.not_mem_nil,or_false] at hw
 rcases hw with rfl | rfl<;>(simp only [List.mem_singleton] at ht;cases ht)
theorem zG{t:Str}{sc:uH}(Bk:dF bk)(hm:(t,sc)∈j4):fB (au PL 5000 (d+26)) c bk 107 (.str t) (uQ sc) (mi bk c t):=by
 have F:=lG _ hm
 have e:mi bk c t=p7 bk c (p8 bk c) sc:=by
  unfold mi;rw [F.lk];rfl
 simp only [e]
 refine tn (d:=d+5) Bk hm fun m hmm u ⟨w,hw,hu⟩=>?_
 obtain rfl:u="rec 3":=((F.ok.cmds m hmm).ws w hw).2 _ hu
 exact ⟨xe Bk,(zu (d:=0) (k:=2) Bk).1⟩
noncomputable def nA:Pt→Nat
 | .cmd t=>uQ ((bE t j4).getD ta)
 | .elt _ i=>nA i+1
 | _=>1
theorem BU{p:Pt}(Bk:dF bk)(hv:CP p=true)(h:vW p):CO (au PL 5000 (d+26)) c bk (mi bk c) (nA p) p:=by
 cases p with
 | txt u=>exact vX
 | var u=>exact vY (d:=d+24) Bk (Nat.le_trans h.1 (by decide)) hv
 | elt=>exact h.elim
 | cmd t=>
  obtain ⟨sc,hs⟩:=h
  have e:nA (.cmd t)=uQ sc:=by
   refine (?_:uQ ((bE t j4).getD ta)=_)
   rw [(lG _ hs).lk];rfl
  simp only [e]
  exact vZ (zG Bk hs)
theorem Ib{p:Pt}(Bk:dF bk)(hv:CP p=true)(h:tf p):CO (au PL 5000 (d+27)) c bk (mi bk c) (nA p) p:=by
 cases p with
 | txt u=>exact BU (d:=d+1) Bk hv h
 | var u=>exact BU (d:=d+1) Bk hv h
 | cmd u=>exact BU (d:=d+1) Bk hv h
 | elt a i=>
  have hi:=(zw (d:=0) (k:=2) (c:=c) (p:=i) Bk h.2).fg Bk
  have:=ml (d:=d+25) (c:=c) (ps:=[i]) nA ⟨Nat.le_refl _,Nat.le_of_ble_eq_true rfl⟩ (fun p hp=>by rw [List.mem_singleton] at hp;subst hp;exact BU (d:=d) Bk hv h.2) (fun p hp=>by rw [List.mem_singleton] at hp;subst hp;exact ⟨_,hi⟩)
  simp only [pL] at this
  exact BP (d:=d+26) Bk h.1 hi this
theorem xf{ps:List Pt}(Bk:dF bk)(hn:1≤ps.length∧ps.length≤3)(h:∀ p∈ps,tf p∧CP p=true):fB (au PL 5000 (d+28)) c bk 106 (.tup (ps.map Pt.v)) (wr nA ps) (fj bk (mi bk c) ps):=
 ml (d:=d+26) nA hn (fun p hp=>Ib Bk (h p hp).2 (h p hp).1) fun p hp=>⟨_,(zx (d:=0) (k:=2) (c:=c) Bk (h p hp).1).fg Bk⟩
end
end
end Mine.Internal.Q
end
section
open PySem
namespace Mine.Internal.Q
noncomputable section
noncomputable def uR(fa ft fe:EM Str):EM Str:=EM.bind fa fun v=>EM.bind (fN v) fun q=>if q then ft else fe
noncomputable def tq(o:Bool)(fb:EM Str)(v:Str):EM Str:=EM.bind (fN v) fun q=>if q=o then EM.pure (f0 o) else EM.bind fb fun u=>EM.bind (fN u) fun r=>EM.pure (f0 r)
noncomputable abbrev fq(op:Str)(a b:V):List jN:=[(op,a,b)]
noncomputable def n8(o:Bool):Str:=if o then "jump_true" else "jump_false"
section
variable {C:CF} {w d k p:Nat} {s s' s'':SS} {v:V} {l l':fS} {ρ:ck} {K B:KK} {σ σ':St} {bk:List (Str×V)} {c:Int} {run:Str→EM Str} {α β γ δ:Type} {m n:Nat} {x y:Int} {P Q P':List Str→Prop} {g g':List Str→EM (List Str)} {a b e:List jN} {fa ft fe fb:EM Str}
theorem hX{f:EM Str}{res:ER (List Str)}{K:List Str→fS→Prop}:jU (one f l) res K↔jU (f l) res fun v l'=>K [v] l':=jU.bind
theorem BV(ha:mQ c bk p a [] (one fa))(ht:mQ c bk (p+a.length+1) b [] (one ft))(he:mQ c bk (p+a.length+1+b.length+1) e [] (one fe))(hv:∀ l v l',fa l=.ok v l'→v.length≤1000) :
  mQ c bk p (a++(fq "jump_false" (.int (p+a.length+1+b.length+1:Nat)) .none++(b++(fq "jump" (.int (p+a.length+1+b.length+1+e.length:Nat)) .none++e)))) [] (one (uR fa ft fe)):=by
 intro s d hat hz hbk T l res hE
 have hle:=hat.le (by intro q;have:=congrArg List.length q;simp at this)
 simp only [fq,List.length_append,List.length_cons,List.length_nil] at hE hle
 have h1:=hat.right.left.one
 have h2:=hat.right.right.left
 have h3:=hat.right.right.right.left.one
 have h4:=hat.right.right.right.right
 simp only [hX] at hE
 unfold uR at hE
 rw [jU.bind] at hE
 refine ha s d hat.left hz hbk T l res (hX.mpr (hE.imp fun v l' ev hE=>?_))
 simp only [jU.bind] at hE
 refine vR (t:=false) hz h1 ⟨by lia,by lia⟩ (hv _ _ _ ev) (hE.imp fun q l'' eq hE=>?_)
 cases q with
 | false=>
  have:=he s d h4 hz hbk T l'' res (hX.mpr ?_)
  ·rw [List.append_nil] at this;exact this
  ·refine hE.imp fun u l3 z9 hV=>?_
   rw [show p+(a.length+(0+1+(b.length+(0+1+e.length))))=p+a.length+1+b.length+1+e.length by lia] at hV
   exact hV
 | true=>
  have:=ht s d h2 hz hbk T l'' res (hX.mpr ?_)
  ·rw [List.append_nil] at this;exact this
  ·refine hE.imp fun u l3 z9 hV=>vQ hz h3 ⟨by lia,by lia⟩ ?_
   rw [show p+(a.length+(0+1+(b.length+(0+1+e.length))))=p+a.length+1+b.length+1+e.length by lia] at hV
   exact hV
theorem p9{v u:Str}(h:EM.bind (fN v) (fun r=>EM.pure (f0 r)) l=.ok u l'):l'.length≤l.length+1:=by
 unfold EM.bind at h
 cases e:fN v l with
 | ok q l2=>rw [e] at h;cases h;rw [kw e];exact Nat.le_refl _
 | ex=>rw [e] at h;cases h
theorem BW{o:Bool}{v:Str}(hb:mQ c bk (p+1) b [] (one fb))(hv:v.length≤1000)(hu:∀ l v l',fb l=.ok v l'→v.length≤1000) :
  mQ c bk p (fq (n8 o) (.int (p+1+b.length+2:Nat)) .none++(b++(fq "truth" .none .none++(fq "jump" (.int (p+1+b.length+3:Nat)) .none++fq "push" (.str (f0 o)) .none)))) [v] (one (tq o fb v)):=by
 intro s d hat hz hbk T l res hE
 have hle:=hat.le (by intro q;have:=congrArg List.length q;simp at this)
 simp only [fq,List.length_append,List.length_cons,List.length_nil] at hE hle
 have h1:=hat.left.one
 have h2:=hat.right.left
 have h3:=hat.right.right.left
 have h4:=hat.right.right.right.left.one
 have h5:=hat.right.right.right.right
 simp only [fq,List.length_cons,List.length_nil,Nat.zero_add] at h2 h3 h4 h5
 simp only [hX] at hE
 unfold tq at hE
 simp only [jU.bind] at hE
 refine vR (t:=o) hz h1 ⟨by lia,by lia⟩ hv (hE.imp fun q l' eq hE=>?_)
 have fY:∀ u l',VF d c s (p+(0+1+(b.length+(0+1+(0+1+(0+1)))))) (T++[u]) l' res→VF d c s (p+1+b.length+3) (T++[u]) l' res:=fun u l' h=>by
  rw [show p+1+b.length+3=p+(0+1+(b.length+(0+1+(0+1+(0+1))))) by lia];exact h
 by_cases e:q=o
 ·rw [if_pos e] at hE ⊢
  have:=mQ.row (c:=c) (p:=p+1+b.length+2) (I:=[]) (r:=("push",.str (f0 o),.none)) (g:=EM.pure (f0 o)) (bk:=bk) (fun s d z9=>s8) (by kernel_rfl) (by kernel_rfl) rfl rfl (fun l v l' e=>pM e) s d (by
   simp only [show p+1+b.length+2=p+1+b.length+1+1 by lia];exact h5) hz hbk T l' res (fY _ _ hE)
  rw [List.append_nil] at this
  exact this
 ·rw [if_neg e] at hE ⊢
  rw [jU.bind] at hE
  have:=hb s d h2 hz hbk T l' res (hX.mpr (hE.imp fun u l2 eu hE=>?_))
  ·rw [List.append_nil] at this;exact this
  ·refine mQ.row (c:=c) (I:=[u]) (r:=("truth",.none,.none)) (g:=EM.bind (fN u) fun r=>EM.pure (f0 r)) (fun s d z9=>w5 (hu _ _ _ eu)) (by kernel_rfl) (by kernel_rfl) rfl rfl (fun l v l' e=>p9 e) s d h3 hz hbk T l2 res (hX.mpr (hE.imp fun u' l3 z9 hE=>?_))
   exact vQ (p:=p+1+b.length+1) hz h4 ⟨by lia,by lia⟩ (fY _ _ hE)
theorem gH.patch{r r':jN}(h:gH s s' (a++([r]++b)) x)(hr:∀ sl ns,gy sl ns r')(hp:p=s.rows.length+a.length):gH s { s' with rows:=s'.rows.set p r' } (a++([r']++b)) x:=by
 have hl:(a++([r']++b)).length=(a++([r]++b)).length:=by simp only [List.length_append,List.length_cons,List.length_nil]
 refine ⟨?_,h.dep,hl▸h.names,hl▸h.srcs,h.same,h.nd,fun q hq=>?_,hl▸h.cb⟩
 ·show s'.rows.set p r'=_
  rw [h.rows,hp,← List.append_assoc,← List.length_append,List.set_append_right _ _ (Nat.le_refl _),Nat.sub_self,List.append_assoc]
  rfl
 ·rcases List.mem_append.mp hq with hq | hq
  ·exact h.slots q (List.mem_append_left _ hq)
  ·rcases List.mem_append.mp hq with hq | hq
   ·simp only [List.mem_singleton] at hq;subst hq;exact hr _ _
   ·exact h.slots q (List.mem_append_right _ (List.mem_append_right _ hq))
theorem gi.set{r:jN}(h:gi k s):gi k { s with rows:=s.rows.set p r }:=by
 refine ⟨?_,h.b,h.c,?_,?_⟩
 ·show (s.rows.set p r).length+k≤_
  rw [List.length_set];exact h.a
 ·show _≤(s.rows.set p r).length
  simp only [List.length_set];exact h.e
 ·show _≤(s.rows.set p r).length
  simp only [List.length_set];exact h.f
end
end
end Mine.Internal.Q
end
section
open PySem
namespace Mine.Internal.Q
noncomputable section
section
variable {C:CF} {w d k p:Nat} {s s' s'':SS} {v:V} {l l':fS} {ρ:ck} {K B:KK} {σ σ':St} {bk:List (Str×V)} {c:Int} {run:Str→EM Str} {α β γ δ:Type} {m n:Nat} {x y:Int} {P Q P':List Str→Prop} {g g':List Str→EM (List Str)} {a b e:List jN} {fa ft fe fb:EM Str}
theorem v_{r:jN}(h:s'.rows=s.rows++([r]++b)):s'.rows[s.rows.length]?=some r:=by
 rw [h,List.getElem?_append_right (Nat.le_refl _),Nat.sub_self];rfl
theorem gH.cast(h:gH s s' a x)(e:a=b)(hx:x=y):gH s s' b y:=e▸hx▸h
theorem zH:(-3:Int)≤-1∧(-1:Int)≤3:=by decide
theorem Eu:(-3:Int)≤1∧(1:Int)≤3:=by decide
theorem F8:(-3:Int)≤0∧(0:Int)≤3:=by decide
theorem gi.em{r:jN}{x:Int}(h:gi (1+k) s)(hx:-3≤x∧x≤1):gi k (s.em r x):=by
 obtain ⟨a,b,c,e,f⟩:=h
 refine ⟨?_,?_,?_,?_,?_⟩
 ·show (s.rows++[r]).length+k≤_
  rw [List.length_append];simp only [List.length_cons,List.length_nil];lia
 ·show s.dep+x+k≤_
  lia
 ·show _≤s.dep+x
  lia
 ·show s.names.length≤(s.rows++[r]).length
  simp only [List.length_append];simp only [List.length_cons,List.length_nil];lia
 ·show s.srcs.length≤(s.rows++[r]).length
  simp only [List.length_append];simp only [List.length_cons,List.length_nil];lia
theorem jO{r:jN}:(s.em r x).rows.length=s.rows.length+1:=by
 refine (?_:(s.rows++[r]).length=_)
 rw [List.length_append];rfl
theorem om{op:Str}(h:(decide (op="start") || decide (op="each_step"))=false):(([("start":Str),"each_step"]).any fun y=>decide (y=op))=false:=by
 simp only [Bool.or_eq_false_iff] at h
 have h1:=of_decide_eq_false h.1
 have h2:=of_decide_eq_false h.2
 simp only [List.any_cons,List.any_nil,Bool.or_false,Bool.or_eq_false_iff,decide_eq_false_iff_not]
 exact ⟨fun e=>h1 e.symm,fun e=>h2 e.symm⟩
theorem P3:PL 3=some f3:=by kernel_rfl
theorem E3{a b:V}:cS f3 [a,b]=some [some a,some b,none,none]:=rfl
theorem tr{va vt ve:V}{ma mt me:Nat}(ha:fB (au PL 5000 (d+1)) c bk 5 va ma fa)(ht:fB (au PL 5000 (d+1)) c bk 5 vt mt ft)(he:fB (au PL 5000 (d+1)) c bk 5 ve me fe)(hv:∀ l v l',fa l=.ok v l'→v.length≤1000) :
  fB (au PL 5000 (d+2)) c bk 3 (.tup [.str "if",va,vt,ve]) (ma+(1+(mt+(1+me)))) (uR fa ft fe):=by
 intro s hb F
 refine ob_1_2 (ha s hb (F.mono (Nat.le_add_right ..))) fun s1 e1 M1=>?_
 have F1:gi (1+(mt+(1+me))) s1:=M1.fit F
 have F2:gi (mt+(1+me)) (s1.em ("jump_false",.none,.none) (-1)):=F1.em (by decide)
 refine ob_1_2 (ht (s1.em ("jump_false",.none,.none) (-1)) (M1.book.trans hb) (F2.mono (Nat.le_add_right ..))) fun s3 e3 M3=>?_
 have F3:gi (1+me) s3:=M3.fit F2
 have F4:gi me (s3.em ("jump",.none,.none) (-1)):=F3.em (by decide)
 refine ob_1_3 M1 fun ca la Aa Xa=>?_
 refine ob_1_3 M3 fun cb lb Ab Xb=>?_
 have A14:gH s1 (s3.em ("jump",.none,.none) (-1)) (fq "jump_false" .none .none++(cb++fq "jump" .none .none)) (-1+(1 + -1)):=(gH.em (by decide) (ee (by kernel_rfl))).trans (Ab.trans (gH.em (by decide) (ee (by kernel_rfl))))
 have A4:=Aa.trans A14
 have hr1:=v_ A14.rows
 have hl1:s1.rows.length=s.rows.length+ca.length:=by simp only [Aa.rows,List.length_append]
 have hl3:s3.rows.length=s.rows.length+ca.length+1+cb.length:=by simp only [Ab.rows,List.length_append,jO,hl1]
 have hp1:=km (w:=5000) (d:=d) (t:=(s3.em ("jump",.none,.none) (-1)).rows.length) hr1 rfl (F4.mono (Nat.zero_le _)) (om (by kernel_rfl))
 have A5:=A4.patch (r':=("jump_false",.int (s3.em ("jump",.none,.none) (-1)).rows.length,.none)) (ee (by kernel_rfl)) hl1
 have F5:=F4.set (p:=s1.rows.length) (r:=("jump_false",.int (s3.em ("jump",.none,.none) (-1)).rows.length,.none))
 refine ob_1_2 (he _ (A5.same.2.1.trans hb) F5) fun s6 e6 M6=>?_
 have F6:gi 0 s6:=M6.fit F5
 refine ob_1_3 M6 fun ce le Ae Xe=>?_
 have A6:=(A5.trans Ae).cast (b:=(ca++(fq "jump_false" (.int (s3.em ("jump",.none,.none) (-1)).rows.length) .none++cb))++(fq "jump" .none .none++ce)) (by simp only [List.append_assoc]) rfl
 have hr3:s6.rows[s3.rows.length]?=some (("jump",.none,.none):jN):=by
  have:s3.rows.length=(s.rows++(ca++(fq "jump_false" (.int (s3.em ("jump",.none,.none) (-1)).rows.length) .none++cb))).length:=by
   rw [hl3];simp only [fq,List.length_append,List.length_cons,List.length_nil];lia
  rw [A6.rows,← List.append_assoc,this,List.getElem?_append_right (Nat.le_refl _),Nat.sub_self];rfl
 have hp3:=km (w:=5000) (d:=d) (t:=s6.rows.length) hr3 rfl F6 (om (by kernel_rfl))
 have A7:=A6.patch (p:=s3.rows.length) (r':=("jump",.int s6.rows.length,.none)) (ee (by kernel_rfl)) (by simp only [hl3];simp only [fq,List.length_append,List.length_cons,List.length_nil];lia)
 refine ⟨{ s6 with rows:=s6.rows.set s3.rows.length ("jump",.int s6.rows.length,.none) },?_,ca++(fq "jump_false" (.int (s3.em ("jump",.none,.none) (-1)).rows.length) .none++(cb++(fq "jump" (.int s6.rows.length) .none++ce))),?_,A7.cast (by simp only [List.append_assoc]) (by decide),fun I hI=>?_⟩
 ·simp only [bo P3 E3,f3]
  simp only [aD,bh,aX,bp,bq,bf,am,al,ae,ac,ao,ak,aj,aC,ad,aA,aw,aB,aF,aJ,aV,aW,aY,ba,a_,bc,bj,bl,bg,bi,aR,bR,bN,bF,bG,bI,bO,bS,bT,bU,bP,aN,aM,q_nil,q_cons,aH,aQ,aq,aP,aL,aS,ai,ax,aa,aO,ay,an,aT,bn,af,ag,az,bb,aZ,bQ,aG,aK,aE,av,ah,aU,aI,gx,ky,w9,e1,lh,ci ac ac (F1.mono (Nat.le_add_right ..)) zH,e3,ci ac ac (F3.mono (Nat.le_add_right ..)) zH,FO,pY,qx,hp1,e6,hp3]
 ·simp only [fq,List.length_append,List.length_cons,List.length_nil,la,lb,le]<;>lia
 ·subst hI
  have hl4:(s3.em ("jump",.none,.none) (-1)).rows.length=s.rows.length+ca.length+1+cb.length+1:=by simp only [jO,hl3]
  have hl6:s6.rows.length=s.rows.length+ca.length+1+cb.length+1+ce.length:=by
   simp only [Ae.rows,List.length_append]
   show (List.set _ _ _).length+_=_
   rw [List.length_set,hl4]
  have Xb':=Xb [] rfl
  have Xe':=Xe [] rfl
  rw [jO,hl1] at Xb'
  rw [show ({ (s3.em ("jump",.none,.none) (-1)) with rows:=(s3.em ("jump",.none,.none) (-1)).rows.set s1.rows.length ("jump_false",.int (s3.em ("jump",.none,.none) (-1)).rows.length,.none) }:SS).rows.length=(s3.em ("jump",.none,.none) (-1)).rows.length from List.length_set ..,hl4] at Xe'
  rw [hl4,hl6]
  have k1:s1.bk=s.bk:=Aa.same.2.1
  have k3:s3.bk=s.bk:=Ab.same.2.1.trans k1
  refine BV (Xa [] rfl) ?_ ?_ hv
  ·exact k1▸Xb'
  ·exact k3▸Xe'
theorem P2:PL 2=some f2:=by kernel_rfl
theorem E2{a b:V}:cS f2 [a,b]=some [some a,some b,none,none,none]:=rfl
noncomputable def gj(o:Bool):Str:=if o then "or" else "and"
theorem zI{i:Nat}{q:Bool}(h:ρ[i]?=some (some v))(h2:eF σ v=some q):fw C ρ (.loc i) σ=bv q σ:=by
 refine (?_:lift ((jV ρ i).bind (eF σ)) σ=_)
 rw [show jV ρ i=some v from congrArg (Option.bind · id) h]
 exact congrArg (lift · σ) h2
theorem uS{o:Bool}{va vb:V}{mb:Nat}(hb:fB (au PL 5000 (d+1)) c bk 5 vb mb fb)(hu:∀ l v l',fb l=.ok v l'→v.length≤1000)(hbk:s.bk=bk)(F:gi (1+(mb+3)) s) :
  ∃ s',au PL 5000 (d+2) 2 [.inst 5,.tup [.str (gj o),va,vb]] s.st=bv V.none s'.st∧cU c s s' (mb+4) (fun I=>∃ v,I=[v]∧v.length≤1000) (fun I=>one (tq o fb (I.headD ""))) 0:=by
 have F1:gi (mb+3) (s.em (n8 o,.none,.none) (-1)):=F.em (by decide)
 refine ob_1_2 (hb (s.em (n8 o,.none,.none) (-1)) hbk (F1.mono (Nat.le_add_right ..))) fun s2 e2 M2=>?_
 have F2:gi 3 s2:=M2.fit F1
 have F3:gi 2 (s2.em ("truth",.none,.none) 0):=gi.em (k:=2) F2 (by decide)
 have F4:gi 1 ((s2.em ("truth",.none,.none) 0).em ("jump",.none,.none) (-1)):=gi.em (k:=1) F3 (by decide)
 refine ob_1_3 M2 fun cb lb Ab Xb=>?_
 have hj:∀ (a b:V) sl ns,gy sl ns (n8 o,a,b):=fun a b=>ee (by cases o<;>kernel_rfl)
 have A4:gH s ((s2.em ("truth",.none,.none) 0).em ("jump",.none,.none) (-1)) (fq (n8 o) .none .none++(cb++(fq "truth" .none .none++fq "jump" .none .none))) (-1+(1+(0 + -1))):=(gH.em (by decide) (hj _ _)).trans (Ab.trans ((gH.em (by decide) (ee (by kernel_rfl))).trans (gH.em (by decide) (ee (by kernel_rfl)))))
 have hr1:=v_ A4.rows
 have hl2:s2.rows.length=s.rows.length+1+cb.length:=by simp only [Ab.rows,List.length_append,jO]
 have hl3:(s2.em ("truth",.none,.none) 0).rows.length=s.rows.length+1+cb.length+1:=by simp only [jO,hl2]
 have hl4:((s2.em ("truth",.none,.none) 0).em ("jump",.none,.none) (-1)).rows.length=s.rows.length+1+cb.length+2:=by simp only [jO,hl3]
 have hp1:=km (w:=5000) (d:=d) (t:=((s2.em ("truth",.none,.none) 0).em ("jump",.none,.none) (-1)).rows.length) hr1 rfl (F4.mono (Nat.zero_le _)) (om (by cases o<;>kernel_rfl))
 have A5:=A4.patch (a:=[]) (p:=s.rows.length) (r':=(n8 o,.int ((s2.em ("truth",.none,.none) 0).em ("jump",.none,.none) (-1)).rows.length,.none)) (hj _ _) rfl
 have F5:=F4.set (p:=s.rows.length) (r:=(n8 o,.int ((s2.em ("truth",.none,.none) 0).em ("jump",.none,.none) (-1)).rows.length,.none))
 generalize hs5:({ ((s2.em ("truth",.none,.none) 0).em ("jump",.none,.none) (-1)) with rows:=((s2.em ("truth",.none,.none) 0).em ("jump",.none,.none) (-1)).rows.set s.rows.length (n8 o,.int ((s2.em ("truth",.none,.none) 0).em ("jump",.none,.none) (-1)).rows.length,.none) }:SS)=s5 at hp1 A5 F5
 have F6:gi 0 (s5.em ("push",.str (f0 o),.none) 1):=gi.em (k:=0) F5 (by decide)
 have A6:=(A5.trans (gH.em (s:=s5) (r:=("push",.str (f0 o),.none)) (x:=1) (by decide) (ee (by kernel_rfl)))).cast (b:=(fq (n8 o) (.int ((s2.em ("truth",.none,.none) 0).em ("jump",.none,.none) (-1)).rows.length) .none++(cb++fq "truth" .none .none))++(fq "jump" .none .none++fq "push" (.str (f0 o)) .none)) (by simp only [List.append_assoc,List.nil_append]) rfl
 have hl5:s5.rows.length=s.rows.length+1+cb.length+2:=by
  rw [← hs5,← hl4];exact List.length_set ..
 have hr3:(s5.em ("push",.str (f0 o),.none) 1).rows[(s2.em ("truth",.none,.none) 0).rows.length]?=some (("jump",.none,.none):jN):=by
  have:(s2.em ("truth",.none,.none) 0).rows.length=(s.rows++(fq (n8 o) (.int ((s2.em ("truth",.none,.none) 0).em ("jump",.none,.none) (-1)).rows.length) .none++(cb++fq "truth" .none .none))).length:=by
   rw [hl3];simp only [fq,List.length_append,List.length_cons,List.length_nil];lia
  rw [A6.rows,← List.append_assoc,this,List.getElem?_append_right (Nat.le_refl _),Nat.sub_self];rfl
 have hp3:=km (w:=5000) (d:=d) (t:=(s5.em ("push",.str (f0 o),.none) 1).rows.length) hr3 rfl F6 (om (by kernel_rfl))
 have A7:=A6.patch (r':=("jump",.int (s5.em ("push",.str (f0 o),.none) 1).rows.length,.none)) (p:=(s2.em ("truth",.none,.none) 0).rows.length) (ee (by kernel_rfl)) (by simp only [hl3];simp only [fq,List.length_append,List.length_cons,List.length_nil];lia)
 refine ⟨_,?_,fq (n8 o) (.int ((s2.em ("truth",.none,.none) 0).em ("jump",.none,.none) (-1)).rows.length) .none++(cb++(fq "truth" .none .none++(fq "jump" (.int (s5.em ("push",.str (f0 o),.none) 1).rows.length) .none++fq "push" (.str (f0 o)) .none))),?_,A7.cast (by simp only [List.append_assoc]) (by decide),fun I hI=>?_⟩
 ·simp only [bo P2 E2,f2]
  have ko:decide (gj o="or")=o:=by cases o<;>decide +kernel
  have q1:∀ {r:ck} {x0 x1:Option V} {σ:St},ev (au PL 5000 (d+1)) (x0::x1::some (.bool o)::r) (.ite (.loc 2) (.str "jump_true") (.str "jump_false")) σ=bv (.str (n8 o)) σ:=by
   intro r x0 x1 σ
   cases o<;>rfl
  have q2:∀ {r:ck} {x0 x1:Option V} {σ:St},ev (au PL 5000 (d+1)) (x0::x1::some (.bool o)::r) (.ite (.loc 2) (.str "1") (.str "0")) σ=bv (.str (f0 o)) σ:=by
   intro r x0 x1 σ
   cases o<;>rfl
  simp only [aE,av,aL,aH,aV ad,aW ao,aY ae,ba al,a_ al,aF,aJ,aw,aD,aX,bf,fF,gx,ky,bu,ko,bF,bG,bI,ax,lh,FO,q_cons,q_nil,q1,q2,ai,aO,aq,pY,qx,ci ac ac (F.mono (Nat.le_add_right ..)) zH,e2,ci ac ac (F2.mono (by decide)) F8,ci ac ac (F3.mono (by decide)) zH,hp1,ci am ac F5 Eu,hp3,aG,bQ]
 ·simp only [fq,List.length_append,List.length_cons,List.length_nil,lb];lia
 ·refine ob_1_2 hI fun v hq140_1 hv=>?_
  subst hq140_1
  have Xb':=Xb [] rfl
  rw [jO] at Xb'
  simp only [hl4,jO,hl5]
  exact BW Xb' hv hu
end
end
end Mine.Internal.Q
end
section
open PySem
namespace Mine.Internal.Q
noncomputable section
theorem cu:decide (("num":Str)="text")=false:=by decide +kernel
theorem bZ:decide (("num":Str)="parts")=false:=by decide +kernel
theorem dK:decide (("num":Str)="if")=false:=by decide +kernel
theorem cv:decide (("num":Str)="call")=false:=by decide +kernel
theorem dM:decide (("num":Str)="un")=false:=by decide +kernel
theorem cY:decide (("num":Str)="bin")=false:=by decide +kernel
theorem cZ:decide (("num":Str)="and")=false:=by decide +kernel
theorem dN:decide (("num":Str)="or")=false:=by decide +kernel
theorem cw:decide (("text":Str)="num")=false:=by decide +kernel
theorem bJ:decide (("text":Str)="parts")=false:=by decide +kernel
theorem c0:decide (("text":Str)="if")=false:=by decide +kernel
theorem b0:decide (("text":Str)="call")=false:=by decide +kernel
theorem c7:decide (("text":Str)="un")=false:=by decide +kernel
theorem cy:decide (("text":Str)="bin")=false:=by decide +kernel
theorem cz:decide (("text":Str)="and")=false:=by decide +kernel
theorem c8:decide (("text":Str)="or")=false:=by decide +kernel
theorem b7:decide (("parts":Str)="num")=false:=by decide +kernel
theorem bK:decide (("parts":Str)="text")=false:=by decide +kernel
theorem cA:decide (("parts":Str)="if")=false:=by decide +kernel
theorem bL:decide (("parts":Str)="call")=false:=by decide +kernel
theorem cB:decide (("parts":Str)="un")=false:=by decide +kernel
theorem b8:decide (("parts":Str)="bin")=false:=by decide +kernel
theorem b9:decide (("parts":Str)="and")=false:=by decide +kernel
theorem cD:decide (("parts":Str)="or")=false:=by decide +kernel
theorem dO:decide (("if":Str)="num")=false:=by decide +kernel
theorem c_:decide (("if":Str)="text")=false:=by decide +kernel
theorem cE:decide (("if":Str)="parts")=false:=by decide +kernel
theorem da:decide (("if":Str)="call")=false:=by decide +kernel
theorem eH:decide (("if":Str)="un")=false:=by decide +kernel
theorem dP:decide (("if":Str)="bin")=false:=by decide +kernel
theorem dQ:decide (("if":Str)="and")=false:=by decide +kernel
theorem eJ:decide (("if":Str)="or")=false:=by decide +kernel
theorem cF:decide (("call":Str)="num")=false:=by decide +kernel
theorem b_:decide (("call":Str)="text")=false:=by decide +kernel
theorem bM:decide (("call":Str)="parts")=false:=by decide +kernel
theorem db:decide (("call":Str)="if")=false:=by decide +kernel
theorem de:decide (("call":Str)="un")=false:=by decide +kernel
theorem cG:decide (("call":Str)="bin")=false:=by decide +kernel
theorem cH:decide (("call":Str)="and")=false:=by decide +kernel
theorem dg:decide (("call":Str)="or")=false:=by decide +kernel
theorem dR:decide (("un":Str)="num")=false:=by decide +kernel
theorem dh:decide (("un":Str)="text")=false:=by decide +kernel
theorem cI:decide (("un":Str)="parts")=false:=by decide +kernel
theorem eK:decide (("un":Str)="if")=false:=by decide +kernel
theorem dj:decide (("un":Str)="call")=false:=by decide +kernel
theorem dT:decide (("un":Str)="bin")=false:=by decide +kernel
theorem dU:decide (("un":Str)="and")=false:=by decide +kernel
theorem eL:decide (("un":Str)="or")=false:=by decide +kernel
theorem dk:decide (("bin":Str)="num")=false:=by decide +kernel
theorem cJ:decide (("bin":Str)="text")=false:=by decide +kernel
theorem cf:decide (("bin":Str)="parts")=false:=by decide +kernel
theorem dW:decide (("bin":Str)="if")=false:=by decide +kernel
theorem cK:decide (("bin":Str)="call")=false:=by decide +kernel
theorem dX:decide (("bin":Str)="un")=false:=by decide +kernel
theorem dm:decide (("bin":Str)="and")=false:=by decide +kernel
theorem dY:decide (("bin":Str)="or")=false:=by decide +kernel
theorem dq:decide (("and":Str)="num")=false:=by decide +kernel
theorem cL:decide (("and":Str)="text")=false:=by decide +kernel
theorem cg:decide (("and":Str)="parts")=false:=by decide +kernel
theorem dZ:decide (("and":Str)="if")=false:=by decide +kernel
theorem cM:decide (("and":Str)="call")=false:=by decide +kernel
theorem d5:decide (("and":Str)="un")=false:=by decide +kernel
theorem du:decide (("and":Str)="bin")=false:=by decide +kernel
theorem d6:decide (("and":Str)="or")=false:=by decide +kernel
theorem d7:decide (("or":Str)="num")=false:=by decide +kernel
theorem dw:decide (("or":Str)="text")=false:=by decide +kernel
theorem cN:decide (("or":Str)="parts")=false:=by decide +kernel
theorem eO:decide (("or":Str)="if")=false:=by decide +kernel
theorem dy:decide (("or":Str)="call")=false:=by decide +kernel
theorem eP:decide (("or":Str)="un")=false:=by decide +kernel
theorem d8:decide (("or":Str)="bin")=false:=by decide +kernel
theorem d9:decide (("or":Str)="and")=false:=by decide +kernel
noncomputable abbrev T5:PE:=.cmp .isin (.sub (.loc 1) (.int 0)) (.tup [.str "bin",.str "and",.str "or"])
noncomputable def A5:List PS:=[.ownApp 2 (.loc 1),.asg 1 (.ite (.cmp .eq (.sub (.loc 1) (.int 0)) (.str "bin")) (.sub (.loc 1) (.int 2)) (.sub (.loc 1) (.int 1)))]
noncomputable def B5:List PS:=[.ownPop 3 2,.ifs (.cmp .eq (.sub (.loc 3) (.int 0)) (.str "bin")) [.expr (.call 5 [.loc 0,.sub (.loc 3) (.int 3)]),.expr (.meth 101 "emit" (.loc 0) [.str "binary",.sub (.loc 3) (.int 1),.none,.int (-1)])] [.expr (.call 2 [.loc 0,.loc 3])]]
noncomputable def L2(C:CF)(j:Nat):KK:=WL C 5000 (.loc 2) B5 j K0 B0
noncomputable def ML(C:CF)(j:Nat):KK:=fk C 5000 [.expr (.call 4 [.loc 0,.loc 1])] (L2 C j) B0
noncomputable def L1(C:CF)(n j:Nat):KK:=WL C 5000 T5 A5 n (ML C j) B0
noncomputable def cm(c:Int)(bk:List (Str×V))(h:Nat)(v:V)(m:Nat)(f:EM Str):Prop:=
 ∀ d,h≤d→∀ s:SS,s.bk=bk→gi m s→∃ s',cU c s s' m qI (fun z9=>one f) 1∧∃ sp,sp≤m∧∀ ch x n j,ch.length+sp≤4000→
  ∃ t x',L1 (au PL 5000 d) (n+sp+1) (j+sp) [some (.inst 5),some v,some (.own ch),x] s.st=L2 (au PL 5000 d) j [some (.inst 5),some t,some (.own ch),x'] s'.st
section
variable {C:CF} {w d k p h:Nat} {s s' s'':SS} {v:V} {l l':fS} {ρ ρ':ck} {K B:KK} {σ σ':St} {bk:List (Str×V)} {c:Int} {run:Str→EM Str} {α β γ δ:Type} {m n:Nat} {x y:Int} {P Q P':List Str→Prop} {g g':List Str→EM (List Str)} {a b e:List jN} {fa ft fe fb:EM Str}
theorem F_{i:Nat}{ps:List PS}(h:qc ρ=true):fk C w (.own i::ps) K B ρ σ=fk C w ps K B (ρ.set i (some (.own []))) σ:=by
 refine nu ?_
 refine (?_:(if qc ρ=true then _ else none)=_)
 rw [h];rfl
theorem zJ{i:Nat}{e:PE}{ps:List PS}{l:List V}(h:ρ[i]?=some (some (.own l)))(hs:l.length≤100000)(he:ev C ρ e σ=bv v σ'):fk C w (.ownApp i e::ps) K B ρ σ=fk C w ps K B (ρ.set i (some (.own (l++[v])))) σ':=by
 refine nu ?_
 refine (?_:((jV ρ i).bind kz).bind _=_)
 rw [show jV ρ i=some (.own l) from congrArg (Option.bind · id) h]
 refine (if_pos (e_ hs)).trans ?_
 rw [he];rfl
theorem zK{i j:Nat}{ps:List PS}{l:List V}(h:ρ[j]?=some (some (.own (l++[v])))):fk C w (.ownPop i j::ps) K B ρ σ=fk C w ps K B ((ρ.set j (some (.own l))).set i (some v)) σ:=by
 refine nu ?_
 refine (?_:((jV ρ j).bind kz).bind _=_)
 rw [show jV ρ j=some (.own (l++[v])) from congrArg (Option.bind · id) h]
 refine (?_:((l++[v]).getLast?).bind (fun x=>some (FR.next ((ρ.set j (some (.own (l++[v]).dropLast))).set i (some x)) σ))=_)
 rw [List.getLast?_concat,List.dropLast_concat];rfl
noncomputable def Ic(kind:Str):Bool:=([("bin":Str),"and","or"]).any fun y=>decide (y=kind)
theorem t5{kd:Str}{r:List V}{x0 x2 x3:Option V}:fw C [x0,some (.tup (.str kd::r)),x2,x3] T5 σ=bv (Ic kd) σ:=by
 have st:ed [V.str "bin",.str "and",.str "or"]=some [("bin":Str),"and","or"]:=rfl
 rfl
theorem P5:PL 5=some f5:=by kernel_rfl
theorem E5{a b:V}:cS f5 [a,b]=some [some a,some b,none,none]:=rfl
theorem cm.call{f:EM Str}(H:cm c bk h v m f)(hp:plain v=true):∀ d,h+1≤d→fB (au PL 5000 d) c bk 5 v m f:=by
 intro d hd s hb F
 obtain ⟨d,rfl⟩:∃ q,d=q+1:=⟨d-1,by lia⟩
 obtain ⟨s',M,sp,hsp,hh⟩:=H d (by lia) s hb F
 have:=F.a
 refine ob_2_1 (hh [] none (4999-sp) (5000-sp) (by simp only [List.length_nil];lia)) fun t x' e=>?_
 rw [show 4999-sp+sp+1=5000 by lia,show 5000-sp+sp=5000 by lia] at e
 refine (ib_1_2 s' ?_ M)
 have hno:qc [some (V.inst 5),some v,none,none]=true:=by
  cases v<;>first | rfl | exact j9 hp
 rw [bo P5 E5,f5,F_ hno,vL]
 have eM:fk (au PL 5000 d) 5000 [.expr (.call 4 [.loc 0,.loc 1]),.whl (.loc 2) B5] K0 B0=ML (au PL 5000 d) 5000:=by
  funext ρ σ
  unfold ML
  simp only [av,av]
  refine congrArg (cR.bind _) (funext fun z9=>funext fun σ=>?_)
  simp only [vL,aG];rfl
 refine Eq.trans (congrArg (fun K=>WL (au PL 5000 d) 5000 T5 A5 5000 K B0 _ s.st) eM) (e.trans ?_)
 obtain ⟨j,hj⟩:∃ q,5000-sp=q+1:=⟨4999-sp,by lia⟩
 rw [hj,L2,gN,zI (v:=.own []) (q:=false) rfl rfl,aD,aZ,bQ]
theorem cm.leaf{kd:Str}{r:List V}{f:EM Str}(hk:Ic kd=false)(H:∀ d,h≤d→fB (au PL 5000 d) c bk 4 (.tup (.str kd::r)) m f):cm c bk h (.tup (.str kd::r)) m f:=by
 intro d hd s hb F
 refine ob_1_2 (H d hd s hb F) fun s' e M=>?_
 refine ⟨s',M,0,Nat.zero_le _,fun ch x n j z9=>(ib_2_1 (.tup (.str kd::r)) x ?_)⟩
 simp only [L1,gN,t5,hk,aD,aZ,ML,av]
 simp only [ai,q_nil,q_cons,aV ad,aW ao,aD,e,aG]
 rfl
theorem cm.left{kd:Str}{r:List V}{va:V}{ma m2:Nat}{f2:Str→EM Str}(h1:1≤m2)(hk:Ic kd=true)(hd':∀ d,h≤d→∀ ρ:ck,∀ σ,∀ x2 x3,ev (au PL 5000 d) [some (.inst 5),some (.tup (.str kd::r)),x2,x3] (.ite (.cmp .eq (.sub (.loc 1) (.int 0)) (.str "bin")) (.sub (.loc 1) (.int 2)) (.sub (.loc 1) (.int 1))) σ=bv va σ)
  (Ha:cm c bk h va ma fa) (hv:∀ l v l',fa l=.ok v l'→cX 100 v)
  (H2:∀ d,h≤d→∀ s:SS,s.bk=bk→gi m2 s→∃ s',(∀ t ch K B,fk (au PL 5000 d) 5000 [.ifs (.cmp .eq (.sub (.loc 3) (.int 0)) (.str "bin")) [.expr (.call 5 [.loc 0,.sub (.loc 3) (.int 3)]),.expr (.meth 101 "emit" (.loc 0) [.str "binary",.sub (.loc 3) (.int 1),.none,.int (-1)])] [.expr (.call 2 [.loc 0,.loc 3])]] K B [some (.inst 5),t,some (.own ch),some (.tup (.str kd::r))] s.st=K [some (.inst 5),t,some (.own ch),some (.tup (.str kd::r))] s'.st)∧cU c s s' m2 (fun I=>∃ v,I=[v]∧cX 100 v) (fun I=>one (f2 (I.headD ""))) 0) :
  cm c bk h (.tup (.str kd::r)) (ma+m2) (EM.bind fa f2):=by
 intro d hd s hb F
 refine rO fun C kC=>?_
 obtain ⟨s1,M1,sp,hsp,e1⟩:=Ha d hd s hb (F.mono (Nat.le_add_right ..))
 refine ob_1_2 (H2 d hd s1 (M1.book.trans hb) (M1.fit F)) fun s2 e2 M2=>?_
 refine kC ?_
 refine ⟨s2,(M1.seq M2 fun I hI l A l' e=>?_).of rfl (Int.add_zero _) fun I hI=>?_,sp+1,by lia,fun ch x n j hch=>?_⟩
 ·unfold one EM.bind at e
  cases q:fa l with
  | ok v l2=>rw [q] at e;cases e;exact (ib_1_2 v rfl (hv _ _ _ q))
  | ex=>rw [q] at e;cases e
 ·rw [j5]
  refine (?_:EM.bind fa (fun v=>one (f2 v))=one (EM.bind fa f2))
  unfold one
  simp only [eU]
 ·refine ob_2_1 (e1 (ch++[.tup (.str kd::r)]) x n (j+1) (by rw [List.length_append];simp only [List.length_cons,List.length_nil];lia)) fun t x' e=>?_
  refine (ib_2_1 t (some (.tup (.str kd::r))) ?_)
  rw [show j+1+sp=j+(sp+1) by lia] at e
  rw [L1,show n+(sp+1)+1=n+sp+1+1 by lia,gN,t5,hk,aD,bb,A5,zJ (l:=ch) (v:=.tup (.str kd::r)) rfl (by lia) (aW ao),bF,aE,hd' d hd [],aD,bN,aG]
  refine e.trans ?_
  rw [L2,gN,zI (v:=.own (ch++[.tup (.str kd::r)])) (q:=true) rfl (by cases ch<;>rfl),aD,bb,B5,zK (l:=ch) (v:=.tup (.str kd::r)) rfl,bF,bG,e2]
  rfl
end
end
end Mine.Internal.Q
end
section
open PySem
namespace Mine.Internal.Q
noncomputable section
section
variable {C:CF} {w d k p h:Nat} {s s' s'':SS} {v:V} {l l':fS} {ρ ρ':ck} {K B:KK} {σ σ':St} {bk:List (Str×V)} {c:Int} {run:Str→EM Str} {α β γ δ:Type} {m n:Nat} {x y:Int} {P Q P':List Str→Prop} {g g':List Str→EM (List Str)} {a b e:List jN} {fa ft fe fb:EM Str} {va vb ve:V} {ma mb me:Nat}
theorem zL{f:EM Str}(h:Fg (cX 100) m f)(l:fS)(v:Str)(l':fS)(e:f l=.ok v l'):v.length≤1000:=Nat.le_trans (h.ok e).1.1 (by decide)
theorem ES{u v:Str}(hu:cX 100 u)(hv:cX 100 v):∀ x∈[u,v],kN x:=fun x hx=>by
 refine Or.elim (List.mem_cons.mp hx) (fun ho12_0=>?_) fun hx=>?_
 ·subst ho12_0
  exact hu
 ·simp only [List.mem_singleton.mp hx];exact hv
theorem cm.bin{op:Str}(ho:kN ("b:"++op))(Ha:cm c bk h va ma fa)(fga:Fg (cX 100) ma fa)(Hb:cm c bk h vb mb fb)(fgb:Fg (cX 100) mb fb)(hpb:plain vb=true) :
  cm c bk (h+1) (.tup [.str "bin",.str op,va,vb]) (ma+(mb+1)) (EM.bind fa fun v=>EM.bind fb fun u=>gv ["b:"++op,v,u]):=by
 refine cm.left (by lia) (by kernel_rfl) (fun d hd ρ σ x2 x3=>?_) (fun d hd=>Ha d (by lia)) (fun l v l' e=>(fga.ok e).1) fun d hd s hb F=>?_
 ·simp only [aD,bh,aX,bp,bq,bf,am,al,ae,ac,ao,ak,aj,aC,ad,aA,aw,aB,aF,aJ,aV,aW,aY,ba,a_,bc,bj,bl,bg,bi,aR,bR,bN,bF,bG,bI,bO,bS,bT,bU,bP,aN,aM,q_nil,q_cons,aH,aQ,aq,aP,aL,aS,ai,ax,aa,aO,ay,an,aT,bn,af,ag,az,bb,aZ,bQ,aG,aK,aE,av,ah,aU,aI,fF,ky,bu,eq_self,decide_true]
 ·obtain ⟨d,rfl⟩:∃ q,d=q+1:=⟨d-1,by lia⟩
  refine ob_1_2 (Hb.call hpb (d+1) hd s hb (F.mono (Nat.le_add_right ..))) fun s1 e1 M1=>?_
  have F1:gi 1 s1:=M1.fit F
  refine (ib_1_2 (s1.em ("binary",.str op,.none) (-1)) (fun t ch K B=>?_) ((M1.under.seq (cU.row (P:=fun A=>A.length=2∧∀ x∈A,kN x) (f:=fun A=>gv (("b:"++op)::A)) (x:=-1) (by decide) (by kernel_rfl) rfl rfl fun A hA=>⟨fun s d=>uG hA.1 ho hA.2,fun l v l' e=>?_⟩) fun I hI l A l' e=>?_).of rfl (by decide) fun I hI=>?_))
  ·simp only [aD,bh,aX,bp,bq,bf,am,al,ae,ac,ao,ak,aj,aC,ad,aA,aw,aB,aF,aJ,aV,aW,aY,ba,a_,bc,bj,bl,bg,bi,aR,bR,bN,bF,bG,bI,bO,bS,bT,bU,bP,aN,aM,q_nil,q_cons,aH,aQ,aq,aP,aL,aS,ai,ax,aa,aO,ay,an,aT,bn,af,ag,az,bb,aZ,bQ,aG,aK,aE,av,ah,aU,aI,fF,gx,w9,bu,eq_self,decide_true,e1,lh,ci am ac F1 zH]
  ·exact (kx (fun x hx=>by rcases List.mem_cons.mp hx with rfl | hx;exact ho;exact hA.2 x hx) (by simp only [List.length_cons,hA.1];decide)).len e
  ·obtain ⟨v,rfl,hv⟩:=hI
   unfold one EM.bind at e
   cases q:fb l with
   | ok u l2=>rw [q] at e;cases e;exact ⟨rfl,ES hv (fgb.ok q).1⟩
   | ex=>rw [q] at e;cases e
  ·refine ob_1_2 hI fun v hq31_1 hv=>?_
   subst hq31_1
   rw [eU,j5]
   refine (?_:EM.bind fb (fun u=>one (gv ["b:"++op,v,u]))=one (EM.bind fb fun u=>gv ["b:"++op,v,u]))
   unfold one
   simp only [eU]
theorem cm.log{o:Bool}(Ha:cm c bk h va ma fa)(fga:Fg (cX 100) ma fa)(Hb:cm c bk h vb mb fb)(fgb:Fg (cX 100) mb fb)(hpb:plain vb=true) :
  cm c bk (h+2) (.tup [.str (gj o),va,vb]) (ma+(mb+4)) (EM.bind fa (tq o fb)):=by
 have ko:decide (gj o="bin")=false:=by cases o<;>decide +kernel
 refine cm.left (by lia) (by cases o<;>kernel_rfl) (fun d hd ρ σ x2 x3=>?_) (fun d hd=>Ha d (by lia)) (fun l v l' e=>(fga.ok e).1) fun d hd s hb F=>?_
 ·simp only [aD,bh,aX,bp,bq,bf,am,al,ae,ac,ao,ak,aj,aC,ad,aA,aw,aB,aF,aJ,aV,aW,aY,ba,a_,bc,bj,bl,bg,bi,aR,bR,bN,bF,bG,bI,bO,bS,bT,bU,bP,aN,aM,q_nil,q_cons,aH,aQ,aq,aP,aL,aS,ai,ax,aa,aO,ay,an,aT,bn,af,ag,az,bb,aZ,bQ,aG,aK,aE,av,ah,aU,aI,fF,gx,bu,ko]
 ·obtain ⟨d,rfl⟩:∃ q,d=q+2:=⟨d-2,by lia⟩
  refine ob_1_2 (uS (o:=o) (va:=va) (Hb.call hpb (d+1) (by lia)) (zL fgb) hb (F.mono (by lia))) fun s1 e1 M1=>?_
  refine (ib_1_2 s1 (fun t ch K B=>?_) (M1.imp fun I hI=>?_))
  ·simp only [aD,bh,aX,bp,bq,bf,am,al,ae,ac,ao,ak,aj,aC,ad,aA,aw,aB,aF,aJ,aV,aW,aY,ba,a_,bc,bj,bl,bg,bi,aR,bR,bN,bF,bG,bI,bO,bS,bT,bU,bP,aN,aM,q_nil,q_cons,aH,aQ,aq,aP,aL,aS,ai,ax,aa,aO,ay,an,aT,bn,af,ag,az,bb,aZ,bQ,aG,aK,aE,av,ah,aU,aI,fF,bu,ko,e1]
  ·refine ob_1_2 hI fun v hq46_1 hv=>?_
   subst hq46_1
   exact (ib_1_2 v rfl (Nat.le_trans hv.1 (by decide)))
theorem P4:PL 4=some f4:=by kernel_rfl
theorem E4{a b:V}:cS f4 [a,b]=some [some a,some b,none,none]:=rfl
theorem cm.num{n:Nat}(hn:n<10 ^ 40):cm c bk 2 (.tup [.str "num",.int n]) 1 (EM.pure (nW n)):=by
 refine cm.leaf (by kernel_rfl) fun d hd s hb F=>?_
 obtain ⟨d,rfl⟩:∃ q,d=q+2:=⟨d-2,by lia⟩
 refine (ib_1_2 _ ?_ lH)
 simp only [bo P4 E4,f4]
 have hs:=rC (C:=au PL 5000 (d+1)) (ρ:=[some (.inst 5),some (.tup [.str "num",.int n]),some (.str "num"),none]) (σ:=s.st) (σ':=s.st) (e:=.sub (.loc 1) (.int 1)) (n:=n) (by simp only [aD,bh,aX,bp,bq,bf,am,al,ae,ac,ao,ak,aj,aC,ad,aA,aw,aB,aF,aJ,aV,aW,aY,ba,a_,bc,bj,bl,bg,bi,aR,bR,bN,bF,bG,bI,bO,bS,bT,bU,bP,aN,aM,q_nil,q_cons,aH,aQ,aq,aP,aL,aS,ai,ax,aa,aO,ay,an,aT,bn,af,ag,az,bb,aZ,bQ,aG,aK,aE,av,ah,aU,aI,gx]) hn
 simp only [aD,bh,aX,bp,bq,bf,am,al,ae,ac,ao,ak,aj,aC,ad,aA,aw,aB,aF,aJ,aV,aW,aY,ba,a_,bc,bj,bl,bg,bi,aR,bR,bN,bF,bG,bI,bO,bS,bT,bU,bP,aN,aM,q_nil,q_cons,aH,aQ,aq,aP,aL,aS,ai,ax,aa,aO,ay,an,aT,bn,af,ag,az,bb,aZ,bQ,aG,aK,aE,av,ah,aU,aI,fF,gx,bu,eq_self,decide_true,hs,lh,ci am ac F Eu]
theorem cm.text{u:Str}:cm c bk 2 (.tup [.str "text",.str u]) 1 (EM.pure u):=by
 refine cm.leaf (by kernel_rfl) fun d hd s hb F=>?_
 obtain ⟨d,rfl⟩:∃ q,d=q+2:=⟨d-2,by lia⟩
 refine (ib_1_2 _ ?_ lH)
 simp only [bo P4 E4,f4]
 simp only [aD,bh,aX,bp,bq,bf,am,al,ae,ac,ao,ak,aj,aC,ad,aA,aw,aB,aF,aJ,aV,aW,aY,ba,a_,bc,bj,bl,bg,bi,aR,bR,bN,bF,bG,bI,bO,bS,bT,bU,bP,aN,aM,q_nil,q_cons,aH,aQ,aq,aP,aL,aS,ai,ax,aa,aO,ay,an,aT,bn,af,ag,az,bb,aZ,bQ,aG,aK,aE,av,ah,aU,aI,fF,gx,bu,cu,bZ,dK,cv,dM,cY,cZ,dN,cw,bJ,c0,b0,c7,cy,cz,c8,b7,bK,cA,bL,cB,b8,b9,cD,dO,c_,cE,da,eH,dP,dQ,eJ,cF,b_,bM,db,de,cG,cH,dg,dR,dh,cI,eK,dj,dT,dU,eL,dk,cJ,cf,dW,cK,dX,dm,dY,dq,cL,cg,dZ,cM,d5,du,d6,d7,dw,cN,eO,dy,eP,d8,d9,eq_self,decide_true,lh,ci am ac F Eu]
theorem cm.parts{ps:List Pt}(Bk:dF bk)(hn:1≤ps.length∧ps.length≤3)(h:∀ p∈ps,tf p∧CP p=true):cm c bk 29 (.tup [.str "parts",.tup (ps.map Pt.v)]) (wr nA ps) (fj bk (mi bk c) ps):=by
 refine cm.leaf (by kernel_rfl) fun d hd s hb F=>?_
 obtain ⟨d,rfl⟩:∃ q,d=q+29:=⟨d-29,by lia⟩
 refine ob_1_2 (xf (d:=d) (c:=c) Bk hn h s hb F) fun s' e M=>?_
 refine (ib_1_2 s' ?_ M)
 simp only [bo P4 E4,f4]
 simp only [aD,bh,aX,bp,bq,bf,am,al,ae,ac,ao,ak,aj,aC,ad,aA,aw,aB,aF,aJ,aV,aW,aY,ba,a_,bc,bj,bl,bg,bi,aR,bR,bN,bF,bG,bI,bO,bS,bT,bU,bP,aN,aM,q_nil,q_cons,aH,aQ,aq,aP,aL,aS,ai,ax,aa,aO,ay,an,aT,bn,af,ag,az,bb,aZ,bQ,aG,aK,aE,av,ah,aU,aI,fF,gx,bu,cu,bZ,dK,cv,dM,cY,cZ,dN,cw,bJ,c0,b0,c7,cy,cz,c8,b7,bK,cA,bL,cB,b8,b9,cD,dO,c_,cE,da,eH,dP,dQ,eJ,cF,b_,bM,db,de,cG,cH,dg,dR,dh,cI,eK,dj,dT,dU,eL,dk,cJ,cf,dW,cK,dX,dm,dY,dq,cL,cg,dZ,cM,d5,du,d6,d7,dw,cN,eO,dy,eP,d8,d9,eq_self,decide_true,Ee,e]
theorem cm.un{op:Str}(ho:kN ("u:"++op))(Ha:cm c bk h va ma fa)(fga:Fg (cX 100) ma fa)(hpa:plain va=true):cm c bk (h+2) (.tup [.str "un",.str op,va]) (ma+1) (EM.bind fa fun v=>gv ["u:"++op,v]):=by
 refine cm.leaf (by kernel_rfl) fun d hd s hb F=>?_
 obtain ⟨d,rfl⟩:∃ q,d=q+2:=⟨d-2,by lia⟩
 refine ob_1_2 (Ha.call hpa (d+1) (by lia) s hb (F.mono (Nat.le_add_right ..))) fun s1 e1 M1=>?_
 have F1:gi 1 s1:=M1.fit F
 refine (ib_1_2 (s1.em ("unary",.str op,.none) 0) ?_ ((M1.seq (cU.row (P:=fun A=>∃ v,A=[v]∧cX 100 v) (f:=fun A=>gv ["u:"++op,A.headD ""]) (x:=0) (by decide) (by kernel_rfl) rfl rfl fun A hA=>?_) fun I hI l A l' e=>?_).of rfl (by decide) fun I hI=>?_))
 ·simp only [bo P4 E4,f4]
  simp only [aD,bh,aX,bp,bq,bf,am,al,ae,ac,ao,ak,aj,aC,ad,aA,aw,aB,aF,aJ,aV,aW,aY,ba,a_,bc,bj,bl,bg,bi,aR,bR,bN,bF,bG,bI,bO,bS,bT,bU,bP,aN,aM,q_nil,q_cons,aH,aQ,aq,aP,aL,aS,ai,ax,aa,aO,ay,an,aT,bn,af,ag,az,bb,aZ,bQ,aG,aK,aE,av,ah,aU,aI,fF,gx,ky,bu,cu,bZ,dK,cv,dM,cY,cZ,dN,cw,bJ,c0,b0,c7,cy,cz,c8,b7,bK,cA,bL,cB,b8,b9,cD,dO,c_,cE,da,eH,dP,dQ,eJ,cF,b_,bM,db,de,cG,cH,dg,dR,dh,cI,eK,dj,dT,dU,eL,dk,cJ,cf,dW,cK,dX,dm,dY,dq,cL,cg,dZ,cM,d5,du,d6,d7,dw,cN,eO,dy,eP,d8,d9,eq_self,decide_true,e1,lh,ci am ac F1 F8]
 ·refine ob_1_2 hA fun v hq79_1 hv=>?_
  subst hq79_1
  exact ⟨fun s d=>w4 ho hv,fun l u l' e=>(kx (ES ho hv) (Nat.le_of_ble_eq_true rfl)).len e⟩
 ·unfold one EM.bind at e
  cases q:fa l with
  | ok v l2=>rw [q] at e;cases e;exact (ib_1_2 v rfl ((fga.ok q).1))
  | ex=>rw [q] at e;cases e
 ·simp only [j5]
  refine (?_:EM.bind fa (fun v=>one (gv ["u:"++op,v]))=one (EM.bind fa fun v=>gv ["u:"++op,v]))
  unfold one
  simp only [eU]
theorem cm.ite(Ha:cm c bk h va ma fa)(fga:Fg (cX 100) ma fa)(hpa:plain va=true)(Hb:cm c bk h vb mb fb)(hpb:plain vb=true)(He:cm c bk h ve me fe)(hpe:plain ve=true):cm c bk (h+3) (.tup [.str "if",va,vb,ve]) (ma+(1+(mb+(1+me)))) (uR fa fb fe):=by
 refine cm.leaf (by kernel_rfl) fun d hd s hb F=>?_
 obtain ⟨d,rfl⟩:∃ q,d=q+3:=⟨d-3,by lia⟩
 refine ob_1_2 (tr (d:=d) (Ha.call hpa (d+1) (by lia)) (Hb.call hpb (d+1) (by lia)) (He.call hpe (d+1) (by lia)) (zL fga) s hb F) fun s1 e1 M1=>?_
 refine (ib_1_2 s1 ?_ M1)
 simp only [bo P4 E4,f4]
 simp only [aD,bh,aX,bp,bq,bf,am,al,ae,ac,ao,ak,aj,aC,ad,aA,aw,aB,aF,aJ,aV,aW,aY,ba,a_,bc,bj,bl,bg,bi,aR,bR,bN,bF,bG,bI,bO,bS,bT,bU,bP,aN,aM,q_nil,q_cons,aH,aQ,aq,aP,aL,aS,ai,ax,aa,aO,ay,an,aT,bn,af,ag,az,bb,aZ,bQ,aG,aK,aE,av,ah,aU,aI,fF,bu,cu,bZ,dK,cv,dM,cY,cZ,dN,cw,bJ,c0,b0,c7,cy,cz,c8,b7,bK,cA,bL,cB,b8,b9,cD,dO,c_,cE,da,eH,dP,dQ,eJ,cF,b_,bM,db,de,cG,cH,dg,dR,dh,cI,eK,dj,dT,dU,eL,dk,cJ,cf,dW,cK,dX,dm,dY,dq,cL,cg,dZ,cM,d5,du,d6,d7,dw,cN,eO,dy,eP,d8,d9,eq_self,decide_true,e1]
noncomputable abbrev Ag:=V×Nat×EM Str
noncomputable def pO(a:Ag):EM Str:=a.2.2
noncomputable def B4:List PS:=[.expr (.call 5 [.loc 0,.loc 3])]
theorem xg:∀ (as:List Ag),(∀ a∈as,fB C c bk 5 a.1 a.2.1 a.2.2∧plain a.1=true)→∀ (s:SS) (K B:KK) (v0 v1 x:Option V),s.bk=bk→gi (as.map (·.2.1)).sum s→
  ∃ s' x',FL C 5000 3 B4 (as.map (·.1)) K B [some (.inst 5),v0,v1,x] s.st=K [some (.inst 5),v0,v1,x'] s'.st∧cU c s s' (as.map (·.2.1)).sum qI (fun z9=>eg pO as) as.length:=by
 intro as
 induction as with
 | nil=>
  intro _ s K B v0 v1 x _ _
  exact (ib_2_2 s x rfl (cU.nil.of rfl rfl fun I hI=>by subst hI;rfl))
 | cons a r ih=>
  intro h s K B v0 v1 x hb F
  refine rO fun C kC=>?_
  refine bC (h a (.head _)) fun ha hp=>?_
  refine ob_1_2 (ha s hb (F.mono (Nat.le_add_right ..))) fun s1 e1 M1=>?_
  refine ob_2_2 (ih (fun a ha=>h a (.tail _ ha)) s1 K B v0 v1 (some a.1) (M1.book.trans hb) (M1.fit F)) fun s2 x2 e2 M2=>?_
  refine kC ?_
  refine ⟨s2,x2,?_,(j6 M1 M2).of (by simp only [List.map_cons,List.sum_cons]) (by simp only [List.length_cons];lia) fun z9 z9=>rfl⟩
  simp only [List.map_cons,gC,B4]
  simp only [aD,bh,aX,bp,bq,bf,am,al,ae,ac,ao,ak,aj,aC,ad,aA,aw,aB,aF,aJ,aV,aW,aY,ba,a_,bc,bj,bl,bg,bi,aR,bR,bN,bF,bG,bI,bO,bS,bT,bU,bP,aN,aM,q_nil,q_cons,aH,aQ,aq,aP,aL,aS,ai,ax,aa,aO,ay,an,aT,bn,af,ag,az,bb,aZ,bQ,aG,aK,aE,av,ah,aU,aI,ba hp,e1]
  exact e2
theorem cm.fn{f:Str}{as:List Ag}(hn:as.length≤3)(ho:kN ("f:"++f))(h':∀ a∈as,cm c bk h a.1 a.2.1 a.2.2∧Fg (cX 100) a.2.1 a.2.2∧plain a.1=true):cm c bk (h+2) (.tup [.str "call",.str f,.tup (as.map (·.1))]) ((as.map (·.2.1)).sum+1) (EM.bind (eg pO as) fun A=>gv (("f:"++f)::A)):=by
 refine cm.leaf (by kernel_rfl) fun d hd s hb F=>?_
 obtain ⟨d,rfl⟩:∃ q,d=q+2:=⟨d-2,by lia⟩
 refine ob_2_2 (xg (C:=au PL 5000 (d+1)) as (fun a ha=>⟨(h' a ha).1.call (h' a ha).2.2 (d+1) (by lia),(h' a ha).2.2⟩) s (fk (au PL 5000 (d+1)) 5000 [.expr (.meth 101 "emit" (.loc 0) [.str "function",.sub (.loc 1) (.int 1),.len (.sub (.loc 1) (.int 2)),.bin .sub (.int 1) (.len (.sub (.loc 1) (.int 2)))])] K0 B0) B0 (some (.tup [.str "call",.str f,.tup (as.map (·.1))])) (some (.str "call")) none hb (F.mono (Nat.le_add_right ..))) fun s1 x1 e1 M1=>?_
 have F1:gi 1 s1:=M1.fit F
 refine (ib_1_2 (s1.em ("function",.str f,.int as.length) (1-as.length)) ?_ ((M1.seq (cU.row (P:=fun A=>A.length=as.length∧∀ x∈A,cX 100 x) (f:=fun A=>gv (("f:"++f)::A)) (x:=1-as.length) (by lia) (by kernel_rfl) rfl rfl fun A hA=>?_) fun I hI l A l' e=>?_).of rfl (by lia) fun I hI=>?_))
 ·simp only [bo P4 E4,f4]
  have kf:=fun (K:KK)=>pu (C:=au PL 5000 (d+1)) (w:=5000) (i:=3) (e:=.sub (.loc 1) (.int 2)) (b:=B4) (ps:=[.expr (.meth 101 "emit" (.loc 0) [.str "function",.sub (.loc 1) (.int 1),.len (.sub (.loc 1) (.int 2)),.bin .sub (.int 1) (.len (.sub (.loc 1) (.int 2)))])]) (K:=K) (B:=B0) (ρ:=[some (.inst 5),some (.tup [.str "call",.str f,.tup (as.map (·.1))]),some (.str "call"),none]) (σ:=s.st) (σ':=s.st) (v:=.tup (as.map (·.1))) (l:=as.map (·.1)) (by simp only [aD,bh,aX,bp,bq,bf,am,al,ae,ac,ao,ak,aj,aC,ad,aA,aw,aB,aF,aJ,aV,aW,aY,ba,a_,bc,bj,bl,bg,bi,aR,bR,bN,bF,bG,bI,bO,bS,bT,bU,bP,aN,aM,q_nil,q_cons,aH,aQ,aq,aP,aL,aS,ai,ax,aa,aO,ay,an,aT,bn,af,ag,az,bb,aZ,bQ,aG,aK,aE,av,ah,aU,aI,ky]) rfl rfl
  simp only [aE,aI,aH,aW ao,aY am,aF,aJ,aD,aX,fF,bF,an,bu,cu,bZ,dK,cv,dM,cY,cZ,dN,cw,bJ,c0,b0,c7,cy,cz,c8,b7,bK,cA,bL,cB,b8,b9,cD,dO,c_,cE,da,eH,dP,dQ,eJ,cF,b_,bM,db,de,cG,cH,dg,dR,dh,cI,eK,dj,dT,dU,eL,dk,cJ,cf,dW,cK,dX,dm,dY,dq,cL,cg,dZ,cM,d5,du,d6,d7,dw,cN,eO,dy,eP,d8,d9,aZ]
  refine (kf _).trans ?_
  refine e1.trans ?_
  simp only [aD,bh,aX,bp,bq,bf,am,al,ae,ac,ao,ak,aj,aC,ad,aA,aw,aB,aF,aJ,aV,aW,aY,ba,a_,bc,bj,bl,bg,bi,aR,bR,bN,bF,bG,bI,bO,bS,bT,bU,bP,aN,aM,q_nil,q_cons,aH,aQ,aq,aP,aL,aS,ai,ax,aa,aO,ay,an,aT,bn,af,ag,az,bb,aZ,bQ,aG,aK,aE,av,ah,aU,aI,gx,ky,rJ,lh,lj (cO (show (-1000000:Int)<1∧(1:Int)<1000000 by decide)) (cO (show (-1000000:Int)<((as.map (·.1)).length:Nat)∧(((as.map (·.1)).length:Nat):Int)<1000000 by rw [List.length_map];lia))]
  rw [List.length_map,ci am al F1 (show (-3:Int)≤1-as.length∧(1:Int)-as.length≤3 by lia)];rfl
 ·have ho':∀ x∈("f:"++f)::A,kN x:=fun x hx=>by
   refine Or.elim (List.mem_cons.mp hx) (fun ho134_0=>?_) fun hx=>?_
   ·subst ho134_0
    exact ho
   ·exact hA.2 x hx
  exact ⟨fun s d=>rG hA.1 (by lia) ho hA.2,fun l u l' e=>(kx ho' (by simp only [List.length_cons,hA.1];lia)).len e⟩
 ·exact ((fp (P:=cX 100) (ms:=fun a:Ag=>a.2.1) (f:=pO) fun a ha=>(h' a ha).2.1).ok e).1
 ·show EM.bind (eg pO as) (fun A=>one (gv (("f:"++f)::A)))=one (EM.bind (eg pO as) fun A=>gv (("f:"++f)::A))
  unfold one
  simp only [eU]
end
end
end Mine.Internal.Q
end
section
open PySem
namespace Mine.Internal.Q
noncomputable section
noncomputable def fs(k:Nat)(c:Int)(bk:List (Str×V))(h:Nat)(v:V)(m:Nat)(f:EM Str):Prop:=
 ∀ d,h≤d→∀ σ l,Wd k bk l σ→l.length+m≤90000→au PL 5000 d 53 [WV k c,v] σ=kL k σ (f l)
noncomputable def d_(h:Nat)(v:V)(m:Nat):Prop:=∀ d,h≤d→∀ σ,au PL 5000 d 55 [v] σ=bv (.int m) σ
section
variable {C:CF} {w d k p h:Nat} {s s' s'':SS} {v:V} {l l':fS} {ρ ρ':ck} {K B:KK} {σ σ':St} {bk:List (Str×V)} {c:Int} {run:Str→EM Str} {α β γ δ:Type} {m n:Nat} {x y:Int} {P Q P':List Str→Prop} {g g':List Str→EM (List Str)} {a b e:List jN} {fa ft fe fb:EM Str} {va vb ve:V} {ma mb me:Nat}
theorem Ev:PL 53=some z5:=by kernel_rfl
theorem Ew{a b:V}:cS z5 [a,b]=some [some a,some b,none,none,none]:=rfl
theorem fs.num{n:Nat}(hn:n<10 ^ 40):fs k c bk 1 (.tup [.str "num",.int n]) 1 (EM.pure (nW n)):=by
 intro d hd σ l W hl
 obtain ⟨d,rfl⟩:∃ q,d=q+1:=⟨d-1,by lia⟩
 simp only [bo Ev Ew,z5]
 have hs:=rC (C:=au PL 5000 d) (ρ:=[some (WV k c),some (.tup [.str "num",.int n]),some (.str "num"),none,none]) (σ:=σ) (σ':=σ) (e:=.sub (.loc 1) (.int 1)) (n:=n) (by simp only [aD,bh,aX,bp,bq,bf,am,al,ae,ac,ao,ak,aj,aC,ad,aA,aw,aB,aF,aJ,aV,aW,aY,ba,a_,bc,bj,bl,bg,bi,aR,bR,bN,bF,bG,bI,bO,bS,bT,bU,bP,aN,aM,q_nil,q_cons,aH,aQ,aq,aP,aL,aS,ai,ax,aa,aO,ay,an,aT,bn,af,ag,az,bb,aZ,bQ,aG,aK,aE,av,ah,aU,aI,gx]) hn
 simp only [aD,bh,aX,bp,bq,bf,am,al,ae,ac,ao,ak,aj,aC,ad,aA,aw,aB,aF,aJ,aV,aW,aY,ba,a_,bc,bj,bl,bg,bi,aR,bR,bN,bF,bG,bI,bO,bS,bT,bU,bP,aN,aM,q_nil,q_cons,aH,aQ,aq,aP,aL,aS,ai,ax,aa,aO,ay,an,aT,bn,af,ag,az,bb,aZ,bQ,aG,aK,aE,av,ah,aU,aI,fF,gx,bu,eq_self,decide_true,hs]
 refine (?_:bv _ σ=bv _ (lg k σ l))
 simp only [W.self]
theorem fs.text{u:Str}:fs k c bk 1 (.tup [.str "text",.str u]) 1 (EM.pure u):=by
 intro d hd σ l W hl
 obtain ⟨d,rfl⟩:∃ q,d=q+1:=⟨d-1,by lia⟩
 refine (?_:bv _ σ=bv _ (lg k σ l))
 simp only [W.self]
theorem fs.parts{ps:List Pt}(Bk:dF bk)(hn:ps.length≤3)(h:∀ p∈ps,tf p)(hm:(ps.map lm).sum≤m):fs k c bk 8 (.tup [.str "parts",.tup (ps.map Pt.v)]) m (fj bk (mi bk c) ps):=by
 intro d hd σ l W hl
 obtain ⟨d,rfl⟩:∃ q,d=q+8:=⟨d-8,by lia⟩
 have:=qH (d:=d+5) (ps:=ps) Bk (fun p hp=>zx (d:=d) (c:=c) Bk (h p hp)) W (by lia) (by lia)
 simp only [bo Ev Ew,z5]
 simp only [aD,bh,aX,bp,bq,bf,am,al,ae,ac,ao,ak,aj,aC,ad,aA,aw,aB,aF,aJ,aV,aW,aY,ba,a_,bc,bj,bl,bg,bi,aR,bR,bN,bF,bG,bI,bO,bS,bT,bU,bP,aN,aM,q_nil,q_cons,aH,aQ,aq,aP,aL,aS,ai,ax,aa,aO,ay,an,aT,bn,af,ag,az,bb,aZ,bQ,aG,aK,aE,av,ah,aU,aI,aV ef,fF,gx,bu,cu,bZ,dK,cv,dM,cY,cZ,dN,cw,bJ,c0,b0,c7,cy,cz,c8,b7,bK,cA,bL,cB,b8,b9,cD,dO,c_,cE,da,eH,dP,dQ,eJ,cF,b_,bM,db,de,cG,cH,dg,dR,dh,cI,eK,dj,dT,dU,eL,dk,cJ,cf,dW,cK,dX,dm,dY,dq,cL,cg,dZ,cM,d5,du,d6,d7,dw,cN,eO,dy,eP,d8,d9,eq_self,decide_true,this]
theorem zM{ps:List Pt}(Bk:dF bk)(hn:ps.length≤3)(h:∀ p∈ps,tf p)(hm:(ps.map lm).sum≤m):Fg (cX 100) m (fj bk (mi bk c) ps):=by
 refine ((fp (P:=cX 10) (ms:=lm) fun p hp=>(zx (d:=0) (k:=2) (c:=c) Bk (h p hp)).fg Bk).bind (m':=0) fun vs hvs=>.pure (P:=cX 100) ?_).mono hm fun z9 h=>h
 exact (vS hvs.2).mono (by rw [hvs.1];lia)
theorem fs.un{op:Str}(ho:kN ("u:"++op))(Va:fs k c bk h va ma fa)(fga:Fg (cX 100) ma fa)(hpa:plain va=true):fs k c bk (h+2) (.tup [.str "un",.str op,va]) (ma+1) (EM.bind fa fun v=>gv ["u:"++op,v]):=by
 intro d hd σ l W hl
 obtain ⟨d,rfl⟩:∃ q,d=q+2:=⟨d-2,by lia⟩
 have ho':=ho.1
 rw [ez] at ho'
 simp only [bo Ev Ew,z5]
 simp only [aD,bh,aX,bp,bq,bf,am,al,ae,ac,ao,ak,aj,aC,ad,aA,aw,aB,aF,aJ,aV,aW,aY,ba,a_,bc,bj,bl,bg,bi,aR,bR,bN,bF,bG,bI,bO,bS,bT,bU,bP,aN,aM,q_nil,q_cons,aH,aQ,aq,aP,aL,aS,ai,ax,aa,aO,ay,an,aT,bn,af,ag,az,bb,aZ,bQ,aG,aK,aE,av,ah,aU,aI,aV ef,fF,gx,ky,bu,cu,bZ,dK,cv,dM,cY,cZ,dN,cw,bJ,c0,b0,c7,cy,cz,c8,b7,bK,cA,bL,cB,b8,b9,cD,dO,c_,cE,da,eH,dP,dQ,eJ,cF,b_,bM,db,de,cG,cH,dg,dR,dh,cI,eK,dj,dT,dU,eL,dk,cJ,cf,dW,cK,dX,dm,dY,dq,cL,cg,dZ,cM,d5,du,d6,d7,dw,cN,eO,dy,eP,d8,d9,eq_self,decide_true,dA (show ("u:":Str).length+op.length≤100000 by lia),Va (d+1) (by lia) σ l W (by lia),k_,cj,dJ]
 simp only [kL,gb,bX]
 refine bx fun v l' e=>?_
 have:=fga.len e
 have h1:=gw (w:=5000) (d:=d) (c:=c) (told:=["u:"++op,v]) (W.set (l':=l')) (ES ho (fga.ok e).1) (Nat.le_of_ble_eq_true rfl) (by lia)
 simp only [kL,gb,fc] at h1
 refine h1.trans (bx fun u l'' z9=>by simp only [fZ])
theorem fs.bin{op:Str}(ho:kN ("b:"++op))(Va:fs k c bk h va ma fa)(fga:Fg (cX 100) ma fa)(hpa:plain va=true)(Vb:fs k c bk h vb mb fb)(fgb:Fg (cX 100) mb fb)(hpb:plain vb=true):fs k c bk (h+2) (.tup [.str "bin",.str op,va,vb]) (ma+(mb+1)) (EM.bind fa fun v=>EM.bind fb fun u=>gv ["b:"++op,v,u]):=by
 intro d hd σ l W hl
 obtain ⟨d,rfl⟩:∃ q,d=q+2:=⟨d-2,by lia⟩
 have ho':=ho.1
 rw [ez] at ho'
 simp only [bo Ev Ew,z5]
 simp only [aD,bh,aX,bp,bq,bf,am,al,ae,ac,ao,ak,aj,aC,ad,aA,aw,aB,aF,aJ,aV,aW,aY,ba,a_,bc,bj,bl,bg,bi,aR,bR,bN,bF,bG,bI,bO,bS,bT,bU,bP,aN,aM,q_nil,q_cons,aH,aQ,aq,aP,aL,aS,ai,ax,aa,aO,ay,an,aT,bn,af,ag,az,bb,aZ,bQ,aG,aK,aE,av,ah,aU,aI,aV ef,fF,gx,ky,w9,bu,cu,bZ,dK,cv,dM,cY,cZ,dN,cw,bJ,c0,b0,c7,cy,cz,c8,b7,bK,cA,bL,cB,b8,b9,cD,dO,c_,cE,da,eH,dP,dQ,eJ,cF,b_,bM,db,de,cG,cH,dg,dR,dh,cI,eK,dj,dT,dU,eL,dk,cJ,cf,dW,cK,dX,dm,dY,dq,cL,cg,dZ,cM,d5,du,d6,d7,dw,cN,eO,dy,eP,d8,d9,eq_self,decide_true,Va (d+1) (by lia) σ l W (by lia),k_,cj,dJ]
 rw [kL,gb,bX]
 refine bx fun v l' e=>?_
 have:=fga.len e
 have hva:=(fga.ok e).1
 simp only [aD,bh,aX,bp,bq,bf,am,al,ae,ac,ao,ak,aj,aC,ad,aA,aw,aB,aF,aJ,aV,aW,aY,ba,a_,bc,bj,bl,bg,bi,aR,bR,bN,bF,bG,bI,bO,bS,bT,bU,bP,aN,aM,q_nil,q_cons,aH,aQ,aq,aP,aL,aS,ai,ax,aa,aO,ay,an,aT,bn,af,ag,az,bb,aZ,bQ,aG,aK,aE,av,ah,aU,aI,aV ef,gx,w9,dA (show ("b:":Str).length+op.length≤100000 by lia),Vb (d+1) (by lia) (lg k σ l') l' W.set (by lia),k_,cj,dJ,fc]
 simp only [bX]
 refine bx fun u l'' e'=>?_
 have:=fgb.len e'
 have hvb:=(fgb.ok e').1
 have h1:=gw (w:=5000) (d:=d) (c:=c) (told:=["b:"++op,v,u]) (W.set (l':=l'')) (fun x hx=>by rcases List.mem_cons.mp hx with rfl | hx;exact ho;exact ES hva hvb x hx) (Nat.le_of_ble_eq_true rfl) (by lia)
 simp only [kL,gb,fc] at h1
 simp only [fZ]
 refine h1.trans (bx fun u l'' z9=>by simp only [fZ])
theorem BX{o:Bool}(fgb:Fg (cX 100) mb fb){v:Str}(hv:cX 100 v):Fg (cX 100) (mb+2) (tq o fb v):=by
 have hbo:∀ q,cX 100 (f0 q):=fun q=>by cases q<;>exact fo (by decide +kernel)
 refine ((pJ hv.2).bind (m':=mb+1) fun q z9=>?_).mono (by lia) fun z9 h=>h
 by_cases e:q=o
 ·rw [if_pos e];exact .pure (hbo _)
 ·rw [if_neg e]
  exact fgb.bind fun u hu=>((pJ hu.2).bind (m':=0) fun r z9=>.pure (hbo _))
theorem ne_bool{a b:Bool}:dG σ .ne (.bool a) (.bool b)=some (!(a == b)):=rfl
theorem fs.log{o:Bool}(Va:fs k c bk h va ma fa)(fga:Fg (cX 100) ma fa)(hpa:plain va=true)(Vb:fs k c bk h vb mb fb)(fgb:Fg (cX 100) mb fb)(hpb:plain vb=true):fs k c bk (h+2) (.tup [.str (gj o),va,vb]) (ma+(mb+4)) (EM.bind fa (tq o fb)):=by
 intro d hd σ l W hl
 obtain ⟨d,rfl⟩:∃ q,d=q+2:=⟨d-2,by lia⟩
 have ko:∀ t∈([("num":Str),"text","parts","if","call","un","bin"]:List Str),decide (gj o=t)=false:=by
  intro t ht
  simp only [List.mem_cons,List.not_mem_nil,or_false] at ht
  rcases ht with rfl | rfl | rfl | rfl | rfl | rfl | rfl<;>cases o<;>decide +kernel
 have k1:=ko "num" (by decide)
 have k2:=ko "text" (by decide)
 have k3:=ko "parts" (by decide)
 have k4:=ko "if" (by decide)
 have k5:=ko "call" (by decide)
 have k6:=ko "un" (by decide)
 have k7:=ko "bin" (by decide)
 have k8:decide (gj o="or")=o:=by cases o<;>decide +kernel
 simp only [bo Ev Ew,z5]
 simp only [aD,bh,aX,bp,bq,bf,am,al,ae,ac,ao,ak,aj,aC,ad,aA,aw,aB,aF,aJ,aV,aW,aY,ba,a_,bc,bj,bl,bg,bi,aR,bR,bN,bF,bG,bI,bO,bS,bT,bU,bP,aN,aM,q_nil,q_cons,aH,aQ,aq,aP,aL,aS,ai,ax,aa,aO,ay,an,aT,bn,af,ag,az,bb,aZ,bQ,aG,aK,aE,av,ah,aU,aI,aV ef,fF,gx,bu,k1,k2,k3,k4,k5,k6,k7,Va (d+1) (by lia) σ l W (by lia),k_,cj,dJ]
 simp only [kL,gb,bX]
 refine bx fun v l' e=>?_
 have:=fga.len e
 have hva:=(fga.ok e).1
 have t1:=fun (F:V→St→cR V)=>congrArg (fun x=>cR.bind x F) (hO (w:=5000) (d:=d) (c:=c) (W.set (l':=l')) (Nat.le_trans hva.1 (by decide)) (show l'.length≤90000 by lia))
 simp only [cj,fc] at t1
 simp only [t1]
 unfold tq
 simp only [bX]
 refine bx fun q l2 e2=>?_
 have:=kw e2
 have q3:∀ {r:ck} {x0 x1 x2 x3:Option V} {r':Bool} {σ:St},ev (au PL 5000 (d+1)) (x0::x1::x2::x3::some (.bool r')::r) (.ite (.loc 4) (.str "1") (.str "0")) σ=bv (.str (f0 r')) σ:=by
  intro r x0 x1 x2 x3 r' σ
  cases r'<;>rfl
 simp only [aD,aE,aI,aG,aK,q3,ai,q_cons,q_nil,aH,aF,aV ef,aW ao,aY am,a_ ae,aL,an,aJ,aX,bf,ky,bI,bu,k8,ne_bool,fZ]
 by_cases hq:q=o
 ·rw [if_pos hq,hq,beq_self_eq_true,Bool.not_true,aZ,aG,aK,q3];rfl
 ·rw [if_neg hq,beq_eq_false_iff_ne.mpr hq,Bool.not_false,bb]
  simp only [aE,ai,q_cons,q_nil,aH,aF,aV ef,aW ao,aD,aX,ky,bI,aG,aK,q3,Vb (d+1) (by lia) (lg k σ l2) l2 W.set (by lia),k_,cj,dJ,fc]
  simp only [bX]
  refine bx fun u l3 e3=>?_
  have:=fgb.len e3
  have hub:=(fgb.ok e3).1
  have t2:=fun (F:V→St→cR V)=>congrArg (fun x=>cR.bind x F) (hO (w:=5000) (d:=d) (c:=c) (W.set (l':=l3)) (Nat.le_trans hub.1 (by decide)) (show l3.length≤90000 by lia))
  simp only [cj,fc] at t2
  simp only [fZ,t2,bX]
  refine bx fun r l4 z9=>?_
  simp only [fZ,gT,q3]
theorem fs.ite(Va:fs k c bk h va ma fa)(fga:Fg (cX 100) ma fa)(hpa:plain va=true)(Vb:fs k c bk h vb mb fb)(hpb:plain vb=true)(Ve:fs k c bk h ve me fe)(hpe:plain ve=true):fs k c bk (h+2) (.tup [.str "if",va,vb,ve]) (ma+(1+(mb+(1+me)))) (uR fa fb fe):=by
 intro d hd σ l W hl
 obtain ⟨d,rfl⟩:∃ q,d=q+2:=⟨d-2,by lia⟩
 simp only [bo Ev Ew,z5]
 simp only [aD,bh,aX,bp,bq,bf,am,al,ae,ac,ao,ak,aj,aC,ad,aA,aw,aB,aF,aJ,aV,aW,aY,ba,a_,bc,bj,bl,bg,bi,aR,bR,bN,bF,bG,bI,bO,bS,bT,bU,bP,aN,aM,q_nil,q_cons,aH,aQ,aq,aP,aL,aS,ai,ax,aa,aO,ay,an,aT,bn,af,ag,az,bb,aZ,bQ,aG,aK,aE,av,ah,aU,aI,aV ef,fF,gx,bu,cu,bZ,dK,cv,dM,cY,cZ,dN,cw,bJ,c0,b0,c7,cy,cz,c8,b7,bK,cA,bL,cB,b8,b9,cD,dO,c_,cE,da,eH,dP,dQ,eJ,cF,b_,bM,db,de,cG,cH,dg,dR,dh,cI,eK,dj,dT,dU,eL,dk,cJ,cf,dW,cK,dX,dm,dY,dq,cL,cg,dZ,cM,d5,du,d6,d7,dw,cN,eO,dy,eP,d8,d9,eq_self,decide_true,Va (d+1) (by lia) σ l W (by lia),k_,cj,dJ]
 unfold uR
 simp only [kL,gb,bX]
 refine bx fun v l' e=>?_
 have:=fga.len e
 have hva:=(fga.ok e).1
 have t1:=fun (F:V→St→cR V)=>congrArg (fun x=>cR.bind x F) (hO (w:=5000) (d:=d) (c:=c) (W.set (l':=l')) (Nat.le_trans hva.1 (by decide)) (show l'.length≤90000 by lia))
 simp only [cj,fc] at t1
 simp only [t1,bX]
 refine bx fun q l2 e2=>?_
 have:=kw e2
 simp only [show ∀ σ,lift (eF σ (.bool q)) σ=bv q σ from fun z9=>rfl,aD]
 cases q with
 | true=>
  simp only [aD,bh,aX,bp,bq,bf,am,al,ae,ac,ao,ak,aj,aC,ad,aA,aw,aB,aF,aJ,aV,aW,aY,ba,a_,bc,bj,bl,bg,bi,aR,bR,bN,bF,bG,bI,bO,bS,bT,bU,bP,aN,aM,q_nil,q_cons,aH,aQ,aq,aP,aL,aS,ai,ax,aa,aO,ay,an,aT,bn,af,ag,az,bb,aZ,bQ,aG,aK,aE,av,ah,aU,aI,ky,fZ,Vb (d+1) (by lia) (lg k σ l2) l2 W.set (by lia)]
  simp only [kL,gb,fc]
  exact bx fun u l3 z9=>by rw [fZ]
 | false=>
  simp only [aD,bh,aX,bp,bq,bf,am,al,ae,ac,ao,ak,aj,aC,ad,aA,aw,aB,aF,aJ,aV,aW,aY,ba,a_,bc,bj,bl,bg,bi,aR,bR,bN,bF,bG,bI,bO,bS,bT,bU,bP,aN,aM,q_nil,q_cons,aH,aQ,aq,aP,aL,aS,ai,ax,aa,aO,ay,an,aT,bn,af,ag,az,bb,aZ,bQ,aG,aK,aE,av,ah,aU,aI,w9,fZ,Ve (d+1) (by lia) (lg k σ l2) l2 W.set (by lia)]
  simp only [kL,gb,fc]
  exact bx fun u l3 z9=>by rw [fZ]
theorem fs.fn{f:Str}{as:List Ag}(hn:as.length≤3)(ho:kN ("f:"++f))(h':∀ a∈as,fs k c bk h a.1 a.2.1 a.2.2∧Fg (cX 100) a.2.1 a.2.2∧plain a.1=true):fs k c bk (h+2) (.tup [.str "call",.str f,.tup (as.map (·.1))]) ((as.map (·.2.1)).sum+1) (EM.bind (eg pO as) fun A=>gv (("f:"++f)::A)):=by
 intro d hd σ l W hl
 obtain ⟨d,rfl⟩:∃ q,d=q+2:=⟨d-2,by lia⟩
 have ho':=ho.1
 simp only [ez] at ho'
 simp only [bo Ev Ew,z5]
 have hc:=nz (C:=au PL 5000 (d+1)) (ρ:=[some (WV k c),some (.tup [.str "call",.str f,.tup (as.map (·.1))]),some (.str "call"),none,none]) (σ:=σ) (elt:=.call 53 [.loc 0,.loc 5]) (src:=.sub (.loc 1) (.int 2)) (v:=.tup (as.map (·.1))) (vs:=as.map (·.1)) (by simp only [aD,bh,aX,bp,bq,bf,am,al,ae,ac,ao,ak,aj,aC,ad,aA,aw,aB,aF,aJ,aV,aW,aY,ba,a_,bc,bj,bl,bg,bi,aR,bR,bN,bF,bG,bI,bO,bS,bT,bU,bP,aN,aM,q_nil,q_cons,aH,aQ,aq,aP,aL,aS,ai,ax,aa,aO,ay,an,aT,bn,af,ag,az,bb,aZ,bQ,aG,aK,aE,av,ah,aU,aI,ky]) rfl rfl rfl
 rw [Ep (k:=k) (bk:=bk) (f:=pO) (P:=cX 100) (ms:=fun a=>a.2.1) as l σ (fun a ha=>⟨(h' a ha).2.1,fun l σ W hl=>by
  refine (?_:ev _ [_,_,_,_,_,_] _ _=_)
  simp only [aD,bh,aX,bp,bq,bf,am,al,ae,ac,ao,ak,aj,aC,ad,aA,aw,aB,aF,aJ,aV,aW,aY,ba,a_,bc,bj,bl,bg,bi,aR,bR,bN,bF,bG,bI,bO,bS,bT,bU,bP,aN,aM,q_nil,q_cons,aH,aQ,aq,aP,aL,aS,ai,ax,aa,aO,ay,an,aT,bn,af,ag,az,bb,aZ,bQ,aG,aK,aE,av,ah,aU,aI,aV ef,bc (h' a ha).2.2]
  exact (h' a ha).1 (d+1) (by lia) σ l W hl⟩) W (by lia),dJ] at hc
 have ht:ev (au PL 5000 (d+1)) [some (WV k c),some (.tup [.str "call",.str f,.tup (as.map (·.1))]),some (.str "call"),none,none] (.tuple (.bin .add (.lst [.bin .add (.str "f:") (.sub (.loc 1) (.int 1))]) (.comp (.call 53 [.loc 0,.loc 5]) (.sub (.loc 1) (.int 2)) (.bool true)))) σ=f_ k σ (eg pO as l) fun vs l'=>bv (.tup (cT (("f:"++f)::vs))) (lg k σ l'):=by
  refine (?_:(ev _ _ (.bin .add _ _) σ).bind _=_)
  simp only [aD,bh,aX,bp,bq,bf,am,al,ae,ac,ao,ak,aj,aC,ad,aA,aw,aB,aF,aJ,aV,aW,aY,ba,a_,bc,bj,bl,bg,bi,aR,bR,bN,bF,bG,bI,bO,bS,bT,bU,bP,aN,aM,q_nil,q_cons,aH,aQ,aq,aP,aL,aS,ai,ax,aa,aO,ay,an,aT,bn,af,ag,az,bb,aZ,bQ,aG,aK,aE,av,ah,aU,aI,gx,dA (show ("f:":Str).length+f.length≤100000 by lia),hc,k_,cj,dJ]
  refine bx fun vs l' e=>?_
  have hv:=((fp (P:=cX 100) (ms:=fun a:Ag=>a.2.1) (f:=pO) fun a ha=>(h' a ha).2.1).ok e).1
  refine (?_:(lift (if fl _=true then _ else _) _).bind _=_)
  rw [e_ (show [V.str ("f:"++f)].length+(cT vs).length≤100000 by simp only [hH,hv.1];simp only [List.length_cons,List.length_nil];lia)];rfl
 simp only [aD,bh,aX,bp,bq,bf,am,al,ae,ac,ao,ak,aj,aC,ad,aA,aw,aB,aF,aJ,aV,aW,aY,ba,a_,bc,bj,bl,bg,bi,aR,bR,bN,bF,bG,bI,bO,bS,bT,bU,bP,aN,aM,q_nil,q_cons,aH,aQ,aq,aP,aL,aS,ai,ax,aa,aO,ay,an,aT,bn,af,ag,az,bb,aZ,bQ,aG,aK,aE,av,ah,aU,aI,aV ef,fF,bu,cu,bZ,dK,cv,dM,cY,cZ,dN,cw,bJ,c0,b0,c7,cy,cz,c8,b7,bK,cA,bL,cB,b8,b9,cD,dO,c_,cE,da,eH,dP,dQ,eJ,cF,b_,bM,db,de,cG,cH,dg,dR,dh,cI,eK,dj,dT,dU,eL,dk,cJ,cf,dW,cK,dX,dm,dY,dq,cL,cg,dZ,cM,d5,du,d6,d7,dw,cN,eO,dy,eP,d8,d9,eq_self,decide_true,ht,k_,cj,dJ]
 simp only [kL,gb,bX]
 refine bx fun vs l' e=>?_
 have hv:=(fp (P:=cX 100) (ms:=fun a:Ag=>a.2.1) (f:=pO) fun a ha=>(h' a ha).2.1).ok e
 have:=hv.2.len
 have h1:=gw (w:=5000) (d:=d) (c:=c) (told:=("f:"++f)::vs) (W.set (l':=l')) (fun x hx=>by rcases List.mem_cons.mp hx with rfl | hx;exact ho;exact hv.1.2 x hx) (by simp only [List.length_cons,hv.1.1];lia) (by lia)
 simp only [kL,gb,fc] at h1
 refine h1.trans (bx fun u l'' z9=>by simp only [fZ])
end
end
end Mine.Internal.Q
end
section
open PySem
namespace Mine.Internal.Q
noncomputable section
section
variable {C:CF} {w d k p h:Nat} {s s' s'':SS} {v:V} {l l':fS} {ρ ρ':ck} {K B:KK} {σ σ':St} {bk:List (Str×V)} {c:Int} {run:Str→EM Str} {α β γ δ:Type} {m n:Nat} {x y:Int} {va vb ve:V} {ma mb me:Nat}
theorem Gb:PL 55=some CG:=by kernel_rfl
theorem Gg{a:V}:cS CG [a]=some [some a,none,none,none]:=rfl
theorem BY{a b:Nat}(h:a+b≤4000):gJ .add (.int a) (.int b)=some (.int (a+b:Nat)):=by
 rw [uC (cO (by lia)) (cO (by lia))];rfl
theorem zN{b:Nat}(h:b≤3900):gJ .add (.int 1) (.int b)=some (.int (b+1:Nat)):=by
 rw [show (1:Int)=((1:Nat):Int) from rfl,BY (by lia),Nat.add_comm]
theorem mS{kd:Str}(h:(([("num":Str),"text"]).any fun y=>decide (y=kd))=false):dG σ .isin (.str kd) (.lst [.str "num",.str "text"])=some false:=by
 rw [pI (ss:=[("num":Str),"text"]) rfl,h]
theorem d_.num{n:Int}:d_ 1 (.tup [.str "num",.int n]) 1:=by
 intro d hd σ
 obtain ⟨d,rfl⟩:∃ q,d=q+1:=⟨d-1,by lia⟩
 kernel_rfl
theorem d_.text{u:Str}:d_ 1 (.tup [.str "text",.str u]) 1:=by
 intro d hd σ
 obtain ⟨d,rfl⟩:∃ q,d=q+1:=⟨d-1,by lia⟩
 kernel_rfl
theorem Gi:dG σ .isin (.str "un") (.lst [.str "num",.str "text"])=some false:=mS (kd:="un") (by kernel_rfl)
theorem Ex:dG σ .isin (.str "bin") (.lst [.str "num",.str "text"])=some false:=mS (kd:="bin") (by kernel_rfl)
theorem BZ:dG σ .isin (.str "call") (.lst [.str "num",.str "text"])=some false:=mS (kd:="call") (by kernel_rfl)
theorem Gj:dG σ .isin (.str "if") (.lst [.str "num",.str "text"])=some false:=mS (kd:="if") (by kernel_rfl)
theorem Ey{o:Bool}:dG σ .isin (.str (gj o)) (.lst [.str "num",.str "text"])=some false:=mS (kd:=gj o) (by cases o<;>kernel_rfl)
theorem pP:∀ {l:List Nat} {m:Nat},m∈l→m≤l.sum:=by
 intro l
 induction l with
 | nil=>intro m h;cases h
 | cons a r ih=>
  intro m h
  simp only [List.sum_cons]
  refine Or.elim (List.mem_cons.mp h) (fun ho38_0=>?_) fun h=>?_
  ·subst ho38_0
   lia
  ·have:=ih h;lia
theorem d_.un{op:Str}(Ma:d_ h va ma)(hpa:plain va=true)(hm:ma≤3900):d_ (h+1) (.tup [.str "un",.str op,va]) (ma+1):=by
 intro d hd σ
 obtain ⟨d,rfl⟩:∃ q,d=q+1:=⟨d-1,by lia⟩
 simp only [bo Gb Gg,CG]
 simp only [aD,bh,aX,bp,bq,bf,am,al,ae,ac,ao,ak,aj,aC,ad,aA,aw,aB,aF,aJ,aV,aW,aY,ba,a_,bc,bj,bl,bg,bi,aR,bR,bN,bF,bG,bI,bO,bS,bT,bU,bP,aN,aM,q_nil,q_cons,aH,aQ,aq,aP,aL,aS,ai,ax,aa,aO,ay,an,aT,bn,af,ag,az,bb,aZ,bQ,aG,aK,aE,av,ah,aU,aI,fF,ky,Gi,bu,cu,bZ,dK,cv,dM,cY,cZ,dN,cw,bJ,c0,b0,c7,cy,cz,c8,b7,bK,cA,bL,cB,b8,b9,cD,dO,c_,cE,da,eH,dP,dQ,eJ,cF,b_,bM,db,de,cG,cH,dg,dR,dh,cI,eK,dj,dT,dU,eL,dk,cJ,cf,dW,cK,dX,dm,dY,dq,cL,cg,dZ,cM,d5,du,d6,d7,dw,cN,eO,dy,eP,d8,d9,eq_self,decide_true,Ma d (by lia),zN hm]
theorem d_.bin{op:Str}(Ma:d_ h va ma)(hpa:plain va=true)(Mb:d_ h vb mb)(hpb:plain vb=true)(hm:ma+mb≤3900):d_ (h+1) (.tup [.str "bin",.str op,va,vb]) (ma+(mb+1)):=by
 intro d hd σ
 obtain ⟨d,rfl⟩:∃ q,d=q+1:=⟨d-1,by lia⟩
 simp only [bo Gb Gg,CG]
 simp only [aD,bh,aX,bp,bq,bf,am,al,ae,ac,ao,ak,aj,aC,ad,aA,aw,aB,aF,aJ,aV,aW,aY,ba,a_,bc,bj,bl,bg,bi,aR,bR,bN,bF,bG,bI,bO,bS,bT,bU,bP,aN,aM,q_nil,q_cons,aH,aQ,aq,aP,aL,aS,ai,ax,aa,aO,ay,an,aT,bn,af,ag,az,bb,aZ,bQ,aG,aK,aE,av,ah,aU,aI,fF,ky,w9,Ex,bu,cu,bZ,dK,cv,dM,cY,cZ,dN,cw,bJ,c0,b0,c7,cy,cz,c8,b7,bK,cA,bL,cB,b8,b9,cD,dO,c_,cE,da,eH,dP,dQ,eJ,cF,b_,bM,db,de,cG,cH,dg,dR,dh,cI,eK,dj,dT,dU,eL,dk,cJ,cf,dW,cK,dX,dm,dY,dq,cL,cg,dZ,cM,d5,du,d6,d7,dw,cN,eO,dy,eP,d8,d9,eq_self,decide_true,Ma d (by lia),Mb d (by lia),zN (show ma≤3900 by lia),BY (show ma+1+mb≤4000 by lia)]
 rw [show ma+1+mb=ma+(mb+1) by lia]
theorem tt{elt src:PE}{vs:List V}{ms:List Nat}(hs:ev C ρ src σ=bv (.tup vs) σ)(hl:vs.length=ms.length)(he:∀ (i:Nat) v m,vs[i]?=some v→ms[i]?=some m→ev C (ρ++[some v]) elt σ=bv (.int (m:Nat)) σ)(hn:ms.length≤100)(hm:∀ m∈ms,m<2000000) :
  ev C ρ (.sum (.comp elt src (.bool true))) σ=bv (.int (ms.sum:Nat)) σ:=by
 refine zd ?_ hm (by lia)
 rw [nz (v:=.tup vs) (vs:=vs) hs rfl rfl rfl,s7 (m:=ms.map fun n:Nat=>V.int (n:Int)) (by simp only [List.length_map,hl]) fun i v x hv hx=>?_,aD]
 rw [List.getElem?_map] at hx
 refine ob_1_2 (Option.map_eq_some_iff.mp hx) fun m hm hq58_2=>?_
 subst hq58_2
 exact he i v m hv hm
theorem d_.fn{f:Str}{as:List Ag}(hn:as.length≤3)(h':∀ a∈as,d_ h a.1 a.2.1∧plain a.1=true)(hm:(as.map (·.2.1)).sum≤3900):d_ (h+1) (.tup [.str "call",.str f,.tup (as.map (·.1))]) ((as.map (·.2.1)).sum+1):=by
 intro d hd σ
 obtain ⟨d,rfl⟩:∃ q,d=q+1:=⟨d-1,by lia⟩
 simp only [bo Gb Gg,CG]
 have hs:=tt (C:=au PL 5000 d) (ρ:=[some (.tup [.str "call",.str f,.tup (as.map (·.1))]),some (.str "call"),none,none]) (σ:=σ) (elt:=.call 55 [.loc 4]) (src:=.sub (.loc 0) (.int 2)) (vs:=as.map (·.1)) (ms:=as.map (·.2.1)) (by simp only [aD,bh,aX,bp,bq,bf,am,al,ae,ac,ao,ak,aj,aC,ad,aA,aw,aB,aF,aJ,aV,aW,aY,ba,a_,bc,bj,bl,bg,bi,aR,bR,bN,bF,bG,bI,bO,bS,bT,bU,bP,aN,aM,q_nil,q_cons,aH,aQ,aq,aP,aL,aS,ai,ax,aa,aO,ay,an,aT,bn,af,ag,az,bb,aZ,bQ,aG,aK,aE,av,ah,aU,aI,ky]) (by simp only [List.length_map,List.length_map]) (fun i v m hv hm=>by
  rw [List.getElem?_map] at hv hm
  refine ob_1_2 (Option.map_eq_some_iff.mp hv) fun a ha hq66_2=>?_
  subst hq66_2
  rw [ha] at hm;obtain rfl:=Option.some.inj hm
  have hh:=h' a (List.mem_of_getElem? ha)
  refine (?_:ev _ [_,_,_,_,_] _ _=_)
  simp only [aD,bh,aX,bp,bq,bf,am,al,ae,ac,ao,ak,aj,aC,ad,aA,aw,aB,aF,aJ,aV,aW,aY,ba,a_,bc,bj,bl,bg,bi,aR,bR,bN,bF,bG,bI,bO,bS,bT,bU,bP,aN,aM,q_nil,q_cons,aH,aQ,aq,aP,aL,aS,ai,ax,aa,aO,ay,an,aT,bn,af,ag,az,bb,aZ,bQ,aG,aK,aE,av,ah,aU,aI,a_ hh.2]
  exact hh.1 d (by lia) σ) (by rw [List.length_map];lia) (fun m hm'=>by
   have:=pP hm'
   lia)
 simp only [aD,bh,aX,bp,bq,bf,am,al,ae,ac,ao,ak,aj,aC,ad,aA,aw,aB,aF,aJ,aV,aW,aY,ba,a_,bc,bj,bl,bg,bi,aR,bR,bN,bF,bG,bI,bO,bS,bT,bU,bP,aN,aM,q_nil,q_cons,aH,aQ,aq,aP,aL,aS,ai,ax,aa,aO,ay,an,aT,bn,af,ag,az,bb,aZ,bQ,aG,aK,aE,av,ah,aU,aI,fF,BZ,bu,cu,bZ,dK,cv,dM,cY,cZ,dN,cw,bJ,c0,b0,c7,cy,cz,c8,b7,bK,cA,bL,cB,b8,b9,cD,dO,c_,cE,da,eH,dP,dQ,eJ,cF,b_,bM,db,de,cG,cH,dg,dR,dh,cI,eK,dj,dT,dU,eL,dk,cJ,cf,dW,cK,dX,dm,dY,dq,cL,cg,dZ,cM,d5,du,d6,d7,dw,cN,eO,dy,eP,d8,d9,eq_self,decide_true,hs,zN hm]
theorem B1{r:List V}{a:V}:rT (.tup (a::r)) (.int 1) .none=some (.tup r):=by
 refine (?_:(if decide (1≤(a::r).length)=true then _ else none)=_)
 rw [decide_eq_true (by simp only [List.length_cons];lia)];rfl
theorem qK{kd:Str}{as:List Ag}(hn:as.length≤3)(h':∀ a∈as,d_ h a.1 a.2.1∧plain a.1=true)(hm:(as.map (·.2.1)).sum≤3900)(hd:h≤d):ev (au PL 5000 d) [some (.tup (.str kd::as.map (·.1))),some (.str kd),none,none] (.sum (.comp (.call 55 [.loc 4]) (.slc (.loc 0) (.int 1) .none) (.bool true))) σ=bv (.int ((as.map (·.2.1)).sum:Nat)) σ:=
 tt (vs:=as.map (·.1)) (ms:=as.map (·.2.1)) (by simp only [aD,bh,aX,bp,bq,bf,am,al,ae,ac,ao,ak,aj,aC,ad,aA,aw,aB,aF,aJ,aV,aW,aY,ba,a_,bc,bj,bl,bg,bi,aR,bR,bN,bF,bG,bI,bO,bS,bT,bU,bP,aN,aM,q_nil,q_cons,aH,aQ,aq,aP,aL,aS,ai,ax,aa,aO,ay,an,aT,bn,af,ag,az,bb,aZ,bQ,aG,aK,aE,av,ah,aU,aI,B1]) (by simp only [List.length_map,List.length_map]) (fun i v m hv hm=>by
  rw [List.getElem?_map] at hv hm
  refine ob_1_2 (Option.map_eq_some_iff.mp hv) fun a ha hq81_2=>?_
  subst hq81_2
  rw [ha] at hm;obtain rfl:=Option.some.inj hm
  have hh:=h' a (List.mem_of_getElem? ha)
  refine (?_:ev _ [_,_,_,_,_] _ _=_)
  simp only [aD,bh,aX,bp,bq,bf,am,al,ae,ac,ao,ak,aj,aC,ad,aA,aw,aB,aF,aJ,aV,aW,aY,ba,a_,bc,bj,bl,bg,bi,aR,bR,bN,bF,bG,bI,bO,bS,bT,bU,bP,aN,aM,q_nil,q_cons,aH,aQ,aq,aP,aL,aS,ai,ax,aa,aO,ay,an,aT,bn,af,ag,az,bb,aZ,bQ,aG,aK,aE,av,ah,aU,aI,a_ hh.2]
  exact hh.1 d (by lia) σ) (by rw [List.length_map];lia) (fun m hm'=>by
   have:=pP hm'
   lia)
theorem d_.log{o:Bool}(Ma:d_ h va ma)(hpa:plain va=true)(Mb:d_ h vb mb)(hpb:plain vb=true)(hm:ma+mb≤3900):d_ (h+1) (.tup [.str (gj o),va,vb]) (ma+(mb+4)):=by
 intro d hd σ
 obtain ⟨d,rfl⟩:∃ q,d=q+1:=⟨d-1,by lia⟩
 have ko:∀ t∈([("parts":Str),"if","call","un","bin"]:List Str),decide (gj o=t)=false:=by
  intro t ht
  simp only [List.mem_cons,List.not_mem_nil,or_false] at ht
  rcases ht with rfl | rfl | rfl | rfl | rfl<;>cases o<;>decide +kernel
 have k3:=ko "parts" (by decide)
 have k4:=ko "if" (by decide)
 have k5:=ko "call" (by decide)
 have k6:=ko "un" (by decide)
 have k7:=ko "bin" (by decide)
 have hs:=qK (h:=h) (d:=d) (σ:=σ) (kd:=gj o) (as:=[(va,ma,EM.pure ""),(vb,mb,EM.pure "")]) (Nat.le_of_ble_eq_true rfl) (fun a ha=>by
  simp only [List.mem_cons,List.not_mem_nil,or_false] at ha
  rcases ha with rfl | rfl
  ·exact ⟨Ma,hpa⟩
  ·exact ⟨Mb,hpb⟩) (by simp only [List.map_cons,List.map_nil,List.sum_cons,List.sum_nil];lia) (by lia)
 simp only [List.map_cons,List.map_nil,List.sum_cons,List.sum_nil,Nat.add_zero] at hs
 simp only [bo Gb Gg,CG]
 simp only [aD,bh,aX,bp,bq,bf,am,al,ae,ac,ao,ak,aj,aC,ad,aA,aw,aB,aF,aJ,aV,aW,aY,ba,a_,bc,bj,bl,bg,bi,aR,bR,bN,bF,bG,bI,bO,bS,bT,bU,bP,aN,aM,q_nil,q_cons,aH,aQ,aq,aP,aL,aS,ai,ax,aa,aO,ay,an,aT,bn,af,ag,az,bb,aZ,bQ,aG,aK,aE,av,ah,aU,aI,fF,Ey,bu,k3,k4,k5,k6,k7,hs,show (4:Int)=((4:Nat):Int) from rfl,BY (show ma+mb+4≤4000 by lia)]
 rw [Nat.add_assoc]
theorem d_.ite(Ma:d_ h va ma)(hpa:plain va=true)(Mb:d_ h vb mb)(hpb:plain vb=true)(Me:d_ h ve me)(hpe:plain ve=true)(hm:ma+mb+me≤3900):d_ (h+1) (.tup [.str "if",va,vb,ve]) (ma+(1+(mb+(1+me)))):=by
 intro d hd σ
 obtain ⟨d,rfl⟩:∃ q,d=q+1:=⟨d-1,by lia⟩
 have hs:=qK (h:=h) (d:=d) (σ:=σ) (kd:="if") (as:=[(va,ma,EM.pure ""),(vb,mb,EM.pure ""),(ve,me,EM.pure "")]) (Nat.le_of_ble_eq_true rfl) (fun a ha=>by
  simp only [List.mem_cons,List.not_mem_nil,or_false] at ha
  rcases ha with rfl | rfl | rfl
  ·exact ⟨Ma,hpa⟩
  ·exact ⟨Mb,hpb⟩
  ·exact ⟨Me,hpe⟩) (by simp only [List.map_cons,List.map_nil,List.sum_cons,List.sum_nil];lia) (by lia)
 simp only [List.map_cons,List.map_nil,List.sum_cons,List.sum_nil,Nat.add_zero] at hs
 simp only [bo Gb Gg,CG]
 simp only [aD,bh,aX,bp,bq,bf,am,al,ae,ac,ao,ak,aj,aC,ad,aA,aw,aB,aF,aJ,aV,aW,aY,ba,a_,bc,bj,bl,bg,bi,aR,bR,bN,bF,bG,bI,bO,bS,bT,bU,bP,aN,aM,q_nil,q_cons,aH,aQ,aq,aP,aL,aS,ai,ax,aa,aO,ay,an,aT,bn,af,ag,az,bb,aZ,bQ,aG,aK,aE,av,ah,aU,aI,fF,Gj,bu,cu,bZ,dK,cv,dM,cY,cZ,dN,cw,bJ,c0,b0,c7,cy,cz,c8,b7,bK,cA,bL,cB,b8,b9,cD,dO,c_,cE,da,eH,dP,dQ,eJ,cF,b_,bM,db,de,cG,cH,dg,dR,dh,cI,eK,dj,dT,dU,eL,dk,cJ,cf,dW,cK,dX,dm,dY,dq,cL,cg,dZ,cM,d5,du,d6,d7,dw,cN,eO,dy,eP,d8,d9,eq_self,decide_true,hs,show (2:Int)=((2:Nat):Int) from rfl,BY (show ma+(mb+me)+2≤4000 by lia)]
 simp only [show ma+(mb+me)+2=ma+(1+(mb+(1+me))) by lia]
end
end
end Mine.Internal.Q
end
section
open PySem
set_option genCtorIdx false
namespace Mine.Internal.Q
noncomputable section
structure fG (c:Int) (bk:List (Str×V)) (h:Nat) (v:V) (m:Nat) (f:EM Str):Prop where
 pl:plain v=true
 fg:Fg (cX 100) m f
 comp:cm c bk h v m f
 val:∀ k,fs k c bk h v m f
 many:d_ h v m
noncomputable def Ez:List Str:=["rec 0","rec $x","rec 1; rec ${y}2"," # none\n","rec [rec 3] $y","rec 4;rec {","stop e$x"]
noncomputable def pQ:List (List Pt):=[[.var "x"],[.var "y"],[.var "q"],[.elt "a" (.txt "1")],[.elt "a" (.var "x")],[.elt "a" (.cmd "rec 0")]]++Ez.map (fun t=>[.txt "e",.var "y",.cmd t])++Ez.map (fun t=>[.cmd t])
noncomputable def B2:Pt→Bool
 | .txt s=>Nat.ble s.length 10&&PyData.strOk s
 | .var s=>Nat.ble s.length 10&&PyData.strOk s
 | .cmd t=>(bE t j4).isSome
 | .elt ..=>false
noncomputable def IK:Pt→Bool
 | .elt a i=>Nat.ble a.length 10&&PyData.strOk a&&B2 i
 | p=>B2 p
noncomputable def CT(ps:List Pt):Bool:=Nat.ble 1 ps.length&&Nat.ble ps.length 3&&ps.all (fun p=>IK p&&CP p)&&Nat.ble (ps.map lm).sum (wr nA ps)&&Nat.ble (wr nA ps) 12
theorem xh{t:Str}{α:Type}:∀ {l:List (Str×α)} {s:α},bE t l=some s→(t,s)∈l:=by
 intro l
 induction l with
 | nil=>intro s h;exact cq h
 | cons a r ih=>
  obtain ⟨y,v⟩:=a
  intro s h
  unfold bE at h
  by_cases q:t=y
  ·rw [if_pos q] at h;obtain rfl:=Option.some.inj h;rw [q];exact .head _
  ·rw [if_neg q] at h;exact .tail _ (ih h)
theorem tv{p:Pt}(h:B2 p=true):vW p:=by
 cases p with
 | txt=>exact fo h
 | var=>exact fo h
 | cmd t=>
  refine ob_1_1 (Option.isSome_iff_exists.mp h) fun s hs=>?_
  exact ⟨s,xh hs⟩
 | elt=>exact j9 h
theorem B3{p:Pt}(h:IK p=true):tf p:=by
 cases p with
 | txt=>exact fo h
 | var=>exact fo h
 | cmd t=>exact tv (p:=.cmd t) h
 | elt a i=>
  have h:(Nat.ble a.length 10&&PyData.strOk a&&B2 i)=true:=h
  rw [Bool.and_eq_true] at h
  exact ⟨fo h.1,tv h.2⟩
theorem xi:pQ.all CT=true:=by kernel_rfl
theorem xj:∀ ps∈pQ,∀ d σ,au PL 5000 (d+3) 55 [.tup [.str "parts",.tup (ps.map Pt.v)]] σ=bv (.int (wr nA ps:Nat)) σ:=by
 unfold pQ Ez
 simp only [List.map_cons,List.map_nil,List.cons_append,List.nil_append,List.forall_mem_cons]
 repeat' first | exact fun z9 h=>nomatch h | refine ⟨fun d σ=>by kernel_rfl,?_⟩
section
variable {C:CF} {w d k p h h':Nat} {v:V} {bk:List (Str×V)} {c:Int} {m n:Nat} {va vb ve:V} {ma mb me:Nat} {f fa ft fe fb:EM Str}
theorem qL(Bk:dF bk){ps:List Pt}(hp:ps∈pQ):fG c bk 29 (.tup [.str "parts",.tup (ps.map Pt.v)]) (wr nA ps) (fj bk (mi bk c) ps)∧wr nA ps≤12:=by
 have B:=List.all_eq_true.mp xi ps hp
 unfold CT at B
 simp only [Bool.and_eq_true,Bool.and_eq_true,Bool.and_eq_true,Bool.and_eq_true] at B
 refine bC B fun hq65_0 b5=>?_
 obtain ⟨⟨⟨b1,b2⟩,b3⟩,b4⟩:=hq65_0
 have b1:1≤ps.length:=Nat.le_of_ble_eq_true b1
 have b2:ps.length≤3:=Nat.le_of_ble_eq_true b2
 have b4:=Nat.le_of_ble_eq_true b4
 have b3:∀ p∈ps,tf p∧CP p=true:=fun p hq=>by
  have:=List.all_eq_true.mp b3 p hq
  simp only [Bool.and_eq_true] at this
  exact ⟨B3 this.1,this.2⟩
 refine ⟨⟨rfl,zM Bk b2 (fun p hq=>(b3 p hq).1) b4,.parts Bk ⟨b1,b2⟩ b3,fun k d hd=>fs.parts Bk b2 (fun p hq=>(b3 p hq).1) b4 d (by lia),fun d hd σ=>?_⟩,Nat.le_of_ble_eq_true b5⟩
 obtain ⟨d,rfl⟩:∃ q,d=q+3:=⟨d-3,by lia⟩
 exact xj ps hp d σ
theorem fG.num{n:Nat}(hn:n<10 ^ 40):fG c bk 2 (.tup [.str "num",.int n]) 1 (EM.pure (nW n)):=
 ⟨rfl,.pure (by have:=rB (k:=40) (by decide) hn;exact ⟨by lia,this.2⟩),.num hn,fun k d hd=>fs.num hn d (by lia),fun d hd=>d_.num d (by lia)⟩
theorem fG.text{u:Str}(hu:cX 100 u):fG c bk 2 (.tup [.str "text",.str u]) 1 (EM.pure u):=
 ⟨rfl,.pure hu,.text,fun k d hd=>fs.text d (by lia),fun d hd=>d_.text d (by lia)⟩
theorem fG.mono(H:fG c bk h v m f)(hh:h≤h'):fG c bk h' v m f:=
 ⟨H.pl,H.fg,fun d hd=>H.comp d (by lia),fun k d hd=>H.val k d (by lia),fun d hd=>H.many d (by lia)⟩
theorem EA{u v:Str}(hu:cX 100 u)(hv:cX 100 v):Fg (cX 100) 1 (gv [u,v]):=(kx (ES hu hv) (Nat.le_of_ble_eq_true rfl)).mono (Nat.le_refl _) fun z9 h=>h.mono (by decide)
theorem fG.un{op:Str}(ho:kN ("u:"++op))(A:fG c bk h va ma fa)(hm:ma≤3900):fG c bk (h+3) (.tup [.str "un",.str op,va]) (ma+1) (EM.bind fa fun v=>gv ["u:"++op,v]):=
 ⟨rfl,A.fg.bind fun v hv=>EA ho hv,fun d hd=>cm.un ho A.comp A.fg A.pl d (by lia),fun k d hd=>fs.un ho (A.val k) A.fg A.pl d (by lia),fun d hd=>d_.un A.many A.pl hm d (by lia)⟩
theorem fG.bin{op:Str}(ho:kN ("b:"++op))(A:fG c bk h va ma fa)(B:fG c bk h vb mb fb)(hm:ma+mb≤3900):fG c bk (h+3) (.tup [.str "bin",.str op,va,vb]) (ma+(mb+1)) (EM.bind fa fun v=>EM.bind fb fun u=>gv ["b:"++op,v,u]):=
 ⟨rfl,A.fg.bind fun v hv=>B.fg.bind fun u hu=>(kx (fun x hx=>by rcases List.mem_cons.mp hx with rfl | hx;exact ho;exact ES hv hu x hx) (Nat.le_of_ble_eq_true rfl)).mono (Nat.le_refl _) fun z9 h=>h.mono (by decide),
  fun d hd=>cm.bin ho A.comp A.fg B.comp B.fg B.pl d (by lia),fun k d hd=>fs.bin ho (A.val k) A.fg A.pl (B.val k) B.fg B.pl d (by lia),fun d hd=>d_.bin A.many A.pl B.many B.pl hm d (by lia)⟩
theorem fG.log{o:Bool}(A:fG c bk h va ma fa)(B:fG c bk h vb mb fb)(hm:ma+mb≤3900):fG c bk (h+3) (.tup [.str (gj o),va,vb]) (ma+(mb+4)) (EM.bind fa (tq o fb)):=
 ⟨rfl,(A.fg.bind fun v hv=>BX B.fg hv).mono (by lia) fun z9 h=>h,
  fun d hd=>cm.log A.comp A.fg B.comp B.fg B.pl d (by lia),fun k d hd=>fs.log (A.val k) A.fg A.pl (B.val k) B.fg B.pl d (by lia),fun d hd=>d_.log A.many A.pl B.many B.pl hm d (by lia)⟩
theorem fG.ite(A:fG c bk h va ma fa)(B:fG c bk h vb mb fb)(D:fG c bk h ve me fe)(hm:ma+mb+me≤3900):fG c bk (h+3) (.tup [.str "if",va,vb,ve]) (ma+(1+(mb+(1+me)))) (uR fa fb fe):=
 ⟨rfl,A.fg.bind fun v hv=>(pJ hv.2).bind fun q z9=>(by
   cases q with
   | true=>exact B.fg.mono (by lia) fun z9 h=>h
   | false=>exact D.fg.mono (by lia) fun z9 h=>h),
  cm.ite A.comp A.fg A.pl B.comp B.pl D.comp D.pl,fun k d hd=>fs.ite (A.val k) A.fg A.pl (B.val k) B.pl (D.val k) D.pl d (by lia),fun d hd=>d_.ite A.many A.pl B.many B.pl D.many D.pl hm d (by lia)⟩
theorem fG.fn{f:Str}{as:List Ag}(hn:as.length≤3)(ho:kN ("f:"++f))(H:∀ a∈as,fG c bk h a.1 a.2.1 a.2.2)(hm:(as.map (·.2.1)).sum≤3900):fG c bk (h+3) (.tup [.str "call",.str f,.tup (as.map (·.1))]) ((as.map (·.2.1)).sum+1) (EM.bind (eg pO as) fun A=>gv (("f:"++f)::A)):=
 ⟨rfl,(fp (P:=cX 100) (ms:=fun a:Ag=>a.2.1) (f:=pO) fun a ha=>(H a ha).fg).bind fun vs hv=>(kx (fun x hx=>by rcases List.mem_cons.mp hx with rfl | hx;exact ho;exact hv.2 x hx) (by simp only [List.length_cons,hv.1];lia)).mono (Nat.le_refl _) fun z9 h=>h.mono (by decide),
  fun d hd=>cm.fn hn ho (fun a ha=>⟨(H a ha).comp,(H a ha).fg,(H a ha).pl⟩) d (by lia),fun k d hd=>fs.fn hn ho (fun a ha=>⟨(H a ha).val k,(H a ha).fg,(H a ha).pl⟩) d (by lia),fun d hd=>d_.fn hn (fun a ha=>⟨(H a ha).many,(H a ha).pl⟩) hm d (by lia)⟩
noncomputable def Gd(c:Int)(bk:List (Str×V))(h M:Nat)(v:V):Prop:=∃ m f,m≤M∧fG c bk h v m f
end
end
end Mine.Internal.Q
end
section
open PySem
namespace Mine.Internal.Q
noncomputable section
noncomputable def fT(n:Nat)(rest:St):St:=.list [.int n]::rest
noncomputable def Dw(F:St→cR V)(k:Nat)(P:V→Prop):Prop:=∀ n rest,n+k≤900→∃ n' v,n'≤n+k∧F (fT n rest)=bv v (fT n' rest)∧P v
noncomputable def GT(h M:Nat)(v:V):Prop:=∀ c bk,dF bk→Gd c bk h M v
noncomputable def Gk(M:Nat)(v:V):Prop:=∃ r:Nat,r<M∧v=.int r
section
variable {C:CF} {w d k p h h':Nat} {v:V} {bk:List (Str×V)} {c:Int} {m n M:Nat} {va vb ve:V} {ma mb me:Nat} {ns:List Int} {ρ:ck} {K B:KK} {σ σ':St} {P Q:V→Prop}
theorem JK:PL 39=some GC:=by kernel_rfl
theorem JM{a b c:V}:cS GC [a,b,c]=some [some a,some b,some c,none,none]:=rfl
theorem Id{n:Nat}(h:n≤1000):gJ .pow (.int 3) (.int n)=some (.int (3 ^ n)):=by
 refine (?_:(if ((decide ((3:Int)=3) || decide ((3:Int)=10))&&decide (0≤(n:Int))&&decide ((n:Int)≤1000))=true then _ else _)=_)
 rw [decide_eq_true (show (0:Int)≤n by lia),decide_eq_true (show (n:Int)≤1000 by lia)]
 rfl
theorem tw{a:Int}(hM:0<M):∃ r:Nat,r<M∧gJ .mod (.int a) (.int M)=some (.int r):=by
 have h0:0≤Int.fmod a M:=Int.fmod_nonneg_of_pos a (by lia)
 have h1:Int.fmod a M<M:=Int.fmod_lt_of_pos a (by lia)
 refine (ib_1_2 ((Int.fmod a M).toNat) (by lia) ?_)
 refine (?_:(if (M:Int)≤0 then _ else _)=_)
 rw [if_neg (by lia),Int.toNat_of_nonneg h0]
theorem co(hM:0<M):Dw (au PL 5000 (d+1) 39 [.lst (ns.map .int),.ref 0,.int M]) 1 (Gk M):=by
 intro n rest hn
 have hc:(fT n rest)[0]?=some (.list [.int n]):=rfl
 have e1:∀ C:CF,ev C [some (.lst (ns.map .int)),some (.ref 0),some (.int M),some (.int n),none] (.bin .add (.loc 3) (.int 1)) (fT n rest)=bv (.int (n+1:Nat)) (fT n rest):=fun C=>by
  simp only [aD,bh,aX,bp,bq,bf,am,al,ae,ac,ao,ak,aj,aC,ad,aA,aw,aB,aF,aJ,aV,aW,aY,ba,a_,bc,bj,bl,bg,bi,aR,bR,bN,bF,bG,bI,bO,bS,bT,bU,bP,aN,aM,q_nil,q_cons,aH,aQ,aq,aP,aL,aS,ai,ax,aa,aO,ay,an,aT,bn,af,ag,az,bb,aZ,bQ,aG,aK,aE,av,ah,aU,aI,uC (cO (show (-1000000:Int)<(n:Int)∧(n:Int)<1000000 by lia)) (mf (show (-3:Int)≤1∧(1:Int)≤3 by lia))]
  rfl
 have hset:(fT n rest).set 0 (.list ([V.int n].set 0 (.int (n+1:Nat))))=fT (n+1) rest:=rfl
 rw [bo JK JM,GC,aE,aH,aW aj,aD,aF,aD,show (0:Int)=((0:Nat):Int) from rfl,mH (by decide) hc]
 refine (?_:∃ n' v,_∧(lift (some (V.int n)) _).bind _=_∧_)
 rw [aX,aD,bG,yX (n:=0) (k:=0) (l:=[.int n]) (v:=.int (n+1:Nat)) (e1 _) (aW aj) rfl hc (Nat.lt_succ_self 0) rfl,hset,aE,aS,an,ba al,aD,aO,aV ak,aD]
 refine (?_:∃ n' v,_∧(((((lift (some (V.int ((ns.map V.int).length:Nat))) _).bind _).bind _).bind _))=_∧_)
 simp only [aX,aD,CL,aX,aD]
 by_cases q:n<(ns.map V.int).length
 ·rw [decide_eq_true q,bb,aH,aV ak,aD,ba al,aD,mG (by lia)]
  obtain ⟨x,hx⟩:∃ x,ns[n]?=some x:=⟨_,List.getElem?_eq_getElem (by simp only [List.length_map] at q;exact q)⟩
  simp only [List.getElem?_map,hx,bf,aX,aD,bI]
  refine ob_1_2 (tw (a:=x) hM) fun r hr e=>?_
  refine ⟨n+1,.int r,Nat.le_refl _,?_,r,hr,rfl⟩
  simp only [aD,bh,aX,bp,bq,bf,am,al,ae,ac,ao,ak,aj,aC,ad,aA,aw,aB,aF,aJ,aV,aW,aY,ba,a_,bc,bj,bl,bg,bi,aR,bR,bN,bF,bG,bI,bO,bS,bT,bU,bP,aN,aM,q_nil,q_cons,aH,aQ,aq,aP,aL,aS,ai,ax,aa,aO,ay,an,aT,bn,af,ag,az,bb,aZ,bQ,aG,aK,aE,av,ah,aU,aI,e]
 ·rw [decide_eq_false q,aZ]
  refine ob_1_2 (tw (a:=Int.fmod (3 ^ n) 1009) hM) fun r hr e=>?_
  refine ⟨n+1,.int r,Nat.le_refl _,?_,r,hr,rfl⟩
  simp only [aD,bh,aX,bp,bq,bf,am,al,ae,ac,ao,ak,aj,aC,ad,aA,aw,aB,aF,aJ,aV,aW,aY,ba,a_,bc,bj,bl,bg,bi,aR,bR,bN,bF,bG,bI,bO,bS,bT,bU,bP,aN,aM,q_nil,q_cons,aH,aQ,aq,aP,aL,aS,ai,ax,aa,aO,ay,an,aT,bn,af,ag,az,bb,aZ,bQ,aG,aK,aE,av,ah,aU,aI,Id (show n≤1000 by lia),show ∀ a:Int,gJ .mod (.int a) (.int 1009)=some (.int (Int.fmod a 1009)) from fun z9=>rfl,e]
noncomputable def Ie:List V:=j4.map fun x=>.tup [.str x.1,x.2.pc]
theorem mT:au PL 5000 (d+1) 40 [] σ=bv (.lst Ie) σ:=by kernel_rfl
theorem rK{ts:List Str}{r:Nat}(h:r<ts.length)(h2:ts.length≤1000):∃ t∈ts,eA σ (.lst (cT ts)) (.int r)=some (.str t):=by
 refine (ib_1_2 (ts[r]) (List.getElem_mem h) ?_)
 rw [mG (by lia)]
 exact pB (List.getElem?_eq_getElem h)
theorem wa{r:Nat}(h:r<7):∃ t∈Ez,∃ x,eA σ (.lst Ie) (.int r)=some (.tup [.str t,x]):=by
 suffices H:∀ r:Nat,r<7→∃ t∈Ez,∃ x,eA σ (.lst Ie) (.int r)=some (.tup [.str t,x]) from H r h
 refine lD ?_ (lD ?_ (lD ?_ (lD ?_ (lD ?_ (lD ?_ (lD ?_ (CH)))))))
 ·exact ⟨_,.tail _ (.tail _ (.tail _ (.tail _ (.tail _ (.tail _ (.head _)))))),_,rfl⟩
 ·exact ⟨_,.tail _ (.tail _ (.tail _ (.tail _ (.tail _ (.head _))))),_,rfl⟩
 ·exact ⟨_,.tail _ (.tail _ (.tail _ (.tail _ (.head _)))),_,rfl⟩
 ·exact ⟨_,.tail _ (.tail _ (.tail _ (.head _))),_,rfl⟩
 ·exact ⟨_,.tail _ (.tail _ (.head _)),_,rfl⟩
 ·exact ⟨_,.tail _ (.head _),_,rfl⟩
 ·exact ⟨_,.head _,_,rfl⟩
theorem GT.leaf{ps:List Pt}(h:ps∈pQ):GT 29 12 (.tup [.str "parts",.tup (ps.map Pt.v)]):=fun c bk Bk=>(ib_2_2 _ _ ((qL (c:=c) Bk h).2) ((qL (c:=c) Bk h).1))
theorem JN:PL 41=some GD:=by kernel_rfl
theorem JO{a b:V}:cS GD [a,b]=some [some a,some b,none,none]:=rfl
theorem EB{t:Str}(h:t∈Ez):[.cmd t]∈pQ:=List.mem_append_right _ (List.mem_map_of_mem h)
theorem EC{t:Str}(h:t∈Ez):[.txt "e",.var "y",.cmd t]∈pQ:=List.mem_append_left _ (List.mem_append_right _ (List.mem_map_of_mem h))
theorem hY:decide (((0:Nat):Int)=0)=true:=rfl
theorem hZ:decide (((0:Nat):Int)=1)=false:=rfl
theorem h_:decide (((0:Nat):Int)=2)=false:=rfl
theorem ia:decide (((0:Nat):Int)=3)=false:=rfl
theorem ib:decide (((0:Nat):Int)=4)=false:=rfl
theorem ic:decide (((0:Nat):Int)=5)=false:=rfl
theorem ie:decide (((0:Nat):Int)=6)=false:=rfl
theorem ig:decide (((0:Nat):Int)=7)=false:=rfl
theorem ii:decide (((1:Nat):Int)=0)=false:=rfl
theorem ij:decide (((1:Nat):Int)=1)=true:=rfl
theorem ik:decide (((1:Nat):Int)=2)=false:=rfl
theorem il:decide (((1:Nat):Int)=3)=false:=rfl
theorem io:decide (((1:Nat):Int)=4)=false:=rfl
theorem iq:decide (((1:Nat):Int)=5)=false:=rfl
theorem ir:decide (((1:Nat):Int)=6)=false:=rfl
theorem iu:decide (((1:Nat):Int)=7)=false:=rfl
theorem iw:decide (((2:Nat):Int)=0)=false:=rfl
theorem iy:decide (((2:Nat):Int)=1)=false:=rfl
theorem iz:decide (((2:Nat):Int)=2)=true:=rfl
theorem iA:decide (((2:Nat):Int)=3)=false:=rfl
theorem iB:decide (((2:Nat):Int)=4)=false:=rfl
theorem iC:decide (((2:Nat):Int)=5)=false:=rfl
theorem iD:decide (((2:Nat):Int)=6)=false:=rfl
theorem iE:decide (((2:Nat):Int)=7)=false:=rfl
theorem iF:decide (((3:Nat):Int)=0)=false:=rfl
theorem iG:decide (((3:Nat):Int)=1)=false:=rfl
theorem iH:decide (((3:Nat):Int)=2)=false:=rfl
theorem iI:decide (((3:Nat):Int)=3)=true:=rfl
theorem iJ:decide (((3:Nat):Int)=4)=false:=rfl
theorem iK:decide (((3:Nat):Int)=5)=false:=rfl
theorem iL:decide (((3:Nat):Int)=6)=false:=rfl
theorem iM:decide (((3:Nat):Int)=7)=false:=rfl
theorem iN:decide (((4:Nat):Int)=0)=false:=rfl
theorem iO:decide (((4:Nat):Int)=1)=false:=rfl
theorem iP:decide (((4:Nat):Int)=2)=false:=rfl
theorem iQ:decide (((4:Nat):Int)=3)=false:=rfl
theorem iR:decide (((4:Nat):Int)=4)=true:=rfl
theorem iS:decide (((4:Nat):Int)=5)=false:=rfl
theorem iT:decide (((4:Nat):Int)=6)=false:=rfl
theorem iU:decide (((4:Nat):Int)=7)=false:=rfl
theorem iV:decide (((5:Nat):Int)=0)=false:=rfl
theorem iW:decide (((5:Nat):Int)=1)=false:=rfl
theorem iX:decide (((5:Nat):Int)=2)=false:=rfl
theorem iY:decide (((5:Nat):Int)=3)=false:=rfl
theorem iZ:decide (((5:Nat):Int)=4)=false:=rfl
theorem i4:decide (((5:Nat):Int)=5)=true:=rfl
theorem i5:decide (((5:Nat):Int)=6)=false:=rfl
theorem i6:decide (((5:Nat):Int)=7)=false:=rfl
theorem i7:decide (((6:Nat):Int)=0)=false:=rfl
theorem i8:decide (((6:Nat):Int)=1)=false:=rfl
theorem i9:decide (((6:Nat):Int)=2)=false:=rfl
theorem i_:decide (((6:Nat):Int)=3)=false:=rfl
theorem ja:decide (((6:Nat):Int)=4)=false:=rfl
theorem jb:decide (((6:Nat):Int)=5)=false:=rfl
theorem jc:decide (((6:Nat):Int)=6)=true:=rfl
theorem jd:decide (((6:Nat):Int)=7)=false:=rfl
theorem jf:decide (((7:Nat):Int)=0)=false:=rfl
theorem jg:decide (((7:Nat):Int)=1)=false:=rfl
theorem jh:decide (((7:Nat):Int)=2)=false:=rfl
theorem ji:decide (((7:Nat):Int)=3)=false:=rfl
theorem jj:decide (((7:Nat):Int)=4)=false:=rfl
theorem jk:decide (((7:Nat):Int)=5)=false:=rfl
theorem jl:decide (((7:Nat):Int)=6)=false:=rfl
theorem jm:decide (((7:Nat):Int)=7)=true:=rfl
theorem jn:decide (((8:Nat):Int)=0)=false:=rfl
theorem jo:decide (((8:Nat):Int)=1)=false:=rfl
theorem jp:decide (((8:Nat):Int)=2)=false:=rfl
theorem jq:decide (((8:Nat):Int)=3)=false:=rfl
theorem jr:decide (((8:Nat):Int)=4)=false:=rfl
theorem jt:decide (((8:Nat):Int)=5)=false:=rfl
theorem ju:decide (((8:Nat):Int)=6)=false:=rfl
theorem jv:decide (((8:Nat):Int)=7)=false:=rfl
theorem jw:decide (((9:Nat):Int)=0)=false:=rfl
theorem jx:decide (((9:Nat):Int)=1)=false:=rfl
theorem jy:decide (((9:Nat):Int)=2)=false:=rfl
theorem jz:decide (((9:Nat):Int)=3)=false:=rfl
theorem jA:decide (((9:Nat):Int)=4)=false:=rfl
theorem jB:decide (((9:Nat):Int)=5)=false:=rfl
theorem jC:decide (((9:Nat):Int)=6)=false:=rfl
theorem jD:decide (((9:Nat):Int)=7)=false:=rfl
theorem nB:Dw (au PL 5000 (d+2) 41 [.lst (ns.map .int),.ref 0]) 2 (GT 29 12):=by
 intro n rest hn
 obtain ⟨n1,v1,hn1,e1,r,hr,rfl⟩:=co (d:=d) (ns:=ns) (M:=8) (by decide) n rest (by lia)
 simp only [bo JN JO,GD,aE]
 simp only [ai,q_cons,q_nil,aV ak,aW aj,aF,aD,show (8:Int)=((8:Nat):Int) from rfl,e1,bF]
 have hr':r=0∨r=1∨r=2∨r=3∨r=4∨5≤r:=by lia
 rcases hr' with rfl | rfl | rfl | rfl | rfl | h5
 ·obtain ⟨n2,v2,hn2,e2,r2,hr2,rfl⟩:=co (d:=d) (ns:=ns) (M:=10 ^ 30) (by decide) n1 rest (by lia)
  refine ⟨n2,.tup [.str "num",.int r2],by lia,?_,fun c bk Bk=>(ib_2_2 _ _ (by decide) ((fG.num (Nat.lt_trans hr2 (by decide))).mono (by decide)))⟩
  simp only [aD,bh,aX,bp,bq,bf,am,al,ae,ac,ao,ak,aj,aC,ad,aA,aw,aB,aF,aJ,aV,aW,aY,ba,a_,bc,bj,bl,bg,bi,aR,bR,bN,bF,bG,bI,bO,bS,bT,bU,bP,aN,aM,q_nil,q_cons,aH,aQ,aq,aP,aL,aS,ai,ax,aa,aO,ay,an,aT,bn,af,ag,az,bb,aZ,bQ,aG,aK,aE,av,ah,aU,aI,cW,hY,hZ,h_,ia,ib,ic,ie,ig,ii,ij,ik,il,io,iq,ir,iu,iw,iy,iz,iA,iB,iC,iD,iE,iF,iG,iH,iI,iJ,iK,iL,iM,iN,iO,iP,iQ,iR,iS,iT,iU,iV,iW,iX,iY,iZ,i4,i5,i6,i7,i8,i9,i_,ja,jb,jc,jd,jf,jg,jh,ji,jj,jk,jl,jm,jn,jo,jp,jq,jr,jt,ju,jv,jw,jx,jy,jz,jA,jB,jC,jD,show gJ .pow (.int 10) (.int 30)=some (.int ((10 ^ 30:Nat):Int)) from rfl,e2]
 ·obtain ⟨n2,v2,hn2,e2,r2,hr2,rfl⟩:=co (d:=d) (ns:=ns) (M:=6) (by decide) n1 rest (by lia)
  refine ob_1_2 (rK (σ:=fT n2 rest) (ts:=["yes","0","","x","no","1"]) (r:=r2) hr2 (by decide)) fun t ht e3=>?_
  have e3':eA (fT n2 rest) (.lst [.str "yes",.str "0",.str "",.str "x",.str "no",.str "1"]) (.int r2)=some (.str t):=e3
  have ht':cX 100 t:=by
   simp only [List.mem_cons,List.not_mem_nil,or_false] at ht
   rcases ht with rfl | rfl | rfl | rfl | rfl | rfl<;>exact fo (by decide +kernel)
  refine ⟨n2,.tup [.str "text",.str t],by lia,?_,fun c bk Bk=>(ib_2_2 _ _ (by decide) ((fG.text ht').mono (by decide)))⟩
  simp only [aD,bh,aX,bp,bq,bf,am,al,ae,ac,ao,ak,aj,aC,ad,aA,aw,aB,aF,aJ,aV,aW,aY,ba,a_,bc,bj,bl,bg,bi,aR,bR,bN,bF,bG,bI,bO,bS,bT,bU,bP,aN,aM,q_nil,q_cons,aH,aQ,aq,aP,aL,aS,ai,ax,aa,aO,ay,an,aT,bn,af,ag,az,bb,aZ,bQ,aG,aK,aE,av,ah,aU,aI,cW,hY,hZ,h_,ia,ib,ic,ie,ig,ii,ij,ik,il,io,iq,ir,iu,iw,iy,iz,iA,iB,iC,iD,iE,iF,iG,iH,iI,iJ,iK,iL,iM,iN,iO,iP,iQ,iR,iS,iT,iU,iV,iW,iX,iY,iZ,i4,i5,i6,i7,i8,i9,i_,ja,jb,jc,jd,jf,jg,jh,ji,jj,jk,jl,jm,jn,jo,jp,jq,jr,jt,ju,jv,jw,jx,jy,jz,jA,jB,jC,jD,show (6:Int)=((6:Nat):Int) from rfl,e2,e3']
 ·obtain ⟨n2,v2,hn2,e2,r2,hr2,rfl⟩:=co (d:=d) (ns:=ns) (M:=3) (by decide) n1 rest (by lia)
  have:∃ t∈(["x","y","q"]:List Str),eA (fT n2 rest) (.str "xyq") (.int r2)=some (.str t):=by
   clear e2
   revert hr2
   revert r2
   refine lD ?_ (lD ?_ (lD ?_ (CH)))
   ·exact ib_1_2 ("q") (.tail _ (.tail _ (.head _))) (by kernel_rfl)
   ·exact ib_1_2 ("y") (.tail _ (.head _)) (by kernel_rfl)
   ·exact ib_1_2 ("x") (.head _) (by kernel_rfl)
  refine ob_1_2 this fun t ht e3=>?_
  refine (ib_2_3 n2 (.tup [.str "parts",.tup ([Pt.var t].map Pt.v)]) (by lia) ?_ (GT.leaf ?_))
  ·simp only [aD,bh,aX,bp,bq,bf,am,al,ae,ac,ao,ak,aj,aC,ad,aA,aw,aB,aF,aJ,aV,aW,aY,ba,a_,bc,bj,bl,bg,bi,aR,bR,bN,bF,bG,bI,bO,bS,bT,bU,bP,aN,aM,q_nil,q_cons,aH,aQ,aq,aP,aL,aS,ai,ax,aa,aO,ay,an,aT,bn,af,ag,az,bb,aZ,bQ,aG,aK,aE,av,ah,aU,aI,cW,hY,hZ,h_,ia,ib,ic,ie,ig,ii,ij,ik,il,io,iq,ir,iu,iw,iy,iz,iA,iB,iC,iD,iE,iF,iG,iH,iI,iJ,iK,iL,iM,iN,iO,iP,iQ,iR,iS,iT,iU,iV,iW,iX,iY,iZ,i4,i5,i6,i7,i8,i9,i_,ja,jb,jc,jd,jf,jg,jh,ji,jj,jk,jl,jm,jn,jo,jp,jq,jr,jt,ju,jv,jw,jx,jy,jz,jA,jB,jC,jD,show (3:Int)=((3:Nat):Int) from rfl,e2,e3]
   rfl
  ·simp only [List.mem_cons,List.not_mem_nil,or_false] at ht
   rcases ht with rfl | rfl | rfl
   ·exact .head _
   ·exact .tail _ (.head _)
   ·exact .tail _ (.tail _ (.head _))
 ·obtain ⟨n2,v2,hn2,e2,r2,hr2,rfl⟩:=co (d:=d) (ns:=ns) (M:=3) (by decide) n1 rest (by lia)
  have:∃ i∈([.txt "1",.var "x",.cmd "rec 0"]:List Pt),eA (fT n2 rest) (.lst [.tup [.str "text",.str "1"],.tup [.str "var",.str "x",.none],.tup [.str "cmd",.str "rec 0"]]) (.int r2)=some i.v:=by
   clear e2
   revert hr2
   revert r2
   refine lD ?_ (lD ?_ (lD ?_ (CH)))
   ·exact ib_1_2 _ (.tail _ (.tail _ (.head _))) rfl
   ·exact ib_1_2 _ (.tail _ (.head _)) rfl
   ·exact ib_1_2 _ (.head _) rfl
  obtain ⟨i,hi,e3⟩:=this
  refine (ib_2_3 n2 (.tup [.str "parts",.tup ([Pt.elt "a" i].map Pt.v)]) (by lia) ?_ (GT.leaf ?_))
  ·simp only [aI,aE,aK,an,aV ak,aW aj,aY al,aF,aD,aX,aZ,bb,aG,cW,hY,hZ,h_,ia,ib,ic,ie,ig,ii,ij,ik,il,io,iq,ir,iu,iw,iy,iz,iA,iB,iC,iD,iE,iF,iG,iH,iI,iJ,iK,iL,iM,iN,iO,iP,iQ,iR,iS,iT,iU,iV,iW,iX,iY,iZ,i4,i5,i6,i7,i8,i9,i_,ja,jb,jc,jd,jf,jg,jh,ji,jj,jk,jl,jm,jn,jo,jp,jq,jr,jt,ju,jv,jw,jx,jy,jz,jA,jB,jC,jD,aH,aM,q_cons,q_nil,aN,aJ,aw,ai,show (3:Int)=((3:Nat):Int) from rfl,e2,e3,bG,eq_self,decide_true]
   rw [ba (by cases i<;>rfl)]
   rfl
  ·simp only [List.mem_cons,List.not_mem_nil,or_false] at hi
   rcases hi with rfl | rfl | rfl
   ·exact .tail _ (.tail _ (.tail _ (.head _)))
   ·exact .tail _ (.tail _ (.tail _ (.tail _ (.head _))))
   ·exact .tail _ (.tail _ (.tail _ (.tail _ (.tail _ (.head _)))))
 ·obtain ⟨n2,v2,hn2,e2,r2,hr2,rfl⟩:=co (d:=d) (ns:=ns) (M:=7) (by decide) n1 rest (by lia)
  obtain ⟨t,ht,x,e3⟩:=wa (σ:=fT n2 rest) hr2
  refine (ib_2_3 n2 (.tup [.str "parts",.tup ([Pt.txt "e",.var "y",.cmd t].map Pt.v)]) (by lia) ?_ (GT.leaf (EC ht)))
  simp only [aD,bh,aX,bp,bq,bf,am,al,ae,ac,ao,ak,aj,aC,ad,aA,aw,aB,aF,aJ,aV,aW,aY,ba,a_,bc,bj,bl,bg,bi,aR,bR,bN,bF,bG,bI,bO,bS,bT,bU,bP,aN,aM,q_nil,q_cons,aH,aQ,aq,aP,aL,aS,ai,ax,aa,aO,ay,an,aT,bn,af,ag,az,bb,aZ,bQ,aG,aK,aE,av,ah,aU,aI,cW,hY,hZ,h_,ia,ib,ic,ie,ig,ii,ij,ik,il,io,iq,ir,iu,iw,iy,iz,iA,iB,iC,iD,iE,iF,iG,iH,iI,iJ,iK,iL,iM,iN,iO,iP,iQ,iR,iS,iT,iU,iV,iW,iX,iY,iZ,i4,i5,i6,i7,i8,i9,i_,ja,jb,jc,jd,jf,jg,jh,ji,jj,jk,jl,jm,jn,jo,jp,jq,jr,jt,ju,jv,jw,jx,jy,jz,jA,jB,jC,jD,show (7:Int)=((7:Nat):Int) from rfl,mT,e2,e3,fF]
  rfl
 ·obtain ⟨n2,v2,hn2,e2,r2,hr2,rfl⟩:=co (d:=d) (ns:=ns) (M:=7) (by decide) n1 rest (by lia)
  obtain ⟨t,ht,x,e3⟩:=wa (σ:=fT n2 rest) hr2
  refine (ib_2_3 n2 (.tup [.str "parts",.tup ([Pt.cmd t].map Pt.v)]) (by lia) ?_ (GT.leaf (EB ht)))
  simp only [aD,bh,aX,bp,bq,bf,am,al,ae,ac,ao,ak,aj,aC,ad,aA,aw,aB,aF,aJ,aV,aW,aY,ba,a_,bc,bj,bl,bg,bi,aR,bR,bN,bF,bG,bI,bO,bS,bT,bU,bP,aN,aM,q_nil,q_cons,aH,aQ,aq,aP,aL,aS,ai,ax,aa,aO,ay,an,aT,bn,af,ag,az,bb,aZ,bQ,aG,aK,aE,av,ah,aU,aI,cW,show decide ((r:Int)=0)=false from decide_eq_false (by lia),show decide ((r:Int)=1)=false from decide_eq_false (by lia),show decide ((r:Int)=2)=false from decide_eq_false (by lia),show decide ((r:Int)=3)=false from decide_eq_false (by lia),show decide ((r:Int)=4)=false from decide_eq_false (by lia),show (7:Int)=((7:Nat):Int) from rfl,mT,e2,e3,fF]
  rfl
end
end
end Mine.Internal.Q
end
section
open PySem
namespace Mine.Internal.Q
noncomputable section
section
variable {C:CF} {w d k p h h':Nat} {v:V} {bk:List (Str×V)} {c:Int} {m n M M':Nat} {va vb ve:V} {ma mb me Ma Mb Me:Nat} {ns:List Int} {ρ:ck} {K B:KK} {σ σ':St} {P Q:V→Prop}
theorem GT.pl(H:GT h M v):plain v=true:=by
 refine ob_2_2 (H 0 [] ⟨fun x v e=>nomatch e⟩) fun m f z9 G=>?_
 exact G.pl
theorem GT.mono(H:GT h M v)(hh:h≤h')(hm:M≤M'):GT h' M' v:=fun c bk Bk=>by
 refine ob_2_2 (H c bk Bk) fun m f a G=>?_
 exact (ib_2_2 m f (by lia) (G.mono hh))
theorem GT.num{n:Nat}(hn:n<10 ^ 40):GT 29 12 (.tup [.str "num",.int n]):=fun c bk Bk=>(ib_2_2 _ _ (by decide) ((fG.num hn).mono (by decide)))
theorem GT.un{op:Str}(ho:kN ("u:"++op))(A:GT h Ma va)(hm:Ma≤3900):GT (h+3) (Ma+1) (.tup [.str "un",.str op,va]):=fun c bk Bk=>by
 refine ob_2_2 (A c bk Bk) fun m f a G=>?_
 exact (ib_2_2 _ _ (by lia) (G.un ho (by lia)))
theorem GT.bin{op:Str}(ho:kN ("b:"++op))(A:GT h Ma va)(B:GT h Mb vb)(hm:Ma+Mb≤3900):GT (h+3) (Ma+(Mb+1)) (.tup [.str "bin",.str op,va,vb]):=fun c bk Bk=>by
 refine ob_2_2 (A c bk Bk) fun m f a G=>?_
 refine ob_2_2 (B c bk Bk) fun m2 f2 a2 G2=>?_
 exact (ib_2_2 _ _ (by lia) (G.bin ho G2 (by lia)))
theorem GT.log(o:Bool)(A:GT h Ma va)(B:GT h Mb vb)(hm:Ma+Mb≤3900):GT (h+3) (Ma+(Mb+4)) (.tup [.str (gj o),va,vb]):=fun c bk Bk=>by
 refine ob_2_2 (A c bk Bk) fun m f a G=>?_
 refine ob_2_2 (B c bk Bk) fun m2 f2 a2 G2=>?_
 exact (ib_2_2 _ _ (by lia) (G.log G2 (by lia)))
theorem GT.ite(A:GT h Ma va)(B:GT h Mb vb)(D:GT h Me ve)(hm:Ma+Mb+Me≤3900):GT (h+3) (Ma+(1+(Mb+(1+Me)))) (.tup [.str "if",va,vb,ve]):=fun c bk Bk=>by
 refine ob_2_2 (A c bk Bk) fun m f a G=>?_
 refine ob_2_2 (B c bk Bk) fun m2 f2 a2 G2=>?_
 refine ob_2_2 (D c bk Bk) fun m3 f3 a3 G3=>?_
 exact (ib_2_2 _ _ (by lia) (G.ite G2 G3 (by lia)))
theorem GT.fn{f:Str}(ho:kN ("f:"++f)):∀ {vs:List V},vs.length≤3→(∀ v∈vs,GT h M v)→M≤1300→GT (h+3) (vs.length*M+1) (.tup [.str "call",.str f,.tup vs]):=by
 intro vs hl H hM c bk Bk
 have:∃ as:List Ag,as.map (·.1)=vs∧(as.map (·.2.1)).sum≤vs.length*M∧∀ a∈as,fG c bk h a.1 a.2.1 a.2.2:=by
  clear hl
  induction vs with
  | nil=>exact (ib_1_3 ([]) rfl (Nat.zero_le _) (fun a ha=>nomatch ha))
  | cons v r ih=>
   refine ob_1_3 (ih fun v hv=>H v (.tail _ hv)) fun as e1 e2 e3=>?_
   refine ob_2_2 (H v (.head _) c bk Bk) fun m f a G=>?_
   refine ⟨(v,m,f)::as,by simp only [List.map_cons,e1],?_,fun x hx=>?_⟩
   ·simp only [List.map_cons,List.sum_cons,List.length_cons,Nat.succ_mul]
    show m+_≤_
    lia
   ·rcases List.mem_cons.mp hx with rfl | hx
    ·exact G
    ·exact e3 x hx
 refine ob_1_3 this fun as e1 e2 e3=>?_
 have hlen:as.length=vs.length:=by simp only [← e1,List.length_map]
 have hb:vs.length*M≤3900:=Nat.le_trans (Nat.mul_le_mul hl hM) (by decide)
 have:=fG.fn (by lia) ho e3 (by lia)
 rw [e1] at this
 exact (ib_2_2 _ _ (by lia) this)
theorem JQ:PL 42=some GE:=by kernel_rfl
theorem JU{a b:V}:cS GE [a,b]=some [some a,some b]:=rfl
noncomputable def Ig(v:V):Prop:=∃ op:Str,v=.str op∧kN ("b:"++op)
theorem wb:Dw (au PL 5000 (d+2) 42 [.lst (ns.map .int),.ref 0]) 1 Ig:=by
 intro n rest hn
 refine rO fun C kC=>?_
 obtain ⟨n1,v1,hn1,e1,r,hr,rfl⟩:=co (d:=d) (ns:=ns) (M:=4) (by decide) n rest (by lia)
 refine ob_1_2 (rK (σ:=fT n1 rest) (ts:=["+","eq","**","&"]) (r:=r) hr (by decide)) fun t ht e3=>?_
 have e3':eA (fT n1 rest) (.lst [.str "+",.str "eq",.str "**",.str "&"]) (.int r)=some (.str t):=e3
 refine kC ?_
 refine ⟨n1,.str t,hn1,?_,t,rfl,?_⟩
 ·simp only [bo JQ JU,GE]
  simp only [aD,bh,aX,bp,bq,bf,am,al,ae,ac,ao,ak,aj,aC,ad,aA,aw,aB,aF,aJ,aV,aW,aY,ba,a_,bc,bj,bl,bg,bi,aR,bR,bN,bF,bG,bI,bO,bS,bT,bU,bP,aN,aM,q_nil,q_cons,aH,aQ,aq,aP,aL,aS,ai,ax,aa,aO,ay,an,aT,bn,af,ag,az,bb,aZ,bQ,aG,aK,aE,av,ah,aU,aI,show (4:Int)=((4:Nat):Int) from rfl,e1,e3']
 ·simp only [List.mem_cons,List.not_mem_nil,or_false] at ht
  rcases ht with rfl | rfl | rfl | rfl<;>exact pE (by decide +kernel)
noncomputable def TD:Nat→Nat
 | 0=>3
 | D+1=>3*TD D+2
noncomputable def SD:Nat→Nat
 | 0=>12
 | D+1=>3*SD D+4
theorem Ih:PL 43=some sT:=by kernel_rfl
theorem Ii{a b c:V}:cS sT [a,b,c]=some [some a,some b,some c,none,none,none]:=rfl
theorem zO{a b:Int}:dG σ .lt (.int a) (.int b)=some (decide (a<b)):=rfl
theorem zP{D:Nat}(h:D≤1000):gJ .sub (.int (D+1:Nat)) (.int 1)=some (.int D):=by
 rw [lj (cO (by lia)) (mf (by decide)),show ((D+1:Nat):Int)-1=D by lia]
theorem IL(t:Str)(h:t∈(["-","!","~","+"]:List Str)):kN ("u:"++t):=by
 simp only [List.mem_cons,List.not_mem_nil,or_false] at h
 rcases h with rfl | rfl | rfl | rfl<;>exact pE (by decide +kernel)
theorem GW(t:Str)(h:t∈(["f","g"]:List Str)):kN ("f:"++t):=by
 simp only [List.mem_cons,List.not_mem_nil,or_false] at h
 rcases h with rfl | rfl<;>exact pE (by decide +kernel)
theorem zQ{a b c:V}{r:Nat}(h:r<3):rT (.tup [a,b,c]) (.int r) .none=some (.tup ([a,b,c].drop r)):=by
 suffices H:∀ r:Nat,r<3→rT (.tup [a,b,c]) (.int r) .none=some (.tup ([a,b,c].drop r)) from H r h
 refine lD ?_ (lD ?_ (lD ?_ (CH)))
 ·exact rfl
 ·exact rfl
 ·exact rfl
theorem qM:∀ (D:Nat),D≤3→∀ d,Dw (au PL 5000 (d+D+3) 43 [.lst (ns.map .int),.ref 0,.int D]) (TD D) (GT (29+3*D) (SD D)):=by
 intro D
 induction D with
 | zero=>
  intro _ d n rest hn
  have hT:TD 0=3:=rfl
  obtain ⟨n1,v1,hn1,e1,r,hr,rfl⟩:=co (d:=d+1) (ns:=ns) (M:=10) (by decide) n rest (by lia)
  refine ob_2_3 (nB (d:=d) (ns:=ns) n1 rest (by lia)) fun n2 v2 hn2 e2 G=>?_
  refine (ib_2_3 n2 v2 (by lia) ?_ G)
  rw [bo Ih Ii,sT]
  simp only [aD,bh,aX,bp,bq,bf,am,al,ae,ac,ao,ak,aj,aC,ad,aA,aw,aB,aF,aJ,aV,aW,aY,ba,a_,bc,bj,bl,bg,bi,aR,bR,bN,bF,bG,bI,bO,bS,bT,bU,bP,aN,aM,q_nil,q_cons,aH,aQ,aq,aP,aL,aS,ai,ax,aa,aO,ay,an,aT,bn,af,ag,az,bb,aZ,bQ,aG,aK,aE,av,ah,aU,aI,show (10:Int)=((10:Nat):Int) from rfl,e1,cW,show decide (((0:Nat):Int)=0)=true from rfl,e2]
 | succ D ih=>
  intro hD d n rest hn
  have hT:TD (D+1)=3*TD D+2:=rfl
  have hS:SD (D+1)=3*SD D+4:=rfl
  have hSb:SD D≤124:=by
   have:∀ D<3,SD D≤124:=by decide
   exact this D (by lia)
  have hS12:12≤SD D:=by
   have:∀ D<3,12≤SD D:=by decide
   exact this D (by lia)
  have hT3:3≤TD D:=by
   have:∀ D<3,3≤TD D:=by decide
   exact this D (by lia)
  have ihD:=ih (by lia)
  have sb:=zP (D:=D) (by lia)
  obtain ⟨n1,v1,hn1,e1,r,hr,rfl⟩:=co (d:=d+D+2) (ns:=ns) (M:=10) (by decide) n rest (by lia)
  have z0:decide (((D+1:Nat):Int)=0)=false:=decide_eq_false (by lia)
  by_cases hr2:r<2
  ·obtain ⟨n2,v2,hn2,e2,G⟩:=nB (d:=d+D+1) (ns:=ns) n1 rest (by lia)
   refine (ib_2_3 n2 v2 (by lia) ?_ (G.mono (by lia) (by lia)))
   rw [show d+(D+1)+3=d+D+3+1 by lia,bo Ih Ii,sT]
   simp only [aD,bh,aX,bp,bq,bf,am,al,ae,ac,ao,ak,aj,aC,ad,aA,aw,aB,aF,aJ,aV,aW,aY,ba,a_,bc,bj,bl,bg,bi,aR,bR,bN,bF,bG,bI,bO,bS,bT,bU,bP,aN,aM,q_nil,q_cons,aH,aQ,aq,aP,aL,aS,ai,ax,aa,aO,ay,an,aT,bn,af,ag,az,bb,aZ,bQ,aG,aK,aE,av,ah,aU,aI,show (10:Int)=((10:Nat):Int) from rfl,e1,cW,z0,zO,show decide ((r:Int)<2)=true from decide_eq_true (by lia),e2]
  ·have z2:decide ((r:Int)<2)=false:=decide_eq_false (by lia)
   refine ob_2_3 (ihD d n1 rest (by lia)) fun n2 v2 hn2 e2 G2=>?_
   have hp2:=G2.pl
   have hr':r=2∨r=3∨r=4∨r=5∨r=6∨r=7∨8≤r:=by lia
   have start:au PL 5000 (d+(D+1)+3) 43 [.lst (ns.map .int),.ref 0,.int (D+1:Nat)] (fT n rest)=fk (au PL 5000 (d+D+3)) 5000 (sT.body.drop 3) K0 B0 [some (.lst (ns.map .int)),some (.ref 0),some (.int (D+1:Nat)),some (.int r),some v2,none] (fT n2 rest):=by
    rw [show d+(D+1)+3=d+D+3+1 by lia,bo Ih Ii,sT]
    simp only [aD,bh,aX,bp,bq,bf,am,al,ae,ac,ao,ak,aj,aC,ad,aA,aw,aB,aF,aJ,aV,aW,aY,ba,a_,bc,bj,bl,bg,bi,aR,bR,bN,bF,bG,bI,bO,bS,bT,bU,bP,aN,aM,q_nil,q_cons,aH,aQ,aq,aP,aL,aS,ai,ax,aa,aO,ay,an,aT,bn,af,ag,az,bb,aZ,bQ,aG,aK,aE,av,ah,aU,aI,show (10:Int)=((10:Nat):Int) from rfl,e1,cW,z0,zO,z2,sb,e2,List.drop]
   rcases hr' with rfl | rfl | hr'
   ·obtain ⟨n3,v3,hn3,e3,q,hq,rfl⟩:=co (d:=d+D+2) (ns:=ns) (M:=4) (by decide) n2 rest (by lia)
    have:∃ t∈(["-","!","~","+"]:List Str),eA (fT n3 rest) (.str "-!~+") (.int q)=some (.str t):=by
     clear e3
     revert hq
     revert q
     refine lD ?_ (lD ?_ (lD ?_ (lD ?_ (CH))))
     ·exact ib_1_2 ("+") (.tail _ (.tail _ (.tail _ (.head _)))) (by kernel_rfl)
     ·exact ib_1_2 ("~") (.tail _ (.tail _ (.head _))) (by kernel_rfl)
     ·exact ib_1_2 ("!") (.tail _ (.head _)) (by kernel_rfl)
     ·exact ib_1_2 ("-") (.head _) (by kernel_rfl)
    refine ob_1_2 this fun t ht e4=>?_
    refine (ib_2_3 n3 (.tup [.str "un",.str t,v2]) (by lia) ?_ (((G2.un (IL t ht) (by lia)).mono (by lia) (by lia))))
    simp only [start,sT]
    simp only [List.drop,aD,bh,aX,bp,bq,bf,am,al,ae,ac,ao,ak,aj,aC,ad,aA,aw,aB,aF,aJ,aV,aW,aY,ba,a_,bc,bj,bl,bg,bi,aR,bR,bN,bF,bG,bI,bO,bS,bT,bU,bP,aN,aM,q_nil,q_cons,aH,aQ,aq,aP,aL,aS,ai,ax,aa,aO,ay,an,aT,bn,af,ag,az,bb,aZ,bQ,aG,aK,aE,av,ah,aU,aI,cW,hY,hZ,h_,ia,ib,ic,ie,ig,ii,ij,ik,il,io,iq,ir,iu,iw,iy,iz,iA,iB,iC,iD,iE,iF,iG,iH,iI,iJ,iK,iL,iM,iN,iO,iP,iQ,iR,iS,iT,iU,iV,iW,iX,iY,iZ,i4,i5,i6,i7,i8,i9,i_,ja,jb,jc,jd,jf,jg,jh,ji,jj,jk,jl,jm,jn,jo,jp,jq,jr,jt,ju,jv,jw,jx,jy,jz,jA,jB,jC,jD,show (4:Int)=((4:Nat):Int) from rfl,e3,e4,a_ hp2]
   ·obtain ⟨n3,v3,hn3,e3,q,hq,rfl⟩:=co (d:=d+D+2) (ns:=ns) (M:=2) (by decide) n2 rest (by lia)
    have:∃ t∈(["f","g"]:List Str),eA (fT n3 rest) (.str "fg") (.int q)=some (.str t):=by
     clear e3
     revert hq
     revert q
     refine lD ?_ (lD ?_ (CH))
     ·exact ib_1_2 ("g") (.tail _ (.head _)) (by kernel_rfl)
     ·exact ib_1_2 ("f") (.head _) (by kernel_rfl)
    refine ob_1_2 this fun t ht e4=>?_
    refine (ib_2_3 n3 (.tup [.str "call",.str t,.tup [v2]]) (by lia) ?_ (((GT.fn (GW t ht) (vs:=[v2]) (Nat.le_of_ble_eq_true rfl) (fun v hv=>by rw [List.mem_singleton] at hv;subst hv;exact G2) (by lia)).mono (by lia) (by simp only [List.length_cons,List.length_nil];lia))))
    simp only [start,sT]
    simp only [List.drop,aI,aE,aK,an,aV ak,aW aj,ba al,a_ hp2,aF,aD,aX,aZ,bb,aG,cW,hY,hZ,h_,ia,ib,ic,ie,ig,ii,ij,ik,il,io,iq,ir,iu,iw,iy,iz,iA,iB,iC,iD,iE,iF,iG,iH,iI,iJ,iK,iL,iM,iN,iO,iP,iQ,iR,iS,iT,iU,iV,iW,iX,iY,iZ,i4,i5,i6,i7,i8,i9,i_,ja,jb,jc,jd,jf,jg,jh,ji,jj,jk,jl,jm,jn,jo,jp,jq,jr,jt,ju,jv,jw,jx,jy,jz,jA,jB,jC,jD,aH,q_cons,q_nil,aN,aJ,ai,show (2:Int)=((2:Nat):Int) from rfl,e3,e4,show decide (((3:Nat):Int)=((2:Nat):Int))=false from rfl]
   ·obtain ⟨n3,v3,hn3,e3,G3⟩:=ihD d n2 rest (by lia)
    have hp3:=G3.pl
    have start2:(r=4∨r=5∨r=6∨r=7∨8≤r)→fk (au PL 5000 (d+D+3)) 5000 (sT.body.drop 3) K0 B0 [some (.lst (ns.map .int)),some (.ref 0),some (.int (D+1:Nat)),some (.int r),some v2,none] (fT n2 rest)=fk (au PL 5000 (d+D+3)) 5000 (sT.body.drop 6) K0 B0 [some (.lst (ns.map .int)),some (.ref 0),some (.int (D+1:Nat)),some (.int r),some v2,some v3] (fT n3 rest):=by
     intro h
     simp only [sT]
     simp only [List.drop,aD,bh,aX,bp,bq,bf,am,al,ae,ac,ao,ak,aj,aC,ad,aA,aw,aB,aF,aJ,aV,aW,aY,ba,a_,bc,bj,bl,bg,bi,aR,bR,bN,bF,bG,bI,bO,bS,bT,bU,bP,aN,aM,q_nil,q_cons,aH,aQ,aq,aP,aL,aS,ai,ax,aa,aO,ay,an,aT,bn,af,ag,az,bb,aZ,bQ,aG,aK,aE,av,ah,aU,aI,cW,show decide ((r:Int)=2)=false from decide_eq_false (by lia),show decide ((r:Int)=3)=false from decide_eq_false (by lia),sb,e3]
    rw [start,start2 hr']
    refine Or.elim hr' (fun ho159_0=>?_) fun hr'=>?_
    ·subst ho159_0
     obtain ⟨n4,v4,hn4,e4,q,hq,rfl⟩:=co (d:=d+D+2) (ns:=ns) (M:=3) (by decide) n3 rest (by lia)
     have G7:GT (29+3*D) (SD D) (.tup [.str "num",.int 7]):=(GT.num (n:=7) (by decide)).mono (by lia) (by
      have:∀ D<3,12≤SD D:=by decide
      exact this D (by lia))
     refine ⟨n4,.tup [.str "call",.str "f",.tup ([v2,v3,.tup [.str "num",.int 7]].drop q)],by lia,?_,((GT.fn (GW "f" (.head _)) (vs:=[v2,v3,.tup [.str "num",.int 7]].drop q) (by rw [List.length_drop];simp only [List.length_cons,List.length_nil];lia) (fun v hv=>by
      have:=List.mem_of_mem_drop hv
      simp only [List.mem_cons,List.not_mem_nil,or_false] at this
      rcases this with rfl | rfl | rfl
      ·exact G2
      ·exact G3
      ·exact G7) (by lia)).mono (by lia) (by
       have:([v2,v3,.tup [.str "num",.int 7]].drop q).length*SD D≤3*SD D:=Nat.mul_le_mul_right _ (by rw [List.length_drop];simp only [List.length_cons,List.length_nil];lia)
       lia))⟩
     simp only [sT]
     simp only [List.drop,aI,aE,aK,an,aV ak,aW aj,ba al,a_ hp2,bc hp3,aF,aD,aX,aZ,bb,aG,cW,hY,hZ,h_,ia,ib,ic,ie,ig,ii,ij,ik,il,io,iq,ir,iu,iw,iy,iz,iA,iB,iC,iD,iE,iF,iG,iH,iI,iJ,iK,iL,iM,iN,iO,iP,iQ,iR,iS,iT,iU,iV,iW,iX,iY,iZ,i4,i5,i6,i7,i8,i9,i_,ja,jb,jc,jd,jf,jg,jh,ji,jj,jk,jl,jm,jn,jo,jp,jq,jr,jt,ju,jv,jw,jx,jy,jz,jA,jB,jC,jD,aQ,q_cons,q_nil,aN,aJ,aw,ai,show (3:Int)=((3:Nat):Int) from rfl,e4,zQ hq]
    ·rcases hr' with rfl | rfl | hr'
     ·refine (ib_2_3 n3 (.tup [.str (gj false),v2,v3]) (by lia) ?_ (((G2.log false G3 (by lia)).mono (by lia) (by lia))))
      simp only [sT]
      simp only [List.drop,aD,bh,aX,bp,bq,bf,am,al,ae,ac,ao,ak,aj,aC,ad,aA,aw,aB,aF,aJ,aV,aW,aY,ba,a_,bc,bj,bl,bg,bi,aR,bR,bN,bF,bG,bI,bO,bS,bT,bU,bP,aN,aM,q_nil,q_cons,aH,aQ,aq,aP,aL,aS,ai,ax,aa,aO,ay,an,aT,bn,af,ag,az,bb,aZ,bQ,aG,aK,aE,av,ah,aU,aI,cW,hY,hZ,h_,ia,ib,ic,ie,ig,ii,ij,ik,il,io,iq,ir,iu,iw,iy,iz,iA,iB,iC,iD,iE,iF,iG,iH,iI,iJ,iK,iL,iM,iN,iO,iP,iQ,iR,iS,iT,iU,iV,iW,iX,iY,iZ,i4,i5,i6,i7,i8,i9,i_,ja,jb,jc,jd,jf,jg,jh,ji,jj,jk,jl,jm,jn,jo,jp,jq,jr,jt,ju,jv,jw,jx,jy,jz,jA,jB,jC,jD,a_ hp2,bc hp3,show gJ .sub (.int ((5:Nat):Int)) (.int 5)=some (.int ((0:Nat):Int)) from rfl,show ∀ σ,eA σ (.lst [.str "and",.str "or"]) (.int ((0:Nat):Int))=some (.str "and") from fun z9=>rfl]
      rfl
     ·refine (ib_2_3 n3 (.tup [.str (gj true),v2,v3]) (by lia) ?_ (((G2.log true G3 (by lia)).mono (by lia) (by lia))))
      simp only [sT]
      simp only [List.drop,aD,bh,aX,bp,bq,bf,am,al,ae,ac,ao,ak,aj,aC,ad,aA,aw,aB,aF,aJ,aV,aW,aY,ba,a_,bc,bj,bl,bg,bi,aR,bR,bN,bF,bG,bI,bO,bS,bT,bU,bP,aN,aM,q_nil,q_cons,aH,aQ,aq,aP,aL,aS,ai,ax,aa,aO,ay,an,aT,bn,af,ag,az,bb,aZ,bQ,aG,aK,aE,av,ah,aU,aI,cW,hY,hZ,h_,ia,ib,ic,ie,ig,ii,ij,ik,il,io,iq,ir,iu,iw,iy,iz,iA,iB,iC,iD,iE,iF,iG,iH,iI,iJ,iK,iL,iM,iN,iO,iP,iQ,iR,iS,iT,iU,iV,iW,iX,iY,iZ,i4,i5,i6,i7,i8,i9,i_,ja,jb,jc,jd,jf,jg,jh,ji,jj,jk,jl,jm,jn,jo,jp,jq,jr,jt,ju,jv,jw,jx,jy,jz,jA,jB,jC,jD,a_ hp2,bc hp3,show gJ .sub (.int ((6:Nat):Int)) (.int 5)=some (.int ((1:Nat):Int)) from rfl,show ∀ σ,eA σ (.lst [.str "and",.str "or"]) (.int ((1:Nat):Int))=some (.str "or") from fun z9=>rfl,show decide (((6:Nat):Int)=6)=true from rfl]
      rfl
     ·rcases hr' with rfl | h8
      ·obtain ⟨n4,v4,hn4,e4,G4⟩:=ihD d n3 rest (by lia)
       refine ⟨n4,.tup [.str "if",v2,v3,v4],by lia,?_,((G2.ite G3 G4 (by lia)).mono (by lia) (by lia))⟩
       simp only [sT]
       simp only [List.drop,aD,bh,aX,bp,bq,bf,am,al,ae,ac,ao,ak,aj,aC,ad,aA,aw,aB,aF,aJ,aV,aW,aY,ba,a_,bc,bj,bl,bg,bi,aR,bR,bN,bF,bG,bI,bO,bS,bT,bU,bP,aN,aM,q_nil,q_cons,aH,aQ,aq,aP,aL,aS,ai,ax,aa,aO,ay,an,aT,bn,af,ag,az,bb,aZ,bQ,aG,aK,aE,av,ah,aU,aI,cW,hY,hZ,h_,ia,ib,ic,ie,ig,ii,ij,ik,il,io,iq,ir,iu,iw,iy,iz,iA,iB,iC,iD,iE,iF,iG,iH,iI,iJ,iK,iL,iM,iN,iO,iP,iQ,iR,iS,iT,iU,iV,iW,iX,iY,iZ,i4,i5,i6,i7,i8,i9,i_,ja,jb,jc,jd,jf,jg,jh,ji,jj,jk,jl,jm,jn,jo,jp,jq,jr,jt,ju,jv,jw,jx,jy,jz,jA,jB,jC,jD,a_ hp2,bc hp3,show decide (((7:Nat):Int)=7)=true from rfl,show decide (((7:Nat):Int)=6)=false from rfl,sb,e4]
      ·obtain ⟨n4,v4,hn4,e4,op,rfl,ho⟩:=wb (d:=d+D+1) (ns:=ns) n3 rest (by lia)
       refine (ib_2_3 n4 (.tup [.str "bin",.str op,v2,v3]) (by lia) ?_ (((G2.bin ho G3 (by lia)).mono (by lia) (by lia))))
       simp only [sT]
       simp only [List.drop,aD,bh,aX,bp,bq,bf,am,al,ae,ac,ao,ak,aj,aC,ad,aA,aw,aB,aF,aJ,aV,aW,aY,ba,a_,bc,bj,bl,bg,bi,aR,bR,bN,bF,bG,bI,bO,bS,bT,bU,bP,aN,aM,q_nil,q_cons,aH,aQ,aq,aP,aL,aS,ai,ax,aa,aO,ay,an,aT,bn,af,ag,az,bb,aZ,bQ,aG,aK,aE,av,ah,aU,aI,cW,show decide ((r:Int)=4)=false from decide_eq_false (by lia),show decide ((r:Int)=5)=false from decide_eq_false (by lia),show decide ((r:Int)=6)=false from decide_eq_false (by lia),show decide ((r:Int)=7)=false from decide_eq_false (by lia),a_ hp2,bc hp3,e4]
end
end
end Mine.Internal.Q
end
section
open PySem
set_option genCtorIdx false
namespace Mine.Internal.Q
noncomputable section
noncomputable def ET:List PS:=[.asg 4 (.call 39 [.loc 0,.loc 1,.int 4]),.asg 5 (.call 43 [.loc 0,.loc 1,.int 1]),.ifs (.cmp .lt (.loc 4) (.int 2)) [.asg 2 (.tup [.sub (.lst [.str "and",.str "or"]) (.loc 4),.loc 2,.loc 5])] [.asg 2 (.tup [.str "bin",.call 42 [.loc 0,.loc 1],.loc 2,.loc 5])]]
section
variable {C:CF} {w d k p h h':Nat} {v:V} {bk:List (Str×V)} {c:Int} {m n M M':Nat} {va vb ve:V} {ma mb me Ma Mb Me:Nat} {ns:List Int} {ρ:ck} {K B:KK} {σ σ':St} {P Q:V→Prop}
theorem uT(hh:32≤h)(hK:∀ v x3 x4 x5 σ,plain v=true→K [some (.lst (ns.map .int)),some (.ref 0),some v,x3,x4,x5] σ=bv v σ):∀ (L:List V) (n h M:Nat) (rest:St) (v:V) (x3 x4 x5:Option V),32≤h→GT h M v→n+13*L.length≤900→M+44*L.length≤3000→
  ∃ n' v',n'≤n+13*L.length∧FL (au PL 5000 (d+4)) 5000 3 ET L K B [some (.lst (ns.map .int)),some (.ref 0),some v,x3,x4,x5] (fT n rest)=bv v' (fT n' rest)∧GT (h+3*L.length) (M+44*L.length) v':=by
 intro L
 induction L with
 | nil=>
  intro n h M rest v x3 x4 x5 h32 G _ _
  exact (ib_2_3 n v (Nat.le_refl _) (by simp only [rx,hK _ _ _ _ _ G.pl]) G)
 | cons a r ih=>
  intro n h M rest v x3 x4 x5 h32 G hn hM
  simp only [List.length_cons] at hn hM
  obtain ⟨n1,v1,hn1,e1,q,hq,rfl⟩:=co (d:=d+3) (ns:=ns) (M:=4) (by decide) n rest (by lia)
  refine ob_2_3 (qM (ns:=ns) 1 (by decide) d n1 rest (by have:TD 1=11:=rfl;lia)) fun n2 v2 hn2 e2 G2=>?_
  have hT:TD 1=11:=rfl
  have G2':GT h 40 v2:=G2.mono (by lia) (by decide)
  have hpv:=G.pl
  have hp2:=G2.pl
  have step:∃ n3 v3,n3≤n2+1∧FL (au PL 5000 (d+4)) 5000 3 ET (a::r) K B [some (.lst (ns.map .int)),some (.ref 0),some v,x3,x4,x5] (fT n rest)=FL (au PL 5000 (d+4)) 5000 3 ET r K B [some (.lst (ns.map .int)),some (.ref 0),some v3,some a,some (.int q),some v2] (fT n3 rest)∧GT (h+3) (M+44) v3:=by
   have common:FL (au PL 5000 (d+4)) 5000 3 ET (a::r) K B [some (.lst (ns.map .int)),some (.ref 0),some v,x3,x4,x5] (fT n rest)=fk (au PL 5000 (d+4)) 5000 [.ifs (.cmp .lt (.loc 4) (.int 2)) [.asg 2 (.tup [.sub (.lst [.str "and",.str "or"]) (.loc 4),.loc 2,.loc 5])] [.asg 2 (.tup [.str "bin",.call 42 [.loc 0,.loc 1],.loc 2,.loc 5])]] (FL (au PL 5000 (d+4)) 5000 3 ET r K B) K [some (.lst (ns.map .int)),some (.ref 0),some v,some a,some (.int q),some v2] (fT n2 rest):=by
    simp only [gC,bG]
    unfold ET
    simp only [aE,ai,q_cons,aV ak,aD,q_cons,aW aj,aD,q_cons,aF,aD,q_nil,aD,aD,aD,aD,show (4:Int)=((4:Nat):Int) from rfl,e1,aD,bI,aE,ai,q_cons,aV ak,aD,q_cons,aW aj,aD,q_cons,aF,aD,q_nil,aD,aD,aD,aD,show (1:Int)=((1:Nat):Int) from rfl,show au PL 5000 (d+4) 43=au PL 5000 (d+1+3) 43 from rfl,e2,aD,bO]
   simp only [common]
   have hq':q=0∨q=1∨2≤q:=by lia
   rcases hq' with rfl | rfl | h2
   ·refine (ib_2_3 n2 (.tup [.str (gj false),v,v2]) (by lia) ?_ (((G.log false G2' (by lia)).mono (by lia) (by lia))))
    simp only [aD,bh,aX,bp,bq,bf,am,al,ae,ac,ao,ak,aj,aC,ad,aA,aw,aB,aF,aJ,aV,aW,aY,ba,a_,bc,bj,bl,bg,bi,aR,bR,bN,bF,bG,bI,bO,bS,bT,bU,bP,aN,aM,q_nil,q_cons,aH,aQ,aq,aP,aL,aS,ai,ax,aa,aO,ay,an,aT,bn,af,ag,az,bb,aZ,bQ,aG,aK,aE,av,ah,aU,aI,zO,show decide (((0:Nat):Int)<2)=true from rfl,aY hpv,bc hp2,show ∀ σ,eA σ (.lst [.str "and",.str "or"]) (.int ((0:Nat):Int))=some (.str "and") from fun z9=>rfl]
    rfl
   ·refine (ib_2_3 n2 (.tup [.str (gj true),v,v2]) (by lia) ?_ (((G.log true G2' (by lia)).mono (by lia) (by lia))))
    simp only [aD,bh,aX,bp,bq,bf,am,al,ae,ac,ao,ak,aj,aC,ad,aA,aw,aB,aF,aJ,aV,aW,aY,ba,a_,bc,bj,bl,bg,bi,aR,bR,bN,bF,bG,bI,bO,bS,bT,bU,bP,aN,aM,q_nil,q_cons,aH,aQ,aq,aP,aL,aS,ai,ax,aa,aO,ay,an,aT,bn,af,ag,az,bb,aZ,bQ,aG,aK,aE,av,ah,aU,aI,zO,show decide (((1:Nat):Int)<2)=true from rfl,aY hpv,bc hp2,show ∀ σ,eA σ (.lst [.str "and",.str "or"]) (.int ((1:Nat):Int))=some (.str "or") from fun z9=>rfl]
    rfl
   ·obtain ⟨n3,v3,hn3,e3,op,rfl,ho⟩:=wb (d:=d+2) (ns:=ns) n2 rest (by lia)
    refine (ib_2_3 n3 (.tup [.str "bin",.str op,v,v2]) (by lia) ?_ (((G.bin ho G2' (by lia)).mono (by lia) (by lia))))
    simp only [aD,bh,aX,bp,bq,bf,am,al,ae,ac,ao,ak,aj,aC,ad,aA,aw,aB,aF,aJ,aV,aW,aY,ba,a_,bc,bj,bl,bg,bi,aR,bR,bN,bF,bG,bI,bO,bS,bT,bU,bP,aN,aM,q_nil,q_cons,aH,aQ,aq,aP,aL,aS,ai,ax,aa,aO,ay,an,aT,bn,af,ag,az,bb,aZ,bQ,aG,aK,aE,av,ah,aU,aI,zO,show decide ((q:Int)<2)=false from decide_eq_false (by lia),aY hpv,bc hp2,e3]
  refine rO fun C kC=>?_
  refine ob_2_3 step fun n3 v3 hn3 e3 G3=>?_
  refine ob_2_3 (ih n3 (h+3) (M+44) rest v3 (some a) (some (.int q)) (some v2) (by lia) G3 (by lia) (by lia)) fun n4 v4 hn4 e4 G4=>?_
  refine kC ?_
  refine ⟨n4,v4,by simp only [List.length_cons];lia,e3.trans e4,?_⟩
  simp only [List.length_cons]
  exact G4.mono (by lia) (by lia)
theorem JV:PL 44=some GF:=by kernel_rfl
theorem JW{a b c:V}:cS GF [a,b,c]=some [some a,some b,some c,none,none,none]:=rfl
theorem uU{v:V}(G:GT 38 376 v):Dw (au PL 5000 (d+5) 44 [.lst (ns.map .int),.ref 0,v]) 79 (GT 56 640):=by
 intro n rest hn
 refine rO fun C kC=>?_
 obtain ⟨n1,v1,hn1,e1,q,hq,rfl⟩:=co (d:=d+3) (ns:=ns) (M:=7) (by decide) n rest (by lia)
 have hl:(rng (q:Int)).length=q:=ol
 refine ob_2_3 (uT (d:=d) (ns:=ns) (h:=38) (K:=fk (au PL 5000 (d+4)) 5000 [.ret (.loc 2)] K0 B0) (B:=B0) (by decide) (fun v x3 x4 x5 σ hp=>by rw [aK,aY hp]) (rng q) n1 38 376 rest v none none none (by decide) G (by rw [hl];lia) (by rw [hl];lia)) fun n2 v2 hn2 e2 G2=>?_
 rw [hl] at hn2 G2
 refine kC ?_
 refine ⟨n2,v2,by lia,?_,G2.mono (by lia) (by lia)⟩
 rw [bo JV JW,GF,uA (k:=q) (σ':=fT n1 rest) (by
  simp only [ai,q_cons,q_nil,aV ak,aW aj,aF,aD,show (7:Int)=((7:Nat):Int) from rfl,e1]) (by lia)]
 exact e2
theorem tx{ρ:ck}(hρ:∀ v σ,ev (au PL 5000 (d+2)) (ρ++[some v]) (.call 41 [.loc 0,.loc 1]) σ=au PL 5000 (d+2) 41 [.lst (ns.map .int),.ref 0] σ):∀ (L:List V) (n:Nat) (rest:St),n+2*L.length≤900→∃ n' vs,n'≤n+2*L.length∧gK (fun v σ=>ev (au PL 5000 (d+2)) (ρ++[some v]) (.call 41 [.loc 0,.loc 1]) σ) L (fT n rest)=bv vs (fT n' rest)∧vs.length=L.length∧∀ v∈vs,GT 29 12 v:=by
 intro L
 induction L with
 | nil=>intro n rest _;exact (ib_2_4 n ([]) (Nat.le_refl _) rfl rfl (fun v h=>nomatch h))
 | cons a r ih=>
  intro n rest hn
  simp only [List.length_cons] at hn
  refine ob_2_3 (nB (d:=d) (ns:=ns) n rest (by lia)) fun n1 v1 hn1 e1 G1=>?_
  refine ob_2_4 (ih n1 rest (by lia)) fun n2 vs hn2 e2 hl G2=>?_
  refine ⟨n2,v1::vs,by simp only [List.length_cons];lia,?_,by simp only [List.length_cons,List.length_cons,hl],fun v hv=>?_⟩
  ·show (ev (au PL 5000 (d+2)) (ρ++[some a]) (.call 41 [.loc 0,.loc 1]) (fT n rest)).bind _=_
   rw [hρ,e1,aD,e2];rfl
  ·rcases List.mem_cons.mp hv with rfl | hv
   ·exact G1
   ·exact G2 v hv
theorem JX:PL 45=some GH:=by kernel_rfl
theorem JY{a b:V}:cS GH [a,b]=some [some a,some b,none,none,none]:=rfl
inductive L8 (l:List V):Prop
 | mk (a b c d e f g h:V):l=[a,b,c,d,e,f,g,h]→L8 l
theorem l8:∀ l:List V,l.length=8→L8 l:=sV fun a=>sV fun b=>sV fun c=>sV fun d=>sV fun e=>sV fun f=>sV fun g=>sV fun h=>Hv ⟨a,b,c,d,e,f,g,h,rfl⟩
theorem uV:Dw (au PL 5000 (d+3) 45 [.lst (ns.map .int),.ref 0]) 16 (GT 56 640):=by
 intro n rest hn
 have hl:(rng ((8:Nat):Int)).length=8:=ol
 obtain ⟨n1,vs,hn1,e1,hvl,G⟩:=tx (d:=d) (ns:=ns) (ρ:=[some (.lst (ns.map .int)),some (.ref 0),none,none,none]) (fun v σ=>by
  refine (?_:ev _ [_,_,_,_,_,_] _ _=_)
  simp only [ai,q_cons,q_nil,aV ak,aW aj,aD]) (rng ((8:Nat):Int)) n rest (by rw [hl];lia)
 rw [hl] at hn1 hvl
 obtain ⟨v0,v1,v2,v3,v4,v5,v6,v7,rfl⟩:=l8 vs hvl
 simp only [List.forall_mem_cons] at G
 obtain ⟨G0,G1,G2,G3,G4,G5,G6,G7,_⟩:=G
 have Ga:=(G0.mono (h':=32) (M':=12) (by decide) (by decide)).log true ((G1.log false G2 (by decide)))  (by decide)
 have Gc:=GT.fn (GW "g" (.tail _ (.head _))) (vs:=[v3,.tup [.str "un",.str "-",v4]]) (h:=32) (M:=13) (Nat.le_of_ble_eq_true rfl) (fun v hv=>by
  simp only [List.mem_cons,List.not_mem_nil,or_false] at hv
  rcases hv with rfl | rfl
  ·exact G3.mono (by decide) (by decide)
  ·exact (G4.un (IL "-" (.head _)) (by decide)).mono (by decide) (by decide)) (by decide)
 have Gp:=Ga.ite Gc (G5.mono (h':=35) (M':=12) (by decide) (by decide)) (by simp only [List.length_cons,List.length_nil];decide)
 have Ge:=Gp.bin (op:="eq") (pE (by decide +kernel)) (G6.mono (h':=38) (M':=12) (by decide) (by decide)) (by simp only [List.length_cons,List.length_nil];decide)
 have Go:=Ge.log true ((GT.num (n:=0) (by decide)).mono (h':=41) (M':=12) (by decide) (by decide)) (by simp only [List.length_cons,List.length_nil];decide)
 have Gf:=(GT.fn (GW "f" (.head _)) (vs:=[]) (h:=29) (M:=12) (Nat.zero_le _) (fun v hv=>nomatch hv) (by decide))
 have Gn:=(G7.mono (h':=32) (M':=12) (by decide) (by decide)).log false Gf (by simp only [List.length_nil];decide)
 have GG:=Go.bin (op:="+") (pE (by decide +kernel)) (Gn.mono (h':=44) (M':=100) (by decide) (by simp only [List.length_nil];decide)) (by simp only [List.length_cons,List.length_nil];decide)
 refine (ib_2_3 n1 _ (by lia) ?_ (GG.mono (by decide) (by simp only [List.length_cons,List.length_nil];decide)))
 have e8:ev (au PL 5000 (d+2)) [some (.lst (ns.map .int)),some (.ref 0),none,none,none] (.compR (.call 41 [.loc 0,.loc 1]) (.int 8)) (fT n rest)=bv (V.lst [v0,v1,v2,v3,v4,v5,v6,v7]) (fT n1 rest):=rE (n:=8) (aF (i:=((8:Nat):Int))) (by decide) e1
 simp only [bo JX JY,GH,aE,e8,aD,bF]
 rfl
end
end
end Mine.Internal.Q
end
section
open PySem
namespace Mine.Internal.Q
noncomputable section
section
variable {C:CF} {w d k p h h':Nat} {v:V} {s s':SS} {bk:List (Str×V)} {c:Int} {l l':fS} {m n M:Nat} {ns:List Int} {ρ:ck} {K B:KK} {σ σ' σ'':St} {S T:List Str} {res:ER (List Str)}
theorem JZ:PL 58=some GQ:=by kernel_rfl
theorem J0{a b:V}:cS GQ [a,b]=some [some a,some b,none,none,none,none,none]:=rfl
theorem xk(hk:s.stk=[])(hz:s.rows.length≤4000)(hl:s.l1.length≤80000)(H:VF d c s 0 [] s.l1 res):FS s res (au PL 5000 (d+4) 58 [WV 2 c,.ref 6] s.st):=by
 have h0:=H (by omega) (Nat.le_refl _) 5000 none none none (by lia)
 have e:au PL 5000 (d+4) 58 [WV 2 c,.ref 6] s.st=Ek d 5000 [some (WV 2 c),some (.ref 6),some (.ref 11),some (.int (0:Nat)),none,none,none] (vs s [] s.l1).st:=by
  obtain ⟨n0,bk,l1,l2,sl,rows,names,srcs,dep,stk⟩:=s
  subst hk
  simp only [bo JZ J0,GQ,aE,Ce,q_nil,aD,aD,aE,aF,aD,vL]
  rfl
 simp only [e];exact h0
theorem pR{e:PE}{ps:List PS}:fz C w (.ret e::ps) ρ σ=bH ρ (ev C ρ e σ) fun v σ=>some (.ret v ρ σ):=by
 refine (?_:(match bH ρ (ev C ρ e σ) (fun v σ=>some (FR.ret v ρ σ)) with | some (.next ρ σ)=>fz C w ps ρ σ | x=>x)=_)
 cases ev C ρ e σ with
 | none=>rfl
 | some r=>cases r<;>rfl
theorem B6{c:PE}{t e ps:List PS}{q:Bool}(h:fw C ρ c σ=bv q σ):fz C w (.ifs c t e::ps) ρ σ=match fz C w (bif q then t else e) ρ σ with | some (.next ρ σ)=>fz C w ps ρ σ | x=>x:=by
 refine (?_:(match bH ρ (fw C ρ c σ) (fun q σ=>match q with | true=>fz C w t ρ σ | false=>fz C w e ρ σ) with | some (.next ρ σ)=>fz C w ps ρ σ | x=>x)=_)
 rw [h]
 cases q<;>rfl
theorem tz{x:Nat}{b hh:List PS}{e:PE}{ps:List PS}(hb:fz C w b ρ σ=bH ρ (ev C ρ e σ) fun v σ=>some (.ret v ρ σ))(he:ev C ρ e σ=bv v σ'):fk C w (.try1 b x hh::ps) K B ρ σ=bv v σ':=by
 rw [gu]
 refine (?_:fY _ B (match fz C w b ρ σ with | some (.exc v ρ σ)=>(match fz C w hh (ρ.set x (some v)) σ with | some (.next ρ σ)=>some (.next (ρ.set x none) σ) | some (.ret v ρ σ)=>some (.ret v (ρ.set x none) σ) | _=>none) | r=>r)=_)
 rw [hb,he];rfl
theorem tA{x:Nat}{b:List PS}{e g:PE}{ps:List PS}{u:V}(hb:fz C w b ρ σ=bH ρ (ev C ρ e σ) fun v σ=>some (.ret v ρ σ))(he:ev C ρ e σ=uy v σ')(hg:ev C (ρ.set x (some v)) g σ'=bv u σ''):fk C w (.try1 b x [.ret g]::ps) K B ρ σ=bv u σ'':=by
 rw [gu]
 refine (?_:fY _ B (match fz C w b ρ σ with | some (.exc v ρ σ)=>(match fz C w [.ret g] (ρ.set x (some v)) σ with | some (.next ρ σ)=>some (.next (ρ.set x none) σ) | some (.ret v ρ σ)=>some (.ret v (ρ.set x none) σ) | _=>none) | r=>r)=_)
 simp only [hb,he]
 refine (?_:fY _ B (match fz C w [.ret g] (ρ.set x (some v)) σ' with | some (.next ρ σ)=>some (.next (ρ.set x none) σ) | some (.ret v ρ σ)=>some (.ret v (ρ.set x none) σ) | _=>none)=_)
 simp only [pR,hg];rfl
theorem Ij:PL 59=some EN:=by kernel_rfl
theorem Ik{a b c:V}:cS EN [a,b,c]=some [some a,some b,some c,none]:=rfl
theorem qN{a b v:V}{x0 x1 x2:Option V}:ev C [x0,x1,x2,some (.exc a b)] (.tup [.attr (.loc 3) "code",.attr (.loc 3) "value"]) σ=bv (.tup [a,b]) σ:=by
 have h1:∀ σ,gh σ (.exc a b) "code"=some a:=fun z9=>by kernel_rfl
 have h2:∀ σ,gh σ (.exc a b) "value"=some b:=fun z9=>by kernel_rfl
 simp only [aN,q_cons,q_nil,aq,ba aA,aD,aX,h1,h2]
noncomputable def zR(g:List Str→V):ER (List Str)→V
 | .ok S _=>.tup [.int 0,g S]
 | .ex c x _=>.tup [.int c,.str x]
noncomputable def j8{α:Type}:ER α→fS
 | .ok _ l=>l
 | .ex _ _ l=>l
noncomputable def xm:PE:=.tup [.int 0,.call 58 [.loc 0,.loc 1]]
noncomputable def zS:PE:=.tup [.int 0,.comp (.call 53 [.loc 0,.loc 4]) (.loc 2) (.bool true)]
theorem ED{x0 x1 x2:V}(hb:isNone x1=false)(hp:plain x1=true):fz C w [.ifs (.cmp .isnot (.loc 1) .none) [.ret xm] [],.ret zS] [some x0,some x1,some x2,none] σ=bH [some x0,some x1,some x2,none] (ev C [some x0,some x1,some x2,none] xm σ) fun v σ=>some (.ret v [some x0,some x1,some x2,none] σ):=by
 rw [B6 (q:=true) (by simp only [an,aW hp,aD,aw,aD,gz,hb];rfl),bb,pR]
 cases ev C [some x0,some x1,some x2,none] xm σ with
 | none=>rfl
 | some r=>cases r<;>rfl
theorem B7{x0 x2:V}:fz C w [.ifs (.cmp .isnot (.loc 1) .none) [.ret xm] [],.ret zS] [some x0,some .none,some x2,none] σ=bH [some x0,some .none,some x2,none] (ev C [some x0,some .none,some x2,none] zS σ) fun v σ=>some (.ret v [some x0,some .none,some x2,none] σ):=by
 exact pR
theorem zT{t:V}(hk:s.stk=[])(hz:s.rows.length≤4000)(hl:s.l1.length≤80000)(H:VF d c s 0 [] s.l1 res):∃ S,au PL 5000 (d+5) 59 [WV 2 c,.ref 6,t] s.st=bv (zR (fun z9=>V.ref 11) res) (vs s S (j8 res)).st∧(∀ A l,res=.ok A l→S=A):=by
 have R:=xk hk hz hl H
 have hb:=ED (C:=au PL 5000 (d+4)) (w:=5000) (σ:=s.st) (x0:=WV 2 c) (x1:=.ref 6) (x2:=t) rfl rfl
 have e1:ev (au PL 5000 (d+4)) [some (WV 2 c),some (.ref 6),some t,none] xm s.st=(au PL 5000 (d+4) 58 [WV 2 c,.ref 6] s.st).bind fun v σ=>bv (.tup [.int 0,v]) σ:=by
  unfold xm
  simp only [aN,q_cons,q_nil,aF,aD,ai,aV ef,aW aj,k_]
 cases res with
 | ok A l=>
  have R:au PL 5000 (d+4) 58 [WV 2 c,.ref 6] s.st=bv (V.ref 11) (vs s A l).st:=R
  simp only [R,aD] at e1
  refine (ib_1_2 A ?_ (fun A' l' e=>by cases e;rfl))
  simp only [bo Ij Ik,EN]
  exact tz hb e1
 | ex c' x l=>
  obtain ⟨T,R⟩:=R
  simp only [R,bh] at e1
  refine (ib_1_2 T ?_ (fun A' l' e=>by cases e))
  simp only [bo Ij Ik,EN]
  exact tA hb e1 (qN (v:=.none))
theorem xn{as:List Ag}(H:∀ a∈as,fs k c bk (d+1) a.1 a.2.1 a.2.2∧Fg (cX 100) a.2.1 a.2.2∧plain a.1=true)(W:Wd k bk l σ)(hl:l.length+(as.map (·.2.1)).sum≤90000):au PL 5000 (d+2) 59 [WV k c,.none,.lst (as.map (·.1))] σ=bv (zR (fun S=>.lst (cT S)) (eg pO as l)) (lg k σ (j8 (eg pO as l))):=by
 have hb:=B7 (C:=au PL 5000 (d+1)) (w:=5000) (σ:=σ) (x0:=WV k c) (x2:=.lst (as.map (·.1)))
 have hc:=nz (C:=au PL 5000 (d+1)) (ρ:=[some (WV k c),some .none,some (.lst (as.map (·.1))),none]) (σ:=σ) (elt:=.call 53 [.loc 0,.loc 4]) (src:=.loc 2) (v:=.lst (as.map (·.1))) (vs:=as.map (·.1)) (aY ak) rfl rfl rfl
 rw [Ep (k:=k) (bk:=bk) (f:=pO) (P:=cX 100) (ms:=fun a=>a.2.1) as l σ (fun a ha=>⟨(H a ha).2.1,fun l σ W hl=>by
  refine (?_:ev _ [_,_,_,_,_] _ _=_)
  simp only [aD,bh,aX,bp,bq,bf,am,al,ae,ac,ao,ak,aj,aC,ad,aA,aw,aB,aF,aJ,aV,aW,aY,ba,a_,bc,bj,bl,bg,bi,aR,bR,bN,bF,bG,bI,bO,bS,bT,bU,bP,aN,aM,q_nil,q_cons,aH,aQ,aq,aP,aL,aS,ai,ax,aa,aO,ay,an,aT,bn,af,ag,az,bb,aZ,bQ,aG,aK,aE,av,ah,aU,aI,aV ef,a_ (H a ha).2.2]
  exact (H a ha).1 (d+1) (Nat.le_refl _) σ l W hl⟩) W (by omega),dJ] at hc
 have e1:ev (au PL 5000 (d+1)) [some (WV k c),some .none,some (.lst (as.map (·.1))),none] zS σ=f_ k σ (eg pO as l) fun vs l'=>bv (.tup [.int 0,.lst (cT vs)]) (lg k σ l'):=by
  unfold zS
  simp only [aN,q_cons,q_nil,aF,aD,hc,dJ]
 simp only [bo Ij Ik,EN]
 cases e:eg pO as l with
 | ok A l'=>
  rw [e] at e1
  exact tz hb e1
 | ex c' x l'=>
  simp only [e] at e1
  exact tA hb e1 (qN (v:=.none))
end
end
end Mine.Internal.Q
end
section
open PySem
namespace Mine.Internal.Q
noncomputable section
noncomputable def Il:List PS:=[.ifs (.or (.and (.cmp .eq (.loc 2) (.str "load")) (.not (.and (.loc 1) (.cmp .eq (.sub (.attr (.loc 0) "names") (.loc 3)) (.loc 4))))) (.and (.cmp .eq (.loc 2) (.str "load_name")) (.loc 1))) [.ret (.bool false)] []]
noncomputable def dS(ss:List Str):List PyData:=ss.map .str
section
variable {C:CF} {w d k p h h':Nat} {v a b:V} {s s':SS} {bk:List (Str×V)} {c:Int} {l l':fS} {m n M:Nat} {ns:List Int} {ρ:ck} {K B:KK} {σ σ' σ'':St} {S T:List Str} {res:ER (List Str)} {R:cR V}
theorem xo{r:jN}{x0:Option V}(hn:s.names.length≤4000)(H:gy s.sl s.names r):fw C [some (.inst 5),some (.bool s.sl),some (.str r.1),some r.2.1,some r.2.2] (.or (.and (.cmp .eq (.loc 2) (.str "load")) (.not (.and (.loc 1) (.cmp .eq (.sub (.attr (.loc 0) "names") (.loc 3)) (.loc 4))))) (.and (.cmp .eq (.loc 2) (.str "load_name")) (.loc 1))) s.st=bv false s.st:=by
 obtain ⟨op,a,b⟩:=r
 have t1:∀ {q:Bool} {r:ck} {x0:Option V},fw C (x0::some (.bool q)::r) (.loc 1) s.st=bv q s.st:=fun {q r x0}=>zI (v:=.bool q) rfl rfl
 by_cases q:op="load"
 ·obtain ⟨hs,i,x,ha,hb,hg⟩:=H.1 q
  subst q ha hb
  have hi:=(List.getElem?_eq_some_iff.mp hg).1
  have n1:decide (("load":Str)="load_name")=false:=by decide +kernel
  have hn1:=mH (σ:=s.st) (n:=i) (k:=8) (by lia) g8
  simp only [pB hg] at hn1
  simp only [aD,bh,aX,bp,bq,bf,am,al,ae,ac,ao,ak,aj,aC,ad,aA,aw,aB,aF,aJ,aV,aW,aY,ba,a_,bc,bj,bl,bg,bi,aR,bR,bN,bF,bG,bI,bO,bS,bT,bU,bP,aN,aM,q_nil,q_cons,aH,aQ,aq,aP,aL,aS,ai,ax,aa,aO,ay,an,aT,bn,af,ag,az,bb,aZ,bQ,aG,aK,aE,av,ah,aU,aI,bu,eq_self,decide_true,t1,hs,wV,hn1,Bool.not_true,n1]
 ·have z:decide (op="load")=false:=decide_eq_false q
  by_cases q2:op="load_name"
  ·have hs:=H.2 q2
   have z2:decide (op="load_name")=true:=decide_eq_true q2
   simp only [aD,bh,aX,bp,bq,bf,am,al,ae,ac,ao,ak,aj,aC,ad,aA,aw,aB,aF,aJ,aV,aW,aY,ba,a_,bc,bj,bl,bg,bi,aR,bR,bN,bF,bG,bI,bO,bS,bT,bU,bP,aN,aM,q_nil,q_cons,aH,aQ,aq,aP,aL,aS,ai,ax,aa,aO,ay,an,aT,bn,af,ag,az,bb,aZ,bQ,aG,aK,aE,av,ah,aU,aI,bu,z,z2,t1,hs]
  ·have z2:decide (op="load_name")=false:=decide_eq_false q2
   simp only [aD,bh,aX,bp,bq,bf,am,al,ae,ac,ao,ak,aj,aC,ad,aA,aw,aB,aF,aJ,aV,aW,aY,ba,a_,bc,bj,bl,bg,bi,aR,bR,bN,bF,bG,bI,bO,bS,bT,bU,bP,aN,aM,q_nil,q_cons,aH,aQ,aq,aP,aL,aS,ai,ax,aa,aO,ay,an,aT,bn,af,ag,az,bb,aZ,bQ,aG,aK,aE,av,ah,aU,aI,bu,z,z2]
theorem xq(hn:s.names.length≤4000)(hK:∀ x y z,K [some (.inst 5),some (.bool s.sl),x,y,z] s.st=R):∀ (L:List jN) (x y z:Option V),(∀ r∈L,gy s.sl s.names r)→FT C w [2,3,4] Il (fL L) K B [some (.inst 5),some (.bool s.sl),x,y,z] s.st=R:=by
 intro L
 induction L with
 | nil=>intro x y z _;exact hK x y z
 | cons r t ih=>
  intro x y z H
  refine (?_:FT C w [2,3,4] Il (.tup [.str r.1,r.2.1,r.2.2]::fL t) K B _ s.st=_)
  rw [oi (ρ':=[some (.inst 5),some (.bool s.sl),some (.str r.1),some r.2.1,some r.2.2]) rfl,Il,aI,xo (x0:=none) hn (H r (.head _)),aD,aZ,aG]
  exact ih _ _ _ fun r hr=>H r (.tail _ hr)
theorem zU{f:V→St→cR V}{cnd:V→St→cR Bool}:∀ {L:List V},(∀ v∈L,cnd v σ=bv false σ)→gI cnd f L σ=bv [] σ:=by
 intro L
 induction L with
 | nil=>intro _;rfl
 | cons v r ih=>
  intro H
  refine (?_:(cnd v σ).bind _=_)
  simp only [H v (.head _)]
  exact ih fun v hv=>H v (.tail _ hv)
theorem zV{t:Str}{ss:List Str}(h:ss.Nodup):(ss.filter fun y=>decide (y=t)).length≤1:=by
 have:=List.nodup_iff_count.mp h t
 simp only [List.count_eq_countP,List.countP_eq_length_filter] at this
 have e:(fun y=>decide (y=t))=fun x=>x == t:=by funext y;rfl
 rw [e];exact this
theorem J1:PL 60=some GR:=by kernel_rfl
theorem J3{a b:V}:cS GR [a,b]=some [some a,some b,none,none,none]:=rfl
theorem rL(hn:s.names.length≤4000)(hd:s.names.Nodup)(H:∀ r∈s.rows,gy s.sl s.names r):au PL 5000 (d+1) 60 [.inst 5,.bool s.sl] s.st=bv (.bool true) s.st:=by
 have hi:dH s.st (.ref 6)=some (fL s.rows):=rfl
 rw [bo J1 J3,GR,yV (σ':=s.st) (v:=.ref 6) (by simp only [aD,bh,aX,bp,bq,bf,am,al,ae,ac,ao,ak,aj,aC,ad,aA,aw,aB,aF,aJ,aV,aW,aY,ba,a_,bc,bj,bl,bg,bi,aR,bR,bN,bF,bG,bI,bO,bS,bT,bU,bP,aN,aM,q_nil,q_cons,aH,aQ,aq,aP,aL,aS,ai,ax,aa,aO,ay,an,aT,bn,af,ag,az,bb,aZ,bQ,aG,aK,aE,av,ah,aU,aI,pY]) hi rfl]
 refine xq hn (fun x y z=>?_) s.rows none none none H
 have hc:ev (au PL 5000 d) [some (.inst 5),some (.bool s.sl),x,y,z] (.comp (.loc 5) (.attr (.loc 0) "names") (.cmp .gt (.count (.attr (.loc 0) "names") (.loc 5)) (.int 1))) s.st=bv (.lst []) s.st:=by
  refine (?_:(ev _ _ (.attr (.loc 0) "names") s.st).bind _=_)
  refine (?_:(gI _ _ (cT s.names) s.st).bind _=_)
  rw [zU fun v hv=>?_]
  ·rfl
  ·refine ob_1_2 (List.mem_map.mp hv) fun t ht hq68_2=>?_
   subst hq68_2
   refine (?_:fw _ [_,_,_,_,_,_] _ _=_)
   have e1:ev (au PL 5000 d) [some (.inst 5),some (.bool s.sl),x,y,z,some (.str t)] (.count (.attr (.loc 0) "names") (.loc 5)) s.st=bv (.int ((s.names.filter fun y=>decide (y=t)).length:Nat)) s.st:=by
    refine (?_:(ev _ _ (.attr (.loc 0) "names") s.st).bind _=_)
    simp only [aq,aV ad,aD,wV,aX,aD]
    simp only [show lstAt s.st (.ref 8)=some 8 from rfl,aX,aD]
    refine (?_:lift ((ed (cT s.names)).map fun ss=>V.int ((ss.filter fun y=>decide (y=t)).length:Nat)) s.st=_)
    simp only [nO];rfl
   have:=zV (t:=t) hd
   rw [an,e1,aD,aF,aD,pN,decide_eq_false (by lia),aX]
 simp only [aK,aL,hc,aD,aM,q_nil,aD,aD]
 rfl
theorem wc{x:Str}(h:PyData.strOk x=true):mW σ n (.str x)=some (.str x):=by
 cases n with
 | zero=>exact if_pos h
 | succ n=>exact congrArg (Option.or · _) (if_pos h)
theorem qO:∀ {ss:List Str},(∀ x∈ss,PyData.strOk x=true)→jG (mW σ n) (cT ss)=some (dS ss)∧PyData.canLayAll0 (dS ss)=true:=by
 intro ss
 induction ss with
 | nil=>intro _;exact ⟨rfl,rfl⟩
 | cons x r ih=>
  intro h
  refine bC (ih fun x hx=>h x (.tail _ hx)) fun e1 e2=>?_
  have hx:=h x (.head _)
  constructor
  ·refine (?_:(mW σ n (.str x)).bind (fun d=>(jG (mW σ n) (cT r)).map (d::·))=_)
   rw [wc hx,e1];rfl
  ·show (PyData.strOk x&&PyData.canLayAll0 (dS r))=true
   simp only [hx,e2];rfl
noncomputable def dL(l:fS):List PyData:=l.map fun t=>.tuple (dS t)
theorem zW:∀ {l:fS},(∀ ws∈l,∀ x∈ws,PyData.strOk x=true)→jG (mW σ (n+1)) (lM l)=some (dL l)∧PyData.canLayAll0 (dL l)=true:=by
 intro l
 induction l with
 | nil=>intro _;exact ⟨rfl,rfl⟩
 | cons t r ih=>
  intro h
  refine bC (ih fun x hx=>h x (.tail _ hx)) fun e1 e2=>?_
  refine bC (qO (σ:=σ) (n:=n) (h t (.head _))) fun q1 q2=>?_
  constructor
  ·refine (?_:(((jG (mW σ n) (cT t)).map PyData.tuple).or none).bind (fun d=>(jG (mW σ (n+1)) (lM r)).map (d::·))=_)
   simp only [q1,e1];rfl
  ·show (PyData.canLayAll0 (dS t)&&PyData.canLayAll0 (dL r))=true
   simp only [q2,e2];rfl
theorem rM{D:PyData}(h1:mW σ 8 a=some D)(h2:mW σ 8 b=some D)(h:D.canLay0=true)(hv:CW σ a b=CV σ a b):dG σ .ne a b=some false:=by
 refine (?_:(CW σ a b).map _=_)
 rw [hv]
 refine (?_:((mW σ 8 a).bind fun x=>(mW σ 8 b).map fun y=>PyData.eqv x y).map _=_)
 rw [h1,h2]
 refine (?_:some (!PyData.eqv D D)=_)
 rw [SeqAt.eqv_refl D h];rfl
end
end
end Mine.Internal.Q
end
section
open PySem
namespace Mine.Internal.Q
noncomputable section
section
variable {C:CF} {w d k p h h':Nat} {v a b:V} {s s' s0 s1 s2:SS} {bk:List (Str×V)} {c:Int} {l l':fS} {m n M m1 m2:Nat} {ns:List Int} {ρ:ck} {K B:KK} {σ σ' σ'':St} {S T:List Str} {res:ER (List Str)} {R:cR V} {v1 v2:V} {f1 f2:EM Str}
theorem xr{a b:Ag}:eg pO [a,b]=EM.bind a.2.2 fun v=>EM.bind (one b.2.2) fun vs=>EM.pure (v::vs):=by
 refine (?_:EM.bind a.2.2 (fun v=>EM.bind (EM.bind b.2.2 fun u=>EM.bind (EM.pure []) fun vs=>EM.pure (u::vs)) fun vs=>EM.pure (v::vs))=_)
 rfl
theorem B8(h0:s0.rows=[])(hd:s2.rows.length≤4000)(M1:cU c s0 s1 m1 qI (fun z9=>one f1) 1)(M2:cU c s1 s2 m2 qI (fun z9=>one f2) 1)(hl:s0.l1=[]):VF d c s2 0 [] s2.l1 (eg pO [(v1,m1,f1),(v2,m2,f2)] []):=by
 refine ob_1_3 (j6 M1 M2) fun code hcl A X=>?_
 have hr:s2.rows=code:=by simp only [A.rows,h0,List.nil_append]
 have hl2:s2.l1=[]:=by simp only [A.same.2.2.1,hl]
 have hat:At s2 0 code:=fun i r e=>by simp only [Nat.zero_add,hr];exact e
 simp only [hl2,xr]
 have:=X [] rfl
 simp only [h0] at this
 refine this s2 d hat hd A.same.2.1 [] [] _ ?_
 show jU (EM.bind f1 (fun v=>EM.bind (one f2) fun vs=>EM.pure (v::vs)) []) _ _
 cases e:EM.bind f1 (fun v=>EM.bind (one f2) fun vs=>EM.pure (v::vs)) [] with
 | ok S l=>exact El (by simp only [hr];exact Nat.zero_add _)
 | ex c x l=>exact rfl
theorem zX{ma mb:Nat}(Ma:d_ h v1 ma)(hp1:plain v1=true)(Mb:d_ h v2 mb)(hp2:plain v2=true)(hm:ma+mb≤3000){ρ0:List (Option V)}(hsrc:ev (au PL 5000 (h+1)) ρ (.loc 4) σ=bv (.lst [v1,v2]) σ)(hel:∀ v σ,plain v=true→ev (au PL 5000 (h+1)) (ρ++[some v]) (.call 55 [.loc 10]) σ=au PL 5000 (h+1) 55 [v] σ):ev (au PL 5000 (h+1)) ρ (.sum (.comp (.call 55 [.loc 10]) (.loc 4) (.bool true))) σ=bv (.int (ma+mb:Nat)) σ:=by
 have:=zd (C:=au PL 5000 (h+1)) (ρ:=ρ) (σ:=σ) (σ':=σ) (e:=.comp (.call 55 [.loc 10]) (.loc 4) (.bool true)) (l:=[ma,mb]) (by
  rw [nz (v:=.lst [v1,v2]) (vs:=[v1,v2]) hsrc rfl rfl rfl]
  refine (?_:(((ev _ _ _ σ).bind fun x σ=>((ev _ _ _ σ).bind fun x σ=>(bv [] σ).bind fun xs σ=>bv (x::xs) σ).bind fun xs σ=>bv (x::xs) σ)).bind _=_)
  simp only [hel _ _ hp1,Ma (h+1) (Nat.le_succ h),aD,hel _ _ hp2,Mb (h+1) (Nat.le_succ h)]
  rfl) (fun n hn=>by
  simp only [List.mem_cons,List.not_mem_nil,or_false] at hn
  rcases hn with rfl | rfl<;>lia) (Nat.le_of_ble_eq_true rfl)
 simpa only [List.sum_cons,List.sum_nil,Nat.add_zero] using this
theorem rN{x y:Ag}(h1:Fg (cX 100) x.2.1 x.2.2)(h2:Fg (cX 100) y.2.1 y.2.2):Fg (fun vs=>∀ v∈vs,cX 100 v) (x.2.1+y.2.1) (eg pO [x,y]):=by
 have:=fp (P:=cX 100) (ms:=fun a:Ag=>a.2.1) (f:=pO) (as:=[x,y]) fun a ha=>by
  simp only [List.mem_cons,List.not_mem_nil,or_false] at ha
  rcases ha with rfl | rfl
  ·exact h1
  ·exact h2
 exact this.mono (by simp only [List.map_cons,List.map_nil,List.sum_cons,List.sum_nil];lia) fun vs h=>h.2
theorem mU{st:St}{n:Nat}{a b:V}{x y:PyData}(h1:mW st n a=some x)(h2:mW st n b=some y):mW st (n+1) (.tup [a,b])=some (.tuple [x,y]):=by
 refine (?_:(((mW st n a).bind fun d=>((mW st n b).bind fun d=>some [d]).map (d::·)).map PyData.tuple).or none=_)
 rw [h1,h2];rfl
theorem oo{st:St}{n:Nat}{v:V}{l:List V}{ds:List PyData}(h0:(gU v).or ((qP v).bind (fO st))=some l)(h1:rS v=none)(h2:gg v=none)(q:jG (mW st n) l=some ds):mW st (n+1) v=some (.list ds):=by
 refine (?_:(rS v).or (((gg v).bind _).or (((gU v).or ((qP v).bind (fO st))).bind fun l=>(jG (mW st n) l).map .list))=_)
 rw [h1,h2,h0]
 exact congrArg (Option.map _) q
theorem zY{st:St}{r:ER (List Str)}{mm:Nat}{f:EM (List Str)}(hr:f []=r)(fg:Fg (fun vs=>∀ v∈vs,cX 100 v) mm f)(h11:∀ A l,r=.ok A l→st[11]?=some (.list (cT A))):dG st .ne (zR (fun z9=>.ref 11) r) (zR (fun S=>.lst (cT S)) r)=some false:=by
 have F:=fg []
 cases r with
 | ok A l=>
  rw [hr] at F
  obtain ⟨q1,q2⟩:=qO (σ:=st) (n:=6) (fun x hx=>(F.1 x hx).2)
  refine rM (D:=.tuple [.int 0,.list (dS A)]) ?_ ?_ ?_ rfl
  ·exact mU rfl (oo (gD (h11 A l rfl)) rfl rfl q1)
  ·exact mU rfl (oo rfl rfl rfl q1)
  ·show (true&&(PyData.canLayAll0 (dS A)&&true))=true
   rw [q2];rfl
 | ex c x l=>
  simp only [hr] at F
  have hx:mW st 7 (.str x)=some (.str x):=wc F.1
  refine rM (D:=.tuple [.int c,.str x]) ?_ ?_ ?_ rfl
  ·exact mU rfl hx
  ·exact mU rfl hx
  ·show (true&&(PyData.strOk x&&true))=true
   rw [F.1];rfl
theorem zZ{st:St}{lg:fS}(h2:st[2]?=some (.list (lM lg)))(h3:st[3]?=some (.list (lM lg)))(hl:∀ ws∈lg,∀ x∈ws,PyData.strOk x=true):dG st .ne (.ref 2) (.ref 3)=some false:=by
 refine bC (zW (σ:=st) (n:=6) hl) fun q1 q2=>?_
 refine rM (D:=.list (dL lg)) ?_ ?_ q2 rfl
 ·exact oo (gD h2) rfl rfl q1
 ·exact oo (gD h3) rfl rfl q1
theorem EE{mm:Nat}{α:Type}{P:α→Prop}{f:EM α}(fg:Fg P mm f):∀ ws∈j8 (f []),∀ x∈ws,PyData.strOk x=true:=by
 have F:=fg []
 cases e:f [] with
 | ok A l=>
  simp only [e] at F
  refine ob_1_3 F.2 fun t ht z9 h=>?_
  simp only [List.nil_append] at ht
  refine (?_:∀ ws∈l,_)
  rw [ht];exact h
 | ex c x l=>
  simp only [e] at F
  refine ob_1_3 F.2 fun t ht z9 h=>?_
  simp only [List.nil_append] at ht
  refine (?_:∀ ws∈l,_)
  rw [ht];exact h
end
end
end Mine.Internal.Q
end
section
open PySem
namespace Mine.Internal.Q
noncomputable section
section
variable {C:CF} {w d k p h h':Nat} {v a b:V} {s s' s0 s1 s2:SS} {bk:List (Str×V)} {c:Int} {l l':fS} {m n M m1 m2:Nat} {ns:List Int} {ρ:ck} {K B:KK} {σ σ' σ'':St}
theorem J4:PL 61=some Ea:=by kernel_rfl
theorem J5{a:V}:cS Ea [a]=some [some a,none,none,none,none,none,none,none,none,none]:=rfl
theorem Gl{ks:List Str}{es:List PE}{vs:List V}(h0:(j_ ks&&decide (ks.length=es.length)&&decide (ks.length≤15))=true)(h1:lJ C ρ es (σ++[.dict []])=bv vs σ')(h2:σ'[σ.length]?=some (.dict [])):ev C ρ (.dct ks es) σ=bv (.dct σ.length) (σ'.set σ.length (.dict (ks.zip vs))):=by
 refine (?_:(if (j_ ks&&decide (ks.length=es.length)&&decide (ks.length≤15))=true then (lJ C ρ es (σ++[.dict []])).bind _ else none)=_)
 rw [h0,h1]
 refine (?_:(kP σ' σ.length).bind _=_)
 rw [ot h2];rfl
noncomputable def fu(a b:Str):List (Str×V):=[("x",.str a),("y",.str b),("a(1)",.str "0")]
theorem Gm{a b:Str}(ha:cX 5 a)(hb:cX 5 b):dF (fu a b):=⟨fun x v e=>by
 unfold fu at e
 unfold look at e
 split at e
 ·obtain rfl:=Option.some.inj e;exact ⟨a,rfl,ha⟩
 ·unfold look at e
  split at e
  ·obtain rfl:=Option.some.inj e;exact ⟨b,rfl,hb⟩
  ·unfold look at e
   split at e
   ·obtain rfl:=Option.some.inj e;exact ⟨"0",rfl,fo (by decide +kernel)⟩
   ·exact cq e⟩
noncomputable def S0(n:Nat)(bk:List (Str×V))(sl:Bool):SS:=⟨n,bk,[],[],sl,[],[],[],0,[]⟩
theorem xt{n:Nat}{bk:List (Str×V)}{sl:Bool}{L v1 x4 x5 x6 x7:V}:ev (au PL 5000 59) [some L,some (.ref 0),some (.bool sl),some v1,some x4,some x5,some x6,some x7,none,none] (.newInst 100 [.none,.dct [] [],.loc 2]) (fT n [.dict bk,.list [],.list []])=bv (.inst 5) (S0 n bk sl).st:=by kernel_rfl
theorem Gq{t:Str}(h:t∈(["1","0","no","x","yes","2",""]:List Str)):cX 5 t:=by
 simp only [List.mem_cons,List.not_mem_nil,or_false] at h
 rcases h with rfl | rfl | rfl | rfl | rfl | rfl | rfl<;>exact fo (by decide +kernel)
theorem xu(hn:ns.length≤63):∃ (n:Nat) (sl:Bool) (v1 v2:V) (a b:Str) (c:Int),GT 56 640 v1∧GT 56 640 v2∧cX 5 a∧cX 5 b∧
  au PL 5000 60 61 [.lst (ns.map .int)] []=fk (au PL 5000 59) 5000 (Ea.body.drop 11) K0 B0 [some (.lst (ns.map .int)),some (.ref 0),some (.bool sl),some v1,some (.lst [v1,v2]),some (.dct 1),some (.int c),some (.lst [WV 2 c,WV 3 c]),some (.inst 5),none] (S0 n (fu a b) sl).st:=by
 obtain ⟨n1,_,hn1,e1,r1,hr1,rfl⟩:=co (d:=58) (ns:=ns) (M:=2) (by decide) 0 [] (by decide)
 refine ob_2_3 (qM (ns:=ns) 3 (by decide) 53 n1 [] (by have:TD 3=107:=rfl;lia)) fun n2 t hn2 e2 G2=>?_
 have hT:TD 3=107:=rfl
 refine ob_2_3 (uU (d:=54) (ns:=ns) (v:=t) (G2.mono (by decide) (by decide)) n2 [] (by lia)) fun n3 v1 hn3 e3 G3=>?_
 refine ob_2_3 (uV (d:=56) (ns:=ns) n3 [] (by lia)) fun n4 v2 hn4 e4 G4=>?_
 obtain ⟨n5,_,hn5,e5,r5,hr5,rfl⟩:=co (d:=58) (ns:=ns) (M:=4) (by decide) n4 [.dict []] (by lia)
 refine ob_1_2 (rK (σ:=fT n5 [.dict []]) (ts:=["1","0","no","x"]) (r:=r5) hr5 (by decide)) fun a ha p5=>?_
 obtain ⟨n6,_,hn6,e6,r6,hr6,rfl⟩:=co (d:=58) (ns:=ns) (M:=3) (by decide) n5 [.dict []] (by lia)
 refine ob_1_2 (rK (σ:=fT n6 [.dict []]) (ts:=["yes","2",""]) (r:=r6) hr6 (by decide)) fun b hb p6=>?_
 obtain ⟨n7,_,hn7,e7,r7,hr7,rfl⟩:=co (d:=58) (ns:=ns) (M:=5) (by decide) n6 [.dict (fu a b)] (by lia)
 have pc:∃ c:Int,eA (fT n7 [.dict (fu a b)]) (.lst [.int 1,.int 3,.int 4,.int 2,.int 5]) (.int r7)=some (.int c):=by
  clear e7
  revert hr7
  revert r7
  refine lD ?_ (lD ?_ (lD ?_ (lD ?_ (lD ?_ (CH)))))
  ·exact ⟨_,rfl⟩
  ·exact ⟨_,rfl⟩
  ·exact ⟨_,rfl⟩
  ·exact ⟨_,rfl⟩
  ·exact ⟨_,rfl⟩
 obtain ⟨c,pc⟩:=pc
 have ha5:cX 5 a:=Gq (by simp only [List.mem_cons,List.not_mem_nil,or_false] at ha ⊢;rcases ha with rfl | rfl | rfl | rfl<;>simp)
 have hb5:cX 5 b:=Gq (by simp only [List.mem_cons,List.not_mem_nil,or_false] at hb ⊢;rcases hb with rfl | rfl | rfl<;>simp)
 refine (ib_7_5 n7 (decide ((r1:Int)=1)) v1 v2 a b c G3 G4 ha5 hb5 ?_)
 have hp1:=G3.pl
 have hpt:=G2.pl
 have p5':eA (fT n5 [.dict []]) (.lst [.str "1",.str "0",.str "no",.str "x"]) (.int r5)=some (.str a):=p5
 have p6':eA (fT n6 [.dict []]) (.lst [.str "yes",.str "2",.str ""]) (.int r6)=some (.str b):=p6
 have hs:rT (.lst (ns.map .int)) .none (.int 63)=some (.lst (ns.map .int)):=by
  refine (?_:some (V.lst ((ns.map V.int).take 63))=_)
  rw [List.take_of_length_le (by rw [List.length_map];exact hn)]
 have h1:ev (au PL 5000 59) [some (.lst (ns.map .int)),some (.ref 0),none,none,none,none,none,none,none,none] (.cmp .eq (.call 39 [.loc 0,.loc 1,.int 2]) (.int 1)) (fT 0 [])=bv (.bool (decide ((r1:Int)=1))) (fT n1 []):=by
  simp only [aL,ai,q_cons,q_nil,aV ak,aW aj,aF,aD,show (2:Int)=((2:Nat):Int) from rfl,e1,cW,bf,aX]
 have h2:∀ x2,ev (au PL 5000 59) [some (.lst (ns.map .int)),some (.ref 0),x2,none,none,none,none,none,none,none] (.call 43 [.loc 0,.loc 1,.int 3]) (fT n1 [])=bv t (fT n2 []):=fun x2=>by
  exact e2
 have h3:∀ x2,ev (au PL 5000 59) [some (.lst (ns.map .int)),some (.ref 0),x2,some t,none,none,none,none,none,none] (.call 44 [.loc 0,.loc 1,.loc 3]) (fT n2 [])=bv v1 (fT n3 []):=fun x2=>by
  simp only [ai,q_cons,q_nil,aV ak,aW aj,ba hpt,aD]
  exact e3
 have h4:∀ x2,ev (au PL 5000 59) [some (.lst (ns.map .int)),some (.ref 0),x2,some v1,none,none,none,none,none,none] (.lst [.loc 3,.call 45 [.loc 0,.loc 1]]) (fT n3 [])=bv (.lst [v1,v2]) (fT n4 []):=fun x2=>by
  simp only [aM,ai,q_cons,q_nil,aV ak,aW aj,ba hp1,aD,show au PL 5000 59 45=au PL 5000 (56+3) 45 from rfl,e4]
 have h5:∀ x2 x3 x4,ev (au PL 5000 59) [some (.lst (ns.map .int)),some (.ref 0),x2,x3,x4,none,none,none,none,none] (.dct ["x","y"] [.sub (.lst [.str "1",.str "0",.str "no",.str "x"]) (.call 39 [.loc 0,.loc 1,.int 4]),.sub (.lst [.str "yes",.str "2",.str ""]) (.call 39 [.loc 0,.loc 1,.int 3])]) (fT n4 [])=bv (.dct 1) (fT n6 [.dict [("x",.str a),("y",.str b)]]):=fun x2 x3 x4=>by
  refine (Gl (σ':=fT n6 [.dict []]) (vs:=[.str a,.str b]) (by kernel_rfl) ?_ rfl).trans rfl
  refine (?_:lJ _ _ _ (fT n4 [.dict []])=_)
  simp only [aH,aM,aJ,ai,q_cons,q_nil,aV ak,aW aj,aF,aD,show (4:Int)=((4:Nat):Int) from rfl,show (3:Int)=((3:Nat):Int) from rfl,e5,p5',aX,e6,p6']
 have h6:∀ x2 x3 x4,ex (au PL 5000 59) 5000 (.setI (.loc 5) (.str "a(1)") (.str "0")) [some (.lst (ns.map .int)),some (.ref 0),x2,x3,x4,some (.dct 1),none,none,none,none] (fT n6 [.dict [("x",.str a),("y",.str b)]])=some (.next [some (.lst (ns.map .int)),some (.ref 0),x2,x3,x4,some (.dct 1),none,none,none,none] (fT n6 [.dict (fu a b)])):=fun x2 x3 x4=>by kernel_rfl
 have h7:∀ x2 x3 x4,ev (au PL 5000 59) [some (.lst (ns.map .int)),some (.ref 0),x2,x3,x4,some (.dct 1),none,none,none,none] (.sub (.lst [.int 1,.int 3,.int 4,.int 2,.int 5]) (.call 39 [.loc 0,.loc 1,.int 5])) (fT n6 [.dict (fu a b)])=bv (.int c) (fT n7 [.dict (fu a b)]):=fun x2 x3 x4=>by
  have e7':au PL 5000 59 39 [.lst (ns.map .int),.ref 0,.int 5] (fT n6 [.dict (fu a b)])=bv (.int r7) (fT n7 [.dict (fu a b)]):=e7
  simp only [aH,aM,ai,q_cons,q_nil,aV ak,aW aj,aF,aD,e7',pc,aX]
 have h8:∀ x2 x3 x4,ev (au PL 5000 59) [some (.lst (ns.map .int)),some (.ref 0),x2,x3,x4,some (.dct 1),some (.int c),none,none,none] (.lst [.tup [.loc 5,.cel [],.loc 6],.tup [.loc 5,.cel [],.loc 6]]) (fT n7 [.dict (fu a b)])=bv (.lst [WV 2 c,WV 3 c]) (fT n7 [.dict (fu a b),.list [],.list []]):=fun x2 x3 x4=>rfl
 simp only [bo J4 J5,Ea]
 simp only [List.drop]
 rw [aE,aQ,aV ak,aD,aw,aD,aF,aD,hs,aX,aD,bR,aE,Ce,q_cons,aF,aD,q_nil,aD,aD,aD,bN]
 refine (?_:fk _ _ _ _ _ [some (.lst (ns.map .int)),some (.ref 0),none,none,none,none,none,none,none,none] (fT 0 [])=_)
 simp only [aE,h1,aD,bF,aE,h2,aD,bG,aE,h3,aD,bG,aE,h4,aD,bI,aE,h5,aD,bO,nu (h6 _ _ _),aE,h7,aD,bS,aE,h8,aD,bT,aE,xt,aD,bU]
end
end
end Mine.Internal.Q
end
section
open PySem
namespace Mine.Internal.Q
noncomputable section
noncomputable def Gr:List PS:=[.expr (.call 5 [.loc 8,.sub (.loc 4) (.loc 9)]),.ifs (.cmp .ne (.attr (.loc 8) "depth") (.bin .add (.loc 9) (.int 1))) [.ret (.bool false)] []]
section
variable {C:CF} {w d k p h h':Nat} {v a b:V} {s s' s0 s1 s2:SS} {bk:List (Str×V)} {c:Int} {l l':fS} {m n M m1 m2:Nat} {ns:List Int} {ρ:ck} {K B:KK} {σ σ' σ'':St}
theorem ne_int{x y:Int}:dG σ .ne (.int x) (.int y)=some (!decide (x=y)):=rfl
theorem wd{a b:PE}(h:ev C ρ a σ=bv (.bool true) σ):ev C ρ (.and a b) σ=ev C ρ b σ:=by
 refine (?_:(ev C ρ a σ).bind _=_)
 rw [h];rfl
theorem Im:gh s.st (.inst 5) "ranges"=some (.ref 7):=by kernel_rfl
theorem Io:gh s.st (.inst 5) "loops"=some (.ref 10):=by kernel_rfl
theorem Gs:dG s.st .eq (.ref 7) (.lst [])=some true:=by kernel_rfl
theorem Gu:dG s.st .eq (.ref 10) (.lst [])=some true:=by kernel_rfl
theorem B9{sl:Bool}{v1 v2 L:V}{x y:Str}(G1:GT 56 640 v1)(G2:GT 56 640 v2)(hx:cX 5 x)(hy:cX 5 y) :
  ∃ σ,fk (au PL 5000 59) 5000 (Ea.body.drop 11) K0 B0 [some L,some (.ref 0),some (.bool sl),some v1,some (.lst [v1,v2]),some (.dct 1),some (.int c),some (.lst [WV 2 c,WV 3 c]),some (.inst 5),none] (S0 n (fu x y) sl).st=bv (.bool true) σ:=by
 have Bk:=Gm hx hy
 refine ob_2_2 (G1 c _ Bk) fun m1 f1 hm1 g1=>?_
 refine ob_2_2 (G2 c _ Bk) fun m2 f2 hm2 g2=>?_
 have F0:gi (m1+m2) (S0 n (fu x y) sl):=⟨by show 0+_≤_;lia,by show 0+_≤_;lia,by show -20000+_≤0;lia,Nat.le_refl _,Nat.le_refl _⟩
 refine ob_1_2 (g1.comp.call g1.pl 59 (by decide) _ rfl (F0.mono (Nat.le_add_right ..))) fun s1 e1 M1=>?_
 refine ob_1_2 (g2.comp.call g2.pl 59 (by decide) s1 M1.book (M1.fit F0)) fun s2 e2 M2=>?_
 have F2:gi 0 s2:=M2.fit (k:=0) (M1.fit F0)
 have hz:s2.rows.length≤4000:=F2.a
 have hN:s2.names.length≤4000:=by have:=F2.e;lia
 have hlen:s2.rows.length=m1+m2:=by simp only [M2.rows,M1.rows];show 0+m1+m2=_;lia
 have hd1:s1.dep=1:=M1.dep
 have hd2:s2.dep=2:=by rw [M2.dep,hd1];rfl
 have VV:=B8 (v1:=v1) (v2:=v2) (d:=54) rfl hz M1 M2 rfl
 refine ob_1_3 (j6 M1 M2) fun code hcl A z9=>?_
 refine tD A.same fun a1 a2 a3 a4 a5 a6=>?_
 have hsl:s2.sl=sl:=a5
 have hnd:s2.names.Nodup:=A.nd .nil
 have hso:∀ r∈s2.rows,gy s2.sl s2.names r:=fun r hr=>A.slots r (by rw [A.rows] at hr;exact hr)
 refine ob_1_2 (zT (d:=54) (t:=.lst [v1,v2]) a6 hz (by rw [a3];exact Nat.zero_le _) VV) fun S eo hS=>?_
 have Fl:=rN (x:=(v1,m1,f1)) (y:=(v2,m2,f2)) g1.fg g2.fg
 have W3:Wd 3 (fu x y) [] (vs s2 S (j8 (eg pO [(v1,m1,f1),(v2,m2,f2)] []))).st:=⟨by
  refine (?_:some (kO.list (lM s2.l2))=_)
  rw [a4];rfl,by
  refine (?_:some (kO.dict s2.bk)=_)
  rw [a2];rfl,by decide⟩
 have et:=xn (d:=57) (k:=3) (c:=c) (as:=[(v1,m1,f1),(v2,m2,f2)]) (l:=[]) (fun a ha=>by
  simp only [List.mem_cons,List.not_mem_nil,or_false] at ha
  rcases ha with rfl | rfl
  ·exact ⟨(g1.mono (h':=58) (by decide)).val 3,g1.fg,g1.pl⟩
  ·exact ⟨(g2.mono (h':=58) (by decide)).val 3,g2.fg,g2.pl⟩) W3 (by simp only [List.map_cons,List.map_nil,List.sum_cons,List.sum_nil,List.length_nil];lia)
 generalize hres:eg pO [(v1,m1,f1),(v2,m2,f2)] []=res at *
 have hst:lg 3 (vs s2 S (j8 res)).st (j8 res)=({ s2 with l1:=j8 res,l2:=j8 res,stk:=[.list (cT S)] }:SS).st:=rfl
 simp only [hst] at et
 generalize hs3:({ s2 with l1:=j8 res,l2:=j8 res,stk:=[.list (cT S)] }:SS)=s3 at et
 have q11:s3.st[11]?=some (.list (cT S)):=by rw [← hs3];rfl
 have q2:s3.st[2]?=some (.list (lM (j8 res))):=by rw [← hs3];rfl
 have q3:s3.st[3]?=some (.list (lM (j8 res))):=by rw [← hs3];rfl
 have c1:=zY (st:=s3.st) hres Fl (fun A l e=>by rw [q11,hS A l e])
 have c2:=zZ q2 q3 (hres▸EE Fl)
 have hr3:s3.rows.length=m1+m2:=by rw [← hs3];exact hlen
 have c3:=rL (d:=58) (s:=s3) (by rw [← hs3];exact hN) (by rw [← hs3];exact hnd) (by rw [← hs3];exact hso)
 rw [show s3.sl=sl by rw [← hs3];exact hsl] at c3
 refine ⟨s3.st,?_⟩
 simp only [Ea]
 simp only [List.drop]
 have et':au PL 5000 59 59 [WV 3 c,.none,.lst [v1,v2]] (vs s2 S (j8 res)).st=bv (zR (fun S=>.lst (cT S)) res) s3.st:=et
 have hsum:ev (au PL 5000 59) [some L,some (.ref 0),some (.bool sl),some v1,some (.lst [v1,v2]),some (.dct 1),some (.int c),some (.lst [WV 2 c,WV 3 c]),some (.inst 5),some (.int ((1:Nat):Int))] (.sum (.comp (.call 55 [.loc 10]) (.loc 4) (.bool true))) s3.st=bv (.int (m1+m2:Nat)) s3.st:=
  zX (h:=58) (ρ0:=[]) (g1.mono (h':=58) (by decide)).many g1.pl (g2.mono (h':=58) (by decide)).many g2.pl (by lia) (a_ ak) fun v σ hp=>by
   refine (?_:ev _ [_,_,_,_,_,_,_,_,_,_,_] _ _=_)
   simp only [ai,q_cons,q_nil,aR hp,aD]
 rw [uA (k:=2) (σ':=(S0 n (fu x y) sl).st) aF (by decide)]
 refine (?_:FL (au PL 5000 59) 5000 9 Gr [.int ((0:Nat):Int),.int ((1:Nat):Int)] _ _ _ _=_)
 have sA:∀ σ,eA σ (.lst [v1,v2]) (.int ((0:Nat):Int))=some v1:=fun z9=>rfl
 have sB:∀ σ,eA σ (.lst [v1,v2]) (.int ((1:Nat):Int))=some v2:=fun z9=>rfl
 have body0:∀ K B,fk (au PL 5000 59) 5000 Gr K B [some L,some (.ref 0),some (.bool sl),some v1,some (.lst [v1,v2]),some (.dct 1),some (.int c),some (.lst [WV 2 c,WV 3 c]),some (.inst 5),some (.int ((0:Nat):Int))] (S0 n (fu x y) sl).st=K [some L,some (.ref 0),some (.bool sl),some v1,some (.lst [v1,v2]),some (.dct 1),some (.int c),some (.lst [WV 2 c,WV 3 c]),some (.inst 5),some (.int ((0:Nat):Int))] s1.st:=by
  intro K B
  simp only [Gr]
  simp only [av,aI,aG,ai,q_cons,q_nil,aH,bg ad,a_ ak,bi al,aF,aq,aP,an,aD,aX,sA,e1,ry,hd1,show gJ .add (.int ((0:Nat):Int)) (.int 1)=some (.int 1) from rfl,ne_int,eq_self,decide_true,Bool.not_true,aZ]
 have body1:∀ K B,fk (au PL 5000 59) 5000 Gr K B [some L,some (.ref 0),some (.bool sl),some v1,some (.lst [v1,v2]),some (.dct 1),some (.int c),some (.lst [WV 2 c,WV 3 c]),some (.inst 5),some (.int ((1:Nat):Int))] s1.st=K [some L,some (.ref 0),some (.bool sl),some v1,some (.lst [v1,v2]),some (.dct 1),some (.int c),some (.lst [WV 2 c,WV 3 c]),some (.inst 5),some (.int ((1:Nat):Int))] s2.st:=by
  intro K B
  simp only [Gr]
  simp only [av,aI,aG,ai,q_cons,q_nil,aH,bg ad,a_ ak,bi al,aF,aq,aP,an,aD,aX,sB,e2,ry,hd2,show gJ .add (.int ((1:Nat):Int)) (.int 1)=some (.int 2) from rfl,ne_int,eq_self,decide_true,Bool.not_true,aZ]
 simp only [gC,bP,body0,gC,bP,body1,rx]
 have w0:∀ σ,eA σ (.lst [WV 2 c,WV 3 c]) (.int 0)=some (WV 2 c):=fun z9=>rfl
 have w1:∀ σ,eA σ (.lst [WV 2 c,WV 3 c]) (.int 1)=some (WV 3 c):=fun z9=>rfl
 have u2:∀ σ,eA σ (WV 2 c) (.int 1)=some (.ref 2):=fun z9=>rfl
 have u3:∀ σ,eA σ (WV 3 c) (.int 1)=some (.ref 3):=fun z9=>rfl
 simp only [aI,aG,an,bn,ai,q_cons,q_nil,aH,aY ae,bl ak,a_ ak,bg ad,aF,aw,aq,aO,aD,aX,bf,w0,w1,u2,u3,pY,eo,et',c1,c2,aZ,qx,hr3,hsum,ne_int,eq_self,decide_true,Bool.not_true,aK]
 have r1:ev (au PL 5000 59) [some L,some (.ref 0),some (.bool sl),some v1,some (.lst [v1,v2]),some (.dct 1),some (.int c),some (.lst [WV 2 c,WV 3 c]),some (.inst 5),some (.int ((1:Nat):Int))] (.cmp .eq (.attr (.loc 8) "ranges") (.lst [])) s3.st=bv (.bool true) s3.st:=by
  simp only [aL,aq,bg ad,aD,Im,aX,aM,q_nil,Gs,bf]
 have r2:ev (au PL 5000 59) [some L,some (.ref 0),some (.bool sl),some v1,some (.lst [v1,v2]),some (.dct 1),some (.int c),some (.lst [WV 2 c,WV 3 c]),some (.inst 5),some (.int ((1:Nat):Int))] (.cmp .eq (.attr (.loc 8) "loops") (.lst [])) s3.st=bv (.bool true) s3.st:=by
  simp only [aL,aq,bg ad,aD,Io,aX,aM,q_nil,Gu,bf]
 simp only [wd r1,wd r2,ai,q_cons,bg ad,aD,q_cons,aY ae,aD,q_nil,aD,aD,aD,c3]
theorem lawMP:∀ ns:List Int,ns.length≤63→∃ σ,au PL 5000 60 61 [.lst (ns.map .int)] []=some (.ok (.bool true) σ):=by
 intro ns hn
 refine ob_7_5 (xu hn) fun n sl v1 v2 a b c G1 G2 ha hb e=>?_
 obtain ⟨σ,e2⟩:=B9 (n:=n) (sl:=sl) (c:=c) (L:=.lst (ns.map .int)) G1 G2 ha hb
 exact ⟨σ,e.trans e2⟩
end
end
end Mine.Internal.Q
end
section
open PySem PySem.W PyProof.Rows
namespace Mine.Internal
theorem law_all:vK:=by
 unfold vK
 intro ns hn
 have e:oA pw.main.body=Q.PL:=Q.PL_eq
 rw [e]
 exact Q.lawMP ns hn
end Mine.Internal
end
theorem PySem.Challenge.cw_oj0066_01_holds : PySem.Challenge.rw_oj0066_01.Holds :=
  Mine.Internal.holds_of Mine.Internal.law_all
