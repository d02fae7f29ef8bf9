import PyProof.Rows.All
import Wide.All
import OpenK.AllK
import Wide.FinOn
import Lean
import PySem.Challenge.RW_no0197_01
open PySem PySem.W PyProof.Rows PySem.Calls
set_option Elab.async false
set_option maxRecDepth 100000
set_option maxHeartbeats 8000000
set_option linter.all false
set_option genSizeOf false
set_option genInjectivity false
set_option tactic.hygienic false
set_option compiler.extract_closed false
set_option bootstrap.genMatcherCode false
set_option genCtorIdx false
set_option backward.match.sparseCases false
namespace Mine.hold
local macro_rules
  | `(command| lay_the_boot) => do
    let t ← `(theorem a : True := ⟨⟩)
    let o (s : String) (i : Nat) : Lean.Name := .str `Mine.hold (s ++ i.repr)
    let l := (List.range 1223).filter (Nat.testBit 0x7dfbf51f7bf7bf7bdef7ef7efd407dfbf7efdfbf7efdfbf7bcfff7efdfbf7efdfbf7efdfbf7efdfbf7efdfbf7bd1f7efdfbf7ea3efdfbf7efdfbf7efdfbf7ea3f7efdfbf7efdfbf7ea3efdfbf7ffdfbbd1ffbf7efdfddf407bf7efdfbf7efdfbf7ef79ffefdfbf7efdfbf7efdfbf7efdfbf7efdfbde8c7dfbf7efdfbf7efdfbf51ffefdfbf7efdfbf7efdfbbd1f7effef7d1ffbbe8ff7fd60d)
    let l := l.map (fun i => o "o_1_" (i + 44)) ++ [52, 78, 103, 143, 239, 321, 326, 569, 623, 684, 760, 856, 903, 1161, 1243].map (o "sts_1_") ++ [`PySem.Challenge.pw_no0197_01, o "heap_1_" 39, o "view_1_" 40, o "env_1_" 42]
    let u := t.raw
    return Lean.mkNullNode (l.map fun n => u.setArg 1 (u[1].setArg 1 (u[1][1].setArg 0 (Lean.mkIdent (.mkSimple ("tw" ++ n.hash.toNat.repr)))))).toArray
lay_the_boot
end Mine.hold
namespace Mine
noncomputable section
theorem aD{n m:Nat}(h:Nat.ble n m=true):n≤m:=Nat.le_of_ble_eq_true h
@[elab_as_elim] theorem ae{α:Sort _}{a b:α}{P:α→Prop}(h:a=b)(q:P b):P a:=h▸q
@[elab_as_elim] theorem aU{α:Sort _}{a b:α}{P:α→Prop}(h:b=a)(q:P b):P a:=h▸q
theorem aJ{α:Type}{a:α}{P:Prop}(h:none=some a):P:=by cases h
theorem pH{α:Sort _}{b:Bool}{x y z:α}{P:Prop}(h:(bif b then x else y)=z)(t:b=true→x=z→P)(f:b=false→y=z→P):P:=by cases b with|true=>exact t rfl h|false=>exact f rfl h
@[elab_as_elim] theorem eU{α β:Type _}{f:α→β}{l:List α}{y:β}{P:β→Prop}(h:y∈l.map f)(k:∀x,x∈l→P (f x)):P y:=(List.mem_map.mp h).elim λx h=>h.2▸k x h.1
@[elab_as_elim] theorem eW{α β:Type _}{f:α→β}{o:Option α}{y:β}{P:β→Prop}(h:o.map f=some y)(k:∀x,o=some x→P (f x)):P y:=(Option.map_eq_some_iff.mp h).elim λx h=>h.2▸k x h.1
@[elab_as_elim] theorem yH{P:Int→Prop}{d:Int}(h:0≤d)(h':d<4)(a:P 0)(b:P 1)(c:P 2)(e:P 3):P d:=by
 obtain ⟨n,rfl⟩:=Int.eq_ofNat_of_zero_le h
 have h':n<4:=Int.ofNat_lt.mp h'
 match n,h' with
 | 0,_=>exact a
 | 1,_=>exact b
 | 2,_=>exact c
 | 3,_=>exact e
@[elab_as_elim] theorem DX{P:Int→Prop}{d:Int}(h:0≤d)(h':d<2)(a:P 0)(b:P 1):P d:=by
 obtain ⟨n,rfl⟩:=Int.eq_ofNat_of_zero_le h
 have h':n<2:=Int.ofNat_lt.mp h'
 match n,h' with
 | 0,_=>exact a
 | 1,_=>exact b
theorem DY{d:Int}(h:0≤d)(h':d<9):d=0∨d=1∨d=2∨d=3∨d=4∨d=5∨d=6∨d=7∨d=8:=by
 obtain ⟨n,rfl⟩:=Int.eq_ofNat_of_zero_le h
 exact(by decide:∀n:Nat,n<9→((n:Int)=0∨(n:Int)=1∨(n:Int)=2∨(n:Int)=3∨(n:Int)=4∨(n:Int)=5∨(n:Int)=6∨(n:Int)=7∨(n:Int)=8)) n (Int.ofNat_lt.mp h')
theorem kY{α:Type}{a:α}{P:Prop}(h:some a=none):P:=by cases h
theorem dG{P:Prop}(h:true=false):P:=by cases h
theorem cj{P:Prop}(h:false=true):P:=by cases h
theorem dx{α:Type}{a:α}{P:Prop}(h:a∈([]:List α)):P:=by cases h
theorem gO{n m i:Nat}(e:m=n)(h:i<n):n- 1- i<m:=Nat.lt_of_lt_of_eq (Nat.lt_of_le_of_lt (Nat.sub_le ..) (Nat.sub_one_lt (Nat.ne_zero_of_lt h))) e.symm
theorem DZ{l:Nat}{i:Nat}(h:i<l):l- 1- i+1=l- i:=(congrArg Nat.succ (Nat.sub_right_comm l 1 i)).trans (Nat.sub_add_cancel (Nat.sub_pos_of_lt h))
theorem rQ{α:Type}{l:List α}{n i:Nat}(e:l.length=n)(h:i<n):l.drop (n- (i+1))=l[n- 1- i]'(gO e h)::l.drop (n- i):=
 (congrArg (List.drop · l) (Nat.sub_right_comm n i 1)).trans ((List.drop_eq_getElem_cons (gO e h)).trans (congrArg (λx=>_::List.drop x l) (DZ h)))
theorem XA{P0:Prop}{P1:Prop}{b:Prop}(h:P0∧P1)(k:P0→P1→b):b:=h.elim λh0 h=>k h0 h
theorem XE{a0:Sort _}{P1:a0→Prop}{b:Prop}(h:∃x0:a0,P1 x0)(k:∀x0:a0,P1 x0→b):b:=h.elim λx0 h=>k x0 h
theorem cq{P0:Prop}{P1:Prop}{P2:Prop}{b:Prop}(h:P0∧P1∧P2)(k:P0→P1→P2→b):b:=h.elim λh0 h=>h.elim λh1 h=>k h0 h1 h
theorem yI{a1:Sort _}{P0:Prop}{P2:a1→Prop}{b:Prop}(h:P0∧∃x1:a1,P2 x1)(k:P0→∀x1:a1,P2 x1→b):b:=h.elim λh0 h=>h.elim λx1 h=>k h0 x1 h
theorem ak{a0:Sort _}{P1:a0→Prop}{P2:a0→Prop}{b:Prop}(h:∃x0:a0,P1 x0∧P2 x0)(k:∀x0:a0,P1 x0→P2 x0→b):b:=h.elim λx0 h=>h.elim λh1 h=>k x0 h1 h
theorem jO{a0:Sort _}{a1:Sort _}{P2:a0→a1→Prop}{b:Prop}(h:∃x0:a0,∃x1:a1,P2 x0 x1)(k:∀x0:a0,∀x1:a1,P2 x0 x1→b):b:=h.elim λx0 h=>h.elim λx1 h=>k x0 x1 h
theorem fZ{P0:Prop}{P1:Prop}{P2:Prop}{P3:Prop}{b:Prop}(h:P0∧P1∧P2∧P3)(k:P0→P1→P2→P3→b):b:=h.elim λh0 h=>h.elim λh1 h=>h.elim λh2 h=>k h0 h1 h2 h
theorem dH{a1:Sort _}{P0:Prop}{P2:a1→Prop}{P3:a1→Prop}{b:Prop}(h:P0∧∃x1:a1,P2 x1∧P3 x1)(k:P0→∀x1:a1,P2 x1→P3 x1→b):b:=h.elim λh0 h=>h.elim λx1 h=>h.elim λh2 h=>k h0 x1 h2 h
theorem bG{a0:Sort _}{P1:a0→Prop}{P2:a0→Prop}{P3:a0→Prop}{b:Prop}(h:∃x0:a0,P1 x0∧P2 x0∧P3 x0)(k:∀x0:a0,P1 x0→P2 x0→P3 x0→b):b:=h.elim λx0 h=>h.elim λh1 h=>h.elim λh2 h=>k x0 h1 h2 h
theorem eE{a0:Sort _}{a1:Sort _}{P2:a0→a1→Prop}{P3:a0→a1→Prop}{b:Prop}(h:∃x0:a0,∃x1:a1,P2 x0 x1∧P3 x0 x1)(k:∀x0:a0,∀x1:a1,P2 x0 x1→P3 x0 x1→b):b:=h.elim λx0 h=>h.elim λx1 h=>h.elim λh2 h=>k x0 x1 h2 h
theorem iw{P0:Prop}{P1:Prop}{P2:Prop}{P3:Prop}{P4:Prop}{b:Prop}(h:P0∧P1∧P2∧P3∧P4)(k:P0→P1→P2→P3→P4→b):b:=h.elim λh0 h=>h.elim λh1 h=>h.elim λh2 h=>h.elim λh3 h=>k h0 h1 h2 h3 h
theorem kZ{a2:Sort _}{P0:Prop}{P1:Prop}{P3:a2→Prop}{P4:a2→Prop}{b:Prop}(h:P0∧P1∧∃x2:a2,P3 x2∧P4 x2)(k:P0→P1→∀x2:a2,P3 x2→P4 x2→b):b:=h.elim λh0 h=>h.elim λh1 h=>h.elim λx2 h=>h.elim λh3 h=>k h0 h1 x2 h3 h
theorem c3{a1:Sort _}{a2:Sort _}{P0:Prop}{P3:a1→a2→Prop}{P4:a1→a2→Prop}{b:Prop}(h:P0∧∃x1:a1,∃x2:a2,P3 x1 x2∧P4 x1 x2)(k:P0→∀x1:a1,∀x2:a2,P3 x1 x2→P4 x1 x2→b):b:=h.elim λh0 h=>h.elim λx1 h=>h.elim λx2 h=>h.elim λh3 h=>k h0 x1 x2 h3 h
theorem nS{a0:Sort _}{P1:a0→Prop}{P2:a0→Prop}{P3:a0→Prop}{P4:a0→Prop}{b:Prop}(h:∃x0:a0,P1 x0∧P2 x0∧P3 x0∧P4 x0)(k:∀x0:a0,P1 x0→P2 x0→P3 x0→P4 x0→b):b:=h.elim λx0 h=>h.elim λh1 h=>h.elim λh2 h=>h.elim λh3 h=>k x0 h1 h2 h3 h
theorem nT{a0:Sort _}{a3:Sort _}{P1:a0→Prop}{P2:a0→Prop}{P4:a0→a3→Prop}{b:Prop}(h:∃x0:a0,P1 x0∧P2 x0∧∃x3:a3,P4 x0 x3)(k:∀x0:a0,P1 x0→P2 x0→∀x3:a3,P4 x0 x3→b):b:=h.elim λx0 h=>h.elim λh1 h=>h.elim λh2 h=>h.elim λx3 h=>k x0 h1 h2 x3 h
theorem eX{a0:Sort _}{a1:Sort _}{P2:a0→a1→Prop}{P3:a0→a1→Prop}{P4:a0→a1→Prop}{b:Prop}(h:∃x0:a0,∃x1:a1,P2 x0 x1∧P3 x0 x1∧P4 x0 x1)(k:∀x0:a0,∀x1:a1,P2 x0 x1→P3 x0 x1→P4 x0 x1→b):b:=h.elim λx0 h=>h.elim λx1 h=>h.elim λh2 h=>h.elim λh3 h=>k x0 x1 h2 h3 h
theorem gP{a0:Sort _}{a1:Sort _}{a2:Sort _}{P3:a0→a1→a2→Prop}{P4:a0→a1→a2→Prop}{b:Prop}(h:∃x0:a0,∃x1:a1,∃x2:a2,P3 x0 x1 x2∧P4 x0 x1 x2)(k:∀x0:a0,∀x1:a1,∀x2:a2,P3 x0 x1 x2→P4 x0 x1 x2→b):b:=h.elim λx0 h=>h.elim λx1 h=>h.elim λx2 h=>h.elim λh3 h=>k x0 x1 x2 h3 h
theorem bH{a0:Sort _}{a1:Sort _}{a2:Sort _}{a3:Sort _}{P4:a0→a1→a2→a3→Prop}{b:Prop}(h:∃x0:a0,∃x1:a1,∃x2:a2,∃x3:a3,P4 x0 x1 x2 x3)(k:∀x0:a0,∀x1:a1,∀x2:a2,∀x3:a3,P4 x0 x1 x2 x3→b):b:=by obtain ⟨x0,x1,x2,x3,jP⟩:=h;exact k x0 x1 x2 x3 jP
theorem yJ{P0:Prop}{P1:Prop}{P2:Prop}{P3:Prop}{P4:Prop}{P5:Prop}{b:Prop}(h:P0∧P1∧P2∧P3∧P4∧P5)(k:P0→P1→P2→P3→P4→P5→b):b:=h.elim λh0 h=>h.elim λh1 h=>h.elim λh2 h=>h.elim λh3 h=>h.elim λh4 h=>k h0 h1 h2 h3 h4 h
theorem nU{a0:Sort _}{P1:a0→Prop}{P2:a0→Prop}{P3:a0→Prop}{P4:a0→Prop}{P5:a0→Prop}{b:Prop}(h:∃x0:a0,P1 x0∧P2 x0∧P3 x0∧P4 x0∧P5 x0)(k:∀x0:a0,P1 x0→P2 x0→P3 x0→P4 x0→P5 x0→b):b:=by obtain ⟨x0,D0,pI,me,jP,jQ⟩:=h;exact k x0 D0 pI me jP jQ
theorem uv{a0:Sort _}{a1:Sort _}{P2:a0→a1→Prop}{P3:a0→a1→Prop}{P4:a0→a1→Prop}{P5:a0→a1→Prop}{b:Prop}(h:∃x0:a0,∃x1:a1,P2 x0 x1∧P3 x0 x1∧P4 x0 x1∧P5 x0 x1)(k:∀x0:a0,∀x1:a1,P2 x0 x1→P3 x0 x1→P4 x0 x1→P5 x0 x1→b):b:=h.elim λx0 h=>h.elim λx1 h=>h.elim λh2 h=>h.elim λh3 h=>h.elim λh4 h=>k x0 x1 h2 h3 h4 h
theorem f7{a0:Sort _}{a1:Sort _}{a2:Sort _}{P3:a0→a1→a2→Prop}{P4:a0→a1→a2→Prop}{P5:a0→a1→a2→Prop}{b:Prop}(h:∃x0:a0,∃x1:a1,∃x2:a2,P3 x0 x1 x2∧P4 x0 x1 x2∧P5 x0 x1 x2)(k:∀x0:a0,∀x1:a1,∀x2:a2,P3 x0 x1 x2→P4 x0 x1 x2→P5 x0 x1 x2→b):b:=h.elim λx0 h=>h.elim λx1 h=>h.elim λx2 h=>h.elim λh3 h=>h.elim λh4 h=>k x0 x1 x2 h3 h4 h
theorem nW{a0:Sort _}{a1:Sort _}{P2:a0→a1→Prop}{P3:a0→a1→Prop}{P4:a0→a1→Prop}{P5:a0→a1→Prop}{P6:a0→a1→Prop}{b:Prop}(h:∃x0:a0,∃x1:a1,P2 x0 x1∧P3 x0 x1∧P4 x0 x1∧P5 x0 x1∧P6 x0 x1)(k:∀x0:a0,∀x1:a1,P2 x0 x1→P3 x0 x1→P4 x0 x1→P5 x0 x1→P6 x0 x1→b):b:=by obtain ⟨x0,x1,pI,me,jP,jQ,mh⟩:=h;exact k x0 x1 pI me jP jQ mh
theorem k7{a0:Sort _}{a1:Sort _}{a2:Sort _}{P3:a0→a1→a2→Prop}{P4:a0→a1→a2→Prop}{P5:a0→a1→a2→Prop}{P6:a0→a1→a2→Prop}{b:Prop}(h:∃x0:a0,∃x1:a1,∃x2:a2,P3 x0 x1 x2∧P4 x0 x1 x2∧P5 x0 x1 x2∧P6 x0 x1 x2)(k:∀x0:a0,∀x1:a1,∀x2:a2,P3 x0 x1 x2→P4 x0 x1 x2→P5 x0 x1 x2→P6 x0 x1 x2→b):b:=h.elim λx0 h=>h.elim λx1 h=>h.elim λx2 h=>h.elim λh3 h=>h.elim λh4 h=>h.elim λh5 h=>k x0 x1 x2 h3 h4 h5 h
theorem yK{a0:Sort _}{P1:a0→Prop}{P2:a0→Prop}{P3:a0→Prop}{P4:a0→Prop}{P5:a0→Prop}{P6:a0→Prop}{P7:a0→Prop}{b:Prop}(h:∃x0:a0,P1 x0∧P2 x0∧P3 x0∧P4 x0∧P5 x0∧P6 x0∧P7 x0)(k:∀x0:a0,P1 x0→P2 x0→P3 x0→P4 x0→P5 x0→P6 x0→P7 x0→b):b:=h.elim λx0 h=>h.elim λh1 h=>h.elim λh2 h=>h.elim λh3 h=>h.elim λh4 h=>h.elim λh5 h=>h.elim λh6 h=>k x0 h1 h2 h3 h4 h5 h6 h
theorem iz{a0:Sort _}{a1:Sort _}{a2:Sort _}{P3:a0→a1→a2→Prop}{P4:a0→a1→a2→Prop}{P5:a0→a1→a2→Prop}{P6:a0→a1→a2→Prop}{P7:a0→a1→a2→Prop}{b:Prop}(h:∃x0:a0,∃x1:a1,∃x2:a2,P3 x0 x1 x2∧P4 x0 x1 x2∧P5 x0 x1 x2∧P6 x0 x1 x2∧P7 x0 x1 x2)(k:∀x0:a0,∀x1:a1,∀x2:a2,P3 x0 x1 x2→P4 x0 x1 x2→P5 x0 x1 x2→P6 x0 x1 x2→P7 x0 x1 x2→b):b:=by obtain ⟨x0,x1,x2,me,jP,jQ,mh,pJ⟩:=h;exact k x0 x1 x2 me jP jQ mh pJ
theorem k8{a0:Sort _}{a1:Sort _}{P2:a0→a1→Prop}{P3:a0→a1→Prop}{P4:a0→a1→Prop}{P5:a0→a1→Prop}{P6:a0→a1→Prop}{P7:a0→a1→Prop}{P8:a0→a1→Prop}{b:Prop}(h:∃x0:a0,∃x1:a1,P2 x0 x1∧P3 x0 x1∧P4 x0 x1∧P5 x0 x1∧P6 x0 x1∧P7 x0 x1∧P8 x0 x1)(k:∀x0:a0,∀x1:a1,P2 x0 x1→P3 x0 x1→P4 x0 x1→P5 x0 x1→P6 x0 x1→P7 x0 x1→P8 x0 x1→b):b:=by obtain ⟨x0,x1,pI,me,jP,jQ,mh,pJ,uw⟩:=h;exact k x0 x1 pI me jP jQ mh pJ uw
theorem D3{a0:Sort _}{a1:Sort _}{a2:Sort _}{a3:Sort _}{a4:Sort _}{P5:a0→a1→a2→a3→a4→Prop}{P6:a0→a1→a2→a3→a4→Prop}{P7:a0→a1→a2→a3→a4→Prop}{P8:a0→a1→a2→a3→a4→Prop}{b:Prop}(h:∃x0:a0,∃x1:a1,∃x2:a2,∃x3:a3,∃x4:a4,P5 x0 x1 x2 x3 x4∧P6 x0 x1 x2 x3 x4∧P7 x0 x1 x2 x3 x4∧P8 x0 x1 x2 x3 x4)(k:∀x0:a0,∀x1:a1,∀x2:a2,∀x3:a3,∀x4:a4,P5 x0 x1 x2 x3 x4→P6 x0 x1 x2 x3 x4→P7 x0 x1 x2 x3 x4→P8 x0 x1 x2 x3 x4→b):b:=by obtain ⟨x0,x1,x2,x3,x4,jQ,mh,pJ,uw⟩:=h;exact k x0 x1 x2 x3 x4 jQ mh pJ uw
theorem mi{a0:Sort _}{a1:Sort _}{a2:Sort _}{P3:a0→a1→a2→Prop}{P4:a0→a1→a2→Prop}{P5:a0→a1→a2→Prop}{P6:a0→a1→a2→Prop}{P7:a0→a1→a2→Prop}{P8:a0→a1→a2→Prop}{P9:a0→a1→a2→Prop}{b:Prop}(h:∃x0:a0,∃x1:a1,∃x2:a2,P3 x0 x1 x2∧P4 x0 x1 x2∧P5 x0 x1 x2∧P6 x0 x1 x2∧P7 x0 x1 x2∧P8 x0 x1 x2∧P9 x0 x1 x2)(k:∀x0:a0,∀x1:a1,∀x2:a2,P3 x0 x1 x2→P4 x0 x1 x2→P5 x0 x1 x2→P6 x0 x1 x2→P7 x0 x1 x2→P8 x0 x1 x2→P9 x0 x1 x2→b):b:=h.elim λx0 h=>h.elim λx1 h=>h.elim λx2 h=>h.elim λh3 h=>h.elim λh4 h=>h.elim λh5 h=>h.elim λh6 h=>h.elim λh7 h=>h.elim λh8 h=>k x0 x1 x2 h3 h4 h5 h6 h7 h8 h
theorem pK{n:Nat}(h:n≤100000):(n:Int)<2 ^ 63:=Int.lt_of_le_of_lt (Int.ofNat_le.mpr h) (by decide)
theorem nX{n:Nat}(h:n≤100000):(n:Int)<2 ^ 62:=Int.lt_of_le_of_lt (Int.ofNat_le.mpr h) (by decide)
theorem ux{a:Int}{n:Nat}(h:a< (n:Int))(hn:n≤100000):a<2 ^ 63:=Int.lt_trans h (pK hn)
theorem tn{a:Int}{n:Nat}(h0:0≤a)(h:a< (n:Int)):a.toNat<n:=(Int.toNat_lt h0).mpr h
theorem pL{n:Nat}: -1≤(n:Int)- 1:=Int.sub_le_sub_right (Int.natCast_nonneg n) 1
theorem D4{a0:Sort _}{a1:Sort _}{a2:Sort _}{a3:Sort _}{P4:a0→a1→a2→a3→Prop}{P5:a0→a1→a2→a3→Prop}{P6:a0→a1→a2→a3→Prop}{P7:a0→a1→a2→a3→Prop}{P8:a0→a1→a2→a3→Prop}{P9:a0→a1→a2→a3→Prop}{k9:a0→a1→a2→a3→Prop}{b:Prop}(h:∃x0:a0,∃x1:a1,∃x2:a2,∃x3:a3,P4 x0 x1 x2 x3∧P5 x0 x1 x2 x3∧P6 x0 x1 x2 x3∧P7 x0 x1 x2 x3∧P8 x0 x1 x2 x3∧P9 x0 x1 x2 x3∧k9 x0 x1 x2 x3)(k:∀x0:a0,∀x1:a1,∀x2:a2,∀x3:a3,P4 x0 x1 x2 x3→P5 x0 x1 x2 x3→P6 x0 x1 x2 x3→P7 x0 x1 x2 x3→P8 x0 x1 x2 x3→P9 x0 x1 x2 x3→k9 x0 x1 x2 x3→b):b:=h.elim λx0 h=>h.elim λx1 h=>h.elim λx2 h=>h.elim λx3 h=>h.elim λh4 h=>h.elim λh5 h=>h.elim λh6 h=>h.elim λh7 h=>h.elim λh8 h=>h.elim λh9 h=>k x0 x1 x2 x3 h4 h5 h6 h7 h8 h9 h
theorem yL{a0:Sort _}{a1:Sort _}{a2:Sort _}{a3:Sort _}{a4:Sort _}{a5:Sort _}{P6:a0→a1→a2→a3→a4→a5→Prop}{P7:a0→a1→a2→a3→a4→a5→Prop}{P8:a0→a1→a2→a3→a4→a5→Prop}{P9:a0→a1→a2→a3→a4→a5→Prop}{k9:a0→a1→a2→a3→a4→a5→Prop}{pM:a0→a1→a2→a3→a4→a5→Prop}{b:Prop}(h:∃x0:a0,∃x1:a1,∃x2:a2,∃x3:a3,∃x4:a4,∃x5:a5,P6 x0 x1 x2 x3 x4 x5∧P7 x0 x1 x2 x3 x4 x5∧P8 x0 x1 x2 x3 x4 x5∧P9 x0 x1 x2 x3 x4 x5∧k9 x0 x1 x2 x3 x4 x5∧pM x0 x1 x2 x3 x4 x5)(k:∀x0:a0,∀x1:a1,∀x2:a2,∀x3:a3,∀x4:a4,∀x5:a5,P6 x0 x1 x2 x3 x4 x5→P7 x0 x1 x2 x3 x4 x5→P8 x0 x1 x2 x3 x4 x5→P9 x0 x1 x2 x3 x4 x5→k9 x0 x1 x2 x3 x4 x5→pM x0 x1 x2 x3 x4 x5→b):b:=h.elim λx0 h=>h.elim λx1 h=>h.elim λx2 h=>h.elim λx3 h=>h.elim λx4 h=>h.elim λx5 h=>h.elim λh6 h=>h.elim λh7 h=>h.elim λh8 h=>h.elim λh9 h=>h.elim λuy h=>k x0 x1 x2 x3 x4 x5 h6 h7 h8 h9 uy h
theorem uz{a0:Sort _}{a1:Sort _}{a2:Sort _}{a3:Sort _}{P4:a0→a1→a2→a3→Prop}{P5:a0→a1→a2→a3→Prop}{P6:a0→a1→a2→a3→Prop}{P7:a0→a1→a2→a3→Prop}{P8:a0→a1→a2→a3→Prop}{P9:a0→a1→a2→a3→Prop}{b:Prop}(h:∃x0:a0,∃x1:a1,∃x2:a2,∃x3:a3,P4 x0 x1 x2 x3∧P5 x0 x1 x2 x3∧P6 x0 x1 x2 x3∧P7 x0 x1 x2 x3∧P8 x0 x1 x2 x3∧P9 x0 x1 x2 x3)(k:∀x0:a0,∀x1:a1,∀x2:a2,∀x3:a3,P4 x0 x1 x2 x3→P5 x0 x1 x2 x3→P6 x0 x1 x2 x3→P7 x0 x1 x2 x3→P8 x0 x1 x2 x3→P9 x0 x1 x2 x3→b):b:=h.elim λx0 h=>h.elim λx1 h=>h.elim λx2 h=>h.elim λx3 h=>h.elim λh4 h=>h.elim λh5 h=>h.elim λh6 h=>h.elim λh7 h=>h.elim λh8 h=>k x0 x1 x2 x3 h4 h5 h6 h7 h8 h
theorem D5{a0:Sort _}{a1:Sort _}{P2:a0→a1→Prop}{P3:a0→a1→Prop}{P4:a0→a1→Prop}{P5:a0→a1→Prop}{P6:a0→a1→Prop}{P7:a0→a1→Prop}{b:Prop}(h:∃x0:a0,∃x1:a1,P2 x0 x1∧P3 x0 x1∧P4 x0 x1∧P5 x0 x1∧P6 x0 x1∧P7 x0 x1)(k:∀x0:a0,∀x1:a1,P2 x0 x1→P3 x0 x1→P4 x0 x1→P5 x0 x1→P6 x0 x1→P7 x0 x1→b):b:=h.elim λx0 h=>h.elim λx1 h=>h.elim λh2 h=>h.elim λh3 h=>h.elim λh4 h=>h.elim λh5 h=>h.elim λh6 h=>k x0 x1 h2 h3 h4 h5 h6 h
theorem D6{a0:Sort _}{a1:Sort _}{a7:Sort _}{P2:a0→a1→Prop}{P3:a0→a1→Prop}{P4:a0→a1→Prop}{P5:a0→a1→Prop}{P6:a0→a1→Prop}{P8:a0→a1→a7→Prop}{P9:a0→a1→a7→Prop}{b:Prop}(h:∃x0:a0,∃x1:a1,P2 x0 x1∧P3 x0 x1∧P4 x0 x1∧P5 x0 x1∧P6 x0 x1∧∃x7:a7,P8 x0 x1 x7∧P9 x0 x1 x7)(k:∀x0:a0,∀x1:a1,P2 x0 x1→P3 x0 x1→P4 x0 x1→P5 x0 x1→P6 x0 x1→∀x7:a7,P8 x0 x1 x7→P9 x0 x1 x7→b):b:=h.elim λx0 h=>h.elim λx1 h=>h.elim λh2 h=>h.elim λh3 h=>h.elim λh4 h=>h.elim λh5 h=>h.elim λh6 h=>h.elim λx7 h=>h.elim λh8 h=>k x0 x1 h2 h3 h4 h5 h6 x7 h8 h
theorem D7{a0:Sort _}{a1:Sort _}{a2:Sort _}{a3:Sort _}{P4:a0→a1→a2→a3→Prop}{P5:a0→a1→a2→a3→Prop}{P6:a0→a1→a2→a3→Prop}{P7:a0→a1→a2→a3→Prop}{P8:a0→a1→a2→a3→Prop}{P9:a0→a1→a2→a3→Prop}{k9:a0→a1→a2→a3→Prop}{pM:a0→a1→a2→a3→Prop}{yM:a0→a1→a2→a3→Prop}{yN:a0→a1→a2→a3→Prop}{b:Prop}(h:∃x0:a0,∃x1:a1,∃x2:a2,∃x3:a3,P4 x0 x1 x2 x3∧P5 x0 x1 x2 x3∧P6 x0 x1 x2 x3∧P7 x0 x1 x2 x3∧P8 x0 x1 x2 x3∧P9 x0 x1 x2 x3∧k9 x0 x1 x2 x3∧pM x0 x1 x2 x3∧yM x0 x1 x2 x3∧yN x0 x1 x2 x3)(k:∀x0:a0,∀x1:a1,∀x2:a2,∀x3:a3,P4 x0 x1 x2 x3→P5 x0 x1 x2 x3→P6 x0 x1 x2 x3→P7 x0 x1 x2 x3→P8 x0 x1 x2 x3→P9 x0 x1 x2 x3→k9 x0 x1 x2 x3→pM x0 x1 x2 x3→yM x0 x1 x2 x3→yN x0 x1 x2 x3→b):b:=h.elim λx0 h=>h.elim λx1 h=>h.elim λx2 h=>h.elim λx3 h=>h.elim λh4 h=>h.elim λh5 h=>h.elim λh6 h=>h.elim λh7 h=>h.elim λh8 h=>h.elim λh9 h=>h.elim λuy h=>h.elim λD8 h=>h.elim λD9 h=>k x0 x1 x2 x3 h4 h5 h6 h7 h8 h9 uy D8 D9 h
theorem bx{a0:Sort _}{P1:a0→Prop}{P2:a0→Prop}(x0:a0)(h1:P1 x0)(h2:P2 x0):∃x0:a0,P1 x0∧P2 x0:=⟨x0,h1,h2⟩
theorem cA{a0:Sort _}{P1:a0→Prop}{P2:a0→Prop}{P3:a0→Prop}(x0:a0)(h1:P1 x0)(h2:P2 x0)(h3:P3 x0):∃x0:a0,P1 x0∧P2 x0∧P3 x0:=⟨x0,h1,h2,h3⟩
theorem f9{a0:Sort _}{a1:Sort _}{P2:a0→a1→Prop}{P3:a0→a1→Prop}(x0:a0)(x1:a1)(h2:P2 x0 x1)(h3:P3 x0 x1):∃x0:a0,∃x1:a1,P2 x0 x1∧P3 x0 x1:=⟨x0,x1,h2,h3⟩
theorem eY{a0:Sort _}{a1:Sort _}{P2:a0→a1→Prop}{P3:a0→a1→Prop}{P4:a0→a1→Prop}(x0:a0)(x1:a1)(h2:P2 x0 x1)(h3:P3 x0 x1)(h4:P4 x0 x1):∃x0:a0,∃x1:a1,P2 x0 x1∧P3 x0 x1∧P4 x0 x1:=⟨x0,x1,h2,h3,h4⟩
theorem gb{a0:Sort _}{a1:Sort _}{a2:Sort _}{P3:a0→a1→a2→Prop}{P4:a0→a1→a2→Prop}(x0:a0)(x1:a1)(x2:a2)(h3:P3 x0 x1 x2)(h4:P4 x0 x1 x2):∃x0:a0,∃x1:a1,∃x2:a2,P3 x0 x1 x2∧P4 x0 x1 x2:=⟨x0,x1,x2,h3,h4⟩
theorem mj{a0:Sort _}{a1:Sort _}{a2:Sort _}{P3:a0→a1→a2→Prop}{P4:a0→a1→a2→Prop}{P5:a0→a1→a2→Prop}(x0:a0)(x1:a1)(x2:a2)(h3:P3 x0 x1 x2)(h4:P4 x0 x1 x2)(h5:P5 x0 x1 x2):∃x0:a0,∃x1:a1,∃x2:a2,P3 x0 x1 x2∧P4 x0 x1 x2∧P5 x0 x1 x2:=⟨x0,x1,x2,h3,h4,h5⟩
theorem ml{a0:Sort _}{a1:Sort _}{a2:Sort _}{P3:a0→a1→a2→Prop}{P4:a0→a1→a2→Prop}{P5:a0→a1→a2→Prop}{P6:a0→a1→a2→Prop}(x0:a0)(x1:a1)(x2:a2)(h3:P3 x0 x1 x2)(h4:P4 x0 x1 x2)(h5:P5 x0 x1 x2)(h6:P6 x0 x1 x2):∃x0:a0,∃x1:a1,∃x2:a2,P3 x0 x1 x2∧P4 x0 x1 x2∧P5 x0 x1 x2∧P6 x0 x1 x2:=⟨x0,x1,x2,h3,h4,h5,h6⟩
theorem uA{a0:Sort _}{a1:Sort _}{P2:a0→a1→Prop}{P3:a0→a1→Prop}{P4:a0→a1→Prop}{P5:a0→a1→Prop}{P6:a0→a1→Prop}{P7:a0→a1→Prop}(x0:a0)(x1:a1)(h2:P2 x0 x1)(h3:P3 x0 x1)(h4:P4 x0 x1)(h5:P5 x0 x1)(h6:P6 x0 x1)(h7:P7 x0 x1):∃x0:a0,∃x1:a1,P2 x0 x1∧P3 x0 x1∧P4 x0 x1∧P5 x0 x1∧P6 x0 x1∧P7 x0 x1:=⟨x0,x1,h2,h3,h4,h5,h6,h7⟩
theorem jR{a0:Sort _}{a1:Sort _}{a2:Sort _}{P3:a0→a1→a2→Prop}{P4:a0→a1→a2→Prop}{P5:a0→a1→a2→Prop}{P6:a0→a1→a2→Prop}{P7:a0→a1→a2→Prop}(x0:a0)(x1:a1)(x2:a2)(h3:P3 x0 x1 x2)(h4:P4 x0 x1 x2)(h5:P5 x0 x1 x2)(h6:P6 x0 x1 x2)(h7:P7 x0 x1 x2):∃x0:a0,∃x1:a1,∃x2:a2,P3 x0 x1 x2∧P4 x0 x1 x2∧P5 x0 x1 x2∧P6 x0 x1 x2∧P7 x0 x1 x2:=⟨x0,x1,x2,h3,h4,h5,h6,h7⟩
theorem lb{a0:Sort _}{a1:Sort _}{P2:a0→a1→Prop}{P3:a0→a1→Prop}{P4:a0→a1→Prop}{P5:a0→a1→Prop}{P6:a0→a1→Prop}{P7:a0→a1→Prop}{P8:a0→a1→Prop}(x0:a0)(x1:a1)(h2:P2 x0 x1)(h3:P3 x0 x1)(h4:P4 x0 x1)(h5:P5 x0 x1)(h6:P6 x0 x1)(h7:P7 x0 x1)(h8:P8 x0 x1):∃x0:a0,∃x1:a1,P2 x0 x1∧P3 x0 x1∧P4 x0 x1∧P5 x0 x1∧P6 x0 x1∧P7 x0 x1∧P8 x0 x1:=⟨x0,x1,h2,h3,h4,h5,h6,h7,h8⟩
theorem nY{a0:Sort _}{a1:Sort _}{a2:Sort _}{P3:a0→a1→a2→Prop}{P4:a0→a1→a2→Prop}{P5:a0→a1→a2→Prop}{P6:a0→a1→a2→Prop}{P7:a0→a1→a2→Prop}{P8:a0→a1→a2→Prop}(x0:a0)(x1:a1)(x2:a2)(h3:P3 x0 x1 x2)(h4:P4 x0 x1 x2)(h5:P5 x0 x1 x2)(h6:P6 x0 x1 x2)(h7:P7 x0 x1 x2)(h8:P8 x0 x1 x2):∃x0:a0,∃x1:a1,∃x2:a2,P3 x0 x1 x2∧P4 x0 x1 x2∧P5 x0 x1 x2∧P6 x0 x1 x2∧P7 x0 x1 x2∧P8 x0 x1 x2:=⟨x0,x1,x2,h3,h4,h5,h6,h7,h8⟩
theorem rR{a0:Sort _}{a1:Sort _}{a2:Sort _}{a3:Sort _}{a4:Sort _}{P5:a0→a1→a2→a3→a4→Prop}{P6:a0→a1→a2→a3→a4→Prop}{P7:a0→a1→a2→a3→a4→Prop}{P8:a0→a1→a2→a3→a4→Prop}(x0:a0)(x1:a1)(x2:a2)(x3:a3)(x4:a4)(h5:P5 x0 x1 x2 x3 x4)(h6:P6 x0 x1 x2 x3 x4)(h7:P7 x0 x1 x2 x3 x4)(h8:P8 x0 x1 x2 x3 x4):∃x0:a0,∃x1:a1,∃x2:a2,∃x3:a3,∃x4:a4,P5 x0 x1 x2 x3 x4∧P6 x0 x1 x2 x3 x4∧P7 x0 x1 x2 x3 x4∧P8 x0 x1 x2 x3 x4:=⟨x0,x1,x2,x3,x4,h5,h6,h7,h8⟩
theorem rS{a0:Sort _}{a1:Sort _}{a2:Sort _}{a3:Sort _}{P4:a0→a1→a2→a3→Prop}{P5:a0→a1→a2→a3→Prop}{P6:a0→a1→a2→a3→Prop}{P7:a0→a1→a2→a3→Prop}{P8:a0→a1→a2→a3→Prop}{P9:a0→a1→a2→a3→Prop}(x0:a0)(x1:a1)(x2:a2)(x3:a3)(h4:P4 x0 x1 x2 x3)(h5:P5 x0 x1 x2 x3)(h6:P6 x0 x1 x2 x3)(h7:P7 x0 x1 x2 x3)(h8:P8 x0 x1 x2 x3)(h9:P9 x0 x1 x2 x3):∃x0:a0,∃x1:a1,∃x2:a2,∃x3:a3,P4 x0 x1 x2 x3∧P5 x0 x1 x2 x3∧P6 x0 x1 x2 x3∧P7 x0 x1 x2 x3∧P8 x0 x1 x2 x3∧P9 x0 x1 x2 x3:=⟨x0,x1,x2,x3,h4,h5,h6,h7,h8,h9⟩
theorem rT{a0:Sort _}{a1:Sort _}{a2:Sort _}{a3:Sort _}{a4:Sort _}{P5:a0→a1→a2→a3→a4→Prop}{P6:a0→a1→a2→a3→a4→Prop}{P7:a0→a1→a2→a3→a4→Prop}{P8:a0→a1→a2→a3→a4→Prop}{P9:a0→a1→a2→a3→a4→Prop}(x0:a0)(x1:a1)(x2:a2)(x3:a3)(x4:a4)(h5:P5 x0 x1 x2 x3 x4)(h6:P6 x0 x1 x2 x3 x4)(h7:P7 x0 x1 x2 x3 x4)(h8:P8 x0 x1 x2 x3 x4)(h9:P9 x0 x1 x2 x3 x4):∃x0:a0,∃x1:a1,∃x2:a2,∃x3:a3,∃x4:a4,P5 x0 x1 x2 x3 x4∧P6 x0 x1 x2 x3 x4∧P7 x0 x1 x2 x3 x4∧P8 x0 x1 x2 x3 x4∧P9 x0 x1 x2 x3 x4:=⟨x0,x1,x2,x3,x4,h5,h6,h7,h8,h9⟩
end
noncomputable section
noncomputable section
@[elab_as_elim] theorem bO{α:Type _}{b:α}{l:List α}{P:α→Prop}{a:α}(h:a∈b::l)(k1:P b)(k2:a∈l→P a):P a:=(List.mem_cons.mp h).elim (λe=>e▸k1) k2
inductive E0 where
 |v (i:Nat)
 |k (n:Nat)
 |a (e f:E0)
 |g (e:E0)
 |m (n:Nat) (e:E0)
 |c (e:E0)
noncomputable def yO:List Nat→Nat
 | []=>0
 |a::_=>a
noncomputable def yP:List Nat→List Nat
 | []=> []
 |_::r=>r
noncomputable def gc:List Int→Int
 | []=>0
 |a::_=>a
noncomputable def eF:List Int→List Int
 | []=> []
 |_::r=>r
noncomputable def yQ(x:List Nat)(i:Nat):Nat:=yO (Nat.rec (motive:=λq_=>List Nat) x (λq_ l=>yP l) i)
noncomputable def uB(x:List Int)(i:Nat):Int:=gc (Nat.rec (motive:=λq_=>List Int) x (λq_ l=>eF l) i)
noncomputable def nZ(x:List Nat)(e:E0):Nat:=E0.rec (λi=>yQ x i) (λn=>n) (λq_ q_ p q=>p+q) (λq_ q_=>0) (λn q_ p=>n*p) (λq_ q_=>0) e
noncomputable def pN(x:List Nat)(y:List Int)(e:E0):Int:=E0.rec (λi=>uB y i) (λn=>Int.ofNat n) (λq_ q_ p q=>p+q) (λq_ p=> -p) (λn q_ p=>Int.ofNat n*p) (λe q_=>(nZ x e:Int)) e
noncomputable def uC(a:List Int):List Int→List Int:=List.rec (λb=>b) (λh q_ p b=>(h+gc b)::p (eF b)) a
noncomputable def uD(n:Int)(a:List Int):List Int:=a.map (n* ·)
noncomputable def uE(n:Nat):List Int:=Nat.rec [1] (λq_ l=>0::l) n
structure P0 where
 c:Int
 u:List Int
 v:List Int
noncomputable def gQ(p q:P0):P0:=⟨p.c+q.c,uC p.u q.u,uC p.v q.v⟩
noncomputable def fA(n:Int)(p:P0):P0:=⟨n*p.c,uD n p.u,uD n p.v⟩
noncomputable def rU(e:E0):P0:=E0.rec (λi=>⟨0,uE i, []⟩) (λn=>⟨n, [], []⟩) (λq_ q_ p q=>gQ p q) (λq_ q_=>⟨0, [], []⟩) (λn q_ p=>fA n p) (λq_ q_=>⟨0, [], []⟩) e
noncomputable def uF(e:E0):P0:=E0.rec (λi=>⟨0, [],uE i⟩) (λn=>⟨n, [], []⟩) (λq_ q_ p q=>gQ p q) (λq_ p=>fA (-1) p) (λn q_ p=>fA n p) (λe q_=>rU e) e
noncomputable def yR(c:Nat):Nat:=bif Nat.beq (c % 16) 0 then 20 else c % 16
noncomputable def jS(c:Nat):Nat×Nat:=(c / 16 % 16 ^ yR c,c / 16 / 16 ^ yR c)
noncomputable def pO(t:Nat):Nat→E0×Nat:=Nat.rec (λc=>(.k 0,c)) (λq_ p c=>bif Nat.beq (c % 16) 0 then (.v (c / 16 % 16),c / 256)
  else bif Nat.beq (c % 16) 1 then (.k (jS (c / 16)).1,(jS (c / 16)).2)
  else bif Nat.beq (c % 16) 2 then (.a (p (c / 16)).1 (p (p (c / 16)).2).1,(p (p (c / 16)).2).2)
  else bif Nat.beq (c % 16) 4 then (.g (p (c / 16)).1,(p (c / 16)).2)
  else bif Nat.beq (c % 16) 5 then (.m (jS (c / 16)).1 (p (jS (c / 16)).2).1,(p (jS (c / 16)).2).2)
  else (.c (p (c / 16)).1,(p (c / 16)).2)) t
structure C0 where
 o:Nat
 m:Nat
 e:E0
 f:E0
 r:Nat
noncomputable def da(c:Nat):C0:=⟨c % 8,(jS (c / 16)).1,(pO 40 (jS (c / 16)).2).1,(pO 40 (pO 40 (jS (c / 16)).2).2).1,(pO 40 (pO 40 (jS (c / 16)).2).2).2⟩
noncomputable def uG(o a b:Nat):Prop:=bif Nat.beq o 0 then a≤b else bif Nat.beq o 1 then a<b else bif Nat.beq o 2 then a=b else b=a
noncomputable def n0(o:Nat)(a b:Int):Prop:=bif Nat.beq o 0 then a≤b else bif Nat.beq o 1 then a<b else bif Nat.beq o 2 then a=b else b=a
noncomputable def mm(x:List Nat)(y:List Int)(c:C0):Prop:=bif Nat.ble c.o 3 then uG c.o (nZ x c.e) (nZ x c.f) else n0 (c.o- 4) (pN x y c.e) (pN x y c.f)
noncomputable def lc(o:Nat):Int:=bif Nat.beq o 1 then -1 else 0
noncomputable def jT(c:C0):P0:=bif Nat.ble c.o 3 then gQ ⟨lc c.o, [], []⟩ (gQ (rU c.f) (fA (-1) (rU c.e))) else gQ ⟨lc (c.o- 4), [], []⟩ (gQ (uF c.f) (fA (-1) (uF c.e)))
noncomputable def cB(x:List Nat)(y:List Int)(n:Nat):Nat→Prop:=Nat.rec (λc=>mm x y (da c)) (λq_ p c=>p (da c).r) n
noncomputable def lf(z:Int):Bool:=Int.casesOn z (λq_=>true) λq_=>false
noncomputable def Ea(m:Nat)(p:P0):Bool:=lf (p.c+ (m- 1))&&(p.u.all lf&&p.v.all λz=>lf z&&lf (-z))
noncomputable def lg(n:Nat):Nat→P0→Bool:=Nat.rec (λc a=>Nat.ble ((da c).o % 4) 1&&Ea (da c).m (gQ (fA (da c).m (jT (da c))) (fA (-1) a))) (λq_ p c a=>p (da c).r (gQ (fA (da c).m (jT (da c))) a)) n
noncomputable def gR(a:List Int):List Int→Int:=List.rec (λq_=>0) (λh q_ p l=>h*gc l+p (eF l)) a
theorem yS(a:List Int):∀b l,gR (uC a b) l=gR a l+gR b l:=by
 induction a with
 |nil=>exact λb l=>(Int.zero_add _).symm
 |cons h r ih=>
  intro b l
  cases b with
  |nil=>exact(congr (congrArg HAdd.hAdd (congrArg (· *gc l) (Int.add_zero h))) (ih [] (eF l))).trans (Int.add_assoc ..).symm
  |cons g s=>
   refine(congr (congrArg HAdd.hAdd (Int.add_mul h g (gc l))) (ih s (eF l))).trans ?_
   show _= (h*gc l+gR r (eF l))+ (g*gc l+gR s (eF l))
   ac_rfl
theorem yT(n:Int)(a:List Int):∀l,gR (uD n a) l=n*gR a l:=by
 induction a with
 |nil=>exact λl=>(Int.mul_zero _).symm
 |cons h r ih=>exact λl=>(congr (congrArg HAdd.hAdd (Int.mul_assoc n h (gc l))) (ih (eF l))).trans (Int.mul_add ..).symm
theorem Eb(l:List Int)(i:Nat):Nat.rec (motive:=λq_=>List Int) (eF l) (λq_ l=>eF l) i=eF (Nat.rec (motive:=λq_=>List Int) l (λq_ l=>eF l) i):=by
 induction i with
 |zero=>rfl
 |succ i ih=>exact congrArg eF ih
theorem yU(i:Nat):∀l,gR (uE i) l=uB l i:=by
 induction i with
 |zero=>exact λl=>(Int.add_zero _).trans (Int.one_mul _)
 |succ i ih=>exact λl=>(congr (congrArg HAdd.hAdd (Int.zero_mul _)) (ih (eF l))).trans ((Int.zero_add _).trans (congrArg gc (Eb l i)))
theorem Ec(x:List Nat)(i:Nat):uB (x.map Int.ofNat) i=yQ x i:=by
 have h1:∀l:List Nat,gc (l.map Int.ofNat)=yO l:=λl=>by cases l<;>rfl
 have h2:∀l:List Nat,eF (l.map Int.ofNat)= (yP l).map Int.ofNat:=λl=>by cases l<;>rfl
 refine Eq.trans (congrArg gc ?_) (h1 _)
 induction i with
 |zero=>rfl
 |succ i ih=>exact(congrArg eF ih).trans (h2 _)
variable {x:List Nat}{y:List Int}
noncomputable def dU(x:List Nat)(y:List Int)(p:P0):Int:=p.c+ (gR p.u (x.map Int.ofNat)+gR p.v y)
theorem n4(p q:P0):dU x y (gQ p q)=dU x y p+dU x y q:=by
 refine(congrArg (p.c+q.c+ ·) (congr (congrArg HAdd.hAdd (yS ..)) (yS ..))).trans ?_
 unfold dU
 ac_rfl
theorem mn(n:Int)(p:P0):dU x y (fA n p)=n*dU x y p:=
 (congrArg (n*p.c+ ·) ((congr (congrArg HAdd.hAdd (yT ..)) (yT ..)).trans (Int.mul_add ..).symm)).trans (Int.mul_add ..).symm
theorem uH(z:Int):dU x y ⟨z, [], []⟩=z:=Int.add_zero z
theorem uI(e:E0):dU x y (rU e)=nZ x e:=by
 induction e with
 |v i=>exact(Int.zero_add _).trans ((Int.add_zero _).trans ((yU ..).trans (Ec ..)))
 |k n=>exact uH n
 |a e f p q=>exact(n4 ..).trans ((congr (congrArg HAdd.hAdd p) q).trans (Int.natCast_add ..).symm)
 |m n e p=>exact(mn ..).trans ((congrArg _ p).trans (Int.natCast_mul ..).symm)
 |_=>rfl
theorem yV(e:E0):dU x y (uF e)=pN x y e:=by
 induction e with
 |v i=>exact(Int.zero_add _).trans ((Int.zero_add _).trans (yU ..))
 |k n=>exact uH n
 |a e f p q=>exact(n4 ..).trans (congr (congrArg HAdd.hAdd p) q)
 |g e p=>exact(mn ..).trans ((congrArg _ p).trans (Int.neg_one_mul _))
 |m n e p=>exact(mn ..).trans (congrArg _ p)
 |c e p=>exact uI e
theorem yW{b:Bool}{p q P:Prop}(h:bif b then p else q)(k:b=true→p→P)(k':b=false→q→P):P:=by
 cases b with
 |true=>exact k rfl h
 |false=>exact k' rfl h
theorem yX{o:Nat}{a b:Int}(h:n0 o a b):0≤lc o+ (b+ -1*a):=by
 rw[Int.neg_one_mul]
 have z:∀{c d:Int},c≤d→0≤0+ (d+ -c):=λh=>(Int.zero_add _).symm▸Int.sub_nonneg_of_le h
 unfold n0 at h
 unfold lc
 cases e1:Nat.beq o 1 with
 |true=>
  have e:o=1:=Nat.eq_of_beq_eq_true e1
  subst e
  have h:1≤b+ -a:=Int.le_sub_left_of_add_le h
  exact Int.add_le_add_left h (-1)
 |false=>
  rw[e1]at h
  exact yW h (λq_ h=>z h) λq_ h=>yW (b:=Nat.beq o 2) h (λq_ h=>z (Int.le_of_eq h)) λq_ h=>z (Int.le_of_eq h.symm)
theorem yY{o:Nat}{a b:Int}(h:0≤lc o+ (b+ -1*a))(e:Nat.ble o 1=true):n0 o a b:=by
 rw[Int.neg_one_mul]at h
 cases o with
 |zero=>rw[show lc 0=0 from rfl,Int.zero_add]at h;exact Int.le_of_sub_nonneg h
 |succ o=>
  cases o with
  |zero=>have h:0≤ -1+ (b+ -a):=h;show a<b;omega
  |succ o=>exact absurd (Nat.le_of_succ_le_succ (aD e)) (Nat.not_succ_le_zero o)
theorem yZ{o a b:Nat}:uG o a b↔n0 o a b:=by
 unfold uG n0
 rw[Int.ofNat_le,Int.ofNat_lt,Int.ofNat_inj,Int.ofNat_inj]
theorem y3(s:Int)(p q:P0):dU x y (gQ ⟨s, [], []⟩ (gQ p (fA (-1) q)))=s+ (dU x y p+ -1*dU x y q):=
 (n4 ..).trans (congr (congrArg HAdd.hAdd (uH s)) ((n4 ..).trans (congrArg (dU x y p+ ·) (mn ..))))
theorem zf{c:C0}:dU x y (jT c)=bif Nat.ble c.o 3 then lc c.o+ ((nZ x c.f:Int)+ -1* (nZ x c.e:Int)) else lc (c.o- 4)+ (pN x y c.f+ -1*pN x y c.e):=by
 unfold jT
 rw[←uI (y:=y),←uI (y:=y),←yV,←yV]
 cases Nat.ble c.o 3 with
 |true=>exact y3 ..
 |false=>exact y3 ..
theorem Ed{c:C0}(h:mm x y c):0≤dU x y (jT c):=by
 rw[zf]
 unfold mm at h
 cases q:Nat.ble c.o 3 with
 |true=>rw[q]at h;exact yX (yZ.mp h)
 |false=>rw[q]at h;exact yX h
theorem Ee:∀o,o<8→Nat.ble (o % 4) 1=true→(Nat.ble o 3=true→Nat.ble o 1=true)∧(Nat.ble o 3=false→Nat.ble (o- 4) 1=true):=by decide
theorem Ef{c:Nat}(h:0≤dU x y (jT (da c)))(e:Nat.ble ((da c).o % 4) 1=true):mm x y (da c):=by
 rw[zf]at h
 unfold mm
 have k:=Ee (da c).o (Nat.mod_lt _ (aD rfl)) e
 cases q:Nat.ble (da c).o 3 with
 |true=>rw[q]at h;exact yZ.mpr (yY h (k.1 q))
 |false=>rw[q]at h;exact yY h (k.2 q)
theorem rV{z:Int}(h:lf z=true):0≤z:=by
 cases z with
 |ofNat n=>exact Int.natCast_nonneg n
 |negSucc n=>exact cj h
theorem Eg(a:List Int):∀l:List Nat,a.all lf=true→0≤gR a (l.map Int.ofNat):=by
 induction a with
 |nil=>exact λq_ q_=>Int.le_refl _
 |cons h r ih=>
  intro l q
  obtain ⟨q1,q2⟩:=Bool.and_eq_true_iff.mp q
  cases l with
  |nil=>exact Int.add_nonneg (Int.le_of_eq (Int.mul_zero h).symm) (ih [] q2)
  |cons b s=>exact Int.add_nonneg (Int.mul_nonneg (rV q1) (Int.natCast_nonneg b)) (ih s q2)
theorem Eh(a:List Int):∀l,(a.all λz=>lf z&&lf (-z))=true→gR a l=0:=by
 induction a with
 |nil=>exact λq_ q_=>rfl
 |cons h r ih=>
  intro l q
  obtain ⟨q1,q2⟩:=Bool.and_eq_true_iff.mp q
  obtain ⟨q3,q4⟩:=Bool.and_eq_true_iff.mp q1
  have e:h=0:=Int.le_antisymm (Int.neg_nonneg.mp (rV q4)) (rV q3)
  subst e;exact(congr (congrArg HAdd.hAdd (Int.zero_mul _)) (ih _ q2)).trans (Int.zero_add 0)
noncomputable def Ei(x:List Nat)(y:List Int)(n:Nat):Nat→Prop:=Nat.rec (λc=>mm x y (da c)) (λq_ p c=>mm x y (da c)→p (da c).r) n
theorem mq(n:Nat):∀c a,lg n c a=true→0≤dU x y a→Ei x y n c:=by
 induction n with
 |zero=>
  intro c a h ha
  obtain ⟨h1,h2⟩:=Bool.and_eq_true_iff.mp h
  obtain ⟨h3,h4⟩:=Bool.and_eq_true_iff.mp h2
  obtain ⟨h4,h5⟩:=Bool.and_eq_true_iff.mp h4
  refine Ef (Int.not_lt.mp λhn=>?_) h1
  have e:(gQ (fA (da c).m (jT (da c))) (fA (-1) a)).c+ (_+_)=_:=(n4 (x:=x) (y:=y) (fA (da c).m (jT (da c))) (fA (-1) a)).trans (congr (congrArg HAdd.hAdd (mn ..)) ((mn ..).trans (Int.neg_one_mul _)))
  have h6:=Int.mul_le_mul_of_nonneg_left (show dU x y (jT (da c))≤ -1 from Int.le_sub_one_of_lt hn) (Int.natCast_nonneg (da c).m)
  have h3:=rV h3
  have h4:=Eg _ x h4
  rw[Eh _ y h5]at e
  omega
 |succ n ih=>exact λc a h ha hs=>ih _ _ h (by rw[n4,mn];exact Int.add_nonneg (Int.mul_nonneg (Int.natCast_nonneg _) (Ed hs)) ha)
theorem s2{a b:Nat}:a≤a- b+b:=Nat.le_add_of_sub_le (Nat.le_refl _)
theorem nf{P:Prop}(h:1≤0):P:=absurd h (by decide)
theorem M0(x:List Nat)(y:List Int)(c:Nat)(h:lg 0 c ⟨0, [], []⟩=true):cB x y 0 c:=mq 0 c ⟨0, [], []⟩ h (Int.le_refl _)
theorem M1(x:List Nat)(y:List Int)(c:Nat)(h:lg 1 c ⟨0, [], []⟩=true):cB x y 0 c→cB x y 1 c:=mq 1 c ⟨0, [], []⟩ h (Int.le_refl _)
theorem M2(x:List Nat)(y:List Int)(c:Nat)(h:lg 2 c ⟨0, [], []⟩=true):cB x y 0 c→cB x y 1 c→cB x y 2 c:=mq 2 c ⟨0, [], []⟩ h (Int.le_refl _)
theorem M3(x:List Nat)(y:List Int)(c:Nat)(h:lg 3 c ⟨0, [], []⟩=true):cB x y 0 c→cB x y 1 c→cB x y 2 c→cB x y 3 c:=mq 3 c ⟨0, [], []⟩ h (Int.le_refl _)
theorem M4(x:List Nat)(y:List Int)(c:Nat)(h:lg 4 c ⟨0, [], []⟩=true):cB x y 0 c→cB x y 1 c→cB x y 2 c→cB x y 3 c→cB x y 4 c:=mq 4 c ⟨0, [], []⟩ h (Int.le_refl _)
theorem M5(x:List Nat)(y:List Int)(c:Nat)(h:lg 5 c ⟨0, [], []⟩=true):cB x y 0 c→cB x y 1 c→cB x y 2 c→cB x y 3 c→cB x y 4 c→cB x y 5 c:=mq 5 c ⟨0, [], []⟩ h (Int.le_refl _)
theorem M6(x:List Nat)(y:List Int)(c:Nat)(h:lg 6 c ⟨0, [], []⟩=true):cB x y 0 c→cB x y 1 c→cB x y 2 c→cB x y 3 c→cB x y 4 c→cB x y 5 c→cB x y 6 c:=mq 6 c ⟨0, [], []⟩ h (Int.le_refl _)
end
end
noncomputable section
set_option genCtorIdx true in
set_option genInjectivity true in
inductive V where
 |none
 |bool (b:Bool)
 |int (i:Int)
 |str (s:Str)
 |tup (l:List V)
 |c4 (a b d:Int)
 |val (v:Value)
inductive O where
 |list (t:Nat) (l:List V)
 |dI (t:Nat) (l:List (Int×V))
 |dS (t:Nat) (l:List (Str×V))
 |dT (t:Nat) (l:List (List Int×V))
 |sI (t:Nat) (A:Int→Bool) (n:Nat)
 |inst (t:Nat) (C d:Addr)
 |bb (t:Nat) (ks:List Str) (vs:List V)
 |exc (t:Nat) (C:Addr) (d:Option Addr)
noncomputable abbrev O.tag:O→Nat
 |.list t _=>t
 |.dI t _=>t
 |.dS t _=>t
 |.dT t _=>t
 |.sI t _ _=>t
 |.inst t _ _=>t
 |.bb t _ _=>t
 |.exc t _ _=>t
noncomputable abbrev S:=Addr→Option O
noncomputable def upd(σ:S)(a:Addr)(o:O):S:=λb=>if b=a then some o else σ b
theorem c5:upd σ a o a=some o:=by simp[upd]
theorem cC(h:b≠a):upd σ a o b=σ b:=by simp[upd,h]
mutual
inductive VR (h:Heap):Value→V→Prop
 |none:VR h .none .none
 |bool (b):VR h (.bool b) (.bool b)
 |int (i t):VR h (.int i t) (.int i)
 |str (s t):VR h (.str s t) (.str s)
 |tup {a vs l}:IsTup h a vs.toArray→aA h vs l→VR h (.ref a) (.tup l)
 |c4 {x a b d t u v}:IsRange h x a b d t u v→VR h (.ref x) (.c4 a b d)
 |val (v):VR h v (.val v)
inductive aA (h:Heap):List Value→List V→Prop
 |nil:aA h [] []
 |cons {v vs r rs}:VR h v r→aA h vs rs→aA h (v::vs) (r::rs)
end
noncomputable def eG(o:Obj):Prop:=(o.cls= .type "tuple"∧∃xs n,o.data= .seq xs n)∨(o.cls= .type "range"∧∃vs,o.data= .fields vs)
noncomputable def TK(h h':Heap):Prop:=∀a o,h.get? a=some o→eG o→h'.get? a=some o
theorem TK.refl (h:Heap):TK h h:=λq_ q_ x q_=>x
theorem TK.trans (x:TK h h')(y:TK h' dy):TK h dy:=λa o z i=>y a o (x a o z i) i
theorem TK.isTup (k:TK h h')(x:IsTup h a items):IsTup h' a items:=
 nT x λo e c n d=>⟨o,k a o e (.inl ⟨c,_,_,d⟩),c,n,d⟩
theorem VR.mono (k:TK h h'){v r}(x:VR h v r):VR h' v r:=
 VR.rec (motive_1:=λv r q_=>VR h' v r) (motive_2:=λvs rs q_=>aA h' vs rs) .none .bool .int .str (λx q_ ih=>.tup (k.isTup x) ih) (λx=>.c4 (k _ _ x (.inr ⟨rfl,_,rfl⟩))) .val .nil (λq_ q_ a b=>.cons a b) x
theorem aA.mono (k:TK h h'){vs rs}(x:aA h vs rs):aA h' vs rs:=
 aA.rec (motive_1:=λv r q_=>VR h' v r) (motive_2:=λvs rs q_=>aA h' vs rs) .none .bool .int .str (λx q_ ih=>.tup (k.isTup x) ih) (λx=>.c4 (k _ _ x (.inr ⟨rfl,_,rfl⟩))) .val .nil (λq_ q_ a b=>.cons a b) x
theorem aA.ind {P:List Value→List V→Prop}(h0:P [] [])(h1:∀{v r vs rs},VR h v r→aA h vs rs→P vs rs→P (v::vs) (r::rs)){vs rs}(x:aA h vs rs):P vs rs:=
 aA.rec (motive_1:=λq_ q_ q_=>True) (motive_2:=λvs rs q_=>P vs rs) trivial (λq_=>trivial) (λq_ q_=>trivial) (λq_ q_=>trivial) (λq_ q_ q_=>trivial) (λq_=>trivial) (λq_=>trivial) h0 (λa b q_ c=>h1 a b c) x
@[elab_as_elim] theorem aA.e1 {vs:List Value}{P:List Value→Prop}(x:aA h vs [r])(k:∀u,VR h u r→P [u]):P vs:=by cases x with|cons a x=>cases x;exact k _ a
@[elab_as_elim] theorem aA.e2 {vs:List Value}{P:List Value→Prop}(x:aA h vs [r,r'])(k:∀u v,VR h u r→VR h v r'→P [u,v]):P vs:=by cases x with|cons a x=>exact x.e1 (P:=λl=>P (_::l)) λv b=>k _ v a b
@[elab_as_elim] theorem aA.e3 {vs:List Value}{P:List Value→Prop}(x:aA h vs [r,r',Ej])(k:∀u v w,VR h u r→VR h v r'→VR h w Ej→P [u,v,w]):P vs:=by cases x with|cons a x=>exact x.e2 (P:=λl=>P (_::l)) λv w b d=>k _ v w a b d
@[elab_as_elim] theorem VR.eI {u:Value}{i:Int}{P:Value→Prop}(x:VR h u (.int i))(k:∀t,P (.int i t)):P u:=by cases x;exact k _
@[elab_as_elim] theorem VR.eS {u:Value}{i:Str}{P:Value→Prop}(x:VR h u (.str i))(k:∀t,P (.str i t)):P u:=by cases x;exact k _
@[elab_as_elim] theorem VR.eB {u:Value}{i:Bool}{P:Value→Prop}(x:VR h u (.bool i))(k:P (.bool i)):P u:=by cases x;exact k
@[elab_as_elim] theorem VR.eN {u:Value}{P:Value→Prop}(x:VR h u .none)(k:P .none):P u:=by cases x;exact k
@[elab_as_elim] theorem VR.eV {u v:Value}{P:Value→Prop}(x:VR h u (.val v))(k:P v):P u:=by cases x;exact k
@[elab_as_elim] theorem VR.eT {u:Value}{l:List V}{P:Value→Prop}(x:VR h u (.tup l))(k:∀a vs,IsTup h a vs.toArray→aA h vs l→P (.ref a)):P u:=by cases x with|tup a b=>exact k _ _ a b
theorem VR.qV (x:VR h u (.val v)):u=v:=x.eV rfl
theorem aA.length {vs:List Value}{rs:List V}(x:aA h vs rs):vs.length=rs.length:=
 aA.ind (P:=λvs rs=>vs.length=rs.length) rfl (λq_ q_ e=>congrArg (· +1) e) x
theorem aA.get {vs:List Value}{rs:List V}(x:aA h vs rs):∀{i:Nat}{r:V},rs[i]? =some r→∃v,vs[i]? =some v∧VR h v r:=
 aA.ind (P:=λvs rs=>∀{i:Nat}{r:V},rs[i]? =some r→∃v,vs[i]? =some v∧VR h v r) (λe=>nomatch e) (λ{v r vs rs} a _ ih {i s} e=>by
  cases i with
  |zero=>(injection e with e;subst e);exact⟨_,rfl,a⟩
  |succ i=>exact ih e) x
theorem aA.append {n5 rW}(x:aA h vs rs)(y:aA h n5 rW):aA h (vs++n5) (rs++rW):=
 aA.ind (P:=λvs rs=>aA h (vs++n5) (rs++rW)) y (λa q_ b=>.cons a b) x
inductive dc (h:Heap):List DictEntry→List Str→List V→Prop
 |nil:dc h [] [] []
 |cons {e es x ks r vs}{t:Tok}:e.key= .str x t→VR h e.val r→dc h es ks vs→dc h (e::es) (x::ks) (r::vs)
theorem dc.mono (k:TK h h'){es ks vs}(x:dc h es ks vs):dc h' es ks vs:=by
 induction x with
 |nil=>exact .nil
 |cons a x _ ih=>exact .cons a (x.mono k) ih
theorem rX{e:DictEntry}(h:e.key= .str x t):e.key.isStr y= (x==y):=by rw[h];rfl
theorem dc.miss {es:List DictEntry}(I:dc h es ks vs):x∉ks→es.find? (·.key.isStr x)=none∧es.any (·.refKey)=false:=by
 induction I with
 |nil=>exact λq_=>⟨rfl,rfl⟩
 |@cons e es y ks r vs t a b c ih=>
  intro n
  have hy:(y==x)=false:=beq_eq_false_iff_ne.mpr λq=>n (q▸.head _)
  have ih:=ih λq=>n (.tail _ q)
  exact⟨by rw[List.find?_cons,rX a,hy];exact ih.1,by rw[List.any_cons,ih.2];unfold DictEntry.refKey;rw[a];rfl⟩
theorem dc.Ek (r:dc h es ks vs)(n:x∉ks):getL x es=some none:=by
 refine XA (r.miss n) λa b=>?_
 unfold getL;rw[a,b];rfl
theorem dc.find {es:List DictEntry}{ks:List Str}{vs:List V}(I:dc h es ks vs):∀{i:Nat},ks.Nodup→ks[i]? =some x→vs[i]? =some r→∃e,es.find? (·.key.isStr x)=some e∧VR h e.val r:=by
 induction I with
 |nil=>exact λq_ q=>nomatch q
 |@cons e es y ks r vs t a b c ih=>
  intro i nd q q'
  rw[List.nodup_cons]at nd
  cases i with
  |zero=>
   cases q;cases q'
   exact⟨e,by rw[List.find?_cons,rX a,beq_self_eq_true],b⟩
  |succ i=>
   refine ak (ih nd.2 q q') λe' h1 h2=>?_
   have hy:(y==x)=false:=beq_eq_false_iff_ne.mpr λz=>nd.1 (z▸List.mem_of_getElem? q)
   exact⟨e',by rw[List.find?_cons,rX a,hy];exact h1,h2⟩
theorem dc.zg {x:Str}{es:List DictEntry}{ks:List Str}{vs:List V}{i:Nat}(I:dc h es ks vs)(nd:ks.Nodup)(hk:ks[i]? =some x)(hv:vs[i]? =some r):∃v,getL x es=some (some v)∧VR h v r:=by
 refine ak (I.find nd hk hv) λe h1 h2=>?_
 exact⟨e.val,by unfold PySem.W.getL;rw[h1],h2⟩
inductive cN {K:Type}(h:Heap):List (K×Value)→List (K×V)→Prop
 |nil:cN h [] []
 |cons {k v r vs rs}:VR h v r→cN h vs rs→cN h ((k,v)::vs) ((k,r)::rs)
theorem cN.mono {K:Type}(k:TK h h'){es:List (K×Value)}{ps}(x:cN h es ps):cN h' es ps:=by
 induction x with
 |nil=>exact .nil
 |cons x _ ih=>exact .cons (x.mono k) ih
inductive fB {K:Type}(h:Heap):List (K×Addr×Value)→List (K×V)→Prop
 |nil:fB h [] []
 |cons {k a v r vs rs}:VR h v r→fB h vs rs→fB h ((k,a,v)::vs) ((k,r)::rs)
theorem fB.mono {K:Type}(k:TK h h'){es:List (K×Addr×Value)}{ps}(x:fB h es ps):fB h' es ps:=by
 induction x with
 |nil=>exact .nil
 |cons x _ ih=>exact .cons (x.mono k) ih
structure Cx where
 calm:Bool
 held:Addr×Addr×Addr
 prog:Program
 w:World
 K:Frag
 base:Heap
 mg:Str→Option Value
 mb:Str→Option Value
 eH:K.In base
 g:base.Ns mainGlobals mg
 b:base.Ns builtinsNs mb
 nolimit:base.NoLimit
noncomputable abbrev Cx.M (c:Cx):Model:=model c.prog c.w
noncomputable abbrev Cx.ik (c:Cx):KeyKind c.prog c.w Int:=intKind c.prog c.w
noncomputable abbrev Cx.sk (c:Cx):KeyKind c.prog c.w Str:=strKind c.prog c.w
noncomputable abbrev Cx.tk (c:Cx):HeapKind c.prog c.w (List Int):=tupleKind (intKind c.prog c.w)
noncomputable def OR(c:Cx)(h:Heap)(a:Addr):O→Prop
 |.list _ l=>∃vs n,IsL h a vs n∧aA h vs.toList l
 |.dI _ l=>∃bv,h.DictOf c.ik a bv∧cN h bv l
 |.dS _ l=>∃bv,h.DictOf c.sk a bv∧cN h bv l
 |.dT _ l=>∃xs,h.DictOfH c.tk a xs∧fB h xs l
 |.sI _ A n=>h.SetOf c.ik a A n
 |.inst _ C d=>∃ob,h.get? a=some ob∧ob.cls= .ref C∧ob.dict=some d∧notCls ob=true
 |.bb _ ks vs=>∃es n,h.get? a=some (dictOf es n)∧dc h es ks vs
 |.exc _ C d=>∃ob vs,h.get? a=some ob∧ob.cls= .ref C∧ob.dict=d∧ob.data= .fields vs∧vs[1]? =some .none∧vs[2]? =some .none
theorem El(k:TK h h')(x:IsTupleKey (intKind prog w) h ks a):IsTupleKey (intKind prog w) h' ks a:=by
 refine k7 x λo items n e hc hd hi=>?_
 refine nT (k.isTup ⟨o,e,hc,n,hd⟩) λo' e' uJ n' dW=>?_
 exact ml o' items n' e' uJ dW hi
theorem OR.mono {h h':Heap}(k:TK h h')(e:∀o,h.get? a=some o→h'.get? a=some o)(z:OR c h a o):OR c h' a o:=by
 cases o with
 |list _ l=>exact eE z λvs n x y=>⟨vs,n,e _ x,y.mono k⟩
 |dI _ l=>exact ak z λbv x y=>⟨bv,x.at e,y.mono k⟩
 |dS _ l=>exact ak z λbv x y=>⟨bv,x.at e,y.mono k⟩
 |dT _ l=>exact ak z λxs x y=>⟨xs,by (refine iz x λo es ep x1 x2 x3 x4 Em=>?_;refine XA Em λx5 x6=>?_);exact nY o es ep (e _ x1) x2 x3 x4 (λz hz=>El k (x5 z hz)) x6,y.mono k⟩
 |sI _ A n=>
  refine bH z λo es ep t En=>?_
  refine XA En λx1 r=>?_
  exact⟨o,es,ep,t,e _ x1,r⟩
 |inst _ C d=>exact ak z λob x r=>bx ob (e _ x) r
 |bb _ ks vs=>exact eE z λes n x y=>f9 es n (e _ x) (y.mono k)
 |exc _ C d=>exact eE z λob vs x r=>f9 ob vs (e _ x) r
theorem gS(h:a≠b):Value.type a≠Value.type b:=λq=>h (Value.type.inj q)
theorem OR.there {h:Heap}(z:OR c h a o):∃ob,h.get? a=some ob∧ob.cls≠.type "tuple"∧ob.cls≠.type "range":=by
 have n:∀{b:String}{ob:Obj},ob.cls= .type b→b≠"tuple"→b≠"range"→ob.cls≠.type "tuple"∧ob.cls≠.type "range":=λe h1 h2=>by rw[e];exact⟨gS h1,gS h2⟩
 have m:∀{C:Addr}{ob:Obj},ob.cls= .ref C→ob.cls≠.type "tuple"∧ob.cls≠.type "range":=λe=>by rw[e];exact⟨(λq=>nomatch q),λq=>nomatch q⟩
 cases o with
 |list _ l=>exact eE z λvs k x y=>bx _ x (n (b:="list") rfl (by decide) (by decide))
 |dI _ l=>(refine ak z λbv Eo y=>?_;obtain ⟨o,es,ep,x1,x2,x3⟩:=Eo);exact⟨_,x1,n x2.1 (by decide) (by decide)⟩
 |dS _ l=>(refine ak z λbv Ep y=>?_;obtain ⟨o,es,ep,x1,x2,x3⟩:=Ep);exact⟨_,x1,n x2.1 (by decide) (by decide)⟩
 |dT _ l=>(refine ak z λbv Er y=>?_;obtain ⟨o,es,ep,x1,x2,x3⟩:=Er);exact⟨_,x1,n x2.1 (by decide) (by decide)⟩
 |sI _ A n'=>(refine bH z λo es ep t Es=>?_;refine cq Es λx1 x2 r=>?_);exact⟨_,x1,n x2.1 (by decide) (by decide)⟩
 |inst _ C d=>exact bG z λob x y q_=>⟨_,x,m y⟩
 |bb _ ks vs=>exact eE z λes k x y=>bx _ x (n (b:="dict") rfl (by decide) (by decide))
 |exc _ C d=>exact eX z λob vs x y q_=>⟨_,x,m y⟩
theorem OR.Et {h:Heap}(x:OR c h a o)(e:h.get? a=some ob):¬eG ob:=by
 refine bG x.there λVq h1 h2 h3=>?_
 rw[h1]at e;cases e
 rintro (⟨h4,_⟩|⟨h4,_⟩)
 ·exact h2 h4
 ·exact h3 h4
structure St(c:Cx)(σ:S)(h:Heap):Prop where
 base:c.base.StaysIn h
 own:∀a o,σ a=some o→c.base.get? a=none∧OR c h a o
 lo:∀a o,σ a=some o→(a==sysModules)=false
theorem uK(l:∀a o,σ a=some o→(a==sysModules)=false)(ha:(a==sysModules)=false):∀b ob,upd σ a o b=some ob→(b==sysModules)=false:=λb ob hb=>by
 by_cases q:b=a
 ·rw[q];exact ha
 ·rw[cC q]at hb;exact l b ob hb
noncomputable def fC(o o':Obj):Prop:=o'=o∨((∃es n,o.data= .dict es n)∧∃sl,o'= {o with slots:=sl})
theorem fC.refl (o:Obj):fC o o:=.inl rfl
theorem fC.data {o o':Obj}(x:fC o o'):o'.data=o.data:=by (refine Or.elim x (λEu=>?_) λEv=>?_;subst Eu;rotate_left;obtain ⟨_,sl,rfl⟩:=Ev;rotate_right)<;>rfl
theorem fC.exact {o o':Obj}(x:fC o o')(h:∀es n,o.data≠.dict es n):o'=o:=by
 refine Or.elim x (λEw=>?_) λEx=>?_
 subst Ew
 rotate_left
 obtain ⟨⟨es,n,e⟩,_⟩:=Ex
 rotate_right
 ·rfl
 ·exact absurd e (h es n)
theorem fC.trans (x:fC o o')(y:fC o' mr):fC o mr:=by
 refine Or.elim x (λEy=>?_) λEz=>?_
 subst Ey
 rotate_left
 obtain ⟨⟨es,n,e⟩,sl,rfl⟩:=Ez
 rotate_right
 ·exact y
 ·refine Or.elim y (λEA=>?_) λEB=>?_
  subst EA
  rotate_left
  obtain ⟨_,EC,rfl⟩:=EB
  rotate_right
  ·exact .inr ⟨⟨es,n,e⟩,sl,rfl⟩
  ·exact .inr ⟨⟨es,n,e⟩,EC,rfl⟩
structure Kp(X:List Addr)(σ:S)(s:Shared)(af:S)(s':Shared):Prop where
 keep:∀b o,s.heap.get? b=some o→σ b=none→b∉X→af b=none∧∃o',s'.heap.get? b=some o'∧fC o o'
 tup:TK s.heap s'.heap
 gens:s'.gens=s.gens
 drawn:s'.drawn=s.drawn
 os:s'.os=s.os
theorem Kp.refl (X:List Addr)(σ:S)(s:Shared):Kp X σ s σ s:=⟨λb o e z q_=>⟨z,o,e,.refl o⟩,.refl _,rfl,rfl,rfl⟩
theorem Kp.trans (x:Kp X σ s af s')(y:Kp X af s' aL jd):Kp X σ s aL jd:=
 ⟨λb o e z n=>by
  refine dH (x.keep b o e z n) λz' o' e' l'=>?_
  refine dH (y.keep b _ e' z' n) λuL mr uM ED=>?_
  exact⟨uL,mr,uM,l'.trans ED⟩,x.tup.trans y.tup,y.gens.trans x.gens,y.drawn.trans x.drawn,y.os.trans x.os⟩
theorem Kp.up (x:Kp [] σ s af s'):Kp X σ s af s':=
 ⟨λb o e z q_=>x.keep b o e z (by simp),x.tup,x.gens,x.drawn,x.os⟩
theorem ed{h h':Heap}(k:∀b o,h.get? b=some o→h'.get? b=some o):TK h h':=λa o x q_=>k a o x
theorem iA(x:OR c h a o)(e:Heap.SameBut a h h'):TK h h':=λb ob y i=>by
 refine(e.2 b λq=>?_).trans y
 subst q
 exact x.Et y i
theorem St.set (x:St c σ h)(ha:σ a=some o)(e:Heap.SameBut a h h')(y:OR c h' a o'):St c (upd σ a o') h':=by
 have tk:=iA (x.own a o ha).2 e
 refine⟨λb ob hb=>(e.2 b λq=>?_).trans (x.base b ob hb),λb ob hb=>?_,uK x.lo (x.lo _ _ ha)⟩
 ·subst q;rw[(x.own _ _ ha).1]at hb;exact nomatch hb
 ·by_cases q:b=a
  ·subst q;rw[c5]at hb;(injection hb with hb;subst hb);exact⟨(x.own _ _ ha).1,y⟩
  ·rw[cC q]at hb
   exact⟨(x.own b ob hb).1,(x.own b ob hb).2.mono tk λz hz=>(e.2 b q).trans hz⟩
theorem Kp.set {s:Shared}{tk:Nat}(x:St c σ s.heap)(ha:σ a=some o)(e:Heap.SameBut a s.heap h'):Kp X σ s (upd σ a o') {s with heap:=h',toks:=tk}:=
 ⟨λb ob hb z q_=>by
  have q:b≠a:=λq=>by rw[q,ha]at z;exact nomatch z
  exact⟨(cC q).trans z,ob,(e.2 b q).trans hb,.refl ob⟩,iA (x.own a o ha).2 e,rfl,rfl,rfl⟩
theorem St.ext {h h':Heap}(x:St c σ h)(k:∀b o,h.get? b=some o→h'.get? b=some o):St c σ h':=
 ⟨λb o e=>k b o (x.base b o e),λa o e=>⟨(x.own a o e).1,(x.own a o e).2.mono (ed k) λz hz=>k _ _ hz⟩,x.lo⟩
theorem Kp.ext {s:Shared}{h':Heap}{tk:Nat}(k:∀b o,s.heap.get? b=some o→h'.get? b=some o):Kp X σ s σ {s with heap:=h',toks:=tk}:=
 ⟨λb o e z q_=>⟨z,o,k b o e,.refl o⟩,ed k,rfl,rfl,rfl⟩
theorem St.fresh {c:Cx}{h:Heap}(x:St c σ h)(hn:h.get? a=none):σ a=none∧c.base.get? a=none:=by
 refine⟨?_,?_⟩
 ·cases q:σ a with
  |none=>rfl
  |some o=>refine ak ((x.own a o q).2.there) λob e q_=>?_;rw[hn]at e;exact nomatch e
 ·cases q:c.base.get? a with
  |none=>rfl
  |some o=>have:=x.base a o q;rw[hn]at this;exact nomatch this
theorem St.new {h h':Heap}(x:St c σ h)(hn:h.get? a=none)(k:∀b ob,h.get? b=some ob→h'.get? b=some ob)(y:OR c h' a o)(pP:(a==sysModules)=false):St c (upd σ a o) h':=by
 refine⟨λb ob hb=>k _ _ (x.base b ob hb),λb ob hb=>?_,uK x.lo pP⟩
 by_cases q:b=a
 ·subst q;rw[c5]at hb;(injection hb with hb;subst hb);exact⟨(x.fresh hn).2,y⟩
 ·rw[cC q]at hb
  exact⟨(x.own b ob hb).1,(x.own b ob hb).2.mono (ed k) λz hz=>k _ _ hz⟩
theorem Kp.new {s:Shared}{h':Heap}{tk:Nat}(hn:s.heap.get? a=none)(k:∀b ob,s.heap.get? b=some ob→h'.get? b=some ob):Kp X σ s (upd σ a o) {s with heap:=h',toks:=tk}:=
 ⟨λb ob hb z q_=>by
  have q:b≠a:=λq=>by rw[q,hn]at hb;exact nomatch hb
  exact⟨(cC q).trans z,ob,k b ob hb,.refl ob⟩,ed k,rfl,rfl,rfl⟩
noncomputable def Sub(af σ:S):Prop:=∀a o,af a=some o→σ a=some o
theorem Sub.refl (σ:S):Sub σ σ:=λq_ q_ e=>e
theorem St.sub (x:St c σ h)(y:Sub af σ):St c af h:=⟨x.base,λa o e=>x.own a o (y a o e),λa o e=>x.lo a o (y a o e)⟩
theorem Kp.sub (x:Kp X aK bC σ s)(y:Sub af σ):Kp X aK bC af s:=
 ⟨λb o e z n=>by
  refine XA (x.keep b o e z n) λz' r=>?_
  refine⟨?_,r⟩
  cases q:af b with
  |none=>rfl
  |some o'=>exact absurd (y b o' q) (by rw[z'];intro w;exact nomatch w),x.tup,x.gens,x.drawn,x.os⟩
end
noncomputable section
noncomputable def n6(A:Around)(k:Nat):Prop:=A.depth+4*k+10<recursionLimit∧A.units+16*k+300<cLine
noncomputable def jU(h:Heap)(b:Addr):Prop:=∃o es n,h.get? b=some o∧o.data= .dict es n
theorem rY{h:Heap}(n:h.Ns L m):jU h L:=n.elim λo n=>n.elim λes n=>n.elim λep n=>gb o es ep n.1 n.2.1
theorem EE{h:Heap}(n:h.IsCell L v)(x:jU h L):False:=by
 refine ak n λo e d=>?_
 refine gP x λo' es m e' d'=>?_
 rw[e]at e';(injection e' with e';subst e');rw[d]at d';contradiction
structure lh(c:Cx)(A:Around)(outer:List Env)(σ:S)(h:Heap):Prop where
 eq:A.frames=some outer
 dz:h.FunFrames c.base outer
 own:∀env∈outer,∀b,env.frame=some b→σ b=none
 dX:∀env∈outer,∀b,env.frame=some b→jU h b
noncomputable def Hd(c:Cx)(A:Around)(σ:S)(h:Heap):Prop:=(c.calm=true→A.handled=none)∧(
 A.handled=none∨∃e o vs,A.handled=some (.ref e)∧σ e=none∧c.base.get? e=none∧h.get? e=some o∧o.data= .fields vs∧(vs[2]? =some .none∧e=c.held.1∧o.cls= .ref c.held.2.1∧o.dict=some c.held.2.2))
structure Fm where
 inner:Bool
 env:Env
 B:Around
 stack:List Env
 N:List Str
 G:List (Str×V)
noncomputable abbrev Fm.own (f:Fm):List Addr:=f.env.locals::f.env.cells.map (·.2)
noncomputable def Fm.X (f:Fm):List Addr:=f.env.locals::bif f.inner then [] else f.env.cells.map (·.2)
theorem Fm.iB {f:Fm}(h:b∈f.X):b∈f.own:=by
 unfold Fm.X at h
 cases hi:f.inner with
 |false=>rw[hi]at h;exact h
 |true=>
  rw[hi]at h
  refine bO h ?_ λh=>?_
  ·exact .head _
  ·exact dx h
theorem Fm.EF {f:Fm}(hi:f.inner=false)(h:b∈f.own):b∈f.X:=by unfold Fm.X;exact ae hi h
noncomputable def Cx.pQ (c:Cx)(x:Str)(r:V):Prop:=∃v,VR c.base v r∧(c.mg x=some v∨(c.mg x=none∧c.mb x=some v))
structure Fm.Ok (c:Cx)(f:Fm):Prop where
 kind:f.env.scope.kind= .function
 gl:f.env.globals=mainGlobals
 bi:f.env.builtins=builtinsNs
 nodup:f.N.Nodup
 n7:f.own.Nodup
 loc:∀x∈f.N,(f.env.kindOf x=some .local∨(f.env.kindOf x=some .cell∧∃a,f.env.cells.lookup x=some a))∧(x==("__debug__":Str))=false
 aF:∀p∈f.G,(f.env.kindOf p.1=some .globalImplicit∧(p.1==("__debug__":Str))=false)∧c.pQ p.1 p.2
noncomputable abbrev Lo:=List (Option V)
noncomputable def EG(env:Env)(m:Str→Option Value)(h:Heap)(x:Str)(v:Value):Prop:=
 (env.kindOf x=some .local∧m x=some v)∨(env.kindOf x=some .cell∧∃a,env.cells.lookup x=some a∧h.IsCell a (some v))
noncomputable def zh(f:Fm)(ρ:Lo)(h:Heap):Prop:=∃m,h.Ns f.env.locals m∧∀(i:Nat) (x:Str) (r:V),f.N[i]? =some x→ρ[i]? =some (some r)→∃v,VR h v r∧EG f.env m h x v
structure In(c:Cx)(f:Fm)(k:Nat)(ρ:Lo)(σ:S)(h:Heap):Prop where
 st:St c σ h
 ok:f.Ok c
 loc:zh f ρ h
 jV:∀p∈f.env.cells,∃v,h.IsCell p.2 v
 own:∀b∈f.own,σ b=none∧c.base.get? b=none
 cr:lh c f.B f.stack σ h
 room:n6 f.B k
 hd:Hd c f.B σ h
inductive bh (c:Cx)(f:Fm)(k:Nat)(ρ:Lo)(σ:S)(s:Shared)(Q:V→S→Prop)(v:Value)(s':Shared):Prop
 |mk (r:V) (af:S) (a:In c f k ρ af s'.heap) (b:VR s'.heap v r) (d:Kp f.X σ s af s') (q:Q r af):bh c f k ρ σ s Q v s'
inductive rZ (c:Cx)(f:Fm)(k:Nat)(ρ:Lo)(σ:S)(s:Shared)(Q:List V→S→Prop)(vs:List Value)(s':Shared):Prop
 |mk (r:List V) (af:S) (a:In c f k ρ af s'.heap) (b:aA s'.heap vs r) (d:Kp f.X σ s af s') (q:Q r af):rZ c f k ρ σ s Q vs s'
inductive li (c:Cx)(f:Fm)(k:Nat)(ρ:Lo)(σ:S)(s:Shared)(Q:Bool→S→Prop)(b:Bool)(s':Shared):Prop
 |mk (af:S) (a:In c f k ρ af s'.heap) (d:Kp f.X σ s af s') (q:Q b af):li c f k ρ σ s Q b s'
inductive r4 (c:Cx)(f:Fm)(k:Nat)(ρ:Lo)(σ:S)(s:Shared)(Q:S→Prop)(u:Unit)(s':Shared):Prop
 |mk (af:S) (a:In c f k ρ af s'.heap) (d:Kp f.X σ s af s') (q:Q af):r4 c f k ρ σ s Q u s'
inductive Fl where
 |next|brk|cont
 |ret (r:V)
inductive FR (h:Heap):Flow→Fl→Prop
 |next:FR h .next .next
 |brk:FR h .brk .brk
 |cont:FR h .cont .cont
 |ret {v r}:VR h v r→FR h (.ret v) (.ret r)
inductive dA (c:Cx)(f:Fm)(k:Nat)(σ:S)(s:Shared)(Q:Fl→Lo→S→Prop)(fl:Flow)(s':Shared):Prop
 |mk (r:Fl) (ρ':Lo) (af:S) (a:In c f k ρ' af s'.heap) (b:FR s'.heap fl r) (d:Kp f.X σ s af s') (q:Q r ρ' af):dA c f k σ s Q fl s'
theorem bh.el {f:Fm}{s':Shared}{P:Prop}(x:bh c f k ρ σ s Q v s')(n:∀r af,In c f k ρ af s'.heap→VR s'.heap v r→Kp f.X σ s af s'→Q r af→P):P:=by
 cases x with|mk r af a b d q=>exact n r af a b d q
theorem rZ.el {f:Fm}{s':Shared}{P:Prop}(x:rZ c f k ρ σ s Q v s')(n:∀r af,In c f k ρ af s'.heap→aA s'.heap v r→Kp f.X σ s af s'→Q r af→P):P:=by
 cases x with|mk r af a b d q=>exact n r af a b d q
theorem li.el {f:Fm}{s':Shared}{P:Prop}(x:li c f k ρ σ s Q v s')(n:∀af,In c f k ρ af s'.heap→Kp f.X σ s af s'→Q v af→P):P:=by
 cases x with|mk af a d q=>exact n af a d q
theorem r4.el {f:Fm}{s':Shared}{P:Prop}(x:r4 c f k ρ σ s Q v s')(n:∀af,In c f k ρ af s'.heap→Kp f.X σ s af s'→Q af→P):P:=by
 cases x with|mk af a d q=>exact n af a d q
theorem dA.el {f:Fm}{s':Shared}{P:Prop}(x:dA c f k σ s Q v s')(n:∀r ρ' af,In c f k ρ' af s'.heap→FR s'.heap v r→Kp f.X σ s af s'→Q r ρ' af→P):P:=by
 cases x with|mk r ρ' af a b d q=>exact n r ρ' af a b d q
section
variable (c:Cx)(f:Fm)(E:Value→Shared→Prop)(k:Nat)
noncomputable def EV(e:Expr)(ρ:Lo)(σ:S)(Q:V→S→Prop):Prop:=∀s,In c f k ρ σ s.heap→wpAny c.M f.B (eval e f.env) (bh c f k ρ σ s Q) E s
noncomputable def bQ(es:List Expr)(ρ:Lo)(σ:S)(Q:List V→S→Prop):Prop:=∀pos s,In c f k ρ σ s.heap→wpAny c.M f.B (spliced (backTo pos (starEach es f.env))) (rZ c f k ρ σ s Q) E s
noncomputable def ET(e:Expr)(ρ:Lo)(σ:S)(Q:Bool→S→Prop):Prop:=∀s,In c f k ρ σ s.heap→wpAny c.M f.B (isTrue e f.env (eval e f.env)) (li c f k ρ σ s Q) E s
noncomputable def EX(ss:List Stmt)(ρ:Lo)(σ:S)(Q:Fl→Lo→S→Prop):Prop:=∀s,In c f k ρ σ s.heap→wpAny c.M f.B (execs ss f.env) (dA c f k σ s Q) E s
noncomputable def aS(st:Stmt)(ρ:Lo)(σ:S)(Q:Fl→Lo→S→Prop):Prop:=∀s,In c f k ρ σ s.heap→wpAny c.M f.B (exec st f.env) (dA c f k σ s Q) E s
noncomputable def OV(t:List Value→Sem Value)(rs:List V)(ρ:Lo)(σ:S)(Q:V→S→Prop):Prop:=∀s vs,In c f k ρ σ s.heap→aA s.heap vs rs→wpAny c.M f.B (t vs) (bh c f k ρ σ s Q) E s
noncomputable def OU(t:List Value→Sem Unit)(rs:List V)(ρ:Lo)(σ:S)(Q:S→Prop):Prop:=∀s vs,In c f k ρ σ s.heap→aA s.heap vs rs→wpAny c.M f.B (t vs) (r4 c f k ρ σ s Q) E s
noncomputable def OB(t:List Value→Sem Bool)(rs:List V)(ρ:Lo)(σ:S)(Q:Bool→S→Prop):Prop:=∀s vs,In c f k ρ σ s.heap→aA s.heap vs rs→wpAny c.M f.B (t vs) (li c f k ρ σ s Q) E s
end
section
variable {c:Cx}{f:Fm}{E:Value→Shared→Prop}{k:Nat}{ρ:Lo}{σ:S}
theorem EH{s s':Shared}(kp:Kp X σ s af s')(hX:∀b∈X,af b=none∧∃o,s'.heap.get? b=some o∧∀vs,o.data≠.fields vs)
  :s.heap.FunFrames base l→(∀env∈l,∀b,env.frame=some b→σ b=none)→s'.heap.FunFrames base l∧∀env∈l,∀b,env.frame=some b→af b=none:=by
 induction l with
 |nil=>exact λq_ q_=>⟨trivial,λq_ h=>dx h⟩
 |cons env r ih=>
  refine λf hs=>cq f λhk f hr=>uv f λL' o hf hn ho hd=>?_
  refine XA (ih hr λe he=>hs e (.tail _ he)) λa b=>?_
  have key:af L'=none∧∃o,s'.heap.get? L'=some o∧∀vs,o.data≠.fields vs:=by
   by_cases q:L'∈X
   ·exact hX _ q
   ·exact dH (kp.keep L' o ho (hs env (.head _) L' hf) q) λz o' e l=>⟨z,_,e,l.data▸hd⟩
  refine dH key λz o' e dW=>⟨⟨hk,⟨L',_,hf,hn,e,dW⟩,a⟩,λe' he b' n8=>?_⟩
  refine Or.elim (List.mem_cons.mp he) (λq=>?_) λhe=>b e' he b' n8
  exact Option.some.inj (hf.symm.trans ((congrArg _ q.symm).trans n8))▸z
theorem lh.kp {s s':Shared}(x:lh c A outer σ s.heap)(kp:Kp X σ s af s')(hX:∀b∈X,af b=none∧∃o,s'.heap.get? b=some o∧∀vs,o.data≠.fields vs)(hD:∀b∈X,jU s.heap b→jU s'.heap b):lh c A outer af s'.heap:=
 have y:=EH kp hX x.dz x.own
 ⟨x.eq,y.1,y.2,λenv he b hb=>by
  by_cases q:b∈X
  ·exact hD b q (x.dX env he b hb)
  ·refine gP (x.dX env he b hb) λo es n e d=>?_
   refine dH (kp.keep b o e (x.own env he b hb) q) λq_ o' e' l=>?_
   exact gb o' es n e' (l.data.trans d)⟩
theorem Hd.kp {s s':Shared}(x:Hd c A σ s.heap)(hX:∀b∈X,∃o,s.heap.get? b=some o∧∀vs,o.data≠.fields vs)(kp:Kp X σ s af s'):Hd c A af s'.heap:=by
 refine⟨x.1,?_⟩
 refine Or.elim x.2 (λh=>?_) λEI=>?_
 rotate_left
 obtain ⟨e,o,vs,h1,h2,h3,h4,h5,h6⟩:=EI
 rotate_right
 ·exact .inl h
 ·obtain ⟨z,o',e',l⟩:=kp.keep e o h4 h2 (λq=>by
   refine ak (hX e q) λo' e1 e2=>?_
   rw[h4]at e1;(injection e1 with e1;subst e1)
   exact e2 _ h5)
  obtain rfl:=l.exact (λes n q=>by rw[h5]at q;contradiction)
  exact .inr (nY e _ vs h1 z h3 e' h5 h6)
theorem uN{h:Heap}(n:h.Ns L m):∃o,h.get? L=some o∧∀vs,o.data≠.fields vs:=
 n.elim λo n=>n.elim λes n=>n.elim λep n=>⟨o,n.1,λvs q=>nomatch n.2.1.symm.trans q⟩
theorem zj{h:Heap}(n:h.IsCell L v):∃o,h.get? L=some o∧∀vs,o.data≠.fields vs:=
 let ⟨o,e,d⟩:=n;⟨o,e,λvs q=>by rw[d]at q;contradiction⟩
theorem zk{o:Obj}(d:o.data= .dict es n):¬eG o:=by
 rintro (⟨_,xs,n,e⟩|⟨_,vs,e⟩)<;> (rw[d]at e;contradiction)
theorem uO{h:Heap}(n:h.Ns L m)(e:h.get? L=some o):¬eG o:=by
 refine f7 n λo' es ep e' d' q_=>?_
 rw[e]at e';(injection e' with e';subst e')
 exact zk d'
theorem EJ{h:Heap}(n:h.IsCell L v)(e:h.get? L=some o):¬eG o:=by
 refine ak n λo' e' d'=>?_
 rw[e]at e';(injection e' with e';subst e')
 rintro (⟨_,xs,n,e⟩|⟨_,vs,e⟩)<;> (rw[d']at e;contradiction)
theorem In.hX {h:Heap}(x:In c f k ρ σ h):∀b∈f.own,∃o,h.get? b=some o∧∀vs,o.data≠.fields vs:=λb hb=>by
 refine bO hb ?_ λhb=>?_
 ·refine ak x.loc λm n q_=>?_;exact uN n
 ·refine eU hb λp hp=>?_
  refine XE (x.jV p hp) λv hv=>?_
  exact zj hv
theorem IsCell.slots {h h':Heap}(x:h.IsCell a v)(e:∀o,h.get? a=some o→∃o',h'.get? a=some o'∧fC o o'):h'.IsCell a v:=by
 refine ak x λo h1 h2=>?_
 refine ak (e o h1) λo' h3 l=>?_
 exact⟨_,h3,l.data.trans h2⟩
theorem Ns.slots {h h':Heap}(x:h.Ns a m)(e:∀o,h.get? a=some o→∃o',h'.get? a=some o'∧fC o o'):h'.Ns a m:=by
 refine f7 x λo es ep h1 h2 hr=>?_
 refine ak (e o h1) λo' h3 l=>?_
 exact mj _ es ep h3 (l.data.trans h2) hr
theorem je{α:Type}{a:α}{l:List (Str×α)}:l.lookup x=some a→(x,a)∈l:=by
 induction l with
 |nil=>exact λh=>aJ h
 |cons p r ih=>
  intro h
  have h:=List.lookup_cons.symm.trans h
  cases q:x==p.1 with
  |true=>rw[q]at h;cases h;exact ae (beq_iff_eq.mp q) (.head _)
  |false=>rw[q]at h;exact .tail _ (ih h)
theorem r5{f:Fm}(h:f.env.cells.lookup x=some a):a∈f.own:=.tail _ (List.mem_map.mpr ⟨(x,a),je h,rfl⟩)
theorem In.jW {s s':Shared}(x:In c f k ρ σ s.heap)(st:St c af s'.heap)(kp:Kp [] σ s af s'):In c f k ρ af s'.heap∧Kp f.X σ s af s':=by
 have kk:∀b∈f.own,af b=none∧∀o,s.heap.get? b=some o→∃o',s'.heap.get? b=some o'∧fC o o':=λb hb=>by
  refine ak (x.hX b hb) λo e q_=>?_
  have h:=kp.keep b o e (x.own b hb).1 (by simp)
  refine⟨h.1,λo' e'=>?_⟩
  rw[e]at e';(injection e' with e';subst e');exact h.2
 have hX:∀b∈f.own,af b=none∧∃o,s'.heap.get? b=some o∧∀vs,o.data≠.fields vs:=λb hb=>by
  refine ak (x.hX b hb) λo e d=>?_
  refine ak ((kk b hb).2 o e) λo' e' l=>?_
  exact⟨(kk b hb).1,_,e',by exact ae l.data d⟩
 refine⟨⟨st,x.ok,?_,λp hp=>?_,λb hb=>⟨(kk b hb).1,(x.own b hb).2⟩,x.cr.kp kp.up hX (λb hb y=>by refine gP y λo es n e d=>?_;refine ak ((kk b hb).2 o e) λo' e' l=>?_;exact gb o' es n e' (l.data.trans d)),x.room,x.hd.kp (X:=f.own) x.hX kp.up⟩,kp.up⟩
 ·refine ak x.loc λm n h=>?_
  refine bx m (Ns.slots n (kk _ (.head _)).2) (λi y r' h1 h2=>?_)
  refine ak (h i y r' h1 h2) λv a b=>?_
  refine⟨v,a.mono kp.tup,?_⟩
  refine Or.elim b (λb=>?_) λEK=>?_
  rotate_left
  obtain ⟨b1,a',b2,b3⟩:=EK
  rotate_right
  ·exact .inl b
  ·exact .inr ⟨b1,a',b2,IsCell.slots b3 (kk _ (r5 b2)).2⟩
 ·refine XE (x.jV p hp) λv hv=>?_
  exact⟨v,IsCell.slots hv (kk p.2 (.tail _ (List.mem_map.mpr ⟨p,hp,rfl⟩))).2⟩
theorem In.ext {s:Shared}{h':Heap}{tk:Nat}(x:In c f k ρ σ s.heap)(kk:∀b o,s.heap.get? b=some o→h'.get? b=some o):In c f k ρ σ h'∧Kp f.X σ s σ {s with heap:=h',toks:=tk}:=
 x.jW (s':={s with heap:=h',toks:=tk}) (x.st.ext kk) (Kp.ext kk)
theorem In.set {s:Shared}{tk:Nat}(x:In c f k ρ σ s.heap)(ha:σ a=some o)(e:Heap.SameBut a s.heap h')(y:OR c h' a o'):
  In c f k ρ (upd σ a o') h'∧Kp f.X σ s (upd σ a o') {s with heap:=h',toks:=tk}:=
 x.jW (s':={s with heap:=h',toks:=tk}) (x.st.set ha e y) (Kp.set x.st ha e)
theorem In.new {s:Shared}{h':Heap}{tk:Nat}(x:In c f k ρ σ s.heap)(hn:s.heap.get? a=none)(kk:∀b ob,s.heap.get? b=some ob→h'.get? b=some ob)(y:OR c h' a o)(pP:(a==sysModules)=false):
  In c f k ρ (upd σ a o) h'∧Kp f.X σ s (upd σ a o) {s with heap:=h',toks:=tk}:=
 x.jW (s':={s with heap:=h',toks:=tk}) (x.st.new hn kk y pP) (Kp.new hn kk)
theorem In.sub (x:In c f k ρ σ h)(y:Sub af σ):In c f k ρ af h:=by
 have no:∀b,σ b=none→af b=none:=λb z=>by
  cases q:af b with
  |none=>rfl
  |some o=>exact absurd (y b o q) (by refine ae z ?_;intro w;exact aJ w)
 refine⟨x.st.sub y,x.ok,x.loc,x.jV,λb hb=>⟨no b (x.own b hb).1,(x.own b hb).2⟩,⟨x.cr.eq,x.cr.dz,λe he b hb=>no b (x.cr.own e he b hb),x.cr.dX⟩,x.room,?_⟩
 refine⟨x.hd.1,?_⟩
 refine Or.elim x.hd.2 (λh=>?_) λEL=>?_
 rotate_left
 obtain ⟨e,o,vs,h1,h2,r⟩:=EL
 rotate_right
 ·exact .inl h
 ·exact .inr (mj e o vs h1 (no e h2) r)
theorem bh.trans (kp:Kp f.X σ s ah aw)(x:bh c f k ρ ah aw Q v s'):bh c f k ρ σ s Q v s':=
 x.el λr af a b d e=>⟨r,af,a,b,kp.trans d,e⟩
theorem li.trans (kp:Kp f.X σ s ah aw)(x:li c f k ρ ah aw Q v s'):li c f k ρ σ s Q v s':=
 x.el λaf a d e=>⟨af,a,kp.trans d,e⟩
theorem dA.trans (kp:Kp f.X σ s ah aw)(x:dA c f k ah aw Q v s'):dA c f k σ s Q v s':=
 x.el λr ρ' af a b d e=>⟨r,ρ',af,a,b,kp.trans d,e⟩
theorem bh.now {s:Shared}(x:In c f k ρ σ s.heap)(y:VR s.heap v r)(q:Q r σ):bh c f k ρ σ s Q v s:=⟨r,σ,x,y,.refl ..,q⟩
theorem bh.tk {s:Shared}{t:Nat}(x:In c f k ρ σ s.heap)(y:VR s.heap v r)(q:Q r σ):bh c f k ρ σ s Q v {s with toks:=t}:=
 ⟨r,σ,x,y,⟨λb o e z q_=>⟨z,o,e,.refl o⟩,.refl _,rfl,rfl,rfl⟩,q⟩
theorem Kp.tk {t:Nat}:Kp X σ s σ {s with toks:=t}:=⟨λb o e z q_=>⟨z,o,e,.refl o⟩,.refl _,rfl,rfl,rfl⟩
theorem EV.mono (x:EV c f E k e ρ σ Q)(h:∀r af,Q r af→Q' r af):EV c f E k e ρ σ Q':=λs i=>
 wpAny_mono (x s i) (λv s' ck=>ck.el λr af a b d e=>⟨r,af,a,b,d,h _ _ e⟩) λq_ q_ z=>z
theorem ET.mono (x:ET c f E k e ρ σ Q)(h:∀r af,Q r af→Q' r af):ET c f E k e ρ σ Q':=λs i=>
 wpAny_mono (x s i) (λv s' cx=>cx.el λaf a d e=>⟨af,a,d,h _ _ e⟩) λq_ q_ z=>z
theorem EX.mono (x:EX c f E k e ρ σ Q)(h:∀r ρ' af,Q r ρ' af→Q' r ρ' af):EX c f E k e ρ σ Q':=λs i=>
 wpAny_mono (x s i) (λv s' dJ=>dJ.el λr ρ' af a b d e=>⟨r,ρ',af,a,b,d,h _ _ _ e⟩) λq_ q_ z=>z
theorem aS.mono (x:aS c f E k e ρ σ Q)(h:∀r ρ' af,Q r ρ' af→Q' r ρ' af):aS c f E k e ρ σ Q':=λs i=>
 wpAny_mono (x s i) (λv s' eZ=>eZ.el λr ρ' af a b d e=>⟨r,ρ',af,a,b,d,h _ _ _ e⟩) λq_ q_ z=>z
end
inductive Ix:List Str→Str→Nat→Prop
 |here {x N}:Ix (x::N) x 0
 |there {x y N i}:Ix N x i→Ix (y::N) x (i+1)
theorem Ix.get {N:List Str}(h:Ix N x i):N[i]? =some x:=by
 induction h with
 |here=>rfl
 |there _ ih=>simpa using ih
inductive Gm:List (Str×V)→Str→V→Prop
 |here {x r G}:Gm ((x,r)::G) x r
 |there {x r p G}:Gm G x r→Gm (p::G) x r
theorem Gm.mem (h:Gm G x r):(x,r)∈G:=by
 induction h with
 |here=>exact .head _
 |there _ ih=>exact .tail _ ih
section
variable {c:Cx}{f:Fm}{E:Value→Shared→Prop}{k:Nat}{ρ:Lo}{σ:S}{Q:V→S→Prop}
theorem EV.loc (hi:Ix f.N x i)(hr:ρ[i]? =some (some r))(q:Q r σ):EV c f E k (.Name x pos) ρ σ Q:=λs I=>by
 refine ak I.loc λm n h=>?_
 refine ak (h i x r hi.get hr) λv h2 h1=>?_
 have hm:x∈f.N:=List.mem_of_getElem? hi.get
 refine Or.elim h1 (λEM=>?_) λEN=>?_
 obtain ⟨h0,h1⟩:=EM
 rotate_left
 obtain ⟨h0,a,h1,h3⟩:=EN
 rotate_right
 ·exact wpAny_Name (wpAny_loadName_local I.ok.kind h0 n h1 (bh.now I h2 q)) (I.ok.loc x hm).2
 ·exact wpAny_Name (wpAny_loadName_cell I.ok.kind h0 h1 h3 (bh.now I h2 q)) (I.ok.loc x hm).2
theorem EV.aF (hg:Gm f.G x r)(q:Q r σ):EV c f E k (.Name x pos) ρ σ Q:=λs I=>by
 refine dH (I.ok.aF _ hg.mem) λEO v h3 h4=>?_
 refine XA EO λh1 h2=>?_
 have hv:VR s.heap v r:=h3.mono (ed I.st.base)
 refine Calls.Name_function_global I.ok.kind h1 ?_ h2
 refine Or.elim h4 (λe=>?_) λEP=>?_
 rotate_left
 obtain ⟨e1,e2⟩:=EP
 rotate_right
 ·exact Calls.loadGlobal_global (env:=f.env) (by exact ae I.ok.gl (c.g.keeps I.st.base)) e (bh.now I hv q)
 ·exact Calls.loadGlobal_builtin (env:=f.env) (by exact ae I.ok.gl (c.g.keeps I.st.base)) e1 (by exact ae I.ok.bi (c.b.keeps I.st.base)) e2 (bh.now I hv q)
theorem EV.int (q:Q (.int i) σ):EV c f E k (.Constant (.int i) n pos) ρ σ Q:=λs I=>wpAny_Constant_int (bh.tk I (.int ..) q)
theorem EV.str (q:Q (.str x) σ):EV c f E k (.Constant (.str x) n pos) ρ σ Q:=λs I=>Calls.Constant_str (bh.tk I (.str ..) q)
theorem EV.EQ (q:Q (.bool b) σ):EV c f E k (.Constant (.bool b) n pos) ρ σ Q:=λs I=>λq_ q_ q_=>bh.now I (.bool ..) q
theorem EV.ER (q:Q .none σ):EV c f E k (.Constant .none n pos) ρ σ Q:=λs I=>λq_ q_ q_=>bh.now I .none q
theorem EV.binop (h:EV c f E k l ρ σ λa ah=>EV c f E k r ρ ah λb av=>OV c f E k (λvs=>binaryOp op (vs.getD 0 .none) (vs.getD 1 .none)) [a,b] ρ av Q):
  EV c f E k (.BinOp l op r pos) ρ σ Q:=λs I=>by
 refine wpAny_BinOp (wpAny_mono (h s I) (λe9 aw jX=>jX.el λa ah aB aP ag cy=>?_) λq_ q_ z=>z)
 refine wpAny_mono (cy aw aB) (λfE aO jY=>jY.el λb av aR cg aj eJ=>?_) λq_ q_ z=>z
 exact wpAny_mono (eJ aO [e9,fE] aR (.cons (aP.mono aj.tup) (.cons cg .nil))) (λv s' x=>x.trans (ag.trans aj)) λq_ q_ z=>z
theorem EV.cmp (h:EV c f E k l ρ σ λa ah=>EV c f E k r ρ ah λb av=>OV c f E k (λvs=>compareOp op (vs.getD 0 .none) (vs.getD 1 .none)) [a,b] ρ av Q)
  (hm:behindInMarks op r=false:=by with_unfolding_all rfl):EV c f E k (.Compare l [op] [r] pos) ρ σ Q:=λs I=>by
 refine wpAny_Compare1 (wpAny_mono (h s I) (λe9 aw pR=>pR.el λa ah aB aP ag cy=>?_) λq_ q_ z=>z) hm
 refine wpAny_mono (cy aw aB) (λfE aO uP=>uP.el λb av aR cg aj eJ=>?_) λq_ q_ z=>z
 exact wpAny_mono (eJ aO [e9,fE] aR (.cons (aP.mono aj.tup) (.cons cg .nil))) (λv s' x=>x.trans (ag.trans aj)) λq_ q_ z=>z
theorem ET.cmp {l r:Expr}{op:CmpOp}{pos:Pos}{Q:Bool→S→Prop}(h:EV c f E k l ρ σ λa ah=>EV c f E k r ρ ah λb av=>OV c f E k (λvs=>compareOp op (vs.getD 0 .none) (vs.getD 1 .none)) [a,b] ρ av λr aW=>∃b,r= .bool b∧Q b aW)
  (hm:behindInMarks op r=false:=by with_unfolding_all rfl):ET c f E k (.Compare l [op] [r] pos) ρ σ Q:=λs I=>by
 refine wpAny_isTrue_Compare1 (wpAny_mono (h s I) (λe9 aw ES=>ES.el λa ah aB aP ag cy=>?_) λq_ q_ z=>z) hm
 refine wpAny_mono (cy aw aB) (λfE aO EU=>EU.el λb av aR cg aj eJ=>?_) λq_ q_ z=>z
 refine wpAny_mono (eJ aO [e9,fE] aR (.cons (aP.mono aj.tup) (.cons cg .nil))) (λv s' EW=>EW.el λr aW ct jf aC EY=>?_) λq_ q_ z=>z
 refine ak EY λb e q=>?_
 subst e
 cases jf
 exact wpAny_truthy_bool ⟨aW,ct,(ag.trans aj).trans aC,q⟩
theorem bQ.nil {Q:List V→S→Prop}(q:Q [] σ):bQ c f E k [] ρ σ Q:=λpos s I=>Calls.spliced_nil ⟨[],σ,I,.nil,.refl ..,q⟩
theorem bQ.cons {es:List Expr}{Q:List V→S→Prop}(h:EV c f E k e ρ σ λr ah=>bQ c f E k es ρ ah λrs av=>Q (r::rs) av)
  (he:starEach (e::es) f.env= (false,eval e f.env)::starEach es f.env:=by rfl):bQ c f E k (e::es) ρ σ Q:=λpos s I=>by
 refine ae he ?_
 refine Calls.spliced_cons (wpAny_mono (h s I) (λe9 aw EZ=>EZ.el λa ah aB aP ag cy=>?_) λq_ q_ z=>z)
 exact wpAny_mono (cy pos aw aB) (λvs aO E1=>E1.el λrs av aR cg aj eJ=>⟨_,_,aR,.cons (aP.mono aj.tup) cg,ag.trans aj,eJ⟩) λq_ q_ z=>z
theorem EV.tup (h:bQ c f E k es ρ σ λrs ah=>rs.length≤sizeLine∧Q (.tup rs) ah):EV c f E k (.Tuple es n pos) ρ σ Q:=λs I=>by
 refine Tuple_ (wpAny_mono (h pos s I) (λvs aw E2=>E2.el λrs ah aB aP ag E3=>?_) λq_ q_ z=>z)
 refine XA E3 λhl cy=>?_
 have kk:∀b o,aw.heap.get? b=some o→(aw.heap.push {cls:=.type "tuple",data:=.seq vs.toArray}).get? b=some o:=λb o e=>Heap.get?_push_of_some _ e
 refine XA (aB.ext (tk:=aw.toks) kk) λaR aj=>?_
 refine wpAny_newObj_type ⟨_,ah,aR,.tup (vs:=vs) ⟨_,Heap.get?_push_size _ rfl,rfl,_,rfl⟩ (aP.mono (ed kk)),ag.trans aj,cy⟩ ?_
 show vs.toArray.size≤sizeLine
 refine ae List.size_toArray (ae aP.length ?_);exact hl
theorem jg{h:Heap}(st:St c σ h):(h.objs.size==sysModules)=false:=beq_eq_false_iff_ne.mpr λe=>by
 have:=modules_low (c.nolimit.keeps st.base)
 rw[e]at this;exact Nat.lt_irrefl _ this
theorem EX.nil {Q:Fl→Lo→S→Prop}(q:Q .next ρ σ):EX c f E k [] ρ σ Q:=λs I=>wpAny_execs_nil ⟨.next,ρ,σ,I,.next,.refl ..,q⟩
theorem EX.cons {st:Stmt}{ss:List Stmt}{Q:Fl→Lo→S→Prop}(h:aS c f E k st ρ σ λfl ρ' af=>match fl with|.next=>EX c f E k ss ρ' af Q|fl=>Q fl ρ' af):EX c f E k (st::ss) ρ σ Q:=λs I=>by
 refine wpAny_execs_cons (wpAny_mono (h s I) (λfl aw E4=>E4.el λr ρ' af I' h' k' q'=>?_) λq_ q_ z=>z)
 cases h' with
 |next=>exact wpAny_mono (q' aw I') (λq_ q_ x=>x.trans k') λq_ q_ z=>z
 |brk=>exact⟨_,_,_,I',.brk,k',q'⟩
 |cont=>exact⟨_,_,_,I',.cont,k',q'⟩
 |ret h=>exact⟨_,_,_,I',.ret h,k',q'⟩
theorem aS.ret {e:Expr}{pos:Pos}{Q:Fl→Lo→S→Prop}(h:EV c f E k e ρ σ λr af=>Q (.ret r) ρ af):aS c f E k (.Return (some e) pos) ρ σ Q:=λs I=>
 wpAny_Return_some (wpAny_mono (h s I) (λv aw E5=>E5.el λr af I' h' k' q'=>⟨_,_,_,I',.ret h',k',q'⟩) λq_ q_ z=>z)
theorem aS.r6 {pos:Pos}{Q:Fl→Lo→S→Prop}(q:Q (.ret .none) ρ σ):aS c f E k (.Return none pos) ρ σ Q:=λs I=>
 wpAny_Return_none ⟨_,_,_,I,.ret .none,.refl ..,q⟩
theorem aS.E6 {e:Expr}{lj ll:List Stmt}{pos:Pos}{Q:Fl→Lo→S→Prop}(h:ET c f E k e ρ σ λb af=>match b with|true=>EX c f E k lj ρ af Q|false=>EX c f E k ll ρ af Q):
  aS c f E k (.If e lj ll pos) ρ σ Q:=λs I=>by
 refine wpAny_If (wpAny_mono (h s I) (λb aw E7=>E7.el λaf I' k' q'=>?_) λq_ q_ z=>z)
 cases b
 ·exact wpAny_mono (q' aw I') (λq_ q_ x=>x.trans k') λq_ q_ z=>z
 ·exact wpAny_mono (q' aw I') (λq_ q_ x=>x.trans k') λq_ q_ z=>z
theorem In.uQ {s:Shared}{h':Heap}{tk:Nat}(I:In c f k ρ σ s.heap)(hb:b∈f.X)(hs:Heap.SameBut b s.heap h')(zl:∀o,s.heap.get? b=some o→¬eG o)(uR:∃o,h'.get? b=some o∧∀vs,o.data≠.fields vs)
  (iC:jU s.heap b→jU h' b) (hl:TK s.heap h'→zh f ρ' h') (hc:∀p∈f.env.cells,p.2=b→∃v,h'.IsCell p.2 v):In c f k ρ' σ h'∧Kp f.X σ s σ {s with heap:=h',toks:=tk}:=by
 have gd:TK s.heap h':=λa ob y i=>by
  refine(hs.2 a λq=>?_).trans y
  subst q;exact zl ob y i
 have kp:Kp f.X σ s σ {s with heap:=h',toks:=tk}:=⟨λa o e z n=>⟨z,o,(hs.2 a λq=>n (q▸hb)).trans e,.refl o⟩,gd,rfl,rfl,rfl⟩
 have hX:∀a∈f.X,σ a=none∧∃o,({s with heap:=h',toks:=tk}:Shared).heap.get? a=some o∧∀vs,o.data≠.fields vs:=λa ha=>by
  have ha:=Fm.iB ha
  refine⟨(I.own a ha).1,?_⟩
  by_cases q:a=b
  ·subst q;exact uR
  ·refine ak (I.hX a ha) λo e d=>?_
   exact⟨o,(hs.2 a q).trans e,d⟩
 refine⟨⟨⟨λa o e=>(hs.2 a λq=>?_).trans (I.st.base a o e),λa o e=>⟨(I.st.own a o e).1,(I.st.own a o e).2.mono gd λz hz=>(hs.2 a λq=>?_).trans hz⟩,I.st.lo⟩,I.ok,hl gd,λp hp=>?_,I.own,I.cr.kp (s':={s with heap:=h',toks:=tk}) kp hX (λa ha y=>by
   by_cases q:a=b
   ·subst q;exact iC y
   ·refine gP y λo es n e d=>?_;exact gb o es n ((hs.2 a q).trans e) d),I.room,I.hd.kp (s':={s with heap:=h',toks:=tk}) (λb hb=>I.hX b (Fm.iB hb)) kp⟩,kp⟩
 ·subst q;rw[(I.own _ (Fm.iB hb)).2]at e;exact aJ e
 ·subst q;rw[(I.own _ (Fm.iB hb)).1]at e;exact aJ e
 ·by_cases q:p.2=b
  ·exact hc p hp q
  ·refine XE (I.jV p hp) λv hv=>?_
   exact⟨v,hv.sameBut hs q⟩
theorem zm{ρ:Lo}(h:(ρ.set i (some r))[j]? =some (some r')):(j=i∧r'=r)∨(j≠i∧ρ[j]? =some (some r')):=by
 by_cases hj:j=i
 ·subst hj
  have bq:j<ρ.length:=by
   have:=(List.getElem?_eq_some_iff.mp h).1
   rwa [List.length_set]at this
  rw[List.getElem?_set_self bq]at h;(injection h with h;injection h with h;subst h)
  exact .inl ⟨rfl,rfl⟩
 ·rw[List.getElem?_set_ne (λq=>hj q.symm)]at h
  exact .inr ⟨hj,h⟩
theorem jZ{s:Shared}{x:Str}{i:Nat}{v:Value}{Q:Unit→Shared→Prop}(I:In c f k ρ σ s.heap)(hi:f.N[i]? =some x)(hk:f.env.kindOf x=some .local∨f.inner=false)(hv:VR s.heap v r)
  (h:∀h' tk,In c f k (ρ.set i (some r)) σ h'→Kp f.X σ s σ {s with heap:=h',toks:=tk}→Q () {s with heap:=h',toks:=tk}):wpAny c.M f.B (storeName f.env x v) Q E s:=by
 refine ak I.loc λm hm hl=>?_
 have hx:x∈f.N:=List.mem_of_getElem? hi
 have zn:∀{j:Nat}{y:Str},f.N[j]? =some y→j≠i→y≠x:=λ{j y} h1 hj q=>by
  subst q
  exact hj ((List.getElem?_inj (List.getElem?_eq_some_iff.mp h1).1 I.ok.nodup).mp (h1.trans hi.symm))
 refine Or.elim ((I.ok.loc x hx).1) (λkl=>?_) λE8=>?_
 rotate_left
 obtain ⟨kl,a,ha⟩:=E8
 rotate_right
 ·refine wpAny_storeName_local kl hm (λh' hn hs=>?_) ?_
  ·refine(λz=>h _ _ z.1 z.2) (I.uQ (tk:=s.toks+1) (ρ':=ρ.set i (some r)) (.head _) hs (λq_=>uO hm) (uN hn) (λq_=>rY hn) (λgd=>?_) (λp hp q=>?_))
   ·refine bx _ hn (λj y r' h1 h2=>?_)
    refine Or.elim (zm h2) (λE9=>?_) λFa=>?_
    obtain ⟨rfl,rfl⟩:=E9
    rotate_left
    obtain ⟨hj,h2⟩:=Fa
    rotate_right
    ·rw[hi]at h1;(injection h1 with h1;subst h1)
     exact⟨v,hv.mono gd,.inl ⟨kl,if_pos rfl⟩⟩
    ·refine ak (hl j y r' h1 h2) λv' a1 a2=>?_
     refine⟨v',a1.mono gd,?_⟩
     refine Or.elim a2 (λFb=>?_) λFc=>?_
     obtain ⟨b1,b2⟩:=Fb
     rotate_left
     obtain ⟨b1,ca,b2,b3⟩:=Fc
     rotate_right
     ·exact .inl ⟨b1,(if_neg (zn h1 hj)).trans b2⟩
     ·refine .inr ⟨b1,ca,b2,b3.sameBut hs λq=>?_⟩
      have dK:=I.ok.n7
      rw[List.nodup_cons]at dK
      exact dK.1 (q▸List.mem_map.mpr ⟨_,je b2,rfl⟩)
   ·have dK:=I.ok.n7
    rw[List.nodup_cons]at dK
    exact absurd (List.mem_map.mpr ⟨p,hp,q⟩) dK.1
  ·exact ae I.ok.kind rfl
 ·refine XE (I.jV _ (je ha)) λVs uS=>?_
  refine wpAny_storeName_cell I.ok.kind kl ha uS (λh' hn hs=>?_)
  have dK:=I.ok.n7
  rw[List.nodup_cons]at dK
  refine(λz=>h _ _ z.1 z.2) (I.uQ (tk:=s.toks) (ρ':=ρ.set i (some r)) (Fm.EF (hk.resolve_left λq=>by rw[kl]at q;contradiction) (r5 ha)) hs (λq_=>EJ uS) (zj hn) (λy=>(EE uS y).elim) (λgd=>?_) (λp hp q=>⟨_,by exact ae q hn⟩))
  ·refine bx m (hm.sameBut hs λq=>dK.1 (q▸List.mem_map.mpr ⟨_,je ha,rfl⟩)) (λj y r' h1 h2=>?_)
   refine Or.elim (zm h2) (λFd=>?_) λFe=>?_
   obtain ⟨rfl,rfl⟩:=Fd
   rotate_left
   obtain ⟨hj,h2⟩:=Fe
   rotate_right
   ·rw[hi]at h1;(injection h1 with h1;subst h1)
    exact⟨v,hv.mono gd,.inr ⟨kl,a,ha,hn⟩⟩
   ·refine ak (hl j y r' h1 h2) λv' a1 a2=>?_
    refine⟨v',a1.mono gd,?_⟩
    refine Or.elim a2 (λFf=>?_) λFg=>?_
    obtain ⟨b1,b2⟩:=Ff
    rotate_left
    obtain ⟨b1,ca,b2,b3⟩:=Fg
    rotate_right
    ·exact .inl ⟨b1,b2⟩
    ·refine .inr ⟨b1,ca,b2,b3.sameBut hs λq=>?_⟩
     subst q
     have h3:=je b2
     have h4:=je ha
     refine XE (List.mem_iff_getElem?.mp h3) λi1 e1=>?_
     refine XE (List.mem_iff_getElem?.mp h4) λi2 e2=>?_
     have g1:(f.env.cells.map (·.2))[i1]? =some ca:=by refine ae (List.getElem?_map) (ae e1 ?_);rfl
     have g2:(f.env.cells.map (·.2))[i2]? =some ca:=by refine ae (List.getElem?_map) (ae e2 ?_);rfl
     have:i1=i2:=(List.getElem?_inj (List.getElem?_eq_some_iff.mp g1).1 dK.2).mp (g1.trans g2.symm)
     subst this
     rw[e1]at e2
     exact zn h1 hj (by injection e2 with e2;exact(Prod.mk.inj e2).1)
theorem aS.assign {x:Str}{p pos:Pos}{e:Expr}{i:Nat}{Q:Fl→Lo→S→Prop}(hi:Ix f.N x i)(h:EV c f E k e ρ σ λr af=>Q .next (ρ.set i (some r)) af)
  (hs:swapsWith e (some (.Name x p)) pos.line f.env=pure false:=by rfl) (hk:f.env.kindOf x=some .local∨f.inner=false:=by exact .inr rfl):aS c f E k (.Assign [.Name x p] e pos) ρ σ Q:=λs I=>by
 refine wpAny_Assign_Name (wpAny_mono (h s I) (λv aw Fh=>Fh.el λr af I' h' k' q'=>?_) λq_ q_ z=>z) hs
 exact jZ I' hi.get hk h' λdy tk a b=>⟨.next,_,af,a,.next,k'.trans b,q'⟩
end
end
end Mine
section
open Classical
namespace Mine
noncomputable section
mutual
noncomputable def V.pd:V→PyData
 |.none=>.none
 |.bool b=>.bool b
 |.int i=>.int i
 |.str s=>.str s
 |.tup l=>.tuple (V.mu l)
 |.c4 _ _ _=>.none
 |.val _=>.none
noncomputable def V.mu:List V→List PyData
 | []=> []
 |x::r=>V.pd x::V.mu r
end
mutual
noncomputable def V.ok:Nat→V→Bool
 |_,.none=>true
 |_,.bool _=>false
 |_,.int _=>true
 |_,.str s=>PyData.strOk s
 | 0,.tup _=>false
 |n+1,.tup l=>V.iD n l
 |_,.c4 _ _ _=>false
 |_,.val _=>false
noncomputable def V.iD:Nat→List V→Bool
 |_, []=>true
 |n,x::r=>V.ok n x&&V.iD n r
end
theorem VR.reads {r:V}(x:VR h v r):∀{n:Nat},r.ok n=true→Reads h v r.pd []:=by
 refine VR.rec (motive_1:=λv r q_=>∀{n:Nat},r.ok n=true→Reads h v r.pd []) (motive_2:=λvs rs q_=>∀{n:Nat},V.iD n rs=true→ReadsAll h vs (V.mu rs) []) ?_ ?_ ?_ ?_ ?_ ?_ ?_ ?_ ?_ x
 ·exact λq_=>.none
 ·exact λb q_ q_=>.bool b
 ·exact λi t q_ q_=>.int i t
 ·exact λs t q_ q_=>.str s t
 ·intro a vs l x _ ih n e
  cases n with
  |zero=>exact cj e
  |succ n=>exact nT x λo h1 h2 k h3=>.tuple h1 h2 h3 (ih e)
 ·exact λq_ q_ e=>cj e
 ·exact λq_ q_ e=>cj e
 ·exact λq_=>.nil
 ·exact λq_ q_ uT uU n e=>.cons (uT (Bool.and_eq_true_iff.mp e).1) (uU (Bool.and_eq_true_iff.mp e).2)
mutual
theorem V.zo {P:Nat→V→Prop}{Q:Nat→List V→Prop}(h0:∀n,P n .none)(h1:∀n i,P n (.int i))(h2:∀n s,PyData.strOk s=true→P n (.str s))(h3:∀n l,Q n l→P (n+1) (.tup l))(h4:∀n,Q n [])(h5:∀n x r,P n x→Q n r→Q n (x::r))(a:V):∀n,a.ok n=true→P n a:=
 V.rec (motive_1:=λa=>∀n,a.ok n=true→P n a) (motive_2:=λl=>∀n,V.iD n l=true→Q n l) (λn q_=>h0 n) (λq_ q_ e=>(Bool.false_ne_true e).elim) (λi n q_=>h1 n i) (λs n e=>h2 n s e) (λl ih n=>Nat.casesOn n (λe=>(Bool.false_ne_true e).elim) λn e=>h3 n l (ih n e)) (λq_ q_ q_ q_ e=>(Bool.false_ne_true e).elim) (λq_ q_ e=>(Bool.false_ne_true e).elim) (λn q_=>h4 n) (λx r uT uU n e=>h5 n x r (uT n (Bool.and_eq_true_iff.mp e).1) (uU n (Bool.and_eq_true_iff.mp e).2)) a
theorem V.Fi {r:V}:r.ok n=true→r.pd.canLay0=true∧r.pd.depth≤n:=
 V.zo (P:=λn r=>r.pd.canLay0=true∧r.pd.depth≤n) (Q:=λn rs=>PyData.canLayAll0 (V.mu rs)=true∧PyData.depthAll (V.mu rs)≤n) (λn=>⟨rfl,n.zero_le⟩) (λn q_=>⟨rfl,n.zero_le⟩) (λn q_ h=>⟨h,n.zero_le⟩) (λn l h=>⟨h.1,Nat.succ_le_succ h.2⟩) (λn=>⟨rfl,n.zero_le⟩) (λn x r h h'=>⟨Bool.and_eq_true_iff.mpr ⟨h.1,h'.1⟩,Nat.max_le.mpr ⟨h.2,h'.2⟩⟩) r n
end
theorem V.r7 {r:V}{n:Nat}(e:r.ok n=true)(hn:n≤60):SeqAt.shaped r.pd=true:=by
 refine XA (V.Fi e) λa b=>?_
 unfold SeqAt.shaped
 refine ae a (ae (decide_eq_true (by exact M2 [_,_] [] 0x40211011000101103c2100110 rfl hn b)) ?_);rfl
mutual
theorem V.r8 {n:Nat}{P:V→Prop}(h0:P .none)(h1:∀i,P (.int i))(h2:∀s,P (.str s))(h3:∀l m,V.iD m l=true→P (.tup l)){b:V}:b.ok n=true→P b:=
 V.casesOn (motive_1:=λb=>b.ok n=true→P b) b (λq_=>h0) (λq_ e=>(Bool.false_ne_true e).elim) (λi q_=>h1 i) (λs q_=>h2 s) (λl=>Nat.casesOn n (λe=>(Bool.false_ne_true e).elim) λm e=>h3 l m e) (λq_ q_ q_ e=>(Bool.false_ne_true e).elim) λq_ e=>(Bool.false_ne_true e).elim
theorem uV{p:Prop}[Decidable p](h:p):true=decide p:=(decide_eq_true h).symm
theorem fb{p:Prop}[Decidable p](h:¬p):false=decide p:=(decide_eq_false h).symm
theorem r9{p q:Prop}[Decidable p][Decidable q](h:p↔q):decide p=decide q:=decide_eq_decide.mpr h
theorem V.eqv {a b:V}(ha:a.ok n=true)(hb:b.ok m=true):PyData.eqv a.pd b.pd=decide (a=b):=by
 refine V.zo (P:=λq_ a=>∀b m,b.ok m=true→PyData.eqv a.pd b.pd=decide (a=b)) (Q:=λq_ l=>∀l' m,V.iD m l'=true→PyData.eqvAll (V.mu l) (V.mu l')=decide (l=l')) ?_ ?_ ?_ ?_ ?_ ?_ a n ha b m hb
 ·exact λq_ q_ q_=>V.r8 (P:=λb=>PyData.eqv (V.pd .none) b.pd=decide (V.none=b)) (uV rfl) (λq_=>fb λh=>V.noConfusion h) (λq_=>fb λh=>V.noConfusion h) (λq_ q_ q_=>fb λh=>V.noConfusion h)
 ·exact λq_ i q_ q_=>V.r8 (P:=λb=>PyData.eqv (V.pd (.int i)) b.pd=decide ((.int i)=b)) (fb λh=>V.noConfusion h) (λq_=>r9 ⟨congrArg _,V.int.inj⟩) (λq_=>fb λh=>V.noConfusion h) (λq_ q_ q_=>fb λh=>V.noConfusion h)
 ·exact λq_ s q_ q_ q_=>V.r8 (P:=λb=>PyData.eqv (V.pd (.str s)) b.pd=decide ((.str s)=b)) (fb λh=>V.noConfusion h) (λq_=>fb λh=>V.noConfusion h) (λq_=>r9 ⟨congrArg _,V.str.inj⟩) (λq_ q_ q_=>fb λh=>V.noConfusion h)
 ·exact λq_ l ih q_ q_=>V.r8 (P:=λb=>PyData.eqv (V.pd (.tup l)) b.pd=decide ((.tup l)=b)) (fb λh=>V.noConfusion h) (λq_=>fb λh=>V.noConfusion h) (λq_=>fb λh=>V.noConfusion h) (λl' n h=>(ih l' n h).trans (r9 ⟨congrArg _,V.tup.inj⟩))
 ·intro _ l' _ _
  cases l' with
  |nil=>exact uV rfl
  |cons=>exact fb nofun
 ·intro _ x r h h' l' m e
  cases l' with
  |nil=>exact fb nofun
  |cons y r'=>
   have e:=Bool.and_eq_true_iff.mp e
   refine(congr (congrArg and (h y m e.1)) (h' r' m e.2)).trans ((Bool.decide_and ..).symm.trans (r9 ⟨λq=>congr (congrArg _ q.1) q.2,List.cons.inj⟩))
end
section
variable {c:Cx}{f:Fm}{E:Value→Shared→Prop}{k:Nat}{ρ:Lo}{σ:S}{Q:V→S→Prop}
noncomputable abbrev jh (op:Operator):List Value→Sem Value:=λvs=>binaryOp op (vs.getD 0 .none) (vs.getD 1 .none)
noncomputable abbrev bY (op:CmpOp):List Value→Sem Value:=λvs=>compareOp op (vs.getD 0 .none) (vs.getD 1 .none)
theorem OV.add (q:Q (.int (a+b)) σ):OV c f E k (jh .Add) [.int a,.int b] ρ σ Q:=λs vs I h=>by
 refine aA.e2 h λq_ q_ h1 h2=>?_
 refine h1.eI λq_=>?_
 refine h2.eI λq_=>?_
 exact add_int (bh.tk I (.int ..) q)
theorem OV.sub (q:Q (.int (a- b)) σ):OV c f E k (jh .Sub) [.int a,.int b] ρ σ Q:=λs vs I h=>by
 refine aA.e2 h λq_ q_ h1 h2=>?_
 refine h1.eI λq_=>?_
 refine h2.eI λq_=>?_
 exact sub_int (bh.tk I (.int ..) q)
theorem OV.mul (hm:IntMulOk a b)(q:Q (.int (a*b)) σ):OV c f E k (jh .Mult) [.int a,.int b] ρ σ Q:=λs vs I h=>by
 refine aA.e2 h λq_ q_ h1 h2=>?_
 refine h1.eI λq_=>?_
 refine h2.eI λq_=>?_
 exact mul_int (bh.tk I (.int ..) q) hm
theorem OV.fdiv {a b:Int}(hb:b≠0)(hp:Builtin.divisionGoesByPylong a b=false)(q:Q (.int (a.fdiv b)) σ):OV c f E k (jh .FloorDiv) [.int a,.int b] ρ σ Q:=λs vs I h=>by
 refine aA.e2 h λq_ q_ h1 h2=>?_
 refine h1.eI λq_=>?_
 refine h2.eI λq_=>?_
 exact floordiv_int hb (bh.tk I (.int ..) q) (.inl hp)
theorem OV.mod {a b:Int}(hb:b≠0)(hp:Builtin.divisionGoesByPylong a b=false)(q:Q (.int (a.fmod b)) σ):OV c f E k (jh .Mod) [.int a,.int b] ρ σ Q:=λs vs I h=>by
 refine aA.e2 h λq_ q_ h1 h2=>?_
 refine h1.eI λq_=>?_
 refine h2.eI λq_=>?_
 exact mod_int hb (bh.tk I (.int ..) q)
theorem EV.neg (h:EV c f E k e ρ σ λr af=>∃i,r= .int i∧Q (.int (-i)) af):EV c f E k (.UnaryOp .USub e pos) ρ σ Q:=λs I=>by
 show wpAny c.M f.B (do let v←eval e f.env;standAt pos;holding [v] (unaryOp .USub v)) _ _ _
 refine wpAny_bind (wpAny_mono (h s I) (λv aw ck=>ck.el λr af I' h' k' iE=>?_) λq_ q_ z=>z)
 refine ak iE λi e' q'=>?_
 subst e';refine h'.eI λq_=>?_
 exact wpAny_bind (wpAny_standAt (wpAny_holding (neg_int ((bh.tk I' (.int ..) q').trans k'))))
theorem OV.Fj (q:Q (.int 100000000000000000000) σ):OV c f E k (jh .Pow) [.int 10,.int 20] ρ σ Q:=λs vs I h=>by
 refine aA.e2 h λq_ q_ h1 h2=>?_
 refine h1.eI λq_=>?_
 refine h2.eI λq_=>?_
 refine AutoIntOps.pow_4 (by decide) (by decide) (by decide) (by decide) (by decide +kernel) ?_
 exact bh.tk I (.int ..) q
theorem OV.Fk (q:Q (.int 10000000000000000000) σ):OV c f E k (jh .Pow) [.int 10,.int 19] ρ σ Q:=λs vs I h=>by
 refine aA.e2 h λq_ q_ h1 h2=>?_
 refine h1.eI λq_=>?_
 refine h2.eI λq_=>?_
 refine AutoIntOps.pow_4 (by decide) (by decide) (by decide) (by decide) (by decide +kernel) ?_
 exact bh.tk I (.int ..) q
theorem OV.ltI (q:Q (.bool (decide (a<b))) σ):OV c f E k (bY .Lt) [.int a,.int b] ρ σ Q:=λs vs I h=>by
 refine aA.e2 h λq_ q_ h1 h2=>?_
 refine h1.eI λq_=>?_
 refine h2.eI λq_=>?_
 exact lt_int (bh.now I (.bool _) q)
theorem OV.Fo (q:Q (.bool (decide (b<a))) σ):OV c f E k (bY .Gt) [.int a,.int b] ρ σ Q:=λs vs I h=>by
 refine aA.e2 h λq_ q_ h1 h2=>?_
 refine h1.eI λq_=>?_
 refine h2.eI λq_=>?_
 exact gt_int (bh.now I (.bool _) q)
theorem OV.Fp (q:Q (.bool (decide (a≤b))) σ):OV c f E k (bY .LtE) [.int a,.int b] ρ σ Q:=λs vs I h=>by
 refine aA.e2 h λq_ q_ h1 h2=>?_
 refine h1.eI λq_=>?_
 refine h2.eI λq_=>?_
 exact le_int (bh.now I (.bool _) q)
theorem OV.Fq (q:Q (.bool (decide (b≤a))) σ):OV c f E k (bY .GtE) [.int a,.int b] ρ σ Q:=λs vs I h=>by
 refine aA.e2 h λq_ q_ h1 h2=>?_
 refine h1.eI λq_=>?_
 refine h2.eI λq_=>?_
 exact ge_int (bh.now I (.bool _) q)
theorem OV.Fs {a b:Str}(q:Q (.bool (decide (a.cps.toList<b.cps.toList))) σ):OV c f E k (bY .Lt) [.str a,.str b] ρ σ Q:=λs vs I h=>by
 refine aA.e2 h λq_ q_ h1 h2=>?_
 refine h1.eS λq_=>?_
 refine h2.eS λq_=>?_
 refine lt_str ?_
 have e:∀(p:Decidable (a.cps.toList<b.cps.toList)),@decide _ p=decide (a.cps.toList<b.cps.toList):=λp=>by congr
 refine ae (e ..) ?_
 exact bh.now I (.bool _) q
theorem OV.Ft (q:Q (.bool (decide (a=b))) σ):OV c f E k (bY .Eq) [.int a,.int b] ρ σ Q:=λs vs I h=>by
 refine aA.e2 h λq_ q_ h1 h2=>?_
 refine h1.eI λq_=>?_
 refine h2.eI λq_=>?_
 refine eq_int ?_
 refine ae (show (a==b)=decide (a=b) from by by_cases h:a=b<;>simp[h]) ?_
 exact bh.now I (.bool _) q
theorem OV.Fu (q:Q (.bool (decide (a≠b))) σ):OV c f E k (bY .NotEq) [.int a,.int b] ρ σ Q:=λs vs I h=>by
 refine aA.e2 h λq_ q_ h1 h2=>?_
 refine h1.eI λq_=>?_
 refine h2.eI λq_=>?_
 refine ne_int ?_
 refine ae (show (a !=b)=decide (a≠b) from by by_cases h:a=b<;>simp[h]) ?_
 exact bh.now I (.bool _) q
theorem OV.Fv (q:Q (.bool (decide (a=b))) σ):OV c f E k (bY .Eq) [.str a,.str b] ρ σ Q:=λs vs I h=>by
 refine aA.e2 h λq_ q_ h1 h2=>?_
 refine h1.eS λq_=>?_
 refine h2.eS λq_=>?_
 refine eq_str ?_
 refine ae (show (a==b)=decide (a=b) from by by_cases h:a=b<;>simp[h]) ?_
 exact bh.now I (.bool _) q
theorem OV.Fw (q:Q (.bool (decide (a≠b))) σ):OV c f E k (bY .NotEq) [.str a,.str b] ρ σ Q:=λs vs I h=>by
 refine aA.e2 h λq_ q_ h1 h2=>?_
 refine h1.eS λq_=>?_
 refine h2.eS λq_=>?_
 refine ne_str ?_
 refine ae (show (a !=b)=decide (a≠b) from by by_cases h:a=b<;>simp[h]) ?_
 exact bh.now I (.bool _) q
theorem zp{A:Around}(h:n6 A k):A.units+64<cLine:=by
 have:=h.2
 exact M1 [_,_] [] 0x26ac41402100211126ac4112c311010250022111 rfl this
theorem OV.eq {a b:V}{n m:Nat}(ha:a.ok n=true)(hb:b.ok m=true)(hn:n≤60)(hm:m≤60)(q:Q (.bool (decide (a=b))) σ):OV c f E k (bY .Eq) [a,b] ρ σ Q:=λs vs I h=>by
 refine aA.e2 h λq_ q_ h1 h2=>?_
 refine SeqAt.compareEq_shaped (h1.reads ha) (h2.reads hb) (V.r7 ha hn) (V.r7 hb hm) (zp I.room) ?_
 refine ae (V.eqv ha hb) ?_
 exact bh.now I (.bool _) q
theorem OV.ne {a b:V}{n m:Nat}(ha:a.ok n=true)(hb:b.ok m=true)(hn:n≤60)(hm:m≤60)(q:Q (.bool (decide (a≠b))) σ):OV c f E k (bY .NotEq) [a,b] ρ σ Q:=λs vs I h=>by
 refine aA.e2 h λq_ q_ h1 h2=>?_
 refine SeqAt.compareNe_shaped (h1.reads ha) (h2.reads hb) (V.r7 ha hn) (V.r7 hb hm) (zp I.room) ?_
 refine ae (V.eqv ha hb) ?_
 have e:(!decide (a=b))=decide (a≠b):=by by_cases h:a=b<;>simp[h]
 refine ae e ?_
 exact bh.now I (.bool _) q
theorem ET.not {e:Expr}{pos:Pos}{Q:Bool→S→Prop}(h:ET c f E k e ρ σ λb af=>Q (!b) af):ET c f E k (.UnaryOp .Not e pos) ρ σ Q:=λs I=>
 isTrue_not (wpAny_mono (h s I) (λb s' cx=>cx.el λaf a d q=>⟨af,a,d,q⟩) λq_ q_ z=>z)
theorem ET.Fx {pos:Pos}{Q:Bool→S→Prop}(q:Q true σ):ET c f E k (.BoolOp .And [] pos) ρ σ Q:=λs I=>isTrue_and_nil ⟨σ,I,.refl ..,q⟩
theorem ET.Fy {pos:Pos}{Q:Bool→S→Prop}(q:Q false σ):ET c f E k (.BoolOp .Or [] pos) ρ σ Q:=λs I=>isTrue_or_nil ⟨σ,I,.refl ..,q⟩
theorem ET.and {x:Expr}{r:List Expr}{pos:Pos}{Q:Bool→S→Prop}(h:ET c f E k x ρ σ λb af=>match b with|true=>ET c f E k (.BoolOp .And r pos) ρ af Q|false=>Q false af):
  ET c f E k (.BoolOp .And (x::r) pos) ρ σ Q:=λs I=>by
 refine isTrue_and (wpAny_mono (h s I) (λb s' dJ=>dJ.el λaf a d q=>?_) λq_ q_ z=>z)
 cases b
 ·exact⟨af,a,d,q⟩
 ·exact wpAny_mono (q s' a) (λq_ q_ x=>x.trans d) λq_ q_ z=>z
theorem ET.or {x:Expr}{r:List Expr}{pos:Pos}{Q:Bool→S→Prop}(h:ET c f E k x ρ σ λb af=>match b with|true=>Q true af|false=>ET c f E k (.BoolOp .Or r pos) ρ af Q):
  ET c f E k (.BoolOp .Or (x::r) pos) ρ σ Q:=λs I=>by
 refine isTrue_or (wpAny_mono (h s I) (λb s' eZ=>eZ.el λaf a d q=>?_) λq_ q_ z=>z)
 cases b
 ·exact wpAny_mono (q s' a) (λq_ q_ x=>x.trans d) λq_ q_ z=>z
 ·exact⟨af,a,d,q⟩
theorem EV.Fz (h:ET c f E k t ρ σ λr af=>match r with|true=>EV c f E k b ρ af Q|false=>EV c f E k o ρ af Q):EV c f E k (.IfExp t b o pos) ρ σ Q:=λs I=>by
 refine IfExp_ (wpAny_mono (h s I) (λr s' jX=>jX.el λaf a d q=>?_) λq_ q_ z=>z)
 cases r
 ·exact wpAny_mono (q s' a) (λq_ q_ x=>x.trans d) λq_ q_ z=>z
 ·exact wpAny_mono (q s' a) (λq_ q_ x=>x.trans d) λq_ q_ z=>z
theorem ET.plain {e:Expr}{Q:Bool→S→Prop}(h:EV c f E k e ρ σ λr af=>OB c f E k (λvs=>truthy (vs.getD 0 .none)) [r] ρ af Q)
  (he:∀zr,PySem.isTrue e f.env zr= (do let v←zr;standAt e.pos;holding [v] (truthy v)):=by intro _;rfl):ET c f E k e ρ σ Q:=λs I=>by
 refine isTrue_plain (wpAny_mono (h s I) (λv s' jY=>jY.el λr af I' h' k' q'=>?_) λq_ q_ z=>z) (he _)
 exact wpAny_mono (q' s' [v] I' (.cons h' .nil)) (λq_ q_ x=>x.trans k') λq_ q_ z=>z
theorem OB.bool {b:Bool}{Q:Bool→S→Prop}(q:Q b σ):OB c f E k (λvs=>truthy (vs.getD 0 .none)) [.bool b] ρ σ Q:=λs vs I h=>by
 refine aA.e1 h λq_ h1=>?_
 refine h1.eB ?_
 exact wpAny_truthy_bool ⟨σ,I,.refl ..,q⟩
end
end
end Mine
end
section
open Classical
namespace Mine
noncomputable section
noncomputable def Nw(σ:S)(s:Shared)(b:Addr):Prop:=∀o,s.heap.get? b=some o→σ b≠none
structure XC(c:Cx)(l:List Env)(X:List Addr)(aK:S)(bC:Shared)(σ:S)(s:Shared):Prop where
 st:St c σ s.heap
 dz:s.heap.FunFrames c.base l
 own:∀env∈l,∀b,env.frame=some b→σ b=none
 dX:∀env∈l,∀b,env.frame=some b→jU s.heap b
 kp:Kp X aK bC σ s
 ex:∀b∈X,σ b=none∧∃o,s.heap.get? b=some o
section
variable {c:Cx}{l:List Env}{X:List Addr}{aK σ:S}{bC s:Shared}
theorem XC.uW (x:XC c l X aK bC σ s){ob:Obj}{h':Heap}(zb:σ b=none)(nb:c.base.get? b=none)(nw:Nw aK bC b)(hb:s.heap.get? b=some ob)(hd:ob.data= .fields vs)
  (hc:ob.cls≠.type "range") (n8:∃o,h'.get? b=some o) (hs:Heap.SameBut b s.heap h'):XC c l X aK bC σ {s with heap:=h'}:=by
 have nt:∀o,s.heap.get? b=some o→¬eG o:=λo e=>by
  rw[hb]at e;(injection e with e;subst e)
  rintro (⟨_,xs,n,q⟩|⟨q,_⟩)
  ·rw[hd]at q;contradiction
  ·exact hc q
 have tk:TK s.heap h':=λa o e i=>(hs.2 a λq=>nt o (q▸e) i).trans e
 refine⟨⟨λa o e=>(hs.2 a λq=>aJ (nb.symm.trans (q▸e))).trans (x.st.base a o e),λa o e=>⟨(x.st.own a o e).1,(x.st.own a o e).2.mono tk λz hz=>(hs.2 a λq=>aJ (zb.symm.trans (q▸e))).trans hz⟩,x.st.lo⟩,
  x.dz.of_keeps λa o e hn=>⟨o,(hs.2 a λq=>by subst q;rw[hb]at e;(injection e with e;subst e);exact hn _ hd).trans e,rfl⟩,x.own,λenv he a ha=>?_,⟨λa o e z n=>?_,x.kp.tup.trans tk,x.kp.gens,x.kp.drawn,x.kp.os⟩,λa ha=>⟨(x.ex a ha).1,?_⟩⟩
 ·refine gP (x.dX env he a ha) λo es n e d=>?_
  exact gb o es n ((hs.2 a λq=>by subst q;rw[hb]at e;(injection e with e;subst e);rw[hd]at d;contradiction).trans e) d
 ·refine dH (x.kp.keep a o e z n) λz' o' e' l'=>?_
  exact⟨z',o',(hs.2 a λq=>nw o (q▸e) (q▸z)).trans e',l'⟩
 ·refine XE ((x.ex a ha).2) λo e=>?_
  by_cases q:a=b
  ·subst q;exact n8
  ·exact⟨o,(hs.2 a q).trans e⟩
theorem XC.push (x:XC c l X aK bC σ s){h':Heap}(kk:∀b o,s.heap.get? b=some o→h'.get? b=some o):XC c l X aK bC σ {s with heap:=h'}:=
 ⟨x.st.ext kk,x.dz.of_keeps λb o e q_=>⟨o,kk b o e,rfl⟩,x.own,λenv he b hb=>gP (x.dX env he b hb) λo es n e d=>gb o es n (kk _ _ e) d,x.kp.trans (Kp.ext (tk:=s.toks) kk),λb hb=>⟨(x.ex b hb).1,(x.ex b hb).2.elim λo e=>⟨o,kk _ _ e⟩⟩⟩
theorem FC{l:List Env}(h:b∈l.filterMap (·.frame)):∃env∈l,env.frame=some b:=List.mem_filterMap.mp h
theorem XC.slots (x:XC c l X aK bC σ s)(hs:Heap.SlotsOnly (l.filterMap (·.frame)) s.heap h'):XC c l X aK bC σ {s with heap:=h'}:=by
 have sf:∀b∈l.filterMap (·.frame),jU s.heap b∧σ b=none∧c.base.get? b=none:=λb hb=>by
  refine ak (FC hb) λenv he hf=>?_
  exact⟨x.dX env he b hf,x.own env he b hf,(x.dz.mem hb).1⟩
 have tk:TK s.heap h':=λa o e i=>(hs.2.1 a λq=>by
  refine gP ((sf a q).1) λo' es n e' d=>?_
  rw[e]at e';(injection e' with e';subst e')
  exact zk d i).trans e
 refine⟨⟨λa o e=>(hs.2.1 a λq=>by rw[(sf a q).2.2]at e;exact aJ e).trans (x.st.base a o e),λa o e=>⟨(x.st.own a o e).1,(x.st.own a o e).2.mono tk λz hz=>(hs.2.1 a λq=>by rw[(sf a q).2.1]at e;exact aJ e).trans hz⟩,x.st.lo⟩,
  x.dz.of_slotsOnly hs,x.own,λenv he a ha=>?_,⟨λa o e z n=>?_,x.kp.tup.trans tk,x.kp.gens,x.kp.drawn,x.kp.os⟩,λb hb=>⟨(x.ex b hb).1,let ⟨o,e⟩:=(x.ex b hb).2;let ⟨sl,e'⟩:=hs.2.2 b o e;⟨_,e'⟩⟩⟩
 ·refine gP (x.dX env he a ha) λo es n e d=>?_
  refine XE (hs.2.2 a o e) λsl e'=>?_
  exact gb _ es n e' d
 ·refine dH (x.kp.keep a o e z n) λz' o' e' l'=>?_
  by_cases q:a∈l.filterMap (·.frame)
  ·refine gP ((sf a q).1) λo2 es m e2 d=>?_
   rw[e']at e2;(injection e2 with e2;subst e2)
   refine XE (hs.2.2 a o' e') λsl e3=>?_
   exact⟨z',_,e3,l'.trans (.inr ⟨⟨es,m,d⟩,sl,rfl⟩)⟩
  ·exact⟨z',o',(hs.2.1 a q).trans e',l'⟩
end
structure dh(c:Cx)(l:List Env)(X:List Addr)(aK:S)(bC:Shared)(e C d:Addr)(fl:Option Value)(σ:S)(s:Shared):Prop where
 xc:XC c l X aK bC σ s
 no:σ e=none∧c.base.get? e=none∧Nw aK bC e
 obj:∃oe vs,s.heap.get? e=some oe∧oe.cls= .ref C∧oe.dict=some d∧oe.data= .fields vs∧vs[2]? =some .none∧2<vs.size∧
  match fl with
  |none=>vs[1]? =some .none
  |some x=>∃T oT ts,vs[1]? =some (.ref T)∧(σ T=none∧c.base.get? T=none∧Nw aK bC T)∧T≠e∧s.heap.get? T=some oT∧oT.cls= .type "traceback"∧oT.data= .fields ts∧ts[3]? =some x
section
variable {c:Cx}{l:List Env}{X:List Addr}{aK σ:S}{bC s:Shared}{e C d:Addr}{A:Around}{E:Value→Shared→Prop}
theorem FD(o:Obj)(f:Array Value→Array Value):(o.mapFields f).dict=o.dict:=by
 obtain ⟨a,b,d,s⟩:=o
 cases d<;>rfl
theorem Nw.of_none {bC s:Shared}(kp:Kp X aK bC σ s)(hX:∀b∈X,σ b=none∧∃o,s.heap.get? b=some o)(hb:s.heap.get? b=none):Nw aK bC b:=λo e z=>by
 by_cases q:b∈X
 ·refine XE ((hX b q).2) λo' e'=>?_;rw[hb]at e';exact aJ e'
 ·refine dH (kp.keep b o e z q) λq_ o' e' q_=>?_
  rw[hb]at e';exact aJ e'
theorem zt{env:Env}(lm:A.frames=some (env::outer))(hf:env.frame=some L)(xc:XC c (env::outer) X aK bC σ s)
  (no:σ e=none∧c.base.get? e=none∧Nw aK bC e) {oe:Obj}{vs:Array Value} (he:s.heap.get? e=some oe) (gf:oe.cls= .ref C) (iF:oe.dict=some d) (hd:oe.data= .fields vs) (h2:vs[2]? =some .none) (fc:2<vs.size)
  (h:∀h',dh c (env::outer) X aK bC e C d (some (rawInt L)) σ {s with heap:=h'}→Q () {s with heap:=h'}):
  wpAny c.M A (do let a←frameOf env;let pl←entryPlaceOf L Vt;let b←EntryCells.newEntry head a .none (rawInt L) .none pl;setField (.ref e) 1 b) Q E s:=by
 have FE:e∉(env::outer).filterMap (·.frame):=λhm=>by
  refine dH (xc.dz.mem hm) λq_ o ho uR=>?_
  rw[he]at ho;injection ho with ho;subst ho;exact uR vs hd
 refine wpAny_bind (wpAny_frameOf_fun lm xc.dz hf λaP sg=>?_)
 have x1:=xc.slots sg
 refine wpAny_bind (wpAny_entryPlaceOf λpl pS=>?_)
 unfold EntryCells.newEntry newFields
 refine wpAny_bind (wpAny_newObj_type ?_ (pS.sizeOk5 _ _ _ _ _))
 have zu:aP.get? e=some oe:=(sg.2.1 e FE).trans he
 have si:=Heap.get?_push_of_some (h:=aP) {cls:=.type "traceback",dict:=none,data:=.fields ([head,.ref L,.none,rawInt L,.none]++(if pl.isEmpty then List.replicate 6 Value.none else pl)).toArray} zu
 have x2:=x1.push (h':=aP.push {cls:=.type "traceback",dict:=none,data:=.fields ([head,.ref L,.none,rawInt L,.none]++(if pl.isEmpty then List.replicate 6 Value.none else pl)).toArray}) λb o hb=>Heap.get?_push_of_some _ hb
 refine wpAny_setField si hd (by exact Nat.le_of_lt (by assumption)) (h _ ?_)
 have mv:aP.objs.size≠e:=Nat.ne_of_gt (Heap.lt_size zu)
 have zv:aP.get? aP.objs.size=none:=by
  cases q:aP.get? aP.objs.size with
  |none=>rfl
  |some o=>exact absurd (Heap.lt_size q) (Nat.lt_irrefl _)
 have fe:σ aP.objs.size=none∧c.base.get? aP.objs.size=none:=x1.st.fresh zv
 have uX:=Obj.data_mapFields hd (·.setIfInBounds 1 (Value.ref aP.objs.size))
 have pT:=Heap.get?_push_size aP (o:={cls:=.type "traceback",dict:=none,data:=.fields ([head,.ref L,.none,rawInt L,.none]++(if pl.isEmpty then List.replicate 6 Value.none else pl)).toArray}) rfl
 have x3:=x2.uW (h':=Heap.update _ e (Obj.mapFields (·.setIfInBounds 1 (Value.ref aP.objs.size)))) no.1 no.2.1 no.2.2 si hd (by refine ae gf ?_;intro q;contradiction) ⟨_,Heap.get?_update_self _ si (Obj.isFreed_of_fields uX)⟩ (Heap.SameBut.update ..)
 refine⟨x3,no,_,_,Heap.get?_update_self _ si (Obj.isFreed_of_fields uX),(Obj.cls_mapFields ..).trans gf,(FD ..).trans iF,uX,by refine ae (Array.getElem?_setIfInBounds_ne (by decide)) ?_;exact h2,by refine ae Array.size_setIfInBounds ?_;exact fc,
  aP.objs.size,_,_,by simp[show 1<vs.size by exact Nat.le_of_lt (by assumption)],⟨fe.1,fe.2,?_⟩,mv,(Heap.get?_update_other _ _ (Ne.symm mv)).trans pT,rfl,rfl,by first|(simp;done)|(rcases pS with rfl|⟨_,_,_,_,_,_,_,rfl⟩<;>simp)⟩
 exact Nw.of_none x1.kp x1.ex zv
theorem zw{env:Env}(lm:A.frames=some (env::outer))(hf:env.frame=some L)(x:dh c (env::outer) X aK bC e C d fl σ s)(ki:fl=none∨fl=some .none)
  (h:∀h',dh c (env::outer) X aK bC e C d (some (rawInt L)) σ {s with heap:=h'}→Q () {s with heap:=h'}):wpAny c.M A (noteFrame (.ref e) env) Q E s:=by
 refine k8 x.obj λoe vs he gf iF hd h2 fc hm=>?_
 unfold noteFrame
 simp only[hf]
 refine Or.elim ki (λFF=>?_) λFG=>?_
 subst FF
 rotate_left
 subst FG
 rotate_right
 ·refine wpAny_bind (wpAny_field he hd hm ?_)
  refine ae (if_neg (by decide)) ?_
  exact zt lm hf x.xc x.no he gf iF hd h2 fc h
 ·refine mi hm λT oT ts h1 fe mv hT sj ji h3=>?_
  refine wpAny_bind (wpAny_field he hd h1 ?_)
  refine ae (if_pos (show (Value.ref T !=Value.none)=true from by simp)) ?_
  refine wpAny_bind (wpAny_field hT ji h3 ?_)
  refine ae (if_neg (show¬((Value.none==rawInt L)=true) from by simp[rawInt])) ?_
  refine wpAny_bind (wpAny_setField hT ji (Array.getElem?_eq_some_iff.mp h3).1 ?_)
  have x1:=x.xc.uW (h':=s.heap.update T (Obj.mapFields (·.setIfInBounds 3 Value.none))) fe.1 fe.2.1 fe.2.2 hT ji (by exact ae sj (gS (by decide))) ⟨_,Heap.get?_update_self _ hT (Obj.isFreed_of_fields (Obj.data_mapFields ji _))⟩ (Heap.SameBut.update ..)
  have FH:=(Heap.get?_update_other s.heap (Obj.mapFields (·.setIfInBounds 3 Value.none)) mv).trans he
  exact zt (s:={s with heap:=s.heap.update T (Obj.mapFields (·.setIfInBounds 3 Value.none))}) lm hf x1 x.no FH gf iF hd h2 fc h
theorem uY{fl:Option Value}(x:dh c l X aK bC e C d fl σ s)
  (h:∀h',dh c l X aK bC e C d (fl.map λq_=>.none) σ {s with heap:=h'}→Q () {s with heap:=h'}):wpAny c.M A (setFlight (.ref e) none) Q E s:=by
 refine k8 x.obj λoe vs he gf iF hd h2 fc hm=>?_
 unfold setFlight
 cases fl with
 |none=>
  refine wpAny_bind (wpAny_field he hd hm ?_)
  refine ae (if_neg (by decide)) ?_
  exact wpAny_pure (h s.heap x)
 |some y=>
  refine mi hm λT oT ts h1 fe mv hT sj ji h3=>?_
  refine wpAny_bind (wpAny_field he hd h1 ?_)
  refine ae (if_pos (show (Value.ref T !=Value.none)=true from by simp)) ?_
  have hz:=(Array.getElem?_eq_some_iff.mp h3).1
  refine wpAny_setField hT ji hz (h _ ?_)
  refine⟨x.xc.uW fe.1 fe.2.1 fe.2.2 hT ji (by exact ae sj (gS (by decide))) ⟨_,Heap.get?_update_self _ hT (Obj.isFreed_of_fields (Obj.data_mapFields ji _))⟩ (Heap.SameBut.update ..),x.no,oe,vs,(Heap.get?_update_other _ _ mv).trans he,gf,iF,hd,h2,fc,T,_,_,h1,fe,mv,
   Heap.get?_update_self _ hT (Obj.isFreed_of_fields (Obj.data_mapFields ji _)),(Obj.cls_mapFields ..).trans sj,Obj.data_mapFields ji _,by simp[hz]⟩
theorem leave_{env:Env}(lm:A.frames=some (env::outer))(hf:env.frame=some L)(x:dh c (env::outer) X aK bC e C d fl σ s)(ki:fl=none∨fl=some .none)
  (h:∀h',dh c (env::outer) X aK bC e C d (some .none) σ {s with heap:=h'}→Q () {s with heap:=h'}):wpAny c.M A (leaving env (.ref e)) Q E s:=by
 unfold leaving
 refine wpAny_bind (zw lm hf x ki λh' x'=>?_)
 exact uY (s:={s with heap:=h'}) x' h
end
theorem Nw.trans {bC s:Shared}(kp:Kp X aK bC σ s)(hX:∀b∈X,σ b=none∧∃o,s.heap.get? b=some o)(hb:Nw σ s b):Nw aK bC b:=λo e z=>by
 by_cases q:b∈X
 ·refine yI (hX b q) λz' o' e'=>?_;exact hb o' e' z'
 ·refine dH (kp.keep b o e z q) λz' o' e' q_=>?_
  exact hb o' e' z'
theorem dh.trans {bC aw s:Shared}(kp:Kp X aK bC ah aw)(hX:∀b∈X,ah b=none∧∃o,aw.heap.get? b=some o)(x:dh c l X ah aw e C d fl σ s):dh c l X aK bC e C d fl σ s:=by
 refine⟨⟨x.xc.st,x.xc.dz,x.xc.own,x.xc.dX,kp.trans x.xc.kp,x.xc.ex⟩,⟨x.no.1,x.no.2.1,Nw.trans kp hX x.no.2.2⟩,?_⟩
 refine k8 x.obj λoe vs he gf iF hd h2 fc hm=>?_
 refine lb oe vs he gf iF hd h2 fc ?_
 cases fl with
 |none=>exact hm
 |some y=>
  refine f7 hm λT oT ts h1 fe r=>?_
  exact mj T oT ts h1 ⟨fe.1,fe.2.1,Nw.trans kp hX fe.2.2⟩ r
theorem dh.out {bC s:Shared}(hX:∀b∈X,bC.heap.get? b=none)(x:dh c (env::l) X aK bC e C d fl σ s):dh c l [] aK bC e C d fl σ s:=
 ⟨⟨x.xc.st,x.xc.dz.2.2,λuZ he=>x.xc.own uZ (.tail _ he),λuZ he=>x.xc.dX uZ (.tail _ he),⟨λb o q z q_=>x.xc.kp.keep b o q z (λhb=>by rw[hX b hb]at q;exact aJ q),x.xc.kp.tup,x.xc.kp.gens,x.xc.kp.drawn,x.xc.kp.os⟩,λq_ h=>nomatch h⟩,x.no,x.obj⟩
theorem dh.up {bC s:Shared}(ex:∀b∈X,σ b=none∧∃o,s.heap.get? b=some o)(x:dh c l [] aK bC e C d fl σ s):dh c l X aK bC e C d fl σ s:=
 ⟨⟨x.xc.st,x.xc.dz,x.xc.own,x.xc.dX,x.xc.kp.up,ex⟩,x.no,x.obj⟩
noncomputable def XP(c:Cx)(l:List Env)(X:List Addr)(σ:S)(s:Shared)(QX:Addr→Addr→S→Prop)(v:Value)(s':Shared):Prop:=
 ∃e C d fl af,v= .ref e∧(fl=none∨fl=some .none)∧dh c l X σ s e C d fl af s'∧QX C d af
theorem XP.trans {bC aw s':Shared}(kp:Kp X aK bC ah aw)(hX:∀b∈X,ah b=none∧∃o,aw.heap.get? b=some o)(x:XP c l X ah aw QX v s'):XP c l X aK bC QX v s':=
 D3 x λe C d fl af a b y q=>rR e C d fl af a b (y.trans kp hX) q
theorem In.ex {f:Fm}{h:Heap}(I:In c f k ρ σ h):∀b∈f.X,σ b=none∧∃o,h.get? b=some o:=λb hb=>
 ⟨(I.own b (Fm.iB hb)).1,let ⟨o,e,_⟩:=I.hX b (Fm.iB hb);⟨o,e⟩⟩
noncomputable def bE(c:Cx)(f:Fm)(k:Nat)(ss:List Stmt)(ρ:Lo)(σ:S)(Q:Fl→Lo→S→Prop)(QX:Addr→Addr→S→Prop):Prop:=
 ∀s E,In c f k ρ σ s.heap→(∀v s',XP c f.stack f.X σ s QX v s'→E v s')→wpAny c.M f.B (execs ss f.env) (dA c f k σ s Q) E s
noncomputable def cD(c:Cx)(f:Fm)(k:Nat)(st:Stmt)(ρ:Lo)(σ:S)(Q:Fl→Lo→S→Prop)(QX:Addr→Addr→S→Prop):Prop:=
 ∀s E,In c f k ρ σ s.heap→(∀v s',XP c f.stack f.X σ s QX v s'→E v s')→wpAny c.M f.B (exec st f.env) (dA c f k σ s Q) E s
end
end Mine
end
section
open Classical
namespace Mine
noncomputable section
inductive iG (c:Cx)(σ:S)(s:Shared)(Q:V→S→Prop)(v:Value)(s':Shared):Prop
 |mk (r:V) (af:S) (a:St c af s'.heap) (b:VR s'.heap v r) (d:Kp [] σ s af s') (q:Q r af):iG c σ s Q v s'
theorem iG.el {s':Shared}{P:Prop}(x:iG c σ s Q v s')(n:∀r af,St c af s'.heap→VR s'.heap v r→Kp [] σ s af s'→Q r af→P):P:=by
 cases x with|mk r af a b d q=>exact n r af a b d q
noncomputable def CV(c:Cx)(k:Nat)(fv:Value)(args:List V)(σ:S)(Q:V→S→Prop):Prop:=
 ∀A stack s vs E,St c σ s.heap→lh c A stack σ s.heap→n6 A k→Hd c A σ s.heap→aA s.heap vs args→wpAny c.M A (call fv vs) (iG c σ s Q) E s
theorem CV.mono (x:CV c k fv args σ Q)(h:∀r af,Q r af→Q' r af):CV c k fv args σ Q':=λA st s vs E a b d e g=>
 wpAny_mono (x A st s vs E a b d e g) (λv s' ck=>ck.el λr af x1 x2 x3 x4=>⟨r,af,x1,x2,x3,h _ _ x4⟩) λq_ q_ z=>z
noncomputable def Callee(c:Cx)(v:Value):Prop:=keepIn c.K v=true∨∀a,v≠.ref a
theorem zy{c:Cx}(h:Callee c v)(hp:Heap)(X:c.K.In hp):∃k,(k=Keeper.frame∨k=Keeper.machine∨k=Keeper.boundFrame)∧Looks c.M hp (keeperOf v) k:=by
 refine Or.elim h (λh=>?_) λh=>?_
 ·exact keeps_K h hp X
 ·refine⟨.machine,.inr (.inl rfl),Looks.of_pure ?_⟩
  cases v<;>first|rfl|exact absurd rfl (h _)
section
variable {c:Cx}{f:Fm}{E:Value→Shared→Prop}{k:Nat}{ρ:Lo}{σ:S}{Q:V→S→Prop}
theorem zA{M:Model}{fv:Value}{args:List (Bool×Sem Value)}{Q:Args→Shared→Prop}(hp:args.any (·.1)=false)(h:wpAny M A (spliced args) (λvs s'=>Q ⟨vs, []⟩ s') E s):
  wpAny M A (evalArgs fv true args []) Q E s:=by
 cases args with
 |nil=>
  unfold evalArgs
  show wpAny M A (spliced [] >>= _) Q E s
  refine wpAny_bind (wpAny_mono h (λvs s' h'=>wpAny_bind (wpAny_pure ?_)) λq_ q_ x=>x)
  refine wpAny_holding ?_
  exact wpAny_bind (wpAny_pure (wpAny_bind (wpAny_pure (wpAny_pure h'))))
 |cons a r=>
  obtain ⟨b,x⟩:=a
  rw[List.any_cons,Bool.or_eq_false_iff]at hp
  obtain ⟨hb,_⟩:=hp
  simp only at hb
  subst hb
  exact Calls.evalArgs_plain h
theorem pU(pos:Pos)(l:List (Bool×Sem Value)):(backTo pos l).any (·.1)=l.any (·.1):=by
 unfold backTo;exact ae List.any_map rfl
theorem u5{fv:Value}{first:List Value}{rf:List V}{args:List Expr}{s:Shared}(I:In c f k ρ σ s.heap)(hk:Callee c fv)(hf:aA s.heap first rf)(hp:(starEach args f.env).any (·.1)=false)
  (h:bQ c f E k args ρ σ λrs av=>CV c k fv (rf++rs) av Q):wpAny c.M f.B (callWith pos fv first (backTo pos (starEach args f.env)) []) (bh c f k ρ σ s Q) E s:=by
 refine callWith_of (P:=c.K.In) (by refine ae (pU ..) (ae hp ?_);rfl) (zy hk) (zA (by exact ae (pU ..) (ae hp rfl)) ?_)
 refine wpAny_mono (h pos s I) (λvs aw cx=>cx.el λrs ah aB aP ag cy=>⟨c.eH.keeps aB.st.base,?_⟩) λq_ q_ z=>z
 refine wpAny_mono (cy f.B f.stack aw _ E aB.st aB.cr aB.room aB.hd ((hf.mono ag.tup).append aP)) (λv s' dJ=>dJ.el λr af x1 x2 x3 x4=>?_) λq_ q_ z=>z
 refine XA (aB.jW x1 x3) λaR aj=>?_
 exact⟨r,af,aR,x2,ag.trans aj,x4⟩
theorem EV.sq (hg:Gm f.G x (.val v))(hk:Callee c v)(h:bQ c f E k args ρ σ λrs av=>CV c k v rs av Q)
  (hp:(starEach args f.env).any (·.1)=false:=by rfl):EV c f E k (.Call (.Name x p) args [] pos) ρ σ Q:=λs I=>by
 refine ae (arm_eval_Call_Name' ..) ?_
 refine wpAny_bind (wpAny_mono (EV.aF (E:=E) (Q:=λr af=>r= .val v∧af=σ) hg ⟨rfl,rfl⟩ s I) (λfv aw eZ=>eZ.el λr ah aB aP ag mw=>?_) λq_ q_ z=>z)
 obtain ⟨e1,e2⟩:=mw
 subst e1;subst e2
 (have zq:=aP.qV;subst zq)
 exact wpAny_mono (u5 (rf:= []) aB hk .nil hp h) (λq_ q_ z=>z.trans ag) λq_ q_ z=>z
theorem EV.ln (hi:Ix f.N x i)(hr:ρ[i]? =some (some (.val v)))(hk:Callee c v)(h:bQ c f E k args ρ σ λrs av=>CV c k v rs av Q)
  (hp:(starEach args f.env).any (·.1)=false:=by rfl):EV c f E k (.Call (.Name x p) args [] pos) ρ σ Q:=λs I=>by
 refine ae (arm_eval_Call_Name' ..) ?_
 refine wpAny_bind (wpAny_mono (EV.loc (E:=E) (Q:=λr af=>r= .val v∧af=σ) hi hr ⟨rfl,rfl⟩ s I) (λfv aw jX=>jX.el λr ah aB aP ag u6=>?_) λq_ q_ z=>z)
 obtain ⟨e1,e2⟩:=u6
 subst e1;subst e2
 (have zq:=aP.qV;subst zq)
 exact wpAny_mono (u5 (rf:= []) aB hk .nil hp h) (λq_ q_ z=>z.trans ag) λq_ q_ z=>z
noncomputable def MT(c:Cx)(σ:S)(r:V)(name:Str)(v:Value):Prop:=
 ∀A E s ov pl Q,St c σ s.heap→VR s.heap ov r→Q (v, [ov]) s→wpAny c.M A (getMethod ov name pl) Q E s
theorem EV.ax {u7 pos:Pos}{args:List Expr}(h:EV c f E k o ρ σ λr ah=>∃v,MT c ah r name v∧Callee c v∧bQ c f E k args ρ ah λrs av=>CV c k v (r::rs) av Q)
  (hp:(starEach args f.env).any (·.1)=false:=by rfl) (FI:(u7.endLine==pos.line)=true:=by rfl) (hl:decide (args.length<30)=true:=by rfl)
  (pV:∀t,attributeBase o name f.env t=t:=by intro _;rfl):EV c f E k (.Call (.Attribute o name u7) args [] pos) ρ σ Q:=λs I=>by
 refine ae (arm_eval_Call ..) (ae (pV ..) ?_)
 refine wpAny_bind (wpAny_mono (h s I) (λov aw jY=>jY.el λr ah aB aP ag u8=>?_) λq_ q_ z=>z)
 refine bG u8 λv hm hk hh=>?_
 refine wpAny_bind (wpAny_standAt ?_)
 have FJ:methodCallForm (args.length+ ([]:List Keyword).length) (backTo pos (starEach args f.env)) (backToKw pos (keywordEach [] f.env))=true:=by
  unfold methodCallForm
  refine ae (show (backTo pos (starEach args f.env)).all (λx=> !x.1)=true from by
   rw[List.all_eq_not_any_not];simp only[Bool.not_not];rw[pU,hp];rfl) ?_
  refine ae (show backToKw pos (keywordEach [] f.env)= [] from rfl) ?_
  simp only[List.length_nil,Nat.add_zero,List.isEmpty_nil,if_true]
  exact ae hl rfl
 have zB:methodCallPos true o f.env u7 pos=pure pos:=by unfold methodCallPos;simp[FI]
 unfold methodCall
 refine ae FJ ?_
 refine wpAny_bind (wpAny_holding (hm _ _ _ _ _ _ aB.st aP ?_))
 refine wpAny_bind (wpAny_of_eq zB ?_)
 exact wpAny_mono (u5 (rf:= [r]) aB hk (.cons aP .nil) hp hh) (λq_ q_ z=>z.trans ag) λq_ q_ z=>z
structure FK(c:Cx)(C:Addr)(ks:List Str)(name:Str)(fa:Addr):Prop where
 get:plainGet c.K C name=true
 find:findIn c.K (.ref C) name=some (some (.ref fa))
 fn:typeIn c.K (.ref fa)=some (.type "function")
 no:name∉ks
 keep:keepIn c.K (.ref fa)=true
theorem u9{h:Heap}(st:St c σ h)(hx:σ x=some (.inst t C d))(hd:σ d=some (.bb t2 ks vs)):
  ∃ox es n,PySem.W.InstAt h x ox C (some (dictOf es n))∧ox.dict=some d∧h.get? d=some (dictOf es n)∧dc h es ks vs:=by
 refine dH (st.own x _ hx) λq_ ob h1 FL=>?_
 refine cq FL λh2 h3 h4=>?_
 refine c3 (st.own d _ hd) λq_ es n h5 h6=>?_
 exact ml ob es n ⟨h1,h2,h4,by exact ae h3 h5⟩ h3 h5 h6
theorem MT.inst (hm:FK c C ks name fa)(hx:σ x=some (.inst t C d))(hd:σ d=some (.bb t2 ks vs)):MT c σ (.val (.ref x)) name (.ref fa):=by
 intro A E s ov pl Q st hv q
 (have zq:=hv.qV;subst zq)
 refine k7 (u9 st hx hd) λox es n I q_ q_ ir=>?_
 exact method_fn (c.eH.keeps st.base) I (plainGet_of hm.get).1 (plainGet_of hm.get).2 hm.find hm.fn (by show (lookIn name (dictOf es n)).map _=_;refine ae (lookIn_dict ..) (ae (ir.Ek hm.no) ?_);rfl) q
theorem MT.builtin {name:Str}{T id:String}(pa:PlainAttrs T)(slot:Slot T name id)(va:typeOf (.builtin id)=pure (.type "method_descriptor"))
  (h:∀(s:Shared) ov,St c σ s.heap→VR s.heap ov r→s.TypeIs ov T∧∀a,ov= .ref a→∃ob,s.heap.get? a=some ob∧ob.dict=none):MT c σ r name (.builtin id):=by
 intro A E s ov pl Q st hv q
 refine XA (h s ov st hv) λa b=>?_
 exact getMethod_builtin a pa slot va b q
structure zE(c:Cx)(C:Addr)(ks:List Str)(name:Str)(i:Nat):Prop where
 get:plainGet c.K C name=true
 dict:hasDictIn c.K C=true
 find:∃attr,findIn c.K (.ref C) name=some attr∧noGet c.K attr=true
 at_:ks[i]? =some name
 nodup:ks.Nodup
noncomputable def V.handed:V→Prop
 |.val v=>handedIn v=true
 |.c4 _ _ _=>False
 |_=>True
theorem zF{r:V}(x:VR h v r)(y:r.handed):handedIn v=true:=by
 cases x<;>first|rfl|exact y
theorem EV.attr {pos:Pos}(h:EV c f E k o ρ σ λr ah=>∃x C d t t2 ks vs i r',r= .val (.ref x)∧ah x=some (.inst t C d)∧ah d=some (.bb t2 ks vs)∧zE c C ks name i∧vs[i]? =some r'∧r'.handed∧Q r' ah)
  (he:eval (.Attribute o name pos) f.env= (do
     let o'←eval o f.env
     standAt pos.atName
     let r←holding [o'] (getAttr o' name true)
     letTemporaryGo o o' r
     pure r):=by rfl):EV c f E k (.Attribute o name pos) ρ σ Q:=λs I=>by
 refine Attribute_any_ (wpAny_mono (h s I) (λv aw pR=>pR.el λr ah aB aP ag vb=>?_) λq_ q_ z=>z) he
 refine bH vb λx C d t FM=>?_
 refine bH FM λt2 ks vs i FN=>?_
 refine nU FN λr' e hx hd ha FO=>?_
 refine cq FO λhv hh q=>?_
 subst e;(have zq:=aP.qV;subst zq)
 refine k7 (u9 aB.st hx hd) λox es n IA q_ q_ ir=>?_
 refine ak (ir.zg ha.nodup ha.at_ hv) λv' hg pW=>?_
 refine ak ha.find λattr hf hn=>?_
 exact get_value (c.eH.keeps aB.st.base) IA (plainGet_of ha.get).1 (findObj_own ha.dict hf hn hg) (zF pW hh) ((bh.tk aB pW q).trans ag)
end
theorem bt{α:Type}{a:Option α}{r:α}(h:(bif b then a else none)=some r):b=true∧a=some r:=by
 cases b with
 |true=>exact⟨rfl,h⟩
 |false=>exact aJ h
noncomputable def lq:List (Str×V):= [(Str.ofString "A_NIL",.int 0),(Str.ofString "A_SYSTEM",.int 25),(Str.ofString "Areas",.val (.ref 870)),(Str.ofString "BUILD",.int 1),(Str.ofString "CON",.int 4),(Str.ofString "EXTRA",.int 8),(Str.ofString "FUN",.int 6),(Str.ofString "F_DOT",.int 0),(Str.ofString "F_ERROR",.int 16),(Str.ofString "Halt",.val (.ref 71)),(Str.ofString "INT",.int 5),(Str.ofString "LIS",.int 3),(Str.ofString "NIL_CELL",.tup [.int 4,.int 0]),(Str.ofString "PairSet",.val (.ref 476)),(Str.ofString "PrologError",.val (.ref 51)),(Str.ofString "READ",.str (Str.ofString "read")),(Str.ofString "REF",.int 0),(Str.ofString "SRF",.int 1),(Str.ofString "STR",.int 2),(Str.ofString "Store",.val (.ref 450)),(Str.ofString "Symbols",.val (.ref 174)),(Str.ofString "VISIT",.int 0),(Str.ofString "VOID",.tup [.int 5,.int 0]),(Str.ofString "_law_agrees",.val (.ref 920)),(Str.ofString "_law_before",.val (.ref 944)),(Str.ofString "_law_change",.val (.ref 939)),(Str.ofString "_law_compared",.val (.ref 958)),(Str.ofString "_law_end",.val (.ref 888)),(Str.ofString "_law_error",.val (.ref 915)),(Str.ofString "_law_full",.val (.ref 905)),(Str.ofString "_law_halted",.val (.ref 965)),(Str.ofString "_law_holds",.val (.ref 951)),(Str.ofString "_law_inside",.val (.ref 893)),(Str.ofString "_law_leaf",.val (.ref 927)),(Str.ofString "_law_match",.val (.ref 910)),(Str.ofString "_law_meet",.val (.ref 900)),(Str.ofString "_law_pick",.val (.ref 881)),(Str.ofString "_law_tree",.val (.ref 932)),(Str.ofString "bind_checked",.val (.ref 522)),(Str.ofString "bool",.val (.type "bool")),(Str.ofString "compare_shapes",.val (.ref 550)),(Str.ofString "compare_terms",.val (.ref 206)),(Str.ofString "compare_tops",.val (.ref 557)),(Str.ofString "compare_unify",.val (.ref 564)),(Str.ofString "domain_error",.val (.ref 248)),(Str.ofString "fixed_atoms",.val (.ref 80)),(Str.ofString "fixed_functors",.val (.ref 87)),(Str.ofString "formal_of",.val (.ref 227)),(Str.ofString "instantiation_error",.val (.ref 234)),(Str.ofString "is_variable",.val (.ref 508)),(Str.ofString "isinstance",.val (.builtin "isinstance")),(Str.ofString "len",.val (.builtin "len")),(Str.ofString "list",.val (.type "list")),(Str.ofString "occurs_in",.val (.ref 529)),(Str.ofString "order",.val (.ref 543)),(Str.ofString "order_functors",.val (.ref 213)),(Str.ofString "order_of",.val (.ref 649)),(Str.ofString "order_texts",.val (.ref 192)),(Str.ofString "order_wholes",.val (.ref 199)),(Str.ofString "pred_acyclic",.val (.ref 642)),(Str.ofString "pred_after",.val (.ref 663)),(Str.ofString "pred_atom",.val (.ref 600)),(Str.ofString "pred_atomic",.val (.ref 614)),(Str.ofString "pred_before",.val (.ref 656)),(Str.ofString "pred_callable",.val (.ref 628)),(Str.ofString "pred_compare",.val (.ref 698)),(Str.ofString "pred_compound",.val (.ref 621)),(Str.ofString "pred_halt",.val (.ref 705)),(Str.ofString "pred_halt_code",.val (.ref 712)),(Str.ofString "pred_integer",.val (.ref 607)),(Str.ofString "pred_is_list",.val (.ref 635)),(Str.ofString "pred_nonvar",.val (.ref 593)),(Str.ofString "pred_not_after",.val (.ref 670)),(Str.ofString "pred_not_before",.val (.ref 677)),(Str.ofString "pred_not_variant",.val (.ref 691)),(Str.ofString "pred_var",.val (.ref 586)),(Str.ofString "pred_variant",.val (.ref 684)),(Str.ofString "push_arguments",.val (.ref 487)),(Str.ofString "push_pairs",.val (.ref 494)),(Str.ofString "range",.val (.type "range")),(Str.ofString "rank_terms",.val (.ref 185)),(Str.ofString "rank_unify",.val (.ref 536)),(Str.ofString "resource_error",.val (.ref 255)),(Str.ofString "same_shape",.val (.ref 501)),(Str.ofString "set",.val (.type "set")),(Str.ofString "str",.val (.type "str")),(Str.ofString "sum",.val (.builtin "sum")),(Str.ofString "system_error",.val (.ref 220)),(Str.ofString "tuple",.val (.type "tuple")),(Str.ofString "type_error",.val (.ref 241)),(Str.ofString "unify_unify",.val (.ref 515)),(Str.ofString "variable_number",.val (.ref 571)),(Str.ofString "variant",.val (.ref 578)),(Str.ofString "ord",.val (.builtin "ord"))]
noncomputable def FT:NameKind→Bool
 |.local=>true
 |.cell=>true
 |_=>false
noncomputable def FU:NameKind→Bool
 |.globalImplicit=>true
 |_=>false
noncomputable def FV(s:Scope):List Str:=(s.names.filter λp=>FT p.2).map (·.1)
noncomputable def zG(s:Scope):List (Str×V):=s.names.filterMap λp=>bif FU p.2 then (lq.lookup p.1).map λv=>(p.1,v) else none
structure Fn where
 nm:Str
 qual:Str
 params:Arguments
 body:List Stmt
 scope:Scope
 dV:Value
 pm:Value
 a:Addr
 code:Addr
noncomputable abbrev Fn.ps (fn:Fn):List Str:=fn.params.args.map (·.arg)
noncomputable abbrev Fn.N (fn:Fn):List Str:=FV fn.scope
noncomputable abbrev Fn.G (fn:Fn):List (Str×V):=zG fn.scope
theorem FW(h:p∈zG s):p∈lq:=by
 refine ak (List.mem_filterMap.mp h) λq hq e=>?_
 obtain ⟨-,e⟩:=bt e
 refine eW e λv h1=>?_
 exact je h1
noncomputable def Fn.fd (fn:Fn):FuncData:=fnOf fn.nm fn.qual fn.params fn.body fn.scope fn.dV .none .none fn.pm none (.ref fn.code) .none
noncomputable abbrev Fn.fm (fn:Fn)(L:Addr)(A:Around)(stack:List Env):Fm:=⟨false,callEnvC fn.fd L fn.a,A.deeper (callEnvC fn.fd L fn.a),callEnvC fn.fd L fn.a::stack,fn.N,fn.G⟩
structure Fn.Ok (c:Cx)(fn:Fn):Prop where
 look:c.K.lookup fn.a=some ⟨.type "function",none,.func fn.fd, #[]⟩
 code:codeIn c.K (.ref fn.code) fn.qual=true
 kind:fn.scope.kind= .function
 co:fn.scope.isCoroutine=false
 gen:fn.scope.isGenerator=false
 nodup:fn.N.Nodup
 pre:∃cO,fn.N=fn.ps++cO
 vc:((cellsFrom 0 fn.scope.names []).map (·.1)).Nodup
 loc:∀x∈fn.N,(fn.scope.names.lookup x=some .local∨fn.scope.names.lookup x=some .cell)∧(x==("__debug__":Str))=false
 aF:∀p∈fn.G,(fn.scope.names.lookup p.1=some .globalImplicit∧(p.1==("__debug__":Str))=false)∧c.pQ p.1 p.2
theorem FX{kindOf:Str→Option NameKind}{x:Str}{v:Value}(hx:kindOf x=some .local):∀(gg:List (Str×Value)) (m:Str→Option Value),(gg.map (·.1)).Nodup→((x,v)∈gg∨((∀p∈gg,p.1≠x)∧m x=some v))→bindL kindOf gg m x=some v:=by
 intro gg
 induction gg with
 |nil=>exact λm q_ h=>Or.elim h (λh=>dx h) λh=>h.2
 |cons p r ih=>
  intro m nd h
  have nd:=List.nodup_cons.mp nd
  refine ih _ nd.2 (Or.elim h (λh=>Or.elim (List.mem_cons.mp h) (λe=>?_) Or.inl) λo=>.inr ⟨λp hp=>o.1 p (.tail _ hp),?_⟩)
  ·refine .inr ⟨λp hp q=>nd.1 (List.mem_map.mpr ⟨p,hp,q.trans (congrArg Prod.fst e)⟩),?_⟩
   cases e
   exact(congrFun (if_pos hx) x).trans (if_pos rfl)
  ·have h1:=o.1 _ (.head _)
   show (if kindOf p.1=some .local then _ else m) x=_
   split
   ·exact(if_neg λq=>h1 q.symm).trans o.2
   ·exact o.2
theorem FY{kindOf:Str→Option NameKind}{x:Str}{v:Value}(hx:kindOf x≠some .local):∀(gg:List (Str×Value)) (m:Str→Option Value),(gg.map (·.1)).Nodup→((x,v)∈gg∨((∀p∈gg,p.1≠x)∧m x=some v))→bindC kindOf gg m x=some v:=by
 intro gg
 induction gg with
 |nil=>exact λm q_ h=>Or.elim h (λh=>dx h) λh=>h.2
 |cons p r ih=>
  intro m nd h
  have nd:=List.nodup_cons.mp nd
  refine ih _ nd.2 (Or.elim h (λh=>Or.elim (List.mem_cons.mp h) (λe=>?_) Or.inl) λo=>.inr ⟨λp hp=>o.1 p (.tail _ hp),?_⟩)
  ·refine .inr ⟨λp hp q=>nd.1 (List.mem_map.mpr ⟨p,hp,q.trans (congrArg Prod.fst e)⟩),?_⟩
   cases e
   exact(congrFun (if_neg hx) x).trans (if_pos rfl)
  ·have h1:=o.1 _ (.head _)
   show (if kindOf p.1=some .local then m else _) x=_
   split
   ·exact o.2
   ·exact(if_neg λq=>h1 q.symm).trans o.2
noncomputable def aq(Q:V→S→Prop)(fl:Fl)(_:Lo)(af:S):Prop:=match fl with
 |.ret r=>∃aL,Sub aL af∧Q r aL
 |.next=>∃aL,Sub aL af∧Q .none aL
 |_=>False
theorem vd{l:List (Str×Addr)}(h:(l.lookup x).isSome=true):∃a,l.lookup x=some a:=Option.isSome_iff_exists.mp h
theorem cellsFrom_names(names:List (Str×NameKind)):∀(n m:Nat) (aG ve:List (Str×Addr)),aG.map (·.1)=ve.map (·.1)→(cellsFrom n names aG).map (·.1)= (cellsFrom m names ve).map (·.1):=by
 induction names with
 |nil=>exact λq_ q_ q_ q_ e=>e
 |cons p r ih=>
  intro n m aG ve e
  show ((if (p.2==NameKind.cell)=true then _ else _:List (Str×Addr))).map _= ((if (p.2==NameKind.cell)=true then _ else _:List (Str×Addr))).map _
  by_cases h:(p.2==NameKind.cell)=true
  ·exact ae (if_pos h) (ae (if_pos h) (ih _ _ _ _ (congrArg (List.cons p.1) e)))
  ·exact ae (if_neg h) (ae (if_neg h) (ih _ _ _ _ e))
theorem FZ{α:Type}{a:α}{l:List (Str×α)}:(l.map (·.1)).Nodup→(x,a)∈l→l.lookup x=some a:=by
 induction l with
 |nil=>exact λq_ h=>dx h
 |cons p r ih=>
  intro nd h
  have nd:=List.nodup_cons.mp nd
  refine Or.elim (List.mem_cons.mp h) (λe=>?_) λh=>?_
  ·subst e;exact ae List.lookup_cons (ae (beq_self_eq_true x) rfl)
  ·exact ae List.lookup_cons (ae (beq_eq_false_iff_ne.mpr λq:x=p.1=>nd.1 (List.mem_map.mpr ⟨(x,a),h,q⟩)) (ih nd.2 h))
theorem F0{s s':Shared}(k:∀b o,s.heap.get? b=some o→s'.heap.get? b=some o)(h:∃h' tk,s'= {s with heap:=h',toks:=tk}):Kp [] σ s σ s':=by
 refine jO h λh' tk F1=>?_
 subst F1
 exact Kp.ext k
theorem zip_get{α β:Type}{a:α}{b:β}{l:List α}:∀{l':List β}{i:Nat},l[i]? =some a→l'[i]? =some b→(a,b)∈l.zip l':=by
 induction l with
 |nil=>exact λh q_=>nomatch h
 |cons x l ih=>
  intro l' i
  cases l' with
  |nil=>exact λq_ h=>nomatch h
  |cons y l'=>
   cases i with
   |zero=>exact λh h'=>Option.some.inj h▸Option.some.inj h'▸.head _
   |succ i=>exact λh h'=>.tail _ (ih h h')
noncomputable def CC(c:Cx)(k:Nat)(fv:Value)(args:List V)(σ:S)(Q:V→S→Prop):Prop:=
 ∀A stack s vs (R:Result→Shared→Prop),St c σ s.heap→lh c A stack σ s.heap→n6 A k→Hd c A σ s.heap→aA s.heap vs args→(∀v s',iG c σ s Q v s'→R (.ok (.ret v)) s')→codeAny c.M A (.call fv ⟨vs, []⟩) R s
theorem CC.cv (x:CC c k fv args σ Q):CV c k fv args σ Q:=λA st s vs E a b d e g=>
 wpAny_call (x A st s vs _ a b d e g λq_ q_ z=>z)
noncomputable def Binds(c:Cx)(fn:Fn)(n:Nat)(cF:List V):Prop:=∀(s:Shared) (vs:List Value),c.K.In s.heap→vs.length=n→∃ds:List Value,BindsTo s fn.fd ⟨vs, []⟩ (fn.ps.zip (vs++ds))∧aA s.heap ds cF
theorem Binds.plain {fn:Fn}(h:∀vs:List Value,vs.length=fn.ps.length→bindArgs fn.fd ⟨vs, []⟩=pure (fn.ps.zip vs)):Binds c fn fn.ps.length []:=λs vs q_ hl=>
 ⟨[],BindsTo.of_eq (by exact ae (List.append_nil ..) (h vs hl)),.nil⟩
noncomputable def mx(c:Cx)(k:Nat)(fv:Value)(args:List V)(σ:S)(Q:V→S→Prop)(QX:Addr→Addr→S→Prop):Prop:=
 ∀A stack s vs (R:Result→Shared→Prop),St c σ s.heap→lh c A stack σ s.heap→n6 A k→Hd c A σ s.heap→aA s.heap vs args→(∀v s',iG c σ s Q v s'→R (.ok (.ret v)) s')→(∀v s',XP c stack [] σ s QX v s'→R (.error v) s')→codeAny c.M A (.call fv ⟨vs, []⟩) R s
theorem mx.fn {QX:Addr→Addr→S→Prop}{k:Nat}{fn:Fn}{args cF:List V}(ok:fn.Ok c)(ch:(args++cF).length=fn.ps.length)(dK:fn.ps.Nodup)
  (vf:Binds c fn args.length cF)
  (h:∀L A stack,bE c (fn.fm L A stack) k fn.body ((args++cF).map some++List.replicate (fn.N.length- (args++cF).length) none) σ (aq Q) QX):mx c (k+1) (.ref fn.a) args σ Q QX:=by
 intro A stack s zH R st fr room hd zI hR F2
 refine ak (vf s zH (c.eH.keeps st.base) zI.length) λds fF pX=>?_
 have hv:=zI.append pX
 generalize n9:zH++ds=vs at hv fF
 generalize Vu:args++cF=og at hv ch h
 have F3:vs.length=fn.ps.length:=hv.length.trans ch
 have vg:∀x,fn.scope.names.lookup x=some .cell→((cellsFrom (s.heap.objs.size+1) fn.scope.names []).lookup x).isSome=true:=λx hx=>cellsFrom_some _ _ _ (.inl hx)
 refine XE ok.pre λcO hN=>?_
 have F4:∀x∈fn.ps,x∈fn.N:=λx hx=>by exact ae hN (List.mem_append_left _ hx)
 refine codeAny_call_function (fd:=fn.fd) (body:=fn.body) (by have:=room.1;exact M1 [_,_] [] 0x3e831001113e831a111111024150022111 rfl this) ((c.eH.keeps st.base) _ _ ok.look) rfl ok.co ok.gen rfl (codeRec_of (c.eH.keeps st.base) ok.code) (fF _ _ _ _ ?_)
 refine wpAny_newFunctionEnv_cells ok.kind (λx hx=>?_) (λenv he aw X=>?_)
 ·refine Or.elim ((ok.loc x.1 (F4 _ (List.of_mem_zip hx).1)).1) (λz=>?_) λz=>?_
  ·exact .inl z
  ·exact .inr ⟨z,vg _ z⟩
 ·subst he
  refine⟨(c.nolimit.keeps st.base).keeps X.toInCall.keep,codeAny_func ?_⟩
  have X:InCallC s (callEnvC fn.fd s.heap.objs.size fn.a).locals (bindL (callEnvC fn.fd s.heap.objs.size fn.a).kindOf (fn.ps.zip vs) λq_=>none) (callEnvC fn.fd s.heap.objs.size fn.a).cells (bindC (callEnvC fn.fd s.heap.objs.size fn.a).kindOf (fn.ps.zip vs) λq_=>none) aw:=X
  have keep:=X.toInCall.keep
  have same:=X.toInCall.same
  have kp:Kp [] σ s σ aw:=F0 keep same
  have pY:St c σ aw.heap:=st.ext keep
  have fresh:∀b,s.heap.objs.size≤b→s.heap.get? b=none:=λb hb=>by
   cases q:s.heap.get? b with
   |none=>rfl
   |some o=>exact absurd (Heap.lt_size q) (Nat.not_lt.mpr hb)
  have own:∀b∈(fn.fm s.heap.objs.size A stack).own,s.heap.objs.size≤b:=λb hb=>by
   refine bO hb ?_ λhb=>?_
   ·exact Nat.le_refl _
   ·refine eU hb λp hp=>?_
    exact Nat.le_of_lt (X.above p.1 p.2 hp)
  have vc:((callEnvC fn.fd s.heap.objs.size fn.a).cells.map (·.1)).Nodup:=by
   show ((cellsFrom (s.heap.objs.size+1) fn.scope.names []).map (·.1)).Nodup
   exact ae (cellsFrom_names _ _ 0 [] [] rfl) ok.vc
  have F5:∀p∈(callEnvC fn.fd s.heap.objs.size fn.a).cells,∃v,aw.heap.IsCell p.2 v:=λp hp=>⟨_,X.cell p.1 p.2 (FZ vc hp)⟩
  have fg:∀b∈(fn.fm s.heap.objs.size A stack).own,σ b=none∧c.base.get? b=none:=λb hb=>st.fresh (fresh b (own b hb))
  have F6:(fn.fm s.heap.objs.size A stack).own.Nodup:=by
   show (s.heap.objs.size::(callEnvC fn.fd s.heap.objs.size fn.a).cells.map (·.2)).Nodup
   rw[List.nodup_cons]
   refine⟨λq=>?_,?_⟩
   ·refine ak (List.mem_map.mp q) λp hp q=>?_
    have h3:=X.above p.1 p.2 hp
    have h4:(callEnvC fn.fd s.heap.objs.size fn.a).locals=s.heap.objs.size:=rfl
    rw[h4,q]at h3
    exact Nat.lt_irrefl _ h3
   ·exact List.pairwise_map.mpr X.apart
  have I:In c (fn.fm s.heap.objs.size A stack) k (og.map some++List.replicate (fn.N.length- og.length) none) σ aw.heap:=by
   refine⟨pY,⟨ok.kind,rfl,rfl,ok.nodup,F6,λx hx=>⟨?_,(ok.loc x hx).2⟩,ok.aF⟩,?_,F5,fg,?_,?_,?_⟩
   ·refine Or.elim ((ok.loc x hx).1) (λz=>?_) λz=>?_
    ·exact .inl z
    ·exact .inr ⟨z,vd (vg x z)⟩
   ·refine bx _ X.toInCall.ns (λi x r h1 h2=>?_)
    have hi:i<og.length:=by
     refine Or.elim (Nat.lt_or_ge i og.length) (λh=>?_) λh=>?_
     ·exact h
     ·rw[List.getElem?_append_right (by exact ae (List.length_map ..) h)]at h2
      refine XE (List.getElem?_eq_some_iff.mp h2) λq_ e=>?_
      rw[List.getElem_replicate]at e;exact aJ e
    rw[List.getElem?_append_left (by exact ae (List.length_map ..) hi),List.getElem?_map]at h2
    have ha:og[i]? =some r:=by
     cases q:og[i]? with
     |none=>rw[q]at h2;exact aJ h2
     |some r'=>rw[q]at h2;cases h2;rfl
    refine ak (hv.get ha) λv g1 g2=>?_
    have hx:fn.ps[i]? =some x:=by
     have F7:(fn.ps++cO)[i]? =some x:=by exact aU hN h1
     rwa [List.getElem?_append_left (by exact M2 [_,_,_] [] 0x102011100201111000112 rfl ch hi)]at F7
    have hm:(x,v)∈fn.ps.zip vs:=zip_get hx g1
    have F8:x∈fn.N:=List.mem_of_getElem? h1
    have hz:((fn.ps.zip vs).map (·.1)).Nodup:=by
     exact ae (List.map_fst_zip (by exact M1 [_,_] [] 0x10001101000113 rfl F3)) dK
    refine⟨v,g2.mono kp.tup,?_⟩
    refine Or.elim ((ok.loc x F8).1) (λz=>?_) λz=>?_
    ·exact .inl ⟨z,FX z _ _ hz (.inl hm)⟩
    ·refine XE (vd (vg x z)) λca zJ=>?_
     refine .inr ⟨z,ca,zJ,?_⟩
     have h5:=X.cell x ca zJ
     rw[FY (by show (fn.scope.names.lookup x)≠_;refine ae z ?_;intro q;contradiction) _ _ hz (.inl hm)]at h5
     exact h5
   ·refine⟨Around.frames_deeper fr.eq,?_,?_,λenv he b hb=>?_⟩
    ·exact Heap.FunFrames.cons (by show fn.scope.kind≠_;refine ae ok.kind ?_;intro q;contradiction) rfl X.toInCall.ns (fg _ (.head _)).2 (fr.kp (X:= []) kp (λq_ h=>nomatch h) (λq_ h=>nomatch h)).dz
    ·intro env he b hb
     cases he with
     |head=>(injection hb with hb;subst hb);exact(fg _ (.head _)).1
     |tail _ he=>exact fr.own env he b hb
    ·cases he with
     |head=>(injection hb with hb;subst hb);exact rY X.toInCall.ns
     |tail _ he=>exact(fr.kp (X:= []) kp (λq_ h=>nomatch h) (λq_ h=>nomatch h)).dX env he b hb
   ·exact⟨by show (A.depth+1)+4*k+10<recursionLimit;have:=room.1;exact M1 [_,_] [] 0x3e831a1110415111002221113e831a111111024150022111 rfl this,by show (A.units+3)+16*k+300<cLine;have:=room.2;exact M1 [_,_] [] 0x26ac4112c311010253110022211126ac4112c3111110210250022111 rfl this⟩
   ·exact hd.kp (X:= []) (s':=aw) (λq_ h=>nomatch h) kp
  refine wpAny_mono (h s.heap.objs.size A stack aw _ I ?px) (λfl s' uP=>uP.el λr ρ' af I' h' k' q'=>?_) (λq_ q_ z=>z)
  case px=>
   intro v s' xp
   refine bH xp λe C d fl F9=>?_
   refine nS F9 λaf ev ki x q=>?_
   subst ev
   refine leave_ (Around.frames_deeper fr.eq) rfl x ki λh' x'=>F2 _ _ (rR e C d _ af rfl (.inr rfl) ?_ q)
   exact(dh.trans kp.up I.ex x').out λb hb=>fresh b (own b (Fm.iB hb))
  have fin:∀aL,Sub aL af→Kp [] σ s aL s':=λaL sub=>by
   have k2:Kp (fn.fm s.heap.objs.size A stack).own σ s aL s':=(kp.up.trans k').sub sub
   exact⟨λb o e z q_=>k2.keep b o e z (λhb=>by rw[fresh b (own b hb)]at e;exact aJ e),k2.tup,k2.gens,k2.drawn,k2.os⟩
  cases h' with
  |next=>refine ak q' λaL sub q=>?_;exact hR _ _ ⟨_,aL,I'.st.sub sub,.none,fin aL sub,q⟩
  |ret hr=>refine ak q' λaL sub q=>?_;exact hR _ _ ⟨_,aL,I'.st.sub sub,hr,fin aL sub,q⟩
  |brk=>exact q'.elim
  |cont=>exact q'.elim
theorem EX.r (h:∀E,EX c f E k ss ρ σ Q):bE c f k ss ρ σ Q QX:=λs E I q_=>h E s I
theorem CC.fn {fn:Fn}{args cF:List V}(ok:fn.Ok c)(ch:(args++cF).length=fn.ps.length)(dK:fn.ps.Nodup)
  (vf:Binds c fn args.length cF)
  (h:∀L A stack E,EX c (fn.fm L A stack) E k fn.body ((args++cF).map some++List.replicate (fn.N.length- (args++cF).length) none) σ (aq Q)):CC c (k+1) (.ref fn.a) args σ Q:=λA stack s vs R a1 a2 a3 a4 a5 a6=>
 mx.fn (QX:=λq_ q_ q_=>False) ok ch dK vf (λL A stack=>EX.r (h L A stack)) A stack s vs R a1 a2 a3 a4 a5 a6 λv s' z=>by (refine bH z λq_ q_ q_ q_ Ga=>?_;refine nS Ga λq_ q_ q_ q_ q=>?_);exact q.elim
end
end Mine
end
section
open Classical
namespace Mine
noncomputable section
section
variable {c:Cx}{f:Fm}{E:Value→Shared→Prop}{k:Nat}{ρ:Lo}{σ:S}{Q:V→S→Prop}
noncomputable def RL(c:Cx)(σ:S)(a:Addr)(l:List V):Prop:=∀h,St c σ h→∃vs,h.IsList a vs∧aA h vs.toList l
theorem RL.own (ha:σ a=some (.list t l)):RL c σ a l:=λh st=>by
 refine c3 (st.own a _ ha) λq_ vs n h1 h2=>?_
 exact⟨vs,IsL.isList h1,h2⟩
theorem aA.oh {vs:Array Value}{l:List V}(x:aA h vs.toList l){i:Nat}(e:l[i]? =some r):∃v,vs[i]? =some v∧VR h v r:=by
 refine ak (x.get e) λv a b=>?_
 exact⟨v,by rwa [Array.getElem?_toList]at a,b⟩
theorem aA.size {vs:Array Value}{l:List V}(x:aA h vs.toList l):vs.size=l.length:=by exact aU Array.length_toList x.length
theorem be{α:Type}{l:List α}{r:α}(e:l[i]? =some r):i<l.length:=(List.getElem?_eq_some_iff.mp e).1
noncomputable abbrev kj (value c6:Expr):List Value→Sem Value:=λvs=>subscriptTail value c6 (vs.getD 0 .none) (vs.getD 1 .none)
theorem EV.sub (h:EV c f E k value ρ σ λa ah=>EV c f E k c6 ρ ah λb av=>OV c f E k (kj value c6) [a,b] ρ av Q):EV c f E k (.Subscript value c6 pos) ρ σ Q:=λs I=>by
 refine Subscript_ (wpAny_mono (h s I) (λe9 aw ck=>ck.el λa ah aB aP ag cy=>?_) λq_ q_ z=>z)
 refine wpAny_mono (cy aw aB) (λfE aO cx=>cx.el λb av aR cg aj eJ=>?_) λq_ q_ z=>z
 exact wpAny_mono (eJ aO [e9,fE] aR (.cons (aP.mono aj.tup) (.cons cg .nil))) (λv s' x=>x.trans (ag.trans aj)) λq_ q_ z=>z
noncomputable abbrev my (c6:Expr):Prop:=∀(a:Addr) (i:Int) (u:Tok),subscripted c6 false (.ref a) (.int i u)=operate [.ref a,.int i u] (getItem (.ref a) (.int i u))
theorem OV.Gb {a:Addr}{l:List V}{i:Int}(ha:RL c σ a l)(h0:0≤i)(hf:i<2 ^ 63)(hx:l[i.toNat]? =some r)(q:Q r σ)
  (hs:my c6:=by intro _ _ _;with_unfolding_all rfl):OV c f E k (kj value c6) [.val (.ref a),.int i] ρ σ Q:=λs vs I h=>by
 refine aA.e2 h λq_ q_ h1 h2=>?_
 refine h1.eV ?_
 refine h2.eI λq_=>?_
 refine ak (ha _ I.st) λys e1 e2=>?_
 refine ak (e2.oh hx) λv e3 e4=>?_
 exact tail_any e1.typeIs slot_list_getitem.lookup (wpAny_getItem_list e1 h0 hf e3 (bh.now I e4 q)) (hs _ _ _)
theorem OV.zK {l:List V}{i:Int}(ha:σ a=some (.list t l))(h0:0≤i)(hf:i<2 ^ 63)(hx:l[i.toNat]? =some r)(q:Q r σ)
  (hs:my c6:=by intro _ _ _;with_unfolding_all rfl):OV c f E k (kj value c6) [.val (.ref a),.int i] ρ σ Q:=OV.Gb (.own ha) h0 hf hx q hs
theorem OV.Gc {a:Addr}{t:Nat}{l:List V}(ha:σ a=some (.list t l))(h0:0<l.length)(hx:l[l.length- 1]? =some r)(q:Q r σ)
  (hs:my c6:=by intro _ _ _;with_unfolding_all rfl):OV c f E k (kj value c6) [.val (.ref a),.int (-1)] ρ σ Q:=λs vs I h=>by
 refine aA.e2 h λq_ q_ h1 h2=>?_
 refine h1.eV ?_
 refine h2.eI λq_=>?_
 refine c3 (I.st.own a _ ha) λq_ ys n e1 e2=>?_
 refine ak (e2.oh hx) λv e3 e4=>?_
 have hl:=e2.size
 refine tail_any (IsL.isList e1).typeIs slot_list_getitem.lookup (wpAny_getItem_list_neg (IsL.isList e1) (by decide) (by exact M2 [_,_] [] 0x11141064114100011300011111 rfl h0 hl) (by decide) (x:=v) ?_ (bh.now I e4 q)) (hs _ _ _)
 have:(-1+ (ys.size:Int)).toNat=l.length- 1:=by exact Nat.le_antisymm (M3 [_,_,_,_] [] 0x203011000611142306116111202101101000112 rfl hl s2 (Int.toNat_of_nonneg (M2 [_,_] [] 0x10611142011114100011300011111 rfl h0 hl))) (M3 [_,_,_,_] [] 0x203011000111302112206106111421171000113 rfl hl (Int.toNat_of_nonneg (M2 [_,_] [] 0x10611142011114100011300011111 rfl h0 hl)) (Nat.sub_add_cancel (M1 [_] [] 0x11111000011111 rfl h0)))
 exact ae this e3
theorem OV.zL {l:List V}{i:Int}(h0:0≤i)(hf:i<2 ^ 63)(hx:l[i.toNat]? =some r)(q:Q r σ)
  (hs:my c6:=by intro _ _ _;with_unfolding_all rfl):OV c f E k (kj value c6) [.tup l,.int i] ρ σ Q:=λs vs I h=>by
 refine aA.e2 h λq_ q_ h1 h2=>?_
 refine h2.eI λq_=>?_
 refine h1.eT λq_ q_ e1 e2=>?_
 refine ak (e2.get hx) λv e3 e4=>?_
 have bq:=be hx
 exact item_tupleT e1 (by exact M1 [] [_] 0x800000000000000001411400011114 rfl h0) hf (by exact ae e2.length (seqIndex_of h0 (by exact M2 [_,_] [_] 0x10600115006001171000111 rfl bq (Int.toNat_of_nonneg (M1 [] [_] 0x1111400011114 rfl h0))))) e3 (bh.now I e4 q) (hs _ _ _)
noncomputable def look{K:Type}[DecidableEq K](ps:List (K×V))(x:K):Option V:=(ps.find? λkv=>decide (kv.1=x)).map (·.2)
noncomputable def put{K:Type}[DecidableEq K](ps:List (K×V))(x:K)(r:V):List (K×V):=if ps.any (λkv=>decide (kv.1=x)) then ps.map (λkv=>if kv.1=x then (kv.1,r) else kv) else ps++ [(x,r)]
theorem lr{α β:Type}{p:α→Bool}{a:α}{l:List α}{g:α→β}(h:p a=true):((a::l).find? p).map g=some (g a):=congrArg (Option.map g) (List.find?_cons_of_pos h)
theorem gT{α β:Type}{p:α→Bool}{a:α}{l:List α}{g:α→β}(h:¬p a=true):((a::l).find? p).map g= (l.find? p).map g:=congrArg (Option.map g) (List.find?_cons_of_neg h)
theorem cN.look {K:Type}[DecidableEq K]{x:K}{bv:List (K×Value)}{ps:List (K×V)}(H:cN h bv ps):(look ps x=none∧valueAt bv x=none)∨∃r v,Mine.look ps x=some r∧valueAt bv x=some v∧VR h v r:=by
 induction H with
 |nil=>exact .inl ⟨rfl,rfl⟩
 |@cons k v r vs rs a b ih=>
  by_cases q:k=x
  ·exact .inr (eY r v (lr (decide_eq_true q)) (lr (decide_eq_true q)) a)
  ·have q:¬decide (k=x)=true:=λz=>q (of_decide_eq_true z)
   exact Or.elim ih (λo=>.inl ⟨Eq.trans (b:=Mine.look rs x) (gT q) o.1,Eq.trans (b:=valueAt vs x) (gT q) o.2⟩) λo=>.inr (eX o λr' v' h1 h2 h3=>eY r' v' (Eq.trans (b:=Mine.look rs x) (gT q) h1) (Eq.trans (b:=valueAt vs x) (gT q) h2) h3)
theorem cN.any {K:Type}[DecidableEq K]{x:K}{bv:List (K×Value)}{ps:List (K×V)}(H:cN h bv ps):bv.any (λkv=>decide (kv.1=x))=ps.any λkv=>decide (kv.1=x):=by
 induction H with
 |nil=>rfl
 |cons _ _ ih=>exact congrArg (or _) ih
theorem cN.length {K:Type}{bv:List (K×Value)}{ps:List (K×V)}(H:cN h bv ps):bv.length=ps.length:=by
 induction H with
 |nil=>rfl
 |cons _ _ ih=>exact congrArg Nat.succ ih
theorem cN.map {K:Type}[DecidableEq K]{x:K}(hv:VR h v r){bv:List (K×Value)}{ps:List (K×V)}(H:cN h bv ps):cN h (bv.map λkv=>if kv.1=x then (kv.1,v) else kv) (ps.map λkv=>if kv.1=x then (kv.1,r) else kv):=by
 induction H with
 |nil=>exact .nil
 |@cons k v' r' vs rs a b ih=>
  show cN h ((if k=x then (k,v) else (k,v'))::_) ((if k=x then (k,r) else (k,r'))::_)
  by_cases q:k=x
  ·exact ae (if_pos q) (ae (if_pos q) (.cons hv ih))
  ·exact ae (if_neg q) (ae (if_neg q) (.cons a ih))
theorem cN.append {K:Type}{x:K}(hv:VR h v r){bv:List (K×Value)}{ps:List (K×V)}(H:cN h bv ps):cN h (bv++ [(x,v)]) (ps++ [(x,r)]):=by
 induction H with
 |nil=>exact .cons hv .nil
 |cons a _ ih=>exact .cons a ih
theorem cN.put {K:Type}[DecidableEq K]{x:K}{bv:List (K×Value)}{ps:List (K×V)}(b:cN h bv ps)(hv:VR h v r):cN h (stored bv x v) (Mine.put ps x r):=by
 unfold stored Mine.put
 refine ae b.any ?_
 split
 ·exact b.map hv
 ·exact b.append hv
structure DK(c:Cx)(K:Type)[DecidableEq K] where
 kind:KeyKind c.prog c.w K
 ob:Nat→List (K×V)→O
 mz:∀h a t l,OR c h a (ob t l)↔∃bv,h.DictOf kind a bv∧cN h bv l
 key:V→K→Prop
 is:∀h v r x,key r x→VR h v r→kind.is x v=true
noncomputable def jk(c:Cx):DK c Int:=⟨c.ik,.dI,λq_ q_ q_ q_=>Iff.rfl,λr x=>r= .int x,λh v r x e y=>by subst e;refine y.eI λq_=>?_;exact intKind_is _ _ _ _⟩
noncomputable def vh(c:Cx):DK c Str:=⟨c.sk,.dS,λq_ q_ q_ q_=>Iff.rfl,λr x=>r= .str x,λh v r x e y=>by subst e;refine y.eS λq_=>?_;exact strKind_is _ _ _ _⟩
section
variable {K:Type}[DecidableEq K](D:DK c K)
theorem DK.item {l:List (K×V)}{x:K}(ha:σ a=some (D.ob t l))(hk:D.key b x)(hx:look l x=some r)(q:Q r σ)
  (hs:∀v,D.kind.is x v=true→subscripted c6 false (.ref a) v=operate [.ref a,v] (getItem (.ref a) v)):OV c f E k (kj value c6) [.val (.ref a),b] ρ σ Q:=λs vs I h=>by
 refine aA.e2 h λq_ q_ h1 h2=>?_
 refine h1.eV ?_
 refine ak ((D.mz ..).mp (I.st.own a _ ha).2) λbv e1 e2=>?_
 have hkey:=D.is _ _ _ _ hk h2
 refine Or.elim (e2.look (x:=x)) (λGd=>?_) λGe=>?_
 obtain ⟨e3,_⟩:=Gd
 rotate_left
 obtain ⟨r',v,e3,e4,e5⟩:=Ge
 rotate_right
 ·rw[hx]at e3;exact kY e3
 ·rw[hx]at e3;(injection e3 with e3;subst e3)
  exact tail_any e1.typeIs slot_dict_getitem.lookup (wpAny_getItem_of hkey e1.mapOf e4 (bh.tk I e5 q)) (hs _ hkey)
theorem DK.mem {l:List (K×V)}{x:K}(ha:σ a=some (D.ob t l))(hk:D.key b x)(q:Q (.bool (look l x).isSome) σ):OV c f E k (bY .In) [b,.val (.ref a)] ρ σ Q:=λs vs I h=>by
 refine aA.e2 h λq_ q_ h1 h2=>?_
 refine h2.eV ?_
 refine ak ((D.mz ..).mp (I.st.own a _ ha).2) λbv e1 e2=>?_
 refine wpAny_in_of (D.is _ _ _ _ hk h1) (I.st.lo a _ ha) e1.mapOf ?_
 have e:(valueAt bv x).isSome= (look l x).isSome:=by (refine Or.elim (e2.look (x:=x)) (λGf=>?_) λGg=>?_;obtain ⟨e3,e4⟩:=Gf;rotate_left;obtain ⟨r',v,e3,e4,e5⟩:=Gg;rotate_right)<;> (refine ae e3 (ae e4 ?_))<;>rfl
 refine ae e ?_
 exact bh.tk I (.bool _) q
theorem DK.Gh {l:List (K×V)}{x:K}(ha:σ a=some (D.ob t l))(hk:D.key b x)(q:Q (.bool (!(look l x).isSome)) σ):OV c f E k (bY .NotIn) [b,.val (.ref a)] ρ σ Q:=λs vs I h=>by
 refine aA.e2 h λq_ q_ h1 h2=>?_
 refine h2.eV ?_
 refine ak ((D.mz ..).mp (I.st.own a _ ha).2) λbv e1 e2=>?_
 refine wpAny_notIn_of (D.is _ _ _ _ hk h1) (I.st.lo a _ ha) e1.mapOf ?_
 have e:(valueAt bv x).isSome= (look l x).isSome:=by (refine Or.elim (e2.look (x:=x)) (λGi=>?_) λGj=>?_;obtain ⟨e3,e4⟩:=Gi;rotate_left;obtain ⟨r',v,e3,e4,e5⟩:=Gj;rotate_right)<;> (refine ae e3 (ae e4 ?_))<;>rfl
 refine ae e ?_
 exact bh.tk I (.bool _) q
theorem DK.get {l:List (K×V)}{x:K}(ha:σ a=some (D.ob t l))(hk:D.key b x)(q:Q ((look l x).getD dv) σ):CV c k (.builtin "dict.get") [.val (.ref a),b,dv] σ Q:=λA stack s vs E st fr room hd hv=>by
 refine aA.e3 hv λq_ q_ q_ h1 h2 h3=>?_
 refine h1.eV ?_
 refine ak ((D.mz ..).mp (st.own a _ ha).2) λbv e1 e2=>?_
 refine call_meetsIn F.slot_dict_get e1.typeIs F.entry_dict_get (F.args_dict_get_3 _ _ _) (meets_dict_get_default (knd:=D.kind) (d:=a) (hkey:=D.is _ _ _ _ hk h2) (hd:=st.lo a _ ha) (dflt:=_)) (bx _ e1.mapOf ?_)
 refine Or.elim (e2.look (x:=x)) (λGk=>?_) λGl=>?_
 obtain ⟨e3,e4⟩:=Gk
 rotate_left
 obtain ⟨r',v,e3,e4,e5⟩:=Gl
 rotate_right
 ·rw[e3]at q;refine ae e4 ?_
  exact⟨dv,σ,st,h3,Kp.tk,q⟩
 ·rw[e3]at q;refine ae e4 ?_
  exact⟨r',σ,st,e5,Kp.tk,q⟩
end
end
end
end Mine
end
section
open Classical
namespace Mine
noncomputable section
theorem aA.snoc (x:aA h vs rs)(y:VR h v r):aA h (vs++ [v]) (rs++ [r]):=x.append (.cons y .nil)
theorem aA.take {vs:List Value}:∀{rs:List V} (n:Nat),aA h vs rs→aA h (vs.take n) (rs.take n):=by
 induction vs with
 |nil=>intro rs n x;cases x;exact ae List.take_nil (ae List.take_nil .nil)
 |cons v vs ih=>
  intro rs n x
  cases x with
  |cons x y=>
   cases n with
   |zero=>exact .nil
   |succ n=>exact .cons x (ih n y)
theorem aA.drop {vs:List Value}:∀{rs:List V} (n:Nat),aA h vs rs→aA h (vs.drop n) (rs.drop n):=by
 induction vs with
 |nil=>intro rs n x;cases x;exact ae List.drop_nil (ae List.drop_nil .nil)
 |cons v vs ih=>
  intro rs n x
  cases n with
  |zero=>exact x
  |succ n=>cases x with|cons x y=>exact ih n y
theorem aA.set (z:VR h v r){vs:List Value}:∀{rs:List V} (n:Nat),aA h vs rs→aA h (vs.set n v) (rs.set n r):=by
 induction vs with
 |nil=>intro rs n x;cases x;exact .nil
 |cons u vs ih=>
  intro rs n x
  cases x with
  |cons x y=>
   cases n with
   |zero=>exact .cons z y
   |succ n=>exact .cons x (ih n y)
noncomputable def Keeps(X:List Nat)(σ af:S):Prop:=∀a o,σ a=some o→o.tag∉X→af a=some o
theorem Keeps.refl:Keeps X σ σ:=λq_ q_ e q_=>e
theorem Keeps.trans (x:Keeps X σ af)(y:Keeps X af aL):Keeps X σ aL:=λa o e n=>y a o (x a o e n) n
theorem Keeps.mono (x:Keeps X σ af)(h:∀t∈X,t∈Y):Keeps Y σ af:=λa o e n=>x a o e λm=>n (h _ m)
theorem Keeps.upd {o o':O}(ha:σ a=some o)(ht:o.tag∈X):Keeps X σ (upd σ a o'):=λb ob e n=>by
 refine(cC λq=>?_).trans e
 subst q;rw[ha]at e;(injection e with e;subst e);exact n ht
theorem Keeps.new (ha:σ a=none):Keeps X σ (Mine.upd σ a o'):=λb ob e n=>by
 refine(cC λq=>?_).trans e
 subst q;rw[ha]at e;exact aJ e
theorem zM{o o' mr:O}(ha:σ a=some o)(hb:σ b=some o')(ht:o.tag≠o'.tag):Mine.upd σ a mr b=some o':=(cC λq=>by subst q;rw[ha]at hb;(injection hb with hb;subst hb);exact ht rfl).trans hb
section
variable {c:Cx}{f:Fm}{E:Value→Shared→Prop}{k:Nat}{ρ:Lo}{σ:S}{Q:V→S→Prop}
theorem vj{s:Shared}{tk:Nat}(st:St c σ s.heap)(ha:σ a=some o)(e:Heap.SameBut a s.heap h')(y:OR c h' a o')(hv:VR h' v r)(q:Q r (upd σ a o')):
  iG c σ s Q v {s with heap:=h',toks:=tk}:=⟨r,_,st.set ha e y,hv,Kp.set st ha e,q⟩
theorem ls{s:Shared}(st:St c σ s.heap)(hv:VR s.heap v r)(q:Q r σ){tk:Nat}:iG c σ s Q v {s with toks:=tk}:=⟨r,_,st,hv,Kp.tk,q⟩
theorem vk{s:Shared}{h':Heap}{tk:Nat}(st:St c σ s.heap)(hn:s.heap.get? a=none)(lo:(a==sysModules)=false)(kk:∀b ob,s.heap.get? b=some ob→h'.get? b=some ob)(y:OR c h' a o)(q:Q (.val (.ref a)) (upd σ a o)):
  iG c σ s Q (.ref a) {s with heap:=h',toks:=tk}:=⟨_,_,st.new hn kk y lo,.val _,Kp.new hn kk,q⟩
theorem sr{s:Shared}{h':Heap}{tk:Nat}(st:St c σ s.heap)(kk:∀b ob,s.heap.get? b=some ob→h'.get? b=some ob)(hv:VR h' v r)(q:Q r σ):
  iG c σ s Q v {s with heap:=h',toks:=tk}:=⟨r,_,st.ext kk,hv,Kp.ext kk,q⟩
theorem none_at_size(h:Heap):h.get? h.objs.size=none:=by
 cases q:h.get? h.objs.size with
 |none=>rfl
 |some o=>exact absurd (Heap.lt_size q) (Nat.lt_irrefl _)
theorem CV.append {l:List V}(ha:σ a=some (.list t l))(hl:l.length≤sizeLine)(q:Q .none (upd σ a (.list t (l++ [r])))):CV c k (.builtin "list.append") [.val (.ref a),r] σ Q:=λA stack s vs E st fr room hd hv=>by
 refine aA.e2 hv λq_ q_ h1 h2=>?_
 refine h1.eV ?_
 refine c3 (st.own a _ ha) λq_ ys n e1 e2=>?_
 refine wpAny_list_append_plain (Heap.PlainList.at (h:=s.heap) ⟨n,e1⟩ λq_ e=>e) (λh' hp hs=>?_) (by exact ae e2.size hl)
 refine XE hp λn' hp=>?_
 have tk:=iA (st.own a _ ha).2 hs
 exact vj (o':=.list t (l++ [r])) (tk:=s.toks) st ha hs (f9 _ n' hp (by exact ae Array.toList_push ((e2.mono tk).snoc (h2.mono tk)))) .none q
theorem MT.list {r:V}{a:Addr}{t:Nat}{l:List V}{name:Str}{id:String}(slot:Slot "list" name id)(va:typeOf (.builtin id)=pure (.type "method_descriptor"))(ha:σ a=some (.list t l)):MT c σ (.val (.ref a)) name (.builtin id):=
 MT.builtin F.plainAttrs_list slot va λs ov st hv=>by
  refine hv.eV ?_
  refine c3 (st.own a _ ha) λq_ ys n e1 e2=>?_
  exact⟨(IsL.isList e1).typeIs,λb e=>by (injection e with e;subst e);exact bx _ e1 rfl⟩
theorem CV.pop {l:List V}(ha:σ a=some (.list t (l++ [r])))(hl:l.length<sizeLine)(q:Q r (upd σ a (.list t l))):CV c k (.builtin "list.pop") [.val (.ref a)] σ Q:=λA stack s vs E st fr room hd hv=>by
 refine aA.e1 hv λq_ h1=>?_
 refine h1.eV ?_
 refine c3 (st.own a _ ha) λq_ ys n e1 e2=>?_
 have hz:=e2.size
 rw[List.length_append]at hz
 have jl:ys.size=l.length+1:=hz
 refine ak (e2.oh (i:=ys.size- 1) (r:=r) (by refine ae jl (ae (Nat.add_sub_cancel ..) (ae (List.getElem?_append_right (Nat.le_refl _)) ?_));simp)) λv e3 e4=>?_
 refine call_meets F.slot_list_pop (bx _ e1 rfl) F.entry_list_pop (F.args_list_pop_1 _) (MeetsSeq.list_pop_last a ys n v e3 (by exact M2 [_,_] [] 0x100000071101101110021011210000007100111 rfl hl jl)) ⟨e1,?_⟩
 have hs:Heap.SameBut a s.heap (s.heap.update a (Obj.mapSeq λxs=>xs.eraseIdxIfInBounds (ys.size- 1))):=Heap.SameBut.update ..
 have tk:=iA (st.own a _ ha).2 hs
 refine vj (o':=.list t l) (tk:=s.toks) st ha hs (f9 _ _ (IsL.update e1 _) ?_) (e4.mono tk) q
 have hd:(ys.eraseIdxIfInBounds (ys.size- 1)).toList=ys.toList.take l.length:=by
  simp only[Array.toList_eraseIdxIfInBounds]
  refine ae (List.eraseIdx_eq_take_drop_succ ..) ?_
  have:ys.size- 1=l.length:=by exact Nat.le_antisymm (M2 [_,_,_] [] 0x10201100011120211211110200112 rfl jl (Nat.sub_add_cancel (M1 [_,_] [] 0x1011111010111002113 rfl jl))) (M2 [_,_,_] [] 0x20001101112021011010111002113 rfl jl s2)
  refine ae this ?_
  simp[jl]
 refine ae hd ?_
 have:=(e2.mono tk).take l.length
 rwa [List.take_left']at this
 rfl
theorem OU.vl {a:Addr}{t:Nat}{l:List V}{i:Int}{Q:S→Prop}(ha:σ a=some (.list t l))(h0:0≤i)(hf:i<2 ^ 63)(hn:i.toNat<l.length)(q:Q (upd σ a (.list t (l.set i.toNat r)))):
  OU c f E k (λvs=>setItem (vs.getD 0 .none) (vs.getD 1 .none) (vs.getD 2 .none)) [.val (.ref a),.int i,r] ρ σ Q:=λs vs I h=>by
 refine aA.e3 h λq_ q_ v3 h1 h2 h3=>?_
 refine h1.eV ?_
 refine h2.eI λq_=>?_
 refine c3 (I.st.own a _ ha) λq_ ys n e1 e2=>?_
 have hz:=e2.size
 refine ki_setAt e1 h0 hf (by exact M3 [_,_,_] [_] 0x206001150060011720101131000111 rfl hn hz (Int.toNat_of_nonneg (M1 [] [_] 0x1111400011114 rfl h0))) ?_
 have hs:Heap.SameBut a s.heap (s.heap.update a (Obj.mapSeq (·.setIfInBounds i.toNat v3))):=Heap.SameBut.update ..
 have tk:=iA (I.st.own a _ ha).2 hs
 obtain ⟨aR,aj⟩:=I.set (tk:=s.toks) ha hs (o':=.list t (l.set i.toNat r)) (f9 _ _ (IsL.update e1 _) (by exact ae Array.toList_setIfInBounds ((e2.mono tk).set (h3.mono tk) _)))
 exact⟨_,aR,aj,q⟩
theorem DK.set {K:Type}[DecidableEq K](D:DK c K){a:Addr}{t:Nat}{l:List (K×V)}{x:K}{Q:S→Prop}(ha:σ a=some (D.ob t l))(hk:D.key b x)(hl:l.length≤sizeLine)(q:Q (upd σ a (D.ob t (put l x r)))):
  OU c f E k (λvs=>setItem (vs.getD 0 .none) (vs.getD 1 .none) (vs.getD 2 .none)) [.val (.ref a),b,r] ρ σ Q:=λs vs I h=>by
 refine aA.e3 h λq_ q_ q_ h1 h2 h3=>?_
 refine h1.eV ?_
 refine ak ((D.mz ..).mp (I.st.own a _ ha).2) λbv e1 e2=>?_
 refine wpAny_setItem_pairs (D.is _ _ _ _ hk h2) e1 (λh' hm hs=>?_) (by exact ae e2.length hl)
 have tk:=iA (I.st.own a _ ha).2 hs
 refine XA (I.set (tk:=s.toks+1) ha hs (o':=D.ob t (put l x r)) ((D.mz ..).mpr ⟨_,hm,(e2.mono tk).put (h3.mono tk)⟩)) λaR aj=>?_
 exact⟨_,aR,aj,q⟩
theorem aS.Go {e o i:Expr}{p pos:Pos}{Q:Fl→Lo→S→Prop}
  (h:EV c f E k e ρ σ λr ah=>EV c f E k o ρ ah λa av=>EV c f E k i ρ av λb aW=>OU c f E k (λvs=>setItem (vs.getD 0 .none) (vs.getD 1 .none) (vs.getD 2 .none)) [a,b,r] ρ aW λbn=>Q .next ρ bn)
  (hs:swapsWith e (some (.Subscript o i p)) pos.line f.env=pure false:=by rfl):aS c f E k (.Assign [.Subscript o i p] e pos) ρ σ Q:=λs I=>by
 refine wpAny_Assign_Subscript (wpAny_mono (h s I) (λe9 aw ck=>ck.el λr ah aB aP ag cy=>?_) λq_ q_ z=>z) hs
 refine wpAny_mono (cy aw aB) (λfE aO cx=>cx.el λa av aR cg aj eJ=>?_) λq_ q_ z=>z
 refine wpAny_mono (eJ aO aR) (λGp jm dJ=>dJ.el λb aW ct jf aC Gq=>?_) λq_ q_ z=>z
 refine wpAny_mono (Gq jm [fE,Gp,e9] ct (.cons (cg.mono aC.tup) (.cons jf (.cons ((aP.mono aj.tup).mono aC.tup) .nil)))) (λq_ jn eZ=>eZ.el λbn ee aM lu=>?_) λq_ q_ z=>z
 exact⟨.next,ρ,bn,ee,.next,((ag.trans aj).trans aC).trans aM,lu⟩
theorem CV.Gr {l:List V}(ha:RL c σ a l)(hl:l.length≤sizeLine)(q:Q (.int l.length) σ):CV c k (.builtin "len") [.val (.ref a)] σ Q:=λA stack s vs E st fr room hd hv=>by
 refine aA.e1 hv λq_ h1=>?_
 refine h1.eV ?_
 refine ak (ha _ st) λys e1 e2=>?_
 have hz:=e2.size
 refine Calls.call_len_list e1 (by rw[sizeLine_eq]at hl;exact M2 [_,_] [] 0x800000000000000001106115001011210000007100110 rfl hl hz) (ls st ?_ q)
 exact ae hz (.int ..)
theorem CV.lv {l:List V}(ha:σ a=some (.list t l))(hl:l.length≤sizeLine)(q:Q (.int l.length) σ):CV c k (.builtin "len") [.val (.ref a)] σ Q:=CV.Gr (.own ha) hl q
theorem CV.jo {l:List V}(hl:l.length≤sizeLine)(q:Q (.int l.length) σ):CV c k (.builtin "len") [.tup l] σ Q:=λA stack s vs E st fr room hd hv=>by
 refine aA.e1 hv λq_ h1=>?_
 refine h1.eT λq_ q_ e1 e2=>?_
 have hz:=e2.length
 refine len_tuple e1 (by rw[sizeLine_eq]at hl;exact ae List.size_toArray (M2 [_,_] [] 0x800000000000000001106115001011210000007100110 rfl hl hz)) (ls st ?_ q)
 refine ae List.size_toArray (ae hz ?_);exact .int ..
theorem DK.len {K:Type}[DecidableEq K](D:DK c K){l:List (K×V)}(ha:σ a=some (D.ob t l))(hl:l.length≤sizeLine)(q:Q (.int l.length) σ):CV c k (.builtin "len") [.val (.ref a)] σ Q:=λA stack s vs E st fr room hd hv=>by
 refine aA.e1 hv λq_ h1=>?_
 refine h1.eV ?_
 refine ak ((D.mz ..).mp (st.own a _ ha).2) λbv e1 e2=>?_
 refine call_len_dict (st.lo a _ ha) e1 (by rw[sizeLine_eq]at hl;exact ae e2.length (M1 [_] [] 0x80000000000000000100611510000007100110 rfl hl)) (ls st ?_ q)
 exact ae e2.length (.int ..)
theorem OV.inSet (ha:σ a=some (.sI t P n))(q:Q (.bool (P x)) σ):OV c f E k (bY .In) [.int x,.val (.ref a)] ρ σ Q:=λs vs I h=>by
 refine aA.e2 h λq_ q_ h1 h2=>?_
 refine h1.eI λq_=>?_
 refine h2.eV ?_
 exact wpAny_inSet_of (intKind_is _ _ _ _) rfl (I.st.own a _ ha).2 (bh.tk I (.bool _) q)
theorem OV.zN (ha:σ a=some (.sI t P n))(q:Q (.bool (!P x)) σ):OV c f E k (bY .NotIn) [.int x,.val (.ref a)] ρ σ Q:=λs vs I h=>by
 refine aA.e2 h λq_ q_ h1 h2=>?_
 refine h1.eI λq_=>?_
 refine h2.eV ?_
 exact wpAny_notInSet_of (intKind_is _ _ _ _) rfl (I.st.own a _ ha).2 (bh.tk I (.bool _) q)
theorem MT.set (ha:σ a=some (.sI t P n)):MT c σ (.val (.ref a)) "add" (.builtin "set.add"):=
 MT.builtin F.plainAttrs_set F.slot_set_add F.type_set_add λs ov st hv=>by
  refine hv.eV ?_
  exact⟨(st.own a _ ha).2.typeIs,(st.own a _ ha).2.noDict⟩
theorem CV.setAdd (ha:σ a=some (.sI t P n))(hn:n+1<scanBound)(q:Q .none (upd σ a (.sI t (λy=>P y||decide (y=x)) (if P x then n else n+1)))):
  CV c k (.builtin "set.add") [.val (.ref a),.int x] σ Q:=λA stack s vs E st fr room hd hv=>by
 refine aA.e2 hv λq_ q_ h1 h2=>?_
 refine h1.eV ?_
 refine h2.eI λq_=>?_
 refine call_set_add (intKind_is _ _ _ _) rfl (st.own a _ ha).2 hn λh' hs hS=>?_
 refine vj (tk:=s.toks+1) st ha hs ?_ .none q
 exact hS
theorem CV.Gs (t:Nat)(q:∀a,σ a=none→Q (.val (.ref a)) (upd σ a (.sI t (λq_=>false) 0))):CV c k (.type "set") [] σ Q:=λA stack s vs E st fr room hd hv=>by
 cases hv
 refine call_set_0 λVv=>?_
 refine vk (tk:=s.toks) st (none_at_size _) (jg st) (λb ob e=>Heap.get?_push_of_some _ e) ?_ (q _ (st.fresh (none_at_size _)).1)
 refine⟨_, #[],0,_,Heap.get?_push_size _ rfl,⟨rfl,rfl,rfl⟩,rfl,(λe he=>by simp at he),(λk=>?_),by decide,rfl,rfl⟩
 simp
theorem EV.di (o:O)(ho:o= .dI o.tag []∨o= .dS o.tag []∨o= .dT o.tag [])(q:∀a,σ a=none→Q (.val (.ref a)) (upd σ a o)):EV c f E k (.Dict [] [] pos) ρ σ Q:=λs I=>by
 refine wpAny_Dict_empty ?_
 have kk:∀b ob,s.heap.get? b=some ob→(s.heap.push {cls:=.type "dict",data:=.dict #[]}).get? b=some ob:=λb ob e=>Heap.get?_push_of_some _ e
 have y:OR c (s.heap.push {cls:=.type "dict",data:=.dict #[]}) s.heap.objs.size o:=by
  rcases ho with h|h|h
  ·exact ae h (⟨[],Heap.DictOf.new _,.nil⟩)
  ·exact ae h (⟨[],Heap.DictOf.new _,.nil⟩)
  ·exact ae h (⟨[],Heap.DictOfH.new _,.nil⟩)
 refine XA (I.new (tk:=s.toks) (none_at_size _) kk y (jg I.st)) λaR aj=>?_
 exact⟨_,_,aR,.val _,aj,q _ (I.st.fresh (none_at_size _)).1⟩
end
end
end Mine
end
section
open Classical
namespace Mine
noncomputable section
section
variable {c:Cx}{f:Fm}{E:Value→Shared→Prop}{k:Nat}{ρ:Lo}{σ:S}
theorem Gu{base h h':Heap}(hs:Heap.ExtBut b h h'):(∀env∈l,∀L,env.frame=some L→L≠b)→h.FunFrames base l→h'.FunFrames base l:=by
 induction l with
 |nil=>exact λq_ q_=>trivial
 |cons env r ih=>exact λhb f=>cq f λhk f hr=>⟨hk,uv f λL' o hf hn ho hd=>⟨L',o,hf,hn,hs L' o (hb _ (.head _) L' hf) ho,hd⟩,ih (λe he=>hb e (.tail _ he)) hr⟩
theorem Gv{base h:Heap}(hl:h.FunFrames base l)(env:Env)(he:env∈l)(L:Addr)(hf:env.frame=some L):∃o,h.get? L=some o:=by
 refine ak ((hl.mem (List.mem_filterMap.mpr ⟨env,he,hf⟩)).2) λo ho q_=>?_
 exact⟨o,ho⟩
structure Off(c:Cx)(f:Fm)(b:Addr):Prop where
 base:c.base.get? b=none
 own:∀a∈f.own,a≠b
 cr:∀env∈f.stack,∀L,env.frame=some L→L≠b
 hd:∀e,f.B.handled=some (.ref e)→e≠b
theorem In.off {km:Heap}(jp:In c f k Gw aK km)(hb:km.get? b=none):Off c f b:=by
 have ne:∀{a o},km.get? a=some o→a≠b:=λ{a o} e q=>by subst q;rw[hb]at e;exact aJ e
 refine⟨(jp.st.fresh hb).2,λa ha=>by refine ak (jp.hX a ha) λo e q_=>?_;exact ne e,λenv he L hL=>by obtain ⟨o,e⟩:=Gv jp.cr.dz env he L hL;exact ne e,λe he=>?_⟩
 refine Or.elim jp.hd.2 (λg=>?_) λGx=>?_
 rotate_left
 obtain ⟨e',o',n5,g1,g2,g3,g4,_⟩:=Gx
 rotate_right
 ·rw[he]at g;exact kY g
 ·rw[he]at g1;(injection g1 with g1;injection g1 with g1;subst g1);exact ne g4
theorem In.su {h h':Heap}(of:Off c f b)(I:In c f k ρ σ h)(zb:σ b=none)(nt:∀o,h.get? b=some o→¬eG o)(hs:Heap.ExtBut b h h'):In c f k ρ σ h':=by
 have tk:TK h h':=λa o e i=>hs a o (λq=>nt o (q▸e) i) e
 refine⟨⟨λa o e=>hs a o (λq=>aJ (of.base.symm.trans (q▸e))) (I.st.base a o e),λa o e=>⟨(I.st.own a o e).1,(I.st.own a o e).2.mono tk λz hz=>hs a z (λq=>aJ (zb.symm.trans (q▸e))) hz⟩,I.st.lo⟩,I.ok,?_,λp hp=>?_,I.own,?_,I.room,?_⟩
 ·refine ak I.loc λm n l=>?_
  refine bx m (n.extBut hs (of.own _ (.head _))) (λi x r h1 h2=>?_)
  refine ak (l i x r h1 h2) λv a1 a2=>?_
  refine⟨v,a1.mono tk,?_⟩
  refine Or.elim a2 (λa2=>?_) λGy=>?_
  rotate_left
  obtain ⟨b1,ca,b2,o,b3,b4⟩:=Gy
  rotate_right
  ·exact .inl a2
  ·exact .inr ⟨b1,ca,b2,o,hs ca o (of.own _ (r5 b2)) b3,b4⟩
 ·refine eE (I.jV p hp) λv o e1 e2=>?_
  exact f9 v o (hs p.2 o (of.own _ (.tail _ (List.mem_map.mpr ⟨p,hp,rfl⟩))) e1) e2
 ·exact⟨I.cr.eq,Gu hs of.cr I.cr.dz,I.cr.own,λenv he L hL=>by
   refine gP (I.cr.dX env he L hL) λo es n e d=>?_
   exact gb o es n (hs L o (of.cr env he L hL) e) d⟩
 ·refine⟨I.hd.1,?_⟩
  refine Or.elim I.hd.2 (λh=>?_) λGz=>?_
  rotate_left
  obtain ⟨e,o,vs,h1,h2,h3,h4,h5,h6⟩:=Gz
  rotate_right
  ·exact .inl h
  ·exact .inr (nY e o vs h1 h2 h3 (hs e o (of.hd e h1) h4) h5 h6)
theorem In.turn {km h h':Heap}(jp:In c f k Gw aK km)(hb:km.get? b=none)(I:In c f k ρ σ h)(zb:σ b=none)(nt:∀o,h.get? b=some o→¬eG o)(hs:Heap.ExtBut b h h'):In c f k ρ σ h':=I.su (jp.off hb) zb nt hs
theorem Kp.turn {bC s:Shared}{tk:Nat}(x:Kp X aK bC σ s)(hb:bC.heap.get? b=none)(nt:∀o,s.heap.get? b=some o→¬eG o)(hs:Heap.ExtBut b s.heap h'):Kp X aK bC σ {s with heap:=h',toks:=tk}:=
 ⟨λa o e z n=>by
  refine dH (x.keep a o e z n) λz' o' e' l=>?_
  exact⟨z',o',hs a o' (λq=>aJ (hb.symm.trans (q▸e))) e',l⟩,x.tup.trans λa o e i=>hs a o (λq=>nt o (q▸e) i) e,x.gens,x.drawn,x.os⟩
structure GA(c:Cx)(it:Addr)(l:List V)(ok:S→Prop)(P:Nat→Heap→Prop):Prop where
 item:∀{A:Around}{E:Value→Shared→Prop}{s:Shared}{σ:S}{i:Nat}{r:V}{Q:Option Value→Shared→Prop},St c σ s.heap→ok σ→P i s.heap→l[i]? =some r→
  (∀v h' tk,VR h' v r→P (i+1) h'→Heap.SameBut it s.heap h'→Q (some v) {s with heap:=h',toks:=tk})→wpAny c.M A (pyNext (.ref it)) Q E s
 fin:∀{A:Around}{E:Value→Shared→Prop}{s:Shared}{σ:S}{Q:Option Value→Shared→Prop},St c σ s.heap→Hd c A σ s.heap→ok σ→P l.length s.heap→
  (∀h',Heap.ExtBut it s.heap h'→Q none {s with heap:=h'})→wpAny c.M A (pyNext (.ref it)) Q E s
 keep:∀{i:Nat}{h h':Heap},P i h→TK h h'→(∀o,h.get? it=some o→h'.get? it=some o)→P i h'
 self:∀{A:Around}{E:Value→Shared→Prop}{s:Shared}{i:Nat}{Q:Value→Shared→Prop},P i s.heap→Q (.ref it) s→wpAny c.M A (pyIter (.ref it)) Q E s
 nt:∀{i:Nat}{h:Heap},P i h→∃o,h.get? it=some o∧¬eG o∧∀es n,o.data≠.dict es n
noncomputable def bI(c:Cx)(σ:S)(v:V)(l:List V)(ok:S→Prop):Prop:=
 ∀{A:Around}{E:Value→Shared→Prop}{s:Shared}{vv:Value}{Q:Value→Shared→Prop},St c σ s.heap→VR s.heap vv v→
  (∀it P h',GA c it l ok P→P 0 h'→s.heap.get? it=none→(∀b o,s.heap.get? b=some o→h'.get? b=some o)→Q (.ref it) {s with heap:=h'})→wpAny c.M A (pyIter vv) Q E s
theorem oj{o:Obj}(h:o.data= .fields vs)(hc:o.cls≠.type "range"):¬eG o:=by
 rintro (⟨_,xs,n,e⟩|⟨e,_⟩)
 ·rw[h]at e;contradiction
 ·exact hc e
theorem bI.tup (calm:c.calm=true):bI c σ (.tup l) l λq_=>True:=λ{A E s vv Q} st hv q=>by
 cases hv with
 |@tup a vs _ e1 e2=>
  refine wpAny_pyIter_tuple e1 (q s.heap.objs.size (λi h=>h.IsTupleIter s.heap.objs.size a i∧IsTup h a vs.toArray∧aA h vs l) _ ?_ ?_ (none_at_size _) (λb o e=>Heap.get?_push_of_some _ e))
  ·constructor
   ·rintro A E s' af i r Q iH- ⟨p1,p2,p3⟩ hr hq
    refine ak (p3.get hr) λv g1 g2=>?_
    refine wpAny_pyNext_tuple_item p1 p2 (by simpa using g1) λh' pZ hs=>?_
    have tk:TK s'.heap h':=λb o e i=>(hs.2 b λq=>by
     subst q
     refine bG p1 λo' e' c' d'=>?_
     rw[e]at e';(injection e' with e';subst e')
     exact oj d' (by exact ae c' (gS (by decide))) i).trans e
    exact hq v h' s'.toks (g2.mono tk) ⟨pZ,tk.isTup p2,p3.mono tk⟩ hs
   ·rintro A E s' af Q iH hd- ⟨p1,p2,p3⟩ hq
    exact wpAny_pyNext_tuple_end (hd.1 calm) p1 p2 (by exact ae (List.getElem?_toArray) (List.getElem?_eq_none (by refine ae p3.length ?_;exact Nat.le_refl _))) hq
   ·rintro i h h' ⟨⟨o,p0,p1⟩,p2,p3⟩ tk e
    exact⟨(bx o (e o p0) p1),tk.isTup p2,p3.mono tk⟩
   ·rintro A E s' i Q ⟨p1,_⟩ hq
    exact wpAny_pyIter_tupleiter p1 hq
   ·rintro i h ⟨⟨o,p0,p1,p2⟩,_⟩
    exact cA o p0 (oj p2 (by exact ae p1 (gS (by decide)))) (λes n q=>by rw[p2]at q;contradiction)
  ·exact⟨(cA _ (Heap.get?_push_size _ rfl) rfl rfl),e1.push _,e2.mono (ed λb o e=>Heap.get?_push_of_some _ e)⟩
theorem bI.list (ok:S→Prop)(cG:∀σ,ok σ→RL c σ a l)(ho:ok σ)(calm:c.calm=true):bI c σ (.val (.ref a)) l ok:=λ{A E s vv Q} st hv q=>by
 cases hv
 refine ak (cG _ ho _ st) λys e1 e2=>?_
 refine wpAny_pyIter_list e1 (q s.heap.objs.size (λi h=>h.IsListIter s.heap.objs.size a i) _ ?_ (cA _ (Heap.get?_push_size _ rfl) rfl rfl) (none_at_size _) (λb o e=>Heap.get?_push_of_some _ e))
 constructor
 ·rintro A E s' af i r Q iH o' p1 hr hq
  refine ak (cG _ o' _ iH) λys e1 e2=>?_
  refine ak (e2.oh hr) λv g1 g2=>?_
  refine wpAny_pyNext_list_item p1 e1 g1 λh' pZ hs=>?_
  have tk:TK s'.heap h':=λb o e i=>(hs.2 b λq=>by
   subst q
   refine bG p1 λo' e' c' d'=>?_
   rw[e]at e';(injection e' with e';subst e')
   exact oj d' (by exact ae c' (gS (by decide))) i).trans e
  exact hq v h' s'.toks (g2.mono tk) pZ hs
 ·rintro A E s' af Q iH hd o' p1 hq
  refine ak (cG _ o' _ iH) λys e1 e2=>?_
  exact wpAny_pyNext_list_end (hd.1 calm) p1 e1 (Array.getElem?_eq_none (by exact ae e2.size (Nat.le_refl _))) hq
 ·rintro i h h' ⟨o,p0,p1⟩ tk e
  exact bx o (e o p0) p1
 ·rintro A E s' i Q p1 hq
  exact wpAny_pyIter_listiter p1 hq
 ·rintro i h ⟨o,p0,p1,p2⟩
  exact cA o p0 (oj p2 (by exact ae p1 (gS (by decide)))) (λes n q=>by rw[p2]at q;contradiction)
theorem aS.GB (J:Nat→Lo→S→Prop)(h0:J n ρ σ)
  (step:∀E n ρ σ,J n ρ σ→ET c f E k vm ρ σ λb ah=>match b with
   |true=>EX c f E k body ρ ah λfl ρ' af=>match fl with
    |.next=>∃m,m<n∧J m ρ' af
    |.cont=>∃m,m<n∧J m ρ' af
    |.brk=>Q .next ρ' af
    |.ret r=>Q (.ret r) ρ' af
   |false=>Q .next ρ ah):aS c f E k (.While vm body [] pos) ρ σ Q:=λs I=>by
 refine Exists.elim (show∃Inv:Nat→Shared→Prop,∀n s',Inv n s'↔∃ρ' af,In c f k ρ' af s'.heap∧Kp f.X σ s af s'∧J n ρ' af from ⟨_,λq_ q_=>Iff.rfl⟩) λInv gh=>?_
 refine wpAny_While (codeAny_whileLoop Inv (λn s' hI=>?_) n ((gh _ _).mpr (eY ρ σ I (.refl ..) h0)))
 refine eX ((gh _ _).mp hI) λρ' af I' k' j=>?_
 refine wpAny_mono (step _ n ρ' af j s' I') (λb aw ck=>ck.el λah aB ag q=>?_) λq_ q_ z=>z
 cases b with
 |false=>exact wpAny_execs_nil ⟨.next,ρ',ah,aB,.next,k'.trans ag,q⟩
 |true=>
  refine wpAny_mono (q aw aB) (λfl aO cx=>cx.el λr gi av aR cg aj eJ=>?_) λq_ q_ z=>z
  have kk:=(k'.trans ag).trans aj
  cases cg with
  |next=>refine ak eJ λm hm j=>?_;exact⟨m,hm,(gh _ _).mpr (eY gi av aR kk j)⟩
  |cont=>refine ak eJ λm hm j=>?_;exact⟨m,hm,(gh _ _).mpr (eY gi av aR kk j)⟩
  |brk=>exact⟨.next,gi,av,aR,.next,kk,eJ⟩
  |ret h=>exact⟨_,gi,av,aR,.ret h,kk,eJ⟩
theorem aS.GC (hi:Ix f.N x ix)
  (h0:EV c f E k iter ρ σ λr ah=>∃(l:List V) (ok:S→Prop) (J:Nat→Lo→S→Prop),bI c ah r l ok∧J 0 ρ ah∧(∀i ρ σ,J i ρ σ→ok σ)∧
   (∀E i r ρ σ,l[i]? =some r→J i ρ σ→EX c f E k body (ρ.set ix (some r)) σ λfl ρ' af=>match fl with
    |.next=>J (i+1) ρ' af
    |.cont=>J (i+1) ρ' af
    |.brk=>Q .next ρ' af
    |.ret r=>Q (.ret r) ρ' af)∧
   (∀ρ σ,J l.length ρ σ→Q .next ρ σ))
  (hs:∀x,foldedSetIterable iter f.env x=pure x:=by intro _;rfl) (hk:f.env.kindOf x=some .local∨f.inner=false:=by exact .inr rfl):aS c f E k (.For (.Name x p) iter body [] pos) ρ σ Q:=λs I=>by
 refine wpAny_For (wpAny_mono (h0 s I) (λv aw dJ=>dJ.el λr ah aB aP ag mB=>?_) λq_ q_ z=>z) hs
 refine iz mB λl ok J w j0 cG step gj=>?_
 refine w aB.st aP λit P h' dL p0 fg keep=>?_
 have zO:Kp f.X ah aw ah {aw with heap:=h'}:=Kp.ext (tk:=aw.toks) keep
 have jp:In c f k ρ ah h':=(aB.ext (tk:=aw.toks) keep).1
 refine Exists.elim (show∃Inv:Nat→Shared→Prop,∀n s',Inv n s'↔∃i ρ' af,n=l.length+1- i∧i≤l.length∧In c f k ρ' af s'.heap∧Kp f.X ah aw af s'∧J i ρ' af∧P i s'.heap∧af it=none from ⟨_,λq_ q_=>Iff.rfl⟩) λInv gh=>?_
 refine codeAny_forLoop Inv (λn s' hI=>?_) (l.length+1) ((gh _ _).mpr ⟨0,ρ,ah,rfl,Nat.zero_le _,jp,zO,j0,p0,(aB.st.fresh fg).1⟩)
 refine mi ((gh _ _).mp hI) λi ρ' af er om I' k' j p' zi=>?_
 refine bG (dL.nt p') λoi vn vo GD=>?_
 have nt:∀o,s'.heap.get? it=some o→¬eG o:=λo e=>by rw[vn]at e;(injection e with e;subst e);exact vo
 cases hl:l[i]? with
 |none=>
  have dB:i=l.length:=by
   have:=List.getElem?_eq_none_iff.mp hl
   exact Nat.le_antisymm (M1 [_,_] [] 0x10001101000110 rfl om) (M1 [_,_] [] 0x10001101000110 rfl this)
  refine dL.fin I'.st I'.hd (cG _ _ _ j) (dB▸p') λdy bu=>?_
  exact wpAny_execs_nil ⟨.next,ρ',af,aB.turn fg I' zi nt bu,.next,ag.trans (k'.turn (tk:=s'.toks) fg nt bu),gj _ _ (dB▸j)⟩
 |some r=>
  refine dL.item I'.st (cG _ _ _ j) p' hl λv dy tk hv qa bu=>?_
  have aR:=aB.turn fg I' zi nt bu.extBut
  have aj:=k'.turn (tk:=tk) fg nt bu.extBut
  refine wpAny_assign_Name (jZ (s:={s' with heap:=dy,toks:=tk}) aR hi.get hk hv λjf on ct aC=>?_)
  have zP:∀{gU gY:S}{sa sb:Shared},Kp f.X gU sa gY sb→gU it=none→(∃o,sa.heap.get? it=some o∧∀es n,o.data≠.dict es n)→gY it=none∧∀o,sa.heap.get? it=some o→sb.heap.get? it=some o:=λ{gU gY sa sb} kk z ⟨o,e,d⟩=>by
   have hX:it∉f.X:=λhm=>by
    refine ak (aB.hX it (Fm.iB hm)) λo e q_=>?_
    rw[fg]at e;exact aJ e
   refine dH (kk.keep it o e z hX) λz' o' e' l=>?_
   refine⟨z',λo2 e2=>?_⟩
   rw[e]at e2;(injection e2 with e2;subst e2)
   rw[l.exact d]at e';exact e'
  refine bG (dL.nt qa) λo2 e2 q_ d2=>?_
  refine XA (zP aC zi ⟨o2,e2,d2⟩) λz3 vp=>?_
  have p3:=dL.keep qa aC.tup vp
  refine wpAny_mono (step _ i r ρ' af hl j _ ct) (λfl jn eZ=>eZ.el λzQ sv bn ee vq aM lu=>?_) λq_ q_ z=>z
  have kk:=(aj.trans aC).trans aM
  refine bG (dL.nt p3) λo3 e3 q_ d3=>?_
  refine XA (zP aM z3 ⟨o3,e3,d3⟩) λz4 vr=>?_
  have p4:=dL.keep p3 aM.tup vr
  have bq:=be hl
  have hn:l.length+1- (i+1)<n:=by exact M3 [_,_,_,_,_] [] 0x1040111111202111302402112300021112021101000113 rfl er s2 (Nat.sub_add_cancel (M1 [_,_] [] 0x1111021110021101000110 rfl om))
  cases vq with
  |next=>exact bx _ hn ((gh _ _).mpr ⟨i+1,sv,bn,rfl,bq,ee,kk,lu,p4,z4⟩)
  |cont=>exact bx _ hn ((gh _ _).mpr ⟨i+1,sv,bn,rfl,bq,ee,kk,lu,p4,z4⟩)
  |brk=>exact⟨.next,sv,bn,ee,.next,ag.trans kk,lu⟩
  |ret h=>exact⟨_,sv,bn,ee,.ret h,ag.trans kk,lu⟩
end
end
end Mine
end
section
open Classical
namespace Mine
noncomputable section
theorem GF:entryFor table "proto.unchain"=some Builtin.«proto.unchain»:=entryFor_of_tree (by kernel_rfl)
section
variable {c:Cx}{f:Fm}{E:Value→Shared→Prop}{k:Nat}{ρ:Lo}{σ:S}
theorem GG{α:Type}{A:Around}{s:Shared}{oa:Obj}{vs:Array Value}{Q:α→Shared→Prop}(hd:Hd c A σ s.heap)(ho:s.heap.get? a=some oa)(zR:oa.data= .fields vs)(n9:2<vs.size)
  (bS:∀e,A.handled=some (.ref e)→e≠a)
  (hE:∀h',Heap.SameBut a s.heap h'→(∃o',h'.get? a=some o'∧o'.cls=oa.cls)→E (.ref a) {s with heap:=h'}):wpAny c.M A (raiseNew (.ref a):Sem α) Q E s:=by
 unfold raiseNew
 refine wpAny_bind (wpAny_handled ?_)
 refine Or.elim hd.2 (λh=>?_) λGH=>?_
 rotate_left
 obtain ⟨e,o,n5,h1,h2,h3,h4,h5,h6⟩:=GH
 rotate_right
 ·refine ae h ?_
  exact wpAny_bind (wpAny_pure (wpAny_throw (hE _ (.refl ..) ⟨_,ho,rfl⟩)))
 ·refine ae h1 ?_
  have ne:=bS e h1
  have hb:((Value.ref e !=Value.ref a)=true):=by
   simpa using ne
  show wpAny c.M A (if (Value.ref e !=Value.ref a)=true then (holding [Value.ref a] (runValue (Code.builtin "proto.unchain" ⟨[Value.ref a,Value.ref e,Value.ref e,Value.bool false], []⟩)) >>= λq_=>(updateField a 2 (.ref e) >>= λq_=>throw (Value.ref a))) else throw (Value.ref a)) Q E s
  refine ae (if_pos hb) ?_
  refine wpAny_bind (wpAny_holding (wpAny_runValue (codeAny_builtin GF ?_)))
  show wpAny _ _ (field (.ref e) 2 >>= _) _ _ s
  refine wpAny_bind (wpAny_field h4 h5 h6.1 ?_)
  show wpAny _ _ (if (Value.none==Value.none)=true then _ else _) _ _ s
  refine ae (if_pos (show (Value.none==Value.none)=true from rfl)) ?_
  refine wpAny_pure ?_
  refine wpAny_bind ?_
  unfold updateField
  refine wpAny_bind (wpAny_load ho ?_)
  refine ae zR ?_
  show wpAny _ _ (if 2<vs.size then _ else _) _ _ _
  refine ae (if_pos n9) ?_
  refine wpAny_update ho ?_
  exact wpAny_throw (hE _ (Heap.SameBut.update ..) ⟨_,Heap.get?_update_self _ ho (Obj.isFreed_of_fields (Obj.data_mapFields zR _)),Obj.cls_mapFields ..⟩)
theorem GI{s:Shared}{it:Addr}{x left step:Int}{Q:Option Value→Shared→Prop}(hd:Hd c A σ s.heap)(sw:IsRangeIter s.heap it x left step)(GJ:left≤0)
  (hQ:∀h',Heap.ExtBut it s.heap h'→Q none {s with heap:=h'}):wpAny c.M A (pyNext (.ref it)) Q E s:=by
 have hT:s.TypeIs (.ref it) "range_iterator":=bx _ sw rfl
 unfold pyNext
 refine wpAny_bind (wpAny_attempt (wpAny_callSpecial?_slot (name:="__next__") hT F.slot_range_iterator_next
  (wpAny_call_entry F.slot_range_iterator_next hT F.entry_range_iterator_next ?_ (F.args_range_iterator_next_1 _))))
 show wpAny _ _ (field (.ref it) 0 >>= _) _ _ s
 refine wpAny_bind (wpAny_field sw rfl (x:=rawInt x) rfl ?_)
 show wpAny _ _ (field (.ref it) 1 >>= _) _ _ s
 refine wpAny_bind (wpAny_field sw rfl (x:=rawInt left) rfl ?_)
 show wpAny _ _ (field (.ref it) 2 >>= _) _ _ s
 refine wpAny_bind (wpAny_field sw rfl (x:=rawInt step) rfl ?_)
 show wpAny _ _ (if left≤0 then _ else _) _ _ s
 refine ae (if_pos GJ) ?_
 refine wpAny_bind (wpAny_rule (wpAny_bind ?_))
 show wpAny _ _ (newExc (.type "StopIteration") [] >>= _) _ _ _
 refine wpAny_bind ?_
 simp only[newExc,newTuple]
 refine wpAny_bind (wpAny_newObj_type ?_ (by size_fits))
 refine wpAny_bind (m:=firstArgMember _ _) (wpAny_of_eq (a:=Value.none) (by first|rfl|(simp only[firstArgMember];rfl)) ?_)
 refine wpAny_newObj_type ?_ (by size_fits)
 have kk:∀(qb qc:Obj) b o,s.heap.get? b=some o→((s.heap.push qb).push qc).get? b=some o:=λqb qc b o e=>Heap.get?_push_of_some _ (Heap.get?_push_of_some _ e)
 have dW:∀qb qc,Hd c A.in1 σ ((s.heap.push qb).push qc):=λqb qc=>by
  refine⟨hd.1,?_⟩
  refine Or.elim hd.2 (λh=>?_) λGK=>?_
  rotate_left
  obtain ⟨e,o,vs,h1,h2,h3,h4,h5,h6⟩:=GK
  rotate_right
  ·exact .inl h
  ·exact .inr (nY e o vs h1 h2 h3 (kk _ _ _ _ h4) h5 h6)
 refine GG (s:={s with heap:=(s.heap.push _).push _}) (dW _ _) (Heap.get?_push_size _ rfl) rfl (ae Array.size_append (Nat.lt_add_right _ (show 2<6 by decide))) (λe he q=>?_) λh' hs hc=>?_
 ·refine Or.elim hd.2 (λh=>?_) λGL=>?_
  rotate_left
  obtain ⟨e',o,vs,h1,h2,h3,h4,h5,h6⟩:=GL
  rotate_right
  ·rw[show A.handled=_ from he]at h;exact kY h
  ·rw[show A.handled=_ from he]at h1;(injection h1 with h1;injection h1 with h1;subst h1)
   have:=Heap.lt_size h4
   have z:∀o,(s.heap.push o).objs.size=s.heap.objs.size+1:=λo=>Heap.size_push ..
   rw[q]at this
   simp only[z]at this
   exact absurd this (Nat.not_lt.mpr (Nat.le_succ _))
 ·refine ak hc λo' vt uJ=>?_
  refine wpAny_bind (wpAny_isInstance (T:="StopIteration") (b:=true) ⟨o',vt,uJ⟩ isSubtype_stop ?_)
  refine wpAny_pure (hQ _ λb o hb e=>(hs.2 b λq=>?_).trans (kk _ _ b o e))
  have:=Heap.lt_size e
  have z:∀o,(s.heap.push o).objs.size=s.heap.objs.size+1:=λo=>Heap.size_push ..
  rw[q]at this
  simp only[z]at this
  exact absurd this (Nat.not_lt.mpr (Nat.le_succ _))
noncomputable def fG(a b d:Int):List V:=(List.range (Builtin.Range.rangeSize a b d).toNat).map λ(i:Nat)=>V.int (a+ (i:Int)*d)
theorem bI.c4 (hs:Builtin.Range.small a b d=true)(h0:0≤Builtin.Range.rangeSize a b d):bI c σ (.c4 a b d) (fG a b d) λq_=>True:=λ{A E s vv Q} st hv q=>by
 cases hv with
 |c4 e1=>
  have len:(fG a b d).length= (Builtin.Range.rangeSize a b d).toNat:=by simp[fG]
  refine wpAny_pyIter_range e1 hs (q s.heap.objs.size (λi h=>IsRangeIter h s.heap.objs.size (a+i*d) (Builtin.Range.rangeSize a b d- i) d) _ ?_ ?_ (none_at_size _) (λb o e=>Heap.get?_push_of_some _ e))
  ·constructor
   ·rintro A E s' af i r Q iH- p1 hr hq
    have bq:=be hr
    rw[len]at bq
    refine wpAny_pyNext_range_item p1 (by exact M2 [_,_] [_] 0x64002011115001061161000111 rfl bq (Int.toNat_of_nonneg (M1 [] [_] 0x1111400011114 rfl h0))) λh' p' bu=>hq _ h' _ ?_ ?_ bu
    ·have:r= .int (a+i*d):=by
      unfold fG at hr
      rw[List.getElem?_map,List.getElem?_range bq]at hr
      exact(Option.some.inj hr).symm
     exact ae this (.int ..)
    ·have e1:a+i*d+d=a+ ((i+1:Nat):Int)*d:=by push_cast;exact ae (Int.add_mul ..) (Int.le_antisymm (M0 [] [_,_,_] 0x2011510200220100022114 rfl) (M0 [] [_,_,_] 0x2010002220115102002114 rfl))
     have e2:Builtin.Range.rangeSize a b d- i- 1=Builtin.Range.rangeSize a b d- ((i+1:Nat):Int):=by push_cast;exact Int.le_antisymm (M0 [_] [_] 0x11100624002111400640022114 rfl) (M0 [_] [_] 0x11140064002211100624002114 rfl)
     rw[e1,e2]at p';exact p'
   ·rintro A E s' af Q iH hd- p1 hq
    rw[len]at p1
    exact GI hd p1 (by exact M1 [_] [_] 0x11006400211400600117 rfl (Int.toNat_of_nonneg (M1 [] [_] 0x1111400011114 rfl h0))) hq
   ·rintro i h h' p1 tk e
    exact e _ p1
   ·rintro A E s' i Q p1 hq
    exact wpAny_pyIter_rangeiter p1 hq
   ·rintro i h p1
    exact cA _ p1 (oj rfl (gS (by decide))) (λes n q=>by contradiction)
  ·show IsRangeIter _ _ (a+ ((0:Nat):Int)*d) _ d
   simp only[Int.ofNat_zero,Int.zero_mul,Int.add_zero,Int.sub_zero]
   exact Heap.get?_push_size _ rfl
theorem lw(h0:0≤n)(h1:n<2 ^ 62):Builtin.Range.small 0 n 1=true∧Builtin.Range.rangeSize 0 n 1=n:=by
 refine⟨small_one (by decide) (by decide) (by exact M1 [] [_] 0x400000000000000001411400011114 rfl h0) h1,?_⟩
 refine ae (rangeSize_one ..) ?_;split<;> (first|exact Int.le_antisymm (M0 [] [_] 4630520084 rfl) (M0 [] [_] 0x11400200114 rfl)|exact Int.le_antisymm (M1 [] [_] 0x1111400011114 rfl h0) (M1 [] [_] 0x110011401100114 rfl (Int.not_lt.mp (by assumption))))
theorem rangeSize_down(a:Int)(h: -1≤a):Builtin.Range.rangeSize a (-1) (-1)=a+1:=by
 unfold Builtin.Range.rangeSize
 refine ae (if_neg (by decide)) ?_
 simp only[Int.neg_neg,Int.ediv_one]
 split<;>lia
theorem qd(h0: -1≤a)(h1:a<2 ^ 62):Builtin.Range.small a (-1) (-1)=true∧Builtin.Range.rangeSize a (-1) (-1)=a+1:=by
 refine⟨?_,rangeSize_down a h0⟩
 unfold Builtin.Range.small
 refine ae (rangeSize_down a h0) ?_
 simp only[Builtin.Range.rangeFitsLong,Bool.and_eq_true,Bool.or_eq_true,decide_eq_true_eq,beq_iff_eq]
 refine⟨⟨⟨⟨⟨by exact M1 [] [_] 0x8000000000000000014114001114114 rfl h0,by exact M1 [] [_] 0x80000000000000000100115000040000000000000000100115 rfl h1⟩,by decide⟩,by decide⟩,⟨by exact M1 [] [_] 0x11100200008000000000000000014114001114114 rfl h0,by exact M1 [] [_] 0x800000000000000001111002115000040000000000000000100115 rfl h1⟩⟩,.inr (by decide)⟩
theorem CV.oo (q:Q (.c4 0 n 1) σ):CV c k (.type "range") [.int n] σ Q:=λA stack s vs E st fr room hd hv=>by
 refine aA.e1 hv λq_ h1=>?_
 refine h1.eI λq_=>?_
 exact call_range_1 (sr st (λb o e=>Heap.get?_push_of_some _ e) (.c4 (IsRange.new ..)) q)
theorem CV.vu (hd:d≠0)(hp:Builtin.divisionGoesByPylong (b- a) d=false)(q:Q (.c4 a b d) σ):CV c k (.type "range") [.int a,.int b,.int d] σ Q:=λA stack s vs E st fr room dW hv=>by
 refine aA.e3 hv λq_ q_ q_ h1 h2 h3=>?_
 refine h1.eI λq_=>?_
 refine h2.eI λq_=>?_
 refine h3.eI λq_=>?_
 exact call_range_3 hd (sr st (λb o e=>Heap.get?_push_of_some _ e) (.c4 (IsRange.new ..)) q) (.inl hp)
end
end
end Mine
end
section
open Classical
namespace Mine
noncomputable section
section
variable {c:Cx}{f:Fm}{E:Value→Shared→Prop}{k:Nat}{ρ:Lo}{σ:S}
inductive jq (f:Fm)(ρ:Lo)(cl:List (Str×Addr)):List Str→Lo→Prop
 |nil:jq f ρ cl [] []
 |cons {y ys r rs i a}:Ix f.N y i→ρ[i]? =some (some r)→f.env.kindOf y=some .cell→cl.lookup y=some a→f.env.cells.lookup y=some a→jq f ρ cl ys rs→jq f ρ cl (y::ys) (some r::rs)
theorem jq.get {cl:List (Str×Addr)}{ys:List Str}{rs:Lo}(x:jq f ρ cl ys rs):∀{j:Nat}{y:Str}{r:V},ys[j]? =some y→rs[j]? =some (some r)→∃(i:Nat) (a:Addr),f.N[i]? =some y∧ρ[i]? =some (some r)∧f.env.kindOf y=some .cell∧cl.lookup y=some a∧f.env.cells.lookup y=some a:=by
 induction x with
 |nil=>exact λh=>nomatch h
 |cons a b c d e _ ih=>
  intro j y r h h'
  cases j with
  |zero=>(injection h with h;subst h);(injection h' with h';injection h' with h';subst h');exact⟨_,_,a.get,b,c,d,e⟩
  |succ j=>exact ih h h'
noncomputable abbrev Fm.comp (f:Fm)(scope:Scope)(cl:List (Str×Addr))(N':List Str)(G':List (Str×V))(C:Addr):Fm:=⟨true,compEnvC scope cl C f.env,f.B,f.stack,N',G'⟩
structure fh(c:Cx)(f:Fm)(scope:Scope)(cl:List (Str×Addr))(x:Str)(ys:List Str)(G':List (Str×V)):Prop where
 kind:scope.kind= .function
 GN:closureFor scope f.env=pure cl
 names:∀z∈scope.names,z.2= .local→scope.names.lookup z.1=some .local
 GO:∀z∈scope.names,z.2≠.cell
 nodup:(x::ys).Nodup
 GQ:(cl.map (·.1)).Nodup
 vw:∀p∈cl,f.env.cells.lookup p.1=some p.2
 hx:scope.names.lookup x=some .local∧(x==("__debug__":Str))=false
 hy:∀y∈ys,(relabel scope f.env).names.lookup y=some .cell∧(cl.lookup y).isSome=true∧(y==("__debug__":Str))=false
 aF:∀p∈G',((relabel scope f.env).names.lookup p.1=some .globalImplicit∧(p.1==("__debug__":Str))=false)∧c.pQ p.1 p.2
theorem GR(I:In c f k ρ σ h)(h1:f.env.cells.lookup y=some a)(h2:f.env.cells.lookup y'=some a):y=y':=by
 have dK:=I.ok.n7
 rw[List.nodup_cons]at dK
 refine XE (List.mem_iff_getElem?.mp (je h1)) λi1 e1=>?_
 refine XE (List.mem_iff_getElem?.mp (je h2)) λi2 e2=>?_
 have g1:(f.env.cells.map (·.2))[i1]? =some a:=by refine ae (List.getElem?_map) (ae e1 ?_);rfl
 have g2:(f.env.cells.map (·.2))[i2]? =some a:=by refine ae (List.getElem?_map) (ae e2 ?_);rfl
 have:i1=i2:=(List.getElem?_inj (List.getElem?_eq_some_iff.mp g1).1 dK.2).mp (g1.trans g2.symm)
 subst this
 rw[e1]at e2
 injection e2 with e2
 exact(Prod.mk.inj e2).1
theorem zS(t:Nat)(use:Option (Value→Sem Unit)){s:Shared}(I:In c f k ρ σ s.heap)(l:List V)(ok:S→Prop)(J:Nat→List V→S→Prop)
  (co:fh c f scope cl x ys G') (ko:jq f ρ cl ys rs)
  (h0:EV c f E k iter ρ σ λr ah=>bI c ah r l ok∧J 0 [] ah) (cG:∀i aG σ,J i aG σ→ok σ) (ch:l.length≤sizeLine)
  (step:∀E C i r aG σ,l[i]? =some r→J i aG σ→aG.length=i→EV c (f.comp scope cl (x::ys) G' C) E k fj (some r::rs) σ λy af=>J (i+1) (aG++ [y]) af)
  (gj:∀aG af D C ah aw jd m r,J l.length aG af→aG.length=l.length→af D=none→In c f k ρ ah aw.heap→Kp f.X σ s ah aw→aw.heap.get? C=none→In c f k ρ (upd af D (.list t aG)) jd.heap→
   Kp [] ah aw (upd af D (.list t aG)) jd→upd af D (.list t aG) C=none→jd.heap.Ns C m→compPost c.M f.B E use PQ (.ref D) C (.ok r) jd)
  (hs:∀x,foldedSetIterable iter f.env x=pure x:=by intro _;rfl):wpAny c.M f.B (comprehension (.ListComp fj [⟨.Name x p,iter, [],0⟩] scope pos) scope f.env (firstIterPos [⟨.Name x p,iter, [],0⟩] pos) (newList []) (firstAsync [⟨.Name x p,iter, [],0⟩]) (firstIter [⟨.Name x p,iter, [],0⟩] f.env) use) PQ E s:=by
 refine wpAny_comprehension_free rfl hs co.GN co.kind co.names (wpAny_mono (h0 s I) (λv aw ck=>ck.el λr ah aB aP ag iE=>?_) λq_ q_ z=>z)
 obtain ⟨w,j0⟩:=iE
 refine w aB.st aP λit P h' dL p0 fg keep=>?_
 have zO:Kp f.X ah aw ah {aw with heap:=h'}:=Kp.ext (tk:=aw.toks) keep
 have jp:In c f k ρ ah h':=(aB.ext (tk:=aw.toks) keep).1
 have sz:∀(h:Heap) o,(h.push o).objs.size=h.objs.size+1:=λh o=>Heap.size_push ..
 refine wpAny_newObj_type (wpAny_newFunctionEnv co.GO (by intro y hy;simp at hy) (λcg qf oq=>?_) co.kind)
 dsimp only at qf oq ⊢
 generalize hD:h'.objs.size=D at qf oq ⊢
 generalize hH:h'.push {cls:=.type "list",dict:=none,data:=.seq ([]:List Value).toArray}=H at qf oq ⊢
 generalize hC:H.objs.size=C at qf oq ⊢
 have sx:C=D+1:=by exact aU hC (aU hH (ae (sz ..) (ae hD rfl)))
 have vx:∀b o,h'.get? b=some o→cg.get? b=some o:=λb o e=>by
  refine(oq.2 b λq=>?_).trans (Heap.get?_push_of_some _ (by exact aU hH (Heap.get?_push_of_some _ e)))
  have:=Heap.lt_size e
  rw[q,sx,←hD]at this
  exact absurd this (Nat.not_lt.mpr (Nat.le_succ _))
 have zT:∀b o,aw.heap.get? b=some o→cg.get? b=some o:=λb o e=>vx b o (keep b o e)
 have sy:aw.heap.get? D=none:=by
  cases q:aw.heap.get? D with
  |none=>rfl
  |some o=>have:=Heap.lt_size (keep D o q);rw[hD]at this;exact absurd this (Nat.lt_irrefl _)
 have sA:aw.heap.get? C=none:=by
  cases q:aw.heap.get? C with
  |none=>rfl
  |some o=>
   have:=Heap.lt_size (keep C o q);rw[hD,sx]at this
   exact absurd this (Nat.not_lt.mpr (Nat.le_succ _))
 refine bG (dL.nt p0) λVw GS Vx Vy=>?_
 have zU:it<D:=by exact aU hD (Heap.lt_size GS)
 have qg:D≠C:=by exact ae sx (Nat.ne_of_lt (Nat.lt_succ_self _))
 have vy:it≠D:=Nat.ne_of_lt zU
 have sB:it≠C:=by exact ae sx (Nat.ne_of_lt (Nat.lt_succ_of_lt zU))
 have lD:cg.get? D=some {cls:=.type "list",dict:=none,data:=.seq #[] 0,slots:= #[]}:=by
  refine(oq.2 D qg).trans (Heap.get?_push_of_some _ ?_)
  refine aU hH (aU hD ?_);exact Heap.get?_push_size _ rfl
 have zV:=aB.off sy
 have zW:=aB.off fg
 have zX:=aB.off sA
 have vz:∀a∈cl.map (·.2),a∈f.own:=λa ha=>by
  refine eU ha λq hq=>?_
  exact r5 (co.vw q hq)
 have vA:∀{b},Off c f b→C≠b→Off c (f.comp scope cl (x::ys) G' C) b:=λ{b} o bS=>
  ⟨o.base,λa ha=>by
   refine bO ha ?_ λha=>?_
   ·exact bS
   ·exact o.own a (vz a ha),o.cr,o.hd⟩
 have GU:∀{af:S}{s':Shared},St c af s'.heap→Kp [] ah aw af s'→s'.heap.Ns C (λy=>([]:List (Str×Value)).reverse.lookup y)→af C=none→In c (f.comp scope cl (x::ys) G' C) k (none::rs) af s'.heap:=λ{af s'} st kp ns zC=>by
  have ot:=(aB.jW st kp).1
  refine⟨st,⟨?_,aB.ok.gl,aB.ok.bi,co.nodup,?_,λy hy=>?_,λq hq=>?_⟩,⟨_,ns,λj y r h1 h2=>?_⟩,λq hq=>ot.jV q (je (co.vw q hq)),λb hb=>?_,ot.cr,ot.room,ot.hd⟩
  ·exact co.kind
  ·show (C::cl.map (·.2)).Nodup
   rw[List.nodup_cons]
   refine⟨λhm=>zX.own C (vz C hm) rfl,?_⟩
   have key:∀l:List (Str×Addr),(∀q∈l,f.env.cells.lookup q.1=some q.2)→(l.map (·.1)).Nodup→(l.map (·.2)).Nodup:=λl=>by
    induction l with
    |nil=>intro _ _;exact List.nodup_nil
    |cons q r ih=>
     intro h nd
     rw[List.map_cons,List.nodup_cons]at nd ⊢
     refine⟨λhm=>?_,ih (λq hq=>h q (.tail _ hq)) nd.2⟩
     refine ak (List.mem_map.mp hm) λq' zY e=>?_
     have:=GR aB (h q' (.tail _ zY)) (by exact ae e (h q (.head _)))
     exact nd.1 (this▸List.mem_map.mpr ⟨q',zY,rfl⟩)
   exact key cl co.vw co.GQ
  ·refine bO hy ?_ λhy=>?_
   ·exact⟨.inl (lookup_relabel_local co.hx.1),co.hx.2⟩
   ·refine cq (co.hy y hy) λa1 a2 a3=>?_
    exact⟨.inr ⟨a1,vd a2⟩,a3⟩
  ·exact⟨(co.aF q hq).1,(co.aF q hq).2⟩
  ·cases j with
   |zero=>simp at h2
   |succ j=>
    refine nW (ko.get (j:=j) (y:=y) (r:=r) (by simpa using h1) (by simpa using h2)) λi a g1 g2 g3 g4 g5=>?_
    refine ak ot.loc λm n hl=>?_
    refine ak (hl i y r g1 g2) λv z1 z2=>?_
    have GV:y∈ys:=List.mem_of_getElem? (by simpa using h1)
    refine⟨v,z1,.inr ⟨(co.hy y GV).1,a,g4,?_⟩⟩
    refine Or.elim z2 (λGW=>?_) λGX=>?_
    obtain ⟨z2,_⟩:=GW
    rotate_left
    obtain ⟨_,a',z3,z4⟩:=GX
    rotate_right
    ·rw[g3]at z2;contradiction
    ·rw[g5]at z3;(injection z3 with z3;subst z3);exact z4
  ·refine bO hb ?_ λhb=>?_
   ·exact⟨zC,zX.base⟩
   ·exact ot.own b (vz b hb)
 have vB:St c ah cg:=aB.st.ext zT
 have zZ:Kp [] ah aw ah {aw with heap:=cg}:=Kp.ext (tk:=aw.toks) zT
 have II:=GU (s':={aw with heap:=cg}) vB zZ qf (aB.st.fresh sA).1
 have z0:P 0 cg:=dL.keep p0 (ed vx) λo e=>vx it o e
 have loop:codeAny c.M f.B (.compLoop (.ListComp fj [⟨.Name x p,iter, [],0⟩] scope pos) 0 (.ref it) (.ref D) (compEnvC scope cl C f.env)) (compPost c.M f.B E use PQ (.ref D) C) {aw with heap:=cg}:=by
  refine Exists.elim (show∃Inv:Nat→Shared→Prop,∀n s',Inv n s'↔∃i aG af r0,n=l.length+1- i∧i≤l.length∧In c (f.comp scope cl (x::ys) G' C) k (r0::rs) af s'.heap∧Kp [] ah aw af s'∧J i aG af∧aG.length=i∧P i s'.heap∧(∃vs n,IsL s'.heap D vs n∧aA s'.heap vs.toList aG)∧af D=none∧af it=none from ⟨_,λq_ q_=>Iff.rfl⟩) λInv gh=>?_
  refine codeAny_compLoop_list Inv (λn s' hI=>?_) (l.length+1) ((gh _ _).mpr ⟨0, [],ah,none,rfl,Nat.zero_le _,II,zZ,j0,rfl,z0,⟨#[],0,lD,.nil⟩,(aB.st.fresh sy).1,(aB.st.fresh fg).1⟩)
  refine D7 ((gh _ _).mp hI) λi aG af r0 er om I' k' j sC p' GY zD zi=>?_
  obtain ⟨vs,nn,L,n9⟩:=GY
  refine bG (dL.nt p') λoi vn vo GD=>?_
  have nt:∀o,s'.heap.get? it=some o→¬eG o:=λo e=>by rw[vn]at e;(injection e with e;subst e);exact vo
  have sD:∀{h h':Heap}{vs n aG},IsL h D vs n→aA h vs.toList aG→TK h h'→(∀o,h.get? D=some o→h'.get? D=some o)→IsL h' D vs n∧aA h' vs.toList aG:=λa b t e=>⟨e _ a,b.mono t⟩
  cases hl:l[i]? with
  |none=>
   have dB:i=l.length:=by
    have:=List.getElem?_eq_none_iff.mp hl
    exact Nat.le_antisymm (M1 [_,_] [] 0x10001101000110 rfl om) (M1 [_,_] [] 0x10001101000110 rfl this)
   refine dL.fin I'.st I'.hd (cG _ _ _ j) (dB▸p') λdy bu=>?_
   have ct:=I'.su (vA zW sB.symm) zi nt bu
   have aC:=k'.turn (tk:=s'.toks) fg nt bu
   have tk:TK s'.heap dy:=λb o e im=>bu b o (λq=>nt o (q▸e) im) e
   obtain ⟨lx,vC⟩:=sD L n9 tk λo e=>bu D o vy.symm e
   refine ak ct.loc λm GZ q_=>?_
   have zC:af C=none:=(ct.own C (.head _)).1
   have lo:(D==sysModules)=false:=beq_eq_false_iff_ne.mpr λe=>by
    have:=modules_low (c.nolimit.keeps jp.st.base)
    rw[hD,e]at this;exact Nat.lt_irrefl _ this
   have G0:St c (upd af D (.list t aG)) dy:=by
    refine⟨ct.st.base,λb ob hb=>?_,uK ct.st.lo lo⟩
    by_cases q:b=D
    ·rw[q,c5]at hb;injection hb with hb;refine ae q (aU hb ?_);exact⟨zV.base,_,_,lx,vC⟩
    ·rw[cC q]at hb;exact ct.st.own b ob hb
   have bj:Kp [] ah aw (upd af D (.list t aG)) {s' with heap:=dy}:=by
    refine⟨λb ob hb z n=>?_,aC.tup,aC.gens,aC.drawn,aC.os⟩
    obtain ⟨z',r⟩:=aC.keep b ob hb z n
    exact⟨(cC λq=>aJ (sy.symm.trans (q▸hb))).trans z',r⟩
   obtain ⟨mC,_⟩:=aB.jW G0 bj
   exact gj aG af D C ah aw {s' with heap:=dy} m _ (dB▸j) (sC.trans dB) zD aB ag sA mC bj ((cC (λq=>qg q.symm)).trans zC) GZ
  |some r=>
   refine dL.item I'.st (cG _ _ _ j) p' hl λv dy gd hv qa bu=>?_
   have aR:=I'.su (vA zW sB.symm) zi nt bu.extBut
   have aj:=k'.turn (tk:=gd) fg nt bu.extBut
   have G1:TK s'.heap dy:=λb o e im=>bu.extBut b o (λq=>nt o (q▸e) im) e
   obtain ⟨iJ,G2⟩:=sD L n9 G1 λo e=>bu.extBut D o vy.symm e
   refine wpAny_assign_Name (jZ (f:=f.comp scope cl (x::ys) G' C) (i:=0) (x:=x) (s:={s' with heap:=dy,toks:=gd}) aR rfl (.inl (lookup_relabel_local co.hx.1)) hv λjf on ct aC=>?_)
   have sF:∀{b:Addr}{gU gY:S}{sa sb:Shared},C≠b→Kp (f.comp scope cl (x::ys) G' C).X gU sa gY sb→gU b=none→(∃o,sa.heap.get? b=some o∧∀es n,o.data≠.dict es n)→gY b=none∧∀o,sa.heap.get? b=some o→sb.heap.get? b=some o:=λ{b gU gY sa sb} bS kk z ⟨o,e,d⟩=>by
    obtain ⟨z',o',e',l⟩:=kk.keep b o e z (λhm=>by
     refine Or.elim (List.mem_cons.mp hm) (λq=>?_) λq=>?_
     ·exact bS q.symm
     ·exact dx q)
    refine⟨z',λo2 e2=>?_⟩
    rw[e]at e2;(injection e2 with e2;subst e2)
    rw[l.exact d]at e';exact e'
   have z6:∀{gU gY:S}{sa sb:Shared},Kp [] ah aw gU sa→Kp (f.comp scope cl (x::ys) G' C).X gU sa gY sb→Kp [] ah aw gY sb:=λ{gU gY sa sb} a b=>
    ⟨λd o e z n=>by
     obtain ⟨z',o',e',l⟩:=a.keep d o e z n
     obtain ⟨uL,mr,uM,l'⟩:=b.keep d o' e' z' (λhm=>by
      refine Or.elim (List.mem_cons.mp hm) (λq=>?_) λq=>?_
      ·rw[q]at e;exact absurd e (by show aw.heap.get? C≠_;refine ae sA ?_;intro w;exact aJ w)
      ·exact dx q)
     exact⟨uL,mr,uM,l.trans l'⟩,a.tup.trans b.tup,b.gens.trans a.gens,b.drawn.trans a.drawn,b.os.trans a.os⟩
   obtain ⟨o2,e2,_,d2⟩:=dL.nt qa
   obtain ⟨z3,vp⟩:=sF sB.symm aC zi ⟨o2,e2,d2⟩
   obtain ⟨G3,G4⟩:=sF qg.symm aC zD ⟨_,iJ,λes n q=>by contradiction⟩
   have p3:=dL.keep qa aC.tup vp
   obtain ⟨lx,vC⟩:=sD iJ G2 aC.tup G4
   refine wpAny_mono (step _ C i r aG af hl j sC _ ct) (λy jn cx=>cx.el λzQ bn ee vq aM lu=>?_) λq_ q_ z=>z
   obtain ⟨o3,e3,_,d3⟩:=dL.nt p3
   obtain ⟨z4,vr⟩:=sF sB.symm aM z3 ⟨o3,e3,d3⟩
   obtain ⟨z7,G5⟩:=sF qg.symm aM G3 ⟨_,lx,λes n q=>by contradiction⟩
   have p4:=dL.keep p3 aM.tup vr
   obtain ⟨z8,G6⟩:=sD lx vC aM.tup G5
   have bq:=be hl
   refine wpAny_list_append_plain (items:=vs) ⟨_,z8⟩ (λqi hp sG=>?_) (by exact ae n9.size (M3 [_,_,_] [] 0x100000071201101020112001011010000007100110 rfl ch om sC))
   obtain ⟨n',hp⟩:=hp
   have vD:∀o,jn.heap.get? D=some o→¬eG o:=λo e=>by
    rw[z8]at e;(injection e with e;subst e)
    rintro (⟨q,_⟩|⟨q,_⟩)
    ·exact gS (by decide) q
    ·exact gS (by decide) q
   have vF:TK jn.heap qi:=λb o e im=>sG.extBut b o (λq=>vD o (q▸e) im) e
   have mC:=ee.su (vA zV qg.symm) z7 vD sG.extBut
   have bj:Kp [] ah aw bn {jn with heap:=qi}:=(z6 (z6 aj aC) aM).turn (tk:=jn.toks) sy vD sG.extBut
   have p5:P (i+1) qi:=dL.keep p4 vF λo e=>sG.extBut it o vy e
   exact⟨_,(show l.length+1- (i+1)<n by exact M3 [_,_,_,_,_] [] 0x1040111111202111302402112300021112021101000113 rfl er s2 (Nat.sub_add_cancel (M1 [_,_] [] 0x1111021110021101000110 rfl om))),(gh _ _).mpr ⟨i+1,aG++ [zQ],bn,_,rfl,bq,mC,bj,lu,by simp[sC],p5,⟨_,n',hp,by exact ae Array.toList_push ((G6.mono vF).snoc (vq.mono vF))⟩,z7,z4⟩⟩
 exact codeAny_compStart_list loop (dL.self z0 loop)
theorem z9{h:Heap}(n:h.Ns C m):∀o,h.get? C=some o→¬eG o:=λo e=>uO n e
theorem EV.comp (t:Nat)(l:List V)(ok:S→Prop)(J:Nat→List V→S→Prop)
  (co:fh c f scope cl x ys G') (ko:jq f ρ cl ys rs)
  (h0:EV c f E k iter ρ σ λr ah=>bI c ah r l ok∧J 0 [] ah) (cG:∀i aG σ,J i aG σ→ok σ) (ch:l.length≤sizeLine)
  (step:∀E C i r aG σ,l[i]? =some r→J i aG σ→aG.length=i→EV c (f.comp scope cl (x::ys) G' C) E k fj (some r::rs) σ λy af=>J (i+1) (aG++ [y]) af)
  (gj:∀aG σ a,J l.length aG σ→aG.length=l.length→σ a=none→Q (.val (.ref a)) (upd σ a (.list t aG)))
  (hs:∀x,foldedSetIterable iter f.env x=pure x:=by intro _;rfl):EV c f E k (.ListComp fj [⟨.Name x p,iter, [],0⟩] scope pos) ρ σ Q:=λs I=>by
 refine ae (eval_ListComp ..) ?_
 refine zS t none I l ok J co ko h0 cG ch step (λaG af D C ah aw jd m r j ha zD aB ag nC aR aj zC hn=>⟨m,hn,λh' bu=>?_⟩) hs
 have nt:=z9 hn
 exact⟨_,_,aB.turn nC aR zC nt bu.extBut,.val _,ag.trans (aj.turn (tk:=jd.toks) nC nt bu.extBut).up,gj aG af D j ha zD⟩
theorem aS.qj (t:Nat){py qk:Pos}(l:List V)(ok:S→Prop)(J:Nat→List V→S→Prop)
  (vG:swapsWith (.ListComp fj [⟨.Name x p,iter, [],0⟩] scope pos) (some (.Name y py)) qk.line f.env=pure true) (hi:Ix f.N y iy) (hl:f.env.kindOf y=some .local)
  (co:fh c f scope cl x ys G') (ko:jq f ρ cl ys rs)
  (h0:EV c f E k iter ρ σ λr ah=>bI c ah r l ok∧J 0 [] ah) (cG:∀i aG σ,J i aG σ→ok σ) (ch:l.length≤sizeLine)
  (step:∀E C i r aG σ,l[i]? =some r→J i aG σ→aG.length=i→EV c (f.comp scope cl (x::ys) G' C) E k fj (some r::rs) σ λy af=>J (i+1) (aG++ [y]) af)
  (gj:∀aG σ a,J l.length aG σ→aG.length=l.length→σ a=none→Q .next (ρ.set iy (some (.val (.ref a)))) (upd σ a (.list t aG)))
  (hs:∀x,foldedSetIterable iter f.env x=pure x:=by intro _;rfl):aS c f E k (.Assign [.Name y py] (.ListComp fj [⟨.Name x p,iter, [],0⟩] scope pos) qk) ρ σ Q:=λs I=>by
 refine ae (exec_Assign_Name_used _ _ _ _ vG) ?_
 refine wpAny_bind (wpAny_standAt (wpAny_bind ?_))
 show wpAny _ f.B (do let _←comprehension (.ListComp fj [⟨.Name x p,iter, [],0⟩] scope pos) scope f.env _ (newList []) false (eval iter f.env) (some (PySem.assign (.Name y py) f.env))) _ _ s
 refine wpAny_bind (wpAny_mono (zS (PQ:=λq_ s'=>dA c f k σ s Q .next s') t (some (PySem.assign (.Name y py) f.env)) I l ok J co ko h0 cG ch step (λaG af D C ah aw jd m r j ha zD aB ag nC aR aj zC hn=>?_) hs) (λq_ s' hq=>wpAny_pure (wpAny_pure hq)) λq_ q_ e=>e)
 show wpAny _ _ (PySem.assign (.Name y py) f.env (.ref D)) _ _ _
 refine wpAny_assign_Name (jZ aR hi.get (.inl hl) (.val (.ref D)) λjf on ct aC=>?_)
 have hX:C∉f.X:=λhm=>by
  refine ak (aB.hX C (Fm.iB hm)) λo e q_=>?_
  rw[nC]at e;exact aJ e
 have Aa:jf.Ns C m:=Ns.slots hn λo e=>(aC.keep C o e zC hX).2
 have nt:=z9 Aa
 have aM:Kp f.X ah aw (upd af D (.list t aG)) {jd with heap:=jf,toks:=on}:=aj.up.trans aC
 refine⟨m,Aa,λh' bu=>?_⟩
 exact⟨.next,_,_,aB.turn nC ct zC nt bu.extBut,.next,ag.trans (aM.turn (tk:=on) nC nt bu.extBut),gj aG af D j ha zD⟩
end
end
end Mine
end
section
open Classical
namespace Mine
noncomputable section
section
variable {c:Cx}{f:Fm}{E:Value→Shared→Prop}{k:Nat}{ρ:Lo}{σ:S}
theorem EV.vH (h:EV c f E k e ρ σ Q):EV c f E k (.BoolOp op [e] pos) ρ σ Q:=λs I=>BoolOp_one (h s I)
theorem EV.band (h:EV c f E k mD ρ σ λr ah=>∃b,r= .bool b∧match b with|true=>EV c f E k (.BoolOp .And (kq::cO) pos) ρ ah Q|false=>Q (.bool false) ah):
  EV c f E k (.BoolOp .And (mD::kq::cO) pos) ρ σ Q:=λs I=>by
 refine BoolOp_and (wpAny_mono (h s I) (λv aw ck=>ck.el λr ah aB aP ag iE=>?_) λq_ q_ z=>z)
 refine ak iE λb e q=>?_
 subst e;refine aP.eB ?_
 refine wpAny_truthy_bool ?_
 cases b
 ·exact⟨_,_,aB,.bool _,ag,q⟩
 ·exact wpAny_mono (q aw aB) (λq_ q_ x=>x.trans ag) λq_ q_ z=>z
theorem EV.bor (h:EV c f E k mD ρ σ λr ah=>∃b,r= .bool b∧match b with|false=>EV c f E k (.BoolOp .Or (kq::cO) pos) ρ ah Q|true=>Q (.bool true) ah):
  EV c f E k (.BoolOp .Or (mD::kq::cO) pos) ρ σ Q:=λs I=>by
 refine BoolOp_or (wpAny_mono (h s I) (λv aw cx=>cx.el λr ah aB aP ag mE=>?_) λq_ q_ z=>z)
 refine ak mE λb e q=>?_
 subst e;refine aP.eB ?_
 refine wpAny_truthy_bool ?_
 cases b
 ·exact wpAny_mono (q aw aB) (λq_ q_ x=>x.trans ag) λq_ q_ z=>z
 ·exact⟨_,_,aB,.bool _,ag,q⟩
theorem EV.not (h:EV c f E k e ρ σ λr ah=>∃b,r= .bool b∧Q (.bool (!b)) ah):EV c f E k (.UnaryOp .Not e pos) ρ σ Q:=λs I=>by
 refine wpAny_UnaryOp (wpAny_mono (h s I) (λv aw dJ=>dJ.el λr ah aB aP ag mB=>?_) λq_ q_ z=>z)
 refine ak mB λb e q=>?_
 subst e;refine aP.eB ?_
 exact not_of (wpAny_truthy_bool ⟨_,_,aB,.bool _,ag,q⟩)
noncomputable def V.plain:V→Prop
 |.none=>True
 |.bool _=>True
 |.int _=>True
 |.str _=>True
 |_=>False
theorem aS.expr {pos:Pos}(h:EV c f E k e ρ σ λr ah=>r.plain∧Q .next ρ ah)(hi:interactive f.env=false:=by rfl)(hs:swapsWith e none pos.line f.env=pure false:=by rfl):
  aS c f E k (.Expr e pos) ρ σ Q:=λs I=>by
 refine wpAny_Expr (wpAny_mono (h s I) (λv aw eZ=>eZ.el λr ah aB aP ag mw=>?_) λq_ q_ z=>z) hi hs
 obtain ⟨hp,q⟩:=mw
 have fin:dA c f k σ s Q .next aw:=⟨.next,ρ,ah,aB,.next,ag,q⟩
 cases aP<;>first|exact fin|exact hp.elim
theorem aS.pass (q:Q .next ρ σ):aS c f E k (.Pass pos) ρ σ Q:=λs I=>wpAny_Pass ⟨.next,ρ,σ,I,.next,.refl ..,q⟩
theorem aS.cont (q:Q .cont ρ σ):aS c f E k (.Continue pos) ρ σ Q:=λs I=>wpAny_Continue ⟨.cont,ρ,σ,I,.cont,.refl ..,q⟩
theorem aS.brk (q:Q .brk ρ σ):aS c f E k (.Break pos) ρ σ Q:=λs I=>wpAny_Break ⟨.brk,ρ,σ,I,.brk,.refl ..,q⟩
theorem aS.G7 (hi:Ix f.N x i)(hr:ρ[i]? =some (some (.int a)))(h:EV c f E k e ρ σ λr ah=>∃b,r= .int b∧Q .next (ρ.set i (some (.int (a+b)))) ah)
  (hk:f.env.kindOf x=some .local∨f.inner=false:=by exact .inr rfl):aS c f E k (.AugAssign (.Name x p) .Add e pos) ρ σ Q:=λs I=>by
 refine ak I.loc λm n hl=>?_
 refine ak (hl i x _ hi.get hr) λv h2 h1=>?_
 have hm:x∈f.N:=List.mem_of_getElem? hi.get
 refine wpAny_AugAssign_Name ?_
 have go:wpAny c.M f.B (eval e f.env) (λv' aO=>wpAny c.M f.B (inplaceOp .Add v v') (λr jm=>wpAny c.M f.B (storeName f.env x r) (λq_=>dA c f k σ s Q .next) E jm) E aO) E s:=by
  refine wpAny_mono (h s I) (λv' aO jX=>jX.el λr ah aB aP ag u6=>?_) λq_ q_ z=>z
  refine ak u6 λb e q=>?_
  subst e;refine aP.eI λq_=>?_;refine h2.eI λt=>?_
  refine wpAny_iadd_int ?_
  have aR:In c f k ρ ah ({aO with toks:=aO.toks+1}:Shared).heap:=aB
  exact jZ (s:={aO with toks:=aO.toks+1}) aR hi.get hk (.int ..) λdy tk a b=>⟨.next,_,ah,a,.next,(ag.trans (Kp.tk (t:=aO.toks+1))).trans b,q⟩
 refine Or.elim h1 (λG8=>?_) λG9=>?_
 obtain ⟨h0,h1⟩:=G8
 rotate_left
 obtain ⟨h0,a,h1,h3⟩:=G9
 rotate_right
 ·exact wpAny_loadName_local I.ok.kind h0 n h1 go
 ·exact wpAny_loadName_cell I.ok.kind h0 h1 h3 go
inductive mG (f:Fm):List Expr→List V→Lo→Lo→Prop
 |nil {mH}:mG f [] [] mH mH
 |cons {x p es r rs mH gi i}:Ix f.N x i→(f.env.kindOf x=some .local∨f.inner=false)→mG f es rs (mH.set i (some r)) gi→mG f (.Name x p::es) (r::rs) mH gi
theorem mG.length {es:List Expr}{rs:List V}(x:mG f es rs ρ ρ'):es.length=rs.length:=by
 induction x with
 |nil=>rfl
 |cons _ _ _ ih=>exact congrArg (· +1) ih
theorem Ha(t:mG f es rs ρ ρ'):∀{vs:List Value}{s:Shared}{Q:Unit→Shared→Prop},In c f k ρ σ s.heap→aA s.heap vs rs→
  (∀h' tk,In c f k ρ' σ h'→Kp f.X σ s σ {s with heap:=h',toks:=tk}→Q () {s with heap:=h',toks:=tk})→wpAny c.M f.B (assignInOrder ((assignEach es f.env).map (·.2)) vs) Q E s:=by
 induction t with
 |nil=>
  intro vs s Q I hv q
  cases hv
  exact wpAny_pure (q s.heap s.toks I (.refl ..))
 |@cons x p es r rs mH gi i hi hk t ih=>
  intro vs s Q I hv q
  cases hv with|cons h hs=>
  show wpAny _ _ (holding _ (assign (.Name x p) f.env _) >>= λq_=>assignInOrder ((assignEach es f.env).map (·.2)) _) _ _ _
  refine wpAny_bind (wpAny_holding (wpAny_assign_Name (jZ I hi.get hk h λh' tk I' k'=>?_)))
  exact ih (s:={s with heap:=h',toks:=tk}) I' (hs.mono k'.tup) λdy Hb vI ql=>q dy Hb vI (k'.trans ql)
theorem aS.unpack {es:List Expr}{tp pos:Pos}(calm:c.calm=true)(h:EV c f E k e ρ σ λr ah=>∃rs ρ',r= .tup rs∧mG f es rs ρ ρ'∧Q .next ρ' ah)
  (hs:swapsWithSole [.Tuple es n tp] e pos.line f.env=pure false:=by rfl) (hw:swappedStores [.Tuple es n tp] e f.env=pure none:=by rfl)
  (hu:∀v,PySem.assign (.Tuple es n tp) f.env v= (do standAt tp;let items←holding [v] (unpackItems v es.length none);assignInOrder ((assignEach es f.env).map (·.2)) items):=by intro _;rfl):aS c f E k (.Assign [.Tuple es n tp] e pos) ρ σ Q:=λs I=>by
 refine Assign_Tuple (wpAny_mono (h s I) (λv aw jY=>jY.el λr ah aB aP ag u8=>?_) λq_ q_ z=>z) hs hw
 refine eX u8 λrs ρ' e tg q=>?_
 subst e
 refine ae (hu ..) ?_
 cases aP with
 |@tup a vs _ e1 e2=>
  refine wpAny_bind (wpAny_standAt (wpAny_bind (wpAny_holding ?_)))
  have hl:es.length=vs.toArray.size:=by exact ae List.size_toArray (ae e2.length (ae tg.length rfl))
  refine ae hl ?_
  refine unpackItems_tuple (aB.hd.1 calm) e1 λh' hs=>?_
  have kk:∀b o,aw.heap.get? b=some o→h'.get? b=some o:=λb o e=>hs b o (Nat.ne_of_lt (Heap.lt_size e)) e
  refine XA (aB.ext (tk:=aw.toks) kk) λaR aj=>?_
  refine Ha (s:={aw with heap:=h'}) tg aR (e2.mono (ed kk)) λdy tk ct aC=>?_
  exact⟨.next,ρ',ah,ct,.next,(ag.trans aj).trans aC,q⟩
end
end
end Mine
end
section
open Classical
namespace Mine
noncomputable section
theorem putL_new{es:List DictEntry}:es.any (·.key.isStr name)=false→putL name Hc key v es=es++ [⟨Hc,key,v⟩]:=by
 induction es with
 |nil=>exact λq_=>rfl
 |cons e r ih=>
  intro h
  have h:=Bool.or_eq_false_iff.mp h
  exact(if_neg (Bool.eq_false_iff.mp h.1)).trans (congrArg (List.cons e) (ih h.2))
theorem dc.anyStr {es:List DictEntry}(H:dc h es ks vs):x∉ks→es.any (·.key.isStr x)=false:=by
 induction H with
 |nil=>exact λq_=>rfl
 |cons a b c ih=>exact λn=>Bool.or_eq_false_iff.mpr ⟨(rX a).trans (beq_eq_false_iff_ne.mpr λq=>n (q▸.head _)),ih λq=>n (.tail _ q)⟩
theorem dc.snoc {e:DictEntry}(hk:e.key= .str x t)(hv:VR h e.val r)(H:dc h es ks vs):dc h (es++ [e]) (ks++ [x]) (vs++ [r]):=by
 induction H with
 |nil=>exact .cons hk hv .nil
 |cons a b _ ih=>exact .cons a b ih
theorem dc.length {es:List DictEntry}{ks:List Str}(H:dc h es ks vs):es.length=ks.length:=by
 induction H with
 |nil=>rfl
 |cons _ _ _ ih=>exact congrArg Nat.succ ih
structure sH(c:Cx)(C:Addr)(name:Str):Prop where
 set:findIn c.K (.ref C) "__setattr__"=some (some (.builtin "object.__setattr__"))
 over:plainOver c.K C=true
 ow:takerIn c.K C name=some none
 dict:hasDictIn c.K C=true
section
variable {c:Cx}{f:Fm}{E:Value→Shared→Prop}{k:Nat}{ρ:Lo}{σ:S}
theorem He{s:Shared}{ox:Obj}{es:List DictEntry}(so:sH c C name)(X:c.K.In s.heap)(I:PySem.W.InstAt s.heap x ox C (some (dictOf es n)))(hd:ox.dict=some d)
  (D:s.heap.get? d=some (dictOf es n)) (hn:es.any (·.key.isStr name)=false) (hr:es.any (·.refKey)=false) (hz:es.length≤900)
  (h:∀h',Heap.SameBut d s.heap h'→h'.get? d=some (dictOf (es++ [⟨PyData.keyHash c.w.params name,.str name s.toks,v⟩]) (n+1))→R (.ok (.ret .none)) {s with heap:=h',toks:=s.toks+1}):
  codeAny c.M A (.call (.builtin "object.__setattr__") ⟨[.ref x,.str name tk,v], []⟩) R s:=by
 refine osa_open X I so.over so.ow λb=>?_
 refine ak (any_some so.dict) λcd hc dW=>?_
 obtain ⟨hx,jr,iK, -⟩:=I
 obtain ⟨oc,Hf,qm,sJ⟩:=ox
 dsimp only at jr hd
 subst jr hd
 refine wpAny_bind (wpAny_pure (wpAny_bind (wpAny_bind (wpAny_loadPart hx (wpAny_bind ((looks_clsIn X hc).here ?_))))))
 refine ae dW ?_
 refine wpAny_pure (a:=some d) (wpAny_bind (wpAny_pure (wpAny_bind ?_)))
 unfold nsSet
 refine wpAny_bind (wpAny_bind (wpAny_askSetting (wpAny_pure (wpAny_bind (wpAny_mkText (wpAny_bind (wpAny_loadPart D ?_)))))))
 have c0:(!es.toArray.any (·.key.isStr name)&&es.toArray.any (·.refKey))=false:=by
  exact ae List.any_toArray (ae List.any_toArray (ae hr (ae (Bool.and_false ..) rfl)))
 show wpAny _ _ _ _ _ _
 dsimp only[dictOf]
 refine ae (aRefKeyMayBeTheName_at ..) (ae c0 ?_)
 have e1:Obj.putName name (PyData.keyHash c.w.params name) (.str name s.toks) v (dictOf es n)=dictOf (es++ [⟨PyData.keyHash c.w.params name,.str name s.toks,v⟩]) (n+1):=by
  refine ae (putName_dict ..) (ae (putL_new hn) ?_);unfold putN;exact ae hn rfl
 have e2:(s.heap.update d (Obj.putName name (PyData.keyHash c.w.params name) (.str name s.toks) v)).get? d=some (dictOf (es++ [⟨PyData.keyHash c.w.params name,.str name s.toks,v⟩]) (n+1)):=by
  exact ae (Heap.get?_update_self _ D (by rw[e1];rfl)) (ae e1 rfl)
 refine wpAny_updatePart D ?_
 refine wpAny_bind (wpAny_lookBehind e2 (pastItsLine_dict (by refine ae List.size_toArray (ae List.length_append (ae sizeLine_eq ?_));simp only[List.length_cons,List.length_nil];exact Nat.lt_of_le_of_lt (by assumption) (aD rfl))) ?_)
 exact wpAny_pure (h _ (Heap.SameBut.update ..) e2)
theorem aS.Hg {p pos:Pos}
  (h:EV c f E k e ρ σ λr ah=>EV c f E k o ρ ah λov av=>∃x C d t t2 ks vs,ov= .val (.ref x)∧av x=some (.inst t C d)∧av d=some (.bb t2 ks vs)∧sH c C name∧name∉ks∧ks.length≤900∧
   Q .next ρ (upd av d (.bb t2 (ks++ [name]) (vs++ [r]))))
  (hs:swapsWith e (some (.Attribute o name p)) pos.line f.env=pure false:=by rfl):aS c f E k (.Assign [.Attribute o name p] e pos) ρ σ Q:=λs I=>by
 refine plainObj_wpAny_Assign_Attribute (wpAny_mono (h s I) (λe9 aw ck=>ck.el λr ah aB aP ag cy=>?_) λq_ q_ z=>z) hs
 refine wpAny_mono (cy aw aB) (λfE aO cx=>cx.el λov av aR cg aj mE=>?_) λq_ q_ z=>z
 refine bH mE λx C d t Hh=>?_
 refine mi Hh λt2 ks vs eo hx hd so hn hl q=>?_
 subst eo;refine cg.eV ?_
 refine k7 (u9 aR.st hx hd) λox es n IA Hi D ir=>?_
 have X:=c.eH.keeps aR.st.base
 refine set_plain X IA so.set (He (s:={aO with toks:=aO.toks+1}) so X IA Hi D (ir.anyStr hn) (ir.miss hn).2 (by exact ae ir.length hl) λh' bu D'=>?_)
 have tk:=iA (aR.st.own d _ hd).2 bu
 refine XA (aR.set (tk:=aO.toks+1+1) hd bu (o':=.bb t2 (ks++ [name]) (vs++ [r])) ⟨_,_,D',(ir.mono tk).snoc rfl ((aP.mono aj.tup).mono tk)⟩) λct aC=>?_
 exact⟨.next,ρ,_,ct,.next,(ag.trans aj).trans aC,q⟩
structure Ab(c:Cx)(C fI:Addr):Prop where
 makes:makesIn c.K C=true
 init:findIn c.K (.ref C) "__init__"=some (some (.ref fI))
 fn:typeIn c.K (.ref fI)=some (.type "function")
theorem Hj:notCls (instObj C d)=true:=rfl
theorem CV.make (t t2:Nat)(mo:Ab c C fI)
  (h:∀x d,σ x=none→σ d=none→x≠d→CC c k (.ref fI) (.val (.ref x)::args) (upd (upd σ d (.bb t2 [] [])) x (.inst t C d)) λr af=>r= .none∧Q (.val (.ref x)) af):
  CV c (k+1) (.ref C) args σ Q:=λA stack s vs E st fr room hd hv=>by
 have X:=c.eH.keeps st.base
 obtain ⟨hh,g,dr,tk,os⟩:=s
 refine wpAny_call (make_core (makes_of X mo.makes) (looks_findIn X mo.init) (λself=>bind_fn X self mo.fn) (.inl rfl) ?_)
 have sz:∀(h:Heap) o,(h.push o).objs.size=h.objs.size+1:=λh o=>Heap.size_push ..
 have nd:hh.get? hh.objs.size=none:=none_at_size _
 have vJ:∀b o,hh.get? b=some o→(hh.push emptyDict).get? b=some o:=λb o e=>Heap.get?_push_of_some _ e
 have nx:(hh.push emptyDict).get? (hh.objs.size+1)=none:=by exact aU (sz hh emptyDict) (none_at_size _)
 have vK:∀b o,(hh.push emptyDict).get? b=some o→((hh.push emptyDict).push (instObj C hh.objs.size)).get? b=some o:=λb o e=>Heap.get?_push_of_some _ e
 have zd:=(st.fresh nd).1
 have pY:St c (upd σ hh.objs.size (.bb t2 [] [])) (hh.push emptyDict):=st.new nd vJ (f9 ([]) 0 (Heap.get?_push_size _ rfl) .nil) (jg st)
 have zx:=(pY.fresh nx).1
 have bS:hh.objs.size+1≠hh.objs.size:=Nat.succ_ne_self _
 have Hk:σ (hh.objs.size+1)=none:=by rwa [cC bS]at zx
 have vB:St c (upd (upd σ hh.objs.size (.bb t2 [] [])) (hh.objs.size+1) (.inst t C hh.objs.size)) ((hh.push emptyDict).push (instObj C hh.objs.size)):=by
  refine pY.new nx vK ⟨instObj C hh.objs.size,?_,rfl,rfl,Hj⟩ ?_
  ·exact aU (sz hh emptyDict) (Heap.get?_push_size _ rfl)
  ·exact aU (sz hh emptyDict) (jg pY)
 have ag:Kp [] σ ⟨hh,g,dr,tk,os⟩ (upd σ hh.objs.size (.bb t2 [] [])) ⟨hh.push emptyDict,g,dr,tk,os⟩:=Kp.new (s:=⟨hh,g,dr,tk,os⟩) (tk:=tk) nd vJ
 have aj:Kp [] (upd σ hh.objs.size (.bb t2 [] [])) ⟨hh.push emptyDict,g,dr,tk,os⟩ (upd (upd σ hh.objs.size (.bb t2 [] [])) (hh.objs.size+1) (.inst t C hh.objs.size)) ⟨(hh.push emptyDict).push (instObj C hh.objs.size),g,dr,tk,os⟩:=Kp.new (s:=⟨hh.push emptyDict,g,dr,tk,os⟩) (tk:=tk) nx vK
 have aC:=ag.trans aj
 have Hl:∀b o,hh.get? b=some o→((hh.push emptyDict).push (instObj C hh.objs.size)).get? b=some o:=λb o e=>vK b o (vJ b o e)
 refine h (hh.objs.size+1) hh.objs.size Hk zd bS _ stack ⟨(hh.push emptyDict).push (instObj C hh.objs.size),g,dr,tk,os⟩ _ _ vB ?_ ?_ ?_ (.cons (.val _) (hv.mono (ed Hl))) λv s' zz=>zz.el λr af a1 a2 a3 aa=>And.elim (λa4 a5=>?_) aa
 ·have:=fr.kp (X:= []) (s':=⟨(hh.push emptyDict).push (instObj C hh.objs.size),g,dr,tk,os⟩) aC (λq_ h=>nomatch h) (λq_ h=>nomatch h)
  exact⟨(by have e:Code.envs (.builtin "type.__call__" ⟨.ref C::vs, []⟩)= []:=rfl;unfold Around.under;dsimp only;exact ae e fr.eq),this.dz,this.own,this.dX⟩
 ·refine XA room λr1 r2=>?_
  refine⟨?_,?_⟩
  ·show A.depth+Code.weight _+4*k+10<_
   have:Code.weight (.builtin "type.__call__" ⟨.ref C::vs, []⟩)≤1:=by
    show (_:Nat)≤1
    unfold Code.weight
    have e1:(Code.builtin "type.__call__" ⟨.ref C::vs, []⟩).frames=0:=rfl
    have e2:(Code.builtin "type.__call__" ⟨.ref C::vs, []⟩).isGuard=false:=by show guardIds.contains "type.__call__"=false;decide
    have e3:(Code.builtin "type.__call__" ⟨.ref C::vs, []⟩).isCaller=false:=rfl
    refine ae e1 (ae e2 (ae e3 ?_));simp;split<;>exact aD rfl
   exact M2 [_,_,_] [] 0x3e831a11104152000222111111201103e831a111111024150022111 rfl r1 this
  ·show A.units+ (1+3* (Code.builtin "type.__call__" ⟨.ref C::vs, []⟩).frames)+16*k+300<_
   have e1:(Code.builtin "type.__call__" ⟨.ref C::vs, []⟩).frames=0:=rfl
   exact ae e1 (M1 [_,_] [] 0x26ac4112c3110102501131511120022211126ac4112c3111110210250022111 rfl r2)
 ·exact hd.kp (X:= []) (s':=⟨(hh.push emptyDict).push (instObj C hh.objs.size),g,dr,tk,os⟩) (λq_ h=>nomatch h) aC
 ·subst a4;refine a2.eN ?_
  exact⟨rfl,_,_,a1,.val _,aC.trans a3,a5⟩
end
end
end Mine
end
section
open Classical
namespace Mine
noncomputable section
section
variable {c:Cx}{f:Fm}{E:Value→Shared→Prop}{k:Nat}{ρ:Lo}{σ:S}{Q:V→S→Prop}
theorem CV.Hm {l:List V}(ha:RL c σ a l)(hl:l.length≤sizeLine)(q:Q (.tup l) σ):CV c k (.type "tuple") [.val (.ref a)] σ Q:=λA stack s vs E st fr room hd hv=>by
 refine aA.e1 hv λq_ h1=>?_
 refine h1.eV ?_
 refine ak (ha _ st) λys e1 e2=>?_
 refine call_tuple_list e1 (λh' kk=>?_) (by exact ae e2.size hl)
 have Ac:∀b o,s.heap.get? b=some o→(h'.push {cls:=.type "tuple",data:=.seq ys}).get? b=some o:=λb o e=>Heap.get?_push_of_some _ (kk b o e)
 exact sr (tk:=s.toks) st Ac (.tup (vs:=ys.toList) (by exact ae Array.toArray_toList (IsTup.new _ _)) (e2.mono (ed Ac))) q
theorem CV.mI {l:List V}(ha:σ a=some (.list t l))(hl:l.length≤sizeLine)(q:Q (.tup l) σ):CV c k (.type "tuple") [.val (.ref a)] σ Q:=CV.Hm (.own ha) hl q
theorem CV.Hn (t:Nat){l:List V}(hl:l.length≤sizeLine)(q:∀a,σ a=none→Q (.val (.ref a)) (upd σ a (.list t l))):CV c k (.type "list") [.tup l] σ Q:=λA stack s vs E st fr room hd hv=>by
 refine aA.e1 hv λq_ h1=>?_
 refine h1.eT λa vs e1 e2=>?_
 refine nT e1 λo ho hc n dW=>?_
 refine call_list_seq a (.inr rfl) ho hc dW (λh' c' kk hS=>?_) (by refine ae List.size_toArray (ae e2.length ?_);exact hl)
 exact vk (o:=.list t l) (tk:=s.toks) st (none_at_size _) (jg st) kk (f9 _ _ hS (e2.mono (ed kk))) (q _ (st.fresh (none_at_size _)).1)
theorem CV.listI (t:Nat){l:List (Int×V)}(calm:c.calm=true)(dW:σ d=some (.dI td l))(hl:l.length≤sizeLine)(q:∀a,σ a=none→Q (.val (.ref a)) (upd σ a (.list t (l.map λp=>.int p.1)))):
  CV c k (.type "list") [.val (.ref d)] σ Q:=λA stack s vs E st fr room hd hv=>by
 refine aA.e1 hv λq_ h1=>?_
 refine h1.eV ?_
 refine ak ((st.own d _ dW).2) λbv Ho kr=>?_
 refine iz Ho λo es ep e1 e2 e3 e4 Hq=>?_
 refine XA Hq λe5 e6=>?_
 have mJ:s.heap.DictAt c.ik d bv ep:=uA o es e1 e2 e3 e4 e5 e6
 refine kdl_call (kdl_dict (st.lo d _ dW)) (hd.1 calm) mJ (by exact ae kr.length hl) λh' tk aG c' kk hS hI=>?_
 have key:∀{K:List (Int×Value)}{ps:List (Int×V)}{vs:List Value},cN s.heap K ps→vs.length=K.length→(∀(j:Nat) v,vs[j]? =some v→∃k x,K[j]? =some (k,x)∧c.ik.is k v=true)→aA h' vs (ps.map λp=>.int p.1):=λ{K ps}=>by
  induction K generalizing ps with
  |nil=>intro vs hK hl _;cases hK;cases vs with|nil=>exact .nil|cons _ _=>simp at hl
  |cons p r ih=>
   intro vs hK hl hv
   cases hK with
   |@cons k v r' n5 rW a b=>
    cases vs with
    |nil=>simp at hl
    |cons v0 vs=>
     refine .cons ?_ (ih b (by simpa using hl) λj v e=>by simpa using hv (j+1) v (by simpa using e))
     refine eE (hv 0 v0 rfl) λk' x e1 e2=>?_
     simp at e1
     refine XA e1 λHr Hs=>?_
     subst Hr
     subst Hs
     refine XE (Value.isInt_shape (show Value.isInt k v0=true from e2)) λt Ht=>?_
     subst Ht
     exact .int ..
 exact vk (o:=.list t (l.map λp=>.int p.1)) (tk:=tk) st (none_at_size _) (jg st) kk ⟨aG,_,hS,key kr (by exact ae Array.length_toList hI.1) λj v e=>hI.2 j v (by exact aU (Array.getElem?_toList) e)⟩ (q _ (st.fresh (none_at_size _)).1)
theorem CV.Ad (q:Q (.bool true) σ):CV c k (.builtin "isinstance") [.str x,.val (.type "str")] σ Q:=λA stack s vs E st fr room hd hv=>by
 refine aA.e2 hv λq_ q_ h1 h2=>?_
 refine h1.eS λq_=>?_
 refine h2.eV ?_
 exact IsiPair.str_str (ls (tk:=s.toks) st (.bool _) q)
theorem CV.Ae (q:Q (.bool false) σ):CV c k (.builtin "isinstance") [.tup l,.val (.type "str")] σ Q:=λA stack s vs E st fr room hd hv=>by
 refine aA.e2 hv λq_ q_ h1 h2=>?_
 refine h2.eV ?_
 refine h1.eT λq_ q_ e1 e2=>?_
 refine nT e1 λo ho hc n dW=>?_
 exact IsiPair.tuple_str ho hc (ls st (.bool _) q)
theorem CV.Hu (q:Q (.bool false) σ):CV c k (.builtin "isinstance") [.int i,.val (.type "bool")] σ Q:=λA stack s vs E st fr room hd hv=>by
 refine aA.e2 hv λq_ q_ h1 h2=>?_
 refine h1.eI λq_=>?_
 refine h2.eV ?_
 exact IsiPair.int_bool (ls st (.bool _) q)
theorem Hv(a b:Bool):MeetsSeq.EqGives (.bool a) (.bool b) (a==b):=λprog w A E s Q h=>by
 unfold eqBool
 show wpAny _ _ (if (Value.bool a==Value.bool b)=true then _ else _) Q E s
 by_cases qn:(Value.bool a==Value.bool b)=true
 ·refine ae (if_pos qn) ?_
  have e:a=b:=by have:=eq_of_beq qn;injection this
  subst e
  exact wpAny_bind (wpAny_rule (wpAny_pure (by simpa using h)))
 ·refine ae (if_neg qn) ?_
  exact wpAny_bind (eq_bool (wpAny_truthy_bool h))
theorem aA.mem (x:aA h vs rs):v∈vs→∃r∈rs,VR h v r:=
 aA.ind (P:=λvs rs=>v∈vs→∃r∈rs,VR h v r) (λm=>absurd m List.not_mem_nil) (λ{w r vs rs} a _ ih m=>(List.mem_cons.mp m).elim (λe=>⟨r,.head _,e▸a⟩) λm=>ak (ih m) λr a b=>⟨r,.tail _ a,b⟩) x
theorem aA.vL {vs:List Value}{rs:List V}(x:aA h vs rs):(∀v r,r∈rs→VR h v r→e v=e' r)→vs.any e=rs.any e':=
 aA.ind (P:=λvs rs=>(∀v r,r∈rs→VR h v r→e v=e' r)→vs.any e=rs.any e') (λq_=>rfl) (λ{v r vs rs} a _ ih he=>by exact ae List.any_cons (ae List.any_cons (ae (he _ _ (.head _) a) (ae (ih λv r m=>he v r (.tail _ m)) rfl)))) x
noncomputable def oy(x:Str):Value→Bool
 |.str y _=>y.cps.toList==x.cps.toList
 |_=>false
noncomputable def Af(b:Bool):Value→Bool
 |.bool a=>a==b
 |_=>false
theorem vM(x y:Str):(y.cps.toList==x.cps.toList)=decide (y=x):=by
 obtain ⟨a⟩:=x;obtain ⟨b⟩:=y
 by_cases h:b=a
 ·subst h;simp
 ·have:b.toList≠a.toList:=λq=>h (Array.toList_inj.mp q)
  simp[h,this]
section
variable {a:Addr}{t:Nat}{l:List Str}{x:Str}
theorem OV.mK (ha:σ a=some (.list t (l.map .str)))(q:Q (.bool (decide (x∈l))) σ):OV c f E k (bY .In) [.str x,.val (.ref a)] ρ σ Q:=λs vs I h=>by
 refine aA.e2 h λq_ q_ h1 h2=>?_
 refine h1.eS λq_=>?_
 refine h2.eV ?_
 refine c3 (I.st.own a _ ha) λq_ ys n e1 e2=>?_
 refine SeqRoads2.in_list (oy x) (λy hy=>?_) e1 ?_
 ·refine ak (e2.mem (Array.mem_toList_iff.mpr hy)) λr hr eK=>?_
  revert eK;refine eU hr λz q_ eK=>?_
  refine eK.eS λq_=>?_
  exact SeqRoads2.EqGives.str _ _ _ _
 ·have e:ys.any (oy x)=decide (x∈l):=by
   refine aU Array.any_toList (ae (aA.vL (e':=λr=>match r with|.str y=>decide (y=x)|_=>false) e2 (λv r hr hv=>by
    revert hv;refine eU hr λz q_ hv=>?_
    refine hv.eS λq_=>?_;exact vM ..)) ?_)
   refine ae List.any_map ?_
   by_cases h:x∈l
   ·exact ae (decide_eq_true h) (List.any_eq_true.mpr ⟨x,h,decide_eq_true rfl⟩)
   ·exact ae (decide_eq_false h) (List.any_eq_false.mpr λy hy z=>h (of_decide_eq_true z▸hy))
  exact ae e (bh.now I (.bool _) q)
theorem OV.Ag (ha:σ a=some (.list t (l.map .str)))(q:Q (.bool (!decide (x∈l))) σ):OV c f E k (bY .NotIn) [.str x,.val (.ref a)] ρ σ Q:=λs vs I h=>by
 refine aA.e2 h λq_ q_ h1 h2=>?_
 refine h1.eS λq_=>?_
 refine h2.eV ?_
 refine c3 (I.st.own a _ ha) λq_ ys n e1 e2=>?_
 refine SeqRoads2.notIn_list (oy x) (λy hy=>?_) e1 ?_
 ·refine ak (e2.mem (Array.mem_toList_iff.mpr hy)) λr hr eK=>?_
  revert eK;refine eU hr λz q_ eK=>?_
  refine eK.eS λq_=>?_
  exact SeqRoads2.EqGives.str _ _ _ _
 ·have e:ys.any (oy x)=decide (x∈l):=by
   refine aU Array.any_toList (ae (aA.vL (e':=λr=>match r with|.str y=>decide (y=x)|_=>false) e2 (λv r hr hv=>by
    revert hv;refine eU hr λz q_ hv=>?_
    refine hv.eS λq_=>?_;exact vM ..)) ?_)
   refine ae List.any_map ?_
   by_cases h:x∈l
   ·exact ae (decide_eq_true h) (List.any_eq_true.mpr ⟨x,h,decide_eq_true rfl⟩)
   ·exact ae (decide_eq_false h) (List.any_eq_false.mpr λy hy z=>h (of_decide_eq_true z▸hy))
  exact ae e (bh.now I (.bool _) q)
end
theorem OV.Hw {l:List Bool}(ha:σ a=some (.list t (l.map .bool)))(q:Q (.bool (!decide (b∈l))) σ):OV c f E k (bY .NotIn) [.bool b,.val (.ref a)] ρ σ Q:=λs vs I h=>by
 refine aA.e2 h λq_ q_ h1 h2=>?_
 refine h1.eB ?_
 refine h2.eV ?_
 refine c3 (I.st.own a _ ha) λq_ ys n e1 e2=>?_
 refine SeqRoads2.notIn_list (Af b) (λy hy=>?_) e1 ?_
 ·refine ak (e2.mem (Array.mem_toList_iff.mpr hy)) λr hr eK=>?_
  revert eK;refine eU hr λz q_ eK=>?_
  refine eK.eB ?_
  exact Hv _ _
 ·have e:ys.any (Af b)=decide (b∈l):=by
   refine aU Array.any_toList (ae (aA.vL (e':=λr=>match r with|.bool y=>y==b|_=>false) e2 (λv r hr hv=>by
    revert hv;refine eU hr λz q_ hv=>?_
    refine hv.eB ?_;rfl)) ?_)
   refine ae List.any_map ?_
   by_cases h:b∈l
   ·exact ae (decide_eq_true h) (List.any_eq_true.mpr ⟨b,h,beq_self_eq_true b⟩)
   ·exact ae (decide_eq_false h) (List.any_eq_false.mpr λy hy z=>h (eq_of_beq z▸hy))
  exact ae e (bh.now I (.bool _) q)
theorem CV.index {a:Addr}{t:Nat}{l:List Str}{x:Str}{j:Nat}(ha:σ a=some (.list t (l.map .str)))(hj:l[j]? =some x)(sK:∀m y,m<j→l[m]? =some y→y≠x)(hl:l.length≤sizeLine)(q:Q (.int j) σ):
  CV c k (.builtin "list.index") [.val (.ref a),.str x] σ Q:=λA stack s vs E st fr room hd hv=>by
 refine aA.e2 hv λq_ q_ h1 h2=>?_
 refine h1.eV ?_
 refine h2.eS λq_=>?_
 refine c3 (st.own a _ ha) λq_ ys n e1 e2=>?_
 have hz:ys.size=l.length:=by exact ae e2.size (ae (List.length_map ..) rfl)
 have vN:=be hj
 have at_:∀m (hm:m<ys.size),∃y,l[m]? =some y∧oy x ys[m]=decide (y=x):=λm hm=>by
  have fH:m<l.length:=by exact M2 [_,_,_] [] 0x102011100201111000112 rfl hz hm
  refine bx (l[m]) (List.getElem?_eq_getElem fH) ?_
  refine ak (e2.oh (i:=m) (r:=.str l[m]) (by refine ae (List.getElem?_map) (ae (List.getElem?_eq_getElem fH) ?_);rfl)) λv g1 g2=>?_
  have:ys[m]=v:=by rw[Array.getElem?_eq_getElem hm]at g1;exact Option.some.inj g1
  refine ae this ?_;refine g2.eS λq_=>?_;exact vM ..
 refine call_meets F.slot_list_index (bx _ e1 rfl) F.entry_list_index (F.args_list_index_2 _ _) (MeetsSeq.list_index a ys n _ (oy x) (λy hy=>?_) j (by exact M2 [_,_,_] [] 0x102011100201111000113 rfl hz vN) (by rw[sizeLine_eq]at hl;exact M2 [_,_] [] 0x111400008000000000000000012106115001011110000007100110 rfl hl vN) ?_ ?_) ⟨e1,?_⟩
 ·refine ak (e2.mem (Array.mem_toList_iff.mpr hy)) λr hr eK=>?_
  revert eK;refine eU hr λz q_ eK=>?_
  refine eK.eS λq_=>?_
  exact SeqRoads2.EqGives.str _ _ _ _
 ·refine ak (at_ j (by exact M2 [_,_,_] [] 0x102011100201111000113 rfl hz vN)) λy g1 g2=>?_
  rw[hj]at g1;(injection g1 with g1;subst g1)
  refine ae g2 ?_;simp
 ·intro m hm Hx
  refine ak (at_ m hm) λy g1 g2=>?_
  exact ae g2 (decide_eq_false (sK m y Hx g1))
 ·exact ls st (.int ..) q
theorem CV.ord {x:Str}(h1:x.length=1)(q:Q (.int (x.cps.getD 0 0:Nat)) σ):CV c k (.builtin "ord") [.str x] σ Q:=λA stack s vs E st fr room hd hv=>by
 refine aA.e1 hv λq_ h2=>?_
 refine h2.eS λq_=>?_
 exact ord_of_one h1 (ls st (.int ..) q)
end
end
end Mine
end
section
open Classical
namespace Mine
noncomputable section
section
variable {c:Cx}{f:Fm}{E:Value→Shared→Prop}{k:Nat}{ρ:Lo}{σ:S}
theorem Hy{α:Type}{m m':Sem α}{Q:α→Shared→Prop}(e:m=m')(h:wpAny M A m' Q E s):wpAny M A m Q E s:=e▸h
noncomputable abbrev ef:Obj:={cls:=.type "dict",data:=.dict #[]}
structure qo(c:Cx)(C U:Addr)(name:Str):Prop where
 set:findIn c.K (.ref C) "__setattr__"=some (some (.builtin "object.__setattr__"))
 mro:(clsIn c.K C).map (·.mro)=some [.ref C,.ref U,.type "Exception",.type "BaseException",.type "object"]
 ow:takerIn c.K C name=some none
 dict:hasDictIn c.K C=true
open Builtin Builtin.ObjectAttr in
theorem Hz{A:Around}{s:Shared}(so:qo c C U name)(X:c.K.In s.heap)(I:PySem.W.InstAt s.heap x ox C od)
  (h:∀b,wpAny c.M A.in1 (storeInOwnDict (.ref x) (.ref C) (.str name tk) name v b)
   (λfin s'=>match fin with|.done f=>R (.ok f) s'|.again c'=>c'.quiet=true∧codeAny c.M A c' R s') (λe s'=>R (.error e) s') s):
  codeAny c.M A (.call (.builtin "object.__setattr__") ⟨[.ref x,.str name tk,v], []⟩) R s:=by
 have SF:=PySem.F.store_object
 refine ak (Option.map_eq_some_iff.mp so.mro) λcd hc fH=>?_
 have sub:Looks c.M s.heap (isInstance (.ref x) (.type "object")) true:=I.type.andThen (looks_mroIn X (by unfold mroIn;refine ae hc (ae (Option.bind_some ..) (ae fH ?_));rfl))
 refine codeAny_call_builtin SF.slot.plain SF.entry (@check_slot c.M _ _ s "object.__setattr__" "object" "__setattr__" (.ref x) [.str name tk,v] [] _ SF.kind SF.split sub (SF.args (.ref x) (.str name tk) v) ?_)
 refine ak (Option.bind_eq_some_iff.mp so.ow) λattr ha hr=>?_
 have hm:Looks c.M s.heap (mroOf (.ref C)) cd.mro:=(looks_clsIn X hc).andThen .now
 have L3:Looks c.M s.heap (storeTaker? attr) none:=by
  cases attr with
  |none=>cases hr;exact .now
  |some a=>
   refine ak (Option.map_eq_some_iff.mp hr) λb hb n8=>?_
   refine(looks_takesIn X hb).andThen ?_
   cases b<;>first|exact .now|exact kY n8
 refine ae (osa_eq ..) (ae (refuse_eq ..) ?_)
 refine wpAny_bind (wpAny_bind (I.type.here (wpAny_bind (hm.here ?_))))
 refine ae fH (ae (refuseLoop_ref ..) (ae (refuseLoop_ref ..) (ae (PySem.F.store_Exception.passes ..) ?_)))
 refine wpAny_pure (wpAny_bind (I.type.here (wpAny_bind ((looks_findIn X ha).here (wpAny_bind (L3.here ?_))))))
 exact h _
theorem HA{s:Shared}{ox:Obj}(so:qo c C U name)(X:c.K.In s.heap)(I:PySem.W.InstAt s.heap x ox C none)(hd:ox.dict=none)
  (h:((s.heap.push ef).update x λo=>{o with dict:=some s.heap.objs.size}).get? s.heap.objs.size=some ef→
   (((s.heap.push ef).update x λo=>{o with dict:=some s.heap.objs.size}).update s.heap.objs.size (Obj.putName name (PyData.keyHash c.w.params name) (.str name s.toks) v)).get? s.heap.objs.size=some (dictOf [⟨PyData.keyHash c.w.params name,.str name s.toks,v⟩] 1)→
   R (.ok (.ret .none)) {s with heap:=((s.heap.push ef).update x λo=>{o with dict:=some s.heap.objs.size}).update s.heap.objs.size (Obj.putName name (PyData.keyHash c.w.params name) (.str name s.toks) v),toks:=s.toks+1}):
  codeAny c.M A (.call (.builtin "object.__setattr__") ⟨[.ref x,.str name tk,v], []⟩) R s:=by
 refine Hz so X I λb=>?_
 refine ak (any_some so.dict) λcd hc dW=>?_
 obtain ⟨hx,jr,iK, -⟩:=I
 obtain ⟨oc,Hf,qm,sJ⟩:=ox
 dsimp only at jr hd
 subst jr hd
 have bq:=Heap.lt_size hx
 have mL:(s.heap.push ef).get? x=some ⟨.ref C,none,qm,sJ⟩:=Heap.get?_push_of_some _ hx
 have D1:(s.heap.push ef).get? s.heap.objs.size=some ef:=Heap.get?_push_size _ rfl
 have D2:((s.heap.push ef).update x λo=>{o with dict:=some s.heap.objs.size}).get? s.heap.objs.size=some ef:=(Heap.get?_update_other _ _ (Nat.ne_of_lt bq)).trans D1
 refine wpAny_bind (wpAny_pure (wpAny_bind (wpAny_bind (wpAny_loadPart hx (wpAny_bind ((looks_clsIn X hc).here ?_))))))
 refine ae dW ?_
 refine ae (if_neg (by decide)) ?_
 have HB:∀Ah,qm≠.cls Ah:=λAh q=>by subst q;exact cj iK
 show wpAny _ _ (if (!true|| !typeHasDict (.ref C))=true then pure none else _) _ _ _
 refine ae (if_neg (show¬(!true|| !typeHasDict (.ref C))=true from λq=>Bool.noConfusion q)) ?_
 refine Hy (m':=(do
    let d←alloc ef
    update x λo=>{o with dict:=some d}
    dictMade (.ref C) x d:Sem (Option Addr))) (by cases qm<;>first|rfl|exact absurd rfl (HB _)) ?_
 refine wpAny_bind (wpAny_alloc (wpAny_bind (wpAny_update (o:=⟨.ref C,none,qm,sJ⟩) mL (wpAny_pure ?_))))
 refine wpAny_bind (wpAny_pure (wpAny_bind ?_))
 unfold nsSet
 refine wpAny_bind (wpAny_bind (wpAny_askSetting (wpAny_pure (wpAny_bind (wpAny_mkText (wpAny_bind (wpAny_loadPart D2 ?_)))))))
 have c0:(!(#[]:Array DictEntry).any (·.key.isStr name)&&(#[]:Array DictEntry).any (·.refKey))=false:=by simp
 show wpAny _ _ _ _ _ _
 dsimp only
 refine ae (aRefKeyMayBeTheName_at ..) (ae c0 ?_)
 have e1:Obj.putName name (PyData.keyHash c.w.params name) (.str name s.toks) v ef=dictOf ([⟨PyData.keyHash c.w.params name,.str name s.toks,v⟩]) 1:=by
  show Obj.putName name (PyData.keyHash c.w.params name) (.str name s.toks) v (dictOf [] 0)=_
  exact ae (putName_dict ..) rfl
 have e2:(((s.heap.push ef).update x λo=>{o with dict:=some s.heap.objs.size}).update s.heap.objs.size (Obj.putName name (PyData.keyHash c.w.params name) (.str name s.toks) v)).get? s.heap.objs.size=some (dictOf [⟨PyData.keyHash c.w.params name,.str name s.toks,v⟩] 1):=by
  exact ae (Heap.get?_update_self _ D2 (by rw[e1];rfl)) (ae e1 rfl)
 refine wpAny_updatePart D2 ?_
 refine wpAny_bind (wpAny_lookBehind e2 (pastItsLine_dict (by refine ae List.size_toArray (ae sizeLine_eq ?_);simp only[List.length_cons,List.length_nil];exact Nat.succ_pos _)) ?_)
 exact wpAny_pure (h D2 e2)
theorem aS.Ai (t2:Nat){p pos:Pos}
  (h:EV c f E k e ρ σ λr ah=>EV c f E k o ρ ah λov av=>∃x C U t,ov= .val (.ref x)∧av x=some (.exc t C none)∧qo c C U name∧
   ∀d,av d=none→Q .next ρ (upd (upd (upd av d (.bb t2 [] [])) x (.exc t C (some d))) d (.bb t2 [name] [r])))
  (hs:swapsWith e (some (.Attribute o name p)) pos.line f.env=pure false:=by rfl):aS c f E k (.Assign [.Attribute o name p] e pos) ρ σ Q:=λs I=>by
 refine plainObj_wpAny_Assign_Attribute (wpAny_mono (h s I) (λe9 aw ck=>ck.el λr ah aB aP ag cy=>?_) λq_ q_ z=>z) hs
 refine wpAny_mono (cy aw aB) (λfE aO cx=>cx.el λov av aR cg aj mE=>?_) λq_ q_ z=>z
 refine bH mE λx C U t HC=>?_
 refine fZ HC λeo hx so q=>?_
 subst eo;refine cg.eV ?_
 refine c3 (aR.st.own x _ hx) λAj ox vs x1 HD=>?_
 refine iw HD λx2 x3 x4 x5 x6=>?_
 have X:=c.eH.keeps aR.st.base
 have IA:PySem.W.InstAt aO.heap x ox C none:=⟨x1,x2,by unfold notCls;exact ae x4 rfl,by refine ae x3 ?_;trivial⟩
 have nd:aO.heap.get? aO.heap.objs.size=none:=none_at_size _
 have zd:=(aR.st.fresh nd).1
 have oz:x≠aO.heap.objs.size:=Nat.ne_of_lt (Heap.lt_size x1)
 refine set_plain X IA so.set (HA (s:={aO with toks:=aO.toks+1}) so X IA x3 λD D'=>?_)
 refine XA (aR.new (tk:=aO.toks+2) (o:=.bb t2 [] []) nd (λb o e=>Heap.get?_push_of_some ef e) ⟨[],0,Heap.get?_push_size _ rfl,.nil⟩ (jg aR.st)) λct aC=>?_
 have HE:(aO.heap.push ef).get? x=some ox:=Heap.get?_push_of_some _ x1
 refine XA (ct.set (s:={aO with heap:=aO.heap.push ef,toks:=aO.toks+2}) (tk:=aO.toks+2) (o:=.exc t C none) (o':=.exc t C (some aO.heap.objs.size)) ((cC oz).trans hx)
  (h':=(aO.heap.push ef).update x λo=>{o with dict:=some aO.heap.objs.size}) (Heap.SameBut.update ..) ⟨{ox with dict:=some aO.heap.objs.size},vs,Heap.get?_update_self _ HE (Obj.isFreed_of_fields (vs:=vs) x4),x2,rfl,x4,x5,x6⟩) λee aM=>?_
 refine XA (ee.set (s:={aO with heap:=(aO.heap.push ef).update x λo=>{o with dict:=some aO.heap.objs.size},toks:=aO.toks+2}) (tk:=aO.toks+2) (a:=aO.heap.objs.size) (o:=.bb t2 [] []) (o':=.bb t2 [name] [r])
  ((cC oz.symm).trans c5) (Heap.SameBut.update ..) ⟨_,_,D',.cons rfl ((((aP.mono aj.tup).mono aC.tup).mono aM.tup).mono (iA (ee.st.own _ _ ((cC oz.symm).trans c5)).2 (Heap.SameBut.update ..))) .nil⟩) λmC bj=>?_
 exact⟨.next,ρ,_,mC,.next,(((ag.trans aj).trans aC).trans aM).trans bj,q _ zd⟩
end
end
end Mine
end
section
open Classical
namespace Mine
noncomputable section
section
variable {prog:Program}{w:World}{A:Around}{E:Value→Shared→Prop}{h:Heap}{g:Array GenState}{d:Drawn}{t:Nat}{os:OsState}
variable {nm q:Str}{C N:Addr}{bs bm sL:List Value}{fJ:Bool}{sn:List Str}{sub:List Value}{ab:Bool}{fK:Option Bool}{dd:Option Addr}{k0 k1 k2 k3 k5:Option Value}{B ku Ak:String}
theorem HF(F:ExcBaseFacts B ku Ak sL)(T:OwnTail h sL bm){cO:List Value}{oI:Obj}
  (hC:h.get? C=some (excClassObj nm q C N bs bm fJ sn sub ab fK dd k0 k1 k2 k3 k5 ku)) (hn:h.Ns N mN) (hi:mN "__init__"=some (.ref fI))
  (vO:h.get? fI=some oI) (vP:oI.cls= .type "function") (vQ:cO.length≤sizeLine)
  (hq:∀h' e,h.objs.size<e→Heap.MadeExcOf h h' e (.ref C) cO→
   wpAny (model prog w) A (call (.ref fI) (.ref e::cO)) (λr s'=>r= .none∧Q (.done (.ret (.ref e))) s') E ⟨h',g,d,t,os⟩):
  wpAny (model prog w) A (Builtin.«type.__call__» ⟨.ref C::cO, []⟩) Q E ⟨h,g,d,t,os⟩:=by
 repeat (first|with_reducible refine wpAny_loadPart_at hC ?_|with_reducible refine wpAny_madeBy_exc hC ?_|wp_step)
 refine codeAny_call_builtin_code (Code.quiet_builtin _ F.quiet) (wpAny_check_new_subT F T hC ?_)
 refine codeAny_exc_new_subT F T hC ?_ vQ
 show wpAny _ _ _ _ _ _
 have kk:∀b o,h.get? b=some o→((h.push {cls:=.type "tuple",data:=.seq cO.toArray}).push {cls:=.ref C,data:=.fields #[.ref h.objs.size,.none,.none,.none,.bool false,.none]}).get? b=some o:=
  λb o e=>Heap.get?_push_of_some _ (Heap.get?_push_of_some _ e)
 have Al:((h.push {cls:=.type "tuple",data:=.seq cO.toArray}).push
   {cls:=.ref C,data:=.fields #[.ref h.objs.size,.none,.none,.none,.bool false,.none]}).get? (h.objs.size+1)=some
   {cls:=.ref C,data:=.fields #[.ref h.objs.size,.none,.none,.none,.bool false,.none]}:=by heap_get
 have HG:(Value.ref C::bm).contains (.ref C)=true:=by simp
 unfold isInstance
 repeat (first|with_reducible refine wpAny_loadPart_at Al ?_|(with_reducible refine wpAny_isSubtype_exc (kk _ _ hC) ?_;refine ae HG ?_)|wp_step)
 show wpAny _ _ (typeLookup (.ref C) _) _ _ _
 refine wpAny_typeLookup_tail (kk _ _ hC) (hn.keeps kk) (T.keeps kk) F.mroIs F.init.lookup ?_
 refine ae hi ?_
 refine wpAny_holding (wpAny_bind ?_)
 unfold bindSpecial
 refine wpAny_bind (wpAny_typeOf (T:="function") ⟨_,kk _ _ vO,vP⟩ ?_)
 refine ae (if_pos (by decide)) ?_
 refine wpAny_pure (wpAny_bind (wpAny_mono (hq _ (h.objs.size+1) (Nat.lt_succ_self _) ⟨kk,Heap.get?_none_of_le (Nat.le_succ _),h.objs.size,Al,Heap.get?_none_of_le (Nat.le_refl _),?_⟩) (λr s' hr=>?_) λq_ q_ x=>x))
 ·exact Heap.get?_push_of_some _ (Heap.get?_push_at rfl rfl)
 ·obtain ⟨rfl,hQ⟩:=hr
  wp_walk
  exact hQ
theorem HH(F:ExcBaseFacts B ku Ak sL)(T:OwnTail h sL bm){cO:List Value}{oI:Obj}
  (hC:h.get? C=some (excClassObj nm q C N bs bm fJ sn sub ab fK dd k0 k1 k2 k3 k5 ku)) (hn:h.Ns N mN) (hi:mN "__init__"=some (.ref fI))
  (vO:h.get? fI=some oI) (vP:oI.cls= .type "function") (vQ:cO.length≤sizeLine)
  (hq:∀h' e,h.objs.size<e→Heap.MadeExcOf h h' e (.ref C) cO→
   wpAny (model prog w) (A.under (.builtin "type.__call__" ⟨.ref C::cO, []⟩)) (call (.ref fI) (.ref e::cO)) (λr s'=>r= .none∧Q (.ref e) s') E ⟨h',g,d,t,os⟩):
  wpAny (model prog w) A (call (.ref C) cO) Q E ⟨h,g,d,t,os⟩:=by
 have f1:=tc_lookup
 have f2:=tc_bind (.ref C)
 have hT:(⟨h,g,d,t,os⟩:Shared).TypeIs (.ref C) "type":=bx _ hC rfl
 refine wpAny_call (codeAny_of_tree ?_)
 show wpAny _ _ (callAny (.ref C) _) _ _ _
 repeat (any_goals (first|assumption|with_reducible refine wpAny_loadPart_at hC ?_|wp_step))
 refine⟨rfl,?_⟩
 refine codeAny_call_builtin_at (Code.quiet_builtin _ (by decide +kernel)) entry_typeCall (wpAny_check_type_call_sub hC (HF F T hC hn hi vO vP vQ λh' e bq hm=>?_))
 exact hq h' e bq hm
end
structure kw(c:Cx)(C U fI:Addr):Prop where
 cls:∃nm q N fJ sn sub ab fK dd k0 k1 k2 k3 k5,c.K.lookup C=some (excClassObj nm q C N [.ref U] [.ref U,.type "Exception",.type "BaseException",.type "object"] fJ sn sub ab fK dd k0 k1 k2 k3 k5 "Exception.__new__")∧
  ∃oN es n,c.K.lookup N=some oN∧oN.data= .dict es n∧StrKeys es∧nsFind es "__init__"=some (.ref fI)
 up:∃c0 dd cd sl,c.K.lookup U=some ⟨c0,dd,.cls cd,sl⟩∧∃oN es n,c.K.lookup cd.ns=some oN∧oN.data= .dict es n∧StrKeys es∧nsFind es "__init__"=none
 fn:∃o,c.K.lookup fI=some o∧o.cls= .type "function"
section
variable {c:Cx}{k:Nat}{σ:S}{Q:V→S→Prop}
theorem CV.Am (t:Nat){args:List V}(mo:kw c C U fI)(hz:args.length≤10)
  (h:∀x,σ x=none→CV c k (.ref fI) (.val (.ref x)::args) (upd σ x (.exc t C none)) λr af=>r= .none∧Q (.val (.ref x)) af):
  CV c (k+1) (.ref C) args σ Q:=λA stack s vs E st fr room hd hv=>by
 have X:=c.eH.keeps st.base
 refine bH mo.cls λnm q N fJ HI=>?_
 refine bH HI λsn sub ab fK HJ=>?_
 refine bH HJ λdd k0 k1 k2 HK=>?_
 refine eE HK λk3 k5 hC HL=>?_
 refine k7 HL λoN es n hN HM HN HO=>?_
 refine bH mo.up λc0 HP cd sl HR=>?_
 refine XA HR λhU HS=>?_
 refine k7 HS λoU HT n' HU HV HW HY=>?_
 refine ak mo.fn λoI hI HZ=>?_
 obtain ⟨hh,g,dr,tk,os⟩:=s
 refine HH PySem.F.excBase_Exception (.own (X _ _ hU) (ml oU HT n' (X _ _ HU) HV HW (λq_=>rfl)) HY .base) (X _ _ hC) (ml oN es n (X _ _ hN) HM HN (λq_=>rfl)) HO (X _ _ hI) HZ (by refine ae hv.length (ae sizeLine_eq ?_);exact Nat.le_trans (by assumption) (aD rfl)) λh' e bq hm=>?_
 refine bG hm.there λtt m1 m2 m3=>?_
 have kk:=hm.keeps
 have pP:(e==sysModules)=false:=beq_eq_false_iff_ne.mpr λq=>by
  have:=modules_low (c.nolimit.keeps st.base)
  rw[←q]at this
  exact Nat.lt_irrefl _ (Nat.lt_trans this bq)
 have iH:St c (upd σ e (.exc t C none)) h':=st.new hm.new kk (uA _ _ m1 rfl rfl rfl rfl rfl) pP
 have ag:Kp [] σ ⟨hh,g,dr,tk,os⟩ (upd σ e (.exc t C none)) ⟨h',g,dr,tk,os⟩:=Kp.new (s:=⟨hh,g,dr,tk,os⟩) (tk:=tk) hm.new kk
 refine wpAny_mono (h e (st.fresh hm.new).1 _ stack ⟨h',g,dr,tk,os⟩ _ E iH ?_ ?_ ?_ (.cons (.val _) (hv.mono (ed kk)))) (λv s' zz=>zz.el λr af a1 a2 a3 aa=>And.elim (λa4 a5=>?_) aa) λq_ q_ z=>z
 ·have:=fr.kp (X:= []) (s':=⟨h',g,dr,tk,os⟩) ag (λq_ h=>nomatch h) (λq_ h=>nomatch h)
  exact⟨(by have e:Code.envs (.builtin "type.__call__" ⟨.ref C::vs, []⟩)= []:=rfl;unfold Around.under;dsimp only;exact ae e fr.eq),this.dz,this.own,this.dX⟩
 ·refine XA room λr1 r2=>?_
  refine⟨?_,?_⟩
  ·show A.depth+Code.weight _+4*k+10<_
   have:Code.weight (.builtin "type.__call__" ⟨.ref C::vs, []⟩)≤1:=by
    show (_:Nat)≤1
    unfold Code.weight
    have e1:(Code.builtin "type.__call__" ⟨.ref C::vs, []⟩).frames=0:=rfl
    have e2:(Code.builtin "type.__call__" ⟨.ref C::vs, []⟩).isGuard=false:=by show guardIds.contains "type.__call__"=false;decide
    have e3:(Code.builtin "type.__call__" ⟨.ref C::vs, []⟩).isCaller=false:=rfl
    refine ae e1 (ae e2 (ae e3 ?_));simp;split<;>exact aD rfl
   exact M2 [_,_,_] [] 0x3e831a11104152000222111111201103e831a111111024150022111 rfl r1 this
  ·show A.units+ (1+3* (Code.builtin "type.__call__" ⟨.ref C::vs, []⟩).frames)+16*k+300<_
   have e1:(Code.builtin "type.__call__" ⟨.ref C::vs, []⟩).frames=0:=rfl
   exact ae e1 (M1 [_,_] [] 0x26ac4112c3110102501131511120022211126ac4112c3111110210250022111 rfl r2)
 ·exact hd.kp (X:= []) (s':=⟨h',g,dr,tk,os⟩) (λq_ h=>nomatch h) ag
 ·subst a4;refine a2.eN ?_
  exact⟨rfl,_,_,a1,.val _,ag.trans a3,a5⟩
end
end
end Mine
end
section
open Classical
namespace Mine
noncomputable section
section
variable {c:Cx}{f:Fm}{E:Value→Shared→Prop}{k:Nat}{ρ:Lo}{σ:S}{Q:V→S→Prop}
theorem H0{ks:List Int}:∀{vs:List Value},aA h vs (ks.map .int)→ItemsAre c.ik ks vs:=by
 induction ks with
 |nil=>intro vs x;cases x;exact .nil
 |cons k ks ih=>intro vs x;cases x with|cons x y=>exact x.eI λq_=>.cons (intKind_is _ _ _ _) (ih y)
theorem An{ks:List Int}(x:VR h v (.tup (ks.map .int))):∃a,v= .ref a∧IsTupleKey c.ik h ks a:=by
 cases x with
 |@tup a vs _ e1 e2=>
  refine nT e1 λo ho hc n hd=>?_
  exact⟨a,rfl,o,vs.toArray,n,ho,hc,hd,H0 e2⟩
theorem fB.look {K:Type}[DecidableEq K]{x:K}{xs:List (K×Addr×Value)}{ps:List (K×V)}(H:fB h xs ps):(Mine.look ps x=none∧atKey xs x=none)∨∃r p,Mine.look ps x=some r∧atKey xs x=some p∧VR h p.2 r:=by
 induction H with
 |nil=>exact .inl ⟨rfl,rfl⟩
 |@cons k a v r vs rs z b ih=>
  by_cases q:k=x
  ·exact .inr (eY r (a,v) (lr (decide_eq_true q)) (lr (decide_eq_true q)) z)
  ·have q:¬decide (k=x)=true:=λz=>q (of_decide_eq_true z)
   exact Or.elim ih (λo=>.inl ⟨Eq.trans (b:=Mine.look rs x) (gT q) o.1,Eq.trans (b:=atKey vs x) (gT q) o.2⟩) λo=>.inr (eX o λr' v' h1 h2 h3=>eY r' v' (Eq.trans (b:=Mine.look rs x) (gT q) h1) (Eq.trans (b:=atKey vs x) (gT q) h2) h3)
theorem fB.append {K:Type}{x:K}(hv:VR h v r){bv:List (K×Addr×Value)}{ps:List (K×V)}(H:fB h bv ps):fB h (bv++ [(x,a,v)]) (ps++ [(x,r)]):=by
 induction H with
 |nil=>exact .cons hv .nil
 |cons a _ ih=>exact .cons a ih
theorem fB.length {K:Type}{bv:List (K×Addr×Value)}{ps:List (K×V)}(H:fB h bv ps):bv.length=ps.length:=by
 induction H with
 |nil=>rfl
 |cons _ _ ih=>exact congrArg Nat.succ ih
theorem CV.H1 {ks:List Int}(ha:σ a=some (.dT t ps))(q:Q ((look ps ks).getD dv) σ):CV c k (.builtin "dict.get") [.val (.ref a),.tup (ks.map .int),dv] σ Q:=λA stack s vs E st fr room hd hv=>by
 refine aA.e3 hv λq_ q_ q_ h1 h2 h3=>?_
 refine h1.eV ?_
 refine ak (An (c:=c) h2) λka ky hk=>?_
 subst ky
 refine ak ((st.own a _ ha).2) λxs e1 e2=>?_
 refine call_meetsIn F.slot_dict_get e1.typeIs F.entry_dict_get (F.args_dict_get_3 _ _ _) (meetsH_dict_get_default c.tk a ka (st.lo a _ ha) _) ⟨by show A.units+1<cLine;have:=room.2;exact M1 [_,_] [] 0x26ac4111100211126ac4112c311010250022111 rfl this,ks,xs,hk,e1,?_⟩
 refine Or.elim (e2.look (x:=ks)) (λH2=>?_) λH3=>?_
 obtain ⟨e3,e4⟩:=H2
 rotate_left
 obtain ⟨r',p,e3,e4,e5⟩:=H3
 rotate_right
 ·rw[e3]at q;refine ae e4 ?_
  exact⟨dv,σ,st,h3,Kp.tk,q⟩
 ·rw[e3]at q;refine ae e4 ?_
  exact⟨r',σ,st,e5,Kp.tk,q⟩
theorem OU.H4 {a:Addr}{t:Nat}{ps:List (List Int×V)}{ks:List Int}{Q:S→Prop}(ha:σ a=some (.dT t ps))(hn:look ps ks=none)(hl:ps.length≤sizeLine)(q:Q (upd σ a (.dT t (ps++ [(ks,r)])))):
  OU c f E k (λvs=>setItem (vs.getD 0 .none) (vs.getD 1 .none) (vs.getD 2 .none)) [.val (.ref a),.tup (ks.map .int),r] ρ σ Q:=λs vs I h=>by
 refine aA.e3 h λq_ q_ v3 h1 h2 h3=>?_
 refine h1.eV ?_
 refine ak (An (c:=c) h2) λka H5 hk=>?_
 subst H5
 refine ak ((I.st.own a _ ha).2) λxs e1 e2=>?_
 refine wpAny_setItem_heap (knd:=c.tk) (k:=ks) (by show f.B.units+1<cLine;have:=I.room.2;exact M1 [_,_] [] 0x26ac4111100211126ac4112c311010250022111 rfl this) hk e1 (λh' hm hs=>?_) (by exact ae e2.length hl)
 have tk:=iA (I.st.own a _ ha).2 hs
 have e4:atKey xs ks=none:=by
  refine Or.elim (e2.look (x:=ks)) (λH6=>?_) λH7=>?_
  obtain ⟨_,e4⟩:=H6
  rotate_left
  obtain ⟨r',p,e3,_⟩:=H7
  rotate_right
  ·exact e4
  ·rw[hn]at e3;exact aJ e3
 rw[storedH_new e4]at hm
 obtain ⟨aR,aj⟩:=I.set (tk:=s.toks+c.tk.draws ks) ha hs (o':=.dT t (ps++ [(ks,r)])) ⟨_,hm,(e2.mono tk).append (h3.mono tk)⟩
 exact⟨_,aR,aj,q⟩
theorem H8(items:Array Value)(h:items.size≤63):slicePick items none (some 63) none=items:=by
 have e:sliceBounds none (some 63) none items.size=sliceBounds none none none items.size:=by
  have h2:max 0 (min 63 (items.size:Int))=items.size:=(congrArg (max 0) (Int.min_eq_right (Int.ofNat_le.mpr h))).trans (Int.max_eq_right (Int.natCast_nonneg _))
  simp[sliceBounds,h2]
 unfold slicePick
 refine ae e ?_
 exact slicePick_all items
theorem EV.H9 (t:Nat)(h:EV c f E k value ρ σ λr ah=>EV c f E k e ρ ah λb av=>b= .int 63∧∃a l,r= .val (.ref a)∧RL c av a l∧l.length≤63∧∀a',av a'=none→Q (.val (.ref a')) (upd av a' (.list t l)))
  (ht:∀o r,letTemporaryGo value o r=pure ():=by intro _ _;rfl):EV c f E k (.Subscript value (.Slice none (some e) none p) pos) ρ σ Q:=λs I=>by
 refine wpAny_Subscript_list_slice (wpAny_mono (h s I) (λe9 aw ck=>ck.el λr ah aB aP ag cy=>?_) λq_ q_ z=>z) ht
 refine ae (evalPart_none ..) (ae (evalPart_some ..) ?_)
 refine wpAny_pure (wpAny_mono (cy aw aB) (λfE aO cx=>cx.el λb av aR cg aj mE=>?_) λq_ q_ z=>z)
 refine c3 mE λeb a l er vR=>?_
 refine cq vR λrl hl q=>?_
 subst eb;subst er;refine aP.eV ?_;refine cg.eI λq_=>?_
 refine ak (rl _ aR.st) λys e1 e2=>?_
 have hz:=e2.size
 refine rS a ys none (some 63) rfl e1 (by exact ae sizeLine_eq (M2 [_,_] [] 0x1000000711011000101123f2100110 rfl vR.2.1 hz)) .none (.int _ _) ?_
 refine ae (H8 ys (by exact M2 [_,_] [] 0x3f211011000101123f2100110 rfl vR.2.1 hz)) ?_
 have sz:∀(h:Heap) o,(h.push o).objs.size=h.objs.size+1:=λh o=>Heap.size_push ..
 generalize hS:({cls:=.type "slice",data:=.fields #[.none,.int 63 _,.none]}:Obj)=so
 have nx:aO.heap.get? (aO.heap.objs.size+1)=none:=by
  cases q:aO.heap.get? (aO.heap.objs.size+1) with
  |none=>rfl
  |some o=>exact absurd (Heap.lt_size q) (Nat.not_lt.mpr (Nat.le_succ _))
 have kk:∀b o,aO.heap.get? b=some o→((aO.heap.push so).push {cls:=.type "list",data:=.seq ys}).get? b=some o:=λb o e=>Heap.get?_push_of_some _ (Heap.get?_push_of_some _ e)
 have lo:(aO.heap.objs.size+1==sysModules)=false:=by
  exact aU (sz aO.heap so) (jg (c:=c) (σ:=av) (aR.st.ext λb o e=>Heap.get?_push_of_some _ e))
 obtain ⟨ct,aC⟩:=aR.new (tk:=aO.toks) (o:=.list t l) nx kk ⟨ys,0,by refine aU (sz aO.heap so) ?_;exact IsL.new _ _,e2.mono (ed kk)⟩ lo
 exact⟨_,_,ct,.val _,(ag.trans aj).trans aC,q _ (aR.st.fresh nx).1⟩
theorem EV.sliceFrom (t:Nat)(h:EV c f E k value ρ σ λr ah=>EV c f E k e ρ ah λb av=>∃a l n,b= .int (n:Nat)∧r= .val (.ref a)∧RL c av a l∧n≤l.length∧l.length≤sizeLine∧∀a',av a'=none→Q (.val (.ref a')) (upd av a' (.list t (l.drop n))))
  (ht:∀o r,letTemporaryGo value o r=pure ():=by intro _ _;rfl):EV c f E k (.Subscript value (.Slice (some e) none none p) pos) ρ σ Q:=λs I=>by
 refine wpAny_Subscript_list_slice (wpAny_mono (h s I) (λe9 aw dJ=>dJ.el λr ah aB aP ag cy=>?_) λq_ q_ z=>z) ht
 refine ae (evalPart_none ..) (ae (evalPart_some ..) ?_)
 refine wpAny_mono (cy aw aB) (λfE aO eZ=>eZ.el λb av aR cg aj mw=>wpAny_pure ?_) λq_ q_ z=>z
 refine iz mw λa l n eb er rl hn Ao=>?_
 refine XA Ao λhl q=>?_
 subst eb;subst er;refine aP.eV ?_;refine cg.eI λq_=>?_
 refine ak (rl _ aR.st) λys e1 e2=>?_
 have hz:=e2.size
 refine rS a ys (some n) none rfl e1 (by exact M2 [_,_] [] 0x10000007110110001011210000007100110 rfl Ao.1 hz) (.int _ _) .none ?_
 refine ae (slicePick_from ys n (by exact M2 [_,_,_] [] 0x200011020101131000110 rfl hn hz)) ?_
 have sz:∀(h:Heap) o,(h.push o).objs.size=h.objs.size+1:=λh o=>Heap.size_push ..
 generalize hS:({cls:=.type "slice",data:=.fields #[.int n _,.none,.none]}:Obj)=so
 have nx:aO.heap.get? (aO.heap.objs.size+1)=none:=by
  cases q:aO.heap.get? (aO.heap.objs.size+1) with
  |none=>rfl
  |some o=>exact absurd (Heap.lt_size q) (Nat.not_lt.mpr (Nat.le_succ _))
 have kk:∀b o,aO.heap.get? b=some o→((aO.heap.push so).push {cls:=.type "list",data:=.seq (ys.toList.drop n).toArray}).get? b=some o:=λb o e=>Heap.get?_push_of_some _ (Heap.get?_push_of_some _ e)
 have lo:(aO.heap.objs.size+1==sysModules)=false:=by
  exact aU (sz aO.heap so) (jg (c:=c) (σ:=av) (aR.st.ext λb o e=>Heap.get?_push_of_some _ e))
 obtain ⟨ct,aC⟩:=aR.new (tk:=aO.toks) (o:=.list t (l.drop n)) nx kk (f9 _ 0 (by exact aU (sz aO.heap so) (IsL.new _ _)) ((e2.drop n).mono (ed kk))) lo
 exact⟨_,_,ct,.val _,(ag.trans aj).trans aC,q _ (aR.st.fresh nx).1⟩
theorem Ia{α:Type}(g:Nat→Bool)(n:Nat)(hg:∀i,g i=decide (n≤i)):∀(l:List α) (m:Nat),(l.zipIdx m).filterMap (λp=>if g p.2=true then none else some p.1)=l.take (n- m):=by
 intro l
 induction l with
 |nil=>exact λq_=>(List.take_nil).symm
 |cons x l ih=>
  intro m
  refine ae List.zipIdx_cons (ae List.filterMap_cons ?_)
  show (match (if g m=true then none else some x) with|none=>_|some b=>b::_)=_
  by_cases h:n≤m
  ·exact ae (if_pos ((hg m).trans (decide_eq_true h))) (ae (Nat.sub_eq_zero_of_le h) ((ih (m+1)).trans (ae (Nat.sub_eq_zero_of_le (Nat.le_succ_of_le h)) rfl)))
  ·exact ae (if_neg λz=>h (of_decide_eq_true ((hg m).symm.trans z))) (ae (show n- m= (n- (m+1))+1 from (Nat.succ_pred_eq_of_pos (Nat.sub_pos_of_lt (Nat.not_le.mp h))).symm) (congrArg (List.cons x) (ih (m+1))))
theorem Ib{ys:Array Value}(hm:m≤ys.size)(g:Nat→Bool)(hg:∀i:Nat,g i= (decide ((m:Int)≤i)&&decide ((i:Int)< (ys.size:Int))&&((i:Int)- m) % 1==0)):
  (ys.toList.zipIdx.filterMap λ(x,k)=>if g k=true then none else some x).toArray= (ys.toList.take m).toArray:=by
 have key:∀(l:List Value) (j:Nat),j+l.length≤ys.size→((l.zipIdx j).filterMap λ(x,k)=>if g k=true then none else some x)= (l.zipIdx j).filterMap λp=>if decide (m≤p.2)=true then none else some p.1:=λl=>by
  induction l with
  |nil=>intro j _;rfl
  |cons x l ih=>
   intro j hj
   rw[List.length_cons]at hj
   refine ae List.zipIdx_cons (ae List.filterMap_cons (ae List.filterMap_cons (ae (ih (j+1) (by exact M1 [_,_,_] [] 0x2010111002211020111102002110 rfl hj)) ?_)))
   dsimp only
   have:g j=decide (m≤j):=by
    refine ae (hg ..) ?_
    have h1:((j:Int)< (ys.size:Int)):=by exact M1 [_,_,_] [] 0x20600611520111102002110 rfl hj
    by_cases h:m≤j
    ·simp[h,h1]
    ·simp[h]
   exact ae this rfl
 rw[key ys.toList 0 (by simp),Ia (λi=>decide (m≤i)) m (λq_=>rfl)]
 rfl
theorem Ic(n m:Nat)(h:n≤m):sliceBounds (some (n:Int)) none none m= ((n:Int),(m:Int),1):=by
 have h1:¬((n:Int)<0):=by simp
 have h2:max 0 (min (n:Int) (m:Int))=n:=(congrArg (max 0) (Int.min_eq_left (Int.ofNat_le.mpr h))).trans (Int.max_eq_right (Int.natCast_nonneg _))
 simp[sliceBounds,h1,h2]
theorem Ie{s:Shared}{a sl:Addr}{ys:Array Value}{n m:Nat}{tk:Tok}{Q:Unit→Shared→Prop}(hl:IsL s.heap a ys n)(hs:s.heap.IsSliceOf sl (.int (m:Int) tk) .none .none)(hm:m≤ys.size)(hz:ys.size≤sizeLine)
  (hQ:∀h' n',IsL h' a (ys.toList.take m).toArray n'→Heap.SameBut a s.heap h'→Q () {s with heap:=h'}):wpAny c.M A (delItem (.ref a) (.ref sl)) Q E s:=by
 refine bG (id hs) λos sM vS pX=>?_
 have Ap:s.TypeIs (.ref sl) "slice":=⟨os,sM,vS⟩
 have hT:s.TypeIs (.ref a) "list":=bx _ hl rfl
 refine wpAny_delItem_slot hT (by decide) F.slot_list_delitem (wpAny_call_entry F.slot_list_delitem hT F.entry_list_delitem ?_ (F.args_list_delitem_2 _ _))
 show wpAny _ _ (Builtin.List.listSubscript? (.ref sl) >>= _) _ _ s
 refine wpAny_bind ?_
 unfold Builtin.List.listSubscript?
 refine wpAny_bind (wpAny_specialOf Ap slice_no_index ?_)
 simp only[Option.isNone_none,if_true]
 refine wpAny_pure ?_
 show wpAny _ _ (typeOf (.ref sl) >>= _) _ _ s
 refine wpAny_bind (wpAny_typeOf Ap ?_)
 refine ae (if_neg (by decide)) ?_
 refine ae (listSliceParts_eq ..) ?_
 refine wpAny_bind (wpAny_bind (wpAny_field sM pX (x:=.none) rfl (wpAny_bind (wpAny_listPart .none ?_))))
 refine ae (if_neg (show¬((rawPart none==rawInt 0)=true) from Bool.false_ne_true)) ?_
 refine wpAny_bind (wpAny_field sM pX (x:=.int (m:Int) tk) rfl (wpAny_bind (wpAny_listPart (.int _ _) ?_)))
 refine wpAny_bind (wpAny_field sM pX (x:=.none) rfl (wpAny_bind (wpAny_listPart .none (wpAny_pure ?_))))
 refine wpAny_bind (m:=Builtin.List.listItems (.ref a)) ?_
 unfold Builtin.List.listItems
 refine wpAny_bind (wpAny_seqItems hl rfl (wpAny_pure ?_))
 refine wpAny_bind (wpAny_of_eq (sliceIndices_raw (some (m:Int)) none none ys.size (by simp)) ?_)
 refine ae (Ic m ys.size hm) ?_
 refine wpAny_bind (wpAny_rule (wpAny_bind ?_))
 show wpAny _ _ (updateSeq a _) _ _ s
 have fin:∀(F:Array Value→Array Value) (Z:Unit→Shared→Prop),F ys= (ys.toList.take m).toArray→(∀h' n',IsL h' a (ys.toList.take m).toArray n'→Heap.SameBut a s.heap h'→Z () {s with heap:=h'})→wpAny c.M A.in1 (updateSeq a F) Z (λe s'=>E e s') s:=λF Z hF hZ=>by
  refine wpAny_updateSeq hl rfl (hZ _ _ (hF▸IsL.update hl F) (Heap.SameBut.update ..)) hz ?_
  refine ae hF (ae List.size_toArray (ae List.length_take (ae Array.length_toList ?_)));lia
 refine fin _ _ (Ib hm _ λi=>rfl) λh' n' hL bu=>?_
 exact wpAny_bind (wpAny_letGo (wpAny_pure ⟨_,rfl,hQ _ _ hL bu⟩))
end
end
end Mine
end
section
open Classical
namespace Mine
noncomputable section
noncomputable def eg:List Int→List Int→Bool
 | [], []=>false
 | [],_::_=>true
 |_::_, []=>false
 |x::xs,y::ys=>if x=y then eg xs ys else decide (x<y)
theorem Ig(l:List Int):eg l []=false:=by cases l<;>rfl
theorem Ih(l:List Int):eg [] l=decide (0<l.length):=by
 cases l with
 |nil=>exact fb (Nat.lt_irrefl 0)
 |cons=>exact uV (Nat.succ_pos _)
set_option tactic.hygienic true in
theorem Ii(l b:Addr)(items gZ:Array Value)(n n2:Nat)(xs ys:List Int)(hx:items.size=xs.length)(hy:gZ.size=ys.length)
  (ex:∀(j:Nat) (h:j<xs.length),∃t,items[j]? =some (.int xs[j] t)) (ey:∀(j:Nat) (h:j<ys.length),∃t,gZ[j]? =some (.int ys[j] t)) (k:Nat):
  ∀i:Nat,xs.length- i=k→Meets (Builtin.«list.__eq__.loop» ⟨[.ref l,.ref b,rawInt i,rawInt 0], []⟩)
   (λq_ R s=>s.heap.get? l=some {cls:=.type "list",dict:=none,data:=.seq items n,slots:= #[]}∧s.heap.get? b=some {cls:=.type "list",dict:=none,data:=.seq gZ n2,slots:= #[]}∧
    R (.ok (.ret (.bool (if i≤xs.length∧i≤ys.length then eg (xs.drop i) (ys.drop i) else decide (xs.length<ys.length))))) s):=by
 induction k with
 |zero=>
  intro i hk prog w A R s h
  obtain ⟨hp,g,d,tk,os⟩:=s;refine cq h λhl hb h=>?_
  wp_walk using wpAny_loadPart' hl,wpAny_loadPart' hb
  have sN:items[((i:Nat):Int).toNat]? =none:=by simp;exact M3 [_,_,_,_] [] 0x30001103020210110011201121000112 rfl hx hk s2
  have e:(if i≤xs.length∧i≤ys.length then eg (xs.drop i) (ys.drop i) else decide (xs.length<ys.length))=decide (items.size<gZ.size):=by
   refine ae hx (ae hy ?_)
   split
   ·rename_i hh
    refine ae (List.drop_of_length_le (by exact M2 [_,_,_] [] 0x2010110200021011001100112 rfl hk s2:xs.length≤i)) (ae (Ih ..) (ae List.length_drop ?_))
    have:i=xs.length:=by exact Nat.le_antisymm (M1 [_,_] [] 0x10001101000110 rfl hh.1) (M2 [_,_,_] [] 0x2010110200021011001100112 rfl hk s2)
    refine ae this ?_
    by_cases q:xs.length<ys.length
    ·exact ae (decide_eq_true q) (ae (decide_eq_true (by exact M2 [_,_,_] [] 0x2001111100202101101000111 rfl q s2)) rfl)
    ·exact ae (decide_eq_false q) (ae (decide_eq_false (by exact λh=>nf (M3 [_,_,_] [] 0x111111102001111100102021121000110 rfl (Nat.not_lt.mp q) (Nat.sub_add_cancel (M2 [_,_,_] [] 0x102011000201131000110 rfl hh.2 this)) h))) rfl)
   ·rfl
  rw[e]at h
  refine ae sN ?_
  wp_walk using wpAny_loadPart' hl,wpAny_loadPart' hb
  exact h
 |succ k ih=>
  intro i hk prog w A R s h
  obtain ⟨hp,g,d,tk,os⟩:=s;refine cq h λhl hb h=>?_
  wp_walk using wpAny_loadPart' hl,wpAny_loadPart' hb
  have bq:i<xs.length:=Nat.lt_of_sub_eq_succ hk
  obtain ⟨t,e1⟩:=ex i bq
  have sN:items[((i:Nat):Int).toNat]? =some (.int xs[i] t):=by simpa using e1
  refine ae sN ?_
  by_cases mO:i<ys.length
  ·obtain ⟨u,e2⟩:=ey i mO
   have sO:gZ[((i:Nat):Int).toNat]? =some (.int ys[i] u):=by simpa using e2
   have hc:((i:Int)+1)= ((i+1:Nat):Int):=by push_cast;rfl
   refine ae sO ?_
   have hd:(if i≤xs.length∧i≤ys.length then eg (xs.drop i) (ys.drop i) else decide (xs.length<ys.length))=if xs[i]=ys[i] then eg (xs.drop (i+1)) (ys.drop (i+1)) else decide (xs[i]<ys[i]):=by
    refine ae (if_pos ⟨Nat.le_of_lt bq,Nat.le_of_lt mO⟩) (ae (List.drop_eq_getElem_cons bq) (ae (List.drop_eq_getElem_cons mO) ?_))
    rfl
   rw[hd]at h
   refine wpAny_bind (wpAny_eqBool_int ?_)
   by_cases hq:xs[i]=ys[i]
   ·rw[if_pos hq]at h
    refine ae (show (xs[i]==ys[i])=true from by simpa using hq) ?_
    wp_walk
    refine ae hc ?_
    exact⟨plainId_quiet MeetsSeq3.plain_eq_loop _,codeAny_builtin MeetsSeq3.entry_eq_loop (by
     refine ae (Around.under_plainId MeetsSeq3.plain_eq_loop _) ?_
     exact ih (i+1) (by exact Nat.le_antisymm (M3 [_,_,_,_,_] [] 0x104011020111302402112300022011011110200112 rfl hk s2 (Nat.sub_add_cancel (M1 [_,_] [] 0x101110021101000111 rfl bq))) (M3 [_,_,_,_,_] [] 0x300011020401021121114023022011010111002113 rfl hk s2 (Nat.sub_add_cancel (M1 [_,_] [] 0x10001101000111 rfl bq)))) prog w A R _ ⟨hl,hb,by exact ae (if_pos ⟨bq,mO⟩) h⟩)⟩
   ·rw[if_neg hq]at h
    refine ae (show (xs[i]==ys[i])=false from by simpa using hq) ?_
    wp_walk using wpAny_loadPart' hl,wpAny_loadPart' hb
    refine ae sN (ae sO ?_)
    refine wpAny_bind (lt_int ?_)
    exact wpAny_pure h
  ·have sO:gZ[((i:Nat):Int).toNat]? =none:=by simp;exact M2 [_,_,_] [] 0x200011020101101000112 rfl hy (Nat.not_lt.mp mO)
   refine ae sO ?_
   have hd:(if i≤xs.length∧i≤ys.length then eg (xs.drop i) (ys.drop i) else decide (xs.length<ys.length))=decide (items.size<gZ.size):=by
    refine ae hx (ae hy ?_)
    split
    ·exact ae (List.drop_of_length_le (by exact M1 [_,_] [] 0x10001101000110 rfl (Nat.not_lt.mp mO):ys.length≤i)) (ae (Ig ..) (ae (decide_eq_false (by exact λh=>nf (M3 [_,_,_] [] 0x11111210201011100201101000111 rfl bq (Nat.not_lt.mp mO) h))) rfl))
    ·rfl
   rw[hd]at h
   wp_walk using wpAny_loadPart' hl,wpAny_loadPart' hb
   exact h
theorem Ij(l b:Addr)(items gZ:Array Value)(n n2:Nat)(xs ys:List Int)(hx:items.size=xs.length)(hy:gZ.size=ys.length)
  (ex:∀(j:Nat) (h:j<xs.length),∃t,items[j]? =some (.int xs[j] t)) (ey:∀(j:Nat) (h:j<ys.length),∃t,gZ[j]? =some (.int ys[j] t)):
  Meets (Builtin.«list.__lt__» ⟨[.ref l,.ref b], []⟩)
   (λq_ R s=>s.heap.get? l=some {cls:=.type "list",dict:=none,data:=.seq items n,slots:= #[]}∧s.heap.get? b=some {cls:=.type "list",dict:=none,data:=.seq gZ n2,slots:= #[]}∧
    R (.ok (.ret (.bool (eg xs ys)))) s):=by
 intro prog w A R s h
 obtain ⟨hp,g,d,tk,os⟩:=s;refine cq h λhl hb h=>?_
 have f3:=AutoSeq1.sub_list_list
 wp_walk using wpAny_loadPart' hl,wpAny_loadPart' hb
 exact⟨plainId_quiet MeetsSeq3.plain_eq_loop _,codeAny_builtin MeetsSeq3.entry_eq_loop (by
  refine ae (Around.under_plainId MeetsSeq3.plain_eq_loop _) ?_
  exact Ii l b items gZ n n2 xs ys hx hy ex ey _ 0 rfl prog w A R _ ⟨hl,hb,by simpa using h⟩)⟩
section
variable {c:Cx}{f:Fm}{E:Value→Shared→Prop}{k:Nat}{ρ:Lo}{σ:S}{Q:V→S→Prop}
theorem aA.ints {vs:Array Value}{xs:List Int}(x:aA h vs.toList (xs.map .int)):vs.size=xs.length∧∀(j:Nat) (hj:j<xs.length),∃t,vs[j]? =some (.int xs[j] t):=
 ⟨by exact ae x.size (ae (List.length_map ..) rfl),λj hj=>by
  refine ak (x.oh (i:=j) (r:=.int xs[j]) (by refine ae (List.getElem?_map) (ae (List.getElem?_eq_getElem hj) ?_);rfl)) λv e1 e2=>?_
  cases e2
  exact⟨_,e1⟩⟩
theorem OV.eg {xs ys:List Int}(ha:σ a=some (.list ta (xs.map .int)))(hb:σ b=some (.list tb (ys.map .int)))(q:Q (.bool (Mine.eg xs ys)) σ):OV c f E k (bY .Lt) [.val (.ref a),.val (.ref b)] ρ σ Q:=λs vs I h=>by
 refine aA.e2 h λq_ q_ h1 h2=>?_
 refine h1.eV ?_
 refine h2.eV ?_
 refine c3 (I.st.own a _ ha) λq_ vs n e1 e2=>?_
 refine c3 (I.st.own b _ hb) λq_ ws m e3 e4=>?_
 refine XA e2.ints λz1 z2=>?_
 refine XA e4.ints λz3 z4=>?_
 exact richCompare_meets_room (op:=.Lt) (bx _ e1 rfl) (bx _ e3 rfl) F.slot_list_lt F.entry_list_lt (F.args_list_lt_2 _ _) (Ij a b vs ws n m xs ys z1 z3 z2 z4)
  ⟨e1,e3,show Value.bool (Mine.eg xs ys)≠Value.notImplemented∧bh c f k ρ σ s Q (.bool (Mine.eg xs ys)) s from ⟨(λx=>nomatch x),bh.now I (.bool _) q⟩⟩ (by have:=I.room.2;exact M1 [_,_] [] 0x26ac410011126ac4112c311010250022111 rfl this)
theorem OV.Aq (ha:σ a=some (.list ta l))(hb:σ b=some (.list tb []))(q:Q (.bool (decide (l= []))) σ):OV c f E k (bY .Eq) [.val (.ref a),.val (.ref b)] ρ σ Q:=λs vs I h=>by
 refine aA.e2 h λq_ q_ h1 h2=>?_
 refine h1.eV ?_
 refine h2.eV ?_
 refine c3 (I.st.own a _ ha) λq_ vs n e1 e2=>?_
 refine c3 (I.st.own b _ hb) λq_ ws m e3 e4=>?_
 have z1:=e2.size
 have z2:=e4.size
 have hu:f.B.units<cLine:=by have:=I.room.2;exact M1 [_,_] [] 0x26ac410011126ac4112c311010250022111 rfl this
 cases l with
 |nil=>
  rw[decide_eq_true rfl]at q
  refine PySem.P.eq_list (e:=λq_=>true) e1 e3 (by exact ae z1 (ae z2 rfl)) (λj h1=>by rw[z1]at h1;simp at h1) hu ?_
  have:(List.range vs.size).all (λq_=>true)=true:=by simp
  exact ae this (bh.now I (.bool _) q)
 |cons r l=>
  rw[decide_eq_false (by simp)]at q
  exact PySem.P.eq_list_lengths e1 e3 (by refine ae z1 (ae z2 ?_);simp) hu (bh.now I (.bool _) q)
theorem aS.Ik {x:Str}{p pos:Pos}{e:Expr}{i:Nat}{a:Addr}{Q:Fl→Lo→S→Prop}(hi:Ix f.N x i)(hr:ρ[i]? =some (some (.val (.ref a))))
  (h:EV c f E k e ρ σ λr ah=>∃b ta tb l m,r= .val (.ref b)∧ah a=some (.list ta l)∧ah b=some (.list tb m)∧l.length+m.length≤1000∧Q .next (ρ.set i (some (.val (.ref a)))) (upd ah a (.list ta (l++m))))
  (hk:f.env.kindOf x=some .local∨f.inner=false:=by exact .inr rfl):aS c f E k (.AugAssign (.Name x p) .Add e pos) ρ σ Q:=λs I=>by
 refine ak I.loc λm n hl=>?_
 refine ak (hl i x _ hi.get hr) λv h2 h1=>?_
 refine wpAny_AugAssign_Name ?_
 have go:wpAny c.M f.B (eval e f.env) (λv' aO=>wpAny c.M f.B (inplaceOp .Add v v') (λr jm=>wpAny c.M f.B (storeName f.env x r) (λq_=>dA c f k σ s Q .next) E jm) E aO) E s:=by
  refine wpAny_mono (h s I) (λv' aO ck=>ck.el λr ah aB aP ag iE=>?_) λq_ q_ z=>z
  refine bH iE λb ta tb l Il=>?_
  refine nU Il λm er ha hb ch q=>?_
  subst er;refine aP.eV ?_;refine h2.eV ?_
  refine c3 (aB.st.own a _ ha) λq_ vs n1 e1 e2=>?_
  refine c3 (aB.st.own b _ hb) λq_ ws n2 e3 e4=>?_
  have z1:=e2.size
  have z2:=e4.size
  have hT:aO.TypeIs (.ref a) "list":=bx _ e1 rfl
  have Im:aO.TypeIs (.ref b) "list":=bx _ e3 rfl
  have hs:Heap.SameBut a aO.heap (aO.heap.update a (Obj.mapSeq λx=>x++ws)):=Heap.SameBut.update ..
  have tk:=iA (aB.st.own a _ ha).2 hs
  obtain ⟨aR,aj⟩:=aB.set (tk:=aO.toks) ha hs (o':=.list ta (l++m)) (f9 _ _ (IsL.update e1 _) (by exact ae Array.toList_append ((e2.mono tk).append (e4.mono tk))))
  have fin:wpAny c.M f.B (call (.builtin "list.__iadd__") [.ref a,.ref b]) (λr jm=>wpAny c.M f.B (storeName f.env x r) (λq_=>dA c f k σ s Q .next) E jm) E aO:=by
   refine call_meets F.slot_list_iadd hT F.entry_list_iadd (F.args_list_iadd_2 _ _) (AutoSeq1.list___iadd___list_list_0 a vs n1 b ws n2 ?_ (by exact ae sizeLine_eq (M2 [_,_,_] [] 0x1000000712011000201123e83110002110 rfl ch z1)) (by exact ae sizeLine_eq (M3 [_,_,_,_] [] 0x111100000071230202110103011200201123e83110002110 rfl ch z1 z2))) ⟨e1,e3,?_⟩
   ·have:Builtin.List.listTooLong (vs.size+ws.size)=false:=by
     unfold Builtin.List.listTooLong
     rw[decide_eq_false]
     exact ae sizeLine_eq (λh=>nf (M4 [_,_,_,_] [] 0x11111fffc196030202100000071111103011200201123e83110002110 rfl ch z1 z2 h))
    refine ae this (ae (Bool.and_false ..) ?_);exact Bool.false_ne_true
   ·exact jZ (s:={aO with heap:=aO.heap.update a (Obj.mapSeq λx=>x++ws)}) aR hi.get hk (.val _) λdy tk a b=>⟨.next,_,_,a,.next,(ag.trans aj).trans b,q⟩
  unfold inplaceOp
  refine wpAny_holding ?_
  have Io:fillsInplaceSlot (.type "list") "add" (Operator.Add==.Add)=pure false:=by
   unfold fillsInplaceSlot
   show (typeLookup (.type "list") (dunderI "add") >>= λfi=>pure (fi.isSome&& !isSeqSlot fi))=pure false
   exact ae F.slot_list_iadd.lookup rfl
  refine wpAny_bind (wpAny_typeOf hT (wpAny_bind (wpAny_of_eq Io ?_)))
  show wpAny _ _ (if false=true then _ else _) _ _ _
  refine ae (if_neg Bool.false_ne_true) ?_
  refine wpAny_bind (wpAny_binaryOp1_none (nm:="add") hT Im noFill_list_add ?_)
  refine wpAny_bind (wpAny_of_eq (PyProof.Rows.seqSlot_of F.slot_list_iadd.lookup (by decide +kernel)) ?_)
  exact wpAny_bind (wpAny_rule fin)
 refine Or.elim h1 (λIp=>?_) λIq=>?_
 obtain ⟨h0,h1⟩:=Ip
 rotate_left
 obtain ⟨h0,a,h1,h3⟩:=Iq
 rotate_right
 ·exact wpAny_loadName_local I.ok.kind h0 n h1 go
 ·exact wpAny_loadName_cell I.ok.kind h0 h1 h3 go
theorem aS.Ir {value e:Expr}{p p2 pos:Pos}{Q:Fl→Lo→S→Prop}(h:EV c f E k value ρ σ λr ah=>EV c f E k e ρ ah λb av=>∃a t l n,b= .int (n:Nat)∧r= .val (.ref a)∧av a=some (.list t l)∧n≤l.length∧l.length≤sizeLine∧Q .next ρ (upd av a (.list t (l.take n)))):
  aS c f E k (.Delete [.Subscript value (.Slice (some e) none none p) p2] pos) ρ σ Q:=λs I=>by
 refine wpAny_Delete (wpAny_deleteEach_cons (wpAny_delete_Subscript (wpAny_mono (h s I) (λe9 aw cx=>cx.el λr ah aB aP ag cy=>?_) λq_ q_ z=>z)))
 refine wpAny_Slice ?_
 refine ae (evalPart_none ..) (ae (evalPart_some ..) ?_)
 refine wpAny_mono (cy aw aB) (λfE aO dJ=>dJ.el λb av aR cg aj mB=>wpAny_pure (wpAny_pure ?_)) λq_ q_ z=>z
 refine uz mB λa t l n eb er ha hn hl q=>?_
 subst eb;subst er;refine aP.eV ?_;refine cg.eI λq_=>?_
 refine c3 (aR.st.own a _ ha) λq_ ys m e1 e2=>?_
 have hz:=e2.size
 generalize hS:({cls:=.type "slice",data:=.fields #[.int n _,.none,.none]}:Obj)=so
 have kk:∀b o,aO.heap.get? b=some o→(aO.heap.push so).get? b=some o:=λb o e=>Heap.get?_push_of_some _ e
 obtain ⟨ct,aC⟩:=aR.ext (tk:=aO.toks) kk
 refine Ie (s:={aO with heap:=aO.heap.push so}) (kk _ _ e1) (by exact aU hS (Heap.IsSliceOf.new ..)) (by exact ae hz hn) (by exact ae hz hl) λh' n' hL hs=>?_
 have tk:=iA (ct.st.own a _ ha).2 hs
 obtain ⟨ee,aM⟩:=ct.set (s:={aO with heap:=aO.heap.push so}) (tk:=aO.toks) ha hs (o':=.list t (l.take n)) ⟨_,_,hL,(((e2.mono (ed kk)).mono tk).take n)⟩
 exact wpAny_deleteEach_nil ⟨.next,ρ,_,ee,.next,((ag.trans aj).trans aC).trans aM,q⟩
end
end
end Mine
end
section
open Classical
namespace Mine
noncomputable section
noncomputable def Br(b:Bool)(A B:Prop):Prop:=(b=true→A)∧(b=false→B)
theorem Br.dec {p:Prop}[Decidable p]{A B:Prop}(h1:p→A)(h2:¬p→B):Br (decide p) A B:=⟨λh=>h1 (of_decide_eq_true h),λh=>h2 (of_decide_eq_false h)⟩
theorem Br.tt {A B:Prop}(h:A):Br true A B:=⟨λq_=>h,λq=>by exact dG q⟩
theorem Br.ff {A B:Prop}(h:B):Br false A B:=⟨λq=>(by exact cj q),λq_=>h⟩
section
variable {c:Cx}{f:Fm}{E:Value→Shared→Prop}{k:Nat}{ρ:Lo}{σ:S}
theorem aS.qp (h:ET c f E k e ρ σ λb af=>Br b (EX c f E k lj ρ af Q) (EX c f E k ll ρ af Q)):aS c f E k (.If e lj ll pos) ρ σ Q:=
 aS.E6 (h.mono λb af x=>by cases b;exact x.2 rfl;exact x.1 rfl)
theorem ET.Ar (h:ET c f E k x ρ σ λb af=>Br b (ET c f E k (.BoolOp .And r pos) ρ af Q) (Q false af)):ET c f E k (.BoolOp .And (x::r) pos) ρ σ Q:=
 ET.and (h.mono λb af x=>by cases b;exact x.2 rfl;exact x.1 rfl)
theorem ET.As (h:ET c f E k x ρ σ λb af=>Br b (Q true af) (ET c f E k (.BoolOp .Or r pos) ρ af Q)):ET c f E k (.BoolOp .Or (x::r) pos) ρ σ Q:=
 ET.or (h.mono λb af x=>by cases b;exact x.2 rfl;exact x.1 rfl)
theorem EV.qp (h:ET c f E k t ρ σ λr af=>Br r (EV c f E k b ρ af Q) (EV c f E k o ρ af Q)):EV c f E k (.IfExp t b o pos) ρ σ Q:=
 EV.Fz (h.mono λb af x=>by cases b;exact x.2 rfl;exact x.1 rfl)
theorem EV.Au (h:EV c f E k mD ρ σ λr ah=>∃b,r= .bool b∧Br b (EV c f E k (.BoolOp .And (kq::cO) pos) ρ ah Q) (Q (.bool false) ah)):
  EV c f E k (.BoolOp .And (mD::kq::cO) pos) ρ σ Q:=EV.band (h.mono λr af z=>ak z λb e x=>⟨b,e,by cases b;exact x.2 rfl;exact x.1 rfl⟩)
theorem EV.Iu (h:EV c f E k mD ρ σ λr ah=>∃b,r= .bool b∧Br b (Q (.bool true) ah) (EV c f E k (.BoolOp .Or (kq::cO) pos) ρ ah Q)):
  EV c f E k (.BoolOp .Or (mD::kq::cO) pos) ρ σ Q:=EV.bor (h.mono λr af z=>ak z λb e x=>⟨b,e,by cases b;exact x.2 rfl;exact x.1 rfl⟩)
noncomputable def js(J:Lo→S→Prop)(Q:Fl→Lo→S→Prop):Fl→Lo→S→Prop
 |.next=>J
 |.cont=>J
 |.brk=>Q .next
 |.ret r=>Q (.ret r)
theorem aS.Iv (J:Nat→Lo→S→Prop)(h0:J n ρ σ)
  (step:∀E n ρ σ,J n ρ σ→ET c f E k vm ρ σ λb ah=>Br b (EX c f E k body ρ ah (js (λρ' af=>∃m,m<n∧J m ρ' af) Q)) (Q .next ρ ah)):aS c f E k (.While vm body [] pos) ρ σ Q:=
 aS.GB J h0 λE n ρ σ j=>(step E n ρ σ j).mono λb af x=>by
  cases b
  ·exact x.2 rfl
  ·exact(x.1 rfl).mono λfl ρ' aL y=>by cases fl<;>exact y
theorem aS.Iw (hi:Ix f.N x ix)
  (h0:EV c f E k iter ρ σ λr ah=>∃(l:List V) (ok:S→Prop) (J:Nat→Lo→S→Prop),bI c ah r l ok∧J 0 ρ ah∧(∀i ρ σ,J i ρ σ→ok σ)∧
   (∀E i r ρ σ,l[i]? =some r→J i ρ σ→EX c f E k body (ρ.set ix (some r)) σ (js (J (i+1)) Q))∧(∀ρ σ,J l.length ρ σ→Q .next ρ σ))
  (hs:∀x,foldedSetIterable iter f.env x=pure x:=by intro _;rfl) (hk:f.env.kindOf x=some .local∨f.inner=false:=by exact .inr rfl):aS c f E k (.For (.Name x p) iter body [] pos) ρ σ Q:=
 aS.GC hi (h0.mono λr ah z=>iz z λl ok J w j cG step gj=>jR l ok J w j cG (λE i r ρ σ a b=>(step E i r ρ σ a b).mono λfl ρ' af y=>by cases fl<;>exact y) gj) hs hk
end
end
end Mine
end
section
open Classical
namespace Mine
noncomputable section
section
variable {M:Model}{A:Around}{E:Value→Shared→Prop}{env:Env}
variable {nm q:Str}{C N:Addr}{bs bm:List Value}{fJ:Bool}{sn:List Str}{sub:List Value}{ab:Bool}{fK:Option Bool}{dd:Option Addr}{k0 k1 k2 k3 k5:Option Value}{ku:String}
noncomputable def sP(h:Heap)(C:Addr)(bm:List Value):Prop:=∃nm q N bs fJ sn sub ab fK dd k0 k1 k2 k3 k5 ku,h.get? C=some (excClassObj nm q C N bs bm fJ sn sub ab fK dd k0 k1 k2 k3 k5 ku)
theorem Iy(hh:A.handled=none)
  (h:wpAny M A x (λv aw=>∃e C bm Av vs sl,v= .ref e∧bm.contains (.type "BaseException")=true∧sP aw.heap C bm∧
   aw.heap.get? e=some {cls:=.ref C,dict:=Av,data:=.fields vs,slots:=sl}∧vs[1]? =some .none∧E (.ref e) aw) E s):
  wpAny M A (raiseStmt env (some x) none) Q E s:=by
 unfold raiseStmt
 refine wpAny_bind (wpAny_mono h (λv aw aP=>?_) λq_ q_ x=>x)
 refine bH aP λe C bm Av Iz=>?_
 refine nW Iz λvs sl IB pV IC he ID=>?_
 refine XA ID λh1 hE=>?_
 subst IB
 refine bH IC λnm q N bs IE=>?_
 refine bH IE λfJ sn sub ab IF=>?_
 refine bH IF λfK dd k0 k1 IG=>?_
 refine bH IG λk2 k3 k5 ku hC=>?_
 have vU:(Value.ref C::bm).contains (.type "BaseException")=true:=by exact ae List.contains_cons (ae pV (ae (Bool.or_true ..) rfl))
 obtain ⟨hp,g,d,tk,os⟩:=aw
 repeat (first|with_reducible refine wpAny_loadPart_at he ?_|with_reducible refine wpAny_loadPart_at hC ?_|(with_reducible refine wpAny_isSubtype_exc hC ?_;refine ae vU ?_)|wp_step)
 refine ae h1 ?_
 refine wpAny_pure ?_
 refine ae (if_neg (by decide)) ?_
 exact wpAny_pure (wpAny_raiseNew_none hh hE)
theorem IH{s:Shared}{bm vV:List Value}{oe:Obj}(hC:sP s.heap C bm)(hD:sP s.heap D vV)(pV:vV.contains (.type "BaseException")=true)
  (he:s.heap.get? e=some oe) (jr:oe.cls= .ref C) (h:Q ((Value.ref C::bm).contains (.ref D)) s):wpAny M A (excMatches (.ref e) (.ref D)) Q E s:=by
 refine bH hC λnm q N bs IJ=>?_
 refine bH IJ λfJ sn sub ab IK=>?_
 refine bH IK λfK dd k0 k1 IL=>?_
 refine bH IL λk2 k3 k5 ku hC=>?_
 refine bH hD λmQ q' N' Vz IM=>?_
 refine bH IM λVA VB VC VD IN=>?_
 refine bH IN λVE HP VF VG IP=>?_
 refine bH IP λVH VI VJ VK hD=>?_
 have vU:(Value.ref D::vV).contains (.type "BaseException")=true:=by exact ae List.contains_cons (ae pV (ae (Bool.or_true ..) rfl))
 obtain ⟨hp,g,d,tk,os⟩:=s
 obtain ⟨oc,od,VL,sJ⟩:=oe
 dsimp only at jr
 subst jr
 unfold excMatches
 have zl:isSubtype (.type "type") (.type "tuple")=pure false:=by refine ae (isSubtype_type ..) ?_;kernel_rfl
 repeat (first|with_reducible refine wpAny_loadPart_at he ?_|with_reducible refine wpAny_loadPart_at hC ?_|with_reducible refine wpAny_loadPart_at hD ?_|(with_reducible refine wpAny_isSubtype_exc hD ?_;refine ae vU ?_)|with_reducible refine wpAny_isSubtype_exc hC ?_|wp_step)
 generalize (Value.ref C::bm).contains (Value.ref D)=b at h ⊢
 cases b<;> (wp_walk;exact h)
end
noncomputable def mR(σ:S)(x:Addr):S:=λb=>if b=x then none else σ b
theorem Aw:mR σ x x=none:=by simp[mR]
theorem qq(h:b≠x):mR σ x b=σ b:=by simp[mR,h]
theorem Ax:Sub (mR σ x) σ:=λa o e=>by
 by_cases q:a=x
 ·subst q;rw[Aw]at e;exact aJ e
 ·rwa [qq q]at e
section
variable {c:Cx}{f:Fm}{k:Nat}{ρ:Lo}{σ:S}{Q:Fl→Lo→S→Prop}{QX:Addr→Addr→S→Prop}
theorem Ay:([.ref U,.type "Exception",.type "BaseException",.type "object"]:List Value).contains (.type "BaseException")=true:=by
 rw[List.contains_iff_mem];exact .tail _ (.tail _ (.head _))
theorem kw.vW (xo:kw c C U fI)(st:St c σ h):sP h C [.ref U,.type "Exception",.type "BaseException",.type "object"]:=by
 refine bH xo.cls λnm q N fJ IQ=>?_
 refine bH IQ λsn sub ab fK IS=>?_
 refine bH IS λdd k0 k1 k2 IT=>?_
 refine eE IT λk3 k5 hC q_=>?_
 exact⟨nm,q,N,_,fJ,sn,sub,ab,fK,dd,k0,k1,k2,k3,k5,_,c.eH.keeps st.base _ _ hC⟩
theorem cD.raise (calm:c.calm=true)(h:∀E,EV c f E k e ρ σ λr ah=>∃x C d t U fI,r= .val (.ref x)∧ah x=some (.exc t C (some d))∧kw c C U fI∧QX C d (mR ah x)):
  cD c f k (.Raise (some e) none pos) ρ σ Q QX:=λs E I hE=>by
 refine ae (arm_exec_Raise ..) ?_
 refine wpAny_bind (wpAny_standAt (Iy (I.hd.1 calm) ?_))
 refine wpAny_bind ?_
 refine wpAny_mono (h E s I) (λv aw ck=>ck.el λr ah aB aP ag iE=>?_) λq_ q_ z=>z
 refine bH iE λx C d t IU=>?_
 refine uv IU λU fI er hx xo q=>?_
 subst er;refine aP.eV ?_
 refine c3 (aB.st.own x _ hx) λAj ob vs x1 IV=>?_
 refine iw IV λx2 x3 x4 x5 x6=>?_
 have aR:=aB.sub (Ax (x:=x))
 have aj:=ag.sub (Ax (x:=x))
 have he:aw.heap.get? x=some {cls:=.ref C,dict:=some d,data:=.fields vs,slots:=ob.slots}:=by
  refine ae x1 ?_;obtain ⟨a1,a2,a3,a4⟩:=ob;dsimp only at x2 x3 x4;subst x2 x3 x4;rfl
 have fc:2<vs.size:=(Array.getElem?_eq_some_iff.mp x6).1
 refine wpAny_bind (wpAny_standAt (wpAny_pure ?_))
 refine⟨x,C,_,_,vs,_,rfl,Ay,xo.vW aB.st,he,x5,hE _ _ (rR x C d none _ rfl (.inl rfl) ⟨⟨aR.st,aR.cr.dz,aR.cr.own,aR.cr.dX,aj,aR.ex⟩,⟨Aw,Aj,λo e z=>?_⟩,_,vs,he,rfl,rfl,rfl,x6,fc,x5⟩ q)⟩
 by_cases hm:x∈f.X
 ·have:=(aB.own x (Fm.iB hm)).1
  rw[hx]at this;exact kY this
 ·have:=(ag.keep x o e z hm).1
  rw[hx]at this;exact kY this
theorem bE.nil (q:Q .next ρ σ):bE c f k [] ρ σ Q QX:=EX.r λq_=>EX.nil q
theorem bE.cons {st:Stmt}{ss:List Stmt}(h:cD c f k st ρ σ (λfl ρ' af=>match fl with|.next=>bE c f k ss ρ' af Q QX|fl=>Q fl ρ' af) QX):bE c f k (st::ss) ρ σ Q QX:=λs E I hE=>by
 refine wpAny_execs_cons (wpAny_mono (h s E I hE) (λfl aw cx=>cx.el λr ρ' af I' h' k' q'=>?_) λq_ q_ z=>z)
 cases h' with
 |next=>exact wpAny_mono (q' aw E I' λv s' x=>hE v s' (x.trans k' I'.ex)) (λq_ q_ x=>x.trans k') λq_ q_ z=>z
 |brk=>exact⟨_,_,_,I',.brk,k',q'⟩
 |cont=>exact⟨_,_,_,I',.cont,k',q'⟩
 |ret h=>exact⟨_,_,_,I',.ret h,k',q'⟩
theorem cD.qp (h:∀E,ET c f E k e ρ σ λb af=>Br b (bE c f k lj ρ af Q QX) (bE c f k ll ρ af Q QX)):cD c f k (.If e lj ll pos) ρ σ Q QX:=λs E I hE=>by
 refine wpAny_If (wpAny_mono (h E s I) (λb aw dJ=>dJ.el λaf I' k' q'=>?_) λq_ q_ z=>z)
 cases b
 ·exact wpAny_mono (q'.2 rfl aw E I' λv s' x=>hE v s' (x.trans k' I'.ex)) (λq_ q_ x=>x.trans k') λq_ q_ z=>z
 ·exact wpAny_mono (q'.1 rfl aw E I' λv s' x=>hE v s' (x.trans k' I'.ex)) (λq_ q_ x=>x.trans k') λq_ q_ z=>z
end
end
end Mine
end
section
open Classical
namespace Mine
noncomputable section
section
variable {c:Cx}{f:Fm}{k:Nat}{ρ:Lo}{σ:S}{QX:Addr→Addr→S→Prop}
noncomputable def cP(c:Cx)(k:Nat)(fv:Value)(args:List V)(σ:S)(Q:V→S→Prop)(QX:Addr→Addr→S→Prop):Prop:=
 ∀A stack s vs E,St c σ s.heap→lh c A stack σ s.heap→n6 A k→Hd c A σ s.heap→aA s.heap vs args→(∀v s',XP c stack [] σ s QX v s'→E v s')→wpAny c.M A (call fv vs) (iG c σ s Q) E s
theorem mx.cv (x:mx c k fv args σ Q QX):cP c k fv args σ Q QX:=λA st s vs E a b d e g hE=>
 wpAny_call (x A st s vs _ a b d e g (λq_ q_ z=>z) hE)
theorem CV.x (x:CV c k fv args σ Q):cP c k fv args σ Q QX:=λA st s vs E a b d e g q_=>x A st s vs E a b d e g
noncomputable def qr(c:Cx)(f:Fm)(k:Nat)(ρ:Lo)(σ:S)(s:Shared)(QX:Addr→Addr→S→Prop)(v:Value)(s':Shared):Prop:=
 ∃ah aw,In c f k ρ ah aw.heap∧Kp f.X σ s ah aw∧XP c f.stack [] ah aw QX v s'
theorem qr.xp (x:qr c f k ρ σ s QX v s'):XP c f.stack f.X σ s QX v s':=by
 refine eX x λah aw aB ag IW=>?_
 refine bH IW λe C d fl IY=>?_
 refine nS IY λaf a b y q=>?_
 refine rR e C d fl af a b ((y.up λb hb=>?_).trans ag aB.ex) q
 refine XA (aB.ex b hb) λz IZ=>?_
 refine XE IZ λo ho=>?_
 refine dH (y.xc.kp.keep b o ho z (by simp)) λz' o' vt q_=>?_
 exact⟨z',o',vt⟩
noncomputable def iL(c:Cx)(f:Fm)(k:Nat)(e:Expr)(ρ:Lo)(σ:S)(Q:V→S→Prop)(QX:Addr→Addr→S→Prop):Prop:=
 ∀s E,In c f k ρ σ s.heap→(∀v s',qr c f k ρ σ s QX v s'→E v s')→wpAny c.M f.B (eval e f.env) (bh c f k ρ σ s Q) E s
theorem Az{s:Shared}(I:In c f k ρ σ s.heap)(hk:Callee c fv)(hp:(starEach args f.env).any (·.1)=false)
  (h:bQ c f E k args ρ σ λrs av=>cP c k fv rs av Q QX) (hE:∀v s',qr c f k ρ σ s QX v s'→E v s'):wpAny c.M f.B (callWith pos fv [] (backTo pos (starEach args f.env)) []) (bh c f k ρ σ s Q) E s:=by
 refine callWith_of (P:=c.K.In) (by refine ae (pU ..) (ae hp ?_);rfl) (zy hk) (zA (by exact ae (pU ..) (ae hp rfl)) ?_)
 refine wpAny_mono (h pos s I) (λvs aw ck=>ck.el λrs ah aB aP ag cy=>⟨c.eH.keeps aB.st.base,?_⟩) λq_ q_ z=>z
 refine wpAny_mono (cy f.B f.stack aw _ E aB.st aB.cr aB.room aB.hd aP λv s' x=>hE v s' (eY ah aw aB ag x)) (λv s' cx=>cx.el λr af x1 x2 x3 x4=>?_) λq_ q_ z=>z
 refine XA (aB.jW x1 x3) λaR aj=>?_
 exact⟨r,af,aR,x2,ag.trans aj,x4⟩
theorem iL.sq (hg:Gm f.G x (.val v))(hk:Callee c v)(h:∀E,bQ c f E k args ρ σ λrs av=>cP c k v rs av Q QX)
  (hp:(starEach args f.env).any (·.1)=false:=by rfl):iL c f k (.Call (.Name x p) args [] pos) ρ σ Q QX:=λs E I hE=>by
 refine ae (arm_eval_Call_Name' ..) ?_
 refine wpAny_bind (wpAny_mono (EV.aF (E:=E) (Q:=λr af=>r= .val v∧af=σ) hg ⟨rfl,rfl⟩ s I) (λfv aw dJ=>dJ.el λr ah aB aP ag mB=>?_) λq_ q_ z=>z)
 refine XA mB λe1 e2=>?_
 subst e1;subst e2
 refine aP.eV ?_
 exact wpAny_mono (Az aB hk hp (h E) λv s' z=>eX z λav aO a b x=>hE v s' (eY av aO a (ag.trans b) x)) (λq_ q_ z=>z.trans ag) λq_ q_ z=>z
theorem iL.ln (hi:Ix f.N x i)(hr:ρ[i]? =some (some (.val v)))(hk:Callee c v)(h:∀E,bQ c f E k args ρ σ λrs av=>cP c k v rs av Q QX)
  (hp:(starEach args f.env).any (·.1)=false:=by rfl):iL c f k (.Call (.Name x p) args [] pos) ρ σ Q QX:=λs E I hE=>by
 refine ae (arm_eval_Call_Name' ..) ?_
 refine wpAny_bind (wpAny_mono (EV.loc (E:=E) (Q:=λr af=>r= .val v∧af=σ) hi hr ⟨rfl,rfl⟩ s I) (λfv aw eZ=>eZ.el λr ah aB aP ag mw=>?_) λq_ q_ z=>z)
 refine XA mw λe1 e2=>?_
 subst e1;subst e2
 refine aP.eV ?_
 exact wpAny_mono (Az aB hk hp (h E) λv s' z=>eX z λav aO a b x=>hE v s' (eY av aO a (ag.trans b) x)) (λq_ q_ z=>z.trans ag) λq_ q_ z=>z
noncomputable def fL(c:Cx)(f:Fm)(k:Nat)(st:Stmt)(ρ:Lo)(σ:S)(Q:Fl→Lo→S→Prop)(QX:Addr→Addr→S→Prop):Prop:=
 ∀s E,In c f k ρ σ s.heap→(∀v s',qr c f k ρ σ s QX v s'→E v s')→wpAny c.M f.B (exec st f.env) (dA c f k σ s Q) E s
theorem fL.r {st:Stmt}(x:fL c f k st ρ σ Q QX):cD c f k st ρ σ Q QX:=λs E I hE=>x s E I λv s' z=>hE v s' z.xp
theorem fL.ret (h:iL c f k e ρ σ (λr af=>Q (.ret r) ρ af) QX):fL c f k (.Return (some e) pos) ρ σ Q QX:=λs E I hE=>
 wpAny_Return_some (wpAny_mono (h s E I hE) (λv aw jX=>jX.el λr af I' h' k' q'=>⟨_,_,_,I',.ret h',k',q'⟩) λq_ q_ z=>z)
theorem fL.assign {p pos:Pos}(hi:Ix f.N x i)(h:iL c f k e ρ σ (λr af=>Q .next (ρ.set i (some r)) af) QX)
  (hk:f.env.kindOf x=some .local∨f.inner=false) (hs:swapsWith e (some (.Name x p)) pos.line f.env=pure false:=by rfl):fL c f k (.Assign [.Name x p] e pos) ρ σ Q QX:=λs E I hE=>by
 refine wpAny_Assign_Name (wpAny_mono (h s E I hE) (λv aw jY=>jY.el λr af I' h' k' q'=>?_) λq_ q_ z=>z) hs
 exact jZ I' hi.get hk h' λdy tk vI ql=>⟨.next,_,af,vI,.next,k'.trans ql,q'⟩
theorem fL.expr {pos:Pos}(h:iL c f k e ρ σ (λr ah=>r.plain∧Q .next ρ ah) QX)(hi:interactive f.env=false:=by rfl)(hs:swapsWith e none pos.line f.env=pure false:=by rfl):
  fL c f k (.Expr e pos) ρ σ Q QX:=λs E I hE=>by
 refine wpAny_Expr (wpAny_mono (h s E I hE) (λv aw pR=>pR.el λr ah aB aP ag vb=>?_) λq_ q_ z=>z) hi hs
 obtain ⟨hp,q⟩:=vb
 have fin:dA c f k σ s Q .next aw:=⟨.next,ρ,ah,aB,.next,ag,q⟩
 cases aP<;>first|exact fin|exact hp.elim
end
end
end Mine
end
section
open Classical
namespace Mine
noncomputable section
noncomputable def Cx.hx (c:Cx)(e C d:Addr):Cx:={c with calm:=false,held:=(e,C,d)}
noncomputable def Fm.hx (f:Fm)(e:Addr):Fm:={f with B:=f.B.mark (some (.ref e))}
section
variable {c:Cx}{f:Fm}{k:Nat}{ρ:Lo}{σ ah:S}{s aw:Shared}{e C d:Addr}{fl:Option Value}
theorem OR.hx:∀{o:O},OR (c.hx e C d) h a o↔OR c h a o:=λ{o}=>by cases o<;>exact Iff.rfl
theorem St.hx (x:St c σ h):St (c.hx e C d) σ h:=⟨x.base,λa o q=>⟨(x.own a o q).1,OR.hx.mpr (x.own a o q).2⟩,x.lo⟩
theorem St.I0 (x:St (c.hx e C d) σ h):St c σ h:=⟨x.base,λa o q=>⟨(x.own a o q).1,OR.hx.mp (x.own a o q).2⟩,x.lo⟩
theorem Fm.Ok.hx (x:f.Ok c):(f.hx e).Ok (c.hx e C d):=⟨x.kind,x.gl,x.bi,x.nodup,x.n7,x.loc,x.aF⟩
theorem In.held (aB:In c f k ρ ah aw.heap)(x:dh c f.stack [] ah aw e C d fl σ s):In (c.hx e C d) (f.hx e) k ρ σ s.heap:=by
 have I:=(aB.jW x.xc.st x.xc.kp).1
 refine k8 x.obj λoe vs he gf iF hd h2 fc hm=>?_
 exact⟨I.st.hx,I.ok.hx,I.loc,I.jV,I.own,⟨I.cr.eq,I.cr.dz,I.cr.own,I.cr.dX⟩,I.room,⟨(λq=>by exact cj q),.inr ⟨e,oe,vs,rfl,x.no.1,x.no.2.1,he,hd,h2,rfl,gf,iF⟩⟩⟩
theorem In.I1 {aO:Shared}(aB:In c f k mH ah aw.heap)(kp:Kp f.X ah aw av aO)(I:In (c.hx e C d) (f.hx e) k gi av aO.heap):In c f k gi av aO.heap:=
 ⟨I.st.I0,aB.ok,I.loc,I.jV,I.own,⟨aB.cr.eq,I.cr.dz,I.cr.own,I.cr.dX⟩,aB.room,aB.hd.kp (λb hb=>aB.hX b (Fm.iB hb)) kp⟩
theorem I2(I:In c f k ρ σ s.heap)(hg:Gm f.G x (.val v))(q:P v s):wpAny c.M A (eval (.Name x pos) f.env) P E s:=by
 refine dH (I.ok.aF _ hg.mem) λI3 w h3 h4=>?_
 obtain ⟨h1,h2⟩:=I3
 (have zq:=h3.qV;subst zq)
 refine Calls.Name_function_global I.ok.kind h1 ?_ h2
 refine Or.elim h4 (λe=>?_) λI4=>?_
 rotate_left
 obtain ⟨e1,e2⟩:=I4
 rotate_right
 ·exact Calls.loadGlobal_global (env:=f.env) (by exact ae I.ok.gl (c.g.keeps I.st.base)) e q
 ·exact Calls.loadGlobal_builtin (env:=f.env) (by exact ae I.ok.gl (c.g.keeps I.st.base)) e1 (by exact ae I.ok.bi (c.b.keeps I.st.base)) e2 q
theorem FR.mono (k:TK h h'){fl:Flow}{r:Fl}(x:FR h fl r):FR h' fl r:=by
 cases x with
 |next=>exact .next
 |brk=>exact .brk
 |cont=>exact .cont
 |ret y=>exact .ret (y.mono k)
noncomputable abbrev I5 (U:Addr):List Value:= [.ref U,.type "Exception",.type "BaseException",.type "object"]
theorem sQ
  (aB:In c f k ρ ah aw.heap) (x:dh c f.stack [] ah aw e C d (some .none) σ s) (fM:f.inner=false) (hg:Gm f.G X (.val (.ref D))) (xC:kw c C U fI) (xD:kw c D U fD) (hb:(Value.ref C::I5 U).contains (.ref D)=b)
  (hi:Ix f.N n i) (hl:f.env.kindOf n=some .local)
  (yes:b=true→∀E,EX (c.hx e C d) (f.hx e) E k (I6::I7) (ρ.set i (some (.val (.ref e)))) σ λfl ρ' af=>Q fl [] af)
  (no:b=false→∀h',dh c f.stack [] ah aw e C d (some .none) σ {s with heap:=h'}→wpAny c.M f.B (handleBy (.ref e) f.env cO) (dA c f k ah aw Q) E {s with heap:=h'}):
  wpAny c.M f.B (handleBy (.ref e) f.env (.ExceptHandler (some (.Name X np)) (some n) (I6::I7) zB::cO)) (dA c f k ah aw Q) E s:=by
 refine wpAny_handleBy_cons (codeAny_handlers_test (I2 (aB.jW x.xc.st x.xc.kp).1 hg ?_)) (by intro q;contradiction)
 refine k8 x.obj λoe vs he gf iF hd h2 fc hm=>?_
 refine IH (xC.vW x.xc.st) (xD.vW x.xc.st) Ay he gf ?_
 refine ae hb ?_
 cases b with
 |false=>exact no rfl s.heap x
 |true=>
  refine codeAny_handlers_suite_as (uY x λh' x'=>?_)
  have aR:=aB.held x'
  refine jZ (c:=c.hx e C d) (f:=f.hx e) (s:={s with heap:=h'}) aR hi.get (.inl hl) (.val (.ref e)) λjf on ct aC=>?_
  refine wpAny_mono (yes rfl _ {s with heap:=jf,toks:=on} ct) (λfl jn ck=>ck.el λr ρ' af ee fr aM q=>?_) λq_ q_ z=>z
  refine ak ee.loc λm fH q_=>?_
  refine wpAny_nameGoes hl fH (by exact ae aB.ok.kind rfl) λqi m' hn hs=>?_
  have dK:=ee.ok.n7
  rw[List.nodup_cons]at dK
  obtain ⟨mC,bj⟩:=ee.uQ (tk:=jn.toks+1) (ρ':= []) (b:=f.env.locals) (.head _) hs (λq_=>uO fH) (uN hn) (λq_=>rY hn) (λgd=>⟨m',hn,λj y r' h1 h2=>by simp at h2⟩) λp hp q=>absurd (List.mem_map.mpr ⟨p,hp,q⟩) dK.1
  have kp:Kp f.X ah aw af {jn with heap:=qi,toks:=jn.toks+1}:=((x'.xc.kp.up.trans aC).trans aM).trans bj
  exact⟨r, [],af,aB.I1 kp mC,fr.mono bj.tup,kp,q⟩
theorem aS.vY {QX:Addr→Addr→S→Prop}{st:Stmt}{km:ExceptHandler}{hs:List ExceptHandler}{env₀:Env}{L:Addr}
  (qt:f.stack=f.env::outer) (lm:f.env.frame=some L)
  (hb:fL c f k st ρ σ Q QX)
  (hh:∀e C d ah af aw s',In c f k ρ ah aw.heap→dh c f.stack [] ah aw e C d (some .none) af s'→QX C d af→wpAny c.M f.B (handleBy (.ref e) f.env (km::hs)) (dA c f k ah aw Q) E s'):
  aS c f E k (.Try [st] (km::hs) [] [] pos) ρ σ Q:=λs I=>by
 refine wpAny_Try_except ?_
 refine wpAny_execs_cons ?_
 refine wpAny_mono (hb s _ I ?px) (λfl aw cx=>cx.el λr ρ' af I' h' k' q'=>?_) λq_ q_ z=>z
 case px=>
  intro v s' x
  refine eX x λah aw aB ag I8=>?_
  refine bH I8 λe C d fl I9=>?_
  refine nS I9 λaf ev ki y q=>?_
  subst ev
  have hA:f.B.frames=some (f.env::outer):=by exact ae aB.cr.eq (ae qt rfl)
  rw[qt]at y
  refine zw hA lm y ki λh' x'=>?_
  refine uY x' λdy AA=>?_
  rw[←qt]at AA
  exact wpAny_mono (hh e C d ah af aw _ aB AA q) (λq_ q_ z=>z.trans ag) λq_ q_ z=>z
 cases h' with
 |next=>exact wpAny_execs_nil (wpAny_execs_nil ⟨_,_,_,I',.next,k',q'⟩)
 |brk=>exact⟨_,_,_,I',.brk,k',q'⟩
 |cont=>exact⟨_,_,_,I',.cont,k',q'⟩
 |ret h=>exact⟨_,_,_,I',.ret h,k',q'⟩
end
end
end Mine
end
section
open Classical
namespace Mine
noncomputable section
structure vZ(c:Cx)(C U:Addr)(ks:List Str)(name:Str)(i:Nat):Prop where
 get:findIn c.K (.ref C) "__getattribute__"=some (some (.builtin "BaseException.__getattribute__"))
 hook:findIn c.K (.ref C) "__getattr__"=some none
 mro:(clsIn c.K C).map (·.mro)=some [.ref C,.ref U,.type "Exception",.type "BaseException",.type "object"]
 dict:hasDictIn c.K C=true
 find:∃attr,findIn c.K (.ref C) name=some attr∧noGet c.K attr=true
 at_:ks[i]? =some name
 nodup:ks.Nodup
section
variable {prog:Program}{w:World}{A:Around}{E:Value→Shared→Prop}{s:Shared}{K:Frag}{x C U:Addr}{ox:Obj}{od:Option Obj}{name:Str}{expr:Bool}{Q:Value→Shared→Prop}
theorem Ja(X:K.In s.heap)(I:PySem.W.InstAt s.heap x ox C od)(Jb:findIn K (.ref C) "__getattribute__"=some (some (.builtin "BaseException.__getattribute__")))(Jc:findIn K (.ref C) "__getattr__"=some none)
  (hm:(clsIn K C).map (·.mro)=some [.ref C,.ref U,.type "Exception",.type "BaseException",.type "object"])
  (hf:findObj K C od name=some (.value v)) (hh:handedIn v=true) (h:Q v {s with toks:=s.toks+1}):wpAny (model prog w) A (getAttr (.ref x) name expr) Q E s:=by
 obtain ⟨eh,g,d,t,os⟩:=s
 have L0:=I.type (M:=model prog w)
 have L1:=looks_findIn (M:=model prog w) X Jb
 have L2:=looks_findIn (M:=model prog w) X Jc
 have L3:=looks_find (M:=model prog w) X I hf
 refine ak (Option.map_eq_some_iff.mp hm) λcd hc fH=>?_
 have sub:Looks (model prog w) eh (isInstance (.ref x) (.type "BaseException")) true:=L0.andThen (looks_mroIn X (by unfold mroIn;refine ae hc (ae (Option.bind_some ..) (ae fH ?_));rfl))
 have FA:=PySem.F.attr_Exception
 have hk:builtinKind "BaseException.__getattribute__"=some .slot:=by decide +kernel
 have Jd:splitId "BaseException.__getattribute__"=some ("BaseException","__getattribute__"):=by decide +kernel
 have bS:(Value.builtin "BaseException.__getattribute__"==Value.builtin "object.__getattribute__")=false:=by decide +kernel
 unfold getAttr getAttrBy
 refine wpAny_bind (wpAny_mkText (wpAny_holding (wpAny_bind (L0.at (wpAny_bind (L1.at ?_))))))
 show wpAny _ _ (if (onTheHeap (.ref C)&&(Value.builtin "BaseException.__getattribute__"==Value.builtin "object.__getattribute__"))=true then _ else getAttrByItsOwn _ _ _ _ _ _) _ _ _
 refine ae bS (ae (Bool.and_false ..) (ae (if_neg Bool.false_ne_true) ?_))
 unfold getAttrByItsOwn
 refine wpAny_bind (show wpAny _ _ (typeLookup (.ref C) "__getattr__") _ _ _ from L2.at ?_)
 have Je:∀{s:Shared},s= ⟨eh,g,d,t+1,os⟩→wpAny (model prog w) A (callGetattribute (.ref x) (.str name t) (.builtin "BaseException.__getattribute__") expr) (λv=>λs'=>wpAny (model prog w) A (handedOut v) Q E s')
   (λe s'=>wpAny (model prog w) A (getattributeRaised (.ref x) (.str name t) (.ref C) e none true expr) Q E s') s:=λ{s} es=>by
  subst es
  have e1:callGetattribute (.ref x) (.str name t) (.builtin "BaseException.__getattribute__") expr=boundAndCalled (.builtin "BaseException.__getattribute__") (.ref x) (.str name t):=by
   unfold callGetattribute
   exact ae (show (expr&&onTheHeap (Value.builtin "BaseException.__getattribute__"))=false from by cases expr<;>rfl) (ae (if_neg Bool.false_ne_true) rfl)
  refine ae e1 ?_
  unfold boundAndCalled
  refine ae (FA.ga.bind ..) ?_
  refine wpAny_bind (wpAny_pure (wpAny_call (codeAny_call_builtin FA.ga.plain PySem.F.entry_bexc_ga (@check_slot (model prog w) _ _ _ "BaseException.__getattribute__" "BaseException" "__getattribute__" (.ref x) [.str name t] [] _ hk Jd sub (PySem.F.args_bexc_ga _ _) ?_))))
  unfold Builtin.«object.__getattribute__»
  refine wpAny_bind (wpAny_pure (wpAny_bind (wpAny_pure (wpAny_bind (L0.at (wpAny_bind (L3.at ?_)))))))
  refine wpAny_pure ?_
  show wpAny _ _ (handedOut v) _ _ _
  exact ae (handedOut_of hh) (wpAny_pure h)
 exact wpAny_bind (wpAny_attempt (wpAny_holding (Je rfl)))
end
section
variable {c:Cx}{f:Fm}{E:Value→Shared→Prop}{k:Nat}{ρ:Lo}{σ:S}{Q:V→S→Prop}
theorem EV.v6 {pos:Pos}(h:EV c f E k o ρ σ λr ah=>∃e C U d t2 ks vs i r',r= .val (.ref e)∧f.B.handled=some (.ref e)∧c.held= (e,C,d)∧ah d=some (.bb t2 ks vs)∧vZ c C U ks name i∧vs[i]? =some r'∧r'.handed∧Q r' ah)
  (he:eval (.Attribute o name pos) f.env= (do
     let o'←eval o f.env
     standAt pos.atName
     let r←holding [o'] (getAttr o' name true)
     letTemporaryGo o o' r
     pure r):=by rfl):EV c f E k (.Attribute o name pos) ρ σ Q:=λs I=>by
 refine Attribute_any_ (wpAny_mono (h s I) (λv aw ck=>ck.el λr ah aB aP ag iE=>?_) λq_ q_ z=>z) he
 refine bH iE λe C U d Jf=>?_
 refine bH Jf λt2 ks vs i Jg=>?_
 refine nU Jg λr' er hh hc hd Jh=>?_
 refine fZ Jh λha hv hr q=>?_
 subst er;(have zq:=aP.qV;subst zq)
 have Ji:=aB.hd
 refine Or.elim Ji.2 (λg=>?_) λJj=>?_
 rotate_left
 obtain ⟨e',ob,ws,g1,g2,g3,g4,g5,g6,g7,g8,g9⟩:=Jj
 rotate_right
 ·rw[hh]at g;exact kY g
 ·rw[hh]at g1;(injection g1 with g1;injection g1 with g1;subst g1)
  rw[hc]at g8 g9
  refine c3 (aB.st.own d _ hd) λq_ es n h5 ir=>?_
  have IA:PySem.W.InstAt aw.heap e ob C (some (dictOf es n)):=⟨g4,g8,by unfold notCls;exact ae g5 rfl,by exact ae g9 h5⟩
  refine ak (ir.zg ha.nodup ha.at_ hv) λv' hg pW=>?_
  refine ak ha.find λattr hf hn=>?_
  exact Ja (c.eH.keeps aB.st.base) IA ha.get ha.hook ha.mro (findObj_own ha.dict hf hn hg) (zF pW hr) ((bh.tk aB pW q).trans ag)
end
end
end Mine
end
namespace Mine
noncomputable section
open PySem.Challenge
noncomputable abbrev v7 (i:Nat):Stmt:=(pw_no0197_01.main.body[i]?).getD (.Pass ⟨0,0,0,0⟩)
noncomputable abbrev Jk (i j:Nat):Stmt:=match v7 i with
 |.ClassDef (body:=b) ..=>(b[j]?).getD (.Pass ⟨0,0,0,0⟩)
 |_=>.Pass ⟨0,0,0,0⟩
noncomputable abbrev Jl:Stmt→Arguments
 |.FunctionDef n a b d r t s ts bind pos=>a
 |_=>{posonlyargs:= [],args:= [],vararg:=none,kwonlyargs:= [],kw_defaults:= [],kwarg:=none,defaults:= []}
noncomputable abbrev AB:Stmt→Str
 |.FunctionDef n a b d r t s ts bind pos=>n
 |_=>""
noncomputable abbrev Jm:Stmt→List Stmt
 |.FunctionDef n a b d r t s ts bind pos=>b
 |_=> []
noncomputable abbrev Jn:Stmt→Scope
 |.FunctionDef n a b d r t s ts bind pos=>s
 |_=>{kind:=.function,names:= [],isGenerator:=false,isCoroutine:=false,more:= []}
noncomputable def Jo:List Value:= [.str "clausemill.symbols" 194,.str "clausemill.terms" 407,.str "clausemill.store" 509,.str "clausemill.unify" 806,.str "clausemill.preds_terms" 1004,.str "clausemill.areas" 1156,.str "law_no0197_01" 1372]
noncomputable abbrev AC (s:Stmt)(q:Str)(dV:Value)(m:Nat)(a:Addr):Fn:=⟨AB s,q,Jl s,Jm s,Jn s,dV,(Jo.drop m).headD .none,a,a- 1⟩
noncomputable abbrev mF (i:Nat)(dV:Value)(m:Nat)(a:Addr):Fn:=AC (v7 i) (AB (v7 i)) dV m a
noncomputable abbrev mM (i j:Nat)(q:Str)(dV:Value)(m:Nat)(a:Addr):Fn:=AC (Jk i j) q dV m a
noncomputable def iN:List Fn:= [mM 3 0 "PrologError.__init__" .none 0 48,mM 4 0 "Halt.__init__" (.ref 61) 0 68,mF 9 .none 0 80,mF 10 .none 0 87,mM 11 0 "Symbols.__init__" .none 0 101,mM 11 1 "Symbols.atom" .none 0 108,mM 11 2 "Symbols.text" .none 0 115,mM 11 3 "Symbols.functor" .none 0 122,mM 11 4 "Symbols.func" .none 0 129,mM 11 5 "Symbols.name" .none 0 136,mM 11 6 "Symbols.arity" .none 0 143,mM 11 8 "Symbols.count" .none 0 157,mM 11 10 "Symbols.known" .none 0 171,mF 13 .none 1 185,mF 15 .none 1 192,mF 16 .none 1 199,mF 17 .none 1 206,mF 19 .none 1 213,mF 20 .none 1 220,mF 21 .none 1 227,mF 22 .none 1 234,mF 23 .none 1 241,mF 24 .none 1 248,mF 25 .none 1 255,mM 37 0 "Cells.__init__" (.ref 264) 2 271,mM 37 1 "Cells.push" .none 2 278,mM 37 2 "Cells.new_var" .none 2 285,mM 37 3 "Cells.reserve" .none 2 292,mM 37 5 "Cells.deref" .none 2 306,mM 37 7 "Cells.bind" .none 2 320,mM 37 8 "Cells.bind_pair" .none 2 327,mM 37 9 "Cells.globalise" .none 2 334,mM 37 13 "Cells.is_compound" .none 2 362,mM 37 14 "Cells.functor_of" .none 2 369,mM 37 15 "Cells.width" .none 2 376,mM 37 16 "Cells.base" .none 2 383,mM 37 17 "Cells.arg" .none 2 390,mM 37 18 "Cells.new_block" .none 2 397,mM 38 2 "Store.list_cells" .none 2 433,mM 38 3 "Store.put_term" .none 2 440,mM 38 4 "Store.take_term" .none 2 447,mM 40 0 "PairSet.__init__" .none 3 466,mM 40 1 "PairSet.add" .none 3 473,mF 41 .none 3 487,mF 42 .none 3 494,mF 43 .none 3 501,mF 44 .none 3 508,mF 45 .none 3 515,mF 47 .none 3 522,mF 48 .none 3 529,mF 49 .none 3 536,mF 51 .none 3 543,mF 52 .none 3 550,mF 53 .none 3 557,mF 54 .none 3 564,mF 56 .none 3 571,mF 57 .none 3 578,mF 60 .none 4 586,mF 61 .none 4 593,mF 62 .none 4 600,mF 63 .none 4 607,mF 64 .none 4 614,mF 65 .none 4 621,mF 66 .none 4 628,mF 67 .none 4 635,mF 68 .none 4 642,mF 69 .none 4 649,mF 70 .none 4 656,mF 71 .none 4 663,mF 72 .none 4 670,mF 73 .none 4 677,mF 74 .none 4 684,mF 75 .none 4 691,mF 76 .none 4 698,mF 77 .none 4 705,mF 78 .none 4 712,mM 82 0 "Areas.__init__" (.ref 720) 5 727,mM 82 1 "Areas.reset" .none 5 734,mM 82 2 "Areas.set_x" .none 5 741,mM 82 3 "Areas.set_arguments" .none 5 748,mM 82 4 "Areas.arg" .none 5 755,mM 82 5 "Areas.unify" .none 5 762,mM 82 6 "Areas.take" .none 5 769,mM 82 7 "Areas.put" .none 5 776,mM 82 8 "Areas.top" .none 5 783,mF 84 .none 6 881,mF 85 .none 6 888,mF 86 .none 6 893,mF 87 .none 6 900,mF 88 .none 6 905,mF 89 .none 6 910,mF 90 .none 6 915,mF 91 .none 6 920,mF 92 .none 6 927,mF 93 .none 6 932,mF 94 .none 6 939,mF 95 .none 6 944,mF 96 .none 6 951,mF 97 .none 6 958,mF 98 .none 6 965,mF 99 .none 6 972]
noncomputable abbrev fn (j:Nat):Fn:=(iN.drop j).headD (mF 0 .none 0 0)
noncomputable abbrev VM:Fn:=fn 1
noncomputable abbrev VN:Fn:=fn 2
noncomputable abbrev VO:Fn:=fn 3
noncomputable abbrev VP:Fn:=fn 24
noncomputable abbrev qu:Fn:=fn 40
noncomputable abbrev v8:Fn:=fn 73
noncomputable abbrev VQ:Fn:=fn 74
noncomputable abbrev VS:Fn:=fn 75
noncomputable abbrev VU:Fn:=fn 76
noncomputable abbrev v9:Fn:=fn 89
noncomputable abbrev oA:Fn:=fn 90
noncomputable abbrev mS:Fn:=fn 92
noncomputable abbrev oB:Fn:=fn 94
noncomputable abbrev oC:Fn:=fn 96
noncomputable abbrev Jp:Fn:=fn 98
noncomputable abbrev AD:Fn:=fn 99
noncomputable abbrev kA:Fn:=fn 100
noncomputable abbrev Jq:Fn:=fn 25
noncomputable abbrev Jr:Fn:=fn 27
noncomputable abbrev Js:Fn:=fn 91
noncomputable abbrev Jt:Fn:=fn 87
end
end Mine
section
open Classical
namespace Mine
noncomputable section
noncomputable def fk:List Addr:= [48,51,68,71,80,87,101,108,115,122,129,136,143,157,171,174,185,192,199,206,213,220,227,234,241,248,255,271,278,285,292,306,320,327,334,362,369,376,383,390,397,433,440,447,450,466,473,476,487,494,501,508,515,522,529,536,543,550,557,564,571,578,586,593,600,607,614,621,628,635,642,649,656,663,670,677,684,691,698,705,712,727,734,741,748,755,762,769,776,783,870,881,888,893,900,905,910,915,920,927,932,939,944,951,958,965,972]
noncomputable def jt:List Addr:= [174,450,476,870]
noncomputable def mU:List (Addr×Str):= [(174,Str.ofString "texts"),(174,Str.ofString "atom_numbers"),(174,Str.ofString "functors"),(174,Str.ofString "functor_numbers"),(450,Str.ofString "symbols"),(450,Str.ofString "max_heap"),(450,Str.ofString "heap"),(450,Str.ofString "stack"),(450,Str.ofString "trail"),(450,Str.ofString "hb"),(450,Str.ofString "bb"),(476,Str.ofString "span"),(476,Str.ofString "met"),(870,Str.ofString "symbols"),(870,Str.ofString "code"),(870,Str.ofString "max_heap"),(870,Str.ofString "occurs"),(870,Str.ofString "max_bits"),(870,Str.ofString "store"),(870,Str.ofString "x"),(870,Str.ofString "p"),(870,Str.ofString "cp"),(870,Str.ofString "e"),(870,Str.ofString "b"),(870,Str.ofString "b0"),(870,Str.ofString "mode"),(870,Str.ofString "s"),(870,Str.ofString "guard"),(870,Str.ofString "roots"),(870,Str.ofString "bags"),(870,Str.ofString "collect_wanted")]
noncomputable def oD:List (Addr×Str×Addr):= [(174,Str.ofString "atom",108),(174,Str.ofString "text",115),(174,Str.ofString "functor",122),(174,Str.ofString "func",129),(174,Str.ofString "name",136),(174,Str.ofString "arity",143),(174,Str.ofString "count",157),(174,Str.ofString "known",171),(450,Str.ofString "push",278),(450,Str.ofString "new_var",285),(450,Str.ofString "reserve",292),(450,Str.ofString "deref",306),(450,Str.ofString "bind",320),(450,Str.ofString "bind_pair",327),(450,Str.ofString "globalise",334),(450,Str.ofString "is_compound",362),(450,Str.ofString "functor_of",369),(450,Str.ofString "width",376),(450,Str.ofString "base",383),(450,Str.ofString "arg",390),(450,Str.ofString "new_block",397),(450,Str.ofString "list_cells",433),(450,Str.ofString "put_term",440),(450,Str.ofString "take_term",447),(476,Str.ofString "add",473),(870,Str.ofString "reset",734),(870,Str.ofString "set_x",741),(870,Str.ofString "set_arguments",748),(870,Str.ofString "arg",755),(870,Str.ofString "unify",762),(870,Str.ofString "take",769),(870,Str.ofString "put",776),(870,Str.ofString "top",783)]
noncomputable def wd:List (Addr×Addr):= [(174,101),(450,271),(476,466),(870,727)]
noncomputable def Fn.AE (fn:Fn):Bool:=
 (fn.scope.kind==.function)&& !fn.scope.isCoroutine&& !fn.scope.isGenerator&&decide fn.N.Nodup&&decide (fn.N=fn.ps++fn.N.drop fn.ps.length)&&decide fn.ps.Nodup&&decide ((cellsFrom 0 fn.scope.names []).map (·.1)).Nodup&&
 (fn.N.all λx=>(fn.scope.names.lookup x==some .local||fn.scope.names.lookup x==some .cell)&& !(x==("__debug__":Str)))&&
 (fn.G.all λp=>(fn.scope.names.lookup p.1==some .globalImplicit)&& !(p.1==("__debug__":Str)))
noncomputable def wh:List (Addr×List V):= [(61, [.int 0]),(264, [.int 100000]),(720, [.int 100000,.bool true,.int 4096])]
noncomputable def AF:List (Addr×Addr×Str):= [(51,48,Str.ofString "ball"),(71,68,Str.ofString "code")]
structure au(c:Cx):Prop where
 look:∀fn:Fn,fn∈iN→c.K.lookup fn.a=some ⟨.type "function",none,.func fn.fd, #[]⟩∧codeIn c.K (.ref fn.code) fn.qual=true
 aF:∀p:Str×V,p∈lq→c.pQ p.1 p.2
 keep:∀a:Addr,a∈fk→keepIn c.K (.ref a)=true
 cls:∀C:Addr,C∈jt→plainGet c.K C ""=true∧hasDictIn c.K C=true∧findIn c.K (.ref C) "__setattr__"=some (some (.builtin "object.__setattr__"))∧plainOver c.K C=true∧makesIn c.K C=true
 attr:∀p:Addr×Str,p∈mU→findIn c.K (.ref p.1) p.2=some none
 ax:∀p:Addr×Str×Addr,p∈oD→findIn c.K (.ref p.1) p.2.1=some (some (.ref p.2.2))∧typeIn c.K (.ref p.2.2)=some (.type "function")
 init:∀p:Addr×Addr,p∈wd→findIn c.K (.ref p.1) "__init__"=some (some (.ref p.2))∧typeIn c.K (.ref p.2)=some (.type "function")
 kB:∀p:Addr×List V,p∈wh→∃(items:List Value) (n:Nat),c.K.lookup p.1=some ⟨.type "tuple",none,.seq items.toArray n, #[]⟩∧∀h:Heap,aA h items p.2
 exc:∀p:Addr×Addr×Str,p∈AF→kw c p.1 31 p.2.1∧qo c p.1 31 p.2.2∧vZ c p.1 31 [p.2.2] p.2.2 0
theorem Ju:∀fn∈iN,fn.AE=true:=List.all_eq_true.mp (by decide +kernel)
theorem au.ok {c:Cx}(T:au c){fn:Fn}(hm:fn∈iN):fn.Ok c∧fn.ps.Nodup:=by
 have hs:=Ju fn hm
 unfold Fn.AE at hs
 simp only[Bool.and_eq_true,decide_eq_true_eq,List.all_eq_true,Bool.or_eq_true,beq_iff_eq,Bool.not_eq_true']at hs
 refine XA hs λJv h9=>?_
 obtain ⟨⟨⟨⟨⟨⟨⟨h1,h2⟩,h3⟩,h4⟩,h5⟩,h6⟩,h7⟩,h8⟩:=Jv
 exact⟨⟨(T.look fn hm).1,(T.look fn hm).2,h1,h2,h3,h4,⟨_,h5⟩,h7,λx hx=>h8 x hx,λp hp=>⟨h9 p hp,T.aF p (FW hp)⟩⟩,h6⟩
section
variable {c:Cx}{f:Fm}{E:Value→Shared→Prop}{k:Nat}{ρ:Lo}{σ:S}
noncomputable def qv(c:Cx)(σ:S)(r:V)(name:Str)(r':V):Prop:=∃x C d t t2 ks vs i,r= .val (.ref x)∧σ x=some (.inst t C d)∧σ d=some (.bb t2 ks vs)∧zE c C ks name i∧vs[i]? =some r'∧r'.handed
theorem qv.mk (T:au c){x C d:Addr}{t t2:Nat}{ks:List Str}{vs:List V}{name:Str}{i:Nat}{r':V}(hx:σ x=some (.inst t C d))(hd:σ d=some (.bb t2 ks vs))(hi:Ix ks name i)(hv:vs[i]? =some r')
  (hc:C∈jt) (ha:(C,name)∈mU) (nd:ks.Nodup) (hh:r'.handed):qv c σ (.val (.ref x)) name r':=
 ⟨x,C,d,t,t2,ks,vs,i,rfl,hx,hd,⟨(T.cls C hc).1,(T.cls C hc).2.1,⟨none,T.attr _ ha,rfl⟩,hi.get,nd⟩,hv,hh⟩
theorem EV.at {o:Expr}{name:Str}{pos:Pos}{Q:V→S→Prop}(h:EV c f E k o ρ σ λr ah=>∃r',qv c ah r name r'∧Q r' ah)
  (he:eval (.Attribute o name pos) f.env= (do
     let o'←eval o f.env
     standAt pos.atName
     let r←holding [o'] (getAttr o' name true)
     letTemporaryGo o o' r
     pure r):=by rfl):EV c f E k (.Attribute o name pos) ρ σ Q:=
 EV.attr (h.mono λr af z=>by (refine ak z λr' Jw q=>?_;obtain ⟨x,C,d,t,t2,ks,vs,i,h1,h2,h3,h4,h5,h6⟩:=Jw);exact⟨x,C,d,t,t2,ks,vs,i,r',h1,h2,h3,h4,h5,h6,q⟩) he
theorem Jx(T:au c){x C d fa:Addr}{t t2:Nat}{ks:List Str}{vs:List V}{name:Str}(hx:σ x=some (.inst t C d))(hd:σ d=some (.bb t2 ks vs))(hc:C∈jt)(ha:(C,name,fa)∈oD)(hk:fa∈fk)(hn:name∉ks):
  MT c σ (.val (.ref x)) name (.ref fa)∧Callee c (.ref fa):=
 ⟨MT.inst ⟨(T.cls C hc).1,(T.ax _ ha).1,(T.ax _ ha).2,hn,T.keep fa hk⟩ hx hd,.inl (T.keep fa hk)⟩
theorem Jy(T:au c){C:Addr}{name:Str}(hc:C∈jt)(ha:(C,name)∈mU):sH c C name:=
 ⟨(T.cls C hc).2.2.1,(T.cls C hc).2.2.2.1,by unfold takerIn;refine ae (T.attr _ ha) ?_;rfl,(T.cls C hc).2.1⟩
theorem sR(T:au c){C fI:Addr}(hc:C∈jt)(hi:(C,fI)∈wd):Ab c C fI:=⟨(T.cls C hc).2.2.2.2,(T.init _ hi).1,(T.init _ hi).2⟩
theorem ly{i:String}:Callee c (.builtin i):=.inr λa q=>by contradiction
theorem Jz{i:String}:Callee c (.type i):=.inr λa q=>by contradiction
theorem sT{α:Type}{n:Nat}{P:List α→Prop}{l:List α}(hl:l.length=n+1)(h:∀a r,r.length=n→P (a::r)):P l:=by
 cases l with
 |nil=>contradiction
 |cons a r=>exact h a r (Nat.succ.inj hl)
theorem AG{α:Type}{P:List α→Prop}{l:List α}(hl:l.length=0)(h:P []):P l:=by
 exact ae (List.length_eq_zero_iff.mp hl) h
theorem sU{α:Type}{P:List α→Prop}{l:List α}(hl:l.length=1)(h:∀a,P [a]):P l:=sT hl λa q_ e=>AG (P:=λr=>P (a::r)) e (h a)
theorem sV{α:Type}{P:List α→Prop}{l:List α}(hl:l.length=2)(h:∀a b,P [a,b]):P l:=sT hl λa q_ e=>sU (P:=λr=>P (a::r)) e (h a)
theorem qw{α:Type}{P:List α→Prop}{l:List α}(hl:l.length=3)(h:∀a b d,P [a,b,d]):P l:=sT hl λa q_ e=>sV (P:=λr=>P (a::r)) e (h a)
theorem JA{α:Type}{P:List α→Prop}{l:List α}(hl:l.length=4)(h:∀a b d e,P [a,b,d,e]):P l:=sT hl λa q_ e=>qw (P:=λr=>P (a::r)) e (h a)
noncomputable def Bd(j n:Nat):Prop:=∀vs:List Value,vs.length=n→bindArgs (fn j).fd ⟨vs, []⟩=pure ((fn j).ps.zip vs)
theorem b0{j:Nat}(h:bindArgs (fn j).fd ⟨[], []⟩=pure ((fn j).ps.zip [])):Bd j 0:=λq_ e=>AG (P:=λvs=>bindArgs (fn j).fd ⟨vs, []⟩=pure ((fn j).ps.zip vs)) e h
theorem b1{j:Nat}(h:∀a,bindArgs (fn j).fd ⟨[a], []⟩=pure ((fn j).ps.zip [a])):Bd j 1:=λq_ e=>sU (P:=λvs=>bindArgs (fn j).fd ⟨vs, []⟩=pure ((fn j).ps.zip vs)) e h
theorem b2{j:Nat}(h:∀a b,bindArgs (fn j).fd ⟨[a,b], []⟩=pure ((fn j).ps.zip [a,b])):Bd j 2:=λq_ e=>sV (P:=λvs=>bindArgs (fn j).fd ⟨vs, []⟩=pure ((fn j).ps.zip vs)) e h
theorem b3{j:Nat}(h:∀a b d,bindArgs (fn j).fd ⟨[a,b,d], []⟩=pure ((fn j).ps.zip [a,b,d])):Bd j 3:=λq_ e=>qw (P:=λvs=>bindArgs (fn j).fd ⟨vs, []⟩=pure ((fn j).ps.zip vs)) e h
theorem b4{j:Nat}(h:∀a b d e,bindArgs (fn j).fd ⟨[a,b,d,e], []⟩=pure ((fn j).ps.zip [a,b,d,e])):Bd j 4:=λq_ e=>JA (P:=λvs=>bindArgs (fn j).fd ⟨vs, []⟩=pure ((fn j).ps.zip vs)) e h
noncomputable abbrev AH:Nat→Lo
 | 0=> []
 |n+1=>none::AH n
noncomputable abbrev fr:List V→Nat→Lo
 | [],n=>AH n
 |a::r,n=>some a::fr r n
theorem AI(args:List V)(n:Nat):fr args n=args.map some++List.replicate n none:=by
 induction args with
 |nil=>
  induction n with
  |zero=>rfl
  |succ n ih=>exact congrArg (none:: ·) ih
 |cons a r ih=>exact congrArg (some a:: ·) ih
noncomputable def Sh(j:Nat)(a n m:Nat):Prop:=j<iN.length∧(fn j).a=a∧(fn j).ps.length=n∧(fn j).N.length- n=m
theorem wi{j:Nat}(h:j<iN.length):fn j∈iN:=by
 have e:iN.drop j=iN[j]::iN.drop (j+1):=List.drop_eq_getElem_cons h
 unfold fn
 refine ae e ?_
 exact List.getElem_mem h
theorem gX{j a n m:Nat}{args:List V}{Q:V→S→Prop}{QX:Addr→Addr→S→Prop}(T:au c)(s:Sh j a n m)(b:Bd j n)(hl:args.length=n)
  (h:∀L A stack,bE c ((fn j).fm L A stack) k (fn j).body (fr args m) σ (aq Q) QX):cP c (k+1) (.ref a) args σ Q QX:=by
 refine fZ s λhj e1 e2 e3=>?_
 subst e1;subst e3;subst hl
 have ok:=T.ok (wi hj)
 refine mx.cv (mx.fn (cF:= []) ok.1 (by exact ae (List.append_nil ..) e2.symm) ok.2 (e2▸Binds.plain (e2.symm▸b)) λL A stack=>?_)
 refine ae (List.append_nil ..) ?_
 refine aU (AI ..) ?_
 exact h L A stack
theorem gC{j a n m:Nat}{args cF:List V}{Q:V→S→Prop}(T:au c)(s:Sh j a n m)(hl:(args++cF).length=n)(b:Binds c (fn j) args.length cF)
  (h:∀L A stack E,EX c ((fn j).fm L A stack) E k (fn j).body (fr (args++cF) m) σ (aq Q)):CC c (k+1) (.ref a) args σ Q:=by
 refine fZ s λhj e1 e2 e3=>?_
 subst e1;subst e3;subst hl
 have ok:=T.ok (wi hj)
 refine CC.fn (cF:=cF) ok.1 e2.symm ok.2 b λL A stack E=>?_
 refine aU (AI ..) ?_
 exact h L A stack E
end
end
end Mine
end
section
open Classical
namespace Mine
noncomputable section
theorem JB{a:Addr}{t:Nat}{l:List V}{P:Value→Prop}(ha:σ a=some (.list t l))(h:P (.builtin "list.append")):∃v,MT c σ (.val (.ref a)) "append" v∧Callee c v∧P v:=⟨_,MT.list (r:=.none) F.slot_list_append F.type_list_append ha,ly,h⟩
theorem JC{a:Addr}{t:Nat}{l:List V}{P:Value→Prop}(ha:σ a=some (.list t l))(h:P (.builtin "list.pop")):∃v,MT c σ (.val (.ref a)) "pop" v∧Callee c v∧P v:=⟨_,MT.list (r:=.none) F.slot_list_pop F.type_list_pop ha,ly,h⟩
theorem JD{a:Addr}{t:Nat}{l:List V}{P:Value→Prop}(ha:σ a=some (.list t l))(h:P (.builtin "list.index")):∃v,MT c σ (.val (.ref a)) "index" v∧Callee c v∧P v:=⟨_,MT.list (r:=.none) F.slot_list_index F.type_list_index ha,ly,h⟩
theorem MT.dict (ha:σ a=some o)(ho:(∃t l,o= .dI t l)∨(∃t l,o= .dS t l)∨∃t l,o= .dT t l):MT c σ (.val (.ref a)) "get" (.builtin "dict.get"):=
 MT.builtin F.plainAttrs_dict F.slot_dict_get F.type_dict_get λs ov st hv=>by
  cases hv
  have h:=(st.own a _ ha).2
  have key:∃ob,s.heap.get? a=some ob∧ob.cls= .type "dict"∧ob.dict=none:=by
   rcases ho with ⟨t,l,rfl⟩|⟨t,l,rfl⟩|⟨t,l,rfl⟩
   ·(refine ak h λbv JE q_=>?_;obtain ⟨o,es,ep,e1,e2,_⟩:=JE);exact cA o e1 e2.1 e2.2.1
   ·(refine ak h λbv JF q_=>?_;obtain ⟨o,es,ep,e1,e2,_⟩:=JF);exact cA o e1 e2.1 e2.2.1
   ·(refine ak h λbv JG q_=>?_;obtain ⟨o,es,ep,e1,e2,_⟩:=JG);exact cA o e1 e2.1 e2.2.1
  refine bG key λob e1 e2 e3=>?_
  exact⟨⟨ob,e1,e2⟩,λb e=>by cases e;exact⟨ob,e1,e3⟩⟩
theorem JH{a:Addr}{t:Nat}{l:List (Int×V)}{P:Value→Prop}(ha:σ a=some (.dI t l))(h:P (.builtin "dict.get")):∃v,MT c σ (.val (.ref a)) "get" v∧Callee c v∧P v:=⟨_,MT.dict ha (.inl ⟨_,_,rfl⟩),ly,h⟩
theorem JI{a:Addr}{t:Nat}{l:List (Str×V)}{P:Value→Prop}(ha:σ a=some (.dS t l))(h:P (.builtin "dict.get")):∃v,MT c σ (.val (.ref a)) "get" v∧Callee c v∧P v:=⟨_,MT.dict ha (.inr (.inl ⟨_,_,rfl⟩)),ly,h⟩
theorem JJ{a:Addr}{t:Nat}{l:List (List Int×V)}{P:Value→Prop}(ha:σ a=some (.dT t l))(h:P (.builtin "dict.get")):∃v,MT c σ (.val (.ref a)) "get" v∧Callee c v∧P v:=⟨_,MT.dict ha (.inr (.inr ⟨_,_,rfl⟩)),ly,h⟩
theorem JK{a:Addr}{t n:Nat}{A:Int→Bool}{P:Value→Prop}(ha:σ a=some (.sI t A n))(h:P (.builtin "set.add")):∃v,MT c σ (.val (.ref a)) "add" v∧Callee c v∧P v:=⟨_,MT.set ha,ly,h⟩
end
end Mine
end
section
open Classical
namespace Mine
noncomputable section
noncomputable def oE(C:Addr)(name:Str):List (Addr×Str×Addr)→Option Addr
 | []=>none
 |(a,b,d)::r=>bif Nat.beq a C&&decide (b=name) then some d else oE C name r
theorem JL:oE C name l=some fa→(C,name,fa)∈l:=by
 induction l with
 |nil=>exact λh=>nomatch h
 |cons p r ih=>
  intro h
  cases e:Nat.beq p.1 C&&decide (p.2.1=name) with
  |true=>
   have e':=Bool.and_eq_true_iff.mp e
   have h:=Option.some.inj ((congrArg (λb=>bif b then some p.2.2 else oE C name r) e).symm.trans h)
   exact Nat.eq_of_beq_eq_true e'.1▸of_decide_eq_true e'.2▸h▸.head _
  |false=>exact .tail _ (ih ((congrArg (λb=>bif b then some p.2.2 else oE C name r) e).symm.trans h))
theorem JM:∀p∈oD,p.1∈jt∧p.2.2∈fk:=by decide +kernel
theorem JN{x C d fa:Addr}{t t2:Nat}{ks:List Str}{vs:List V}{name:Str}{P:Value→Prop}(T:au c)(hx:σ x=some (.inst t C d))(hd:σ d=some (.bb t2 ks vs))(hm:oE C name oD=some fa)(hn:ks.contains name=false)(h:P (.ref fa)):
  ∃v,MT c σ (.val (.ref x)) name v∧Callee c v∧P v:=by
 have h2:=JL hm
 obtain ⟨a1,a2⟩:=JM _ h2
 have:=Jx T hx hd a1 h2 a2 (λq=>by rw[List.contains_iff_mem.mpr q]at hn;cases hn)
 exact⟨_,this.1,this.2,h⟩
noncomputable def blt:O→Str→Option String
 |.list _ _,n=>if n="append" then some "list.append" else if n="pop" then some "list.pop" else if n="index" then some "list.index" else none
 |.dI _ _,n=>if n="get" then some "dict.get" else none
 |.dS _ _,n=>if n="get" then some "dict.get" else none
 |.dT _ _,n=>if n="get" then some "dict.get" else none
 |.sI _ _ _,n=>if n="add" then some "set.add" else none
 |_,_=>none
@[elab_as_elim] theorem mV{name n:Str}{i id:String}{r:Option String}{G:Str→String→Prop}(hb:(if name=n then some i else r)=some id)(h1:G n i)(h2:r=some id→G name id):G name id:=by
 by_cases e:name=n
 ·exact ae e (Option.some.inj ((if_pos e).symm.trans hb)▸h1)
 ·exact h2 ((if_neg e).symm.trans hb)
theorem JO{a:Addr}{name:Str}{id:String}{P:Value→Prop}(ha:σ a=some o)(hb:blt o name=some id):P (.builtin id)→∃v,MT c σ (.val (.ref a)) name v∧Callee c v∧P v:=by
 cases o with
 |list t l=>exact mV hb (λh=>JB ha h) λhb=>mV hb (λh=>JC ha h) λhb=>mV hb (λh=>JD ha h) λhb=>aJ hb
 |dI t l=>exact mV hb (λh=>JH ha h) λhb=>aJ hb
 |dS t l=>exact mV hb (λh=>JI ha h) λhb=>aJ hb
 |dT t l=>exact mV hb (λh=>JJ ha h) λhb=>aJ hb
 |sI t A n=>exact mV hb (λh=>JK ha h) λhb=>aJ hb
 |_=>exact aJ hb
theorem sl(h:n≤100000):n≤sizeLine:=by exact ae sizeLine_eq (Nat.le_trans (by assumption) (aD rfl))
theorem Keeps.am {X Y:List Nat}(h:Keeps X σ af)(hs:X.all Y.contains=true):Keeps Y σ af:=h.mono λt ht=>by
 have:=List.all_eq_true.mp hs t ht
 simpa using this
theorem Br.yes {p:Prop}{d:Decidable p}{A B:Prop}(hp:p)(h:A):Br (@decide p d) A B:=⟨λq_=>h,λq=>absurd hp (of_decide_eq_false q)⟩
theorem Br.no {p:Prop}{d:Decidable p}{A B:Prop}(hp:¬p)(h:B):Br (@decide p d) A B:=⟨λq=>absurd (of_decide_eq_true q) hp,λq_=>h⟩
theorem Br.JP {p:Prop}{d:Decidable p}{A B:Prop}(hp:p)(h:B):Br (!@decide p d) A B:=by exact ae (decide_eq_true hp) (Br.ff h)
theorem Br.JQ {p:Prop}{d:Decidable p}{A B:Prop}(hp:¬p)(h:A):Br (!@decide p d) A B:=by exact ae (decide_eq_false hp) (Br.tt h)
section
variable {c:Cx}{f:Fm}{E:Value→Shared→Prop}{k:Nat}{ρ:Lo}{σ:S}
noncomputable def iO(o:O)(σ:S)(Q:V→S→Prop):Prop:=∀a af,σ a=none→af a=some o→Keeps [] σ af→Q (.val (.ref a)) af
theorem iO.go (h:iO o σ Q):∀a,σ a=none→Q (.val (.ref a)) (Mine.upd σ a o):=λa ha=>h a _ ha c5 (.new ha)
noncomputable def iP(a:Addr)(o o':O)(σ:S)(Q:S→Prop):Prop:=∀af,af a=some o'→Keeps [o.tag] σ af→Q af
theorem iP.go (ha:σ a=some o)(h:iP a o o' σ Q):Q (Mine.upd σ a o'):=h _ c5 (.upd ha (.head _))
theorem CV.append' {l:List V}(ha:σ a=some (.list t l))(hl:l.length≤sizeLine)(q:iP a (.list t l) (.list t (l++ [r])) σ (Q .none)):CV c k (.builtin "list.append") [.val (.ref a),r] σ Q:=CV.append ha hl (q.go ha)
theorem CV.mX {l:List V}(ha:σ a=some (.list t (l++ [r])))(hl:l.length≤100000)(q:iP a (.list t (l++ [r])) (.list t l) σ (Q r)):CV c k (.builtin "list.pop") [.val (.ref a)] σ Q:=CV.pop ha (by exact ae sizeLine_eq (Nat.lt_of_le_of_lt (by assumption) (aD rfl))) (q.go ha)
theorem OU.lz {l:List V}{i:Int}(ha:σ a=some (.list t l))(h0:0≤i)(hf:i<2 ^ 63)(hn:i.toNat<l.length)(q:iP a (.list t l) (.list t (l.set i.toNat r)) σ Q):
  OU c f E k (λvs=>setItem (vs.getD 0 .none) (vs.getD 1 .none) (vs.getD 2 .none)) [.val (.ref a),.int i,r] ρ σ Q:=OU.vl ha h0 hf hn (q.go ha)
theorem OU.hG {l l':List (Int×V)}(ha:σ a=some (.dI t l))(hl:l.length≤sizeLine)(hp:put l x r=l')(q:iP a (.dI t l) (.dI t l') σ Q):
  OU c f E k (λvs=>setItem (vs.getD 0 .none) (vs.getD 1 .none) (vs.getD 2 .none)) [.val (.ref a),.int x,r] ρ σ Q:=by
 subst hp;exact(jk c).set ha rfl hl (q.go ha)
theorem CV.AJ {ks:List Int}(ha:σ a=some (.dT t ps))(hr:(look ps ks).getD dv=r)(q:Q r σ):CV c k (.builtin "dict.get") [.val (.ref a),.tup (ks.map .int),dv] σ Q:=by
 subst hr;exact CV.H1 ha q
theorem OV.oF (ha:σ a=some (.dI t l))(hr:(look l x).isSome=b)(q:Q (.bool b) σ):OV c f E k (bY .In) [.int x,.val (.ref a)] ρ σ Q:=by
 subst hr;exact(jk c).mem ha rfl q
theorem OV.iQ (ha:σ a=some (.dI t l))(hr:(look l x).isSome=b)(q:Q (.bool (!b)) σ):OV c f E k (bY .NotIn) [.int x,.val (.ref a)] ρ σ Q:=by
 subst hr;exact(jk c).Gh ha rfl q
theorem OV.JR (ha:σ a=some (.dI t l))(hx:look l x=some r)(q:Q r σ)
  (hs:∀v,(jk c).kind.is x v=true→subscripted c6 false (.ref a) v=operate [.ref a,v] (getItem (.ref a) v):=by intro _ _;rfl):OV c f E k (kj value c6) [.val (.ref a),.int x] ρ σ Q:=(jk c).item ha rfl hx q hs
theorem OU.JS {l l':List (Str×V)}(ha:σ a=some (.dS t l))(hl:l.length≤sizeLine)(hp:put l x r=l')(q:iP a (.dS t l) (.dS t l') σ Q):
  OU c f E k (λvs=>setItem (vs.getD 0 .none) (vs.getD 1 .none) (vs.getD 2 .none)) [.val (.ref a),.str x,r] ρ σ Q:=by
 subst hp;exact(vh c).set ha rfl hl (q.go ha)
theorem OU.JT {l:List (List Int×V)}{ks:List Int}(ha:σ a=some (.dT t l))(hn:look l ks=none)(hl:l.length≤sizeLine)(q:iP a (.dT t l) (.dT t (l++ [(ks,r)])) σ Q):
  OU c f E k (λvs=>setItem (vs.getD 0 .none) (vs.getD 1 .none) (vs.getD 2 .none)) [.val (.ref a),.tup (ks.map .int),r] ρ σ Q:=OU.H4 ha hn hl (q.go ha)
theorem EV.JU (o:O)(ho:o= .dI o.tag []∨o= .dS o.tag []∨o= .dT o.tag [])(q:iO o σ Q):EV c f E k (.Dict [] [] pos) ρ σ Q:=EV.di o ho q.go
theorem CV.wj (t:Nat)(q:iO (.sI t (λq_=>false) 0) σ Q):CV c k (.type "set") [] σ Q:=CV.Gs t q.go
theorem CV.setAdd' {a:Addr}{t:Nat}{P P':Int→Bool}{n:Nat}{x:Int}(ha:σ a=some (.sI t P n))(hn:n+1<scanBound)(hP:(λy=>P y||decide (y=x))=P')(q:∀m,m≤n+1→iP a (.sI t P n) (.sI t P' m) σ (Q .none)):CV c k (.builtin "set.add") [.val (.ref a),.int x] σ Q:=by
 subst hP
 exact CV.setAdd ha hn ((q _ (by split<;>simp)).go ha)
theorem CV.JV (t:Nat){l:List V}(hl:l.length≤sizeLine)(q:iO (.list t l) σ Q):CV c k (.type "list") [.tup l] σ Q:=CV.Hn t hl q.go
theorem CV.JW (t:Nat){l:List (Int×V)}(calm:c.calm=true)(dW:σ d=some (.dI td l))(hl:l.length≤sizeLine)(q:iO (.list t (l.map λp=>.int p.1)) σ Q):CV c k (.type "list") [.val (.ref d)] σ Q:=CV.listI t calm dW hl q.go
end
noncomputable def stN(l:List Stmt)(i:Nat):Stmt:=match l.drop i with|s::_=>s| []=>.Pass ⟨0,0,0,0⟩
noncomputable def JX:Stmt→List Stmt
 |.While _ b _ _=>b
 |.For _ _ b _ _=>b
 |.If _ b _ _=>b
 |_=> []
noncomputable def JY:Stmt→List Stmt
 |.If _ _ b _=>b
 |_=> []
section
variable {c:Cx}{f:Fm}{E:Value→Shared→Prop}{k:Nat}{ρ:Lo}{σ:S}
inductive sW {α:Type}(l:α→Lo)(m:α→Nat)(I:α→S→Prop)(n:Nat)(ρ':Lo)(af:S):Prop
 |mk (a:α) (hm:m a<n) (hl:l a=ρ') (hi:I a af):sW l m I n ρ' af
inductive wk {α:Type}(l:α→Lo)(I:α→S→Prop)(ρ':Lo)(af:S):Prop
 |mk (a:α) (hl:l a=ρ') (hi:I a af):wk l I ρ' af
end
noncomputable abbrev setOp:List Value→Sem Unit:=λvs=>setItem (vs.getD 0 .none) (vs.getD 1 .none) (vs.getD 2 .none)
end
end Mine
end
section
open Classical
namespace Mine
noncomputable section
inductive RE where
 |loc (i:Nat)
 |aF (r:V)
 |int (i:Int)
 |str (s:Str)
 |bool (b:Bool)
 |qy
 |bin (op:Operator) (l r:RE)
 |cmp (op:CmpOp) (l r:RE)
 |and (l r:RE)
 |or (l r:RE)
 |not (e:RE)
 |neg (e:RE)
 |ite (t b o:RE)
 |tup (es:RE)
 |list (es:RE)
 |di
 |item (o:RE) (n:Nat)
 |idx (o i:RE)
 |attr (o:RE) (n:Str)
 |call (v:Value) (as:RE)
 |ln (i:Nat) (as:RE)
 |ax (o:RE) (n:Str) (as:RE)
 |nil
 |cons (e es:RE)
 |bz (e:RE)
 |raw (e:Expr)
inductive RS where
 |nil
 |seq (s r:RS)
 |asg (i:Nat) (e:RE)
 |cf (o:RE) (n:Str) (e:RE)
 |cw (o i e:RE)
 |ju (i j:Nat) (e:RE)
 |aug (i:Nat) (e:RE)
 |ret (e:RE)
 |r6
 |expr (e:RE)
 |ite (t:RE) (a b:RS)
 |loop (t:RE) (b:RS)
 |dp (i:Nat) (it:RE) (b:RS)
 |cont
 |brk
 |pass
 |raw (s:Stmt)
noncomputable abbrev hJ {α:Type}:List α→Nat→Option α
 | [],_=>none
 |x::_,0=>some x
 |_::r,n+1=>hJ r n
theorem qz{α:Type}(l:List α)(n:Nat):hJ l n=l[n]?:=by
 induction l generalizing n with
 |nil=>rfl
 |cons x r ih=>
  cases n with
  |zero=>rfl
  |succ n=>exact ih n
noncomputable abbrev gk {α:Type}:List α→Nat→α→List α
 | [],_,_=> []
 |_::r,0,y=>y::r
 |x::r,n+1,y=>x::gk r n y
theorem mY{α:Type}(l:List α)(n:Nat)(y:α):gk l n y=l.set n y:=by
 induction l generalizing n with
 |nil=>rfl
 |cons x r ih=>
  cases n with
  |zero=>rfl
  |succ n=>exact congrArg (List.cons x) (ih n)
noncomputable abbrev small {α:Type}:Nat→List α→Bool
 |_, []=>true
 | 0,_::_=>false
 |n+1,_::r=>small n r
theorem AK{α:Type}(n:Nat)(l:List α):small n l=true→l.length≤n:=by
 induction l generalizing n with
 |nil=>exact λq_=>Nat.zero_le _
 |cons x r ih=>
  cases n with
  |zero=>exact λh=>(Bool.false_ne_true h).elim
  |succ n=>exact λh=>Nat.succ_le_succ (ih n h)
noncomputable section
noncomputable def kC(x:Str):List Str→Option Nat
 | []=>none
 |y::r=>bif decide (y=x) then some 0 else (kC x r).map (· +1)
noncomputable def sX(x:Str):List (Str×V)→Option V
 | []=>none
 |(y,v)::r=>bif decide (y=x) then some v else sX x r
theorem jv:∀{i:Nat},kC x N=some i→Ix N x i:=by
 induction N with
 |nil=>exact λh=>aJ h
 |cons y r ih=>exact λh=>pH h (λq h=>of_decide_eq_true q▸Option.some.inj h▸.here) λq_ h=>ak (Option.map_eq_some_iff.mp h) λj h1 er=>er▸.there (ih h1)
theorem AL:sX x G=some v→Gm G x v:=by
 induction G with
 |nil=>exact λh=>aJ h
 |cons p r ih=>exact λh=>pH h (λq h=>show Gm ((p.1,p.2)::r) x v from aU (of_decide_eq_true q) (aU (Option.some.inj h) .here)) λq_ h=>.there (ih h)
noncomputable def dj{α β:Type}(f:α→β):Option α→Option β
 |some a=>some (f a)
 |none=>none
noncomputable def fN{α β γ:Type}(f:α→β→γ):Option α→Option β→Option γ
 |some a,some b=>some (f a b)
 |_,_=>none
noncomputable def qA{α β γ δ:Type}(f:α→β→γ→δ):Option α→Option β→Option γ→Option δ
 |some a,some b,some c=>some (f a b c)
 |_,_,_=>none
theorem JZ{α β:Type}{f:α→β}{a:Option α}{r:β}(h:dj f a=some r):∃x,a=some x∧r=f x:=by
 cases a with
 |none=>exact aJ h
 |some x=>(injection h with h;subst h);exact⟨x,rfl,rfl⟩
theorem wn{α β γ:Type}{f:α→β→γ}{a:Option α}{b:Option β}{r:γ}(h:fN f a b=some r):∃x y,a=some x∧b=some y∧r=f x y:=by
 cases a with
 |none=>exact aJ h
 |some x=>
  cases b with
  |none=>exact aJ h
  |some y=>(injection h with h;subst h);exact⟨x,y,rfl,rfl,rfl⟩
theorem J0{α β γ δ:Type}{f:α→β→γ→δ}{a:Option α}{b:Option β}{d:Option γ}{r:δ}(h:qA f a b d=some r):∃x y z,a=some x∧b=some y∧d=some z∧r=f x y z:=by
 cases a with
 |none=>exact aJ h
 |some x=>
  cases b with
  |none=>exact aJ h
  |some y=>
   cases d with
   |none=>exact aJ h
   |some z=>(injection h with h;subst h);exact ml x y z rfl rfl rfl rfl
@[elab_as_elim] theorem dM{α β:Type}{f:α→β}{a:Option α}{r:β}{P:β→Prop}(h:dj f a=some r)(k:∀x,a=some x→P (f x)):P r:=(JZ h).elim λx h=>h.2▸k x h.1
@[elab_as_elim] theorem hO{α β γ:Type}{f:α→β→γ}{a:Option α}{b:Option β}{r:γ}{P:γ→Prop}(h:fN f a b=some r)(k:∀x y,a=some x→b=some y→P (f x y)):P r:=(wn h).elim λx h=>h.elim λy h=>h.2.2▸k x y h.1 h.2.1
@[elab_as_elim] theorem wo{α β γ δ:Type}{f:α→β→γ→δ}{a:Option α}{b:Option β}{d:Option γ}{r:δ}{P:δ→Prop}(h:qA f a b d=some r)(k:∀x y z,a=some x→b=some y→d=some z→P (f x y z)):P r:=(J0 h).elim λx h=>h.elim λy h=>h.elim λz h=>h.2.2.2▸k x y z h.1 h.2.1 h.2.2.1
noncomputable def AM(e:Expr):Bool:=Nat.beq e.ctorIdx 22
noncomputable def oG(e:Expr):Bool:=Nat.beq e.ctorIdx 26
noncomputable def gm(e:Expr):Bool:=Nat.beq e.ctorIdx 8||(Nat.beq e.ctorIdx 9||Nat.beq e.ctorIdx 10)
noncomputable def lA(e:Expr):Bool:=Nat.beq e.ctorIdx 16
noncomputable def qB(e:Expr):Bool:=Nat.beq e.ctorIdx 7
noncomputable def isTup(e:Expr):Bool:=Nat.beq e.ctorIdx 25
noncomputable def kD(rec:Expr→Option RE):List Expr→Option RE
 | []=>some .nil
 |e::es=>bif AM e then none else fN .cons (rec e) (kD rec es)
noncomputable def mZ(rec:Expr→Option RE)(f:RE→RE→RE):List Expr→Option RE
 | []=>none
 | [e]=>rec e
 |e::e2::es=>fN f (rec e) (mZ rec f (e2::es))
noncomputable def AN:V→Option Value
 |.val (.ref a)=>bif fk.contains a then some (.ref a) else none
 |.val (.builtin i)=>some (.builtin i)
 |.val (.type i)=>some (.type i)
 |_=>none
noncomputable def ob{α β:Type}(o:Option α)(g:α→Option β):Option β:=match o with
 |some a=>g a
 |none=>none
noncomputable def oc{α β:Type}(o:Option α)(g:α→β)(d:β):β:=match o with
 |some a=>g a
 |none=>d
noncomputable def qC:Expr→Option (Str×Pos)
 |.Name x p=>some (x,p)
 |_=>none
noncomputable def AO:Expr→Option Const
 |.Constant k _ _=>some k
 |_=>none
noncomputable def AP{α:Type}:List α→Option α
 | [a]=>some a
 |_=>none
noncomputable def AQ{α:Type}:List α→Option (α×α)
 | [a,b]=>some (a,b)
 |_=>none
noncomputable def AR:Const→Option Nat
 |.int (.ofNat n)=>some n
 |_=>none
noncomputable def AS(N:List Str)(G:List (Str×V))(x:Str)(as:Option RE):Option RE:=oc (kC x N) (λi=>dj (.ln i) as) (ob (sX x G) λv=>ob (AN v) λv=>dj (.call v) as)
noncomputable def AU:Const→Option RE
 |.int i=>some (.int i)
 |.str s=>some (.str s)
 |.bool b=>some (.bool b)
 |.none=>some .qy
 |_=>none
noncomputable def AV(N:List Str)(G:List (Str×V))(x:Str):Option RE:=oc (kC x N) (λi=>some (.loc i)) (dj .aF (sX x G))
noncomputable def AW(e:Expr):Option Nat:=ob (AO e) λk=>ob (AR k) λn=>bif Nat.ble n 100 then some n else none
noncomputable def wq(rec:Expr→Option RE)(l:Expr):List CmpOp→List Expr→Option RE
 | [op], [r]=>bif behindInMarks op r then none else fN (.cmp op) (rec l) (rec r)
 |_,_=>none
noncomputable def AX(rec:Expr→Option RE)(es:List Expr):BoolOp→Option RE
 |.And=>mZ rec .and es
 |.Or=>mZ rec .or es
noncomputable def J1(a:Option RE):UnaryOp→Option RE
 |.Not=>dj .not a
 |.USub=>dj .neg a
 |_=>none
noncomputable def J2:List (Option Expr)→List Expr→Option RE
 | [], []=>some .di
 |_,_=>none
noncomputable def AY(rec:Expr→Option RE)(o i:Expr)(p:Pos):Option RE:=bif oG i then some (.raw (.Subscript o i p)) else oc (AW i) (λm=>dj (λo=>.item o m) (rec o)) (fN .idx (rec o) (rec i))
noncomputable def AZ(N:List Str)(G:List (Str×V))(rec:Expr→Option RE)(as:List Expr)(p:Pos):Expr→Option RE
 |.Name x _=>AS N G x (kD rec as)
 |.Attribute o x ap=>bif (ap.endLine==p.line)&&decide (as.length<30)&& !lA o then fN (λo as=>.ax o x as) (rec o) (kD rec as) else none
 |_=>none
section
variable (N:List Str)(G:List (Str×V))
mutual
noncomputable def cE:Nat→Expr→Option RE
 | 0,_=>none
 |n+1,e=>match e with
  |.Name x _=>AV N G x
  |.Constant k _ _=>AU k
  |.BinOp l op r _=>fN (.bin op) (cE n l) (cE n r)
  |.Compare l jw rs _=>wq (cE n) l jw rs
  |.BoolOp op es _=>AX (cE n) es op
  |.UnaryOp op e _=>J1 (cE n e) op
  |.IfExp t b o _=>qA .ite (cT n t) (cE n b) (cE n o)
  |.Tuple es _ _=>dj .tup (kD (cE n) es)
  |.List es _=>dj .list (kD (cE n) es)
  |.Dict ks vs _=>J2 ks vs
  |.Subscript o i p=>AY (cE n) o i p
  |.Attribute o x _=>bif lA o then none else dj (λo=>.attr o x) (cE n o)
  |.Call g as ks p=>bif ks.isEmpty then AZ N G (cE n) as p g else none
  |.ListComp a b d p=>some (.raw (.ListComp a b d p))
  |_=>none
noncomputable def cT:Nat→Expr→Option RE
 | 0,_=>none
 |n+1,e=>match e with
  |.Compare l jw rs _=>wq (cE n) l jw rs
  |.BoolOp op es _=>AX (cT n) es op
  |.UnaryOp op e _=>match op with
   |.Not=>dj .not (cT n e)
   |_=>none
  |.Name x p=>dj .bz (cE n (.Name x p))
  |.Constant a b d=>dj .bz (cE n (.Constant a b d))
  |.Call a b d p=>dj .bz (cE n (.Call a b d p))
  |.Subscript a b p=>dj .bz (cE n (.Subscript a b p))
  |_=>none
end
noncomputable def m0(rec:Stmt→Option RS):List Stmt→Option RS
 | []=>some .nil
 |s::ss=>fN .seq (rec s) (m0 rec ss)
noncomputable def J3(e:Expr)(es:List Expr):Option RS:=ob (AQ es) λz=>ob (qC z.1) λx=>ob (qC z.2) λy=>ob (kC x.1 N) λi=>ob (kC y.1 N) λj=>dj (.ju i j) (cE N G 20 e)
noncomputable def A0(e:Expr)(q:Pos):Expr→Option RS
 |.Name x p=>bif gm e then some (.raw (.Assign [.Name x p] e q)) else ob (kC x N) λi=>dj (.asg i) (cE N G 20 e)
 |.Attribute o x _=>bif gm e||lA o then none else fN (λo e=>.cf o x e) (cE N G 20 o) (cE N G 20 e)
 |.Subscript o i _=>bif gm e||oG i then none else qA .cw (cE N G 20 o) (cE N G 20 i) (cE N G 20 e)
 |.Tuple es _ _=>bif gm e||isTup e then none else J3 N G e es
 |_=>none
noncomputable def J4(e:Expr)(q:Pos)(ts:List Expr):Option RS:=ob (AP ts) (A0 N G e q)
noncomputable def J5(e:Expr):Bool:=Nat.beq e.ctorIdx 24
noncomputable def wr(o:Operator):Bool:=Nat.beq o.ctorIdx 0
noncomputable def J6(op:Operator)(e:Expr)(q:Pos)(t:Expr):Option RS:=ob (qC t) λx=>bif wr op then bif J5 e then some (.raw (.AugAssign (.Name x.1 x.2) op e q)) else ob (kC x.1 N) λi=>bif gm e then none else dj (.aug i) (cE N G 20 e) else none
noncomputable def J7(it:Expr)(b:Option RS)(t:Expr):Option RS:=ob (qC t) λx=>ob (kC x.1 N) λi=>bif qB it then none else fN (.dp i) (cE N G 20 it) b
noncomputable def J8:Option Expr→Option RS
 |some e=>dj .ret (cE N G 20 e)
 |none=>some .r6
noncomputable def cS:Nat→Stmt→Option RS
 | 0,_=>none
 |n+1,s=>match s with
  |.Assign ts e q=>J4 N G e q ts
  |.AugAssign t op e q=>J6 N G op e q t
  |.Return e _=>J8 N G e
  |.Expr e _=>bif gm e then none else dj .expr (cE N G 20 e)
  |.If t a b _=>qA .ite (cT N G 20 t) (m0 (cS n) a) (m0 (cS n) b)
  |.While t b o _=>bif o.isEmpty then fN .loop (cT N G 20 t) (m0 (cS n) b) else none
  |.For t it b o _=>bif o.isEmpty then J7 N G it (m0 (cS n) b) t else none
  |.Continue _=>some .cont
  |.Break _=>some .brk
  |.Pass _=>some .pass
  |s=>some (.raw s)
end
noncomputable def cz:List Nat→List Stmt→Stmt
 | [i],l=>stN l i
 |i::0::r,l=>cz r (JX (stN l i))
 |i::_::r,l=>cz r (JY (stN l i))
 | [],_=>.Pass ⟨0,0,0,0⟩
noncomputable def gp:Stmt→Expr
 |.Assign _ e _=>e
 |.AugAssign _ _ e _=>e
 |.Return (some e) _=>e
 |.Expr e _=>e
 |.If t _ _ _=>t
 |.While t _ _ _=>t
 |.For _ e _ _ _=>e
 |_=>.Constant .none 0 ⟨0,0,0,0⟩
noncomputable def eN(l:List Expr)(i:Nat):Expr:=match l.drop i with
 |e::_=>e
 | []=>.Constant .none 0 ⟨0,0,0,0⟩
noncomputable def J9:Expr→List Expr
 |.BinOp l _ r _=> [l,r]
 |.Compare l _ rs _=>l::rs
 |.BoolOp _ es _=>es
 |.UnaryOp _ e _=> [e]
 |.IfExp t b o _=> [t,b,o]
 |.Tuple es _ _=>es
 |.List es _=>es
 |.Subscript o i _=> [o,i]
 |.Attribute o _ _=> [o]
 |.Call g as _ _=>g::as
 |_=> []
noncomputable def fO:List Nat→Expr→Expr
 | [],e=>e
 |i::r,e=>fO r (eN (J9 e) i)
section
variable (c:Cx)(f:Fm)(k:Nat)(E:Value→Shared→Prop)
noncomputable def m4(op:Operator)(ρ:Lo)(Q:V→S→Prop):V→V→S→Prop
 |.int x,.int y,σ=>match op with
  |.Add=>Q (.int (x+y)) σ
  |.Sub=>Q (.int (x- y)) σ
  |op=>OV c f E k (jh op) [.int x,.int y] ρ σ Q
 |a,b,σ=>OV c f E k (jh op) [a,b] ρ σ Q
noncomputable def dC(op:CmpOp)(ρ:Lo)(Q:V→S→Prop):V→V→S→Prop
 |.int x,.int y,σ=>match op with
  |.Lt=>Q (.bool (decide (x<y))) σ
  |.Gt=>Q (.bool (decide (y<x))) σ
  |.LtE=>Q (.bool (decide (x≤y))) σ
  |.GtE=>Q (.bool (decide (y≤x))) σ
  |.Eq=>Q (.bool (decide (x=y))) σ
  |.NotEq=>Q (.bool (decide (x≠y))) σ
  |op=>OV c f E k (bY op) [.int x,.int y] ρ σ Q
 |.str x,.str y,σ=>match op with
  |.Lt=>Q (.bool (decide (x.cps.toList<y.cps.toList))) σ
  |.Eq=>Q (.bool (decide (x=y))) σ
  |.NotEq=>Q (.bool (decide (x≠y))) σ
  |op=>OV c f E k (bY op) [.str x,.str y] ρ σ Q
 |a,b,σ=>OV c f E k (bY op) [a,b] ρ σ Q
noncomputable def IX(ρ:Lo)(Q:V→S→Prop)(a b:V)(σ:S):Prop:=∀value c6,my c6→OV c f E k (kj value c6) [a,b] ρ σ Q
noncomputable def sY(ρ:Lo)(Q:Bool→S→Prop):V→S→Prop
 |.bool b,σ=>Q b σ
 |r,σ=>OB c f E k (λvs=>truthy (vs.getD 0 .none)) [r] ρ σ Q
noncomputable abbrev qD (P:Bool→Prop):V→Prop
 |.bool b=>P b
 |_=>False
noncomputable abbrev wv (P:Int→Prop):V→Prop
 |.int b=>P b
 |_=>False
noncomputable abbrev oH (b:Bool)(P:Prop):Prop:=match b with
 |true=>P
 |false=>False
noncomputable abbrev sZ (P:V→Prop):Option V→Prop
 |some r=>P r
 |none=>False
noncomputable abbrev A1 (P:V→Prop):Option (Option V)→Prop
 |some (some r)=>P r
 |_=>False
noncomputable abbrev A2 (P:Int→Prop):Option (Option V)→Prop
 |some (some (.int r))=>P r
 |_=>False
noncomputable abbrev A3 (P:Value→Prop):Option (Option V)→Prop
 |some (some (.val r))=>P r
 |_=>False
noncomputable abbrev A4 (P:V→V→Prop):V→Prop
 |.tup [a,b]=>P a b
 |_=>False
noncomputable abbrev A5 (P:Prop):V→Prop
 |.none=>P
 |.bool _=>P
 |r=>r.plain∧P
noncomputable def aZ(rs:List V)(σ:S)(Q:V→S→Prop):Prop:=∃t,iO (.list t rs) σ Q
noncomputable def cW(σ:S)(Q:V→S→Prop):Prop:=∃o:O,(o= .dI o.tag []∨o= .dS o.tag []∨o= .dT o.tag [])∧iO o σ Q
noncomputable def AT(n:Str)(Q:V→S→Prop)(r:V)(σ:S):Prop:=∃r',qv c σ r n r'∧Q r' σ
noncomputable def ME(n:Str)(P:Value→Prop)(r:V)(σ:S):Prop:=∃v,MT c σ r n v∧Callee c v∧P v
noncomputable def SA(n:Str)(Q:S→Prop)(ov r:V)(σ:S):Prop:=∃x C d t t2 ks vs,ov= .val (.ref x)∧σ x=some (.inst t C d)∧σ d=some (.bb t2 ks vs)∧sH c C n∧n∉ks∧ks.length≤900∧Q (upd σ d (.bb t2 (ks++ [n]) (vs++ [r])))
noncomputable def lB(ρ:Lo)(Q:V→S→Prop)(n:Nat):V→S→Prop
 |.tup l,σ=>oH (small 100 l) (sZ (λr=>Q r σ) (hJ l n))
 |a,σ=>IX c f k E ρ Q a (.int (Int.ofNat n)) σ
noncomputable abbrev qE (W:Lo→S→(V→S→Prop)→Prop)(ρ:Lo)(B:V→V→S→Prop):V→S→Prop:=λa σ=>W ρ σ (B a)
noncomputable abbrev J' (W:Lo→S→(V→S→Prop)→Prop)(ρ:Lo)(Q:V→S→Prop):V→S→Prop:=λa σ=>qD (λb=>Br b (W ρ σ Q) (Q (.bool false) σ)) a
noncomputable abbrev Ka (W:Lo→S→(V→S→Prop)→Prop)(ρ:Lo)(Q:V→S→Prop):V→S→Prop:=λa σ=>qD (λb=>Br b (Q (.bool true) σ) (W ρ σ Q)) a
noncomputable abbrev Kb (Q:V→S→Prop):V→S→Prop:=λa σ=>qD (λb=>Q (.bool (!b)) σ) a
noncomputable abbrev Kc (Q:V→S→Prop):V→S→Prop:=λa σ=>wv (λi=>Q (.int (-i)) σ) a
noncomputable abbrev Kd (A B:Lo→S→(V→S→Prop)→Prop)(ρ:Lo)(Q:V→S→Prop):Bool→S→Prop:=λx σ=>Br x (A ρ σ Q) (B ρ σ Q)
noncomputable abbrev Ke (Q:V→S→Prop):List V→S→Prop:=λrs σ=>oH (small 40 rs) (Q (.tup rs) σ)
noncomputable abbrev Kf (Q:V→S→Prop):List V→S→Prop:=λrs σ=>oH (small 40 rs) (aZ rs σ Q)
noncomputable abbrev A6 (v:Value)(Q:V→S→Prop):List V→S→Prop:=λrs σ=>CV c k v rs σ Q
noncomputable abbrev Kg (v:Value)(r:V)(Q:V→S→Prop):List V→S→Prop:=λrs σ=>CV c k v (r::rs) σ Q
noncomputable abbrev Kh (W:Lo→S→(List V→S→Prop)→Prop)(ρ:Lo)(σ:S)(r:V)(Q:V→S→Prop):Value→Prop:=λv=>W ρ σ (Kg c k v r Q)
noncomputable abbrev Ki (n:Str)(W:Lo→S→(List V→S→Prop)→Prop)(ρ:Lo)(Q:V→S→Prop):V→S→Prop:=λr σ=>ME c n (Kh c k W ρ σ r Q) r σ
noncomputable abbrev Kj (r:V)(Q:List V→S→Prop):List V→S→Prop:=λrs σ=>Q (r::rs) σ
noncomputable abbrev Kk (W:Lo→S→(List V→S→Prop)→Prop)(ρ:Lo)(Q:List V→S→Prop):V→S→Prop:=λr σ=>W ρ σ (Kj r Q)
noncomputable abbrev jB (Q:Bool→S→Prop):V→S→Prop:=λx σ=>qD (λb=>Q b σ) x
noncomputable abbrev Kl (W:Lo→S→(Bool→S→Prop)→Prop)(ρ:Lo)(Q:Bool→S→Prop):Bool→S→Prop:=λb σ=>Br b (W ρ σ Q) (Q false σ)
noncomputable abbrev Km (W:Lo→S→(Bool→S→Prop)→Prop)(ρ:Lo)(Q:Bool→S→Prop):Bool→S→Prop:=λb σ=>Br b (Q true σ) (W ρ σ Q)
noncomputable abbrev Kn (Q:Bool→S→Prop):Bool→S→Prop:=λb σ=>Q (!b) σ
noncomputable abbrev Ko (A B:Lo→S→(Bool→S→Prop)→Prop)(ρ:Lo)(Q:Bool→S→Prop):Bool→S→Prop:=λx σ=>Br x (A ρ σ Q) (B ρ σ Q)
mutual
noncomputable abbrev vE:RE→Lo→S→(V→S→Prop)→Prop
 |.loc i,ρ,σ,Q=>A1 (λr=>Q r σ) (hJ ρ i)
 |.aF r,ρ,σ,Q=>Q r σ
 |.int i,ρ,σ,Q=>Q (.int i) σ
 |.str i,ρ,σ,Q=>Q (.str i) σ
 |.bool i,ρ,σ,Q=>Q (.bool i) σ
 |.qy,ρ,σ,Q=>Q .none σ
 |.bin op l r,ρ,σ,Q=>vE l ρ σ (qE (vE r) ρ (m4 c f k E op ρ Q))
 |.cmp op l r,ρ,σ,Q=>vE l ρ σ (qE (vE r) ρ (dC c f k E op ρ Q))
 |.and l r,ρ,σ,Q=>vE l ρ σ (J' (vE r) ρ Q)
 |.or l r,ρ,σ,Q=>vE l ρ σ (Ka (vE r) ρ Q)
 |.not e,ρ,σ,Q=>vE e ρ σ (Kb Q)
 |.neg e,ρ,σ,Q=>vE e ρ σ (Kc Q)
 |.ite t b o,ρ,σ,Q=>vT t ρ σ (Kd (vE b) (vE o) ρ Q)
 |.tup es,ρ,σ,Q=>m5 es ρ σ (Ke Q)
 |.list es,ρ,σ,Q=>m5 es ρ σ (Kf Q)
 |.di,ρ,σ,Q=>cW σ Q
 |.item o n,ρ,σ,Q=>vE o ρ σ (lB c f k E ρ Q n)
 |.idx o i,ρ,σ,Q=>vE o ρ σ (qE (vE i) ρ (IX c f k E ρ Q))
 |.attr o n,ρ,σ,Q=>vE o ρ σ (AT c n Q)
 |.call v as,ρ,σ,Q=>m5 as ρ σ (A6 c k v Q)
 |.ln i as,ρ,σ,Q=>A3 (λv=>Callee c v∧m5 as ρ σ (A6 c k v Q)) (hJ ρ i)
 |.ax o n as,ρ,σ,Q=>vE o ρ σ (Ki c k n (m5 as) ρ Q)
 |.raw e,ρ,σ,Q=>EV c f E k e ρ σ Q
 |.nil,ρ,σ,Q=>False
 |.cons _ _,ρ,σ,Q=>False
 |.bz _,ρ,σ,Q=>False
noncomputable abbrev m5:RE→Lo→S→(List V→S→Prop)→Prop
 |.nil,ρ,σ,Q=>Q [] σ
 |.cons e es,ρ,σ,Q=>vE e ρ σ (Kk (m5 es) ρ Q)
 |_,ρ,σ,Q=>False
noncomputable abbrev vT:RE→Lo→S→(Bool→S→Prop)→Prop
 |.cmp op l r,ρ,σ,Q=>vE l ρ σ (qE (vE r) ρ (dC c f k E op ρ (jB Q)))
 |.and l r,ρ,σ,Q=>vT l ρ σ (Kl (vT r) ρ Q)
 |.or l r,ρ,σ,Q=>vT l ρ σ (Km (vT r) ρ Q)
 |.not e,ρ,σ,Q=>vT e ρ σ (Kn Q)
 |.ite t b o,ρ,σ,Q=>vT t ρ σ (Ko (vT b) (vT o) ρ Q)
 |.bz e,ρ,σ,Q=>vE e ρ σ (sY c f k E ρ Q)
 |_,ρ,σ,Q=>False
end
end
noncomputable abbrev ww (P:Lo→S→Prop)(Q:Fl→Lo→S→Prop):Fl→Lo→S→Prop
 |.next,ρ,σ=>P ρ σ
 |fl,ρ,σ=>Q fl ρ σ
noncomputable abbrev A7 (Q:Fl→Lo→S→Prop)(ρ:Lo)(i:Nat):V→S→Prop:=λr σ=>Q .next (gk ρ i (some r)) σ
noncomputable abbrev Kq (Q:Fl→Lo→S→Prop)(ρ:Lo):V→S→Prop:=λr σ=>Q (.ret r) ρ σ
noncomputable abbrev Kr (Q:Fl→Lo→S→Prop)(ρ:Lo):V→S→Prop:=λr σ=>A5 (Q .next ρ σ) r
noncomputable def LP(T:(Value→Shared→Prop)→Lo→S→(Bool→S→Prop)→Prop)(B:(Value→Shared→Prop)→Lo→S→(Fl→Lo→S→Prop)→Prop)(ρ:Lo)(σ:S)(Q:Fl→Lo→S→Prop):Prop:=
 ∃(J:Nat→Lo→S→Prop) (n:Nat),J n ρ σ∧∀E n ρ σ,J n ρ σ→T E ρ σ λx ah=>Br x (B E ρ ah (js (λρ' af=>∃m,m<n∧J m ρ' af) Q)) (Q .next ρ ah)
noncomputable def FP(c:Cx)(B:(Value→Shared→Prop)→Lo→S→(Fl→Lo→S→Prop)→Prop)(ix:Nat)(ρ:Lo)(Q:Fl→Lo→S→Prop)(r:V)(σ:S):Prop:=
 ∃(l:List V) (ok:S→Prop) (J:Nat→Lo→S→Prop),bI c σ r l ok∧J 0 ρ σ∧(∀i ρ σ,J i ρ σ→ok σ)∧
   (∀E i r ρ σ,l[i]? =some r→J i ρ σ→B E (gk ρ ix (some r)) σ (js (J (i+1)) Q))∧(∀ρ σ,J l.length ρ σ→Q .next ρ σ)
section
variable (c:Cx)(f:Fm)(k:Nat)
noncomputable abbrev A8:RS→Bool
 |.nil=>true
 |_=>false
noncomputable abbrev A9 (b:Bool)(A B:Prop):Prop:=match b with
 |true=>A
 |false=>B
noncomputable abbrev Ks (W:Lo→S→(Fl→Lo→S→Prop)→Prop)(Q:Fl→Lo→S→Prop):Lo→S→Prop:=λρ σ=>W ρ σ Q
noncomputable abbrev Kt (n:Str)(Q:S→Prop)(r:V):V→S→Prop:=λov σ=>SA c n Q ov r σ
noncomputable abbrev Ku (n:Str)(W:Lo→S→(V→S→Prop)→Prop)(ρ:Lo)(Q:Fl→Lo→S→Prop):V→S→Prop:=λr σ=>W ρ σ (Kt c n (Q .next ρ) r)
noncomputable abbrev Kv (E:Value→Shared→Prop)(ρ:Lo)(Q:Fl→Lo→S→Prop)(r a b:V)(σ:S):Prop:=OU c f E k setOp [a,b,r] ρ σ (Q .next ρ)
noncomputable abbrev Kw (E:Value→Shared→Prop)(W W':Lo→S→(V→S→Prop)→Prop)(ρ:Lo)(Q:Fl→Lo→S→Prop):V→S→Prop:=λr σ=>W ρ σ (qE W' ρ (Kv c f k E ρ Q r))
noncomputable abbrev Kx (i j:Nat)(ρ:Lo)(Q:Fl→Lo→S→Prop):V→S→Prop:=λr σ=>A4 (λa b=>Q .next (gk (gk ρ i (some a)) j (some b)) σ) r
noncomputable abbrev Ky (i:Nat)(a:Int)(ρ:Lo)(Q:Fl→Lo→S→Prop):V→S→Prop:=λr σ=>wv (λb=>Q .next (gk ρ i (some (.int (a+b)))) σ) r
noncomputable abbrev Kz (A B:Lo→S→(Fl→Lo→S→Prop)→Prop)(ρ:Lo)(Q:Fl→Lo→S→Prop):Bool→S→Prop:=λx σ=>Br x (A ρ σ Q) (B ρ σ Q)
noncomputable abbrev vX:RS→(Value→Shared→Prop)→Lo→S→(Fl→Lo→S→Prop)→Prop
 |.nil,E,ρ,σ,Q=>Q .next ρ σ
 |.seq s r,E,ρ,σ,Q=>A9 (A8 r) (vX s E ρ σ Q) (vX s E ρ σ (ww (Ks (vX r E) Q) Q))
 |.asg i e,E,ρ,σ,Q=>vE c f k E e ρ σ (A7 Q ρ i)
 |.cf o n e,E,ρ,σ,Q=>vE c f k E e ρ σ (Ku c n (vE c f k E o) ρ Q)
 |.cw o i e,E,ρ,σ,Q=>vE c f k E e ρ σ (Kw c f k E (vE c f k E o) (vE c f k E i) ρ Q)
 |.ju i j e,E,ρ,σ,Q=>c.calm=true∧vE c f k E e ρ σ (Kx i j ρ Q)
 |.aug i e,E,ρ,σ,Q=>A2 (λa=>vE c f k E e ρ σ (Ky i a ρ Q)) (hJ ρ i)
 |.ret e,E,ρ,σ,Q=>vE c f k E e ρ σ (Kq Q ρ)
 |.r6,E,ρ,σ,Q=>Q (.ret .none) ρ σ
 |.expr e,E,ρ,σ,Q=>vE c f k E e ρ σ (Kr Q ρ)
 |.ite t a b,E,ρ,σ,Q=>vT c f k E t ρ σ (Kz (vX a E) (vX b E) ρ Q)
 |.loop t b,E,ρ,σ,Q=>LP (λE=>vT c f k E t) (vX b) ρ σ Q
 |.dp ix it b,E,ρ,σ,Q=>vE c f k E it ρ σ (FP c (vX b) ix ρ Q)
 |.cont,E,ρ,σ,Q=>Q .cont ρ σ
 |.brk,E,ρ,σ,Q=>Q .brk ρ σ
 |.pass,E,ρ,σ,Q=>Q .next ρ σ
 |.raw s,E,ρ,σ,Q=>aS c f E k s ρ σ Q
end
end
end
end Mine
end
section
open Classical
namespace Mine
noncomputable section
variable {c:Cx}{f:Fm}{k:Nat}{E:Value→Shared→Prop}
theorem bf{α:Type}{a:Option α}{r:α}(h:(bif b then none else a)=some r):b=false∧a=some r:=by
 cases b with
 |true=>exact aJ h
 |false=>exact⟨rfl,h⟩
theorem fq{α β:Type}{o:Option α}{g:α→Option β}{r:β}{P:Prop}(h:ob o g=some r)(k:∀a,o=some a→g a=some r→P):P:=by
 cases o with
 |none=>exact aJ h
 |some a=>exact k a rfl h
theorem wx{α β:Type}{o:Option α}{g:α→β}{d r:β}{P:Prop}(h:oc o g d=r)(k:∀a,o=some a→g a=r→P)(k':o=none→d=r→P):P:=by
 cases o with
 |none=>exact k' rfl h
 |some a=>exact k a rfl h
theorem s6{α:Type}{x y r:α}{P:Prop}(h:(bif b then x else y)=r)(k:b=true→x=r→P)(k':b=false→y=r→P):P:=by
 cases b with
 |true=>exact k rfl h
 |false=>exact k' rfl h
theorem s7{x:Str×Pos}(h:qC e=some x):e= .Name x.1 x.2:=by
 cases e with
 |Name a b=>(injection h with h;subst h);rfl
 |_=>exact aJ h
theorem KA{k:Const}(h:AO e=some k):oG e=false∧∃a p,e= .Constant k a p:=by
 cases e with
 |Constant x a p=>cases h;exact⟨rfl,_,_,rfl⟩
 |_=>exact aJ h
theorem KC{k:Const}{n:Nat}(h:AR k=some n):k= .int (Int.ofNat n):=by
 cases k with
 |int i=>
  cases i with
  |ofNat m=>cases h;rfl
  |negSucc m=>exact aJ h
 |_=>exact aJ h
theorem KD{α:Type}{l:List α}{a:α}(h:AP l=some a):l= [a]:=by
 cases l with
 |nil=>exact aJ h
 |cons x l=>cases l with
  |nil=>cases h;rfl
  |cons _ _=>exact aJ h
theorem KE{α:Type}{l:List α}{a:α×α}(h:AQ l=some a):l= [a.1,a.2]:=by
 cases l with
 |nil=>exact aJ h
 |cons x l=>cases l with
  |nil=>exact aJ h
  |cons y l=>cases l with
   |nil=>(injection h with h;subst h);rfl
   |cons _ _=>exact aJ h
theorem s8(h:qD P r):∃b,r= .bool b∧P b:=by
 cases r<;>first|exact h.elim|exact⟨_,rfl,h⟩
theorem A'(h:wv P r):∃b,r= .int b∧P b:=by
 cases r<;>first|exact h.elim|exact⟨_,rfl,h⟩
theorem KG(h:m4 c f k E op ρ Q a b σ):OV c f E k (jh op) [a,b] ρ σ Q:=by
 cases a with
 |int x=>
  cases b with
  |int y=>cases op with
   |Add=>exact OV.add h
   |Sub=>exact OV.sub h
   |_=>exact h
  |_=>exact h
 |_=>exact h
theorem Ba(h:dC c f k E op ρ Q a b σ):OV c f E k (bY op) [a,b] ρ σ Q:=by
 cases a with
 |int x=>
  cases b with
  |int y=>cases op with
   |Lt=>exact OV.ltI h
   |Gt=>exact OV.Fo h
   |LtE=>exact OV.Fp h
   |GtE=>exact OV.Fq h
   |Eq=>exact OV.Ft h
   |NotEq=>exact OV.Fu h
   |_=>exact h
  |_=>exact h
 |str x=>
  cases b with
  |str y=>cases op with
   |Lt=>exact OV.Fs h
   |Eq=>exact OV.Fv h
   |NotEq=>exact OV.Fw h
   |_=>exact h
  |_=>exact h
 |_=>exact h
theorem qF{P:Prop}(h:oH (small n l) P):small n l=true∧P:=by
 cases q:small n l with
 |true=>rw[q]at h;exact⟨rfl,h⟩
 |false=>rw[q]at h;exact h.elim
theorem KH(h:sZ P o):∃r,o=some r∧P r:=by
 cases o with
 |none=>exact h.elim
 |some r=>exact⟨r,rfl,h⟩
theorem KI{ρ:Lo}(h:A1 P (hJ ρ i)):∃r,ρ[i]? =some (some r)∧P r:=by
 rw[qz]at h
 cases q:ρ[i]? with
 |none=>rw[q]at h;exact h.elim
 |some o=>
  rw[q]at h
  cases o with
  |none=>exact h.elim
  |some v=>exact⟨_,rfl,h⟩
theorem KJ{ρ:Lo}(h:A3 P (hJ ρ i)):∃r,ρ[i]? =some (some (.val r))∧P r:=by
 rw[qz]at h
 cases q:ρ[i]? with
 |none=>rw[q]at h;exact h.elim
 |some o=>
  rw[q]at h
  cases o with
  |none=>exact h.elim
  |some v=>cases v<;>first|exact⟨_,rfl,h⟩|exact h.elim
theorem KL(h:A4 P r):∃a b,r= .tup [a,b]∧P a b:=by
 cases r with
 |tup l=>
  cases l with
  |nil=>exact h.elim
  |cons a l=>
   cases l with
   |nil=>exact h.elim
   |cons b l=>
    cases l with
    |nil=>exact⟨a,b,rfl,h⟩
    |cons _ _=>exact h.elim
 |_=>exact h.elim
theorem KN{P:Prop}{r:V}(h:A5 P r):r.plain∧P:=by
 cases r<;>first|exact⟨trivial,h⟩|exact h
theorem KO(h:lB c f k E ρ Q n a σ):IX c f k E ρ Q a (.int (Int.ofNat n)) σ:=by
 cases a with
 |tup l=>
  refine XA (qF h) λhs h=>?_
  refine ak (KH h) λr hr h=>?_
  rw[qz]at hr
  have h1:=AK 100 l hs
  have h2:=be hr
  exact λvalue c6 so=>OV.zL (Int.natCast_nonneg n) (by show (n:Int)<_;exact M2 [_,_] [] 0x8000000000000000011061150010111642100110 rfl h1 h2) (by exact hr) h so
 |_=>exact h
theorem s9(h:sY c f k E ρ Q r σ):OB c f E k (λvs=>truthy (vs.getD 0 .none)) [r] ρ σ Q:=by
 cases r with
 |bool b=>exact OB.bool h
 |_=>exact h
theorem Bb(h:oG s=false):my s:=by
 intro a i u
 cases s<;>first|rfl|exact dG h
theorem KP(T:au c)(h:AN r=some v):r= .val v∧Callee c v:=by
 cases r with
 |val w=>
  cases w with
  |ref a=>
   replace h:(bif fk.contains a then some (.ref a) else none)=some v:=h
   cases q:fk.contains a with
   |true=>rw[q]at h;(injection h with h;subst h);exact⟨rfl,.inl (T.keep a (List.contains_iff_mem.mp q))⟩
   |false=>rw[q]at h;exact aJ h
  |builtin i=>(injection h with h;subst h);exact⟨rfl,ly⟩
  |type i=>(injection h with h;subst h);exact⟨rfl,Jz⟩
  |_=>exact aJ h
 |_=>exact aJ h
theorem Bc(h:AM e=false)(env:Env):starEach (e::es) env= (false,eval e env)::starEach es env:=by
 cases e<;>first|rfl|exact dG h
theorem wy:∀{r:RE},kD rec es=some r→(starEach es env).any (·.1)=false:=by
 induction es with
 |nil=>exact λq_=>rfl
 |cons e es ih=>exact λh=>pH h (λq_ h=>aJ h) λhs h=>eX (wn h) λx y h1 h2 er=>ae (Bc hs _) (ih h2)
noncomputable def jx(c:Cx)(f:Fm)(k:Nat)(E:Value→Shared→Prop)(rec:Expr→Option RE):Prop:=∀e r,rec e=some r→∀ρ σ Q,vE c f k E r ρ σ Q→EV c f E k e ρ σ Q
noncomputable def tc(c:Cx)(f:Fm)(k:Nat)(E:Value→Shared→Prop)(rec:Expr→Option RE):Prop:=∀e r,rec e=some r→∀ρ σ Q,vT c f k E r ρ σ Q→ET c f E k e ρ σ Q
theorem bQ.mono (x:bQ c f E k es ρ σ Q)(h:∀r af,Q r af→Q' r af):bQ c f E k es ρ σ Q':=λp s i=>
 wpAny_mono (x p s i) (λv s' z=>by exact z.el λr af a b d e=>⟨r,af,a,b,d,h _ _ e⟩) λq_ q_ z=>z
theorem qG(R:jx c f k E rec):∀{r:RE},kD rec es=some r→∀{ρ σ Q},m5 c f k E r ρ σ Q→bQ c f E k es ρ σ Q:=by
 induction es with
 |nil=>intro r h;cases Option.some.inj h;exact bQ.nil
 |cons e es ih=>
  refine λh=>pH h (λq_ h=>aJ h) λhs h=>hO h λx y h1 h2=>?_
  exact λq=>bQ.cons ((R e x h1 _ _ _ q).mono λr af z=>ih h2 z) (Bc hs _)
theorem KQ(R:jx c f k E rec):∀{r:RE},mZ rec .and es=some r→∀{ρ σ Q},vE c f k E r ρ σ Q→EV c f E k (.BoolOp .And es pos) ρ σ Q:=by
 induction es with
 |nil=>exact λh=>aJ h
 |cons e es ih=>
  intro r h
  cases es with
  |nil=>exact λq=>EV.vH (R e r h _ _ _ q)
  |cons e2 es=>
   refine hO h λx y h1 h2=>?_
   exact λq=>EV.Au ((R e x h1 _ _ _ q).mono λr af z=>ak (s8 z) λb e z=>cA b e (λhb=>ih h2 (z.1 hb)) z.2)
theorem KR(R:jx c f k E rec):∀{r:RE},mZ rec .or es=some r→∀{ρ σ Q},vE c f k E r ρ σ Q→EV c f E k (.BoolOp .Or es pos) ρ σ Q:=by
 induction es with
 |nil=>exact λh=>aJ h
 |cons e es ih=>
  intro r h
  cases es with
  |nil=>exact λq=>EV.vH (R e r h _ _ _ q)
  |cons e2 es=>
   refine hO h λx y h1 h2=>?_
   exact λq=>EV.Iu ((R e x h1 _ _ _ q).mono λr af z=>ak (s8 z) λb e z=>cA b e z.1 (λhb=>ih h2 (z.2 hb)))
theorem KS(R:tc c f k E rec):∀{r:RE},mZ rec .and es=some r→∀{ρ σ Q},vT c f k E r ρ σ Q→ET c f E k (.BoolOp .And es pos) ρ σ Q:=by
 induction es with
 |nil=>exact λh=>aJ h
 |cons e es ih=>
  intro r h
  cases es with
  |nil=>exact λq=>ET.Ar ((R e r h _ _ _ q).mono λb af z=>⟨λhb=>ET.Fx (hb▸z),λhb=>hb▸z⟩)
  |cons e2 es=>
   refine hO h λx y h1 h2=>?_
   exact λq=>ET.Ar ((R e x h1 _ _ _ q).mono λb af z=>⟨λhb=>ih h2 (z.1 hb),z.2⟩)
theorem KU(R:tc c f k E rec):∀{r:RE},mZ rec .or es=some r→∀{ρ σ Q},vT c f k E r ρ σ Q→ET c f E k (.BoolOp .Or es pos) ρ σ Q:=by
 induction es with
 |nil=>exact λh=>aJ h
 |cons e es ih=>
  intro r h
  cases es with
  |nil=>exact λq=>ET.As ((R e r h _ _ _ q).mono λb af z=>⟨λhb=>hb▸z,λhb=>ET.Fy (hb▸z)⟩)
  |cons e2 es=>
   refine hO h λx y h1 h2=>?_
   exact λq=>ET.As ((R e x h1 _ _ _ q).mono λb af z=>⟨z.1,λhb=>ih h2 (z.2 hb)⟩)
theorem KV(h:AW e=some n):oG e=false∧∃a p,e= .Constant (.int (Int.ofNat n)) a p:=
 fq h λx hx h=>fq h λm hm h=>s6 h (λq_ h=>by cases h;exact KC hm▸KA hx) λq_ h=>nomatch h
theorem KW(h:AV f.N f.G x=some r)(q:vE c f k E r ρ σ Q):EV c f E k (.Name x pos) ρ σ Q:=by
 refine wx h (λi hi h=>?_) λq_ h=>?_
 ·(injection h with h;subst h)
  refine ak (KI q) λr hr q=>?_
  exact EV.loc (jv hi) hr q
 ·revert q;refine dM h λv hv q=>?_
  exact EV.aF (AL hv) q
theorem KY(h:AU x=some r)(q:vE c f k E r ρ σ Q):EV c f E k (.Constant x n pos) ρ σ Q:=by
 cases x with
 |int i=>(injection h with h;subst h);exact EV.int q
 |str i=>(injection h with h;subst h);exact EV.str q
 |bool i=>(injection h with h;subst h);exact EV.EQ q
 |none=>(injection h with h;subst h);exact EV.ER q
 |_=>exact aJ h
theorem KZ(T:au c)(R:jx c f k E rec)(h:AS f.N f.G x (kD rec as)=some r)(q:vE c f k E r ρ σ Q):EV c f E k (.Call (.Name x p) as [] pos) ρ σ Q:=by
 refine wx h (λi hi h=>?_) λq_ h=>?_
 ·revert q;refine dM h λy hy q=>?_
  refine ak (KJ q) λv hv q=>?_
  exact EV.ln (jv hi) hv q.1 (qG R hy q.2) (wy hy)
 ·refine fq h λv hv h=>fq h λw hw h=>?_
  revert q;refine dM h λy hy q=>?_
  obtain ⟨rfl,hk⟩:=KP T hw
  exact EV.sq (AL hv) hk (qG R hy q) (wy hy)
theorem K0(h:lA o=false)(t:Sem Value):attributeBase o x env t=t:=by
 cases o<;>first|rfl|exact dG h
theorem Be{l:List V}(h:small 40 l=true):l.length≤sizeLine:=by
 have:=AK _ _ h
 exact ae sizeLine_eq (Nat.le_trans (by assumption) (aD rfl))
theorem EV.K1 (h:bQ c f E k es ρ σ λrs ah=>rs.length≤sizeLine∧aZ rs ah Q):EV c f E k (.List es pos) ρ σ Q:=λs I=>by
 refine List_ (wpAny_mono (h pos s I) (λvs aw z=>?_) λq_ q_ z=>z)
 refine z.el λrs ah aB aP ag zz=>yI zz λhl t cy=>?_
 have kk:∀b o,aw.heap.get? b=some o→(aw.heap.push {cls:=.type "list",data:=.seq vs.toArray}).get? b=some o:=λb o e=>Heap.get?_push_of_some _ e
 refine XA (aB.new (tk:=aw.toks) (o:=.list t rs) (none_at_size _) kk ⟨vs.toArray,0,Heap.get?_push_size _ rfl,aP.mono (ed kk)⟩ (jg aB.st)) λaR aj=>?_
 refine wpAny_newObj_type ⟨_,_,aR,.val _,ag.trans aj,cy.go _ (aB.st.fresh (none_at_size _)).1⟩ ?_
 show vs.toArray.size≤sizeLine
 refine ae List.size_toArray (ae aP.length ?_);exact hl
theorem Bf(R:jx c f k E rec)(h:wq rec l jw rs=some r):∃op r' x y,jw= [op]∧rs= [r']∧behindInMarks op r'=false∧rec l=some x∧rec r'=some y∧r= .cmp op x y:=by
 cases jw with
 |nil=>exact aJ h
 |cons op jw=>
  cases jw with
  |cons _ _=>exact aJ h
  |nil=>
   cases rs with
   |nil=>exact aJ h
   |cons r' rs=>
    cases rs with
    |cons _ _=>exact aJ h
    |nil=>
    refine XA (bf (r:=r) (b:=behindInMarks op r') (a:=fN (RE.cmp op) (rec l) (rec r')) h) λhm h=>?_
    refine eX (wn h) λx y h1 h2 h3=>?_
    exact rS op r' x y rfl rfl hm h1 h2 h3
theorem K2(R:jx c f k E rec)(h:AY rec o i p=some r)(q:vE c f k E r ρ σ Q):EV c f E k (.Subscript o i p) ρ σ Q:=by
 refine s6 h (λq_ h=>?_) λhs h=>wx h (λm hm h=>?_) λq_ h=>?_
 ·(injection h with h;subst h);exact q
 ·revert q;refine dM h λx h1 q=>?_
  refine XA (KV hm) λq_ K3=>?_
  refine jO K3 λa p' K4=>?_
  subst K4
  exact EV.sub ((R _ _ h1 _ _ _ q).mono λa ah z=>EV.int (KO z _ _ (Bb hs)))
 ·revert q;refine hO h λx y h1 h2 q=>?_
  exact EV.sub ((R _ _ h1 _ _ _ q).mono λa ah z=>(R _ _ h2 _ _ _ z).mono λb av z=>z _ _ (Bb hs))
theorem K5(T:au c)(R:jx c f k E rec)(h:AZ f.N f.G rec as p g=some r)(q:vE c f k E r ρ σ Q):EV c f E k (.Call g as [] p) ρ σ Q:=by
 cases g with
 |Name x p'=>exact KZ T R h q
 |Attribute o x ap=>
  refine XA (bt (r:=r) (b:=(ap.endLine==p.line)&&decide (as.length<30)&& !lA o) (a:=fN (λo as=>RE.ax o x as) (rec o) (kD rec as)) h) λhc h=>?_
  rw[Bool.and_eq_true,Bool.and_eq_true,Bool.not_eq_true']at hc
  revert q;refine hO h λx y h1 h2 q=>?_
  refine EV.ax ((R _ _ h1 _ _ _ q).mono λr ah z=>?_) (wy h2) hc.1.1 hc.1.2 (K0 hc.2)
  refine bG ((z:ME c _ _ r ah)) λv a1 a2 a3=>?_
  exact cA v a1 a2 (qG R h2 a3)
 |_=>exact aJ h
theorem K6{pos:Pos}(h:lA o=false):eval (.Attribute o name pos) env= (do
     let o'←eval o env
     standAt pos.atName
     let r←holding [o'] (getAttr o' name true)
     letTemporaryGo o o' r
     pure r):=by
 cases o<;>first|rfl|exact dG h
theorem sE(T:au c):∀n,jx c f k E (cE f.N f.G n)∧tc c f k E (cT f.N f.G n):=by
 intro n
 induction n with
 |zero=>exact⟨λe r h=>(by exact aJ h),λe r h=>(by exact aJ h)⟩
 |succ n ih=>
  obtain ⟨R,RT⟩:=ih
  refine⟨λe r h ρ σ Q q=>?_,λe r h ρ σ Q q=>?_⟩
  ·cases e with
   |Name x p=>exact KW h q
   |Constant x m p=>exact KY h q
   |BinOp l op r' p=>
    revert q;refine hO h λx y h1 h2 q=>?_
    exact EV.binop ((R _ _ h1 _ _ _ q).mono λa ah z=>(R _ _ h2 _ _ _ z).mono λb av z=>KG z)
   |Compare l jw rs p=>
    refine uz (Bf R h) λop r' x y K7 K8 hm h1 h2 K9=>?_
    subst K7
    subst K8
    subst K9
    exact EV.cmp ((R _ _ h1 _ _ _ q).mono λa ah z=>(R _ _ h2 _ _ _ z).mono λb av z=>Ba z) hm
   |BoolOp op es p=>
    cases op with
    |And=>exact KQ R h q
    |Or=>exact KR R h q
   |UnaryOp op e p=>
    cases op with
    |Not=>
     revert q;refine dM h λx h1 q=>?_
     exact EV.not ((R _ _ h1 _ _ _ q).mono λa ah z=>s8 z)
    |USub=>
     revert q;refine dM h λx h1 q=>?_
     exact EV.neg ((R _ _ h1 _ _ _ q).mono λa ah z=>A' z)
    |_=>exact aJ h
   |IfExp t b o p=>
    revert q;refine wo h λx y z h1 h2 h3 q=>?_
    exact EV.qp ((RT _ _ h1 _ _ _ q).mono λb ah w=>⟨λhb=>R _ _ h2 _ _ _ (w.1 hb),λhb=>R _ _ h3 _ _ _ (w.2 hb)⟩)
   |Tuple es m p=>
    revert q;refine dM h λx h1 q=>?_
    exact EV.tup ((qG R h1 q).mono λrs ah z=>⟨Be (qF z).1,(qF z).2⟩)
   |List es p=>
    revert q;refine dM h λx h1 q=>?_
    exact EV.K1 ((qG R h1 q).mono λrs ah z=>⟨Be (qF z).1,(qF z).2⟩)
   |Dict ks vs p=>
    cases ks with
    |cons _ _=>exact aJ h
    |nil=>
     cases vs with
     |cons _ _=>exact aJ h
     |nil=>
      (injection h with h;subst h)
      refine ak ((q:cW σ Q)) λo ho hf=>?_
      exact EV.JU o ho hf
   |Subscript o i p=>exact K2 R h q
   |Attribute o x p=>
    obtain ⟨hc,h⟩:=bf (r:=r) (b:=lA o) (a:=dj (λo=>RE.attr o x) (cE f.N f.G n o)) h
    revert q;refine dM h λx h1 q=>?_
    exact EV.at ((R _ _ h1 _ _ _ q).mono λr ah z=>z) (K6 hc)
   |Call g as ks p=>
    cases ks with
    |cons _ _=>exact aJ h
    |nil=>exact K5 T R h q
   |ListComp a b d p=>(injection h with h;subst h);exact q
   |_=>exact aJ h
  ·cases e with
   |Compare l jw rs p=>
    refine uz (Bf R h) λop r' x y K' La hm h1 h2 Lb=>?_
    subst K'
    subst La
    subst Lb
    refine ET.cmp ((R _ _ h1 _ _ _ q).mono λa ah z=>(R _ _ h2 _ _ _ z).mono λb av z=>?_) hm
    have z:=Ba z
    intro s vs I hv
    exact wpAny_mono (z s vs I hv) (λv s' w=>by exact w.el λr af a b d e=>⟨r,af,a,b,d,s8 e⟩) λq_ q_ z=>z
   |BoolOp op es p=>
    cases op with
    |And=>exact KS RT h q
    |Or=>exact KU RT h q
   |UnaryOp op e p=>
    cases op with
    |Not=>
     revert q;refine dM h λx h1 q=>?_
     exact ET.not (RT _ _ h1 _ _ _ q)
    |_=>exact aJ h
   |Name a b=>
    revert q;refine dM h λx h1 q=>?_
    exact ET.plain ((R _ _ h1 _ _ _ q).mono λa ah z=>s9 z) (λq_=>rfl)
   |Constant a b d=>
    revert q;refine dM h λx h1 q=>?_
    exact ET.plain ((R _ _ h1 _ _ _ q).mono λa ah z=>s9 z) (λq_=>rfl)
   |Call a b d e=>
    revert q;refine dM h λx h1 q=>?_
    exact ET.plain ((R _ _ h1 _ _ _ q).mono λa ah z=>s9 z) (λq_=>rfl)
   |Subscript a b d=>
    revert q;refine dM h λx h1 q=>?_
    exact ET.plain ((R _ _ h1 _ _ _ q).mono λa ah z=>s9 z) (λq_=>rfl)
   |_=>exact aJ h
theorem qH(h:gm e=false):swapsWith e t n env=pure false:=by
 cases e<;>first|rfl|exact dG h
theorem Lc(h:gm e=false):swapsWithSole [t] e n env=pure false:=qH h
theorem Ld(ok:f.Ok c):interactive f.env=false:=by unfold interactive;exact ae ok.kind rfl
noncomputable def Bg(c:Cx)(f:Fm)(k:Nat)(rec:Stmt→Option RS):Prop:=∀s r,rec s=some r→∀E ρ σ Q,vX c f k r E ρ σ Q→aS c f E k s ρ σ Q
theorem Lf{A B C:Prop}(h:A9 b A B)(h1:b=true→A→C)(h2:B→C):C:=by
 cases b with
 |true=>exact h1 rfl h
 |false=>exact h2 h
theorem Lg(h:wr o=true):o= .Add:=by
 cases o<;>first|rfl|exact cj h
theorem Lh(h:A8 y=true):y= .nil:=by
 cases y<;>first|rfl|exact cj h
theorem oJ(R:Bg c f k rec)(ss:List Stmt):∀{r:RS},m0 rec ss=some r→∀{E ρ σ Q},vX c f k r E ρ σ Q→EX c f E k ss ρ σ Q:=by
 induction ss with
 |nil=>intro r h;cases Option.some.inj h;exact EX.nil
 |cons s ss ih=>
  refine λh=>hO h λx y h1 h2=>?_
  refine λq=>Lf q (λhn q=>?_) λq=>?_
  ·refine EX.cons ((R s x h1 _ _ _ _ q).mono λfl ρ' af z=>?_)
   cases fl with
   |next=>exact ih h2 (Lh hn▸z)
   |_=>exact z
  ·refine EX.cons ((R s x h1 _ _ _ _ q).mono λfl ρ' af z=>?_)
   cases fl with
   |next=>exact ih h2 z
   |_=>exact z
theorem Li(h:isTup e=false):swappedStores [.Tuple [x,y] n p] e env=pure none:=by
 cases e<;>first|rfl|exact dG h
theorem wA(h:qB it=false)(x:Value):foldedSetIterable it env x=pure x:=by
 cases it<;>first|rfl|exact dG h
theorem Lj(T:au c)(fM:f.inner=false)(h:A0 f.N f.G e p t=some r)(q:vX c f k r E ρ σ Q):aS c f E k (.Assign [t] e p) ρ σ Q:=by
 have R1:jx c f k E (cE f.N f.G 20):=(sE T 20).1
 have hk:∀x,f.env.kindOf x=some .local∨f.inner=false:=λq_=>.inr fM
 cases t with
 |Name x p'=>
  refine s6 h (λq_ h=>?_) λhc h=>fq h λi hi h=>?_
  ·(injection h with h;subst h);exact q
  ·revert q;refine dM h λy h1 q=>?_
   exact aS.assign (jv hi) ((R1 _ _ h1 _ _ _ q).mono λr af z=>by exact aU (mY ..) z) (qH hc) (hk x)
 |Attribute o x p'=>
  refine(bf (b:=gm e||lA o) h).elim λhc h=>?_
  rw[Bool.or_eq_false_iff]at hc
  revert q;refine hO h λy z h1 h2 q=>?_
  exact aS.Hg ((R1 _ _ h2 _ _ _ q).mono λr ah w=>(R1 _ _ h1 _ _ _ w).mono λov av w=>w) (qH hc.1)
 |Subscript o i p'=>
  refine(bf (b:=gm e||oG i) h).elim λhc h=>?_
  rw[Bool.or_eq_false_iff]at hc
  revert q;refine wo h λy z w h1 h2 h3 q=>?_
  exact aS.Go ((R1 _ _ h3 _ _ _ q).mono λr ah w=>(R1 _ _ h1 _ _ _ w).mono λov av w=>(R1 _ _ h2 _ _ _ w).mono λb aW w=>w) (qH hc.1)
 |Tuple es n' tp=>
  refine(bf (b:=gm e||isTup e) h).elim λhc h=>?_
  rw[Bool.or_eq_false_iff]at hc
  refine fq h λz hz h=>fq h λx hx h=>fq h λy hy h=>fq h λi hi h=>fq h λj hj h=>?_
  revert q;refine dM h λw h1 q=>?_
  refine ae (KE hz) (ae (s7 hx) (ae (s7 hy) ?_))
  refine aS.unpack q.1 ((R1 _ _ h1 _ _ _ q.2).mono λr ah w=>?_) (Lc hc.1) (Li hc.2) (λq_=>rfl)
  refine eE (KL w) λa b Lk w=>?_
  subst Lk
  refine eY _ _ rfl (.cons (jv hi) (hk _) (.cons (jv hj) (hk _) .nil)) ?_
  refine aU (mY ..) (aU (mY ..) ?_);exact w
 |_=>exact aJ h
theorem Ll{ρ:Lo}(h:A2 P (hJ ρ i)):∃a,ρ[i]? =some (some (.int a))∧P a:=by
 rw[qz]at h
 cases q:ρ[i]? with
 |none=>rw[q]at h;exact h.elim
 |some o=>
  rw[q]at h
  cases o with
  |none=>exact h.elim
  |some v=>cases v<;>first|cases h;done|exact⟨_,rfl,h⟩
theorem sS(T:au c)(fM:f.inner=false)(cG:f.Ok c):∀n,Bg c f k (cS f.N f.G n):=by
 intro n
 induction n with
 |zero=>exact λe r h=>(by exact aJ h)
 |succ n R=>
  intro s r h E ρ σ Q q
  have R1:jx c f k E (cE f.N f.G 20):=(sE T 20).1
  have RT:∀E,tc c f k E (cT f.N f.G 20):=λE=>(sE T 20).2
  have hk:∀x,f.env.kindOf x=some .local∨f.inner=false:=λq_=>.inr fM
  cases s with
  |Assign ts e p=>
   refine fq h λt ht h=>?_
   refine ae (KD ht) ?_
   exact Lj T fM h q
  |AugAssign t op e p=>
   refine fq h λx hx h=>(bt (b:=wr op) h).elim λho h=>?_
   refine ae (s7 hx) ?_
   refine s6 h (λq_ h=>?_) λq_ h=>fq h λi hi h=>(bf (b:=gm e) h).elim λhc h=>?_
   ·(injection h with h;subst h);exact q
   ·revert q;refine dM h λy h1 q=>?_
    refine ak (Ll q) λa ha q=>?_
    refine ae (Lg ho) ?_
    refine aS.G7 (jv hi) ha ((R1 _ _ h1 _ _ _ q).mono λr ah w=>?_) (hk _)
    refine ak (A' w) λb e w=>?_
    refine⟨b,e,?_⟩
    exact aU (mY ..) w
  |Return e p=>
   cases e with
   |none=>(injection h with h;subst h);exact aS.r6 q
   |some e=>
    revert q;refine dM h λy h1 q=>?_
    exact aS.ret (R1 _ _ h1 _ _ _ q)
  |Expr e p=>
   refine(bf (b:=gm e) h).elim λhc h=>?_
   revert q;refine dM h λy h1 q=>?_
   exact aS.expr ((R1 _ _ h1 _ _ _ q).mono λr ah w=>KN w) (Ld cG) (qH hc)
  |If t a b p=>
   revert q;refine wo h λx y z h1 h2 h3 q=>?_
   exact aS.qp ((RT E _ _ h1 _ _ _ q).mono λb ah w=>⟨λhb=>oJ R _ h2 (w.1 hb),λhb=>oJ R _ h3 (w.2 hb)⟩)
  |While t b o p=>
   refine(bt (b:=o.isEmpty) h).elim λho h=>?_
   refine ae (List.isEmpty_iff.mp ho) ?_
   revert q;refine hO h λx y h1 h2 q=>?_
   refine eE q λJ n j step=>?_
   exact aS.Iv J j λE n ρ σ j=>(RT E _ _ h1 _ _ _ (step E n ρ σ j)).mono λb ah w=>⟨λhb=>oJ R _ h2 (w.1 hb),w.2⟩
  |For t it b o p=>
   refine(bt (b:=o.isEmpty) h).elim λho h=>?_
   refine ae (List.isEmpty_iff.mp ho) ?_
   refine fq h λx hx h=>fq h λi hi h=>(bf (b:=qB it) h).elim λhc h=>?_
   refine ae (s7 hx) ?_
   revert q;refine hO h λy z h1 h2 q=>?_
   refine aS.Iw (jv hi) ((R1 _ _ h1 _ _ _ q).mono λr ah w=>?_) (wA hc) (hk _)
   refine iz w λl ok J w1 w2 w3 w4 w5=>?_
   exact jR l ok J w1 w2 w3 (λE i r ρ σ a b=>by exact aU (mY ..) (oJ R _ h2 (w4 E i r ρ σ a b))) w5
  |Continue p=>(injection h with h;subst h);exact aS.cont q
  |Break p=>(injection h with h;subst h);exact aS.brk q
  |Pass p=>(injection h with h;subst h);exact aS.pass q
  |_=>(injection h with h;subst h);exact q
noncomputable def rd(j:Nat):Option RS:=m0 (cS (fn j).N (fn j).G 9) (fn j).body
structure Rd(j a n m:Nat)(r:RS):Prop where
 s:Sh j a n m
 e:rd j=some r
 b:Bd j n
theorem gD{args cF:List V}(T:au c)(s:Sh j a n m)(e:rd j=some r)(hl:(args++cF).length=n)(b:Binds c (fn j) args.length cF)
  (h:∀L A stack E,vX c ((fn j).fm L A stack) k r E (fr (args++cF) m) σ (aq Q)):CC c (k+1) (.ref a) args σ Q:=
 gC T s hl b λL A stack E s I=>oJ (sS T rfl I.ok 9) _ e (h L A stack E) s I
theorem gF{args:List V}(R:Rd j a n m r)(T:au c)(hl:args.length=n)
  (h:∀L A stack E,vX c ((fn j).fm L A stack) k r E (fr args m) σ (aq Q)):CC c (k+1) (.ref a) args σ Q:=by
 refine gD (cF:= []) T R.s R.e (by exact ae (List.append_nil ..) hl) ?_ λL A stack E=>by exact ae (List.append_nil ..) (h L A stack E)
 have e:(fn j).ps.length=n:=R.s.2.2.1
 exact hl.symm▸e▸Binds.plain (e.symm▸R.b)
theorem gG{args:List V}(R:Rd j a n m r)(T:au c)(hl:args.length=n)
  (h:∀f E,vX c f k r E (fr args m) σ (aq Q)):CC c (k+1) (.ref a) args σ Q:=gF R T hl λL A stack E=>h _ E
theorem gV{args:List V}(R:Rd j a n m r)(T:au c)(hl:args.length=n)
  (h:∀f E,vX c f k r E (fr args m) σ (aq Q)):CV c (k+1) (.ref a) args σ Q:=(gG R T hl h).cv
theorem gW{args:List V}(R:Rd j a n m r)(T:au c)(hl:args.length=n)
  (h:∀L A stack E,vX c ((fn j).fm L A stack) k r E (fr args m) σ (aq Q)):CV c (k+1) (.ref a) args σ Q:=(gF R T hl h).cv
end
end Mine
end
section
open Classical
namespace Mine
noncomputable section
noncomputable abbrev Lm:RS:=(.seq (.cf (.loc 0) "texts" (.list .nil)) (.seq (.cf (.loc 0) "atom_numbers" .di) (.seq (.cf (.loc 0) "functors" (.list .nil)) (.seq (.cf (.loc 0) "functor_numbers" .di) (.seq (.dp 1 (.call (.ref 80) .nil) (.seq (.expr (.ax (.loc 0) "atom" (.cons (.loc 1) .nil))) .nil)) (.seq (.dp 2 (.call (.ref 87) .nil) (.seq (.expr (.ax (.loc 0) "func" (.cons (.item (.loc 2) 0) (.cons (.item (.loc 2) 1) .nil)))) .nil)) .nil))))))
theorem Ln:Rd 4 101 1 2 Lm:=⟨⟨by decide,by rfl,by rfl,by rfl⟩,by kernel_rfl,b1 λq_=>rfl⟩
noncomputable abbrev Lp:RS:=(.seq (.asg 2 (.ax (.attr (.loc 0) "atom_numbers") "get" (.cons (.loc 1) (.cons (.neg (.int 1)) .nil)))) (.seq (.ite (.cmp .GtE (.loc 2) (.int 0)) (.seq (.ret (.loc 2)) .nil) .nil) (.seq (.asg 3 (.call (.builtin "len") (.cons (.attr (.loc 0) "texts") .nil))) (.seq (.expr (.ax (.attr (.loc 0) "texts") "append" (.cons (.loc 1) .nil))) (.seq (.cw (.attr (.loc 0) "atom_numbers") (.loc 1) (.loc 3)) (.seq (.ret (.loc 3)) .nil))))))
theorem Lq:Rd 5 108 2 2 Lp:=⟨⟨by decide,by rfl,by rfl,by rfl⟩,by kernel_rfl,b2 λq_ q_=>rfl⟩
noncomputable abbrev Lr:RS:=(.seq (.ret (.idx (.attr (.loc 0) "texts") (.loc 1))) .nil)
theorem Ls:Rd 6 115 2 0 Lr:=⟨⟨by decide,by rfl,by rfl,by rfl⟩,by kernel_rfl,b2 λq_ q_=>rfl⟩
noncomputable abbrev Lu:RS:=(.seq (.asg 3 (.tup (.cons (.loc 1) (.cons (.loc 2) .nil)))) (.seq (.asg 4 (.ax (.attr (.loc 0) "functor_numbers") "get" (.cons (.loc 3) (.cons (.neg (.int 1)) .nil)))) (.seq (.ite (.cmp .GtE (.loc 4) (.int 0)) (.seq (.ret (.loc 4)) .nil) .nil) (.seq (.asg 5 (.call (.builtin "len") (.cons (.attr (.loc 0) "functors") .nil))) (.seq (.expr (.ax (.attr (.loc 0) "functors") "append" (.cons (.loc 3) .nil))) (.seq (.cw (.attr (.loc 0) "functor_numbers") (.loc 3) (.loc 5)) (.seq (.ret (.loc 5)) .nil)))))))
theorem Lv:Rd 7 122 3 3 Lu:=⟨⟨by decide,by rfl,by rfl,by rfl⟩,by kernel_rfl,b3 λq_ q_ q_=>rfl⟩
noncomputable abbrev Lw:RS:=(.seq (.ret (.ax (.loc 0) "functor" (.cons (.ax (.loc 0) "atom" (.cons (.loc 1) .nil)) (.cons (.loc 2) .nil)))) .nil)
theorem Bh:Rd 8 129 3 0 Lw:=⟨⟨by decide,by rfl,by rfl,by rfl⟩,by kernel_rfl,b3 λq_ q_ q_=>rfl⟩
noncomputable abbrev Lx:RS:=(.seq (.ret (.item (.idx (.attr (.loc 0) "functors") (.loc 1)) 0)) .nil)
theorem Ly:Rd 9 136 2 0 Lx:=⟨⟨by decide,by rfl,by rfl,by rfl⟩,by kernel_rfl,b2 λq_ q_=>rfl⟩
noncomputable abbrev Lz:RS:=(.seq (.ret (.item (.idx (.attr (.loc 0) "functors") (.loc 1)) 1)) .nil)
theorem LA:Rd 10 143 2 0 Lz:=⟨⟨by decide,by rfl,by rfl,by rfl⟩,by kernel_rfl,b2 λq_ q_=>rfl⟩
noncomputable abbrev LB:RS:=(.seq (.ite (.cmp .Eq (.item (.loc 0) 0) (.str "v")) (.seq (.ret (.int 0)) .nil) .nil) (.seq (.ite (.cmp .Eq (.item (.loc 0) 0) (.str "i")) (.seq (.ret (.int 1)) .nil) .nil) (.seq (.ite (.cmp .Eq (.item (.loc 0) 0) (.str "a")) (.seq (.ret (.int 2)) .nil) .nil) (.seq (.ret (.int 3)) .nil))))
theorem LC:Rd 13 185 1 0 LB:=⟨⟨by decide,by rfl,by rfl,by rfl⟩,by kernel_rfl,b1 λq_=>rfl⟩
noncomputable abbrev LD:RS:=(.seq (.ite (.cmp .Eq (.loc 0) (.loc 1)) (.seq (.ret (.int 0)) .nil) .nil) (.seq (.ret (.ite (.cmp .Lt (.loc 0) (.loc 1)) (.neg (.int 1)) (.int 1))) .nil))
theorem LF:Rd 14 192 2 0 LD:=⟨⟨by decide,by rfl,by rfl,by rfl⟩,by kernel_rfl,b2 λq_ q_=>rfl⟩
noncomputable abbrev LG:RS:=(.seq (.ite (.cmp .Eq (.loc 0) (.loc 1)) (.seq (.ret (.int 0)) .nil) .nil) (.seq (.ret (.ite (.cmp .Lt (.loc 0) (.loc 1)) (.neg (.int 1)) (.int 1))) .nil))
theorem LH:Rd 15 199 2 0 LG:=⟨⟨by decide,by rfl,by rfl,by rfl⟩,by kernel_rfl,b2 λq_ q_=>rfl⟩
noncomputable abbrev te:RS:=(.seq (.asg 3 (.list (.cons (.tup (.cons (.loc 1) (.cons (.loc 2) .nil))) .nil))) (.seq (.loop (.bz (.loc 3)) (.seq (.ju 4 5 (.ax (.loc 3) "pop" .nil)) (.seq (.asg 6 (.call (.ref 199) (.cons (.call (.ref 185) (.cons (.loc 4) .nil)) (.cons (.call (.ref 185) (.cons (.loc 5) .nil)) .nil)))) (.seq (.ite (.and (.cmp .Eq (.loc 6) (.int 0)) (.cmp .Eq (.item (.loc 4) 0) (.str "a"))) (.seq (.asg 6 (.call (.ref 192) (.cons (.ax (.loc 0) "text" (.cons (.item (.loc 4) 1) .nil)) (.cons (.ax (.loc 0) "text" (.cons (.item (.loc 5) 1) .nil)) .nil)))) .nil) (.seq (.ite (.and (.cmp .Eq (.loc 6) (.int 0)) (.cmp .Eq (.item (.loc 4) 0) (.str "s"))) (.seq (.asg 6 (.call (.ref 213) (.cons (.loc 0) (.cons (.item (.loc 4) 1) (.cons (.item (.loc 5) 1) .nil))))) (.seq (.ite (.cmp .Eq (.loc 6) (.int 0)) (.seq (.dp 7 (.call (.type "range") (.cons (.bin .Sub (.call (.builtin "len") (.cons (.item (.loc 4) 2) .nil)) (.int 1)) (.cons (.neg (.int 1)) (.cons (.neg (.int 1)) .nil)))) (.seq (.expr (.ax (.loc 3) "append" (.cons (.tup (.cons (.idx (.item (.loc 4) 2) (.loc 7)) (.cons (.idx (.item (.loc 5) 2) (.loc 7)) .nil))) .nil))) .nil)) .nil) .nil) .nil)) (.seq (.ite (.cmp .Eq (.loc 6) (.int 0)) (.seq (.asg 6 (.call (.ref 199) (.cons (.item (.loc 4) 1) (.cons (.item (.loc 5) 1) .nil)))) .nil) .nil) .nil)) .nil)) (.seq (.ite (.cmp .NotEq (.loc 6) (.int 0)) (.seq (.ret (.loc 6)) .nil) .nil) .nil))))) (.seq (.ret (.int 0)) .nil)))
theorem LI:Rd 16 206 3 5 te:=⟨⟨by decide,by rfl,by rfl,by rfl⟩,by kernel_rfl,b3 λq_ q_ q_=>rfl⟩
noncomputable abbrev LJ:RS:=(.seq (.asg 3 (.call (.ref 199) (.cons (.ax (.loc 0) "arity" (.cons (.loc 1) .nil)) (.cons (.ax (.loc 0) "arity" (.cons (.loc 2) .nil)) .nil)))) (.seq (.ite (.cmp .Eq (.loc 3) (.int 0)) (.seq (.asg 3 (.call (.ref 192) (.cons (.ax (.loc 0) "text" (.cons (.ax (.loc 0) "name" (.cons (.loc 1) .nil)) .nil)) (.cons (.ax (.loc 0) "text" (.cons (.ax (.loc 0) "name" (.cons (.loc 2) .nil)) .nil)) .nil)))) .nil) .nil) (.seq (.ret (.loc 3)) .nil)))
theorem LK:Rd 17 213 3 1 LJ:=⟨⟨by decide,by rfl,by rfl,by rfl⟩,by kernel_rfl,b3 λq_ q_ q_=>rfl⟩
noncomputable abbrev LL:RS:=(.seq (.ret (.call (.ref 51) (.cons (.tup (.cons (.str "s") (.cons (.aF (.int 16)) (.cons (.tup (.cons (.loc 0) (.cons (.tup (.cons (.str "a") (.cons (.aF (.int 25)) .nil))) .nil))) .nil)))) .nil))) .nil)
theorem LM:Rd 18 220 1 0 LL:=⟨⟨by decide,by rfl,by rfl,by rfl⟩,by kernel_rfl,b1 λq_=>rfl⟩
noncomputable abbrev LN:RS:=(.seq (.asg 3 (.list .nil)) (.seq (.dp 4 (.loc 2) (.seq (.expr (.ax (.loc 3) "append" (.cons (.ite (.bz (.call (.builtin "isinstance") (.cons (.loc 4) (.cons (.aF (.val (.type "str"))) .nil)))) (.tup (.cons (.str "a") (.cons (.ax (.loc 0) "atom" (.cons (.loc 4) .nil)) .nil))) (.loc 4)) .nil))) .nil)) (.seq (.ret (.tup (.cons (.str "s") (.cons (.ax (.loc 0) "func" (.cons (.loc 1) (.cons (.call (.builtin "len") (.cons (.loc 3) .nil)) .nil))) (.cons (.call (.type "tuple") (.cons (.loc 3) .nil)) .nil))))) .nil)))
theorem LO:Rd 19 227 3 2 LN:=⟨⟨by decide,by rfl,by rfl,by rfl⟩,by kernel_rfl,b3 λq_ q_ q_=>rfl⟩
noncomputable abbrev LQ:RS:=(.seq (.ret (.call (.ref 220) (.cons (.tup (.cons (.str "a") (.cons (.ax (.loc 0) "atom" (.cons (.str "instantiation_error") .nil)) .nil))) .nil))) .nil)
theorem LR:Rd 20 234 1 0 LQ:=⟨⟨by decide,by rfl,by rfl,by rfl⟩,by kernel_rfl,b1 λq_=>rfl⟩
noncomputable abbrev LS:RS:=(.seq (.ret (.call (.ref 220) (.cons (.call (.ref 227) (.cons (.loc 0) (.cons (.str "type_error") (.cons (.tup (.cons (.loc 1) (.cons (.loc 2) .nil))) .nil)))) .nil))) .nil)
theorem LU:Rd 21 241 3 0 LS:=⟨⟨by decide,by rfl,by rfl,by rfl⟩,by kernel_rfl,b3 λq_ q_ q_=>rfl⟩
noncomputable abbrev LV:RS:=(.seq (.ret (.call (.ref 220) (.cons (.call (.ref 227) (.cons (.loc 0) (.cons (.str "domain_error") (.cons (.tup (.cons (.loc 1) (.cons (.loc 2) .nil))) .nil)))) .nil))) .nil)
theorem LX:Rd 22 248 3 0 LV:=⟨⟨by decide,by rfl,by rfl,by rfl⟩,by kernel_rfl,b3 λq_ q_ q_=>rfl⟩
noncomputable abbrev LY:RS:=(.seq (.asg 2 (.call (.builtin "len") (.cons (.attr (.loc 0) "heap") .nil))) (.seq (.ite (.cmp .GtE (.loc 2) (.attr (.loc 0) "max_heap")) (.seq (.raw (cz [1,0,0] Jq.body)) .nil) .nil) (.seq (.expr (.ax (.attr (.loc 0) "heap") "append" (.cons (.loc 1) .nil))) (.seq (.ret (.loc 2)) .nil))))
theorem LZ:Rd 25 278 2 1 LY:=⟨⟨by decide,by rfl,by rfl,by rfl⟩,by kernel_rfl,b2 λq_ q_=>rfl⟩
noncomputable abbrev L4:RS:=(.seq (.asg 1 (.tup (.cons (.aF (.int 0)) (.cons (.call (.builtin "len") (.cons (.attr (.loc 0) "heap") .nil)) .nil)))) (.seq (.expr (.ax (.loc 0) "push" (.cons (.loc 1) .nil))) (.seq (.ret (.loc 1)) .nil)))
theorem L5:Rd 26 285 1 1 L4:=⟨⟨by decide,by rfl,by rfl,by rfl⟩,by kernel_rfl,b1 λq_=>rfl⟩
noncomputable abbrev L6:RS:=(.seq (.asg 2 (.call (.builtin "len") (.cons (.attr (.loc 0) "heap") .nil))) (.seq (.ite (.cmp .Gt (.bin .Add (.loc 2) (.loc 1)) (.attr (.loc 0) "max_heap")) (.seq (.raw (cz [1,0,0] Jr.body)) .nil) .nil) (.seq (.dp 3 (.call (.type "range") (.cons (.loc 1) .nil)) (.seq (.expr (.ax (.attr (.loc 0) "heap") "append" (.cons (.tup (.cons (.aF (.int 0)) (.cons (.bin .Add (.loc 2) (.loc 3)) .nil))) .nil))) .nil)) (.seq (.ret (.loc 2)) .nil))))
theorem L7:Rd 27 292 2 2 L6:=⟨⟨by decide,by rfl,by rfl,by rfl⟩,by kernel_rfl,b2 λq_ q_=>rfl⟩
noncomputable abbrev L8:RS:=(.seq (.loop (.bz (.bool true)) (.seq (.asg 2 (.item (.loc 1) 0)) (.seq (.ite (.cmp .Eq (.loc 2) (.aF (.int 0))) (.seq (.asg 3 (.idx (.attr (.loc 0) "heap") (.item (.loc 1) 1))) .nil) (.seq (.ite (.cmp .Eq (.loc 2) (.aF (.int 1))) (.seq (.asg 3 (.idx (.attr (.loc 0) "stack") (.item (.loc 1) 1))) .nil) (.seq (.ret (.loc 1)) .nil)) .nil)) (.seq (.ite (.cmp .Eq (.loc 3) (.loc 1)) (.seq (.ret (.loc 1)) .nil) .nil) (.seq (.asg 1 (.loc 3)) .nil))))) .nil)
theorem L9:Rd 28 306 2 2 L8:=⟨⟨by decide,by rfl,by rfl,by rfl⟩,by kernel_rfl,b2 λq_ q_=>rfl⟩
noncomputable abbrev Ma:RS:=(.seq (.asg 3 (.item (.loc 1) 1)) (.seq (.ite (.cmp .Eq (.item (.loc 1) 0) (.aF (.int 0))) (.seq (.cw (.attr (.loc 0) "heap") (.loc 3) (.loc 2)) (.seq (.ite (.cmp .Lt (.loc 3) (.attr (.loc 0) "hb")) (.seq (.expr (.ax (.attr (.loc 0) "trail") "append" (.cons (.loc 3) .nil))) .nil) .nil) .nil)) (.seq (.cw (.attr (.loc 0) "stack") (.loc 3) (.loc 2)) (.seq (.ite (.cmp .Lt (.loc 3) (.attr (.loc 0) "bb")) (.seq (.expr (.ax (.attr (.loc 0) "trail") "append" (.cons (.bin .Sub (.neg (.int 1)) (.loc 3)) .nil))) .nil) .nil) .nil))) .nil))
theorem Mb:Rd 29 320 3 1 Ma:=⟨⟨by decide,by rfl,by rfl,by rfl⟩,by kernel_rfl,b3 λq_ q_ q_=>rfl⟩
noncomputable abbrev Mc:RS:=(.seq (.asg 1 (.ax (.loc 0) "deref" (.cons (.loc 1) .nil))) (.seq (.ite (.cmp .Eq (.item (.loc 1) 0) (.aF (.int 1))) (.seq (.asg 2 (.ax (.loc 0) "new_var" .nil)) (.seq (.expr (.ax (.loc 0) "bind" (.cons (.loc 1) (.cons (.loc 2) .nil)))) (.seq (.ret (.loc 2)) .nil))) .nil) (.seq (.ret (.loc 1)) .nil)))
theorem Md:Rd 31 334 2 1 Mc:=⟨⟨by decide,by rfl,by rfl,by rfl⟩,by kernel_rfl,b2 λq_ q_=>rfl⟩
noncomputable abbrev Me:RS:=(.seq (.ret (.or (.cmp .Eq (.item (.loc 1) 0) (.aF (.int 2))) (.cmp .Eq (.item (.loc 1) 0) (.aF (.int 3))))) .nil)
theorem Mf:Rd 32 362 2 0 Me:=⟨⟨by decide,by rfl,by rfl,by rfl⟩,by kernel_rfl,b2 λq_ q_=>rfl⟩
noncomputable abbrev Mg:RS:=(.seq (.asg 2 (.item (.loc 1) 0)) (.seq (.ite (.cmp .Eq (.loc 2) (.aF (.int 2))) (.seq (.ret (.item (.idx (.attr (.loc 0) "heap") (.item (.loc 1) 1)) 1)) .nil) .nil) (.seq (.ite (.cmp .Eq (.loc 2) (.aF (.int 3))) (.seq (.ret (.aF (.int 0))) .nil) .nil) (.seq (.ite (.cmp .Eq (.loc 2) (.aF (.int 4))) (.seq (.ret (.ax (.attr (.loc 0) "symbols") "functor" (.cons (.item (.loc 1) 1) (.cons (.int 0) .nil)))) .nil) .nil) (.seq (.ret (.neg (.int 1))) .nil)))))
theorem Mh:Rd 33 369 2 1 Mg:=⟨⟨by decide,by rfl,by rfl,by rfl⟩,by kernel_rfl,b2 λq_ q_=>rfl⟩
noncomputable abbrev Mi:RS:=(.seq (.asg 2 (.item (.loc 1) 0)) (.seq (.ite (.cmp .Eq (.loc 2) (.aF (.int 3))) (.seq (.ret (.int 2)) .nil) .nil) (.seq (.ite (.cmp .Eq (.loc 2) (.aF (.int 2))) (.seq (.ret (.ax (.attr (.loc 0) "symbols") "arity" (.cons (.item (.idx (.attr (.loc 0) "heap") (.item (.loc 1) 1)) 1) .nil))) .nil) .nil) (.seq (.ret (.int 0)) .nil))))
theorem Mj:Rd 34 376 2 1 Mi:=⟨⟨by decide,by rfl,by rfl,by rfl⟩,by kernel_rfl,b2 λq_ q_=>rfl⟩
noncomputable abbrev Mk:RS:=(.seq (.ite (.cmp .Eq (.item (.loc 1) 0) (.aF (.int 3))) (.seq (.ret (.item (.loc 1) 1)) .nil) .nil) (.seq (.ret (.bin .Add (.item (.loc 1) 1) (.int 1))) .nil))
theorem Ml:Rd 35 383 2 0 Mk:=⟨⟨by decide,by rfl,by rfl,by rfl⟩,by kernel_rfl,b2 λq_ q_=>rfl⟩
noncomputable abbrev Mm:RS:=(.seq (.ite (.cmp .Eq (.loc 1) (.aF (.int 0))) (.seq (.ret (.tup (.cons (.aF (.int 3)) (.cons (.ax (.loc 0) "reserve" (.cons (.int 2) .nil)) .nil)))) .nil) .nil) (.seq (.asg 2 (.ax (.loc 0) "reserve" (.cons (.bin .Add (.int 1) (.ax (.attr (.loc 0) "symbols") "arity" (.cons (.loc 1) .nil))) .nil))) (.seq (.cw (.attr (.loc 0) "heap") (.loc 2) (.tup (.cons (.aF (.int 6)) (.cons (.loc 1) .nil)))) (.seq (.ret (.tup (.cons (.aF (.int 2)) (.cons (.loc 2) .nil)))) .nil))))
theorem Mn:Rd 37 397 2 1 Mm:=⟨⟨by decide,by rfl,by rfl,by rfl⟩,by kernel_rfl,b2 λq_ q_=>rfl⟩
noncomputable abbrev Bj:RS:=(.seq (.asg 2 (.list .nil)) (.seq (.asg 3 (.call (.type "set") .nil)) (.seq (.asg 1 (.ax (.loc 0) "deref" (.cons (.loc 1) .nil))) (.seq (.loop (.and (.cmp .Eq (.item (.loc 1) 0) (.aF (.int 3))) (.cmp .NotIn (.item (.loc 1) 1) (.loc 3))) (.seq (.expr (.ax (.loc 3) "add" (.cons (.item (.loc 1) 1) .nil))) (.seq (.expr (.ax (.loc 2) "append" (.cons (.ax (.loc 0) "deref" (.cons (.idx (.attr (.loc 0) "heap") (.item (.loc 1) 1)) .nil)) .nil))) (.seq (.asg 1 (.ax (.loc 0) "deref" (.cons (.idx (.attr (.loc 0) "heap") (.bin .Add (.item (.loc 1) 1) (.int 1))) .nil))) .nil)))) (.seq (.ret (.tup (.cons (.loc 2) (.cons (.loc 1) .nil)))) .nil)))))
theorem Bk:Rd 38 433 2 2 Bj:=⟨⟨by decide,by rfl,by rfl,by rfl⟩,by kernel_rfl,b2 λq_ q_=>rfl⟩
noncomputable abbrev oK:RS:=(.seq (.dp 3 (.call (.type "list") (.cons (.loc 2) .nil)) (.seq (.ite (.cmp .Eq (.item (.idx (.loc 2) (.loc 3)) 0) (.aF (.int 1))) (.seq (.cw (.loc 2) (.loc 3) (.ax (.loc 0) "globalise" (.cons (.idx (.loc 2) (.loc 3)) .nil))) .nil) .nil) .nil)) (.seq (.asg 4 (.item (.loc 1) 0)) (.seq (.ite (.cmp .Eq (.loc 4) (.str "v")) (.seq (.ite (.cmp .NotIn (.item (.loc 1) 1) (.loc 2)) (.seq (.cw (.loc 2) (.item (.loc 1) 1) (.ax (.loc 0) "new_var" .nil)) .nil) .nil) (.seq (.ret (.idx (.loc 2) (.item (.loc 1) 1))) .nil)) .nil) (.seq (.ite (.cmp .Eq (.loc 4) (.str "a")) (.seq (.ret (.tup (.cons (.aF (.int 4)) (.cons (.item (.loc 1) 1) .nil)))) .nil) .nil) (.seq (.ite (.cmp .Eq (.loc 4) (.str "i")) (.seq (.ret (.tup (.cons (.aF (.int 5)) (.cons (.item (.loc 1) 1) .nil)))) .nil) .nil) (.seq (.asg 5 (.ax (.loc 0) "new_block" (.cons (.item (.loc 1) 1) .nil))) (.seq (.asg 6 (.list (.cons (.tup (.cons (.ax (.loc 0) "base" (.cons (.loc 5) .nil)) (.cons (.item (.loc 1) 2) .nil))) .nil))) (.seq (.asg 7 (.int 0)) (.seq (.loop (.cmp .Lt (.loc 7) (.call (.builtin "len") (.cons (.loc 6) .nil))) (.seq (.ju 8 9 (.idx (.loc 6) (.loc 7))) (.seq (.aug 7 (.int 1)) (.seq (.dp 10 (.loc 9) (.seq (.asg 4 (.item (.loc 10) 0)) (.seq (.ite (.cmp .Eq (.loc 4) (.str "v")) (.seq (.ite (.cmp .In (.item (.loc 10) 1) (.loc 2)) (.seq (.cw (.attr (.loc 0) "heap") (.loc 8) (.idx (.loc 2) (.item (.loc 10) 1))) .nil) (.seq (.cw (.loc 2) (.item (.loc 10) 1) (.tup (.cons (.aF (.int 0)) (.cons (.loc 8) .nil)))) .nil)) .nil) (.seq (.ite (.cmp .Eq (.loc 4) (.str "a")) (.seq (.cw (.attr (.loc 0) "heap") (.loc 8) (.tup (.cons (.aF (.int 4)) (.cons (.item (.loc 10) 1) .nil)))) .nil) (.seq (.ite (.cmp .Eq (.loc 4) (.str "i")) (.seq (.cw (.attr (.loc 0) "heap") (.loc 8) (.tup (.cons (.aF (.int 5)) (.cons (.item (.loc 10) 1) .nil)))) .nil) (.seq (.asg 11 (.ax (.loc 0) "new_block" (.cons (.item (.loc 10) 1) .nil))) (.seq (.cw (.attr (.loc 0) "heap") (.loc 8) (.loc 11)) (.seq (.expr (.ax (.loc 6) "append" (.cons (.tup (.cons (.ax (.loc 0) "base" (.cons (.loc 11) .nil)) (.cons (.item (.loc 10) 2) .nil))) .nil))) .nil)))) .nil)) .nil)) (.seq (.aug 8 (.int 1)) .nil)))) .nil)))) (.seq (.ret (.loc 5)) .nil))))))))))
theorem Mo:Rd 39 440 3 9 oK:=⟨⟨by decide,by rfl,by rfl,by rfl⟩,by kernel_rfl,b3 λq_ q_ q_=>rfl⟩
noncomputable abbrev Bl:RS:=(.seq (.asg 3 .di) (.seq (.asg 4 (.list .nil)) (.seq (.asg 5 (.list (.cons (.tup (.cons (.aF (.int 0)) (.cons (.ax (.loc 0) "globalise" (.cons (.loc 1) .nil)) .nil))) .nil))) (.seq (.loop (.cmp .Gt (.call (.builtin "len") (.cons (.loc 5) .nil)) (.int 0)) (.seq (.ju 6 1 (.ax (.loc 5) "pop" .nil)) (.seq (.ite (.cmp .Eq (.loc 6) (.aF (.int 1))) (.seq (.asg 7 (.ax (.loc 0) "functor_of" (.cons (.loc 1) .nil))) (.seq (.asg 8 (.bin .Sub (.call (.builtin "len") (.cons (.loc 4) .nil)) (.ax (.loc 0) "width" (.cons (.loc 1) .nil)))) (.seq (.asg 9 (.tup (.cons (.str "s") (.cons (.loc 7) (.cons (.call (.type "tuple") (.cons (.raw (fO [2,1] (gp (cz [3,0,1,0,2] qu.body)))) .nil)) .nil))))) (.seq (.raw (cz [3,0,1,0,3] qu.body)) (.seq (.cw (.loc 3) (.item (.loc 1) 1) (.loc 9)) (.seq (.expr (.ax (.loc 4) "append" (.cons (.loc 9) .nil))) (.seq .cont .nil))))))) .nil) (.seq (.asg 1 (.ax (.loc 0) "deref" (.cons (.loc 1) .nil))) (.seq (.asg 10 (.item (.loc 1) 0)) (.seq (.ite (.cmp .Eq (.loc 10) (.aF (.int 0))) (.seq (.ite (.cmp .NotIn (.item (.loc 1) 1) (.loc 2)) (.seq (.cw (.loc 2) (.item (.loc 1) 1) (.call (.builtin "len") (.cons (.loc 2) .nil))) .nil) .nil) (.seq (.expr (.ax (.loc 4) "append" (.cons (.tup (.cons (.str "v") (.cons (.idx (.loc 2) (.item (.loc 1) 1)) .nil))) .nil))) .nil)) (.seq (.ite (.cmp .Eq (.loc 10) (.aF (.int 4))) (.seq (.expr (.ax (.loc 4) "append" (.cons (.tup (.cons (.str "a") (.cons (.item (.loc 1) 1) .nil))) .nil))) .nil) (.seq (.ite (.cmp .Eq (.loc 10) (.aF (.int 5))) (.seq (.expr (.ax (.loc 4) "append" (.cons (.tup (.cons (.str "i") (.cons (.item (.loc 1) 1) .nil))) .nil))) .nil) (.seq (.ite (.cmp .In (.item (.loc 1) 1) (.loc 3)) (.seq (.asg 9 (.idx (.loc 3) (.item (.loc 1) 1))) (.seq (.ite (.cmp .Is (.loc 9) .qy) (.seq (.raw (cz [3,0,4,1,0,1,0,1,0,0,1,0,0] qu.body)) .nil) .nil) (.seq (.expr (.ax (.loc 4) "append" (.cons (.loc 9) .nil))) .nil))) (.seq (.cw (.loc 3) (.item (.loc 1) 1) .qy) (.seq (.expr (.ax (.loc 5) "append" (.cons (.tup (.cons (.aF (.int 1)) (.cons (.loc 1) .nil))) .nil))) (.seq (.asg 11 (.ax (.loc 0) "base" (.cons (.loc 1) .nil))) (.seq (.dp 12 (.call (.type "range") (.cons (.bin .Sub (.ax (.loc 0) "width" (.cons (.loc 1) .nil)) (.int 1)) (.cons (.neg (.int 1)) (.cons (.neg (.int 1)) .nil)))) (.seq (.expr (.ax (.loc 5) "append" (.cons (.tup (.cons (.aF (.int 0)) (.cons (.idx (.attr (.loc 0) "heap") (.bin .Add (.loc 11) (.loc 12))) .nil))) .nil))) .nil)) .nil))))) .nil)) .nil)) .nil)) .nil)))))) (.seq (.ret (.item (.loc 4) 0)) .nil)))))
theorem Mp:Rd 40 447 3 10 Bl:=⟨⟨by decide,by rfl,by rfl,by rfl⟩,by kernel_rfl,b3 λq_ q_ q_=>rfl⟩
noncomputable abbrev Mq:RS:=(.seq (.cf (.loc 0) "span" (.bin .Add (.call (.builtin "len") (.cons (.attr (.loc 1) "heap") .nil)) (.int 1))) (.seq (.cf (.loc 0) "met" (.call (.type "set") .nil)) .nil))
theorem Mr:Rd 41 466 2 0 Mq:=⟨⟨by decide,by rfl,by rfl,by rfl⟩,by kernel_rfl,b2 λq_ q_=>rfl⟩
noncomputable abbrev Ms:RS:=(.seq (.asg 3 (.bin .Add (.bin .Mult (.item (.loc 1) 1) (.attr (.loc 0) "span")) (.item (.loc 2) 1))) (.seq (.ite (.cmp .In (.loc 3) (.attr (.loc 0) "met")) (.seq (.ret (.bool false)) .nil) .nil) (.seq (.expr (.ax (.attr (.loc 0) "met") "add" (.cons (.loc 3) .nil))) (.seq (.ret (.bool true)) .nil))))
theorem Mt:Rd 42 473 3 1 Ms:=⟨⟨by decide,by rfl,by rfl,by rfl⟩,by kernel_rfl,b3 λq_ q_ q_=>rfl⟩
noncomputable abbrev Mu:RS:=(.seq (.asg 4 (.ax (.loc 0) "base" (.cons (.loc 1) .nil))) (.seq (.asg 5 (.ax (.loc 0) "base" (.cons (.loc 2) .nil))) (.seq (.dp 6 (.call (.type "range") (.cons (.bin .Sub (.ax (.loc 0) "width" (.cons (.loc 1) .nil)) (.int 1)) (.cons (.neg (.int 1)) (.cons (.neg (.int 1)) .nil)))) (.seq (.expr (.ax (.loc 3) "append" (.cons (.tup (.cons (.idx (.attr (.loc 0) "heap") (.bin .Add (.loc 4) (.loc 6))) (.cons (.idx (.attr (.loc 0) "heap") (.bin .Add (.loc 5) (.loc 6))) .nil))) .nil))) .nil)) .nil)))
theorem Mv:Rd 44 494 4 3 Mu:=⟨⟨by decide,by rfl,by rfl,by rfl⟩,by kernel_rfl,b4 λq_ q_ q_ q_=>rfl⟩
noncomputable abbrev Mw:RS:=(.seq (.ite (.cmp .NotEq (.item (.loc 1) 0) (.item (.loc 2) 0)) (.seq (.ret (.bool false)) .nil) .nil) (.seq (.ite (.cmp .Eq (.item (.loc 1) 0) (.aF (.int 3))) (.seq (.ret (.bool true)) .nil) .nil) (.seq (.ret (.cmp .Eq (.idx (.attr (.loc 0) "heap") (.item (.loc 1) 1)) (.idx (.attr (.loc 0) "heap") (.item (.loc 2) 1)))) .nil)))
theorem Mx:Rd 45 501 3 0 Mw:=⟨⟨by decide,by rfl,by rfl,by rfl⟩,by kernel_rfl,b3 λq_ q_ q_=>rfl⟩
noncomputable abbrev My:RS:=(.seq (.ret (.or (.cmp .Eq (.item (.loc 0) 0) (.aF (.int 0))) (.cmp .Eq (.item (.loc 0) 0) (.aF (.int 1))))) .nil)
theorem Mz:Rd 46 508 1 0 My:=⟨⟨by decide,by rfl,by rfl,by rfl⟩,by kernel_rfl,b1 λq_=>rfl⟩
noncomputable abbrev MA:RS:=(.seq (.asg 4 (.call (.ref 476) (.cons (.loc 0) .nil))) (.seq (.asg 5 (.list (.cons (.tup (.cons (.loc 1) (.cons (.loc 2) .nil))) .nil))) (.seq (.loop (.cmp .Gt (.call (.builtin "len") (.cons (.loc 5) .nil)) (.int 0)) (.seq (.ju 6 7 (.ax (.loc 5) "pop" .nil)) (.seq (.asg 6 (.ax (.loc 0) "deref" (.cons (.loc 6) .nil))) (.seq (.asg 7 (.ax (.loc 0) "deref" (.cons (.loc 7) .nil))) (.seq (.ite (.cmp .Eq (.loc 6) (.loc 7)) (.seq .cont .nil) .nil) (.seq (.ite (.bz (.call (.ref 508) (.cons (.loc 6) .nil))) (.seq (.ite (.bz (.call (.ref 508) (.cons (.loc 7) .nil))) (.seq (.expr (.ax (.loc 0) "bind_pair" (.cons (.loc 6) (.cons (.loc 7) .nil)))) .nil) (.seq (.ite (.not (.bz (.call (.ref 522) (.cons (.loc 0) (.cons (.loc 6) (.cons (.loc 7) (.cons (.loc 3) .nil))))))) (.seq (.ret (.bool false)) .nil) .nil) .nil)) .nil) (.seq (.ite (.bz (.call (.ref 508) (.cons (.loc 7) .nil))) (.seq (.ite (.not (.bz (.call (.ref 522) (.cons (.loc 0) (.cons (.loc 7) (.cons (.loc 6) (.cons (.loc 3) .nil))))))) (.seq (.ret (.bool false)) .nil) .nil) .nil) (.seq (.ite (.and (.bz (.ax (.loc 0) "is_compound" (.cons (.loc 6) .nil))) (.bz (.call (.ref 501) (.cons (.loc 0) (.cons (.loc 6) (.cons (.loc 7) .nil)))))) (.seq (.ite (.bz (.ax (.loc 4) "add" (.cons (.loc 6) (.cons (.loc 7) .nil)))) (.seq (.expr (.call (.ref 494) (.cons (.loc 0) (.cons (.loc 6) (.cons (.loc 7) (.cons (.loc 5) .nil)))))) .nil) .nil) .nil) (.seq (.ret (.bool false)) .nil)) .nil)) .nil)) .nil)))))) (.seq (.ret (.bool true)) .nil))))
theorem MB:Rd 47 515 4 4 MA:=⟨⟨by decide,by rfl,by rfl,by rfl⟩,by kernel_rfl,b4 λq_ q_ q_ q_=>rfl⟩
noncomputable abbrev MC:RS:=(.seq (.ite (.and (.bz (.loc 3)) (.bz (.call (.ref 529) (.cons (.loc 0) (.cons (.loc 1) (.cons (.loc 2) .nil)))))) (.seq (.ret (.bool false)) .nil) .nil) (.seq (.expr (.ax (.loc 0) "bind" (.cons (.loc 1) (.cons (.loc 2) .nil)))) (.seq (.ret (.bool true)) .nil)))
theorem MD:Rd 48 522 4 0 MC:=⟨⟨by decide,by rfl,by rfl,by rfl⟩,by kernel_rfl,b4 λq_ q_ q_ q_=>rfl⟩
noncomputable abbrev MF:RS:=(.seq (.asg 2 (.ax (.loc 0) "deref" (.cons (.loc 2) .nil))) (.seq (.ite (.cmp .Eq (.loc 2) (.loc 1)) (.seq (.ret (.bool true)) .nil) .nil) (.seq (.ite (.or (.cmp .Eq (.item (.loc 1) 0) (.aF (.int 1))) (.not (.bz (.ax (.loc 0) "is_compound" (.cons (.loc 2) .nil))))) (.seq (.ret (.bool false)) .nil) .nil) (.seq (.asg 3 (.call (.type "set") .nil)) (.seq (.asg 4 (.list (.cons (.loc 2) .nil))) (.seq (.loop (.cmp .Gt (.call (.builtin "len") (.cons (.loc 4) .nil)) (.int 0)) (.seq (.asg 2 (.ax (.loc 0) "deref" (.cons (.ax (.loc 4) "pop" .nil) .nil))) (.seq (.ite (.cmp .Eq (.loc 2) (.loc 1)) (.seq (.ret (.bool true)) .nil) .nil) (.seq (.ite (.and (.bz (.ax (.loc 0) "is_compound" (.cons (.loc 2) .nil))) (.cmp .NotIn (.item (.loc 2) 1) (.loc 3))) (.seq (.expr (.ax (.loc 3) "add" (.cons (.item (.loc 2) 1) .nil))) (.seq (.expr (.call (.ref 487) (.cons (.loc 0) (.cons (.loc 2) (.cons (.loc 4) .nil))))) .nil)) .nil) .nil)))) (.seq (.ret (.bool false)) .nil)))))))
theorem MG:Rd 49 529 3 2 MF:=⟨⟨by decide,by rfl,by rfl,by rfl⟩,by kernel_rfl,b3 λq_ q_ q_=>rfl⟩
noncomputable abbrev MH:RS:=(.seq (.asg 1 (.item (.loc 0) 0)) (.seq (.ite (.cmp .Eq (.loc 1) (.aF (.int 5))) (.seq (.ret (.int 1)) .nil) .nil) (.seq (.ite (.cmp .Eq (.loc 1) (.aF (.int 4))) (.seq (.ret (.int 2)) .nil) .nil) (.seq (.ite (.or (.cmp .Eq (.loc 1) (.aF (.int 2))) (.cmp .Eq (.loc 1) (.aF (.int 3)))) (.seq (.ret (.int 3)) .nil) .nil) (.seq (.ret (.int 0)) .nil)))))
theorem MI:Rd 50 536 1 1 MH:=⟨⟨by decide,by rfl,by rfl,by rfl⟩,by kernel_rfl,b1 λq_=>rfl⟩
noncomputable abbrev MJ:RS:=(.seq (.ite (.cmp .Lt (.loc 0) (.loc 1)) (.seq (.ret (.neg (.int 1))) .nil) .nil) (.seq (.ite (.cmp .Gt (.loc 0) (.loc 1)) (.seq (.ret (.int 1)) .nil) .nil) (.seq (.ret (.int 0)) .nil)))
theorem Bm:Rd 51 543 2 0 MJ:=⟨⟨by decide,by rfl,by rfl,by rfl⟩,by kernel_rfl,b2 λq_ q_=>rfl⟩
noncomputable abbrev MK:RS:=(.seq (.asg 3 (.attr (.loc 0) "symbols")) (.seq (.asg 4 (.ax (.loc 0) "functor_of" (.cons (.loc 1) .nil))) (.seq (.asg 5 (.ax (.loc 0) "functor_of" (.cons (.loc 2) .nil))) (.seq (.ite (.cmp .Eq (.loc 4) (.loc 5)) (.seq (.ret (.int 0)) .nil) .nil) (.seq (.asg 6 (.call (.ref 543) (.cons (.ax (.loc 3) "arity" (.cons (.loc 4) .nil)) (.cons (.ax (.loc 3) "arity" (.cons (.loc 5) .nil)) .nil)))) (.seq (.ite (.cmp .NotEq (.loc 6) (.int 0)) (.seq (.ret (.loc 6)) .nil) .nil) (.seq (.ret (.call (.ref 543) (.cons (.ax (.loc 3) "text" (.cons (.ax (.loc 3) "name" (.cons (.loc 4) .nil)) .nil)) (.cons (.ax (.loc 3) "text" (.cons (.ax (.loc 3) "name" (.cons (.loc 5) .nil)) .nil)) .nil)))) .nil)))))))
theorem ML:Rd 52 550 3 4 MK:=⟨⟨by decide,by rfl,by rfl,by rfl⟩,by kernel_rfl,b3 λq_ q_ q_=>rfl⟩
noncomputable abbrev MM:RS:=(.seq (.asg 3 (.call (.ref 536) (.cons (.loc 1) .nil))) (.seq (.asg 4 (.call (.ref 543) (.cons (.loc 3) (.cons (.call (.ref 536) (.cons (.loc 2) .nil)) .nil)))) (.seq (.ite (.cmp .NotEq (.loc 4) (.int 0)) (.seq (.ret (.loc 4)) .nil) .nil) (.seq (.ite (.cmp .Eq (.loc 3) (.int 0)) (.seq (.ret (.call (.ref 543) (.cons (.loc 1) (.cons (.loc 2) .nil)))) .nil) .nil) (.seq (.ite (.cmp .Eq (.loc 3) (.int 1)) (.seq (.ret (.call (.ref 543) (.cons (.item (.loc 1) 1) (.cons (.item (.loc 2) 1) .nil)))) .nil) .nil) (.seq (.ite (.cmp .Eq (.loc 3) (.int 2)) (.seq (.ret (.call (.ref 543) (.cons (.ax (.attr (.loc 0) "symbols") "text" (.cons (.item (.loc 1) 1) .nil)) (.cons (.ax (.attr (.loc 0) "symbols") "text" (.cons (.item (.loc 2) 1) .nil)) .nil)))) .nil) .nil) (.seq (.ret (.call (.ref 550) (.cons (.loc 0) (.cons (.loc 1) (.cons (.loc 2) .nil))))) .nil)))))))
theorem MN:Rd 53 557 3 2 MM:=⟨⟨by decide,by rfl,by rfl,by rfl⟩,by kernel_rfl,b3 λq_ q_ q_=>rfl⟩
noncomputable abbrev MO:RS:=(.seq (.asg 3 (.call (.ref 476) (.cons (.loc 0) .nil))) (.seq (.asg 4 (.list (.cons (.tup (.cons (.loc 1) (.cons (.loc 2) .nil))) .nil))) (.seq (.loop (.cmp .Gt (.call (.builtin "len") (.cons (.loc 4) .nil)) (.int 0)) (.seq (.ju 5 6 (.ax (.loc 4) "pop" .nil)) (.seq (.asg 5 (.ax (.loc 0) "deref" (.cons (.loc 5) .nil))) (.seq (.asg 6 (.ax (.loc 0) "deref" (.cons (.loc 6) .nil))) (.seq (.ite (.cmp .Eq (.loc 5) (.loc 6)) (.seq .cont .nil) .nil) (.seq (.asg 7 (.call (.ref 557) (.cons (.loc 0) (.cons (.loc 5) (.cons (.loc 6) .nil))))) (.seq (.ite (.cmp .NotEq (.loc 7) (.int 0)) (.seq (.ret (.loc 7)) .nil) .nil) (.seq (.ite (.and (.bz (.ax (.loc 0) "is_compound" (.cons (.loc 5) .nil))) (.bz (.ax (.loc 3) "add" (.cons (.loc 5) (.cons (.loc 6) .nil))))) (.seq (.expr (.call (.ref 494) (.cons (.loc 0) (.cons (.loc 5) (.cons (.loc 6) (.cons (.loc 4) .nil)))))) .nil) .nil) .nil)))))))) (.seq (.ret (.int 0)) .nil))))
theorem MP:Rd 54 564 3 5 MO:=⟨⟨by decide,by rfl,by rfl,by rfl⟩,by kernel_rfl,b3 λq_ q_ q_=>rfl⟩
noncomputable abbrev MQ:RS:=(.seq (.ite (.cmp .Eq (.item (.loc 0) 0) (.aF (.int 0))) (.seq (.ret (.item (.loc 0) 1)) .nil) .nil) (.seq (.ret (.bin .Sub (.neg (.int 1)) (.item (.loc 0) 1))) .nil))
theorem MR:Rd 55 571 1 0 MQ:=⟨⟨by decide,by rfl,by rfl,by rfl⟩,by kernel_rfl,b1 λq_=>rfl⟩
noncomputable abbrev ti:RS:=(.seq (.asg 3 .di) (.seq (.asg 4 .di) (.seq (.asg 5 (.call (.ref 476) (.cons (.loc 0) .nil))) (.seq (.asg 6 (.list (.cons (.tup (.cons (.loc 1) (.cons (.loc 2) .nil))) .nil))) (.seq (.loop (.cmp .Gt (.call (.builtin "len") (.cons (.loc 6) .nil)) (.int 0)) (.seq (.ju 7 8 (.ax (.loc 6) "pop" .nil)) (.seq (.asg 7 (.ax (.loc 0) "deref" (.cons (.loc 7) .nil))) (.seq (.asg 8 (.ax (.loc 0) "deref" (.cons (.loc 8) .nil))) (.seq (.ite (.and (.bz (.call (.ref 508) (.cons (.loc 7) .nil))) (.bz (.call (.ref 508) (.cons (.loc 8) .nil)))) (.seq (.asg 9 (.call (.ref 571) (.cons (.loc 7) .nil))) (.seq (.asg 10 (.call (.ref 571) (.cons (.loc 8) .nil))) (.seq (.ite (.and (.cmp .NotIn (.loc 9) (.loc 3)) (.cmp .NotIn (.loc 10) (.loc 4))) (.seq (.cw (.loc 3) (.loc 9) (.loc 10)) (.seq (.cw (.loc 4) (.loc 10) (.loc 9)) .nil)) (.seq (.ite (.or (.cmp .NotIn (.loc 9) (.loc 3)) (.cmp .NotEq (.idx (.loc 3) (.loc 9)) (.loc 10))) (.seq (.ret (.bool false)) .nil) .nil) .nil)) .nil))) (.seq (.ite (.or (.bz (.call (.ref 508) (.cons (.loc 7) .nil))) (.bz (.call (.ref 508) (.cons (.loc 8) .nil)))) (.seq (.ret (.bool false)) .nil) (.seq (.ite (.bz (.ax (.loc 0) "is_compound" (.cons (.loc 7) .nil))) (.seq (.ite (.or (.not (.bz (.ax (.loc 0) "is_compound" (.cons (.loc 8) .nil)))) (.not (.bz (.call (.ref 501) (.cons (.loc 0) (.cons (.loc 7) (.cons (.loc 8) .nil))))))) (.seq (.ret (.bool false)) .nil) .nil) (.seq (.ite (.bz (.ax (.loc 5) "add" (.cons (.loc 7) (.cons (.loc 8) .nil)))) (.seq (.expr (.call (.ref 494) (.cons (.loc 0) (.cons (.loc 7) (.cons (.loc 8) (.cons (.loc 6) .nil)))))) .nil) .nil) .nil)) (.seq (.ite (.cmp .NotEq (.loc 7) (.loc 8)) (.seq (.ret (.bool false)) .nil) .nil) .nil)) .nil)) .nil)) .nil))))) (.seq (.ret (.bool true)) .nil))))))
theorem MS:Rd 56 578 3 8 ti:=⟨⟨by decide,by rfl,by rfl,by rfl⟩,by kernel_rfl,b3 λq_ q_ q_=>rfl⟩
noncomputable abbrev MU:RS:=(.seq (.ret (.cmp .Eq (.item (.ax (.loc 0) "arg" (.cons (.int 1) .nil)) 0) (.aF (.int 0)))) .nil)
theorem MV:Rd 57 586 1 0 MU:=⟨⟨by decide,by rfl,by rfl,by rfl⟩,by kernel_rfl,b1 λq_=>rfl⟩
noncomputable abbrev MW:RS:=(.seq (.ret (.cmp .NotEq (.item (.ax (.loc 0) "arg" (.cons (.int 1) .nil)) 0) (.aF (.int 0)))) .nil)
theorem MX:Rd 58 593 1 0 MW:=⟨⟨by decide,by rfl,by rfl,by rfl⟩,by kernel_rfl,b1 λq_=>rfl⟩
noncomputable abbrev MY:RS:=(.seq (.ret (.cmp .Eq (.item (.ax (.loc 0) "arg" (.cons (.int 1) .nil)) 0) (.aF (.int 4)))) .nil)
theorem MZ:Rd 59 600 1 0 MY:=⟨⟨by decide,by rfl,by rfl,by rfl⟩,by kernel_rfl,b1 λq_=>rfl⟩
noncomputable abbrev M7:RS:=(.seq (.ret (.cmp .Eq (.item (.ax (.loc 0) "arg" (.cons (.int 1) .nil)) 0) (.aF (.int 5)))) .nil)
theorem M8:Rd 60 607 1 0 M7:=⟨⟨by decide,by rfl,by rfl,by rfl⟩,by kernel_rfl,b1 λq_=>rfl⟩
noncomputable abbrev M9:RS:=(.seq (.asg 1 (.item (.ax (.loc 0) "arg" (.cons (.int 1) .nil)) 0)) (.seq (.ret (.or (.cmp .Eq (.loc 1) (.aF (.int 4))) (.cmp .Eq (.loc 1) (.aF (.int 5))))) .nil))
theorem Na:Rd 61 614 1 1 M9:=⟨⟨by decide,by rfl,by rfl,by rfl⟩,by kernel_rfl,b1 λq_=>rfl⟩
noncomputable abbrev Nb:RS:=(.seq (.ret (.ax (.attr (.loc 0) "store") "is_compound" (.cons (.ax (.loc 0) "arg" (.cons (.int 1) .nil)) .nil))) .nil)
theorem Nc:Rd 62 621 1 0 Nb:=⟨⟨by decide,by rfl,by rfl,by rfl⟩,by kernel_rfl,b1 λq_=>rfl⟩
noncomputable abbrev Nd:RS:=(.seq (.asg 1 (.ax (.loc 0) "arg" (.cons (.int 1) .nil))) (.seq (.ret (.or (.cmp .Eq (.item (.loc 1) 0) (.aF (.int 4))) (.ax (.attr (.loc 0) "store") "is_compound" (.cons (.loc 1) .nil)))) .nil))
theorem Nf:Rd 63 628 1 1 Nd:=⟨⟨by decide,by rfl,by rfl,by rfl⟩,by kernel_rfl,b1 λq_=>rfl⟩
noncomputable abbrev Ng:RS:=(.seq (.ret (.cmp .Eq (.item (.ax (.attr (.loc 0) "store") "list_cells" (.cons (.ax (.loc 0) "arg" (.cons (.int 1) .nil)) .nil)) 1) (.aF (.tup [(.int 4),(.int 0)])))) .nil)
theorem Bn:Rd 64 635 1 0 Ng:=⟨⟨by decide,by rfl,by rfl,by rfl⟩,by kernel_rfl,b1 λq_=>rfl⟩
noncomputable abbrev Bo:RS:=(.seq (.asg 1 (.attr (.loc 0) "store")) (.seq (.asg 2 .di) (.seq (.asg 3 (.list (.cons (.tup (.cons (.bool true) (.cons (.ax (.loc 0) "arg" (.cons (.int 1) .nil)) .nil))) .nil))) (.seq (.loop (.bz (.loc 3)) (.seq (.ju 4 5 (.ax (.loc 3) "pop" .nil)) (.seq (.asg 6 (.ax (.loc 1) "deref" (.cons (.loc 5) .nil))) (.seq (.ite (.not (.bz (.ax (.loc 1) "is_compound" (.cons (.loc 6) .nil)))) (.seq .cont .nil) .nil) (.seq (.ite (.not (.bz (.loc 4))) (.seq (.cw (.loc 2) (.item (.loc 6) 1) (.int 2)) (.seq .cont .nil)) .nil) (.seq (.asg 7 (.ax (.loc 2) "get" (.cons (.item (.loc 6) 1) (.cons (.int 0) .nil)))) (.seq (.ite (.cmp .Eq (.loc 7) (.int 1)) (.seq (.ret (.bool false)) .nil) .nil) (.seq (.ite (.cmp .Eq (.loc 7) (.int 0)) (.seq (.cw (.loc 2) (.item (.loc 6) 1) (.int 1)) (.seq (.expr (.ax (.loc 3) "append" (.cons (.tup (.cons (.bool false) (.cons (.loc 6) .nil))) .nil))) (.seq (.asg 8 (.ax (.loc 1) "base" (.cons (.loc 6) .nil))) (.seq (.dp 9 (.call (.type "range") (.cons (.ax (.loc 1) "width" (.cons (.loc 6) .nil)) .nil)) (.seq (.expr (.ax (.loc 3) "append" (.cons (.tup (.cons (.bool true) (.cons (.idx (.attr (.loc 1) "heap") (.bin .Add (.loc 8) (.loc 9))) .nil))) .nil))) .nil)) .nil)))) .nil) .nil)))))))) (.seq (.ret (.bool true)) .nil)))))
theorem Bp:Rd 65 642 1 9 Bo:=⟨⟨by decide,by rfl,by rfl,by rfl⟩,by kernel_rfl,b1 λq_=>rfl⟩
noncomputable abbrev Nh:RS:=(.seq (.ret (.call (.ref 564) (.cons (.attr (.loc 0) "store") (.cons (.ax (.loc 0) "arg" (.cons (.int 1) .nil)) (.cons (.ax (.loc 0) "arg" (.cons (.int 2) .nil)) .nil))))) .nil)
theorem Ni:Rd 66 649 1 0 Nh:=⟨⟨by decide,by rfl,by rfl,by rfl⟩,by kernel_rfl,b1 λq_=>rfl⟩
noncomputable abbrev Nj:RS:=(.seq (.ret (.cmp .Lt (.call (.ref 649) (.cons (.loc 0) .nil)) (.int 0))) .nil)
theorem Nk:Rd 67 656 1 0 Nj:=⟨⟨by decide,by rfl,by rfl,by rfl⟩,by kernel_rfl,b1 λq_=>rfl⟩
noncomputable abbrev Nl:RS:=(.seq (.ret (.cmp .Gt (.call (.ref 649) (.cons (.loc 0) .nil)) (.int 0))) .nil)
theorem Nm:Rd 68 663 1 0 Nl:=⟨⟨by decide,by rfl,by rfl,by rfl⟩,by kernel_rfl,b1 λq_=>rfl⟩
noncomputable abbrev Nn:RS:=(.seq (.ret (.cmp .LtE (.call (.ref 649) (.cons (.loc 0) .nil)) (.int 0))) .nil)
theorem No:Rd 69 670 1 0 Nn:=⟨⟨by decide,by rfl,by rfl,by rfl⟩,by kernel_rfl,b1 λq_=>rfl⟩
noncomputable abbrev Np:RS:=(.seq (.ret (.cmp .GtE (.call (.ref 649) (.cons (.loc 0) .nil)) (.int 0))) .nil)
theorem Nq:Rd 70 677 1 0 Np:=⟨⟨by decide,by rfl,by rfl,by rfl⟩,by kernel_rfl,b1 λq_=>rfl⟩
noncomputable abbrev Nr:RS:=(.seq (.ret (.call (.ref 578) (.cons (.attr (.loc 0) "store") (.cons (.ax (.loc 0) "arg" (.cons (.int 1) .nil)) (.cons (.ax (.loc 0) "arg" (.cons (.int 2) .nil)) .nil))))) .nil)
theorem Nt:Rd 71 684 1 0 Nr:=⟨⟨by decide,by rfl,by rfl,by rfl⟩,by kernel_rfl,b1 λq_=>rfl⟩
noncomputable abbrev Nu:RS:=(.seq (.ret (.not (.call (.ref 578) (.cons (.attr (.loc 0) "store") (.cons (.ax (.loc 0) "arg" (.cons (.int 1) .nil)) (.cons (.ax (.loc 0) "arg" (.cons (.int 2) .nil)) .nil)))))) .nil)
theorem Nv:Rd 72 691 1 0 Nu:=⟨⟨by decide,by rfl,by rfl,by rfl⟩,by kernel_rfl,b1 λq_=>rfl⟩
noncomputable abbrev kE:RS:=(.seq (.asg 1 (.attr (.loc 0) "symbols")) (.seq (.asg 2 (.ax (.loc 0) "arg" (.cons (.int 1) .nil))) (.seq (.asg 3 (.tup (.cons (.ax (.loc 1) "atom" (.cons (.str "<") .nil)) (.cons (.ax (.loc 1) "atom" (.cons (.str "=") .nil)) (.cons (.ax (.loc 1) "atom" (.cons (.str ">") .nil)) .nil))))) (.seq (.ite (.cmp .NotEq (.item (.loc 2) 0) (.aF (.int 0))) (.seq (.ite (.cmp .NotEq (.item (.loc 2) 0) (.aF (.int 4))) (.seq (.raw (cz [3,0,0,0,0] v8.body)) .nil) .nil) (.seq (.ite (.and (.cmp .NotEq (.item (.loc 2) 1) (.item (.loc 3) 0)) (.and (.cmp .NotEq (.item (.loc 2) 1) (.item (.loc 3) 1)) (.cmp .NotEq (.item (.loc 2) 1) (.item (.loc 3) 2)))) (.seq (.raw (cz [3,0,1,0,0] v8.body)) .nil) .nil) .nil)) .nil) (.seq (.asg 4 (.call (.ref 564) (.cons (.attr (.loc 0) "store") (.cons (.ax (.loc 0) "arg" (.cons (.int 2) .nil)) (.cons (.ax (.loc 0) "arg" (.cons (.int 3) .nil)) .nil))))) (.seq (.ret (.ax (.loc 0) "unify" (.cons (.loc 2) (.cons (.tup (.cons (.aF (.int 4)) (.cons (.idx (.loc 3) (.bin .Add (.loc 4) (.int 1))) .nil))) .nil)))) .nil))))))
theorem Bq:Rd 73 698 1 4 kE:=⟨⟨by decide,by rfl,by rfl,by rfl⟩,by kernel_rfl,b1 λq_=>rfl⟩
noncomputable abbrev Nx:RS:=(.seq (.cf (.loc 0) "store" (.call (.ref 450) (.cons (.attr (.loc 0) "symbols") (.cons (.attr (.loc 0) "max_heap") .nil)))) (.seq (.cf (.loc 0) "x" (.list (.cons (.aF (.tup [(.int 5),(.int 0)])) .nil))) (.seq (.cf (.loc 0) "p" (.int 0)) (.seq (.cf (.loc 0) "cp" (.int 0)) (.seq (.cf (.loc 0) "e" (.neg (.int 1))) (.seq (.cf (.loc 0) "b" (.neg (.int 1))) (.seq (.cf (.loc 0) "b0" (.neg (.int 1))) (.seq (.cf (.loc 0) "mode" (.aF (.str "read"))) (.seq (.cf (.loc 0) "s" (.int 0)) (.seq (.cf (.loc 0) "guard" (.aF (.tup [(.int 5),(.int 0)]))) (.seq (.cf (.loc 0) "roots" (.list .nil)) (.seq (.cf (.loc 0) "bags" .di) (.seq (.cf (.loc 0) "collect_wanted" (.bool false)) .nil)))))))))))))
theorem Ny:Rd 77 734 1 0 Nx:=⟨⟨by decide,by rfl,by rfl,by rfl⟩,by kernel_rfl,b1 λq_=>rfl⟩
noncomputable abbrev Nz:RS:=(.seq (.loop (.cmp .LtE (.call (.builtin "len") (.cons (.attr (.loc 0) "x") .nil)) (.loc 1)) (.seq (.expr (.ax (.attr (.loc 0) "x") "append" (.cons (.aF (.tup [(.int 5),(.int 0)])) .nil))) .nil)) (.seq (.cw (.attr (.loc 0) "x") (.loc 1) (.loc 2)) .nil))
theorem NA:Rd 78 741 3 0 Nz:=⟨⟨by decide,by rfl,by rfl,by rfl⟩,by kernel_rfl,b3 λq_ q_ q_=>rfl⟩
noncomputable abbrev NB:RS:=(.seq (.asg 2 (.int 0)) (.seq (.dp 3 (.loc 1) (.seq (.aug 2 (.int 1)) (.seq (.expr (.ax (.loc 0) "set_x" (.cons (.loc 2) (.cons (.loc 3) .nil)))) .nil))) .nil))
theorem NC:Rd 79 748 2 2 NB:=⟨⟨by decide,by rfl,by rfl,by rfl⟩,by kernel_rfl,b2 λq_ q_=>rfl⟩
noncomputable abbrev ND:RS:=(.seq (.ret (.ax (.attr (.loc 0) "store") "globalise" (.cons (.idx (.attr (.loc 0) "x") (.loc 1)) .nil))) .nil)
theorem NE:Rd 80 755 2 0 ND:=⟨⟨by decide,by rfl,by rfl,by rfl⟩,by kernel_rfl,b2 λq_ q_=>rfl⟩
noncomputable abbrev NF:RS:=(.seq (.ret (.call (.ref 515) (.cons (.attr (.loc 0) "store") (.cons (.loc 1) (.cons (.loc 2) (.cons (.attr (.loc 0) "occurs") .nil)))))) .nil)
theorem NG:Rd 81 762 3 0 NF:=⟨⟨by decide,by rfl,by rfl,by rfl⟩,by kernel_rfl,b3 λq_ q_ q_=>rfl⟩
noncomputable abbrev NH:RS:=(.seq (.ret (.ax (.attr (.loc 0) "store") "take_term" (.cons (.loc 1) (.cons .di .nil)))) .nil)
theorem NI:Rd 82 769 2 0 NH:=⟨⟨by decide,by rfl,by rfl,by rfl⟩,by kernel_rfl,b2 λq_ q_=>rfl⟩
noncomputable abbrev NJ:RS:=(.seq (.ret (.ax (.attr (.loc 0) "store") "put_term" (.cons (.loc 1) (.cons .di .nil)))) .nil)
theorem NK:Rd 83 776 2 0 NJ:=⟨⟨by decide,by rfl,by rfl,by rfl⟩,by kernel_rfl,b2 λq_ q_=>rfl⟩
noncomputable abbrev Bs:RS:=(.seq (.ite (.cmp .Eq (.item (.loc 0) 2) (.int 0)) (.seq (.ite (.cmp .Eq (.item (.loc 0) 1) (.call (.builtin "len") (.cons (.item (.loc 0) 0) .nil))) (.seq (.cw (.loc 0) (.int 3) (.bin .Mod (.bin .Mult (.item (.loc 0) 3) (.int 48271)) (.int 2147483647))) (.seq (.ret (.bin .Mod (.bin .FloorDiv (.item (.loc 0) 3) (.int 7)) (.loc 1))) .nil)) .nil) (.seq (.asg 2 (.idx (.item (.loc 0) 0) (.item (.loc 0) 1))) (.seq (.cw (.loc 0) (.int 1) (.bin .Add (.item (.loc 0) 1) (.int 1))) (.seq (.cw (.loc 0) (.int 2) (.ite (.cmp .GtE (.loc 2) (.int 0)) (.loc 2) (.neg (.loc 2)))) .nil)))) .nil) (.seq (.asg 3 (.bin .Mod (.item (.loc 0) 2) (.loc 1))) (.seq (.cw (.loc 0) (.int 2) (.bin .FloorDiv (.item (.loc 0) 2) (.loc 1))) (.seq (.ret (.loc 3)) .nil))))
theorem NL:Rd 85 881 2 2 Bs:=⟨⟨by decide,by rfl,by rfl,by rfl⟩,by kernel_rfl,b2 λq_ q_=>rfl⟩
noncomputable abbrev NM:RS:=(.seq (.loop (.and (.cmp .Eq (.item (.loc 0) 0) (.str "v")) (.cmp .In (.item (.loc 0) 1) (.loc 1))) (.seq (.asg 0 (.idx (.loc 1) (.item (.loc 0) 1))) .nil)) (.seq (.ret (.loc 0)) .nil))
theorem NN:Rd 86 888 2 0 NM:=⟨⟨by decide,by rfl,by rfl,by rfl⟩,by kernel_rfl,b2 λq_ q_=>rfl⟩
noncomputable abbrev NO:RS:=(.seq (.asg 1 (.call (.ref 888) (.cons (.loc 1) (.cons (.loc 2) .nil)))) (.seq (.ite (.cmp .Eq (.item (.loc 1) 0) (.str "s")) (.seq (.ret (.cmp .In (.bool true) (.raw (fO [1] (gp (cz [1,0,0] Jt.body)))))) .nil) .nil) (.seq (.ret (.cmp .Eq (.loc 1) (.tup (.cons (.str "v") (.cons (.loc 0) .nil))))) .nil)))
theorem NP:Rd 87 893 3 0 NO:=⟨⟨by decide,by rfl,by rfl,by rfl⟩,by kernel_rfl,b3 λq_ q_ q_=>rfl⟩
noncomputable abbrev NQ:RS:=(.seq (.asg 0 (.call (.ref 888) (.cons (.loc 0) (.cons (.loc 2) .nil)))) (.seq (.asg 1 (.call (.ref 888) (.cons (.loc 1) (.cons (.loc 2) .nil)))) (.seq (.ite (.cmp .Eq (.loc 0) (.loc 1)) (.seq (.ret (.bool true)) .nil) .nil) (.seq (.ite (.cmp .Eq (.item (.loc 0) 0) (.str "v")) (.seq (.ite (.bz (.call (.ref 893) (.cons (.item (.loc 0) 1) (.cons (.loc 1) (.cons (.loc 2) .nil))))) (.seq (.ret (.bool false)) .nil) .nil) (.seq (.cw (.loc 2) (.item (.loc 0) 1) (.loc 1)) (.seq (.ret (.bool true)) .nil))) .nil) (.seq (.ite (.cmp .Eq (.item (.loc 1) 0) (.str "v")) (.seq (.ret (.call (.ref 900) (.cons (.loc 1) (.cons (.loc 0) (.cons (.loc 2) .nil))))) .nil) .nil) (.seq (.ite (.or (.cmp .NotEq (.item (.loc 0) 0) (.str "s")) (.or (.cmp .NotEq (.item (.loc 1) 0) (.str "s")) (.cmp .NotEq (.item (.loc 0) 1) (.item (.loc 1) 1)))) (.seq (.ret (.bool false)) .nil) .nil) (.seq (.dp 3 (.call (.type "range") (.cons (.call (.builtin "len") (.cons (.item (.loc 0) 2) .nil)) .nil)) (.seq (.ite (.not (.bz (.call (.ref 900) (.cons (.idx (.item (.loc 0) 2) (.loc 3)) (.cons (.idx (.item (.loc 1) 2) (.loc 3)) (.cons (.loc 2) .nil)))))) (.seq (.ret (.bool false)) .nil) .nil) .nil)) (.seq (.ret (.bool true)) .nil))))))))
theorem wB:Rd 88 900 3 1 NQ:=⟨⟨by decide,by rfl,by rfl,by rfl⟩,by kernel_rfl,b3 λq_ q_ q_=>rfl⟩
noncomputable abbrev NR:RS:=(.seq (.asg 0 (.call (.ref 888) (.cons (.loc 0) (.cons (.loc 1) .nil)))) (.seq (.ite (.cmp .Eq (.item (.loc 0) 0) (.str "s")) (.seq (.ret (.tup (.cons (.str "s") (.cons (.item (.loc 0) 1) (.cons (.call (.type "tuple") (.cons (.raw (fO [2,1] (gp (cz [1,0,0] v9.body)))) .nil)) .nil))))) .nil) .nil) (.seq (.ret (.loc 0)) .nil)))
theorem Bt:Rd 89 905 2 0 NR:=⟨⟨by decide,by rfl,by rfl,by rfl⟩,by kernel_rfl,b2 λq_ q_=>rfl⟩
noncomputable abbrev tj:RS:=(.seq (.ite (.cmp .NotEq (.item (.loc 0) 0) (.item (.loc 1) 0)) (.seq (.ret (.bool false)) .nil) .nil) (.seq (.ite (.cmp .Eq (.item (.loc 0) 0) (.str "v")) (.seq (.ite (.and (.cmp .NotIn (.item (.loc 0) 1) (.loc 2)) (.cmp .NotIn (.item (.loc 1) 1) (.loc 3))) (.seq (.cw (.loc 2) (.item (.loc 0) 1) (.item (.loc 1) 1)) (.seq (.cw (.loc 3) (.item (.loc 1) 1) (.item (.loc 0) 1)) .nil)) .nil) (.seq (.ret (.and (.cmp .Eq (.ax (.loc 2) "get" (.cons (.item (.loc 0) 1) (.cons (.neg (.int 1)) .nil))) (.item (.loc 1) 1)) (.cmp .Eq (.ax (.loc 3) "get" (.cons (.item (.loc 1) 1) (.cons (.neg (.int 1)) .nil))) (.item (.loc 0) 1)))) .nil)) .nil) (.seq (.ite (.cmp .Eq (.item (.loc 0) 0) (.str "s")) (.seq (.ite (.or (.cmp .NotEq (.item (.loc 0) 1) (.item (.loc 1) 1)) (.cmp .NotEq (.call (.builtin "len") (.cons (.item (.loc 0) 2) .nil)) (.call (.builtin "len") (.cons (.item (.loc 1) 2) .nil)))) (.seq (.ret (.bool false)) .nil) .nil) (.seq (.ret (.cmp .NotIn (.bool false) (.raw (fO [1] (gp (cz [2,0,1] oA.body)))))) .nil)) .nil) (.seq (.ret (.and (.cmp .Eq (.item (.loc 0) 1) (.item (.loc 1) 1)) (.not (.call (.builtin "isinstance") (.cons (.item (.loc 1) 1) (.cons (.aF (.val (.type "bool"))) .nil)))))) .nil))))
theorem qI:Rd 90 910 4 0 tj:=⟨⟨by decide,by rfl,by rfl,by rfl⟩,by kernel_rfl,b4 λq_ q_ q_ q_=>rfl⟩
noncomputable abbrev NS:RS:=(.seq (.raw (cz [0] Js.body)) (.seq (.asg 4 (.tup (.cons (.str "s") (.cons (.ax (.loc 0) "func" (.cons (.loc 1) (.cons (.call (.builtin "len") (.cons (.loc 3) .nil)) .nil))) (.cons (.call (.type "tuple") (.cons (.loc 3) .nil)) .nil))))) (.seq (.ite (.cmp .Eq (.loc 3) (.list .nil)) (.seq (.asg 4 (.tup (.cons (.str "a") (.cons (.ax (.loc 0) "atom" (.cons (.loc 1) .nil)) .nil)))) .nil) .nil) (.seq (.ret (.tup (.cons (.str "error") (.cons (.tup (.cons (.str "s") (.cons (.aF (.int 16)) (.cons (.tup (.cons (.loc 4) (.cons (.tup (.cons (.str "a") (.cons (.aF (.int 25)) .nil))) .nil))) .nil)))) .nil)))) .nil))))
theorem Bu:Rd 91 915 3 2 NS:=⟨⟨by decide,by rfl,by rfl,by rfl⟩,by kernel_rfl,b3 λq_ q_ q_=>rfl⟩
noncomputable abbrev qJ:RS:=(.seq (.asg 4 .di) (.seq (.raw (cz [1] mS.body)) (.seq (.expr (.ax (.loc 0) "set_arguments" (.cons (.loc 5) .nil))) (.seq (.raw (cz [3] mS.body)) (.seq (.ite (.cmp .Eq (.item (.loc 3) 0) (.str "error")) (.seq (.ret (.bool false)) .nil) .nil) (.seq (.asg 8 .di) (.seq (.dp 9 (.item (.loc 3) 1) (.seq (.ite (.not (.bz (.call (.ref 900) (.cons (.item (.loc 9) 0) (.cons (.item (.loc 9) 1) (.cons (.loc 8) .nil)))))) (.seq (.ret (.not (.loc 6))) .nil) .nil) .nil)) (.seq (.ite (.not (.bz (.loc 6))) (.seq (.ret (.bool false)) .nil) .nil) (.seq (.asg 10 .di) (.seq (.asg 11 .di) (.seq (.asg 12 .di) (.seq (.dp 13 (.call (.type "range") (.cons (.call (.builtin "len") (.cons (.loc 2) .nil)) .nil)) (.seq (.ite (.not (.bz (.call (.ref 910) (.cons (.call (.ref 905) (.cons (.idx (.loc 2) (.loc 13)) (.cons (.loc 8) .nil))) (.cons (.ax (.attr (.loc 0) "store") "take_term" (.cons (.idx (.loc 5) (.loc 13)) (.cons (.loc 10) .nil))) (.cons (.loc 11) (.cons (.loc 12) .nil))))))) (.seq (.ret (.bool false)) .nil) .nil) .nil)) (.seq (.ret (.bool true)) .nil)))))))))))))
theorem NT:Rd 92 920 4 10 qJ:=⟨⟨by decide,by rfl,by rfl,by rfl⟩,by kernel_rfl,b4 λq_ q_ q_ q_=>rfl⟩
noncomputable abbrev NU:RS:=(.seq (.asg 2 (.call (.ref 881) (.cons (.loc 0) (.cons (.int 6) .nil)))) (.seq (.ite (.cmp .Eq (.loc 2) (.int 5)) (.seq (.ret (.tup (.cons (.str "v") (.cons (.int 0) .nil)))) .nil) .nil) (.seq (.ite (.cmp .Gt (.loc 2) (.int 2)) (.seq (.ret (.tup (.cons (.str "i") (.cons (.ite (.cmp .Eq (.loc 2) (.int 3)) (.bin .Sub (.call (.ref 881) (.cons (.loc 0) (.cons (.int 3) .nil))) (.int 1)) (.bin .Sub (.call (.ref 881) (.cons (.loc 0) (.cons (.bin .Pow (.int 10) (.int 20)) .nil))) (.bin .Pow (.int 10) (.int 19)))) .nil)))) .nil) .nil) (.seq (.ret (.tup (.cons (.str "a") (.cons (.idx (.list (.cons (.aF (.int 0)) (.cons (.ax (.loc 1) "atom" (.cons (.str "b") .nil)) (.cons (.ax (.loc 1) "atom" (.cons (.str "ab") .nil)) (.cons (.ax (.loc 1) "atom" (.cons (.str "") .nil)) .nil))))) (.call (.ref 881) (.cons (.loc 0) (.cons (.int 4) .nil)))) .nil)))) .nil))))
theorem NV:Rd 93 927 2 1 NU:=⟨⟨by decide,by rfl,by rfl,by rfl⟩,by kernel_rfl,b2 λq_ q_=>rfl⟩
noncomputable abbrev wC:RS:=(.seq (.asg 3 (.call (.ref 881) (.cons (.loc 0) (.cons (.int 4) .nil)))) (.seq (.ite (.or (.cmp .Eq (.loc 3) (.int 0)) (.cmp .Eq (.loc 2) (.int 0))) (.seq (.ret (.call (.ref 927) (.cons (.loc 0) (.cons (.loc 1) .nil)))) .nil) .nil) (.seq (.asg 4 (.ite (.and (.cmp .Eq (.loc 3) (.int 2)) (.cmp .Eq (.call (.ref 881) (.cons (.loc 0) (.cons (.int 2) .nil))) (.int 0))) (.aF (.int 0)) (.ax (.loc 1) "func" (.cons (.idx (.list (.cons (.str "ab") (.cons (.str "b") .nil))) (.call (.ref 881) (.cons (.loc 0) (.cons (.int 2) .nil)))) (.cons (.loc 3) .nil))))) (.seq (.ret (.tup (.cons (.str "s") (.cons (.loc 4) (.cons (.call (.type "tuple") (.cons (.raw (fO [2,1] (gp (cz [3] oB.body)))) .nil)) .nil))))) .nil))))
theorem Bv:Rd 94 932 3 2 wC:=⟨⟨by decide,by rfl,by rfl,by rfl⟩,by kernel_rfl,b3 λq_ q_ q_=>rfl⟩
noncomputable abbrev NW:RS:=(.seq (.ite (.or (.cmp .NotEq (.item (.loc 2) 0) (.str "s")) (.cmp .Eq (.call (.ref 881) (.cons (.loc 0) (.cons (.int 3) .nil))) (.int 0))) (.seq (.ret (.call (.ref 932) (.cons (.loc 0) (.cons (.loc 1) (.cons (.int 1) .nil))))) .nil) .nil) (.seq (.asg 3 (.call (.ref 881) (.cons (.loc 0) (.cons (.call (.builtin "len") (.cons (.item (.loc 2) 2) .nil)) .nil)))) (.seq (.asg 4 (.call (.type "list") (.cons (.item (.loc 2) 2) .nil))) (.seq (.cw (.loc 4) (.loc 3) (.call (.ref 939) (.cons (.loc 0) (.cons (.loc 1) (.cons (.idx (.loc 4) (.loc 3)) .nil))))) (.seq (.ret (.tup (.cons (.str "s") (.cons (.item (.loc 2) 1) (.cons (.call (.type "tuple") (.cons (.loc 4) .nil)) .nil))))) .nil)))))
theorem Bw:Rd 95 939 3 2 NW:=⟨⟨by decide,by rfl,by rfl,by rfl⟩,by kernel_rfl,b3 λq_ q_ q_=>rfl⟩
noncomputable abbrev NX:RS:=(.seq (.asg 3 (.list (.cons (.str "v") (.cons (.str "i") (.cons (.str "a") (.cons (.str "s") .nil)))))) (.seq (.ite (.cmp .NotEq (.item (.loc 1) 0) (.item (.loc 2) 0)) (.seq (.ret (.cmp .Lt (.ax (.loc 3) "index" (.cons (.item (.loc 1) 0) .nil)) (.ax (.loc 3) "index" (.cons (.item (.loc 2) 0) .nil)))) .nil) .nil) (.seq (.ite (.cmp .Eq (.item (.loc 1) 0) (.str "i")) (.seq (.ret (.cmp .Lt (.item (.loc 1) 1) (.item (.loc 2) 1))) .nil) .nil) (.seq (.ite (.cmp .Eq (.item (.loc 1) 0) (.str "a")) (.seq (.ret (.cmp .Lt (.raw (fO [0] (gp (cz [3,0,0] oC.body)))) (.raw (fO [1] (gp (cz [3,0,0] oC.body)))))) .nil) .nil) (.seq (.ite (.or (.cmp .Eq (.item (.loc 1) 0) (.str "v")) (.cmp .Eq (.loc 1) (.loc 2))) (.seq (.ret (.bool false)) .nil) .nil) (.seq (.ite (.cmp .NotEq (.call (.builtin "len") (.cons (.item (.loc 1) 2) .nil)) (.call (.builtin "len") (.cons (.item (.loc 2) 2) .nil))) (.seq (.ret (.cmp .Lt (.call (.builtin "len") (.cons (.item (.loc 1) 2) .nil)) (.call (.builtin "len") (.cons (.item (.loc 2) 2) .nil)))) .nil) .nil) (.seq (.ite (.cmp .NotEq (.item (.loc 1) 1) (.item (.loc 2) 1)) (.seq (.ret (.call (.ref 944) (.cons (.loc 0) (.cons (.tup (.cons (.str "a") (.cons (.ax (.loc 0) "name" (.cons (.item (.loc 1) 1) .nil)) .nil))) (.cons (.tup (.cons (.str "a") (.cons (.ax (.loc 0) "name" (.cons (.item (.loc 2) 1) .nil)) .nil))) .nil))))) .nil) .nil) (.seq (.dp 4 (.call (.type "range") (.cons (.call (.builtin "len") (.cons (.item (.loc 1) 2) .nil)) .nil)) (.seq (.ite (.cmp .NotEq (.idx (.item (.loc 1) 2) (.loc 4)) (.idx (.item (.loc 2) 2) (.loc 4))) (.seq (.ret (.call (.ref 944) (.cons (.loc 0) (.cons (.idx (.item (.loc 1) 2) (.loc 4)) (.cons (.idx (.item (.loc 2) 2) (.loc 4)) .nil))))) .nil) .nil) .nil)) (.seq (.ret (.bool false)) .nil)))))))))
theorem qK:Rd 96 944 3 2 NX:=⟨⟨by decide,by rfl,by rfl,by rfl⟩,by kernel_rfl,b3 λq_ q_ q_=>rfl⟩
noncomputable abbrev NY:RS:=(.seq (.ret (.tup (.cons (.str "holds") (.cons (.ite (.bz (.loc 0)) (.list .nil) (.list (.cons (.tup (.cons (.tup (.cons (.str "i") (.cons (.int 0) .nil))) (.cons (.tup (.cons (.str "i") (.cons (.int 1) .nil))) .nil))) .nil))) .nil)))) .nil)
theorem NZ:Rd 97 951 1 0 NY:=⟨⟨by decide,by rfl,by rfl,by rfl⟩,by kernel_rfl,b1 λq_=>rfl⟩
noncomputable abbrev N0:RS:=(.seq (.expr (.ax (.loc 0) "set_arguments" (.cons (.loc 2) .nil))) (.seq (.raw (cz [1] AD.body)) (.seq (.ret .qy) .nil)))
theorem N1:Rd 99 965 3 2 N0:=⟨⟨by decide,by rfl,by rfl,by rfl⟩,by kernel_rfl,b3 λq_ q_ q_=>rfl⟩
noncomputable abbrev dD:RS:=(.seq (.asg 1 (.raw (fO [] (gp (cz [0] kA.body))))) (.seq (.asg 2 (.list (.cons (.loc 1) (.cons (.int 0) (.cons (.int 0) (.cons (.bin .Mult (.bin .Mod (.call (.builtin "sum") (.cons (.loc 1) .nil)) (.int 100003)) (.int 7)) .nil)))))) (.seq (.asg 3 (.call (.ref 174) .nil)) (.seq (.asg 4 (.call (.ref 870) (.cons (.loc 3) (.cons (.list .nil) .nil)))) (.seq (.asg 5 (.call (.ref 881) (.cons (.loc 2) (.cons (.int 3) .nil)))) (.seq (.asg 6 (.call (.ref 932) (.cons (.loc 2) (.cons (.loc 3) (.cons (.int 2) .nil))))) (.seq (.asg 7 (.ite (.cmp .Eq (.loc 5) (.int 1)) (.call (.ref 939) (.cons (.loc 2) (.cons (.loc 3) (.cons (.loc 6) .nil)))) (.call (.ref 932) (.cons (.loc 2) (.cons (.loc 3) (.cons (.int 2) .nil)))))) (.seq (.ite (.cmp .Eq (.loc 5) (.int 2)) (.seq (.asg 7 (.loc 6)) .nil) .nil) (.seq (.asg 8 (.item (.loc 6) 0)) (.seq (.asg 9 (.loc 6)) (.seq (.loop (.and (.cmp .Eq (.item (.loc 9) 0) (.str "s")) (.cmp .Eq (.item (.loc 9) 1) (.aF (.int 0)))) (.seq (.asg 9 (.item (.item (.loc 9) 2) 1)) .nil)) (.seq (.asg 10 (.list (.cons (.tup (.cons (.aF (.val (.ref 586))) (.cons (.cmp .Eq (.loc 8) (.str "v")) .nil))) (.cons (.tup (.cons (.aF (.val (.ref 593))) (.cons (.cmp .NotEq (.loc 8) (.str "v")) .nil))) (.cons (.tup (.cons (.aF (.val (.ref 600))) (.cons (.cmp .Eq (.loc 8) (.str "a")) .nil))) (.cons (.tup (.cons (.aF (.val (.ref 607))) (.cons (.cmp .Eq (.loc 8) (.str "i")) .nil))) .nil)))))) (.seq (.raw (cz [12] kA.body)) (.seq (.raw (cz [13] kA.body)) (.seq (.dp 11 (.loc 10) (.seq (.ite (.not (.bz (.call (.ref 920) (.cons (.loc 4) (.cons (.item (.loc 11) 0) (.cons (.list (.cons (.loc 6) .nil)) (.cons (.call (.ref 951) (.cons (.item (.loc 11) 1) .nil)) .nil))))))) (.seq (.ret (.bool false)) .nil) .nil) .nil)) (.seq (.asg 12 (.call (.ref 944) (.cons (.loc 3) (.cons (.loc 6) (.cons (.loc 7) .nil))))) (.seq (.asg 13 (.call (.ref 944) (.cons (.loc 3) (.cons (.loc 7) (.cons (.loc 6) .nil))))) (.seq (.asg 14 (.ite (.bz (.loc 12)) (.neg (.int 1)) (.ite (.bz (.loc 13)) (.int 1) (.int 0)))) (.seq (.ite (.or (.cmp .NotEq (.call (.ref 206) (.cons (.loc 3) (.cons (.loc 6) (.cons (.loc 7) .nil)))) (.loc 14)) (.cmp .NotEq (.call (.ref 206) (.cons (.loc 3) (.cons (.loc 7) (.cons (.loc 6) .nil)))) (.neg (.loc 14)))) (.seq (.ret (.bool false)) .nil) .nil) (.seq (.asg 15 (.list (.cons (.tup (.cons (.aF (.val (.ref 656))) (.cons (.loc 12) .nil))) (.cons (.tup (.cons (.aF (.val (.ref 663))) (.cons (.loc 13) .nil))) (.cons (.tup (.cons (.aF (.val (.ref 670))) (.cons (.not (.loc 13)) .nil))) (.cons (.tup (.cons (.aF (.val (.ref 677))) (.cons (.not (.loc 12)) .nil))) .nil)))))) (.seq (.asg 16 (.call (.ref 910) (.cons (.loc 6) (.cons (.loc 7) (.cons .di (.cons .di .nil)))))) (.seq (.raw (cz [21] kA.body)) (.seq (.dp 17 (.loc 15) (.seq (.ite (.not (.bz (.call (.ref 920) (.cons (.loc 4) (.cons (.item (.loc 17) 0) (.cons (.list (.cons (.loc 6) (.cons (.loc 7) .nil))) (.cons (.call (.ref 951) (.cons (.item (.loc 17) 1) .nil)) .nil))))))) (.seq (.ret (.bool false)) .nil) .nil) .nil)) (.seq (.asg 18 (.tup (.cons (.str "a") (.cons (.ax (.loc 3) "atom" (.cons (.idx (.list (.cons (.str "=") (.cons (.str ">") (.cons (.str "<") .nil)))) (.loc 14)) .nil)) .nil)))) (.seq (.asg 19 (.list (.cons (.tup (.cons (.str "v") (.cons (.int 5) .nil))) (.cons (.tup (.cons (.str "v") (.cons (.int 0) .nil))) (.cons (.loc 18) (.cons (.tup (.cons (.str "a") (.cons (.ax (.loc 3) "atom" (.cons (.str "<") .nil)) .nil))) (.cons (.tup (.cons (.str "a") (.cons (.ax (.loc 3) "atom" (.cons (.str "=") .nil)) .nil))) (.cons (.tup (.cons (.str "a") (.cons (.ax (.loc 3) "atom" (.cons (.str ">") .nil)) .nil))) (.cons (.tup (.cons (.str "a") (.cons (.aF (.int 0)) .nil))) (.cons (.tup (.cons (.str "i") (.cons (.int 3) .nil))) .nil)))))))))) (.seq (.expr (.ax (.loc 19) "append" (.cons (.tup (.cons (.str "s") (.cons (.ax (.loc 3) "func" (.cons (.str "b") (.cons (.int 1) .nil))) (.cons (.tup (.cons (.tup (.cons (.str "v") (.cons (.int 6) .nil))) .nil)) .nil)))) .nil))) (.seq (.asg 19 (.idx (.loc 19) (.call (.ref 881) (.cons (.loc 2) (.cons (.int 9) .nil))))) (.seq (.asg 20 (.tup (.cons (.str "holds") (.cons (.list (.cons (.tup (.cons (.loc 19) (.cons (.loc 18) .nil))) .nil)) .nil)))) (.seq (.ite (.cmp .In (.item (.loc 19) 0) (.list (.cons (.str "i") (.cons (.str "s") .nil)))) (.seq (.asg 20 (.call (.ref 915) (.cons (.loc 3) (.cons (.str "type_error") (.cons (.list (.cons (.str "atom") (.cons (.loc 19) .nil))) .nil))))) .nil) (.seq (.ite (.and (.cmp .Eq (.item (.loc 19) 0) (.str "a")) (.cmp .NotIn (.ax (.loc 3) "text" (.cons (.item (.loc 19) 1) .nil)) (.list (.cons (.str "<") (.cons (.str "=") (.cons (.str ">") .nil)))))) (.seq (.asg 20 (.call (.ref 915) (.cons (.loc 3) (.cons (.str "domain_error") (.cons (.list (.cons (.str "order") (.cons (.loc 19) .nil))) .nil))))) .nil) .nil) .nil)) (.seq (.ite (.not (.bz (.call (.ref 920) (.cons (.loc 4) (.cons (.aF (.val (.ref 958))) (.cons (.list (.cons (.loc 19) (.cons (.loc 6) (.cons (.loc 7) .nil)))) (.cons (.loc 20) .nil))))))) (.seq (.ret (.bool false)) .nil) .nil) (.seq (.asg 21 (.idx (.list (.cons (.tup (.cons (.str "v") (.cons (.int 0) .nil))) (.cons (.tup (.cons (.str "i") (.cons (.call (.ref 881) (.cons (.loc 2) (.cons (.int 300) .nil))) .nil))) (.cons (.tup (.cons (.str "a") (.cons (.aF (.int 0)) .nil))) (.cons (.tup (.cons (.str "i") (.cons (.neg (.int 1)) .nil))) .nil))))) (.call (.ref 881) (.cons (.loc 2) (.cons (.int 4) .nil))))) (.seq (.asg 20 (.tup (.cons (.str "halt") (.cons (.item (.loc 21) 1) .nil)))) (.seq (.ite (.cmp .Eq (.item (.loc 21) 0) (.str "v")) (.seq (.asg 20 (.call (.ref 915) (.cons (.loc 3) (.cons (.str "instantiation_error") (.cons (.list .nil) .nil))))) .nil) (.seq (.ite (.cmp .Eq (.item (.loc 21) 0) (.str "a")) (.seq (.asg 20 (.call (.ref 915) (.cons (.loc 3) (.cons (.str "type_error") (.cons (.list (.cons (.str "integer") (.cons (.loc 21) .nil))) .nil))))) .nil) .nil) .nil)) (.seq (.ite (.or (.cmp .NotEq (.call (.ref 965) (.cons (.loc 4) (.cons (.aF (.val (.ref 712))) (.cons (.list (.cons (.ax (.loc 4) "put" (.cons (.loc 21) .nil)) .nil)) .nil)))) (.loc 20)) (.cmp .NotEq (.call (.ref 965) (.cons (.loc 4) (.cons (.aF (.val (.ref 705))) (.cons (.list .nil) .nil)))) (.tup (.cons (.str "halt") (.cons (.int 0) .nil))))) (.seq (.ret (.bool false)) .nil) .nil) (.seq (.asg 22 (.ax (.loc 4) "put" (.cons (.tup (.cons (.str "s") (.cons (.aF (.int 0)) (.cons (.tup (.cons (.loc 6) (.cons (.tup (.cons (.str "v") (.cons (.int 9) .nil))) .nil))) .nil)))) .nil))) (.seq (.expr (.ax (.attr (.loc 4) "store") "bind" (.cons (.tup (.cons (.aF (.int 0)) (.cons (.bin .Add (.item (.loc 22) 1) (.int 1)) .nil))) (.cons (.loc 22) .nil)))) (.seq (.expr (.ax (.loc 4) "set_arguments" (.cons (.list (.cons (.loc 22) .nil)) .nil))) (.seq (.ret (.and (.cmp .Eq (.item (.loc 22) 0) (.aF (.int 3))) (.and (.not (.call (.ref 642) (.cons (.loc 4) .nil))) (.not (.call (.ref 635) (.cons (.loc 4) .nil)))))) .nil))))))))))))))))))))))))))))))))))))))
theorem Bx:Rd 100 972 1 22 dD:=⟨⟨by decide,by rfl,by rfl,by rfl⟩,by kernel_rfl,b1 λq_=>rfl⟩
end
end Mine
end
namespace Mine
noncomputable section
open Classical
structure aT where
 (o d tx an fs fn:Addr)
structure ai where
 tx:List Str
 fs:List (Int×Int)
noncomputable def ai.an (T:ai):List (Str×V):=T.tx.zipIdx.map λp=>(p.1,.int (p.2:Int))
noncomputable def ai.fn (T:ai):List (List Int×V):=T.fs.zipIdx.map λp=>([p.1.1,p.1.2],.int (p.2:Int))
structure ai.aX (σ:S)(y:aT)(T:ai):Prop where
 o:σ y.o=some (.inst 1 174 y.d)
 d:σ y.d=some (.bb 2 ["texts","atom_numbers","functors","functor_numbers"] [.val (.ref y.tx),.val (.ref y.an),.val (.ref y.fs),.val (.ref y.fn)])
 tx:σ y.tx=some (.list 3 (T.tx.map .str))
 an:σ y.an=some (.dS 4 T.an)
 fs:σ y.fs=some (.list 5 (T.fs.map λp=>.tup [.int p.1,.int p.2]))
 fn:σ y.fn=some (.dT 6 T.fn)
theorem ai.aX.keep (h:ai.aX σ y T)(k:Keeps X σ af)(hX:∀t∈X,6<t):ai.aX af y T:=by
 have n:∀t,t≤6→t∉X:=λt ht hm=>absurd (hX t hm) (by exact λh=>nf (M2 [_] [] 0x111111100061111161100110 rfl ht h))
 exact⟨k _ _ h.o (n 1 (by decide)),k _ _ h.d (n 2 (by decide)),k _ _ h.tx (n 3 (by decide)),k _ _ h.an (n 4 (by decide)),k _ _ h.fs (n 5 (by decide)),k _ _ h.fn (n 6 (by decide))⟩
theorem By{α K:Type}[DecidableEq α][DecidableEq K](g:α→K)(hg:∀a b,g a=g b→a=b)(x:α):∀(l:List α) (m:Nat),
  (∃i:Nat,l[i]? =some x∧(∀(j:Nat),j<i→l[j]?≠some x)∧look ((l.zipIdx m).map λp=>(g p.1,V.int (p.2:Int))) (g x)=some (.int ((m+i:Nat):Int)))∨(x∉l∧look ((l.zipIdx m).map λp=>(g p.1,V.int (p.2:Int))) (g x)=none):=by
 intro l
 induction l with
 |nil=>exact λm=>.inr ⟨List.not_mem_nil,rfl⟩
 |cons y l ih=>
  intro m
  by_cases h:y=x
  ·refine .inl (cA 0 (congrArg some h) (λj hj=>absurd hj j.not_lt_zero) ?_)
   exact Option.map_eq_some_iff.mpr ⟨_,List.find?_cons_of_pos (decide_eq_true (congrArg g h)),rfl⟩
  ·have hk:decide (g y=g x)≠true:=λq=>h (hg _ _ (of_decide_eq_true q))
   refine Or.elim (ih (m+1)) (λo=>bG o λi h1 h2 h3=>.inl (cA (i+1) h1 (λj hj=>?_) ?_)) λo=>XA o λh1 h2=>.inr ⟨λq=>Or.elim (List.mem_cons.mp q) (λq=>h q.symm) h1,?_⟩
   ·cases j with
    |zero=>exact λq=>h (Option.some.inj q)
    |succ j=>exact h2 j (Nat.lt_of_succ_lt_succ hj)
   ·exact(congrArg (Option.map Prod.snd) (List.find?_cons_of_neg hk)).trans (h3.trans (congrArg (λn:Nat=>some (V.int n)) (Nat.succ_add_eq_add_succ m i)))
   ·exact(congrArg (Option.map Prod.snd) (List.find?_cons_of_neg hk)).trans h2
theorem oL{K:Type}[DecidableEq K]{ps:List (K×V)}{x:K}(h:look ps x=none):put ps x r=ps++ [(x,r)]:=by
 unfold put
 rw[if_neg]
 intro q
 refine ak (List.any_eq_true.mp q) λp hp e=>?_
 unfold look at h
 rw[Option.map_eq_none_iff,List.find?_eq_none]at h
 exact h p hp e
theorem N2(tx fs x):(ai.mk (tx++ [x]) fs).an= (ai.mk tx fs).an++ [(x,.int (tx.length:Int))]:=by
 simp[ai.an,List.zipIdx_append]
theorem N3(tx)(fs:List (Int×Int))(p:Int×Int):(ai.mk tx (fs++ [p])).fn= (ai.mk tx fs).fn++ [([p.1,p.2],.int (fs.length:Int))]:=by
 simp[ai.fn,List.zipIdx_append]
theorem Bz{α:Type}[DecidableEq α]{l:List α}:∀{m:List α},l.Nodup→(∀x∈l,x∈m)→l.length≤m.length:=by
 induction l with
 |nil=>exact λq_ q_=>Nat.zero_le _
 |cons x l ih=>
  intro m nd h
  have nd:=List.nodup_cons.mp nd
  have hx:=h x (.head _)
  have h1:=ih (m:=m.erase x) nd.2 λy hy=>(List.mem_erase_of_ne λq:y=x=>nd.1 (q▸hy)).mpr (h y (.tail _ hy))
  exact Nat.le_trans (Nat.succ_le_succ (Nat.le_trans h1 (Nat.le_of_eq (List.length_erase_of_mem hx)))) (Nat.le_of_eq (Nat.sub_add_cancel (List.length_pos_of_mem hx)))
noncomputable def bZ:List Str:=(["[]",".","{}","-","+","*","/",",","|",";","->","\\+",":-","?-","-->","!","true","fail","false","call","=","^","error","","end_of_file","system","$VAR","catch","throw","b","ab","<",">","type_error","domain_error","instantiation_error","atom","order","integer"]:List String).map Str.ofString
structure ai.Ok (T:ai):Prop where
 m6:T.tx.Nodup
 qL:T.fs.Nodup
 tx:∀x∈T.tx,x∈bZ
 fs:∀p∈T.fs,0≤p.1∧p.1< (T.tx.length:Int)∧0≤p.2∧p.2≤8
theorem N4:bZ.length=39:=by unfold bZ;exact ae (List.length_map ..) rfl
theorem ai.Ok.jy {T:ai}(h:T.Ok):T.tx.length≤39:=by
 have:=Bz h.m6 h.tx
 rwa [N4]at this
theorem ai.Ok.oM {T:ai}(h:T.Ok):T.fs.length≤351:=by
 have:=Bz (m:=(List.range 39).flatMap λ(i:Nat)=>(List.range 9).map λ(j:Nat)=>((i:Int),(j:Int))) h.qL λp hp=>by
  refine fZ (h.fs p hp) λh1 h2 h3 h4=>?_
  have h5:=h.jy
  rw[List.mem_flatMap]
  refine bx p.1.toNat (List.mem_range.mpr (by exact M3 [_,_] [_] 0x2721101110010611627210011000600115 rfl h2 h5 (Int.toNat_of_nonneg (M1 [] [_] 0x1111400011114 rfl h1)))) (List.mem_map.mpr ⟨p.2.toNat,List.mem_range.mpr (by exact M2 [_] [_] 0x911001110000611681100114 rfl h4 (Int.toNat_of_nonneg (M1 [] [_] 0x1111400011114 rfl h3))),?_⟩)
  obtain ⟨a,b⟩:=p
  simp only at h1 h3 ⊢
  exact ae (Int.toNat_of_nonneg h1) (ae (Int.toNat_of_nonneg h3) rfl)
 exact this
structure ai.Ext (T T':ai):Prop where
 tx:T.tx <+:T'.tx
 fs:T.fs <+:T'.fs
theorem ai.Ext.refl (T:ai):T.Ext T:=⟨List.prefix_refl _,List.prefix_refl _⟩
theorem ai.Ext.trans {T T' tl:ai}(h:T.Ext T')(h':T'.Ext tl):T.Ext tl:=⟨h.tx.trans h'.tx,h.fs.trans h'.fs⟩
theorem bW{α:Type}{l m:List α}(h:l <+:m){i:Nat}{x:α}(e:l[i]? =some x):m[i]? =some x:=by
 obtain ⟨t,rfl⟩:=h
 exact ae (List.getElem?_append_left (be e)) e
end
noncomputable section
open Classical
noncomputable def BA:V→Bool
 |.val v=>handedIn v
 |.c4 _ _ _=>false
 |_=>true
theorem N5{r:V}(h:BA r=true):r.handed:=by cases r<;>first|trivial|exact h|cases h
noncomputable def wD(n:Str):List Str→List V→Option V
 |y::ks,v::vs=>bif decide (y=n) then some v else wD n ks vs
 |_,_=>none
theorem N6:∀{vs:List V}{r:V},wD n ks vs=some r→∃i,Ix ks n i∧vs[i]? =some r:=by
 induction ks with
 |nil=>exact λh=>aJ h
 |cons y ks ih=>
  intro vs r
  cases vs with
  |nil=>exact λh=>aJ h
  |cons v vs=>exact λh=>pH h (λq h=>bx 0 (of_decide_eq_true q▸.here) h) λq_ h=>ak (ih h) λi h1 h2=>bx (i+1) (.there h1) h2
noncomputable def N7(C:Addr)(n:Str)(ks:List Str)(vs:List V):Option V:=bif jt.contains C&&mU.contains (C,n)&&decide ks.Nodup then wD n ks vs else none
theorem Keeps.at {X:List Nat}{o:O}(k:Keeps X σ af)(h:σ a=some o)(e:X.elem o.tag=false:=by rfl):af a=some o:=k a o h λm=>by
 rw[List.elem_iff.mpr m]at e;exact dG e
theorem dN{α β:Type}{g:α→β}{l:List α}(h:l.length≤100000):(l.map g).length≤sizeLine:=sl (by exact ae (List.length_map ..) h)
noncomputable def hY(σ:S)(a C:Addr)(ks:List Str)(vs:List V):Prop:=∃t d t2,σ a=some (.inst t C d)∧σ d=some (.bb t2 ks vs)
theorem hY.mk (h1:σ a=some (.inst t C d))(h2:σ d=some (.bb t2 ks vs)):hY σ a C ks vs:=gb t d t2 h1 h2
variable {c:Cx}{f:Fm}{k:Nat}{E:Value→Shared→Prop}{σ:S}{ρ:Lo}
theorem AT.go (T:au c)(I:hY σ a C ks vs)(h:N7 C n ks vs=some r)(hh:BA r=true)(q:Q r σ):AT c n Q (.val (.ref a)) σ:=by
 refine gP I λt d t2 h1 h2=>?_
 refine XA (bt h) λhb h=>?_
 rw[Bool.and_eq_true,Bool.and_eq_true,decide_eq_true_eq]at hb
 refine ak (N6 h) λi h3 h4=>?_
 exact⟨_,qv.mk T h1 h2 h3 h4 (List.contains_iff_mem.mp hb.1.1) (List.contains_iff_mem.mp hb.1.2) hb.2 (N5 hh),q⟩
theorem ME.go {ks:List Str}(T:au c)(I:hY σ a C ks vs)(hm:(bif ks.contains n then none else oE C n oD)=some fa)(h:P (.ref fa)):ME c n P (.val (.ref a)) σ:=by
 refine gP I λt d t2 h1 h2=>?_
 refine XA (bf hm) λhn hm=>?_
 exact JN T h1 h2 hm hn h
theorem ME.bl {P:Value→Prop}{a:Addr}{n:Str}{id:String}(ha:σ a=some o)(hb:blt o n=some id)(h:P (.builtin id)):ME c n P (.val (.ref a)) σ:=JO ha hb h
theorem aZ.go (t:Nat)(h:iO (.list t rs) σ Q):aZ rs σ Q:=⟨t,h⟩
theorem cW.go (o:O)(ho:o= .dI o.tag []∨o= .dS o.tag []∨o= .dT o.tag [])(h:iO o σ Q):cW σ Q:=bx o ho h
theorem ai.aX.inst {y:aT}(h:ai.aX σ y T):hY σ y.o 174 ["texts","atom_numbers","functors","functor_numbers"] [.val (.ref y.tx),.val (.ref y.an),.val (.ref y.fs),.val (.ref y.fn)]:=gb _ _ _ h.o h.d
theorem I.cv (h:CV c k v as σ Q):CV c k v as σ Q:=h
theorem I.ov (h:OV c f E k op as ρ σ Q):OV c f E k op as ρ σ Q:=h
theorem I.ou (h:OU c f E k op as ρ σ Q):OU c f E k op as ρ σ Q:=h
theorem I.ob (h:OB c f E k op as ρ σ Q):OB c f E k op as ρ σ Q:=h
theorem I.ix (h:IX c f k E ρ Q a b σ):IX c f k E ρ Q a b σ:=h
theorem I.br {A B:Prop}(h:Br b A B):Br b A B:=h
theorem I.nl (h:aZ as σ Q):aZ as σ Q:=h
theorem I.nd (h:cW σ Q):cW σ Q:=h
theorem I.sa (h:SA c n Q a b σ):SA c n Q a b σ:=h
theorem I.re (h:aq Q fl ρ σ):aq Q fl ρ σ:=h
theorem I.tu (h:js J Q fl ρ σ):js J Q fl ρ σ:=h
theorem I.lp {T B}(h:LP T B ρ σ Q):LP T B ρ σ Q:=h
theorem I.fp {B}(h:FP c B i ρ Q r σ):FP c B i ρ Q r σ:=h
theorem I.ev (h:EV c f E k e ρ σ Q):EV c f E k e ρ σ Q:=h
theorem I.ex (h:aS c f E k s ρ σ Q):aS c f E k s ρ σ Q:=h
theorem CV.iR {α:Type}{g:α→V}{l:List α}(ha:σ a=some (.list t (l.map g)))(hl:l.length≤100000)(q:Q (.int l.length) σ):CV c k (.builtin "len") [.val (.ref a)] σ Q:=CV.lv ha (dN hl) (by exact ae (List.length_map ..) q)
theorem CV.tq {K:Type}[DecidableEq K](D:DK c K){l:List (K×V)}{x:K}(ha:σ a=some (D.ob t l))(hk:D.key b x)(hr:look l x=some r)(q:Q r σ):CV c k (.builtin "dict.get") [.val (.ref a),b,dv] σ Q:=D.get ha hk (by exact ae hr q)
theorem CV.BB {K:Type}[DecidableEq K](D:DK c K){l:List (K×V)}{x:K}(ha:σ a=some (D.ob t l))(hk:D.key b x)(hr:look l x=none)(q:Q dv σ):CV c k (.builtin "dict.get") [.val (.ref a),b,dv] σ Q:=D.get ha hk (by exact ae hr q)
end
noncomputable section
open Classical
noncomputable section
set_option genCtorIdx true in
set_option genInjectivity true in
inductive Tm where
 |v (n:Int)
 |a (n:Nat)
 |i (z:Int)
 |s (f:Nat) (l:List Tm)
mutual
noncomputable def Tm.fold {α:Type}(fv:Int→α)(fa:Nat→α)(fi:Int→α)(fs:Nat→List α→α):Tm→α
 |.v n=>fv n
 |.a n=>fa n
 |.i n=>fi n
 |.s f l=>fs f (Tm.wE fv fa fi fs l)
noncomputable def Tm.wE {α:Type}(fv:Int→α)(fa:Nat→α)(fi:Int→α)(fs:Nat→List α→α):List Tm→List α
 | []=> []
 |x::r=>Tm.fold fv fa fi fs x::Tm.wE fv fa fi fs r
end
theorem Tm.N8 {α:Type}{fv:Int→α}{fa:Nat→α}{fi:Int→α}{fs:Nat→List α→α}(l):Tm.wE fv fa fi fs l=l.map (Tm.fold fv fa fi fs):=by
 induction l with
 |nil=>rfl
 |cons x r ih=>exact congrArg (List.cons _) ih
theorem Tm.ia {α:Type}{fv:Int→α}{fa:Nat→α}{fi:Int→α}{fs:Nat→List α→α}{f l}:Tm.fold fv fa fi fs (.s f l)=fs f (l.map (Tm.fold fv fa fi fs)):=congrArg (fs f) (Tm.N8 l)
theorem Tm.ind {P:Tm→Prop}(hv:∀n,P (.v n))(ha:∀n,P (.a n))(hi:∀n,P (.i n))(hs:∀f l,(∀x∈l,P x)→P (.s f l))(t:Tm):P t:=
 Tm.rec (motive_1:=P) (motive_2:=λl=>∀x∈l,P x) hv ha hi hs (by simp) (λx r hx hr y hy=>by
  refine bO hy ?_ λh=>?_
  ·exact hx
  ·exact hr y h) t
noncomputable def Tm.V:Tm→V:=Tm.fold (λn=>.tup [.str "v",.int n]) (λn=>.tup [.str "a",.int n]) (λn=>.tup [.str "i",.int n]) (λf L=>.tup [.str "s",.int f,.tup L])
theorem Tm.cH {f l}:(Tm.s f l).V= .tup [.str "s",.int f,.tup (l.map Tm.V)]:=Tm.ia
noncomputable def Tm.aQ (ρ:Int→Int):Tm→Tm:=Tm.fold (λn=>.v (ρ n)) .a .i .s
theorem Tm.dE {ρ f l}:(Tm.s f l).aQ ρ= .s f (l.map (Tm.aQ ρ)):=Tm.ia
noncomputable def Tm.sz:Tm→Nat:=Tm.fold (λq_=>1) (λq_=>1) (λq_=>1) (λq_ L=>2+ (L.map (· +1)).sum)
theorem Tm.dq {f l}:(Tm.s f l).sz=2+ (l.map λt=>t.sz+1).sum:=by
 unfold Tm.sz;refine ae Tm.ia (ae List.map_map ?_);rfl
theorem Tm.gq (t:Tm):0<t.sz:=by
 cases t with
 |s f l=>exact ae Tm.dq (M0 [_] [] 0x2112011111 rfl)
 |_=>exact Nat.one_pos
theorem N9{l:List Nat}(h:n∈l):n≤l.sum:=by
 induction l with
 |nil=>exact dx h
 |cons a l ih=>
  refine ae List.sum_cons ?_
  refine bO h ?_ λh=>?_
  ·simp
  ·have:=ih h;exact M1 [_,_,_] [] 0x10202001101000110 rfl this
theorem Tm.qM {f l t}(h:t∈l):t.sz< (Tm.s f l).sz:=by
 refine ae Tm.dq ?_
 have:=N9 (List.mem_map.mpr ⟨t,h,rfl⟩:t.sz+1∈l.map λt=>t.sz+1)
 exact M1 [_,_] [] 0x1021120011110111002110 rfl this
noncomputable def Tm.Vr (x:Int):Tm→Prop:=Tm.fold (λn=>x=n) (λq_=>False) (λq_=>False) (λq_ L=>∃p∈L,p)
theorem Tm.ej {x f l}:(Tm.s f l).Vr x↔∃t∈l,t.Vr x:=by
 unfold Tm.Vr;refine ae Tm.ia ?_
 constructor
 ·rintro ⟨p,hp,h⟩
  refine ak (List.mem_map.mp hp) λt ht m7=>?_
  subst m7
  exact⟨t,ht,h⟩
 ·rintro ⟨t,ht,h⟩
  exact⟨_,List.mem_map.mpr ⟨t,ht,rfl⟩,h⟩
noncomputable def Tm.bp (D:Int→Prop)(t:Tm):Prop:=∀x,t.Vr x→D x
theorem Tm.gr {D f l}(h:(Tm.s f l).bp D):∀t∈l,t.bp D:=λt ht x hx=>h x (Tm.ej.mpr ⟨t,ht,hx⟩)
noncomputable def Tm.Wf (Tb:ai):Tm→Prop:=Tm.fold (λq_=>True) (λn=>n<Tb.tx.length) (λq_=>True) (λf L=>(∃nm:Int,Tb.fs[f]? =some (nm,(L.length:Int)))∧(f=0→L.length=2)∧0<L.length∧L.length≤3∧∀p∈L,p)
theorem Tm.bB {Tb f l}:(Tm.s f l).Wf Tb↔(∃nm:Int,Tb.fs[f]? =some (nm,(l.length:Int)))∧(f=0→l.length=2)∧0<l.length∧l.length≤3∧∀t∈l,t.Wf Tb:=by
 unfold Tm.Wf;refine ae Tm.ia ?_
 simp only[List.length_map,List.forall_mem_map]
theorem Tm.Wf.ext {Tb ay:ai}(e:Tb.Ext ay)(t:Tm):t.Wf Tb→t.Wf ay:=by
 induction t using Tm.ind with
 |hv n=>exact λq_=>trivial
 |hi n=>exact λq_=>trivial
 |ha n=>
  intro h
  have h1:n<Tb.tx.length:=h
  have h2:=e.tx.length_le
  exact(Nat.lt_of_lt_of_le h1 h2:n<ay.tx.length)
 |hs f l ih=>
  rw[Tm.bB,Tm.bB]
  rintro ⟨⟨nm,h1⟩,h2,h3,h4,h5⟩
  exact⟨⟨nm,bW e.fs h1⟩,h2,h3,h4,λt ht=>ih t ht (h5 t ht)⟩
noncomputable def Tm.bF (n:Nat)(t:Tm):Prop:=Tm.fold (λq_=>λq_=>True) (λq_=>λq_=>True) (λq_=>λq_=>True) (λq_ L=>λn=>0<n∧∀p∈L,p (n- 1)) t n
theorem Tm.dY {n f l}:(Tm.s f l).bF n↔0<n∧∀t∈l,t.bF (n- 1):=by
 unfold Tm.bF;rw[Tm.ia]
 simp only[List.forall_mem_map]
theorem Oa:V.iD n l=true↔∀x∈l,x.ok n=true:=by
 induction l with
 |nil=>exact⟨λq_ q_ h=>dx h,λq_=>rfl⟩
 |cons x r ih=>exact⟨λh=>List.forall_mem_cons.mpr ⟨(Bool.and_eq_true_iff.mp h).1,ih.mp (Bool.and_eq_true_iff.mp h).2⟩,λh=>Bool.and_eq_true_iff.mpr ⟨h x (.head _),ih.mpr λy hy=>h y (.tail _ hy)⟩⟩
theorem ty:PyData.strOk "v"=true∧PyData.strOk "a"=true∧PyData.strOk "i"=true∧PyData.strOk "s"=true:=by decide +kernel
theorem Tm.qN (t:Tm):∀{n},t.bF n→t.V.ok (2*n+1)=true:=by
 induction t using Tm.ind with
 |hv n=>exact λq_=>(congrArg (and · true) ty.1:)
 |ha n=>exact λq_=>(congrArg (and · true) ty.2.1:)
 |hi n=>exact λq_=>(congrArg (and · true) ty.2.2.1:)
 |hs f l ih=>
  intro n h
  have h:=Tm.dY.mp h
  obtain ⟨m,rfl⟩:=Nat.exists_eq_add_of_le' h.1
  have:V.iD (2*m+1) (l.map Tm.V)=true:=Oa.mpr λx hx=>ak (List.mem_map.mp hx) λt ht e=>e▸ih t ht (h.2 t ht)
  refine ae Tm.cH ?_
  show (PyData.strOk "s"&&(true&&(V.iD (2*m+1) (l.map Tm.V)&&true)))=true
  exact ae this (ae ty.2.2.2 rfl)
theorem V.t2 (h:V.tup (.str a::x::l)= .tup (.str b::y::m)):a=b∧x=y∧l=m:=
 have e:=List.cons.inj (V.tup.inj h)
 ⟨V.str.inj e.1,List.cons.inj e.2⟩
theorem Ob{α β:Type}{f:α→β}{l:List α}:∀{m:List α},(∀x∈l,∀{y},f x=f y→x=y)→l.map f=m.map f→l=m:=by
 induction l with
 |nil=>
  intro m _ h
  cases m with
  |nil=>rfl
  |cons=>cases h
 |cons x l ih=>
  intro m hi h
  cases m with
  |nil=>cases h
  |cons y m=>
   have e:=List.cons.inj h
   exact congr (congrArg List.cons (hi x (.head _) e.1)) (ih (λz hz=>hi z (.tail _ hz)) e.2)
theorem Tm.Oc (t:Tm):∀{u:Tm},t.V=u.V→t=u:=by
 have d1:"v"≠Str.ofString "a":=by decide
 have d2:"v"≠Str.ofString "i":=by decide
 have d3:"a"≠Str.ofString "i":=by decide
 have d4:"s"≠Str.ofString "v":=by decide
 have d5:"s"≠Str.ofString "a":=by decide
 have d6:"s"≠Str.ofString "i":=by decide
 induction t using Tm.ind with
 |hv n=>
  intro u h
  cases u with
  |v m=>exact congrArg Tm.v (V.int.inj (V.t2 h).2.1)
  |a m=>exact absurd (V.t2 h).1 d1
  |i m=>exact absurd (V.t2 h).1 d2
  |s g m=>exact absurd (V.t2 (h.trans Tm.cH)).1.symm d4
 |ha n=>
  intro u h
  cases u with
  |a m=>exact congrArg Tm.a (Int.ofNat.inj (V.int.inj (V.t2 h).2.1))
  |v m=>exact absurd (V.t2 h).1.symm d1
  |i m=>exact absurd (V.t2 h).1 d3
  |s g m=>exact absurd (V.t2 (h.trans Tm.cH)).1.symm d5
 |hi n=>
  intro u h
  cases u with
  |i m=>exact congrArg Tm.i (V.int.inj (V.t2 h).2.1)
  |v m=>exact absurd (V.t2 h).1.symm d2
  |a m=>exact absurd (V.t2 h).1.symm d3
  |s g m=>exact absurd (V.t2 (h.trans Tm.cH)).1.symm d6
 |hs f l ih=>
  intro u h
  have h:=Tm.cH.symm.trans h
  cases u with
  |s g m=>
   have e:=V.t2 (h.trans Tm.cH)
   exact congr (congrArg Tm.s (Int.ofNat.inj (V.int.inj e.2.1))) (Ob ih (V.tup.inj (List.cons.inj e.2.2).1))
  |v m=>exact absurd (V.t2 h).1 d4
  |a m=>exact absurd (V.t2 h).1 d5
  |i m=>exact absurd (V.t2 h).1 d6
theorem Tm.BC {t u:Tm}:t.V=u.V↔t=u:=⟨λh=>Tm.Oc t h,λh=>h▸rfl⟩
noncomputable def bM(a b:Int):Int:=if a=b then 0 else if a<b then -1 else 1
noncomputable def cK(a b:Str):Int:=if a=b then 0 else if a.cps.toList<b.cps.toList then -1 else 1
theorem qO(h:a<b):bM a b= -1:=(if_neg (Int.ne_of_lt h)).trans (if_pos h)
theorem qP(h:b<a):bM a b=1:=(if_neg (Int.ne_of_gt h)).trans (if_neg (Int.not_lt.mpr (Int.le_of_lt h)))
theorem wF:a<b↔bM a b<0:=⟨λh=>ae (qO h) (by decide),λz=>(Int.lt_trichotomy a b).elim id λo=>o.elim (λh=>absurd ((if_pos h:bM a b=0)▸z:(0:Int)<0) (by decide)) λh=>absurd (qP h▸z:(1:Int)<0) (by decide)⟩
theorem tz(a b:Int):bM b a= - bM a b:=(Int.lt_trichotomy a b).elim (λh=>(qP h).trans (congrArg Neg.neg (qO h)).symm) λo=>o.elim (λh=>(if_pos h.symm:bM b a=0).trans (congrArg Neg.neg (if_pos h:bM a b=0)).symm) λh=>(qO h).trans (congrArg Neg.neg (qP h)).symm
theorem ft:bM a b=0↔a=b:=⟨λz=>(Int.lt_trichotomy a b).elim (λh=>absurd ((qO h).symm.trans z) (by decide)) λo=>o.elim id λh=>absurd ((qP h).symm.trans z) (by decide),λh=>if_pos h⟩
theorem BD{a b:Str}(h:a.cps.toList=b.cps.toList):a=b:=by
 cases a;cases b;simp at h;simpa using h
theorem wG(a b:Str):cK b a= - cK a b:=by
 unfold cK
 by_cases h:a=b
 ·subst h;simp
 ·have h':¬b=a:=λq=>h q.symm
  refine ae (if_neg h) (ae (if_neg h') ?_)
  by_cases h1:a.cps.toList<b.cps.toList
  ·refine ae (if_pos h1) (ae (if_neg (List.lt_asymm h1)) ?_);rfl
  ·rw[if_neg h1,if_pos]
   refine Or.elim (Classical.em (b.cps.toList<a.cps.toList)) (λh2=>?_) λh2=>?_
   ·exact h2
   ·exact absurd (BD (List.le_antisymm (List.not_lt.mp h2) (List.not_lt.mp h1))) h
theorem wH:cK a b=0↔a=b:=by unfold cK;split<;> (try split)<;>simp_all
noncomputable def first:List Int→Int
 | []=>0
 |x::r=>if x=0 then first r else x
noncomputable def ai.txt (T:ai)(n:Nat):Str:=T.tx.getD n ""
noncomputable def ai.nm (T:ai)(f:Nat):Int:=(T.fs.getD f (0,0)).1
noncomputable def ai.ar (T:ai)(f:Nat):Int:=(T.fs.getD f (0,0)).2
noncomputable def ai.cQ (T:ai)(f g:Nat):Int:=if T.ar f=T.ar g then cK (T.txt (T.nm f).toNat) (T.txt (T.nm g).toNat) else bM (T.ar f) (T.ar g)
theorem ai.Od (T:ai)(f g:Nat):T.cQ g f= - T.cQ f g:=by
 unfold ai.cQ
 by_cases h:T.ar f=T.ar g
 ·exact ae (if_pos h) (ae (if_pos h.symm) (ae (wG ..) rfl))
 ·exact ae (if_neg h) (ae (if_neg (λq=>h q.symm)) (ae (tz ..) rfl))
set_option tactic.hygienic true in
theorem ai.Ok.m8 {T:ai}(ok:T.Ok)(hf:f<T.fs.length)(hg:g<T.fs.length):T.cQ f g=0↔f=g:=by
 constructor
 ·intro h
  unfold ai.cQ at h
  split at h
  ·rename_i h1
   have h2:=wH.mp h
   unfold ai.ar ai.nm ai.txt at *
   simp only[List.getD_eq_getElem?_getD,List.getElem?_eq_getElem hf,List.getElem?_eq_getElem hg,Option.getD_some]at h1 h2
   refine fZ (ok.fs _ (List.getElem_mem hf)) λa1 a2 a3 a4=>?_
   refine fZ (ok.fs _ (List.getElem_mem hg)) λb1 b2 b3 b4=>?_
   have ha:(T.fs[f]).1.toNat<T.tx.length:=by exact tn (by assumption) (by assumption)
   have hb:(T.fs[g]).1.toNat<T.tx.length:=by exact tn (by assumption) (by assumption)
   simp only[List.getElem?_eq_getElem ha,List.getElem?_eq_getElem hb,Option.getD_some]at h2
   have h3:=(List.getElem_inj ok.m6).mp h2
   exact(List.getElem_inj ok.qL).mp (Prod.ext ((Int.toNat_of_nonneg (by assumption)).symm.trans ((congrArg Nat.cast h3).trans (Int.toNat_of_nonneg (by assumption)))) h1)
  ·rename_i h1
   exact absurd (ft.mp h) h1
 ·rintro rfl
  unfold ai.cQ
  exact ae (if_pos rfl) (wH.mpr rfl)
noncomputable def Tm.rank:Tm→Int
 |.v _=>0
 |.i _=>1
 |.a _=>2
 |.s _ _=>3
noncomputable def Tm.cmp (T:ai):Tm→Tm→Int:=Tm.fold
 (λn u=>match u with|.v m=>bM n m|u=>bM 0 u.rank)
 (λn u=>match u with|.a m=>cK (T.txt n) (T.txt m)|u=>bM 2 u.rank)
 (λn u=>match u with|.i m=>bM n m|u=>bM 1 u.rank)
 (λf L u=>match u with|.s g m=>if T.cQ f g=0 then first (List.zipWith (λp t=>p t) L m) else T.cQ f g|u=>bM 3 u.rank)
theorem Tm.ib {T:ai}{f g l m}:(Tm.s f l).cmp T (.s g m)=if T.cQ f g=0 then first (List.zipWith (Tm.cmp T) l m) else T.cQ f g:=by
 refine Eq.trans (congrFun Tm.ia (Tm.s g m)) ?_
 exact congrArg (λx=>if T.cQ f g=0 then first x else T.cQ f g) List.zipWith_map_left
theorem Tm.iT {t u:Tm}(h:t.rank≠u.rank):t.cmp T u=bM t.rank u.rank:=by
 cases t<;>cases u<;>first|exact absurd rfl h|rfl|exact congrFun Tm.ia _
theorem oO:(0:Int)≠1:=by decide
theorem oP:(0:Int)≠2:=by decide
theorem qQ:(0:Int)≠3:=by decide
theorem oQ:(1:Int)≠2:=by decide
theorem qR:(1:Int)≠3:=by decide
theorem qS:(2:Int)≠3:=by decide
theorem Tm.ic {t u:Tm}(h:t.rank≠u.rank):u.cmp T t= - t.cmp T u:=(Tm.iT h.symm).trans ((tz ..).trans (congrArg Neg.neg (Tm.iT h).symm))
theorem Tm.ie {t u:Tm}(h:t.rank≠u.rank):t.cmp T u=0↔t=u:=⟨λz=>absurd (ft.mp ((Tm.iT h).symm.trans z)) h,λz=>absurd (congrArg Tm.rank z) h⟩
theorem Oe(l:List Int):first (l.map λx=> -x)= - first l:=by
 induction l with
 |nil=>rfl
 |cons x r ih=>
  show (if -x=0 then first (r.map _) else -x)= - (if x=0 then first r else x)
  by_cases h:x=0
  ·exact(if_pos (congrArg Neg.neg h)).trans (ih.trans (congrArg Neg.neg (if_pos h).symm))
  ·exact(if_neg λz=>h (Int.neg_eq_zero.mp z)).trans (congrArg Neg.neg (if_neg h).symm)
theorem Tm.tA (T:ai)(t:Tm):∀u,u.cmp T t= - t.cmp T u:=by
 induction t using Tm.ind with
 |hv n=>intro u;cases u with|v=>exact tz .. |a=>exact Tm.ic oP|i=>exact Tm.ic oO|s=>exact Tm.ic qQ
 |hi n=>intro u;cases u with|i=>exact tz .. |a=>exact Tm.ic oQ|v=>exact Tm.ic oO.symm|s=>exact Tm.ic qR
 |ha n=>intro u;cases u with|a=>exact wG .. |v=>exact Tm.ic oP.symm|i=>exact Tm.ic oQ.symm|s=>exact Tm.ic qS
 |hs f l ih=>
  intro u
  cases u with
  |s g m=>
   refine ae Tm.ib (ae Tm.ib (ae (T.Od f g) ?_))
   by_cases h:T.cQ f g=0
   ·refine ae (if_pos (by exact Int.le_antisymm (M1 [] [_] 0x1100411400011117 rfl h) (M1 [] [_] 0x401111401100116 rfl h))) (ae (if_pos h) (aU (Oe ..) (ae List.map_zipWith (ae List.zipWith_comm ?_))))
    congr 1
    clear h
    induction l generalizing m with
    |nil=>simp
    |cons x l m9=>
     cases m with
     |nil=>simp
     |cons y m=>
      rw[List.zipWith_cons_cons,List.zipWith_cons_cons,ih x (.head _),m9 (λt ht=>ih t (.tail _ ht))]
   ·exact ae (if_neg (by lia)) (ae (if_neg h) rfl)
  |v=>exact Tm.ic qQ.symm
  |a=>exact Tm.ic qS.symm
  |i=>exact Tm.ic qR.symm
theorem Of:first l=0↔∀x∈l,x=0:=by
 induction l with
 |nil=>exact⟨λq_ q_ h=>dx h,λq_=>rfl⟩
 |cons x r ih=>
  show (if x=0 then first r else x)=0↔_
  refine Iff.trans ?_ List.forall_mem_cons.symm
  by_cases h:x=0
  ·exact ae (if_pos h) ⟨λz=>⟨h,ih.mp z⟩,λz=>ih.mpr z.2⟩
  ·exact ae (if_neg h) ⟨λz=>absurd z h,λz=>z.1⟩
theorem Tm.cmp_self (T:ai)(t:Tm):t.cmp T t=0:=by
 have:=Tm.tA T t t;exact Int.le_antisymm (M1 [] [_] 0x110021400400116 rfl this) (M1 [] [_] 0x1121400004117 rfl this)
theorem ai.Ok.Og {T:ai}(ok:T.Ok)(hn:n<T.tx.length)(hm:m<T.tx.length)(h:T.txt n=T.txt m):n=m:=by
 unfold ai.txt at h
 rw[List.getD_eq_getElem?_getD,List.getD_eq_getElem?_getD,List.getElem?_eq_getElem hn,List.getElem?_eq_getElem hm,Option.getD_some,Option.getD_some]at h
 exact(List.getElem_inj ok.m6).mp h
set_option tactic.hygienic true in
theorem Tm.tB {T:ai}(ok:T.Ok)(t:Tm):∀{u:Tm},t.Wf T→u.Wf T→(t.cmp T u=0↔t=u):=by
 induction t using Tm.ind with
 |hv n=>
  intro u _ _
  cases u with
  |v m=>exact Iff.trans ft ⟨congrArg _,Tm.v.inj⟩
  |a=>exact Tm.ie oP
  |i=>exact Tm.ie oO
  |s=>exact Tm.ie qQ
 |hi n=>
  intro u _ _
  cases u with
  |i m=>exact Iff.trans ft ⟨congrArg _,Tm.i.inj⟩
  |a=>exact Tm.ie oQ
  |v=>exact Tm.ie oO.symm
  |s=>exact Tm.ie qR
 |ha n=>
  intro u h1 h2
  cases u with
  |a m=>
   exact Iff.trans wH ⟨λh=>congrArg _ (ok.Og h1 h2 h),λh=>congrArg _ (Tm.a.inj h)⟩
  |v=>exact Tm.ie oP.symm
  |i=>exact Tm.ie oQ.symm
  |s=>exact Tm.ie qS
 |hs f l ih=>
  intro u h1 h2
  cases u with
  |s g m=>
   refine⟨λh=>?_,λh=>h▸Tm.cmp_self T _⟩
   refine iw (Tm.bB.mp h1) λOh q_ q_ q_ a5=>?_
   obtain ⟨n1,a1⟩:=Oh
   refine iw (Tm.bB.mp h2) λOi q_ q_ q_ b5=>?_
   obtain ⟨n2,b1⟩:=Oi
   rw[Tm.ib]at h
   split at h
   ·rename_i h0
    have lC:=(ok.m8 (be a1) (be b1)).mp h0
    subst lC
    rw[a1]at b1
    simp only[Option.some.injEq,Prod.mk.injEq]at b1
    have hl:l.length=m.length:=by exact Nat.le_antisymm (M1 [_,_] [] 0x1000110106006116 rfl b1.2) (M1 [_,_] [] 0x1000110106006117 rfl b1.2)
    congr 1
    refine List.ext_getElem hl λi h3 h4=>?_
    refine(ih _ (List.getElem_mem h3) (a5 _ (List.getElem_mem h3)) (b5 _ (List.getElem_mem h4))).mp ?_
    refine Of.mp h _ (List.mem_iff_getElem.mpr ⟨i,by simp;lia,by simp⟩)
   ·rename_i h0
    exact absurd h h0
  |v=>exact Tm.ie qQ.symm
  |a=>exact Tm.ie qS.symm
  |i=>exact Tm.ie qR.symm
end
end
noncomputable section
open Classical
noncomputable section
noncomputable abbrev aE:=Int×Int
noncomputable abbrev Hp:=List aE
noncomputable def At(H:Hp)(a:Int)(c:aE):Prop:=0≤a∧H[a.toNat]? =some c
theorem At.lt {H a c}(x:At H a c):a< (H.length:Int):=(Int.toNat_lt x.1).mp (be x.2)
theorem At.mk' {H:Hp}{n:Nat}{c:aE}(h:H[n]? =some c):At H (n:Int) c:=⟨Int.natCast_nonneg n,by simpa using h⟩
noncomputable def Le(H H':Hp):Prop:=∀a c,At H a c→At H' a c
theorem Le.refl (H:Hp):Le H H:=λq_ q_ h=>h
theorem Le.trans (x:Le H H')(y:Le H' Oj):Le H Oj:=λa c h=>y a c (x a c h)
inductive cR (H:Hp):Nat→aE→aE→Prop
 |self {t z}:2≤t→t≤5→cR H 0 (t,z) (t,z)
 |var {a}:At H a (0,a)→cR H 0 (0,a) (0,a)
 |step {a c c' n}:At H a c→c≠(0,a)→cR H n c c'→cR H (n+1) (0,a) c'
noncomputable def aH(H:Hp)(c c':aE):Prop:=∃n,cR H n c c'
theorem At.inj {H a c d}(x:At H a c)(y:At H a d):c=d:=Option.some.inj (x.2.symm.trans y.2)
theorem cR.inv {d e:aE}(h:cR H n d e):(d=e∧d.1≠0∧d.1≠1)∨(d.1=0∧∃d',At H d.2 d'∧(d'=d→d=e)∧(d'≠d→∃m,m<n∧cR H m d' e)):=by
 cases h with
 |self a1 a2=>exact .inl ⟨rfl,Int.ne_of_gt (Int.lt_of_lt_of_le (by decide) a1),Int.ne_of_gt (Int.lt_of_lt_of_le (by decide) a1)⟩
 |var ha=>exact .inr ⟨rfl,_,ha,λq_=>rfl,λh=>absurd rfl h⟩
 |step ha bS hd=>exact .inr ⟨rfl,_,ha,λh=>absurd h bS,λq_=>⟨_,Nat.lt_succ_self _,hd⟩⟩
theorem cR.inj {n c d}(h:cR H n c d):∀{m d'},cR H m c d'→d=d':=by
 induction h with
 |self h1 h2=>exact λh'=>Or.elim h'.inv (λo=>o.1) λo=>absurd (o.1▸h1:(2:Int)≤0) (by decide)
 |var h1=>exact λh'=>Or.elim h'.inv (λo=>absurd rfl o.2.1) λo=>o.2.elim λd o=>o.2.1 (o.1.inj h1)
 |step h1 h2 h3 ih=>exact λh'=>Or.elim h'.inv (λo=>absurd rfl o.2.1) λo=>o.2.elim λd o=>(o.2.2 (o.1.inj h1▸h2)).elim λm q=>ih (o.1.inj h1▸q.2)
theorem aH.inj {H c d d'}(x:aH H c d)(y:aH H c d'):d=d':=by
 refine XE x λn x=>?_
 refine XE y λm y=>?_
 exact x.inj y
theorem cR.tag {H n c d}(x:cR H n c d):(c.1=0∨(2≤c.1∧c.1≤5))∧(d.1=0∨(2≤d.1∧d.1≤5)):=by
 induction x with
 |self h1 h2=>exact⟨.inr ⟨h1,h2⟩,.inr ⟨h1,h2⟩⟩
 |var _=>exact⟨.inl rfl,.inl rfl⟩
 |step _ _ _ ih=>exact⟨.inl rfl,ih.2⟩
theorem aH.tag {H c d}(x:aH H c d):(c.1=0∨(2≤c.1∧c.1≤5))∧(d.1=0∨(2≤d.1∧d.1≤5)):=by
 refine XE x λn x=>?_;exact x.tag
theorem cR.end_ {H n c d}(x:cR H n c d):cR H 0 d d:=by
 induction x with
 |self h1 h2=>exact .self h1 h2
 |var h=>exact .var h
 |step _ _ _ ih=>exact ih
theorem aH.end_ {H c d}(x:aH H c d):aH H d d:=by
 refine XE x λn x=>?_;exact⟨0,x.end_⟩
theorem aH.BE {H c a}(x:aH H c (0,a)):At H a (0,a):=by
 obtain ⟨n,x⟩:=x
 generalize hd:((0,a):aE)=d at x
 induction x with
 |self h1 h2=>cases hd;exact absurd h1 (by decide)
 |var h=>cases hd;exact h
 |step _ _ _ ih=>exact ih hd
theorem cR.mono (h:Le H H'){n c d}(x:cR H n c d):cR H' n c d:=by
 induction x with
 |self h1 h2=>exact .self h1 h2
 |var h1=>exact .var (h _ _ h1)
 |step h1 h2 _ ih=>exact .step (h _ _ h1) h2 ih
theorem aH.mono (h:Le H H'){c d}(x:aH H c d):aH H' c d:=by
 refine XE x λn x=>?_;exact⟨n,x.mono h⟩
theorem aH.con (h1:2≤t)(h2:t≤5):aH H (t,z) (t,z):=⟨0,.self h1 h2⟩
noncomputable def aN(f:Nat):Int:=if f=0 then 3 else 2
noncomputable def bJ(f:Nat):Int:=if f=0 then 0 else 1
noncomputable def Tm.Rep (H:Hp):Tm→aE→Prop:=Tm.fold (λn c=>aH H c (0,n)) (λn c=>aH H c (4,(n:Int))) (λn c=>aH H c (5,n))
 (λf L c=>∃a,aH H c (aN f,a)∧(f≠0→At H a (6,(f:Int)))∧∀(i:Nat) p,L[i]? =some p→∃c',At H (a+bJ f+ (i:Int)) c'∧p c')
noncomputable def Args(H:Hp)(p:Int)(l:List Tm):Prop:=∀(i:Nat) (t:Tm),l[i]? =some t→∃c',At H (p+ (i:Int)) c'∧t.Rep H c'
noncomputable def b7(H:Hp)(a:Int)(f:Nat)(l:List Tm):Prop:=(f≠0→At H a (6,(f:Int)))∧Args H (a+bJ f) l
theorem Tm.dO {f l c}:(Tm.s f l).Rep H c↔∃a,aH H c (aN f,a)∧b7 H a f l:=by
 unfold Tm.Rep;rw[Tm.ia]
 constructor
 ·rintro ⟨a,h1,h2,h3⟩
  refine cA a h1 h2 (λi t ht=>h3 i _ ?_)
  refine ae (List.getElem?_map) (ae ht ?_);rfl
 ·rintro ⟨a,h1,h2,h3⟩
  refine cA a h1 h2 (λi p hp=>?_)
  rw[List.getElem?_map]at hp
  refine eW hp λt ht=>?_
  exact h3 i t ht
theorem Tm.Rep.fP {t:Tm}(h:t.Rep H c):∃d,aH H c d∧t.Rep H d:=by
 cases t with
 |v n=>exact bx _ h (aH.end_ h)
 |a n=>exact bx _ h (aH.end_ h)
 |i n=>exact bx _ h (aH.end_ h)
 |s f l=>
  refine ak (Tm.dO.mp h) λa h1 h2=>?_
  exact bx _ h1 (Tm.dO.mpr ⟨a,h1.end_,h2⟩)
theorem Tm.Rep.mono (h:Le H H')(t:Tm):∀{c},t.Rep H c→t.Rep H' c:=by
 induction t using Tm.ind with
 |hv n=>exact λx=>aH.mono h x
 |ha n=>exact λx=>aH.mono h x
 |hi n=>exact λx=>aH.mono h x
 |hs f l ih=>
  intro c x
  refine bG (Tm.dO.mp x) λa h1 h2 h3=>?_
  exact Tm.dO.mpr (cA a (h1.mono h) (λq=>h _ _ (h2 q)) (λi t ht=>by
   refine ak (h3 i t ht) λc' h4 h5=>?_
   exact⟨c',h _ _ h4,ih t (List.mem_of_getElem? ht) h5⟩))
theorem Tm.Rep.tag {t:Tm}{c:aE}(h:t.Rep H c):c.1≠6:=ak h.fP λd h1 q_=>λe=>absurd (e▸h1.tag.1) (by decide)
theorem b7.pos {H a f l}(h:b7 H a f l)(hl:0<l.length):0≤a∧a< (H.length:Int):=by
 by_cases hf:f=0
 ·subst hf
  refine ak (h.2 0 l[0] (List.getElem?_eq_getElem hl)) λc' h1 q_=>?_
  have:=h1.lt
  have:=h1.1
  simp[bJ]at *
  exact⟨M1 [] [_] 0x1111400011114 rfl this,M1 [_] [_] 0x60011500600115 rfl (by assumption)⟩
 ·exact⟨(h.1 hf).1,(h.1 hf).lt⟩
theorem Ol(h:aN f=aN g):(f=0↔g=0):=by unfold aN at h;split at h<;>split at h<;>simp_all
theorem b7.fun {a f g l m}(ih:∀t∈l,∀{u:Tm}{c:aE},t.Rep H c→u.Rep H c→t.Wf T→u.Wf T→t=u)
  (x:b7 H a f l) (y:b7 H a g m) (hx:(Tm.s f l).Wf T) (hy:(Tm.s g m).Wf T):f=g∧l=m:=by
 refine iw (Tm.bB.mp hx) λOm a2 a3 a4 a5=>?_
 obtain ⟨n1,a1⟩:=Om
 refine iw (Tm.bB.mp hy) λOn b2 b3 b4 b5=>?_
 obtain ⟨n2,b1⟩:=On
 have key:∀{f g:Nat}{l m:List Tm},b7 H a f l→b7 H a g m→0<l.length→f=0→g=0:=by
  intro f g l m x y hl hf
  refine Classical.byContradiction λhg=>?_
  subst hf
  refine ak (x.2 0 l[0] (List.getElem?_eq_getElem hl)) λc' h1 h2=>?_
  have h3:=y.1 hg
  simp only[bJ]at h1
  have h4:At H a c':=by simpa using h1
  rw[h4.inj h3]at h2
  exact h2.tag rfl
 have lC:f=g:=by
  by_cases hf:f=0
  ·exact ae hf (ae (key x y a3 hf) rfl)
  ·by_cases hg:g=0
   ·exact absurd (key y x b3 hg) hf
   ·have:=(x.1 hf).inj (y.1 hg)
    simp only[Prod.mk.injEq,true_and]at this
    exact Int.ofNat.inj (by assumption)
 subst lC
 rw[a1]at b1
 simp only[Option.some.injEq,Prod.mk.injEq]at b1
 refine⟨rfl,List.ext_getElem (by exact Nat.le_antisymm (M1 [_,_] [] 0x1000110106006116 rfl b1.2) (M1 [_,_] [] 0x1000110106006117 rfl b1.2)) λi h1 h2=>?_⟩
 refine ak (x.2 i _ (List.getElem?_eq_getElem h1)) λc1 p1 p2=>?_
 refine ak (y.2 i _ (List.getElem?_eq_getElem h2)) λc2 q1 q2=>?_
 cases p1.inj q1
 exact ih _ (List.getElem_mem h1) p2 q2 (a5 _ (List.getElem_mem h1)) (b5 _ (List.getElem_mem h2))
theorem ig{p q:aE}{P:Prop}(h:p=q)(n:¬p.1=q.1):P:=absurd (congrArg Prod.fst h) n
theorem nc(h:¬k=3)(h':¬k=2):¬k=aN f:=by
 unfold aN
 by_cases e:f=0
 ·exact ae (if_pos e) h
 ·exact ae (if_neg e) h'
theorem Tm.Rep.fun (t:Tm):∀{u:Tm}{c:aE},t.Rep H c→u.Rep H c→t.Wf T→u.Wf T→t=u:=by
 have BF:¬(0:Int)=4:=by decide
 have BG:¬(0:Int)=5:=by decide
 have BH:¬(4:Int)=5:=by decide
 have t0:∀{f},¬(0:Int)=aN f:=nc (by decide) (by decide)
 have t4:∀{f},¬(4:Int)=aN f:=nc (by decide) (by decide)
 have t5:∀{f},¬(5:Int)=aN f:=nc (by decide) (by decide)
 induction t using Tm.ind with
 |hv n=>
  intro u c x y _ _
  cases u with
  |v m=>exact congrArg Tm.v (congrArg Prod.snd (aH.inj x y))
  |a m=>exact ig (aH.inj x y) BF
  |i m=>exact ig (aH.inj x y) BG
  |s f l=>exact ak (Tm.dO.mp y) λa h1 q_=>ig (aH.inj x h1) t0
 |ha n=>
  intro u c x y _ _
  cases u with
  |v m=>exact ig (aH.inj y x) BF
  |a m=>exact congrArg Tm.a (Int.ofNat.inj (congrArg Prod.snd (aH.inj x y)))
  |i m=>exact ig (aH.inj x y) BH
  |s f l=>exact ak (Tm.dO.mp y) λa h1 q_=>ig (aH.inj x h1) t4
 |hi n=>
  intro u c x y _ _
  cases u with
  |v m=>exact ig (aH.inj y x) BG
  |a m=>exact ig (aH.inj y x) BH
  |i m=>exact congrArg Tm.i (congrArg Prod.snd (aH.inj x y))
  |s f l=>exact ak (Tm.dO.mp y) λa h1 q_=>ig (aH.inj x h1) t5
 |hs f l ih=>
  intro u c x y hx hy
  refine ak (Tm.dO.mp x) λa h1 h2=>?_
  cases u with
  |s g m=>
   refine ak (Tm.dO.mp y) λa' h3 h4=>?_
   have e:=congrArg Prod.snd (aH.inj h1 h3)
   have q:=h2.fun ih (show b7 H a g m from (show a=a' from e)▸h4) hx hy
   exact congr (congrArg Tm.s q.1) q.2
  |v m=>exact ig (aH.inj y h1) t0
  |a m=>exact ig (aH.inj y h1) t4
  |i m=>exact ig (aH.inj y h1) t5
theorem b7.oR {a f g l m}(x:b7 H a f l)(y:b7 H a g m)(hx:(Tm.s f l).Wf T)(hy:(Tm.s g m).Wf T):f=g∧l=m:=
 x.fun (λt q_=>Tm.Rep.fun t) y hx hy
noncomputable def Tm.sub (x:Int)(n:Nat):Tm→Tm:=Tm.fold (λy=>if y=x then .a n else .v y) .a .i .s
theorem Tm.BI {x n f l}:(Tm.s f l).sub x n= .s f (l.map (Tm.sub x n)):=Tm.ia
theorem At.set {H:Hp}{a:Int}(h:At H a c):At (H.set a.toNat d) a d:=⟨h.1,by exact ae (List.getElem?_set_self (be h.2)) rfl⟩
theorem At.gs {H:Hp}{a b:Int}(h:At H b c)(ha:0≤a)(n:b≠a):At (H.set a.toNat d) b c:=⟨h.1,by
 exact ae (List.getElem?_set_ne λe=>n ((Int.toNat_of_nonneg h.1).symm.trans ((congrArg Nat.cast e.symm).trans (Int.toNat_of_nonneg ha)))) h.2⟩
theorem cR.bind {H:Hp}{a:Int}(ha:At H a (0,a)){m c d}(x:cR H m c d):aH (H.set a.toNat (4,(n:Int))) c (if d= (0,a) then (4,(n:Int)) else d):=by
 induction x with
 |@self t z h1 h2=>
  exact ae (if_neg (by intro q;simp at q;exact nf (M2 [] [_] 0x111112100110011600211114 rfl h1 q.1))) (.con h1 h2)
 |@var b h=>
  by_cases hb:b=a
  ·subst hb
   refine ae (if_pos rfl) ?_
   exact⟨1,.step ha.set (by simp) (.self (by decide) (by decide))⟩
  ·refine ae (if_neg (by simpa using hb)) ?_
   exact⟨0,.var (h.gs ha.1 hb)⟩
 |@step b c c' n' h1 h2 h3 ih=>
  have hb:b≠a:=λq=>by subst q;exact h2 (h1.inj ha)
  refine XE ih λk ih=>?_
  exact⟨k+1,.step (h1.gs ha.1 hb) h2 ih⟩
theorem aH.bind {H:Hp}{a:Int}(ha:At H a (0,a)){c d}(x:aH H c d):aH (H.set a.toNat (4,(n:Int))) c (if d= (0,a) then (4,(n:Int)) else d):=by
 refine XE x λm x=>?_;exact x.bind ha
theorem Tm.Rep.bind {H:Hp}{a:Int}(ha:At H a (0,a))(t:Tm):∀{c},t.Rep H c→(t.sub a n).Rep (H.set a.toNat (4,(n:Int))) c:=by
 induction t using Tm.ind with
 |hv y=>
  intro c x
  have h:=aH.bind (n:=n) ha x
  by_cases hy:y=a
  ·subst hy;rw[if_pos rfl]at h;exact ae (show (Tm.v y).sub y n= .a n by simp[Tm.sub,Tm.fold]) h
  ·rw[if_neg (by simpa using hy)]at h;exact ae (show (Tm.v y).sub a n= .v y by simp[Tm.sub,Tm.fold,hy]) h
 |ha y=>intro c x;have h:=aH.bind (n:=n) ha x;rw[if_neg (by simp)]at h;exact h
 |hi y=>intro c x;have h:=aH.bind (n:=n) ha x;rw[if_neg (by simp)]at h;exact h
 |hs f l ih=>
  intro c x
  refine bG (Tm.dO.mp x) λb h1 h2 h3=>?_
  refine ae Tm.BI ?_
  have h:=aH.bind (n:=n) ha h1
  rw[if_neg (by unfold aN;split<;>simp)]at h
  refine Tm.dO.mpr (cA b h (λhf=>(h2 hf).gs ha.1 λq=>?_) (λi t ht=>?_))
  ·have:=(h2 hf).inj (q▸ha);simp at this
  ·rw[List.getElem?_map]at ht
   refine eW ht λt' kF=>?_
   refine ak (h3 i t' kF) λc' h4 h5=>?_
   have h6:=ih t' (List.mem_of_getElem? kF) h5
   by_cases hb:b+bJ f+ (i:Int)=a
   ·rw[hb]at h4 ⊢
    cases h4.inj ha
    refine⟨_,ha.set,?_⟩
    refine ak h6.fP λd h7 h8=>?_
    have h9:aH (H.set a.toNat (4,(n:Int))) (0,a) (4,(n:Int)):=⟨1,.step ha.set (by simp) (.self (by decide) (by decide))⟩
    cases h7.inj h9
    exact h8
   ·exact⟨c',h4.gs ha.1 hb,h6⟩
end
end
noncomputable section
open Classical
noncomputable section
noncomputable abbrev VT:=List (Int×Int)
noncomputable def nu(L:VT)(n:Int):Int:=(L.lookup n).getD 0
noncomputable abbrev kG:=List (Int×List Tm)
noncomputable def nh(P:kG)(a:Int):Prop:=∀p∈P,¬(p.1≤a∧a<p.1+ (p.2.length:Int))
structure wI(H:Hp)(P:kG)(L:VT)(H':Hp)(L':VT):Prop where
 agree:∀a c,At H a c→nh P a→At H' a c
 ext:∀n a,L.lookup n=some a→L'.lookup n=some a
 args:∀p∈P,Args H' p.1 (p.2.map (Tm.aQ (nu L')))
 vars:∀n a,L'.lookup n=some a→At H' a (0,a)
structure ii(t₀:Tm)(r:aE)(bN H:Hp)(P:kG)(L:VT):Prop where
 fin:∀H' L',wI H P L H' L'→(t₀.aQ (nu L')).Rep H' r
 sort:P.Pairwise λp q=>p.1+ (p.2.length:Int)≤q.1
 low:∀p∈P,(bN.length:Int)≤p.1∧p.1+ (p.2.length:Int)≤(H.length:Int)
 self:∀p∈P,∀i:Nat,i<p.2.length→At H (p.1+ (i:Int)) (0,p.1+ (i:Int))
 vars:∀n a,L.lookup n=some a→At H a (0,a)∧nh P a
 le:Le bN H
noncomputable def wt(P:kG):Nat:=(P.map λp=>1+ (p.2.map Tm.sz).sum).sum
theorem At.push (h:At H a c):At (H++B) a c:=⟨h.1,by exact ae (List.getElem?_append_left (be h.2)) h.2⟩
theorem Le.push:Le H (H++B):=λa c h=>h.push
theorem ii.pop {t₀ r bN H p P L}(x:ii t₀ r bN H ((p, [])::P) L):ii t₀ r bN H P L where
 fin H' L' h:=x.fin H' L' ⟨λa c h1 h2=>h.agree a c h1 λq hq=>h2 q (.tail _ hq),h.ext,λq hq=>by
  refine bO hq ?_ λhq=>?_
  ·intro i t ht;simp at ht
  ·exact h.args q hq,h.vars⟩
 sort:=(List.pairwise_cons.mp x.sort).2
 low q hq:=x.low q (.tail _ hq)
 self q hq:=x.self q (.tail _ hq)
 vars n a h:=⟨(x.vars n a h).1,λq hq=>(x.vars n a h).2 q (.tail _ hq)⟩
 le:=x.le
theorem ii.grow {t₀ r bN H P L b l}(x:ii t₀ r bN H P L)(B:Hp)(hb:(H.length:Int)≤b)(hl:b+ ((l:List Tm).length:Int)≤((H++B).length:Int))(hs:∀i:Nat,i<l.length→At (H++B) (b+ (i:Int)) (0,b+ (i:Int))):ii t₀ r bN (H++B) (P++ [(b,l)]) L where
 fin H' L' h:=x.fin H' L' ⟨λa c h1 h2=>h.agree a c h1.push λq hq=>by
  refine Or.elim (List.mem_append.mp hq) (λhq=>?_) λhq=>?_
  ·exact h2 q hq
  ·simp at hq;subst hq;have:=h1.lt;simp only;exact λh=>nf (M3 [_] [_,_] 0x1111111010001140061011500006114 rfl hb this h.1),h.ext,λq hq=>h.args q (List.mem_append_left _ hq),h.vars⟩
 sort:=by
  rw[List.pairwise_append]
  refine⟨x.sort,by simp,λp hp q hq=>?_⟩
  simp at hq;subst hq
  have:=(x.low p hp).2
  simp only;exact M2 [_,_] [_,_] 0x10610211400610610211400006114 rfl hb this
 low q hq:=by
  have Oo:(bN.length:Int)≤(H.length:Int):=by
   by_cases h0:bN.length=0
   ·exact M1 [_,_] [] 0x10600611401100112 rfl h0
   ·have:=(x.le ((bN.length- 1:Nat):Int) bN[bN.length- 1] (At.mk' (List.getElem?_eq_getElem (by exact M1 [_,_] [] 0x100011110111002112 rfl (Nat.sub_add_cancel (M1 [_] [] 0x11111000011111 rfl (Nat.pos_of_ne_zero h0))))))).lt
    exact M2 [_,_,_] [] 0x10620611411100220110106006115 rfl this s2
  refine Or.elim (List.mem_append.mp hq) (λhq=>?_) λhq=>?_
  ·have:=x.low q hq
   rw[List.length_append]at *
   exact⟨M1 [_] [_] 0x611400006114 rfl this.1,M1 [_,_,_] [_] 0x201026006002114106006002114 rfl this.2⟩
  ·simp at hq;subst hq
   exact⟨by simp only;exact M2 [_,_] [_] 0x10611400610611400006114 rfl hb Oo,hl⟩
 self q hq i hi:=by
  refine Or.elim (List.mem_append.mp hq) (λhq=>?_) λhq=>?_
  ·exact(x.self q hq i hi).push
  ·simp at hq;subst hq
   exact hs i hi
 vars n a h:=⟨(x.vars n a h).1.push,λq hq=>by
  refine Or.elim (List.mem_append.mp hq) (λhq=>?_) λhq=>?_
  ·exact(x.vars n a h).2 q hq
  ·simp at hq;subst hq;have:=(x.vars n a h).1.lt;simp only;exact λh=>nf (M3 [_] [_,_] 0x1111111010001140061011500006114 rfl hb this h.1)⟩
 le:=x.le.trans Le.push
theorem Op{a p:Int}{l:Nat}(h:a<p+ ((l+1:Nat):Int)):a<p+1+ (l:Int):=by exact M1 [_] [_,_] 0x6111102200115111002610200115 rfl h
theorem BJ{a p:Int}{l:Nat}(h:a=p):a<p+ ((l+1:Nat):Int):=by
 subst h;exact M0 [_] [_] 0x111002600200115 rfl
theorem Oq{a p:Int}{l:Nat}(h:a<p+1+ (l:Int)):a<p+ ((l+1:Nat):Int):=by exact M1 [_] [_,_] 0x111002610200115006111102200115 rfl h
theorem ii.item {t₀ r bN H p t l P L}(x:ii t₀ r bN H ((p,t::l)::P) L)(fx:aE)(bc:VT)
  (hL:∀n a,L.lookup n=some a→bc.lookup n=some a) (hv:∀n a,bc.lookup n=some a→L.lookup n=some a∨(a=p∧fx= (0,p)))
  (hc:∀H' L',wI (H.set p.toNat fx) ((p+1,l)::P) bc H' L'→At H' p fx→(t.aQ (nu L')).Rep H' fx):ii t₀ r bN (H.set p.toNat fx) ((p+1,l)::P) bc:=by
 have hp:=x.self _ (.head _) 0 (by simp)
 simp only[Int.natCast_zero,Int.add_zero]at hp
 have oS:=x.low _ (.head _)
 have hs:=List.pairwise_cons.mp x.sort
 have BK:nh ((p+1,l)::P) p:=λq hq=>by
  refine bO hq ?_ λhq=>?_
  ·simp only;exact λh=>nf (M1 [] [_] 0x1111111000111002114 rfl h.1)
  ·have:=hs.1 q hq
   simp only[List.length_cons]at this
   exact λh=>nf (M2 [_] [_,_] 0x111111100010114101110026002114 rfl this h.1)
 have split:∀a,nh ((p+1,l)::P) a→a≠p→nh ((p,t::l)::P) a:=λa h n q hq=>by
  refine bO hq ?_ λhq=>?_
  ·exact λo=>h _ (.head _) ⟨Int.add_one_le_of_lt (Int.lt_iff_le_and_ne.mpr ⟨o.1,n.symm⟩),Op o.2⟩
  ·exact h q (.tail _ hq)
 have wJ:∀a,nh ((p,t::l)::P) a→nh ((p+1,l)::P) a∧a≠p:=λa h=>by
  have h0:=h _ (.head _)
  refine⟨λq hq=>?_,λe=>h0 ⟨Int.le_of_eq e.symm,BJ e⟩⟩
  refine bO hq ?_ λhq=>?_
  ·exact λo=>h0 ⟨Int.le_trans (Int.le_add_of_nonneg_right (by decide)) o.1,Oq o.2⟩
  ·exact h q (.tail _ hq)
 constructor
 ·intro H' L' h
  have mJ:At H' p fx:=h.agree p fx hp.set BK
  refine x.fin H' L' ⟨λa c h1 h2=>h.agree a c (h1.gs hp.1 (wJ a h2).2) (wJ a h2).1,λn a e=>h.ext n a (hL n a e),λq hq=>?_,h.vars⟩
  refine bO hq ?_ λhq=>?_
  ·intro i u hu
   cases i with
   |zero=>
    simp only[List.map_cons,List.getElem?_cons_zero,Option.some.injEq]at hu
    subst hu
    exact⟨fx,by simpa using mJ,hc H' L' h mJ⟩
   |succ i=>
    simp only[List.map_cons,List.getElem?_cons_succ]at hu
    refine ak (h.args _ (.head _) i u hu) λc' h1 h2=>?_
    refine⟨c',?_,h2⟩
    simp only at h1 ⊢
    rwa [show p+ ((i+1:Nat):Int)=p+1+ (i:Int) by exact Int.le_antisymm (M0 [_] [_] 0x611100221110026002114 rfl) (M0 [_] [_] 0x11100260020061110022114 rfl)]
  ·exact h.args q (.tail _ hq)
 ·refine List.pairwise_cons.mpr ⟨λq hq=>?_,hs.2⟩
  have:=hs.1 q hq
  simp only[List.length_cons]at *
  exact M1 [_] [_,_] 0x100061110022114101110026002114 rfl this
 ·intro q hq
  refine ae List.length_set ?_
  refine bO hq ?_ λhq=>?_
  ·simp only[List.length_cons]at *
   exact⟨M1 [_] [_] 0x11100200611400006114 rfl oS.1,M1 [_,_] [_] 0x10600611100221141061110026002114 rfl oS.2⟩
  ·exact x.low q (.tail _ hq)
 ·intro q hq i hi
  rcases List.mem_cons.mp hq with rfl|hq
  ·have:=x.self _ (.head _) (i+1) (by simpa using hi)
   simp only at this ⊢
   rw[show p+ ((i+1:Nat):Int)=p+1+ (i:Int) by exact Int.le_antisymm (M0 [_] [_] 0x611100221110026002114 rfl) (M0 [_] [_] 0x11100260020061110022114 rfl)]at this
   exact this.gs hp.1 (by exact λh=>nf (M1 [_] [_] 0x11111110000061110022116 rfl h))
  ·have h1:=x.self q (.tail _ hq) i hi
   have h2:=hs.1 q hq
   simp only[List.length_cons]at h2
   exact h1.gs hp.1 (by exact λh=>nf (M2 [_,_] [_,_] 0x1111111000106102116101110026002114 rfl h2 h))
 ·intro n a h
  refine Or.elim (hv n a h) (λh=>?_) λOt=>?_
  rotate_left
  obtain ⟨rfl,h⟩:=Ot
  rotate_right
  ·refine XA (x.vars n a h) λh1 h2=>?_
   refine XA (wJ a h2) λh3 h4=>?_
   exact⟨h1.gs hp.1 h4,h3⟩
  ·subst h;exact⟨hp.set,BK⟩
 ·intro a c h
  have h1:=x.le a c h
  have:=h.lt
  have:=oS.1
  exact h1.gs hp.1 (by exact λh=>nf (M3 [_] [_,_] 0x1111111010001170061011500006114 rfl oS.1 (by assumption) h))
theorem ii.done {t₀ r bN H L}(x:ii t₀ r bN H [] L):(t₀.aQ (nu L)).Rep H r:=
 x.fin H L ⟨λq_ q_ h q_=>h,λq_ q_ h=>h,(λp hp=>absurd hp List.not_mem_nil),λn a h=>(x.vars n a h).1⟩
theorem fQ{L:VT}{n a}(h:L.lookup n=some a):nu L n=a:=by unfold nu;exact ae h rfl
theorem jz{L:VT}:(L++ [(n,a)]).lookup m=some b↔L.lookup m=some b∨(L.lookup m=none∧m=n∧b=a):=by
 refine ae List.lookup_append ?_
 cases h:L.lookup m with
 |some b'=>simp
 |none=>
  by_cases hm:m=n
  ·subst hm;simp[List.lookup_cons,eq_comm]
  ·have h2:(m==n)=false:=beq_eq_false_iff_ne.mpr hm
   simp[List.lookup,h2,hm]
end
end
noncomputable section
open Classical
structure ba where
 (o d hp sk tr:Addr)
noncomputable def cV(c:aE):V:=.tup [.int c.1,.int c.2]
theorem tC(c:aE):(cV c).ok 1=true:=rfl
theorem BL:cV a=cV b↔a=b:=by
 obtain ⟨a1,a2⟩:=a
 obtain ⟨b1,b2⟩:=b
 simp[cV]
structure aY(σ:S)(st:ba)(y:aT)(H:Hp):Prop where
 o:σ st.o=some (.inst 11 450 st.d)
 d:σ st.d=some (.bb 12 ["symbols","max_heap","heap","stack","trail","hb","bb"] [.val (.ref y.o),.int 100000,.val (.ref st.hp),.val (.ref st.sk),.val (.ref st.tr),.int 0,.int 0])
 hp:σ st.hp=some (.list 13 (H.map cV))
theorem aY.keep {st y H}(h:aY σ st y H)(k:Keeps X σ af)(hX:∀t∈X,t<11∨13<t):aY af st y H:=by
 have n:∀t,11≤t→t≤13→t∉X:=λt h1 h2 hm=>by have:=hX t hm;lia
 exact⟨k _ _ h.o (n 11 (by decide) (by decide)),k _ _ h.d (n 12 (by decide) (by decide)),k _ _ h.hp (n 13 (by decide) (by decide))⟩
theorem aY.upd {st y H}(h:aY σ st y H)(H':Hp):aY (Mine.upd σ st.hp (.list 13 (H'.map cV))) st y H':=
 ⟨zM h.hp h.o (by simp[O.tag]),zM h.hp h.d (by simp[O.tag]),c5⟩
theorem aY.kp {st y H}(h:aY σ st y H)(o:O):Keeps [13] σ (Mine.upd σ st.hp o):=Keeps.upd h.hp (by simp[O.tag])
variable {c:Cx}{f:Fm}{E:Value→Shared→Prop}{k:Nat}{ρ:Lo}{σ:S}{Q:V→S→Prop}
theorem OV.Ou {st:ba}{H:Hp}(h:aY σ st y H)(hx:At H a x)(hl:H.length≤100000)(q:Q (cV x) σ)
  (hs:my c6:=by intro _ _ _;rfl):OV c f E k (kj value c6) [.val (.ref st.hp),.int a] ρ σ Q:=
 OV.zK h.hp hx.1 (by have:=hx.lt;exact ux (by assumption) (by assumption)) (by refine ae (List.getElem?_map) (ae hx.2 ?_);rfl) q hs
theorem OV.tD (q:Q (.bool (decide (a=b))) σ):OV c f E k (bY .Eq) [cV a,cV b] ρ σ Q:=by
 refine OV.eq (tC a) (tC b) (by decide) (by decide) ?_
 rwa [show decide (cV a=cV b)=decide (a=b) from by simp only[BL]]
theorem OV.BM (q:Q (.bool (decide (a≠b))) σ):OV c f E k (bY .NotEq) [cV a,cV b] ρ σ Q:=by
 refine OV.ne (tC a) (tC b) (by decide) (by decide) ?_
 rwa [show decide (cV a≠cV b)=decide (a≠b) from by simp only[ne_eq,BL]]
theorem qT{n i:Nat}(hn:n≤100000)(h:(fG 0 (n:Int) 1)[i]? =some r):r= .int (i:Int)∧i<n:=by
 unfold fG at h
 rw[List.getElem?_map]at h
 refine eW h λj h1=>?_
 have h2:=be h1
 rw[(lw (n:=(n:Int)) (by exact Int.natCast_nonneg _) (by exact nX (by assumption))).2]at h1 h2
 rw[List.length_range]at h2
 rw[List.getElem?_range (by simpa using h2)]at h1
 (injection h1 with h1;subst h1)
 exact⟨by simp,by simpa using h2⟩
theorem lE{n:Nat}(h:n≤100000):(fG 0 (n:Int) 1).length=n:=by
 unfold fG
 refine ae ((lw (n:=(n:Int)) (by exact Int.natCast_nonneg _) (by exact nX (by assumption))).2) ?_;simp
noncomputable def dZ(p n:Nat):Hp:=(List.range n).map λi=>((0:Int),((p+i:Nat):Int))
theorem wK{p n}:dZ p (n+1)=dZ p n++ [(0,((p+n:Nat):Int))]:=by simp[dZ,List.range_succ]
theorem Ov{p n}:(dZ p n).length=n:=by simp[dZ]
noncomputable def ek(x:aE):Bool:=decide (x.1=2)||decide (x.1=3)
theorem lF{f:Nat}(h:f≠0):aN f=2∧bJ f=1:=by simp[aN,bJ,h]
noncomputable def gu(f h n:Nat):Hp:=(if f=0 then [] else [(6,(f:Int))])++dZ (h+if f=0 then 0 else 1) n
theorem Ow{p n}:dZ p (1+n)= (0,(p:Int))::dZ (p+1) n:=by
 induction n with
 |zero=>simp[dZ,List.range_succ]
 |succ n ih=>refine ae (show 1+ (n+1)= (1+n)+1 by rfl) (ae wK (ae ih (ae wK ?_)));simp;exact Int.le_antisymm (M0 [_,_] [] 0x1061110062210611120062114 rfl) (M0 [_,_] [] 0x1061112006210611100622114 rfl)
theorem OU.heap {k:Nat}{Q:S→Prop}{st:ba}{H:Hp}{a:Int}{d:aE}(v:aE)(h:aY σ st y H)(hx:At H a d)(hl:H.length≤100000)(q:∀af,aY af st y (H.set a.toNat v)→Keeps [13] σ af→Q af):
  OU c f E k (λvs=>setItem (vs.getD 0 .none) (vs.getD 1 .none) (vs.getD 2 .none)) [.val (.ref st.hp),.int a,cV v] ρ σ Q:=by
 have bq:=hx.lt
 refine OU.vl h.hp hx.1 (by exact ux (by assumption) (by assumption)) (by refine ae (List.length_map ..) ?_;have:=hx.1;exact tn (by assumption) (by assumption)) ?_
 refine aU List.map_set ?_
 exact q _ (h.upd _) (h.kp _)
end
noncomputable section
open Classical
noncomputable section
theorem qU{f h n}:(gu f h n).length= (if f=0 then 0 else 1)+n:=by unfold gu dZ;split<;>simp;exact Nat.le_antisymm (M0 [_] [] 0x1112111002110 rfl) (M0 [_] [] 0x111002001112110 rfl)
theorem BN{H:Hp}(hf:f≠0):At (H++gu f H.length n) (H.length:Int) (6,(f:Int)):=by
 refine At.mk' ?_
 refine ae (List.getElem?_append_right (Nat.le_refl _)) (ae (Nat.sub_self ..) ?_);simp[gu,hf]
theorem BO{H:Hp}(hi:i<n):At (H++gu f H.length n) ((H.length:Int)+bJ f+ (i:Int)) (0,(H.length:Int)+bJ f+ (i:Int)):=by
 have e:(H.length:Int)+bJ f+ (i:Int)= ((H.length+ (if f=0 then 0 else 1)+i:Nat):Int):=by unfold bJ;split<;>simp
 refine ae e ?_
 refine At.mk' ?_
 rw[List.getElem?_append_right (by exact M0 [_,_,_] [] 0x2010002200110 rfl),gu]
 by_cases h:f=0
 ·simp[h,dZ,List.getElem?_range hi]
 ·simp only[h,if_false]
  refine ae (show H.length+1+i- H.length=i+1 by exact Nat.le_antisymm (M1 [_,_,_] [] 0x1112020011020111102210002112 rfl (Nat.sub_add_cancel (M0 [_,_] [] 0x10111002200110 rfl))) (M1 [_,_,_] [] 0x2011110211000202101110022110 rfl s2)) ?_
  simp[dZ,List.getElem?_range hi]
structure PX(t₀:Tm)(r:aE)(bN:Hp)(Tb:ai)(B:Nat)(H:Hp)(P:kG)(L:VT):Prop where
 inv:ii t₀ r bN H P L
 c7:∀n,t₀.Vr n→(∃a,L.lookup n=some a)∨∃p∈P,∃t∈p.2,t.Vr n
 inj:∀n m a,L.lookup n=some a→L.lookup m=some a→n=m
 wf:∀p∈P,∀t∈p.2,t.Wf Tb
 bd:H.length+L.length+wt P≤B
variable {t₀:Tm}{r:aE}{bN H:Hp}{Tb:ai}{B:Nat}{P:kG}{L:VT}
theorem PX.pop {p}(x:PX t₀ r bN Tb B H ((p, [])::P) L):PX t₀ r bN Tb B H P L where
 inv:=x.inv.pop
 c7 n h:=by
  refine Or.elim (x.c7 n h) (λh=>?_) λOx=>?_
  rotate_left
  obtain ⟨p,hp,t,ht,h⟩:=Ox
  rotate_right
  ·exact .inl h
  ·rcases List.mem_cons.mp hp with rfl|hp
   ·exact dx ht
   ·exact .inr ⟨p,hp,t,ht,h⟩
 inj:=x.inj
 wf p hp:=x.wf p (.tail _ hp)
 bd:=by have:=x.bd;simp only[wt,List.map_cons,List.sum_cons]at this ⊢;exact M1 [_,_,_,_] [] 0x3020100022110302001111122100022110 rfl this
theorem oV{t:Tm}:wt ((p,t::l)::P)=t.sz+wt ((p+1,l)::P):=by
 simp only[wt,List.map_cons,List.sum_cons];exact Nat.le_antisymm (M0 [_,_,_] [] 0x201011122002201000211122110 rfl) (M0 [_,_,_] [] 0x201000211122201011122002110 rfl)
theorem PX.start {l:List Tm}(hw:(Tm.s f l).Wf Tb)(hv:∀n a,L.lookup n=some a→At H a (0,a))(hi:∀n m a,L.lookup n=some a→L.lookup m=some a→n=m)(hB:H.length+L.length+ (Tm.s f l).sz≤B):
  PX (.s f l) (aN f,(H.length:Int)) H Tb B (H++gu f H.length l.length) [((H.length:Int)+bJ f,l)] L where
 inv:=by
  have oW:0≤bJ f∧bJ f= ((if f=0 then 0 else 1:Nat):Int):=by unfold bJ;split<;>simp
  constructor
  ·intro H' L' h
   refine ae Tm.dE ?_
   refine Tm.dO.mpr (cA (H.length:Int) (.con (by unfold aN;split<;>decide) (by unfold aN;split<;>decide)) (λhf=>?_) (h.args _ (.head _)))
   refine h.agree _ _ (BN hf) λq hq=>?_
   simp at hq;subst hq
   simp only[bJ,hf,if_false];exact λh=>nf (M1 [_] [] 0x111111100061110062114 rfl h.1)
  ·simp
  ·intro p hp
   simp at hp;subst hp
   refine ae List.length_append (ae qU ?_)
   simp only;exact⟨M1 [_] [_] 0x6200611400011114 rfl oW.1,M1 [_,_,_] [_] 0x200021026206001062211400600116 rfl oW.2⟩
  ·intro p hp i hi
   simp at hp;subst hp
   exact BO hi
  ·intro n a h
   refine⟨(hv n a h).push,λq hq=>?_⟩
   simp at hq;subst hq
   have:=(hv n a h).lt
   simp only;exact λh=>nf (M3 [_] [_,_] 0x11111110100000621140061011500011114 rfl oW.1 this h.1)
  ·exact Le.push
 c7 n h:=by
  refine ak (Tm.ej.mp h) λt ht h=>?_
  exact .inr ⟨_,.head _,t,ht,h⟩
 inj:=hi
 wf p hp:=by
  simp at hp;subst hp
  exact(Tm.bB.mp hw).2.2.2.2
 bd:=by
  rw[Tm.dq]at hB
  have e:(l.map λt=>t.sz+1).sum= (l.map Tm.sz).sum+l.length:=by
   clear hB hw
   induction l with
   |nil=>rfl
   |cons t l ih=>simp only[List.map_cons,List.sum_cons,List.length_cons,ih];exact Nat.le_antisymm (M0 [_,_,_] [] 0x111202100022201021110022110 rfl) (M0 [_,_,_] [] 0x201021110022111202100022110 rfl)
  refine ae List.length_append (ae qU ?_)
  simp only[wt,List.map_cons,List.map_nil,List.sum_cons,List.sum_nil]
  split<;> (first|exact M2 [_,_,_,_,_,_] [] 0x3001140111221050011200222110205040211330202112100022110 rfl hB e|exact M2 [_,_,_,_,_,_] [] 0x3001140111221050111200222110205040211330202112100022110 rfl hB e)
theorem PX.lo {p}{l:List Tm}(x:PX t₀ r bN Tb B H ((p,l)::P) L)(h:0<l.length):0≤p∧p< (H.length:Int)∧At H p (0,p):=by
 have:=x.inv.self _ (.head _) 0 h
 simp only[Int.natCast_zero,Int.add_zero]at this
 exact⟨this.1,this.lt,this⟩
theorem Oy{a:Int}(h:At H a d):H.set a.toNat d=H:=by
 have:=be h.2
 have e:=h.2
 rw[List.getElem?_eq_getElem this]at e
 (injection e with e;subst e)
 exact List.set_getElem_self this
theorem PX.item {p t l}(x:PX t₀ r bN Tb B H ((p,t::l)::P) L)(fx:aE)(bc:VT)(hl:bc.length≤L.length+1)
  (hL:∀n a,L.lookup n=some a→bc.lookup n=some a) (hv:∀n a,bc.lookup n=some a→L.lookup n=some a∨(a=p∧fx= (0,p)∧t= .v n)) (Oz:∀n,t.Vr n→∃a,bc.lookup n=some a)
  (hc:∀H' L',wI (H.set p.toNat fx) ((p+1,l)::P) bc H' L'→At H' p fx→(t.aQ (nu L')).Rep H' fx):PX t₀ r bN Tb B (H.set p.toNat fx) ((p+1,l)::P) bc where
 inv:=x.inv.item fx bc hL (λn a h=>(hv n a h).imp id λh=>⟨h.1,h.2.1⟩) hc
 c7 n h:=by
  refine Or.elim (x.c7 n h) (λOA=>?_) λOC=>?_
  obtain ⟨a,h⟩:=OA
  rotate_left
  obtain ⟨q,hq,u,hu,h⟩:=OC
  rotate_right
  ·exact .inl ⟨a,hL n a h⟩
  ·rcases List.mem_cons.mp hq with rfl|hq
   ·rcases List.mem_cons.mp hu with rfl|hu
    ·exact .inl (Oz n h)
    ·exact .inr ⟨_,.head _,u,hu,h⟩
   ·exact .inr ⟨q,.tail _ hq,u,hu,h⟩
 inj n m a h1 h2:=by
  have off:∀n a,L.lookup n=some a→a≠p:=λn a h q=>by
   exact(x.inv.vars n a h).2 _ (.head _) ⟨Int.le_of_eq q.symm,BJ q⟩
  refine Or.elim (hv n a h1) (λh1=>?_) λOD=>?_
  rotate_left
  obtain ⟨h1,_,e1⟩:=OD
  rotate_right
  ·refine Or.elim (hv m a h2) (λh2=>?_) λOE=>?_
   rotate_left
   obtain ⟨h2,_,e2⟩:=OE
   rotate_right
   ·exact x.inj n m a h1 h2
   ·exact absurd h2 (off n a h1)
  ·refine Or.elim (hv m a h2) (λh2=>?_) λOF=>?_
   rotate_left
   obtain ⟨h2,_,e2⟩:=OF
   rotate_right
   ·exact absurd h1 (off m a h2)
   ·cases e1.symm.trans e2;rfl
 wf q hq u hu:=by
  rcases List.mem_cons.mp hq with rfl|hq
  ·exact x.wf _ (.head _) u (.tail _ hu)
  ·exact x.wf q (.tail _ hq) u hu
 bd:=by
  have:=x.bd
  rw[oV]at this
  have:=t.gq
  exact ae List.length_set (M3 [_,_,_,_,_,_] [] 0x504000202211030011111504030210202211011110200110 rfl hl (by assumption) this)
theorem PX.OG {p n a l}(x:PX t₀ r bN Tb B H ((p,.v n::l)::P) L)(h:L.lookup n=some a):PX t₀ r bN Tb B (H.set p.toNat (0,a)) ((p+1,l)::P) L:=
 x.item (0,a) L (by simp) (λq_ q_ h=>h) (λq_ q_ h=>.inl h) (λm hm=>⟨a,(show m=n from hm)▸h⟩) λH' L' fu q_=>by
  have e:=fu.ext n a h
  show aH H' (0,a) (0,nu L' n)
  refine ae (fQ e) ?_
  exact⟨0,.var (fu.vars n a e)⟩
theorem PX.OH {p n l}(x:PX t₀ r bN Tb B H ((p,.v n::l)::P) L)(h:L.lookup n=none):PX t₀ r bN Tb B H ((p+1,l)::P) (L++ [(n,p)]):=by
 have h0:=x.lo (by simp)
 have key:=x.item (0,p) (L++ [(n,p)]) (by simp) (λm a q=>jz.mpr (.inl q)) (λm a q=>?_) (λm hm=>?_) λH' L' fu q_=>?_
 ·rwa [Oy h0.2.2]at key
 ·refine Or.elim (jz.mp q) (λq=>?_) λOI=>?_
  rotate_left
  obtain ⟨_,rfl,rfl⟩:=OI
  rotate_right
  ·exact .inl q
  ·exact .inr ⟨rfl,rfl,rfl⟩
 ·cases (show m=n from hm)
  exact⟨p,jz.mpr (.inr ⟨h,rfl,rfl⟩)⟩
 ·have e:=fu.ext n p (jz.mpr (.inr ⟨h,rfl,rfl⟩))
  show aH H' (0,p) (0,nu L' n)
  refine ae (fQ e) ?_
  exact⟨0,.var (fu.vars n p e)⟩
theorem PX.aI {p n l}(x:PX t₀ r bN Tb B H ((p,.a n::l)::P) L):PX t₀ r bN Tb B (H.set p.toNat (4,(n:Int))) ((p+1,l)::P) L:=
 x.item _ L (by simp) (λq_ q_ h=>h) (λq_ q_ h=>.inl h) (λm hm=>by exact hm.elim) λH' L' fu q_=>aH.con (t:=4) (by decide) (by decide)
theorem PX.iI {p n l}(x:PX t₀ r bN Tb B H ((p,.i n::l)::P) L):PX t₀ r bN Tb B (H.set p.toNat (5,n)) ((p+1,l)::P) L:=
 x.item _ L (by simp) (λq_ q_ h=>h) (λq_ q_ h=>.inl h) (λm hm=>by exact hm.elim) λH' L' fu q_=>aH.con (t:=5) (by decide) (by decide)
theorem PX.sI {p f m l}(x:PX t₀ r bN Tb B H ((p,.s f m::l)::P) L):PX t₀ r bN Tb B ((H++gu f H.length m.length).set p.toNat (aN f,(H.length:Int))) ((p+1,l)::(P++ [((H.length:Int)+bJ f,m)])) L:=by
 have oW:0≤bJ f∧bJ f= ((if f=0 then 0 else 1:Nat):Int):=by unfold bJ;split<;>simp
 have h0:=x.lo (by simp)
 have hw:=x.wf _ (.head _) _ (.head _)
 have g:=x.inv.grow (gu f H.length m.length) (b:=(H.length:Int)+bJ f) (l:=m) (by exact M1 [_] [_] 0x6200611400011114 rfl oW.1) (by refine ae List.length_append (ae qU ?_);exact M1 [_,_,_] [_] 0x200021026206001062211400600116 rfl oW.2) (λi hi=>BO hi)
 have inv:=g.item (aN f,(H.length:Int)) L (λq_ q_ h=>h) (λq_ q_ h=>.inl h) λH' L' fu q_=>by
  refine ae Tm.dE ?_
  refine Tm.dO.mpr (cA (H.length:Int) (.con (by unfold aN;split<;>decide) (by unfold aN;split<;>decide)) (λhf=>?_) (fu.args _ (.tail _ (List.mem_append_right _ (.head _)))))
  refine fu.agree _ _ ((BN hf).gs h0.1 (by exact λh=>nf (M2 [_] [_] 0x111111100000611600600115 rfl h0.2.1 h))) λq hq=>?_
  refine bO hq ?_ λhq=>?_
  ·have:=(x.inv.low _ (.head _)).2
   simp only[List.length_cons]at this ⊢
   exact λh=>nf (M2 [_,_] [_] 0x1111111000611100221061151061110026002114 rfl this h.2)
  ·refine Or.elim (List.mem_append.mp hq) (λhq=>?_) λhq=>?_
   ·have:=(x.inv.low _ (.tail _ hq)).2
    exact λh=>nf (M2 [_,_] [_] 0x11111110006002106115106006002114 rfl this h.2)
   ·simp at hq;subst hq
    simp only[bJ,hf,if_false];exact λh=>nf (M1 [_] [] 0x111111100061110062114 rfl h.1)
 refine⟨inv,λn h=>?_,x.inj,λq hq u hu=>?_,?_⟩
 ·refine Or.elim (x.c7 n h) (λh=>?_) λOJ=>?_
  rotate_left
  obtain ⟨q,hq,u,hu,h⟩:=OJ
  rotate_right
  ·exact .inl h
  ·rcases List.mem_cons.mp hq with rfl|hq
   ·rcases List.mem_cons.mp hu with rfl|hu
    ·refine ak (Tm.ej.mp h) λw hw h=>?_
     exact .inr ⟨_,.tail _ (List.mem_append_right _ (.head _)),w,hw,h⟩
    ·exact .inr ⟨_,.head _,u,hu,h⟩
   ·exact .inr ⟨q,.tail _ (List.mem_append_left _ hq),u,hu,h⟩
 ·rcases List.mem_cons.mp hq with rfl|hq
  ·exact x.wf _ (.head _) u (.tail _ hu)
  ·refine Or.elim (List.mem_append.mp hq) (λhq=>?_) λhq=>?_
   ·exact x.wf q (.tail _ hq) u hu
   ·simp at hq;subst hq
    exact(Tm.bB.mp hw).2.2.2.2 u hu
 ·have:=x.bd
  have e:(m.map λt=>t.sz+1).sum= (m.map Tm.sz).sum+m.length:=by
   clear this g inv hw x
   induction m with
   |nil=>rfl
   |cons t l ih=>simp only[List.map_cons,List.sum_cons,List.length_cons,ih];exact Nat.le_antisymm (M0 [_,_,_] [] 0x111202100022201021110022110 rfl) (M0 [_,_,_] [] 0x201021110022111202100022110 rfl)
  rw[oV,Tm.dq,e]at this
  refine ae List.length_set (ae List.length_append (ae qU ?_))
  have e2:wt ((p+1,l)::(P++ [((H.length:Int)+bJ f,m)]))=wt ((p+1,l)::P)+ (1+ (m.map Tm.sz).sum):=by
   simp only[wt,List.map_cons,List.map_append,List.sum_cons,List.sum_append,List.map_nil,List.sum_nil];exact Nat.le_antisymm (M0 [_,_,_] [] 0x201112100011122201120111221020011122110 rfl) (M0 [_,_,_] [] 0x11201112210200111222011121000111222110 rfl)
  refine ae e2 ?_
  split<;> (first|exact M1 [_,_,_,_,_,_] [] 0x50201112402103001120022211050403020221122100022110 rfl this|exact M1 [_,_,_,_,_,_] [] 0x50201112402103011120022211050403020221122100022110 rfl this)
end
noncomputable section
noncomputable def tE:Tm→Int→Option V
 |.v n,j=>if j=0 then some (.str "v") else if j=1 then some (.int n) else none
 |.a n,j=>if j=0 then some (.str "a") else if j=1 then some (.int (n:Int)) else none
 |.i n,j=>if j=0 then some (.str "i") else if j=1 then some (.int n) else none
 |.s f l,j=>if j=0 then some (.str "s") else if j=1 then some (.int (f:Int)) else if j=2 then some (.tup (l.map Tm.V)) else none
theorem OK{t:Tm}{i:Int}(h:tE t i=some r):0≤i∧i<2 ^ 63∧∃l,t.V= .tup l∧l[i.toNat]? =some r:=by
 have k0:∀{j:Int}{x:V}{q:Option V}{P:Prop},(if i=j then some x else q)=some r→(i=j→some x=some r→P)→(q=some r→P)→P:=λ{j x q P} e p n=>by
  by_cases h:i=j
  ·exact p h ((if_pos h).symm.trans e)
  ·exact n ((if_neg h).symm.trans e)
 have k:∀{l:List V},t.V= .tup l→(∃n:Nat,i=n∧n<3∧l[n]? =some r)→0≤i∧i<2 ^ 63∧∃l,t.V= .tup l∧l[i.toNat]? =some r:=λe ⟨n,hi,hn,hx⟩=>hi▸⟨Int.natCast_nonneg n,Int.lt_trans (Int.ofNat_lt.mpr hn) (by decide),_,e,hx⟩
 have k2:∀{a b:V},t.V= .tup [a,b]→(if i=0 then some a else if i=1 then some b else none)=some r→0≤i∧i<2 ^ 63∧∃l,t.V= .tup l∧l[i.toNat]? =some r:=λe h=>k0 h (λh q=>k e ⟨0,h,by decide,q⟩) λh=>k0 h (λh q=>k e ⟨1,h,by decide,q⟩) λh=>aJ h
 cases t with
 |s f l=>exact k0 h (λh q=>k Tm.cH ⟨0,h,by decide,q⟩) λh=>k0 h (λh q=>k Tm.cH ⟨1,h,by decide,q⟩) λh=>k0 h (λh q=>k Tm.cH ⟨2,h,by decide,q⟩) λh=>aJ h
 |v=>exact k2 rfl h
 |a=>exact k2 rfl h
 |i=>exact k2 rfl h
end
end
noncomputable section
open Classical
noncomputable section
noncomputable def idx(L:List Int)(a:Int):Int:=(L.idxOf a:Int)
noncomputable def gv(L:List Int):List (Int×V):=L.zipIdx.map λp=>(p.1,.int (p.2:Int))
theorem wL{L}:(gv L).length=L.length:=by simp[gv]
theorem OL{L a}:gv (L++ [a])=gv L++ [(a,.int (L.length:Int))]:=by simp[gv,List.zipIdx_append]
theorem qW:look (gv L) a=if a∈L then some (.int (idx L a)) else none:=by
 have key:∀(L:List Int) (m:Nat),look ((L.zipIdx m).map λp=>(p.1,V.int (p.2:Int))) a=if a∈L then some (.int ((m:Int)+idx L a)) else none:=by
  intro L
  induction L with
  |nil=>intro m;rfl
  |cons x L ih=>
   intro m
   refine ae List.zipIdx_cons (ae List.map_cons ?_)
   have ih:=ih (m+1)
   unfold look at ih ⊢
   refine ae (List.find?_cons) ?_
   by_cases h:x=a
   ·subst h;simp[idx]
   ·simp only[decide_eq_false h]
    refine ae ih ?_
    have h2:¬a=x:=λq=>h q.symm
    simp only[List.mem_cons,h2,false_or]
    by_cases h3:a∈L
    ·simp only[h3,if_true,idx]
     refine ae List.idxOf_cons (ae (show (x==a)=false from beq_eq_false_iff_ne.mpr h) ?_)
     simp only[Option.some.injEq,V.int.injEq,cond_false]
     exact Int.le_antisymm (M0 [_,_] [] 0x1111026006210611100262114 rfl) (M0 [_,_] [] 0x1061110026211110260062114 rfl)
    ·simp only[h3,if_false]
 have:=key L 0
 simpa[gv] using this
theorem BP(h:a∈L):idx (L++M) a=idx L a:=by
 unfold idx;exact ae List.idxOf_append (ae (if_pos h) rfl)
theorem BQ(h:a∈L)(e:idx L a=idx L b):a=b:=by
 unfold idx at e
 have e':L.idxOf a=L.idxOf b:=by exact Int.ofNat.inj (by assumption)
 have h1:=List.idxOf_lt_length_of_mem h
 have h2:L[L.idxOf a]'h1=a:=List.getElem_idxOf h1
 have h3:L.idxOf b<L.length:=e'▸h1
 have h4:L[L.idxOf b]'h3=b:=List.getElem_idxOf h3
 refine aU h2 (aU h4 ?_);congr 1
theorem Tm.BR (t:Tm):(∀x,t.Vr x→ρ x=τ x)→t.aQ ρ=t.aQ τ:=by
 induction t using Tm.ind with
 |hv n=>intro h;exact congrArg Tm.v (h n rfl)
 |ha n=>intro _;rfl
 |hi n=>intro _;rfl
 |hs f l ih=>
  intro h
  refine ae Tm.dE (ae Tm.dE ?_)
  exact congrArg _ (List.map_congr_left λt ht=>ih t ht λx hx=>h x (Tm.ej.mpr ⟨t,ht,hx⟩))
theorem BS{t:Tm}(h:t.bp (· ∈L)):t.aQ (idx (L++M))=t.aQ (idx L):=t.BR λx hx=>BP (h x hx)
theorem oX{K:Type}[DecidableEq K]{ps:List (K×V)}{p:K×V}{y:K}:look (p::ps) y=if p.1=y then some p.2 else look ps y:=by
 unfold look
 refine ae (List.find?_cons) ?_
 by_cases h:p.1=y
 ·simp only[h,decide_true,if_true];rfl
 ·simp only[decide_eq_false h,if_neg h]
theorem tF{K:Type}[DecidableEq K]{ps:List (K×V)}{x y:K}:look (put ps x r) y=if y=x then some r else look ps y:=by
 by_cases hy:y=x
 ·refine Eq.trans ?_ (if_pos hy).symm
  have key:∀qs:List (K×V),(¬qs.any (λkv=>decide (kv.1=x))=true→look (qs++ [(x,r)]) y=some r)∧(qs.any (λkv=>decide (kv.1=x))=true→look (qs.map λkv=>if kv.1=x then (kv.1,r) else kv) y=some r):=by
   intro qs
   induction qs with
   |nil=>exact⟨λq_=>lr (decide_eq_true hy.symm),λh=>cj h⟩
   |cons q qs ih=>
    refine⟨λh=>?_,λh=>?_⟩
    ·have h:=Bool.or_eq_false_iff.mp (Bool.eq_false_iff.mpr h)
     exact Eq.trans (b:=look (qs++ [(x,r)]) y) (gT λz=>(of_decide_eq_false h.1) ((of_decide_eq_true z).trans hy)) (ih.1 (Bool.eq_false_iff.mp h.2))
    ·show look ((if q.1=x then (q.1,r) else q)::qs.map _) y=_
     by_cases e:q.1=x
     ·exact ae (if_pos e) (lr (decide_eq_true (e.trans hy.symm)))
     ·refine ae (if_neg e) (oX.trans ((if_neg λz=>e (z.trans hy)).trans (ih.2 ?_)))
      exact Or.elim (Bool.or_eq_true_iff.mp h) (λh=>absurd (of_decide_eq_true h) e) id
  unfold put
  by_cases h:ps.any (λkv=>decide (kv.1=x))=true
  ·exact ae (if_pos h) ((key ps).2 h)
  ·exact ae (if_neg h) ((key ps).1 h)
 ·refine Eq.trans ?_ (if_neg hy).symm
  have key:∀qs:List (K×V),look (qs++ [(x,r)]) y=look qs y∧look (qs.map λkv=>if kv.1=x then (kv.1,r) else kv) y=look qs y:=by
   intro qs
   induction qs with
   |nil=>exact⟨gT λz=>hy (of_decide_eq_true z).symm,rfl⟩
   |cons q qs ih=>
    show look (q::(qs++ [(x,r)])) y=_∧look ((if q.1=x then (q.1,r) else q)::qs.map _) y=_
    refine ae oX (ae oX (ae oX (ae ih.1 (ae ih.2 ⟨rfl,?_⟩))))
    by_cases e:q.1=x
    ·have n:¬q.1=y:=λz=>hy (z.symm.trans e)
     exact ae (if_pos e) ((if_neg n).trans (if_neg n).symm)
    ·exact ae (if_neg e) rfl
  unfold put
  by_cases h:ps.any (λkv=>decide (kv.1=x))=true
  ·exact ae (if_pos h) (key ps).2
  ·exact ae (if_neg h) (key ps).1
theorem wM{K:Type}[DecidableEq K]{ps:List (K×V)}{x:K}:(put ps x r).length≤ps.length+1:=by
 unfold put;split<;>simp
structure bP where
 (b:Bool) (u:Tm) (c:aE)
noncomputable def bP.enc (e:bP):V:=.tup [.int (if e.b then 1 else 0),cV e.c]
noncomputable def wN(Tb:ai)(H:Hp)(e:bP):Prop:=e.u.Wf Tb∧(if e.b then∃f l a,e.u= .s f l∧e.c= (aN f,a)∧b7 H a f l else e.u.Rep H e.c)
noncomputable def jA(cI:Tm):List bP→List Tm→Prop
 | [],R=>R= [cI]
 |e::W,R=>if e.b then∃R' f l,e.u= .s f l∧R=R'++l∧jA cI W (R'++ [e.u]) else jA cI W (R++ [e.u])
noncomputable def bP.m (e:bP):Nat:=if e.b then 1 else 2*e.u.sz
noncomputable def mW(W:List bP):Nat:=(W.map bP.m).sum
theorem fR{e W}:mW (e::W)=e.m+mW W:=by simp[mW]
theorem jA.push {X:List bP}:∀{R:List Tm},(∀e∈X,e.b=false)→jA cI W (R++X.map (·.u))→jA cI (X++W) R:=by
 induction X with
 |nil=>exact λq_ h=>(List.append_nil _).subst (motive:=jA cI W) h
 |cons e X ih=>
  intro R hb h
  show if e.b=true then _ else jA cI (X++W) (R++ [e.u])
  refine ae (if_neg (Bool.eq_false_iff.mp (hb e (.head _)))) (ih (λx hx=>hb x (.tail _ hx)) ?_)
  exact ae (List.append_assoc ..) h
structure cU(Tb:ai)(H:Hp)(cI:Tm)(N:Nat)(dk:List Int)(W:List bP)(R:List Tm)(kn:List (Int×V))(L:List Int):Prop where
 ok:∀e∈W,wN Tb H e
 res:jA cI W R
 rv:∀u∈R,u.bp (· ∈L)
 jC:W.Pairwise λe e'=>e'.b=true→e.u.sz<e'.u.sz
 kk:∀a r,look kn a=some r→(r= .none∧∃e∈W,e.b=true∧e.c.2=a)∨∃f l,r= ((Tm.s f l).aQ (idx L)).V∧b7 H a f l∧(Tm.s f l).Wf Tb∧(Tm.s f l).bp (· ∈L)
 nd:L.Nodup
 pre:dk <+:L
 bR:R.length+mW W≤N
 bK:kn.length+mW W≤N
 bL:L.length+mW W≤N
section
variable {Tb:ai}{H:Hp}{cI u:Tm}{N:Nat}{dk L:List Int}{W:List bP}{R:List Tm}{kn:List (Int×V)}{c:aE}
theorem cU.leaf (x:cU Tb H cI N dk (⟨false,u,c⟩::W) R kn L)(hu:u.bp (· ∈L)):cU Tb H cI N dk W (R++ [u]) kn L where
 ok e he:=x.ok e (.tail _ he)
 res:=x.res
 rv t ht:=by
  refine Or.elim (List.mem_append.mp ht) (λht=>?_) λht=>?_
  ·exact x.rv t ht
  ·simp at ht;subst ht;exact hu
 jC:=(List.pairwise_cons.mp x.jC).2
 kk a r h:=by
  refine Or.elim (x.kk a r h) (λOM=>?_) λh=>?_
  obtain ⟨h1,e,he,h2,h3⟩:=OM
  ·rcases List.mem_cons.mp he with rfl|he
   ·exact cj h2
   ·exact .inl ⟨h1,e,he,h2,h3⟩
  ·exact .inr h
 nd:=x.nd
 pre:=x.pre
 bR:=by have:=x.bR;have:=u.gq;rw[fR]at *;simp only[bP.m,List.length_append,List.length_singleton]at *;simp at *;exact M2 [_,_,_,_] [] 0x30201111022110302000215210211000011111 rfl (by assumption) this
 bK:=by have:=x.bK;rw[fR]at this;exact M1 [_,_,_,_] [] 0x30200021103020102002110 rfl this
 bL:=by have:=x.bL;rw[fR]at this;exact M1 [_,_,_,_] [] 0x30200021103020102002110 rfl this
theorem cU.ON (x:cU Tb H cI N dk (⟨false,u,c⟩::W) R kn L)(hz:z∉L):cU Tb H cI (N+1) dk (⟨false,u,c⟩::W) R kn (L++ [z]) where
 ok:=x.ok
 res:=x.res
 rv t ht y hy:=List.mem_append_left _ (x.rv t ht y hy)
 jC:=x.jC
 kk a r h:=by
  refine Or.elim (x.kk a r h) (λh=>?_) λOO=>?_
  rotate_left
  obtain ⟨f,l,h1,h2,h3,h4⟩:=OO
  rotate_right
  ·exact .inl h
  ·exact .inr ⟨f,l,by refine ae (BS h4) ?_;exact h1,h2,h3,λy hy=>List.mem_append_left _ (h4 y hy)⟩
 nd:=by rw[List.nodup_append];exact⟨x.nd,by simp,λa ha b hb=>by simp at hb;subst hb;exact λq=>hz (q▸ha)⟩
 pre:=x.pre.trans (List.prefix_append _ _)
 bR:=by have:=x.bR;exact M1 [_,_,_] [] 0x111202100021102010002110 rfl this
 bK:=by have:=x.bK;exact M1 [_,_,_] [] 0x111202100021102010002110 rfl this
 bL:=by have:=x.bL;refine ae List.length_append (ae List.length_singleton ?_);exact M1 [_,_,_] [] 0x1112021011100221102010002110 rfl this
theorem cU.shrink (x:cU Tb H cI (N+1) dk W R kn L)(h1:R.length+mW W≤N)(h2:kn.length+mW W≤N)(h3:L.length+mW W≤N):cU Tb H cI N dk W R kn L:=⟨x.ok,x.res,x.rv,x.jC,x.kk,x.nd,x.pre,h1,h2,h3⟩
theorem cU.var (x:cU Tb H cI N dk (⟨false,.v z,c⟩::W) R kn L)(hz:z∉L):cU Tb H cI N dk W (R++ [.v z]) kn (L++ [z]):=by
 have h:=(x.ON hz).leaf (λy hy=>by refine ae (show y=z from hy) ?_;simp)
 have e:bP.m ⟨false,.v z,c⟩=2:=rfl
 have h1:=x.bR
 have h2:=x.bK
 have h3:=x.bL
 rw[fR,e]at h1 h2 h3
 exact h.shrink (by simp only[List.length_append,List.length_singleton];exact M1 [_,_,_] [] 0x2010111002211020102112002110 rfl h1) (by exact M1 [_,_,_] [] 0x201000211020102112002110 rfl h2) (by simp only[List.length_append,List.length_singleton];exact M1 [_,_,_] [] 0x2010111002211020102112002110 rfl h3)
theorem cU.known {f l a r}(x:cU Tb H cI N dk (⟨false,.s f l,c⟩::W) R kn L)(hd:aH H c (aN f,a))(hk:look kn a=some r):r= ((Tm.s f l).aQ (idx L)).V∧cU Tb H cI N dk W (R++ [.s f l]) kn L:=by
 obtain ⟨wf,rep⟩:=x.ok _ (.head _)
 refine ak (Tm.dO.mp (show (Tm.s f l).Rep H c from rep)) λa' h1 h2=>?_
 have e:=aH.inj hd h1
 cases e
 refine Or.elim (x.kk a r hk) (λOP=>?_) λOQ=>?_
 obtain ⟨_,e,he,hb,hc⟩:=OP
 rotate_left
 obtain ⟨g,m,h3,h4,h5,h6⟩:=OQ
 rotate_right
 ·rcases List.mem_cons.mp he with rfl|he
  ·exact cj hb
  ·have hs:=(List.pairwise_cons.mp x.jC).1 e he hb
   obtain ⟨d7,h⟩:=x.ok e (.tail _ he)
   rw[hb,if_pos rfl]at h
   refine f7 h λg m a' e1 e2 e3=>?_
   rw[e2]at hc
   subst hc
   rw[e1]at d7 hs
   obtain ⟨rfl,rfl⟩:=h2.oR e3 wf d7
   exact absurd hs (Nat.lt_irrefl _)
 ·obtain ⟨rfl,rfl⟩:=h2.oR h4 wf h5
  exact⟨h3,x.leaf h6⟩
theorem cU.new {f l a X}(x:cU Tb H cI N dk (⟨false,.s f l,c⟩::W) R kn L)(hd:aH H c (aN f,a))(hk:look kn a=none)(hX:∀e∈X,e.b=false∧wN Tb H e)(hl:X.map (·.u)=l):
  cU Tb H cI N dk (X++⟨true,.s f l,(aN f,a)⟩::W) R (put kn a .none) L∧mW (X++⟨true,.s f l,(aN f,a)⟩::W)<mW (⟨false,.s f l,c⟩::W):=by
 refine XA (x.ok _ (.head _)) λwf rep=>?_
 refine ak (Tm.dO.mp (show (Tm.s f l).Rep H c from rep)) λa' h1 h2=>?_
 cases aH.inj hd h1
 have hp:=List.pairwise_cons.mp x.jC
 have hm:mW (X++⟨true,.s f l,(aN f,a)⟩::W)+3≤mW (⟨false,.s f l,c⟩::W):=by
  have e:mW X≤2* (l.map λt=>t.sz+1).sum:=by
   refine aU hl ?_
   clear hl
   induction X with
   |nil=>exact Nat.zero_le _
   |cons e X ih=>
    rw[fR,List.map_cons,List.map_cons,List.sum_cons]
    have:=ih λy hy=>hX y (.tail _ hy)
    have h2:e.m=2*e.u.sz:=by unfold bP.m;exact ae ((hX e (.head _)).1) rfl
    exact M2 [_,_,_,_] [] 0x1011130222150020211030215201121021500110 rfl this h2
  have e2:mW (X++⟨true,.s f l,(aN f,a)⟩::W)=mW X+ (1+mW W):=by simp[mW,bP.m]
  refine ae e2 (ae fR (ae (show bP.m ⟨false,.s f l,c⟩=2* (Tm.s f l).sz from rfl) (ae Tm.dq ?_)))
  exact M1 [_,_,_] [] 0x20102112215231120111200221101021500110 rfl e
 have BU:∀e∈X,e.u.sz< (Tm.s f l).sz:=λe he=>Tm.qM (hl▸List.mem_map.mpr ⟨e,he,rfl⟩)
 refine⟨⟨λe he=>?_,?_,x.rv,?_,λb r hb=>?_,x.nd,x.pre,?_,?_,?_⟩,by exact M1 [_,_] [] 0x100011110311002110 rfl hm⟩
 ·refine Or.elim (List.mem_append.mp he) (λhe=>?_) λhe=>?_
  ·exact(hX e he).2
  ·refine bO he ?_ λhe=>?_
   ·exact⟨wf,by exact ae (if_pos rfl) (mj f l a rfl rfl h2)⟩
   ·exact x.ok e (.tail _ he)
 ·refine jA.push (λe he=>(hX e he).1) ?_
  have:=x.res
  show if true=true then _ else _
  refine ae (if_pos rfl) ?_
  exact mj R f l rfl (by exact ae hl rfl) this
 ·rw[List.pairwise_append]
  refine⟨List.Pairwise.imp_of_mem (λq_ hb q_ q=>by rw[(hX _ hb).1]at q;exact cj q) (List.pairwise_of_forall (R:=λq_ q_=>True) λq_ q_=>True.intro),List.pairwise_cons.mpr ⟨λe he hb=>hp.1 e he hb,hp.2⟩,λe he e' ni hb=>?_⟩
  refine bO ni ?_ λni=>?_
  ·exact BU e he
  ·exact Nat.lt_trans (BU e he) (hp.1 e' ni hb)
 ·rw[tF]at hb
  by_cases lG:b=a
  ·rw[if_pos lG]at hb
   (injection hb with hb;subst hb)
   exact .inl ⟨rfl,_,List.mem_append_right _ (.head _),rfl,lG.symm⟩
  ·rw[if_neg lG]at hb
   refine Or.elim (x.kk b r hb) (λOS=>?_) λh=>?_
   obtain ⟨h3,e,he,h4,h5⟩:=OS
   ·rcases List.mem_cons.mp he with rfl|he
    ·exact cj h4
    ·exact .inl ⟨h3,e,List.mem_append_right _ (.tail _ he),h4,h5⟩
   ·exact .inr h
 ·have:=x.bR;exact M2 [_,_,_,_] [] 0x3000202110301020211010311002110 rfl hm this
 ·have:=x.bK;have:=wM (ps:=kn) (x:=a) (r:=V.none);exact M3 [_,_,_,_,_] [] 0x300040211011120240110301020211010311002110 rfl hm (by assumption) this
 ·have:=x.bL;exact M2 [_,_,_,_] [] 0x3000202110301020211010311002110 rfl hm this
theorem cU.build {a f l}(x:cU Tb H cI N dk (⟨true,.s f l,(aN f,a)⟩::W) R kn L):∃R',R=R'++l∧cU Tb H cI N dk W (R'++ [.s f l]) (put kn a ((Tm.s f l).aQ (idx L)).V) L:=by
 refine XA (x.ok _ (.head _)) λwf h=>?_
 rw[if_pos rfl]at h
 refine f7 h λf' l' a' e1 e2 dP=>?_
 (injection e1 with e1 zq;subst e1;subst zq)
 simp only[Prod.mk.injEq,true_and]at e2
 subst e2
 have hr:∃R' f' l',Tm.s f l= .s f' l'∧R=R'++l'∧jA cI W (R'++ [.s f l]):=x.res
 refine f7 hr λR' f' l' e1 hR hr=>?_
 (injection e1 with e1 zq;subst e1;subst zq)
 have hv:(Tm.s f l).bp (· ∈L):=λy hy=>by
  refine ak (Tm.ej.mp hy) λt ht hy=>?_
  exact x.rv t (hR▸List.mem_append_right _ ht) y hy
 have hp:=List.pairwise_cons.mp x.jC
 have h1:=x.bR
 have h2:=x.bK
 have h3:=x.bL
 rw[fR,show bP.m ⟨true,.s f l,(aN f,a)⟩=1 from rfl]at h1 h2 h3
 refine⟨R',hR,λe he=>x.ok e (.tail _ he),hr,λu hu=>?_,hp.2,λb r hb=>?_,x.nd,x.pre,?_,?_,by exact M1 [_,_,_] [] 0x201000211020101112002110 rfl h3⟩
 ·refine Or.elim (List.mem_append.mp hu) (λhu=>?_) λhu=>?_
  ·exact x.rv u (hR▸List.mem_append_left _ hu)
  ·simp at hu;subst hu;exact hv
 ·rw[tF]at hb
  by_cases lG:b=a
  ·rw[if_pos lG]at hb
   (injection hb with hb;subst hb)
   exact .inr ⟨f,l,rfl,lG▸dP,wf,hv⟩
  ·rw[if_neg lG]at hb
   refine Or.elim (x.kk b r hb) (λOT=>?_) λh=>?_
   obtain ⟨h3,e,he,h4,h5⟩:=OT
   ·rcases List.mem_cons.mp he with rfl|he
    ·exact absurd h5.symm lG
    ·exact .inl ⟨h3,e,he,h4,h5⟩
   ·exact .inr h
 ·rw[hR]at h1
  simp only[List.length_append,List.length_singleton]at *
  exact M1 [_,_,_,_] [] 0x3020111002211030201112100022110 rfl h1
 ·have:=wM (ps:=kn) (x:=a) (r:=((Tm.s f l).aQ (idx L)).V);exact M2 [_,_,_,_] [] 0x20103021101110023011020101112002110 rfl h2 this
theorem cU.start (wf:u.Wf Tb)(rep:u.Rep H c)(nd:L.Nodup)(hN:L.length+2*u.sz≤N):cU Tb H u N L [⟨false,u,c⟩] [] [] L:=
 ⟨λe he=>by simp at he;subst he;exact⟨wf,rep⟩,rfl,λq_ h=>absurd h List.not_mem_nil,by simp,λq_ q_ h=>(by exact aJ h),nd,List.prefix_refl _,
  (by simp[fR,mW,bP.m];exact Nat.le_trans (Nat.le_add_left _ _) (by assumption)),(by simp[fR,mW,bP.m];exact Nat.le_trans (Nat.le_add_left _ _) (by assumption)),(by simp[fR,mW,bP.m];assumption)⟩
end
end
end
noncomputable section
open Classical
end
noncomputable section
open Classical
noncomputable section
structure PE where
 (t u:Tm) (c d:aE)
noncomputable def PE.enc (e:PE):V:=.tup [cV e.c,cV e.d]
noncomputable def PE.ne (e:PE):Bool:=decide (e.t≠e.u)
noncomputable def fu(W:List PE):Option PE:=W.find? PE.ne
noncomputable def mP(W:List PE):Nat:=(W.map λe=>e.t.sz).sum
theorem lH{e W}:mP (e::W)=e.t.sz+mP W:=by simp[mP]
theorem oY(W:List PE):W.length≤mP W:=by
 induction W with
 |nil=>exact Nat.zero_le _
 |cons e W ih=>exact ae lH (ae (Nat.add_comm ..) (Nat.add_le_add ih e.t.gq))
structure jD(Tb:ai)(H:Hp)(e:PE):Prop where
 w1:e.t.Wf Tb
 w2:e.u.Wf Tb
 r1:e.t.Rep H e.c
 r2:e.u.Rep H e.d
theorem tG{e:PE}{W}(h:e.t=e.u):fu (e::W)=fu W:=by unfold fu;refine ae (List.find?_cons) ?_;simp[PE.ne,h]
theorem tH{e:PE}{W}(h:e.t≠e.u):fu (e::W)=some e:=by unfold fu;refine ae (List.find?_cons) ?_;simp[PE.ne,h]
theorem wO:fu (X++W)= (fu X).or (fu W):=List.find?_append
structure nj(Tb:ai)(H:Hp)(l m:List Tm)(X:List PE):Prop where
 ts:X.map (·.t)=l
 us:X.map (·.u)=m
 ok:∀e∈X,jD Tb H e
theorem nj.eq {Tb H l m X}(x:nj Tb H l m X):l=m↔fu X=none:=by
 refine aU x.ts (aU x.us ?_)
 unfold fu
 rw[List.find?_eq_none]
 constructor
 ·intro h e he
  have:=List.map_inj_left.mp h e he
  simp[PE.ne,this]
 ·intro h
  exact List.map_congr_left λe he=>by have:=h e he;simpa[PE.ne] using this
noncomputable def de(H:Hp):Int:=(H.length:Int)+1
noncomputable def iU(Tb:ai)(H:Hp)(W:List PE)(P:Int→Bool):Prop:=∀n,P n=true→∃a b f g l m,n=a*de H+b∧b7 H a f l∧b7 H b g m∧(Tm.s f l).Wf Tb∧(Tm.s g m).Wf Tb∧
 (Tm.s f l=Tm.s g m∨∃q,fu W=some q∧q.t.sz< (Tm.s f l).sz)
variable {Tb:ai}{H:Hp}{W X:List PE}{P:Int→Bool}{e:PE}
theorem iU.pop (h:iU Tb H (e::W) P)(q:e.t=e.u):iU Tb H W P:=by intro n hn;have:=h n hn;rwa [tG q]at this
theorem OW(h1:0≤b)(h2:b<de H)(h3:0≤b')(h4:b'<de H)(h:a*de H+b=a'*de H+b'):a=a'∧b=b':=by
 have e1:(a*de H+b) % de H=b:=by refine ae (Int.add_comm ..) (ae (Int.mul_comm ..) (ae (Int.add_mul_emod_self_left ..) ?_));exact Int.emod_eq_of_lt h1 h2
 have e2:(a'*de H+b') % de H=b':=by refine ae (Int.add_comm ..) (ae (Int.mul_comm ..) (ae (Int.add_mul_emod_self_left ..) ?_));exact Int.emod_eq_of_lt h3 h4
 have e3:b=b':=by exact aU e1 (aU e2 (ae h rfl))
 subst e3
 have e4:a*de H=a'*de H:=by exact Int.le_antisymm (M1 [] [_,_,_] 0x20001141020210002116 rfl h) (M1 [] [_,_,_] 0x20001141020210002117 rfl h)
 exact⟨Int.eq_of_mul_eq_mul_right (by unfold de;exact λh=>nf (M1 [_] [] 0x111111100111110062116 rfl h)) e4,rfl⟩
theorem iU.seen (h:iU Tb H (e::W) P)(e1:e.t= .s f l)(e2:e.u= .s g m)(w1:(Tm.s f l).Wf Tb)(w2:(Tm.s g m).Wf Tb)(b1:b7 H a f l)(b2:b7 H b g m)(hp:P (a*de H+b)=true):e.t=e.u:=by
 refine yL (h _ hp) λa' b' f' g' l' m' hn c1 c2 x1 x2 hh=>?_
 have p1:=b1.pos (Tm.bB.mp w1).2.2.1
 have p2:=b2.pos (Tm.bB.mp w2).2.2.1
 have p3:=c1.pos (Tm.bB.mp x1).2.2.1
 have p4:=c2.pos (Tm.bB.mp x2).2.2.1
 obtain ⟨rfl,rfl⟩:=OW p2.1 (by unfold de;exact M1 [_] [_] 0x11100620011500600115 rfl p2.2) p4.1 (by unfold de;exact M1 [_] [_] 0x11100620011500600115 rfl p4.2) hn
 obtain ⟨rfl,rfl⟩:=b1.oR c1 w1 x1
 obtain ⟨rfl,rfl⟩:=b2.oR c2 w2 x2
 refine Or.elim hh (λhh=>?_) λOX=>?_
 rotate_left
 obtain ⟨q,hq,hs⟩:=OX
 rotate_right
 ·exact ae e1 (ae e2 (ae hh rfl))
 ·refine Classical.byContradiction λbS=>?_
  rw[tH bS]at hq
  (injection hq with hq;subst hq)
  rw[e1]at hs
  exact Nat.lt_irrefl _ hs
theorem iU.add (h:iU Tb H (e::W) P)(e1:e.t= .s f l)(e2:e.u= .s f m)(w1:(Tm.s f l).Wf Tb)(w2:(Tm.s f m).Wf Tb)(b1:b7 H a f l)(b2:b7 H b f m)(x:nj Tb H l m X):iU Tb H (X++W) (λy=>P y||decide (y=a*de H+b)):=by
 have key:(e.t=e.u∧fu (X++W)=fu W)∨(e.t≠e.u∧∃q,fu (X++W)=some q∧q.t.sz<e.t.sz):=by
  by_cases bU:l=m
  ·refine .inl ⟨by exact ae e1 (ae e2 (ae bU rfl)),?_⟩
   refine ae wO (ae (x.eq.mp bU) ?_);rfl
  ·refine .inr ⟨λq=>bU ?_,?_⟩
   ·rw[e1,e2]at q;exact(Tm.s.inj q).2
   ·cases hq:fu X with
    |none=>exact absurd (x.eq.mpr hq) bU
    |some q=>
     refine⟨q,by refine ae wO (ae hq ?_);rfl,?_⟩
     refine ae e1 ?_
     refine Tm.qM ?_
     refine aU x.ts ?_
     exact List.mem_map.mpr ⟨q,List.mem_of_find?_eq_some hq,rfl⟩
 intro n hn
 refine Or.elim (Bool.or_eq_true _ _▸hn) (λhn=>?_) λhn=>?_
 ·refine yL (h n hn) λa' b' f' g' l' m' h1 h2 h3 h4 h5 h6=>?_
  refine⟨a',b',f',g',l',m',h1,h2,h3,h4,h5,?_⟩
  refine Or.elim h6 (λh6=>?_) λOY=>?_
  rotate_left
  obtain ⟨q,h7,h8⟩:=OY
  rotate_right
  ·exact .inl h6
  ·refine Or.elim key (λOZ=>?_) λO0=>?_
   obtain ⟨k1,k2⟩:=OZ
   rotate_left
   obtain ⟨k1,q',k2,k3⟩:=O0
   rotate_right
   ·rw[tG k1]at h7
    exact .inr ⟨q,k2.trans h7,h8⟩
   ·rw[tH k1]at h7
    (injection h7 with h7;subst h7)
    exact .inr ⟨q',k2,Nat.lt_trans k3 h8⟩
 ·refine⟨a,b,f,f,l,m,of_decide_eq_true hn,b1,b2,w1,w2,?_⟩
  refine Or.elim key (λO1=>?_) λO2=>?_
  obtain ⟨k1,k2⟩:=O1
  rotate_left
  obtain ⟨k1,q',k2,k3⟩:=O2
  rotate_right
  ·exact .inl (by refine aU e1 (aU e2 ?_);exact k1)
  ·exact .inr ⟨q',k2,by exact aU e1 k3⟩
theorem BV{f l m}(x:nj Tb H l m X)(e1:e.t= .s f l):mP (X++W)<mP (e::W):=by
 have h:mP X≤(l.map λt=>t.sz+1).sum:=by
  refine aU x.ts ?_
  clear x e1
  induction X with
  |nil=>exact Nat.zero_le _
  |cons e X ih=>rw[lH,List.map_cons,List.map_cons,List.sum_cons];exact M1 [_,_,_] [] 0x101112022002021101000110 rfl ih
 refine ae lH (ae e1 (ae Tm.dq (ae (show mP (X++W)=mP X+mP W by simp[mP]) ?_)))
 exact M1 [_,_,_] [] 0x201021122200021111000110 rfl h
noncomputable def iV(Tb:ai)(W:List PE):Int:=match fu W with|none=>0|some q=>q.t.cmp Tb q.u
theorem tI{e W}(h:e.t=e.u):iV Tb (e::W)=iV Tb W:=by unfold iV;exact ae (tG h) rfl
theorem O3{e W}(h:e.t≠e.u):iV Tb (e::W)=e.t.cmp Tb e.u:=by unfold iV;exact ae (tH h) rfl
theorem tJ(ok:Tb.Ok){e W}(h:jD Tb H e):iV Tb (e::W)=if e.t.cmp Tb e.u=0 then iV Tb W else e.t.cmp Tb e.u:=by
 by_cases q:e.t=e.u
 ·exact ae (tI q) (ae (if_pos ((Tm.tB ok _ h.w1 h.w2).mpr q)) rfl)
 ·exact ae (O3 q) (ae (if_neg λz=>q ((Tm.tB ok _ h.w1 h.w2).mp z)) rfl)
theorem O4(ok:Tb.Ok)(x:nj Tb H l m X):iV Tb (X++W)=if first (List.zipWith (Tm.cmp Tb) l m)=0 then iV Tb W else first (List.zipWith (Tm.cmp Tb) l m):=by
 obtain ⟨rfl,rfl,hx⟩:=x
 induction X with
 |nil=>exact(if_pos rfl).symm
 |cons e X ih=>
  refine(tJ (W:=X++W) ok (hx e (.head _))).trans ?_
  rw[ih λe he=>hx e (.tail _ he)]
  show _=if (if e.t.cmp Tb e.u=0 then first _ else _)=0 then _ else (if e.t.cmp Tb e.u=0 then first _ else _)
  by_cases h:e.t.cmp Tb e.u=0
  ·exact ae (if_pos h) (ae (if_pos h) rfl)
  ·exact ae (if_neg h) (ae (if_neg h) (ae (if_neg h) rfl))
end
end
end Mine
section
open Classical
namespace Mine
noncomputable section
section
variable {c:Cx}{σ:S}
noncomputable def iW(x:Str):List V:=x.cps.toList.map λn=>V.str ⟨#[n]⟩
theorem bI.str {x:Str}(calm:c.calm=true)(ha:x.cps.all (· <128)=true):bI c σ (.str x) (iW x) λq_=>True:=λ{A E s vv Q} st hv q=>by
 cases hv with
 |str _ t=>
  refine wpAny_pyIter_ascii ha (q s.heap.objs.size (λi h=>h.IsStrIter s.heap.objs.size "str_ascii_iterator" x t i) _ ?_ ?_ (none_at_size _) (λb o e=>Heap.get?_push_of_some _ e))
  ·constructor
   ·intro A E s' af i r Q iH _ p1 hr hq
    unfold iW at hr
    rw[List.getElem?_map]at hr
    refine ak (Option.map_eq_some_iff.mp hr) λn hn m7=>?_
    subst m7
    refine wpAny_pyNext_ascii_item p1 (by simpa using hn) λh' pZ hs=>?_
    exact hq _ h' _ (.str _ _) pZ hs
   ·intro A E s' af Q iH hd _ p1 hq
    refine wpAny_pyNext_ascii_end (hd.1 calm) p1 ?_ hq
    unfold iW
    refine ae (List.length_map ..) ?_
    simp
   ·intro i h h' p tk e
    refine ak p λo p0 p1=>?_
    exact bx o (e o p0) p1
   ·intro A E s' i Q p1 hq
    exact wpAny_pyIter_striter_ascii p1 hq
   ·intro i h p
    refine bG p λo p0 p1 p2=>?_
    exact cA o p0 (oj p2 (by exact ae p1 (gS (by decide)))) (λes n q=>by rw[p2]at q;contradiction)
  ·exact cA _ (Heap.get?_push_size _ rfl) rfl rfl
end
end
end Mine
end
namespace Mine
noncomputable section
open Classical
noncomputable section
variable {c:Cx}{f:Fm}{k:Nat}{E:Value→Shared→Prop}{σ:S}{ρ:Lo}
theorem aY.inst {st:ba}{y:aT}(h:aY σ st y H):hY σ st.o 450 ["symbols","max_heap","heap","stack","trail","hb","bb"] [.val (.ref y.o),.int 100000,.val (.ref st.hp),.val (.ref st.sk),.val (.ref st.tr),.int 0,.int 0]:=gb _ _ _ h.o h.d
theorem OV.O5 {a b:Str}(q:Q (.bool (decide (b.cps.toList<a.cps.toList))) σ):OV c f E k (bY .Gt) [.str a,.str b] ρ σ Q:=λs vs I h=>by
 refine aA.e2 h λq_ q_ h1 h2=>?_
 refine h1.eS λq_=>?_
 refine h2.eS λq_=>?_
 refine P.gt_str ?_
 have e:∀(p:Decidable (b.cps.toList<a.cps.toList)),@decide _ p=decide (b.cps.toList<a.cps.toList):=λp=>by congr
 refine ae (e ..) ?_
 exact bh.now I (.bool _) q
theorem aY.kb {af:S}{st:ba}{y:aT}{H:Hp}{X:List Nat}(h:aY σ st y H)(q:Keeps X σ af)(e:X.all (λt=>Nat.blt t 11||Nat.blt 13 t)=true:=by rfl):aY af st y H:=h.keep q λt ht=>by
 have:=List.all_eq_true.mp e t ht
 rw[Bool.or_eq_true]at this
 exact this.imp (λz=>aD z) (λz=>aD z)
theorem ai.aX.kb {X:List Nat}(h:ai.aX σ y Tb)(q:Keeps X σ af)(e:X.all (λt=>Nat.blt 6 t)=true:=by rfl):ai.aX af y Tb:=h.keep q λt ht=>aD (List.all_eq_true.mp e t ht)
theorem It.c0 {x:aE}(q:Q (.int x.1) σ):lB c f k E ρ Q 0 (cV x) σ:=q
theorem It.c1 {x:aE}(q:Q (.int x.2) σ):lB c f k E ρ Q 1 (cV x) σ:=q
theorem It.tD (q:Q (.bool (decide (a=b))) σ):dC c f k E .Eq ρ Q (cV a) (cV b) σ:=OV.tD q
theorem It.BM (q:Q (.bool (decide (a≠b))) σ):dC c f k E .NotEq ρ Q (cV a) (cV b) σ:=OV.BM q
theorem It.t (h:hJ l n=some r)(hs:small 100 l=true)(q:Q r σ):lB c f k E ρ Q n (.tup l) σ:=by
 refine(?_:oH (small 100 l) (sZ (λr=>Q r σ) (hJ l n)))
 refine ae hs (ae h ?_);exact q
theorem Bi.add (q:Q (.int (x+y)) σ):m4 c f k E .Add ρ Q (.int x) (.int y) σ:=q
theorem Bi.sub (q:Q (.int (x- y)) σ):m4 c f k E .Sub ρ Q (.int x) (.int y) σ:=q
theorem Bi.mul (h:IntMulOk x y)(q:Q (.int (x*y)) σ):m4 c f k E .Mult ρ Q (.int x) (.int y) σ:=OV.mul h q
theorem Cm.lt (q:Q (.bool (decide (x<y))) σ):dC c f k E .Lt ρ Q (.int x) (.int y) σ:=q
theorem Cm.gt (q:Q (.bool (decide (y<x))) σ):dC c f k E .Gt ρ Q (.int x) (.int y) σ:=q
theorem Cm.le (q:Q (.bool (decide (x≤y))) σ):dC c f k E .LtE ρ Q (.int x) (.int y) σ:=q
theorem Cm.ge (q:Q (.bool (decide (y≤x))) σ):dC c f k E .GtE ρ Q (.int x) (.int y) σ:=q
theorem Cm.eq (q:Q (.bool (decide (x=y))) σ):dC c f k E .Eq ρ Q (.int x) (.int y) σ:=q
theorem Cm.ne (q:Q (.bool (decide (x≠y))) σ):dC c f k E .NotEq ρ Q (.int x) (.int y) σ:=q
theorem Cm.VV {x y:Str}(q:Q (.bool (decide (x.cps.toList<y.cps.toList))) σ):dC c f k E .Lt ρ Q (.str x) (.str y) σ:=q
theorem Cm.VW {x y:Str}(q:Q (.bool (decide (y.cps.toList<x.cps.toList))) σ):dC c f k E .Gt ρ Q (.str x) (.str y) σ:=OV.O5 q
theorem Cm.eqs (q:Q (.bool (decide (x=y))) σ):dC c f k E .Eq ρ Q (.str x) (.str y) σ:=q
theorem Cm.VX (q:Q (.bool (decide (x≠y))) σ):dC c f k E .NotEq ρ Q (.str x) (.str y) σ:=q
theorem Cm.VY (q:OV c f E k (bY .Is) [a,b] ρ σ Q):dC c f k E .Is ρ Q a b σ:=by
 cases a<;>first|exact q|(cases b<;>exact q)
theorem Cm.nk (q:OV c f E k (bY .In) [a,b] ρ σ Q):dC c f k E .In ρ Q a b σ:=by
 cases a<;>first|exact q|(cases b<;>exact q)
theorem Cm.BW (q:OV c f E k (bY .NotIn) [a,b] ρ σ Q):dC c f k E .NotIn ρ Q a b σ:=by
 cases a<;>first|exact q|(cases b<;>exact q)
theorem Tr.b {b:Bool}(q:Q b σ):sY c f k E ρ Q (.bool b) σ:=q
theorem It.tm {t:Tm}(h:tE t (Int.ofNat n)=some r)(q:Q r σ):lB c f k E ρ Q n t.V σ:=by
 refine kZ (OK h) λh1 h2 l e h3=>?_
 refine ae e ?_
 refine(?_:oH (small 100 l) (sZ (λr=>Q r σ) (hJ l n)))
 have hl:small 100 l=true:=by
  cases t with
  |s g m=>rw[Tm.cH]at e;(injection e with e;subst e);rfl
  |_=>(injection e with e;subst e);rfl
 refine ae hl (ae (qz ..) ?_)
 have h4:l[n]? =some r:=h3
 exact ae h4 q
theorem IX.hp {st:ba}{H:Hp}(h:aY σ st y H)(hx:At H a x)(hl:H.length≤100000)(q:Q (cV x) σ):IX c f k E ρ Q (.val (.ref st.hp)) (.int a) σ:=λq_ q_ so=>OV.Ou h hx hl q so
theorem IX.L {l:List V}{i:Int}(ha:σ a=some (.list t l))(h0:0≤i)(hf:i<2 ^ 63)(hx:l[i.toNat]? =some r)(q:Q r σ):IX c f k E ρ Q (.val (.ref a)) (.int i) σ:=λq_ q_ so=>OV.zK ha h0 hf hx q so
theorem IX.I (ha:σ a=some (.dI t l))(hx:look l x=some r)(q:Q r σ):IX c f k E ρ Q (.val (.ref a)) (.int x) σ:=λq_ q_ so=>OV.JR ha hx q λv hv=>by
 cases v with
 |int i u=>exact so a i u
 |_=>exact cj hv
theorem SA.go {ks:List Str}(T:au c)(hx:σ x=some (.inst t C d))(hd:σ d=some (.bb t2 ks vs))(hc:(jt.contains C&&mU.contains (C,n)&& !ks.contains n&&Nat.ble ks.length 900)=true)
  (q:iP d (.bb t2 ks vs) (.bb t2 (ks++ [n]) (vs++ [r])) σ Q):SA c n Q (.val (.ref x)) r σ:=by
 rw[Bool.and_eq_true,Bool.and_eq_true,Bool.and_eq_true,Bool.not_eq_true']at hc
 exact⟨x,C,d,t,t2,ks,vs,rfl,hx,hd,Jy T (List.contains_iff_mem.mp hc.1.1.1) (List.contains_iff_mem.mp hc.1.1.2),λm=>by rw[List.contains_iff_mem.mpr m]at hc;exact absurd hc.1.2 (by decide),aD hc.2,q.go hd⟩
theorem V.loop {α:Type}(l:α→Lo)(m:α→Nat)(I:α→S→Prop)(eL:α)(nq:l eL=ρ)(h0:I eL σ)
  (step:∀E a σ,I a σ→vT c f k E t (l a) σ λx ah=>Br x (vX c f k b E (l a) ah (js (sW l m I (m a)) Q)) (Q .next (l a) ah)):LP (λE=>vT c f k E t) (λE=>vX c f k b E) ρ σ Q:=by
 subst nq
 refine⟨λn ρ' af=>∃a,m a=n∧l a=ρ'∧I a af,m eL,⟨eL,rfl,rfl,h0⟩,λE n ρ' af j=>?_⟩
 refine bG j λa ky nr h=>?_
 subst ky
 subst nr
 have e:js (λρ' af=>∃m',m'<m a∧∃a,m a=m'∧l a=ρ'∧I a af) Q=js (sW l m I (m a)) Q:=by
  funext fl gi av
  have go:(∃m',m'<m a∧∃a,m a=m'∧l a=gi∧I a av)=sW l m I (m a) gi av:=propext ⟨λz=>by ((refine ak z λq_ h1 O6=>?_;refine bG O6 λa' O7 h2 h3=>?_);subst O7);exact⟨a',h1,h2,h3⟩,λz=>by cases z with|mk a' h1 h2 h3=>exact⟨_,h1,a',rfl,h2,h3⟩⟩
  cases fl with
  |next=>exact go
  |cont=>exact go
  |_=>rfl
 refine ae e ?_
 exact step E a af h
theorem V.for {α:Type}(l:α→Lo)(kH:List V)(I:Nat→α→S→Prop)(ok:S→Prop)(w:bI c σ r kH ok)(eL:α)(nq:l eL=ρ)(h0:I 0 eL σ)(cG:∀i a σ,I i a σ→ok σ)
  (step:∀E i r a σ,kH[i]? =some r→I i a σ→vX c f k b E (gk (l a) ix (some r)) σ (js (wk l (I (i+1))) Q)) (fin:∀a σ,I kH.length a σ→Q .next (l a) σ):
  FP c (λE=>vX c f k b E) ix ρ Q r σ:=by
 subst nq
 refine jR kH ok (λi=>wk l (I i)) w ⟨eL,rfl,h0⟩ (λi ρ σ j=>?_) (λE i r ρ σ hr j=>?_) (λρ σ j=>?_)
 ·cases j with|mk a h1 h2=>exact cG i a σ h2
 ·cases j with|mk a h1 h2=>subst h1;exact step E i r a σ hr h2
 ·cases j with|mk a h1 h2=>subst h1;exact fin a σ h2
noncomputable abbrev O8 (B:Lo→S→(Fl→Lo→S→Prop)→Prop)(ρ:Lo)(K Q:Fl→Lo→S→Prop):Bool→S→Prop:=λx σ=>Br x (B ρ σ K) (Q .next ρ σ)
theorem V.oZ {α:Type}(l:α→Lo)(m:α→Nat)(I:α→S→Prop)(eL:α)(nq:l eL=ρ)(h0:I eL σ)
  (step:∀E a σ K,I a σ→(∀a' af,m a'<m a→I a' af→K .next (l a') af∧K .cont (l a') af)→(∀r ρ σ,Q (.ret r) ρ σ→K (.ret r) ρ σ)→vT c f k E t (l a) σ (O8 (vX c f k b E) (l a) K Q)):LP (λE=>vT c f k E t) (vX c f k b) ρ σ Q:=
 V.loop l m I eL nq h0 λE a σ j=>step E a σ _ j (λa' q_ hm hi=>⟨.mk a' hm rfl hi,.mk a' hm rfl hi⟩) λq_ q_ q_ z=>z
theorem V.fS {α:Type}(l:α→Lo)(kH:List V)(I:Nat→α→S→Prop)(ok:S→Prop)(w:bI c σ r kH ok)(eL:α)(nq:l eL=ρ)(h0:I 0 eL σ)(cG:∀i a σ,I i a σ→ok σ)
  (step:∀E i r a σ K,kH[i]? =some r→I i a σ→(∀a' af,I (i+1) a' af→K .next (l a') af)→vX c f k b E (gk (l a) ix (some r)) σ K) (fin:∀a σ,I kH.length a σ→Q .next (l a) σ):
  FP c (vX c f k b) ix ρ Q r σ:=V.for l kH I ok w eL nq h0 cG (λE i r a σ hr j=>step E i r a σ _ hr j λa' q_ hi=>.mk a' rfl hi) fin
theorem aq.go {Q:V→S→Prop}{r:V}(q:Q r σ):∃af,Sub af σ∧Q r af:=⟨σ,.refl _,q⟩
theorem aq.nx {Q:V→S→Prop}(q:Q .none σ):∃af,Sub af σ∧Q .none af:=⟨σ,.refl _,q⟩
end
end
noncomputable section
open Classical
noncomputable section
variable {c:Cx}{f:Fm}{k:Nat}{E:Value→Shared→Prop}{σ:S}{ρ:Lo}
theorem V.comp (t:Nat)(T:au c)(l:List V)(ok:S→Prop)(J:Nat→List V→S→Prop)
  (hi:cE f.N f.G 20 iter=some ri) (he:cE (x::ys) G' 20 fj=some re) (wP:qB iter=false)
  (co:fh c f scope cl x ys G') (ko:jq f ρ cl ys rs)
  (h0:vE c f k E ri ρ σ λr ah=>bI c ah r l ok∧J 0 [] ah) (cG:∀i aG σ,J i aG σ→ok σ) (ch:l.length≤100000)
  (step:∀f' E i r aG σ,l[i]? =some r→J i aG σ→aG.length=i→vE c f' k E re (some r::rs) σ λy af=>J (i+1) (aG++ [y]) af)
  (gj:∀aG σ af a,J l.length aG σ→aG.length=l.length→af a=some (.list t aG)→Keeps [] σ af→Q (.val (.ref a)) af):EV c f E k (.ListComp fj [⟨.Name x p,iter, [],0⟩] scope pos) ρ σ Q:=
 EV.comp t l ok J co ko ((sE T 20).1 _ _ hi _ _ _ h0) cG (sl ch) (λE C i r aG σ h1 h2 h3=>(sE T 20).1 fj re he _ _ _ (step (f.comp scope cl (x::ys) G' C) E i r aG σ h1 h2 h3)) (λaG σ a h1 h2 h3=>gj aG σ _ a h1 h2 c5 (.new h3)) (λv=>wA wP v)
noncomputable def BX(scope:Scope)(env:Env)(cl:List (Str×Addr))(x:Str)(ys:List Str)(G:List (Str×V)):Bool:=
 decide (scope.kind= .function)&&(scope.names.all λz=> !decide (z.2= .local)||decide (scope.names.lookup z.1=some .local))&&(scope.names.all λz=> !decide (z.2= .cell))&&decide (x::ys).Nodup&&decide (cl.map (·.1)).Nodup&&
 decide (scope.names.lookup x=some .local)&& !(x==("__debug__":Str))&&(ys.all λy=>decide ((relabel scope env).names.lookup y=some .cell)&&(cl.lookup y).isSome&& !(y==("__debug__":Str)))&&
 (G.all λp=>decide ((relabel scope env).names.lookup p.1=some .globalImplicit)&& !(p.1==("__debug__":Str)))
theorem fh.of (T:au c)(hb:BX scope f.env cl x ys G=true)(hc:closureFor scope f.env=pure cl)(hi:∀p∈cl,f.env.cells.lookup p.1=some p.2)(hg:∀p∈G,p∈lq):fh c f scope cl x ys G:=by
 unfold BX at hb
 simp only[Bool.and_eq_true,decide_eq_true_eq,List.all_eq_true,Bool.or_eq_true,Bool.not_eq_true',decide_eq_false_iff_not]at hb
 refine XA hb λO9 h9=>?_
 obtain ⟨⟨⟨⟨⟨⟨⟨h1,h2⟩,h3⟩,h4⟩,h5⟩,h6⟩,h7⟩,h8⟩:=O9
 exact⟨h1,hc,λz hz hk=>(h2 z hz).resolve_left λn=>n hk,h3,h4,h5,hi,⟨h6,h7⟩,λy hy=>⟨(h8 y hy).1.1,(h8 y hy).1.2,(h8 y hy).2⟩,λp hp=>⟨h9 p hp,T.aF p (hg p hp)⟩⟩
end
end
local macro_rules | `(tactic|walk_at $s)=>do
 let go (t:String):=do
  let a←((t.splitOn "|").toArray.mapM λa=>do
   let b←((a.splitOn " ").toArray.mapM λx=>if x.length<3 then `(tactic|walk_at $(Lean.Syntax.mkStrLit x)) else `(tactic|apply $(Lean.mkIdent x.toName)))
   `(tactic|($b;*)))
  `(tactic|with_reducible first $[| $a:tactic]*)
 match s.getString with
 | "rr"=>`(tactic|with_unfolding_all exact rfl)
 | "as"=>`(tactic|assumption)
 | "vv"=>`(tactic|((repeat walk_at "v");try walk_at "s"))
 | "in"=>go "Wd.iM as|Wd.iS as|Wd.iY as|ai.aX.inst as|aY.inst as|ez.inst as|Pt.inst as|Gn.iY as|hY.mk as as"
 | "lk"=>go "as|ai.aX.tx as|aY.hp as"
 | "v"=>go "AT.go as in rr rr|ME.go as in rr|ME.bl lk rr|Tr.b|It.c0|It.c1|Cm.eq|Cm.ne|Cm.eqs|Cm.VX|It.tD|It.BM|Bi.add|Bi.sub|Cm.lt|Cm.gt|Cm.le|Cm.ge|Cm.VV|Cm.VW|Cm.nk|Cm.BW|Cm.VY|It.tm rr|It.t rr rr"
 | "s"=>go "I.cv|I.br|I.ov|I.ix|I.ou|I.nl|I.nd|I.ob|I.sa|I.re|I.tu|I.ev|I.ex|I.lp|I.fp"
 |_=>Lean.Macro.throwUnsupported
local macro_rules | `(tactic|kd_p)=>`(tactic|walk_at "vv")
local macro_rules | `(tactic|kd_in)=>`(tactic|walk_at "s")
noncomputable section
open Classical
noncomputable section
variable {c:Cx}
noncomputable def O'(y:aT)(Tb:ai)(x:Str)(σ:S)(r:V)(af:S):Prop:=
 ∃n:Nat,r= .int (n:Int)∧((Tb.tx[n]? =some x∧af=σ)∨(x∉Tb.tx∧n=Tb.tx.length∧ai.aX af y ⟨Tb.tx++ [x],Tb.fs⟩∧Keeps [3,4] σ af))
theorem Pa{Tb:ai}:(∃i:Nat,Tb.tx[i]? =some x∧look Tb.an x=some (.int (i:Int)))∨(x∉Tb.tx∧look Tb.an x=none):=
 (By (λs:Str=>s) (λq_ q_ q=>q) x Tb.tx 0).imp (λz=>bG z λi h1 q_ h3=>⟨i,h1,(Nat.zero_add i)▸h3⟩) id
theorem Pb{Tb:ai}:(∃i:Nat,Tb.fs[i]? =some (a,n)∧look Tb.fn [a,n]=some (.int (i:Int)))∨((a,n)∉Tb.fs∧look Tb.fn [a,n]=none):=
 (By (λp:Int×Int=> [p.1,p.2]) (λp q e=>Prod.ext (List.cons.inj e).1 (List.cons.inj (List.cons.inj e).2).1) (a,n) Tb.fs 0).imp (λz=>bG z λi h1 q_ h3=>⟨i,h1,(Nat.zero_add i)▸h3⟩) id
theorem Pc{Tb:ai}:Tb.an.length=Tb.tx.length:=by rw[ai.an,List.length_map,List.length_zipIdx]
theorem Pd{Tb:ai}:Tb.fn.length=Tb.fs.length:=by rw[ai.fn,List.length_map,List.length_zipIdx]
theorem wQ(T:au c){k σ y Tb x}(h:ai.aX σ y Tb)(hs:Tb.tx.length≤5000):CV c (k+1) (.ref 108) [.val (.ref y.o),.str x] σ (O' y Tb x σ):=by
 refine gV Lq T rfl λf E=>?_
 have bu:Tb.tx.length≤100000:=Nat.le_trans hs (aD rfl)
 have h1:=h.an
 kd_p
 refine Or.elim (Pa (Tb:=Tb) (x:=x)) (λz=>?_) λz=>?_
 ·refine ak z λi l1 l3=>?_
  refine CV.tq (vh c) h.an rfl l3 ?_
  kd_p
  refine Br.yes (Int.natCast_nonneg i) (aq.go (bx i rfl (.inl ⟨l1,rfl⟩)))
 ·refine CV.BB (vh c) h.an rfl z.2 ?_
  kd_p
  refine Br.no (by decide) ?_
  kd_p
  refine CV.iR h.tx bu ?_
  kd_p
  refine CV.append' h.tx (dN bu) λah e1 k1=>?_
  have e2:=k1.at h.o
  have e3:=k1.at h.d
  have h4:=k1.at h1
  kd_p
  refine OU.JS (l':=ai.an ⟨Tb.tx++ [x],Tb.fs⟩) h4 (sl (by exact ae Pc bu)) ((oL z.2).trans (N2 ..).symm) λav e5 k2=>?_
  have k3:Keeps [3,4] σ av:=(k1.am rfl).trans (k2.am rfl)
  exact aq.go (bx Tb.tx.length rfl (.inr ⟨z.1,rfl,⟨k3.at h.o,k3.at h.d,(k2.at e1).trans (by exact ae List.map_append rfl),e5,k3.at h.fs,k3.at h.fn⟩,k3⟩))
theorem Pe(T:au c){k σ y Tb x}(h:ai.aX σ y Tb)(ok:Tb.Ok)(hx:x∈bZ):CV c (k+1) (.ref 108) [.val (.ref y.o),.str x] σ
  (λr af=>∃(n:Nat) (T':ai),r= .int (n:Int)∧ai.aX af y T'∧T'.Ok∧Tb.Ext T'∧T'.fs=Tb.fs∧T'.tx[n]? =some x∧Keeps [3,4] σ af):=by
 refine(wQ T h (by have:=ok.jy;exact Nat.le_trans (by assumption) (aD rfl))).mono λr af z=>ak z λn hr hh=>?_
 refine Or.elim hh (λPf=>?_) λPg=>?_
 obtain ⟨h1,rfl⟩:=Pf
 rotate_left
 obtain ⟨h1,h2,h3,h4⟩:=Pg
 rotate_right
 ·exact lb n Tb hr h ok (.refl _) rfl h1 .refl
 ·refine lb n _ hr h3 ⟨?_,ok.qL,λz hz=>?_,λp hp=>?_⟩ ⟨List.prefix_append _ _,List.prefix_refl _⟩ rfl ?_ h4
  ·rw[List.nodup_append]
   exact⟨ok.m6,by simp,λa ha b hb=>by simp at hb;subst hb;exact λq=>h1 (q▸ha)⟩
  ·refine Or.elim (List.mem_append.mp hz) (λhz=>?_) λhz=>?_
   ·exact ok.tx z hz
   ·simp at hz;subst hz;exact hx
  ·refine fZ (ok.fs p hp) λa1 a2 a3 a4=>?_
   exact⟨a1,by simp;exact M1 [_] [_] 0x11100620011500600115 rfl a2,a3,a4⟩
  ·subst h2;simp
theorem ij(T:au c){k σ y Tb}{n:Nat}{x:Str}(h:ai.aX σ y Tb)(hn:Tb.tx[n]? =some x)(hs:Tb.tx.length≤5000)(q:Q (.str x) σ):CV c (k+1) (.ref 115) [.val (.ref y.o),.int (n:Int)] σ Q:=by
 refine gV Ls T rfl λf E=>?_
 kd_p
 exact IX.L h.tx (Int.natCast_nonneg n) (Int.lt_of_lt_of_le (Int.ofNat_lt.mpr (Nat.lt_of_lt_of_le (be hn) hs)) (by decide)) (by refine ae (Int.toNat_natCast ..) (ae (List.getElem?_map) (ae hn ?_));rfl) (aq.go q)
noncomputable def Ph(y:aT)(Tb:ai)(a n:Int)(σ:S)(r:V)(af:S):Prop:=
 ∃m:Nat,r= .int (m:Int)∧((Tb.fs[m]? =some (a,n)∧af=σ)∨((a,n)∉Tb.fs∧m=Tb.fs.length∧ai.aX af y ⟨Tb.tx,Tb.fs++ [(a,n)]⟩∧Keeps [5,6] σ af))
theorem BY(T:au c){k σ y Tb}(h:ai.aX σ y Tb)(hs:Tb.fs.length≤5000):CV c (k+1) (.ref 122) [.val (.ref y.o),.int a,.int n] σ (Ph y Tb a n σ):=by
 refine gV Lv T rfl λf E=>?_
 have bu:Tb.fs.length≤100000:=Nat.le_trans hs (aD rfl)
 have h1:=h.fn
 have h2:=h.fs
 kd_p
 refine Or.elim (Pb (Tb:=Tb) (a:=a) (n:=n)) (λz=>?_) λz=>?_
 ·refine ak z λi l1 l3=>?_
  refine CV.AJ (ks:= [a,n]) (r:=.int (i:Int)) h.fn (by exact ae l3 rfl) ?_
  kd_p
  refine Br.yes (Int.natCast_nonneg i) (aq.go (bx i rfl (.inl ⟨l1,rfl⟩)))
 ·refine CV.AJ (ks:= [a,n]) (r:=.int (-1)) h.fn (by exact ae z.2 rfl) ?_
  kd_p
  refine Br.no (by decide) ?_
  kd_p
  refine CV.iR h.fs bu ?_
  kd_p
  refine CV.append' h.fs (dN bu) λah e1 k1=>?_
  have e2:=k1.at h.o
  have e3:=k1.at h.d
  have h4:=k1.at h1
  kd_p
  refine OU.JT (ks:= [a,n]) h4 z.2 (sl (by exact ae Pd bu)) λav e5 k2=>?_
  have k3:Keeps [5,6] σ av:=(k1.am rfl).trans (k2.am rfl)
  exact aq.go (bx Tb.fs.length rfl (.inr ⟨z.1,rfl,⟨k3.at h.o,k3.at h.d,k3.at h.tx,k3.at h.an,(k2.at e1).trans (by exact ae List.map_append rfl),e5.trans (by exact ae (N3 ..) rfl)⟩,k3⟩))
theorem Pj(T:au c){k σ y Tb}(h:ai.aX σ y Tb)(ok:Tb.Ok)(ha:0≤a∧a< (Tb.tx.length:Int))(hn:0≤n∧n≤8):CV c (k+1) (.ref 122) [.val (.ref y.o),.int a,.int n] σ
  (λr af=>∃(m:Nat) (T':ai),r= .int (m:Int)∧ai.aX af y T'∧T'.Ok∧Tb.Ext T'∧T'.tx=Tb.tx∧T'.fs[m]? =some (a,n)∧Keeps [5,6] σ af):=by
 refine(BY T h (by have:=ok.oM;exact Nat.le_trans (by assumption) (aD rfl))).mono λr af z=>ak z λm hr hh=>?_
 refine Or.elim hh (λPk=>?_) λPl=>?_
 obtain ⟨h1,rfl⟩:=Pk
 rotate_left
 obtain ⟨h1,h2,h3,h4⟩:=Pl
 rotate_right
 ·exact lb m Tb hr h ok (.refl _) rfl h1 .refl
 ·refine lb m _ hr h3 ⟨ok.m6,?_,ok.tx,λp hp=>?_⟩ ⟨List.prefix_refl _,List.prefix_append _ _⟩ rfl ?_ h4
  ·rw[List.nodup_append]
   exact⟨ok.qL,by simp,λa ha b hb=>by simp at hb;subst hb;exact λq=>h1 (q▸ha)⟩
  ·refine Or.elim (List.mem_append.mp hp) (λhp=>?_) λhp=>?_
   ·exact ok.fs p hp
   ·simp at hp;subst hp;exact⟨ha.1,ha.2,hn.1,hn.2⟩
  ·subst h2;simp
theorem gw(T:au c){k σ y Tb x}(h:ai.aX σ y Tb)(ok:Tb.Ok)(hx:x∈bZ)(q:∀(af:S) (n:Nat) (T':ai),ai.aX af y T'→T'.Ok→Tb.Ext T'→T'.fs=Tb.fs→T'.tx[n]? =some x→Keeps [3,4] σ af→Q (.int (n:Int)) af):CV c (k+1) (.ref 108) [.val (.ref y.o),.str x] σ Q:=
 (Pe T h ok hx).mono λr af z=>k8 z λn T' er a b d e g i=>er▸q af n T' a b d e g i
theorem Pm(T:au c){k σ y Tb}(h:ai.aX σ y Tb)(ok:Tb.Ok)(hx:x∈bZ)(hn:0≤n∧n≤8):CV c (k+2) (.ref 129) [.val (.ref y.o),.str x,.int n] σ
  (λr af=>∃(m i:Nat) (T':ai),r= .int (m:Int)∧ai.aX af y T'∧T'.Ok∧Tb.Ext T'∧T'.tx[i]? =some x∧T'.fs[m]? =some ((i:Int),n)∧Keeps [3,4,5,6] σ af):=by
 refine gV Bh T rfl λf E=>?_
 kd_p
 refine gw T h ok hx λah i T' ht iX ext e1 e2 kp=>?_
 have aB:=ht.inst
 kd_p
 refine(Pj T ht iX ⟨Int.natCast_nonneg i,Int.ofNat_lt.mpr (be e2)⟩ hn).mono λr av z=>?_
 refine k8 z λm tl er kF Pn Po e3 e4 Pp=>?_
 exact⟨_,.refl _,m,i,tl,er,kF,Pn,ext.trans Po,e3▸e2,e4,(kp.am rfl).trans (Pp.am rfl)⟩
theorem o0(T:au c){k σ y Tb}{f:Nat}{a n:Int}(h:ai.aX σ y Tb)(hf:Tb.fs[f]? =some (a,n))(hs:Tb.fs.length≤5000)(q:Q (.int a) σ):CV c (k+1) (.ref 136) [.val (.ref y.o),.int (f:Int)] σ Q:=by
 refine gV Ly T rfl λq_ E=>?_
 kd_p
 refine IX.L h.fs (Int.natCast_nonneg f) (Int.lt_of_lt_of_le (Int.ofNat_lt.mpr (Nat.lt_of_lt_of_le (be hf) hs)) (by decide)) (by refine ae (Int.toNat_natCast ..) (ae (List.getElem?_map) (ae hf ?_));rfl) ?_
 kd_p
 exact aq.go q
theorem o4(T:au c){k σ y Tb}{f:Nat}{a n:Int}(h:ai.aX σ y Tb)(hf:Tb.fs[f]? =some (a,n))(hs:Tb.fs.length≤5000)(q:Q (.int n) σ):CV c (k+1) (.ref 143) [.val (.ref y.o),.int (f:Int)] σ Q:=by
 refine gV LA T rfl λq_ E=>?_
 kd_p
 refine IX.L h.fs (Int.natCast_nonneg f) (Int.lt_of_lt_of_le (Int.ofNat_lt.mpr (Nat.lt_of_lt_of_le (be hf) hs)) (by decide)) (by refine ae (Int.toNat_natCast ..) (ae (List.getElem?_map) (ae hf ?_));rfl) ?_
 kd_p
 exact aq.go q
theorem qX(T:au c){k σ y Tb}(h:ai.aX σ y Tb)(ok:Tb.Ok)(hx:x∈bZ)(hn:0≤n∧n≤8)(q:∀(af:S) (m i:Nat) (T':ai),ai.aX af y T'→T'.Ok→Tb.Ext T'→T'.tx[i]? =some x→T'.fs[m]? =some ((i:Int),n)→Keeps [3,4,5,6] σ af→Q (.int (m:Int)) af):CV c (k+2) (.ref 129) [.val (.ref y.o),.str x,.int n] σ Q:=
 (Pm T h ok hx hn).mono λr af z=>mi z λm i T' er a b d e g l=>er▸q af m i T' a b d e g l
end
end
noncomputable section
open Classical
noncomputable section
variable {c:Cx}{k:Nat}{Q:V→S→Prop}
theorem fT(T:au c){st y H}(h:aY σ st y H)(hl:H.length≤100000)(hd:cR H n x e)(q:Q (cV e) σ):CV c (k+1) (.ref 306) [.val (.ref st.o),cV x] σ Q:=by
 refine gV L9 T rfl λf E=>?_
 refine V.loop (λ(x:aE×Nat×Option V×Option V)=> [some (.val (.ref st.o)),some (cV x.1),x.2.2.1,x.2.2.2]) (λx=>x.2.1) (λx af=>aY af st y H∧Q (cV e) af∧cR H x.2.1 x.1 e) (x,n,none,none) rfl ⟨h,q,hd⟩ λE a af j=>?_
 refine cq j λh q hd=>?_
 refine Br.tt ?_
 kd_p
 refine Or.elim hd.inv (λz=>?_) λz=>?_
 ·refine Br.no z.2.1 ?_
  kd_p
  refine Br.no z.2.2 ?_
  exact aq.go (z.1▸q)
 ·refine Br.yes z.1 ?_
  refine bG z.2 λd ha h1 h2=>?_
  kd_p
  refine IX.hp h ha hl ?_
  kd_p
  refine Br.dec (λe=>aq.go (h1 e▸q)) λe=>?_
  exact ak (h2 e) λm hm hd=>.mk (d,m,_,_) hm rfl ⟨h,q,hd⟩
theorem Pq(T:au c){st y H}(h:aY σ st y H)(hl:H.length<100000)
  (q:∀af,aY af st y (H++ [x])→Keeps [13] σ af→Q (.int (H.length:Int)) af):CV c (k+1) (.ref 278) [.val (.ref st.o),cV x] σ Q:=by
 refine gW LZ T rfl λL A stack E=>?_
 kd_p
 refine CV.iR h.hp (Nat.le_of_lt hl) ?_
 kd_p
 refine Br.no (by exact λh=>nf (M2 [_] [] 0x11111110006186a051114186a05100111 rfl hl h)) ?_
 kd_p
 refine CV.append' h.hp (dN (Nat.le_of_lt hl)) λah e1 k1=>?_
 exact aq.go (q ah ⟨k1.at h.o,k1.at h.d,e1.trans (by exact ae List.map_append rfl)⟩ k1)
theorem Pr(T:au c){st y H}(h:aY σ st y H)(hl:H.length<100000)
  (q:∀af,aY af st y (H++ [(0,(H.length:Int))])→Keeps [13] σ af→Q (cV (0,(H.length:Int))) af):CV c (k+2) (.ref 285) [.val (.ref st.o)] σ Q:=by
 refine gV L5 T rfl λf E=>?_
 kd_p
 refine CV.iR h.hp (Nat.le_of_lt hl) ?_
 kd_p
 refine Pq (x:=(0,(H.length:Int))) T h hl λaf a b=>?_
 exact⟨True.intro,aq.go (q _ a b)⟩
theorem BZ(T:au c){st y H}(h:aY σ st y H)(hl:H.length+n≤100000)
  (q:∀af,aY af st y (H++dZ H.length n)→Keeps [13] σ af→Q (.int (H.length:Int)) af):CV c (k+1) (.ref 292) [.val (.ref st.o),.int (n:Int)] σ Q:=by
 refine gW L7 T rfl λL A stack E=>?_
 have hn:n≤100000:=Nat.le_trans (Nat.le_add_left _ _) hl
 have hH:H.length≤100000:=Nat.le_trans (Nat.le_add_right _ _) hl
 kd_p
 refine CV.iR h.hp hH ?_
 kd_p
 refine Br.no (by exact λh=>nf (M2 [_,_] [] 0x111111101060062186a051115186a05110002110 rfl hl h)) ?_
 kd_p
 have sm:=lw (n:=(n:Int)) (by exact Int.natCast_nonneg _) (by exact M1 [_] [] 0x400000000000000001006115186a05100110 rfl hn)
 refine CV.oo ?_
 refine V.fS (λx=> [some (.val (.ref st.o)),some (.int (n:Int)),some (.int (H.length:Int)),x]) _ (λi q_ af=>aY af st y (H++dZ H.length i)∧Keeps [13] σ af) _ (bI.c4 sm.1 (by exact ae sm.2 (Int.natCast_nonneg _))) none rfl ⟨by simpa[dZ] using h,.refl⟩ (λq_ q_ q_ q_=>True.intro) (λE i r x af K hr ja nx=>?_) λx af ja=>?_
 ·refine(qT hn hr).elim λer hi=>?_
  subst er
  refine ja.elim λhs hk=>?_
  have hp:=hs.hp
  kd_p
  refine CV.append' hp (dN (by simp[dZ];exact M2 [_,_,_] [] 0x186a051200021101020111186a05110002110 rfl hl hi)) λav e2 k2=>?_
  refine nx _ _ ⟨⟨k2.at hs.o,k2.at hs.d,e2.trans ?_⟩,hk.trans k2⟩
  refine ae wK (aU (List.append_assoc ..) (ae (List.map_append (l₁:=H++dZ H.length i)) (ae (Int.natCast_add ..) ?_)));rfl
 ·rw[lE hn]at ja
  exact aq.go (q _ ja.1 ja.2)
theorem B0(T:au c){st y H}{a:Int}(h:aY σ st y H)(hl:H.length≤100000)(h0:0≤a)(h1:a< (H.length:Int))
  (q:∀af,aY af st y (H.set a.toNat v)→Keeps [13] σ af→Q .none af):CV c (k+1) (.ref 320) [.val (.ref st.o),cV (0,a),cV v] σ Q:=by
 refine gV Mb T rfl λf E=>?_
 kd_p
 refine Br.yes rfl ?_
 kd_p
 refine OU.lz h.hp h0 (ux h1 hl) (by exact ae (List.length_map ..) (tn h0 h1)) λaf e k'=>?_
 have s':aY af st y (H.set a.toNat v):=⟨k'.at h.o,k'.at h.d,e.trans (by exact ae List.map_set rfl)⟩
 kd_p
 exact Br.no (by simp only;exact λh=>nf (M2 [] [_] 0x111111100110011500011114 rfl h0 h)) (aq.nx (q _ s' k'))
theorem B1(T:au c){st y H}(h:aY σ st y H)(hl:H.length≤100000)(hd:aH H x e)(q:Q (cV e) σ):CV c (k+2) (.ref 334) [.val (.ref st.o),cV x] σ Q:=by
 refine gV Md T rfl λf E=>?_
 refine hd.elim λn hd=>?_
 kd_p
 refine fT T h hl hd ?_
 kd_p
 exact Br.no (by have:=hd.tag.2;omega) (aq.go q)
theorem gx(T:au c)(q:Q (.bool (ek x)) σ):CV c (k+1) (.ref 362) [.val (.ref o),cV x] σ Q:=by
 refine gV Mf T rfl λf E=>?_
 kd_p
 unfold ek at q
 refine Br.dec (λhq=>?_) (λhq=>?_)
 ·rw[decide_eq_true hq]at q
  exact aq.go q
 ·rw[decide_eq_false hq,Bool.false_or]at q
  kd_p
  exact aq.go q
theorem wR(T:au c){st y H}{f:Nat}{a:Int}(h:aY σ st y H)(hl:H.length≤100000)(hf:f≠0→At H a (6,(f:Int)))(q:Q (.int (f:Int)) σ):CV c (k+1) (.ref 369) [.val (.ref st.o),cV (aN f,a)] σ Q:=by
 refine gV Mh T rfl λq_ E=>?_
 kd_p
 by_cases h0:f=0
 ·subst h0
  refine Br.no (by simp[aN]) ?_
  kd_p
  exact Br.yes rfl (aq.go q)
 ·refine Br.yes (lF h0).1 ?_
  kd_p
  refine IX.hp h (hf h0) hl ?_
  kd_p
  exact aq.go q
theorem o5(T:au c)(q:Q (.int (a+bJ f)) σ):CV c (k+1) (.ref 383) [.val (.ref o),cV (aN f,a)] σ Q:=by
 refine gV Ml T rfl λq_ E=>?_
 kd_p
 by_cases h0:f=0
 ·subst h0
  exact Br.yes rfl (aq.go (Int.add_zero a▸q))
 ·rw[(lF h0).2]at q
  refine Br.no (by simp[(lF h0).1]) ?_
  kd_p
  exact aq.go q
theorem tK(T:au c){st y H Tb}{f:Nat}{a n nm:Int}(h:aY σ st y H)(hy:ai.aX σ y Tb)(ok:Tb.Ok)(hl:H.length≤100000)(hf:f≠0→At H a (6,(f:Int)))
  (ha:Tb.fs[f]? =some (nm,n)) (h2:f=0→n=2) (q:Q (.int n) σ):CV c (k+2) (.ref 376) [.val (.ref st.o),cV (aN f,a)] σ Q:=by
 refine gV Mj T rfl λq_ E=>?_
 kd_p
 by_cases h0:f=0
 ·rw[h2 h0]at q
  subst h0
  exact Br.yes rfl (aq.go q)
 ·refine Br.no (by simp[(lF h0).1]) ?_
  kd_p
  refine Br.yes (lF h0).1 ?_
  kd_p
  refine IX.hp h (hf h0) hl ?_
  kd_p
  exact o4 T hy ha (Nat.le_trans ok.oM (aD rfl)) (aq.go q)
theorem B2(T:au c){st y H Tb}(h:aY σ st y H)(hy:ai.aX σ y Tb)(ok:Tb.Ok)(hl:H.length+ (1+n)≤100000)
  (ha:Tb.fs[f]? =some (nm,(n:Int))) (h2:f=0→n=2) (q:∀af,aY af st y (H++gu f H.length n)→Keeps [13] σ af→Q (cV (aN f,(H.length:Int))) af):CV c (k+2) (.ref 397) [.val (.ref st.o),.int (f:Int)] σ Q:=by
 refine gV Mn T rfl λq_ E=>?_
 kd_p
 by_cases h0:f=0
 ·subst h0
  cases h2 rfl
  refine Br.yes rfl ?_
  kd_p
  exact BZ (n:=2) T h (Nat.le_of_lt hl) λaf a b=>aq.go (q _ a b)
 ·refine Br.no (by exact λh=>nf (M2 [_] [] 0x1111111001100611600011111 rfl (Nat.pos_of_ne_zero h0) h)) ?_
  kd_p
  refine o4 T hy ha (Nat.le_trans ok.oM (aD rfl)) ?_
  kd_p
  refine ae (show ((1:Int)+ (n:Int))= ((1+n:Nat):Int) from rfl) ?_
  refine BZ T h hl λaf a b=>?_
  kd_p
  refine OU.lz a.hp (Int.natCast_nonneg _) (by exact M1 [_,_] [] 0x800000000000000001006115186a051101112002110 rfl hl) (by refine ae (List.length_map ..) (ae List.length_append (ae Ov ?_));exact M1 [_,_,_] [] 0x20111210200111106006116 rfl (Int.toNat_of_nonneg (M0 [_] [] 0x6011114 rfl))) λav e2 k2=>?_
  have e:(List.map cV (H++dZ H.length (1+n))).set (Int.toNat (H.length:Int)) (V.tup [.int 6,.int (f:Int)])= (H++gu f H.length n).map cV:=by
   refine ae (show V.tup [.int 6,.int (f:Int)]=cV (6,(f:Int)) from rfl) (aU List.map_set (ae (Int.toNat_natCast ..) ?_))
   congr 1
   refine ae (List.set_append_right _ _ (Nat.le_refl _)) (ae Ow (ae (Nat.sub_self ..) ?_))
   simp[gu,h0]
  rw[(lF h0).1]at q
  kd_p
  exact aq.go (q _ ⟨k2.at a.o,k2.at a.d,e2.trans (congrArg (λz=>some (O.list 13 z)) e)⟩ (b.trans k2))
end
end
noncomputable section
open Classical
noncomputable section
noncomputable abbrev cm:RS→Nat→RS
 |.seq s _,0=>s
 |.seq _ r,n+1=>cm r n
 |_,_=>.nil
noncomputable abbrev dt:RS→RS
 |.loop _ b=>b
 |.dp _ _ b=>b
 |.ite _ a _=>a
 |_=>.nil
noncomputable abbrev wS:RS→RS
 |.ite _ _ b=>b
 |_=>.nil
noncomputable abbrev bT:Nat→RS→RS
 | 0,r=>r
 |n+1,.seq _ r=>bT n r
 |_,_=>.nil
noncomputable def df(L:VT):List (Int×V):=L.map λp=>(p.1,cV (0,p.2))
theorem o6{L:VT}{n:Int}:look (df L) n= (L.lookup n).map λa=>cV (0,a):=by
 induction L with
 |nil=>rfl
 |cons p L ih=>
  (refine ae List.lookup_cons ?_)
  by_cases h:p.1=n
  ·exact(congrArg (Option.map Prod.snd) (List.find?_cons_of_pos (decide_eq_true h))).trans (ae (beq_iff_eq.mpr h.symm) rfl)
  ·exact(congrArg (Option.map Prod.snd) (List.find?_cons_of_neg λz=>h (of_decide_eq_true z))).trans (ae (beq_eq_false_iff_ne.mpr λz=>h z.symm) ih)
theorem Ps{L:VT}:∀{p:Int×Int},p∈L→∃a,L.lookup p.1=some a:=by
 intro p hp
 induction L with
 |nil=>exact dx hp
 |cons q L ih=>
  refine ae List.lookup_cons ?_
  by_cases h:p.1=q.1
  ·exact⟨q.2,by simp[h]⟩
  ·refine ae (show (p.1==q.1)=false from by simpa using h) ?_
   rcases List.mem_cons.mp hp with rfl|hp
   ·exact absurd rfl h
   ·exact ih hp
structure o7(H:Hp)(L:VT):Prop where
 at_:∀n a,L.lookup n=some a→At H a (0,a)
 inj:∀n m a,L.lookup n=some a→L.lookup m=some a→n=m
structure qY(t:Tm)(H:Hp)(L:VT)(B:Nat)(H':Hp)(L':VT)(e:aE):Prop where
 rep:(t.aQ (nu L')).Rep H' e
 le:Le H H'
 ext:∀n a,L.lookup n=some a→L'.lookup n=some a
 ny:o7 H' L'
 c7:∀n,t.Vr n→∃a,L'.lookup n=some a
 bd:H'.length+L'.length≤B
 dir:∀f l,t= .s f l→e.1=aN f
noncomputable def qZ(t:Tm)(st:ba)(y:aT)(tb:Addr)(H:Hp)(L:VT)(B:Nat)(σ:S)(r:V)(af:S):Prop:=
 ∃H' L' e,r=cV e∧aY af st y H'∧af tb=some (.dI 41 (df L'))∧qY t H L B H' L' e∧Keeps [13,41,50,51] σ af
noncomputable def nz(p:Int×List Tm):V:=.tup [.int p.1,.tup (p.2.map Tm.V)]
variable {c:Cx}{k:Nat}{σ:S}
theorem Tm.B3 {f l}:l.length+2≤(Tm.s f l).sz:=by
 refine ae Tm.dq ?_
 induction l with
 |nil=>simp
 |cons t l ih=>simp only[List.map_cons,List.sum_cons,List.length_cons]at *;exact M1 [_,_,_] [] 0x10111202221122111110022110102112211002110 rfl ih
theorem Pu{p f m l P b}:wt ((p+1,l)::(P++ [(b,m)]))<wt ((p,.s f m::l)::P):=by
 have e:(m.map λt=>t.sz+1).sum= (m.map Tm.sz).sum+m.length:=by
  induction m with
  |nil=>rfl
  |cons t l ih=>simp only[List.map_cons,List.sum_cons,List.length_cons,ih];exact Nat.le_antisymm (M0 [_,_,_] [] 0x111202100022201021110022110 rfl) (M0 [_,_,_] [] 0x201021110022111202100022110 rfl)
 refine ae oV (ae Tm.dq (ae e ?_))
 simp only[wt,List.map_cons,List.map_append,List.sum_cons,List.sum_append,List.map_nil,List.sum_nil];exact M0 [_,_,_,_] [] 0x100011122302022112201120111221020011122111 rfl
structure nA where
 (st:ba) (y:aT) (tb w:Addr) (tv:V) (t₀:Tm) (r:aE) (bN:Hp) (Tb:ai) (B:Nat) (dk:VT) (aK:S)
structure B4 where
 (done:List V) (H:Hp) (P:kG) (L:VT) (x3 x4 x8 x9 bX cX:Option V)
noncomputable abbrev nA.l (g:nA)(a:B4):Lo:= [some (.val (.ref g.st.o)),some g.tv,some (.val (.ref g.tb)),a.x3,a.x4,some (cV g.r),some (.val (.ref g.w)),some (.int (a.done.length:Int)),a.x8,a.x9,a.bX,a.cX]
structure B5 where
 (H:Hp) (P:kG) (L:VT) (pl:Int) (x4 bX cX:Option V)
structure wT(g:nA)(a:B4)(σ:S):Prop where
 px:PX g.t₀ g.r g.bN g.Tb g.B a.H a.P a.L
 dm:aY σ g.st g.y a.H
 tab:σ g.tb=some (.dI 41 (df a.L))
 wl:σ g.w=some (.list 51 (a.done++a.P.map nz))
 bd:a.done.length+wt a.P≤g.B
 ext:∀n x,g.dk.lookup n=some x→a.L.lookup n=some x
 kp:Keeps [13,41,50,51] g.aK σ
structure q7 where
 (D:List V) (cY:List Tm) (p:Int) (M:Nat) (x3:Option V)
noncomputable abbrev q7.l (g:nA)(e:q7)(a:B5):Lo:= [some (.val (.ref g.st.o)),some g.tv,some (.val (.ref g.tb)),e.x3,a.x4,some (cV g.r),some (.val (.ref g.w)),some (.int (e.D.length:Int)),some (.int a.pl),some (.tup (e.cY.map Tm.V)),a.bX,a.cX]
structure lI(g:nA)(e:q7)(i:Nat)(a:B5)(σ:S):Prop where
 px:PX g.t₀ g.r g.bN g.Tb g.B a.H ((a.pl,e.cY.drop i)::a.P) a.L
 pl:a.pl=e.p+ (i:Int)
 dm:aY σ g.st g.y a.H
 tab:σ g.tb=some (.dI 41 (df a.L))
 wl:σ g.w=some (.list 51 (e.D++a.P.map nz))
 bd:wt ((a.pl,e.cY.drop i)::a.P)≤e.M
 ext:∀n x,g.dk.lookup n=some x→a.L.lookup n=some x
 kp:Keeps [13,41,50,51] g.aK σ
structure B6(c:Cx)(g:nA):Prop where
 T:au c
 calm:c.calm=true
 hy:ai.aX g.aK g.y g.Tb
 ok:g.Tb.Ok
 bd:g.B≤100000
theorem lI.hd {g e i a σ t}(j:lI g e i a σ)(hi:e.cY[i]? =some t):PX g.t₀ g.r g.bN g.Tb g.B a.H ((a.pl,t::e.cY.drop (i+1))::a.P) a.L∧t.sz+wt ((a.pl+1,e.cY.drop (i+1))::a.P)≤e.M:=by
 have Pw:e.cY.drop i=t::e.cY.drop (i+1):=by
  have:=be hi
  refine ae (List.drop_eq_getElem_cons this) ?_
  rw[List.getElem?_eq_getElem this]at hi
  (injection hi with hi;subst hi);rfl
 have h1:=j.px
 have h2:=j.bd
 rw[Pw]at h1 h2
 rw[oV]at h2
 exact⟨h1,h2⟩
theorem lI.set {g e i a σ t af}(j:lI g e i a σ)(hi:e.cY[i]? =some t)(v:aE)(x4 bX:Option V)(px:PX g.t₀ g.r g.bN g.Tb g.B (a.H.set a.pl.toNat v) ((a.pl+1,e.cY.drop (i+1))::a.P) a.L)
  (s':aY af g.st g.y (a.H.set a.pl.toNat v)) (k':Keeps [13] σ af):lI g e (i+1) ⟨a.H.set a.pl.toNat v,a.P,a.L,a.pl+1,x4,bX,a.cX⟩ af where
 px:=px
 pl:=by have:=j.pl;simp only[Int.natCast_add];exact Int.le_antisymm (M1 [_] [_,_] 0x1116006210211100211400610200116 rfl this) (M1 [_] [_,_] 0x1111021116006200211410006002117 rfl this)
 dm:=s'
 tab:=k' _ _ j.tab (by simp[O.tag])
 wl:=k' _ _ j.wl (by simp[O.tag])
 bd:=by have:=(j.hd hi).2;simp only;exact Nat.le_trans (Nat.le_add_left _ _) (by assumption)
 ext:=j.ext
 kp:=j.kp.trans (k'.am rfl)
theorem wU(P:kG):P.length≤wt P:=by
 induction P with
 |nil=>exact Nat.zero_le _
 |cons p P ih=>simp only[wt,List.map_cons,List.sum_cons,List.length_cons]at *;exact M1 [_,_,_] [] 0x1020111221110021101000110 rfl ih
noncomputable abbrev putIn:RS:=dt (cm (dt (cm oK 8)) 2)
theorem Px{f:Fm}{E:Value→Shared→Prop}{g e i a t}{K:Fl→Lo→S→Prop}(o:B6 c g)(hD:e.D.length+e.M≤100001)(j:lI g e i a σ)(hi:e.cY[i]? =some t)(q:∀a' af,lI g e (i+1) a' af→K .next (e.l g a') af):
  vX c f (k+2) putIn E (gk (e.l g a) 10 (some t.V)) σ K:=by
 have T:=o.T
 have hd:=(j.hd hi).1
 have lo:=(hd.lo (Nat.succ_pos _)).2.2
 have hl:a.H.length≤100000:=Nat.le_trans (Nat.le_trans (Nat.le_add_right _ _) (Nat.le_trans (Nat.le_add_right _ _) hd.bd)) o.bd
 have ht:=j.tab
 have hs:=j.dm
 cases t with
 |v n=>
  kd_p
  refine Br.yes rfl ?_
  kd_p
  cases hn:a.L.lookup n with
  |some z=>
   have lk:look (df a.L) n=some (cV (0,z)):=by refine ae o6 (ae hn ?_);rfl
   refine OV.oF (b:=true) ht (by exact ae lk rfl) (Br.tt ?_)
   kd_p
   refine IX.I ht lk ?_
   kd_p
   refine OU.heap _ hs lo hl λaf s' k'=>?_
   exact q ⟨_,_,_,_,_,_,_⟩ _ (j.set hi _ _ _ (hd.OG hn) s' k')
  |none=>
   have lk:look (df a.L) n=none:=by refine ae o6 (ae hn ?_);rfl
   refine OV.oF (b:=false) ht (by exact ae lk rfl) (Br.ff ?_)
   kd_p
   refine OU.hG (l':=df (a.L++ [(n,a.pl)])) ht (sl (by have:=hd.bd;have:=o.bd;simp only[df,List.length_map];exact M2 [_,_,_,_] [] 0x186a05110110186a051301103020100022110 rfl (by assumption) this)) (by refine ae (oL lk) ?_;simp[df,cV]) λaf e3 k3=>?_
   exact q ⟨_,_,_,_,_,_,_⟩ _ ⟨hd.OH hn,by have:=j.pl;simp only[Int.natCast_add];exact Int.le_antisymm (M1 [_] [_,_] 0x1116006210211100211400610200116 rfl this) (M1 [_] [_,_] 0x1111021116006200211410006002117 rfl this),hs.kb k3,e3,k3.at j.wl,Nat.le_trans (Nat.le_add_left _ _) (j.hd hi).2,λm x hm=>jz.mpr (.inl (j.ext m x hm)),j.kp.trans (k3.am rfl)⟩
 |a n=>
  kd_p
  refine Br.no (by decide) ?_
  kd_p
  refine Br.yes rfl ?_
  kd_p
  refine OU.heap (4,(n:Int)) hs lo hl λaf s' k'=>?_
  exact q ⟨_,_,_,_,_,_,_⟩ _ (j.set hi _ _ _ hd.aI s' k')
 |i n=>
  kd_p
  refine Br.no (by decide) ?_
  kd_p
  refine Br.no (by decide) ?_
  kd_p
  refine Br.yes rfl ?_
  kd_p
  refine OU.heap (5,n) hs lo hl λaf s' k'=>?_
  exact q ⟨_,_,_,_,_,_,_⟩ _ (j.set hi _ _ _ hd.iI s' k')
 |s f m=>
  refine iw (Tm.bB.mp (hd.wf _ (.head _) _ (.head _))) λob v2 v3 v4 v5=>?_
  refine ob.elim λmQ v1=>?_
  have o8:wt ((a.pl+1,e.cY.drop (i+1))::(a.P++ [((a.H.length:Int)+bJ f,m)]))≤e.M∧a.H.length+ (1+m.length)≤100000∧(e.D++a.P.map nz).length≤100000:=by
   have fc:=Tm.B3 (f:=f) (l:=m)
   have tL:=Pu (p:=a.pl) (f:=f) (m:=m) (l:=e.cY.drop (i+1)) (P:=a.P) (b:=(a.H.length:Int)+bJ f)
   rw[oV]at tL
   have hP:=wU (((a.pl+1,e.cY.drop (i+1))::a.P))
   have fF:=hd.bd
   rw[oV]at fF
   have hM:=(j.hd hi).2
   have hb:=o.bd
   rw[List.length_cons]at hP
   refine⟨?_,?_,?_⟩
   ·clear hP fF;exact M2 [_,_,_,_] [] 0x300011030201021102010200111 rfl tL hM
   ·clear hP tL hM;exact M5 [_,_,_,_,_,_] [] 0x186a051101112002510186a0515041050402023000224102021110241031110110186a05100110 rfl hl v4 fc fF hb
   ·refine ae List.length_append (ae (List.length_map ..) ?_);clear fF tL;exact M3 [_,_,_,_,_] [] 0x186a05120002110103040211030111202110186a15110002110 rfl hD hP hM
  have Py:At (a.H++gu f a.H.length m.length) a.pl (0,a.pl):=lo.push
  kd_p
  refine Br.no (by decide) ?_
  kd_p
  refine Br.no (by decide) ?_
  kd_p
  refine Br.no (by decide) ?_
  kd_p
  refine B2 (n:=m.length) T hs (o.hy.kb j.kp) o.ok o8.2.1 v1 v2 λav h2 k2=>?_
  kd_p
  refine OU.heap _ h2 Py (by have:=o8.2.1;refine ae List.length_append (ae qU ?_);split<;> (first|exact M1 [_,_] [] 0x186a051100112002110186a051101112002110 rfl o8.2.1|exact M1 [_,_] [] 0x186a051101112002110186a051101112002110 rfl o8.2.1)) λaW h3 k3=>?_
  have k3:=k2.trans k3
  have wV:=k3.at j.wl
  kd_p
  refine o5 T ?_
  kd_p
  refine CV.append' wV (sl o8.2.2) λbn e4 k4=>?_
  refine q ⟨_,a.P++ [((a.H.length:Int)+bJ f,m)],_,_,_,_,_⟩ _ ⟨hd.sI,by have:=j.pl;simp only[Int.natCast_add];exact Int.le_antisymm (M1 [_] [_,_] 0x1116006210211100211400610200116 rfl this) (M1 [_] [_,_] 0x1111021116006200211410006002117 rfl this),h3.kb k4,k4.at (k3.at j.tab),?_,o8.1,j.ext,j.kp.trans ((k3.am rfl).trans (k4.am rfl))⟩
  refine ae e4 (ae List.map_append (ae (List.append_assoc ..) ?_));rfl
theorem Pz{f:Fm}{E:Value→Shared→Prop}{g a}{K:Fl→Lo→S→Prop}(o:B6 c g)(j:wT g a σ)(q:∀a' af,wt a'.P<wt a.P→wT g a' af→K .next (g.l a') af)(hP:a.P≠ []):vX c f (k+2) (dt (cm oK 8)) E (g.l a) σ K:=by
 have hb:=o.bd
 have calm:=o.calm
 have fF:=j.bd
 have VZ:=wU a.P
 refine jO (show∃p cY,a.P= (p,cY)::a.P.tail by cases h:a.P with|nil=>exact absurd h hP|cons p P=>exact⟨_,_,rfl⟩) λp cY eP=>?_
 have PA:wt a.P=1+ (cY.map Tm.sz).sum+wt a.P.tail:=by refine ae eP ?_;simp only[wt,List.map_cons,List.sum_cons,List.tail_cons]
 have hw:σ g.w=some (.list 51 ((a.done++ [nz (p,cY)])++a.P.tail.map nz)):=by refine ae j.wl (ae eP (ae List.map_cons (ae (List.append_assoc ..) ?_)));rfl
 have px:=j.px
 have PB:1+ (cY.map Tm.sz).sum+wt a.P.tail≤wt a.P:=Nat.le_of_eq PA.symm
 rw[eP]at px
 kd_p
 refine⟨calm,?_⟩
 kd_p
 refine IX.L (r:=.tup [.int p,.tup (cY.map Tm.V)]) hw (Int.natCast_nonneg _) (Int.lt_of_le_of_lt (Int.ofNat_le.mpr (show a.done.length≤100000 by exact M2 [_,_,_] [] 0x186a051101100020102110186a05100110 rfl hb fF)) (by decide)) (by refine ae (Int.toNat_natCast ..) (ae (List.append_assoc ..) (ae (List.getElem?_append_right (Nat.le_refl _)) (ae (Nat.sub_self ..) ?_)));rfl) ?_
 kd_p
 refine V.fS (q7.l g ⟨a.done++ [nz (p,cY)],cY,p,wt a.P,a.x3⟩) _ (lI g ⟨a.done++ [nz (p,cY)],cY,p,wt a.P,a.x3⟩) _ (bI.tup calm) ⟨a.H,a.P.tail,a.L,p,a.x4,a.bX,a.cX⟩ (by rw[q7.l,List.length_append];rfl)
  ⟨px,(Int.add_zero p).symm,j.dm,j.tab,hw,by refine ae List.drop_zero ?_;exact PB,j.ext,j.kp⟩ (λq_ q_ q_ q_=>True.intro) (λE i r a' af K hr ja q'=>?_) λb af ja=>?_
 ·rw[List.getElem?_map]at hr
  refine eW hr λt PC=>?_
  exact Px o (by refine ae List.length_append (ae List.length_singleton ?_);exact M2 [_,_,_] [] 0x186a1512011110221100020102110186a05100110 rfl hb fF) ja PC q'
 ·have h1:=ja.px
  have h2:=ja.bd
  rw[List.length_map,List.drop_length]at h1 h2
  have e:wt ((b.pl, [])::b.P)=1+wt b.P:=by simp only[wt,List.map_cons,List.sum_cons,List.map_nil,List.sum_nil,Nat.add_zero]
  rw[e]at h2
  exact q ⟨_,_,_,_,_,_,_,_,_,_⟩ _ (Nat.lt_of_lt_of_le (Nat.lt_add_of_pos_left Nat.one_pos) h2) ⟨h1.pop,ja.dm,ja.tab,ja.wl,by refine ae List.length_append (ae List.length_singleton ?_);simp only at h2 ⊢;exact M2 [_,_,_,_] [] 0x20301110022110103011121102010002110 rfl fF h2,ja.ext,ja.kp⟩
theorem PD{f:Fm}{E:Value→Shared→Prop}{K:Fl→Lo→S→Prop}{st:ba}{tb:Addr}{tv:V}{Lt:VT}(calm:c.calm=true)(hl:Lt.length≤100000)(ht:σ tb=some (.dI 41 (df Lt)))
  (q:∀x af,Keeps [50] σ af→K .next [some (.val (.ref st.o)),some tv,some (.val (.ref tb)),x,none,none,none,none,none,none,none,none] af):
  vX c f k (cm oK 0) E [some (.val (.ref st.o)),some tv,some (.val (.ref tb)),none,none,none,none,none,none,none,none,none] σ K:=by
 kd_p
 refine CV.JW 50 calm ht (sl (by rw[df,List.length_map];exact hl)) λb ah hb e k1=>?_
 have wW:=k1.at ht
 refine V.fS (λx=> [some (.val (.ref st.o)),some tv,some (.val (.ref tb)),x,none,none,none,none,none,none,none,none]) _ (λi q_ af=>Keeps [50] σ af∧af tb=some (.dI 41 (df Lt))∧af b=ah b) _ (bI.list _ (λaf h=>.own h) e calm) none rfl ⟨k1.am rfl,wW,rfl⟩ (λq_ q_ q_ h=>h.2.2.trans e) (λE i r x af K hr j q'=>?_) λx af h=>q x af h.1
 rw[List.getElem?_map]at hr
 refine eW hr λp hp=>?_
 unfold df at hp
 rw[List.getElem?_map]at hp
 refine eW hp λq hq=>?_
 refine(Ps (List.mem_of_getElem? hq)).elim λa ha=>?_
 kd_p
 refine IX.I j.2.1 (r:=cV (0,a)) (by refine ae o6 (ae ha ?_);rfl) ?_
 kd_p
 exact Br.no (show¬(0:Int)=1 by decide) (q' _ _ j)
theorem qY.leaf {t:Tm}{H:Hp}{L:VT}{B:Nat}{e:aE}(hr:(t.aQ (nu L)).Rep H e)(hv:o7 H L)(hc:∀n,t.Vr n→∃a,L.lookup n=some a)(hb:H.length+L.length≤B)(hs:∀f l,t≠.s f l):qY t H L B H L e:=
 ⟨hr,.refl _,λq_ q_ h=>h,hv,hc,hb,λf l e=>absurd e (hs f l)⟩
theorem PF{f:Fm}{E:Value→Shared→Prop}{st y H Lt tb t B x}{Q:V→S→Prop}(T:au c)(h:aY σ st y H)(ht:σ tb=some (.dI 41 (df Lt)))(hv:o7 H Lt)
  (hB:H.length+Lt.length+t.sz+1≤B) (jE:B≤100000) (hs:∀f l,t≠.s f l) (q:∀r af,qZ t st y tb H Lt B σ r af→Q r af):vX c f (k+2) (bT 1 oK) E [some (.val (.ref st.o)),some t.V,some (.val (.ref tb)),x,none,none,none,none,none,none,none,none] σ (aq Q):=by
 have hb:H.length+Lt.length+2≤B:=Nat.le_trans (Nat.succ_le_succ (Nat.add_le_add_left t.gq _)) hB
 have q8:=Nat.le_trans (Nat.le_add_right _ 2) hb
 cases t with
 |s f l=>exact absurd rfl (hs f l)
 |a n=>
  kd_p
  refine Br.no (by decide) ?_
  kd_p
  refine Br.yes rfl ?_
  kd_p
  exact aq.go (q _ _ (jR H Lt (4,(n:Int)) rfl h ht (.leaf (aH.con (t:=4) (by decide) (by decide)) hv (λn hn=>hn.elim) q8 hs) .refl))
 |i n=>
  kd_p
  refine Br.no (by decide) ?_
  kd_p
  refine Br.no (by decide) ?_
  kd_p
  refine Br.yes rfl ?_
  kd_p
  exact aq.go (q _ _ (jR H Lt (5,n) rfl h ht (.leaf (aH.con (t:=5) (by decide) (by decide)) hv (λn hn=>hn.elim) q8 hs) .refl))
 |v n=>
  kd_p
  refine Br.yes rfl ?_
  kd_p
  cases hn:Lt.lookup n with
  |some a=>
   have lk:look (df Lt) n=some (cV (0,a)):=by refine ae o6 (ae hn ?_);rfl
   refine OV.iQ (b:=true) ht (by exact ae lk rfl) (Br.ff ?_)
   kd_p
   refine IX.I ht lk ?_
   refine aq.go (q _ _ (jR H Lt (0,a) rfl h ht (.leaf ?_ hv (λm hm=>⟨a,(show m=n from hm)▸hn⟩) q8 hs) .refl))
   show aH H (0,a) (0,nu Lt n)
   refine ae (fQ hn) ?_
   exact⟨0,.var (hv.at_ n a hn)⟩
  |none=>
   have lk:look (df Lt) n=none:=by refine ae o6 (ae hn ?_);rfl
   have e:(Lt++ [(n,(H.length:Int))]).lookup n=some (H.length:Int):=jz.mpr (.inr ⟨hn,rfl,rfl⟩)
   have mJ:At (H++ [(0,(H.length:Int))]) (H.length:Int) (0,(H.length:Int)):=At.mk' (by simp)
   have ch:H.length<100000:=by exact M3 [_,_,_] [] 0x186a05110211002010211000211201022110186a05100210 rfl jE hb q8
   refine OV.iQ (b:=false) ht (by exact ae lk rfl) (Br.tt ?_)
   kd_p
   refine Pr T h ch λav h2 k2=>?_
   kd_p
   refine OU.hG (l':=df (Lt++ [(n,(H.length:Int))])) (k2.at ht) (sl (by rw[df,List.length_map];exact M2 [_,_,_] [] 0x186a051201100020102110186a05100110 rfl jE q8)) (by refine ae (oL lk) ?_;simp[df]) λaW e3 k3=>?_
   kd_p
   refine IX.I (r:=cV (0,(H.length:Int))) e3 (by refine ae o6 (ae e ?_);rfl) ?_
   refine aq.go (q _ _ (jR _ _ (0,(H.length:Int)) rfl (h2.kb k3) e3 ⟨?_,Le.push,λm a hm=>jz.mpr (.inl hm),⟨λm a hm=>?_,λm m' a hm fH=>?_⟩,λm hm=>⟨(H.length:Int),by exact ae (show m=n from hm) e⟩,?_,λf l e=>absurd e (hs f l)⟩ ((k2.am rfl).trans (k3.am rfl))))
   ·show aH _ (0,_) (0,nu _ n)
    refine ae (fQ e) ?_
    exact⟨0,.var mJ⟩
   ·refine Or.elim (jz.mp hm) (λhm=>?_) λPG=>?_
    rotate_left
    obtain ⟨_,rfl,rfl⟩:=PG
    rotate_right
    ·exact(hv.at_ m a hm).push
    ·exact mJ
   ·(refine Or.elim (jz.mp hm) (λq1=>?_) λPH=>?_;rotate_left;obtain ⟨_,q2,q3⟩:=PH;rotate_right)<;> (refine Or.elim (jz.mp fH) (λq4=>?_) λPI=>?_;rotate_left;obtain ⟨_,q5,q6⟩:=PI;rotate_right)
    ·exact hv.inj _ _ _ q1 q4
    ·have:=(hv.at_ _ _ q1).lt;lia
    ·have:=(hv.at_ _ _ q4).lt;lia
    ·exact q2.trans q5.symm
   ·simp only[List.length_append,List.length_cons,List.length_nil];exact M1 [_,_,_] [] 0x2011101121021110112002211020211100022110 rfl hb
theorem PJ{f:Fm}{E:Value→Shared→Prop}{st y Tb H Lt tb h l B x}{Q:V→S→Prop}(T:au c)(calm:c.calm=true)(hs:aY σ st y H)(hy:ai.aX σ y Tb)(ok:Tb.Ok)(wf:(Tm.s h l).Wf Tb)(ht:σ tb=some (.dI 41 (df Lt)))(hv:o7 H Lt)
  (hB:H.length+Lt.length+ (Tm.s h l).sz+1≤B) (jE:B≤100000) (q:∀r af,qZ (.s h l) st y tb H Lt B σ r af→Q r af):vX c f (k+2) (bT 1 oK) E [some (.val (.ref st.o)),some (Tm.s h l).V,some (.val (.ref tb)),x,none,none,none,none,none,none,none,none] σ (aq Q):=by
 refine iw (Tm.bB.mp wf) λob w2 w3 w4 w5=>?_
 refine ob.elim λnm w1=>?_
 have px:=PX.start (H:=H) (L:=Lt) (B:=B) wf hv.at_ hv.inj (Nat.le_of_lt hB)
 have PK:H.length+ (1+l.length)≤100000:=by have:=Tm.B3 (f:=h) (l:=l);exact M4 [_,_,_,_,_] [] 0x186a0514011120025102021140231031140210186a0513051030111201000222510 rfl hB jE w4 this
 kd_p
 refine Br.no (by decide) ?_
 kd_p
 refine Br.no (by decide) ?_
 kd_p
 refine Br.no (by decide) ?_
 kd_p
 refine B2 (n:=l.length) T hs hy ok PK w1 w2 λav h2 k2=>?_
 kd_p
 refine o5 T ?_
 kd_p
 refine aZ.go 51 λw aW hw e3 k3=>?_
 refine V.oZ (nA.l ⟨st,y,tb,w,(Tm.s h l).V,.s h l,(aN h,(H.length:Int)),H,Tb,B,Lt,σ⟩) (λa=>wt a.P) (wT ⟨st,y,tb,w,(Tm.s h l).V,.s h l,(aN h,(H.length:Int)),H,Tb,B,Lt,σ⟩)
  ⟨[],_, [((H.length:Int)+bJ h,l)],Lt,_,_,_,_,_,_⟩ rfl ⟨px,h2.kb k3,k3.at (k2.at ht),e3,by refine ae List.length_nil (ae (Nat.zero_add ..) ?_);exact Nat.le_trans (Nat.le_add_left _ _) px.bd,λq_ q_ h=>h,(k2.am rfl).trans (k3.am rfl)⟩ λE a af K j nx q_=>?_
 have hP:=wU a.P
 have fF:=j.bd
 kd_p
 refine CV.lv j.wl (sl (by refine ae List.length_append (ae (List.length_map ..) ?_);simp only at fF;exact M3 [_,_,_,_] [] 0x186a0511030211000203021102010110186a05100110 rfl jE hP fF)) ?_
 by_cases hP:a.P= []
 ·refine Br.no (by refine ae hP ?_;simp) ?_
  have nB:=j.px
  rw[hP]at nB
  refine aq.go (q _ _ (jR a.H a.L _ rfl j.dm j.tab ⟨nB.inv.done,nB.inv.le,j.ext,⟨λn z h=>(nB.inv.vars n z h).1,nB.inj⟩,λn hn=>?_,Nat.le_trans (Nat.le_add_right _ _) nB.bd,λq_ q_ h=>by (injection h with h zq;subst h;subst zq);rfl⟩ j.kp))
  refine Or.elim (nB.c7 n hn) (λh=>?_) λPL=>?_
  rotate_left
  obtain ⟨p,hp,_⟩:=PL
  rotate_right
  ·exact h
  ·exact dx hp
 ·refine Br.yes ?_ (Pz ⟨T,calm,hy,ok,jE⟩ j (λa' af h1 h2=>(nx a' af h1 h2).1) hP)
  refine ae List.length_append (ae (List.length_map ..) ?_)
  have:=List.length_pos_iff.mpr hP
  exact M1 [_,_] [] 0x102610611500011111 rfl this
theorem B7(T:au c)(calm:c.calm=true){st y Tb H L tb t B}(h:aY σ st y H)(hy:ai.aX σ y Tb)(ok:Tb.Ok)(wf:t.Wf Tb)(ht:σ tb=some (.dI 41 (df L)))(hv:o7 H L)
  (hB:H.length+L.length+t.sz+1≤B) (jE:B≤100000):CV c (k+3) (.ref 440) [.val (.ref st.o),t.V,.val (.ref tb)] σ (qZ t st y tb H L B σ):=by
 refine gV Mo T rfl λf E=>?_
 refine PD (E:=E) calm (by exact M2 [_,_,_,_] [] 0x186a05110110186a0513011030111201000222110 rfl hB jE) ht λx af k'=>?_
 have h':=h.kb k'
 have kF:=k'.at ht
 have fin:∀r av,qZ t st y tb H L B af r av→qZ t st y tb H L B σ r av:=λr av z=>iz z λH' L' e z1 z2 z3 z4 z5=>jR H' L' e z1 z2 z3 z4 ((k'.am rfl).trans z5)
 by_cases hs:∃f l,t= .s f l
 ·refine jO hs λf l er=>?_
  subst er
  exact PJ T calm h' (hy.kb k') ok wf kF hv hB jE fin
 ·exact PF T h' kF hv hB jE (λf l e=>hs ⟨f,l,e⟩) fin
end
end
noncomputable section
open Classical
noncomputable section
variable {c:Cx}{k:Nat}{σ:S}
theorem wX{n i:Nat}{r:V}(hn:n≤100000)(h:(fG ((n:Int)- 1) (-1) (-1))[i]? =some r):i<n∧r= .int ((n- 1- i:Nat):Int):=by
 unfold fG at h
 rw[List.getElem?_map]at h
 refine eW h λj h1=>?_
 have h2:=be h1
 rw[(qd (a:=(n:Int)- 1) (by exact pL) (by exact M1 [_] [] 0x40000000000000000111140062115186a05100110 rfl hn)).2]at h1 h2
 rw[List.length_range]at h2
 rw[List.getElem?_range h2]at h1
 (injection h1 with h1;subst h1)
 have:i<n:=by exact M2 [_,_,_] [] 0x20001111111114206221061161000111 rfl h2 (Int.toNat_of_nonneg (M0 [_] [] 0x111111400622011114 rfl))
 refine⟨this,congrArg V.int ?_⟩
 show (n:Int)- 1+ (i:Int)* -1=_
 exact ae (Int.ofNat_sub (Nat.le_sub_one_of_lt this)) (ae (Int.ofNat_sub (Nat.one_le_of_lt this)) (ae (Int.mul_neg ..) (ae (Int.mul_one _) rfl)))
theorem wY{n:Nat}(h:n≤100000):(fG ((n:Int)- 1) (-1) (-1)).length=n:=by
 unfold fG
 refine ae ((qd (a:=(n:Int)- 1) (by exact pL) (by exact M1 [_] [] 0x40000000000000000111140062115186a05100110 rfl h)).2) ?_;simp
theorem wZ{x:Int}:Builtin.divisionGoesByPylong x (-1)=false:=rfl
structure il where
 (st:ba) (y:aT) (tb kn r w:Addr) (cI:Tm) (H:Hp) (Tb:ai) (N:Nat) (dk:List Int) (aK:S)
structure w0 where
 (W:List bP) (R:List Tm) (kn:List (Int×V)) (L:List Int) (x1 x6 x7 x8 x9 bX cX c8:Option V)
noncomputable abbrev il.l (g:il)(a:w0):Lo:= [some (.val (.ref g.st.o)),a.x1,some (.val (.ref g.tb)),some (.val (.ref g.kn)),some (.val (.ref g.r)),some (.val (.ref g.w)),a.x6,a.x7,a.x8,a.x9,a.bX,a.cX,a.c8]
noncomputable def dw(R:List Tm)(L:List Int):List V:=R.map λu=>(u.aQ (idx L)).V
structure nD(g:il)(a:w0)(σ:S):Prop where
 inv:cU g.Tb g.H g.cI g.N g.dk a.W a.R a.kn a.L
 dm:aY σ g.st g.y g.H
 tab:σ g.tb=some (.dI 42 (gv a.L))
 c9:σ g.kn=some (.dI 52 a.kn)
 res:σ g.r=some (.list 53 (dw a.R a.L))
 work:σ g.w=some (.list 54 (a.W.reverse.map bP.enc))
 kp:Keeps [42,52,53,54,55] g.aK σ
structure tM(c:Cx)(g:il):Prop where
 T:au c
 calm:c.calm=true
 hy:ai.aX g.aK g.y g.Tb
 ok:g.Tb.Ok
 hl:g.H.length≤100000
 bd:g.N≤100000
noncomputable abbrev q9:RS:=cm Bl 3
noncomputable abbrev B8:RS:=cm (dt q9) 4
noncomputable abbrev PM:RS:=.dp 12 (.call (.type "range") (.cons (.bin .Sub (.ax (.loc 0) "width" (.cons (.loc 1) .nil)) (.int 1)) (.cons (.neg (.int 1)) (.cons (.neg (.int 1)) .nil)))) (.seq (.expr (.ax (.loc 5) "append" (.cons (.tup (.cons (.aF (.int 0)) (.cons (.idx (.attr (.loc 0) "heap") (.bin .Add (.loc 11) (.loc 12))) .nil))) .nil))) .nil)
noncomputable def w6(H:Hp)(Tb:ai)(X:List bP)(l:List Tm):Prop:=X.map (·.u)=l∧∀e∈X,e.b=false∧wN Tb H e
theorem PN{lJ:Fm}{E:Value→Shared→Prop}{K:Fl→Lo→S→Prop}{g:il}(T:au c){x6 x7 x8 x9 bX c8:Option V}{f:Nat}{ad:Int}{l:List Tm}{D:List V}
  (hs:aY σ g.st g.y g.H) (hy:ai.aX σ g.y g.Tb) (ok:g.Tb.Ok) (hl:g.H.length≤100000) (wf:(Tm.s f l).Wf g.Tb) (hb:b7 g.H ad f l) (hw:σ g.w=some (.list 54 D)) (hD:D.length+3≤100000)
  (q:∀X c8 af,w6 g.H g.Tb X l→af g.w=some (.list 54 (D++X.reverse.map bP.enc))→Keeps [54] σ af→K .next [some (.val (.ref g.st.o)),some (cV (aN f,ad)),some (.val (.ref g.tb)),some (.val (.ref g.kn)),some (.val (.ref g.r)),some (.val (.ref g.w)),x6,x7,x8,x9,bX,some (.int (ad+bJ f)),c8] af):
  vX c lJ (k+2) PM E [some (.val (.ref g.st.o)),some (cV (aN f,ad)),some (.val (.ref g.tb)),some (.val (.ref g.kn)),some (.val (.ref g.r)),some (.val (.ref g.w)),x6,x7,x8,x9,bX,some (.int (ad+bJ f)),c8] σ K:=by
 refine iw (Tm.bB.mp wf) λob w2 w3 w4 w5=>?_
 refine ob.elim λnm w1=>?_
 kd_p
 refine tK T hs hy ok hl hb.1 w1 (λh=>by refine ae (w2 h) ?_;rfl) ?_
 kd_p
 refine CV.vu (by decide) wZ ?_
 have en:l.length≤100000:=Nat.le_trans w4 (aD rfl)
 have sm:=qd (a:=(l.length:Int)- 1) (by exact pL) (by exact M1 [_] [] 0x4000000000000000011114006211531100110 rfl w4)
 refine V.fS (λ(x:List bP×Option V)=> [some (.val (.ref g.st.o)),some (cV (aN f,ad)),some (.val (.ref g.tb)),some (.val (.ref g.kn)),some (.val (.ref g.r)),some (.val (.ref g.w)),x6,x7,x8,x9,bX,some (.int (ad+bJ f)),x.2])
  _ (λi x af=>w6 g.H g.Tb x.1 (l.drop (l.length- i))∧af g.w=some (.list 54 (D++x.1.reverse.map bP.enc))∧Keeps [54] σ af) _ (bI.c4 sm.1 (by refine ae sm.2 ?_;simp)) ([],_) rfl ⟨⟨by simp,λq_ h=>absurd h List.not_mem_nil⟩,by simpa using hw,.refl⟩ (λq_ q_ q_ q_=>True.intro) (λE i r x af K hr ja nx=>?_) λx af ja=>?_
 ·refine(wX en hr).elim λhi er=>?_
  subst er
  refine cq ja λhx kI hk=>?_
  have bu:=hs.kb hk
  refine ak (hb.2 (l.length- 1- i) _ (List.getElem?_eq_getElem (gO rfl hi))) λc' a1 a2=>?_
  have w7:x.1.length=i:=by have:=congrArg List.length hx.1;rw[List.length_map,List.length_drop]at this;exact Nat.le_antisymm (M3 [_,_,_,_,_] [] 0x4000110203010211240302201101000112 rfl this s2 (Nat.sub_add_cancel (M1 [_,_] [] 0x10001101000110 rfl (Nat.sub_le _ _)))) (M3 [_,_,_,_,_] [] 0x1040110204030211230002201101000113 rfl this s2 (Nat.sub_add_cancel (M1 [_,_] [] 0x10001101000111 rfl hi)))
  kd_p
  refine IX.hp bu a1 hl ?_
  kd_p
  refine CV.append' kI (sl (by (refine ae List.length_append ?_;refine ae (List.length_map ..) ?_;refine ae List.length_reverse ?_);exact M4 [_,_,_,_] [] 0x186a051300021102030112102011131110110186a051311002110 rfl hD w4 hi w7)) λav e3 k3=>?_
  refine nx (⟨false,l[l.length- 1- i]'(gO rfl hi),c'⟩::x.1,_) _ ⟨⟨?_,?_⟩,e3.trans ?_,hk.trans k3⟩
  ·(refine ae List.map_cons ?_;refine ae hx.1 ?_;refine ae (rQ rfl hi) ?_;with_reducible rfl)
  ·exact List.forall_mem_cons.mpr ⟨⟨rfl,w5 _ (List.getElem_mem _),a2⟩,hx.2⟩
  ·(refine ae List.reverse_cons ?_;refine ae List.map_append ?_;refine aU (List.append_assoc ..) ?_);rfl
 ·refine cq ja λh1 h2 h3=>?_
  rw[wY en,Nat.sub_self,List.drop_zero]at h1
  exact q _ _ _ h1 h2 h3
theorem w8(W:List bP):W.length≤mW W:=by
 induction W with
 |nil=>exact Nat.zero_le _
 |cons e W ih=>
  have h:0<e.m:=by unfold bP.m;have:=e.u.gq;split<;> (first|exact M0 [] [] 4580249873 rfl|exact M1 [_] [] 0x21501111100011111 rfl this)
  exact ae fR (Nat.le_trans (Nat.succ_le_succ ih) (Nat.le_trans (Nat.le_of_eq (Nat.one_add (mW W)).symm) (Nat.add_le_add_right h _)))
theorem PO{L:Addr}{A:Around}{stack:List Env}{E:Value→Shared→Prop}{K:Fl→Lo→S→Prop}{g:il}{W:List bP}{R:List Tm}{kn:List (Int×V)}{bc:List Int}{x1 x6 x7 x8 x9 bX cX c8:Option V}{f:Nat}{ad:Int}{l:List Tm}(o:tM c g)
  (j:nD g ⟨⟨true,.s f l,(aN f,ad)⟩::W,R,kn,bc,x1,x6,x7,x8,x9,bX,cX,c8⟩ σ) (dP:b7 g.H ad f l) (wf:(Tm.s f l).Wf g.Tb) (q:∀a' af,mW a'.W<mW (⟨true,.s f l,(aN f,ad)⟩::W)→nD g a' af→K .cont (g.l a') af):
  vX c (qu.fm L A stack) (k+2) (dt q9) E (g.l ⟨⟨true,.s f l,(aN f,ad)⟩::W,R,kn,bc,x1,x6,x7,x8,x9,bX,cX,c8⟩) σ K:=by
 have T:=o.T
 have calm:=o.calm
 have hl:=o.hl
 have dm:=j.dm
 refine ak j.inv.build λR' er PP=>?_
 replace er:R=R'++l:=er
 subst er
 refine iw (Tm.bB.mp wf) λob w2 w3 w4 w5=>?_
 refine ob.elim λnm w1=>?_
 have tN:(dw (R'++l) bc).length=R'.length+l.length:=by rw[dw,List.length_map,List.length_append]
 have hb:(dw (R'++l) bc).length≤100000∧kn.length≤100000∧W.length≤100000:=by
  have bR:=j.inv.bR
  have bK:=j.inv.bK
  have hN:=o.bd
  have ew:=w8 W
  simp only[fR]at bR bK
  (refine ae tN ?_;refine aU List.length_append ?_)
  refine⟨?_,?_,?_⟩<;> (first|exact M2 [_,_,_,_] [] 0x186a051101100030202102110186a05100110 rfl hN bR|exact M2 [_,_,_,_] [] 0x186a051101100030202102110186a05100110 rfl hN bK|exact M3 [_,_,_,_,_] [] 0x186a0511011000204023021102010110186a05100110 rfl hN ew bR)
 have hm:mW W<mW (⟨true,.s f l,(aN f,ad)⟩::W):=by refine ae fR ?_;exact Nat.lt_add_of_pos_left Nat.one_pos
 have PR:=o.hy.kb j.kp
 have work:σ g.w=some (.list 54 (W.reverse.map bP.enc++ [.tup [.int 1,cV (aN f,ad)]])):=by (refine ae j.work ?_;refine ae List.reverse_cons ?_;refine ae List.map_append ?_);rfl
 have res:=j.res
 kd_p
 refine⟨calm,?_⟩
 kd_p
 refine CV.mX work (by (refine ae (List.length_map ..) ?_;refine ae List.length_reverse ?_);exact hb.2.2) λah kJ k1=>?_
 have tO:=dm.kb k1
 have o9:=k1.at res
 kd_p
 refine Br.yes rfl ?_
 kd_p
 refine wR T tO hl dP.1 ?_
 kd_p
 refine CV.lv o9 (sl hb.1) ?_
 kd_p
 refine tK T tO (PR.kb k1) o.ok hl dP.1 w1 (λh=>by refine ae (w2 h) ?_;rfl) ?_
 kd_p
 have B9:V.tup [.str "s",.int (f:Int),.tup ((dw (R'++l) bc).drop R'.length)]= ((Tm.s f l).aQ (idx bc)).V:=by rw[dw,List.map_append,List.drop_left' (by simp),Tm.dE,Tm.cH,List.map_map];rfl
 have B':(dw (R'++l) bc).take R'.length=dw R' bc:=by rw[dw,List.map_append,List.take_left' (by simp)];rfl
 have Ca:V.int (((dw (R'++l) bc).length:Int)- (l.length:Int))=V.int (R'.length:Int):=by refine ae tN ?_;congr 1;simp
 refine EV.sliceFrom 55 (EV.loc (.there (.there (.there (.there .here)))) rfl (EV.loc (.there (.there (.there (.there (.there (.there (.there (.there .here)))))))) rfl (nY _ _ R'.length Ca rfl (.own o9) (by refine ae tN ?_;simp) (sl hb.1) (iO.go λb av q_ e2 k2=>?_))))
 refine CV.mI e2 (sl (by refine ae List.length_drop ?_;exact Nat.le_trans (Nat.sub_le _ _) hb.1)) ?_
 have Cb:=k2.at o9
 kd_p
 refine aS.Ir (EV.loc (.there (.there (.there (.there .here)))) rfl (EV.loc (.there (.there (.there (.there (.there (.there (.there (.there .here)))))))) rfl (rS _ _ _ R'.length Ca rfl Cb (by refine ae tN ?_;simp) (sl hb.1) (iP.go Cb λaW e3 k3=>?_))))
 rw[B']at e3
 have PS:=k3.at (k2.at (k1.at j.c9))
 kd_p
 refine OU.hG (l':=put kn ad ((Tm.s f l).aQ (idx bc)).V) PS (sl hb.2.1) (by (refine aU B9 ?_;with_reducible rfl)) λbn e4 k4=>?_
 have PT:=k4.at e3
 kd_p
 refine CV.append' PT (sl (by (refine aU B' ?_;refine ae List.length_take ?_);exact Nat.le_trans (Nat.min_le_right _ _) hb.1)) λci e5 k5=>?_
 rw[B9]at e5
 have k6:Keeps [42,52,53,54,55] σ ci:=(k1.am rfl).trans ((k2.am rfl).trans ((k3.am rfl).trans ((k4.am rfl).trans (k5.am rfl))))
 exact q ⟨W,R'++ [.s f l],_,bc,_,_,_,_,_,_,_,_⟩ _ hm ⟨PP,dm.kb k6,k5.at (k4.at (k3.at (k2.at (k1.at j.tab)))),k5.at e4,e5.trans (by rw[dw,dw,List.map_append];rfl),k5.at (k4.at (k3.at (k2.at kJ))),j.kp.trans k6⟩
theorem PU{lJ:Fm}{E:Value→Shared→Prop}{K:Fl→Lo→S→Prop}{g:il}{W:List bP}{R:List Tm}{kn:List (Int×V)}{bc:List Int}{x1 x6 x7 x8 x9 bX cX c8:Option V}{u:Tm}{cc d:aE}(o:tM c g)
  (dm:aY σ g.st g.y g.H) (work:σ g.w=some (.list 54 ((⟨false,u,cc⟩::W).reverse.map bP.enc))) (hW:W.length≤100000) (hd:aH g.H cc d)
  (q:∀ah,Keeps [54] σ ah→ah g.w=some (.list 54 (W.reverse.map bP.enc))→vX c lJ (k+2) (bT 4 (dt q9)) E (g.l ⟨W,R,kn,bc,some (cV d),some (.int 0),x7,x8,x9,some (.int d.1),cX,c8⟩) ah K):
  vX c lJ (k+2) (dt q9) E (g.l ⟨⟨false,u,cc⟩::W,R,kn,bc,x1,x6,x7,x8,x9,bX,cX,c8⟩) σ K:=by
 have T:=o.T
 have work:σ g.w=some (.list 54 (W.reverse.map bP.enc++ [.tup [.int 0,cV cc]])):=by (refine ae work ?_;refine ae List.reverse_cons ?_;refine ae List.map_append ?_);rfl
 refine hd.elim λn hd=>?_
 kd_p
 refine⟨o.calm,?_⟩
 kd_p
 refine CV.mX work (by (refine ae (List.length_map ..) ?_;refine ae List.length_reverse ?_);exact hW) λah kJ k1=>?_
 have tO:=dm.kb k1
 kd_p
 refine Br.no (by decide) ?_
 kd_p
 refine fT T tO o.hl hd ?_
 kd_p
 exact q ah k1 kJ
structure io(g:il)(W:List bP)(R:List Tm)(kn:List (Int×V))(L:List Int)(σ:S):Prop where
 dm:aY σ g.st g.y g.H
 tab:σ g.tb=some (.dI 42 (gv L))
 c9:σ g.kn=some (.dI 52 kn)
 res:σ g.r=some (.list 53 (dw R L))
 work:σ g.w=some (.list 54 (W.reverse.map bP.enc))
 kp:Keeps [42,52,53,54,55] g.aK σ
theorem io.to {g W R kn L σ x1 x6 x7 x8 x9 bX cX c8}(s:io g W R kn L σ)(i:cU g.Tb g.H g.cI g.N g.dk W R kn L):nD g ⟨W,R,kn,L,x1,x6,x7,x8,x9,bX,cX,c8⟩ σ:=⟨i,s.dm,s.tab,s.c9,s.res,s.work,s.kp⟩
theorem io.app {g W R kn L σ af u}(s:io g W R kn L σ)(e:af g.r=some (.list 53 (dw R L++ [(u.aQ (idx L)).V])))(k:Keeps [53] σ af):io g W (R++ [u]) kn L af:=
 ⟨s.dm.kb k,k.at s.tab,k.at s.c9,e.trans (by rw[dw,dw,List.map_append];rfl),k.at s.work,s.kp.trans (k.am rfl)⟩
theorem w9{R:List Tm}{L:List Int}{z:Int}(h:∀u∈R,u.bp (· ∈L)):dw R (L++ [z])=dw R L:=List.map_congr_left λu hu=>by (refine ae (BS (h u hu)) ?_;with_reducible rfl)
theorem PV{lJ:Fm}{E:Value→Shared→Prop}{K:Fl→Lo→S→Prop}{g:il}{W:List bP}{R:List Tm}{kn:List (Int×V)}{bc:List Int}{x7 x8 x9 cX c8:Option V}{u:Tm}{d:aE}(T:au c)(hN:R.length≤100000∧bc.length≤100000)
  (s:io g W R kn bc σ) (hd:u.Rep g.H d) (he:aH g.H d d) (hv:∀u∈R,u.bp (· ∈bc)) (hs:∀f l,u≠.s f l)
  (q:∀iJ af,io g W (R++ [u]) kn iJ af→((u.bp (· ∈bc)∧iJ=bc)∨∃z,u= .v z∧z∉bc∧iJ=bc++ [z])→K .next (g.l ⟨W,R++ [u],kn,iJ,some (cV d),some (.int 0),x7,x8,x9,some (.int d.1),cX,c8⟩) af):
  vX c lJ (k+2) B8 E (g.l ⟨W,R,kn,bc,some (cV d),some (.int 0),x7,x8,x9,some (.int d.1),cX,c8⟩) σ K:=by
 have hR:(dw R bc).length≤sizeLine:=sl (by rw[dw,List.length_map];exact hN.1)
 have tab:=s.tab
 have res:=s.res
 cases u with
 |s f l=>exact absurd rfl (hs f l)
 |a m=>
  cases aH.inj he hd
  kd_p
  refine Br.no (show¬(4:Int)=0 by decide) ?_
  kd_p
  refine Br.yes rfl ?_
  kd_p
  exact CV.append' res hR λaf e k'=>q _ _ (s.app e k') (.inl ⟨λq_ h=>h.elim,rfl⟩)
 |i m=>
  cases aH.inj he hd
  kd_p
  refine Br.no (show¬(5:Int)=0 by decide) ?_
  kd_p
  refine Br.no (show¬(5:Int)=4 by decide) ?_
  kd_p
  refine Br.yes rfl ?_
  kd_p
  exact CV.append' res hR λaf e k'=>q _ _ (s.app e k') (.inl ⟨λq_ h=>h.elim,rfl⟩)
 |v z=>
  cases aH.inj he hd
  kd_p
  refine Br.yes rfl ?_
  kd_p
  by_cases hz:z∈bc
  ·refine OV.iQ (b:=true) tab (by (refine ae qW ?_;refine ae (if_pos hz) ?_);rfl) (Br.ff ?_)
   kd_p
   refine IX.I (r:=.int (idx bc z)) tab (by (refine ae qW ?_;refine ae (if_pos hz) ?_;with_reducible rfl)) ?_
   kd_p
   exact CV.append' res hR λaf e k'=>q _ _ (s.app (u:=.v z) e k') (.inl ⟨λy hy=>by refine ae (show y=z from hy) ?_;exact hz,rfl⟩)
  ·have hi:idx (bc++ [z]) z= (bc.length:Int):=by unfold idx;(refine ae List.idxOf_append ?_;refine ae (if_neg hz) ?_);simp
   refine OV.iQ (b:=false) tab (by (refine ae qW ?_;refine ae (if_neg hz) ?_);rfl) (Br.tt ?_)
   kd_p
   refine(jk c).len tab (sl (by refine ae wL ?_;exact hN.2)) ?_
   refine ae wL ?_
   kd_p
   refine OU.hG (l':=gv (bc++ [z])) tab (sl (by refine ae wL ?_;exact hN.2)) ((oL (by (refine ae qW ?_;refine ae (if_neg hz) ?_;with_reducible rfl))).trans OL.symm) λah e1 k1=>?_
   have s1:io g W R kn (bc++ [z]) ah:=⟨s.dm.kb k1,e1,k1.at s.c9,(k1.at res).trans (by (refine ae (w9 hv) ?_;with_reducible rfl)),k1.at s.work,s.kp.trans (k1.am rfl)⟩
   have o9:=s1.res
   rw[w9 hv]at o9
   kd_p
   refine IX.I (r:=.int (bc.length:Int)) e1 (by (refine ae qW ?_;refine ae (if_pos (List.mem_append_right _ (.head _))) ?_;refine ae hi ?_;with_reducible rfl)) ?_
   kd_p
   exact CV.append' o9 hR λaf e k'=>q _ _ (s1.app (u:=.v z) (e.trans (by (refine ae (w9 hv) ?_;refine aU hi ?_);rfl)) k') (.inr ⟨z,rfl,hz,rfl⟩)
theorem OV.isNone {f:Fm}{E:Value→Shared→Prop}{ρ:Lo}{l:List V}{Q:V→S→Prop}(q:Q (.bool false) σ):OV c f E k (bY .Is) [.tup l,.none] ρ σ Q:=λs vs I h=>by
 refine aA.e2 h λq_ q_ h1 h2=>?_
 cases h1
 refine h2.eN ?_
 exact is_ref_none (bh.now I (.bool _) q)
theorem PW{f:Nat}:aN f≠0∧aN f≠1∧aN f≠4∧aN f≠5:=⟨Ne.symm (nc (by decide) (by decide)),Ne.symm (nc (by decide) (by decide)),Ne.symm (nc (by decide) (by decide)),Ne.symm (nc (by decide) (by decide))⟩
theorem PY{lJ:Fm}{E:Value→Shared→Prop}{K:Fl→Lo→S→Prop}{g:il}{W:List bP}{R:List Tm}{kn:List (Int×V)}{bc:List Int}{x7 x8 x9 cX c8:Option V}{f:Nat}{l:List Tm}{a:Int}(o:tM c g)(hR:R.length≤100000)(hW:W.length+10≤100000)(hK:kn.length≤100000)
  (s:io g W R kn bc σ) (wf:(Tm.s f l).Wf g.Tb) (hb:b7 g.H a f l)
  (hk:∀r,look kn a=some r→r= ((Tm.s f l).aQ (idx bc)).V)
  (q1:∀x9 af r,look kn a=some r→io g W (R++ [.s f l]) kn bc af→K .next (g.l ⟨W,R++ [.s f l],kn,bc,some (cV (aN f,a)),some (.int 0),x7,x8,x9,some (.int (aN f)),cX,c8⟩) af)
  (q2:∀X cX c8 af,look kn a=none→w6 g.H g.Tb X l→io g (X++⟨true,.s f l,(aN f,a)⟩::W) R (put kn a .none) bc af→K .next (g.l ⟨X++⟨true,.s f l,(aN f,a)⟩::W,R,put kn a .none,bc,some (cV (aN f,a)),some (.int 0),x7,x8,x9,some (.int (aN f)),cX,c8⟩) af):
  vX c lJ (k+2) B8 E (g.l ⟨W,R,kn,bc,some (cV (aN f,a)),some (.int 0),x7,x8,x9,some (.int (aN f)),cX,c8⟩) σ K:=by
 have T:=o.T
 have ht:=PW (f:=f)
 have res:=s.res
 have c9:=s.c9
 have work:=s.work
 have dm:=s.dm
 kd_p
 refine Br.no ht.1 ?_
 kd_p
 refine Br.no ht.2.2.1 ?_
 kd_p
 refine Br.no ht.2.2.2 ?_
 kd_p
 cases pf:look kn a with
 |some r=>
  have er:=hk r pf
  rw[Tm.dE,Tm.cH]at er
  subst er
  refine OV.oF (b:=true) c9 (by refine ae pf ?_;rfl) (Br.tt ?_)
  kd_p
  refine IX.I c9 pf ?_
  kd_p
  refine OV.isNone (Br.ff ?_)
  kd_p
  exact CV.append' res (sl (by rw[dw,List.length_map];exact hR)) λaf e k'=>q1 _ _ _ pf (s.app (u:=.s f l) (e.trans (by (refine ae Tm.dE ?_;refine ae Tm.cH ?_;with_reducible rfl))) k')
 |none=>
  refine OV.oF (b:=false) c9 (by refine ae pf ?_;rfl) (Br.ff ?_)
  kd_p
  refine OU.hG (l':=put kn a .none) c9 (sl hK) rfl λah e1 k1=>?_
  have PZ:=k1.at work
  kd_p
  refine CV.append' PZ (sl (by (refine ae (List.length_map ..) ?_;refine ae List.length_reverse ?_);exact Nat.le_trans (Nat.le_add_right _ _) hW)) λav e2 k2=>?_
  have dg:Keeps [42,52,53,54,55] σ av:=(k1.am rfl).trans (k2.am rfl)
  have Cc:=dm.kb dg
  kd_p
  refine o5 T ?_
  refine PN T Cc (o.hy.kb (s.kp.trans dg)) o.ok o.hl wf hb e2 (by simp only[List.length_append,List.length_map,List.length_reverse,List.length_singleton];exact M1 [_] [] 0x186a0513111110022110186a051a11002110 rfl hW) λX c8 aW hX e3 k3=>?_
  refine q2 X _ _ aW pf hX ⟨Cc.kb k3,k3.at (k2.at (k1.at s.tab)),k3.at (k2.at e1),k3.at (k2.at (k1.at res)),?_,s.kp.trans (dg.trans (k3.am rfl))⟩
  (refine ae e3 ?_;refine ae List.reverse_append ?_;refine ae List.map_append ?_;refine ae List.reverse_cons ?_;refine ae List.map_append ?_);rfl
theorem Qa{L:Addr}{A:Around}{stack:List Env}{E:Value→Shared→Prop}{g:il}{K:Fl→Lo→S→Prop}{a:w0}(o:tM c g)(hN:g.N+10≤100000)(j:nD g a σ)(hW:a.W≠ [])(q:∀a' af,mW a'.W<mW a.W→nD g a' af→K .next (g.l a') af∧K .cont (g.l a') af):
  vX c (qu.fm L A stack) (k+2) (dt q9) E (g.l a) σ K:=by
 obtain ⟨W,R,kn,bc,x1,x6,x7,x8,x9,bX,cX,c8⟩:=a
 cases W with
 |nil=>exact absurd rfl hW
 |cons e W=>
  obtain ⟨b,u,cc⟩:=e
  have inv:=j.inv
  cases b with
  |true=>
   refine(inv.ok _ (.head _)).elim λwf h=>?_
   rw[if_pos rfl]at h
   refine f7 h λf l a e1 e2 dP=>?_
   simp only at e1 e2
   subst e1 e2
   exact PO o j dP wf λa' af h1 h2=>(q a' af h1 h2).2
  |false=>
   refine(inv.ok _ (.head _)).elim λwf rep=>?_
   simp only[Bool.false_eq_true,if_false]at wf rep
   have ew:=w8 W
   have hm:mW W<mW (⟨false,u,cc⟩::W):=by refine ae fR ?_;have:0<bP.m ⟨false,u,cc⟩:=by {have:=u.gq;simp only[bP.m];simp;assumption};exact M1 [_,_] [] 0x100021011100011111 rfl this
   have hb:W.length+10≤100000∧R.length≤100000∧kn.length≤100000∧bc.length≤100000:=by
    have hK:kn.length+mW (⟨false,u,cc⟩::W)≤g.N:=inv.bK
    have hR:R.length+mW (⟨false,u,cc⟩::W)≤g.N:=inv.bR
    have hL:bc.length+mW (⟨false,u,cc⟩::W)≤g.N:=inv.bL
    refine⟨?_,?_,?_,?_⟩<;> (first|exact M4 [_,_,_,_,_] [] 0x186a051a11102110003040211030201112010110186a051a11002110 rfl hN ew hm hK|exact M2 [_,_,_] [] 0x186a051101100020102110186a051a11002110 rfl hN hR|exact M2 [_,_,_] [] 0x186a051101100020102110186a051a11002110 rfl hN hK|exact M2 [_,_,_] [] 0x186a051101100020102110186a051a11002110 rfl hN hL)
   refine ak rep.fP λd hd ra=>?_
   refine PU o j.dm j.work (Nat.le_trans (Nat.le_add_right _ _) hb.1) hd λah k1 kJ=>?_
   have s:io g W R kn bc ah:=⟨j.dm.kb k1,k1.at j.tab,k1.at j.c9,k1.at j.res,kJ,j.kp.trans (k1.am rfl)⟩
   by_cases hs:∃f l,u= .s f l
   ·refine jO hs λf l er=>?_
    subst er
    refine ak (Tm.dO.mp rep) λa h1 dP=>?_
    cases aH.inj hd h1
    refine PY o hb.2.1 hb.1 hb.2.2.1 s wf dP (λr hr=>(inv.known hd hr).1) (λx9 af r hr s'=>?_) λX cX c8 af hk hX s'=>?_
    ·exact(q ⟨_,_,_,_,_,_,_,_,_,_,_,_⟩ _ hm (s'.to (inv.known hd hr).2)).1
    ·have:=inv.new hd hk hX.2 hX.1
     exact(q ⟨_,_,_,_,_,_,_,_,_,_,_,_⟩ _ this.2 (s'.to this.1)).1
   ·refine PV o.T ⟨hb.2.1,hb.2.2.2⟩ s ra hd.end_ inv.rv (λf l e=>hs ⟨f,l,e⟩) λiJ af s' h=>?_
    refine Or.elim h (λQb=>?_) λQc=>?_
    obtain ⟨hv,rfl⟩:=Qb
    rotate_left
    obtain ⟨z,rfl,hz,rfl⟩:=Qc
    rotate_right
    ·exact(q ⟨_,_,_,_,_,_,_,_,_,_,_,_⟩ _ hm (s'.to (inv.leaf hv))).1
    ·exact(q ⟨_,_,_,_,_,_,_,_,_,_,_,_⟩ _ hm (s'.to (inv.var hz))).1
theorem Br.pos {n:Nat}{A B:Prop}(h1:0<n→A)(h2:n=0→B):Br (decide ((0:Int)< (n:Int))) A B:=Br.dec (λh=>h1 (by exact M1 [_] [] 0x11111006011115 rfl h)) λh=>h2 (by exact Nat.le_antisymm (M1 [_] [] 0x1100110011006114 rfl (Int.not_lt.mp h)) (M0 [_] [] 69904 rfl))
noncomputable def Qd(u:Tm)(tb:Addr)(L:List Int)(N:Nat)(σ:S)(r:V)(af:S):Prop:=
 ∃L',r= (u.aQ (idx L')).V∧af tb=some (.dI 42 (gv L'))∧L <+:L'∧L'.Nodup∧u.bp (· ∈L')∧L'.length≤N∧Keeps [42,52,53,54,55] σ af
theorem Cd(T:au c)(calm:c.calm=true){st y Tb H L tb u cc N}(h:aY σ st y H)(hy:ai.aX σ y Tb)(ok:Tb.Ok)(hl:H.length≤100000)(wf:u.Wf Tb)(rep:u.Rep H cc)(ht:σ tb=some (.dI 42 (gv L)))(nd:L.Nodup)
  (hN:L.length+2*u.sz≤N) (xn:N+10≤100000):CV c (k+3) (.ref 447) [.val (.ref st.o),cV cc,.val (.ref tb)] σ (Qd u tb L N σ):=by
 refine gW Mp T rfl λL' A stack E=>?_
 refine ak rep.fP λd hd ra=>?_
 have inv:=cU.start wf ra nd hN
 kd_p
 refine cW.go (.dI 52 []) (.inl rfl) λkn ah q_ e1 k1=>?_
 kd_p
 refine aZ.go 53 λr av q_ e2 k2=>?_
 have s2:=(h.kb k1).kb k2
 kd_p
 refine B1 T s2 hl hd ?_
 kd_p
 refine aZ.go 54 λw aW q_ e3 k3=>?_
 have j:nD ⟨st,y,tb,kn,r,w,u,H,Tb,N,L,σ⟩ ⟨[⟨false,u,d⟩], [], [],L,some (cV cc),none,none,none,none,none,none,none⟩ aW:=⟨inv,s2.kb k3,k3.at (k2.at (k1.at ht)),k3.at (k2.at e1),k3.at e2,e3,(k1.am rfl).trans ((k2.am rfl).trans (k3.am rfl))⟩
 refine V.oZ (il.l ⟨st,y,tb,kn,r,w,u,H,Tb,N,L,σ⟩) (λa=>mW a.W) (nD ⟨st,y,tb,kn,r,w,u,H,Tb,N,L,σ⟩) _ rfl j λE a af K j' nx q_=>?_
 have ew:=w8 a.W
 have hK:=j'.inv.bK
 kd_p
 refine CV.lv j'.work (sl (by (refine ae (List.length_map ..) ?_;refine ae List.length_reverse ?_);simp only at hK;exact M3 [_,_,_,_] [] 0x186a0511011000203021102010110186a051a11002110 rfl xn ew hK)) ?_
 (refine ae (List.length_map ..) ?_;refine ae List.length_reverse ?_)
 refine Br.pos (λhW=>Qa ⟨T,calm,hy,ok,hl,Nat.le_trans (Nat.le_add_right _ _) xn⟩ xn j' (List.length_pos_iff.mp hW) nx) λhW=>?_
 have hr:=j'.inv.res
 have res:=j'.res
 have hv:=j'.inv.rv
 rw[List.length_eq_zero_iff.mp hW]at hr
 rw[show a.R= [u] from hr]at res hv
 kd_p
 refine IX.L res (by decide) (by decide) rfl ?_
 exact aq.go ⟨a.L,rfl,j'.tab,j'.inv.pre,j'.inv.nd,hv u (.head _),Nat.le_trans (Nat.le_add_right _ _) j'.inv.bL,j'.kp⟩
end
end
noncomputable section
open Classical
noncomputable section
variable {c:Cx}{k:Nat}{σ:S}
structure ip(σ:S)(ps:Addr)(sp:Int)(P:Int→Bool)(n:Nat):Prop where
 ex:∃d m,σ ps=some (.inst 61 476 d)∧σ d=some (.bb 62 ["span","met"] [.int sp,.val (.ref m)])∧σ m=some (.sI 63 P n)
theorem ip.keep {X:List Nat}(h:ip σ ps sp P n)(q:Keeps X σ af)(hX:(X.elem 61||X.elem 62||X.elem 63)=false:=by rfl):ip af ps sp P n:=by
 rw[Bool.or_eq_false_iff,Bool.or_eq_false_iff]at hX
 refine eX h.ex λd m h1 h2 h3=>?_
 exact⟨d,m,q.at h1 hX.1.1,q.at h2 hX.1.2,q.at h3 hX.2⟩
theorem xq{st:ba}{H:Hp}(T:au c)(h:aY σ st y H)(hl:H.length≤100000)(q:∀ps af,ip af ps (de H) (λq_=>false) 0→Keeps [62] σ af→Q (.val (.ref ps)) af):CV c (k+2) (.ref 476) [.val (.ref st.o)] σ Q:=by
 refine CV.make 61 62 (sR T (fI:=466) (List.contains_iff_mem.mp rfl) (List.contains_iff_mem.mp rfl)) λx d hx hd hn=>?_
 have k0:Keeps [] σ (upd (upd σ d (.bb 62 [] [])) x (.inst 61 476 d)):=(Keeps.new hd).trans (Keeps.new (by exact ae (cC hn) hx))
 have e1:upd (upd σ d (.bb 62 [] [])) x (.inst 61 476 d) d=some (.bb 62 [] []):=(cC λe=>hn e.symm).trans c5
 have e0:upd (upd σ d (.bb 62 [] [])) x (.inst 61 476 d) x=some (.inst 61 476 d):=c5
 generalize upd (upd σ d (.bb 62 [] [])) x (.inst 61 476 d)=aK at k0 e0 e1
 refine gG Mr T rfl λf E=>?_
 have h0:=h.keep k0 (λq_ h=>absurd h List.not_mem_nil)
 kd_p
 refine CV.iR h0.hp hl ?_
 kd_p
 refine SA.go T e0 e1 rfl λah e2 k1=>?_
 have e3:=k1.at e0
 kd_p
 refine CV.wj 63 λm av q_ e4 k2=>?_
 kd_p
 refine SA.go T (k2.at e3) (k2.at e2) rfl λaW e5 k3=>?_
 have kx:Keeps [62] aK aW:=(k1.am rfl).trans ((k2.am rfl).trans (k3.am rfl))
 exact⟨aW,.refl _,rfl,q x aW ⟨d,m,kx.at e0,e5,k3.at e4⟩ ((k0.am rfl).trans kx)⟩
theorem Ce{l r:aE}(T:au c)(h:ip σ ps sp P n)(hs:IntMulOk l.2 sp)(hn:n+1<4096)(q0:P (l.2*sp+r.2)=true→Q (.bool false) σ)
  (q1:P (l.2*sp+r.2)=false→∀af m,m≤n+1→ip af ps sp (λy=>P y||decide (y=l.2*sp+r.2)) m→Keeps [63] σ af→Q (.bool true) af):CV c (k+1) (.ref 473) [.val (.ref ps),cV l,cV r] σ Q:=by
 refine gV Mt T rfl λf E=>?_
 refine eX h.ex λd m h1 h2 h3=>?_
 kd_p
 refine OV.mul hs ?_
 kd_p
 refine OV.inSet h3 ?_
 cases hP:P (l.2*sp+r.2) with
 |true=>
  refine Br.tt (aq.go (q0 hP))
 |false=>
  refine Br.ff ?_
  kd_p
  refine CV.setAdd' h3 hn rfl λm' hm af e1 k1=>?_
  exact aq.go (q1 hP af m' hm ⟨d,m,k1.at h1,k1.at h2,e1⟩ k1)
theorem Cf{st:ba}{H:Hp}{Tb:ai}{D:List V}(T:au c)(hs:aY σ st y H)(hy:ai.aX σ y Tb)(ok:Tb.Ok)(hl:H.length≤100000)
  (wl:(Tm.s g l).Wf Tb) (wm:(Tm.s g m).Wf Tb) (bl:b7 H a g l) (bm:b7 H b g m) (hw:σ w=some (.list t D)) (ht:13<t) (hD:D.length+3≤100000)
  (q:∀X af,nj Tb H l m X→af w=some (.list t (D++X.reverse.map PE.enc))→Keeps [t] σ af→Q .none af):
  CV c (k+3) (.ref 494) [.val (.ref st.o),cV (aN g,a),cV (aN g,b),.val (.ref w)] σ Q:=by
 refine gV Mv T rfl λf E=>?_
 have pi:=Tm.bB.mp wl
 have Cg:=Tm.bB.mp wm
 obtain ⟨nm,w1⟩:=pi.1
 have bU:m.length=l.length:=by
  obtain ⟨mQ,w2⟩:=Cg.1
  rw[w1]at w2
  simp only[Option.some.injEq,Prod.mk.injEq]at w2
  exact Nat.le_antisymm (M1 [_,_] [] 0x1000110106006117 rfl w2.2) (M1 [_,_] [] 0x1000110106006116 rfl w2.2)
 have V0:l.length≤3:=pi.2.2.2.1
 kd_p
 refine o5 T ?_
 kd_p
 refine o5 T ?_
 kd_p
 refine tK T hs hy ok hl bl.1 w1 (λh=>by exact ae (pi.2.1 h) rfl) ?_
 kd_p
 refine CV.vu (by decide) wZ ?_
 have sm:=qd (a:=(l.length:Int)- 1) (by exact pL) (by exact M1 [_] [] 0x4000000000000000011114006211531100110 rfl pi.2.2.2.1)
 have en:=wY (n:=l.length) (by exact Nat.le_trans (by assumption) (aD rfl))
 refine V.fS (λ(x:List PE×Option V)=> [some (.val (.ref st.o)),some (cV (aN g,a)),some (cV (aN g,b)),some (.val (.ref w)),some (.int (a+bJ g)),some (.int (b+bJ g)),x.2]) _
  (λi x af=>nj Tb H (l.drop (l.length- i)) (m.drop (l.length- i)) x.1∧af w=some (.list t (D++x.1.reverse.map PE.enc))∧Keeps [t] σ af) _ (bI.c4 sm.1 (by refine ae sm.2 ?_;simp)) ([],none) rfl
  ⟨⟨by simp,by refine ae (Nat.sub_zero ..) (aU bU ?_);simp,λq_ h=>absurd h List.not_mem_nil⟩,by simpa using hw,.refl⟩ (λq_ q_ q_ q_=>True.intro) (λE i r x af K hr ja nx=>?_) λx af ja=>?_
 ·obtain ⟨hi,rfl⟩:=wX (by exact Nat.le_trans (by assumption) (aD rfl)) hr
  refine cq ja λe0 kI hk=>?_
  have bu:=hs.keep hk (by simpa using .inr ht)
  refine ak (bl.2 (l.length- 1- i) _ (List.getElem?_eq_getElem (gO rfl hi))) λc1 a1 a2=>?_
  refine ak (bm.2 (l.length- 1- i) _ (List.getElem?_eq_getElem (gO bU hi))) λc2 b1 b2=>?_
  have w7:x.1.length=i:=by have:=congrArg List.length e0.ts;rw[List.length_map,List.length_drop]at this;exact Nat.le_antisymm (M3 [_,_,_,_,_] [] 0x4000110203010211240302201101000112 rfl this s2 (Nat.sub_add_cancel (M1 [_,_] [] 0x10001101000110 rfl (Nat.sub_le _ _)))) (M3 [_,_,_,_,_] [] 0x1040110204030211230002201101000113 rfl this s2 (Nat.sub_add_cancel (M1 [_,_] [] 0x10001101000111 rfl hi)))
  kd_p
  refine IX.hp bu a1 hl ?_
  kd_p
  refine IX.hp bu b1 hl ?_
  kd_in
  refine CV.append' kI (sl (by refine ae List.length_append (ae (List.length_map ..) (ae List.length_reverse ?_));exact M4 [_,_,_,_] [] 0x186a051300021102030112102011131110110186a051311002110 rfl hD pi.2.2.2.1 hi w7)) λav e3 k3=>?_
  refine nx (⟨l[l.length- 1- i]'(gO rfl hi),m[l.length- 1- i]'(gO bU hi),c1,c2⟩::x.1,_) _ ⟨⟨?_,?_,?_⟩,e3.trans ?_,hk.trans k3⟩
  ·exact ae List.map_cons (ae e0.ts (ae (rQ rfl hi) rfl))
  ·exact ae List.map_cons (ae e0.us (ae (rQ bU hi) rfl))
  ·intro e he
   refine bO he ?_ λhe=>?_
   ·exact⟨pi.2.2.2.2 _ (List.getElem_mem _),Cg.2.2.2.2 _ (List.getElem_mem _),a2,b2⟩
   ·exact e0.ok e he
  ·refine ae List.reverse_cons (ae List.map_append (aU (List.append_assoc ..) ?_));rfl
 ·refine cq ja λe0 h2 h3=>?_
  rw[en,Nat.sub_self,List.drop_zero,List.drop_zero]at e0
  exact aq.nx (q _ _ e0 h2 h3)
end
end
noncomputable section
open Classical
noncomputable section
variable {c:Cx}{k:Nat}{σ:S}
theorem xr(T:au c)(q:Q (.int (bM a b)) σ):CV c (k+1) (.ref 543) [.int a,.int b] σ Q:=by
 refine gV Bm T rfl λf E=>?_
 refine Br.dec (λh=>aq.go (qO h▸q)) λh=>?_
 refine Br.dec (λh2=>aq.go (qP h2▸q)) λh2=>?_
 have e:bM a b=0:=if_pos (Int.le_antisymm (Int.not_lt.mp h2) (Int.not_lt.mp h))
 exact aq.go (e▸q)
theorem Ch(T:au c)(q:Q (.int (cK a b)) σ):CV c (k+1) (.ref 543) [.str a,.str b] σ Q:=by
 refine gV Bm T rfl λf E=>?_
 have hn:=wG a b
 unfold cK at q hn
 refine Br.dec (λh=>?_) λh=>?_
 ·have h0:a≠b:=λe=>by subst e;exact List.lt_irrefl _ h
  rw[if_neg h0,if_pos h]at q
  exact aq.go q
 ·kd_p
  refine Br.dec (λh2=>?_) λh2=>?_
  ·have h0:a≠b:=λe=>by subst e;exact List.lt_irrefl _ h2
   rw[if_neg h0,if_neg h]at q
   exact aq.go q
  ·have h0:a=b:=BD (List.le_antisymm (List.not_lt.mp h2) (List.not_lt.mp h))
   rw[if_pos h0]at q
   exact aq.go q
noncomputable def rk(t:Int):Int:=if t=5 then 1 else if t=4 then 2 else if t=2∨t=3 then 3 else 0
theorem Ci{x:aE}(T:au c)(q:Q (.int (rk x.1)) σ):CV c (k+1) (.ref 536) [cV x] σ Q:=by
 refine gV MI T rfl λf E=>?_
 unfold rk at q
 kd_p
 refine Br.dec (λh=>?_) λh=>?_
 ·rw[if_pos h]at q;exact aq.go q
 ·rw[if_neg h]at q
  refine Br.dec (λh=>?_) λh=>?_
  ·rw[if_pos h]at q;exact aq.go q
  ·rw[if_neg h]at q
   refine Br.dec (λh=>?_) λh=>?_
   ·rw[if_pos (.inl h)]at q;exact Br.tt (aq.go q)
   ·refine Br.dec (λh2=>?_) λh2=>?_
    ·rw[if_pos (.inr h2)]at q;exact aq.go q
    ·rw[if_neg (λz=>z.elim h h2)]at q;exact aq.go q
noncomputable def gy(H:Hp)(d:aE):Tm→Prop
 |.v n=>d= (0,n)
 |.a n=>d= (4,(n:Int))
 |.i z=>d= (5,z)
 |.s f l=>∃a,d= (aN f,a)∧b7 H a f l
theorem nE{t:Tm}(h:t.Rep H d)(e:aH H d d):gy H d t:=by
 cases t with
 |v n=>exact aH.inj e h
 |a n=>exact aH.inj e h
 |i n=>exact aH.inj e h
 |s f l=>
  refine ak (Tm.dO.mp h) λa h1 h2=>?_
  exact⟨a,aH.inj e h1,h2⟩
theorem gy.rk {t:Tm}{d:aE}(h:gy H d t):rk d.1=t.rank∧ek d= (t.rank==3):=by
 cases t with
 |s f l=>(refine ak h λa ky q_=>?_;subst ky);by_cases h0:f=0<;>simp[aN,h0,Mine.rk,Tm.rank,ek]
 |_=>subst h;exact⟨rfl,rfl⟩
noncomputable def eM(Tb:ai):Tm→Tm→Int
 |.v _,.v _=>0
 |.i a,.i b=>bM a b
 |.a a,.a b=>cK (Tb.txt a) (Tb.txt b)
 |.s f _,.s g _=>Tb.cQ f g
 |t,u=>bM t.rank u.rank
noncomputable def low(Tb:ai):Tm→Tm→Int
 |.s _ l,.s _ m=>first (List.zipWith (Tm.cmp Tb) l m)
 |_,_=>0
theorem xt{t u:Tm}(h:t.rank≠u.rank):eM Tb t u=bM t.rank u.rank:=by
 cases t<;>cases u<;>first|rfl|exact absurd rfl h
theorem xu{t u:Tm}(hv:∀n m,t= .v n→u= .v m→n=m):t.cmp Tb u=if eM Tb t u=0 then low Tb t u else eM Tb t u:=by
 by_cases h:t.rank=u.rank
 ·cases t with
  |v n=>
   cases u with
   |v m=>cases hv n m rfl rfl;exact ae (Tm.cmp_self ..) rfl
   |_=>exact nomatch h
  |i n=>
   cases u with
   |i m=>show bM n m=if bM n m=0 then 0 else bM n m;split<;>simp_all
   |_=>exact nomatch h
  |a n=>
   cases u with
   |a m=>show cK _ _=if cK (Tb.txt n) (Tb.txt m)=0 then 0 else cK (Tb.txt n) (Tb.txt m);split<;>simp_all
   |_=>exact nomatch h
  |s f l=>
   cases u with
   |s g m=>exact Tm.ib
   |_=>exact nomatch h
 ·have h2:bM t.rank u.rank≠0:=λz=>h (ft.mp z)
  exact ae (xt h) (ae (if_neg h2) (ae (Tm.iT h) rfl))
theorem fU{Tb:ai}(h:n<Tb.tx.length):Tb.tx[n]? =some (Tb.txt n):=by
 unfold ai.txt;refine ae (List.getD_eq_getElem?_getD) (ae (List.getElem?_eq_getElem h) ?_);rfl
theorem lK{Tb:ai}(ok:Tb.Ok)(h:Tb.fs[f]? =some (nm,ar)):Tb.nm f=nm∧Tb.ar f=ar∧∃i:Nat,nm= (i:Int)∧i<Tb.tx.length:=by
 unfold ai.nm ai.ar
 refine ae (List.getD_eq_getElem?_getD) (ae h ?_)
 refine cq (ok.fs _ (List.mem_of_getElem? h)) λh1 h2 q_=>?_
 exact⟨rfl,rfl,nm.toNat,by simp only at h1;exact Int.le_antisymm (M1 [_] [_] 0x60011400600117 rfl (Int.toNat_of_nonneg (M1 [] [_] 0x1111400011114 rfl h1))) (M1 [_] [_] 0x611400006116 rfl (Int.toNat_of_nonneg (M1 [] [_] 0x1111400011114 rfl h1))),by simp only at h1 h2;exact tn (by assumption) (by assumption)⟩
theorem Qe{st:ba}{H:Hp}{Tb:ai}(T:au c)(hs:aY σ st y H)(hy:ai.aX σ y Tb)(ok:Tb.Ok)(hl:H.length≤100000)
  (wl:(Tm.s f l).Wf Tb) (wm:(Tm.s g m).Wf Tb) (bl:b7 H a f l) (bm:b7 H b g m) (q:Q (.int (Tb.cQ f g)) σ):CV c (k+2) (.ref 550) [.val (.ref st.o),cV (aN f,a),cV (aN g,b)] σ Q:=by
 refine gV ML T rfl λfr E=>?_
 obtain ⟨nm,w1⟩:=(Tm.bB.mp wl).1
 obtain ⟨mQ,w2⟩:=(Tm.bB.mp wm).1
 refine kZ (lK ok w1) λe1 e2 i e3 hi=>?_
 refine kZ (lK ok w2) λe4 e5 j e6 hj=>?_
 have h5:Tb.fs.length≤5000:=by have:=ok.oM;exact Nat.le_trans (by assumption) (aD rfl)
 have h6:Tb.tx.length≤5000:=by have:=ok.jy;exact Nat.le_trans (by assumption) (aD rfl)
 kd_p
 refine wR T hs hl bl.1 ?_
 kd_p
 refine wR T hs hl bm.1 ?_
 refine Br.dec (λh=>?_) λh=>?_
 ·have h:f=g:=by exact Int.ofNat.inj (by assumption)
  subst h
  rw[(ok.m8 (be w1) (be w1)).mpr rfl]at q
  exact aq.go q
 ·unfold ai.cQ at q
  rw[e2,e5,e1,e4,e3,e6,Int.toNat_natCast,Int.toNat_natCast]at q
  kd_p
  refine o4 T hy w1 h5 ?_
  kd_p
  refine o4 T hy w2 h5 ?_
  kd_in
  refine xr T ?_
  refine Br.dec (λh=>?_) λh=>?_
  ·rw[if_neg λz=>h (ft.mpr z)]at q
   exact aq.go q
  ·rw[if_pos (ft.mp (Classical.not_not.mp h))]at q
   kd_p
   refine o0 T hy w1 h5 ?_
   refine ae e3 ?_
   kd_in
   refine ij T hy (fU hi) h6 ?_
   kd_p
   refine o0 T hy w2 h5 ?_
   refine ae e6 ?_
   kd_in
   refine ij T hy (fU hj) h6 ?_
   kd_in
   exact Ch T (aq.go q)
theorem Qg{st:ba}{H:Hp}{Tb:ai}{t u:Tm}(T:au c)(hs:aY σ st y H)(hy:ai.aX σ y Tb)(ok:Tb.Ok)(hl:H.length≤100000)
  (wt:t.Wf Tb) (wu:u.Wf Tb) (ht:gy H d t) (hu:gy H e u) (hv:∀n m,t= .v n→u= .v m→False) (q:Q (.int (eM Tb t u)) σ):CV c (k+3) (.ref 557) [.val (.ref st.o),cV d,cV e] σ Q:=by
 refine gV MN T rfl λf E=>?_
 have h6:Tb.tx.length≤5000:=by have:=ok.jy;exact Nat.le_trans (by assumption) (aD rfl)
 kd_in
 refine Ci T ?_
 refine ae ht.rk.1 ?_
 kd_in
 refine Ci T ?_
 refine ae hu.rk.1 ?_
 kd_in
 refine xr T ?_
 refine Br.dec (λh=>?_) λh=>?_
 ·rw[xt λz=>h (ft.mpr z)]at q
  exact aq.go q
 ·have hr:t.rank=u.rank:=ft.mp (Classical.not_not.mp h)
  clear h
  cases t with
  |v n=>
   cases u with
   |v m=>exact(hv n m rfl rfl).elim
   |_=>exact nomatch hr
  |i n=>
   cases u with
   |i m=>
    subst ht;subst hu
    refine Br.no (show¬(1:Int)=0 by decide) (Br.yes (show (1:Int)=1 from rfl) ?_)
    kd_p
    exact xr T (aq.go q)
   |_=>exact nomatch hr
  |a n=>
   cases u with
   |a m=>
    subst ht;subst hu
    refine Br.no (show¬(2:Int)=0 by decide) (Br.no (show¬(2:Int)=1 by decide) (Br.yes (show (2:Int)=2 from rfl) ?_))
    kd_p
    refine ij T hy (fU wt) h6 ?_
    kd_p
    refine ij T hy (fU wu) h6 ?_
    kd_in
    exact Ch T (aq.go q)
   |_=>exact nomatch hr
  |s f l=>
   cases u with
   |s g m=>
    refine ak ht λa nF b1=>?_
    subst nF
    refine ak hu λb Qh b2=>?_
    subst Qh
    refine Br.no (show¬(3:Int)=0 by decide) (Br.no (show¬(3:Int)=1 by decide) (Br.no (show¬(3:Int)=2 by decide) ?_))
    kd_in
    exact Qe T hs hy ok hl wt wu b1 b2 (aq.go q)
   |_=>exact nomatch hr
end
end
noncomputable section
open Classical
noncomputable section
variable {c:Cx}{k:Nat}{σ:S}
structure nG where
 (st:ba) (y:aT) (ps w:Addr) (H:Hp) (Tb:ai) (x0 r:Int) (N:Nat) (aK:S) (o1 o2:Option V)
structure Cj where
 (W:List PE) (P:Int→Bool) (n:Nat) (x5 x6 x7:Option V)
noncomputable abbrev nG.l (g:nG)(a:Cj):Lo:= [some (.val (.ref g.st.o)),g.o1,g.o2,some (.val (.ref g.ps)),some (.val (.ref g.w)),a.x5,a.x6,a.x7]
structure tP(g:nG)(a:Cj)(σ:S):Prop where
 ok:∀e∈a.W,jD g.Tb g.H e∧e.t.bp (· =g.x0)∧e.u.bp (· =g.x0)
 met:iU g.Tb g.H a.W a.P
 val:iV g.Tb a.W=g.r
 bd:a.n+mP a.W≤g.N
 ms:ip σ g.ps (de g.H) a.P a.n
 work:σ g.w=some (.list 64 (a.W.reverse.map PE.enc))
 kp:Keeps [62,63,64] g.aK σ
structure xv(c:Cx)(g:nG):Prop where
 T:au c
 calm:c.calm=true
 hs:aY g.aK g.st g.y g.H
 hy:ai.aX g.aK g.y g.Tb
 ok:g.Tb.Ok
 hl:g.H.length≤100000
 hN:g.N≤4000
theorem Qi{Tb:ai}{t u:Tm}(wt:t.Wf Tb)(wu:u.Wf Tb)(ok:Tb.Ok)(hv:∀n m,t= .v n→u= .v m→n=m)(h:eM Tb t u=0)(hl:low Tb t u=0):t=u:=by
 refine(Tm.tB ok t wt wu).mp ?_
 exact ae (xu hv) (ae (if_pos h) (ae hl rfl))
theorem rb{x:Int}{t u:Tm}(ht:t.bp (· =x))(hu:u.bp (· =x)):∀n m,t= .v n→u= .v m→n=m:=λn m h1 h2=>by
 subst h1;subst h2
 exact(ht n rfl).trans (hu m rfl).symm
theorem Qj{Tb:ai}{t u:Tm}(h:t.rank≠3):low Tb t u=0:=by
 cases t<;>first|rfl|exact absurd rfl h
theorem Qk{Tb:ai}{f:Nat}{l:List Tm}{u:Tm}(h:eM Tb (.s f l) u=0):∃g m,u= .s g m:=by
 cases u with
 |s g m=>exact⟨g,m,rfl⟩
 |v=>exact absurd h (by decide:bM 3 0≠0)
 |a=>exact absurd h (by decide:bM 3 2≠0)
 |i=>exact absurd h (by decide:bM 3 1≠0)
theorem Ql{f:Fm}{E:Value→Shared→Prop}{K:Fl→Lo→S→Prop}{g:nG}{W:List PE}{P:Int→Bool}{n:Nat}{h:Nat}{l m:List Tm}{a b:Int}{e:PE}{x7:Option V}(o:xv c g)
  (ok:∀x∈e::W,jD g.Tb g.H x∧x.t.bp (· =g.x0)∧x.u.bp (· =g.x0)) (met:iU g.Tb g.H (e::W) P) (val:iV g.Tb (e::W)=g.r) (bd:n+mP (e::W)≤g.N)
  (ms:ip σ g.ps (de g.H) P n) (work:σ g.w=some (.list 64 (W.reverse.map PE.enc))) (kp:Keeps [62,63,64] g.aK σ) (e1:e.t= .s h l) (e2:e.u= .s h m) (b1:b7 g.H a h l) (b2:b7 g.H b h m) (nx:∀a' af,mP a'.W<mP (e::W)→tP g a' af→K .next (g.l a') af):
  vX c f (k+4) (.ite (.and (.bz (.ax (.loc 0) "is_compound" (.cons (.loc 5) .nil))) (.bz (.ax (.loc 3) "add" (.cons (.loc 5) (.cons (.loc 6) .nil))))) (.seq (.expr (.call (.ref 494) (.cons (.loc 0) (.cons (.loc 5) (.cons (.loc 6) (.cons (.loc 4) .nil)))))) .nil) .nil) E
   (g.l ⟨W,P,n,some (cV (aN h,a)),some (cV (aN h,b)),x7⟩) σ K:=by
 have hs:=o.hs.keep kp (by simp)
 have T:=o.T
 have oe:=(ok e (.head _)).1
 have w1:(Tm.s h l).Wf g.Tb:=e1▸oe.w1
 have w2:(Tm.s h m).Wf g.Tb:=e2▸oe.w2
 have gz:mP W<mP (e::W):=by refine ae lH ?_;have:=e.t.gq;exact M1 [_,_] [] 0x100021011100011111 rfl this
 have hN:=o.hN
 have p1:=b1.pos (Tm.bB.mp w1).2.2.1
 have hl:=o.hl
 refine eX ms.ex λd' m' mL cL Qm=>?_
 have iZ:∀x∈W,jD g.Tb g.H x∧x.t.bp (· =g.x0)∧x.u.bp (· =g.x0):=λx hx=>ok x (.tail _ hx)
 have ew:=oY W
 kd_p
 refine gx T ?_
 refine ae (show ek (aN h,a)=true by by_cases h0:h=0<;>simp[ek,aN,h0]) ?_
 refine Br.tt ?_
 kd_p
 refine Ce T ms (IntMulOk.of_left (intBits_le_64 (by simp only;exact M1 [] [_] 0x1000000000000000001411500011114 rfl p1.1) (by simp only;exact M2 [_] [_] 0x100000000000000000100115186a0510011000600115 rfl p1.2 hl))) (by exact M2 [_,_,_] [] 0x100041111002111fa031201102010002110 rfl bd hN) (λhp=>?_) λhp ah xw xx xy ag=>?_
 ·have d8:=met.seen e1 e2 w1 w2 b1 b2 hp
  exact Br.ff (nx ⟨W,P,n,_,_,_⟩ _ gz ⟨iZ,met.pop d8,by exact aU val (ae (tI d8) rfl),Nat.le_trans (Nat.add_le_add_left (Nat.le_of_lt gz) n) bd,ms,work,kp⟩)
 ·refine Br.tt ?_
  have sg:=hs.keep ag (by simp)
  have rc:Keeps [62,63,64] g.aK ah:=kp.trans (ag.am rfl)
  kd_in
  refine Cf T sg (o.hy.keep rc (by simp)) o.ok hl w1 w2 b1 b2 (ag.at work) (by decide) (by refine ae (List.length_map ..) (ae List.length_reverse ?_);exact M4 [_,_,_,_,_] [] 0x186a0513114021103040110fa0312011010301112010002110 rfl bd gz hN ew) λX av hX rh aj=>?_
  have rj:=BV (W:=W) hX e1
  refine nx ⟨X++W,_,xw,_,_,_⟩ _ rj ⟨λx hx=>?_,met.add e1 e2 w1 w2 b1 b2 hX,?_,by simp only;exact M3 [_,_,_,_,_] [] 0x20403021101040111111002301102010002110 rfl bd xx rj,xy.keep aj,rh.trans (by exact ae List.reverse_append (ae List.map_append rfl)),rc.trans (aj.am rfl)⟩
  ·refine Or.elim (List.mem_append.mp hx) (λhx=>?_) λhx=>?_
   ·have v1:=(ok e (.head _)).2.1
    have v2:=(ok e (.head _)).2.2
    rw[e1]at v1
    rw[e2]at v2
    exact⟨hX.ok x hx,Tm.gr v1 _ (hX.ts▸List.mem_map.mpr ⟨x,hx,rfl⟩),Tm.gr v2 _ (hX.us▸List.mem_map.mpr ⟨x,hx,rfl⟩)⟩
   ·exact iZ x hx
  ·exact ae (O4 o.ok hX) (aU val (ae (tJ o.ok oe) (ae e1 (ae e2 (ae Tm.ib (ae (if_pos ((o.ok.m8 (be (Tm.bB.mp w1).1.choose_spec) (be (Tm.bB.mp w1).1.choose_spec)).mpr rfl)) rfl))))))
theorem Qn{f:Fm}{E:Value→Shared→Prop}{g:nG}{W:List PE}{P:Int→Bool}{n:Nat}{e:PE}{x5 x6 x7:Option V}{Q:V→S→Prop}{K:Fl→Lo→S→Prop}(o:xv c g)(j:tP g ⟨e::W,P,n,x5,x6,x7⟩ σ)(q:∀af,Keeps [62,63,64] g.aK af→Q (.int g.r) af)(nx:∀a' af,mP a'.W<mP (e::W)→tP g a' af→K .next (g.l a') af∧K .cont (g.l a') af)(rt:∀r ρ σ,aq Q (.ret r) ρ σ→K (.ret r) ρ σ):
  vX c f (k+4) (.seq (.ju 5 6 (.ax (.loc 4) "pop" .nil)) (.seq (.asg 5 (.ax (.loc 0) "deref" (.cons (.loc 5) .nil))) (.seq (.asg 6 (.ax (.loc 0) "deref" (.cons (.loc 6) .nil))) (.seq (.ite (.cmp .Eq (.loc 5) (.loc 6)) (.seq .cont .nil) .nil) (.seq (.asg 7 (.call (.ref 557) (.cons (.loc 0) (.cons (.loc 5) (.cons (.loc 6) .nil))))) (.seq (.ite (.cmp .NotEq (.loc 7) (.int 0)) (.seq (.ret (.loc 7)) .nil) .nil) (.seq (.ite (.and (.bz (.ax (.loc 0) "is_compound" (.cons (.loc 5) .nil))) (.bz (.ax (.loc 3) "add" (.cons (.loc 5) (.cons (.loc 6) .nil))))) (.seq (.expr (.call (.ref 494) (.cons (.loc 0) (.cons (.loc 5) (.cons (.loc 6) (.cons (.loc 4) .nil)))))) .nil) .nil) .nil))))))) E
   (g.l ⟨e::W,P,n,x5,x6,x7⟩) σ K:=by
 have T:=o.T
 have oe:=(j.ok e (.head _)).1
 have gz:mP W<mP (e::W):=by refine ae lH ?_;have:=e.t.gq;exact M1 [_,_] [] 0x100021011100011111 rfl this
 have bd:=j.bd
 have hN:=o.hN
 have hl:=o.hl
 have ew:=oY W
 simp only at bd
 refine ak oe.r1.fP λd1 h1 r1=>?_
 refine ak oe.r2.fP λd2 h2 r2=>?_
 have s1:=nE r1 h1.end_
 have s2:=nE r2 h2.end_
 obtain ⟨n1,h1⟩:=h1
 obtain ⟨n2,h2⟩:=h2
 have work:σ g.w=some (.list 64 (W.reverse.map PE.enc++ [.tup [cV e.c,cV e.d]])):=by refine ae j.work (ae List.reverse_cons (ae List.map_append ?_));rfl
 have tQ:=rb (j.ok e (.head _)).2.1 (j.ok e (.head _)).2.2
 have iZ:∀x∈W,jD g.Tb g.H x∧x.t.bp (· =g.x0)∧x.u.bp (· =g.x0):=λx hx=>j.ok x (.tail _ hx)
 refine⟨o.calm,?_⟩
 kd_p
 refine CV.mX work (by refine ae (List.length_map ..) (ae List.length_reverse ?_);exact M4 [_,_,_,_,_] [] 0x186a051401100040110fa0313011030102021101000111 rfl gz bd hN ew) λah hw ag=>?_
 have kp:Keeps [62,63,64] g.aK ah:=j.kp.trans (ag.am rfl)
 have hs:=o.hs.keep kp (by simp)
 have hy:=o.hy.keep kp (by simp)
 have ms:=j.ms.keep ag
 kd_p
 refine fT T hs hl h1 ?_
 kd_p
 refine fT T hs hl h2 ?_
 kd_p
 refine Br.dec (λhd=>?_) λhd=>?_
 ·have d8:e.t=e.u:=Tm.Rep.fun (T:=g.Tb) e.t (hd▸r1) r2 oe.w1 oe.w2
  exact(nx ⟨W,P,n,_,_,_⟩ _ gz ⟨iZ,j.met.pop d8,by exact aU j.val (ae (tI d8) rfl),Nat.le_trans (Nat.add_le_add_left (Nat.le_of_lt gz) n) bd,ms,hw,kp⟩).2
 ·kd_in
  refine Qg T hs hy o.ok hl oe.w1 oe.w2 s1 s2 (λn m z1 z2=>hd ?_) ?_
  ·rw[z1]at s1
   rw[z2]at s2
   exact ae s1 (ae s2 (ae (tQ n m z1 z2) rfl))
  ·have hc:=tJ o.ok (W:=W) oe
   rw[xu tQ]at hc
   refine Br.dec (λh0=>?_) λh0=>?_
   ·rw[if_neg h0,if_neg h0,j.val]at hc
    refine aU hc ?_
    exact rt _ _ _ (aq.go (q _ kp))
   ·have h0:eM g.Tb e.t e.u=0:=Classical.not_not.mp h0
    by_cases hr:e.t.rank=3
    ·obtain ⟨h,l,e1⟩:∃h l,e.t= .s h l:=by
      cases ht:e.t with
      |s h l=>exact⟨h,l,rfl⟩
      |_=>rw[ht]at hr;exact nomatch hr
     have tR:=h0
     rw[e1]at tR
     refine jO (Qk tR) λh' m e2=>?_
     rw[e2]at tR
     have w1:(Tm.s h l).Wf g.Tb:=e1▸oe.w1
     have w2:(Tm.s h' m).Wf g.Tb:=e2▸oe.w2
     have hh:h=h':=(o.ok.m8 (be (Tm.bB.mp w1).1.choose_spec) (be (Tm.bB.mp w2).1.choose_spec)).mp tR
     subst hh
     rw[e1]at s1
     rw[e2]at s2
     refine ak s1 λa nH b1=>?_
     subst nH
     refine ak s2 λb nF b2=>?_
     subst nF
     exact Ql o j.ok j.met j.val bd ms hw kp e1 e2 b1 b2 λa' af h1 h2=>(nx a' af h1 h2).1
    ·have oS:=Qj (Tb:=g.Tb) (u:=e.u) hr
     have d8:=Qi oe.w1 oe.w2 o.ok tQ h0 oS
     kd_p
     refine gx T ?_
     refine ae s1.rk.2 (ae (beq_eq_false_iff_ne.mpr hr) ?_)
     exact Br.ff (Br.ff (nx ⟨W,P,n,_,_,_⟩ _ gz ⟨iZ,j.met.pop d8,by exact aU j.val (ae (tI d8) rfl),Nat.le_trans (Nat.add_le_add_left (Nat.le_of_lt gz) n) bd,ms,hw,kp⟩).1)
set_option tactic.hygienic true in
theorem Ck{st:ba}{y:aT}{H:Hp}{Tb:ai}{t u:Tm}{c1 c2:aE}{x0:Int}{Q:V→S→Prop}(T:au c)(calm:c.calm=true)(hs:aY σ st y H)(hy:ai.aX σ y Tb)(ok:Tb.Ok)(hl:H.length≤100000)
  (p:jD Tb H ⟨t,u,c1,c2⟩) (v1:t.bp (· =x0)) (v2:u.bp (· =x0)) (hN:t.sz≤4000) (q:∀af,Keeps [62,63,64] σ af→Q (.int (t.cmp Tb u)) af):CV c (k+5) (.ref 564) [.val (.ref st.o),cV c1,cV c2] σ Q:=by
 refine gV MP T rfl λf E=>?_
 kd_in
 refine xq T hs hl λps ah ms ag=>?_
 kd_in
 refine aZ.go 64 λw av q_ e2 aj=>?_
 have o:xv c ⟨st,y,ps,w,H,Tb,x0,t.cmp Tb u,t.sz,σ,some (cV c1),some (cV c2)⟩:=⟨T,calm,hs,hy,ok,hl,hN⟩
 refine V.oZ (nG.l ⟨st,y,ps,w,H,Tb,x0,t.cmp Tb u,t.sz,σ,some (cV c1),some (cV c2)⟩) (λa=>mP a.W) (tP ⟨st,y,ps,w,H,Tb,x0,t.cmp Tb u,t.sz,σ,some (cV c1),some (cV c2)⟩) ⟨[⟨t,u,c1,c2⟩],_,0,none,none,none⟩ rfl
  ⟨λe he=>?_,λn hn=>(by exact cj hn),?_,by simp[mP],ms.keep aj,e2,(ag.am rfl).trans (aj.am rfl)⟩ λE a af K j nx rt=>?_
 ·simp at he;subst he;exact⟨p,v1,v2⟩
 ·refine ae (tJ ok p) ?_;simp only;split
  ·rename_i h;exact ae h rfl
  ·rfl
 ·obtain ⟨W,P,n,x5,x6,x7⟩:=a
  have work:=j.work
  kd_in
  refine CV.iR work (by have:=j.bd;have:=oY W;simp only at *;exact ae List.length_reverse (M3 [_,_,_,_] [] 0x186a0513011020301100020102110fa03100110 rfl hN (by assumption) this)) ?_
  refine Br.pos (λh=>?_) λh=>?_
  ·cases W with
   |nil=>simp at h
   |cons e W=>exact Qn o j q nx rt
  ·cases W with
   |nil=>
    have e:(0:Int)=t.cmp Tb u:=j.val
    have q':=q _ j.kp
    rw[←e]at q'
    exact aq.go q'
   |cons e W=>simp at h
end
end
noncomputable section
open Classical
noncomputable section
variable {c:Cx}{k:Nat}{σ:S}
noncomputable def jF(x:aE):Bool:=decide (x.1=0)||decide (x.1=1)
theorem kK{x:aE}{Q:V→S→Prop}(T:au c)(q:Q (.bool (jF x)) σ):CV c (k+1) (.ref 508) [cV x] σ Q:=by
 refine gV Mz T rfl λf E=>?_
 unfold jF at q
 kd_p
 refine Br.dec (λh=>?_) λh=>?_
 ·rw[decide_eq_true h]at q;exact aq.go q
 ·rw[decide_eq_false h]at q
  kd_p
  exact aq.go q
theorem Cn{a:Int}{Q:V→S→Prop}(T:au c)(q:Q (.int a) σ):CV c (k+1) (.ref 571) [cV (0,a)] σ Q:=by
 refine gV MR T rfl λf E=>?_
 kd_p
 refine Br.yes rfl ?_
 kd_p
 exact aq.go q
theorem Qo{st:ba}{y:aT}{H:Hp}{f g:Nat}{a b:Int}{Q:V→S→Prop}(T:au c)(hs:aY σ st y H)(hl:H.length≤100000)(b1:f≠0→At H a (6,(f:Int)))(b2:g≠0→At H b (6,(g:Int)))(q:Q (.bool (decide (f=g))) σ):
  CV c (k+1) (.ref 501) [.val (.ref st.o),cV (aN f,a),cV (aN g,b)] σ Q:=by
 refine gV Mx T rfl λfr E=>?_
 kd_p
 refine Br.dec (λh=>?_) λh=>?_
 ·rw[decide_eq_false λe:f=g=>h (by exact ae e rfl)]at q
  exact aq.go q
 ·have h0:=Ol (Classical.not_not.mp h)
  kd_p
  by_cases hf:f=0
  ·rw[decide_eq_true (hf.trans (h0.mp hf).symm)]at q
   subst hf
   exact Br.yes rfl (aq.go q)
  ·refine Br.no (by exact ae ((lF hf).1) ((by decide:¬(2:Int)=3))) ?_
   kd_p
   refine IX.hp hs (b1 hf) hl ?_
   kd_p
   refine IX.hp hs (b2 λz=>hf (h0.mpr z)) hl ?_
   kd_p
   refine ae (show decide (((6:Int),(f:Int))= (6,(g:Int)))=decide (f=g) by simp only[Prod.mk.injEq,true_and,Int.ofNat_inj]) ?_
   exact aq.go q
theorem gy.jF {H:Hp}{t:Tm}{d:aE}(h:gy H d t):jF d= (t.rank==0):=by
 cases t with
 |s f l=>(refine ak h λa xz q_=>?_;subst xz);by_cases h0:f=0<;>simp[aN,h0,Tm.rank,Mine.jF]
 |_=>subst h;rfl
structure jG where
 (st:ba) (y:aT) (ps w fw bw:Addr) (H:Hp) (Tb:ai) (x0:Int) (r:Bool) (N:Nat) (aK:S) (o1 o2:Option V)
structure Co where
 (W:List PE) (P:Int→Bool) (n:Nat) (L:List Int) (x7 x8 x9 bX:Option V)
noncomputable abbrev jG.l (g:jG)(a:Co):Lo:= [some (.val (.ref g.st.o)),g.o1,g.o2,some (.val (.ref g.fw)),some (.val (.ref g.bw)),some (.val (.ref g.ps)),some (.val (.ref g.w)),a.x7,a.x8,a.x9,a.bX]
noncomputable def gA(L:List Int):List (Int×V):=L.map λx=>(x,.int x)
structure gB(g:jG)(a:Co)(σ:S):Prop where
 ok:∀e∈a.W,jD g.Tb g.H e∧e.t.bp (· =g.x0)∧e.u.bp (· =g.x0)
 met:iU g.Tb g.H a.W a.P
 val:(fu a.W).isNone=g.r
 bd:a.n+mP a.W≤g.N
 ms:ip σ g.ps (de g.H) a.P a.n
 work:σ g.w=some (.list 64 (a.W.reverse.map PE.enc))
 L:a.L= []∨a.L= [g.x0]
 fw:σ g.fw=some (.dI 65 (gA a.L))
 bw:σ g.bw=some (.dI 66 (gA a.L))
 kp:Keeps [62,63,64,65,66] g.aK σ
structure tS(c:Cx)(g:jG):Prop where
 T:au c
 calm:c.calm=true
 hs:aY g.aK g.st g.y g.H
 hy:ai.aX g.aK g.y g.Tb
 ok:g.Tb.Ok
 hl:g.H.length≤100000
 hN:g.N≤4000
theorem xA{e:PE}{W:List PE}(h:e.t=e.u):(fu (e::W)).isNone= (fu W).isNone:=by exact ae (tG h) rfl
theorem xB{e:PE}{W:List PE}(h:e.t≠e.u):(fu (e::W)).isNone=false:=by exact ae (tH h) rfl
theorem gB.pass {K:Fl→Lo→S→Prop}{g:jG}{e:PE}{W:List PE}{P:Int→Bool}{n:Nat}{L L':List Int}{x7 x8 x9 bX y7 y8 y9 xE:Option V}{σ af:S}(j:gB g ⟨e::W,P,n,L,x7,x8,x9,bX⟩ σ)(d8:e.t=e.u)(ms:ip af g.ps (de g.H) P n)(work:af g.w=some (.list 64 (W.reverse.map PE.enc)))
  (hL:L'= []∨L'= [g.x0]) (fw:af g.fw=some (.dI 65 (gA L'))) (bw:af g.bw=some (.dI 66 (gA L'))) (kp:Keeps [62,63,64,65,66] g.aK af) (nx:∀a' af,mP a'.W<mP (e::W)→gB g a' af→K .next (g.l a') af):K .next (g.l ⟨W,P,n,L',y7,y8,y9,xE⟩) af:=by
 have hm:mP W<mP (e::W):=by exact ae lH (Nat.lt_add_of_pos_left e.t.gq)
 exact nx ⟨W,P,n,L',y7,y8,y9,xE⟩ _ hm ⟨λx hx=>j.ok x (.tail _ hx),j.met.pop d8,(xA d8).symm.trans j.val,Nat.le_trans (Nat.add_le_add_left (Nat.le_of_lt hm) n) j.bd,ms,work,hL,fw,bw,kp⟩
theorem gB.miss {g:jG}{e:PE}{W:List PE}{P:Int→Bool}{n:Nat}{L:List Int}{x7 x8 x9 bX:Option V}{σ:S}(j:gB g ⟨e::W,P,n,L,x7,x8,x9,bX⟩ σ)(h:e.t≠e.u):g.r=false:=j.val.symm.trans (xB h)
theorem Qp{L:List Int}{x:Int}:look (gA L) x=if x∈L then some (.int x) else none:=by
 induction L with
 |nil=>rfl
 |cons y L ih=>
  show look ((y,V.int y)::gA L) x=_
  refine ae oX (ae ih ?_)
  by_cases h:y=x
  ·subst h;simp
  ·refine ae (if_neg h) ?_
   simp only[List.mem_cons,λz:x=y=>h z.symm,false_or,show¬x=y from λz=>h z.symm]
theorem Qq{f:Fm}{E:Value→Shared→Prop}{K:Fl→Lo→S→Prop}{g:jG}{e:PE}{W:List PE}{P:Int→Bool}{n:Nat}{L:List Int}{x7 x8 x9 bX:Option V}{aK:S}(o:tS c g)(j:gB g ⟨e::W,P,n,L,x7,x8,x9,bX⟩ aK)(d8:e.t=e.u)
  (ms:ip σ g.ps (de g.H) P n) (work:σ g.w=some (.list 64 (W.reverse.map PE.enc))) (fw:σ g.fw=some (.dI 65 (gA L))) (bw:σ g.bw=some (.dI 66 (gA L))) (kp:Keeps [62,63,64,65,66] g.aK σ) (nx:∀a' af,mP a'.W<mP (e::W)→gB g a' af→K .next (g.l a') af):
  vX c f (k+4) (dt (cm (dt (cm ti 4)) 3)) E (g.l ⟨W,P,n,L,some (cV (0,g.x0)),some (cV (0,g.x0)),x9,bX⟩) σ K:=by
 have T:=o.T
 kd_p
 refine Cn T ?_
 kd_p
 refine Cn T ?_
 kd_p
 refine Or.elim j.L (λhL=>?_) λhL=>?_
 ·cases (show L= [] from hL)
  refine OV.iQ (b:=false) fw rfl ?_
  refine Br.tt ?_
  kd_p
  refine OV.iQ (b:=false) bw rfl ?_
  refine Br.tt ?_
  kd_p
  refine OU.hG (l':=gA [g.x0]) fw (Nat.zero_le _) rfl λah e1 ag=>?_
  kd_p
  refine OU.hG (l':=gA [g.x0]) (ag.at bw) (Nat.zero_le _) rfl λav e2 aj=>?_
  have dg:Keeps [65,66] σ av:=(ag.am rfl).trans (aj.am rfl)
  exact j.pass d8 (ms.keep dg) (dg.at work) (.inr rfl) (aj.at e1) e2 (kp.trans (dg.am rfl)) nx
 ·cases (show L= [g.x0] from hL)
  have hx:look (gA [g.x0]) g.x0=some (.int g.x0):=by exact ae Qp (ae (if_pos (.head _)) rfl)
  refine OV.iQ (b:=true) fw (by exact ae hx rfl) ?_
  refine Br.ff (Br.ff ?_)
  kd_p
  refine OV.iQ (b:=true) fw (by exact ae hx rfl) ?_
  refine Br.ff ?_
  kd_p
  refine IX.I fw hx ?_
  kd_p
  refine Br.no (λz=>z rfl) ?_
  exact j.pass (y7:=some (cV (0,g.x0))) (y8:=some (cV (0,g.x0))) (y9:=some (.int g.x0)) (xE:=some (.int g.x0)) d8 ms work (.inr rfl) fw bw kp nx
theorem Qr{f:Fm}{E:Value→Shared→Prop}{Q:V→S→Prop}{K:Fl→Lo→S→Prop}{g:jG}{e:PE}{W:List PE}{P:Int→Bool}{n:Nat}{L:List Int}{x7 x8 x9 bX:Option V}{aK:S}{h h':Nat}{l m:List Tm}{a b:Int}(o:tS c g)(j:gB g ⟨e::W,P,n,L,x7,x8,x9,bX⟩ aK)
  (e1:e.t= .s h l) (e2:e.u= .s h' m) (b1:b7 g.H a h l) (b2:b7 g.H b h' m)
  (ms:ip σ g.ps (de g.H) P n) (work:σ g.w=some (.list 64 (W.reverse.map PE.enc))) (fw:σ g.fw=some (.dI 65 (gA L))) (bw:σ g.bw=some (.dI 66 (gA L))) (kp:Keeps [62,63,64,65,66] g.aK σ) (q:Q (.bool g.r) σ) (nx:∀a' af,mP a'.W<mP (e::W)→gB g a' af→K .next (g.l a') af) (rt:∀r ρ σ,aq Q (.ret r) ρ σ→K (.ret r) ρ σ):
  vX c f (k+4) (dt (cm (wS (cm (wS (cm (dt (cm ti 4)) 3)) 0)) 0)) E (g.l ⟨W,P,n,L,some (cV (aN h,a)),some (cV (aN h',b)),x9,bX⟩) σ K:=by
 have T:=o.T
 have hs:=o.hs.keep kp (by simp)
 have oe:=(j.ok e (.head _)).1
 have w1:(Tm.s h l).Wf g.Tb:=e1▸oe.w1
 have w2:(Tm.s h' m).Wf g.Tb:=e2▸oe.w2
 have hl:=o.hl
 kd_p
 refine gx T ?_
 refine ae (show ek (aN h',b)=true by by_cases h0:h'=0<;>simp[ek,aN,h0]) ?_
 refine Br.ff ?_
 kd_p
 refine Qo T hs hl b1.1 b2.1 ?_
 kd_p
 by_cases hh:h=h'
 ·subst hh
  refine Br.JP rfl ?_
  refine eX ms.ex λd' m' mL cL Qm=>?_
  have p1:=b1.pos (Tm.bB.mp w1).2.2.1
  have hN:=o.hN
  have bd:n+mP (e::W)≤g.N:=j.bd
  have gz:mP W<mP (e::W):=by exact ae lH (Nat.lt_add_of_pos_left e.t.gq)
  kd_p
  refine Ce T ms (IntMulOk.of_left (intBits_le_64 (by simp only;clear bd gz;exact M1 [] [_] 0x1000000000000000001411500011114 rfl p1.1) (by simp only;clear bd gz;exact M2 [_] [_] 0x10000000000000000010011500600115186a05100110 rfl hl p1.2))) (by clear p1;exact M2 [_,_,_] [] 0x1000411111021110020102110fa03100110 rfl hN bd) (λhp=>?_) λhp ah xw xx xy ag=>?_
  ·exact Br.ff (j.pass (j.met.seen e1 e2 w1 w2 b1 b2 hp) ms work j.L fw bw kp nx)
  ·refine Br.tt ?_
   have rc:Keeps [62,63,64,65,66] g.aK ah:=kp.trans (ag.am rfl)
   have ew:=oY W
   kd_in
   refine Cf T (hs.keep ag (by simp)) (o.hy.keep rc (by simp)) o.ok hl w1 w2 b1 b2 (ag.at work) (by decide) (by refine ae (List.length_map ..) (ae List.length_reverse ?_);clear p1;exact M4 [_,_,_,_,_] [] 0x186a051311402110304011020301110020102110fa03100110 rfl hN bd gz ew) λX av hX rh aj=>?_
   have rj:=BV (W:=W) hX e1
   refine nx ⟨X++W,_,xw,L,_,_,_,_⟩ _ rj ⟨λx hx=>?_,j.met.add e1 e2 w1 w2 b1 b2 hX,?_,(by simp only;clear p1;exact M3 [_,_,_,_,_] [] 0x20403021101040111111002301102010002110 rfl bd xx rj),xy.keep aj,rh.trans (by exact ae List.reverse_append (ae List.map_append rfl)),j.L,aj.at (ag.at fw),aj.at (ag.at bw),rc.trans (aj.am rfl)⟩
   ·refine Or.elim (List.mem_append.mp hx) (λhx=>?_) λhx=>?_
    ·have v1:=(j.ok e (.head _)).2.1
     have v2:=(j.ok e (.head _)).2.2
     rw[e1]at v1
     rw[e2]at v2
     exact⟨hX.ok x hx,Tm.gr v1 _ (hX.ts▸List.mem_map.mpr ⟨x,hx,rfl⟩),Tm.gr v2 _ (hX.us▸List.mem_map.mpr ⟨x,hx,rfl⟩)⟩
    ·exact j.ok x (.tail _ hx)
   ·refine aU ((show (fu (e::W)).isNone=g.r from j.val)) (ae wO ?_)
    by_cases bU:l=m
    ·refine ae (hX.eq.mp bU) (ae (xA (by rw[e1,e2,bU])) ?_);rfl
    ·refine ae (xB (λz=>bU (by rw[e1,e2]at z;exact(Tm.s.inj z).2))) ?_
     cases hx:fu X with
     |none=>exact absurd (hX.eq.mpr hx) bU
     |some _=>rfl
 ·refine Br.JQ hh ?_
  have hr:=j.miss (λz=>hh (by rw[e1,e2]at z;exact(Tm.s.inj z).1))
  rw[hr]at q
  exact rt _ _ _ (aq.go q)
theorem Qs{f:Fm}{E:Value→Shared→Prop}{Q:V→S→Prop}{g:jG}{e:PE}{W:List PE}{P:Int→Bool}{n:Nat}{L:List Int}{x7 x8 x9 bX:Option V}{K:Fl→Lo→S→Prop}(o:tS c g)(j:gB g ⟨e::W,P,n,L,x7,x8,x9,bX⟩ σ)(q:∀af,Keeps [62,63,64,65,66] g.aK af→Q (.bool g.r) af)(nx:∀a' af,mP a'.W<mP (e::W)→gB g a' af→K .next (g.l a') af)(rt:∀r ρ σ,aq Q (.ret r) ρ σ→K (.ret r) ρ σ):
  vX c f (k+4) (dt (cm ti 4)) E (g.l ⟨e::W,P,n,L,x7,x8,x9,bX⟩) σ K:=by
 have T:=o.T
 have oe:=(j.ok e (.head _)).1
 have hl:=o.hl
 refine ak oe.r1.fP λd1 h1 r1=>?_
 refine ak oe.r2.fP λd2 h2 r2=>?_
 have s1:=nE r1 h1.end_
 have s2:=nE r2 h2.end_
 obtain ⟨n1,h1⟩:=h1
 obtain ⟨n2,h2⟩:=h2
 have work:σ g.w=some (.list 64 (W.reverse.map PE.enc++ [.tup [cV e.c,cV e.d]])):=by refine ae (show σ g.w=_ from j.work) (ae List.reverse_cons (ae List.map_append ?_));rfl
 have ew:W.length≤100000:=by have:=oY W;have h3:n+mP (e::W)≤g.N:=j.bd;have:=o.hN;rw[lH]at h3;exact M3 [_,_,_,_,_] [] 0x186a05100110fa0314011040103022021101000110 rfl (by assumption) h3 this
 refine⟨o.calm,?_⟩
 kd_p
 refine CV.mX work (by refine ae (List.length_map ..) (ae List.length_reverse ?_);exact ew) λah hw ag=>?_
 have kp:Keeps [62,63,64,65,66] g.aK ah:=j.kp.trans (ag.am rfl)
 have hs:=o.hs.keep kp (by simp)
 have ms:=j.ms.keep ag
 have fw:=ag.at j.fw
 have bw:=ag.at j.bw
 have tQ:=rb (j.ok e (.head _)).2.1 (j.ok e (.head _)).2.2
 kd_p
 refine fT T hs hl h1 ?_
 kd_p
 refine fT T hs hl h2 ?_
 kd_in
 refine kK T ?_
 refine ae s1.jF ?_
 have fin:e.t≠e.u→Q (.bool false) ah:=λz=>by exact aU (j.miss z) (q _ kp)
 by_cases hv:e.t.rank=0
 ·refine ae (beq_iff_eq.mpr hv) ?_
  refine Br.tt ?_
  kd_in
  refine kK T ?_
  refine ae s2.jF ?_
  by_cases hu:e.u.rank=0
  ·refine ae (beq_iff_eq.mpr hu) ?_
   refine Br.tt ?_
   have key:∀{t:Tm},t.rank=0→t.bp (· =g.x0)→t= .v g.x0:=λ{t} h0 hv=>by
    cases t with
    |v n=>exact congrArg Tm.v (hv n rfl)
    |_=>exact nomatch h0
   have e1:=key hv (j.ok e (.head _)).2.1
   have e2:=key hu (j.ok e (.head _)).2.2
   rw[e1]at s1
   rw[e2]at s2
   subst s1
   subst s2
   exact Qq o j (e1.trans e2.symm) ms hw fw bw kp nx
  ·refine ae (beq_eq_false_iff_ne.mpr hu) ?_
   refine Br.ff ?_
   kd_in
   refine kK T ?_
   refine ae s1.jF (ae (beq_iff_eq.mpr hv) ?_)
   exact Br.tt (Br.tt (rt _ _ _ (aq.go (fin λz=>hu (z▸hv)))))
 ·refine ae (beq_eq_false_iff_ne.mpr hv) ?_
  refine Br.ff (Br.ff ?_)
  kd_in
  refine kK T ?_
  refine ae s1.jF (ae (beq_eq_false_iff_ne.mpr hv) ?_)
  refine Br.ff ?_
  kd_in
  refine kK T ?_
  refine ae s2.jF ?_
  by_cases hu:e.u.rank=0
  ·refine ae (beq_iff_eq.mpr hu) ?_
   exact Br.tt (rt _ _ _ (aq.go (fin λz=>hv (z▸hu))))
  ·refine ae (beq_eq_false_iff_ne.mpr hu) ?_
   refine Br.ff ?_
   kd_p
   refine gx T ?_
   refine ae s1.rk.2 ?_
   by_cases h3:e.t.rank=3
   ·refine ae (beq_iff_eq.mpr h3) ?_
    refine Br.tt ?_
    obtain ⟨h,l,e1⟩:∃h l,e.t= .s h l:=by
     cases ht:e.t with
     |s h l=>exact⟨h,l,rfl⟩
     |_=>rw[ht]at h3;exact nomatch h3
    rw[e1]at s1
    refine ak s1 λa nH b1=>?_
    subst nH
    by_cases h4:e.u.rank=3
    ·obtain ⟨h',m,e2⟩:∃h l,e.u= .s h l:=by
      cases ht:e.u with
      |s h l=>exact⟨h,l,rfl⟩
      |_=>rw[ht]at h4;exact nomatch h4
     rw[e2]at s2
     refine ak s2 λb nF b2=>?_
     subst nF
     exact Qr o j e1 e2 b1 b2 ms hw fw bw kp (q _ kp) nx rt
    ·kd_p
     refine gx T ?_
     refine ae s2.rk.2 (ae (beq_eq_false_iff_ne.mpr h4) ?_)
     exact Br.tt (Br.tt (rt _ _ _ (aq.go (fin λz=>h4 (z▸h3)))))
   ·refine ae (beq_eq_false_iff_ne.mpr h3) ?_
    refine Br.ff ?_
    kd_p
    refine Br.dec (λhd=>?_) λhd=>?_
    ·refine rt _ _ _ (aq.go (fin λz=>hd ?_))
     rw[←z]at s2
     cases ht:e.t with
     |s _ _=>rw[ht]at h3;exact absurd rfl h3
     |_=>rw[ht]at s1 s2;exact s1.trans s2.symm
    ·have hd:=Classical.not_not.mp hd
     exact j.pass (Tm.Rep.fun (T:=g.Tb) e.t (hd▸r1) r2 oe.w1 oe.w2) ms hw j.L fw bw kp nx
theorem Cp{st:ba}{y:aT}{H:Hp}{Tb:ai}{t u:Tm}{c1 c2:aE}{x0:Int}{Q:V→S→Prop}(T:au c)(calm:c.calm=true)(hs:aY σ st y H)(hy:ai.aX σ y Tb)(ok:Tb.Ok)(hl:H.length≤100000)
  (p:jD Tb H ⟨t,u,c1,c2⟩) (v1:t.bp (· =x0)) (v2:u.bp (· =x0)) (hN:t.sz≤4000) (q:∀af,Keeps [62,63,64,65,66] σ af→Q (.bool (decide (t=u))) af):CV c (k+5) (.ref 578) [.val (.ref st.o),cV c1,cV c2] σ Q:=by
 refine gV MS T rfl λf E=>?_
 kd_in
 refine cW.go (.dI 65 []) (.inl rfl) λfw ah q_ e1 ag=>?_
 kd_in
 refine cW.go (.dI 66 []) (.inl rfl) λbw av q_ e2 aj=>?_
 kd_in
 have Cq:=ag.trans aj
 refine xq T (hs.keep Cq (by simp)) hl λps aW ms aC=>?_
 kd_in
 refine aZ.go 64 λw bn q_ e4 aM=>?_
 have o:tS c ⟨st,y,ps,w,fw,bw,H,Tb,x0,decide (t=u),t.sz,σ,some (cV c1),some (cV c2)⟩:=⟨T,calm,hs,hy,ok,hl,hN⟩
 have j0:gB ⟨st,y,ps,w,fw,bw,H,Tb,x0,decide (t=u),t.sz,σ,some (cV c1),some (cV c2)⟩ ⟨[⟨t,u,c1,c2⟩],λq_=>false,0, [],none,none,none,none⟩ bn:=by
  refine⟨λe he=>?_,λn hn=>(by exact cj hn),?_,by simp[mP],ms.keep aM,e4,.inl rfl,aM.at (aC.at (aj.at e1)),aM.at (aC.at e2),(Cq.am rfl).trans ((aC.am rfl).trans (aM.am rfl))⟩
  ·simp at he;subst he;exact⟨p,v1,v2⟩
  ·by_cases h:t=u
   ·refine ae (xA h) (ae (decide_eq_true h) ?_);rfl
   ·exact ae (xB h) (ae (decide_eq_false h) rfl)
 refine V.oZ (jG.l ⟨st,y,ps,w,fw,bw,H,Tb,x0,decide (t=u),t.sz,σ,some (cV c1),some (cV c2)⟩) (λa=>mP a.W) (gB ⟨st,y,ps,w,fw,bw,H,Tb,x0,decide (t=u),t.sz,σ,some (cV c1),some (cV c2)⟩) _ rfl j0 λE a af K j nx rt=>?_
 obtain ⟨W,P,n,L,x7,x8,x9,bX⟩:=a
 have work:=j.work
 kd_in
 refine CV.iR work (by have:=j.bd;have:=oY W;simp only at *;exact ae List.length_reverse (M3 [_,_,_,_] [] 0x186a0513011020301100020102110fa03100110 rfl hN (by assumption) this)) ?_
 refine Br.pos (λh=>?_) λh=>?_
 ·cases W with
  |nil=>simp at h
  |cons e W=>exact Qs o j q (λa' af h1 h2=>(nx a' af h1 h2).1) rt
 ·cases W with
  |nil=>
   have e:true=decide (t=u):=j.val
   have q':=q _ j.kp
   rw[←e]at q'
   exact aq.go q'
  |cons e W=>simp at h
end
end
noncomputable section
open Classical
noncomputable section
variable {c:Cx}{k:Nat}{σ:S}
theorem OB.list {f:Fm}{E:Value→Shared→Prop}{ρ:Lo}{a:Addr}{t:Nat}{l:List V}{Q:Bool→S→Prop}(ha:σ a=some (.list t l))(hl:l.length≤100000)(q:Q (decide (0<l.length)) σ):OB c f E k (λvs=>truthy (vs.getD 0 .none)) [.val (.ref a)] ρ σ Q:=λs vs I h=>by
 refine aA.e1 h λq_ h1=>?_
 refine h1.eV ?_
 refine c3 (I.st.own a _ ha) λq_ ys n e1 e2=>?_
 have hz:=e2.size
 refine wpAny_truthy_list e1.isList (by exact M2 [_,_] [] 0x8000000000000000011061150010112186a05100110 rfl hl hz) ?_
 have e:(!ys.isEmpty)=decide (0<l.length):=by
  unfold Array.isEmpty
  refine ae hz ?_;cases l.length<;>simp
 refine ae e ?_
 exact⟨σ,(I.ext (tk:=s.toks+1+1) λq_ q_ z=>z).1,Kp.tk,q⟩
theorem Tr.list {f:Fm}{E:Value→Shared→Prop}{ρ:Lo}{a:Addr}{t:Nat}{l:List V}{Q:Bool→S→Prop}(ha:σ a=some (.list t l))(hl:l.length≤100000)(q:Q (decide (0<l.length)) σ):sY c f k E ρ Q (.val (.ref a)) σ:=OB.list ha hl q
theorem tT{a b:Int}{Q:V→S→Prop}(T:au c)(q:Q (.int (bM a b)) σ):CV c (k+1) (.ref 199) [.int a,.int b] σ Q:=by
 refine gV LH T rfl λf E=>?_
 unfold bM at q
 refine Br.dec (λh=>?_) λh=>?_
 ·rw[if_pos h]at q
  exact aq.go q
 ·rw[if_neg h]at q
  kd_p
  refine Br.dec (λh2=>?_) λh2=>?_
  ·rw[if_pos h2]at q
   exact aq.go q
  ·rw[if_neg h2]at q
   exact aq.go q
theorem Cr{a b:Str}{Q:V→S→Prop}(T:au c)(q:Q (.int (cK a b)) σ):CV c (k+1) (.ref 192) [.str a,.str b] σ Q:=by
 refine gV LF T rfl λf E=>?_
 unfold cK at q
 refine Br.dec (λh=>?_) λh=>?_
 ·rw[if_pos h]at q
  exact aq.go q
 ·rw[if_neg h]at q
  kd_p
  refine Br.dec (λh2=>?_) λh2=>?_
  ·rw[if_pos h2]at q
   exact aq.go q
  ·rw[if_neg h2]at q
   exact aq.go q
theorem Cs{t:Tm}{Q:V→S→Prop}(T:au c)(q:Q (.int t.rank) σ):CV c (k+1) (.ref 185) [t.V] σ Q:=by
 refine gV LC T rfl λf E=>?_
 cases t with
 |v n=>
  kd_p
  exact Br.yes rfl (aq.go q)
 |i n=>
  kd_p
  refine Br.no (by decide) ?_
  kd_p
  exact Br.yes rfl (aq.go q)
 |a n=>
  kd_p
  refine Br.no (by decide) ?_
  kd_p
  refine Br.no (by decide) ?_
  kd_p
  exact Br.yes rfl (aq.go q)
 |s g l=>
  kd_p
  refine Br.no (by decide) ?_
  kd_p
  refine Br.no (by decide) ?_
  kd_p
  refine Br.no (by decide) ?_
  kd_in
  exact aq.go q
theorem Qt{y:aT}{Tb:ai}{f g:Nat}{nm ar mQ Qu:Int}{Q:V→S→Prop}(T:au c)(hy:ai.aX σ y Tb)(ok:Tb.Ok)(w1:Tb.fs[f]? =some (nm,ar))(w2:Tb.fs[g]? =some (mQ,Qu))(q:Q (.int (Tb.cQ f g)) σ):CV c (k+2) (.ref 213) [.val (.ref y.o),.int (f:Int),.int (g:Int)] σ Q:=by
 refine gV LK T rfl λfr E=>?_
 refine kZ (lK ok w1) λe1 e2 i e3 hi=>?_
 refine kZ (lK ok w2) λe4 e5 j e6 hj=>?_
 have h5:Tb.fs.length≤5000:=Nat.le_trans ok.oM (by decide)
 have h6:Tb.tx.length≤5000:=Nat.le_trans ok.jy (by decide)
 unfold ai.cQ at q
 rw[e2,e5,e1,e4,e3,e6,Int.toNat_natCast,Int.toNat_natCast]at q
 kd_p
 refine o4 T hy w1 h5 ?_
 kd_p
 refine o4 T hy w2 h5 ?_
 kd_in
 refine tT T ?_
 kd_p
 refine Br.dec (λh=>?_) λh=>?_
 ·rw[if_pos (ft.mp h)]at q
  kd_p
  refine o0 T hy w1 h5 ?_
  refine ae e3 ?_
  kd_in
  refine ij T hy (fU hi) h6 ?_
  kd_p
  refine o0 T hy w2 h5 ?_
  refine ae e6 ?_
  kd_in
  refine ij T hy (fU hj) h6 ?_
  kd_in
  exact Cr T (aq.go q)
 ·rw[if_neg λz=>h (ft.mpr z)]at q
  exact aq.go q
theorem IX.T {f:Fm}{E:Value→Shared→Prop}{ρ:Lo}{Q:V→S→Prop}{l:List V}{n:Nat}{r:V}(hn:n≤100000)(hx:l[n]? =some r)(q:Q r σ):IX c f k E ρ Q (.tup l) (.int (n:Int)) σ:=λq_ q_ so=>OV.zL (Int.natCast_nonneg n) (by exact pK (by assumption)) hx q so
noncomputable abbrev TP:=Tm×Tm
noncomputable def rm(p:TP):V:=.tup [p.1.V,p.2.V]
noncomputable def mT(W:List TP):Nat:=(W.map λp=>p.1.sz).sum
theorem tU{p W}:mT (p::W)=p.1.sz+mT W:=by simp[mT]
theorem Ct(W:List TP):W.length≤mT W:=by
 induction W with
 |nil=>exact Nat.zero_le _
 |cons p W ih=>exact ae tU (ae (Nat.add_comm ..) (Nat.add_le_add ih p.1.gq))
theorem Qv{l m:List Tm}:mT (l.zip m)≤(l.map λt=>t.sz+1).sum:=by
 induction l generalizing m with
 |nil=>exact Nat.zero_le _
 |cons t l ih=>
  cases m with
  |nil=>exact Nat.zero_le _
  |cons u m=>refine ae List.zip_cons_cons (ae tU (ae List.map_cons (ae List.sum_cons ?_)));have:=@ih m;simp only;exact M1 [_,_,_] [] 0x101112022002021101000110 rfl this
noncomputable def kL(Tb:ai)(W:List TP):Int:=first (W.map λp=>p.1.cmp Tb p.2)
theorem xF{Tb:ai}{p:TP}{W:List TP}:kL Tb (p::W)=if p.1.cmp Tb p.2=0 then kL Tb W else p.1.cmp Tb p.2:=rfl
theorem Qw{Tb:ai}{l m:List Tm}{W:List TP}:kL Tb (l.zip m++W)=if first (List.zipWith (Tm.cmp Tb) l m)=0 then kL Tb W else first (List.zipWith (Tm.cmp Tb) l m):=by
 induction l generalizing m with
 |nil=>rfl
 |cons t l ih=>
  cases m with
  |nil=>rfl
  |cons u m=>
   rw[List.zip_cons_cons,List.cons_append,xF,ih,List.zipWith_cons_cons,first]
   by_cases h:t.cmp Tb u=0
   ·exact ae (if_pos h) (ae (if_pos h) rfl)
   ·exact ae (if_neg h) (ae (if_neg h) (ae (if_neg h) rfl))
structure lL where
 (y:aT) (w:Addr) (Tb:ai) (x0 r:Int) (N:Nat) (aK:S) (o1 o2:Option V)
structure Cu where
 (W:List TP) (x4 x5 x6 x7:Option V)
noncomputable abbrev lL.l (g:lL)(a:Cu):Lo:= [some (.val (.ref g.y.o)),g.o1,g.o2,some (.val (.ref g.w)),a.x4,a.x5,a.x6,a.x7]
structure lM(Tb:ai)(x0:Int)(p:TP):Prop where
 w1:p.1.Wf Tb
 w2:p.2.Wf Tb
 v1:p.1.bp (· =x0)
 v2:p.2.bp (· =x0)
structure tV(g:lL)(a:Cu)(σ:S):Prop where
 ok:∀p∈a.W,lM g.Tb g.x0 p
 val:kL g.Tb a.W=g.r
 bd:mT a.W≤g.N
 work:σ g.w=some (.list 64 (a.W.reverse.map rm))
 kp:Keeps [64] g.aK σ
structure xG(c:Cx)(g:lL):Prop where
 T:au c
 calm:c.calm=true
 hy:ai.aX g.aK g.y g.Tb
 ok:g.Tb.Ok
 hN:g.N≤4000
theorem Qx{Tb:ai}{x0:Int}{f:Nat}{l m:List Tm}(h:lM Tb x0 (.s f l,.s f m)):∀p∈l.zip m,lM Tb x0 p:=λp hp=>by
 refine XA (List.of_mem_zip hp) λh1 h2=>?_
 exact⟨(Tm.bB.mp h.w1).2.2.2.2 _ h1,(Tm.bB.mp h.w2).2.2.2.2 _ h2,Tm.gr h.v1 _ h1,Tm.gr h.v2 _ h2⟩
theorem Qy{f:Fm}{E:Value→Shared→Prop}{Q:Fl→Lo→S→Prop}{g:lL}{h:Nat}{l m:List Tm}{D:List V}{x6 x7:Option V}{st:RS}(qt:st=dt (cm (dt (cm (wS (cm (dt (cm te 1)) 2)) 0)) 1))(hl:l.length≤3)(hm:m.length=l.length)(hD:D.length+3≤100000)(hw:σ g.w=some (.list 64 D))
  (q:∀x7 af,af g.w=some (.list 64 (D++(l.zip m).reverse.map rm))→Keeps [64] σ af→Q .next [some (.val (.ref g.y.o)),g.o1,g.o2,some (.val (.ref g.w)),some (Tm.s h l).V,some (Tm.s h m).V,x6,x7] af):
  vX c f (k+4) st E [some (.val (.ref g.y.o)),g.o1,g.o2,some (.val (.ref g.w)),some (Tm.s h l).V,some (Tm.s h m).V,x6,x7] σ Q:=by
 subst qt
 kd_p
 refine CV.jo (dN (by exact Nat.le_trans (by assumption) (aD rfl))) ?_
 refine ae (List.length_map ..) ?_
 kd_p
 refine CV.vu (by decide) wZ ?_
 have sm:=qd (a:=(l.length:Int)- 1) (by exact pL) (by exact M1 [_] [] 0x4000000000000000011114006211531100110 rfl hl)
 have en:=wY (n:=l.length) (by exact Nat.le_trans (by assumption) (aD rfl))
 have hz:(l.zip m).length=l.length:=by exact ae List.length_zip (ae hm (ae (Nat.min_self ..) rfl))
 refine V.fS (λ(x:Option V)=> [some (.val (.ref g.y.o)),g.o1,g.o2,some (.val (.ref g.w)),some (Tm.s h l).V,some (Tm.s h m).V,x6,x]) _
  (λi x af=>i≤l.length∧af g.w=some (.list 64 (D++((l.zip m).drop (l.length- i)).reverse.map rm))∧Keeps [64] σ af) _ (bI.c4 sm.1 (by refine ae sm.2 ?_;simp)) x7 rfl
  ⟨Nat.zero_le _,by refine ae (Nat.sub_zero ..) (ae (List.drop_eq_nil_of_le (Nat.le_of_eq hz)) ?_);simpa using hw,.refl⟩ (λq_ q_ q_ q_=>True.intro) (λE i r x af K hr ja nx=>?_) λx af ja=>?_
 ·obtain ⟨hi,rfl⟩:=wX (by exact Nat.le_trans (by assumption) (aD rfl)) hr
  refine cq ja λq_ kI hk=>?_
  have hj:l.length- 1- i≤100000:=by exact M3 [_,_,_] [] 0x186a051201101020110001011031100110 rfl hl (Nat.sub_le _ _) (Nat.sub_le _ _)
  kd_p
  refine IX.T (r:=(l[l.length- 1- i]'(gO rfl hi)).V) hj (by refine ae (List.getElem?_map) (ae (List.getElem?_eq_getElem (gO rfl hi)) ?_);rfl) ?_
  kd_p
  refine IX.T (r:=(m[l.length- 1- i]'(gO hm hi)).V) hj (by refine ae (List.getElem?_map) (ae (List.getElem?_eq_getElem (gO hm hi)) ?_);rfl) ?_
  kd_in
  refine CV.append' kI (sl (by refine ae List.length_append (ae (List.length_map ..) (ae List.length_reverse (ae List.length_drop ?_)));exact M4 [_,_,_,_] [] 0x186a0513010211020301100020112186a05131110211031100110 rfl hl hD hz (Nat.sub_le _ _))) λav e3 k3=>?_
  refine nx _ _ ⟨hi,e3.trans ?_,hk.trans k3⟩
  refine ae (rQ hz hi) (ae List.reverse_cons (ae List.map_append (aU (List.append_assoc ..) (ae List.getElem_zip ?_))));rfl
 ·refine cq ja λq_ h2 h3=>?_
  rw[en,Nat.sub_self,List.drop_zero]at h2
  exact q _ _ h2 h3
noncomputable def kM:TP→List TP
 |(.s _ l,.s _ m)=>l.zip m
 |_=> []
theorem Qz{Tb:ai}{x0:Int}{p:TP}{W:List TP}(h:lM Tb x0 p):kL Tb (p::W)=if eM Tb p.1 p.2=0 then kL Tb (kM p++W) else eM Tb p.1 p.2:=by
 refine ae xF (ae (xu (rb h.v1 h.v2)) ?_)
 by_cases h0:eM Tb p.1 p.2=0
 ·refine ae (if_pos h0) (ae (if_pos h0) ?_)
  by_cases hl:∃f l g m,p= (.s f l,.s g m)
  ·refine bH hl λf l g m QA=>?_
   subst QA
   exact Qw.symm
  ·obtain ⟨t,u⟩:=p
   have e1:low Tb t u=0:=by
    cases t with
    |s f l=>cases u with
     |s g m=>exact absurd ⟨f,l,g,m,rfl⟩ hl
     |_=>rfl
    |_=>rfl
   have e2:kM (t,u)= []:=by
    cases t with
    |s f l=>cases u with
     |s g m=>exact absurd ⟨f,l,g,m,rfl⟩ hl
     |_=>rfl
    |_=>rfl
   refine ae e1 (ae e2 (ae (if_pos rfl) ?_));rfl
 ·exact ae (if_neg h0) (ae (if_neg h0) (ae (if_neg h0) rfl))
theorem pj{f:Fm}{E:Value→Shared→Prop}{Q:V→S→Prop}{K:Fl→Lo→S→Prop}{g:lL}{p:TP}{W:List TP}{x4 x5 x7:Option V}(o:xG c g)(hp:lM g.Tb g.x0 p)(ok:∀x∈W,lM g.Tb g.x0 x)(val:kL g.Tb (p::W)=g.r)(bd:mT (p::W)≤g.N)
  (QB:eM g.Tb p.1 p.2=0→(∀x∈kM p,lM g.Tb g.x0 x)∧mT (kM p)<p.1.sz)
  (hw:σ g.w=some (.list 64 (((if eM g.Tb p.1 p.2=0 then kM p else [])++W).reverse.map rm))) (kp:Keeps [64] g.aK σ) (q:Q (.int g.r) σ) (nx:∀a' af,mT a'.W<mT (p::W)→tV g a' af→K .next (g.l a') af) (rt:∀r ρ σ,aq Q (.ret r) ρ σ→K (.ret r) ρ σ):
  vX c f (k+4) (.seq (cm (dt (cm te 1)) 3) .nil) E [some (.val (.ref g.y.o)),g.o1,g.o2,some (.val (.ref g.w)),x4,x5,some (.int (eM g.Tb p.1 p.2)),x7] σ K:=by
 rw[Qz hp]at val
 kd_p
 refine Br.dec (λh=>?_) λh=>?_
 ·rw[if_neg h]at val
  rw[←val]at q
  exact rt _ _ _ (aq.go q)
 ·have h:=Classical.not_not.mp h
  rw[if_pos h]at val hw
  refine XA (QB h) λh1 h2=>?_
  have hm:mT (kM p++W)<mT (p::W):=by
   refine ae tU (ae (show mT (kM p++W)=mT (kM p)+mT W by simp[mT]) ?_)
   exact Nat.add_lt_add_right h2 _
  exact nx ⟨kM p++W,_,_,_,_⟩ _ hm ⟨λx hx=>(List.mem_append.mp hx).elim (h1 x) (ok x),val,Nat.le_trans (Nat.le_of_lt hm) bd,hw,kp⟩
theorem QC{f:Fm}{E:Value→Shared→Prop}{Q:V→S→Prop}{g:lL}{p:TP}{W:List TP}{x4 x5 x6 x7:Option V}{K:Fl→Lo→S→Prop}(o:xG c g)(j:tV g ⟨p::W,x4,x5,x6,x7⟩ σ)(q:∀af,Keeps [64] g.aK af→Q (.int g.r) af)
  (nx:∀a' af,mT a'.W<mT (p::W)→tV g a' af→K .next (g.l a') af) (rt:∀r ρ σ,aq Q (.ret r) ρ σ→K (.ret r) ρ σ):vX c f (k+4) (dt (cm te 1)) E (g.l ⟨p::W,x4,x5,x6,x7⟩) σ K:=by
 have T:=o.T
 have work:σ g.w=some (.list 64 (W.reverse.map rm++ [.tup [p.1.V,p.2.V]])):=by refine ae (show σ g.w=_ from j.work) (ae List.reverse_cons (ae List.map_append ?_));rfl
 have ew:W.length≤4000:=by have h1:=Ct W;have h3:mT (p::W)≤g.N:=j.bd;have:=o.hN;rw[tU]at h3;exact M3 [_,_,_,_] [] 0xfa03100110fa0313011030102021101000110 rfl h1 h3 this
 have hp:=j.ok p (.head _)
 have ok:=λx hx=>j.ok x (.tail _ hx)
 refine⟨o.calm,?_⟩
 kd_p
 refine CV.mX work (by refine ae (List.length_map ..) (ae List.length_reverse ?_);exact Nat.le_trans (by assumption) (aD rfl)) λah hw ag=>?_
 have kp:Keeps [64] g.aK ah:=j.kp.trans (ag.am rfl)
 have hy:=o.hy.keep kp (by simp)
 have val:=j.val
 have bd:=j.bd
 have h6:g.Tb.tx.length≤5000:=Nat.le_trans o.ok.jy (by decide)
 clear work j
 obtain ⟨t,u⟩:=p
 kd_in
 refine Cs T ?_
 kd_in
 refine Cs T ?_
 kd_in
 refine tT T ?_
 by_cases hr:t.rank=u.rank
 ·refine ae (ft.mpr hr) ?_
  refine Br.yes rfl ?_
  cases t with
  |v n=>
   cases u with
   |v m=>
    cases rb hp.v1 hp.v2 n m rfl rfl
    kd_p
    refine Br.no (by decide) (Br.yes rfl ?_)
    kd_p
    refine Br.no (by decide) (Br.yes rfl ?_)
    kd_p
    refine tT T ?_
    refine ae (ft.mpr rfl) ?_
    exact pj o hp ok val bd (λq_=>⟨λx hx=>absurd hx List.not_mem_nil,Nat.one_pos⟩) hw kp (q _ kp) nx rt
   |_=>exact nomatch hr
  |i n=>
   cases u with
   |i m=>
    kd_p
    refine Br.no (by decide) (Br.yes rfl ?_)
    kd_p
    refine Br.no (by decide) (Br.yes rfl ?_)
    kd_p
    refine tT T ?_
    exact pj o hp ok val bd (λq_=>⟨λx hx=>absurd hx List.not_mem_nil,Nat.one_pos⟩) (by refine ae hw ?_;split<;>rfl) kp (q _ kp) nx rt
   |_=>exact nomatch hr
  |a n=>
   cases u with
   |a m=>
    kd_p
    refine Br.yes rfl ?_
    kd_p
    refine ij T hy (fU hp.w1) h6 ?_
    kd_p
    refine ij T hy (fU hp.w2) h6 ?_
    kd_in
    refine Cr T ?_
    exact pj o hp ok val bd (λq_=>⟨λx hx=>absurd hx List.not_mem_nil,Nat.one_pos⟩) (by refine ae hw ?_;split<;>rfl) kp (q _ kp) nx rt
   |_=>exact nomatch hr
  |s h l=>
   cases u with
   |s h' m=>
    kd_p
    refine Br.no (by decide) (Br.yes rfl ?_)
    kd_p
    refine Br.yes rfl ?_
    kd_p
    refine XE ((Tm.bB.mp hp.w1).1) λnm w1=>?_
    refine XE ((Tm.bB.mp hp.w2).1) λmQ w2=>?_
    refine Qt T hy o.ok w1 w2 ?_
    kd_p
    refine Br.dec (λh0=>?_) λh0=>?_
    ·have hh:h=h':=(o.ok.m8 (be w1) (be w2)).mp h0
     subst hh
     rw[w1]at w2
     have bU:m.length=l.length:=by have:=(Prod.mk.inj (Option.some.inj w2)).2;exact Nat.le_antisymm (M1 [_,_] [] 0x1000110106006117 rfl this) (M1 [_,_] [] 0x1000110106006116 rfl this)
     refine Qy rfl (Tm.bB.mp hp.w1).2.2.2.1 bU (by refine ae (List.length_map ..) (ae List.length_reverse ?_);exact M1 [_] [] 0x186a051311002110fa03100110 rfl ew) hw λx7 av rh aj=>?_
     refine pj o hp ok val bd (λq_=>⟨Qx hp,?_⟩) ?_ (kp.trans aj) (q _ (kp.trans aj)) nx rt
     ·refine ae Tm.dq ?_;have:=@Qv l m;show mT (l.zip m)<_;exact M1 [_,_] [] 0x102112001111000110 rfl this
     ·refine ae (if_pos (show eM g.Tb (.s h l) (.s h m)=0 from h0)) (ae rh (ae List.reverse_append (ae List.map_append ?_)));rfl
    ·refine pj o hp ok val bd (λz=>absurd z h0) ?_ kp (q _ kp) nx rt
     refine ae (if_neg (show¬eM g.Tb (.s h l) (.s h' m)=0 from h0)) (ae hw ?_);rfl
   |_=>exact nomatch hr
 ·have bS:bM t.rank u.rank≠0:=λz=>hr (ft.mp z)
  have e:eM g.Tb t u=bM t.rank u.rank:=xt hr
  refine Br.no bS (Br.ff (Br.no bS (Br.ff (Br.no bS ?_))))
  rw[←e]at bS ⊢
  exact pj o hp ok val bd (λz=>absurd z bS) (by refine ae (if_neg bS) (ae hw ?_);rfl) kp (q _ kp) nx rt
set_option tactic.hygienic true in
theorem Cv{y:aT}{Tb:ai}{t u:Tm}{x0:Int}{Q:V→S→Prop}(T:au c)(calm:c.calm=true)(hy:ai.aX σ y Tb)(ok:Tb.Ok)(p:lM Tb x0 (t,u))(hN:t.sz≤4000)(q:∀af,Keeps [64] σ af→Q (.int (t.cmp Tb u)) af):CV c (k+5) (.ref 206) [.val (.ref y.o),t.V,u.V] σ Q:=by
 refine gV LI T rfl λf E=>?_
 kd_in
 refine aZ.go 64 λw ah q_ e1 ag=>?_
 have o:xG c ⟨y,w,Tb,x0,t.cmp Tb u,t.sz,σ,some t.V,some u.V⟩:=⟨T,calm,hy,ok,hN⟩
 refine V.oZ (lL.l ⟨y,w,Tb,x0,t.cmp Tb u,t.sz,σ,some t.V,some u.V⟩) (λa=>mT a.W) (tV ⟨y,w,Tb,x0,t.cmp Tb u,t.sz,σ,some t.V,some u.V⟩) ⟨[(t,u)],none,none,none,none⟩ rfl
  ⟨λx hx=>by simp at hx;subst hx;exact p,?_,by simp[mT],e1,ag.am rfl⟩ λE a af K j nx rt=>?_
 ·show kL Tb [(t,u)]=t.cmp Tb u
  refine ae xF ?_;simp only;split
  ·rename_i h;exact ae h rfl
  ·rfl
 ·obtain ⟨W,x4,x5,x6,x7⟩:=a
  have work:=j.work
  kd_p
  refine Tr.list work (by have:=j.bd;have:=Ct W;simp only at *;refine ae (List.length_map ..) (ae List.length_reverse ?_);exact M3 [_,_,_] [] 0x186a0512011010201100010110fa03100110 rfl hN (by assumption) this) ?_
  cases W with
  |nil=>
   have e:(0:Int)=t.cmp Tb u:=j.val
   have q':=q _ j.kp
   rw[←e]at q'
   exact Br.no (by simp) (aq.go q')
  |cons e W=>exact Br.yes (by simp) (QC o j q (λa' af h1 h2=>(nx a' af h1 h2).1) rt)
end
end
noncomputable section
open Classical
noncomputable section
variable {c:Cx}{k:Nat}{σ:S}
structure bD where
 (o d x cd rt bg:Addr)
noncomputable abbrev xH:List Str:= ["symbols","code","max_heap","occurs","max_bits","store","x","p","cp","e","b","b0","mode","s","guard","roots","bags","collect_wanted"]
noncomputable abbrev xI (m:bD)(st:ba)(y:aT):List V:= [.val (.ref y.o),.val (.ref m.cd),.int 100000,.bool true,.int 4096,.val (.ref st.o),.val (.ref m.x),.int 0,.int 0,.int (-1),.int (-1),.int (-1),.str "read",.int 0,.tup [.int 5,.int 0],.val (.ref m.rt),.val (.ref m.bg),.bool false]
structure ez(σ:S)(m:bD)(st:ba)(y:aT)(xs:List aE):Prop where
 o:σ m.o=some (.inst 21 870 m.d)
 d:σ m.d=some (.bb 22 xH (xI m st y))
 x:σ m.x=some (.list 23 (xs.map cV))
theorem ez.inst {m:bD}{st:ba}{y:aT}{xs:List aE}(h:ez σ m st y xs):hY σ m.o 870 xH (xI m st y):=gb _ _ _ h.o h.d
theorem ez.keep {af:S}{m:bD}{st:ba}{y:aT}{xs:List aE}{X:List Nat}(h:ez σ m st y xs)(q:Keeps X σ af)(hX:(X.elem 21||X.elem 22||X.elem 23)=false:=by rfl):ez af m st y xs:=by
 rw[Bool.or_eq_false_iff,Bool.or_eq_false_iff]at hX
 exact⟨q.at h.o hX.1.1,q.at h.d hX.1.2,q.at h.x hX.2⟩
theorem kN{m:bD}{st:ba}{y:aT}{xs:List aE}{H:Hp}{n:Nat}{x d:aE}{Q:V→S→Prop}(T:au c)(M:ez σ m st y xs)(hs:aY σ st y H)(hl:H.length≤100000)(hx:xs[n]? =some x)(hn:n≤10)(hd:aH H x d)(q:Q (cV d) σ):CV c (k+3) (.ref 755) [.val (.ref m.o),.int (n:Int)] σ Q:=by
 refine gV NE T rfl λf E=>?_
 kd_p
 refine IX.L M.x (Int.natCast_nonneg n) (by exact pK (Nat.le_trans (by assumption) (aD rfl))) (r:=cV x) (by refine ae (Int.toNat_natCast ..) (ae (List.getElem?_map) (ae hx ?_));rfl) ?_
 kd_in
 refine B1 T hs hl hd ?_
 exact aq.go q
theorem QD{m:bD}{st:ba}{y:aT}{xs:List aE}{n:Nat}{x:aE}{Q:V→S→Prop}(T:au c)(M:ez σ m st y xs)(hn:n≤9)(hx:xs.length≤10)
  (q:∀af az,ez af m st y az→az.length≤10→az[n]? =some x→(∀j d,xs[j]? =some d→j≠n→az[j]? =some d)→Keeps [23] σ af→Q .none af):CV c (k+1) (.ref 741) [.val (.ref m.o),.int (n:Int),cV x] σ Q:=by
 refine gV NA T rfl λf E=>?_
 kd_in
 refine V.loop (λq_=> [some (.val (.ref m.o)),some (.int (n:Int)),some (cV x)]) (λ(az:List aE)=>11- az.length) (λaz af=>ez af m st y az∧az.length≤10∧(∀(j:Nat) (d:aE),xs[j]? =some d→az[j]? =some d)∧Keeps [23] σ af) xs rfl ⟨M,by assumption,λq_ q_ h=>h,.refl⟩ λE az af j=>?_
 refine fZ j λM' h1 h2 h3=>?_
 kd_p
 refine CV.iR M'.x (by exact Nat.le_trans (by assumption) (aD rfl)) ?_
 kd_p
 have rn:=M'.x
 refine Br.dec (λh=>?_) λh=>?_
 ·kd_p
  refine CV.append' rn (dN (by exact Nat.le_trans (by assumption) (aD rfl))) λah e1 ag=>?_
  refine .mk (az++ [(5,0)]) (by refine ae List.length_append (ae List.length_singleton ?_);exact M2 [_,_,_] [] 0x20111b1111110220211210002b11110 rfl s2 (Nat.sub_add_cancel (M1 [_] [] 0xb11111002110a1100110 rfl j.2.1))) rfl ⟨⟨ag.at M'.o,ag.at M'.d,e1.trans (by exact ae List.map_append rfl)⟩,by refine ae List.length_append (ae List.length_singleton ?_);exact M2 [_,_] [] 0xa1111110211000610611491100110 rfl hn h,λj d hj=>?_,h3.trans (ag.am rfl)⟩
  have:=h2 j d hj
  exact ae (List.getElem?_append_left (be this)) this
 ·have bq:n<az.length:=by exact M1 [_,_] [] 0x1000111106006115 rfl (Int.not_le.mp h)
  kd_p
  refine OU.lz rn (Int.natCast_nonneg n) (by exact pK (Nat.le_trans (by assumption) (aD rfl))) (by refine ae (List.length_map ..) (ae (Int.toNat_natCast ..) ?_);exact bq) λah e1 ag=>?_
  rw[Int.toNat_natCast,←List.map_set]at e1
  refine aq.nx (q ah (az.set n x) ⟨ag.at M'.o,ag.at M'.d,e1⟩ (by exact ae List.length_set h1) (by exact ae (List.getElem?_set_self bq) rfl) (λj d hj bS=>?_) (h3.trans ag))
  exact ae (List.getElem?_set_ne (λe=>bS e.symm)) (h2 j d hj)
theorem xJ{m:bD}{st:ba}{y:aT}{xs cs:List aE}{w:Addr}{Q:V→S→Prop}(T:au c)(calm:c.calm=true)(M:ez σ m st y xs)(hx:xs.length≤10)(hc:cs.length≤5)(hw:σ w=some (.list 71 (cs.map cV)))
  (q:∀af az,ez af m st y az→az.length≤10→(∀j d,cs[j]? =some d→az[j+1]? =some d)→Keeps [23] σ af→Q .none af):CV c (k+2) (.ref 748) [.val (.ref m.o),.val (.ref w)] σ Q:=by
 refine gV NC T rfl λf E=>?_
 kd_in
 refine V.fS (λ(p:Nat×Option V)=> [some (.val (.ref m.o)),some (.val (.ref w)),some (.int (p.1:Int)),p.2]) _
  (λi p af=>p.1=i∧i≤cs.length∧Keeps [23] σ af∧∃az,ez af m st y az∧az.length≤10∧(∀(j:Nat) (d:aE),j<i→cs[j]? =some d→az[j+1]? =some d)) (λaf=>RL c af w (cs.map cV)) (bI.list _ (λq_ h=>h) (.own hw) calm) (0,none) rfl
  ⟨rfl,Nat.zero_le _,.refl,xs,M,hx,λj d h=>absurd h (Nat.not_lt_zero j)⟩ (λi p af j=>.own (j.2.2.1.at hw)) (λE i r p af K hr j nx=>?_) λp af j=>?_
 ·refine fZ j λh0 h1 ag QE=>?_
  refine bG QE λaz M' h2 h3=>?_
  obtain ⟨n,x3⟩:=p
  cases (show n=i from h0)
  rw[List.getElem?_map]at hr
  refine eW hr λd hd=>?_
  have hi:=be hd
  kd_p
  refine ae (show ((i:Int)+1)= ((i+1:Nat):Int) from rfl) ?_
  refine QD T M' (by exact M2 [_,_] [] 0x911111102110001011051100110 rfl hc h1) h2 λah lN QF h4 h5 h6 aj=>?_
  refine nx (i+1,some (cV d)) _ ⟨rfl,hi,ag.trans aj,lN,QF,h4,λj e hj he=>?_⟩
  by_cases ro:j=i
  ·subst ro;rw[hd]at he;(injection he with he;subst he);exact h5
  ·exact h6 _ _ (h3 j e (by lia) he) (by lia)
 ·refine fZ j λh0 h1 ag QG=>?_
  refine bG QG λaz M' h2 h3=>?_
  rw[List.length_map]at h3
  exact aq.nx (q af az M' h2 (λj d hd=>h3 j d (be hd) hd) ag)
end
end
noncomputable section
open Classical
noncomputable section
variable {c:Cx}{k:Nat}{σ:S}
structure Wd(σ:S)(m:bD)(st:ba)(y:aT)(xs:List aE)(H:Hp)(Tb:ai):Prop where
 M:ez σ m st y xs
 hs:aY σ st y H
 hy:ai.aX σ y Tb
 ok:Tb.Ok
 hl:H.length≤100000
theorem Wd.iM {m:bD}{st:ba}{y:aT}{xs:List aE}{H:Hp}{Tb:ai}(h:Wd σ m st y xs H Tb):hY σ m.o 870 xH (xI m st y):=h.M.inst
theorem Wd.iS {st:ba}{y:aT}(h:Wd σ m st y xs H Tb):hY σ st.o 450 ["symbols","max_heap","heap","stack","trail","hb","bb"] [.val (.ref y.o),.int 100000,.val (.ref st.hp),.val (.ref st.sk),.val (.ref st.tr),.int 0,.int 0]:=h.hs.inst
theorem Wd.iY {m:bD}{st:ba}{y:aT}{xs:List aE}{H:Hp}{Tb:ai}(h:Wd σ m st y xs H Tb):hY σ y.o 174 ["texts","atom_numbers","functors","functor_numbers"] [.val (.ref y.tx),.val (.ref y.an),.val (.ref y.fs),.val (.ref y.fn)]:=h.hy.inst
theorem Wd.keep {af:S}{m:bD}{st:ba}{y:aT}{xs:List aE}{H:Hp}{Tb:ai}{X:List Nat}(h:Wd σ m st y xs H Tb)(q:Keeps X σ af)(hX:X.all (λt=>Nat.ble 24 t)=true:=by rfl):Wd af m st y xs H Tb:=by
 have a:∀t∈X,24≤t:=λt ht=>aD (List.all_eq_true.mp hX t ht)
 have b:∀t,t<24→X.elem t=false:=λt ht=>by
  cases e:X.elem t with
  |false=>rfl
  |true=>exact absurd (a t (List.elem_iff.mp e)) (Nat.not_le.mpr ht)
 exact⟨h.M.keep q (by refine ae (b 21 (by decide)) (ae (b 22 (by decide)) (ae (b 23 (by decide)) ?_));rfl),h.hs.keep q λt ht=>.inr (Nat.lt_of_lt_of_le (by decide) (a t ht)),h.hy.keep q λt ht=>Nat.lt_of_lt_of_le (by decide) (a t ht),h.ok,h.hl⟩
variable {m:bD}{st:ba}{y:aT}{xs:List aE}{H:Hp}{Tb:ai}{t:Tm}{x:aE}{Q:V→S→Prop}
theorem Wd.arg (T:au c)(W:Wd σ m st y xs H Tb)(hx:xs[n]? =some x)(hn:Nat.ble n 10=true)(rep:t.Rep H x)(q:∀d,gy H d t→t.Rep H d→aH H d d→Q (cV d) σ):CV c (k+3) (.ref 755) [.val (.ref m.o),.int (n:Int)] σ Q:=by
 refine ak rep.fP λd hd r=>?_
 exact kN T W.M W.hs W.hl hx (aD hn) hd (q d (nE r hd.end_) r hd.end_)
theorem Wd.jH (T:au c)(W:Wd σ m st y xs H Tb)(hx:xs[1]? =some x)(rep:t.Rep H x)(q:∀d,gy H d t→t.Rep H d→aH H d d→Q (cV d) σ):CV c (k+3) (.ref 755) [.val (.ref m.o),.int 1] σ Q:=W.arg T (n:=1) hx rfl rep q
theorem gy.tags {d:aE}(h:gy H d t):decide (d.1=0)= (t.rank==0)∧decide (d.1=4)= (t.rank==2)∧decide (d.1=5)= (t.rank==1):=by
 cases t with
 |s f l=>(refine ak h λa ky q_=>?_;subst ky);by_cases h0:f=0<;>simp[aN,h0,Tm.rank]
 |_=>subst h;exact⟨rfl,rfl,rfl⟩
theorem QH(T:au c)(W:Wd σ m st y xs H Tb)(hx:xs[1]? =some x)(rep:t.Rep H x)(q:Q (.bool (t.rank==0)) σ):CV c (k+4) (.ref 586) [.val (.ref m.o)] σ Q:=by
 refine gV MV T rfl λf E=>?_
 kd_p
 refine W.jH T hx rep λd s q_ q_=>?_
 rw[←s.tags.1]at q
 kd_p
 exact aq.go q
theorem QI(T:au c)(W:Wd σ m st y xs H Tb)(hx:xs[1]? =some x)(rep:t.Rep H x)(q:Q (.bool (!(t.rank==0))) σ):CV c (k+4) (.ref 593) [.val (.ref m.o)] σ Q:=by
 refine gV MX T rfl λf E=>?_
 kd_p
 refine W.jH T hx rep λd s q_ q_=>?_
 rw[←s.tags.1]at q
 kd_p
 refine ae decide_not ?_
 exact aq.go q
theorem QJ(T:au c)(W:Wd σ m st y xs H Tb)(hx:xs[1]? =some x)(rep:t.Rep H x)(q:Q (.bool (t.rank==2)) σ):CV c (k+4) (.ref 600) [.val (.ref m.o)] σ Q:=by
 refine gV MZ T rfl λf E=>?_
 kd_p
 refine W.jH T hx rep λd s q_ q_=>?_
 rw[←s.tags.2.1]at q
 kd_p
 exact aq.go q
theorem QK(T:au c)(W:Wd σ m st y xs H Tb)(hx:xs[1]? =some x)(rep:t.Rep H x)(q:Q (.bool (t.rank==1)) σ):CV c (k+4) (.ref 607) [.val (.ref m.o)] σ Q:=by
 refine gV M8 T rfl λf E=>?_
 kd_p
 refine W.jH T hx rep λd s q_ q_=>?_
 rw[←s.tags.2.2]at q
 kd_p
 exact aq.go q
theorem QL(T:au c)(W:Wd σ m st y xs H Tb)(hx:xs[1]? =some x)(rep:t.Rep H x)(q:Q (.bool (t.rank==2||t.rank==1)) σ):CV c (k+4) (.ref 614) [.val (.ref m.o)] σ Q:=by
 refine gV Na T rfl λf E=>?_
 kd_p
 refine W.jH T hx rep λd s q_ q_=>?_
 rw[←s.tags.2.1,←s.tags.2.2]at q
 kd_p
 refine Br.dec (λh=>?_) λh=>?_
 ·rw[decide_eq_true h]at q;exact aq.go q
 ·rw[decide_eq_false h]at q
  kd_p
  exact aq.go q
theorem QM(T:au c)(W:Wd σ m st y xs H Tb)(hx:xs[1]? =some x)(rep:t.Rep H x)(q:Q (.bool (t.rank==3)) σ):CV c (k+4) (.ref 621) [.val (.ref m.o)] σ Q:=by
 refine gV Nc T rfl λf E=>?_
 kd_p
 refine W.jH T hx rep λd s q_ q_=>?_
 rw[←s.rk.2]at q
 kd_in
 exact gx T (aq.go q)
theorem QN(T:au c)(W:Wd σ m st y xs H Tb)(hx:xs[1]? =some x)(rep:t.Rep H x)(q:Q (.bool (t.rank==2||t.rank==3)) σ):CV c (k+4) (.ref 628) [.val (.ref m.o)] σ Q:=by
 refine gV Nf T rfl λf E=>?_
 kd_p
 refine W.jH T hx rep λd s q_ q_=>?_
 rw[←s.tags.2.1,←s.rk.2]at q
 kd_p
 refine Br.dec (λh=>?_) λh=>?_
 ·rw[decide_eq_true h]at q;exact aq.go q
 ·rw[decide_eq_false h,Bool.false_or]at q
  kd_p
  exact gx T (aq.go q)
inductive gE:Tm→Tm→Prop
 |leaf {t:Tm}:(∀l,t≠.s 0 l)→gE t t
 |step {l:List Tm}{u e:Tm}:l[1]? =some u→gE u e→gE (.s 0 l) e
theorem Cw{D:List V}(T:au c)(hs:aY σ st y H)(hl:H.length≤100000)(h1:At H a c1)(h2:At H (a+1) c2)(e1:aH H c1 d1)(e2:aH H c2 d2)
  (hw:σ w=some (.list 81 D)) (hD:D.length≤90000) (QO:σ sn=some (.sI 82 P n)) (hn:n+1<4096)
  (q:∀af n',n'≤n+1→af w=some (.list 81 (D++ [cV d1]))→af sn=some (.sI 82 (λz=>P z||decide (z=a)) n')→Keeps [81,82] σ af→QX .next [some (.val (.ref st.o)),some (cV d2),some (.val (.ref w)),some (.val (.ref sn))] af):
  vX c f (k+3) (dt (cm Bj 3)) E [some (.val (.ref st.o)),some (cV (3,a)),some (.val (.ref w)),some (.val (.ref sn))] σ QX:=by
 refine XE e1 λn1 e1=>?_
 refine XE e2 λn2 e2=>?_
 kd_p
 refine CV.setAdd' QO hn rfl λn' iK ah s1 ag=>?_
 have xK:=hs.kb ag
 have kJ:=ag.at hw
 kd_p
 refine IX.hp xK h1 hl ?_
 kd_in
 refine fT T xK hl e1 ?_
 kd_in
 refine CV.append' kJ (sl (by exact Nat.le_trans (by assumption) (aD rfl))) λav s2 aj=>?_
 have lO:=xK.kb aj
 kd_p
 refine IX.hp lO h2 hl ?_
 kd_in
 refine fT T lO hl e2 ?_
 exact q av n' iK s2 (aj.at s1) ((ag.am rfl).trans (aj.am rfl))
theorem QP(T:au c)(hs:aY σ st y H)(hl:H.length≤100000)(wf:t.Wf Tb)(rep:t.Rep H x)(ht:gE t e)(hN:t.sz≤4000)(q:∀af w d,gy H d e→Keeps [81,82] σ af→Q (.tup [w,cV d]) af):CV c (k+4) (.ref 433) [.val (.ref st.o),cV x] σ Q:=by
 refine gV Bk T rfl λf E=>?_
 refine ak rep.fP λQQ hd r=>?_
 have he:=hd.end_
 obtain ⟨QR,hd⟩:=hd
 kd_in
 refine aZ.go 81 λw ah q_ e1 ag=>?_
 kd_in
 refine CV.wj 82 λsn av q_ e2 aj=>?_
 have dg:=ag.trans aj
 have lO:=hs.kb dg
 kd_p
 refine fT T lO hl hd ?_
 kd_in
 refine V.oZ (λ(a:Tm×aE×(Int→Bool)×Nat×List V)=> [some (.val (.ref st.o)),some (cV a.2.1),some (.val (.ref w)),some (.val (.ref sn))]) (λa=>a.1.sz)
  (λa af=>(gE a.1 e∧a.1.Wf Tb∧a.1.Rep H a.2.1∧aH H a.2.1 a.2.1)∧(∀z,a.2.2.1 z=true→∃l,b7 H z 0 l∧(Tm.s 0 l).Wf Tb∧a.1.sz< (Tm.s 0 l).sz)∧(a.2.2.2.1+a.1.sz≤4000∧a.2.2.2.2.length+a.1.sz≤4000)∧
   af w=some (.list 81 a.2.2.2.2)∧af sn=some (.sI 82 a.2.2.1 a.2.2.2.1)∧Keeps [81,82] σ af) (t,QQ,(λq_=>false),0, []) rfl
  ⟨⟨ht,wf,r,he⟩,λz hz=>(by exact cj hz),⟨by simpa using hN,by simpa using hN⟩,aj.at e1,e2,dg.am rfl⟩ λE a af K j nx q_=>?_
 obtain ⟨u,d,P,n,D⟩:=a
 refine yJ j λQT j5 QU j8 j9 xL=>?_
 obtain ⟨j1,j2,j3,j4⟩:=QT
 obtain ⟨j6,j7⟩:=QU
 simp only at j1 j2 j3 j4 j5 j6 j7 j8 j9
 have sh:=nE j3 j4
 cases j1 with
 |leaf bS=>
  have h3:¬d.1=3:=λh=>by
   cases e with
   |s f l=>
    refine ak sh λa nH q_=>?_
    subst nH
    by_cases h0:f=0
    ·subst h0;exact bS l rfl
    ·rw[(lF h0).1]at h;exact nomatch h
   |_=>subst sh;exact nomatch h
  kd_p
  refine Br.no h3 (Br.ff ?_)
  kd_in
  exact aq.go (q _ _ _ sh xL)
 |@step l u' _ hu QV=>
  refine ak sh λa nF dP=>?_
  subst nF
  have d7:=Tm.bB.mp j2
  have h1:=dP.2 1 u' hu
  have Cy:=d7.2.1 rfl
  refine ak (dP.2 0 (l[0]'(by exact M1 [_] [] 0x1121100211113 rfl Cy)) (List.getElem?_eq_getElem (by exact M1 [_] [] 0x1121100211113 rfl Cy))) λc1 a1 r1=>?_
  refine ak h1 λc2 a2 r2=>?_
  have a1:At H a c1:=by simpa[bJ] using a1
  have a2:At H (a+1) c2:=by simpa[bJ] using a2
  refine ak r1.fP λd1 b1 q_=>?_
  refine ak r2.fP λd2 b2 xM=>?_
  have QW:P a=false:=by
   cases hP:P a with
   |false=>rfl
   |true=>
    refine bG (j5 a hP) λl' xN QY bq=>?_
    have:=(dP.oR xN j2 QY).2
    rw[this]at bq
    exact absurd bq (Nat.lt_irrefl _)
  have bq:u'.sz< (Tm.s 0 l).sz:=Tm.qM (List.mem_of_getElem? hu)
  have bu:=hs.kb xL
  have fc:=u'.gq
  kd_p
  refine Br.yes rfl ?_
  kd_p
  refine OV.zN j9 ?_
  refine ae (show P (aN 0,a).2=false from QW) ?_
  refine Br.tt ?_
  refine Cw T bu hl a1 a2 b1 b2 j8 (by exact M1 [_,_] [] 0x15f905100110fa03110002110 rfl j7) j9 (by exact M1 [_,_] [] 0x100041111002111fa03110002110 rfl j6) λaL n' iK s1 s2 aC=>?_
  refine(nx (u',d2,_,n',D++ [cV d1]) _ bq ⟨⟨QV,d7.2.2.2.2 _ (List.mem_of_getElem? hu),xM,b2.end_⟩,λz hz=>?_,⟨by simp only;exact M3 [_,_,_,_] [] 0xfa03120302110111002301101020111fa03110002110 rfl j6 bq iK,by simp only[List.length_append,List.length_singleton];exact M2 [_,_,_] [] 0xfa0312011100221101020111fa03110002110 rfl j7 bq⟩,s1,s2,xL.trans aC⟩).1
  refine Or.elim (Bool.or_eq_true _ _▸hz) (λhz=>?_) λhz=>?_
  ·refine bG (j5 z hz) λl' b' w' h'=>?_
   exact⟨l',b',w',Nat.lt_trans bq h'⟩
  ·refine ae (of_decide_eq_true hz) ?_
   exact⟨l,dP,j2,bq⟩
theorem QZ(h:gy H d e):decide (d= (4,0))=decide (e= .a 0):=by
 refine decide_eq_decide.mpr ⟨λz=>?_,λz=>by subst z;exact h⟩
 subst z
 cases e with
 |s f l=>refine ak h λa e1 q_=>?_;by_cases h0:f=0<;>simp[aN,h0]at e1
 |a n=>have e1:((4:Int),(0:Int))= (4,(n:Int)):=h;simp only[Prod.mk.injEq,true_and]at e1;exact congrArg Tm.a (by exact Nat.le_antisymm (M1 [_] [] 0x1100110011006117 rfl e1) (M0 [_] [] 69904 rfl))
 |v n=>cases (h:((4:Int),(0:Int))= (0,n))
 |i n=>cases (h:((4:Int),(0:Int))= (5,n))
theorem Q0{e:Tm}(T:au c)(W:Wd σ m st y xs H Tb)(hx:xs[1]? =some x)(wf:t.Wf Tb)(rep:t.Rep H x)(ht:gE t e)(hN:t.sz≤4000)(q:∀af,Keeps [81,82] σ af→Q (.bool (decide (e= .a 0))) af):CV c (k+5) (.ref 635) [.val (.ref m.o)] σ Q:=by
 refine gV Bn T rfl λf E=>?_
 kd_p
 refine W.jH T hx rep λd s r q_=>?_
 kd_in
 refine QP T W.hs W.hl wf r ht hN λaf w d' sd ag=>?_
 have q':=q af ag
 rw[←QZ sd]at q'
 kd_p
 exact It.tD (b:=(4,0)) (aq.go q')
end
end
noncomputable section
open Classical
noncomputable section
variable {c:Cx}{k:Nat}{σ:S}{m:bD}{st:ba}{y:aT}{xs:List aE}{H:Hp}{Tb:ai}{t:Tm}{x:aE}{Q:V→S→Prop}
noncomputable abbrev nI:RS:=dt (cm Bo 3)
structure gH where
 (m:bD) (st:ba) (y:aT) (kn w:Addr) (H:Hp) (Tb:ai) (aK:S)
noncomputable abbrev gH.l (g:gH)(x4 x5 x6 x7 x8 x9:Option V):Lo:= [some (.val (.ref g.m.o)),some (.val (.ref g.st.o)),some (.val (.ref g.kn)),some (.val (.ref g.w)),x4,x5,x6,x7,x8,x9]
structure lP(c:Cx)(g:gH):Prop where
 T:au c
 calm:c.calm=true
 hs:aY g.aK g.st g.y g.H
 hy:ai.aX g.aK g.y g.Tb
 ok:g.Tb.Ok
 hl:g.H.length≤100000
structure i4(g:gH)(D:List V)(kn:List (Int×V))(σ:S):Prop where
 work:σ g.w=some (.list 84 D)
 c9:σ g.kn=some (.dI 85 kn)
 kp:Keeps [84,85] g.aK σ
theorem tW{f:Fm}{E:Value→Shared→Prop}{QX:Fl→Lo→S→Prop}{g:gH}{D:List V}{kn:List (Int×V)}{b:Bool}{r d:aE}{x4 x5 x6 x7 x8 x9:Option V}(o:lP c g)(s:i4 g (D++ [.tup [.bool b,cV r]]) kn σ)(hD:D.length≤90000)(hd:aH g.H r d)
  (q:∀af,i4 g D kn af→vX c f (k+3) (bT 2 nI) E (g.l (some (.bool b)) (some (cV r)) (some (cV d)) x7 x8 x9) af QX):vX c f (k+3) nI E (g.l x4 x5 x6 x7 x8 x9) σ QX:=by
 refine XE hd λn hd=>?_
 have T:=o.T
 refine⟨o.calm,?_⟩
 have work:=s.work
 kd_p
 refine CV.mX work (by exact Nat.le_trans (by assumption) (aD rfl)) λah hw ag=>?_
 have kp:=s.kp.trans (ag.am rfl)
 have hs:=o.hs.kb kp
 kd_p
 refine fT T hs o.hl hd ?_
 exact q ah ⟨hw,ag.at s.c9,kp⟩
theorem Q1{f:Fm}{E:Value→Shared→Prop}{QX:Fl→Lo→S→Prop}{g:gH}{d:aE}{x4 x5 x7 x8 x9:Option V}(o:lP c g)(kp:Keeps [84,85] g.aK σ)(hd:ek d=false)(q:QX .cont (g.l x4 x5 (some (cV d)) x7 x8 x9) σ):vX c f (k+3) (bT 2 nI) E (g.l x4 x5 (some (cV d)) x7 x8 x9) σ QX:=by
 have T:=o.T
 have hs:=o.hs.kb kp
 kd_p
 refine gx T ?_
 refine ae hd ?_
 exact Br.tt q
theorem Q2{f:Fm}{E:Value→Shared→Prop}{QX:Fl→Lo→S→Prop}{g:gH}{D:List V}{kn:List (Int×V)}{d:aE}{x5 x7 x8 x9:Option V}(o:lP c g)(s:i4 g D kn σ)(hd:ek d=true)(hK:kn.length≤90000)
  (q:∀af,i4 g D (put kn d.2 (.int 2)) af→QX .cont (g.l (some (.bool false)) x5 (some (cV d)) x7 x8 x9) af):vX c f (k+3) (bT 2 nI) E (g.l (some (.bool false)) x5 (some (cV d)) x7 x8 x9) σ QX:=by
 have T:=o.T
 have hs:=o.hs.kb s.kp
 kd_p
 refine gx T ?_
 refine ae hd ?_
 refine Br.ff ?_
 kd_p
 refine Br.tt ?_
 kd_p
 refine OU.hG s.c9 (sl (by exact Nat.le_trans (by assumption) (aD rfl))) rfl λah e1 ag=>?_
 exact q ah ⟨ag.at s.work,e1,s.kp.trans (ag.am rfl)⟩
theorem Cz{f:Fm}{E:Value→Shared→Prop}{QX:Fl→Lo→S→Prop}{g:gH}{D:List V}{kn:List (Int×V)}{d:aE}{n:Int}{x5 x7 x8 x9:Option V}(o:lP c g)(s:i4 g D kn σ)(hd:ek d=true)(hk:look kn d.2=some (.int n))(hn:n=1∨n=2)
  (q:n=1→QX (.ret (.bool false)) (g.l (some (.bool true)) x5 (some (cV d)) (some (.int 1)) x8 x9) σ) (q2:n=2→QX .next (g.l (some (.bool true)) x5 (some (cV d)) (some (.int 2)) x8 x9) σ):vX c f (k+3) (bT 2 nI) E (g.l (some (.bool true)) x5 (some (cV d)) x7 x8 x9) σ QX:=by
 have T:=o.T
 have hs:=o.hs.kb s.kp
 have c9:=s.c9
 kd_p
 refine gx T ?_
 refine ae hd ?_
 refine Br.ff ?_
 kd_p
 refine Br.ff ?_
 kd_p
 refine CV.tq (jk c) c9 rfl hk ?_
 refine Or.elim hn (λQ3=>?_) λQ4=>?_
 subst Q3
 rotate_left
 subst Q4
 rotate_right
 ·exact Br.yes rfl (q rfl)
 ·exact Br.no (by decide) (Br.no (by decide) (q2 rfl))
noncomputable def gI(b:Bool)(x:aE):V:=.tup [.bool b,cV x]
theorem CA{f:Fm}{E:Value→Shared→Prop}{QX:Fl→Lo→S→Prop}{g:gH}{D:List V}{kn:List (Int×V)}{h:Nat}{a nm:Int}{cs:List aE}{x5 x7 x8 x9:Option V}(o:lP c g)(s:i4 g D kn σ)(hD:D.length≤90000)(hK:kn.length≤90000)(hk:look kn a=none)
  (hb:h≠0→At g.H a (6,(h:Int))) (ha:g.Tb.fs[h]? =some (nm,(cs.length:Int))) (h2:h=0→cs.length=2) (hc:cs.length≤8) (vS:∀(i:Nat) x,cs[i]? =some x→At g.H (a+bJ h+ (i:Int)) x)
  (q:∀af x7 x8 x9,i4 g (D++gI false (aN h,a)::cs.map (gI true)) (put kn a (.int 1)) af→QX .next (g.l (some (.bool true)) x5 (some (cV (aN h,a))) x7 x8 x9) af):vX c f (k+3) (bT 2 nI) E (g.l (some (.bool true)) x5 (some (cV (aN h,a))) x7 x8 x9) σ QX:=by
 have T:=o.T
 have hs:=o.hs.kb s.kp
 have c9:=s.c9
 kd_p
 refine gx T ?_
 refine ae (show ek (aN h,a)=true by by_cases h0:h=0<;>simp[ek,aN,h0]) ?_
 refine Br.ff ?_
 kd_p
 refine Br.ff ?_
 kd_p
 refine CV.BB (jk c) c9 rfl hk ?_
 refine Br.no (by decide) (Br.yes rfl ?_)
 kd_p
 refine OU.hG c9 (sl (by exact Nat.le_trans (by assumption) (aD rfl))) rfl λah e1 ag=>?_
 have kJ:=ag.at s.work
 kd_p
 refine CV.append' kJ (sl (by exact Nat.le_trans (by assumption) (aD rfl))) λav e2 aj=>?_
 have kp:=s.kp.trans ((ag.am rfl).trans (aj.am rfl))
 have lO:=o.hs.kb kp
 have Q5:=o.hy.kb kp
 kd_p
 refine o5 T ?_
 kd_p
 refine tK T lO Q5 o.ok o.hl hb ha (λz=>by exact ae (h2 z) rfl) ?_
 kd_in
 refine CV.oo ?_
 have sm:=lw (n:=(cs.length:Int)) (by exact Int.natCast_nonneg _) (by exact nX (Nat.le_trans (by assumption) (aD rfl)))
 have en:=lE (n:=cs.length) (by exact Nat.le_trans (by assumption) (aD rfl))
 refine V.fS (λx9=>g.l (some (.bool true)) x5 (some (cV (aN h,a))) (some (.int 0)) (some (.int (a+bJ h))) x9) _
  (λi q_ af=>i4 g (D++gI false (aN h,a)::(cs.take i).map (gI true)) (put kn a (.int 1)) af) _ (bI.c4 sm.1 (by exact ae sm.2 (Int.natCast_nonneg _))) x9 rfl ⟨e2,aj.at e1,kp⟩ (λq_ q_ q_ q_=>True.intro) (λE i r x9 af K hr j nx=>?_) λx9 af j=>?_
 ·obtain ⟨rfl,hi⟩:=qT (by exact Nat.le_trans (by assumption) (aD rfl)) hr
  have bu:=o.hs.kb j.kp
  have kI:=j.work
  kd_p
  refine IX.hp bu (vS i _ (List.getElem?_eq_getElem hi)) o.hl ?_
  kd_in
  refine CV.append' kI (sl (by simp only[List.length_append,List.length_cons,List.length_map,List.length_take];lia)) λaL e3 aC=>?_
  refine nx _ _ ⟨e3.trans ?_,aC.at j.c9,j.kp.trans (aC.am rfl)⟩
  refine ae List.take_add_one (ae (List.getElem?_eq_getElem hi) (ae (Option.toList_some ..) (ae List.map_append (ae (List.append_assoc ..) ?_))));rfl
 ·rw[en,List.take_length]at j
  exact q af _ _ _ j
structure cn where
 (b:Bool) (u:Tm) (x:aE)
noncomputable def cn.enc (e:cn):V:=gI e.b e.x
noncomputable def cn.wg (e:cn):Nat:=if e.b then 2*e.u.sz else 1
noncomputable def mA(W:List cn):Nat:=(W.map cn.wg).sum
theorem pk{e W}:mA (e::W)=e.wg+mA W:=by simp[mA]
theorem cn.CB (e:cn):0<e.wg:=by
 unfold cn.wg
 split
 ·exact Nat.mul_pos (by decide) e.u.gq
 ·exact Nat.one_pos
theorem CD(W:List cn):W.length≤mA W:=by
 induction W with
 |nil=>exact Nat.zero_le _
 |cons e W ih=>exact ae pk (ae (Nat.add_comm ..) (Nat.add_le_add ih e.CB))
noncomputable def CE(Tb:ai)(H:Hp)(e:cn):Prop:=e.u.Wf Tb∧if e.b then e.u.Rep H e.x else∃f l a,e.u= .s f l∧e.x= (aN f,a)∧b7 H a f l
structure xO(g:gH)(N:Nat)(W:List cn)(kn:List (Int×V))(σ:S):Prop where
 ok:∀e∈W,CE g.Tb g.H e
 jC:W.Pairwise λe e'=>e'.b=false→e.u.sz<e'.u.sz
 kk:∀a r,look kn a=some r→r= .int 2∨(r= .int 1∧∃e∈W,e.b=false∧e.x.2=a)
 bd:mA W+kn.length≤N
 s:i4 g (W.reverse.map cn.enc) kn σ
theorem Q6{a:Int}{f:Nat}{l:List Tm}(h:b7 H a f l):∃cs:List aE,cs.length=l.length∧∀(i:Nat) x,cs[i]? =some x→At H (a+bJ f+ (i:Int)) x∧∃t,l[i]? =some t∧t.Rep H x:=by
 have key:∀(l:List Tm) (p:Int),Args H p l→∃cs:List aE,cs.length=l.length∧∀(i:Nat) x,cs[i]? =some x→At H (p+ (i:Int)) x∧∃t,l[i]? =some t∧t.Rep H x:=by
  intro l
  induction l with
  |nil=>exact λp q_=>bx ([]) rfl (λi x e=>by exact aJ e)
  |cons t l ih=>
   intro p h
   refine ak (h 0 t rfl) λx h1 h2=>?_
   obtain ⟨cs,h3,h4⟩:=ih (p+1) λi u hu=>by
    obtain ⟨c',a1,a2⟩:=h (i+1) u (by simpa using hu)
    exact⟨c',by rw[Int.add_assoc,Int.add_comm 1];exact a1,a2⟩
   refine bx (x::cs) (congrArg (· +1) h3) (λi z hz=>?_)
   cases i with
   |zero=>(injection hz with hz;subst hz);exact⟨by simpa using h1,t,rfl,h2⟩
   |succ i=>
    obtain ⟨a1,u,a2,a3⟩:=h4 i z (by simpa using hz)
    refine⟨by rw[Int.add_assoc,Int.add_comm 1]at a1;exact a1,u,by simpa using a2,a3⟩
 exact key l _ h.2
theorem CF{kn:List (Int×V)}{a:Int}{r:V}:(put kn a r).length≤kn.length+1:=wM
theorem Q7(cs:List aE):∀(l:List Tm),mA ((cs.zip l).map λp=>⟨true,p.2,p.1⟩)≤2* (l.map λt=>t.sz+1).sum:=by
 induction cs with
 |nil=>exact λl=>Nat.zero_le _
 |cons x cs ih=>
  intro l
  cases l with
  |nil=>exact Nat.zero_le _
  |cons t l=>
   show mA (⟨true,t,x⟩::_)≤2* (t.sz+1+_)
   have:=ih l
   refine ae pk ?_
   have e1:cn.wg ⟨true,t,x⟩=2*t.sz:=rfl
   exact ae e1 (M1 [_,_,_] [] 0x101112022215002021521101021500110 rfl this)
theorem Q8{f:Fm}{E:Value→Shared→Prop}{QX:Fl→Lo→S→Prop}{g:gH}{N:Nat}{e:cn}{W:List cn}{kn:List (Int×V)}{x4 x5 x6 x7 x8 x9:Option V}(o:lP c g)(hN:N≤90000)(j:xO g N (e::W) kn σ)
  (q:∀fl W' CG af x4 x5 x6 x7 x8 x9,(fl= .next∨fl= .cont)→mA W'<mA (e::W)→xO g N W' CG af→QX fl (g.l x4 x5 x6 x7 x8 x9) af):vX c f (k+3) nI E (g.l x4 x5 x6 x7 x8 x9) σ QX:=by
 have s0:i4 g (W.reverse.map cn.enc++ [.tup [.bool e.b,cV e.x]]) kn σ:=by have:=j.s;rw[List.reverse_cons,List.map_append]at this;exact this
 have ew:=CD W
 have bd:=j.bd
 rw[pk]at bd
 have hm:=e.CB
 have hD:(W.reverse.map cn.enc).length≤90000:=by refine ae (List.length_map ..) (ae List.length_reverse ?_);exact M3 [_,_,_,_,_] [] 0x15f9051101100040203022110201011015f905100110 rfl hN ew bd
 have hK:kn.length≤90000:=by exact M2 [_,_,_,_] [] 0x15f905130110003020102211015f905100110 rfl hN bd
 obtain ⟨b,u,x⟩:=e
 refine XA (j.ok _ (.head _)) λwf hr=>?_
 have sz:=List.pairwise_cons.mp j.jC
 have iZ:∀e∈W,CE g.Tb g.H e:=λe he=>j.ok e (.tail _ he)
 have xP:mA W<mA (⟨b,u,x⟩::W):=by exact ae pk (Nat.lt_add_of_pos_left hm)
 cases b with
 |false=>
  refine f7 hr λh l a Q9 Ra dP=>?_
  subst Q9
  subst Ra
  have hd:aH g.H (aN h,a) (aN h,a):=.con (by unfold aN;split<;>decide) (by unfold aN;split<;>decide)
  refine tW o s0 hD hd λah s1=>?_
  refine Q2 o s1 (by by_cases h0:h=0<;>simp[ek,aN,h0]) hK λav s2=>?_
  refine q _ W (put kn a (.int 2)) _ _ _ _ _ _ _ (.inr rfl) xP ⟨iZ,sz.2,λa' r hr=>?_,?_,s2⟩
  ·rw[tF]at hr
   by_cases ha:a'=a
   ·rw[if_pos ha]at hr;(injection hr with hr;subst hr);exact .inl rfl
   ·rw[if_neg ha]at hr
    refine Or.elim (j.kk a' r hr) (λh1=>?_) λRb=>?_
    rotate_left
    obtain ⟨h1,e',he,h2,h3⟩:=Rb
    rotate_right
    ·exact .inl h1
    ·rcases List.mem_cons.mp he with rfl|he
     ·exact absurd h3.symm ha
     ·exact .inr ⟨h1,e',he,h2,h3⟩
  ·have:=@CF kn a (.int 2);have Rc:cn.wg ⟨false,.s h l,(aN h,a)⟩=1:=rfl;rw[Rc]at bd;first|exact M2 [_,_,_,_] [] 0x20300021101111023011020100011122110 rfl bd this|(simp only;omega)
 |true=>
  have hr:u.Rep g.H x:=hr
  refine ak hr.fP λd hd r=>?_
  have sh:=nE r hd.end_
  refine tW o s0 hD hd λah s1=>?_
  by_cases hs:∃h l,u= .s h l
  ·refine jO hs λh l xQ=>?_
   subst xQ
   refine ak sh λa nH dP=>?_
   subst nH
   have hC:ek (aN h,a)=true:=by by_cases h0:h=0<;>simp[ek,aN,h0]
   cases hk:look kn a with
   |some v=>
    refine Or.elim (j.kk a v hk) (λRf=>?_) λRg=>?_
    subst Rf
    rotate_left
    obtain ⟨rfl,e',he,h2,h3⟩:=Rg
    rotate_right
    ·refine Cz o s1 hC hk (.inr rfl) (λz=>by contradiction) λq_=>?_
     refine q _ W kn _ _ _ _ _ _ _ (.inl rfl) xP ⟨iZ,sz.2,λa' r hr=>?_,by exact M1 [_,_,_,_] [] 0x30201021103020100022110 rfl bd,s1⟩
     refine Or.elim (j.kk a' r hr) (λh1=>?_) λRh=>?_
     rotate_left
     obtain ⟨h1,e',he,h2,h3⟩:=Rh
     rotate_right
     ·exact .inl h1
     ·rcases List.mem_cons.mp he with rfl|he
      ·exact dG h2
      ·exact .inr ⟨h1,e',he,h2,h3⟩
    ·exfalso
     rcases List.mem_cons.mp he with rfl|he
     ·exact dG h2
     ·have h4:=sz.1 e' he h2
      refine XA (iZ e' he) λw' h5=>?_
      rw[h2]at h5
      refine f7 h5 λh' l' a' e1 e2 xN=>?_
      rw[e2]at h3
      cases (show a'=a from h3)
      rw[e1]at w' h4
      refine XA (dP.oR xN wf w') λRi Rj=>?_
      subst Ri
      subst Rj
      exact Nat.lt_irrefl _ h4
   |none=>
    have d7:=Tm.bB.mp wf
    refine XE d7.1 λnm w1=>?_
    refine ak (Q6 dP) λcs c1 c2=>?_
    have CH:=Q7 cs l
    rw[show (l.map λt=>t.sz+1).sum= (Tm.s h l).sz- 2 by refine ae Tm.dq ?_;simp]at CH
    have Rk:2≤(Tm.s h l).sz:=by refine ae Tm.dq ?_;simp
    have Rl:cn.wg ⟨true,.s h l,x⟩=2* (Tm.s h l).sz:=rfl
    have Rm:mA (((cs.zip l).map λp=>(⟨true,p.2,p.1⟩:cn)).reverse)=mA ((cs.zip l).map λp=>⟨true,p.2,p.1⟩):=by unfold mA;exact ae List.map_reverse (ae (List.sum_reverse ..) rfl)
    have tX:mA (((cs.zip l).map λp=>(⟨true,p.2,p.1⟩:cn)).reverse++⟨false,.s h l,(aN h,a)⟩::W)+1≤mA (⟨true,.s h l,x⟩::W):=by
     refine ae (show mA (((cs.zip l).map λp=>(⟨true,p.2,p.1⟩:cn)).reverse++⟨false,.s h l,(aN h,a)⟩::W)=mA ((cs.zip l).map λp=>⟨true,p.2,p.1⟩)+ (1+mA W) by rw[←Rm];simp[mA,cn.wg]) (ae pk (ae Rl ?_))
     exact M3 [_,_,_,_] [] 0x3020215211130111200221102021110211220101101021500110 rfl CH (Nat.sub_le _ _) (Nat.sub_add_cancel (M1 [_] [] 0x21111000211110 rfl Rk))
    refine CA o s1 hD hK hk dP.1 (c1▸w1) (λz=>c1.trans (d7.2.1 z)) (by exact ae c1 (M1 [_] [] 0x8110011031100110 rfl d7.2.2.2.1)) (λi x hx=>(c2 i x hx).1) λav x7 x8 x9 s2=>?_
    refine q _ (((cs.zip l).map λp=>(⟨true,p.2,p.1⟩:cn)).reverse++⟨false,.s h l,(aN h,a)⟩::W) (put kn a (.int 1)) _ _ _ _ _ _ _ (.inl rfl) (by assumption) ⟨λe he=>?_,?_,λa' r hr=>?_,?_,?_⟩
    ·refine Or.elim (List.mem_append.mp he) (λhe=>?_) λhe=>?_
     ·refine eU (List.mem_reverse.mp he) λp hp=>?_
      refine XE (List.mem_iff_getElem?.mp hp) λi hi=>?_
      rw[List.getElem?_zip_eq_some]at hi
      refine dH (c2 i _ hi.1) λq_ t a2 a3=>?_
      rw[hi.2]at a2;(injection a2 with a2;subst a2)
      exact⟨d7.2.2.2.2 _ (List.mem_of_getElem? hi.2),a3⟩
     ·refine bO he ?_ λhe=>?_
      ·exact⟨wf,h,l,a,rfl,rfl,dP⟩
      ·exact iZ e he
    ·rw[List.pairwise_append]
     refine⟨List.Pairwise.imp_of_mem (λq_ hb q_ q=>by (refine ak (List.mem_map.mp (List.mem_reverse.mp hb)) λp hp Rn=>?_;subst Rn);exact dG q) (List.pairwise_of_forall (R:=λq_ q_=>True) λq_ q_=>True.intro),List.pairwise_cons.mpr ⟨λe he hb=>sz.1 e he hb,sz.2⟩,λe he e' ni hb=>?_⟩
     refine eU (List.mem_reverse.mp he) λp hp=>?_
     have bq:p.2.sz< (Tm.s h l).sz:=Tm.qM (List.of_mem_zip hp).2
     refine bO ni ?_ λni=>?_
     ·exact bq
     ·exact Nat.lt_trans bq (sz.1 e' ni hb)
    ·rw[tF]at hr
     by_cases ha:a'=a
     ·rw[if_pos ha]at hr;(injection hr with hr;subst hr)
      exact .inr ⟨rfl,_,List.mem_append_right _ (.head _),rfl,ha.symm⟩
     ·rw[if_neg ha]at hr
      refine Or.elim (j.kk a' r hr) (λh1=>?_) λRo=>?_
      rotate_left
      obtain ⟨h1,e',he,h2,h3⟩:=Ro
      rotate_right
      ·exact .inl h1
      ·rcases List.mem_cons.mp he with rfl|he
       ·exact dG h2
       ·exact .inr ⟨h1,e',List.mem_append_right _ (.tail _ he),h2,h3⟩
    ·have:=@CF kn a (.int 1);rw[pk]at tX;exact M3 [_,_,_,_,_,_] [] 0x305040211011120250110100021114021103020100022110 rfl bd tX this
    ·refine⟨s2.work.trans ?_,s2.c9,s2.kp⟩
     refine ae List.reverse_append (ae List.reverse_cons (ae (List.reverse_reverse ..) (ae List.map_append (ae List.map_append (ae (List.append_assoc ..) ?_)))))
     have hz:((cs.zip l).map λp=>(⟨true,p.2,p.1⟩:cn)).map cn.enc=cs.map (gI true):=by
      exact ae List.map_map (ae (show (cn.enc∘λp:aE×Tm=>(⟨true,p.2,p.1⟩:cn))=gI true∘Prod.fst from rfl) (aU List.map_map (ae (List.map_fst_zip (Nat.le_of_eq c1)) rfl)))
     exact ae hz rfl
  ·have hC:ek d=false:=by
    refine ae sh.rk.2 ?_
    cases u with
    |s h l=>exact absurd ⟨h,l,rfl⟩ hs
    |_=>rfl
   refine Q1 o s1.kp hC ?_
   refine q _ W kn _ _ _ _ _ _ _ (.inr rfl) xP ⟨iZ,sz.2,λa' r hr=>?_,by exact M1 [_,_,_,_] [] 0x30201021103020100022110 rfl bd,s1⟩
   refine Or.elim (j.kk a' r hr) (λh1=>?_) λRp=>?_
   rotate_left
   obtain ⟨h1,e',he,h2,h3⟩:=Rp
   rotate_right
   ·exact .inl h1
   ·rcases List.mem_cons.mp he with rfl|he
    ·exact dG h2
    ·exact .inr ⟨h1,e',he,h2,h3⟩
theorem Rq(T:au c)(calm:c.calm=true)(W:Wd σ m st y xs H Tb)(hx:xs[1]? =some x)(wf:t.Wf Tb)(rep:t.Rep H x)(hN:t.sz≤4000)(q:∀af,Keeps [84,85] σ af→Q (.bool true) af):CV c (k+4) (.ref 642) [.val (.ref m.o)] σ Q:=by
 refine gV Bp T rfl λf E=>?_
 kd_p
 refine cW.go (.dI 85 []) (.inl rfl) λkn ah q_ e1 ag=>?_
 have W1:=W.keep ag
 kd_p
 refine W1.jH T hx rep λd s r q_=>?_
 kd_in
 refine aZ.go 84 λw av q_ e2 aj=>?_
 have o:lP c ⟨m,st,y,kn,w,H,Tb,σ⟩:=⟨T,calm,W.hs,W.hy,W.ok,W.hl⟩
 kd_in
 refine V.loop (λ(a:List cn×List (Int×V)×Option V×Option V×Option V×Option V×Option V×Option V)=>gH.l ⟨m,st,y,kn,w,H,Tb,σ⟩ a.2.2.1 a.2.2.2.1 a.2.2.2.2.1 a.2.2.2.2.2.1 a.2.2.2.2.2.2.1 a.2.2.2.2.2.2.2) (λa=>mA a.1) (λa af=>xO ⟨m,st,y,kn,w,H,Tb,σ⟩ (2*t.sz) a.1 a.2.1 af) ([⟨true,t,d⟩], [],none,none,none,none,none,none) rfl
  ⟨λe he=>by simp at he;subst he;exact⟨wf,r⟩,by simp,λa r h=>(by exact aJ h),by simp[mA,cn.wg],⟨e2,aj.at e1,(ag.am rfl).trans (aj.am rfl)⟩⟩ λE a af j=>?_
 obtain ⟨W',CG,x4,x5,x6,x7,x8,x9⟩:=a
 have work:=j.s.work
 have hl:=CD W'
 have bd:=j.bd
 kd_p
 refine Tr.list work (by refine ae (List.length_map ..) (ae List.length_reverse ?_);show W'.length≤100000;simp only at bd;exact M3 [_,_,_,_] [] 0x186a0511011000215302021102010110fa03100210 rfl hN hl bd) ?_
 cases W' with
 |nil=>exact Br.no (by simp) (aq.go (q _ j.s.kp))
 |cons e W'=>
  refine Br.yes (by simp) (Q8 o (by exact M1 [_] [] 0x15f905100215110fa03100210 rfl hN) j λfl fV CI aL y4 y5 y6 y7 y8 y9 ki hm j'=>?_)
  refine Or.elim ki (λRr=>?_) λRs=>?_
  subst Rr
  rotate_left
  subst Rs
  rotate_right
  ·exact .mk (fV,CI,y4,y5,y6,y7,y8,y9) hm rfl j'
  ·exact .mk (fV,CI,y4,y5,y6,y7,y8,y9) hm rfl j'
end
end
noncomputable section
open Classical
noncomputable section
variable {c:Cx}{k:Nat}{σ:S}{m:bD}{st:ba}{y:aT}{xs:List aE}{H:Hp}{Tb:ai}{t u:Tm}{x x2:aE}{Q:V→S→Prop}
structure xR(H:Hp)(R:Int):Prop where
 ex:∃c1 d1,At H R c1∧aH H c1 d1
 at_:At H (R+1) (3,R)
theorem nJ:aH H (3,R) (3,R):=.con (by decide) (by decide)
theorem Rt(T:au c)(calm:c.calm=true)(W:Wd σ m st y xs H Tb)(hx:xs[1]? =some (3,R))(hR:xR H R)(h0:Tb.fs[0]? =some (nm,2))(q:∀af,Keeps [84,85] σ af→Q (.bool false) af):CV c (k+4) (.ref 642) [.val (.ref m.o)] σ Q:=by
 refine eE hR.ex λc1 d1 a1 q_=>?_
 refine gV Bp T rfl λf E=>?_
 kd_p
 refine cW.go (.dI 85 []) (.inl rfl) λkn ah q_ e1 ag=>?_
 have W1:=W.keep ag
 kd_p
 refine kN T W1.M W1.hs W1.hl (n:=1) hx (by decide) nJ ?_
 kd_in
 refine aZ.go 84 λw av q_ e2 aj=>?_
 have o:lP c ⟨m,st,y,kn,w,H,Tb,σ⟩:=⟨T,calm,W.hs,W.hy,W.ok,W.hl⟩
 kd_in
 refine V.loop (λ(a:Bool×Option V×Option V×Option V×Option V×Option V×Option V)=>gH.l ⟨m,st,y,kn,w,H,Tb,σ⟩ a.2.1 a.2.2.1 a.2.2.2.1 a.2.2.2.2.1 a.2.2.2.2.2.1 a.2.2.2.2.2.2) (λa=>if a.1 then 1 else 0)
  (λa af=>i4 ⟨m,st,y,kn,w,H,Tb,σ⟩ (if a.1 then [gI true (3,R)] else [gI false (3,R),gI true c1,gI true (3,R)]) (if a.1 then [] else [(R,.int 1)]) af) (true,none,none,none,none,none,none) rfl
  ⟨e2,aj.at e1,(ag.am rfl).trans (aj.am rfl)⟩ λE a af j=>?_
 obtain ⟨b,x4,x5,x6,x7,x8,x9⟩:=a
 cases b with
 |true=>
  have work:=j.work
  kd_p
  refine Tr.list work (aD rfl) (Br.yes (aD rfl) ?_)
  refine tW (D:= []) (b:=true) o j (aD rfl) nJ λaW s3=>?_
  refine CA (h:=0) (a:=R) (cs:= [c1,(3,R)]) o s3 (aD rfl) (aD rfl) rfl (λz=>absurd rfl z) h0 (λq_=>rfl) (aD rfl) (λi x hx=>?_) λbn y7 y8 y9 s4=>?_
  ·match i with
   | 0=>(injection hx with hx;subst hx);simpa[bJ] using a1
   | 1=>(injection hx with hx;subst hx);simpa[bJ] using hR.at_
   |i+2=>simp at hx
  ·exact .mk (false,_,_,_,_,_,_) (aD rfl) rfl s4
 |false=>
  have work:=j.work
  kd_p
  refine Tr.list work (aD rfl) (Br.yes (aD rfl) ?_)
  refine tW (D:= [gI false (3,R),gI true c1]) (b:=true) o j (aD rfl) nJ λaW s3=>?_
  exact Cz (n:=1) o s3 rfl (by unfold look;simp) (.inl rfl) (λq_=>aq.go (q _ s3.kp)) (λz=>by contradiction)
theorem Ru(T:au c)(W:Wd σ m st y xs H Tb)(hx:xs[1]? =some (3,R))(hR:xR H R)(q:∀af,Keeps [81,82] σ af→Q (.bool false) af):CV c (k+5) (.ref 635) [.val (.ref m.o)] σ Q:=by
 refine eE hR.ex λc1 d1 a1 e1=>?_
 refine gV Bn T rfl λf E=>?_
 kd_p
 refine kN T W.M W.hs W.hl (n:=1) hx (by decide) nJ ?_
 kd_in
 refine(?_:CV c (k+4) (.ref 433) _ σ _)
 refine gV Bk T rfl λf E=>?_
 refine XE (@nJ H R) λQR hd=>?_
 kd_in
 refine aZ.go 81 λw ah q_ f1 ag=>?_
 kd_in
 refine CV.wj 82 λsn av q_ f2 aj=>?_
 have dg:=ag.trans aj
 have lO:=W.hs.kb dg
 kd_p
 refine fT T lO W.hl hd ?_
 kd_in
 refine V.loop (λ(_:Bool)=> [some (.val (.ref st.o)),some (cV (3,R)),some (.val (.ref w)),some (.val (.ref sn))]) (λb=>if b then 1 else 0)
  (λb af=>Keeps [81,82] σ af∧(b=true→af w=some (.list 81 []))∧∃n,n≤(if b then 1 else 2)∧af sn=some (.sI 82 (λz=>if b then false else decide (z=R)) n)) true rfl
  ⟨dg.am rfl,λq_=>aj.at f1,0,by decide,f2⟩ λE b af j=>?_
 refine kZ j λj1 j2 n hn j3=>?_
 have bu:=W.hs.kb j1
 kd_p
 refine Br.yes rfl ?_
 kd_p
 refine OV.zN j3 ?_
 cases b with
 |true=>
  refine Br.tt ?_
  refine Cw T bu W.hl a1 hR.at_ e1 nJ (j2 rfl) (by decide) j3 (by have:n≤1:=hn;exact M1 [_] [] 0x10004111100211111100110 rfl hn) λaL n' iK s1 s2 aC=>?_
  refine .mk false (by decide) rfl ⟨j1.trans aC,λz=>(by exact cj z),n',Nat.le_trans iK (Nat.succ_le_succ hn),s2.trans (congrArg some (congrArg (λP=>O.sI 82 P n') (funext λz=>by simp)))⟩
 |false=>
  refine(?_:Br (!decide (R=R)) _ _)
  refine ae (decide_eq_true rfl) ?_
  refine Br.ff ?_
  kd_p
  refine aq.go ?_
  kd_p
  refine It.tD (b:=(4,0)) ?_
  refine ae (decide_eq_false (by intro z;exact nomatch z)) ?_
  exact aq.go (q _ j1)
structure fy(H:Hp)(Tb:ai)(x0:Int)(t u:Tm)(x x2:aE):Prop where
 p:jD Tb H ⟨t,u,x,x2⟩
 v1:t.bp (· =x0)
 v2:u.bp (· =x0)
 hN:t.sz≤4000
theorem tY(T:au c)(calm:c.calm=true)(W:Wd σ m st y xs H Tb)(hx:xs[1]? =some x)(cL:xs[2]? =some x2)(tw:fy H Tb x0 t u x x2)(q:∀af,Keeps [62,63,64] σ af→Q (.int (t.cmp Tb u)) af):CV c (k+6) (.ref 649) [.val (.ref m.o)] σ Q:=by
 refine gV Ni T rfl λf E=>?_
 kd_p
 refine W.arg T (n:=1) hx rfl tw.p.r1 λd q_ r q_=>?_
 kd_p
 refine W.arg T (n:=2) cL rfl tw.p.r2 λd2 q_ r2 q_=>?_
 kd_in
 exact Ck T calm W.hs W.hy W.ok W.hl ⟨tw.p.w1,tw.p.w2,r,r2⟩ tw.v1 tw.v2 tw.hN λaf ag=>aq.go (q af ag)
theorem Rv(T:au c)(calm:c.calm=true)(W:Wd σ m st y xs H Tb)(hx:xs[1]? =some x)(cL:xs[2]? =some x2)(tw:fy H Tb x0 t u x x2)(q:∀af,Keeps [62,63,64] σ af→Q (.bool (decide (t.cmp Tb u<0))) af):CV c (k+7) (.ref 656) [.val (.ref m.o)] σ Q:=by
 refine gV Nk T rfl λf E=>?_
 kd_in
 refine tY T calm W hx cL tw λaf ag=>?_
 exact aq.go (q af ag)
theorem Rw(T:au c)(calm:c.calm=true)(W:Wd σ m st y xs H Tb)(hx:xs[1]? =some x)(cL:xs[2]? =some x2)(tw:fy H Tb x0 t u x x2)(q:∀af,Keeps [62,63,64] σ af→Q (.bool (decide (0<t.cmp Tb u))) af):CV c (k+7) (.ref 663) [.val (.ref m.o)] σ Q:=by
 refine gV Nm T rfl λf E=>?_
 kd_in
 refine tY T calm W hx cL tw λaf ag=>?_
 exact aq.go (q af ag)
theorem Rx(T:au c)(calm:c.calm=true)(W:Wd σ m st y xs H Tb)(hx:xs[1]? =some x)(cL:xs[2]? =some x2)(tw:fy H Tb x0 t u x x2)(q:∀af,Keeps [62,63,64] σ af→Q (.bool (decide (t.cmp Tb u≤0))) af):CV c (k+7) (.ref 670) [.val (.ref m.o)] σ Q:=by
 refine gV No T rfl λf E=>?_
 kd_in
 refine tY T calm W hx cL tw λaf ag=>?_
 exact aq.go (q af ag)
theorem Ry(T:au c)(calm:c.calm=true)(W:Wd σ m st y xs H Tb)(hx:xs[1]? =some x)(cL:xs[2]? =some x2)(tw:fy H Tb x0 t u x x2)(q:∀af,Keeps [62,63,64] σ af→Q (.bool (decide (0≤t.cmp Tb u))) af):CV c (k+7) (.ref 677) [.val (.ref m.o)] σ Q:=by
 refine gV Nq T rfl λf E=>?_
 kd_in
 refine tY T calm W hx cL tw λaf ag=>?_
 exact aq.go (q af ag)
theorem Rz(T:au c)(calm:c.calm=true)(W:Wd σ m st y xs H Tb)(hx:xs[1]? =some x)(cL:xs[2]? =some x2)(tw:fy H Tb x0 t u x x2)(q:∀af,Keeps [62,63,64,65,66] σ af→Q (.bool (decide (t=u))) af):CV c (k+6) (.ref 684) [.val (.ref m.o)] σ Q:=by
 refine gV Nt T rfl λf E=>?_
 kd_p
 refine W.arg T (n:=1) hx rfl tw.p.r1 λd q_ r q_=>?_
 kd_p
 refine W.arg T (n:=2) cL rfl tw.p.r2 λd2 q_ r2 q_=>?_
 kd_in
 exact Cp T calm W.hs W.hy W.ok W.hl ⟨tw.p.w1,tw.p.w2,r,r2⟩ tw.v1 tw.v2 tw.hN λaf ag=>aq.go (q af ag)
theorem RA(T:au c)(calm:c.calm=true)(W:Wd σ m st y xs H Tb)(hx:xs[1]? =some x)(cL:xs[2]? =some x2)(tw:fy H Tb x0 t u x x2)(q:∀af,Keeps [62,63,64,65,66] σ af→Q (.bool (!decide (t=u))) af):CV c (k+6) (.ref 691) [.val (.ref m.o)] σ Q:=by
 refine gV Nv T rfl λf E=>?_
 kd_p
 refine W.arg T (n:=1) hx rfl tw.p.r1 λd q_ r q_=>?_
 kd_p
 refine W.arg T (n:=2) cL rfl tw.p.r2 λd2 q_ r2 q_=>?_
 kd_in
 exact Cp T calm W.hs W.hy W.ok W.hl ⟨tw.p.w1,tw.p.w2,r,r2⟩ tw.v1 tw.v2 tw.hN λaf ag=>aq.go (q af ag)
end
end
noncomputable section
open Classical
noncomputable section
variable {c:Cx}{k:Nat}{σ:S}{m:bD}{st:ba}{y:aT}{xs:List aE}{H:Hp}{Tb:ai}{t u:Tm}{x x2:aE}{Q:V→S→Prop}
theorem xS:cR H 0 (4,n) (4,n):=.self (by decide) (by decide)
theorem RB(T:au c)(hs:aY σ st y H)(hl:H.length≤100000)(q:Q (.bool false) σ):CV c (k+2) (.ref 529) [.val (.ref st.o),cV (0,a),cV (4,n)] σ Q:=by
 refine gV MG T rfl λf E=>?_
 kd_p
 refine fT T hs hl xS ?_
 kd_p
 refine Br.no (λz=>by exact nomatch z) ?_
 kd_p
 refine Br.no (show¬(0:Int)=1 by decide) ?_
 kd_p
 refine gx T ?_
 exact Br.tt (aq.go q)
theorem RC{a n:Int}(T:au c)(hs:aY σ st y H)(hl:H.length≤100000)(h0:0≤a)(h1:a< (H.length:Int))(q:∀af,aY af st y (H.set a.toNat (4,n))→Keeps [13] σ af→Q (.bool true) af):CV c (k+3) (.ref 522) [.val (.ref st.o),cV (0,a),cV (4,n),.bool true] σ Q:=by
 refine gV MD T rfl λf E=>?_
 kd_p
 refine Br.tt ?_
 kd_in
 refine RB T hs hl ?_
 refine Br.ff ?_
 kd_p
 refine B0 T hs hl h0 h1 λaf a b=>?_
 exact aq.go (q af a b)
noncomputable def lQ(H:Hp)(d:aE)(n:Int):Hp:=if d.1=0 then H.set d.2.toNat (4,n) else H
noncomputable def kO(d:aE)(n:Int):Bool:=decide (d.1=0)||decide (d= (4,n))
theorem RD(T:au c)(calm:c.calm=true)(hs:aY σ st y H)(hl:H.length≤100000)(hd:(∃a,d= (0,a)∧At H a (0,a))∨∃z,d= (4,z))
  (q:∀af,aY af st y (lQ H d n)→Keeps [13,62,63,64] σ af→Q (.bool (kO d n)) af):CV c (k+4) (.ref 515) [.val (.ref st.o),cV d,cV (4,n),.bool true] σ Q:=by
 refine gV MB T rfl λf E=>?_
 kd_in
 refine xq T hs hl λps ah ms ag=>?_
 kd_in
 refine aZ.go 64 λw av q_ e2 aj=>?_
 have dg:Keeps [13,62,63,64] σ av:=(ag.am rfl).trans (aj.am rfl)
 have iC:aH H d d:=by
  refine Or.elim hd (λRF=>?_) λRG=>?_
  obtain ⟨a,rfl,h⟩:=RF
  rotate_left
  obtain ⟨z,rfl⟩:=RG
  rotate_right
  ·exact⟨0,.var h⟩
  ·exact⟨0,xS⟩
 obtain ⟨nd,iC⟩:=iC
 refine V.loop (λ(a:Bool×Option V×Option V)=> [some (.val (.ref st.o)),some (cV d),some (cV (4,n)),some (.bool true),some (.val (.ref ps)),some (.val (.ref w)),a.2.1,a.2.2]) (λa=>if a.1 then 1 else 0)
  (λa af=>(a.1=true→aY af st y H)∧(a.1=false→aY af st y (lQ H d n)∧kO d n=true)∧af w=some (.list 64 (if a.1 then [.tup [cV d,cV (4,n)]] else []))∧Keeps [13,62,63,64] σ af) (true,none,none) rfl
  ⟨λq_=>(hs.kb ag).kb aj,λz=>(by exact dG z),e2,dg⟩ λE a af j=>?_
 obtain ⟨b,x6,x7⟩:=a
 refine fZ j λj1 j2 j3 j4=>?_
 kd_in
 refine CV.lv j3 (sl (by split<;>exact aD rfl)) ?_
 cases b with
 |false=>
  obtain ⟨s1,h1⟩:=j2 rfl
  have q':=q af s1 j4
  rw[h1]at q'
  exact Br.no (λz=>by contradiction) (aq.go q')
 |true=>
  have s1:=j1 rfl
  refine Br.yes (show (0:Int)<1 by decide) ?_
  refine⟨calm,?_⟩
  kd_p
  refine CV.mX (l:= []) j3 (Nat.zero_le _) λaW e3 aC=>?_
  have s3:=s1.kb aC
  have pn:Keeps [13,62,63,64] σ aW:=j4.trans (aC.am rfl)
  kd_p
  refine fT T s3 hl iC ?_
  kd_p
  refine fT T s3 hl xS ?_
  kd_p
  refine Or.elim hd (λRH=>?_) λRI=>?_
  obtain ⟨a,rfl,h⟩:=RH
  rotate_left
  obtain ⟨z,rfl⟩:=RI
  rotate_right
  ·refine Br.no (λz=>by exact nomatch z) ?_
   kd_in
   refine kK T ?_
   refine Br.tt ?_
   kd_in
   refine kK T ?_
   refine Br.ff ?_
   kd_in
   refine RC T s3 hl h.1 h.lt λbn s4 aM=>?_
   refine Br.ff ?_
   exact .mk (false,_,_) (aD rfl) rfl ⟨λz=>(by exact cj z),λq_=>⟨s4,rfl⟩,aM.at e3,pn.trans (aM.am rfl)⟩
  ·refine Br.dec (λhz=>?_) λhz=>?_
   ·exact .mk (false,_,_) (aD rfl) rfl ⟨λz=>(by exact cj z),λq_=>⟨s3,by rw[kO,decide_eq_true hz,Bool.or_true]⟩,e3,pn⟩
   ·kd_in
    refine kK T ?_
    refine Br.ff ?_
    kd_in
    refine kK T ?_
    refine Br.ff ?_
    kd_p
    refine gx T ?_
    refine Br.ff (Br.ff ?_)
    have q':=q aW s3 pn
    rw[show kO (4,z) n=false by rw[kO,decide_eq_false hz];rfl]at q'
    exact aq.go q'
theorem rp(a b:Int):bM a b= -1∨bM a b=0∨bM a b=1:=by unfold bM;split<;> (try split)<;>simp
theorem CJ(a b:Str):cK a b= -1∨cK a b=0∨cK a b=1:=by unfold cK;split<;> (try split)<;>simp
theorem RJ:(∀x∈l,x= -1∨x=0∨x=1)→first l= -1∨first l=0∨first l=1:=by
 induction l with
 |nil=>exact λq_=>.inr (.inl rfl)
 |cons x r ih=>
  intro h
  show (if x=0 then first r else x)=_∨(if x=0 then first r else x)=_∨(if x=0 then first r else x)=_
  by_cases e:x=0
  ·exact ae (if_pos e) (ih λy hy=>h y (.tail _ hy))
  ·exact ae (if_neg e) (h x (.head _))
theorem kP{t u:Tm}(h:t.rank≠u.rank):t.cmp Tb u= -1∨t.cmp Tb u=0∨t.cmp Tb u=1:=ae (Tm.iT h) (rp ..)
theorem rq(t:Tm):∀u:Tm,t.cmp Tb u= -1∨t.cmp Tb u=0∨t.cmp Tb u=1:=by
 induction t using Tm.ind with
 |hv n=>intro u;cases u with|v=>exact rp .. |a=>exact kP oP|i=>exact kP oO|s=>exact kP qQ
 |ha n=>intro u;cases u with|a=>exact CJ .. |v=>exact kP oP.symm|i=>exact kP oQ.symm|s=>exact kP qS
 |hi n=>intro u;cases u with|i=>exact rp .. |a=>exact kP oQ|v=>exact kP oO.symm|s=>exact kP qR
 |hs f l ih=>
  intro u
  cases u with
  |s g m=>
   refine ae Tm.ib ?_
   split
   ·refine RJ λx hx=>?_
    refine XE (List.mem_iff_getElem?.mp hx) λi hi=>?_
    rw[List.getElem?_zipWith]at hi
    cases h1:l[i]? with
    |none=>rw[h1]at hi;exact aJ hi
    |some a=>
     cases h2:m[i]? with
     |none=>rw[h1,h2]at hi;exact aJ hi
     |some b=>rw[h1,h2]at hi;(injection hi with hi;subst hi);exact ih a (List.mem_of_getElem? h1) b
   ·unfold ai.cQ;split
    ·exact CJ ..
    ·exact rp ..
  |_=>exact ae (Tm.iT (by simp[Tm.rank])) (rp ..)
noncomputable def iq(n:Int):Str:=if n= -1 then "<" else if n=0 then "=" else ">"
theorem RK{ay:ai}(e:Tb.Ext ay)(ok:Tb.Ok)(hf:f<Tb.fs.length)(hg:g<Tb.fs.length):ay.cQ f g=Tb.cQ f g:=by
 have h1:=List.getElem?_eq_getElem hf
 have h2:=List.getElem?_eq_getElem hg
 have a1:=lK ok (nm:=(Tb.fs[f]).1) (ar:=(Tb.fs[f]).2) h1
 have a2:=lK ok (nm:=(Tb.fs[g]).1) (ar:=(Tb.fs[g]).2) h2
 have key:∀{f:Nat}{p:Int×Int},Tb.fs[f]? =some p→ay.nm f=Tb.nm f∧ay.ar f=Tb.ar f:=λ{f p} h=>by
  unfold ai.nm ai.ar
  refine ae (List.getD_eq_getElem?_getD) (ae (List.getD_eq_getElem?_getD) (ae h (ae (bW e.fs h) ?_)))
  exact⟨rfl,rfl⟩
 have tk:∀{i:Nat},i<Tb.tx.length→ay.txt i=Tb.txt i:=λ{i} h=>by
  have h':=bW e.tx (fU h)
  unfold ai.txt at *
  refine ae (List.getD_eq_getElem?_getD) (ae h' ?_);rfl
 refine ak a1.2.2 λi e1 hi=>?_
 refine ak a2.2.2 λj e2 hj=>?_
 unfold ai.cQ
 exact ae ((key h1).1) (ae ((key h1).2) (ae ((key h2).1) (ae ((key h2).2) (ae a1.1 (ae a2.1 (ae e1 (ae e2 (ae (Int.toNat_natCast ..) (ae (Int.toNat_natCast ..) (ae (tk hi) (ae (tk hj) rfl)))))))))))
theorem rr(e:Tb.Ext ay)(ok:Tb.Ok)(t:Tm):∀{u:Tm},t.Wf Tb→u.Wf Tb→t.cmp ay u=t.cmp Tb u:=by
 have tk:∀{i:Nat},i<Tb.tx.length→ay.txt i=Tb.txt i:=λ{i} h=>by
  have h':=bW e.tx (fU h)
  unfold ai.txt at *
  refine ae (List.getD_eq_getElem?_getD) (ae h' ?_);rfl
 induction t using Tm.ind with
 |hv n=>intro u _ _;cases u<;>rfl
 |hi n=>intro u _ _;cases u<;>rfl
 |ha n=>
  intro u h1 h2
  cases u with
  |a m=>show cK _ _=cK _ _;exact ae (tk h1) (ae (tk h2) rfl)
  |_=>rfl
 |hs f l ih=>
  intro u h1 h2
  cases u with
  |s g m=>
   have w1:=Tm.bB.mp h1
   have w2:=Tm.bB.mp h2
   refine XE w1.1 λq_ w3=>?_
   refine XE w2.1 λq_ w4=>?_
   refine ae Tm.ib (ae Tm.ib (ae (RK e ok (be w3) (be w4)) ?_))
   have hz:∀(l m:List Tm),(∀x∈l,∀{u:Tm},x.Wf Tb→u.Wf Tb→x.cmp ay u=x.cmp Tb u)→(∀x∈l,x.Wf Tb)→(∀x∈m,x.Wf Tb)→List.zipWith (Tm.cmp ay) l m=List.zipWith (Tm.cmp Tb) l m:=by
    intro l
    induction l with
    |nil=>intro m _ _ _;rfl
    |cons x l m9=>
     intro m a b c
     cases m with
     |nil=>rfl
     |cons y m=>exact ae List.zipWith_cons_cons (ae List.zipWith_cons_cons (ae (a x (.head _) (b x (.head _)) (c y (.head _))) (ae (m9 m (λz hz=>a z (.tail _ hz)) (λz hz=>b z (.tail _ hz)) λz hz=>c z (.tail _ hz)) rfl)))
   exact ae (hz l m (λx hx {u}=>ih x hx) w1.2.2.2.2 w2.2.2.2.2) rfl
  |_=>rw[Tm.iT (by simp[Tm.rank]),Tm.iT (by simp[Tm.rank])]
theorem cZ{x:Str}(h:bZ.contains x=true):x∈bZ:=List.contains_iff_mem.mp h
theorem Wd.tab {ay:ai}{X:List Nat}(W:Wd σ m st y xs H Tb)(hy:ai.aX af y ay)(ok:ay.Ok)(k:Keeps X σ af)(hX:X.all (λt=>Nat.ble t 6||Nat.ble 24 t)=true:=by rfl):Wd af m st y xs H ay:=by
 have a:∀t∈X,t≤6∨24≤t:=λt ht=>by
  have:=List.all_eq_true.mp hX t ht
  rw[Bool.or_eq_true]at this
  exact this.imp aD aD
 have b:∀t,6<t→t<24→X.elem t=false:=λt h1 h2=>by
  cases e:X.elem t with
  |false=>rfl
  |true=>(refine Or.elim (a t (List.elem_iff.mp e)) (λh=>?_) λh=>?_)<;>lia
 exact⟨W.M.keep k (by refine ae (b 21 (by decide) (by decide)) (ae (b 22 (by decide) (by decide)) (ae (b 23 (by decide) (by decide)) ?_));rfl),W.hs.keep k λt ht=>(a t ht).imp (λz=>Nat.lt_of_le_of_lt z (by decide)) λz=>Nat.lt_of_lt_of_le (by decide) z,hy,ok,W.hl⟩
theorem fy.ext (h:fy H Tb x0 t u x x2)(e:Tb.Ext ay):fy H ay x0 t u x x2:=⟨⟨h.p.w1.ext e,h.p.w2.ext e,h.p.r1,h.p.r2⟩,h.v1,h.v2,h.hN⟩
noncomputable def xT(m:bD)(st:ba)(y:aT)(xs:List aE)(H:Hp)(Tb:ai)(d:aE)(n:Int)(σ:S)(r:V)(af:S):Prop:=
 ∃(ay:ai) (i:Nat),r= .bool (kO d (i:Int))∧Wd af m st y xs (lQ H d (i:Int)) ay∧Tb.Ext ay∧ay.tx[i]? =some (iq n)∧Keeps [3,4,13,62,63,64] σ af
theorem CK:(lQ H d n).length=H.length:=by unfold lQ;split<;>simp
theorem tZ(T:au c)(W:Wd σ m st y xs H Tb)
  (q:∀af ay (i j l:Nat),Wd af m st y xs H ay→Tb.Ext ay→ay.tx[i]? =some "<"→ay.tx[j]? =some "="→ay.tx[l]? =some ">"→Keeps [3,4] σ af→QX .next [x0,some (.val (.ref y.o)),some (cV d),some (.tup [.int (i:Int),.int (j:Int),.int (l:Int)]),x4] af):
  vX c f (k+1) (cm kE 2) E [x0,some (.val (.ref y.o)),some (cV d),x3,x4] σ QX:=by
 have W0:=W
 kd_p
 refine gw T W.hy W.ok (cZ (by decide +kernel)) λah i T1 h1 RM x1 q_ t1 ag=>?_
 kd_p
 refine gw T h1 RM (cZ (by decide +kernel)) λav j T2 h2 ru x2 q_ t2 aj=>?_
 kd_p
 refine gw T h2 ru (cZ (by decide +kernel)) λaW l T3 h3 RN x3 q_ t3 aC=>?_
 have kk:=ag.trans (aj.trans aC)
 exact q aW T3 i j l (W.tab h3 RN kk) (x1.trans (x2.trans x3)) (bW x3.tx (bW x2.tx t1)) (bW x3.tx t2) t3 kk
theorem CL{d:aE}{i j l:Nat}{x0:Int}{x1 x4:Option V}{y1 y2:aE}(T:au c)(calm:c.calm=true)(W:Wd σ m st y xs H Tb)(hx:xs[2]? =some y1)(cL:xs[3]? =some y2)(tw:fy H Tb x0 t u y1 y2)
  (hd:(∃a,d= (0,a)∧At H a (0,a))∨∃z,d= (4,z)) (hi:Tb.tx[i]? =some "<") (hj:Tb.tx[j]? =some "=") (hl:Tb.tx[l]? =some ">")
  (q:∀(n:Nat) af,Tb.tx[n]? =some (iq (t.cmp Tb u))→Wd af m st y xs (lQ H d (n:Int)) Tb→Keeps [13,62,63,64] σ af→Q (.bool (kO d (n:Int))) af):
  vX c f (k+6) (bT 4 kE) E [some (.val (.ref m.o)),x1,some (cV d),some (.tup [.int (i:Int),.int (j:Int),.int (l:Int)]),x4] σ (aq Q):=by
 kd_p
 refine W.arg T (n:=2) hx rfl tw.p.r1 λd1 q_ r1 q_=>?_
 kd_p
 refine W.arg T (n:=3) cL rfl tw.p.r2 λd2 q_ r2 q_=>?_
 kd_in
 refine Ck T calm W.hs W.hy W.ok W.hl ⟨tw.p.w1,tw.p.w2,r1,r2⟩ tw.v1 tw.v2 tw.hN λah ag=>?_
 have W1:=W.keep ag
 obtain ⟨n,hn,ht⟩:∃n:Nat, [V.int (i:Int),.int (j:Int),.int (l:Int)][(t.cmp Tb u+1).toNat]? =some (.int (n:Int))∧Tb.tx[n]? =some (iq (t.cmp Tb u)):=by
  rcases rq (Tb:=Tb) t u with h|h|h<;>refine ae h ?_
  ·exact⟨i,rfl,hi⟩
  ·exact⟨j,rfl,hj⟩
  ·exact⟨l,rfl,hl⟩
 have hc:(((t.cmp Tb u+1).toNat:Nat):Int)=t.cmp Tb u+1:=by rcases rq (Tb:=Tb) t u with h|h|h<;>refine ae h ?_ <;>rfl
 kd_p
 refine aU hc ?_
 refine IX.T (by rcases rq (Tb:=Tb) t u with h|h|h<;>refine ae h ?_ <;>decide) hn ?_
 kd_in
 refine gV NG T rfl λf E=>?_
 kd_p
 refine RD (n:=(n:Int)) T calm W1.hs W1.hl hd λav s2 aj=>?_
 have dg:Keeps [13,62,63,64] σ av:=(ag.am rfl).trans aj
 refine aq.go (aq.go (q n av ht ⟨W.M.keep dg,s2,W.hy.kb dg,W.ok,by exact ae CK W.hl⟩ dg))
theorem RO{a x0:Int}{y0 y1 y2:aE}(T:au c)(calm:c.calm=true)(W:Wd σ m st y xs H Tb)(h0:xs[1]? =some y0)(hd:aH H y0 (0,a))(hx:xs[2]? =some y1)(cL:xs[3]? =some y2)(tw:fy H Tb x0 t u y1 y2):
  CV c (k+7) (.ref 698) [.val (.ref m.o)] σ (xT m st y xs H Tb (0,a) (t.cmp Tb u) σ):=by
 refine gW Bq T rfl λL A stack E=>?_
 kd_p
 refine kN T W.M W.hs W.hl (n:=1) h0 (by decide) hd ?_
 refine tZ T W λah T1 i j l W1 e1 t1 t2 t3 ag=>?_
 kd_p
 refine Br.no (λz=>z rfl) ?_
 refine CL T calm W1 hx cL (tw.ext e1) (.inl ⟨a,rfl,hd.BE⟩) t1 t2 t3 λn af ht W' aj=>?_
 rw[rr e1 W.ok t tw.p.w1 tw.p.w2]at ht
 exact⟨T1,n,rfl,W',e1,ht,(ag.am rfl).trans (aj.am rfl)⟩
theorem RP{z:Nat}{x0:Int}{s:Str}{y0 y1 y2:aE}(T:au c)(calm:c.calm=true)(W:Wd σ m st y xs H Tb)(h0:xs[1]? =some y0)(hd:aH H y0 (4,(z:Int)))(hz:Tb.tx[z]? =some s)(hs:s="<"∨s="="∨s=">")(hx:xs[2]? =some y1)(cL:xs[3]? =some y2)(tw:fy H Tb x0 t u y1 y2):
  CV c (k+7) (.ref 698) [.val (.ref m.o)] σ (xT m st y xs H Tb (4,(z:Int)) (t.cmp Tb u) σ):=by
 refine gW Bq T rfl λL A stack E=>?_
 kd_p
 refine kN T W.M W.hs W.hl (n:=1) h0 (by decide) hd ?_
 refine tZ T W λah T1 i j l W1 e1 t1 t2 t3 ag=>?_
 have go:=CL (Q:=xT m st y xs H Tb (4,(z:Int)) (t.cmp Tb u) σ) (k:=k) (E:=E) (f:=v8.fm L A stack) (x1:=some (.val (.ref y.o))) (x4:=none) T calm W1 hx cL (tw.ext e1) (.inr ⟨(z:Int),rfl⟩) t1 t2 t3 λn af ht W' aj=>by
  rw[rr e1 W.ok t tw.p.w1 tw.p.w2]at ht
  exact⟨T1,n,rfl,W',e1,ht,(ag.am rfl).trans (aj.am rfl)⟩
 have jI:=bW e1.tx hz
 have same:∀{a:Nat}{b:Str},T1.tx[a]? =some b→s=b→(z:Int)= (a:Int):=λ{a b} ha e=>by
  subst e
  have h1:=be jI
  have h2:=be ha
  rw[List.getElem?_eq_getElem h1]at jI
  rw[List.getElem?_eq_getElem h2]at ha
  exact congrArg _ ((List.getElem_inj W1.ok.m6).mp ((Option.some.inj jI).trans (Option.some.inj ha).symm))
 kd_p
 refine Br.yes (show¬(4:Int)=0 by decide) ?_
 kd_p
 refine Br.no (λz=>z rfl) ?_
 kd_p
 refine Br.dec (λn1=>?_) λn1=>Br.ff go
 kd_p
 refine Br.dec (λn2=>?_) λn2=>Br.ff go
 kd_p
 refine Br.dec (λn3=>?_) λn3=>go
 rcases hs with e|e|e
 ·exact absurd (same t1 e) n1
 ·exact absurd (same t2 e) n2
 ·exact absurd (same t3 e) n3
end
end
noncomputable section
open Classical
noncomputable section
variable {c:Cx}{k:Nat}{σ:S}{y:aT}{Tb:ai}{t u:Tm}{Q:V→S→Prop}
noncomputable def dF:Option (Int×Nat)→List (Int×V)
 |none=> []
 |some (x,n)=> [(x,(Tm.a n).V)]
noncomputable def kQ:Option (Int×Nat)→Tm→Tm
 |some (x,n),.v z=>if z=x then .a n else .v z
 |_,t=>t
noncomputable def dQ:Option (Int×Nat)→Tm→Tm
 |some (x,n),t=>t.sub x n
 |none,t=>t
theorem RQ(h:∀f l,t≠.s f l):dQ b t=kQ b t:=by
 cases b with
 |none=>cases t<;>rfl
 |some p=>cases t with
  |s f l=>exact absurd rfl (h f l)
  |_=>rfl
theorem RR{l:List Tm}:dQ b (.s f l)= .s f (l.map (dQ b)):=by
 cases b with
 |none=>show Tm.s f l= .s f (l.map id);exact ae (List.map_id ..) rfl
 |some p=>exact Tm.BI
theorem CM:look (dF b) z=match b with|some (x,n)=>if x=z then some (Tm.a n).V else none|none=>none:=by
 cases b with
 |none=>rfl
 |some p=>exact oX
set_option tactic.hygienic true in
theorem kR(T:au c)(hb:σ bd=some (.dI tg (dF b)))(q:Q (kQ b t).V σ):CV c (k+1) (.ref 888) [t.V,.val (.ref bd)] σ Q:=by
 refine gV NN T rfl λf E=>?_
 kd_in
 refine V.loop (λ(t':Tm)=> [some t'.V,some (.val (.ref bd))]) (λt'=>match t' with|.v _=>1|_=>0) (λt' af=>af=σ∧kQ b t'=kQ b t) t rfl ⟨rfl,rfl⟩ λE t' af j=>?_
 obtain ⟨rfl,j⟩:=j
 cases t' with
 |v z=>
  kd_p
  refine Br.yes rfl ?_
  kd_p
  cases hk:look (dF b) z with
  |none=>
   refine OV.oF (b:=false) hb (by exact ae hk rfl) ?_
   refine Br.ff (aq.go ?_)
   have e:kQ b (.v z)= .v z:=by
    rw[CM]at hk
    cases b with
    |none=>rfl
    |some p=>
     obtain ⟨x,n⟩:=p
     show (if z=x then Tm.a n else .v z)= .v z
     rw[if_neg λh=>?_]
     subst h
     simp at hk
   rw[←j,e]at q
   exact q
  |some r=>
   refine OV.oF (b:=true) hb (by exact ae hk rfl) ?_
   refine Br.tt ?_
   kd_p
   refine IX.I hb hk ?_
   rw[CM]at hk
   cases b with
   |none=>exact aJ hk
   |some p=>
    obtain ⟨x,n⟩:=p
    simp only at hk
    split at hk
    ·rename_i hx
     (injection hk with hk;subst hk)
     subst hx
     refine .mk (.a n) Nat.one_pos rfl ⟨rfl,?_⟩
     refine aU j ?_
     exact(if_pos rfl).symm
    ·exact aJ hk
 |a n=>
  kd_p
  refine Br.no (by decide) (Br.ff (aq.go ?_))
  rw[←j]at q
  cases b<;>exact q
 |i n=>
  kd_p
  refine Br.no (by decide) (Br.ff (aq.go ?_))
  rw[←j]at q
  cases b<;>exact q
 |s f l=>
  kd_p
  refine Br.no (by decide) (Br.ff (aq.go ?_))
  rw[←j]at q
  cases b<;>exact q
theorem RU{L:Addr}{A:Around}{stack:List Env}{E:Value→Shared→Prop}{b:Option (Int×Nat)}{bd:Addr}{tg f:Nat}{l:List Tm}(T:au c)(calm:c.calm=true)(hb:σ bd=some (.dI tg (dF b)))(hl:l.length≤3)
  (ih:∀x∈l,∀σ Q,σ bd=some (.dI tg (dF b))→(∀af,Keeps [] σ af→Q (dQ b x).V af)→CV c k (.ref 905) [x.V,.val (.ref bd)] σ Q)
  (q:∀a af,af a=some (.list 90 ((l.map (dQ b)).map Tm.V))→Keeps [] σ af→Q (.val (.ref a)) af):
  EV c (v9.fm L A stack) E k (fO [2,1] (gp (cz [1,0,0] v9.body))) [some (Tm.s f l).V,some (.val (.ref bd))] σ Q:=by
 refine V.comp (x:="part") (ys:= ["bound"]) (G':= [("_law_full",.val (.ref 905))]) (cl:= [("bound",L+1)]) (rs:= [some (.val (.ref bd))]) (ri:=.item (.loc 0) 2) (re:=.call (.ref 905) (.cons (.loc 0) (.cons (.loc 1) .nil))) 90 T (l.map Tm.V) (λq_=>True)
  (λi aG af=>aG= ((l.take i).map (dQ b)).map Tm.V∧Keeps [] σ af) (by kernel_rfl) (by kernel_rfl) rfl
  (fh.of T (by kernel_rfl) (by kernel_rfl) (List.forall_mem_cons.2 ⟨by kernel_rfl,List.forall_mem_nil _⟩) (List.forall_mem_cons.2 ⟨List.mem_of_getElem? (i:=29) rfl,List.forall_mem_nil _⟩)) (.cons (a:=L+1) (.there .here) rfl (by kernel_rfl) (by kernel_rfl) (by kernel_rfl) .nil) ?_ (λq_ q_ q_ q_=>True.intro) (by exact ae (List.length_map ..) (Nat.le_trans (by assumption) (aD rfl))) (λf' E i r aG af hr j hi=>?_) λaG af aL a j ch ha kk=>?_
 ·kd_p
  exact⟨bI.tup calm,rfl,.refl⟩
 ·obtain ⟨rfl,ag⟩:=j
  rw[List.getElem?_map]at hr
  refine eW hr λx hx=>?_
  kd_in
  refine ih x (List.mem_of_getElem? hx) _ _ (ag.at hb) λaL aj=>⟨?_,ag.trans aj⟩
  refine ae List.take_add_one (ae hx (ae (Option.toList_some ..) (ae List.map_append (ae List.map_append ?_))));rfl
 ·obtain ⟨rfl,ag⟩:=j
  rw[List.length_map,List.take_length]at ha
  exact q a aL ha (ag.trans kk)
theorem RV(T:au c)(calm:c.calm=true)(t:Tm):∀h n,t.bF h→t.Wf Tb→h+2≤n→∀σ Q,σ bd=some (.dI tg (dF b))→(∀af,Keeps [] σ af→Q (dQ b t).V af)→CV c n (.ref 905) [t.V,.val (.ref bd)] σ Q:=by
 have leaf:∀{t:Tm}{n:Nat},(∀f l,t≠.s f l)→2≤n→∀σ Q,σ bd=some (.dI tg (dF b))→(∀af,Keeps [] σ af→Q (dQ b t).V af)→CV c n (.ref 905) [t.V,.val (.ref bd)] σ Q:=by
  intro t n hs hn σ Q hb q
  obtain ⟨n,rfl⟩:=Nat.exists_eq_add_of_le' (show 2≤n by assumption)
  refine gW Bt T rfl λL A stack E=>?_
  kd_in
  refine kR T hb ?_
  have q:=q σ .refl
  rw[RQ hs]at q
  have bS:∀f l,kQ b t≠.s f l:=by
   cases t with
   |s f l=>exact absurd rfl (hs f l)
   |v z=>
    intro f l
    cases b with
    |none=>intro h;contradiction
    |some p=>show (if z=p.1 then Tm.a p.2 else .v z)≠_;split<;>intro h<;>contradiction
   |_=>cases b<;>intro f l h<;>contradiction
  generalize kQ b t=e at q bS
  cases e with
  |s f l=>exact absurd rfl (bS f l)
  |v z=>kd_p;exact Br.no (by decide) (aq.go q)
  |a z=>kd_p;exact Br.no (by decide) (aq.go q)
  |i z=>kd_p;exact Br.no (by decide) (aq.go q)
 induction t using Tm.ind with
 |hv z=>exact λh n q_ q_ hn=>leaf (λf l e=>by contradiction) (by exact Nat.le_trans (Nat.le_add_left _ _) (by assumption))
 |ha z=>exact λh n q_ q_ hn=>leaf (λf l e=>by contradiction) (by exact Nat.le_trans (Nat.le_add_left _ _) (by assumption))
 |hi z=>exact λh n q_ q_ hn=>leaf (λf l e=>by contradiction) (by exact Nat.le_trans (Nat.le_add_left _ _) (by assumption))
 |hs f l ih=>
  intro h n hh wf hn σ Q hb q
  obtain ⟨n,rfl⟩:=Nat.exists_eq_add_of_le' (show 2≤n by exact Nat.le_trans (Nat.le_add_left _ _) (by assumption))
  have eh:=Tm.dY.mp hh
  have d7:=Tm.bB.mp wf
  refine gW Bt T rfl λL A stack E=>?_
  kd_in
  refine kR (t:=.s f l) T hb ?_
  refine ae (show kQ b (.s f l)= .s f l by cases b<;>rfl) ?_
  kd_p
  refine Br.yes rfl ?_
  kd_p
  refine RU T calm hb d7.2.2.2.1 (λx hx σ Q hb q=>ih x hx (h- 1) (n+1) (eh.2 x hx) (d7.2.2.2.2 x hx) (by exact M2 [_,_,_] [] 0x11110221120211000111202112211102211002110 rfl hn (Nat.sub_add_cancel (M1 [_] [] 0x11111000011111 rfl eh.1))) σ Q hb q) λa af ha ag=>?_
  kd_in
  refine CV.mI ha (sl (by refine ae (List.length_map ..) (ae (List.length_map ..) ?_);exact M1 [_] [] 0x186a0510011031100110 rfl d7.2.2.2.1)) ?_
  have q:=q af ag
  rw[RR,Tm.cH]at q
  exact aq.go q
end
end
noncomputable section
open Classical
noncomputable section
variable {c:Cx}{k:Nat}{σ:S}{y:aT}{Tb:ai}{t u:Tm}{Q:V→S→Prop}
noncomputable def lR(ν:Int→Int)(D:List Int):List (Int×V):=D.map λx=>(x,.int (ν x))
noncomputable def kS(ν:Int→Int)(D:List Int):List (Int×V):=D.map λx=>(ν x,.int x)
theorem CN{α β:Type}{x z:α}{D:List α}{b:β}[Decidable (x∈z::D)](h:z=x):some b=if x∈z::D then some b else none:=(if_pos (h▸.head _)).symm
theorem CO{α β:Type}{x z:α}{D:List α}{b:β}[Decidable (x∈D)][Decidable (x∈z::D)](h:¬z=x):(if x∈D then some b else none)=if x∈z::D then some b else none:=by
 by_cases m:x∈D
 ·exact(if_pos m).trans (if_pos (List.mem_cons_of_mem _ m)).symm
 ·exact(if_neg m).trans (if_neg λq=>Or.elim (List.mem_cons.mp q) (λe=>h e.symm) m).symm
theorem t6{ν:Int→Int}{x:Int}{D:List Int}:look (lR ν D) x=if x∈D then some (.int (ν x)) else none:=by
 induction D with
 |nil=>rfl
 |cons z D ih=>
  by_cases h:z=x
  ·exact Eq.trans (b:=some (V.int (ν z))) (lr (decide_eq_true h)) ((congrArg (λw=>some (V.int (ν w))) h).trans (CN h))
  ·exact Eq.trans (b:=look (lR ν D) x) (gT λe=>h (of_decide_eq_true e)) (ih.trans (CO h))
theorem CP{ν:Int→Int}{x:Int}{D:List Int}:(∀z∈D,ν z=ν x→z=x)→look (kS ν D) (ν x)=if x∈D then some (.int x) else none:=by
 induction D with
 |nil=>exact λq_=>rfl
 |cons z D ih=>
  intro hi
  have ih:=ih λw hw=>hi w (.tail _ hw)
  by_cases h:z=x
  ·exact Eq.trans (b:=some (V.int z)) (lr (decide_eq_true (congrArg ν h))) ((congrArg (λw=>some (V.int w)) h).trans (CN h))
  ·exact Eq.trans (b:=look (kS ν D) (ν x)) (gT λe=>h (hi z (.head _) (of_decide_eq_true e))) (ih.trans (CO h))
structure eO(σ:S)(th bk:Addr)(ν:Int→Int)(P:Int→Prop)(D:List Int):Prop where
 th:σ th=some (.dI 91 (lR ν D))
 bk:σ bk=some (.dI 92 (kS ν D))
 inj:∀x z,P x→P z→ν x=ν z→x=z
 lS:∀x∈D,P x
 len:D.length≤5000
noncomputable def Good(ν:Int→Int)(P:Int→Prop)(t u:Tm):Prop:=t.bp P∧(u=t.aQ ν∨∀x z,t.Vr x→u.Vr z→z=ν x)
theorem iu{ν:Int→Int}:(t.aQ ν).rank=t.rank:=by
 cases t with
 |s f l=>exact ae Tm.dE rfl
 |_=>rfl
noncomputable def nV:Tm→Nat:=Tm.fold (λq_=>1) (λq_=>0) (λq_=>0) (λq_ L=>L.sum)
theorem CQ{f:Nat}{l:List Tm}:nV (.s f l)= (l.map nV).sum:=Tm.ia
noncomputable def t7(th bk:Addr)(ν:Int→Int)(P:Int→Prop)(D:List Int)(n:Nat)(σ:S)(b:Bool)(Q:V→S→Prop):Prop:=∀af D',D'.length≤D.length+n→eO af th bk ν P D'→Keeps [91,92] σ af→Q (.bool b) af
theorem CR{n:Nat}(h:n≤5000):n≤sizeLine:=sl (Nat.le_trans h (by decide))
theorem RW{x z:Int}{th bk:Addr}{ν:Int→Int}{P:Int→Prop}{D:List Int}(T:au c)(M:eO σ th bk ν P D)(hx:P x)(hz:z=ν x)(hD:D.length<5000)
  (q:t7 th bk ν P D 1 σ true Q):CV c (k+1) (.ref 910) [(Tm.v x).V,(Tm.v z).V,.val (.ref th),.val (.ref bk)] σ Q:=by
 subst hz
 refine gW qI T rfl λL A stack E=>?_
 have hb:look (kS ν D) (ν x)=if x∈D then some (.int x) else none:=CP λw hw e=>M.inj _ _ (M.lS w hw) hx e
 have fin:∀(af:S) D',eO af th bk ν P D'→x∈D'→Q (.bool true) af→vX c (oA.fm L A stack) k (bT 1 (dt (cm tj 1))) E [some (Tm.v x).V,some (Tm.v (ν x)).V,some (.val (.ref th)),some (.val (.ref bk))] af (ww (λρ σ=>vX c (oA.fm L A stack) k (bT 2 tj) E ρ σ (aq Q)) (aq Q)):=by
  intro af D' M' rn q
  have h1:look (lR ν D') x=some (.int (ν x)):=by exact ae t6 (ae (if_pos rn) rfl)
  have h2:look (kS ν D') (ν x)=some (.int x):=by exact ae (CP λw hw e=>M'.inj _ _ (M'.lS w hw) hx e) (ae (if_pos rn) rfl)
  have a1:=M'.th
  have a2:=M'.bk
  kd_p
  refine CV.tq (jk c) a1 rfl h1 ?_
  kd_p
  refine Br.yes rfl ?_
  kd_p
  refine CV.tq (jk c) a2 rfl h2 ?_
  kd_p
  refine ae (decide_eq_true rfl) ?_
  exact aq.go q
 kd_p
 refine Br.no (λz=>z rfl) ?_
 kd_p
 refine Br.yes rfl ?_
 kd_p
 by_cases hm:x∈D
 ·refine OV.iQ (b:=true) M.th (by refine ae t6 (ae (if_pos hm) ?_);rfl) ?_
  refine Br.ff (Br.ff ?_)
  exact fin σ D M hm (q σ D (Nat.le_succ _) M .refl)
 ·refine OV.iQ (b:=false) M.th (by refine ae t6 (ae (if_neg hm) ?_);rfl) ?_
  refine Br.tt ?_
  kd_p
  refine OV.iQ (b:=false) M.bk (by refine ae hb (ae (if_neg hm) ?_);rfl) ?_
  refine Br.tt ?_
  kd_p
  refine OU.hG (l':=lR ν (D++ [x])) M.th (CR (by unfold lR;exact ae (List.length_map ..) (Nat.le_of_lt (by assumption)))) ((oL (by exact ae t6 (ae (if_neg hm) rfl))).trans (by unfold lR;exact ae List.map_append rfl)) λah e1 ag=>?_
  kd_p
  refine OU.hG (l':=kS ν (D++ [x])) (ag.at M.bk) (CR (by unfold kS;exact ae (List.length_map ..) (Nat.le_of_lt (by assumption)))) ((oL (by exact ae hb (ae (if_neg hm) rfl))).trans (by unfold kS;exact ae List.map_append rfl)) λav e2 aj=>?_
  have M2:eO av th bk ν P (D++ [x]):=⟨aj.at e1,e2,M.inj,λw hw=>(List.mem_append.mp hw).elim (M.lS w) λh=>by simp at h;subst h;exact hx,by refine ae List.length_append (ae List.length_singleton ?_);assumption⟩
  exact fin av _ M2 (List.mem_append_right _ (.head _)) (q av _ (by refine ae List.length_append (ae List.length_singleton ?_);exact Nat.le_refl _) M2 ((ag.am rfl).trans (aj.am rfl)))
noncomputable def knd:Tm→Str
 |.v _=>"v"
 |.a _=>"a"
 |.i _=>"i"
 |.s _ _=>"s"
theorem xU{t u:Tm}:knd t=knd u↔t.rank=u.rank:=by
 have d1:"v"≠Str.ofString "a":=by decide
 have d2:"v"≠Str.ofString "i":=by decide
 have d3:"v"≠Str.ofString "s":=by decide
 have d4:"a"≠Str.ofString "i":=by decide
 have d5:"a"≠Str.ofString "s":=by decide
 have d6:"i"≠Str.ofString "s":=by decide
 cases t<;>cases u<;>simp[knd,Tm.rank,d1,d2,d3,d4,d5,d6,d1.symm,d2.symm,d3.symm,d4.symm,d5.symm,d6.symm]
theorem It.kd {f:Fm}{E:Value→Shared→Prop}{ρ:Lo}{Q:V→S→Prop}{t:Tm}(q:Q (.str (knd t)) σ):lB c f k E ρ Q 0 t.V σ:=by
 refine It.tm (r:=.str (knd t)) ?_ q
 cases t<;>rfl
theorem CS{L:Addr}{A:Around}{stack:List Env}{E:Value→Shared→Prop}{x z:Int}{QX:Fl→Lo→S→Prop}{a b d e:Option V}(T:au c)(q:QX (.ret (.bool (decide (x=z)))) [a,b,d,e] σ)(hx:∃t,a=some (Tm.V t)∧tE t 1=some (.int x))(hz:∃t,b=some (Tm.V t)∧tE t 1=some (.int z)):
  vX c (oA.fm L A stack) (k+1) (bT 3 tj) E [a,b,d,e] σ QX:=by
 refine ak hx λt xz h1=>?_
 subst xz
 refine ak hz λu ky h2=>?_
 subst ky
 refine It.tm (n:=1) h1 ?_
 refine It.tm (n:=1) h2 ?_
 kd_p
 refine Br.dec (λh=>?_) λh=>?_
 ·rw[decide_eq_true h]at q
  refine It.tm (n:=1) h2 ?_
  kd_p
  refine CV.Hu ?_
  exact q
 ·rw[decide_eq_false h]at q
  exact q
theorem rx{ν:Int→Int}{f g:Nat}{l m:List Tm}:(Tm.s g m= (Tm.s f l).aQ ν)↔f=g∧m=l.map (Tm.aQ ν):=by
 refine ae Tm.dE ?_
 constructor
 ·intro h;have:=Tm.s.inj h;exact⟨this.1.symm,this.2⟩
 ·rintro ⟨rfl,rfl⟩;rfl
theorem RX{l:List Tm}{i:Nat}{t:Tm}(h:l[i]? =some t):((l.take i).map nV).sum+nV t≤(l.map nV).sum:=by
 have e:l.map nV= (l.take i).map nV++(l.drop i).map nV:=by exact aU List.map_append (ae (List.take_append_drop ..) rfl)
 have h':l[i]'(be h)=t:=Option.some.inj ((List.getElem?_eq_getElem (be h)).symm.trans h)
 refine ae e (ae List.sum_append (ae (List.drop_eq_getElem_cons (be h)) (ae List.map_cons (ae List.sum_cons (ae h' ?_)))))
 exact M0 [_,_,_] [] 0x2010200210002110 rfl
theorem RY{l:List Tm}{i:Nat}{t:Tm}(h:l[i]? =some t):((l.take (i+1)).map nV).sum= ((l.take i).map nV).sum+nV t:=by
 refine ae List.take_add_one (ae h (ae (Option.toList_some ..) (ae List.map_append (ae List.sum_append ?_))));simp
noncomputable def eqs(ν:Int→Int)(l m:List Tm):List Bool:=(l.zip m).map λp=>decide (p.2=p.1.aQ ν)
theorem RZ{ν:Int→Int}{l m:List Tm}{i:Nat}{t u:Tm}(h1:l[i]? =some t)(h2:m[i]? =some u):(eqs ν l m).take (i+1)= (eqs ν l m).take i++ [decide (u=t.aQ ν)]:=by
 refine ae List.take_add_one ?_
 unfold eqs
 refine ae (List.getElem?_map) (ae (List.getElem?_zip_eq_some (z:=(t,u))|>.mpr ⟨h1,h2⟩) ?_);rfl
theorem R0{ν:Int→Int}{l m:List Tm}(h:l.length=m.length):(!decide (false∈eqs ν l m))=decide (m=l.map (Tm.aQ ν)):=by
 induction l generalizing m with
 |nil=>cases m with
  |nil=>rfl
  |cons _ _=>contradiction
 |cons t l ih=>
  cases m with
  |nil=>contradiction
  |cons u m=>
   have ih:=ih (m:=m) (by simpa using h)
   unfold eqs at ih ⊢
   refine ae List.zip_cons_cons (ae List.map_cons (ae List.map_cons ?_))
   by_cases h1:u=t.aQ ν
   ·refine ae (decide_eq_true h1) ?_
    simp only[List.mem_cons,Bool.false_eq_true,false_or,List.cons.injEq,h1,true_and]
    exact ih
   ·refine ae (decide_eq_false h1) ?_
    simp[h1]
theorem R2{L:Addr}{A:Around}{stack:List Env}{E:Value→Shared→Prop}{th bk:Addr}{ν:Int→Int}{P:Int→Prop}{D:List Int}{f g:Nat}{l m:List Tm}(T:au c)(M:eO σ th bk ν P D)(hl:l.length≤3)(bU:l.length=m.length)(hD:D.length+ (l.map nV).sum≤5000)
  (ih:∀(i:Nat) (t u:Tm),l[i]? =some t→m[i]? =some u→∀σ D Q,eO σ th bk ν P D→D.length+nV t≤5000→t7 th bk ν P D (nV t) σ (decide (u=t.aQ ν)) Q→CV c k (.ref 910) [t.V,u.V,.val (.ref th),.val (.ref bk)] σ Q)
  (q:∀a af D',af a=some (.list 93 ((eqs ν l m).map .bool))→D'.length≤D.length+ (l.map nV).sum→eO af th bk ν P D'→Keeps [91,92] σ af→Q (.val (.ref a)) af):
  EV c (oA.fm L A stack) E k (fO [1] (gp (cz [2,0,1] oA.body))) [some (Tm.s f l).V,some (Tm.s g m).V,some (.val (.ref th)),some (.val (.ref bk))] σ Q:=by
 refine V.comp (x:="place") (ys:= ["left","right","there","back"]) (G':= [("_law_match",.val (.ref 910))]) (cl:= [("there",L+1+1+1),("right",L+1+1),("left",L+1),("back",L+1+1+1+1)])
  (rs:= [some (Tm.s f l).V,some (Tm.s g m).V,some (.val (.ref th)),some (.val (.ref bk))]) (ri:=.call (.type "range") (.cons (.call (.builtin "len") (.cons (.item (.loc 0) 2) .nil)) .nil)) (re:=.call (.ref 910) (.cons (.idx (.item (.loc 1) 2) (.loc 0)) (.cons (.idx (.item (.loc 2) 2) (.loc 0)) (.cons (.loc 3) (.cons (.loc 4) .nil))))) 93 T (fG 0 (l.length:Int) 1) (λq_=>True)
  (λi aG af=>aG= ((eqs ν l m).take i).map .bool∧∃D',D'.length≤D.length+ ((l.take i).map nV).sum∧eO af th bk ν P D'∧Keeps [91,92] σ af) (by kernel_rfl) (by kernel_rfl) rfl
  (fh.of T (by kernel_rfl) (by kernel_rfl) (List.forall_mem_cons.2 ⟨by kernel_rfl,List.forall_mem_cons.2 ⟨by kernel_rfl,List.forall_mem_cons.2 ⟨by kernel_rfl,List.forall_mem_cons.2 ⟨by kernel_rfl,List.forall_mem_nil _⟩⟩⟩⟩) (List.forall_mem_cons.2 ⟨List.mem_of_getElem? (i:=34) rfl,List.forall_mem_nil _⟩))
  (.cons (a:=L+1) .here rfl (by kernel_rfl) (by kernel_rfl) (by kernel_rfl) (.cons (a:=L+1+1) (.there .here) rfl (by kernel_rfl) (by kernel_rfl) (by kernel_rfl) (.cons (a:=L+1+1+1) (.there (.there .here)) rfl (by kernel_rfl) (by kernel_rfl) (by kernel_rfl) (.cons (a:=L+1+1+1+1) (.there (.there (.there .here))) rfl (by kernel_rfl) (by kernel_rfl) (by kernel_rfl) .nil)))) ?_ (λq_ q_ q_ q_=>True.intro) (by exact ae (lE (by exact Nat.le_trans (by assumption) (aD rfl))) (Nat.le_trans (by assumption) (aD rfl))) (λf' E i r aG af hr j hi=>?_) λaG af aL a j ch ha kk=>?_
 ·have sm:=lw (n:=(l.length:Int)) (by exact Int.natCast_nonneg _) (by exact nX (Nat.le_trans (by assumption) (aD rfl)))
  kd_p
  refine CV.jo (dN (by exact Nat.le_trans (by assumption) (aD rfl))) ?_
  refine ae (List.length_map ..) ?_
  kd_in
  refine CV.oo ?_
  exact⟨bI.c4 sm.1 (by exact ae sm.2 (Int.natCast_nonneg _)),rfl,D,Nat.le_refl _,M,.refl⟩
 ·refine dH j λR3 D' kT R4=>?_
  refine XA R4 λM' ag=>?_
  subst R3
  obtain ⟨rfl,dB⟩:=qT (by exact Nat.le_trans (by assumption) (aD rfl)) hr
  have h1:l[i]? =some l[i]:=List.getElem?_eq_getElem dB
  have h2:m[i]? =some (m[i]'(bU▸dB)):=List.getElem?_eq_getElem _
  kd_p
  refine IX.T (r:=l[i].V) (by exact M2 [_,_] [] 0x186a05110110001011131100110 rfl hl dB) (by refine ae (List.getElem?_map) (ae h1 ?_);rfl) ?_
  kd_p
  refine IX.T (r:=(m[i]'(bU▸dB)).V) (by exact M2 [_,_] [] 0x186a05110110001011131100110 rfl hl dB) (by refine ae (List.getElem?_map) (ae h2 ?_);rfl) ?_
  kd_in
  refine ih i _ _ h1 h2 af D' _ M' (by have:=RX h1;exact M3 [_,_,_,_,_] [] 0x138841402021101040302110300022011013884110002110 rfl hD kT this) λaL R5 R6 R7 aj=>⟨?_,R5,?_,R7,ag.trans aj⟩
  ·refine ae (RZ h1 h2) (ae List.map_append ?_);rfl
  ·exact ae (RY h1) (M2 [_,_,_,_,_] [] 0x402021023011040002301102010200110 rfl kT R6)
 ·refine dH j λR8 D' kT R9=>?_
  refine XA R9 λM' ag=>?_
  subst R8
  rw[lE (by exact Nat.le_trans (by assumption) (aD rfl)),List.take_length]at kT
  rw[lE (by exact Nat.le_trans (by assumption) (aD rfl)),List.take_of_length_le (by unfold eqs;refine ae (List.length_map ..) (ae List.length_zip ?_);lia)]at ha
  exact q a aL D' ha kT ⟨kk.at M'.th,kk.at M'.bk,M'.inj,M'.lS,M'.len⟩ (ag.trans (kk.am rfl))
theorem Sa{ν:Int→Int}{P:Int→Prop}{f g:Nat}{l m:List Tm}{i:Nat}{t u:Tm}(h:Good ν P (.s f l) (.s g m))(h1:l[i]? =some t)(h2:m[i]? =some u):Good ν P t u:=by
 refine⟨Tm.gr h.1 t (List.mem_of_getElem? h1),?_⟩
 refine Or.elim h.2 (λh3=>?_) λh3=>?_
 ·left
  have e:=(rx.mp h3).2
  rw[e,List.getElem?_map,h1]at h2
  (injection h2 with h2;subst h2);rfl
 ·right
  exact λx z hx hz=>h3 x z (Tm.ej.mpr ⟨t,List.mem_of_getElem? h1,hx⟩) (Tm.ej.mpr ⟨u,List.mem_of_getElem? h2,hz⟩)
theorem xV{th bk:Addr}{ν:Int→Int}{P:Int→Prop}{ay:ai}(T:au c)(t:Tm):∀(u:Tm) h n σ D Q,t.bF h→h+2≤n→t.Wf Tb→u.Wf ay→Good ν P t u→eO σ th bk ν P D→D.length+nV t≤5000→t7 th bk ν P D (nV t) σ (decide (u=t.aQ ν)) Q→CV c n (.ref 910) [t.V,u.V,.val (.ref th),.val (.ref bk)] σ Q:=by
 have off:∀{t u:Tm}{n:Nat}{σ:S}{D:List Int}{Q:V→S→Prop},t.rank≠u.rank→2≤n→eO σ th bk ν P D→t7 th bk ν P D (nV t) σ (decide (u=t.aQ ν)) Q→CV c n (.ref 910) [t.V,u.V,.val (.ref th),.val (.ref bk)] σ Q:=by
  intro t u n σ D Q hr hn M q
  obtain ⟨n,rfl⟩:=Nat.exists_eq_add_of_le' (show 1≤n by exact Nat.le_of_lt (by assumption))
  have q:=q σ D (Nat.le_add_right _ _) M .refl
  rw[decide_eq_false λe=>hr (by exact ae e (ae iu rfl))]at q
  refine gW qI T rfl λL A stack E=>?_
  refine It.kd ?_
  refine It.kd ?_
  kd_p
  exact Br.yes (λe=>hr (xU.mp e)) (aq.go q)
 induction t using Tm.ind with
 |hv x=>
  intro u h n σ D Q _ hn _ _ G M hD q
  cases u with
  |v z=>
   obtain ⟨n,rfl⟩:=Nat.exists_eq_add_of_le' (show 1≤n by exact Nat.le_trans (Nat.le_add_left _ _) (by assumption))
   have hz:z=ν x:=by
    refine Or.elim G.2 (λe=>?_) λe=>?_
    ·exact Tm.v.inj e
    ·exact e x z rfl rfl
   rw[decide_eq_true (show Tm.v z= (Tm.v x).aQ ν by exact ae hz rfl)]at q
   exact RW T M (G.1 x rfl) hz (by have:nV (.v x)=1:=rfl;assumption) q
  |_=>exact off (by simp[Tm.rank]) (by exact Nat.le_trans (Nat.le_add_left _ _) (by assumption)) M q
 |ha x=>
  intro u h n σ D Q _ hn _ _ G M hD q
  cases u with
  |a z=>
   obtain ⟨n,rfl⟩:=Nat.exists_eq_add_of_le' (show 2≤n by exact Nat.le_trans (Nat.le_add_left _ _) (by assumption))
   have q:=q σ D (Nat.le_add_right _ _) M .refl
   rw[show decide (Tm.a z= (Tm.a x).aQ ν)=decide ((x:Int)= (z:Int)) from decide_eq_decide.mpr ⟨λe=>by exact ae (Tm.a.inj e) rfl,λe=>by refine ae (show z=x by exact Nat.le_antisymm (M1 [_,_] [] 0x1000110106006117 rfl e) (M1 [_,_] [] 0x1000110106006116 rfl e)) ?_;rfl⟩]at q
   refine gW qI T rfl λL A stack E=>?_
   kd_p
   refine Br.no (λz=>z rfl) ?_
   kd_p
   refine Br.no (by decide) ?_
   kd_p
   refine Br.no (by decide) ?_
   exact CS T (aq.go q) ⟨_,rfl,rfl⟩ ⟨_,rfl,rfl⟩
  |_=>exact off (by simp[Tm.rank]) (by exact Nat.le_trans (Nat.le_add_left _ _) (by assumption)) M q
 |hi x=>
  intro u h n σ D Q _ hn _ _ G M hD q
  cases u with
  |i z=>
   obtain ⟨n,rfl⟩:=Nat.exists_eq_add_of_le' (show 2≤n by exact Nat.le_trans (Nat.le_add_left _ _) (by assumption))
   have q:=q σ D (Nat.le_add_right _ _) M .refl
   rw[show decide (Tm.i z= (Tm.i x).aQ ν)=decide (x=z) from decide_eq_decide.mpr ⟨λe=>(Tm.i.inj e).symm,λe=>by refine ae e ?_;rfl⟩]at q
   refine gW qI T rfl λL A stack E=>?_
   kd_p
   refine Br.no (λz=>z rfl) ?_
   kd_p
   refine Br.no (by decide) ?_
   kd_p
   refine Br.no (by decide) ?_
   exact CS T (aq.go q) ⟨_,rfl,rfl⟩ ⟨_,rfl,rfl⟩
  |_=>exact off (by simp[Tm.rank]) (by exact Nat.le_trans (Nat.le_add_left _ _) (by assumption)) M q
 |hs f l ih=>
  intro u h n σ D Q hh hn wt wu G M hD q
  cases u with
  |s g m=>
   obtain ⟨n,rfl⟩:=Nat.exists_eq_add_of_le' (show 1≤n by exact Nat.le_trans (Nat.le_add_left _ _) (by assumption))
   have w1:=Tm.bB.mp wt
   have w2:=Tm.bB.mp wu
   have eh:=Tm.dY.mp hh
   rw[CQ]at hD q
   refine gW qI T rfl λL A stack E=>?_
   kd_p
   refine Br.no (λz=>z rfl) ?_
   kd_p
   refine Br.no (by decide) ?_
   kd_p
   refine Br.yes rfl ?_
   kd_p
   refine Br.dec (λhf=>?_) λhf=>?_
   ·have q:=q σ D (Nat.le_add_right _ _) M .refl
    rw[decide_eq_false λe=>hf (by exact ae ((rx.mp e).1) rfl)]at q
    exact Br.tt (aq.go q)
   ·have hf:f=g:=by lia
    kd_p
    refine CV.jo (dN (by exact M1 [_] [] 0x186a0510011031100110 rfl w1.2.2.2.1)) ?_
    kd_p
    refine CV.jo (dN (by exact M1 [_] [] 0x186a0510011031100110 rfl w2.2.2.2.1)) ?_
    kd_p
    refine ae (List.length_map ..) (ae (List.length_map ..) ?_)
    refine Br.dec (λbU=>?_) λbU=>?_
    ·have q:=q σ D (Nat.le_add_right _ _) M .refl
     rw[decide_eq_false λe=>bU (by exact ae ((rx.mp e).2) (ae (List.length_map ..) rfl))]at q
     exact aq.go q
    ·have bU:l.length=m.length:=by lia
     kd_in
     refine R2 T M w1.2.2.2.1 bU hD (λi t u h1 h2 σ D Q M hD q=>ih t (List.mem_of_getElem? h1) u (h- 1) n σ D Q (eh.2 t (List.mem_of_getElem? h1)) (by exact M2 [_,_,_] [] 0x1021120211000111202112111102211002110 rfl hn (Nat.sub_add_cancel (M1 [_] [] 0x11111000011111 rfl eh.1))) (w1.2.2.2.2 t (List.mem_of_getElem? h1)) (w2.2.2.2.2 u (List.mem_of_getElem? h2)) (Sa G h1 h2) M hD q) λa af D' ha kT M' ag=>?_
     kd_p
     refine OV.Hw ha ?_
     have q:=q af D' kT M' ag
     rw[show decide (Tm.s g m= (Tm.s f l).aQ ν)= !decide (false∈eqs ν l m) by exact ae (R0 bU) (decide_eq_decide.mpr ⟨λe=>(rx.mp e).2,λe=>rx.mpr ⟨hf,e⟩⟩)]at q
     exact aq.go q
  |_=>exact off (by simp[Tm.rank]) (by exact Nat.le_trans (Nat.le_add_left _ _) (by assumption)) M q
end
end
noncomputable section
open Classical
noncomputable section
variable {c:Cx}{k:Nat}{σ:S}{y:aT}{Tb:ai}{t u:Tm}{Q:V→S→Prop}
noncomputable def i6(x:Str):List Int:=x.cps.toList.map λ(n:Nat)=>(n:Int)
theorem Sb(l:List Nat):∀m:List Nat,eg (l.map λ(n:Nat)=>(n:Int)) (m.map λ(n:Nat)=>(n:Int))=decide (l<m):=by
 induction l with
 |nil=>
  intro m
  cases m with
  |nil=>rfl
  |cons b m=>exact(decide_eq_true (List.nil_lt_cons b m)).symm
 |cons a l ih=>
  intro m
  cases m with
  |nil=>exact(decide_eq_false (List.not_lt_nil _)).symm
  |cons b m=>
   show (if (a:Int)=b then eg _ _ else _)=_
   by_cases h:a=b
   ·subst h
    exact(if_pos rfl).trans ((ih m).trans (decide_eq_decide.mpr ⟨λz=>List.cons_lt_cons_iff.mpr (.inr ⟨rfl,z⟩),λz=>(List.cons_lt_cons_iff.mp z).elim (λq=>absurd q (Nat.lt_irrefl _)) (·.2)⟩))
   ·exact(if_neg λz=>h (Int.ofNat.inj z)).trans (decide_eq_decide.mpr ⟨λz=>List.cons_lt_cons_iff.mpr (.inl (Int.ofNat_lt.mp z)),λz=>(List.cons_lt_cons_iff.mp z).elim (λq=>Int.ofNat_lt.mpr q) λq=>absurd q.1 h⟩)
theorem Sc(a b:Str):eg (i6 a) (i6 b)=decide (cK a b<0):=by
 unfold i6
 refine ae (Sb ..) ?_
 refine decide_eq_decide.mpr ⟨λh=>?_,λh=>?_⟩
 ·unfold cK
  refine ae (if_neg λe=>by subst e;exact List.lt_irrefl _ h) (ae (if_pos h) ?_);decide
 ·unfold cK at h
  split at h
  ·exact absurd h (by decide)
  ·split at h
   ·assumption
   ·exact absurd h (by decide)
theorem CT:∀x∈bZ,x.cps.all (· <128)=true∧x.cps.size≤100:=by decide +kernel
theorem Sd{L:Addr}{A:Around}{stack:List Env}{E:Value→Shared→Prop}{i:Nat}{w x3 x4:Option V}(T:au c)(calm:c.calm=true)(hy:ai.aX σ y Tb)(ok:Tb.Ok)(hi:i<Tb.tx.length)
  (q:∀a af,af a=some (.list 94 ((i6 (Tb.txt i)).map .int))→Keeps [] σ af→Q (.val (.ref a)) af):
  EV c (oC.fm L A stack) E (k+1) (fO [0] (gp (cz [3,0,0] oC.body))) [some (.val (.ref y.o)),some (Tm.a i).V,w,x3,x4] σ Q:=by
 have ry:=CT _ (ok.tx _ (List.mem_of_getElem? (fU hi)))
 refine V.comp (x:="char") (ys:= []) (G':= [("ord",.val (.builtin "ord"))]) (cl:= []) (rs:= []) (ri:=.ax (.loc 0) "text" (.cons (.item (.loc 1) 1) .nil)) (re:=.call (.builtin "ord") (.cons (.loc 0) .nil)) 94 T (iW (Tb.txt i)) (λq_=>True)
  (λj aG af=>aG= ((i6 (Tb.txt i)).take j).map .int∧af=σ) (by kernel_rfl) (by kernel_rfl) rfl
  (fh.of T (by kernel_rfl) (by kernel_rfl) (List.forall_mem_nil _) (List.forall_mem_cons.2 ⟨List.mem_of_getElem? (i:=93) rfl,List.forall_mem_nil _⟩)) .nil ?_ (λq_ q_ q_ q_=>True.intro) (by unfold iW;refine ae (List.length_map ..) ?_;have:=ry.2;simp;exact Nat.le_trans (by assumption) (aD rfl)) (λf' E j r aG af hr jj hj=>?_) λaG af aL a jj ch ha kk=>?_
 ·kd_p
  exact ij T hy (fU hi) (Nat.le_trans ok.jy (by decide)) ⟨bI.str calm ry.1,rfl,rfl⟩
 ·refine XA jj λSe Sf=>?_
  subst Se
  subst Sf
  unfold iW at hr
  rw[List.getElem?_map]at hr
  refine eW hr λn hn=>?_
  kd_in
  refine CV.ord rfl ⟨?_,rfl⟩
  unfold i6
  refine ae List.take_add_one (ae (List.getElem?_map) (ae hn (ae List.map_append ?_)));rfl
 ·refine XA jj λSg Si=>?_
  subst Sg
  subst Si
  refine q a aL ?_ kk
  exact ae ha (ae (List.take_of_length_le (by unfold i6 iW;simp)) rfl)
theorem Sj{L:Addr}{A:Around}{stack:List Env}{E:Value→Shared→Prop}{i:Nat}{w x3 x4:Option V}(T:au c)(calm:c.calm=true)(hy:ai.aX σ y Tb)(ok:Tb.Ok)(hi:i<Tb.tx.length)
  (q:∀a af,af a=some (.list 94 ((i6 (Tb.txt i)).map .int))→Keeps [] σ af→Q (.val (.ref a)) af):
  EV c (oC.fm L A stack) E (k+1) (fO [1] (gp (cz [3,0,0] oC.body))) [some (.val (.ref y.o)),w,some (Tm.a i).V,x3,x4] σ Q:=by
 have ry:=CT _ (ok.tx _ (List.mem_of_getElem? (fU hi)))
 refine V.comp (x:="char") (ys:= []) (G':= [("ord",.val (.builtin "ord"))]) (cl:= []) (rs:= []) (ri:=.ax (.loc 0) "text" (.cons (.item (.loc 2) 1) .nil)) (re:=.call (.builtin "ord") (.cons (.loc 0) .nil)) 94 T (iW (Tb.txt i)) (λq_=>True)
  (λj aG af=>aG= ((i6 (Tb.txt i)).take j).map .int∧af=σ) (by kernel_rfl) (by kernel_rfl) rfl
  (fh.of T (by kernel_rfl) (by kernel_rfl) (List.forall_mem_nil _) (List.forall_mem_cons.2 ⟨List.mem_of_getElem? (i:=93) rfl,List.forall_mem_nil _⟩)) .nil ?_ (λq_ q_ q_ q_=>True.intro) (by unfold iW;refine ae (List.length_map ..) ?_;have:=ry.2;simp;exact Nat.le_trans (by assumption) (aD rfl)) (λf' E j r aG af hr jj hj=>?_) λaG af aL a jj ch ha kk=>?_
 ·kd_p
  exact ij T hy (fU hi) (Nat.le_trans ok.jy (by decide)) ⟨bI.str calm ry.1,rfl,rfl⟩
 ·obtain ⟨rfl,rfl⟩:=jj
  unfold iW at hr
  rw[List.getElem?_map]at hr
  refine eW hr λn hn=>?_
  kd_in
  refine CV.ord rfl ⟨?_,rfl⟩
  unfold i6
  refine ae List.take_add_one (ae (List.getElem?_map) (ae hn (ae List.map_append ?_)));rfl
 ·obtain ⟨rfl,rfl⟩:=jj
  refine q a aL ?_ kk
  exact ae ha (ae (List.take_of_length_le (by unfold i6 iW;simp)) rfl)
theorem CU(T:au c)(calm:c.calm=true)(hy:ai.aX σ y Tb)(ok:Tb.Ok)(hi:i<Tb.tx.length)(hj:j<Tb.tx.length)(q:∀af,Keeps [] σ af→Q (.bool (decide (cK (Tb.txt i) (Tb.txt j)<0))) af):CV c (k+2) (.ref 944) [.val (.ref y.o),(Tm.a i).V,(Tm.a j).V] σ Q:=by
 refine gW qK T rfl λL A stack E=>?_
 kd_in
 refine aZ.go 95 λw ah q_ e1 ag=>?_
 kd_p
 refine Br.no (λz=>z rfl) ?_
 kd_p
 refine Br.no (by decide) ?_
 kd_p
 refine Br.yes rfl ?_
 kd_in
 refine Sd T calm (hy.kb ag) ok hi λa av e2 aj=>?_
 kd_in
 refine Sj T calm ((hy.kb ag).kb aj) ok hj λb aW e3 aC=>?_
 refine OV.eg (aC.at e2) e3 ?_
 refine ae (Sc ..) ?_
 exact aq.go (q aW (ag.trans (aj.trans aC)))
noncomputable def jJ:List Str:= ["v","i","a","s"]
theorem CW(t:Tm):∃j:Nat,jJ[j]? =some (knd t)∧(∀m z,m<j→jJ[m]? =some z→z≠knd t)∧(j:Int)=t.rank:=by
 have key:∀j,j<4→∀m z,m<j→jJ[m]? =some z→z≠jJ.getD j "":=λj hj m z hm hz e=>by
  have:jJ.Nodup:=by decide
  have h1:jJ[m]? =jJ[j]?:=by refine ae hz (ae e (ae (List.getD_eq_getElem?_getD) (ae (List.getElem?_eq_getElem (show j<jJ.length from hj)) ?_)));rfl
  have:=(List.getElem?_inj (show m<jJ.length from Nat.lt_trans hm hj) this).mp h1
  exact nf (M2 [_,_] [] 0x1111111000101131000111 rfl hm this)
 cases t with
 |v n=>exact cA 0 rfl (key 0 (by decide)) rfl
 |i n=>exact cA 1 rfl (key 1 (by decide)) rfl
 |a n=>exact cA 2 rfl (key 2 (by decide)) rfl
 |s f l=>exact cA 3 rfl (key 3 (by decide)) rfl
theorem t8(hr:t.rank≠u.rank)(hn:1≤n)(T:au c)(q:∀af,Keeps [] σ af→Q (.bool (decide (t.cmp Tb u<0))) af):CV c n (.ref 944) [.val (.ref y.o),t.V,u.V] σ Q:=by
 obtain ⟨n,rfl⟩:=Nat.exists_eq_add_of_le' (show 1≤n by assumption)
 refine bG (CW t) λi i1 i2 i3=>?_
 refine bG (CW u) λj j1 j2 j3=>?_
 refine gW qK T rfl λL A stack E=>?_
 kd_in
 refine aZ.go 95 λw ah q_ e1 ag=>?_
 have e1:ah w=some (.list 95 (jJ.map .str)):=e1
 refine It.kd ?_
 refine It.kd ?_
 kd_p
 refine Br.yes (λe=>hr (xU.mp e)) ?_
 refine ME.bl e1 rfl ?_
 refine It.kd ?_
 kd_in
 refine CV.index e1 i1 i2 (sl (by decide)) ?_
 refine ME.bl e1 rfl ?_
 refine It.kd ?_
 kd_in
 refine CV.index e1 j1 j2 (sl (by decide)) ?_
 kd_p
 have q:=q ah ag
 rw[Tm.iT hr,←i3,←j3]at q
 refine ae (show decide ((i:Int)< (j:Int))=decide (bM (i:Int) (j:Int)<0) from decide_eq_decide.mpr wF) ?_
 exact aq.go q
theorem Sk{l m:List Tm}{t u:Tm}(h1:l[i]? =some t)(h2:m[i]? =some u)(hp:l.take i=m.take i)(bS:t.cmp Tb u≠0):first (List.zipWith (Tm.cmp Tb) l m)=t.cmp Tb u:=by
 induction l generalizing m i with
 |nil=>exact aJ h1
 |cons a l ih=>
  cases m with
  |nil=>exact aJ h2
  |cons b m=>
   rw[List.zipWith_cons_cons,first]
   cases i with
   |zero=>
    cases h1;cases h2
    exact ae (if_neg bS) rfl
   |succ i=>
    rw[List.take_succ_cons,List.take_succ_cons]at hp
    have qn:=(List.cons.inj hp).1
    subst qn
    refine ae (if_pos (Tm.cmp_self Tb a)) ?_
    exact ih (by simpa using h1) (by simpa using h2) (List.cons.inj hp).2
structure Sl(c:Cx)(Tb:ai)(x0:Int)(t u:Tm)(h:Nat):Prop where
 w1:t.Wf Tb
 w2:u.Wf Tb
 v1:t.bp (· =x0)
 v2:u.bp (· =x0)
 h1:t.bF h
 h2:u.bF h
theorem lT(h1:t.bF h)(h2:u.bF h)(hh:h≤20)(q:QX (.bool (decide (t=u))) σ):OV c f E k (bY .Eq) [t.V,u.V] ρ σ QX:=by
 refine OV.eq (Tm.qN t h1) (Tm.qN u h2) (by exact M1 [_] [] 0x3c21111002152110142100210 rfl hh) (by exact M1 [_] [] 0x3c21111002152110142100210 rfl hh) ?_
 rwa [show decide (t.V=u.V)=decide (t=u) from by simp only[Tm.BC]]
theorem xW(h1:t.bF h)(h2:u.bF h)(hh:h≤20)(q:QX (.bool (decide (t≠u))) σ):OV c f E k (bY .NotEq) [t.V,u.V] ρ σ QX:=by
 refine OV.ne (Tm.qN t h1) (Tm.qN u h2) (by exact M1 [_] [] 0x3c21111002152110142100210 rfl hh) (by exact M1 [_] [] 0x3c21111002152110142100210 rfl hh) ?_
 rwa [show decide (t.V≠u.V)=decide (t≠u) from by simp only[ne_eq,Tm.BC]]
theorem Cm.lT (h1:t.bF h)(h2:u.bF h)(hh:h≤20)(q:QX (.bool (decide (t=u))) σ):dC c f k E .Eq ρ QX t.V u.V σ:=by
 have:=Mine.lT (c:=c) (k:=k) (f:=f) (E:=E) (ρ:=ρ) h1 h2 hh q
 cases t<;>cases u<;>first|exact this|(rw[Tm.cH]at *;exact this)|(simp only[Tm.cH]at *;exact this)
theorem Cm.xW (h1:t.bF h)(h2:u.bF h)(hh:h≤20)(q:QX (.bool (decide (t≠u))) σ):dC c f k E .NotEq ρ QX t.V u.V σ:=by
 have:=Mine.xW (c:=c) (k:=k) (f:=f) (E:=E) (ρ:=ρ) h1 h2 hh q
 cases t<;>cases u<;>first|exact this|(rw[Tm.cH]at *;exact this)|(simp only[Tm.cH]at *;exact this)
theorem CX(T:au c)(calm:c.calm=true)(ok:Tb.Ok)(t:Tm):∀(u:Tm) h n σ Q,Sl c Tb x0 t u h→h≤20→h+3≤n→ai.aX σ y Tb→(∀af,Keeps [] σ af→Q (.bool (decide (t.cmp Tb u<0))) af)→CV c n (.ref 944) [.val (.ref y.o),t.V,u.V] σ Q:=by
 induction t using Tm.ind with
 |hv x=>
  intro u h n σ Q g hh hn hy q
  cases u with
  |v z=>
   cases rb g.v1 g.v2 x z rfl rfl
   obtain ⟨n,rfl⟩:=Nat.exists_eq_add_of_le' (show 1≤n by exact Nat.le_trans (Nat.le_add_left _ _) (by assumption))
   refine gW qK T rfl λL A stack E=>?_
   kd_in
   refine aZ.go 95 λw ah q_ e1 ag=>?_
   have q:=q ah ag
   rw[Tm.cmp_self]at q
   kd_p
   refine Br.no (λz=>z rfl) ?_
   kd_p
   refine Br.no (by decide) ?_
   kd_p
   refine Br.no (by decide) ?_
   kd_p
   exact Br.yes rfl (Br.tt (aq.go q))
  |_=>exact t8 (by simp[Tm.rank]) (by exact Nat.le_trans (Nat.le_add_left _ _) (by assumption)) T q
 |ha x=>
  intro u h n σ Q g hh hn hy q
  cases u with
  |a z=>
   obtain ⟨n,rfl⟩:=Nat.exists_eq_add_of_le' (show 2≤n by exact Nat.le_trans (Nat.le_add_left _ _) (by assumption))
   exact CU T calm hy ok g.w1 g.w2 q
  |_=>exact t8 (by simp[Tm.rank]) (by exact Nat.le_trans (Nat.le_add_left _ _) (by assumption)) T q
 |hi x=>
  intro u h n σ Q g hh hn hy q
  cases u with
  |i z=>
   obtain ⟨n,rfl⟩:=Nat.exists_eq_add_of_le' (show 1≤n by exact Nat.le_trans (Nat.le_add_left _ _) (by assumption))
   refine gW qK T rfl λL A stack E=>?_
   kd_in
   refine aZ.go 95 λw ah q_ e1 ag=>?_
   have q:=q ah ag
   rw[show decide ((Tm.i x).cmp Tb (.i z)<0)=decide (x<z) from decide_eq_decide.mpr wF.symm]at q
   kd_p
   refine Br.no (λz=>z rfl) ?_
   kd_p
   refine Br.yes rfl ?_
   kd_p
   exact aq.go q
  |_=>exact t8 (by simp[Tm.rank]) (by exact Nat.le_trans (Nat.le_add_left _ _) (by assumption)) T q
 |hs f l ih=>
  intro u h n σ Q g hh hn hy q
  cases u with
  |s g' m=>
   obtain ⟨n,rfl⟩:=Nat.exists_eq_add_of_le' (show 3≤n by exact Nat.le_trans (Nat.le_add_left _ _) (by assumption))
   have w1:=Tm.bB.mp g.w1
   have w2:=Tm.bB.mp g.w2
   have CY:=Tm.dY.mp g.h1
   have Sm:=Tm.dY.mp g.h2
   obtain ⟨nm,f1⟩:=w1.1
   obtain ⟨mQ,f2⟩:=w2.1
   refine kZ (lK ok f1) λe1 e2 i e3 hi=>?_
   refine kZ (lK ok f2) λe4 e5 j e6 hj=>?_
   have hF:Tb.cQ f g'=if (l.length:Int)= (m.length:Int) then cK (Tb.txt i) (Tb.txt j) else bM (l.length:Int) (m.length:Int):=by
    unfold ai.cQ;exact ae e2 (ae e5 (ae e1 (ae e4 (ae e3 (ae e6 (ae (Int.toNat_natCast ..) (ae (Int.toNat_natCast ..) rfl)))))))
   have hc:∀z:Int,z≠0→Tb.cQ f g'=z→(Tm.s f l).cmp Tb (.s g' m)=z:=λz hz e=>by exact ae Tm.ib (ae e (ae (if_neg hz) rfl))
   refine gW qK T rfl λL A stack E=>?_
   kd_in
   refine aZ.go 95 λw ah q_ q_ ag=>?_
   have t9:=hy.kb ag
   kd_p
   refine Br.no (λz=>z rfl) ?_
   kd_p
   refine Br.no (by decide) ?_
   kd_p
   refine Br.no (by decide) ?_
   kd_p
   refine Br.no (by decide) ?_
   refine Cm.lT g.h1 g.h2 hh ?_
   refine Br.dec (λd8=>?_) λd8=>?_
   ·have q:=q ah ag
    rw[←d8,Tm.cmp_self]at q
    exact aq.go q
   ·kd_p
    refine CV.jo (dN (by exact M1 [_] [] 0x186a0510011031100110 rfl w1.2.2.2.1)) ?_
    kd_p
    refine CV.jo (dN (by exact M1 [_] [] 0x186a0510011031100110 rfl w2.2.2.2.1)) ?_
    kd_p
    refine ae (List.length_map ..) (ae (List.length_map ..) ?_)
    refine Br.dec (λbU=>?_) λbU=>?_
    ·kd_p
     refine CV.jo (dN (by exact M1 [_] [] 0x186a0510011031100110 rfl w1.2.2.2.1)) ?_
     kd_p
     refine CV.jo (dN (by exact M1 [_] [] 0x186a0510011031100110 rfl w2.2.2.2.1)) ?_
     kd_p
     refine ae (List.length_map ..) (ae (List.length_map ..) ?_)
     have q:=q ah ag
     rw[hc (bM (l.length:Int) (m.length:Int)) (λz=>bU (ft.mp z)) (by exact ae hF (ae (if_neg bU) rfl))]at q
     refine ae (show decide ((l.length:Int)< (m.length:Int))=decide (bM (l.length:Int) (m.length:Int)<0) from decide_eq_decide.mpr wF) ?_
     exact aq.go q
    ·have bU:l.length=m.length:=by lia
     kd_p
     refine Br.dec (λlC=>?_) λlC=>?_
     ·have h5:Tb.fs.length≤5000:=Nat.le_trans ok.oM (by decide)
      have hS:cK (Tb.txt i) (Tb.txt j)≠0:=λz=>by
       have:=(ok.m8 (be f1) (be f2)).mp (by exact ae hF (ae (if_pos (by exact Int.le_antisymm (M1 [_,_] [] 0x1060061141000112 rfl bU) (M1 [_,_] [] 0x1060061141000113 rfl bU))) (ae z rfl)))
       exact lC (by exact ae this rfl)
      kd_p
      refine o0 T t9 f1 h5 ?_
      kd_p
      refine o0 T t9 f2 h5 ?_
      refine ae e3 (ae e6 ?_)
      kd_in
      refine CU T calm t9 ok hi hj λav aj=>?_
      have q:=q av (ag.trans aj)
      rw[hc _ hS (by exact ae hF (ae (if_pos (by exact Int.le_antisymm (M1 [_,_] [] 0x1060061141000112 rfl bU) (M1 [_,_] [] 0x1060061141000113 rfl bU))) rfl))]at q
      exact aq.go q
     ·have lC:f=g':=by lia
      subst lC
      have Sn:Tb.cQ f f=0:=(ok.m8 (be f1) (be f1)).mpr rfl
      kd_p
      refine CV.jo (dN (by exact M1 [_] [] 0x186a0510011031100110 rfl w1.2.2.2.1)) ?_
      refine ae (List.length_map ..) ?_
      kd_in
      refine CV.oo ?_
      have sm:=lw (n:=(l.length:Int)) (by exact Int.natCast_nonneg _) (by exact M1 [_] [] 0x40000000000000000100611531100110 rfl w1.2.2.2.1)
      have en:=lE (n:=l.length) (by exact M1 [_] [] 0x186a0510011031100110 rfl w1.2.2.2.1)
      refine V.for (λ(x:Option V)=> [some (.val (.ref y.o)),some (Tm.s f l).V,some (Tm.s f m).V,some (.val (.ref w)),x]) _
       (λi q_ af=>l.take i=m.take i∧af=ah) _ (bI.c4 sm.1 (by exact ae sm.2 (Int.natCast_nonneg _))) none rfl ⟨rfl,rfl⟩ (λq_ q_ q_ q_=>True.intro) (λE i' r x af hr jj=>?_) λx af jj=>?_
      ·obtain ⟨rz,rfl⟩:=jj
       obtain ⟨rfl,dB⟩:=qT (by exact M1 [_] [] 0x186a0510011031100110 rfl w1.2.2.2.1) hr
       have g1:l[i']? =some l[i']:=List.getElem?_eq_getElem dB
       have g2:m[i']? =some (m[i']'(bU▸dB)):=List.getElem?_eq_getElem _
       have m1:=List.mem_of_getElem? g1
       have m2:=List.mem_of_getElem? g2
       have a1:=CY.2 _ m1
       have a2:=Sm.2 _ m2
       have T1:(l.map Tm.V)[i']? =some l[i'].V:=by refine ae (List.getElem?_map) (ae g1 ?_);rfl
       have T2:(m.map Tm.V)[i']? =some (m[i']'(bU▸dB)).V:=by refine ae (List.getElem?_map) (ae g2 ?_);rfl
       kd_p
       refine IX.T (by exact M2 [_,_] [] 0x186a05110110001011131100110 rfl w1.2.2.2.1 dB) T1 ?_
       kd_p
       refine IX.T (by exact M2 [_,_] [] 0x186a05110110001011131100110 rfl w1.2.2.2.1 dB) T2 ?_
       refine Cm.xW a1 a2 (by exact M2 [_,_] [] 0x1421101100010110142100110 rfl hh (Nat.sub_le _ _)) ?_
       refine Br.dec (λbS=>?_) λbS=>?_
       ·kd_p
        refine IX.T (by exact M2 [_,_] [] 0x186a05110110001011131100110 rfl w1.2.2.2.1 dB) T1 ?_
        kd_p
        refine IX.T (by exact M2 [_,_] [] 0x186a05110110001011131100110 rfl w1.2.2.2.1 dB) T2 ?_
        kd_in
        have b1:=w1.2.2.2.2 _ m1
        have b2:=w2.2.2.2.2 _ m2
        refine ih _ m1 _ (h- 1) (n+2) af _ ⟨b1,b2,Tm.gr g.v1 _ m1,Tm.gr g.v2 _ m2,a1,a2⟩ (by exact M2 [_,_] [] 0x1421101100010110142100110 rfl hh (Nat.sub_le _ _)) (by exact M2 [_,_,_] [] 0x21110231120211000111202112311102311002110 rfl hn (Nat.sub_add_cancel (M1 [_] [] 0x11111000011111 rfl CY.1))) t9 λaL aj=>?_
        have q:=q aL (ag.trans aj)
        rw[Tm.ib,if_pos Sn,Sk g1 g2 rz (λz=>bS ((Tm.tB ok _ b1 b2).mp z))]at q
        exact aq.go q
       ·refine .mk _ rfl ⟨?_,rfl⟩
        exact ae List.take_add_one (ae List.take_add_one (ae rz (ae g1 (ae g2 (ae (Classical.not_not.mp bS) rfl)))))
      ·obtain ⟨rz,rfl⟩:=jj
       rw[en,List.take_length,bU,List.take_length]at rz
       exact absurd (by exact ae rz rfl) d8
  |_=>exact t8 (by simp[Tm.rank]) (by exact Nat.le_trans (Nat.le_add_left _ _) (by assumption)) T q
end
end
noncomputable section
open Classical
noncomputable section
variable {c:Cx}{k:Nat}{σ:S}{y:aT}{Tb:ai}{t u:Tm}{Q:V→S→Prop}
theorem It.L {l:List V}(ha:σ a=some (.list tg l))(hn:Nat.ble n 1000=true)(hx:l[n]? =some r)(q:Q r σ):lB c f k E ρ Q n (.val (.ref a)) σ:=
 IX.L ha (Int.natCast_nonneg n) (by have:=aD hn;show (n:Int)<_;exact pK (Nat.le_trans (by assumption) (aD rfl))) hx q
theorem Bi.mod {a b:Int}(hb:b≠0)(hp:Builtin.divisionGoesByPylong a b=false)(q:Q (.int (a.fmod b)) σ):m4 c f k E .Mod ρ Q (.int a) (.int b) σ:=OV.mod hb hp q
theorem Bi.fdiv {a b:Int}(hb:b≠0)(hp:Builtin.divisionGoesByPylong a b=false)(q:Q (.int (a.fdiv b)) σ):m4 c f k E .FloorDiv ρ Q (.int a) (.int b) σ:=OV.fdiv hb hp q
local macro_rules | `(tactic|walk_at "v")=>`(tactic|((with_reducible apply It.L);(assumption);(exact rfl);(exact rfl)))
theorem ua{x y:Int}(h:y.natAbs.log2<9000):Builtin.divisionGoesByPylong x y=false:=by
 unfold Builtin.divisionGoesByPylong
 have:¬((if (y==0)=true then 0 else y.natAbs.log2 / 30+1)>300):=by split<;>lia
 simp only[decide_eq_false this,Bool.false_and]
structure jK(σ:S)(hd cl:Addr):Prop where
 ex:∃(xs:List Int) (i:Nat) (n s:Int),σ hd=some (.list 101 [.val (.ref cl),.int (i:Int),.int n,.int s])∧σ cl=some (.list 102 (xs.map .int))∧i≤xs.length∧xs.length≤63∧0≤n∧0≤s∧s<2147483648
theorem jK.keep {X:List Nat}(h:jK σ hd cl)(q:Keeps X σ af)(hX:(X.elem 101||X.elem 102)=false:=by rfl):jK af hd cl:=by
 rw[Bool.or_eq_false_iff]at hX
 refine bH h.ex λxs i n s So=>?_
 refine cq So λh1 h2 r=>?_
 exact⟨xs,i,n,s,q.at h1 hX.1,q.at h2 hX.2,r⟩
theorem po{a b:Int}(hb:0<b):0≤a.fmod b∧a.fmod b<b:=⟨Int.fmod_nonneg_of_pos a hb,Int.fmod_lt_of_pos a hb⟩
theorem Sp{a b:Int}(ha:0≤a)(hb:0<b):0≤a.fdiv b:=by
 exact ae (Int.fdiv_eq_ediv_of_nonneg _ (Int.le_of_lt hb)) (Int.ediv_nonneg ha (Int.le_of_lt hb))
theorem Sq(T:au c)(h:jK σ hd cl)(h0:0<lim)(hp:∀a,Builtin.divisionGoesByPylong a lim=false)(q:∀d af,0≤d→d<lim→jK af hd cl→Keeps [101] σ af→Q (.int d) af):CV c (k+1) (.ref 881) [.val (.ref hd),.int lim] σ Q:=by
 refine D4 h.ex λxs i n s h1 h2 h3 h4 h5 h6 h7=>?_
 have bS:lim≠0:=by exact λh=>nf (M2 [] [_] 0x111111100110011600011115 rfl h0 h)
 refine gV NL T rfl λf E=>?_
 have fin:∀(af:S) (CZ C1:Option V) (i:Nat) (n:Int),af hd=some (.list 101 [.val (.ref cl),.int (i:Int),.int n,.int s])→af cl=some (.list 102 (xs.map .int))→i≤xs.length→0≤n→Keeps [101] σ af→
   vX c f k (bT 1 Bs) E [some (.val (.ref hd)),some (.int lim),CZ,C1] af (aq Q):=by
  intro af CZ C1 i n h1 h2 h3 h5 ag
  kd_p
  refine Bi.mod bS (hp _) ?_
  kd_p
  refine Bi.fdiv bS (hp _) ?_
  kd_in
  refine OU.lz h1 (by decide) (by decide) (aD rfl) λaL e1 aj=>?_
  kd_in
  exact aq.go (q _ aL (po h0).1 (po h0).2 ⟨xs,i,n.fdiv lim,s,e1,aj.at h2,h3,h4,Sp h5 h0,h6,h7⟩ (ag.trans (aj.am rfl)))
 kd_p
 refine Br.dec (λhn=>?_) λhn=>fin σ _ _ i n h1 h2 h3 h5 .refl
 kd_p
 refine CV.iR h2 (by exact Nat.le_trans (by assumption) (aD rfl)) ?_
 kd_p
 refine Br.dec (λhi=>?_) λhi=>?_
 ·kd_p
  refine Bi.mul (IntMulOk.of_left (intBits_le_64 (by exact M1 [] [_] 0x1000000000000000001411500011114 rfl h6) (by exact M1 [] [_] 0x100000000000000000100115800000008100115 rfl h7))) ?_
  kd_p
  refine Bi.mod (by decide) (ua (by decide)) ?_
  kd_in
  have hs:=po (a:=s*48271) (b:=2147483647) (by decide)
  refine OU.lz h1 (by decide) (by decide) (aD rfl) λah e1 ag=>?_
  kd_p
  refine Bi.fdiv (by decide) (ua (by decide)) ?_
  kd_p
  refine Bi.mod bS (hp _) ?_
  exact aq.go (q _ ah (po h0).1 (po h0).2 ⟨xs,i,n,_,e1,ag.at h2,h3,h4,h5,hs.1,by exact M1 [] [_] 0x8000000081001157fffffff8100115 rfl hs.2⟩ (ag.am rfl))
 ·have bq:i<xs.length:=by lia
  have hx:(xs.map V.int)[i]? =some (.int xs[i]):=by refine ae (List.getElem?_map) (ae (List.getElem?_eq_getElem bq) ?_);rfl
  kd_p
  refine IX.L h2 (Int.natCast_nonneg i) (by exact M2 [_,_] [] 0x8000000000000000010061153f21101101000110 rfl h3 h4) (by exact ae (Int.toNat_natCast ..) hx) ?_
  kd_p
  refine OU.lz h1 (by decide) (by decide) (aD rfl) λah e1 ag=>?_
  have e1:ah hd=some (.list 101 [.val (.ref cl),.int ((i+1:Nat):Int),.int n,.int s]):=e1
  have f1:=ag.at h2
  kd_p
  refine Br.dec (λhg=>?_) λhg=>?_
  ·kd_in
   refine OU.lz e1 (by decide) (by decide) (aD rfl) λav e2 aj=>?_
   exact fin av _ _ (i+1) _ e2 (aj.at f1) bq hg ((ag.am rfl).trans (aj.am rfl))
  ·kd_p
   refine OU.lz e1 (by decide) (by decide) (aD rfl) λav e2 aj=>?_
   exact fin av _ _ (i+1) _ e2 (aj.at f1) bq (by exact M1 [] [_] 0x401111401100115 rfl (Int.not_le.mp hg)) ((ag.am rfl).trans (aj.am rfl))
end
end
noncomputable section
open Classical
noncomputable section
variable {c:Cx}{k:Nat}{σ:S}{y:aT}{Tb:ai}{t u:Tm}{Q:V→S→Prop}{hd cl:Addr}
structure Gn(σ:S)(hd cl:Addr)(y:aT)(Tb:ai):Prop where
 H:jK σ hd cl
 hy:ai.aX σ y Tb
 ok:Tb.Ok
 f0:Tb.fs[0]? =some (1,2)
 a0:0<Tb.tx.length
theorem Gn.iY (h:Gn σ hd cl y Tb):hY σ y.o 174 ["texts","atom_numbers","functors","functor_numbers"] [.val (.ref y.tx),.val (.ref y.an),.val (.ref y.fs),.val (.ref y.fn)]:=h.hy.inst
theorem Gn.tab {ay:ai}{X:List Nat}(h:Gn σ hd cl y Tb)(hy:ai.aX af y ay)(ok:ay.Ok)(e:Tb.Ext ay)(k:Keeps X σ af)(hX:(X.elem 101||X.elem 102)=false:=by rfl):Gn af hd cl y ay:=⟨h.H.keep k hX,hy,ok,bW e.fs h.f0,Nat.lt_of_lt_of_le h.a0 e.tx.length_le⟩
theorem Gn.draw {X:List Nat}(h:Gn σ hd cl y Tb)(H:jK af hd cl)(k:Keeps X σ af)(e:X.all (λt=>Nat.blt 6 t)=true:=by rfl):Gn af hd cl y Tb:=⟨H,h.hy.kb k e,h.ok,h.f0,h.a0⟩
noncomputable def GP(hd cl:Addr)(y:aT)(Tb:ai)(h N:Nat)(σ:S)(Q:V→S→Prop):Prop:=∀(t:Tm) (ay:ai) (af:S),t.Wf ay→t.bp (· =0)→t.bF h→t.sz≤N→Gn af hd cl y ay→Tb.Ext ay→Keeps [3,4,5,6,101] σ af→Q t.V af
theorem fW{lim:Int}(T:au c)(g:Gn σ hd cl y Tb)(h0:0<lim)(hp:lim.natAbs.log2<9000)(q:∀d af,0≤d→d<lim→Gn af hd cl y Tb→Keeps [101] σ af→Q (.int d) af):CV c (k+1) (.ref 881) [.val (.ref hd),.int lim] σ Q:=
 Sq T g.H h0 (λq_=>ua hp) λd af h1 h2 h3 ag=>q d af h1 h2 (g.draw h3 ag) ag
theorem xX(T:au c)(g:Gn σ hd cl y Tb)(hx:bZ.contains x=true)(q:∀(n:Nat) ay af,Gn af hd cl y ay→Tb.Ext ay→ay.tx[n]? =some x→Keeps [3,4] σ af→Q (.int (n:Int)) af):CV c (k+1) (.ref 108) [.val (.ref y.o),.str x] σ Q:=
 gw T g.hy g.ok (List.contains_iff_mem.mp hx) λaf n T' h1 h2 h3 q_ h5 h6=>by
  exact q n T' af (g.tab h1 h2 h3 h6) h3 h5 h6
theorem xY(T:au c)(g:Gn σ hd cl y Tb)(hN:1≤N)(q:GP hd cl y Tb h N σ Q):CV c (k+2) (.ref 927) [.val (.ref hd),.val (.ref y.o)] σ Q:=by
 have lU:∀t:Tm,(∀f l,t≠.s f l)→t.bF h∧t.sz≤N:=λt ht=>by
  cases t with
  |s f l=>exact absurd rfl (ht f l)
  |_=>exact⟨trivial,hN⟩
 refine gV NV T rfl λf E=>?_
 kd_in
 refine fW T g (by decide) (by decide) λd ah d0 d1 g1 ag=>?_
 kd_p
 refine Br.dec (λh5=>?_) λh5=>?_
 ·exact aq.go (q (.v 0) Tb ah trivial (λx hx=>hx) (lU _ λq_ q_ e=>by contradiction).1 (lU _ λq_ q_ e=>by contradiction).2 g1 (.refl _) (ag.am rfl))
 ·kd_p
  refine Br.dec (λh2=>?_) λh2=>?_
  ·kd_p
   refine Br.dec (λh3=>?_) λh3=>?_
   ·kd_in
    refine fW T g1 (by decide) (by decide) λd' av q_ q_ g2 aj=>?_
    kd_p
    exact aq.go (q (.i (d'- 1)) Tb av trivial (λx hx=>hx.elim) (lU _ λq_ q_ e=>by contradiction).1 (lU _ λq_ q_ e=>by contradiction).2 g2 (.refl _) ((ag.am rfl).trans (aj.am rfl)))
   ·refine OV.Fj ?_
    kd_in
    refine fW T g1 (by decide) (by decide +kernel) λd' av q_ q_ g2 aj=>?_
    refine OV.Fk ?_
    kd_p
    exact aq.go (q (.i (d'- 10000000000000000000)) Tb av trivial (λx hx=>hx.elim) (lU _ λq_ q_ e=>by contradiction).1 (lU _ λq_ q_ e=>by contradiction).2 g2 (.refl _) ((ag.am rfl).trans (aj.am rfl)))
  ·kd_p
   refine xX T g1 (by decide +kernel) λn1 T1 av g2 x1 t1 aj=>?_
   kd_p
   refine xX T g2 (by decide +kernel) λn2 T2 aW g3 x2 t2 aC=>?_
   kd_p
   refine xX T g3 (by decide +kernel) λn3 T3 bn g4 x3 t3 aM=>?_
   refine aZ.go 96 λw ci q_ e5 bj=>?_
   have g5:=g4.draw (g4.H.keep bj) bj
   kd_in
   refine fW T g5 (by decide) (by decide) λd' gJ e0 e1 g6 cJ=>?_
   have hx:∃m:Nat, [V.int 0,.int (n1:Int),.int (n2:Int),.int (n3:Int)][d'.toNat]? =some (.int (m:Int))∧m<T3.tx.length:=by
    have b1:=be (bW x3.tx (bW x2.tx t1))
    have b2:=be (bW x3.tx t2)
    have b3:=be t3
    exact yH e0 e1 ⟨0,rfl,g4.a0⟩ ⟨n1,rfl,b1⟩ ⟨n2,rfl,b2⟩ ⟨n3,rfl,b3⟩
   refine ak hx λm hm bq=>?_
   refine IX.L (cJ.at e5) e0 (by exact M1 [] [_] 0x8000000000000000010011541100115 rfl e1) hm ?_
   exact aq.go (q (.a m) T3 gJ bq (λx hx=>hx.elim) (lU _ λq_ q_ e=>by contradiction).1 (lU _ λq_ q_ e=>by contradiction).2 g6 (x1.trans (x2.trans x3)) ((ag.am rfl).trans ((aj.am rfl).trans ((aC.am rfl).trans ((aM.am rfl).trans ((bj.am rfl).trans (cJ.am rfl)))))))
noncomputable def lV:Nat→Nat
 | 0=>1
 |n+1=>2+3* (lV n+1)
theorem Sr(n:Nat):1≤lV n:=by cases n<;>exact Nat.succ_pos _
theorem Ss{l:List Tm}(hl:l.length≤3)(h:∀t∈l,t.sz≤N):(Tm.s f l).sz≤2+3* (N+1):=by
 refine ae Tm.dq ?_
 have key:∀l:List Tm,(∀t∈l,t.sz≤N)→(l.map λt=>t.sz+1).sum≤l.length* (N+1):=by
  intro l
  induction l with
  |nil=>intro _;simp
  |cons t l ih=>
   intro h
   have h1:=h t (.head _)
   have h2:=ih λu hu=>h u (.tail _ hu)
   refine ae List.map_cons (ae List.sum_cons (ae List.length_cons (ae (Nat.succ_mul ..) ?_)))
   exact M2 [_,_,_,_] [] 0x11110230220111002211030201101000110 rfl h1 h2
 have h1:=key l h
 have h2:=Nat.mul_le_mul_right (N+1) hl
 exact M2 [_,_,_] [] 0x1112023152112002112110111202315101101000110 rfl h1 h2
theorem GP.mono {X:List Nat}(q:GP hd cl y Tb h N σ Q)(e:Tb.Ext ay)(k:Keeps X σ af)(hX:X.all [3,4,5,6,101].contains=true)(hh:∀t:Tm,t.bF h'→t.sz≤N'→t.bF h∧t.sz≤N)(hQ:∀t aL,Q (Tm.V t) aL→Q' (Tm.V t) aL):GP hd cl y ay h' N' af Q':=λt T2 C2 a1 a2 a3 a4 a5 a6 a7=>
 hQ t C2 (q t T2 C2 a1 a2 (hh t a3 a4).1 (hh t a3 a4).2 a5 (e.trans a6) ((k.am hX).trans a7))
theorem Su{L:Addr}{A:Around}{stack:List Env}{E:Value→Shared→Prop}{d n:Nat}{x4:Option V}(T:au c)(g:Gn σ hd cl y Tb)(hn:n≤3)
  (ih:∀σ Tb Q,Gn σ hd cl y Tb→GP hd cl y Tb d (lV d) σ Q→CV c k (.ref 932) [.val (.ref hd),.val (.ref y.o),.int (d:Int)] σ Q)
  (q:∀a (l:List Tm) ay af,af a=some (.list 97 (l.map Tm.V))→l.length=n→(∀t∈l,t.Wf ay∧t.bp (· =0)∧t.bF d∧t.sz≤lV d)→Gn af hd cl y ay→Tb.Ext ay→Keeps [3,4,5,6,101] σ af→Q (.val (.ref a)) af):
  EV c (oB.fm L A stack) E k (fO [2,1] (gp (cz [3] oB.body))) [some (.val (.ref hd)),some (.val (.ref y.o)),some (.int ((d+1:Nat):Int)),some (.int (n:Int)),x4] σ Q:=by
 refine V.comp (x:="_") (ys:= ["hand","names","depth"]) (G':= [("_law_tree",.val (.ref 932))]) (cl:= [("names",L+1+1),("hand",L+1),("depth",L+1+1+1)])
  (rs:= [some (.val (.ref hd)),some (.val (.ref y.o)),some (.int ((d+1:Nat):Int))]) (ri:=.call (.type "range") (.cons (.loc 3) .nil)) (re:=.call (.ref 932) (.cons (.loc 1) (.cons (.loc 2) (.cons (.bin .Sub (.loc 3) (.int 1)) .nil)))) 97 T (fG 0 (n:Int) 1) (λq_=>True)
  (λi aG af=>∃(l:List Tm) (ay:ai),aG=l.map Tm.V∧l.length=i∧(∀t∈l,t.Wf ay∧t.bp (· =0)∧t.bF d∧t.sz≤lV d)∧Gn af hd cl y ay∧Tb.Ext ay∧Keeps [3,4,5,6,101] σ af) (by kernel_rfl) (by kernel_rfl) rfl
  (fh.of T (by kernel_rfl) (by kernel_rfl) (List.forall_mem_cons.2 ⟨by kernel_rfl,List.forall_mem_cons.2 ⟨by kernel_rfl,List.forall_mem_cons.2 ⟨by kernel_rfl,List.forall_mem_nil _⟩⟩⟩) (List.forall_mem_cons.2 ⟨List.mem_of_getElem? (i:=37) rfl,List.forall_mem_nil _⟩))
  (.cons (a:=L+1) .here rfl (by kernel_rfl) (by kernel_rfl) (by kernel_rfl) (.cons (a:=L+1+1) (.there .here) rfl (by kernel_rfl) (by kernel_rfl) (by kernel_rfl) (.cons (a:=L+1+1+1) (.there (.there .here)) rfl (by kernel_rfl) (by kernel_rfl) (by kernel_rfl) .nil))) ?_ (λq_ q_ q_ q_=>True.intro) (by exact ae (lE (by exact Nat.le_trans (by assumption) (aD rfl))) (Nat.le_trans (by assumption) (aD rfl))) (λf' E i r aG af hr j hi=>?_) λaG af aL a j ch ha kk=>?_
 ·have sm:=lw (n:=(n:Int)) (by exact Int.natCast_nonneg _) (by exact nX (Nat.le_trans (by assumption) (aD rfl)))
  kd_in
  refine CV.oo ?_
  exact⟨bI.c4 sm.1 (by exact ae sm.2 (Int.natCast_nonneg _)), [],Tb,rfl,rfl,λq_ h=>absurd h List.not_mem_nil,g,.refl _,.refl⟩
 ·refine nW j λl T1 xZ h1 h2 g1 Sv=>?_
  refine XA Sv λe1 ag=>?_
  subst xZ
  kd_p
  refine ae (show (((d+1:Nat):Int)- 1)= (d:Int) by simp) ?_
  refine ih af T1 _ g1 λt T2 av a1 a2 a3 a4 g2 e2 aj=>uA (l++ [t]) T2 (by exact ae List.map_append rfl) (by refine ae List.length_append (ae h1 ?_);rfl) (λu hu=>?_) g2 (e1.trans e2) (ag.trans aj)
  refine Or.elim (List.mem_append.mp hu) (λhu=>?_) λhu=>?_
  ·exact⟨(h2 u hu).1.ext e2,(h2 u hu).2⟩
  ·simp at hu;subst hu;exact⟨a1,a2,a3,a4⟩
 ·refine nW j λl T1 xQ h1 h2 g1 Sw=>?_
  refine XA Sw λe1 ag=>?_
  subst xQ
  rw[lE (by exact Nat.le_trans (by assumption) (aD rfl))]at h1
  exact q a l T1 aL ha h1 h2 (g1.draw (g1.H.keep kk) kk) e1 (ag.trans (kk.am rfl))
theorem ub(T:au c):∀(d n:Nat),d+3≤n→∀σ Tb Q,Gn σ hd cl y Tb→GP hd cl y Tb d (lV d) σ Q→CV c n (.ref 932) [.val (.ref hd),.val (.ref y.o),.int (d:Int)] σ Q:=by
 intro d
 induction d with
 |zero=>
  intro n hn σ Tb Q g q
  obtain ⟨n,rfl⟩:=Nat.exists_eq_add_of_le' (show 3≤n by assumption)
  refine gW Bv T rfl λL A stack E=>?_
  kd_in
  refine fW T g (by decide) (by decide) λar ah q_ q_ g1 ag=>?_
  have q1:=λQ' (hQ:∀t aL,Q (Tm.V t) aL→Q' (Tm.V t) aL)=>q.mono (Q':=Q') (.refl _) ag rfl (λt a b=>⟨a,b⟩) hQ
  kd_p
  refine Br.dec (λh=>Br.tt ?_) λh=>?_
  ·kd_in
   exact xY T g1 (Nat.le_refl _) (q1 _ λt aL z=>aq.go z)
  ·kd_p
   refine Br.yes rfl ?_
   kd_in
   exact xY T g1 (Nat.le_refl _) (q1 _ λt aL z=>aq.go z)
 |succ d ih=>
  intro n hn σ Tb Q g q
  obtain ⟨n,rfl⟩:=Nat.exists_eq_add_of_le' (show 3≤n by exact Nat.le_trans (Nat.le_add_left _ _) (by assumption))
  refine gW Bv T rfl λL A stack E=>?_
  kd_in
  refine fW T g (by decide) (by decide) λar ah a0 a1 g1 ag=>?_
  kd_p
  refine Br.dec (λh=>Br.tt ?_) λh=>?_
  ·kd_in
   exact xY T g1 (Sr _) (q.mono (.refl _) ag rfl (λt a b=>⟨a,b⟩) λt aL z=>aq.go z)
  ·kd_p
   refine Br.no (by exact λh=>nf (M1 [_] [] 0x111111100111110026116 rfl h)) ?_
   obtain ⟨ar,rfl⟩:∃m:Nat,ar= (m:Int):=⟨ar.toNat,by exact Int.le_antisymm (M1 [_] [_] 0x60011400600117 rfl (Int.toNat_of_nonneg (M1 [] [_] 0x1111400011114 rfl a0))) (M1 [_] [_] 0x611400006116 rfl (Int.toNat_of_nonneg (M1 [] [_] 0x1111400011114 rfl a0)))⟩
   have pq:ar≤3∧0<ar:=by lia
   have go:∀(f:Nat) ay av x4,Gn av hd cl y ay→Tb.Ext ay→Keeps [3,4,5,6,101] σ av→(∃nm:Int,ay.fs[f]? =some (nm,(ar:Int)))→(f=0→ar=2)→
     vX c (oB.fm L A stack) (n+2) (bT 3 wC) E (gk [some (.val (.ref hd)),some (.val (.ref y.o)),some (.int ((d+1:Nat):Int)),some (.int (ar:Int)),x4] 4 (some (.int (f:Int)))) av (aq Q):=by
    intro f ay av x4 g2 e2 aj hf Sx
    kd_in
    refine Su T g2 pq.1 (λσ Tb Q g q=>ih (n+2) (by exact M1 [_,_] [] 0x2111023110021103111023111110022110 rfl hn) σ Tb Q g q) λa l T3 aW ha en hl g3 e3 aC=>?_
    kd_in
    refine CV.mI ha (dN (by exact M2 [_,_] [] 0x186a05110110001011231100110 rfl pq.1 en)) ?_
    refine XE hf λnm hf=>?_
    have r:=q (.s f l) T3 aW (Tm.bB.mpr ⟨⟨nm,by exact ae en (bW e3.fs hf)⟩,λz=>by refine ae en ?_;exact Sx z,by exact M2 [_,_] [] 0x10011111100011300011111 rfl pq.2 en,by exact M2 [_,_] [] 0x31110110001011231100110 rfl pq.1 en,λt ht=>(hl t ht).1⟩)
     (λx hx=>by refine ak (Tm.ej.mp hx) λt ht hx=>?_;exact(hl t ht).2.1 x hx) (Tm.dY.mpr ⟨Nat.succ_pos _,λt ht=>(hl t ht).2.2.1⟩) (by exact Ss (by exact M2 [_,_] [] 0x31110110001011231100110 rfl pq.1 en) λt ht=>(hl t ht).2.2.2) g3 (e2.trans e3) (aj.trans aC)
    rw[Tm.cH]at r
    exact aq.go r
   have func:∀av,Gn av hd cl y Tb→Keeps [101] σ av→vE c (oB.fm L A stack) (n+2) E (.ax (.loc 1) "func" (.cons (.idx (.list (.cons (.str "ab") (.cons (.str "b") .nil))) (.call (.ref 881) (.cons (.loc 0) (.cons (.int 2) .nil)))) (.cons (.loc 3) .nil)))
     [some (.val (.ref hd)),some (.val (.ref y.o)),some (.int ((d+1:Nat):Int)),some (.int (ar:Int)),none] av (A7 (ww (λρ σ=>vX c (oB.fm L A stack) (n+2) (bT 3 wC) E ρ σ (aq Q)) (aq Q)) [some (.val (.ref hd)),some (.val (.ref y.o)),some (.int ((d+1:Nat):Int)),some (.int (ar:Int)),none] 4):=by
    intro av g2 aj
    kd_p
    refine aZ.go 96 λw aW q_ e3 aC=>?_
    have g3:=g2.draw (g2.H.keep aC) aC
    kd_in
    refine fW T g3 (by decide) (by decide) λb bn b0 b1 g4 aM=>?_
    have hx:∃x:Str, [V.str "ab",.str "b"][b.toNat]? =some (.str x)∧bZ.contains x=true:=by
     exact DX b0 b1 ⟨_,rfl,by decide +kernel⟩ ⟨_,rfl,by decide +kernel⟩
    refine ak hx λx hx Sy=>?_
    refine IX.L (aM.at e3) b0 (by exact M1 [] [_] 0x8000000000000000010011521100115 rfl b1) hx ?_
    kd_in
    refine qX T g4.hy g4.ok (List.contains_iff_mem.mp Sy) ⟨by assumption,by exact M1 [_] [] 0x81100611431100110 rfl pq.1⟩ λci mf i T5 y5 nK e5 i5 f5 bj=>?_
    have g5:=g4.tab y5 nK e5 bj
    refine go mf T5 ci none g5 e5 ((aj.am rfl).trans ((aC.am rfl).trans ((aM.am rfl).trans (bj.am rfl)))) ⟨_,f5⟩ λz=>?_
    subst z
    have:=g5.f0.symm.trans f5
    simp only[Option.some.injEq,Prod.mk.injEq]at this
    exact Nat.le_antisymm (M1 [_] [] 0x21100110211006117 rfl this.2) (M1 [_] [] 0x211110006211116 rfl this.2)
   kd_p
   refine Br.dec (λh2=>?_) λh2=>?_
   ·kd_in
    refine fW T g1 (by decide) (by decide) λb av q_ q_ g2 aj=>?_
    kd_p
    refine Br.dec (λh3=>?_) λh3=>?_
    ·exact go 0 Tb av none g2 (.refl _) ((ag.am rfl).trans (aj.am rfl)) ⟨1,by exact ae h2 g2.f0⟩ λq_=>by exact Int.ofNat.inj (by assumption)
    ·exact func av g2 (ag.trans aj)
   ·exact Br.ff (func ah g1 ag)
end
end
noncomputable section
open Classical
noncomputable section
variable {c:Cx}{k:Nat}{σ:S}{y:aT}{Tb:ai}{t u:Tm}{Q:V→S→Prop}{hd cl:Addr}
theorem Sz{l:List Tm}{t u:Tm}(h:l[i]? =some t)(hu:u.sz≤t.sz+N):(Tm.s f (l.set i u)).sz≤(Tm.s f l).sz+N:=by
 refine ae Tm.dq (ae Tm.dq ?_)
 have key:∀(l:List Tm) (i:Nat),l[i]? =some t→((l.set i u).map λt=>t.sz+1).sum≤(l.map λt=>t.sz+1).sum+N:=by
  intro l
  induction l with
  |nil=>intro i h;exact aJ h
  |cons a l ih=>
   intro i h
   cases i with
   |zero=>cases h;refine ae List.set_cons_zero (ae List.map_cons (ae List.map_cons (ae List.sum_cons (ae List.sum_cons ?_))));exact M1 [_,_,_,_] [] 0x2030111102223011100221102010200110 rfl hu
   |succ i=>have:=ih i (by simpa using h);refine ae List.set_cons_succ (ae List.map_cons (ae List.map_cons (ae List.sum_cons (ae List.sum_cons ?_))));exact M1 [_,_,_,_] [] 0x2010111302220011130221102010200110 rfl this
 have:=key l i h
 exact M1 [_,_,_] [] 0x2010211220021121102010200110 rfl this
theorem ya{l:List Tm}(h:x∈l.set i u):x∈l∨x=u:=List.mem_or_eq_of_mem_set h
theorem SD(T:au c)(t:Tm):∀(h n:Nat),h+5≤n→∀σ Tb Q,Gn σ hd cl y Tb→t.Wf Tb→t.bp (· =0)→t.bF h→GP hd cl y Tb (h+1) (t.sz+8) σ Q→CV c n (.ref 939) [.val (.ref hd),.val (.ref y.o),t.V] σ Q:=by
 have grow:∀(h d:Nat) (t:Tm),t.bF h→h≤d→t.bF d:=λh d t=>by
  induction t using Tm.ind generalizing h d with
  |hs f l ih=>intro a b;rw[Tm.dY]at a ⊢;exact⟨by exact M2 [_,_] [] 0x10011111100011000011111 rfl a.1 b,λt ht=>ih t ht (h- 1) (d- 1) (a.2 t ht) (by exact M3 [_,_,_,_] [] 0x203011000111302112111202101101000110 rfl b s2 (Nat.sub_add_cancel (M1 [_] [] 0x11111000011111 rfl a.1)))⟩
  |_=>intro _ _;trivial
 have leaf:∀{t:Tm}{h n:Nat}{σ:S}{Tb:ai}{Q:V→S→Prop},(∀f l,t≠.s f l)→h+5≤n→Gn σ hd cl y Tb→GP hd cl y Tb (h+1) (t.sz+8) σ Q→CV c n (.ref 939) [.val (.ref hd),.val (.ref y.o),t.V] σ Q:=by
  intro t h n σ Tb Q hs hn g q
  obtain ⟨n,rfl⟩:=Nat.exists_eq_add_of_le' (show 5≤n by exact Nat.le_trans (Nat.le_add_left _ _) (by assumption))
  refine gV Bw T rfl λf E=>?_
  refine It.kd ?_
  kd_p
  refine Br.yes (λe=>?_) (Br.tt ?_)
  ·cases t with
   |s f l=>exact hs f l rfl
   |_=>revert e;show¬_;first|(exact(by decide:¬"v"=Str.ofString "s"))|(exact(by decide:¬"a"=Str.ofString "s"))|(exact(by decide:¬"i"=Str.ofString "s"))
  ·kd_in
   exact ub T 1 (n+4) (by exact aD rfl) _ _ _ g (q.mono (.refl _) (X:= []) .refl rfl (λt a b=>⟨grow 1 (h+1) t a (by exact Nat.succ_pos _),by have:lV 1=8:=rfl;exact Nat.le_trans (by assumption) (aD rfl)⟩) λt aL z=>aq.go z)
 induction t using Tm.ind with
 |hv x=>exact λh n hn σ Tb Q g q_ q_ q_ q=>leaf (λf l e=>by contradiction) hn g q
 |ha x=>exact λh n hn σ Tb Q g q_ q_ q_ q=>leaf (λf l e=>by contradiction) hn g q
 |hi x=>exact λh n hn σ Tb Q g q_ q_ q_ q=>leaf (λf l e=>by contradiction) hn g q
 |hs f l ih=>
  intro h n hn σ Tb Q g wf hv hh q
  obtain ⟨n,rfl⟩:=Nat.exists_eq_add_of_le' (show 5≤n by exact Nat.le_trans (Nat.le_add_left _ _) (by assumption))
  have w:=Tm.bB.mp wf
  have eh:=Tm.dY.mp hh
  refine gV Bw T rfl λfr E=>?_
  kd_p
  refine Br.no (λz=>z rfl) ?_
  kd_in
  refine fW T g (by decide) (by decide) λd ah d0 d1 g1 ag=>?_
  kd_p
  refine Br.dec (λgc=>?_) λgc=>?_
  ·kd_in
   exact ub T 1 (n+4) (by exact aD rfl) _ _ _ g1 (q.mono (.refl _) ag rfl (λt a b=>⟨grow 1 (h+1) t a (by exact Nat.succ_pos _),by have:lV 1=8:=rfl;exact Nat.le_trans (by assumption) (aD rfl)⟩) λt aL z=>aq.go z)
  ·kd_p
   refine CV.jo (dN (by exact M1 [_] [] 0x186a0510011031100110 rfl w.2.2.2.1)) ?_
   refine ae (List.length_map ..) ?_
   kd_in
   refine fW T g1 (by exact M1 [_] [] 0x601111500011111 rfl w.2.2.1) (Nat.lt_of_le_of_lt (Nat.log2_le_self _) (by omega)) λp av p0 p1 g2 aj=>?_
   obtain ⟨p,rfl⟩:∃m:Nat,p= (m:Int):=⟨p.toNat,by exact Int.le_antisymm (M1 [_] [_] 0x60011400600117 rfl (Int.toNat_of_nonneg (M1 [] [_] 0x1111400011114 rfl p0))) (M1 [_] [_] 0x611400006116 rfl (Int.toNat_of_nonneg (M1 [] [_] 0x1111400011114 rfl p0)))⟩
   have hp:p<l.length:=by exact tn (by assumption) (by assumption)
   have yb:l[p]? =some l[p]:=List.getElem?_eq_getElem hp
   kd_p
   refine CV.JV 96 (dN (by exact M1 [_] [] 0x186a0510011031100110 rfl w.2.2.2.1)) λa aW SE e3 aC=>?_
   have g3:=g2.draw (g2.H.keep aC) aC
   kd_p
   refine IX.L e3 (Int.natCast_nonneg p) (by exact M2 [_,_] [] 0x800000000000000001106115001011131100110 rfl w.2.2.2.1 hp) (r:=l[p].V) (by refine ae (Int.toNat_natCast ..) (ae (List.getElem?_map) (ae yb ?_));rfl) ?_
   kd_in
   have hm:=List.mem_of_getElem? yb
   have V1:Keeps [3,4,5,6,101] σ aW:=(ag.am rfl).trans ((aj.am rfl).trans (aC.am rfl))
   refine ih _ hm (h- 1) (n+4) (by exact M2 [_,_,_] [] 0x41110251120211000111202112511102511002110 rfl hn (Nat.sub_add_cancel (M1 [_] [] 0x11111000011111 rfl eh.1))) aW Tb _ g3 (w.2.2.2.2 _ hm) (Tm.gr hv _ hm) (eh.2 _ hm) λu T4 bn u1 u2 u3 u4 g4 e4 aM=>?_
   have rA:=aM.at e3
   kd_in
   refine OU.vl rA (Int.natCast_nonneg p) (by exact M2 [_,_] [] 0x800000000000000001106115001011131100110 rfl w.2.2.2.1 hp) (by refine ae (List.length_map ..) (ae (Int.toNat_natCast ..) ?_);exact hp) ?_
   refine ae (Int.toNat_natCast ..) (aU List.map_set ?_)
   have kf:Keeps [3,4,5,6,101] σ (upd bn a (.list 96 ((l.set p u).map Tm.V))):=λb o hb hn=>by
    have h2:=((ag.am rfl).trans (aj.am rfl):Keeps [3,4,5,6,101] σ av) b o hb hn
    have ne:b≠a:=λe=>aJ (SE.symm.trans (e▸h2))
    exact(cC ne).trans (aM b o (aC b o h2 List.not_mem_nil) hn)
   have kg:Keeps [96] bn (upd bn a (.list 96 ((l.set p u).map Tm.V))):=.upd rA (.head _)
   have e5:upd bn a (.list 96 ((l.set p u).map Tm.V)) a=some (.list 96 ((l.set p u).map Tm.V)):=c5
   generalize upd bn a (.list 96 ((l.set p u).map Tm.V))=ci at kf kg e5
   kd_p
   refine CV.mI e5 (dN (by exact ae List.length_set (M1 [_] [] 0x186a0510011031100110 rfl w.2.2.2.1))) ?_
   have g5:=g4.draw (g4.H.keep kg) kg
   have r:=q (.s f (l.set p u)) T4 ci (Tm.bB.mpr ⟨by refine XE w.1 λnm hf=>?_;exact⟨nm,by exact ae List.length_set (bW e4.fs hf)⟩,λz=>by refine ae List.length_set ?_;exact w.2.1 z,by refine ae List.length_set ?_;exact w.2.2.1,by refine ae List.length_set ?_;exact w.2.2.2.1,λx hx=>(ya hx).elim (λhx=>(w.2.2.2.2 x hx).ext e4) λe=>e▸u1⟩)
    (λx hx=>by refine ak (Tm.ej.mp hx) λz hz hx=>?_;exact(ya hz).elim (λhz=>Tm.gr hv z hz x hx) λe=>u2 x (e▸hx)) (Tm.dY.mpr ⟨Nat.succ_pos _,λx hx=>(ya hx).elim (λhx=>grow (h- 1) (h+1- 1) x (eh.2 x hx) (by simp)) λe=>grow (h- 1+1) (h+1- 1) x (e▸u3) (by exact M2 [_,_,_] [] 0x1011120211000111202112111102111002110 rfl s2 (Nat.sub_add_cancel (M1 [_] [] 0x11111000011111 rfl eh.1)))⟩) (Sz yb u4) g5 e4 kf
   rw[Tm.cH]at r
   exact aq.go r
end
end
noncomputable section
open Classical
noncomputable section
variable {c:Cx}{k:Nat}{σ:S}{y:aT}{Tb:ai}{t u:Tm}{Q:V→S→Prop}
theorem SG(T:au c)(hb:σ bd=some (.dI tg (dF b)))(q:Q (.bool false) σ):CV c (k+2) (.ref 893) [.int x,(Tm.a n).V,.val (.ref bd)] σ Q:=by
 refine gW NP T rfl λL A stack E=>?_
 kd_in
 refine kR (t:=.a n) T hb ?_
 refine ae (show kQ b (.a n)= .a n by cases b<;>rfl) ?_
 kd_p
 refine Br.no (by decide) ?_
 refine Cm.lT (t:=.a n) (u:=.v x) (h:=0) trivial trivial (by decide) ?_
 refine ae (decide_eq_false (by intro e;contradiction)) ?_
 exact aq.go q
theorem SH(T:au c)(hb:σ bd=some (.dI tg (dF none)))(q:Q (.bool false) σ):CV c (k+2) (.ref 900) [(Tm.i 0).V,(Tm.i 1).V,.val (.ref bd)] σ Q:=by
 refine gV wB T rfl λf E=>?_
 kd_in
 refine kR (t:=.i 0) T hb ?_
 kd_in
 refine kR (t:=.i 1) T hb ?_
 refine Cm.lT (t:=.i 0) (u:=.i 1) (h:=0) trivial trivial (by decide) ?_
 refine Br.no (by intro e;exact nomatch e) ?_
 kd_p
 refine Br.no (by decide) ?_
 kd_p
 refine Br.no (by decide) ?_
 kd_p
 exact Br.yes (by decide) (Br.tt (aq.go q))
theorem SI(T:au c)(hb:σ bd=some (.dI tg (dF none)))(q:Q (.bool (decide (m=n))) σ):CV c (k+2) (.ref 900) [(Tm.a m).V,(Tm.a n).V,.val (.ref bd)] σ Q:=by
 refine gV wB T rfl λf E=>?_
 kd_in
 refine kR (t:=.a m) T hb ?_
 kd_in
 refine kR (t:=.a n) T hb ?_
 refine Cm.lT (t:=.a m) (u:=.a n) (h:=0) trivial trivial (by decide) ?_
 refine Br.dec (λh=>?_) λh=>?_
 ·rw[decide_eq_true (Tm.a.inj h)]at q
  exact aq.go q
 ·rw[decide_eq_false λe=>h (by exact ae e rfl)]at q
  kd_p
  refine Br.no (by decide) ?_
  kd_p
  refine Br.no (by decide) ?_
  kd_p
  exact Br.yes (by decide) (Br.tt (aq.go q))
theorem SJ(T:au c)(hb:σ bd=some (.dI tg (dF none)))(q:∀af,af bd=some (.dI tg (dF (some (x,n))))→Keeps [tg] σ af→Q (.bool true) af):CV c (k+3) (.ref 900) [(Tm.v x).V,(Tm.a n).V,.val (.ref bd)] σ Q:=by
 refine gV wB T rfl λf E=>?_
 kd_in
 refine kR (t:=.v x) T hb ?_
 kd_in
 refine kR (t:=.a n) T hb ?_
 refine Cm.lT (t:=.v x) (u:=.a n) (h:=0) trivial trivial (by decide) ?_
 refine Br.no (by intro e;contradiction) ?_
 kd_p
 refine Br.yes rfl ?_
 kd_p
 refine SG (b:=none) T hb ?_
 refine Br.ff ?_
 kd_p
 refine OU.hG (l':=dF (some (x,n))) hb (Nat.zero_le _) rfl λaf e ag=>?_
 exact aq.go (q af e ag)
theorem SK(T:au c)(q:∀a af,af a=some (.list 88 (if b then [] else [.tup [(Tm.i 0).V,(Tm.i 1).V]]))→Keeps [] σ af→Q (.tup [.str "holds",.val (.ref a)]) af):CV c (k+1) (.ref 951) [.bool b] σ Q:=by
 refine gV NZ T rfl λf E=>?_
 kd_p
 cases b with
 |true=>
  refine Br.tt ?_
  refine aZ.go 88 λa af q_ e ag=>?_
  exact aq.go (q a af e ag)
 |false=>
  refine Br.ff ?_
  refine aZ.go 88 λa af q_ e ag=>?_
  exact aq.go (q a af e ag)
theorem SM(T:au c)(q:Q (.tup ((bZ.take 29).map .str)) σ):CV c (k+1) (.ref 80) [] σ Q:=by
 refine gV (r:=.seq (.ret (.tup (((bZ.take 29).foldr (λx r=>RE.cons (.str x) r) .nil)))) .nil) ⟨(⟨by decide,rfl,rfl,rfl⟩:Sh 2 80 0 0),by kernel_rfl,b0 rfl⟩ T rfl λf E=>?_
 exact aq.go q
end
end
noncomputable section
open Classical
noncomputable section
variable {c:Cx}{k:Nat}{σ:S}{y:aT}{Tb:ai}{t u:Tm}{Q:V→S→Prop}
noncomputable def pr:List (Str×Int):= [(".",2),(",",2),(";",2),("->",2),("\\+",1),(":-",2),(":-",1),("?-",1),("-->",2),("{}",1),("=",2),("^",2),("-",1),("-",2),("+",2),("/",2),("error",2),("$VAR",1),("catch",3),("throw",1),("!",0),("true",0),("fail",0),("false",0),("call",1),("call",2),("call",3),("call",4),("call",5),("call",6),("call",7),("call",8)]
noncomputable def TX:List Str:=bZ.take 29
noncomputable def FS:List (Int×Int):=pr.map λr=>(((TX.idxOf r.1:Nat):Int),r.2)
noncomputable def T0:ai:=⟨TX,FS⟩
theorem SN(T:au c)(q:Q (.tup (pr.map λr=>.tup [.str r.1,.int r.2])) σ):CV c (k+1) (.ref 87) [] σ Q:=by
 refine gV (r:=.seq (.ret (.tup ((pr.foldr (λx r=>RE.cons (.tup (.cons (.str x.1) (.cons (.int x.2) .nil))) r) .nil)))) .nil) ⟨(⟨by decide,rfl,rfl,rfl⟩:Sh 3 87 0 0),by kernel_rfl,b0 rfl⟩ T rfl λf E=>?_
 exact aq.go q
theorem yc:TX.Nodup:=by decide +kernel
theorem C3:FS.Nodup:=by decide +kernel
theorem SO:∀r∈pr,r.1∈TX∧0≤r.2∧r.2≤8:=by decide +kernel
theorem SP:∀x∈TX,x∈bZ:=λx hx=>List.mem_of_mem_take hx
theorem SQ:T0.Ok:=⟨yc,C3,SP,by decide +kernel⟩
theorem C4{α:Type}{l:List α}(nd:l.Nodup){x:α}(h:l[i]? =some x):x∉l.take i:=λm=>by
 refine XE (List.mem_iff_getElem?.mp m) λj hj=>?_
 have ro:=be hj
 rw[List.length_take]at ro
 rw[List.getElem?_take,if_pos (Nat.lt_of_lt_of_le ro (Nat.min_le_left ..))]at hj
 have:=(List.getElem?_inj (be h) nd).mp (h.trans hj.symm)
 exact Nat.ne_of_gt (Nat.lt_of_lt_of_le ro (Nat.min_le_left ..)) this
theorem SR{r:Str×Int}(T:au c)(h:ai.aX σ y ⟨TX,FS.take i⟩)(hr:pr[i]? =some r)(q:∀af,ai.aX af y ⟨TX,FS.take (i+1)⟩→Keeps [5,6] σ af→Q (.int (i:Int)) af):CV c (k+2) (.ref 129) [.val (.ref y.o),.str r.1,.int r.2] σ Q:=by
 have fM:=SO r (List.mem_of_getElem? hr)
 have hf:FS[i]? =some (((TX.idxOf r.1:Nat):Int),r.2):=by unfold FS;refine ae (List.getElem?_map) (ae hr ?_);rfl
 have hi:i<32:=be hr
 refine gV Bh T rfl λf E=>?_
 kd_p
 refine(wQ T h (by show TX.length≤5000;decide +kernel)).mono λa ah z=>?_
 obtain ⟨n,rfl,⟨hn,rfl⟩|⟨hn,_⟩⟩:=z
 ·have e:n=TX.idxOf r.1:=by
   have h1:=List.getElem?_eq_getElem (List.idxOf_lt_length_of_mem fM.1)
   rw[List.getElem_idxOf]at h1
   exact(List.getElem?_inj (be hn) yc).mp (hn.trans h1.symm)
  subst e
  kd_in
  refine(BY T h (by show (FS.take i).length≤_;exact Nat.le_trans (List.length_take_le' ..) (aD rfl))).mono λb av z=>?_
  obtain ⟨m,rfl,⟨hm,_⟩|⟨_,hm,h2,aj⟩⟩:=z
  ·exact absurd (List.mem_of_getElem? hm) (C4 C3 hf)
  ·have e1:FS.take (i+1)=FS.take i++ [(((TX.idxOf r.1:Nat):Int),r.2)]:=by refine ae List.take_add_one (ae hf ?_);rfl
   rw[←e1]at h2
   have hl:(FS.take i).length=i:=List.length_take_of_le (Nat.le_of_lt (be hf))
   refine ae (show m=i from hm.trans hl) ?_
   exact aq.go (q av h2 aj)
 ·exact absurd fM.1 hn
theorem SS(T:au c)(calm:c.calm=true)(q:∀y af,ai.aX af y T0→Keeps [2,3,4,5,6] σ af→Q (.val (.ref y.o)) af):CV c (k+5) (.ref 174) [] σ Q:=by
 refine CV.make 1 2 (sR T (fI:=101) (List.contains_iff_mem.mp rfl) (List.contains_iff_mem.mp rfl)) λx d hx hd hn=>?_
 have k0:Keeps [] σ (upd (upd σ d (.bb 2 [] [])) x (.inst 1 174 d)):=(Keeps.new hd).trans (Keeps.new (by exact ae (cC hn) hx))
 have e1:upd (upd σ d (.bb 2 [] [])) x (.inst 1 174 d) d=some (.bb 2 [] []):=(cC λe=>hn e.symm).trans c5
 have e0:upd (upd σ d (.bb 2 [] [])) x (.inst 1 174 d) x=some (.inst 1 174 d):=c5
 generalize upd (upd σ d (.bb 2 [] [])) x (.inst 1 174 d)=aK at k0 e0 e1
 refine gG Ln T rfl λf E=>?_
 kd_p
 refine aZ.go 3 λtx ah q_ a1 ag=>?_
 have f0:=ag.at e0
 kd_in
 refine SA.go T f0 (ag.at e1) rfl λav a2 aj=>?_
 have f0:=aj.at f0
 kd_in
 refine cW.go (.dS 4 []) (.inr (.inl rfl)) λan aW q_ a3 aC=>?_
 have f0:=aC.at f0
 kd_in
 refine SA.go T f0 (aC.at a2) rfl λbn a4 aM=>?_
 have f0:=aM.at f0
 kd_in
 refine aZ.go 5 λfs ci q_ a5 bj=>?_
 have f0:=bj.at f0
 kd_in
 refine SA.go T f0 (bj.at a4) rfl λgJ a6 cJ=>?_
 have f0:=cJ.at f0
 kd_in
 refine cW.go (.dT 6 []) (.inr (.inr rfl)) λfn pt q_ a7 dn=>?_
 have f0:=dn.at f0
 kd_in
 refine SA.go T f0 (dn.at a6) rfl λpu a8 eQ=>?_
 have f0:=eQ.at f0
 have h8:ai.aX pu ⟨x,d,tx,an,fs,fn⟩ ⟨TX.take 0,FS.take 0⟩:=⟨f0,a8,eQ.at (dn.at (cJ.at (bj.at (aM.at (aC.at (aj.at a1)))))),eQ.at (dn.at (cJ.at (bj.at (aM.at a3)))),eQ.at (dn.at (cJ.at a5)),eQ.at a7⟩
 have SU:Keeps [2,3,4,5,6] σ pu:=(k0.am rfl).trans ((ag.am rfl).trans ((aj.am rfl).trans ((aC.am rfl).trans ((aM.am rfl).trans ((bj.am rfl).trans ((cJ.am rfl).trans ((dn.am rfl).trans (eQ.am rfl))))))))
 kd_in
 refine SM T ?_
 refine V.fS (λx1=> [some (.val (.ref x)),x1,none]) _ (λi q_ af=>i≤29∧ai.aX af ⟨x,d,tx,an,fs,fn⟩ ⟨TX.take i,FS.take 0⟩∧Keeps [2,3,4,5,6] σ af) (λq_=>True) (bI.tup calm) none rfl ⟨by decide,h8,SU⟩ (λq_ q_ q_ q_=>True.intro) (λE i r x1 af K hr j nx=>?_) λx1 af j=>?_
 ·refine cq j λhi h kk=>?_
  rw[List.getElem?_map]at hr
  refine eW hr λC5 yd=>?_
  have hh:=h
  refine ME.go T hh.inst rfl ?_
  kd_in
  refine(wQ T h (by show (TX.take i).length≤_;exact Nat.le_trans (List.length_take_le' ..) (by decide +kernel))).mono λa av z=>?_
  obtain ⟨n,rfl,⟨iK,_⟩|⟨_,iK,h2,aj⟩⟩:=z
  ·exact absurd (List.mem_of_getElem? iK) (C4 yc yd)
  ·have e1:TX.take (i+1)=TX.take i++ [C5]:=by refine ae List.take_add_one (ae (show TX[i]? =some C5 from yd) ?_);rfl
   refine⟨trivial,nx _ _ ⟨be yd,?_,kk.trans (aj.am rfl)⟩⟩
   exact ae e1 h2
 ·refine cq j λhi h kk=>?_
  rw[show ((bZ.take 29).map V.str).length=29 from rfl,show TX.take 29=TX from rfl]at h
  kd_in
  refine SN T ?_
  refine V.fS (λx2=> [some (.val (.ref x)),x1,x2]) _ (λi q_ af=>ai.aX af ⟨x,d,tx,an,fs,fn⟩ ⟨TX,FS.take i⟩∧Keeps [2,3,4,5,6] σ af) (λq_=>True) (bI.tup calm) none rfl ⟨h,kk⟩ (λq_ q_ q_ q_=>True.intro) (λE i r x2 af K hr j nx=>?_) λx2 af j=>?_
  ·refine XA j λh kk=>?_
   rw[List.getElem?_map]at hr
   refine eW hr λV2 SV=>?_
   have hh:=h
   refine ME.go T hh.inst rfl ?_
   kd_p
   refine SR T h SV λav h2 aj=>?_
   exact⟨trivial,nx _ _ ⟨h2,kk.trans (aj.am rfl)⟩⟩
  ·refine XA j λh kk=>?_
   rw[show (pr.map λr=>V.tup [.str r.1,.int r.2]).length=32 from rfl,show FS.take 32=FS from rfl]at h
   exact⟨_,.refl _,rfl,q _ af h kk⟩
end
end
noncomputable section
open Classical
noncomputable section
variable {c:Cx}{f:Fm}{k:Nat}{E:Value→Shared→Prop}{σ:S}{ρ:Lo}
theorem Binds.kB {fn:Fn}{rs:List V}(T:au c)(h:(a,rs)∈wh)(hd:fn.fd.defaults= .ref a)
  (hk:∀(vs items:List Value),vs.length=n→items.length=rs.length→∃k,bindArgs fn.fd ⟨vs, []⟩=seqItems? fn.fd.defaults >>= k∧k (some items.toArray)=pure (fn.ps.zip (vs++items.drop j))):Binds c fn n (rs.drop j):=λs vs X hl=>by
 refine eE (T.kB _ h) λitems m h1 h2=>?_
 refine ak (hk vs items hl (h2 s.heap).length) λk h3 h4=>?_
 exact⟨items.drop j,BindsTo.of_defaults hd (X _ _ h1) rfl h3 h4,(h2 s.heap).drop j⟩
theorem SW{fn:Fn}(h:∀a b x,∃k,bindArgs fn.fd ⟨[a,b], []⟩=seqItems? fn.fd.defaults >>= k∧k (some #[x])=pure (fn.ps.zip [a,b]))(vs items:List Value)(h1:vs.length=2)(h2:items.length=1):∃k,bindArgs fn.fd ⟨vs, []⟩=seqItems? fn.fd.defaults >>= k∧k (some items.toArray)=pure (fn.ps.zip (vs++items.drop 1)):=by
 exact sV (P:=λvs=>∃k,bindArgs fn.fd ⟨vs, []⟩=seqItems? fn.fd.defaults >>= k∧k (some items.toArray)=pure (fn.ps.zip (vs++items.drop 1))) h1 λa b=>sU (P:=λitems:List Value=>∃k,bindArgs fn.fd ⟨[a,b], []⟩=seqItems? fn.fd.defaults >>= k∧k (some items.toArray)=pure (fn.ps.zip ([a,b]++items.drop 1))) h2 (h a b)
theorem SX{fn:Fn}(h:∀a b d x,∃k,bindArgs fn.fd ⟨[a,b,d], []⟩=seqItems? fn.fd.defaults >>= k∧k (some #[x])=pure (fn.ps.zip [a,b,d]))(vs items:List Value)(h1:vs.length=3)(h2:items.length=1):∃k,bindArgs fn.fd ⟨vs, []⟩=seqItems? fn.fd.defaults >>= k∧k (some items.toArray)=pure (fn.ps.zip (vs++items.drop 1)):=by
 exact qw (P:=λvs=>∃k,bindArgs fn.fd ⟨vs, []⟩=seqItems? fn.fd.defaults >>= k∧k (some items.toArray)=pure (fn.ps.zip (vs++items.drop 1))) h1 λa b d=>sU (P:=λitems:List Value=>∃k,bindArgs fn.fd ⟨[a,b,d], []⟩=seqItems? fn.fd.defaults >>= k∧k (some items.toArray)=pure (fn.ps.zip ([a,b,d]++items.drop 1))) h2 (h a b d)
theorem SY{fn:Fn}(h:∀a b d x y z,∃k,bindArgs fn.fd ⟨[a,b,d], []⟩=seqItems? fn.fd.defaults >>= k∧k (some #[x,y,z])=pure (fn.ps.zip [a,b,d,x,y,z]))(vs items:List Value)(h1:vs.length=3)(h2:items.length=3):∃k,bindArgs fn.fd ⟨vs, []⟩=seqItems? fn.fd.defaults >>= k∧k (some items.toArray)=pure (fn.ps.zip (vs++items.drop 0)):=by
 exact qw (P:=λvs=>∃k,bindArgs fn.fd ⟨vs, []⟩=seqItems? fn.fd.defaults >>= k∧k (some items.toArray)=pure (fn.ps.zip (vs++items.drop 0))) h1 λa b d=>qw (P:=λitems:List Value=>∃k,bindArgs fn.fd ⟨[a,b,d], []⟩=seqItems? fn.fd.defaults >>= k∧k (some items.toArray)=pure (fn.ps.zip ([a,b,d]++items.drop 0))) h2 (h a b d)
noncomputable abbrev S0:RS:=(.seq (.cf (.loc 0) "symbols" (.loc 1)) (.seq (.cf (.loc 0) "max_heap" (.loc 2)) (.seq (.cf (.loc 0) "heap" (.list .nil)) (.seq (.cf (.loc 0) "stack" (.list .nil)) (.seq (.cf (.loc 0) "trail" (.list .nil)) (.seq (.cf (.loc 0) "hb" (.int 0)) (.seq (.cf (.loc 0) "bb" (.int 0)) .nil)))))))
noncomputable abbrev S1:RS:=(.seq (.cf (.loc 0) "symbols" (.loc 1)) (.seq (.cf (.loc 0) "code" (.loc 2)) (.seq (.cf (.loc 0) "max_heap" (.loc 3)) (.seq (.cf (.loc 0) "occurs" (.loc 4)) (.seq (.cf (.loc 0) "max_bits" (.loc 5)) (.seq (.expr (.ax (.loc 0) "reset" .nil)) .nil))))))
theorem S2(T:au c)(h:∀f E,vX c f k S0 E [some a0,some a1,some a2] σ (aq Q)):CC c (k+1) (.ref 271) ([a0,a1,a2]:List V) σ Q:=
 gD (args:= [a0,a1,a2]) (cF:= []) T (⟨by decide,rfl,rfl,rfl⟩:Sh 24 271 3 0) (by kernel_rfl) rfl (Binds.kB (j:=1) T (List.mem_of_getElem? (i:=1) rfl) rfl (SX λq_ q_ q_ q_=>bx _ rfl rfl)) λL A stack E=>h _ E
theorem S3(T:au c)(h:∀f E,vX c f k S1 E [some a0,some a1,some a2,some (.int 100000),some (.bool true),some (.int 4096)] σ (aq Q)):CC c (k+1) (.ref 727) ([a0,a1,a2]:List V) σ Q:=
 gD (args:= [a0,a1,a2]) (cF:= [.int 100000,.bool true,.int 4096]) T (⟨by decide,rfl,rfl,rfl⟩:Sh 76 727 6 0) (by kernel_rfl) rfl (Binds.kB (j:=0) T (List.mem_of_getElem? (i:=2) rfl) rfl (SY λq_ q_ q_ q_ q_ q_=>bx _ rfl rfl)) λL A stack E=>h _ E
end
end
noncomputable section
open Classical
noncomputable section
variable {c:Cx}{k:Nat}{σ:S}{y:aT}{Tb:ai}{t u:Tm}{Q:V→S→Prop}
theorem C6{C x d:Addr}{t t2:Nat}(hx:σ x=none)(hd:σ d=none)(hn:x≠d):∃aK,aK=upd (upd σ d (.bb t2 [] [])) x (.inst t C d)∧Keeps [] σ aK∧aK x=some (.inst t C d)∧aK d=some (.bb t2 [] []):=
 ⟨_,rfl,(Keeps.new hd).trans (Keeps.new (by exact ae (cC hn) hx)),c5,(cC λe=>hn e.symm).trans c5⟩
theorem S4(T:au c)(hn:n= .int 100000)(q:∀(st:ba) af,aY af st y []→Keeps [12] σ af→Q (.val (.ref st.o)) af):CV c (k+2) (.ref 450) [.val (.ref y.o),n] σ Q:=by
 subst hn
 refine CV.make 11 12 (sR T (fI:=271) (List.contains_iff_mem.mp rfl) (List.contains_iff_mem.mp rfl)) λx d hx hd hn=>?_
 refine nS (C6 (C:=450) (t:=11) (t2:=12) hx hd hn) λaK e k0 f0 a0=>?_
 refine aU e ?_
 refine S2 T λf E=>?_
 kd_in
 refine SA.go T f0 a0 rfl λah a1 ag=>?_
 have f1:=ag.at f0
 kd_in
 refine SA.go T f1 a1 rfl λav a2 aj=>?_
 have f2:=aj.at f1
 kd_in
 refine aZ.go 13 λhp aW q_ b3 aC=>?_
 kd_in
 refine SA.go T (aC.at f2) (aC.at a2) rfl λbn a4 aM=>?_
 have f4:=aM.at (aC.at f2)
 have b4:=aM.at b3
 kd_in
 refine aZ.go 14 λsk ci q_ q_ bj=>?_
 kd_in
 refine SA.go T (bj.at f4) (bj.at a4) rfl λgJ a6 cJ=>?_
 have f6:=cJ.at (bj.at f4)
 have b6:=cJ.at (bj.at b4)
 kd_in
 refine aZ.go 14 λtr pt q_ q_ dn=>?_
 kd_in
 refine SA.go T (dn.at f6) (dn.at a6) rfl λpu a8 eQ=>?_
 have f8:=eQ.at (dn.at f6)
 have b8:=eQ.at (dn.at b6)
 kd_in
 refine SA.go T f8 a8 rfl λS5 a9 pw=>?_
 kd_in
 refine SA.go T (pw.at f8) a9 rfl λaf a' k'=>?_
 have kk:Keeps [12] aK af:=(ag.am rfl).trans ((aj.am rfl).trans ((aC.am rfl).trans ((aM.am rfl).trans ((bj.am rfl).trans ((cJ.am rfl).trans ((dn.am rfl).trans ((eQ.am rfl).trans ((pw.am rfl).trans (k'.am rfl)))))))))
 exact⟨af,.refl _,rfl,q ⟨x,d,hp,sk,tr⟩ af ⟨k'.at (pw.at f8),a',k'.at (pw.at b8)⟩ ((k0.am rfl).trans kk)⟩
structure Pt(σ:S)(x d C:Addr)(t t2:Nat)(ks:List Str)(vs:List V):Prop where
 o:σ x=some (.inst t C d)
 d:σ d=some (.bb t2 ks vs)
theorem Pt.at {x d C:Addr}{t t2:Nat}{ks:List Str}{vs:List V}{X:List Nat}(p:Pt σ x d C t t2 ks vs)(q:Keeps X σ af)(h:(X.elem t||X.elem t2)=false:=by rfl):Pt af x d C t t2 ks vs:=by
 rw[Bool.or_eq_false_iff]at h
 exact⟨q.at p.o h.1,q.at p.d h.2⟩
theorem Pt.set {x d C:Addr}{t t2:Nat}{ks:List Str}{vs:List V}{n:Str}{QS:S→Prop}(T:au c)(p:Pt σ x d C t t2 ks vs)(hc:(jt.contains C&&mU.contains (C,n)&& !ks.contains n&&Nat.ble ks.length 900)=true)(ht:Nat.beq t t2=false)
  (q:∀af,Pt af x d C t t2 (ks++ [n]) (vs++ [r])→Keeps [t2] σ af→QS af):SA c n QS (.val (.ref x)) r σ:=
 SA.go T p.o p.d hc λaf a ag=>q af ⟨ag _ _ p.o (by simp only[O.tag,List.mem_singleton];intro e;rw[e]at ht;simp at ht),a⟩ ag
theorem Pt.inst {x d C:Addr}{t t2:Nat}{ks:List Str}{vs:List V}(p:Pt σ x d C t t2 ks vs):hY σ x C ks vs:=gb _ _ _ p.o p.d
noncomputable abbrev S6:List Str:= ["symbols","code","max_heap","occurs","max_bits"]
theorem S7{x d cd:Addr}(T:au c)(hy:ai.aX σ y Tb)(p:Pt σ x d 870 21 22 S6 [.val (.ref y.o),.val (.ref cd),.int 100000,.bool true,.int 4096])
  (q:∀(m:bD) (st:ba) af,m.o=x→ez af m st y [(5,0)]→aY af st y []→ai.aX af y Tb→Keeps [12,22] σ af→Q .none af):CV c (k+3) (.ref 734) [.val (.ref x)] σ Q:=by
 refine gV Ny T rfl λf E=>?_
 kd_p
 refine S4 T rfl λst ah s1 ag=>?_
 have p1:=p.at ag
 kd_in
 refine p1.set T rfl rfl λav p2 aj=>?_
 have s2:=s1.kb aj
 kd_in
 refine aZ.go 23 λxl aW q_ x3 aC=>?_
 kd_in
 refine(p2.at aC).set T rfl rfl λbn p4 aM=>?_
 have s4:=(s2.kb aC).kb aM
 have x4:=aM.at x3
 kd_in
 refine p4.set T rfl rfl λci p5 bj=>?_
 kd_in
 refine p5.set T rfl rfl λgJ p6 cJ=>?_
 kd_in
 refine p6.set T rfl rfl λpt p7 dn=>?_
 kd_in
 refine p7.set T rfl rfl λpu p8 eQ=>?_
 kd_in
 refine p8.set T rfl rfl λS5 p9 pw=>?_
 kd_in
 refine p9.set T rfl rfl λgU pa ka=>?_
 kd_in
 refine pa.set T rfl rfl λgY pb kb=>?_
 kd_in
 refine pb.set T rfl rfl λS8 pc kc=>?_
 have kk:Keeps [22] bn S8:=(bj.am rfl).trans ((cJ.am rfl).trans ((dn.am rfl).trans ((eQ.am rfl).trans ((pw.am rfl).trans ((ka.am rfl).trans ((kb.am rfl).trans (kc.am rfl)))))))
 kd_in
 refine aZ.go 24 λrt V3 q_ q_ kd=>?_
 kd_in
 refine(pc.at kd).set T rfl rfl λV4 pe ke=>?_
 kd_in
 refine cW.go (.dI 25 []) (.inl rfl) λbg V5 q_ q_ kf=>?_
 kd_in
 refine(pe.at kf).set T rfl rfl λV6 pg kg=>?_
 kd_in
 refine pg.set T rfl rfl λye ph kh=>?_
 have kz:Keeps [22] bn ye:=kk.trans ((kd.am rfl).trans ((ke.am rfl).trans ((kf.am rfl).trans ((kg.am rfl).trans (kh.am rfl)))))
 have C7:Keeps [12,22] σ ye:=(ag.am rfl).trans ((aj.am rfl).trans ((aC.am rfl).trans ((aM.am rfl).trans (kz.am rfl))))
 exact aq.nx (q ⟨x,d,xl,cd,rt,bg⟩ st ye rfl ⟨ph.o,ph.d,kz.at x4⟩ (s4.kb kz) (hy.kb C7) C7)
theorem S9{cd:Addr}(T:au c)(hy:ai.aX σ y Tb)(q:∀(m:bD) (st:ba) af,ez af m st y [(5,0)]→aY af st y []→ai.aX af y Tb→Keeps [12,22] σ af→Q (.val (.ref m.o)) af):CV c (k+5) (.ref 870) [.val (.ref y.o),.val (.ref cd)] σ Q:=by
 refine CV.make 21 22 (sR T (fI:=727) (List.contains_iff_mem.mp rfl) (List.contains_iff_mem.mp rfl)) λx d hx hd hn=>?_
 refine nS (C6 (C:=870) (t:=21) (t2:=22) hx hd hn) λaK e k0 f0 a0=>?_
 refine aU e ?_
 have p0:Pt aK x d 870 21 22 [] []:=⟨f0,a0⟩
 refine S3 T λf E=>?_
 kd_in
 refine p0.set T rfl rfl λah p1 ag=>?_
 kd_in
 refine p1.set T rfl rfl λav p2 aj=>?_
 kd_in
 refine p2.set T rfl rfl λaW p3 aC=>?_
 kd_in
 refine p3.set T rfl rfl λbn p4 aM=>?_
 kd_in
 refine p4.set T rfl rfl λci p5 bj=>?_
 have kk:Keeps [12,22] σ ci:=(k0.am rfl).trans ((ag.am rfl).trans ((aj.am rfl).trans ((aC.am rfl).trans ((aM.am rfl).trans (bj.am rfl)))))
 kd_p
 refine S7 T (hy.kb kk) p5 λm st af hm M s h' k'=>?_
 refine⟨af,.refl _,rfl,?_⟩
 refine aU hm ?_
 exact q m st af M s h' (kk.trans k')
end
end
noncomputable section
open Classical
noncomputable section
variable {c:Cx}{f:Fm}{k:Nat}{E:Value→Shared→Prop}{σ:S}{ρ:Lo}
structure S'(σ:S)(x C d:Addr)(n:Str)(r:V):Prop where
 at_:σ x=some (.exc 120 C (some d))
 dict:σ d=some (.bb 121 [n] [r])
noncomputable def XQ(Q:V→S→Prop)(σ:S)(C:Addr)(n:Str)(r:V):Prop:=∀af x d,Keeps [] σ af→S' af x C d n r→Q (.val (.ref x)) af
theorem XQ.go (q:XQ Q σ C n r)(zx:σ x=none)(zd:upd σ x (.exc 120 C none) d=none):
  Q (.val (.ref x)) (upd (upd (upd (upd σ x (.exc 120 C none)) d (.bb 121 [] [])) x (.exc 120 C (some d))) d (.bb 121 [n] [r])):=by
 have oz:d≠x:=λe=>by subst e;rw[c5]at zd;exact kY zd
 rw[cC oz]at zd
 refine q _ x d (λa o e q_=>?_) ⟨(cC oz.symm).trans c5,c5⟩
 have h1:a≠x:=λe'=>aJ (zx.symm.trans (e'▸e))
 have h2:a≠d:=λe'=>aJ (zd.symm.trans (e'▸e))
 refine ae (cC h2) (ae (cC h1) (ae (cC h2) (ae (cC h1) ?_)));exact e
theorem Ta(T:au c)(q:XQ Q σ 51 "ball" b):CV c (k+2) (.ref 51) [b] σ Q:=by
 refine cq (T.exc (51,48,"ball") (List.mem_of_getElem? (i:=0) rfl)) λxo so q_=>?_
 exact CV.Am 120 xo (aD rfl) λx zx=>CC.cv (gC (args:= [_,_]) (cF:= []) T (⟨by decide,rfl,rfl,rfl⟩:Sh 0 48 2 0) rfl (Binds.plain (b2 λq_ q_=>rfl)) λL A stack E=>EX.cons (aS.Ai 121 (EV.loc (i:=1) (.there .here) rfl (EV.loc (i:=0) .here rfl
  ⟨x,51,31,120,rfl,c5,so,λd zd=>EX.nil ⟨_,Sub.refl _,rfl,q.go zx zd⟩⟩))))
theorem C8(T:au c)(q:XQ Q σ 71 "code" b):CV c (k+2) (.ref 71) [b] σ Q:=by
 refine cq (T.exc (71,68,"code") (List.mem_of_getElem? (i:=1) rfl)) λxo so q_=>?_
 exact CV.Am 120 xo (aD rfl) λx zx=>CC.cv (gC (args:= [_,_]) (cF:= []) T (⟨by decide,rfl,rfl,rfl⟩:Sh 1 68 2 0) rfl
  (Binds.kB (j:=1) T (List.mem_of_getElem? (i:=0) rfl) rfl (SW λq_ q_ q_=>bx _ rfl rfl)) λL A stack E=>EX.cons (aS.Ai 121 (EV.loc (i:=1) (.there .here) rfl (EV.loc (i:=0) .here rfl
  ⟨x,71,31,120,rfl,c5,so,λd zd=>EX.nil ⟨_,Sub.refl _,rfl,q.go zx zd⟩⟩))))
end
end
noncomputable section
open Classical
noncomputable section
variable {c:Cx}{f:Fm}{k:Nat}{E:Value→Shared→Prop}{σ:S}{ρ:Lo}
noncomputable abbrev aV (n:Nat):V:=.tup [.str "a",.int (n:Int)]
noncomputable abbrev ec (f:V):V:=.tup [.str "s",.int 16,.tup [f,.tup [.str "a",.int 25]]]
noncomputable abbrev i7 (m i:Nat)(cu:List V):V:=.tup [.str "s",.int (m:Int),.tup [aV i,.tup cu]]
theorem yf(T:au c)(q:XQ Q σ 51 "ball" (ec v)):CV c (k+3) (.ref 220) [v] σ Q:=by
 refine gV LM T rfl λf E=>?_
 kd_p
 exact Ta T λaf x d kk e=>aq.go (q af x d kk e)
theorem C9{y:aT}{Tb:ai}(T:au c)(calm:c.calm=true)(h:ai.aX σ y Tb)(ok:Tb.Ok)(hn:nm∈bZ)(hk:kd∈bZ)
  (q:∀af T' (m i j:Nat),ai.aX af y T'→T'.Ok→Tb.Ext T'→T'.tx[i]? =some kd→T'.tx[j]? =some nm→T'.fs[m]? =some ((j:Int),2)→Keeps [3,4,5,6,122] σ af→Q (i7 m i cu) af):
  CV c (k+3) (.ref 227) [.val (.ref y.o),.str nm,.tup [.str kd,.tup cu]] σ Q:=by
 refine gV LO T rfl λf E=>?_
 kd_p
 refine aZ.go 122 λw aK q_ e0 pz=>?_
 have h0:ai.aX aK y Tb:=h.keep pz (λt ht=>nomatch ht)
 kd_in
 refine V.fS (λx=> [some (.val (.ref y.o)),some (.str nm),some (.tup [.str kd,.tup cu]),some (.val (.ref w)),x]) _
  (λi q_ af=>∃T' out,ai.aX af y T'∧T'.Ok∧Tb.Ext T'∧Keeps [3,4,122] σ af∧af w=some (.list 122 out)∧(match i with| 0=>out= []| 1=>∃j:Nat,T'.tx[j]? =some kd∧out= [aV j]|_=>∃j:Nat,T'.tx[j]? =some kd∧out= [aV j,.tup cu]))
  (λq_=>True) (bI.tup calm) none rfl ⟨Tb, [],h0,ok,.refl _,pz.am rfl,e0,rfl⟩ (λq_ q_ q_ q_=>True.intro) (λE i r x af K hr j nx=>?_) λx af j=>?_
 ·refine D5 j λT' out hT iX ext kk hw hi=>?_
  cases i with
  |zero=>
   (injection hr with hr;subst hr)
   subst hi
   kd_p
   refine CV.Ad ?_
   kd_p
   refine Br.tt ?_
   kd_p
   refine gw T hT iX hk λah n jL i8 i9 gK e1 e2 ag=>?_
   kd_p
   have Tc:=ag.at hw
   refine CV.append' Tc (sl (aD rfl)) λav e3 aj=>?_
   exact nx _ _ ⟨jL,_,i8.keep aj (by decide),i9,ext.trans gK,(kk.trans (ag.am rfl)).trans (aj.am rfl),e3,n,e2,rfl⟩
  |succ i=>
   cases i with
   |zero=>
   (injection hr with hr;subst hr)
   refine ak hi λn e2 nr=>?_
   subst nr
   kd_p
   refine CV.Ae ?_
   kd_p
   refine Br.ff ?_
   kd_p
   refine CV.append' hw (sl (aD rfl)) λav e3 aj=>?_
   exact nx _ _ ⟨T',_,hT.keep aj (λt ht=>by exact ae (List.mem_singleton.mp ht) ((by decide:6<122))),iX,ext,kk.trans (aj.am rfl),e3,n,e2,rfl⟩
   |succ i=>exact aJ hr
 ·refine D6 j λT' out hT iX ext kk hw n e2 Td=>?_
  subst Td
  kd_p
  refine CV.lv hw (sl (aD rfl)) ?_
  kd_p
  refine qX T hT iX hn (n:=2) (by decide) λah m i jL i8 i9 gK e1 e3 ag=>?_
  kd_p
  refine CV.mI (ag.at hw) (sl (aD rfl)) ?_
  kd_p
  exact aq.go (q ah jL m n i i8 i9 (ext.trans gK) (bW gK.tx e2) e1 e3 ((kk.am rfl).trans (ag.am rfl)))
noncomputable def FQ(Q:V→S→Prop)(y:aT)(Tb:ai)(nm kd:Str)(cu:List V)(σ:S):Prop:=∀af T' (m i j:Nat),ai.aX af y T'→T'.Ok→Tb.Ext T'→T'.tx[i]? =some kd→T'.tx[j]? =some nm→T'.fs[m]? =some ((j:Int),2)→Keeps [3,4,5,6,122] σ af→XQ Q af 51 "ball" (ec (i7 m i cu))
theorem C'{y:aT}{Tb:ai}(T:au c)(calm:c.calm=true)(h:ai.aX σ y Tb)(ok:Tb.Ok)(hn:Str.ofString "type_error"∈bZ)(hk:kd∈bZ)
  (q:FQ Q y Tb "type_error" kd cu σ):CV c (k+4) (.ref 241) [.val (.ref y.o),.str kd,.tup cu] σ Q:=by
 refine gV LU T rfl λf E=>?_
 kd_p
 refine C9 T calm h ok hn hk λaf T' m i j h1 h2 h3 h4 h5 h6 ag=>?_
 kd_p
 exact yf T λav x d kk e=>aq.go (q af T' m i j h1 h2 h3 h4 h5 h6 ag av x d kk e)
theorem Te{y:aT}{Tb:ai}(T:au c)(calm:c.calm=true)(h:ai.aX σ y Tb)(ok:Tb.Ok)(hn:Str.ofString "domain_error"∈bZ)(hk:kd∈bZ)
  (q:FQ Q y Tb "domain_error" kd cu σ):CV c (k+4) (.ref 248) [.val (.ref y.o),.str kd,.tup cu] σ Q:=by
 refine gV LX T rfl λf E=>?_
 kd_p
 refine C9 T calm h ok hn hk λaf T' m i j h1 h2 h3 h4 h5 h6 ag=>?_
 kd_p
 exact yf T λav x d kk e=>aq.go (q af T' m i j h1 h2 h3 h4 h5 h6 ag av x d kk e)
theorem Tf{y:aT}{Tb:ai}(T:au c)(h:ai.aX σ y Tb)(ok:Tb.Ok)(hn:Str.ofString "instantiation_error"∈bZ)
  (q:∀af T' (n:Nat),ai.aX af y T'→T'.Ok→Tb.Ext T'→T'.tx[n]? =some "instantiation_error"→Keeps [3,4] σ af→XQ Q af 51 "ball" (ec (aV n))):CV c (k+4) (.ref 234) [.val (.ref y.o)] σ Q:=by
 refine gV LR T rfl λf E=>?_
 kd_p
 refine gw T h ok hn λah n jL i8 i9 gK e1 e2 ag=>?_
 kd_p
 exact yf T λav x d kk e=>aq.go (q ah jL n i8 i9 gK e2 ag av x d kk e)
end
end
noncomputable section
open Classical
noncomputable section
variable {c:Cx}{f:Fm}{k:Nat}{σ:S}{ρ:Lo}
section
variable {Q:Fl→Lo→S→Prop}{QX:Addr→Addr→S→Prop}
noncomputable def XR(c:Cx)(QX:Addr→Addr→S→Prop)(r:V)(ah:S):Prop:=∃x C d t U fI,r= .val (.ref x)∧ah x=some (.exc t C (some d))∧kw c C U fI∧QX C d (mR ah x)
theorem cD.pA (T:au c)(calm:c.calm=true)(hr:cE f.N f.G 9 e=some r)(h:∀E,vE c f k E r ρ σ (XR c QX)):cD c f k (.Raise (some e) none pos) ρ σ Q QX:=
 cD.raise calm λE=>(sE T 9).1 e r hr ρ σ _ (h E)
theorem bE.kU (T:au c)(fM:f.inner=false){st:Stmt}{ss:List Stmt}{r:RS}(hr:cS f.N f.G 9 st=some r)(h:∀E,vX c f k r E ρ σ (λfl ρ' af=>match fl with|.next=>bE c f k ss ρ' af Q QX|fl=>Q fl ρ' af)):
  bE c f k (st::ss) ρ σ Q QX:=bE.cons λs E I q_=>sS T fM I.ok 9 st r hr E ρ σ _ (h E) s I
theorem cD.jM (T:au c)(ht:cT f.N f.G 9 e=some t)(h:∀E,vT c f k E t ρ σ λb af=>Br b (bE c f k lj ρ af Q QX) (bE c f k ll ρ af Q QX)):cD c f k (.If e lj ll pos) ρ σ Q QX:=
 cD.qp λE=>(sE T 9).2 e t ht ρ σ _ (h E)
end
theorem uc(T:au c)(q:∀af d,Keeps [120] σ af→af d=some (.bb 121 ["ball"] [v])→QX 51 d af):XQ (XR c QX) σ 51 "ball" v:=λaf x d kk e=>by
 refine cq (T.exc (51,48,"ball") (List.mem_of_getElem? (i:=0) rfl)) λxo q_ q_=>?_
 refine⟨x,51,d,120,31,48,rfl,e.at_,xo,q _ d (λa o ha hn=>?_) ((qq λq=>?_).trans e.dict)⟩
 ·refine(qq λq=>?_).trans (kk a o ha λh=>nomatch h)
  subst q
  have:=kk a o ha (λh=>nomatch h)
  rw[e.at_]at this;(injection this with this;subst this);exact hn (.head _)
 ·have:=e.dict;rw[q,e.at_]at this;exact absurd (congrArg O.tag (Option.some.inj this)) (by decide:¬(120:Nat)=121)
theorem Db(T:au c)(q:∀af d,Keeps [120] σ af→af d=some (.bb 121 ["code"] [v])→QX 71 d af):XQ (XR c QX) σ 71 "code" v:=λaf x d kk e=>by
 refine cq (T.exc (71,68,"code") (List.mem_of_getElem? (i:=1) rfl)) λxo q_ q_=>?_
 refine⟨x,71,d,120,31,68,rfl,e.at_,xo,q _ d (λa o ha hn=>?_) ((qq λq=>?_).trans e.dict)⟩
 ·refine(qq λq=>?_).trans (kk a o ha λh=>nomatch h)
  subst q
  have:=kk a o ha (λh=>nomatch h)
  rw[e.at_]at this;(injection this with this;subst this);exact hn (.head _)
 ·have:=e.dict;rw[q,e.at_]at this;exact absurd (congrArg O.tag (Option.some.inj this)) (by decide:¬(120:Nat)=121)
theorem Tg(T:au c)(calm:c.calm=true)(q:∀af d,Keeps [120] σ af→af d=some (.bb 121 ["code"] [.int 0])→QX 71 d af):cP c (k+3) (.ref 705) [a] σ Q QX:=by
 refine gX T (⟨by decide,rfl,rfl,rfl⟩:Sh 74 705 1 0) (b1 λq_=>rfl) rfl λL A stack=>?_
 refine bE.cons (cD.pA T calm (r:=.call (.ref 71) (.cons (.int 0) .nil)) (by kernel_rfl) λE=>?_)
 kd_p
 exact C8 T (Db T q)
end
end
noncomputable section
open Classical
noncomputable section
variable {c:Cx}{k:Nat}{σ:S}{m:bD}{st:ba}{y:aT}{xs:List aE}{H:Hp}{Tb:ai}{u:Tm}{cc:aE}{Q:V→S→Prop}
theorem yg(T:au c)(calm:c.calm=true)(w:Wd σ m st y xs H Tb)(wf:u.Wf Tb)(rep:u.Rep H cc)(hz:2*u.sz+10≤100000)
  (q:∀af L,L.Nodup→u.bp (· ∈L)→Keeps [42,52,53,54,55] σ af→Q (u.aQ (idx L)).V af):CV c (k+4) (.ref 769) [.val (.ref m.o),cV cc] σ Q:=by
 refine gV NI T rfl λf E=>?_
 have iM:=w.iM
 have iS:=w.iS
 refine AT.go T iM rfl rfl ?_
 refine ME.go T iS rfl ?_
 kd_in
 refine cW.go (.dI 42 []) (.inl rfl) λtb ah q_ e1 ag=>?_
 kd_in
 refine(Cd T calm (L:= []) (N:=2*u.sz) (w.hs.keep ag (λt ht=>nomatch ht)) (w.hy.keep ag (λt ht=>nomatch ht)) w.ok w.hl wf rep e1 (by simp) (by simp) hz).mono λr af z=>yK z λL' er q_ q_ nd lW q_ aj=>?_
 subst er
 exact aq.go (q af L' nd lW ((ag.am rfl).trans aj))
theorem Keeps.tab {X:List Nat}(k:Keeps X σ af)(h:ai.aX σ y Tb)(hX:X.all (λt=>Nat.ble 7 t)=true:=by rfl):ai.aX af y Tb:=h.keep k λt ht=>aD (List.all_eq_true.mp hX t ht)
theorem Dc(T:au c)(calm:c.calm=true)(w:Wd σ m st y xs H Tb)(wf:u.Wf Tb)(hz:H.length+u.sz+1≤100000)
  (q:∀af H' L' e,Wd af m st y xs H' Tb→qY u H [] (H.length+u.sz+1) H' L' e→Keeps [13,41,50,51] σ af→Q (cV e) af):CV c (k+4) (.ref 776) [.val (.ref m.o),u.V] σ Q:=by
 refine gV NK T rfl λf E=>?_
 have iM:=w.iM
 have iS:=w.iS
 refine AT.go T iM rfl rfl ?_
 refine ME.go T iS rfl ?_
 kd_in
 refine cW.go (.dI 41 []) (.inl rfl) λtb ah q_ e1 ag=>?_
 kd_in
 refine(B7 T calm (L:= []) (B:=H.length+u.sz+1) (w.hs.keep ag (λt ht=>nomatch ht)) (w.hy.keep ag (λt ht=>nomatch ht)) w.ok wf e1 ⟨λn a h=>(by exact aJ h),λn m a h=>(by exact aJ h)⟩ (by simp) hz).mono λr af z=>iz z λH' L' e er bu q_ pp aj=>?_
 subst er
 have kk:Keeps [13,41,50,51] σ af:=(ag.am rfl).trans aj
 exact aq.go (q af H' L' e ⟨w.M.keep kk,bu,kk.tab w.hy,w.ok,by have:=pp.bd;exact M2 [_,_,_,_] [] 0x186a0512011011110002230202110186a051111100022110 rfl hz this⟩ pp kk)
end
end
noncomputable section
open Classical
noncomputable section
variable {c:Cx}{k:Nat}{σ:S}{m:bD}{st:ba}{y:aT}{xs:List aE}{H:Hp}{Tb:ai}{y0:aE}{Q:V→S→Prop}{QX:Addr→Addr→S→Prop}
theorem Th(T:au c)(calm:c.calm=true)(W:Wd σ m st y xs H Tb)(h0:xs[1]? =some y0)(hd:aH H y0 (5,n))
  (q:∀af d,Keeps [120] σ af→af d=some (.bb 121 ["code"] [.int n])→QX 71 d af):cP c (k+6) (.ref 712) [.val (.ref m.o)] σ Q QX:=by
 refine gX T (⟨by decide,rfl,rfl,rfl⟩:Sh 75 712 1 1) (b1 λq_=>rfl) rfl λL A stack=>?_
 have iM:=W.iM
 refine bE.kU T rfl (r:=.asg 1 (.ax (.loc 0) "arg" (.cons (.int 1) .nil))) (by kernel_rfl) λE=>?_
 refine ME.go T iM rfl ?_
 refine kN T W.M W.hs W.hl (n:=1) h0 (by decide) hd ?_
 refine bE.cons (cD.jM T (t:=.cmp .Eq (.item (.loc 1) 0) (.aF (.int 0))) (by kernel_rfl) λE=>?_)
 kd_p
 refine Br.no (λz=>absurd z (show¬(5:Int)=0 by decide)) (bE.nil ?_)
 refine bE.cons (cD.jM T (t:=.cmp .NotEq (.item (.loc 1) 0) (.aF (.int 5))) (by kernel_rfl) λE=>?_)
 kd_p
 refine Br.no (λz=>z rfl) (bE.nil ?_)
 refine bE.cons (cD.pA T calm (r:=.call (.ref 71) (.cons (.item (.loc 1) 1) .nil)) (by kernel_rfl) λE=>?_)
 kd_p
 exact C8 T (Db T q)
theorem Ti(T:au c)(calm:c.calm=true)(W:Wd σ m st y xs H Tb)(h0:xs[1]? =some y0)(hd:aH H y0 (0,a))(hn:Str.ofString "instantiation_error"∈bZ)
  (q:∀af T' (n:Nat) d,Wd af m st y xs H T'→Tb.Ext T'→T'.tx[n]? =some "instantiation_error"→Keeps [3,4,120] σ af→af d=some (.bb 121 ["ball"] [ec (aV n)])→QX 51 d af):cP c (k+6) (.ref 712) [.val (.ref m.o)] σ Q QX:=by
 refine gX T (⟨by decide,rfl,rfl,rfl⟩:Sh 75 712 1 1) (b1 λq_=>rfl) rfl λL A stack=>?_
 have iM:=W.iM
 refine bE.kU T rfl (r:=.asg 1 (.ax (.loc 0) "arg" (.cons (.int 1) .nil))) (by kernel_rfl) λE=>?_
 refine ME.go T iM rfl ?_
 refine kN T W.M W.hs W.hl (n:=1) h0 (by decide) hd ?_
 refine bE.cons (cD.jM T (t:=.cmp .Eq (.item (.loc 1) 0) (.aF (.int 0))) (by kernel_rfl) λE=>?_)
 kd_p
 refine Br.yes rfl ?_
 refine bE.cons (cD.pA T calm (r:=.call (.ref 234) (.cons (.attr (.loc 0) "symbols") .nil)) (by kernel_rfl) λE=>?_)
 refine AT.go T iM rfl rfl ?_
 exact Tf T W.hy W.ok hn λah T' n h1 h2 h3 h4 ag=>uc T λav d aj e=>q av T' n d ((W.tab h1 h2 ag).keep aj) h3 h4 ((ag.am rfl).trans (aj.am rfl)) e
theorem Tj{z:Nat}(T:au c)(calm:c.calm=true)(W:Wd σ m st y xs H Tb)(h0:xs[1]? =some y0)(hd:aH H y0 (4,(z:Int)))(wf:(Tm.a z).Wf Tb)(hn:Str.ofString "type_error"∈bZ)(hk:Str.ofString "integer"∈bZ)
  (rep:(Tm.a z).Rep H (4,(z:Int)))
  (q:∀af T' (u i j:Nat) d,Wd af m st y xs H T'→Tb.Ext T'→T'.tx[i]? =some "integer"→T'.tx[j]? =some "type_error"→T'.fs[u]? =some ((j:Int),2)→Keeps [3,4,5,6,42,52,53,54,55,120,122] σ af→af d=some (.bb 121 ["ball"] [ec (i7 u i [.str "a",.int (z:Int)])])→QX 51 d af):
  cP c (k+6) (.ref 712) [.val (.ref m.o)] σ Q QX:=by
 refine gX T (⟨by decide,rfl,rfl,rfl⟩:Sh 75 712 1 1) (b1 λq_=>rfl) rfl λL A stack=>?_
 have iM:=W.iM
 refine bE.kU T rfl (r:=.asg 1 (.ax (.loc 0) "arg" (.cons (.int 1) .nil))) (by kernel_rfl) λE=>?_
 refine ME.go T iM rfl ?_
 refine kN T W.M W.hs W.hl (n:=1) h0 (by decide) hd ?_
 refine bE.cons (cD.jM T (t:=.cmp .Eq (.item (.loc 1) 0) (.aF (.int 0))) (by kernel_rfl) λE=>?_)
 kd_p
 refine Br.no (λz=>absurd z (show¬(4:Int)=0 by decide)) (bE.nil ?_)
 refine bE.cons (cD.jM T (t:=.cmp .NotEq (.item (.loc 1) 0) (.aF (.int 5))) (by kernel_rfl) λE=>?_)
 kd_p
 refine Br.yes (show (4:Int)≠5 by decide) ?_
 refine bE.cons (cD.pA T calm (r:=.call (.ref 241) (.cons (.attr (.loc 0) "symbols") (.cons (.str "integer") (.cons (.ax (.loc 0) "take" (.cons (.loc 1) .nil)) .nil)))) (by kernel_rfl) λE=>?_)
 refine AT.go T iM rfl rfl ?_
 refine ME.go T iM rfl ?_
 refine yg T calm W wf rep (show 2*1+10≤100000 by decide) λah L' q_ q_ ag=>?_
 have fX:=W.keep ag
 exact C' T calm fX.hy fX.ok hn hk λav T' u i j h1 h2 h3 h4 h5 h6 aj=>uc T λaW d aC e=>q aW T' u i j d ((fX.tab h1 h2 aj).keep aC) h3 h4 h5 h6 (((ag.am rfl).trans (aj.am rfl)).trans (aC.am rfl)) e
end
end
noncomputable section
open Classical
noncomputable section
variable {c:Cx}{f:Fm}{k:Nat}{σ:S}{m:bD}{st:ba}{y:aT}{xs:List aE}{Q:V→S→Prop}{QX:Addr→Addr→S→Prop}
theorem au.hx (T:au c):au (c.hx e C d):=⟨T.look,T.aF,T.keep,T.cls,T.attr,T.ax,T.init,T.kB,λp hp=>⟨⟨(T.exc p hp).1.cls,(T.exc p hp).1.up,(T.exc p hp).1.fn⟩,⟨(T.exc p hp).2.1.set,(T.exc p hp).2.1.mro,(T.exc p hp).2.1.ow,(T.exc p hp).2.1.dict⟩,⟨(T.exc p hp).2.2.get,(T.exc p hp).2.2.hook,(T.exc p hp).2.2.mro,(T.exc p hp).2.2.dict,(T.exc p hp).2.2.find,(T.exc p hp).2.2.at_,(T.exc p hp).2.2.nodup⟩⟩⟩
theorem Dd{cs:List aE}(T:au c)(calm:c.calm=true)(hk:pv∈fk)(M:ez σ m st y xs)(hx:xs.length≤10)(hc:cs.length≤5)(hw:σ w=some (.list 71 (cs.map cV)))
  (hp:∀af az,ez af m st y az→az.length≤10→(∀j d,cs[j]? =some d→az[j+1]? =some d)→Keeps [23] σ af→cP c (k+6) (.ref pv) [.val (.ref m.o)] af (λq_ q_=>False) QX)
  (only:∀C d af,QX C d af→C=71∨C=51)
  (qh:∀d af,QX 71 d af→∃r,af d=some (.bb 121 ["code"] [r])∧r.handed∧Q (.tup [.str "halt",r]) af)
  (qe:∀d af,QX 51 d af→∃r,af d=some (.bb 121 ["ball"] [r])∧r.handed∧Q (.tup [.str "error",r]) af):
  CV c (k+7) (.ref 965) [.val (.ref m.o),.val (.ref pv),.val (.ref w)] σ Q:=by
 refine gW N1 T rfl λL A stack E=>?_
 have iM:=M.inst
 refine ME.go T iM rfl ?_
 refine xJ T calm M hx hc hw λah az M' h1 h2 ag=>?_
 kd_in
 refine cq (T.exc (51,48,"ball") (List.mem_of_getElem? (i:=0) rfl)) λxo q_ ao=>?_
 refine cq (T.exc (71,68,"code") (List.mem_of_getElem? (i:=1) rfl)) λyo q_ bo=>?_
 refine aS.vY (env₀:=AD.fm L A stack|>.env) (QX:=QX) (L:=L) (outer:=stack) rfl rfl (fL.expr (iL.ln (i:=1) (.there .here) rfl (.inl (T.keep _ hk)) λE=>bQ.cons (EV.loc .here rfl (bQ.nil ((λA st s vs E a b d e g hE=>wpAny_mono (hp ah az M' h1 h2 ag A st s vs E a b d e g hE) (λ_ _ ⟨_,_,_,_,_,z⟩=>z.elim) λq_ q_ z=>z)))))) λe C d av aW aO jm aR x q=>?_
 refine Or.elim (only C d aW q) (λTk=>?_) λTl=>?_
 subst Tk
 rotate_left
 subst Tl
 rotate_right
 ·refine bG (qh d aW q) λr r1 r2 r3=>?_
  refine sQ aR x rfl (by exact .here) yo yo rfl (i:=3) (.there (.there (.there .here))) rfl (λq_ E=>?_) (λh=>by exact dG h)
  refine EX.cons (aS.ret (EV.tup (bQ.cons (EV.str (bQ.cons (EV.v6 (EV.loc (.there (.there (.there .here))) rfl ⟨e,71,31,d,121,_,_,0,r,rfl,rfl,rfl,r1,(T.hx.exc (71,68,"code") (List.mem_of_getElem? (i:=1) rfl)).2.2,rfl,r2,bQ.nil ⟨aD rfl,?_⟩⟩)))))))
  exact aq.go r3
 ·refine bG (qe d aW q) λr r1 r2 r3=>?_
  refine sQ aR x rfl (by exact .here) xo yo rfl (i:=3) (.there (.there (.there .here))) rfl (λh=>by exact cj h) (λq_ h' x'=>?_)
  refine sQ aR x' rfl (by exact .there .here) xo xo rfl (i:=4) (.there (.there (.there (.there .here)))) rfl (λq_ E=>?_) (λh=>by exact dG h)
  refine EX.cons (aS.ret (EV.tup (bQ.cons (EV.str (bQ.cons (EV.v6 (EV.loc (.there (.there (.there (.there .here)))) rfl ⟨e,51,31,d,121,_,_,0,r,rfl,rfl,rfl,r1,(T.hx.exc (51,48,"ball") (List.mem_of_getElem? (i:=0) rfl)).2.2,rfl,r2,bQ.nil ⟨aD rfl,?_⟩⟩)))))))
  exact aq.go r3
end
end
noncomputable section
open Classical
noncomputable section
variable {c:Cx}{f:Fm}{k:Nat}{σ:S}{m:bD}{st:ba}{y:aT}{xs:List aE}{H:Hp}{Tb:ai}{y0:aE}{Q:V→S→Prop}{QX:Addr→Addr→S→Prop}
theorem ud(T:au c)(h:cP c k (.ref 698) [a] σ Q QX):cP c (k+1) (.ref Jp.a) [a] σ Q QX:=by
 refine gX T (⟨by decide,rfl,rfl,rfl⟩:Sh 98 958 1 0) (b1 λq_=>rfl) rfl λL A stack=>?_
 refine bE.cons (fL.r (fL.ret (iL.sq .here (.inl (T.keep 698 (by decide))) λE=>bQ.cons (EV.loc .here rfl (bQ.nil ?_)))))
 intro A st s vs E a b d e g hE
 exact wpAny_mono (h A st s vs E a b d e g hE) (λq_ q_ z=>z.el λr af z1 z2 z3 z4=>⟨r,af,z1,z2,z3,aq.go z4⟩) λq_ q_ z=>z
theorem Tn{t:Tm}(T:au c)(calm:c.calm=true)(W:Wd σ m st y xs H Tb)(h0:xs[1]? =some y0)(rep:t.Rep H y0)(wf:∀T',Tb.Ext T'→t.Wf T')(hz:2*t.sz+10≤100000)(nv:∀n,t≠.v n)(na:∀n,t≠.a n)
  (hn:Str.ofString "type_error"∈bZ) (ha:Str.ofString "atom"∈bZ)
  (q:∀af T' L (u i j:Nat) d cu,(t.aQ (idx L)).V= .tup cu→L.Nodup→t.bp (· ∈L)→Wd af m st y xs H T'→Tb.Ext T'→T'.tx[i]? =some "atom"→T'.tx[j]? =some "type_error"→T'.fs[u]? =some ((j:Int),2)→
   Keeps [3,4,5,6,42,52,53,54,55,120,122] σ af→af d=some (.bb 121 ["ball"] [ec (i7 u i cu)])→QX 51 d af):cP c (k+7) (.ref 698) [.val (.ref m.o)] σ Q QX:=by
 refine gX T (⟨by decide,rfl,rfl,rfl⟩:Sh 73 698 1 4) (b1 λq_=>rfl) rfl λL A stack=>?_
 have iM:=W.iM
 refine bE.kU T rfl (r:=cm kE 0) (by kernel_rfl) λE=>?_
 refine AT.go T iM rfl rfl ?_
 refine bE.kU T rfl (r:=cm kE 1) (by kernel_rfl) λE=>?_
 refine ME.go T iM rfl ?_
 refine W.jH T h0 rep λd sh ra dd=>?_
 have k0:d.1≠0∧d.1≠4:=by
  cases t with
  |v n=>exact absurd rfl (nv n)
  |a n=>exact absurd rfl (na n)
  |i n=>refine ae (show d= (5,n) from sh) ?_;exact⟨(show (5:Int)≠0 by decide),(show (5:Int)≠4 by decide)⟩
  |s g l=>
   refine ak sh λa e q_=>?_
   refine ae e ?_;show aN g≠0∧aN g≠4;unfold aN;split<;>decide
 obtain ⟨cu,pB⟩:∃f:List Int→List V,∀L,(t.aQ (idx L)).V= .tup (f L):=by
  cases t<;>exact⟨λL=>_,λL=>rfl⟩
 refine bE.kU T rfl (r:=cm kE 2) (by kernel_rfl) λE=>?_
 refine tZ T W λah T1 i j l W1 e1 t1 t2 t3 ag=>?_
 refine bE.cons (cD.jM T (t:=.cmp .NotEq (.item (.loc 2) 0) (.aF (.int 0))) (by kernel_rfl) λE=>?_)
 kd_p
 refine Br.yes k0.1 ?_
 refine bE.cons (cD.jM T (t:=.cmp .NotEq (.item (.loc 2) 0) (.aF (.int 4))) (by kernel_rfl) λE=>?_)
 kd_p
 refine Br.yes k0.2 ?_
 refine bE.cons (cD.pA T calm (r:=.call (.ref 241) (.cons (.loc 1) (.cons (.str "atom") (.cons (.ax (.loc 0) "take" (.cons (.loc 2) .nil)) .nil)))) (by kernel_rfl) λE=>?_)
 refine ME.go T W1.iM rfl ?_
 refine yg T calm W1 (wf T1 e1) ra hz λav L' nd lW aj=>?_
 have cM:=W1.keep aj
 refine ae (pB L') ?_
 exact C' T calm cM.hy cM.ok hn ha λaW T' u i j h1 h2 h3 h4 h5 h6 aC=>uc T λbn d aM e=>q bn T' L' u i j d _ (pB L') nd lW ((cM.tab h1 h2 aC).keep aM) (e1.trans h3) h4 h5 h6 ((((ag.am rfl).trans (aj.am rfl)).trans (aC.am rfl)).trans (aM.am rfl)) e
theorem To{z:Nat}{s:Str}(T:au c)(calm:c.calm=true)(W:Wd σ m st y xs H Tb)(h0:xs[1]? =some y0)(hd:aH H y0 (4,(z:Int)))(hz:Tb.tx[z]? =some s)(n1:s≠"<")(n2:s≠"=")(n3:s≠">")(wf:∀T',Tb.Ext T'→(Tm.a z).Wf T')
  (rep:(Tm.a z).Rep H (4,(z:Int))) (hn:Str.ofString "domain_error"∈bZ) (ha:Str.ofString "order"∈bZ)
  (q:∀af T' (u i j:Nat) d,Wd af m st y xs H T'→Tb.Ext T'→T'.tx[i]? =some "order"→T'.tx[j]? =some "domain_error"→T'.fs[u]? =some ((j:Int),2)→
   Keeps [3,4,5,6,42,52,53,54,55,120,122] σ af→af d=some (.bb 121 ["ball"] [ec (i7 u i [.str "a",.int (z:Int)])])→QX 51 d af):cP c (k+7) (.ref 698) [.val (.ref m.o)] σ Q QX:=by
 refine gX T (⟨by decide,rfl,rfl,rfl⟩:Sh 73 698 1 4) (b1 λq_=>rfl) rfl λL A stack=>?_
 have iM:=W.iM
 refine bE.kU T rfl (r:=cm kE 0) (by kernel_rfl) λE=>?_
 refine AT.go T iM rfl rfl ?_
 refine bE.kU T rfl (r:=cm kE 1) (by kernel_rfl) λE=>?_
 refine ME.go T iM rfl ?_
 refine kN T W.M W.hs W.hl (n:=1) h0 (by decide) hd ?_
 refine bE.kU T rfl (r:=cm kE 2) (by kernel_rfl) λE=>?_
 refine tZ T W λah T1 i j l W1 e1 t1 t2 t3 ag=>?_
 have jI:=bW e1.tx hz
 have ne:∀{a:Nat}{b:Str},T1.tx[a]? =some b→s≠b→(z:Int)≠(a:Int):=λ{a b} h1 h2 e=>by
  have e':z=a:=Int.ofNat.inj e
  subst e'
  rw[jI]at h1
  exact h2 (Option.some.inj h1)
 refine bE.cons (cD.jM T (t:=.cmp .NotEq (.item (.loc 2) 0) (.aF (.int 0))) (by kernel_rfl) λE=>?_)
 kd_p
 refine Br.yes (show (4:Int)≠0 by decide) ?_
 refine bE.cons (cD.jM T (t:=.cmp .NotEq (.item (.loc 2) 0) (.aF (.int 4))) (by kernel_rfl) λE=>?_)
 kd_p
 refine Br.no (λz=>z rfl) (bE.nil ?_)
 refine bE.cons (cD.jM T (t:=.and (.cmp .NotEq (.item (.loc 2) 1) (.item (.loc 3) 0)) (.and (.cmp .NotEq (.item (.loc 2) 1) (.item (.loc 3) 1)) (.cmp .NotEq (.item (.loc 2) 1) (.item (.loc 3) 2)))) (by kernel_rfl) λE=>?_)
 kd_p
 refine Br.yes (ne t1 n1) ?_
 kd_p
 refine Br.yes (ne t2 n2) ?_
 kd_p
 refine Br.yes (ne t3 n3) ?_
 refine bE.cons (cD.pA T calm (r:=.call (.ref 248) (.cons (.loc 1) (.cons (.str "order") (.cons (.ax (.loc 0) "take" (.cons (.loc 2) .nil)) .nil)))) (by kernel_rfl) λE=>?_)
 refine ME.go T W1.iM rfl ?_
 refine yg T calm W1 (wf T1 e1) rep (show 2*1+10≤100000 by decide) λav L' nd lW aj=>?_
 have cM:=W1.keep aj
 exact Te T calm cM.hy cM.ok hn ha λaW T' u i j h1 h2 h3 h4 h5 h6 aC=>uc T λbn d aM e=>q bn T' u i j d ((cM.tab h1 h2 aC).keep aM) (e1.trans h3) h4 h5 h6 ((((ag.am rfl).trans (aj.am rfl)).trans (aC.am rfl)).trans (aM.am rfl)) e
end
end
noncomputable section
open Classical
noncomputable section
variable {c:Cx}{f:Fm}{k:Nat}{E:Value→Shared→Prop}{σ:S}{ρ:Lo}
theorem V.qj (t:Nat){py qk:Pos}(T:au c)(l:List V)(ok:S→Prop)(J:Nat→List V→S→Prop)
  (vG:swapsWith (.ListComp fj [⟨.Name x p,iter, [],0⟩] scope pos) (some (.Name y py)) qk.line f.env=pure true) (Tp:Ix f.N y iy) (hl:f.env.kindOf y=some .local)
  (hi:cE f.N f.G 20 iter=some ri) (he:cE (x::ys) G' 20 fj=some re) (wP:qB iter=false)
  (co:fh c f scope cl x ys G') (ko:jq f ρ cl ys rs)
  (h0:vE c f k E ri ρ σ λr ah=>bI c ah r l ok∧J 0 [] ah) (cG:∀i aG σ,J i aG σ→ok σ) (ch:l.length≤100000)
  (step:∀f' E i r aG σ,l[i]? =some r→J i aG σ→aG.length=i→vE c f' k E re (some r::rs) σ λy af=>J (i+1) (aG++ [y]) af)
  (gj:∀aG σ af a,J l.length aG σ→aG.length=l.length→af a=some (.list t aG)→Keeps [] σ af→Q .next (gk ρ iy (some (.val (.ref a)))) af):aS c f E k (.Assign [.Name y py] (.ListComp fj [⟨.Name x p,iter, [],0⟩] scope pos) qk) ρ σ Q:=
 aS.qj t l ok J vG Tp hl co ko ((sE T 20).1 _ _ hi _ _ _ h0) cG (sl ch) (λE C i r aG σ h1 h2 h3=>(sE T 20).1 fj re he _ _ _ (step (f.comp scope cl (x::ys) G' C) E i r aG σ h1 h2 h3))
  (λaG σ a h1 h2 h3=>by exact aU (mY ..) (gj aG σ _ a h1 h2 c5 (.new h3))) (λv=>wA wP v)
end
end
noncomputable section
open Classical
noncomputable section
variable {c:Cx}{f:Fm}{k:Nat}{σ:S}{y:aT}{Tb:ai}{Q:V→S→Prop}
theorem ue(T:au c)(calm:c.calm=true)(h:ai.aX σ y Tb)(ok:Tb.Ok)(hn:nm∈bZ)(hk:kd∈bZ)(hp:σ pl=some (.list tg [.str kd,.tup cu]))(ht:6<tg)
  (q:∀af T' (m i j:Nat),ai.aX af y T'→T'.Ok→Tb.Ext T'→T'.tx[i]? =some kd→T'.tx[j]? =some nm→T'.fs[m]? =some ((j:Int),2)→Keeps [3,4,5,6] σ af→Q (.tup [.str "error",ec (i7 m i cu)]) af):
  CV c (k+3) (.ref 915) [.val (.ref y.o),.str nm,.val (.ref pl)] σ Q:=by
 have nt:∀X:List Nat,X.all (λt=>Nat.ble t 6)=true→tg∉X:=λX hX hm=>by
  have:=aD (List.all_eq_true.mp hX tg hm)
  exact nf (M2 [_] [] 0x111111106110011000611111 rfl ht this)
 refine gW Bu T rfl λL A stack E=>?_
 refine V.qj (iy:=3) (x:="part") (ys:= ["names"]) (G':= [("isinstance",.val (.builtin "isinstance")),("str",.val (.type "str"))]) (cl:= [("names",L+1)]) (rs:= [some (.val (.ref y.o))]) (ri:=.loc 2)
  (re:=.ite (.bz (.call (.builtin "isinstance") (.cons (.loc 0) (.cons (.aF (.val (.type "str"))) .nil)))) (.tup (.cons (.str "a") (.cons (.ax (.loc 1) "atom" (.cons (.loc 0) .nil)) .nil))) (.loc 0)) 125 T [.str kd,.tup cu] (λaf=>RL c af pl [.str kd,.tup cu])
  (λi aG af=>∃T',ai.aX af y T'∧T'.Ok∧Tb.Ext T'∧Keeps [3,4] σ af∧(match i with| 0=>aG= []| 1=>∃j:Nat,T'.tx[j]? =some kd∧aG= [aV j]|_=>∃j:Nat,T'.tx[j]? =some kd∧aG= [aV j,.tup cu]))
  (by kernel_rfl) (.there (.there (.there .here))) rfl (by kernel_rfl) (by kernel_rfl) rfl
  (fh.of T (by kernel_rfl) (by kernel_rfl) (List.forall_mem_cons.2 ⟨by kernel_rfl,List.forall_mem_nil _⟩) (List.forall_mem_cons.2 ⟨List.mem_of_getElem? (i:=50) rfl,List.forall_mem_cons.2 ⟨List.mem_of_getElem? (i:=85) rfl,List.forall_mem_nil _⟩⟩))
  (.cons (a:=L+1) .here rfl (by kernel_rfl) (by kernel_rfl) (by kernel_rfl) .nil) ?_ (λi aG af j=>.own (j.choose_spec.2.2.2.1 _ _ hp (nt _ rfl))) (aD rfl) (λf' E i r aG af hr j hi=>?_) (λaG ah av a j ha hw kk=>?_)
 ·kd_p
  exact⟨bI.list (λaf=>RL c af pl [.str kd,.tup cu]) (λq_ h=>h) (.own hp) calm,Tb,h,ok,.refl _,.refl,rfl⟩
 ·refine nU j λT' hT iX ext kk hi=>?_
  cases i with
  |zero=>
   (injection hr with hr;subst hr)
   subst hi
   kd_p
   refine CV.Ad ?_
   kd_p
   refine Br.tt ?_
   kd_p
   refine gw T hT iX hk λah n jL i8 i9 gK e1 e2 ag=>?_
   exact⟨jL,i8,i9,ext.trans gK,kk.trans ag,n,e2,rfl⟩
  |succ i=>
   cases i with
   |zero=>
   (injection hr with hr;subst hr)
   refine ak hi λn e2 xZ=>?_
   subst xZ
   kd_p
   refine CV.Ae ?_
   kd_p
   refine Br.ff ?_
   exact⟨T',hT,iX,ext,kk,n,e2,rfl⟩
   |succ i=>exact aJ hr
 ·refine nU j λT' hT iX ext pz Tq=>?_
  refine ak Tq λn e2 Ts=>?_
  subst Ts
  have nL:=hT.keep kk (λt ht=>nomatch ht)
  kd_p
  refine CV.lv hw (sl (aD rfl)) ?_
  kd_p
  refine qX T nL iX hn (n:=2) (by decide) λaW m i jL i8 i9 gK e1 e3 ag=>?_
  kd_p
  have rB:=ag.at hw
  refine CV.mI rB (sl (aD rfl)) ?_
  kd_p
  refine aZ.go 126 λw bn q_ e4 aM=>?_
  refine OV.Aq (aM.at rB) e4 ?_
  refine Br.no (λz=>nomatch z) ?_
  kd_p
  exact aq.go (q bn jL m n i (i8.keep aM (λt ht=>nomatch ht)) i9 (ext.trans gK) (bW gK.tx e2) e1 e3 (((pz.am rfl).trans (kk.am rfl)).trans ((ag).trans (aM.am rfl))))
end
end
noncomputable section
open Classical
noncomputable section
variable {c:Cx}{k:Nat}{σ:S}{m:bD}{st:ba}{y:aT}{xs:List aE}{H:Hp}{Tb:ai}{Q:V→S→Prop}
structure Laid(H:Hp)(L:VT)(ts:List Tm)(cs:List aE):Prop where
 len:cs.length=ts.length
 rep:∀(i:Nat) t e,ts[i]? =some t→cs[i]? =some e→(t.aQ (nu L)).Rep H e
 c7:∀t∈ts,∀n,t.Vr n→∃a,L.lookup n=some a
 ny:o7 H L
theorem Laid.snoc (h:Laid H L ts cs)(p:qY t H L B H' L' e):Laid H' L' (ts++ [t]) (cs++ [e]):=by
 refine⟨by refine ae List.length_append (ae List.length_append (ae h.len ?_));rfl,λi u d hu hd=>?_,λu hu n hn=>?_,p.ny⟩
 ·by_cases hi:i<ts.length
  ·rw[List.getElem?_append_left hi]at hu
   rw[List.getElem?_append_left (h.len▸hi)]at hd
   have e1:u.aQ (nu L')=u.aQ (nu L):=Tm.BR u λx hx=>by
    refine XE (h.c7 u (List.mem_of_getElem? hu) x hx) λa ha=>?_
    exact ae (fQ ha) (ae (fQ (p.ext x a ha)) rfl)
   refine ae e1 ?_
   exact(h.rep i u d hu hd).mono p.le
  ·rw[List.getElem?_append_right (by exact M1 [_,_] [] 0x10001101000110 rfl (Nat.not_lt.mp hi))]at hu
   rw[List.getElem?_append_right (by exact ae h.len (M1 [_,_] [] 0x10001101000110 rfl (Nat.not_lt.mp hi)))]at hd
   rw[h.len]at hd
   have h0:=be hu
   rw[List.length_singleton]at h0
   rw[show i- ts.length=0 by exact Nat.le_antisymm (M1 [_] [] 0x110011011100111 rfl h0) (M0 [_] [] 69904 rfl)]at hu hd
   (injection hu with hu;subst hu);(injection hd with hd;subst hd)
   exact p.rep
 ·refine Or.elim (List.mem_append.mp hu) (λhu=>?_) λhu=>?_
  ·refine XE (h.c7 u hu n hn) λa ha=>?_
   exact⟨a,p.ext n a ha⟩
  ·rw[List.mem_singleton]at hu
   subst hu
   exact p.c7 n hn
theorem Tt{L:Addr}{A:Around}{stack:List Env}{E:Value→Shared→Prop}{ts:List Tm}{ws tb:Addr}{tg:Nat}{pv du x5 x6 x7 x8 x9 xa xb xc xd:Option V}{QX:Fl→Lo→S→Prop}(T:au c)(calm:c.calm=true)(W:Wd σ m st y xs H Tb)(hw:σ ws=some (.list tg (ts.map Tm.V)))(ht: [13,41,50,51].elem tg=false)
  (e1:σ tb=some (.dI 41 (df []))) (wf:∀t∈ts,t.Wf Tb) (hz:∀t∈ts,t.sz≤200) (hl:ts.length≤3) (hH:H.length≤90000)
  (q:∀a af H' L' cs,af a=some (.list 71 (cs.map cV))→Wd af m st y xs H' Tb→H'.length≤H.length+201*ts.length→Laid H' L' ts cs→Keeps [13,41,50,51] σ af→QX .next [some (.val (.ref m.o)),pv,some (.val (.ref ws)),du,some (.val (.ref tb)),some (.val (.ref a)),x6,x7,x8,x9,xa,xb,xc,xd] af):
  aS c (mS.fm L A stack) E (k+3) (cz [1] mS.body) [some (.val (.ref m.o)),pv,some (.val (.ref ws)),du,some (.val (.ref tb)),x5,x6,x7,x8,x9,xa,xb,xc,xd] σ QX:=by
 refine V.qj (iy:=5) (x:="side") (ys:= ["machine","table"]) (G':= []) (cl:= [("table",L+1+1),("machine",L+1)]) (rs:= [some (.val (.ref m.o)),some (.val (.ref tb))]) (ri:=.loc 2)
  (re:=.ax (.attr (.loc 1) "store") "put_term" (.cons (.loc 0) (.cons (.loc 2) .nil))) 71 T (ts.map Tm.V) (λaf=>RL c af ws (ts.map Tm.V))
  (λi aG af=>∃H' L' cs,aG=cs.map cV∧Wd af m st y xs H' Tb∧af tb=some (.dI 41 (df L'))∧H'.length+L'.length≤H.length+201*i∧Laid H' L' (ts.take i) cs∧Keeps [13,41,50,51] σ af)
  (by kernel_rfl) (.there (.there (.there (.there (.there .here))))) rfl (by kernel_rfl) (by kernel_rfl) rfl
  (fh.of T (by kernel_rfl) (by kernel_rfl) (List.forall_mem_cons.2 ⟨by kernel_rfl,List.forall_mem_cons.2 ⟨by kernel_rfl,List.forall_mem_nil _⟩⟩) (List.forall_mem_nil _))
  (.cons (a:=L+1) .here rfl (by kernel_rfl) (by kernel_rfl) (by kernel_rfl) (.cons (a:=L+1+1) (.there (.there (.there (.there .here)))) rfl (by kernel_rfl) (by kernel_rfl) (by kernel_rfl) .nil)) ?_ (λi aG af j=>.own (j.choose_spec.choose_spec.choose_spec.2.2.2.2.2.at hw ht)) (by exact ae (List.length_map ..) (Nat.le_trans (by assumption) (aD rfl))) (λf' E i r aG af hr j hi=>?_) (λaG ah av a j ha kI kk=>?_)
 ·kd_p
  exact⟨bI.list (λaf=>RL c af ws (ts.map Tm.V)) (λq_ h=>h) (.own hw) calm,H, [], [],rfl,W,e1,by simp,⟨rfl,λi t e h=>(by simp at h),λt h=>(by simp at h),⟨λn a h=>(by exact aJ h),λn m a h=>(by exact aJ h)⟩⟩,.refl⟩
 ·refine iz j λH' L' cs Tu W' e2 hb Tv=>?_
  refine XA Tv λla kk=>?_
  subst Tu
  rw[List.getElem?_map]at hr
  refine eW hr λt yh=>?_
  have hm:=List.mem_of_getElem? yh
  have hi:=be yh
  have h1:=hz t hm
  have iM:=W'.iM
  have iS:=W'.iS
  kd_p
  refine(B7 T calm (B:=H'.length+L'.length+t.sz+1) W'.hs W'.hy W'.ok (wf t hm) e2 la.ny (Nat.le_refl _) (by exact M5 [_,_,_,_,_,_] [] 0x186a051111503020222110c821501100040c92140c9251023020211015f90511011031100c920 rfl hl hH hb hi h1)).mono λr aL z=>?_
  refine iz z λfz iJ e er bu e3 pp aj=>?_
  subst er
  have:=pp.bd
  refine nY fz iJ (cs++ [e]) (by exact ae List.map_append rfl) ⟨W'.M.keep aj,bu,aj.tab W'.hy,W'.ok,by exact M6 [_,_,_,_,_,_,_,_] [] 0x186a0516011011150302022270602110c821501100040c92140c9251023020211015f90511011031100c920 rfl hl hH hb hi h1 this⟩ e3 (by exact M3 [_,_,_,_,_,_,_] [] 0x111302c9252026050211011140100022260502110c8214011030c92520210002110 rfl hb h1 this) ?_ (kk.trans aj)
  refine ae List.take_add_one (ae yh ?_)
  exact la.snoc pp
 ·refine iz j λH' L' cs Tw W' e2 hb Tx=>?_
  refine XA Tx λla pz=>?_
  subst Tw
  rw[List.length_map]at hb
  rw[List.length_map,List.take_length]at la
  exact q a av H' L' cs kI (W'.keep kk) (by exact Nat.le_trans (Nat.le_add_right _ _) (by assumption)) la (pz.trans (kk.am rfl))
end
end
noncomputable section
open Classical
noncomputable section
noncomputable def Tm.mp (g:Int→Tm):Tm→Tm:=Tm.fold g .a .i .s
theorem Tm.jN {g f l}:(Tm.s f l).mp g= .s f (l.map (Tm.mp g)):=Tm.ia
theorem Tm.De (t:Tm):(∀x,t.Vr x→g x=h x)→t.mp g=t.mp h:=by
 induction t using Tm.ind with
 |hv n=>exact λz=>z n rfl
 |ha n=>exact λq_=>rfl
 |hi n=>exact λq_=>rfl
 |hs f l ih=>
  intro z
  refine ae Tm.jN (ae Tm.jN ?_)
  exact congrArg _ (List.map_congr_left λt ht=>ih t ht λx hx=>z x (Tm.ej.mpr ⟨t,ht,hx⟩))
theorem Tm.yi (t:Tm):(t.mp g).mp h=t.mp λn=>(g n).mp h:=by
 induction t using Tm.ind with
 |hv n=>rfl
 |ha n=>rfl
 |hi n=>rfl
 |hs f l ih=>rw[Tm.jN,Tm.jN,Tm.jN,List.map_map];exact congrArg _ (List.map_congr_left ih)
theorem Tm.yj (t:Tm):(t.mp g).Vr z↔∃x,t.Vr x∧(g x).Vr z:=by
 induction t using Tm.ind with
 |hv n=>exact⟨λh=>⟨n,rfl,h⟩,λ⟨x,h1,h2⟩=>by cases (show x=n from h1);exact h2⟩
 |ha n=>exact⟨λh=>h.elim,λ⟨_,h,_⟩=>h.elim⟩
 |hi n=>exact⟨λh=>h.elim,λ⟨_,h,_⟩=>h.elim⟩
 |hs f l ih=>
  rw[Tm.jN,Tm.ej]
  constructor
  ·rintro ⟨_,hm,h⟩
   refine ak (List.mem_map.mp hm) λt ht m7=>?_
   subst m7
   refine ak ((ih t ht).mp h) λx h1 h2=>?_
   exact⟨x,Tm.ej.mpr ⟨t,ht,h1⟩,h2⟩
  ·rintro ⟨x,h1,h2⟩
   refine ak (Tm.ej.mp h1) λt ht h1=>?_
   exact⟨_,List.mem_map.mpr ⟨t,ht,rfl⟩,(ih t ht).mpr ⟨x,h1,h2⟩⟩
noncomputable def uf(g:Int→Tm):Prop:=∀n,(∃m,g n= .v m)∨∃m,g n= .a m
theorem Tm.Df (hg:uf g)(t:Tm):(t.mp g).sz=t.sz:=by
 induction t using Tm.ind with
 |hv n=>(refine Or.elim (hg n) (λTz=>?_) λTA=>?_;obtain ⟨m,e⟩:=Tz;rotate_left;obtain ⟨m,e⟩:=TA;rotate_right)<;> (show (g n).sz=_;exact ae e rfl)
 |ha n=>rfl
 |hi n=>rfl
 |hs f l ih=>refine ae Tm.jN (ae Tm.dq (ae Tm.dq (ae List.map_map ?_)));exact congrArg (2+List.sum ·) (List.map_congr_left λt ht=>congrArg (· +1) (ih t ht))
theorem Tm.TB (hg:uf g)(t:Tm):∀{h},t.bF h→(t.mp g).bF h:=by
 induction t using Tm.ind with
 |hv n=>intro h _;(refine Or.elim (hg n) (λTC=>?_) λTD=>?_;obtain ⟨m,e⟩:=TC;rotate_left;obtain ⟨m,e⟩:=TD;rotate_right)<;> (show (g n).bF _;refine ae e ?_;trivial)
 |ha n=>intro h _;trivial
 |hi n=>intro h _;trivial
 |hs f l ih=>
  intro h hh
  rw[Tm.dY]at hh
  rw[Tm.jN,Tm.dY]
  exact⟨hh.1,λu hu=>by
   refine eU hu λt ht=>?_
   exact ih t ht (hh.2 t ht)⟩
theorem Tm.Dg (hg:∀n,(g n).Wf T)(t:Tm):t.Wf T→(t.mp g).Wf T:=by
 induction t using Tm.ind with
 |hv n=>exact λq_=>hg n
 |ha n=>exact id
 |hi n=>exact id
 |hs f l ih=>
  intro h
  rw[Tm.jN,Tm.bB,List.length_map]
  rw[Tm.bB]at h
  exact⟨h.1,h.2.1,h.2.2.1,h.2.2.2.1,λu hu=>by
   refine eU hu λt ht=>?_
   exact ih t ht (h.2.2.2.2 t ht)⟩
theorem Tm.yk (t:Tm):(t.aQ ρ).aQ τ=t.aQ λn=>τ (ρ n):=Tm.yi t
theorem TE{ρ:Int→Int}:uf λn=>.v (ρ n):=λn=>.inl ⟨_,rfl⟩
theorem Tm.rC (t:Tm):(t.aQ ρ).sz=t.sz:=Tm.Df TE t
theorem Tm.lX (t:Tm)(h:t.Wf T):(t.aQ ρ).Wf T:=Tm.Dg (g:=λn=>.v (ρ n)) (λn=>(trivial:Tm.Wf T (.v (ρ n)))) t h
theorem Tm.Dh {t:Tm}(h:t.Vr x):(t.aQ ρ).Vr (ρ x):=(Tm.yj t).mpr ⟨x,h,rfl⟩
noncomputable def lY:Option (Int×Nat)→Int→Tm
 |none,z=>.v z
 |some (x,n),z=>if z=x then .a n else .v z
theorem Di:uf (lY b):=λz=>by
 cases b with
 |none=>exact .inl ⟨z,rfl⟩
 |some p=>
  unfold lY
  by_cases h:z=p.1
  ·exact .inr ⟨p.2,if_pos h⟩
  ·exact .inl ⟨z,if_neg h⟩
theorem yl(t:Tm):t.mp .v=t:=by
 induction t using Tm.ind with
 |hs f l ih=>exact ae Tm.jN (congrArg _ ((List.map_congr_left ih).trans (List.map_id l)))
 |_=>rfl
theorem rD{t:Tm}:dQ b t=t.mp (lY b):=by
 cases b with
 |none=>exact(yl t).symm
 |some p=>rfl
theorem TF{t:Tm}(h:∀y,t.Vr y→ρ y=ρ x→y=x):(dQ (some (x,n)) t).aQ ρ= (t.aQ ρ).sub (ρ x) n:=by
 refine ae rD ?_
 refine(Tm.yi t).trans ((Tm.De t λy hy=>?_).trans (Tm.yi (h:=λy=>if y=ρ x then .a n else .v y) t).symm)
 show Tm.mp _ (if y=x then Tm.a n else .v y)=if ρ y=ρ x then Tm.a n else .v (ρ y)
 by_cases e:y=x
 ·refine ae (if_pos e) (ae (if_pos (congrArg ρ e)) ?_);rfl
 ·refine ae (if_neg e) (ae (if_neg λq=>e (h y hy q)) ?_);rfl
theorem ym(t:Tm):nV t≤t.sz:=by
 induction t using Tm.ind with
 |hs f l ih=>
  refine ae CQ (ae Tm.dq ?_)
  clear f
  induction l with
  |nil=>exact Nat.zero_le _
  |cons t l m9=>
   refine ae List.map_cons (ae List.map_cons (ae List.sum_cons (ae List.sum_cons ?_)))
   have h1:=ih t (.head _)
   have h2:=m9 λx hx=>ih x (.tail _ hx)
   exact M2 [_,_,_,_] [] 0x301111022211220002110302112201101000110 rfl h1 h2
 |hv n=>exact Nat.le_refl _
 |_=>exact Nat.zero_le _
theorem Tm.lZ (t:Tm):∀{n},t.bF n→t.bF (n+1):=by
 induction t using Tm.ind with
 |hs f l ih=>
  intro n h
  rw[Tm.dY]at h ⊢
  obtain ⟨n,rfl⟩:=Nat.exists_eq_add_of_le' (show 1≤n by exact M1 [_] [] 0x11111000011111 rfl h.1)
  exact⟨Nat.succ_pos _,λt ht=>ih t ht (h.2 t ht)⟩
 |_=>intro n h;trivial
end
end
noncomputable section
open Classical
noncomputable section
variable {c:Cx}{k:Nat}{σ:S}{m:bD}{st:ba}{y:aT}{xs:List aE}{H:Hp}{Tb:ai}{Q:V→S→Prop}
noncomputable abbrev pC:List Nat:= [42,52,53,54,55,91,92]
structure TG(aK:S)(L:VT)(se th bk:Addr)(i:Nat)(σ:S)(L' D:List Int):Prop where
 se:σ se=some (.dI 42 (gv L'))
 nd:L'.Nodup
 len:L'.length≤400*i
 mt:eO σ th bk (λx=>idx L' (nu L x)) (λx=>(∃a,L.lookup x=some a)∧nu L x∈L') D
 dl:D.length≤200*i
 kp:Keeps pC aK σ
theorem eO.grow {L:VT}{th bk:Addr}{L' M D:List Int}(h:eO σ th bk (λx=>idx L' (nu L x)) (λx=>(∃a,L.lookup x=some a)∧nu L x∈L') D)(nd:(L'++M).Nodup)(vi:∀n m a,L.lookup n=some a→L.lookup m=some a→n=m):
  eO σ th bk (λx=>idx (L'++M) (nu L x)) (λx=>(∃a,L.lookup x=some a)∧nu L x∈L'++M) D:=by
 have e:∀x∈D,idx (L'++M) (nu L x)=idx L' (nu L x):=λx hx=>BP (h.lS x hx).2
 refine⟨h.th.trans ?_,h.bk.trans ?_,λx z hx hz q=>?_,λx hx=>⟨(h.lS x hx).1,List.mem_append_left _ (h.lS x hx).2⟩,h.len⟩
 ·unfold lR;exact congrArg (λl=>some (O.dI 91 l)) (List.map_congr_left λx hx=>congrArg (λz=>(x,V.int z)) (e x hx).symm)
 ·unfold kS;exact congrArg (λl=>some (O.dI 92 l)) (List.map_congr_left λx hx=>congrArg (λz=>(z,V.int x)) (e x hx).symm)
 ·refine XA hx λTH h1=>?_
  obtain ⟨a,ha⟩:=TH
  refine XA hz λTJ h2=>?_
  obtain ⟨b,hb⟩:=TJ
  have e:=BQ h1 q
  rw[fQ ha,fQ hb]at e
  subst e
  exact vi x z a ha hb
theorem TL{ts:List Tm}{cs:List aE}{L:VT}(T:au c)(calm:c.calm=true)(W:Wd σ m st y xs H Tb)
  (hw:σ ws=some (.list tg (ts.map Tm.V))) (hp:σ pl=some (.list 71 (cs.map cV))) (hb:σ bo=some (.dI 130 (dF b))) (ht:pC.elem tg=false) (hl:cs.length=ts.length) (h3:ts.length≤3) (hz:∀t∈ts,t.sz≤200) (hh:∀t∈ts,t.bF 4) (wf:∀t∈ts,t.Wf Tb) (wb:∀n,(lY b n).Wf Tb)
  (rep:∀(i:Nat) t e,ts[i]? =some t→cs[i]? =some e→((dQ b t).aQ (nu L)).Rep H e) (c7:∀t∈ts,∀n,t.Vr n→∃a,L.lookup n=some a) (vi:∀n m a,L.lookup n=some a→L.lookup m=some a→n=m)
  (q:∀af,Wd af m st y xs H Tb→Keeps pC σ af→Q (.bool true) af):
  vX c f (k+8) (bT 8 qJ) E [some (.val (.ref m.o)),x1,some (.val (.ref ws)),x3,x4,some (.val (.ref pl)),x6,x7,some (.val (.ref bo)),x9,xa,xb,xc,xd] σ (aq Q):=by
 kd_in
 refine cW.go (.dI 42 []) (.inl rfl) λse ah q_ e1 ag=>?_
 kd_in
 refine cW.go (.dI 91 []) (.inl rfl) λth av q_ e2 aj=>?_
 kd_in
 refine cW.go (.dI 92 []) (.inl rfl) λbk aW q_ e3 aC=>?_
 have pn:Keeps [] σ aW:=ag.trans (aj.trans aC)
 have wV:=pn.at hw
 kd_p
 refine CV.iR wV (by exact Nat.le_trans (by assumption) (aD rfl)) ?_
 kd_in
 refine CV.oo ?_
 have sm:=lw (n:=(ts.length:Int)) (by exact Int.natCast_nonneg _) (by exact nX (Nat.le_trans (by assumption) (aD rfl)))
 refine V.fS (λxd=> [some (.val (.ref m.o)),x1,some (.val (.ref ws)),x3,x4,some (.val (.ref pl)),x6,x7,some (.val (.ref bo)),x9,some (.val (.ref se)),some (.val (.ref th)),some (.val (.ref bk)),xd]) _
  (λi q_ af=>∃L' D,TG σ L se th bk i af L' D) _ (bI.c4 sm.1 (by exact ae sm.2 (Int.natCast_nonneg _))) xd rfl
  ⟨[], [],aC.at (aj.at e1),.nil,Nat.le_refl _,⟨aC.at e2,e3,λx z h=>(by simp at h),λx h=>(by simp at h),Nat.zero_le _⟩,Nat.le_refl _,pn.am rfl⟩ (λq_ q_ q_ q_=>True.intro) (λE i r xd af K hr j nx=>?_) λxd af j=>?_
 ·refine jO j λL' D j=>?_
  obtain ⟨rfl,hi⟩:=qT (by exact Nat.le_trans (by assumption) (aD rfl)) hr
  have W':=W.keep j.kp
  have bu:=W'.hs
  have eK:=W'.hy
  have iM:=W'.iM
  have iS:=W'.iS
  obtain ⟨t,e1⟩:∃t,ts[i]? =some t:=⟨_,List.getElem?_eq_getElem hi⟩
  obtain ⟨e,e2⟩:∃e,cs[i]? =some e:=⟨_,List.getElem?_eq_getElem (hl▸hi)⟩
  have hm:=List.mem_of_getElem? e1
  have jI:=hz t hm
  have ug:(dQ b t).sz=t.sz:=by exact ae rD (Tm.Df Di t)
  have uh:(dQ b t).Wf Tb:=by exact ae rD (Tm.Dg wb t (wf t hm))
  have Dj:(dQ b t).bF 4:=by exact ae rD (Tm.TB Di t (hh t hm))
  have Dk:∀n,(dQ b t).Vr n→∃a,L.lookup n=some a:=λn hn=>by
   rw[rD]at hn
   refine ak ((Tm.yj t).mp hn) λx h1 h2=>?_
   have:n=x:=by
    cases b with
    |none=>exact h2
    |some p=>
     unfold lY at h2
     simp only at h2
     split at h2
     ·exact h2.elim
     ·exact h2
   subst this
   exact c7 t hm n h1
  have r1:=rep i t e e1 e2
  have yn:=ym (dQ b t)
  have l1:=j.len
  have l2:=j.dl
  generalize TM:dQ b t=tf at ug uh Dj Dk r1 yn
  kd_p
  refine IX.L (j.kp.at hw ht) (Int.natCast_nonneg i) (by exact M2 [_,_] [] 0x800000000000000001106115001011131100110 rfl h3 hi) (r:=t.V) (by refine ae (Int.toNat_natCast ..) (ae (List.getElem?_map) (ae e1 ?_));rfl) ?_
  kd_in
  refine RV T calm t 4 (k+8) (hh t hm) (wf t hm) (by exact aD rfl) _ _ (j.kp.at hb) λbn aM=>?_
  refine ae TM ?_
  have dR:=W'.keep aM
  have iM:=dR.iM
  have iS:=dR.iS
  kd_p
  refine IX.L (aM.at (j.kp.at hp)) (Int.natCast_nonneg i) (by exact M2 [_,_] [] 0x800000000000000001106115001011131100110 rfl h3 hi) (r:=cV e) (by refine ae (Int.toNat_natCast ..) (ae (List.getElem?_map) (ae e2 ?_));rfl) ?_
  kd_in
  refine(Cd T calm (N:=L'.length+400) dR.hs dR.hy dR.ok dR.hl (Tm.lX tf uh) r1 (aM.at j.se) j.nd (by exact ae (Tm.rC ..) (M2 [_,_,_] [] 0x19031202102152021100010212c82100210 rfl jI ug)) (by exact M3 [_,_,_] [] 0x186a051a111903120221101019035201100010190313110019030 rfl h3 hi l1)).mono λr ci z=>?_
  refine yK z λiJ er e5 TN Dl TO TQ bj=>?_
  obtain ⟨M,rfl⟩:=TN
  subst er
  refine ae (Tm.yk ..) ?_
  have rE:=j.mt
  have TR:eO ci th bk (λx=>idx (L'++M) (nu L x)) (λx=>(∃a,L.lookup x=some a)∧nu L x∈L'++M) D:=eO.grow ⟨bj.at (aM.at rE.th),bj.at (aM.at rE.bk),rE.inj,rE.lS,rE.len⟩ Dl vi
  have TS:Keeps pC af ci:=(aM.am rfl).trans (bj.am rfl)
  kd_in
  refine xV (Tb:=Tb) (ay:=Tb) T tf _ 4 (k+8) ci D _ Dj (by exact aD rfl) uh (Tm.lX tf uh) ⟨λx hx=>⟨Dk x hx,TO _ (Tm.Dh hx)⟩,.inl rfl⟩ TR (by exact M6 [_,_,_,_,_,_] [] 0x138841503021104050110204011210c82530110c821201100010c82131100c820 rfl h3 hi jI l2 ug yn) λgJ D' kT TU cJ=>?_
  refine ae (decide_eq_true rfl) ?_
  refine Br.ff ?_
  exact nx _ _ ⟨L'++M,D',cJ.at e5,Dl,by exact M2 [_,_,_] [] 0x11110219035201101903100220110101903500110 rfl l1 TQ,TU,by exact M5 [_,_,_,_,_,_] [] 0x111202c8255011040102501103040110003011220c82510110c82100110 rfl jI l2 ug yn kT,j.kp.trans (TS.trans (cJ.am rfl))⟩
 ·refine jO j λL' D j=>?_
  exact aq.go (q af (W.keep j.kp) j.kp)
end
end
noncomputable section
open Classical
noncomputable section
variable {c:Cx}{k:Nat}{σ:S}{m:bD}{st:ba}{y:aT}{xs:List aE}{H:Hp}{Tb:ai}{Q:V→S→Prop}
noncomputable def Meets(c:Cx)(k:Nat)(b:Option (Int×Nat))(ok:Bool)(ps:List V):Prop:=
 (ps= []∧b=none∧ok=true)∨∃u v,ps= [.tup [u,v]]∧∀(σ:S) (a:Addr) (Q:V→S→Prop),σ a=some (.dI 130 (dF none))→(ok=true→∀af,af a=some (.dI 130 (dF b))→Keeps [130] σ af→Q (.bool true) af)→(ok=false→Q (.bool false) σ)→CV c k (.ref 900) [u,v,.val (.ref a)] σ Q
theorem Meets.holds (T:au c):Meets c (k+3) none ok (if ok then [] else [.tup [(Tm.i 0).V,(Tm.i 1).V]]):=by
 cases ok with
 |true=>exact .inl ⟨rfl,rfl,rfl⟩
 |false=>exact .inr (f9 _ _ rfl (λσ a Q h q_ h2=>SH T h (h2 rfl)))
theorem Meets.var (T:au c):Meets c (k+3) (some (x,n)) true [.tup [(Tm.v x).V,(Tm.a n).V]]:=
 .inr (f9 _ _ rfl (λσ a Q h h1 q_=>SJ T h (h1 rfl)))
theorem Meets.atom (T:au c):Meets c (k+3) none (decide (i=n)) [.tup [(Tm.a i).V,(Tm.a n).V]]:=
 .inr (f9 _ _ rfl (λσ a Q h h1 h2=>SI T h (by
  cases e:decide (i=n) with
  |true=>exact h1 e σ h .refl
  |false=>exact h2 e)))
theorem TV{ts:List Tm}{cs:List aE}{L:VT}{b:Option (Int×Nat)}{ok:Bool}{ps:List V}{ws pl dl:Addr}{tg td:Nat}{x1 x4 x7 x8 x9 xa xb xc xd:Option V}(T:au c)(calm:c.calm=true)(W:Wd σ m st y xs H Tb)
  (hw:σ ws=some (.list tg (ts.map Tm.V))) (hp:σ pl=some (.list 71 (cs.map cV))) (hd:σ dl=some (.list td ps)) (hM:Meets c (k+8) b ok ps) (wW:pC.elem tg=false) (TW: [130].elem tg=false) (TY: [130].elem td=false) (hl:cs.length=ts.length) (h3:ts.length≤3) (hz:∀t∈ts,t.sz≤200) (hh:∀t∈ts,t.bF 4) (wf:∀t∈ts,t.Wf Tb) (wb:∀n,(lY b n).Wf Tb)
  (rep:ok=true→∀(i:Nat) t e,ts[i]? =some t→cs[i]? =some e→((dQ b t).aQ (nu L)).Rep H e) (c7:∀t∈ts,∀n,t.Vr n→∃a,L.lookup n=some a) (vi:∀n m a,L.lookup n=some a→L.lookup m=some a→n=m)
  (q:∀af,Wd af m st y xs H Tb→Keeps (130::pC) σ af→Q (.bool true) af):
  vX c f (k+8) (bT 4 qJ) E [some (.val (.ref m.o)),x1,some (.val (.ref ws)),some (.tup [.str "holds",.val (.ref dl)]),x4,some (.val (.ref pl)),some (.bool ok),x7,x8,x9,xa,xb,xc,xd] σ (aq Q):=by
 kd_p
 refine Br.no (by decide) ?_
 kd_in
 refine cW.go (.dI 130 []) (.inl rfl) λbo ah q_ e1 ag=>?_
 kd_p
 have yp:∀(x9:Option V) (af:S) E,ok=true→af bo=some (.dI 130 (dF b))→Keeps [130] σ af→vX c f (k+8) (bT 8 qJ) E [some (.val (.ref m.o)),x1,some (.val (.ref ws)),some (.tup [.str "holds",.val (.ref dl)]),x4,some (.val (.ref pl)),some (.bool ok),x7,some (.val (.ref bo)),x9,xa,xb,xc,xd] af (aq Q):=λx9 af E h1 h2 pD=>
  TL T calm (W.keep pD) (pD.at hw TW) (pD.at hp) h2 wW hl h3 hz hh wf wb (rep h1) c7 vi λaL fV ql=>q aL fV ((pD.am rfl).trans (ql.am rfl))
 refine V.for (λx9=> [some (.val (.ref m.o)),x1,some (.val (.ref ws)),some (.tup [.str "holds",.val (.ref dl)]),x4,some (.val (.ref pl)),some (.bool ok),x7,some (.val (.ref bo)),x9,xa,xb,xc,xd]) _
  (λi q_ af=>Keeps [130] σ af∧(if i=0 then af bo=some (.dI 130 (dF none)) else ok=true∧af bo=some (.dI 130 (dF b)))) (λaf=>RL c af dl ps) (bI.list _ (λq_ h=>h) (.own (ag.at hd)) calm) x9 rfl ⟨ag.am rfl,e1⟩ (λi a af j=>.own (j.1.at hd TY)) (λE i r x9 af hr j=>?_) λx9 af j=>?_
 ·obtain ⟨j1,j2⟩:=j
  rcases hM with ⟨rfl,_⟩|⟨u,v,rfl,hM⟩
  ·exact aJ hr
  ·cases i with
   |succ i=>exact aJ hr
   |zero=>
    (injection hr with hr;subst hr)
    rw[if_pos rfl]at j2
    kd_p
    refine hM af bo _ j2 (λh1 aL h2 pD=>?_) λh1=>?_
    ·refine Br.ff (.mk _ rfl ⟨j1.trans pD,?_⟩)
     refine ae (if_neg (Nat.succ_ne_zero 0)) ?_
     exact⟨h1,h2⟩
    ·refine Br.tt ?_
     subst h1
     exact aq.go (q af (W.keep j1) (j1.am rfl))
 ·obtain ⟨j1,j2⟩:=j
  have fin:ok=true∧af bo=some (.dI 130 (dF b)):=by
   refine Or.elim hM (λTZ=>?_) λT6=>?_
   obtain ⟨rfl,h1,h2⟩:=TZ
   rotate_left
   obtain ⟨u,v,rfl,hM⟩:=T6
   rotate_right
   ·rw[List.length_nil,if_pos rfl]at j2
    exact⟨h2,h1▸j2⟩
   ·rw[List.length_singleton,if_neg Nat.one_ne_zero]at j2
    exact j2
  obtain ⟨h1,h2⟩:=fin
  have yp:=yp x9 af E h1 h2 j1
  subst h1
  kd_p
  exact Br.ff yp
end
end
noncomputable section
open Classical
noncomputable section
variable {c:Cx}{k:Nat}{σ:S}{m:bD}{st:ba}{y:aT}{xs:List aE}{H:Hp}{Tb:ai}{Q:V→S→Prop}
noncomputable abbrev Dm:List Nat:= [3,4,13,62,63,64,65,66,81,82,84,85]
noncomputable abbrev eA:List Nat:= [3,4,5,6,13,23,41,42,50,51,52,53,54,55,62,63,64,65,66,81,82,84,85,91,92,120,122,130]
structure gL(m:bD)(st:ba)(y:aT)(H:Hp)(Tb:ai)(ts:List Tm)(aK:S)(az:List aE)(H':Hp)(L':VT)(cs:List aE)(af:S):Prop where
 W:Wd af m st y az H' Tb
 at_:∀(j:Nat) d,cs[j]? =some d→az[j+1]? =some d
 laid:Laid H' L' ts cs
 len:H'.length≤H.length+603
 kp:Keeps [13,23,41,50,51] aK af
theorem gL.get {ts:List Tm}{az:List aE}{cs:List aE}(h:gL m st y H Tb ts aK az H' L' cs af){t:Tm}(ht:ts[j]? =some t):∃d,cs[j]? =some d∧az[j+1]? =some d∧(t.aQ (nu L')).Rep H' d:=by
 have hj:=be ht
 have hd:cs[j]? =some (cs[j]'(h.laid.len▸hj)):=List.getElem?_eq_getElem _
 exact cA _ hd (h.at_ j _ hd) (h.laid.rep j t _ ht hd)
theorem Dn{ts:List Tm}(T:au c)(calm:c.calm=true)(W:Wd σ m st y xs H Tb)(hx:xs.length≤10)(hw:σ ws=some (.list tg (ts.map Tm.V)))(ht: [13,23,41,50,51].elem tg=false)
  (wf:∀t∈ts,t.Wf Tb) (hz:∀t∈ts,t.sz≤200) (hl:ts.length≤3) (hH:H.length≤90000)
  (q:∀L A stack E af az H' L' cs tb pl,gL m st y H Tb ts σ az H' L' cs af→az.length≤10→af pl=some (.list 71 (cs.map cV))→
   vX c (mS.fm L A stack) (k+8) (bT 3 qJ) E [some (.val (.ref m.o)),some pv,some (.val (.ref ws)),some du,some (.val (.ref tb)),some (.val (.ref pl)),none,none,none,none,none,none,none,none] af (aq Q)):
  CV c (k+9) (.ref 920) [.val (.ref m.o),pv,.val (.ref ws),du] σ Q:=by
 have kF: [13,41,50,51].elem tg=false:=by
  cases e: [13,41,50,51].elem tg with
  |false=>rfl
  |true=>
   have hm:=List.elem_iff.mp e
   refine aU ht ?_
   refine(List.elem_iff.mpr ?_).symm
   refine Or.elim (List.mem_cons.mp hm) (λh=>?_) λh=>?_
   ·exact ae h (.head _)
   ·exact .tail _ (.tail _ h)
 refine gW NT T rfl λL A stack E=>?_
 kd_in
 refine cW.go (.dI 41 []) (.inl rfl) λtb ah q_ e1 ag=>?_
 kd_in
 refine Tt (k:=k+5) T calm (W.keep ag) (ag.at hw) kF e1 wf hz hl hH λpl av H' L' cs e2 W2 h2 la aj=>?_
 have iM:=W2.iM
 kd_p
 refine xJ T calm W2.M hx (by exact ae la.len (Nat.le_trans (by assumption) (aD rfl))) e2 λaW az M3 h3 h4 aC=>?_
 exact q L A stack E aW az H' L' cs tb pl ⟨⟨M3,W2.hs.kb aC,W2.hy.kb aC,W2.ok,W2.hl⟩,h4,la,by exact M2 [_,_,_] [] 0x25b312021011000c9252021011031100c920 rfl hl h2,(ag.am rfl).trans ((aj.am rfl).trans (aC.am rfl))⟩ h3 (aC.at e2)
noncomputable def Told(m:bD)(st:ba)(y:aT)(Tb:ai)(ts:List Tm)(b:Option (Int×Nat))(ok:Bool)(az:List aE)(H':Hp)(L':VT)(cs:List aE)(af:S)(r:V)(aL:S):Prop:=
 ∃cp fz,r= .bool ok∧Wd aL m st y az fz cp∧Tb.Ext cp∧fz.length=H'.length∧(∀n,(lY b n).Wf cp)∧(ok=true→∀(i:Nat) t e,ts[i]? =some t→cs[i]? =some e→((dQ b t).aQ (nu L')).Rep fz e)∧Keeps Dm af aL
theorem Do{ts:List Tm}{pv ws dl:Addr}{tg td:Nat}{b:Option (Int×Nat)}{ok:Bool}{ps:List V}(T:au c)(calm:c.calm=true)(hk:pv∈fk)(W:Wd σ m st y xs H Tb)(hx:xs.length≤10)(hw:σ ws=some (.list tg (ts.map Tm.V)))(ht:eA.elem tg=false)
  (hd:σ dl=some (.list td ps)) (Dp:eA.elem td=false) (hM:Meets c (k+8) b ok ps) (wf:∀t∈ts,t.Wf Tb) (hz:∀t∈ts,t.sz≤200) (hh:∀t∈ts,t.bF 4) (hl:ts.length≤3) (hH:H.length≤90000)
  (hp:∀af az H' L' cs,gL m st y H Tb ts σ az H' L' cs af→cP c (k+8) (.ref pv) [.val (.ref m.o)] af (Told m st y Tb ts b ok az H' L' cs af) (λq_ q_ q_=>False))
  (q:∀af az H' ay,Wd af m st y az H' ay→az.length≤10→H'.length≤H.length+603→Tb.Ext ay→Keeps eA σ af→Q (.bool true) af):
  CV c (k+9) (.ref 920) [.val (.ref m.o),.val (.ref pv),.val (.ref ws),.tup [.str "holds",.val (.ref dl)]] σ Q:=by
 have sub:∀{X:List Nat}{t:Nat},eA.elem t=false→X.all eA.contains=true→X.elem t=false:=λ{X t} h1 h2=>by
  cases e:X.elem t with
  |false=>rfl
  |true=>
   have:=List.all_eq_true.mp h2 t (List.elem_iff.mp e)
   rw[List.contains_iff_mem]at this
   rw[List.elem_iff.mpr this]at h1
   exact dG h1
 refine Dn T calm W hx hw (sub ht rfl) wf hz hl hH λL A stack E ah lN fY bc cs tb pl a1 mL pS=>?_
 kd_in
 refine aS.vY (env₀:=mS.fm L A stack|>.env) (QX:=λq_ q_ q_=>False) (L:=L) (outer:=stack) rfl rfl (fL.assign (i:=6) (.there (.there (.there (.there (.there (.there .here)))))) (iL.ln (i:=1) (.there .here) rfl (.inl (T.keep _ hk)) λE=>bQ.cons (EV.loc .here rfl (bQ.nil
  (λA st s vs E a b d e g hE=>wpAny_mono (hp ah lN fY bc cs a1 A st s vs E a b d e g hE) (λq_ q_ z=>z.el λr af z1 z2 z3 z4=>⟨r,af,z1,z2,z3,?_⟩) λq_ q_ z=>z)))) (.inr rfl)) λe C d av aW aO jm aR x q=>q.elim
 refine k8 z4 λcp fz er cM ext ch wb rep aj=>?_
 subst er
 have dg:Keeps eA σ af:=(a1.kp.am rfl).trans (aj.am rfl)
 exact TV T calm cM (dg.at hw ht) (aj.at pS) (dg.at hd Dp) hM (sub ht rfl) (sub ht rfl) (sub Dp rfl) a1.laid.len hl hz hh (λt h=>(wf t h).ext ext) wb rep a1.laid.c7 a1.laid.ny.inj λaW eC aC=>q aW lN fz cp eC mL (by have:=a1.len;exact M2 [_,_,_] [] 0x25b312020011025b31202101101000112 rfl ch this) ext (dg.trans (aC.am rfl))
end
end
noncomputable section
open Classical
noncomputable section
variable {c:Cx}{k:Nat}{σ:S}{m:bD}{st:ba}{y:aT}{xs:List aE}{H:Hp}{Tb:ai}{Q:V→S→Prop}
noncomputable abbrev T7:List Nat:= [3,4,5,6,42,52,53,54,55,120,122]
noncomputable def rF(m:bD)(st:ba)(y:aT)(Tb:ai)(e1:Tm)(az:List aE)(H':Hp)(d:Addr)(af aL:S):Prop:=
 ∃(u:Tm) (ν:Int→Int) (P:Int→Prop) (cp:ai),aL d=some (.bb 121 ["ball"] [Tm.V u])∧u=e1.aQ ν∧(∀x z,P x→P z→ν x=ν z→x=z)∧e1.bp P∧u.Wf cp∧Wd aL m st y az H' cp∧Tb.Ext cp∧Keeps T7 af aL
theorem Tm.T8 (t:Tm):t.V.handed:=by
 cases t with
 |s f l=>refine ae Tm.cH ?_;trivial
 |_=>trivial
theorem T9{ts:List Tm}{e1:Tm}(T:au c)(calm:c.calm=true)(hk:pv∈fk)(W:Wd σ m st y xs H Tb)(hx:xs.length≤10)(hw:σ ws=some (.list tg (ts.map Tm.V)))(ht: [13,23,41,50,51].elem tg=false)
  (wf:∀t∈ts,t.Wf Tb) (hz:∀t∈ts,t.sz≤200) (hl:ts.length≤3) (hH:H.length≤90000) (we:e1.Wf Tb) (he:e1.bF 4) (ze:e1.sz≤4000)
  (hp:∀af az H' L' cs,gL m st y H Tb ts σ az H' L' cs af→cP c (k+8) (.ref pv) [.val (.ref m.o)] af (λq_ q_=>False) (λC d aL=>C=51∧rF m st y Tb e1 az H' d af aL))
  (q:∀af az H' ay,Wd af m st y az H' ay→az.length≤10→H'.length≤H.length+603→Tb.Ext ay→Keeps eA σ af→Q (.bool true) af):
  CV c (k+9) (.ref 920) [.val (.ref m.o),.val (.ref pv),.val (.ref ws),.tup [.str "error",e1.V]] σ Q:=by
 refine Dn T calm W hx hw ht wf hz hl hH λL A stack E ah lN fY bc cs tb pl a1 mL pS=>?_
 refine cq (T.exc (51,48,"ball") (List.mem_of_getElem? (i:=0) rfl)) λxo q_ q_=>?_
 kd_in
 refine aS.vY (env₀:=mS.fm L A stack|>.env) (QX:=λC d aL=>C=51∧rF m st y Tb e1 lN fY d ah aL) (L:=L) (outer:=stack) rfl rfl (fL.assign (i:=6) (.there (.there (.there (.there (.there (.there .here)))))) (iL.ln (i:=1) (.there .here) rfl (.inl (T.keep _ hk)) λE=>bQ.cons (EV.loc .here rfl (bQ.nil
  (λA st s vs E a b d e g hE=>wpAny_mono (hp ah lN fY bc cs a1 A st s vs E a b d e g hE) (λq_ q_ z=>z.el λr af z1 z2 z3 z4=>z4.elim) λq_ q_ z=>z)))) (.inr rfl)) λe C d av aW aO jm aR x qx=>?_
 refine XA qx λUa Ub=>?_
 refine bH Ub λu ν P cp Uc=>?_
 refine yJ Uc λhd hu inj lW wu Ud=>?_
 refine cq Ud λeC ext aC=>?_
 subst Ua
 refine sQ aR x rfl (by exact .here) xo xo rfl (i:=7) (.there (.there (.there (.there (.there (.there (.there .here))))))) rfl (λq_ E=>?_) (λh=>by exact dG h)
 refine EX.cons (aS.ret (EV.Au ((sE T.hx 9).1 _ (.cmp .Eq (.item (.loc 3) 0) (.str "error")) (by kernel_rfl) _ _ _ ?_)))
 refine⟨_,rfl,Br.yes rfl ?_⟩
 refine EV.vH (EV.sq (.there .here) (.inl (T.keep 910 (by decide))) (bQ.cons ((sE T.hx 9).1 _ (.item (.loc 3) 1) (by kernel_rfl) _ _ _ ?_)))
 refine bQ.cons (EV.v6 (EV.loc (.there (.there (.there (.there (.there (.there (.there .here))))))) rfl ⟨e,51,31,d,121,_,_,0,u.V,rfl,rfl,rfl,hd,(T.hx.exc (51,48,"ball") (List.mem_of_getElem? (i:=0) rfl)).2.2,rfl,u.T8,?_⟩))
 refine bQ.cons ((sE T.hx 9).1 _ .di (by kernel_rfl) _ _ _ ?_)
 refine cW.go (.dI 91 []) (.inl rfl) λth bn q_ e4 aM=>?_
 refine bQ.cons ((sE T.hx 9).1 _ .di (by kernel_rfl) _ _ _ ?_)
 refine cW.go (.dI 92 []) (.inl rfl) λbk ci q_ e5 bj=>bQ.nil ?_
 have nv:=ym e1
 refine xV (Tb:=Tb) (ay:=cp) (ν:=ν) (P:=P) T.hx e1 u 4 (k+8) ci [] _ he (by exact aD rfl) we wu ⟨lW,.inl hu⟩ ⟨bj.at e4,e5,inj,λx h=>(by exact dx h),Nat.zero_le _⟩ (by exact ae List.length_nil (M2 [_,_] [] 0x1388411001121100010110fa03100110 rfl ze nv)) λgJ D' q_ q_ cJ=>?_
 refine ae (decide_eq_true hu) ?_
 have kk:Keeps [91,92] aW gJ:=(aM.am rfl).trans ((bj.am rfl).trans cJ)
 exact aq.go (q gJ lN fY cp (eC.keep kk) mL (by have:=a1.len;assumption) ext ((a1.kp.am rfl).trans ((aC.am rfl).trans (kk.am rfl))))
end
end
noncomputable section
open Classical
noncomputable section
variable {c:Cx}{f:Fm}{k:Nat}{σ:S}{y:aT}{Tb:ai}{Q:V→S→Prop}
theorem CV.sum {xs:List Int}(calm:c.calm=true)(ha:σ a=some (.list t (xs.map .int)))(q:∀i,Q (.int i) σ):CV c k (.builtin "sum") [.val (.ref a)] σ Q:=λA stack s vs E st fr room hd hv=>by
 cases hv with|cons h1 hv=>
  cases hv;refine h1.eV ?_
  refine c3 (st.own a _ ha) λq_ ys n e1 e2=>?_
  have hi:∃zs:Array (Int×Tok),ys=intItems zs:=by
   have key:∀{l:List Value}{xs:List Int},aA s.heap l (xs.map .int)→∃zs:List (Int×Tok),l=zs.map λp=>Value.int p.1 p.2:=by
    intro l
    induction l with
    |nil=>intro xs _;exact⟨[],rfl⟩
    |cons v l ih=>
     intro xs h
     cases xs with
     |nil=>contradiction
     |cons x xs=>
      cases h with|cons h1 h2=>
       refine h1.eI λq_=>?_
       obtain ⟨zs,rfl⟩:=ih h2
       exact⟨(x,_)::zs,rfl⟩
   obtain ⟨zs,hz⟩:=key e2
   exact⟨zs.toArray,by refine aU (Array.toArray_toList (xs:=ys)) (ae hz ?_);simp[intItems]⟩
  obtain ⟨zs,rfl⟩:=hi
  refine sum_intListG (hd.1 calm) ⟨_,e1,rfl,n,rfl⟩ λh' tk t' kk=>?_
  exact sr st kk (.int _ _) (q _)
theorem Ue(T:au c)(calm:c.calm=true)(h:ai.aX σ y Tb)(ok:Tb.Ok)(hn:nm∈bZ)(hp:σ pl=some (.list tg []))
  (q:∀af T' (j:Nat),ai.aX af y T'→T'.Ok→Tb.Ext T'→T'.tx[j]? =some nm→Keeps [3,4,5,6] σ af→Q (.tup [.str "error",ec (aV j)]) af):
  CV c (k+3) (.ref 915) [.val (.ref y.o),.str nm,.val (.ref pl)] σ Q:=by
 refine gW Bu T rfl λL A stack E=>?_
 refine V.qj (iy:=3) (x:="part") (ys:= ["names"]) (G':= [("isinstance",.val (.builtin "isinstance")),("str",.val (.type "str"))]) (cl:= [("names",L+1)]) (rs:= [some (.val (.ref y.o))]) (ri:=.loc 2)
  (re:=.ite (.bz (.call (.builtin "isinstance") (.cons (.loc 0) (.cons (.aF (.val (.type "str"))) .nil)))) (.tup (.cons (.str "a") (.cons (.ax (.loc 1) "atom" (.cons (.loc 0) .nil)) .nil))) (.loc 0)) 125 T [] (λaf=>RL c af pl [])
  (λi aG af=>aG= []∧af=σ)
  (by kernel_rfl) (.there (.there (.there .here))) rfl (by kernel_rfl) (by kernel_rfl) rfl
  (fh.of T (by kernel_rfl) (by kernel_rfl) (List.forall_mem_cons.2 ⟨by kernel_rfl,List.forall_mem_nil _⟩) (List.forall_mem_cons.2 ⟨List.mem_of_getElem? (i:=50) rfl,List.forall_mem_cons.2 ⟨List.mem_of_getElem? (i:=85) rfl,List.forall_mem_nil _⟩⟩))
  (.cons (a:=L+1) .here rfl (by kernel_rfl) (by kernel_rfl) (by kernel_rfl) .nil) ?_ (λi aG af j=>j.2▸.own hp) (Nat.zero_le _) (λf' E i r aG af hr j hi=>by exact aJ hr) (λaG ah av a j ha hw kk=>?_)
 ·kd_p
  exact⟨bI.list (λaf=>RL c af pl []) (λq_ h=>h) (.own hp) calm,rfl,rfl⟩
 ·obtain ⟨rfl,rfl⟩:=j
  have nL:=h.keep kk (λt ht=>nomatch ht)
  kd_p
  refine CV.lv hw (Nat.zero_le _) ?_
  kd_p
  refine qX T nL ok hn (n:=0) (by decide) λaW m i jL i8 i9 gK e1 e3 ag=>?_
  kd_p
  have rB:=ag.at hw
  refine CV.mI rB (Nat.zero_le _) ?_
  kd_p
  refine aZ.go 126 λw bn q_ e4 aM=>?_
  refine OV.Aq (aM.at rB) e4 ?_
  refine Br.yes rfl ?_
  have rG:=i8.keep aM (λt ht=>nomatch ht)
  kd_p
  refine gw T rG i9 hn λci j yq yr ui l6 q_ e5 bj=>?_
  kd_p
  exact aq.go (q ci yq j yr ui (gK.trans l6) e5 ((kk.am rfl).trans (ag.trans ((aM.am rfl).trans (bj.am rfl)))))
end
end
noncomputable section
open Classical
noncomputable section
theorem cR.miss {H:Hp}{b:Int}(hb:At H b cb)(h1:aH H cb db)(h:cR H n c d):d≠db→aH (H.set b.toNat x) c d:=by
 induction h with
 |self h2 h3=>exact λq_=>⟨0,.self h2 h3⟩
 |@var a h2=>
  intro hn
  refine⟨0,.var (h2.gs hb.1 λe=>?_)⟩
  subst e
  rw[hb.inj h2]at h1
  exact hn (aH.inj ⟨0,.var h2⟩ h1)
 |@step a c' d' n' h2 h3 h4 ih=>
  intro hn
  refine XE (ih hn) λk h5=>?_
  refine⟨k+1,.step (h2.gs hb.1 λe=>?_) h3 h5⟩
  subst e
  rw[h2.inj hb]at h4
  exact hn (aH.inj ⟨_,h4⟩ h1)
end
end
noncomputable section
open Classical
noncomputable section
variable {c:Cx}{k:Nat}{σ:S}{m:bD}{st:ba}{y:aT}{xs:List aE}{H:Hp}{Tb:ai}{Q:V→S→Prop}{hd cl:Addr}{t:Tm}
structure LW(σ:S)(hd cl:Addr)(m:bD)(st:ba)(y:aT)(xs:List aE)(H:Hp)(Tb:ai)(N:Nat):Prop where
 h:jK σ hd cl
 W:Wd σ m st y xs H Tb
 hx:xs.length≤10
 hN:H.length≤N
 f0:Tb.fs[0]? =some (1,2)
 nM:∃j,Tb.fs[16]? =some (j,2)
 kV:25<Tb.tx.length
 t0:Tb.tx[0]? =some (Str.ofString "[]")
theorem LW.gn (w:LW σ hd cl m st y xs H Tb N):Gn σ hd cl y Tb:=⟨w.h,w.W.hy,w.W.ok,w.f0,Nat.lt_of_le_of_lt (Nat.zero_le _) w.kV⟩
theorem LW.keep {X:List Nat}(w:LW σ hd cl m st y xs H Tb N)(k:Keeps X σ af)(e:(X.elem 101||X.elem 102)=false:=by rfl)(hX:X.all (λt=>Nat.ble 24 t)=true:=by rfl):LW af hd cl m st y xs H Tb N:=
 ⟨w.h.keep k e,w.W.keep k hX,w.hx,w.hN,w.f0,w.nM,w.kV,w.t0⟩
theorem LW.next {az:List aE}{H':Hp}(w:LW σ hd cl m st y xs H Tb N)(h:jK af hd cl)(W:Wd af m st y az H' ay)(hx:az.length≤10)(hN:H'.length≤N+M)(e:Tb.Ext ay):LW af hd cl m st y az H' ay (N+M):=
 ⟨h,W,hx,hN,bW e.fs w.f0,⟨_,bW e.fs w.nM.choose_spec⟩,Nat.lt_of_lt_of_le w.kV e.tx.length_le,bW e.tx w.t0⟩
theorem Uf{H:Hp}{L:VT}(rep:((Tm.s 0 [t,.v 9]).aQ (nu L)).Rep H (3,R))(vi:t.bp (· =0))(c7:∀n,(Tm.s 0 [t,.v 9]).Vr n→∃a,L.lookup n=some a)(inj:∀n m a,L.lookup n=some a→L.lookup m=some a→n=m):0≤R+1∧R+1< (H.length:Int)∧xR (H.set (R+1).toNat (3,R)) R:=by
 refine bG (Tm.dO.mp (Tm.dE▸rep)) λa h1 h2 h3=>?_
 have e:=aH.inj h1 nJ
 cases e
 refine ak (h3 0 _ rfl) λc1 a1 r1=>?_
 refine ak (h3 1 _ rfl) λc2 a2 r2=>?_
 have a1:At H R c1:=by simpa[bJ] using a1
 have a2:At H (R+1) c2:=by simpa[bJ] using a2
 refine⟨a2.1,a2.lt,?_,a2.set⟩
 refine ak r1.fP λd hd q_=>?_
 have xM:aH H c2 (0,nu L 9):=r2
 have hn:d≠(0,nu L 9):=λe=>by
  subst e
  have h4:∀u:Tm,u.Rep H c1→u= .v (nu L 9):=λu hu=>by
   cases u with
   |v n=>cases aH.inj hd (show aH H c1 (0,n) from hu);rfl
   |a n=>cases aH.inj hd (show aH H c1 (4,(n:Int)) from hu)
   |i n=>cases aH.inj hd (show aH H c1 (5,n) from hu)
   |s f l=>
    refine ak (Tm.dO.mp hu) λb hb q_=>?_
    have:=congrArg Prod.fst (aH.inj hd hb)
    unfold aN at this
    simp only at this
    split at this<;>contradiction
  have h5:=h4 _ r1
  cases t with
  |v n=>
   have e0:n=0:=vi n rfl
   subst e0
   have e1:nu L 0=nu L 9:=Tm.v.inj h5
   refine XE (c7 0 (Tm.ej.mpr ⟨_,.head _,rfl⟩)) λb0 l0=>?_
   refine XE (c7 9 (Tm.ej.mpr ⟨_,.tail _ (.head _),rfl⟩)) λb9 l9=>?_
   rw[fQ l0,fQ l9]at e1
   subst e1
   exact absurd (inj 0 9 _ l0 l9) (by decide)
  |a n=>contradiction
  |i n=>contradiction
  |s f l=>rw[Tm.dE]at h5;contradiction
 refine XE hd λn hd=>?_
 exact⟨c1,d,a1.gs a2.1 (by exact λh=>nf (M1 [] [_] 0x1111111000111002117 rfl h)),hd.miss a2 xM hn⟩
theorem Ug(T:au c)(calm:c.calm=true)(w:LW σ hd cl m st y xs H Tb N)(hN:N≤80000)(wf:t.Wf Tb)(vi:t.bp (· =0))(hz:t.sz≤200)(q:∀af,Q (.bool true) af):
  vX c f (k+9) (bT 34 dD) E [x0,x1,x2,some (.val (.ref y.o)),some (.val (.ref m.o)),x5,some t.V,x7,x8,x9,xa,xb,xc,xd,xe,xf,xg,xh,xi,xj,xk,xl,xm] σ (aq Q):=by
 have W:=w.W
 have iM:=W.iM
 have e0:V.tup [.str "s",.int 0,.tup [t.V,.tup [.str "v",.int 9]]]= (Tm.s 0 [t,.v 9]).V:=(Tm.cH (f:=0) (l:= [t,.v 9])).symm
 have Uh:(Tm.s 0 [t,.v 9]).Wf Tb:=Tm.bB.mpr ⟨⟨_,w.f0⟩,λq_=>rfl,Nat.succ_pos _,aD rfl,λu hu=>by
  refine bO hu ?_ λhu=>?_
  ·exact wf
  ·refine ae (List.mem_singleton.mp hu) ?_;trivial⟩
 have hs:(Tm.s 0 [t,.v 9]).sz=t.sz+5:=by
  refine ae Tm.dq ?_
  show 2+ (t.sz+1+ (1+1+0))=_
  exact Nat.le_antisymm (M0 [_] [] 0x5110020111111112211100222112110 rfl) (M0 [_] [] 0x111111112211100222112511002110 rfl)
 have h1:=w.hN
 kd_p
 refine ae e0 ?_
 refine Dc T calm W Uh (by exact M4 [_,_,_,_] [] 0x186a051111203022110003011051110220112c82110110138805100110 rfl hN hz hs h1) λah fY bc e fX pp ag=>?_
 obtain ⟨e1,R⟩:=e
 have e3:=pp.dir 0 _ rfl
 cases (show e1=3 from e3)
 refine cq (Uf pp.rep vi pp.c7 pp.ny.inj) λb0 b1 ring=>?_
 have iM:=fX.iM
 have iS:=fX.iS
 kd_p
 show CV _ _ _ [.val (.ref st.o),cV (0,R+1),cV (3,R)] _ _
 refine B0 T fX.hs fX.hl b0 b1 λav s2 aj=>?_
 have cM:Wd av m st y xs (fY.set (R+1).toNat (3,R)) Tb:=⟨fX.M.keep aj,s2,fX.hy.kb aj,fX.ok,by exact ae List.length_set fX.hl⟩
 have iM:=cM.iM
 kd_p
 refine aZ.go 71 λwl aW q_ e4 aC=>?_
 have eC:=cM.keep aC
 kd_in
 refine xJ (cs:= [(3,R)]) T calm eC.M w.hx (aD rfl) e4 λbn l7 Ui h4 h5 aM=>?_
 have dR:Wd bn m st y l7 (fY.set (R+1).toNat (3,R)) Tb:=⟨Ui,eC.hs.kb aM,eC.hy.kb aM,eC.ok,eC.hl⟩
 have Dq:l7[1]? =some (3,R):=h5 0 _ rfl
 kd_p
 refine Br.yes rfl ?_
 kd_in
 refine Rt T calm dR Dq ring w.f0 λci bj=>?_
 refine Br.tt ?_
 kd_in
 refine Ru T (dR.keep bj) Dq ring λgJ cJ=>?_
 exact aq.go (q gJ)
end
end
noncomputable section
open Classical
noncomputable section
variable {c:Cx}{k:Nat}{σ:S}{m:bD}{st:ba}{y:aT}{xs:List aE}{H:Hp}{Tb:ai}{Q:V→S→Prop}{hd cl w:Addr}{t:Tm}{e:aE}
noncomputable def HQ(Q:V→S→Prop)(m:bD)(st:ba)(y:aT)(H:Hp)(Tb:ai)(σ:S)(P:ai→V→Prop):Prop:=∀af az ay r,Wd af m st y az H ay→az.length≤10→Tb.Ext ay→Keeps eA σ af→P ay r→Q r af
noncomputable def HX(m:bD)(st:ba)(y:aT)(H:Hp)(Tb:ai)(σ:S)(Uj:Addr)(n:Str)(P:ai→V→Prop)(C d:Addr)(af:S):Prop:=C=Uj∧∃r az ay,af d=some (.bb 121 [n] [r])∧r.handed∧Wd af m st y az H ay∧az.length≤10∧Tb.Ext ay∧Keeps eA σ af∧P ay r
theorem Dr{cs:List aE}(T:au c)(calm:c.calm=true)(hk:pv∈fk)(W:Wd σ m st y xs H Tb)(hx:xs.length≤10)(hc:cs.length≤5)(hw:σ w=some (.list 71 (cs.map cV)))
  (hp:∀af az,Wd af m st y az H Tb→az.length≤10→(∀(j:Nat) d,cs[j]? =some d→az[j+1]? =some d)→Keeps eA σ af→cP c (k+6) (.ref pv) [.val (.ref m.o)] af (λq_ q_=>False) (HX m st y H Tb σ 71 "code" P))
  (q:HQ Q m st y H Tb σ λay r=>∃r',r= .tup [.str "halt",r']∧P ay r'):CV c (k+7) (.ref 965) [.val (.ref m.o),.val (.ref pv),.val (.ref w)] σ Q:=by
 refine Dd (QX:=HX m st y H Tb σ 71 "code" P) T calm hk W.M hx hc hw (λaf az M' h1 h2 ag=>hp af az ⟨M',W.hs.kb ag,W.hy.kb ag,W.ok,W.hl⟩ h1 h2 (ag.am rfl)) (λC d af z=>.inl z.1) (λd af z=>?_) λd af z=>absurd z.1 (by decide)
 refine XA z λq_ Uk=>?_
 refine mi Uk λr az ay h1 h2 h3 h4 h5 h6 h7=>?_
 exact cA r h1 h2 (q af az ay _ h3 h4 h5 h6 ⟨r,rfl,h7⟩)
theorem Ds{cs:List aE}(T:au c)(calm:c.calm=true)(hk:pv∈fk)(W:Wd σ m st y xs H Tb)(hx:xs.length≤10)(hc:cs.length≤5)(hw:σ w=some (.list 71 (cs.map cV)))
  (hp:∀af az,Wd af m st y az H Tb→az.length≤10→(∀(j:Nat) d,cs[j]? =some d→az[j+1]? =some d)→Keeps eA σ af→cP c (k+6) (.ref pv) [.val (.ref m.o)] af (λq_ q_=>False) (HX m st y H Tb σ 51 "ball" P))
  (q:HQ Q m st y H Tb σ λay r=>∃r',r= .tup [.str "error",r']∧P ay r'):CV c (k+7) (.ref 965) [.val (.ref m.o),.val (.ref pv),.val (.ref w)] σ Q:=by
 refine Dd (QX:=HX m st y H Tb σ 51 "ball" P) T calm hk W.M hx hc hw (λaf az M' h1 h2 ag=>hp af az ⟨M',W.hs.kb ag,W.hy.kb ag,W.ok,W.hl⟩ h1 h2 (ag.am rfl)) (λC d af z=>.inr z.1) (λd af z=>absurd z.1 (by decide)) λd af z=>?_
 refine XA z λq_ Ul=>?_
 refine mi Ul λr az ay h1 h2 h3 h4 h5 h6 h7=>?_
 exact cA r h1 h2 (q af az ay _ h3 h4 h5 h6 ⟨r,rfl,h7⟩)
theorem Um(T:au c)(calm:c.calm=true)(W:Wd σ m st y xs H Tb)(hx:xs.length≤10)(hw:σ w=some (.list 71 [cV e]))(hd:aH H e (5,n))
  (q:HQ Q m st y H Tb σ λq_ r=>r= .tup [.str "halt",.int n]):CV c (k+7) (.ref 965) [.val (.ref m.o),.val (.ref 712),.val (.ref w)] σ Q:=by
 refine Dr (cs:= [e]) (P:=λq_ r=>r= .int n) T calm (by decide) W hx (aD rfl) hw (λaf az W' h1 h2 ag=>?_) λaf az ay r h1 h2 h3 h4 z=>ak z λr' h5 h6=>q af az ay r h1 h2 h3 h4 (by exact ae h5 (ae h6 rfl))
 exact Th T calm W' (h2 0 _ rfl) hd λaL d aj e1=>⟨rfl,_,az,Tb,e1,trivial,W'.keep aj,h1,.refl _,ag.trans (aj.am rfl),rfl⟩
theorem Un(T:au c)(calm:c.calm=true)(W:Wd σ m st y xs H Tb)(hx:xs.length≤10)(hw:σ w=some (.list 71 [cV e]))(hd:aH H e (0,a))
  (q:HQ Q m st y H Tb σ λay r=>∃j:Nat,ay.tx[j]? =some "instantiation_error"∧r= .tup [.str "error",ec (aV j)]):CV c (k+7) (.ref 965) [.val (.ref m.o),.val (.ref 712),.val (.ref w)] σ Q:=by
 refine Ds (cs:= [e]) (P:=λay r=>∃j:Nat,ay.tx[j]? =some "instantiation_error"∧r=ec (aV j)) T calm (by decide) W hx (aD rfl) hw (λaf az W' h1 h2 ag=>?_) λaf az ay r h1 h2 h3 h4 z=>q af az ay r h1 h2 h3 h4 (by
  refine ak z λr' h5 Uo=>?_
  refine ak Uo λj h6 h7=>?_
  exact bx j h6 (by exact ae h5 (ae h7 rfl)))
 exact Ti T calm W' (h2 0 _ rfl) hd (cZ (by decide +kernel)) λaL T' n d fV e1 e2 aj e3=>⟨rfl,_,az,T',e3,trivial,fV,h1,e1,ag.trans (aj.am rfl),n,e2,rfl⟩
theorem Up{z:Nat}(T:au c)(calm:c.calm=true)(W:Wd σ m st y xs H Tb)(hx:xs.length≤10)(hw:σ w=some (.list 71 [cV e]))(hd:aH H e (4,(z:Int)))(wf:(Tm.a z).Wf Tb)
  (q:HQ Q m st y H Tb σ λay r=>∃u i j:Nat,ay.tx[i]? =some "integer"∧ay.tx[j]? =some "type_error"∧ay.fs[u]? =some ((j:Int),2)∧r= .tup [.str "error",ec (i7 u i [.str "a",.int (z:Int)])]):CV c (k+7) (.ref 965) [.val (.ref m.o),.val (.ref 712),.val (.ref w)] σ Q:=by
 refine Ds (cs:= [e]) (P:=λay r=>∃u i j:Nat,ay.tx[i]? =some "integer"∧ay.tx[j]? =some "type_error"∧ay.fs[u]? =some ((j:Int),2)∧r=ec (i7 u i [.str "a",.int (z:Int)])) T calm (by decide) W hx (aD rfl) hw (λaf az W' h1 h2 ag=>?_) λaf az ay r h1 h2 h3 h4 z=>q af az ay r h1 h2 h3 h4 (by
  refine ak z λr' h5 Uq=>?_
  refine k7 Uq λu i j h6 h7 h8 h9=>?_
  exact ml u i j h6 h7 h8 (by exact ae h5 (ae h9 rfl)))
 exact Tj T calm W' (h2 0 _ rfl) hd wf (cZ (by decide +kernel)) (cZ (by decide +kernel)) hd.end_ λaL T' u i j d fV e1 e2 e3 e4 aj e5=>⟨rfl,_,az,T',e5,trivial,fV,h1,e1,ag.trans (aj.am rfl),u,i,j,e2,e3,e4,rfl⟩
theorem Ur(T:au c)(calm:c.calm=true)(W:Wd σ m st y xs H Tb)(hx:xs.length≤10)(hw:σ w=some (.list 71 []))
  (q:HQ Q m st y H Tb σ λq_ r=>r= .tup [.str "halt",.int 0]):CV c (k+7) (.ref 965) [.val (.ref m.o),.val (.ref 705),.val (.ref w)] σ Q:=by
 refine Dr (cs:= []) (P:=λq_ r=>r= .int 0) T calm (by decide) W hx (aD rfl) hw (λaf az W' h1 h2 ag=>?_) λaf az ay r h1 h2 h3 h4 z=>ak z λr' h5 h6=>q af az ay r h1 h2 h3 h4 (by exact ae h5 (ae h6 rfl))
 exact Tg (k:=k+3) T calm λaL d aj e1=>⟨rfl,_,az,Tb,e1,trivial,W'.keep aj,h1,.refl _,ag.trans (aj.am rfl),rfl⟩
theorem nN{T:ai}(ok:T.Ok){i j:Nat}{s:Str}(h1:T.tx[i]? =some s)(h2:T.tx[j]? =some s):i=j:=(List.getElem?_inj (be h1) ok.m6).mp (h1.trans h2.symm)
theorem Dt{T:ai}(ok:T.Ok){i j:Nat}{s:Int×Int}(h1:T.fs[i]? =some s)(h2:T.fs[j]? =some s):i=j:=(List.getElem?_inj (be h1) ok.qL).mp (h1.trans h2.symm)
end
end
noncomputable section
open Classical
noncomputable section
variable {c:Cx}{k:Nat}{σ:S}{m:bD}{st:ba}{y:aT}{xs:List aE}{H:Hp}{Tb:ai}{Q:V→S→Prop}{hd cl:Addr}{t:Tm}{f:Fm}{E:Value→Shared→Prop}{N:Nat}{x0 x1 x2 x5 x7 x8 x9 xa xb xc xd xe xf xg xh xi xj xk xl xm:Option V}
theorem LW.draw (w:LW σ hd cl m st y xs H Tb N)(g:Gn af hd cl y Tb)(k:Keeps [101] σ af):LW af hd cl m st y xs H Tb N:=⟨g.H,w.W.keep k,w.hx,w.hN,w.f0,w.nM,w.kV,w.t0⟩
theorem LW.tab {ay:ai}(w:LW σ hd cl m st y xs H Tb N)(h:ai.aX af y ay)(ok:ay.Ok)(e:Tb.Ext ay)(k:Keeps [3,4,5,6] σ af):LW af hd cl m st y xs H ay N:=w.next (M:=0) (w.h.keep k) (w.W.tab h ok k) w.hx w.hN e
theorem yt{cd:Tm}(T:au c)(calm:c.calm=true)(w:LW σ hd cl m st y xs H Tb N)(hN:N≤70000)(wf:t.Wf Tb)(vi:t.bp (· =0))(hz:t.sz≤200)(wc:cd.Wf Tb)(zc:cd.sz=1)(cG:(V.tup l).ok 10=true)
  (h:∀ah fY bc e wl Q,Wd ah m st y xs fY Tb→(cd.aQ (nu bc)).Rep fY e→ah wl=some (.list 71 [cV e])→HQ Q m st y fY Tb ah (λq_ r=>r= .tup l)→CV c (k+9) (.ref 965) [.val (.ref m.o),.val (.ref 712),.val (.ref wl)] ah Q)
  (q:∀af,Q (.bool true) af):
  vX c f (k+9) (bT 33 dD) E [x0,x1,x2,some (.val (.ref y.o)),some (.val (.ref m.o)),x5,some t.V,x7,x8,x9,xa,xb,xc,xd,xe,xf,xg,xh,xi,xj,some (.tup l),some cd.V,xm] σ (aq Q):=by
 have W:=w.W
 have iM:=W.iM
 have h1:=w.hN
 kd_p
 refine Dc T calm W wc (by exact M3 [_,_,_] [] 0x186a051111102022110002011011110112111705100110 rfl hN zc h1) λah fY bc e fX pp ag=>?_
 have b1:=pp.bd
 kd_in
 refine aZ.go 71 λwl av q_ e2 aj=>?_
 have cM:=fX.keep aj
 kd_in
 refine h av fY bc e wl _ cM pp.rep e2 λaW V7 Du r eC h3 ext aC er=>?_
 subst er
 refine OV.ne cG cG (by decide) (by decide) ?_
 refine ae (decide_eq_false λh=>h rfl) ?_
 refine Br.ff ?_
 kd_p
 refine aZ.go 71 λV8 bn q_ e4 aM=>?_
 kd_in
 refine Ur (k:=k+2) T calm (eC.keep aM) h3 e4 λci V9 yu r Us h5 eR bj er=>?_
 subst er
 refine OV.ne (n:=10) (m:=10) (by decide +kernel) (by decide +kernel) (by decide) (by decide) ?_
 refine ae (decide_eq_false λh=>h rfl) ?_
 refine Br.ff ?_
 have kk:Keeps eA σ ci:=(ag.am rfl).trans ((aj.am rfl).trans (aC.trans ((aM.am rfl).trans bj)))
 exact Ug (N:=N+2) T calm (w.next (w.h.keep kk) Us h5 (by exact M3 [_,_,_,_,_] [] 0x2112023011011100102240302110201011011100112 rfl zc h1 b1) (ext.trans eR)) (by exact M1 [_] [] 0x1388051211002110111705100110 rfl hN) (wf.ext (ext.trans eR)) vi hz q
theorem Dv{f:Tm}(h:f.bF 3):(V.tup [.str "error",ec f.V]).ok 10=true:=by
 have e:(Tm.s 16 [f,.a 25]).V=ec f.V:=Tm.cH (f:=16) (l:= [f,.a 25])
 have h2:(Tm.s 16 [f,.a 25]).bF 4:=Tm.dY.mpr ⟨by decide,λu hu=>by
  refine bO hu ?_ λhu=>?_
  ·exact h
  ·refine ae (List.mem_singleton.mp hu) ?_;trivial⟩
 have h3:=Tm.qN _ h2
 rw[e]at h3
 show V.iD 9 [_,_]=true
 show (PyData.strOk "error"&&(V.ok 9 (ec f.V)&&true))=true
 exact ae h3 (by decide +kernel)
theorem Ut{cd:Tm}(hc:cd= .v 0∨(∃n,cd= .i n)∨cd= .a 0)(T:au c)(calm:c.calm=true)(w:LW σ hd cl m st y xs H Tb N)(hN:N≤70000)(wf:t.Wf Tb)(vi:t.bp (· =0))(hz:t.sz≤200)(q:∀af,Q (.bool true) af):
  vX c f (k+9) (bT 31 dD) E [x0,x1,x2,some (.val (.ref y.o)),some (.val (.ref m.o)),x5,some t.V,x7,x8,x9,xa,xb,xc,xd,xe,xf,xg,xh,xi,xj,xk,some cd.V,xm] σ (aq Q):=by
 have hy:=w.W.hy
 have wa:(Tm.a 0).Wf Tb:=(Nat.lt_of_le_of_lt (Nat.zero_le _) w.kV:0<Tb.tx.length)
 rcases hc with rfl|⟨n,rfl⟩|rfl
 ·kd_p
  refine Br.yes rfl ?_
  kd_p
  refine aZ.go 141 λwl ah q_ e1 ag=>?_
  have bA:=w.keep ag
  kd_in
  refine Ue (k:=k+6) T calm bA.W.hy bA.W.ok (cZ (by decide +kernel)) e1 λav cp j h2 ru nO hj aj=>?_
  have bV:=bA.tab h2 ru nO aj
  refine yt (cd:=.v 0) T calm bV hN (wf.ext nO) vi hz trivial rfl (Dv (f:=.a j) trivial) (λaW rH lx e wl Q eC rep e3 hq=>?_) q
  refine Un (k:=k+2) T calm eC bV.hx e3 (show aH rH e (0,nu lx 0) from rep) λbn l7 rI r dR h4 kW aM z=>hq bn l7 rI r dR h4 kW aM ?_
  refine ak z λi h5 m7=>?_
  subst m7
  exact ae (nN dR.ok h5 (bW kW.tx hj)) rfl
 ·kd_p
  refine Br.no (by decide) ?_
  kd_p
  refine Br.no (by decide) ?_
  refine yt (cd:=.i n) T calm w hN wf vi hz trivial rfl ?_ (λaW rH lx e wl Q eC rep e3 hq=>?_) q
  ·show V.iD 9 [_,_]=true
   show (PyData.strOk "halt"&&(true&&true))=true
   decide +kernel
  ·exact Um (k:=k+2) T calm eC w.hx e3 (show aH rH e (5,n) from rep) λbn l7 rI r dR h4 kW aM z=>hq bn l7 rI r dR h4 kW aM z
 ·kd_p
  refine Br.no (by decide) ?_
  kd_p
  refine Br.yes rfl ?_
  kd_p
  refine aZ.go 141 λwl ah q_ e1 ag=>?_
  have bA:=w.keep ag
  kd_in
  refine ue (k:=k+6) T calm bA.W.hy bA.W.ok (cZ (by decide +kernel)) (cZ (by decide +kernel)) e1 (by decide) λav cp u i j h2 ru nO hi hj hu aj=>?_
  have bV:=bA.tab h2 ru nO aj
  have eV:i7 u i [.str "a",.int ((0:Nat):Int)]= (Tm.s u [.a i,.a 0]).V:=(Tm.cH (f:=u) (l:= [.a i,.a 0])).symm
  refine yt (cd:=.a 0) T calm bV hN (wf.ext nO) vi hz (wa.ext nO) rfl (by
   refine ae eV ?_
   exact Dv (Tm.dY.mpr ⟨by decide,λu hu=>by
    refine bO hu ?_ λhu=>?_
    ·trivial
    ·refine ae (List.mem_singleton.mp hu) ?_;trivial⟩)) (λaW rH lx e wl Q eC rep e3 hq=>?_) q
  refine Up (z:=0) (k:=k+2) T calm eC bV.hx e3 (show aH rH e (4,((0:Nat):Int)) from rep) (wa.ext nO) λbn l7 rI r dR h4 kW aM z=>hq bn l7 rI r dR h4 kW aM ?_
  refine k7 z λu' i' j' h5 h6 h7 Uu=>?_
  subst Uu
  have Uv:=nN dR.ok h6 (bW kW.tx hj)
  subst Uv
  exact ae (nN dR.ok h5 (bW kW.tx hi)) (ae (Dt dR.ok h7 (bW kW.fs hu)) rfl)
theorem Dw(T:au c)(calm:c.calm=true)(w:LW σ hd cl m st y xs H Tb N)(hN:N≤70000)(wf:t.Wf Tb)(vi:t.bp (· =0))(hz:t.sz≤200)(q:∀af,Q (.bool true) af):
  vX c f (k+9) (bT 30 dD) E [x0,x1,some (.val (.ref hd)),some (.val (.ref y.o)),some (.val (.ref m.o)),x5,some t.V,x7,x8,x9,xa,xb,xc,xd,xe,xf,xg,xh,xi,xj,xk,xl,xm] σ (aq Q):=by
 kd_p
 refine fW (lim:=300) T w.gn (by decide) (by decide) λd ah q_ q_ rJ ag=>?_
 have bA:=w.draw rJ ag
 kd_in
 refine aZ.go 142 λwl av q_ e2 aj=>?_
 have bV:=bA.keep aj
 kd_in
 refine fW (lim:=4) T bV.gn (by decide) (by decide) λb aW b0 b4 rK aC=>?_
 have l8:=bV.draw rK aC
 obtain ⟨cd,Uw,hc⟩:∃cd:Tm, [V.tup [.str "v",.int 0],.tup [.str "i",.int d],.tup [.str "a",.int 0],.tup [.str "i",.int (-1)]][b.toNat]? =some cd.V∧(cd= .v 0∨(∃n,cd= .i n)∨cd= .a 0):=by
  refine yH b0 b4 ?_ ?_ ?_ ?_
  ·exact bx (.v 0) rfl (.inl rfl)
  ·exact bx (.i d) rfl (.inr (.inl ⟨_,rfl⟩))
  ·exact bx (.a 0) rfl (.inr (.inr rfl))
  ·exact bx (.i (-1)) rfl (.inr (.inl ⟨_,rfl⟩))
 refine IX.L (aC.at e2) b0 (by exact M1 [] [_] 0x8000000000000000010011541100115 rfl b4) Uw ?_
 exact Ut hc T calm l8 hN wf vi hz q
end
end
noncomputable section
open Classical
noncomputable section
variable {c:Cx}{k:Nat}{σ:S}{m:bD}{st:ba}{y:aT}{xs:List aE}{H:Hp}{Tb:ai}{Q:V→S→Prop}{hd cl:Addr}{t u:Tm}{f:Fm}{E:Value→Shared→Prop}{N:Nat}{x0 x1 x2 x5 x7 x8 x9 xa xb xc xd xe xf xg xh xi xj xk xl xm:Option V}
theorem yv(t:Tm):∀u:Tm,t.bp (· =0)→u.bp (· =0)→(t.aQ ν).cmp Tb (u.aQ ν)=t.cmp Tb u:=by
 have off:∀{t u:Tm},t.rank≠u.rank→(t.aQ ν).cmp Tb (u.aQ ν)=t.cmp Tb u:=λ{t u} h=>by
  exact ae (Tm.iT h) (ae (Tm.iT (by rwa [iu,iu])) (ae iu (ae iu rfl)))
 induction t using Tm.ind with
 |hv n=>
  intro u h1 h2
  cases u with
  |v z=>
   cases (show n=0 from h1 n rfl)
   cases (show z=0 from h2 z rfl)
   exact(Tm.cmp_self _ _).trans (Tm.cmp_self _ _).symm
  |s g l=>exact off (by simp[Tm.rank])
  |_=>rfl
 |ha n=>
  intro u h1 h2
  cases u with
  |s g l=>exact off (by simp[Tm.rank])
  |_=>rfl
 |hi n=>
  intro u h1 h2
  cases u with
  |s g l=>exact off (by simp[Tm.rank])
  |_=>rfl
 |hs f l ih=>
  intro u h1 h2
  cases u with
  |s g m=>
   refine ae Tm.dE (ae Tm.dE (ae Tm.ib (ae Tm.ib ?_)))
   have key:List.zipWith (Tm.cmp Tb) (l.map (Tm.aQ ν)) (m.map (Tm.aQ ν))=List.zipWith (Tm.cmp Tb) l m:=by
    have a1:=Tm.gr h1
    have a2:=Tm.gr h2
    clear h1 h2
    induction l generalizing m with
    |nil=>rfl
    |cons p l m9=>
     cases m with
     |nil=>rfl
     |cons q m=>exact ae List.map_cons (ae List.map_cons (ae List.zipWith_cons_cons (ae List.zipWith_cons_cons (ae (ih p (.head _) q (a1 p (.head _)) (a2 q (.head _))) (ae (m9 (λx hx=>ih x (.tail _ hx)) m (λx hx=>a1 x (.tail _ hx)) λx hx=>a2 x (.tail _ hx)) rfl)))))
   exact ae key rfl
  |_=>exact off (by simp[Tm.rank])
structure One(Tb:ai)(t:Tm):Prop where
 wf:t.Wf Tb
 vi:t.bp (· =0)
 hz:t.sz≤200
 hh:t.bF 4
theorem One.ext (h:One Tb t)(e:Tb.Ext ay):One ay t:=⟨h.wf.ext e,h.vi,h.hz,h.hh⟩
theorem Tm.Dx (h:t.bp (· =0)):(t.aQ ν).bp (· =ν 0):=λz hz=>by
 refine ak ((Tm.yj t).mp hz) λx h1 h2=>?_
 cases (show x=0 from h x h1)
 exact h2
theorem yw(h1:One Tb t)(h2:One Tb u)(r1:(t.aQ (nu L)).Rep H y1)(r2:(u.aQ (nu L)).Rep H y2):fy H Tb (nu L 0) (t.aQ (nu L)) (u.aQ (nu L)) y1 y2:=
 ⟨⟨Tm.lX t h1.wf,Tm.lX u h2.wf,r1,r2⟩,Tm.Dx h1.vi,Tm.Dx h2.vi,by refine ae (Tm.rC ..) ?_;have:=h1.hz;exact Nat.le_trans (by assumption) (aD rfl)⟩
theorem rL{α:Type}{P:α→Prop}{a b d:α}(h1:P a)(h2:P b)(h3:P d):∀x∈ [a,b,d],P x:=λx hx=>by
 refine bO hx ?_ λhx=>?_
 ·exact h1
 ·refine bO hx ?_ λhx=>?_
  ·exact h2
  ·exact ae (List.mem_singleton.mp hx) h3
theorem Ux(T:au c)(calm:c.calm=true)(h1:One Tb t)(h2:One Tb u)(hn:Tb.tx[n]? =some (iq (t.cmp Tb u)))(a:gL m st y H Tb [.v x,t,u] σ az H' L' cs af):
  cP c (k+8) (.ref 958) [.val (.ref m.o)] af (Told m st y Tb [.v x,t,u] (some (x,n)) true az H' L' cs af) QX:=by
 refine bG (a.get (j:=0) rfl) λd0 c0 e0 r0=>?_
 refine bG (a.get (j:=1) rfl) λd1 c1 e1 r1=>?_
 refine bG (a.get (j:=2) rfl) λd2 c2 e2 r2=>?_
 have uj:aH H' d0 (0,nu L' x):=r0
 refine ud T (CV.x ((RO T calm a.W e0 uj e1 e2 (yw h1 h2 r1 r2)).mono λr aL z=>?_))
 refine nW z λcp i er cM ext hi kk=>?_
 rw[yv t u h1.vi h2.vi]at hi
 have fM:i=n:=nN cM.ok hi (bW ext.tx hn)
 subst fM
 have bq:i<cp.tx.length:=be hi
 refine lb cp _ er cM ext CK (λz=>?_) (λq_ j tt e hj he=>?_) (kk.am rfl)
 ·unfold lY
  simp only
  split
  ·exact bq
  ·trivial
 ·refine ae (TF λz hz q=>by
   refine XE (a.laid.c7 tt (List.mem_of_getElem? hj) z hz) λb1 l1=>?_
   refine XE (a.laid.c7 (.v x) (.head _) x rfl) λb2 l2=>?_
   rw[fQ l1,fQ l2]at q
   subst q
   exact a.laid.ny.inj _ _ _ l1 l2) ?_
  have:=Tm.Rep.bind (n:=i) uj.BE _ (a.laid.rep j tt e hj he)
  unfold lQ
  refine ae (if_pos rfl) ?_
  exact this
theorem Uy(T:au c)(calm:c.calm=true)(h1:One Tb t)(h2:One Tb u)(hn:Tb.tx[n]? =some (iq (t.cmp Tb u)))(hz:Tb.tx[z]? =some s)(hs:s=Str.ofString "<"∨s="="∨s=">")
  (a:gL m st y H Tb [.a z,t,u] σ az H' L' cs af):
  cP c (k+8) (.ref 958) [.val (.ref m.o)] af (Told m st y Tb [.a z,t,u] none (decide (z=n)) az H' L' cs af) QX:=by
 refine bG (a.get (j:=0) rfl) λd0 c0 e0 r0=>?_
 refine bG (a.get (j:=1) rfl) λd1 c1 e1 r1=>?_
 refine bG (a.get (j:=2) rfl) λd2 c2 e2 r2=>?_
 have uj:aH H' d0 (4,(z:Int)):=r0
 refine ud T (CV.x ((RP T calm a.W e0 uj hz hs e1 e2 (yw h1 h2 r1 r2)).mono λr aL w=>?_))
 refine nW w λcp i er cM ext hi kk=>?_
 rw[yv t u h1.vi h2.vi]at hi
 have fM:i=n:=nN cM.ok hi (bW ext.tx hn)
 subst fM
 have et:kO (4,(z:Int)) (i:Int)=decide (z=i):=by
  unfold kO
  refine ae (decide_eq_false (show¬(4:Int)=0 by decide)) (ae (Bool.false_or ..) ?_)
  exact decide_eq_decide.mpr ⟨λe=>Int.ofNat.inj (congrArg Prod.snd e),λe=>by exact ae e rfl⟩
 have ea:lQ H' (4,(z:Int)) (i:Int)=H':=if_neg (show¬(4:Int)=0 by decide)
 rw[ea]at cM
 rw[et]at er
 exact lb cp H' er cM ext rfl (λz=>trivial) (λq_ j tt e hj he=>a.laid.rep j tt e hj he) (kk.am rfl)
theorem Dy{as:Tm}{n:Nat}{b:Option (Int×Nat)}{ok:Bool}{dl:Addr}(T:au c)(calm:c.calm=true)(w:LW σ hd cl m st y xs H Tb N)(hN:N≤60000)(h1:One Tb t)(h2:One Tb u)(wa:as.Wf Tb)(za:as.sz≤200)(ha:as.bF 4)
  (Uz:σ dl=some (.list 144 [.tup [as.V,(Tm.a n).V]])) (hM:Meets c (k+8) b ok [.tup [as.V,(Tm.a n).V]])
  (hp:∀ah af az H' L' cs,gL m st y H Tb [as,t,u] ah az H' L' cs af→cP c (k+8) (.ref 958) [.val (.ref m.o)] af (Told m st y Tb [as,t,u] b ok az H' L' cs af) (λq_ q_ q_=>False)) (q:∀af,Q (.bool true) af):
  vX c f (k+9) (bT 29 dD) E [x0,x1,some (.val (.ref hd)),some (.val (.ref y.o)),some (.val (.ref m.o)),x5,some t.V,some u.V,x8,x9,xa,xb,xc,xd,xe,xf,xg,xh,xi,some as.V,some (.tup [.str "holds",.val (.ref dl)]),xl,xm] σ (aq Q):=by
 kd_p
 refine aZ.go 146 λws ah q_ e1 ag=>?_
 have bA:=w.keep ag
 have pE:=w.hN
 kd_in
 refine Do (ts:= [as,t,u]) T calm (by decide) bA.W bA.hx e1 rfl (ag.at Uz) rfl hM (rL wa h1.wf h2.wf) (rL za h1.hz h2.hz) (rL ha h1.hh h2.hh) (Nat.le_refl _) (by exact M2 [_,_] [] 0x15f9051101100010110ea604100110 rfl hN pE) (λaf az H' L' cs a=>hp _ af az H' L' cs a) λav nP fz cp cM cL uk ext aj=>?_
 refine Br.ff ?_
 exact Dw (N:=N+603) T calm (bA.next (bA.h.keep aj) cM cL (by exact M2 [_,_,_] [] 0x25b311022011025b31002201101000110 rfl pE uk) ext) (by exact M1 [_] [] 0x111705125b31002110ea604100110 rfl hN) (h1.wf.ext ext) h1.vi h1.hz q
end
end
noncomputable section
open Classical
noncomputable section
variable {c:Cx}{k:Nat}{σ:S}{m:bD}{st:ba}{y:aT}{xs:List aE}{H:Hp}{Tb:ai}{Q:V→S→Prop}{hd cl:Addr}{t u:Tm}{f:Fm}{E:Value→Shared→Prop}{N:Nat}{x0 x1 x2 x5 x7 x8 x9 xa xb xc xd xe xf xg xh xi xj xk xl xm:Option V}
noncomputable def iv(u i:Nat)(a:Tm):Tm:=.s 16 [.s u [.a i,a],.a 25]
theorem yx{u i:Nat}{a:Tm}{cu:List V}(h:a.V= .tup cu):(iv u i a).V=ec (i7 u i cu):=by
 refine(Tm.cH (f:=16) (l:= [.s u [.a i,a],.a 25])).trans ?_
 show V.tup [_,_,.tup [(Tm.s u [.a i,a]).V,_]]=_
 refine ae (Tm.cH (f:=u) (l:= [.a i,a])) ?_
 show V.tup [_,_,.tup [.tup [_,_,.tup [_,a.V]],_]]=_
 exact ae h rfl
theorem Dz{u i:Nat}{a:Tm}{ν:Int→Int}:(iv u i a).aQ ν=iv u i (a.aQ ν):=by
 unfold iv
 refine ae Tm.dE (ae List.map_cons (ae Tm.dE ?_));rfl
theorem UA{u i:Nat}{a:Tm}{x:Int}(h:(iv u i a).Vr x):a.Vr x:=by
 refine ak (Tm.ej.mp h) λt ht h=>?_
 rcases List.mem_cons.mp ht with rfl|ht
 ·refine ak (Tm.ej.mp h) λt ht h=>?_
  rcases List.mem_cons.mp ht with rfl|ht
  ·exact h.elim
  ·rw[List.mem_singleton.mp ht]at h;exact h
 ·rw[List.mem_singleton.mp ht]at h;exact h.elim
theorem rM{α:Type}{P:α→Prop}{a b:α}(h1:P a)(h2:P b):∀x∈ [a,b],P x:=λx hx=>by
 refine bO hx ?_ λhx=>?_
 ·exact h1
 ·exact ae (List.mem_singleton.mp hx) h2
structure jc(T:ai)(nm kd:Str)(u i:Nat):Prop where
 ex:∃j:Nat,T.tx[j]? =some nm∧T.fs[u]? =some ((j:Int),2)
 kd:T.tx[i]? =some kd
 nM:∃j,T.fs[16]? =some (j,2)
 kV:25<T.tx.length
theorem jc.ext {T T':ai}{nm kd:Str}{u i:Nat}(h:jc T nm kd u i)(e:T.Ext T'):jc T' nm kd u i:=
 ⟨(bx _ (bW e.tx h.ex.choose_spec.1) (bW e.fs h.ex.choose_spec.2)),bW e.tx h.kd,⟨_,bW e.fs h.nM.choose_spec⟩,Nat.lt_of_lt_of_le h.kV e.tx.length_le⟩
theorem jc.wf {nm kd:Str}{u i:Nat}{a:Tm}(h:jc T nm kd u i)(ha:a.Wf T):(iv u i a).Wf T:=
 Tm.bB.mpr ⟨h.nM,λq_=>rfl,Nat.succ_pos _,aD rfl,rM (Tm.bB.mpr ⟨⟨_,h.ex.choose_spec.2⟩,λq_=>rfl,Nat.succ_pos _,aD rfl,rM (be h.kd:i<T.tx.length) ha⟩) (h.kV:25<T.tx.length)⟩
theorem jc.uniq {T:ai}{nm kd:Str}{u i u' i' j':Nat}(h:jc T nm kd u i)(ok:T.Ok)(h1:T.tx[i']? =some kd)(h2:T.tx[j']? =some nm)(h3:T.fs[u']? =some ((j':Int),2)):u'=u∧i'=i:=by
 refine ak h.ex λj e1 e2=>?_
 cases nN ok h2 e1
 exact⟨Dt ok h3 e2,nN ok h1 h.kd⟩
theorem DA{as:Tm}(T:au c)(calm:c.calm=true)(nv:∀n,as≠.v n)(na:∀n,as≠.a n)(wa:as.Wf Tb)(za:as.sz≤200)(eo:jc Tb "type_error" "atom" u0 i0)
  (a:gL m st y H Tb (as::ts) σ az H' L' cs af):cP c (k+8) (.ref 958) [.val (.ref m.o)] af (λq_ q_=>False) (λC d aL=>C=51∧rF m st y Tb (iv u0 i0 as) az H' d af aL):=by
 refine bG (a.get (j:=0) rfl) λd0 c0 e0 r0=>?_
 refine ud T (Tn T calm a.W e0 r0 (λT' e=>Tm.lX as (wa.ext e)) (by refine ae (Tm.rC ..) ?_;lia) (λn e=>?_) (λn e=>?_) (cZ (by decide +kernel)) (cZ (by decide +kernel)) λaL T' L u i j d cu pB nd lW fV ext hi hj hu kk iC=>?_)
 ·cases as with
  |v n=>exact nv n rfl
  |s g l=>rw[Tm.dE]at e;contradiction
  |_=>contradiction
 ·cases as with
  |a n=>exact na n rfl
  |s g l=>rw[Tm.dE]at e;contradiction
  |_=>contradiction
 ·refine XA ((eo.ext ext).uniq fV.ok hi hj hu) λUB UC=>?_
  subst UB
  subst UC
  rw[←yx pB]at iC
  refine⟨rfl,_,λx=>idx L (nu L' x),λx=>(∃a,L'.lookup x=some a)∧nu L' x∈L,T',iC,?_,λx z hx hz q=>?_,λx hx=>?_,(eo.ext ext).wf (Tm.lX _ (Tm.lX as (wa.ext ext))),fV,ext,kk⟩
  ·exact ae Dz (ae (Tm.yk ..) rfl)
  ·refine XA hx λUD h1=>?_
   obtain ⟨p,hp⟩:=UD
   refine XA hz λUE h2=>?_
   obtain ⟨b,hb⟩:=UE
   have e:=BQ h1 q
   rw[fQ hp,fQ hb]at e
   subst e
   exact a.laid.ny.inj _ _ _ hp hb
  ·have hx:=UA hx
   exact⟨a.laid.c7 as (.head _) x hx,lW _ (Tm.Dh hx)⟩
theorem UF(T:au c)(calm:c.calm=true)(hz:Tb.tx[z]? =some s)(n1:s≠Str.ofString "<")(n2:s≠"=")(n3:s≠">")(eo:jc Tb "domain_error" "order" u0 i0)
  (a:gL m st y H Tb (.a z::ts) σ az H' L' cs af):cP c (k+8) (.ref 958) [.val (.ref m.o)] af (λq_ q_=>False) (λC d aL=>C=51∧rF m st y Tb (iv u0 i0 (.a z)) az H' d af aL):=by
 refine bG (a.get (j:=0) rfl) λd0 c0 e0 r0=>?_
 have hd:aH H' d0 (4,(z:Int)):=r0
 have wz:∀T',Tb.Ext T'→(Tm.a z).Wf T':=λT' e=>(be (bW e.tx hz):z<T'.tx.length)
 refine ud T (To T calm a.W e0 hd hz n1 n2 n3 wz hd.end_ (cZ (by decide +kernel)) (cZ (by decide +kernel)) λaL T' u i j d fV ext hi hj hu kk iC=>?_)
 refine XA ((eo.ext ext).uniq fV.ok hi hj hu) λUG UH=>?_
 subst UG
 subst UH
 rw[←yx (a:=.a z) rfl]at iC
 exact⟨rfl,_,id,λq_=>True,T',iC,by refine ae Dz ?_;rfl,λx z q_ q_ q=>q,λx hx=>trivial,(eo.ext ext).wf (wz T' ext),fV,ext,kk⟩
theorem yy{as:Tm}{u0 i0:Nat}{nm kd:Str}{cu:List V}(T:au c)(calm:c.calm=true)(w:LW σ hd cl m st y xs H Tb N)(hN:N≤60000)(h1:One Tb t)(h2:One Tb u)(wa:as.Wf Tb)(za:as.sz≤200)(ha:as.bF 2)(eo:jc Tb nm kd u0 i0)(pB:as.V= .tup cu)
  (hp:∀ah af az H' L' cs,gL m st y H Tb [as,t,u] ah az H' L' cs af→cP c (k+8) (.ref 958) [.val (.ref m.o)] af (λq_ q_=>False) (λC d aL=>C=51∧rF m st y Tb (iv u0 i0 as) az H' d af aL)) (q:∀af,Q (.bool true) af):
  vX c f (k+9) (bT 29 dD) E [x0,x1,some (.val (.ref hd)),some (.val (.ref y.o)),some (.val (.ref m.o)),x5,some t.V,some u.V,x8,x9,xa,xb,xc,xd,xe,xf,xg,xh,xi,some as.V,some (.tup [.str "error",ec (i7 u0 i0 cu)]),xl,xm] σ (aq Q):=by
 have h4:as.bF 4:=as.lZ (as.lZ ha)
 have he:(iv u0 i0 as).bF 4:=Tm.dY.mpr ⟨by decide,rM (Tm.dY.mpr ⟨by decide,rM trivial ha⟩) trivial⟩
 have ze:(iv u0 i0 as).sz≤4000:=by
  unfold iv
  refine ae Tm.dq ?_
  show 2+ ((Tm.s u0 [.a i0,as]).sz+1+ (1+1+0))≤_
  refine ae Tm.dq ?_
  show 2+ (2+ (1+1+ (as.sz+1+0))+1+ (1+1+0))≤_
  lia
 refine aU (yx pB) ?_
 kd_p
 refine aZ.go 146 λws ah q_ e1 ag=>?_
 have bA:=w.keep ag
 have pE:=w.hN
 kd_in
 refine T9 (ts:= [as,t,u]) T calm (by decide) bA.W bA.hx e1 rfl (rL wa h1.wf h2.wf) (rL za h1.hz h2.hz) (Nat.le_refl _) (by lia) (eo.wf wa) he ze (λaf az H' L' cs a=>hp _ af az H' L' cs a) λav nP fz cp cM cL uk ext aj=>?_
 refine Br.ff ?_
 exact Dw (N:=N+603) T calm (bA.next (bA.h.keep aj) cM cL (by lia) ext) (by lia) (h1.wf.ext ext) h1.vi h1.hz q
end
end
noncomputable section
open Classical
noncomputable section
variable {c:Cx}{k:Nat}{σ:S}{m:bD}{st:ba}{y:aT}{xs:List aE}{H:Hp}{Tb:ai}{Q:V→S→Prop}{hd cl:Addr}{t u:Tm}{f:Fm}{E:Value→Shared→Prop}{N:Nat}{x0 x1 x2 x5 x7 x8 x9 xa xb xc xd xe xf xg xh xi xj xk xl xm:Option V}
noncomputable def ul(s:Str):Prop:=s="<"∨s="="∨s=">"
noncomputable def DB(Tb:ai)(as:Tm):Prop:=(∃x,as= .v x)∨(∃z s,as= .a z∧Tb.tx[z]? =some s∧ul s)∨as= .a 0∨as= .i 3∨∃g,as= .s g [.v 6]∧∃j:Nat,Tb.fs[g]? =some ((j:Int),1)∧g≠0
theorem LW.err {nm kd:Str}{u0 i0 j:Nat}(w:LW σ hd cl m st y xs H Tb N)(hi:Tb.tx[i0]? =some kd)(hj:Tb.tx[j]? =some nm)(hu:Tb.fs[u0]? =some ((j:Int),2)):jc Tb nm kd u0 i0:=⟨⟨j,hj,hu⟩,hi,w.nM,w.kV⟩
theorem UI{as:Tm}{n:Nat}(T:au c)(calm:c.calm=true)(w:LW σ hd cl m st y xs H Tb N)(hN:N≤60000)(h1:One Tb t)(h2:One Tb u)(hn:Tb.tx[n]? =some (iq (t.cmp Tb u)))(ha:DB Tb as)(q:∀af,Q (.bool true) af):
  vX c f (k+9) (bT 27 dD) E [x0,x1,some (.val (.ref hd)),some (.val (.ref y.o)),some (.val (.ref m.o)),x5,some t.V,some u.V,x8,x9,xa,xb,xc,xd,xe,xf,xg,xh,some (Tm.a n).V,some as.V,xk,xl,xm] σ (aq Q):=by
 have UJ:∀{s:Str},ul s↔s∈ [Str.ofString "<","=",">"]:=λ{s}=>by simp[ul]
 have hy:=w.W.hy
 kd_in
 refine aZ.go 144 λdl ah q_ e1 ag=>?_
 have bA:=w.keep ag
 have V':=bA.W.hy
 rcases ha with ⟨x,rfl⟩|⟨z,s,rfl,hz,hs⟩|rfl|rfl|⟨g,rfl,j,hg,g0⟩
 ·kd_p
  refine aZ.go 145 λl2 av q_ e2 aj=>?_
  refine Cm.nk (OV.mK (l:= ["i","s"]) e2 ?_)
  refine Br.no (by decide +kernel) ?_
  kd_p
  refine Br.no (by decide) ?_
  refine Br.ff ?_
  exact Dy (b:=some (x,n)) T calm (bA.keep aj) hN h1 h2 trivial (by show 1≤200;decide) trivial (aj.at e1) (Meets.var T) (λaW af az H' L' cs a=>Ux T calm h1 h2 hn a) q
 ·have hi:=be hz
  kd_p
  refine aZ.go 145 λl2 av q_ e2 aj=>?_
  refine Cm.nk (OV.mK (l:= ["i","s"]) e2 ?_)
  refine Br.no (by decide +kernel) ?_
  have bV:=bA.keep aj
  have um:=bV.W.hy
  kd_p
  refine Br.yes rfl ?_
  kd_p
  refine ij T um hz (Nat.le_trans bV.W.ok.jy (by decide)) ?_
  kd_p
  refine aZ.go 145 λl3 aW q_ e3 aC=>?_
  refine Cm.BW (OV.Ag (l:= ["<","=",">"]) e3 ?_)
  refine ae (decide_eq_true (UJ.mp hs)) ?_
  refine Br.ff ?_
  exact Dy (b:=none) (ok:=decide (z=n)) T calm (bV.keep aC) hN h1 h2 hi (by show 1≤200;decide) trivial (aC.at (aj.at e1)) (Meets.atom T) (λaW af az H' L' cs a=>Uy T calm h1 h2 hn hz hs a) q
 ·have hz:=w.t0
  have hi:=be hz
  kd_p
  refine aZ.go 145 λl2 av q_ e2 aj=>?_
  refine Cm.nk (OV.mK (l:= ["i","s"]) e2 ?_)
  refine Br.no (by decide +kernel) ?_
  have bV:=bA.keep aj
  have um:=bV.W.hy
  kd_p
  refine Br.yes rfl ?_
  kd_p
  refine ij T um hz (Nat.le_trans bV.W.ok.jy (by decide)) ?_
  kd_p
  refine aZ.go 145 λl3 aW q_ e3 aC=>?_
  refine Cm.BW (OV.Ag (l:= ["<","=",">"]) e3 ?_)
  refine ae (decide_eq_false (by decide +kernel)) ?_
  refine Br.tt ?_
  have l8:=bV.keep aC
  have UK:=l8.W.hy
  kd_p
  refine aZ.go 141 λwl bn q_ e4 aM=>?_
  have gM:=l8.keep aM
  kd_in
  refine ue (k:=k+6) T calm gM.W.hy gM.W.ok (cZ (by decide +kernel)) (cZ (by decide +kernel)) e4 (by decide) λci yu u0 i0 j h5 nK eR ma mc md bj=>?_
  have eD:=gM.tab h5 nK eR bj
  exact yy (as:=.a 0) T calm eD hN (h1.ext eR) (h2.ext eR) (be eD.t0) (by show 1≤200;decide) trivial (eD.err ma mc md) rfl (λaW af az H' L' cs a=>UF T calm eD.t0 (by decide +kernel) (by decide +kernel) (by decide +kernel) (eD.err ma mc md) a) q
 ·kd_p
  refine aZ.go 145 λl2 av q_ e2 aj=>?_
  refine Cm.nk (OV.mK (l:= ["i","s"]) e2 ?_)
  refine Br.yes (.head _) ?_
  have bV:=bA.keep aj
  kd_p
  refine aZ.go 141 λwl bn q_ e4 aM=>?_
  have gM:=bV.keep aM
  kd_in
  refine ue (k:=k+6) T calm gM.W.hy gM.W.ok (cZ (by decide +kernel)) (cZ (by decide +kernel)) e4 (by decide) λci yu u0 i0 j h5 nK eR ma mc md bj=>?_
  have eD:=gM.tab h5 nK eR bj
  exact yy (as:=.i 3) T calm eD hN (h1.ext eR) (h2.ext eR) trivial (by show 1≤200;decide) trivial (eD.err ma mc md) rfl (λaW af az H' L' cs a=>DA T calm (λq_ e=>nomatch e) (λq_ e=>nomatch e) trivial (by show 1≤200;decide) (eD.err ma mc md) a) q
 ·have wf:∀T',Tb.Ext T'→(Tm.s g [.v 6]).Wf T':=λT' e=>Tm.bB.mpr ⟨⟨_,bW e.fs hg⟩,λz=>absurd z g0,by decide,by decide,λx hx=>by refine ae (List.mem_singleton.mp hx) ?_;trivial⟩
  have hs:(Tm.s g [.v 6]).sz≤200:=by
   refine ae Tm.dq ?_
   show 2+ (1+1+0)≤200
   decide
  have hh:(Tm.s g [.v 6]).bF 2:=Tm.dY.mpr ⟨by decide,λx hx=>by refine ae (List.mem_singleton.mp hx) ?_;trivial⟩
  have hV:(Tm.s g [.v 6]).V= .tup [.str "s",.int g,.tup [(Tm.v 6).V]]:=Tm.cH
  kd_p
  refine aZ.go 145 λl2 av q_ e2 aj=>?_
  refine Cm.nk (OV.mK (l:= ["i","s"]) e2 ?_)
  refine Br.yes (.tail _ (.head _)) ?_
  have bV:=bA.keep aj
  kd_p
  refine aZ.go 141 λwl bn q_ e4 aM=>?_
  have gM:=bV.keep aM
  kd_in
  have rA:=e4
  rw[hV]at rA
  refine ue (k:=k+6) T calm gM.W.hy gM.W.ok (cZ (by decide +kernel)) (cZ (by decide +kernel)) rA (by decide) λci yu u0 i0 j h5 nK eR ma mc md bj=>?_
  have eD:=gM.tab h5 nK eR bj
  exact yy (as:=.s g [.v 6]) T calm eD hN (h1.ext eR) (h2.ext eR) (wf _ eR) hs hh (eD.err ma mc md) hV (λaW af az H' L' cs a=>DA T calm (λq_ e=>nomatch e) (λq_ e=>nomatch e) (wf _ eR) hs (eD.err ma mc md) a) q
end
end
noncomputable section
open Classical
noncomputable section
variable {c:Cx}{k:Nat}{σ:S}{m:bD}{st:ba}{y:aT}{xs:List aE}{H:Hp}{Tb:ai}{Q:V→S→Prop}{hd cl:Addr}{t u:Tm}{f:Fm}{E:Value→Shared→Prop}{N:Nat}{x0 x1 x2 x5 x7 x8 x9 xa xb xc xd xe xf xg xh xi xj xk xl xm:Option V}
theorem IX.sign (ha:σ a=some (.list tg [.str "=",.str ">",.str "<"]))(hn:n= -1∨n=0∨n=1)(q:Q (.str (iq n)) σ):IX c f k E ρ Q (.val (.ref a)) (.int n) σ:=by
 rcases hn with rfl|rfl|rfl
 ·exact λq_ q_ so=>OV.Gc ha (Nat.succ_pos _) (r:=.str "<") rfl q so
 ·exact IX.L ha (by decide) (by decide) (r:=.str "=") rfl q
 ·exact IX.L ha (by decide) (by decide) (r:=.str ">") rfl q
theorem UL(n:Int):iq n∈bZ:=by
 unfold iq
 split
 ·exact cZ (by decide +kernel)
 ·split<;>exact cZ (by decide +kernel)
theorem UM(n:Int):ul (iq n):=by
 unfold iq
 split
 ·exact .inl rfl
 ·split
  ·exact .inr (.inl rfl)
  ·exact .inr (.inr rfl)
theorem UN{g n i1 i2 i3 jb:Nat}{al:Addr}(T:au c)(calm:c.calm=true)(w:LW σ hd cl m st y xs H Tb N)(hN:N≤60000)(h1:One Tb t)(h2:One Tb u)(hn:Tb.tx[n]? =some (iq (t.cmp Tb u)))(e1:Tb.tx[i1]? =some "<")(e2:Tb.tx[i2]? =some "=")(e3:Tb.tx[i3]? =some ">")
  (hg:Tb.fs[g]? =some ((jb:Int),1)) (ha:σ al=some (.list 147 (([.v 5,.v 0,.a n,.a i1,.a i2,.a i3,.a 0,.i 3,.s g [.v 6]]:List Tm).map Tm.V))) (q:∀af,Q (.bool true) af):
  vX c f (k+9) (bT 26 dD) E [x0,x1,some (.val (.ref hd)),some (.val (.ref y.o)),some (.val (.ref m.o)),x5,some t.V,some u.V,x8,x9,xa,xb,xc,xd,xe,xf,xg,xh,some (Tm.a n).V,some (.val (.ref al)),xk,xl,xm] σ (aq Q):=by
 kd_p
 refine fW (lim:=9) T w.gn (by decide) (by decide) λd ah d0 d9 rJ ag=>?_
 have bA:=w.draw rJ ag
 have UO:g≠0:=λe=>by
  subst e
  rw[w.f0]at hg
  exact nomatch hg
 obtain ⟨as,h3,h4⟩:∃as:Tm,(([.v 5,.v 0,.a n,.a i1,.a i2,.a i3,.a 0,.i 3,.s g [.v 6]]:List Tm).map Tm.V)[d.toNat]? =some as.V∧DB Tb as:=by
  obtain rfl|rfl|rfl|rfl|rfl|rfl|rfl|rfl|rfl:=DY d0 d9
  ·exact⟨_,rfl,.inl ⟨_,rfl⟩⟩
  ·exact⟨_,rfl,.inl ⟨_,rfl⟩⟩
  ·exact⟨_,rfl,.inr (.inl (eY _ _ rfl hn (UM _)))⟩
  ·exact⟨_,rfl,.inr (.inl (eY _ _ rfl e1 (.inl rfl)))⟩
  ·exact⟨_,rfl,.inr (.inl (eY _ _ rfl e2 (.inr (.inl rfl))))⟩
  ·exact⟨_,rfl,.inr (.inl (eY _ _ rfl e3 (.inr (.inr rfl))))⟩
  ·exact⟨_,rfl,.inr (.inr (.inl rfl))⟩
  ·exact⟨_,rfl,.inr (.inr (.inr (.inl rfl)))⟩
  ·exact⟨_,rfl,.inr (.inr (.inr (.inr ⟨_,rfl,_,hg,UO⟩)))⟩
 refine IX.L (ag.at ha) d0 (by exact M1 [] [_] 0x8000000000000000010011591100115 rfl d9) h3 ?_
 exact UI T calm bA hN h1 h2 hn h4 q
theorem UP(T:au c)(calm:c.calm=true)(w:LW σ hd cl m st y xs H Tb N)(hN:N≤60000)(h1:One Tb t)(h2:One Tb u)(q:∀af,Q (.bool true) af):
  vX c f (k+9) (bT 23 dD) E [x0,x1,some (.val (.ref hd)),some (.val (.ref y.o)),some (.val (.ref m.o)),x5,some t.V,some u.V,x8,x9,xa,xb,xc,xd,some (.int (t.cmp Tb u)),xf,xg,xh,xi,xj,xk,xl,xm] σ (aq Q):=by
 have hy:=w.W.hy
 kd_p
 refine aZ.go 143 λsa ah q_ e1 ag=>?_
 have bA:=w.keep ag
 refine IX.sign e1 (rq t u) ?_
 kd_in
 refine gw T bA.W.hy bA.W.ok (UL _) λav n yq nL ui l6 q_ hn aj=>?_
 have bV:=bA.tab nL ui l6 (aj.am rfl)
 have um:=nL
 kd_p
 refine gw T nL ui (cZ (by decide +kernel)) λaW i1 Wa pT DC yz q_ e3 aC=>?_
 have l8:=bV.tab pT DC yz (aC.am rfl)
 have UK:=pT
 kd_p
 refine gw T pT DC (cZ (by decide +kernel)) λbn i2 Wb rG DD un q_ e4 aM=>?_
 have gM:=l8.tab rG DD un (aM.am rfl)
 have Wc:=rG
 kd_p
 refine gw T rG DD (cZ (by decide +kernel)) λci i3 We yr DE rN q_ e5 bj=>?_
 have eD:=gM.tab yr DE rN (bj.am rfl)
 kd_in
 refine aZ.go 147 λal gJ q_ e6 cJ=>?_
 have uo:=eD.keep cJ
 have UQ:=uo.W.hy
 kd_p
 refine qX T UQ DE (cZ (by decide +kernel)) (n:=1) (by decide) λpt g j DF UR US pF q_ hg dn=>?_
 have yA:=uo.tab UR US pF dn
 have e7:pt al=some (.list 147 (([.v 5,.v 0,.a n,.a i1,.a i2,.a i3,.a 0,.i 3]:List Tm).map Tm.V)):=dn.at e6
 kd_in
 refine CV.append' e7 (sl (aD rfl)) λpu e8 eQ=>?_
 have ext:Tb.Ext DF:=l6.trans (yz.trans (un.trans (rN.trans pF)))
 have UT:yq.Ext DF:=yz.trans (un.trans (rN.trans pF))
 exact UN (jb:=j) T calm (yA.keep eQ) hN (h1.ext ext) (h2.ext ext) (by exact ae (rr ext w.W.ok t h1.wf h2.wf) (bW UT.tx hn)) (bW (un.trans (rN.trans pF)).tx e3) (bW (rN.trans pF).tx e4) (bW pF.tx e5) hg
  (e8.trans (congrArg (λz=>some (O.list 147 (List.map Tm.V [.v 5,.v 0,.a n,.a i1,.a i2,.a i3,.a 0,.i 3]++ [z]))) (Tm.cH (f:=g) (l:= [.v 6])).symm)) q
end
end
noncomputable section
open Classical
noncomputable section
variable {c:Cx}{k:Nat}{σ:S}{m:bD}{st:ba}{y:aT}{xs:List aE}{H:Hp}{Tb:ai}{Q:V→S→Prop}{hd cl:Addr}{t u:Tm}{f:Fm}{E:Value→Shared→Prop}{N:Nat}{x0 x1 x2 x5 x7 x8 x9 xa xb xc xd xe xf xg xh xi xj xk xl xm:Option V}
noncomputable def nQ(c:Cx)(k:Nat)(m:bD)(st:ba)(y:aT)(Tb:ai)(ts:List Tm)(p:Addr×Bool):Prop:=
 p.1∈fk∧∀(ay:ai) (aK:S) (H:Hp) az H' L' cs af,Tb.Ext ay→gL m st y H ay ts aK az H' L' cs af→cP c (k+8) (.ref p.1) [.val (.ref m.o)] af (Told m st y ay ts none p.2 az H' L' cs af) (λq_ q_ q_=>False)
theorem DG{X:List Nat}(a:gL m st y H Tb ts σ az H' L' cs af)(kk:Keeps X af aL)(e1:X.all (λt=>Nat.ble 24 t)=true:=by rfl)(e2:X.all Dm.contains=true:=by rfl):Told m st y Tb ts none b az H' L' cs af (.bool b) aL:=
 (lb Tb H' rfl (a.W.keep kk e1) (.refl _) rfl (λz=>trivial) (λq_ j tt e hj he=>a.laid.rep j tt e hj he) (kk.am e2))
theorem DH{ts:List Tm}{p:Addr×Bool}(T:au c)(calm:c.calm=true)(w:LW σ hd cl m st y xs H Tb N)(hN:N≤80000)(hl:ts.length≤3)(ho:∀t∈ts,One Tb t)(hw:σ ws=some (.list 146 (ts.map Tm.V))){DI:ai}(e0:DI.Ext Tb)(hp:nQ c k m st y DI ts p)
  (q:∀af az H' ay,LW af hd cl m st y az H' ay (N+603)→Tb.Ext ay→Keeps eA σ af→Q (.bool true) af):
  CV c (k+9) (.ref 951) [.bool p.2] σ λr ah=>CV c (k+9) (.ref 920) [.val (.ref m.o),.val (.ref p.1),.val (.ref ws),r] ah Q:=by
 refine SK (k:=k+8) T λa ah e1 ag=>?_
 have bA:=w.keep ag
 have pE:=w.hN
 exact Do T calm hp.1 bA.W bA.hx (ag.at hw) rfl e1 rfl (Meets.holds T) (λt ht=>(ho t ht).wf) (λt ht=>(ho t ht).hz) (λt ht=>(ho t ht).hh) hl (by exact M2 [_,_] [] 0x15f9051101100010110138805100110 rfl hN pE) (λaf az H' L' cs a=>hp.2 Tb ah H az H' L' cs af e0 a)
  λav nP fz cp cM cL uk ext aj=>q av nP fz cp (bA.next (bA.h.keep aj) cM cL (by exact M2 [_,_,_] [] 0x25b311022011025b31002201101000110 rfl pE uk) ext) ext ((ag.am rfl).trans aj)
theorem DJ{ps:List (Addr×Bool)}{i:Nat}(h:(ps.map λp=>V.tup [.val (.ref p.1),.bool p.2])[i]? =some r):∃p,ps[i]? =some p∧r= .tup [.val (.ref p.1),.bool p.2]:=by
 rw[List.getElem?_map]at h
 refine ak (Option.map_eq_some_iff.mp h) λp h1 h2=>?_
 exact bx p h1 h2.symm
theorem UU{ps:List (Addr×Bool)}{ol:Addr}(T:au c)(calm:c.calm=true)(w:LW σ hd cl m st y xs H Tb N)(hN:N≤30000)(h1:One Tb t)(h2:One Tb u)(hl:ps.length≤9)(hp:∀p∈ps,nQ c k m st y Tb [t,u] p)(ho:σ ol=some (.list 148 (ps.map λp=>.tup [.val (.ref p.1),.bool p.2])))(q:∀af,Q (.bool true) af):
  vX c f (k+9) (bT 22 dD) E [x0,x1,some (.val (.ref hd)),some (.val (.ref y.o)),some (.val (.ref m.o)),x5,some t.V,some u.V,x8,x9,xa,xb,xc,xd,some (.int (t.cmp Tb u)),some (.val (.ref ol)),xg,xh,xi,xj,xk,xl,xm] σ (aq Q):=by
 kd_in
 refine V.fS (λxh=> [x0,x1,some (.val (.ref hd)),some (.val (.ref y.o)),some (.val (.ref m.o)),x5,some t.V,some u.V,x8,x9,xa,xb,xc,xd,some (.int (t.cmp Tb u)),some (.val (.ref ol)),xg,xh,xi,xj,xk,xl,xm]) _
  (λi q_ af=>∃az H' ay,LW af hd cl m st y az H' ay (N+603*i)∧Tb.Ext ay∧Keeps eA σ af) (λaf=>RL c af ol _) (bI.list _ (λq_ h=>h) (.own ho) calm) xh rfl (mj xs H Tb w (.refl _) .refl) (λi a af j=>.own (j.choose_spec.choose_spec.choose_spec.2.2.at ho)) (λE i r xh af K hr j nx=>?_) λxh af j=>?_
 ·refine ak (DJ hr) λp hi nr=>?_
  subst nr
  refine f7 j λaz H' ay w' ext kk=>?_
  have bq:=be hi
  kd_p
  refine aZ.go 146 λws ah q_ e1 ag=>?_
  have bA:=w'.keep ag
  kd_p
  refine(DH (ts:= [t,u]) (p:=p) T calm bA (by exact M3 [_,_,_] [] 0x13880512025b35002110102025b319111025b3075304100110 rfl hN hl bq) (aD rfl) (rM (h1.ext ext) (h2.ext ext)) e1 ext (hp p (List.mem_of_getElem? hi)) (Q:=λr aL=>r= .bool true∧∃az H' ay,LW aL hd cl m st y az H' ay (N+603* (i+1))∧Tb.Ext ay∧Keeps eA σ aL) λav nP fz cp bV l6 aj=>⟨rfl,nP,fz,cp,?_,ext.trans l6,kk.trans ((ag.am rfl).trans aj)⟩).mono λr av z=>?_
  ·exact ae (show N+603* (i+1)=N+603*i+603 by rfl) bV
  ·refine z.mono λr aW z=>?_
   obtain ⟨rfl,z⟩:=z
   exact Br.ff (nx _ _ z)
 ·refine f7 j λaz H' ay w' ext kk=>?_
  rw[List.length_map]at w'
  refine aU (rr ext w.W.ok t h1.wf h2.wf) ?_
  exact UP T calm w' (by exact M2 [_,_] [] 0xea60411025b350021109111025b3075304100110 rfl hN hl) (h1.ext ext) (h2.ext ext) q
end
end
noncomputable section
open Classical
noncomputable section
variable {c:Cx}{k:Nat}{σ:S}{m:bD}{st:ba}{y:aT}{xs:List aE}{H:Hp}{Tb:ai}{Q:V→S→Prop}{hd cl:Addr}{t u:Tm}{f:Fm}{E:Value→Shared→Prop}{N:Nat}{x0 x1 x2 x5 x7 x8 x9 xa xb xc xd xe xf xg xh xi xj xk xl xm:Option V}
noncomputable abbrev gN (fa cd:Addr):Fn:={kA with a:=fa,code:=cd}
theorem V.aug {ρ:Lo}{x:Str}{p pos:Pos}{e:Expr}{i:Nat}{a:Addr}{re:RE}{Q:Fl→Lo→S→Prop}(T:au c)(hi:Ix f.N x i)(hr:ρ[i]? =some (some (.val (.ref a))))(he:cE f.N f.G 20 e=some re)
  (h:vE c f k E re ρ σ λr ah=>∃b ta tb l m,r= .val (.ref b)∧ah a=some (.list ta l)∧ah b=some (.list tb m)∧l.length+m.length≤1000∧∀af,af a=some (.list ta (l++m))→Keeps [ta] ah af→Q .next (gk ρ i (some (.val (.ref a)))) af)
  (hk:f.env.kindOf x=some .local∨f.inner=false:=by exact .inr rfl):aS c f E k (.AugAssign (.Name x p) .Add e pos) ρ σ Q:=
 aS.Ik hi hr (((sE T 20).1 _ _ he _ _ _ h).mono λr ah z=>by
  refine bH z λb ta tb l UV=>?_
  refine nU UV λm h1 h2 h3 h4 q=>?_
  refine rT b ta tb l m h1 h2 h3 h4 ?_
  refine aU (mY ..) ?_
  exact q _ c5 (Keeps.upd h2 (.head _))) hk
theorem pG(T:au c)(hk:pv∈fk)(h1:One Tb t)(h2:One Tb u)
  (h:∀(ay:ai) af az H' (ν:Int→Int) y1 y2,Wd af m st y az H' ay→Tb.Ext ay→az[1]? =some y1→az[2]? =some y2→fy H' ay (ν 0) (t.aQ ν) (u.aQ ν) y1 y2→CV c (k+8) (.ref pv) [.val (.ref m.o)] af (λr aL=>r= .bool b∧Keeps [62,63,64,65,66] af aL)):
  nQ c k m st y Tb [t,u] (pv,b):=⟨hk,λay aK H az H' L' cs af e a=>by
 refine bG (a.get (j:=0) rfl) λd1 c1 e1 r1=>?_
 refine bG (a.get (j:=1) rfl) λd2 c2 e2 r2=>?_
 refine CV.x ((h ay af az H' (nu L') d1 d2 a.W e e1 e2 (yw (h1.ext e) (h2.ext e) r1 r2)).mono λr aL z=>?_)
 obtain ⟨rfl,kk⟩:=z
 exact DG a kk⟩
theorem DL(h:t.bp (· =0)):(t.aQ ν).aQ (λq_=>0)=t:=by
 refine ae (Tm.yk ..) ?_
 exact(Tm.De t λx hx=>by exact ae (show x=0 from h x hx) rfl).trans (yl t)
theorem DM(h1:t.bp (· =0))(h2:u.bp (· =0)):decide (t.aQ ν=u.aQ ν)=decide (t=u):=
 decide_eq_decide.mpr ⟨λe=>by exact aU (DL (ν:=ν) h1) (ae e (ae (DL h2) rfl)),λe=>by exact ae e rfl⟩
noncomputable abbrev DN (Tb:ai)(t u:Tm):List (Addr×Bool):= [(656,decide (t.cmp Tb u<0)),(663,decide (u.cmp Tb t<0)),(670, !decide (u.cmp Tb t<0)),(677, !decide (t.cmp Tb u<0)),(684,decide (u=t)),(691, !decide (u=t))]
theorem UW(T:au c)(calm:c.calm=true)(ok:Tb.Ok)(h1:One Tb t)(h2:One Tb u):∀p∈DN Tb t u,nQ c k m st y Tb [t,u] p:=by
 have ce:∀{ay:ai}{ν:Int→Int},Tb.Ext ay→(t.aQ ν).cmp ay (u.aQ ν)=t.cmp Tb u:=λ{ay ν} e=>(yv t u h1.vi h2.vi).trans (rr e ok t h1.wf h2.wf)
 have ng:=Tm.tA Tb t u
 have eu:decide (t=u)=decide (u=t):=decide_eq_decide.mpr eq_comm
 intro p hp
 refine bO hp ?_ λhp=>?_
 ·refine pG T (by decide) h1 h2 λay af az H' ν y1 y2 W e e1 e2 tw=>Rv (k:=k+1) T calm W e1 e2 tw λaL ag=>⟨?_,ag.am rfl⟩
  exact ae (ce e) rfl
 refine bO hp ?_ λhp=>?_
 ·refine pG T (by decide) h1 h2 λay af az H' ν y1 y2 W e e1 e2 tw=>Rw (k:=k+1) T calm W e1 e2 tw λaL ag=>⟨?_,ag.am rfl⟩
  refine ae (ce e) ?_
  exact congrArg V.bool (decide_eq_decide.mpr ⟨λh=>by exact M2 [] [_,_] 0x11001151001111510400116 rfl ng h,λh=>by exact M2 [] [_,_] 0x111150111011510004117 rfl ng h⟩)
 refine bO hp ?_ λhp=>?_
 ·refine pG T (by decide) h1 h2 λay af az H' ν y1 y2 W e e1 e2 tw=>Rx (k:=k+1) T calm W e1 e2 tw λaL ag=>⟨?_,ag.am rfl⟩
  refine ae (ce e) (aU decide_not ?_)
  exact congrArg V.bool (decide_eq_decide.mpr ⟨λh=>by lia,λh=>by exact M2 [] [_,_] 0x11101140001111410400116 rfl ng (Int.not_lt.mp h)⟩)
 refine bO hp ?_ λhp=>?_
 ·refine pG T (by decide) h1 h2 λay af az H' ν y1 y2 W e e1 e2 tw=>Ry (k:=k+1) T calm W e1 e2 tw λaL ag=>⟨?_,ag.am rfl⟩
  refine ae (ce e) (aU decide_not ?_)
  exact congrArg V.bool (decide_eq_decide.mpr ⟨λh=>by omega,λh=>by exact M1 [] [_] 0x1111400011114 rfl (Int.not_lt.mp h)⟩)
 refine bO hp ?_ λhp=>?_
 ·refine pG T (by decide) h1 h2 λay af az H' ν y1 y2 W e e1 e2 tw=>Rz (k:=k+2) T calm W e1 e2 tw λaL ag=>⟨?_,ag⟩
  exact ae (DM h1.vi h2.vi) (ae eu rfl)
 ·refine ae (List.mem_singleton.mp hp) ?_
  refine pG T (by decide) h1 h2 λay af az H' ν y1 y2 W e e1 e2 tw=>RA (k:=k+2) T calm W e1 e2 tw λaL ag=>⟨?_,ag⟩
  exact ae (DM h1.vi h2.vi) (ae eu rfl)
theorem yB{L fa cd:Addr}{A:Around}{stack:List Env}{n:Int}(T:au c)(calm:c.calm=true)(w:LW σ hd cl m st y xs H Tb N)(hN:N≤30000)(h1:One Tb t)(h2:One Tb u)(hn:n=t.cmp Tb u)(q:∀af,Q (.bool true) af):
  vX c ((gN fa cd).fm L A stack) (k+9) (bT 18 dD) E [x0,x1,some (.val (.ref hd)),some (.val (.ref y.o)),some (.val (.ref m.o)),x5,some t.V,some u.V,x8,x9,xa,xb,some (.bool (decide (t.cmp Tb u<0))),some (.bool (decide (u.cmp Tb t<0))),some (.int n),xf,xg,xh,xi,xj,xk,xl,xm] σ (aq Q):=by
 subst hn
 have ng:=Tm.tA Tb t u
 kd_p
 refine Cv (k:=k+4) T calm w.W.hy w.W.ok ⟨h1.wf,h2.wf,h1.vi,h2.vi⟩ (by have:=h1.hz;exact Nat.le_trans (by assumption) (aD rfl)) λah ag=>?_
 have bA:=w.keep ag
 kd_p
 refine Br.no (λh=>h rfl) ?_
 kd_p
 refine Cv (k:=k+4) T calm bA.W.hy bA.W.ok ⟨h2.wf,h1.wf,h2.vi,h1.vi⟩ (by have:=h2.hz;exact Nat.le_trans (by assumption) (aD rfl)) λav aj=>?_
 have bV:=bA.keep aj
 kd_p
 refine Br.no (λh=>h ng) ?_
 kd_p
 refine aZ.go 148 λol aW q_ e3 aC=>?_
 have l8:=bV.keep aC
 kd_in
 refine cW.go (.dI 91 []) (.inl rfl) λth bn q_ e4 aM=>?_
 kd_in
 refine cW.go (.dI 92 []) (.inl rfl) λbk ci q_ e5 bj=>?_
 have eD:=(l8.keep aM).keep bj
 have nv:=ym t
 have hz:=h1.hz
 kd_in
 refine xV (Tb:=Tb) (ay:=Tb) (ν:=id) (P:=(· =0)) T t u 4 (k+9) ci [] _ h1.hh (by exact aD rfl) h1.wf h2.wf ⟨h1.vi,.inr λx z hx hz=>(h2.vi z hz).trans (h1.vi x hx).symm⟩ ⟨bj.at e4,e5,λx z q_ q_ q=>q,λx h=>(by exact dx h),Nat.zero_le _⟩ (by exact ae List.length_nil (M2 [_,_] [] 0x138841000112110c821101101000110 rfl nv hz)) λgJ D' q_ q_ cJ=>?_
 have ei:t.aQ id=t:=yl t
 refine ae ei ?_
 have uo:=eD.keep cJ
 have e6:=cJ.at (bj.at (aM.at e3))
 kd_in
 refine V.aug (i:=15) (re:=.list (.cons (.tup (.cons (.aF (.val (.ref 684))) (.cons (.loc 16) .nil))) (.cons (.tup (.cons (.aF (.val (.ref 691))) (.cons (.not (.loc 16)) .nil))) .nil))) T (jv (by kernel_rfl)) rfl (by kernel_rfl) ?_
 kd_p
 refine aZ.go 149 λUX pt q_ e7 dn=>?_
 refine rT UX 148 149 _ _ rfl (dn.at e6) e7 (aD rfl) (λpu e8 eQ=>?_)
 exact UU (ps:=DN Tb t u) T calm ((uo.keep dn).keep eQ) hN h1 h2 (aD rfl) (UW T calm w.W.ok h1 h2) e8 q
theorem UY{L fa cd:Addr}{A:Around}{stack:List Env}(T:au c)(calm:c.calm=true)(w:LW σ hd cl m st y xs H Tb N)(hN:N≤30000)(h1:One Tb t)(h2:One Tb u)(q:∀af,Q (.bool true) af):
  vX c ((gN fa cd).fm L A stack) (k+9) (bT 15 dD) E [x0,x1,some (.val (.ref hd)),some (.val (.ref y.o)),some (.val (.ref m.o)),x5,some t.V,some u.V,x8,x9,xa,xb,xc,xd,xe,xf,xg,xh,xi,xj,xk,xl,xm] σ (aq Q):=by
 have ng:=Tm.tA Tb t u
 have rg:=rq (Tb:=Tb) t u
 kd_in
 refine CX T calm w.W.ok t u 4 (k+9) σ _ ⟨h1.wf,h2.wf,h1.vi,h2.vi,h1.hh,h2.hh⟩ (by decide) (by exact aD rfl) w.W.hy λah ag=>?_
 have bA:=w.keep ag
 kd_in
 refine CX T calm w.W.ok u t 4 (k+9) ah _ ⟨h2.wf,h1.wf,h2.vi,h1.vi,h2.hh,h1.hh⟩ (by decide) (by exact aD rfl) bA.W.hy λav aj=>?_
 have bV:=bA.keep aj
 kd_p
 refine Br.dec (λh=>?_) λh=>?_
 ·exact yB T calm bV hN h1 h2 (rg.elim Eq.symm λo=>o.elim (λe=>absurd (show (0:Int)<0 from e▸h) (by decide)) λe=>absurd (show (1:Int)<0 from e▸h) (by decide)) q
 ·kd_p
  refine Br.dec (λh'=>?_) λh'=>?_
  ·exact yB T calm bV hN h1 h2 (rg.elim (λe=>absurd (show -(-1:Int)<0 from (ng.trans (congrArg Neg.neg e))▸h') (by decide)) λo=>o.elim (λe=>absurd (show -(0:Int)<0 from (ng.trans (congrArg Neg.neg e))▸h') (by decide)) Eq.symm) q
  ·exact yB T calm bV hN h1 h2 (by exact Int.le_antisymm (M1 [] [_] 0x1111400011114 rfl (Int.not_lt.mp h)) (M2 [] [_,_] 0x11101140001111410400116 rfl ng (Int.not_lt.mp h'))) q
end
end
noncomputable section
open Classical
noncomputable section
variable {c:Cx}{k:Nat}{σ:S}{m:bD}{st:ba}{y:aT}{xs:List aE}{H:Hp}{Tb:ai}{Q:V→S→Prop}{hd cl:Addr}{t u:Tm}{f:Fm}{E:Value→Shared→Prop}{N:Nat}{x0 x1 x2 x5 x7 x8 x9 xa xb xc xd xe xf xg xh xi xj xk xl xm:Option V}
theorem kX{pv:Addr}{b:Bool}(T:au c)(hk:pv∈fk)(h1:One Tb t)
  (h:∀(ay:ai) af az H' (ν:Int→Int) y1,Wd af m st y az H' ay→az[1]? =some y1→(t.aQ ν).Wf ay→(t.aQ ν).Rep H' y1→CV c (k+8) (.ref pv) [.val (.ref m.o)] af (λr aL=>r= .bool b∧Keeps [81,82,84,85] af aL)):
  nQ c k m st y Tb [t] (pv,b):=⟨hk,λay aK H az H' L' cs af e a=>by
 refine bG (a.get (j:=0) rfl) λd1 c1 e1 r1=>?_
 refine CV.x ((h ay af az H' (nu L') d1 a.W e1 (Tm.lX t (h1.wf.ext e)) r1).mono λr aL z=>?_)
 obtain ⟨rfl,kk⟩:=z
 exact DG a kk⟩
theorem gE.aQ {ν:Int→Int}{t e:Tm}(h:gE t e):gE (t.aQ ν) (e.aQ ν):=by
 induction h with
 |@leaf t h=>
  refine .leaf λl e=>?_
  cases t with
  |s g m=>rw[Tm.dE]at e;(injection e with e zq;subst e;subst zq);exact h _ rfl
  |_=>contradiction
 |@step l u e h1 _ ih=>
  refine ae Tm.dE ?_
  exact .step (by refine ae (List.getElem?_map) (ae h1 ?_);rfl) ih
theorem UZ{ν:Int→Int}{e:Tm}:decide (e.aQ ν= .a 0)=decide (e= .a 0):=by
 refine decide_eq_decide.mpr ⟨λh=>?_,λh=>by refine ae h ?_;rfl⟩
 cases e with
 |a n=>exact h
 |s g m=>rw[Tm.dE]at h;contradiction
 |_=>contradiction
theorem nR{s:Str}(u:Tm)(hs:knd u=s):decide (knd t=s)= (t.rank==u.rank):=by
 subst hs
 exact decide_eq_decide.mpr xU
theorem DO{s s':Str}(u u':Tm)(hs:knd u=s)(bu:knd u'=s'):decide (knd t∈ [s,s'])= (t.rank==u.rank||t.rank==u'.rank):=by
 refine aU (nR u hs) (aU (nR u' bu) (aU (Bool.decide_or ..) ?_))
 exact decide_eq_decide.mpr (by simp)
noncomputable abbrev DP (t e:Tm):List (Addr×Bool):= [(586,decide (knd t=Str.ofString "v")),(593,decide (knd t≠Str.ofString "v")),(600,decide (knd t=Str.ofString "a")),(607,decide (knd t=Str.ofString "i")),(614,decide (knd t∈ [Str.ofString "a",Str.ofString "i"])),(621,decide (knd t=Str.ofString "s")),(628,decide (knd t∈ [Str.ofString "a",Str.ofString "s"])),(635,decide (e= .a 0)),(642,true)]
theorem U0{e:Tm}(T:au c)(calm:c.calm=true)(h1:One Tb t)(he:gE t e):∀p∈DP t e,nQ c k m st y Tb [t] p:=by
 have hz:=h1.hz
 intro p hp
 refine bO hp ?_ λhp=>?_
 ·exact kX T (by decide) h1 λay af az H' ν y1 W e1 wf rep=>QH (k:=k+4) T W e1 rep ⟨by refine ae iu (ae (nR (s:=Str.ofString "v") (.v 0) rfl) ?_);rfl,.refl⟩
 refine bO hp ?_ λhp=>?_
 ·exact kX T (by decide) h1 λay af az H' ν y1 W e1 wf rep=>QI (k:=k+4) T W e1 rep ⟨by refine ae iu (ae decide_not (ae (nR (s:=Str.ofString "v") (.v 0) rfl) ?_));rfl,.refl⟩
 refine bO hp ?_ λhp=>?_
 ·exact kX T (by decide) h1 λay af az H' ν y1 W e1 wf rep=>QJ (k:=k+4) T W e1 rep ⟨by refine ae iu (ae (nR (s:=Str.ofString "a") (.a 0) rfl) ?_);rfl,.refl⟩
 refine bO hp ?_ λhp=>?_
 ·exact kX T (by decide) h1 λay af az H' ν y1 W e1 wf rep=>QK (k:=k+4) T W e1 rep ⟨by refine ae iu (ae (nR (s:=Str.ofString "i") (.i 0) rfl) ?_);rfl,.refl⟩
 refine bO hp ?_ λhp=>?_
 ·exact kX T (by decide) h1 λay af az H' ν y1 W e1 wf rep=>QL (k:=k+4) T W e1 rep ⟨by refine ae iu (ae (DO (s:=Str.ofString "a") (s':=Str.ofString "i") (.a 0) (.i 0) rfl rfl) ?_);rfl,.refl⟩
 refine bO hp ?_ λhp=>?_
 ·exact kX T (by decide) h1 λay af az H' ν y1 W e1 wf rep=>QM (k:=k+4) T W e1 rep ⟨by refine ae iu (ae (nR (s:=Str.ofString "s") (.s 0 []) rfl) ?_);rfl,.refl⟩
 refine bO hp ?_ λhp=>?_
 ·exact kX T (by decide) h1 λay af az H' ν y1 W e1 wf rep=>QN (k:=k+4) T W e1 rep ⟨by refine ae iu (ae (DO (s:=Str.ofString "a") (s':=Str.ofString "s") (.a 0) (.s 0 []) rfl rfl) ?_);rfl,.refl⟩
 refine bO hp ?_ λhp=>?_
 ·exact kX T (by decide) h1 λay af az H' ν y1 W e1 wf rep=>Q0 (k:=k+3) T W e1 wf rep (he.aQ (ν:=ν)) (by exact ae (Tm.rC ..) (Nat.le_trans (by assumption) (aD rfl))) λaL ag=>⟨by exact ae UZ rfl,ag.am rfl⟩
 ·refine ae (List.mem_singleton.mp hp) ?_
  exact kX T (by decide) h1 λay af az H' ν y1 W e1 wf rep=>Rq (k:=k+4) T calm W e1 wf rep (by exact ae (Tm.rC ..) (Nat.le_trans (by assumption) (aD rfl))) λaL ag=>⟨rfl,ag.am rfl⟩
theorem U1{L fa cd:Addr}{A:Around}{stack:List Env}{ps:List (Addr×Bool)}{ol:Addr}(T:au c)(calm:c.calm=true)(w:LW σ hd cl m st y xs H Tb N)(hN:N≤10000)(h1:One Tb t)(h2:One Tb u)(hl:ps.length≤9)(hp:∀p∈ps,nQ c k m st y Tb [t] p)(ho:σ ol=some (.list 151 (ps.map λp=>.tup [.val (.ref p.1),.bool p.2])))(q:∀af,Q (.bool true) af):
  vX c ((gN fa cd).fm L A stack) (k+9) (bT 14 dD) E [x0,x1,some (.val (.ref hd)),some (.val (.ref y.o)),some (.val (.ref m.o)),x5,some t.V,some u.V,x8,x9,some (.val (.ref ol)),xb,xc,xd,xe,xf,xg,xh,xi,xj,xk,xl,xm] σ (aq Q):=by
 kd_in
 refine V.fS (λxb=> [x0,x1,some (.val (.ref hd)),some (.val (.ref y.o)),some (.val (.ref m.o)),x5,some t.V,some u.V,x8,x9,some (.val (.ref ol)),xb,xc,xd,xe,xf,xg,xh,xi,xj,xk,xl,xm]) _
  (λi q_ af=>∃az H' ay,LW af hd cl m st y az H' ay (N+603*i)∧Tb.Ext ay∧Keeps eA σ af) (λaf=>RL c af ol _) (bI.list _ (λq_ h=>h) (.own ho) calm) xb rfl (mj xs H Tb w (.refl _) .refl) (λi a af j=>.own (j.choose_spec.choose_spec.choose_spec.2.2.at ho)) (λE i r xb af K hr j nx=>?_) λxb af j=>?_
 ·refine ak (DJ hr) λp hi nr=>?_
  subst nr
  refine f7 j λaz H' ay w' ext kk=>?_
  have bq:=be hi
  kd_p
  refine aZ.go 146 λws ah q_ e1 ag=>?_
  have bA:=w'.keep ag
  kd_p
  refine(DH (ts:= [t]) (p:=p) T calm bA (by exact M3 [_,_,_] [] 0x13880512025b35002110102025b319111025b3027104100110 rfl hN hl bq) (aD rfl) (λx hx=>by exact ae (List.mem_singleton.mp hx) (h1.ext ext)) e1 ext (hp p (List.mem_of_getElem? hi)) (Q:=λr aL=>r= .bool true∧∃az H' ay,LW aL hd cl m st y az H' ay (N+603* (i+1))∧Tb.Ext ay∧Keeps eA σ aL) λav nP fz cp bV l6 aj=>⟨rfl,nP,fz,cp,?_,ext.trans l6,kk.trans ((ag.am rfl).trans aj)⟩).mono λr av z=>?_
  ·exact ae (show N+603* (i+1)=N+603*i+603 by rfl) bV
  ·refine z.mono λr aW z=>?_
   obtain ⟨rfl,z⟩:=z
   exact Br.ff (nx _ _ z)
 ·refine f7 j λaz H' ay w' ext kk=>?_
  rw[List.length_map]at w'
  with_reducible show vX _ _ _ _ _ _ _ _
  exact UY T calm w' (by exact M2 [_,_] [] 0x7530411025b350021109111025b3027104100110 rfl hN hl) (h1.ext ext) (h2.ext ext) q
theorem U2{L fa cd:Addr}{A:Around}{stack:List Env}{e:Tm}(T:au c)(calm:c.calm=true)(w:LW σ hd cl m st y xs H Tb N)(hN:N≤10000)(h1:One Tb t)(h2:One Tb u)(he:gE t e)(hh:e.bF 4)(q:∀af,Q (.bool true) af):
  vX c ((gN fa cd).fm L A stack) (k+9) (bT 11 dD) E [x0,x1,some (.val (.ref hd)),some (.val (.ref y.o)),some (.val (.ref m.o)),x5,some t.V,some u.V,some (.str (knd t)),some e.V,xa,xb,xc,xd,xe,xf,xg,xh,xi,xj,xk,xl,xm] σ (aq Q):=by
 kd_p
 refine aZ.go 151 λol ah q_ e1 ag=>?_
 kd_in
 refine V.aug (i:=10) (re:=.list (.cons (.tup (.cons (.aF (.val (.ref 614))) (.cons (.cmp .In (.loc 8) (.list (.cons (.str (Str.ofString "a")) (.cons (.str (Str.ofString "i")) .nil)))) .nil))) (.cons (.tup (.cons (.aF (.val (.ref 621))) (.cons (.cmp .Eq (.loc 8) (.str (Str.ofString "s"))) .nil))) (.cons (.tup (.cons (.aF (.val (.ref 628))) (.cons (.cmp .In (.loc 8) (.list (.cons (.str (Str.ofString "a")) (.cons (.str (Str.ofString "s")) .nil)))) .nil))) .nil)))) T (jv (by kernel_rfl)) rfl (by kernel_rfl) ?_
 kd_p
 refine aZ.go 152 λl2 av q_ e2 aj=>?_
 refine Cm.nk (OV.mK (l:= [Str.ofString "a",Str.ofString "i"]) e2 ?_)
 kd_p
 refine aZ.go 152 λl3 aW q_ e3 aC=>?_
 refine Cm.nk (OV.mK (l:= [Str.ofString "a",Str.ofString "s"]) e3 ?_)
 kd_p
 refine aZ.go 153 λl4 bn q_ e4 aM=>?_
 refine rT l4 151 153 _ _ rfl (aM.at (aC.at (aj.at e1))) e4 (aD rfl) (λci e5 bj=>?_)
 kd_in
 refine V.aug (i:=10) (re:=.list (.cons (.tup (.cons (.aF (.val (.ref 635))) (.cons (.cmp .Eq (.loc 9) (.tup (.cons (.str (Str.ofString "a")) (.cons (.aF (.int 0)) .nil)))) .nil))) (.cons (.tup (.cons (.aF (.val (.ref 642))) (.cons (.bool true) .nil))) .nil))) T (jv (by kernel_rfl)) rfl (by kernel_rfl) ?_
 kd_p
 refine Cm.lT (t:=e) (u:=.a 0) hh trivial (by decide) ?_
 kd_p
 refine aZ.go 153 λl5 gJ q_ e6 cJ=>?_
 refine rT l5 151 153 _ _ rfl (cJ.at e5) e6 (aD rfl) (λpt e7 dn=>?_)
 have yA:=((((((w.keep ag).keep aj).keep aC).keep aM).keep bj).keep cJ).keep dn
 exact U1 (ps:=DP t e) T calm yA hN h1 h2 (aD rfl) (U0 T calm h1 he) e7 q
end
end
noncomputable section
open Classical
noncomputable section
variable {c:Cx}{k:Nat}{σ:S}{m:bD}{st:ba}{y:aT}{xs:List aE}{H:Hp}{Tb:ai}{Q:V→S→Prop}{hd cl:Addr}{t u:Tm}{f:Fm}{E:Value→Shared→Prop}{N:Nat}{x0 x1 x2 x5 x7 x8 x9 xa xb xc xd xe xf xg xh xi xj xk xl xm:Option V}
theorem DQ{L fa cd:Addr}{A:Around}{stack:List Env}(T:au c)(calm:c.calm=true)(w:LW σ hd cl m st y xs H Tb N)(hN:N≤10000)(h1:One Tb t)(h2:One Tb u)(q:∀af,Q (.bool true) af):
  vX c ((gN fa cd).fm L A stack) (k+9) (bT 8 dD) E [x0,x1,some (.val (.ref hd)),some (.val (.ref y.o)),some (.val (.ref m.o)),x5,some t.V,some u.V,x8,x9,xa,xb,xc,xd,xe,xf,xg,xh,xi,xj,xk,xl,xm] σ (aq Q):=by
 refine It.kd ?_
 kd_in
 refine V.loop (λ(a:Tm)=> [x0,x1,some (.val (.ref hd)),some (.val (.ref y.o)),some (.val (.ref m.o)),x5,some t.V,some u.V,some (.str (knd t)),some a.V,xa,xb,xc,xd,xe,xf,xg,xh,xi,xj,xk,xl,xm]) Tm.sz
  (λa af=>af=σ∧a.Wf Tb∧a.bF 4∧∀e,gE a e→gE t e) t rfl ⟨rfl,h1.wf,h1.hh,λq_ h=>h⟩ λE' a af j=>?_
 refine fZ j λU3 wf hh ht=>?_
 subst U3
 have out:∀E,(∀l,a≠.s 0 l)→vX c ((gN fa cd).fm L A stack) (k+9) (bT 11 dD) E [x0,x1,some (.val (.ref hd)),some (.val (.ref y.o)),some (.val (.ref m.o)),x5,some t.V,some u.V,some (.str (knd t)),some a.V,xa,xb,xc,xd,xe,xf,xg,xh,xi,xj,xk,xl,xm] af (aq Q):=λE hn=>U2 T calm w hN h1 h2 (ht a (.leaf hn)) hh q
 cases a with
 |s g l=>
  kd_p
  refine Br.yes rfl ?_
  kd_p
  refine Br.dec (λhg=>?_) λhg=>?_
  ·have hg:g=0:=Int.ofNat.inj hg
   subst hg
   refine iw (Tm.bB.mp wf) λq_ h3 q_ q_ h5=>?_
   obtain ⟨p,r,rfl⟩:=sV (P:=λl=>∃p r,l= [p,r]) (h3 rfl) λa b=>⟨a,b,rfl⟩
   have hs:r.sz< (Tm.s 0 [p,r]).sz:=Tm.qM (.tail _ (.head _))
   kd_p
   exact .mk r hs rfl ⟨rfl,h5 r (.tail _ (.head _)),r.lZ ((Tm.dY.mp hh).2 r (.tail _ (.head _))),λe h=>ht e (.step rfl h)⟩
  ·exact out E λl' e=>by (injection e with e zq;subst e;subst zq);exact hg rfl
 |v n=>
  kd_p
  exact Br.no (by decide) (Br.ff (out E λq_ h=>nomatch h))
 |a n=>
  kd_p
  exact Br.no (by decide) (Br.ff (out E λq_ h=>nomatch h))
 |i n=>
  kd_p
  exact Br.no (by decide) (Br.ff (out E λq_ h=>nomatch h))
end
end
noncomputable section
open Classical
noncomputable section
variable {c:Cx}{k:Nat}{σ:S}{m:bD}{st:ba}{y:aT}{xs:List aE}{H:Hp}{Tb:ai}{Q:V→S→Prop}{hd cl:Addr}{t u:Tm}{f:Fm}{E:Value→Shared→Prop}{N:Nat}{x0 x1 x2 x5 x7 x8 x9 xa xb xc xd xe xf xg xh xi xj xk xl xm:Option V}
theorem LW.grown (w:LW σ hd cl m st y xs H Tb N)(g:Gn af hd cl y ay)(e:Tb.Ext ay)(k:Keeps [3,4,5,6,101] σ af):LW af hd cl m st y xs H ay N:=w.next (M:=0) g.H (w.W.tab g.hy g.ok k) w.hx w.hN e
theorem DR{L fa cd:Addr}{A:Around}{stack:List Env}{d:Int}(T:au c)(calm:c.calm=true)(w:LW σ hd cl m st y xs H Tb N)(hN:N≤10000)(h1:One Tb t)(h2:One Tb u)(q:∀af,Q (.bool true) af):
  vX c ((gN fa cd).fm L A stack) (k+9) (bT 7 dD) E [x0,x1,some (.val (.ref hd)),some (.val (.ref y.o)),some (.val (.ref m.o)),some (.int d),some t.V,some u.V,x8,x9,xa,xb,xc,xd,xe,xf,xg,xh,xi,xj,xk,xl,xm] σ (aq Q):=by
 kd_p
 refine Br.dec (λq_=>?_) λq_=>?_
 ·exact DQ T calm w hN h1 h1 q
 ·exact DQ T calm w hN h1 h2 q
theorem U4{L fa cd:Addr}{A:Around}{stack:List Env}(T:au c)(calm:c.calm=true)(w:LW σ hd cl m st y xs H Tb N)(hN:N≤10000)(q:∀af,Q (.bool true) af):
  vX c ((gN fa cd).fm L A stack) (k+9) (bT 4 dD) E [x0,x1,some (.val (.ref hd)),some (.val (.ref y.o)),some (.val (.ref m.o)),x5,x8,x7,x8,x9,xa,xb,xc,xd,xe,xf,xg,xh,xi,xj,xk,xl,xm] σ (aq Q):=by
 kd_in
 refine fW (lim:=3) T w.gn (by decide) (by decide) λd ah q_ q_ rJ ag=>?_
 have bA:=w.draw rJ ag
 kd_in
 refine ub T 2 (k+9) (by exact aD rfl) ah Tb _ bA.gn λt cp av wf vi hh hz U5 kq aj=>?_
 have bV:=bA.grown U5 kq aj
 have jI:t.sz≤29:=hz
 have h1:One cp t:=⟨wf,vi,by exact Nat.le_trans (by assumption) (aD rfl),t.lZ (t.lZ hh)⟩
 kd_p
 refine Br.dec (λq_=>?_) λq_=>?_
 ·kd_in
  refine SD T t 2 (k+9) (by exact aD rfl) av cp _ bV.gn wf vi hh λu Du aW d7 yC eh jl rK rO aC=>?_
  exact DR T calm (bV.grown rK rO aC) hN (h1.ext rO) ⟨d7,yC,by exact M2 [_,_] [] 0xc82110110811002101101d2100110 rfl hz jl,u.lZ eh⟩ q
 ·kd_in
  refine ub T 2 (k+9) (by exact aD rfl) av cp _ bV.gn λu Du aW d7 yC eh jl rK rO aC=>?_
  have Wg:u.sz≤29:=jl
  exact DR T calm (bV.grown rK rO aC) hN (h1.ext rO) ⟨d7,yC,by exact Nat.le_trans (by assumption) (aD rfl),u.lZ (u.lZ eh)⟩ q
theorem U6{L fa cd:Addr}{A:Around}{stack:List Env}{sa:Addr}{l:List Int}(T:au c)(calm:c.calm=true)(hs:RL c σ sa (l.map .int))(hl:l.length≤63)(q:∀af,Q (.bool true) af):
  vX c ((gN fa cd).fm L A stack) (k+9) dD E [some (.val (.ref sa)),none,none,none,none,none,none,none,none,none,none,none,none,none,none,none,none,none,none,none,none,none,none] σ (aq Q):=by
 refine EV.H9 102 (EV.loc .here rfl (EV.int ⟨rfl,sa,l.map .int,rfl,hs,by refine ae (List.length_map ..) ?_;exact hl,λcl jr=>?_⟩))
 have ag:Keeps [] σ (upd σ cl (.list 102 (l.map .int))):=.new jr
 have e1:upd σ cl (.list 102 (l.map .int)) cl=some (.list 102 (l.map .int)):=c5
 generalize upd σ cl (.list 102 (l.map .int))=ah at ag e1 ⊢
 kd_in
 refine CV.sum calm e1 λi=>?_
 have fr:=po (a:=i) (b:=100003) (by decide)
 refine Bi.mod (by decide) (ua (by decide)) ?_
 refine Bi.mul (.of_right (by decide)) ?_
 kd_in
 refine aZ.go 101 λhd av q_ e2 aj=>?_
 have hn:jK av hd cl:=⟨l,0,0,_,e2,aj.at e1,Nat.zero_le _,hl,Int.le_refl _,by lia,by omega⟩
 kd_in
 refine SS (k:=k+4) T calm λy aW h3 aC=>?_
 kd_in
 refine aZ.go 150 λcd bn q_ q_ aM=>?_
 have h4:=h3.keep aM (λt ht=>nomatch ht)
 kd_in
 refine S9 (k:=k+4) T h4 λm st ci M s5 h5 bj=>?_
 have kk:Keeps [2,3,4,5,6,12,22] av ci:=(aC.am rfl).trans ((aM.am rfl).trans (bj.am rfl))
 have w:LW ci hd cl m st y [(5,0)] [] T0 0:=⟨hn.keep kk,⟨M,s5,h5,SQ,Nat.zero_le _⟩,by decide,Nat.le_refl _,by decide +kernel,⟨22,by decide +kernel⟩,by decide +kernel,by decide +kernel⟩
 exact U4 T calm w (by decide) q
end
end
noncomputable section
open Classical
noncomputable section
noncomputable def uq(K:Frag):List Fn→Prop
 | []=>True
 |fn::r=>(K.lookup fn.a=some ⟨.type "function",none,.func fn.fd, #[]⟩∧codeIn K (.ref fn.code) fn.qual=true)∧uq K r
theorem uq.get {K:Frag}(h:uq K l)(fn:Fn)(hm:fn∈l):K.lookup fn.a=some ⟨.type "function",none,.func fn.fd, #[]⟩∧codeIn K (.ref fn.code) fn.qual=true:=by
 induction l with
 |nil=>exact absurd hm List.not_mem_nil
 |cons g r ih=>exact(List.mem_cons.mp hm).elim (λe=>e▸h.1) λhm=>ih h.2 hm
noncomputable def DS(n:String):Value→Bool
 |.type m=>m==n
 |_=>false
theorem U7(h:DS n v=true):v= .type n:=by
 cases v with
 |type m=>exact congrArg _ (eq_of_beq h)
 |_=>exact cj h
noncomputable def DT(v:Value):V→Bool
 |.int i=>Value.isInt i v
 |.str s=>v.isStr s
 |.val w=>v==w
 |_=>false
theorem U8{v:Value}(h:v.isStr s=true):∃t,v= .str s t:=by
 cases v with
 |str x t=>exact⟨t,by exact ae (show x=s from eq_of_beq h) rfl⟩
 |_=>exact cj h
theorem U9(e:DT v r=true):VR h v r:=by
 cases r with
 |int i=>exact(Value.isInt_shape e).elim λt e=>e▸.int ..
 |str s=>exact(U8 e).elim λt e=>e▸.str ..
 |val w=>exact(show v=w from eq_of_beq e)▸.val _
 |_=>exact cj e
noncomputable def rP(K:Frag)(x:Str):Option Value:=match nsIn K mainGlobals x with
 |some (some v)=>some v
 |some none=>bif x=="__name__" then none else bootBuiltins x
 |none=>none
set_option tactic.hygienic true in
theorem DU{c:Cx}(bl:∀x:Str,x≠"__name__"→c.mb x=bootBuiltins x)(e:rP c.K x=some v):c.mg x=some v∨(c.mg x=none∧c.mb x=some v):=by
 unfold rP at e
 split at e
 ·rename_i w h;cases e;exact .inl (mg_of c.eH c.g h)
 ·rename_i h
  cases q:x=="__name__" with
  |true=>rw[q]at e;exact aJ e
  |false=>
   rw[q]at e
   exact .inr ⟨mg_none_of c.eH c.g h,(bl _ (beq_eq_false_iff_ne.mp q)).trans e⟩
 ·exact aJ e
noncomputable def yD(K:Frag)(p:Str×V):Bool:=(rP K p.1).any λv=>DT v p.2
noncomputable def TupAt(K:Frag)(a:Addr)(l:List V):Prop:=∃(items:List Value) (n:Nat),K.lookup a=some ⟨.type "tuple",none,.seq items.toArray n, #[]⟩∧∀h:Heap,aA h items l
noncomputable def DV(es:Array DictEntry):Bool:=es.toList.all λe=>match e.key with
 |.str ..=>true
 |_=>false
theorem U'(h:DV es=true):StrKeys es:=λe he=>by
 have:=List.all_eq_true.mp h e (Array.mem_toList_iff.mpr he)
 cases hk:e.key with
 |str n t=>exact⟨n,t,rfl⟩
 |_=>rw[hk]at this;exact cj this
noncomputable def ur(K:Frag)(N:Addr)(r:Option Value):Bool:=match K.lookup N with
 |some ⟨_,_,.dict es _,_⟩=>DV es&&nsFind es "__init__"==r
 |_=>false
theorem DW{K:Frag}(h:ur K N r=true):∃oN es n,K.lookup N=some oN∧oN.data= .dict es n∧StrKeys es∧nsFind es "__init__"=r:=by
 unfold ur at h
 cases e:K.lookup N with
 |none=>rw[e]at h;exact cj h
 |some o=>
  rw[e]at h
  obtain ⟨a,b,d,s⟩:=o
  cases d with
  |dict es n=>exact ml _ _ _ rfl rfl (U' (Bool.and_eq_true_iff.mp h).1) (eq_of_beq (Bool.and_eq_true_iff.mp h).2)
  |_=>exact cj h
noncomputable def yE(K:Frag)(C:Addr)(n:Str):Bool:=match findIn K (.ref C) n with
 |some a=>noGet K a
 |none=>false
set_option tactic.hygienic true in
theorem Va{K:Frag}{C:Addr}{n:Str}(h:yE K C n=true):∃attr,findIn K (.ref C) n=some attr∧noGet K attr=true:=by
 unfold yE at h
 split at h
 ·rename_i a e;exact⟨a,e,h⟩
 ·exact cj h
noncomputable def yF(K:Frag)(a:Addr):Bool:=match K.lookup a with
 |some o=>DS "function" o.cls
 |none=>false
set_option tactic.hygienic true in
theorem Vb{K:Frag}(h:yF K a=true):∃o,K.lookup a=some o∧o.cls= .type "function":=by
 unfold yF at h
 split at h
 ·rename_i o e;exact⟨o,e,U7 h⟩
 ·exact cj h
structure yG(K:Frag)(C fI:Addr)(n:Str):Prop where
 cls:∃nm q N fJ sn sub ab fK dd k0 k1 k2 k3 k5,K.lookup C=some (excClassObj nm q C N [.ref 31] [.ref 31,.type "Exception",.type "BaseException",.type "object"] fJ sn sub ab fK dd k0 k1 k2 k3 k5 "Exception.__new__")∧ur K N (some (.ref fI))=true
 up:∃c0 dd cd sl,K.lookup 31=some ⟨c0,dd,.cls cd,sl⟩∧ur K cd.ns none=true
 fn:yF K fI=true
 set:findIn K (.ref C) "__setattr__"=some (some (.builtin "object.__setattr__"))
 mro:(clsIn K C).map (·.mro)=some [.ref C,.ref 31,.type "Exception",.type "BaseException",.type "object"]
 ow:takerIn K C n=some none
 dict:hasDictIn K C=true
 get:findIn K (.ref C) "__getattribute__"=some (some (.builtin "BaseException.__getattribute__"))
 hook:findIn K (.ref C) "__getattr__"=some none
 find:yE K C n=true
theorem yG.ok {K:Frag}{C fI:Addr}{n:Str}(h:yG K C fI n){c:Cx}(e:c.K=K):kw c C 31 fI∧qo c C 31 n∧vZ c C 31 [n] n 0:=by
 subst e
 refine bH h.cls λnm q N a1 Vc=>?_
 refine bH Vc λa2 a3 a4 a5 Vd=>?_
 refine bH Vd λa6 a7 a8 a9 Ve=>?_
 refine eE Ve λb1 b2 h1 h2=>?_
 refine bH h.up λc0 dd cd sl Vf=>?_
 refine XA Vf λh3 h4=>?_
 exact⟨⟨⟨nm,q,N,a1,a2,a3,a4,a5,a6,a7,a8,a9,b1,b2,h1,DW h2⟩,⟨c0,dd,cd,sl,h3,DW h4⟩,Vb h.fn⟩,⟨h.set,h.mro,h.ow,h.dict⟩,⟨h.get,h.hook,h.mro,h.dict,Va h.find,rfl,List.nodup_cons.2 ⟨(λh=>by exact dx h),List.nodup_nil⟩⟩⟩
noncomputable def ut:V→Bool
 |.tup _=>true
 |_=>false
noncomputable def uu:List (Str×List V):= [("NIL_CELL", [.int 4,.int 0]),("VOID", [.int 5,.int 0])]
theorem Vg{P:Str→V→Prop}{p:Str×V}(hp:p∈lq)(h:ut p.2=true)(key:∀q∈uu,P q.1 (.tup q.2)):P p.1 p.2:=by
 have e:lq.filter (λp=>ut p.2)=uu.map λq=>(q.1,V.tup q.2):=by rfl
 have hm:p∈lq.filter (λp=>ut p.2):=List.mem_filter.mpr ⟨hp,h⟩
 rw[e]at hm
 refine eU hm λq hq=>?_
 exact key q hq
structure TopK(K:Frag):Prop where
 look:uq K iN
 aF:(lq.all λp=>yD K p||ut p.2)=true
 Vh:∀p∈uu,∃a,rP K p.1=some (.ref a)∧TupAt K a p.2
 keep:(fk.all λa=>keepIn K (.ref a))=true
 cls:∀C∈jt,plainGet K C ""=true∧hasDictIn K C=true∧findIn K (.ref C) "__setattr__"=some (some (.builtin "object.__setattr__"))∧plainOver K C=true∧makesIn K C=true
 attr:∀p∈mU,findIn K (.ref p.1) p.2=some none
 ax:∀p∈oD,findIn K (.ref p.1) p.2.1=some (some (.ref p.2.2))∧typeIn K (.ref p.2.2)=some (.type "function")
 init:∀p∈wd,findIn K (.ref p.1) "__init__"=some (some (.ref p.2))∧typeIn K (.ref p.2)=some (.type "function")
 kB:∀p∈wh,TupAt K p.1 p.2
 exc:∀p∈AF,yG K p.1 p.2.1 p.2.2
theorem TopK.ok {c:Cx}(T:TopK c.K)(bl:∀x:Str,x≠"__name__"→c.mb x=bootBuiltins x):au c where
 look:=T.look.get
 aF p hp:=by
  have key:∀q∈uu,c.pQ q.1 (.tup q.2):=λq hq=>by
   refine ak (T.Vh q hq) λa h1 Vi=>?_
   refine eE Vi λitems n h2 h3=>?_
   exact bx (.ref a) (.tup ⟨_,c.eH _ _ h2,rfl,n,rfl⟩ (h3 _)) (DU bl h1)
  have e:=List.all_eq_true.mp T.aF p hp
  cases hg:yD c.K p with
  |true=>
   unfold yD at hg
   cases hv:rP c.K p.1 with
   |none=>rw[hv]at hg;exact cj hg
   |some v=>
    rw[hv]at hg
    exact⟨v,U9 hg,DU bl hv⟩
  |false=>
   exact Vg hp (by rw[hg]at e;exact e) key
 keep a ha:=List.all_eq_true.mp T.keep a ha
 cls:=T.cls
 attr:=T.attr
 ax:=T.ax
 init:=T.init
 kB:=T.kB
 exc p hp:=(T.exc p hp).ok rfl
theorem Vj{aw:Shared}{K:Frag}{vs:List Value}{is:List Int}{tk:Nat}
  (KX:K.In aw.heap) (KT:TopK K) (g:aw.heap.Ns mainGlobals mg) (b:aw.heap.Ns builtinsNs mb) (nl:aw.heap.NoLimit) (bl:∀x:Str,x≠"__name__"→mb x=bootBuiltins x)
  (F:Fr aw.heap aw.heap.objs.size aP (λx=>List.lookup x [("script",.ref sa)])) (hL:aw.heap.IsList sa vs.toArray) (hI:IntsAre vs is) (ch:is.length≤63)
  (hQ:∀(s':Shared) (m':Str→Option Value),Fr aw.heap aw.heap.objs.size s'.heap m'→s'.gens=aw.gens→s'.os=aw.os→Qf (.ret (.bool true)) s'):
  wpAny (model prog w) (callerA.deeper (callEnvC (gN fa cd).fd aw.heap.objs.size fa)) (execs kA.body (callEnvC (gN fa cd).fd aw.heap.objs.size fa)) Qf E {heap:=aP,gens:=aw.gens,drawn:=aw.drawn,toks:=tk,os:=aw.os}:=by
 let c:Cx:=⟨true,(0,0,0),prog,w,K,aw.heap,mg,mb,KX,g,b,nl⟩
 have T:au c:=TopK.ok (c:=c) KT bl
 have fo:=(T.ok (wi Bx.s.1)).1
 have tX:∀b o,aw.heap.get? b=some o→b≠aw.heap.objs.size:=λb o e q=>absurd (Heap.lt_size e) (by exact ae q (Nat.lt_irrefl _))
 have sK:aw.heap.get? aw.heap.objs.size=none:=by
  cases q:aw.heap.get? aw.heap.objs.size with
  |none=>rfl
  |some o=>exact absurd rfl (tX _ o q)
 have Vk:(kA.N.all λx=>kA.scope.names.lookup x==some .local)=true:=by kernel_rfl
 have st:St c (λq_=>none) aP:=⟨F.keep,λa o e=>(by exact aJ e),λa o e=>(by exact aJ e)⟩
 have I:In c ((gN fa cd).fm aw.heap.objs.size callerA []) (9+9) [some (.val (.ref sa)),none,none,none,none,none,none,none,none,none,none,none,none,none,none,none,none,none,none,none,none,none,none] (λq_=>none) aP:=by
  refine⟨st,⟨fo.kind,rfl,rfl,fo.nodup,?_,λx hx=>⟨?_,(fo.loc x hx).2⟩,fo.aF⟩,(bx _ F.ns (λi x r h1 h2=>?_)),λp hp=>?_,λb hb=>?_,⟨rfl,?_,λenv he b hb=>rfl,λenv he b hb=>?_⟩,⟨by show (callerA.depth+1)+4* (9+9)+10<recursionLimit;decide +kernel,by show (callerA.units+3)+16* (9+9)+300<cLine;decide +kernel⟩,⟨λq_=>rfl,.inl rfl⟩⟩
  ·exact List.nodup_cons.mpr ⟨λh=>(by exact dx h),List.nodup_nil⟩
  ·have:=List.all_eq_true.mp Vk x hx
   exact .inl (eq_of_beq this)
  ·cases i with
   |zero=>
    (injection h2 with h2;injection h2 with h2;subst h2)
    (injection h1 with h1;subst h1)
    exact⟨_,.val _,.inl ⟨rfl,rfl⟩⟩
   |succ i=>
    exfalso
    rw[List.getElem?_cons_succ]at h2
    have:=List.mem_of_getElem? h2
    simp at this
  ·exact dx hp
  ·refine bO hb ?_ λhb=>?_
   ·exact⟨rfl,sK⟩
   ·exact dx hb
  ·exact Heap.FunFrames.cons (by intro q;contradiction) rfl F.ns sK trivial
  ·rcases List.mem_cons.mp he with rfl|he
   ·(injection hb with hb;subst hb);exact rY F.ns
   ·exact dx he
 have Vl:RL c (λq_=>none) sa (is.map .int):=λh st=>by
  refine ak hL λo h1 h2=>?_
  refine⟨vs.toArray,(bx o (st.base _ _ h1) h2),?_⟩
  have key:∀{vs:List Value}{is:List Int},IntsAre vs is→aA h vs (is.map .int):=λ{vs is} hi=>by
   induction hi with
   |nil=>exact .nil
   |cons i t _ ih=>exact .cons (.int ..) ih
  exact key hI
 have hx:=oJ (sS T rfl I.ok 9) _ Bx.e (U6 (k:=9) (E:=E) (Q:=λr q_=>r= .bool true) (L:=aw.heap.objs.size) (fa:=fa) (cd:=cd) (A:=callerA) (stack:= []) T rfl Vl ch λq_=>rfl) {heap:=aP,gens:=aw.gens,drawn:=aw.drawn,toks:=tk,os:=aw.os} I
 refine wpAny_mono hx (λfl s' z=>?_) λq_ q_ z=>z
 refine z.el λr ρ' af I' fr kp q=>?_
 cases fr with
 |next=>refine ak q λq_ q_ q=>?_;contradiction
 |brk=>exact q.elim
 |cont=>exact q.elim
 |ret hv=>
  refine ak q λq_ q_ Vm=>?_
  subst Vm
  refine hv.eB ?_
  refine ak I'.loc λm' fH q_=>?_
  exact hQ s' m' ⟨fH,I'.st.base,Nat.le_refl _⟩ kp.gens kp.os
theorem Vn{aw:Shared}{K:Frag}{vs:List Value}{is:List Int}{tk:Nat}
  (hE:envOf nm sc aw.heap.objs.size fa (.ref cd)=callEnvC (gN fa cd).fd aw.heap.objs.size fa) (hb:body=kA.body)
  (KX:K.In aw.heap) (KT:TopK K) (g:aw.heap.Ns mainGlobals mg) (b:aw.heap.Ns builtinsNs mb) (nl:aw.heap.NoLimit) (bl:∀x:Str,x≠"__name__"→mb x=bootBuiltins x)
  (F:Fr aw.heap aw.heap.objs.size aP (λx=>List.lookup x [("script",.ref sa)])) (hL:aw.heap.IsList sa vs.toArray) (hI:IntsAre vs is) (ch:is.length≤63)
  (hQ:∀(s':Shared) (m':Str→Option Value),Fr aw.heap aw.heap.objs.size s'.heap m'→s'.gens=aw.gens→s'.os=aw.os→Qf (.ret (.bool true)) s'):
  wpAny (model prog w) (callerA.deeper (envOf nm sc aw.heap.objs.size fa (.ref cd))) (execs body (envOf nm sc aw.heap.objs.size fa (.ref cd))) Qf E {heap:=aP,gens:=aw.gens,drawn:=aw.drawn,toks:=tk,os:=aw.os}:=by
 refine ae hE (ae hb ?_)
 exact Vj KX KT g b nl bl F hL hI ch hQ
end
end
end Mine
set_option maxRecDepth 100000 in
set_option maxHeartbeats 8000000 in
set_option Elab.async true in
set_option tactic.hygienic true in
theorem Mine.hold:PySem.Challenge.rw_no0197_01.Holds:=by
 w_on;o_law;k_head;(case hw=>w_witness2);w_strict (
  k_go0
  refine Mine.Vn (by kernel_rfl) (by kernel_rfl) (by assumption) ?kt (Top.g (by assumption)) (Top.b (by assumption)) (Top.nolimit (by assumption)) (Top.builtins (by assumption)) (by first|assumption|exact ‹Fr _ _ _ _›) (by assumption) (by assumption) (by omega) ?hq
  case kt=>
   refine⟨?_,by kernel_rfl,?_,by kernel_rfl,?_,?_,?_,?_,?_,?_⟩
   ·repeat (first|exact True.intro|refine⟨⟨by kernel_rfl,by kernel_rfl⟩,?_⟩)
   ·exact List.forall_mem_cons.2 ⟨⟨_,rfl,_,_,rfl,λ_=>.cons (.int ..) (.cons (.int ..) .nil)⟩,List.forall_mem_cons.2 ⟨⟨_,rfl,_,_,rfl,λ_=>.cons (.int ..) (.cons (.int ..) .nil)⟩,List.forall_mem_nil _⟩⟩
   ·repeat (first|exact List.forall_mem_nil _|refine List.forall_mem_cons.2 ⟨⟨by kernel_rfl,by kernel_rfl,by kernel_rfl,by kernel_rfl,by kernel_rfl⟩,?_⟩)
   ·repeat (first|exact List.forall_mem_nil _|refine List.forall_mem_cons.2 ⟨by kernel_rfl,?_⟩)
   ·repeat (first|exact List.forall_mem_nil _|refine List.forall_mem_cons.2 ⟨⟨by kernel_rfl,by kernel_rfl⟩,?_⟩)
   ·repeat (first|exact List.forall_mem_nil _|refine List.forall_mem_cons.2 ⟨⟨by kernel_rfl,by kernel_rfl⟩,?_⟩)
   ·exact List.forall_mem_cons.2 ⟨⟨_,_,rfl,λ_=>.cons (.int ..) .nil⟩,List.forall_mem_cons.2 ⟨⟨_,_,rfl,λ_=>.cons (.int ..) .nil⟩,List.forall_mem_cons.2 ⟨⟨_,_,rfl,λ_=>.cons (.int ..) (.cons (.bool ..) (.cons (.int ..) .nil))⟩,List.forall_mem_nil _⟩⟩⟩
   ·refine List.forall_mem_cons.2 ⟨⟨⟨_,_,_,_,_,_,_,_,_,_,_,_,_,_,rfl,by kernel_rfl⟩,⟨_,_,_,_,rfl,by kernel_rfl⟩,by kernel_rfl,by kernel_rfl,by kernel_rfl,by kernel_rfl,by kernel_rfl,by kernel_rfl,by kernel_rfl,by kernel_rfl⟩,List.forall_mem_cons.2 ⟨⟨⟨_,_,_,_,_,_,_,_,_,_,_,_,_,_,rfl,by kernel_rfl⟩,⟨_,_,_,_,rfl,by kernel_rfl⟩,by kernel_rfl,by kernel_rfl,by kernel_rfl,by kernel_rfl,by kernel_rfl,by kernel_rfl,by kernel_rfl,by kernel_rfl⟩,List.forall_mem_nil _⟩⟩
  case hq=>
   intro s' m' F' Vo Vp
   refine goodW_bool F' (Vo.trans (by assumption)) (raisesW_false ?_) ?_ Vp
   ·wrow_none_raised
   ·kc_post)
theorem PySem.Challenge.cw_no0197_01_holds : PySem.Challenge.rw_no0197_01.Holds :=
 Mine.hold
