import PyProof.Rows.All
import Wide.All
import OpenK.AllK
import Wide.FinOn
import Lean
import PySem.Challenge.RW_xw0233_01
open PySem PySem.W PySem.Calls PyProof.Rows PySem.Spec
set_option Elab.async false
set_option maxRecDepth 100000
set_option linter.all false
set_option genInjectivity false
set_option genSizeOf false
namespace Mine
noncomputable abbrev Ei:List Nat:=[0,1,2,3,4,5]
noncomputable abbrev jh:List Nat:=[0,1,2,3,4,5,6]
noncomputable abbrev HK:List Nat:=[0,1,2,3,4,5,6,7]
noncomputable abbrev dR:List Nat:=[0,1,2,3,4,5,6,7,8,9,10,11,12,13,14]
noncomputable abbrev o8:List Nat:=[0,1,2,3,4,5,6,7,8,9,10,11,12,13,14,15,16,17]
noncomputable abbrev o9:List Nat:=[0,1,2,3,4,5,6,7,8,9,10,11,12,13,14,15,16,17,18]
def aA:=@Int.toNat_of_nonneg
def aG:=@Nat.sub_add_cancel
def aS:=@List.mem_cons_self
def bf:=@Option.some.inj
def bo:=@Nat.le_antisymm
def aO:=@wpAny_bind
def bR:=@List.length_append
def aX:=@Nat.le_trans
def cY:=@Nat.eq_of_beq_eq_true
def cO:=@List.mem_cons_of_mem
def bC:=@List.append_assoc
def cn:=@List.getElem?_eq_getElem
def bZ:=@Nat.le_of_ble_eq_true
def av:=@congrArg
def cb:=@List.mem_append_right
def cW:=@List.getD_eq_getElem?_getD
def bK:=@List.length_map
def bD:=@List.mem_cons
def bc:=@wpAny_pure
def cz:=@Bool.false_ne_true
def dX:=@List.getElem?_eq_some_iff
def cA:=@PySem.bm_if_false
def aB:=@if_pos
def bO:=@List.mem_map
def bF:=@Nat.le_refl
def cB:=@List.length_cons
def cq:=@Nat.min_eq_left
def cu:=@List.nodup_cons
def c7:=@Int.natCast_nonneg
def aH:=@if_neg
def c9:=@List.mem_singleton
def bL:=@wpAny_of_eq
def cX:=@of_decide_eq_true
def cC:=@List.mem_append
abbrev dB:=Value→Shared→Prop
abbrev aD:=List UInt8
set_option maxHeartbeats 200000
theorem tt:true=true:=rfl
theorem ff:false=false:=rfl
theorem nS{α:Type _}{a:α}{G:Prop}(h:none=some a):G:=by cases h
theorem sN{α:Type _}{a:α}{G:Prop}(h:some a=none):G:=by cases h
theorem tF{G:Prop}(h:true=false):G:=by cases h
theorem fT{G:Prop}(h:false=true):G:=by cases h
theorem fz{A0 A1:Prop}{G:Prop}(h:A0∧A1)(k:A0→A1→G):G:=k h.1 h.2
theorem fc{A0 A1 A2:Prop}{G:Prop}(h:A0∧A1∧A2)(k:A0→A1→A2→G):G:=k h.1 h.2.1 h.2.2
theorem oO{A0 A1 A2 A3:Prop}{G:Prop}(h:A0∧A1∧A2∧A3)(k:A0→A1→A2→A3→G):G:=k h.1 h.2.1 h.2.2.1 h.2.2.2
theorem BP{A0 A1 A2 A3 A4:Prop}{G:Prop}(h:A0∧A1∧A2∧A3∧A4)(k:A0→A1→A2→A3→A4→G):G:=k h.1 h.2.1 h.2.2.1 h.2.2.2.1 h.2.2.2.2
theorem rU{A0 A1 A2 A3 A4 A5:Prop}{G:Prop}(h:A0∧A1∧A2∧A3∧A4∧A5)(k:A0→A1→A2→A3→A4→A5→G):G:=k h.1 h.2.1 h.2.2.1 h.2.2.2.1 h.2.2.2.2.1 h.2.2.2.2.2
theorem BQ{A0 A1 A2 A3 A4 A5 A6:Prop}{G:Prop}(h:A0∧A1∧A2∧A3∧A4∧A5∧A6)(k:A0→A1→A2→A3→A4→A5→A6→G):G:=k h.1 h.2.1 h.2.2.1 h.2.2.2.1 h.2.2.2.2.1 h.2.2.2.2.2.1 h.2.2.2.2.2.2
theorem Ej{A0 A1 A2 A3 A4 A5 A6 A7:Prop}{G:Prop}(h:A0∧A1∧A2∧A3∧A4∧A5∧A6∧A7)(k:A0→A1→A2→A3→A4→A5→A6→A7→G):G:=k h.1 h.2.1 h.2.2.1 h.2.2.2.1 h.2.2.2.2.1 h.2.2.2.2.2.1 h.2.2.2.2.2.2.1 h.2.2.2.2.2.2.2
theorem j4{α β:Sort _}{A0:Prop}{A1 A2 A3 A4 A5:α→β→Prop}{G:Prop}(h:A0∧∃x0,∃x1,A1 x0 x1∧A2 x0 x1∧A3 x0 x1∧A4 x0 x1∧A5 x0 x1)(k:A0→∀x0,∀x1,A1 x0 x1→A2 x0 x1→A3 x0 x1→A4 x0 x1→A5 x0 x1→G):G:=h.2.elim fun x0 h1=>h1.elim fun x1 h2=>k h.1 x0 x1 h2.1 h2.2.1 h2.2.2.1 h2.2.2.2.1 h2.2.2.2.2
theorem f9{α:Sort _}{A0:Prop}{A1:α→Prop}{G:Prop}(h:A0∧∃x0,A1 x0)(k:A0→∀x0,A1 x0→G):G:=h.2.elim fun x0 h1=>k h.1 x0 h1
theorem gO{α:Sort _}{A0:Prop}{A1 A2:α→Prop}{G:Prop}(h:A0∧∃x0,A1 x0∧A2 x0)(k:A0→∀x0,A1 x0→A2 x0→G):G:=h.2.elim fun x0 h1=>k h.1 x0 h1.1 h1.2
theorem yJ{α β:Sort _}{A0:α→β→Prop}{G:Prop}(h:∃x0,∃x1,A0 x0 x1)(k:∀x0,∀x1,A0 x0 x1→G):G:=h.elim fun x0 h1=>h1.elim fun x1 h2=>k x0 x1 h2
theorem cS{α β:Sort _}{A0 A1:α→β→Prop}{G:Prop}(h:∃x0,∃x1,A0 x0 x1∧A1 x0 x1)(k:∀x0,∀x1,A0 x0 x1→A1 x0 x1→G):G:=h.elim fun x0 h1=>h1.elim fun x1 h2=>k x0 x1 h2.1 h2.2
theorem ao{α β:Sort _}{A0 A1 A2:α→β→Prop}{G:Prop}(h:∃x0,∃x1,A0 x0 x1∧A1 x0 x1∧A2 x0 x1)(k:∀x0,∀x1,A0 x0 x1→A1 x0 x1→A2 x0 x1→G):G:=h.elim fun x0 h1=>h1.elim fun x1 h2=>k x0 x1 h2.1 h2.2.1 h2.2.2
theorem bV{α β:Sort _}{A0 A1 A2 A3:α→β→Prop}{G:Prop}(h:∃x0,∃x1,A0 x0 x1∧A1 x0 x1∧A2 x0 x1∧A3 x0 x1)(k:∀x0,∀x1,A0 x0 x1→A1 x0 x1→A2 x0 x1→A3 x0 x1→G):G:=h.elim fun x0 h1=>h1.elim fun x1 h2=>k x0 x1 h2.1 h2.2.1 h2.2.2.1 h2.2.2.2
theorem jE{α β:Sort _}{A0 A1 A2 A3 A4 A5:α→β→Prop}{G:Prop}(h:∃x0,∃x1,A0 x0 x1∧A1 x0 x1∧A2 x0 x1∧A3 x0 x1∧A4 x0 x1∧A5 x0 x1)(k:∀x0,∀x1,A0 x0 x1→A1 x0 x1→A2 x0 x1→A3 x0 x1→A4 x0 x1→A5 x0 x1→G):G:=h.elim fun x0 h1=>h1.elim fun x1 h2=>k x0 x1 h2.1 h2.2.1 h2.2.2.1 h2.2.2.2.1 h2.2.2.2.2.1 h2.2.2.2.2.2
theorem bp{α β γ:Sort _}{A0:α→β→γ→Prop}{G:Prop}(h:∃x0,∃x1,∃x2,A0 x0 x1 x2)(k:∀x0,∀x1,∀x2,A0 x0 x1 x2→G):G:=h.elim fun x0 h1=>h1.elim fun x1 h2=>h2.elim fun x2 h3=>k x0 x1 x2 h3
theorem de{α β γ:Sort _}{A0 A1:α→β→γ→Prop}{G:Prop}(h:∃x0,∃x1,∃x2,A0 x0 x1 x2∧A1 x0 x1 x2)(k:∀x0,∀x1,∀x2,A0 x0 x1 x2→A1 x0 x1 x2→G):G:=h.elim fun x0 h1=>h1.elim fun x1 h2=>h2.elim fun x2 h3=>k x0 x1 x2 h3.1 h3.2
theorem bS{α β γ:Sort _}{A0 A1 A2:α→β→γ→Prop}{G:Prop}(h:∃x0,∃x1,∃x2,A0 x0 x1 x2∧A1 x0 x1 x2∧A2 x0 x1 x2)(k:∀x0,∀x1,∀x2,A0 x0 x1 x2→A1 x0 x1 x2→A2 x0 x1 x2→G):G:=h.elim fun x0 h1=>h1.elim fun x1 h2=>h2.elim fun x2 h3=>k x0 x1 x2 h3.1 h3.2.1 h3.2.2
theorem br{α β γ:Sort _}{A0 A1 A2 A3:α→β→γ→Prop}{G:Prop}(h:∃x0,∃x1,∃x2,A0 x0 x1 x2∧A1 x0 x1 x2∧A2 x0 x1 x2∧A3 x0 x1 x2)(k:∀x0,∀x1,∀x2,A0 x0 x1 x2→A1 x0 x1 x2→A2 x0 x1 x2→A3 x0 x1 x2→G):G:=h.elim fun x0 h1=>h1.elim fun x1 h2=>h2.elim fun x2 h3=>k x0 x1 x2 h3.1 h3.2.1 h3.2.2.1 h3.2.2.2
theorem fN{α β γ δ:Sort _}{A0:α→β→γ→δ→Prop}{G:Prop}(h:∃x0,∃x1,∃x2,∃x3,A0 x0 x1 x2 x3)(k:∀x0,∀x1,∀x2,∀x3,A0 x0 x1 x2 x3→G):G:=h.elim fun x0 h1=>h1.elim fun x1 h2=>h2.elim fun x2 h3=>h3.elim fun x3 h4=>k x0 x1 x2 x3 h4
theorem gP{α β γ δ:Sort _}{A0 A1 A2 A3:α→β→γ→δ→Prop}{G:Prop}(h:∃x0,∃x1,∃x2,∃x3,A0 x0 x1 x2 x3∧A1 x0 x1 x2 x3∧A2 x0 x1 x2 x3∧A3 x0 x1 x2 x3)(k:∀x0,∀x1,∀x2,∀x3,A0 x0 x1 x2 x3→A1 x0 x1 x2 x3→A2 x0 x1 x2 x3→A3 x0 x1 x2 x3→G):G:=h.elim fun x0 h1=>h1.elim fun x1 h2=>h2.elim fun x2 h3=>h3.elim fun x3 h4=>k x0 x1 x2 x3 h4.1 h4.2.1 h4.2.2.1 h4.2.2.2
theorem m3{α β γ δ:Sort _}{A0 A1 A2 A3 A4:α→β→γ→δ→Prop}{G:Prop}(h:∃x0,∃x1,∃x2,∃x3,A0 x0 x1 x2 x3∧A1 x0 x1 x2 x3∧A2 x0 x1 x2 x3∧A3 x0 x1 x2 x3∧A4 x0 x1 x2 x3)(k:∀x0,∀x1,∀x2,∀x3,A0 x0 x1 x2 x3→A1 x0 x1 x2 x3→A2 x0 x1 x2 x3→A3 x0 x1 x2 x3→A4 x0 x1 x2 x3→G):G:=h.elim fun x0 h1=>h1.elim fun x1 h2=>h2.elim fun x2 h3=>h3.elim fun x3 h4=>k x0 x1 x2 x3 h4.1 h4.2.1 h4.2.2.1 h4.2.2.2.1 h4.2.2.2.2
theorem bg{α:Sort _}{A0:α→Prop}{G:Prop}(h:∃x0,A0 x0)(k:∀x0,A0 x0→G):G:=h.elim fun x0 h1=>k x0 h1
theorem aa{α:Sort _}{A0 A1:α→Prop}{G:Prop}(h:∃x0,A0 x0∧A1 x0)(k:∀x0,A0 x0→A1 x0→G):G:=h.elim fun x0 h1=>k x0 h1.1 h1.2
theorem cg{α:Sort _}{A0 A1 A2:α→Prop}{G:Prop}(h:∃x0,A0 x0∧A1 x0∧A2 x0)(k:∀x0,A0 x0→A1 x0→A2 x0→G):G:=h.elim fun x0 h1=>k x0 h1.1 h1.2.1 h1.2.2
theorem vF{α:Sort _}{A0 A1 A2 A3:α→Prop}{G:Prop}(h:∃x0,A0 x0∧A1 x0∧A2 x0∧A3 x0)(k:∀x0,A0 x0→A1 x0→A2 x0→A3 x0→G):G:=h.elim fun x0 h1=>k x0 h1.1 h1.2.1 h1.2.2.1 h1.2.2.2
theorem iy{α:Sort _}{A0 A1 A2 A3 A4:α→Prop}{G:Prop}(h:∃x0,A0 x0∧A1 x0∧A2 x0∧A3 x0∧A4 x0)(k:∀x0,A0 x0→A1 x0→A2 x0→A3 x0→A4 x0→G):G:=h.elim fun x0 h1=>k x0 h1.1 h1.2.1 h1.2.2.1 h1.2.2.2.1 h1.2.2.2.2
theorem vG(h0:A0)(h1:A1)(h2:A2)(h3:A3)(h4:A4)(h5:A5)(h6:A6)(h7:A7)(h8:A8)(h9:A9):A0∧A1∧A2∧A3∧A4∧A5∧A6∧A7∧A8∧A9:=⟨h0,h1,h2,h3,h4,h5,h6,h7,h8,h9⟩
theorem HL(h0:A0)(h1:A1)(h2:A2)(h3:A3)(h4:A4)(h5:A5)(h6:A6)(h7:A7)(h8:A8)(h9:A9)(LD:Ov)(Ow:Ox)(Oy:Oz):A0∧A1∧A2∧A3∧A4∧A5∧A6∧A7∧A8∧A9∧Ov∧Ox∧Oz:=⟨h0,h1,h2,h3,h4,h5,h6,h7,h8,h9,LD,Ow,Oy⟩
theorem qo(h0:A0)(h1:A1):A0∧A1:=⟨h0,h1⟩
theorem iT{α:Sort _}{A2 A3 A4 A5:α→Prop}(h0:A0)(h1:A1)(x0:α)(h2:A2 x0)(h3:A3 x0)(h4:A4 x0)(h5:A5 x0):A0∧A1∧∃x0,A2 x0∧A3 x0∧A4 x0∧A5 x0:=⟨h0,h1,x0,h2,h3,h4,h5⟩
theorem aN(h0:A0)(h1:A1)(h2:A2):A0∧A1∧A2:=⟨h0,h1,h2⟩
theorem cZ(h0:A0)(h1:A1)(h2:A2)(h3:A3):A0∧A1∧A2∧A3:=⟨h0,h1,h2,h3⟩
theorem ji(h0:A0)(h1:A1)(h2:A2)(h3:A3)(h4:A4):A0∧A1∧A2∧A3∧A4:=⟨h0,h1,h2,h3,h4⟩
theorem jj(h0:A0)(h1:A1)(h2:A2)(h3:A3)(h4:A4)(h5:A5):A0∧A1∧A2∧A3∧A4∧A5:=⟨h0,h1,h2,h3,h4,h5⟩
theorem j5{α:Sort _}{A6 A7 A8 A9:α→Prop}(h0:A0)(h1:A1)(h2:A2)(h3:A3)(h4:A4)(h5:A5)(x0:α)(h6:A6 x0)(h7:A7 x0)(h8:A8 x0)(h9:A9 x0):A0∧A1∧A2∧A3∧A4∧A5∧∃x0,A6 x0∧A7 x0∧A8 x0∧A9 x0:=⟨h0,h1,h2,h3,h4,h5,x0,h6,h7,h8,h9⟩
theorem Ek(h0:A0)(h1:A1)(h2:A2)(h3:A3)(h4:A4)(h5:A5)(h6:A6):A0∧A1∧A2∧A3∧A4∧A5∧A6:=⟨h0,h1,h2,h3,h4,h5,h6⟩
theorem yK(h0:A0)(h1:A1)(h2:A2)(h3:A3)(h4:A4)(h5:A5)(h6:A6)(h7:A7):A0∧A1∧A2∧A3∧A4∧A5∧A6∧A7:=⟨h0,h1,h2,h3,h4,h5,h6,h7⟩
theorem vH{α β:Sort _}{A1 A2:α→β→Prop}(h0:A0)(x0:α)(x1:β)(h1:A1 x0 x1)(h2:A2 x0 x1):A0∧∃x0,∃x1,A1 x0 x1∧A2 x0 x1:=⟨h0,x0,x1,h1,h2⟩
theorem j6{α β:Sort _}{A1 A2 A3:α→β→Prop}(h0:A0)(x0:α)(x1:β)(h1:A1 x0 x1)(h2:A2 x0 x1)(h3:A3 x0 x1):A0∧∃x0,∃x1,A1 x0 x1∧A2 x0 x1∧A3 x0 x1:=⟨h0,x0,x1,h1,h2,h3⟩
theorem j7{α β γ:Sort _}{A1 A2:α→β→γ→Prop}(h0:A0)(x0:α)(x1:β)(x2:γ)(h1:A1 x0 x1 x2)(h2:A2 x0 x1 x2):A0∧∃x0,∃x1,∃x2,A1 x0 x1 x2∧A2 x0 x1 x2:=⟨h0,x0,x1,x2,h1,h2⟩
theorem j8{α β γ δ ε:Sort _}{A1 A2:α→β→γ→δ→ε→Prop}(h0:A0)(x0:α)(x1:β)(x2:γ)(x3:δ)(x4:ε)(h1:A1 x0 x1 x2 x3 x4)(h2:A2 x0 x1 x2 x3 x4):A0∧∃x0,∃x1,∃x2,∃x3,∃x4,A1 x0 x1 x2 x3 x4∧A2 x0 x1 x2 x3 x4:=⟨h0,x0,x1,x2,x3,x4,h1,h2⟩
theorem et{α:Sort _}{A1:α→Prop}(h0:A0)(x0:α)(h1:A1 x0):A0∧∃x0,A1 x0:=⟨h0,x0,h1⟩
theorem d7{α:Sort _}{A1 A2:α→Prop}(h0:A0)(x0:α)(h1:A1 x0)(h2:A2 x0):A0∧∃x0,A1 x0∧A2 x0:=⟨h0,x0,h1,h2⟩
theorem yL{α:Sort _}{A1 A2 A3 A4:α→Prop}(h0:A0)(x0:α)(h1:A1 x0)(h2:A2 x0)(h3:A3 x0)(h4:A4 x0):A0∧∃x0,A1 x0∧A2 x0∧A3 x0∧A4 x0:=⟨h0,x0,h1,h2,h3,h4⟩
theorem vI{α β:Sort _}{A0:α→β→Prop}(x0:α)(x1:β)(h0:A0 x0 x1):∃x0,∃x1,A0 x0 x1:=⟨x0,x1,h0⟩
theorem cL{α β:Sort _}{A0 A1:α→β→Prop}(x0:α)(x1:β)(h0:A0 x0 x1)(h1:A1 x0 x1):∃x0,∃x1,A0 x0 x1∧A1 x0 x1:=⟨x0,x1,h0,h1⟩
theorem aJ{α β:Sort _}{A0 A1 A2:α→β→Prop}(x0:α)(x1:β)(h0:A0 x0 x1)(h1:A1 x0 x1)(h2:A2 x0 x1):∃x0,∃x1,A0 x0 x1∧A1 x0 x1∧A2 x0 x1:=⟨x0,x1,h0,h1,h2⟩
theorem gm{α β:Sort _}{A0 A1 A2 A3:α→β→Prop}(x0:α)(x1:β)(h0:A0 x0 x1)(h1:A1 x0 x1)(h2:A2 x0 x1)(h3:A3 x0 x1):∃x0,∃x1,A0 x0 x1∧A1 x0 x1∧A2 x0 x1∧A3 x0 x1:=⟨x0,x1,h0,h1,h2,h3⟩
theorem fk{α β:Sort _}{A0 A1 A2 A3 A4 A5:α→β→Prop}(x0:α)(x1:β)(h0:A0 x0 x1)(h1:A1 x0 x1)(h2:A2 x0 x1)(h3:A3 x0 x1)(h4:A4 x0 x1)(h5:A5 x0 x1):∃x0,∃x1,A0 x0 x1∧A1 x0 x1∧A2 x0 x1∧A3 x0 x1∧A4 x0 x1∧A5 x0 x1:=⟨x0,x1,h0,h1,h2,h3,h4,h5⟩
theorem vJ{α β γ:Sort _}{A0:α→β→γ→Prop}(x0:α)(x1:β)(x2:γ)(h0:A0 x0 x1 x2):∃x0,∃x1,∃x2,A0 x0 x1 x2:=⟨x0,x1,x2,h0⟩
theorem dF{α β γ:Sort _}{A0 A1:α→β→γ→Prop}(x0:α)(x1:β)(x2:γ)(h0:A0 x0 x1 x2)(h1:A1 x0 x1 x2):∃x0,∃x1,∃x2,A0 x0 x1 x2∧A1 x0 x1 x2:=⟨x0,x1,x2,h0,h1⟩
theorem bz{α β γ:Sort _}{A0 A1 A2:α→β→γ→Prop}(x0:α)(x1:β)(x2:γ)(h0:A0 x0 x1 x2)(h1:A1 x0 x1 x2)(h2:A2 x0 x1 x2):∃x0,∃x1,∃x2,A0 x0 x1 x2∧A1 x0 x1 x2∧A2 x0 x1 x2:=⟨x0,x1,x2,h0,h1,h2⟩
theorem aR{α β γ:Sort _}{A0 A1 A2 A3:α→β→γ→Prop}(x0:α)(x1:β)(x2:γ)(h0:A0 x0 x1 x2)(h1:A1 x0 x1 x2)(h2:A2 x0 x1 x2)(h3:A3 x0 x1 x2):∃x0,∃x1,∃x2,A0 x0 x1 x2∧A1 x0 x1 x2∧A2 x0 x1 x2∧A3 x0 x1 x2:=⟨x0,x1,x2,h0,h1,h2,h3⟩
theorem b9{α β γ δ:Sort _}{A0:α→β→γ→δ→Prop}(x0:α)(x1:β)(x2:γ)(x3:δ)(h0:A0 x0 x1 x2 x3):∃x0,∃x1,∃x2,∃x3,A0 x0 x1 x2 x3:=⟨x0,x1,x2,x3,h0⟩
theorem jF{α β γ δ:Sort _}{A0 A1 A2:α→β→γ→δ→Prop}(x0:α)(x1:β)(x2:γ)(x3:δ)(h0:A0 x0 x1 x2 x3)(h1:A1 x0 x1 x2 x3)(h2:A2 x0 x1 x2 x3):∃x0,∃x1,∃x2,∃x3,A0 x0 x1 x2 x3∧A1 x0 x1 x2 x3∧A2 x0 x1 x2 x3:=⟨x0,x1,x2,x3,h0,h1,h2⟩
theorem aY{α β γ δ:Sort _}{A0 A1 A2 A3:α→β→γ→δ→Prop}(x0:α)(x1:β)(x2:γ)(x3:δ)(h0:A0 x0 x1 x2 x3)(h1:A1 x0 x1 x2 x3)(h2:A2 x0 x1 x2 x3)(h3:A3 x0 x1 x2 x3):∃x0,∃x1,∃x2,∃x3,A0 x0 x1 x2 x3∧A1 x0 x1 x2 x3∧A2 x0 x1 x2 x3∧A3 x0 x1 x2 x3:=⟨x0,x1,x2,x3,h0,h1,h2,h3⟩
theorem HM{α:Sort _}{A0:α→Prop}(x0:α)(h0:A0 x0):∃x0,A0 x0:=⟨x0,h0⟩
theorem ah{α:Sort _}{A0 A1:α→Prop}(x0:α)(h0:A0 x0)(h1:A1 x0):∃x0,A0 x0∧A1 x0:=⟨x0,h0,h1⟩
theorem e7{α β:Sort _}{A0 A1:α→Prop}{A2:α→β→Prop}(x0:α)(h0:A0 x0)(h1:A1 x0)(x1:β)(h2:A2 x0 x1):∃x0,A0 x0∧A1 x0∧∃x1,A2 x0 x1:=⟨x0,h0,h1,x1,h2⟩
theorem bY{α:Sort _}{A0 A1 A2:α→Prop}(x0:α)(h0:A0 x0)(h1:A1 x0)(h2:A2 x0):∃x0,A0 x0∧A1 x0∧A2 x0:=⟨x0,h0,h1,h2⟩
theorem m4{α:Sort _}{A0 A1 A2 A3:α→Prop}(x0:α)(h0:A0 x0)(h1:A1 x0)(h2:A2 x0)(h3:A3 x0):∃x0,A0 x0∧A1 x0∧A2 x0∧A3 x0:=⟨x0,h0,h1,h2,h3⟩
theorem vK{α:Sort _}{A0 A1 A2 A3 A4:α→Prop}(x0:α)(h0:A0 x0)(h1:A1 x0)(h2:A2 x0)(h3:A3 x0)(h4:A4 x0):∃x0,A0 x0∧A1 x0∧A2 x0∧A3 x0∧A4 x0:=⟨x0,h0,h1,h2,h3,h4⟩
theorem zt:True:=⟨⟩
theorem BR{n m:Nat}(h:n≤m)(k:m≤1000000):(n:Int)<2^63:=Int.lt_of_le_of_lt (Int.ofNat_le.mpr (Nat.le_trans h k)) (Int.lt_of_sub_pos (by decide))
theorem OA(e:n% 8=0)(h:8*k<n):8*(k+1)≤n:=by have q:=Nat.mul_div_cancel' (Nat.dvd_of_mod_eq_zero e);exact Nat.le_trans (Nat.mul_le_mul_left 8 (Nat.lt_of_mul_lt_mul_left (Nat.lt_of_lt_of_le h (Nat.le_of_eq q.symm)))) (Nat.le_of_eq q)
theorem HN(h1:8*i≤k)(h4:k<8*j+8):i≤j:=Nat.le_of_lt_succ (Nat.lt_of_mul_lt_mul_left (Nat.lt_of_le_of_lt h1 h4:8*i<8*(j+1)))
theorem i2{k:Int}(h0:0≤k)(h1:k<2):k=0∨k=1:=(Int.lt_or_eq_of_le h0).elim (fun h=>.inr (Int.le_antisymm (Int.lt_add_one_iff.mp h1) h)) (fun h=>.inl h.symm)
theorem i4{k:Int}(h0:0≤k)(h1:k<4):k=0∨k=1∨k=2∨k=3:=(Int.lt_or_eq_of_le (Int.lt_add_one_iff.mp h1:k≤3)).elim (fun h=>(Int.lt_or_eq_of_le (Int.lt_add_one_iff.mp h:k≤2)).elim (fun h=>(i2 h0 h).imp_right .inl) fun h=>.inr (.inr (.inl h))) fun h=>.inr (.inr (.inr h))
theorem Nq{p:Int}{q:Nat}(h:1≤p)(e:q=(p-1).toNat):(q:Int)+1=p:=e▸(Int.toNat_of_nonneg (Int.sub_nonneg.mpr h)).symm▸Int.sub_add_cancel p 1
theorem yM(h:n≤m)(k:Nat.ble m 100000=true):n≤100000:=Nat.le_trans h (Nat.le_of_ble_eq_true k)
set_option tactic.hygienic false
noncomputable def iU:List String:=["bytearray.__contains__","bytearray.__mod__","bytearray.__rmod__","_struct.pack_into.held","bytearray.find.held"]++Builtin.Bytes.decodersThatHold
noncomputable def j9:Code→Bool
 |.builtin id _=>iU.contains id
 |_=>false
def iz(l:List (Code×Pos)):Prop:=∀x∈l,j9 x.1=false
theorem iz.cons{c:Code}{p:Pos}{l:List (Code×Pos)}(h:j9 c=false)(hl:iz l):iz ((c,p)::l):=fun x hx=>by
 rcases bD.mp hx with rfl|hx
 ·exact h
 ·exact hl x hx
def cR{α:Type}(M:Model)(A:Around)(t:Sem α)(Q:α→Shared→Prop)(E:dB)(s:Shared):Prop:=∀Γ p,Γ.In A→j9 Γ.code=false→iz Γ.below→Sem.wp M Γ t (fun a a_ s'=>Q a s') (fun e a_ s'=>E e s') p s
def cK(M:Model)(A:Around)(c:Code)(R:Result→Shared→Prop)(s:Shared):Prop:=∀Γ p,Γ.code=c→Γ.Below A→iz Γ.below→wpCode M Γ R p s
section
variable{α β:Type}{M:Model}{A:Around}{E:dB}{s:Shared}
theorem af(h:wpAny M A t Q E s):cR M A t Q E s:=fun Γ p j3 a_ b_=>h Γ p j3
theorem gw(h:codeAny M A c R s):cK M A c R s:=fun Γ p hc j3 a_=>h Γ p hc j3
theorem bM(h:cR M A t Q E s)(hQ:∀a s,Q a s→Q' a s)(hE:∀e s,E e s→E' e s):cR M A t Q' E' s:=fun Γ p j3 h1 h2=>Sem.wp_mono M Γ t (fun a a_ s=>hQ a s) (fun e a_ s=>hE e s) p s (h Γ p j3 h1 h2)
theorem bj(h:cR M A t Q E s)(hQ:∀a s,Q a s→Q' a s):cR M A t Q' E s:=bM h hQ fun a_ b_ h=>h
theorem yN(h:wpAny M A t Q E s)(hQ:∀a s,Q a s→Q' a s):wpAny M A t Q' E s:=wpAny_mono h hQ fun a_ b_ h=>h
theorem ak(h:Q a s):cR M A (pure a) Q E s:=af (bc h)
theorem ag(h:cR M A m (fun a s'=>cR M A (f a) Q E s') E s):cR M A (m>>=f) Q E s:=fun Γ p j3 h1 h2=>by rw[Sem.wp_bind'];exact Sem.wp_mono M Γ m (fun a p' s' h'=>h' Γ p' j3 h1 h2) (fun a_ b_ c_ h'=>h') p s (h Γ p j3 h1 h2)
theorem ee(h:cR M A m Q (fun e s'=>cR M A (k e) (fun a_ ij=>E e ij) E s') s):cR M A (m.onRaise k) Q E s:=fun Γ p j3 h1 h2=>by rw[Sem.wp_onRaise];exact Sem.wp_mono M Γ m (fun a_ b_ c_ h'=>h') (fun e p' s' h'=>h' Γ p' j3 h1 h2) p s (h Γ p j3 h1 h2)
theorem rV{m:Sem α}{Q:Except Value α→Shared→Prop}(h:cR M A m (fun a=>Q (.ok a)) (fun e=>Q (.error e)) s):cR M A m.attempt Q E s:=fun Γ p j3 h1 h2=>by rw[Sem.wp_attempt];exact h Γ p j3 h1 h2
theorem aw(h:cR M A m Q E s):cR M A (holding vs m) Q E s:=fun Γ p j3 h1 h2=>by rw[Sem.wp_holding];exact h Γ p j3 h1 h2
theorem aq(h:wpAny M A m (fun a s'=>cR M A (f a) Q E s') E s):cR M A (m>>=f) Q E s:=ag (af h)
theorem cP[Decidable c](hc:c)(h:cR M A a Q E s):cR M A (if c then a else b) Q E s:=by refine(aB hc).symm▸?_;exact h
theorem aT[Decidable c](hc:¬c)(h:cR M A b Q E s):cR M A (if c then a else b) Q E s:=by refine(aH hc).symm▸?_;exact h
theorem qr(hf:∀c p,j9 c=false→f (c,p)=false)(h:Q false s):cR M A (do return(←stack).any f) Q E s:=fun Γ p j3 h1 h2=>by
 refine(?_:Q (((Γ.code,p)::Γ.below).any f) s);have e:((Γ.code,p)::Γ.below).any f=false:=by rw[List.any_eq_false];intro x hx;obtain⟨c,q⟩:=x;exact(hf c q (iz.cons (p:=p) h1 h2 _ hx)).symm▸(cz)
 refine e.symm▸?_;exact h
theorem m5(h:cK M A c R s)(hR:∀r s,R r s→R' r s):cK M A c R' s:=fun Γ p hc j3 h2=>wpCode_mono hR (h Γ p hc j3 h2)
theorem qt(hc:cK M A c (fun r s'=>match r with|.ok (.ret v)=>Q v s'|.ok _=>False|.error e=>E e s') s):cR M A (runValue c) Q E s:=fun Γ p j3 h1 h2=>by rw[Sem.wp_runValue];exact hc _ p rfl (j3.enter c none p (by intro x;exact nS x)) (iz.cons h1 h2)
theorem BS(hc:cK M (A.mark h) c (fun r s'=>match r with|.ok f=>Q f s'|.error e=>E e s') s)(OB:h≠some byPass):cR M A (run c h) Q E s:=fun Γ p j3 h1 h2=>by rw[Sem.wp_run];exact hc _ p rfl (j3.enter c h p OB) (iz.cons h1 h2)
theorem gy(hc:cK M A (.call f ⟨pos,kw⟩) (fun r s'=>match r with|.ok (.ret v)=>Q v s'|.ok _=>False|.error e=>E e s') s):cR M A (call f pos kw) Q E s:=qt hc
theorem bB(hh:j9 c=false)(h:cR M (A.under c) (M.den c) (fun fin s'=>match fin with|.done f=>R (.ok f) s'|.again c'=>c'.quiet=true∧cK M A c' R s') (fun e s'=>R (.error e) s') s):cK M A c R s:=fun Γ p hc j3 h2=>by
 rw[wpCode_iff_wp,hc];refine Sem.wp_mono M Γ _ (fun fin p' s' h'=>?_) (fun a_ b_ c_ h'=>h') p s (h Γ p (hc▸j3.in) (hc▸hh) h2);induction fin with
 |done f=>exact h'
 |again c'=>exact⟨h'.1,h'.2 (Γ.goto c') p' rfl (j3.goto c') h2⟩
end
abbrev HO(q:Program)(loose:List Str)(XP:(Str→Option Value)→Heap→Prop)(YP:World→Heap→Prop)(r:RowW)(d:DefRec)(KG:List (Str×Expr)):Prop:=
 ∀(w:World) (qu bu:Shared) (mg mb:Str→Option Value),Ground q loose r.records XP w qu mg mb bu.heap→YP w bu.heap→∀(a:Addr) (o:Obj) (pm cd doc dV kV:Value),bu.heap.get? a=some o→
  o.data=.func {docDef d.name d.params d.body d.scope pm cd doc with defaults:=dV,kwdefaults:=kV}→bu.heap.CodeRec cd d.name→Dflts mg bu.heap d.params KG dV kV→mg d.name=some (.ref a)→bu.gens=#[]→
  ∀(args:List WData) (vals:List Value) (as:List Addr),r.claim.pre args=true→WData.layableAll args=true→ReadsAllW r.records (classAt qu.heap) bu.heap vals args as→WellAll w.params bu.heap vals args→(∀a∈as,(a==sysModules)=false)→cR (model r.prog w) callerA (call (.ref a) vals) (fun v s'=>GoodWG r.claim (classAt qu.heap) (ExcName.means qu.heap) args bu (.ok (.ret v)) s') (fun e s'=>GoodWG r.claim (classAt qu.heap) (ExcName.means qu.heap) args bu (.error e) s') bu
theorem OC{α:Type}{P P' A B C D D' E:α→Prop}(h1:∀v,P v→P' v)(h2:∀v,D v→D' v)(h:∃v,P v∧A v∧B v∧C v∧D v∧E v):∃v,P' v∧A v∧B v∧C v∧D' v∧E v:=h.elim fun v h=>⟨v,h.imp (h1 v) fun h=>h.imp_right fun h=>h.imp_right fun h=>h.imp_right fun h=>h.imp_left (h2 v)⟩
theorem OD{α β γ:Type}{P P' A B C D E E':α→β→γ→Prop}(h1:∀v x y,P v x y→P' v x y)(h2:∀v x y,E v x y→E' v x y)(h:∃v x y,P v x y∧A v x y∧B v x y∧C v x y∧D v x y∧E v x y):∃v x y,P' v x y∧A v x y∧B v x y∧C v x y∧D v x y∧E' v x y:=h.elim fun v h=>h.elim fun x h=>h.elim fun y h=>vJ v x y (h.imp (h1 v x y) fun h=>h.imp_right fun h=>h.imp_right fun h=>h.imp_right fun h=>h.imp_right (h2 v x y))
theorem tU{c:ClaimW}{w:World}{s:Shared}{free:Addr→Prop}{kept:Heap→Prop}(hz:s.asleep)(pa:s.gens=#[])(HP:∀args,c.pre args=true→WData.layableAll args=true→∀ord:List DictEntry→List DictEntry,(∀l,(ord l).Perm l)→∃vs bu mg f,layAllW c.records (classAt s.heap) w.params ord args s=some (vs,bu)∧bu.heap.Ns mainGlobals mg∧mg name=some f∧cR (model c.prog w) callerA (call f vs) (fun v s'=>c.Ends s args vs bu (.ok (.ret v)) s'∧s'.os=s.os∧AllBare s'.gens∧kept s'.heap) (fun e s'=>c.Ends s args vs bu (.error e) s'∧s'.os=s.os∧AllBare s'.gens∧kept s'.heap) bu):c.CallFrom (callStub name) w free gens kept s:=by
 intro args jk xc ord BU;refine gP (HP args jk xc ord BU) fun vs bu mg f mf tV hf HQ=>?_;have HR:=layAllW_rest _ _ _ mf
 have OE:Sem.wp (model c.prog w) ⟨.builtin "claim.caller" {},none,none,[],none⟩ (callStub name vs).cur
  (Sem.finPost (model c.prog w) ⟨.builtin "claim.caller" {},none,none,[],none⟩ fun r s'=>(c.Ends s args vs bu r s'∧s'.os=s.os∧kept s'.heap)∧leftWithCleanup s'.gens=false)
  (fun e a_ s'=>(c.Ends s args vs bu (.error e) s'∧s'.os=s.os∧kept s'.heap)∧leftWithCleanup s'.gens=false) default bu:=by
  have hc:cR (model c.prog w) callerA (callStub name vs).cur (fun fin s'=>∃fl,fin=.done fl∧((c.Ends s args vs bu (.ok fl) s'∧s'.os=s.os∧kept s'.heap)∧leftWithCleanup s'.gens=false))
   (fun e s'=>(c.Ends s args vs bu (.error e) s'∧s'.os=s.os∧kept s'.heap)∧leftWithCleanup s'.gens=false) bu:=by
   refine((aq (wpAny_nsGet tV ?_)):cR _ _ (nsGet mainNs name>>=_) _ _ _);refine hf.symm▸(ag (bM HQ (fun v s' h=>?_) fun e s' h=>?_))
   ·exact ak (bY _ rfl (aN h.1 h.2.1 h.2.2.2) (leftWithCleanup_false_of_bare h.2.2.1))
   ·exact⟨(aN h.1 h.2.1 h.2.2.2),leftWithCleanup_false_of_bare h.2.2.1⟩
  refine Sem.wp_mono _ _ _ (fun fin p' s' h'=>(aa h' fun fl az h=>?_)) (fun a_ b_ c_ h'=>h') _ _ (hc ⟨.builtin "claim.caller" {},none,none,[],none⟩ default caller_in (by decide+kernel) (fun a_ hx=>nomatch hx));clear h';subst az;exact h
 refine m3 (wp_halts_full (M:=model c.prog w) (R:=fun r s'=>c.Ends s args vs bu r s'∧s'.os=s.os∧kept s'.heap) (Shared.asleep_of_life HR.2.2.2 hz) OE) fun k r ij s' Em LF Hn yO t_=>fz t_ fun Nt Nu=>BP (Shared.forget_eq Hn) fun eh _ _ eo _=>?_;have yO:=yO.congr eh;rw[←eh]at Nu;rw[←eo]at Nt;have HS:s'.heap.life=s.heap.life:=(runN_life _ _ _ LF).trans HR.2.2.2;exact cL vs bu mf (aR k _ s' Em (Or.imp (OC (fun v e=>by refine e.symm▸?_;rfl) fun v d b o y _=>d b o y) (OD (fun e ob cls h=>by refine h.symm▸?_;rfl) fun e ob cls d b o y _=>d b o y) yO) (fun a_ i x hx=>by rw[pa]at hx;simp at hx) (aN Nu (HS.symm▸rfl) (Shared.rest_eq Nt)))
theorem PySem.W.holds_open{r:OpenRow}{Xt:Shared→Bool}{XP:(Str→Option Value)→Heap→Prop}{α:Type}{Yf:Shared→α}{Ya:World→α}{YP:World→Heap→Prop}{d:DefRec}(left:LeftO r.prog q loose Xt Yf Ya N)(hY:∀w s,Yf s=Ya w→YP w s.heap)(OF:∀w h h',YP w h→(∀b o,h.get? b=some o→h'.get? b=some o)→YP w h')(hX:∀s,Xt s=true→XP (s.heap.nsMap mainGlobals) s.heap)(OG:∀mg h h',XP mg h→(∀b o,h.get? b=some o→h'.get? b=some o)→XP mg h')(En:defOf q r.name=some (d,KG))(hp:r.prog.theDef r.name=some (d.params,d.body,d.scope))(hk:kwWritten? d.params.kwonlyargs d.params.kw_defaults=some KG)(OH:∀s,Xt s=true→RecFacts r.records s.heap)(Nv:(!r.writes||r.records.isEmpty)=true)(k1:r.wellSaid=true)(ok:(chainsOk q&&opensWell r.prog&&(frees r.toRowW&&r.within.isEmpty))=true)(hb:r.prog.bare)(hw:r.toRowW.promised)(call:HO q loose XP YP r.toRowW d KG):r.Holds:=by
 refine aN k1 hw ?_;obtain⟨ok,k5⟩:=Bool.and_eq_true_iff.mp ok;obtain⟨HT,o1⟩:=Bool.and_eq_true_iff.mp ok;obtain⟨k5,k6⟩:=Bool.and_eq_true_iff.mp k5;refine BP (frees_parts k5) fun Dy hu ha OI hm=>?_;refine aN (aN hb o1 (by refine(?_:r.makers.map _=[]);refine hm.symm▸?_;rfl)) hw.witness (fun w=>⟨(left.behind hX HT w).1,fun s' OJ=>?_⟩);refine cg ((left.behind (XP:=fun mg h=>XP mg h∧RecFacts r.records h) (fun s hs=>⟨hX s hs,OH s hs⟩) HT w).2 s' OJ) fun qu hf OK t_=>iy t_ fun s hT hz pa hg t_=>fz t_ fun xd y=>?_;have G0:Ground q loose [] XP w s (s.heap.nsMap mainGlobals) (s.heap.nsMap builtinsNs) s.heap:=⟨xd.T,xd.B,xd.D,xd.TE,xd.TD,xd.W,xd.X.1,xd.cls,xd.has,xd.apart,xd.once,xd.K⟩;have RF:=xd.X.2;have Nx:=hT
 have pins:∀n∈(if r.pinned then[r.name]else[]),isTheDefsW r.prog s.heap n:=fun n hn=>by
  obtain rfl:n=r.name:=by split at hn<;>simp_all
  exact pinned_of_view hg G0 En hp hk
 refine e7 qu hf OK s (ji hT pins RF.1 RF.2.1 ?_);have pa:s.gens=#[]:=Array.eq_empty_of_size_eq_zero (beq_iff_eq.mp pa);have G:Ground q loose r.records XP w s _ _ s.heap:=RF.ground G0;refine tU (c:=r.toRowW.claim) hz pa fun args jk xc ord BU=>?_;obtain⟨⟨vs,bu⟩,mf⟩:=Option.isSome_iff_exists.mp (layAllW_isSome (P:=w.params) (ord:=ord) G.has args r.args s (pre_splitW jk).1);have keeps:=layAllW_keeps _ _ _ mf;have HR:=layAllW_rest _ _ _ mf;refine cg (reads_layAllW BU _ _ _ mf xc bu.heap (fun a_ b_ e=>e)) fun as LG HU hold=>?_;have L:Laid r.records w s bu args vs as:=⟨(ah ord BU mf),LG,HU,hold,keeps,HR.1.trans pa,HR.2.2.1⟩;have Eo:=G.keeps OG keeps;refine fN (Eo.fn En) fun a o pm cd t_=>br t_ fun doc dV kV h1 h2 h3 t_=>fz t_ fun h4 h5=>?_;have h:=call w s bu _ _ Eo (OF _ _ _ (hY w s y) keeps) a o pm cd doc dV kV h2 h3 h4 h5 (defOf_name En▸h1) L.gens args vs as jk xc L.reads L.well (L.low G.low);have hi:=ident_freeW hu ha OI;have Ny:r.toRowW.claim.within=[]:=List.isEmpty_iff.mp k6;refine aY vs bu _ (.ref a) mf Eo.T.g h1 (bM h (fun v s' g=>?_) fun e s' g=>?_)
 ·have z:=g.laid (c:=r.toRowW.claim) Dy Ny hi L;exact cZ z.1 z.2.1 z.2.2 (fun q=>⟨namesKept_of Nx hg r.keeps keeps g.2.1.old,noTable Nv q⟩)
 ·have z:=g.laid (c:=r.toRowW.claim) Dy Ny hi L;exact cZ z.1 z.2.1 z.2.2 (fun q=>⟨namesKept_of Nx hg r.keeps keeps g.2.1.old,noTable Nv q⟩)
end Mine
open Mine in
theorem PySem.W.Fast:True:=zt where tw52355838639922916:=zt;tw5660036434313021414:=zt;tw16638892540598183091:=zt;tw8075568018651887793:=zt;tw5158373658722781958:=zt;tw14613446494489578570:=zt;tw11544132136366300579:=zt;tw745051376637563858:=zt;tw6853827570826646197:=zt;tw14979626087600564940:=zt;tw373286692785860919:=zt;tw103411056076323078:=zt;tw13138059604875949641:=zt;tw11704322186244449048:=zt;tw16096935477221015073:=zt;tw16789607257665165339:=zt;tw17522200706408893777:=zt;tw12091776965557701508:=zt;tw1494465355099820252:=zt;tw17207729816335089435:=zt;tw7505897509792200422:=zt;tw12040164293111501711:=zt;tw95398102266733632:=zt;tw17428874351420789250:=zt;tw3149940706203789266:=zt;tw7057405563618977329:=zt;tw12758646416354461303:=zt;tw17612500589515189474:=zt;tw13471316229770301743:=zt;tw13853819408611901635:=zt;tw9931943479562821362:=zt;tw5228443966233409354:=zt;tw1678274191532866277:=zt;tw7198390536060210744:=zt;tw3142773779024712118:=zt;tw5923252988546675246:=zt;tw10073347824450446311:=zt;tw3315324234476444515:=zt;tw4888971946704870899:=zt;tw11036193050239951465:=zt;tw18263319221461684349:=zt;tw13987355940573415152:=zt;tw3094477031063562474:=zt;tw11790162104776037713:=zt;tw6517296806544964722:=zt;tw6662432510661729299:=zt;tw17517737089405305841:=zt;tw10163627414712152736:=zt;tw10314498396905981064:=zt;tw11013792430000457035:=zt;tw17325535178939296128:=zt;tw4388067698380316889:=zt;tw12025208970609079342:=zt;tw16328912562034613984:=zt;tw11788150170368784547:=zt;tw11452132507678324671:=zt;tw1886563365779066154:=zt;tw16904869804480856166:=zt;tw505943868828395459:=zt;tw14821650378409806113:=zt;tw8989982439271903415:=zt;tw10470071008263537045:=zt;tw8588708647495961459:=zt;tw470574548607681690:=zt;tw13427988762788590312:=zt;tw14023627001141898710:=zt;tw11707433790658880453:=zt;tw1402947280878808549:=zt;tw10227693086864044499:=zt;tw18428756778242999024:=zt;tw2883484788219351825:=zt;tw4921902886906138986:=zt;tw5357591511691535388:=zt;tw14766643958189025262:=zt;tw8032284361305108907:=zt;tw14223099787259518943:=zt;tw8800560270773162519:=zt;tw10317580896714288900:=zt;tw15773981995205291829:=zt;tw16432479971616331241:=zt;tw5076957145309523181:=zt;tw7232422423428716515:=zt;tw1523951592034530338:=zt;tw3355348695024010778:=zt;tw17183712847048597117:=zt;tw11707371222683016368:=zt;tw3856783459128436802:=zt;tw9537544019596298400:=zt;tw183835017167291270:=zt;tw6380782515089751550:=zt;tw11161088081135249708:=zt;tw2968979199505139716:=zt;tw4679858250743294509:=zt;tw15880737140895825463:=zt;tw16326889199254633757:=zt;tw11462045893675790159:=zt;tw15323854079317868165:=zt;tw2506853364499732696:=zt;tw4172830789200971933:=zt;tw3865406201487662470:=zt;tw18283703058932287227:=zt;tw16741492637210864865:=zt;tw2354101950205528012:=zt;tw4978915544186085027:=zt;tw9407582987413476825:=zt;tw13902233598862641821:=zt;tw618205885557783147:=zt;tw2902314222560053993:=zt;tw16172117957621229858:=zt;tw3267979357774110234:=zt;tw3470799630455053000:=zt;tw1869930749605803152:=zt;tw15263041282635125899:=zt;tw15542503528162795033:=zt;tw16145008321745377990:=zt;tw9626621113073979434:=zt;tw14433975572909055671:=zt;tw2627984346626558326:=zt;tw14186486079044719983:=zt;tw8459811325457737761:=zt;tw7802139600951554647:=zt;tw18123110421147349612:=zt;tw12945451867199242903:=zt;tw16292439048969090190:=zt;tw1258299570235058372:=zt;tw15315713394281565010:=zt;tw10346894026039390216:=zt;tw503676674663206642:=zt;tw7483462131439158144:=zt;tw9763268239775435451:=zt;tw11186114360453789277:=zt;tw12393455550290869266:=zt;tw17554001833073541016:=zt;tw2951486255847992690:=zt;tw3623210587155107777:=zt;tw12488000419048109807:=zt;tw9577309144901391297:=zt;tw11985326045990495214:=zt;tw8686407601681055034:=zt;tw7365555872484859036:=zt;tw1620339239838986703:=zt;tw15041003319150489328:=zt;tw16644606511662114574:=zt;tw10205541121877940668:=zt;tw8473563963867554017:=zt;tw4904739604578439355:=zt;tw8656719876789144132:=zt;tw4824431525194463578:=zt;tw9315938663221665524:=zt;tw2735471455948067141:=zt;tw3362959441861295915:=zt;tw14323765505736481980:=zt;tw13254397897704925713:=zt;tw12731603968600162155:=zt;tw8796240567053077481:=zt;tw6832808476680081064:=zt;tw16865151637890581275:=zt;tw16643706677886111943:=zt;tw6059929106960060952:=zt;tw17768419659990539469:=zt;tw10938465397075749097:=zt;tw704327219915372674:=zt;tw6004533443673955352:=zt;tw4775785305629353868:=zt;tw2039238271031011813:=zt;tw725871291056497461:=zt;tw17230556039016184743:=zt;tw17964007177503468958:=zt;tw117213463901210413:=zt;tw7574553109774388169:=zt;tw13145125596335152023:=zt;tw6019396324639902685:=zt;tw6607189417530752870:=zt;tw10508251915553800215:=zt;tw3386650904741475044:=zt;tw17888162413812561239:=zt;tw17497748084772794779:=zt;tw5450187663091677483:=zt;tw10819683100428557426:=zt;tw3577408171920636059:=zt;tw178441218286455893:=zt;tw10719484529398299949:=zt;tw7585139358526817783:=zt;tw17803129079492736432:=zt;tw14907048974825807369:=zt;tw4658958612460137192:=zt;tw8987815912523675519:=zt;tw13141144453892091621:=zt;tw6144853644547557980:=zt;tw8999186272805695465:=zt;tw13809362725867891129:=zt;tw9413167413068371254:=zt;tw196644378293983589:=zt;tw10487160056961263569:=zt;tw11740888236361828772:=zt;tw17111948838632640456:=zt;tw9300948228871686676:=zt;tw5152784196030571298:=zt;tw17024950926791866790:=zt;tw12635813782599140982:=zt;tw11130039905162102590:=zt;tw15059462757989803610:=zt;tw13002492023102617099:=zt;tw16349804527192203551:=zt;tw4748654258956052638:=zt;tw17993156020533580102:=zt;tw774047393022817027:=zt;tw10650810973499830745:=zt;tw15020028541594565831:=zt;tw7231524377534056507:=zt;tw6213141578215901147:=zt;tw1763209079605825380:=zt;tw14420389602138693270:=zt;tw7286323032743288035:=zt;tw16942504070071679284:=zt;tw9674257727999782656:=zt;tw387338674003428930:=zt;tw1708024556718086227:=zt;tw12726346659333912481:=zt;tw2571919107429820419:=zt;tw13640514254501968386:=zt;tw14112274594779413971:=zt;tw900395245841561262:=zt;tw15194748194917737719:=zt;tw10939839348159177617:=zt;tw14209830616999942402:=zt;tw2334299552400917057:=zt;tw4525517667737911620:=zt;tw5268983451555188008:=zt;tw6123655918767846522:=zt;tw9292931687148149277:=zt;tw4109823476700235019:=zt;tw6127375697748050860:=zt;tw1210750091971509897:=zt;tw5556206192530704276:=zt;tw721709456127091705:=zt;tw5862295025349918931:=zt;tw6967401301877209104:=zt;tw13551572312386263098:=zt;tw9136488742655976645:=zt;tw13789449189825218787:=zt;tw12371321757623732685:=zt;tw6952355047532471503:=zt;tw17344680358763864322:=zt;tw148260917463534702:=zt;tw10758392820592806131:=zt;tw7543195961347049332:=zt;tw11625766737575182897:=zt;tw2948108419219029167:=zt;tw1631149150583789468:=zt;tw6792406925840432001:=zt;tw1735497430108182060:=zt;tw9821368406582625841:=zt;tw7581352650102555174:=zt;tw8450942572126056277:=zt;tw1962928258387122110:=zt;tw10007627690174824804:=zt;tw5555313912996828296:=zt;tw6380047634161181297:=zt;tw6254950367327338442:=zt;tw9893030918988833448:=zt;tw10885399304501877467:=zt;tw1617757218408452269:=zt;tw12392613427281201732:=zt;tw16645262185327669138:=zt;tw13180171748994924942:=zt;tw15823609455315575823:=zt;tw1414301608579184545:=zt;tw16018607276475445134:=zt;tw18220123701641295943:=zt;tw8424611434330503625:=zt;tw12898947447245864913:=zt;tw2905824091091238844:=zt;tw3282434896037501709:=zt;tw14285029430470858289:=zt;tw1305609685974793870:=zt;tw9979284746773624096:=zt;tw3424931102881643321:=zt;tw2001226814458364393:=zt;tw8430678208038309684:=zt;tw14427280190107063356:=zt;tw347637069881736656:=zt;tw14185684948912167051:=zt;tw1041845030581493396:=zt;tw13036272033356848781:=zt;tw5386766301290243201:=zt;tw7619357645376055252:=zt;tw10589684114461592954:=zt;tw3768068617246420682:=zt;tw13121200027793486533:=zt;tw8603108125212654177:=zt;tw8206430501311747189:=zt;tw4302124980754421698:=zt;tw8753696776887207221:=zt;tw7650934615059315214:=zt;tw16241802466949684156:=zt;tw3256587380925597060:=zt;tw13607416678640721797:=zt;tw17730448691065144110:=zt;tw139799656371268569:=zt;tw13912434898499826684:=zt;tw6519424955469430661:=zt;tw16176465441171805009:=zt;tw12832477231654346042:=zt;tw7081425507203772304:=zt;tw6714822604882049554:=zt;tw14126943448341045398:=zt;tw2660918139993853925:=zt;tw6135381517318000843:=zt;tw14714103240675001986:=zt;tw4090926877573551719:=zt;tw17069979004554194336:=zt;tw2478078296215019888:=zt;tw10948738476641704880:=zt;tw13317431791736044220:=zt;tw4797165386629745026:=zt;tw16916688483869632129:=zt;tw5248340912204065574:=zt;tw18273839248471157720:=zt;tw13678640442995254988:=zt;tw392140993173905013:=zt;tw17394056326795013819:=zt;tw15542691292777871779:=zt;tw15902184279288820625:=zt;tw7745614565497352828:=zt;tw7082770336023389322:=zt;tw18345786424863182364:=zt;tw7275051467321613617:=zt;tw18163708392712065173:=zt;tw17244072584429378644:=zt;tw5068434257544371817:=zt;tw11825729669827539873:=zt;tw14778209649434054790:=zt;tw14837249469386935497:=zt;tw5032809538720368765:=zt;tw12647630874787467225:=zt;tw7229665172594901996:=zt;tw16039550372008468697:=zt;tw13314330512976039754:=zt;tw5832503352825792928:=zt;tw389472881494512206:=zt;tw1320183511955256522:=zt;tw14326252917377295143:=zt;tw325292655437039998:=zt;tw16437185098154296904:=zt;tw4966893808263662355:=zt;tw15919542637913265678:=zt;tw15736541856241217950:=zt;tw13981391230805400906:=zt;tw7469732015759309437:=zt;tw1102190903223815498:=zt;tw4552823106982906706:=zt;tw3880421473898291048:=zt;tw4299136966843209011:=zt;tw17026713947507217902:=zt;tw5882768191206486792:=zt;tw13642483538084851733:=zt;tw13471461260053382970:=zt;tw15560853006256673968:=zt;tw11838138170533393997:=zt;tw12821735335276811757:=zt;tw5135500740108067664:=zt;tw2611137233208623240:=zt;tw17815586953681464072:=zt;tw8119918657739134586:=zt;tw12022618010286034681:=zt;tw2569364866550412066:=zt;tw17954471519018878134:=zt;tw13512673800721320934:=zt;tw4407734736301137906:=zt;tw8727135674562949291:=zt;tw7573151900890175926:=zt;tw7344376507651311505:=zt;tw17001327861769816259:=zt;tw6654550962395885724:=zt;tw16189536214700107852:=zt;tw11310463157757771331:=zt;tw4681523508651956083:=zt;tw1574873078441994576:=zt;tw2193789692954389824:=zt;tw9285146279643344392:=zt;tw18011898689540126615:=zt;tw39160002569200845:=zt;tw7733015712792483723:=zt;tw17101871299007795629:=zt;tw6179359751918216688:=zt;tw13160144027095335755:=zt;tw18211773271919218964:=zt;tw15300170045991075079:=zt;tw6012508502120743258:=zt;tw9594665118957945026:=zt;tw5697894365363955025:=zt;tw6817277305950994716:=zt;tw9676229304581654039:=zt;tw15450981722951097364:=zt;tw9265879793445154701:=zt;tw878741703135273975:=zt;tw2378363196638174374:=zt;tw7299303143086499733:=zt;tw3427515755752030745:=zt;tw12973657651903071711:=zt;tw1267870562809915468:=zt;tw7496433998918960881:=zt;tw17057272898397164401:=zt;tw15195428891847259777:=zt;tw1706496860858754268:=zt;tw11994158751524154303:=zt;tw15808557625122938864:=zt;tw10190238754879171395:=zt;tw5345256250457102556:=zt;tw912392155897948271:=zt;tw12825359941727978080:=zt;tw5396446701170858492:=zt;tw3504847659760329788:=zt;tw17804436615005485693:=zt;tw7323676302269181137:=zt;tw8224813933742928703:=zt;tw921073385446354868:=zt;tw11964429278604863157:=zt;tw3826639566459466600:=zt;tw12494133203773749484:=zt;tw7543618554067911206:=zt;tw17919728810627054236:=zt;tw15039117976438264115:=zt;tw5315457868209417068:=zt;tw136631920214876835:=zt;tw10029231156530900338:=zt;tw16289391198768371057:=zt;tw18371169792594650754:=zt;tw9492235034089005946:=zt;tw14763704009068828915:=zt;tw9862997608875712007:=zt;tw8777329075199875621:=zt;tw15168306246750427876:=zt;tw12268644228514654432:=zt;tw17138261911001417010:=zt;tw12835720964997663042:=zt;tw3560238982266916124:=zt;tw8860024209350480642:=zt;tw10833955939284561965:=zt;tw13236226663087606529:=zt;tw15007238320947547705:=zt;tw12233582284571471492:=zt;tw1107438419126420414:=zt;tw14210447440969649564:=zt;tw17774800907425398282:=zt;tw2401699919119007470:=zt;tw9501820088010722379:=zt;tw10045867985992453528:=zt;tw8902219603052485911:=zt;tw11817470609975844035:=zt;tw282004115355043989:=zt;tw383695940523520267:=zt;tw16593013826814733010:=zt;tw16350708796919097252:=zt;tw3695515675974049574:=zt;tw8579058602437062094:=zt;tw17853915177807527196:=zt;tw13335737130258781183:=zt;tw9047900276149940361:=zt;tw18126140380344562322:=zt;tw11566699232636054958:=zt;tw2078703811421203504:=zt;tw535072334866317008:=zt;tw13951257522405164796:=zt;tw16947794391021106201:=zt;tw43969757491396457:=zt;tw1771862750571323454:=zt;tw6929956602132211858:=zt;tw7788680626742099145:=zt;tw5758256569797452207:=zt;tw7276740287692124622:=zt;tw1690735587144091376:=zt;tw18350638575300117064:=zt;tw11518781747449614426:=zt;tw16874561944515371726:=zt;tw12224578244612797663:=zt;tw13833065179229638619:=zt;tw11892598404827812706:=zt;tw11957962974430299695:=zt;tw6993175162768986339:=zt;tw2718901123391026995:=zt;tw8881496252177385917:=zt;tw4879560196417449868:=zt;tw7618406622816332465:=zt;tw17532440430192770315:=zt;tw9787396351842916947:=zt;tw3916196269025109296:=zt;tw9720828393056574044:=zt;tw16366562015402752707:=zt;tw17332894485751381497:=zt;tw12660628722211587041:=zt;tw2532725972614424836:=zt;tw5515242420486718171:=zt;tw13480552361792772618:=zt;tw17988542015724977305:=zt;tw1385499394376450229:=zt;tw7405434945208526273:=zt;tw16417370028952169744:=zt;tw10058976618658966374:=zt;tw7397068168572129948:=zt;tw12359285113459375979:=zt;tw460243522976405022:=zt;tw2077871619930789226:=zt;tw12177649209318274912:=zt;tw11317593695737139937:=zt;tw9082586571710850966:=zt;tw15207642765257501584:=zt;tw16349216596472256690:=zt;tw7392212959928792091:=zt;tw1393629259489396696:=zt;tw3740020263889925745:=zt;tw17943406268862710625:=zt;tw4287028408620065468:=zt;tw3436264866546951355:=zt;tw3327986453032591115:=zt;tw11729385059970357855:=zt;tw9219426015542480343:=zt;tw2422670821966735624:=zt;tw17846936440860909165:=zt;tw17100903815162463580:=zt;tw8703263022893421829:=zt;tw14834023430324568649:=zt;tw9011979029575296479:=zt;tw10010936943081839664:=zt;tw3105397867545767578:=zt;tw13016732220969518872:=zt;tw5529568453561195837:=zt;tw8385612375773290118:=zt;tw17827458813498177553:=zt;tw18188234029961486008:=zt;tw10181792811725400092:=zt;tw12734952128020822468:=zt;tw15202239659555905331:=zt;tw6132934438814934913:=zt;tw14909702598903578594:=zt;tw12329403913580668285:=zt;tw5976474108018559520:=zt;tw1544652992362985085:=zt;tw3118938333895590913:=zt;tw15894407043143930727:=zt;tw12635297910168745909:=zt;tw13329733208086693882:=zt;tw5732905514179830355:=zt;tw5111356299099525756:=zt;tw4933834842325187142:=zt;tw9206804518496725263:=zt;tw17018628822417861297:=zt;tw13215998728584607739:=zt;tw447715330943862342:=zt;tw1503297043503765363:=zt;tw2118141222776746865:=zt;tw16846860572762119324:=zt;tw17552769576498331613:=zt;tw4405960384096086239:=zt;tw5925582254088234700:=zt;tw9951705424602377420:=zt;tw2134368852220247820:=zt;tw7009043117176579089:=zt;tw6434265647005701932:=zt;tw313226197891681235:=zt;tw7074795694173733578:=zt;tw608726401823008365:=zt;tw1638017585896720355:=zt;tw764782834095389478:=zt;tw11277716924127702174:=zt;tw14386061602966655976:=zt;tw2370425770031549630:=zt;tw16752143609539240740:=zt;tw1377046205977697930:=zt;tw17434858337260393937:=zt;tw13559156169165276386:=zt;tw1189734492583310:=zt;tw14896874001708588922:=zt;tw9948023125614773506:=zt;tw6448080314894763839:=zt;tw17476080006546285661:=zt;tw9564595351457756722:=zt;tw1085346719588807367:=zt;tw9467589175468403638:=zt;tw12809422525583811893:=zt;tw1370275717833778536:=zt;tw1702518465993881591:=zt;tw18056578402003937789:=zt;tw3152983702415266003:=zt;tw17679261114430710190:=zt;tw14934708107589980039:=zt;tw5701610774189311196:=zt;tw17164873540382356111:=zt;tw18350330562280901221:=zt;tw1258717718454355964:=zt;tw3972328310683599613:=zt;tw1156252341971683116:=zt;tw15112985482279097393:=zt;tw8488268690174267210:=zt;tw8537084889766193716:=zt;tw5854881644878751223:=zt;tw4011157648589011858:=zt;tw15475462885187679331:=zt;tw4800724452203346748:=zt;tw12290603225136948437:=zt;tw8802822988693486460:=zt;tw15480198773659482676:=zt;tw15066959818950650227:=zt;tw13746126617404028095:=zt;tw14097648870716263351:=zt;tw6148621092414575339:=zt;tw14333388528381170442:=zt;tw1333364371103165705:=zt;tw2283851925072248500:=zt;tw951843321253372498:=zt;tw7269565832213808900:=zt;tw6789855027759293466:=zt;tw15278061642289888581:=zt;tw17975652961387846372:=zt;tw15980859228951719591:=zt;tw6363645014702824404:=zt;tw4318056027017086478:=zt;tw1829445100760108279:=zt;tw6683783046931543321:=zt;tw8376441433122354887:=zt;tw12182807814244774211:=zt;tw16049961110935095269:=zt;tw13505292571300825877:=zt;tw15157221202141545114:=zt;tw8708707556590381134:=zt;tw14884601019740666482:=zt;tw7499937903120025604:=zt;tw9787463984185863102:=zt;tw7503421922109321716:=zt;tw10996506086634736982:=zt;tw1184552218554016812:=zt;tw441327347791068078:=zt;tw6909570525239066004:=zt;tw4636218855388986860:=zt;tw4075660801711882420:=zt;tw3345107109950449737:=zt;tw5823794197072137003:=zt;tw18101931140130867144:=zt;tw14981143343336467331:=zt;tw4224760802259116069:=zt;tw9759809726879904816:=zt;tw5149714755402479525:=zt;tw8642067239939848140:=zt;tw14214133299417103183:=zt;tw1092655722715705105:=zt;tw12540713548012372134:=zt;tw558745408833754511:=zt;tw1139862187096482527:=zt;tw6426273055680023932:=zt;tw10028428298569065181:=zt;tw9504726810853072989:=zt;tw11853533878840232495:=zt;tw11682084944484805031:=zt;tw2670528217467546775:=zt;tw2922074901204462755:=zt;tw5082074563857973206:=zt;tw4858009861420398278:=zt;tw12237943961548833269:=zt;tw5646442142991981755:=zt;tw16942194440817826258:=zt;tw7191607858210974391:=zt;tw16966814322356759819:=zt;tw12172078356533094185:=zt;tw2011108890870493169:=zt;tw682011567655089306:=zt;tw9908251947323293946:=zt;tw11420187438672877268:=zt;tw10042830170769951172:=zt;tw3766158894648301139:=zt;tw17318589155259679147:=zt;tw16643379632663270332:=zt;tw1615719349143574890:=zt;tw6891000109920058784:=zt;tw10670733350059645105:=zt;tw6944952908185719654:=zt;tw1218959903707654005:=zt;tw3764465048917985505:=zt;tw7094674258960923220:=zt;tw17300597898927385350:=zt;tw6245536207120538393:=zt;tw9529234661008812162:=zt;tw932993149863042379:=zt;tw15900120412870309639:=zt;tw13580328829973926956:=zt;tw5853609219237828028:=zt;tw4558998842232669794:=zt;tw5721027456603625697:=zt;tw6587116730350146372:=zt;tw12679591844961189642:=zt;tw12981051755390344553:=zt;tw396607853666888187:=zt;tw950723637873067451:=zt;tw16127339712140622707:=zt;tw8946543629884556368:=zt;tw4071324889030633612:=zt;tw607167704815816724:=zt;tw16758808235637498351:=zt;tw14108194823987119177:=zt;tw11328821685186248670:=zt;tw12813236842856870187:=zt;tw9236875199018929784:=zt;tw15215539614974913122:=zt;tw1204117194425446250:=zt;tw13871001218405608335:=zt;tw1355338860687761863:=zt;tw18163462532019968843:=zt;tw10352308551163946355:=zt;tw6711915476519705758:=zt;tw16655555454665732581:=zt;tw3131671291697673992:=zt;tw13759679279233594173:=zt;tw16873187988247708562:=zt;tw3365093317950918147:=zt;tw14311459727803291754:=zt;tw716658179208862652:=zt;tw17719373434677690450:=zt;tw7140130562030077042:=zt;tw14530364306720264245:=zt;tw16439824349840649037:=zt;tw16296994325663420285:=zt;tw151948405760981731:=zt;tw1749818173716722547:=zt;tw10424941004445345732:=zt;tw3325841961599345399:=zt;tw4613930686462287906:=zt;tw14952990662201256454:=zt;tw5565278806992967083:=zt;tw13903129631018457399:=zt;tw16280195873916505411:=zt;tw15199281503961881116:=zt;tw14224011070414065920:=zt;tw7035115661146626270:=zt;tw17842620306162639686:=zt;tw16223305294053301992:=zt;tw16950312913027304927:=zt;tw17520869792638436183:=zt;tw6679490504615227074:=zt;tw14544052848187043789:=zt;tw1772237422875290029:=zt;tw10500077913531017323:=zt;tw15562837088269578035:=zt;tw8595292554425487202:=zt;tw7299951869573292228:=zt;tw7987952416473584550:=zt;tw16648231224745350325:=zt;tw1291980286583624508:=zt;tw2664551874359636763:=zt;tw17045043414572947948:=zt;tw16374537267813192141:=zt;tw13252181687094117063:=zt;tw17814930658547583709:=zt;tw17532718790514356516:=zt;tw16451151925259046446:=zt;tw17274371674624000324:=zt;tw8047484207015712433:=zt;tw16406328271908756883:=zt;tw11939915149646268982:=zt;tw4319705520415482375:=zt;tw14553827428707814869:=zt;tw293829605474521371:=zt;tw12450158673883907302:=zt;tw5770868932273138760:=zt;tw16979880578912567463:=zt;tw15766043655864335149:=zt;tw4936483359421988267:=zt;tw9794667896261083176:=zt;tw6434138532213402376:=zt;tw9800571698397750058:=zt;tw3891137856419664920:=zt;tw2387720566874501970:=zt;tw6624491594363574236:=zt;tw3820604794100220378:=zt;tw14043711374191979534:=zt;tw13251646731365433171:=zt;tw13241461904039861399:=zt;tw6589095468515690095:=zt;tw16180582048198870337:=zt;tw3460871413274159568:=zt;tw16792545251062261874:=zt;tw13526986893379352335:=zt;tw8649964590619651473:=zt;tw9281714027785469542:=zt;tw5512085447785999860:=zt;tw2711585505577850959:=zt;tw15663404670287596823:=zt;tw14973007898608030118:=zt;tw12659028871203227004:=zt;tw5310036984924271277:=zt;tw9305782018832362445:=zt;tw8620020772036689432:=zt;tw12114495157272644582:=zt;tw14971970265804392439:=zt;tw17730428716208468724:=zt;tw5950129339639070837:=zt;tw3797612339304411714:=zt;tw10887116778572429059:=zt;tw11270796479367742343:=zt;tw13725850141900786883:=zt;tw2447775223705975068:=zt;tw11108263761283441063:=zt;tw17899373020297197333:=zt;tw973662469405803806:=zt;tw12989987162080215863:=zt;tw8693227569615203950:=zt;tw10942035263794033107:=zt;tw6580340599500149305:=zt;tw17280976486791472633:=zt;tw12177639751122801600:=zt;tw482417222145425773:=zt;tw2736616831223182526:=zt;tw15965015591981942514:=zt;tw6291368078380397288:=zt;tw13102660428377437172:=zt;tw17341736924252097559:=zt;tw17596809139577655471:=zt;tw11588390666370768167:=zt;tw10057510723706494237:=zt;tw4434333111790514575:=zt;tw8017206721242287953:=zt;tw15560500314895047343:=zt;tw7581816359482902497:=zt;tw7783732958741208154:=zt;tw8180830640274347804:=zt;tw6214688769961185500:=zt;tw11543547407058413889:=zt;tw4275521005467322725:=zt;tw930746551332336609:=zt;tw5189142188285759775:=zt;tw4575980220486274672:=zt;tw14874922208557711187:=zt;tw8795123598061512290:=zt;tw8400853705098224536:=zt;tw16413963553889246368:=zt;tw3825061337978711158:=zt;tw6125931036764729998:=zt;tw2599325451414397859:=zt;tw17828083071136270317:=zt;tw13925586954763233925:=zt;tw667198328695590252:=zt;tw4980102563643897964:=zt;tw3209381107111851631:=zt;tw5720267713326709755:=zt;tw13900631225919944168:=zt;tw18416463498863911781:=zt;tw2719445374943340272:=zt;tw5952267759425050802:=zt;tw3698559305507148144:=zt;tw5518745428033880147:=zt;tw3633577522364906407:=zt;tw8125055898148337911:=zt;tw219737044198020058:=zt;tw5978237884098788730:=zt;tw15742981410569661332:=zt;tw14073706353221006472:=zt;tw9736788993784561348:=zt;tw11166942722945506595:=zt;tw16494616584097029746:=zt;tw16548257151911338427:=zt;tw13915792640404377917:=zt;tw16413264400604254196:=zt;tw189603312586018693:=zt;tw18410474027866654770:=zt;tw9575731206691268911:=zt
namespace Mine
set_option maxHeartbeats 8000000 in
open_top hd for PySem.Challenge.rw_xw0233_01
end Mine
namespace Mine.Internal
set_option tactic.hygienic true
inductive Ta|v(i:Nat)|w(i:Nat)|n(k:Nat)|a(x y:Ta)|m(k:Nat)(x:Ta)|r(x:Ta)(k:Nat)|s(x y:Ta)|g(x:Ta)|c(x:Ta)
inductive Pr|l(x y:Ta)|t(x y:Ta)|e(x y:Ta)|L(x y:Ta)|T(x y:Ta)|E(x y:Ta)|n(p:Pr)|f
noncomputable section
noncomputable def KH:List Nat→Nat→Nat:=fun l=>List.rec (fun a_=>0) (fun x a_ f i=>Nat.rec x (fun j a_=>f j) i) l
noncomputable def KI:List Int→Nat→Int:=fun l=>List.rec (fun a_=>0) (fun x a_ f i=>Nat.rec x (fun j a_=>f j) i) l
noncomputable def Ta.N(C:List Nat)(x:Ta):Nat:=Ta.rec (fun i=>KH C i) (fun a_=>0) (fun k=>k) (fun a_ b_ x y=>x+y) (fun k a_ x=>k*x) (fun a_ k x=>x*k) (fun a_ b_ c_ d_=>0) (fun a_ b_=>0) (fun a_ b_=>0) x
noncomputable def Ta.Z(C:List Nat)(D:List Int)(x:Ta):Int:=Ta.rec (fun a_=>0) (fun i=>KI D i) (fun k=>(k:Int)) (fun a_ b_ x y=>x+y) (fun k a_ x=>(k:Int)*x) (fun a_ k x=>x*(k:Int)) (fun a_ b_ x y=>x-y) (fun a_ x=> -x) (fun x a_=>(x.N C:Int)) x
def Pr.D(C:List Nat)(D:List Int)(p:Pr):Prop:=Pr.rec (fun x y=>x.N C≤y.N C) (fun x y=>x.N C<y.N C) (fun x y=>x.N C=y.N C) (fun x y=>x.Z C D≤y.Z C D) (fun x y=>x.Z C D<y.Z C D) (fun x y=>x.Z C D=y.Z C D) (fun a_ q=>¬q) False p
end
abbrev Lf:=Int×List Int×List Int
noncomputable section
noncomputable def mh(i:Nat):List Int:=Nat.rec [1] (fun a_ l=>0::l) i
noncomputable def m6:List Int→List Int→List Int:=fun a=>List.rec (fun b=>b) (fun x a_ f b=>List.rec (x::f []) (fun y l a_=>(x+y)::f l) b) a
noncomputable def pb(k:Int)(a:List Int):List Int:=List.rec [] (fun x a_ l=>(k*x)::l) a
noncomputable def dG:List Int→List Int→Int:=fun a=>List.rec (fun a_=>0) (fun x a_ f b=>List.rec 0 (fun y l a_=>x*y+f l) b) a
noncomputable def Lf.ev(C:List Int)(D:List Int)(q:Lf):Int:=q.1+dG q.2.1 C+dG q.2.2 D
noncomputable def Lf.add(p q:Lf):Lf:=(p.1+q.1,m6 p.2.1 q.2.1,m6 p.2.2 q.2.2)
noncomputable def Lf.mul(k:Int)(p:Lf):Lf:=(k*p.1,pb k p.2.1,pb k p.2.2)
noncomputable def Ta.ln(x:Ta):Lf:=Ta.rec (fun i=>(0,mh i,[])) (fun a_=>(0,[],[])) (fun k=>((k:Int),[],[])) (fun a_ b_ x y=>x.add y) (fun k a_ x=>x.mul k) (fun a_ k x=>x.mul k) (fun a_ b_ c_ d_=>(0,[],[])) (fun a_ b_=>(0,[],[])) (fun a_ b_=>(0,[],[])) x
noncomputable def Ta.lz(x:Ta):Lf:=Ta.rec (fun a_=>(0,[],[])) (fun i=>(0,[],mh i)) (fun k=>((k:Int),[],[])) (fun a_ b_ x y=>x.add y) (fun k a_ x=>x.mul k) (fun a_ k x=>x.mul k) (fun a_ b_ x y=>x.add (y.mul (-1))) (fun a_ x=>x.mul (-1)) (fun x a_=>x.ln) x
end
theorem LH(a b c d:Int):a+b+(c+d)=a+c+(b+d):=by rw[Int.add_assoc,Int.add_left_comm b,←Int.add_assoc]
theorem yP(b:List Int):dG [] b=0:=rfl
theorem xe(i:Nat)(C:List Nat):dG (mh i) (C.map Int.ofNat)=(KH C i:Int):=by
 induction i generalizing C with
 |zero=>cases C with
  |nil=>rfl
  |cons x l=>exact(show 1*(x:Int)+0=x by simp)
 |succ i ih=>cases C with
  |nil=>rfl
  |cons x l=>exact(show 0*(x:Int)+dG (mh i) (l.map Int.ofNat)=(KH l i:Int) by rw[ih];simp)
theorem tW(i:Nat)(C:List Int):dG (mh i) C=KI C i:=by
 induction i generalizing C with
 |zero=>cases C with
  |nil=>rfl
  |cons x l=>exact(show 1*x+0=x by simp)
 |succ i ih=>cases C with
  |nil=>rfl
  |cons x l=>exact(show 0*x+dG (mh i) l=KI l i by rw[ih];simp)
theorem gz(a:List Int):dG a []=0:=by cases a<;>rfl
theorem pd(a b C:List Int):dG (m6 a b) C=dG a C+dG b C:=by
 induction a generalizing b C with
 |nil=>exact(Int.zero_add _).symm
 |cons x a ih=>cases C with
  |nil=>rw[gz,gz,gz];rfl
  |cons z C=>cases b with
   |nil=>exact(show x*z+dG (m6 a []) C=x*z+dG a C+0 by rw[ih];rw[yP];simp)
   |cons y b=>exact(show(x+y)*z+dG (m6 a b) C=x*z+dG a C+(y*z+dG b C) by rw[ih,Int.add_mul];exact LH _ _ _ _)
theorem pf(k:Int)(a C:List Int):dG (pb k a) C=k*dG a C:=by
 induction a generalizing C with
 |nil=>exact(Int.mul_zero k).symm
 |cons x a ih=>cases C with
  |nil=>rw[gz,gz];simp
  |cons z C=>exact(show k*x*z+dG (pb k a) C=k*(x*z+dG a C) by rw[ih,Int.mul_add,Int.mul_assoc])
theorem iV(C D:List Int)(p q:Lf):(p.add q).ev C D=p.ev C D+q.ev C D:=show p.1+q.1+dG (m6 p.2.1 q.2.1) C+dG (m6 p.2.2 q.2.2) D=p.1+dG p.2.1 C+dG p.2.2 D+(q.1+dG q.2.1 C+dG q.2.2 D) by rw[pd,pd,LH p.1];exact LH _ _ _ _
theorem fA(C D:List Int)(k:Int)(p:Lf):(p.mul k).ev C D=k*p.ev C D:=show k*p.1+dG (pb k p.2.1) C+dG (pb k p.2.2) D=k*(p.1+dG p.2.1 C+dG p.2.2 D) by rw[pf,pf,Int.mul_add,Int.mul_add]
theorem fH(C D:List Int)(k:Int):Lf.ev C D (k,[],[])=k:=show k+0+0=k by simp
theorem jH(C:List Nat)(D:List Int)(x:Ta):x.ln.ev (C.map Int.ofNat) D=(x.N C:Int):=by
 induction x with
 |v i=>exact(show 0+dG (mh i) (C.map Int.ofNat)+0=(KH C i:Int) by rw[xe];simp)
 |n k=>exact fH _ _ _
 |a x y hx hy=>exact(iV _ _ x.ln y.ln).trans (by rw[hx,hy];rfl)
 |m k x hx=>exact(fA _ _ _ x.ln).trans (by rw[hx];rfl)
 |r x k hx=>exact(fA _ _ _ x.ln).trans (by rw[hx,Int.mul_comm];rfl)
 |_=>exact fH _ _ _
theorem kZ(C:List Nat)(D:List Int)(x:Ta):x.lz.ev (C.map Int.ofNat) D=x.Z C D:=by
 induction x with
 |w i=>exact(show 0+0+dG (mh i) D=KI D i by rw[tW];simp)
 |n k=>exact fH _ _ _
 |a x y hx hy=>exact(iV _ _ x.lz y.lz).trans (by rw[hx,hy];rfl)
 |m k x hx=>exact(fA _ _ _ x.lz).trans (by rw[hx];rfl)
 |r x k hx=>exact(fA _ _ _ x.lz).trans (by rw[hx,Int.mul_comm];rfl)
 |s x y hx hy=>exact(iV _ _ x.lz (y.lz.mul (-1))).trans (by rw[fA,hx,hy,Int.neg_one_mul];rfl)
 |g x hx=>exact(fA _ _ _ x.lz).trans (by rw[hx,Int.neg_one_mul];rfl)
 |c x _=>exact jH C D x
 |_=>exact fH _ _ _
noncomputable section
noncomputable def Lf.oK(x y:Lf)(k:Int):Lf:=(x.add (y.mul (-1))).add (k,[],[])
noncomputable def Pr.lf(p:Pr):Bool×Lf×Lf:=Pr.rec (fun x y=>(false,x.ln.oK y.ln 0,y.ln.oK x.ln 1)) (fun x y=>(false,x.ln.oK y.ln 1,y.ln.oK x.ln 0)) (fun x y=>(true,x.ln.oK y.ln 0,(0,[],[]))) (fun x y=>(false,x.lz.oK y.lz 0,y.lz.oK x.lz 1)) (fun x y=>(false,x.lz.oK y.lz 1,y.lz.oK x.lz 0)) (fun x y=>(true,x.lz.oK y.lz 0,(0,[],[]))) (fun a_ q=>(false,q.2.2,q.2.1)) (false,(1,[],[]),(0,[],[])) p
noncomputable def HV(a:List Int):Bool:=List.rec true (fun x a_ f=>and (Int.ble' 0 x) f) a
noncomputable def HW(a:List Int):Bool:=List.rec true (fun x a_ f=>and (Int.beq' x 0) f) a
noncomputable def Lf.bad(q:Lf):Bool:=and (Int.ble' 1 q.1) (and (HV q.2.1) (HW q.2.2))
noncomputable def zrun(hs:List Pr):List Int→Lf→Bool:=List.rec (fun a_ q=>q.bad) (fun p a_ f ks q=>List.rec (f [] q) (fun k ks a_=>and (or p.lf.1 (Int.ble' 0 k)) (f ks (q.add (p.lf.2.1.mul k)))) ks) hs
def BV(C:List Nat)(D:List Int)(hs:List Pr)(X:Prop):Prop:=List.rec X (fun p a_ f=>p.D C D→f) hs
end
theorem e9(C D:List Int)(x y:Lf)(k:Int):(x.oK y k).ev C D=x.ev C D-y.ev C D+k:=by unfold Lf.oK;rw[iV,iV,fA,fH,Int.neg_one_mul];rfl
theorem BW{a:List Int}(h:HV a=true)(C:List Nat):0≤dG a (C.map Int.ofNat):=by
 induction a generalizing C with
 |nil=>exact Int.le_refl _
 |cons x a ih=>
  have h:=(Bool.and_eq_true_iff.1 h);cases C with
  |nil=>exact Int.le_refl _
  |cons n C=>exact Int.add_nonneg (Int.mul_nonneg (by simpa using h.1) (c7 n)) (ih h.2 C)
theorem BX{a:List Int}(h:HW a=true)(D:List Int):dG a D=0:=by
 induction a generalizing D with
 |nil=>rfl
 |cons x a ih=>
  have h:=(Bool.and_eq_true_iff.1 h);cases D with
  |nil=>rfl
  |cons n D=>exact(show x*n+dG a D=0 by rw[ih h.2,show x=0 by simpa using h.1];simp)
theorem BY{q:Lf}(h:q.bad=true)(C:List Nat)(D:List Int)(e:q.ev (C.map Int.ofNat) D≤0):False:=by
 have h:=(Bool.and_eq_true_iff.1 h);have h2:=(Bool.and_eq_true_iff.1 h.2);have h1:1≤q.1:=by simpa using h.1
 have:=BW h2.1 C;have h3:=BX h2.2 D;unfold Lf.ev at e;rw[h3,Int.add_zero]at e;exact absurd (Int.le_trans (Int.le_trans h1 (Int.le_add_of_nonneg_right this)) e) (by decide)
theorem LI{X Y:Int}:(X≤Y→X-Y+0≤0)∧(¬X≤Y→Y-X+1≤0):=⟨fun h=>(Int.add_zero _).symm▸Int.sub_nonpos_of_le h,fun h=>Int.sub_neg_of_lt (Int.not_le.mp h)⟩
theorem LJ{X Y:Int}:(X<Y→X-Y+1≤0)∧(¬X<Y→Y-X+0≤0):=⟨Int.sub_neg_of_lt,fun h=>(Int.add_zero _).symm▸Int.sub_nonpos_of_le (Int.not_lt.mp h)⟩
theorem Nz{X Y:Int}:(X=Y→X-Y+0=0)∧(¬X=Y→(0:Int)≤0):=⟨fun h=>(Int.add_zero _).trans (Int.sub_eq_zero_of_eq h),fun a_=>Int.le_refl _⟩
theorem HX{k a:Int}(hk:0≤k)(ha:a≤0):k*a≤0:=Int.nonpos_of_neg_nonneg (Int.mul_neg k a▸Int.mul_nonneg hk (Int.neg_nonneg_of_nonpos ha))
theorem yQ(C:List Nat)(D:List Int)(p:Pr):(p.D C D→(if p.lf.1 then p.lf.2.1.ev (C.map Int.ofNat) D=0 else p.lf.2.1.ev (C.map Int.ofNat) D≤0))∧(¬p.D C D→p.lf.2.2.ev (C.map Int.ofNat) D≤0):=by
 have nn:Lf.ev (C.map Int.ofNat) D (0,[],[])=0:=fH _ _ _;induction p with
 |l x y=>exact(show(x.N C≤y.N C→Lf.ev _ _ (x.ln.oK y.ln 0)≤0)∧(¬x.N C≤y.N C→Lf.ev _ _ (y.ln.oK x.ln 1)≤0) by rw[e9,e9,jH,jH];exact⟨fun h=>LI.1 (Int.ofNat_le.2 h),fun h=>LI.2 fun q=>h (Int.ofNat_le.1 q)⟩)
 |t x y=>exact(show(x.N C<y.N C→Lf.ev _ _ (x.ln.oK y.ln 1)≤0)∧(¬x.N C<y.N C→Lf.ev _ _ (y.ln.oK x.ln 0)≤0) by rw[e9,e9,jH,jH];exact⟨fun h=>LJ.1 (Int.ofNat_lt.2 h),fun h=>LJ.2 fun q=>h (Int.ofNat_lt.1 q)⟩)
 |e x y=>exact(show(x.N C=y.N C→Lf.ev _ _ (x.ln.oK y.ln 0)=0)∧(¬x.N C=y.N C→Lf.ev _ _ (0,[],[])≤0) by rw[e9,jH,jH,nn];exact⟨fun h=>Nz.1 (av Int.ofNat h),fun a_=>Int.le_refl _⟩)
 |L x y=>exact(show(x.Z C D≤y.Z C D→Lf.ev _ _ (x.lz.oK y.lz 0)≤0)∧(¬x.Z C D≤y.Z C D→Lf.ev _ _ (y.lz.oK x.lz 1)≤0) by rw[e9,e9,kZ,kZ];exact LI)
 |T x y=>exact(show(x.Z C D<y.Z C D→Lf.ev _ _ (x.lz.oK y.lz 1)≤0)∧(¬x.Z C D<y.Z C D→Lf.ev _ _ (y.lz.oK x.lz 0)≤0) by rw[e9,e9,kZ,kZ];exact LJ)
 |E x y=>exact(show(x.Z C D=y.Z C D→Lf.ev _ _ (x.lz.oK y.lz 0)=0)∧(¬x.Z C D=y.Z C D→Lf.ev _ _ (0,[],[])≤0) by rw[e9,kZ,kZ,nn];exact Nz)
 |n p ih=>refine⟨fun h=>ih.2 h,fun h=>?_⟩;have h:=ih.1 (Classical.byContradiction h);exact(show p.lf.2.1.ev _ _≤0 by revert h;cases p.lf.1;exact id;exact Int.le_of_eq)
 |f=>exact⟨fun h=>h.elim,fun a_=>(show Lf.ev _ _ (0,[],[])≤0 by rw[nn];exact Int.le_refl _)⟩
theorem BV.elim{C:List Nat}{D:List Int}{hs:List Pr}{X Y:Prop}(h:BV C D hs X)(k:X→Y):BV C D hs Y:=by
 induction hs with
 |nil=>exact k h
 |cons p hs ih=>exact fun hp=>ih (h hp)
theorem BZ{C:List Nat}{D:List Int}(hs:List Pr)(ks:List Int)(q:Lf)(h:zrun hs ks q=true)(e:q.ev (C.map Int.ofNat) D≤0):BV C D hs False:=by
 induction hs generalizing ks q with
 |nil=>exact BY h C D e
 |cons p hs ih=>
  intro hp;cases ks with
  |nil=>exact ih [] q h e
  |cons k ks=>
   have h:=(Bool.and_eq_true_iff.1 h);have hq:=(yQ C D p).1 hp;refine ih ks _ h.2 ?_;rw[iV,fA];cases hb:p.lf.1 with
   |true=>rw[hb]at hq;rw[show p.lf.2.1.ev (C.map Int.ofNat) D=0 from hq,Int.mul_zero,Int.add_zero];exact e
   |false=>
    rw[hb]at hq;have hk:0≤k:=by have:=h.1;rw[hb]at this;simpa using this
    exact Int.add_nonpos e (HX hk hq)
theorem BV.not{C:List Nat}{D:List Int}{hs:List Pr}{X:Prop}(h:¬X→BV C D hs False):BV C D hs X:=
 Classical.byCases (fun hx:X=>by
  clear h;induction hs with
  |nil=>exact hx
  |cons p hs ih=>exact fun a_=>ih) fun hx=>(h hx).elim False.elim
theorem tR{C:List Nat}{D:List Int}(hs:List Pr)(g:Pr)(k:Nat)(ks:List Int)(h:zrun hs ks (g.lf.2.2.mul k)=true):BV C D hs (g.D C D):=BV.not fun n=>BZ hs ks _ h (by rw[fA];exact HX (c7 k) ((yQ C D g).2 n))
noncomputable section
noncomputable def NA(f:Nat):Nat→Ta×Nat:=Nat.rec (fun n=>(.n 0,n)) (fun a_ d n=>
 Nat.rec (.v 0,n/16) (fun o a_=>Nat.rec (.v 1,n/16) (fun o a_=>Nat.rec (.v 2,n/16) (fun o a_=>Nat.rec (.v 3,n/16) (fun o a_=>Nat.rec (.w 0,n/16) (fun o a_=>Nat.rec (.w 1,n/16) (fun o a_=>Nat.rec (.w 2,n/16) (fun o a_=>Nat.rec (.n (n/16% 16),n/256)
  (fun o a_=>Nat.rec (.n (n/256% 16^(n/16% 16)),n/256/16^(n/16% 16))
  (fun o a_=>Nat.rec (.a (d (n/16)).1 (d (d (n/16)).2).1,(d (d (n/16)).2).2)
  (fun o a_=>Nat.rec (.m (n/16% 256) (d (n/4096)).1,(d (n/4096)).2)
  (fun o a_=>Nat.rec (.r (d (n/4096)).1 (n/16% 256),(d (n/4096)).2)
  (fun o a_=>Nat.rec (.s (d (n/16)).1 (d (d (n/16)).2).1,(d (d (n/16)).2).2)
  (fun o a_=>Nat.rec (.g (d (n/16)).1,(d (n/16)).2) (fun o a_=>Nat.rec (.c (d (n/16)).1,(d (n/16)).2) (fun a_ b_=>(.v (n/16% 16),n/256)) o) o) o) o) o) o) o) o) o) o) o) o) o) o) (n% 16)) f
noncomputable def ai(n:Nat):Pr×Nat:=
 let x:=NA 9 (n/16);let y:=NA 9 x.2
 Nat.rec (.l x.1 y.1,y.2) (fun o a_=>Nat.rec (.t x.1 y.1,y.2) (fun o a_=>Nat.rec (.e x.1 y.1,y.2) (fun o a_=>Nat.rec (.L x.1 y.1,y.2) (fun o a_=>Nat.rec (.T x.1 y.1,y.2) (fun o a_=>Nat.rec (.E x.1 y.1,y.2) (fun o a_=>Nat.rec (.n (.l x.1 y.1),y.2) (fun o a_=>Nat.rec (.n (.t x.1 y.1),y.2) (fun o a_=>Nat.rec (.n (.L x.1 y.1),y.2) (fun o a_=>Nat.rec (.n (.T x.1 y.1),y.2) (fun a_ b_=>(.f,n/16)) o) o) o) o) o) o) o) o) o) (n% 16)
end
theorem HY{C:List Nat}{D:List Int}(n:Nat)(h:true=zrun [] [] ((ai n).1.lf.2.2.mul 1)):(ai n).1.D C D:=tR [] (ai n).1 1 [] h.symm
theorem B0{C:List Nat}{D:List Int}(n:Nat)(h:true=zrun [(ai (ai n).2).1] [1] ((ai n).1.lf.2.2.mul 1)):(ai (ai n).2).1.D C D→(ai n).1.D C D:=tR [(ai (ai n).2).1] (ai n).1 1 [1] h.symm
theorem Ep{C:List Nat}{D:List Int}(n k:Nat)(ks:List Int)(h:true=zrun [(ai (ai n).2).1] ks ((ai n).1.lf.2.2.mul k)):(ai (ai n).2).1.D C D→(ai n).1.D C D:=tR [(ai (ai n).2).1] (ai n).1 k ks h.symm
theorem yR{C:List Nat}{D:List Int}(n:Nat)(h:true=zrun [(ai (ai n).2).1,(ai (ai (ai n).2).2).1] [1,1] ((ai n).1.lf.2.2.mul 1)):(ai (ai n).2).1.D C D→(ai (ai (ai n).2).2).1.D C D→(ai n).1.D C D:=tR [(ai (ai n).2).1,(ai (ai (ai n).2).2).1] (ai n).1 1 [1,1] h.symm
theorem oP{C:List Nat}{D:List Int}(n k:Nat)(ks:List Int)(h:true=zrun [(ai (ai n).2).1,(ai (ai (ai n).2).2).1] ks ((ai n).1.lf.2.2.mul k)):(ai (ai n).2).1.D C D→(ai (ai (ai n).2).2).1.D C D→(ai n).1.D C D:=tR [(ai (ai n).2).1,(ai (ai (ai n).2).2).1] (ai n).1 k ks h.symm
theorem KJ{C:List Nat}{D:List Int}(n:Nat)(h:true=zrun [(ai (ai n).2).1,(ai (ai (ai n).2).2).1,(ai (ai (ai (ai n).2).2).2).1] [1,1,1] ((ai n).1.lf.2.2.mul 1)):(ai (ai n).2).1.D C D→(ai (ai (ai n).2).2).1.D C D→(ai (ai (ai (ai n).2).2).2).1.D C D→(ai n).1.D C D:=tR [(ai (ai n).2).1,(ai (ai (ai n).2).2).1,(ai (ai (ai (ai n).2).2).2).1] (ai n).1 1 [1,1,1] h.symm
theorem lj{C:List Nat}{D:List Int}(n k:Nat)(ks:List Int)(h:true=zrun [(ai (ai n).2).1,(ai (ai (ai n).2).2).1,(ai (ai (ai (ai n).2).2).2).1] ks ((ai n).1.lf.2.2.mul k)):(ai (ai n).2).1.D C D→(ai (ai (ai n).2).2).1.D C D→(ai (ai (ai (ai n).2).2).2).1.D C D→(ai n).1.D C D:=tR [(ai (ai n).2).1,(ai (ai (ai n).2).2).1,(ai (ai (ai (ai n).2).2).2).1] (ai n).1 k ks h.symm
theorem NB{C:List Nat}{D:List Int}(n:Nat)(h:true=zrun [(ai (ai n).2).1,(ai (ai (ai n).2).2).1,(ai (ai (ai (ai n).2).2).2).1,(ai (ai (ai (ai (ai n).2).2).2).2).1] [1,1,1,1] ((ai n).1.lf.2.2.mul 1)):(ai (ai n).2).1.D C D→(ai (ai (ai n).2).2).1.D C D→(ai (ai (ai (ai n).2).2).2).1.D C D→(ai (ai (ai (ai (ai n).2).2).2).2).1.D C D→(ai n).1.D C D:=tR [(ai (ai n).2).1,(ai (ai (ai n).2).2).1,(ai (ai (ai (ai n).2).2).2).1,(ai (ai (ai (ai (ai n).2).2).2).2).1] (ai n).1 1 [1,1,1,1] h.symm
theorem mN{C:List Nat}{D:List Int}(n k:Nat)(ks:List Int)(h:true=zrun [(ai (ai n).2).1,(ai (ai (ai n).2).2).1,(ai (ai (ai (ai n).2).2).2).1,(ai (ai (ai (ai (ai n).2).2).2).2).1] ks ((ai n).1.lf.2.2.mul k)):(ai (ai n).2).1.D C D→(ai (ai (ai n).2).2).1.D C D→(ai (ai (ai (ai n).2).2).2).1.D C D→(ai (ai (ai (ai (ai n).2).2).2).2).1.D C D→(ai n).1.D C D:=tR [(ai (ai n).2).1,(ai (ai (ai n).2).2).1,(ai (ai (ai (ai n).2).2).2).1,(ai (ai (ai (ai (ai n).2).2).2).2).1] (ai n).1 k ks h.symm
theorem OL{C:List Nat}{D:List Int}(n:Nat)(h:true=zrun [(ai (ai n).2).1,(ai (ai (ai n).2).2).1,(ai (ai (ai (ai n).2).2).2).1,(ai (ai (ai (ai (ai n).2).2).2).2).1,(ai (ai (ai (ai (ai (ai n).2).2).2).2).2).1] [1,1,1,1,1] ((ai n).1.lf.2.2.mul 1)):(ai (ai n).2).1.D C D→(ai (ai (ai n).2).2).1.D C D→(ai (ai (ai (ai n).2).2).2).1.D C D→(ai (ai (ai (ai (ai n).2).2).2).2).1.D C D→(ai (ai (ai (ai (ai (ai n).2).2).2).2).2).1.D C D→(ai n).1.D C D:=tR [(ai (ai n).2).1,(ai (ai (ai n).2).2).1,(ai (ai (ai (ai n).2).2).2).1,(ai (ai (ai (ai (ai n).2).2).2).2).1,(ai (ai (ai (ai (ai (ai n).2).2).2).2).2).1] (ai n).1 1 [1,1,1,1,1] h.symm
theorem KL{C:List Nat}{D:List Int}(n k:Nat)(ks:List Int)(h:true=zrun [(ai (ai n).2).1,(ai (ai (ai n).2).2).1,(ai (ai (ai (ai n).2).2).2).1,(ai (ai (ai (ai (ai n).2).2).2).2).1,(ai (ai (ai (ai (ai (ai n).2).2).2).2).2).1] ks ((ai n).1.lf.2.2.mul k)):(ai (ai n).2).1.D C D→(ai (ai (ai n).2).2).1.D C D→(ai (ai (ai (ai n).2).2).2).1.D C D→(ai (ai (ai (ai (ai n).2).2).2).2).1.D C D→(ai (ai (ai (ai (ai (ai n).2).2).2).2).2).1.D C D→(ai n).1.D C D:=tR [(ai (ai n).2).1,(ai (ai (ai n).2).2).1,(ai (ai (ai (ai n).2).2).2).1,(ai (ai (ai (ai (ai n).2).2).2).2).1,(ai (ai (ai (ai (ai (ai n).2).2).2).2).2).1] (ai n).1 k ks h.symm
theorem KN{C:List Nat}{D:List Int}(n k:Nat)(ks:List Int)(h:true=zrun [(ai (ai n).2).1,(ai (ai (ai n).2).2).1,(ai (ai (ai (ai n).2).2).2).1,(ai (ai (ai (ai (ai n).2).2).2).2).1,(ai (ai (ai (ai (ai (ai n).2).2).2).2).2).1,(ai (ai (ai (ai (ai (ai (ai n).2).2).2).2).2).2).1] ks ((ai n).1.lf.2.2.mul k)):(ai (ai n).2).1.D C D→(ai (ai (ai n).2).2).1.D C D→(ai (ai (ai (ai n).2).2).2).1.D C D→(ai (ai (ai (ai (ai n).2).2).2).2).1.D C D→(ai (ai (ai (ai (ai (ai n).2).2).2).2).2).1.D C D→(ai (ai (ai (ai (ai (ai (ai n).2).2).2).2).2).2).1.D C D→(ai n).1.D C D:=tR [(ai (ai n).2).1,(ai (ai (ai n).2).2).1,(ai (ai (ai (ai n).2).2).2).1,(ai (ai (ai (ai (ai n).2).2).2).2).1,(ai (ai (ai (ai (ai (ai n).2).2).2).2).2).1,(ai (ai (ai (ai (ai (ai (ai n).2).2).2).2).2).2).1] (ai n).1 k ks h.symm
theorem ND{C:List Nat}{D:List Int}(n k:Nat)(ks:List Int)(h:true=zrun [(ai (ai n).2).1,(ai (ai (ai n).2).2).1,(ai (ai (ai (ai n).2).2).2).1,(ai (ai (ai (ai (ai n).2).2).2).2).1,(ai (ai (ai (ai (ai (ai n).2).2).2).2).2).1,(ai (ai (ai (ai (ai (ai (ai n).2).2).2).2).2).2).1,(ai (ai (ai (ai (ai (ai (ai (ai n).2).2).2).2).2).2).2).1] ks ((ai n).1.lf.2.2.mul k)):(ai (ai n).2).1.D C D→(ai (ai (ai n).2).2).1.D C D→(ai (ai (ai (ai n).2).2).2).1.D C D→(ai (ai (ai (ai (ai n).2).2).2).2).1.D C D→(ai (ai (ai (ai (ai (ai n).2).2).2).2).2).1.D C D→(ai (ai (ai (ai (ai (ai (ai n).2).2).2).2).2).2).1.D C D→(ai (ai (ai (ai (ai (ai (ai (ai n).2).2).2).2).2).2).2).1.D C D→(ai n).1.D C D:=tR [(ai (ai n).2).1,(ai (ai (ai n).2).2).1,(ai (ai (ai (ai n).2).2).2).1,(ai (ai (ai (ai (ai n).2).2).2).2).1,(ai (ai (ai (ai (ai (ai n).2).2).2).2).2).1,(ai (ai (ai (ai (ai (ai (ai n).2).2).2).2).2).2).1,(ai (ai (ai (ai (ai (ai (ai (ai n).2).2).2).2).2).2).2).1] (ai n).1 k ks h.symm
def eM{x:Int}:=@Ep [] [x]
def fm{a:Nat}:=@Ep [a] []
def xf{a:Nat}{x:Int}:=@Ep [a] [x]
def eQ{a b:Nat}:=@Ep [a,b] []
def B1{a b:Nat}{x:Int}:=@Ep [a,b] [x]
def tX{a b c:Nat}:=@Ep [a,b,c] []
def Er{a b c d:Nat}:=@Ep [a,b,c,d] []
def yS{x:Int}:=@oP [] [x]
def qv{x y:Int}:=@oP [] [x,y]
def rW{a:Nat}:=@oP [a] []
def yT{a:Nat}{x:Int}:=@oP [a] [x]
def HZ{a:Nat}{x y:Int}:=@oP [a] [x,y]
def iA{a b:Nat}:=@oP [a,b] []
def fO{a b:Nat}{x:Int}:=@oP [a,b] [x]
def B2{a b:Nat}{x y:Int}:=@oP [a,b] [x,y]
def fe{a b c:Nat}:=@oP [a,b,c] []
def tY{a b c:Nat}{x:Int}:=@oP [a,b,c] [x]
def jl{a b c d:Nat}:=@oP [a,b,c,d] []
def LK{x y:Int}:=@lj [] [x,y]
def Et{a:Nat}{x:Int}:=@lj [a] [x]
def LM{a:Nat}{x y:Int}:=@lj [a] [x,y]
def LN{a b:Nat}:=@lj [a,b] []
def Eu{a b:Nat}{x:Int}:=@lj [a,b] [x]
def H2{a b:Nat}{x y:Int}:=@lj [a,b] [x,y]
def tZ{a b c:Nat}:=@lj [a,b,c] []
def LO{a b c:Nat}{x:Int}:=@lj [a,b,c] [x]
def gn{a b c d:Nat}:=@lj [a,b,c,d] []
def xg{a b c d:Nat}{x:Int}:=@lj [a,b,c,d] [x]
def LP{a:Nat}{x y:Int}:=@mN [a] [x,y]
def LQ{a b c d:Nat}:=@mN [a,b,c,d] []
def H3{a b c d:Nat}{x:Int}:=@mN [a,b,c,d] [x]
def LR{a b c d:Nat}{x y:Int}:=@KL [a,b,c,d] [x,y]
def rX{x:Int}:=@HY [] [x]
def bX{a:Nat}:=@HY [a] []
def lq{a:Nat}{x:Int}:=@HY [a] [x]
def fo{a b:Nat}:=@HY [a,b] []
def H4{a b c:Nat}:=@HY [a,b,c] []
def aZ{x:Int}:=@B0 [] [x]
def oQ{x y:Int}:=@B0 [] [x,y]
def aC{a:Nat}:=@B0 [a] []
def cm{a:Nat}{x:Int}:=@B0 [a] [x]
def LS{a:Nat}{x y:Int}:=@B0 [a] [x,y]
def ar{a b:Nat}:=@B0 [a,b] []
def qw{a b:Nat}{x:Int}:=@B0 [a,b] [x]
def bG{a b c:Nat}:=@B0 [a,b,c] []
def m7{a b c d:Nat}:=@B0 [a,b,c,d] []
def Ew{x y:Int}:=@yR [] [x,y]
def LU{x y z:Int}:=@yR [] [x,y,z]
def oR{a:Nat}{x:Int}:=@yR [a] [x]
def LV{a:Nat}{x y:Int}:=@yR [a] [x,y]
def dC{a b:Nat}:=@yR [a,b] []
def iw{a b:Nat}{x:Int}:=@yR [a,b] [x]
def eR{a b c:Nat}:=@yR [a,b,c] []
def m8{a b c d:Nat}:=@yR [a,b,c,d] []
def yU{a b:Nat}{x:Int}:=@KJ [a,b] [x]
def m9{a b c:Nat}:=@KJ [a,b,c] []
def B3{a b c:Nat}{x:Int}:=@KJ [a,b,c] [x]
def Ey{a b c d:Nat}:=@KJ [a,b,c,d] []
def LW{a b c:Nat}{x:Int}:=@NB [a,b,c] [x]
def Ez{a b c d:Nat}:=@NB [a,b,c,d] []
def yV{a b c d:Nat}{x:Int}:=@OL [a,b,c,d] [x]
theorem ln2(C:List Nat)(D:List Int)(p q g:Pr)(k:Nat)(ks:List Int)(h:zrun [p,q] ks (g.lf.2.2.mul k)=true):p.D C D→q.D C D→g.D C D:=tR [p,q] g k ks h
theorem lo1(C:List Nat)(D:List Int)(p g:Pr)(h:zrun [p] [1] (g.lf.2.2.mul 1)=true):p.D C D→g.D C D:=tR [p] g 1 [1] h
theorem NF(C:List Nat)(D:List Int)(p q g:Pr)(h:zrun [p,q] [1,1] (g.lf.2.2.mul 1)=true):p.D C D→q.D C D→g.D C D:=tR [p,q] g 1 [1,1] h
theorem zs(a b:Nat):a≤a-b+b:=Nat.sub_le_iff_le_add.1 (bF _)
noncomputable abbrev Led:=List (Addr×Obj)
noncomputable abbrev Ar(dp un:Nat)(gd:Option (List Code))(stack:List Env):Around:={handled:=none,depth:=dp,frames:=some stack,guards:=gd,units:=un}
abbrev jI(cy:ExcName→Option Value)(mg mb:Str→Option Value)(h:Heap):Prop:=Top hd.view_39 (looseW hd.view_39 [Str.ofString "LockTable"]) cy mg mb h
def ik(g h:Heap)(l:Led):Prop:=∀p∈l,h.get? p.1=some p.2∧g.get? p.1=none
noncomputable abbrev adr(l:Led):List Addr:=l.map (·.1)
def il(g:Heap)(stack:List Env)(post:Led)(h':Heap)(e:Addr):Prop:=∃Bh a0,(∀b o,g.get? b=some o→b∉stack.filterMap (·.frame)→Bh.get? b=some o)∧(∀p∈post,Bh.get? p.1=some p.2∧g.get? p.1=none)∧Heap.FlyingW Bh stack e (.ref 99) a0 h'∧g.UpToSlots h'
def Spec(w:World)(f:Addr)(lv:Nat)(args:List Value)(pre:Led)(Rr:Value→Led→Prop)(Re:Led→Prop):Prop:=
 ∀(cy:ExcName→Option Value) (mg mb:Str→Option Value) (dp un:Nat) (gd:Option (List Code)) (stack:List Env) (base g:Heap) (s:Shared) (R:Result→Shared→Prop),
  Below (Ar dp un gd stack) base stack g→(∀b o,g.get? b=some o→s.heap.get? b=some o)→g.objs.size≤s.heap.objs.size→(hd.heap_39 w.params).In g→jI cy mg mb g→
  ik g s.heap pre→(adr pre).Nodup→dp+lv≤900→un+10*lv≤6000→
  (∀v post h' dU,(∀b o,g.get? b=some o→h'.get? b=some o)→ik g h' post→(adr post).Nodup→Rr v post→R (.ok (.ret v)) {s with heap:=h',toks:=dU})→
  (∀e post h' dU,il g stack post h' e→(adr post).Nodup→Re post→R (.error (.ref e)) {s with heap:=h',toks:=dU})→
  codeAny (model PySem.Challenge.rw_xw0233_01.row.prog w) (Ar dp un gd stack) (.call (.ref f) ⟨args,[]⟩) R s
theorem rY(N:News g L h l):ik g h l:=fun p hp=>⟨(N p hp).1,(N p hp).2.2⟩
theorem enter{w:World}{dp un:Nat}{gd:Option (List Code)}{stack:List Env}{base g:Heap}{s:Shared}{R:Result→Shared→Prop}{f:Addr}{args:List Value}{pre:Led}{cy:ExcName→Option Value}{mg mb:Str→Option Value}{name qual:Str}{params:Arguments}{body:List Stmt}{scope:Scope}{dV kV doc pm gQ ct oc:Value}{an od:Option Addr}{BE:Array (Option Value)}{binds:List (Str×Value)}(B:Below (Ar dp un gd stack) base stack g)(kp:∀b o,g.get? b=some o→s.heap.get? b=some o)(sz:g.objs.size≤s.heap.objs.size)(X:(hd.heap_39 w.params).In g)(T:jI cy mg mb g)(N:ik g s.heap pre)(ka:dp<recursionLimit)(ho:(hd.heap_39 w.params).lookup f=some ⟨oc,od,.func (fnOf name qual params body scope dV kV doc pm an gQ ct),BE⟩)(t5:codeIn (hd.heap_39 w.params) gQ qual=true)(kb:BindsTo s (fnOf name qual params body scope dV kV doc pm an gQ ct) ⟨args,[]⟩ binds)(EA:∀y∈binds,scope.names.lookup y.1=some .local)(h:∀L bH,Fr g L bH (fun y=>binds.reverse.lookup y)→News g L bH pre→(∀p∈pre,p.1<L)→wpAny (model PySem.Challenge.rw_xw0233_01.row.prog w) ((Ar dp un gd stack).deeper (envOf qual scope L f gQ)) (execs body (envOf qual scope L f gQ)) (fun fl s'=>R (.ok (.ret (match fl with|.ret v=>v|_=>.none))) s') (fun e s'=>wpAny (model PySem.Challenge.rw_xw0233_01.row.prog w) ((Ar dp un gd stack).deeper (envOf qual scope L f gQ)) (leaving (envOf qual scope L f gQ) e) (fun a_ ij=>R (.error e) ij) (fun e' ij=>R (.error e') ij) s') {s with heap:=bH,toks:=s.toks+binds.length})(jm:scope.isCoroutine=false)(lu:scope.isGenerator=false)(hk:scope.kind=.function)(mi:∀x∈scope.names,x.2≠.cell):codeAny (model PySem.Challenge.rw_xw0233_01.row.prog w) (Ar dp un gd stack) (.call (.ref f) ⟨args,[]⟩) R s:=by have Xs:(hd.heap_39 w.params).In s.heap:=X.keeps kp;exact codeAny_call_def (fd:=fnOf name qual params body scope dV kV doc pm an gQ ct) (body:=body) (binds:=binds) ka (Xs _ _ ho) rfl (T.nolimit.keeps kp) (codeRec_of Xs t5) rfl kb mi EA (fun bH tV f'=>(h s.heap.objs.size bH ⟨tV,fun b o e=>f' b o (kp b o e),sz⟩ (fun p hp=>aN (f' _ _ (N p hp).1) (Nat.ne_of_lt (Heap.lt_size (N p hp).1)) ((N p hp).2)) (fun p hp=>Heap.lt_size (N p hp).1))) jm lu hk
theorem gR(P:news.Perm (pre++rest))(D:(adr news).Nodup):∀p∈rest,p.1∉adr pre:=by have D':(adr (pre++rest)).Nodup:=(P.map (·.1)).nodup_iff.mp D;simp only[adr,List.map_append]at D';intro p hp hm;exact(List.nodup_append.mp D').2.2 _ hm _ (List.mem_map_of_mem hp) rfl
theorem rZ(C:Spec w f lv args pre Rr Re)(B:Below A₀ base outer h₀)(F:Fr h₀ L s.heap m)(X:(hd.heap_39 w.params).In h₀)(T:jI cy mg mb h₀)(N:News h₀ L s.heap news)(D:(adr news).Nodup)(P:news.Perm (pre++rest))(hf:env.frame=some L)(H5:env.scope.kind=.function)(yW:dp+lv≤900)(hu:un+10*lv≤6000)(ret:∀v post h' dU,Fr h₀ L h' m→News h₀ L h' (post++rest)→(adr (post++rest)).Nodup→Rr v post→R (.ok (.ret v)) {s with heap:=h',toks:=dU})(err:∀e post h' dU,il (hideAll s.heap (adr pre)) (env::outer) post h' e→(adr (post++rest)).Nodup→Re post→R (.error (.ref e)) {s with heap:=h',toks:=dU}):codeAny (model PySem.Challenge.rw_xw0233_01.row.prog w) (Ar dp un gd (env::outer)) (.call (.ref f) ⟨args,[]⟩) R s:=by
 have qy:News h₀ L s.heap pre:=fun p hp=>N p (P.mem_iff.mpr (List.mem_append_left _ hp));have yX:News h₀ L s.heap rest:=fun p hp=>N p (P.mem_iff.mpr (cb _ hp));have Dz:=gR P D;have D':(adr (pre++rest)).Nodup:=(P.map (·.1)).nodup_iff.mp D;have EB:=D';simp only[adr,List.map_append]at EB;refine oO (groundX (A:=Ar dp un gd (env::outer)) (R:=fun a_ b_=>True) B F qy rfl hf H5) fun FG BG st ph=>?_;have Tg:jI cy mg mb (hideAll s.heap (adr pre)):=T.keeps st;have Xg:(hd.heap_39 w.params).In (hideAll s.heap (adr pre)):=X.keeps st;have nc:∀p∈rest,(hideAll s.heap (adr pre)).get? p.1=some p.2:=fun p hp=>hideAll_get _ (yX p hp).1 (Dz p hp);have apart:∀post:Led,(∀p∈post,(hideAll s.heap (adr pre)).get? p.1=none)→(adr post).Nodup→(adr (post++rest)).Nodup:=fun post hn hD=>by simp only[adr,List.map_append];refine List.nodup_append.mpr (aN hD ((List.nodup_append.mp EB).2.1) (fun a ha b hb e=>(aa (bO.mp ha) fun p hp aQ=>?_)));clear ha;subst aQ;refine aa (bO.mp hb) fun q hq aQ=>?_;clear hb;subst aQ;have h1:=hn p hp;rw[e,nc q hq]at h1;exact sN h1
 refine C cy mg mb dp un gd (env::outer) base (hideAll s.heap (adr pre)) s _ BG (fun b o e=>of_hideAll _ e) (Nat.le_of_eq (hideAll_size _ _)) Xg Tg (fun p hp=>⟨(qy p hp).1,hideAll_none _ (List.mem_map_of_mem hp)⟩) (List.nodup_append.mp EB).1 yW hu (fun v post h' dU kp N' Dp hr=>?_) fun e post h' dU fl Dp hr=>?_
 ·refine br FG.ns fun oL es ep EC LX LY LZ=>ret v post h' dU ⟨(aR oL es ep (kp L oL EC) LX LY LZ),fun b o e=>kp b o (st b o e),F.above⟩ (fun p hp=>?_) (apart post (fun p hp=>(N' p hp).2) Dp) hr;rcases cC.mp hp with hp|hp
  ·refine aN ((N' p hp).1) (fun q=>?_) ?_
   ·have:=(N' p hp).2;rw[q,EC]at this;exact sN this
   ·generalize q:h₀.get? p.1=y_;induction y_ with
    |none=>rfl
    |some o=>have:=(N' p hp).2;rw[st _ _ q]at this;exact sN this
  ·exact⟨kp _ _ (nc p hp),(yX p hp).2⟩
 ·exact err e post h' dU fl (apart post (fun p hp=>(bV fl fun Bh a0 f1 f2 f3 f4=>((f2 p hp).2))) Dp) hr
theorem use(C:Spec w f lv args pre Rr Re)(B:Below A₀ base outer h₀)(F:Fr h₀ L s.heap m)(X:(hd.heap_39 w.params).In h₀)(T:jI cy mg mb h₀)(N:News h₀ L s.heap news)(D:(adr news).Nodup)(P:news.Perm (pre++rest))(hf:env.frame=some L)(H5:env.scope.kind=.function)(yW:dp+lv≤900)(hu:un+10*lv≤6000)(ret:∀v post h' dU,Fr h₀ L h' m→News h₀ L h' (post++rest)→(adr (post++rest)).Nodup→Rr v post→Q v {s with heap:=h',toks:=dU})(err:∀e post h' dU,il (hideAll s.heap (adr pre)) (env::outer) post h' e→(adr (post++rest)).Nodup→Re post→E (.ref e) {s with heap:=h',toks:=dU}):wpAny (model PySem.Challenge.rw_xw0233_01.row.prog w) (Ar dp un gd (env::outer)) (call (.ref f) args) Q E s:=wpAny_call (rZ C B F X T N D P hf H5 yW hu ret err)
theorem r5{w:World}{dp un:Nat}{gd:Option (List Code)}{env:Env}{outer:List Env}{base h₀:Heap}{L e:Addr}{m:Str→Option Value}{news pre rest post:Led}{s:Shared}{hs h':Heap}{tk:Nat}{Q:Unit→Shared→Prop}{E:dB}(B:Below (Ar dp un gd outer) base outer h₀)(F:Fr h₀ L hs m)(N:News h₀ L hs news)(D:(adr news).Nodup)(P:news.Perm (pre++rest))(hf:env.frame=some L)(Fl:il (hideAll hs (adr pre)) (env::outer) post h' e)(hQ:∀jr,il h₀ outer (post++rest) jr e→Q () {s with heap:=jr,toks:=tk}):wpAny (model PySem.Challenge.rw_xw0233_01.row.prog w) ((Ar dp un gd outer).deeper env) (leaving env (.ref e)) Q E {s with heap:=h',toks:=tk}:=by
 refine bV Fl fun Bh a0 f1 f2 f3 f4=>?_
 have r6:h₀.get? L=none:=by
  generalize q:h₀.get? L=y_;induction y_ with
  |none=>rfl
  |some o=>exact absurd (Heap.lt_size q) (Nat.not_lt.mpr F.above)
 have jk:∀b o,h₀.get? b=some o→b∉adr pre:=fun b o hb hm=>by refine aa (bO.mp hm) fun p hp aQ=>?_;clear hm;subst aQ;have:=(N p (P.mem_iff.mpr (List.mem_append_left _ hp))).2.2;rw[hb]at this;exact sN this
 have st:∀b o,h₀.get? b=some o→(hideAll hs (adr pre)).get? b=some o:=fun b o hb=>hideAll_get _ (F.keep b o hb) (jk b o hb);have Dz:=gR P D;refine wpAny_leaves_onW (Around.frames_deeper B.stack) hf f3 fun jr x1 x2=>hQ jr (gm Bh a0 (fun b o hb hn=>f1 b o (st b o hb) ?_) (fun p hp=>?_) x1 ?_)
 ·intro hm;simp only[List.filterMap_cons,hf]at hm;rcases bD.mp hm with rfl|hm
  ·rw[r6]at hb;exact nS hb
  ·exact hn hm
 ·rcases cC.mp hp with hp|hp
  ·refine⟨(f2 p hp).1,?_⟩;generalize q:h₀.get? p.1=y_;induction y_ with
   |none=>rfl
   |some o=>have:=(f2 p hp).2;rw[st _ _ q]at this;exact sN this
  ·have Np:=N p (P.mem_iff.mpr (cb _ hp));refine⟨f1 _ _ (hideAll_get _ Np.1 (Dz p hp)) fun hm=>?_,Np.2.2⟩;simp only[List.filterMap_cons,hf]at hm;rcases bD.mp hm with q|hm
   ·exact Np.2.1 q
   ·refine aa ((B.frames.mem hm).2) fun o ho _=>?_;rw[Np.2.2]at ho;exact nS ho
 ·exact((Heap.UpToSlots.of_keeps st).trans f4).trans x2
abbrev KO:Led→Prop:=fun a_=>False
noncomputable abbrev dD(b:Array UInt8):Obj:={cls:=.type "bytearray",data:=.bytearray b}
namespace BF
theorem mro:mroOf (.type "bytearray")=pure [.type "bytearray",.type "object"]:=by rw[mroOf_type];kernel_rfl
theorem t6:typeLookup (.type "bytearray") "__new__"=pure (some (.builtin "bytearray.__new__")):=by rw[typeLookup_type,builtinLookup_eq_fast];kernel_rfl
theorem iW:Slot "bytearray" "__init__" "bytearray.__init__":=.of (owner:="bytearray") (n:="__init__") (by rw[typeLookup_type,builtinLookup_eq_fast];kernel_rfl) (by decide+kernel) (by decide+kernel) (by decide+kernel) (by first|exact .inl (by decide+kernel)|exact .inr (by decide+kernel)) (by rw[isSubtype_type];kernel_rfl)
theorem called:TypeCalled "bytearray" "bytearray.__new__" "bytearray.__init__":=⟨by decide+kernel,by decide+kernel,(vI _ _ mro),madeBy_type mro t6 (by decide+kernel),by decide+kernel,by rw[isSubtype_type];kernel_rfl,iW⟩
theorem xh:entryFor table "bytearray.__new__"=some Builtin.«list.__new__»:=entryFor_alias (id':="list.__new__") (by kernel_rfl) (by decide+kernel) (by decide+kernel) (by kernel_rfl)
theorem pq:plainId "bytearray.__new__"=true:=by decide+kernel
theorem xi:checkBuiltinCall "bytearray.__new__" ⟨[.type "bytearray"],[]⟩=pure ():=by kernel_rfl
theorem xj(a:Value):checkBuiltinCall "bytearray.__new__" ⟨[.type "bytearray",a],[]⟩=pure ():=by kernel_rfl
theorem t7:checkTypeCall "bytearray" ⟨[],[]⟩=pure ():=by kernel_rfl
theorem t8(a:Value):checkTypeCall "bytearray" ⟨[a],[]⟩=pure ():=by kernel_rfl
theorem sub_self:isSubtype (.type "bytearray") (.type "bytearray")=pure true:=by rw[isSubtype_type];kernel_rfl
theorem xk:("bytearray.__new__".splitOn ".__new__").headD ""="bytearray":=by rw[PySem.W.split_bytearray];rfl
theorem nf:entryFor table "bytearray.__init__"=some Builtin.«bytearray.__init__»:=entryFor_of_tree (by kernel_rfl)
theorem r7:Slot "bytearray" "__len__" "bytearray.__len__":=.of (owner:="bytearray") (n:="__len__") (by rw[typeLookup_type,builtinLookup_eq_fast];kernel_rfl) (by decide+kernel) (by decide+kernel) (by decide+kernel) (by first|exact .inl (by decide+kernel)|exact .inr (by decide+kernel)) (by rw[isSubtype_type];kernel_rfl)
theorem entry_len:entryFor table "bytearray.__len__"=some Builtin.«bytearray.__len__»:=entryFor_of_tree (by kernel_rfl)
theorem yY(a:Value):argsOk "bytearray.__len__" ⟨[a],[]⟩:=by unfold argsOk;kernel_rfl
theorem gS:Slot "bytearray" "__getitem__" "bytearray.__getitem__":=.of (owner:="bytearray") (n:="__getitem__") (by rw[typeLookup_type,builtinLookup_eq_fast];kernel_rfl) (by decide+kernel) (by decide+kernel) (by decide+kernel) (by first|exact .inl (by decide+kernel)|exact .inr (by decide+kernel)) (by rw[isSubtype_type];kernel_rfl)
theorem oS:entryFor table "bytearray.__getitem__"=some Builtin.«bytearray.__getitem__»:=entryFor_of_tree (by kernel_rfl)
theorem qA(a b:Value):argsOk "bytearray.__getitem__" ⟨[a,b],[]⟩:=by unfold argsOk;kernel_rfl
theorem kc:Slot "bytearray" "__setitem__" "bytearray.__setitem__":=.of (owner:="bytearray") (n:="__setitem__") (by rw[typeLookup_type,builtinLookup_eq_fast];kernel_rfl) (by decide+kernel) (by decide+kernel) (by decide+kernel) (by first|exact .inl (by decide+kernel)|exact .inr (by decide+kernel)) (by rw[isSubtype_type];kernel_rfl)
theorem oT:entryFor table "bytearray.__setitem__"=some Builtin.«bytearray.__setitem__»:=entryFor_of_tree (by kernel_rfl)
theorem qB(a b c:Value):argsOk "bytearray.__setitem__" ⟨[a,b,c],[]⟩:=by unfold argsOk;kernel_rfl
theorem ke:Slot "bytearray" "__delitem__" "bytearray.__delitem__":=.of (owner:="bytearray") (n:="__delitem__") (by rw[typeLookup_type,builtinLookup_eq_fast];kernel_rfl) (by decide+kernel) (by decide+kernel) (by decide+kernel) (by first|exact .inl (by decide+kernel)|exact .inr (by decide+kernel)) (by rw[isSubtype_type];kernel_rfl)
theorem oU:entryFor table "bytearray.__delitem__"=some Builtin.«bytearray.__delitem__»:=entryFor_of_tree (by kernel_rfl)
theorem qC(a b:Value):argsOk "bytearray.__delitem__" ⟨[a,b],[]⟩:=by unfold argsOk;kernel_rfl
theorem mj:Slot "bytearray" "extend" "bytearray.extend":=.of (owner:="bytearray") (n:="extend") (by rw[typeLookup_type,builtinLookup_eq_fast];kernel_rfl) (by decide+kernel) (by decide+kernel) (by decide+kernel) (by first|exact .inl (by decide+kernel)|exact .inr (by decide+kernel)) (by rw[isSubtype_type];kernel_rfl)
theorem qD:entryFor table "bytearray.extend"=some Builtin.«bytearray.extend»:=entryFor_of_tree (by kernel_rfl)
theorem r8(a b:Value):argsOk "bytearray.extend" ⟨[a,b],[]⟩:=by unfold argsOk;kernel_rfl
theorem r9:typeOf (.builtin "bytearray.extend")=pure (.type "method_descriptor"):=by refine(?_:builtinType _=_);rw[builtinType_eq_fast];kernel_rfl
theorem t9:PlainAttrs "bytearray":=⟨(ah ("bytearray.__getattribute__") (by rw[typeLookup_type,builtinLookup_eq_fast];kernel_rfl) (by decide+kernel)),by rw[typeLookup_type,builtinLookup_eq_fast];kernel_rfl⟩
theorem sd:typeLookup (.type "bytearray") "__bytes__"=pure none:=by rw[typeLookup_type,builtinLookup_eq_fast];kernel_rfl
theorem se:typeLookup (.type "bytearray") "__index__"=pure none:=by rw[typeLookup_type,builtinLookup_eq_fast];kernel_rfl
theorem buffer:typeLookup (.type "bytearray") "__buffer__"=pure (some (.builtin "bytearray.__buffer__")):=by rw[typeLookup_type,builtinLookup_eq_fast];kernel_rfl
theorem B4:typeLookup (.type "bytes") "__buffer__"=pure (some (.builtin "bytes.__buffer__")):=by rw[typeLookup_type,builtinLookup_eq_fast];kernel_rfl
end BF
section
variable{M:Model}{A:Around}{E:dB}{s:Shared}
theorem qE(h:Q false s):cR M A (Builtin.Bytes.exported self) Q E s:=by
 unfold Builtin.Bytes.exported;refine qr (fun c p hc=>?_) h;induction c with
 |builtin id args=>
  have hn:∀x∈iU,¬id=x:=fun x hx e=>by have hc:iU.contains id=false:=hc;rw[e,List.contains_iff_mem.mpr hx]at hc;exact tF hc
  obtain⟨pos,kw⟩:=args
  delta PySem.Builtin.Bytes.exported.match_1;refine Eq.trans (dif_neg (hn _ (.head _))) (Eq.trans (dif_neg (hn _ (.tail _ (.head _)))) (Eq.trans (dif_neg (hn _ (.tail _ (.tail _ (.head _))))) (Eq.trans (dif_neg (hn _ (.tail _ (.tail _ (.tail _ (.head _)))))) ?_)));refine Eq.trans (dif_neg (hn _ (.tail _ (.tail _ (.tail _ (.tail _ (.head _))))))) ?_;induction pos using List.casesOn with
  |nil=>rfl
  |cons v l=>
   have e:Builtin.Bytes.decodersThatHold.contains id=false:=by
    generalize q:Builtin.Bytes.decodersThatHold.contains id=y_;induction y_ with
    |false=>rfl
    |true=>exact(hn id (cb _ (List.contains_iff_mem.mp q)) rfl).elim
   exact(av (Builtin.Bytes.sameRef v self&&·) e).trans (Bool.and_false _)
 |_=>rfl
end
section
variable{prog:Program}{w:World}{M:Model}{A:Around}{E:dB}{s:Shared}{a:Addr}{b:Array UInt8}
theorem eu(ho:s.heap.get? a=some (dD b)):s.TypeIs (.ref a) "bytearray":=ah _ ho rfl
theorem d8(ho:s.heap.get? a=some (dD b))(h:Q b s):wpAny M A (Builtin.Bytes.payload (.ref a)) Q E s:=by unfold Builtin.Bytes.payload Builtin.Bytes.payload?;exact aO (aO (wpAny_load ho (bc (bc h))))
theorem ED(ho:s.heap.get? a=some (dD b))(xl:(b.size:Int)<2^63)(h:Q (.int b.size (s.toks+1)) {s with toks:=s.toks+1+1}):wpAny (model prog w) A (call (.builtin "len") [.ref a]) Q E s:=by
 have hT:=eu ho;refine Calls.call_function_entry kind_len plain_len entry_len (args_len1 _) ?_;unfold Builtin.«len»;refine aO (m:=oneArg "len" _) (bc ?_);refine aO (m:=callSpecial? (.ref a) (Str.ofString "__len__")) (wpAny_callSpecial?_slot (name:=Str.ofString "__len__") hT BF.r7 (wpAny_call_entry BF.r7 hT BF.entry_len ?_ (BF.yY _)))
 ·refine((aO (d8 ho ?_)):wpAny _ _ (do retInt (←Builtin.Bytes.payload (.ref a)).size) _ _ s);refine aO (wpAny_mkInt (bc (ah _ rfl (aO (wpAny_holding (bc ?_))))));refine aO (wpAny_letGo ((?_:wpAny _ _ (if((b.size:Nat):Int)<0 then _ else _) _ _ _)));rw[aH (by exact fun e=>fm 462410 0 [1] rfl e)];refine(?_:wpAny _ _ (if((b.size:Nat):Int)≥2^63 then _ else _) _ _ _);rw[aH (by exact fun e=>ln2 [_] [] (.T (.c (.v 0)) (.n 9223372036854775808)) (.L (.n 9223372036854775808) (.c (.v 0))) .f 0 [1,1] tt xl e)];exact aO (wpAny_mkInt (bc (ah _ rfl h)))
theorem dZ{x:Addr}{lo hi:Option Int}{l u:Value}{Q:Value×Value×Value→Shared→Prop}(hs:s.heap.IsSliceOf x l u .none)(hl:IsPart l lo)(hu:IsPart u hi)(h:Q (rawPart lo,rawPart hi,rawPart none) s):wpAny M A (Builtin.Bytes.sliceParts (.ref x)) Q E s:=by
 refine cg hs fun o ho hc hd=>?_;unfold Builtin.Bytes.sliceParts;refine aO (wpAny_field (x:=.none) ho hd rfl ?_)
 kby_none;refine wpAny_ite (PySem.W.KBy.ite_no (show¬((Value.none==rawInt 0)=true) from cz) (aO (wpAny_field (x:=l) ho hd rfl ?_)))
 induction hl<;>cases hu<;>(first
  |(kby_none;(refine aO (wpAny_field (x:=.none) ho hd rfl ?_));kby_none)
  |(kby_none;(refine aO (wpAny_field (x:=.int _ _) ho hd rfl ?_));kby_int)
  |(kby_int;(refine aO (wpAny_field (x:=.none) ho hd rfl ?_));kby_none)
  |(kby_int;(refine aO (wpAny_field (x:=.int _ _) ho hd rfl ?_));kby_int))<;>exact bc h
theorem gU(hs:s.heap.IsSliceOf x l u z):s.TypeIs (.ref x) "slice":=by exact cg hs fun o ho hc hd=>ah o ho hc
theorem fp(hs:s.heap.IsSliceOf x l u z)(h:Q none s):wpAny M A (Builtin.Bytes.subscript? (.ref x)) Q E s:=by unfold Builtin.Bytes.subscript?;exact aO (wpAny_specialOf (gU hs) slice_no_index (bc h))
theorem jJ{n:Nat}{lo hi:Option Int}{Q:Int×Int×Int→Shared→Prop}(h:Q (sliceBounds lo hi none n) s):wpAny M A (sliceIndices (rawPart lo) (rawPart hi) (rawPart none) n) Q E s:=bL (sliceIndices_raw lo hi none n (fun e=>nomatch e)) h
theorem xm{x:Addr}{lo hi:Option Int}{l u:Value}{Q:dB}(ho:s.heap.get? a=some (dD b))(hs:s.heap.IsSliceOf x l u .none)(hl:IsPart l lo)(hu:IsPart u hi)(h:Q (.ref s.heap.objs.size) {s with heap:=s.heap.push (dD (PySem.W.KBy.picked b lo hi))})(hsz:(PySem.W.KBy.picked b lo hi).size≤sizeLine):wpAny (model prog w) A (getItem (.ref a) (.ref x)) Q E s:=by have hT:=eu ho;refine wpAny_getItem_slot hT (by decide) BF.gS (wpAny_call_entry BF.gS hT BF.oS (((aO (fp hs (aO (wpAny_typeOf (gU hs) ?_)))):wpAny _ _ (Builtin.Bytes.subscript? (.ref x)>>=_) _ _ s)) (BF.qA _ _));refine cA (by decide) (aO (dZ hs hl hu (aO (d8 ho (aO (jJ ?_))))));unfold Builtin.Bytes.newBytearray;refine aO (wpAny_newObj_type (bc (ah _ rfl h)) hsz)
end
namespace BF
theorem release:typeLookup (.type "bytearray") "__release_buffer__"=pure (some (.builtin "bytearray.__release_buffer__")):=by rw[typeLookup_type,builtinLookup_eq_fast];kernel_rfl
theorem B5:Builtin.Bytes.bindOptional "bytearray.__init__" "bytearray" ["source","encoding","errors"] [] []=pure [none,none,none]:=by kernel_rfl
theorem B6(v:Value):Builtin.Bytes.bindOptional "bytearray.__init__" "bytearray" ["source","encoding","errors"] [v] []=pure [some v,none,none]:=by kernel_rfl
theorem sf(a:Value):argsOk "bytearray.__init__" ⟨[a],[]⟩:=by unfold argsOk;kernel_rfl
theorem sg(a b:Value):argsOk "bytearray.__init__" ⟨[a,b],[]⟩:=by unfold argsOk;kernel_rfl
theorem js:typeLookup (.type "bytes") "__index__"=pure none:=by rw[typeLookup_type,builtinLookup_eq_fast];kernel_rfl
theorem si:typeLookup (.type "bytes") "__int__"=pure none:=by rw[typeLookup_type,builtinLookup_eq_fast];kernel_rfl
theorem oV:typeLookup (.type "bytes") "__float__"=pure none:=by rw[typeLookup_type,builtinLookup_eq_fast];kernel_rfl
theorem qF:isSubtype (.type "bytes") (.type "complex")=pure false:=by rw[isSubtype_type];kernel_rfl
theorem B7:isSubtype (.type "bytes") (.type "bytearray")=pure false:=by rw[isSubtype_type];kernel_rfl
end BF
section
variable{prog:Program}{w:World}{M:Model}{A:Around}{E:dB}{s:Shared}{a:Addr}{b:Array UInt8}
theorem jK{id:String}{args:Args}{B:Builtin}{R:Result→Shared→Prop}(hq:plainId id=true)(hh:iU.contains id=false)(hb:entryFor table id=some B)(H6:∀(A:Around) (Q:Unit→Shared→Prop) (E:dB),Q () s→wpAny (model prog w) A (checkBuiltinCall id args) Q E s)(h:cR (model prog w) A.in1 (B args) (fun fin s'=>∃v,fin=.done (.ret v)∧R (.ok (.ret v)) s') (fun e s'=>R (.error e) s') s):cK (model prog w) A (.call (.builtin id) args) R s:=by refine bB ff (((aq (H6 _ _ _ (ak ⟨plainId_quiet hq _,bB hh ((Around.under_plainId hq _).symm▸?_)⟩))):cR _ A.in1 (do checkBuiltinCall id args;again (.builtin id args)) _ _ s));refine(?_:cR _ _ (match entryFor table id with|some b=>b args|none=>unsupported ((withoutEnding? id "#data").getD id)) _ _ _);refine hb.symm▸(bj h (fun fin s' h'=>(aa h' fun v az hv=>?_)));clear h';subst az;exact hv
theorem dY{T:String}{name:PySem.Str}{id:String}{B:Builtin}{self:Value}{rest:List Value}{Q:dB}(h:Slot T name id)(hT:s.TypeIs self T)(hb:entryFor table id=some B)(ha:argsOk id ⟨self::rest,[]⟩)(hh:iU.contains id=false)(hc:cR (model prog w) A.in1 (B ⟨self::rest,[]⟩) (fun fin s'=>∃v,fin=.done (.ret v)∧Q v s') E s):cR (model prog w) A (call (.builtin id) (self::rest)) Q E s:=by exact gy (jK h.plain hh hb (fun A Q E hq=>h.check _ _ _ _ _ _ _ _ hT ha hq) (hc))
theorem ng{name:String}{id:String}{Q:Bool→Shared→Prop}(ho:s.heap.get? a=some (dD b))(hl:typeLookup (.type "bytearray") (PySem.Str.ofString name)=pure (some (.builtin id)))(h1:id.endsWith ("."++name)=true)(h2:id.dropRight (name.length+1)="bytearray")(h:Q true s):wpAny M A (Builtin.Bytes.slotIsOwn (.ref a) name) Q E s:=by have hT:=eu ho;unfold Builtin.Bytes.slotIsOwn;refine aO (wpAny_specialOf hT hl (cA (by refine h1.symm▸?_;exact ff) ?_));exact h2.symm▸(wpAny_isInstance hT BF.sub_self h)
theorem gp{Q:Bool→Shared→Prop}(ho:s.heap.get? a=some (dD b))(h:Q false s):wpAny M A (Builtin.Bytes.ownRelease (.ref a)) Q E s:=by unfold Builtin.Bytes.ownRelease;exact aO (ng ho BF.release (by decide+kernel) (by decide+kernel) (bc h))
theorem qG{Q:Nat→Shared→Prop}(ho:s.heap.get? a=some (dD b))(h:Q 0 s):wpAny M A (Builtin.Bytes.exportsOf (.ref a)) Q E s:=by unfold Builtin.Bytes.exportsOf;exact aO (wpAny_load ho (bc h))
theorem lx{Q:Bool→Shared→Prop}(ho:s.heap.get? a=some (dD b))(h:Q false s):cR M A (Builtin.Bytes.exported (.ref a)<||>(do return(←Builtin.Bytes.exportsOf (.ref a))>0)) Q E s:=by refine((ag (qE ?_)):cR M A (Builtin.Bytes.exported (.ref a)>>=fun x=>_) _ _ _);refine(?_:cR M A (Builtin.Bytes.exportsOf (.ref a)>>=fun x=>_) _ _ _);exact aq (qG ho (ak h))
theorem fP{Q:Unit→Shared→Prop}(ho:s.heap.get? a=some (dD b))(h:Q () s):cR M A (Builtin.Bytes.checkResize (.ref a)) Q E s:=by unfold Builtin.Bytes.checkResize;exact ag (lx ho (ak h))
theorem gA{f:Array UInt8→Array UInt8}{Q:Unit→Shared→Prop}(ho:s.heap.get? a=some (dD b))(hz:(f b).size≤sizeLine)(h:∀h',h'.get? a=some (dD (f b))→Heap.SameBut a s.heap h'→Q () {s with heap:=h'}):wpAny M A (Builtin.Bytes.write (.ref a) f) Q E s:=by refine(?_:wpAny M A (updateBytearray a f) Q E s);unfold updateBytearray;refine aO (wpAny_load ho (((aO (wpAny_update ho ?_)):wpAny M A (update a (Obj.mapBytearray f)>>=fun a_=>lookBehind a) _ _ _)));have h1:(s.heap.update a (Obj.mapBytearray f)).get? a=some (dD (f b)):=Heap.get?_update_self (Obj.mapBytearray f) ho ff;exact wpAny_lookBehind h1 ((((aH (by exact fun e=>iA 1118218 0 [1,1] rfl hz e)).symm▸rfl):(if(f b).size>sizeLine then some "bytearray:memory" else none)=none)) (h _ h1 (Heap.SameBut.update ..))
theorem kf{id:String}{c:Array UInt8}{t:Tok}{f:Bool}:Builtin.Bytes.buffer? id (.bytes c t) f=pure (some c):=by unfold Builtin.Bytes.buffer?;refine(PySem.W.KBy.special_eq PySem.W.KBy.look_buffer).symm▸?_;refine PySem.W.KBy.own_buffer.symm▸?_;refine PySem.W.KBy.own_release.symm▸?_;induction f using Bool.casesOn<;>kernel_rfl
theorem ip{id:String}{c:Array UInt8}{t:Tok}:Builtin.Bytes.takeBufferQuiet? id (.bytes c t) 0=pure (some (c,none)):=by
 have q:Builtin.Bytes.takeBuffer? id (.bytes c t) 0=pure (some (c,none)):=by unfold Builtin.Bytes.takeBuffer?;refine(PySem.W.KBy.special_eq PySem.W.KBy.look_buffer).symm▸?_;exact PySem.W.KBy.own_buffer.symm▸(Eq.trans (b:=Builtin.Bytes.buffer? id (.bytes c t) (0==Builtin.Bytes.fullReadOnly)>>=fun r=>pure (r.map (·,none))) (by kernel_rfl) (kf.symm▸rfl))
 unfold Builtin.Bytes.takeBufferQuiet?;exact q.symm▸rfl
theorem xn{c:Array UInt8}{Q:dB}(ho:s.heap.get? a=some (dD b))(hz:b.size+c.size≤sizeLine)(h:∀h',h'.get? a=some (dD (b++c))→Heap.SameBut a s.heap h'→Q .none {s with heap:=h'}):cR (model prog w) A (call (.builtin "bytearray.extend") [.ref a,.bytes c t]) Q E s:=by
 have hT:=eu ho;refine dY BF.mj hT BF.qD (BF.r8 _ _) (by decide+kernel) ?_;unfold Builtin.«bytearray.extend»;refine aq (bL (a:=(Value.ref a,Value.bytes c t)) rfl (aq (wpAny_specialOf (PySem.W.typeIs_bytes _ _ _) BF.B4 (cP tt (aq (wpAny_rule ?_))))));refine aq (d8 ho (aq (bL ip ?_)))
 show cR _ _ (do
  if !c.isEmpty then Builtin.Bytes.checkResize (.ref a)
  Builtin.Bytes.write (.ref a) (·++c)
  ret .none) _ _ _
 have fin:cR (model prog w) A.in1 (Builtin.Bytes.write (.ref a) (·++c)>>=fun a_=>ret .none) (fun fin s'=>∃v,fin=.done (.ret v)∧Q v s') E s:=aq (gA ho (by refine Array.size_append.symm▸?_;exact hz) fun h' h1 h2=>ak (ah _ rfl (h h' h1 h2)));by_cases hc:c.isEmpty=true
 ·exact aT (by simp[hc]) fin
 ·exact cP (by simp[hc]) (ag (fP ho fin))
theorem yZ{Q:dB}(ho:s.heap.get? a=some (dD #[]))(h:∀h',h'.get? a=some (dD #[])→Heap.SameBut a s.heap h'→Q .none {s with heap:=h'}):cR (model prog w) A (call (.builtin "bytearray.__init__") [.ref a]) Q E s:=by have hT:=eu ho;refine dY BF.iW hT BF.nf (BF.sf _) (by decide+kernel) ?_;unfold Builtin.«bytearray.__init__»;refine aq (gp ho (aT cz (aq (bL BF.B5 (aq (bL (a:=()) rfl ?_))))));refine aq (bL (a:=()) rfl (ag (lx ho (aT cz (aq (gA ho (Nat.zero_le _) fun h' h1 h2=>?_))))));exact af (bc (ah _ rfl (h h' h1 h2)))
theorem y0{c:Array UInt8}{Q:dB}(ho:s.heap.get? a=some (dD #[]))(hz:c.size≤sizeLine)(h:∀h',h'.get? a=some (dD c)→Heap.SameBut a s.heap h'→Q .none {s with heap:=h'}):cR (model prog w) A (call (.builtin "bytearray.__init__") [.ref a,.bytes c t]) Q E s:=by have hT:=eu ho;refine dY BF.iW hT BF.nf (BF.sg _ _) (by decide+kernel) ?_;unfold Builtin.«bytearray.__init__»;refine aq (gp ho (aT cz (aq (bL (BF.B6 _) (aq (bL (a:=()) rfl ?_))))));refine aq (bL (a:=()) rfl (ag (lx ho (aT cz (aq (gA ho (Nat.zero_le _) fun h' h1 h2=>?_))))));refine af (aO (m:=asStr? (.bytes c t)) (bL (a:=none) rfl (cA ff (aO (cA ff (cA ff (bc ?_)))))));refine aO (bL (PySem.W.KBy.special_eq BF.js) (cA ff (aO (bL kf (aO (wpAny_rule ?_))))));exact aO (gA (s:={s with heap:=h'}) h1 hz fun jr h3 h4=>(bc (ah _ rfl (h jr h3 (h2.trans h4)))))
theorem y3(args:List Value)(H6:checkBuiltinCall "bytearray.__new__" ⟨.type "bytearray"::args,[]⟩=pure ()){Q₁:dB}(h:Q₁ (.ref s.heap.objs.size) {s with heap:=s.heap.push (dD #[])}):codeAny (model prog w) A (.call (.builtin "bytearray.__new__") ⟨.type "bytearray"::args,[]⟩) (wants Q₁ E) s:=by refine codeAny_of_tree (((aO (bL H6 (bc ⟨plainId_quiet BF.pq _,codeAny_builtin_stack BF.xh rfl fun p st=>((Around.under_plainId BF.pq _).symm▸?_)⟩))):wpAny _ A.in1 (do checkBuiltinCall "bytearray.__new__" ⟨.type "bytearray"::args,[]⟩;again (.builtin "bytearray.__new__" ⟨.type "bytearray"::args,[]⟩)) _ _ s));have L4:=BF.sub_self;have H7:=BF.xk;obtain⟨hp,g,d,tk,os⟩:=s;refine aO (m:=isType (.type "bytearray")) (bL (a:=true) rfl (cA ff (aO (m:=isSubtype (.type "bytearray") (.type (("bytearray.__new__".splitOn ".__new__").headD ""))) (bL (a:=true) (H7.symm▸L4) (cA ff ?_)))));rw[H7];wp_walk;exact h
theorem gV{self:Value}{T:String}{name:PySem.Str}{id:String}{args:List Value}{kw:List (PySem.Str×Value)}{Q:Option Value→Shared→Prop}(hT:s.TypeIs self T)(h:Slot T name id)(hc:cR M A (call (.builtin id) (self::args) kw) (fun v=>Q (some v)) E s):cR M A (callSpecial? self name args kw) Q E s:=by unfold callSpecial?;refine aq (wpAny_specialOf hT h.lookup ?_);exact aw (aq (bL (h.bind _) (ag (bM hc (fun v s' hv=>ak hv) fun a_ b_ e=>e))))
theorem jt{id:String}{args:Args}{B:Builtin}{R:Result→Shared→Prop}(hh:iU.contains id=false)(hb:entryFor table id=some B)(h:cR (model prog w) (A.under (.builtin id args)) (B args) (fun fin s'=>match fin with|.done f=>R (.ok f) s'|.again c'=>c'.quiet=true∧cK (model prog w) A c' R s') (fun e s'=>R (.error e) s') s):cK (model prog w) A (.builtin id args) R s:=by refine bB hh ((?_:cR _ _ (match entryFor table id with|some b=>b args|none=>unsupported ((withoutEnding? id "#data").getD id)) _ _ _));exact hb.symm▸(h)
theorem vL(args:List Value){Q:dB}(H6:checkBuiltinCall "bytearray.__new__" ⟨.type "bytearray"::args,[]⟩=pure ())(OM:checkTypeCall "bytearray" ⟨args,[]⟩=pure ())(H8:cR (model prog w) A.in1 (call (.builtin "bytearray.__init__") (.ref s.heap.objs.size::args)) (fun r s'=>r=.none∧Q (.ref s.heap.objs.size) s') E {s with heap:=s.heap.push (dD #[])}):cR (model prog w) A (call (.type "bytearray") args) Q E s:=by
 refine yJ BF.called.mro fun c tl L5=>?_;have H9:=BF.called.made;refine gy (bB ff (((ak ⟨Code.quiet_builtin _ (by decide+kernel),jt (by decide+kernel) F.entry_type_call ((Around.under_plain (weight_type_call_type "bytearray" args []) rfl).symm▸?_)⟩):cR _ _ (callAny (.type "bytearray") _) _ _ _)));unfold Builtin.«type.__call__»;dsimp only;refine aT (by decide) (aT (by refine BF.called.canCreate.symm▸?_;decide) ?_);refine aq (bL OM (aq (bL L5 (aT (by simp) (aq (bL H9 ?_))))));dsimp only;refine aq (bL rfl (ag (aw (af (wpAny_call (codeAny_mono (y3 (Q₁:=fun v s'=>v=.ref s.heap.objs.size∧s'={s with heap:=s.heap.push (dD #[])}) (E:=fun a_ b_=>False) args H6 ⟨rfl,rfl⟩) fun r s' hr=>?_))))));induction r with
 |error e=>exact hr.elim
 |ok fl=>
  induction fl with
  |ret v=>refine fz hr fun fQ az=>?_;clear hr;subst fQ;subst az;have hT:({s with heap:=s.heap.push (dD #[])}:Shared).TypeIs (.ref s.heap.objs.size) "bytearray":=ah _ (Heap.get?_push_size _ ff) rfl;refine((aq (wpAny_isInstance hT BF.sub_self ?_)):cR _ _ (isInstance _ _>>=_) _ _ _);refine aT (by decide) (ag (aw (gV hT BF.iW ?_)));refine bM H8 (fun r s' hr=>(fz hr fun fQ hq=>?_)) fun a_ b_ e=>e;clear hr;subst fQ;refine((aT (by decide) ?_):cR _ _ (if(Value.none !=Value.none)=true then _ else _) _ _ _);exact ak hq
  |_=>exact hr.elim
theorem B8(h:∀h',h'.get? s.heap.objs.size=some (dD #[])→(∀b o,s.heap.get? b=some o→h'.get? b=some o)→Q (.ref s.heap.objs.size) {s with heap:=h'}):cR (model prog w) A (call (.type "bytearray") []) Q E s:=vL [] BF.xi BF.t7 (yZ (s:={s with heap:=s.heap.push (dD #[])}) (Heap.get?_push_size _ ff) fun h' h1 h2=>⟨rfl,h h' h1 fun b o e=>(h2.2 b (Nat.ne_of_lt (Heap.lt_size e))).trans (Heap.get?_push_of_some _ e)⟩)
theorem vM(hz:c.size≤sizeLine)(h:∀h',h'.get? s.heap.objs.size=some (dD c)→(∀b o,s.heap.get? b=some o→h'.get? b=some o)→Q (.ref s.heap.objs.size) {s with heap:=h'}):cR (model prog w) A (call (.type "bytearray") [.bytes c t]) Q E s:=vL [.bytes c t] (BF.xj _) (BF.t8 _) (y0 (s:={s with heap:=s.heap.push (dD #[])}) (Heap.get?_push_size _ ff) hz fun h' h1 h2=>⟨rfl,h h' h1 fun b o e=>(h2.2 b (Nat.ne_of_lt (Heap.lt_size e))).trans (Heap.get?_push_of_some _ e)⟩)
noncomputable abbrev cutAt(b c:Array UInt8)(lo hi:Option Int):Array UInt8:=b.extract 0 (sliceBounds lo hi none b.size).1.toNat++c++b.extract (max (sliceBounds lo hi none b.size).1 (sliceBounds lo hi none b.size).2.1).toNat b.size
theorem xo{x:Addr}{lo hi:Option Int}{l u:Value}{c:Array UInt8}{t:Tok}{Q:Unit→Shared→Prop}(ho:s.heap.get? a=some (dD b))(hs:s.heap.IsSliceOf x l u .none)(hl:IsPart l lo)(hu:IsPart u hi)(vN:(sliceBounds lo hi none b.size).2.2=1)(hz:c.size≤sizeLine)(ON:(cutAt b c lo hi).size≤sizeLine)(h:∀h',h'.get? a=some (dD (cutAt b c lo hi))→(∀d o,d≠a→s.heap.get? d=some o→h'.get? d=some o)→Q () {s with heap:=h'}):cR (model prog w) A (setItem (.ref a) (.ref x) (.bytes c t)) Q E s:=by
 have hT:=eu ho;unfold setItem;refine aw (aq (wpAny_sequenceKey hT (by decide) (ag (gV (name:=Str.ofString "__setitem__") hT BF.kc (dY BF.kc hT BF.oT (BF.qB _ _ _) (by decide+kernel) ?_)))));unfold Builtin.«bytearray.__setitem__»;refine aT (by refine(?_:¬(false=true));decide) ?_;refine aq (fp hs (aq (wpAny_typeOf (gU hs) (aT (by decide) (aq (dZ hs hl hu ?_))))));refine aT (by refine(?_:¬(false=true));decide) ?_;refine aq (wpAny_isInstance (PySem.W.typeIs_bytes _ _ _) BF.B7 (cP tt (aq (bL (a:=false) ?_ ?_))))
 ·have e1:specialOf (.bytes c t) (PySem.Str.ofString "__index__")=pure none:=PySem.W.KBy.special_eq BF.js;have e2:specialOf (.bytes c t) (PySem.Str.ofString "__int__")=pure none:=PySem.W.KBy.special_eq BF.si;have e3:specialOf (.bytes c t) (PySem.Str.ofString "__float__")=pure none:=PySem.W.KBy.special_eq BF.oV;have e4:isInstance (.bytes c t) (.type "complex")=pure false:=by have e:isInstance (.bytes c t) (.type "complex")=isSubtype (.type "bytes") (.type "complex"):=rfl;rw[e,BF.qF]
  simp only[e1,e2,e3,e4];rfl
 refine aq (bL (a:=none) rfl ?_);refine aT (by refine(?_:¬(false=true));decide) ?_;refine aq (wpAny_rule (ag (vM hz fun h1 g1 k1=>?_)));have Ho:h1.IsSliceOf x l u .none:=by exact cg hs fun o q hc hd=>bY o (k1 _ _ q) hc hd
 have L6:=k1 _ _ ho;refine ag (aw (af (dZ (s:={s with heap:=h1}) Ho hl hu ?_)));refine aq (d8 (s:={s with heap:=h1}) g1 ?_);refine aq (d8 (s:={s with heap:=h1}) L6 ?_);refine aq (jJ (s:={s with heap:=h1}) ?_);have st:((sliceBounds lo hi none b.size).2.2==1)=true:=by rw[vN];exact tt
 have fin:cR (model prog w) A.in1 (Builtin.Bytes.write (.ref a) (fun b'=>b'.extract 0 (sliceBounds lo hi none b.size).1.toNat++c++b'.extract (max (sliceBounds lo hi none b.size).1 (sliceBounds lo hi none b.size).2.1).toNat b'.size)>>=fun a_=>ret .none)
  (fun fin s'=>∃v,fin=.done (.ret v)∧cR (model prog w) A (match(some v:Option Value)with|some _=>pure ()|none=>unsupported "") Q E s') E {s with heap:=h1}:=
  aq (gA (s:={s with heap:=h1}) L6 ON fun h2 g2 k2=>ak (ah _ rfl (ak (h h2 g2 fun d o hd e=>(k2.2 d hd).trans (k1 d o e)))))
 generalize NG:sliceBounds lo hi none b.size=sb at*;obtain⟨start,stop,step⟩:=sb;dsimp only at st fin⊢;refine cP st (aq (wpAny_rule ?_));have OO:=bM fin (fun f s' hf=>hf) (fun a_ b_ e=>e);by_cases hc:((c.size:Int) !=max start stop-start)=true
 ·exact cP hc (ag (fP (s:={s with heap:=h1}) L6 fin))
 ·exact aT hc fin
theorem xp{x:Addr}{lo hi:Option Int}{l u:Value}{Q:Unit→Shared→Prop}(ho:s.heap.get? a=some (dD b))(hs:s.heap.IsSliceOf x l u .none)(hl:IsPart l lo)(hu:IsPart u hi)(vN:(sliceBounds lo hi none b.size).2.2=1)(hz:b.size≤sizeLine)(h:∀h',h'.get? a=some (dD (b.toList.zipIdx.filterMap fun(y,k)=>if Builtin.Bytes.selects (sliceBounds lo hi none b.size).1 (sliceBounds lo hi none b.size).2.1 1 k then none else some y).toArray)→(∀d o,d≠a→s.heap.get? d=some o→h'.get? d=some o)→Q () {s with heap:=h'}):cR (model prog w) A (delItem (.ref a) (.ref x)) Q E s:=by
 have hT:=eu ho;unfold delItem;refine aw (aq (wpAny_sequenceKey hT (by decide) (ag (gV (name:=Str.ofString "__delitem__") hT BF.ke (dY BF.ke hT BF.oU (BF.qC _ _) (by decide+kernel) ?_)))));unfold Builtin.«bytearray.__delitem__»;refine aq (bL (a:=(Value.ref a,[Value.ref x])) rfl (aq (fp hs (aq (wpAny_typeOf (gU hs) (aT (by decide) ?_))))));refine aq (dZ hs hl hu (aq (d8 ho (aq (jJ ?_)))));generalize NG:sliceBounds lo hi none b.size=sb at*;obtain⟨start,stop,step⟩:=sb;dsimp only at vN h⊢;clear NG;subst vN;refine aq (wpAny_rule ?_)
 have fin:cR (model prog w) A.in1 (Builtin.Bytes.write (.ref a) (fun b=>(b.toList.zipIdx.filterMap fun(y,k)=>if Builtin.Bytes.selects start stop 1 k then none else some y).toArray)>>=fun a_=>ret .none)
  (fun fin s'=>∃v,fin=.done (.ret v)∧cR (model prog w) A (match(some v:Option Value)with|some _=>pure ()|none=>unsupported "") Q E s') E s:=
  aq (gA ho (by rw[List.size_toArray];refine aX (List.length_filterMap_le _ _) ?_;rw[List.length_zipIdx,Array.length_toList];exact hz) fun h2 g2 k2=>ak (ah _ rfl (ak (h h2 g2 fun d o hd e=>(k2.2 d hd).trans e))))
 by_cases hc:((1:Int) !=1||decide (start<stop))=true
 ·exact cP hc (ag (fP ho fin))
 ·exact aT hc fin
end
namespace BF
theorem ua:typeLookup (.type "bytes") "__bytes__"=pure (some (.builtin "bytes.__bytes__")):=by rw[typeLookup_type,builtinLookup_eq_fast];kernel_rfl
theorem qH:typeLookup (.type "int") "__bytes__"=pure none:=by rw[typeLookup_type,builtinLookup_eq_fast];kernel_rfl
end BF
section
variable{prog:Program}{w:World}{M:Model}{A:Around}{E:dB}{s:Shared}{a:Addr}{b:Array UInt8}
theorem jL(x:Value){Q:dB}(h:wpAny (model prog w) A.in1.in1 (Builtin.«bytes.__new__» ⟨[.type "bytes",x],[]⟩) (fun fin s'=>∃c t,fin=.done (.ret (.bytes c t))∧Q (.bytes c t) s') E s):wpAny (model prog w) A (call (.type "bytes") [x]) Q E s:=by
 refine callType_codes (Q₁:=fun obj bu=>bu.TypeIs obj "bytes"∧Q obj bu) F.bm_called (F.bm_typeCall _) F.entry_object_init ?_ fun obj bu bH=>?_
 ·refine codeAny_of_tree (((aO (bL (F.bm_newCall _) (bc ⟨plainId_quiet F.bm_plain _,codeAny_builtin F.bm_entry ?_⟩))):wpAny _ A.in1.in1 (do checkBuiltinCall "bytes.__new__" ⟨[.type "bytes",x],[]⟩;again (.builtin "bytes.__new__" ⟨[.type "bytes",x],[]⟩)) _ _ s));rw[Around.under_plainId F.bm_plain _];refine wpAny_mono h (fun fin s' hf=>(cS hf fun c t aQ hq=>?_)) fun a_ b_ e=>e;clear hf;subst aQ;exact⟨PySem.W.typeIs_bytes _ _ _,hq⟩
 ·exact aN bH.1 (F.args_object_init_2 obj _) (object_init_meets F.bm_called.init.lookup F.bm_called.made (by decide) prog w A.in1 _ bu (aN bH.1 rfl bH.2))
theorem sj{Q:dB}(ho:s.heap.get? a=some (dD b))(hz:b.size≤sizeLine)(h:Q (.bytes b s.toks) {s with toks:=s.toks+1}):wpAny (model prog w) A (call (.type "bytes") [.ref a]) Q E s:=by have hT:=eu ho;refine jL _ ?_;unfold Builtin.«bytes.__new__»;refine aO (bL (a:=true) rfl (cA ff (aO (bL F.bm_sub (cA ff ?_)))));refine aO (bL (F.bm_bind _) (aO (bL (a:=()) rfl (aO (bL (a:=()) rfl (cA ff ?_))))));refine aO (wpAny_specialOf hT BF.sd (aO (aO (((aO (wpAny_load ho ?_)):wpAny _ _ (load a>>=_) _ _ _)))));refine bc (bc (cA ff (aO (wpAny_specialOf hT BF.se (PySem.bm_if_true tt ?_)))));refine aO ?_;unfold Builtin.Bytes.buffer?;refine aO (wpAny_specialOf hT BF.buffer (aO (ng ho BF.buffer (by decide+kernel) (by decide+kernel) (cA ff (aO (wpAny_specialOf hT BF.buffer ?_))))));refine aO (gp ho (cA ff (aO (d8 ho (bc ?_)))));exact aO (wpAny_rule (aO (wpAny_mkBytes (bc (cL _ _ rfl h)) hz)))
theorem nh{Q:dB}(h:Q (.bytes b t) s):wpAny (model prog w) A (call (.type "bytes") [.bytes b t]) Q E s:=by refine jL _ ?_;unfold Builtin.«bytes.__new__»;refine aO (bL (a:=true) rfl (cA ff (aO (bL F.bm_sub (cA ff ?_)))));refine aO (bL (F.bm_bind _) (aO (bL (a:=()) rfl (aO (bL (a:=()) rfl (cA ff ?_))))));refine aO (wpAny_specialOf (PySem.W.typeIs_bytes _ _ _) BF.ua (aO (wpAny_rule (aO (wpAny_typeOf (PySem.W.typeIs_bytes _ _ _) (PySem.bm_if_true (by decide) ?_))))));exact bc (cL _ _ rfl h)
theorem qI{n:Int}{Q:dB}(h0:0≤n)(hz:n≤16777216)(h:Q (.bytes (Array.replicate n.toNat 0) s.toks) {s with toks:=s.toks+1}):wpAny (model prog w) A (call (.type "bytes") [.int n t]) Q E s:=by refine jL _ ?_;unfold Builtin.«bytes.__new__»;refine aO (bL (a:=true) rfl (cA ff (aO (bL F.bm_sub (cA ff ?_)))));refine aO (bL (F.bm_bind _) (aO (bL (a:=()) rfl (aO (bL (a:=()) rfl (cA ff ?_))))));refine aO (wpAny_specialOf (typeIs_int _ _ _) BF.qH (aO (aO (bL (a:=none) rfl (bc (cA ff (aO (wpAny_specialOf (typeIs_int _ _ _) F.slot_int_index.lookup ?_))))))));refine cA ff (aO (wpAny_attempt (bL (a:=n) rfl ?_)));dsimp only;refine cA (by simp only[Builtin.Bytes.fitsIndex,Bool.not_eq_false',Bool.and_eq_true,decide_eq_true_eq];exact⟨lo1 [] [_] (.L (.n 0) (.w 0)) (.L (.g (.n 9223372036854775808)) (.w 0)) tt h0,lo1 [] [_] (.L (.w 0) (.n 16777216)) (.T (.w 0) (.n 9223372036854775808)) tt hz⟩) (wpAny_ite_false (decide_eq_false (by exact fun e=>yS 1950615354 0 [1,1] rfl h0 e)) ?_);refine wpAny_ite_false (decide_eq_false (by exact fun e=>ln2 [] [_] (.L (.w 0) (.n 16777216)) (.T (.s (.n 9223372036854775808) (.n 34)) (.w 0)) .f 0 [1,1] tt hz e)) (cA (PySem.W.KBy.tooLong_not (oR 5141493810975661072522844076032 rfl hz (aA (aZ 1081294963 rfl h0)))) (aO (wpAny_rule ?_)));exact aO (wpAny_mkBytes (bc (cL _ _ rfl h)) (by rw[Array.size_replicate,sizeLine_eq];exact oR 5141493810975661072522844076032 rfl hz (aA (aZ 1081294963 rfl h0))))
end
theorem nj{a p b:Int}(hp:0<p)(OP:p<2^40):IntMulOk (a.fmod p) b:=by refine IntMulOk.of_left (intBits_le_iff.mpr ?_);have h1:=Int.fmod_nonneg_of_pos a hp;exact Nat.lt_of_lt_of_le (Int.natAbs_lt_natAbs_of_nonneg_of_lt h1 (Int.lt_trans (Int.fmod_lt_of_pos a hp) OP)) (by decide)
theorem fin{g:Heap}{L:Addr}{m:PySem.Str→Option Value}{s:Shared}{R:Result→Shared→Prop}{Rr:Value→Led→Prop}{v:Value}{post:Led}{h':Heap}{dU:Nat}(ret:∀v post h' dU,(∀b o,g.get? b=some o→h'.get? b=some o)→ik g h' post→(adr post).Nodup→Rr v post→R (.ok (.ret v)) {s with heap:=h',toks:=dU})(F:Fr g L h' m)(N:News g L h' post)(D:(adr post).Nodup)(hr:Rr v post):R (.ok (.ret v)) {s with heap:=h',toks:=dU}:=ret v post h' dU F.keep (rY N) D hr
theorem B9{g:Heap}{L:Addr}{m:PySem.Str→Option Value}{s:Shared}{R:Result→Shared→Prop}{Rr:Value→Led→Prop}{v:Value}{news post:Led}{h':Heap}{dU:Nat}(ret:∀v post h' dU,(∀b o,g.get? b=some o→h'.get? b=some o)→ik g h' post→(adr post).Nodup→Rr v post→R (.ok (.ret v)) {s with heap:=h',toks:=dU})(F:Fr g L h' m)(N:News g L h' news)(hs:∀p∈post,p∈news)(D:(adr post).Nodup)(hr:Rr v post):R (.ok (.ret v)) {s with heap:=h',toks:=dU}:=ret v post h' dU F.keep (fun p hp=>⟨(N p (hs p hp)).1,(N p (hs p hp)).2.2⟩) D hr
theorem EE{w:World}{dp un:Nat}{gd:Option (List Code)}{stack:List Env}{base g:Heap}{s:Shared}{R:Result→Shared→Prop}{f:Addr}{args:List Value}{pre:Led}{cy:ExcName→Option Value}{mg mb:PySem.Str→Option Value}{name qual:PySem.Str}{params:Arguments}{body:List Stmt}{scope:Scope}{dV kV doc pm gQ ct oc:Value}{an od:Option Addr}{BE:Array (Option Value)}{binds:List (PySem.Str×Value)}(B:Below (Ar dp un gd stack) base stack g)(kp:∀b o,g.get? b=some o→s.heap.get? b=some o)(sz:g.objs.size≤s.heap.objs.size)(X:(hd.heap_39 w.params).In g)(T:jI cy mg mb g)(N:ik g s.heap pre)(ka:dp<recursionLimit)(ho:(hd.heap_39 w.params).lookup f=some ⟨oc,od,.func (fnOf name qual params body scope dV kV doc pm an gQ ct),BE⟩)(t5:codeIn (hd.heap_39 w.params) gQ qual=true)(kb:BindsTo s (fnOf name qual params body scope dV kV doc pm an gQ ct) ⟨args,[]⟩ binds)(ml:(binds.all fun y=>scope.names.lookup y.1==some .local||scope.names.lookup y.1==some .cell)=true)(jM:((cellsFrom 0 scope.names []).map (·.1)).Nodup)(h:∀L bH tk cells,Fr g L bH (bindL (envOfC qual scope L f gQ).kindOf binds fun a_=>none)→News g L bH (cells++pre)→CellsAre (bindC (envOfC qual scope L f gQ).kindOf binds fun a_=>none) (cellsFrom (L+1) scope.names []) cells→(∀p∈pre,p.1<L)→wpAny (model PySem.Challenge.rw_xw0233_01.row.prog w) ((Ar dp un gd stack).deeper (envOfC qual scope L f gQ)) (execs body (envOfC qual scope L f gQ)) (fun fl s'=>R (.ok (.ret (match fl with|.ret v=>v|_=>.none))) s') (fun e s'=>wpAny (model PySem.Challenge.rw_xw0233_01.row.prog w) ((Ar dp un gd stack).deeper (envOfC qual scope L f gQ)) (leaving (envOfC qual scope L f gQ) e) (fun a_ ij=>R (.error e) ij) (fun e' ij=>R (.error e') ij) s') {s with heap:=bH,toks:=tk})(jm:scope.isCoroutine=false)(lu:scope.isGenerator=false)(hk:scope.kind=.function):codeAny (model PySem.Challenge.rw_xw0233_01.row.prog w) (Ar dp un gd stack) (.call (.ref f) ⟨args,[]⟩) R s:=by
 have Xs:(hd.heap_39 w.params).In s.heap:=X.keeps kp;refine codeAny_call_function ka (Xs _ _ ho) rfl jm lu rfl (codeRec_of Xs t5) (kb _ _ _ _ (wpAny_newFunctionEnv_cells hk (kindsX ml _) fun L7 he s' x=>?_));subst he;have f':=x.toInCall.keep;refine⟨(T.nolimit.keeps kp).keeps f',codeAny_func (cS x.done fun bH tk aQ _=>?_)⟩;clear f';subst aQ;have f':=x.toInCall.keep;refine aa (Cl.news (h₀:=s.heap) (bF _) fun n c hm=>⟨x.cell n c (lookup_of_mem_nodup (cellsFrom_names scope.names 0 (s.heap.objs.size+1) [] [] rfl▸jM) hm),x.above n c hm⟩) fun cells NC Y=>h s.heap.objs.size bH tk cells ⟨x.toInCall.ns,fun b o e=>f' b o (kp b o e),sz⟩ (fun p hp=>?_) Y (fun p hp=>Heap.lt_size (N p hp).1);rcases cC.mp hp with hp|hp
 ·refine aN ((NC p hp).1) ((NC p hp).2.1) ?_;generalize q:g.get? p.1=y_;induction y_ with
  |none=>rfl
  |some o=>have:=kp _ _ q;rw[(NC p hp).2.2]at this;exact nS this
 ·exact aN (f' _ _ (N p hp).1) (Nat.ne_of_lt (Heap.lt_size (N p hp).1)) ((N p hp).2)
noncomputable abbrev tup(vs:Array Value)(e:Nat):Obj:={cls:=.type "tuple",data:=.seq vs e}
inductive As:Led→List Addr→Prop
 |nil:As [] []
 |cons {a o l as}:As l as→As ((a,o)::l) (a::as)
 |app {b l as}:As l as→As (b++l) (adr b++as)
 |fj {b}:As b (adr b)
theorem As.eq(h:As l as):adr l=as:=by
 induction h with
 |nil=>rfl
 |cons _ ih=>exact av _ ih
 |app _ ih=>exact List.map_append.trans (av _ ih)
 |fj=>rfl
theorem y6{as:List Addr}(h:As l as)(D:(adr l).Nodup):as.Nodup:=h.eq▸D
theorem nk{as:List Addr}(l1:∀p∈news,p.1<x)(h:As news as)(D:as.Nodup):(x::as).Nodup:=cu.mpr ⟨fun hm=>by rw[←h.eq]at hm;refine aa (bO.mp hm) fun p hp e=>?_;have:=l1 p hp;rw[e]at this;exact Nat.lt_irrefl _ this,D⟩
theorem mm(l2:y<x)(l1:∀p∈news,p.1<y)(h:As news as)(D:(y::as).Nodup):(x::y::as).Nodup:=
 cu.mpr ⟨fun hm=>by
  rcases bD.mp hm with e|hm
  ·exact Nat.lt_irrefl _ (e▸l2)
  ·rw[←h.eq]at hm;refine aa (bO.mp hm) fun p hp e=>?_;have h1:p.1<x:=Nat.lt_trans (l1 p hp) l2;rw[e]at h1;exact Nat.lt_irrefl _ h1,D⟩
theorem cN(l1:∀p∈news,p.1<x)(D:(adr news).Nodup):(x::adr news).Nodup:=cu.mpr ⟨fun h=>by refine aa (bO.mp h) fun p hp e=>?_;have:=l1 p hp;rw[e]at this;exact Nat.lt_irrefl _ this,D⟩
set_option tactic.hygienic false
namespace BF
theorem pv:Slot "bytes" "join" "bytes.join":=.of (owner:="bytes") (n:="join") (by rw[typeLookup_type,builtinLookup_eq_fast];kernel_rfl) (by decide+kernel) (by decide+kernel) (by decide+kernel) (by first|exact .inl (by decide+kernel)|exact .inr (by decide+kernel)) (by rw[isSubtype_type];kernel_rfl)
theorem ub:entryFor table "bytes.join"=some Builtin.«bytes.join»:=entryFor_of_tree (by kernel_rfl)
theorem xr(a b:Value):argsOk "bytes.join" ⟨[a,b],[]⟩:=by unfold argsOk;kernel_rfl
theorem xt:typeOf (.builtin "bytes.join")=pure (.type "method_descriptor"):=by refine(?_:builtinType _=_);refine builtinType_eq_fast.symm▸?_;kernel_rfl
end BF
section
variable{prog:Program}{w:World}{M:Model}{A:Around}{E:dB}{s:Shared}{l:Addr}
noncomputable abbrev EF(bs:List (aD×Tok)):List Value:=bs.map fun p=>Value.bytes p.1.toArray p.2
theorem sk{Q:Value×List Value→Shared→Prop}(h:Q (.builtin "bytes.join",[.bytes c t]) s):wpAny M A (getMethod (.bytes c t) "join" pl) Q E s:=by with_reducible exact PySem.W.KBd.method_of (.bytes c t) (PySem.W.typeIs_bytes _ _ _) BF.pv BF.xt PySem.W.KBd.noRef h
theorem qJ(parts:List (aD)):Builtin.Bytes.joined #[] (parts.map List.toArray)=parts.flatten.toArray:=by
 unfold Builtin.Bytes.joined
 have key:∀(ps:List (aD)) (k:Nat) (out:Array UInt8),((ps.map List.toArray).zipIdx k).foldl (fun out (p,i)=>(if i>0 then out++#[]else out)++p) out=out++ps.flatten.toArray:=by
  intro ps;induction ps with
  |nil=>intro k out;simp
  |cons p ps ih=>intro k out;rw[List.map_cons,List.zipIdx_cons,List.foldl_cons,ih];by_cases hk:k>0<;>simp[hk]
 simpa using key parts 0 #[]
noncomputable abbrev H_(bs:List (aD×Tok)):List (Value×Option Value):=bs.map fun p=>(Value.bytes p.1.toArray p.2,none)
theorem so(keep:List Value):∀(bs:List (aD×Tok)) {Q:Unit→Shared→Prop},Q () s→wpAny M A (Builtin.Bytes.joinLetGo (H_ bs) keep) Q E s:=by
 intro X_;induction X_ with
 |nil=>intro _ h;exact bc h
 |cons p bs cD=>intro _ h;exact((aO (wpAny_letGo (cD h))):wpAny M A (letGo _ _>>=fun a_=>Builtin.Bytes.joinLetGo (H_ bs) keep) _ _ _)
theorem sq{β:Type}{r:Std.Legacy.Range}{n:Nat}{init:β}{f:Nat→β→Sem (ForInStep β)}{Q:β→Shared→Prop}(hn:r.size=n)(h:wpAny (model prog w) A (forIn (List.range' r.start n r.step) init f) Q E s):wpAny (model prog w) A (forIn r init f) Q E s:=by rw[Std.Legacy.Range.forIn_eq_forIn_range',hn];exact h
theorem forIn_range{β:Type}{f:Nat→β→Sem (ForInStep β)}{Q:β→Shared→Prop}(st:Nat→β)(n:Nat)(turn:∀i,i<n→wpAny M A (f i (st i)) (fun r s'=>match r with|.yield b=>b=st (i+1)∧s'=s|.done b=>Q b s') E s)(fin:Q (st n) s):wpAny M A (forIn (List.range' 0 n 1) (st 0) f) Q E s:=by
 have key:∀(k i:Nat),i+k=n→wpAny M A (forIn (List.range' i k 1) (st i) f) Q E s:=fun k=>by
  induction k with
  |zero=>intro i e;rw[List.range'_zero,List.forIn_nil];exact bc (by rw[Nat.add_zero]at e;rw[e];exact fin)
  |succ k ih=>
   intro i e;rw[List.range'_succ,List.forIn_cons];refine aO (wpAny_mono (turn i (by rw[←e];exact Nat.lt_add_of_pos_right (Nat.succ_pos k))) (fun r s' hr=>?_) fun _ _ h'=>h');induction r with
   |done b=>exact bc hr
   |yield b=>rw[hr.1,hr.2];exact ih (i+1) (by rw[←e,Nat.add_assoc,Nat.add_comm 1 k])
 exact key n 0 (Nat.zero_add n)
theorem xu{f:Value→Sem PySem.Fin}{Q:PySem.Fin→Shared→Prop}{E':dB}{items:Array Value}(hn:items.size≠1)(h:wpAny M A' t Q E' s):wpAny M A' (match items with|#[x]=>f x|_=>t) Q E' s:=by
 obtain⟨l⟩:=items
 match l with
 |[]=>exact h
 |[a]=>exact absurd rfl hn
 |a::b::l=>exact h
theorem uc{bs:List (aD×Tok)}{t0:Tok}{Q:dB}(hl:s.heap.IsList l (EF bs).toArray)(hn:bs.length≠1)(hz:(bs.flatMap (·.1)).length≤1000000)(h:∀t k,Q (.bytes (bs.flatMap (·.1)).toArray t) {s with toks:=k}):wpAny (model prog w) A (call (.builtin "bytes.join") [.bytes #[] t0,.ref l]) Q E s:=by
 have hT:=hl.typeIs;refine cg (id hl) fun ol L8 _ t_=>bg t_ fun nl hd=>?_;have hsz:(EF bs).toArray.size=bs.length:=by simp
 refine wpAny_call_entry BF.pv (PySem.W.typeIs_bytes _ _ _) BF.ub ?_ (BF.xr _ _);unfold Builtin.«bytes.join» Builtin.Bytes.joinM;refine aO (bL (a:=(Value.bytes #[] t0,Value.ref l)) rfl (PySem.bm_if_true tt ?_));unfold Builtin.Bytes.joinItems;refine aO (aO (wpAny_typeOf hT (PySem.bm_if_true (by decide) (bc (aO (wpAny_seqItems L8 hd ?_))))));refine PySem.bm_if_true tt ?_;dsimp only;refine xu (by rw[hsz];exact hn) (aO (sq (n:=bs.length) (by simp only[Std.Legacy.Range.size,Nat.sub_zero,Nat.add_sub_cancel,Nat.div_one,hsz]) (forIn_range (fun i=>(((bs.take i).map fun p=>p.1.toArray).toArray,H_ (bs.take i))) bs.length (fun i gq=>?_) ?_)))
 ·refine aO (wpAny_seqItems L8 hd ?_);dsimp only;have hx:(EF bs).toArray.getD i .none=.bytes bs[i].1.toArray bs[i].2:=by simp[Array.getD,gq]
  refine hx.symm▸?_;refine cA (by refine(?_:(false||(H_ (bs.take i)).any (·.1.onHeap))=false);rw[Bool.false_or,List.any_eq_false];intro p hp;refine aa (bO.mp hp) fun q _ aQ=>?_;clear hp;subst aQ;exact cz) ?_;refine aO (wpAny_holding (bL ip (aO (wpAny_seqItems L8 hd (cA (by refine hsz.symm▸?_;simp) ?_)))));refine bc ⟨?_,rfl⟩;have ht:bs.take (i+1)=bs.take i++[bs[i]]:=by refine List.take_add_one.symm▸?_;refine(cn gq).symm▸?_;rfl
  refine ht.symm▸?_;simp only[H_,List.map_append,List.map_cons,List.map_nil,List.push_toArray]
 ·refine List.take_length.symm▸(aO (bL (a:=#[]) rfl ?_));have hj:Builtin.Bytes.joined #[] (bs.map fun p=>p.1.toArray)=(bs.flatMap (·.1)).toArray:=by have:=qJ (bs.map (·.1));rw[List.map_map]at this;exact List.flatMap_def.symm▸(this)
  have L9:(bs.map fun p=>p.1.toArray).foldl (fun x p=>x+p.size) 0=(bs.flatMap (·.1)).length:=by
   have key:∀(bs:List (aD×Tok)) (k:Nat),(bs.map fun p=>p.1.toArray).foldl (fun x p=>x+p.size) k=k+(bs.flatMap (·.1)).length:=by
    intro bs;induction bs with
    |nil=>intro k;simp
    |cons p bs ih=>intro k;rw[List.map_cons,List.foldl_cons,ih];simp;exact bo (H4 2306550598032 rfl) (H4 2270311846032 rfl)
   rw[key,Nat.zero_add]
  refine cA (by refine PySem.W.KBy.tooLong_not ?_;rw[←Array.foldl_toList];refine(?_:List.foldl (fun x (p:Array UInt8)=>x+p.size) (0*_) (bs.map fun p=>p.1.toArray)≤_);rw[Nat.zero_mul,L9];exact aC 1152921900924713696262144 rfl hz) ?_;dsimp only;refine hj.symm▸(aO (wpAny_mkBytes ?_ (by refine List.size_toArray.symm▸?_;refine sizeLine_eq.symm▸?_;exact aC 1152921900924713696262144 rfl hz)));exact aO (wpAny_holding (wpAny_point (aO (so _ _ (bc (ah _ rfl (h _ _)))))))
end
inductive fR:List Value→List (Array UInt8)→Prop
 |nil:fR [] []
 |cons {b t vs bs}:fR vs bs→fR (.bytes b t::vs) (b::bs)
theorem fR.EF{bs:List (Array UInt8)}(h:fR vs bs):∃cs:List (aD×Tok),vs=Mine.Internal.EF cs∧cs.flatMap (·.1)=bs.flatMap Array.toList∧cs.length=bs.length:=by
 induction h with
 |nil=>exact bY [] rfl rfl rfl
 |@cons b t _ _ _ ih=>exact cg ih fun cs az h2 h3=>bY ((b.toList,t)::cs) (by simp[Mine.Internal.EF,az]) (by simp[h2]) (by simp[h3])
theorem y7{E:dB}{s:Shared}{vs:List Value}{bs:List (Array UInt8)}{Q:dB}(hv:fR vs bs)(hl:s.heap.IsList l vs.toArray)(hn:bs.length≠1)(hz:(bs.flatMap Array.toList).length≤1000000)(h:∀t k,Q (.bytes (bs.flatMap Array.toList).toArray t) {s with toks:=k}):wpAny (model prog w) A (call (.builtin "bytes.join") [.bytes #[] t0,.ref l]) Q E s:=by refine cg hv.EF fun cs az h2 h3=>?_;clear hv;subst az;rw[←h2]at hz h;exact uc hl (by refine h3.symm▸?_;exact hn) hz h
noncomputable def w4(x:Int):aD:=[x.fmod 4294967296/256/256/256% 256,x.fmod 4294967296/256/256% 256,x.fmod 4294967296/256% 256,x.fmod 4294967296% 256].map fun i=>i.toNat.toUInt8
noncomputable def en(xs:List Int):aD:=xs.flatMap w4
theorem xw(x:Int):(w4 x).length=4:=rfl
theorem da(xs:List Int):(en xs).length=4*xs.length:=by
 induction xs with
 |nil=>rfl
 |cons x xs ih=>refine(?_:(w4 x++en xs).length=_);rw[bR,xw,ih,cB];exact bo (bX 103741438936369040 rfl) (bX 1306739891307680 rfl)
theorem y8{b:Array UInt8}{l:List Int}(h:KBw.bInts b=l):b.toList=l.map fun i=>i.toNat.toUInt8:=by
 refine h▸?_
 unfold KBw.bInts
 refine List.map_map.symm▸?_
 conv=>lhs;rw[←List.map_id b.toList]
 refine List.map_congr_left fun c a_=>?_
 simp
inductive oW:List Value→List Int→Prop
 |nil:oW [] []
 |cons {b t vs x xs} (h:KBw.bInts b=[x.fmod 4294967296/256/256/256% 256,x.fmod 4294967296/256/256% 256,x.fmod 4294967296/256% 256,x.fmod 4294967296% 256]):oW vs xs→oW (.bytes b t::vs) (x::xs)
theorem oW.are{xs:List Int}(h:oW vs xs):∃bs,fR vs bs∧bs.flatMap Array.toList=en xs∧bs.length=xs.length:=by
 induction h with
 |nil=>exact bY [] .nil rfl rfl
 |@cons b _ _ _ _ h t ih=>refine cg ih fun bs h1 h2 h3=>bY (b::bs) (.cons h1) (List.flatMap_cons.symm▸?_) (by simp[h3]);refine h2.symm▸?_;refine(y8 h).symm▸?_;rfl
theorem ud{E:dB}{s:Shared}{vs:List Value}{xs:List Int}{Q:dB}(hl:s.heap.IsList l vs.toArray)(hv:oW vs xs)(hn:xs.length≠1)(hz:xs.length≤100)(h:∀t k,Q (.bytes (en xs).toArray t) {s with toks:=k}):wpAny (model prog w) A (call (.builtin "bytes.join") [.bytes #[] t0,.ref l]) Q E s:=by refine cg hv.are fun bs h1 h2 h3=>y7 h1 hl (by refine h3.symm▸?_;exact hn) ?_ (by refine h2.symm▸?_;exact h);rw[h2,da];exact fm 1847556979568020554912 1 [4] rfl hz
noncomputable def sub(b:aD)(i j:Nat):aD:=(b.drop i).take (j-i)
theorem ue(b:aD)(i j:Nat):(sub b i j).length≤j-i:=by unfold sub;refine List.length_take.symm▸?_;exact Nat.min_le_left _ _
theorem nq(b:Array UInt8){x y:Int}(hx:0≤x)(hy:0≤y):KBy.picked b (some x) (some y)=(sub b.toList x.toNat y.toNat).toArray:=by
 rw[KBc.picked_eq];congr 1;have ex:clipAt b.size x=min x.toNat b.size:=by rw[←aA hx,clipAt_nat];rfl
 have ey:clipAt b.size y=min y.toNat b.size:=by rw[←aA hy,clipAt_nat];rfl
 refine(?_:(b.toList.drop (clipAt b.size x)).take (clipAt b.size y-clipAt b.size x)=_);refine ex.symm▸?_;refine ey.symm▸?_;unfold sub;refine List.ext_getElem? fun k=>?_;simp only[List.getElem?_take,List.getElem?_drop];have hl:b.toList.length=b.size:=Array.length_toList;by_cases Hp:x.toNat≤b.size
 ·refine(cq Hp).symm▸?_;by_cases KP:y.toNat≤b.size
  ·exact(cq KP).symm▸rfl
  ·rw[Nat.min_eq_right (by exact ar 1073168 rfl KP)];by_cases hk:k<b.size-x.toNat
   ·rw[aB hk,aB (by exact@mN [_,_,_,_,_,_] [] 424602734737937469299642145 1 [1,1,-1,1] rfl KP hk (aG (eR 4933550592 rfl Hp KP)) (aG (ar 1048832 rfl Hp)))]
   ·rw[aH hk,List.getElem?_eq_none (by exact@lj [_,_,_,_,_] [] 386486027632955947264 1 [1,1,-1] rfl hl hk (aG (ar 1048832 rfl Hp))),ite_self]
 ·rw[Nat.min_eq_right (by exact ar 1073168 rfl Hp:b.size≤x.toNat),List.getElem?_eq_none (by exact Nat.le_add_right _ _),List.getElem?_eq_none (by exact m8 1262991124736 rfl hl Hp),ite_self,ite_self]
theorem B_(b:Array UInt8)(hx:0≤x)(hy:0≤y)(hj:y≤x+8):(KBy.picked b (some x) (some y)).size≤8:=by refine(nq b hx hy).symm▸?_;refine List.size_toArray.symm▸?_;have:=ue b.toList x.toNat y.toNat;exact(Nat.le_total (x.toNat) (y.toNat)).elim (fun a0=>LR 5379259169968079549038474790656 1 [1,1,1,-1,1] rfl hj this (aG (ar 1048832 rfl a0)) (aA (aZ 1081294963 rfl hx)) (aA (aZ 1081294963 rfl hy))) (fun a0=>dC 485884987136 rfl this (Nat.sub_eq_zero_of_le (ar 1048832 rfl a0)))
noncomputable def num(l:aD):Int:=KFB.value (l.map fun c=>((c.toNat:Nat):Int))
theorem uf(b:Array UInt8){x y:Int}(hx:0≤x)(hy:0≤y):KFB.value (KBw.bInts (KBy.picked b (some x) (some y)))=num (sub b.toList x.toNat y.toNat):=by refine(nq b hx hy).symm▸?_;rfl
theorem ly:[a].Nodup:=cu.mpr ⟨List.not_mem_nil,List.nodup_nil⟩
section
variable{prog:Program}{w:World}{A:Around}{E:dB}{Q:Flow→Shared→Prop}{s:Shared}{env:Env}{h₀:Heap}{L:Addr}
end
set_option tactic.hygienic true
def cc{prog:Program}{w:World}{K:Type}[DecidableEq K](knd:KeyKind prog w K)(d:Addr)(kvs:List (K×Value))(o:Obj):Prop:=(d==sysModules)=false∧o.IsDictOf knd kvs
section
variable{prog:Program}{w:World}{K:Type}[DecidableEq K]{knd:KeyKind prog w K}{kvs:List (K×Value)}{k:K}{key:Value}{A:Around}{E:dB}{s:Shared}{d:Addr}{h₀:Heap}{L:Addr}{m:PySem.Str→Option Value}{news:Led}{o:Obj}
theorem cc.at{h:Heap}(N:News h₀ L h news)(hm:(d,o)∈news)(T:cc knd d kvs o):h.DictOf knd d kvs:=Heap.dictOf_iff.mpr (ah o ((N _ hm).1) T.2)
theorem L_{Q:dB}(N:News h₀ L s.heap news)(hm:(d,o)∈news)(T:cc knd d kvs o)(jN:knd.is k key=true)(h:Q (.bool (valueAt kvs k).isSome) {s with toks:=s.toks+1}):wpAny (model prog w) A (compareOp .In key (.ref d)) Q E s:=wpAny_in_of jN T.1 (T.at N hm).mapOf h
theorem B'{Q:dB}(N:News h₀ L s.heap news)(hm:(d,o)∈news)(T:cc knd d kvs o)(jN:knd.is k key=true)(h:Q (.bool (!(valueAt kvs k).isSome)) {s with toks:=s.toks+1}):wpAny (model prog w) A (compareOp .NotIn key (.ref d)) Q E s:=wpAny_notIn_of jN T.1 (T.at N hm).mapOf h
theorem getMethod_T{name:PySem.Str}{id:String}{pl:Sem Bool}{Q:Value×List Value→Shared→Prop}(slot:Slot "dict" name id)(OQ:typeOf (.builtin id)=pure (.type "method_descriptor"))(N:News h₀ L s.heap news)(hm:(d,o)∈news)(T:cc knd d kvs o)(h:Q (.builtin id,[.ref d]) s):wpAny (model prog w) A (getMethod (.ref d) name pl) Q E s:=getMethod_builtin (T.at N hm).typeIs PySem.F.plainAttrs_dict slot OQ (T.at N hm).mapOf.noDict h
theorem y9{Q:dB}(N:News h₀ L s.heap news)(hm:(d,o)∈news)(T:cc knd d kvs o)(jN:knd.is k key=true)(h:Q ((valueAt kvs k).getD .none) {s with toks:=s.toks+1}):wpAny (model prog w) A (call (.builtin "dict.get") [.ref d,key]) Q E s:=call_meetsIn PySem.F.slot_dict_get (T.at N hm).typeIs PySem.F.entry_dict_get (PySem.F.args_dict_get_2 _ _) (meets_dict_get knd d jN T.1) (ah _ ((T.at N hm).mapOf) h)
theorem xy{Q:dB}(N:News h₀ L s.heap news)(hm:(d,o)∈news)(T:cc knd d kvs o)(jN:knd.is k key=true)(hv:valueAt kvs k=none)(h:Q .none {s with toks:=s.toks+1}):wpAny (model prog w) A (call (.builtin "dict.get") [.ref d,key]) Q E s:=y9 N hm T jN (by rw[hv];exact h)
theorem pw{Q:dB}(N:News h₀ L s.heap news)(hm:(d,o)∈news)(T:cc knd d kvs o)(jN:knd.is k key=true)(hv:valueAt kvs k=some v)(h:Q v {s with toks:=s.toks+1}):wpAny (model prog w) A (call (.builtin "dict.get") [.ref d,key]) Q E s:=y9 N hm T jN (by rw[hv];exact h)
theorem za{dflt:Value}{Q:dB}(N:News h₀ L s.heap news)(hm:(d,o)∈news)(T:cc knd d kvs o)(jN:knd.is k key=true)(h:Q ((valueAt kvs k).getD dflt) {s with toks:=s.toks+1}):wpAny (model prog w) A (call (.builtin "dict.get") [.ref d,key,dflt]) Q E s:=call_meetsIn PySem.F.slot_dict_get (T.at N hm).typeIs PySem.F.entry_dict_get (PySem.F.args_dict_get_3 _ _ _) (meets_dict_get_default knd d jN T.1 dflt) (ah _ ((T.at N hm).mapOf) h)
theorem truthy_T{Q:Bool→Shared→Prop}(N:News h₀ L s.heap news)(hm:(d,o)∈news)(T:cc knd d kvs o)(xl:kvs.length≤100000)(h:Q (!kvs.isEmpty) {s with toks:=s.toks+1+1}):wpAny (model prog w) A (truthy (.ref d)) Q E s:=wpAny_truthy_dict T.1 (T.at N hm) (lo1 [_] [] (.l (.v 0) (.n 100000)) (.T (.c (.v 0)) (.n 9223372036854775808)) tt xl) h
theorem DA{g:Obj→Led}{Q:Unit→Shared→Prop}(F:Fr h₀ L s.heap m)(N:News h₀ L s.heap news)(U:UpdF d o news g)(T:cc knd d kvs o)(jN:knd.is k key=true)(hsz:kvs.length≤100000)(h:∀h' o',Fr h₀ L h' m→News h₀ L h' (g o')→cc knd d (stored kvs k v) o'→Q () {s with heap:=h',toks:=s.toks+1}):wpAny (model prog w) A (setItem (.ref d) key v) Q E s:=by
 refine bV U.split fun pre post aQ hg h1 h2=>?_;clear U;subst aQ;have hm:=N (d,o) (cb _ aS);refine wpAny_setItem_pairs (hsz:=by rw[sizeLine_eq];exact aC 115292546778551417862144 rfl hsz) jN (Heap.dictOf_iff.mpr (ah o hm.1 T.2)) fun h' Ma hs=>aa (Heap.dictOf_iff.mp Ma) fun o' ug yW=>h h' o' (F.change hs hm.2.1 hm.2.2) ?_ ⟨T.1,yW⟩;rw[hg];intro p hp;rcases cC.mp hp with hp|hp
 ·exact⟨hs.extBut _ _ (h1 p hp) (N p (List.mem_append_left _ hp)).1,(N p (List.mem_append_left _ hp)).2⟩
 ·rcases bD.mp hp with rfl|hp
  ·exact⟨ug,hm.2⟩
  ·exact⟨hs.extBut _ _ (h2 p hp) (N p (cb _ (cO _ hp))).1,(N p (cb _ (cO _ hp))).2⟩
theorem ju:Slot "dict" "__delitem__" "dict.__delitem__":=.of (owner:="dict") (n:="__delitem__") (by rw[typeLookup_type,builtinLookup_eq_fast];kernel_rfl) (by decide+kernel) (by decide+kernel) (by decide+kernel) (by first|exact .inl (by decide+kernel)|exact .inr (by decide+kernel)) (by rw[isSubtype_type];kernel_rfl)
theorem nr:entryFor table "dict.__delitem__"=some Builtin.«dict.__delitem__»:=entryFor_of_tree (by kernel_rfl)
theorem oX(a b:Value):argsOk "dict.__delitem__" ⟨[a,b],[]⟩:=by unfold argsOk;kernel_rfl
theorem Ia{g:Obj→Led}{Q:Unit→Shared→Prop}(F:Fr h₀ L s.heap m)(N:News h₀ L s.heap news)(U:UpdF d o news g)(T:cc knd d kvs o)(jN:knd.is k key=true)(hsz:kvs.length≤100000)(hv:(valueAt kvs k).isSome=true)(h:∀h' o',Fr h₀ L h' m→News h₀ L h' (g o')→cc knd d (without kvs k) o'→Q () {s with heap:=h',toks:=s.toks+1}):wpAny (model prog w) A (delItem (.ref d) key) Q E s:=by
 refine bV U.split fun pre post aQ hg h1 h2=>?_;clear U;subst aQ;have hm:=N (d,o) (cb _ aS);have hd:=T.at N (cb _ aS);have hT:=hd.typeIs;unfold delItem;refine wpAny_holding (aO (wpAny_sequenceKey hT (by decide) ?_));refine aO (wpAny_callSpecial?_slot (name:=Str.ofString "__delitem__") hT ju (call_meetsIn ju hT nr (oX _ _) (meets_dict_delitem_pairs knd d jN) (m4 kvs hd (by rw[sizeLine_eq];exact aC 115292546778551417862144 rfl hsz) hv (fun h' Ma hs=>?_))));refine bc (aa (Heap.dictOf_iff.mp Ma) fun o' ug yW=>(h h' o' (F.change hs hm.2.1 hm.2.2) ?_ ⟨T.1,yW⟩));rw[hg];intro p hp;rcases cC.mp hp with hp|hp
 ·exact⟨hs.extBut _ _ (h1 p hp) (N p (List.mem_append_left _ hp)).1,(N p (List.mem_append_left _ hp)).2⟩
 ·rcases bD.mp hp with rfl|hp
  ·exact⟨ug,hm.2⟩
  ·exact⟨hs.extBut _ _ (h2 p hp) (N p (cb _ (cO _ hp))).1,(N p (cb _ (cO _ hp))).2⟩
end
def cE{K α:Type}(R:Value→α→Prop):List (K×Value)→List (K×α)→Prop
 |[],[]=>True
 |(k,v)::kvs,(k',a)::D=>k=k'∧R v a∧cE R kvs D
 |_,_=>False
section
variable{K α:Type}[DecidableEq K]{R:Value→α→Prop}
noncomputable def aV(D:List (K×α))(k:K):Option α:=(D.find? fun p=>p.1=k).map (·.2)
noncomputable def dput(D:List (K×α))(k:K)(a:α):List (K×α):=if D.any (fun p=>p.1=k)then D.map (fun p=>if p.1=k then(p.1,a)else p)else D++[(k,a)]
noncomputable def kg(D:List (K×α))(k:K):List (K×α):=D.filter fun p=>decide (p.1≠k)
theorem cE.keys:∀{kvs:List (K×Value)} {D:List (K×α)},cE R kvs D→kvs.map (·.1)=D.map (·.1)
 |[],[],_=>rfl
 |(k,v)::kvs,(k',a)::D,h=>by rw[List.map_cons,List.map_cons,cE.keys h.2.2,show(k,v).1=(k',a).1 from h.1]
theorem cE.append:∀{kvs:List (K×Value)} {D:List (K×α)},cE R kvs D→∀{k v a},R v a→cE R (kvs++[(k,v)]) (D++[(k,a)])
 |[],[],_,_,_,_,hr=>aN rfl hr trivial
 |(k0,v)::kvs,(k',a)::D,⟨e,hr,h⟩,_,_,_,EG=>aN e hr (cE.append h EG)
theorem cE.put(h:cE R kvs D)(k:K)(hr:R v a):cE R (stored kvs k v) (dput D k a):=by
 have sr:(kvs.any fun p=>decide (p.1=k))=D.any fun p=>decide (p.1=k):=by have:=av (fun l=>l.any fun x=>decide (x=k)) h.keys;simp only[List.any_map]at this;exact this
 unfold stored dput;rw[sr];split
 ·clear sr
  have go:∀{kvs:List (K×Value)} {D:List (K×α)},cE R kvs D→cE R (kvs.map fun kv=>if kv.1=k then(kv.1,v)else kv) (D.map fun p=>if p.1=k then(p.1,a)else p):=by
   intro kvs;induction kvs with
   |nil=>intro D h;induction D using List.casesOn with|nil=>trivial|cons _ _=>exact h.elim
   |cons p kvs ih=>
    intro D h;induction D using List.casesOn with
    |nil=>exact h.elim
    |cons q D=>
     obtain⟨k0,v0⟩:=p;obtain⟨k1,a0⟩:=q;obtain⟨e,Mb,h⟩:=h;subst e;rw[List.map_cons,List.map_cons];by_cases ek:k0=k
     ·simp only[ek,if_true];exact aN rfl hr (ih h)
     ·simp only[ek,if_false];exact aN rfl Mb (ih h)
  exact go h
 ·exact h.append hr
theorem dm(D:List (K×α))(k x:K)(a:α):aV (dput D k a) x=if x=k then some a else aV D x:=by
 unfold dput aV
 split
 ·rename_i sr
  induction D with
  |nil=>simp at sr
  |cons p D ih=>
   obtain⟨k0,a0⟩:=p
   rw[List.map_cons,List.find?_cons,List.find?_cons]
   by_cases e0:k0=k
   ·clear sr;subst e0
    simp only[if_true]
    by_cases ex:k0=x
    ·clear ih;subst ex;simp
    ·simp only[ex,decide_false,aH (Ne.symm ex)]
     by_cases h2:(D.any fun p=>decide (p.1=k0))=true
     ·rw[ih h2,aH (Ne.symm ex)]
     ·have:(D.map fun p=>if p.1=k0 then(p.1,a)else p)=D:=by
       conv=>rhs;rw[←List.map_id D]
       refine List.map_congr_left fun p hp=>?_
       rw[aH];rfl
       intro e;exact h2 (List.any_eq_true.mpr (ah p hp (by simpa using e)))
      rw[this]
   ·simp only[e0,if_false]
    by_cases ex:k0=x
    ·clear ih;subst ex;simp[e0]
    ·simp only[ex,decide_false]
     refine ih ?_
     simpa[e0]using sr
 ·rename_i sr
  rw[List.find?_append]
  by_cases ex:x=k
  ·subst ex
   have:D.find? (fun p=>decide (p.1=x))=none:=by
    rw[List.find?_eq_none];intro p hp hq
    exact sr (List.any_eq_true.mpr (ah p hp hq))
   rw[this];simp
  ·have:([(k,a)]:List (K×α)).find? (fun p=>decide (p.1=x))=none:=by simp[Ne.symm ex]
   rw[this,aH ex];simp
end
theorem c8{K:Type}[DecidableEq K]{kvs:List (K×Value)}{k:K}:valueAt kvs k=none↔k∉kvs.map (·.1):=by
 unfold valueAt;rw[Option.map_eq_none_iff,List.find?_eq_none];constructor
 ·intro h hm;exact aa (bO.mp hm) fun p hp e=>h p hp (by simpa using e)
 ·intro h p hp e;exact h (bO.mpr (ah p hp (by simpa using e)))
theorem stored_new{K:Type}[DecidableEq K]{kvs:List (K×Value)}{k:K}{v:Value}(h:valueAt kvs k=none):stored kvs k v=kvs++[(k,v)]:=by unfold stored;rw[aH];intro hc;exact aa (List.any_eq_true.mp hc) fun p hp e=>(c8.mp h) (bO.mpr (ah p hp (by simpa using e)))
set_option tactic.hygienic false
noncomputable abbrev gc:List Value:=[.ref 38,.type "Exception",.type "BaseException",.type "object"]
noncomputable abbrev nt:Obj:=excClassObj (Str.ofString "CrashError") (Str.ofString "CrashError") 99 98 [.ref 38] gc true [] [] false none none (some (.ref 90)) none (some (.str (Str.ofString "CrashError") 289)) (some (.str (Str.ofString "CrashError") 297)) (some (.bool true)) "Exception.__new__"
theorem kh{w:World}{h:Heap}(X:(hd.heap_39 w.params).In h):h.get? 99=some nt:=X _ _ (by rfl)
noncomputable abbrev lA(tp:Addr):Obj:={cls:=.ref 99,data:=.fields #[.ref tp,.none,.none,.none,.bool false,.none]}
noncomputable abbrev mE(rest:List Value):Obj:={cls:=.type "tuple",data:=.seq rest.toArray}
section
variable{M:Model}{prog:Program}{w:World}{A:Around}{E:dB}{R:Result→Shared→Prop}{h:Heap}{g:Array GenState}{d:Drawn}{t:Nat}{os:OsState}
theorem nv{Q:Unit→Shared→Prop}(hC:h.get? 99=some nt)(hq:Q () ⟨h,g,d,t,os⟩):wpAny M A (checkBuiltinCall "Exception.__new__" ⟨.ref 99::rest,[]⟩) Q E ⟨h,g,d,t,os⟩:=by
 have G:=PySem.F.excBase_Exception;have NH:=G.noStar;have Ib:(Value.ref 99::gc).contains (.type "Exception")=true:=by decide
 simp only[checkBuiltinCall,G.newKind,G.newSplit,G.newRow];repeat(first|refine wpAny_loadPart_at hC ?_|(refine wpAny_isSubtype_exc hC ?_;rw[Ib])|refine wpAny_staticBase_exc hC ?_|refine wpAny_madeBy_exc hC ?_|refine cA (bne_self_eq_false _) ?_|simp only[bne_self_eq_false,Bool.false_eq_true,if_false]|wp_step)
 exact hq
theorem xA{rest:List Value}(hC:h.get? 99=some nt)(DB:rest.length≤sizeLine)(hq:R (.ok (.ret (.ref (h.objs.size+1)))) ⟨(h.push (mE rest)).push (lA h.objs.size),g,d,t,os⟩):codeAny (model prog w) A (.builtin "Exception.__new__" ⟨.ref 99::rest,[]⟩) R ⟨h,g,d,t,os⟩:=by
 have G:=PySem.F.excBase_Exception;have NI:=G.ends;have Mc:(Value.ref 99::gc).contains (.type "Exception")=true:=by decide
 have OS:(Value.ref 99::gc).contains (.type "AttributeError")=false:=by decide
 have OT:(Value.ref 99::gc).contains (.type "NameError")=false:=by decide
 refine codeAny_builtinAt G.entry ?_;unfold Builtin.«BaseException.__new__»;refine PySem.wpAt_bind (((PySem.wpAt_bind (PySem.wpAt_stack fun p below=>PySem.wpAt_of_wpAny ?_)):PySem.wpAt _ _ _ (stack>>=_) _ _ _));wp_walk;refine PySem.wpAt_of_wpAny (G.owner.symm▸?_);repeat(first|with_reducible refine wpAny_madeHere_exc G.canon hC ?_|with_reducible refine wpAny_loadPart_at hC ?_|(with_reducible refine wpAny_isSubtype_exc hC ?_;first|rw[Mc]|rw[OS]|rw[OT])|wp_step)
 refine(?_:R _ _);rw[Heap.size_push];exact hq
theorem uh{rest:List Value}(hC:h.get? 99=some nt)(DB:rest.length≤sizeLine)(hi:Looks (model prog w) h (typeLookup (.ref 99) "__init__") (some (.ref 35)))(hb:∀self,Looks (model prog w) h (bindSpecial (.ref 35) self) (.ref 35,[self]))(hq:codeAny (model prog w) (A.under (.builtin "type.__call__" ⟨.ref 99::rest,[]⟩)) (.call (.ref 35) ⟨.ref (h.objs.size+1)::rest,[]⟩) (InitBack (h.objs.size+1) R) ⟨(h.push (mE rest)).push (lA h.objs.size),g,d,t,os⟩):codeAny (model prog w) A (.call (.ref 99) ⟨rest,[]⟩) R ⟨h,g,d,t,os⟩:=by
 have f1:=tc_lookup;have f2:=tc_bind (.ref 99);have G:=PySem.F.excBase_Exception;have hT:(⟨h,g,d,t,os⟩:Shared).TypeIs (.ref 99) "type":=ah _ hC rfl;refine codeAny_of_tree ((?_:wpAny _ _ (callAny (.ref 99) _) _ _ _));repeat(any_goals(first|assumption|with_reducible refine wpAny_loadPart_at hC ?_|wp_step))
 refine⟨tt,(codeAny_call_builtin_at (Code.quiet_builtin _ (by decide+kernel)) entry_typeCall (wpAny_check_type_call_sub hC ?_))⟩;repeat(first|with_reducible refine wpAny_loadPart_at hC ?_|with_reducible refine wpAny_madeBy_exc hC ?_|wp_step)
 refine codeAny_call_builtin_code (Code.quiet_builtin _ G.quiet) (nv hC (xA hC DB ((?_:wpAny _ _ _ _ _ _))));have k:∀b o,h.get? b=some o→((h.push (mE rest)).push (lA h.objs.size)).get? b=some o:=fun b o e=>Heap.get?_push_of_some _ (Heap.get?_push_of_some _ e);have DC:=k _ _ hC;have Ic:((h.push (mE rest)).push (lA h.objs.size)).get? (h.objs.size+1)=some (lA h.objs.size):=by heap_get
 have NJ:(Value.ref 99::gc).contains (.ref 99)=true:=by decide
 unfold isInstance;repeat(first|with_reducible refine wpAny_loadPart_at Ic ?_|(with_reducible refine wpAny_isSubtype_exc DC ?_;exact NJ.symm▸rfl)|wp_step)
 refine((wpAny_isSubtype_exc DC ?_):wpAny _ _ (isSubtype (.ref 99) (.ref 99)) _ _ _);refine NJ.symm▸?_;have t1:Looks (model prog w) ((h.push (mE rest)).push (lA h.objs.size)) (typeOf (.ref (h.objs.size+1))) (.ref 99):=(Looks.ld Ic).andThen .now;have i1:=hi.keeps k;have b1:=(hb (.ref (h.objs.size+1))).keeps k;simp only[Bool.not_true,Bool.false_eq_true,if_false];refine(?_:wpAny _ _ _ _ _ (⟨(h.push (mE rest)).push (lA h.objs.size),g,d,t,os⟩:Shared));unfold callSpecial? specialOf;repeat(first|with_reducible refine wpAny_call ?_|lk)
 refine codeAny_mono hq fun r s' z=>?_;rcases r with e|(v|_|_|_)<;>first|exact z|exact z.elim|skip
 obtain⟨rfl,z⟩:=z;exact bc (bc z)
noncomputable abbrev oY(tp dx:Addr):Obj:={cls:=.ref 99,dict:=some dx,data:=.fields #[.ref tp,.none,.none,.none,.bool false,.none]}
theorem su{Q:Unit→Shared→Prop}(X:(hd.heap_39 w.params).In h)(hx:h.get? x=some (lA tp))(hn:findIn (hd.heap_39 w.params) (.ref 99) name=some none)(hq:∀h' dU dx od,h'.get? x=some (oY tp dx)→h'.get? dx=some od→h.get? dx=none→dx≠x→(∀b o,b≠x→h.get? b=some o→h'.get? b=some o)→Q () ⟨h',g,d,dU,os⟩):wpAny (model prog w) A (setAttr (.ref x) name v) Q E ⟨h,g,d,t,os⟩:=by
 have SF:=PySem.F.store_Exception;have hC:=kh X;have hs:Looks (model prog w) h (typeLookup (.ref 99) (Str.ofString "__setattr__")) (some (.builtin "object.__setattr__")):=looks_findIn X (by rfl);have ha:=looks_findIn (M:=model prog w) X hn;have t1:Looks (model prog w) h (typeOf (.ref x)) (.ref 99):=(Looks.ld hx).andThen .now;have sub:Looks (model prog w) h (isInstance (.ref x) (.type "object")) true:=t1.andThen (looks_mroIn X (by rfl));have hm:Looks (model prog w) h (mroOf (.ref 99)) (.ref 99::gc):=(looks_clsIn X (C:=99) (by rfl)).andThen .now;have f3:=SF.slot.bind (.ref x);unfold setAttr callSpecial? specialOf;refine aO (wpAny_mkText (aO (aO (aO (t1.at (hs.at ?_))))));dsimp only;refine wpAny_holding (f3.symm▸(aO (bc (aO (wpAny_call (codeAny_call_builtin SF.slot.plain SF.entry (@check_slot (model prog w) _ _ _ "object.__setattr__" "object" "__setattr__" (.ref x) _ [] _ SF.kind SF.split sub (SF.args (.ref x) _ v) ?_)))))));refine(?_:wpAny _ _ (Builtin.«object.__setattr__» ⟨[.ref x,.str name t,v],[]⟩) _ _ _);rw[osa_eq,refuse_eq];refine aO (aO (t1.here (aO (hm.here ?_))));rw[refuseLoop_ref,refuseLoop_ref,SF.passes];refine bc (aO (t1.here (aO (ha.here (aO (bc ?_))))));have DD:(h.push emptyDict).get? x=some (lA tp):=Heap.get?_push_of_some _ hx;have Md:x≠h.objs.size:=Nat.ne_of_lt (Heap.lt_size hx);refine aO (bc (aO (aO (wpAny_loadPart hx (aO ((looks_clsIn X (C:=99) (by rfl)).here (aO (wpAny_alloc ?_))))))));refine aO (wpAny_update' DD (bc ?_));have OU:((h.push emptyDict).update x fun o=>{o with dict:=some h.objs.size}).get? h.objs.size=some emptyDict:=(Heap.get?_update_ne _ _ _ _ Md.symm).trans (Heap.get?_push_at rfl ff);have jM:((h.push emptyDict).update x fun o=>{o with dict:=some h.objs.size}).Ns h.objs.size (fun a_=>none):=aR _ (#[]) _ OU rfl (fun e he=>absurd he (by simp)) (fun a_=>rfl);refine(?_:wpAny _ _ (Builtin.ObjectAttr.storeInDict h.objs.size (.str name t) name v) _ _ _);unfold Builtin.ObjectAttr.storeInDict Builtin.ObjectAttr.newKeyGuard;refine aO (bc (aO (wpAny_nsSet1 (Heap.Ns1.of_empty jM) fun h' OV hs=>(bS (OV.count (Within.cons name v Within.nil)) fun oD QE QF NK OW OX=>?_))));refine aO (wpAny_lookBehind NK (by refine OW.symm▸?_;exact pastItsLine_dict (aX OX (by refine cB.symm▸?_;refine List.length_nil.symm▸?_;refine sizeLine_eq.symm▸?_;exact Nat.le_add_left _ _))) ?_);refine bc (bc (bc (hq h' _ h.objs.size oD ?_ NK (Heap.get?_none_of_le (bF _)) Md.symm (fun b ob OY hb=>?_))))
 ·exact(hs.2 x Md).trans (Heap.get?_update_self _ DD ff)
 ·exact(hs.2 b (Nat.ne_of_lt (Heap.lt_size hb))).trans ((Heap.get?_update_ne _ _ _ _ OY).trans (Heap.get?_push_of_some _ hb))
end
set_option maxHeartbeats 1000000 in
theorem ui(w:World)(e tp:Addr)(v:Value):Spec w 35 10 [.ref e,v] [(e,lA tp)] (fun r l=>r=.none∧∃dx od,l=[(e,oY tp dx),(dx,od)]) KO:=by
 unfold Spec;k_fill;intro cy mg mb dp un gd stack base g s R B kp sz X T N D ki rR ret err;refine' enter B kp sz X T N ?k8 ?k6 ?k7 ?k9 ?kB ?_ ?c2 ?c3 ?c4 ?c5
 (case k8=>simp only[recursionLimit];exact aC 64867780889993033729 rfl ki)
 (case k6=>k_is)
 (case k7=>k_is)
 (case k9=>first|exact BindsTo.of_eq rfl|exact binds_K (X.keeps kp) rfl (by k_is) rfl rfl rfl)
 (case c5=>decide)
 (case kB=>exact locs tt)
 (case c2=>exact ff)
 (case c3=>exact ff)
 (case c4=>exact rfl)
 k_whole;have nd:=Mine.Internal.y6 (by repeat(first|exact Mine.Internal.As.nil|apply Mine.Internal.As.cons|apply Mine.Internal.As.app|exact Mine.Internal.As.fj)) D;intro L bH F N gq
 (try dsimp only)
 (try k_fold)
 k_steps;have fy:=(N _ aS).2;refine su (X.keeps F.keep) (N _ aS).1 (by rfl) fun h' dU dx od g1 g2 g3 g4 g5=>?_;have F2:=LCg.fr_but F (I:=e) (fun b o hb=>g5 b o (by simpa using hb)) (Ne.symm fy.1) fy.2
 have g0:g.get? dx=none:=by
  generalize q:g.get? dx=y_;induction y_ with
  |none=>rfl
  |some o=>have:=F.keep _ _ q;rw[g3]at this;exact nS this
 have N2:News g L h' [(e,oY tp dx),(dx,od)]:=fun p hp=>by
  rcases bD.mp hp with rfl|hp
  ·exact⟨g1,fy⟩
  ·refine(c9.mp hp).symm▸(aN g2 (fun q=>(de F.ns fun oL es ep EC _=>?_)) g0);rw[show dx=L from q,EC]at g3;exact sN g3
 k_steps;exact((fin ret F2 N2 (cu.mpr ⟨by simpa using Ne.symm g4,ly⟩) (et rfl dx (HM od rfl))):R _ _)
theorem uj{w:World}{cy:ExcName→Option Value}{mg mb:PySem.Str→Option Value}{env:Env}{s:Shared}{Q E:dB}(B:Below A₀ base outer h₀)(F:Fr h₀ L s.heap m)(X:(hd.heap_39 w.params).In h₀)(T:jI cy mg mb h₀)(N:News h₀ L s.heap news)(D:(adr news).Nodup)(hf:env.frame=some L)(H5:env.scope.kind=.function)(yW:dp+20≤900)(hu:un+200≤6000)(ret:∀e tp dx od h' dU,Fr h₀ L h' m→News h₀ L h' ((e,oY tp dx)::(dx,od)::(tp,mE [v])::news)→(adr ((e,oY tp dx)::(dx,od)::(tp,mE [v])::news)).Nodup→Q (.ref e) {s with heap:=h',toks:=dU}):wpAny (model PySem.Challenge.rw_xw0233_01.row.prog w) (Ar dp un gd (env::outer)) (call (.ref 99) [v]) Q E s:=by
 obtain⟨h,gs,dr,tk,os⟩:=s;have Xs:=X.keeps F.keep;refine wpAny_call (uh (kh Xs) (by refine(?_:1≤sizeLine);refine sizeLine_eq.symm▸?_;exact Nat.le_add_left _ _) (looks_findIn Xs (by rfl)) (fun self=>bind_fn Xs self (by rfl)) ?_);have F1:=F.push (mE [v]);have N1:=N.push F (mE [v]);have F2:=F1.push (lA h.objs.size);have N2:=N1.push F1 (lA h.objs.size);rw[Heap.size_push]at N2;have l1:∀p∈news,p.1<h.objs.size:=fun p hp=>Heap.lt_size (N p hp).1;have D2:(adr ((h.objs.size+1,lA h.objs.size)::(h.objs.size,mE [v])::news)).Nodup:=mm (news:=news) (Nat.lt_succ_self _) l1 (.fj) (nk l1 .fj D);refine rZ (rest:=(h.objs.size,mE [v])::news) (ui w (h.objs.size+1) h.objs.size v) B F2 X T N2 D2 (.refl _) hf H5 ?_ ?_ (fun r post h' dU F' N' D' hr=>?_) fun e post h' dU a_ b_ hr=>hr.elim
 ·have h1:(Code.builtin "type.__call__" ⟨[.ref 99,v],[]⟩).weight≤5:=by first|exact bZ tt|decide+kernel
  exact((dC 1765854698886915491154256158853520 rfl yW h1):dp+(Code.builtin "type.__call__" ⟨[.ref 99,v],[]⟩).weight+10≤900)
 ·have h1:(Code.builtin "type.__call__" ⟨[.ref 99,v],[]⟩).cUnits≤50:=by first|exact bZ tt|decide+kernel
  exact((dC 273077936288312901533516960696733161032080 rfl hu h1):un+(Code.builtin "type.__call__" ⟨[.ref 99,v],[]⟩).cUnits+10*10≤6000)
 ·refine f9 hr fun fQ dx t_=>bg t_ fun od ew=>?_;clear hr;subst fQ;clear t_;subst ew;exact⟨rfl,ret _ _ _ _ _ _ F' N' D'⟩
def uk(E:dB)(v:Value)(bu:Shared):Prop:=∃e tp dx,v=.ref e∧bu.heap.get? 99=some nt∧bu.heap.get? e=some (oY tp dx)∧E (.ref e) bu
section
variable{M:Model}{A:Around}{E:dB}{s:Shared}{env:Env}
theorem fq{Q:Flow→Shared→Prop}(hh:A.handled=none)(h:wpAny M A x (uk E) E s):wpAny M A (raiseStmt env (some x) none) Q E s:=by
 have Mc:(Value.ref 99::gc).contains (.type "BaseException")=true:=by decide
 unfold raiseStmt;refine aO (wpAny_mono h (fun v bu bH=>(br bH fun e tp dx ew hC he hE=>?_)) fun a_ b_ x=>x);clear bH;subst ew;obtain⟨hp,g,d,tk,os⟩:=bu;repeat(first|with_reducible refine wpAny_loadPart_at he ?_|with_reducible refine wpAny_loadPart_at hC ?_|(with_reducible refine wpAny_isSubtype_exc hC ?_;rw[Mc])|wp_step)
 exact wpAny_raiseNew_none hh hE
theorem sv{Q:Flow→Shared→Prop}(hh:A.handled=none)(h:wpAny M A (eval c env) (uk E) E s):wpAny M A (exec (.Raise (some c) none pos) env) Q E s:=by
 rw[arm_exec_Raise]
 first
  |exact aO (wpAny_standAt (fq hh (aO (wpAny_mono h (fun v bu bH=>aO (wpAny_standAt (bc bH))) fun a_ b_ x=>x))))
  |(simp only[evalOpt,Option.map];exact aO (wpAny_standAt (fq hh (aO (wpAny_mono h (fun v bu bH=>aO (wpAny_standAt (bc bH))) fun a_ b_ x=>x)))))
  |(show wpAny M A (do standAt pos;raiseStmt env (some (do let v ←eval c env;standAt pos;pure v)) none) Q E s;exact aO (wpAny_standAt (fq hh (aO (wpAny_mono h (fun v bu bH=>aO (wpAny_standAt (bc bH))) fun a_ b_ x=>x)))))
end
theorem uo{scope:Scope}{s:Shared}{Q:Unit→Shared→Prop}{E:dB}(B:Below (Ar dp un gd outer) base outer h₀)(F:Fr h₀ L s.heap m)(N:News h₀ L s.heap ((e,oY tp dx)::(dx,od)::(tp,ot)::news))(D:(adr ((e,oY tp dx)::(dx,od)::(tp,ot)::news)).Nodup)(hQ:∀jr,il h₀ outer news jr e→Q () {s with heap:=jr})(hk:scope.kind=.function):wpAny (model PySem.Challenge.rw_xw0233_01.row.prog w) ((Ar dp un gd outer).deeper (envOf name scope L a cd)) (leaving (envOf name scope L a cd) (.ref e)) Q E s:=by
 have K':=B.push (name:=name) (a:=a) (cd:=cd) F hk
 have r6:h₀.get? L=none:=by
  generalize q:h₀.get? L=y_;induction y_ with
  |none=>rfl
  |some o=>exact absurd (Heap.lt_size q) (Nat.not_lt.mpr F.above)
 let as:List Addr:=(envOf name scope L a cd::outer).filterMap (·.frame)++[e,dx,tp];have HU:∀env∈(envOf name scope L a cd::outer),∀b,env.frame=some b→b∈as:=fun env he b hb=>List.mem_append_left _ (List.mem_filterMap.mpr (ah env he hb))
 have Me:∀b∈[e,dx,tp],h₀.get? b=none:=fun b hb=>by
  simp only[bD,List.not_mem_nil,or_false]at hb;rcases hb with rfl|rfl|rfl
  ·exact(N _ aS).2.2
  ·exact(N _ (cO _ aS)).2.2
  ·exact(N _ (cO _ (cO _ aS))).2.2
 have he:=(N _ aS).1;have NL:(hideAll s.heap as).get? e=none:=hideAll_none _ (cb _ aS);refine wpAny_leaving_firstW (base:=hideAll s.heap as) (a0:=.ref tp) (L:=L) K'.stack (funFrames_hide K'.frames HU) rfl he (fun b o hb=>of_hideAll _ hb) NL rfl rfl rfl fun h' hL=>oO hL fun k1 gv k3 k4=>?_;refine fc gv fun _ _ k2=>hQ h' (gm (hideAll s.heap as) (.ref tp) (fun b o hb hn=>hideAll_get _ (F.keep b o hb) fun hm=>?_) (fun p hp=>?_) (cZ k1 NL k2 k3) ((Heap.UpToSlots.of_keeps F.keep).trans k4))
 ·rcases cC.mp hm with hm|hm
  ·rw[List.filterMap_cons]at hm;rcases bD.mp hm with q|hm
   ·rw[q,r6]at hb;exact nS hb
   ·exact hn hm
  ·rw[Me b hm]at hb;exact nS hb
 ·have Np:=N p (cO _ (cO _ (cO _ hp)));refine⟨hideAll_get _ Np.1 fun hm=>?_,Np.2.2⟩;rcases cC.mp hm with hm|hm
  ·rw[List.filterMap_cons]at hm;rcases bD.mp hm with q|hm
   ·exact Np.2.1 q
   ·refine aa ((B.frames.mem hm).2) fun o ho _=>?_;rw[Np.2.2]at ho;exact nS ho
  ·have zb:p.1∈adr news:=List.mem_map_of_mem hp;have D1:(e::dx::tp::adr news).Nodup:=D;simp only[cu,bD,not_or]at D1;simp only[bD,List.not_mem_nil,or_false]at hm;rcases hm with q|q|q
   ·exact D1.1.2.2 (q▸zb)
   ·exact D1.2.1.2 (q▸zb)
   ·exact D1.2.2.1 (q▸zb)
set_option tactic.hygienic true
def EH(h₀:Heap)(news:Led)(ax:Addr)(bw:Array Value):Prop:=(∃n,(ax,listOf bw n)∈news)∨∃n,h₀.get? ax=some (tup bw n)
theorem sx{A:Around}{E:dB}{s:Shared}{m:PySem.Str→Option Value}{scope:Scope}{Q:dB}(F₀:Fr h₀ L s.heap m)(Ie:closureFor scope env=pure cl)(mi:∀y∈scope.names,y.2≠.cell)(ml:scope.kind=.function)(EI:∀y∈scope.names,y.2=.local→scope.names.lookup y.1=some .local)(hx:scope.names.lookup x=some .local)(h:wpAny (model prog w) A (eval iter env) (fun xv bu=>∃ax bw news,xv=.ref ax∧A.handled=none∧Fr h₀ L bu.heap m∧News h₀ L bu.heap news∧EH h₀ news ax bw∧bw.size≤sizeLine∧∀g,LCg.CompRest prog w A h₀ L m env elt x scope cl {bu with heap:=g} (·=news) (fun i v=>bw[i]?=some v) (LCg.FinE h₀ L m {bu with heap:=g} Q) bw.size 0 [] news) E s)(hs:∀x,foldedSetIterable iter env x=pure x):wpAny (model prog w) A (eval (.ListComp elt [⟨.Name x px,iter,[],0⟩] scope pos) env) Q E s:=by
 rw[eval_ListComp];refine wpAny_comprehension_free (use:=none) rfl hs Ie ml EI (wpAny_mono h (fun xv bu bH=>(br bH fun ax bw news ew hh F t_=>oO t_ fun N S hsz R=>?_)) fun a_ b_ e=>e);clear bH;subst ew
 have gq:ax<bu.heap.objs.size:=by
  rcases S with⟨n,S⟩|⟨n,S⟩
  ·exact Heap.lt_size (N _ S).1
  ·exact Heap.lt_size (F.keep _ _ S)
 have go:∀(oI:Obj) (St:Nat→Heap→Prop),Walks prog w A bu.heap.objs.size [bu.heap.objs.size,ax] [bu.heap.objs.size] bw.size (fun i v=>bw[i]?=some v) St→
  (∀i h,St i h→∃o,h.get? bu.heap.objs.size=some o)→
  (∀i h h' o nw,St i h→h.get? bu.heap.objs.size=some o→h'.get? bu.heap.objs.size=some o→(∀b o,h₀.get? b=some o→h'.get? b=some o)→News h₀ L h' nw→nw=news→St i h')→
  St 0 (bu.heap.push oI)→wpAny (model prog w) A (newList []) (fun acc kj=>wpAny (model prog w) A (newFunctionEnv scope env.globals cl [] env.qual none .none (some env)) (fun Ig Mf=>
  codeAny (model prog w) A (.compStart (.ListComp elt [⟨.Name x px,iter,[],0⟩] scope pos) 0 (.ref bu.heap.objs.size) acc {Ig with scope:=relabel scope env}) (compPost (model prog w) A E none Q acc Ig.locals) Mf) E kj) E {bu with heap:=bu.heap.push oI}:=by
  intro oI St W OZ O0 st;refine LCg.block_U W hsz OZ O0 mi ml hx st (fun b hb=>?_) (F.keeps fun a_ b_ e=>Heap.get?_push_of_some _ e) (N.grown fun a_ b_ e=>Heap.get?_push_of_some _ e) (Nat.ne_of_lt F.ns.lt) (next_is_new F) (fun p hp=>Nat.ne_of_lt (Heap.lt_size (N p hp).1)) rfl (R _) ?_
  ·refine(?_:b<(bu.heap.push _).objs.size);rw[Heap.size_push];rcases bD.mp hb with rfl|hb
   ·exact Nat.lt_succ_self _
   ·rw[c9.mp hb];exact Nat.lt_succ_of_lt gq
  ·intro D C h tk m' ys vO F' N' o1 hn Ii NM O3 Mg O4 Mh fin;refine ah m' hn (fun jr Ij=>fin D jr tk (F'.change Ij O3 Ii) (fun p hp=>(⟨Ij.extBut _ _ ?_ (N' p hp).1,(N' p hp).2⟩)) o1);rcases bD.mp hp with rfl|hp
   ·exact Ne.symm O4
   ·exact Mh p hp
 rcases S with⟨n,S⟩|⟨n,S⟩
 ·have hl:bu.heap.IsList ax bw:=e7 _ ((N _ S).1) rfl _ rfl;exact wpAny_pyIter_list hl (go _ _ (Walks.list hh bu.heap.objs.size ax (Nat.ne_of_lt gq) bw) (fun i h st=>let⟨o,e,_⟩:=st.1;⟨o,e⟩) (fun i h h' o nw st e e' k N e2=>⟨let⟨o',q,r⟩:=st.1;(ah o e' (bf (e.symm.trans q)▸r)),(e7 _ ((N _ (e2▸S)).1) rfl _ rfl)⟩) ⟨(bY _ (Heap.get?_push_size _ ff) rfl rfl),hl.push _⟩)
 ·have hl:bu.heap.IsTuple ax bw:=e7 _ (F.keep _ _ S) rfl _ rfl;exact wpAny_pyIter_tuple hl (go _ _ (Walks.tuple hh bu.heap.objs.size ax (Nat.ne_of_lt gq) bw) (fun i h st=>let⟨o,e,_⟩:=st.1;⟨o,e⟩) (fun i h h' o nw st e e' k N e2=>⟨let⟨o',q,r⟩:=st.1;(ah o e' (bf (e.symm.trans q)▸r)),(e7 _ (k _ _ S) rfl _ rfl)⟩) ⟨(bY _ (Heap.get?_push_size _ ff) rfl rfl),(e7 _ (Heap.get?_push_of_some _ (F.keep _ _ S)) rfl _ rfl)⟩)
theorem gW{m:PySem.Str→Option Value}{S:Led→Prop}{P:Nat→Value→Prop}{Fin:List Value→Led→Prop}(n:Nat)(Y:Nat→List Value→Led→Prop)(step:∀i ys news,i<n→Y i ys news→∀v I oI C oC D m₂ h tk (E':dB),P i v→LCg.NsObj oC m₂→m₂ x=some v→Fr h₀ L h m→News h₀ L h ((I,oI)::(C,oC)::(D,LCg.lst ys)::news)→LCg.Off3 I C D news→((@Ne Nat I C)∧(@Ne Nat I D)∧(@Ne Nat C D))→wpAny (model prog w) A (eval elt (compEnvC scope cl C env)) (LCg.CompEnd h₀ L m {s with heap:=h,toks:=tk} I oI C oC D (LCg.lst ys) S fun y vO=>Y (i+1) (ys++[y]) vO) E' {s with heap:=h,toks:=tk})(fin:∀ys news,Y n ys news→Fin ys news):∀k i ys news,i+k=n→Y i ys news→LCg.CompRest prog w A h₀ L m env elt x scope cl s S P Fin k i ys news:=by
 intro k;induction k with
 |zero=>exact fun i ys news e y=>fin ys news ((show i=n from e)▸y)
 |succ k ih=>exact fun i ys news e y=>fun v I oI C oC D m₂ h tk E' a1 a2 a3 a4 a5 a6 a7=>yN (step i ys news (e▸Nat.lt_add_of_pos_right (Nat.succ_pos k)) y v I oI C oC D m₂ h tk E' a1 a2 a3 a4 a5 a6 a7) (fun y s' df=>by refine br df fun h' dU vO e1 e2 e3 t_=>fc t_ fun e4 e5 e6=>?_;exact aR h' dU vO e1 e2 e3 (aN e4 e5 (ih _ _ _ ((Nat.add_right_comm i 1 k).trans e) e6)))
theorem xB{ns:List Int}(h:IntsAre vs ns):∀{i:Nat} {v:Value},vs[i]?=some v→∃x t,v=.int x t∧ns.take (i+1)=ns.take i++[x]:=by
 induction h with
 |nil=>exact fun h=>nomatch h
 |cons n t h ih=>exact fun{i v} e=>match i,e with
  |0,e=>cL n t ((bf e).symm) rfl
  |i+1,e=>let⟨x,t,h1,h2⟩:=ih e;(cL x t h1 (av (n::·) h2))
theorem iB{vs:List Value}{ns:List Int}(h:IntsAre vs ns):vs.length=ns.length:=by
 induction h with
 |nil=>rfl
 |cons n t h ih=>exact av Nat.succ ih
theorem oW.snoc{x:Int}(h:KBw.bInts b=[x.fmod 4294967296/256/256/256% 256,x.fmod 4294967296/256/256% 256,x.fmod 4294967296/256% 256,x.fmod 4294967296% 256])(r:oW vs xs):oW (vs++[.bytes b t]) (xs++[x]):=by
 induction r with
 |nil=>exact .cons h .nil
 |cons h' _ ih=>exact .cons h' ih
set_option maxHeartbeats 4000000 in
theorem pA(w:World)(l:Addr)(bw:Array Value)(ws:List Int)(pre:Led)(zc:IntsAre bw.toList ws)(hz:bw.size≤sizeLine)(h1:ws.length≠1)(h6:ws.length≤100):
  ∀(cy:ExcName→Option Value) (mg mb:PySem.Str→Option Value) (dp un:Nat) (gd:Option (List Code)) (stack:List Env) (base g:Heap) (s:Shared) (R:Result→Shared→Prop),
  Below (Ar dp un gd stack) base stack g→(∀b o,g.get? b=some o→s.heap.get? b=some o)→g.objs.size≤s.heap.objs.size→(hd.heap_39 w.params).In g→jI cy mg mb g→
  ik g s.heap pre→EH g pre l bw→dp+12≤900→
  (∀v h' dU,(∀b o,g.get? b=some o→h'.get? b=some o)→(∃t,v=.bytes (en ws).toArray t)→R (.ok (.ret v)) {s with heap:=h',toks:=dU})→
  codeAny (model PySem.Challenge.rw_xw0233_01.row.prog w) (Ar dp un gd stack) (.call (.ref 108) ⟨[.ref l],[]⟩) R s:=by
 k_fill
 intro cy mg mb dp un gd stack base g s R B kp sz X T N S ki ret
 refine' enter B kp sz X T N ?k8 ?k6 ?k7 ?k9 ?kB ?_ ?c2 ?c3 ?c4 ?c5
 (case k8=>simp only[recursionLimit];exact aC 64867816074365122561 rfl ki)
 (case k6=>k_is)
 (case k7=>k_is)
 (case k9=>first|exact BindsTo.of_eq rfl|exact binds_K (X.keeps kp) rfl (by k_is) rfl rfl rfl)
 (case c5=>decide)
 (case kB=>exact locs tt)
 (case c2=>exact ff)
 (case c3=>exact ff)
 (case c4=>exact rfl)
 k_whole
 intro L bH F N gq
 replace F:Fr g L bH (fun y=>List.lookup y [(Str.ofString "words",Value.ref l)]):=F
 generalize hS:(EH g pre l bw)=SS at S
 repeat' ((fail_if_success(with_reducible show wpAny _ _ (getMethod (Value.bytes _ _) _ _) _ _ _));first|(k_unfold;(try dsimp only))|walk1|(dsimp only;walk1))
 with_reducible refine Mine.Internal.sk ?_
 repeat' ((fail_if_success(with_reducible show wpAny _ _ (eval (Expr.ListComp _ _ _ _) _) _ _ _));first|(k_unfold;(try dsimp only))|walk1|(dsimp only;walk1))
 k_dflt (refine Mine.Internal.sx (F₀:=by k_asm) (by rfl) (by decide) (by rfl) (by decide) (by rfl) ?_ (by intro _;rfl))
 walk1
 subst hS
 refine aR _ bw pre rfl (by rfl) (by k_asm) (cZ (by k_asm) S hz (fun g'=>(gW bw.size (fun i ys news=>oW ys (ws.take i)∧news=pre) ?turn ?done _ 0 [] _ (Nat.zero_add _) ⟨.nil,rfl⟩)))
 case turn=>
  rintro i ys _ hi ⟨hy,rfl⟩ v I oI C oC D m₂ h tk E' hv hC hx F N off ne
  refine cS (xB zc (by rw[Array.getElem?_toList];exact hv)) fun x t aQ hn=>?_;clear hv;subst aQ
  dsimp only
  k_steps
  exact LCg.CompEnd.intro (by assumption) N _ (fun a_ h=>h) off rfl ⟨hn▸hy.snoc (by assumption),rfl⟩
 case done=>
  rintro ys _ ⟨hy,rfl⟩
  rw[List.take_of_length_le (by rw[←iB zc,Array.length_toList];exact bF _)]at hy
  repeat' ((fail_if_success(with_reducible show wpAny _ _ (call (Value.builtin "bytes.join") _) _ _ _));first|(k_unfold;(try dsimp only))|walk1|(dsimp only;walk1))
  exact ud (e7 _ (News.get (by assumption) aS) rfl _ rfl) hy h1 h6 fun t k=>ret _ _ _ (Fr.keep (by assumption)) ⟨_,rfl⟩
noncomputable def iC(b:aD)(n:Nat):List Int:=(List.range n).map fun k=>num (sub b (4*k) (4*k+4))
theorem EJ:∀n,n<9→Builtin.Range.small 0 ((n:Nat):Int) 1=true:=by decide
theorem Ik(n:Nat):Builtin.Range.rangeSize 0 n 1=((n:Nat):Int):=by unfold Builtin.Range.rangeSize;simp;exact fun h=>h▸rfl
theorem ints_snoc(h:IntsAre vs (iC b i)):IntsAre (vs++[.int (num (sub b (4*i) (4*i+4))) t]) (iC b (i+1)):=by
 have e:iC b (i+1)=iC b i++[num (sub b (4*i) (4*i+4))]:=by unfold iC;rw[List.range_succ,List.map_append];rfl
 rw[e];generalize iC b i=l at h;induction h with
 |nil=>exact .cons _ _ .nil
 |cons n t _ ih=>exact .cons n t ih
set_option maxHeartbeats 1000000 in
theorem uq(w:World)(b:Array UInt8)(n:Nat)(t0 t1 t2:Tok)(hn:n≤8)(hb:b.size≤64):
  Spec w 113 10 [.bytes b t0,.int 0 t1,.int n t2] [] (fun v l'=>∃D ys,v=.ref D∧l'=[(D,LCg.lst ys)]∧IntsAre ys (iC b.toList n)) KO:=by
 unfold Spec
 k_fill
 intro cy mg mb dp un gd stack base g s R B kp sz X T N D ki rR ret err
 refine' EE B kp sz X T N ?k8 ?k6 ?k7 ?k9 ?kB ?kD ?_ ?c2 ?c3 ?c4
 (case k8=>simp only[recursionLimit];exact aC 64867780889993033729 rfl ki)
 (case k6=>k_is)
 (case k7=>k_is)
 (case k9=>first|exact BindsTo.of_eq rfl|exact binds_K (by exact X.keeps kp) rfl (by k_is) rfl rfl rfl)
 (case kD=>decide+kernel)
 (case kB=>exact tt)
 (case c2=>exact ff)
 (case c3=>exact ff)
 (case c4=>exact rfl)
 k_whole
 intro L bH tk cells F N Y gq
 k_cells Y
 replace F:Fr g L bH (fun y=>if y=Str.ofString "many" then some (.int n t2)else none):=F
 rename_i o1 o2 d1 d2
 replace d2:o2.data=.cell (some (.bytes b t0)):=d2
 replace d1:o1.data=.cell (some (.int 0 t1)):=d1
 replace N:News g L bH [(L+1+1,o1),(L+1,o2)]:=N
 repeat' ((fail_if_success(with_reducible show wpAny _ _ (eval (Expr.ListComp _ _ _ _) _) _ _ _));first|(k_unfold;(try dsimp only))|walk1|(dsimp only;walk1))
 k_dflt (refine LCg.ListComp_U (F₀:=by k_asm) (by with_unfolding_all rfl) (by decide) (by rfl) (by decide) (by rfl) ?_)
 iterate 7 walk1
 refine LCg.CompSrc.range (by rfl) (by k_asm) (by k_asm) (by assumption) (n:=n) (EJ n (Nat.lt_succ_of_le hn)) (Ik n) (aX hn (bZ rfl)) fun g'=>gW n (fun i ys news=>IntsAre ys (iC b.toList i)∧news=[(L+1+1,o1),(L+1,o2)]) ?turn ?done _ 0 [] _ (Nat.zero_add _) ⟨.nil,rfl⟩
 case turn=>
  rintro i ys _ hi ⟨hy,rfl⟩ v I oI C oC D m₂ h tk E' ⟨t,rfl⟩ hC hx F N off ne
  dsimp only
  repeat' ((fail_if_success(with_reducible show wpAny _ _ (subscriptTail _ _ _ _) _ _ _));first|(k_unfold;(try dsimp only))|walk1|(dsimp only;walk1))
  with_reducible rename Fr _ _ _ _=>F'
  with_reducible rename News _ _ _ _=>N'
  refine KBc.slice_K (s:=⟨_,_,_,_,_⟩) F' N' rfl (by constructor) (by constructor) (by(simp only[KBw.ints_length];exact aC 73967121379444684800 rfl hb)) ?_
  intro _ _ _ F' N' _
  repeat' ((fail_if_success(with_reducible show wpAny _ _ (call (Value.ref _) [Value.bytes _ _,Value.str _ _]) _ _ _));first|(k_unfold;(try dsimp only))|walk1|(dsimp only;walk1))
  kfb_any
  k_dflt (refine KFB.call_of (KFB.at_of (by k_asm) (by k_mem)) (fun z=>KFB.tree_big (Mine.Internal.B_ _ (by exact c7 _) (by exact c7 _) (by exact bX 43827789305570516378146836488157587 rfl)) z) ?_)
  k_steps
  refine LCg.CompEnd.intro (by assumption) (all:=(_,_)::(I,oI)::(C,oC)::(D,LCg.lst ys)::[(L+1+1,o1),(L+1,o2)]) (by assumption) _ (fun p hp=>cO _ hp) off trivial ⟨?_,rfl⟩
  rw[uf b (by exact c7 _) (by exact c7 _),show(0+4*(0+(i:Int))).toNat=4*i by exact bo (ar 141810518825613961218560 rfl (aA (bX 3948965972643955 rfl))) (eQ 141810518825613960217760 1 [-1] rfl (aA (bX 3948965972643955 rfl))),show(0+4*(0+(i:Int))+4).toNat=4*i+4 by exact bo (ar 5634493232674525702876542839040 rfl (aA (bX 81920610282648473715 rfl))) (eQ 5634493232674525702858659089040 1 [-1] rfl (aA (bX 81920610282648473715 rfl)))]
  exact ints_snoc hy
 case done=>
  rintro ys _ ⟨hy,rfl⟩
  k_steps
  refine((B9 (post:=[(_,LCg.lst ys)]) ret (by assumption) (by assumption) (by intro p hp;rw[c9.mp hp];exact aS) ly (aJ _ _ rfl rfl hy)):R _ _)
set_option maxHeartbeats 4000000 in
theorem ur(w:World)(x:Int)(tx:Tok)(hx:0≤x∧x<32):Spec w 761 10 [.int x tx] [] (fun v l=>l=[]∧∃y t,v=.int y t∧0≤y∧y% 4≠2) KO:=by
 unfold Spec;k_fill;intro cy mg mb dp un gd stack base g s R B kp sz X T N D ki rR ret err;refine' enter B kp sz X T N ?k8 ?k6 ?k7 ?k9 ?kB ?_ ?c2 ?c3 ?c4 ?c5
 (case k8=>simp only[recursionLimit];exact aC 64867780889993033729 rfl ki)
 (case k6=>k_is)
 (case k7=>k_is)
 (case k9=>first|exact BindsTo.of_eq rfl|exact binds_K (X.keeps kp) rfl (by k_is) rfl rfl rfl)
 (case c5=>decide)
 (case kB=>exact locs tt)
 (case c2=>exact ff)
 (case c3=>exact ff)
 (case c4=>exact rfl)
 k_whole;intro L bH F N gq;replace F:Fr g L bH (fun y=>List.lookup y [(Str.ofString "number",Value.int x tx)]):=F;k_steps;refine fin ret (by assumption) (by assumption) D (vH rfl _ _ rfl ?_);rw[Int.fmod_eq_emod_of_nonneg _ (by decide)];by_cases h:x% 4=2
 ·simp only[h,beq_self_eq_true,if_true];exact⟨Int.le_trans hx.1 (Int.le_add_of_nonneg_right (by decide)),by rw[Int.add_emod,h];decide⟩
 ·simp only[beq_eq_false_iff_ne.mpr h,Bool.false_eq_true,if_false];rw[Int.add_zero];exact⟨hx.1,h⟩
set_option maxHeartbeats 4000000 in
theorem zd(w:World)(src:Addr)(x y top:Int)(tx ty tt:Tok)(n:Nat)(Il:0<top∧top<1000):Spec w 705 10 [.ref src,.int top tt] [(src,listOf #[.int x tx,.int y ty] n)] (fun v l=>∃d t x' y' tx ty n,v=.int d t∧0≤d∧d<top∧l=[(src,listOf #[.int x' tx,.int y' ty] n)]) KO:=by
 unfold Spec;k_fill;intro cy mg mb dp un gd stack base g s R B kp sz X T N D ki rR ret err;refine' enter B kp sz X T N ?k8 ?k6 ?k7 ?k9 ?kB ?_ ?c2 ?c3 ?c4 ?c5
 (case k8=>simp only[recursionLimit];exact aC 64867780889993033729 rfl ki)
 (case k6=>k_is)
 (case k7=>k_is)
 (case k9=>first|exact BindsTo.of_eq rfl|exact binds_K (X.keeps kp) rfl (by k_is) rfl rfl rfl)
 (case c5=>decide)
 (case kB=>exact locs rfl)
 (case c2=>exact ff)
 (case c3=>exact ff)
 (case c4=>exact rfl)
 k_whole;intro L bH F N gq;replace F:Fr g L bH (fun y=>List.lookup y [(Str.ofString "top",Value.int top tt),(Str.ofString "source",Value.ref src)]):=F;repeat' (first|(with_reducible refine PyProof.Rows.mul_int ?_ (by k_dflt (exact Mine.Internal.nj (by decide) (by decide))))|(k_unfold;(try dsimp only))|walk1|(dsimp only;walk1))
 all_goals exact fin ret (by assumption) (by assumption) (by assumption) (b9 _ _ _ _ (aR _ _ _ rfl (Int.fmod_nonneg_of_pos _ Il.1) (Int.fmod_lt_of_pos _ Il.1) rfl))
inductive ze|add|sub|mul|mod|fdiv|pow
inductive EK|eq|ne|lt|le|gt|ge|is|Hq|Mi|EL
inductive Bi|len|range|sorted|list|dict|bytes|bytearray|max|int
mutual
inductive E
 |abs
 |none (p:Nat)|bool (b:Bool) (p:Nat)|int (i:Nat) (p:Nat)|str (n:Nat) (p:Nat)|zf (b:aD) (p:Nat)
 |loc (n:Nat) (p:Nat)
 |uu (n:Nat) (p:Nat)
 |gX (n:Nat) (p:Nat)
 |bin (o:ze) (l r:E) (p:Nat)
 |neg (e:E) (p:Nat)
 |cmp (o:EK) (l r:E) (p:Nat)
 |and (es:Es) (p:Nat)
 |or (es:Es) (p:Nat)
 |not (e:E) (p:Nat)
 |qK (t a b:E) (p:Nat)
 |att (e:E) (n:Nat) (p:Nat)
 |sub (e i:E) (p:Nat)
 |slc (e lo hi:E) (p q:Nat)
 |tup (es:Es) (p:Nat)
 |lst (es:Es) (p:Nat)
 |qL (p:Nat)
 |call (f:E) (es:Es) (p:Nat)
 |sA (o:E) (n:Nat) (es:Es) (q p:Nat)
inductive Es|nil|cons(e:E)(es:Es)
end
mutual
inductive S
 |expr (e:E) (p:Nat)
 |asg (t e:E) (p:Nat)
 |aug (t:E) (o:ze) (e:E) (p:Nat)
 |ret (e:E) (p:Nat)
 |qK (t:E) (a b:Ss) (p:Nat)
 |Ca (t:E) (a b:Ss) (p:Nat)
 |DE (t:E) (a:Ss) (p:Nat)
 |xC (t i:E) (a:Ss) (p:Nat)
 |del (t:E) (p:Nat)
 |cont (p:Nat)
 |raise (e:E) (p:Nat)
inductive Ss|nil|cons(s:S)(ss:Ss)
end
noncomputable def dP(p:Nat):Pos:=⟨p% 600+30,p/600% 128,p% 600+30+p/9830400,p/76800% 128+p/600% 128*(1-p/9830400)⟩
noncomputable def ze.d:ze→Operator|.add=>.Add|.sub=>.Sub|.mul=>.Mult|.mod=>.Mod|.fdiv=>.FloorDiv|.pow=>.Pow
noncomputable def EK.d:EK→CmpOp|.eq=>.Eq|.ne=>.NotEq|.lt=>.Lt|.le=>.LtE|.gt=>.Gt|.ge=>.GtE|.is=>.Is|.Hq=>.IsNot|.Mi=>.In|.EL=>.NotIn
section
variable(nm:Nat→PySem.Str)
mutual
noncomputable def dE:E→Expr
 |.abs=>.Constant .none 0 ⟨0,0,0,0⟩
 |.none p=>.Constant .none 0 (dP p)
 |.bool b p=>.Constant (.bool b) 0 (dP p)
 |.int i p=>.Constant (.int i) 0 (dP p)
 |.str n p=>.Constant (.str (nm n)) 0 (dP p)
 |.zf b p=>.Constant (.bytes b) 0 (dP p)
 |.loc n p=>.Name (nm n) (dP p)
 |.uu n p=>.Name (nm n) (dP p)
 |.gX n p=>.Name (nm n) (dP p)
 |.bin o l r p=>.BinOp (dE l) o.d (dE r) (dP p)
 |.neg e p=>.UnaryOp .USub (dE e) (dP p)
 |.cmp o l r p=>.Compare (dE l) [o.d] [dE r] (dP p)
 |.and es p=>.BoolOp .And (dJ es) (dP p)
 |.or es p=>.BoolOp .Or (dJ es) (dP p)
 |.not e p=>.UnaryOp .Not (dE e) (dP p)
 |.qK t a b p=>.IfExp (dE t) (dE a) (dE b) (dP p)
 |.att e n p=>.Attribute (dE e) (nm n) (dP p)
 |.sub e i p=>.Subscript (dE e) (dE i) (dP p)
 |.slc e lo hi p q=>.Subscript (dE e) (.Slice (oE lo) (oE hi) none (dP q)) (dP p)
 |.tup es p=>.Tuple (dJ es) 0 (dP p)
 |.lst es p=>.List (dJ es) (dP p)
 |.qL p=>.Dict [] [] (dP p)
 |.call f es p=>.Call (dE f) (dJ es) [] (dP p)
 |.sA o n es q p=>.Call (.Attribute (dE o) (nm n) (dP q)) (dJ es) [] (dP p)
noncomputable def oE:E→Option Expr
 |.abs=>none
 |.none p=>some (.Constant .none 0 (dP p))
 |.bool b p=>some (.Constant (.bool b) 0 (dP p))
 |.int i p=>some (.Constant (.int i) 0 (dP p))
 |.str n p=>some (.Constant (.str (nm n)) 0 (dP p))
 |.zf b p=>some (.Constant (.bytes b) 0 (dP p))
 |.loc n p=>some (.Name (nm n) (dP p))
 |.uu n p=>some (.Name (nm n) (dP p))
 |.gX n p=>some (.Name (nm n) (dP p))
 |.bin o l r p=>some (.BinOp (dE l) o.d (dE r) (dP p))
 |.neg e p=>some (.UnaryOp .USub (dE e) (dP p))
 |.cmp o l r p=>some (.Compare (dE l) [o.d] [dE r] (dP p))
 |.and es p=>some (.BoolOp .And (dJ es) (dP p))
 |.or es p=>some (.BoolOp .Or (dJ es) (dP p))
 |.not e p=>some (.UnaryOp .Not (dE e) (dP p))
 |.qK t a b p=>some (.IfExp (dE t) (dE a) (dE b) (dP p))
 |.att e n p=>some (.Attribute (dE e) (nm n) (dP p))
 |.sub e i p=>some (.Subscript (dE e) (dE i) (dP p))
 |.slc e lo hi p q=>some (.Subscript (dE e) (.Slice (oE lo) (oE hi) none (dP q)) (dP p))
 |.tup es p=>some (.Tuple (dJ es) 0 (dP p))
 |.lst es p=>some (.List (dJ es) (dP p))
 |.qL p=>some (.Dict [] [] (dP p))
 |.call f es p=>some (.Call (dE f) (dJ es) [] (dP p))
 |.sA o n es q p=>some (.Call (.Attribute (dE o) (nm n) (dP q)) (dJ es) [] (dP p))
noncomputable def dJ:Es→List Expr
 |.nil=>[]
 |.cons e es=>dE e::dJ es
end
mutual
noncomputable def dS:S→Stmt
 |.expr e p=>.Expr (dE nm e) (dP p)
 |.asg t e p=>.Assign [dE nm t] (dE nm e) (dP p)
 |.aug t o e p=>.AugAssign (dE nm t) o.d (dE nm e) (dP p)
 |.ret e p=>.Return (oE nm e) (dP p)
 |.qK t a b p=>.If (dE nm t) (mF a) (mF b) (dP p)
 |.Ca t a b p=>.If (dE nm t) (mF a) (mF b) (dP p)
 |.DE t a p=>.While (dE nm t) (mF a) [] (dP p)
 |.xC t i a p=>.For (dE nm t) (dE nm i) (mF a) [] (dP p)
 |.del t p=>.Delete [dE nm t] (dP p)
 |.cont p=>.Continue (dP p)
 |.raise e p=>.Raise (oE nm e) none (dP p)
noncomputable def mF:Ss→List Stmt
 |.nil=>[]
 |.cons s ss=>dS s::mF ss
end
end
theorem vP(nm:Nat→PySem.Str)(h:e≠.abs):oE nm e=some (dE nm e):=by induction e using E.casesOn<;>first|exact absurd rfl h|rfl
theorem Es.ind{m:Es→Prop}(nil:m .nil)(cons:∀e es,m es→m (.cons e es)):∀es,m es
 |.nil=>nil
 |.cons e es=>cons e es (Es.ind nil cons es)
theorem Ss.ind{m:Ss→Prop}(nil:m .nil)(cons:∀s ss,m ss→m (.cons s ss)):∀ss,m ss
 |.nil=>nil
 |.cons s ss=>cons s ss (Ss.ind nil cons ss)
noncomputable def Mj:List String:=["_wall","PagebaseError","BusyError","CorruptError","FullError","MisuseError","CrashError","put_words","get_words","check_sums","next_salts","WalIndex","Wal","LockTable","DiskFile","Choices","Disk","put_octets","cut_octets","_law_pool","_law_take","_law_one","_law_octets","_law_pages","_law_opened","_law_drawn","_law_done","_law_goes_on","_law_untorn","law","__name__","pagebase.errors","Exception","__init__","pagebase.wal","LOG_MAGIC","LOG_VERSION","HEAD_SIZE","FRAME_HEAD","WORD","FIRST_SALTS","KINDS","clear","add","note_commit","drop_rest","frame_of","newest","frame_size","frame_at","end_of_log","open","head_octets","read_head","read_frame","recover","last_mark","begin_mark","is_latest","find","count_at","is_empty","write_head","cut_rest","frame_octets","append_commit","copy_up_to","checkpoint","restart","remove","pagebase.locks","NONE","SHARED","RESERVED","PENDING","EXCLUSIVE","level_of","highest_of_others","others_shared","others_reserved","put_level","lock","take_shared","take_reserved","take_exclusive","unlock","hold","free","holders","set_mark","marks","drop","pagebase.device","size","read","write","truncate","sync","copy_for","surviving","following","meet_crash","step","check_room","exists","delete","survivor","copy","law_xw0233_01","k","passive","full","words","octets","at","many","sums","salts","number","target","script","cell","big","mixed","source","top","things","value","disk","wal","count","page","found","state","turn","back","crash_at","choices","self","message","join","one","two","len","frames","places","counts","last","copied","headless","spoilt","page_count","mark","row","above","name","page_size","log_name","file","index","told","head","later","keep","pages","numbers","safe","kind","least","owner","other","levels","slots","told_marks","highest","held","level","mine","slot","exclusive","synced","pending","now","sector","left","room","files","steps","shared","locks","total","max","drawn","range","d","changed","from_bytes","append","get","low","high","middle","-wal","frame","sorted","setdefault","dict","bytearray","bytes","word","way","list","values","extend","int","pop","to_bytes","the log has another page size","a frame of the log is short","no such kind of checkpoint","database is locked","sectors","crash","disk full","busy","d-wal"]
noncomputable def nm(n:Nat):PySem.Str:=PySem.Str.ofString (Mj.getD n "")
noncomputable def sH(s:PySem.Str):Nat:=s.cps.toList.foldl (fun a c=>a*257+c) 1
noncomputable def cT(n:Nat):Bool:=Nat.blt n 226
noncomputable def zg:List Nat→Bool
 |[]=>true
 |a::l=>l.all (fun b=> !(Nat.beq a b))&&zg l
theorem pB:∀{l:List Nat},zg l=true→∀{i j:Nat} {a b:Nat},i<j→l[i]?=some a→l[j]?=some b→a≠b:=by
 intro X_;induction X_ with
 |nil=>intro _ i j a b _ h _;exact by simp at h
 |cons c l cD=>
  intro h i j a b qM hi hj;obtain⟨h1,h2⟩:=Bool.and_eq_true_iff.mp h;induction j using Nat.casesAuxOn with
  |zero=>exact absurd qM (Nat.not_lt_zero _)
  |succ j=>
   rw[List.getElem?_cons_succ]at hj;induction i using Nat.casesAuxOn with
   |zero=>rw[List.getElem?_cons_zero]at hi;have q_:=bf hi;clear hi;subst q_;have:=List.all_eq_true.mp h1 b (List.mem_of_getElem? hj);intro e;subst e;rw[Nat.beq_refl]at this;exact fT this
   |succ i=>rw[List.getElem?_cons_succ]at hi;exact cD h2 (Nat.lt_of_succ_lt_succ qM) hi hj
noncomputable def EM:List Nat:=Mj.map fun s=>sH (PySem.Str.ofString s)
theorem vQ:zg EM=true:=by decide+kernel
theorem mO(h:cT i=true):EM[i]?=some (sH (nm i)):=by
 have hi:i<226:=bZ h;unfold EM nm;have:Mj.length=226:=by rfl
 rw[List.getElem?_map,cn (by assumption),Option.map_some,cW,cn (by assumption),Option.getD_some]
theorem gY(hi:cT i=true)(hj:cT j=true)(h:nm i=nm j):i=j:=by
 rcases Nat.lt_trichotomy i j with q|q|q
 ·exact absurd (av sH h) (pB vQ q (mO hi) (mO hj))
 ·exact q
 ·exact absurd (av sH h).symm (pB vQ q (mO hj) (mO hi))
inductive V
 |bad
 |none|bool (b:Bool)|int (i:Int)|str (n:Nat)|bytes (b:aD)|tup (vs:List V)|ref (i:Nat)|top (a:Addr)|bi (b:Bi)|oi (c:Option Int)
inductive Op
 |write (i:Int) (b:aD)
 |cut (n:Int)
inductive O
 |dead
 |list (vs:List V)|ints (l:List Int)|opts (l:List (Option Int))|ops (l:List Op)
 |d0|eN (l:List (Int×Int))|gf (l:List (Int×aD))|dS (l:List (Nat×V))
 |rows (l:List (Int×List Int)) (h:Option (Int×Nat))
 |inst (c:Addr) (fs:List (Nat×V))
 |ba (b:aD)
 |cell (v:V)
noncomputable def Bi.val:Bi→Value|.len=>.builtin "len"|.range=>.type "range"|.sorted=>.builtin "sorted"|.list=>.type "list"|.dict=>.type "dict"|.bytes=>.type "bytes"|.bytearray=>.type "bytearray"|.max=>.builtin "max"|.int=>.type "int"
mutual
noncomputable def V.eP(κ:List Nat):V→V
 |.ref i=>match κ[i]? with|some j=>.ref j|none=>.bad
 |.tup vs=>.tup (km κ vs)
 |.bad=>.bad|.none=>.none|.bool b=>.bool b|.int i=>.int i|.str n=>.str n|.bytes b=>.bytes b|.top a=>.top a|.bi b=>.bi b|.oi c=>.oi c
noncomputable def km(κ:List Nat):List V→List V
 |[]=>[]
 |v::vs=>v.eP κ::km κ vs
end
noncomputable def oZ(κ:List Nat):List (Nat×V)→List (Nat×V)
 |[]=>[]
 |p::l=>(match p with|(n,v)=>(n,v.eP κ))::oZ κ l
noncomputable def O.eP(κ:List Nat):O→O
 |.dead=>.dead
 |.list vs=>.list (km κ vs)
 |.ints l=>.ints l|.opts l=>.opts l|.ops l=>.ops l|.d0=>.d0|.eN l=>.eN l|.gf l=>.gf l
 |.dS l=>.dS (oZ κ l)
 |.rows l none=>.rows l none
 |.rows l (some p)=>match κ[p.2]? with|some j=>.rows l (some (p.1,j))|none=>.list [.bad]
 |.inst c fs=>.inst c (oZ κ fs)
 |.ba b=>.ba b
 |.cell v=>.cell (v.eP κ)
noncomputable def V.opt:Option Int→V
 |Option.none=>V.none
 |Option.some i=>V.int i
noncomputable def EN:Nat:=95
noncomputable def d6:Nat:=124
noncomputable def EO:Nat:=96
noncomputable def Op.v:Op→V
 |.write i b=>.tup [.str EN,.int i,.bytes b]
 |.cut n=>.tup [.str EO,.int n,.bytes []]
noncomputable def O.items:O→Option (List V)|.list vs=>some vs|.ints l=>some (l.map .int)|.opts l=>some (l.map V.opt)|.ops l=>some (l.map Op.v)|_=>none
noncomputable def O.pI:O→Option (List (Int×V))|.d0=>some []|.eN l=>some (l.map fun p=>(p.1,.int p.2))|.gf l=>some (l.map fun p=>(p.1,.bytes p.2))|_=>none
noncomputable def O.pS:O→Option (List (Nat×V))|.d0=>some []|.dS l=>some l|_=>none
noncomputable abbrev dK:=Addr→Obj→Prop
mutual
inductive VR(T:dK)(ρ:List Addr):V→Value→Prop
 |none:VR T ρ .none .none
 |bool {b}:VR T ρ (.bool b) (.bool b)
 |int {i t}:VR T ρ (.int i) (.int i t)
 |str {n t}:VR T ρ (.str n) (.str (nm n) t)
 |bytes {b t}:VR T ρ (.bytes b) (.bytes b.toArray t)
 |tup {vs a items e}:T a (tup items e)→bT T ρ vs items.toList→VR T ρ (.tup vs) (.ref a)
 |ref {i a}:ρ[i]?=some a→VR T ρ (.ref i) (.ref a)
 |top {a}:VR T ρ (.top a) (.ref a)
 |bi {b}:VR T ρ (.bi b) b.val
 |oi {c x}:VR T ρ (V.opt c) x→VR T ρ (.oi c) x
inductive bT(T:dK)(ρ:List Addr):List V→List Value→Prop
 |nil:bT T ρ [] []
 |cons {v vs x xs}:VR T ρ v x→bT T ρ vs xs→bT T ρ (v::vs) (x::xs)
end
theorem bT.ind{m:List V→List Value→Prop}(nil:m [] [])(cons:∀{v vs x xs},VR T ρ v x→bT T ρ vs xs→m vs xs→m (v::vs) (x::xs)):∀{vs xs},bT T ρ vs xs→m vs xs
 |_,_,.nil=>nil
 |_,_,.cons a b=>cons a b (bT.ind nil cons b)
theorem VR.mono(hT:∀a o,T a o→T' a o)(iq:∀(i:Nat) (a:Addr),ρ[i]?=some a→aI[i]?=some a)(h:VR T ρ v x):VR T' aI v x:=VR.rec (motive_1:=fun v x a_=>VR T' aI v x) (motive_2:=fun v x a_=>bT T' aI v x) .none .bool .int .str .bytes (fun h a_ ih=>.tup (hT _ _ h) ih) (fun h=>.ref (iq _ _ h)) .top .bi (fun a_ ih=>.oi ih) .nil (fun a_ b_ i1 i2=>.cons i1 i2) h
theorem bT.mono(hT:∀a o,T a o→T' a o)(iq:∀(i:Nat) (a:Addr),ρ[i]?=some a→aI[i]?=some a)(h:bT T ρ v x):bT T' aI v x:=bT.rec (motive_1:=fun v x a_=>VR T' aI v x) (motive_2:=fun v x a_=>bT T' aI v x) .none .bool .int .str .bytes (fun h a_ ih=>.tup (hT _ _ h) ih) (fun h=>.ref (iq _ _ h)) .top .bi (fun a_ ih=>.oi ih) .nil (fun a_ b_ i1 i2=>.cons i1 i2) h
section
variable{T:dK}{ρ:List Addr}{x:Value}{xs:List Value}
theorem VR.int_inv(h:VR T ρ (.int i) x):∃t,x=.int i t:=by cases h;exact⟨_,rfl⟩
theorem VR.str_inv(h:VR T ρ (.str i) x):∃t,x=.str (nm i) t:=by cases h;exact⟨_,rfl⟩
theorem VR.bQ{i:aD}(h:VR T ρ (.bytes i) x):∃t,x=.bytes i.toArray t:=by cases h;exact⟨_,rfl⟩
theorem VR.none_inv(h:VR T ρ .none x):x=.none:=by cases h;rfl
theorem VR.bool_inv(h:VR T ρ (.bool b) x):x=.bool b:=by cases h;rfl
theorem VR.bI(h:VR T ρ (.ref i) x):∃a,ρ[i]?=some a∧x=.ref a:=by cases h;exact ah _ (‹_›) rfl
theorem VR.qN(h:VR T ρ (.top a) x):x=.ref a:=by cases h;rfl
theorem VR.uv(h:VR T ρ (.oi c) x):VR T ρ (V.opt c) x:=by cases h;assumption
theorem VR.ny{b:Bi}(h:VR T ρ (.bi b) x):x=b.val:=by cases h;rfl
theorem VR.fb(h:VR T ρ (.tup vs) x):∃(a:Addr) (items:Array Value) (e:Nat),x=.ref a∧T a (Mine.Internal.tup items e)∧bT T ρ vs items.toList:=by cases h;exact bz _ _ _ rfl (‹_›) (‹_›)
theorem VR.vR(h:VR T ρ (V.opt c) x):VR T aI (V.opt c) x:=by
 induction c with
 |none=>refine(VR.none_inv h).symm▸?_;exact .none
 |some i=>refine bg (VR.int_inv h) fun t az=>?_;clear h;subst az;exact .int
theorem bT.nil_inv(h:bT T ρ [] xs):xs=[]:=by cases h;rfl
theorem bT.cons_inv(h:bT T ρ (v::vs) xs):∃y ys,xs=y::ys∧VR T ρ v y∧bT T ρ vs ys:=by cases h;exact aJ _ _ rfl (‹_›) (‹_›)
theorem bT.len:∀{vs:List V} {xs:List Value},bT T ρ vs xs→xs.length=vs.length:=by
 intro vs;induction vs with
 |nil=>intro xs h;refine h.nil_inv.symm▸?_;rfl
 |cons v vs ih=>intro xs h;obtain⟨y,ys,rfl,_,h⟩:=h.cons_inv;refine cB.symm▸?_;refine cB.symm▸?_;exact(ih h).symm▸rfl
end
def jw(κ:List Nat)(ρ aI:List Addr):Prop:=∀(i j:Nat) (a:Addr),κ[i]?=some j→ρ[j]?=some a→aI[i]?=some a
def kn(κ:List Nat)(ρ aI:List Addr):Prop:=∀(i j:Nat) (a:Addr),κ[i]?=some j→aI[i]?=some a→ρ[j]?=some a
mutual
theorem VR.fg(h:jw κ ρ aI):∀(v:V) {x:Value},VR T ρ (v.eP κ) x→VR T aI v x
 |.bad,_,h'=>by cases h'
 |.none,_,h'=>by refine h'.none_inv.symm▸?_;exact .none
 |.bool _,_,h'=>by refine(VR.bool_inv h').symm▸?_;exact .bool
 |.int _,_,h'=>by refine bg (VR.int_inv h') fun t az=>?_;subst az;exact .int
 |.str _,_,h'=>by refine bg (VR.str_inv h') fun t az=>?_;subst az;exact .str
 |.bytes _,_,h'=>by refine bg (VR.bQ h') fun t az=>?_;subst az;exact .bytes
 |.top _,_,h'=>by refine(VR.qN h').symm▸?_;exact .top
 |.bi _,_,h'=>by refine(VR.ny h').symm▸?_;exact .bi
 |.oi _,_,h'=>.oi (VR.uv h').vR
 |.tup vs,_,h'=>by have h':VR T ρ (.tup (km κ vs)) _:=h';refine bS h'.fb fun a bw e ew h1 h2=>?_;subst ew;exact .tup h1 (bT.fg h vs h2)
 |.ref i,x,h'=>by
  have h':VR T ρ (match κ[i]? with|some j=>.ref j|none=>.bad) x:=h';generalize hj:κ[i]?=y_ at h';induction y_ using Option.casesOn with
  |some j=>refine aa h'.bI fun a h1 aQ=>?_;subst aQ;exact .ref (h i j _ hj h1)
  |none=>cases h'
theorem bT.fg{T:dK}{ρ aI:List Addr}{κ:List Nat}(h:jw κ ρ aI):∀(vs:List V) {xs:List Value},bT T ρ (km κ vs) xs→bT T aI vs xs
 |[],_,h'=>by refine(bT.nil_inv h').symm▸?_;exact .nil
 |v::vs,_,h'=>by refine ao (bT.cons_inv (v:=v.eP κ) (vs:=km κ vs) h') fun y ys aQ h1 h2=>?_;subst aQ;exact .cons (VR.fg h v h1) (bT.fg h vs h2)
end
mutual
theorem VR.eP{ρ aI:List Addr}{κ:List Nat}(h:kn κ ρ aI)(hn:aI.length≤κ.length):∀(v:V) {x:Value},VR T aI v x→VR T ρ (v.eP κ) x
 |.bad,_,h'=>by cases h'
 |.none,_,h'=>by refine h'.none_inv.symm▸?_;exact .none
 |.bool _,_,h'=>by refine(VR.bool_inv h').symm▸?_;exact .bool
 |.int _,_,h'=>by refine bg (VR.int_inv h') fun t az=>?_;subst az;exact .int
 |.str _,_,h'=>by refine bg (VR.str_inv h') fun t az=>?_;subst az;exact .str
 |.bytes _,_,h'=>by refine bg (VR.bQ h') fun t az=>?_;subst az;exact .bytes
 |.top _,_,h'=>by refine(VR.qN h').symm▸?_;exact .top
 |.bi _,_,h'=>by refine(VR.ny h').symm▸?_;exact .bi
 |.oi _,_,h'=>.oi (VR.uv h').vR
 |.tup vs,_,h'=>by refine bS h'.fb fun a bw e ew h1 h2=>?_;subst ew;exact VR.tup h1 (bT.eP h hn vs h2)
 |.ref i,_,h'=>by refine aa h'.bI fun a e aQ=>?_;subst aQ;refine(?_:VR T ρ (match κ[i]? with|some j=>.ref j|none=>.bad) _);have hi:i<κ.length:=Nat.lt_of_lt_of_le (dX.mp e).1 hn;refine(cn hi).symm▸?_;exact .ref (h i _ _ (cn hi) e)
theorem bT.eP{T:dK}{ρ aI:List Addr}{κ:List Nat}(h:kn κ ρ aI)(hn:aI.length≤κ.length):∀(vs:List V) {xs:List Value},bT T aI vs xs→bT T ρ (km κ vs) xs
 |[],_,h'=>by refine h'.nil_inv.symm▸?_;exact bT.nil
 |v::vs,_,h'=>by refine ao h'.cons_inv fun y ys aQ h1 h2=>?_;subst aQ;exact bT.cons (VR.eP h hn v h1) (bT.eP h hn vs h2)
end
set_option tactic.hygienic false
noncomputable abbrev Prog:Program:=PySem.Challenge.rw_xw0233_01.row.prog
noncomputable abbrev mG(w:World):KeyKind Prog w Int:=intKind Prog w
noncomputable abbrev xD(w:World):KeyKind Prog w PySem.Str:=PySem.strKind Prog w
inductive bU(w:World)(T:dK)(ρ:List Addr):List DictEntry→List (Nat×V)→Prop
 |nil:bU w T ρ [] []
 |cons {t v k x es fs}:cT k=true→VR T ρ x v→bU w T ρ es fs→bU w T ρ (⟨PyData.keyHash w.params (nm k),.str (nm k) t,v⟩::es) ((k,x)::fs)
inductive cU(T:dK)(ρ:List Addr):List (Int×Value)→List (Int×V)→Prop
 |nil:cU T ρ [] []
 |cons {k v x ps kvs}:VR T ρ x v→cU T ρ ps kvs→cU T ρ ((k,v)::ps) ((k,x)::kvs)
inductive cw(T:dK)(ρ:List Addr):List (PySem.Str×Value)→List (Nat×V)→Prop
 |nil:cw T ρ [] []
 |cons {k v x ps kvs}:cT k=true→VR T ρ x v→cw T ρ ps kvs→cw T ρ ((nm k,v)::ps) ((k,x)::kvs)
def gg(ob:Obj)(bw:Array Value):Prop:=∃n,ob=listOf bw n
theorem gg.cls{ob:Obj}(h:gg ob bw):ob.cls=.type "list":=by refine bg h fun n az=>?_;clear h;subst az;rfl
theorem gg.dat{ob:Obj}(h:gg ob bw):∃n,ob.data=.seq bw n:=by refine bg h fun n az=>?_;clear h;subst az;exact⟨n,rfl⟩
inductive cF(ρ:List Addr)(h:Option (Int×Nat)):List (Int×Value)→List (Int×List Int)→Led→Prop
 |nil:cF ρ h [] [] []
 |own {p b ys ob xs ps l tl}:(∀j,h≠some (p,j))→gg ob (List.toArray ys)→IntsAre ys xs→cF ρ h ps l tl→cF ρ h ((p,.ref b)::ps) ((p,xs)::l) ((b,ob)::tl)
 |hole {p j b xs ps l tl}:h=some (p,j)→ρ[j]?=some b→cF ρ h ps l tl→cF ρ h ((p,.ref b)::ps) ((p,xs)::l) tl
def OR(w:World)(T:dK)(ρ:List Addr)(a:Addr):O→Led→Prop
 |.dead,l=>l=[]
 |.inst c fs,l=>∃d es n,l=[(a,instObj c d),(d,dictOf es n)]∧bU w T ρ es fs
 |.ba b,l=>l=[(a,dD b.toArray)]
 |.cell v,l=>∃ob x,l=[(a,ob)]∧ob.data=.cell (some x)∧VR T ρ v x
 |.rows r h,l=>∃ob ps tl,l=(a,ob)::tl∧cc (mG w) a ps ob∧cF ρ h ps r tl
 |.d0,l=>∃ob,l=[(a,ob)]∧cc (mG w) a [] ob∧cc (xD w) a [] ob
 |.eN r,l=>∃ob ps,l=[(a,ob)]∧cc (mG w) a ps ob∧cU T ρ ps (r.map fun p=>(p.1,.int p.2))
 |.gf r,l=>∃ob ps,l=[(a,ob)]∧cc (mG w) a ps ob∧cU T ρ ps (r.map fun p=>(p.1,.bytes p.2))
 |.dS r,l=>∃ob ps,l=[(a,ob)]∧cc (xD w) a ps ob∧cw T ρ ps r
 |.list vs,l=>∃ob bw,l=[(a,ob)]∧gg ob bw∧bT T ρ vs bw.toList
 |.ints r,l=>∃ob bw,l=[(a,ob)]∧gg ob bw∧bT T ρ (r.map .int) bw.toList
 |.opts r,l=>∃ob bw,l=[(a,ob)]∧gg ob bw∧bT T ρ (r.map V.opt) bw.toList
 |.ops r,l=>∃ob bw,l=[(a,ob)]∧gg ob bw∧bT T ρ (r.map Op.v) bw.toList
section
variable{w:World}{T T':dK}{ρ aI:List Addr}{a:Addr}
theorem OR.items{o:O}(e:o.items=some vs)(h:OR w T ρ a o l):∃ob bw,l=[(a,ob)]∧gg ob bw∧bT T ρ vs bw.toList:=by induction o<;>cases e<;>exact h
theorem OR.nz{o:O}{bw:Array Value}(e:o.items=some vs)(hl:gg ob bw)(h:bT T ρ vs bw.toList):OR w T ρ a o [(a,ob)]:=by induction o<;>cases e<;>exact aJ _ _ rfl hl h
theorem OR.pI{o:O}(e:o.pI=some kvs)(h:OR w T ρ a o l):∃ob ps,l=[(a,ob)]∧cc (mG w) a ps ob∧cU T ρ ps kvs:=by induction o<;>cases e<;>first|exact h|(refine cg h fun ob h1 h2 _=>?_;exact aJ ob [] h1 h2 .nil)
theorem OR.pS{o:O}(e:o.pS=some kvs)(h:OR w T ρ a o l):∃ob ps,l=[(a,ob)]∧cc (xD w) a ps ob∧cw T ρ ps kvs:=by induction o<;>cases e<;>first|exact h|(refine cg h fun ob h1 _ h2=>?_;exact aJ ob [] h1 h2 .nil)
theorem bU.mono(hT:∀a o,T a o→T' a o)(iq:∀(i:Nat) (a:Addr),ρ[i]?=some a→aI[i]?=some a){es fs}(h:bU w T ρ es fs):bU w T' aI es fs:=h.rec (motive:=fun es fs a_=>bU w T' aI es fs) .nil fun h v a_ ih=>.cons h (v.mono hT iq) ih
theorem cU.mono(hT:∀a o,T a o→T' a o)(iq:∀(i:Nat) (a:Addr),ρ[i]?=some a→aI[i]?=some a){es fs}(h:cU T ρ es fs):cU T' aI es fs:=h.rec (motive:=fun es fs a_=>cU T' aI es fs) .nil fun v a_ ih=>.cons (v.mono hT iq) ih
theorem cw.mono(hT:∀a o,T a o→T' a o)(iq:∀(i:Nat) (a:Addr),ρ[i]?=some a→aI[i]?=some a){es fs}(h:cw T ρ es fs):cw T' aI es fs:=h.rec (motive:=fun es fs a_=>cw T' aI es fs) .nil fun h v a_ ih=>.cons h (v.mono hT iq) ih
theorem cF.mono(iq:∀(i:Nat) (a:Addr),ρ[i]?=some a→aI[i]?=some a){ps l tl}(r:cF ρ h ps l tl):cF aI h ps l tl:=r.rec (motive:=fun ps l tl a_=>cF aI h ps l tl) .nil (fun a b d a_ ih=>.own a b d ih) fun a b a_ ih=>.hole a (iq _ _ b) ih
theorem OR.mono(hT:∀a o,T a o→T' a o)(iq:∀(i:Nat) (a:Addr),ρ[i]?=some a→aI[i]?=some a)(h:OR w T ρ a o l):OR w T' aI a o l:=by
 induction o with
 |dead=>exact h
 |ba=>exact h
 |d0=>exact h
 |inst=>refine de h fun d es n e f=>?_;exact dF d es n e (f.mono hT iq)
 |rows=>refine bS h fun ob ps tl e t r=>?_;exact bz ob ps tl e t (r.mono iq)
 |eN=>refine ao h fun ob ps e t r=>?_;exact aJ ob ps e t (r.mono hT iq)
 |gf=>refine ao h fun ob ps e t r=>?_;exact aJ ob ps e t (r.mono hT iq)
 |dS=>refine ao h fun ob ps e t r=>?_;exact aJ ob ps e t (r.mono hT iq)
 |list=>refine ao h fun bw n e q r=>?_;exact aJ bw n e q (r.mono hT iq)
 |«ints»=>refine ao h fun bw n e q r=>?_;exact aJ bw n e q (r.mono hT iq)
 |opts=>refine ao h fun bw n e q r=>?_;exact aJ bw n e q (r.mono hT iq)
 |ops=>refine ao h fun bw n e q r=>?_;exact aJ bw n e q (r.mono hT iq)
 |cell=>refine ao h fun ob x e q r=>?_;exact aJ ob x e q (r.mono hT iq)
end
inductive aP(w:World)(T:dK)(ρ:List Addr):List Addr→List O→Led→Prop
 |nil:aP w T ρ [] [] []
 |cons {a as o cs l ls}:OR w T ρ a o l→aP w T ρ as cs ls→aP w T ρ (a::as) (o::cs) (l++ls)
section
variable{w:World}{T T':dK}{ρ aI:List Addr}
theorem aP.mono(hT:∀a o,T a o→T' a o)(iq:∀(i:Nat) (a:Addr),ρ[i]?=some a→aI[i]?=some a){as cs l}(h:aP w T ρ as cs l):aP w T' aI as cs l:=h.rec (motive:=fun as cs l a_=>aP w T' aI as cs l) .nil fun h a_ ih=>.cons (h.mono hT iq) ih
theorem aP.length{as cs l}(h:aP w T ρ as cs l):as.length=cs.length:=h.rec (motive:=fun as cs a_ b_=>as.length=cs.length) rfl fun a_ b_ ih=>av Nat.succ ih
theorem aP.snoc(h':OR w T ρ a o l'){as cs l}(h:aP w T ρ as cs l):aP w T ρ (as++[a]) (cs++[o]) (l++l'):=h.rec (motive:=fun as cs l a_=>aP w T ρ (as++[a]) (cs++[o]) (l++l')) ((List.append_nil l').subst (motive:=fun l=>aP w T ρ [a] [o] l) (.cons h' .nil)) fun h a_ ih=>(bC _ _ _).symm.subst (motive:=fun l=>aP w T ρ _ _ l) (.cons h ih)
theorem aP.focus{cs:List O}{led:Led}(H:aP w T ρ as cs led):∀{i:Nat} {o:O},cs[i]?=some o→∃a l r,as[i]?=some a∧OR w T ρ a o l∧led.Perm (l++r)∧∀(aI:List Addr),(∀(i:Nat) (a:Addr),ρ[i]?=some a→aI[i]?=some a)→∀o' l',OR w T aI a o' l'→∃bx,aP w T aI as (cs.set i o') bx∧bx.Perm (l'++r):=by
 have mv:∀{l l' r x y:Led},x.Perm (l'++r)→(l++x).Perm (l'++(l++r)):=fun{l l' r x y} h=>(h.append_left l).trans (by rw[←bC,←bC];exact List.perm_append_comm.append_right _);induction H with
 |nil=>exact fun h=>nomatch h
 |@cons a as o0 cs l ls ho r ih=>
  intro i o h;induction i using Nat.casesAuxOn with
  |zero=>have q_:=bf h;clear h;subst q_;exact aR a l ls rfl ho (.refl _) (fun aI up o' l' h'=>(ah _ (.cons h' (r.mono (fun a_ b_ h=>h) up)) (.refl _)))
  |succ i=>exact br (ih (i:=i) h) fun a' l' r' h1 h2 h3 h4=>aR a' l' (l++r') h1 h2 (mv (y:=l) h3) (fun aI up o' O5 jr=>(aa (h4 aI up o' O5 jr) fun bx c1 c2=>ah _ (.cons (ho.mono (fun a_ b_ h=>h) up) c1) (mv (y:=l) c2)))
end
structure St where
 vars:List (Nat×V)
 cs:List O
noncomputable def look:List (Nat×V)→Nat→Option V
 |[],_=>none
 |p::l,n=>match Nat.beq p.1 n with
  |true=>some p.2
  |false=>look l n
noncomputable def fu:List (Nat×V)→Nat→V→List (Nat×V)
 |[],n,v=>[(n,v)]
 |p::l,n,v=>match Nat.beq p.1 n with
  |true=>(n,v)::l
  |false=>p::fu l n v
theorem mP(a b:Nat):Nat.beq a b=decide (a=b):=by
 by_cases h:a=b
 ·subst h;rw[Nat.beq_refl,decide_eq_true rfl]
 ·rw[decide_eq_false h];generalize q:Nat.beq a b=y_;induction y_ with
  |false=>rfl
  |true=>exact absurd (cY q) h
theorem qO(e:k=n):fu ((k,y)::l) n u=(n,u)::l:=by rw[show fu ((k,y)::l) n u=(match Nat.beq k n with|true=>(n,u)::l|false=>(k,y)::fu l n u) from rfl,mP,decide_eq_true e]
theorem qP(e:k≠n):fu ((k,y)::l) n u=(k,y)::fu l n u:=by rw[show fu ((k,y)::l) n u=(match Nat.beq k n with|true=>(n,u)::l|false=>(k,y)::fu l n u) from rfl,mP,decide_eq_false e]
theorem gB(e:k=n):look ((k,y)::l) n=some y:=by rw[show look ((k,y)::l) n=(match Nat.beq k n with|true=>some y|false=>look l n) from rfl,mP,decide_eq_true e]
theorem fS(e:k≠n):look ((k,y)::l) n=look l n:=by rw[show look ((k,y)::l) n=(match Nat.beq k n with|true=>some y|false=>look l n) from rfl,mP,decide_eq_false e]
theorem pC(l:List (Nat×V))(n:Nat)(v:V)(k:Nat):look (fu l n v) k=if n=k then some v else look l k:=by
 induction l with
 |nil=>
  by_cases h:n=k
  ·rw[aB h];exact gB h
  ·rw[aH h];exact fS h
 |cons p l ih=>
  by_cases h:p.1=n
  ·rw[qO h];by_cases q:n=k
   ·rw[aB q];exact gB q
   ·rw[aH q,fS q];exact(fS (h▸q)).symm
  ·rw[qP h];by_cases q:p.1=k
   ·rw[aH fun z=>h (q.trans z.symm),gB q];exact(gB q).symm
   ·rw[fS q,ih];exact av _ (fS q).symm
def jx(T:dK)(ρ:List Addr)(vars:List (Nat×V))(m:PySem.Str→Option Value):Prop:=∀n v,look vars n=some v→cT n=true∧∃x,m (nm n)=some x∧VR T ρ v x
theorem jx.mono(hT:∀a o,T a o→T' a o)(iq:∀(i:Nat) (a:Addr),ρ[i]?=some a→aI[i]?=some a)(h:jx T ρ vars m):jx T' aI vars m:=fun n v e=>by refine gO (h n v e) fun h1 x h2 h3=>?_;exact d7 h1 x h2 (h3.mono hT iq)
set_option tactic.hygienic true in
theorem jx.put{m:PySem.Str→Option Value}(h:jx T ρ vars m)(hn:cT n=true)(hv:VR T ρ v x):jx T ρ (fu vars n v) (fun y=>if y=nm n then some x else m y):=fun k u e=>by
 rw[pC]at e;split at e
 ·rename_i q;subst q;have q_:=bf e;clear e;subst q_;exact d7 hn x (aB rfl) hv
 ·rename_i q;exact gO (h k u e) fun h1 y h2 h3=>d7 h1 y ((aH fun z=>q (gY h1 hn z).symm).trans h2) h3
structure Cx(w:World)where
 cy:ExcName→Option Value
 mg:PySem.Str→Option Value
 mb:PySem.Str→Option Value
 dp:Nat
 un:Nat
 gd:Option (List Code)
 stack:List Env
 base:Heap
 g:Heap
 L:Addr
 qual:PySem.Str
 scope:Scope
 f:Addr
 cd:Value
 cl:List (PySem.Str×Addr)
 gens:Array GenState
 drawn:Drawn
 os:OsState
 S:dK
 K:List (Nat×Addr)
 E:dB
noncomputable abbrev SX(w:World)(S:dK):dK:=fun a o=>S a o∨(hd.heap_39 w.params).lookup a=some o
abbrev EP(o:Obj):Prop:=o.cls=.type "tuple"∧∃xs n,o.data=.seq xs n
noncomputable abbrev TX(w:World)(S:dK)(P:Led):dK:=fun a o=>SX w S a o∨((a,o)∈P∧EP o)
namespace Cx
variable{w:World}
noncomputable abbrev env(c:Cx w):Env:=envX c.qual c.scope c.L c.f c.cd c.cl
noncomputable abbrev A0(c:Cx w):Around:=Ar c.dp c.un c.gd c.stack
noncomputable abbrev A(c:Cx w):Around:=c.A0.deeper c.env
noncomputable abbrev T(c:Cx w)(P:Led):dK:=TX w c.S P
structure Ok(c:Cx w)(lv:Nat):Prop where
 B:Below c.A0 c.base c.stack c.g
 X:(hd.heap_39 w.params).In c.g
 T:jI c.cy c.mg c.mb c.g
 hk:c.scope.kind=.function
 dp:c.dp+lv≤900
 un:c.un+10*lv≤6000
 S:∀a o,c.S a o→c.g.get? a=some o
 uu:c.scope.names.lookup (nm d6)=some .cell→∃ca,c.cl.lookup (nm d6)=some ca∧(1,ca)∈c.K
end Cx
structure Rep{w:World}(c:Cx w)(σ:St)(ρ:List Addr)(P:Led)(s:Shared)(m:PySem.Str→Option Value)(news led:Led):Prop where
 gens:s.gens=c.gens
 drawn:s.drawn=c.drawn
 os:s.os=c.os
 K:∀p∈c.K,ρ[p.1]?=some p.2
 F:Fr c.g c.L s.heap m
 N:News c.g c.L s.heap news
 D:(adr news).Nodup
 M:news.Perm (led++P)
 C:aP w (c.T P) ρ ρ σ.cs led
 Vr:jx (c.T P) ρ σ.vars m
def aK{w:World}(c:Cx w)(σ:St)(ρ:List Addr)(P:Led)(s:Shared):Prop:=∃m news led,Rep c σ ρ P s m news led
set_option tactic.hygienic true
def uw(s s':Shared):Prop:=s'.gens=s.gens∧s'.drawn=s.drawn∧s'.os=s.os
section
variable{w:World}{c:Cx w}{σ:St}{ρ:List Addr}{P:Led}{s s':Shared}{m:PySem.Str→Option Value}{news led:Led}
theorem d9{l l':Led}(h:l.Perm l')(D:(adr l).Nodup):(adr l').Nodup:=(h.map (·.1)).nodup_iff.mp D
theorem gC{l l':Led}(N:News g L h l)(hp:l.Perm l'):News g L h l':=fun p q=>N p (hp.mem_iff.mpr q)
theorem Rep.len(R:Rep c σ ρ P s m news led):ρ.length=σ.cs.length:=R.C.length
theorem Rep.same(R:Rep c σ ρ P s m news led)(hs:uw s s')(F:Fr c.g c.L s'.heap m)(N:News c.g c.L s'.heap news):aK c σ ρ P s':=⟨m,news,led,hs.1.trans R.gens,hs.2.1.trans R.drawn,hs.2.2.trans R.os,R.K,F,N,R.D,R.M,R.C,R.Vr⟩
theorem aK.toks(R:aK c σ ρ P s)(k:Nat):aK c σ ρ P {s with toks:=k}:=by exact bp R fun m news led R=>R.same (aN rfl rfl rfl) R.F R.N
theorem xE{g h:Heap}(N:News g L h l)(o:Obj):News g L (h.push o) l:=fun p hp=>⟨Heap.get?_push_of_some _ (N p hp).1,(N p hp).2⟩
theorem aK.sC(R:aK c σ ρ P s)(o:Obj):aK c σ ρ P {s with heap:=s.heap.push o}:=by exact bp R fun m news led R=>R.same (aN rfl rfl rfl) (R.F.push o) (xE R.N o)
theorem fC{α:Type}{l:List α}{a:α}{i:Nat}{x:α}(h:l[i]?=some x):(l++[a])[i]?=some x:=by rw[List.getElem?_append_left (dX.mp h).1];exact h
theorem Rep.alloc(R:Rep c σ ρ P s m news led){a:Addr}{o:O}{l':Led}(hs:uw s s')(F:Fr c.g c.L s'.heap m)(N:News c.g c.L s'.heap (l'++news))(D:(adr (l'++news)).Nodup)(ho:OR w (c.T P) (ρ++[a]) a o l'):aK c ⟨σ.vars,σ.cs++[o]⟩ (ρ++[a]) P s':=by
 have up:∀(i:Nat) (b:Addr),ρ[i]?=some b→(ρ++[a])[i]?=some b:=fun i b h=>fC h;refine⟨m,l'++news,led++l',hs.1.trans R.gens,hs.2.1.trans R.drawn,hs.2.2.trans R.os,fun p hp=>up _ _ (R.K p hp),F,N,D,?_,?_,R.Vr.mono (fun a_ b_ h=>h) up⟩
 ·rw[bC];refine(R.M.append_left l').trans ?_;rw[←bC,←bC];exact List.perm_append_comm.append_right _
 ·exact aP.snoc ho (R.C.mono (fun a_ b_ h=>h) up)
theorem Rep.tuple(R:Rep c σ ρ P s m news led)(hs:uw s s')(F:Fr c.g c.L s'.heap m)(N:News c.g c.L s'.heap ((a,ob)::news))(D:(adr ((a,ob)::news)).Nodup):aK c σ ρ ((a,ob)::P) s':=by have up:∀b o,c.T P b o→c.T ((a,ob)::P) b o:=fun b o h=>h.imp (fun h=>h) fun h=>⟨cO _ h.1,h.2⟩;refine⟨m,(a,ob)::news,led,hs.1.trans R.gens,hs.2.1.trans R.drawn,hs.2.2.trans R.os,R.K,F,N,D,(R.M.cons _).trans List.perm_middle.symm,R.C.mono up fun a_ b_ h=>h,R.Vr.mono up fun a_ b_ h=>h⟩
theorem Rep.put(R:Rep c σ ρ P s m news led)(hn:cT n=true)(hv:VR (c.T P) ρ v x)(hs:uw s s')(F:Fr c.g c.L s'.heap (fun y=>if y=nm n then some x else m y))(N:News c.g c.L s'.heap news):aK c ⟨fu σ.vars n v,σ.cs⟩ ρ P s':=⟨_,news,led,hs.1.trans R.gens,hs.2.1.trans R.drawn,hs.2.2.trans R.os,R.K,F,N,R.D,R.M,R.C,R.Vr.put hn hv⟩
theorem Rep.focus(R:Rep c σ ρ P s m news led)(hi:σ.cs[i]?=some o):∃a l r,ρ[i]?=some a∧OR w (c.T P) ρ a o l∧News c.g c.L s.heap (l++r)∧(adr (l++r)).Nodup∧∀s' o' l',uw s s'→Fr c.g c.L s'.heap m→News c.g c.L s'.heap (l'++r)→(adr (l'++r)).Nodup→OR w (c.T P) ρ a o' l'→aK c ⟨σ.vars,σ.cs.set i o'⟩ ρ P s':=by refine br (R.C.focus hi) fun a l r h1 h2 h3 h4=>?_;have pm:news.Perm (l++(r++P)):=R.M.trans (by rw[←bC];exact h3.append_right P);refine aR a l (r++P) h1 h2 (gC R.N pm) (qo (d9 pm R.D) (fun s' o' l' hs F N D ho=>(aa (h4 ρ (fun a_ b_ h=>h) o' l' ho) fun bx c1 c2=>?_)));exact⟨m,l'++(r++P),bx,hs.1.trans R.gens,hs.2.1.trans R.drawn,hs.2.2.trans R.os,R.K,F,N,D,by rw[←bC];exact(c2.append_right P).symm,c1,R.Vr⟩
theorem Rep.at(R:Rep c σ ρ P s m news led){i:Nat}{o:O}(hi:σ.cs[i]?=some o):∃a l,ρ[i]?=some a∧OR w (c.T P) ρ a o l∧News c.g c.L s.heap l:=by exact br (R.focus hi) fun a l r h1 h2 h3 _=>aJ a l h1 h2 (fun p hp=>h3 p (List.mem_append_left _ hp))
theorem Rep.vS(R:Rep c σ ρ P s m news led)(hr:ρ[i]?=some a)(hi:σ.cs[i]?=some o):∃l r,OR w (c.T P) ρ a o l∧News c.g c.L s.heap (l++r)∧(adr (l++r)).Nodup∧∀s' o' l',uw s s'→Fr c.g c.L s'.heap m→News c.g c.L s'.heap (l'++r)→(adr (l'++r)).Nodup→OR w (c.T P) ρ a o' l'→aK c ⟨σ.vars,σ.cs.set i o'⟩ ρ P s':=by exact de (R.focus hi) fun a l r h1 h=>bf (h1.symm.trans hr)▸(vI l r h)
theorem Rep.eS(R:Rep c σ ρ P s m news led){i:Nat}{o:O}{a:Addr}(hr:ρ[i]?=some a)(hi:σ.cs[i]?=some o):∃l,OR w (c.T P) ρ a o l∧News c.g c.L s.heap l:=bV (R.vS hr hi) fun l _ h2 h3 _ _=>ah l h2 (fun p hp=>h3 p (List.mem_append_left _ hp))
theorem Rep.lB(R:Rep c σ ρ P s m news led)(O:c.Ok lv)(h:c.T P a o):s.heap.get? a=some o:=by
 rcases h with(h|h)|h
 ·exact R.F.keep _ _ (O.S _ _ h)
 ·exact R.F.keep _ _ (O.X _ _ h)
 ·exact(R.N _ (R.M.mem_iff.mpr (cb _ h.1))).1
end
structure Ext(ρ:List Addr)(P:Led)(aI:List Addr)(P':Led):Prop where
 r:∃x,aI=ρ++x
 p:∀q∈P,q∈P'
theorem Ext.c6:Ext ρ P ρ P:=⟨⟨[],(List.append_nil _).symm⟩,fun a_ h=>h⟩
theorem Ext.trans(a:Ext ρ P aI P')(b:Ext aI P' cj ko):Ext ρ P cj ko:=by obtain⟨⟨x,rfl⟩,h1⟩:=a;obtain⟨⟨y,rfl⟩,h2⟩:=b;exact⟨⟨x++y,bC _ _ _⟩,fun q h=>h2 q (h1 q h)⟩
theorem Ext.get(e:Ext ρ P aI P')(i:Nat)(a:Addr)(h:ρ[i]?=some a):aI[i]?=some a:=by obtain⟨⟨x,rfl⟩,_⟩:=e;rw[List.getElem?_append_left (dX.mp h).1];exact h
theorem Ext.T{w:World}{S:dK}{ρ aI:List Addr}{P P':Led}(e:Ext ρ P aI P'):∀a o,TX w S P a o→TX w S P' a o:=fun a o h=>h.imp (fun h=>h) fun h=>⟨e.p _ h.1,h.2⟩
theorem VR.ext{w:World}{S:dK}{ρ aI:List Addr}{P P':Led}{v:V}{x:Value}(e:Ext ρ P aI P')(h:VR (TX w S P) ρ v x):VR (TX w S P') aI v x:=h.mono e.T e.get
theorem bT.ext{w:World}{S:dK}{ρ aI:List Addr}{P P':Led}{v:List V}{x:List Value}(e:Ext ρ P aI P')(h:bT (TX w S P) ρ v x):bT (TX w S P') aI v x:=h.mono e.T e.get
def gD{w:World}(c:Cx w)(ρ:List Addr)(P:Led)(Q:V→St→Prop)(x:Value)(s':Shared):Prop:=∃r σ' aI P',Ext ρ P aI P'∧aK c σ' aI P' s'∧VR (c.T P') aI r x∧Q r σ'
def KQ{w:World}{α:Type}(c:Cx w)(ρ:List Addr)(P:Led)(Q:α→St→Prop)(x:α)(s':Shared):Prop:=∃σ' aI P',Ext ρ P aI P'∧aK c σ' aI P' s'∧Q x σ'
abbrev Wp{w:World}{α:Type}(c:Cx w)(t:Sem α)(Q:α→Shared→Prop)(s:Shared):Prop:=cR (model Prog w) c.A t Q c.E s
def mQ{w:World}(c:Cx w)(t:Sem Value)(σ:St)(Q:V→St→Prop):Prop:=∀ρ P s,aK c σ ρ P s→Wp c t (gD c ρ P Q) s
section
variable{w:World}{c:Cx w}{ρ:List Addr}{P:Led}{s:Shared}{α β:Type}
theorem aU{f:Unit→Sem α}{Q:α→Shared→Prop}(h:Wp c (f ()) Q s):Wp c (standAt p>>=f) Q s:=ag (af (wpAny_standAt h))
theorem wp_release{Q:Unit→Shared→Prop}(h:Q () s):Wp c (release vs keep) Q s:=af (wpAny_release' h)
theorem wp_operate{Q:dB}(h:Wp c m Q s):Wp c (operate vs m) Q s:=ag (aw (bj h (fun r s' h'=>ag (wp_release (ak h')))))
theorem gD.to{Q Q':V→St→Prop}(e:Ext ρ P aI P')(h:gD c aI P' Q x s)(hq:∀r σ,Q r σ→Q' r σ):gD c ρ P Q' x s:=by exact gP h fun r σ' cj ko e' R v q=>aY r σ' cj ko (e.trans e') R v (hq _ _ q)
theorem gD.mk{Q:V→St→Prop}(R:aK c σ ρ P s)(v:VR (c.T P) ρ r x)(q:Q r σ):gD c ρ P Q x s:=aY r σ ρ P .c6 R v q
theorem mQ.use{Q:V→St→Prop}(h:mQ c t σ Q){f:Value→Sem β}{Q':β→Shared→Prop}(R:aK c σ ρ P s)(k:∀x s' r σ' aI P',Ext ρ P aI P'→aK c σ' aI P' s'→VR (c.T P') aI r x→Q r σ'→Wp c (f x) Q' s'):Wp c (t>>=f) Q' s:=ag (bj (h ρ P s R) (fun x s' df=>by refine gP df fun r σ' aI P' e R' v q=>?_;exact k x s' r σ' aI P' e R' v q))
theorem mQ.mH{Q:V→St→Prop}(h:mQ c t σ Q){f:Value→Sem β}{Q':β→Shared→Prop}(R:aK c σ ρ P s)(k:∀x s' r σ' aI P',Ext ρ P aI P'→aK c σ' aI P' s'→VR (c.T P') aI r x→Q r σ'→Wp c (f x) Q' s'):Wp c (holding vs t>>=f) Q' s:=ag (aw (bj (h ρ P s R) (fun x s' df=>by refine gP df fun r σ' aI P' e R' v q=>?_;exact k x s' r σ' aI P' e R' v q)))
end
set_option maxHeartbeats 4000000
set_option tactic.hygienic false
noncomputable def O.cG:O→Bool
 |.rows _ (some _)=>false
 |_=>true
def aF(w:World)(f:Addr)(lv:Nat)(k:Nat)(args:List V)(pre:List O)(Q:V→List O→Prop)(X:List O→Prop):Prop:=
 ∀(cy:ExcName→Option Value) (mg mb:PySem.Str→Option Value) (dp un:Nat) (gd:Option (List Code)) (stack:List Env) (base g:Heap) (s:Shared) (R:Result→Shared→Prop)
  (S:dK) (ρ:List Addr) (vals:List Value) (led:Led),
  Below (Ar dp un gd stack) base stack g→(∀b o,g.get? b=some o→s.heap.get? b=some o)→g.objs.size≤s.heap.objs.size→(hd.heap_39 w.params).In g→jI cy mg mb g→
  (∀a o,S a o→g.get? a=some o)→ik g s.heap led→(adr led).Nodup→aP w (SX w S) ρ ρ pre led→bT (SX w S) ρ args vals→dp+lv≤900→un+10*lv≤6000→
  (∀v h' dU aI P r cs' bx,(∀b o,g.get? b=some o→h'.get? b=some o)→ik g h' (bx++P)→(adr (bx++P)).Nodup→(∀i,i<k→aI[i]?=ρ[i]?)→aP w (TX w S P) aI aI cs' bx→cs'.all O.cG=true→VR (TX w S P) aI r v→Q r cs'→R (.ok (.ret v)) {s with heap:=h',toks:=dU})→
  (∀e h' dU aI P cs' bx,il g stack (bx++P) h' e→(adr (bx++P)).Nodup→(∀i,i<k→aI[i]?=ρ[i]?)→aP w (TX w S P) aI aI cs' bx→cs'.all O.cG=true→X cs'→R (.error (.ref e)) {s with heap:=h',toks:=dU})→
  cK (model Prog w) (Ar dp un gd stack) (.call (.ref f) ⟨vals,[]⟩) R s
def zh(o o1:O):Prop:=match o with
 |.dead=>True
 |.ints l=>(match o1 with|.list vs=>vs=l.map .int|_=>o=o1)
 |.opts l=>(match o1 with|.list vs=>vs=l.map V.opt|.ints l'=>l=l'.map some|_=>o=o1)
 |.ops l=>(match o1 with|.list vs=>vs=l.map Op.v|_=>o=o1)
 |.eN l=>(match o1 with|.d0=>l=[]|_=>o=o1)
 |.gf l=>(match o1 with|.d0=>l=[]|_=>o=o1)
 |.dS l=>(match o1 with|.d0=>l=[]|_=>o=o1)
 |.rows l h=>(match o1 with|.d0=>l=[]∧h=none|_=>o=o1)
 |_=>o=o1
def vT(κ:List Nat)(cs:List O):List Nat→List O→Prop
 |[],[]=>True
 |i::is,o::os=>(match cs[i]? with|some o1=>zh (o.eP κ) o1|none=>o=.dead)∧vT κ cs is os
 |_,_=>False
noncomputable def bW:List Nat→Bool
 |[]=>true
 |a::l=>l.all (fun b=> !(Nat.beq a b))&&bW l
noncomputable def O.isDead:O→Bool
 |.dead=>true
 |_=>false
noncomputable def putAll(eT:List Nat):List O→List Nat→List O→List O
 |cs,i::is,o::os=>(match o.isDead with
  |true=>putAll eT cs is os
  |false=>putAll eT (cs.set i (o.eP eT)) is os)
 |cs,_,_=>cs
noncomputable def kill:List O→List Nat→List O→List O
 |cs,i::is,o::os=>(match o.isDead with
  |true=>kill cs is os
  |false=>kill (cs.set i .dead) is os)
 |cs,_,_=>cs
noncomputable def kr(n:Nat):List O→List Nat
 |[]=>[]
 |_::l=>n::kr (n+1) l
noncomputable def iD(κ:List Nat):List O→List O
 |[]=>[]
 |o::l=>o.eP κ::iD κ l
noncomputable def bN(κ:List Nat)(k n:Nat)(cs':List O):List Nat:=κ.take k++kr n (cs'.drop k)
noncomputable def back(σ:St)(κ:List Nat)(k:Nat)(pre cs':List O):St:=⟨σ.vars,putAll (bN κ k σ.cs.length cs') (kill σ.cs κ pre) (κ.take k) (cs'.take k)++iD (bN κ k σ.cs.length cs') (cs'.drop k)⟩
structure cM(w:World)(lv:Nat)(X:St→Prop)(f:Addr)(args:List V)(σ:St)(Q:V→St→Prop):Prop where
 it:∃(ph k:Nat) (κ:List Nat) (eA:List V) (pre:List O) (Qc:V→List O→Prop) (Xc:List O→Prop),
  aF w f ph k eA pre Qc Xc∧Nat.ble (ph+8) lv=true∧bW κ=true∧Nat.ble k κ.length=true∧(κ.take k).all (fun i=>Nat.blt i σ.cs.length)=true∧km κ eA=args∧vT κ σ.cs κ pre∧
  (∀r cs',Qc r cs'→Q (r.eP (bN κ k σ.cs.length cs')) (back σ κ k pre cs'))∧(∀cs',Xc cs'→X (back σ κ k pre cs'))
theorem cM.mono{X:St→Prop}{Q Q':V→St→Prop}(h:cM w lv X f args σ Q)(k:∀r σ,Q r σ→Q' r σ):cM w lv X f args σ Q':=by exact fN h.it fun ph k' κ eA t_=>br t_ fun pre Qc Xc C h1 h2 t_=>rU t_ fun h3 h4 h5 h6 hq hx=>⟨(b9 ph k' κ eA (aR pre Qc Xc C h1 h2 (jj h3 h4 h5 h6 (fun r cs' h=>k _ _ (hq r cs' h)) hx)))⟩
noncomputable def ux:List Nat:=[nat_lit 0,nat_lit 1,nat_lit 2,nat_lit 3,nat_lit 4,nat_lit 5,nat_lit 6,nat_lit 7,nat_lit 8,nat_lit 9,nat_lit 10,nat_lit 11,nat_lit 12,nat_lit 13,nat_lit 14,nat_lit 15,nat_lit 16,nat_lit 17,nat_lit 18,nat_lit 19,nat_lit 20,nat_lit 21,nat_lit 22,nat_lit 23,nat_lit 24,nat_lit 25,nat_lit 26,nat_lit 27,nat_lit 28,nat_lit 29,nat_lit 30,nat_lit 31,nat_lit 32,nat_lit 33,nat_lit 34,nat_lit 35,nat_lit 36,nat_lit 37,nat_lit 38,nat_lit 39,nat_lit 40,nat_lit 41,nat_lit 42,nat_lit 43,nat_lit 44,nat_lit 45,nat_lit 46,nat_lit 47,nat_lit 48,nat_lit 49,nat_lit 50,nat_lit 51,nat_lit 52,nat_lit 53,nat_lit 54,nat_lit 55,nat_lit 56,nat_lit 57,nat_lit 58,nat_lit 59,nat_lit 60,nat_lit 61,nat_lit 62,nat_lit 63]
def qR(i:Nat)(k:Nat→Prop):Prop:=match ux[i]? with
 |some t=>k t
 |none=>k i
theorem pD{k:Nat→Prop}(h:qR i k):k i:=by
 unfold qR at h;have e:ux=List.range 64:=by rfl
 generalize q:ux[i]?=y_ at h⊢;induction y_ with
 |none=>exact h
 |some t=>
  rw[e,List.getElem?_range]at q
  ·have q_:=bf q;clear q;subst q_;exact h
  ·refine Nat.lt_of_not_le fun z=>?_;rw[List.getElem?_eq_none (by rw[List.length_range];exact z)]at q;exact nS q
mutual
noncomputable def V.dn:V→(V→Prop)→Prop
 |.tup vs,k=>nA vs fun vs=>k (.tup vs)
 |.ref i,k=>qR i fun i=>k (.ref i)
 |.bad,k=>k .bad|.none,k=>k .none|.bool b,k=>k (.bool b)|.int i,k=>k (.int i)|.str n,k=>k (.str n)|.bytes b,k=>k (.bytes b)|.top a,k=>k (.top a)|.bi b,k=>k (.bi b)|.oi c,k=>k (.oi c)
noncomputable def nA:List V→(List V→Prop)→Prop
 |[],k=>k []
 |v::l,k=>V.dn v fun v=>nA l fun l=>k (v::l)
end
mutual
theorem V.cH:∀{v:V} {k:V→Prop},v.dn k→k v
 |.tup vs,k,h=>lC (l:=vs) (k:=fun vs=>k (.tup vs)) h
 |.ref i,k,h=>pD (k:=fun i=>k (.ref i)) h
 |.bad,k,h=>h
 |.none,k,h=>h
 |.bool b,k,h=>h
 |.int i,k,h=>h
 |.str n,k,h=>h
 |.bytes b,k,h=>h
 |.top a,k,h=>h
 |.bi b,k,h=>h
 |.oi c,k,h=>h
theorem lC:∀{l:List V} {k:List V→Prop},nA l k→k l
 |[],k,h=>h
 |v::l,k,h=>lC (l:=l) (k:=fun l=>k (v::l)) (V.cH (v:=v) (k:=fun v=>nA l fun l=>k (v::l)) h)
end
def nB:List (Nat×V)→(List (Nat×V)→Prop)→Prop
 |[],k=>k []
 |p::l,k=>match p with|(n,v)=>v.dn fun v=>nB l fun l=>k ((n,v)::l)
theorem lD:∀{l:List (Nat×V)} {k:List (Nat×V)→Prop},nB l k→k l
 |[],_,h=>h
 |p::l,k,h=>lD (l:=l) (k:=fun l=>k (p::l)) (V.cH (v:=p.2) (k:=fun v=>nB l fun l=>k ((p.1,v)::l)) h)
def O.dn(o:O)(k:O→Prop):Prop:=match o with
 |.inst c fs=>nB fs fun fs=>k (.inst c fs)
 |.dS l=>k (.dS l)
 |.list vs=>nA vs fun vs=>k (.list vs)
 |.dead=>k .dead|.ints l=>k (.ints l)|.opts l=>k (.opts l)|.ops l=>k (.ops l)|.d0=>k .d0|.eN l=>k (.eN l)|.gf l=>k (.gf l)|.ba b=>k (.ba b)
 |.cell v=>v.dn fun v=>k (.cell v)
 |.rows l h=>(match h with|none=>k (.rows l none)|some p=>(match p with|(p,j)=>qR j fun j=>k (.rows l (some (p,j)))))
theorem O.cH{o:O}{k:O→Prop}(h:o.dn k):k o:=by
 induction o with
 |rows l hh=>induction hh with
  |none=>exact h
  |some p=>exact pD (k:=fun j=>k (.rows l (some (p.1,j)))) h
 |inst c fs=>exact lD (k:=fun fs=>k (.inst c fs)) h
 |list vs=>exact lC (k:=fun l=>k (.list l)) h
 |cell v=>exact V.cH (k:=fun l=>k (.cell l)) h
 |_=>exact h
def qS:List O→(List O→Prop)→Prop
 |[],k=>k []
 |o::l,k=>o.dn fun o=>qS l fun l=>k (o::l)
theorem pF:∀{l:List O} {k:List O→Prop},qS l k→k l
 |[],_,h=>h
 |o::l,k,h=>pF (l:=l) (k:=fun l=>k (o::l)) (O.cH (o:=o) (k:=fun o=>qS l fun l=>k (o::l)) h)
def St.dn(σ:St)(k:St→Prop):Prop:=nB σ.vars fun vs=>qS σ.cs fun cs=>k ⟨vs,cs⟩
theorem St.cH{σ:St}{k:St→Prop}(h:σ.dn k):k σ:=pF (lD h)
theorem cM.zi{X:St→Prop}{Q:V→St→Prop}(h:cM w lv X f args σ fun r σ'=>r.dn fun r=>σ'.dn (Q r)):cM w lv X f args σ Q:=h.mono fun a_ b_ h=>St.cH (V.cH h)
inductive dW|tt|ff|b(x:Bool)
noncomputable def dW.val:dW→Bool|.tt=>true|.ff=>false|.b x=>x
noncomputable def dW.neg:dW→dW|.tt=>.ff|.ff=>.tt|.b x=>.b (!x)
def dW.go:dW→Prop→Prop→Prop
 |.tt,t,_=>t
 |.ff,_,f=>f
 |.b x,t,f=>(x=true→t)∧(x=false→f)
theorem dW.uy{c:dW}(h:c.go t f):if c.val=true then t else f:=by
 induction c with
 |tt=>exact(aB rfl).mpr h
 |ff=>exact(aH cz).mpr h
 |b x=>induction x with
  |true=>exact(aB rfl).mpr (h.1 rfl)
  |false=>exact(aH cz).mpr (h.2 rfl)
theorem dW.neg_val(c:dW):c.neg.val= !c.val:=by induction c<;>rfl
noncomputable abbrev KV:=V→St→Prop
noncomputable abbrev KU:=St→Prop
noncomputable def O.ER:O→Option Nat
 |.list vs=>some vs.length|.ints l=>some l.length|.opts l=>some l.length|.ops l=>some l.length
 |_=>none
noncomputable def truth(cs:List O):V→Option dW
 |.none=>some .ff
 |.bool b=>some (.b b)
 |.int x=>some (.b (x !=0))
 |.ref i=>(match cs[i]? with
  |some o=>(match o with
   |.ints l=>some (.b (!l.isEmpty))
   |.gf l=>some (.b (!l.isEmpty))
   |_=>none)
  |none=>none)
 |_=>none
def Hs(cs:List O):V→Prop
 |.ref i=>(match cs[i]? with
  |some o=>(match o with
   |.ints l=>l.length≤1000000
   |.gf l=>l.length≤100000
   |_=>True)
  |none=>True)
 |_=>True
noncomputable def Im(a b:V):Option dW:=match a with
 |.none=>(match b with|.none=>some .tt|.int _=>some .ff|_=>none)
 |.int x=>(match b with|.none=>some .ff|.int y=>some (.b (x==y))|_=>none)
 |.bytes x=>(match b with|.bytes y=>some (.b (x==y))|_=>none)
 |.str n=>(match b with|.str m=>(match cT n&&cT m with|true=>(match Nat.beq n m with|true=>some .tt|false=>some .ff)|false=>none)|_=>none)
 |_=>none
noncomputable def xF:List V→List V→Option dW
 |[],bs=>(match bs with|[]=>some .tt|_::_=>none)
 |a::as,bs=>(match bs with
  |[]=>none
  |b::bs=>(match a with
   |.int x=>(match b with
    |.int y=>(match xF as bs with
     |some c=>some (.b ((x==y)&&c.val))
     |none=>none)
    |_=>none)
   |_=>none))
noncomputable def Mk(o o':O):Option dW:=match o with
 |.opts l=>(match o' with
  |.opts l'=>some (.b (l==l'))
  |.ints l'=>some (.b (l==l'.map some))
  |.list vs=>(match vs with|[]=>some (.b (l==[]))|_::_=>none)
  |_=>none)
 |.ints l=>(match o' with
  |.ints l'=>some (.b (l==l'))
  |.list vs=>(match vs with|[]=>some (.b (l==[]))|_::_=>none)
  |_=>none)
 |_=>none
noncomputable def Ml(cs:List O)(a b:V):Option dW:=match a with
 |.tup vs=>(match b with|.tup ws=>xF vs ws|_=>none)
 |.ref i=>(match b with
  |.ref j=>(match cs[i]? with
   |some o=>(match cs[j]? with|some o'=>Mk o o'|none=>none)
   |none=>none)
  |_=>none)
 |a=>Im a b
noncomputable def isNone:V→Option dW
 |.none=>some .tt
 |.bad=>none
 |.top _=>none
 |.bi _=>none
 |.oi _=>none
 |_=>some .ff
noncomputable def aj(l:List (Int×α)):List Int:=l.map (·.1)
noncomputable def sD(n:Nat):List V→Option dW
 |[]=>some dW.ff
 |v::vs=>(match v with
  |.str m=>(match sD n vs with
   |some c=>(match cT m with|true=>(match Nat.beq n m with|true=>some dW.tt|false=>some c)|false=>none)
   |none=>none)
  |_=>none)
noncomputable def zj(n:Nat)(vs:List V):Option dW:=match cT n with|true=>sD n vs|false=>none
noncomputable def Io(o:O)(a:V):Option dW:=match a with
 |.str n=>(match o.pS with
  |some kvs=>(match cT n with|true=>(match look kvs n with|some _=>some .tt|none=>some .ff)|false=>none)
  |none=>none)
 |.int x=>(match o with
  |.rows l _=>some (.b ((aj l).contains x))
  |.d0=>some .ff
  |_=>none)
 |_=>none
noncomputable def Mm(cs:List O)(a b:V):Option dW:=match b with
 |.tup vs=>(match a with|.str n=>zj n vs|_=>none)
 |.ref i=>(match cs[i]? with
  |some o=>Io o a
  |none=>none)
 |_=>none
noncomputable def xG(a b:V):Option (Int×Int):=match a with
 |.int x=>(match b with|.int y=>some (x,y)|_=>none)
 |_=>none
theorem Cb{p:Int×Int}(h:xG a b=some p):a=.int p.1∧b=.int p.2:=by
 induction a using V.casesOn<;>first|exact nomatch(show(none:Option (Int×Int))=some p from h)|skip
 induction b using V.casesOn<;>first|exact nomatch(show(none:Option (Int×Int))=some p from h)|(have q_:=bf h;clear h;subst q_;exact⟨rfl,rfl⟩)
noncomputable def zk(cs:List O)(o:EK)(a b:V):Option dW:=match o with
 |.eq=>Ml cs a b
 |.ne=>(Ml cs a b).map dW.neg
 |.is=>(match b with|.none=>isNone a|_=>none)
 |.Hq=>(match b with|.none=>(isNone a).map dW.neg|_=>none)
 |.Mi=>Mm cs a b
 |.EL=>(Mm cs a b).map dW.neg
 |.lt=>(xG a b).map fun p=>.b (decide (p.1<p.2))
 |.le=>(xG a b).map fun p=>.b (decide (p.1≤p.2))
 |.gt=>(xG a b).map fun p=>.b (decide (p.1>p.2))
 |.ge=>(xG a b).map fun p=>.b (decide (p.1≥p.2))
def V.gh(a:V)(k:Int→Prop):Prop:=match a with|.int x=>k x|_=>False
def V.Cc(a:V)(k:aD→Prop):Prop:=match a with|.bytes x=>k x|_=>False
def V.Cd(a:V)(k:Nat→Prop):Prop:=match a with|.str x=>k x|_=>False
def V.yB(a:V)(k:Nat→Prop):Prop:=match a with|.ref x=>k x|_=>False
def V.Mn(a:V)(k:List V→Prop):Prop:=match a with|.tup x=>k x|_=>False
theorem V.b8{a:V}{k:Int→Prop}(h:a.gh k):∃x,a=.int x∧k x:=by induction a using V.casesOn<;>first|exact h.elim|exact ah _ rfl h
theorem V.gZ{a:V}{k:aD→Prop}(h:a.Cc k):∃x,a=.bytes x∧k x:=by induction a using V.casesOn<;>first|exact h.elim|exact ah _ rfl h
theorem V.mR{a:V}{k:Nat→Prop}(h:a.Cd k):∃x,a=.str x∧k x:=by induction a using V.casesOn<;>first|exact h.elim|exact ah _ rfl h
theorem V.eB{a:V}{k:Nat→Prop}(h:a.yB k):∃x,a=.ref x∧k x:=by induction a using V.casesOn<;>first|exact h.elim|exact ah _ rfl h
theorem V.vU{a:V}{k:List V→Prop}(h:a.Mn k):∃x,a=.tup x∧k x:=by induction a using V.casesOn<;>first|exact h.elim|exact ah _ rfl h
def ku(b:Bool)(K:Prop):Prop:=match b with|true=>K|false=>False
theorem dq{b:Bool}{K:Prop}(h:ku b K):b=true∧K:=by induction b with|false=>exact h.elim|true=>exact⟨tt,h⟩
def V.KR(a:V)(k:Nat→Prop):Prop:=a.gh fun x=>(match x with|.ofNat n=>k n|.negSucc _=>False)
section
variable{T:dK}{ρ:List Addr}{a:V}{y:Value}{M:V→Value→Prop}
theorem V.eU{k:Int→Prop}(h:a.gh k)(vy:VR T ρ a y)(H:∀x t,k x→VR T ρ (.int x) (.int x t)→M (.int x) (.int x t)):M a y:=by refine aa (V.b8 h) fun x az h=>?_;subst az;refine bg vy.int_inv fun t az=>?_;subst az;exact H x t h vy
theorem V.uz{k:Nat→Prop}(h:a.KR k)(vy:VR T ρ a y)(H:∀(x:Nat) t,k x→VR T ρ (.int x) (.int x t)→M (.int x) (.int x t)):M a y:=V.eU h vy fun x t h v=>by induction x with|ofNat n=>exact H n t h v|negSucc n=>exact h.elim
theorem V.ES{k:aD→Prop}(h:a.Cc k)(vy:VR T ρ a y)(H:∀x t,k x→VR T ρ (.bytes x) (.bytes x.toArray t)→M (.bytes x) (.bytes x.toArray t)):M a y:=by refine aa (V.gZ h) fun x az h=>?_;subst az;refine bg vy.bQ fun t az=>?_;subst az;exact H x t h vy
theorem V.uA{k:Nat→Prop}(h:a.Cd k)(vy:VR T ρ a y)(H:∀x t,k x→VR T ρ (.str x) (.str (nm x) t)→M (.str x) (.str (nm x) t)):M a y:=by refine aa (V.mR h) fun x az h=>?_;subst az;refine bg vy.str_inv fun t az=>?_;subst az;exact H x t h vy
end
def V.zl(a:V)(i:Int→Prop)(b:aD→Prop)(s:Nat→Prop):Prop:=match a with|.int x=>i x|.bytes x=>b x|.str x=>s x|_=>False
theorem V.pG{a:V}{i:Int→Prop}{b:aD→Prop}{s:Nat→Prop}(h:a.zl i b s):(∃x,a=.int x∧i x)∨(∃x,a=.bytes x∧b x)∨∃x,a=.str x∧s x:=by induction a using V.casesOn<;>first|exact h.elim|exact .inl (ah _ rfl h)|exact .inr (.inl (ah _ rfl h))|exact .inr (.inr (ah _ rfl h))
def Ip(o:ze)(a b:V)(K:V→Prop):Prop:=match o with
 |.add=>a.zl (fun x=>b.gh fun y=>K (.int (x+y))) (fun x=>b.Cc fun y=>x.length+y.length≤1000000∧K (.bytes (x++y))) (fun n=>b.Cd fun m=>∃k,nm k=nm n++nm m∧(nm n).length+(nm m).length≤1000∧K (.str k))
 |.sub=>a.gh fun x=>b.gh fun y=>K (.int (x-y))
 |.mul=>a.zl (fun x=>b.gh fun y=>IntMulOk x y∧K (.int (x*y))) (fun x=>b.gh fun y=>x.isEmpty=false∧0≤y∧y≤1000∧x.length≤16∧K (.bytes (List.replicate y.toNat x).flatten)) (fun a_=>False)
 |.mod=>a.gh fun x=>b.gh fun y=>0<y∧K (.int (x% y))
 |.fdiv=>a.gh fun x=>b.gh fun y=>0<y∧y<4294967296∧K (.int (x/y))
 |.pow=>a.gh fun x=>b.gh fun y=>0≤y∧y≤1000000∧x.natAbs<2^64∧K (.int (x^y.toNat))
noncomputable def aL(b:aD)(i j:Nat):aD:=(b.drop i).take (j-i)
def KS(cs:List O)(r:Nat)(k:aD→Prop):Prop:=match cs[r]? with
 |some (.ba b)=>k b
 |_=>False
theorem vV{k:aD→Prop}(h:KS cs r k):∃b,cs[r]?=some (.ba b)∧k b:=by
 unfold KS at h;generalize q:cs[r]?=y_ at h⊢;induction y_ with
 |none=>exact h.elim
 |some o=>induction o with
  |ba b=>exact ah b rfl h
  |_=>exact h.elim
def sE(cs:List O)(r:Nat)(k:Nat→List (Nat×V)→Prop):Prop:=match cs[r]? with
 |some (.inst c fs)=>k c fs
 |_=>False
theorem lE{k:Nat→List (Nat×V)→Prop}(h:sE cs r k):∃c fs,cs[r]?=some (.inst c fs)∧k c fs:=by
 unfold sE at h;generalize q:cs[r]?=y_ at h⊢;induction y_ with
 |none=>exact h.elim
 |some o=>induction o with
  |inst c fs=>exact cL c fs rfl h
  |_=>exact h.elim
def zm(cs:List O)(r:Nat)(k:List (Int×List Int)→Int→Prop):Prop:=match cs[r]? with
 |some (.rows l h)=>(match h with|some p=>k l p.1|none=>False)
 |_=>False
theorem xH{k:List (Int×List Int)→Int→Prop}(h:zm cs r k):∃l p j,cs[r]?=some (.rows l (some (p,j)))∧k l p:=by
 unfold zm at h;generalize q:cs[r]?=y_ at h⊢;induction y_ with
 |none=>exact h.elim
 |some o=>induction o with
  |rows l hl=>induction hl with
   |none=>exact h.elim
   |some p=>exact dF l p.1 p.2 rfl h
  |_=>exact h.elim
def V.NN(v:V)(k:Prop):Prop:=match v with
 |.none=>k
 |_=>False
theorem V.Ce{v:V}(h:v.NN k):v=.none∧k:=by induction v using V.casesOn<;>first|exact h.elim|exact⟨rfl,h⟩
def Mo(σ:St)(r:Nat)(x:Int)(v:V)(K:KU):Prop:=match v with
 |.int y=>K ⟨σ.vars,σ.cs.set r (.eN [(x,y)])⟩
 |.bytes y=>K ⟨σ.vars,σ.cs.set r (.gf [(x,y)])⟩
 |.ref j=>∃xs,(match σ.cs[j]? with|some (.ints ys)=>xs=ys|some (.list ys)=>ys=[]∧xs=[]|_=>False)∧j≠r∧K ⟨σ.vars,σ.cs.set r (.rows [(x,xs)] (some (x,j)))⟩
 |_=>False
def Mp(σ:St)(r:Nat)(i v:V)(K:KU):Prop:=match i with
 |.int x=>Mo σ r x v K
 |.str n=>ku (cT n) (K ⟨σ.vars,σ.cs.set r (.dS [(n,v)])⟩)
 |_=>False
def Mq(σ:St)(r:Nat)(o:O)(i v:V)(K:KU):Prop:=match o with
 |.ints l=>i.gh fun x=>v.gh fun y=>0≤x∧x<l.length∧l.length≤1000000∧K ⟨σ.vars,σ.cs.set r (.ints (l.set x.toNat y))⟩
 |.list vs=>i.KR fun k=>ku (Nat.blt k vs.length&&Nat.ble vs.length 900) (K ⟨σ.vars,σ.cs.set r (.list (vs.set k v))⟩)
 |.eN l=>i.gh fun x=>v.gh fun y=>l.length≤100000∧K ⟨σ.vars,σ.cs.set r (.eN (dput l x y))⟩
 |.gf l=>i.gh fun x=>v.Cc fun y=>l.length≤100000∧K ⟨σ.vars,σ.cs.set r (.gf (dput l x y))⟩
 |.d0=>Mp σ r i v K
 |.dS l=>i.Cd fun n=>ku (cT n&&Nat.ble l.length 900) (K ⟨σ.vars,σ.cs.set r (.dS (fu l n v))⟩)
 |.rows l h=>(match h with
  |none=>i.gh fun x=>v.yB fun j=>x∉aj l∧l.length≤100000∧(∃xs,(match σ.cs[j]? with|some (.ints ys)=>xs=ys|some (.list ys)=>ys=[]∧xs=[]|_=>False)∧j≠r∧K ⟨σ.vars,σ.cs.set r (.rows (l++[(x,xs)]) (some (x,j)))⟩)
  |some _=>False)
 |_=>False
def nC(σ:St)(r:Nat)(i v:V)(K:KU):Prop:=match σ.cs[r]? with
 |none=>False
 |some o=>Mq σ r o i v K
def BH{α:Type}(o:Option α)(k:α→Prop):Prop:=match o with|some v=>k v|none=>False
theorem g7{α:Type}{o:Option α}{k:α→Prop}(h:BH o k):∃v,o=some v∧k v:=by
 induction o with
 |none=>exact h.elim
 |some v=>exact ah v rfl h
def DF(σ:St)(r:Nat)(o:O)(i:V)(K:KV):Prop:=match o with
 |.list vs=>i.KR fun k=>ku (Nat.ble vs.length 900) (BH vs[k]? fun v=>K v σ)
 |.ints l=>i.gh fun x=>l.length≤1000000∧((0≤x∧x<l.length∧K (.int (l.getD x.toNat 0)) σ)∨(x= -1∧l≠[]∧K (.int (l.getLast?.getD 0)) σ))
 |.eN l=>i.gh fun x=>∃v,aV l x=some v∧K (.int v) σ
 |.gf l=>i.gh fun x=>∃v,aV l x=some v∧K (.bytes v) σ
 |.rows l h=>i.gh fun x=>(match h with
  |none=>∃xs,aV l x=some xs∧K (.ref σ.cs.length) ⟨σ.vars,σ.cs.set r (.rows l (some (x,σ.cs.length)))++[.ints xs]⟩
  |some p=>x=p.1∧x∈aj l∧K (.ref p.2) σ)
 |o=>i.Cd fun n=>BH o.pS fun kvs=>ku (cT n) (BH (look kvs n) fun v=>K v σ)
def Iq(σ:St)(a i:V)(K:KV):Prop:=match a with
 |.tup vs=>i.KR fun k=>ku (Nat.ble vs.length 900) (BH vs[k]? fun v=>K v σ)
 |.bytes b=>i.gh fun x=>0≤x∧x<b.length∧b.length≤1000000∧K (.int (b.getD x.toNat 0).toNat) σ
 |.ref r=>BH σ.cs[r]? fun o=>DF σ r o i K
 |_=>False
noncomputable def foldFrom(cs:List O):Nat→List O→List O
 |_,[]=>cs
 |r,.rows l (some (p,j))::_=>(match cs[j]? with
  |some (.ints xs)=>(cs.set r (.rows (dput l p xs) none)).set j .dead
  |some (.list [])=>(cs.set r (.rows (dput l p []) none)).set j .dead
  |_=>cs)
 |r,_::os=>foldFrom cs (r+1) os
noncomputable def eC(cs:List O):List O:=foldFrom cs 0 cs
def KW(b:aD)(i j:Nat)(K:aD→Prop):Prop:=b.length≤1000000∧K (aL b i j)
def Ir(σ:St)(a lo hi:V)(K:KV):Prop:=match a with
 |.bytes b=>(match lo with
  |.int x=>(match hi with
   |.int y=>0≤x∧0≤y∧KW b x.toNat y.toNat fun z=>K (.bytes z) σ
   |.none=>0≤x∧KW b x.toNat b.length fun z=>K (.bytes z) σ
   |_=>False)
  |.none=>hi.gh fun y=>0≤y∧KW b 0 y.toNat fun z=>K (.bytes z) σ
  |_=>False)
 |.ref r=>BH σ.cs[r]? fun o=>(match o with
  |.ba b=>lo.gh fun x=>hi.gh fun y=>0≤x∧0≤y∧KW b x.toNat y.toNat fun z=>K (.ref σ.cs.length) ⟨σ.vars,σ.cs++[.ba z]⟩
  |_=>False)
 |_=>False
noncomputable def sortI(l:List Int):List Int:=l.mergeSort (fun a b=>decide (a≤b))
noncomputable def eg(σ:St)(o:O):St:=⟨σ.vars,σ.cs++[o]⟩
def lF(args:List V)(k:V→Prop):Prop:=match args with
 |[]=>False
 |v::l=>(match l with|[]=>k v|_::_=>False)
theorem dt{k:V→Prop}(h:lF args k):∃v,args=[v]∧k v:=by
 induction args using List.casesOn with
 |nil=>exact h.elim
 |cons v l=>induction l using List.casesOn with
  |nil=>exact ah v rfl h
  |cons _ _=>exact h.elim
def Cf(cs:List O)(r:Nat)(k:O→Prop):Prop:=match cs[r]? with
 |some o=>k o
 |none=>False
theorem iX{k:O→Prop}(h:Cf cs r k):∃o,cs[r]?=some o∧k o:=by
 unfold Cf at h;generalize e:cs[r]?=y_ at h⊢;induction y_ with
 |none=>exact h.elim
 |some o=>exact ah o rfl h
def V.Iu(a:V)(r:Nat→Prop)(b:aD→Prop):Prop:=match a with|.ref x=>r x|.bytes x=>b x|_=>False
theorem V.zo{a:V}{r:Nat→Prop}{b:aD→Prop}(h:a.Iu r b):(∃x,a=.ref x∧r x)∨∃x,a=.bytes x∧b x:=by induction a using V.casesOn<;>first|exact h.elim|exact .inl (ah _ rfl h)|exact .inr (ah _ rfl h)
noncomputable def nD:List (Nat×V)→List Nat
 |[]=>[]
 |p::l=>p.1::nD l
noncomputable def zp:List Nat→List V
 |[]=>[]
 |n::l=>.str n::zp l
def zq(l:List Nat)(k:List Nat→Prop):Prop:=match l with
 |[]=>False
 |a::l=>(match l with
  |[]=>k [a]
  |b::l=>(match l with
   |[]=>(match Nat.beq a 194 with
    |true=>Nat.beq b 225=true∧k [194,225]
    |false=>Nat.beq a 225=true∧Nat.beq b 194=true∧k [194,225])
   |_::_=>False))
def KY(b:Bi)(args:List V)(σ:St)(K:KV):Prop:=match b with
 |.len=>lF args fun v=>v.Iu
  (fun r=>Cf σ.cs r fun o=>(match o with
   |.ba b=>b.length≤1000000∧K (.int b.length) σ
   |o=>(match o.ER with|some n=>n≤1000000∧K (.int n) σ|none=>False)))
  (fun b=>b.length≤1000000∧K (.int b.length) σ)
 |.sorted=>lF args fun v=>v.yB fun r=>Cf σ.cs r fun o=>(match o with
  |.eN l=>l.length<64∧K (.ref σ.cs.length) (eg σ (.ints (sortI (aj l))))
  |.gf l=>l.length<64∧K (.ref σ.cs.length) (eg σ (.ints (sortI (aj l))))
  |.dS l=>zq (nD l) fun ns=>K (.ref σ.cs.length) (eg σ (.list (zp ns)))
  |_=>False)
 |.list=>lF args fun v=>v.yB fun r=>Cf σ.cs r fun o=>(match o with
  |.ints l=>l.length≤100000∧K (.ref σ.cs.length) (eg σ (.ints l))
  |.list l=>l.length≤100000∧K (.ref σ.cs.length) (eg σ (.list l))
  |_=>False)
 |.dict=>lF args fun v=>v.yB fun r=>Cf σ.cs r fun o=>(match o with|.d0=>K (.ref σ.cs.length) (eg σ .d0)|_=>False)
 |.bytes=>lF args fun v=>(match v with
  |.ref r=>Cf σ.cs r fun o=>(match o with
   |.ba b=>b.length≤1000000∧K (.bytes b) σ
   |.list l=>lF l fun v=>v.gh fun x=>0≤x∧x<256∧K (.bytes [x.toNat.toUInt8]) σ
   |_=>False)
  |.bytes b=>K (.bytes b) σ
  |.int n=>0≤n∧n≤100000∧K (.bytes (List.replicate n.toNat 0)) σ
  |_=>False)
 |.bytearray=>(match args with
  |[]=>K (.ref σ.cs.length) (eg σ (.ba []))
  |v::l=>(match l with
   |[]=>v.Cc fun b=>b.length≤100000∧K (.ref σ.cs.length) (eg σ (.ba b))
   |_::_=>False))
 |.max=>(match args with
  |[]=>False
  |v::l=>v.gh fun x=>lF l fun v=>v.gh fun y=>K (.int (if y>x then y else x)) σ)
 |.int=>lF args fun v=>(match v with
  |.int x=>K (.int x) σ
  |.bool b=>K (.int (if b=true then 1 else 0)) σ
  |_=>False)
 |.range=>False
inductive qT|fn(f:Nat)|app|pop|get|ext
noncomputable def uB(n:Nat):Option qT:=match Nat.beq n 197 with
 |true=>some .app
 |false=>(match Nat.beq n 215 with|true=>some .pop|false=>none)
noncomputable def xI(n:Nat):Option qT:=match Nat.beq n 198 with|true=>some .get|false=>none
noncomputable def ET(n:Nat):Option qT:=match Nat.beq n 213 with|true=>some .ext|false=>none
def Iv(args:List V)(k:V→V→V→Prop):Prop:=match args with
 |[]=>False
 |a::l=>(match l with
  |[]=>False
  |b::l=>lF l fun c=>k a b c)
theorem zr{k:V→V→V→Prop}(h:Iv args k):∃a b c,args=[a,b,c]∧k a b c:=by
 induction args using List.casesOn with
 |nil=>exact h.elim
 |cons a l=>induction l using List.casesOn with
  |nil=>exact h.elim
  |cons b l=>refine aa (dt h) fun c az h=>?_;subst az;exact dF a b c rfl h
noncomputable def zu(vs:List V)(v:V):O:=match vs with
 |[]=>(match v with|.int x=>.ints [x]|_=>.list [v])
 |_::_=>.list (vs++[v])
def Iw(σ:St)(r:Nat)(o:O)(v:V)(K:KV):Prop:=match o with
 |.ints l=>v.gh fun x=>l.length≤1000000∧K .none ⟨σ.vars,σ.cs.set r (.ints (l++[x]))⟩
 |.opts l=>(match v with
  |.int x=>l.length≤1000000∧K .none ⟨σ.vars,σ.cs.set r (.opts (l++[some x]))⟩
  |.none=>l.length≤1000000∧K .none ⟨σ.vars,σ.cs.set r (.opts (l++[none]))⟩
  |_=>False)
 |.ops l=>v.Mn fun vs=>Iv vs fun a b c=>a.Cd fun n=>b.gh fun x=>c.Cc fun d=>(match Nat.beq n 95 with
  |true=>l.length≤1000000∧K .none ⟨σ.vars,σ.cs.set r (.ops (l++[.write x d]))⟩
  |false=>ku (Nat.beq n 96) (match d with|[]=>l.length≤1000000∧K .none ⟨σ.vars,σ.cs.set r (.ops (l++[.cut x]))⟩|_::_=>False))
 |.list vs=>vs.length≤1000000∧K .none ⟨σ.vars,σ.cs.set r (zu vs v)⟩
 |_=>False
def Mr(o:O)(r:Nat)(σ:St)(K:KV):Prop:=match o with
 |.ints l=>l.length≤1000000∧l≠[]∧K (.int (l.getLast?.getD 0)) ⟨σ.vars,σ.cs.set r (.ints l.dropLast)⟩
 |_=>False
def Iy(o:O)(r:Nat)(v:V)(σ:St)(K:KV):Prop:=match o with
 |.ba b=>v.Cc fun c=>b.length+c.length≤1000000∧K .none ⟨σ.vars,σ.cs.set r (.ba (b++c))⟩
 |_=>False
def DG(o:O)(r:Nat)(v:V)(σ:St)(K:KV):Prop:=match o with
 |.eN l=>v.gh fun x=>(∀y,aV l x=some y→K (.int y) σ)∧(aV l x=none→K .none σ)
 |.d0=>v.gh fun a_=>K .none σ
 |.rows l h=>(match h with
  |none=>v.gh fun x=>(∀xs,aV l x=some xs→K (.ref σ.cs.length) ⟨σ.vars,σ.cs.set r (.rows l (some (x,σ.cs.length)))++[.ints xs]⟩)∧(aV l x=none→K .none σ)
  |some _=>False)
 |_=>False
def zv(o:O)(i v:V)(σ:St)(K:KV):Prop:=match o.pS with
 |some kvs=>i.Cd fun k=>ku (cT k) (match look kvs k with|some u=>K u σ|none=>K v σ)
 |none=>False
def KZ(m:qT)(o:O)(r:Nat)(args:List V)(σ:St)(K:KV):Prop:=match m with
 |.fn _=>False
 |.app=>lF args fun v=>Iw σ r o v K
 |.pop=>(match args with|[]=>Mr o r σ K|_::_=>False)
 |.ext=>lF args fun v=>Iy o r v σ K
 |.get=>(match args with
  |[]=>False
  |i::l=>(match l with
   |[]=>DG o r i σ K
   |v::l=>(match l with|[]=>zv o i v σ K|_::_=>False)))
abbrev dT(a:V)(b:List O)(r:V)(cs:List O):Prop:=r=a∧cs=b
abbrev Ht(p:Prop)(b cs:List O):Prop:=p∧cs=b
abbrev dk(_:List O):Prop:=False
set_option tactic.hygienic true
noncomputable def vW:List (Nat×V):=
 [(35,.int 931071618),(36,.int 3007000),(37,.int 32),(38,.int 24),(39,.int 4294967296),(71,.int 0),
  (40,.tup [.int 23063,.int 625341585]),(41,.tup [.str 110,.str 111,.str 68,.str 96]),
  (7,.top 108),(8,.top 113),(9,.top 120),(10,.top 127),(11,.top 186),(12,.top 362),(13,.top 497),(14,.top 567),(15,.top 595),(16,.top 673),
  (17,.top 684),(18,.top 691),(19,.top 698),(20,.top 705),(21,.top 712),(22,.top 719),(23,.top 726),(24,.top 733),(25,.top 740),
  (26,.top 747),(27,.top 754),(28,.top 761)]
noncomputable def kx:List (Nat×Bi):=[(143,.len),(193,.range),(204,.sorted),(211,.list),(206,.dict),(208,.bytes),(207,.bytearray),(191,.max),(214,.int)]
noncomputable def nE:List (Nat×Bi)→Nat→Option Bi
 |[],_=>none
 |p::l,n=>match Nat.beq p.1 n with
  |true=>some p.2
  |false=>nE l n
noncomputable def globT(n:Nat):Option V:=match look vW n with
 |some v=>some v
 |none=>(match nE kx n with|some b=>some (.bi b)|none=>none)
noncomputable def jy:List (Nat×Nat)→Nat→Option Nat
 |[],_=>none
 |p::l,n=>match Nat.beq p.1 n with
  |true=>some p.2
  |false=>jy l n
noncomputable def jz:List (Nat×Nat):=[(186,141),(362,204),(497,380),(567,515),(595,585),(673,614)]
noncomputable def sF:List (Nat×List (Nat×Nat)):=
 [(186,[(42,148),(43,155),(44,162),(45,169),(46,176),(47,183)]),
  (362,[(48,211),(49,218),(50,225),(51,232),(52,239),(53,246),(54,253),(55,260),(56,267),(57,274),(59,288),(60,295),(62,309),(63,316),(64,323),(65,330),(66,337),(67,344),(68,352)]),
  (497,[(90,487)]),
  (567,[(93,522),(94,529),(95,536),(96,543),(97,550),(99,564)]),
  (595,[(100,592)]),
  (673,[(101,621),(102,628),(103,635),(51,649),(106,663)])]
noncomputable def vX:List (Nat×List (Nat×Nat))→Nat→List (Nat×Nat)
 |[],_=>[]
 |p::l,n=>match Nat.beq p.1 n with
  |true=>p.2
  |false=>vX l n
noncomputable def attrL:List (Nat×List Nat):=[(186,[144,145,146,147,148,117,118,116,149,150]),(362,[128,155,156,157,158,159]),(497,[171,172,173]),(567,[128,155,180,181,182]),(595,[165,160]),(673,[183,185,186,187,136,188,189])]
noncomputable def vY:List (Nat×List Nat)→Nat→List Nat
 |[],_=>[]
 |p::l,n=>match Nat.beq p.1 n with
  |true=>p.2
  |false=>vY l n
noncomputable def ec(l:List Nat)(n:Nat):Bool:=match l with
 |[]=>false
 |m::l=>match Nat.beq m n with
  |true=>true
  |false=>ec l n
noncomputable def pH(c n:Nat):Bool:=ec (vY attrL c) n
noncomputable def zw(c n:Nat):Option Nat:=jy (vX sF c) n
noncomputable def mn:List Nat:=[108,113,120,127,141,148,155,162,169,176,183,204,211,218,225,232,239,246,253,260,267,274,288,295,309,316,323,330,337,344,352,380,487,515,522,529,536,543,550,564,585,592,614,621,628,635,649,663,684,691,698,705,712,719,726,733,740,747,754,761,766]
section
variable(w:World)(lv:Nat)(X:St→Prop)
structure Ih where
 e:E→St→KV→Prop
 t:E→St→KU→KU→Prop
def yC(ih:E→St→KV→Prop):Es→St→(List V→St→Prop)→Prop
 |.nil=>fun σ K=>K [] σ
 |.cons e es=>fun σ K=>ih e σ fun v σ=>yC ih es σ fun vs σ=>K (v::vs) σ
def EU(ih:E→St→KU→KU→Prop):Es→St→KU→KU→Prop
 |.nil=>fun σ Kt a_=>Kt σ
 |.cons e es=>fun σ Kt Kf=>ih e σ (fun σ=>EU ih es σ Kt Kf) Kf
def Ms(ih:E→St→KU→KU→Prop):Es→St→KU→KU→Prop
 |.nil=>fun σ a_ Kf=>Kf σ
 |.cons e es=>fun σ Kt Kf=>ih e σ Kt (fun σ=>Ms ih es σ Kt Kf)
def EV(ih:E→St→KV→Prop):Es→St→KV→Prop
 |.nil=>fun a_ b_=>False
 |.cons e .nil=>fun σ K=>ih e σ K
 |.cons e (.cons e' es)=>fun σ K=>ih e σ fun v σ=>match truth σ.cs v with
  |some c=>Hs σ.cs v∧c.go (EV ih (.cons e' es) σ K) (K v σ)
  |none=>False
def DH(f:V)(args:List V)(σ:St)(K:KV):Prop:=match f with
 |.top a=>(match jy jz a with
  |none=>(match ec mn a with|true=>cM w lv X a args σ (fun r σ'=>r.dn fun r=>σ'.dn (K r))|false=>False)
  |some f=>cM w lv X f (.ref σ.cs.length::args) (eg σ (.inst a [])) fun r σ'=>r=.none∧σ'.dn (K (.ref σ.cs.length)))
 |.bi b=>KY b args σ K
 |_=>False
noncomputable def EW(o:O)(n:Nat):Option qT:=match o with
 |.inst c fs=>(match zw c n with
  |some f=>(match look fs n with|none=>some (.fn f)|some _=>none)
  |none=>none)
 |.list _=>uB n
 |.ints _=>uB n
 |.opts _=>uB n
 |.ops _=>uB n
 |.d0=>xI n
 |.eN _=>xI n
 |.dS _=>xI n
 |.rows _ _=>xI n
 |.ba _=>ET n
 |_=>none
noncomputable def zx(cs:List O)(o:V)(n:Nat):Option qT:=match o with
 |.ref i=>(match cs[i]? with
  |some o=>EW o n
  |none=>none)
 |_=>none
def EX(m:qT)(o:V)(args:List V)(σ:St)(K:KV):Prop:=match m with
 |.fn f=>(match ec mn f with|true=>cM w lv X f (o::args) σ (fun r σ'=>r.dn fun r=>σ'.dn (K r))|false=>False)
 |m=>(match o with
  |.ref i=>(match σ.cs[i]? with
   |some o=>KZ m o i args σ K
   |none=>False)
  |_=>False)
noncomputable def V.Mt:V→V
 |.none=>.oi Option.none
 |.int x=>.oi (Option.some x)
 |v=>v
noncomputable def V.Cg:V→V
 |.oi c=>V.opt c
 |v=>v
noncomputable def EY(n:Nat)(v:V):V:=match Nat.beq n 136 with
 |true=>v.Mt
 |false=>v
def EZ(v:V)(n:Nat)(σ:St)(K:KV):Prop:=v.yB fun i=>sE σ.cs i fun c fs=>ku (pH c n) (BH (look fs n) fun v=>K v.Cg σ)
noncomputable def V.E0:V→Bool
 |.bi b=>(match b with|.int=>true|_=>false)
 |_=>false
noncomputable def zy(o:V)(n:Nat):Bool:=match Nat.beq n 196 with
 |true=>o.E0
 |false=>false
def Ci(vs:List V)(K:V→Prop):Prop:=match vs with
 |[]=>False
 |v::l=>v.Cc fun b=>lF l fun m=>m.Cd fun n=>Nat.beq n 122=true∧b.length≤4∧K (.int (num b))
def DI(ih:Ih):E→St→KV→Prop
 |.none _=>fun σ K=>K .none σ
 |.bool b _=>fun σ K=>K (.bool b) σ
 |.int i _=>fun σ K=>K (.int i) σ
 |.str n _=>fun σ K=>K (.str n) σ
 |.zf b _=>fun σ K=>K (.bytes b) σ
 |.loc n _=>fun σ K=>(match look σ.vars n with|some v=>K v σ|none=>False)
 |.uu n _=>fun σ K=>Nat.beq n d6=true∧Cf σ.cs 1 fun o=>(match o with|.cell v=>K v σ|_=>False)
 |.gX n _=>fun σ K=>(match globT n with|some v=>K v σ|none=>False)
 |.bin o l r _=>fun σ K=>ih.e l σ fun a σ=>ih.e r σ fun b σ=>Ip o a b fun v=>K v σ
 |.neg e _=>fun σ K=>ih.e e σ fun a σ=>(match a with|.int x=>K (.int (-x)) σ|_=>False)
 |.cmp o l r _=>fun σ K=>ih.e l σ fun a σ=>ih.e r σ fun b σ=>(match zk σ.cs o a b with|some c=>K (.bool c.val) σ|none=>False)
 |.and es _=>fun σ K=>EV ih.e es σ K
 |.not e _=>fun σ K=>ih.e e σ fun a σ=>(match truth σ.cs a with|some c=>Hs σ.cs a∧K (.bool (!c.val)) σ|none=>False)
 |.qK t a b _=>fun σ K=>∃I:KV,ih.t t σ (fun σ=>ih.e a σ I) (fun σ=>ih.e b σ I)∧∀v σ',I v σ'→K v σ'
 |.att e n _=>fun σ K=>ih.e e σ fun v σ=>EZ v n σ K
 |.sub e i _=>fun σ K=>ih.e e σ fun a σ=>ih.e i σ fun i σ=>Iq σ a i K
 |.slc e lo hi _ _=>fun σ K=>ih.e e σ fun a σ=>ih.e lo σ fun lo σ=>ih.e hi σ fun hi σ=>Ir σ a lo hi K
 |.abs=>fun σ K=>K .none σ
 |.tup es _=>fun σ K=>yC ih.e es σ fun vs σ=>K (.tup vs) σ
 |.lst es _=>fun σ K=>yC ih.e es σ fun vs σ=>K (.ref σ.cs.length) (eg σ (.list vs))
 |.qL _=>fun σ K=>K (.ref σ.cs.length) (eg σ .d0)
 |.call f es _=>fun σ K=>ih.e f σ fun f σ=>yC ih.e es σ fun vs σ=>DH w lv X f vs σ K
 |.sA o n es _ _=>fun σ K=>ih.e o σ fun o σ=>(match zy o n with
  |true=>yC ih.e es σ fun vs σ=>Ci vs fun v=>K v σ
  |false=>(match zx σ.cs o n with|some m=>yC ih.e es σ fun vs σ=>EX w lv X m o vs σ K|none=>False))
 |.or _ _=>fun a_ b_=>False
def stepT(ih:Ih):E→St→KU→KU→Prop
 |.not e _=>fun σ Kt Kf=>ih.t e σ Kf Kt
 |.and es _=>fun σ Kt Kf=>EU ih.t es σ Kt Kf
 |.or es _=>fun σ Kt Kf=>Ms ih.t es σ Kt Kf
 |.qK t a b _=>fun σ Kt Kf=>ih.t t σ (fun σ=>ih.t a σ Kt Kf) (fun σ=>ih.t b σ Kt Kf)
 |.cmp o l r _=>fun σ Kt Kf=>ih.e l σ fun a σ=>ih.e r σ fun b σ=>(match zk σ.cs o a b with|some c=>c.go (Kt σ) (Kf σ)|none=>False)
 |e=>fun σ Kt Kf=>ih.e e σ fun v σ=>(match truth σ.cs v with|some c=>Hs σ.cs v∧c.go (Kt σ) (Kf σ)|none=>False)
noncomputable def vc:Nat→Ih
 |0=>⟨fun a_ b_ c_=>False,fun a_ b_ c_ d_=>False⟩
 |n+1=>⟨DI w lv X (vc n),stepT (vc n)⟩
def Cj(ih:E→St→KV→Prop):E→V→St→KU→Prop
 |.loc n _,v,σ,K=>K ⟨fu σ.vars n v,σ.cs⟩
 |.att e n _,v,σ,K=>ih e σ fun o σ=>o.yB fun r=>sE σ.cs r fun c fs=>ku (pH c n&&Nat.ble fs.length 900) (K ⟨σ.vars,σ.cs.set r (.inst c (fu fs n (EY n v)))⟩)
 |.sub e i _,v,σ,K=>ih e σ fun o σ=>ih i σ fun i σ=>o.yB fun r=>nC σ r i v K
 |.slc e lo hi _ _,v,σ,K=>ih e σ fun o σ=>ih lo σ fun lo σ=>ih hi σ fun hi σ=>o.yB fun r=>lo.gh fun x=>hi.gh fun y=>v.Cc fun c=>KS σ.cs r fun b=>0≤x∧x≤b.length∧x≤y∧b.length+c.length≤1000000∧K ⟨σ.vars,σ.cs.set r (.ba (b.take x.toNat++c++b.drop y.toNat))⟩
 |_,_,_,_=>False
noncomputable def Es.len:Es→Nat
 |.nil=>0
 |.cons _ es=>es.len+1
def sG(ih:E→St→KV→Prop):Es→List V→St→KU→Prop
 |.nil,[],σ,K=>K σ
 |.cons t ts,v::vs,σ,K=>Cj ih t v σ fun σ=>sG ih ts vs σ K
 |_,_,_,_=>False
def zz(ih:E→St→KV→Prop)(ts:Es)(v:V)(σ:St)(K:KU):Prop:=v.Mn fun vs=>ku (Nat.beq ts.len vs.length) (sG ih ts vs σ K)
def asg(ih:E→St→KV→Prop):E→V→St→KU→Prop
 |.tup ts _,v,σ,K=>zz ih ts v σ K
 |t,v,σ,K=>Cj ih t v σ K
inductive Fl|next|brk|cont|ret(v:V)
noncomputable abbrev KF:=Fl→St→Prop
noncomputable def ky(vars:List (Nat×V)):List (Nat×V)→List (Option V)
 |[]=>[]
 |p::l=>look vars p.1::ky vars l
noncomputable def Iz(κ:List Nat):List (Nat×V)→List (Option V)
 |[]=>[]
 |p::l=>some (p.2.eP κ)::Iz κ l
noncomputable def Mu:List (Nat×V)→List (Option V)
 |[]=>[]
 |p::l=>some p.2::Mu l
theorem ky.hd(h:p::l=q::m):p=q∧l=m:=⟨(List.cons.inj h).1,(List.cons.inj h).2⟩
def sI(κ:List Nat)(vars l:List (Nat×V)):Prop:=ky vars l=Iz κ l
def nF(κ:List Nat):List Nat→Prop
 |[]=>True
 |k::l=>κ[k]?=some k∧nF κ l
def eD:List O→Prop
 |[]=>True
 |o::l=>(match o with|.rows l (some (p,_))=>p∈aj l|_=>True)∧eD l
def nG(vars l:List (Nat×V)):Prop:=ky vars l=Mu l
theorem nG.cons{vars l:List (Nat×V)}{n:Nat}{v:V}(h:look vars n=some v)(t:nG vars l):nG vars ((n,v)::l):=(congr (av List.cons h) t:look vars n::ky vars l=some v::Mu l)
def Norm(Kp κ:List Nat)(σ σ':St):Prop:=(σ'.cs=σ.cs∧nG σ.vars σ'.vars)∨bW κ=true∧eD σ.cs∧nF κ Kp∧sI κ σ.vars σ'.vars∧vT κ (eC σ.cs) κ σ'.cs
def IA(o:ze)(a b:V)(K:V→Prop):Prop:=match o with
 |.add=>a.gh fun x=>b.gh fun y=>K (.int (x+y))
 |_=>False
theorem zA{K:V→Prop}(h:IA o a b K):∃x y,o=.add∧a=.int x∧b=.int y∧K (.int (x+y)):=by
 induction o with
 |add=>exact aa (V.b8 h) fun x e1 h=>aa (V.b8 h) fun y e2 h=>gm x y rfl e1 e2 h
 |_=>exact h.elim
def IB(ih:E→St→KV→Prop)(o:ze)(e:E):E→St→KU→Prop
 |.att x n _,σ,K=>ih x σ fun r σ=>EZ r n σ fun a σ=>ih e σ fun b σ=>IA o a b fun v=>r.yB fun r=>sE σ.cs r fun c fs=>ku (pH c n&&Nat.ble fs.length 900) (K ⟨σ.vars,σ.cs.set r (.inst c (fu fs n v))⟩)
 |_,_,_=>False
def IC(ih:E→St→KV→Prop):E→St→KU→Prop
 |.sub e i _,σ,K=>ih e σ fun o σ=>ih i σ fun i σ=>o.yB fun r=>i.gh fun x=>zm σ.cs r fun l p=>x=p∧x∈aj l∧l.length≤100000∧K ⟨σ.vars,σ.cs.set r (.rows (kg l x) none)⟩
 |.slc e lo hi _ _,σ,K=>ih e σ fun o σ=>ih lo σ fun lo σ=>ih hi σ fun hi σ=>o.yB fun r=>lo.gh fun x=>hi.NN (KS σ.cs r fun b=>0≤x∧b.length≤1000000∧K ⟨σ.vars,σ.cs.set r (.ba (b.take x.toNat))⟩)
 |_,_,_=>False
noncomputable def vZ(Kp:List Nat)(nx:St→Prop)(K:KF):KF:=fun fl zB=>match fl with
 |.next=>∃κ fU,Norm Kp κ zB fU∧nx fU
 |.cont=>∃κ fU,Norm Kp κ zB fU∧nx fU
 |.brk=>False
 |.ret v=>K (.ret v) zB
def turns(Kp:List Nat)(n:Nat)(It:Nat→V→Prop)(G:St→Prop)(σ:St)(body:V→St→KF→Prop)(K:KF):Prop:=∃I:Nat→St→Prop,I 0 σ∧(∀k σ',k≤n→I k σ'→G σ')∧(∀k v σ',k<n→It k v→I k σ'→body v σ' (vZ Kp (I (k+1)) K))∧∀σ',I n σ'→K .next σ'
noncomputable def mS(e:E):Bool:=match e with
 |.call f es _=>(match f with
  |.gX g _=>(match es with
   |.nil=>false
   |.cons _ es=>(match es with
    |.nil=>Nat.beq g 193
    |.cons _ es=>(match es with
     |.nil=>Nat.beq g 193
     |.cons _ _=>false)))
  |_=>false)
 |_=>false
def E4(Kp:List Nat)(body:V→St→KF→Prop)(K:KF):V→St→Prop
 |.int x,σ=> -1000000≤x∧x≤1000000∧turns Kp x.toNat (fun k v=>v=.int k) (fun a_=>True) σ body K
 |_,_=>False
def E5(Kp:List Nat)(body:V→St→KF→Prop)(K:KF):V→V→St→Prop
 |.int x,.int y,σ=>0≤x∧x≤1000000∧-1000000≤y∧y≤1000000∧turns Kp (y-x).toNat (fun k v=>v=.int (x+k)) (fun a_=>True) σ body K
 |_,_,_=>False
def forR(Kp:List Nat)(ih:E→St→KV→Prop)(body:List Nat→V→St→KF→Prop)(σ:St)(K:KF):E→Prop
 |.call _ (.cons a .nil) _=>ih a σ fun a σ=>E4 Kp (body Kp) K a σ
 |.call _ (.cons a (.cons b .nil)) _=>ih a σ fun a σ=>ih b σ fun b σ=>E5 Kp (body Kp) K a b σ
 |_=>False
def forL(Kp:List Nat)(body:List Nat→V→St→KF→Prop)(σ:St)(K:KF):V→Prop
 |.ref r=>(match σ.cs[r]? with
  |some .d0=>K .next σ
  |some o=>(match o.items with
   |some vs=>vs.length≤100000∧turns (r::Kp) vs.length (fun k v=>vs[k]?=some v) (fun σ=>σ.cs[r]?=some o) σ (body (r::Kp)) K
   |none=>False)
  |none=>False)
 |_=>False
def E6(Kp:List Nat)(ih:E→St→KV→Prop)(t:E)(body:List Nat→St→KF→Prop)(i:E)(σ:St)(K:KF):Prop:=
 match mS i with
 |true=>forR Kp ih (fun Kp v σ K=>asg ih t v σ fun σ=>body Kp σ K) σ K i
 |false=>ih i σ fun v σ=>forL Kp (fun Kp v σ K=>asg ih t v σ fun σ=>body Kp σ K) σ K v
noncomputable def jn(Kp:List Nat)(I:St→Prop)(K:KF):KF:=fun fl σ=>match fl with
 |.next=>∃κ σ',Norm Kp κ σ σ'∧I σ'
 |.brk=>K .brk σ
 |.cont=>K .cont σ
 |.ret v=>K (.ret v) σ
def DJ(Kp:List Nat)(ih:E→St→KV→Prop)(Mv:E→St→KU→KU→Prop)(fj:List Nat→Ss→St→KF→Prop):S→St→KF→Prop
 |.expr e _=>fun σ K=>ih e σ fun a_ σ=>K .next σ
 |.asg t e _=>fun σ K=>ih e σ fun v σ=>asg ih t v σ (K .next)
 |.aug t o e _=>fun σ K=>IB ih o e t σ (K .next)
 |.ret e _=>fun σ K=>ih e σ fun v σ=>v.dn fun v=>σ.dn (K (.ret v))
 |.qK t a b _=>fun σ K=>Mv t σ (fun σ=>fj Kp a σ K) (fun σ=>fj Kp b σ K)
 |.Ca t a b _=>fun σ K=>∃I:St→Prop,Mv t σ (fun σ=>fj Kp a σ (jn Kp I K)) (fun σ=>fj Kp b σ (jn Kp I K))∧∀σ',I σ'→K .next σ'
 |.DE t a _=>fun σ K=>∃I:Nat→St→Prop,(∃n,I n σ)∧∀n σ',I n σ'→Mv t σ' (fun σ'=>fj Kp a σ' (vZ Kp (fun fU=>∃m,m<n∧I m fU) K)) (K .next)
 |.xC t i a _=>fun σ K=>E6 Kp ih t (fun Kp=>fj Kp a) i σ K
 |.del t _=>fun σ K=>IC ih t σ (K .next)
 |.cont _=>fun σ K=>K .cont σ
 |.raise e _=>fun σ a_=>(match e with
  |.call (.gX g _) (.cons (.str _ _) .nil) _=>(Nat.beq g 6&&Nat.ble 22 lv)=true∧X σ
  |_=>False)
noncomputable def ID(g:St→KF→Prop)(K:KF):KF:=fun fl σ=>match fl with
 |.next=>g σ K
 |.cont=>K .cont σ
 |.brk=>K .brk σ
 |.ret v=>K (.ret v) σ
def qU(f:S→St→KF→Prop):Ss→St→KF→Prop
 |.nil=>fun σ K=>σ.dn (K .next)
 |.cons s ss=>fun σ K=>σ.dn fun σ=>f s σ (ID (qU f ss) K)
def IE(n:Nat)(Kp:List Nat)(fj:List Nat→Ss→St→KF→Prop):S→St→KF→Prop:=DJ lv X Kp (vc w lv X n).e (vc w lv X n).t fj
def v5:Nat→List Nat→Ss→St→KF→Prop
 |0=>fun a_ b_ c_ d_=>False
 |n+1=>fun Kp=>qU (IE w lv X n Kp (v5 n))
end
set_option tactic.hygienic false
section
variable{w:World}{c:Cx w}{lv:Nat}{σ:St}{ρ:List Addr}{P:Led}{s:Shared}
abbrev E7(c:Cx w)(t:Sem Value)(σ:St)(ρ:List Addr)(P:Led)(K:V→Prop)(s:Shared):Prop:=Wp c t (fun x s'=>∃r,aK c σ ρ P s'∧VR (c.T P) ρ r x∧K r) s
theorem eE{K:V→Prop}(h:wpAny (model Prog w) c.A t (fun x s'=>∃r,aK c σ ρ P s'∧VR (c.T P) ρ r x∧K r) c.E s):E7 c t σ ρ P K s:=af h
theorem v7(b:aD):b.toArray.size=b.length:=by simp
theorem K0{a b:V}{k:Int→Int→Prop}(va:VR (c.T P) ρ a x)(vb:VR (c.T P) ρ b y)(h:a.gh fun x=>b.gh fun y=>k x y):∃i j t u,x=.int i t∧y=.int j u∧k i j:=by refine aa (V.b8 h) fun i az h1=>?_;clear h;subst az;refine aa (V.b8 h1) fun j az h2=>?_;clear h1;subst az;refine bg va.int_inv fun t az=>?_;clear va;subst az;refine bg vb.int_inv fun u az=>?_;clear vb;subst az;exact jF i j t u rfl rfl h2
theorem Ck{o:ze}{K:V→Prop}(R:aK c σ ρ P s)(va:VR (c.T P) ρ a x)(vb:VR (c.T P) ρ b y)(h:Ip o a b K):E7 c (binaryOp o.d x y) σ ρ P K s:=by
 induction o with
 |add=>
  rcases V.pG h with⟨i,rfl,h'⟩|⟨i,rfl,h'⟩|⟨i,rfl,h'⟩
  ·refine aa (V.b8 h') fun j az h2=>?_;clear h h';subst az;refine bg va.int_inv fun t az=>?_;clear va;subst az;refine bg vb.int_inv fun u az=>?_;clear vb;subst az;exact eE (add_int (bY _ (R.toks _) .int h2))
  ·refine aa (V.gZ h') fun j az h2=>?_;clear h h';subst az;refine bg va.bQ fun t az=>?_;clear va;subst az;refine bg vb.bQ fun u az=>?_;clear vb;subst az;exact eE (KBy.add_bytes (by rw[v7,v7];exact aX h2.1 (by decide)) fun t' k=>bY (.bytes _) (R.toks _) (by rw[List.append_toArray];exact .bytes) h2.2)
  ·refine aa (V.mR h') fun j az t_=>cg t_ fun k h1 h2 h3=>?_;clear h h';subst az;refine bg va.str_inv fun t az=>?_;clear va;subst az;refine bg vb.str_inv fun u az=>?_;clear vb;subst az;exact eE (add_str (fun t' tk=>bY (.str k) (R.toks _) (h1▸.str) h3) (by refine sizeLine_eq.symm▸?_;exact ar 75574411104148262212866192 rfl h2))
 |sub=>refine fN (K0 va vb h) fun i j t u t_=>fc t_ fun IF Cm h=>?_;clear t_ va;subst IF;clear vb;subst Cm;exact eE (sub_int (bY _ (R.toks _) .int h))
 |mul=>
  rcases V.pG h with⟨i,rfl,h'⟩|⟨i,rfl,h'⟩|⟨i,rfl,h'⟩
  ·refine aa (V.b8 h') fun j az h2=>?_;clear h h';subst az;refine bg va.int_inv fun t az=>?_;clear va;subst az;refine bg vb.int_inv fun u az=>?_;clear vb;subst az;exact eE (mul_int (bY _ (R.toks _) .int h2.2) h2.1)
  ·refine iy (V.b8 h') fun j az h1 h2 h3 t_=>fz t_ fun h4 h5=>?_;clear h h';subst az;refine bg va.bQ fun t az=>?_;clear va;subst az;refine bg vb.int_inv fun u az=>?_;clear vb;subst az;exact eE (bytes_mul_any (fun e=>by rw[e]at h1;exact tF h1) (aZ 290257944312834259 rfl h2) (aZ 72073430372622297155 rfl h3) h4 fun t' k=>bY (.bytes _) (R.toks _) .bytes h5)
  ·exact h'.elim
 |mod=>obtain⟨i,j,t,u,rfl,rfl,h1,h2⟩:=K0 va vb h;exact eE (mod_int' (Int.ne_of_gt h1) (bY _ (R.toks _) .int ((Int.fmod_eq_emod_of_nonneg _ (Int.le_of_lt h1)).symm▸h2)))
 |fdiv=>obtain⟨i,j,t,u,rfl,rfl,h1,h2,h3⟩:=K0 va vb h;refine eE (floordiv_int (Int.ne_of_gt h1) (bY _ (R.toks _) .int ((Int.fdiv_eq_ediv_of_nonneg _ (Int.le_of_lt h1)).symm▸h3)) (Or.inl (PyProof.noPylong_of_log2 ?_)));exact(Nat.log2_lt (Int.natAbs_ne_zero.mpr (Int.ne_of_gt h1))).mpr (Nat.lt_of_lt_of_le (show j.natAbs<2^32 from Int.ofNat_lt.mp (by refine(Int.natAbs_of_nonneg (Int.le_of_lt h1)).symm▸?_;exact h2)) (Nat.pow_le_pow_right (by decide) (by decide)))
 |pow=>obtain⟨i,j,t,u,rfl,rfl,h1,h2,h3,h4⟩:=K0 va vb h;exact eE (pow_int_small h1 h2 h3 (bY _ (R.toks _) .int h4))
noncomputable def jq:Option Int→PyData
 |none=>.none
 |some i=>.int i
theorem g8:∀l:List (Option Int),PyData.canLayAll0 (l.map jq)=true
 |[]=>tt
 |none::r=>g8 r
 |some _::r=>g8 r
theorem iY:∀l:List (Option Int),PyData.depthAll (l.map jq)=0
 |[]=>rfl
 |none::r=>(Nat.zero_max _).trans (iY r)
 |some _::r=>(Nat.zero_max _).trans (iY r)
theorem qV:∀l l':List (Option Int),PyData.eqvAll (l.map jq) (l'.map jq)=(l==l')
 |[],[]=>by simp[PyData.eqvAll]
 |[],_::_=>by simp[PyData.eqvAll]
 |_::_,[]=>by simp[PyData.eqvAll]
 |a::r,b::t=>by have ih:=qV r t;rw[List.map_cons,List.map_cons,PyData.eqvAll,ih];refine(?_:_=(a==b&&r==t));congr 1;induction a<;>cases b<;>simp[jq,PyData.eqv]
theorem nH{l:List (Option Int)}:∀{vs:List Value},bT (c.T P) ρ (l.map V.opt) vs→ReadsAll h vs (l.map jq) []:=by
 induction l with
 |nil=>intro vs hv;refine hv.nil_inv.symm▸?_;exact .nil
 |cons a l ih=>
  intro vs hv;refine ao hv.cons_inv fun y ys aQ h1 h2=>?_;clear hv;subst aQ;induction a with
  |none=>obtain rfl:=h1.none_inv;exact .cons (as:=[]) .none (ih h2)
  |some i=>refine bg (VR.int_inv h1) fun t az=>?_;subst az;exact .cons (as:=[]) (.int _ _) (ih h2)
theorem Cn{o o':O}{l l':List (Option Int)}{i j:Nat}{a b:Addr}(Ok:c.Ok lv)(R:aK c σ ρ P s)(ha:ρ[i]?=some a)(hb:ρ[j]?=some b)(hi:σ.cs[i]?=some o)(hj:σ.cs[j]?=some o')(ei:o.items=some (l.map V.opt))(ej:o'.items=some (l'.map V.opt)){Q:dB}:(Q (.bool (l==l')) s→Wp c (compareOp .Eq (.ref a) (.ref b)) Q s)∧(Q (.bool (!(l==l'))) s→Wp c (compareOp .NotEq (.ref a) (.ref b)) Q s):=by
 refine bp R fun m news led R=>ao (R.at hi) fun a' la h1 h2 h3=>ao (R.at hj) fun b' lb h4 h5 h6=>?_;rw[ha]at h1;have q_:=bf h1;clear h1;subst q_;rw[hb]at h4;have q_:=bf h4;clear h4;subst q_;refine ao (h2.items ei) fun oa bw aQ qW hv=>?_;clear h2;subst aQ;obtain⟨na,qa⟩:=qW;refine ao (h5.items ej) fun ob O6 aQ qW zc=>?_;clear h5;subst aQ;obtain⟨nb,qb⟩:=qW;have ra:Reads s.heap (.ref a) (.list (l.map jq)) [a]:=.list (h3 _ aS).1 (by rw[qa]) (by rw[qa]) (nH hv);have rb:Reads s.heap (.ref b) (.list (l'.map jq)) [b]:=.list (h6 _ aS).1 (by rw[qb]) (by rw[qb]) (nH zc);have sh:∀l:List (Option Int),SeqAt.shaped (.list (l.map jq))=true:=fun l=>by simp[SeqAt.shaped,PyData.canLay0,PyData.depth,g8,iY]
 have hu:c.A.units+64<cLine:=by have:=Ok.un;exact((ar 7606260450433196371078217886796177 rfl this):c.un+3+64<9900)
 have ev:PyData.eqv (.list (l.map jq)) (.list (l'.map jq))=(l==l'):=by rw[PyData.eqv];exact qV l l'
 exact⟨fun h=>af (eq_dataH ra rb (sh _) (sh _) hu (by rw[ev];exact h)),fun h=>af (ne_dataH ra rb (sh _) (sh _) hu (by rw[ev];exact h))⟩
theorem kA(l:List Int):l.map V.int=(l.map some).map V.opt:=by refine List.map_map.symm▸?_;rfl
theorem kC(l l':List Int):(l.map some==l'.map some)=(l==l'):=by
 by_cases h:l=l'
 ·subst h;simp
 ·refine(beq_eq_false_iff_ne.mpr h).symm▸?_;rw[beq_eq_false_iff_ne];exact fun e=>h ((List.map_inj_right fun a_ b_ q=>bf q).mp e)
theorem E8{o o':O}{k:dW}(h:Mk o o'=some k):∃l l':List (Option Int),o.items=some (l.map V.opt)∧o'.items=some (l'.map V.opt)∧k.val=(l==l'):=by
 induction o with
 |opts l=>induction o' with
  |opts _=>have q_:=bf h;clear h;subst q_;exact aJ _ _ rfl rfl rfl
  |«ints» _=>have q_:=bf h;clear h;subst q_;exact aJ _ _ rfl (av some (kA _)) rfl
  |list vs=>induction vs using List.casesOn with
   |nil=>have q_:=bf h;clear h;subst q_;exact aJ _ [] rfl rfl rfl
   |cons _ _=>exact nomatch(show(none:Option dW)=some k from h)
  |_=>exact nomatch(show(none:Option dW)=some k from h)
 |«ints» l=>induction o' with
  |«ints» _=>have q_:=bf h;clear h;subst q_;exact aJ _ _ (av some (kA _)) (av some (kA _)) ((kC _ _).symm)
  |list vs=>induction vs using List.casesOn with
   |nil=>have q_:=bf h;clear h;subst q_;exact aJ _ [] (av some (kA _)) rfl ((kC l []).symm)
   |cons _ _=>exact nomatch(show(none:Option dW)=some k from h)
  |_=>exact nomatch(show(none:Option dW)=some k from h)
 |_=>exact nomatch(show(none:Option dW)=some k from h)
theorem uC:∀{ws:List V} {xs ys:List Value} {k:dW},xF vs ws=some k→bT (c.T P) ρ vs xs→bT (c.T P) ρ ws ys→∃l l':List (Option Int),ReadsAll h xs (l.map jq) []∧ReadsAll h ys (l'.map jq) []∧k.val=(l==l'):=by
 have no:∀{k:dW} {G:Prop},(none:Option dW)=some k→G:=fun h=>nomatch h;induction vs with
 |nil=>
  intro ws xs ys k e hx hy;induction ws using List.casesOn with
  |nil=>have q_:=bf e;clear e;subst q_;refine hx.nil_inv.symm▸?_;refine hy.nil_inv.symm▸?_;exact aJ [] [] .nil .nil rfl
  |cons _ _=>exact no e
 |cons v vs ih=>
  intro ws xs ys k e hx hy;induction ws using List.casesOn with
  |nil=>exact no e
  |cons v2 ws=>
   refine ao hx.cons_inv fun y1 QG aQ h1 h2=>?_;clear hx;subst aQ;refine ao hy.cons_inv fun y2 O7 aQ h3 h4=>?_;clear hy;subst aQ;induction v using V.casesOn with
   |int x=>induction v2 using V.casesOn with
    |int y=>
     have e:(match xF vs ws with|some c=>some (dW.b ((x==y)&&c.val))|none=>none)=some k:=e;generalize e':xF vs ws=y_ at e⊢;induction y_ with
     |none=>exact no e
     |some k'=>refine bg h1.int_inv fun t az=>?_;subst az;refine bg h3.int_inv fun t' az=>?_;subst az;refine ao (ih e' h2 h4) fun l l' g1 g2 g3=>?_;obtain rfl:=bf e;refine aJ (some x::l) (some y::l') (.cons (as:=[]) (.int _ _) g1) (.cons (as:=[]) (.int _ _) g2) (((g3.symm▸?_):((x==y)&&k'.val)=(some x==some y&&l==l')));congr 1
    |_=>exact no e
   |_=>exact no e
theorem Co{k:dW}(Ok:c.Ok lv)(R:aK c σ ρ P s)(va:VR (c.T P) ρ (.tup vs) x)(vb:VR (c.T P) ρ (.tup ws) y)(e:xF vs ws=some k){Q:dB}:(Q (.bool k.val) s→Wp c (compareOp .Eq x y) Q s)∧(Q (.bool (!k.val)) s→Wp c (compareOp .NotEq x y) Q s):=by
 refine bp R fun m news led R=>bS va.fb fun a bw ea az ta ra=>bS vb.fb fun b QH eb aQ tb rb=>?_;clear va vb;subst az;subst aQ;refine ao (uC (h:=s.heap) e ra rb) fun l l' h1 h2 h3=>?_;have ra:=reads_tuple_at (R.lB Ok ta) rfl rfl h1;have rb:=reads_tuple_at (R.lB Ok tb) rfl rfl h2;have sh:∀l:List (Option Int),SeqAt.shaped (.tuple (l.map jq))=true:=fun l=>by simp[SeqAt.shaped,PyData.canLay0,PyData.depth,g8,iY]
 have hu:c.A.units+64<cLine:=by have:=Ok.un;exact((ar 7606260450433196371078217886796177 rfl this):c.un+3+64<9900)
 have ev:PyData.eqv (.tuple (l.map jq)) (.tuple (l'.map jq))=(l==l'):=by rw[PyData.eqv];exact qV l l'
 exact⟨fun h=>af (eq_dataH ra rb (sh _) (sh _) hu (by refine ev.symm▸?_;refine h3▸?_;exact h)),fun h=>af (ne_dataH ra rb (sh _) (sh _) hu (by refine ev.symm▸?_;refine h3▸?_;exact h))⟩
theorem bP{α:Type}{x:α}{G:Prop}(h:(none:Option α)=some x):G:=nomatch h
theorem xJ{k:dW}(e:(match cT n&&cT m with|true=>(match Nat.beq n m with|true=>some dW.tt|false=>some dW.ff)|false=>none)=some k):(nm n==nm m)=k.val:=by
 cases hn:cT n&&cT m with
 |false=>rw[hn]at e;exact nS e
 |true=>
  rw[hn]at e;obtain⟨h1,h2⟩:=Bool.and_eq_true_iff.mp hn;cases q:Nat.beq n m with
  |true=>rw[q]at e;obtain rfl:=bf e;refine(cY q).symm▸?_;exact beq_self_eq_true _
  |false=>rw[q]at e;obtain rfl:=bf e;exact beq_eq_false_iff_ne.mpr fun z=>by rw[gY h1 h2 z,Nat.beq_refl]at q;exact tF q
theorem Cp{a b:V}{x y:Value}{k:dW}(va:VR (c.T P) ρ a x)(vb:VR (c.T P) ρ b y)(e:Im a b=some k){Q:dB}:(Q (.bool k.val) s→Wp c (compareOp .Eq x y) Q s)∧(Q (.bool (!k.val)) s→Wp c (compareOp .NotEq x y) Q s):=by
 induction a using V.casesOn with
 |none=>
  refine va.none_inv.symm▸?_;induction b using V.casesOn with
  |none=>have q_:=bf e;clear e;subst q_;refine vb.none_inv.symm▸?_;exact⟨fun h=>af (EqNone.eq_none_none h),fun h=>af (EqNone.ne_none_none h)⟩
  |int _=>have q_:=bf e;clear e;subst q_;refine bg vb.int_inv fun t az=>?_;clear vb;subst az;exact⟨fun h=>af (EqNone.eq_none_int h),fun h=>af (EqNone.ne_none_int h)⟩
  |_=>exact bP e
 |int _=>
  refine bg va.int_inv fun t az=>?_;clear va;subst az;induction b using V.casesOn with
  |none=>have q_:=bf e;clear e;subst q_;refine vb.none_inv.symm▸?_;exact⟨fun h=>af (EqNone.eq_int_none h),fun h=>af (EqNone.ne_int_none h)⟩
  |int _=>have q_:=bf e;clear e;subst q_;refine bg vb.int_inv fun u az=>?_;clear vb;subst az;exact⟨fun h=>af (eq_int h),fun h=>af (ne_int h)⟩
  |_=>exact bP e
 |bytes _=>
  refine bg va.bQ fun t az=>?_;clear va;subst az;induction b using V.casesOn with
  |bytes _=>have q_:=bf e;clear e;subst q_;refine bg vb.bQ fun u az=>?_;clear vb;subst az;exact⟨fun h=>af (eq_bytes h),fun h=>af (ne_bytes h)⟩
  |_=>exact bP e
 |str n=>
  refine bg va.str_inv fun t az=>?_;clear va;subst az;induction b using V.casesOn with
  |str m=>refine bg vb.str_inv fun u az=>?_;clear vb;subst az;have key:=xJ e;exact⟨fun h=>af (eq_str (by refine key.symm▸?_;exact h)),fun h=>af (ne_str (by rw[bne,key];exact h))⟩
  |_=>exact bP e
 |_=>exact bP e
theorem zC{a b:V}{x y:Value}{k:dW}(Ok:c.Ok lv)(R:aK c σ ρ P s)(va:VR (c.T P) ρ a x)(vb:VR (c.T P) ρ b y)(e:Ml σ.cs a b=some k){Q:dB}:(Q (.bool k.val) s→Wp c (compareOp .Eq x y) Q s)∧(Q (.bool (!k.val)) s→Wp c (compareOp .NotEq x y) Q s):=by
 induction a using V.casesOn with
 |tup vs=>induction b using V.casesOn with
  |tup ws=>exact Co Ok R va vb e
  |_=>exact bP e
 |ref i=>induction b using V.casesOn with
  |ref j=>
   refine aa va.bI fun _ ra aQ=>?_;clear va;subst aQ;refine aa vb.bI fun _ rb aQ=>?_;clear vb;subst aQ;have e:(match σ.cs[i]? with|some o=>(match σ.cs[j]? with|some o'=>Mk o o'|none=>none)|none=>none)=some k:=e;generalize hi:σ.cs[i]?=y_ at e⊢;induction y_ with
   |none=>exact bP e
   |some o=>
    generalize hj:σ.cs[j]?=y_ at e⊢;induction y_ with
    |none=>exact bP e
    |some o'=>exact ao (E8 e) fun l l' h1 h2 h3=>h3.symm▸(Cn Ok R ra rb hi hj h1 h2)
  |_=>exact bP e
 |_=>exact Cp va vb e
theorem pJ{k:dW}(va:VR (c.T P) ρ a x)(e:isNone a=some k){Q:dB}:(Q (.bool k.val) s→Wp c (compareOp .Is x .none) Q s)∧(Q (.bool (!k.val)) s→Wp c (compareOp .IsNot x .none) Q s):=by
 have key:(x==Value.none)=k.val∧PySem.plainIs x .none=true:=by induction va using VR.casesOn<;>first|(have q_:=bf e;clear e;subst q_;exact⟨rfl,tt⟩)|cases e
 exact⟨fun h=>af (is_none (by refine key.1.symm▸?_;exact h)),fun h=>af (wpAny_isNot_plain key.2 (by refine key.1.symm▸?_;exact h))⟩
theorem cw.get{T:dK}{ps:List (PySem.Str×Value)}{kvs:List (Nat×V)}(h:cw T ρ ps kvs){n:Nat}(hn:cT n=true):(∀v,look kvs n=some v→∃x,valueAt ps (nm n)=some x∧VR T ρ v x)∧(look kvs n=none→valueAt ps (nm n)=none):=by
 induction h with
 |nil=>exact⟨fun v h=>bP h,fun a_=>rfl⟩
 |@cons k v x ps kvs hk hv r ih=>
  unfold valueAt;by_cases e:k=n
  ·clear hn ih;subst e;rw[gB rfl,List.find?_cons,decide_eq_true rfl];exact⟨fun u h=>bf h▸(ah v rfl hv),fun h=>by exact sN h⟩
  ·have ne:nm k≠nm n:=fun z=>e (gY hk hn z);rw[fS e,List.find?_cons,decide_eq_false ne];exact ih
theorem cU.get{T:dK}{ps:List (Int×Value)}{kvs:List (Int×V)}(h:cU T ρ ps kvs){n:Int}:(∀v,aV kvs n=some v→∃x,valueAt ps n=some x∧VR T ρ v x)∧(aV kvs n=none→valueAt ps n=none):=by
 induction h with
 |nil=>exact⟨fun v h=>bP h,fun a_=>rfl⟩
 |@cons k v x ps kvs hv r ih=>
  unfold aV valueAt;refine(List.find?_cons).symm▸?_;refine(List.find?_cons).symm▸?_;by_cases e:k=n
  ·clear ih;subst e;rw[decide_eq_true rfl];exact⟨fun u h=>bf h▸(ah v rfl hv),fun h=>by exact sN h⟩
  ·rw[decide_eq_false e];exact ih
theorem cU.keys{ps:List (Int×Value)}{kvs:List (Int×V)}(h:cU T ρ ps kvs):ps.map (·.1)=kvs.map (·.1):=h.rec (motive:=fun ps kvs a_=>ps.map (·.1)=kvs.map (·.1)) rfl fun a_ b_ ih=>av (_::·) ih
theorem cU.length{ps:List (Int×Value)}{kvs:List (Int×V)}(h:cU T ρ ps kvs):ps.length=kvs.length:=h.rec (motive:=fun ps kvs a_=>ps.length=kvs.length) rfl fun a_ b_ ih=>av Nat.succ ih
theorem cw.length{ps:List (PySem.Str×Value)}{kvs:List (Nat×V)}(h:cw T ρ ps kvs):ps.length=kvs.length:=h.rec (motive:=fun ps kvs a_=>ps.length=kvs.length) rfl fun a_ b_ c_ ih=>av Nat.succ ih
theorem cF.keys{ps:List (Int×Value)}(r:cF ρ h ps l tl):ps.map (·.1)=aj l:=r.rec (motive:=fun ps l a_ b_=>ps.map (·.1)=aj l) rfl (fun a_ b_ c_ d_ ih=>av (_::·) ih) fun a_ b_ c_ ih=>av (_::·) ih
theorem Cs{T:dK}{n:Nat}(hn:cT n=true){vs:List V}:∀{xs:List Value} {k:dW},bT T ρ vs xs→sD n vs=some k→∃ys,StrsAre xs ys∧(ys.any fun y=>y==nm n)=k.val:=by
 induction vs with
 |nil=>intro xs k h e;refine h.nil_inv.symm▸?_;have q_:=bf e;clear e;subst q_;exact ah [] .nil rfl
 |cons v vs ih=>
  intro xs k h e;refine ao h.cons_inv fun x xs aQ h1 h2=>?_;clear h;subst aQ;induction v using V.casesOn with
  |str m=>
   refine bg h1.str_inv fun t az=>?_;subst az;have e:(match sD n vs with|some c=>(match cT m with|true=>(match Nat.beq n m with|true=>some dW.tt|false=>some c)|false=>none)|none=>none)=some k:=e;generalize e':sD n vs=y_ at e⊢;induction y_ with
   |none=>exact bP e
   |some k'=>
    refine aa (ih h2 e') fun ys g1 g2=>ah (_::ys) (.cons _ _ g1) (List.any_cons.symm▸?_);refine g2.symm▸?_;have e:(match cT m with|true=>(match Nat.beq n m with|true=>some dW.tt|false=>some k')|false=>none)=some k:=e;generalize hm:cT m=y_ at e⊢;induction y_ with
    |false=>exact bP e
    |true=>
     generalize q:Nat.beq n m=y_ at e⊢;induction y_ with
     |true=>obtain rfl:=bf e;rw[cY q,beq_self_eq_true];rfl
     |false=>
      obtain rfl:=bf e;have ne:(nm m==nm n)=false:=beq_eq_false_iff_ne.mpr fun z=>by rw[gY hm hn z,Nat.beq_refl]at q;exact tF q
      rw[ne,Bool.false_or]
  |_=>exact bP e
theorem xK{x:Value}{n:Nat}{t:Tok}{vs:List V}{k:dW}(Ok:c.Ok lv)(R:aK c σ ρ P s)(vb:VR (c.T P) ρ (.tup vs) x)(e:zj n vs=some k){Q:dB}:(Q (.bool k.val) s→Wp c (compareOp .In (.str (nm n) t) x) Q s)∧(Q (.bool (!k.val)) s→Wp c (compareOp .NotIn (.str (nm n) t) x) Q s):=by
 refine bp R fun m news led R=>bS vb.fb fun _ _ _ ew tb rb=>?_;clear vb;subst ew;unfold zj at e;generalize hn:cT n=y_ at e⊢;induction y_ with
 |false=>exact bP e
 |true=>refine aa (Cs hn rb e) fun ys h1 h2=>?_;have it:IsTup s.heap _ _:=e7 _ (R.lB Ok tb) rfl _ rfl;exact⟨fun h=>af (in_tuple_strs it h1 (by refine h2.symm▸?_;exact h)),fun h=>af (notin_tuple_strs it h1 (by refine h2.symm▸?_;exact h))⟩
theorem qY{K:Type}[DecidableEq K]{knd:KeyKind Prog w K}{key:Value}{kk:K}{ps:List (K×Value)}{a:Addr}{ob:Obj}{r:Led}{b:Bool}(N:News c.g c.L s.heap ((a,ob)::r))(ht:cc knd a ps ob)(hk:knd.is kk key)(hb:(valueAt ps kk).isSome=b){Q:dB}:((∀tk,Q (.bool b) {s with toks:=tk})→Wp c (compareOp .In key (.ref a)) Q s)∧((∀tk,Q (.bool (!b)) {s with toks:=tk})→Wp c (compareOp .NotIn key (.ref a)) Q s):=⟨fun h=>af (L_ (knd:=knd) N aS ht hk (by refine hb.symm▸?_;exact h _)),fun h=>af (B' (knd:=knd) N aS ht hk (by refine hb.symm▸?_;exact h _))⟩
theorem contains_keys{ps:List (Int×Value)}{x:Int}:(valueAt ps x).isSome=(ps.map (·.1)).contains x:=by
 generalize q:valueAt ps x=y_;induction y_ with
 |none=>
  have:=c8.mp q;generalize z:(ps.map (·.1)).contains x=y_;induction y_ with
  |false=>rfl
  |true=>exact absurd (List.contains_iff_mem.mp z) this
 |some v=>
  generalize z:(ps.map (·.1)).contains x=y_;induction y_ with
  |true=>rfl
  |false=>exact bP ((c8.mpr fun hm=>by rw[List.contains_iff_mem.mpr hm]at z;exact tF z).symm.trans q)
theorem zD{a b:V}{x y:Value}{k:dW}(Ok:c.Ok lv)(R:aK c σ ρ P s)(va:VR (c.T P) ρ a x)(vb:VR (c.T P) ρ b y)(e:Mm σ.cs a b=some k){Q:dB}:((∀tk,Q (.bool k.val) {s with toks:=tk})→Wp c (compareOp .In x y) Q s)∧((∀tk,Q (.bool (!k.val)) {s with toks:=tk})→Wp c (compareOp .NotIn x y) Q s):=by
 induction b using V.casesOn with
 |tup vs=>induction a using V.casesOn with
  |str n=>refine bg va.str_inv fun t az=>?_;clear va;subst az;have:=xK (t:=t) Ok R vb e (Q:=Q);exact⟨fun h=>this.1 (h s.toks),fun h=>this.2 (h s.toks)⟩
  |_=>exact bP e
 |ref i=>
  refine aa vb.bI fun _ rb aQ=>?_;clear vb;subst aQ;refine bp R fun m news led R=>?_;have e:(match σ.cs[i]? with|some o=>Io o a|none=>none)=some k:=e;generalize ho:σ.cs[i]?=y_ at e⊢;induction y_ with
  |none=>exact bP e
  |some o=>
   refine aa (R.eS rb ho) fun l h2 h3=>?_;induction a using V.casesOn with
   |str n=>
    refine bg va.str_inv fun t az=>?_;clear va;subst az;have e:(match o.pS with|some kvs=>(match cT n with|true=>(match look kvs n with|some _=>some dW.tt|none=>some dW.ff)|false=>none)|none=>none)=some k:=e;generalize hk:o.pS=y_ at e⊢;induction y_ with
    |none=>exact bP e
    |some kvs=>
     generalize hn:cT n=y_ at e⊢;induction y_ with
     |false=>exact bP e
     |true=>
      refine ao (h2.pS hk) fun ob ps aQ ht hp=>?_;clear h2;subst aQ;have g:=hp.get hn;have e:(match look kvs n with|some _=>some dW.tt|none=>some dW.ff)=some k:=e;generalize hv:look kvs n=y_ at e⊢;induction y_ with
      |some v=>obtain rfl:=bf e;refine aa (g.1 v hv) fun x h _=>?_;exact qY h3 ht (strKind_is _ _ _ _) (by refine h.symm▸?_;rfl)
      |none=>obtain rfl:=bf e;exact qY h3 ht (strKind_is _ _ _ _) (by refine(g.2 hv).symm▸?_;rfl)
   |int x=>
    refine bg va.int_inv fun t az=>?_;clear va;subst az;induction o with
    |rows l hd=>have q_:=bf e;clear e;subst q_;refine bS h2 fun ob ps tl ew ht hr=>?_;clear h2;subst ew;exact qY h3 ht (intKind_is _ _ _ _) (by refine contains_keys.symm▸?_;refine hr.keys.symm▸?_;rfl)
    |d0=>have q_:=bf e;clear e;subst q_;refine cg h2 fun ob az ht _=>?_;clear h2;subst az;exact qY h3 ht (intKind_is _ _ _ _) rfl
    |_=>exact bP e
   |_=>exact bP e
 |_=>exact bP e
theorem qZ{k:dW}{f:Int→Int→Bool}(R:aK c σ ρ P s)(va:VR (c.T P) ρ a x)(vb:VR (c.T P) ρ b y)(e:(xG a b).map (fun p=>dW.b (f p.1 p.2))=some k)(h:∀i j u v,x=.int i u→y=.int j v→∀Q:dB,Q (.bool (f i j)) s→Wp c t Q s):Wp c t (fun v s'=>v=.bool k.val∧aK c σ ρ P s') s:=by refine aa (Option.map_eq_some_iff.mp e) fun p e1 aQ=>?_;clear e;subst aQ;refine fz (Cb e1) fun fQ az=>?_;clear e1;subst fQ;subst az;refine bg va.int_inv fun u az=>?_;clear va;subst az;refine bg vb.int_inv fun v az=>?_;clear vb;subst az;exact h p.1 p.2 u v rfl rfl _ ⟨rfl,R⟩
theorem v8{o:EK}{k:dW}(Ok:c.Ok lv)(R:aK c σ ρ P s)(va:VR (c.T P) ρ a x)(vb:VR (c.T P) ρ b y)(e:zk σ.cs o a b=some k):
  Wp c (compareOp o.d x y) (fun v s'=>v=.bool k.val∧aK c σ ρ P s') s:=by
 induction o with
 |eq=>exact(zC Ok R va vb e).1 ⟨rfl,R⟩
 |ne=>
  refine aa (Option.map_eq_some_iff.mp e) fun k' e' aQ=>?_;clear e;subst aQ
  rw[dW.neg_val]
  exact(zC Ok R va vb e').2 ⟨rfl,R⟩
 |is=>
  induction b using V.casesOn<;>first|exact nomatch(show(none:Option dW)=some k from e)|skip
  refine vb.none_inv.symm▸?_;exact(pJ va e).1 ⟨rfl,R⟩
 |Hq=>
  induction b using V.casesOn<;>first|exact nomatch(show(none:Option dW)=some k from e)|skip
  refine aa (Option.map_eq_some_iff.mp (show(isNone a).map dW.neg=some k from e)) fun k' e' aQ=>?_;clear e;subst aQ
  rw[dW.neg_val,vb.none_inv];exact(pJ va e').2 ⟨rfl,R⟩
 |Mi=>exact(zD Ok R va vb e).1 fun a_=>⟨rfl,R.toks _⟩
 |EL=>
  refine aa (Option.map_eq_some_iff.mp e) fun k' e' aQ=>?_;clear e;subst aQ
  rw[dW.neg_val]
  exact(zD Ok R va vb e').2 fun a_=>⟨rfl,R.toks _⟩
 |lt=>exact qZ (f:=fun x y=>decide (x<y)) R va vb e fun i j u v h1 h2 Q q=>by clear va;subst h1;clear vb;subst h2;exact af (lt_int q)
 |le=>exact qZ (f:=fun x y=>decide (x≤y)) R va vb e fun i j u v h1 h2 Q q=>by clear va;subst h1;clear vb;subst h2;exact af (le_int q)
 |gt=>exact qZ (f:=fun x y=>decide (x>y)) R va vb e fun i j u v h1 h2 Q q=>by clear va;subst h1;clear vb;subst h2;exact af (gt_int q)
 |ge=>exact qZ (f:=fun x y=>decide (x≥y)) R va vb e fun i j u v h1 h2 Q q=>by clear va;subst h1;clear vb;subst h2;exact af (ge_int q)
theorem nI{k:dW}(R:aK c σ ρ P s)(va:VR (c.T P) ρ a x)(e:truth σ.cs a=some k)(hz:Hs σ.cs a):Wp c (truthy x) (fun b s'=>b=k.val∧aK c σ ρ P s') s:=by
 induction a using V.casesOn with
 |none=>have q_:=bf e;clear e;subst q_;refine va.none_inv.symm▸?_;exact af (truthy_none ⟨rfl,R⟩)
 |bool b=>have q_:=bf e;clear e;subst q_;refine va.bool_inv.symm▸?_;exact af (wpAny_truthy_bool ⟨rfl,R⟩)
 |int x=>have q_:=bf e;clear e;subst q_;refine bg va.int_inv fun t az=>?_;clear va;subst az;exact af (truthy_int ⟨rfl,R⟩)
 |ref i=>
  refine aa va.bI fun a rb aQ=>?_;clear va;subst aQ;have R0:=R;refine bp R fun m news led R=>?_;unfold truth at e;unfold Hs at hz;dsimp only at e hz;generalize ho:σ.cs[i]?=y_;induction y_ with
  |none=>rw[ho]at e;exact bP e
  |some o=>
   rw[ho]at e hz;refine aa (R.eS rb ho) fun l' h2 h3=>?_;induction o with
   |«ints» l=>have q_:=bf e;clear e;subst q_;refine ao h2 fun oa bw aQ qa hv=>?_;clear h2;subst aQ;have hl:bw.size=l.length:=hv.len.trans (bK _);refine af (wpAny_truthy_list (items:=bw) (bY _ ((h3 _ aS).1) qa.cls qa.dat) (BR (Nat.le_of_eq hl) hz) ⟨((((show bw.isEmpty=decide (bw.size=0) from rfl).symm▸?_):(!bw.isEmpty)= !l.isEmpty)),R0.toks _⟩);refine hl.symm▸?_;induction l using List.casesOn<;>rfl
   |gf l=>have q_:=bf e;clear e;subst q_;refine ao h2 fun ob ps aQ ht hp=>?_;clear h2;subst aQ;have hl:ps.length=l.length:=hp.length.trans (bK _);refine af (truthy_T (knd:=mG w) h3 aS ht (aX (Nat.le_of_eq hl) hz) ⟨((?_:(!ps.isEmpty)= !l.isEmpty)),R0.toks _⟩);induction ps using List.casesOn<;>cases l<;>first|rfl|cases hl
   |_=>exact bP e
 |_=>exact bP e
end
set_option tactic.hygienic true
section
variable(w:World)
theorem iE(h:ec l n=true):n∈l:=by
 induction l with
 |nil=>exact fT h
 |cons m l ih=>
  have h:(match Nat.beq m n with|true=>true|false=>ec l n)=true:=h;generalize q:Nat.beq m n=y_ at h;induction y_ with
  |true=>rw[cY q];exact aS
  |false=>exact cO _ (ih h)
noncomputable def uD:List Nat:=[186,362,497,567,595,673]
theorem o3{α β:Type}{f g:α→β}{l:List α}(h:l.map f=l.map g){a:α}(m:a∈l):f a=g a:=List.map_inj_left.mp h a m
theorem kE{α:Type}{f:α→Bool}{l:List α}(h:l.all f=true){a:α}(m:a∈l):f a=true:=List.all_eq_true.mp h a m
theorem E9:(attrL.map fun p=>p.2.map fun n=>findIn (hd.heap_39 w.params) (.ref p.1) (nm n))=attrL.map fun p=>p.2.map fun a_=>some none:=by kernel_rfl
theorem E_:(sF.map fun p=>p.2.map fun q=>findIn (hd.heap_39 w.params) (.ref p.1) (nm q.1))=sF.map fun p=>p.2.map fun q=>some (some (.ref q.2)):=by kernel_rfl
theorem Fb:(attrL.all fun p=>p.2.all cT)=true:=by kernel_rfl
theorem Ct:(sF.all fun p=>p.2.all fun q=>cT q.1)=true:=by kernel_rfl
theorem Fc:(sF.all fun p=>p.2.all fun q=>isFn (hd.heap_39 w.params) (.ref q.2))=true:=by kernel_rfl
theorem Fd(n:PySem.Str):(uD.all fun c=>plainGet (hd.heap_39 w.params) c n)=true:=by kernel_rfl
theorem Fe:(uD.all fun c=>hasDictIn (hd.heap_39 w.params) c)=true:=by kernel_rfl
theorem Ff:(uD.all fun c=>plainOver (hd.heap_39 w.params) c)=true:=by kernel_rfl
theorem Fg:(uD.all fun c=>makesIn (hd.heap_39 w.params) c)=true:=by kernel_rfl
theorem Fh:(uD.map fun c=>findIn (hd.heap_39 w.params) (.ref c) (PySem.Str.ofString "__setattr__"))=uD.map fun a_=>some (some (.builtin "object.__setattr__")):=by kernel_rfl
theorem Fi:(jz.map fun q=>findIn (hd.heap_39 w.params) (.ref q.1) (PySem.Str.ofString "__init__"))=jz.map fun q=>some (some (.ref q.2)):=by kernel_rfl
theorem IG:(jz.all fun q=>isFn (hd.heap_39 w.params) (.ref q.2))=true:=by kernel_rfl
theorem IH:(jz.all fun q=>keepIn (hd.heap_39 w.params) (.ref q.1))=true:=by kernel_rfl
theorem Fj:(mn.all fun a=>keepIn (hd.heap_39 w.params) (.ref a))=true:=by kernel_rfl
end
set_option tactic.hygienic false
section
variable(w:World)
set_option tactic.hygienic true in
theorem xM(h:n∈vY L c):∃p∈L,p.1=c∧n∈p.2:=by
 induction L with
 |nil=>cases h
 |cons q L ih=>
  have h:n∈(match Nat.beq q.1 c with|true=>q.2|false=>vY L c):=h;generalize e:Nat.beq q.1 c=y_ at h;induction y_ with
  |true=>exact bY q aS (cY e) h
  |false=>refine aa (ih h) fun p h1 h2=>?_;exact ah p (cO _ h1) h2
set_option tactic.hygienic true in
theorem lG(h:jy L n=some f):(n,f)∈L:=by
 induction L with
 |nil=>exact nS h
 |cons q L ih=>
  have h:(match Nat.beq q.1 n with|true=>some q.2|false=>jy L n)=some f:=h;generalize e:Nat.beq q.1 n=y_ at h;induction y_ with
  |true=>have q_:=bf h;clear h;subst q_;refine(cY e)▸?_;exact aS
  |false=>exact cO _ (ih h)
set_option tactic.hygienic true in
theorem xN(h:q∈vX L c):∃p∈L,p.1=c∧q∈p.2:=by
 induction L with
 |nil=>cases h
 |cons r L ih=>
  have h:q∈(match Nat.beq r.1 c with|true=>r.2|false=>vX L c):=h;generalize e:Nat.beq r.1 c=y_ at h;induction y_ with
  |true=>exact bY _ aS (cY e) h
  |false=>refine aa (ih h) fun p h1 h2=>?_;exact ah p (cO _ h1) h2
structure kF(c:Addr):Prop where
 gt:∀n,plainGet (hd.heap_39 w.params) c n=true
 NO:hasDictIn (hd.heap_39 w.params) c=true
 po:plainOver (hd.heap_39 w.params) c=true
 sa:findIn (hd.heap_39 w.params) (.ref c) (PySem.Str.ofString "__setattr__")=some (some (.builtin "object.__setattr__"))
 O8:makesIn (hd.heap_39 w.params) c=true
theorem zE(h:c∈uD):kF w c:=⟨fun n=>kE (Fd w n) h,kE (Fe w) h,kE (Ff w) h,o3 (Fh w) h,kE (Fg w) h⟩
theorem v9(h:pH c n=true):cT n=true∧kF w c∧findIn (hd.heap_39 w.params) (.ref c) (nm n)=some none:=by refine cg (xM (iE h)) fun p hp aQ hn=>?_;clear h;subst aQ;exact aN (kE (kE Fb hp) hn) (zE w (List.mem_map_of_mem (f:=Prod.fst) hp)) (o3 (o3 (E9 w) hp) hn)
theorem Cu(h:zw c n=some f):cT n=true∧kF w c∧findIn (hd.heap_39 w.params) (.ref c) (nm n)=some (some (.ref f))∧isFn (hd.heap_39 w.params) (.ref f)=true:=by refine cg (xN (lG h)) fun p hp aQ hn=>?_;clear h;subst aQ;exact cZ (kE (kE Ct hp) hn) (zE w (List.mem_map_of_mem (f:=Prod.fst) hp)) (o3 (o3 (E_ w) hp) hn) (kE (kE (Fc w) hp) hn)
theorem Cv(h:jy jz c=some f):kF w c∧findIn (hd.heap_39 w.params) (.ref c) (PySem.Str.ofString "__init__")=some (some (.ref f))∧isFn (hd.heap_39 w.params) (.ref f)=true:=
 have h:=lG h
 (aN (zE w (List.mem_map_of_mem (f:=Prod.fst) h)) (o3 (Fi w) h) (kE (IG w) h))
end
section
variable{w:World}{c:Cx w}{lv:Nat}{σ:St}{ρ:List Addr}{P:Led}{s:Shared}
set_option tactic.hygienic true in
theorem bU.get(h:bU w T ρ es fs)(hn:cT n=true):(∀u,look fs n=some u→∃v,getL (nm n) es=some (some v)∧VR T ρ u v)∧(look fs n=none→getL (nm n) es=some none):=by
 induction h with
 |nil=>exact⟨fun u h=>(nomatch h),fun a_=>rfl⟩
 |cons hk hv r ih=>
  rename_i t v k x es fs;by_cases e:k=n
  ·clear hn ih;subst e;have hs:(Value.str (nm k) t).isStr (nm k)=true:=beq_self_eq_true (nm k);rw[gB rfl];refine⟨fun u h=>(by have q_:=bf h;clear h;subst q_;refine ah v ?_ hv;refine(?_:(match List.find? (fun x=>x.key.isStr (nm k)) (_::es)with|some e=>some (some e.val)|none=>_)=_);rw[List.find?_cons,show(Value.str (nm k) t).isStr (nm k)=true from hs]),fun h=>nomatch h⟩
  ·have hs:(Value.str (nm k) t).isStr (nm n)=false:=beq_eq_false_iff_ne.mpr fun z=>e (gY hk hn z);have key:getL (nm n) (⟨PyData.keyHash w.params (nm k),.str (nm k) t,v⟩::es)=getL (nm n) es:=by unfold getL;refine(List.find?_cons).symm▸?_;simp only[hs,List.any_cons];rfl
   rw[fS e,key];exact ih
set_option tactic.hygienic true in
theorem bU.put(h:bU w T ρ es fs)(hn:cT n=true)(hv:VR T ρ u v)(t:Tok):bU w T ρ (putL (nm n) (PyData.keyHash w.params (nm n)) (.str (nm n) t) v es) (fu fs n u):=by
 induction h with
 |nil=>exact .cons hn hv .nil
 |cons hk zc r ih=>
  rename_i t' v' k x es fs;by_cases e:k=n
  ·clear hn ih;subst e;have hs:(Value.str (nm k) t').isStr (nm k)=true:=beq_self_eq_true (nm k);exact(qO rfl).symm▸((((aB hs).symm▸(.cons hk hv r)):bU w T ρ (if(Value.str (nm k) t').isStr (nm k)=true then _ else _) _))
  ·have hs:(Value.str (nm k) t').isStr (nm n)=false:=beq_eq_false_iff_ne.mpr fun z=>e (gY hk hn z);exact(qP e).symm▸((((aH (hs▸cz)).symm▸(.cons hk zc ih)):bU w T ρ (if(Value.str (nm k) t').isStr (nm n)=true then _ else _) _))
theorem bU.length{es:List DictEntry}{fs:List (Nat×V)}(h:bU w T ρ es fs):es.length=fs.length:=by
 induction h with
 |nil=>rfl
 |cons _ _ _ ih=>refine cB.symm▸?_;refine cB.symm▸?_;exact ih.symm▸rfl
theorem sJ(l:List (Nat×V))(n:Nat)(v:V):(fu l n v).length≤l.length+1:=by
 induction l with
 |nil=>exact bF _
 |cons p l ih=>
  refine(?_:(match Nat.beq p.1 n with|true=>(n,v)::l|false=>p::fu l n v).length≤l.length+1+1);generalize Nat.beq p.1 n=b_;induction b_ using Bool.casesOn with
  |false=>exact Nat.succ_le_succ ih
  |true=>exact Nat.le_succ _
set_option tactic.hygienic true in
theorem VR.handed(h:VR T ρ u v):handedIn v=true:=by
 cases h with
 |oi h=>rename_i c;cases c with
  |none=>refine(VR.none_inv h).symm▸?_;exact tt
  |some i=>refine bg (VR.int_inv h) fun t az=>?_;clear h;subst az;exact tt
 |bi=>rename_i b;induction b<;>first|rfl|decide+kernel
 |_=>rfl
theorem q0(N:News g L h ((a,instObj C d)::(d,dictOf es n)::r)):W.InstAt h a (instObj C d) C (some (dictOf es n)):=⟨(N _ aS).1,rfl,tt,(N _ (cO _ aS)).1⟩
theorem Fm(Ok:c.Ok lv)(R:aK c σ ρ P s)(vx:VR (c.T P) ρ (.ref i) x)(hi:σ.cs[i]?=some (.inst C fs))(ht:pH C n=true)(hu:look fs n=some u):Wp c (getAttr x (nm n) b) (fun v s'=>aK c σ ρ P s'∧VR (c.T P) ρ u v) s:=by refine aa vx.bI fun a hr aQ=>?_;clear vx;subst aQ;have R0:=R;refine bp R fun m news led R=>bV (R.vS hr hi) fun l r pL N _ _=>?_;refine de pL fun d es k ew hf=>?_;clear pL;subst ew;exact fc (v9 w ht) fun hn cf II=>aa ((hf.get hn).1 u hu) fun v hv vr=>af (get_own R.F Ok.X (q0 N) (cf.gt _) cf.NO II tt hv vr.handed ⟨R0.toks _,vr⟩)
theorem zF{fs:List (Nat×V)}(Ok:c.Ok lv)(R:aK c σ ρ P s)(vx:VR (c.T P) ρ (.ref i) x)(vv:VR (c.T P) ρ u v)(hi:σ.cs[i]?=some (.inst C fs))(ht:(pH C n&&Nat.ble fs.length 900)=true):Wp c (setAttr x (nm n) v) (fun a_ s'=>aK c ⟨σ.vars,σ.cs.set i (.inst C (fu fs n u))⟩ ρ P s') s:=by
 obtain⟨ht,hl⟩:=Bool.and_eq_true_iff.mp ht;refine aa vx.bI fun a hr aQ=>?_;clear vx;subst aQ;refine bp R fun m news led R=>bV (R.vS hr hi) fun l r pL N D back=>?_;refine de pL fun d es k ew hf=>?_;clear pL;subst ew;refine fc (v9 w ht) fun hn cf II=>?_;have D':=D;simp only[adr,List.cons_append,List.nil_append,List.map_cons,cu,bD,not_or]at D';have NP:=hf.put hn vv (s.toks+1)
 have hg:(getL (nm n) es).isSome=true:=by
  generalize q:look fs n=y_;induction y_ with
  |none=>refine((hf.get hn).2 q).symm▸?_;exact tt
  |some u'=>refine aa ((hf.get hn).1 u' q) fun v' h _=>?_;refine h.symm▸?_;exact tt
 have hz:(putL (nm n) (PyData.keyHash w.params (nm n)) (.str (nm n) (s.toks+1)) v es).length≤1000:=by exact NP.length.symm▸(aX (sJ fs n u) (aX (Nat.succ_le_succ (bZ hl)) (bZ tt)))
 refine af (set_dict (dx:=d) R.F Ok.X N (q0 N) rfl cf.sa cf.po (by unfold takerIn;refine II.symm▸?_;rfl) cf.NO hg rfl (.tail (fun e=>D'.1.1 e) (.head fun p hp e=>D'.2.1 (by refine(show p.1=d from e)▸?_;exact List.mem_map_of_mem hp))) hz fun h' F' N'=>?_);exact back _ _ [(a,instObj C d),(d,dictOf _ _)] (aN rfl rfl rfl) F' N' D (dF d _ _ rfl NP)
end
set_option tactic.hygienic true
section
variable(w:World)
def IJ(n:Nat)(v:V):Prop:=∃x,nsIn (hd.heap_39 w.params) mainGlobals (nm n)=some (some x)∧∀(T:dK) (ρ:List Addr),(∀a o,(hd.heap_39 w.params).lookup a=some o→T a o)→VR T ρ v x
theorem nJ(h:look L n=some v):(n,v)∈L:=by
 induction L with
 |nil=>exact nS h
 |cons q L ih=>
  have h:(match Nat.beq q.1 n with|true=>some q.2|false=>look L n)=some v:=h;generalize e:Nat.beq q.1 n=y_ at h;induction y_ with
  |true=>have q_:=bf h;clear h;subst q_;rw[←cY e];exact aS
  |false=>exact cO _ (ih h)
theorem xO(h:nE L n=some v):(n,v)∈L:=by
 induction L with
 |nil=>exact nS h
 |cons q L ih=>
  have h:(match Nat.beq q.1 n with|true=>some q.2|false=>nE L n)=some v:=h;generalize e:Nat.beq q.1 n=y_ at h;induction y_ with
  |true=>have q_:=bf h;clear h;subst q_;rw[←cY e];exact aS
  |false=>exact cO _ (ih h)
noncomputable def gI:List (Nat×Int×Nat):=[(35,931071618,307),(36,3007000,309),(37,32,311),(38,24,313),(39,4294967296,315),(71,0,700)]
noncomputable def gT:List (Nat×Nat):=[(7,108),(8,113),(9,120),(10,127),(11,186),(12,362),(13,497),(14,567),(15,595),(16,673),(17,684),(18,691),(19,698),(20,705),(21,712),(22,719),(23,726),(24,733),(25,740),(26,747),(27,754),(28,761)]
noncomputable def gM(n:Nat):Option (Option Value):=nsIn (hd.heap_39 w.params) mainGlobals (nm n)
theorem Fn:(gI.map fun p=>gM w p.1)=gI.map fun p=>some (some (.int p.2.1 p.2.2)):=by kernel_rfl
theorem Fo:(gT.map fun p=>gM w p.1)=gT.map fun p=>some (some (.ref p.2)):=by kernel_rfl
theorem Fp:(kx.map fun p=>gM w p.1)=kx.map fun a_=>some none:=by kernel_rfl
theorem IK:(kx.all fun p=>cT p.1)=true:=by kernel_rfl
theorem IL:gM w 40=some (some (.ref 102)):=by kernel_rfl
theorem IM:gM w 41=some (some (.ref 103)):=by kernel_rfl
theorem Cw(h:look vW n=some v):IJ w n v:=by
 have h:(n,v)∈(gI.map fun p=>(p.1,V.int p.2.1))++([(40,V.tup [.int 23063,.int 625341585]),(41,.tup [.str 110,.str 111,.str 68,.str 96])]++gT.map fun p=>(p.1,V.top p.2)):=nJ h;rcases cC.mp h with h|h
 ·refine aa (bO.mp h) fun p hp e=>?_;cases e;exact ah _ (o3 (Fn w) hp) (fun a_ b_ c_=>.int)
 ·rcases cC.mp h with h|h
  ·rcases bD.mp h with e|h
   ·cases e;exact ah _ (IL w) (fun T ρ h=>.tup (h 102 _ (by rfl)) (.cons .int (.cons .int .nil)))
   ·cases c9.mp h;exact ah _ (IM w) (fun T ρ h=>.tup (h 103 _ (by rfl)) (.cons (.str (n:=110)) (.cons (.str (n:=111)) (.cons (.str (n:=68)) (.cons (.str (n:=96)) .nil)))))
  ·refine aa (bO.mp h) fun p hp e=>?_;cases e;exact ah _ (o3 (Fo w) hp) (fun a_ b_ c_=>.top)
theorem Fq:bootBuiltins (PySem.Str.ofString "len")=some (Bi.val .len):=by boot_fast
theorem Fs:bootBuiltins (PySem.Str.ofString "range")=some (Bi.val .range):=by boot_fast
theorem Ft:bootBuiltins (PySem.Str.ofString "sorted")=some (Bi.val .sorted):=by boot_fast
theorem Fu:bootBuiltins (PySem.Str.ofString "list")=some (Bi.val .list):=by boot_fast
theorem Fv:bootBuiltins (PySem.Str.ofString "dict")=some (Bi.val .dict):=by boot_fast
theorem Fw:bootBuiltins (PySem.Str.ofString "bytes")=some (Bi.val .bytes):=by boot_fast
theorem Fx:bootBuiltins (PySem.Str.ofString "bytearray")=some (Bi.val .bytearray):=by decide+kernel
theorem Fy:bootBuiltins (PySem.Str.ofString "max")=some (Bi.val .max):=by boot_fast
theorem Fz:bootBuiltins (PySem.Str.ofString "int")=some (Bi.val .int):=by boot_fast
theorem zG{b:Bi}(h:nE kx n=some b):nsIn (hd.heap_39 w.params) mainGlobals (nm n)=some none∧bootBuiltins (nm n)=some b.val∧cT n=true:=by have h:=xO h;refine aN (o3 (Fp w) h) ?_ (kE IK h);exact o3 (f:=fun p=>bootBuiltins (nm p.1)) (g:=fun p=>some (Bi.val p.2)) (l:=kx) (by simp only[kx,List.map_cons,List.map_nil];exact congr (av List.cons Fq) (congr (av List.cons Fs) (congr (av List.cons Ft) (congr (av List.cons Fu) (congr (av List.cons Fv) (congr (av List.cons Fw) (congr (av List.cons Fx) (congr (av List.cons Fy) (congr (av List.cons Fz) rfl))))))))) h
end
section
variable{w:World}{c:Cx w}{lv:Nat}{σ:St}{ρ:List Addr}{P:Led}{s:Shared}
theorem bT.q5(h:bT T ρ [v] xs):∃x,xs=[x]∧VR T ρ v x:=by refine ao h.cons_inv fun x ys aQ h1 h2=>?_;clear h;subst aQ;rw[h2.nil_inv];exact ah x rfl h1
theorem bT.Mw(vy:VR T ρ v y):∀{xs:List Value},bT T ρ vs xs→bT T ρ (vs++[v]) (xs++[y]):=by
 induction vs with
 |nil=>intro xs h;rw[h.nil_inv];exact .cons vy .nil
 |cons u vs ih=>intro xs h;refine ao h.cons_inv fun z zs aQ g1 g2=>?_;clear h;subst aQ;exact .cons g1 (ih g2)
theorem gE{xs:List Int}(h:IntsAre ys xs):bT T ρ (xs.map .int) ys:=by
 induction h with
 |nil=>exact .nil
 |cons _ _ _ ih=>exact .cons .int ih
theorem kG{xs:List Int}:∀{ys:List Value},bT T ρ (xs.map .int) ys→IntsAre ys xs:=by
 induction xs with
 |nil=>intro ys h;rw[h.nil_inv];exact .nil
 |cons x xs ih=>intro ys h;refine ao h.cons_inv fun y ys aQ h1 h2=>?_;clear h;subst aQ;refine bg h1.int_inv fun t az=>?_;clear h1;subst az;exact .cons _ _ (ih h2)
theorem bT.at:∀{xs:List Value} {k:Nat} {v:V},bT T ρ vs xs→vs[k]?=some v→∃x,xs[k]?=some x∧VR T ρ v x:=by
 induction vs with
 |nil=>intro xs k v _ h;simp at h
 |cons u vs ih=>
  intro xs k v h hk;refine ao h.cons_inv fun y ys aQ h1 h2=>?_;clear h;subst aQ;induction k using Nat.casesAuxOn with
  |zero=>rw[List.getElem?_cons_zero]at hk;have q_:=bf hk;clear hk;subst q_;exact ah y rfl h1
  |succ k=>rw[List.getElem?_cons_succ]at hk⊢;exact ih h2 hk
theorem Rep.split{m:PySem.Str→Option Value}(R:Rep c σ ρ P s m news led)(hi:σ.cs[i]?=some o):∃a l r,ρ[i]?=some a∧OR w (c.T P) ρ a o l∧News c.g c.L s.heap (l++r)∧(adr (l++r)).Nodup∧∀b o' l' ob lb,OR w (c.T P) (ρ++[b]) a o' l'→OR w (c.T P) (ρ++[b]) b ob lb→l.Perm (l'++lb)→aK c ⟨σ.vars,σ.cs.set i o'++[ob]⟩ (ρ++[b]) P s:=by refine br (R.C.focus hi) fun a l r h1 h2 h3 h4=>?_;have pm:news.Perm (l++(r++P)):=R.M.trans (by rw[←bC];exact h3.append_right P);refine aR a l (r++P) h1 h2 (gC R.N pm) (qo (d9 pm R.D) (fun b o' l' ob lb ho hb hp=>?_));have up:∀(j:Nat) (d:Addr),ρ[j]?=some d→(ρ++[b])[j]?=some d:=fun j d h=>fC h;refine aa (h4 _ up o' l' ho) fun bx c1 c2=>⟨m,news,bx++lb,R.gens,R.drawn,R.os,fun p hp=>up _ _ (R.K p hp),R.F,R.N,R.D,(R.M.trans (List.Perm.append_right P ((h3.trans ((hp.append_right r).trans ?_)).trans (c2.symm.append_right lb)))),aP.snoc hb c1,R.Vr.mono (fun a_ b_ h=>h) up⟩;rw[bC,bC];exact List.perm_append_comm.append_left l'
theorem Rep.NQ{m:PySem.Str→Option Value}(R:Rep c σ ρ P s m news led)(hr:ρ[i]?=some a)(hi:σ.cs[i]?=some o):∃l r,OR w (c.T P) ρ a o l∧News c.g c.L s.heap (l++r)∧(adr (l++r)).Nodup∧∀b o' l' ob lb,OR w (c.T P) (ρ++[b]) a o' l'→OR w (c.T P) (ρ++[b]) b ob lb→l.Perm (l'++lb)→aK c ⟨σ.vars,σ.cs.set i o'++[ob]⟩ (ρ++[b]) P s:=by exact de (R.split hi) fun a l r h1 h=>bf (h1.symm.trans hr)▸(vI l r h)
theorem pM{ps:List (Int×Value)}{tl:Led}(h:cF ρ none ps l tl):∀{x:Int} {xs:List Int},aV l x=some xs→(ps.map (·.1)).Nodup→∃b ys ob q6,valueAt ps x=some (.ref b)∧tl.Perm (q6++[(b,ob)])∧gg ob (List.toArray ys)∧IntsAre ys xs∧cF (ρ++[b]) (some (x,ρ.length)) ps l q6:=by
 induction h with
 |nil=>intro x xs h;exact nS h
 |hole h=>exact nS h
 |own hn ho hi r ih=>
  rename_i p b ys n K1 ps l tl;intro x xs hx hd;rw[List.map_cons,cu]at hd;by_cases e:p=x
  ·subst e;have e1:aV ((p,K1)::l) p=some K1:=by unfold aV;rw[List.find?_cons];simp
   rw[e1]at hx;have q_:=bf hx;clear hx;subst q_;refine aY b ys n tl (by unfold valueAt;rw[List.find?_cons];simp) (List.perm_append_comm (l₁:=[_])) ho (qo hi (.hole rfl (by simp) ?_))
   have off:∀{ps:List (Int×Value)} {l:List (Int×List Int)} {tl:Led},cF ρ none ps l tl→p∉ps.map (·.1)→cF (ρ++[b]) (some (p,ρ.length)) ps l tl:=by
    intro ps l tl h;induction h with
    |nil=>intro _;exact .nil
    |hole h=>exact nS h
    |own _ ho hi r ih=>intro hm;rw[List.map_cons,bD,not_or]at hm;exact .own (fun j e=>hm.1 (by injection e with e;injection e)) ho hi (ih hm.2)
   exact off r hd.1
  ·have e1:aV ((p,K1)::l) x=aV l x:=by unfold aV;rw[List.find?_cons];simp[e]
   rw[e1]at hx;refine m3 (ih hx hd.2) fun b' O9 n' q6 h1 h2 O_ h3 h4=>aY b' O9 n' ((b,n)::q6) ?_ (h2.cons _) O_ (qo h3 (.own (fun j z=>e (by injection z with z;injection z with z _;exact z.symm)) ho hi h4));unfold valueAt at h1⊢;rw[List.find?_cons];simp only[e,decide_false];exact h1
theorem iZ{K:Type}[DecidableEq K]{knd:KeyKind Prog w K}{d:Addr}{kvs:List (K×Value)}{o:Obj}(T:cc knd d kvs o):(kvs.map (·.1)).Nodup:=by exact j4 T fun _ es ep _ _ _ _ h=>h
theorem wa(h:cF ρ (some (p,j)) ps l tl):p∈aj l→∃b,ρ[j]?=some b∧valueAt ps p=some (.ref b):=by
 induction h with
 |nil=>intro h;cases h
 |own hn ho hi r ih=>rename_i q b ys n K1 ps l tl;intro h;have e:q≠p:=fun e=>hn j (by rw[e]);have h':p∈aj l:=(bD.mp h).resolve_left fun z=>e z.symm;refine aa (ih h') fun b' h1 h2=>ah b' h1 ?_;unfold valueAt at h2⊢;rw[List.find?_cons];simp only[e,decide_false];exact h2
 |hole e hb r ih=>rename_i q j' b xs ps l tl;intro h;cases e;exact ah b hb (by unfold valueAt;rw[List.find?_cons];simp)
theorem g9{value slice:Expr}{o i:Value}{T id:String}{Q:dB}(hT:s.TypeIs o T)(hl:typeLookup (.type T) "__getitem__"=pure (some (.builtin id)))(hs:∃ops,subscripted slice false o i=operate ops (getItem o i))(h:Wp c (getItem o i) Q s):Wp c (subscriptTail value slice o i) Q s:=by
 obtain⟨ops,hs⟩:=hs;unfold subscriptTail;refine ag ?_;rw[getitemInPython_of_ne hT.not_modules];have fin:Wp c (subscripted slice false o i) (fun r kj=>Wp c (letTemporaryGo value o r>>=fun a_=>pure r) Q kj) s:=by rw[hs];exact wp_operate (bM h (fun r kj uE=>ag (af (wpAny_letTemporaryGo (ak uE)))) fun a_ b_ x=>x)
 refine aq (wpAny_specialOf hT hl ?_)
 first
  |exact ak (ag fin)
  |exact ag (ak (ag fin))
  |exact ag fin
theorem uF{m:PySem.Str→Option Value}(Ok:c.Ok lv)(R:Rep c σ ρ P s m news led)(h:c.T P a (tup items e)):IsTup s.heap a items:=e7 _ (R.lB Ok h) rfl _ rfl
theorem fD{g h:Heap}(N:News g L h ((a,ob)::r))(q:gg ob bw):h.IsList a bw:=bY _ ((N _ aS).1) q.cls q.dat
theorem getElem_toList{bw:Array Value}{k:Nat}{x:Value}(h:bw.toList[k]?=some x):bw[k]?=some x:=by simpa using h
theorem bT.size{vs:List V}{bw:Array Value}(h:bT T ρ vs bw.toList):bw.size=vs.length:=by have:=h.len;simpa using this
theorem pN{α β:Type}(f:α→β){l:List (Int×α)}{x:Int}{v:α}(h:aV l x=some v):aV (l.map fun p=>(p.1,f p.2)) x=some (f v):=by
 unfold aV at h⊢;rw[List.find?_map];refine(?_:Option.map _ (Option.map _ (l.find? fun p=>decide (p.1=x)))=_);generalize q:l.find? (fun p=>decide (p.1=x))=y_ at h⊢;induction y_ with
 |none=>exact nS h
 |some p=>have q_:=bf h;clear h;subst q_;rfl
theorem iF{K:Type}[DecidableEq K]{knd:KeyKind Prog w K}{value slice:Expr}{a:Addr}{ob:Obj}{rr:Led}{ps:List (K×Value)}{kk:K}{y z:Value}{Q:dB}(hs:∀o i,∃ops,subscripted slice false o i=operate ops (getItem o i))(N:News c.g c.L s.heap ((a,ob)::rr))(ht:cc knd a ps ob)(hk:knd.is kk y)(hz:valueAt ps kk=some z)(h:∀k,Q z {s with toks:=k}):Wp c (subscriptTail value slice (.ref a) y) Q s:=g9 (ht.at N aS).typeIs slot_dict_getitem.lookup (hs _ _) (af (wpAny_getItem_of hk (ht.at N aS).mapOf hz (h _)))
theorem zH{value slice:Expr}{i:V}{r:Nat}{o:O}{a:Addr}{y:Value}{K:KV}(R:aK c σ ρ P s)(hr:ρ[r]?=some a)(ho:σ.cs[r]?=some o)(vi:VR (c.T P) ρ i y)(h:DF σ r o i K)(hs:∀o i,∃ops,subscripted slice false o i=operate ops (getItem o i)):Wp c (subscriptTail value slice (.ref a) y) (gD c ρ P K) s:=by
 have R0:=R;refine bp R fun m news led R=>?_;have str:(i.Cd fun n=>BH o.pS fun kvs=>ku (cT n) (BH (look kvs n) fun v=>K v σ))→Wp c (subscriptTail value slice (.ref a) y) (gD c ρ P K) s:=fun h=>by refine V.uA (M:=fun a_ y=>Wp c (subscriptTail value slice _ y) _ s) h vi fun n t h vi=>aa (g7 h) fun kvs hk h=>?_;obtain⟨hn,h⟩:=dq h;refine aa (g7 h) fun v hv h=>aa (R.eS hr ho) fun l h2 N=>ao (h2.pS hk) fun ob ps aQ ht hp=>?_;clear h2;subst aQ;exact aa ((hp.get hn).1 v hv) fun z hz vz=>iF hs N ht (strKind_is _ _ _ _) hz fun k=>aY _ σ ρ P .c6 (R0.toks _) vz h
 induction o with
 |list vs=>refine V.uz (M:=fun a_ y=>Wp c (subscriptTail value slice _ y) _ s) h vi fun k t h vi=>aa (R.eS hr ho) fun l gv N=>?_;refine ao gv fun ob bw aQ hq hv=>?_;clear gv;subst aQ;obtain⟨hl,h⟩:=dq h;refine aa (g7 h) fun v hk h=>aa (hv.at hk) fun z hz vz=>?_;have hl:=bZ hl;have gq:k<vs.length:=(dX.mp hk).1;exact g9 (ah _ ((N _ aS).1) hq.cls) slot_list_getitem.lookup (hs _ _) (af (wpAny_getItem_list (fD N hq) (c7 k) (BR (Nat.le_of_lt gq) (aX hl (bZ tt))) (getElem_toList hz) (aY v σ ρ P .c6 R0 vz h)))
 |«ints» l=>
  refine V.eU (M:=fun a_ y=>Wp c (subscriptTail value slice _ y) _ s) h vi fun x t h vi=>aa (R.eS hr ho) fun l' gv N=>?_;refine ao gv fun ob bw aQ hq hv=>?_;clear gv;subst aQ;obtain⟨hz,h⟩:=h;have hsz:bw.size=l.length:=hv.size.trans (bK _);refine g9 (ah _ ((N _ aS).1) hq.cls) slot_list_getitem.lookup (hs _ _) ?_;rcases h with⟨h1,h2,h3⟩|⟨rfl,h2,h3⟩
  ·have gq:x.toNat<l.length:=by exact iw 4528252665873 rfl h2 (aA (aZ 1081294963 rfl h1))
   refine aa (hv.at (k:=x.toNat) (v:=.int (l.getD x.toNat 0)) (by rw[List.getElem?_map,cn gq];simp[List.getD,cn gq])) fun z zI vz=>?_;exact af (wpAny_getItem_list (fD N hq) h1 (NF [_] [_] (.l (.v 0) (.n 1000000)) (.T (.w 0) (.c (.v 0))) (.T (.w 0) (.n 9223372036854775808)) tt hz h2) (getElem_toList zI) (aY _ σ ρ P .c6 R0 vz h3))
  ·have gq:l.length-1<l.length:=by have:=List.length_pos_iff.mpr h2;exact ar 4681441537 rfl (aG (aC 7405936 rfl this))
   refine aa (hv.at (k:=l.length-1) (v:=.int (l.getLast?.getD 0)) (by rw[List.getElem?_map,List.getLast?_eq_getElem?,cn gq];rfl)) fun z zI vz=>?_;refine af (wpAny_getItem_list_neg (fD N hq) (c7 _) (fe 1257227843968765651 1 [-1,1] rfl hsz (aG (ar 16847216 rfl gq))) (c7 _) ?_ (aY _ σ ρ P .c6 R0 vz h3));have:((-1:Int)+(bw.size:Int)).toNat=l.length-1:=by exact bo (gn 1318594082445781294392096 1 [1,1,-1] rfl hsz (aA (fe 81364001677480051 1 [-1,1] rfl hsz gq)) (aG (ar 16847216 rfl gq))) (gn 259972890282920256288 1 [-1,1,-1] rfl hsz gq (aA (fe 81364001677480051 1 [-1,1] rfl hsz gq)))
   rw[this];exact getElem_toList zI
 |eN l=>refine V.eU (M:=fun a_ y=>Wp c (subscriptTail value slice _ y) _ s) h vi fun x t h vi=>aa (R.eS hr ho) fun l' gv N=>?_;refine ao gv fun ob ps aQ ht hp=>?_;clear gv;subst aQ;exact aa h fun v hv h=>aa ((hp.get (n:=x)).1 _ (pN V.int hv)) fun z hz vz=>iF hs N ht (intKind_is _ _ _ _) hz fun k=>aY _ σ ρ P .c6 (R0.toks _) vz h
 |gf l=>refine V.eU (M:=fun a_ y=>Wp c (subscriptTail value slice _ y) _ s) h vi fun x t h vi=>aa (R.eS hr ho) fun l' gv N=>?_;refine ao gv fun ob ps aQ ht hp=>?_;clear gv;subst aQ;exact aa h fun v hv h=>aa ((hp.get (n:=x)).1 _ (pN V.bytes hv)) fun z hz vz=>iF hs N ht (intKind_is _ _ _ _) hz fun k=>aY _ σ ρ P .c6 (R0.toks _) vz h
 |rows l hd=>
  refine V.eU (M:=fun a_ y=>Wp c (subscriptTail value slice _ y) _ s) h vi fun x t h vi=>bV (R.NQ hr ho) fun l' r' pL N D back=>?_;refine bS pL fun ob ps tl ew ht hp=>?_;clear D pL;subst ew;induction hd with
  |none=>refine aa h fun xs hx h=>m3 (pM hp hx (iZ ht)) fun b ys n q6 hv Mx hq hi EG=>?_;have Rn:=back b (.rows l (some (x,σ.cs.length))) ((a,ob)::q6) (.ints xs) [(b,n)] (bz ob ps q6 rfl ht (R.len▸EG)) (aJ n _ rfl hq (gE hi)) (Mx.cons _);exact iF hs N ht (intKind_is _ _ _ _) hv fun k=>aY _ _ _ P ⟨⟨[b],rfl⟩,fun a_ h=>h⟩ (Rn.toks _) (.ref (R.len▸List.getElem?_concat_length)) h
  |some p=>obtain⟨p,j⟩:=p;refine fc h fun fQ hm h=>?_;subst fQ;obtain⟨b,hb,hv⟩:∃b,ρ[j]?=some b∧valueAt ps x=some (.ref b):=wa hp hm;exact iF hs N ht (intKind_is _ _ _ _) hv fun k=>aY _ σ ρ P .c6 (R0.toks _) (.ref hb) h
 |_=>exact str h
theorem Cy{value slice:Expr}{a i:V}{x y:Value}{K:KV}(Ok:c.Ok lv)(R:aK c σ ρ P s)(va:VR (c.T P) ρ a x)(vi:VR (c.T P) ρ i y)(h:Iq σ a i K)(hs:∀o i,∃ops,subscripted slice false o i=operate ops (getItem o i)):Wp c (subscriptTail value slice x y) (gD c ρ P K) s:=by
 induction a using V.casesOn with
 |tup vs=>refine V.uz (M:=fun a_ y=>Wp c (subscriptTail value slice _ y) _ s) h vi fun k t h vi=>?_;obtain⟨hl,h⟩:=dq h;refine aa (g7 h) fun v hk h=>?_;have R0:=R;refine bp R fun m news led R=>bS va.fb fun a items e ew ht hv=>?_;clear va;subst ew;refine aa (hv.at hk) fun z hz vz=>?_;have zI:=getElem_toList hz;have hl:=bZ hl;have hsz:=hv.size;have gq:k<vs.length:=(dX.mp hk).1;refine g9 (ah _ (R.lB Ok ht) rfl) slot_tuple_getitem.lookup (hs _ _) (af (getItem_tuple (uF Ok R ht) (j:=k) (c7 _) (BR (Nat.le_of_lt gq) (aX hl (bZ tt))) ?_ zI (aY v σ ρ P .c6 R0 vz h)));unfold seqIndex?;rw[aH (by exact fun e=>fm 462410 0 [1] rfl e:¬((k:Int)<0)),aB (by simp only[Bool.and_eq_true,decide_eq_true_eq];exact⟨bX 57459 rfl,fe 1241516139236 1 [-1,1] rfl hsz gq⟩)];rfl
 |bytes b=>refine V.eU (M:=fun a_ y=>Wp c (subscriptTail value slice _ y) _ s) h vi fun x t h vi=>bg va.bQ fun t' az=>?_;clear va;subst az;exact g9 (PySem.W.typeIs_bytes _ _ _) FB.slot_bytes_getitem.lookup (hs _ _) (af (getItem_bytes (by have:=h.2.2.1;exact aC 75557889699002036796222650368 rfl this) h.1 h.2.1 (aY _ σ ρ P .c6 (R.toks _) .int h.2.2.2)))
 |ref r=>refine aa va.bI fun a hr aQ=>?_;clear va;subst aQ;exact aa (g7 h) fun o ho h=>zH R hr ho vi h hs
 |_=>exact False.elim h
end
set_option tactic.hygienic false
section
variable{w:World}{c:Cx w}{lv:Nat}{σ:St}{ρ:List Addr}{P:Led}{s:Shared}
theorem gr{g h h':Heap}(F:Fr g L h m)(ha:a≠L)(hn:g.get? a=none)(k:∀d o,d≠a→h.get? d=some o→h'.get? d=some o):Fr g L h' m:=by obtain⟨⟨o,es,ep,hL,r⟩,kp,ab⟩:=F;exact⟨(dF o es ep (k _ _ (Ne.symm ha) hL) r),fun b o hb=>k b o (fun e=>by rw[e,hn]at hb;exact nS hb) (kp b o hb),ab⟩
theorem dM{g h h':Heap}{r:Led}(N:News g L h ((a,ob)::r))(D:(adr ((a,ob)::r)).Nodup)(k:∀d o,d≠a→h.get? d=some o→h'.get? d=some o)(ho:h'.get? a=some i0):News g L h' ((a,i0)::r):=fun p hp=>by
 rcases bD.mp hp with rfl|hp
 ·exact⟨ho,(N _ aS).2⟩
 ·have:=N p (cO _ hp);exact⟨k _ _ (fun e=>(cu.mp D).1 (show a∈r.map (·.1) from(show p.1=a from e)▸List.mem_map_of_mem (f:=(·.1)) hp)) this.1,this.2⟩
theorem eG{h h':Heap}(hs:Heap.SameBut a h h'):∀d o,d≠a→h.get? d=some o→h'.get? d=some o:=fun d o hd e=>(hs.2 d hd).trans e
theorem lH{r:Led}(D:(adr ((a,ob)::r)).Nodup):UpdF a ob ((a,ob)::r) (fun o'=>(a,o')::r):=.head fun p hp e=>(cu.mp D).1 (show a∈r.map (·.1) from(show p.1=a from e)▸List.mem_map_of_mem (f:=(·.1)) hp)
theorem nK(h:cU T ρ ps kvs):cE (fun x v=>VR T ρ v x) ps kvs:=by
 induction h with
 |nil=>trivial
 |cons hv _ ih=>exact aN rfl hv ih
theorem nL:∀{kvs:List (Int×V)},cE (fun x v=>VR T ρ v x) ps kvs→cU T ρ ps kvs:=by
 induction ps with
 |nil=>intro kvs h;induction kvs using List.casesOn with|nil=>exact .nil|cons _ _=>exact h.elim
 |cons p ps ih=>
  intro kvs h;induction kvs using List.casesOn with
  |nil=>exact h.elim
  |cons q kvs=>obtain⟨k,v⟩:=p;obtain⟨k',u⟩:=q;obtain⟨e,hv,h⟩:=h;subst e;exact .cons hv (ih h)
theorem sL{α β:Type}(f:α→β)(l:List (Int×α))(x:Int)(y:α):(dput l x y).map (fun p=>(p.1,f p.2))=dput (l.map fun p=>(p.1,f p.2)) x (f y):=by
 unfold dput;refine List.any_map.symm▸?_;have e:((fun p:Int×β=>decide (p.1=x))∘fun p:Int×α=>(p.1,f p.2))=fun p=>decide (p.1=x):=rfl;refine e.symm▸?_;split
 ·refine List.map_map.symm▸?_;refine List.map_map.symm▸(List.map_congr_left fun p a_=>?_);dsimp only[Function.comp];by_cases h:p.1=x<;>simp[h]
 ·refine List.map_append.symm▸?_;rfl
theorem xP{K:Type}[DecidableEq K]{k k0:K}{v v0:Value}{ps:List (K×Value)}(hn:k0∉ps.map (·.1)):stored ((k0,v0)::ps) k v=if k0=k then(k0,v)::ps else(k0,v0)::stored ps k v:=by
 have same:∀{ps:List (K×Value)} {k:K},k∉ps.map (·.1)→(ps.map fun kv=>if kv.1=k then(kv.1,v)else kv)=ps:=by
  intro ps k;induction ps with
  |nil=>intro _;rfl
  |cons p ps ih=>intro h;rw[List.map_cons,bD,not_or]at h;refine List.map_cons.symm▸?_;refine(aH (Ne.symm h.1)).symm▸?_;exact(ih h.2).symm▸rfl
 unfold stored;refine List.any_cons.symm▸?_;by_cases e:k0=k
 ·subst e;simp only[decide_true,Bool.true_or,if_true,List.map_cons];exact(same hn).symm▸rfl
 ·simp only[e,decide_false,Bool.false_or,if_false,List.map_cons];split<;>rfl
set_option tactic.hygienic true in
theorem cw.put{T:dK}{ps:List (PySem.Str×Value)}{kvs:List (Nat×V)}(h:cw T ρ ps kvs){n:Nat}(hn:cT n=true){v:V}{x:Value}(hv:VR T ρ v x):(ps.map (·.1)).Nodup→cw T ρ (stored ps (nm n) x) (fu kvs n v):=by
 induction h with
 |nil=>intro _;exact .cons hn hv .nil
 |cons hk zc r ih=>
  rename_i k u y ps kvs;intro D;rw[List.map_cons,cu]at D;refine(xP D.1).symm▸?_;by_cases e:k=n
  ·clear ih;subst e;refine(aB rfl).symm▸?_;exact(qO rfl).symm▸(.cons hn hv r)
  ·refine(aH fun z=>e (gY hk hn z)).symm▸?_;exact(qP e).symm▸(.cons hk zc (ih D.2))
theorem zJ(hb:ρ[j]?=some b)(h:cF ρ none ps l tl):x∉aj l→cF ρ (some (x,j)) (ps++[(x,.ref b)]) (l++[(x,xs)]) tl:=by
 induction h with
 |nil=>intro _;exact .hole rfl hb .nil
 |hole h=>exact nS h
 |own _ ho hi r ih=>intro hx;exact .own (fun j' e=>hx (by injection e with e;injection e with e _;refine e.symm▸?_;exact aS)) ho hi (ih fun h=>hx (cO _ h))
theorem bT.set{vs:List V}:∀{xs:List Value} {k:Nat} {v:V} {x:Value},bT T ρ vs xs→VR T ρ v x→bT T ρ (vs.set k v) (xs.set k x):=by
 induction vs with
 |nil=>intro xs k v x h hv;refine h.nil_inv.symm▸?_;exact .nil
 |cons u vs ih=>
  intro xs k v x h hv;refine ao h.cons_inv fun y ys aQ h1 h2=>?_;clear h;subst aQ;induction k using Nat.casesAuxOn with
  |zero=>exact .cons hv h2
  |succ k=>exact .cons h1 (ih h2 hv)
theorem set_plain{E:dB}{items:Array Value}{k:Int}{Q:Unit→Shared→Prop}(ho:s.heap.get? l=some (listOf items n))(h0:0≤k)(xl:k<2^63)(hn:k<items.size)(hQ:∀h',h'.get? l=some (listOf (items.setIfInBounds k.toNat v) n)→Heap.SameBut l s.heap h'→Q () {s with heap:=h'}):wpAny (model Prog w) A (setItem (.ref l) (.int k t) v) Q E s:=by
 have hl:s.heap.IsList l items:=e7 _ ho rfl _ rfl;unfold setItem
 try with_reducible refine wpAny_holding ?_
 first|refine aO (bc ?_)|skip
 refine aO (wpAny_sequenceKey hl.typeIs (by decide) ?_);refine aO (wpAny_callSpecial?_slot (name:=PySem.Str.ofString "__setitem__") hl.typeIs slot_list_setitem (wpAny_call_entry slot_list_setitem hl.typeIs entry_list_setitem ?_ (args_list_setitem _ _ _)));refine((aO (wpAny_listSubscript_int (fitsIndex_of h0 xl) ?_)):wpAny _ _ (Builtin.List.listSubscript? (.int k t)>>=_) _ _ s);clear xl;refine bg (Int.eq_ofNat_of_zero_le h0) fun j az=>?_;clear h0;subst az;have hj:j<items.size:=by exact ar 504250625 rfl hn
 have Hu:items[j]?=some items[j]:=Array.getElem?_eq_getElem hj;refine((aO (aO (wpAny_seqItemAt ho rfl (bc ?_)))):wpAny _ _ ((seqItemAt l j>>=fun r=>pure (r.map (j,·)))>>=_) _ _ s);refine Hu.symm▸((?_:wpAny _ _ (setSeqItemAt l j v>>=_) _ _ s))
 have IP:(s.heap.update l (Obj.mapSeq (·.setIfInBounds j v))).get? l=some (listOf (items.setIfInBounds j v) n):=by
  have e:Obj.mapSeq (·.setIfInBounds j v) (listOf items n)=listOf (items.setIfInBounds j v) n:=by simp[Obj.mapSeq]
  exact(Heap.get?_update_self _ ho (by refine e.symm▸?_;exact ff)).trans (av some e)
 refine aO (wpAny_setSeqItemAt ho rfl ?_)
 first
  |exact aO (bc (bc (ah .none rfl (bc (hQ _ IP (Heap.SameBut.update ..))))))
  |exact bc ⟨.none,rfl,bc (hQ _ IP (Heap.SameBut.update ..))⟩
abbrev DK(c:Cx w)(ρ:List Addr)(P:Led)(K:KU)(s':Shared):Prop:=∃σ',aK c σ' ρ P s'∧K σ'
theorem nM{m:PySem.Str→Option Value}{news led:Led}(R:Rep c σ ρ P s m news led){r:Nat}{a:Addr}{o o':O}{vs DL:List V}{k:Nat}{u:Tok}{z:Value}{v:V}(hr:ρ[r]?=some a)(ho:σ.cs[r]?=some o)(e:o.items=some vs)(e':o'.items=some DL)(ev:DL=vs.set k v)(hk:k<vs.length)(hz:vs.length≤1000000)(vz:VR (c.T P) ρ v z){K:KU}(h:K ⟨σ.vars,σ.cs.set r o'⟩):Wp c (setItem (.ref a) (.int k u) z) (fun a_ s'=>DK c ρ P K s') s:=by
 refine bV (R.vS hr ho) fun l rr h2 N D back=>ao (h2.items e) fun ob bw aQ hq hv=>?_;clear h2;subst aQ;have hsz:=hv.size;refine bg hq fun n az=>?_;clear hq;subst az;refine af (set_plain (N _ aS).1 (c7 _) (NF [_,_] [] (.t (.v 0) (.v 1)) (.l (.v 1) (.n 1000000)) (.T (.c (.v 0)) (.n 9223372036854775808)) tt hk hz) (fe 1245810188516 1 [1,-1] rfl hk hsz) fun h' g1 hs=>(ah _ (back {s with heap:=h'} o' [(a,_)] (aN rfl rfl rfl) (gr R.F (N _ aS).2.1 (N _ aS).2.2 (eG hs)) (dM N D (eG hs) g1) D (OR.nz e' ⟨n,rfl⟩ (ev.symm▸?_))) h));have:(bw.setIfInBounds (k:Int).toNat z).toList=bw.toList.set k z:=by simp
 exact this.symm▸(hv.set vz)
theorem eV{m:PySem.Str→Option Value}{news led:Led}(R:Rep c σ ρ P s m news led){r:Nat}{a:Addr}{o o':O}{x:Int}{u:Tok}{z:Value}(hr:ρ[r]?=some a)(ho:σ.cs[r]?=some o)(My:∀l,OR w (c.T P) ρ a o l→∃ob ps tl,l=(a,ob)::tl∧cc (mG w) a ps ob∧ps.length≤100000∧∀i0,cc (mG w) a (stored ps x z) i0→OR w (c.T P) ρ a o' ((a,i0)::tl)){K:KU}(h:K ⟨σ.vars,σ.cs.set r o'⟩):Wp c (setItem (.ref a) (.int x u) z) (fun a_ s'=>DK c ρ P K s') s:=by refine bV (R.vS hr ho) fun l rr h2 N D back=>br (My l h2) fun ob ps tl ew ht hz hb=>?_;clear h2;subst ew;exact af (DA (knd:=mG w) R.F N (lH D) ht (intKind_is _ _ _ _) hz fun h' i0 F' N' mT=>(ah _ (back {s with heap:=h',toks:=s.toks+1} o' ((a,i0)::tl) (aN rfl rfl rfl) F' N' D (hb i0 mT)) h))
theorem mq{m:PySem.Str→Option Value}{news led:Led}(R:Rep c σ ρ P s m news led){r:Nat}{a:Addr}{o o':O}{x:PySem.Str}{u:Tok}{z:Value}(hr:ρ[r]?=some a)(ho:σ.cs[r]?=some o)(My:∀l,OR w (c.T P) ρ a o l→∃ob ps tl,l=(a,ob)::tl∧cc (xD w) a ps ob∧ps.length≤100000∧∀i0,cc (xD w) a (stored ps x z) i0→OR w (c.T P) ρ a o' ((a,i0)::tl)){K:KU}(h:K ⟨σ.vars,σ.cs.set r o'⟩):Wp c (setItem (.ref a) (.str x u) z) (fun a_ s'=>DK c ρ P K s') s:=by refine bV (R.vS hr ho) fun l rr h2 N D back=>br (My l h2) fun ob ps tl ew ht hz hb=>?_;clear h2;subst ew;exact af (DA (knd:=xD w) R.F N (lH D) ht (strKind_is _ _ _ _) hz fun h' i0 F' N' mT=>(ah _ (back {s with heap:=h',toks:=s.toks+1} o' ((a,i0)::tl) (aN rfl rfl rfl) F' N' D (hb i0 mT)) h))
theorem uG{r:Nat}{i v:V}{x y z:Value}{K:KU}(R:aK c σ ρ P s)(va:VR (c.T P) ρ (.ref r) x)(vi:VR (c.T P) ρ i y)(vz:VR (c.T P) ρ v z)(h:nC σ r i v K):Wp c (setItem x y z) (fun a_ s'=>DK c ρ P K s') s:=by
 refine bp R fun m news led R=>aa va.bI fun a hr aQ=>?_;clear va;subst aQ;unfold nC at h;generalize ho:σ.cs[r]?=y_ at h⊢;induction y_ with
 |none=>exact h.elim
 |some o=>
 induction o with
 |«ints» l=>refine V.eU (M:=fun a_ y=>Wp c (setItem _ y z) _ s) h vi fun x t h vi=>iy (V.b8 h) fun y' az h1 h2 h3 h4=>?_;clear h;subst az;have e:x=((x.toNat:Nat):Int):=(aA h1).symm;refine e.symm▸?_;exact nM R hr ho (o':=.ints (l.set x.toNat y')) rfl rfl (List.map_set.symm▸rfl) (by rw[bK];exact iw 4528252665873 rfl h2 (aA (xf 239419507 1 [-1] rfl e))) (by rw[bK];exact h3) vz h4
 |list vs=>refine V.uz (M:=fun a_ y=>Wp c (setItem _ y z) _ s) h vi fun k t h vi=>?_;obtain⟨hb,h⟩:=dq h;obtain⟨b1,b2⟩:=Bool.and_eq_true_iff.mp hb;exact nM R hr ho (o':=.list (vs.set k _)) rfl rfl rfl (bZ b1) (aX (bZ b2) (bZ tt)) vz h
 |eN l=>refine V.eU (M:=fun a_ y=>Wp c (setItem _ y z) _ s) h vi fun x t h vi=>aa (V.b8 h) fun y' az h=>?_;subst az;exact eV R hr ho (fun l' hl=>by refine ao hl fun ob ps aQ ht hp=>?_;clear hl;subst aQ;have:=hp.length;rw[bK]at this;refine aR ob ps [] rfl ht (aX (Nat.le_of_eq this) h.1) (fun i0 mT=>(aJ i0 _ rfl mT ?_));rw[sL V.int];exact nL ((nK hp).put x vz)) h.2
 |gf l=>refine V.eU (M:=fun a_ y=>Wp c (setItem _ y z) _ s) h vi fun x t h vi=>aa (V.gZ h) fun y' az h=>?_;subst az;exact eV R hr ho (fun l' hl=>by refine ao hl fun ob ps aQ ht hp=>?_;clear hl;subst aQ;have:=hp.length;rw[bK]at this;refine aR ob ps [] rfl ht (aX (Nat.le_of_eq this) h.1) (fun i0 mT=>(aJ i0 _ rfl mT ?_));rw[sL V.bytes];exact nL ((nK hp).put x vz)) h.2
 |d0=>
  induction i using V.casesOn with
  |int x=>
   refine bg vi.int_inv fun t az=>?_;clear vi;subst az;induction v using V.casesOn with
   |int y'=>exact eV R hr ho (o':=.eN [(x,y')]) (fun l' df=>by refine cg df fun ob e ht _=>?_;exact aR ob [] [] e ht (Nat.zero_le _) (fun i0 mT=>(aJ i0 _ rfl mT (.cons vz .nil)))) h
   |bytes y'=>exact eV R hr ho (o':=.gf [(x,y')]) (fun l' df=>by refine cg df fun ob e ht _=>?_;exact aR ob [] [] e ht (Nat.zero_le _) (fun i0 mT=>(aJ i0 _ rfl mT (.cons vz .nil)))) h
   |ref j=>refine cg h fun xs _ _ h=>aa vz.bI fun b hb aQ=>?_;clear vz;subst aQ;exact eV R hr ho (o':=.rows [(x,xs)] (some (x,j))) (fun l' df=>by refine cg df fun ob e ht _=>?_;exact aR ob [] [] e ht (Nat.zero_le _) (fun i0 mT=>(bz i0 _ [] rfl mT (.hole rfl hb .nil)))) h
   |_=>exact False.elim h
  |str n=>refine bg vi.str_inv fun t az=>?_;clear vi;subst az;obtain⟨hn,h⟩:=dq h;exact mq R hr ho (o':=.dS [(n,v)]) (fun l' df=>by refine cg df fun ob e _ ht=>?_;exact aR ob [] [] e ht (Nat.zero_le _) (fun i0 mT=>(aJ i0 _ rfl mT (.cons hn vz .nil)))) h
  |_=>exact False.elim h
 |dS l=>refine V.uA (M:=fun a_ y=>Wp c (setItem _ y z) _ s) h vi fun n t h vi=>?_;obtain⟨hb,h⟩:=dq h;obtain⟨hn,hz⟩:=Bool.and_eq_true_iff.mp hb;exact mq R hr ho (o':=.dS (fu l n v)) (fun l' df=>by refine ao df fun ob ps e ht hp=>?_;exact aR ob ps [] e ht (aX (Nat.le_of_eq hp.length) (aX (bZ hz) (bZ tt))) (fun i0 mT=>(aJ i0 _ rfl mT (hp.put hn vz (iZ ht))))) h
 |rows l hl=>
  induction hl with
  |some _=>exact False.elim h
  |none=>
   refine V.eU (M:=fun a_ y=>Wp c (setItem _ y z) _ s) h vi fun x t h vi=>?_;obtain⟨j,rfl,hx,hz,xs,-,-,h⟩:=V.eB h;obtain⟨b,hb,rfl⟩:=vz.bI
   exact eV R hr ho (fun l' hl=>by
    obtain⟨ob,ps,tl,rfl,ht,hp⟩:=hl;have hk:=hp.keys;have hl:ps.length=l.length:=by have:=av List.length hk;simpa[aj]using this
    refine aR ob ps tl rfl ht (dC 85452958202509588977680 rfl hz hl) (fun i0 mT=>(bz i0 _ tl rfl mT ((stored_new (c8.mpr (by rw[hk];exact hx))).symm▸?_)));exact zJ hb hp hx) h
 |_=>exact False.elim h
theorem mU{x:Int}(hx:0≤x):clipAt n x=min x.toNat n:=by rw[←aA hx,clipAt_nat];rfl
theorem zK(b:aD)(i j:Nat):(b.drop (min i b.length)).take (min j b.length-min i b.length)=aL b i j:=by
 unfold aL;refine List.ext_getElem? fun k=>?_;simp only[List.getElem?_take,List.getElem?_drop];by_cases hi:i≤b.length
 ·rw[cq hi];by_cases hj:j≤b.length
  ·rw[cq hj]
  ·rw[Nat.min_eq_right (by exact ar 1073168 rfl hj)];by_cases hk:k<b.length-i
   ·rw[aB hk,aB (by exact@mN [_,_,_,_,_,_] [] 424602734737937469299642145 1 [1,1,-1,1] rfl hj hk (aG (eR 4933550592 rfl hi hj)) (aG (ar 1048832 rfl hi)))]
   ·rw[aH hk,List.getElem?_eq_none (by exact jl 881336154859824 1 [1,-1] rfl hk (aG (ar 1048832 rfl hi))),ite_self]
 ·rw[Nat.min_eq_right (by exact ar 1073168 rfl hi:b.length≤i),List.getElem?_eq_none (by exact Nat.le_add_right _ _),List.getElem?_eq_none (by exact bG 274860304 rfl hi),ite_self,ite_self]
theorem nN{b:aD}{lo hi:Option Int}(h1:∀x,lo=some x→0≤x)(h2:∀x,hi=some x→0≤x):KBy.picked b.toArray lo hi=(aL b (lo.elim 0 Int.toNat) (hi.elim b.length Int.toNat)).toArray:=by
 rw[KBc.picked_eq];congr 1;rw[←zK]
 have e1:lo.elim 0 (clipAt b.toArray.size)=min (lo.elim 0 Int.toNat) b.length:=by
  induction lo with
  |none=>simp
  |some x=>refine(?_:clipAt _ x=min x.toNat _);rw[mU (h1 x rfl)];simp
 have e2:hi.elim b.toArray.size (clipAt b.toArray.size)=min (hi.elim b.length Int.toNat) b.length:=by
  induction hi with
  |none=>simp
  |some x=>refine(?_:clipAt _ x=min x.toNat _);rw[mU (h2 x rfl)];simp
 rw[e1,e2]
inductive gi:V→Option Int→Prop
 |none:gi .none none
 |int {x:Int}:0≤x→gi (.int x) (some x)
theorem gi.is(h:gi v o)(hv:VR T ρ v x):IsPart x o:=by
 induction h with
 |none=>rw[hv.none_inv];exact .none
 |int _=>refine bg hv.int_inv fun t az=>?_;clear hv;subst az;exact .int _ _
theorem gi.ge(h:gi v o):∀x,o=some x→0≤x:=by
 intro x e;induction h with
 |none=>exact nS e
 |int h=>have q_:=bf e;clear e;subst q_;exact h
theorem lI{value slice:Expr}{b:aD}{lo hi:V}{IQ BI:Option Int}{t:Tok}{l u:Value}{K:KV}(R:aK c σ ρ P s)(pl:gi lo IQ)(pu:gi hi BI)(vl:VR (c.T P) ρ lo l)(vu:VR (c.T P) ρ hi u)(hz:b.length≤1000000)(h:K (.bytes (aL b (IQ.elim 0 Int.toNat) (BI.elim b.length Int.toNat))) σ)(hs:∀o i,∃ops,subscripted slice false o i=operate ops (getItem o i)):Wp c (subscriptTail value slice (.bytes b.toArray t) (.ref s.heap.objs.size)) (gD c ρ P K) {s with heap:=s.heap.push {cls:=.type "slice",data:=.fields #[l,u,.none]}}:=by refine g9 (PySem.W.typeIs_bytes _ _ _) FB.slot_bytes_getitem.lookup (hs _ _) (af (getItem_meets (PySem.W.typeIs_bytes _ _ _) (by decide) FB.slot_bytes_getitem FB.entry_bytes_getitem (FB.args_bytes_getitem_2 _ _) (KBc.meets_slice2 _ t _ (pl.is vl) (pu.is vu)) (aN (Heap.IsSliceOf.new _ _ _ _) (aX (KBc.size_picked_le _ _ _) (by rw[sizeLine_eq];simp;exact aC 1152921900924713696262144 rfl hz)) (fun t' k=>?_))));rw[nN pl.ge pu.ge];exact aY _ σ ρ P .c6 ((R.sC _).toks _) .bytes h
theorem Cz{value slice:Expr}{a lo hi:V}{x l u:Value}{K:KV}(R:aK c σ ρ P s)(va:VR (c.T P) ρ a x)(vl:VR (c.T P) ρ lo l)(vu:VR (c.T P) ρ hi u)(h:Ir σ a lo hi K)(hs:∀o i,∃ops,subscripted slice false o i=operate ops (getItem o i)):Wp c (subscriptTail value slice x (.ref s.heap.objs.size)) (gD c ρ P K) {s with heap:=s.heap.push {cls:=.type "slice",data:=.fields #[l,u,.none]}}:=by
 induction a using V.casesOn with
 |bytes b=>
  refine bg va.bQ fun t az=>?_;clear va;subst az;induction lo using V.casesOn with
  |int x=>induction hi using V.casesOn with
   |int y=>exact lI R (.int h.1) (.int h.2.1) vl vu h.2.2.1 h.2.2.2 hs
   |none=>exact lI R (.int h.1) .none vl vu h.2.1 h.2.2 hs
   |_=>exact False.elim h
  |none=>refine aa (V.b8 h) fun y az h=>?_;subst az;exact lI R .none (.int h.1) vl vu h.2.1 h.2.2 hs
  |_=>exact False.elim h
 |ref r=>
  refine aa va.bI fun a hr aQ=>?_;clear va;subst aQ;refine aa (g7 h) fun o ho h=>?_;induction o with
  |ba b=>refine aa (V.b8 h) fun x az h'=>?_;clear h;subst az;refine iy (V.b8 h') fun y az h1 h2 h3 h4=>?_;clear h';subst az;refine bp (R.sC {cls:=.type "slice",data:=.fields #[l,u,.none]}) fun m news led R=>aa (R.eS hr ho) fun l' g2 N=>?_;obtain rfl:=g2;have hg:=(N _ aS).1;have pl:gi (.int x) (some x):=.int h1;have pu:gi (.int y) (some y):=.int h2;refine g9 (eu hg) BF.gS.lookup (hs _ _) (af (xm hg (Heap.IsSliceOf.new _ _ _ _) (pl.is vl) (pu.is vu) ?_ (aX (KBc.size_picked_le _ _ _) (by rw[sizeLine_eq];simp;exact aC 1152921900924713696262144 rfl h3))));rw[nN pl.ge pu.ge];have Rn:=R.alloc (s':={s with heap:=(s.heap.push {cls:=.type "slice",data:=.fields #[l,u,.none]}).push (dD (aL b x.toNat y.toNat).toArray)}) (o:=.ba (aL b x.toNat y.toNat)) (a:=(s.heap.push {cls:=.type "slice",data:=.fields #[l,u,.none]}).objs.size) (l':=[(_,_)]) (aN rfl rfl rfl) (R.F.push _) (R.N.push R.F _) (cN (fun p hp=>Heap.lt_size (R.N p hp).1) R.D) rfl;refine aY _ _ _ P ⟨⟨[_],rfl⟩,fun a_ h=>h⟩ Rn (.ref ?_) h4;rw[←R.len];simp
  |_=>exact False.elim h
 |_=>exact False.elim h
theorem q7(l:Addr)(items:Array Value)(n:Nat)(y:Value)(hy:items[items.size-1]?=some y)(Ho:items.size≤sizeLine):Meets (Builtin.«list.pop» ⟨[.ref l],[]⟩) (fun a_ R s=>s.heap.get? l=some (listOf items n)∧R (.ok (.ret y)) {s with heap:=s.heap.update l (Obj.mapSeq fun xs=>xs.eraseIdxIfInBounds (items.size-1))}):=
 .of_wp fun prog w A R s h=>by
  obtain⟨hp,g,d,tk,os⟩:=s;obtain⟨hl,h⟩:=h
  have fE:0<items.size:=by
   rcases Nat.eq_zero_or_pos items.size with h0|h0
   ·simp[h0]at hy
   ·exact h0
  have fy:¬items.isEmpty=true:=by
   intro he;have:items.size=0:=by simpa using he
   exact rW 1881147162 0 [1,1] rfl fE this
  have hk:seqIndex? (-1) items.size=some (items.size-1):=by rw[seqIndex_neg (by exact c7 _) (by exact aC 30358179539 rfl fE)];congr 1;exact bo (fe 321850343407760593408 1 [1,-1] rfl (aA (aC 7769083973747 rfl fE)) (aG (ar 529404394803568 rfl (aA (aC 7769083973747 rfl fE))))) (fe 321850343407760592928 1 [-1,1] rfl (aA (aC 7769083973747 rfl fE)) (aG (ar 529404394803568 rfl (aA (aC 7769083973747 rfl fE)))))
  wp_walk using wpAny_loadPart' hl;simp only[hk,hy,Option.bind_some,Option.map_some];have zI:(items.eraseIdxIfInBounds (items.size-1)).size≤sizeLine+1:=aX (PySem.MeetsSeq.size_erased items _) (Nat.le_succ_of_le Ho);wp_walk using(wpAny_updateSeq hl rfl (hz:=Ho) (_hz':=zI)),wpAny_loadPart' hl;exact ah _ rfl h
noncomputable def qT.val:qT→Value|.fn f=>.ref f|.app=>.builtin "list.append"|.pop=>.builtin "list.pop"|.get=>.builtin "dict.get"|.ext=>.builtin "bytearray.extend"
set_option tactic.hygienic true in
theorem CA{k:qT}(h:uB n=some k)(ho:s.heap.get? a=some (listOf bw e)){Q:Value×List Value→Shared→Prop}(q:Q (k.val,[.ref a]) s):Wp c (getMethod (.ref a) (nm n) pl) Q s:=by
 unfold uB at h;generalize e1:Nat.beq n 197=y_ at h;induction y_ with
 |true=>have q_:=bf h;clear h;subst q_;obtain rfl:=cY e1;exact af (getMethod_builtin (ah _ ho rfl) PySem.F.plainAttrs_list PySem.F.slot_list_append PySem.F.type_list_append (fun b hb=>by cases hb;exact ah _ ho rfl) q)
 |false=>
  generalize e1:Nat.beq n 215=y_ at h;induction y_ with
  |false=>exact nS h
  |true=>have q_:=bf h;clear h;subst q_;obtain rfl:=cY e1;exact af (getMethod_builtin (ah _ ho rfl) PySem.F.plainAttrs_list PySem.F.slot_list_pop PySem.F.type_list_pop (fun b hb=>by cases hb;exact ah _ ho rfl) q)
set_option tactic.hygienic true in
theorem mV{K:Type}[DecidableEq K]{knd:KeyKind Prog w K}{n:Nat}{k:qT}(h:xI n=some k){a:Addr}{ob:Obj}{ps:List (K×Value)}{r:Led}{g:Heap}{L:Addr}(N:News g L s.heap ((a,ob)::r))(ht:cc knd a ps ob){pl:Sem Bool}{Q:Value×List Value→Shared→Prop}(q:Q (k.val,[.ref a]) s):Wp c (getMethod (.ref a) (nm n) pl) Q s:=by
 unfold xI at h;generalize e1:Nat.beq n 198=y_ at h;induction y_ with
 |false=>exact nS h
 |true=>have q_:=bf h;clear h;subst q_;obtain rfl:=cY e1;exact af (getMethod_T (knd:=knd) PySem.F.slot_dict_get PySem.F.type_dict_get N aS ht q)
theorem mW{n i:Nat}{k:qT}{o:O}{vs:List V}{a:Addr}{m:PySem.Str→Option Value}{news led:Led}(R:Rep c σ ρ P s m news led)(hr:ρ[i]?=some a)(ho:σ.cs[i]?=some o)(e:o.items=some vs)(h:uB n=some k){pl:Sem Bool}{Q:Value×List Value→Shared→Prop}(q:Q (k.val,[.ref a]) s):Wp c (getMethod (.ref a) (nm n) pl) Q s:=by refine aa (R.eS hr ho) fun l h2 N=>ao (h2.items e) fun ob bw aQ qW _=>?_;clear h2;subst aQ;refine bg qW fun e az=>?_;clear qW;subst az;exact CA h (N _ aS).1 q
theorem CB{n i:Nat}{k:qT}{o:O}{a:Addr}(Ok:c.Ok lv)(R:aK c σ ρ P s)(hr:ρ[i]?=some a)(ho:σ.cs[i]?=some o)(h:EW o n=some k){pl:Sem Bool}{Q:Value×List Value→Shared→Prop}(q:Q (k.val,[.ref a]) s):Wp c (getMethod (.ref a) (nm n) pl) Q s:=by
 refine bp R fun m news led R=>?_;induction o with
 |inst C fs=>
  refine bV (R.vS hr ho) fun l r pL N _ _=>?_;refine de pL fun d es e ew hf=>?_;clear pL;subst ew;unfold EW at h;dsimp only at h;generalize hm:zw C n=y_ at h⊢;induction y_ with
  |none=>exact nS h
  |some f=>
   dsimp only at h;generalize hl:look fs n=y_ at h⊢;induction y_ with
   |some _=>exact nS h
   |none=>have q_:=bf h;clear h;subst q_;exact oO (Cu w hm) fun hn cf II Mz=>af (method_inst R.F Ok.X (q0 N) (cf.gt _) II Mz ((hf.get hn).2 hl) q)
 |list _=>exact mW R hr ho rfl h q
 |«ints» _=>exact mW R hr ho rfl h q
 |opts _=>exact mW R hr ho rfl h q
 |ops _=>exact mW R hr ho rfl h q
 |d0=>refine aa (R.eS hr ho) fun l gv N=>?_;refine cg gv fun ob az ht _=>?_;clear gv;subst az;exact mV h N ht q
 |eN _=>refine aa (R.eS hr ho) fun l gv N=>?_;refine ao gv fun ob ps aQ ht _=>?_;clear gv;subst aQ;exact mV h N ht q
 |dS _=>refine aa (R.eS hr ho) fun l gv N=>?_;refine ao gv fun ob ps aQ ht _=>?_;clear gv;subst aQ;exact mV h N ht q
 |rows _ _=>refine aa (R.eS hr ho) fun l gv N=>?_;refine bS gv fun ob ps tl ew ht _=>?_;clear gv;subst ew;exact mV h N ht q
 |ba b=>
  refine aa (R.eS hr ho) fun l h2 N=>?_;obtain rfl:=h2;have h:ET n=some k:=h;unfold ET at h;generalize e1:Nat.beq n 213=y_ at h⊢;induction y_ with
  |false=>exact nS h
  |true=>have q_:=bf h;clear h;subst q_;have q_:=cY e1;clear e1;subst q_;exact af (getMethod_builtin (eu (N _ aS).1) BF.t9 BF.mj BF.r9 (fun b hb=>by cases hb;exact ah _ ((N _ aS).1) rfl) q)
 |_=>exact nomatch(show(none:Option qT)=some k from h)
theorem FA{o:V}{n:Nat}{x:Value}{k:qT}(Ok:c.Ok lv)(R:aK c σ ρ P s)(vo:VR (c.T P) ρ o x)(h:zx σ.cs o n=some k){pl:Sem Bool}{Q:Value×List Value→Shared→Prop}(q:Q (k.val,[x]) s):Wp c (getMethod x (nm n) pl) Q s:=by
 induction o using V.casesOn with
 |ref i=>
  refine aa vo.bI fun a hr aQ=>?_;clear vo;subst aQ;unfold zx at h;dsimp only at h;generalize ho:σ.cs[i]?=y_ at h⊢;induction y_ with
  |none=>exact nS h
  |some o=>exact CB Ok R hr ho h q
 |_=>exact nomatch(show(none:Option qT)=some k from h)
theorem q8(vs:List V)(v:V):(zu vs v).items=some (vs++[v]):=by
 induction vs using List.casesOn with
 |nil=>induction v using V.casesOn<;>rfl
 |cons _ _=>rfl
theorem lJ{r:Nat}{o o':O}{v:V}{vs:List V}{a:Addr}{y:Value}{K:KV}(R:aK c σ ρ P s)(hr:ρ[r]?=some a)(ho:σ.cs[r]?=some o)(vy:VR (c.T P) ρ v y)(e1:o.items=some vs)(e2:o'.items=some (vs++[v]))(hz:vs.length≤1000000)(h:K .none ⟨σ.vars,σ.cs.set r o'⟩):Wp c (call (.builtin "list.append") [.ref a,y]) (gD c ρ P K) s:=by refine bp R fun m news led R=>bV (R.vS hr ho) fun l rr h2 N D back=>ao (h2.items e1) fun ob bw aQ qW hv=>?_;clear h2;subst aQ;refine bg qW fun n az=>?_;clear qW;subst az;refine af (wpAny_list_append_plain ⟨n,(N _ aS).1⟩ (fun h' df hs=>?_) (by rw[sizeLine_eq,hv.size];exact aX hz (bZ tt)));obtain⟨n',g1⟩:=df;exact aY .none _ ρ P .c6 (back {s with heap:=h'} o' [(a,_)] (aN rfl rfl rfl) (gr R.F (N _ aS).2.1 (N _ aS).2.2 (eG hs)) (dM N D (eG hs) g1) D (OR.nz e2 ⟨n',rfl⟩ (by rw[Array.toList_push];exact bT.Mw vy hv))) .none h
theorem FC{r:Nat}{o:O}{v:V}{a:Addr}{y:Value}{K:KV}(R:aK c σ ρ P s)(hr:ρ[r]?=some a)(ho:σ.cs[r]?=some o)(vy:VR (c.T P) ρ v y)(h:Iw σ r o v K):Wp c (call (.builtin "list.append") [.ref a,y]) (gD c ρ P K) s:=by
 induction o with
 |«ints» l=>obtain⟨x,rfl,hz,h⟩:=V.b8 h;exact lJ (o':=.ints (l++[x])) R hr ho vy rfl (av some List.map_append) (bK (as:=l) V.int▸hz) h
 |opts l=>
  induction v using V.casesOn with
  |int x=>exact lJ (o':=.opts (l++[some x])) R hr ho vy rfl (av some List.map_append) (bK (as:=l) V.opt▸h.1) h.2
  |none=>exact lJ (o':=.opts (l++[none])) R hr ho vy rfl (av some List.map_append) (bK (as:=l) V.opt▸h.1) h.2
  |_=>exact False.elim h
 |ops l=>
  refine aa (V.vU h) fun vs az h1=>?_;subst az;refine de (zr h1) fun a1 b1 c1 ew h2=>?_;subst ew;refine aa (V.mR h2) fun n az h3=>?_;subst az;refine aa (V.b8 h3) fun x az h4=>?_;subst az;refine aa (V.gZ h4) fun d az h5=>?_;subst az;clear h h1 h2 h3 h4;have h:=h5;generalize e:Nat.beq n 95=y_ at h⊢;induction y_ with
  |true=>have q_:=cY e;clear e h5;subst q_;exact lJ (o':=.ops (l++[.write x d])) R hr ho vy rfl (av some List.map_append) (bK (as:=l) Op.v▸h.1) h.2
  |false=>
   obtain⟨e,h⟩:=dq h;have q_:=cY e;clear e h5;subst q_;induction d using List.casesOn with
   |nil=>exact lJ (o':=.ops (l++[.cut x])) R hr ho vy rfl (av some List.map_append) (bK (as:=l) Op.v▸h.1) h.2
   |cons _ _=>exact h.elim
 |list vs=>exact lJ R hr ho vy rfl (q8 vs v) h.1 h.2
 |_=>exact False.elim h
theorem q9{vs:List V}:∀{xs:List Value},bT T ρ vs xs→bT T ρ vs.dropLast xs.dropLast:=by
 induction vs with
 |nil=>intro xs h;rw[h.nil_inv];exact .nil
 |cons u vs ih=>
  intro xs h;refine ao h.cons_inv fun z zs aQ g1 g2=>?_;clear h;subst aQ;induction vs using List.casesOn with
  |nil=>rw[g2.nil_inv];exact .nil
  |cons u' vs=>refine ao g2.cons_inv fun z' QI aQ g3 g4=>?_;subst aQ;exact .cons g1 (ih (.cons g3 g4))
theorem FD{r:Nat}{l:List Int}{a:Addr}{K:KV}(R:aK c σ ρ P s)(hr:ρ[r]?=some a)(ho:σ.cs[r]?=some (.ints l))(hz:l.length≤1000000)(fy:l≠[])(h:K (.int (l.getLast?.getD 0)) ⟨σ.vars,σ.cs.set r (.ints l.dropLast)⟩):Wp c (call (.builtin "list.pop") [.ref a]) (gD c ρ P K) s:=by
 refine bp R fun m news led R=>bV (R.vS hr ho) fun l' rr h2 N D back=>ao h2 fun ob bw aQ qW hv=>?_;clear h2;subst aQ;refine bg qW fun n az=>?_;clear qW;subst az;have hsz:=hv.size;rw[bK]at hsz;have fE:=List.length_pos_iff.mpr fy;refine aa (hv.at (k:=l.length-1) (v:=.int (l.getLast?.getD 0)) (by rw[List.getElem?_map,List.getLast?_eq_getElem?,cn (by exact ar 4681441537 rfl (aG (aC 7405936 rfl fE)))];rfl)) fun z zI vz=>?_;have hg:=(N _ aS).1;have hs:Heap.SameBut a s.heap (s.heap.update a (Obj.mapSeq fun xs=>xs.eraseIdxIfInBounds (bw.size-1))):=Heap.SameBut.update ..
 have e:Obj.mapSeq (fun xs=>xs.eraseIdxIfInBounds (bw.size-1)) (listOf bw n)=listOf bw.pop (n+1):=by
  have gq:bw.size-1<bw.size:=by exact ar 4681441537 rfl (aG (iA 1129861742960 1 [-1,1] rfl hsz fE))
  have e1:bw.eraseIdxIfInBounds (bw.size-1)=bw.pop:=by apply Array.ext';simp[Array.eraseIdxIfInBounds,gq,List.dropLast_eq_take,List.eraseIdx_eq_take_drop_succ];exact eQ 19175184992528 1 [-1] rfl (aG (ar 16847216 rfl gq))
  unfold Obj.mapSeq;simp only[e1];have:(bw.pop.size==bw.size)=false:=by rw[Array.size_pop,beq_eq_false_iff_ne];exact Nat.ne_of_lt gq
  rw[this];rfl
 refine af (call_meets PySem.F.slot_list_pop (ah _ hg rfl) PySem.F.entry_list_pop (PySem.F.args_list_pop_1 _) (q7 a bw n z (getElem_toList (by rw[hsz];exact zI)) (by rw[sizeLine_eq];exact dC 22913586653988038840973328 rfl hz hsz)) ⟨hg,(aY _ _ ρ P .c6 (back _ (.ints l.dropLast) [(a,listOf bw.pop (n+1))] (aN rfl rfl rfl) (gr R.F (N _ aS).2.1 (N _ aS).2.2 (eG hs)) (dM N D (eG hs) ?_) D (aJ _ _ rfl ⟨_,rfl⟩ ?_)) vz h)⟩)
 ·exact(Heap.get?_update_self _ hg (by rw[e];exact ff)).trans (av some e)
 ·rw[List.map_dropLast,Array.toList_pop];exact q9 hv
theorem zL{α β:Type}(f:α→β)(l:List (Int×α))(x:Int):aV (l.map fun p=>(p.1,f p.2)) x=(aV l x).map f:=by unfold aV;rw[List.find?_map];refine(?_:Option.map _ (Option.map _ (l.find? fun p=>decide (p.1=x)))=_);cases l.find? fun p=>decide (p.1=x)<;>rfl
theorem nO{α:Type}{l:List (Int×α)}{x:Int}(q:aV l x=none):x∉aj l:=fun hm=>by refine aa (bO.mp hm) fun p hp e=>?_;unfold aV at q;rw[Option.map_eq_none_iff,List.find?_eq_none]at q;exact q p hp (by simpa using e)
theorem CC{o:O}{r:Nat}{i:V}{a:Addr}{x:Value}{K:KV}(R:aK c σ ρ P s)(hr:ρ[r]?=some a)(ho:σ.cs[r]?=some o)(vi:VR (c.T P) ρ i x)(h:DG o r i σ K):Wp c (call (.builtin "dict.get") [.ref a,x]) (gD c ρ P K) s:=by
 have R0:=R;refine bp R fun m news led R=>?_;have hN:∀{ob:Obj} {ps:List (Int×Value)} {rr:Led} {x:Int} {t:Tok},News c.g c.L s.heap ((a,ob)::rr)→cc (mG w) a ps ob→valueAt ps x=none→K .none σ→Wp c (call (.builtin "dict.get") [.ref a,.int x t]) (gD c ρ P K) s:=fun N ht hn hk=>af (xy (knd:=mG w) N aS ht (intKind_is _ _ _ _) hn (aY .none σ ρ P .c6 (R0.toks _) .none hk));induction o with
 |eN l=>
  refine V.eU (M:=fun a_ x=>Wp c (call _ [_,x]) _ s) h vi fun x t h vi=>aa (R.eS hr ho) fun l' gv N=>?_;refine ao gv fun ob ps aQ ht hp=>?_;clear gv;subst aQ;have g:=hp.get (n:=x);rw[zL]at g;generalize q:aV l x=y_;induction y_ with
  |none=>exact hN N ht (g.2 (by rw[q];rfl)) (h.2 q)
  |some y'=>exact aa (g.1 (.int y') (by rw[q];rfl)) fun z hz vz=>af (pw (knd:=mG w) N aS ht (intKind_is _ _ _ _) hz (aY _ σ ρ P .c6 (R0.toks _) vz (h.1 y' q)))
 |d0=>refine V.eU (M:=fun a_ x=>Wp c (call _ [_,x]) _ s) h vi fun x t h vi=>aa (R.eS hr ho) fun l' gv N=>?_;refine cg gv fun ob az ht _=>?_;clear gv;subst az;exact hN N ht rfl h
 |rows l hl=>
  induction hl with
  |some _=>exact False.elim h
  |none=>
   refine V.eU (M:=fun a_ x=>Wp c (call _ [_,x]) _ s) h vi fun x t h vi=>bV (R.NQ hr ho) fun l' r' pL N D back=>?_;refine bS pL fun ob ps tl ew ht hp=>?_;clear D pL;subst ew;generalize q:aV l x=y_;induction y_ with
   |none=>exact hN N ht (c8.mpr (by rw[hp.keys];exact nO q)) (h.2 q)
   |some xs=>refine m3 (pM hp q (iZ ht)) fun b ys n q6 hv Mx hq hi EG=>?_;have Rn:=back b (.rows l (some (x,σ.cs.length))) ((a,ob)::q6) (.ints xs) [(b,n)] (bz ob ps q6 rfl ht (R.len▸EG)) (aJ n _ rfl hq (gE hi)) (Mx.cons _);refine af (pw (knd:=mG w) N aS ht (intKind_is _ _ _ _) hv (aY _ _ _ P ⟨⟨[b],rfl⟩,fun a_ h=>h⟩ (Rn.toks _) (.ref ?_) (h.1 xs q)));rw[←R.len];exact List.getElem?_concat_length
 |_=>exact False.elim h
theorem CD{o:O}{r:Nat}{i v:V}{a:Addr}{x y:Value}{K:KV}(R:aK c σ ρ P s)(hr:ρ[r]?=some a)(ho:σ.cs[r]?=some o)(vi:VR (c.T P) ρ i x)(vy:VR (c.T P) ρ v y)(h:zv o i v σ K):Wp c (call (.builtin "dict.get") [.ref a,x,y]) (gD c ρ P K) s:=by
 have R0:=R;refine bp R fun m news led R=>?_;unfold zv at h;generalize hk:o.pS=y_ at h⊢;induction y_ with
 |none=>exact h.elim
 |some kvs=>
  refine V.uA (M:=fun a_ x=>Wp c (call _ [_,x,_]) _ s) h vi fun k t h vi=>?_;obtain⟨hn,h⟩:=dq h;refine aa (R.eS hr ho) fun l h2 N=>ao (h2.pS hk) fun ob ps aQ ht hp=>?_;clear h2;subst aQ;have g:=hp.get hn;generalize hu:look kvs k=y_ at h⊢;induction y_ with
  |some u=>refine aa (g.1 u hu) fun z hz vz=>?_;exact af (za (knd:=xD w) N aS ht (strKind_is _ _ _ _) (by rw[hz];exact aY _ σ ρ P .c6 (R0.toks _) vz h))
  |none=>exact af (za (knd:=xD w) N aS ht (strKind_is _ _ _ _) (by rw[g.2 hu];exact aY _ σ ρ P .c6 (R0.toks _) vy h))
theorem FE{o:O}{r:Nat}{v:V}{a:Addr}{y:Value}{K:KV}(R:aK c σ ρ P s)(hr:ρ[r]?=some a)(ho:σ.cs[r]?=some o)(vy:VR (c.T P) ρ v y)(h:Iy o r v σ K):Wp c (call (.builtin "bytearray.extend") [.ref a,y]) (gD c ρ P K) s:=by
 refine bp R fun m news led R=>?_;induction o with
 |ba b=>refine V.ES (M:=fun a_ y=>Wp c (call _ [_,y]) _ s) h vy fun c' t h vy=>bV (R.vS hr ho) fun l' rr h2 N D back=>?_;obtain rfl:=h2;refine xn (N _ aS).1 (by rw[sizeLine_eq];simp;exact ar 75557889718025523097220157584 rfl h.1) fun h' g1 hs=>?_;rw[List.append_toArray]at g1;exact aY .none _ ρ P .c6 (back {s with heap:=h'} (.ba (b++c')) [(a,_)] (aN rfl rfl rfl) (gr R.F (N _ aS).2.1 (N _ aS).2.2 (eG hs)) (dM N D (eG hs) g1) D rfl) .none h.2
 |_=>exact False.elim h
theorem FF{k:qT}{o:O}{r:Nat}{args:List V}{a:Addr}{xs:List Value}{K:KV}(R:aK c σ ρ P s)(hr:ρ[r]?=some a)(ho:σ.cs[r]?=some o)(vs:bT (c.T P) ρ args xs)(h:KZ k o r args σ K):Wp c (call k.val (.ref a::xs)) (gD c ρ P K) s:=by
 induction k with
 |fn _=>exact False.elim h
 |app=>refine aa (dt h) fun v az h=>?_;subst az;refine aa vs.q5 fun y az vy=>?_;clear vs;subst az;exact FC R hr ho vy h
 |ext=>refine aa (dt h) fun v az h=>?_;subst az;refine aa vs.q5 fun y az vy=>?_;clear vs;subst az;exact FE R hr ho vy h
 |pop=>
  induction args using List.casesOn with
  |cons _ _=>exact False.elim h
  |nil=>
   have q_:=vs.nil_inv;clear vs;subst q_;induction o with
   |«ints» l=>exact FD R hr ho h.1 h.2.1 h.2.2
   |_=>exact False.elim h
 |get=>
  induction args using List.casesOn with
  |nil=>exact False.elim h
  |cons i l=>
   obtain⟨x,xs,rfl,vi,vs⟩:=vs.cons_inv;induction l using List.casesOn with
   |nil=>have q_:=vs.nil_inv;clear vs;subst q_;exact CC R hr ho vi h
   |cons v l=>induction l using List.casesOn with
    |cons _ _=>exact False.elim h
    |nil=>obtain⟨y,rfl,vy⟩:=vs.q5;exact CD R hr ho vi vy h
theorem gj(l:List Int):(sortI l).Perm l:=List.mergeSort_perm l _
theorem uH(l:List Int):(sortI l).Pairwise (·≤·):=by have h:=List.pairwise_mergeSort (le:=fun a b:Int=>decide (a≤b)) (fun a b c h1 h2=>by simp only[decide_eq_true_eq]at*;exact LU 27167831619 rfl h1 h2) (fun a b=>by simp only[Bool.or_eq_true,decide_eq_true_eq];exact Int.le_total _ _) l;exact h.imp fun h=>cX h
theorem pO{bw:Array Value}(ho:s.heap.get? D=some (listOf bw n))(out:Array Value):∃e,(sortedHeap s.heap D bw.toList out).get? D=some (listOf out e)∧∀b o,b≠D→s.heap.get? b=some o→(sortedHeap s.heap D bw.toList out).get? b=some o:=by have ms:∀(f:Array Value→Array Value) (xs:Array Value) (k:Nat),∃e,Obj.mapSeq f (listOf xs k)=listOf (f xs) e:=fun f xs k=>⟨_,rfl⟩;obtain⟨e1,q1⟩:=ms (fun a_=>#[]) bw n;obtain⟨e2,q2⟩:=ms (fun a_=>out) #[] e1;have g1:(s.heap.update D (Obj.mapSeq fun a_=>(#[]:Array Value))).get? D=some (listOf #[] e1):=(Heap.get?_update_self _ ho (by rw[q1];exact ff)).trans (av some q1);have g2:=Heap.get?_push_of_some (seqObj "list" #[] 0) (Heap.get?_push_of_some (seqObj "tuple" bw.toList.toArray 0) g1);refine ah e2 ((Heap.get?_update_self _ g2 (by rw[q2];exact ff)).trans (av some q2)) (fun b o hb e=>?_);refine(Heap.get?_update_ne _ _ _ _ hb).trans (Heap.get?_push_of_some _ (Heap.get?_push_of_some _ ((Heap.get?_update_ne _ _ _ _ hb).trans e)))
theorem xQ{E:dB}{bw:Array Value}{ns:List Int}{Q:dB}(ho:s.heap.get? D=some (listOf bw n))(hi:IntsAre bw.toList ns)(MA:ns.length<64)(h:∀h' out e,h'.get? D=some (listOf out e)→(∀b o,b≠D→s.heap.get? b=some o→h'.get? b=some o)→IntsAre out.toList (sortI ns)→Q .none {s with heap:=h'}):wpAny (model Prog w) A (call (.builtin "list.sort") [.ref D]) Q E s:=by
 have ug:s.heap.get? D=some (seqObj "list" bw.toList.toArray n):=by rw[Array.toArray_toList];exact ho
 refine wpAny_call_entry PyProof.Rows.slot_list_sort (ah _ ho rfl) PyProof.Rows.entry_list_sort (list_sort_tree (n:=n) (vs:=bw.toList) ug hi (by rw[hi.length];exact MA) fun out O' hI hp hP=>ah .none rfl ?_) (PyProof.Rows.args_list_sort _);obtain rfl:O'=sortI ns:=lks_uniq (hp.trans (gj ns).symm) hP (uH ns);exact aa (pO ho out) fun e g1 g2=>h _ out e g1 g2 hI
theorem xR{E:dB}{bw:Array Value}{Q:dB}(ho:s.heap.get? D=some (listOf bw n))(hi:StrsAre bw.toList ss)(MA:bw.toList.length<64)(h:∀h' out e Hv,h'.get? D=some (listOf out e)→(∀b o,b≠D→s.heap.get? b=some o→h'.get? b=some o)→StrsAre out.toList Hv→Hv.Perm ss→sortedS Hv=true→Q .none {s with heap:=h'}):wpAny (model Prog w) A (call (.builtin "list.sort") [.ref D]) Q E s:=by
 have ug:s.heap.get? D=some (seqObj "list" bw.toList.toArray n):=by rw[Array.toArray_toList];exact ho
 refine wpAny_call_entry PyProof.Rows.slot_list_sort (ah _ ho rfl) PyProof.Rows.entry_list_sort (list_sort_treeK PyProof.Rows.strKind_oneLt (n:=n) (vs:=bw.toList) ug hi.keysOf (fun Pa Pb rest e=>keyKind_strs (by rw[←e];exact hi)) MA fun QJ hp hs=>ah .none rfl ?_) (PyProof.Rows.args_list_sort _);obtain⟨Hv,h1,h2,h3⟩:=sorted_out_str hi hp hs;obtain⟨e,g1,g2⟩:=pO ho _;exact h _ _ e Hv g1 g2 h1 h2 h3
theorem zM{α:Type}{l:List α}{x y:α}(h:l.Perm [x,y]):l=[x,y]∨l=[y,x]:=by
 induction l using List.casesOn with
 |nil=>exact absurd h.length_eq (by simp)
 |cons p l=>induction l using List.casesOn with
  |nil=>exact absurd h.length_eq (by simp)
  |cons q l=>induction l using List.casesOn with
   |cons=>exact absurd h.length_eq (by simp)
   |nil=>
    rcases bD.mp (h.mem_iff.mp aS)with rfl|hp
    ·exact .inl (by rw[List.perm_singleton.mp h.cons_inv])
    ·have q_:=c9.mp hp;clear hp;subst q_;exact .inr (by rw[List.perm_singleton.mp (h.trans (List.Perm.swap ..)).cons_inv])
theorem zN{l:List Nat}{k:List Nat→Prop}{ss:List PySem.Str}(h:zq l k)(hp:ss.Perm (l.map nm))(hs:sortedS ss=true):∃ns,ss=ns.map nm∧k ns:=by
 have two:∀{a b:Nat},(a=194∧b=225)∨(a=225∧b=194)→ss.Perm [nm a,nm b]→ss=[nm 194,nm 225]:=fun IS hp=>by rcases IS with⟨rfl,rfl⟩|⟨rfl,rfl⟩<;>rcases zM hp with rfl|rfl<;>first|rfl|exact absurd hs (by decide)
 match l,h,hp with
 |[a],h,hp=>exact ah [a] (List.perm_singleton.mp hp) h
 |[a,b],h,hp=>
  have h:(match Nat.beq a 194 with
   |true=>Nat.beq b 225=true∧k [194,225]
   |false=>Nat.beq a 225=true∧Nat.beq b 194=true∧k [194,225]):=h
  generalize q:Nat.beq a 194=y_ at h⊢;induction y_ with
  |true=>exact ah [194,225] (two (.inl ⟨cY q,cY h.1⟩) hp) h.2
  |false=>exact ah [194,225] (two (.inr ⟨cY h.1,cY h.2.1⟩) hp) h.2.2
theorem zO:∀{ns:List Nat} {vs:List Value},StrsAre vs (ns.map nm)→bT T ρ (zp ns) vs:=by
 intro X_;induction X_ with
 |nil=>intro _ h;exact by cases h;exact .nil
 |cons n ns cD=>intro _ h;exact by cases h with|cons y t h=>exact .cons .str (cD h)
theorem rf{m:PySem.Str→Option Value}{news led:Led}(hh:c.A.handled=none)(R:Rep c σ ρ P s m news led){r:Nat}{a:Addr}{l:List (Nat×V)}{K:KV}(hr:ρ[r]?=some a)(ho:σ.cs[r]?=some (.dS l))(h:zq (nD l) fun ns=>K (.ref σ.cs.length) (eg σ (.list (zp ns)))):Wp c (call (.builtin "sorted") [.ref a]) (gD c ρ P K) s:=by
 refine aa (R.eS hr ho) fun _ gv N=>?_;refine ao gv fun ob ps aQ ht hp=>?_;clear gv;subst aQ;obtain⟨o',es,ep,g1,g2,g3,g4,g5,g6⟩:∃o' es ep,s.heap.get? a=some o'∧o'.ExactDict∧o'.data=.dict es ep∧PySem.KeysOf (xD w) es∧Pairs (xD w) es.toList ps∧(ps.map (·.1)).Nodup:=by exact j4 ht fun _ es ep d1 d2 d3 d4 d5=>aR ob es ep ((N _ aS).1) d1 d2 (aN d3 d4 d5)
 have hk:∀{ps:List (PySem.Str×Value)} {l:List (Nat×V)},cw (c.T P) ρ ps l→ps.map (·.1)=(nD l).map nm:=fun hp=>by
  induction hp with
  |nil=>rfl
  |cons _ _ _ ih=>rw[List.map_cons,ih];rfl
 have QK:∀l:List (Nat×V),(nD l).length=l.length:=fun l=>by
  induction l with
  |nil=>rfl
  |cons p l ih=>refine(?_:(nD l).length+1=_);rw[ih];rfl
 have hlen:ps.length≤2:=by
  have e:=av List.length (hk hp);rw[bK,bK]at e;rw[e];generalize nD l=kl at h
  match kl,h with
  |[_],_=>exact Nat.le_succ _
  |[_,_],_=>exact bF _
  |[],h=>exact h.elim
  |_::_::_::_,h=>exact h.elim
 refine af (kdu_sorted (kdl_dict (knd:=xD w) (kvs:=ps) (ep:=ep) ht.1) hh R.F R.N (fk o' es g1 g2 g3 g4 g5 g6) (by rw[sizeLine_eq];exact aC 175641484979107840 rfl hlen) fun D h' tk vs F' N' l1 hl hP=>?_)
 have hi:StrsAre vs (ps.map (·.1)):=by
  have key:∀{vs:List Value} {ps:List (PySem.Str×Value)},vs.length=ps.length→(∀(j:Nat) (v:Value),vs[j]?=some v→∃k x,ps[j]?=some (k,x)∧(xD w).is k v=true)→StrsAre vs (ps.map (·.1)):=by
   intro vs;induction vs with
   |nil=>intro ps hl _;induction ps using List.casesOn with|nil=>exact .nil|cons _ _=>cases hl
   |cons v vs ih=>
    intro ps hl hP;induction ps using List.casesOn with
    |nil=>cases hl
    |cons p ps=>refine cS (hP 0 v rfl) fun k x e1 e2=>?_;have q_:=bf e1;clear e1;subst q_;refine bg (Value.isStrOf_shape e2) fun t az=>?_;clear e2;subst az;exact .cons _ _ (ih (Nat.succ.inj hl) fun j v hj=>hP (j+1) v hj)
  exact key hl hP
 have Hw:vs.toArray.toList.length<64:=by refine(?_:vs.length<64);exact dC 19958717229073 rfl hlen hl
 refine xR (N' _ aS).1 (ss:=ps.map (·.1)) hi Hw fun jr out e Hv s1 s2 s3 s4 s5=>?_;rw[hk hp]at s4;refine aa (zN h s4 s5) fun ns az hK=>?_;clear s5;subst az;have D':(adr ((D,listOf vs.toArray 0)::news)).Nodup:=cN l1 R.D;have MB:=gr F' (N' _ aS).2.1 (N' _ aS).2.2 s2;have MC:=dM N' D' s2 s1;have Rn:=R.alloc (s':={s with heap:=jr,toks:=tk}) (o:=.list (zp ns)) (a:=D) (l':=[(D,listOf out e)]) (aN rfl rfl rfl) MB MC D' (aJ _ _ rfl ⟨e,rfl⟩ (zO s3));exact aY _ _ _ P ⟨⟨[D],rfl⟩,fun a_ h=>h⟩ Rn (.ref (by rw[←R.len];simp)) hK
theorem mr{m:PySem.Str→Option Value}{news led:Led}(hh:c.A.handled=none)(R:Rep c σ ρ P s m news led){r:Nat}{a:Addr}{o:O}{kvs:List (Int×V)}{K:KV}(hr:ρ[r]?=some a)(ho:σ.cs[r]?=some o)(hk:o.pI=some kvs)(hz:kvs.length<64)(h:K (.ref σ.cs.length) (eg σ (.ints (sortI (kvs.map (·.1)))))):Wp c (call (.builtin "sorted") [.ref a]) (gD c ρ P K) s:=by
 refine aa (R.eS hr ho) fun l h2 N=>ao (h2.pI hk) fun ob ps aQ ht hp=>?_;clear h2;subst aQ;obtain⟨o',es,ep,g1,g2,g3,g4,g5,g6⟩:∃o' es ep,s.heap.get? a=some o'∧o'.ExactDict∧o'.data=.dict es ep∧PySem.KeysOf (mG w) es∧Pairs (mG w) es.toList ps∧(ps.map (·.1)).Nodup:=by exact j4 ht fun _ es ep d1 d2 d3 d4 d5=>aR ob es ep ((N _ aS).1) d1 d2 (aN d3 d4 d5)
 have hlen:=hp.length;refine af (kdu_sorted (kdl_dict (knd:=mG w) (kvs:=ps) (ep:=ep) ht.1) hh R.F R.N (fk o' es g1 g2 g3 g4 g5 g6) (by rw[sizeLine_eq];exact dC 5386629432199981594640 rfl hz hlen) fun D h' tk vs F' N' l1 hl hP=>?_)
 have hi:IntsAre vs (ps.map (·.1)):=by
  have key:∀{vs:List Value} {ps:List (Int×Value)},vs.length=ps.length→(∀(j:Nat) (v:Value),vs[j]?=some v→∃k x,ps[j]?=some (k,x)∧(mG w).is k v=true)→IntsAre vs (ps.map (·.1)):=by
   intro vs;induction vs with
   |nil=>intro ps hl _;induction ps using List.casesOn with|nil=>exact .nil|cons _ _=>cases hl
   |cons v vs ih=>
    intro ps hl hP;induction ps using List.casesOn with
    |nil=>cases hl
    |cons p ps=>refine cS (hP 0 v rfl) fun k x e1 e2=>?_;have q_:=bf e1;clear e1;subst q_;refine bg (Value.isInt_shape e2) fun t az=>?_;clear e2;subst az;exact .cons _ _ (ih (Nat.succ.inj hl) fun j v hj=>hP (j+1) v hj)
  exact key hl hP
 refine xQ (N' _ aS).1 (ns:=ps.map (·.1)) hi (by rw[bK];exact dC 5137090144643089 rfl hz hlen) fun jr out e s1 s2 s3=>?_;have D':(adr ((D,listOf vs.toArray 0)::news)).Nodup:=cN l1 R.D;have MB:=gr F' (N' _ aS).2.1 (N' _ aS).2.2 s2;have MC:=dM N' D' s2 s1;have Rn:=R.alloc (s':={s with heap:=jr,toks:=tk}) (o:=.ints (sortI (kvs.map (·.1)))) (a:=D) (l':=[(D,listOf out e)]) (aN rfl rfl rfl) MB MC D' (aJ _ _ rfl ⟨e,rfl⟩ (by rw[←hp.keys];exact gE s3));exact aY _ _ _ P ⟨⟨[D],rfl⟩,fun a_ h=>h⟩ Rn (.ref (by rw[←R.len];simp)) h
theorem gF{m:PySem.Str→Option Value}{news led:Led}(R:Rep c σ ρ P s m news led){s':Shared}{D:Addr}{ob:Obj}{o:O}{K:KV}(hs:uw s s')(F:Fr c.g c.L s'.heap m)(N:News c.g c.L s'.heap ((D,ob)::news))(D':(adr ((D,ob)::news)).Nodup)(ho:OR w (c.T P) (ρ++[D]) D o [(D,ob)])(h:K (.ref σ.cs.length) (eg σ o)):gD c ρ P K (.ref D) s':=aY _ _ _ P ⟨⟨[D],rfl⟩,fun a_ h=>h⟩ (R.alloc (l':=[(D,ob)]) hs F N D' ho) (.ref (by rw[←R.len];simp)) h
theorem up1(h:bT T ρ vs xs):bT T (ρ++[D]) vs xs:=h.mono (fun a_ b_ h=>h) fun a_ b_ h=>fC h
theorem sM{g h h':Heap}(F:Fr g L h m)(N:News g L h news)(kp:∀b o,h.get? b=some o→h'.get? b=some o)(g1:h'.get? h.objs.size=some ob):News g L h' ((h.objs.size,ob)::news):=fun p hp=>by
 rcases bD.mp hp with rfl|hp
 ·refine aN g1 (fun e=>?_) ?_
  ·exact de F.ns fun o _ _ hL _=>absurd (Heap.lt_size hL) (by rw[←show h.objs.size=L from e];exact Nat.lt_irrefl _)
  ·generalize q:g.get? h.objs.size=y_;induction y_ with
   |none=>rfl
   |some o=>exact absurd (Heap.lt_size (F.keep _ _ q)) (Nat.lt_irrefl _)
 ·exact⟨kp _ _ (N p hp).1,(N p hp).2⟩
theorem pP(h:cc (mG w) d [] ob):cc (xD w) d [] ob:=by
 refine j4 h fun h0 es ep d1 d2 d3 d4 d5=>j6 h0 es ep d1 d2 (aN ?_ ?_ List.nodup_nil)
 ·have e:es.toList=[]:=by generalize q:es.toList=y_;induction y_ using List.casesOn with|nil=>rfl|cons e l=>rw[q]at d4;cases d4
  intro x hx;rw[←Array.mem_toList_iff,e]at hx;cases hx
 ·have e:es.toList=[]:=by generalize q:es.toList=y_;induction y_ using List.casesOn with|nil=>rfl|cons e l=>rw[q]at d4;cases d4
  rw[e];exact .nil
theorem uI{m:PySem.Str→Option Value}{news led:Led}(Ok:c.Ok lv)(R:Rep c σ ρ P s m news led){a:Addr}{ob:Obj}{r:Led}{K:KV}(N:News c.g c.L s.heap ((a,ob)::r))(ht:cc (mG w) a [] ob)(h:K (.ref σ.cs.length) (eg σ .d0)):Wp c (call (.type "dict") [.ref a]) (gD c ρ P K) s:=by
 refine af (kt_dict_K (knd:=mG w) (enc:=PyData.int) (D:=[]) R.F R.N Ok.T.nolimit (d7 ht.1 [] (ht.at N aS) .nil) (Nat.zero_le _) fun d h' o kvs F' N' l1 lo hd hf=>?_);have e:kvs=[]:=by induction kvs using List.casesOn with|nil=>rfl|cons _ _=>cases hf
 clear hf;subst e;have mT:cc (mG w) d [] o:=⟨lo,hd⟩;exact gF R (o:=.d0) (s':={s with heap:=h'}) (aN rfl rfl rfl) F' N' (cN l1 R.D) (bY _ rfl mT (pP mT)) h
theorem bT.one(h:bT T ρ [v] xs):∃y,xs=[y]∧VR T ρ v y:=by refine ao h.cons_inv fun y ys aQ v1 v2=>?_;clear h;subst aQ;rw[v2.nil_inv];exact ah y rfl v1
theorem CE{v:V}{y:Value}{K:KV}(R:aK c σ ρ P s)(v1:VR (c.T P) ρ v y)(h:KY .len [v] σ K):Wp c (call (Bi.val .len) [y]) (gD c ρ P K) s:=by
 have R0:=R;refine bp R fun m news led R=>?_;rcases V.zo h with⟨r,rfl,h⟩|⟨b,rfl,h⟩
 ·refine aa v1.bI fun a hr aQ=>?_;clear v1;subst aQ;refine aa (iX h) fun o ho h=>aa (R.eS hr ho) fun l h2 N=>?_
  have other:(match o.ER with|some n=>n≤1000000∧K (.int n) σ|none=>False)→Wp c (call (Bi.val .len) [.ref a]) (gD c ρ P K) s:=fun h=>by
   generalize hn:o.ER=y_ at h⊢;induction y_ with
   |none=>exact h.elim
   |some n=>
    obtain⟨DL,e1,e2⟩:∃DL,o.items=some DL∧n=DL.length:=by induction o<;>cases hn<;>exact ah _ rfl (by simp)
    refine ao (h2.items e1) fun ob bw aQ hq hv=>?_;clear h2;subst aQ;have hsz:=hv.size;refine af (call_len_list (fD N hq) (BR (Nat.le_of_eq (hsz.trans e2.symm)) h.1) (aY _ σ ρ P .c6 (R0.toks _) ?_ h.2));rw[hsz,←e2];exact .int
  induction o with
  |ba b=>obtain rfl:=h2;refine af (ED (N _ aS).1 (by have:=h.1;simp;exact lo1 [_] [] (.l (.v 0) (.n 1000000)) (.T (.c (.v 0)) (.n 9223372036854775808)) tt this) (aY _ σ ρ P .c6 (R0.toks _) ?_ h.2));rw[v7];exact .int
  |_=>exact other h
 ·refine bg v1.bQ fun t az=>?_;clear v1;subst az;refine af (len_bytes (by have:=h.1;simp;exact aC 75557889699002036796222650368 rfl this) (aY _ σ ρ P .c6 (R0.toks _) ?_ h.2));rw[v7];exact .int
theorem xS{v:V}{y:Value}{K:KV}(hh:c.A.handled=none)(R:aK c σ ρ P s)(v1:VR (c.T P) ρ v y)(h:KY .bytes [v] σ K):Wp c (call (Bi.val .bytes) [y]) (gD c ρ P K) s:=by
 have R0:=R;refine bp R fun m news led R=>?_;induction v using V.casesOn with
 |ref r=>
  refine aa v1.bI fun a hr aQ=>?_;clear v1;subst aQ;refine aa (iX h) fun o ho h=>aa (R.eS hr ho) fun l h2 N=>?_;induction o with
  |ba b=>obtain rfl:=h2;exact af (sj (N _ aS).1 (by have:=h.1;rw[sizeLine_eq];simp;exact aC 1152921900924713696262144 rfl this) (aY _ σ ρ P .c6 (R0.toks _) .bytes h.2))
  |list l=>refine ao h2 fun ob bw aQ hq hv=>?_;clear h2;subst aQ;refine aa (dt h) fun v az h=>?_;clear ho;subst az;obtain⟨x,rfl,h1,h2,h3⟩:=V.b8 h;obtain⟨z,e1,v3⟩:=hv.one;obtain⟨t,rfl⟩:=v3.int_inv;have e2:bw=[Value.int x t].toArray:=Array.ext' e1;clear e1 hv;subst e2;exact af (KBa.make_K R.F R.N hh (fD N hq) (.cons x t .nil) (fun n hn=>by rw[c9]at hn;exact⟨qv 4764200030323 1 [1,-1] rfl h1 hn,Ew 79916379254250551380 rfl h2 hn⟩) (by simp) fun h' t' k F' N' a_=>(aY (.bytes [x.toNat.toUInt8]) σ ρ P .c6 (R.same (s':={s with heap:=h',toks:=k}) (aN rfl rfl rfl) F' N') .bytes h3))
  |_=>exact False.elim h
 |bytes b=>refine bg v1.bQ fun t az=>?_;clear v1;subst az;exact af (nh (aY _ σ ρ P .c6 R0 .bytes h))
 |int n=>refine bg v1.int_inv fun t az=>?_;clear v1;subst az;have h:0≤n∧n≤100000∧K (.bytes (List.replicate n.toNat 0)) σ:=h;refine af (qI h.1 (aZ 115292547957227882838083 rfl h.2.1) (aY _ σ ρ P .c6 (R0.toks _) ?_ h.2.2));rw[←List.toArray_replicate];exact .bytes
 |_=>exact False.elim h
theorem FH{b:Bi}{args:List V}{xs:List Value}{K:KV}(Ok:c.Ok lv)(hh:c.A.handled=none)(R:aK c σ ρ P s)(vs:bT (c.T P) ρ args xs)(h:KY b args σ K):Wp c (call b.val xs) (gD c ρ P K) s:=by
 have R0:=R;refine bp R fun m news led R=>?_;have l1:∀p∈news,p.1<s.heap.objs.size:=fun p hp=>Heap.lt_size (R.N p hp).1;induction b with
 |len=>refine aa (dt h) fun v az h'=>?_;subst az;refine aa vs.one fun y az v1=>?_;clear vs;subst az;exact CE R0 v1 h
 |bytes=>refine aa (dt h) fun v az h'=>?_;subst az;refine aa vs.one fun y az v1=>?_;clear vs;subst az;exact xS hh R0 v1 h
 |range=>exact False.elim h
 |sorted=>
  refine aa (dt h) fun v az h'=>?_;clear h;subst az;refine aa vs.one fun y az v1=>?_;clear vs;subst az;refine aa (V.eB h') fun r az h2=>?_;clear h';subst az;refine aa v1.bI fun a hr aQ=>?_;clear v1;subst aQ;refine aa (iX h2) fun o ho h3=>?_;induction o with
  |eN l=>exact mr hh R hr ho rfl (by rw[bK];exact h3.1) (by rw[List.map_map];exact h3.2)
  |gf l=>exact mr hh R hr ho rfl (by rw[bK];exact h3.1) (by rw[List.map_map];exact h3.2)
  |dS l=>exact rf hh R hr ho h3
  |_=>exact False.elim h3
 |list=>
  refine aa (dt h) fun v az h'=>?_;clear h;subst az;refine aa vs.one fun y az v1=>?_;clear vs;subst az;refine aa (V.eB h') fun r az h2=>?_;clear h';subst az;refine aa v1.bI fun a hr aQ=>?_;clear v1;subst aQ;refine aa (iX h2) fun o ho h3=>aa (R.eS hr ho) fun l' g2 N=>?_;have copy:∀(o':O) (vs:List V),o'.items=some vs→OR w (c.T P) ρ a o' l'→vs.length≤100000→K (.ref σ.cs.length) (eg σ o')→Wp c (call (Bi.val .list) [.ref a]) (gD c ρ P K) s:=fun o' vs e g hz k=>by refine ao (g.items e) fun ob bw aQ hq hv=>?_;clear g g2;subst aQ;have hsz:=hv.size;exact af (list_copyK R.F R.N (fD N hq) (fun D e2 h' F' N' l1=>(gF R (o:=o') (s':={s with heap:=h'}) (aN rfl rfl rfl) F' N' (cN l1 R.D) (OR.nz e ⟨e2,rfl⟩ (up1 hv)) k)) (by rw[sizeLine_eq];exact dC 21875957299841876562573328 rfl hz hsz))
  induction o with
  |«ints» l=>exact copy (.ints l) _ rfl g2 (by rw[bK];exact h3.1) h3.2
  |list l=>exact copy (.list l) _ rfl g2 h3.1 h3.2
  |_=>exact False.elim h3
 |dict=>
  refine aa (dt h) fun v az h'=>?_;clear h;subst az;refine aa vs.one fun y az v1=>?_;clear vs;subst az;refine aa (V.eB h') fun r az h2=>?_;clear h';subst az;refine aa v1.bI fun a hr aQ=>?_;clear v1;subst aQ;refine aa (iX h2) fun o ho h3=>?_;induction o with
  |d0=>refine aa (R.eS hr ho) fun l' gv N=>?_;refine cg gv fun ob az ht _=>?_;clear gv;subst az;exact uI Ok R N ht h3
  |_=>exact False.elim h3
 |bytearray=>
  induction args using List.casesOn with
  |nil=>have q_:=vs.nil_inv;clear vs;subst q_;exact B8 fun h' g1 kp=>gF R (s':={s with heap:=h'}) (o:=.ba []) (ob:=dD #[]) (aN rfl rfl rfl) (R.F.keeps kp) (sM R.F R.N kp g1) (cN l1 R.D) rfl h
  |cons v l=>induction l using List.casesOn with
   |nil=>refine aa vs.one fun y az v1=>?_;clear vs;subst az;refine aa (V.gZ h) fun d az h2=>?_;clear h;subst az;refine bg v1.bQ fun t az=>?_;clear v1;subst az;exact vM (by have:=h2.1;rw[sizeLine_eq];simp;exact aC 115292546778551417862144 rfl this) fun h' g1 kp=>gF R (s':={s with heap:=h'}) (o:=.ba _) (ob:=dD _) (aN rfl rfl rfl) (R.F.keeps kp) (sM R.F R.N kp g1) (cN l1 R.D) rfl h2.2
   |cons _ _=>exact False.elim h
 |max=>
  induction args using List.casesOn with
  |nil=>exact False.elim h
  |cons v l=>refine aa (V.b8 h) fun x az h2=>?_;clear h;subst az;refine aa (dt h2) fun v' az h3=>?_;clear h2;subst az;refine aa (V.b8 h3) fun z az h4=>?_;clear h3;subst az;refine ao vs.cons_inv fun y ys aQ v1 v2=>?_;clear vs;subst aQ;refine aa v2.one fun y2 az v3=>?_;clear v2;subst az;refine bg v1.int_inv fun t az=>?_;clear v1;subst az;refine bg v3.int_inv fun u az=>?_;clear v3;subst az;exact af (max_two_N hh R.F R.N fun h' tk F' N'=>aY _ σ ρ P .c6 (R.same (s':={s with heap:=h',toks:=tk}) (aN rfl rfl rfl) F' N') .int h4)
 |int=>
  refine aa (dt h) fun v az h'=>?_;clear h;subst az;refine aa vs.one fun y az v1=>?_;clear vs;subst az;induction v using V.casesOn with
  |int x=>refine bg v1.int_inv fun t az=>?_;subst az;exact af (call_int_int (aY _ σ ρ P .c6 R0 .int h'))
  |bool b=>obtain rfl:=v1.bool_inv;exact af (call_int_bool (aY _ σ ρ P .c6 (R0.toks _) .int h'))
  |_=>exact False.elim h'
theorem kH{b:aD}{lo hi:Option Int}(h1:∀x,lo=some x→0≤x)(h2:∀x,hi=some x→0≤x):sliceBounds lo hi none b.toArray.size=(((min (lo.elim 0 Int.toNat) b.length:Nat):Int),((min (hi.elim b.length Int.toNat) b.length:Nat):Int),1):=by
 rw[sliceBounds_plain]
 have e1:lo.elim 0 (clipAt b.toArray.size)=min (lo.elim 0 Int.toNat) b.length:=by
  induction lo with
  |none=>simp
  |some x=>refine(?_:clipAt _ x=min x.toNat _);rw[mU (h1 x rfl)];simp
 have e2:hi.elim b.toArray.size (clipAt b.toArray.size)=min (hi.elim b.length Int.toNat) b.length:=by
  induction hi with
  |none=>simp
  |some x=>refine(?_:clipAt _ x=min x.toNat _);rw[mU (h2 x rfl)];simp
 rw[e1,e2]
theorem xT{a b:Nat}(h:a≤b):(max (a:Int) (b:Int)).toNat=b:=by rw[Int.max_eq_right (Int.ofNat_le.mpr h)];rfl
theorem xU{r:Nat}{a:Addr}{b d:aD}{x y:Int}{l u:Value}{t:Tok}{K:KU}(R:aK c σ ρ P s)(hr:ρ[r]?=some a)(ho:σ.cs[r]?=some (.ba b))(vl:VR (c.T P) ρ (.int x) l)(vu:VR (c.T P) ρ (.int y) u)(h1:0≤x)(h2:x≤b.length)(h3:x≤y)(hz:b.length+d.length≤1000000)(h:K ⟨σ.vars,σ.cs.set r (.ba (b.take x.toNat++d++b.drop y.toNat))⟩):Wp c (setItem (.ref a) (.ref s.heap.objs.size) (.bytes d.toArray t)) (fun a_ s'=>DK c ρ P K s') {s with heap:=s.heap.push {cls:=.type "slice",data:=.fields #[l,u,.none]}}:=by
 refine bp (R.sC {cls:=.type "slice",data:=.fields #[l,u,.none]}) fun m news led R=>bV (R.vS hr ho) fun l' rr g2 N D back=>?_;obtain rfl:=g2;have hg:=(N _ aS).1;have pl:gi (.int x) (some x):=.int h1;have pu:gi (.int y) (some y):=.int (Ew 5786402246771 rfl h1 h3);have hb:=kH (b:=b) pl.ge pu.ge
 have e:cutAt b.toArray d.toArray (some x) (some y)=(b.take x.toNat++d++b.drop y.toNat).toArray:=by
  unfold cutAt;rw[hb];apply Array.ext';simp only[Option.elim];have e1:(min x.toNat b.length)=x.toNat:=cq (iw 4528252661776 rfl h2 (aA (aZ 1081294963 rfl h1)));rw[e1];have e2:(max ((x.toNat:Nat):Int) ((min y.toNat b.length:Nat):Int)).toNat=min y.toNat b.length:=xT (Nat.le_min.mpr ⟨Int.toNat_le_toNat h3,iw 4528252661776 rfl h2 (aA (aZ 1081294963 rfl h1))⟩);rw[e2];simp only[Array.toList_append,Array.toList_extract,List.extract_eq_take_drop,List.drop_zero,Nat.sub_zero,Int.toNat_natCast];congr 1;simp only[List.size_toArray];rw[List.take_of_length_le (by simp)];rcases Nat.le_total y.toNat b.length with q|q
  ·rw[cq q]
  ·rw[Nat.min_eq_right q,List.drop_of_length_le (bF _),List.drop_of_length_le q]
 refine xo hg (Heap.IsSliceOf.new _ _ _ _) (pl.is vl) (pu.is vu) (by rw[hb]) (by rw[sizeLine_eq];simp;exact ar 295148006711037199598516240 rfl hz) (by rw[e,sizeLine_eq];simp;exact gn 3988352367281832286698900381244691088 1 [2,1,1] rfl hz (Nat.min_le_right _ _) (Nat.sub_le _ _)) fun h' g1 kp=>?_;rw[e]at g1;exact ah _ (back {s with heap:=h'} (.ba _) [(a,_)] (aN rfl rfl rfl) (gr R.F (N _ aS).2.1 (N _ aS).2.2 kp) (dM N D kp g1) D rfl) h
theorem zP(x:Nat)(N:Nat):∀(b:aD) (i:Nat),i+b.length≤N→((b.zipIdx i).filterMap fun(y,k)=>if Builtin.Bytes.selects (x:Int) (N:Int) 1 k then none else some y)=b.take (x-i):=by
 intro X_;induction X_ with
 |nil=>exact fun i _=>by simp
 |cons y b cD=>
  intro i h;rw[cB]at h;have ih:=cD (i+1) (bG 2409866224324774288 rfl h);rw[List.zipIdx_cons,List.filterMap_cons]
  have sel:Builtin.Bytes.selects (x:Int) (N:Int) 1 i=decide (x≤i):=by
   unfold Builtin.Bytes.selects;simp only[Int.emod_one,beq_self_eq_true,Bool.and_true];rw[aB (by decide)];by_cases q:x≤i
   ·simp[q];exact bG 2298227524097 rfl h
   ·simp[q]
  simp only[sel];by_cases q:x≤i
  ·simp only[q,decide_true,if_true];rw[ih];have e1:x-i=0:=by exact bo (aC 117573376 rfl (Nat.sub_eq_zero_of_le (ar 1048832 rfl q))) (bX 112 rfl)
   have e2:x-(i+1)=0:=by exact bo (aC 117573376 rfl (Nat.sub_eq_zero_of_le (ar 4296481024 rfl q))) (bX 112 rfl)
   rw[e1,e2];simp
  ·simp only[q,decide_false,Bool.false_eq_true,if_false];rw[ih];have e1:x-i=(x-(i+1))+1:=by exact bo (jl 9870825600813796636928 1 [1,-1] rfl (aG (ar 1073168 rfl q)) (aG (ar 4395725200 rfl q))) (jl 9870825600813795210128 1 [-1,1] rfl (aG (ar 1073168 rfl q)) (aG (ar 4395725200 rfl q)))
   rw[e1,List.take_succ_cons]
theorem xV{r:Nat}{a:Addr}{b:aD}{x:Int}{l u:Value}{K:KU}(R:aK c σ ρ P s)(hr:ρ[r]?=some a)(ho:σ.cs[r]?=some (.ba b))(vl:VR (c.T P) ρ (.int x) l)(vu:VR (c.T P) ρ .none u)(h1:0≤x)(hz:b.length≤1000000)(h:K ⟨σ.vars,σ.cs.set r (.ba (b.take x.toNat))⟩):Wp c (delItem (.ref a) (.ref s.heap.objs.size)) (fun a_ s'=>DK c ρ P K s') {s with heap:=s.heap.push {cls:=.type "slice",data:=.fields #[l,u,.none]}}:=by
 refine bp (R.sC {cls:=.type "slice",data:=.fields #[l,u,.none]}) fun m news led R=>bV (R.vS hr ho) fun l' rr g2 N D back=>?_;obtain rfl:=g2;have hg:=(N _ aS).1;have pl:gi (.int x) (some x):=.int h1;have pu:gi .none none:=.none;have hb:=kH (b:=b) pl.ge pu.ge
 have e:(b.toArray.toList.zipIdx.filterMap fun(y,k)=>if Builtin.Bytes.selects (sliceBounds (some x) none none b.toArray.size).1 (sliceBounds (some x) none none b.toArray.size).2.1 1 k then none else some y)=b.take x.toNat:=by
  rw[hb];simp only[Option.elim,Nat.min_self];have:=zP (min x.toNat b.length) b.length b 0 (bX 1936 rfl);rw[this,Nat.sub_zero];rcases Nat.le_total x.toNat b.length with q|q
  ·rw[cq q]
  ·rw[Nat.min_eq_right q,List.take_of_length_le (bF _),List.take_of_length_le q]
 refine xp hg (Heap.IsSliceOf.new _ _ _ _) (pl.is vl) (pu.is vu) (by rw[hb]) (by rw[sizeLine_eq];simp;exact aC 1152921900924713696262144 rfl hz) fun h' g1 kp=>?_;rw[e]at g1;exact ah _ (back {s with heap:=h'} (.ba _) [(a,_)] (aN rfl rfl rfl) (gr R.F (N _ aS).2.1 (N _ aS).2.2 kp) (dM N D kp g1) D rfl) h
set_option tactic.hygienic true in
theorem zQ(h:cF ρ (some (p,j)) ps l tl):cF ρ none (without ps p) (kg l p) tl:=by
 induction h with
 |nil=>exact .nil
 |own hn ho hi r ih=>
  rename_i q b ys ob xs ps l tl;have e:q≠p:=fun e=>hn j (by rw[e]);have e1:without ((q,Value.ref b)::ps) p=(q,.ref b)::without ps p:=by unfold without;rw[List.filter_cons,aB (by simp[e])]
  have e2:kg ((q,xs)::l) p=(q,xs)::kg l p:=by unfold kg;rw[List.filter_cons,aB (by simp[e])]
  rw[e1,e2];exact .own (fun j' z=>nomatch z) ho hi ih
 |hole e hb r ih=>
  rename_i q j' b xs ps l tl;cases e;have e1:without ((p,Value.ref b)::ps) p=without ps p:=by unfold without;rw[List.filter_cons,aH (by simp)]
  have e2:kg ((p,xs)::l) p=kg l p:=by unfold kg;rw[List.filter_cons,aH (by simp)]
  rw[e1,e2];exact ih
theorem xW{r j:Nat}{a:Addr}{x:Int}{l:List (Int×List Int)}{t:Tok}{K:KU}(R:aK c σ ρ P s)(hr:ρ[r]?=some a)(ho:σ.cs[r]?=some (.rows l (some (x,j))))(hx:x∈aj l)(hz:l.length≤100000)(h:K ⟨σ.vars,σ.cs.set r (.rows (kg l x) none)⟩):Wp c (delItem (.ref a) (.int x t)) (fun a_ s'=>DK c ρ P K s') s:=by
 refine bp R fun m news led R=>bV (R.vS hr ho) fun l' rr pL N D back=>?_;refine bS pL fun ob ps tl ew ht hp=>?_;clear pL;subst ew;refine aa (wa hp hx) fun b hb hv=>?_;have hl:ps.length=l.length:=by have:=av List.length hp.keys;simpa[aj]using this
 exact af (Ia (knd:=mG w) R.F N (lH D) ht (intKind_is _ _ _ _) (dC 85452958202509588977680 rfl hz hl) (by rw[hv];exact tt) fun h' i0 F' N' mT=>(ah _ (back {s with heap:=h',toks:=s.toks+1} (.rows (kg l x) none) ((a,i0)::tl) (aN rfl rfl rfl) F' N' D (bz i0 _ tl rfl mT (zQ hp))) h))
end
section
variable{w:World}{T T':dK}{ρ aI:List Addr}{κ:List Nat}
theorem bU.fg(h:jw κ ρ aI):∀{es:List DictEntry},bU w T ρ es (oZ κ fs)→bU w T aI es fs:=by
 induction fs with
 |nil=>intro es h';cases h';exact .nil
 |cons p fs ih=>intro es h';obtain⟨n,v⟩:=p;cases(show bU w T ρ es ((n,v.eP κ)::oZ κ fs) from h')with|cons a b d=>exact .cons a (VR.fg h _ b) (ih d)
theorem bU.eP(h:kn κ ρ aI)(hn:aI.length≤κ.length)(h':bU w T aI es fs):bU w T ρ es (oZ κ fs):=by
 induction h' with
 |nil=>exact .nil
 |cons a b _ ih=>exact .cons a (VR.eP h hn _ b) ih
theorem cw.fg(h:jw κ ρ aI):∀{es:List (PySem.Str×Value)},cw T ρ es (oZ κ fs)→cw T aI es fs:=by
 induction fs with
 |nil=>intro es h';cases h';exact .nil
 |cons p fs ih=>intro es h';obtain⟨n,v⟩:=p;cases(show cw T ρ es ((n,v.eP κ)::oZ κ fs) from h')with|cons a b d=>exact .cons a (VR.fg h _ b) (ih d)
theorem cw.eP(h:kn κ ρ aI)(hn:aI.length≤κ.length)(h':cw T aI es fs):cw T ρ es (oZ κ fs):=by
 induction h' with
 |nil=>exact .nil
 |cons a b _ ih=>exact .cons a (VR.eP h hn _ b) ih
noncomputable def V.flat:V→Bool
 |.none=>true|.int _=>true|.str _=>true|.bytes _=>true|.tup vs=>vs.all fun v=>match v with|.int _=>true|.str _=>true|.bytes _=>true|_=>false
 |_=>false
theorem VR.flat{v:V}(hf:v.flat=true)(h:VR T ρ v x):VR T aI v x:=by
 induction v using V.casesOn with
 |none=>rw[h.none_inv];exact .none
 |int i=>refine bg h.int_inv fun t az=>?_;clear h;subst az;exact .int
 |str i=>refine bg h.str_inv fun t az=>?_;clear h;subst az;exact .str
 |bytes i=>refine bg h.bQ fun t az=>?_;clear h;subst az;exact .bytes
 |tup vs=>
  refine bS h.fb fun a bw e ew h1 h2=>?_;clear h;subst ew;refine .tup h1 ?_
  have key:∀{vs:List V} {xs:List Value},(vs.all fun v=>match v with|.int _=>true|.str _=>true|.bytes _=>true|_=>false)=true→bT T ρ vs xs→bT T aI vs xs:=by
   intro vs;induction vs with
   |nil=>intro xs _ h;rw[h.nil_inv];exact .nil
   |cons v vs ih=>intro xs hv h;rw[List.all_cons,Bool.and_eq_true]at hv;refine ao h.cons_inv fun y ys aQ h1 h2=>?_;clear h;subst aQ;refine .cons ?_ (ih hv.2 h2);induction v using V.casesOn<;>first|(refine bg h1.int_inv fun t az=>?_;subst az;exact .int)|(refine bg h1.str_inv fun t az=>?_;subst az;exact .str)|(refine bg h1.bQ fun t az=>?_;subst az;exact .bytes)|exact absurd hv.1 cz
  exact key hf h2
 |_=>exact fT hf
theorem bT.flat:∀{xs:List Value},(∀v∈vs,v.flat=true)→bT T ρ vs xs→bT T aI vs xs:=by
 induction vs with
 |nil=>intro xs _ h;rw[h.nil_inv];exact .nil
 |cons v vs ih=>intro xs hv h;refine ao h.cons_inv fun y ys aQ h1 h2=>?_;clear h;subst aQ;exact .cons (h1.flat (hv v aS)) (ih (fun u hu=>hv u (cO _ hu)) h2)
theorem gG{α:Type}{f:α→V}(hf:∀a,(f a).flat=true)(l:List α):∀v∈l.map f,v.flat=true:=fun v hv=>by refine aa (bO.mp hv) fun a _ aQ=>?_;clear hv;subst aQ;exact hf a
theorem sO(a:Option Int):(V.opt a).flat=true:=by induction a<;>exact tt
theorem wb(a:Op):(Op.v a).flat=true:=by induction a<;>exact tt
theorem cU.flat:∀{ps:List (Int×Value)},(∀p∈kvs,p.2.flat=true)→cU T ρ ps kvs→cU T aI ps kvs:=by
 induction kvs with
 |nil=>intro ps _ h;cases h;exact .nil
 |cons p kvs ih=>intro ps hv h;cases h with|cons a b=>exact .cons (a.flat (hv _ aS)) (ih (fun u hu=>hv u (cO _ hu)) b)
theorem cF.sP(h:cF ρ none ps l tl):cF aI none ps l tl:=by
 induction h with
 |nil=>exact .nil
 |own a b d _ ih=>exact .own a b d ih
 |hole a=>exact nS a
theorem cF.Pc(hi:∀a,ρ[j]?=some a→aI[i]?=some a)(h:cF ρ (some (p,j)) ps l tl):cF aI (some (p,i)) ps l tl:=by
 induction h with
 |nil=>exact .nil
 |own a b d _ ih=>exact .own (fun k e=>a j (by injection e with e;injection e with e1 _;rw[e1])) b d ih
 |hole a b _ ih=>cases a;exact .hole rfl (hi _ b) ih
theorem pQ{l:List (Int×Int)}:∀p∈l.map (fun p=>(p.1,V.int p.2)),p.2.flat=true:=fun p hp=>by refine aa (bO.mp hp) fun a _ aQ=>?_;clear hp;subst aQ;exact tt
theorem pR{l:List (Int×aD)}:∀p∈l.map (fun p=>(p.1,V.bytes p.2)),p.2.flat=true:=fun p hp=>by refine aa (bO.mp hp) fun a _ aQ=>?_;clear hp;subst aQ;exact tt
set_option tactic.hygienic true in
theorem OR.fg(h:jw κ ρ aI){o:O}(h':OR w T ρ a (o.eP κ) l):OR w T aI a o l:=by
 induction o with
 |dead=>exact h'
 |ba=>exact h'
 |d0=>exact h'
 |inst=>refine de h' fun d es n e f=>?_;exact dF d es n e (f.fg h)
 |rows r hd=>
  induction hd with
  |none=>refine bS h' fun ob ps tl e t r=>?_;exact bz ob ps tl e t r.sP
  |some p=>
   unfold O.eP at h';dsimp only at h';generalize hj:κ[p.2]?=y_ at h';induction y_ using Option.casesOn with
   |some j=>refine bS h' fun ob ps tl e t r=>?_;exact bz ob ps tl e t (r.Pc (fun a=>h _ _ a hj))
   |none=>refine ao h' fun ob bw e q r=>ao r.cons_inv fun y ys _ h1 _=>?_;cases h1
 |eN=>refine ao h' fun ob ps e t r=>?_;exact aJ ob ps e t (r.flat pQ)
 |gf=>refine ao h' fun ob ps e t r=>?_;exact aJ ob ps e t (r.flat pR)
 |dS=>refine ao h' fun ob ps e t r=>?_;exact aJ ob ps e t (r.fg h)
 |list=>refine ao h' fun bw n e q r=>?_;exact aJ bw n e q (bT.fg h _ r)
 |«ints»=>refine ao h' fun bw n e q r=>?_;exact aJ bw n e q (r.flat (gG (fun a_=>rfl) _))
 |opts=>refine ao h' fun bw n e q r=>?_;exact aJ bw n e q (r.flat (gG sO _))
 |ops=>refine ao h' fun bw n e q r=>?_;exact aJ bw n e q (r.flat (gG wb _))
 |cell v=>refine ao h' fun ob x e q r=>?_;exact aJ ob x e q (r.fg h)
theorem OR.eP(h:kn κ ρ aI)(hn:aI.length≤κ.length){o:O}(ho:o.cG=true)(h':OR w T aI a o l):OR w T ρ a (o.eP κ) l:=by
 induction o with
 |dead=>exact h'
 |ba=>exact h'
 |d0=>exact h'
 |inst=>refine de h' fun d es n e f=>?_;exact dF d es n e (f.eP h hn)
 |rows r hd=>
  induction hd with
  |none=>refine bS h' fun ob ps tl e t r=>?_;exact bz ob ps tl e t r.sP
  |some p=>exact fT ho
 |eN=>refine ao h' fun ob ps e t r=>?_;exact aJ ob ps e t (r.flat pQ)
 |gf=>refine ao h' fun ob ps e t r=>?_;exact aJ ob ps e t (r.flat pR)
 |dS=>refine ao h' fun ob ps e t r=>?_;exact aJ ob ps e t (r.eP h hn)
 |list=>refine ao h' fun bw n e q r=>?_;exact aJ bw n e q (bT.eP h hn _ r)
 |«ints»=>refine ao h' fun bw n e q r=>?_;exact aJ bw n e q (r.flat (gG (fun a_=>rfl) _))
 |opts=>refine ao h' fun bw n e q r=>?_;exact aJ bw n e q (r.flat (gG sO _))
 |ops=>refine ao h' fun bw n e q r=>?_;exact aJ bw n e q (r.flat (gG wb _))
 |cell v=>refine ao h' fun ob x e q r=>?_;exact aJ ob x e q (r.eP h hn)
theorem zh.to(h:zh o o1)(hd:o≠.dead)(h':OR w T ρ a o1 l):OR w T ρ a o l:=by
 induction o with
 |dead=>exact absurd rfl hd
 |«ints» x=>induction o1 with
  |list vs=>obtain rfl:vs=x.map .int:=h;exact h'
  |_=>exact(show O.ints x=_ from h)▸h'
 |opts x=>induction o1 with
  |list vs=>obtain rfl:vs=x.map V.opt:=h;exact h'
  |«ints» l'=>obtain rfl:x=l'.map some:=h;exact ao h' fun ob bw e q r=>aJ ob bw e q (kA l'▸r)
  |_=>exact(show O.opts x=_ from h)▸h'
 |ops x=>induction o1 with
  |list vs=>obtain rfl:vs=x.map Op.v:=h;exact h'
  |_=>exact(show O.ops x=_ from h)▸h'
 |eN x=>induction o1 with
  |d0=>obtain rfl:x=[]:=h;refine cg h' fun ob e t _=>?_;exact aJ ob [] e t .nil
  |_=>exact(show O.eN x=_ from h)▸h'
 |gf x=>induction o1 with
  |d0=>obtain rfl:x=[]:=h;refine cg h' fun ob e t _=>?_;exact aJ ob [] e t .nil
  |_=>exact(show O.gf x=_ from h)▸h'
 |dS x=>induction o1 with
  |d0=>obtain rfl:x=[]:=h;refine cg h' fun ob e _ t=>?_;exact aJ ob [] e t .nil
  |_=>exact(show O.dS x=_ from h)▸h'
 |rows x hh=>induction o1 with
  |d0=>refine fz h fun fQ az=>?_;clear h hd;subst fQ;subst az;refine cg h' fun ob e t _=>?_;exact bz ob [] [] e t .nil
  |_=>exact(show O.rows x hh=_ from h)▸h'
 |inst c fs=>exact(show O.inst c fs=_ from h)▸h'
 |ba b=>exact(show O.ba b=_ from h)▸h'
 |cell v=>exact(show O.cell v=_ from h)▸h'
 |list vs=>exact(show O.list vs=_ from h)▸h'
 |d0=>exact(show O.d0=_ from h)▸h'
theorem mu(h:bW (i::is)=true):i∉is∧bW is=true:=by obtain⟨h1,h2⟩:=Bool.and_eq_true_iff.mp h;refine⟨fun hm=>?_,h2⟩;have:=List.all_eq_true.mp h1 i hm;rw[Nat.beq_refl]at this;exact fT this
theorem vT.set{cs:List O}:∀{is:List Nat} {os:List O},i∉is→vT κ cs is os→vT κ (cs.set i o) is os:=by
 intro is;induction is with
 |nil=>intro os _ h;induction os using List.casesOn with|nil=>trivial|cons _ _=>exact h.elim
 |cons j is ih=>
  intro os hi h;induction os using List.casesOn with
  |nil=>exact h.elim
  |cons o' os=>rw[bD,not_or]at hi;refine⟨?_,ih hi.2 h.2⟩;rw[List.getElem?_set_ne hi.1];exact h.1
theorem sQ{o:O}(h:o.eP κ=.dead):o=.dead:=by
 induction o with
 |dead=>rfl
 |rows l h'=>induction h' with
  |none=>exact O.noConfusion h
  |some p=>have h:(match κ[p.2]? with|some j=>O.rows l (some (p.1,j))|none=>O.list [.bad])=.dead:=h;cases q:κ[p.2]?<;>rw[q]at h<;>cases h
 |_=>cases h
theorem lK{o:O}(h:o.isDead=true):o=.dead:=by induction o<;>first|rfl|cases h
theorem uJ{o:O}(h:o.isDead=false):o≠.dead:=fun e=>by subst e;exact tF h
theorem nP(hT:jw κ ρ aI){is:List Nat}:∀{cs os:List O} {led:Led},bW is=true→vT κ cs is os→aP w T ρ ρ cs led→∃lp lr,led.Perm (lp++lr)∧aP w T aI (is.map fun i=>ρ.getD i 0) os lp∧aP w T ρ ρ (kill cs is os) lr:=by
 induction is with
 |nil=>
  intro cs os led _ hm h;induction os using List.casesOn with
  |nil=>exact aJ [] led (.refl _) .nil h
  |cons _ _=>exact hm.elim
 |cons i is ih=>
  intro cs os led hn hm h;induction os using List.casesOn with
  |nil=>exact hm.elim
  |cons o os=>
   obtain⟨hi,hn⟩:=mu hn;obtain⟨DM,NR⟩:=hm;refine(?_:∃lp lr,led.Perm (lp++lr)∧aP w T aI (ρ.getD i 0::is.map fun i=>ρ.getD i 0) (o::os) lp∧aP w T ρ ρ (match o.isDead with|true=>kill cs is os|false=>kill (cs.set i .dead) is os) lr);generalize hd:o.isDead=y_;induction y_ with
   |true=>have q_:=lK hd;clear hd DM;subst q_;exact ao (ih hn NR h) fun lp lr h1 h2 h3=>aJ lp lr h1 (aP.cons (l:=[]) rfl h2) h3
   |false=>
    have hd:=uJ hd;generalize q:cs[i]?=y_ at DM⊢;induction y_ with
    |none=>exact absurd DM hd
    |some o1=>
     refine br (h.focus q) fun a l r g1 g2 g3 g4=>aa (g4 ρ (fun a_ b_ h=>h) .dead [] rfl) fun bx c1 c2=>ao (ih hn (NR.set hi) c1) fun lp lr h1 h2 h3=>?_;have ea:ρ.getD i 0=a:=by rw[cW,g1];rfl
     have pr:r.Perm (lp++lr):=c2.symm.trans h1;refine aJ (l++lp) lr ?_ (aP.cons (by refine(?_:OR w T aI (ρ.getD i 0) o l);rw[ea];exact(zh.to DM (fun e=>hd (sQ e)) g2).fg hT) h2) h3;rw[bC];exact g3.trans (pr.append_left l)
theorem sR{os:List O}:∀{is:List Nat} {cs:List O},(kill cs is os).length=cs.length:=by
 induction os with
 |nil=>intro is cs;induction is using List.casesOn<;>rfl
 |cons o os ih=>
  intro is cs;induction is using List.casesOn with
  |nil=>rfl
  |cons i is=>
   refine(?_:(match o.isDead with|true=>kill cs is os|false=>kill (cs.set i .dead) is os).length=_);cases o.isDead with
   |true=>exact ih
   |false=>exact ih.trans List.length_set
set_option tactic.hygienic true in
theorem xX(hT:kn κ ρn aI)(hn:aI.length≤κ.length){is:List Nat}:∀{as:List Addr} {cs os:List O} {lr lp:Led},(∀i∈is,i<cs.length)→is.length=os.length→(∀(k i:Nat),is[k]?=some i→as[k]?=ρ[i]?)→os.all O.cG=true→aP w T aI as os lp→aP w T ρn ρ cs lr→∃l gb,aP w T ρn ρ (putAll κ cs is os) l∧(l++gb).Perm (lp++lr):=by
 induction is with
 |nil=>
  intro as cs os lr lp _ hl _ _ hp hr;induction os using List.casesOn with
  |nil=>cases hp;exact cL lr [] hr (by rw[List.append_nil];exact .refl _)
  |cons _ _=>cases hl
 |cons i is ih=>
  intro as cs os lr lp hd hl ha hh hp hr;induction os using List.casesOn with
  |nil=>cases hl
  |cons o os=>
   cases hp with
   |cons ho hp=>
   rename_i a as l lp;rw[List.all_cons,Bool.and_eq_true]at hh;refine(?_:∃l_ gb,aP w T ρn ρ (match o.isDead with|true=>putAll κ cs is os|false=>putAll κ (cs.set i (o.eP κ)) is os) l_∧(l_++gb).Perm _);generalize NS:o.isDead=y_;induction y_ with
   |true=>have q_:=lK NS;clear NS;subst q_;obtain rfl:l=[]:=ho;exact ih (as:=as) (fun j hj=>hd j (cO _ hj)) (Nat.succ.inj hl) (fun k j hk=>ha (k+1) j hk) hh.2 hp hr
   |false=>
    refine br (hr.focus (cn (hd i aS))) fun a' l0 r g1 g2 g3 g4=>?_;have ea:a=a':=by have:=ha 0 i rfl;rw[g1]at this;exact bf this
    clear g1 g2;subst ea;refine aa (g4 ρn (fun a_ b_ h=>h) (o.eP κ) l (ho.eP hT hn hh.1)) fun bx c1 c2=>?_;refine cS (ih (as:=as) (fun j hj=>by rw[List.length_set];exact hd j (cO _ hj)) (Nat.succ.inj hl) (fun k j hk=>ha (k+1) j hk) hh.2 hp c1) fun l2 gb e1 e2=>cL l2 (gb++l0) e1 ?_;rw[←bC];refine(e2.append_right l0).trans (((c2.append_left lp).append_right l0).trans (List.Perm.trans ?_ ((List.perm_append_comm (l₁:=lp) (l₂:=l)).append_right lr)));rw[bC,bC,bC];exact(List.Perm.append_left l (List.perm_append_comm.trans g3.symm)).append_left lp
theorem xY(hT:kn κ ρn aI)(hn:aI.length≤κ.length){os:List O}(h:aP w T aI as os l)(hh:os.all O.cG=true):aP w T ρn as (iD κ os) l:=by
 induction h with
 |nil=>exact .nil
 |cons ho _ ih=>rw[List.all_cons,Bool.and_eq_true]at hh;exact .cons (ho.eP hT hn hh.1) (ih hh.2)
theorem aP.app(h:aP w T ρ as cs l)(h':aP w T ρ Pd cs' l'):aP w T ρ (as++Pd) (cs++cs') (l++l'):=by
 induction h with
 |nil=>exact h'
 |cons a _ ih=>rw[bC];exact .cons a ih
theorem aP.part{as:List Addr}{cs:List O}(h:aP w T ρ as cs l):∀k,∃l1 l2,l=l1++l2∧aP w T ρ (as.take k) (cs.take k) l1∧aP w T ρ (as.drop k) (cs.drop k) l2:=by
 induction h with
 |nil=>intro k;exact aJ [] [] rfl (by simpa using .nil) (by simpa using .nil)
 |cons a h ih=>
  intro k;induction k using Nat.casesAuxOn with
  |zero=>exact aJ [] _ rfl .nil (.cons a h)
  |succ k=>refine ao (ih k) fun l1 l2 aQ h1 h2=>?_;clear h ih;subst aQ;exact aJ _ l2 ((bC _ _ _).symm) (.cons a h1) h2
theorem mw:∀{l:List O} {n k:Nat},k<l.length→(kr n l)[k]?=some (n+k)
 |_::l,n,0,_=>rfl
 |_::l,n,k+1,h=>by refine(?_:(n::kr (n+1) l)[k+1]?=_);rw[List.getElem?_cons_succ,mw (Nat.lt_of_succ_lt_succ h)];congr 1;exact bo (fo 406340700146064 rfl) (fo 306804838994064 rfl)
theorem iG:∀(l:List O) (n:Nat),(kr n l).length=l.length
 |[]=>fun _=>rfl
 |_::l=>fun n=>av (·+1) (iG l (n+1))
end
set_option tactic.hygienic true
section
variable{w:World}{c:Cx w}{lv:Nat}{σ:St}{ρ:List Addr}{P:Led}{s:Shared}{X:St→Prop}
def nQ(c:Cx w)(X:St→Prop):Prop:=
 ∀(σ':St) (aI:List Addr) (P' bx:Led) (hs h':Heap) (m:PySem.Str→Option Value) (news pre rest post:Led) (e:Addr) (tk:Nat),
  Fr c.g c.L hs m→News c.g c.L hs news→(adr news).Nodup→news.Perm (pre++rest)→il (hideAll hs (adr pre)) (c.env::c.stack) post h' e→(adr (post++rest)).Nodup→
  (post++rest).Perm (bx++P')→aP w (c.T P') aI aI σ'.cs bx→(∀p∈c.K,aI[p.1]?=some p.2)→jx (c.T P') aI σ'.vars m→X σ'→c.E (.ref e) ⟨h',c.gens,c.drawn,tk,c.os⟩
theorem nR{aI cj:List Addr}{κ:List Nat}{cs':List O}(iq:ρ.length=σ.cs.length)(hT:∀a o,T a o→T' a o)(jM:bW κ=true)(hk:k≤κ.length)(hv:(κ.take k).all (fun i=>Nat.blt i σ.cs.length)=true)(e':aI=κ.map fun i=>ρ.getD i 0)(hr:∀i,i<k→cj[i]?=aI[i]?)(C':aP w T' cj cj cs' bx)(hh:cs'.all O.cG=true)(Cr:aP w T ρ ρ (kill σ.cs κ pre) lr):kn (bN κ k σ.cs.length cs') (ρ++cj.drop k) cj∧cj.length≤(bN κ k σ.cs.length cs').length∧∃l gb,aP w T' (ρ++cj.drop k) (ρ++cj.drop k) (back σ κ k pre cs').cs l∧(l++gb).Perm (bx++lr):=by
 have hlen:=C'.length;have Hx:(κ.take k).length=k:=by rw[List.length_take];exact cq hk
 have K2:k≤cs'.length:=by rw[←hlen];refine Nat.le_of_not_lt fun q=>?_;have:=hr cj.length q;rw[List.getElem?_eq_none (bF _),e',List.getElem?_map,cn (by exact eR 554696993 rfl hk q)]at this;exact nS this
 have vk:∀(i j:Nat),(κ.take k)[i]?=some j→cj[i]?=ρ[j]?∧i<k∧j<σ.cs.length:=fun i j qM=>by
  have hi:i<k:=by rw[←Hx];exact(dX.mp qM).1
  have hj:j<σ.cs.length:=bZ (List.all_eq_true.mp hv j (List.mem_of_getElem? qM));rw[List.getElem?_take,aB hi]at qM;refine aN ?_ hi hj;rw[hr i hi,e',List.getElem?_map,qM];refine(?_:some (ρ.getD j 0)=ρ[j]?);rw[cW,cn (by exact fe 4849672225 1 [-1,1] rfl iq hj)];rfl
 have hB:kn (bN κ k σ.cs.length cs') (ρ++cj.drop k) cj:=fun i j a qM ha=>by
  unfold bN at qM;by_cases hi:i<k
  ·rw[List.getElem?_append_left (by rw[Hx];exact hi)]at qM;refine fc (vk i j qM) fun h1 h2 h3=>?_;rw[List.getElem?_append_left (by exact fe 4849672225 1 [-1,1] rfl iq h3),←h1,ha]
  ·rw[List.getElem?_append_right (by rw[Hx];exact ar 1077264 rfl hi),Hx]at qM;have K3:i<cj.length:=(dX.mp ha).1;rw[mw (by rw[List.length_drop];exact@mN [_,_,_,_,_,_] [] 405441470274040493695459121 1 [1,1,1,-1] rfl hlen K3 (aG (ar 1077264 rfl hi)) (aG (ar 1048832 rfl K2)))]at qM;have q_:=bf qM;clear qM;subst q_;rw[List.getElem?_append_right (by exact bG 270670080 rfl iq),List.getElem?_drop];rw[show k+(σ.cs.length+(i-k)-ρ.length)=i by exact bo (@lj [_,_,_,_,_,_] [] 29496850895105066782222864272 1 [-1,1,1] rfl iq (aG (bG 270670080 rfl iq)) (aG (ar 1077264 rfl hi))) (@lj [_,_,_,_,_,_] [] 29496850895105066782161868272 1 [1,-1,-1] rfl iq (aG (bG 270670080 rfl iq)) (aG (ar 1077264 rfl hi)))];exact ha
 have hL:cj.length≤(bN κ k σ.cs.length cs').length:=by unfold bN;rw[bR,Hx,iG,List.length_drop];exact jl 337077894002944 1 [1,-1] rfl hlen (aG (ar 1048832 rfl K2))
 refine aN hB hL (ao (C'.part k) fun l1 l2 aQ p1 p2=>?_);clear C';subst aQ;have up:∀(i:Nat) (a:Addr),ρ[i]?=some a→(ρ++cj.drop k)[i]?=some a:=fun i a h=>by rw[List.getElem?_append_left (dX.mp h).1];exact h
 have zR:(cs'.take k).all O.cG=true∧(cs'.drop k).all O.cG=true:=by rw[←Bool.and_eq_true,←List.all_append,List.take_append_drop];exact hh
 refine cS (xX (ρn:=ρ++cj.drop k) hB hL (is:=κ.take k) (fun i hi=>by
  obtain⟨j,hj⟩:=List.getElem?_of_mem hi;rw[sR];exact(vk j i hj).2.2) (by rw[Hx,List.length_take];exact bo (eQ 1056784 1 [-1] rfl (cq (ar 1048832 rfl K2))) (ar 1057024 rfl (cq (ar 1048832 rfl K2)))) (fun q i hq=>by
  refine fc (vk q i hq) fun h1 h2 _=>?_;rw[List.getElem?_take,aB h2];exact h1) zR.1 p1 (Cr.mono hT up)) fun la gb c1 c2=>?_
 refine cL (la++l2) gb (aP.app c1 (xY hB hL p2 zR.2)) ?_;rw[bC];refine((List.perm_append_comm (l₁:=l2) (l₂:=gb)).append_left la).trans ?_;rw[←bC];refine(c2.append_right l2).trans ?_;rw[bC,bC];exact List.perm_append_comm.append_left l1
theorem cM.el{lv:Nat}{X:St→Prop}{f:Addr}{args:List V}{σ:St}{Q:V→St→Prop}{T:Prop}(h:cM w lv X f args σ Q)(k:∀(ph k:Nat) (κ:List Nat) (eA:List V) (pre:List O) (Qc:V→List O→Prop) (Xc:List O→Prop),aF w f ph k eA pre Qc Xc→Nat.ble (ph+8) lv=true→bW κ=true→Nat.ble k κ.length=true→(κ.take k).all (fun i=>Nat.blt i σ.cs.length)=true→km κ eA=args→vT κ σ.cs κ pre→(∀r cs',Qc r cs'→Q (r.eP (bN κ k σ.cs.length cs')) (back σ κ k pre cs'))→(∀cs',Xc cs'→X (back σ κ k pre cs'))→T):T:=by exact fN h.it fun a b c d t_=>br t_ fun e f g h1 h2 h3 t_=>rU t_ fun h4 h5 h6 h7 h8 h9=>k a b c d e f g h1 h2 h3 h4 h5 h6 h7 h8 h9
theorem sS{dw du:Nat}(Pe:dw≤6)(Pf:du≤60){f:Addr}{args:List V}{xs:List Value}{K:KV}(Ok:c.Ok lv)(hE:nQ c X)(R:aK c σ ρ P s)(vs:bT (c.T P) ρ args xs)(h:cM w lv X f args σ K):cK (model Prog w) (Ar (c.dp+1+dw) (c.un+3+du) c.gd (c.env::c.stack)) (.call (.ref f) ⟨xs,[]⟩) (fun r s'=>match r with|.ok (.ret v)=>gD c ρ P K v s'|.ok _=>False|.error e=>c.E e s') s:=by
 refine h.el fun ph k κ eA pre Qc Xc C Hw jM hk hv ha hm hq hx=>?_;have Hw:=bZ Hw;have hk:=bZ hk;refine bp R fun m news led R=>?_;have wc:jw κ ρ (κ.map fun i=>ρ.getD i 0):=fun i j a qM MD=>by rw[List.getElem?_map,qM];refine(?_:some (ρ.getD j 0)=_);rw[cW,MD];rfl
 refine ao (nP wc jM hm R.C) fun lp lr q1 q2 q3=>?_;have pm:news.Perm (lp++(lr++P)):=R.M.trans ((q1.append_right P).trans (by rw[bC]));have N:=gC R.N pm;have D:=d9 pm R.D;have qy:News c.g c.L s.heap lp:=fun p hp=>N p (List.mem_append_left _ hp);have yX:News c.g c.L s.heap (lr++P):=fun p hp=>N p (cb _ hp);have Dz:=gR (.refl _) D;have EB:=D;simp only[adr,List.map_append]at EB;have D1:=(List.nodup_append.mp EB).1;have D2:(adr (lr++P)).Nodup:=by simp only[adr,List.map_append];exact(List.nodup_append.mp EB).2.1
 have GG:=groundX (A:=Ar (c.dp+1+dw) (c.un+3+du) c.gd (c.env::c.stack)) (R:=fun a_ b_=>True) Ok.B R.F qy rfl rfl Ok.hk;have FG:=GG.1;have BG:=GG.2.1;have st:=GG.2.2.1
 have Pg:∀a o,c.T P a o→(hideAll s.heap (adr lp)).get? a=some o:=fun a o ht=>by
  refine hideAll_get _ (R.lB Ok ht) fun K4=>aa (bO.mp K4) fun p hp e=>?_;rcases ht with(ht|ht)|ht
  ·have:=(qy p hp).2.2;rw[e,Ok.S _ _ ht]at this;exact sN this
  ·have:=(qy p hp).2.2;rw[e,Ok.X _ _ ht]at this;exact sN this
  ·exact Dz (a,o) (cb _ ht.1) K4
 have nc:∀p∈lr++P,(hideAll s.heap (adr lp)).get? p.1=some p.2:=fun p hp=>hideAll_get _ (yX p hp).1 (Dz p hp);have apart:∀post:Led,(∀p∈post,(hideAll s.heap (adr lp)).get? p.1=none)→(adr post).Nodup→(adr (post++(lr++P))).Nodup:=fun post hn hD=>by have:(adr (post++(lr++P)))=adr post++adr (lr++P):=List.map_append;rw[this];refine List.nodup_append.mpr (aN hD D2 (fun a ha b hb e=>(aa (bO.mp ha) fun p hp aQ=>?_)));clear ha;subst aQ;refine aa (bO.mp hb) fun q hq aQ=>?_;clear hb;subst aQ;have h1:=hn p hp;rw[e,nc q hq]at h1;exact sN h1
 let S':dK:=fun a o=>c.T P a o∧(hideAll s.heap (adr lp)).get? a=some o;have toS:∀a o,c.T P a o→SX w S' a o:=fun a o h=>.inl ⟨h,Pg a o h⟩;have rg:∀{ρ:List Addr} (i:Nat) (a:Addr),ρ[i]?=some a→ρ[i]?=some a:=fun a_ b_ h=>h
 have toT:∀P' a o,TX w S' P' a o→c.T (P'++P) a o:=fun P' a o h=>by
  rcases h with(h|h)|h
  ·exact h.1.imp (fun h=>h) fun h=>⟨cb _ h.1,h.2⟩
  ·exact .inl (.inr h)
  ·exact .inr ⟨List.mem_append_left _ h.1,h.2⟩
 have wd:∀P' a o,c.T P a o→c.T (P'++P) a o:=fun P' a o h=>h.imp (fun h=>h) fun h=>⟨cb _ h.1,h.2⟩
 have zS:∀P' gb a o,c.T (P'++P) a o→c.T (P'++(gb++P)) a o:=fun P' gb a o h=>h.imp (fun h=>h) fun h=>⟨by
  rcases cC.mp h.1 with h|h
  ·exact List.mem_append_left _ h
  ·exact cb _ (cb _ h),h.2⟩
 have IT:∀(bx P' l gb:Led),(l++gb).Perm (bx++lr)→((bx++P')++(lr++P)).Perm (l++(P'++(gb++P))):=fun bx P' l gb hl=>by
  have h1:((bx++P')++(lr++P)).Perm ((bx++lr)++(P'++P)):=by simp only[bC];refine List.Perm.append_left bx ?_;have:=(List.perm_append_comm (l₁:=P') (l₂:=lr)).append_right P;simpa only[bC]using this
  refine h1.trans ((hl.symm.append_right _).trans ?_);simp only[bC];refine List.Perm.append_left l ?_;have:=(List.perm_append_comm (l₁:=gb) (l₂:=P')).append_right P;simpa only[bC]using this
 refine C c.cy c.mg c.mb (c.dp+1+dw) (c.un+3+du) c.gd (c.env::c.stack) c.base (hideAll s.heap (adr lp)) s _ S' (κ.map fun i=>ρ.getD i 0) xs lp BG (fun b o e=>of_hideAll _ e) (Nat.le_of_eq (hideAll_size _ _)) (Ok.X.keeps st) (Ok.T.keeps st)
  (fun a o h=>h.2) (fun p hp=>⟨(qy p hp).1,hideAll_none _ (List.mem_map_of_mem hp)⟩) D1 (q2.mono toS rg) (bT.mono toS rg (bT.fg wc _ (by rw[ha];exact vs))) (Ey 1196596686136210456754427779157647923600 rfl Pe Hw Ok.dp) (by exact gn 548088849985828202617809707849812367710939461687696 1 [1,10,1] rfl Pf Hw Ok.un)
  (fun v h' dU cj P' r cs' bx kp N' D' hr C' hh vr hQ=>?_) fun e h' dU cj P' cs' bx fl D' hr C' hh hX=>?_
 ·refine fc (nR (T:=c.T (P'++P)) R.len (fun a_ b_ h=>h) jM hk hv rfl hr (C'.mono (toT P') rg) hh (q3.mono (wd P') rg)) fun hB hL t_=>cS t_ fun l gb c1 c2=>?_;have c1:=c1.mono (zS P' gb) rg;refine br FG.ns fun oL es ep EC LX LY LZ=>?_;have F':Fr c.g c.L h' m:=⟨(aR oL es ep (kp c.L oL EC) LX LY LZ),fun b o e=>kp b o (st b o e),R.F.above⟩
  have Nn:News c.g c.L h' ((bx++P')++(lr++P)):=fun p hp=>by
   rcases cC.mp hp with hp|hp
   ·refine aN ((N' p hp).1) (fun q=>?_) ?_
    ·have:=(N' p hp).2;rw[q,EC]at this;exact sN this
    ·generalize q:c.g.get? p.1=y_;induction y_ with
     |none=>rfl
     |some o=>have:=(N' p hp).2;rw[st _ _ q]at this;exact sN this
   ·exact⟨kp _ _ (nc p hp),(yX p hp).2⟩
  have Dn:=apart (bx++P') (fun p hp=>(N' p hp).2) D';have up:∀(i:Nat) (a:Addr),ρ[i]?=some a→(ρ++cj.drop k)[i]?=some a:=fun i a h=>by rw[List.getElem?_append_left (dX.mp h).1];exact h
  refine(?_:gD c ρ P K v _);refine aY (r.eP (bN κ k σ.cs.length cs')) (back σ κ k pre cs') (ρ++cj.drop k) (P'++(gb++P)) ⟨⟨_,rfl⟩,fun p hp=>cb _ (cb _ hp)⟩ ⟨m,_,l,R.gens,R.drawn,R.os,fun p hp=>up _ _ (R.K p hp),F',Nn,Dn,IT bx P' l gb c2,c1,R.Vr.mono (fun a o h=>zS P' gb a o (wd P' a o h)) up⟩ ?_ (hq r cs' hQ);exact VR.eP hB hL _ (vr.mono (fun a o h=>zS P' gb a o (toT P' a o h)) rg)
 ·refine fc (nR (T:=c.T (P'++P)) R.len (fun a_ b_ h=>h) jM hk hv rfl hr (C'.mono (toT P') rg) hh (q3.mono (wd P') rg)) fun hB hL t_=>cS t_ fun l gb c1 c2=>?_;have c1:=c1.mono (zS P' gb) rg;have up:∀(i:Nat) (a:Addr),ρ[i]?=some a→(ρ++cj.drop k)[i]?=some a:=fun i a h=>by rw[List.getElem?_append_left (dX.mp h).1];exact h
  have:=hE (back σ κ k pre cs') (ρ++cj.drop k) (P'++(gb++P)) l s.heap h' m news lp (lr++P) (bx++P') e dU R.F R.N R.D pm fl (apart (bx++P') (fun p hp=>by refine bV fl fun Bh a0 f1 f2 f3 f4=>?_;exact(f2 p hp).2) D') (IT bx P' l gb c2) c1 (fun p hp=>up _ _ (R.K p hp)) (R.Vr.mono (fun a o h=>zS P' gb a o (wd P' a o h)) up) (hx cs' hX);have es:({s with heap:=h',toks:=dU}:Shared)=⟨h',c.gens,c.drawn,dU,c.os⟩:=by rw[←R.gens,←R.drawn,←R.os]
  refine(?_:c.E (.ref e) {s with heap:=h',toks:=dU});rw[es];exact this
theorem we{f:Addr}{args:List V}{xs:List Value}{K:KV}(Ok:c.Ok lv)(hE:nQ c X)(R:aK c σ ρ P s)(vs:bT (c.T P) ρ args xs)(h:cM w lv X f args σ K):Wp c (call (.ref f) xs) (gD c ρ P K) s:=gy (sS (dw:=0) (du:=0) (Nat.zero_le _) (Nat.zero_le _) Ok hE R vs h)
end
section
variable{w:World}{A:Around}{C fI:Addr}{R:Result→Shared→Prop}{h:Heap}{g:Array GenState}{d:Drawn}{t:Nat}{os:OsState}
theorem FI(Y:Makes (model Prog w) h C)(hi:Looks (model Prog w) h (typeLookup (.ref C) "__init__") (some (.ref fI)))(hb:∀self,Looks (model Prog w) h (bindSpecial (.ref fI) self) (.ref fI,[self]))(hq:cK (model Prog w) (A.under (.builtin "type.__call__" ⟨.ref C::rest,[]⟩)) (.call (.ref fI) ⟨.ref (h.objs.size+1)::rest,[]⟩) (InitBack (h.objs.size+1) R) ⟨(h.push emptyDict).push (instObj C h.objs.size),g,d,t,os⟩):cK (model Prog w) A (.call (.ref C) ⟨rest,[]⟩) R ⟨h,g,d,t,os⟩:=by
 have Y':=Y;obtain⟨⟨oc,od,cd,sl,hC,e1,e2,e4⟩,made,base,self,top,call,typ⟩:=Y;refine bB ff (((af (nd_load hC ((?_:wpAny _ _ (callAny.viaDunder (.ref C) _) _ _ _)))):cR _ _ (callAny (.ref C) _) _ _ _));unfold callAny.viaDunder;refine aO (call.at ?_);dsimp only;rw[tc_bind];refine aO (bc (aO (bc (bc (a:=Fin.again (.call (.builtin "type.__call__") ⟨.ref C::rest,[]⟩)) (And.intro tt (bB ff ((?_:cR _ A.in1 (do checkBuiltinCall "type.__call__" ⟨.ref C::rest,[]⟩;again (.builtin "type.__call__" ⟨.ref C::rest,[]⟩)) _ _ _))))))));refine aq (check_slot tc_kind tc_split typ (tc_args _ _ _) (ak ⟨Code.quiet_builtin _ (by decide+kernel),jt (by decide+kernel) entry_typeCall ?_⟩));unfold Builtin.«type.__call__»;have hm:Looks (model Prog w) h (mroOf (.ref C)) cd.mro:=((Looks.ld (part:=none) hC).andThen .now).andThen .now;dsimp only;refine aT cz (aq (hm.here (aT (by rw[e4];exact cz) (aq (made.here ?_)))));dsimp only;refine aq (bL rfl (ag (aw (af (wpAny_call (new_K Y' hi (.inl tt) ?_))))));have k:∀b o,h.get? b=some o→((h.push emptyDict).push (instObj C h.objs.size)).get? b=some o:=fun b o e=>Heap.get?_push_of_some _ (Heap.get?_push_of_some _ e);have hx:((h.push emptyDict).push (instObj C h.objs.size)).get? (h.objs.size+1)=some (instObj C h.objs.size):=by heap_get
 have t1:Looks (model Prog w) ((h.push emptyDict).push (instObj C h.objs.size)) (typeOf (.ref (h.objs.size+1))) (.ref C):=(Looks.ld hx).andThen .now;have s1:=self.keeps k;have i1:=hi.keeps k;have b1:=(hb (.ref (h.objs.size+1))).keeps k;have Ph:Looks (model Prog w) ((h.push emptyDict).push (instObj C h.objs.size)) (isInstance (.ref (h.objs.size+1)) (.ref C)) true:=t1.andThen s1;have Pj:Looks (model Prog w) ((h.push emptyDict).push (instObj C h.objs.size)) (specialOf (.ref (h.objs.size+1)) "__init__") (some (.ref fI)):=t1.andThen i1;refine(?_:cR _ _ (isInstance _ _>>=_) _ _ _);refine aq (Ph.here ?_);refine aT cz (ag (aw ?_));unfold callSpecial?;refine aq (Pj.here ?_);dsimp only;refine aw (aq (b1.here ?_));dsimp only;refine ag (gy (m5 hq fun r s' z=>?_));rcases r with e|(v|_|_|_)<;>first|exact z|exact z.elim|skip
 obtain⟨rfl,z⟩:=z;refine ak ((?_:cR _ _ (if(Value.none !=Value.none)=true then _ else _) _ _ _));exact aT (by decide) (ak z)
end
theorem xZ(C:Addr)(xs:List Value):(Code.builtin "type.__call__" ⟨.ref C::xs,[]⟩).weight≤5:=by first|exact bZ tt|decide+kernel
theorem units_le(C:Addr)(xs:List Value):(Code.builtin "type.__call__" ⟨.ref C::xs,[]⟩).cUnits≤50:=by first|exact bZ tt|decide+kernel
section
variable{w:World}{c:Cx w}{lv:Nat}{σ:St}{ρ:List Addr}{P:Led}{s:Shared}{X:St→Prop}
theorem CF{C f:Nat}{args:List V}{xs:List Value}{K:KV}(Ok:c.Ok lv)(hE:nQ c X)(R:aK c σ ρ P s)(vs:bT (c.T P) ρ args xs)(hi:jy jz C=some f)(h:cM w lv X f (.ref σ.cs.length::args) (eg σ (.inst C [])) fun r σ'=>r=.none∧K (.ref σ.cs.length) σ'):Wp c (call (.ref C) xs) (gD c ρ P K) s:=by
 refine fc (Cv w hi) fun cf HU Mz=>bp R fun m news led R=>?_;have Xs:=Ok.X.keeps R.F.keep;obtain⟨h0,g0,d0,t0,K5⟩:=s;have N2:=(R.N.push R.F emptyDict).push (R.F.push _) (instObj C h0.objs.size);rw[Heap.size_push]at N2;have l1:∀p∈news,p.1<h0.objs.size:=fun p hp=>Heap.lt_size (R.N p hp).1;have D2:(adr ([(h0.objs.size+1,instObj C h0.objs.size),(h0.objs.size,dictOf [] 0)]++news)).Nodup:=mm (news:=news) (Nat.lt_succ_self _) l1 .fj (nk l1 .fj R.D);have Rn:=R.alloc (s':=⟨(h0.push emptyDict).push (instObj C h0.objs.size),g0,d0,t0,K5⟩) (a:=h0.objs.size+1) (o:=.inst C []) (l':=[(h0.objs.size+1,instObj C h0.objs.size),(h0.objs.size,dictOf [] 0)]) (aN rfl rfl rfl) ((R.F.push _).push _) N2 D2 (dF h0.objs.size [] 0 rfl .nil);have DN:VR (c.T P) (ρ++[h0.objs.size+1]) (.ref σ.cs.length) (.ref (h0.objs.size+1)):=.ref (by rw[←R.len];simp);refine gy (FI (makes_of Xs cf.O8) (looks_findIn Xs HU) (fun self=>bind_fn Xs self (beq_iff_eq.mp Mz)) (m5 (sS (dw:=(Code.builtin "type.__call__" ⟨.ref C::xs,[]⟩).weight) (du:=(Code.builtin "type.__call__" ⟨.ref C::xs,[]⟩).cUnits) ?_ ?_ Ok hE Rn (.cons DN (up1 vs)) h) fun r s' z=>?_))
 ·exact aX (xZ _ _) (by decide)
 ·exact aX (units_le _ _) (by decide)
 ·rcases r with e|(_|_|_|v)
  ·exact z
  ·exact z.elim
  ·exact z.elim
  ·exact z.elim
  ·refine m3 z fun r σ' aI P' e R' vr ME k=>?_;subst ME;refine⟨vr.none_inv,(aY (.ref σ.cs.length) σ' aI P' (Ext.trans ⟨⟨[_],rfl⟩,fun a_ h=>h⟩ e) R' (VR.ext e DN) k)⟩
end
section
variable(w:World)
theorem wg(h:ec mn a=true):keepIn (hd.heap_39 w.params) (.ref a)=true:=kE (Fj w) (iE h)
theorem zT(h:jy jz C=some f):keepIn (hd.heap_39 w.params) (.ref C)=true:=kE (IH w) (lG h)
end
set_option tactic.hygienic false
noncomputable def uK:E→Bool
 |.call (.loc _ _) .nil _=>false
 |.call (.gX _ _) .nil _=>false
 |.call (.uu _ _) .nil _=>false
 |_=>true
noncomputable def uL:E→Bool
 |.att _ _ _=>false
 |_=>true
section
variable(ls gs:List Nat)
mutual
noncomputable def eO:E→Bool
 |.loc n _=>ec ls n
 |.gX n _=>ec gs n
 |.uu n _=>ec gs n
 |.bin _ l r _=>eO l&&eO r
 |.neg e _=>eO e
 |.not e _=>eO e
 |.cmp _ l r _=>eO l&&eO r
 |.and es _=>mI es
 |.or es _=>mI es
 |.qK t a b _=>eO t&&(eO a&&eO b)
 |.att e _ _=>uK e&&eO e
 |.sub e i _=>eO e&&eO i
 |.slc e lo hi _ _=>eO e&&(eO lo&&eO hi)
 |.tup es _=>Nat.ble es.len 25&&mI es
 |.lst es _=>Nat.ble es.len 25&&mI es
 |.call f es _=>uL f&&(eO f&&mI es)
 |.sA o _ es q p=>uK o&&(Nat.ble es.len 25&&(Nat.beq (dP q).endLine (dP p).line&&(eO o&&mI es)))
 |.none _=>true|.bool _ _=>true|.int _ _=>true|.zf _ _=>true|.qL _=>true|.str _ _=>true|.abs=>true
noncomputable def mI:Es→Bool
 |.nil=>true
 |.cons e es=>eO e&&mI es
end
end
structure fv(sc:Scope)(ls gs:List Nat):Prop where
 l:∀n,ec ls n=true→cT n=true∧sc.names.lookup (nm n)=some .local∧(nm n==("__debug__":PySem.Str))=false
 g:∀n,ec gs n=true→n≠d6→sc.names.lookup (nm n)=some .globalImplicit∧(nm n==("__debug__":PySem.Str))=false∧(nm n==("__name__":PySem.Str))=false
 c:ec gs d6=true→sc.names.lookup (nm d6)=some .cell
noncomputable def DO(sc:Scope)(ls gs:List Nat):Bool:=ls.all (fun n=>cT n&&(sc.names.lookup (nm n)==some .local&& !(nm n==("__debug__":PySem.Str))))&&gs.all (fun n=>(match Nat.beq n d6 with|true=>sc.names.lookup (nm d6)==some .cell|false=>sc.names.lookup (nm n)==some .globalImplicit&&(!(nm n==("__debug__":PySem.Str))&& !(nm n==("__name__":PySem.Str)))))
theorem wh(h:DO sc ls gs=true):fv sc ls gs:=by
 obtain⟨h1,h2⟩:=Bool.and_eq_true_iff.mp h;refine⟨fun n hn=>?_,fun n hn fy=>?_,fun hn=>?_⟩
 ·have:=List.all_eq_true.mp h1 n (iE hn);simp only[Bool.and_eq_true,beq_iff_eq,Bool.not_eq_true']at this;exact aN this.1 this.2.1 this.2.2
 ·have:=List.all_eq_true.mp h2 n (iE hn);have e:Nat.beq n d6=false:=by generalize q:Nat.beq n d6=y_;induction y_ with|false=>rfl|true=>exact absurd (cY q) fy
  rw[e]at this;simp only[Bool.and_eq_true,beq_iff_eq,Bool.not_eq_true']at this;exact aN this.1 this.2.1 this.2.2
 ·have:=List.all_eq_true.mp h2 d6 (iE hn);rw[Nat.beq_refl]at this;exact beq_iff_eq.mp this
theorem wj(nm:Nat→PySem.Str)(env:Env)(attr:PySem.Str)(whole:Sem Value)(h:uK e=true):attributeBase (dE nm e) attr env whole=whole:=by
 induction e using E.casesOn with
 |call f es p=>
  induction f using E.casesOn with
  |loc=>induction es using Es.casesOn with
   |nil=>exact fT h
   |cons=>rfl
  |gX=>induction es using Es.casesOn with
   |nil=>exact fT h
   |cons=>rfl
  |uu=>induction es using Es.casesOn with
   |nil=>exact fT h
   |cons=>rfl
  |_=>rfl
 |_=>rfl
theorem wk(nm:Nat→PySem.Str)(env:Env)(e:E)(rest:List Expr):starEach (dE nm e::rest) env=(false,eval (dE nm e) env)::starEach rest env:=by induction e using E.casesOn<;>rfl
theorem CG(nm:Nat→PySem.Str)(e:E)(o i:Value):∃ops,subscripted (dE nm e) false o i=operate ops (getItem o i):=⟨[o,i],by induction e using E.casesOn<;>rfl⟩
theorem pT(nm:Nat→PySem.Str)(o:EK)(e:E)(t:Sem Value):markedBehindIn o.d (dE nm e) t=t:=markedBehindIn_of_false (by induction e using E.casesOn<;>exact ff)
theorem wm(pos:Pos)(t:Sem Value)(rest:List (Bool×Sem Value)):backTo pos ((false,t)::rest)=(false,t)::backTo pos rest:=rfl
theorem iH(nm:Nat→PySem.Str)(env:Env)(pos:Pos):∀es:Es,(backTo pos (starEach (dJ nm es) env)).any (·.1)=false:=by
 intro X_;induction X_ using Es.ind with
 |nil=>exact ff
 |cons e es cD=>refine(?_:(backTo pos (starEach (dE nm e::dJ nm es) env)).any (·.1)=false);rw[wk,wm,List.any_cons,cD];exact ff
theorem uM(nm:Nat→PySem.Str)(env:Env)(pos:Pos):∀es:Es,(dJ nm es).length=es.len:=by
 intro X_;induction X_ using Es.ind with
 |nil=>exact rfl
 |cons e es cD=>exact by refine(?_:(dJ nm es).length+1=es.len+1);rw[cD]
section
variable{w:World}{c:Cx w}{lv:Nat}{σ:St}{ρ:List Addr}{P:Led}{s:Shared}{X:St→Prop}
theorem zU{α:Type}{E:dB}{m:Sem α}{Q:α→Shared→Prop}(h:cR M A m Q E s):cR M A (m.keep vs) Q E s:=fun Γ p j3 h1 h2=>by rw[Sem.wp_keep];exact h Γ p j3 h1 h2
def Pk(c:Cx w)(ρ:List Addr)(P:Led)(Q:List V→St→Prop)(xs:List Value)(s':Shared):Prop:=∃vs σ' aI P',Ext ρ P aI P'∧aK c σ' aI P' s'∧bT (c.T P') aI vs xs∧Q vs σ'
def wo(c:Cx w)(t:Sem Bool)(σ:St)(Kt Kf:KU):Prop:=∀ρ P s,aK c σ ρ P s→Wp c t (KQ c ρ P fun b σ'=>if b=true then Kt σ' else Kf σ') s
def MF(c:Cx w)(t:Sem (List Value))(σ:St)(n:Nat)(Q:List V→St→Prop):Prop:=∀ρ P s,aK c σ ρ P s→Wp c t (fun xs s'=>xs.length=n∧Pk c ρ P Q xs s') s
theorem MF.use{K:List V→St→Prop}{Q':List Value→Shared→Prop}(h:MF c t σ n K)(R:aK c σ ρ P s)(k:∀xs s' vs σ' aI P',xs.length=n→Ext ρ P aI P'→aK c σ' aI P' s'→bT (c.T P') aI vs xs→K vs σ'→Q' xs s'):Wp c t Q' s:=bj (h ρ P s R) fun xs s' h=>by exact f9 h fun hl vs t_=>br t_ fun σ' aI P' e R' v q=>k xs s' vs σ' aI P' hl e R' v q
theorem wo.use{Q':Bool→Shared→Prop}(h:wo c t σ Kt Kf)(R:aK c σ ρ P s)(k:∀b s' σ' aI P',Ext ρ P aI P'→aK c σ' aI P' s'→(if b=true then Kt σ' else Kf σ')→Q' b s'):Wp c t Q' s:=bj (h ρ P s R) fun b s' h=>by exact bS h fun σ' aI P' e R' q=>k b s' σ' aI P' e R' q
theorem mQ.go{Q:V→St→Prop}{Q':dB}(h:mQ c t σ Q)(R:aK c σ ρ P s)(k:∀x s' r σ' aI P',Ext ρ P aI P'→aK c σ' aI P' s'→VR (c.T P') aI r x→Q r σ'→Q' x s'):Wp c t Q' s:=bj (h ρ P s R) fun x s' h=>by exact gP h fun r σ' aI P' e R' v q=>k x s' r σ' aI P' e R' v q
theorem aK.MG(Ok:c.Ok lv)(R:aK c σ ρ P s):(hd.heap_39 w.params).In s.heap:=by refine bp R fun m news led R=>?_;exact Ok.X.keeps R.F.keep
theorem lL{Q:List Value→Shared→Prop}(h:Wp c x (fun v bu=>Wp c (spliced rest) (fun vs mJ=>Q (v::vs) mJ) bu) s):Wp c (spliced ((false,x)::rest)) Q s:=by rw[spliced];refine ag (bM h (fun v bu bH=>?_) fun a_ b_ x=>x);simp only[Bool.false_eq_true,if_false];exact ag (ak (ag (aw (bM bH (fun vs mJ uN=>ak uN) fun a_ b_ x=>x))))
theorem zV{args:List (Bool×Sem Value)}(hp:args.any (·.1)=false){Q:Args→Shared→Prop}(h:Wp c (spliced args) (fun vs s'=>Q ⟨vs,[]⟩ s') s):Wp c (evalArgs f true args []) Q s:=by
 have tail:∀{t:Sem (List Value)},Wp c t (fun vs s'=>Q ⟨vs,[]⟩ s') s→Wp c (t>>=fun vs=>pure (vs,(none:Option Value))>>=fun(x:List Value×Option Value)=>holding (x.1++x.2.toList) (do
  let zW (keep:List Value):Sem (List Value):=do
   let some s:=x.2|return x.1
   if←notIterableAtAll s then
    rule "call.star.not-iterable"
    raiseError "TypeError" s!"{← functionStr f} argument after * must be an iterable, not {← typeNameOf s}"
   holding keep (collect s)
  let kw:=(([]:List (Option PySem.Str×Sem Value)).filterMap (·.1)).zip (←evalAll (([]:List (Option PySem.Str×Sem Value)).map (·.2)))
  return(⟨←zW (kw.map (·.2)),kw⟩:Args))) Q s:=fun ht=>
  ag (bM ht (fun vs s' h'=>ag (ak (aw (ag (ak (ag (ak (ak h')))))))) fun a_ b_ x=>x)
 match args,hp,h with
 |[],_,h=>exact tail h
 |(true,t)::rest,hp,_=>exact absurd hp (by simp)
 |(false,t)::rest,_,h=>exact tail h
def Kept(w:World)(f:Value)(h:Heap):Prop:=∃k,(k=Keeper.frame∨k=Keeper.machine∨k=Keeper.boundFrame)∧Looks (model Prog w) h (keeperOf f) k
theorem hU{args:List (Bool×Sem Value)}{Q:dB}(hp:args.any (·.1)=false)(h:Wp c (spliced args) (fun vs bu=>Kept w f bu.heap∧Wp c (call f (first++vs)) Q bu) s):Wp c (callWith pos f first args []) Q s:=by
 unfold callWith;refine ag (aw (zV hp (bM h (fun vs bu bH=>ag (af (wpAny_standAt (aa bH.1 fun k Pl L=>(aq (L.here ?_)))))) fun a_ b_ x=>x)));have DP:(args.any (·.1)||List.any ([]:List (Option PySem.Str×Sem Value)) (·.1.isNone))=false:=Bool.or_eq_false_iff.mpr ⟨hp,rfl⟩;generalize(args.any (·.1)||List.any ([]:List (Option PySem.Str×Sem Value)) (·.1.isNone))=st at DP⊢;subst DP;have tail:∀{t:Sem Value},Wp c t Q bu→Wp c (t>>=fun r=>holding [r] point>>=fun a_=>pure r) Q bu:=fun ht=>ag (bM ht (fun r mJ hr=>ag (aw (af (wpAny_point (ak hr))))) fun a_ b_ x=>x);have marked (mk:Value):Wp c (callMarked mk f (first++vs) []) Q bu:=by unfold callMarked;exact zU bH.2
 have both:∀{p:Prop} [Decidable p] {t u:Sem Value},Wp c t Q bu→Wp c u Q bu→Wp c (if p then t else u) Q bu:=fun{p} _ {t u} ht hu=>if h:p then cP h ht else aT h hu
 rcases Pl with rfl|rfl|rfl<;>first|exact tail bH.2|exact both (tail bH.2) (tail (marked _))
theorem nT(hf:∀a,f≠.ref a):Kept w f h:=by refine ah .machine (.inr (.inl rfl)) ?_;induction f<;>first|exact absurd rfl (hf _)|exact Looks.now
theorem lM(X:(hd.heap_39 w.params).In h)(hk:keepIn (hd.heap_39 w.params) (.ref a)=true):Kept w (.ref a) h:=keeps_K hk h X
end
section
variable{w:World}{c:Cx w}{lv:Nat}{σ:St}{ρ:List Addr}{P:Led}{s:Shared}{X:St→Prop}{ls gs:List Nat}{ih:Ih}
structure IU(c:Cx w)(ls gs:List Nat)(ih:Ih):Prop where
 e:∀e σ Q,ih.e e σ Q→eO ls gs e=true→mQ c (eval (dE nm e) c.env) σ Q
 t:∀e σ Kt Kf,ih.t e σ Kt Kf→eO ls gs e=true→wo c (isTrue (dE nm e) c.env (eval (dE nm e) c.env)) σ Kt Kf
theorem bE(h:(a&&b)=true):a=true∧b=true:=Bool.and_eq_true_iff.mp h
theorem mQ.pure(h:∀ρ P s,aK c σ ρ P s→Wp c t (fun x s'=>aK c σ ρ P s'∧VR (c.T P) ρ v x) s)(q:Q v σ):mQ c t σ Q:=fun ρ P s R=>bj (h ρ P s R) (fun x s' df=>by obtain⟨R',v'⟩:=df;exact .mk R' v' q)
theorem zX{K:V→Prop}(e:Ext hZ P0 ρ P)(h:E7 c t σ ρ P K s)(q:∀r,K r→Q r σ):Wp c t (gD c hZ P0 Q) s:=bj h (fun x s' df=>by refine cg df fun r R v k=>?_;exact aY r σ ρ P e R v (q r k))
theorem ia(e:Ext hZ P0 ρ P)(h:Wp c t (gD c ρ P Q) s):Wp c t (gD c hZ P0 Q) s:=bj h (fun x s' h=>h.to e fun a_ b_ h=>h)
theorem i5{f:E→St→KV→Prop}(S:∀e σ Q,f e σ Q→eO ls gs e=true→mQ c (eval (dE nm e) c.env) σ Q)(pos:Pos):∀(es:Es) (σ:St) (K:List V→St→Prop),yC f es σ K→mI ls gs es=true→MF c (spliced (backTo pos (starEach (dJ nm es) c.env))) σ es.len K:=by
 intro X_;induction X_ using Es.ind with
 |nil=>exact fun σ K h _=>fun ρ P s R=>ak (et rfl [] (aR σ ρ P .c6 R .nil h))
 |cons e es cD=>intro σ K h wf ρ P s R;obtain⟨w1,w2⟩:=bE wf;refine(?_:Wp c (spliced (backTo pos (starEach (dE nm e::dJ nm es) c.env))) _ s);rw[wk,wm];exact lL ((S e σ _ h w1).go R (fun x s' r σ' aI P' e' R' v q=>((cD σ' _ q w2).use R' (fun xs ij vs ib cj ko hl NT kY x6 x7=>(et (by rw[cB,hl];rfl) (r::vs) (aR ib cj ko (e'.trans NT) kY (.cons (v.ext NT) x6) x7))))))
theorem FJ(Ok:c.Ok lv)(sc:fv c.scope ls gs)(hn:ec ls n=true)(h:look σ.vars n=some v)(q:Q v σ):mQ c (eval (.Name (nm n) (dP p)) c.env) σ Q:=.pure (v:=v) (fun ρ P s R=>by have R0:=R;exact bp R fun m news led R=>gO (R.Vr n v h) fun h1 x h2 h3=>fc (sc.l n hn) fun k1 k2 k3=>af (nameX_L R.F h2 ⟨R0,h3⟩ Ok.hk k2 k3)) q
set_option tactic.hygienic true in
theorem zY(Ok:c.Ok lv)(sc:fv c.scope ls gs)(hn:ec gs n=true)(h:globT n=some v)(q:Q v σ):mQ c (eval (.Name (nm n) (dP p)) c.env) σ Q:=.pure (v:=v) (fun ρ P s R=>by
 have R0:=R;refine bp R fun m news led R=>fc (sc.g n hn (fun e=>by clear hn;subst e;exact nS h)) fun k2 k3 k4=>?_;have h:(match look vW n with|some v=>some v|none=>(match nE kx n with|some b=>some (.bi b)|none=>none))=some v:=h;generalize e:look vW n=y_ at h;induction y_ with
 |some v'=>have q_:=bf h;clear h;subst q_;exact aa (Cw w e) fun x g1 g2=>af (nameX_K R.F Ok.X (topRead_of Ok.T) g1 ⟨R0,g2 _ _ fun a o h=>.inl (.inr h)⟩ Ok.hk k2 k3)
 |none=>
  generalize e:nE kx n=y_ at h;induction y_ with
  |none=>exact nS h
  |some b=>have q_:=bf h;clear h;subst q_;refine fc (zG w e) fun g1 g2 g3=>?_;exact af (nameX_B R.F Ok.X (topRead_of Ok.T) g1 g2 (fun z=>by rw[z]at k4;exact absurd k4 (by decide)) ⟨R0,.bi⟩ Ok.hk k2 k3)) q
theorem FK(Ok:c.Ok lv)(sc:fv c.scope ls gs)(hn:ec gs n=true)(h:Nat.beq n d6=true∧Cf σ.cs 1 fun o=>(match o with|.cell v=>Q v σ|_=>False)):mQ c (eval (.Name (nm n) (dP p)) c.env) σ Q:=fun ρ P s R=>by
 have R0:=R;refine bp R fun m news led R=>?_;obtain rfl:=cY h.1;refine aa (iX h.2) fun o ho h2=>?_;have k2:=sc.c hn;refine aa (Ok.uu k2) fun ca c1 c2=>?_;induction o with
 |cell v=>refine ao (R.at ho) fun a l h1 qW N=>?_;refine ao qW fun ob x aQ d1 d2=>?_;clear qW;subst aQ;rw[R.K _ c2]at h1;have q_:=bf h1;clear h1;subst q_;exact af (nameX_C N c1 aS d1 (.mk R0 d2 h2) Ok.hk k2 (by decide))
 |_=>exact False.elim h2
theorem x8{xs:List Value}{vs:List V}{K:KV}(R:aK c σ ρ P s)(v:bT (c.T P) ρ vs xs)(hl:xs.length≤1000)(h:K (.tup vs) σ):Wp c (newTuple xs) (gD c ρ P K) s:=by refine bp R fun m news led R=>af (wpAny_newTuple ?_ (by rw[sizeLine_eq];exact aC 1153173707285491382272 rfl hl));have l1:∀p∈news,p.1<s.heap.objs.size:=fun p hp=>Heap.lt_size (R.N p hp).1;have e:Ext ρ P ρ ((s.heap.objs.size,tup xs.toArray 0)::P):=⟨⟨[],(List.append_nil _).symm⟩,fun a_ h=>cO _ h⟩;exact aY (.tup vs) σ ρ _ e (R.tuple (aN rfl rfl rfl) (R.F.push _) (R.N.push R.F _) (cN l1 R.D)) (.tup (items:=xs.toArray) (e:=0) (.inr (aN aS rfl (vI _ _ rfl))) (v.ext e)) h
theorem zZ{xs:List Value}{vs:List V}{K:KV}(R:aK c σ ρ P s)(v:bT (c.T P) ρ vs xs)(hl:xs.length≤1000)(h:K (.ref σ.cs.length) (eg σ (.list vs))):Wp c (newList xs) (gD c ρ P K) s:=by refine bp R fun m news led R=>af (wpAny_newList ?_ (by rw[sizeLine_eq];exact aC 1153173707285491382272 rfl hl));have l1:∀p∈news,p.1<s.heap.objs.size:=fun p hp=>Heap.lt_size (R.N p hp).1;exact gF R (o:=.list vs) (aN rfl rfl rfl) (R.F.push _) (R.N.push R.F _) (cN l1 R.D) (aJ _ xs.toArray rfl ⟨0,rfl⟩ (up1 v)) h
theorem z0{p:Nat}{K:KV}(Ok:c.Ok lv)(h:K (.ref σ.cs.length) (eg σ .d0)):mQ c (eval (.Dict [] [] (dP p)) c.env) σ K:=fun ρ P s R=>by refine bp R fun m news led R=>af (newDict_K R.F R.N Ok.T.nolimit fun d h' o F' N' l1 lo hs a_ hi b_=>?_);have ht:cc (mG w) d [] o:=⟨lo,hi⟩;exact gF R (o:=.d0) (s':={s with heap:=h'}) (aN rfl rfl rfl) F' N' (cN l1 R.D) (bY _ rfl ht (pP ht)) h
set_option tactic.hygienic true in
theorem CH{f:E→St→KV→Prop}(S:∀e σ Q,f e σ Q→eO ls gs e=true→mQ c (eval (dE nm e) c.env) σ Q)(pos:Pos):∀(es:Es) (σ:St) (K:KV),EV f es σ K→mI ls gs es=true→mQ c (boolOp pos .And (evalEach (dJ nm es) c.env)) σ K:=by
 intro X_;induction X_ using Es.ind with
 |nil=>intro σ K h _;exact h.elim
 |cons e es cD=>
  intro σ K h wf ρ P s R;induction es using Es.casesOn with
  |nil=>exact S e σ K h (bE wf).1 ρ P s R
  |cons e' es=>
   obtain⟨w1,w2⟩:=bE wf
   refine(?_:Wp c (eval (dE nm e) c.env>>=fun v=>standAt pos>>=fun a_=>holding [v] (truthy v)>>=fun t=>match BoolOp.And,t with
    |.And,false|.Or,true=>pure v
    |_,_=>boolOp pos .And (evalEach (dJ nm (.cons e' es)) c.env)) _ s)
   refine(S e σ _ h w1).use R fun x s' r σ' aI P' e1 R' v q=>aU ?_;generalize hk:truth σ'.cs r=y_ at q;induction y_ with
   |none=>exact q.elim
   |some k=>
    refine ag (aw (bj (nI R' v hk q.1) (fun b ij df=>?_)));obtain⟨hb,kY⟩:=df;have q2:=dW.uy q.2;induction b with
    |false=>rw[←hb]at q2;exact ak (aY r σ' aI P' e1 kY v q2)
    |true=>rw[←hb]at q2;exact ia e1 (cD σ' K q2 w2 aI P' ij kY)
set_option tactic.hygienic true in
theorem z4{f:V}{x:Value}{args:List V}{xs:List Value}{K:KV}(Ok:c.Ok lv)(hE:nQ c X)(R:aK c σ ρ P s)(vf:VR (c.T P) ρ f x)(vs:bT (c.T P) ρ args xs)(h:DH w lv X f args σ K):Kept w x s.heap∧Wp c (call x xs) (gD c ρ P K) s:=by
 induction f using V.casesOn with
 |top a=>
  rw[vf.qN]
  have h:(match jy jz a with
   |none=>(match ec mn a with|true=>cM w lv X a args σ (fun r σ'=>r.dn fun r=>σ'.dn (K r))|false=>False)
   |some f=>cM w lv X f (.ref σ.cs.length::args) (eg σ (.inst a [])) fun r σ'=>r=.none∧σ'.dn (K (.ref σ.cs.length))):=h
  generalize hi:jy jz a=y_ at h;induction y_ with
  |none=>
   generalize hk:ec mn a=y_ at h;induction y_ with
   |false=>exact h.elim
   |true=>exact⟨lM (R.MG Ok) (wg w hk),we Ok hE R vs h.zi⟩
  |some f=>exact⟨lM (R.MG Ok) (zT w hi),CF Ok hE R vs hi (h.mono fun a_ b_ h=>⟨h.1,St.cH h.2⟩)⟩
 |bi b=>rw[vf.ny];exact⟨nT (by induction b<;>intro a h<;>cases h),FH Ok rfl R vs h⟩
 |_=>exact False.elim h
set_option tactic.hygienic true in
theorem CI{k:qT}{o:V}{x:Value}{args:List V}{xs:List Value}{K:KV}(Ok:c.Ok lv)(hE:nQ c X)(R:aK c σ ρ P s)(vo:VR (c.T P) ρ o x)(vs:bT (c.T P) ρ args xs)(h:EX w lv X k o args σ K):Kept w k.val s.heap∧Wp c (call k.val (x::xs)) (gD c ρ P K) s:=by
 have go:∀(hb:∀a,k.val≠.ref a) (h:(match(generalizing:=false) o with
  |.ref i=>(match σ.cs[i]? with
   |some o=>KZ k o i args σ K
   |none=>False)
  |_=>False)),Kept w k.val s.heap∧Wp c (call k.val (x::xs)) (gD c ρ P K) s:=fun hb h=>by
  induction o using V.casesOn with
  |ref i=>
   refine aa vo.bI fun a hr aQ=>?_;clear vo;subst aQ
   have h:(match σ.cs[i]? with
    |some o=>KZ k o i args σ K
    |none=>False):=h
   generalize ho:σ.cs[i]?=y_ at h;induction y_ with
   |none=>exact h.elim
   |some o=>exact⟨nT hb,FF R hr ho vs h⟩
  |_=>exact h.elim
 induction k using qT.casesOn with
 |fn f=>
  have h:(match ec mn f with|true=>cM w lv X f (o::args) σ (fun r σ'=>r.dn fun r=>σ'.dn (K r))|false=>False):=h;generalize hk:ec mn f=y_ at h;induction y_ with
  |false=>exact h.elim
  |true=>exact⟨lM (R.MG Ok) (wg w hk),we Ok hE R (.cons vo vs) h.zi⟩
 |_=>exact go (fun a h=>nomatch h) h
theorem wq{es:Es}(h:es.len≤25):methodCallForm ((dJ nm es).length+([]:List Keyword).length) (backTo pos (starEach (dJ nm es) c.env)) (backToKw pos (keywordEach [] c.env))=true:=by have h1:=iH nm c.env pos es;rw[uM nm c.env pos];refine(?_:(((backTo pos (starEach (dJ nm es) c.env)).all (fun x=> !x.1)&&true)&&decide (es.len+0+0<30))=true);rw[decide_eq_true (by exact aC 464050938761521334673 rfl h),Bool.and_true,Bool.and_true,List.all_eq_not_any_not];simp only[Bool.not_not];rw[h1];exact tt
theorem rh{f:E→St→KV→Prop}(S:∀e σ Q,f e σ Q→eO ls gs e=true→mQ c (eval (dE nm e) c.env) σ Q)(h:f e σ Q)(wf:eO ls gs e=true):mQ c (valueOrNone (evalOpt (oE nm e) c.env)) σ Q:=by
 by_cases q:e=.abs
 ·subst q;exact S _ _ _ h wf
 ·rw[vP nm q];exact S _ _ _ h wf
theorem VR.Cg{v:V}(h:VR T ρ v x):VR T ρ v.Cg x:=by induction v using V.casesOn<;>first|exact h|exact h.uv
theorem VR.Pm(h:VR T ρ v x):VR T ρ (EY n v) x:=by
 unfold EY;split
 ·induction v using V.casesOn<;>first|exact h|exact .oi h
 ·exact h
set_option tactic.hygienic true in
theorem z5(Ok:c.Ok lv){o:V}{x:Value}{n:Nat}{K:KV}{b:Bool}(R:aK c σ ρ P s)(vo:VR (c.T P) ρ o x)(h:EZ o n σ K):Wp c (getAttr x (nm n) b) (gD c ρ P K) s:=by refine aa (V.eB h) fun i Pn ha=>cS (lE ha) fun C fs hi hb=>fz (dq hb) fun ht hc=>aa (g7 hc) fun v hl Po=>?_;clear h;subst Pn;exact bj (Fm Ok R vo hi ht hl) (fun y s' df=>.mk df.1 df.2.Cg Po)
theorem z7:findCls (hd.heap_39 w.params) (.type "int") (.type "type") (PySem.Str.ofString "from_bytes")=some (.get (.builtin "classmethod_descriptor.__get__") (.builtin "int.from_bytes") .none (.type "int")):=by rfl
theorem CJ(Ok:c.Ok lv)(R:aK c σ ρ P s){Q:Value×List Value→Shared→Prop}(h:∀x s',aK c σ ρ ((x,KFB.bound)::P) s'→Q (.ref x,[]) s'):Wp c (getMethod (.type "int") (nm 196) pl) Q s:=by exact bp R fun m news led R=>af (KFB.getm R.F R.N Ok.X z7 fun x h' F' N' l1=>h x _ (R.tuple (s':={s with heap:=h',toks:=s.toks+1}) (aN rfl rfl rfl) F' N' (cN l1 R.D)))
theorem z9(R:aK c σ ρ P s)(hx:(x,KFB.bound)∈P){K:V→Prop}(v:bT (c.T P) ρ vs xs)(h:Ci vs K){Q:dB}(k:∀z y s',K z→VR (c.T P) ρ z y→aK c σ ρ P s'→Q y s'):Kept w (.ref x) s.heap∧Wp c (call (.ref x) ([]++xs)) Q s:=by
 have hb:s.heap.get? x=some KFB.bound:=by exact bp R fun m news led R=>(R.N _ (R.M.mem_iff.mpr (cb _ hx))).1
 refine⟨(ah .machine (.inr (.inl rfl)) ?_),?_⟩
 ·intro A Q E s2 kp q;unfold keeperOf;exact aO (wpAny_load (kp _ _ hb) (bc q))
 ·unfold Ci at h;induction vs using List.casesOn with
  |nil=>exact h.elim
  |cons v0 l=>refine aa (V.gZ h) fun b az h=>?_;subst az;refine aa (dt h) fun v1 az h=>?_;subst az;refine vF (V.mR h) fun n az hn hl hK=>?_;clear h;subst az;have q_:=cY hn;clear hn;subst q_;refine ao v.cons_inv fun y ys aQ w1 w2=>?_;clear v;subst aQ;refine ao w2.cons_inv fun y2 O7 aQ w3 w4=>?_;clear w2;subst aQ;have q_:=w4.nil_inv;clear w4;subst q_;refine bg w1.bQ fun t az=>?_;clear w1;subst az;refine bg w3.str_inv fun u az=>?_;clear w3;subst az;have ez:KFB.value (KBw.bInts b.toArray)=num b:=rfl;exact af (KFB.call_of (z:=num b) hb (fun{P E' A'} q=>(KFB.tree_big (by refine List.size_toArray.symm▸?_;exact aC 1191216896 rfl hl) (by refine ez.symm▸?_;exact q))) (k _ _ _ hK .int (R.toks _)))
set_option tactic.hygienic true in
theorem z_(h:zy o n=true):o=.bi .int∧n=196:=by
 unfold zy at h;split at h
 ·rename_i q;refine⟨?_,cY q⟩;induction o using V.casesOn<;>first|(cases h;done)|skip
  rename_i b;induction b<;>first|rfl|cases h
 ·exact fT h
set_option tactic.hygienic true in
theorem FL(Ok:c.Ok lv)(hE:nQ c X)(S:IU c ls gs ih){o:E}{n:Nat}{es:Es}{qp p:Nat}{K:KV}(h:ih.e o σ fun o σ=>(match zy o n with|true=>yC ih.e es σ fun vs σ=>Ci vs fun v=>K v σ|false=>(match zx σ.cs o n with|some m=>yC ih.e es σ fun vs σ=>EX w lv X m o vs σ K|none=>False)))(wf:eO ls gs (.sA o n es qp p)=true):mQ c (eval (dE nm (.sA o n es qp p)) c.env) σ K:=fun ρ P s R=>by
 obtain⟨w1,w2⟩:=bE wf;obtain⟨w2,w3⟩:=bE w2;obtain⟨w3,w4⟩:=bE w3;obtain⟨w4,w5⟩:=bE w4;have w2:=bZ w2;refine(?_:Wp c (attributeBase (dE nm o) (nm n) c.env (eval (dE nm o) c.env)>>=fun ov=>standAt (dP qp).atName>>=fun a_=>methodCall (dE nm o) (nm n) (dP qp) (dP p) c.env ov ((dJ nm es).length+([]:List Keyword).length) (backTo (dP p) (starEach (dJ nm es) c.env)) (backToKw (dP p) (keywordEach [] c.env))) _ s);refine(wj nm _ _ _ w1).symm▸?_;refine(S.e o σ _ h w4).use R fun x s' r σ' aI P' e1 R' v q=>aU ?_;generalize hb:zy r n=y_ at q⊢;induction y_ with
 |true=>refine fz (z_ hb) fun fQ az=>?_;clear hb;subst fQ;clear h wf;subst az;refine v.ny.symm▸?_;unfold methodCall;refine(wq w2).symm▸(ag (aw (CJ Ok R' fun x2 s2 R2=>(aq ?_))));unfold methodCallPos;rw[show((dP qp).endLine==(dP p).line)=true from beq_iff_eq.mpr (cY w3),Bool.or_true];exact bc (hU (iH nm _ _ es) ((i5 S.e _ es σ' _ q w5).use R2 (fun xs ij vs ib cj ko hl e2 kY x6 x7=>(z9 kY (e2.p _ aS) x6 x7 fun z y s3 hK hv R3=>aY z ib cj ko (e1.trans (Ext.trans ⟨⟨[],by rw[List.append_nil]⟩,fun a_ h=>cO _ h⟩ e2)) R3 hv hK))))
 |false=>
 dsimp only at q;generalize hk:zx σ'.cs r n=y_ at q;induction y_ with
 |none=>exact q.elim
 |some k=>unfold methodCall;refine(wq w2).symm▸(ag (aw (FA Ok R' v hk (aq ?_))));unfold methodCallPos;rw[show((dP qp).endLine==(dP p).line)=true from beq_iff_eq.mpr (cY w3),Bool.or_true];refine bc (hU (iH nm _ _ es) ((i5 S.e _ es σ' _ q w5).use R' (fun xs ij vs ib cj ko hl e2 kY x6 x7=>?_)));obtain⟨h1,h2⟩:=CI Ok hE kY (v.ext e2) x6 x7;exact⟨h1,ia (e1.trans e2) h2⟩
theorem pU(nm:Nat→PySem.Str)(env:Env)(h:uL f=true):eval (dE nm (.call f es p)) env=(eval (dE nm f) env>>=fun v=>callWith (dP p) v [] (backTo (dP p) (starEach (dJ nm es) env)) []):=by induction f using E.casesOn<;>first|rfl|(exact absurd (show false=true from h) cz)
set_option tactic.hygienic true in
theorem Aa(Ok:c.Ok lv)(hE:nQ c X)(sc:fv c.scope ls gs)(S:IU c ls gs ih):∀(e:E) (σ:St) (K:KV),DI w lv X ih e σ K→eO ls gs e=true→mQ c (eval (dE nm e) c.env) σ K:=fun e σ K h wf=>by
 induction e using E.casesOn with
 |abs=>exact .pure (fun ρ P s R=>af (PyProof.Rows.Constant_none ⟨R,.none⟩)) h
 |none p=>exact .pure (fun ρ P s R=>af (PyProof.Rows.Constant_none ⟨R,.none⟩)) h
 |bool b p=>exact .pure (fun ρ P s R=>af (PyProof.Rows.Constant_bool ⟨R,.bool⟩)) h
 |int i p=>exact .pure (fun ρ P s R=>af (wpAny_Constant_int ⟨R.toks _,.int⟩)) h
 |str n p=>exact .pure (fun ρ P s R=>af (Calls.Constant_str ⟨R.toks _,.str⟩)) h
 |zf b p=>exact .pure (fun ρ P s R=>af (fun a_ b_ c_=>⟨R.toks _,.bytes⟩)) h
 |loc n p=>
  refine(?_:mQ c (eval (.Name (nm n) (dP p)) c.env) σ K);have h:(match look σ.vars n with|some v=>K v σ|none=>False):=h;generalize hv:look σ.vars n=y_ at h;induction y_ with
  |some v=>exact FJ Ok sc wf hv h
  |none=>exact h.elim
 |uu n p=>exact FK Ok sc wf h
 |gX n p=>
  refine(?_:mQ c (eval (.Name (nm n) (dP p)) c.env) σ K);have h:(match globT n with|some v=>K v σ|none=>False):=h;generalize hv:globT n=y_ at h;induction y_ with
  |some v=>exact zY Ok sc wf hv h
  |none=>exact h.elim
 |bin o l r p=>obtain⟨w1,w2⟩:=bE wf;intro ρ P s R;exact(((S.e l σ _ h w1).use R fun x s' a σ' aI P' e1 R' v q=>((S.e r σ' _ q w2).mH R' fun y ij b ib cj ko e2 kY v' q'=>aU (wp_operate (zX (e1.trans e2) (Ck kY (v.ext e2) v' q') fun a_ h=>h)))):Wp c (eval (dE nm l) c.env>>=fun a=>holding [a] (eval (dE nm r) c.env)>>=fun b=>standAt (dP p)>>=fun a_=>operate [a,b] (binaryOp o.d a b)) _ s)
 |neg e p=>
  intro ρ P s R;refine(((S.e e σ _ h wf).use R fun x s' a σ' aI P' e1 R' v q=>aU (aw ?_)):Wp c (eval (dE nm e) c.env>>=fun v=>standAt (dP p)>>=fun a_=>holding [v] (unaryOp .USub v)) _ s);induction a using V.casesOn with
  |int i=>refine bg v.int_inv fun t az=>?_;clear v;subst az;exact af (PyProof.Rows.neg_int (aY _ σ' aI P' e1 (R'.toks _) .int q))
  |_=>exact q.elim
 |cmp o l r p=>
  obtain⟨w1,w2⟩:=bE wf;intro ρ P s R;refine(?_:Wp c (eval (dE nm l) c.env>>=fun a=>holding [a] (markedBehindIn o.d (dE nm r) (eval (dE nm r) c.env))>>=fun b=>standAt (dP p)>>=fun a_=>operate [a,b] (compareOp o.d a b)) _ s);rw[pT];refine(S.e l σ _ h w1).use R fun x s' a σ' aI P' e1 R' v q=>(S.e r σ' _ q w2).mH R' fun y ij b ib cj ko e2 kY v' q'=>aU (wp_operate ?_);generalize hk:zk ib.cs o a b=y_ at q';induction y_ with
  |none=>exact q'.elim
  |some k=>exact bj (v8 Ok kY (v.ext e2) v' hk) (fun z s3 df=>by obtain⟨hz,R3⟩:=df;exact aY _ ib cj ko (e1.trans e2) R3 (hz▸.bool) q')
 |and es p=>exact CH S.e (dP p) es σ K h wf
 |or es p=>exact h.elim
 |not e p=>
  intro ρ P s R;refine(((S.e e σ _ h wf).use R fun x s' a σ' aI P' e1 R' v q=>aU (aw ?_)):Wp c (eval (dE nm e) c.env>>=fun v=>standAt (dP p)>>=fun a_=>holding [v] (unaryOp .Not v)) _ s);generalize hk:truth σ'.cs a=y_ at q;induction y_ with
  |none=>exact q.elim
  |some k=>unfold unaryOp;refine aw (ag (m:=truthy x) (bj (nI R' v hk q.1) (fun b s2 q_=>fz q_ fun hb R2=>ak (aY _ σ' aI P' e1 R2 (hb.symm▸?_) q.2))));exact .bool
 |qK t a b p=>
  obtain⟨w1,w2⟩:=bE wf;obtain⟨w2,w3⟩:=bE w2;intro ρ P s R;refine((aa h fun I h hI=>(ag ((S.t t σ _ _ h w1).use R (fun k s' σ' aI P' e1 R' q=>?_)))):Wp c (isTrue (dE nm t) c.env (eval (dE nm t) c.env)>>=fun k=>if k then eval (dE nm a) c.env else eval (dE nm b) c.env) _ s);induction k with
  |true=>exact bj (S.e a σ' I q w2 aI P' s' R') (fun x s2 z=>z.to e1 hI)
  |false=>exact bj (S.e b σ' I q w3 aI P' s' R') (fun x s2 z=>z.to e1 hI)
 |att e n p=>obtain⟨w1,w2⟩:=bE wf;intro ρ P s R;refine(?_:Wp c (attributeBase (dE nm e) (nm n) c.env (eval (dE nm e) c.env)>>=fun o=>standAt (dP p).atName>>=fun a_=>holding [o] (getAttr o (nm n) true)>>=fun r=>letTemporaryGo (dE nm e) o r>>=fun a_=>pure r) _ s);refine(wj nm _ _ _ w1).symm▸?_;refine(S.e e σ _ h w2).use R fun x s' a σ' aI P' e1 R' v q=>aU ?_;exact ag (aw (bj (z5 Ok R' v q) (fun y s2 z=>aq (wpAny_letTemporaryGo (ak (z.to e1 fun a_ b_ h=>h))))))
 |sub e i p=>obtain⟨w1,w2⟩:=bE wf;intro ρ P s R;refine(?_:Wp c (eval (.Subscript (dE nm e) (dE nm i) (dP p)) c.env) _ s);rw[eval_Subscript];exact(((S.e e σ _ h w1).use R fun x s' a σ' aI P' e1 R' v q=>((S.e i σ' _ q w2).mH R' fun y ij b ib cj ko e2 kY v' q'=>aU (ia (e1.trans e2) (Cy Ok kY (v.ext e2) v' q' (CG nm i))))):Wp c (eval (dE nm e) c.env>>=fun o=>holding [o] (eval (dE nm i) c.env)>>=fun j=>standAt (dP p)>>=fun a_=>subscriptTail (dE nm e) (dE nm i) o j) _ s)
 |slc e lo hi p q=>obtain⟨w1,w2⟩:=bE wf;obtain⟨w2,w3⟩:=bE w2;intro ρ P s R;refine(?_:Wp c (eval (.Subscript (dE nm e) (.Slice (oE nm lo) (oE nm hi) .none (dP q)) (dP p)) c.env) _ s);rw[eval_Subscript];refine(((S.e e σ _ h w1).use R fun x s' a σ' aI P' e1 R' v k1=>(ag (aw ((rh S.e k1 w2).use R' fun l s2 IQ oM sT P2 e2 R2 v2 k2=>?_)))):Wp c (eval (dE nm e) c.env>>=fun o=>holding [o] (valueOrNone (evalOpt (oE nm lo) c.env)>>=fun l=>holding [l] (valueOrNone (evalOpt (oE nm hi) c.env))>>=fun u=>holding [l,u] (pure Value.none)>>=fun st=>newFields "slice" [l,u,st])>>=fun j=>standAt (dP p)>>=fun a_=>subscriptTail (dE nm e) (.Slice (oE nm lo) (oE nm hi) .none (dP q)) o j) _ s);exact(rh S.e k2 w3).mH R2 fun u s3 BI yD yE P3 e3 R3 v3 k3=>ag (aw (ak (af (wpAny_newObj_type (aU (ia (e1.trans (e2.trans e3)) (Cz R3 (v.ext (e2.trans e3)) (v2.ext e3) v3 k3 fun o i=>⟨[i,o],rfl⟩)))))))
 |tup es p=>obtain⟨w1,w2⟩:=bE wf;have w1:=bZ w1;intro ρ P s R;exact((aU (ag ((i5 S.e _ es σ _ h w2).use R (fun xs ij vs ib cj ko hl e2 kY x6 x7=>(ia e2 (x8 kY x6 (aX (Nat.le_of_eq hl) (aX w1 (bZ tt))) x7)))))):Wp c (standAt (dP p)>>=fun a_=>spliced (backTo (dP p) (starEach (dJ nm es) c.env))>>=fun l=>newTuple l) _ s)
 |lst es p=>obtain⟨w1,w2⟩:=bE wf;have w1:=bZ w1;intro ρ P s R;exact((aU (ag ((i5 S.e _ es σ _ h w2).use R (fun xs ij vs ib cj ko hl e2 kY x6 x7=>(ia e2 (zZ kY x6 (aX (Nat.le_of_eq hl) (aX w1 (bZ tt))) x7)))))):Wp c (standAt (dP p)>>=fun a_=>spliced (backTo (dP p) (starEach (dJ nm es) c.env))>>=fun l=>newList l) _ s)
 |qL p=>exact z0 Ok h
 |call f es p=>obtain⟨w1,w2⟩:=bE wf;obtain⟨w2,w3⟩:=bE w2;intro ρ P s R;refine(pU nm _ w1).symm▸((S.e f σ _ h w2).use R fun x s' r σ' aI P' e1 R' v q=>hU (iH nm _ _ es) ((i5 S.e _ es σ' _ q w3).use R' (fun xs ij vs ib cj ko hl e2 kY x6 x7=>?_)));obtain⟨h1,h2⟩:=z4 Ok hE kY (v.ext e2) x6 x7;exact⟨h1,ia (e1.trans e2) h2⟩
 |sA o n es q p=>exact FL Ok hE S h wf
theorem i6{α:Type}{t:Sem α}{Q:α→St→Prop}{hZ:List Addr}{P0:Led}(e:Ext hZ P0 ρ P)(h:Wp c t (KQ c ρ P Q) s):Wp c t (KQ c hZ P0 Q) s:=bj h (fun x s' df=>by refine bS df fun σ' aI P' e' R' q=>?_;exact bz σ' aI P' (e.trans e') R' q)
theorem CK{f:E→St→KU→KU→Prop}(S:∀e σ Kt Kf,f e σ Kt Kf→eO ls gs e=true→wo c (isTrue (dE nm e) c.env (eval (dE nm e) c.env)) σ Kt Kf):∀(es:Es) (σ:St) (Kt Kf:KU),EU f es σ Kt Kf→mI ls gs es=true→wo c (allTrue .And (dJ nm es) c.env) σ Kt Kf:=by
 intro X_;induction X_ using Es.ind with
 |nil=>exact fun σ Kt Kf h _=>fun ρ P s R=>ak (a:=true) (bz σ ρ P .c6 R h)
 |cons e es cD=>
  intro σ Kt Kf h wf ρ P s R;obtain⟨w1,w2⟩:=bE wf
  refine(?_:Wp c (isTrue (dE nm e) c.env (eval (dE nm e) c.env)>>=fun k=>match BoolOp.And,k with
   |.And,false=>pure false
   |.Or,true=>pure true
   |_,_=>allTrue .And (dJ nm es) c.env) _ s)
  refine ag ((S e σ _ _ h w1).use R (fun k s' σ' aI P' e1 R' q=>?_));induction k with
  |false=>exact ak (a:=false) (bz σ' aI P' e1 R' q)
  |true=>exact i6 e1 (cD σ' Kt Kf q w2 aI P' s' R')
theorem FN{f:E→St→KU→KU→Prop}(S:∀e σ Kt Kf,f e σ Kt Kf→eO ls gs e=true→wo c (isTrue (dE nm e) c.env (eval (dE nm e) c.env)) σ Kt Kf):∀(es:Es) (σ:St) (Kt Kf:KU),Ms f es σ Kt Kf→mI ls gs es=true→wo c (allTrue .Or (dJ nm es) c.env) σ Kt Kf:=by
 intro X_;induction X_ using Es.ind with
 |nil=>exact fun σ Kt Kf h _=>fun ρ P s R=>ak (a:=false) (bz σ ρ P .c6 R h)
 |cons e es cD=>
  intro σ Kt Kf h wf ρ P s R;obtain⟨w1,w2⟩:=bE wf
  refine(?_:Wp c (isTrue (dE nm e) c.env (eval (dE nm e) c.env)>>=fun k=>match BoolOp.Or,k with
   |.And,false=>pure false
   |.Or,true=>pure true
   |_,_=>allTrue .Or (dJ nm es) c.env) _ s)
  refine ag ((S e σ _ _ h w1).use R (fun k s' σ' aI P' e1 R' q=>?_));induction k with
  |true=>exact ak (a:=true) (bz σ' aI P' e1 R' q)
  |false=>exact i6 e1 (cD σ' Kt Kf q w2 aI P' s' R')
set_option tactic.hygienic true in
theorem dg{e:E}{σ:St}{Kt Kf:KU}(h:mQ c (eval (dE nm e) c.env) σ fun v σ=>(match truth σ.cs v with|some c=>Hs σ.cs v∧c.go (Kt σ) (Kf σ)|none=>False))(he:isTrue (dE nm e) c.env (eval (dE nm e) c.env)=(eval (dE nm e) c.env>>=fun v=>standAt (dE nm e).pos>>=fun a_=>holding [v] (truthy v))):wo c (isTrue (dE nm e) c.env (eval (dE nm e) c.env)) σ Kt Kf:=fun ρ P s R=>by
 refine he.symm▸(h.use R fun x s' r σ' aI P' e1 R' v q=>aU (aw ?_));generalize hk:truth σ'.cs r=y_ at q;induction y_ with
 |none=>exact q.elim
 |some k=>refine bj (nI R' v hk q.1) (fun b s2 q_=>fz q_ fun hb R2=>bz σ' aI P' e1 R2 (hb.symm▸?_));exact dW.uy q.2
set_option tactic.hygienic true in
theorem Ab(Ok:c.Ok lv)(S:IU c ls gs ih):∀(e:E) (σ:St) (Kt Kf:KU),stepT ih e σ Kt Kf→eO ls gs e=true→wo c (isTrue (dE nm e) c.env (eval (dE nm e) c.env)) σ Kt Kf:=fun e σ Kt Kf h wf=>by
 induction e using E.casesOn with
 |not e p=>intro ρ P s R;refine(?_:Wp c (isTrue (dE nm e) c.env (eval (dE nm e) c.env)>>=fun b=>pure (!b)) _ s);refine ag ((S.t e σ _ _ h wf).use R (fun k s' σ' aI P' e1 R' q=>ak (bz σ' aI P' e1 R' ?_)));induction k<;>exact q
 |and es p=>exact CK S.t es σ Kt Kf h wf
 |or es p=>exact FN S.t es σ Kt Kf h wf
 |qK t a b p=>
  obtain⟨w1,w2⟩:=bE wf;obtain⟨w2,w3⟩:=bE w2;intro ρ P s R;refine((ag ((S.t t σ _ _ h w1).use R (fun k s' σ' aI P' e1 R' q=>?_))):Wp c (isTrue (dE nm t) c.env (eval (dE nm t) c.env)>>=fun k=>if k then isTrue (dE nm a) c.env (eval (dE nm a) c.env)else isTrue (dE nm b) c.env (eval (dE nm b) c.env)) _ s);induction k with
  |true=>exact i6 e1 (S.t a σ' _ _ q w2 aI P' s' R')
  |false=>exact i6 e1 (S.t b σ' _ _ q w3 aI P' s' R')
 |cmp o l r p=>
  obtain⟨w1,w2⟩:=bE wf;intro ρ P s R;refine(?_:Wp c (eval (dE nm l) c.env>>=fun a=>holding [a] (markedBehindIn o.d (dE nm r) (eval (dE nm r) c.env))>>=fun b=>standAt (dP p)>>=fun a_=>operate [a,b] (compareOp o.d a b)>>=fun k=>holding [k] (truthy k)) _ s);rw[pT];refine(S.e l σ _ h w1).use R fun x s' a σ' aI P' e1 R' v q=>(S.e r σ' _ q w2).mH R' fun y ij b ib cj ko e2 kY v' q'=>aU ?_;generalize hk:zk ib.cs o a b=y_ at q';induction y_ with
  |none=>exact q'.elim
  |some k=>refine ag (wp_operate (bj (v8 Ok kY (v.ext e2) v' hk) (fun z s3 df=>?_)));obtain⟨hz,R3⟩:=df;refine hz.symm▸(aw (af (wpAny_truthy_bool (bz ib cj ko (e1.trans e2) R3 (dW.uy q')))))
 |abs=>exact dg (S.e _ σ _ h wf) rfl
 |none p=>exact dg (S.e _ σ _ h wf) rfl
 |bool b p=>exact dg (S.e _ σ _ h wf) rfl
 |int i p=>exact dg (S.e _ σ _ h wf) rfl
 |str n p=>exact dg (S.e _ σ _ h wf) rfl
 |zf b p=>exact dg (S.e _ σ _ h wf) rfl
 |loc n p=>exact dg (S.e _ σ _ h wf) rfl
 |uu n p=>exact dg (S.e _ σ _ h wf) rfl
 |gX n p=>exact dg (S.e _ σ _ h wf) rfl
 |bin o l r p=>exact dg (S.e _ σ _ h wf) rfl
 |neg e p=>exact dg (S.e _ σ _ h wf) rfl
 |att e n p=>exact dg (S.e _ σ _ h wf) rfl
 |sub e i p=>exact dg (S.e _ σ _ h wf) rfl
 |slc e lo hi p q=>exact dg (S.e _ σ _ h wf) rfl
 |tup es p=>exact dg (S.e _ σ _ h wf) rfl
 |lst es p=>exact dg (S.e _ σ _ h wf) rfl
 |qL p=>exact dg (S.e _ σ _ h wf) rfl
 |call f es p=>exact dg (S.e _ σ _ h wf) rfl
 |sA o n es q p=>exact dg (S.e _ σ _ h wf) rfl
theorem DQ(Ok:c.Ok lv)(hE:nQ c X)(sc:fv c.scope ls gs):∀n,IU c ls gs (vc w lv X n):=by
 intro X_;induction X_ with
 |zero=>exact⟨fun a_ b_ c_ h=>h.elim,fun a_ b_ c_ d_ h=>h.elim⟩
 |succ n cD=>exact⟨Aa Ok hE sc (cD),Ab Ok (cD)⟩
end
section
variable{w:World}{c:Cx w}{lv:Nat}{σ:St}{ρ:List Addr}{P:Led}{s:Shared}{X:St→Prop}{ls gs:List Nat}{ih:Ih}{f:E→St→KV→Prop}
abbrev Pu(c:Cx w)(ρ:List Addr)(P:Led)(K:KU):Unit→Shared→Prop:=KQ c ρ P fun a_ σ=>K σ
theorem ri{t:Sem Unit}{K:KU}{hZ:List Addr}{P0:Led}(e:Ext hZ P0 ρ P)(h:Wp c t (fun a_ s'=>DK c ρ P K s') s):Wp c t (Pu c hZ P0 K) s:=bj h (fun a_ s' df=>by refine aa df fun σ' R k=>?_;exact bz σ' ρ P e R k)
theorem nU{vs:List Value}{t:Sem Unit}{K:KU}(h:Wp c t (Pu c ρ P K) s):Wp c (t>>=fun a_=>release vs []) (Pu c ρ P K) s:=ag (bj h (fun a_ s' z=>wp_release z))
abbrev lN(c:Cx w)(ls gs:List Nat)(f:E→St→KV→Prop):Prop:=∀e σ Q,f e σ Q→eO ls gs e=true→mQ c (eval (dE nm e) c.env) σ Q
theorem wu(Ok:c.Ok lv)(sc:fv c.scope ls gs){n:Nat}{v:V}{x:Value}{K:KU}(hn:ec ls n=true)(R:aK c σ ρ P s)(vx:VR (c.T P) ρ v x)(k:K ⟨fu σ.vars n v,σ.cs⟩):Wp c (bindName c.env (nm n) x) (Pu c ρ P K) s:=by exact bp R fun m news led R=>fc (sc.l n hn) fun k1 k2 k3=>af (wpAny_bindName (storeX_L R.F R.N (fun h' F' N'=>bz _ ρ P .c6 (R.put (s':={s with heap:=h',toks:=s.toks+1}) k1 vx (aN rfl rfl rfl) F' N') k) Ok.hk k2))
noncomputable def Hy(ls gs:List Nat):E→Bool
 |.loc n _=>ec ls n
 |.att e _ _=>eO ls gs e
 |.sub e i _=>eO ls gs e&&eO ls gs i
 |.slc e lo hi _ _=>eO ls gs e&&(eO ls gs lo&&eO ls gs hi)
 |_=>false
theorem sU(S:lN c ls gs f){lo hi:E}{q:Nat}{K:V→V→St→Prop}(h:f lo σ fun lo σ=>f hi σ fun hi σ=>K lo hi σ)(w1:eO ls gs lo=true)(w2:eO ls gs hi=true){α:Type}{g:Value→Sem α}{Q:α→Shared→Prop}(R:aK c σ ρ P s)(k:∀σ' aI P' s' vl vu l u,Ext ρ P aI P'→aK c σ' aI P' s'→VR (c.T P') aI vl l→VR (c.T P') aI vu u→K vl vu σ'→Wp c (g (.ref s'.heap.objs.size)) Q {s' with heap:=s'.heap.push {cls:=.type "slice",data:=.fields #[l,u,.none]}}){vs:List Value}:Wp c (holding vs (eval (.Slice (oE nm lo) (oE nm hi) .none (dP q)) c.env)>>=g) Q s:=by refine((ag (aw ((rh S h w1).use R fun l s2 IQ oM sT P2 e2 R2 v2 k2=>(rh S k2 w2).mH R2 fun u s3 BI yD yE P3 e3 R3 v3 k3=>?_))):Wp c (holding vs (valueOrNone (evalOpt (oE nm lo) c.env)>>=fun l=>holding [l] (valueOrNone (evalOpt (oE nm hi) c.env))>>=fun u=>holding [l,u] (pure Value.none)>>=fun st=>newFields "slice" [l,u,st])>>=g) Q s);exact ag (aw (ak (af (wpAny_newObj_type (k yD yE P3 s3 IQ BI l u (e2.trans e3) R3 (v2.ext e3) v3 k3)))))
set_option tactic.hygienic true in
theorem i7(Ok:c.Ok lv)(sc:fv c.scope ls gs)(S:lN c ls gs f):∀(t:E) (v:V) (x:Value) (σ:St) (K:KU),Cj f t v σ K→Hy ls gs t=true→∀ρ P s,aK c σ ρ P s→VR (c.T P) ρ v x→Wp c (assign (dE nm t) c.env x) (Pu c ρ P K) s:=fun t v x σ K h wf ρ P s R vx=>by
 induction t using E.casesOn with
 |loc n p=>exact((aU (wu Ok sc wf R vx h)):Wp c (standAt (dP p)>>=fun a_=>bindName c.env (nm n) x) _ s)
 |att e n p=>refine(((S e σ _ h wf).mH R fun y s' r σ' aI P' e1 R' vo q=>aU (nU (aw (aa (V.eB q) fun r0 Ac q=>cS (lE q) fun C fs hi q=>fz (dq q) fun ht qz=>?_)))):Wp c (holding [x] (eval (dE nm e) c.env)>>=fun ov=>standAt (dP p).atName>>=fun a_=>holding [x,ov] (setAttr ov (nm n) x)>>=fun a_=>release [x,ov] []) _ s);clear q;subst Ac;exact bj (zF Ok R' vo (vx.ext e1).Pm hi ht) (fun a_ s2 R2=>bz _ aI P' e1 R2 qz)
 |sub e i p=>obtain⟨w1,w2⟩:=bE wf;refine(((S e σ _ h w1).mH R fun y s' r σ' aI P' e1 R' vo q=>((S i σ' _ q w2).mH R' fun z ij k ib cj ko e2 kY vi q'=>aU (nU (aw (aa (V.eB q') fun r0 Ac qz=>?_))))):Wp c (holding [x] (eval (dE nm e) c.env)>>=fun ov=>holding [x,ov] (eval (dE nm i) c.env)>>=fun iv=>standAt (dP p)>>=fun a_=>holding [x,ov,iv] (setItem ov iv x)>>=fun a_=>release _ []) _ s);clear q';subst Ac;exact ri (e1.trans e2) (uG kY (vo.ext e2) vi (vx.ext (e1.trans e2)) qz)
 |slc e lo hi p q=>obtain⟨w1,w2⟩:=bE wf;obtain⟨w2,w3⟩:=bE w2;refine(((S e σ _ h w1).mH R fun y s' r σ' aI P' e1 R' vo k1=>?_):Wp c (holding [x] (eval (dE nm e) c.env)>>=fun ov=>holding [x,ov] (eval (.Slice (oE nm lo) (oE nm hi) .none (dP q)) c.env)>>=fun iv=>standAt (dP p)>>=fun a_=>holding [x,ov,iv] (setItem ov iv x)>>=fun a_=>release _ []) _ s);refine sU S k1 w2 w3 R' fun yD yE P3 s3 vl vu l u e3 R3 v2 v3 k3=>aU (nU (aw (aa (V.eB k3) fun r0 Ac k3=>aa (V.b8 k3) fun x' IV k3=>aa (V.b8 k3) fun y' Pp k3=>aa (V.gZ k3) fun d Pq k3=>aa (vV k3) fun b hb k3=>BP k3 fun h1 h2 h3 h4 h5=>?_)));subst Ac;subst IV;subst Pp;subst Pq;refine aa ((vo.ext e3).bI) fun a hr aQ=>?_;clear vo;subst aQ;refine bg vx.bQ fun t az=>?_;clear vx;subst az;exact ri (e1.trans e3) (xU R3 hr hb v2 v3 h1 h2 h3 h4 h5)
 |_=>exact absurd wf cz
noncomputable def sV(ls gs:List Nat):Es→Bool
 |.nil=>true
 |.cons e es=>Hy ls gs e&&sV ls gs es
theorem rj(nm:Nat→PySem.Str)(env:Env)(e:E)(rest:List Expr):assignEach (dE nm e::rest) env=(false,assign (dE nm e) env)::assignEach rest env:=by induction e using E.casesOn<;>rfl
theorem Ad(nm:Nat→PySem.Str)(env:Env):∀es:Es,(assignEach (dJ nm es) env).length=es.len∧(assignEach (dJ nm es) env).findIdx? (·.1)=none:=by
 intro X_;induction X_ using Es.ind with
 |nil=>exact⟨rfl,rfl⟩
 |cons e es cD=>obtain⟨h1,h2⟩:=cD;refine(?_:(assignEach (dE nm e::dJ nm es) env).length=_∧(assignEach (dE nm e::dJ nm es) env).findIdx? (·.1)=none);rw[rj];refine⟨by rw[cB,h1];rfl,?_⟩;rw[List.findIdx?_cons,h2];rfl
theorem CL(Ok:c.Ok lv)(sc:fv c.scope ls gs)(S:lN c ls gs f):∀(ts:Es) (vs:List V) (xs:List Value) (σ:St) (K:KU),sG f ts vs σ K→sV ls gs ts=true→∀ρ P s,aK c σ ρ P s→bT (c.T P) ρ vs xs→Wp c (assignInOrder ((assignEach (dJ nm ts) c.env).map (·.2)) xs) (Pu c ρ P K) s:=by
 intro X_;induction X_ using Es.ind with
 |nil=>
  intro vs xs σ K h _ ρ P s R _;induction vs using List.casesOn with
  |cons=>exact h.elim
  |nil=>refine(?_:Wp c (assignInOrder [] xs) _ s);exact ak (bz σ ρ P .c6 R h)
 |cons t ts cD=>
  intro vs xs σ K h wf ρ P s R vx;induction vs using List.casesOn with
  |nil=>exact h.elim
  |cons v vs=>obtain⟨w1,w2⟩:=bE wf;refine ao vx.cons_inv fun y ys aQ v1 v2=>?_;subst aQ;refine(?_:Wp c (assignInOrder ((assignEach (dE nm t::dJ nm ts) c.env).map (·.2)) (y::ys)) _ s);rw[rj];exact((ag (aw (bj (i7 Ok sc S t v y σ _ h w1 ρ P s R v1) (fun a_ s' df=>(bS df fun σ' aI P' e1 R' q=>i6 e1 (cD vs ys σ' K q w2 aI P' s' R' (v2.ext e1))))))):Wp c (holding ys (assign (dE nm t) c.env y)>>=fun a_=>assignInOrder ((assignEach (dJ nm ts) c.env).map (·.2)) ys) _ s)
theorem aK.ext'{m:PySem.Str→Option Value}(R:Rep c σ ρ P s m news led)(F:Fr c.g c.L h' m)(N:News c.g c.L h' news):aK c σ ρ P {s with heap:=h'}:=R.same (aN rfl rfl rfl) F N
theorem x9{vs:List V}{α:Type}{g:List Value→Sem α}{Q:α→Shared→Prop}(Ok:c.Ok lv)(R:aK c σ ρ P s)(vx:VR (c.T P) ρ (.tup vs) x)(hn:n=vs.length)(k:∀s' xs,aK c σ ρ P s'→bT (c.T P) ρ vs xs→Wp c (g xs) Q s'):Wp c (holding h (unpackItems x n none)>>=g) Q s:=by refine bS vx.fb fun a items e ew ht hv=>?_;clear vx;subst ew;refine bp R fun m news led R=>aq (wpAny_holding (unpackItemsN_ R.F R.N (uF Ok R ht) rfl ?_ fun h' F' N'=>k _ _ (aK.ext' R F' N') hv));rw[hn,hv.size]
noncomputable def Hz(ls gs:List Nat):E→Bool
 |.tup ts _=>sV ls gs ts
 |t=>Hy ls gs t
theorem wx(Ok:c.Ok lv)(sc:fv c.scope ls gs)(S:lN c ls gs f){ts:Es}{p:Nat}{v:V}{x:Value}{σ:St}{K:KU}(h:zz f ts v σ K)(wf:sV ls gs ts=true){ρ:List Addr}{P:Led}{s:Shared}(R:aK c σ ρ P s)(vx:VR (c.T P) ρ v x):Wp c (assign (dE nm (.tup ts p)) c.env x) (Pu c ρ P K) s:=by
 have go:∀vs:List V,v=.tup vs→ts.len=vs.length→sG f ts vs σ K→Wp c (assign (dE nm (.tup ts p)) c.env x) (Pu c ρ P K) s:=fun vs e hl h1=>by clear h;subst e;obtain⟨l1,l2⟩:=Ad nm c.env ts;refine((aU ?_):Wp c (standAt (dP p)>>=fun a_=>unpack x (assignEach (dJ nm ts) c.env)) _ s);unfold unpack;rw[l1,l2];exact x9 Ok R vx hl fun s' xs R' DL=>CL Ok sc S ts vs xs σ K h1 wf ρ P s' R' DL
 induction v using V.casesOn with
 |tup vs=>
  have h:(match Nat.beq ts.len vs.length with|true=>sG f ts vs σ K|false=>False):=h;generalize q:Nat.beq ts.len vs.length=y_ at h⊢;induction y_ with
  |true=>exact go vs rfl (cY q) h
  |false=>exact h.elim
 |_=>exact False.elim h
set_option tactic.hygienic true in
theorem FO(Ok:c.Ok lv)(sc:fv c.scope ls gs)(S:lN c ls gs f){t:E}{v:V}{x:Value}{σ:St}{K:KU}(h:asg f t v σ K)(wf:Hz ls gs t=true){ρ:List Addr}{P:Led}{s:Shared}(R:aK c σ ρ P s)(vx:VR (c.T P) ρ v x):
  Wp c (assign (dE nm t) c.env x) (Pu c ρ P K) s:=by
 induction t using E.casesOn
 case tup ts p=>exact wx Ok sc S h wf R vx
 case loc n p=>exact i7 Ok sc S (.loc n p) v x σ K h wf ρ P s R vx
 case att e n p=>exact i7 Ok sc S (.att e n p) v x σ K h wf ρ P s R vx
 case sub e i p=>exact i7 Ok sc S (.sub e i p) v x σ K h wf ρ P s R vx
 case slc e a b p q=>exact i7 Ok sc S (.slc e a b p q) v x σ K h wf ρ P s R vx
 all_goals exact absurd wf cz
theorem x_(h:∀n,look vars' n=look vars n)(R:jx T ρ vars m):jx T ρ vars' m:=fun n v e=>R n v (by rw[←h];exact e)
theorem aK.vars{vars:List (Nat×V)}(h:∀n,look vars n=look σ.vars n)(R:aK c σ ρ P s):aK c ⟨vars,σ.cs⟩ ρ P s:=by exact bp R fun m news led R=>⟨m,news,led,R.gens,R.drawn,R.os,R.K,R.F,R.N,R.D,R.M,R.C,x_ h R.Vr⟩
noncomputable def Ae:E→Bool
 |.call _ _ _=>true|.sA _ _ _ _ _=>true|.att _ _ _=>true|.lst _ _=>true|.qL _=>true
 |_=>false
noncomputable def kI:Es→Bool
 |.nil=>false
 |.cons e es=>Ae e||kI es
noncomputable def E.uO:E→Option (Nat×Nat)
 |.loc n p=>Option.some (n,p)
 |_=>Option.none
noncomputable def E.CM:E→Option Es
 |.tup es _=>Option.some es
 |_=>Option.none
theorem E.FP{e:E}{q:Nat×Nat}(h:e.uO=some q):e=.loc q.1 q.2:=by induction e using E.casesOn<;>first|(cases h;rfl)|exact nomatch(show(Option.none:Option (Nat×Nat))=Option.some _ from h)
theorem E.FQ{e:E}(h:e.CM=some es):∃p,e=.tup es p:=by induction e using E.casesOn<;>first|(cases h;exact⟨_,rfl⟩)|exact nomatch(show(Option.none:Option Es)=Option.some _ from h)
noncomputable def fx:Es→Option (List (Nat×Nat))
 |.nil=>some []
 |.cons e es=>(match e.uO with
  |some q=>(match fx es with|some l=>some (q::l)|none=>none)
  |none=>none)
noncomputable def Af(ts:Es)(e:E):Bool:=match e.CM with
 |none=>true
 |some es=>(match fx ts with
  |none=>true
  |some l=>(Nat.beq l.length 2||Nat.beq l.length 3)&&(Nat.beq es.len l.length&&(kI es&&(bW (l.map (·.1))&&l.all (fun q=>Nat.beq (dP q.2).line (dP ((l.head?.map (·.2)).getD 0)).line)))))
end
section
variable{w:World}{c:Cx w}{lv:Nat}{σ:St}{ρ:List Addr}{P:Led}{s:Shared}
theorem ya{l:List (Int×List Int)}(h:cF ρ (some (p,j)) ps l tl):p∉aj l→cF ρ none ps l tl∧l.map (fun q=>if q.1=p then(q.1,xs)else q)=l:=by
 generalize e:some (p,j)=hh at h;induction h with
 |nil=>intro _;exact⟨.nil,rfl⟩
 |own a b d r ih=>intro hn;simp only[aj,List.map_cons,bD,not_or]at hn;obtain⟨h1,h2⟩:=ih hn.2;exact⟨.own (fun a_=>nofun) b d h1,by rw[List.map_cons,h2,aH (Ne.symm hn.1)]⟩
 |hole a b r ih=>intro hn;clear r;subst e;cases a;exact absurd (aS) hn
theorem uP{l:List (Int×List Int)}(hb:ρ[j]?=some b)(ho:gg ob (List.toArray ys))(hi:IntsAre ys xs)(h:cF ρ (some (p,j)) ps l tl):p∈aj l→(aj l).Nodup→∃q6,cF ρ none ps (l.map fun q=>if q.1=p then(q.1,xs)else q) q6∧q6.Perm ((b,ob)::tl):=by
 generalize e:some (p,j)=hh at h;induction h with
 |nil=>intro hn;cases hn
 |@own q bq yq oq xq ps l tl a b' d r ih=>intro hn hd;have fy:q≠p:=fun z=>a j (by rw[←e,z]);simp only[aj,List.map_cons,bD,cu]at hn hd;refine aa (ih (hn.resolve_left (Ne.symm fy)) hd.2) fun q6 h1 h2=>ah ((bq,oq)::q6) ?_ ((h2.cons _).trans (List.Perm.swap ..));rw[List.map_cons,aH fy];exact .own (fun a_=>nofun) b' d h1
 |@hole q j' bq xq ps l tl a b' r ih=>intro hn hd;subst e;cases a;simp only[aj,List.map_cons,cu]at hd;obtain⟨h1,h2⟩:=ya (xs:=xs) r hd.1;rw[hb]at b';have q_:=bf b';clear b';subst q_;refine ah ((b,ob)::tl) ?_ (.refl _);rw[List.map_cons,aB rfl,h2];exact .own (fun a_=>nofun) ho hi h1
theorem CN{l:List (Int×List Int)}(h:p∈aj l):dput l p xs=l.map fun q=>if q.1=p then(q.1,xs)else q:=by unfold dput;rw[aB];exact aa (bO.mp h) fun q hq e=>List.any_eq_true.mpr (ah q hq (by simp[e]))
theorem jA{cs:List O}{led:Led}{o:O}{xs:List Int}(hr:cs[r]?=some (.rows l (some (p,j))))(hj:cs[j]?=some o)(hi:o.items=some (xs.map .int))(hp:p∈aj l)(fy:r≠j)(C:aP w T ρ ρ cs led):∃bx,aP w T ρ ρ ((cs.set r (.rows (dput l p xs) none)).set j .dead) bx∧led.Perm bx:=by
 refine br (C.focus hj) fun b lb r1 f1 f2 f3 f4=>ao (f2.items hi) fun ob bw aQ q1 q2=>?_;clear f2;subst aQ;refine aa (f4 ρ (fun a_ b_ h=>h) .dead [] rfl) fun Pt c1 c2=>?_;have EG:(cs.set j .dead)[r]?=some (.rows l (some (p,j))):=by rw[List.getElem?_set_ne (Ne.symm fy)];exact hr
 refine br (c1.focus EG) fun a la r2 g1 DR g4 g5=>?_;refine bS DR fun oa ps tl ew g2 g3=>?_;clear DR;subst ew;refine aa (uP (ys:=bw.toList) f1 (by rw[Array.toArray_toList];exact q1) (kG q2) g3 hp (by rw[←g3.keys];exact iZ g2)) fun q6 h1 h2=>aa (g5 ρ (fun a_ b_ h=>h) (.rows (dput l p xs) none) ((a,oa)::q6) (bz oa ps q6 rfl g2 (by rw[CN hp];exact h1))) fun IW d1 d2=>ah IW (by rw[List.set_comm _ _ fy];exact d1) (f3.trans ?_);have e1:r1.Perm ((a,oa)::tl++r2):=c2.symm.trans g4;have e2:((a,oa)::q6++r2).Perm ((b,ob)::((a,oa)::tl++r2)):=by have:=((h2.cons (a,oa)).trans (List.Perm.swap ..)).append_right r2;simpa using this
 exact((e1.cons (b,ob)).trans e2.symm).trans d2.symm
set_option tactic.hygienic true in
theorem mK{led:Led}(C:aP w T ρ ρ cs led):∀(os:List O) (r:Nat),(∀(k:Nat) (o:O),os[k]?=some o→cs[r+k]?=some o)→eD os→∃bx,aP w T ρ ρ (foldFrom cs r os) bx∧led.Perm bx:=by
 intro X_;induction X_ with
 |nil=>exact fun r _ _=>ah led C (.refl _)
 |cons o os cD=>
  intro r hc hh;have rest:∃bx,aP w T ρ ρ (foldFrom cs (r+1) os) bx∧led.Perm bx:=cD (r+1) (fun k o e=>by have:=hc (k+1) o e;rwa[show r+1+k=r+(k+1) by exact bo (fo 406340700146064 rfl) (fo 306804838994064 rfl)]) hh.2;have h0:cs[r]?=some o:=hc 0 o rfl;induction o with
  |rows l hl=>
   induction hl with
   |none=>exact rest
   |some pj=>
    obtain⟨p,j⟩:=pj
    refine(?_:∃bx,aP w T ρ ρ (match cs[j]? with
     |some (.ints xs)=>(cs.set r (.rows (dput l p xs) none)).set j .dead
     |some (.list [])=>(cs.set r (.rows (dput l p []) none)).set j .dead
     |_=>cs) bx∧led.Perm bx)
    have hp:p∈aj l:=hh.1;generalize hj:cs[j]?=y_;induction y_ with
    |none=>exact ah led C (.refl _)
    |some o=>induction o with
     |«ints» xs=>exact jA h0 hj rfl hp (fun e=>by rw[e,hj]at h0;cases h0) C
     |list vs=>induction vs using List.casesOn with
      |nil=>exact jA h0 hj rfl hp (fun e=>by rw[e,hj]at h0;cases h0) C
      |cons _ _=>exact ah led C (.refl _)
     |_=>exact ah led C (.refl _)
  |_=>exact rest
theorem uQ{led:Led}(C:aP w T ρ ρ cs led)(h:eD cs):∃bx,aP w T ρ ρ (eC cs) bx∧led.Perm bx:=mK C cs 0 (fun k o e=>by rw[Nat.zero_add];exact e) h
theorem yb:∀{vars':List (Nat×V)},sI κ vars vars'→∀p∈vars',look vars p.1=some (p.2.eP κ):=by
 intro X_;induction X_ with
 |nil=>intro _ p hp;exact by cases hp
 |cons q l cD=>
  intro h p hp;rcases bD.mp hp with rfl|hp
  ·exact(ky.hd h).1
  ·exact cD (ky.hd h).2 p hp
theorem pV:∀{l:List Nat},nF κ l→∀k∈l,κ[k]?=some k:=by
 intro X_;induction X_ with
 |nil=>intro _ k hk;exact by cases hk
 |cons q l cD=>
  intro h k hk;rcases bD.mp hk with rfl|hk
  ·exact h.1
  ·exact cD h.2 k hk
theorem nV{S:dK}{cs cs':List O}{led:Led}{κ:List Nat}(h1:bW κ=true)(h0:eD cs)(h4:vT κ (eC cs) κ cs')(C:aP w (TX w S P) ρ ρ cs led):∃bx gb,jw κ ρ (κ.map fun i=>ρ.getD i 0)∧(led++P).Perm (bx++(gb++P))∧(∀a o,TX w S P a o→TX w S (gb++P) a o)∧aP w (TX w S (gb++P)) (κ.map fun i=>ρ.getD i 0) (κ.map fun i=>ρ.getD i 0) cs' bx:=by
 refine aa (uQ C h0) fun Pw C p0=>?_;have wc:jw κ ρ (κ.map fun i=>ρ.getD i 0):=fun i j a qM MD=>by rw[List.getElem?_map,qM];refine(?_:some (ρ.getD j 0)=_);rw[cW,MD];rfl
 refine ao (nP wc h1 h4 C) fun lp lr q1 q2 q3=>?_;have up:∀a o,TX w S P a o→TX w S (lr++P) a o:=fun a o h=>h.imp (fun h=>h) fun h=>⟨cb _ h.1,h.2⟩;exact gm lp lr wc (((p0.trans q1).append_right P).trans (by rw[bC])) up (q2.mono up fun a_ b_ h=>h)
theorem i8(hK:∀p∈c.K,p.1∈Kp)(R:aK c σ ρ P s)(h:Norm Kp κ σ σ'):∃aI P',(∀k∈Kp,∀a,ρ[k]?=some a→aI[k]?=some a)∧(∀q∈P,q∈P')∧aK c σ' aI P' s:=by
 rcases h with⟨e,hv⟩|⟨h1,h0,h2,h3,h4⟩
 ·refine bp R fun m news led R=>?_;refine⟨ρ,P,fun a_ b_ c_ h=>h,fun a_ h=>h,m,news,led,R.gens,R.drawn,R.os,R.K,R.F,R.N,R.D,R.M,by rw[e];exact R.C,fun n v q=>R.Vr n v ?_⟩
  have key:∀{l:List (Nat×V)},nG σ.vars l→∀p∈l,look σ.vars p.1=some p.2:=by
   intro l;induction l with
   |nil=>intro _ p hp;cases hp
   |cons q l ih=>
    intro h p hp;rcases bD.mp hp with rfl|hp
    ·exact(ky.hd h).1
    ·exact ih (ky.hd h).2 p hp
  exact key hv (n,v) (nJ q)
 refine bp R fun m news led R=>bV (nV h1 h0 h4 R.C) fun bx gb wc pm up C=>?_;have kp:∀k∈Kp,∀a,ρ[k]?=some a→(κ.map fun i=>ρ.getD i 0)[k]?=some a:=fun k hk a e=>wc k k a (pV h2 k hk) e;refine⟨κ.map fun i=>ρ.getD i 0,gb++P,kp,fun q hq=>cb _ hq,m,news,bx,R.gens,R.drawn,R.os,fun p hp=>kp _ (hK p hp) _ (R.K p hp),R.F,R.N,R.D,R.M.trans pm,C,fun n v e=>?_⟩;have hm:=yb h3 (n,v) (nJ e);exact gO (R.Vr n _ hm) fun k1 x k2 k3=>d7 k1 x k2 (VR.mono up (fun a_ b_ h=>h) (VR.fg wc v k3))
end
section
variable{w:World}{c:Cx w}{lv:Nat}{σ:St}{ρ:List Addr}{P:Led}{s:Shared}{X:St→Prop}{ls gs:List Nat}{ih:Ih}
set_option tactic.hygienic true in
def NU(c:Cx w)(P:Led)(ρ:List Addr)(σ:St)(K:KF):Flow→Prop
 |.next=>K .next σ
 |.brk=>K .brk σ
 |.cont=>K .cont σ
 |.ret x=>∃v,VR (c.T P) ρ v x∧K (.ret v) σ
def iI(c:Cx w)(Kp:List Nat)(ρ:List Addr)(P:Led)(K:KF)(fl:Flow)(s':Shared):Prop:=∃σ' aI P',(∀k∈Kp,∀a,ρ[k]?=some a→aI[k]?=some a)∧(∀q∈P,q∈P')∧aK c σ' aI P' s'∧NU c P' aI σ' K fl
def oN(c:Cx w)(Kp:List Nat)(t:Sem Flow)(σ:St)(K:KF):Prop:=∀ρ P s,aK c σ ρ P s→Wp c t (iI c Kp ρ P K) s
theorem iI.from{Kp:List Nat}{hZ:List Addr}{P0:Led}{K:KF}{fl:Flow}(h1:∀k∈Kp,∀a,hZ[k]?=some a→ρ[k]?=some a)(h2:∀q∈P0,q∈P)(h:iI c Kp ρ P K fl s):iI c Kp hZ P0 K fl s:=by exact br h fun σ' aI P' k1 k2 R f=>aR σ' aI P' (fun k hk a e=>k1 k hk a (h1 k hk a e)) (fun q hq=>k2 q (h2 q hq)) R f
theorem iI.of{Kp:List Nat}{hZ:List Addr}{P0:Led}{K:KF}{fl:Flow}(e:Ext hZ P0 ρ P)(R:aK c σ ρ P s)(f:NU c P ρ σ K fl):iI c Kp hZ P0 K fl s:=aR σ ρ P (fun k a_ a h=>e.get k a h) e.p R f
theorem DS{Kp:List Nat}{t:Sem Unit}{K:KF}{hZ:List Addr}{P0:Led}(e:Ext hZ P0 ρ P)(h:Wp c t (Pu c ρ P (K .next)) s):Wp c (t>>=fun a_=>pure Flow.next) (iI c Kp hZ P0 K) s:=ag (bj h (fun a_ s' q_=>bS q_ fun σ' aI P' e' R' q=>ak (iI.of (e.trans e') R' q)))
theorem i9{α:Type}{E:dB}{m:Sem α}{Q:α→Shared→Prop}(h:cR M A m Q (notedBy M A env E) s):cR M A (m.onRaise fun x=>do noteFrame x env;theTreesLotGoes x) Q E s:=ee (bM h (fun a_ b_ q=>q) fun a_ b_ hx=>af (aO (wpAny_mono hx (fun a_ b_ e=>wpAny_theTreesLotGoes e) fun a_ b_ e=>e)))
theorem nW{Q:Flow→Shared→Prop}(hc:cK (model Prog w) c.A k (fun r s'=>match r with|.ok f=>Q f s'|.error e=>cameBackBy (model Prog w) c.A env c.E e s') s):Wp c (runOwn k env) Q s:=by unfold runOwn;exact ee (bM (BS (A:=c.A) (E:=fun e s'=>cameBackBy (model Prog w) c.A env c.E e s') (Q:=Q) (hc) (by intro x;cases x)) (fun a_ b_ h=>h) fun a_ b_ h=>af h)
def rk(c:Cx w)(Kp:List Nat)(ρ:List Addr)(P:Led)(K:KF)(r:Result)(s':Shared):Prop:=match r with|.ok f=>iI c Kp ρ P K f s'|.error e=>cameBackBy (model Prog w) c.A c.env c.E e s'
set_option tactic.hygienic true in
theorem Ag{Kp:List Nat}{test:Expr}{body:List Stmt}{p:Pos}{K:KF}(rl:PassesOwn (model Prog w) c.A c.env c.E)(hK:∀p∈c.K,p.1∈Kp)(I:Nat→St→Prop)(n0:Nat)(h0:I n0 σ)(turn:∀n σ',I n σ'→wo c (isTrue test c.env (eval test c.env)) σ' (fun σ'=>oN c Kp (execs body c.env) σ' (vZ Kp (fun fU=>∃m,m<n∧I m fU) K)) (K .next)):oN c Kp (exec (.While test body [] p) c.env) σ K:=fun ρ P s R=>by
 rw[exec_While];refine aU (nW (Q:=iI c Kp ρ P K) ((?_:cK (model Prog w) c.A (.whileLoop test body [] c.env) (rk c Kp ρ P K) s)))
 suffices H:∀n σ' aI P' s',I n σ'→aK c σ' aI P' s'→(∀k∈Kp,∀a,ρ[k]?=some a→aI[k]?=some a)→(∀q∈P,q∈P')→cK (model Prog w) c.A (.whileLoop test body [] c.env) (rk c Kp ρ P K) s' from H n0 σ ρ P s h0 R (fun a_ b_ c_ h=>h) fun a_ h=>h
 intro n;induction n using Nat.strongRecOn with
 |ind n ih=>
  intro σ' aI P' s' hI R' k1 k2;refine bB ff (((i9 ?_):cR _ c.A ((whileTurn test body [] c.env).onRaise (fun x=>do noteFrame x c.env;theTreesLotGoes x)) _ _ s'));unfold whileTurn;refine ag (bM (turn n σ' hI aI P' s' R') (fun b mJ uN=>(bS uN fun oM sT P2 e2 R2 q2=>?_)) rl);induction b with
  |false=>exact aT cz<|ag (ak (ak (aR oM sT P2 (fun k hk a h=>e2.get k a (k1 k hk a h)) (fun q hq=>e2.p q (k2 q hq)) R2 q2)))
  |true=>
   refine cP tt<|ag (bM (q2 sT P2 mJ R2) (fun f kj uE=>(br uE fun yD yE P3 a1 a2 R3 q3=>?_)) rl);have b1:∀k∈Kp,∀a,ρ[k]?=some a→yE[k]?=some a:=fun k hk a h=>a1 k hk a (e2.get k a (k1 k hk a h));have b2:∀q∈P,q∈P3:=fun q hq=>a2 q (e2.p q (k2 q hq));have go:(∃κ fU,Norm Kp κ yD fU∧∃m,m<n∧I m fU)→cK (model Prog w) c.A (.whileLoop test body [] c.env) (rk c Kp ρ P K) kj:=fun q_=>by exact cS q_ fun κ K6 hN t_=>aa t_ fun m hm Px=>ao (i8 hK R3 hN) fun K7 P4 c1 c2 R4=>ih m hm K6 K7 P4 kj Px R4 (fun k hk a h=>c1 k hk a (b1 k hk a h)) fun q hq=>c2 q (b2 q hq)
   induction f with
   |next=>exact ak ⟨tt,go q3⟩
   |cont=>exact ak ⟨tt,go q3⟩
   |brk=>exact q3.elim
   |ret v=>exact ak (aR yD yE P3 b1 b2 R3 q3)
theorem iJ{h':Heap}(R:aK c σ ρ P s)(hI:(I,o)∈P)(ho:¬EP o)(kp:∀b o,b≠I→s.heap.get? b=some o→h'.get? b=some o)(hl:l'=[]∨∃o',l'=[(I,o')]∧h'.get? I=some o'):∃P',(∀q∈l',q∈P')∧(∀q∈P,q.1≠I→q∈P')∧Ext ρ [] ρ P'∧(∀a o,c.T P a o→c.T P' a o)∧aK c σ ρ P' {s with heap:=h',toks:=tk}:=by
 refine bp R fun m news led R=>yJ (List.append_of_mem hI) fun pl pr e=>?_;have hp:P.Perm ((I,o)::(pl++pr)):=by rw[e];exact List.perm_middle
 have pn:news.Perm ((I,o)::(led++(pl++pr))):=R.M.trans ((hp.append_left led).trans List.perm_middle);have N:=gC R.N pn;have D:=d9 pn R.D;have hn:=N _ aS;have F':Fr c.g c.L h' m:=gr R.F hn.2.1 hn.2.2 kp;have Dr:(adr (led++(pl++pr))).Nodup:=(cu.mp D).2;have Hr:∀p∈led++(pl++pr),p.1≠I:=fun p hp e=>(cu.mp D).1 (by refine(?_:I∈adr (led++(pl++pr)));rw[←e];exact List.mem_map_of_mem hp);have Nr:News c.g c.L h' (led++(pl++pr)):=fun p hp=>by have:=N p (cO _ hp);exact⟨kp _ _ (Hr p hp) this.1,this.2⟩
 have up:∀a o,c.T P a o→c.T (l'++(pl++pr)) a o:=fun a o' h=>h.imp (fun h=>h) fun h=>⟨cb _ (by
  rcases bD.mp (hp.mem_iff.mp h.1)with q|q
  ·cases q;exact absurd h.2 ho
  ·exact q),h.2⟩
 refine⟨l'++(pl++pr),fun q hq=>List.mem_append_left _ hq,fun q hq fy=>cb _ ?_,⟨⟨[],(List.append_nil _).symm⟩,fun a_ h=>(by cases h)⟩,up,m,l'++(led++(pl++pr)),led,R.gens,R.drawn,R.os,R.K,F',?_,?_,?_,R.C.mono up fun a_ b_ h=>h,R.Vr.mono up fun a_ b_ h=>h⟩
 ·rcases bD.mp (hp.mem_iff.mp hq)with e|e
  ·exact absurd (by rw[e]) fy
  ·exact e
 ·intro p hp;rcases cC.mp hp with q|q
  ·rcases hl with rfl|⟨o',rfl,ug⟩
   ·cases q
   ·rcases bD.mp q with rfl|q
    ·exact⟨ug,hn.2⟩
    ·cases q
  ·exact Nr p q
 ·rcases hl with rfl|⟨o',rfl,ug⟩
  ·exact Dr
  ·exact cu.mpr ⟨(cu.mp D).1,Dr⟩
 ·rw[←bC,←bC led l'];exact(List.perm_append_comm (l₁:=l') (l₂:=led)).append_right _
structure BJ(c:Cx w)(n:Nat)(It:Nat→V→Prop)(G:St→Prop)(H:List Addr→Prop)(I:Addr)(ob:Nat→Obj→Prop):Prop where
 ty:∀k o,ob k o→∃T vs,o.cls=.type T∧o.data=.fields vs∧T≠"tuple"∧["enumerate","zip","dict_itemiterator","dict_reverseitemiterator","odict_iterator","itertools.zip_longest","itertools.pairwise"].contains T=false
 item:∀k o σ ρ P s (Q:Option Value→Shared→Prop) (E:dB),k<n→G σ→H ρ→aK c σ ρ P s→s.heap.get? I=some o→ob k o→(∀v x h' tk o',It k v→VR (c.T P) ρ v x→h'.get? I=some o'→ob (k+1) o'→(∀b o,b≠I→s.heap.get? b=some o→h'.get? b=some o)→Q (some x) {s with heap:=h',toks:=tk})→wpAny (model Prog w) c.A (pyNext (.ref I)) Q E s
 done:∀o σ ρ P s (Q:Option Value→Shared→Prop) (E:dB),G σ→H ρ→aK c σ ρ P s→s.heap.get? I=some o→ob n o→(∀h' tk,(∀b o,b≠I→s.heap.get? b=some o→h'.get? b=some o)→Q none {s with heap:=h',toks:=tk})→wpAny (model Prog w) c.A (pyNext (.ref I)) Q E s
theorem Ah{o:Obj}{Q:Unit→Shared→Prop}(ho:s.heap.get? I=some o)(h1:o.cls=.type T)(h2:o.data=.fields vs)
  (h3:["enumerate","zip","dict_itemiterator","dict_reverseitemiterator","odict_iterator","itertools.zip_longest","itertools.pairwise"].contains T=false) (q:Q () s):Wp c (letOwnedTupleGo t (.ref I) v) Q s:=by
 have body:Wp c (do
   let(.ref r,.ref a):=(Value.ref I,v)|return
   let o ←load r
   match o.cls,o.data with
   |.type n,.fields vs=>
    if["enumerate","zip","dict_itemiterator","dict_reverseitemiterator","odict_iterator","itertools.zip_longest","itertools.pairwise"].contains n&&vs[0]?==some (rawInt a)then
     rule "for.unpacks-the-owned-tuple"
     updateField r 0 .none
   |_,_=>pure ()) Q s:=by
  induction v<;>first|exact ak q|skip
  refine aq (wpAny_load ho ?_)
  rw[h1,h2]
  dsimp only
  rw[h3,Bool.false_and]
  exact aT cz (ak q)
 induction t using PySem.Expr.casesOn<;>first|exact ak q|exact body
set_option tactic.hygienic true in
theorem aK.IX(R:aK c σ ρ P s)(h:(I,o)∈P):s.heap.get? I=some o:=by exact bp R fun m news led R=>(R.N _ (R.M.mem_iff.mpr (cb _ h))).1
theorem BJ.IY{It:Nat→V→Prop}{G:St→Prop}{H:List Addr→Prop}{ob:Nat→Obj→Prop}(T:BJ c n It G H I ob)(h:ob k o):¬EP o:=fun z=>by exact bV (T.ty _ _ h) fun TT vs t1 _ t3 _=>t3 (by have e:=z.1;rw[t1]at e;injection e)
theorem yc{It:Nat→V→Prop}{G:St→Prop}{H:List Addr→Prop}{ob:Nat→Obj→Prop}(T:BJ c n It G H I ob)(h:ob k o){Q:Unit→Shared→Prop}(ho:s.heap.get? I=some o)(q:Q () s):Wp c (letOwnedTupleGo t (.ref I) v) Q s:=by exact bV (T.ty _ _ h) fun TT vs t1 t2 _ t4=>Ah ho t1 t2 t4 q
theorem Ai{Kp Kp':List Nat}{target:Expr}{body:List Stmt}{K:KF}{n:Nat}{It:Nat→V→Prop}{G:St→Prop}{H:List Addr→Prop}{I:Addr}{ob:Nat→Obj→Prop}(T:BJ c n It G H I ob)(rl:PassesOwn (model Prog w) c.A c.env c.E)(IZ:∀k∈Kp,k∈Kp')(hK:∀p∈c.K,p.1∈Kp')(hH:∀ρ aI:List Addr,(∀k∈Kp',∀a,ρ[k]?=some a→aI[k]?=some a)→H ρ→H aI)(J:Nat→St→Prop)(hG:∀k σ',k≤n→J k σ'→G σ')(turn:∀k v σ',k<n→It k v→J k σ'→∀ρ P s x,aK c σ' ρ P s→VR (c.T P) ρ v x→Wp c (assign target c.env x) (fun a_ mJ=>Wp c (execs body c.env) (iI c Kp' ρ P (vZ Kp' (J (k+1)) K)) mJ) s)(MH:∀σ',J n σ'→K .next σ'){hZ:List Addr}{P0:Led}(K8:∀q∈P0,q.1≠I):∀d k σ ρ P s o,d=n-k→k≤n→J k σ→aK c σ ρ P s→(I,o)∈P→ob k o→H ρ→(∀k∈Kp,∀a,hZ[k]?=some a→ρ[k]?=some a)→(∀q∈P0,q∈P)→cK (model Prog w) c.A (.forLoop target (.ref I) body [] c.env) (rk c Kp hZ P0 K) s:=by
 intro d;induction d with
 |zero=>
  intro k σ ρ P s o hd hk hJ R hI ho K9 k1 k2;have DT:k=n:=by exact bo (bG 554246672 rfl (aG (ar 1048832 rfl hk))) (fe 36323075760416 1 [-1,-1] rfl hd (aG (ar 1048832 rfl hk)))
  clear hd hk turn;subst DT;refine bB ff (((i9 (ag (af (wpAny_standAt (ag (ee (af (T.done o σ ρ P s _ _ (hG k σ (bF _) hJ) K9 R (R.IX hI) ho fun h' tk kp=>?_)))))))):cR _ c.A ((forTurn target (.ref I) body [] c.env).onRaise (fun x=>do noteFrame x c.env;theTreesLotGoes x)) _ _ s));refine iy (iJ (l':=[]) (tk:=tk) R hI (T.IY ho) kp (.inl rfl)) fun P' _ a2 _ _ R'=>ak ⟨tt,gw (codeAny_block (wpAny_execs_nil (aR σ ρ P' k1 (fun q hq=>a2 q (k2 q hq) (K8 q hq)) R' (MH σ hJ))))⟩
 |succ d ih=>
  intro k σ ρ P s o hd hk hJ R hI ho K9 k1 k2;have DT:k<n:=by exact m8 14101378746622753 rfl hd (aG (ar 1048832 rfl hk))
  refine bB ff (((i9 (ag (af (wpAny_standAt (ag (ee (af (T.item k o σ ρ P s _ _ DT (hG k σ hk hJ) K9 R (R.IX hI) ho fun v x h' tk o' hit hv ug I0 kp=>?_)))))))):cR _ c.A ((forTurn target (.ref I) body [] c.env).onRaise (fun x=>do noteFrame x c.env;theTreesLotGoes x)) _ _ s));refine iy (iJ (l':=[(I,o')]) (tk:=tk) R hI (T.IY ho) kp (.inr (ah o' rfl ug))) fun P' a1 a2 _ up R'=>ag (bM (yc (Q:=fun a_ s'=>s'={s with heap:=h',toks:=tk}) T I0 ug rfl) (fun a_ bu MI=>?_) rl);subst MI;refine ag (bM (turn k v σ DT hit hJ ρ P' _ x R' (hv.mono up fun a_ b_ h=>h)) (fun a_ mJ uN=>ag (bM uN (fun f kj uE=>(br uE fun yD yE P3 b1 b2 R3 q3=>?_)) rl)) rl);have c1:∀k∈Kp,∀a,hZ[k]?=some a→yE[k]?=some a:=fun k hk a h=>b1 k (IZ k hk) a (k1 k hk a h);have c2:∀q∈P0,q∈P3:=fun q hq=>b2 q (a2 q (k2 q hq) (K8 q hq));have go:(∃κ fU,Norm Kp' κ yD fU∧J (k+1) fU)→cK (model Prog w) c.A (.forLoop target (.ref I) body [] c.env) (rk c Kp hZ P0 K) kj:=fun q_=>by exact cS q_ fun κ K6 hN Py=>ao (i8 hK R3 hN) fun K7 P4 d1 d2 R4=>ih (k+1) K6 K7 P4 kj o' (bo (@lj [_,_,_,_,_] [] 24509244065520072008716067328 1 [1,-1,1] rfl hd (aG (ar 4312887440 rfl DT)) (aG (bG 2298227532304 rfl (aG (ar 4312887440 rfl DT))))) (@lj [_,_,_,_,_] [] 24509244065520072008716066848 1 [-1,1,-1] rfl hd (aG (ar 4312887440 rfl DT)) (aG (bG 2298227532304 rfl (aG (ar 4312887440 rfl DT)))))) (by assumption) Py R4 (d2 _ (b2 _ (a1 _ aS))) I0 (hH _ _ (fun k hk a h=>d1 k hk a (b1 k hk a h)) K9) (fun k hk a h=>d1 k (IZ k hk) a (c1 k hk a h)) fun q hq=>d2 q (c2 q hq)
  induction f with
  |next=>exact ak ⟨tt,go q3⟩
  |cont=>exact ak ⟨tt,go q3⟩
  |brk=>exact q3.elim
  |ret v=>exact ak (aR yD yE P3 c1 c2 R3 q3)
theorem pW:BJ c n (fun k v=>v=.int (a+k)) (fun a_=>True) (fun a_=>True) I (fun k o=>o={cls:=.type "range_iterator",dict:=none,data:=.fields #[rawInt (a+(k:Nat)*1),rawInt ((n:Int)-(k:Nat)),rawInt 1],slots:=#[]})where
 ty:=fun k o h=>by subst h;exact gm ("range_iterator") _ rfl rfl (by decide) (by decide)
 item:=fun k o σ ρ P s Q E hk a_ b_ R hg ho hQ=>by
  subst ho
  refine(Walks.range (prog:=Prog) (w:=w) (A:=c.A) rfl I a 1 n).item k s Q E hk hg fun v h' tk hv st kp=>bg hv fun t az=>?_;clear hv;subst az
  refine hQ _ _ h' tk _ rfl ?_ st rfl fun b o hb e=>kp b o (by simpa using hb) e
  rw[Int.mul_one];exact .int
 done:=fun o σ ρ P s Q E a_ b_ R hg ho hQ=>by
  subst ho
  exact(Walks.range (prog:=Prog) (w:=w) (A:=c.A) rfl I a 1 n).done s Q E hg fun h' tk kp=>hQ h' tk fun b o hb e=>kp b o (by simpa using hb) e
theorem Aj{I ax:Addr}{r:Nat}{o:O}{vs:List V}(e:o.items=some vs):BJ c vs.length (fun k v=>vs[k]?=some v) (fun σ=>σ.cs[r]?=some o) (fun ρ=>ρ[r]?=some ax) I (fun k ob=>ob.cls=.type "list_iterator"∧ob.data=.fields #[.ref ax,.int k 0])where
 ty:=fun k o h=>gm ("list_iterator") _ h.1 h.2 (by decide) (by decide)
 item:=fun k ob σ ρ P s Q E hk hG hH R hg ho hQ=>by
  refine bp R fun m news led R=>aa (R.eS hH hG) fun l h2 N=>ao (h2.items e) fun i0 bw aQ q1 q2=>?_;clear h2;subst aQ
  refine aa (q2.at (cn hk)) fun x hx vx=>?_
  exact wpAny_pyNext_list_item (bY ob hg ho.1 ho.2) (fD N q1) (getElem_toList hx) fun h' ⟨o',g1,g2,g3⟩ hs=>hQ _ x h' s.toks o' (cn hk) vx g1 ⟨g2,g3⟩ (eG hs)
 done:=fun ob σ ρ P s Q E hG hH R hg ho hQ=>by
  refine bp R fun m news led R=>aa (R.eS hH hG) fun l h2 N=>ao (h2.items e) fun i0 bw aQ q1 q2=>?_;clear h2;subst aQ
  refine wpAny_pyNext_list_end rfl (bY ob hg ho.1 ho.2) (fD N q1) (by rw[Array.getElem?_eq_none (by rw[q2.size];exact bF _)]) fun h' he=>hQ h' s.toks fun b o hb e=>he b o hb e
end
noncomputable def wy(e:E):Bool:=match e with
 |.call f es _=>(match f with
  |.gX _ _=>(match es with
   |.nil=>false
   |.cons a es=>(match a with
    |.str _ _=>(match es with|.nil=>true|.cons _ _=>false)
    |_=>false))
  |_=>false)
 |_=>false
theorem rm(h:wy e=true):∃g p1 n p2 p3,e=.call (.gX g p1) (.cons (.str n p2) .nil) p3:=by
 have no:∀{G:Prop},false=true→G:=fun h=>nomatch h;induction e using E.casesOn with
 |call f es p=>induction f using E.casesOn with
  |gX g p1=>induction es using Es.casesOn with
   |nil=>exact no h
   |cons a es=>induction a using E.casesOn with
    |str n p2=>induction es using Es.casesOn with
     |nil=>exact b9 _ _ _ _ (HM _ rfl)
     |cons _ _=>exact no h
    |_=>exact no h
  |_=>exact no h
 |_=>exact no h
noncomputable def FR(t e:E):Bool:=match t with
 |.tup ts _=>Af ts e
 |_=>true
section
variable(ls gs:List Nat)
noncomputable def DU:E→Bool
 |.att e _ _=>eO ls gs e
 |.loc _ _=>true
 |_=>false
noncomputable def DV:E→Bool
 |.sub e i _=>eO ls gs e&&eO ls gs i
 |.slc e lo hi _ _=>eO ls gs e&&(eO ls gs lo&&eO ls gs hi)
 |_=>false
mutual
noncomputable def K_:S→Bool
 |.expr e _=>eO ls gs e
 |.asg t e _=>Hz ls gs t&&(eO ls gs e&&FR t e)
 |.aug t _ e _=>DU ls gs t&&eO ls gs e
 |.ret e _=>eO ls gs e
 |.qK t a b _=>eO ls gs t&&(nX a&&nX b)
 |.Ca t a b _=>eO ls gs t&&(nX a&&nX b)
 |.DE t a _=>eO ls gs t&&nX a
 |.xC t i a _=>Hz ls gs t&&(eO ls gs i&&nX a)
 |.del t _=>DV ls gs t
 |.cont _=>true
 |.raise e _=>eO ls gs e&&wy e
noncomputable def nX:Ss→Bool
 |.nil=>true
 |.cons s ss=>K_ s&&nX ss
end
end
section
variable{w:World}{c:Cx w}{lv:Nat}{σ:St}{ρ:List Addr}{P:Led}{s:Shared}{X:St→Prop}{ls gs:List Nat}{ih:Ih}{f:E→St→KV→Prop}
def I3(c:Cx w)(X:St→Prop):Prop:=
 ∀(σ':St) (aI:List Addr) (P' bx:Led) (hs:Heap) (m:PySem.Str→Option Value) (news:Led) (e tp dx:Addr) (od ot:Obj) (tk:Nat),
  Fr c.g c.L hs m→News c.g c.L hs ((e,oY tp dx)::(dx,od)::(tp,ot)::news)→(adr ((e,oY tp dx)::(dx,od)::(tp,ot)::news)).Nodup→news.Perm (bx++P')→aP w (c.T P') aI aI σ'.cs bx→
  (∀p∈c.K,aI[p.1]?=some p.2)→X σ'→c.E (.ref e) ⟨hs,c.gens,c.drawn,tk,c.os⟩
set_option tactic.hygienic true in
noncomputable def Pz(p:Pos)(v:Value):Sem Flow:=match v with
 |.ref _=>(do standAt p;let _ ←runValue (.builtin "proto.let_go" {});pure .next)
 |_=>pure .next
theorem CO(e:Expr)(p:Pos)(v:Value):dropValue e p v=pure .next∨dropValue e p v=Pz p v:=by
 induction e using Expr.casesOn with
 |Name=>exact .inl rfl
 |_=>exact .inr (by kernel_rfl)
theorem CP{Q:Flow→Shared→Prop}(h:Q .next s):Wp c (dropValue e p v) Q s:=by
 rcases CO e p v with e1|e1
 ·rw[e1];exact ak h
 ·rw[e1];induction v using Value.casesOn with
  |ref a=>exact aU (af (aO (wpAny_runValue (codeAny_builtin entry_let_go (show wpAny _ _ (ret .none) _ _ s from bc (bc h))))))
  |_=>exact ak h
theorem sW(nm:Nat→PySem.Str)(env:Env)(e:E)(t:Option Expr)(l:Nat):swapsWith (dE nm e) t l env=pure false:=by induction e using E.casesOn<;>rfl
theorem sX(nm:Nat→PySem.Str)(env:Env)(h:Hy ls gs t=true):swappedStores [dE nm t] v env=pure none:=by
 induction t using E.casesOn with
 |loc n p=>rfl
 |att e n p=>rfl
 |sub e i p=>rfl
 |slc e a b p q=>rfl
 |_=>exact absurd h cz
theorem sY(nm:Nat→PySem.Str)(env:Env){e:E}(h:e.CM=none):swappedStores [.Tuple ts k p] (dE nm e) env=pure none:=by induction e using E.casesOn<;>first|rfl|exact nomatch(show(some _:Option Es)=none from h)
theorem yd{env:Env}{l:Nat}{nm:Nat→PySem.Str}{g:Expr→Option PySem.Str}(hg:∀e:E,e.uO=none→Hy ls gs e=true→g (dE nm e)=none):∀{ts:Es},fx ts=none→sV ls gs ts=true→((dJ nm ts).filterMap g).length<(dJ nm ts).length:=by
 intro X_;induction X_ using Es.ind with
 |nil=>intro h _;exact nomatch(show(some _:Option (List (Nat×Nat)))=none from h)
 |cons t ts cD=>
  intro h wf;obtain⟨w1,w2⟩:=bE wf;refine(?_:((dE nm t::dJ nm ts).filterMap _).length<(dE nm t::dJ nm ts).length);rw[List.filterMap_cons,cB];have h:(match t.uO with|some q=>(match fx ts with|some l=>some (q::l)|none=>none)|none=>none)=none:=h;generalize q:t.uO=y_ at h⊢;induction y_ with
  |none=>rw[hg t q w1];exact Nat.lt_succ_of_le (List.length_filterMap_le _ _)
  |some q'=>
   generalize q2:fx ts=y_ at h⊢;induction y_ with
   |none=>
    have:=cD q2 w2;cases g (dE nm t)with
    |none=>exact Nat.lt_succ_of_lt this
    |some b=>exact Nat.succ_lt_succ this
   |some l=>exact nomatch h
theorem sZ(env:Env)(h:fx ts=none)(wf:sV ls gs ts=true):swappedStores [.Tuple (dJ nm ts) k p] (.Tuple (dJ nm es) k' p') env=pure none:=by
 unfold swappedStores;show(if _ then _ else _)=_;split
 ·rfl
 ·show(if _ then _ else _)=_;split
  ·rfl
  ·show(if _ then _ else _)=_;rw[aB];rw[Bool.or_eq_true];exact .inl (bne_iff_ne.mpr (Nat.ne_of_lt (yd (env:=env) (l:=0) (fun e h1 h2=>by induction e using E.casesOn<;>first|rfl|exact nomatch(show(some _:Option (Nat×Nat))=none from h1)|exact absurd h2 cz) h wf)))
theorem wz{nm:Nat→PySem.Str}(h:Ae e=true):foldedForSure 8 (dE nm e)=false∧constantsAlone 8 (dE nm e)=false:=by induction e using E.casesOn<;>first|exact⟨ff,ff⟩|exact absurd h cz
theorem Ak{nm:Nat→PySem.Str}:∀{es:Es},kI es=true→(dJ nm es).all (foldedForSure 8)=false∧(dJ nm es).all (constantsAlone 8)=false:=by
 intro X_;induction X_ using Es.ind with
 |nil=>intro h;exact absurd h cz
 |cons e es cD=>
  intro h;refine(?_:(dE nm e::dJ nm es).all _=false∧(dE nm e::dJ nm es).all _=false);rw[List.all_cons,List.all_cons];rcases Bool.or_eq_true_iff.mp (show(Ae e||kI es)=true from h)with h|h
  ·rw[(wz h).1,(wz h).2];exact⟨ff,ff⟩
  ·rw[(cD h).1,(cD h).2,Bool.and_false,Bool.and_false];exact⟨ff,ff⟩
theorem CQ{nm:Nat→PySem.Str}{f:Expr→Bool}(hf:∀e:E,f (dE nm e)=false):∀{es:Es},(dJ nm es).any f=false:=by
 intro X_;induction X_ using Es.ind with
 |nil=>exact ff
 |cons e es cD=>refine(?_:(dE nm e::dJ nm es).any f=false);rw[List.any_cons,hf,cD];exact ff
theorem CR{env:Env}{p:Pos}(h1:env.kindOf n=some .local)(h2:p.line=l):(if env.kindOf n==some .local&&p.line==l then some n else none)=some n:=by rw[h1,h2,beq_self_eq_true l,beq_self_eq_true,Bool.and_true,aB tt]
theorem s8{ns:List PySem.Str}{env:Env}{ts es:Es}(hk:env.scope.kind=.function)(hl:ts.len=2∨ts.len=3)(he:es.len=ts.len)(hf:kI es=true)(hn:((dJ nm ts).filterMap fun|.Name id pos=>if env.kindOf id==some .local&&pos.line==((dJ nm ts).head?.map (·.pos.line)).getD 0 then some id else none|_=>none)=ns)(h1:ns.length=ts.len)(h2:ns.eraseDups.length=ns.length):swappedStores [.Tuple (dJ nm ts) k p] (.Tuple (dJ nm es) k' p') env=pure (some ns):=by
 unfold swappedStores;have b:env.blockKind=.function:=by unfold Env.blockKind;rw[hk];rfl
 have l1:=uM nm env p ts;have l2:=uM nm env p es;obtain⟨f1,f2⟩:=Ak (nm:=nm) hf;show(if _ then _ else _)=_;rw[aH (by rw[l1,l2,he,b];rcases hl with e|e<;>rw[e]<;>decide)];show(if _ then _ else _)=_;rw[aH (by rw[CQ (fun e=>by induction e using E.casesOn<;>exact ff)];exact cz)];show(if _ then _ else _)=_
 rw[aH (by
  rw[Bool.or_eq_true,bne_iff_ne,bne_iff_ne];rintro(q|q)
  ·exact q ((av List.length hn).trans (h1.trans l1.symm))
  ·exact q ((av (fun l=>l.eraseDups.length) hn).trans (h2.trans (av List.length hn).symm)))]
 show(if _ then _ else _)=_;rw[aH (by rw[f1];exact cz)];show(if _ then _ else _)=_;rw[aH (by rw[f2];exact cz)];exact av (fun l=>(pure (some l):Sem (Option (List PySem.Str)))) hn
theorem CS{l:List PySem.Str}(h:l.Nodup):l.eraseDups.length=l.length:=by
 induction l with
 |nil=>rfl
 |cons a l ih=>obtain⟨h1,h2⟩:=cu.mp h;rw[List.eraseDups_cons,List.filter_eq_self.mpr (fun b hb=>by simpa using fun e:b=a=>h1 (e▸hb)),cB,cB,ih h2]
noncomputable def gH(l:List (Nat×V))(q:List (Nat×V)):List (Nat×V):=q.foldl (fun l p=>fu l p.1 p.2) l
theorem pX(n:Nat):∀(q l:List (Nat×V)),(q.map (·.1)).Nodup→look (gH l q) n=((q.find? fun p=>decide (p.1=n)).map (·.2)).or (look l n):=by
 intro X_;induction X_ with
 |nil=>exact fun l _=>rfl
 |cons p q cD=>
  intro l h;obtain⟨h1,h2⟩:=cu.mp h;refine(?_:look (gH (fu l p.1 p.2) q) n=_);rw[cD _ h2,pC,List.find?_cons];by_cases e:p.1=n
  ·have:q.find? (fun p=>decide (p.1=n))=none:=List.find?_eq_none.mpr fun x hx=>by simpa using fun z:x.1=n=>h1 (by show p.1∈_;refine e.symm▸?_;refine z▸?_;exact List.mem_map_of_mem hx)
   refine this.symm▸?_;refine(aB e).symm▸?_;refine(decide_eq_true e).symm▸?_;rfl
  ·refine(aH e).symm▸?_;exact(decide_eq_false e).symm▸rfl
theorem find_perm{q q':List (Nat×V)}{n:Nat}(p:q.Perm q')(h:(q.map (·.1)).Nodup):(q.find? fun p=>decide (p.1=n))=q'.find? fun p=>decide (p.1=n):=by
 have one:∀{q:List (Nat×V)},(q.map (·.1)).Nodup→∀x∈q,x.1=n→q.find? (fun p=>decide (p.1=n))=some x:=fun{q} h x hx e=>by
  induction q with
  |nil=>cases hx
  |cons y q ih=>
   obtain⟨h1,h2⟩:=cu.mp h;refine(List.find?_cons).symm▸?_;rcases bD.mp hx with rfl|hx
   ·exact(decide_eq_true e).symm▸rfl
   ·rw[decide_eq_false (fun z=>h1 (by show y.1∈_;refine z.symm▸?_;refine e▸?_;exact List.mem_map_of_mem hx)),ih h2 hx]
 have h':(q'.map (·.1)).Nodup:=(p.map (·.1)).nodup_iff.mp h;generalize e:q.find? (fun p=>decide (p.1=n))=y_;induction y_ with
 |some x=>exact(one h' x (p.mem_iff.mp (List.mem_of_find?_eq_some e)) (by simpa using List.find?_some e)).symm
 |none=>exact(List.find?_eq_none.mpr fun x hx=>List.find?_eq_none.mp e x (p.mem_iff.mpr hx)).symm
theorem uR(Ok:c.Ok lv)(sc:fv c.scope ls gs)(ns:List Nat):∀(vs:List V) (xs:List Value) (σ:St) (ρ:List Addr) (P:Led) (s:Shared) (K:KU),(∀n∈ns,ec ls n=true)→ns.length=vs.length→aK c σ ρ P s→bT (c.T P) ρ vs xs→K ⟨gH σ.vars (ns.zip vs),σ.cs⟩→Wp c (assignInOrder (ns.map fun n=>bindName c.env (nm n)) xs) (Pu c ρ P K) s:=by
 induction ns with
 |nil=>exact fun vs xs σ ρ P s K a_ b_ R c_ k=>ak (bz σ ρ P .c6 R k)
 |cons n ns ih=>
  intro vs xs σ ρ P s K hn hl R hv k;induction vs using List.casesOn with
  |nil=>exact absurd hl (by simp)
  |cons v vs=>refine ao hv.cons_inv fun y ys aQ v1 v2=>?_;clear hv;subst aQ;refine((ag (aw (bj (wu Ok sc (K:=fun σ'=>σ'=⟨fu σ.vars n v,σ.cs⟩) (hn n aS) R v1 rfl) (fun a_ s' df=>(bS df fun σ' aI P' e1 R' q=>?_))))):Wp c (holding ys (bindName c.env (nm n) y)>>=fun a_=>assignInOrder (ns.map fun n=>bindName c.env (nm n)) ys) _ s);subst q;exact i6 e1 (ih vs ys _ aI P' s' K (fun m hm=>hn m (cO _ hm)) (Nat.succ.inj hl) R' (v2.ext e1) k)
theorem bT.Al{T:dK}{vs:List V}{xs:List Value}(r:bT T ρ vs xs):∀{ws:List V} {ys:List Value},bT T ρ ws ys→bT T ρ (vs.reverse++ws) (xs.reverse++ys):=bT.ind (m:=fun vs xs=>∀{ws:List V} {ys:List Value},bT T ρ ws ys→bT T ρ (vs.reverse++ws) (xs.reverse++ys)) (fun h=>h) (fun v _ ih=>fun h=>by rw[List.reverse_cons,List.reverse_cons,bC,bC];exact ih (.cons v h)) r
theorem bT.rev{T:dK}{vs:List V}{xs:List Value}(h:bT T ρ vs xs):bT T ρ vs.reverse xs.reverse:=by have:=bT.Al h .nil;simpa using this
set_option tactic.hygienic true in
theorem s9(Ok:c.Ok lv)(sc:fv c.scope ls gs){Kp:List Nat}{ns:List Nat}{vs:List V}{x:Value}{K:KF}{hZ:List Addr}{P0:Led}(e:Ext hZ P0 ρ P)(hn:∀n∈ns,ec ls n=true)(hl:ns.length=vs.length)(R:aK c σ ρ P s)(vx:VR (c.T P) ρ (.tup vs) x){vars:List (Nat×V)}(hv:∀n,look vars n=look (gH σ.vars (ns.reverse.zip vs.reverse)) n)(k:K .next ⟨vars,σ.cs⟩){stores:List (Value→Sem Unit)}:Wp c (assignStores c.env x (some (ns.map nm)) stores) (iI c Kp hZ P0 K) s:=by
 refine((aq (wpAny_rule (bS vx.fb fun a items _ ew ht zc=>?_))):Wp c (rule "assign.swapped-stores">>=fun a_=>unpackItems x (ns.map nm).length none>>=fun items=>assignInOrder ((ns.map nm).reverse.map fun n=>bindName c.env n) items.reverse>>=fun a_=>pure Flow.next) _ s);clear vx;subst ew;refine bp R fun m news led R=>aq (unpackItemsN_ R.F R.N (uF Ok R ht) rfl ?_ fun h' F' N'=>?_)
 ·rw[bK,hl,zc.size]
 ·have R':=aK.ext' R F' N';have em:((ns.map nm).reverse.map fun n=>bindName c.env n)=ns.reverse.map fun n=>bindName c.env (nm n):=by refine List.map_reverse▸?_;refine List.map_map.symm▸?_;rfl
  refine em.symm▸(ag (bj (uR Ok sc ns.reverse vs.reverse _ σ ρ P _ (fun σ'=>σ'=⟨gH σ.vars (ns.reverse.zip vs.reverse),σ.cs⟩) (fun n h=>hn n (List.mem_reverse.mp h)) (by simp[hl]) R' zc.rev rfl) (fun a_ s' df=>(bS df fun σ' aI P' e1 R' q=>?_))));subst q;exact ak (iI.of (e.trans e1) (R'.vars hv) k)
noncomputable def PA(env:Env)(lg:Nat):Expr→Option PySem.Str
 |.Name id pos=>if env.kindOf id==some .local&&pos.line==lg then some id else none
 |_=>none
theorem lO{t:E}{ts:Es}{l:List (Nat×Nat)}(h:fx (.cons t ts)=some l):∃q l',t=.loc q.1 q.2∧fx ts=some l'∧l=q::l':=by
 have h:(match t.uO with|some q=>(match fx ts with|some l=>some (q::l)|none=>none)|none=>none)=some l:=h;generalize e1:t.uO=y_ at h⊢;induction y_ with
 |none=>exact nomatch h
 |some q=>
  generalize e2:fx ts=y_ at h⊢;induction y_ with
  |none=>exact nomatch h
  |some l'=>exact aJ q l' (E.FP e1) rfl ((bf h).symm)
theorem CT(sc:fv c.scope ls gs){g:Expr→Option PySem.Str}{ln:Nat}(hg:∀n p,c.env.kindOf n=some .local→p.line=ln→g (.Name n p)=some n):∀(ts:Es) (l:List (Nat×Nat)),fx ts=some l→sV ls gs ts=true→(∀x∈l,(dP x.2).line=ln)→(dJ nm ts).filterMap g=(l.map (·.1)).map nm∧(∀n∈l.map (·.1),ec ls n=true)∧ts.len=l.length∧∀(vs:List V) (σ:St) (K:KU),sG f ts vs σ K→K ⟨gH σ.vars ((l.map (·.1)).zip vs),σ.cs⟩:=by
 intro ts l;induction l generalizing ts with
 |nil=>
  intro h _ _;induction ts using Es.casesOn with
  |nil=>exact cZ rfl (fun n hn=>(by cases hn)) rfl (fun vs σ K h=>by induction vs using List.casesOn<;>first|exact h|exact h.elim)
  |cons t ts=>refine ao (lO h) fun q l' _ _ e=>?_;cases e
 |cons q l ih=>
  intro h wf hl;induction ts using Es.casesOn with
  |nil=>exact nomatch(bf (show some []=some (q::l) from h))
  |cons t ts=>
   refine ao (lO h) fun q' l' aQ e2 e=>?_;clear h;subst aQ;cases e;obtain⟨w1,w2⟩:=bE wf;have w1:ec ls q.1=true:=w1;refine oO (ih ts e2 w2 fun x hx=>hl x (cO _ hx)) fun i1 i2 i3 i4=>cZ ((List.filterMap_cons_some (b:=nm q.1) (hg _ _ (sc.l _ w1).2.1 (hl q aS))).trans (av (nm q.1::·) i1)) (fun n hn=>?_) (av (·+1) i3) (fun vs σ K h=>?_)
   ·rcases bD.mp hn with rfl|hn
    ·exact w1
    ·exact i2 n hn
   ·induction vs using List.casesOn with
    |nil=>exact h.elim
    |cons v vs=>exact i4 vs _ K h
theorem rn:∀{l:List Nat},bW l=true→l.Nodup:=by
 intro X_;induction X_ with
 |nil=>intro _;exact .nil
 |cons a l cD=>intro h;obtain⟨h1,h2⟩:=bE h;refine cu.mpr ⟨fun hm=>?_,cD h2⟩;have:=List.all_eq_true.mp h1 a hm;rw[Nat.beq_refl]at this;exact absurd this (by decide)
theorem tc{l:List Nat}(rS:∀n∈l,cT n=true)(h:l.Nodup):(l.map nm).Nodup:=by
 induction l with
 |nil=>exact .nil
 |cons a l ih=>obtain⟨h1,h2⟩:=cu.mp h;exact cu.mpr ⟨fun hm=>(aa (bO.mp hm) fun b hb e=>(h1 (gY (rS b (cO _ hb)) (rS a aS) e▸hb))),ih (fun n hn=>rS n (cO _ hn)) h2⟩
set_option tactic.hygienic true in
theorem Am{ts:Es}{v:V}{K:KU}(h:zz f ts v σ K):∃vs,v=.tup vs∧ts.len=vs.length∧sG f ts vs σ K:=by exact aa (V.vU h) fun vs e h=>fz (dq h) fun q h=>bY vs e (cY q) h
theorem ye{ns:List Nat}{vs:List V}(hl:ns.length=vs.length)(jM:ns.Nodup)(l:List (Nat×V))(n:Nat):look (gH l (ns.zip vs)) n=look (gH l (ns.reverse.zip vs.reverse)) n:=by have hz:((ns.zip vs).map (·.1)).Nodup:=(List.map_fst_zip (Nat.le_of_eq hl)).symm▸jM;have e:ns.reverse.zip vs.reverse=(ns.zip vs).reverse:=(List.reverse_zipWith hl).symm;have pz:(ns.zip vs).Perm (ns.reverse.zip vs.reverse):=e▸(List.reverse_perm _).symm;have zI:((ns.reverse.zip vs.reverse).map (·.1)).Nodup:=(pz.map (·.1)).nodup_iff.mp hz;refine(pX n _ l hz).symm▸?_;refine(pX n _ l zI).symm▸?_;exact(find_perm pz hz).symm▸rfl
set_option tactic.hygienic true in
theorem uS(Ok:c.Ok lv)(sc:fv c.scope ls gs){Kp:List Nat}{ts:Es}{ns:List (Nat×Nat)}{v:V}{x:Value}{K:KF}{hZ:List Addr}{P0:Led}(e0:Ext hZ P0 ρ P)(jM:(ns.map (·.1)).Nodup)(r2:∀n∈ns.map (·.1),ec ls n=true)(r3:ts.len=ns.length)(r4:∀(vs:List V) (σ:St) (K:KU),sG f ts vs σ K→K ⟨gH σ.vars ((ns.map (·.1)).zip vs),σ.cs⟩)(h:zz f ts v σ (K .next))(R:aK c σ ρ P s)(vx:VR (c.T P) ρ v x){stores:List (Value→Sem Unit)}:Wp c (assignStores c.env x (some ((ns.map (·.1)).map nm)) stores) (iI c Kp hZ P0 K) s:=by
 refine cg (Am h) fun vs az h1 h2=>?_;clear h;subst az;have hl:(ns.map (·.1)).length=vs.length:=by rw[bK,←r3,h1]
 have k2:K .next ⟨gH σ.vars ((ns.map (·.1)).zip vs),σ.cs⟩:=r4 vs σ (K .next) h2
 have hv:∀n,look (gH σ.vars ((ns.map (·.1)).zip vs)) n=look (gH σ.vars ((ns.map (·.1)).reverse.zip vs.reverse)) n:=ye hl jM σ.vars;have:=s9 (Kp:=Kp) (stores:=stores) Ok sc (K:=K) (ns:=ns.map (·.1)) (vars:=gH σ.vars ((ns.map (·.1)).zip vs)) e0 r2 hl R vx hv k2;exact this
theorem uT(Ok:c.Ok lv)(sc:fv c.scope ls gs)(S:lN c ls gs f){Kp:List Nat}{ts:Es}{e:E}{p:Nat}{v:V}{x:Value}{K:KF}{hZ:List Addr}{P0:Led}(e0:Ext hZ P0 ρ P)(h:zz f ts v σ (K .next))(wf:sV ls gs ts=true)(sw:Af ts e=true)(R:aK c σ ρ P s)(vx:VR (c.T P) ρ v x):Wp c (swappedStores [.Tuple (dJ nm ts) 0 (dP p)] (dE nm e) c.env>>=fun sw=>assignStores c.env x sw ((assignEach [.Tuple (dJ nm ts) 0 (dP p)] c.env).map (·.2))) (iI c Kp hZ P0 K) s:=by
 have plain:swappedStores [.Tuple (dJ nm ts) 0 (dP p)] (dE nm e) c.env=pure none→Wp c (swappedStores [.Tuple (dJ nm ts) 0 (dP p)] (dE nm e) c.env>>=fun sw=>assignStores c.env x sw ((assignEach [.Tuple (dJ nm ts) 0 (dP p)] c.env).map (·.2))) (iI c Kp hZ P0 K) s:=fun q=>by exact q.symm▸(ag (ak (((DS e0 (wx Ok sc S h wf R vx)):Wp c (assign (dE nm (.tup ts p)) c.env x>>=fun a_=>pure Flow.next) _ s))))
 unfold Af at sw;generalize q:e.CM=y_;induction y_ with
 |none=>exact plain (sY nm c.env q)
 |some es=>
  refine bg (E.FQ q) fun p' az=>?_;subst az;generalize q2:fx ts=y_;induction y_ with
  |none=>exact plain (sZ c.env q2 wf)
  |some l=>
   rw[q,q2]at sw;obtain⟨s1,sw⟩:=bE sw;obtain⟨s2,sw⟩:=bE sw;obtain⟨s3,sw⟩:=bE sw;obtain⟨s4,s5⟩:=bE sw;have s2:=cY s2;have s1:l.length=2∨l.length=3:=(Bool.or_eq_true_iff.mp s1).imp cY cY
   have Lc:(dP ((l.head?.map (·.2)).getD 0)).line=((dJ nm ts).head?.map (·.pos.line)).getD 0:=by
    induction ts using Es.casesOn with
    |nil=>have q_:=bf q2;clear q2;subst q_;exact s1.elim (fun h=>nomatch h) fun h=>nomatch h
    |cons t ts=>refine ao (lO q2) fun q' l' e1 e2 e3=>e1.symm▸?_;refine e3.symm▸?_;rfl
   have mL:∀x∈l,(dP x.2).line=((dJ nm ts).head?.map (·.pos.line)).getD 0:=fun x hx=>(cY (List.all_eq_true.mp s5 x hx)).trans Lc;clear Lc s5;generalize MJ:((dJ nm ts).head?.map (·.pos.line)).getD 0=lg at mL;refine oO (CT (f:=f) sc (g:=PA c.env lg) (ln:=lg) (fun n p h1 h2=>CR h1 h2) ts l q2 wf mL) fun r1 r2 r3 r4=>?_;have jM:(l.map (·.1)).Nodup:=rn s4;have MK:((l.map (·.1)).map nm).Nodup:=tc (fun n hn=>(sc.l n (r2 n hn)).1) jM;have PB:swappedStores [.Tuple (dJ nm ts) 0 (dP p)] (.Tuple (dJ nm es) 0 (dP p')) c.env=pure (some ((l.map (·.1)).map nm)):=s8 (k:=0) (k':=0) Ok.hk (by refine r3.symm▸?_;exact s1) (by refine s2.symm▸?_;exact r3.symm▸rfl) s3 (by refine MJ.symm▸?_;exact r1) (by rw[bK,bK,r3]) (CS MK);refine(?_:Wp c (swappedStores [.Tuple (dJ nm ts) 0 (dP p)] (.Tuple (dJ nm es) 0 (dP p')) c.env>>=_) _ s);refine PB.symm▸?_;refine ag (ak ?_);exact uS Ok sc e0 jM r2 r3 r4 h R vx
end
section
variable(w:World)
theorem td:nsIn (hd.heap_39 w.params) mainGlobals (PySem.Str.ofString "CrashError")=some (some (.ref 99)):=by k_is
theorem I4:keepIn (hd.heap_39 w.params) (.ref 99)=true:=by k_is
end
section
variable{w:World}{c:Cx w}{lv:Nat}{σ:St}{ρ:List Addr}{P:Led}{s:Shared}{X:St→Prop}{ls gs:List Nat}{ih:Ih}{f:E→St→KV→Prop}
theorem An(Ok:c.Ok lv)(sc:fv c.scope ls gs)(hR:I3 c X){Kp:List Nat}{g p1 n p2 p3 p:Nat}{K:KF}(hg:ec gs g=true)(h:(Nat.beq g 6&&Nat.ble 22 lv)=true)(hx:X σ):oN c Kp (exec (.Raise (some (dE nm (.call (.gX g p1) (.cons (.str n p2) .nil) p3))) .none (dP p)) c.env) σ K:=fun ρ P s R=>by
 obtain⟨h1,h2⟩:=bE h;have h1:=cY h1;have h2:=bZ h2;clear h;subst h1;refine bp R fun m news led R=>fc (sc.g _ hg (by decide)) fun k1 k2 k3=>?_;have d1:=Ok.dp;have d2:=Ok.un;have key:wpAny (model Prog w) c.A (eval (.Call (.Name (nm 6) (dP p1)) [.Constant (.str (nm n)) 0 (dP p2)] [] (dP p3)) c.env) (uk c.E) c.E s:=by refine Call_ (nameX_K R.F Ok.X (topRead_of Ok.T) (td w) (callWith_K Ok.X (I4 w) (args_cons (Calls.Constant_str (args_nil ⟨Ok.X.keeps R.F.keep,?_⟩)))) Ok.hk k1 k2);obtain⟨h0,g0,dr,t0,K5⟩:=s;refine uj (dp:=c.dp+1) (un:=c.un+3) (s:=⟨h0,g0,dr,t0+1,K5⟩) (news:=news) Ok.B R.F Ok.X Ok.T R.N R.D rfl Ok.hk (dC 292137694463426710670726170857118096 rfl h2 d1) (iA 127611869336957353637001688307787795732880 1 [10,1] rfl h2 d2) fun e tp dx od h' dU F' N' D'=>aR e tp dx rfl (kh (Ok.X.keeps F'.keep)) ((N' _ aS).1) ?_;have:=hR σ ρ P led h' m news e tp dx od _ dU F' N' D' R.M R.C R.K hx;have e1:c.gens=g0:=R.gens.symm;have e2:c.drawn=dr:=R.drawn.symm;have e3:c.os=K5:=R.os.symm;rw[e1,e2,e3]at this;exact this
 exact af (sv rfl key)
set_option tactic.hygienic true in
theorem FT(Ok:c.Ok lv)(S:lN c ls gs f){Kp:List Nat}{t e:E}{o:ze}{p:Nat}{K:KF}(h:IB f o e t σ (K .next))(w1:DU ls gs t=true)(w2:eO ls gs e=true):oN c Kp (exec (.AugAssign (dE nm t) o.d (dE nm e) (dP p)) c.env) σ K:=fun ρ P s R=>by
 induction t using E.casesOn with
 |att x n q=>refine(?_:Wp c (standAt (dP p)>>=fun a_=>eval (dE nm x) c.env>>=fun ov=>holding [ov] (standAt (dP q).atName>>=fun a_=>getAttr ov (nm n) true>>=fun old=>holding [old] (eval (dE nm e) c.env)>>=fun v=>standAt (dP p)>>=fun a_=>operate [old,v] (inplaceOp o.d old v))>>=fun new=>standAt (dP q).atName>>=fun a_=>holding [new,ov] (setAttr ov (nm n) new)>>=fun a_=>release [new,ov] []>>=fun a_=>pure Flow.next) _ s);refine aU ((S x σ _ h w1).use R fun y s1 r CU ML P1 e1 R1 v1 q1=>(ag (aw (aU (ag (bj (z5 Ok R1 v1 q1) (fun z s2 df=>(gP df fun a oM sT P2 e2 R2 v2 q2=>?_))))))));refine(S e oM _ q2 w2).mH R2 fun b s3 bv yD yE P3 e3 R3 v3 q3=>aU (wp_operate (bV (zA q3) fun i j PC PD PE q3=>aa (V.eB q3) fun r0 Ac q3=>cS (lE q3) fun C fs hi q3=>fz (dq q3) fun ht qz=>?_));clear h df q1 q2 q3;subst PC;subst PD;subst PE;subst Ac;refine bg v2.int_inv fun t1 az=>?_;clear v2;subst az;refine bg v3.int_inv fun t2 az=>?_;clear v3;subst az;refine af (PyProof.Rows.iadd_int (((aU (ag (aw (bj (zF Ok (R3.toks _) ((v1.ext e2).ext e3) .int hi ht) (fun a_ s4 R4=>?_))))):Wp c _ (iI c Kp ρ P K) _)));exact ag (wp_release (ak (iI.of (e1.trans (e2.trans e3)) R4 qz)))
 |loc n q=>exact False.elim h
 |_=>exact absurd w1 cz
set_option tactic.hygienic true in
theorem FU(Ok:c.Ok lv)(S:lN c ls gs f){Kp:List Nat}{t:E}{p:Nat}{K:KF}(h:IC f t σ (K .next))(wf:DV ls gs t=true):oN c Kp (exec (.Delete [dE nm t] (dP p)) c.env) σ K:=fun ρ P s R=>by
 suffices H:Wp c (delete (dE nm t) c.env) (Pu c ρ P (K .next)) s by refine(?_:Wp c (standAt (dP p)>>=fun a_=>(delete (dE nm t) c.env>>=fun a_=>pure ())>>=fun a_=>pure Flow.next) _ s);refine aU (ag (ag (bj H (fun a_ s' df=>by refine bS df fun σ' aI P' e' R' q=>?_;exact ak (ak (iI.of e' R' q))))))
 induction t using E.casesOn with
 |sub e i q=>obtain⟨w1,w2⟩:=bE wf;refine(((S e σ _ h w1).use R fun y s' r σ' aI P' e1 R' vo q=>((S i σ' _ q w2).mH R' fun z ij k ib cj ko e2 kY vi q'=>aU (nU (aw (aa (V.eB q') fun r0 Ac qa=>aa (V.b8 qa) fun x IV qb=>de (xH qb) fun l p j hr qz=>oO qz fun fQ h2 h3 h4=>?_))))):Wp c (eval (dE nm e) c.env>>=fun ov=>holding [ov] (eval (dE nm i) c.env)>>=fun iv=>standAt (dP q)>>=fun a_=>holding [ov,iv] (delItem ov iv)>>=fun a_=>release [ov,iv] []) _ s);clear q' qa qb qz;subst Ac;subst IV;subst fQ;refine aa ((vo.ext e2).bI) fun a ha aQ=>?_;clear vo;subst aQ;refine bg vi.int_inv fun t az=>?_;clear vi;subst az;exact ri (e1.trans e2) (xW kY ha hr h2 h3 h4)
 |slc e lo hi q q2=>obtain⟨w1,w2⟩:=bE wf;obtain⟨w2,w3⟩:=bE w2;refine(((S e σ _ h w1).use R fun y s' r σ' aI P' e1 R' vo k1=>(sU S k1 w2 w3 R' fun yD yE P3 s3 vl vu l u e3 R3 v2 v3 k3=>aU (nU (aw (aa (V.eB k3) fun r0 Ac k3=>aa (V.b8 k3) fun x IV k3=>fz (V.Ce k3) fun PF k3=>aa (vV k3) fun b hb k3=>fc k3 fun h1 h2 h3=>?_))))):Wp c (eval (dE nm e) c.env>>=fun ov=>holding [ov] (eval (.Slice (oE nm lo) (oE nm hi) .none (dP q2)) c.env)>>=fun iv=>standAt (dP q)>>=fun a_=>holding [ov,iv] (delItem ov iv)>>=fun a_=>release [ov,iv] []) _ s);subst Ac;subst IV;subst PF;refine aa ((vo.ext e3).bI) fun a hr aQ=>?_;clear vo;subst aQ;exact ri (e1.trans e3) (xV R3 hr hb v2 v3 h1 h2 h3)
 |_=>exact absurd wf cz
theorem CV(Ok:c.Ok lv)(sc:fv c.scope ls gs)(S:lN c ls gs f){Kp:List Nat}{t e:E}{p:Nat}{K:KF}(h:f e σ fun v σ=>asg f t v σ (K .next))(wf:K_ ls gs (.asg t e p)=true):oN c Kp (exec (.Assign [dE nm t] (dE nm e) (dP p)) c.env) σ K:=fun ρ P s R=>by
 obtain⟨w1,w2⟩:=bE wf;obtain⟨w2,w3⟩:=bE w2;rw[PyProof.Rows.exec_Assign];refine aU ?_;rw[show swapsWithSole [dE nm t] (dE nm e) (dP p).line c.env=pure false from sW nm c.env e _ _];refine ag (ak (aT cz ((S e σ _ h w2).use R fun x s1 v CU ML P1 e1 R1 v1 q1=>?_)));have plain:∀t,Hy ls gs t=true→Cj f t v CU (K .next)→Wp c (swappedStores [dE nm t] (dE nm e) c.env>>=fun sw=>assignStores c.env x sw ((assignEach [dE nm t] c.env).map (·.2))) (iI c Kp ρ P K) s1:=fun t wf h=>by rw[sX nm c.env wf];refine ag (ak ?_);rw[rj];exact((DS e1 (i7 Ok sc S t v x CU _ h wf ML P1 s1 R1 v1)):Wp c (assign (dE nm t) c.env x>>=fun a_=>pure Flow.next) _ s1)
 clear h;induction t using E.casesOn with
 |tup ts q=>exact uT Ok sc S e1 q1 w1 w3 R1 v1
 |loc n p=>exact plain _ w1 q1
 |att e n p=>exact plain _ w1 q1
 |sub e i p=>exact plain _ w1 q1
 |slc e a b p q=>exact plain _ w1 q1
 |_=>exact absurd w1 cz
theorem lP(Ok:c.Ok lv)(sc:fv c.scope ls gs)(S:lN c ls gs f)(rl:PassesOwn (model Prog w) c.A c.env c.E){Kp Kp':List Nat}(IZ:∀k∈Kp,k∈Kp')(hK:∀p∈c.K,p.1∈Kp){t:E}(wt:Hz ls gs t=true){body:List Stmt}{fj:St→KF→Prop}(B:∀σ K,fj σ K→oN c Kp' (execs body c.env) σ K){K:KF}{n:Nat}{It:Nat→V→Prop}{G:St→Prop}{H:List Addr→Prop}{I:Addr}{ob:Nat→Obj→Prop}(T:BJ c n It G H I ob)(hH:∀ρ aI:List Addr,(∀k∈Kp',∀a,ρ[k]?=some a→aI[k]?=some a)→H ρ→H aI)(h:turns Kp' n It G σ (fun v σ K=>asg f t v σ fun σ=>fj σ K) K){hZ:List Addr}{P0:Led}(e:Ext hZ P0 ρ P){o:Obj}(K8:∀q∈P,q.1≠I)(R:aK c σ ρ ((I,o)::P) s)(ho:ob 0 o)(MM:H ρ):cK (model Prog w) c.A (.forLoop (dE nm t) (.ref I) body [] c.env) (rk c Kp hZ P0 K) s:=by refine vF h fun J j0 jG turn MN=>Ai T rl IZ (fun p hp=>IZ _ (hK p hp)) hH J jG (fun k v σ' hk hit hJ aI P' s' x R' vx=>(bj (FO Ok sc S (turn k v σ' hk hit hJ) wt R' vx) (fun a_ s2 df=>(bS df fun oM sT P2 e2 R2 q2=>?_)))) MN (fun q hq=>K8 q (e.p q hq)) n 0 σ ρ _ s o rfl (Nat.zero_le _) j0 R aS ho MM (fun k a_ a h=>e.get k a h) fun q hq=>cO _ (e.p q hq);exact bj (B oM _ q2 sT P2 s2 R2) (fun fl s3 h3=>iI.from (fun k a_ a h=>e2.get k a h) e2.p h3)
theorem nY(R:aK c σ ρ P s)(o:Obj)(hf:o.isFreed=false):aK c σ ρ ((s.heap.objs.size,o)::P) {s with heap:=s.heap.push o}∧∀q∈P,q.1≠s.heap.objs.size:=by refine bp R fun m news led R=>?_;have l1:∀p∈news,p.1<s.heap.objs.size:=fun p hp=>Heap.lt_size (R.N p hp).1;exact⟨R.tuple (aN rfl rfl rfl) (R.F.push _) (R.N.push R.F _ hf) (cN l1 R.D),fun q hq=>Nat.ne_of_lt (l1 q (R.M.mem_iff.mpr (cb _ hq)))⟩
theorem yf(nm:Nat→PySem.Str)(env:Env)(e:E)(x:Value):foldedSetIterable (dE nm e) env x=pure x:=by induction e using E.casesOn<;>rfl
theorem te(ha:0≤a)(PG:a≤1000000)(hb:b≤1000000)(hr:IsRange s.heap r a b 1 t u v)(I5: -(2^62)≤b)(R:aK c σ ρ P s){Q:dB}(k:∀I o s',(∀q∈P,q.1≠I)→aK c σ ρ ((I,o)::P) s'→o={cls:=.type "range_iterator",dict:=none,data:=.fields #[rawInt (a+((0:Nat):Int)*1),rawInt (((b-a).toNat:Int)-((0:Nat):Int)),rawInt 1],slots:=#[]}→Q (.ref I) s'):Wp c (pyIter (.ref r)) Q s:=by
 refine af (wpAny_pyIter_range hr (small_one (lo1 [] [_] (.L (.n 0) (.w 0)) (.L (.g (.n 4611686018427387904)) (.w 0)) tt ha) (lo1 [] [_] (.L (.w 0) (.n 1000000)) (.T (.w 0) (.n 4611686018427387904)) tt PG) I5 (lo1 [] [_] (.L (.w 0) (.n 1000000)) (.T (.w 0) (.n 4611686018427387904)) tt hb)) ?_);obtain⟨h1,h2⟩:=nY R {cls:=.type "range_iterator",data:=.fields #[rawInt a,rawInt (Builtin.Range.rangeSize a b 1),rawInt 1]} ff;refine k _ _ _ h2 h1 ?_;have e1:Builtin.Range.rangeSize a b 1=(((b-a).toNat:Int)-((0:Nat):Int)):=by rw[rangeSize_one,Int.ofNat_zero,Int.sub_zero];by_cases h:a<b;exact(aB h).trans (aA (Int.sub_nonneg.mpr (Int.le_of_lt h))).symm;exact(aH h).trans (av Int.ofNat (Int.toNat_of_nonpos (Int.sub_nonpos_of_le (Int.not_lt.mp h)))).symm
 rw[e1];simp
theorem tf{Kp:List Nat}{t i:E}{body:List Stmt}{p:Nat}{K:KF}(h:Wp c (eval (dE nm i) c.env) (fun x s1=>Wp c (pyIter x) (fun it s2=>cK (model Prog w) c.A (.forLoop (dE nm t) it body [] c.env) (rk c Kp ρ P K) s2) s1) s):Wp c (exec (.For (dE nm t) (dE nm i) body [] (dP p)) c.env) (iI c Kp ρ P K) s:=by rw[exec_For];refine aU (ag (bj h (fun x s1 h1=>?_)));rw[yf];exact ag (ak (aU (ag (aw (bj h1 (fun it s2 h2=>(nW h2)))))))
theorem uU:globT 193=some (.bi .range):=rfl
theorem ro(h:mS i=true):∃p a p',(i=.call (.gX 193 p) (.cons a .nil) p')∨∃b,i=.call (.gX 193 p) (.cons a (.cons b .nil)) p':=by
 have no:∀{G:Prop},false=true→G:=fun h=>nomatch h;induction i using E.casesOn with
 |call f es p=>induction f using E.casesOn with
  |gX g p1=>induction es using Es.casesOn with
   |nil=>exact no h
   |cons a es=>induction es using Es.casesOn with
    |nil=>have q_:=cY h;clear h;subst q_;exact vJ p1 a p (.inl rfl)
    |cons b es=>induction es using Es.casesOn with
     |nil=>have q_:=cY h;clear h;subst q_;exact vJ p1 a p (.inr ⟨b,rfl⟩)
     |cons _ _=>exact no h
  |_=>exact no h
 |_=>exact no h
theorem bT.NV{xs:List Value}{M:List V→List Value→Prop}(hv:bT T ρ vs xs)(hl:xs.length=1)(k:∀v y,VR T ρ v y→M [v] [y]):M vs xs:=by
 induction vs using List.casesOn with
 |nil=>rw[hv.nil_inv]at hl;cases hl
 |cons v vs=>refine ao hv.cons_inv fun y ys aQ v1 v2=>?_;clear hv;subst aQ;have q_:=List.eq_nil_of_length_eq_zero (Nat.succ.inj hl);clear hl;subst q_;obtain rfl:vs=[]:=List.eq_nil_of_length_eq_zero v2.len.symm;exact k v y v1
theorem bT.of2{xs:List Value}{M:List V→List Value→Prop}(hv:bT T ρ vs xs)(hl:xs.length=2)(k:∀v y v' y',VR T ρ v y→VR T ρ v' y'→M [v,v'] [y,y']):M vs xs:=by
 induction vs using List.casesOn with
 |nil=>rw[hv.nil_inv]at hl;cases hl
 |cons v vs=>refine ao hv.cons_inv fun y ys aQ v1 v2=>?_;clear hv;subst aQ;exact bT.NV (M:=fun vs ys=>M (v::vs) (y::ys)) v2 (Nat.succ.inj hl) fun v' y' h=>k v y v' y' v1 h
theorem nZ(Ok:c.Ok lv)(sc:fv c.scope ls gs)(S:lN c ls gs f){es:Es}{Kv:List V→St→Prop}(wf:eO ls gs (.call (.gX 193 p) es p')=true)(h:yC f es σ Kv)(R:aK c σ ρ P s){Q:dB}(k:∀vs xs σ' aI P' s',xs.length=es.len→Ext ρ P aI P'→aK c σ' aI P' s'→bT (c.T P') aI vs xs→Kv vs σ'→Wp c (call (.type "range") xs) Q s'):Wp c (eval (dE nm (.call (.gX 193 p) es p')) c.env) Q s:=by obtain⟨w1,w2⟩:=bE wf;obtain⟨w2,w3⟩:=bE w2;rw[pU nm _ w1];refine(zY Ok sc (σ:=σ) (v:=.bi .range) (Q:=fun v σ'=>v=.bi .range∧yC f es σ' Kv) w2 uU ⟨rfl,h⟩).use R fun x s' r σ' aI P' e1 R' v ⟨q1,q2⟩=>hU (iH nm _ _ es) ?_;subst q1;rw[v.ny];exact(i5 S _ es σ' _ q2 w3).use R' (fun xs ij vs ib cj ko hl e2 kY x6 x7=>(⟨nT (by intro a h;exact PySem.Value.noConfusion h),k vs xs ib cj ko ij hl (e1.trans e2) kY x6 x7⟩))
theorem BJ.mono{It It':Nat→V→Prop}{G:St→Prop}{H:List Addr→Prop}(T:BJ c n It G H I ob)(e:n=n')(h:∀k v,It k v→It' k v):BJ c n' It' G H I ob:=by subst e;exact⟨T.ty,fun k o σ ρ P s Q E a b d e f g hq=>T.item k o σ ρ P s Q E a b d e f g fun v x h' tk o' hi=>hq v x h' tk o' (h _ _ hi),T.done⟩
theorem yg(Ok:c.Ok lv)(sc:fv c.scope ls gs)(S:lN c ls gs f)(rl:PassesOwn (model Prog w) c.A c.env c.E){Kp:List Nat}(hK:∀p∈c.K,p.1∈Kp){t i:E}{p:Nat}(wt:Hz ls gs t=true)(wi:eO ls gs i=true){body:List Stmt}{fj:List Nat→St→KF→Prop}(B:∀σ K,fj Kp σ K→oN c Kp (execs body c.env) σ K){K:KF}(hr:mS i=true)(h:forR Kp f (fun Kp v σ K=>asg f t v σ fun σ=>fj Kp σ K) σ K i):oN c Kp (exec (.For (dE nm t) (dE nm i) body [] (dP p)) c.env) σ K:=fun ρ P s R=>by
 refine tf ?_;have DW:∀{σ':St} {aI:List Addr} {P':Led} {s':Shared} (o:Obj) (n:Nat),aK c σ' aI P' s'→aK c σ' aI P' {s' with heap:=s'.heap.push o,toks:=n}:=fun o n R=>(R.sC o).toks n;obtain⟨p0,a,p',rfl|⟨b,rfl⟩⟩:=ro hr
 ·refine nZ Ok sc S (es:=.cons a .nil) (Kv:=fun vs σ=>E4 Kp (fun v σ K=>asg f t v σ fun σ=>fj Kp σ K) K (vs.headD .bad) σ) wi h R fun vs xs σ' aI P' s' hl e R' hv q=>?_
  revert q;refine bT.NV (M:=fun vs xs=>E4 Kp (fun v σ K=>asg f t v σ fun σ=>fj Kp σ K) K (vs.headD .bad) σ'→Wp c (call _ xs) _ _) hv hl fun v y v1 q=>?_;induction v using V.casesOn with
  |int x=>refine bg v1.int_inv fun t' az=>?_;clear v1;subst az;have q: -1000000≤x∧x≤1000000∧turns Kp x.toNat (fun k v=>v=.int k) (fun a_=>True) σ' (fun v σ K=>asg f t v σ fun σ=>fj Kp σ K) K:=q;refine af (call_range_1 (te (Int.le_refl 0) (c7 _) q.2.1 (IsRange.new ..) (lo1 [] [_] (.L (.g (.n 1000000)) (.w 0)) (.L (.g (.n 4611686018427387904)) (.w 0)) tt q.1) (DW _ _ R') fun I o s2 hI R2 ho=>?_));exact lP Ok sc S rl (fun a_ h=>h) hK wt B ((pW (c:=c) (a:=0) (n:=(x-0).toNat)).mono (n':=x.toNat) (It':=fun k v=>v=.int k) (by rw[Int.sub_zero]) fun k v e=>by rw[e,Int.zero_add]) (fun a_ b_ c_ d_=>trivial) q.2.2 e hI R2 ho trivial
  |_=>exact False.elim q
 ·refine nZ Ok sc S (es:=.cons a (.cons b .nil)) (Kv:=fun vs σ=>E5 Kp (fun v σ K=>asg f t v σ fun σ=>fj Kp σ K) K (vs.headD .bad) (vs.tail.headD .bad) σ) wi h R fun vs xs σ' aI P' s' hl e R' hv q=>?_
  revert q;refine bT.of2 (M:=fun vs xs=>E5 Kp (fun v σ K=>asg f t v σ fun σ=>fj Kp σ K) K (vs.headD .bad) (vs.tail.headD .bad) σ'→Wp c (call _ xs) _ _) hv hl fun v y v' y' v1 v3 q=>?_;induction v using V.casesOn with
  |int x=>
   induction v' using V.casesOn with
   |int x'=>refine bg v1.int_inv fun t' az=>?_;clear v1;subst az;refine bg v3.int_inv fun QL az=>?_;clear v3;subst az;have q:0≤x∧x≤1000000∧-1000000≤x'∧x'≤1000000∧turns Kp (x'-x).toNat (fun k v=>v=.int (x+k)) (fun a_=>True) σ' (fun v σ K=>asg f t v σ fun σ=>fj Kp σ K) K:=q;exact af (call_range_2 (te q.1 q.2.1 q.2.2.2.1 (IsRange.new ..) (lo1 [] [_] (.L (.g (.n 1000000)) (.w 0)) (.L (.g (.n 4611686018427387904)) (.w 0)) tt q.2.2.1) (DW _ _ R') fun I o s2 hI R2 ho=>(lP Ok sc S rl (fun a_ h=>h) hK wt B (pW (c:=c)) (fun a_ b_ c_ d_=>trivial) q.2.2.2.2 e hI R2 ho trivial)))
   |_=>exact False.elim q
  |_=>exact False.elim q
set_option tactic.hygienic true in
theorem FV(Ok:c.Ok lv){Kp:List Nat}{r:Nat}{a:Addr}{target:Expr}{body:List Stmt}{K:KF}(rl:PassesOwn (model Prog w) c.A c.env c.E)(R:aK c σ ρ P s)(hr:σ.cs[r]?=some .d0)(ha:ρ[r]?=some a)(k:K .next σ){hZ:List Addr}{P0:Led}(e:Ext hZ P0 ρ P):Wp c (pyIter (.ref a)) (fun it s2=>cK (model Prog w) c.A (.forLoop target it body [] c.env) (rk c Kp hZ P0 K) s2) s:=by have R0:=R;refine bp R fun m news led R=>aa (R.eS ha hr) fun l gv N=>?_;refine cg gv fun ob az ht _=>?_;clear gv;subst az;have hg:=(N _ aS).1;refine j4 ht fun h0 es ep d1 d2 d3 d4 d5=>?_;have hA:s.heap.DictAt (mG w) a [] ep:=fk ob es hg d1 d2 d3 d4 d5;refine af (wpAny_pyIter_dict h0 hA ?_);obtain⟨R1,hI⟩:=nY R0 {cls:=.type "dict_keyiterator",data:=.fields #[.ref a,.int 0 0,.int ((([]:List (Int×Value)).length:Nat):Int) 0,.int ep 0]} ff;refine bB ff (((i9 ?_):cR _ c.A ((forTurn target (.ref s.heap.objs.size) body [] c.env).onRaise (fun x=>do noteFrame x c.env;theTreesLotGoes x)) _ _ _));unfold forTurn;refine ag (af (wpAny_standAt (ag (ee (af (wpAny_pyNext_dict_end (knd:=mG w) (kvs:=[]) (i:=0) rfl (bY _ (Heap.get?_push_size _ ff) rfl rfl) (fk ob es (Heap.get?_push_of_some _ hg) d1 d2 d3 d4 d5) rfl fun h' he=>?_))))));refine iy (iJ (l':=[]) R1 aS (by rintro⟨e,_⟩;injection e with e;exact absurd e (by decide)) (h':=h') (tk:=s.toks) (fun b o hb e=>he b o hb e) (.inl rfl)) fun P' _ a2 _ _ R'=>ak ⟨tt,gw (codeAny_block (wpAny_execs_nil (aR σ ρ P' (fun k a_ a h=>e.get k a h) (fun q hq=>a2 q (cO _ (e.p q hq)) (hI q (e.p q hq))) R' k)))⟩
set_option tactic.hygienic true in
theorem Ao(Ok:c.Ok lv)(sc:fv c.scope ls gs)(S:lN c ls gs f)(rl:PassesOwn (model Prog w) c.A c.env c.E){Kp:List Nat}(hK:∀p∈c.K,p.1∈Kp){t i:E}{p:Nat}(wt:Hz ls gs t=true)(wi:eO ls gs i=true){body:List Stmt}{fj:List Nat→St→KF→Prop}(B:∀r σ K,fj (r::Kp) σ K→oN c (r::Kp) (execs body c.env) σ K){K:KF}(h:f i σ fun v σ=>forL Kp (fun Kp v σ K=>asg f t v σ fun σ=>fj Kp σ K) σ K v):oN c Kp (exec (.For (dE nm t) (dE nm i) body [] (dP p)) c.env) σ K:=fun ρ P s R=>by
 refine tf (bj (S i σ _ h wi ρ P s R) (fun x s1 df=>(gP df fun v CU ML P1 e1 R1 vx q=>?_)));induction v using V.casesOn with
 |ref r=>
  refine aa vx.bI fun a ha aQ=>?_;clear df vx;subst aQ
  have q:(match CU.cs[r]? with
   |some .d0=>K .next CU
   |some o=>(match o.items with
    |some vs=>vs.length≤100000∧turns (r::Kp) vs.length (fun k v=>vs[k]?=some v) (fun σ=>σ.cs[r]?=some o) CU (fun v σ K=>asg f t v σ fun σ=>fj (r::Kp) σ K) K
    |none=>False)
   |none=>False):=q
  generalize hr:CU.cs[r]?=y_ at q⊢;induction y_ with
  |none=>exact q.elim
  |some o=>
   have other:(match o.items with
    |some vs=>vs.length≤100000∧turns (r::Kp) vs.length (fun k v=>vs[k]?=some v) (fun σ=>σ.cs[r]?=some o) CU (fun v σ K=>asg f t v σ fun σ=>fj (r::Kp) σ K) K
    |none=>False)→Wp c (pyIter (.ref a)) (fun it s2=>cK (model Prog w) c.A (.forLoop (dE nm t) it body [] c.env) (rk c Kp ρ P K) s2) s1:=fun q=>by
    generalize ho:o.items=y_ at q⊢;induction y_ with
    |none=>exact q.elim
    |some vs=>have R0:=R1;refine bp R1 fun m news led R1=>aa (R1.eS ha hr) fun l h2 N=>ao (h2.items ho) fun ob bw aQ q1 q2=>?_;clear h2;subst aQ;refine af (wpAny_pyIter_list (fD N q1) ?_);obtain⟨R2,hI⟩:=nY R0 {cls:=.type "list_iterator",data:=.fields #[.ref a,.int 0 0]} ff;exact lP Ok sc S rl (Kp':=r::Kp) (fun a_ h=>cO _ h) hK wt (B r) (Aj (c:=c) (ax:=a) (r:=r) ho) (fun ρ aI hk h=>hk r aS _ h) q.2 e1 hI R2 ⟨rfl,rfl⟩ ha
   induction o with
   |d0=>exact FV Ok rl R1 hr ha q e1
   |_=>exact other q
 |_=>exact False.elim q
end
set_option tactic.hygienic true
section
variable{w:World}{c:Cx w}{lv:Nat}{σ:St}{ρ:List Addr}{P:Led}{s:Shared}{X:St→Prop}{ls gs:List Nat}{ih:Ih}
structure Ld(c:Cx w)(lv:Nat)(X:St→Prop)(ls gs:List Nat):Prop where
 Ok:c.Ok lv
 hE:nQ c X
 hR:I3 c X
 rl:PassesOwn (model Prog w) c.A c.env c.E
 sc:fv c.scope ls gs
def DX(c:Cx w)(ls gs:List Nat)(fj:List Nat→Ss→St→KF→Prop):Prop:=∀Kp ss σ K,fj Kp ss σ K→nX ls gs ss=true→(∀p∈c.K,p.1∈Kp)→oN c Kp (execs (mF nm ss) c.env) σ K
theorem uV{Kp:List Nat}{t:Expr}{a b:List Stmt}{p:Pos}{K:KF}(h:wo c (isTrue t c.env (eval t c.env)) σ (fun σ=>oN c Kp (execs a c.env) σ K) (fun σ=>oN c Kp (execs b c.env) σ K)):oN c Kp (exec (.If t a b p) c.env) σ K:=fun ρ P s R=>by
 rw[exec_If];refine aU (ag ((h).use R (fun k s' σ' aI P' e R' q=>?_)));induction k with
 |true=>exact bj (q aI P' s' R') (fun fl s2 h2=>iI.from (fun k a_ a h=>e.get k a h) e.p h2)
 |false=>exact bj (q aI P' s' R') (fun fl s2 h2=>iI.from (fun k a_ a h=>e.get k a h) e.p h2)
theorem oN.join{Kp:List Nat}{t:Sem Flow}{K:KF}{I:St→Prop}(hK:∀p∈c.K,p.1∈Kp)(h:oN c Kp t σ (jn Kp I K))(hI:∀σ',I σ'→K .next σ'):oN c Kp t σ K:=fun ρ P s R=>
 bj (h ρ P s R) (fun fl s' df=>by
  refine br df fun σ' aI P' k1 k2 R' q=>?_;induction fl with
  |ret x=>refine aa q fun v a b=>?_;exact aR σ' aI P' k1 k2 R' (ah v a b)
  |next=>exact cS q fun κ oM hn hi=>ao (i8 hK R' hn) fun sT P2 n1 n2 R2=>aR oM sT P2 (fun k hk a e=>n1 k hk a (k1 k hk a e)) (fun q hq=>n2 q (k2 q hq)) R2 (hI oM hi)
  |cont=>exact aR σ' aI P' k1 k2 R' q
  |brk=>exact aR σ' aI P' k1 k2 R' q)
theorem wo.mono(h:wo c t σ Kt Kf)(h1:∀σ,Kt σ→PH σ)(h2:∀σ,Kf σ→PI σ):wo c t σ PH PI:=fun ρ P s R=>(h).use R (fun b s' σ' aI P' e R' q=>bz σ' aI P' e R' (by induction b<;>first|exact h1 _ q|exact h2 _ q))
theorem Ap(B:Ld c lv X ls gs)(S:IU c ls gs ih){fj:List Nat→Ss→St→KF→Prop}(hb:DX c ls gs fj)(hK:∀p∈c.K,p.1∈Kp):∀(st:Mine.Internal.S) (σ:St) (K:KF),DJ lv X Kp ih.e ih.t fj st σ K→K_ ls gs st=true→oN c Kp (exec (dS nm st) c.env) σ K:=fun st σ K h wf=>by
 cases st with
 |expr e p=>intro ρ P s R;refine(?_:Wp c (exec (.Expr (dE nm e) (dP p)) c.env) _ s);rw[exec_Expr c.env (dE nm e) (dP p) (by unfold interactive;rw[B.Ok.hk];exact ff) (sW nm c.env e _ _)];exact aU ((S.e e σ _ h wf).use R fun x s' r σ' aI P' e1 R' v q=>CP (iI.of e1 R' q))
 |asg t e p=>exact CV B.Ok B.sc S.e h wf
 |aug t o e p=>obtain⟨w1,w2⟩:=bE wf;exact FT B.Ok S.e h w1 w2
 |ret e p=>
  intro ρ P s R;by_cases q:e=.abs
  ·subst q;exact((aU ((S.e .abs σ _ h wf).use R fun x s' r σ' aI P' e1 R' v q=>ak (iI.of e1 R' (ah r v (St.cH (V.cH q)))))):Wp c (standAt (dP p)>>=fun a_=>(eval (dE nm .abs) c.env)>>=fun x=>pure (Flow.ret x)) _ s)
  ·refine(?_:Wp c (exec (.Return (oE nm e) (dP p)) c.env) _ s);rw[vP nm q,exec_Return_some];exact aU ((S.e e σ _ h wf).use R fun x s' r σ' aI P' e1 R' v q=>ak (iI.of e1 R' (ah r v (St.cH (V.cH q)))))
 |qK t a b p=>obtain⟨w1,w2⟩:=bE wf;obtain⟨w2,w3⟩:=bE w2;exact uV ((S.t t σ _ _ h w1).mono (fun σ h=>hb Kp a σ K h w2 hK) fun σ h=>hb Kp b σ K h w3 hK)
 |Ca t a b p=>obtain⟨w1,w2⟩:=bE wf;obtain⟨w2,w3⟩:=bE w2;exact aa h fun I h hI=>uV ((S.t t σ _ _ h w1).mono (fun σ h=>(hb Kp a σ _ h w2 hK).join hK hI) fun σ h=>(hb Kp b σ _ h w3 hK).join hK hI)
 |DE t a p=>obtain⟨w1,w2⟩:=bE wf;refine aa h fun I gv h=>?_;obtain⟨n,h0⟩:=gv;exact Ag B.rl hK I n h0 fun n σ' hI=>(S.t t σ' _ _ (h n σ' hI) w1).mono (fun σ h=>hb Kp a σ _ h w2 hK) fun σ h=>h
 |xC t i a p=>
  obtain⟨w1,w2⟩:=bE wf;obtain⟨w2,w3⟩:=bE w2;have h:E6 Kp ih.e t (fun Kp=>fj Kp a) i σ K:=h;unfold E6 at h;generalize q:mS i=y_ at h⊢;induction y_ with
  |true=>exact yg B.Ok B.sc S.e B.rl hK w1 w2 (fun σ K h=>hb Kp a σ K h w3 hK) q h
  |false=>exact Ao B.Ok B.sc S.e B.rl hK w1 w2 (fun r σ K h=>hb (r::Kp) a σ K h w3 fun p hp=>cO _ (hK p hp)) h
 |del t p=>exact FU B.Ok S.e h wf
 |cont p=>exact fun ρ P s R=>aU (ak (iI.of .c6 R h))
 |raise e p=>obtain⟨w1,w2⟩:=bE wf;refine fN (rm w2) fun g p1 n p2 t_=>bg t_ fun p3 Cm=>?_;clear t_ w2 wf;subst Cm;have h:(Nat.beq g 6&&Nat.ble 22 lv)=true∧X σ:=h;have w1:(uL (.gX g p1)&&(ec gs g&&mI ls gs (.cons (.str n p2) .nil)))=true:=w1;exact An B.Ok B.sc B.hR (bE (bE w1).2).1 h.1 h.2
theorem yh{f:Mine.Internal.S→St→KF→Prop}(hf:∀st σ K,f st σ K→K_ ls gs st=true→oN c Kp (exec (dS nm st) c.env) σ K):∀(ss:Ss) (σ:St) (K:KF),qU f ss σ K→nX ls gs ss=true→oN c Kp (execs (mF nm ss) c.env) σ K:=by
 intro X_;induction X_ using Ss.ind with
 |nil=>exact fun σ K h _=>fun ρ P s R=>ak (iI.of .c6 R (St.cH (k:=K .next) h))
 |cons st ss cD=>
  intro σ K h wf ρ P s R;obtain⟨w1,w2⟩:=bE wf;refine(?_:Wp c (execs (dS nm st::mF nm ss) c.env) _ s);rw[execs_cons];refine ag (bj (hf st σ _ (St.cH (k:=fun σ=>f st σ (ID (qU f ss) K)) h) w1 ρ P s R) (fun fl s' df=>(br df fun σ' aI P' k1 k2 R' q=>?_)));induction fl with
  |next=>exact bj (cD σ' K q w2 aI P' s' R') (fun fl s2 h2=>iI.from k1 k2 h2)
  |brk=>exact ak (aR σ' aI P' k1 k2 R' q)
  |cont=>exact ak (aR σ' aI P' k1 k2 R' q)
  |ret v=>exact ak (aR σ' aI P' k1 k2 R' q)
theorem rp(B:Ld c lv X ls gs):∀n,DX c ls gs (v5 w lv X n):=by
 intro X_;induction X_ with
 |zero=>exact fun a_ b_ c_ d_ h=>h.elim
 |succ n cD=>exact fun Kp ss σ K h wf hK=>yh (fun st σ K h wf=>Ap B (DQ B.Ok B.hE B.sc n) (cD) hK st σ K h wf) ss σ K h wf
end
section
variable{w:World}{A:Around}{s:Shared}
theorem n3{R:Result→Shared→Prop}(h:cR (model Prog w) (A.deeper env) (execs body env) (fun f s'=>R (.ok (.ret (match f with|.ret v=>v|_=>.none))) s') (fun e s'=>wpAny (model Prog w) (A.deeper env) (leaving env e) (fun a_ ij=>R (.error e) ij) (fun e' ij=>R (.error e') ij) s') s):cK (model Prog w) A (.func body env) R s:=by refine bB ff ((?_:cR _ (A.deeper env) (do point;match←(execs body env).onRaise (leaving env)with|.ret v=>ret v|_=>ret .none) _ _ s));refine ag (af (wpAny_point (ag (ee (bM h (fun f s' h'=>?_) fun a_ b_ h'=>af h')))));induction f<;>exact ak h'
theorem n4{s:Shared}{o:Obj}{Q:Fin→Shared→Prop}{E:dB}(ho:s.heap.get? a=some o)(pY:o.data=.func fd)(h:cR M A (callFunction a fd args) Q E s):cR M A (callAny (.ref a) args) Q E s:=by refine aq (m:=load a) (wpAny_load ho ?_);generalize o.data=d at pY⊢;subst pY;exact h
noncomputable def I6(a c:Addr)(fd:FuncData)(args:Args)(body:List Stmt)(q:PySem.Str):Sem Fin:=do
 let env ←newFunctionEnv fd.scope fd.globals fd.closure (←bindArgs fd args) (q++".<locals>.") (some a) (.ref c) none fd.builtins
 enterFrame
 again (.func body env)
theorem pZ{fd:FuncData}(tg:fd.body=.stmts body)(jm:fd.scope.isCoroutine=false)(lu:fd.scope.isGenerator=false)(hc:fd.code=.ref c):callFunction a fd args=(field (.ref c) 1>>=fun v=>match v with|.str q _=>pure q>>=I6 a c fd args body|_=>pure fd.qualname>>=I6 a c fd args body):=by unfold callFunction;rw[hc,tg,lu,jm];rfl
theorem n5{R:Result→Shared→Prop}{o:Obj}{fd:FuncData}{binds:List (PySem.Str×Value)}(ka:A.depth<recursionLimit)(ho:s.heap.get? a=some o)(pY:o.data=.func fd)(FX:s.heap.NoLimit)(t5:s.heap.CodeRec fd.code fd.qualname)(tg:fd.body=.stmts body)(kb:BindsTo s fd args binds)(mi:∀x∈fd.scope.names,x.2≠.cell)(EA:∀x∈binds,fd.scope.names.lookup x.1=some .local)(h:∀h₀,h₀.Ns s.heap.objs.size (fun x=>binds.reverse.lookup x)→(∀b o,s.heap.get? b=some o→h₀.get? b=some o)→cR (model Prog w) (A.deeper (callEnv fd s.heap.objs.size a)) (execs body (callEnv fd s.heap.objs.size a)) (fun f s'=>R (.ok (.ret (match f with|.ret v=>v|_=>.none))) s') (fun e s'=>wpAny (model Prog w) (A.deeper (callEnv fd s.heap.objs.size a)) (leaving (callEnv fd s.heap.objs.size a) e) (fun a_ ij=>R (.error e) ij) (fun e' ij=>R (.error e') ij) s') {s with heap:=h₀,toks:=s.toks+binds.length})(jm:fd.scope.isCoroutine=false)(lu:fd.scope.isGenerator=false)(hk:fd.scope.kind=.function):cK (model Prog w) A (.call (.ref a) args) R s:=by refine bB ff (((gP t5 fun c oc vs tq hc MO MP hq=>n4 ho pY (pZ tg jm lu hc▸?_)):cR _ A.in1 (callAny (.ref a) args) _ _ s));refine aq (m:=field (.ref c) 1) (wpAny_field MO MP hq (ag (ak (aq (kb _ _ _ _ (aq ?_))))));rw[←hc];exact wpAny_newFunctionEnv mi EA (fun h₀ FY Aq=>(aq (wpAny_enterFrame (FX.fresh _ Aq) ka (ak (And.intro tt (n3 (h h₀ FY fun b o e=>Aq.extBut b o (Nat.ne_of_lt (Heap.lt_size e)) (Heap.get?_push_of_some _ e)))))))) hk
end
section
variable{w:World}
structure bh(w:World)(f:Addr)(na:Nat)(ns:List Nat)(dv:List V)(b:Ss)(ls gs:List Nat):Prop where
 it:∃(name qual:PySem.Str) (params:Arguments) (scope:Scope) (dV kV doc pm gQ ct oc:Value) (an od:Option Addr) (BE:Array (Option Value)),
  (hd.heap_39 w.params).lookup f=some ⟨oc,od,.func (fnOf name qual params (mF nm b) scope dV kV doc pm an gQ ct),BE⟩∧codeIn (hd.heap_39 w.params) gQ qual=true∧
  (scope.isCoroutine=false∧scope.isGenerator=false∧scope.kind=.function∧∀x∈scope.names,x.2≠.cell)∧fv scope ls gs∧(∀n∈ns,ec ls n=true)∧
  ∀(s:Shared) (xs:List Value),(hd.heap_39 w.params).In s.heap→xs.length=na→∃ys,BindsTo s (fnOf name qual params (mF nm b) scope dV kV doc pm an gQ ct) ⟨xs,[]⟩ ((ns.map nm).zip (xs++ys))∧∀T ρ,bT T ρ dv ys
 wf:nX ls gs b=true
 nd:bW ns=true
 ln:Nat.beq ns.length (na+dv.length)=true
def Au(k:Nat)(Q:V→List O→Prop)(v:V)(σ:St):Prop:=∃κ v' cs',bW κ=true∧eD σ.cs∧nF κ (List.range k)∧v=v'.eP κ∧vT κ (eC σ.cs) κ cs'∧cs'.all O.cG=true∧Q v' cs'
def Av(k:Nat)(X:List O→Prop)(σ:St):Prop:=∃κ cs',bW κ=true∧eD σ.cs∧nF κ (List.range k)∧vT κ (eC σ.cs) κ cs'∧cs'.all O.cG=true∧X cs'
noncomputable def FZ(k:Nat)(Q:V→List O→Prop):KF:=fun fl σ=>match fl with
 |.next=>Au k Q .none σ
 |.ret v=>Au k Q v σ
 |_=>False
theorem Aw:∀{ns:List Nat} {vs:List V} {xs:List Value},bT T ρ vs xs→bW ns=true→(∀n∈ns,cT n=true)→ns.length=vs.length→∀{n:Nat} {v:V},look (ns.zip vs) n=some v→n∈ns∧∃x,(((ns.map nm).zip xs).reverse.lookup (nm n))=some x∧VR T ρ v x:=by
 intro ns;induction ns with
 |nil=>intro vs xs _ _ _ _ n v h;exact nomatch(show none=some v from h)
 |cons a ns cD=>
  intro vs xs hv jM rS hl n v h;induction vs using List.casesOn with
  |nil=>simp at hl
  |cons u vs=>
   refine ao hv.cons_inv fun y ys aQ v1 v2=>?_;subst aQ;obtain⟨d1,d2⟩:=bE jM;have Le:ns.length=vs.length:=Nat.succ.inj hl;have e:((nm a,y)::(ns.map nm).zip ys).reverse.lookup (nm n)=(((ns.map nm).zip ys).reverse.lookup (nm n)).or ([(nm a,y)].lookup (nm n)):=by rw[List.reverse_cons,List.lookup_append]
   have h0:(match Nat.beq a n with|true=>some u|false=>look (ns.zip vs) n)=some v:=h;clear h;refine(?_:n∈a::ns∧∃x,((nm a,y)::(ns.map nm).zip ys).reverse.lookup (nm n)=some x∧_);refine e.symm▸?_;generalize q:Nat.beq a n=b_ at h0;induction b_ using Bool.casesOn with
   |true=>
    have q:=cY q;subst q;obtain rfl:=bf h0;refine d7 aS y ?_ v1
    have yi:((ns.map nm).zip ys).reverse.lookup (nm a)=none:=by
     rw[List.lookup_eq_none_iff];intro p hp;have hp:=List.mem_reverse.mp hp;refine aa (bO.mp (List.of_mem_zip hp).1) fun b hb I5=>?_;have h1:=List.all_eq_true.mp d1 b hb;have fy:nm a≠p.1:=fun z=>by have:=gY (rS a aS) (rS b (cO _ hb)) (z.trans I5.symm);rw[this,Nat.beq_refl]at h1;exact absurd h1 (by decide)
     first|exact beq_eq_false_iff_ne.mpr fy|exact bne_iff_ne.mpr fy|simpa using fy
    refine yi.symm▸?_;simp[List.lookup]
   |false=>exact gO (cD v2 d2 (fun m hm=>rS m (cO _ hm)) Le h0) fun h1 x h2 h3=>d7 (cO _ h1) x (by refine h2.symm▸?_;rfl) h3
theorem bT.app(r:bT T ρ vs xs)(h:bT T ρ ws ys):bT T ρ (vs++ws) (xs++ys):=bT.ind (m:=fun vs xs=>bT T ρ (vs++ws) (xs++ys)) h (fun v _ ih=>.cons v ih) r
theorem uW{g:Heap}{stack:List Env}{l l':Led}{h':Heap}{e:Addr}(p:l.Perm l')(h:il g stack l h' e):il g stack l' h' e:=by exact bV h fun Bh a0 f1 f2 f3 f4=>gm Bh a0 f1 (fun q hq=>f2 q (p.mem_iff.mpr hq)) f3 f4
theorem mM{l:List (PySem.Str×NameKind)}(h:l.lookup x=some k):(x,k)∈l:=by
 induction l with
 |nil=>exact nS h
 |cons p l ih=>
  obtain⟨y,j⟩:=p;rw[List.lookup_cons]at h;cases q:x==y with
  |true=>rw[q]at h;have q_:=bf h;clear h;subst q_;refine(beq_iff_eq.mp q).symm▸?_;exact aS
  |false=>rw[q]at h;exact cO _ (ih h)
theorem bA{args:List V}{pre:List O}{Q:V→List O→Prop}{ns:List Nat}(D:bh w f args.length ns dv b ls gs)(hk:Nat.ble k pre.length=true)(n:Nat)(hv:v5 w lv (Av k X) n (List.range k) b ⟨ns.zip (args++dv),pre⟩ (FZ k Q)):aF w f lv k args pre Q X:=by
 refine fN D.it fun name qual params scope t_=>fN t_ fun dV kV doc pm t_=>fN t_ fun gQ ct oc an t_=>jE t_ fun od BE ho t5 MQ sc tV PJ=>?_;refine oO MQ fun jm lu CW mi=>?_;intro cy mg mb dp un gd stack base g s R S ρ vals led B kp sz X0 T0 hS N D0 C vs ki rR ret err;have hk:=bZ hk;have Xs:(hd.heap_39 w.params).In s.heap:=X0.keeps kp;refine aa (PJ s vals Xs vs.len) fun ys hb PK=>?_;have Lc:=cY D.ln;have iq:=C.length;have hlen:ns.length=(args++dv).length:=by rw[Lc,bR]
 refine n5 (fd:=fnOf name qual params (mF nm b) scope dV kV doc pm an gQ ct) (body:=mF nm b) (binds:=(ns.map nm).zip (vals++ys)) (by refine(?_:dp<recursionLimit);simp only[recursionLimit];exact ar 4054225965283817473 rfl ki) (Xs _ _ ho) rfl (T0.nolimit.keeps kp) (codeRec_of Xs t5) rfl hb mi (fun x hx=>?_) (fun bH F0 f'=>?_) jm lu CW
 ·refine aa (bO.mp (List.of_mem_zip hx).1) fun m hm K4=>((K4▸?_):scope.names.lookup x.1=_);exact(sc.l m (tV m hm)).2.1
 let c:Cx w:={cy:=cy,mg:=mg,mb:=mb,dp:=dp,un:=un,gd:=gd,stack:=stack,base:=base,g:=g,L:=s.heap.objs.size,qual:=qual,scope:=scope,f:=f,cd:=gQ,cl:=[],gens:=s.gens,drawn:=s.drawn,os:=s.os,S:=S,K:=(List.range k).map (fun i=>(i,ρ.getD i 0)),E:=fun e s'=>wpAny (model Prog w) ((Ar dp un gd stack).deeper (envX qual scope s.heap.objs.size f gQ [])) (leaving (envX qual scope s.heap.objs.size f gQ []) e) (fun a_ ij=>R (.error e) ij) (fun e' ij=>R (.error e') ij) s'};have MR:Fr c.g c.L bH (fun y=>((ns.map nm).zip (vals++ys)).reverse.lookup y):=⟨F0,fun b o e=>f' b o (kp b o e),sz⟩;have qy:News c.g c.L bH led:=fun p hp=>aN (f' _ _ (N p hp).1) (Nat.ne_of_lt (Heap.lt_size (N p hp).1)) ((N p hp).2);have Ok:c.Ok lv:=⟨B,X0,T0,CW,ki,rR,hS,fun z=>absurd rfl (mi _ (mM z))⟩;have kk:∀i,i<k→ρ[i]?=some (ρ.getD i 0):=fun i hi=>by rw[cW,cn (Nat.lt_of_lt_of_le hi (aX hk (Nat.le_of_eq iq.symm)))];rfl
 have F4:∀p,p∈c.K↔∃i,i<k∧p=(i,ρ.getD i 0):=fun p=>by refine(?_:p∈(List.range k).map (fun i=>(i,ρ.getD i 0))↔_);simp only[bO,List.mem_range];exact⟨fun⟨i,h,e⟩=>(ah i h e.symm),fun⟨i,h,e⟩=>(ah i h e.symm)⟩
 have sub:∀a o,SX w S a o→c.T [] a o:=fun a o h=>.inl h
 have R0:aK c ⟨ns.zip (args++dv),pre⟩ ρ [] {s with heap:=bH,toks:=s.toks+((ns.map nm).zip (vals++ys)).length}:=by
  refine⟨_,led,led,rfl,rfl,rfl,fun p hp=>?_,MR,qy,D0,by rw[List.append_nil],C.mono sub fun a_ b_ h=>h,fun n v h=>?_⟩
  ·refine aa ((F4 p).mp hp) fun i hi aQ=>?_;clear hp;subst aQ;exact kk i hi
  ·exact gO (Aw (bT.app (vs.mono sub fun a_ b_ h=>h) (PK (c.T []) ρ)) D.nd (fun m hm=>(sc.l m (tV m hm)).1) hlen h) fun h1 x h2 h3=>d7 ((sc.l n (tV n h1)).1) x h2 h3
 /-MS end,told anew-/
 have fin:∀{σ':St} {aI:List Addr} {P' bx:Led} {κ:List Nat} {cs':List O},bW κ=true→eD σ'.cs→nF κ (List.range k)→vT κ (eC σ'.cs) κ cs'→aP w (c.T P') aI aI σ'.cs bx→(∀p∈c.K,aI[p.1]?=some p.2)→
  ∃cj ko mx,jw κ aI cj∧(bx++P').Perm (mx++ko)∧(∀a o,c.T P' a o→TX w S ko a o)∧aP w (TX w S ko) cj cj cs' mx∧∀i,i<k→cj[i]?=ρ[i]?:=fun{σ' aI P' bx κ cs'} h1 h0 h2 h4 C' CX=>by
  exact bV (nV h1 h0 h4 C') fun mx gb wc pm up I7=>aR _ (gb++P') mx wc pm up (qo I7 (fun i hi=>((kk i hi).symm▸(wc i i _ (pV h2 i (List.mem_range.mpr hi)) (CX (i,ρ.getD i 0) ((F4 _).mpr (ah i hi rfl)))))))
 have hX:∀(σ':St) (aI:List Addr) (P' bx post:Led) (e:Addr) (jr:Heap) (tk:Nat),post.Perm (bx++P')→(adr post).Nodup→il g stack post jr e→aP w (c.T P') aI aI σ'.cs bx→(∀p∈c.K,aI[p.1]?=some p.2)→Av k X σ'→
  R (.error (.ref e)) {s with heap:=jr,toks:=tk}:=fun σ' aI P' bx post e jr tk pm jM fl C' CX q_=>by
  exact jE q_ fun κ cs' h1 h0 h2 h4 h5 h6=>br (fin h1 h0 h2 h4 C' CX) fun cj ko mx wc Ax up t_=>fz t_ fun I7 kq=>err e jr tk cj ko cs' mx (uW (pm.trans Ax) fl) (d9 (pm.trans Ax) jM) kq I7 h5 h6
 have Bd:Ld c lv (Av k X) ls gs:=by
  refine⟨Ok,?_,?_,?_,sc⟩
  ·intro σ' aI P' bx hs h' m news PL rest post e tk F N D pm fl jM Ax C' CX _ hx;refine((r5 (s:={s with heap:=h',toks:=tk}) B F N D pm rfl fl fun jr MT=>?_):wpAny (model Prog w) ((Ar dp un gd stack).deeper _) (leaving _ (.ref e)) _ _ _);exact hX σ' aI P' bx (post++rest) e jr tk Ax jM MT C' CX hx
  ·intro σ' aI P' bx hs m news e tp dx od ot tk F N D pm C' CX hx;refine((uo (s:=⟨hs,s.gens,s.drawn,tk,s.os⟩) B F N D (fun jr MT=>?_) CW):wpAny (model Prog w) ((Ar dp un gd stack).deeper _) (leaving _ (.ref e)) _ _ _);have jM:(adr news).Nodup:=by have D1:(e::dx::tp::adr news).Nodup:=D;exact(cu.mp (cu.mp (cu.mp D1).2).2).2
   exact hX σ' aI P' bx news e jr tk pm jM MT C' CX hx
  ·exact PassesOwn.leaving
 have I8:∀(v:V) (x:Value) (σ':St) (aI:List Addr) (P':Led) (s':Shared),aK c σ' aI P' s'→VR (c.T P') aI v x→Au k Q v σ'→R (.ok (.ret x)) s':=fun v x σ' aI P' s' R' vx q_=>by
  refine bp q_ fun κ v' cs' t_=>BQ t_ fun h1 h0 h2 h3 h4 h5 h6=>bp R' fun m news bx R'=>br (fin h1 h0 h2 h4 R'.C R'.K) fun cj ko mx wc Ax up t_=>fz t_ fun I7 kq=>?_;subst h3;have es:s'={s with heap:=s'.heap,toks:=s'.toks}:=by have e1:s'.gens=s.gens:=R'.gens;have e2:s'.drawn=s.drawn:=R'.drawn;have e3:s'.os=s.os:=R'.os;refine e1▸?_;refine e2▸?_;exact e3▸rfl
  exact es.symm▸(ret x s'.heap s'.toks cj ko v' cs' mx R'.F.keep (fun p hp=>(fun z=>⟨z.1,z.2.2⟩) (R'.N p ((R'.M.trans Ax).mem_iff.mpr hp))) (d9 (R'.M.trans Ax) R'.D) kq I7 h5 (VR.mono up (fun a_ b_ h=>h) (VR.fg wc v' vx)) h6)
 refine(?_:cR (model Prog w) c.A (execs (mF nm b) c.env) _ c.E _);refine bj (rp Bd n (List.range k) b _ _ hv D.wf (fun p hp=>by refine aa ((F4 p).mp hp) fun i hi aQ=>?_;clear hp;subst aQ;exact List.mem_range.mpr hi) ρ [] _ R0) (fun fl s' ⟨σ',aI,P',k1,k2,R',q⟩=>?_);induction fl with
 |next=>exact I8 .none .none σ' aI P' s' R' .none q
 |brk=>exact q.elim
 |cont=>exact q.elim
 |ret x=>exact aa q fun v vx q=>I8 v x σ' aI P' s' R' vx q
theorem aE{args:List V}{pre:List O}{Q:V→List O→Prop}{X:List O→Prop}{ns:List Nat}(D:bh w f args.length ns dv b ls gs)(hk:Nat.ble k pre.length=true)(n:Nat)(hv:∀Q' X',(∀r cs,Q r cs→Q' r cs)→(∀cs,X cs→X' cs)→v5 w lv (Av k X') n (List.range k) b ⟨ns.zip (args++dv),pre⟩ (FZ k Q')):aF w f lv k args pre Q X:=bA D hk n (hv Q X (fun a_ b_ h=>h) fun a_ h=>h)
end
section
variable(w:World)
noncomputable def PM(scope:Scope)(na:Nat)(ns:List Nat)(dv:List V)(b:Ss)(ls gs:List Nat):Bool:= !scope.isCoroutine&&(!scope.isGenerator&&(decide (scope.kind=.function)&&((scope.names.all fun x=> !(x.2==.cell))&&(DO scope ls gs&&((ns.all fun n=>ec ls n)&&(nX ls gs b&&(bW ns&&Nat.beq ns.length (na+dv.length))))))))
abbrev CY(w:World)(fd:FuncData)(na:Nat)(ns:List Nat)(dv:List V):Prop:=∀(s:Shared) (xs:List Value),(hd.heap_39 w.params).In s.heap→xs.length=na→∃ys,BindsTo s fd ⟨xs,[]⟩ ((ns.map nm).zip (xs++ys))∧∀T ρ,bT T ρ dv ys
theorem ay{f:Addr}{na:Nat}{ns:List Nat}{dv:List V}{b:Ss}{ls gs:List Nat}{name qual:PySem.Str}{params:Arguments}{scope:Scope}{dV kV doc pm gQ ct oc:Value}{an od:Option Addr}{BE:Array (Option Value)}(ho:(hd.heap_39 w.params).lookup f=some ⟨oc,od,.func (fnOf name qual params (mF nm b) scope dV kV doc pm an gQ ct),BE⟩)(t5:codeIn (hd.heap_39 w.params) gQ qual=true)(h:PM scope na ns dv b ls gs=true)(h7:CY w (fnOf name qual params (mF nm b) scope dV kV doc pm an gQ ct) na ns dv):bh w f na ns dv b ls gs:=by obtain⟨h1,h⟩:=Bool.and_eq_true_iff.mp h;obtain⟨h2,h⟩:=Bool.and_eq_true_iff.mp h;obtain⟨h3,h⟩:=Bool.and_eq_true_iff.mp h;obtain⟨h4,h⟩:=Bool.and_eq_true_iff.mp h;obtain⟨h5,h⟩:=Bool.and_eq_true_iff.mp h;obtain⟨h6,h⟩:=Bool.and_eq_true_iff.mp h;obtain⟨h8,h⟩:=Bool.and_eq_true_iff.mp h;obtain⟨h9,h⟩:=Bool.and_eq_true_iff.mp h;exact⟨(b9 name qual params scope (b9 dV kV doc pm (b9 gQ ct oc an (fk od BE ho t5 (cZ ((Bool.not_eq_true' _).mp h1) ((Bool.not_eq_true' _).mp h2) (cX h3) (fun x hx e=>by have:=List.all_eq_true.mp h4 x hx;rw[e]at this;exact absurd this (by decide))) (wh h5) (fun n hn=>List.all_eq_true.mp h6 n hn) h7)))),h8,h9,h⟩
section
variable{fd:FuncData}{ns:List Nat}
theorem cV{n:Nat}{xs:List Value}{M:List Value→Prop}(e:xs.length=n+1)(k:∀a l,l.length=n→M (a::l)):M xs:=by
 induction xs using List.casesOn with
 |nil=>cases e
 |cons a l=>exact k a l (Nat.succ.inj e)
theorem iK{xs:List Value}{M:List Value→Prop}(e:xs.length=0)(k:M []):M xs:=List.eq_nil_of_length_eq_zero e▸k
def cQ(s:Shared)(fd:FuncData)(ns:List Nat)(ds:List V)(xs:List Value):Prop:=∃ys,BindsTo s fd ⟨xs,[]⟩ ((ns.map nm).zip (xs++ys))∧∀T ρ,bT T ρ ds ys
theorem gJ(h:∀s a,BindsTo s fd ⟨[a],[]⟩ ((ns.map nm).zip [a])):CY w fd 1 ns []:=fun s xs a_ e=>cV (M:=cQ s fd ns []) e fun a l e=>iK (M:=fun l=>cQ s fd ns [] (a::l)) e (ah [] (h s a) (fun a_ b_=>.nil))
theorem jO(h:∀s a b,BindsTo s fd ⟨[a,b],[]⟩ ((ns.map nm).zip [a,b])):CY w fd 2 ns []:=fun s xs a_ e=>cV (M:=cQ s fd ns []) e fun a l e=>cV (M:=fun l=>cQ s fd ns [] (a::l)) e fun b l e=>iK (M:=fun l=>cQ s fd ns [] (a::b::l)) e (ah [] (h s a b) (fun a_ b_=>.nil))
theorem jP(h:∀s a b c,BindsTo s fd ⟨[a,b,c],[]⟩ ((ns.map nm).zip [a,b,c])):CY w fd 3 ns []:=fun s xs a_ e=>cV (M:=cQ s fd ns []) e fun a l e=>cV (M:=fun l=>cQ s fd ns [] (a::l)) e fun b l e=>cV (M:=fun l=>cQ s fd ns [] (a::b::l)) e fun c l e=>iK (M:=fun l=>cQ s fd ns [] (a::b::c::l)) e (ah [] (h s a b c) (fun a_ b_=>.nil))
theorem I9(h:∀s a b c d,BindsTo s fd ⟨[a,b,c,d],[]⟩ ((ns.map nm).zip [a,b,c,d])):CY w fd 4 ns []:=fun s xs a_ e=>cV (M:=cQ s fd ns []) e fun a l e=>cV (M:=fun l=>cQ s fd ns [] (a::l)) e fun b l e=>cV (M:=fun l=>cQ s fd ns [] (a::b::l)) e fun c l e=>cV (M:=fun l=>cQ s fd ns [] (a::b::c::l)) e fun d l e=>iK (M:=fun l=>cQ s fd ns [] (a::b::c::d::l)) e (ah [] (h s a b c d) (fun a_ b_=>.nil))
theorem MU(h:∀s a b c d e,BindsTo s fd ⟨[a,b,c,d,e],[]⟩ ((ns.map nm).zip [a,b,c,d,e])):CY w fd 5 ns []:=fun s xs a_ e=>cV (M:=cQ s fd ns []) e fun a l e=>cV (M:=fun l=>cQ s fd ns [] (a::l)) e fun b l e=>cV (M:=fun l=>cQ s fd ns [] (a::b::l)) e fun c l e=>cV (M:=fun l=>cQ s fd ns [] (a::b::c::l)) e fun d l e=>cV (M:=fun l=>cQ s fd ns [] (a::b::c::d::l)) e fun z l e=>iK (M:=fun l=>cQ s fd ns [] (a::b::c::d::z::l)) e (ah [] (h s a b c d z) (fun a_ b_=>.nil))
theorem MV(X:∀s:Shared,(hd.heap_39 w.params).In s.heap→∀a,BindsTo s fd ⟨[a],[]⟩ ((ns.map nm).zip [a,.none])):CY w fd 1 ns [.none]:=fun s xs H e=>cV (M:=cQ s fd ns [.none]) e fun a l e=>iK (M:=fun l=>cQ s fd ns [.none] (a::l)) e (ah [.none] (X s H a) (fun a_ b_=>.cons .none .nil))
theorem I_(X:∀s:Shared,(hd.heap_39 w.params).In s.heap→∀a b,BindsTo s fd ⟨[a,b],[]⟩ ((ns.map nm).zip [a,b,.none])):CY w fd 2 ns [.none]:=fun s xs H e=>cV (M:=cQ s fd ns [.none]) e fun a l e=>cV (M:=fun l=>cQ s fd ns [.none] (a::l)) e fun b l e=>iK (M:=fun l=>cQ s fd ns [.none] (a::b::l)) e (ah [.none] (X s H a b) (fun a_ b_=>.cons .none .nil))
theorem I'(X:∀s:Shared,(hd.heap_39 w.params).In s.heap→∀a b c,BindsTo s fd ⟨[a,b,c],[]⟩ ((ns.map nm).zip [a,b,c])):CY w fd 3 ns []:=fun s xs H e=>cV (M:=cQ s fd ns []) e fun a l e=>cV (M:=fun l=>cQ s fd ns [] (a::l)) e fun b l e=>cV (M:=fun l=>cQ s fd ns [] (a::b::l)) e fun c l e=>iK (M:=fun l=>cQ s fd ns [] (a::b::c::l)) e (ah [] (X s H a b c) (fun a_ b_=>.nil))
end
noncomputable def pE(e:E):Nat:=E.casesOn e 0 (fun p=>p) (fun _ p=>p) (fun _ p=>p) (fun _ p=>p) (fun _ p=>p) (fun _ p=>p) (fun _ p=>p) (fun _ p=>p) (fun _ _ _ p=>p) (fun _ p=>p) (fun _ _ _ p=>p) (fun _ p=>p) (fun _ p=>p) (fun _ p=>p) (fun _ _ _ p=>p) (fun _ _ p=>p) (fun _ _ p=>p) (fun _ _ _ p _=>p) (fun _ p=>p) (fun _ p=>p) (fun p=>p) (fun _ _ p=>p) (fun _ _ _ _ p=>p)
noncomputable def pK(e:E)(k:Nat):Nat:=pE e+76800*k
namespace Yt
noncomputable abbrev z:=Es.nil
noncomputable abbrev j:=Es.cons
noncomputable abbrev y(a:E):Es:=.cons a .nil
noncomputable abbrev x(a b:E):Es:=.cons a (y b)
noncomputable abbrev v(a b c:E):Es:=.cons a (x b c)
noncomputable abbrev h(a b c d:E):Es:=.cons a (v b c d)
noncomputable abbrev l:=E.loc
noncomputable abbrev g:=E.gX
noncomputable abbrev i(n p:Nat):E:=.int (OfNat.ofNat n) p
noncomputable abbrev s:=E.str
noncomputable abbrev o:=E.none
noncomputable abbrev a(e:E)(n k:Nat):E:=.att e n (pK e k)
noncomputable abbrev A(p n k:Nat):E:=a (l (nat_lit 138) p) n k
noncomputable abbrev u(e i:E)(k:Nat):E:=.sub e i (pK e k)
noncomputable abbrev f(e:E)(x:Es)(k:Nat):E:=.call e x (pK e k)
noncomputable abbrev K(n p:Nat)(x:Es)(k:Nat):E:=f (g n p) x k
noncomputable abbrev m(e:E)(n:Nat)(x:Es)(k j:Nat):E:=.sA e n x (pK e k) (pK e j)
noncomputable abbrev b(o:ze)(e f:E)(k:Nat):E:=.bin o e f (pK e k)
noncomputable abbrev c(o:EK)(e f:E)(k:Nat):E:=.cmp o e f (pK e k)
noncomputable abbrev t:=E.tup
noncomputable abbrev n(e:E):E:=.not e (pE e+304800)
noncomputable abbrev N:=Ss.nil
noncomputable abbrev C:=Ss.cons
noncomputable abbrev B(a:S):Ss:=.cons a .nil
noncomputable abbrev T(a b:S):Ss:=.cons a (B b)
noncomputable abbrev H(a b c:S):Ss:=.cons a (T b c)
noncomputable abbrev F(a b c d:S):Ss:=.cons a (H b c d)
noncomputable abbrev W(a b c d e:S):Ss:=.cons a (F b c d e)
noncomputable abbrev Y(a b c d e f:S):Ss:=.cons a (W b c d e f)
noncomputable abbrev G(t e:E)(k:Nat):S:=.asg t e (pK t k)
noncomputable abbrev X(e:E):S:=.expr e (pE e)
noncomputable abbrev R(e:E):S:=.ret e (pE e+533400)
noncomputable abbrev I:=S.qK
noncomputable abbrev J:=S.Ca
noncomputable abbrev L:=S.xC
noncomputable abbrev Q(t:E)(o:ze)(e:E)(k:Nat):S:=.aug t o e (pK t k)
noncomputable abbrev r(e:E):S:=.raise e (pE e+457200)
end Yt
section
local macro_rules |`($n:num)=>`(nat_lit$n)
open Yt
noncomputable def Ja:Ss:=Y (G (t (x (l 141 232802) (l 142 235802)) 616802) (l 116 316202) 7) (G (l 93 309603) (K 143 237003 (y (l 113 469803)) 8) 14) (I (c .ne (b .mod (l 93 311404) (i 8 85204) 4) (i 0 88204) 5) (T (G (l 113 465605) (b .add (l 113 471005) (b .mul (.zf [OfNat.ofNat 0] 553205) (b .sub (i 8 99005) (b .mod (l 93 331805) (i 8 105605) 4) 11) 17) 27) 36) (G (l 93 312006) (K 143 239406 (y (l 113 472206)) 8) 14)) N 21660004) (G (l 114 156007) (i 0 82207) 4) (.DE (c .lt (l 114 159608) (l 93 316208) 7) (H (G (l 141 235209) (.bin .mod (b .add (b .add (l 141 239409) (m (g 214 243009) 196 (x (.slc (l 113 482409) (l 114 179409) (b .add (l 114 181209) (i 4 107409) 4) 1327209 717009) (s 122 417009)) 11 37) 43) (l 142 268809) 6) (g 39 349809) 4693209) 64) (G (l 142 235210) (.bin .mod (b .add (b .add (l 142 239410) (m (g 214 243010) 196 (x (.slc (l 113 482410) (b .add (l 114 179410) (i 4 105610) 4) (b .add (l 114 183610) (i 8 109810) 4) 1634410 1024210) (s 122 419410)) 11 41) 47) (l 141 271210) 6) (g 39 352210) 5000410) 68) (G (l 114 158411) (b .add (l 114 161411) (i 8 87611) 4) 9)) 30952808) (R (t (x (l 141 237612) (l 142 240612)) 774612))
noncomputable def Jb:Ss:=B (R (t (x (.bin .mod (b .add (u (l 117 391814) (i 0 88214) 3) (i 1 91214) 4) (g 39 324614) 1620014) (.bin .mod (b .add (b .add (b .mul (u (l 117 405614) (i 1 102014) 3) (i 69069 412214) 8) (b .mul (i 2 109814) (l 118 496214) 9) 13) (i 12345 424814) 8) (g 39 353414) 3553814)) 5459414))
noncomputable def Jc:Ss:=C (G (A 312018 144 7) (.lst z 166818) 5) (C (G (A 312019 145 7) (.qL 166819) 5) (C (G (A 312020 146 7) (.qL 166820) 5) (C (G (A 312021 147 5) (i 0 88821) 4) (Y (G (A 312022 148 7) (i 0 90022) 4) (G (A 312023 117 6) (g 40 857423) 14) (G (A 312024 118 7) (i 0 90024) 4) (G (A 312025 116 5) (t (x (i 0 89425) (i 0 91225)) 472825) 9) (G (A 312026 149 9) (.bool true 321626) 7) (G (A 312027 150 7) (.bool false 397227) 8)))))
noncomputable def Jd:Ss:=Y (G (A 312030 144 7) (.lst z 166830) 5) (G (A 312031 145 7) (.qL 166831) 5) (G (A 312032 146 7) (.qL 166832) 5) (G (A 312033 147 5) (i 0 88833) 4) (G (A 312034 148 7) (i 0 90034) 4) (G (A 312035 116 5) (t (x (i 0 89435) (i 0 91235)) 472835) 9)
noncomputable def Je:Ss:=H (X (m (A 312038 144 7) 197 (y (l 131 323438)) 7 13)) (I (c .EL (l 131 313839) (A 321039 145 7) 19) (B (G (u (A 314440 145 7) (l 131 321640) 6) (.lst z 172840) 5)) N 12446439) (X (m (u (A 312041 145 7) (l 131 319241) 6) 197 (y (K 143 250241 (y (A 329441 144 7)) 13)) 7 25))
noncomputable def Jf:Ss:=H (G (A 312044 147 5) (K 143 242444 (y (A 321644 144 7)) 13) 19) (G (u (A 312045 146 7) (A 319245 147 5) 11) (l 151 787845) 13) (G (A 312046 116 5) (l 116 319246) 7)
noncomputable def Jg:Ss:=B (.DE (c .gt (K 143 238849 (y (A 318049 144 7)) 13) (A 327049 147 5) 12) (F (G (l 131 314450) (m (A 318650 144 7) 215 z 4 6) 20) (G (l 153 237651) (u (A 318051 145 7) (l 131 325251) 6) 20) (X (m (l 153 237652) 215 z 4 6)) (I (n (l 153 241853)) (B (.del (u (A 319254 145 7) (l 131 326454) 6) 1622454)) N 12679253)) 51998449)
noncomputable def Jh:Ss:=W (G (l 153 235257) (m (A 315657 145 7) 198 (y (l 131 325257)) 4 10) 24) (I (c .is (l 153 237058) (o 318058) 8) (B (R (i 0 88259))) N 11371258) (G (t (x (l 199 235260) (l 200 315060)) 696060) (t (x (i 0 89460) (K 143 244860 (y (l 153 247260)) 5)) 1010460) 16) (.DE (c .lt (l 199 238861) (l 200 319261) 7) (T (G (l 201 468062) (.bin .fdiv (b .add (l 199 243662) (l 200 324062) 7) (i 2 99062) 1318262) 20) (I (c .le (u (l 153 239463) (l 201 472263) 8) (l 152 325263) 8) (B (G (l 199 240064) (b .add (l 201 474064) (i 1 95464) 4) 13)) (B (G (l 200 316866) (l 201 474666) 9)) 31725663)) 51384061) (R (.qK (c .gt (l 199 249067) (i 0 99067) 4) (u (l 153 239467) (b .sub (l 199 241867) (i 1 91867) 4) 9) (i 0 103267) 2313067))
noncomputable def Ji:Ss:=H (G (l 132 388870) (.qL 163270) 5) (L (l 118 468071) (K 193 397271 (x (b .add (l 154 400871) (i 1 98471) 4) (b .add (l 152 330671) (i 1 104471) 4)) 21) (B (G (u (l 132 391272) (u (A 318072 144 7) (b .sub (l 118 478872) (i 1 100272) 4) 12) 25) (l 118 487872) 9)) 13752071) (R (l 132 393073))
noncomputable def Jj:Ss:=Y (G (A 312077 128 5) (l 128 319277) 7) (G (A 312078 155 5) (l 155 319278) 7) (G (A 312079 156 10) (l 156 706279) 12) (G (A 312080 157 9) (b .add (l 155 321680) (s 202 479480) 9) 16) (G (A 312081 158 5) (o 319281) 7) (G (A 312082 159 6) (o 319882) 7)
noncomputable def Jk:Ss:=B (R (b .add (g 38 777085) (A 324085 156 10) 17))
noncomputable def Jl:Ss:=B (R (b .add (g 37 700288) (.bin .mul (b .sub (l 118 477688) (i 1 99088) 4) (m (l 138 332488) 48 z 11 13) 2473888) 35))
noncomputable def Jm:Ss:=B (R (m (l 138 316291) 49 (y (b .add (a (A 324691 159 6) 147 5) (i 1 105091) 4)) 9 30))
noncomputable def Jn:Ss:=T (G (A 312094 158 5) (m (A 319294 128 5) 51 (y (A 328294 157 9)) 5 20) 32) (J (c .EL (A 313895 157 9) (a (A 326495 128 5) 188 7) 24) (H (G (A 314496 159 6) (K 11 629496 z 2) 13) (X (m (l 138 314497) 55 z 8 10)) (G (u (a (A 314498 128 5) 188 7) (A 324698 157 9) 15) (A 334898 159 6) 13)) (B (G (A 314500 159 6) (u (a (A 322300 128 5) 188 7) (A 332500 157 9) 15) 34)) 53457695)
noncomputable def Jo:Ss:=T (G (l 160 312103) (K 7 700303 (y (.lst (j (g 35 706903) (j (g 36 867103) (h (A 337303 156 10) (a (A 346903 159 6) 118 7) (u (a (A 358303 159 6) 117 6) (i 0 138103) 3) (u (a (A 370903 159 6) 117 6) (i 1 150703) 3)))) 7771903)) 103) 115) (R (b .add (l 160 316304) (K 7 704504 (y (K 9 787304 (x (l 160 333104) (t (x (i 0 106904) (i 0 108704)) 490304)) 14)) 26) 38))
noncomputable def Jp:Ss:=C (G (l 161 312107) (m (A 316307 158 5) 94 (x (i 0 94907) (g 37 711107)) 5 19) 31) (C (I (c .lt (K 143 237108 (y (l 161 316308)) 6) (g 37 705108) 12) (B (R (.bool false 395509))) N 11678508) (C (G (l 112 388910) (K 8 700910 (v (l 161 322910) (i 0 96110) (i 8 97910)) 12) 24) (C (G (l 116 312111) (K 9 777111 (x (.slc (l 161 322911) .abs (i 24 172911) 706911 249111) (t (x (i 0 99711) (i 0 101511)) 483111)) 19) 32) (Y (I (.or (v (c .ne (u (l 112 390712) (i 0 87112) 3) (g 35 705112) 13) (c .ne (u (l 112 405712) (i 1 102112) 3) (g 36 873712) 15) (c .ne (t (x (u (l 112 422512) (i 6 118912) 3) (u (l 112 428512) (i 7 124912) 3)) 1573912) (l 116 359512) 8)) 6150712) (B (R (.bool false 395513))) N 11678512) (I (c .ne (u (l 112 390714) (i 2 87114) 3) (A 321114 156 10) 18) (B (r (K 3 932515 (y (s 217 2399515)) 33))) N 14673714) (G (a (A 312116 159 6) 118 7) (u (l 112 400916) (i 3 97316) 3) 11) (G (a (A 312117 159 6) 117 6) (t (x (u (l 112 400917) (i 4 97317) 3) (u (l 112 406917) (i 5 103317) 3)) 1552317) 23) (G (a (A 312118 159 6) 116 5) (l 116 322918) 7) (R (.bool true 316319))))))
noncomputable def Jq:Ss:=C (G (l 113 465722) (m (A 317522 158 5) 94 (x (m (l 138 326522) 49 (y (l 118 488522)) 9 17) (m (l 138 340322) 48 z 11 13)) 5 47) 59) (Y (I (c .lt (K 143 237123 (y (l 113 469923)) 8) (m (l 138 322323) 48 z 11 13) 20) (B (R (o 318724))) N 11601723) (G (l 112 388925) (K 8 700925 (v (l 113 476525) (i 0 97325) (i 6 99125)) 14) 26) (I (.or (x (c .eq (u (l 112 390726) (i 0 87126) 3) (i 0 90726) 5) (c .ne (t (x (u (l 112 401526) (i 2 97926) 3) (u (l 112 407526) (i 3 103926) 3)) 1552926) (a (A 338526 159 6) 117 6) 20)) 4384326) (B (R (o 318727))) N 11601726) (G (l 162 388928) (K 9 777728 (x (b .add (.slc (l 113 477128) .abs (i 8 97928) 784328 174128) (.slc (l 113 484928) (g 38 796328) .abs 1483328 873128) 22) (l 116 343928)) 40) 53) (I (c .ne (t (x (u (l 112 391329) (i 4 87729) 3) (u (l 112 397329) (i 5 93729) 3)) 1542729) (l 162 405129) 9) (B (R (o 318730))) N 11601729) (R (t (v (u (l 112 393731) (i 0 90131) 3) (u (l 112 399731) (i 1 96131) 3) (l 162 405731)) 2082731)))
noncomputable def Jr:Ss:=C (G (l 159 388934) (A 316934 159 6) 13) (C (X (m (l 159 388935) 42 z 6 8)) (C (G (a (l 159 388936) 118 7) (i 0 90736) 4) (Y (G (a (l 159 388937) 117 6) (g 40 858137) 14) (G (a (l 159 388938) 149 9) (n (m (l 138 324738) 53 z 10 12)) 23) (G (a (l 159 388939) 150 7) (.bool false 397939) 8) (J (n (a (l 159 393140) 149 9)) (F (G (t (x (l 118 468141) (l 116 319341)) 928941) (t (x (i 1 93741) (a (l 159 402741) 116 5)) 1168341) 18) (G (l 203 391342) (m (l 138 319342) 54 (x (l 118 482542) (l 116 333742)) 11 25) 32) (.DE (c .Hq (l 203 394943) (o 325943) 12) (W (G (t (v (l 131 316944) (l 130 397344) (l 116 324744)) 1315344) (l 203 405744) 8) (X (m (l 159 393745) 43 (y (l 131 322945)) 4 10)) (J (c .gt (l 130 395546) (i 0 93146) 4) (B (X (m (l 159 396147) 44 (x (l 130 406947) (l 116 334347)) 12 25))) N 13680146) (G (l 118 470548) (b .add (l 118 475948) (i 1 97348) 4) 13) (G (l 203 393749) (m (l 138 321749) 54 (x (l 118 484949) (l 116 336149)) 11 25) 32)) 63060143) (X (m (l 159 391350) 45 z 10 12))) N 100536140) (G (l 163 312151) (.qK (a (l 159 396151) 149 9) (i 0 85951) (m (l 138 331351) 50 z 11 13) 3234751) 45) (J (c .gt (m (A 313952 158 5) 93 z 5 7) (l 163 325352) 7) (T (X (m (A 314553 158 5) 96 (y (l 163 325953)) 9 15)) (X (m (A 314554 158 5) 97 z 5 7))) N 21816152))))
noncomputable def Js:Ss:=B (R (a (A 316357 159 6) 147 5))
noncomputable def Jt:Ss:=B (R (.qK (c .eq (a (A 319360 159 6) 148 7) (a (A 331960 159 6) 147 5) 19) (i 0 85960) (a (A 344560 159 6) 147 5) 4770760))
noncomputable def Ju:Ss:=W (G (l 118 465766) (m (A 317566 159 6) 46 (x (l 131 329566) (l 152 333166)) 9 21) 34) (I (c .eq (l 118 467567) (i 0 89567) 5) (B (R (o 318768))) N 11601767) (G (l 113 465769) (m (A 317569 158 5) 94 (x (b .add (m (l 138 326569) 49 (y (l 118 488569)) 9 17) (g 38 801769) 13) (A 348169 156 10)) 5 57) 69) (I (c .ne (K 143 237170 (y (l 113 469970)) 8) (A 322970 156 10) 18) (B (r (K 3 932571 (y (s 218 2245971)) 31))) N 14520170) (R (l 113 469972))
noncomputable def Jv:Ss:=B (R (m (a (A 316375 159 6) 146 7) 198 (y (l 152 329575)) 4 10))
noncomputable def Jw:Ss:=Y (J (.and (x (a (A 313981 159 6) 149 9) (c .gt (m (A 328381 158 5) 93 z 5 7) (i 0 109381) 4)) 3385981) (T (X (m (A 314582 158 5) 96 (y (i 0 95582)) 9 12)) (X (m (A 314583 158 5) 97 z 5 7))) N 21816181) (G (l 161 312184) (m (l 138 316384) 52 z 12 14) 21) (X (m (A 312185 158 5) 95 (x (i 0 91385) (l 161 323585)) 6 15)) (X (m (A 312186 158 5) 97 z 5 7)) (G (a (A 312187 159 6) 149 9) (.bool false 402187) 8) (G (a (A 312188 159 6) 116 5) (K 9 783788 (x (.slc (l 161 329588) .abs (i 24 179588) 713588 255788) (t (x (i 0 106388) (i 0 108188)) 489788)) 19) 32)
noncomputable def Jx:Ss:=H (G (l 160 312196) (K 7 700396 (y (.lst (x (l 131 322996) (l 130 403396)) 1013596)) 15) 27) (G (l 162 388997) (K 9 777797 (x (b .add (l 160 323597) (l 113 481397) 9) (l 116 332597)) 21) 34) (R (t (x (b .add (b .add (l 160 316998) (K 7 705198 (y (.lst (h (u (a (A 327798 159 6) 117 6) (i 0 107598) 3) (u (a (A 340398 159 6) 117 6) (i 1 120198) 3) (u (l 162 429798) (i 0 126198) 3) (u (l 162 435798) (i 1 132198) 3)) 4781598)) 64) 76) (l 113 520398) 9) (l 162 448398)) 7535598))
noncomputable def Jy:Ss:=C (I (n (l 164 393201)) (B (R (a (A 318802 159 6) 147 5))) N 12446601) (C (G (l 159 389003) (A 317003 159 6) 13) (C (J (a (l 159 390804) 150 7) (B (X (m (l 138 314605) 63 z 9 11))) N 11909004) (C (J (.and (x (c .gt (a (l 159 390806) 147 5) (i 0 91406) 4) (c .eq (a (l 159 402206) 148 7) (a (l 159 411806) 147 5) 14)) 3462806) (B (X (m (l 138 314607) 68 z 8 10))) N 11832206) (C (J (c .eq (a (l 159 390808) 147 5) (i 0 92008) 5) (B (X (m (l 138 314609) 62 z 11 13))) N 12062608) (C (G (l 165 542610) (K 204 471810 (y (l 164 399210)) 7) 16) (C (G (t (x (l 116 312211) (l 118 469411)) 926611) (t (x (a (l 159 398611) 116 5) (a (l 159 405811) 147 5)) 1857211) 27) (C (G (a (l 159 389012) 150 7) (.bool true 321212) 7) (Y (L (l 131 314613) (l 165 549813) (F (G (l 118 468214) (b .add (l 118 473614) (i 1 95014) 4) 13) (G (l 130 391415) (.qK (c .eq (l 131 327815) (u (l 165 563015) (.neg (i 1 107615) 183815) 4) 15) (l 151 780215) (i 0 112415) 3084215) 43) (G (t (x (l 113 468216) (l 116 319416)) 929016) (m (l 138 323616) 64 (h (l 131 334416) (K 208 414816 (y (u (l 164 418416) (l 131 345216) 6)) 13) (l 130 426816) (l 116 354216)) 13 52) 59) (X (m (A 314617 158 5) 95 (x (m (l 138 324217) 49 (y (l 118 486217)) 9 17) (l 113 491617)) 6 37))) 43781013) (X (m (A 312218 158 5) 97 z 5 7)) (L (l 131 314619) (l 165 549819) (B (X (m (l 159 391420) 43 (y (l 131 320620)) 4 10))) 11909019) (X (m (l 159 389021) 44 (x (l 151 783821) (l 116 330221)) 12 30)) (G (a (l 159 389022) 150 7) (.bool false 398022) 8) (R (a (l 159 393223) 147 5))))))))))
noncomputable def Jz:Ss:=C (G (l 159 389026) (A 317026 159 6) 13) (C (G (l 130 389027) (u (a (l 159 393827) 146 7) (l 166 324827) 6) 21) (Y (G (l 47 465828) (m (l 159 394428) 47 (x (a (l 159 402228) 148 7) (l 166 333828)) 7 27) 35) (X (m (A 312229 158 5) 97 z 5 7)) (L (l 131 314630) (K 204 473030 (y (l 47 477230)) 8) (B (J (c .le (l 131 316431) (l 130 398031) 9) (T (G (l 113 470632) (m (A 322432 158 5) 94 (x (b .add (m (l 138 331432) 49 (y (u (l 47 493432) (l 131 344032) 6)) 9 23) (g 38 810232) 13) (A 356632 156 10)) 5 63) 75) (X (m (l 158 317033) 95 (x (.bin .mul (b .sub (l 131 324233) (i 1 98033) 4) (A 331433 156 10) 2090033) (l 113 494633)) 6 43))) N 24506631)) 34334630) (J (.and (x (c .eq (l 166 314034) (a (l 159 395634) 147 5) 14) (c .gt (m (l 158 327834) 93 z 5 7) (b .mul (l 130 413034) (A 341034 156 10) 17) 25)) 4538034) (B (X (m (l 158 314635) 96 (y (b .mul (l 130 399835) (A 327835 156 10) 17)) 9 33))) N 13598634) (X (m (l 158 312236) 97 z 5 7)) (G (a (l 159 389037) 148 7) (l 166 321237) 7)))
noncomputable def JA:Ss:=C (I (c .EL (l 167 314040) (g 41 398040) 13) (B (r (K 5 855841 (y (s 219 2168641)) 30))) N 14366640) (C (G (l 159 389042) (A 317042 159 6) 13) (C (G (l 166 312243) (.qK (.or (x (c .is (l 168 401643) (o 330243) 8) (c .gt (l 168 411843) (a (l 159 416643) 147 5) 13)) 2705643) (a (l 159 393243) 147 5) (l 168 426243) 4617243) 63) (C (J (c .gt (l 166 314044) (a (l 159 395044) 148 7) 15) (B (X (m (l 138 314645) 66 (x (l 158 324245) (l 166 327845)) 11 23))) N 12830644) (C (G (t (x (l 144 465846) (l 148 470646)) 1080246) (t (x (a (l 159 399846) 147 5) (a (l 159 407046) 148 7)) 2012046) 29) (Y (I (c .eq (l 167 314047) (s 110 702847) 13) (B (R (t (v (i 0 89048) (l 144 474848) (l 148 479648)) 1470848))) N 12753847) (I (c .lt (l 148 467649) (l 144 473049) 9) (B (R (t (v (i 1 89050) (l 144 474850) (l 148 479650)) 1470850))) N 12753849) (I (c .eq (l 167 314051) (s 111 472451) 10) (B (R (t (v (i 0 89052) (l 144 474852) (l 148 479652)) 1470852))) N 12753851) (I (n (m (l 138 316453) 68 z 8 10)) (B (R (t (v (i 1 89054) (l 144 474854) (l 148 479654)) 1470854))) N 12753853) (I (c .eq (l 167 314055) (s 96 779655) 14) (W (X (m (A 314656 158 5) 96 (y (i 0 95656)) 9 12)) (X (m (A 314657 158 5) 97 z 5 7)) (G (a (l 159 391458) 149 9) (.bool true 324858) 7) (G (a (l 159 391459) 150 7) (.bool false 400459) 8) (R (t (v (i 0 89060) (i 0 90860) (i 0 92660)) 702860))) N 51307455) (R (t (v (i 0 86661) (l 144 472461) (l 148 477261)) 1468461)))))))
noncomputable def JB:Ss:=Y (G (l 159 389064) (A 317064 159 6) 13) (I (c .ne (a (l 159 390865) 148 7) (a (l 159 400465) 147 5) 14) (B (R (.bool false 395666))) N 11678665) (G (l 90 389067) (m (a (A 317067 128 5) 189 6) 90 (y (A 330267 155 5)) 6 17) 35) (L (l 170 391468) (l 90 396868) (B (I (.and (v (c .ne (l 170 393269) (l 169 398669) 9) (c .Hq (u (l 90 404669) (l 170 408269) 7) (o 339869) 12) (c .gt (u (l 90 422669) (l 170 426269) 7) (i 0 124469) 4)) 5078069) (B (R (.bool false 398070))) N 11988269)) 21816268) (I (c .gt (a (l 159 390871) 147 5) (i 0 91471) 4) (F (G (a (l 159 391472) 118 7) (b .add (a (l 159 400472) 118 7) (i 1 102272) 4) 19) (G (a (l 159 391473) 117 6) (K 10 783873 (x (a (l 159 406473) 117 6) (a (l 159 414273) 118 7)) 27) 40) (X (m (l 159 391474) 42 z 6 8)) (G (a (l 159 391475) 150 7) (.bool false 400475) 8)) N 41784271) (R (.bool true 316476))
noncomputable def JC:Ss:=H (G (A 312289 171 7) (.qL 167089) 5) (G (A 312290 172 6) (.qL 166490) 5) (G (A 312291 173 11) (.qL 169491) 5)
noncomputable def JD:Ss:=B (R (K 206 316565 (y (m (A 319565 173 11) 198 (x (l 155 331565) (.qL 181565)) 4 14)) 31))
noncomputable def JE:Ss:=W (G (A 312373 128 5) (l 128 319573) 7) (G (A 312374 155 5) (l 155 319574) 7) (G (A 312375 180 7) (.zf [] 243975) 6) (G (A 312376 181 8) (.lst z 167776) 5) (G (A 312377 182 4) (K 207 702977 z 2) 14)
noncomputable def JF:Ss:=B (R (K 143 239780 (y (A 318980 182 4)) 10))
noncomputable def JG:Ss:=B (R (K 208 393383 (y (.slc (A 320183 182 4) (l 114 171983) (b .add (l 114 173783) (l 93 330383) 7) 1702583 939983)) 24))
noncomputable def JH:Ss:=W (X (m (A 312386 128 5) 101 z 11 13)) (X (m (A 312387 128 5) 103 (x (l 138 324987) (b .add (l 114 174987) (K 143 254787 (y (l 113 487587)) 8) 14)) 11 35)) (X (m (A 312388 128 5) 102 z 5 7)) (X (m (A 312389 181 8) 197 (y (t (v (s 95 555389) (l 114 176789) (K 208 409589 (y (l 113 489989)) 8)) 2167589)) 7 37)) (X (K 17 773190 (v (A 318990 182 4) (l 114 171390) (l 113 480990)) 22))
noncomputable def JI:Ss:=W (X (m (A 312393 128 5) 101 z 11 13)) (X (m (A 312394 128 5) 103 (x (l 138 324994) (l 93 328594)) 11 23)) (X (m (A 312395 128 5) 102 z 5 7)) (X (m (A 312396 181 8) 197 (y (t (v (s 96 785796) (l 93 332196) (.zf [] 258996)) 1783596)) 7 32)) (X (K 18 773197 (x (A 318997 182 4) (l 93 324997)) 16))
noncomputable def JJ:Ss:=H (X (m (A 312400 128 5) 102 z 5 7)) (G (A 312401 180 7) (K 208 397601 (y (A 324401 182 4)) 10) 18) (G (A 312402 181 8) (.lst z 167802) 5)
noncomputable def JK:Ss:=H (G (l 184 312408) (K 207 700608 (y (A 322608 180 7)) 13) 25) (L (t (v (l 209 314809) (l 114 164809) (l 113 474409)) 1236409) (A 326809 181 8) (Y (G (l 118 468410) (m (l 165 550610) 100 z 10 12) 22) (G (l 210 238011) (b .mod (l 118 472011) (i 4 93411) 4) 13) (I (c .eq (l 210 239812) (i 0 90412) 5) (B (.cont 624413)) N 11681212) (I (c .eq (l 209 316614) (s 96 782214) 14) (T (J (c .ne (l 210 242215) (i 2 92815) 5) (B (X (K 18 780416 (x (l 184 326216) (l 114 176216)) 10))) N 12912415) (.cont 624417)) N 31342014) (J (c .eq (l 210 239818) (i 2 90418) 5) (T (G (l 221 547619) (K 191 246419 (x (i 1 95219) (.bin .fdiv (b .sub (b .add (K 143 251219 (y (l 113 484019)) 8) (l 183 490019) 9) (i 1 111419) 4) (l 183 499019) 2785019)) 41) 47) (G (l 113 470820) (.slc (l 113 476220) .abs (b .mul (b .mod (b .fdiv (l 118 481020) (i 4 103020) 5) (l 221 566220) 10) (l 183 495420) 9) 3010620 2400420) 42)) N 24583618) (J (c .ne (l 113 470221) (.zf [] 245821) 7) (B (X (K 17 778022 (v (l 184 323822) (l 114 173822) (l 113 483422)) 18))) N 13217221)) 131179609) (R (l 184 316623))
noncomputable def JL:Ss:=T (G (A 312427 165 8) (K 211 321427 (y (l 165 554827)) 9) 16) (G (A 312428 160 5) (i 0 89228) 4)
noncomputable def JM:Ss:=F (I (c .eq (A 314231 165 8) (.lst z 170231) 6) (B (R (i 0 88632))) N 11371631) (G (l 118 466033) (u (A 317833 165 8) (b .mod (A 325633 160 5) (K 143 256033 (y (A 335233 165 8)) 14) 20) 31) 46) (Q (A 312434 160 5) .add (i 1 89834) 5) (R (l 118 470235))
noncomputable def DY:Ss:=C (G (A 312439 183 7) (l 183 474439) 9) (Y (G (A 312440 185 5) (l 185 319640) 7) (G (A 312441 186 6) (.qL 166641) 5) (G (A 312442 187 6) (i 0 89842) 4) (G (A 312443 136 9) (o 322043) 7) (G (A 312444 188 7) (.qL 167244) 5) (G (A 312445 189 6) (K 13 704245 z 2) 14))
noncomputable def JN:Ss:=B (I (.and (x (c .Hq (A 314248 136 9) (o 326848) 12) (c .ge (b .add (A 332248 187 6) (i 1 109648) 4) (A 343048 136 9) 17)) 4691848) (B (r (K 6 779249 (y (s 222 555449)) 9))) N 12677248)
noncomputable def JO:Ss:=T (X (m (l 138 312452) 101 z 11 13)) (Q (A 312453 187 6) .add (i 1 90453) 5)
noncomputable def JP:Ss:=F (I (.or (x (c .is (A 314256 185 5) (o 322056) 8) (c .le (l 93 326856) (m (l 158 331656) 93 z 5 7) 15)) 3079056) (B (.ret .abs 468457)) N 11218056) (G (l 190 389258) (i 0 86858) 4) (L (l 170 391659) (m (A 320259 186 6) 212 z 7 9) (B (Q (l 190 391660) .add (m (l 170 397060) 93 z 5 7) 16)) 12370059) (I (c .gt (b .add (b .sub (l 190 391061) (m (l 158 319061) 93 z 5 7) 14) (l 93 327461) 7) (A 331661 185 5) 12) (B (r (K 4 702462 (y (s 223 862062)) 13))) N 12907661)
noncomputable def JQ:Ss:=T (I (c .EL (l 155 314268) (A 321468 186 6) 18) (B (G (u (A 314869 186 6) (l 155 321469) 6) (K 14 633469 (x (l 138 331669) (l 155 335269)) 12) 23)) N 13752468) (R (u (A 316670 186 6) (l 155 323270) 6))
noncomputable def JR:Ss:=F (G (l 165 542876) (K 15 548876 (y (l 137 553676)) 9) 19) (G (l 170 389277) (K 16 317277 (x (A 320277 183 7) (A 328077 185 5)) 24) 31) (L (l 155 314878) (K 204 473278 (y (A 323878 186 6)) 12) (F (G (l 158 314879) (m (l 170 395879) 51 (y (l 155 325679)) 5 11) 19) (G (l 184 314880) (m (u (A 319080 186 6) (l 155 325680) 6) 99 (x (l 165 565680) (A 340680 183 7)) 10 32) 51) (G (a (l 158 314881) 180 7) (K 208 400081 (y (l 184 326881)) 6) 14) (G (a (l 158 314882) 182 4) (l 184 321482) 7)) 41400478) (R (l 170 393483))
noncomputable def JS:Ss:=T (I (c .gt (l 114 158288) (K 143 238088 (y (l 119 470888)) 8) 14) (B (X (m (l 119 466089) 213 (y (K 208 397689 (y (b .sub (l 114 170889) (K 143 250689 (y (l 119 483489)) 8) 14)) 18)) 7 32))) N 13366088) (G (.slc (l 119 463690) (l 114 160690) (b .add (l 114 162490) (K 143 242290 (y (l 113 475090)) 8) 14) 2076490 1466290) (l 113 481690) 9)
noncomputable def JT:Ss:=B (I (c .lt (l 93 311892) (K 143 239292 (y (l 119 472092)) 8) 14) (B (.del (.slc (l 119 468493) (l 93 319093) .abs 1006093 395893) 1310893)) (B (I (c .gt (l 93 313094) (K 143 240494 (y (l 119 473294)) 8) 14) (B (X (m (l 119 466095) 213 (y (K 208 397695 (y (b .sub (l 93 324495) (K 143 251895 (y (l 119 484695)) 8) 14)) 20)) 7 34))) N 13519694)) 33180492)
noncomputable def JU:Ss:=H (I (c .gt (u (l 124 465505) (i 0 85705) 3) (i 0 88705) 4) (H (G (l 192 389306) (b .mod (K 214 240506 (y (u (l 124 473306) (i 0 93506) 3)) 11) (l 125 250706) 6) 23) (G (u (l 124 466107) (i 0 86307) 3) (b .fdiv (u (l 124 473307) (i 0 93507) 3) (l 125 250707) 7) 19) (R (l 192 393508))) N 31030105) (G (u (l 124 463709) (i 1 83909) 3) (b .mod (K 214 240509 (y (b .add (b .mul (u (l 124 473309) (i 1 93509) 3) (i 39373 403709) 8) (i 7 101309) 4)) 23) (i 2147483647 795509) 13) 42) (R (b .mod (K 214 237510 (y (b .fdiv (b .mod (K 214 239910 (y (b .mul (u (l 124 472710) (i 1 92910) 3) (u (l 124 479910) (i 1 100110) 3) 12)) 23) (i 2147483629 794910) 13) (i 32 188910) 6)) 47) (l 125 269310) 6))
noncomputable def JV:Ss:=B (R (u (l 126 467912) (K 20 702512 (x (l 124 478112) (K 143 252512 (y (l 126 485312)) 8)) 21) 32))
noncomputable def JW:Ss:=B (R (b .mul (K 208 391114 (y (.lst (y (l 127 395314)) 548314)) 9) (i 8 94114) 4))
noncomputable def DZ:Ss:=W (G (t (v (l 152 310116) (l 158 313716) (l 132 394116)) 1308516) (t (v (m (l 129 245916) 57 z 11 13) (m (l 128 333516) 51 (y (s 194 262716)) 5 10) (.lst z 189516)) 2933316) 41) (G (l 130 386917) (m (l 129 238117) 60 (y (l 152 322717)) 9 15) 21) (J (c .is (l 130 388718) (o 317318) 8) (B (G (l 130 389319) (b .fdiv (m (l 158 317319) 93 z 5 7) (i 8 95919) 5) 19)) N 12290918) (L (l 131 312520) (K 193 394120 (x (i 1 90520) (b .add (l 130 399520) (i 1 97120) 4)) 14) (H (G (l 113 466121) (m (l 129 241121) 59 (x (l 131 323321) (l 152 326921)) 5 17) 23) (J (c .is (l 113 467922) (o 320322) 8) (B (G (l 113 468523) (m (l 158 320323) 94 (x (b .mul (i 8 95923) (b .sub (l 131 329323) (i 1 103123) 4) 13) (i 8 105523)) 5 24) 31)) N 13598922) (X (m (l 132 389324) 197 (y (.qK (.and (x (c .ne (l 113 481724) (.zf [] 257324) 7) (c .eq (l 113 492524) (K 22 882524 (y (u (l 113 505724) (i 0 125924) 3)) 11) 26)) 3860924) (u (l 113 473924) (i 0 94124) 3) (o 361724) 5619524)) 7 82))) 46620520) (R (l 132 391125))
noncomputable def JX:Ss:=H (G (l 129 233327) (K 12 236927 (v (l 128 316127) (s 194 242927) (i 8 92327)) 14) 20) (X (m (l 129 233328) 51 z 5 7)) (R (l 129 237529))
noncomputable def JY:Ss:=F (G (t (x (l 162 386931) (l 195 544731)) 1078131) (t (x (K 211 320931 (y (l 133 400731)) 7) (.qL 175131)) 1318731) 20) (J (.and (x (c .gt (K 143 235132 (y (l 162 391132)) 7) (i 1 89332) 4) (c .eq (K 20 707332 (x (l 124 482932) (i 3 103732)) 11) (i 0 107332) 5)) 3383932) (B (X (m (l 162 389333) 215 z 4 6))) N 11292532) (L (l 134 312534) (K 193 394134 (y (b .add (i 1 90534) (K 20 707334 (x (l 124 482934) (i 2 103734)) 11) 23)) 26) (T (G (l 127 389335) (b .add (i 1 86935) (K 20 703735 (x (l 124 479335) (i 200 253735)) 13) 25) 29) (J (.or (x (c .eq (l 162 391136) (.lst z 166136) 6) (c .eq (K 20 707336 (x (l 124 482936) (i 3 103736)) 11) (i 0 107336) 5)) 3079136) (T (X (m (l 162 391737) 197 (y (l 127 399537)) 7 14)) (G (u (l 195 545338) (K 143 242938 (y (l 162 398938)) 7) 12) (K 22 865738 (y (l 127 412138)) 7) 21)) (H (G (l 114 161340) (K 20 701940 (x (l 124 477540) (K 143 251940 (y (l 162 407940)) 7)) 20) 32) (G (u (l 162 391741) (l 114 164941) 4) (l 127 398941) 8) (G (u (l 195 545342) (b .add (l 114 166142) (i 1 92342) 4) 8) (K 22 863342 (y (l 127 409742)) 7) 21)) 62674136)) 82332534) (R (t (x (l 195 545343) (l 162 397143)) 1235943))
noncomputable def D4:Ss:=H (G (l 129 233345) (K 24 851345 (y (l 128 320945)) 6) 20) (L (l 134 312546) (K 193 394146 (y (b .add (i 2 90546) (K 20 707346 (x (l 124 482946) (i 3 103746)) 11) 23)) 26) (T (J (c .eq (K 20 698347 (x (l 124 473947) (i 3 94747)) 11) (i 0 98347) 5) (H (G (l 167 314948) (K 21 626348 (x (l 124 478148) (.lst (h (s 110 713948) (s 111 490148) (s 68 725348) (s 96 808748)) 3247748)) 52) 63) (G (t (v (l 224 314949) (l 144 472149) (l 148 476949)) 1543749) (m (l 129 251949) 67 (v (m (l 128 337749) 51 (y (s 194 266949)) 5 10) (l 167 347349) (o 350949)) 11 39) 45) (I (.or (x (c .ne (l 224 316750) (i 0 91150) 5) (c .ne (l 144 478150) (l 148 484150) 10)) 2236750) (B (R (.bool false 398351))) N 11988550)) (F (G (t (x (l 195 545353) (u (l 86 320353) (i 1 92953) 3)) 1236553) (K 25 787153 (x (l 124 486553) (u (l 86 337753) (i 0 110353) 3)) 17) 30) (G (l 152 314954) (m (l 129 242354) 65 (x (l 195 560354) (K 143 258554 (y (u (l 86 337754) (i 1 110354) 3)) 9)) 14 37) 43) (G (t (x (u (l 86 314955) (i 0 87555) 3) (u (l 86 320355) (i 1 92955) 3)) 1236555) (t (x (u (l 86 326955) (i 1 99555) 3) (o 332355)) 1171155) 18) (I (.or (x (c .ne (l 152 316756) (m (l 129 244756) 56 z 10 12) 19) (c .ne (m (l 129 256156) 60 (y (l 152 340756)) 9 15) (K 143 269356 (y (u (l 86 348556) (i 0 121156) 3)) 9) 16)) 4694356) (B (R (.bool false 398357))) N 11988556)) 100459747) (I (c .ne (K 23 775158 (x (l 128 320958) (l 129 247758)) 11) (u (l 86 329358) (i 0 101958) 3) 11) (B (R (.bool false 395959))) N 11678958)) 129641346) (R (.bool true 314360))
noncomputable def D5:Ss:=C (G (l 129 233362) (K 24 851362 (y (l 128 320962)) 6) 20) (C (G (t (x (l 195 540563) (l 162 392363)) 1078163) (K 25 781163 (x (l 124 480563) (l 133 408563)) 15) 28) (Y (X (m (l 129 233364) 65 (x (l 195 551364) (K 143 249564 (y (l 162 405564)) 7)) 14 35)) (G (l 135 310165) (m (l 128 314365) 106 (y (.lst (y (i 0 92965)) 245965)) 9 14) 21) (I (c .ne (K 23 772766 (x (l 135 318566) (K 24 859766 (y (l 135 329366)) 6)) 25) (l 162 412166) 9) (B (R (.bool false 393567))) N 11369366) (X (m (l 129 233368) 67 (v (m (l 128 319168) 51 (y (s 194 248368)) 5 10) (K 21 635968 (x (l 124 487768) (.lst (x (s 111 493168) (s 96 805168)) 1567768)) 30) (o 352768)) 11 73)) (G (l 135 310169) (m (l 128 314369) 106 (y (.lst (y (i 0 92969)) 245969)) 9 14) 21) (R (.and (x (c .eq (K 23 775170 (x (l 128 320970) (l 129 247770)) 11) (l 162 406170) 9) (c .eq (K 23 796170 (x (l 135 341970) (K 24 883170 (y (l 135 352770)) 6)) 25) (l 162 435570) 9)) 6074370))))
end
theorem F5:bh w 120 2 [113,116] [] Ja [113,116,114,141,93,142] [143,39,214]:=ay w (by k_is) (by k_is) (by exact tt) (jO w fun a_ b_ c_=>.of_eq (by rfl))
theorem F6:bh w 127 2 [117,118] [] Jb [117,118] [39]:=ay w (by k_is) (by k_is) (by exact tt) (jO w fun a_ b_ c_=>.of_eq (by rfl))
theorem F7:bh w 141 1 [138] [] Jc [138] [40]:=ay w (by k_is) (by k_is) (by exact tt) (gJ w fun a_ b_=>.of_eq (by rfl))
theorem F8:bh w 148 1 [138] [] Jd [138] []:=ay w (by k_is) (by k_is) (by exact tt) (gJ w fun a_ b_=>.of_eq (by rfl))
theorem F9:bh w 155 2 [138,131] [] Je [138,131] [143]:=ay w (by k_is) (by k_is) (by exact tt) (jO w fun a_ b_ c_=>.of_eq (by rfl))
theorem F_:bh w 162 3 [138,151,116] [] Jf [138,151,116] [143]:=ay w (by k_is) (by k_is) (by exact tt) (jP w fun a_ b_ c_ d_=>.of_eq (by rfl))
theorem Ga:bh w 169 1 [138] [] Jg [138,131,153] [143]:=ay w (by k_is) (by k_is) (by exact tt) (gJ w fun a_ b_=>.of_eq (by rfl))
theorem Gb:bh w 176 3 [138,131,152] [] Jh [138,131,152,200,199,201,153] [143]:=ay w (by k_is) (by k_is) (by exact tt) (jP w fun a_ b_ c_ d_=>.of_eq (by rfl))
theorem Gd:bh w 183 3 [138,154,152] [] Ji [138,154,152,132,118] [193]:=ay w (by k_is) (by k_is) (by exact tt) (jP w fun a_ b_ c_ d_=>.of_eq (by rfl))
theorem Ge:bh w 204 4 [138,128,155,156] [] Jj [138,128,155,156] []:=ay w (by k_is) (by k_is) (by exact tt) (I9 w fun a_ b_ c_ d_ e_=>.of_eq (by rfl))
theorem Gf:bh w 211 1 [138] [] Jk [138] [38]:=ay w (by k_is) (by k_is) (by exact tt) (gJ w fun a_ b_=>.of_eq (by rfl))
theorem Gg:bh w 218 2 [138,118] [] Jl [138,118] [37]:=ay w (by k_is) (by k_is) (by exact tt) (jO w fun a_ b_ c_=>.of_eq (by rfl))
theorem Gh:bh w 225 1 [138] [] Jm [138] []:=ay w (by k_is) (by k_is) (by exact tt) (gJ w fun a_ b_=>.of_eq (by rfl))
theorem rq:bh w 232 1 [138] [] Jn [138] [11]:=ay w (by k_is) (by k_is) (by exact tt) (gJ w fun a_ b_=>.of_eq (by rfl))
theorem Gi:bh w 239 1 [138] [] Jo [138,160] [7,35,36,9]:=ay w (by k_is) (by k_is) (by exact tt) (gJ w fun a_ b_=>.of_eq (by rfl))
theorem Ay:bh w 246 1 [138] [] Jp [138,161,116,112] [37,8,9,143,35,36,3]:=ay w (by k_is) (by k_is) (by exact tt) (gJ w fun a_ b_=>.of_eq (by rfl))
theorem Gj:bh w 253 3 [138,118,116] [] Jq [138,118,116,162,113,112] [8,9,143,38]:=ay w (by k_is) (by k_is) (by exact tt) (jP w fun a_ b_ c_ d_=>.of_eq (by rfl))
theorem Az:bh w 260 1 [138] [] Jr [138,130,203,159,163,118,131,116] [40]:=ay w (by k_is) (by k_is) (by exact tt) (gJ w fun a_ b_=>.of_eq (by rfl))
theorem Gk:bh w 267 1 [138] [] Js [138] []:=ay w (by k_is) (by k_is) (by exact tt) (gJ w fun a_ b_=>.of_eq (by rfl))
theorem Gl:bh w 274 1 [138] [] Jt [138] []:=ay w (by k_is) (by k_is) (by exact tt) (gJ w fun a_ b_=>.of_eq (by rfl))
theorem AA:bh w 288 3 [138,131,152] [] Ju [138,131,152,118,113] [38,143,3]:=ay w (by k_is) (by k_is) (by exact tt) (jP w fun a_ b_ c_ d_=>.of_eq (by rfl))
theorem Gm:bh w 295 2 [138,152] [] Jv [138,152] []:=ay w (by k_is) (by k_is) (by exact tt) (jO w fun a_ b_ c_=>.of_eq (by rfl))
theorem Gn:bh w 309 1 [138] [] Jw [138,161] [9]:=ay w (by k_is) (by k_is) (by exact tt) (gJ w fun a_ b_=>.of_eq (by rfl))
theorem Gp:bh w 323 5 [138,131,113,130,116] [] Jx [138,131,113,130,116,162,160] [7,9]:=ay w (by k_is) (by k_is) (by exact tt) (MU w fun a_ b_ c_ d_ e_ f_=>.of_eq (by rfl))
theorem Gq:bh w 330 3 [138,164,151] [] Jy [138,164,151,130,159,118,165,113,131,116] [204,208]:=ay w (by k_is) (by k_is) (by exact tt) (jP w fun a_ b_ c_ d_=>.of_eq (by rfl))
theorem Gr:bh w 337 3 [138,158,166] [] Jz [138,158,166,130,159,47,113,131] [204,38]:=ay w (by k_is) (by k_is) (by exact tt) (jP w fun a_ b_ c_ d_=>.of_eq (by rfl))
theorem rt:bh w 344 4 [138,158,167,168] [] JA [138,158,167,168,148,144,159,166] [41,5]:=ay w (by k_is) (by k_is) (by exact tt) (I9 w fun a_ b_ c_ d_ e_=>.of_eq (by rfl))
theorem AB:bh w 352 1 [138,169] [.none] JB [138,169,159,90,170] [10]:=ay w (by k_is) (by k_is) (by exact tt) (MV w fun a_ X b_=>binds_K X (by rfl) (by k_is) (by rfl) (by rfl) (by rfl))
theorem Gs:bh w 380 1 [138] [] JC [138] []:=ay w (by k_is) (by k_is) (by exact tt) (gJ w fun a_ b_=>.of_eq (by rfl))
theorem Gu:bh w 487 2 [138,155] [] JD [138,155] [206]:=ay w (by k_is) (by k_is) (by exact tt) (jO w fun a_ b_ c_=>.of_eq (by rfl))
theorem Gv:bh w 515 3 [138,128,155] [] JE [138,128,155] [207]:=ay w (by k_is) (by k_is) (by exact tt) (jP w fun a_ b_ c_ d_=>.of_eq (by rfl))
theorem Gw:bh w 522 1 [138] [] JF [138] [143]:=ay w (by k_is) (by k_is) (by exact tt) (gJ w fun a_ b_=>.of_eq (by rfl))
theorem Gx:bh w 529 3 [138,114,93] [] JG [138,114,93] [208]:=ay w (by k_is) (by k_is) (by exact tt) (jP w fun a_ b_ c_ d_=>.of_eq (by rfl))
theorem Gy:bh w 536 3 [138,114,113] [] JH [138,114,113] [17,143,208]:=ay w (by k_is) (by k_is) (by exact tt) (jP w fun a_ b_ c_ d_=>.of_eq (by rfl))
theorem Gz:bh w 543 2 [138,93] [] JI [138,93] [18]:=ay w (by k_is) (by k_is) (by exact tt) (jO w fun a_ b_ c_=>.of_eq (by rfl))
theorem GA:bh w 550 1 [138] [] JJ [138] [208]:=ay w (by k_is) (by k_is) (by exact tt) (gJ w fun a_ b_=>.of_eq (by rfl))
theorem GB:bh w 564 3 [138,165,183] [] JK [138,165,183,114,184,118,113,221,210,209] [207,191,17,18,143]:=ay w (by k_is) (by k_is) (by exact tt) (jP w fun a_ b_ c_ d_=>.of_eq (by rfl))
theorem GC:bh w 585 2 [138,165] [] JL [138,165] [211]:=ay w (by k_is) (by k_is) (by exact tt) (jO w fun a_ b_ c_=>.of_eq (by rfl))
theorem GD:bh w 592 1 [138] [] JM [138,118] [143]:=ay w (by k_is) (by k_is) (by exact tt) (gJ w fun a_ b_=>.of_eq (by rfl))
theorem AD:bh w 614 2 [138,183,185] [.none] DY [138,183,185] [13]:=ay w (by k_is) (by k_is) (by exact tt) (I_ w fun a_ X b_ c_=>binds_K X (by rfl) (by k_is) (by rfl) (by rfl) (by rfl))
theorem AE:bh w 614 3 [138,183,185] [] DY [138,183,185] [13]:=ay w (by k_is) (by k_is) (by exact tt) (I' w fun a_ X b_ c_ d_=>binds_K X (by rfl) (by k_is) (by rfl) (by rfl) (by rfl))
theorem GF:bh w 621 1 [138] [] JN [138] [6]:=ay w (by k_is) (by k_is) (by exact tt) (gJ w fun a_ b_=>.of_eq (by rfl))
theorem GH:bh w 628 1 [138] [] JO [138] []:=ay w (by k_is) (by k_is) (by exact tt) (gJ w fun a_ b_=>.of_eq (by rfl))
theorem GI:bh w 635 3 [138,158,93] [] JP [138,158,93,170,190] [4]:=ay w (by k_is) (by k_is) (by exact tt) (jP w fun a_ b_ c_ d_=>.of_eq (by rfl))
theorem iL:bh w 649 2 [138,155] [] JQ [138,155] [14]:=ay w (by k_is) (by k_is) (by exact tt) (jO w fun a_ b_ c_=>.of_eq (by rfl))
theorem uX:bh w 663 2 [138,137] [] JR [138,137,158,184,155,165,170] [15,16,204,208]:=ay w (by k_is) (by k_is) (by exact tt) (jO w fun a_ b_ c_=>.of_eq (by rfl))
theorem GJ:bh w 684 3 [119,114,113] [] JS [119,114,113] [143,208]:=ay w (by k_is) (by k_is) (by exact tt) (jP w fun a_ b_ c_ d_=>.of_eq (by rfl))
theorem GK:bh w 691 2 [119,93] [] JT [119,93] [143,208]:=ay w (by k_is) (by k_is) (by exact tt) (jO w fun a_ b_ c_=>.of_eq (by rfl))
theorem GL:bh w 705 2 [124,125] [] JU [124,125,192] [214]:=ay w (by k_is) (by k_is) (by exact tt) (jO w fun a_ b_ c_=>.of_eq (by rfl))
theorem AF:bh w 712 2 [124,126] [] JV [124,126] [20,143]:=ay w (by k_is) (by k_is) (by exact tt) (jO w fun a_ b_ c_=>.of_eq (by rfl))
theorem GN:bh w 719 1 [127] [] JW [127] [208]:=ay w (by k_is) (by k_is) (by exact tt) (gJ w fun a_ b_=>.of_eq (by rfl))
theorem lQ:bh w 726 2 [128,129] [] DZ [128,129,130,158,132,152,113,131] [193,22]:=ay w (by k_is) (by k_is) (by exact tt) (jO w fun a_ b_ c_=>.of_eq (by rfl))
theorem ru:bh w 733 1 [128] [] JX [128,129] [12]:=ay w (by k_is) (by k_is) (by exact tt) (gJ w fun a_ b_=>.of_eq (by rfl))
theorem GO:bh w 740 2 [124,133] [] JY [124,133,114,195,162,134,127] [193,211,143,20,22]:=ay w (by k_is) (by k_is) (by exact tt) (jO w fun a_ b_ c_=>.of_eq (by rfl))
theorem GP:bh w 747 3 [128,124,86] [] D4 [128,124,86,224,195,148,144,167,152,134,129] [24,193,20,21,25,23,143]:=ay w (by k_is) (by k_is) (by exact tt) (jP w fun a_ b_ c_ d_=>.of_eq (by rfl))
theorem GQ:bh w 754 3 [128,124,133] [] D5 [128,124,133,135,195,162,129] [24,25,143,23,21]:=ay w (by k_is) (by k_is) (by exact tt) (jP w fun a_ b_ c_ d_=>.of_eq (by rfl))
end
set_option tactic.hygienic false
section
variable{w:World}
noncomputable def pick(cs:List O):List Nat→List O
 |[]=>[]
 |i::is=>(match cs[i]? with|some o=>o|none=>.dead)::pick cs is
noncomputable def jQ:List V→Option (List Int)
 |[]=>some []
 |v::l=>match v with
  |.int i=>(match jQ l with|some is=>some (i::is)|none=>none)
  |_=>none
theorem yj:∀{vs:List V} {l:List Int},jQ vs=some l→vs=l.map .int:=by
 intro X_;induction X_ with
 |nil=>intro l h;exact by have q_:=bf h;clear h;subst q_;rfl
 |cons v vs cD=>
  intro l h;induction v using V.casesOn with
  |int i=>
   have h:(match jQ vs with|some is=>some (i::is)|none=>none)=some l:=h;generalize q:jQ vs=y_ at h⊢;induction y_ with
   |none=>exact nS h
   |some is=>have q_:=bf h;clear h;subst q_;refine(cD q).symm▸?_;rfl
  |_=>exact nS h
noncomputable def O.cv(a b:O):O:=match b with
 |.d0=>(match a with|.eN _=>.eN []|.gf _=>.gf []|.dS _=>.dS []|.rows _ _=>.rows [] none|_=>.d0)
 |.list vs=>(match a with
  |.ints _=>(match jQ vs with|some l=>.ints l|none=>.list vs)
  |.opts _=>(match vs with|[]=>.opts []|v::l=>.list (v::l))
  |.ops _=>(match vs with|[]=>.ops []|v::l=>.list (v::l))
  |_=>.list vs)
 |b=>b
noncomputable def mask:List O→List O→List O
 |[],l=>l
 |o::os,l=>(match l with
  |[]=>[]
  |o1::l=>(match o.isDead with|true=>.dead|false=>o.cv o1)::mask os l)
theorem zh.c6(o:O):zh o o:=by induction o<;>first|trivial|rfl|exact rfl
theorem JZ{a b:O}(h:a.eP κ=a.cv b):zh (a.eP κ) b:=by
 induction b with
 |d0=>induction a<;>first|(refine h.symm▸?_;exact rfl)|(refine h.symm▸?_;exact trivial)|(refine h.symm▸?_;exact⟨rfl,rfl⟩)
 |list vs=>
  induction a with
  |«ints» l=>
   have h:O.ints l=(match jQ vs with|some l=>.ints l|none=>.list vs):=h;generalize q:jQ vs=y_ at h⊢;induction y_ with
   |none=>exact O.noConfusion h
   |some l'=>cases h;exact yj q
  |opts l=>induction vs using List.casesOn with
   |nil=>refine h.symm▸?_;exact rfl
   |cons v l=>refine h.symm▸?_;exact zh.c6 _
  |ops l=>induction vs using List.casesOn with
   |nil=>refine h.symm▸?_;exact rfl
   |cons v l=>refine h.symm▸?_;exact zh.c6 _
  |_=>refine h.symm▸?_;exact zh.c6 _
 |_=>refine h.symm▸?_;exact zh.c6 _
theorem lR:∀{is:List Nat} {os:List O},iD eT os=mask os (pick cs is)→vT eT cs is os:=by
 intro is;induction is with
 |nil=>
  intro os h;induction os using List.casesOn with
  |nil=>trivial
  |cons o os=>cases h
 |cons i is ih=>
  intro os h;induction os using List.casesOn with
  |nil=>cases h
  |cons o os=>
   have h:o.eP eT::iD eT os=(match o.isDead with|true=>O.dead|false=>o.cv (match cs[i]? with|some o=>o|none=>O.dead))::mask os (pick cs is):=h;obtain⟨h1,h2⟩:=List.cons.inj h;refine⟨?_,ih h2⟩;generalize hd:o.isDead=y_ at h1⊢;induction y_ with
   |true=>
    have q_:=lK hd;clear h h1 hd;subst q_;cases cs[i]? with
    |none=>rfl
    |some o=>trivial
   |false=>
    generalize q:cs[i]?=y_ at h1⊢;induction y_ with
    |none=>have h1:o.eP eT=.dead:=h1;exact sQ h1
    |some o1=>exact JZ h1
noncomputable def cellAt(eT:List Nat):List Nat→List O→List O→Nat→O→O
 |[],_,_,_,o=>o
 |i::is,ps,qs,j,o=>match ps with
  |[]=>o
  |p::ps=>(match Nat.beq i j with
   |true=>(match qs with
    |[]=>(match p.isDead with|true=>o|false=>.dead)
    |q::_=>(match q.isDead with|true=>(match p.isDead with|true=>o|false=>.dead)|false=>q.eP eT))
   |false=>(match qs with
    |[]=>cellAt eT is ps [] j o
    |_::qs=>cellAt eT is ps qs j o))
noncomputable def wA(eT κ:List Nat)(pre qs:List O):Nat→List O→List O
 |_,[]=>[]
 |j,o::l=>cellAt eT κ pre qs j o::wA eT κ pre qs (j+1) l
theorem p6:∀{l:List O} {j m:Nat},(wA eT κ pre qs j l)[m]?=l[m]?.map (cellAt eT κ pre qs (j+m))
 |[],_,_=>rfl
 |o::l,j,0=>rfl
 |o::l,j,m+1=>by refine(?_:(cellAt eT κ pre qs j o::wA eT κ pre qs (j+1) l)[m+1]?=_);rw[List.getElem?_cons_succ,List.getElem?_cons_succ,p6,show j+1+m=j+(m+1) by exact bo (fo 406340700146064 rfl) (fo 306804838994064 rfl)]
theorem AG:∀{is:List Nat} {cs:List O},i∉is→kill (cs.set i o) is ps=(kill cs is ps).set i o:=by
 induction ps with
 |nil=>intro is cs _;induction is using List.casesOn<;>rfl
 |cons p ps ih=>
  intro is cs hi;induction is using List.casesOn with
  |nil=>rfl
  |cons k is=>
   rw[bD,not_or]at hi;refine(?_:(match p.isDead with|true=>kill (cs.set i o) is ps|false=>kill ((cs.set i o).set k .dead) is ps)=(match p.isDead with|true=>kill cs is ps|false=>kill (cs.set k .dead) is ps).set i o);cases p.isDead with
   |true=>exact ih hi.2
   |false=>refine(?_:kill ((cs.set i o).set k .dead) is ps=_);refine(List.set_comm _ _ hi.1).symm▸?_;exact ih hi.2
theorem jR:∀{is:List Nat} {ps qs:List O},j∉is→cellAt eT is ps qs j o=o:=by
 intro is;induction is with
 |nil=>intro ps qs _;rfl
 |cons i is ih=>
  intro ps qs h;rw[bD,not_or]at h;induction ps using List.casesOn with
  |nil=>rfl
  |cons p ps=>
   have e:Nat.beq i j=false:=by
    generalize q:Nat.beq i j=y_;induction y_ with
    |false=>rfl
    |true=>exact absurd (cY q).symm h.1
   refine(?_:(match Nat.beq i j with|true=>_|false=>(match qs with|[]=>cellAt eT is ps [] j o|_::qs=>cellAt eT is ps qs j o))=o);refine e.symm▸?_;induction qs using List.casesOn with
   |nil=>exact ih h.2
   |cons q qs=>exact ih h.2
theorem uY(h:i≠j):Nat.beq i j=false:=by
 generalize q:Nat.beq i j=y_;induction y_ with
 |false=>rfl
 |true=>exact absurd (cY q) h
theorem uZ:putAll eT cs [] l=cs:=by induction l using List.casesOn<;>rfl
theorem u2{p o:O}:cellAt eT (i::is) (p::ps) [] j o=(match Nat.beq i j with|true=>(match p.isDead with|true=>o|false=>.dead)|false=>cellAt eT is ps [] j o):=rfl
theorem iM{p q o:O}:cellAt eT (i::is) (p::ps) (q::qs) j o=(match Nat.beq i j with|true=>(match q.isDead with|true=>(match p.isDead with|true=>o|false=>.dead)|false=>q.eP eT)|false=>cellAt eT is ps qs j o):=rfl
theorem AH{is:List Nat}:∀{k:Nat} {cs ps qs:List O} {j:Nat},bW is=true→is.length=ps.length→(putAll eT (kill cs is ps) (is.take k) (qs.take k))[j]?=cs[j]?.map (cellAt eT is ps (qs.take k) j):=by
 induction is with
 |nil=>intro k cs ps qs j _ hl;induction ps using List.casesOn with
  |nil=>refine List.take_nil.symm▸?_;refine uZ.symm▸?_;refine(?_:cs[j]?=_);cases cs[j]?<;>rfl
  |cons _ _=>cases hl
 |cons i is ih=>
  intro k cs ps qs j hn hl;obtain⟨hi,hn⟩:=mu hn;induction ps using List.casesOn with
  |nil=>cases hl
  |cons p ps=>
  have hl:=Nat.succ.inj hl
  have wB:∀(c1:List O),(∀(j:Nat) (o:O),cs[j]?=some o→c1[j]?=some (match Nat.beq i j with|true=>(match p.isDead with|true=>o|false=>.dead)|false=>o))→(cs[j]?=none→c1[j]?=none)→kill cs (i::is) (p::ps)=kill c1 is ps→
   (kill cs (i::is) (p::ps))[j]?=cs[j]?.map (cellAt eT (i::is) (p::ps) [] j):=fun c1 h1 h2 h3=>by
   refine h3.symm▸?_;have:=ih (k:=0) (cs:=c1) (ps:=ps) (qs:=[]) (j:=j) hn hl;rw[List.take_zero,List.take_nil]at this;have this:(kill c1 is ps)[j]?=c1[j]?.map (cellAt eT is ps [] j):=this;refine this.symm▸?_;generalize q:cs[j]?=y_;induction y_ with
   |none=>refine(h2 q).symm▸?_;rfl
   |some o=>
    refine(h1 j o q).symm▸((?_:some _=some _));congr 1;refine u2.symm▸?_;generalize e:Nat.beq i j=y_;induction y_ with
    |true=>have:=cY e;clear e h2 q;subst this;exact jR hi
    |false=>rfl
  have kz:∃c1:List O,(∀(j:Nat) (o:O),cs[j]?=some o→c1[j]?=some (match Nat.beq i j with|true=>(match p.isDead with|true=>o|false=>.dead)|false=>o))∧(∀j:Nat,cs[j]?=none→c1[j]?=none)∧kill cs (i::is) (p::ps)=kill c1 is ps:=by
   generalize hd:p.isDead=y_;induction y_ with
   |true=>exact bY cs (fun j o h=>by refine h.symm▸?_;cases Nat.beq i j<;>rfl) (fun a_ h=>h) (by refine(?_:(match p.isDead with|true=>kill cs is ps|false=>_)=_);exact hd.symm▸rfl)
   |false=>
    refine bY (cs.set i .dead) (fun j o h=>?_) (fun j h=>?_) (by refine(?_:(match p.isDead with|true=>_|false=>kill (cs.set i .dead) is ps)=_);exact hd.symm▸rfl)
    ·by_cases e:i=j
     ·subst e;rw[Nat.beq_refl,List.getElem?_set_self (dX.mp h).1]
     ·refine(uY e).symm▸?_;refine(List.getElem?_set_ne e).symm▸?_;exact h
    ·rw[List.getElem?_eq_none_iff]at h⊢;refine List.length_set.symm▸?_;exact h
  refine cg kz fun c1 z1 z2 z3=>?_;induction k using Nat.casesAuxOn with
  |zero=>refine List.take_zero.symm▸?_;refine List.take_zero.symm▸?_;exact wB c1 z1 (z2 j) z3
  |succ k=>
   induction qs using List.casesOn with
   |nil=>refine List.take_nil.symm▸?_;exact wB c1 z1 (z2 j) z3
   |cons q qs=>
    refine List.take_succ_cons.symm▸?_;refine List.take_succ_cons.symm▸?_;refine z3.symm▸?_;generalize hq:q.isDead=y_;induction y_ with
    |true=>
     have e1:putAll eT (kill c1 is ps) (i::is.take k) (q::qs.take k)=putAll eT (kill c1 is ps) (is.take k) (qs.take k):=by refine(?_:(match q.isDead with|true=>_|false=>_)=_);exact hq.symm▸rfl
     refine e1.symm▸?_;refine(ih hn hl).symm▸?_;generalize qj:cs[j]?=y_;induction y_ with
     |none=>refine(z2 j qj).symm▸?_;rfl
     |some o=>
      refine(z1 j o qj).symm▸((?_:some _=some _));congr 1;refine iM.symm▸?_;refine hq.symm▸?_;generalize e:Nat.beq i j=y_;induction y_ with
      |true=>have:=cY e;clear e wB qj;subst this;exact jR hi
      |false=>rfl
    |false=>
     have e1:putAll eT (kill c1 is ps) (i::is.take k) (q::qs.take k)=putAll eT (kill (c1.set i (q.eP eT)) is ps) (is.take k) (qs.take k):=by refine(?_:(match q.isDead with|true=>_|false=>putAll eT ((kill c1 is ps).set i (q.eP eT)) (is.take k) (qs.take k))=_);refine hq.symm▸?_;exact(AG hi).symm▸rfl
     refine e1.symm▸?_;refine(ih hn hl).symm▸?_;generalize qj:cs[j]?=y_;induction y_ with
     |none=>have:=z2 j qj;rw[List.getElem?_eq_none_iff]at this;rw[List.getElem?_eq_none (by refine List.length_set.symm▸?_;exact this)];rfl
     |some o=>
      by_cases e:i=j
      ·clear wB;subst e;have:=(dX.mp (z1 i o qj)).1;refine(List.getElem?_set_self this).symm▸?_;refine(?_:some _=some _);congr 1;refine(jR hi).symm▸?_;rw[iM,hq,Nat.beq_refl]
      ·refine(List.getElem?_set_ne e).symm▸?_;refine(z1 j o qj).symm▸?_;refine(uY e).symm▸((?_:some _=some _));congr 1;refine iM.symm▸?_;exact(uY e).symm▸rfl
noncomputable def jB(σ:St)(eT κ:List Nat)(k:Nat)(pre cs':List O):St:=⟨σ.vars,wA eT κ pre (cs'.take k) 0 σ.cs++iD eT (cs'.drop k)⟩
theorem back_eq{σ:St}{κ:List Nat}{pre cs':List O}(hn:bW κ=true)(hl:κ.length=pre.length):back σ κ k pre cs'=jB σ (bN κ k σ.cs.length cs') κ k pre cs':=by unfold back jB;congr 2;refine List.ext_getElem? fun j=>?_;rw[AH hn hl,p6,Nat.zero_add]
theorem wC:∀{is:List Nat} {os:List O},vT eT cs is os→is.length=os.length:=by
 intro is;induction is with
 |nil=>intro os h;induction os using List.casesOn with|nil=>rfl|cons _ _=>exact h.elim
 |cons i is ih=>intro os h;induction os using List.casesOn with|nil=>exact h.elim|cons o os=>refine cB.symm▸?_;refine cB.symm▸?_;exact(ih h.2).symm▸rfl
noncomputable def Lh:List Nat→List Nat→Bool
 |[],l=>(match l with|[]=>true|_::_=>false)
 |a::as,l=>(match l with|[]=>false|b::bs=>Nat.beq a b&&Lh as bs)
theorem AI:∀{l m:List Nat},Lh l m=true→l=m
 |[],[],_=>rfl
 |[],_::_,h=>nomatch h
 |_::_,[],h=>nomatch h
 |a::as,b::bs,h=>by obtain⟨h1,h2⟩:=bE (show(Nat.beq a b&&Lh as bs)=true from h);refine(cY h1).symm▸?_;exact(AI h2).symm▸rfl
noncomputable def wD(κ:List Nat)(k n:Nat)(cs':List O)(eT:List Nat):Bool:=Lh (bN κ k n cs') eT
theorem n6(h:wD κ k n cs' eT=true):bN κ k n cs'=eT:=AI h
theorem call_of{X:St→Prop}{σ:St}{Q:V→St→Prop}{Qc:V→List O→Prop}{Xc:List O→Prop}(C:aF w f ph k eA pre Qc Xc)(κ:List Nat)(h1:(Nat.ble (ph+8) lv&&(bW κ&&(Nat.ble k κ.length&&(κ.take k).all (fun i=>Nat.blt i σ.cs.length))))=true)(h2:km κ eA=args)(h3:iD κ pre=mask pre (pick σ.cs κ))(hq:∀r cs',Qc r cs'→Q (r.eP (bN κ k σ.cs.length cs')) (jB σ (bN κ k σ.cs.length cs') κ k pre cs'))(hx:∀cs',Xc cs'→X (jB σ (bN κ k σ.cs.length cs') κ k pre cs')):cM w lv X f args σ Q:=by obtain⟨a,h1⟩:=bE h1;obtain⟨b,h1⟩:=bE h1;obtain⟨c,d⟩:=bE h1;have m:=lR h3;exact⟨(b9 ph k κ eA (aR pre Qc Xc C a b (jj c d h2 m (fun r cs' h=>by refine(back_eq b (wC m)).symm▸?_;exact hq r cs' h) (fun cs' h=>by refine(back_eq b (wC m)).symm▸?_;exact hx cs' h))))⟩
theorem ae{X:St→Prop}{σ:St}{Q:V→St→Prop}{r0:V}(C:aF w f ph k eA pre (dT r0 J0) dk)(κ:List Nat)(h1:(Nat.ble (ph+8) lv&&(bW κ&&(Nat.ble k κ.length&&(κ.take k).all (fun i=>Nat.blt i σ.cs.length))))=true)(h2:km κ eA=args)(h3:iD κ pre=mask pre (pick σ.cs κ))(eT:List Nat)(MW:wD κ k σ.cs.length J0 eT=true)(hq:Q (r0.eP eT) (jB σ eT κ k pre J0)):cM w lv X f args σ Q:=call_of C κ h1 h2 h3 (fun r cs' h=>by refine h.1.symm▸?_;refine h.2.symm▸?_;refine(n6 MW).symm▸?_;exact hq) (fun a_ h=>h.elim)
theorem cI{X:St→Prop}{σ:St}{Q:V→St→Prop}{r0:V}(C:aF w f ph k eA pre (dT r0 J0) (Ht p NW))(κ:List Nat)(h1:(Nat.ble (ph+8) lv&&(bW κ&&(Nat.ble k κ.length&&(κ.take k).all (fun i=>Nat.blt i σ.cs.length))))=true)(h2:km κ eA=args)(h3:iD κ pre=mask pre (pick σ.cs κ))(eT NX:List Nat)(MW:wD κ k σ.cs.length J0 eT=true)(MX:wD κ k σ.cs.length NW NX=true)(hq:Q (r0.eP eT) (jB σ eT κ k pre J0))(hx:p→X (jB σ NX κ k pre NW)):cM w lv X f args σ Q:=call_of C κ h1 h2 h3 (fun r cs' h=>by refine h.1.symm▸?_;refine h.2.symm▸?_;refine(n6 MW).symm▸?_;exact hq) (fun a_ h=>by refine h.2.symm▸?_;refine(n6 MX).symm▸?_;exact hx h.1)
theorem jS:∀{cs:List O},cs.all O.cG=true→eD cs:=by
 intro X_;induction X_ with
 |nil=>intro _;exact trivial
 |cons o cs cD=>
  intro h;obtain⟨h1,h2⟩:=bE (show(o.cG&&cs.all O.cG)=true from h);refine⟨?_,cD h2⟩;induction o with
  |rows l hh=>induction hh with
   |none=>trivial
   |some p=>exact fT h1
  |_=>trivial
theorem iN:∀{l:List O} {r:Nat},l.all O.cG=true→foldFrom cs r l=cs:=by
 intro X_;induction X_ with
 |nil=>intro _ _;exact rfl
 |cons o l cD=>
  intro r h;obtain⟨h1,h2⟩:=bE (show(o.cG&&l.all O.cG)=true from h);have ih:=cD (r:=r+1) h2;induction o with
  |rows l hh=>induction hh with
   |none=>exact ih
   |some p=>exact fT h1
  |_=>exact ih
noncomputable def my:List Nat→List Nat→Bool
 |_,[]=>true
 |κ,i::is=>(match κ[i]? with|some j=>Nat.beq i j|none=>false)&&my κ is
theorem iO:∀{l:List Nat},my κ l=true→nF κ l:=by
 intro X_;induction X_ with
 |nil=>intro _;exact trivial
 |cons i is cD=>
  intro h;obtain⟨h1,h2⟩:=bE h;refine⟨?_,cD h2⟩;generalize q:κ[i]?=y_ at h1⊢;induction y_ with
  |none=>exact fT h1
  |some j=>exact(cY h1).symm▸rfl
theorem au{Q:V→List O→Prop}{v v':V}{σ:St}{cs':List O}(κ:List Nat)(hQ:Q v' cs')(hv:v'.eP κ=v)(h3:iD κ cs'=mask cs' (pick σ.cs κ))(h1:(bW κ&&(my κ (List.range k)&&(σ.cs.all O.cG&&cs'.all O.cG)))=true):Au k Q v σ:=by obtain⟨a,h1⟩:=bE h1;obtain⟨b,h1⟩:=bE h1;obtain⟨c,d⟩:=bE h1;refine aR κ v' cs' a (jS c) (iO b) (cZ hv.symm ?_ d hQ);unfold eC;refine(iN c).symm▸?_;exact lR h3
theorem kJ{Q:V→List O→Prop}{v v':V}{σ:St}{cs':List O}(κ:List Nat)(hQ:Q v' cs')(hv:v'.eP κ=v)(hh:eD σ.cs)(h3:iD κ cs'=mask cs' (pick (eC σ.cs) κ))(h1:(bW κ&&(my κ (List.range k)&&cs'.all O.cG))=true):Au k Q v σ:=by obtain⟨a,h1⟩:=bE h1;obtain⟨b,d⟩:=bE h1;exact aR κ v' cs' a hh (iO b) (cZ hv.symm (lR h3) d hQ)
theorem bJ{X:List O→Prop}{σ:St}{cs':List O}(κ:List Nat)(hX:X cs')(h3:iD κ cs'=mask cs' (pick σ.cs κ))(h1:(bW κ&&(my κ (List.range k)&&(σ.cs.all O.cG&&cs'.all O.cG)))=true):Av k X σ:=by obtain⟨a,h1⟩:=bE h1;obtain⟨b,h1⟩:=bE h1;obtain⟨c,d⟩:=bE h1;refine fk κ cs' a (jS c) (iO b) ?_ d hX;unfold eC;refine(iN c).symm▸?_;exact lR h3
end
set_option tactic.hygienic true
def El(Qc:V→List O→Prop)(S:(V→List O→Prop)→Prop):Prop:=∀T,S T→∀r cs',Qc r cs'→T r cs'
def Li(Xc:List O→Prop)(S:(List O→Prop)→Prop):Prop:=∀T,S T→∀cs',Xc cs'→T cs'
section
variable{w:World}
theorem aW{X:St→Prop}{σ:St}{Q:V→St→Prop}{Qc:V→List O→Prop}{S:(V→List O→Prop)→Prop}(E:El Qc S)(C:aF w f ph k eA pre Qc (fun a_=>False))(κ:List Nat)(h1:(Nat.ble (ph+8) lv&&(bW κ&&(Nat.ble k κ.length&&(κ.take k).all (fun i=>Nat.blt i σ.cs.length))))=true)(h2:km κ eA=args)(h3:iD κ pre=mask pre (pick σ.cs κ))(hq:S fun r cs'=>Q (r.eP (bN κ k σ.cs.length cs')) (jB σ (bN κ k σ.cs.length cs') κ k pre cs')):cM w lv X f args σ Q:=call_of C κ h1 h2 h3 (E _ hq) fun a_ h=>h.elim
theorem i'{X:St→Prop}{σ:St}{Q:V→St→Prop}{Qc:V→List O→Prop}{Xc:List O→Prop}{S:(V→List O→Prop)→Prop}{Sx:(List O→Prop)→Prop}(E:El Qc S)(Ex:Li Xc Sx)(C:aF w f ph k eA pre Qc Xc)(κ:List Nat)(h1:(Nat.ble (ph+8) lv&&(bW κ&&(Nat.ble k κ.length&&(κ.take k).all (fun i=>Nat.blt i σ.cs.length))))=true)(h2:km κ eA=args)(h3:iD κ pre=mask pre (pick σ.cs κ))(hq:S fun r cs'=>Q (r.eP (bN κ k σ.cs.length cs')) (jB σ (bN κ k σ.cs.length cs') κ k pre cs'))(hx:Sx fun cs'=>X (jB σ (bN κ k σ.cs.length cs') κ k pre cs')):cM w lv X f args σ Q:=call_of C κ h1 h2 h3 (E _ hq) (Ex _ hx)
end
theorem fF:El (fun r cs'=>∃k x' y',0≤k∧k<top∧r=.int k∧cs'=[.ints [x',y']]) fun T=>∀k x y,0≤k→k<top→T (.int k) [.ints [x,y]]:=by rintro T h r cs' ⟨k,x,y,h0,h1,rfl,rfl⟩;exact h k x y h0 h1
theorem mz{α:Type}{a:α}{T:α→Prop}(h:T a):∀x,x=a→T x:=fun a_ e=>e▸h
theorem mA{α β:Type}{f:α→β}{T:β→Prop}(h:∀n,T (f n)):∀x,(∃n,x=f n)→T x:=by rintro x ⟨n,rfl⟩;exact h n
theorem lS{α β:Type}{a:α}{b:β}{T:α→β→Prop}(h:T a b):∀x y,(x=a∧y=b)→T x y:=by rintro x y ⟨rfl,rfl⟩;exact h
theorem wF{m:Nat}{l:List V}{f:Nat→St}{T:Nat→V→St→Prop}(h:∀k v,k<m→l[k]?=some v→T k v (f k)):∀k v σ,k<m→l[k]?=some v→σ=f k→T k v σ:=by rintro k v σ hk hv rfl;exact h k v hk hv
theorem CZ{α:Type}{m:Nat}{l:List V}{f:Nat→α→St}{T:Nat→V→St→Prop}(h:∀k v n,k<m→l[k]?=some v→T k v (f k n)):∀k v σ,k<m→l[k]?=some v→(∃n,σ=f k n)→T k v σ:=by rintro k v σ hk hv ⟨n,rfl⟩;exact h k v n hk hv
noncomputable def dc(n:Int)(c:Option Int)(fi sh lk:Nat):O:=.inst 673 [(183,.int 8),(185,.none),(186,.ref fi),(187,.int n),(136,.oi c),(188,.ref sh),(189,.ref lk)]
noncomputable def dA(di:Nat)(nm:Nat)(sy:aD)(pe nw:Nat):O:=.inst 567 [(128,.ref di),(155,.str nm),(180,.bytes sy),(181,.ref pe),(182,.ref nw)]
noncomputable def dh(b:aD)(at':Nat)(o:aD):aD:=match Nat.blt b.length at' with
 |true=>b++List.replicate (at'-b.length) 0++o
 |false=>b.take at'++o++b.drop (at'+o.length)
noncomputable def fZ(b:aD)(n:Nat):aD:=match Nat.blt b.length n with
 |true=>b++List.replicate (n-b.length) 0
 |false=>b.take n
section
variable{w:World}
theorem jT(n:Int)(c:Option Int):aF w 621 22 4 [.ref 0] [dc n c 1 2 3,.dead,.dead,.dead] (dT (.none) [dc n c 1 2 3,.dead,.dead,.dead]) (Ht (c≠none) [dc n c 1 2 3,.dead,.dead,.dead]):=by
 refine aE (GF w) tt 30 fun qQ qX qq qx=>?_;induction c with
 |none=>exact au [0,1,2,3] (qq _ _ ⟨rfl,rfl⟩) rfl rfl tt
 |some x=>exact⟨fun a_=>⟨tt,bJ [0,1,2,3] (qx _ ⟨fun e=>(nomatch e),rfl⟩) rfl tt⟩,fun a_=>au [0,1,2,3] (qq _ _ ⟨rfl,rfl⟩) rfl rfl tt⟩
theorem step(n:Int)(c:Option Int):aF w 628 30 4 [.ref 0] [dc n c 1 2 3,.dead,.dead,.dead] (dT (.none) [dc (n+1) c 1 2 3,.dead,.dead,.dead]) (Ht (c≠none) [dc n c 1 2 3,.dead,.dead,.dead]):=by
 refine aE (GH w) tt 30 fun qQ qX qq qx=>cI (jT n c) [0,1,2,3] tt rfl rfl [0,1,2,3] [0,1,2,3] tt tt ?_ (fun h=>?_)
 ·exact au [0,1,2,3] (qq _ _ ⟨rfl,rfl⟩) rfl rfl tt
 ·exact bJ [0,1,2,3] (qx _ ⟨h,rfl⟩) rfl tt
theorem n7(b o:aD)(x:Int)(h0:0≤x)(h1:x≤100000)(h2:b.length≤100000)(h3:o.length≤100000):aF w 684 8 1 [.ref 0,.int x,.bytes o] [.ba b] (dT (.none) [.ba (dh b x.toNat o)]) dk:=by
 refine aE (GJ w) tt 30 fun qQ qX qq qx=>aN (aC 450361510914957531136 rfl h2) (fun h=>?_) (fun h=>?_)
 ·have h:(b.length:Int)<x:=cX h;refine vG (aC 450361510914957531136 rfl h2) (cm 4459264786547 rfl h) (cm 1844680767324897576805571 rfl h1) (by refine List.length_replicate.symm▸?_;exact iw 38406128738094877371457030586768 rfl h1 (aA (cm 4459264786547 rfl h))) (aC 450361510914957531136 rfl h3) h0 (by refine bR.symm▸?_;refine List.length_replicate.symm▸?_;exact B1 532992103652931 1 [-1] rfl (aA (cm 4459264786547 rfl h))) (lq 936259 rfl) (by refine bR.symm▸?_;refine List.length_replicate.symm▸?_;exact B3 1032465129700717666675943380384302079334754704 rfl h1 h3 (aA (cm 4459264786547 rfl h))) ?_;refine au [0] (qq _ _ ⟨rfl,rfl⟩) rfl (av (fun z=>[O.ba z]) (?_:dh b x.toNat o=_)) tt;have e:Nat.blt b.length x.toNat=true:=by refine Nat.blt_eq.symm▸?_;exact fO 4528305750273 1 [1,-1] rfl h (aA (cm 1088700531 rfl h))
  have l:(b++List.replicate (x-b.length).toNat (0:UInt8)).length=x.toNat:=by refine bR.symm▸?_;refine List.length_replicate.symm▸?_;exact bo (tY 4820292288176587152 1 [1,-1] rfl (aA (cm 4459264786547 rfl h)) (aA (qw 2082000420979 rfl (aA (cm 4459264786547 rfl h))))) (tY 4820292288176462112 1 [-1,1] rfl (aA (cm 4459264786547 rfl h)) (aA (qw 2082000420979 rfl (aA (cm 4459264786547 rfl h)))))
  have l2:(List.take x.toNat (b++List.replicate (x-b.length).toNat (0:UInt8)))=b++List.replicate (x-b.length).toNat (0:UInt8):=List.take_of_length_le (by refine l.symm▸?_;exact bF _);have l3:List.drop (x+(o.length:Int)).toNat (b++List.replicate (x-b.length).toNat (0:UInt8))=[]:=List.drop_eq_nil_of_le (by refine l.symm▸?_;exact tY 13028243536761088 1 [1,-1] rfl (aA (cm 1088700531 rfl h)) (aA (qw 4459549986931 rfl (aA (cm 1088700531 rfl h)))));unfold dh;rw[e,l2,l3,List.append_nil,show(x-b.length).toNat=x.toNat-b.length by exact(Nat.le_total (b.length) (x.toNat)).elim (fun a0=>bo (xg 20039150071562124546560 1 [1,-1,-1] rfl (aA (cm 4459264786547 rfl h)) (aG (ar 1048832 rfl a0)) (aA (qw 2082000420979 rfl (aA (cm 4459264786547 rfl h))))) (xg 20039150071562124546080 1 [-1,1,1] rfl (aA (cm 4459264786547 rfl h)) (aG (ar 1048832 rfl a0)) (aA (qw 2082000420979 rfl (aA (cm 4459264786547 rfl h)))))) (fun a0=>bo (xg 18547666011964192 0 [1,1,-1] rfl h a0 (aA (qw 2082000420979 rfl (aA (cm 4459264786547 rfl h))))) (ar 7348480 rfl (Nat.sub_eq_zero_of_le (ar 1048832 rfl a0))))]
 ·have h:¬(b.length:Int)<x:=of_decide_eq_false h;refine jj (aC 450361510914957531136 rfl h3) h0 (cm 1089015363 rfl h) (lq 936259 rfl) (dC 7922843505565403698348738737606800 rfl h2 h3) (au [0] (qq _ _ ⟨rfl,rfl⟩) rfl (av (fun z=>[O.ba z]) (?_:dh b x.toNat o=_)) tt)
  have e:Nat.blt b.length x.toNat=false:=by
   generalize q:Nat.blt b.length x.toNat=y_;induction y_ with
   |false=>rfl
   |true=>rw[Nat.blt_eq]at q;exact False.elim (Eu 72452073066138 0 [1,1,1] rfl h q (aA (aZ 1081294963 rfl h0)))
  unfold dh;refine e.symm▸?_;exact(show(x+(o.length:Int)).toNat=x.toNat+o.length by exact bo (tY 4820292275291629824 1 [1,-1] rfl (aA (cm 4428931567731 rfl h0)) (aA (aZ 1081294963 rfl h0))) (tY 4820292275291558544 1 [-1,1] rfl (aA (cm 4428931567731 rfl h0)) (aA (aZ 1081294963 rfl h0)))).symm▸rfl
theorem n8(b:aD)(x:Int)(h0:0≤x)(h1:x≤100000)(h2:b.length≤100000):aF w 691 8 1 [.ref 0,.int x] [.ba b] (dT (.none) [.ba (fZ b x.toNat)]) dk:=by
 refine aE (GK w) tt 30 fun qQ qX qq qx=>?_
 have e:∀{t:Bool},(b.length<x.toNat↔t=true)→Nat.blt b.length x.toNat=t:=fun{t} h=>by
  induction t with
  |true=>refine Nat.blt_eq.symm▸?_;exact h.mpr tt
  |false=>generalize q:Nat.blt b.length x.toNat=y_;induction y_ with
   |false=>rfl
   |true=>rw[Nat.blt_eq]at q;exact absurd (h.mp q) cz
 refine aN (aC 450361510914957531136 rfl h2) (fun h=>?_) (fun h=>?_)
 ·have h:x<b.length:=cX h;refine aN h0 (aC 450361510914957531136 rfl h2) (au [0] (qq _ _ ⟨rfl,rfl⟩) rfl (av (fun z=>[O.ba z]) (?_:fZ b x.toNat=_)) rfl);unfold fZ;exact(e (t:=false) (by simp;exact cm 239341123 rfl h)).symm▸rfl
 ·have h:¬x<b.length:=of_decide_eq_false h;refine aN (aC 450361510914957531136 rfl h2) (fun h'=>?_) (fun h'=>?_)
  ·have h':(b.length:Int)<x:=cX h';refine ji (aC 450361510914957531136 rfl h2) (cm 4459264786547 rfl h') (cm 1844680767324897576805571 rfl h1) (by refine List.length_replicate.symm▸?_;exact iw 38406128738094877371457030586768 rfl h1 (aA (cm 4459264786547 rfl h'))) ?_;refine au [0] (qq _ _ ⟨rfl,rfl⟩) rfl (av (fun z=>[O.ba z]) (?_:fZ b x.toNat=_)) rfl;unfold fZ;refine(e (t:=true) (by simp;assumption)).symm▸?_;exact(show(x-b.length).toNat=x.toNat-b.length by exact(Nat.le_total (b.length) (x.toNat)).elim (fun a0=>bo (xg 20039150071562124546560 1 [1,-1,-1] rfl (aA (cm 4459264786547 rfl h')) (aG (ar 1048832 rfl a0)) (aA (qw 2082000420979 rfl (aA (cm 4459264786547 rfl h'))))) (xg 20039150071562124546080 1 [-1,1,1] rfl (aA (cm 4459264786547 rfl h')) (aG (ar 1048832 rfl a0)) (aA (qw 2082000420979 rfl (aA (cm 4459264786547 rfl h')))))) (fun a0=>bo (xg 18547666011964192 0 [1,1,-1] rfl h' a0 (aA (qw 2082000420979 rfl (aA (cm 4459264786547 rfl h'))))) (ar 7348480 rfl (Nat.sub_eq_zero_of_le (ar 1048832 rfl a0))))).symm▸rfl
  ·have h':¬(b.length:Int)<x:=of_decide_eq_false h';refine au [0] (qq _ _ ⟨rfl,rfl⟩) rfl (av (fun z=>[O.ba z]) (?_:fZ b x.toNat=b)) rfl;unfold fZ;refine(e (t:=false) (by simp;exact cm 1089015363 rfl h')).symm▸?_;refine(show x.toNat=b.length by exact bo (iw 4528305770512 rfl h' (aA (cm 239681651 rfl h))) (fO 4528252686592 1 [1,-1] rfl h (aA (cm 239681651 rfl h)))).symm▸?_;exact List.take_length
theorem n9(n z:Int)(c:Option Int):aF w 635 4 5 [.ref 0,.ref 4,.int z] [dc n c 1 2 3,.dead,.dead,.dead,.dead] (dT (.none) [dc n c 1 2 3,.dead,.dead,.dead,.dead]) dk:=bA (GI w) tt 30 (au [0,1,2,3,4] ⟨rfl,rfl⟩ rfl rfl tt)
section
variable(m:Nat)(n:Int)(c:Option Int)(sy b:aD)(l:List Op)
theorem eW(hb:b.length≤100000):aF w 522 4 4 [.ref 0] [dA 1 m sy 2 3,.dead,.dead,.ba b] (dT (.int b.length) [dA 1 m sy 2 3,.dead,.dead,.ba b]) dk:=bA (Gw w) tt 30 ⟨by exact aC 450361510914957531136 rfl hb,au [0,1,2,3] ⟨rfl,rfl⟩ rfl rfl tt⟩
theorem fJ(x y:Int)(o:aD)(ho:aL b x.toNat (x+y).toNat=o)(hx:0≤x)(hy:0≤y)(hb:b.length≤100000):aF w 529 4 4 [.ref 0,.int x,.int y] [dA 1 m sy 2 3,.dead,.dead,.ba b] (dT (.bytes o) [dA 1 m sy 2 3,.dead,.dead,.ba b]) dk:=by subst ho;refine aE (Gx w) tt 30 fun qQ qX qq qx=>cZ hx (Ew 22644718786875507 rfl hx hy) (aC 450361510914957531136 rfl hb) (⟨?_,au [0,1,2,3] (qq _ _ ⟨rfl,rfl⟩) rfl rfl tt⟩);unfold aL;refine List.length_take.symm▸?_;refine List.length_drop.symm▸?_;exact m9 621463879507156225079924752 rfl hb (Nat.min_le_right _ _) (Nat.sub_le _ _)
noncomputable abbrev fw(n:Int)(sy:aD)(l:List Op)(b:aD):List O:=[dA 1 m sy 5 6,dc n c 2 3 4,.dead,.dead,.dead,.ops l,.ba b]
theorem jU(x:Int)(o b':aD)(l':List Op)(eb:dh b x.toNat o=b')(el:l++[.write x o]=l')(h0:0≤x)(h1:x≤50000)(h2:b.length≤100000)(h3:o.length≤50000)(h4:l.length≤100000):aF w 536 40 7 [.ref 0,.int x,.bytes o] (fw m c n sy l b) (dT (.none) (fw m c (n+1) sy l' b')) (Ht (c≠none) (fw m c n sy l b)):=by
 subst eb el;refine aE (Gy w) tt 30 fun qQ qX qq qx=>cI (jT n c) [1,2,3,4] tt rfl rfl [1,2,3,4] [1,2,3,4] tt tt ?_ (fun h=>?_)
 ·refine⟨by exact aC 225181248071456020480 rfl h3,(ae (n9 n (x+o.length) c) [1,2,3,4,0] tt rfl rfl [1,2,3,4,0] tt (cI (step n c) [1,2,3,4] tt rfl rfl [1,2,3,4] [1,2,3,4] tt tt ?_ (fun h=>?_)))⟩
  ·exact⟨by exact aC 450361510914957531136 rfl h4,(ae (n7 b o x h0 (aZ 225181252616678561859 rfl h1) h2 (aC 225181248012473620480 rfl h3)) [6] tt rfl rfl [6] tt (au jh (qq _ _ ⟨rfl,rfl⟩) rfl rfl tt))⟩
  ·exact bJ jh (qx _ ⟨h,rfl⟩) rfl tt
 ·exact bJ jh (qx _ ⟨h,rfl⟩) rfl tt
theorem gu(x:Int)(b':aD)(l':List Op)(eb:fZ b x.toNat=b')(el:l++[.cut x]=l')(h0:0≤x)(h1:x≤100000)(h2:b.length≤100000)(h4:l.length≤100000):aF w 543 40 7 [.ref 0,.int x] (fw m c n sy l b) (dT (.none) (fw m c (n+1) sy l' b')) (Ht (c≠none) (fw m c n sy l b)):=by
 subst eb el;refine aE (Gz w) tt 30 fun qQ qX qq qx=>cI (jT n c) [1,2,3,4] tt rfl rfl [1,2,3,4] [1,2,3,4] tt tt ?_ (fun h=>?_)
 ·refine ae (n9 n x c) [1,2,3,4,0] tt rfl rfl [1,2,3,4,0] tt (cI (step n c) [1,2,3,4] tt rfl rfl [1,2,3,4] [1,2,3,4] tt tt ?_ (fun h=>?_))
  ·exact⟨by exact aC 450361510914957531136 rfl h4,(ae (n8 b x h0 h1 h2) [6] tt rfl rfl [6] tt (au jh (qq _ _ ⟨rfl,rfl⟩) rfl rfl tt))⟩
  ·exact bJ jh (qx _ ⟨h,rfl⟩) rfl tt
 ·exact bJ jh (qx _ ⟨h,rfl⟩) rfl tt
theorem fK(h2:b.length≤100000):aF w 550 40 6 [.ref 0] [dA 1 m sy 6 5,dc n c 2 3 4,.dead,.dead,.dead,.ba b,.ops l] (dT (.none) [dA 1 m b 6 5,dc (n+1) c 2 3 4,.dead,.dead,.dead,.ba b,.list []]) (Ht (c≠none) [dA 1 m sy 6 5,dc n c 2 3 4,.dead,.dead,.dead,.ba b,.ops l]):=by
 refine aE (GA w) tt 30 fun qQ qX qq qx=>cI (step n c) [1,2,3,4] tt rfl rfl [1,2,3,4] [1,2,3,4] tt tt ?_ (fun h=>?_)
 ·exact⟨by exact aC 450361510914957531136 rfl h2,(au [0,1,2,3,4,5,7] (qq _ _ ⟨rfl,rfl⟩) rfl rfl tt)⟩
 ·exact bJ jh (qx _ ⟨h,rfl⟩) rfl tt
end
end
noncomputable def dz(fr pl co:Nat)(la cp s0 s1 nu u0 u1:Int)(hl sp:Bool):O:=.inst 186 [(144,.ref fr),(145,.ref pl),(146,.ref co),(147,.int la),(148,.int cp),(117,.tup [.int s0,.int s1]),(118,.int nu),(116,.tup [.int u0,.int u1]),(149,.bool hl),(150,.bool sp)]
noncomputable def bk(pl:List (Int×List Int))(p n:Int):List (Int×List Int):=match aV pl p with
 |some xs=>dput pl p (xs++[n])
 |none=>pl++[(p,[n])]
theorem dN{α:Type}{l:List (Int×α)}{p:Int}:p∈aj l↔(aV l p).isSome=true:=by unfold aj aV;rw[Option.isSome_map,List.find?_isSome];simp only[bO,decide_eq_true_eq]
theorem p7{α:Type}{l:List (Int×α)}{p:Int}{a:α}(h:∀q∈l,q.1=p→q.2=a)(hp:p∈aj l):dput l p a=l:=by
 have h1:l.any (fun q=>q.1=p)=true:=by exact aa (bO.mp hp) fun q hq e=>List.any_eq_true.mpr (ah q hq (by simpa using e))
 unfold dput;rw[aB h1];refine(List.map_congr_left fun q hq=>?_).trans (List.map_id l);by_cases e:q.1=p
 ·rw[aB e,←h q hq e];rfl
 ·rw[aH e];rfl
section
variable{w:World}
theorem oe:aF w 141 4 1 [.ref 0] [.inst 186 []] (dT (.none) [dz 1 2 3 0 0 23063 625341585 0 0 0 true false,.ints [],.rows [] none,.eN []]) dk:=bA (F7 w) tt 30 (au [0,1,2,3] ⟨rfl,rfl⟩ rfl rfl tt)
section
variable(la cp s0 s1 nu u0 u1:Int)(hl sp:Bool)
theorem lT:aF w 148 4 1 [.ref 0] [dz 1 2 3 la cp s0 s1 nu u0 u1 hl sp,.dead,.dead,.dead] (dT (.none) [dz 1 2 3 0 0 s0 s1 nu 0 0 hl sp,.ints [],.rows [] none,.eN []]) dk:=bA (F8 w) tt 30 (au [0,4,5,6] ⟨rfl,rfl⟩ rfl rfl tt)
theorem th(fr:List Int)(co:List (Int×Int))(pc v0 v1:Int)(hf:fr.length≤100000)(hc:co.length≤100000):aF w 162 4 4 [.ref 0,.int pc,.tup [.int v0,.int v1]] [dz 1 2 3 la cp s0 s1 nu u0 u1 hl sp,.ints fr,.dead,.eN co] (dT (.none) [dz 1 2 3 fr.length cp s0 s1 nu v0 v1 hl sp,.ints fr,.dead,.eN (dput co fr.length pc)]) dk:=bA (F_ w) tt 30 (aN (aC 450361510914957531136 rfl hf) hc (au [0,1,2,3] ⟨rfl,rfl⟩ rfl rfl tt))
theorem AJ{pl:List (Int×List Int)}{p n:Int}(h:p∉aj pl):dput (pl++[(p,[])]) p [n]=pl++[(p,[n])]:=by
 have h1:(pl++[(p,([]:List Int))]).any (fun q=>q.1=p)=true:=by simp
 unfold dput;rw[aB h1,List.map_append];congr 1
 ·refine(List.map_congr_left fun q hq=>?_).trans (List.map_id pl);rw[aH fun e=>h (bO.mpr (ah q hq e))];rfl
 ·simp
theorem wG(fr NY:List Int)(pl NZ:List (Int×List Int))(cJ:Int)(ef:fr++[cJ]=NY)(ep:bk pl cJ (fr.length+1)=NZ)(hf:fr.length≤100000)(hp:pl.length≤100000)(hx:∀p xs,aV pl p=some xs→xs.length≤100000):aF w 155 4 4 [.ref 0,.int cJ] [dz 1 2 3 la cp s0 s1 nu u0 u1 hl sp,.ints fr,.rows pl none,.dead] (dT (.none) [dz 1 2 3 la cp s0 s1 nu u0 u1 hl sp,.ints NY,.rows NZ none,.dead]) dk:=by
 subst ef ep;refine aE (F9 w) tt 30 fun qQ qX qq qx=>?_;have Le:(fr++[cJ]).length≤1000000:=by rw[bR];exact aX (Nat.add_le_add_right hf 1) (by decide)
 have el:((fr++[cJ]).length:Int)=fr.length+1:=by rw[bR];rfl
 refine aN (aX hf (by decide)) (fun h=>?_) (fun h=>?_)
 ·have h:cJ∉aj pl:=fun hm=>by have:(!(aj pl).contains cJ)=true:=h;rw[List.contains_iff_mem.mpr hm]at this;exact absurd this (by decide)
  refine iT h hp [] ⟨rfl,rfl⟩ (Nat.ne_of_beq_eq_false ff) rfl (cZ (bO.mpr (ah (cJ,[]) (cb _ aS) rfl)) Le (Nat.zero_le _) (kJ [0,1,2,3] (qq _ _ ⟨rfl,rfl⟩) rfl (jj trivial trivial (bO.mpr (ah (cJ,[]) (cb _ aS) rfl)) trivial trivial trivial) ?_ tt))
  have e:bk pl cJ (fr.length+1)=dput (pl++[(cJ,[])]) cJ [((fr++[cJ]).length:Int)]:=by
   rw[AJ h,el];unfold bk;generalize q:aV pl cJ=y_;induction y_ with
   |none=>rfl
   |some xs=>exact absurd (dN.mpr (by rw[q];rfl)) h
  rw[e];rfl
 ·have h:cJ∈aj pl:=by have:(!(aj pl).contains cJ)=false:=h;rw[Bool.not_eq_false']at this;exact List.contains_iff_mem.mp this
  obtain⟨xs,q⟩:=Option.isSome_iff_exists.mp (dN.mp h);refine m4 xs q Le (aX (hx _ _ q) (by decide)) (kJ [0,1,2,3] (qq _ _ ⟨rfl,rfl⟩) rfl (jj trivial trivial h trivial trivial trivial) ?_ rfl);have e:bk pl cJ (fr.length+1)=dput pl cJ (xs++[((fr++[cJ]).length:Int)]):=by rw[el];unfold bk;rw[q]
  rw[e];rfl
end
theorem fL{Kp:List Nat}{σ σ':St}(h:σ'.cs=σ.cs)(hv:nG σ.vars σ'.vars):Norm Kp [] σ σ':=.inl ⟨h,hv⟩
theorem wH{σ σ':St}(κ:List Nat)(h1:(bW κ&&(my κ Kp&&σ.cs.all O.cG))=true)(hv:sI κ σ.vars σ'.vars)(h3:iD κ σ'.cs=mask σ'.cs (pick σ.cs κ)):Norm Kp κ σ σ':=by obtain⟨a,h1⟩:=bE h1;obtain⟨b,c⟩:=bE h1;refine .inr (ji a (jS c) (iO b) hv ?_);unfold eC;rw[iN c];exact lR h3
theorem yk{σ σ':St}(κ:List Nat)(h1:(bW κ&&my κ Kp)=true)(hh:eD σ.cs)(hv:sI κ σ.vars σ'.vars)(h3:iD κ σ'.cs=mask σ'.cs (pick (eC σ.cs) κ)):Norm Kp κ σ σ':=by obtain⟨a,b⟩:=bE h1;exact .inr (ji a hh (iO b) hv (lR h3))
theorem jv{σ σ':St}{I:St→Prop}(hI:I σ')(h:σ'.cs=σ.cs)(hv:nG σ.vars σ'.vars):∃κ σ',Norm Kp κ σ σ'∧I σ':=cL [] σ' (fL h hv) hI
theorem jo{σ σ':St}{I:St→Prop}(κ:List Nat)(hI:I σ')(h1:(bW κ&&(my κ Kp&&σ.cs.all O.cG))=true)(hv:sI κ σ.vars σ'.vars)(h3:iD κ σ'.cs=mask σ'.cs (pick σ.cs κ)):∃κ σ',Norm Kp κ σ σ'∧I σ':=cL κ σ' (wH κ h1 hv h3) hI
def yl(pl:List (Int×List Int)):Prop:=(aj pl).Nodup∧∀q∈pl,q.2≠[]
noncomputable def eH(pl:List (Int×List Int))(n:Int):List Int→List (Int×List Int)
 |[]=>pl
 |p::l=>eH (bk pl p (n+1)) (n+1) l
noncomputable abbrev rowsOf(fr:List Int):List (Int×List Int):=eH [] 0 fr
theorem o4(l:List Int)(p:Int):∀(pl:List (Int×List Int)) (n:Int),eH pl n (l++[p])=bk (eH pl n l) p (n+l.length+1):=by
 induction l with
 |nil=>exact fun pl n=>av (bk pl p) (av (·+1) (Int.add_zero n).symm)
 |cons q l ih=>intro pl n;refine(?_:eH (bk pl q (n+1)) (n+1) (l++[p])=bk (eH (bk pl q (n+1)) (n+1) l) p _);rw[ih,cB];congr 1;rw[show((l.length+1:Nat):Int)=l.length+1 from rfl];exact Int.le_antisymm (lq 1744636077642152695601555 rfl) (lq 1741989785019110335793555 rfl)
theorem gk(l:List Int)(p:Int):rowsOf (l++[p])=bk (rowsOf l) p (l.length+1):=by have:=o4 l p [] 0;rwa[Int.zero_add]at this
theorem AK{α:Type}{l:List (Int×α)}{p:Int}{a:α}(h:aV l p=some a):(p,a)∈l:=by
 unfold aV at h;generalize q:l.find? (fun q=>decide (q.1=p))=y_ at h⊢;induction y_ with
 |none=>exact nS h
 |some r=>
  have e:r.2=a:=bf h;have h1:r.1=p:=by simpa using List.find?_some q
  rw[←h1,←e];exact List.mem_of_find?_eq_some q
theorem lU{α:Type}{l:List (Int×α)}{p:Int}:aV l p=none↔p∉aj l:=by rw[dN];cases aV l p<;>simp
theorem ic{α:Type}{l:List (Int×α)}(h:(aj l).Nodup){p:Int}{a:α}(hm:(p,a)∈l):aV l p=some a:=by
 induction l with
 |nil=>cases hm
 |cons q l ih=>
  have h:(q.1::aj l).Nodup:=h;obtain⟨h1,h2⟩:=cu.mp h;unfold aV;rw[List.find?_cons];rcases bD.mp hm with rfl|hm
  ·simp
  ·have:q.1≠p:=fun e=>h1 (e▸bO.mpr (ah _ hm rfl));simp only[this,decide_false];exact ih h2 hm
theorem ja{α:Type}{l:List (Int×α)}{p:Int}{a:α}(h:p∈aj l):aj (dput l p a)=aj l:=by
 have h1:l.any (fun q=>q.1=p)=true:=by exact aa (bO.mp h) fun q hq e=>List.any_eq_true.mpr (ah q hq (by simpa using e))
 unfold dput aj;rw[aB h1,List.map_map];exact List.map_congr_left fun q a_=>by refine(?_:(if q.1=p then(q.1,a)else q).1=q.1);split<;>rfl
theorem AL{α:Type}{l:List (Int×α)}{p:Int}{a b:α}(h:p∈aj l):dput (dput l p a) p b=dput l p b:=by
 have any:∀{l:List (Int×α)},p∈aj l→l.any (fun q=>q.1=p)=true:=fun{l} h=>by exact aa (bO.mp h) fun q hq e=>List.any_eq_true.mpr (ah q hq (by simpa using e))
 have h2:=any (l:=dput l p a) (by rw[ja h];exact h);rw[show dput (dput l p a) p b=(dput l p a).map (fun q=>if q.1=p then(q.1,b)else q) by rw[show dput (dput l p a) p b=if(dput l p a).any (fun q=>q.1=p)then _ else _ from rfl,aB h2]];unfold dput;rw[aB (any h),aB (any h),List.map_map]
 exact List.map_congr_left fun q a_=>by
  refine(?_:(if(if q.1=p then(q.1,a)else q).1=p then((if q.1=p then(q.1,a)else q).1,b)else(if q.1=p then(q.1,a)else q))=_);by_cases e:q.1=p
  ·simp[e]
  ·simp[e]
theorem yl.add{pl:List (Int×List Int)}(h:yl pl)(p n:Int):yl (bk pl p n):=by
 unfold bk;generalize q:aV pl p=y_;induction y_ with
 |none=>
  have hn:=lU.mp q;refine⟨?_,fun r hr=>?_⟩
  ·unfold aj;rw[List.map_append];exact List.nodup_append.mpr (aN h.1 (by simp) (fun a ha b hb e=>hn ((show a=p from e.trans (c9.mp hb))▸ha)))
  ·rcases cC.mp hr with hr|hr
   ·exact h.2 r hr
   ·rw[c9.mp hr];exact List.cons_ne_nil _ _
 |some xs=>
  have hk:p∈aj pl:=dN.mpr (by rw[q];exact tt);refine⟨by rw[show aj _=aj pl from ja hk];exact h.1,fun r hr=>?_⟩;have h1:pl.any (fun q=>q.1=p)=true:=by exact aa (bO.mp hk) fun r hr e=>List.any_eq_true.mpr (ah r hr (by simpa using e))
  have hr:r∈dput pl p (xs++[n]):=hr;unfold dput at hr;rw[aB h1]at hr;refine aa (bO.mp hr) fun r0 Mb aQ=>?_;subst aQ;split
  ·simp
  ·exact h.2 r0 Mb
theorem yl.from:∀{pl:List (Int×List Int)} {n:Int},yl pl→yl (eH pl n l):=by
 induction l with
 |nil=>intro pl n h;exact h
 |cons p l ih=>intro pl n h;exact ih (h.add _ _)
theorem yl.of(fr:List Int):yl (rowsOf fr):=yl.from ⟨List.nodup_nil,fun a_ h=>nomatch h⟩
theorem J1{pl:List (Int×List Int)}(h:yl pl)(p n:Int):∃xs,aV (bk pl p n) p=some xs∧xs≠[]∧p∈aj (bk pl p n)∧(xs.dropLast=[]→kg (dput (bk pl p n) p xs.dropLast) p=pl∧kg (bk pl p n) p=pl)∧(xs.dropLast≠[]→dput (bk pl p n) p xs.dropLast=pl):=by
 have cut:∀(pl:List (Int×List Int)) (a:List Int),p∉aj pl→kg (pl++[(p,a)]) p=pl:=fun pl a hn=>by unfold kg;have hf:pl.filter (fun q=>decide (q.1≠p))=pl:=List.filter_eq_self.mpr fun q hq=>decide_eq_true fun e=>hn (bO.mpr (ah q hq e));rw[List.filter_append,hf];simp
 generalize q:aV pl p=y_;induction y_ with
 |none=>
  have hn:=lU.mp q;have e:bk pl p n=pl++[(p,[n])]:=by unfold bk;rw[q]
  have hk:p∈aj (pl++[(p,[n])]):=bO.mpr (ah (p,[n]) (cb _ aS) rfl);refine vK [n] ?_ (List.cons_ne_nil _ _) (by rw[e];exact hk) (fun a_=>⟨?_,by rw[e];exact cut _ _ hn⟩) (fun z=>absurd rfl z)
  ·have:=(h.add p n).1;rw[e]at this⊢;exact ic this (cb _ aS)
  ·rw[e]
   have:dput (pl++[(p,[n])]) p [n].dropLast=pl++[(p,[])]:=by
    have h1:(pl++[(p,[n])]).any (fun q=>q.1=p)=true:=by simp
    unfold dput;rw[aB h1,List.map_append];congr 1
    ·refine(List.map_congr_left fun q hq=>?_).trans (List.map_id pl);rw[aH fun e=>hn (bO.mpr (ah q hq e))];rfl
    ·simp
   rw[this];exact cut _ _ hn
 |some xs=>
  have hk:p∈aj pl:=dN.mpr (by rw[q];exact tt);have e:bk pl p n=dput pl p (xs++[n]):=by unfold bk;rw[q]
  have fy:xs≠[]:=h.2 _ (AK q);have ed:(xs++[n]).dropLast=xs:=List.dropLast_concat;refine vK (xs++[n]) (by rw[e,dm,aB rfl]) (by simp) (by rw[e,ja hk];exact hk) (fun z=>absurd (ed▸z) fy) (fun a_=>?_);rw[ed,e,AL hk];exact p7 (fun r hr er=>bf ((ic h.1 (by rw[←er];exact hr)).symm.trans q)) hk
noncomputable def posOf(p:Int):Int→List Int→List Int
 |_,[]=>[]
 |n,q::l=>if q=p then(n+1)::posOf p (n+1) l else posOf p (n+1) l
theorem og(p q:Int)(l:List Int):∀n,posOf p n (l++[q])=posOf p n l++(if q=p then[n+l.length+1]else[]):=by
 induction l with
 |nil=>exact fun n=>av (fun z=>if q=p then[z+1]else[]) (Int.add_zero n).symm
 |cons r l ih=>
  intro n;have e:n+1+(l.length:Int)+1=n+((l.length+1:Nat):Int)+1:=by exact Int.le_antisymm (lq 1744630673322599851006355 rfl) (lq 1741989785019110330878355 rfl)
  refine(?_:(if r=p then(n+1)::posOf p (n+1) (l++[q])else posOf p (n+1) (l++[q]))=(if r=p then(n+1)::posOf p (n+1) l else posOf p (n+1) l)++_);rw[ih (n+1),cB,e];by_cases h:r=p
  ·rw[aB h,aB h];rfl
  ·rw[aH h,aH h]
theorem jb{l:List Int}:∀{n x:Int},x∈posOf p n l→n<x∧x≤n+l.length∧l[(x-n-1).toNat]?=some p:=by
 induction l with
 |nil=>intro n x h;cases h
 |cons q l ih=>
  intro n x h;have h:x∈(if q=p then(n+1)::posOf p (n+1) l else posOf p (n+1) l):=h;have go:x∈posOf p (n+1) l→n<x∧x≤n+((l.length+1:Nat):Int)∧(q::l)[(x-n-1).toNat]?=some p:=fun h=>by refine fc (ih h) fun h1 h2 h3=>aN (oQ 21865514308 rfl h1) (LS 259936955907797047619 rfl h2) ?_;rw[show(x-n-1).toNat=(x-(n+1)-1).toNat+1 by exact bo (B2 29271581598855975419875991951616 1 [1,-1] rfl (aA (oQ 366842440127922291 rfl h1)) (aA (oQ 1502586634564209000563 rfl h1))) (B2 29271581598855975419875990532496 1 [-1,1] rfl (aA (oQ 366842440127922291 rfl h1)) (aA (oQ 1502586634564209000563 rfl h1))),List.getElem?_cons_succ];exact h3
  rw[cB];split at h
  ·rename_i e;rcases bD.mp h with rfl|h
   ·refine aN (rX 1526084 rfl) (lq 25331256882323 rfl) ?_;rw[show(n+1-n-1).toNat=0 by exact bo (cm 1675748752958490368 rfl (aA (rX 25569896743027 rfl))) (bX 112 rfl),e];rfl
   ·exact go h
  ·exact go h
theorem ym{l:List Int}:∀{n:Int},(posOf p n l).length≤l.length:=by
 induction l with
 |nil=>intro n;exact bF _
 |cons q l ih=>
  intro n;refine(?_:(if q=p then(n+1)::posOf p (n+1) l else posOf p (n+1) l).length≤_);split
  ·exact Nat.succ_le_succ ih
  ·exact Nat.le_succ_of_le ih
theorem jV(p:Int)(fr:List Int):aV (rowsOf fr) p=if posOf p 0 fr=[]then none else some (posOf p 0 fr):=by
 generalize hm:fr.length=m;induction m generalizing fr with
 |zero=>rw[List.eq_nil_of_length_eq_zero hm];rfl
 |succ m ih=>
  rcases List.eq_nil_or_concat fr with e|⟨l,q,e⟩
  ·rw[e]at hm;cases hm
  ·rw[List.concat_eq_append]at e;subst e;have ih:=ih l (by rw[bR]at hm;exact Nat.succ.inj hm);rw[gk,og,Int.zero_add];unfold bk;by_cases e:q=p
   ·subst e;rw[aB rfl];have ne:posOf q 0 l++[(l.length:Int)+1]≠[]:=by simp
    rw[aH ne];by_cases z:posOf q 0 l=[]
    ·rw[aB z]at ih;rw[ih];have hn:=lU.mp ih;have hw:=((yl.of l).add q ((l.length:Int)+1)).1;unfold bk at hw;rw[ih]at hw;rw[z];exact ic hw (cb _ aS)
    ·rw[aH z]at ih;rw[ih];refine(?_:aV (dput _ q _) q=_);rw[dm,aB rfl]
   ·rw[aH e,List.append_nil]
    have key:∀x,aV (match aV (rowsOf l) q with|some xs=>dput (rowsOf l) q (xs++[x])|none=>rowsOf l++[(q,[x])]) p=aV (rowsOf l) p:=fun x=>by
     cases aV (rowsOf l) q with
     |some xs=>refine(?_:aV (dput _ q _) p=_);rw[dm,aH (fun z=>e z.symm)]
     |none=>refine(?_:aV (rowsOf l++[(q,[x])]) p=_);unfold aV;rw[List.find?_append];simp[e]
    rw[←ih];exact key _
theorem ti(pl:List (Int×List Int))(p n:Int):(bk pl p n).length≤pl.length+1:=by
 unfold bk;cases aV pl p with
 |none=>refine(?_:(pl++[(p,[n])]).length≤_);rw[bR];exact bF _
 |some xs=>
  refine(?_:(dput pl p (xs++[n])).length≤_);unfold dput;split
  ·rw[bK];exact Nat.le_succ _
  ·rw[bR];exact bF _
theorem jW(fr:List Int):(rowsOf fr).length≤fr.length:=by
 have key:∀(l:List Int) (pl:List (Int×List Int)) (n:Int),(eH pl n l).length≤pl.length+l.length:=by
  intro l;induction l with
  |nil=>intro pl n;exact bF _
  |cons p l ih=>intro pl n;have h1:=ih (bk pl p (n+1)) (n+1);have h2:=ti pl p (n+1);refine(?_:(eH (bk pl p (n+1)) (n+1) l).length≤_);rw[cB];exact m8 6854190992919875893504 rfl h1 h2
 have:=key fr [] 0;rwa[List.length_nil,Nat.zero_add]at this
theorem mX{fr:List Int}{xs:List Int}(h:aV (rowsOf fr) p=some xs):xs=posOf p 0 fr∧xs≠[]∧xs.length≤fr.length:=by
 rw[jV]at h;split at h
 ·exact nS h
 ·rename_i z;obtain rfl:=bf h;exact aN rfl z ym
section
variable(la cp s0 s1 nu u0 u1:Int)(hl sp:Bool)
theorem tj(fr L0:List Int)(h0:fr<+:L0)(hz:L0.length≤100000):aF w 169 4 4 [.ref 0] [dz 1 2 3 fr.length cp s0 s1 nu u0 u1 hl sp,.ints L0,.rows (rowsOf L0) none,.dead] (dT (.none) [dz 1 2 3 fr.length cp s0 s1 nu u0 u1 hl sp,.ints fr,.rows (rowsOf fr) none,.dead]) dk:=by
 refine aE (Ga w) tt 30 fun qQ qX qq qx=>⟨fun n σ=>∃L,n=L.length∧L.length≤100000∧fr<+:L∧σ=⟨[(138,.ref 0)],[dz 1 2 3 fr.length cp s0 s1 nu u0 u1 hl sp,.ints L,.rows (rowsOf L) none,.dead]⟩,(gm _ L0 rfl hz h0 rfl),?_⟩;intro n Lj q;refine vF q fun L az hz hp aQ=>?_;clear q;subst az;subst aQ;refine aN (aX hz (by decide)) (fun h=>?_) (fun h=>?_)
 ·have h:(fr.length:Int)<L.length:=cX h;have h:fr.length<L.length:=by exact ar 504250625 rfl h
  have fy:L≠[]:=fun e=>by rw[e]at h;exact Nat.not_lt_zero _ h
  have hL:L=L.dropLast++[L.getLast?.getD 0]:=by rw[List.getLast?_eq_some_getLast fy,Option.getD_some];exact(List.dropLast_concat_getLast fy).symm
  have hd:fr<+:L.dropLast:=List.prefix_of_prefix_length_le hp (List.dropLast_prefix L) (by rw[List.length_dropLast];exact fe 19183774470656 1 [1,-1] rfl h (aG (ar 16847216 rfl h)));have eL:rowsOf L=bk (rowsOf L.dropLast) (L.getLast?.getD 0) ((L.dropLast.length:Int)+1):=by rw[←gk,←hL]
  refine iy (J1 (yl.of L.dropLast) (L.getLast?.getD 0) ((L.dropLast.length:Int)+1)) fun xs g1 g2 g3 g4 g5=>?_;rw[←eL]at g1 g3 g4 g5;have gx:=(mX g1).2.2;have gq:L.dropLast.length<L.length:=by rw[List.length_dropLast];exact ar 4681441537 rfl (aG (ar 16847216 rfl h))
  refine iT (aX hz (by decide)) fy xs g1 (aX gx (aX hz (by decide))) g2 ?_;refine aN (by refine(?_:xs.dropLast.length≤1000000);rw[List.length_dropLast];exact m9 5570806185009448066327009312 rfl hz gx (Nat.sub_le _ _)) (fun h=>?_) (fun h=>?_)
  ·have hx:xs.dropLast≠[]:=fun e=>by have h:(!xs.dropLast.isEmpty)=true:=h;rw[e]at h;exact absurd h (by decide)
   refine cL [0,1,2,3] ⟨[(138,.ref 0)],[dz 1 2 3 fr.length cp s0 s1 nu u0 u1 hl sp,.ints L.dropLast,.rows (rowsOf L.dropLast) none,.dead]⟩ (yk [0,1,2,3] tt (jj trivial trivial g3 trivial trivial trivial) rfl ?_) (ah L.dropLast.length gq (m4 L.dropLast rfl (dC 80730591719639943763984 rfl hz gq) hd rfl));rw[←g5 hx];rfl
  ·have hx:xs.dropLast=[]:=by have h:(!xs.dropLast.isEmpty)=false:=h;rw[Bool.not_eq_false']at h;exact List.isEmpty_iff.mp h
   refine cZ rfl g3 (aX (jW L) hz) ?_;refine cL [0,1,2,3] ⟨[(138,.ref 0)],[dz 1 2 3 fr.length cp s0 s1 nu u0 u1 hl sp,.ints L.dropLast,.rows (rowsOf L.dropLast) none,.dead]⟩ (wH [0,1,2,3] tt rfl ?_) (ah L.dropLast.length gq (m4 L.dropLast rfl (dC 80730591719639943763984 rfl hz gq) hd rfl));rw[←(g4 hx).2];rfl
 ·have h:¬(fr.length:Int)<L.length:=of_decide_eq_false h;have q_:=hp.eq_of_length_le (ar 504270864 rfl h);clear h hp hz;subst q_;exact au [0,1,2,3] (qq _ _ ⟨rfl,rfl⟩) rfl rfl tt
noncomputable def frameOf(pl:List (Int×List Int))(cJ mark:Int):Int:=match aV pl cJ with
 |none=>0
 |some xs=>if xs.all (fun x=>decide (x≤mark))then xs.getLast?.getD 0 else 0
theorem kK(pl:List (Int×List Int))(cJ mark x:Int)(ex:frameOf pl cJ mark=x)(H:∀xs,aV pl cJ=some xs→xs.length≤100000∧xs≠[]∧((∀x∈xs,x≤mark)∨∀x∈xs,mark<x))(hn:(aj pl).Nodup):aF w 176 4 4 [.ref 0,.int cJ,.int mark] [dz 1 2 3 la cp s0 s1 nu u0 u1 hl sp,.dead,.rows pl none,.dead] (dT (.int x) [dz 1 2 3 la cp s0 s1 nu u0 u1 hl sp,.dead,.rows pl none,.dead]) dk:=by
 subst ex;refine aE (Gb w) tt 30 fun qQ qX qq qx=>⟨fun xs hx=>?_,fun hx=>?_⟩
 ·refine fc (H xs hx) fun h1 h2 h3=>?_;have hk:cJ∈aj pl:=dN.mpr (by rw[hx];exact tt);have fE:0<xs.length:=List.length_pos_iff.mpr h2;have same:dput pl cJ xs=pl:=p7 (fun r hr er=>bf ((ic hn (by rw[←er];exact hr)).symm.trans hx)) hk;refine⟨aX h1 (by decide),?_⟩
  refine⟨fun n σ=>∃a b:Nat,n=b-a∧a≤b∧b≤xs.length∧((∀x∈xs,x≤mark)→b=xs.length)∧((∀x∈xs,mark<x)→a=0)∧
   σ=⟨[(138,.ref 0),(131,.int cJ),(152,.int mark),(153,.ref 4),(199,.int a),(200,.int b)],[dz 1 2 3 la cp s0 s1 nu u0 u1 hl sp,.dead,.rows pl (some (cJ,4)),.dead,.ints xs]⟩,
   (aR _ 0 xs.length rfl (Nat.zero_le _) (bF _) (aN (fun a_=>rfl) (fun a_=>rfl) rfl)),?_⟩
  intro n Lj q;refine jE q fun a b az IS hb hA hB aQ=>?_;clear q;subst az;subst aQ;refine⟨fun h=>?_,fun h=>?_⟩
  ·have h:(a:Int)<b:=cX h;have N5:(0:Int)≤((a:Int)+b)/2:=by exact c7 _
   have DM:((a:Int)+b)/2<xs.length:=Int.ediv_lt_of_lt_mul (by decide) (Int.ofNat_lt.mpr (Nat.mul_two xs.length▸Nat.add_lt_add_of_lt_of_le (Nat.lt_of_lt_of_le (Int.ofNat_lt.mp h) hb) hb))
   have N6:xs.getD (((a:Int)+b)/2).toNat 0∈xs:=by
    have hl:(((a:Int)+b)/2).toNat<xs.length:=by exact iw 4528252665873 rfl DM (aA (aZ 1081294963 rfl N5))
    rw[cW,cn hl];exact List.getElem_mem hl
   refine cZ (by decide) (by decide) (aX h1 (by decide)) (.inl (cZ N5 DM (fun h'=>?_) (fun h'=>?_)))
   ·have h':xs.getD (((a:Int)+b)/2).toNat 0≤mark:=cX h';refine cL [] _ (fL (σ':=⟨[(138,.ref 0),(131,.int cJ),(152,.int mark),(153,.ref 4),(199,.int (((a:Int)+b)/2+1)),(200,.int b)],[dz 1 2 3 la cp s0 s1 nu u0 u1 hl sp,.dead,.rows pl (some (cJ,4)),.dead,.ints xs]⟩) rfl rfl) (ah _ ?_ (fk ((a+b)/2+1) b rfl (by exact jl 1252349646885850381906576 2 [1,1] rfl h (Nat.div_add_mod _ _)) hb hA (fun z=>absurd (z _ N6) (by exact fun e=>qv 72635450 0 [1,1] rfl h' e)) ?_))
    ·exact(Nat.le_total ((a+b)/2+1) (b)).elim (fun a0=>@mN [_,_,_,_,_,_] [] 13397384045049564716933551628552875090689 1 [2,-1,-1,1] rfl (aG (ar 19175151071376 rfl a0)) (aG (ar 504250624 rfl h)) (Nat.div_add_mod (a+b) 2) (Nat.mod_lt _ (by decide))) (fun a0=>gn 18704020045537624865 1 [1,1,-1] rfl h (Nat.sub_eq_zero_of_le (ar 25396143134976 rfl a0)) (aG (ar 504250624 rfl h)))
    ·rw[show(((a+b)/2+1:Nat):Int)=((a:Int)+b)/2+1 by exact rfl]
   ·have h':¬xs.getD (((a:Int)+b)/2).toNat 0≤mark:=of_decide_eq_false h';refine cL [] _ (fL (σ':=⟨[(138,.ref 0),(131,.int cJ),(152,.int mark),(153,.ref 4),(199,.int a),(200,.int (((a:Int)+b)/2))],[dz 1 2 3 la cp s0 s1 nu u0 u1 hl sp,.dead,.rows pl (some (cJ,4)),.dead,.ints xs]⟩) rfl rfl) (ah _ ?_ (fk a ((a+b)/2) rfl (gn 185077377625221325914624 2 [1,-1,1] rfl IS (Nat.div_add_mod (a+b) 2) (Nat.mod_lt _ (by decide))) (Nat.le_of_lt (Int.ofNat_lt.mp DM)) (fun z=>absurd (z _ N6) h') hB ?_))
    ·exact(Nat.le_total (a) ((a+b)/2)).elim (fun a0=>@mN [_,_,_,_,_,_] [] 1377889312550827522789762243454324513 2 [1,2,-2,1] rfl h (aG (ar 1048832 rfl a0)) (aG (ar 504250624 rfl h)) (Nat.div_add_mod (a+b) 2)) (fun a0=>gn 18704020045537624865 1 [1,1,-1] rfl h (Nat.sub_eq_zero_of_le (ar 1048832 rfl a0)) (aG (ar 504250624 rfl h)))
    ·rw[show(((a+b)/2:Nat):Int)=((a:Int)+b)/2 by exact rfl]
  ·have h:¬(a:Int)<b:=of_decide_eq_false h;obtain rfl:a=b:=by exact bo (ar 1048832 rfl IS) (ar 504270864 rfl h)
   refine ah _ ⟨fun h'=>?_,fun h'=>?_⟩ (fun a_ b_ h=>h)
   ·have h':(a:Int)>0:=cX h';have mL:∀x∈xs,x≤mark:=h3.resolve_right fun z=>by have:=hB z;exact rW 30099244874 0 [1,1] rfl h' this
    have q_:=hA mL;clear h hA hB IS hb;subst q_;have e:frameOf pl cJ mark=xs.getD ((xs.length:Int)-1).toNat 0:=by unfold frameOf;rw[hx];show(if _ then _ else _)=_;rw[aB (List.all_eq_true.mpr fun x hx=>decide_eq_true (mL x hx)),cW,List.getLast?_eq_getElem?,show((xs.length:Int)-1).toNat=xs.length-1 by exact bo (fe 20115645983802413568 1 [1,-1] rfl (aA (aC 246789207670899 rfl h')) (aG (ar 25420852695408 rfl (aA (aC 246789207670899 rfl h'))))) (fe 20115645983802413088 1 [-1,1] rfl (aA (aC 246789207670899 rfl h')) (aG (ar 25420852695408 rfl (aA (aC 246789207670899 rfl h')))))]
    refine⟨aX h1 (by decide),.inl (aN (aC 3948627543113843 rfl h') (bX 3783134916 rfl) (kJ [0,1,2,3] (qq _ _ ⟨rfl,rfl⟩) (by rw[e];rfl) (jj trivial trivial hk trivial trivial trivial) (Eq.trans ?_ (av (fun z=>[dz 1 2 3 la cp s0 s1 nu u0 u1 hl sp,O.dead,O.rows z none,O.dead]) same.symm)) tt))⟩;rfl
   ·have h':¬(a:Int)>0:=of_decide_eq_false h';have mL:∀x∈xs,mark<x:=h3.resolve_left fun z=>by have:=hA z;exact LN 19920185198362 0 [1,1,-1] rfl fE h' this
    have e:frameOf pl cJ mark=0:=by unfold frameOf;rw[hx];show(if _ then _ else _)=_;rw[aH];intro z;obtain⟨x,Hu⟩:=List.exists_mem_of_ne_nil _ h2;have:=cX (List.all_eq_true.mp z x Hu);have:=mL x Hu;exact qv 72635450 0 [1,1] rfl (by assumption) this
    refine kJ [0,1,2,3] (qq _ _ ⟨rfl,rfl⟩) (by rw[e];rfl) (jj trivial trivial hk trivial trivial trivial) (Eq.trans ?_ (av (fun z=>[dz 1 2 3 la cp s0 s1 nu u0 u1 hl sp,O.dead,O.rows z none,O.dead]) same.symm)) tt;rfl
 ·have e:frameOf pl cJ mark=0:=by unfold frameOf;rw[hx]
  exact au [0,1,2,3] (qq _ _ ⟨rfl,rfl⟩) (by rw[e];rfl) rfl tt
end
end
theorem mulR(h1: -4294967296≤y)(h2:y≤4294967296):IntMulOk x y:=by
 refine IntMulOk.of_right (intBits_le_iff.mpr (Nat.lt_of_le_of_lt (m:=4294967296) ?_ (by decide)));rcases Int.natAbs_eq y with e|e
 ·exact Int.ofNat_le.mp (Int.le_trans (Int.le_of_eq e.symm) h2)
 ·exact Int.ofNat_le.mp (Int.neg_le_neg_iff.mp (Int.le_trans h1 (Int.le_of_eq e)))
noncomputable def mB:O:=.inst 497 [(171,.ref 7),(172,.ref 8),(173,.ref 9)]
noncomputable def dO(di fi ix:Nat):O:=.inst 362 [(128,.ref di),(155,.str 194),(156,.int 8),(157,.str 225),(158,.ref fi),(159,.ref ix)]
noncomputable def newFrom(D:List (Int×Int))(n:Int):List Int→List (Int×Int)
 |[]=>D
 |p::l=>newFrom (dput D p (n+1)) (n+1) l
noncomputable abbrev newOf(fr:List Int):List (Int×Int):=newFrom [] 0 fr
theorem kL(p:Int)(l:List Int):∀(D:List (Int×Int)) (n:Int),newFrom D n (l++[p])=dput (newFrom D n l) p (n+l.length+1):=by
 induction l with
 |nil=>exact fun D n=>av (dput D p) (av (·+1) (Int.add_zero n).symm)
 |cons q l ih=>intro D n;refine(?_:newFrom (dput D q (n+1)) (n+1) (l++[p])=dput (newFrom (dput D q (n+1)) (n+1) l) p _);rw[ih,cB];congr 1;rw[show((l.length+1:Nat):Int)=l.length+1 from rfl];exact Int.le_antisymm (lq 1744636077642152695601555 rfl) (lq 1741989785019110335793555 rfl)
theorem lV(fr:List Int):(newOf fr).length≤fr.length:=by
 have key:∀(l:List Int) (D:List (Int×Int)) (n:Int),(newFrom D n l).length≤D.length+l.length:=by
  intro l;induction l with
  |nil=>intro D n;exact bF _
  |cons p l ih=>
   intro D n;have h1:=ih (dput D p (n+1)) (n+1)
   have h2:(dput D p (n+1)).length≤D.length+1:=by
    unfold dput;split
    ·rw[bK];exact Nat.le_succ _
    ·rw[bR];exact bF _
   refine(?_:(newFrom (dput D p (n+1)) (n+1) l).length≤_);rw[cB];exact m8 6854190992919875893504 rfl h1 h2
 have:=key fr [] 0;rwa[List.length_nil,Nat.zero_add]at this
section
variable{w:World}
theorem u3(x y n:Int)(h1: -2000000000≤n)(h2:n≤2000000000):aF w 127 4 0 [.tup [.int x,.int y],.int n] [] (dT (.tup [.int ((x+1)% 4294967296),.int ((y*69069+2*n+12345)% 4294967296)]) []) dk:=bA (F6 w) tt 30 (ji (by decide) (mulR (by decide) (by decide)) (mulR (by exact aZ 90574371382869951765420993190099 rfl h1) (by exact aZ 590295810515804998988541761603 rfl h2)) (by decide) (au [] ⟨rfl,rfl⟩ rfl rfl tt))
theorem p8:aF w 380 4 1 [.ref 0] [.inst 497 []] (dT (.none) [.inst 497 [(171,.ref 1),(172,.ref 2),(173,.ref 3)],.d0,.d0,.d0]) dk:=bA (Gs w) tt 30 (au [0,1,2,3] ⟨rfl,rfl⟩ rfl rfl tt)
theorem marks:aF w 487 4 4 [.ref 0,.str 194] [.inst 497 [(171,.ref 1),(172,.ref 2),(173,.ref 3)],.dead,.dead,.d0] (dT (.ref 4) [.inst 497 [(171,.ref 1),(172,.ref 2),(173,.ref 3)],.dead,.dead,.d0,.d0]) dk:=bA (Gu w) tt 30 (au [0,1,2,3,5] ⟨rfl,rfl⟩ rfl rfl tt)
theorem kM:aF w 204 4 2 [.ref 0,.ref 1,.str 194,.int 8] [.inst 362 [],.dead] (dT (.none) [.inst 362 [(128,.ref 1),(155,.str 194),(156,.int 8),(157,.str 225),(158,.none),(159,.none)],.dead]) dk:=bA (Ge w) tt 30 (bY 225 rfl (by decide) (au [0,1] ⟨rfl,rfl⟩ rfl rfl tt))
theorem jX:aF w 211 4 4 [.ref 0] [dO 1 2 3,.dead,.dead,.dead] (dT (.int 32) [dO 1 2 3,.dead,.dead,.dead]) dk:=bA (Gf w) tt 30 (au [0,1,2,3] ⟨rfl,rfl⟩ rfl rfl tt)
theorem iP(x:Int):aF w 218 12 4 [.ref 0,.int x] [dO 1 2 3,.dead,.dead,.dead] (dT (.int (32+(x-1)*32)) [dO 1 2 3,.dead,.dead,.dead]) dk:=by exact aE (Gg w) tt 30 fun qQ qX qq qx=>ae jX [0,1,2,3] tt rfl rfl [0,1,2,3] tt (⟨mulR (by decide) (by decide),au [0,1,2,3] (qq _ _ ⟨rfl,rfl⟩) rfl rfl tt⟩)
section
variable(la cp s0 s1 nu u0 u1:Int)(hl sp:Bool)
theorem u4:aF w 225 20 7 [.ref 0] [dO 1 2 3,.dead,.dead,dz 4 5 6 la cp s0 s1 nu u0 u1 hl sp,.dead,.dead,.dead] (dT (.int (32+(la+1-1)*32)) [dO 1 2 3,.dead,.dead,dz 4 5 6 la cp s0 s1 nu u0 u1 hl sp,.dead,.dead,.dead]) dk:=by exact aE (Gh w) tt 30 fun qQ qX qq qx=>ae (iP (la+1)) [0,1,2,3] tt rfl rfl [0,1,2,3] tt (au jh (qq _ _ ⟨rfl,rfl⟩) rfl rfl tt)
theorem p9:aF w 267 4 7 [.ref 0] [dO 1 2 3,.dead,.dead,dz 4 5 6 la cp s0 s1 nu u0 u1 hl sp,.dead,.dead,.dead] (dT (.int la) [dO 1 2 3,.dead,.dead,dz 4 5 6 la cp s0 s1 nu u0 u1 hl sp,.dead,.dead,.dead]) dk:=bA (Gk w) tt 30 (au jh ⟨rfl,rfl⟩ rfl rfl tt)
theorem eX(m:Int)(hm:(if cp=la then 0 else la)=m):aF w 274 4 7 [.ref 0] [dO 1 2 3,.dead,.dead,dz 4 5 6 la cp s0 s1 nu u0 u1 hl sp,.dead,.dead,.dead] (dT (.int m) [dO 1 2 3,.dead,.dead,dz 4 5 6 la cp s0 s1 nu u0 u1 hl sp,.dead,.dead,.dead]) dk:=by
 subst hm;refine bA (Gl w) tt 30 (ah _ ⟨fun h=>?_,fun h=>?_⟩ (fun a_ b_ h=>h))
 ·have h:(cp==la)=true:=h;exact au jh ⟨rfl,rfl⟩ (by rw[aB (beq_iff_eq.mp h)];rfl) rfl tt
 ·have h:(cp==la)=false:=h;exact au jh ⟨rfl,rfl⟩ (by rw[aH (beq_eq_false_iff_ne.mp h)];rfl) rfl tt
theorem count_at(co:List (Int×Int))(x:Int)(y:Option Int)(hy:aV co x=y):aF w 295 4 7 [.ref 0,.int x] [dO 1 2 3,.dead,.dead,dz 4 5 6 la cp s0 s1 nu u0 u1 hl sp,.dead,.dead,.eN co] (dT (V.opt y) [dO 1 2 3,.dead,.dead,dz 4 5 6 la cp s0 s1 nu u0 u1 hl sp,.dead,.dead,.eN co]) dk:=hy▸bA (Gm w) tt 30 ⟨fun y h=>au jh ⟨rfl,rfl⟩ (by rw[h];rfl) rfl tt,fun h=>au jh ⟨rfl,rfl⟩ (by rw[h];rfl) rfl tt⟩
theorem u5(fr:List Int)(hz:fr.length≤100000)(fy:fr≠[]):aF w 183 4 4 [.ref 0,.int 0,.int fr.length] [dz 1 2 3 la cp s0 s1 nu u0 u1 hl sp,.ints fr,.dead,.dead] (dT (.ref 4) [dz 1 2 3 la cp s0 s1 nu u0 u1 hl sp,.ints fr,.dead,.dead,.eN (newOf fr)]) dk:=by
 refine aE (Gd w) tt 30 fun qQ qX qq qx=>ji (by decide) (by decide) (by exact c7 _) (by exact aC 472238271669162508193500819 rfl hz) (⟨fun k σ=>k≤fr.length∧∃o,((k=0∧o=.d0)∨(0<k∧o=.eN (newOf (fr.take k))))∧σ=⟨[(138,.ref 0),(154,.int 0),(152,.int fr.length),(132,.ref 4)],[dz 1 2 3 la cp s0 s1 nu u0 u1 hl sp,.ints fr,.dead,.dead,o]⟩,(d7 (Nat.zero_le _) _ (.inl ⟨rfl,rfl⟩) rfl),fun a_ b_ c_ d_=>trivial,?_,?_⟩)
 ·intro k v Lj hk fQ;subst fQ;intro q;refine gO q fun hle o ho e_=>?_;clear q;subst e_;have hk:k<fr.length:=by exact eR 28865337720527216991801857 rfl hk (aA (bX 1720508201120153715 rfl))
  have e1:(0:Int)+1+k-1=k:=by exact Int.le_antisymm (bX 3965998957304259 rfl) (bX 6489416538898659 rfl)
  have e2:fr.take (k+1)=fr.take k++[fr.getD ((0:Int)+1+k-1).toNat 0]:=by rw[e1,Int.toNat_natCast,cW,cn hk,Option.getD_some,List.take_append_getElem hk]
  have e3:newOf (fr.take (k+1))=dput (newOf (fr.take k)) (fr.getD ((0:Int)+1+k-1).toNat 0) (0+1+k):=by rw[e2];have:=kL (fr.getD ((0:Int)+1+k-1).toNat 0) (fr.take k) [] 0;rw[show newOf (fr.take k++[_])=newFrom [] 0 (fr.take k++[_]) from rfl,this,List.length_take,cq hle];congr 1;exact Int.le_antisymm (bX 16244617521496357267 rfl) (bX 26580378663905163667 rfl)
  rcases ho with⟨rfl,rfl⟩|⟨h0,rfl⟩
  ·exact⟨aX hz (by decide),.inl (aN (by exact c7 _) (by exact aC 33367961718437532113348 rfl hk) (aJ [] _ (fL (σ':=⟨[(138,.ref 0),(154,.int 0),(152,.int fr.length),(132,.ref 4)],_⟩) rfl rfl) (by assumption) (ah _ (.inr ⟨by exact bF _,by rw[e3];rfl⟩) rfl)))⟩
  ·refine⟨aX hz (by decide),.inl (aN (by exact bX 1720622989065175155 rfl) (by exact ar 4742981675948043639236 rfl hk) ?_)⟩;exact⟨aX (lV _) (by rw[List.length_take];exact m9 5609491811237116140935206944 rfl hz hle (cq (ar 1052928 rfl hk))),(aJ [] _ (fL (σ':=⟨[(138,.ref 0),(154,.int 0),(152,.int fr.length),(132,.ref 4)],_⟩) rfl rfl) (by assumption) (ah _ (.inr ⟨by exact Nat.le_add_left _ _,by rw[e3];rfl⟩) rfl))⟩
 ·intro Lj q;refine gO q fun hle o ho e_=>?_;clear q;subst e_;rcases ho with⟨h0,rfl⟩|⟨h0,rfl⟩
  ·exact absurd (List.eq_nil_of_length_eq_zero (by exact bo (iA 7389526456382908856199677712 1 [1,-1] rfl h0 (aA (bX 1720508201120153715 rfl))) (bX 112 rfl))) fy
  ·exact au [0,1,2,3,4] (qq _ _ ⟨rfl,rfl⟩) rfl (by rw[List.take_of_length_le (by exact eQ 7047201591856869560336 1 [-1] rfl (aA (bX 1720508201120153715 rfl)))];rfl) tt
end
end
noncomputable def BK(b:aD)(x y:Int):Nat→Int×Int
 |0=>(x,y)
 |k+1=>(((BK b x y k).1+num (aL b (8*k) (8*k+4))+(BK b x y k).2)% 4294967296,((BK b x y k).2+num (aL b (8*k+4) (8*k+8))+((BK b x y k).1+num (aL b (8*k) (8*k+4))+(BK b x y k).2)% 4294967296)% 4294967296)
noncomputable def ck(b:aD)(x y:Int):Int×Int:=BK b x y (b.length/8)
noncomputable def words(b:aD)(n:Nat):List Int:=(List.range n).map fun k=>num (aL b (4*k) (4*k+4))
theorem tm(b:aD)(i j:Nat):(aL b i j).length≤j-i:=by unfold aL;rw[List.length_take];exact Nat.min_le_left _ _
section
variable{w:World}
theorem fV(b:aD)(x y v0 v1:Int)(hv:ck b x y=(v0,v1))(hb:b.length≤100000)(h8:b.length% 8=0):aF w 120 4 0 [.bytes b,.tup [.int x,.int y]] [] (dT (.tup [.int v0,.int v1]) []) dk:=by
 obtain rfl:(ck b x y).1=v0:=av Prod.fst hv;obtain rfl:(ck b x y).2=v1:=av Prod.snd hv;refine aE (F5 w) tt 30 fun qQ qX qq qx=>cZ (aC 450361510914957531136 rfl hb) (by decide) (fun h=>?_) (fun h=>?_)
 ·have h:(!((b.length:Int)% 8==0))=true:=h;rw[show((b.length:Int)% 8==0)=true by rw[beq_iff_eq];exact av Int.ofNat h8]at h;exact absurd h (by decide)
 ·refine⟨fun n σ=>∃k:Nat,n=b.length-k∧8*k≤b.length∧σ=⟨[(113,.bytes b),(116,.tup [.int x,.int y]),(141,.int (BK b x y k).1),(142,.int (BK b x y k).2),(93,.int b.length),(114,.int (8*(k:Int)))],[]⟩,(aJ _ 0 rfl (Nat.zero_le _) rfl),?_⟩;intro n_ Lj q;refine cg q fun k az hk aQ=>?_;clear q;subst az;subst aQ;refine⟨fun h=>?_,fun h=>?_⟩
  ·have h:8*(k:Int)<b.length:=cX h;have e0:(8*(k:Int)).toNat=8*k:=by exact rfl
   have e4:(8*(k:Int)+((4:Nat):Int)).toNat=8*k+4:=by exact rfl
   have e8:(8*(k:Int)+((8:Nat):Int)).toNat=8*k+8:=by exact rfl
   have N7:b.length≤1000000:=by exact aC 450361510914957531136 rfl hb
   refine HL (c7 _) (c7 _) N7 tt ?_ (by decide) (c7 _) (c7 _) N7 tt ?_ (by decide) ?_
   ·exact aX (tm _ _ _) (gn 9972601176300607176356022064 1 [-1,1,1] rfl e0 e4 (aG (fe 1310910754955347370496 1 [1,-1] rfl e0 e4)))
   ·exact aX (tm _ _ _) (gn 40847851789379743289844487571248 1 [-1,1,1] rfl e4 e8 (aG (fe 10205193730815570970944000 1 [1,-1] rfl e4 e8)))
   ·refine cL [] ⟨[(113,.bytes b),(116,.tup [.int x,.int y]),(141,.int (BK b x y (k+1)).1),(142,.int (BK b x y (k+1)).2),(93,.int b.length),(114,.int (8*((k+1:Nat):Int)))],[]⟩ (fL rfl (.cons rfl (.cons rfl (.cons ?_ (.cons ?_ (.cons rfl (.cons ?_ rfl))))))) (ah (b.length-(k+1)) (jl 2393982159523750657 1 [1,-1] rfl (aG (ar 8459679576453264 rfl h)) (aG (bG 2298227532304 rfl (aG (ar 8459679576453264 rfl h))))) (bY (k+1) rfl (OA h8 (Int.ofNat_lt.mp h)) rfl))
    ·refine(?_:some (V.int _)=some (V.int _));rw[e0,e4];rfl
    ·refine(?_:some (V.int _)=some (V.int _));rw[e0,e4,e8];rfl
    ·refine(?_:some (V.int _)=some (V.int _));congr 2
  ·have h:¬8*(k:Int)<b.length:=of_decide_eq_false h;have e:k=b.length/8:=by exact bo (gn 2432178499952183478330128 8 [1,1,-1] rfl h8 hk (Nat.div_add_mod (b.length) 8)) (jl 5645327753828213887008 8 [1,1] rfl h (Nat.div_add_mod _ _))
   clear h hk;subst e;exact au [] (qq _ _ ⟨rfl,rfl⟩) rfl rfl tt
theorem AM(C:aP w T ρ ρ [o] l):∃a,ρ=[a]∧OR w T [a] a o l:=by cases C with|cons h r=>cases r;exact ah _ rfl ((List.append_nil _).symm▸h)
theorem wI(C:aP w T ρ ρ [] l):ρ=[]∧l=[]:=by cases C;exact⟨rfl,rfl⟩
theorem rv(h:bT T ρ [v] xs):∃x,xs=[x]∧VR T ρ v x:=by refine ao h.cons_inv fun x ys aQ h1 h2=>?_;clear h;subst aQ;rw[h2.nil_inv];exact ah x rfl h1
theorem AN:ik g h []:=fun a_ hp=>nomatch hp
theorem iQ(ws:List Int)(h:(Nat.ble ws.length 6&& !(Nat.beq ws.length 1))=true):aF w 108 12 1 [.ref 0] [.list (ws.map .int)] (dT (.bytes (en ws)) [.dead]) dk:=by
 intro cy mg mb dp un gd stack base g s R S ρ vals led B kp sz X T hS N D C vs ki rR ret err;obtain⟨h6,h1⟩:=Bool.and_eq_true_iff.mp h;have h6:=bZ h6;refine aa (rv vs) fun x az vx=>?_;clear vs;subst az;refine aa (AM C) fun a az t_=>ao t_ fun ob bw IF N8 hv=>?_;clear C err;subst az;clear D t_;subst IF;refine bg N8 fun n az=>?_;clear N8;subst az;refine aa vx.bI fun a' ha aQ=>?_;clear vx;subst aQ;have q_:=bf ha;clear ha;subst q_;have hI:=kG hv;have hl:bw.size=ws.length:=iB hI;refine gw (pA w a bw ws [(a,listOf bw n)] hI (hl▸aX h6 (bZ tt)) (fun e=>?_) (aX h6 (bZ tt)) cy mg mb dp un gd stack base g s R B kp sz X T N (.inl ⟨n,aS⟩) ki fun v h' dU J3 ⟨t,e⟩=>?_)
 ·rw[e]at h1;exact absurd h1 (by decide)
 ·exact ret v h' dU [a] [] _ [.dead] [] J3 AN List.nodup_nil (fun a_ b_=>rfl) (.cons (l:=[]) rfl .nil) tt (e▸.bytes) ⟨rfl,rfl⟩
theorem tn(x y:Int):aF w 108 12 0 [.tup [.int x,.int y]] [] (dT (.bytes (en [x,y])) []) dk:=by intro cy mg mb dp un gd stack base g s R S ρ vals led B kp sz X T hS N D C vs ki rR ret err;refine aa (rv vs) fun z az vz=>?_;clear vs;subst az;refine fz (wI C) fun fQ az=>?_;clear C err;subst fQ;clear D;subst az;refine bS vz.fb fun a bw n ew hT hv=>?_;clear vz;subst ew;have hI:IntsAre bw.toList [x,y]:=kG (xs:=[x,y]) hv;have hl:bw.size=2:=iB hI;refine gw (pA w a bw [x,y] [] hI (hl▸bZ tt) (fun h=>nomatch h) (bZ tt) cy mg mb dp un gd stack base g s R B kp sz X T N (.inr ⟨n,hT.elim (hS _ _) (X _ _)⟩) ki fun v h' dU J3 df=>?_);obtain⟨t,e⟩:=df;exact ret v h' dU [] [] _ [] [] J3 AN List.nodup_nil (fun a_ b_=>rfl) .nil tt (e▸.bytes) ⟨rfl,rfl⟩
theorem qc(b:aD)(n:Nat)(ws:List Int)(hw:words b n=ws)(hb:b.length≤64)(hn:n≤8):aF w 113 12 0 [.bytes b,.int 0,.int n] [] (dT (.ref 0) [.ints ws]) dk:=by intro cy mg mb dp un gd stack base g s R S ρ vals led B kp sz X T hS N D C vs ki rR ret err;obtain⟨x1,xs,rfl,v1,vs⟩:=vs.cons_inv;obtain⟨x2,xs,rfl,v2,vs⟩:=vs.cons_inv;refine aa (rv vs) fun x3 az v3=>?_;clear vs;subst az;refine fz (wI C) fun fQ az=>?_;clear C err;subst fQ;subst az;refine bg v1.bQ fun t0 az=>?_;clear v1;subst az;refine bg v2.int_inv fun t1 az=>?_;clear v2;subst az;refine bg v3.int_inv fun t2 az=>?_;clear v3;subst az;refine gw (uq w b.toArray n t0 t1 t2 hn (by rw[List.size_toArray];exact hb) cy mg mb dp un gd stack base g s R B kp sz X T N D (aX (Nat.add_le_add_left (by decide) dp) ki) (aX (Nat.add_le_add_left (by decide) un) rR) ?_ fun a_ b_ c_ d_ e_ f_ h=>h.elim);intro v post h' dU J3 N' D' q;refine ao q fun d ys az aQ hi=>?_;clear q;subst az;subst aQ;exact ret _ h' dU [d] [] (.ref 0) [.ints ws] [(d,LCg.lst ys)] J3 N' D' (fun i hi=>absurd hi (Nat.not_lt_zero i)) (.cons (l:=[(d,LCg.lst ys)]) (aJ _ ys.toArray rfl ⟨ys.length,rfl⟩ (gE (hw▸hi))) .nil) tt (.ref rfl) ⟨rfl,rfl⟩
end
structure Ix where
 la:Int
 cp:Int
 s0:Int
 s1:Int
 nu:Int
 u0:Int
 u1:Int
 hl:Bool
 sp:Bool
 fr:List Int
 pl:List (Int×List Int)
 co:List (Int×Int)
noncomputable def Ix.o(I:Ix):O:=dz 12 13 14 I.la I.cp I.s0 I.s1 I.nu I.u0 I.u1 I.hl I.sp
noncomputable abbrev lw(n:Int)(c:Option Int)(sy b:aD)(ops:List Op)(I:Ix):List O:=[dO 1 2 3,dc n c 4 5 6,dA 1 225 sy 11 10,I.o,.dead,.dead,mB,.dead,.dead,.d0,.ba b,.ops ops,.ints I.fr,.rows I.pl none,.eN I.co]
noncomputable def oh(nu s0 s1:Int):aD:=en [931071618,3007000,8,nu,s0,s1]
noncomputable def cx(nu s0 s1:Int):Int×Int:=ck (oh nu s0 s1) 0 0
noncomputable def eJ(nu s0 s1:Int):aD:=oh nu s0 s1++en [(cx nu s0 s1).1,(cx nu s0 s1).2]
noncomputable def fX(p k:Int)(o:aD)(u:Int×Int):Int×Int:=ck (en [p,k]++o) u.1 u.2
noncomputable def mY(s0 s1 p k:Int)(o:aD)(u:Int×Int):aD:=en [p,k]++en [s0,s1,(fX p k o u).1,(fX p k o u).2]++o
theorem gK(nu s0 s1:Int):(oh nu s0 s1).length=24:=by unfold oh;rw[da];exact rfl
theorem rx(a b:Int):(en [a,b]).length=8:=by rw[da];exact rfl
theorem AO(a b c d:Int):(en [a,b,c,d]).length=16:=by rw[da];exact rfl
section
variable{w:World}(n:Int)(c:Option Int)(sy b:aD)(ops:List Op)(I:Ix)
noncomputable abbrev Ix.re(I:Ix):Ix:={I with la:=0,cp:=0,s0:=(I.s0+1)% 4294967296,s1:=(I.s1*69069+2*(I.nu+1)+12345)% 4294967296,nu:=I.nu+1,u0:=0,u1:=0,sp:=false,fr:=[],pl:=[],co:=[]}
theorem ry(I2:Ix)(h:I.cp=I.la)(hn:0≤I.nu∧I.nu≤1000000)(e0:¬0<I.la→I=I2)(e1:0<I.la→I.re=I2):aF w 352 40 12 [.ref 0] (lw n c sy b ops I) (dT (.bool true) (lw n c sy b ops I2)) dk:=by
 refine aE (AB w) tt 30 fun qQ qX qq qx=>⟨fun h'=>?_,fun a_=>?_⟩
 ·have h':(!(I.cp==I.la))=true:=h';rw[h]at h';simp at h'
 ·refine ae marks [6,7,8,9] tt rfl rfl [6,7,8,9,15] tt (⟨fun h'=>?_,fun h'=>?_⟩)
  ·exact ae (u3 I.s0 I.s1 (I.nu+1) (aZ 304354508475542064367827 rfl hn.1) (aZ 75557889776712590922986124435 rfl hn.2)) [] tt rfl rfl [] tt (ae (lT I.la I.cp ((I.s0+1)% 4294967296) ((I.s1*69069+2*(I.nu+1)+12345)% 4294967296) (I.nu+1) I.u0 I.u1 I.hl I.sp) [3,12,13,14] tt rfl rfl [3,16,17,18] tt (au [0,1,2,3,4,5,6,7,8,9,10,11,16,17,18] (qq _ _ ⟨rfl,av (lw n c sy b ops) (e1 (cX h'))⟩) rfl rfl tt))
  ·exact au dR (qq _ _ ⟨rfl,av (lw n c sy b ops) (e0 (of_decide_eq_false h'))⟩) rfl rfl tt
theorem tr(H:aD)(hH:eJ I.nu I.s0 I.s1=H):aF w 239 24 15 [.ref 0] (lw n c sy b ops I) (dT (.bytes H) (lw n c sy b ops I)) dk:=by subst hH;refine aE (Gi w) tt 30 fun qQ qX qq qx=>ae (iQ [931071618,3007000,8,I.nu,I.s0,I.s1] tt) [15] tt rfl rfl [15] tt (ae (fV (oh I.nu I.s0 I.s1) 0 0 (cx I.nu I.s0 I.s1).1 (cx I.nu I.s0 I.s1).2 rfl (by rw[gK];decide) (by rw[gK])) [] tt rfl rfl [] tt (ae (tn (cx I.nu I.s0 I.s1).1 (cx I.nu I.s0 I.s1).2) [] tt rfl rfl [] tt ?_));refine⟨by refine(?_:(oh _ _ _).length+_≤_);rw[gK,rx];decide,?_⟩;exact au dR (qq _ _ ⟨rfl,rfl⟩) rfl rfl tt
theorem rz(p k:Int)(o:aD)(u0 u1:Int)(F:aD)(v:Int×Int)(hF:mY I.s0 I.s1 p k o (u0,u1)=F)(hv:fX p k o (u0,u1)=v)(ho:o.length=8):aF w 323 24 15 [.ref 0,.int p,.bytes o,.int k,.tup [.int u0,.int u1]] (lw n c sy b ops I) (dT (.tup [.bytes F,.tup [.int v.1,.int v.2]]) (lw n c sy b ops I)) dk:=by subst hF hv;refine aE (Gp w) tt 30 fun qQ qX qq qx=>?_;have l1:=rx p k;refine ae (iQ [p,k] tt) [15] tt rfl rfl [15] tt ?_;refine⟨by exact dC 39866327824206843609488 rfl ho l1,(ae (fV (en [p,k]++o) u0 u1 (fX p k o (u0,u1)).1 (fX p k o (u0,u1)).2 rfl (by rw[bR];exact dC 39866327809107349209488 rfl ho l1) (by rw[bR,l1,ho])) [] tt rfl rfl [] tt (ae (iQ [I.s0,I.s1,(fX p k o (u0,u1)).1,(fX p k o (u0,u1)).2] tt) [16] tt rfl rfl [16] tt (aN (by rw[l1,AO];decide) (by rw[bR,l1,AO];exact aC 10201183373882264383945104 rfl ho) ?_)))⟩;exact au dR (qq _ _ ⟨rfl,rfl⟩) rfl rfl tt
end
noncomputable def lW(s0 s1 u0 u1:Int)(k:aD):Option (Int×Int×Int×Int):=
 if k.length<32 then none
 else if num (aL k 0 4)=0∨¬(num (aL k 8 12)=s0∧num (aL k 12 16)=s1)then none
 else if num (aL k 16 20)=(ck (aL k 0 8++aL k 24 k.length) u0 u1).1∧num (aL k 20 24)=(ck (aL k 0 8++aL k 24 k.length) u0 u1).2 then some (num (aL k 0 4),num (aL k 4 8),(ck (aL k 0 8++aL k 24 k.length) u0 u1).1,(ck (aL k 0 8++aL k 24 k.length) u0 u1).2)
 else none
noncomputable def J4:Option (Int×Int×Int×Int)→V
 |none=>.none
 |some (p,c,l0,l1)=>.tup [.int p,.int c,.tup [.int l0,.int l1]]
theorem yn(k:aD)(n:Nat):(words k n).length=n:=by unfold words;rw[bK,List.length_range]
section
variable{w:World}(n:Int)(c:Option Int)(sy b:aD)(ops:List Op)(I:Ix)
theorem u6(number u0 u1:Int)(k:aD)(h0:0≤32+(number-1)*32)(hb:b.length≤100000)(hk:aL b (32+(number-1)*32).toNat (32+(number-1)*32+32).toNat=k)(hl:k.length≤32):aF w 253 30 15 [.ref 0,.int number,.tup [.int u0,.int u1]] (lw n c sy b ops I) (dT (J4 (lW I.s0 I.s1 u0 u1 k)) (lw n c sy b ops I)) dk:=by
 refine aE (Gj w) tt 40 fun qQ qX qq qx=>ae (iP number) [0,1,2,3] tt rfl rfl [0,1,2,3] tt (ae jX [0,1,2,3] tt rfl rfl [0,1,2,3] tt (ae (fJ (w:=w) 225 sy b (32+(number-1)*32) 32 k hk h0 (by decide) hb) [2,1,11,10] tt rfl rfl [2,1,11,10] tt ?_));refine⟨by exact aC 144818941053655040 rfl hl,(ae jX [0,1,2,3] tt rfl rfl [0,1,2,3] tt (⟨fun h=>?_,fun h=>?_⟩))⟩
 ·have h:(k.length:Int)<32:=cX h;have e:lW I.s0 I.s1 u0 u1 k=none:=by unfold lW;rw[aB (by exact aC 565702559803393 rfl h)]
  exact au dR (qq _ _ ⟨rfl,rfl⟩) (by rw[e];rfl) rfl tt
 ·have h:¬(k.length:Int)<32:=of_decide_eq_false h;have AP:k.length=32:=by exact bo (aC 35356172888064 rfl hl) (aC 565702641713792 rfl h)
  refine ae (qc (w:=w) k 6 (words k 6) rfl (aC 35356208539648 rfl AP) (by decide)) [] tt rfl rfl [15] tt ?_;have z6:(words k 6).length≤1000000:=by rw[yn];decide
  have D6:(num (aL k 0 4)=0∨¬(num (aL k 8 12)=I.s0∧num (aL k 12 16)=I.s1))→lW I.s0 I.s1 u0 u1 k=none:=fun z=>by unfold lW;rw[aH (by exact fun e=>rW 565699034644522 0 [-1,1] rfl AP e),aB z]
  refine⟨z6,.inl (cZ (by decide) (show(0:Int)<6 by decide) (fun h1=>?_) (fun h1=>?_))⟩
  ·have h1:(num (aL k 0 4)==0)=true:=h1;exact au dR (qq _ _ ⟨rfl,rfl⟩) (by rw[D6 (.inl (beq_iff_eq.mp h1))];rfl) rfl tt
  ·have h1:(num (aL k 0 4)==0)=false:=h1;refine⟨z6,.inl (cZ (by decide) (show(2:Int)<6 by decide) z6 (.inl (cZ (by decide) (show(3:Int)<6 by decide) (fun h2=>?_) (fun h2=>?_))))⟩
   ·have h2:(!((num (aL k 8 12)==I.s0)&&((num (aL k 12 16)==I.s1)&&true)))=true:=h2;have no:¬(num (aL k 8 12)=I.s0∧num (aL k 12 16)=I.s1):=fun z=>by rw[z.1,z.2]at h2;simp at h2
    exact au dR (qq _ _ ⟨rfl,rfl⟩) (by rw[D6 (.inr no)];rfl) rfl tt
   ·have h2:(!((num (aL k 8 12)==I.s0)&&((num (aL k 12 16)==I.s1)&&true)))=false:=h2;have h2:num (aL k 8 12)=I.s0∧num (aL k 12 16)=I.s1:=by simpa using h2
    have no:¬(num (aL k 0 4)=0∨¬(num (aL k 8 12)=I.s0∧num (aL k 12 16)=I.s1)):=fun z=>z.elim (beq_eq_false_iff_ne.mp h1) fun z=>z h2;have l8:(aL k 0 8).length=8:=by unfold aL;rw[List.length_take,List.length_drop];exact AP.symm▸rfl
    have MY:(aL k 24 k.length).length=8:=by unfold aL;rw[List.length_take,List.length_drop];exact bo (m9 114077629303253949777680 rfl hl (cq (bX 0 rfl)) (aG (fm 35356204434048 1 [-1] rfl AP))) (tZ 1825242068852063211165808 1 [1,-1,-1] rfl h (cq (bX 0 rfl)) (aG (fm 35356204434048 1 [-1] rfl AP)))
    refine jj (by decide) (by exact aC 144819078492608512 rfl AP) (by decide) (aC 144819078492608512 rfl AP) (by refine(?_:(aL k 0 8).length+(aL k 24 k.length).length≤_);exact dC 39866327824206843613328 rfl l8 MY) ?_;refine ae (fV (aL k 0 8++aL k 24 k.length) u0 u1 (ck (aL k 0 8++aL k 24 k.length) u0 u1).1 (ck (aL k 0 8++aL k 24 k.length) u0 u1).2 rfl (by rw[bR];exact dC 39866327809107349213328 rfl l8 MY) (by rw[bR,l8,MY])) [] tt rfl rfl [] tt ?_;refine⟨z6,.inl (cZ (by decide) (show(4:Int)<6 by decide) z6 (.inl (cZ (by decide) (show(5:Int)<6 by decide) (fun h3=>?_) (fun h3=>?_))))⟩
    ·have h3:(!((num (aL k 16 20)==(ck (aL k 0 8++aL k 24 k.length) u0 u1).1)&&((num (aL k 20 24)==(ck (aL k 0 8++aL k 24 k.length) u0 u1).2)&&true)))=true:=h3;have e:lW I.s0 I.s1 u0 u1 k=none:=by unfold lW;rw[aH (by exact fun e=>rW 565699034644522 0 [-1,1] rfl AP e),aH no,aH fun z=>?_];rw[z.1,z.2]at h3;simp at h3
     exact au dR (qq _ _ ⟨rfl,rfl⟩) (by rw[e];rfl) rfl tt
    ·have h3:(!((num (aL k 16 20)==(ck (aL k 0 8++aL k 24 k.length) u0 u1).1)&&((num (aL k 20 24)==(ck (aL k 0 8++aL k 24 k.length) u0 u1).2)&&true)))=false:=h3;have h3:num (aL k 16 20)=(ck (aL k 0 8++aL k 24 k.length) u0 u1).1∧num (aL k 20 24)=(ck (aL k 0 8++aL k 24 k.length) u0 u1).2:=by simpa using h3
     have e:lW I.s0 I.s1 u0 u1 k=some (num (aL k 0 4),num (aL k 4 8),(ck (aL k 0 8++aL k 24 k.length) u0 u1).1,(ck (aL k 0 8++aL k 24 k.length) u0 u1).2):=by unfold lW;rw[aH (by exact fun e=>rW 565699034644522 0 [-1,1] rfl AP e),aH no,aB h3]
     exact⟨z6,.inl (cZ (by decide) (show(0:Int)<6 by decide) z6 (.inl (aN (by decide) (show(1:Int)<6 by decide) (au dR (qq _ _ ⟨rfl,rfl⟩) (by rw[e];rfl) rfl tt))))⟩
end
abbrev Wd(x:Int):Prop:=0≤x∧x<4294967296
section
variable{w:World}(n:Int)(c:Option Int)(sy b:aD)(ops:List Op)(I:Ix)
theorem u7(hb:b.length<32):aF w 246 30 15 [.ref 0] (lw n c sy b ops I) (dT (.bool false) (lw n c sy b ops I)) dk:=by
 refine aE (Ay w) tt 40 fun qQ qX qq qx=>?_;have l:(aL b 0 32).length<32:=by unfold aL;rw[List.length_take,List.length_drop];exact m9 33815336384262714697745 rfl hb (Nat.min_le_right _ _) (aG (bX 112 rfl))
 refine ae (fJ (w:=w) 225 sy b 0 32 (aL b 0 32) rfl (by decide) (by decide) (aC 144818950790731776 rfl hb)) [2,1,11,10] tt rfl rfl [2,1,11,10] tt ?_;refine aN (by refine(?_:(aL b 0 32).length≤_);exact aC 144819009773131776 rfl l) (fun a_=>?_) (fun h=>?_)
 ·exact au dR (qq _ _ ⟨rfl,rfl⟩) rfl rfl tt
 ·have h:¬((aL b 0 32).length:Int)<32:=of_decide_eq_false h;exact False.elim (rW 9051242299031578 0 [1,1] rfl l h)
theorem u9(nu s0 s1 u0 u1:Int)(H:aD)(hb:b.length≤100000)(hh:aL b 0 32=H)(lh:H.length=32)(hw:words H 8=[931071618,3007000,8,nu,s0,s1,u0,u1])(hc:ck (aL H 0 24) 0 0=(u0,u1)):
  aF w 246 30 15 [.ref 0] (lw n c sy b ops I) (dT (.bool true) (lw n c sy b ops {I with nu:=nu,s0:=s0,s1:=s1,u0:=u0,u1:=u1})) dk:=by
 refine aE (Ay w) tt 40 fun qQ qX qq qx=>ae (fJ (w:=w) 225 sy b 0 32 H hh (by decide) (by decide) hb) [2,1,11,10] tt rfl rfl [2,1,11,10] tt (aN (aC 144819078492608512 rfl lh) (fun h=>?_) (fun a_=>?_))
 ·have h:(H.length:Int)<32:=cX h
  exact False.elim (rW 9051240956854314 0 [-1,1] rfl lh h)
 ·refine ae (qc (w:=w) H 8 _ hw (aC 35356208539648 rfl lh) (by decide)) [] tt rfl rfl [15] tt ?_
  have lc:(aL H 0 24).length=24:=by unfold aL;rw[List.length_take,List.length_drop,lh];rfl
  refine aN (by decide) (aC 144819078492608512 rfl lh) (ae (fV (w:=w) (aL H 0 24) 0 0 u0 u1 hc (by rw[lc];decide) (by rw[lc])) [] tt rfl rfl [] tt ?_)
  have z8:([931071618,3007000,8,nu,s0,s1,u0,u1]:List Int).length≤1000000:=show 8≤1000000 by decide
  refine⟨z8,.inl (cZ (by decide) (show(0:Int)<8 by decide) (fun h=>?_) (fun a_=>?_))⟩
  ·exact absurd (show false=true from h) (by decide)
  refine⟨z8,.inl (cZ (by decide) (show(1:Int)<8 by decide) (fun h=>?_) (fun a_=>?_))⟩
  ·exact absurd (show false=true from h) (by decide)
  refine⟨z8,.inl (cZ (by decide) (show(6:Int)<8 by decide) z8 (.inl (cZ (by decide) (show(7:Int)<8 by decide) (fun h=>?_) (fun a_=>?_))))⟩
  ·have h:(!((u0==u0)&&((u1==u1)&&true)))=true:=h
   simp at h
  refine⟨z8,.inl (cZ (by decide) (show(2:Int)<8 by decide) (fun h=>?_) (fun a_=>?_))⟩
  ·exact absurd (show false=true from h) (by decide)
  refine⟨z8,.inl (aN (by decide) (show(3:Int)<8 by decide) ?_)⟩
  refine⟨z8,.inl (aN (by decide) (show(4:Int)<8 by decide) ((?_:yC _ _ _ _)))⟩
  exact⟨z8,.inl (aN (by decide) (show(5:Int)<8 by decide) (au dR (qq _ _ ⟨rfl,rfl⟩) rfl rfl tt))⟩
theorem vd(H:aD)(u0 u1:Int)(h1:I.hl=true→b=[])(hb:b.length≤50000)(ho:ops.length≤1000)(hH:eJ I.nu I.s0 I.s1=H)(lh:H.length=32)(hc:ck (aL H 0 24) 0 0=(u0,u1))(hp:(dh b 0 H).length≤100000):aF w 309 60 11 [.ref 0] (lw n c sy b ops I) (dT (.none) (lw (n+1+1) c (dh b 0 H) (dh b 0 H) [] {I with hl:=false,u0:=u0,u1:=u1})) (fun cs'=>c≠none∧∃n,(cs'=lw n c sy b ops I∨cs'=lw n c sy (dh b 0 H) (ops++[.write 0 H]) I)):=by
 refine aE (Gn w) tt 40 fun qQ qX qq qx=>?_;have lc:(aL H 0 24).length=24:=by unfold aL;rw[List.length_take,List.length_drop,lh];rfl
 refine ah (fun σ=>σ=⟨[(138,.ref 0)],lw n c sy b ops I⟩) (aN trivial (fun h=>?_) (fun a_=>jv rfl rfl rfl)) ?_
 ·have h:I.hl=true:=h;have e:b.length=0:=by rw[h1 h];rfl
  exact ae (eW (w:=w) 225 sy b (aC 123289294886912 rfl e)) [2,1,11,10] tt rfl rfl [2,1,11,10] tt (⟨fun h=>absurd (show(b.length:Int)>0 from cX h) (by rw[e];decide),fun a_=>jv rfl rfl rfl⟩)
 ·rintro _ rfl;refine ae (tr (w:=w) n c sy b ops I H hH) dR tt rfl rfl dR tt (cI (jU (w:=w) 225 n c sy b ops 0 H _ _ rfl rfl (by decide) (by decide) (aC 225181248012473620480 rfl hb) (aC 9051191586605056 rfl lh) (aC 4504584796342605824 rfl ho)) [2,1,4,5,6,11,10] tt rfl rfl [2,1,4,5,6,11,10] [2,1,4,5,6,11,10] tt tt ?_ (fun h=>?_))
  ·refine cI (fK (w:=w) 225 (n+1) c sy (dh b 0 H) (ops++[.write 0 H]) hp) [2,1,4,5,6,10,11] tt rfl rfl [2,1,4,5,6,10,15] [2,1,4,5,6,10,15] tt tt ?_ (fun h=>?_)
   ·exact aN (by decide) (aC 144819078492608512 rfl lh) (ae (fV (w:=w) (aL H 0 24) 0 0 u0 u1 hc (by rw[lc];decide) (by rw[lc])) [] tt rfl rfl [] tt (au [0,1,2,3,4,5,6,7,8,9,10,15,12,13,14] (qq _ _ ⟨rfl,rfl⟩) rfl rfl tt))
   ·exact bJ [0,1,2,3,4,5,6,7,8,9,10,15,12,13,14] (qx _ (et h (n+1) (.inr rfl))) rfl tt
  ·exact bJ dR (qx _ (et h n (.inl rfl))) rfl tt
end
noncomputable def pg(x:Int):aD:=(List.replicate 8 [x.toNat.toUInt8]).flatten
section
variable{w:World}
theorem ie(x:Int)(o:aD)(ho:pg x=o)(h0:0≤x)(h1:x<256):aF w 719 4 0 [.int x] [] (dT (.bytes o) []) dk:=ho▸bA (GN w) tt 30 (Ek h0 h1 ff (by decide) (by decide) (show 1≤16 by decide) (au [] ⟨rfl,rfl⟩ rfl rfl tt))
theorem dH(x y top:Int)(h0:0<top)(h1:top≤1000):aF w 705 4 1 [.ref 0,.int top] [.ints [x,y]] (fun r cs'=>∃k x' y',0≤k∧k<top∧r=.int k∧cs'=[.ints [x',y']]) dk:=by
 refine aE (GL w) tt 30 fun qQ qX qq qx=>?_;have z:∀a b:Int,([a,b]:List Int).length≤1000000:=fun a b=>show 2≤1000000 by decide
 refine⟨z x y,.inl (cZ (by decide) (show(0:Int)<2 by decide) (fun a_=>?_) (fun a_=>?_))⟩
 ·exact⟨z x y,.inl (ji (by decide) (show(0:Int)<2 by decide) h0 (z x y) (.inl (yK (by decide) (show(0:Int)<2 by decide) h0 (aZ 295212770806260819859524 rfl h1) (by decide) (show(0:Int)<2 by decide) (z x y) (au [0] (qq _ _ (aR (x% top) (x/top) y (Int.emod_nonneg _ (Int.ne_of_gt h0)) (Int.emod_lt_of_pos _ h0) rfl rfl)) rfl rfl tt))))⟩
 ·refine⟨z x y,.inl (yK (by decide) (show(1:Int)<2 by decide) (mulR (by decide) (by decide)) (by decide) (by decide) (show(1:Int)<2 by decide) (z x y) ?_)⟩;have hr:∀a:Int,0≤a% 2147483647∧a% 2147483647<2147483647:=fun a=>⟨Int.emod_nonneg _ (by decide),Int.emod_lt_of_pos _ (by decide)⟩;have hr:=hr (y*39373+7);refine⟨z x _,.inl (cZ (by decide) (show(1:Int)<2 by decide) (z x _) (.inl (yK (by decide) (show(1:Int)<2 by decide) (mulR (by refine(?_:(-4294967296:Int)≤(y*39373+7)% 2147483647);exact aZ 1188896539905259247827 rfl (Int.emod_nonneg _ (by decide))) (by refine(?_:(y*39373+7)% 2147483647≤(4294967296:Int));exact aZ 633825299976070646445167908931 rfl (Int.emod_lt_of_pos _ (by decide)))) (by decide) (by decide) (by decide) h0 ?_)))⟩;exact au [0] (qq _ _ (aR _ x ((y*39373+7)% 2147483647) (Int.emod_nonneg _ (Int.ne_of_gt h0)) (Int.emod_lt_of_pos _ h0) rfl rfl)) rfl rfl tt
theorem jc(m:Nat):aF w 515 4 2 [.ref 0,.ref 1,.str m] [.inst 567 [],.dead] (dT (.none) [dA 1 m [] 2 3,.dead,.ops [],.ba []]) dk:=bA (Gv w) tt 30 (au [0,1,2,3] ⟨rfl,rfl⟩ rfl rfl tt)
theorem ve:aF w 614 12 1 [.ref 0,.int 8] [.inst 673 []] (dT (.none) [dc 0 none 1 2 3,.d0,.d0,.inst 497 [(171,.ref 4),(172,.ref 5),(173,.ref 6)],.d0,.d0,.d0]) dk:=by exact aE (AD w) tt 30 fun qQ qX qq qx=>ae p8 [3] tt rfl rfl [3,4,5,6] tt (⟨rfl,au jh (qq _ _ ⟨rfl,rfl⟩) rfl rfl tt⟩)
theorem jY:aF w 614 12 1 [.ref 0,.int 8,.none] [.inst 673 []] (dT (.none) [dc 0 none 1 2 3,.d0,.d0,.inst 497 [(171,.ref 4),(172,.ref 5),(173,.ref 6)],.d0,.d0,.d0]) dk:=by exact aE (AE w) tt 30 fun qQ qX qq qx=>ae p8 [3] tt rfl rfl [3,4,5,6] tt (⟨rfl,au jh (qq _ _ ⟨rfl,rfl⟩) rfl rfl tt⟩)
section
variable(n:Int)(c:Option Int)
theorem rA:aF w 649 4 6 [.ref 0,.str 194] [dc n c 1 2 3,.dS [(194,.ref 4),(225,.ref 5)],.dead,.dead,.dead,.dead] (dT (.ref 4) [dc n c 1 2 3,.dS [(194,.ref 4),(225,.ref 5)],.dead,.dead,.dead,.dead]) dk:=bA (iL w) tt 30 (au Ei ⟨rfl,rfl⟩ rfl rfl tt)
theorem rB:aF w 649 4 6 [.ref 0,.str 194] [dc n c 1 2 3,.dS [(225,.ref 4),(194,.ref 5)],.dead,.dead,.dead,.dead] (dT (.ref 5) [dc n c 1 2 3,.dS [(225,.ref 4),(194,.ref 5)],.dead,.dead,.dead,.dead]) dk:=bA (iL w) tt 30 (au Ei ⟨rfl,rfl⟩ rfl rfl tt)
theorem wJ:aF w 649 14 4 [.ref 0,.str 194] [dc n c 1 2 3,.d0,.dead,.dead] (dT (.ref 4) [dc n c 1 2 3,.dS [(194,.ref 4)],.dead,.dead,dA 0 194 [] 6 5,.ba [],.ops []]) dk:=by exact aE (iL w) tt 30 fun qQ qX qq qx=>ae (jc 194) [4,0] tt rfl rfl [4,0,5,6] tt (⟨rfl,au [0,1,2,3,4,6,5] (qq _ _ ⟨rfl,rfl⟩) rfl rfl tt⟩)
theorem rC:aF w 649 14 5 [.ref 0,.str 194] [dc n c 1 2 3,.dS [(225,.ref 4)],.dead,.dead,.dead] (dT (.ref 5) [dc n c 1 2 3,.dS [(225,.ref 4),(194,.ref 5)],.dead,.dead,.dead,dA 0 194 [] 7 6,.ba [],.ops []]) dk:=by exact aE (iL w) tt 30 fun qQ qX qq qx=>ae (jc 194) [5,0] tt rfl rfl [5,0,6,7] tt (⟨rfl,au [0,1,2,3,4,5,7,6] (qq _ _ ⟨rfl,rfl⟩) rfl rfl tt⟩)
theorem C1:aF w 649 4 5 [.ref 0,.str 225] [dc n c 1 2 3,.dS [(225,.ref 4)],.dead,.dead,.dead] (dT (.ref 4) [dc n c 1 2 3,.dS [(225,.ref 4)],.dead,.dead,.dead]) dk:=bA (iL w) tt 30 (au [0,1,2,3,4] ⟨rfl,rfl⟩ rfl rfl tt)
theorem wK:aF w 649 4 6 [.ref 0,.str 225] [dc n c 1 2 3,.dS [(194,.ref 4),(225,.ref 5)],.dead,.dead,.dead,.dead] (dT (.ref 5) [dc n c 1 2 3,.dS [(194,.ref 4),(225,.ref 5)],.dead,.dead,.dead,.dead]) dk:=bA (iL w) tt 30 (au Ei ⟨rfl,rfl⟩ rfl rfl tt)
theorem wL:aF w 649 14 4 [.ref 0,.str 225] [dc n c 1 2 3,.d0,.dead,.dead] (dT (.ref 4) [dc n c 1 2 3,.dS [(225,.ref 4)],.dead,.dead,dA 0 225 [] 6 5,.ba [],.ops []]) dk:=by exact aE (iL w) tt 30 fun qQ qX qq qx=>ae (jc 225) [4,0] tt rfl rfl [4,0,5,6] tt (⟨rfl,au [0,1,2,3,4,6,5] (qq _ _ ⟨rfl,rfl⟩) rfl rfl tt⟩)
theorem wM:aF w 649 14 5 [.ref 0,.str 225] [dc n c 1 2 3,.dS [(194,.ref 4)],.dead,.dead,.dead] (dT (.ref 5) [dc n c 1 2 3,.dS [(194,.ref 4),(225,.ref 5)],.dead,.dead,.dead,dA 0 225 [] 7 6,.ba [],.ops []]) dk:=by exact aE (iL w) tt 30 fun qQ qX qq qx=>ae (jc 225) [5,0] tt rfl rfl [5,0,6,7] tt (⟨rfl,au [0,1,2,3,4,5,7,6] (qq _ _ ⟨rfl,rfl⟩) rfl rfl tt⟩)
end
end
abbrev All(W:Nat)(bs:List (aD)):Prop:=∀k∈bs,k.length=W
section
variable{W:Nat}{bs:List (aD)}
theorem All.tail(h:All W (k::bs)):All W bs:=fun q hq=>h q (cO _ hq)
theorem All.take(h:All W bs)(i:Nat):All W (bs.take i):=fun q hq=>h q (List.mem_of_mem_take hq)
theorem All.drop(h:All W bs)(i:Nat):All W (bs.drop i):=fun q hq=>h q (List.mem_of_mem_drop hq)
theorem fh:∀{bs:List (aD)},All W bs→bs.flatten.length=W*bs.length:=by
 intro X_;induction X_ with
 |nil=>intro _;exact rfl
 |cons k bs cD=>intro h;exact by rw[List.flatten_cons,bR,h k aS,cD h.tail,cB,Nat.mul_succ];exact bo (fo 1642640 rfl) (fo 1642640 rfl)
theorem lX:∀{bs:List (aD)} (i:Nat),All W bs→bs.flatten.drop (W*i)=(bs.drop i).flatten
 |bs,0,_=>by rw[Nat.mul_zero,List.drop_zero,List.drop_zero]
 |[],i+1,_=>by rw[List.drop_nil];simp
 |k::bs,i+1,h=>by have hk:=h k aS;rw[List.drop_succ_cons,←lX i h.tail,List.flatten_cons,List.drop_append,List.drop_eq_nil_of_le (by rw[hk,Nat.mul_succ];exact Nat.le_add_left _ _),List.nil_append,hk,Nat.mul_succ];congr 1;exact bo (bG 79742706176 rfl (aG (fo 6400 rfl))) (tX 79742705696 1 [-1] rfl (aG (fo 6400 rfl)))
theorem lY:∀{bs:List (aD)} (i:Nat),All W bs→bs.flatten.take (W*i)=(bs.take i).flatten
 |bs,0,_=>by rw[Nat.mul_zero,List.take_zero,List.take_zero];rfl
 |[],i+1,_=>by rw[List.take_nil];simp
 |k::bs,i+1,h=>by have hk:=h k aS;rw[List.take_succ_cons,List.flatten_cons,List.flatten_cons,←lY i h.tail,List.take_append,List.take_of_length_le (by rw[hk,Nat.mul_succ];exact Nat.le_add_left _ _),hk,Nat.mul_succ];congr 2;exact bo (bG 79742706176 rfl (aG (fo 6400 rfl))) (tX 79742705696 1 [-1] rfl (aG (fo 6400 rfl)))
theorem oj(h:All W bs)(i:Nat):aL bs.flatten (W*i) (W*i+W)=bs[i]?.getD []:=by
 unfold aL;rw[lX i h,show W*i+W-W*i=W by exact bo (bG 144167215616 rfl (aG (fo 67840 rfl))) (tX 144167215136 1 [-1] rfl (aG (fo 67840 rfl)))];generalize q:bs[i]?=y_;induction y_ with
 |none=>rw[List.drop_eq_nil_of_le (List.getElem?_eq_none_iff.mp q)];simp
 |some k=>obtain⟨hi,e⟩:=dX.mp q;rw[List.drop_eq_getElem_cons hi,List.flatten_cons,e,List.take_append_of_le_length (by rw[h k (e▸List.getElem_mem hi)];exact bF _),List.take_of_length_le (by rw[h k (e▸List.getElem_mem hi)];exact bF _)];rfl
noncomputable def setB(W:Nat)(bs:List (aD))(i:Nat)(k:aD):List (aD):=if i<bs.length then bs.set i k else bs++List.replicate (i-bs.length) (List.replicate W 0)++[k]
theorem yo(W n:Nat):(List.replicate n (List.replicate W (0:UInt8))).flatten=List.replicate (W*n) 0:=by
 induction n with
 |zero=>rfl
 |succ n ih=>rw[List.replicate_succ,List.flatten_cons,ih,List.replicate_append_replicate];congr 1;rw[Nat.mul_succ];exact bo (fo 1642640 rfl) (fo 1642640 rfl)
theorem tu(hW:0<W)(h:All W bs)(i:Nat)(hk:k.length=W):dh bs.flatten (W*i) k=(setB W bs i k).flatten:=by
 have hl:=fh h;unfold dh;generalize q:Nat.blt bs.flatten.length (W*i)=y_;induction y_ with
 |true=>rw[Nat.blt_eq,hl]at q;have hi:bs.length<i:=Nat.lt_of_mul_lt_mul_left q;unfold setB;rw[aH (by exact fun e=>iA 1118234 0 [1,1] rfl hi e),List.flatten_append,List.flatten_append,yo,hl,Nat.mul_sub,List.flatten_singleton]
 |false=>
  have hi:i≤bs.length:=by
   refine Nat.le_of_not_lt fun z=>?_;have:Nat.blt bs.flatten.length (W*i)=true:=by rw[Nat.blt_eq,hl];exact Nat.mul_lt_mul_of_pos_left z hW
   rw[q]at this;exact fT this
  refine(?_:bs.flatten.take (W*i)++k++bs.flatten.drop (W*i+k.length)=_);rw[hk,show W*i+W=W*(i+1) from(Nat.mul_succ W i).symm,lY i h,lX (i+1) h];unfold setB;by_cases gq:i<bs.length
  ·rw[aB gq,List.set_eq_take_append_cons_drop,aB gq,List.flatten_append,List.flatten_cons,bC]
  ·obtain rfl:i=bs.length:=by exact bo (ar 1048832 rfl hi) (ar 1077264 rfl gq)
   rw[aH gq,Nat.sub_self,List.take_length,List.drop_eq_nil_of_le (Nat.le_succ _)];simp
theorem AQ(h:All W bs)(hi:i≤bs.length):fZ bs.flatten (W*i)=(bs.take i).flatten:=by
 have hl:=fh h;unfold fZ;generalize q:Nat.blt bs.flatten.length (W*i)=y_;induction y_ with
 |true=>rw[Nat.blt_eq,hl]at q;exact absurd (Nat.lt_of_mul_lt_mul_left q) (by exact fun e=>iA 1118218 0 [1,1] rfl hi e)
 |false=>exact lY i h
theorem All.set(hW:All W bs)(i:Nat)(hk:k.length=W):All W (setB W bs i k):=fun q hq=>by
 unfold setB at hq;split at hq
 ·rcases List.mem_or_eq_of_mem_set hq with hq|rfl
  ·exact hW q hq
  ·exact hk
 ·rw[cC,cC,c9]at hq;rcases hq with(hq|hq)|rfl
  ·exact hW q hq
  ·rw[List.eq_of_mem_replicate hq,List.length_replicate]
  ·exact hk
end
noncomputable abbrev Ix.zero(hl sp:Bool):Ix:=⟨0,0,23063,625341585,0,0,0,hl,sp,[],[],[]⟩
section
variable{w:World}(n:Int)(c:Option Int)(sy b:aD)(ops:List Op)(I:Ix)
theorem D7(cJ mark:Int)(H:∀xs,aV I.pl cJ=some xs→xs.length≤100000∧xs≠[]∧((∀x∈xs,x≤mark)∨∀x∈xs,mark<x))(hn:(aj I.pl).Nodup)(hx:frameOf I.pl cJ mark=0):aF w 288 30 15 [.ref 0,.int cJ,.int mark] (lw n c sy b ops I) (dT (.none) (lw n c sy b ops I)) dk:=by exact aE (AA w) tt 40 fun qQ qX qq qx=>ae (kK (w:=w) I.la I.cp I.s0 I.s1 I.nu I.u0 I.u1 I.hl I.sp I.pl cJ mark _ hx H hn) [3,12,13,14] tt rfl rfl [3,12,13,14] tt (⟨fun a_=>(au dR (qq _ _ ⟨rfl,rfl⟩) rfl rfl tt),fun h=>absurd (show true=false from h) (by decide)⟩)
theorem J5(cJ mark x:Int)(o:aD)(H:∀xs,aV I.pl cJ=some xs→xs.length≤100000∧xs≠[]∧((∀x∈xs,x≤mark)∨∀x∈xs,mark<x))(hn:(aj I.pl).Nodup)(hx:frameOf I.pl cJ mark=x)(h0:0<x)(hb:b.length≤100000)(ho:aL b (32+(x-1)*32+24).toNat (32+(x-1)*32+24+8).toNat=o)(lo:o.length=8):aF w 288 30 15 [.ref 0,.int cJ,.int mark] (lw n c sy b ops I) (dT (.bytes o) (lw n c sy b ops I)) dk:=by
 refine aE (AA w) tt 40 fun qQ qX qq qx=>ae (kK (w:=w) I.la I.cp I.s0 I.s1 I.nu I.u0 I.u1 I.hl I.sp I.pl cJ mark _ hx H hn) [3,12,13,14] tt rfl rfl [3,12,13,14] tt (⟨fun h=>?_,fun a_=>?_⟩)
 ·have h:(x==0)=true:=h;rw[beq_iff_eq]at h;exact False.elim (yS 1951663946 0 [1,1] rfl h0 h)
 ·refine ae (iP x) [0,1,2,3] tt rfl rfl [0,1,2,3] tt (ae (fJ (w:=w) 225 sy b (32+(x-1)*32+24) 8 o ho (eM 19947390099985485912540287091 1 [32] rfl h0) (by decide) hb) [2,1,11,10] tt rfl rfl [2,1,11,10] tt (aN (aC 2375148090972160 rfl lo) (fun h=>?_) (fun a_=>?_)))
  ·have h:(!((o.length:Int)==8))=true:=h;rw[show((o.length:Int)==8)=true by rw[beq_iff_eq];exact Int.le_antisymm (aC 36241436899 rfl lo) (fm 36240943219 1 [-1] rfl lo)]at h;exact absurd h (by decide)
  ·exact au dR (qq _ _ ⟨rfl,rfl⟩) rfl rfl tt
theorem tv:aF w 260 60 11 [.ref 0] (lw n c [] [] [] I) (fun r cs'=>r=.none∧∃n',cs'=lw n' c [] [] [] (.zero true false)) dk:=by
 refine aE (Az w) tt 40 fun qQ qX qq qx=>ae (lT I.la I.cp I.s0 I.s1 I.nu I.u0 I.u1 I.hl I.sp) [3,12,13,14] tt rfl rfl [3,15,16,17] tt (ae (u7 n c [] [] [] (.zero I.hl I.sp) (by decide)) [0,1,2,3,4,5,6,7,8,9,10,11,15,16,17] tt rfl rfl [0,1,2,3,4,5,6,7,8,9,10,11,15,16,17] tt (d7 trivial (fun σ=>σ=⟨[(138,.ref 0),(159,.ref 3)],lw n c [] [] [] (.zero true false)⟩) (aN trivial (fun a_=>jo [0,1,2,3,4,5,6,7,8,9,10,11,15,16,17] rfl tt rfl rfl) (fun h=>absurd (show true=false from h) (by decide))) ?_));rintro _ rfl;refine ah _ (aN trivial (fun a_=>?_) (fun h=>absurd (show true=false from h) (by decide))) (fun a_ b_ h=>h);refine ah (fun σ=>σ=⟨[],lw n c [] [] [] (.zero true false)⟩) ?_ ?_
 ·exact ae (eW (w:=w) 225 [] [] (by decide)) [2,1,11,10] tt rfl rfl [2,1,11,10] tt (⟨fun h=>absurd (show false=true from h) (by decide),fun a_=>jv rfl rfl rfl⟩)
 ·rintro _ rfl;exact au dR (qq _ _ (et rfl _ rfl)) rfl rfl tt
end
noncomputable abbrev Rc:=Int×Int×Int×Int
noncomputable def Ix.step(I:Ix)(r:Rc):Ix:=match decide (r.2.1>0)with
 |true=>⟨((I.fr++[r.1]).length:Int),I.cp,I.s0,I.s1,I.nu,r.2.2.1,r.2.2.2,I.hl,I.sp,I.fr++[r.1],bk I.pl r.1 (I.fr.length+1),dput I.co ((I.fr++[r.1]).length:Int) r.2.1⟩
 |false=>⟨I.la,I.cp,I.s0,I.s1,I.nu,I.u0,I.u1,I.hl,I.sp,I.fr++[r.1],bk I.pl r.1 (I.fr.length+1),I.co⟩
noncomputable def Ix.steps(I:Ix):List Rc→Ix
 |[]=>I
 |r::R=>(I.step r).steps R
noncomputable def scan(s0 s1:Int):List (aD)→Int→Int→List Rc
 |[],_,_=>[]
 |k::bs,u0,u1=>match lW s0 s1 u0 u1 k with
  |none=>[]
  |some r=>r::scan s0 s1 bs r.2.2.1 r.2.2.2
structure Ix.Ok(I:Ix):Prop where
 MZ:0≤I.la
 M0:I.la≤I.fr.length
 pl:I.pl=rowsOf I.fr
 co:I.co.length≤I.fr.length
theorem kN{α:Type}(D:List (Int×α))(x:Int)(y:α):(dput D x y).length≤D.length+1:=by
 unfold dput;split
 ·rw[bK];exact Nat.le_succ _
 ·refine bR.symm▸?_;exact bF _
theorem Ix.step_same(I:Ix)(r:Rc):(I.step r).cp=I.cp∧(I.step r).s0=I.s0∧(I.step r).s1=I.s1∧(I.step r).nu=I.nu∧(I.step r).hl=I.hl∧(I.step r).sp=I.sp∧(I.step r).fr=I.fr++[r.1]:=by unfold Ix.step;cases decide (r.2.1>0)<;>exact Ek rfl rfl rfl rfl rfl rfl rfl
theorem Ix.Ok.step{I:Ix}(h:I.Ok)(r:Rc):(I.step r).Ok:=by
 have e:bk I.pl r.1 (I.fr.length+1)=rowsOf (I.fr++[r.1]):=by rw[gk,h.pl]
 have hl:(I.fr++[r.1]).length=I.fr.length+1:=by refine bR.symm▸?_;rfl
 have h1:=h.MZ;have h2:=h.M0;have h3:=h.co;unfold Ix.step;cases decide (r.2.1>0)with
 |true=>exact⟨by refine(?_:(0:Int)≤((I.fr++[r.1]).length:Int));exact c7 _,Int.le_refl _,e,by show(dput _ _ _).length≤(I.fr++[r.1]).length;have:=kN I.co ((I.fr++[r.1]).length:Int) r.2.1;exact gn 427243005647166382128 1 [-1,1,1] rfl hl h3 this⟩
 |false=>exact⟨h1,by refine(?_:I.la≤((I.fr++[r.1]).length:Int));exact fO 8518015784193603 1 [-1,1] rfl hl h2,e,by refine(?_:I.co.length≤(I.fr++[r.1]).length);exact fe 19797409538080 1 [-1,1] rfl hl h3⟩
theorem Ix.Ok.steps{R:List Rc}:∀{I:Ix},I.Ok→(I.steps R).Ok∧(I.steps R).cp=I.cp∧(I.steps R).s0=I.s0∧(I.steps R).s1=I.s1∧(I.steps R).nu=I.nu∧(I.steps R).hl=I.hl∧(I.steps R).sp=I.sp∧(I.steps R).fr=I.fr++R.map (·.1):=by
 induction R with
 |nil=>intro I h;exact yK h rfl rfl rfl rfl rfl rfl (by rw[List.map_nil,List.append_nil];rfl)
 |cons r R ih=>intro I h;refine Ej (ih (h.step r)) fun a1 a2 a3 a4 a5 a6 a7 a8=>BQ (I.step_same r) fun b1 b2 b3 b4 b5 b6 b7=>?_;exact yK a1 (a2.trans b1) (a3.trans b2) (a4.trans b3) (a5.trans b4) (a6.trans b5) (a7.trans b6) (by refine(?_:((I.step r).steps R).fr=_);rw[a8,b7,List.map_cons,bC];rfl)
noncomputable abbrev vg(n:Int)(c:Option Int)(b:aD)(J:Ix):List O:=[dO 1 2 3,dc n c 4 5 6,dA 1 225 b 11 10,dz 15 16 17 J.la J.cp J.s0 J.s1 J.nu J.u0 J.u1 J.hl J.sp,.dead,.dead,mB,.dead,.dead,.d0,.ba b,.ops [],.ints [],.rows [] none,.eN [],.ints J.fr,.rows J.pl none,.eN J.co]
structure RJ(bs:List (aD))(F:Ix)(s0 s1 nu:Int)(J:Ix)(j:Nat)(v0 v1:Int)(x:Option Rc):Prop where
 h1:1≤j
 ok:J.Ok
 hl:J.fr.length+1≤j
 C2:j≤bs.length
 hS:J.s0=s0∧J.s1=s1∧J.nu=nu∧J.cp=0∧J.hl=false∧J.sp=false
 hF:J.steps (scan s0 s1 (bs.drop j) v0 v1)=F
 hx:lW s0 s1 v0 v1 (bs[j]?.getD [])=x
def C3(n:Int)(b:aD)(bs:List (aD))(F:Ix)(s0 s1 nu:Int)(m:Nat)(σ:St):Prop:=∃(J:Ix) (j:Nat) (v0 v1:Int) (x:Option Rc),m=bs.length+1-j∧RJ bs F s0 s1 nu J j v0 v1 x∧σ=⟨[(138,.ref 0),(159,.ref 3),(118,.int j),(116,.tup [.int v0,.int v1]),(203,J4 x)],vg n none b J⟩
theorem C3.el{bs:List (aD)}{T:Nat→St→Prop}(h0:∀(J:Ix) (j:Nat) (v0 v1:Int),RJ bs F s0 s1 nu J j v0 v1 none→T (bs.length+1-j) ⟨[(138,.ref 0),(159,.ref 3),(118,.int j),(116,.tup [.int v0,.int v1]),(203,J4 none)],vg n none b J⟩)(h1:∀(J:Ix) (j:Nat) (v0 v1 p k l0 l1:Int),RJ bs F s0 s1 nu J j v0 v1 (some (p,k,l0,l1))→T (bs.length+1-j) ⟨[(138,.ref 0),(159,.ref 3),(118,.int j),(116,.tup [.int v0,.int v1]),(203,J4 (some (p,k,l0,l1)))],vg n none b J⟩):∀m σ,C3 n b bs F s0 s1 nu m σ→T m σ:=by
 rintro m _ ⟨J,j,v0,v1,x,rfl,H,rfl⟩;induction x with
 |none=>exact h0 J j v0 v1 H
 |some r=>exact h1 J j v0 v1 r.1 r.2.1 r.2.2.1 r.2.2.2 H
theorem RJ.lt{bs:List (aD)}(H:RJ bs F s0 s1 nu J j v0 v1 (some r)):j<bs.length:=by refine Nat.lt_of_not_le fun z=>?_;have hx:=H.hx;rw[List.getElem?_eq_none z]at hx;exact absurd hx (by unfold lW;refine(aB (by refine(?_:(0:Nat)<32);decide)).symm▸?_;exact fun e=>nomatch e)
theorem RJ.step{J:Ix}(H:RJ bs F s0 s1 nu J j v0 v1 (some (p,k,l0,l1))):RJ bs F s0 s1 nu (J.step (p,k,l0,l1)) (j+1) l0 l1 (lW s0 s1 l0 l1 (bs[j+1]?.getD [])):=by
 have hj:=H.lt;have hx:=H.hx;have Hu:lW s0 s1 v0 v1 bs[j]=some (p,k,l0,l1):=by rw[cn hj]at hx;exact hx
 refine rU H.hS fun PN Ho Lk rD PO J6=>BQ (J.step_same (p,k,l0,l1)) fun b1 b2 b3 b4 b5 b6 b7=>⟨Nat.le_add_left _ _,H.ok.step _,?_,hj,(jj (b2.trans PN) (b3.trans Ho) (b4.trans Lk) (b1.trans rD) (b5.trans PO) (b6.trans J6)),?_,rfl⟩
 ·refine b7.symm▸?_;refine bR.symm▸?_;exact Nat.succ_le_succ H.hl
 ·refine H.hF▸?_;refine(List.drop_eq_getElem_cons hj).symm▸((?_:_=J.steps (match lW s0 s1 v0 v1 bs[j]with|none=>[]|some r=>r::scan s0 s1 (bs.drop (j+1)) r.2.2.1 r.2.2.2)));refine Hu.symm▸?_;rfl
section
variable{w:World}(n:Int)
theorem tw{bs:List (aD)}(hx:lW s0 s1 v0 v1 (bs[j]?.getD [])=none):scan s0 s1 (bs.drop j) v0 v1=[]:=by
 generalize q:bs[j]?=y_;induction y_ with
 |none=>refine(List.drop_eq_nil_of_le (List.getElem?_eq_none_iff.mp q)).symm▸?_;rfl
 |some k=>obtain⟨hj,e⟩:=dX.mp q;rw[q]at hx;refine(List.drop_eq_getElem_cons hj).symm▸?_;refine e.symm▸((?_:(match lW s0 s1 v0 v1 k with|none=>[]|some r=>r::scan s0 s1 _ r.2.2.1 r.2.2.2)=[]));exact(show lW s0 s1 v0 v1 k=none from hx).symm▸rfl
theorem AR(bs:List (aD))(b H:aD)(nu s0 s1 u0 u1:Int)(hA:All 32 bs)(eb:bs.flatten=b)(hz:bs.length≤1000)(e0:bs[0]?=some H)(hh:aL b 0 32=H)(lh:H.length=32)(hw:words H 8=[931071618,3007000,8,nu,s0,s1,u0,u1])(hc:ck (aL H 0 24) 0 0=(u0,u1))(F:Ix)(eF:Ix.steps ⟨0,0,s0,s1,nu,u0,u1,false,false,[],[],[]⟩ (scan s0 s1 (bs.drop 1) u0 u1)=F)(b':aD)(M1:(bs.take (F.la.toNat+1)).flatten=b')(fr:List Int)(Ll:F.fr.take F.la.toNat=fr):aF w 260 60 11 [.ref 0] (lw n none b b [] (.zero true false)) (fun r cs'=>r=.none∧∃n',cs'=lw n' none b' b' [] ⟨F.la,0,s0,s1,nu,F.u0,F.u1,false,false,fr,rowsOf fr,F.co⟩) dk:=by
 have lb:b.length=32*bs.length:=by refine eb▸?_;exact fh hA
 have hb:b.length≤100000:=by exact iA 2465411850036077916084240 1 [32,1] rfl hz lb
 have rd:∀(J:Ix) (j:Nat) (v0 v1:Int),1≤j→J.s0=s0→J.s1=s1→aF w 253 30 15 [.ref 0,.int j,.tup [.int v0,.int v1]] (lw n none b b [] J) (dT (J4 (lW s0 s1 v0 v1 (bs[j]?.getD []))) (lw n none b b [] J)) dk:=fun J j v0 v1 hj h0 h1=>by
  have:=u6 (w:=w) n none b b [] J j v0 v1 (bs[j]?.getD []) (by exact bX 1661478665586249843 rfl) hb (by
   refine(show(32+((j:Int)-1)*32).toNat=32*j by exact bo (ar 27950544315658196483181056 rfl (aA (bX 1661478665586249843 rfl))) (eQ 27950544315658196482072736 1 [-1] rfl (aA (bX 1661478665586249843 rfl)))).symm▸?_;refine(show(32+((j:Int)-1)*32+32).toNat=32*j+32 by exact bo (ar 42743456671778002408395686113982851328 rfl (aA (bX 2429684139095081842479219 rfl))) (eQ 42743456671778002408395684042314484368 1 [-1] rfl (aA (bX 2429684139095081842479219 rfl)))).symm▸?_;refine eb▸?_;exact oj hA j) (by
   generalize q:bs[j]?=y_;induction y_ with
   |none=>exact Nat.zero_le _
   |some k=>exact Nat.le_of_eq (hA k (List.mem_of_getElem? q)))
  rw[h0,h1]at this;exact this
 refine aE (Az w) tt 60 fun qQ qX qq qx=>ae (lT 0 0 23063 625341585 0 0 0 true false) [3,12,13,14] tt rfl rfl [3,15,16,17] tt (ae (u9 n none b b [] ⟨0,0,23063,625341585,0,0,0,true,false,[],[],[]⟩ nu s0 s1 u0 u1 H hb hh lh hw hc) [0,1,2,3,4,5,6,7,8,9,10,11,15,16,17] tt rfl rfl [0,1,2,3,4,5,6,7,8,9,10,11,15,16,17] tt (d7 trivial (fun σ=>(0≤F.la∧F.la≤F.fr.length∧F.fr.length+1≤bs.length)∧σ=⟨[(138,.ref 0),(159,.ref 3)],lw n none b b [] ⟨F.la,0,s0,s1,nu,F.u0,F.u1,false,false,fr,rowsOf fr,F.co⟩⟩) (aN trivial (fun h=>absurd (show false=true from h) (by decide)) (fun a_=>?_)) ?_))
 ·have R1:=rd ⟨0,0,s0,s1,nu,u0,u1,false,false,[],[],[]⟩ 1 u0 u1 (bF _) rfl rfl;have O1:Ix.Ok ⟨0,0,s0,s1,nu,u0,u1,false,false,[],[],[]⟩:=⟨Int.le_refl _,Int.le_refl _,rfl,bF _⟩;have N9:1≤bs.length:=(dX.mp e0).1;generalize N_:lW s0 s1 u0 u1 (bs[1]?.getD [])=x0 at R1;induction x0 with
  |none=>
   refine ae R1 [0,1,2,3,4,5,6,7,8,9,10,11,15,16,17] tt rfl rfl [0,1,2,3,4,5,6,7,8,9,10,11,15,16,17] tt (ah (fun a_ σ=>σ=⟨[(138,.ref 0),(159,.ref 3),(118,.int 1),(116,.tup [.int u0,.int u1]),(203,.none)],vg n none b ⟨0,0,s0,s1,nu,u0,u1,false,false,[],[],[]⟩⟩) ⟨0,rfl⟩ ?_);rintro m _ rfl;have hF:Ix.steps ⟨0,0,s0,s1,nu,u0,u1,false,false,[],[],[]⟩ (scan s0 s1 (bs.drop 1) u0 u1)=F:=eF;have M3:scan s0 s1 (bs.drop 1) u0 u1=[]:=tw N_;rw[M3]at hF
   let J:Ix:=⟨0,0,s0,s1,nu,u0,u1,false,false,[],[],[]⟩;have hF:J=F:=hF;have hO:J.Ok:=O1;have hS:J.s0=s0∧J.s1=s1∧J.nu=nu∧J.cp=0∧J.hl=false∧J.sp=false:=jj rfl rfl rfl rfl ff ff;have hl:J.fr.length+1≤bs.length:=by exact((N9):0+1≤bs.length)
   have h0:=hO.MZ;have h1:=hO.M0;have el:(fr.length:Int)=J.la:=by refine Ll▸?_;refine hF▸?_;refine List.length_take.symm▸?_;exact rfl
   have jk:fr<+:J.fr:=by refine Ll▸?_;refine hF▸?_;exact List.take_prefix _ _
   have G:=tj (w:=w) J.cp J.s0 J.s1 J.nu J.u0 J.u1 J.hl J.sp fr J.fr jk (by exact Nat.zero_le _);rw[el,←hO.pl]at G;have eI:(⟨J.la,J.cp,J.s0,J.s1,J.nu,J.u0,J.u1,J.hl,J.sp,fr,rowsOf fr,J.co⟩:Ix)=⟨F.la,0,s0,s1,nu,F.u0,F.u1,false,false,fr,rowsOf fr,F.co⟩:=by refine rU hS fun a1 a2 a3 a4 a5 a6=>a1.symm▸?_;refine a2.symm▸?_;refine a3.symm▸?_;refine a4.symm▸?_;refine a5.symm▸?_;refine a6.symm▸?_;exact hF.symm▸rfl
   exact ae G [3,15,16,17] tt rfl rfl [3,15,16,17] tt (jo [0,1,2,3,4,5,6,7,8,9,10,11,15,16,17] ⟨(aN (hF▸h0) (hF▸h1) (hF▸hl)),av (fun I=>(⟨_,lw n none b b [] I⟩:St)) eI⟩ tt rfl rfl)
  |some r0=>
   obtain⟨p0,k0,m0,m1⟩:=r0;refine ae R1 [0,1,2,3,4,5,6,7,8,9,10,11,15,16,17] tt rfl rfl [0,1,2,3,4,5,6,7,8,9,10,11,15,16,17] tt (ah (C3 n b bs F s0 s1 nu) (b9 _ _ 1 u0 (aJ u1 (some (p0,k0,m0,m1)) rfl ⟨bF _,O1,bF _,N9,(jj rfl rfl rfl rfl ff ff),eF,N_⟩ rfl)) (C3.el (fun J j v0 v1 H=>?_) (fun J j v0 v1 p k l0 l1 H=>?_)))
   ·have hO:=H.ok;have hl:=H.hl;have C2:=H.C2;have hS:=H.hS;have hF:J=F:=by have z:=H.hF;rw[tw H.hx]at z;exact z
    have hl:J.fr.length+1≤bs.length:=aX hl C2;have h0:=hO.MZ;have h1:=hO.M0;have el:(fr.length:Int)=J.la:=by refine Ll▸?_;refine hF▸?_;refine List.length_take.symm▸?_;exact(Nat.le_total (J.la.toNat) (J.fr.length)).elim (fun a0=>Int.le_antisymm (iw 4528254632163 rfl (cq (ar 1048832 rfl a0)) (aA (aZ 1081294963 rfl h0))) (fO 4528254619203 1 [-1,-1] rfl (cq (ar 1048832 rfl a0)) (aA (aZ 1081294963 rfl h0)))) (fun a0=>Int.le_antisymm (B3 18547670792553187 rfl a0 (Nat.min_eq_right (ar 1048832 rfl a0)) (aA (aZ 1081294963 rfl h0))) (fO 77548691011 1 [1,-1] rfl h1 (Nat.min_eq_right (ar 1048832 rfl a0))))
    have jk:fr<+:J.fr:=by refine Ll▸?_;refine hF▸?_;exact List.take_prefix _ _
    have G:=tj (w:=w) J.cp J.s0 J.s1 J.nu J.u0 J.u1 J.hl J.sp fr J.fr jk (by exact dC 1745214067910309601892368 rfl hz hl);rw[el,←hO.pl]at G;have eI:(⟨J.la,J.cp,J.s0,J.s1,J.nu,J.u0,J.u1,J.hl,J.sp,fr,rowsOf fr,J.co⟩:Ix)=⟨F.la,0,s0,s1,nu,F.u0,F.u1,false,false,fr,rowsOf fr,F.co⟩:=by refine rU hS fun a1 a2 a3 a4 a5 a6=>a1.symm▸?_;refine a2.symm▸?_;refine a3.symm▸?_;refine a4.symm▸?_;refine a5.symm▸?_;refine a6.symm▸?_;exact hF.symm▸rfl
    exact ae G [3,15,16,17] tt rfl rfl [3,15,16,17] tt (jo [0,1,2,3,4,5,6,7,8,9,10,11,15,16,17] ⟨(aN (hF▸h0) (hF▸h1) (hF▸hl)),av (fun I=>(⟨_,lw n none b b [] I⟩:St)) eI⟩ tt rfl rfl)
   ·have hO:=H.ok;have hl:=H.hl;have C2:=H.C2;have hj:=H.lt;have C4:J.pl.length≤100000:=by refine hO.pl.symm▸?_;have:=jW J.fr;exact Ez 385375726420536316675640159918128 rfl hz hl C2 this
    have PQ:∀q xs,aV J.pl q=some xs→xs.length≤100000:=fun q xs h=>by rw[hO.pl]at h;have:=(mX h).2.2;exact Ez 385375726420536316675640159918128 rfl hz hl C2 this
    have jm:=hO.co;have H':=H.step;have RJ:=rd (J.step (p,k,l0,l1)) (j+1) l0 l1 (by exact Nat.le_add_left _ _) H'.hS.1 H'.hS.2.1;generalize QM:lW s0 s1 l0 l1 (bs[j+1]?.getD [])=x2 at RJ H';generalize hJ:J.step (p,k,l0,l1)=J' at RJ H';unfold Ix.step at hJ;refine ae (wG J.la J.cp J.s0 J.s1 J.nu J.u0 J.u1 J.hl J.sp J.fr _ J.pl _ p rfl rfl (by exact m9 9943951154578620642385483792 rfl hz hl C2) C4 PQ) [3,15,16,17] tt rfl rfl [3,15,16,17] tt (ah (fun σ=>σ=⟨[(138,.ref 0),(159,.ref 3),(118,.int j),(116,.tup [.int l0,.int l1])],vg n none b J'⟩) ⟨fun hk=>?_,fun hk=>?_⟩ ?_)
    ·have hk:decide (k>0)=true:=hk;rw[show decide ((p,k,l0,l1).2.1>0)=true from hk]at hJ;have hJ:(⟨((J.fr++[p]).length:Int),J.cp,J.s0,J.s1,J.nu,l0,l1,J.hl,J.sp,J.fr++[p],bk J.pl p (J.fr.length+1),dput J.co ((J.fr++[p]).length:Int) k⟩:Ix)=J':=hJ;have Oa:J.fr.length+1≤100000:=aX hl (aX C2 (yM hz tt));have PR:J.co.length≤100000:=aX jm (aX (Nat.le_succ _) Oa);exact ae (th J.la J.cp J.s0 J.s1 J.nu J.u0 J.u1 J.hl J.sp (J.fr++[p]) J.co k l0 l1 (bR.symm▸Oa) PR) [3,15,16,17] tt rfl rfl [3,15,16,17] tt (jv (av (fun I=>(⟨_,vg n none b I⟩:St)) hJ) rfl rfl)
    ·have hk:decide (k>0)=false:=hk;rw[show decide ((p,k,l0,l1).2.1>0)=false from hk]at hJ;have hJ:(⟨J.la,J.cp,J.s0,J.s1,J.nu,J.u0,J.u1,J.hl,J.sp,J.fr++[p],bk J.pl p (J.fr.length+1),J.co⟩:Ix)=J':=hJ;exact jv (av (fun I=>(⟨_,vg n none b I⟩:St)) hJ) rfl rfl
    ·rintro _ rfl;induction x2 with
     |none=>refine ae RJ [0,1,2,3,4,5,6,7,8,9,10,11,15,16,17] tt rfl rfl [0,1,2,3,4,5,6,7,8,9,10,11,15,16,17] tt ?_;exact jv (ah (bs.length+1-(j+1)) (by exact jl 27999271891999360136323841 1 [1,-1] rfl (aG (ar 17667105845392 rfl hj)) (aG (bG 26702248531396602128 rfl (aG (ar 17667105845392 rfl hj))))) (b9 J' (j+1) l0 l1 (bY none rfl H' rfl))) rfl rfl
     |some r2=>obtain⟨p2,k2,m0,m1⟩:=r2;refine ae RJ [0,1,2,3,4,5,6,7,8,9,10,11,15,16,17] tt rfl rfl [0,1,2,3,4,5,6,7,8,9,10,11,15,16,17] tt ?_;exact jv (ah (bs.length+1-(j+1)) (by exact jl 27999271891999360136323841 1 [1,-1] rfl (aG (ar 17667105845392 rfl hj)) (aG (bG 26702248531396602128 rfl (aG (ar 17667105845392 rfl hj))))) (b9 J' (j+1) l0 l1 (bY (some (p2,k2,m0,m1)) rfl H' rfl))) rfl rfl
 ·rintro _ ⟨⟨h0,h1,hl⟩,rfl⟩;refine ah _ (aN trivial (fun h=>absurd (show false=true from h) (by decide)) (fun a_=>(ae (u4 (w:=w) F.la 0 s0 s1 nu F.u0 F.u1 false false) [0,1,2,3,12,13,14] tt rfl rfl [0,1,2,3,12,13,14] tt ?_))) (fun a_ b_ h=>h);have I5:b'.length≤100000:=by refine M1▸?_;refine(fh (hA.take _)).symm▸?_;refine List.length_take.symm▸?_;exact iA 1227376598940448488235168 1 [32,32] rfl hz (Nat.min_le_right _ _)
  refine⟨fun σ=>∃n',σ=⟨[],lw n' none b' b' [] ⟨F.la,0,s0,s1,nu,F.u0,F.u1,false,false,fr,rowsOf fr,F.co⟩⟩,?_,?_⟩
  ·refine ae (eW (w:=w) 225 b b hb) [2,1,11,10] tt rfl rfl [2,1,11,10] tt (⟨fun h=>?_,fun h=>?_⟩)
   ·have h:(b.length:Int)>32+(F.la+1-1)*32:=cX h;have PS:fZ b (32+(F.la+1-1)*32).toNat=b':=by refine(show(32+(F.la+1-1)*32).toNat=32*(F.la.toNat+1) by exact bo (fO 5474332752944976184212131003940080128 1 [1,-32] rfl (aA (eM 77914750554065660912636019 1 [32] rfl h0)) (aA (aZ 1081294963 rfl h0))) (fO 5474332752944976184212130998127239328 1 [-1,32] rfl (aA (eM 77914750554065660912636019 1 [32] rfl h0)) (aA (aZ 1081294963 rfl h0)))).symm▸?_;refine eb▸?_;refine(AQ hA (by exact B3 315901748924963036951184 rfl h1 hl (aA (aZ 1081294963 rfl h0)))).symm▸?_;exact M1▸rfl
    refine cI (gu (w:=w) 225 n none b b [] (32+(F.la+1-1)*32) b' _ PS rfl (by exact eM 77914750554065660912636019 1 [32] rfl h0) (by exact oR 88445613212929604648130810033062603437523793091504090654867 rfl hb h) hb (by decide)) [2,1,4,5,6,11,10] tt rfl rfl [2,1,4,5,6,11,10] [2,1,4,5,6,11,10] tt tt ?_ (fun h=>?_)
    ·refine cI (fK (w:=w) 225 (n+1) none b b' ([]++[.cut (32+(F.la+1-1)*32)]) I5) [2,1,4,5,6,10,11] tt rfl rfl [2,1,4,5,6,10,15] [2,1,4,5,6,10,15] tt tt ?_ (fun h=>?_)
     ·exact jo [0,1,2,3,4,5,6,7,8,9,10,15,12,13,14] ⟨n+1+1,rfl⟩ tt rfl rfl
     ·exact(h rfl).elim
    ·exact(h rfl).elim
   ·have h:¬(b.length:Int)>32+(F.la+1-1)*32:=of_decide_eq_false h;have e:b=b':=by rw[←M1,List.take_of_length_le (by exact LO 22763102588313199422746210788956553292048 32 [-1,1,-32] rfl lb h (aA (aZ 1081294963 rfl h0))),eb]
    exact jv ⟨n,av (fun z=>(⟨[],lw n none z z [] _⟩:St)) e⟩ rfl rfl
  ·rintro _ ⟨n',rfl⟩;exact au dR (qq _ _ (et rfl n' rfl)) rfl rfl tt
end
noncomputable def Lm(t:Int):O:=.inst 595 [(165,.ref 1),(160,.int t)]
section
variable{w:World}
theorem rE(l:List Int)(hl:l.length≤100000):aF w 585 4 2 [.ref 0,.ref 1] [.inst 595 [],.ints l] (dT (.none) [.inst 595 [(165,.ref 2),(160,.int 0)],.ints l,.ints l]) dk:=bA (GC w) tt 30 ⟨hl,au [0,1,2] ⟨rfl,rfl⟩ rfl rfl tt⟩
theorem qd(l:List Int)(t:Int)(hl:l.length≤100000)(fy:l≠[])(ht:0≤t):aF w 592 4 2 [.ref 0] [Lm t,.ints l] (fun r cs'=>∃x,x∈l∧r=.int x∧cs'=[Lm (t+1),.ints l]) dk:=by
 refine aE (GD w) tt 30 fun qQ qX qq qx=>?_;have hp:0<l.length:=List.length_pos_iff.mpr fy;refine⟨fun h=>?_,fun a_=>?_⟩
 ·have h:(l==[])=true:=h;exact absurd (beq_iff_eq.mp h) fy
 ·have h1:0≤t% l.length:=Int.emod_nonneg _ fun e=>Nat.ne_of_gt hp (Int.ofNat.inj e);have h2:t% l.length<l.length:=Int.emod_lt_of_pos _ (aC 118546548 rfl hp)
  have hm:l.getD (t% (l.length:Int)).toNat 0∈l:=by
   have hl:(t% (l.length:Int)).toNat<l.length:=by exact iw 4528252665873 rfl h2 (aA (aZ 1081294963 rfl h1))
   rw[cW,cn hl];exact List.getElem_mem hl
  exact cZ (aC 450361510914957531136 rfl hl) (aC 118546548 rfl hp) (aC 450361510914957531136 rfl hl) (.inl (aN h1 h2 (au [0,1] (qq _ _ (bY _ hm rfl rfl)) rfl rfl tt)))
theorem tA(x y:Int):aF w 712 14 2 [.ref 0,.ref 1] [.ints [x,y],.list [.str 110,.str 111,.str 68,.str 96]] (fun r cs'=>∃x' y' kd,(kd=110∨kd=111∨kd=68∨kd=96)∧r=.str kd∧cs'=[.ints [x',y'],.list [.str 110,.str 111,.str 68,.str 96]]) dk:=by
 refine aE (AF w) tt 30 fun qQ qX qq qx=>?_;refine⟨show 4≤1000000 by decide,(call_of (dH (w:=w) x y 4 (by decide) (by decide)) [0] tt rfl ?_ (fun r cs' h=>?_) (fun cs' h=>?_))⟩;exact rfl
 ·refine br h fun k x' y' h0 h1 Cm M4=>?_;clear h;subst Cm;subst M4;have:k=0∨k=1∨k=2∨k=3:=i4 h0 h1;rcases this with rfl|rfl|rfl|rfl
  ·exact au [0,1] (qq _ _ (bz x' y' _ (.inl rfl) rfl rfl)) rfl rfl tt
  ·exact au [0,1] (qq _ _ (bz x' y' _ (.inr (.inl rfl)) rfl rfl)) rfl rfl tt
  ·exact au [0,1] (qq _ _ (bz x' y' _ (.inr (.inr (.inl rfl))) rfl rfl)) rfl rfl tt
  ·exact au [0,1] (qq _ _ (bz x' y' _ (.inr (.inr (.inr rfl))) rfl rfl)) rfl rfl tt
 ·exact h.elim
theorem AS(x y:Int):aF w 712 14 2 [.ref 0,.ref 1] [.ints [x,y],.list [.str 111,.str 96]] (fun r cs'=>∃x' y' kd,(kd=110∨kd=111∨kd=68∨kd=96)∧r=.str kd∧cs'=[.ints [x',y'],.list [.str 111,.str 96]]) dk:=by
 refine aE (AF w) tt 30 fun qQ qX qq qx=>?_;refine⟨show 2≤1000000 by decide,(call_of (dH (w:=w) x y 2 (by decide) (by decide)) [0] tt rfl ?_ (fun r cs' h=>?_) (fun cs' h=>?_))⟩;exact rfl
 ·refine br h fun k x' y' h0 h1 Cm M4=>?_;clear h;subst Cm;subst M4;have:k=0∨k=1:=i2 h0 h1;rcases this with rfl|rfl
  ·exact au [0,1] (qq _ _ (bz x' y' _ (.inr (.inl rfl)) rfl rfl)) rfl rfl tt
  ·exact au [0,1] (qq _ _ (bz x' y' _ (.inr (.inr (.inr rfl))) rfl rfl)) rfl rfl tt
 ·exact h.elim
end
section
variable{w:World}{A:Around}{s:Shared}
theorem lZ{R:Result→Shared→Prop}{o:Obj}{fd:FuncData}{binds:List (PySem.Str×Value)}(ka:A.depth<recursionLimit)(ho:s.heap.get? a=some o)(pY:o.data=.func fd)(FX:s.heap.NoLimit)(t5:s.heap.CodeRec fd.code fd.qualname)(tg:fd.body=.stmts body)(kb:BindsTo s fd args binds)(M5:fd.closure=[])(ml:(binds.all fun y=>fd.scope.names.lookup y.1==some .local||fd.scope.names.lookup y.1==some .cell)=true)(jM:((cellsFrom 0 fd.scope.names []).map (·.1)).Nodup)(h:∀bH tk cells,bH.Ns s.heap.objs.size (bindL (callEnvC fd s.heap.objs.size a).kindOf binds fun a_=>none)→(∀b o,s.heap.get? b=some o→bH.get? b=some o)→News s.heap s.heap.objs.size bH cells→CellsAre (bindC (callEnvC fd s.heap.objs.size a).kindOf binds fun a_=>none) (cellsFrom (s.heap.objs.size+1) fd.scope.names []) cells→cR (model Prog w) (A.deeper (callEnvC fd s.heap.objs.size a)) (execs body (callEnvC fd s.heap.objs.size a)) (fun f s'=>R (.ok (.ret (match f with|.ret v=>v|_=>.none))) s') (fun a_ b_=>False) {s with heap:=bH,toks:=tk})(jm:fd.scope.isCoroutine=false)(lu:fd.scope.isGenerator=false)(hk:fd.scope.kind=.function):cK (model Prog w) A (.call (.ref a) args) R s:=by refine bB ff (((gP t5 fun c oc vs tq hc MO MP hq=>n4 ho pY (pZ tg jm lu hc▸?_)):cR _ A.in1 (callAny (.ref a) args) _ _ s));refine aq (m:=field (.ref c) 1) (wpAny_field MO MP hq (ag (ak (aq (kb _ _ _ _ (aq ?_))))));rw[←hc,M5];refine wpAny_newFunctionEnv_cells hk (kindsX ml _) fun L7 he s' x=>?_;subst he;have f':=x.toInCall.keep;refine aq (wpAny_enterFrame (FX.keeps f') ka (ak (And.intro tt (n3 (cS x.done fun bH tk aQ _=>?_)))));subst aQ;exact aa (Cl.news (h₀:=s.heap) (bF _) fun n c hm=>⟨x.cell n c (lookup_of_mem_nodup (cellsFrom_names fd.scope.names 0 (s.heap.objs.size+1) [] [] rfl▸jM) hm),x.above n c hm⟩) fun cells NC Y=>bM (h bH tk cells x.toInCall.ns f' NC Y) (fun a_ b_ h=>h) fun a_ b_ h=>h.elim
theorem GR{news pre rest post:Led}{scope:Scope}{cy:ExcName→Option Value}{mg mb:PySem.Str→Option Value}{Q:Flow→Shared→Prop}(B:Below (Ar dp un gd []) base [] h₀)(F:Fr h₀ L hs m)(N:News h₀ L hs news)(D:(adr news).Nodup)(P:news.Perm (pre++rest))(X:(hd.heap_39 w.params).In h₀)(T:jI cy mg mb h₀)(Fl:il (hideAll hs (adr pre)) [envX qual scope L f cd cl] post h' e)(hk:scope.kind=.function)(hx:(envX qual scope L f cd cl).kindOf (PySem.Str.ofString "CrashError")=some .globalImplicit)(k:∀jr,Fr h₀ L jr m→News h₀ L jr (post++rest)→wpAny (model Prog w) (((Ar dp un gd []).deeper (envX qual scope L f cd cl)).mark (some (.ref e))) (execs (M6::J7) (envX qual scope L f cd cl)) Q (fun a_ b_=>False) {s with heap:=jr,toks:=tk}):wpAny (model Prog w) ((Ar dp un gd []).deeper (envX qual scope L f cd cl)) (noteFrame (.ref e) (envX qual scope L f cd cl)) (fun a_ mJ=>wpAny (model Prog w) ((Ar dp un gd []).deeper (envX qual scope L f cd cl)) (setFlight (.ref e) none) (fun a_ kj=>wpAny (model Prog w) ((Ar dp un gd []).deeper (envX qual scope L f cd cl)) (handleBy (.ref e) (envX qual scope L f cd cl) [.ExceptHandler (some (.Name (PySem.Str.ofString "CrashError") np)) none (M6::J7) pos]) Q (fun a_ b_=>False) kj) (fun a_ b_=>False) mJ) (fun a_ b_=>False) {s with heap:=h',toks:=tk}:=by
 refine bV Fl fun Bh a0 f1 f2 f3 f4=>?_;have r6:h₀.get? L=none:=Heap.get?_none_of_le F.above;have jk:∀b o,h₀.get? b=some o→b∉adr pre:=fun b o hb hm=>by refine aa (bO.mp hm) fun p hp aQ=>?_;clear hm;subst aQ;have:=(N p (P.mem_iff.mpr (List.mem_append_left _ hp))).2.2;rw[hb]at this;exact sN this
 have PT:L∉adr pre:=fun hm=>by exact aa (bO.mp hm) fun p hp e=>(N p (P.mem_iff.mpr (List.mem_append_left _ hp))).2.1 e
 have st:∀b o,h₀.get? b=some o→(hideAll hs (adr pre)).get? b=some o:=fun b o hb=>hideAll_get _ (F.keep b o hb) (jk b o hb);have Dz:=gR P D;have fr:∀b,b∉[envX qual scope L f cd cl].filterMap (·.frame)↔b≠L:=fun b=>by refine(?_:b∉[L]↔_);rw[c9]
 have hB:h₀.StaysIn Bh:=fun b o hb=>f1 b o (st b o hb) ((fr b).mpr fun z=>by rw[z,r6]at hb;exact nS hb);have Ob:(hideAll hs (adr pre)).Ns L m:=by exact de F.ns fun o es ep ho r=>dF o es ep (hideAll_get _ ho PT) r
 have fin:∀{vh:Heap},Bh.StaysIn vh→(hideAll hs (adr pre)).UpToSlots vh→Fr h₀ L vh m∧News h₀ L vh (post++rest):=fun{vh} k6 PU=>by
  refine⟨⟨PU.ns Ob,fun b o hb=>k6 b o (hB b o hb),F.above⟩,fun p hp=>?_⟩;rcases cC.mp hp with hp|hp
  ·obtain⟨g1,g2⟩:=f2 p hp;refine aN (k6 _ _ g1) (fun z=>?_) ?_
   ·refine de Ob fun o es ep ho _=>?_;rw[z,ho]at g2;exact sN g2
   ·generalize q:h₀.get? p.1=y_;induction y_ with
    |none=>rfl
    |some o=>rw[st _ _ q]at g2;exact sN g2
  ·have Np:=N p (P.mem_iff.mpr (cb _ hp));exact⟨k6 _ _ (f1 _ _ (hideAll_get _ Np.1 (Dz p hp)) ((fr _).mpr Np.2.1)),Np.2⟩
 refine wpAny_looks_onW (Around.frames_deeper B.stack) rfl f3 fun PV C5 D8=>wpAny_landsW C5 fun PW AU D9=>?_;obtain⟨J8,PX⟩:=fin AU.1 ((f4.trans D8).trans D9);refine aa AU.there fun ob PY M7=>wpAny_handleBy_cons (codeAny_handlers_test (nameX_K J8 X (topRead_of T) (td w) (wpAny_excMatches_sub_self (kh (X.keeps J8.keep)) PY M7 (by decide) (codeAny_handlers_suite (lands_againW AU fun vh J9 J_=>?_))) hk hx (by decide))) (by intro q;exact PySem.Value.noConfusion q);obtain⟨M8,M9⟩:=fin J9.1 (((f4.trans D8).trans D9).trans J_);exact wpAny_passesOwnAt .never (k vh M8 M9)
end
set_option maxHeartbeats 200000
noncomputable abbrev jC:Scope:=
 {kind:=ScopeKind.function,
  names:=
   [(Str.ofString "script",NameKind.local),(Str.ofString "source",NameKind.cell),
    (Str.ofString "disk",NameKind.local),(Str.ofString "hold",NameKind.local),
    (Str.ofString "choices",NameKind.local),(Str.ofString "found",NameKind.local),
    (Str.ofString "_law_pool",NameKind.globalImplicit),(Str.ofString "Disk",NameKind.globalImplicit),
    (Str.ofString "_law_take",NameKind.globalImplicit),(Str.ofString "range",NameKind.globalImplicit),
    (Str.ofString "_law_done",NameKind.globalImplicit),(Str.ofString "CrashError",NameKind.globalImplicit),
    (Str.ofString "_law_pages",NameKind.globalImplicit),(Str.ofString "_law_opened",NameKind.globalImplicit),
    (Str.ofString "_law_goes_on",NameKind.globalImplicit)],
  isGenerator:=false,isCoroutine:=false,
  more:=
   [(Str.ofString "fast",Const.str (Str.ofString "script")),
    (Str.ofString "fast",Const.str (Str.ofString "source")),
    (Str.ofString "fast",Const.str (Str.ofString "disk")),
    (Str.ofString "fast",Const.str (Str.ofString "hold")),(Str.ofString "fast",Const.str (Str.ofString "at")),
    (Str.ofString "fast",Const.str (Str.ofString "choices")),
    (Str.ofString "fast",Const.str (Str.ofString "found"))]}
theorem GS(off:LCg.Off3 I C D news)(ne:(@Ne Nat I C)∧(@Ne Nat I D)∧(@Ne Nat C D))(D0:(adr news).Nodup):(adr ((I,oI)::(C,oC)::(D,oD)::news)).Nodup:=by
 have h:=off.mem;have no:∀a,(∀p∈news,p.1≠a)→a∉adr news:=fun a ha hm=>by exact aa (bO.mp hm) fun p hp e=>ha p hp e
 refine cu.mpr ⟨fun hm=>?_,cu.mpr ⟨fun hm=>?_,cu.mpr ⟨no _ fun p hp=>(h p hp).2.2,D0⟩⟩⟩
 ·rcases bD.mp hm with e|hm
  ·exact ne.1 e
  ·rcases bD.mp hm with e|hm
   ·exact ne.2.1 e
   ·exact no _ (fun p hp=>(h p hp).1) hm
 ·rcases bD.mp hm with e|hm
  ·exact ne.2.2 e
  ·exact no _ (fun p hp=>(h p hp).2.1) hm
theorem vj(h:LCg.Off1 D news)(D0:(adr news).Nodup):(adr ((D,o)::news)).Nodup:=by
 refine cu.mpr ⟨fun hm=>(aa (bO.mp hm) fun p hp e=>?_),D0⟩;clear D0 hm;induction news with
 |nil=>cases hp
 |cons q r ih=>
  rcases bD.mp hp with rfl|hp
  ·exact h.1 e
  ·exact ih h.2 hp
theorem ints_app(h:IntsAre vs cs):IntsAre (vs++[.int z t]) (cs++[z]):=by
 induction h with
 |nil=>exact .cons _ _ .nil
 |cons n t _ ih=>exact .cons n t ih
noncomputable abbrev AV:Stmt:=Stmt.Assign [Expr.Name (Str.ofString "choices") {line:=607,col:=4,endLine:=607,endCol:=11}]
    (((Expr.Name (Str.ofString "_law_untorn") {line:=607,col:=15,endLine:=607,endCol:=26}).Call
       [(Expr.Name (Str.ofString "_law_take") {line:=607,col:=27,endLine:=607,endCol:=36}).Call
         [Expr.Name (Str.ofString "source") {line:=607,col:=37,endLine:=607,endCol:=43},
          Expr.Constant (Const.int 32) 0 {line:=607,col:=45,endLine:=607,endCol:=47}]
         [] {line:=607,col:=27,endLine:=607,endCol:=48}]
       [] {line:=607,col:=15,endLine:=607,endCol:=49}).ListComp
     [{target:=Expr.Name (Str.ofString "at") {line:=607,col:=54,endLine:=607,endCol:=56},
       iter:=
        (Expr.Name (Str.ofString "range") {line:=607,col:=60,endLine:=607,endCol:=65}).Call
         [Expr.Constant (Const.int 7) 0 {line:=607,col:=66,endLine:=607,endCol:=67}] []
         {line:=607,col:=60,endLine:=607,endCol:=68},
       ifs:=[],is_async:=0}]
     {kind:=ScopeKind.function,
      names:=
       [(Str.ofString ".0",NameKind.local),(Str.ofString "at",NameKind.local),
        (Str.ofString "_law_untorn",NameKind.globalImplicit),
        (Str.ofString "_law_take",NameKind.globalImplicit),(Str.ofString "source",NameKind.free)],
      isGenerator:=false,isCoroutine:=false}
     {line:=607,col:=14,endLine:=607,endCol:=69})
    {line:=607,col:=4,endLine:=607,endCol:=69}
set_option maxHeartbeats 4000000 in
theorem C6{w:World}{cy:ExcName→Option Value}{mg mb:PySem.Str→Option Value}{s:Shared}{m:PySem.Str→Option Value}{co:Obj}{Q:Flow→Shared→Prop}{E:dB}(B:Below (Ar dp un gd []) base [] g)(X:(hd.heap_39 w.params).In g)(T:jI cy mg mb g)(ki:dp+40≤900)(rR:un+400≤6000)(F:Fr g L s.heap m)(N:News g L s.heap ((L+1,co)::(sa,listOf #[.int x tx,.int y ty] n)::rest))(D0:(adr ((L+1,co)::(sa,listOf #[.int x tx,.int y ty] n)::rest)).Nodup)(jm:co.data=.cell (some (.ref sa)))(hQ:∀D ys cs x' y' AW AX n' h' tk,Fr g L h' (fun z=>if z=Str.ofString "choices" then some (.ref D)else m z)→News g L h' ((D,LCg.lst ys)::(L+1,co)::(sa,listOf #[.int x' AW,.int y' AX] n')::rest)→(adr ((D,LCg.lst ys)::(L+1,co)::(sa,listOf #[.int x' AW,.int y' AX] n')::rest)).Nodup→IntsAre ys cs→cs.length=7→(∀x∈cs,x% 4≠2)→Q .next {s with heap:=h',toks:=tk}):wpAny (model PySem.Challenge.rw_xw0233_01.row.prog w) ((Ar dp un gd []).deeper (envX qual jC L f cd [(Str.ofString "source",L+1)])) (exec AV (envX qual jC L f cd [(Str.ofString "source",L+1)])) Q E s:=by
 refine LCg.Assign_ListComp_U F rfl (by with_unfolding_all rfl) (by with_unfolding_all rfl) (by decide) (by rfl) (by decide) (by rfl) (by rfl) (by rfl) ?_;iterate 7 walk1
 refine LCg.CompSrc.range (by rfl) (by k_asm) (by k_asm) (by assumption) (n:=7) (by rfl) (by rfl) (bZ rfl) fun g'=>gW 7 (fun i ys news=>∃cs x' y' AW AX n',news=(L+1,co)::(sa,listOf #[.int x' AW,.int y' AX] n')::rest∧IntsAre ys cs∧cs.length=i∧∀x∈cs,x% 4≠2) ?turn ?done _ 0 [] _ (Nat.zero_add _) (b9 [] _ _ _ (gm _ _ rfl .nil rfl (fun a_ h=>nomatch h)))
 case turn=>
  intro i ys Ka hi q;refine fN q fun cs x' y' AW t_=>bV t_ fun AX n' e_ hy hl hu=>?_;clear q;subst e_;rintro v I oI C oC D m₂ h tk E' ⟨t,rfl⟩ hC hx F N off ne;have D1:=GS (oI:=oI) (oC:=oC) (oD:=LCg.lst ys) off ne D0;dsimp only;repeat' ((fail_if_success(with_reducible show wpAny _ _ (call (Value.ref 705) _) _ _ _));first|(k_unfold;(try dsimp only))|walk1|(dsimp only;walk1))
  k_dflt refine' use (zd w sa x' y' 32 AW AX _ n' ⟨by decide,by decide⟩) B (by k_asm) X T (by k_asm) D1 (List.perm_middle (l₁:=[_,_,_,_])) rfl rfl ?d1 ?d2 ?ret ?err;case d1=>dsimp only[Mine.Internal.Ar];exact aC 278604398318287566970404931984 rfl ki
  case d2=>dsimp only[Mine.Internal.Ar];exact aC 1947202716655523095973512317217737104 rfl rR
  case err=>exact fun a_ b_ c_ d_ e_ f_ h=>h.elim
  case ret=>
   intro v post h' dU F1 N1 D2 q;refine fN q fun d t x2 y2 t_=>br t_ fun M_ M' n2 az h0 AP aQ=>?_;clear q;subst az;subst aQ;replace N1:News g L h' ((sa,listOf #[.int x2 M_,.int y2 M'] n2)::(I,oI)::(C,oC)::(D,LCg.lst ys)::(L+1,co)::rest):=N1;repeat' ((fail_if_success(with_reducible show wpAny _ _ (call (Value.ref 761) _) _ _ _));first|(k_unfold;(try dsimp only))|walk1|(dsimp only;walk1))
   k_dflt refine' use (ur w d t ⟨h0,AP⟩) B (by k_asm) X T (by k_asm) D2 (List.Perm.refl _) rfl rfl ?d1 ?d2 ?ret ?err;case d1=>dsimp only[Mine.Internal.Ar];exact aC 278604398318287566970404931984 rfl ki
   case d2=>dsimp only[Mine.Internal.Ar];exact aC 1947202716655523095973512317217737104 rfl rR
   case err=>exact fun a_ b_ c_ d_ e_ f_ h=>h.elim
   case ret=>
    intro v post h2 QN F2 N2 D3 q;refine fz q fun az t_=>ao t_ fun z t2 aQ QO hz=>?_;clear q;subst az;subst aQ;k_steps;refine LCg.CompEnd.intro F2 N2 ((L+1,co)::(sa,listOf #[.int x2 M_,.int y2 M'] n2)::rest) (fun p hp=>(List.perm_middle (l₁:=[(I,oI),(C,oC),(D,LCg.lst ys),(L+1,co)])).mem_iff.mp hp) off trivial (b9 (cs++[z]) x2 y2 M_ (gm M' n2 rfl (ints_app hy) (by rw[bR,hl];rfl) (fun x hx=>?_)));rcases cC.mp hx with hx|hx
    ·exact hu x hx
    ·rw[c9.mp hx];exact hz
 case done=>intro ys Ka q;refine fN q fun cs x' y' AW t_=>bV t_ fun AX n' e_ hy hl hu=>?_;clear q;subst e_;unfold LCg.FinA;intro D h tk F N o1;exact hQ D ys cs x' y' AW AX n' h tk F N (vj o1 D0) hy hl hu
set_option maxHeartbeats 4000000 in
theorem AY(w:World)(a:Addr)(bw:Array Value)(l:List Int)(t0:Tok)(hz:bw.size≤100000)(hI:IntsAre bw.toList l){cy:ExcName→Option Value}{mg mb:PySem.Str→Option Value}{dp un:Nat}{gd:Option (List Code)}{stack:List Env}{base g:Heap}{s:Shared}{R:Result→Shared→Prop}(B:Below (Ar dp un gd stack) base stack g)(kp:∀b o,g.get? b=some o→s.heap.get? b=some o)(sz:g.objs.size≤s.heap.objs.size)(X:(hd.heap_39 w.params).In g)(T:jI cy mg mb g)(hl:g.IsList a bw)(ki:dp+12≤900)(rR:un+120≤6000)(ret:∀D x y tx ty n h' dU,(∀b o,g.get? b=some o→h'.get? b=some o)→ik g h' [(D,listOf #[.int x tx,.int y ty] n)]→R (.ok (.ret (.ref D))) {s with heap:=h',toks:=dU}):codeAny (model PySem.Challenge.rw_xw0233_01.row.prog w) (Ar dp un gd stack) (.call (.ref 698) ⟨[.ref a,.int 0 t0],[]⟩) R s:=by
 refine' enter (pre:=[]) B kp sz X T (fun a_ hp=>nomatch hp) ?k8 ?k6 ?k7 ?k9 ?kB ?_ ?c2 ?c3 ?c4 ?c5
 (case k8=>simp only[recursionLimit];exact aC 64867816074365122561 rfl ki)
 (case k6=>k_is)
 (case k7=>k_is)
 (case k9=>first|exact BindsTo.of_eq rfl|exact binds_K (X.keeps kp) rfl (by k_is) rfl rfl rfl)
 (case c5=>decide)
 (case kB=>exact locs tt)
 (case c2=>exact ff)
 (case c3=>exact ff)
 (case c4=>exact rfl)
 k_whole;intro L bH F N gq;replace F:Fr g L bH (fun y=>List.lookup y [(Str.ofString "k",Value.int 0 t0),(Str.ofString "script",Value.ref a)]):=F;obtain⟨vs⟩:=bw;repeat' (first|(with_reducible refine PyProof.Rows.mul_int ?_ (by(first|exact Mine.Internal.nj (by decide) (by decide)|exact Mine.Internal.HA|exact Mine.Internal.HB (by decide))))|(k_unfold;(try dsimp only))|walk1|(dsimp only;walk1))
 all_goals exact ret _ _ _ _ _ _ _ _ (Fr.keep (by assumption)) (rY (by assumption))
noncomputable abbrev Kb:Stmt:=Stmt.Assign [Expr.Name (Str.ofString "source") {line:=604,col:=4,endLine:=604,endCol:=10}]
 ((Expr.Name (Str.ofString "_law_pool") {line:=604,col:=13,endLine:=604,endCol:=22}).Call
  [Expr.Name (Str.ofString "script") {line:=604,col:=23,endLine:=604,endCol:=29},Expr.Constant (Const.int 0) 0 {line:=604,col:=31,endLine:=604,endCol:=32}]
  [] {line:=604,col:=13,endLine:=604,endCol:=33})
 {line:=604,col:=4,endLine:=604,endCol:=33}
set_option maxHeartbeats 4000000 in
theorem GU{w:World}{cy:ExcName→Option Value}{mg mb:PySem.Str→Option Value}{dp un:Nat}{gd:Option (List Code)}{base g:Heap}{L:Addr}{s:Shared}{a f:Addr}{cd:Value}{qual:PySem.Str}{co:Obj}{bw:Array Value}{l:List Int}{Q:Flow→Shared→Prop}{E:dB}(B:Below (Ar dp un gd []) base [] g)(X:(hd.heap_39 w.params).In g)(T:jI cy mg mb g)(ki:dp+40≤900)(rR:un+400≤6000)(hz:bw.size≤100000)(hI:IntsAre bw.toList l)(hl:g.IsList a bw)(F:Fr g L s.heap (fun y=>if y=Str.ofString "script" then some (.ref a)else none))(N:News g L s.heap [(L+1,co)])(jm:co.data=.cell none)(hQ:∀D x y tx ty n o' h' tk,Fr g L h' (fun y=>if y=Str.ofString "script" then some (.ref a)else none)→News g L h' [(L+1,o'),(D,listOf #[.int x tx,.int y ty] n)]→o'.data=.cell (some (.ref D))→L+1≠D→Q .next {s with heap:=h',toks:=tk}):wpAny (model PySem.Challenge.rw_xw0233_01.row.prog w) ((Ar dp un gd []).deeper (envX qual jC L f cd [(Str.ofString "source",L+1)])) (exec Kb (envX qual jC L f cd [(Str.ofString "source",L+1)])) Q E s:=by
 repeat' ((fail_if_success(with_reducible show wpAny _ _ (call (Value.ref 698) _) _ _ _));first|(k_unfold;(try dsimp only))|walk1|(dsimp only;walk1))
 have Bp:=pushX (env:=envX qual jC L f cd [(Str.ofString "source",L+1)]) B F rfl rfl;refine aa hl fun o ho hr=>wpAny_call (AY w a bw l _ hz hI (dp:=dp+1) (un:=un+3) (gd:=gd) (stack:=[envX qual jC L f cd [(Str.ofString "source",L+1)]]) (g:=s.heap) Bp (fun a_ b_ h=>h) (bF _) (X.keeps F.keep) (T.keeps F.keep) (ah o (F.keep _ _ ho) hr) (aC 278604398318287566970941802896 rfl ki) (aC 121700169790970193498344318458857872 rfl rR) fun D x y tx ty n h' dU kp N1=>?_);have z:=N _ aS;have hD:=N1 _ aS;have Mg:L+1≠D:=fun e=>by have:=hD.2;rw[←show L+1=D from e,z.1]at this;exact sN this
 have hL:D≠L:=fun e=>by refine de F.ns fun oL es ep q _=>?_;have:=hD.2;rw[show D=L from e,q]at this;exact sN this
 have F1:Fr g L h' (fun y=>if y=Str.ofString "script" then some (.ref a)else none):=F.keeps kp
 have N2:News g L h' [(L+1,co),(D,listOf #[.int x tx,.int y ty] n)]:=fun p hp=>by
  rcases bD.mp hp with rfl|hp
  ·exact⟨kp _ _ z.1,z.2⟩
  ·rw[c9.mp hp];refine aN hD.1 hL ?_;generalize q:g.get? D=y_;induction y_ with
   |none=>rfl
   |some o=>have:=F.keep _ _ q;rw[hD.2]at this;exact nS this
 exact storeX_C F1 N2 rfl (UpdF.head fun p hp=>by rw[c9.mp hp];exact Ne.symm Mg) jm (fun h2 o' F2 N3 ug=>(hQ D x y tx ty n o' h2 _ F2 N3 ug Mg)) rfl rfl
noncomputable abbrev Kc:Stmt:=Stmt.Expr
 (((Expr.Name (Str.ofString "choices") {line:=612,col:=8,endLine:=612,endCol:=15}).Attribute
  (Str.ofString "append") {line:=612,col:=8,endLine:=612,endCol:=22}).Call
  [Expr.Constant (Const.int 1) 0 {line:=612,col:=23,endLine:=612,endCol:=24}] []
  {line:=612,col:=8,endLine:=612,endCol:=25})
 {line:=612,col:=8,endLine:=612,endCol:=25}
set_option maxHeartbeats 4000000 in
theorem append_one{s:Shared}{m:PySem.Str→Option Value}{bw:Array Value}{Q:Flow→Shared→Prop}{E:dB}(F:Fr g L s.heap m)(N:News g L s.heap ((a,listOf bw n)::rest))(D:(adr ((a,listOf bw n)::rest)).Nodup)(hm:m (Str.ofString "choices")=some (.ref a))(hz:bw.size≤1000)(k:∀h' n' t tk,Fr g L h' m→News g L h' ((a,listOf (bw.push (.int 1 t)) n')::rest)→Q .next {s with heap:=h',toks:=tk}):wpAny (model PySem.Challenge.rw_xw0233_01.row.prog w) A (execs [Kc] (envX qual jC L f cd [(Str.ofString "source",L+1)])) Q E s:=by k_steps;refine nameX_L F hm ?_ rfl rfl;k_steps;refine wpAny_list_append_plain ⟨n,(N _ aS).1⟩ (fun h' df hs=>?_) (by rw[sizeLine_eq];exact aC 1153173707285491382272 rfl hz);obtain⟨n',g1⟩:=df;have h1:=N _ aS;exact bc (k h' n' _ _ (gr F h1.2.1 h1.2.2 (eG hs)) (dM N D (eG hs) g1))
set_option maxHeartbeats 4000000
noncomputable abbrev Kd:List Nat:=[120,128,86,137,132]
noncomputable abbrev Ke:List Nat:=[124,19,16,20,193,26,6,23,24,27]
theorem AZ:fv jC Kd Ke:=wh tt
noncomputable def vm:Ss:=(.cons (.asg (.tup (.cons (.loc 128 310175) (.cons (.loc 86 313775) .nil)) 770975) (.tup (.cons (.call (.gX 16 318575) (.cons (.int 8 91175) .nil) 548975) (.cons (.lst (.cons (.lst .nil 170975) (.cons (.none 326975) .nil)) 784775) .nil)) 1623575) 2614175) .nil)
noncomputable def vn:Ss:=(.cons (.asg (.att (.loc 128 310176) 136 1001376) (.bin .add (.int 1 89376) (.call (.gX 20 706176) (.cons (.uu 124 481776) (.cons (.int 24 179376) .nil)) 1627776) 1932576) 3151776) .nil)
section
variable{w:World}{c:Cx w}{lv:Nat}{σ:St}{ρ:List Addr}{P:Led}{s:Shared}{X:St→Prop}{ls gs:List Nat}{Q:Flow→Shared→Prop}
noncomputable def C7(I:St→Prop):KF:=fun fl σ=>match fl with
 |.next=>I σ
 |_=>False
theorem tB{Kp:List Nat}{st:Stmt}{ss:List Stmt}{I:St→Prop}(h:oN c Kp (execs [st] c.env) σ (C7 I))(R:aK c σ ρ P s)(k:∀σ' aI P' s',aK c σ' aI P' s'→(∀q∈P,q∈P')→I σ'→Wp c (execs ss c.env) Q s'):Wp c (execs (st::ss) c.env) Q s:=fun Γ p j3 h1 h2=>by
 have z:=h ρ P s R Γ p j3 h1 h2;rw[execs_cons,Sem.wp_bind']at z⊢;refine Sem.wp_mono _ _ _ (fun fl p' s' hz=>?_) (fun a_ b_ c_ h=>h) _ _ z;induction fl with
 |next=>refine br ((show iI c Kp ρ P (C7 I) .next s' from hz)) fun σ' aI P' k1 k2 R' q=>?_;exact k σ' aI P' s' R' k2 q Γ p' j3 h1 h2
 |brk=>refine br ((show iI c Kp ρ P (C7 I) .brk s' from hz)) fun _ _ _ _ _ _ q=>?_;exact q.elim
 |cont=>refine br ((show iI c Kp ρ P (C7 I) .cont s' from hz)) fun _ _ _ _ _ _ q=>?_;exact q.elim
 |ret v=>refine br ((show iI c Kp ρ P (C7 I) (.ret v) s' from hz)) fun _ _ _ _ _ _ t_=>aa t_ fun _ _ q=>?_;exact q.elim
noncomputable abbrev dI(c:Cx w):Cx w:={c with stack:=[],qual:=Str.ofString "law",scope:=jC,f:=766,cl:=[(Str.ofString "source",c.L+1)],S:=fun a_ b_=>False,K:=[(1,c.L+1)],E:=fun a_ b_=>False}
theorem rF(O:(dI c).Ok lv):Ld (dI c) lv (fun a_=>False) Kd Ke:=⟨O,fun a_ b_ c_ d_ e_ f_ g_ h_ i_ j_ k_ l_ m_ n_ o_ p_ q_ r_ s_ t_ u_ v_ w_ h=>h.elim,fun a_ b_ c_ d_ e_ f_ g_ h_ i_ j_ k_ l_ m_ n_ o_ p_ q_ r_ s_ h=>h.elim,.never,AZ⟩
noncomputable abbrev Oc(x y:Int):St:=⟨[],[.dead,.cell (.ref 2),.ints [x,y]]⟩
noncomputable abbrev Ln(x y:Int)(k:Option Int):St:=⟨[(128,.ref 2),(86,.ref 3)],[.dead,.cell (.ref 4),dc 0 k 5 6 7,.list [.ref 11,.none],.ints [x,y],.d0,.d0,.inst 497 [(171,.ref 8),(172,.ref 9),(173,.ref 10)],.d0,.d0,.d0,.list []]⟩
theorem GV:v5 w 140 X 60 [1] vm (Oc x y) (C7 fun σ=>∃κ σ',Norm [1] κ σ σ'∧σ'=Ln x y none):=by exact ae ve [3] tt rfl rfl [3,4,5,6,7,8,9] tt (⟨rfl,(jo [0,1,3,11,2,4,5,6,7,8,9,10] rfl tt rfl rfl)⟩)
theorem GX:v5 w 140 X 60 [1] vn (Ln x y none) (C7 fun σ=>∃x y k,σ=Ln x y (some k)):=by
 refine⟨tt,(aW fF (dH (w:=w) x y 24 (by decide) (by decide)) [4] tt rfl rfl ?_)⟩
 ·intro m x y m0 m1;exact vJ x y _ rfl
end
theorem GY(h:Wd x):num (w4 x)=x:=by
 refine bg (Int.eq_ofNat_of_zero_le h.1) fun n az=>?_;subst az;have hn:n<4294967296:=Int.ofNat_lt.mp h.2;have e:Int.fmod (n:Int) 4294967296=n:=by rw[Int.fmod_eq_emod_of_nonneg _ (by decide)];exact Int.emod_eq_of_lt h.1 h.2
 have q:∀m:Nat,((m:Int).toNat.toUInt8.toNat:Int)=((m% 256:Nat):Int):=fun m=>rfl;unfold num w4 KFB.value;rw[e,List.map_map];refine(?_:(((0*256+(((n:Int)/256/256/256% 256).toNat.toUInt8.toNat:Int))*256+(((n:Int)/256/256% 256).toNat.toUInt8.toNat:Int))*256+(((n:Int)/256% 256).toNat.toUInt8.toNat:Int))*256+(((n:Int)% 256).toNat.toUInt8.toNat:Int)=n);rw[show(n:Int)/256/256/256% 256=((n/256/256/256% 256:Nat):Int) from rfl,show(n:Int)/256/256% 256=((n/256/256% 256:Nat):Int) from rfl,show(n:Int)/256% 256=((n/256% 256:Nat):Int) from rfl,show(n:Int)% 256=((n% 256:Nat):Int) from rfl,q,q,q,q];exact av Int.ofNat (show(((0*256+n/256/256/256% 256% 256)*256+n/256/256% 256% 256)*256+n/256% 256% 256)*256+n% 256% 256=n by rw[Nat.mod_mod,Nat.mod_mod,Nat.mod_mod,Nat.mod_mod,Nat.mod_eq_of_lt (a:=n/256/256/256) (Nat.div_lt_of_lt_mul (Nat.div_lt_of_lt_mul (Nat.div_lt_of_lt_mul hn))),Nat.zero_mul,Nat.zero_add,Nat.div_add_mod',Nat.div_add_mod',Nat.div_add_mod'])
theorem tC(a b:List Int):en (a++b)=en a++en b:=List.flatMap_append
theorem l4(h:a.length=n):aL (a++b) (n+i) (n+j)=aL b i j:=by unfold aL;rw[List.drop_append,List.drop_eq_nil_of_le (by exact bG 270670080 rfl h),List.nil_append,h,show n+i-n=i by exact bo (bG 144167215616 rfl (aG (fo 67840 rfl))) (tX 144167215136 1 [-1] rfl (aG (fo 67840 rfl))),show n+j-(n+i)=j-i by exact(Nat.le_total (n+i) (n+j)).elim (fun a0=>bo (@oP [_,_,_,_,_] [] 14849134455434058551040 1 [1,-1] rfl (aG (bG 9166667129622672 rfl a0)) (aG (m7 54503555015456 rfl (aG (bG 9166667129622672 rfl a0))))) (@oP [_,_,_,_,_] [] 14849134455434058532080 1 [-1,1] rfl (aG (bG 9166667129622672 rfl a0)) (aG (m7 54503555015456 rfl (aG (bG 9166667129622672 rfl a0)))))) (fun a0=>bo (ar 7348480 rfl (Nat.sub_eq_zero_of_le (bG 9166667129622672 rfl a0))) (ar 7348480 rfl (Nat.sub_eq_zero_of_le (bG 139872240144 rfl a0))))]
theorem jd(h:a.length=n):aL (a++b) 0 n=a:=by unfold aL;rw[List.drop_zero,Nat.sub_zero,List.take_append_of_le_length (by exact eQ 1056784 1 [-1] rfl h),List.take_of_length_le (by exact ar 1057024 rfl h)]
theorem tD:∀{ws:List Int} {i:Nat} {x:Int},ws[i]?=some x→aL (en ws++r) (4*i) (4*i+4)=w4 x
 |[],i,x,h=>by exact nS h
 |a::ws,0,x,h=>by have q_:=bf h;clear h;subst q_;refine(?_:aL (w4 a++en ws++r) 0 4=w4 a);rw[bC];exact jd rfl
 |a::ws,i+1,x,h=>by refine(?_:aL (w4 a++en ws++r) (4*(i+1)) (4*(i+1)+4)=w4 x);rw[bC,show 4*(i+1)+4=4+(4*i+4) by exact bo (bX 5364694309397542497962640 rfl) (bX 5371407123644940651415440 rfl),show 4*(i+1)=4+4*i by exact bo (bX 1306739891307680 rfl) (bX 103741438936369040 rfl),l4 (a:=w4 a) (n:=4) rfl];exact tD h
theorem om(h:ws[i]?=some x)(hx:Wd x):num (aL (en ws++r) (4*i) (4*i+4))=x:=by rw[tD h,GY hx]
theorem D_(h:8≤b.length):Wd (ck b x y).1∧Wd (ck b x y).2:=by unfold ck;obtain⟨k,e⟩:∃k,b.length/8=k+1:=⟨b.length/8-1,by exact(Nat.le_total (1) (b.length/8)).elim (fun a0=>bo (eQ 19175184992528 1 [-1] rfl (aG (aC 24117616 rfl a0))) (ar 19175184625808 rfl (aG (aC 24117616 rfl a0)))) (fun a0=>bo (ar 98785761536 rfl a0) (LQ 10706023643386936822046584304528 8 [1,-1,8,1] rfl h (Nat.div_add_mod (b.length) 8) (Nat.sub_eq_zero_of_le (aC 385881856 rfl a0)) (Nat.mod_lt _ (by decide))))⟩;rw[e];exact⟨⟨Int.emod_nonneg _ (by decide),Int.emod_lt_of_pos _ (by decide)⟩,⟨Int.emod_nonneg _ (by decide),Int.emod_lt_of_pos _ (by decide)⟩⟩
theorem yp(hn:ws.length=n)(h:∀x∈ws,Wd x):words (en ws) n=ws:=by
 unfold words;refine List.ext_getElem? fun i=>?_;rw[List.getElem?_map];generalize q:ws[i]?=y_;induction y_ with
 |none=>rw[List.getElem?_eq_none (by rw[List.length_range,←hn];exact List.getElem?_eq_none_iff.mp q)];rfl
 |some x=>have hi:=(dX.mp q).1;rw[List.getElem?_range (by exact eR 554705185 rfl hn hi)];have:=om (r:=[]) q (h x (List.mem_of_getElem? q));rw[List.append_nil]at this;exact av some this
theorem A_(nu s0 s1:Int):Wd (cx nu s0 s1).1∧Wd (cx nu s0 s1).2:=D_ (by rw[gK];decide)
theorem tE(nu s0 s1:Int):eJ nu s0 s1=en [931071618,3007000,8,nu,s0,s1,(cx nu s0 s1).1,(cx nu s0 s1).2]:=(tC [931071618,3007000,8,nu,s0,s1] _).symm
theorem fM(nu s0 s1:Int):(eJ nu s0 s1).length=32:=by rw[tE,da];rfl
theorem oo(nu s0 s1:Int):ck (aL (eJ nu s0 s1) 0 24) 0 0=((cx nu s0 s1).1,(cx nu s0 s1).2):=by have:aL (eJ nu s0 s1) 0 24=oh nu s0 s1:=jd (gK _ _ _);rw[this];rfl
theorem tG(h:Wd nu)(h0:Wd s0)(h1:Wd s1):words (eJ nu s0 s1) 8=[931071618,3007000,8,nu,s0,s1,(cx nu s0 s1).1,(cx nu s0 s1).2]:=by rw[tE];refine yp rfl fun x hx=>?_;obtain⟨a,b⟩:=A_ nu s0 s1;simp only[bD,List.not_mem_nil,or_false]at hx;rcases hx with rfl|rfl|rfl|rfl|rfl|rfl|rfl|rfl<;>first|assumption|exact⟨by decide,by decide⟩
theorem ou(s0 s1 p k:Int)(o:aD)(u:Int×Int):mY s0 s1 p k o u=en [p,k,s0,s1,(fX p k o u).1,(fX p k o u).2]++o:=by unfold mY;rw[←tC];rfl
theorem rG(h:o.length=8):(mY s0 s1 p k o u).length=32:=by rw[ou,bR,da,h];rfl
theorem GZ(ho:o.length=8)(hp:Wd p)(PZ:p≠0)(hk:Wd k)(h0:Wd s0)(h1:Wd s1):lW s0 s1 u0 u1 (mY s0 s1 p k o (u0,u1))=some (p,k,(fX p k o (u0,u1)).1,(fX p k o (u0,u1)).2):=by
 have hl:(en [p,k]++o).length=16:=by rw[bR,rx,ho]
 obtain⟨w1,w2⟩:Wd (fX p k o (u0,u1)).1∧Wd (fX p k o (u0,u1)).2:=D_ (by rw[hl];decide);have Od:=rG (s0:=s0) (s1:=s1) (p:=p) (k:=k) (u:=(u0,u1)) ho;have c1:aL (mY s0 s1 p k o (u0,u1)) 0 8=en [p,k]:=by unfold mY;rw[bC];exact jd (rx _ _)
 have c2:aL (mY s0 s1 p k o (u0,u1)) 24 (mY s0 s1 p k o (u0,u1)).length=o:=by rw[Od,ou];have:=l4 (a:=en [p,k,s0,s1,(fX p k o (u0,u1)).1,(fX p k o (u0,u1)).2]) (b:=o) (i:=0) (j:=8) (n:=24) (by rw[da];rfl);rw[show 24+0=24 from rfl,show 24+8=32 from rfl]at this;rw[this];unfold aL;rw[List.drop_zero];exact List.take_of_length_le (Nat.le_of_eq ho)
 have e:∀{i:Nat} {x:Int},[p,k,s0,s1,(fX p k o (u0,u1)).1,(fX p k o (u0,u1)).2][i]?=some x→Wd x→num (aL (mY s0 s1 p k o (u0,u1)) (4*i) (4*i+4))=x:=fun hi hx=>by rw[ou];exact om hi hx
 have e0:=e (i:=0) rfl hp;have e1:=e (i:=1) rfl hk;have e2:=e (i:=2) rfl h0;have e3:=e (i:=3) rfl h1;have e4:=e (i:=4) rfl w1;have e5:=e (i:=5) rfl w2;unfold lW;rw[aH (by exact fun e=>rW 565699034644522 0 [-1,1] rfl Od e),aH,aB]
 ·rw[show num (aL (mY s0 s1 p k o (u0,u1)) 0 4)=p from e0,show num (aL (mY s0 s1 p k o (u0,u1)) 4 8)=k from e1,c1,c2];rfl
 ·rw[c1,c2];exact⟨e4,e5⟩
 ·rw[show num (aL (mY s0 s1 p k o (u0,u1)) 0 4)=p from e0];exact fun z=>z.elim PZ fun z=>z ⟨e2,e3⟩
def Old(s:Int)(k:aD):Prop:=num (aL k 0 4)=0∨num (aL k 8 12)<s
theorem G1(h:Old s0 k):lW s0 s1 u0 u1 k=none:=by
 unfold lW;split
 ·rfl
 ·rw[aB];rcases h with h|h
  ·exact .inl h
  ·exact .inr fun z=>by rw[z.1]at h;exact Int.lt_irrefl _ h
theorem Ba(h:Old s k)(hs:s≤s'):Old s' k:=h.imp id fun h=>Int.lt_of_lt_of_le h hs
theorem C8(h0:Wd s0)(h:s0<s):Old s (mY s0 s1 p k o u):=.inr (by rw[ou];have:=om (r:=o) (ws:=[p,k,s0,s1,(fX p k o u).1,(fX p k o u).2]) (i:=2) rfl h0;rw[show num (aL (en [p,k,s0,s1,(fX p k o u).1,(fX p k o u).2]++o) 8 12)=s0 from this];exact h)
theorem Bb(s:Int):Old s (List.replicate 32 0):=.inl (by decide)
noncomputable abbrev Bc(n:Int)(c:Option Int)(sy b:aD)(ops:List Op)(I:Ix)(x:O):List O:=[dO 1 2 3,dc n c 4 5 6,dA 1 225 sy 11 10,I.o,.dead,.dead,mB,.dead,.dead,.d0,.ba b,.ops ops,.ints I.fr,.rows I.pl none,.eN I.co,x]
structure Sq(I:Ix)(ns:List Int)(cnt:Int)(ov:Int→aD)(b:aD)(us:Nat→Int×Int)(fB bb:Nat→aD)(op:Nat→List Op):Prop where
 u0:us 0=(I.u0,I.u1)
 b0:bb 0=b
 o0:op 0=[]
 f:∀i,i<ns.length→mY I.s0 I.s1 (ns.getD i 0) (if ns.getD i 0=ns.getLast?.getD 0 then cnt else 0) (ov (ns.getD i 0)) (us i)=fB i
 s:∀i,i<ns.length→fX (ns.getD i 0) (if ns.getD i 0=ns.getLast?.getD 0 then cnt else 0) (ov (ns.getD i 0)) (us i)=us (i+1)
 b:∀i,i<ns.length→dh (bb i) (32+(I.la+i+1-1)*32).toNat (fB i)=bb (i+1)
 o:∀i,i<ns.length→op i++[.write (32+(I.la+i+1-1)*32) (fB i)]=op (i+1)
 fl:∀i,(fB i).length≤50000
 bl:∀i,(bb i).length≤50000
 ol:∀i,(op i).length≤1000
section
variable{w:World}
abbrev Lo(ns:List Int)(cnt:Int)(n1:Int)(c:Option Int)(b2:aD)(ch:List (Int×aD))(I2:Ix)(us:Nat→Int×Int)(bb:Nat→aD)(op:Nat→List Op)(k:Nat)(σ:St):Prop:=σ=⟨[(138,.ref 0),(164,.ref 15),(151,.int cnt),(159,.ref 3),(165,.ref 16),(116,.tup [.int (us k).1,.int (us k).2]),(118,.int (I2.la+k))],[dO 1 2 3,dc (n1+k) c 4 5 6,dA 1 225 b2 11 10,dz 12 13 14 I2.la I2.cp I2.s0 I2.s1 I2.nu I2.u0 I2.u1 I2.hl true,.dead,.dead,mB,.dead,.dead,.d0,.ba (bb k),.ops (op k),.ints I2.fr,.rows I2.pl none,.eN I2.co,.gf ch,.ints ns]⟩
abbrev Lp(ns:List Int)(cnt:Int)(n1:Int)(c:Option Int)(bm:aD)(ch:List (Int×aD))(I2:Ix)(um:Int×Int)(k:Nat)(σ:St):Prop:=σ=⟨[(138,.ref 0),(164,.ref 15),(151,.int cnt),(159,.ref 3),(165,.ref 16),(116,.tup [.int um.1,.int um.2]),(118,.int (I2.la+ns.length))],[dO 1 2 3,dc n1 c 4 5 6,dA 1 225 bm 17 10,dz 12 13 14 I2.la I2.cp I2.s0 I2.s1 I2.nu I2.u0 I2.u1 I2.hl true,.dead,.dead,mB,.dead,.dead,.d0,.ba bm,.dead,.ints (I2.fr++ns.take k),.rows (rowsOf (I2.fr++ns.take k)) none,.eN I2.co,.gf ch,.ints ns,.list []]⟩
theorem o5(n:Int)(c:Option Int)(b b2 H:aD)(I I1 I2:Ix)(ch:List (Int×aD))(cnt u0 u1:Int)(ns:List Int)(ov:Int→aD)(us:Nat→Int×Int)(fB bb:Nat→aD)(op:Nat→List Op)
  (fy:ch≠[]) (HT:ch.length<64) (tV:sortI (aj ch)=ns) (hlen:ns.length≤64) (P8:ns≠[]) (P9:∀i,i<ns.length→aV ch (ns.getD i 0)=some (ov (ns.getD i 0))∧(ov (ns.getD i 0)).length=8)
  (J6:I.sp=false) (hb:b.length≤50000)
  (P_:0<I.la→I.cp=I.la→(0≤I.nu∧I.nu≤1000000)∧I.re=I1) (Lq:(0<I.la→I.cp≠I.la)→I=I1)
  (Qa:I1.la=0→(I1.hl=true→b=[])∧eJ I1.nu I1.s0 I1.s1=H∧H.length=32∧ck (aL H 0 24) 0 0=(u0,u1)∧dh b 0 H=b2∧(⟨I1.la,I1.cp,I1.s0,I1.s1,I1.nu,u0,u1,false,I1.sp,I1.fr,I1.pl,I1.co⟩:Ix)=I2)
  (MM:I1.la≠0→b=b2∧I1=I2) (h2:0≤I2.la∧I2.la≤100) (Kg:I2.pl=rowsOf I2.fr) (o6:I2.fr.length≤1000) (jm:I2.co.length≤1000) (S:Sq I2 ns cnt ov b2 us fB bb op):
  aF w 330 70 11 [.ref 0,.ref 15,.int cnt] (Bc n c b b [] I (.gf ch))
   (fun r cs'=>r=.int (I2.fr++ns).length∧∃n',cs'=lw n' c (bb ns.length) (bb ns.length) [] ⟨(I2.fr++ns).length,I2.cp,I2.s0,I2.s1,I2.nu,(us ns.length).1,(us ns.length).2,I2.hl,false,I2.fr++ns,rowsOf (I2.fr++ns),dput I2.co (I2.fr++ns).length cnt⟩)
   (fun cs'=>c≠none∧∃n' sy b' ops J,cs'=lw n' c sy b' ops J∧((I1.la=0∧sy=b∧(ops=[]∨ops=[.write 0 H]))∨(sy=b2∧∃i,i≤ns.length∧ops=op i))):=by
 subst tV
 have hM:((sortI (aj ch)).map V.int).length=(sortI (aj ch)).length:=bK _
 refine aE (Gq w) tt 60 fun qQ qX qq qx=>?_
 refine aN (by refine(?_:ch.length≤100000);exact aC 288934138866587648 rfl HT) (fun a_=>?_) (fun h=>absurd (by simpa using h) fy)
 refine ah (fun σ=>σ=⟨[(138,.ref 0),(164,.ref 15),(151,.int cnt),(159,.ref 3)],Bc n c b b [] I (.gf ch)⟩) (aN trivial (fun h=>absurd (J6.symm.trans h) (by decide)) (fun a_=>jv rfl rfl rfl)) (mz (ah (fun σ=>σ=⟨[(138,.ref 0),(164,.ref 15),(151,.int cnt),(159,.ref 3)],Bc n c b b [] I1 (.gf ch)⟩) ⟨fun h=>⟨fun h'=>?_,fun h'=>?_⟩,fun h=>?_⟩ ?_))
 ·have h:0<I.la:=cX h
  have h':I.cp=I.la:=beq_iff_eq.mp h'
  have q:=P_ h h'
  exact ae (ry (w:=w) n c b b [] I I1 h' q.1 (fun z=>absurd h z) fun a_=>q.2) dR tt rfl rfl [0,1,2,3,4,5,6,7,8,9,10,11,16,17,18] tt (jo [0,1,2,3,4,5,6,7,8,9,10,11,16,17,18,15] rfl tt rfl rfl)
 ·have h':I.cp≠I.la:=beq_eq_false_iff_ne.mp h'
  exact jv (av (fun I=>(⟨_,Bc n c b b [] I (.gf ch)⟩:St)) (Lq fun a_=>h')) rfl rfl
 ·have h:¬0<I.la:=of_decide_eq_false h
  exact jv (av (fun I=>(⟨_,Bc n c b b [] I (.gf ch)⟩:St)) (Lq fun z=>absurd z h)) rfl rfl
 refine mz (⟨fun σ=>∃n',σ=⟨[(138,.ref 0),(164,.ref 15),(151,.int cnt),(159,.ref 3)],Bc n' c b2 b2 [] I2 (.gf ch)⟩,⟨fun h=>?_,fun h=>?_⟩,?_⟩)
 ·have h:I1.la=0:=beq_iff_eq.mp h
  refine rU (Qa h) fun a1 a2 a3 a4 a5 a6=>call_of (vd (w:=w) n c b b [] I1 H u0 u1 a1 hb (by decide) a2 a3 a4 (by rw[a5,←S.b0];have:=S.bl 0;exact aC 225181248012473620480 rfl this)) dR tt rfl ?_ (fun r cs' h=>?_) (fun cs' h=>?_)
  exact rfl
  ·refine fz h fun fQ az=>?_;clear h;subst fQ;subst az
   exact jo [0,1,2,3,4,5,6,7,8,9,10,16,17,18,19,15] ⟨n+1+1,Eq.trans (av (fun I=>(⟨_,Bc (n+1+1) c (dh b 0 H) (dh b 0 H) [] I (.gf ch)⟩:St)) a6) (av (fun z=>(⟨_,Bc (n+1+1) c z z [] I2 (.gf ch)⟩:St)) a5)⟩ tt rfl rfl
  ·obtain⟨hc,n',rfl|rfl⟩:=h
   ·exact bJ [0,1,2,3,4,5,6,7,8,9,10,16,17,18,19] (qx _ (j8 hc n' _ _ _ _ rfl (.inl (aN (‹_›) rfl (.inl rfl))))) rfl tt
   ·exact bJ [0,1,2,3,4,5,6,7,8,9,10,16,17,18,19] (qx _ (j8 hc n' _ _ _ _ rfl (.inl (aN (‹_›) rfl (.inr rfl))))) rfl tt
 ·obtain⟨e1,e2⟩:=MM (beq_eq_false_iff_ne.mp h)
  exact jv ⟨n,Eq.trans (av (fun I=>(⟨_,Bc n c b b [] I (.gf ch)⟩:St)) e2) (av (fun z=>(⟨_,Bc n c z z [] I2 (.gf ch)⟩:St)) e1)⟩ rfl rfl
 refine mA fun n1=>⟨HT,?_⟩
 have lm:=hM
 have ni:∀k<(sortI (aj ch)).length,(I2.la+k+1:Int)≤200:=fun k hk=>by exact yU 1366734162251420198686045391251 rfl h2.2 hlen hk
 refine yL (by refine(?_:((sortI (aj ch)).map V.int).length≤100000);exact dC 21041521153070356496 rfl hlen lm) (Lo (sortI (aj ch)) cnt n1 c b2 ch I2 us bb op) ?_ ?_ ?_ ?_
 ·unfold Lo
  rw[S.u0,S.b0,S.o0,show I2.la+((0:Nat):Int)=I2.la from Int.add_zero _,show n1+((0:Nat):Int)=n1 from Int.add_zero _];rfl
 ·rintro k σ' _ rfl;rfl
 ·refine wF fun k v hk hv=>?_
  have hk:k<(sortI (aj ch)).length:=by rwa[lm]at hk
  obtain rfl:v=.int ((sortI (aj ch)).getD k 0):=by
   rw[List.getElem?_map,cn hk]at hv
   rw[cW,cn hk];exact(bf hv).symm
  have f1:=S.f k hk
  have f2:=S.s k hk
  have f3:=S.b k hk
  have f4:=S.o k hk
  have f5:=P9 k hk
  let p:=(sortI (aj ch)).getD k 0
  let kk:=if p=(sortI (aj ch)).getLast?.getD 0 then cnt else 0
  refine ah (fun v σ=>v=.int kk∧σ=⟨[(138,.ref 0),(164,.ref 15),(151,.int cnt),(159,.ref 3),(165,.ref 16),(116,.tup [.int (us k).1,.int (us k).2]),(118,.int (I2.la+k+1)),(131,.int p)],
   [dO 1 2 3,dc (n1+k) c 4 5 6,dA 1 225 b2 11 10,dz 12 13 14 I2.la I2.cp I2.s0 I2.s1 I2.nu I2.u0 I2.u1 I2.hl true,.dead,.dead,mB,.dead,.dead,.d0,.ba (bb k),.ops (op k),.ints I2.fr,.rows I2.pl none,.eN I2.co,.gf ch,.ints (sortI (aj ch))]⟩) ⟨by exact aC 288934129129510912 rfl hlen,.inr (cZ rfl P8 (fun h=>?_) (fun h=>?_))⟩ ?_
  ·have h:p=(sortI (aj ch)).getLast?.getD 0:=beq_iff_eq.mp h
   exact⟨av V.int (aB h).symm,rfl⟩
  ·have h:p≠(sortI (aj ch)).getLast?.getD 0:=beq_eq_false_iff_ne.mp h
   exact⟨av V.int (aH h).symm,rfl⟩
  refine lS (ah _ f5.1 (ae (rz (w:=w) (n1+k) c b2 (bb k) (op k) ⟨I2.la,I2.cp,I2.s0,I2.s1,I2.nu,I2.u0,I2.u1,I2.hl,true,I2.fr,I2.pl,I2.co⟩ p kk (ov p) (us k).1 (us k).2 _ _ f1 f2 f5.2) dR tt rfl rfl dR tt (ae (iP (w:=w) (I2.la+k+1)) [0,1,2,3] tt rfl rfl [0,1,2,3] tt ?_)))
  refine cI (jU (w:=w) 225 (n1+k) c b2 (bb k) (op k) (32+(I2.la+k+1-1)*32) (fB k) _ _ f3 f4 (xf 319138818200888193675313057907 1 [32] rfl h2.1) (Eu 6155223463830023003218854042036747028712663187 1 [32,32,32] rfl h2.2 hlen hk) (by have:=S.bl k;exact aC 225181248012473620480 rfl this) (S.fl k) (by have:=S.ol k;exact aC 4504584796342605824 rfl this)) [2,1,4,5,6,11,10] tt rfl rfl [2,1,4,5,6,11,10] [2,1,4,5,6,11,10] tt tt ?_ (fun h=>?_)
  ·refine jv (I:=Lo (sortI (aj ch)) cnt n1 c b2 ch I2 us bb op (k+1)) (σ':=⟨[(138,.ref 0),(164,.ref 15),(151,.int cnt),(159,.ref 3),(165,.ref 16),(116,.tup [.int (us (k+1)).1,.int (us (k+1)).2]),(118,.int (I2.la+k+1))],_⟩) ?_ rfl rfl
   unfold Lo
   rw[show I2.la+((k+1:Nat):Int)=I2.la+k+1 by exact Int.le_antisymm (lq 103834137597174931 rfl) (lq 103756828186134931 rfl),show n1+((k+1:Nat):Int)=n1+k+1 by exact Int.le_antisymm (lq 103834137597174931 rfl) (lq 103756828186134931 rfl)];rfl
  ·exact bJ dR (qx _ (j8 h _ _ _ _ ⟨I2.la,I2.cp,I2.s0,I2.s1,I2.nu,I2.u0,I2.u1,I2.hl,true,I2.fr,I2.pl,I2.co⟩ rfl (.inr (d7 rfl k (ar 1052928 rfl hk) rfl)))) rfl tt
 ·intro σ' yF
  rw[lm]at yF
  obtain rfl:=yF
  refine cI (fK (w:=w) 225 (n1+(sortI (aj ch)).length) c b2 (bb (sortI (aj ch)).length) (op (sortI (aj ch)).length) (by have:=S.bl (sortI (aj ch)).length;exact aC 225181248012473620480 rfl this)) [2,1,4,5,6,10,11] tt rfl rfl [2,1,4,5,6,10,17] [2,1,4,5,6,10,17] tt tt ?_ (fun h=>?_)
  ·let bm:=bb (sortI (aj ch)).length
   let um:=us (sortI (aj ch)).length
   refine yL (dC 21041521153070356496 rfl hlen lm) (Lp (sortI (aj ch)) cnt (n1+(sortI (aj ch)).length+1) c bm ch I2 um) ?_ ?_ ?_ ?_
   ·unfold Lp
    rw[List.take_zero,List.append_nil,←Kg];rfl
   ·rintro k σ' _ rfl;rfl
   ·refine wF fun k v hk hv=>?_
    have hk:k<(sortI (aj ch)).length:=by rwa[lm]at hk
    obtain rfl:v=.int ((sortI (aj ch)).getD k 0):=by
     rw[List.getElem?_map,cn hk]at hv
     rw[cW,cn hk];exact(bf hv).symm
    have ht:I2.fr++(sortI (aj ch)).take (k+1)=I2.fr++(sortI (aj ch)).take k++[(sortI (aj ch)).getD k 0]:=by
     rw[bC,cW,cn hk,Option.getD_some,List.take_append_getElem hk]
    have hl:(I2.fr++(sortI (aj ch)).take k).length≤2000:=by rw[bR,List.length_take];exact Ez 712509156056550059507064352813200 rfl o6 hlen hk (cq (ar 1052928 rfl hk))
    exact ae (wG (w:=w) I2.la I2.cp I2.s0 I2.s1 I2.nu I2.u0 I2.u1 I2.hl true (I2.fr++(sortI (aj ch)).take k) (I2.fr++(sortI (aj ch)).take (k+1)) (rowsOf (I2.fr++(sortI (aj ch)).take k)) (rowsOf (I2.fr++(sortI (aj ch)).take (k+1))) ((sortI (aj ch)).getD k 0) ht.symm (by rw[ht,gk]) (aC 9008184423713101824 rfl hl) (by have:=jW (I2.fr++(sortI (aj ch)).take k);exact dC 304156089603065927696 rfl hl this) (fun q xs h=>by have:=(mX h).2.2;exact dC 304156089603065927696 rfl hl this)) [3,12,13,14] tt rfl rfl [3,12,13,14] tt (jv (I:=Lp (sortI (aj ch)) cnt (n1+(sortI (aj ch)).length+1) c bm ch I2 um (k+1)) rfl rfl rfl)
   ·intro σ' yF
    have e:(sortI (aj ch)).take ((sortI (aj ch)).map V.int).length=sortI (aj ch):=by rw[lm,List.take_length]
    unfold Lp at yF
    rw[e]at yF
    obtain rfl:=yF
    exact ae (th (w:=w) I2.la I2.cp I2.s0 I2.s1 I2.nu I2.u0 I2.u1 I2.hl true (I2.fr++sortI (aj ch)) I2.co cnt um.1 um.2 (by rw[bR];exact dC 19855474372388103343404748944 rfl o6 hlen) (aC 4504584796342605824 rfl jm)) [3,12,13,14] tt rfl rfl [3,12,13,14] tt (au [0,1,2,3,4,5,6,7,8,9,10,17,12,13,14] (qq _ _ (et rfl _ rfl)) rfl rfl tt)
  ·exact bJ [0,1,2,3,4,5,6,7,8,9,10,17,12,13,14] (qx _ (j8 h _ _ _ _ ⟨I2.la,I2.cp,I2.s0,I2.s1,I2.nu,I2.u0,I2.u1,I2.hl,true,I2.fr,I2.pl,I2.co⟩ rfl (.inr (d7 rfl ((sortI (aj ch)).length) (bF _) rfl)))) rfl tt
end
noncomputable abbrev iu(n:Int)(c:Option Int)(sy b:aD)(ops:List Op)(dy e:aD)(aM:List Op)(I:Ix):List O:=[dO 1 2 3,dc n c 4 5 6,dA 1 225 sy 13 10,dz 15 16 17 I.la I.cp I.s0 I.s1 I.nu I.u0 I.u1 I.hl I.sp,.dead,.dead,mB,.dead,.dead,.d0,.ba b,dA 1 194 dy 14 12,.ba e,.ops ops,.ops aM,.ints I.fr,.rows I.pl none,.eN I.co]
section
variable{w:World}
structure Cq(b:aD)(fr ns:List Int)(cnt:Int)(e:aD)(ix:Int→Int)(ov:Int→aD)(eb:Nat→aD)(tS:Nat→List Op):Prop where
 e0:eb 0=e
 o0:tS 0=[]
 at_:∀i,i<ns.length→ns.getD i 0≤cnt→aV (newOf fr) (ns.getD i 0)=some (ix (ns.getD i 0))
 bd:∀i,i<ns.length→ns.getD i 0≤cnt→(1≤ix (ns.getD i 0)∧ix (ns.getD i 0)≤1000)∧(1≤ns.getD i 0∧ns.getD i 0≤1000)
 rd:∀i,i<ns.length→ns.getD i 0≤cnt→aL b (32+(ix (ns.getD i 0)-1)*32+24).toNat (32+(ix (ns.getD i 0)-1)*32+24+8).toNat=ov (ns.getD i 0)
 vl:∀p,(ov p).length=8
 pt:∀i,i<ns.length→ns.getD i 0≤cnt→dh (eb i) ((ns.getD i 0-1)*8).toNat (ov (ns.getD i 0))=eb (i+1)
 op:∀i,i<ns.length→ns.getD i 0≤cnt→tS i++[.write ((ns.getD i 0-1)*8) (ov (ns.getD i 0))]=tS (i+1)
 no:∀i,i<ns.length→¬ns.getD i 0≤cnt→eb i=eb (i+1)∧tS i=tS (i+1)
 el:∀i,(eb i).length≤50000
 ol:∀i,(tS i).length≤1000
noncomputable abbrev HC(n:Int)(c:Option Int)(b:aD)(la s0 s1 nu u0 u1:Int)(hl sp:Bool)(fr:List Int)(pl:List (Int×List Int))(co:List (Int×Int))(dy e:aD)(aM:List Op)(ns:List Int):List O:=[dO 1 2 3,dc n c 4 5 6,dA 1 225 b 19 10,dz 15 16 17 la 0 s0 s1 nu u0 u1 hl sp,.dead,.dead,mB,.dead,.dead,.d0,.ba b,dA 1 194 dy 14 12,.ba e,.dead,.ops aM,.ints fr,.rows pl none,.eN co,.eN (newOf fr),.list [],.ints ns]
theorem vp(n:Int)(c:Option Int)(b e ef:aD)(s0 s1 nu u0 u1 cnt:Int)(hl sp:Bool)(fr ns:List Int)(pl:List (Int×List Int))(co:List (Int×Int))(ix:Int→Int)(ov:Int→aD)(eb:Nat→aD)(tS:Nat→List Op)(o6:fr≠[]∧fr.length≤1000)(jm:aV co fr.length=some cnt)(Lr:0≤cnt∧cnt≤1000)(tV:sortI (aj (newOf fr))=ns)(G2:(newOf fr).length<64∧ns.length<64)(hb:b.length≤50000)(C:Cq b fr ns cnt e ix ov eb tS)(Qb:ef.length≤100000)(C9:((eb ns.length).length:Int)>cnt*8→fZ (eb ns.length) (cnt*8).toNat=ef)(yi:¬((eb ns.length).length:Int)>cnt*8→eb ns.length=ef):aF w 337 70 13 [.ref 0,.ref 11,.int fr.length] (iu n c b b [] e e [] ⟨fr.length,0,s0,s1,nu,u0,u1,hl,sp,fr,pl,co⟩) (fun r cs'=>r=.none∧∃n',cs'=iu n' c b b [] ef ef [] ⟨fr.length,fr.length,s0,s1,nu,u0,u1,hl,sp,fr,pl,co⟩) (fun cs'=>c≠none∧∃n' e' aM,cs'=iu n' c b b [] e e' aM ⟨fr.length,0,s0,s1,nu,u0,u1,hl,sp,fr,pl,co⟩∧((∃i,i≤ns.length∧aM=tS i)∨(((eb ns.length).length:Int)>cnt*8∧aM=tS ns.length++[.cut (cnt*8)]))):=by
 subst tV;have lm:((sortI (aj (newOf fr))).map V.int).length=(sortI (aj (newOf fr))).length:=bK _;refine aE (Gr w) tt 60 fun qQ qX qq qx=>ah cnt jm (ae (u5 (w:=w) fr.length 0 s0 s1 nu u0 u1 hl sp fr (aC 4504584796342605824 rfl o6.2) o6.1) [3,15,16,17] tt rfl rfl [3,15,16,17,18] tt (cI (fK (w:=w) 225 n c b b [] (aC 225181248012473620480 rfl hb)) [2,1,4,5,6,10,13] tt rfl rfl [2,1,4,5,6,10,19] [2,1,4,5,6,10,19] tt tt ?_ (fun h=>?_)))
 ·refine⟨G2.1,by refine(?_:((sortI (aj (newOf fr))).map V.int).length≤_);exact dC 21041521221789833232 rfl G2.2 lm,fun k σ=>∃n',σ=⟨[(138,.ref 0),(158,.ref 11),(166,.int fr.length),(159,.ref 3),(130,.int cnt),(47,.ref 18)],HC n' c b fr.length s0 s1 nu u0 u1 hl sp fr pl co e (eb k) (tS k) (sortI (aj (newOf fr)))⟩,?_,?_,?_,?_⟩
  ·refine⟨n+1,?_⟩;rw[C.e0,C.o0];rfl
  ·rintro k σ' _ ⟨n',rfl⟩;rfl
  ·refine CZ fun k v n1 hk hv=>?_;have hk:k<(sortI (aj (newOf fr))).length:=lm▸hk;obtain rfl:v=.int ((sortI (aj (newOf fr))).getD k 0):=by rw[List.getElem?_map,cn hk]at hv;rw[cW,cn hk];exact(bf hv).symm
   refine⟨fun σ=>∃n',σ=⟨[(138,.ref 0),(158,.ref 11),(166,.int fr.length),(159,.ref 3),(130,.int cnt),(47,.ref 18)],HC n' c b fr.length s0 s1 nu u0 u1 hl sp fr pl co e (eb (k+1)) (tS (k+1)) (sortI (aj (newOf fr)))⟩,⟨fun h=>?_,fun h=>?_⟩,fun a_ df=>by obtain⟨n',e⟩:=df;exact e▸jv ⟨n',rfl⟩ rfl rfl⟩
   ·have h:(sortI (aj (newOf fr))).getD k 0≤cnt:=cX h;have b1:=C.bd k hk h;refine ah _ (C.at_ k hk h) (ae (iP (w:=w) (ix ((sortI (aj (newOf fr))).getD k 0))) [0,1,2,3] tt rfl rfl [0,1,2,3] tt (ae (fJ (w:=w) 225 b b (32+(ix ((sortI (aj (newOf fr))).getD k 0)-1)*32+24) 8 _ (C.rd k hk h) (eM 20255666183987216352090361971 1 [32] rfl b1.1.1) (by decide) (aC 225181248012473620480 rfl hb)) [2,1,19,10] tt rfl rfl [2,1,19,10] tt (⟨mulR (by decide) (by decide),?_⟩)));refine cI (jU (w:=w) 194 n1 c e (eb k) (tS k) (((sortI (aj (newOf fr))).getD k 0-1)*8) (ov ((sortI (aj (newOf fr))).getD k 0)) _ _ (C.pt k hk h) (C.op k hk h) (eM 18422417383272563 1 [8] rfl b1.2.1) (eM 4723404383372464507062451 1 [8] rfl b1.2.2) (by have:=C.el k;exact aC 225181248012473620480 rfl this) (by rw[C.vl];decide) (by have:=C.ol k;exact aC 4504584796342605824 rfl this)) [11,1,4,5,6,14,12] tt rfl rfl [11,1,4,5,6,14,12] [11,1,4,5,6,14,12] tt tt ?_ (fun h=>?_)
    ·exact jv ⟨n1+1,rfl⟩ rfl rfl
    ·exact bJ [0,1,2,3,4,5,6,7,8,9,10,11,12,19,14,15,16,17] (qx _ (j7 h _ _ _ rfl (.inl (ah k (ar 1052928 rfl hk) rfl)))) rfl tt
   ·have h:¬(sortI (aj (newOf fr))).getD k 0≤cnt:=of_decide_eq_false h;have q:=C.no k hk h;exact jv ⟨n1,Eq.trans (av (fun x=>(⟨_,HC n1 c b fr.length s0 s1 nu u0 u1 hl sp fr pl co e x _ (sortI (aj (newOf fr)))⟩:St)) q.1) (av (fun x=>(⟨_,HC n1 c b fr.length s0 s1 nu u0 u1 hl sp fr pl co e _ x (sortI (aj (newOf fr)))⟩:St)) q.2)⟩ rfl rfl
  ·intro σ' yF;rw[lm]at yF;refine bg yF fun n1 az=>?_;subst az;refine⟨fun σ=>∃n' ops,(ops.length≤100000∧((∃i,i≤(sortI (aj (newOf fr))).length∧ops=tS i)∨(((eb (sortI (aj (newOf fr))).length).length:Int)>cnt*8∧ops=tS (sortI (aj (newOf fr))).length++[.cut (cnt*8)])))∧σ=⟨[(138,.ref 0),(158,.ref 11),(166,.int fr.length),(159,.ref 3)],HC n' c b fr.length s0 s1 nu u0 u1 hl sp fr pl co e ef ops (sortI (aj (newOf fr)))⟩,⟨fun a_=>?_,fun h=>absurd (h:((fr.length:Int)==fr.length)=false) (by rw[beq_self_eq_true];decide)⟩,?_⟩
   ·have Oe:=C.el (sortI (aj (newOf fr))).length;have Na:=C.ol (sortI (aj (newOf fr))).length;refine ae (eW (w:=w) 194 e (eb (sortI (aj (newOf fr))).length) (aC 225181248012473620480 rfl Oe)) [11,1,14,12] tt rfl rfl [11,1,14,12] tt (aN (mulR (by decide) (by decide)) (fun h=>?_) (fun h=>?_))
    ·have h:=cX h;refine⟨mulR (by decide) (by decide),(cI (gu (w:=w) 194 n1 c e (eb (sortI (aj (newOf fr))).length) (tS (sortI (aj (newOf fr))).length) (cnt*8) _ _ (C9 h) rfl (eM 4428984266867 1 [8] rfl Lr.1) (eM 18450798184642753333427 1 [8] rfl Lr.2) (aC 225181248012473620480 rfl Oe) (aC 4504584796342605824 rfl Na)) [11,1,4,5,6,14,12] tt rfl rfl [11,1,4,5,6,14,12] [11,1,4,5,6,14,12] tt tt ?_ (fun h=>?_))⟩
     ·exact jv (cL (n1+1) _ ⟨by rw[bR];exact aX (Nat.succ_le_succ Na) (bZ tt),.inr ⟨h,rfl⟩⟩ rfl) rfl rfl
     ·exact bJ [0,1,2,3,4,5,6,7,8,9,10,11,12,19,14,15,16,17] (qx _ (j7 (‹c≠none›) _ _ _ rfl (.inl (ah _ (bF _) rfl)))) rfl tt
    ·have h:=of_decide_eq_false h;exact jv (cL n1 _ ⟨by exact aC 4504584796342605824 rfl Na,.inl (ah _ (bF _) rfl)⟩ (av (fun x=>(⟨_,HC n1 c b fr.length s0 s1 nu u0 u1 hl sp fr pl co e x _ (sortI (aj (newOf fr)))⟩:St)) (yi h))) rfl rfl
   ·rintro _ ⟨n2,ops,ho,rfl⟩;refine cI (fK (w:=w) 194 n2 c e ef ops Qb) [11,1,4,5,6,12,14] tt rfl rfl [11,1,4,5,6,12,21] [11,1,4,5,6,12,21] tt tt ?_ (fun h=>?_)
    ·exact au [0,1,2,3,4,5,6,7,8,9,10,11,12,19,21,15,16,17] (qq _ _ (et rfl _ rfl)) rfl rfl tt
    ·exact bJ [0,1,2,3,4,5,6,7,8,9,10,11,12,19,21,15,16,17] (qx _ (j7 h _ _ _ rfl ho.2)) rfl tt
 ·exact bJ [0,1,2,3,4,5,6,7,8,9,10,11,12,19,14,15,16,17] (qx _ (j7 h _ _ _ rfl (.inl (ah 0 (Nat.zero_le _) C.o0.symm)))) rfl tt
theorem checkpoint(n:Int)(c:Option Int)(b e ef:aD)(I I1 I2:Ix)(D:aD→List Op→Prop)(hb:b.length≤50000)
  (qe:I.la>I.cp→aF w 337 70 13 [.ref 0,.ref 11,.int I.la] (iu n c b b [] e e [] I) (fun r cs'=>r=.none∧∃n',cs'=iu n' c b b [] ef ef [] I1) (fun cs'=>∃n' e' aM,cs'=iu n' c b b [] e e' aM I∧c≠none∧D e' aM))
  (yi:¬I.la>I.cp→e=ef∧I=I1) (rD:I1.cp=I1.la) (hn:0≤I1.nu∧I1.nu≤1000000) (e0:¬0<I1.la→I1=I2) (e1:0<I1.la→I1.re=I2) (kd:Nat) (hk:kd=110∨kd=111∨kd=68∨kd=96):
  aF w 344 80 13 [.ref 0,.ref 11,.str kd,.none] (iu n c b b [] e e [] I)
   (fun r cs'=>∃x n' b' J,r=.tup [.int 0,.int x,.int x]∧cs'=iu n' c b' b' [] ef ef [] J∧((b'=b∧(J=I1∨J=I2))∨(b'=[]∧J={I2 with hl:=true,sp:=false})))
   (fun cs'=>∃n' b' ops e0 e' aM J,cs'=iu n' c b b' ops e0 e' aM J∧c≠none∧((e0=e∧b'=b∧ops=[]∧D e' aM)∨(e0=ef∧aM=[]∧(ops=[]∨ops=[.cut 0])))):=by
 rcases hk with rfl|rfl|rfl|rfl
 ·
  refine bA (rt w) tt 60 (ah (fun v σ=>v=.int I.la∧σ=⟨[(138,.ref 0),(158,.ref 11),(167,.str 110),(168,.none),(159,.ref 3)],iu n c b b [] e e [] I⟩) ⟨rfl,rfl⟩ (lS (⟨fun σ=>∃n',σ=⟨[(138,.ref 0),(158,.ref 11),(167,.str 110),(159,.ref 3)],iu n' c b b [] ef ef [] I1⟩,⟨fun h=>?_,fun h=>?_⟩,?_⟩)))
  ·refine call_of (qe (cX h)) o8 tt rfl ?_ (fun r cs' h=>?_) (fun cs' h=>?_)
   exact rfl
   ·refine f9 h fun fQ n' aQ=>?_;clear h;subst fQ;subst aQ
    exact jo [0,1,2,3,4,5,6,7,8,9,10,11,12,18,19,20,21,22] ⟨n',rfl⟩ tt rfl rfl
   ·refine de h fun n' e' aM ew hD=>?_;clear h;subst ew
    exact bJ [0,1,2,3,4,5,6,7,8,9,10,11,12,18,19,20,21,22] (b9 _ _ _ _ (bz _ _ _ rfl hD.1 (.inl (cZ rfl rfl rfl hD.2)))) rfl tt
  ·have q:=yi (of_decide_eq_false h)
   exact jv ⟨n,Eq.trans (av (fun x=>(⟨_,iu n c b b [] e e [] x⟩:St)) q.2) (av (fun x=>(⟨_,iu n c b b [] x x [] I1⟩:St)) q.1)⟩ rfl rfl
  exact mA fun n1=>au o8 (jF I1.la n1 b I1 rfl rfl (.inl ⟨rfl,.inl rfl⟩)) (by rw[rD];rfl) rfl tt
 ·
  refine bA (rt w) tt 60 (ah (fun v σ=>v=.int I.la∧σ=⟨[(138,.ref 0),(158,.ref 11),(167,.str 111),(168,.none),(159,.ref 3)],iu n c b b [] e e [] I⟩) ⟨rfl,rfl⟩ (lS (⟨fun σ=>∃n',σ=⟨[(138,.ref 0),(158,.ref 11),(167,.str 111),(159,.ref 3)],iu n' c b b [] ef ef [] I1⟩,⟨fun h=>?_,fun h=>?_⟩,?_⟩)))
  ·refine call_of (qe (cX h)) o8 tt rfl ?_ (fun r cs' h=>?_) (fun cs' h=>?_)
   exact rfl
   ·refine f9 h fun fQ n' aQ=>?_;clear h;subst fQ;subst aQ
    exact jo [0,1,2,3,4,5,6,7,8,9,10,11,12,18,19,20,21,22] ⟨n',rfl⟩ tt rfl rfl
   ·refine de h fun n' e' aM ew hD=>?_;clear h;subst ew
    exact bJ [0,1,2,3,4,5,6,7,8,9,10,11,12,18,19,20,21,22] (b9 _ _ _ _ (bz _ _ _ rfl hD.1 (.inl (cZ rfl rfl rfl hD.2)))) rfl tt
  ·have q:=yi (of_decide_eq_false h)
   exact jv ⟨n,Eq.trans (av (fun x=>(⟨_,iu n c b b [] e e [] x⟩:St)) q.2) (av (fun x=>(⟨_,iu n c b b [] x x [] I1⟩:St)) q.1)⟩ rfl rfl
  refine mA fun n1=>?_
  refine⟨fun h=>absurd (cX h) (by refine(?_:¬I1.cp<I1.la);exact fun e=>qv 88364122 0 [-1,1] rfl rD e),fun a_=>?_⟩
  exact au o8 (jF I1.la n1 b I1 rfl rfl (.inl ⟨rfl,.inl rfl⟩)) (by rw[rD];rfl) rfl tt
 ·
  refine bA (rt w) tt 60 (ah (fun v σ=>v=.int I.la∧σ=⟨[(138,.ref 0),(158,.ref 11),(167,.str 68),(168,.none),(159,.ref 3)],iu n c b b [] e e [] I⟩) ⟨rfl,rfl⟩ (lS (⟨fun σ=>∃n',σ=⟨[(138,.ref 0),(158,.ref 11),(167,.str 68),(159,.ref 3)],iu n' c b b [] ef ef [] I1⟩,⟨fun h=>?_,fun h=>?_⟩,?_⟩)))
  ·refine call_of (qe (cX h)) o8 tt rfl ?_ (fun r cs' h=>?_) (fun cs' h=>?_)
   exact rfl
   ·refine f9 h fun fQ n' aQ=>?_;clear h;subst fQ;subst aQ
    exact jo [0,1,2,3,4,5,6,7,8,9,10,11,12,18,19,20,21,22] ⟨n',rfl⟩ tt rfl rfl
   ·refine de h fun n' e' aM ew hD=>?_;clear h;subst ew
    exact bJ [0,1,2,3,4,5,6,7,8,9,10,11,12,18,19,20,21,22] (b9 _ _ _ _ (bz _ _ _ rfl hD.1 (.inl (cZ rfl rfl rfl hD.2)))) rfl tt
  ·have q:=yi (of_decide_eq_false h)
   exact jv ⟨n,Eq.trans (av (fun x=>(⟨_,iu n c b b [] e e [] x⟩:St)) q.2) (av (fun x=>(⟨_,iu n c b b [] x x [] I1⟩:St)) q.1)⟩ rfl rfl
  refine mA fun n1=>?_
  refine⟨fun h=>absurd (cX h) (by refine(?_:¬I1.cp<I1.la);exact fun e=>qv 88364122 0 [-1,1] rfl rD e),fun a_=>?_⟩
  exact ae (ry (w:=w) n1 c b b [] I1 I2 rD hn e0 e1) [0,1,2,3,4,5,6,7,8,9,10,13,15,16,17] tt rfl rfl [0,1,2,3,4,5,6,7,8,9,10,13,18,19,20] tt (aN trivial (fun a_=>(au [0,1,2,3,4,5,6,7,8,9,10,11,12,13,14,18,19,20] (jF I1.la n1 b I2 rfl rfl (.inl ⟨rfl,.inr rfl⟩)) (by rw[rD];rfl) rfl tt)) (fun h=>absurd (show true=false from h) (by decide)))
 ·
  refine bA (rt w) tt 60 (ah (fun v σ=>v=.int I.la∧σ=⟨[(138,.ref 0),(158,.ref 11),(167,.str 96),(168,.none),(159,.ref 3)],iu n c b b [] e e [] I⟩) ⟨rfl,rfl⟩ (lS (⟨fun σ=>∃n',σ=⟨[(138,.ref 0),(158,.ref 11),(167,.str 96),(159,.ref 3)],iu n' c b b [] ef ef [] I1⟩,⟨fun h=>?_,fun h=>?_⟩,?_⟩)))
  ·refine call_of (qe (cX h)) o8 tt rfl ?_ (fun r cs' h=>?_) (fun cs' h=>?_)
   exact rfl
   ·refine f9 h fun fQ n' aQ=>?_;clear h;subst fQ;subst aQ
    exact jo [0,1,2,3,4,5,6,7,8,9,10,11,12,18,19,20,21,22] ⟨n',rfl⟩ tt rfl rfl
   ·refine de h fun n' e' aM ew hD=>?_;clear h;subst ew
    exact bJ [0,1,2,3,4,5,6,7,8,9,10,11,12,18,19,20,21,22] (b9 _ _ _ _ (bz _ _ _ rfl hD.1 (.inl (cZ rfl rfl rfl hD.2)))) rfl tt
  ·have q:=yi (of_decide_eq_false h)
   exact jv ⟨n,Eq.trans (av (fun x=>(⟨_,iu n c b b [] e e [] x⟩:St)) q.2) (av (fun x=>(⟨_,iu n c b b [] x x [] I1⟩:St)) q.1)⟩ rfl rfl
  refine mA fun n1=>?_
  refine⟨fun h=>absurd (cX h) (by refine(?_:¬I1.cp<I1.la);exact fun e=>qv 88364122 0 [-1,1] rfl rD e),fun a_=>?_⟩
  refine ae (ry (w:=w) n1 c b b [] I1 I2 rD hn e0 e1) [0,1,2,3,4,5,6,7,8,9,10,13,15,16,17] tt rfl rfl [0,1,2,3,4,5,6,7,8,9,10,13,18,19,20] tt (aN trivial (fun a_=>(cI (gu (w:=w) 225 n1 c b b [] 0 [] _ rfl rfl (by decide) (by decide) (aC 225181248012473620480 rfl hb) (by decide)) [2,1,4,5,6,13,10] tt rfl rfl [2,1,4,5,6,13,10] [2,1,4,5,6,13,10] tt tt ?_ (fun h=>?_))) (fun h=>absurd (show true=false from h) (by decide)))
  ·refine cI (fK (w:=w) 225 (n1+1) c b [] ([]++[.cut 0]) (by decide)) [2,1,4,5,6,10,13] tt rfl rfl [2,1,4,5,6,10,21] [2,1,4,5,6,10,21] tt tt ?_ (fun h=>?_)
   ·exact au [0,1,2,3,4,5,6,7,8,9,10,11,12,21,14,18,19,20] (jF 0 _ [] ({I2 with hl:=true,sp:=false}) rfl rfl (.inr ⟨rfl,rfl⟩)) rfl rfl tt
   ·exact bJ [0,1,2,3,4,5,6,7,8,9,10,11,12,21,14,18,19,20] (b9 _ _ _ _ (bz _ _ I2 rfl h (.inr (aN rfl rfl (.inr rfl))))) rfl tt
  ·exact bJ [0,1,2,3,4,5,6,7,8,9,10,11,12,13,14,18,19,20] (b9 _ _ _ _ (bz _ _ I2 rfl h (.inr (aN rfl rfl (.inl rfl))))) rfl tt
end
noncomputable def C_(di:Nat):O:=.inst 362 [(128,.ref di),(155,.str 194),(156,.int 8),(157,.str 225),(158,.none),(159,.none)]
noncomputable def Kh:O:=.inst 497 [(171,.ref 4),(172,.ref 5),(173,.ref 6)]
noncomputable def Dc:O:=.inst 497 [(171,.ref 5),(172,.ref 6),(173,.ref 7)]
noncomputable abbrev Ix.at(J:Ix)(x y z:Nat):O:=dz x y z J.la J.cp J.s0 J.s1 J.nu J.u0 J.u1 J.hl J.sp
noncomputable abbrev Ea(n:Int)(c:Option Int)(b:aD)(J:Ix):List O:=[dc n c 1 2 3,.dS [(225,.ref 7)],.dS [(225,.ref 10)],Kh,.d0,.d0,.d0,dA 0 225 b 11 8,.ba b,dO 0 7 10,J.at 12 13 14,.ops [],.ints J.fr,.rows J.pl none,.eN J.co]
noncomputable abbrev FW(n:Int)(c:Option Int)(fl:List (Nat×V))(b e:aD)(J:Ix):List O:=[dc n c 1 2 3,.dS fl,.dS [(225,.ref 10)],Kh,.d0,.d0,.d0,dA 0 225 b 13 8,.ba b,dO 0 7 10,J.at 15 16 17,dA 0 194 e 14 12,.ba e,.ops [],.ops [],.ints J.fr,.rows J.pl none,.eN J.co]
noncomputable abbrev tT:List (Nat×V):=[(225,.ref 7),(194,.ref 11)]
noncomputable abbrev yG:List (Nat×V):=[(194,.ref 11),(225,.ref 7)]
noncomputable abbrev S1(n:Int)(c:Option Int)(b:aD):List O:=[dc n c 1 2 3,.dS [(225,.ref 7)],.d0,Kh,.d0,.d0,.d0,dA 0 225 b 9 8,.ba b,.ops []]
noncomputable abbrev S3(n:Int)(c:Option Int)(b e:aD):List O:=[dc n c 1 2 3,.dS [(194,.ref 9),(225,.ref 7)],.d0,Kh,.d0,.d0,.d0,dA 0 225 b 11 8,.ba b,dA 0 194 e 12 10,.ba e,.ops [],.ops []]
section
variable{w:World}(n:Int)(c:Option Int)(b b':aD)(J:Ix)
abbrev mC(w:World)(n:Int)(c:Option Int)(b b':aD)(J:Ix):Prop:=aF w 260 60 11 [.ref 0] (lw n c b b [] (.zero true false)) (fun r cs'=>r=.none∧∃n',cs'=lw n' c b' b' [] J) dk
theorem Ki(H:mC w n c [] [] J):aF w 232 70 8 [.ref 0] [C_ 1,dc n c 2 3 4,.d0,.d0,Dc,.dead,.dead,.d0] (fun r cs'=>r=.none∧∃n',cs'=[dO 1 8 10,dc n' c 2 3 4,.dS [(225,.ref 8)],.dS [(225,.ref 10)],Dc,.dead,.dead,.d0,dA 1 225 [] 11 9,.ba [],J.at 12 13 14,.ops [],.ints J.fr,.rows J.pl none,.eN J.co]) dk:=by
 refine aE (rq w) tt 40 fun qQ qX qq qx=>ae (wL (w:=w) n c) [1,2,3,4] tt rfl rfl [1,2,3,4,8,9,10] tt (⟨fun σ=>∃n',σ=⟨[],[dO 1 8 11,dc n' c 2 3 4,.dS [(225,.ref 8)],.dS [(225,.ref 11)],Dc,.dead,.dead,.d0,dA 1 225 [] 12 9,.ba [],.dead,J.at 13 14 15,.ops [],.ints J.fr,.rows J.pl none,.eN J.co]⟩,?_,?_⟩)
 ·refine ae (oe (w:=w)) [11] tt rfl rfl [11,12,13,14] tt (⟨rfl,(call_of H [0,1,8,11,2,3,4,5,6,7,9,10,12,13,14] tt rfl ?_ (fun r cs' h=>?_) (fun cs' h=>?_))⟩);exact rfl
  ·refine f9 h fun fQ n' aQ=>?_;clear h;subst fQ;subst aQ;exact jo [0,1,2,3,4,5,6,7,8,9,10,11,15,16,17,18] ⟨n',rfl⟩ tt rfl rfl
  ·exact h.elim
 ·exact mA fun n'=>au [0,1,2,3,4,5,6,7,8,9,11,12,13,14,15] (qq _ _ (et rfl n' rfl)) rfl rfl tt
theorem Kj(H:mC w n c b b' J):aF w 232 70 10 [.ref 0] [C_ 1,dc n c 2 3 4,.dS [(225,.ref 8)],.d0,Dc,.dead,.dead,.d0,dA 1 225 b 10 9,.ba b,.ops []] (fun r cs'=>r=.none∧∃n',cs'=[dO 1 8 10,dc n' c 2 3 4,.dS [(225,.ref 8)],.dS [(225,.ref 10)],Dc,.dead,.dead,.d0,dA 1 225 b' 11 9,.ba b',J.at 12 13 14,.ops [],.ints J.fr,.rows J.pl none,.eN J.co]) dk:=by
 refine aE (rq w) tt 40 fun qQ qX qq qx=>ae (C1 (w:=w) n c) [1,2,3,4,8] tt rfl rfl [1,2,3,4,8] tt (⟨fun σ=>∃n',σ=⟨[],[dO 1 8 11,dc n' c 2 3 4,.dS [(225,.ref 8)],.dS [(225,.ref 11)],Dc,.dead,.dead,.d0,dA 1 225 b' 12 9,.ba b',.dead,J.at 13 14 15,.ops [],.ints J.fr,.rows J.pl none,.eN J.co]⟩,?_,?_⟩)
 ·refine ae (oe (w:=w)) [11] tt rfl rfl [11,12,13,14] tt (⟨rfl,(call_of H [0,1,8,11,2,3,4,5,6,7,9,10,12,13,14] tt rfl ?_ (fun r cs' h=>?_) (fun cs' h=>?_))⟩);exact rfl
  ·refine f9 h fun fQ n' aQ=>?_;clear h;subst fQ;subst aQ;exact jo [0,1,2,3,4,5,6,7,8,9,10,11,15,16,17,18] ⟨n',rfl⟩ tt rfl rfl
  ·exact h.elim
 ·exact mA fun n'=>au [0,1,2,3,4,5,6,7,8,9,11,12,13,14,15] (qq _ _ (et rfl n' rfl)) rfl rfl tt
theorem Kk(H:mC w n c b b' J):aF w 232 70 11 [.ref 0] [C_ 1,dc n c 2 3 4,.dS [(194,.ref 10),(225,.ref 8)],.d0,Dc,.dead,.dead,.d0,dA 1 225 b 11 9,.ba b,.dead,.ops []] (fun r cs'=>r=.none∧∃n',cs'=[dO 1 8 11,dc n' c 2 3 4,.dS [(194,.ref 10),(225,.ref 8)],.dS [(225,.ref 11)],Dc,.dead,.dead,.d0,dA 1 225 b' 12 9,.ba b',.dead,J.at 13 14 15,.ops [],.ints J.fr,.rows J.pl none,.eN J.co]) dk:=by
 refine aE (rq w) tt 40 fun qQ qX qq qx=>ae (wK (w:=w) n c) [1,2,3,4,10,8] tt rfl rfl [1,2,3,4,10,8] tt (⟨fun σ=>∃n',σ=⟨[],[dO 1 8 12,dc n' c 2 3 4,.dS [(194,.ref 10),(225,.ref 8)],.dS [(225,.ref 12)],Dc,.dead,.dead,.d0,dA 1 225 b' 13 9,.ba b',.dead,.dead,J.at 14 15 16,.ops [],.ints J.fr,.rows J.pl none,.eN J.co]⟩,?_,?_⟩)
 ·refine ae (oe (w:=w)) [12] tt rfl rfl [12,13,14,15] tt (⟨rfl,(call_of H [0,1,8,12,2,3,4,5,6,7,9,11,13,14,15] tt rfl ?_ (fun r cs' h=>?_) (fun cs' h=>?_))⟩);exact rfl
  ·refine f9 h fun fQ n' aQ=>?_;clear h;subst fQ;subst aQ;exact jo [0,1,2,3,4,5,6,7,8,9,10,11,12,16,17,18,19] ⟨n',rfl⟩ tt rfl rfl
  ·exact h.elim
 ·exact mA fun n'=>au [0,1,2,3,4,5,6,7,8,9,10,12,13,14,15,16] (qq _ _ (et rfl n' rfl)) rfl rfl tt
theorem Kl(x:Nat):aF w 232 70 8 [.ref 0] [C_ 1,dc n c 2 3 4,.dS [(194,.ref 6),(225,.ref 5)],.dS [(225,.ref 7)],.dead,.dead,.dead,.dead] (dT (.none) [dO 1 5 7,dc n c 2 3 4,.dS [(194,.ref 6),(225,.ref 5)],.dS [(225,.ref 7)],.dead,.dead,.dead,.dead]) dk:=by exact aE (rq w) tt 40 fun qQ qX qq qx=>ae (wK (w:=w) n c) [1,2,3,4,6,5] tt rfl rfl [1,2,3,4,6,5] tt (ah (fun σ=>σ=⟨[],[dO 1 5 7,dc n c 2 3 4,.dS [(194,.ref 6),(225,.ref 5)],.dS [(225,.ref 7)],.dead,.dead,.dead,.dead]⟩) (jo HK rfl tt rfl rfl) (fun a_ h=>h▸au HK (qq _ _ ⟨rfl,rfl⟩) rfl rfl tt))
theorem Dd(H:mC w n c [] [] J):aF w 733 90 7 [.ref 0] [dc n c 1 2 3,.d0,.d0,Kh,.d0,.d0,.d0] (fun r cs'=>r=.ref 9∧∃n',cs'=Ea n' c [] J) dk:=by
 refine aE (ru w) tt 30 fun qQ qX qq qx=>ae (kM (w:=w)) [7,0] tt rfl rfl [7,0] tt (⟨rfl,(call_of (Ki n c J H) [7,0,1,2,3,4,5,6] tt rfl ?_ (fun r cs' h=>?_) (fun cs' h=>?_))⟩);exact rfl
 ·refine f9 h fun fQ n' aQ=>?_;clear h;subst fQ;subst aQ;exact au [0,1,2,3,4,5,6,8,9,7,10,11,12,13,14] (qq _ _ (et rfl n' rfl)) rfl rfl tt
 ·exact h.elim
theorem De(H:mC w n c b b' J):aF w 733 90 9 [.ref 0] (S1 n c b) (fun r cs'=>r=.ref 9∧∃n',cs'=Ea n' c b' J) dk:=by
 refine aE (ru w) tt 30 fun qQ qX qq qx=>ae (kM (w:=w)) [10,0] tt rfl rfl [10,0] tt (⟨rfl,(call_of (Kj n c b b' J H) [10,0,1,2,3,4,5,6,7,8,9] tt rfl ?_ (fun r cs' h=>?_) (fun cs' h=>?_))⟩);exact rfl
 ·refine f9 h fun fQ n' aQ=>?_;clear h;subst fQ;subst aQ;exact au [0,1,2,3,4,5,6,7,8,10,11,12,13,14,15] (qq _ _ (et rfl n' rfl)) rfl rfl tt
 ·exact h.elim
theorem je(e:aD)(H:mC w n c b b' J):aF w 733 90 9 [.ref 0] (S3 n c b e) (fun r cs'=>r=.ref 9∧∃n',cs'=FW n' c yG b' e J) dk:=by
 refine aE (ru w) tt 30 fun qQ qX qq qx=>ae (kM (w:=w)) [13,0] tt rfl rfl [13,0] tt (⟨rfl,(call_of (Kk n c b b' J H) [13,0,1,2,3,4,5,6,7,8,9,11] tt rfl ?_ (fun r cs' h=>?_) (fun cs' h=>?_))⟩);exact rfl
 ·refine f9 h fun fQ n' aQ=>?_;clear h;subst fQ;subst aQ;exact au [0,1,2,3,4,5,6,7,8,13,14,9,10,15,12,16,17,18] (qq _ _ (et rfl n' rfl)) rfl rfl tt
 ·exact h.elim
theorem Df(e:aD)(x:Nat):aF w 733 90 9 [.ref 0] (FW n c yG b e J) (dT (.ref 9) (FW n c yG b e J)) dk:=by refine aE (ru w) tt 30 fun qQ qX qq qx=>ae (kM (w:=w)) [18,0] tt rfl rfl [18,0] tt (⟨rfl,(ae (Kl (w:=w) n c 0) [18,0,1,2,3,7,11,10] tt rfl rfl [18,0,1,2,3,7,11,10] tt ?_)⟩);exact au [0,1,2,3,4,5,6,7,8,18,10,11,12,13,14,15,16,17] (qq _ _ ⟨rfl,rfl⟩) rfl rfl tt
end
noncomputable def Op.app:Op→aD→aD
 |.write i o,b=>dh b i.toNat o
 |.cut n,b=>fZ b n.toNat
inductive Sv(sy:aD):List Op→aD→Prop
 |nil:Sv sy [] sy
 |no {ops b o}:Sv sy ops b→Sv sy (ops++[o]) b
 |yes {ops b o}:Sv sy ops b→Sv sy (ops++[o]) (Op.app o b)
def Op.ok:Op→Prop
 |.write i o=>(0≤i∧i≤50000)∧o.length≤50000∧o≠[]
 |.cut n=>0≤n∧n≤50000
noncomputable def yr(x:Nat)(t:Int):O:=.inst 595 [(165,.ref x),(160,.int t)]
section
variable{w:World}
noncomputable abbrev Km(m:Nat)(sy:aD)(ops:List Op)(l:List Int)(t:Int)(b:aD):St:=⟨[(138,.ref 0),(165,.ref 1),(183,.int 8),(184,.ref 6)],[dA 2 m sy 3 4,yr 5 t,.dead,.ops ops,.dead,.ints l,.ba b]⟩
def Dg(m:Nat)(sy:aD)(ops:List Op)(l:List Int)(k:Nat)(σ:St):Prop:=∃t b,0≤t∧Sv sy (ops.take k) b∧σ=Km m sy ops l t b
theorem Dg.mk{m:Nat}{sy:aD}{ops:List Op}{l:List Int}{k:Nat}{t:Int}{b:aD}(h:0≤t)(h':Sv sy (ops.take k) b):Dg m sy ops l k (Km m sy ops l t b):=aJ t b h h' rfl
theorem Dg.el{m:Nat}{sy:aD}{ops:List Op}{l:List Int}{k:Nat}{T:St→Prop}(h:∀t b,0≤t→Sv sy (ops.take k) b→T (Km m sy ops l t b)):∀σ,Dg m sy ops l k σ→T σ:=by rintro σ ⟨t,b,h0,h1,rfl⟩;exact h t b h0 h1
theorem wN{sy:aD}{ops:List Op}{k:Nat}{o:Op}{b:aD}(ho:ops[k]?=some o)(hs:Sv sy (ops.take k) b):Sv sy (ops.take (k+1)) b∧Sv sy (ops.take (k+1)) (Op.app o b):=by
 have Of:ops.take (k+1)=ops.take k++[o]:=by rw[List.take_succ,ho];rfl
 exact⟨Of▸.no hs,Of▸.yes hs⟩
theorem Dg.turn{m:Nat}{sy:aD}{ops:List Op}{l:List Int}{T:Nat→V→St→Prop}(h1:∀k z t b,ops[k]?=some (.cut z)→0≤t→Sv sy (ops.take k) b→T k (Op.v (.cut z)) (Km m sy ops l t b))(h2:∀k i o t b,ops[k]?=some (.write i o)→0≤t→Sv sy (ops.take k) b→T k (Op.v (.write i o)) (Km m sy ops l t b)):∀k v σ,k<(ops.map Op.v).length→(ops.map Op.v)[k]?=some v→Dg m sy ops l k σ→T k v σ:=by
 rintro k v σ _ hv ⟨t,b,ht,hs,rfl⟩;rw[List.getElem?_map]at hv;refine aa (Option.map_eq_some_iff.mp hv) fun o ho aQ=>?_;subst aQ;induction o with
 |cut z=>exact h1 k z t b ho ht hs
 |write i o=>exact h2 k i o t b ho ht hs
theorem kO{l:List Int}{t:Int}:El (fun r cs'=>∃x,x∈l∧r=.int x∧cs'=[Lm (t+1),.ints l]) fun T=>∀x,x∈l→T (.int x) [Lm (t+1),.ints l]:=by rintro T h r cs' ⟨x,hx,rfl,rfl⟩;exact h x hx
theorem Nb{x:Int}(h:x% 4≠2)(e:(!(x% 4==2))=false):False:=by rw[beq_eq_false_iff_ne.mpr h]at e;exact tF e
theorem Nc{o:aD}(h:o≠[])(e:(!(o==[]))=false):False:=by rw[beq_eq_false_iff_ne.mpr h]at e;exact tF e
theorem gL(m:Nat)(sy:aD)(ops:List Op)(l:List Int)(t:Int)(ht:0≤t)(hl:l.length≤100000∧l≠[])(hu:∀x∈l,x% 4≠2)(hz:ops.length≤1000)(rS:∀(k:Nat) (o:Op),ops[k]?=some o→Op.ok o)(hB:∀(k:Nat) (b:aD),Sv sy (ops.take k) b→b.length≤50000):aF w 564 20 6 [.ref 0,.ref 1,.int 8] [dA 2 m sy 3 4,yr 5 t,.dead,.ops ops,.dead,.ints l] (fun r cs'=>r=.ref 6∧∃t' b,0≤t'∧Sv sy ops b∧cs'=[dA 2 m sy 3 4,yr 5 t',.dead,.ops ops,.dead,.ints l,.ba b]) dk:=by
 have lm:(ops.map Op.v).length=ops.length:=bK _;have h0:=hB 0 sy .nil;refine aE (GB w) tt 40 fun qQ qX qq qx=>?_;refine iT (aC 225181248012473620480 rfl h0) (by refine(?_:(ops.map Op.v).length≤_);exact dC 336545978123114534928 rfl hz lm) (Dg m sy ops l) (.mk ht .nil) ?_ ?_ ?_
 ·rintro k σ' _ ⟨t,b,_,_,rfl⟩;rfl
 ·refine Dg.turn (fun k z t b ho ht hs=>?_) fun k i o t b ho ht hs=>?_
  ·have hb:=hB k b hs;have rS:=rS k _ ho;have DP:=wN ho hs;refine aW kO (qd (w:=w) l t hl.1 hl.2 ht) [1,5] tt rfl rfl ?_
   ·intro x hx;refine aN (by decide) (fun a_=>?_) (fun a_=>?_)
    ·exact jv (.mk (aZ 4428941004915 rfl ht) DP.1) rfl rfl
    ·refine ah (fun σ=>σ=⟨[(138,.ref 0),(165,.ref 1),(183,.int 8),(184,.ref 6)],[dA 2 m sy 3 4,yr 5 (t+1),.dead,.ops ops,.dead,.ints l,.ba (fZ b z.toNat)]⟩) ⟨fun a_=>?_,fun h=>?_⟩ ?_
     ·exact ae (n8 (w:=w) b z rS.1 (by have:=rS.2;exact aZ 225181252616678561859 rfl this) (aC 225181248012473620480 rfl hb)) [6] tt rfl rfl [6] tt (jv rfl rfl rfl)
     ·exact(Nb (hu x hx) h).elim
     ·exact mz (jv (.mk (aZ 4428941004915 rfl ht) DP.2) rfl rfl)
  ·have hb:=hB k b hs;have rS:=rS k _ ho;have DP:=wN ho hs;refine aW kO (qd (w:=w) l t hl.1 hl.2 ht) [1,5] tt rfl rfl ?_
   ·intro x hx;refine aN (by decide) (fun a_=>?_) (fun a_=>?_)
    ·exact jv (.mk (aZ 4428941004915 rfl ht) DP.1) rfl rfl
    ·refine ah (fun σ=>σ=⟨[(138,.ref 0),(165,.ref 1),(183,.int 8),(184,.ref 6),(114,.int i),(113,.bytes o)],[dA 2 m sy 3 4,yr 5 (t+1),.dead,.ops ops,.dead,.ints l,.ba b]⟩) ⟨fun h=>?_,fun a_=>jv rfl rfl rfl⟩ ?_
     ·exact absurd (beq_iff_eq.mp (show(x% 4==2)=true from h)) (hu x hx)
     ·refine mz (ah (fun σ=>σ=⟨[(138,.ref 0),(165,.ref 1),(183,.int 8),(184,.ref 6)],[dA 2 m sy 3 4,yr 5 (t+1),.dead,.ops ops,.dead,.ints l,.ba (dh b i.toNat o)]⟩) ⟨fun a_=>?_,fun h=>?_⟩ ?_)
      ·exact ae (n7 (w:=w) b o i rS.1.1 (by have:=rS.1.2;exact aZ 225181252616678561859 rfl this) (aC 225181248012473620480 rfl hb) (by have:=rS.2.1;exact aC 225181248012473620480 rfl this)) [6] tt rfl rfl [6] tt (jv rfl rfl rfl)
      ·exact(Nc rS.2.2 h).elim
      ·exact mz (jv (.mk (aZ 4428941004915 rfl ht) DP.2) rfl rfl)
 ·exact Dg.el fun t b ht hs=>au jh (qq _ _ (j6 rfl t b ht (List.take_of_length_le (Nat.le_of_eq lm.symm)▸hs) rfl)) rfl rfl tt
end
noncomputable def BL(a b c:Nat):O:=.inst 497 [(171,.ref a),(172,.ref b),(173,.ref c)]
structure dj(sy:aD)(ops:List Op):Prop where
 z:ops.length≤1000
 ok:∀(k:Nat) (o:Op),ops[k]?=some o→Op.ok o
 b:∀(k:Nat) (b:aD),Sv sy (ops.take k) b→b.length≤50000
theorem dj.all{ops:List Op}(h:dj sy ops){b:aD}(hb:Sv sy ops b):b.length≤50000:=h.b ops.length b (by rw[List.take_length];exact hb)
structure kP(l:List Int):Prop where
 z:l.length≤100000
 ne:l≠[]
 u:∀x∈l,x% 4≠2
section
variable{w:World}
noncomputable abbrev T1(n:Int)(c:Option Int)(sy:aD)(ops:List Op)(l:List Int):List O:=[dc n c 1 2 3,.dS [(225,.ref 4)],.dead,.dead,dA 0 225 sy 5 6,.ops ops,.dead,.ints l]
noncomputable abbrev T3(n:Int)(c:Option Int)(fl:List (Nat×V))(sy:aD)(ops:List Op)(dy:aD)(aM:List Op)(l:List Int):List O:=[dc n c 1 2 3,.dS fl,.dead,.dead,dA 0 225 sy 5 6,.ops ops,.dead,dA 0 194 dy 8 9,.ops aM,.dead,.ints l]
noncomputable abbrev Ls(n:Int)(c:Option Int)(fl:List (Nat×V))(sy:aD)(ops:List Op)(dy:aD)(aM:List Op)(l:List Int):St:=⟨[(138,.ref 0),(137,.ref 10),(165,.ref 11),(170,.ref 13)],T3 n c fl sy ops dy aM l++[yr 12 0,.ints l,dc 0 none 14 15 16,.d0,.d0,BL 17 18 19,.d0,.d0,.d0,.list [.str 194,.str 225]]⟩
noncomputable abbrev Lu(n:Int)(c:Option Int)(fl:List (Nat×V))(sy:aD)(ops:List Op)(dy:aD)(aM:List Op)(l:List Int)(t:Int)(e:aD):St:=⟨[(138,.ref 0),(137,.ref 10),(165,.ref 11),(170,.ref 13)],T3 n c fl sy ops dy aM l++[yr 12 t,.ints l,dc 0 none 14 15 16,.dS [(194,.ref 21)],.d0,BL 17 18 19,.d0,.d0,.d0,.list [.str 194,.str 225],dA 13 194 e 23 22,.ba e,.ops []]⟩
noncomputable abbrev Lw(n:Int)(c:Option Int)(fl:List (Nat×V))(sy:aD)(ops:List Op)(dy:aD)(aM:List Op)(l:List Int)(t:Int)(b e:aD):St:=⟨[(138,.ref 0),(137,.ref 10),(165,.ref 11),(170,.ref 13)],T3 n c fl sy ops dy aM l++[yr 12 t,.ints l,dc 0 none 14 15 16,.dS [(194,.ref 21),(225,.ref 24)],.d0,BL 17 18 19,.d0,.d0,.d0,.list [.str 194,.str 225],dA 13 194 e 23 22,.ba e,.ops [],dA 13 225 b 26 25,.ba b,.ops []]⟩
def SI(n:Int)(c:Option Int)(fl:List (Nat×V))(sy:aD)(ops:List Op)(dy:aD)(aM:List Op)(l:List Int)(k:Nat)(σ:St):Prop:=(k=0∧σ=Ls n c fl sy ops dy aM l)∨(k=1∧∃t e,0≤t∧Sv dy aM e∧σ=Lu n c fl sy ops dy aM l t e)∨(k=2∧∃t b e,Sv sy ops b∧Sv dy aM e∧σ=Lw n c fl sy ops dy aM l t b e)
section
variable{n:Int}{c:Option Int}{fl:List (Nat×V)}{sy:aD}{ops:List Op}{dy:aD}{aM:List Op}{l:List Int}
theorem SI.s0:SI n c fl sy ops dy aM l 0 (Ls n c fl sy ops dy aM l):=.inl ⟨rfl,rfl⟩
theorem SI.s1(ht:0≤t)(h:Sv dy aM e):SI n c fl sy ops dy aM l 1 (Lu n c fl sy ops dy aM l t e):=.inr (.inl (j6 rfl t e ht h rfl))
theorem SI.s2(h:Sv sy ops b)(h':Sv dy aM e):SI n c fl sy ops dy aM l 2 (Lw n c fl sy ops dy aM l t b e):=.inr (.inr (j7 rfl t b e h (qo h' rfl)))
theorem SI.any{T:St→Prop}(h:SI n c fl sy ops dy aM l k σ)(h0:T (Ls n c fl sy ops dy aM l))(h1:∀t e,T (Lu n c fl sy ops dy aM l t e))(h2:∀t b e,T (Lw n c fl sy ops dy aM l t b e)):T σ:=by
 rcases h with⟨_,rfl⟩|⟨_,t,e,_,_,rfl⟩|⟨_,t,b,e,_,_,rfl⟩
 ·exact h0
 ·exact h1 t e
 ·exact h2 t b e
theorem SI.turn{T:Nat→V→St→Prop}(h0:T 0 (.str 194) (Ls n c fl sy ops dy aM l))(h1:∀t e,0≤t→Sv dy aM e→T 1 (.str 225) (Lu n c fl sy ops dy aM l t e)):∀k v σ,k<([.str 194,.str 225]:List V).length→([.str 194,.str 225]:List V)[k]?=some v→SI n c fl sy ops dy aM l k σ→T k v σ:=by
 rintro k v σ hk hv (⟨rfl,rfl⟩|⟨rfl,t,e,ht,he,rfl⟩|⟨rfl,_⟩)
 ·exact bf hv▸h0
 ·exact bf hv▸h1 t e ht he
 ·exact absurd hk (by refine(?_:¬2<2);decide)
theorem SI.fin{T:St→Prop}(h:∀t b e,Sv sy ops b→Sv dy aM e→T (Lw n c fl sy ops dy aM l t b e)):∀σ,SI n c fl sy ops dy aM l 2 σ→T σ:=by
 rintro σ (⟨h,_⟩|⟨h,_⟩|⟨_,t,b,e,hs,he,rfl⟩)
 ·cases h
 ·cases h
 ·exact h t b e hs he
end
theorem eK:El (fun r cs'=>r=.ref 6∧∃t' b,0≤t'∧Sv sy ops b∧cs'=[dA 2 m sy 3 4,yr 5 t',.dead,.ops ops,.dead,.ints l,.ba b]) fun T=>∀t b,0≤t→Sv sy ops b→T (.ref 6) [dA 2 m sy 3 4,yr 5 t,.dead,.ops ops,.dead,.ints l,.ba b]:=by rintro T h r cs' ⟨rfl,t,b,h0,h1,rfl⟩;exact h t b h0 h1
theorem yt(n:Int)(c:Option Int)(sy:aD)(ops:List Op)(l:List Int)(hl:kP l)(S:dj sy ops):aF w 663 40 8 [.ref 0,.ref 7] (T1 n c sy ops l) (fun r cs'=>r=.ref 8∧∃b,Sv sy ops b∧cs'=T1 n c sy ops l++[dc 0 none 9 10 11,.dS [(225,.ref 15)],.d0,BL 12 13 14,.d0,.d0,.d0,dA 8 225 b 17 16,.ba b,.ops []]) dk:=by
 refine aE (uX w) tt 40 fun qQ qX qq qx=>ae (rE (w:=w) l hl.z) [8,7] tt rfl rfl [8,7,9] tt (⟨rfl,(ae (jY (w:=w)) [10] tt rfl rfl [10,11,12,13,14,15,16] tt ?_)⟩);refine iT rfl (by decide) (fun k σ=>(k=0∧σ=⟨[(138,.ref 0),(137,.ref 7),(165,.ref 8),(170,.ref 10)],T1 n c sy ops l++[yr 9 0,.ints l,dc 0 none 11 12 13,.d0,.d0,BL 14 15 16,.d0,.d0,.d0,.list [.str 225]]⟩)∨(k=1∧∃t b,Sv sy ops b∧σ=⟨[(138,.ref 0),(137,.ref 7),(165,.ref 8),(170,.ref 10)],T1 n c sy ops l++[yr 9 t,.ints l,dc 0 none 11 12 13,.dS [(225,.ref 18)],.d0,BL 14 15 16,.d0,.d0,.d0,.list [.str 225],dA 10 225 b 20 19,.ba b,.ops []]⟩)) (.inl ⟨rfl,rfl⟩) ?_ ?_ ?_
 ·rintro k σ' _ (⟨_,rfl⟩|⟨_,t,b,_,rfl⟩)<;>rfl
 ·rintro k v _ hk hv (⟨rfl,rfl⟩|⟨rfl,_⟩)
  ·obtain rfl:v=.str 225:=(bf hv).symm;refine ae (wL (w:=w) 0 none) [10,11,12,13] tt rfl rfl [10,11,12,13,18,19,20] tt (aW eK (gL (w:=w) 225 sy ops l 0 (by decide) ⟨hl.z,hl.ne⟩ hl.u S.z S.ok S.b) [4,8,0,5,6,9] tt rfl rfl ?_)
   ·intro t' b ht hs;exact⟨aX (S.all hs) (by decide),(jo [0,1,2,3,4,5,6,7,8,9,10,11,12,13,14,15,16,17,18,21,20] (.inr (vH rfl t' b hs rfl)) tt rfl rfl)⟩
  ·exact absurd hk (by refine(?_:¬1<1);decide)
 ·rintro _ (⟨h,_⟩|⟨_,t,b,hs,rfl⟩)
  ·cases h
  ·exact au [0,1,2,3,4,5,6,7,10,11,12,13,14,15,16,18,19,20] (qq _ _ (d7 rfl b hs rfl)) rfl rfl tt
abbrev Lx(n:Int)(c:Option Int)(fl:List (Nat×V))(sy:aD)(ops:List Op)(dy:aD)(aM:List Op)(l:List Int)(r:V)(cs':List O):Prop:=r=.ref 11∧∃b e,Sv sy ops b∧Sv dy aM e∧cs'=T3 n c fl sy ops dy aM l++[dc 0 none 12 13 14,.dS [(194,.ref 20),(225,.ref 18)],.d0,BL 15 16 17,.d0,.d0,.d0,dA 11 225 b 22 19,.ba b,dA 11 194 e 23 21,.ba e,.ops [],.ops []]
theorem l6(n:Int)(c:Option Int)(sy:aD)(ops:List Op)(dy:aD)(aM:List Op)(l:List Int)(hl:kP l)(S:dj sy ops)(D:dj dy aM):aF w 663 40 11 [.ref 0,.ref 10] (T3 n c [(225,.ref 4),(194,.ref 7)] sy ops dy aM l) (Lx n c [(225,.ref 4),(194,.ref 7)] sy ops dy aM l) dk:=by
 refine aE (uX w) tt 40 fun qQ qX qq qx=>ae (rE (w:=w) l hl.z) [11,10] tt rfl rfl [11,10,12] tt (⟨rfl,(ae (jY (w:=w)) [13] tt rfl rfl [13,14,15,16,17,18,19] tt ?_)⟩);refine ji rfl tt tt (by decide) (m4 (SI n c [(225,.ref 4),(194,.ref 7)] sy ops dy aM l) .s0 ?_ ?_ ?_)
 ·exact fun k σ' a_ h=>h.any (T:=fun σ'=>σ'.cs[20]?=some (.list [.str 194,.str 225])) rfl (fun a_ b_=>rfl) (fun a_ b_ c_=>rfl)
 ·refine SI.turn ?_ fun t e ht he=>?_
  ·refine ae (wJ (w:=w) 0 none) [13,14,15,16] tt rfl rfl [13,14,15,16,21,22,23] tt (aW eK (gL (w:=w) 194 dy aM l 0 (by decide) ⟨hl.z,hl.ne⟩ hl.u D.z D.ok D.b) [7,11,0,8,9,12] tt rfl rfl ?_)
   ·intro t' e ht hs;exact⟨aX (D.all hs) (by decide),(jo [0,1,2,3,4,5,6,7,8,9,10,11,12,13,14,15,16,17,18,19,20,21,24,23] (.s1 ht hs) tt rfl rfl)⟩
  ·refine ae (wM (w:=w) 0 none) [13,14,15,16,21] tt rfl rfl [13,14,15,16,21,24,25,26] tt (aW eK (gL (w:=w) 225 sy ops l t ht ⟨hl.z,hl.ne⟩ hl.u S.z S.ok S.b) [4,11,0,5,6,12] tt rfl rfl ?_)
   ·intro t' b ht hs;exact⟨aX (S.all hs) (by decide),(jo [0,1,2,3,4,5,6,7,8,9,10,11,12,13,14,15,16,17,18,19,20,21,22,23,24,27,26] (.s2 hs he) tt rfl rfl)⟩
 ·exact SI.fin fun t b e hs he=>au [0,1,2,3,4,5,6,7,8,9,10,13,14,15,16,17,18,19,24,25,21,22,26,23] (qq _ _ (j6 rfl b e hs he rfl)) rfl rfl tt
theorem l7(n:Int)(c:Option Int)(sy:aD)(ops:List Op)(dy:aD)(aM:List Op)(l:List Int)(hl:kP l)(S:dj sy ops)(D:dj dy aM):aF w 663 40 11 [.ref 0,.ref 10] (T3 n c [(194,.ref 7),(225,.ref 4)] sy ops dy aM l) (Lx n c [(194,.ref 7),(225,.ref 4)] sy ops dy aM l) dk:=by
 refine aE (uX w) tt 40 fun qQ qX qq qx=>ae (rE (w:=w) l hl.z) [11,10] tt rfl rfl [11,10,12] tt (⟨rfl,(ae (jY (w:=w)) [13] tt rfl rfl [13,14,15,16,17,18,19] tt ?_)⟩);refine cZ rfl tt (by decide) (m4 (SI n c [(194,.ref 7),(225,.ref 4)] sy ops dy aM l) .s0 ?_ ?_ ?_)
 ·exact fun k σ' a_ h=>h.any (T:=fun σ'=>σ'.cs[20]?=some (.list [.str 194,.str 225])) rfl (fun a_ b_=>rfl) (fun a_ b_ c_=>rfl)
 ·refine SI.turn ?_ fun t e ht he=>?_
  ·refine ae (wJ (w:=w) 0 none) [13,14,15,16] tt rfl rfl [13,14,15,16,21,22,23] tt (aW eK (gL (w:=w) 194 dy aM l 0 (by decide) ⟨hl.z,hl.ne⟩ hl.u D.z D.ok D.b) [7,11,0,8,9,12] tt rfl rfl ?_)
   ·intro t' e ht hs;exact⟨aX (D.all hs) (by decide),(jo [0,1,2,3,4,5,6,7,8,9,10,11,12,13,14,15,16,17,18,19,20,21,24,23] (.s1 ht hs) tt rfl rfl)⟩
  ·refine ae (wM (w:=w) 0 none) [13,14,15,16,21] tt rfl rfl [13,14,15,16,21,24,25,26] tt (aW eK (gL (w:=w) 225 sy ops l t ht ⟨hl.z,hl.ne⟩ hl.u S.z S.ok S.b) [4,11,0,5,6,12] tt rfl rfl ?_)
   ·intro t' b ht hs;exact⟨aX (S.all hs) (by decide),(jo [0,1,2,3,4,5,6,7,8,9,10,11,12,13,14,15,16,17,18,19,20,21,22,23,24,27,26] (.s2 hs he) tt rfl rfl)⟩
 ·exact SI.fin fun t b e hs he=>au [0,1,2,3,4,5,6,7,8,9,10,13,14,15,16,17,18,19,24,25,21,22,26,23] (qq _ _ (j6 rfl b e hs he rfl)) rfl rfl tt
end
theorem Be(x:Int):(pg x).length=8:=rfl
theorem Kn(h0:0≤x)(h1:x<256):(((pg x).getD 0 0).toNat:Int)=x:=by refine(?_:((x.toNat.toUInt8.toNat:Nat):Int)=x);have:x.toNat.toUInt8.toNat=x.toNat% 256:=rfl;rw[this,Nat.mod_eq_of_lt ((Int.toNat_lt h0).mpr h1)];exact aA h0
noncomputable def Ss.tl:Ss→Ss
 |.nil=>.nil
 |.cons _ ss=>ss
noncomputable def Ss.hd:Ss→S
 |.nil=>.cont 0
 |.cons s _=>s
noncomputable def S.body:S→Ss
 |.xC _ _ b _=>b
 |_=>.nil
noncomputable def Eb:Ss:=DZ.tl.tl.tl
section
variable{w:World}
def l9(w:World)(n:Int)(c:Option Int)(b e:aD)(J:Ix)(m p v:Int):Prop:=
 (aF w 288 30 15 [.ref 0,.int p,.int m] (lw n c b b [] J) (dT (.bytes (pg v)) (lw n c b b [] J)) dk)∨
 ((aF w 288 30 15 [.ref 0,.int p,.int m] (lw n c b b [] J) (dT (.none) (lw n c b b [] J)) dk)∧aL e (8*(p-1)).toNat (8*(p-1)+8).toNat=pg v)
noncomputable abbrev yu(n:Int)(c:Option Int)(fl:List (Nat×V))(b e:aD)(J:Ix)(m cnt:Int)(l:List Int):St:=⟨[(128,.ref 0),(129,.ref 9),(152,.int m),(158,.ref 11),(132,.ref 18),(130,.int cnt)],FW n c fl b e J++[.ints l]⟩
theorem ow{X:St→Prop}{K:KF}{Kp:List Nat}(n:Int)(c:Option Int)(fl:List (Nat×V))(b e':aD)(J:Ix)(m cnt p v:Int)(l:List Int)(h0:0≤v)(h1:v<256)(hl:l.length≤1000)(h:K .next ⟨[(128,.ref 0),(129,.ref 9),(152,.int m),(158,.ref 11),(132,.ref 18),(130,.int cnt),(131,.int p),(113,.bytes (pg v))],FW n c fl b e' J++[.ints (l++[v])]⟩):v5 w 70 X 39 Kp Eb.hd.body.tl.tl ⟨[(128,.ref 0),(129,.ref 9),(152,.int m),(158,.ref 11),(132,.ref 18),(130,.int cnt),(131,.int p),(113,.bytes (pg v))],FW n c fl b e' J++[.ints l]⟩ K:=by
 have z:(0:Int)<(pg v).length:=by rw[Be];decide
 have z6:(pg v).length≤1000000:=by rw[Be];decide
 have e:=Kn h0 h1;refine ah (fun u σ=>u=.int v∧σ=⟨[(128,.ref 0),(129,.ref 9),(152,.int m),(158,.ref 11),(132,.ref 18),(130,.int cnt),(131,.int p),(113,.bytes (pg v))],FW n c fl b e' J++[.ints l]⟩) ⟨fun a_=>?_,fun h=>?_⟩ ?_
 ·refine cZ (by decide) z z6 ?_;refine ae (ie (w:=w) (((pg v).getD (0:Int).toNat 0).toNat:Int) (pg v) (av pg e) (by rw[show(0:Int).toNat=0 from rfl,e];exact h0) (by rw[show(0:Int).toNat=0 from rfl,e];exact h1)) [] tt rfl rfl [] tt (⟨fun a_=>?_,fun h=>?_⟩)
  ·exact ji (by decide) z z6 (av V.int e) rfl
  ·have h:(pg v==pg v)=false:=h;rw[beq_self_eq_true]at h;exact tF h
 ·have h:(!(pg v==[]))=false:=h;rw[beq_eq_false_iff_ne.mpr fun q=>by rw[q]at z;exact absurd z (by decide)]at h;exact tF h
 ·refine lS ?_;exact⟨by exact aC 4504584855325005824 rfl hl,h⟩
theorem eY{X:St→Prop}(n:Int)(c:Option Int)(fl:List (Nat×V))(G3:oZ o9 fl=fl)(b e:aD)(J:Ix)(m:Int)(ps:List Int)(hz:ps.length≤1000)(he:e.length≤50000)(hv:∀k:Nat,k<ps.length→(0≤ps.getD k 0∧ps.getD k 0<256)∧l9 w n c b e J m (1+k) (ps.getD k 0)):v5 w 70 X 40 (List.range 11) Eb (yu n c fl b e J m ps.length []) (FZ 11 fun r cs'=>r=.ref 18∧cs'=FW n c fl b e J++[.ints ps]):=by
 have er:((ps.length:Int)+((1:Nat):Int)-((1:Nat):Int)).toNat=ps.length:=by exact bo (ar 1720795202564542720 rfl (aA (bX 420115999473779 rfl))) (eQ 1720795202564542480 1 [-1] rfl (aA (bX 420115999473779 rfl)))
 refine ji (by decide) (by decide) (c7 _) (aC 4723399569257273331945107 rfl hz) (m4 (fun k σ=>σ=yu n c fl b e J m ps.length (ps.take k)) rfl (fun a_ b_ c_ d_=>trivial) ?_ ?_)
 ·rintro k v _ hk rfl rfl;have hk:k<ps.length:=er▸hk;obtain⟨⟨v0,v1⟩,hf⟩:=hv k hk;have ht:ps.take (k+1)=ps.take k++[ps.getD k 0]:=by rw[cW,cn hk,Option.getD_some,List.take_append_getElem hk]
  have hl:(ps.take k).length≤1000:=by rw[List.length_take];exact m9 85594135077145364936736 rfl hz hk (cq (ar 1052928 rfl hk))
  have step:∃κ σ',Norm (List.range 11) κ ⟨[(128,.ref 0),(129,.ref 9),(152,.int m),(158,.ref 11),(132,.ref 18),(130,.int ps.length),(131,.int (1+k)),(113,.bytes (pg (ps.getD k 0)))],FW n c fl b e J++[.ints (ps.take k++[ps.getD k 0])]⟩ σ'∧σ'=yu n c fl b e J m ps.length (ps.take (k+1)):=jv (av (yu n c fl b e J m ps.length) ht.symm) rfl rfl;rcases hf with hf|⟨hf,hc⟩
  ·refine ae hf [9,0,7,10,1,2,3,4,5,6,8,13,15,16,17] tt rfl rfl [9,0,7,10,1,2,3,4,5,6,8,13,15,16,17] tt (ah (fun σ=>σ=⟨[(128,.ref 0),(129,.ref 9),(152,.int m),(158,.ref 11),(132,.ref 18),(130,.int ps.length),(131,.int (1+k)),(113,.bytes (pg (ps.getD k 0)))],FW n c fl b e J++[.ints (ps.take k)]⟩) (jv rfl rfl rfl) ?_);exact mz (ow n c fl b e J m ps.length (1+k) (ps.getD k 0) (ps.take k) v0 v1 hl step)
  ·refine ae hf [9,0,7,10,1,2,3,4,5,6,8,13,15,16,17] tt rfl rfl [9,0,7,10,1,2,3,4,5,6,8,13,15,16,17] tt (ah (fun σ=>σ=⟨[(128,.ref 0),(129,.ref 9),(152,.int m),(158,.ref 11),(132,.ref 18),(130,.int ps.length),(131,.int (1+k)),(113,.bytes (pg (ps.getD k 0)))],FW n c fl b e J++[.ints (ps.take k)]⟩) ?_ ?_)
   ·exact⟨mulR (bX 461876217342406296432842963 rfl) (dC 1432591591921568397303657211551541699 rfl hz hk),(ae (fJ (w:=w) 194 e e (8*(1+(k:Int)-1)) 8 _ hc (bX 6489419029192819 rfl) (by decide) (aC 225181248012473620480 rfl he)) [11,0,14,12] tt rfl rfl [11,0,14,12] tt (jv rfl rfl rfl))⟩
   ·exact mz (ow n c fl b e J m ps.length (1+k) (ps.getD k 0) (ps.take k) v0 v1 hl step)
 ·intro σ' yF;rw[er,List.take_length]at yF;obtain rfl:=yF;exact au o9 ⟨rfl,rfl⟩ rfl (av (fun z=>FW n c z b e J++[.ints ps]) G3) tt
end
structure Dr(ps:List Int)(ch:List (Int×aD))(qs:List Int)(k:Nat):Prop where
 z:ch.length≤k
 nd:(aj ch).Nodup
 len:qs.length≤ps.length+k
 v:∀i,i<qs.length→1≤qs.getD i 0∧qs.getD i 0≤200
 at_:∀p∈aj ch,1≤p∧p≤qs.length∧aV ch p=some (pg (qs.getD (p-1).toNat 0))
 old:∀i:Nat,i<qs.length→(i:Int)+1∉aj ch→i<ps.length∧qs.getD i 0=ps.getD i 0
theorem iR{α:Type}{l:List (Int×α)}{p q:Int}{a:α}:q∈aj (dput l p a)↔q=p∨q∈aj l:=by
 rw[dN,dm,dN];by_cases h:q=p
 ·rw[aB h];simp[h]
 ·rw[aH h];simp[h]
theorem qf{α:Type}{l:List (Int×α)}{p:Int}{a:α}(h:(aj l).Nodup):(aj (dput l p a)).Nodup:=by
 by_cases hp:p∈aj l
 ·rw[ja hp];exact h
 ·have e:dput l p a=l++[(p,a)]:=by unfold dput;rw[aH];intro z;exact aa (List.any_eq_true.mp z) fun q hq e=>hp (bO.mpr (ah q hq (by simpa using e)))
  rw[e];unfold aj;rw[List.map_append];refine List.nodup_append.mpr (aN h (cu.mpr ⟨List.not_mem_nil,List.nodup_nil⟩) (fun x hx y hy e=>?_));rw[c9.mp hy]at e;exact hp ((show x=p from e)▸hx)
theorem vq{α:Type}{l:List (Int×α)}{p:Int}{a:α}:dput l p a≠[]:=fun e=>by have:p∈aj (dput l p a):=iR.mpr (.inl rfl);rw[e]at this;cases this
theorem getD_snoc{l:List Int}{v:Int}{i:Nat}:(l++[v]).getD i 0=if i<l.length then l.getD i 0 else if i=l.length then v else 0:=by
 rw[cW,cW,List.getElem?_append];by_cases h:i<l.length
 ·rw[aB h,aB h]
 ·rw[aH h,aH h];by_cases h2:i=l.length
  ·clear h;subst h2;simp
  ·rw[aH h2,List.getElem?_eq_none (Nat.sub_pos_of_lt (Nat.lt_of_le_of_ne (Nat.le_of_not_lt h) (Ne.symm h2)))];rfl
theorem Dr.app{ps qs:List Int}{ch:List (Int×aD)}{k:Nat}(D:Dr ps ch qs k){v:Int}(hv:1≤v∧v≤200):Dr ps (dput ch ((qs++[v]).length:Int) (pg v)) (qs++[v]) (k+1):=by
 have hl:(qs++[v]).length=qs.length+1:=by rw[bR];rfl
 refine⟨aX (kN _ _ _) (Nat.succ_le_succ D.z),qf D.nd,by have:=D.len;exact m8 14924575378556868700416 rfl hl this,fun i hi=>?_,fun p hp=>?_,fun i hi hn=>?_⟩
 ·rw[getD_snoc];split
  ·exact D.v i ‹_›
  ·rw[aB (by exact bo (eR 2273942970656 rfl hl hi) (ar 1077264 rfl (by assumption)))];exact hv
 ·rw[dm,hl];rcases iR.mp hp with rfl|hp
  ·refine aN (by exact eQ 1587261006195 1 [-1] rfl hl) (by exact ar 6501421232546019 rfl hl) ?_;rw[aB (by exact Int.le_antisymm (ar 6501421232546019 rfl hl) (eQ 6501421081369059 1 [-1] rfl hl)),getD_snoc,aH (by exact fun e=>tZ 425338778023097372714 0 [-1,1,-1] rfl hl e (aA (eQ 6501421231816819 1 [-1] rfl hl))),aB (by exact bo (eR 26583673627793695008 rfl hl (aA (eQ 6501421231816819 1 [-1] rfl hl))) (fe 26583673627793695248 1 [-1,-1] rfl hl (aA (eQ 6501421231816819 1 [-1] rfl hl))))]
  ·refine fc (D.at_ p hp) fun h1 h2 h3=>aN h1 (by exact cm 980082007619 rfl h2) ?_;rw[aH (by exact fun e=>yT 25331252651066 0 [1,-1] rfl h2 e),getD_snoc,aB (by exact iw 6557617554206737 rfl h2 (aA (aZ 4497660493939 rfl h1)))];exact h3
 ·have Ko:=fun z=>hn (iR.mpr z);have K3:i<qs.length:=by refine Nat.lt_of_le_of_ne (by exact eR 2273942970656 rfl hl hi) fun e=>Ko (.inl (by exact Int.le_antisymm (ar 1104311422611 rfl hi) (fe 20903203692233003235 1 [1,-1] rfl hl e)))
  rw[getD_snoc,aB K3];exact D.old i K3 fun z=>Ko (.inr z)
theorem ox{l:List Int}{v:Int}{i j:Nat}(h:j<l.length):(l.set j v).getD i 0=if i=j then v else l.getD i 0:=by
 rw[cW,cW,List.getElem?_set];by_cases e:i=j
 ·subst e;simp[h]
 ·rw[aH (Ne.symm e),aH e]
theorem Dr.set{ps qs:List Int}{ch:List (Int×aD)}{k:Nat}(D:Dr ps ch qs k){v at':Int}(hv:1≤v∧v≤200)(h0:0≤at')(h1:at'<qs.length):Dr ps (dput ch (at'+1) (pg v)) (qs.set at'.toNat v) (k+1):=by
 have hl:(qs.set at'.toNat v).length=qs.length:=List.length_set;have ha:at'.toNat<qs.length:=by exact iw 4528252665873 rfl h1 (aA (aZ 1081294963 rfl h0))
 refine⟨aX (kN _ _ _) (Nat.succ_le_succ D.z),qf D.nd,by have:=D.len;exact m8 3643694682010626304 rfl hl this,fun i hi=>?_,fun p hp=>?_,fun i hi hn=>?_⟩
 ·rw[ox ha];split
  ·exact hv
  ·exact D.v i (hl▸hi)
 ·rw[dm,hl,ox ha];rcases iR.mp hp with rfl|hp
  ·refine aN (by exact cm 4459542647155 rfl (aA (aZ 1081294963 rfl h0))) (by assumption) ?_;rw[aB rfl,aB (by rw[Int.add_sub_cancel])]
  ·refine fc (D.at_ p hp) fun h1 h2 h3=>aN h1 h2 ?_;by_cases e:p=at'+1
   ·rw[aB e,aB (by exact bo (H2 386737668237824879776000 1 [1,1,-1] rfl e (aA (aZ 4497660493939 rfl h1)) (aA (aZ 1081294963 rfl h0))) (H2 386737668237824879775760 1 [-1,-1,1] rfl e (aA (aZ 4497660493939 rfl h1)) (aA (aZ 1081294963 rfl h0))))]
   ·rw[aH e,aH fun q=>e ((Nq h1 q.symm).symm.trans (av (·+1) (aA h0)))];exact h3
 ·have Ko:=fun z=>hn (iR.mpr z);rw[ox ha,aH fun e=>Ko (.inl (by exact Int.le_antisymm (iw 75971505888123358867 rfl e (aA (aZ 1081294963 rfl h0))) (fO 75971505887141524627 1 [-1,-1] rfl e (aA (aZ 1081294963 rfl h0)))))];exact D.old i (hl▸hi) fun z=>Ko (.inr z)
theorem Dr.start{ps:List Int}(h:∀i,i<ps.length→1≤ps.getD i 0∧ps.getD i 0≤200):Dr ps [] ps 0:=⟨bF _,List.nodup_nil,bF _,h,fun a_ h=>(nomatch h),fun i hi a_=>⟨hi,rfl⟩⟩
theorem Dr.drop{ps:List Int}(h:∀i,i<ps.length→1≤ps.getD i 0∧ps.getD i 0≤200):Dr ps [] ps.dropLast 0:=by
 have hl:ps.dropLast.length=ps.length-1:=List.length_dropLast;have e:∀i,i<ps.dropLast.length→ps.dropLast.getD i 0=ps.getD i 0:=fun i hi=>by rw[cW,cW,List.getElem?_dropLast,aB (by exact eR 554705185 rfl hl hi)]
 refine⟨bF _,List.nodup_nil,by exact eR 36288212707584 rfl hl (Nat.sub_le _ _),fun i hi=>?_,fun a_ h=>(nomatch h),fun i hi a_=>⟨by exact Ey 53876624466721 rfl hl hi (Nat.sub_le _ _),e i hi⟩⟩;rw[e i hi];exact h i (Ey 53876624466721 rfl hl hi (Nat.sub_le _ _))
noncomputable abbrev HD:List (Nat×V):=[(124,.ref 0),(162,.ref 2),(195,.ref 3)]
noncomputable abbrev HE(ps:List Int)(x y:Int)(ch:List (Int×aD))(qs:List Int):List O:=[.ints [x,y],.ints ps,.ints qs,.gf ch]
def HF(ps:List Int)(σ:St):Prop:=∃x y qs,Dr ps [] qs 0∧σ=⟨HD,HE ps x y [] qs⟩
theorem HF.mk{ps qs:List Int}{x y:Int}(h:Dr ps [] qs 0):HF ps ⟨HD,HE ps x y [] qs⟩:=dF x y qs h rfl
theorem HF.el{ps:List Int}{T:St→Prop}(k:∀x y qs,Dr ps [] qs 0→T ⟨HD,HE ps x y [] qs⟩):∀σ,HF ps σ→T σ:=by rintro σ ⟨x,y,qs,h,rfl⟩;exact k x y qs h
def BM(ps:List Int)(t:Nat)(σ:St):Prop:=∃x y ch qs,Dr ps ch qs t∧(0<t→ch≠[])∧σ=⟨HD,HE ps x y ch qs⟩
theorem BM.mk{ps qs:List Int}{x y:Int}{ch:List (Int×aD)}{t:Nat}(h:Dr ps ch qs t)(h':0<t→ch≠[]):BM ps t ⟨HD,HE ps x y ch qs⟩:=jF x y ch qs h h' rfl
theorem BM.el{ps:List Int}{t:Nat}{T:St→Prop}(k:∀x y ch qs,Dr ps ch qs t→(0<t→ch≠[])→T ⟨HD,HE ps x y ch qs⟩):∀σ,BM ps t σ→T σ:=by rintro σ ⟨x,y,ch,qs,h,h',rfl⟩;exact k x y ch qs h h'
section
variable{w:World}
theorem ma(x y:Int)(ps:List Int)(hz:ps.length≤100)(hv:∀i,i<ps.length→1≤ps.getD i 0∧ps.getD i 0≤200):
  aF w 740 24 2 [.ref 0,.ref 1] [.ints [x,y],.ints ps] (fun r cs'=>r=.tup [.ref 2,.ref 3]∧∃x y ch qs,(Dr ps ch qs 2∧ch≠[])∧cs'=[.ints [x,y],.ints ps,.gf ch,.ints qs]) dk:=by
 refine aE (GO w) tt 40 fun qQ qX qq qx=>d7 (aC 451063656732448768 rfl hz) (HF ps) (aN (aC 451063715714848768 rfl hz) (fun h=>?_) (fun a_=>?_)) ?_
 ·have h:(1:Int)<ps.length:=cX h
  refine aW fF (dH (w:=w) x y 3 (by decide) (by decide)) [0] tt rfl rfl ?_
  ·intro k x' y' _ _
   refine⟨fun a_=>?_,fun a_=>?_⟩
   ·refine aN (by exact aC 451063715714848768 rfl hz) (fun e=>?_) ?_
    ·rw[e]at h;exact absurd h (by decide)
    ·exact jo [0,1,2,3] (.mk (.drop hv)) tt rfl rfl
   ·exact jo [0,1,2,3] (.mk (.start hv)) tt rfl rfl
 ·exact jo [0,1,2,3] (.mk (.start hv)) tt rfl rfl
 refine HF.el fun x y qs D=>aW fF (dH (w:=w) x y 2 (by decide) (by decide)) [0] tt rfl rfl ?_
 ·intro k x y h0 h1
  refine iT (aZ 1188896679127735621843 rfl h0) (aZ 45274478423104913043 rfl h1) (BM ps) (.mk D (fun h=>absurd h (by decide))) (fun a_ b_ c_ d_=>trivial) ?_ ?_
  ·intro t v σ ht hv
   subst hv
   revert σ
   refine BM.el fun x y ch qs D a_=>?_
   have hq:=D.len
   have hc:=D.z
   have Og:t≤2:=aX (Nat.le_of_lt ht) (Int.toNat_le.mpr (Int.add_le_add_left (Int.lt_add_one_iff.mp (h1:k<1+1)) 1:(1:Int)+k≤1+1))
   have Oh:t≤100000:=yM Og tt
   have Oi:qs.length≤102:=aX hq (Nat.add_le_add hz Og)
   refine aW fF (dH (w:=w) x y 200 (by decide) (by decide)) [0] tt rfl rfl ?_
   ·intro u x y u0 u1
    have hu:1≤1+u∧1+u≤200:=by exact⟨aZ 4428985241971 rfl u0,aZ 901428339569596307 rfl u1⟩
    refine ah (BM ps (t+1)) (⟨fun a_=>?_,fun Qe=>?_⟩) (BM.el fun x y ch qs h h'=>jv (BM.mk h h') rfl rfl)
    ·
     refine⟨by exact yV 356585588778499075867195350407006650390576 rfl hz h1 ht hq (aA (aZ 70863764230259 rfl h0)),(ae (ie (w:=w) (1+u) _ rfl (aZ 18429014051360883 rfl hu.1) (by exact aZ 59075992762052442855316 rfl hu.2)) [] tt rfl rfl [] tt ?_)⟩
     exact aN (by rw[bR];exact aX (Nat.succ_le_succ Oi) (bZ tt)) (aX hc Oh) (jo [0,1,2,3] (.mk (D.app hu) fun a_=>vq) tt rfl rfl)
    ·refine aW fF (dH (w:=w) x y 3 (by decide) (by decide)) [0] tt rfl rfl ?_
     ·intro k x y _ _
      refine⟨fun a_=>?_,fun a_=>?_⟩
      ·
       refine⟨by exact yV 356585588778499075867195350407006650390576 rfl hz h1 ht hq (aA (aZ 70863764230259 rfl h0)),(ae (ie (w:=w) (1+u) _ rfl (aZ 18429014051360883 rfl hu.1) (aZ 59075992762052442855316 rfl hu.2)) [] tt rfl rfl [] tt ?_)⟩
       exact aN (by rw[bR];exact aX (Nat.succ_le_succ Oi) (bZ tt)) (aX hc Oh) (jo [0,1,2,3] (.mk (D.app hu) fun a_=>vq) tt rfl rfl)
      ·have fE:0<qs.length:=List.length_pos_iff.mpr (beq_eq_false_iff_ne.mp Qe)
       refine⟨by exact yV 356585588778499075867195350407006650390576 rfl hz h1 ht hq (aA (aZ 70863764230259 rfl h0)),?_⟩
       refine aW fF (dH (w:=w) x y qs.length (aC 118546548 rfl fE) (by exact yV 22286599298656192241699709400434868454371 rfl hz h1 ht hq (aA (aZ 70863764230259 rfl h0)))) [0] tt rfl rfl ?_
       ·intro a x y a0 a1
        refine cZ a0 a1 (yV 356585588778499075867195350407006650390576 rfl hz h1 ht hq (aA (aZ 70863764230259 rfl h0))) (ae (ie (w:=w) (1+u) _ rfl (aZ 18429014051360883 rfl hu.1) (aZ 59075992762052442855316 rfl hu.2)) [] tt rfl rfl [] tt ?_)
        exact⟨by exact LW 83024032805878495856137921910816 rfl h1 ht hc (aA (aZ 70863764230259 rfl h0)),(jo [0,1,2,3] (.mk (D.set hu a0 a1) fun a_=>vq) tt rfl rfl)⟩
  ·refine BM.el fun x y ch qs D fy=>?_
   have ht:(1+k).toNat=1∨(1+k).toNat=2:=(i2 h0 h1).imp (av fun x:Int=>(1+x).toNat) (av fun x:Int=>(1+x).toNat)
   have hz:=D.z
   have hl:=D.len
   exact au [0,1,3,2] (qq _ _ (et rfl x (dF y ch qs ⟨⟨by exact yU 19330538997895139698432 rfl h1 hz (aA (aZ 70863764230259 rfl h0)),D.nd,by exact B3 1266846498993012518066526464 rfl h1 hl (aA (aZ 70863764230259 rfl h0)),D.v,D.at_,D.old⟩,fy (by exact yT 4719368773834047601 1 [1,-1] rfl h0 (aA (aZ 70863764230259 rfl h0)))⟩ rfl))) rfl rfl tt
theorem G4(n:Int)(c:Option Int)(b e:aD)(J:Ix)(m:Int)(ps:List Int)(hm:(if J.cp=J.la then 0 else J.la)=m)(hz:ps.length≤1000)(he:e.length≤50000)(hv:∀k:Nat,k<ps.length→(0≤ps.getD k 0∧ps.getD k 0<256)∧l9 w n c b e J m (1+k) (ps.getD k 0))(hc:aV J.co m=some (ps.length:Int)∨(aV J.co m=none∧(e.length:Int)/8=ps.length)):aF w 726 70 11 [.ref 0,.ref 9] (FW n c tT b e J) (dT (.ref 18) (FW n c tT b e J++[.ints ps])) dk:=by
 rcases hc with hc|⟨hc,h8⟩
 ·refine bA (lQ w) tt 40 (ae (eX (w:=w) J.la J.cp J.s0 J.s1 J.nu J.u0 J.u1 J.hl J.sp m hm) [9,0,7,10,15,16,17] tt rfl rfl [9,0,7,10,15,16,17] tt (ae (rB (w:=w) n c) [0,1,2,3,7,11] tt rfl rfl [0,1,2,3,7,11] tt (ae (count_at (w:=w) J.la J.cp J.s0 J.s1 J.nu J.u0 J.u1 J.hl J.sp J.co m (some (ps.length:Int)) hc) [9,0,7,10,15,16,17] tt rfl rfl [9,0,7,10,15,16,17] tt ?_)));exact ah (fun σ=>σ=yu n c tT b e J m ps.length []) (jo o9 rfl tt rfl rfl) (by rintro _ rfl;exact eY n c tT rfl b e J m ps hz he hv)
 ·refine bA (lQ w) tt 40 (ae (eX (w:=w) J.la J.cp J.s0 J.s1 J.nu J.u0 J.u1 J.hl J.sp m hm) [9,0,7,10,15,16,17] tt rfl rfl [9,0,7,10,15,16,17] tt (ae (rB (w:=w) n c) [0,1,2,3,7,11] tt rfl rfl [0,1,2,3,7,11] tt (ae (count_at (w:=w) J.la J.cp J.s0 J.s1 J.nu J.u0 J.u1 J.hl J.sp J.co m none hc) [9,0,7,10,15,16,17] tt rfl rfl [9,0,7,10,15,16,17] tt ?_)));exact ah (fun σ=>σ=yu n c tT b e J m ps.length []) (ae (eW (w:=w) 194 e e (aC 225181248012473620480 rfl he)) [11,0,14,12] tt rfl rfl [11,0,14,12] tt (aN (by decide) (by decide) (jo o9 (av (fun z=>yu n c tT b e J m z []) h8) tt rfl rfl))) (by rintro _ rfl;exact eY n c tT rfl b e J m ps hz he hv)
theorem G5(n:Int)(c:Option Int)(b e:aD)(J:Ix)(m:Int)(ps:List Int)(hm:(if J.cp=J.la then 0 else J.la)=m)(hz:ps.length≤1000)(he:e.length≤50000)(hv:∀k:Nat,k<ps.length→(0≤ps.getD k 0∧ps.getD k 0<256)∧l9 w n c b e J m (1+k) (ps.getD k 0))(hc:aV J.co m=some (ps.length:Int)∨(aV J.co m=none∧(e.length:Int)/8=ps.length)):aF w 726 70 11 [.ref 0,.ref 9] (FW n c yG b e J) (dT (.ref 18) (FW n c yG b e J++[.ints ps])) dk:=by
 rcases hc with hc|⟨hc,h8⟩
 ·refine bA (lQ w) tt 40 (ae (eX (w:=w) J.la J.cp J.s0 J.s1 J.nu J.u0 J.u1 J.hl J.sp m hm) [9,0,7,10,15,16,17] tt rfl rfl [9,0,7,10,15,16,17] tt (ae (rA (w:=w) n c) [0,1,2,3,11,7] tt rfl rfl [0,1,2,3,11,7] tt (ae (count_at (w:=w) J.la J.cp J.s0 J.s1 J.nu J.u0 J.u1 J.hl J.sp J.co m (some (ps.length:Int)) hc) [9,0,7,10,15,16,17] tt rfl rfl [9,0,7,10,15,16,17] tt ?_)));exact ah (fun σ=>σ=yu n c yG b e J m ps.length []) (jo o9 rfl tt rfl rfl) (by rintro _ rfl;exact eY n c yG rfl b e J m ps hz he hv)
 ·refine bA (lQ w) tt 40 (ae (eX (w:=w) J.la J.cp J.s0 J.s1 J.nu J.u0 J.u1 J.hl J.sp m hm) [9,0,7,10,15,16,17] tt rfl rfl [9,0,7,10,15,16,17] tt (ae (rA (w:=w) n c) [0,1,2,3,11,7] tt rfl rfl [0,1,2,3,11,7] tt (ae (count_at (w:=w) J.la J.cp J.s0 J.s1 J.nu J.u0 J.u1 J.hl J.sp J.co m none hc) [9,0,7,10,15,16,17] tt rfl rfl [9,0,7,10,15,16,17] tt ?_)));exact ah (fun σ=>σ=yu n c yG b e J m ps.length []) (ae (eW (w:=w) 194 e e (aC 225181248012473620480 rfl he)) [11,0,14,12] tt rfl rfl [11,0,14,12] tt (aN (by decide) (by decide) (jo o9 (av (fun z=>yu n c yG b e J m z []) h8) tt rfl rfl))) (by rintro _ rfl;exact eY n c yG rfl b e J m ps hz he hv)
theorem G6(n:Int)(c:Option Int)(b:aD)(J:Ix)(m:Int)(ps:List Int)(hm:(if J.cp=J.la then 0 else J.la)=m)(hz:ps.length≤1000)(hv:∀k:Nat,k<ps.length→(0≤ps.getD k 0∧ps.getD k 0<256)∧l9 w n c b [] J m (1+k) (ps.getD k 0))(hc:aV J.co m=some (ps.length:Int)∨(aV J.co m=none∧ps=[])):aF w 726 70 11 [.ref 0,.ref 9] (Ea n c b J) (dT (.ref 18) (FW n c tT b [] J++[.ints ps])) dk:=by
 rcases hc with hc|⟨hc,h8⟩
 ·refine bA (lQ w) tt 40 (ae (eX (w:=w) J.la J.cp J.s0 J.s1 J.nu J.u0 J.u1 J.hl J.sp m hm) [9,0,7,10,12,13,14] tt rfl rfl [9,0,7,10,12,13,14] tt (ae (rC (w:=w) n c) [0,1,2,3,7] tt rfl rfl [0,1,2,3,7,15,16,17] tt (ae (count_at (w:=w) J.la J.cp J.s0 J.s1 J.nu J.u0 J.u1 J.hl J.sp J.co m (some (ps.length:Int)) hc) [9,0,7,10,12,13,14] tt rfl rfl [9,0,7,10,12,13,14] tt ?_)));exact ah (fun σ=>σ=yu n c tT b [] J m ps.length []) (jo [0,1,2,3,4,5,6,7,8,9,10,15,16,11,17,12,13,14,18] rfl tt rfl rfl) (by rintro _ rfl;exact eY n c tT rfl b [] J m ps hz (by decide) hv)
 ·refine bA (lQ w) tt 40 (ae (eX (w:=w) J.la J.cp J.s0 J.s1 J.nu J.u0 J.u1 J.hl J.sp m hm) [9,0,7,10,12,13,14] tt rfl rfl [9,0,7,10,12,13,14] tt (ae (rC (w:=w) n c) [0,1,2,3,7] tt rfl rfl [0,1,2,3,7,15,16,17] tt (ae (count_at (w:=w) J.la J.cp J.s0 J.s1 J.nu J.u0 J.u1 J.hl J.sp J.co m none hc) [9,0,7,10,12,13,14] tt rfl rfl [9,0,7,10,12,13,14] tt ?_)));exact ah (fun σ=>σ=yu n c tT b [] J m ps.length []) (ae (eW (w:=w) 194 [] [] (by decide)) [15,0,17,16] tt rfl rfl [15,0,17,16] tt (aN (by decide) (by decide) (jo [0,1,2,3,4,5,6,7,8,9,10,15,16,11,17,12,13,14,18] (av (fun z=>yu n c tT b [] J m z []) (by rw[h8];rfl)) tt rfl rfl))) (by rintro _ rfl;exact eY n c tT rfl b [] J m ps hz (by decide) hv)
end
noncomputable abbrev Rec:=Int×Int×Int
structure Ly(r:Rec):Prop where
 p:1≤r.1∧r.1<4294967296
 k:Wd r.2.1
theorem rH(x:Int):(pg x).length=8:=rfl
noncomputable def o7(s0 s1:Int):List Rec→Int×Int→List (aD)
 |[],_=>[]
 |r::R,u=>mY s0 s1 r.1 r.2.1 (pg r.2.2) u::o7 s0 s1 R (fX r.1 r.2.1 (pg r.2.2) u)
noncomputable def sm:List Rec→Int×Int→Int×Int
 |[],u=>u
 |r::R,u=>sm R (fX r.1 r.2.1 (pg r.2.2) u)
noncomputable def qg:List Rec→Int×Int→List Rc
 |[],_=>[]
 |r::R,u=>(r.1,r.2.1,(fX r.1 r.2.1 (pg r.2.2) u).1,(fX r.1 r.2.1 (pg r.2.2) u).2)::qg R (fX r.1 r.2.1 (pg r.2.2) u)
theorem vt:∀{R X:List Rec} {u:Int×Int},sm (R++X) u=sm X (sm R u):=by
 intro X_;induction X_ with
 |nil=>intro _ _;exact rfl
 |cons _ R cD=>intro _ _;exact cD
theorem mZ:∀{R X:List Rec} {u:Int×Int},o7 s0 s1 (R++X) u=o7 s0 s1 R u++o7 s0 s1 X (sm R u):=by
 intro X_;induction X_ with
 |nil=>intro _ _;exact rfl
 |cons _ R cD=>intro _ _;exact av (List.cons _) (cD)
theorem wO:∀{R X:List Rec} {u:Int×Int},qg (R++X) u=qg R u++qg X (sm R u):=by
 intro X_;induction X_ with
 |nil=>intro _ _;exact rfl
 |cons _ R cD=>intro _ _;exact av (List.cons _) (cD)
theorem fG:∀{R:List Rec} {u:Int×Int},(o7 s0 s1 R u).length=R.length:=by
 intro X_;induction X_ with
 |nil=>intro _;exact rfl
 |cons _ R cD=>intro _;exact av Nat.succ (cD)
theorem wQ:∀{R:List Rec} {u:Int×Int},All 32 (o7 s0 s1 R u):=by
 intro X_;induction X_ with
 |nil=>intro _ _ h;exact nomatch h
 |cons r R cD=>
  intro u k h;rcases bD.mp h with rfl|h
  ·exact rG (rH _)
  ·exact cD k h
theorem wR(h0:Wd s0)(h:s0<s):∀{R:List Rec} {u:Int×Int},∀k∈o7 s0 s1 R u,Old s k:=by
 intro X_;induction X_ with
 |nil=>intro _ _ hk;exact nomatch hk
 |cons r R cD=>
  intro u k hk;rcases bD.mp hk with rfl|hk
  ·exact C8 h0 h
  ·exact cD k hk
theorem Bf(h0:Wd s0)(h1:Wd s1)(ht:∀k,tail[0]?=some k→Old s0 k):∀{R:List Rec} {u0 u1:Int},(∀r∈R,Ly r)→scan s0 s1 (o7 s0 s1 R (u0,u1)++tail) u0 u1=qg R (u0,u1):=by
 intro X_;induction X_ with
 |nil=>
  intro u0 u1 _;refine(?_:scan s0 s1 tail u0 u1=[]);induction tail using List.casesOn with
  |nil=>rfl
  |cons k tail=>refine(?_:(match lW s0 s1 u0 u1 k with|none=>[]|some r=>r::scan s0 s1 tail r.2.2.1 r.2.2.2)=[]);exact(G1 (ht k rfl)).symm▸rfl
 |cons r R cD=>intro u0 u1 hR;have ok:=hR r aS;refine(?_:(match lW s0 s1 u0 u1 (mY s0 s1 r.1 r.2.1 (pg r.2.2) (u0,u1))with|none=>[]|some q=>q::scan s0 s1 (o7 s0 s1 R (fX r.1 r.2.1 (pg r.2.2) (u0,u1))++tail) q.2.2.1 q.2.2.2)=_);exact(GZ (rH _) ⟨Int.le_trans (by decide) ok.p.1,ok.p.2⟩ (Int.ne_of_gt (show(0:Int)+1≤_ from ok.p.1)) ok.k h0 h1).symm▸(av (List.cons _) (cD fun q hq=>hR q (cO _ hq)))
theorem qh:∀{A B:List Rc} {I:Ix},I.steps (A++B)=(I.steps A).steps B:=by
 intro X_;induction X_ with
 |nil=>intro _ _;exact rfl
 |cons _ A cD=>intro _ _;exact cD
theorem vw:∀{X:List Rec} {u:Int×Int} {I:Ix},(∀r∈X,r.2.1=0)→(I.steps (qg X u)).la=I.la∧(I.steps (qg X u)).u0=I.u0∧(I.steps (qg X u)).u1=I.u1∧(I.steps (qg X u)).co=I.co:=by
 intro X_;induction X_ with
 |nil=>intro _ _ _;exact cZ rfl rfl rfl rfl
 |cons r X cD=>
  intro u I h;refine oO (cD (u:=fX r.1 r.2.1 (pg r.2.2) u) (I:=I.step (r.1,r.2.1,(fX r.1 r.2.1 (pg r.2.2) u).1,(fX r.1 r.2.1 (pg r.2.2) u).2)) fun q hq=>h q (cO _ hq)) fun a b c d=>?_;have e:(I.step (r.1,r.2.1,(fX r.1 r.2.1 (pg r.2.2) u).1,(fX r.1 r.2.1 (pg r.2.2) u).2)).la=I.la∧(I.step (r.1,r.2.1,(fX r.1 r.2.1 (pg r.2.2) u).1,(fX r.1 r.2.1 (pg r.2.2) u).2)).u0=I.u0∧(I.step (r.1,r.2.1,(fX r.1 r.2.1 (pg r.2.2) u).1,(fX r.1 r.2.1 (pg r.2.2) u).2)).u1=I.u1∧(I.step (r.1,r.2.1,(fX r.1 r.2.1 (pg r.2.2) u).1,(fX r.1 r.2.1 (pg r.2.2) u).2)).co=I.co:=by unfold Ix.step;exact(show decide (r.2.1>0)=false from decide_eq_false (by rw[h r aS];decide)).symm▸(cZ rfl rfl rfl rfl)
  exact cZ (a.trans e.1) (b.trans e.2.1) (c.trans e.2.2.1) (d.trans e.2.2.2)
def Kq(R:List Rec)(n:Int):Prop:=R=[]∨∃R0 p v,R=R0++[(p,n,v)]∧0<n
theorem wU:∀{R:List Rec} {u:Int×Int},(qg R u).map (·.1)=R.map (·.1):=by
 intro X_;induction X_ with
 |nil=>intro _;exact rfl
 |cons _ R cD=>intro _;exact av (List.cons _) (cD)
theorem yv{u:Int×Int}{R X:List Rec}(hC:Kq R n)(hX:∀r∈X,r.2.1=0)(F:Ix)(hF:Ix.steps ⟨0,0,s0,s1,nu,u.1,u.2,false,false,[],[],[]⟩ (qg (R++X) u)=F):F.la=R.length∧F.fr=(R++X).map (·.1)∧(F.u0,F.u1)=sm R u∧(R≠[]→aV F.co R.length=some n)∧F.co.length≤(R++X).length∧(R=[]→F.co=[]):=by
 have O1:Ix.Ok ⟨0,0,s0,s1,nu,u.1,u.2,false,false,[],[],[]⟩:=⟨Int.le_refl _,Int.le_refl _,rfl,bF _⟩;refine Ej (O1.steps (R:=qg (R++X) u)) fun o _ _ _ _ _ _ o6=>?_;rw[hF]at o o6;have o6:F.fr=(R++X).map (·.1):=o6.trans (by refine wU.symm▸?_;rfl);have jm:=o.co;rw[o6,bK]at jm;rw[wO,qh]at hF;refine oO (vw (I:=Ix.steps ⟨0,0,s0,s1,nu,u.1,u.2,false,false,[],[],[]⟩ (qg R u)) (u:=sm R u) hX) fun a b c d=>?_;rw[hF]at a b c d;rcases hC with rfl|⟨R0,p,v,rfl,hn⟩
 ·exact jj a o6 (by refine b.symm▸?_;refine c.symm▸?_;rfl) (fun h=>absurd rfl h) jm (fun a_=>d)
 ·have O2:Ix.Ok ⟨0,0,s0,s1,nu,u.1,u.2,false,false,[],[],[]⟩:=⟨Int.le_refl _,Int.le_refl _,rfl,bF _⟩;refine Ej (O2.steps (R:=qg R0 u)) fun _ _ _ _ _ _ _ Nd=>?_;have Nd:(Ix.steps ⟨0,0,s0,s1,nu,u.1,u.2,false,false,[],[],[]⟩ (qg R0 u)).fr.length=R0.length:=by refine Nd.symm▸?_;refine wU.symm▸?_;simp
  have e:Ix.steps ⟨0,0,s0,s1,nu,u.1,u.2,false,false,[],[],[]⟩ (qg (R0++[(p,n,v)]) u)=(Ix.steps ⟨0,0,s0,s1,nu,u.1,u.2,false,false,[],[],[]⟩ (qg R0 u)).step (p,n,(fX p n (pg v) (sm R0 u)).1,(fX p n (pg v) (sm R0 u)).2):=by refine wO.symm▸?_;refine qh.symm▸?_;rfl
  rw[e]at a b c d;unfold Ix.step at a b c d;rw[show decide ((p,n,(fX p n (pg v) (sm R0 u)).1,(fX p n (pg v) (sm R0 u)).2).2.1>0)=true from decide_eq_true hn]at a b c d;have hl:((R0++[(p,n,v)]).length:Int)=(((Ix.steps ⟨0,0,s0,s1,nu,u.1,u.2,false,false,[],[],[]⟩ (qg R0 u)).fr++[p]).length:Int):=by refine bR.symm▸?_;refine bR.symm▸?_;refine Nd.symm▸?_;rfl
  refine jj (a.trans hl.symm) o6 ?_ (fun a_=>?_) jm (fun h=>absurd h (by simp))
  ·refine b.symm▸?_;refine c.symm▸?_;refine vt.symm▸?_;rfl
  ·rw[d,hl,dm,aB rfl]
noncomputable def lv:List Rec→Int→Option Int
 |[],_=>none
 |r::R,p=>(lv R p).or (if r.1=p then some r.2.2 else none)
theorem G7:∀{A B:List Rec},lv (A++B) p=(lv B p).or (lv A p):=by
 intro X_;induction X_ with
 |nil=>intro _;exact by refine(?_:_=(lv _ p).or none);refine Option.or_none.symm▸?_;rfl
 |cons r A cD=>intro B;refine(?_:(lv (A++B) p).or _=(lv B p).or ((lv A p).or _));refine(cD).symm▸?_;exact Option.or_assoc.symm▸rfl
theorem oy:∀{R:List Rec} {n:Int},(lv R p=none→posOf p n (R.map (·.1))=[])∧∀v,lv R p=some v→∃x k,(posOf p n (R.map (·.1))).getLast?=some x∧n<x∧R[(x-n-1).toNat]?=some (p,k,v):=by
 intro X_;induction X_ with
 |nil=>intro n;exact⟨fun a_=>rfl,fun v h=>(nomatch h)⟩
 |cons r R cD=>
  intro n;obtain⟨h1,h2⟩:=cD (n:=n+1);have e:posOf p n ((r::R).map (·.1))=if r.1=p then(n+1)::posOf p (n+1) (R.map (·.1))else posOf p (n+1) (R.map (·.1)):=rfl
  have el:lv (r::R) p=(lv R p).or (if r.1=p then some r.2.2 else none):=rfl;refine e.symm▸?_;refine el.symm▸?_;generalize q:lv R p=y_;induction y_ with
  |some v=>
   refine ao (h2 v q) fun x k a1 a2 a3=>⟨fun h=>(nomatch h),fun v' h=>?_⟩;have q_:=bf h;clear h;subst q_;refine aJ x k ?_ (oQ 21865514308 rfl a2) ?_
   ·split
    ·refine(List.getLast?_cons).symm▸?_;refine a1.symm▸?_;rfl
    ·exact a1
   ·refine(show(x-n-1).toNat=(x-(n+1)-1).toNat+1 by exact bo (B2 29271581598855975419875991951616 1 [1,-1] rfl (aA (oQ 366842440127922291 rfl a2)) (aA (oQ 1502586634564209000563 rfl a2))) (B2 29271581598855975419875990532496 1 [-1,1] rfl (aA (oQ 366842440127922291 rfl a2)) (aA (oQ 1502586634564209000563 rfl a2)))).symm▸?_;exact a3
  |none=>
   have z:=h1 q;refine z.symm▸(⟨fun h=>?_,fun v h=>?_⟩)
   ·split
    ·rename_i c;rw[aB c]at h;exact sN h
    ·rfl
   ·split at h
    ·rename_i c;have q_:=bf h;clear h;subst q_;subst c;exact aJ (n+1) r.2.1 (by refine(aB rfl).symm▸?_;rfl) (rX 1526084 rfl) (by refine(show(n+1-n-1).toNat=0 by exact bo (cm 1675748752958490368 rfl (aA (rX 25569896743027 rfl))) (bX 112 rfl)).symm▸?_;rfl)
    ·exact nS h
theorem gN(b:aD)(i j k:Nat):(aL b i j)[k]?=if k<j-i then b[i+k]? else none:=by unfold aL;rw[List.getElem?_take,List.getElem?_drop]
theorem wV(h:∀k,i≤k→k<j→b[k]?=c[k]?):aL b i j=aL c i j:=by
 refine List.ext_getElem? fun k=>?_;rw[gN,gN];by_cases q:k<j-i
 ·rw[aB q,aB q];exact h _ (by exact Nat.le_add_right _ _) (by exact(Nat.le_total (i) (j)).elim (fun a0=>m8 881336148755089 rfl q (aG (ar 1048832 rfl a0))) (fun a0=>jl 7774160487057 0 [1,1] rfl q (Nat.sub_eq_zero_of_le (ar 1048832 rfl a0))))
 ·rw[aH q,aH q]
theorem Dh(b:aD)(i j x y:Nat)(h:i+y≤j):aL (aL b i j) x y=aL b (i+x) (i+y):=by
 refine List.ext_getElem? fun k=>?_;rw[gN,gN,gN];by_cases q:k<y-x
 ·rw[aB q,aB (by exact(Nat.le_total (x) (y)).elim (fun a0=>@mN [_,_,_,_,_,_,_] [] 7449948573327173819192601985904529 1 [1,1,-1,1] rfl h q (aG (bG 554238464 rfl h)) (aG (ar 1048832 rfl a0))) (fun a0=>jl 7774160487057 0 [1,1] rfl q (Nat.sub_eq_zero_of_le (ar 1048832 rfl a0)))),aB (by exact(Nat.le_total (i+x) (i+y)).elim (fun a0=>@lj [_,_,_,_,_,_] [] 29496699832020861160650707457 1 [1,-1,1] rfl q (aG (bG 9166667129622672 rfl a0)) (aG (m7 54503555015456 rfl (aG (bG 9166667129622672 rfl a0))))) (fun a0=>eR 30367814145 rfl q (Nat.sub_eq_zero_of_le (bG 139872240144 rfl a0)))),Nat.add_assoc]
 ·rw[aH q,aH (by exact(Nat.le_total (x) (y)).elim (fun a0=>fun e=>@mN [_,_,_,_,_,_] [] 393037754873998563065110532218 0 [1,1,-1,1] rfl q e (aG (ar 1048832 rfl a0)) (aG (m7 36323112588176 rfl (aG (ar 1048832 rfl a0))))) (fun a0=>fun e=>iA 118624282 0 [1,1] rfl e (Nat.sub_eq_zero_of_le (bG 68738941584 rfl a0))))]
theorem tH(b:aD)(i j:Nat):(aL b i j).length=min (j-i) (b.length-i):=by unfold aL;rw[List.length_take,List.length_drop]
theorem tI(b o:aD)(x k:Nat):(dh b x o)[k]?=if k<x then(if k<b.length then b[k]? else some 0)else if k<x+o.length then o[k-x]? else b[k]?:=by
 unfold dh;generalize q:Nat.blt b.length x=y_;induction y_ with
 |true=>
  rw[Nat.blt_eq]at q;refine(?_:(b++List.replicate (x-b.length) 0++o)[k]?=_);rw[bC,List.getElem?_append];by_cases h1:k<b.length
  ·rw[aB h1,aB (by exact eR 554701089 rfl q h1),aB h1]
  ·rw[aH h1,List.getElem?_append,List.length_replicate];by_cases h2:k<x
   ·rw[aB (by exact@lj [_,_,_,_,_] [] 356221786151259819809 1 [1,1,-1] rfl h2 (aG (ar 1077264 rfl h1)) (aG (ar 1052928 rfl q))),aB h2,aH h1,List.getElem?_replicate,aB (by exact@lj [_,_,_,_,_] [] 356221786151259819809 1 [1,1,-1] rfl h2 (aG (ar 1077264 rfl h1)) (aG (ar 1052928 rfl q)))]
   ·rw[aH (by exact fun e=>@mN [_,_,_,_,_] [] 6183775641790218047610 0 [1,1,-1,1] rfl h2 e (aG (ar 1077264 rfl h1)) (aG (ar 1052928 rfl q))),aH h2];by_cases h3:k<x+o.length
    ·rw[aB h3];congr 1;exact(Nat.le_total (x-b.length) (k-b.length)).elim (fun a0=>bo (@mN [_,_,_,_,_,_,_] [] 30970175551342121285855937741529856 1 [1,-1,-1,1] rfl (aG (ar 1048832 rfl a0)) (aG (ar 1077264 rfl h2)) (aG (ar 1052928 rfl q)) (aG (ar 1077264 rfl h1))) (@mN [_,_,_,_,_,_,_] [] 30970175551342121285855937741529136 1 [-1,1,1,-1] rfl (aG (ar 1048832 rfl a0)) (aG (ar 1077264 rfl h2)) (aG (ar 1052928 rfl q)) (aG (ar 1077264 rfl h1)))) (fun a0=>bo (ar 7348480 rfl (Nat.sub_eq_zero_of_le (ar 1048832 rfl a0))) (@mN [_,_,_,_,_,_,_] [] 4273855378612669542387863809824 1 [1,1,-1,1] rfl a0 (aG (ar 1077264 rfl h2)) (aG (ar 1077264 rfl h1)) (aG (ar 1052928 rfl q))))
    ·rw[aH h3,List.getElem?_eq_none (by exact@mN [_,_,_,_,_,_,_] [] 7451216193194242139569516127407904 1 [1,1,-1,1] rfl h3 (zs _ _) (aG (ar 1077264 rfl h1)) (aG (ar 1052928 rfl q))),List.getElem?_eq_none (by exact ar 1077264 rfl h1)]
 |false=>
  have q:¬b.length<x:=fun z=>by rw[←Nat.blt_eq,q]at z;exact fT z
  refine(?_:(b.take x++o++b.drop (x+o.length))[k]?=_);have lt:(b.take x).length=x:=by rw[List.length_take];exact bo (ar 1057024 rfl (cq (ar 1077264 rfl q))) (eQ 1056784 1 [-1] rfl (cq (ar 1077264 rfl q)))
  rw[bC,List.getElem?_append,lt];by_cases h2:k<x
  ·rw[aB h2,aB h2,aB (by exact eR 4849692705 rfl q h2),List.getElem?_take,aB h2]
  ·rw[aH h2,aH h2,List.getElem?_append];by_cases h3:k<x+o.length
   ·rw[aB (by exact m8 21518349242929 rfl h3 (aG (ar 1077264 rfl h2))),aB h3]
   ·rw[aH (by exact fun e=>gn 344293992665210 0 [1,1,-1] rfl h3 e (aG (bG 563114000 rfl h3))),aH h3,List.getElem?_drop];congr 1;exact(Nat.le_total (o.length) (k-x)).elim (fun a0=>bo (@yR [_,_,_,_,_] [] 23374988691115341855120 rfl (aG (ar 1048832 rfl a0)) (aG (bG 563114000 rfl h3))) (@oP [_,_,_,_,_] [] 23374988691114036925680 1 [-1,-1] rfl (aG (ar 1048832 rfl a0)) (aG (bG 563114000 rfl h3)))) (fun a0=>bo (m8 518513811342367120 rfl h3 (Nat.sub_eq_zero_of_le (ar 1048832 rfl a0))) (@oP [_,_,_,_,_] [] 3605449261897128240 1 [1,-1] rfl a0 (aG (bG 563114000 rfl h3))))
theorem kR(b o:aD)(x:Nat):(dh b x o).length=max b.length (x+o.length):=by
 unfold dh;generalize q:Nat.blt b.length x=y_;induction y_ with
 |true=>rw[Nat.blt_eq]at q;refine(?_:(b++List.replicate (x-b.length) 0++o).length=_);rw[bR,bR,List.length_replicate];exact bo (@oP [_,_,_,_,_] [] 23364180052009215334800 1 [1,-1] rfl (aG (ar 1052928 rfl q)) (Nat.max_eq_right (m7 141887219984 rfl (aG (ar 1052928 rfl q))))) (@oP [_,_,_,_,_] [] 23364180052009652689200 1 [-1,1] rfl (aG (ar 1052928 rfl q)) (Nat.max_eq_right (m7 141887219984 rfl (aG (ar 1052928 rfl q)))))
 |false=>
  have q:¬b.length<x:=fun z=>by rw[←Nat.blt_eq,q]at z;exact fT z
  refine(?_:(b.take x++o++b.drop (x+o.length)).length=_);rw[bR,bR,List.length_take,List.length_drop];exact(Nat.le_total (x+o.length) (b.length)).elim (fun a0=>bo (@lj [_,_,_,_,_,_] [] 24564338218314860038566644112 1 [1,1,-1] rfl (cq (bG 554238464 rfl a0)) (aG (bG 141885051024 rfl a0)) (Nat.max_eq_left (m7 55083108868496 rfl (aG (bG 141885051024 rfl a0))))) (@lj [_,_,_,_,_,_] [] 24564338218314860037558343152 1 [-1,-1,1] rfl (cq (bG 554238464 rfl a0)) (aG (bG 141885051024 rfl a0)) (Nat.max_eq_left (m7 55083108868496 rfl (aG (bG 141885051024 rfl a0)))))) (fun a0=>bo (@lj [_,_,_,_,_] [] 5976507610176386375813520 1 [1,1,-1] rfl (cq (ar 1077264 rfl q)) (Nat.sub_eq_zero_of_le (bG 144149977344 rfl a0)) (Nat.max_eq_right (bG 144149977344 rfl a0))) (@oP [_,_,_,_,_] [] 3571953748260460832 1 [-1,1] rfl (cq (ar 1077264 rfl q)) (Nat.max_eq_right (bG 144149977344 rfl a0))))
theorem Bg(b:aD)(n k:Nat)(h:k<b.length):(fZ b n)[k]?=if k<n then b[k]? else none:=by
 unfold fZ;generalize q:Nat.blt b.length n=y_;induction y_ with
 |true=>rw[Nat.blt_eq]at q;refine(?_:(b++List.replicate (n-b.length) 0)[k]?=_);rw[List.getElem?_append,aB h,aB (by exact eR 8876200449 rfl h q)]
 |false=>exact List.getElem?_take
theorem oz(b:aD)(n:Nat):(fZ b n).length=n:=by
 unfold fZ;generalize q:Nat.blt b.length n=y_;induction y_ with
 |true=>rw[Nat.blt_eq]at q;refine(?_:(b++List.replicate (n-b.length) 0).length=_);rw[bR,List.length_replicate];exact bo (bG 141887144336 rfl (aG (ar 1052928 rfl q))) (tX 141887019296 1 [-1] rfl (aG (ar 1052928 rfl q)))
 |false=>
  have q:¬b.length<n:=fun z=>by rw[←Nat.blt_eq,q]at z;exact fT z
  refine(?_:(b.take n).length=_);rw[List.length_take];exact bo (ar 1057024 rfl (cq (ar 1077264 rfl q))) (eQ 1056784 1 [-1] rfl (cq (ar 1077264 rfl q)))
noncomputable abbrev rT(e:aD)(i:Nat):aD:=aL e (8*i) (8*i+8)
theorem oA(h:rT e i=pg v):8*i+8≤e.length:=by
 have t:min (8*i+8-8*i) (e.length-8*i)=8:=(tH e _ _).symm.trans (av List.length h);have q:8≤e.length-8*i:=by have:=Nat.min_le_right (8*i+8-8*i) (e.length-8*i);rwa[t]at this
 exact aX (Nat.add_le_add_left q _) (Nat.le_of_eq (Nat.add_sub_of_le (Nat.le_of_lt (Nat.lt_of_sub_pos (Nat.lt_of_lt_of_le (Nat.succ_pos 7) q)))))
theorem Di(e:aD)(i:Nat)(v:Int):rT (dh e (8*i) (pg v)) i=pg v:=by
 refine List.ext_getElem? fun k=>?_;rw[gN,tI];have e8:(pg v).length=8:=rfl;by_cases q:k<8*i+8-8*i
 ·rw[aB q,aH (by exact fun e=>eQ 592974489882 0 [1] rfl e),aB (by exact gn 46002641997289196603626975912233333197457 1 [-1,1,1] rfl e8 q (aG (bX 148436394444960 rfl)))];congr 1;exact bo (bG 2380338291565732352 rfl (aG (fo 1101836322976 rfl))) (tX 2380338291565731872 1 [-1] rfl (aG (fo 1101836322976 rfl)))
 ·rw[aH q,List.getElem?_eq_none (by exact gn 41839159164091321695557656832 1 [1,1,-1] rfl e8 q (aG (bX 148436394444960 rfl)))]
theorem jZ(h:i≠j)(hi:8*i+8≤e.length):rT (dh e (8*j) (pg v)) i=rT e i:=by
 have e8:(pg v).length=8:=rfl;refine wV fun k h1 h2=>?_;rw[tI];by_cases q:k<8*j
 ·rw[aB q,aB (by exact eR 10200471363999959439966497 rfl hi h2)]
 ·rw[aH q,aH (fun z:k<8*j+(pg v).length=>h (bo (HN h1 (Nat.lt_of_lt_of_le z (Nat.le_of_eq (av (8*j+·) e8)))) (HN (Nat.le_of_not_lt q) h2)))]
theorem wW(h:i<n)(hi:8*i+8≤e.length):rT (fZ e (8*n)) i=rT e i:=wV fun k h1 h2=>by rw[Bg e _ k (by exact eR 10200471363999959439966497 rfl hi h2),aB (by exact fe 2490349454099305499169 1 [8,1] rfl h h2)]
theorem G8(h:All W bs)(hk:bs[i]?=some k)(hy:y≤W):aL bs.flatten (W*i+x) (W*i+y)=aL k x y:=by have:=oj h i;rw[hk]at this;rw[←Dh bs.flatten (W*i) (W*i+W) x y (bG 68738941584 rfl hy),this];rfl
theorem Dj:aL (mY s0 s1 p k (pg v) u) 24 32=pg v:=by rw[ou];have:=l4 (a:=en [p,k,s0,s1,(fX p k (pg v) u).1,(fX p k (pg v) u).2]) (b:=pg v) (i:=0) (j:=8) (n:=24) (by rw[da];rfl);have e:=jd (a:=pg v) (b:=[]) (rH v);rw[List.append_nil]at e;exact this.trans e
theorem Bj:∀{R:List Rec} {u:Int×Int} {i:Nat} {r:Rec},R[i]?=some r→∃u',(o7 s0 s1 R u)[i]?=some (mY s0 s1 r.1 r.2.1 (pg r.2.2) u')
 |[],_,_,_,h=>by exact nS h
 |q::R,u,0,r,h=>by have q_:=bf h;clear h;subst q_;exact⟨u,rfl⟩
 |q::R,u,i+1,r,h=>Bj (R:=R) (i:=i) h
theorem qi(p:Int)(fr:List Int):aV (newOf fr) p=(posOf p 0 fr).getLast?:=by
 have key:∀l:List Int,aV (newOf l.reverse) p=(posOf p 0 l.reverse).getLast?:=fun l=>by
  induction l with
  |nil=>rfl
  |cons q l ih=>
   rw[List.reverse_cons,og];have:=kL q l.reverse [] 0;rw[show newOf (l.reverse++[q])=newFrom [] 0 (l.reverse++[q]) from rfl,this,dm,show newFrom [] 0 l.reverse=newOf l.reverse from rfl,ih];by_cases h:p=q
   ·clear this;subst h;rw[aB rfl,aB rfl];simp
   ·rw[aH h,aH (Ne.symm h),List.append_nil]
 have:=key fr.reverse;rwa[List.reverse_reverse]at this
theorem vA:p∈aj (newOf fr)↔posOf p 0 fr≠[]:=by
 rw[dN,qi];cases posOf p 0 fr with
 |nil=>simp
 |cons x l=>simp[List.getLast?_cons]
structure Flat(e:aD)(ps:List Int):Prop where
 l:e.length=8*ps.length
 p:∀i,i<ps.length→rT e i=pg (ps.getD i 0)
def kS(R:List Rec)(e:aD)(ps:List Int):Prop:=∀i:Nat,i<ps.length→lv R (i+1)=some (ps.getD i 0)∨(lv R (i+1)=none∧rT e i=pg (ps.getD i 0))
structure Lg(bs:List (aD))(t:Nat)(nu s0 s1:Int)(R:List Rec)(tail:List (aD)):Prop where
 e:bs=eJ nu s0 s1::(o7 s0 s1 R (cx nu s0 s1)++tail)
 nu:0≤nu∧nu≤t
 s0:23063≤s0∧s0≤23063+t
 s1:Wd s1
 R:∀r∈R,Ly r
 A:All 32 tail
structure fY(b e:aD)(ps:List Int)(t:Nat):Prop where
 v:∀i,i<ps.length→1≤ps.getD i 0∧ps.getD i 0≤200
 z:ps.length≤t
 ez:e.length≤8*t
 it:(b=[]∧Flat e ps)∨∃bs nu s0 s1 R X tail,b=bs.flatten∧bs.length≤1+t∧Lg bs t nu s0 s1 (R++X) tail∧Kq R ps.length∧(∀r∈X,r.2.1=0)∧(∀k,tail[0]?=some k→Old s0 k)∧kS R e ps∧(R=[]→Flat e ps)
structure Lv(I:Ix)(b e:aD)(ps:List Int)(t:Nat):Prop where
 d:fY b e ps t
 sp:I.sp=false
 nu:0≤I.nu∧I.nu≤t
 s0:23063≤I.s0∧I.s0≤23063+t
 s1:Wd I.s1
 pl:I.pl=rowsOf I.fr
 co:I.co.length≤t
 c0:aV I.co 0=none
 it:(I.la=0∧I.cp=0∧I.fr=[]∧I.co=[]∧Flat e ps∧(I.hl=true→b=[])∧∃bs,b=bs.flatten∧bs.length≤1+t∧All 32 bs∧∀k∈bs.drop 1,Old I.s0 k)∨∃bs R tail,b=bs.flatten∧bs.length≤1+t∧Lg bs t I.nu I.s0 I.s1 R tail∧R≠[]∧I.la=R.length∧I.fr=R.map (·.1)∧(I.u0,I.u1)=sm R (cx I.nu I.s0 I.s1)∧aV I.co I.la=some (ps.length:Int)∧Kq R ps.length∧(∀k∈tail,Old I.s0 k)∧kS R e ps∧I.hl=false∧(I.cp=0∨(I.cp=I.la∧Flat e ps))
theorem Lv.el{I:Ix}{b e:aD}{ps:List Int}{t:Nat}{T:Prop}(L:Lv I b e ps t)(h0:I.la=0→I.cp=0→I.fr=[]→I.co=[]→Flat e ps→(I.hl=true→b=[])→(∃bs,b=bs.flatten∧bs.length≤1+t∧All 32 bs∧∀k∈bs.drop 1,Old I.s0 k)→T)(h1:∀bs R tail,b=bs.flatten→bs.length≤1+t→Lg bs t I.nu I.s0 I.s1 R tail→R≠[]→I.la=R.length→I.fr=R.map (·.1)→(I.u0,I.u1)=sm R (cx I.nu I.s0 I.s1)→aV I.co I.la=some (ps.length:Int)→Kq R ps.length→(∀k∈tail,Old I.s0 k)→kS R e ps→I.hl=false→(I.cp=0∨(I.cp=I.la∧Flat e ps))→T):T:=by
 rcases L.it with⟨a1,a2,a3,a4,a5,a6,a7⟩|⟨bs,R,tail,a1,a2,a3,a4,a5,a6,a7,a8,a9,Qf,Qg,Qh,Qi⟩
 ·exact h0 a1 a2 a3 a4 a5 a6 a7
 ·exact h1 bs R tail a1 a2 a3 a4 a5 a6 a7 a8 a9 Qf Qg Qh Qi
theorem Lg.up{bs:List (aD)}{t t':Nat}{nu s0 s1:Int}{R:List Rec}{tail:List (aD)}(h:t≤t')(L:Lg bs t nu s0 s1 R tail):Lg bs t' nu s0 s1 R tail:=⟨L.e,⟨L.nu.1,by have:=L.nu.2;exact iw 980074634819 rfl h this⟩,⟨L.s0.1,by have:=L.s0.2;exact iw 71067254632594291498092366147 rfl h this⟩,L.s1,L.R,L.A⟩
theorem Lg.all{bs:List (aD)}{t:Nat}{nu s0 s1:Int}{R:List Rec}{tail:List (aD)}(L:Lg bs t nu s0 s1 R tail):All 32 bs:=fun k hk=>by
 rw[L.e]at hk;rcases bD.mp hk with rfl|hk
 ·exact fM _ _ _
 ·rcases cC.mp hk with hk|hk
  ·exact wQ k hk
  ·exact L.A k hk
theorem fY.up(h:t≤t')(D:fY b e ps t):fY b e ps t':=⟨D.v,aX D.z h,aX D.ez (Nat.mul_le_mul_left 8 h),D.it.imp id fun df=>by refine fN df fun bs nu s0 s1 t_=>br t_ fun R X tail e l g r=>?_;exact(b9 bs nu s0 s1 (aR R X tail e (aX l (Nat.add_le_add_left h 1)) (g.up h) r))⟩
theorem Lv.mono(h:t≤t')(L:Lv I b e ps t):Lv I b e ps t':=⟨L.d.up h,L.sp,⟨L.nu.1,by have:=L.nu.2;exact iw 980074634819 rfl h this⟩,⟨L.s0.1,by have:=L.s0.2;exact iw 71067254632594291498092366147 rfl h this⟩,L.s1,L.pl,aX L.co h,L.c0,L.it.imp (fun df=>by refine BQ df fun a b c d e f t_=>cg t_ fun bs g i j=>?_;exact Ek a b c d e f (bY bs g (aX i (Nat.add_le_add_left h 1)) j)) fun df=>by refine br df fun bs R tail e l g r=>?_;exact(aR bs R tail e (aX l (Nat.add_le_add_left h 1)) (g.up h) r)⟩
theorem tJ:Flat [] []:=⟨rfl,fun i h=>absurd h (Nat.not_lt_zero i)⟩
theorem Bk:Lv (.zero true false) [] [] [] 0:=⟨⟨fun i h=>absurd h (Nat.not_lt_zero i),bF _,bF _,.inl ⟨rfl,tJ⟩⟩,ff,⟨Int.le_refl _,Int.le_refl _⟩,⟨Int.le_refl _,Int.le_refl _⟩,⟨by decide,by decide⟩,rfl,bF _,rfl,.inl (j5 rfl rfl rfl rfl tJ (fun a_=>rfl) [] rfl (Nat.zero_le _) (fun a_ h=>(nomatch h)) (fun a_ h=>(nomatch h)))⟩
theorem fY.bl{b e:aD}(h:t≤30)(D:fY b e ps t):b.length≤1000:=by
 rcases D.it with⟨rfl,_⟩|⟨bs,nu,s0,s1,R,X,tail,rfl,l,g,_⟩
 ·exact Nat.zero_le _
 ·rw[fh g.all];exact iA 1780629484934124298903712 1 [32,32] rfl h l
theorem fY.el{b e:aD}(h:t≤30)(D:fY b e ps t):e.length≤1000:=aX D.ez (fm 2172987088700442784 1 [8] rfl h)
theorem Flat.Ec(h:Flat e ps):kS [] e ps:=fun i hi=>.inr ⟨rfl,h.p i hi⟩
theorem Bl:∀{A:List Rc} {I:Ix},aV I.co 0=none→aV (I.steps A).co 0=none:=by
 intro X_;induction X_ with
 |nil=>intro _ h;exact h
 |cons r A cD=>
  intro I h;refine cD ?_;unfold Ix.step;cases decide (r.2.1>0)with
  |true=>refine(?_:aV (dput I.co ((I.fr++[r.1]).length:Int) r.2.1) 0=none);rw[dm,aH (by rw[bR];refine(?_:¬(0:Int)=((I.fr.length+1:Nat):Int));exact fun e=>fm 6184372058 0 [-1] rfl e)];exact h
  |false=>exact h
theorem tK(p:Int)(fr:List Int):frameOf (rowsOf fr) p fr.length=(posOf p 0 fr).getLast?.getD 0:=by
 unfold frameOf;rw[jV];by_cases h:posOf p 0 fr=[]
 ·rw[aB h,h];rfl
 ·rw[aH h];show(if _ then _ else _)=_;rw[aB (List.all_eq_true.mpr fun x hx=>decide_eq_true (by have:=(jb hx).2.1;exact cm 964107112003 rfl this))]
theorem rI(p:Int)(fr:List Int):frameOf (rowsOf fr) p 0=0:=by
 unfold frameOf;rw[jV];by_cases h:posOf p 0 fr=[]
 ·rw[aB h]
 ·rw[aH h];show(if _ then _ else _)=_;rw[aH];intro z;obtain⟨x,hx⟩:=List.exists_mem_of_ne_nil _ h;have h1:=cX (List.all_eq_true.mp z x hx);have h2:=(jb hx).1;exact yS 17301533754 0 [1,1] rfl h1 h2
theorem Lg.val{bs:List (aD)}{t:Nat}{nu s0 s1:Int}{R:List Rec}{tail:List (aD)}(L:Lg bs t nu s0 s1 R tail){i:Nat}{p k v:Int}(h:R[i]?=some (p,k,v)):aL bs.flatten (32*(i+1)+24) (32*(i+1)+32)=pg v:=by
 obtain⟨u,hu⟩:=Bj (s0:=s0) (s1:=s1) (u:=cx nu s0 s1) h;have hb:bs[i+1]?=some (mY s0 s1 p k (pg v) u):=by rw[L.e,List.getElem?_cons_succ,List.getElem?_append_left (dX.mp hu).1];exact hu
 rw[G8 L.all hb (bF _)];exact Dj
section
variable{w:World}
theorem G9(ht:t≤30)(D:fY b e ps t)(n:Int):∃b' J,mC w n none b b' J∧Lv J b' e ps t:=by
 rcases D.it with⟨rfl,hF⟩|⟨bs,nu,s0,s1,R,X,tail,rfl,hl,g,hC,hX,hT,hS,hF⟩
 ·refine cL [] (.zero true false) (tv n none (.zero true false)) ⟨⟨D.v,D.z,D.ez,.inl ⟨rfl,hF⟩⟩,ff,⟨Int.le_refl _,by refine(?_:(0:Int)≤t);exact c7 _⟩,⟨Int.le_refl _,by refine(?_:(23063:Int)≤23063+t);exact bX 1034164664950420611 rfl⟩,⟨by decide,by decide⟩,rfl,Nat.zero_le _,rfl,.inl (j5 rfl rfl rfl rfl hF (fun a_=>rfl) [] rfl (Nat.zero_le _) (fun a_ h=>(nomatch h)) (fun a_ h=>(nomatch h)))⟩
 ·have w0:Wd s0:=⟨by have:=g.s0.1;exact aZ 76559746809971 rfl this,by have:=g.s0.2;exact oR 74519417593631367802631701582092356 rfl ht this⟩;have wn:Wd nu:=⟨g.nu.1,by have:=g.nu.2;exact oR 275870661017610234638669892 rfl ht this⟩;have hA:=g.all;have e0:bs[0]?=some (eJ nu s0 s1):=by rw[g.e];rfl
  have hh:aL bs.flatten 0 32=eJ nu s0 s1:=by have:=oj hA 0;rw[e0]at this;exact this
  have hd:bs.drop 1=o7 s0 s1 (R++X) (cx nu s0 s1)++tail:=by rw[g.e];rfl
  have M3:scan s0 s1 (bs.drop 1) (cx nu s0 s1).1 (cx nu s0 s1).2=qg (R++X) (cx nu s0 s1):=by rw[hd];exact Bf w0 g.s1 hT g.R
  obtain⟨F,Nf⟩:∃F,Ix.steps ⟨0,0,s0,s1,nu,(cx nu s0 s1).1,(cx nu s0 s1).2,false,false,[],[],[]⟩ (qg (R++X) (cx nu s0 s1))=F:=⟨_,rfl⟩;refine rU (yv hC hX F Nf) fun f1 f2 f3 f4 f5 f6=>?_;have ft:F.fr.take F.la.toNat=R.map (·.1):=by rw[f1,f2,Int.toNat_natCast,List.map_append];exact List.take_left' (bK _)
  have bt:bs.take (F.la.toNat+1)=eJ nu s0 s1::o7 s0 s1 R (cx nu s0 s1):=by rw[f1,Int.toNat_natCast,g.e,List.take_succ_cons,mZ,bC];congr 1;exact List.take_left' fG
  have gl:Lg (bs.take (F.la.toNat+1)) t nu s0 s1 R []:=⟨by rw[bt,List.append_nil],g.nu,g.s0,g.s1,fun r hr=>g.R r (List.mem_append_left _ hr),fun a_ h=>(nomatch h)⟩;have ll:(bs.take (F.la.toNat+1)).length≤1+t:=by rw[List.length_take];exact eR 9026410644601120 rfl hl (Nat.min_le_right _ _)
  refine cL ((bs.take (F.la.toNat+1)).flatten) ⟨F.la,0,s0,s1,nu,F.u0,F.u1,false,false,R.map (·.1),rowsOf (R.map (·.1)),F.co⟩ ?_ ?_
  ·exact AR (w:=w) n bs bs.flatten (eJ nu s0 s1) nu s0 s1 _ _ hA rfl (dC 434723995345245190160 rfl ht hl) e0 hh (fM _ _ _) (tG wn w0 g.s1) (oo nu s0 s1) F (by rw[M3];exact Nf) _ rfl _ ft
  ·have dd:fY (bs.take (F.la.toNat+1)).flatten e ps t:=⟨D.v,D.z,D.ez,.inr (b9 _ nu s0 s1 (aR R [] [] rfl ll (by rw[List.append_nil];exact gl) (ji hC (fun a_ h=>(nomatch h)) (fun a_ h=>(nomatch h)) hS hF)))⟩;refine⟨dd,ff,g.nu,g.s0,g.s1,rfl,?_,Nf▸Bl rfl,?_⟩
   ·have hb:=av List.length g.e;rw[cB,bR,fG]at hb;exact((@lj [_,_,_,_,_] [] 1761213915867237468602656 1 [1,1,-1] rfl hl f5 hb):F.co.length≤t)
   ·by_cases hR:R=[]
    ·left;have mc:F.la=0:=by rw[f1,hR];rfl
     refine j5 mc rfl (by refine(?_:R.map (·.1)=[]);rw[hR];rfl) (f6 hR) (hF hR) (fun h=>(nomatch h)) _ rfl ll gl.all (fun k hk=>?_);rw[bt,hR]at hk;exact(nomatch hk)
    ·right;exact aR _ R [] rfl ll gl (vG hR f1 rfl f3 (by refine(?_:aV F.co F.la=_);rw[f1];exact f4 hR) hC (fun a_ h=>(nomatch h)) hS ff (.inl rfl))
theorem rJ{I:Ix}{b e:aD}{ps:List Int}{t:Nat}(ht:t≤20)(L:Lv I b e ps t)(n:Int)(c:Option Int):∃m,(if I.cp=I.la then 0 else I.la)=m∧ps.length≤1000∧e.length≤50000∧(∀k:Nat,k<ps.length→(0≤ps.getD k 0∧ps.getD k 0<256)∧l9 w n c b e I m (1+k) (ps.getD k 0))∧(aV I.co m=some (ps.length:Int)∨(aV I.co m=none∧(e.length:Int)/8=ps.length)):=by
 have hz:=L.d.z;have BN:=L.d.el (aX ht (by decide));have BO:=L.d.bl (aX ht (by decide));have vv:∀k:Nat,k<ps.length→0≤ps.getD k 0∧ps.getD k 0<256:=fun k hk=>by have:=L.d.v k hk;exact⟨aZ 1098072179 rfl this.1,aZ 3521203989919812 rfl this.2⟩
 have hn:(aj I.pl).Nodup:=by rw[L.pl];exact(yl.of _).1
 have row:∀{p:Int} {xs:List Int},aV I.pl p=some xs→xs=posOf p 0 I.fr∧xs≠[]∧xs.length≤I.fr.length:=fun h=>by rw[L.pl]at h;exact mX h
 have Lz:∀k:Nat,(8*(1+(k:Int)-1)).toNat=8*k∧(8*(1+(k:Int)-1)+8).toNat=8*k+8:=fun k=>by exact⟨bo (ar 109169532672459496524288 rfl (aA (bX 6489419029192819 rfl))) (eQ 109169532672459495508128 1 [-1] rfl (aA (bX 6489419029192819 rfl))),bo (ar 10702956473918910177881258240256 rfl (aA (bX 155748233826391462003 rfl))) (eQ 10702956473918910177847268117136 1 [-1] rfl (aA (bX 155748233826391462003 rfl)))⟩
 have o6:I.fr.length≤t:=by
  rcases L.it with⟨_,_,h,_⟩|⟨bs,R,tail,-,l,g,-,-,h,-⟩
  ·rw[h];exact Nat.zero_le _
  ·have hb:=av List.length g.e;rw[cB,bR,fG]at hb;rw[h,bK];exact jl 26745066333920035104 1 [1,-1] rfl l hb
 /-read from MS file,all-/
 have flat:(if I.cp=I.la then 0 else I.la)=0→Flat e ps→∃m,(if I.cp=I.la then 0 else I.la)=m∧ps.length≤1000∧e.length≤50000∧(∀k:Nat,k<ps.length→(0≤ps.getD k 0∧ps.getD k 0<256)∧l9 w n c b e I m (1+k) (ps.getD k 0))∧(aV I.co m=some (ps.length:Int)∨(aV I.co m=none∧(e.length:Int)/8=ps.length)):=fun hm hF=>by
  refine vK 0 hm (dC 72412186603436048 rfl ht hz) (aC 281536552638629888 rfl BN) (fun k hk=>⟨vv k hk,.inr ⟨D7 n c b b [] I (1+k) 0 (fun xs hx=>?_) hn (by rw[L.pl];exact rI _ _),?_⟩⟩) (.inr ⟨L.c0,by rw[hF.l];exact Int.le_antisymm (HZ 2562102483984338587219 8 [1,1] rfl (Int.emod_nonneg _ (by decide)) (Int.mul_ediv_add_emod _ _)) (HZ 2562102483985526706403 8 [1,-1] rfl (Int.emod_lt_of_pos _ (by decide)) (Int.mul_ediv_add_emod _ _))⟩)
  ·refine fc (row hx) fun e1 e2 e3=>?_;exact aN (m9 1360060084586218073905184 rfl ht o6 e3) e2 (.inr fun x hx=>by rw[e1]at hx;exact(jb hx).1)
  ·rw[(Lz k).1,(Lz k).2];exact hF.p k hk
 refine L.el (fun h1 h2 _ _ hF _ _=>?_) (fun bs R tail eb l g hR mc hf hu hc hC hT hS hh h5=>?_)
 rotate_left;rcases h5 with h5|⟨h5,hF⟩
 rotate_left 2
 ·exact flat (aB (h2.trans h1.symm)) hF
 ·have fE:0<R.length:=List.length_pos_iff.mpr hR;refine vK I.la (aH (by exact fun e=>LP 4994499754022986842 0 [-1,1,1,-1] rfl mc h5 fE e)) (dC 72412186603436048 rfl ht hz) (aC 281536552638629888 rfl BN) (fun k hk=>⟨vv k hk,?_⟩) (.inl hc);have hlen:(I.fr.length:Int)=I.la:=by rw[hf,bK,mc]
  have H:∀xs,aV I.pl (1+k)=some xs→xs.length≤100000∧xs≠[]∧((∀x∈xs,x≤I.la)∨∀x∈xs,I.la<x):=fun xs hx=>by refine fc (row hx) fun e1 e2 e3=>?_;exact aN (m9 1360060084586218073905184 rfl ht o6 e3) e2 (.inl fun x hx=>by rw[e1]at hx;have:=(jb hx).2.1;exact LV 3948987078825043 rfl hlen this)
  have Hn:frameOf I.pl (1+k) I.la=(posOf (1+k) 0 I.fr).getLast?.getD 0:=by rw[L.pl,←hlen];exact tK _ _
  have pk:(1:Int)+k=k+1:=Int.add_comm _ _;rcases hS k hk with h|⟨h,hp⟩
  ·refine ao ((oy (p:=(k:Int)+1) (R:=R) (n:=0)).2 _ h) fun x kk x1 x2 x3=>?_;rw[←hf,←pk]at x1;rw[x1]at Hn;have Ng:=g.val x3;left;refine J5 n c b b [] I (1+k) I.la x (pg (ps.getD k 0)) H hn Hn x2 (aC 4504584796342605824 rfl BO) ?_ (rH _);have QP:=(dX.mp x3).1;rw[show(32+(x-1)*32+24).toNat=32*((x-0-1).toNat+1)+24 by exact bo (fO 8615990359365012176290741794803993550631867433134336 1 [1,-32] rfl (aA (eM 19947390099985485912540287091 1 [32] rfl x2)) (aA (aZ 18142040765022323 rfl x2))) (fO 8615990359365012176290741794803993544257355765648016 1 [-1,32] rfl (aA (eM 19947390099985485912540287091 1 [32] rfl x2)) (aA (aZ 18142040765022323 rfl x2))),show(32+(x-1)*32+24+8).toNat=32*((x-0-1).toNat+1)+32 by exact bo (fO 35291096512113714538776794555045792599245437688174651648 1 [1,-32] rfl (aA (eM 81706655697826971414837778288755 1 [32] rfl x2)) (aA (aZ 18142040765022323 rfl x2))) (fO 35291096512113714538776794555045792599236952114181835408 1 [-1,32] rfl (aA (eM 81706655697826971414837778288755 1 [32] rfl x2)) (aA (aZ 18142040765022323 rfl x2))),eb];exact Ng
  ·have hz:=(oy (p:=(k:Int)+1) (R:=R) (n:=0)).1 h;rw[←hf,←pk]at hz;rw[hz]at Hn;right;refine⟨D7 n c b b [] I (1+k) I.la H hn Hn,?_⟩;rw[(Lz k).1,(Lz k).2];exact hp
 ·exact flat (aB h5) hF
end
structure Ed(I:Ix)(bs:List (aD))(t:Nat)(R:List Rec)(tail:List (aD)):Prop where
 g:Lg bs t I.nu I.s0 I.s1 R tail
 la:I.la=R.length
 fr:I.fr=R.map (·.1)
 u:(I.u0,I.u1)=sm R (cx I.nu I.s0 I.s1)
 pl:I.pl=rowsOf I.fr
 old:∀k∈tail,Old I.s0 k
 cp:I.cp=0
 hl:I.hl=false
 sp:I.sp=false
 co:I.co.length≤t
 c0:aV I.co 0=none
 z:bs.length≤1+t
theorem tL{A B:List (aD)}{k:aD}{j:Nat}(h:A.length=j):setB 32 (A++B) j k=A++k::B.drop 1:=by
 unfold setB;subst h;induction B using List.casesOn with
 |nil=>rw[aH (by rw[List.append_nil];exact fun e=>fm 26 0 [1] rfl e),List.append_nil,Nat.sub_self];simp
 |cons b B=>rw[aB (by rw[bR,cB];exact fo 387516673 rfl),List.set_append_right _ _ (bF _),Nat.sub_self];rfl
theorem Dk{N:List Rec}{r:Rec}(h:N[i]?=some r):sm (N.take (i+1)) u=fX r.1 r.2.1 (pg r.2.2) (sm (N.take i) u):=by rw[List.take_add_one,h,vt];rfl
theorem Bm{s0 s1:Int}{N:List Rec}{i:Nat}{r:Rec}{u:Int×Int}(h:N[i]?=some r):o7 s0 s1 (N.take (i+1)) u=o7 s0 s1 (N.take i) u++[mY s0 s1 r.1 r.2.1 (pg r.2.2) (sm (N.take i) u)]:=by rw[List.take_add_one,h,mZ];rfl
section
variable(I:Ix)(R N:List Rec)(tail:List (aD))
noncomputable def f7(i:Nat):List (aD):=eJ I.nu I.s0 I.s1::(o7 I.s0 I.s1 R (cx I.nu I.s0 I.s1)++o7 I.s0 I.s1 (N.take i) (I.u0,I.u1))
noncomputable def fj(i:Nat):List (aD):=f7 I R N i++tail.drop i
theorem rK{I:Ix}{R N:List Rec}(i:Nat):All 32 (f7 I R N i):=fun k hk=>by
 unfold f7 at hk;rcases bD.mp hk with rfl|hk
 ·exact fM _ _ _
 ·rcases cC.mp hk with hk|hk<;>exact wQ k hk
theorem wX{I:Ix}{R N:List Rec}{tail:List (aD)}(hA:All 32 tail)(i:Nat):All 32 (fj I R N tail i):=fun k hk=>by
 rcases cC.mp hk with hk|hk
 ·exact rK i k hk
 ·exact hA.drop i k hk
theorem kT{I:Ix}{R N:List Rec}{i:Nat}(hi:i≤N.length):(f7 I R N i).length=1+R.length+i:=by unfold f7;rw[cB,bR,fG,fG,List.length_take,cq hi];exact bo (fo 283096619485584 rfl) (fo 405760878147984 rfl)
theorem Dl{R N:List Rec}{tail:List (aD)}(i:Nat):(fj I R N tail i).length≤1+R.length+N.length+tail.length:=by unfold fj f7;rw[bR,cB,bR,fG,fG,List.length_take,List.length_drop];exact@yR [_,_,_,_,_] [] 247607365223624326133966674320 rfl (Nat.min_le_right _ _) (Nat.sub_le _ _)
theorem Dm{I:Ix}{R N:List Rec}{tail:List (aD)}{i:Nat}{p k v:Int}(h:N[i]?=some (p,k,v)):setB 32 (fj I R N tail i) (1+R.length+i) (mY I.s0 I.s1 p k (pg v) (sm (N.take i) (I.u0,I.u1)))=fj I R N tail (i+1):=by
 have hi:=(dX.mp h).1;unfold fj;rw[tL (kT (Nat.le_of_lt hi)),List.drop_drop];have e:f7 I R N (i+1)=f7 I R N i++[mY I.s0 I.s1 p k (pg v) (sm (N.take i) (I.u0,I.u1))]:=by unfold f7;rw[Bm h,List.cons_append,bC]
 rw[e,bC,List.singleton_append]
end
noncomputable def dQ(ns:List Int)(cnt:Int)(qs:List Int):List Rec:=ns.map fun p=>(p,if p=ns.getLast?.getD 0 then cnt else 0,qs.getD (p-1).toNat 0)
theorem wY{ns qs:List Int}{cnt:Int}{i:Nat}(h:i<ns.length):(dQ ns cnt qs)[i]?=some (ns.getD i 0,if ns.getD i 0=ns.getLast?.getD 0 then cnt else 0,qs.getD (ns.getD i 0-1).toNat 0):=by unfold dQ;rw[List.getElem?_map,cW,cn h];rfl
theorem kU(ns qs:List Int)(cnt:Int):(dQ ns cnt qs).length=ns.length:=bK _
noncomputable def Bn(I:Ix)(ns:List Int)(cnt:Int)(qs:List Int)(i:Nat):aD:=mY I.s0 I.s1 (ns.getD i 0) (if ns.getD i 0=ns.getLast?.getD 0 then cnt else 0) (pg (qs.getD (ns.getD i 0-1).toNat 0)) (sm ((dQ ns cnt qs).take i) (I.u0,I.u1))
noncomputable def ops(I:Ix)(ns:List Int)(cnt:Int)(qs:List Int)(i:Nat):List Op:=((List.range ns.length).map fun(j:Nat)=>Op.write (32+(I.la+j+1-1)*32) (Bn I ns cnt qs j)).take i
theorem tM{I:Ix}{ns qs:List Int}{cnt:Int}{i:Nat}(h:i<ns.length):ops I ns cnt qs i++[.write (32+(I.la+i+1-1)*32) (Bn I ns cnt qs i)]=ops I ns cnt qs (i+1):=by unfold ops;rw[List.take_add_one,List.getElem?_map,List.getElem?_range h];exact rfl
theorem jf{I:Ix}{ns qs:List Int}{cnt:Int}{i:Nat}:(Bn I ns cnt qs i).length=32:=rG (rH _)
theorem Kr{I:Ix}{R:List Rec}{tail:List (aD)}{ns qs:List Int}{cnt:Int}{i:Nat}(h:i<ns.length):setB 32 (fj I R (dQ ns cnt qs) tail i) (1+R.length+i) (Bn I ns cnt qs i)=fj I R (dQ ns cnt qs) tail (i+1):=by unfold Bn;exact Dm (wY h)
theorem wZ{I:Ix}{bs:List (aD)}(hA:All 32 bs){R:List Rec}(mc:I.la=R.length){i:Nat}{k:aD}(hk:k.length=32):dh bs.flatten (32+(I.la+i+1-1)*32).toNat k=(setB 32 bs (1+R.length+i) k).flatten:=by rw[show(32+(I.la+i+1-1)*32).toNat=32*(1+R.length+i) by exact bo (tY 2011470597561790327471818085319779487451664 1 [32,1] rfl mc (aA (B1 70661040959022515696614019187 1 [-32] rfl mc))) (tY 2011470597561790327471818085318811476107424 1 [-32,-1] rfl mc (aA (B1 70661040959022515696614019187 1 [-32] rfl mc)))];exact tu (by decide) hA _ hk
theorem G_{I:Ix}{bs:List (aD)}{t:Nat}{R:List Rec}{tail:List (aD)}(Y:Ed I bs t R tail)(N:List Rec):fj I R N tail 0=bs:=by rw[Y.g.e];unfold fj f7;rw[List.take_zero,List.drop_zero];refine(?_:eJ _ _ _::((o7 _ _ R _++[])++tail)=_);rw[List.append_nil]
theorem oB{I:Ix}{bs:List (aD)}{t:Nat}{R:List Rec}{tail:List (aD)}(Y:Ed I bs t R tail):bs.length=1+R.length+tail.length:=by rw[Y.g.e,cB,bR,fG];exact bo (fo 283096619485584 rfl) (fo 405760878147984 rfl)
theorem Ks{I:Ix}{bs:List (aD)}{t:Nat}{R:List Rec}{tail:List (aD)}(Y:Ed I bs t R tail)(ht:t≤30)(ns qs:List Int)(cnt:Int)(hn:ns.length≤64):
  Sq I ns cnt (fun p=>pg (qs.getD (p-1).toNat 0)) bs.flatten (fun i=>sm ((dQ ns cnt qs).take i) (I.u0,I.u1)) (Bn I ns cnt qs) (fun i=>(fj I R (dQ ns cnt qs) tail i).flatten) (ops I ns cnt qs)where
 u0:=by rw[List.take_zero];rfl
 b0:=by rw[G_ Y]
 o0:=List.take_zero
 f:=fun i a_=>rfl
 s:=fun i hi=>(Dk (wY hi)).symm
 b:=fun i hi=>(wZ (wX Y.g.A i) Y.la (k:=Bn I ns cnt qs i) jf).trans (av List.flatten (Kr hi))
 o:=fun i hi=>tM hi
 fl:=fun i=>by rw[jf];decide
 bl:=fun i=>by
  have h1:=Dl (I:=I) (R:=R) (N:=dQ ns cnt qs) (tail:=tail) i
  have h2:=kU ns qs cnt
  have h3:=oB Y
  have h4:=Y.z
  rw[fh (wX Y.g.A i)];exact@KN [_,_,_,_,_,_,_] [] 155267211996548126066639900308567326076998829530667281892463747232 1 [32,32,32,32,-32,32] rfl ht hn h1 h2 h3 h4
 ol:=fun i=>by unfold ops;rw[List.length_take,bK,List.length_range];exact dC 73186242789390352 rfl hn (Nat.min_le_right _ _)
theorem Sv.snoc_inv{sy:aD}{l l':List Op}{o:Op}{b:aD}(h:Sv sy l' b)(e:l'=l++[o]):Sv sy l b∨∃b0,Sv sy l b0∧b=Op.app o b0:=by
 induction h using Sv.casesOn with
 |nil=>simp at e
 |no h=>obtain⟨e1,e2⟩:=List.append_inj' e rfl;rw[←e1];exact .inl h
 |yes h=>obtain⟨e1,e2⟩:=List.append_inj' e rfl;cases e2;rw[←e1];exact .inr (ah _ h rfl)
theorem Sv.nil_inv{sy:aD}{l:List Op}{b:aD}(h:Sv sy l b)(e:l=[]):b=sy:=by
 induction h using Sv.casesOn with
 |nil=>rfl
 |no h=>simp at e
 |yes h=>simp at e
theorem kW{sy:aD}(h:sy.length≤50000):dj sy []:=⟨Nat.zero_le _,fun k o h=>(nomatch h),fun k b hb=>by rw[hb.nil_inv (by simp)];exact h⟩
theorem fW{sy:aD}(h:sy.length≤1000):dj sy []:=kW (aX h (by decide))
theorem Bo{A B:List (aD)}{k:aD}{a d:Nat}(h:A.length=a):setB 32 (A++B) (a+d) k=A++setB 32 B d k:=by
 subst h;unfold setB;by_cases q:d<B.length
 ·rw[aB (by rw[bR];exact bG 69007377041 rfl q),aB q,List.set_append_right _ _ (Nat.le_add_right _ _),Nat.add_sub_cancel_left]
 ·rw[aH (by rw[bR];exact fun e=>fe 1275648348282 0 [1,1] rfl q e),aH q,bR,show A.length+d-(A.length+B.length)=d-B.length by exact bo (@oP [_,_,_,_,_] [] 14849134455434058551040 1 [1,-1] rfl (aG (bG 70601216656 rfl q:A.length+B.length≤A.length+d)) (aG (m7 54503555015456 rfl (aG (bG 70601216656 rfl q:A.length+B.length≤A.length+d)):B.length≤d))) (@oP [_,_,_,_,_] [] 14849134455434058532080 1 [-1,1] rfl (aG (bG 70601216656 rfl q:A.length+B.length≤A.length+d)) (aG (m7 54503555015456 rfl (aG (bG 70601216656 rfl q:A.length+B.length≤A.length+d)):B.length≤d))),bC,bC,bC]
theorem yw{B:List (aD)}{k q:aD}{d:Nat}(hd:1≤d)(h:(setB 32 B d k)[0]?=some q):B[0]?=some q∨q=List.replicate 32 0:=by
 unfold setB at h;split at h
 ·rw[List.getElem?_set_ne (Nat.ne_of_gt hd)]at h;exact .inl h
 ·rename_i hn;induction B using List.casesOn with
  |cons b B=>exact .inl h
  |nil=>obtain⟨d',rfl⟩:∃d',d=d'+1:=⟨d-1,by exact bo (eQ 19175184992528 1 [-1] rfl (aG (aC 24117616 rfl hd))) (ar 19175184625808 rfl (aG (aC 24117616 rfl hd)))⟩;right;have h:some (List.replicate 32 (0:UInt8))=some q:=h;exact(bf h).symm
theorem Bq{B:List (aD)}{k:aD}{d:Nat}:(setB 32 B d k).length=max B.length (d+1):=by
 unfold setB;split
 ·rw[List.length_set];exact bo (eQ 1056784 1 [-1] rfl (Nat.max_eq_left (ar 4312887440 rfl (by assumption)))) (ar 1057024 rfl (Nat.max_eq_left (ar 4312887440 rfl (by assumption))))
 ·rw[bR,bR,List.length_replicate];refine(?_:_+1=_);exact bo (jl 6835897361965398366608 1 [1,-1] rfl (aG (ar 1077264 rfl (by assumption))) (Nat.max_eq_right (bG 2270193723664 rfl (aG (ar 1077264 rfl (by assumption)))))) (jl 6835897361964954917168 1 [-1,1] rfl (aG (ar 1077264 rfl (by assumption))) (Nat.max_eq_right (bG 2270193723664 rfl (aG (ar 1077264 rfl (by assumption))))))
theorem Br{I:Ix}{bs:List (aD)}{t:Nat}{R:List Rec}{tail:List (aD)}(Y:Ed I bs t R tail)(ns qs:List Int)(cnt:Int):∀i,i≤ns.length→∀b,Sv bs.flatten (ops I ns cnt qs i) b→∃j tl,j≤i∧b=(f7 I R (dQ ns cnt qs) j++tl).flatten∧All 32 tl∧(∀k,tl[0]?=some k→Old I.s0 k)∧(j=i→tl=tail.drop i)∧1+R.length+j+tl.length≤max bs.length (1+R.length+i):=by
 have hold:∀i k,(tail.drop i)[0]?=some k→Old I.s0 k:=fun i k h=>Y.old k (List.mem_of_mem_drop (List.mem_of_getElem? h));have hl:=oB Y;have hN:=kU ns qs cnt;intro i;induction i with
 |zero=>intro _ b h;refine fk 0 (tail.drop 0) (bF _) ?_ (Y.g.A.drop 0) (hold 0) (fun a_=>rfl) (by rw[List.drop_zero];exact jl 3787660273450606002674064 1 [-1,-1] rfl hl (Nat.max_eq_left (tX 38152684185477806480 1 [-1] rfl hl)));rw[h.nil_inv List.take_zero];exact av List.flatten (G_ Y (dQ ns cnt qs)).symm
 |succ i ih=>
  intro hi b h;have BI:i<ns.length:=hi;rcases h.snoc_inv (tM BI).symm with h0|⟨b0,h0,eb⟩
  ·refine jE (ih (Nat.le_of_lt BI) b h0) fun j tl h1 h2 h3 h4 h5 h6=>?_;exact fk j tl (Nat.le_succ_of_le h1) h2 h3 h4 (fun z=>absurd z (by exact fun e=>iA 99203813386 0 [1,-1] rfl h1 e)) (by exact(Nat.le_total (bs.length) (1+R.length+(i+1))).elim (fun a0=>(Nat.le_total (bs.length) (1+R.length+i)).elim (fun a1=>@lj [_,_,_,_,_,_] [] 2221617211908284575020181897549507958682446011537808 1 [1,-1,1] rfl h6 (Nat.max_eq_right (bG 9767087117859160561920 rfl a1)) (Nat.max_eq_right (bG 2384542753550211328 rfl a1))) (fun a1=>@mN [_,_,_,_,_,_,_] [] 7953908355918260324652017851671028103365790972163838216477072 1 [1,1,-1,1] rfl h6 a0 (Nat.max_eq_right (bG 27999233231086246342138112 rfl a0)) (Nat.max_eq_left (bG 2378315738164328848 rfl a1)))) (fun a0=>@lj [_,_,_,_,_,_] [] 494289873208214108219157110614104464 1 [1,-1,1] rfl h6 (Nat.max_eq_left (bG 40430837491386279385987472 rfl a0)) (Nat.max_eq_left (bG 9870809934420471019920 rfl a0))))
  ·refine jE (ih (Nat.le_of_lt BI) b0 h0) fun j tl h1 h2 h3 h4 h5 h6=>?_;have jk:(f7 I R (dQ ns cnt qs) j).length=1+R.length+j:=kT (by exact gn 157645170698887216 1 [-1,1,1] rfl hN hi h1)
   have mL:All 32 (f7 I R (dQ ns cnt qs) j++tl):=fun k hk=>by
    rcases cC.mp hk with hk|hk
    ·exact rK j k hk
    ·exact h3 k hk
   have eb:b=(setB 32 (f7 I R (dQ ns cnt qs) j++tl) (1+R.length+i) (Bn I ns cnt qs i)).flatten:=by rw[eb,h2];exact wZ mL Y.la jf
   by_cases e:j=i
   ·clear h h0 h1 h6 hi ih;subst e;have h5:=h5 rfl;clear h2 h3 h4 mL;subst h5;refine fk (j+1) (tail.drop (j+1)) (bF _) (eb.trans (av List.flatten (Kr BI))) (Y.g.A.drop _) (hold _) (fun a_=>rfl) ?_;rw[List.length_drop];exact(Nat.le_total (j+1) (tail.length)).elim (fun a0=>@lj [_,_,_,_,_,_] [] 517954234338811373843784159797315341097360 1 [-1,1,-1] rfl hl (aG (ar 19175151071376 rfl a0)) (Nat.max_eq_left (@oP [_,_,_,_,_] [] 10857393833748157355367464734652816 1 [-1,1] rfl hl (aG (ar 19175151071376 rfl a0))))) (fun a0=>jl 471021786117991280318276466874768 1 [1,-1] rfl (Nat.sub_eq_zero_of_le (ar 25396143134976 rfl a0)) (Nat.max_eq_right (m8 114995451580469909404228491520 rfl hl a0)))
   ·have hd:1+R.length+i=(1+R.length+j)+(i-j):=by exact bo (Er 156006425848343799363984 1 [-1] rfl (aG (ar 1048832 rfl h1))) (m7 156006578515492528953744 rfl (aG (ar 1048832 rfl h1)))
    rw[hd,Bo jk]at eb;refine fk j (setB 32 tl (i-j) (Bn I ns cnt qs i)) (by exact bG 2270193723664 rfl (aG (Er 922443488046091936032 1 [-1] rfl hd))) eb (h3.set _ jf) (fun k hk=>?_) (fun z=>absurd z (by exact fun e=>fe 17768840794154 0 [-1,1] rfl e (aG (Er 922443488046091936032 1 [-1] rfl hd)))) (by rw[Bq];exact(Nat.le_total (tl.length) (i-j+1)).elim (fun a0=>@lj [_,_,_,_,_,_] [] 9107834141492685737149581082087141496897713817351854480 1 [-1,1,1] rfl hd (Nat.max_eq_right (ar 25396143134976 rfl a0)) (Nat.le_max_right _ _)) (fun a0=>(Nat.le_total (bs.length) (1+R.length+(i+1))).elim (fun a1=>(Nat.le_total (bs.length) (1+R.length+i)).elim (fun a2=>@mN [_,_,_,_,_,_,_] [] 2721853348055631255021302814236133407661855180133387180432 1 [1,1,-1,1] rfl h6 (Nat.max_eq_left (ar 19175151071376 rfl a0)) (Nat.max_eq_right (bG 9767087117859160561920 rfl a2)) (Nat.max_eq_right (bG 2384542753550211328 rfl a2))) (fun a2=>@KL [_,_,_,_,_,_,_,_] [] 8340277408215345761571896877816248124224053316368843602269107100048 1 [1,1,1,-1,1] rfl h6 a1 (Nat.max_eq_left (ar 19175151071376 rfl a0)) (Nat.max_eq_right (bG 27999233231086246342138112 rfl a1)) (Nat.max_eq_left (bG 2378315738164328848 rfl a2)))) (fun a1=>@mN [_,_,_,_,_,_,_] [] 605414118440189988166161470536386755402128 1 [1,1,-1,1] rfl h6 (Nat.max_eq_left (ar 19175151071376 rfl a0)) (Nat.max_eq_left (bG 40430837491386279385987472 rfl a1)) (Nat.max_eq_left (bG 9870809934420471019920 rfl a1)))));rcases yw (Nat.sub_pos_of_lt (Nat.lt_of_le_of_ne h1 e)) hk with hk|rfl
    ·exact h4 k hk
    ·exact Bb _
theorem G'{f g:Int→Int}:∀{ns:List Int},lv (ns.map fun q=>(q,f q,g q)) p=if p∈ns then some (g p)else none:=by
 intro X_;induction X_ with
 |nil=>exact by rw[aH List.not_mem_nil];rfl
 |cons q ns cD=>
  refine(?_:(lv (ns.map fun q=>(q,f q,g q)) p).or (if q=p then some (g q)else none)=_);rw[cD];by_cases h:p∈ns
  ·rw[aB h,aB (cO _ h)];rfl
  ·rw[aH h,Option.none_or];by_cases e:q=p
   ·subst e;rw[aB rfl,aB aS]
   ·rw[aH e,aH];intro z;rcases bD.mp z with rfl|z
    ·exact e rfl
    ·exact h z
structure Nh(I I1 I2:Ix)(b b2 H:aD)(u0 u1:Int):Prop where
 R1:0<I.la→I.cp=I.la→(0≤I.nu∧I.nu≤1000000)∧I.re=I1
 R0:(0<I.la→I.cp≠I.la)→I=I1
 H1:I1.la=0→(I1.hl=true→b=[])∧eJ I1.nu I1.s0 I1.s1=H∧H.length=32∧ck (aL H 0 24) 0 0=(u0,u1)∧dh b 0 H=b2∧(⟨I1.la,I1.cp,I1.s0,I1.s1,I1.nu,u0,u1,false,I1.sp,I1.fr,I1.pl,I1.co⟩:Ix)=I2
 H0:I1.la≠0→b=b2∧I1=I2
theorem Ku{bs:List (aD)}(hA:All 32 bs)(nu s0 s1:Int):dh bs.flatten 0 (eJ nu s0 s1)=(eJ nu s0 s1::bs.drop 1).flatten:=by have:=tu (by decide) hA 0 (fM nu s0 s1);rw[Nat.mul_zero]at this;rw[this];exact av List.flatten (tL (A:=[]) (B:=bs) rfl)
theorem Kw{I:Ix}{bs:List (aD)}(hA:All 32 bs)(mc:I.la=0)(rD:I.cp=0)(o6:I.fr=[])(Kg:I.pl=[])(J6:I.sp=false)(jm:I.co.length≤t)(Lr:aV I.co 0=none)(nu:0≤I.nu∧I.nu≤t)(s0:23063≤I.s0∧I.s0≤23063+t)(s1:Wd I.s1)
  (ho:∀k∈bs.drop 1,Old I.s0 k) (hz:bs.length≤1+t):
  Ed ⟨I.la,I.cp,I.s0,I.s1,I.nu,(cx I.nu I.s0 I.s1).1,(cx I.nu I.s0 I.s1).2,false,I.sp,I.fr,I.pl,I.co⟩ (eJ I.nu I.s0 I.s1::bs.drop 1) t [] (bs.drop 1)where
 g:=⟨rfl,nu,s0,s1,fun a_ h=>(nomatch h),hA.drop 1⟩
 la:=mc
 fr:=o6
 u:=rfl
 pl:=by refine(?_:I.pl=rowsOf I.fr);rw[Kg,o6];rfl
 old:=ho
 cp:=rD
 hl:=ff
 sp:=J6
 co:=jm
 c0:=Lr
 z:=by rw[cB,List.length_drop];exact(Nat.le_total (1) (bs.length)).elim (fun a0=>eR 109373130145886012273296 rfl hz (aG (aC 24117616 rfl a0))) (fun a0=>ar 123287431639184 rfl (Nat.sub_eq_zero_of_le (aC 385881856 rfl a0)))
theorem Ha{I:Ix}{b e:aD}{ps:List Int}{t:Nat}(ht:t≤20)(L:Lv I b e ps t){P:Prop}(k:∀I1 I2 H u0 u1 bs R tail,Nh I I1 I2 b bs.flatten H u0 u1→Ed I2 bs (t+1) R tail→kS R e ps→Kq R ps.length→(R=[]→Flat e ps)→(I1.la=0→R=[])→bs.length≤1+t→P):P:=by
 have n1:=L.nu;refine L.el (fun h1 h2 h3 h4 hF h6 hb=>?_) (fun bs R tail eb l g hR mc hf hu hc hC hT hS hh h5=>?_);refine vF hb fun bs az h8 hA LD=>?_;clear hb;subst az
 rotate_left;subst eb;rcases h5 with h5|⟨h5,hF⟩
 rotate_left 2
 ·have Kg:I.pl=[]:=by rw[L.pl,h3];rfl
  refine k I _ _ _ _ _ [] (bs.drop 1) ⟨fun h=>absurd h (by exact fun e=>yS 17301533786 0 [1,1] rfl h1 e),fun a_=>rfl,fun a_=>(jj h6 rfl (fM _ _ _) (oo _ _ _) (Ku hA _ _ _) rfl),fun h=>absurd h1 h⟩ ?_ hF.Ec (.inl rfl) (fun a_=>hF) (fun a_=>rfl) (by rw[cB,List.length_drop];exact(Nat.le_total (1) (bs.length)).elim (fun a0=>eR 109373130145886012273296 rfl h8 (aG (aC 24117616 rfl a0))) (fun a0=>ar 123287431639184 rfl (Nat.sub_eq_zero_of_le (aC 385881856 rfl a0))));exact Kw hA h1 h2 h3 Kg L.sp (Nat.le_succ_of_le L.co) L.c0 ⟨n1.1,by have:=n1.2;exact cm 980082007619 rfl this⟩ ⟨L.s0.1,by have:=L.s0.2;exact cm 71067254632596270619022362947 rfl this⟩ L.s1 LD (by exact ar 78689854376999168 rfl h8)
 ·have fE:0<R.length:=List.length_pos_iff.mpr hR;refine k I I [] 0 0 bs R tail ⟨fun a_ h=>absurd h (by exact fun e=>LK 92724170617946 0 [1,1,-1] rfl h5 (by assumption) h),fun a_=>rfl,fun h=>absurd h (by exact fun e=>Et 127887064753242 0 [-1,1,1] rfl mc fE h),fun a_=>⟨rfl,rfl⟩⟩ ?_ hS hC (fun h=>absurd h hR) (fun h=>absurd h (by exact fun e=>Et 127887064753242 0 [-1,1,1] rfl mc fE h)) l;exact⟨g.up (Nat.le_succ _),mc,hf,hu,L.pl,hT,h5,hh,L.sp,Nat.le_succ_of_le L.co,L.c0,by exact ar 78689854376999168 rfl l⟩
 ·have fE:0<R.length:=List.length_pos_iff.mpr hR;have hs:=g.s0;have es:(I.s0+1)% 4294967296=I.s0+1:=Int.emod_eq_of_lt (by exact aZ 313588722890477683 rfl hs.1) (by exact oR 305231534463501993261383303388503045268 rfl ht hs.2)
  have ho:∀k∈bs.drop 1,Old (I.s0+1) k:=fun k hk=>by
   rw[g.e]at hk;rcases cC.mp hk with hk|hk
   ·exact wR ⟨by exact aZ 76559746809971 rfl hs.1,by exact qv 21267647935503906385819916175753123924 1 [-1,1] rfl es (Int.emod_lt_of_pos _ (by decide))⟩ (by exact rX 1526084 rfl) k hk
   ·exact Ba (hT k hk) (by exact rX 1526083 rfl)
  refine k I.re _ _ _ _ _ [] (bs.drop 1) ⟨fun a_ b_=>⟨⟨n1.1,by exact oR 4209407189065123518531 rfl ht n1.2⟩,rfl⟩,fun h=>absurd h5 (h (by exact yT 485570723956 1 [-1,1] rfl mc fE)),fun a_=>(jj (fun h=>absurd (hh.symm.trans h) (by decide)) rfl (fM _ _ _) (oo _ _ _) (Ku g.all _ _ _) rfl),fun h=>absurd rfl h⟩ (Kw (I:=I.re) g.all rfl rfl rfl rfl ff (Nat.zero_le _) rfl ⟨?_,?_⟩ ?_ ⟨Int.emod_nonneg _ (by decide),Int.emod_lt_of_pos _ (by decide)⟩ ?_ (by exact ar 78689854376999168 rfl l)) hF.Ec (.inl rfl) (fun a_=>hF) (fun a_=>rfl) (by rw[cB,List.length_drop];exact(Nat.le_total (1) (bs.length)).elim (fun a0=>eR 109373130145886012273296 rfl l (aG (aC 24117616 rfl a0))) (fun a0=>ar 123287431639184 rfl (Nat.sub_eq_zero_of_le (aC 385881856 rfl a0))))
  ·refine(?_:0≤I.nu+1);exact aZ 4428941004915 rfl n1.1
  ·refine(?_:I.nu+1≤((t+1:Nat):Int));exact cm 4014415903028371 rfl n1.2
  ·refine(?_:23063≤(I.s0+1)% 4294967296∧(I.s0+1)% 4294967296≤23063+((t+1:Nat):Int));rw[es];exact⟨aZ 20551350543350432363651 rfl hs.1,cm 291091474975114324455515598451859 rfl hs.2⟩
  ·refine(?_:∀k∈bs.drop 1,Old ((I.s0+1)% 4294967296) k);rw[es];exact ho
theorem qk{α:Type}(l:List (Int×α)):(aj l).length=l.length:=bK _
structure Nw(ps:List Int)(ch:List (Int×aD))(qs ns:List Int)(t:Nat):Prop where
 m:ns.length≤2
 ne:ns≠[]
 nd:ns.Nodup
 mem:∀p,p∈ns↔p∈aj ch
 q:qs.length≤t+2
theorem Kx{ps qs:List Int}{ch:List (Int×aD)}{t:Nat}(D:Dr ps ch qs 2)(fy:ch≠[])(hp:ps.length≤t):Nw ps ch qs (sortI (aj ch)) t:=by have Bs:=gj (aj ch);have hl:(sortI (aj ch)).length=ch.length:=Bs.length_eq.trans (qk ch);have hz:=D.z;have hq:=D.len;exact⟨by exact dC 2684371478272 rfl hl hz,fun h=>by rw[h]at hl;exact fy (List.eq_nil_of_length_eq_zero hl.symm),Bs.nodup_iff.mpr D.nd,fun p=>Bs.mem_iff,by exact eR 175800918462634272 rfl hp hq⟩
theorem w6{ps qs ns:List Int}{ch:List (Int×aD)}{t:Nat}(D:Dr ps ch qs 2)(W:Nw ps ch qs ns t)(ht:t≤20):∀r∈dQ ns qs.length qs,Ly r:=fun r hr=>by
 refine aa (bO.mp hr) fun p hp aQ=>?_;clear hr;subst aQ;have h:=D.at_ p ((W.mem p).mp hp);have hq:=W.q;refine⟨⟨h.1,by have:=h.2.1;refine(?_:p<4294967296);exact yU 12667712261595930033397658510465092 rfl ht h.2.1 hq⟩,?_⟩;refine(?_:Wd (if p=ns.getLast?.getD 0 then(qs.length:Int)else 0));split
 ·exact⟨by exact c7 _,by exact dC 3092703141143019029774446723556 rfl ht hq⟩
 ·exact⟨by decide,by decide⟩
theorem Bt{ps qs ns:List Int}{ch:List (Int×aD)}{t:Nat}(D:Dr ps ch qs 2)(W:Nw ps ch qs ns t):∃N0 p v,dQ ns qs.length qs=N0++[(p,(qs.length:Int),v)]∧0<(qs.length:Int)∧N0.length+1=ns.length∧∀r∈N0,r.2.1=0:=by
 obtain⟨LA,p,rfl⟩:∃LA p,ns=LA++[p]:=⟨ns.dropLast,ns.getLast W.ne,(List.dropLast_concat_getLast W.ne).symm⟩;have h:=D.at_ p ((W.mem p).mp (cb _ aS));have hl:(LA++[p]).getLast?.getD 0=p:=by rw[List.getLast?_append];rfl
 have jM:=(List.nodup_append.mp W.nd).2.2;refine aR (LA.map fun q=>(q,if q=p then(qs.length:Int)else 0,qs.getD (q-1).toNat 0)) p (qs.getD (p-1).toNat 0) ?_ (by exact oR 250912378511476 rfl h.1 h.2.1) (by rw[bK,bR];rfl) (fun r hr=>?_)
 ·unfold dQ;rw[List.map_append,hl,List.map_cons,aB rfl];rfl
 ·refine aa (bO.mp hr) fun q hq aQ=>?_;clear hr;subst aQ;exact aH fun e=>jM q hq p aS e
theorem Dq{qs ns:List Int}{cnt p:Int}:lv (dQ ns cnt qs) p=if p∈ns then some (qs.getD (p-1).toNat 0)else none:=G'
theorem ql{R:List Rec}{e:aD}{ps qs ns:List Int}{ch:List (Int×aD)}{t:Nat}(D:Dr ps ch qs 2)(W:Nw ps ch qs ns t)(S:kS R e ps):kS (R++dQ ns qs.length qs) e qs:=fun i hi=>by
 rw[G7,Dq];by_cases h:(i:Int)+1∈ns
 ·rw[aB h];left;refine(?_:some (qs.getD ((i:Int)+1-1).toNat 0)=_);rw[show((i:Int)+1-1).toNat=i by exact bo (ar 6499344698986752 rfl (aA (bX 1586737299571 rfl))) (eQ 6499344698986512 1 [-1] rfl (aA (bX 1586737299571 rfl)))]
 ·rw[aH h,Option.none_or];obtain⟨h1,h2⟩:=D.old i hi fun z=>h ((W.mem _).mpr z);rw[h2];exact S i h1
theorem Bu{I:Ix}{ns qs:List Int}{cnt:Int}{i k:Nat}:(ops I ns cnt qs i).take k=ops I ns cnt qs (min k i):=List.take_take
theorem Hb{I:Ix}{ns qs:List Int}{cnt:Int}{i k:Nat}{o:Op}(h:(ops I ns cnt qs i)[k]?=some o):k<ns.length∧o=.write (32+(I.la+k+1-1)*32) (Bn I ns cnt qs k):=by
 unfold ops at h;rw[List.getElem?_take]at h;split at h
 ·rw[List.getElem?_map]at h;generalize q:(List.range ns.length)[k]?=y_ at h⊢;induction y_ with
  |none=>exact nS h
  |some j=>obtain⟨h1,h2⟩:=dX.mp q;rw[List.getElem_range]at h2;clear q;subst h2;rw[List.length_range]at h1;exact⟨h1,(bf h).symm⟩
 ·exact nS h
theorem Hc{I:Ix}{bs:List (aD)}{t:Nat}{R:List Rec}{tail:List (aD)}(Y:Ed I bs t R tail)(ht:t≤30){ns qs:List Int}{cnt:Int}(hn:ns.length≤2){i:Nat}(hi:i≤ns.length){b:aD}(h:Sv bs.flatten (ops I ns cnt qs i) b):b.length≤50000:=by refine jE (Br Y ns qs cnt i hi b h) fun j tl h1 ew h3 _ _ h6=>?_;clear h;subst ew;have hN:=kU ns qs cnt;have hz:=Y.z;have hl:=oB Y;have hA:All 32 (f7 I R (dQ ns cnt qs) j++tl):=fun k hk=>(cC.mp hk).elim (rK j k) (h3 k);rw[fh hA,bR,kT (by exact gn 21028697801504 1 [1,1,-1] rfl hi h1 hN)];exact(Nat.le_total (bs.length) (1+R.length+i)).elim (fun a0=>@ND [_,_,_,_,_,_,_,_,_] [] 68172496102181596029734111764949363378650251081879372451355283938288031224231850746016 1 [32,32,32,32,32,-32,32] rfl ht hn hi h6 hz hl (Nat.max_eq_right (bG 2384542753550211328 rfl a0))) (fun a0=>@mN [_,_,_,_,_,_] [] 146060745371320360432414968997703928697932773958151119008 1 [32,32,32,32] rfl ht h6 hz (Nat.max_eq_left (bG 2378315738164328848 rfl a0)))
theorem Bv{I:Ix}{bs:List (aD)}{t:Nat}{R:List Rec}{tail:List (aD)}(Y:Ed I bs t R tail)(ht:t≤30){ns qs:List Int}{cnt:Int}(hn:ns.length≤2){i:Nat}(hi:i≤ns.length):dj bs.flatten (ops I ns cnt qs i)where
 z:=by unfold ops;rw[List.length_take,bK,List.length_range];exact m9 20896986426100955168 rfl hn hi (cq (ar 1048832 rfl hi))
 ok:=fun k o h=>by
  refine fz (Hb h) fun h1 az=>?_;clear h;subst az
  have hl:=oB Y
  have hz:=Y.z
  have mc:=Y.la
  refine aN (by exact⟨B1 70661040959022515696614019187 1 [-32] rfl mc,@KN [_,_,_,_,_,_] [_] 34462078994862928641152562601170445651404098651487105673133266256799891 1 [32,32,32,-32,32,32] rfl ht hn h1 hl hz mc⟩) (by rw[jf];decide) (fun z=>?_)
  have:=jf (I:=I) (ns:=ns) (qs:=qs) (cnt:=cnt) (i:=k)
  rw[z]at this;cases this
 b:=fun k b h=>by rw[Bu]at h;exact Hc Y ht hn (by exact eR 537919776 rfl hi (Nat.min_le_right _ _)) h
theorem yx{b H:aD}(hb:b.length≤50000)(hH:H.length=32)(hp:(dh b 0 H).length≤50000){l:List Op}(hl:l=[]∨l=[.write 0 H]):dj b l:=by
 rcases hl with rfl|rfl
 ·exact kW hb
 ·refine⟨show 1≤1000 by decide,fun k o h=>?_,fun k c h=>?_⟩
  ·induction k using Nat.casesAuxOn with
   |zero=>have q_:=bf h;clear h;subst q_;exact aN ⟨Int.le_refl _,by decide⟩ (by exact aC 9051191586605056 rfl hH) (fun z=>by rw[z]at hH;cases hH)
   |succ k=>exact nS h
  ·induction k using Nat.casesAuxOn with
   |zero=>rw[h.nil_inv rfl];exact hb
   |succ k=>
    rcases Sv.snoc_inv (l:=[]) (o:=.write 0 H) h (by rw[List.take_succ_cons,List.take_nil];rfl)with h0|⟨b0,h0,rfl⟩
    ·rw[h0.nil_inv rfl];exact hb
    ·rw[h0.nil_inv rfl];exact hp
theorem aF.mono{w:World}{f:Addr}{lv k:Nat}{args:List V}{pre:List O}{Q Q':V→List O→Prop}{X X':List O→Prop}(C:aF w f lv k args pre Q X)(hQ:∀r cs,Q r cs→Q' r cs)(hX:∀cs,X cs→X' cs):aF w f lv k args pre Q' X':=fun cy mg mb dp un gd stack base g s R S ρ vals led B kp sz X0 T hS N D C0 vs hd hu ret err=>C cy mg mb dp un gd stack base g s R S ρ vals led B kp sz X0 T hS N D C0 vs hd hu (fun v h' dU aI P r cs' bx a1 a2 a3 a4 a5 a6 a7 a8=>ret v h' dU aI P r cs' bx a1 a2 a3 a4 a5 a6 a7 (hQ _ _ a8)) fun e h' dU aI P cs' bx a1 a2 a3 a4 a5 a6=>err e h' dU aI P cs' bx a1 a2 a3 a4 a5 (hX _ a6)
section
variable{w:World}
theorem oF{I:Ix}{b e:aD}{ps qs:List Int}{t:Nat}{ch:List (Int×aD)}(ht:t≤20)(L:Lv I b e ps t)(D:Dr ps ch qs 2)(fy:ch≠[])(n:Int)(c:Option Int):aF w 330 70 11 [.ref 0,.ref 15,.int qs.length] (Bc n c b b [] I (.gf ch)) (fun r cs'=>∃n' b' J,r=.int J.la∧cs'=lw n' c b' b' [] J∧Lv J b' e qs (t+2)∧aV J.co J.la=some (qs.length:Int)) (fun cs'=>c≠none∧∃n' sy b' ops J,cs'=lw n' c sy b' ops J∧dj sy ops∧∀b',Sv sy ops b'→fY b' e ps (t+2)∨fY b' e qs (t+2)):=by
 refine Ha ht L fun I1 I2 H u0 u1 bs R tail Pr Y hS hC hF Lq Hd=>?_;have W:=Kx D fy L.d.z;have hz:=D.z;have BO:=L.d.bl (aX ht (by decide));have BN:=L.d.ez;have yH:=L.d.z;have hm:=W.m;have hlen:=kU (sortI (aj ch)) qs qs.length;have o6:I2.fr.length=R.length:=by rw[Y.fr,bK]
 have HG:=oB Y;have Qj:=Y.z;refine br (Bt D W) fun N0 pl vl hN rD Qk Ql=>?_;have mL:∀r∈R++dQ (sortI (aj ch)) qs.length qs,Ly r:=fun r hr=>(cC.mp hr).elim (Y.g.R r) (w6 D W ht r)
 /-Qm MS blocks tell-/
 have told:∀j tl,j≤(sortI (aj ch)).length→All 32 tl→(∀k,tl[0]?=some k→Old I2.s0 k)→1+R.length+j+tl.length≤t+4-1→(j<(sortI (aj ch)).length→fY (f7 I2 R (dQ (sortI (aj ch)) qs.length qs) j++tl).flatten e ps (t+2))∧(j=(sortI (aj ch)).length→fY (f7 I2 R (dQ (sortI (aj ch)) qs.length qs) j++tl).flatten e qs (t+2)):=fun j tl hj hA hO hL=>by
  have Bw:(f7 I2 R (dQ (sortI (aj ch)) qs.length qs) j++tl).length≤1+(t+2):=by rw[bR,kT (by exact fe 4832895008 1 [-1,1] rfl hlen hj)];exact@yR [_,_,_,_,_] [] 99392767140487318166082257900793658779081104 rfl hL (aG (bX 74486128 rfl))
  have MJ:∀X:List Rec,o7 I2.s0 I2.s1 R (cx I2.nu I2.s0 I2.s1)++o7 I2.s0 I2.s1 ((dQ (sortI (aj ch)) qs.length qs).take j) (I2.u0,I2.u1)=o7 I2.s0 I2.s1 (R++(dQ (sortI (aj ch)) qs.length qs).take j) (cx I2.nu I2.s0 I2.s1):=fun a_=>by rw[mZ,Y.u]
  have g:Lg (f7 I2 R (dQ (sortI (aj ch)) qs.length qs) j++tl) (t+2) I2.nu I2.s0 I2.s1 (R++(dQ (sortI (aj ch)) qs.length qs).take j) tl:=by
   have hn:=Y.g.nu;have hs:=Y.g.s0;refine⟨by unfold f7;rw[MJ []];rfl,⟨hn.1,by exact cm 6484800167779907 rfl hn.2⟩,⟨hs.1,by exact cm 467279541601249399563347324864835 rfl hs.2⟩,Y.g.s1,fun r hr=>?_,hA⟩;rcases cC.mp hr with hr|hr
   ·exact Y.g.R r hr
   ·exact w6 D W ht r (List.mem_of_mem_take hr)
  refine⟨fun gq=>⟨L.d.v,by exact ar 4297529600 rfl yH,by exact ar 74485326207289856 rfl BN,.inr (b9 _ I2.nu I2.s0 I2.s1 (aR R ((dQ (sortI (aj ch)) qs.length qs).take j) tl rfl Bw g (ji hC (fun r hr=>?_) hO hS hF)))⟩,fun he=>⟨D.v,W.q,by exact ar 74485326207289856 rfl BN,.inr (b9 _ I2.nu I2.s0 I2.s1 (aR (R++dQ (sortI (aj ch)) qs.length qs) [] tl rfl Bw ?_ (ji ?_ (fun a_ h=>(nomatch h)) hO (ql D W hS) (fun h=>?_))))⟩⟩
  ·rw[hN,List.take_append_of_le_length (by exact fe 19864610218016 1 [-1,1] rfl Qk gq)]at hr;exact Ql r (List.mem_of_mem_take hr)
  ·rw[List.append_nil];rw[List.take_of_length_le (by exact fe 4866449920 1 [1,-1] rfl hlen he)]at g;exact g
  ·exact .inr (dF (R++N0) pl vl (by rw[hN,bC]) rD)
  ·have:=av List.length h;rw[bR,hlen]at this;exact absurd (List.eq_nil_of_length_eq_zero (by rw[List.length_nil]at this;exact bo (ar 30342776592 rfl this) (bX 112 rfl))) W.ne
 have C:=o5 (w:=w) n c b bs.flatten H I I1 I2 ch qs.length u0 u1 (sortI (aj ch)) (fun p=>pg (qs.getD (p-1).toNat 0)) _ (Bn I2 (sortI (aj ch)) qs.length qs) _ (ops I2 (sortI (aj ch)) qs.length qs) fy (by exact aC 167507929089 rfl hz) rfl (by exact aC 167507929088 rfl hm) W.ne (fun i hi=>⟨(D.at_ _ ((W.mem _).mp (by rw[cW,cn hi];exact List.getElem_mem hi))).2.2,rH _⟩) L.sp (by exact aC 281536552638629888 rfl BO) Pr.R1 Pr.R0 Pr.H1 Pr.H0 ⟨by rw[Y.la];exact c7 _,by rw[Y.la];exact gn 63499381305908412558226806178531 1 [1,1,-1] rfl ht Hd HG⟩ Y.pl (by exact@mN [_,_,_,_,_] [] 6579118742724703294427755395938793504 1 [1,1,1,-1] rfl ht Hd o6 HG) (by have:=Y.co;exact dC 6798850524853180053520 rfl ht this) (Ks Y (by exact aC 90775688084287632 rfl ht) _ qs qs.length (by exact aC 167507929088 rfl hm));have G3:(I2.fr++sortI (aj ch)).length=R.length+(sortI (aj ch)).length:=by rw[bR,o6]
 refine C.mono (fun r cs' h=>?_) fun cs' h=>?_
 ·refine f9 h fun fQ n' aQ=>?_;clear h;subst fQ;subst aQ;refine aR n' _ _ rfl rfl ?_ ?_
  ·have hd:=(told (sortI (aj ch)).length (tail.drop (sortI (aj ch)).length) (bF _) (Y.g.A.drop _) (fun k hk=>Y.old k (List.mem_of_mem_drop (List.mem_of_getElem? hk))) (by rw[List.length_drop];exact@KL [_,_,_,_,_,_,_] [] 6809836824569756762833030655601976141034706879603251600 1 [1,1,-1,1,-1] rfl Hd hm HG (Nat.sub_le _ _) (aG (bX 74486128 rfl)))).2 rfl;refine⟨hd,ff,⟨Y.g.nu.1,by have:=Y.g.nu.2;refine(?_:I2.nu≤_);exact cm 6484800167779907 rfl this⟩,⟨Y.g.s0.1,by have:=Y.g.s0.2;refine(?_:I2.s0≤_);exact cm 467279541601249399563347324864835 rfl this⟩,Y.g.s1,rfl,?_,?_,.inr (aR _ (R++dQ (sortI (aj ch)) qs.length qs) (tail.drop (sortI (aj ch)).length) rfl ?_ ⟨?_,⟨Y.g.nu.1,by have:=Y.g.nu.2;refine(?_:I2.nu≤_);exact cm 6484800167779907 rfl this⟩,⟨Y.g.s0.1,by have:=Y.g.s0.2;refine(?_:I2.s0≤_);exact cm 467279541601249399563347324864835 rfl this⟩,Y.g.s1,mL,Y.g.A.drop _⟩ (vG ?_ ?_ ?_ ?_ ?_ (.inr (dF (R++N0) pl vl (by rw[hN,bC]) rD)) (fun k hk=>Y.old k (List.mem_of_mem_drop hk)) (ql D W hS) Y.hl (.inl Y.cp)))⟩
   ·have:=Y.co;have h2:=kN I2.co ((I2.fr++sortI (aj ch)).length:Int) (qs.length:Int);exact((eR 424932664637059963168 rfl this h2):(dput I2.co _ _).length≤t+2)
   ·refine(?_:aV (dput I2.co _ _) 0=none);rw[dm,aH (by have:=List.length_pos_iff.mpr W.ne;exact fun e=>tZ 63179176980615210 0 [-1,1,-1] rfl G3 this e)];exact Y.c0
   ·refine(?_:(f7 _ _ _ _++_).length≤_);rw[bR,kT (by exact eQ 1056784 1 [-1] rfl hlen),List.length_drop];exact@mN [_,_,_,_,_,_] [] 7250068365729109270863176803256810287276590864784 1 [1,1,-1,1] rfl Hd hm HG (Nat.sub_le _ _)
   ·unfold fj f7;rw[List.take_of_length_le (by exact ar 1057024 rfl hlen),mZ,Y.u];rfl
   ·intro h;have:=av List.length h;rw[bR,hlen]at this;exact absurd (List.eq_nil_of_length_eq_zero (by rw[List.length_nil]at this;exact bo (ar 30342776592 rfl this) (bX 112 rfl))) W.ne
   ·refine(?_:((I2.fr++sortI (aj ch)).length:Int)=_);rw[G3,bR,hlen]
   ·refine(?_:I2.fr++sortI (aj ch)=_);rw[List.map_append,←Y.fr];congr 1;unfold dQ;rw[List.map_map];exact(List.map_id _).symm
   ·refine(?_:sm ((dQ (sortI (aj ch)) qs.length qs).take _) (I2.u0,I2.u1)=_);rw[List.take_of_length_le (by exact ar 1057024 rfl hlen),vt,Y.u]
   ·refine(?_:aV (dput I2.co _ _) _=_);rw[dm,aB rfl]
  ·refine(?_:aV (dput I2.co _ _) _=_);rw[dm,aB rfl]
 ·obtain⟨hc,n',sy,b',os,J,rfl,h⟩:=h;refine j8 hc n' sy b' os J rfl ?_;rcases h with⟨h0,rfl,h⟩|⟨rfl,i,hi,rfl⟩
  ·refine rU (Pr.H1 h0) fun a1 a2 a3 a4 a5 a6=>?_;have hR:=Lq h0;have hp:(dh sy 0 H).length≤50000:=by rw[a5,fh Y.g.all];exact iA 1825061592976701610338688245920 1 [32,32] rfl ht Qj
   refine⟨yx (aC 281536552638629888 rfl BO) a3 hp h,fun b' hb=>?_⟩;have old:fY sy e ps (t+2):=L.d.up (Nat.le_add_right _ _);have new:fY (dh sy 0 H) e ps (t+2):=by have:=(told 0 tail (Nat.zero_le _) Y.g.A (fun k hk=>Y.old k (List.mem_of_getElem? hk)) (by exact@lj [_,_,_,_,_] [] 6193510345728556364202841108758970391566736 1 [1,-1,-1] rfl Hd HG (aG (bX 74486128 rfl)))).1 (List.length_pos_iff.mpr W.ne);rw[a5];have e0:=G_ Y (dQ (sortI (aj ch)) qs.length qs);unfold fj at e0;rw[List.drop_zero]at e0;rwa[e0]at this
   rcases h with rfl|rfl
   ·rw[hb.nil_inv rfl];exact .inl old
   ·rcases Sv.snoc_inv (l:=[]) hb rfl with h0|⟨b0,h0,rfl⟩
    ·rw[h0.nil_inv rfl];exact .inl old
    ·rw[h0.nil_inv rfl];exact .inl new
  ·refine⟨Bv Y (aC 90775688084287632 rfl ht) hm hi,fun b' hb=>(jE (Br Y _ qs qs.length i hi b' hb) fun j tl h1 ew h3 h4 _ h6=>?_)⟩;clear hb;subst ew;have:=told j tl (aX h1 hi) h3 h4 (by exact(Nat.le_total (bs.length) (1+R.length+i)).elim (fun a0=>@ND [_,_,_,_,_,_,_,_,_,_] [] 45148678763387683239783404440298917174624017738079889023011250262251884925010024848 1 [1,1,-1,1,1,-1,1] rfl Hd hm HG hi h6 (aG (bX 74486128 rfl)) (Nat.max_eq_right (bG 2384542753550211328 rfl a0))) (fun a0=>@mN [_,_,_,_,_,_,_] [] 2224811389922541178698382478460730724575330331761040 1 [1,1,-1,1] rfl Hd h6 (aG (bX 74486128 rfl)) (Nat.max_eq_left (bG 2378315738164328848 rfl a0))));by_cases e:j=(sortI (aj ch)).length
   ·exact .inr (this.2 e)
   ·exact .inl (this.1 (Nat.lt_of_le_of_ne (aX h1 hi) e))
end
def Op.bd(B:Nat):Op→Prop
 |.write i o=>i.toNat+o.length≤B
 |.cut n=>n.toNat≤B
theorem Bx{sy:aD}{B:Nat}(h0:sy.length≤B){l:List Op}{b:aD}(h:Sv sy l b):(∀o∈l,Op.bd B o)→b.length≤B:=by
 induction h with
 |nil=>exact fun a_=>h0
 |no h ih=>exact fun z=>ih fun o ho=>z o (List.mem_append_left _ ho)
 |@yes l b o h ih=>
  intro z;have h1:=ih fun o ho=>z o (List.mem_append_left _ ho);have h2:=z o (cb _ aS);induction o with
  |write i o=>refine(?_:(dh b i.toNat o).length≤B);rw[kR];have h2:i.toNat+o.length≤B:=h2;exact(Nat.le_total (b.length) (i.toNat+o.length)).elim (fun a0=>m8 291585883963952 rfl h2 (Nat.max_eq_right (bG 144149977344 rfl a0))) (fun a0=>eR 571474208 rfl h1 (Nat.max_eq_left (bG 141885051024 rfl a0)))
  |cut n=>refine(?_:(fZ b n.toNat).length≤B);rw[oz];exact h2
theorem rL{sy:aD}{l:List Op}{B:Nat}(h0:sy.length≤B)(hB:B≤50000)(hz:l.length≤1000)(h:∀o∈l,Op.ok o∧Op.bd B o):dj sy l:=⟨hz,fun k o ho=>(h o (List.mem_of_getElem? ho)).1,fun k b hb=>aX (Bx h0 hb fun o ho=>(h o (List.mem_of_mem_take ho)).2) hB⟩
section
variable(R:List Rec)(ns:List Int)(cnt:Int)
noncomputable def yI(p:Int):aD:=pg ((lv R p).getD 0)
noncomputable def jD(e:aD):Nat→aD×List Op
 |0=>(e,[])
 |i+1=>if i<ns.length∧ns.getD i 0≤cnt then(dh (jD e i).1 ((ns.getD i 0-1)*8).toNat (yI R (ns.getD i 0)),(jD e i).2++[.write ((ns.getD i 0-1)*8) (yI R (ns.getD i 0))])else jD e i
end
section
variable{R:List Rec}{ns:List Int}{cnt:Int}{e:aD}
theorem jg{i:Nat}(h:i<ns.length)(hp:ns.getD i 0≤cnt):jD R ns cnt e (i+1)=(dh (jD R ns cnt e i).1 ((ns.getD i 0-1)*8).toNat (yI R (ns.getD i 0)),(jD R ns cnt e i).2++[.write ((ns.getD i 0-1)*8) (yI R (ns.getD i 0))]):=aB ⟨h,hp⟩
theorem md{i:Nat}(h:¬(i<ns.length∧ns.getD i 0≤cnt)):jD R ns cnt e (i+1)=jD R ns cnt e i:=aH h
theorem Ds:∀i,(jD R ns cnt e i).2.length≤min i ns.length∧∀o∈(jD R ns cnt e i).2,∃p∈ns,p≤cnt∧o=.write ((p-1)*8) (yI R p):=by
 intro X_;induction X_ with
 |zero=>exact⟨Nat.zero_le _,fun a_ h=>(nomatch h)⟩
 |succ i cD=>
  obtain⟨h1,h2⟩:=cD;by_cases h:i<ns.length∧ns.getD i 0≤cnt
  ·refine(jg h.1 h.2).symm▸?_;refine⟨by refine(?_:((jD R ns cnt e i).2++[_]).length≤_);refine bR.symm▸?_;refine List.length_singleton.symm▸?_;exact gn 906300890507775144080 1 [1,-1,1] rfl h1 (cq (ar 4312887440 rfl h.1)) (cq (ar 1052928 rfl h.1)),fun o ho=>?_⟩;rcases cC.mp ho with ho|ho
   ·exact h2 o ho
   ·refine bY (ns.getD i 0) ((cW).symm▸?_) h.2 (c9.mp ho);refine(cn h.1).symm▸?_;exact List.getElem_mem h.1
  ·refine(md h).symm▸?_;exact⟨by exact(Nat.le_total (i+1) (ns.length)).elim (fun a0=>gn 221264865846624768 1 [1,-1,1] rfl h1 (cq (ar 19175151071376 rfl a0)) (cq (ar 4681433344 rfl a0))) (fun a0=>gn 53889526137344 1 [1,-1,1] rfl h1 (Nat.min_eq_right (ar 25396143134976 rfl a0)) (Nat.min_le_right _ _)),h2⟩
theorem He(hp:∀p∈ns,1≤p):∀i,e.length≤(jD R ns cnt e i).1.length∧∀j:Nat,(j:Int)<cnt→((j:Int)+1∈ns.take i→rT (jD R ns cnt e i).1 j=yI R (j+1))∧((j:Int)+1∉ns.take i→8*j+8≤e.length→rT (jD R ns cnt e i).1 j=rT e j):=by
 intro X_;induction X_ with
 |zero=>exact⟨bF _,fun j a_=>⟨fun h=>absurd h (by refine List.take_zero.symm▸?_;exact List.not_mem_nil),fun a_ b_=>rfl⟩⟩
 |succ i cD=>
  obtain⟨h1,h2⟩:=cD;by_cases hi:i<ns.length
  ·have ht:ns.take (i+1)=ns.take i++[ns.getD i 0]:=by rw[cW,cn hi,Option.getD_some,List.take_append_getElem hi]
   have hm:ns.getD i 0∈ns:=by refine(cW).symm▸?_;refine(cn hi).symm▸?_;exact List.getElem_mem hi
   by_cases hc:ns.getD i 0≤cnt
   ·refine(jg hi hc).symm▸?_;have h3:=hp _ hm;generalize ns.getD i 0=p at ht hc h3;have ep:((p-1)*8).toNat=8*(p-1).toNat:=by exact bo (fO 450636047610955090956945920 1 [1,-8] rfl (aA (eM 18422417383272563 1 [8] rfl h3)) (aA (xf 26859621071250047091 8 [1] rfl (aA (eM 18422417383272563 1 [8] rfl h3))))) (fO 450636047610955090955929760 1 [-1,8] rfl (aA (eM 18422417383272563 1 [8] rfl h3)) (aA (xf 26859621071250047091 8 [1] rfl (aA (eM 18422417383272563 1 [8] rfl h3)))))
    refine⟨by refine(?_:_≤(dh _ _ _).length);rw[kR];exact eR 8859419136 rfl h1 (Nat.le_max_left _ _),fun j hj=>?_⟩;obtain⟨a,b⟩:=h2 j hj;refine ht.symm▸?_;refine ep.symm▸?_;by_cases q:(j:Int)+1=p
    ·have ej:(p-1).toNat=j:=by exact bo (fO 26860001721844322320 1 [-1,1] rfl q (aA (cm 18420020882489459 rfl q))) (fO 26860001721844322560 1 [1,-1] rfl q (aA (cm 18420020882489459 rfl q)))
     refine⟨fun a_=>?_,fun h=>absurd (cb _ (by refine q.symm▸?_;exact aS)) h⟩;refine ej.symm▸?_;refine q.symm▸?_;exact Di _ _ _
    ·have ej:j≠(p-1).toNat:=fun e=>q (Nq h3 e);refine⟨fun h=>?_,fun h hl=>?_⟩
     ·have h:(j:Int)+1∈ns.take i:=(cC.mp h).resolve_right fun z=>q (c9.mp z);have:=a h;exact(jZ ej (oA this)).trans this
     ·exact(jZ ej (aX hl h1)).trans (b (fun z=>h (List.mem_append_left _ z)) hl)
   ·refine(md fun z=>hc z.2).symm▸?_;refine ht.symm▸(⟨h1,fun j hj=>?_⟩);obtain⟨a,b⟩:=h2 j hj;have ne:(j:Int)+1≠ns.getD i 0:=fun e=>hc (e▸Int.add_one_le_of_lt hj);exact⟨fun h=>a ((cC.mp h).resolve_right fun z=>ne (c9.mp z)),fun h=>b fun z=>h (List.mem_append_left _ z)⟩
  ·refine(md fun z=>hi z.1).symm▸?_;refine(List.take_of_length_le (by exact ar 4413917456 rfl hi)).symm▸(⟨h1,fun j hj=>?_⟩);have:=h2 j hj;rwa[List.take_of_length_le (by exact ar 1077264 rfl hi)]at this
theorem vB(hp:∀p∈ns,1≤p):∀i,∀e',Sv e (jD R ns cnt e i).2 e'→e.length≤e'.length∧∀j:Nat,(j:Int)+1∉ns→8*j+8≤e.length→rT e' j=rT e j:=by
 intro X_;induction X_ with
 |zero=>exact fun e' h=>by refine(h.nil_inv rfl).symm▸?_;exact⟨bF _,fun a_ b_ c_=>rfl⟩
 |succ i cD=>
  intro e' h;by_cases hi:i<ns.length∧ns.getD i 0≤cnt
  ·have hm:ns.getD i 0∈ns:=by refine(cW).symm▸?_;refine(cn hi.1).symm▸?_;exact List.getElem_mem hi.1
   have h3:=hp _ hm;rw[jg hi.1 hi.2]at h;rcases h.snoc_inv rfl with h|⟨b0,h9,rfl⟩
   ·exact cD e' h
   ·obtain⟨a,b⟩:=cD b0 h9;refine(?_:e.length≤(dh b0 ((ns.getD i 0-1)*8).toNat _).length∧∀j:Nat,_→_→rT (dh b0 ((ns.getD i 0-1)*8).toNat _) j=_);refine(show((ns.getD i 0-1)*8).toNat=8*(ns.getD i 0-1).toNat by exact bo (fO 450636047610955090956945920 1 [1,-8] rfl (aA (eM 18422417383272563 1 [8] rfl h3)) (aA (xf 26859621071250047091 8 [1] rfl (aA (eM 18422417383272563 1 [8] rfl h3))))) (fO 450636047610955090955929760 1 [-1,8] rfl (aA (eM 18422417383272563 1 [8] rfl h3)) (aA (xf 26859621071250047091 8 [1] rfl (aA (eM 18422417383272563 1 [8] rfl h3)))))).symm▸?_;refine⟨by rw[kR];exact eR 8859419136 rfl a (Nat.le_max_left _ _),fun j hj hl=>((jZ (fun z=>hj ?_) (aX hl a)).trans (b j hj hl))⟩;refine(show(j:Int)+1=ns.getD i 0 by exact Int.le_antisymm (iw 26860001510102077075 rfl z (aA (aZ 4497660493939 rfl h3))) (fO 26860001510057634115 1 [-1,-1] rfl z (aA (aZ 4497660493939 rfl h3)))).symm▸?_;exact hm
  ·rw[md hi]at h;exact cD e' h
end
theorem Lv.done{I:Ix}{b e:aD}{ps:List Int}{t:Nat}(ht:t≤20)(L:Lv I b e ps t)(rD:I.cp=I.la)(hF:Flat e ps)(I2:Ix)(e0:¬0<I.la→I=I2)(e1:0<I.la→I.re=I2):Lv I2 b e ps (t+2)∧Lv {I2 with hl:=true,sp:=false} [] e ps (t+2):=by
 have hz:=L.d.z;have Ee:=L.d.ez
 have key:Lv I2 b e ps (t+2)∧I2.la=0∧I2.cp=0∧I2.fr=[]∧I2.co=[]:=by
  rcases L.it with⟨h1,h2,h3,h4,h5⟩|⟨bs,R,tail,rfl,l,g,hR,mc,hf,hu,hc,hC,hT,hS,hh,h5⟩
  ·refine(e0 (by exact fun e=>yS 17301533786 0 [1,1] rfl h1 e))▸?_;exact ji (L.mono (Nat.le_add_right _ _)) h1 h2 h3 h4
  ·have fE:0<R.length:=List.length_pos_iff.mpr hR;have hs:=g.s0;have hn:=g.nu;have es:(I.s0+1)% 4294967296=I.s0+1:=Int.emod_eq_of_lt (aZ 313588722890477683 rfl hs.1) (by exact oR 305231534463501993261383303388503045268 rfl ht hs.2);refine(e1 (yT 485570723956 1 [-1,1] rfl mc fE))▸(ji ⟨L.d.up (Nat.le_add_right _ _),ff,⟨?_,?_⟩,?_,⟨Int.emod_nonneg _ (by decide),Int.emod_lt_of_pos _ (by decide)⟩,rfl,Nat.zero_le _,rfl,.inl (j5 rfl rfl rfl rfl hF (fun h=>absurd (hh.symm.trans h) (by decide)) bs rfl (by exact ar 78689858671966464 rfl l) g.all ?_)⟩ rfl rfl rfl rfl)
   ·refine(?_:0≤I.nu+1);exact aZ 4428941004915 rfl hn.1
   ·refine(?_:I.nu+1≤((t+2:Nat):Int));exact cm 4014484622505107 rfl hn.2
   ·refine(?_:23063≤(I.s0+1)% 4294967296∧(I.s0+1)% 4294967296≤23063+((t+2:Nat):Int));refine es.symm▸?_;exact⟨aZ 20551350543350432363651 rfl hs.1,cm 291091474975132771199589308003475 rfl hs.2⟩
   ·refine((es.symm▸?_):∀k∈bs.drop 1,Old ((I.s0+1)% 4294967296) k);intro k hk;rw[g.e]at hk;rcases cC.mp hk with hk|hk
    ·exact wR ⟨by exact aZ 76559746809971 rfl hs.1,by exact qv 21267647935503906385819916175753123924 1 [-1,1] rfl es (Int.emod_lt_of_pos _ (by decide))⟩ (rX 1526084 rfl) k hk
    ·exact Ba (hT k hk) (by exact rX 1526083 rfl)
 refine BP key fun L2 a1 a2 a3 a4=>?_;refine⟨L2,⟨L.d.v,by exact ar 4297529600 rfl hz,by exact ar 74485326207289856 rfl Ee,.inl ⟨rfl,hF⟩⟩,ff,L2.nu,L2.s0,L2.s1,L2.pl,L2.co,L2.c0,.inl (j5 a1 a2 a3 a4 hF (fun a_=>rfl) [] rfl (Nat.zero_le _) (fun a_ h=>(nomatch h)) (fun a_ h=>(nomatch h)))⟩
section
variable{w:World}
theorem w7{I I1:Ix}{b e ef:aD}{ps:List Int}{t:Nat}(ht:t≤20)(L1:Lv I1 b ef ps t)(rD:I1.cp=I1.la)(hF:Flat ef ps)(he:e.length≤1000)(n:Int)(c:Option Int)(D:aD→List Op→Prop)(hD:∀e' aM,D e' aM→dj e aM∧∀e2,Sv e aM e2→fY b e2 ps (t+2))(qe:I.la>I.cp→aF w 337 70 13 [.ref 0,.ref 11,.int I.la] (iu n c b b [] e e [] I) (fun r cs'=>r=.none∧∃n',cs'=iu n' c b b [] ef ef [] I1) (fun cs'=>∃n' e' aM,cs'=iu n' c b b [] e e' aM I∧c≠none∧D e' aM))(yi:¬I.la>I.cp→e=ef∧I=I1)(kd:Nat)(hk:kd=110∨kd=111∨kd=68∨kd=96):aF w 344 80 13 [.ref 0,.ref 11,.str kd,.none] (iu n c b b [] e e [] I) (fun r cs'=>∃x n' b' e' J,r=.tup [.int 0,.int x,.int x]∧cs'=iu n' c b' b' [] e' e' [] J∧Lv J b' e' ps (t+2)) (fun cs'=>c≠none∧∃n' sy b' ops dy e' aM J,cs'=iu n' c sy b' ops dy e' aM J∧dj sy ops∧dj dy aM∧∀b' e',Sv sy ops b'→Sv dy aM e'→fY b' e' ps (t+2)):=by
 have BO:=L1.d.bl (aX ht (by decide));have BN:=L1.d.el (aX ht (by decide));have Lk:=L1.nu;have hz:=L1.d.z;have Ee:=L1.d.ez
 obtain⟨I2,e0,e1⟩:∃I2,(¬0<I1.la→I1=I2)∧(0<I1.la→I1.re=I2):=by
  by_cases h:0<I1.la
  ·exact ah _ (fun z=>absurd h z) (fun a_=>rfl)
  ·exact ah _ (fun a_=>rfl) (fun z=>absurd z h)
 obtain⟨La,Lb⟩:=L1.done ht rD hF I2 e0 e1;refine(checkpoint (w:=w) n c b e ef I I1 I2 D (aC 281536552638629888 rfl BO) qe yi rD ⟨Lk.1,by exact oR 4209407189065123518531 rfl ht Lk.2⟩ e0 e1 kd hk).mono (fun r cs' h=>?_) fun cs' h=>?_
 ·refine fN h fun x n' b' J t_=>fc t_ fun IF Cm Qn=>?_;clear h t_;subst IF;subst Cm;obtain⟨rfl,rfl|rfl⟩|⟨rfl,rfl⟩:=Qn
  ·exact b9 x n' _ _ (bY _ rfl rfl (L1.mono (Nat.le_add_right _ _)))
  ·exact b9 x n' _ _ (bY _ rfl rfl La)
  ·exact b9 x n' _ _ (bY _ rfl rfl Lb)
 ·refine fN h fun n' b' ops QQ t_=>bS t_ fun e' aM J ME hc Qo=>?_;clear h t_;subst ME;obtain⟨rfl,rfl,rfl,hd⟩|⟨rfl,rfl,ho⟩:=Qo
  ·obtain⟨d1,d2⟩:=hD e' aM hd;exact et hc n' (b9 _ _ _ _ (aR _ _ J rfl (kW (by exact aC 281536552638629888 rfl BO)) d1 (fun b2 e2 h1 h2=>by refine(h1.nil_inv rfl).symm▸?_;exact d2 e2 h2)))
  ·refine et hc n' (b9 _ _ _ _ (aR _ _ J rfl ?_ (kW (aC 281536552638629888 rfl BN)) (fun b2 e2 h1 h2=>?_)))
   ·refine rL (B:=1000) BO (by decide) ?_ fun o h=>?_
    ·rcases ho with rfl|rfl<;>decide
    ·rcases ho with rfl|rfl
     ·cases h
     ·refine(c9.mp h).symm▸?_;exact⟨⟨by decide,by decide⟩,show 0≤1000 by decide⟩
   ·refine(h2.nil_inv rfl).symm▸?_;rcases ho with rfl|rfl
    ·refine(h1.nil_inv rfl).symm▸?_;exact L1.d.up (Nat.le_add_right _ _)
    ·rcases Sv.snoc_inv (l:=[]) h1 rfl with h0|⟨b0,h0,rfl⟩
     ·refine(h0.nil_inv rfl).symm▸?_;exact L1.d.up (Nat.le_add_right _ _)
     ·have:Op.app (.cut 0) b0=[]:=List.eq_nil_of_length_eq_zero (oz b0 0);refine this.symm▸?_;exact Lb.d
theorem yy{R:List Rec}{p:Int}:p∈sortI (aj (newOf (R.map (·.1))))↔lv R p≠none:=by
 rw[(gj _).mem_iff,vA];obtain⟨h1,h2⟩:=oy (p:=p) (R:=R) (n:=0);constructor
 ·intro h z;exact h (h1 z)
 ·intro h z;generalize q:lv R p=y_;induction y_ with
  |none=>exact h q
  |some v=>refine cS (h2 v q) fun x k a _=>?_;rw[z]at a;exact nS a
theorem getD_mem{l:List Int}{i:Nat}(h:i<l.length):l.getD i 0∈l:=by refine(cW).symm▸?_;refine(cn h).symm▸?_;exact List.getElem_mem h
theorem vC{I:Ix}{b e:aD}{ps:List Int}{t:Nat}(ht:t≤20)(L:Lv I b e ps t)(n:Int)(c:Option Int)(kd:Nat)(hk:kd=110∨kd=111∨kd=68∨kd=96):aF w 344 80 13 [.ref 0,.ref 11,.str kd,.none] (iu n c b b [] e e [] I) (fun r cs'=>∃x n' b' e' J,r=.tup [.int 0,.int x,.int x]∧cs'=iu n' c b' b' [] e' e' [] J∧Lv J b' e' ps (t+2)) (fun cs'=>c≠none∧∃n' sy b' ops dy e' aM J,cs'=iu n' c sy b' ops dy e' aM J∧dj sy ops∧dj dy aM∧∀b' e',Sv sy ops b'→Sv dy aM e'→fY b' e' ps (t+2)):=by
 have BO:=L.d.bl (aX ht (by decide));have BN:=L.d.el (aX ht (by decide));have Ee:=L.d.ez;have yH:=L.d.z;have idle:I.cp=I.la→Flat e ps→_:=fun h1 h2=>w7 (w:=w) (I:=I) (e:=e) ht L h1 h2 BN n c (fun a_ b_=>False) (fun a_ b_ h=>h.elim) (fun h=>absurd h (by exact fun e=>qv 88364122 0 [-1,1] rfl h1 e)) (fun a_=>⟨rfl,rfl⟩) kd hk;refine L.el (fun h1 h2 h3 h4 hF _ _=>?_) (fun bs R tail eb l g hR mc hf hu hc hC hT hS hh h5=>?_)
 rotate_left;subst eb;rcases h5 with h5|⟨h5,hF⟩
 rotate_left 2
 ·exact idle (h2.trans h1.symm) hF
 ·have fE:0<R.length:=List.length_pos_iff.mpr hR;have G3:I.fr.length=R.length:=by rw[hf,bK]
  have Bw:=av List.length g.e;rw[cB,bR,fG]at Bw;have HH:∀p,p∈sortI (aj (newOf (R.map (·.1))))↔lv R p≠none:=fun p=>yy;obtain⟨ns,tV⟩:∃ns,sortI (aj (newOf (R.map (·.1))))=ns:=⟨_,rfl⟩;rw[tV]at HH;have G2:ns.length≤R.length:=by rw[←tV,(gj _).length_eq,qk];have:=lV (R.map (·.1));rwa[bK]at this
  have C4:∀p∈ns,1≤p:=fun p hp=>by
   generalize q:lv R p=y_;induction y_ with
   |none=>exact absurd q ((HH p).mp hp)
   |some v=>exact ao ((oy (p:=p) (R:=R) (n:=0)).2 v q) fun x k _ _ x3=>(g.R _ (List.mem_of_getElem? x3)).p.1
  have step:=He (R:=R) (ns:=ns) (cnt:=(ps.length:Int)) (e:=e) C4;have Dt:=Ds (R:=R) (ns:=ns) (cnt:=(ps.length:Int)) (e:=e)
  /-MS Oj Qp all is Ni-/
  have LB:∀j,j<ps.length→rT (jD R ns ps.length e ns.length).1 j=pg (ps.getD j 0):=fun j hj=>by
   obtain⟨_,s2⟩:=step ns.length;obtain⟨s3,s4⟩:=s2 j (by exact ar 269607140 rfl hj);rw[List.take_length]at s3 s4;rcases hS j hj with h|⟨h,h'⟩
   ·refine(s3 ((HH _).mpr (by rw[h];exact fun z=>nomatch z))).symm▸?_;unfold yI;refine h.symm▸?_;rfl
   ·refine(s4 (fun z=>(HH _).mp z h) (oA h')).symm▸?_;exact h'
  have hlen:8*ps.length≤(jD R ns ps.length e ns.length).1.length:=by
   by_cases h0:ps.length=0
   ·exact eQ 30099376288 1 [8] rfl h0
   ·have:=oA (LB (ps.length-1) (Nat.sub_lt (Nat.pos_of_ne_zero h0) Nat.one_pos));exact fe 1740524200388102049630368 1 [1,8] rfl this (zs _ _)
  have bd:∀i,∀o∈(jD R ns (ps.length:Int) e i).2,Op.ok o∧Op.bd (8*t) o:=fun i o ho=>by refine cg ((Dt i).2 o ho) fun p hp Ol ew=>?_;clear ho;subst ew;have:=C4 p hp;have e8:(yI R p).length=8:=rH _;exact⟨(aN ⟨by exact eM 18422417383272563 1 [8] rfl this,by exact Eu 38361305375373732188873160394931 1 [8,8,8] rfl ht yH Ol⟩ (Nat.le_add_left _ _) (fun z=>by rw[z]at e8;cases e8)),(((H3 7560311273548599682988011411874704 1 [8,8,1,1] rfl yH Ol e8 (aA (eM 18422417383272563 1 [8] rfl this))):((p-1)*8).toNat+(yI R p).length≤8*t))⟩
  have el:∀i,(jD R ns (ps.length:Int) e i).1.length≤8*t:=by
   intro i;induction i with
   |zero=>exact Ee
   |succ i ih=>
    by_cases hi:i<ns.length∧ns.getD i 0≤(ps.length:Int)
    ·refine(jg hi.1 hi.2).symm▸?_;have:=C4 _ (getD_mem hi.1);refine(?_:(dh _ _ _).length≤_);rw[kR,show(yI R (ns.getD i 0)).length=8 from rH _];exact(Nat.le_total ((Mine.Internal.jD R ns (↑ps.length) e i).fst.length) (((ns.getD i 0-1)*8).toNat+8)).elim (fun a0=>H3 7560311273548626289325732768287264 1 [8,8,1,1] rfl yH hi.2 (Nat.max_eq_right (ar 148541452785920 rfl a0)) (aA (eM 18422417383272563 1 [8] rfl this))) (fun a0=>eR 9588334100777504 rfl ih (Nat.max_eq_left (ar 26871732924560 rfl a0)))
    ·refine(md hi).symm▸?_;exact ih
  obtain⟨ef,C9,yi⟩:∃ef,(((jD R ns (ps.length:Int) e ns.length).1.length:Int)>(ps.length:Int)*8→fZ (jD R ns (ps.length:Int) e ns.length).1 ((ps.length:Int)*8).toNat=ef)∧(¬((jD R ns (ps.length:Int) e ns.length).1.length:Int)>(ps.length:Int)*8→(jD R ns (ps.length:Int) e ns.length).1=ef):=by
   by_cases h:((jD R ns (ps.length:Int) e ns.length).1.length:Int)>(ps.length:Int)*8
   ·exact ah _ (fun a_=>rfl) (fun z=>absurd h z)
   ·exact ah _ (fun z=>absurd z h) (fun a_=>rfl)
  have e8:((ps.length:Int)*8).toNat=8*ps.length:=by exact bo (ar 8453805151652352 rfl (aA (bX 235450483 rfl))) (eQ 8453805150636192 1 [-1] rfl (aA (bX 235450483 rfl)))
  have hF:Flat ef ps:=by
   by_cases h:((jD R ns (ps.length:Int) e ns.length).1.length:Int)>(ps.length:Int)*8
   ·refine(C9 h)▸?_;exact e8.symm▸(⟨oz _ _,fun i hi=>(wW hi (oA (LB i hi))).trans (LB i hi)⟩)
   ·refine(yi h)▸?_;exact⟨by exact bo (ar 8459679927667216 rfl h) (ar 17629231188128 rfl hlen),LB⟩
  have Om:∀e2,(∀j:Nat,(j:Int)+1∉ns→j<ps.length→8*j+8≤e.length→rT e2 j=rT e j)→kS R e2 ps:=fun e2 h i hi=>by
   rcases hS i hi with q|⟨q,q'⟩
   ·exact .inl q
   ·exact .inr ⟨q,(h i (fun z=>(HH _).mp z q) hi (oA q')).trans q'⟩
  have mk:∀e2,e2.length≤8*t→kS R e2 ps→fY bs.flatten e2 ps t:=fun e2 h1 h2=>⟨L.d.v,yH,h1,.inr (b9 bs I.nu I.s0 I.s1 (aR R [] tail rfl l (by rw[List.append_nil];exact g) (ji hC (fun a_ h=>(nomatch h)) (fun k hk=>hT k (List.mem_of_getElem? hk)) h2 (fun h=>absurd h hR))))⟩;have L1:Lv {I with cp:=I.la} bs.flatten ef ps t:=⟨mk ef (by refine hF.l.symm▸?_;exact eQ 17596625717408 1 [8] rfl yH) fun i hi=>(hS i hi).imp id fun h=>⟨h.1,hF.p i hi⟩,L.sp,L.nu,L.s0,L.s1,L.pl,L.co,L.c0,.inr (aR bs R tail rfl l g (vG hR mc hf hu hc hC hT (fun i hi=>(hS i hi).imp id fun h=>⟨h.1,hF.p i hi⟩) hh (.inr ⟨rfl,hF⟩)))⟩;have eI:I=⟨(R.map (·.1)).length,0,I.s0,I.s1,I.nu,I.u0,I.u1,I.hl,I.sp,R.map (·.1),I.pl,I.co⟩:=by refine hf▸?_;obtain⟨la,cp,s0,s1,nu,u0,u1,hl,sp,fr,pl,co⟩:=I;have a1:la=(fr.length:Int):=mc.trans (by exact(show fr.length=R.length from G3).symm▸rfl);have a2:cp=0:=h5;clear L L1 g h5 hT hc hf G3 hh mc hu idle;subst a1 a2;rfl
  refine w7 (w:=w) (I:=I) (e:=e) ht L1 rfl hF BN n c (fun e' aM=>(∃i,i≤ns.length∧aM=(jD R ns ps.length e i).2)∨(((jD R ns ps.length e ns.length).1.length:Int)>ps.length*8∧aM=(jD R ns ps.length e ns.length).2++[.cut (ps.length*8)])) ?_ ?_ (fun h=>absurd (show I.la>I.cp by exact LM 1988420891333716 1 [-1,1,1] rfl mc h5 fE) h) kd hk
  ·rintro _ aM (⟨i,hi,rfl⟩|⟨QR,rfl⟩)
   ·have:=(Dt i).1;refine⟨rL (B:=8*t) Ee (fm 23238587499080059040 1 [8] rfl ht) (aX this (aX (Nat.min_le_right _ _) (aX G2 (aX (aX (Nat.le_add_right _ _) (Nat.le_succ _)) (aX (Nat.le_of_eq Bw.symm) (aX l (aX (Nat.add_le_add_left ht 1) (bZ tt)))))))) (bd i),fun e2 h2=>?_⟩;obtain⟨_,a⟩:=vB C4 i e2 h2;exact(mk e2 (Bx Ee h2 fun o ho=>(bd i o ho).2) (Om e2 fun j hj a_ hl=>a j hj hl)).up (Nat.le_add_right _ _)
   ·have:=(Dt ns.length).1
    have Oo:∀o∈(jD R ns (ps.length:Int) e ns.length).2++[.cut (ps.length*8)],Op.ok o∧Op.bd (8*t) o:=fun o ho=>by
     rcases cC.mp ho with ho|ho
     ·exact bd _ o ho
     ·refine(c9.mp ho).symm▸?_;exact⟨⟨by exact c7 _,by exact iA 75929681125899606296755 1 [8,8] rfl ht yH⟩,by refine(?_:((ps.length:Int)*8).toNat≤_);exact fe 16180077011686951456 1 [8,1] rfl yH (aA (bX 235450483 rfl))⟩
    refine⟨rL (B:=8*t) Ee (by exact fm 23238587499080059040 1 [8] rfl ht) (by refine bR.symm▸?_;refine List.length_singleton.symm▸?_;exact@KN [_,_,_,_,_,_,_] [] 475517731542004699385219178824751513225640777291882384 1 [1,1,-1,1,1,1] rfl ht l Bw G2 this (cq (bX 0 rfl))) Oo,fun e2 h2=>?_⟩;refine(mk e2 (Bx Ee h2 fun o ho=>(Oo o ho).2) (Om e2 fun j hj Qq hl=>?_)).up (Nat.le_add_right _ _);rcases h2.snoc_inv rfl with h9|⟨b0,h9,rfl⟩
    ·exact(vB C4 _ e2 h9).2 j hj hl
    ·obtain⟨a1,a2⟩:=vB C4 _ b0 h9;refine(?_:rT (fZ b0 ((ps.length:Int)*8).toNat) j=_);refine e8.symm▸?_;refine(wW Qq (aX hl a1)).symm▸?_;exact a2 j hj hl
  ·intro _;have C:=vp (w:=w) n c bs.flatten e ef I.s0 I.s1 I.nu I.u0 I.u1 ps.length I.hl I.sp (R.map (·.1)) ns I.pl I.co (fun p=>(aV (newOf (R.map (·.1))) p).getD 0) (yI R) (fun i=>(jD R ns ps.length e i).1) (fun i=>(jD R ns ps.length e i).2) ⟨fun h=>hR (List.map_eq_nil_iff.mp h),by rw[bK];exact gn 29406512623989039787504885577760 1 [1,1,-1] rfl ht l Bw⟩ (by rw[←hc,mc,bK]) ⟨by exact c7 _,by exact dC 1158594985654976995 rfl ht yH⟩ tV ⟨by have:=lV (R.map (·.1));rw[bK]at this;exact@mN [_,_,_,_,_] [] 3068676849906707117501310835456378097 1 [1,1,-1,1] rfl ht l Bw this,by exact@mN [_,_,_,_,_] [] 3068676849906707117501310835456378097 1 [1,1,-1,1] rfl ht l Bw G2⟩ (aC 281536552638629888 rfl BO) ?_ (by refine hF.l.symm▸?_;exact iA 75929680937993669511328 1 [8,8] rfl ht yH) C9 yi
   ·refine eI.symm▸?_;exact C.mono (fun r cs' h=>h) fun cs' df=>by refine f9 df fun h1 n' t_=>cS t_ fun e' aM h2 h3=>?_;exact bz n' e' aM h2 h1 h3
   ·have look:∀i,i<ns.length→∃x k v,lv R (ns.getD i 0)=some v∧aV (newOf (R.map (·.1))) (ns.getD i 0)=some x∧0<x∧R[(x-0-1).toNat]?=some (ns.getD i 0,k,v):=fun i hi=>by
     generalize q:lv R (ns.getD i 0)=y_;induction y_ with
     |none=>exact absurd q ((HH _).mp (getD_mem hi))
     |some v=>exact ao ((oy (p:=ns.getD i 0) (R:=R) (n:=0)).2 v q) fun x k x1 x2 x3=>aR x k v rfl (by rw[qi];exact x1) x2 x3
    refine⟨rfl,rfl,fun i hi a_=>?_,fun i hi hc=>?_,fun i hi a_=>?_,fun p=>rH _,fun i hi hc=>by exact(jg hi hc).symm▸rfl,fun i hi hc=>by exact(jg hi hc).symm▸rfl,fun i hi hc=>?_,fun i=>by have:=el i;refine(?_:_≤50000);exact iA 2546809277159801112592 1 [8,1] rfl ht this,fun i=>by have:=(Dt i).1;refine(?_:_≤1000);exact@KN [_,_,_,_,_,_,_] [] 116092482553400888080903996937276875161035514021360 1 [1,1,-1,1,1,1] rfl ht l Bw G2 this (Nat.min_le_right _ _)⟩
    ·refine br (look i hi) fun x k v a1 a2 a3 a4=>?_;show _=some ((aV _ _).getD 0);refine a2.symm▸?_;rfl
    ·refine br (look i hi) fun x k v a1 a2 a3 a4=>?_;have:=(dX.mp a4).1;have:=C4 _ (getD_mem hi);show(1≤(aV _ _).getD 0∧(aV _ _).getD 0≤1000)∧_;exact a2.symm▸(((⟨⟨cm 6481950699503987 rfl (aA (aZ 18142040765022323 rfl a3)),@KL [_,_,_,_,_] [_] 33656212611190793386671105967565802034264426428483 1 [1,1,-1,1,-1] rfl ht l Bw (by assumption) (aA (aZ 18142040765022323 rfl a3))⟩,⟨aZ 1098072435 rfl this,yU 142906998751214499805251 rfl ht yH hc⟩⟩):(1≤x∧x≤1000)∧_))
    ·refine br (look i hi) fun x k v a1 a2 a3 a4=>?_;have:=g.val a4;refine(?_:aL _ (32+(((aV (newOf (R.map (·.1))) (ns.getD i 0)).getD 0:Int)-1)*32+24).toNat (32+(((aV (newOf (R.map (·.1))) (ns.getD i 0)).getD 0:Int)-1)*32+24+8).toNat=_);refine a2.symm▸?_;refine(?_:aL _ (32+(x-1)*32+24).toNat (32+(x-1)*32+24+8).toNat=_);refine(show(32+(x-1)*32+24).toNat=32*((x-0-1).toNat+1)+24 by exact bo (fO 8615990359365012176290741794803993550631867433134336 1 [1,-32] rfl (aA (eM 19947390099985485912540287091 1 [32] rfl a3)) (aA (aZ 18142040765022323 rfl a3))) (fO 8615990359365012176290741794803993544257355765648016 1 [-1,32] rfl (aA (eM 19947390099985485912540287091 1 [32] rfl a3)) (aA (aZ 18142040765022323 rfl a3)))).symm▸?_;refine(show(32+(x-1)*32+24+8).toNat=32*((x-0-1).toNat+1)+32 by exact bo (fO 35291096512113714538776794555045792599245437688174651648 1 [1,-32] rfl (aA (eM 81706655697826971414837778288755 1 [32] rfl a3)) (aA (aZ 18142040765022323 rfl a3))) (fO 35291096512113714538776794555045792599236952114181835408 1 [-1,32] rfl (aA (eM 81706655697826971414837778288755 1 [32] rfl a3)) (aA (aZ 18142040765022323 rfl a3)))).symm▸?_;refine this.symm▸?_;unfold yI;refine a1.symm▸?_;rfl
    ·refine(md fun z=>hc z.2).symm▸?_;exact⟨rfl,rfl⟩
 ·exact idle h5 hF
end
theorem w8:El (fun r cs'=>∃x' y' kd,(kd=110∨kd=111∨kd=68∨kd=96)∧r=.str kd∧cs'=[.ints [x',y'],.list [.str 110,.str 111,.str 68,.str 96]]) fun T=>∀x y kd,(kd=110∨kd=111∨kd=68∨kd=96)→T (.str kd) [.ints [x,y],.list [.str 110,.str 111,.str 68,.str 96]]:=by rintro T h r cs' ⟨x,y,kd,h0,rfl,rfl⟩;exact h x y kd h0
theorem vD:El (fun r cs'=>r=.ref 9∧∃n',cs'=Ea n' c [] J) fun T=>∀n,T (.ref 9) (Ea n c [] J):=by rintro T h r cs' ⟨rfl,n,rfl⟩;exact h n
theorem oG:El (fun r cs'=>r=.tup [.ref 2,.ref 3]∧∃x y ch qs,(Dr ps ch qs 2∧ch≠[])∧cs'=[.ints [x,y],.ints ps,.gf ch,.ints qs]) fun T=>∀x y ch qs,Dr ps ch qs 2→ch≠[]→T (.tup [.ref 2,.ref 3]) [.ints [x,y],.ints ps,.gf ch,.ints qs]:=by rintro T h r cs' ⟨rfl,x,y,ch,qs,⟨D,fy⟩,rfl⟩;exact h x y ch qs D fy
theorem me:El (fun r cs'=>∃n' b' J,r=.int J.la∧cs'=lw n' c b' b' [] J∧Lv J b' e qs (t+2)∧aV J.co J.la=some (qs.length:Int)) fun T=>∀n b J,Lv J b e qs (t+2)→aV J.co J.la=some (qs.length:Int)→T (.int J.la) (lw n c b b [] J):=by rintro T h r cs' ⟨n,b,J,rfl,rfl,h0,h1⟩;exact h n b J h0 h1
theorem oH{D:aD→Prop}:Li (fun cs'=>c≠none∧∃n' sy b' ops J,cs'=lw n' c sy b' ops J∧dj sy ops∧∀b',Sv sy ops b'→D b') fun T=>∀n sy b ops J,dj sy ops→(∀b',Sv sy ops b'→D b')→T (lw n c sy b ops J):=by rintro T h cs' ⟨_,n,sy,b,ops,J,rfl,h0,h1⟩;exact h n sy b ops J h0 h1
theorem rM:El (fun r cs'=>∃x n' b' e' J,r=.tup [.int 0,.int x,.int x]∧cs'=iu n' c b' b' [] e' e' [] J∧Lv J b' e' ps (t+2)) fun T=>∀x n b e J,Lv J b e ps (t+2)→T (.tup [.int 0,.int x,.int x]) (iu n c b b [] e e [] J):=by rintro T h r cs' ⟨x,n,b,e,J,rfl,rfl,h0⟩;exact h x n b e J h0
theorem tN{D:aD→aD→Prop}:Li (fun cs'=>c≠none∧∃n' sy b' ops dy e' aM J,cs'=iu n' c sy b' ops dy e' aM J∧dj sy ops∧dj dy aM∧∀b' e',Sv sy ops b'→Sv dy aM e'→D b' e') fun T=>∀n sy b ops dy e aM J,dj sy ops→dj dy aM→(∀b' e',Sv sy ops b'→Sv dy aM e'→D b' e')→T (iu n c sy b ops dy e aM J):=by rintro T h cs' ⟨_,n,sy,b,ops,dy,e,aM,J,rfl,h0,h1,h2⟩;exact h n sy b ops dy e aM J h0 h1 h2
noncomputable abbrev Oq(n:Int)(c:Option Int)(fl:List (Nat×V))(sy:aD)(ops:List Op)(dy:aD)(aM:List Op)(l:List Int)(b e:aD):List O:=T3 n c fl sy ops dy aM l++[dc 0 none 12 13 14,.dS [(194,.ref 20),(225,.ref 18)],.d0,BL 15 16 17,.d0,.d0,.d0,dA 11 225 b 22 19,.ba b,dA 11 194 e 23 21,.ba e,.ops [],.ops []]
theorem rN{n:Int}{c:Option Int}{fl:List (Nat×V)}{sy:aD}{ops:List Op}{dy:aD}{aM:List Op}{l:List Int}:El (Lx n c fl sy ops dy aM l) fun T=>∀b e,Sv sy ops b→Sv dy aM e→T (.ref 11) (Oq n c fl sy ops dy aM l b e):=by rintro T h r cs' ⟨rfl,b,e,h0,h1,rfl⟩;exact h b e h0 h1
theorem kX{n:Int}{c:Option Int}{fl:List (Nat×V)}{b:aD}{e:aD}{l:List Int}:El (Lx n c fl b [] e [] l) fun T=>T (.ref 11) (Oq n c fl b [] e [] l b e):=fun T h=>rN T fun b' e' h0 h1=>by rw[h0.nil_inv rfl,h1.nil_inv rfl];exact h
theorem vE:El (fun r cs'=>r=.ref 9∧∃n',cs'=Ea n' c b J) fun T=>∀n,T (.ref 9) (Ea n c b J):=by rintro T h r cs' ⟨rfl,n,rfl⟩;exact h n
theorem eZ:El (fun r cs'=>r=.ref 9∧∃n',cs'=FW n' c fl b e J) fun T=>∀n,T (.ref 9) (FW n c fl b e J):=by rintro T h r cs' ⟨rfl,n,rfl⟩;exact h n
theorem Du:El (fun r cs'=>∃x' y' kd,(kd=110∨kd=111∨kd=68∨kd=96)∧r=.str kd∧cs'=[.ints [x',y'],.list [.str 111,.str 96]]) fun T=>∀x y kd,(kd=110∨kd=111∨kd=68∨kd=96)→T (.str kd) [.ints [x,y],.list [.str 111,.str 96]]:=by rintro T h r cs' ⟨x,y,kd,h0,rfl,rfl⟩;exact h x y kd h0
theorem tO{Z:List O→Prop}:Li (fun cs'=>(none:Option Int)≠none∧Z cs') fun a_=>True:=fun a_ b_ c_ h=>(h.1 rfl).elim
theorem Ky{x:List Int}(h:(x==x)=false):False:=by rw[beq_self_eq_true]at h;exact tF h
section
variable{w:World}
theorem j1{b e:aD}{ps:List Int}{t:Nat}(ht:t≤30)(D:fY b e ps t)(n:Int){P:Prop}(k:∀b' J,mC w n none b b' J→Lv J b' e ps t→P):P:=by exact cS (G9 (w:=w) ht D n) fun b' J h1 h2=>k b' J h1 h2
end
noncomputable def LC:O:=.inst 497 [(171,.ref 6),(172,.ref 7),(173,.ref 8)]
noncomputable abbrev D1(n:Int)(c:Option Int)(x y:Int)(b:aD)(J:Ix)(ps:List Int):List O:=[dc n c 3 4 5,.ints [x,y],.list [.ref 9,.none],.dS [(225,.ref 10)],.dS [(225,.ref 13)],LC,.d0,.d0,.d0,.ints ps,dA 0 225 b 14 11,.ba b,dO 0 10 13,J.at 15 16 17,.ops [],.ints J.fr,.rows J.pl none,.eN J.co]
noncomputable abbrev D2(n:Int)(c:Option Int)(x y:Int)(b e:aD)(J:Ix)(ps:List Int):List O:=[dc n c 3 4 5,.ints [x,y],.list [.ref 9,.none],.dS [(225,.ref 10),(194,.ref 14)],.dS [(225,.ref 13)],LC,.d0,.d0,.d0,.ints ps,dA 0 225 b 16 11,.ba b,dO 0 10 13,J.at 18 19 20,dA 0 194 e 17 15,.ba e,.ops [],.ops [],.ints J.fr,.rows J.pl none,.eN J.co]
noncomputable abbrev E1(n:Int)(c:Option Int)(x y:Int)(sy:aD)(ops:List Op)(ps qs:List Int):List O:=[dc n c 3 4 5,.ints [x,y],.list [.ref 6,.ref 7],.dS [(225,.ref 8)],.dead,.dead,.ints ps,.ints qs,dA 0 225 sy 9 10,.ops ops,.dead]
noncomputable abbrev E2(n:Int)(c:Option Int)(x y:Int)(sy:aD)(ops:List Op)(dy:aD)(aM:List Op)(ps:List Int):List O:=[dc n c 3 4 5,.ints [x,y],.list [.ref 6,.none],.dS [(225,.ref 7),(194,.ref 10)],.dead,.dead,.ints ps,dA 0 225 sy 8 9,.ops ops,.dead,dA 0 194 dy 11 12,.ops aM,.dead]
noncomputable abbrev E3(n:Int)(c:Option Int)(x y:Int)(sy:aD)(ops:List Op)(dy:aD)(aM:List Op)(ps qs:List Int):List O:=[dc n c 3 4 5,.ints [x,y],.list [.ref 6,.ref 13],.dS [(225,.ref 7),(194,.ref 10)],.dead,.dead,.ints ps,dA 0 225 sy 8 9,.ops ops,.dead,dA 0 194 dy 11 12,.ops aM,.dead,.ints qs]
inductive Qd(c:Option Int):List O→Prop
 |a {n x y:Int} {sy:aD} {ops:List Op} {ps qs:List Int} (h:dj sy ops) (k:∀b',Sv sy ops b'→fY b' [] ps 8∨fY b' [] qs 8):Qd c (E1 n c x y sy ops ps qs)
 |b {n x y:Int} {sy dy:aD} {ops aM:List Op} {ps:List Int} (h:dj sy ops) (h':dj dy aM) (k:∀b' e',Sv sy ops b'→Sv dy aM e'→fY b' e' ps 8):Qd c (E2 n c x y sy ops dy aM ps)
 |d {n x y:Int} {sy dy:aD} {ops aM:List Op} {ps qs:List Int} (h:dj sy ops) (h':dj dy aM) (k:∀b' e',Sv sy ops b'→Sv dy aM e'→fY b' e' ps 8∨fY b' e' qs 8):Qd c (E3 n c x y sy ops dy aM ps qs)
noncomputable abbrev Dv:List (Nat×V):=[(128,.ref 0),(124,.ref 1),(86,.ref 2),(129,.ref 12)]
def Ef(c:Option Int)(k:Nat)(σ:St):Prop:=∃n x y b e J ps,Lv J b e ps (2*k)∧((k=0∧e=[]∧σ=⟨Dv,D1 n c x y b J ps⟩)∨(0<k∧σ=⟨Dv,D2 n c x y b e J ps⟩))
theorem Ef.el{c:Option Int}{k:Nat}{T:St→Prop}(h1:∀n x y b J ps,k=0→Lv J b [] ps (2*k)→T ⟨Dv,D1 n c x y b J ps⟩)(h2:∀n x y b e J ps,0<k→Lv J b e ps (2*k)→T ⟨Dv,D2 n c x y b e J ps⟩):∀σ,Ef c k σ→T σ:=by
 rintro σ ⟨n,x,y,b,e,J,ps,L,⟨h,rfl,rfl⟩|⟨h,rfl⟩⟩
 ·exact h1 n x y b J ps h L
 ·exact h2 n x y b e J ps h L
def Hf(c:Option Int)(k:Nat)(σ:St):Prop:=∃n x y b e J ps,Lv J b e ps (2*(k+1))∧((e=[]∧σ=⟨Dv,D1 n c x y b J ps⟩)∨σ=⟨Dv,D2 n c x y b e J ps⟩)
theorem Hf.a{c:Option Int}{k:Nat}{n x y:Int}{b:aD}{J:Ix}{ps:List Int}(L:Lv J b [] ps (2*(k+1))):Hf c k ⟨Dv,D1 n c x y b J ps⟩:=b9 n x y b (dF [] J ps L (.inl ⟨rfl,rfl⟩))
theorem Hf.b{c:Option Int}{k:Nat}{n x y:Int}{b e:aD}{J:Ix}{ps:List Int}(L:Lv J b e ps (2*(k+1))):Hf c k ⟨Dv,D2 n c x y b e J ps⟩:=b9 n x y b (dF e J ps L (.inr rfl))
theorem Ef.mk{c:Option Int}{k:Nat}{n x y:Int}{b e:aD}{J:Ix}{ps:List Int}(L:Lv J b e ps (2*(k+1))):Ef c (k+1) ⟨Dv,D2 n c x y b e J ps⟩:=b9 n x y b (dF e J ps L (.inr ⟨Nat.succ_pos _,rfl⟩))
theorem mD{x:Int}(h:(!(x==x))=true):False:=by rw[beq_self_eq_true]at h;exact fT h
theorem iS{x:List Int}(h:(!(x==x))=true):False:=by rw[beq_self_eq_true]at h;exact fT h
theorem Lv.vz{I:Ix}{b e:aD}{ps:List Int}{t:Nat}(L:Lv I b e ps t):ps.length≤t:=L.d.z
section
variable{w:World}
theorem w9{J:Ix}{b:aD}{ps:List Int}{t:Nat}(ht:t≤20)(L:Lv J b [] ps t)(n:Int)(c:Option Int):aF w 726 70 11 [.ref 0,.ref 9] (Ea n c b J) (dT (.ref 18) (FW n c tT b [] J++[.ints ps])) dk:=by refine iy (rJ (w:=w) ht L n c) fun m p1 p2 _ p4 p5=>?_;exact G6 n c b J m ps p1 p2 p4 (p5.imp id fun h=>⟨h.1,List.length_eq_zero_iff.mp (by have:=h.2;simp at this;exact bo (fm 3765765888 1 [-1] rfl this) (bX 112 rfl))⟩)
theorem Dw{J:Ix}{b e:aD}{ps:List Int}{t:Nat}(ht:t≤20)(L:Lv J b e ps t)(n:Int)(c:Option Int):aF w 726 70 11 [.ref 0,.ref 9] (FW n c tT b e J) (dT (.ref 18) (FW n c tT b e J++[.ints ps])) dk:=by exact iy (rJ (w:=w) ht L n c) fun m p1 p2 p3 p4 p5=>G4 n c b e J m ps p1 p2 p3 p4 p5
theorem ig{J:Ix}{b e:aD}{ps:List Int}{t:Nat}(ht:t≤20)(L:Lv J b e ps t)(n:Int)(c:Option Int):aF w 726 70 11 [.ref 0,.ref 9] (FW n c yG b e J) (dT (.ref 18) (FW n c yG b e J++[.ints ps])) dk:=by exact iy (rJ (w:=w) ht L n c) fun m p1 p2 p3 p4 p5=>G5 n c b e J m ps p1 p2 p3 p4 p5
theorem qm{c:Option Int}{X:St→Prop}{K:KF}{k:Nat}(ht:k≤8)(hK:∀σ,(∃κ σ',Norm (List.range 3) κ σ σ'∧Ef c (k+1) σ')→K .next σ):∀σ,Hf c k σ→v5 w 100 X 59 (List.range 3) D4.tl.hd.body.tl σ K:=by
 rintro _ ⟨n,x,y,b,e,J,ps,L,⟨rfl,rfl⟩|rfl⟩
 ·exact ae (w9 (fm 9727797357537985184 1 [2] rfl ht) L n c) [0,3,4,5,6,7,8,10,11,12,13,14,15,16,17] tt rfl rfl [0,3,4,5,6,7,8,10,11,12,13,18,19,20,21,22,23,24,25] tt (⟨fun h=>(iS h).elim,fun a_=>hK _ (jo [0,1,2,3,4,5,6,7,8,9,10,11,12,13,18,19,20,21,22,23,24] (.mk L) tt rfl rfl)⟩)
 ·exact ae (Dw (fm 9727797357537985184 1 [2] rfl ht) L n c) [0,3,4,5,6,7,8,10,11,12,13,14,15,16,17,18,19,20] tt rfl rfl [0,3,4,5,6,7,8,10,11,12,13,21,22,23,24,25,26,27,28] tt (⟨fun h=>(iS h).elim,fun a_=>hK _ (jo [0,1,2,3,4,5,6,7,8,9,10,11,12,13,21,22,23,24,25,26,27] (.mk L) tt rfl rfl)⟩)
theorem By(n:Int)(c:Option Int)(x y:Int):aF w 747 100 3 [.ref 0,.ref 1,.ref 2] [dc n c 3 4 5,.ints [x,y],.list [.ref 9,.none],.d0,.d0,LC,.d0,.d0,.d0,.ints []]
  (fun r cs'=>r=.bool true∧Qd c cs') (fun cs'=>Qd c cs'):=by
 refine aE (GP w) tt 60 fun qQ qX qq qx=>aW vD (Dd (w:=w) n c (.zero true false) (tv n c (.zero true false))) [0,3,4,5,6,7,8] tt rfl rfl ?_
 ·intro n1
  refine aW fF (dH (w:=w) x y 3 (by decide) (by decide)) [1] tt rfl rfl ?_
  ·intro m x y m0 m1
   refine iT (aZ 1188896960602712332499 rfl m0) (aZ 63721222496814530195 rfl m1) (Ef c) (b9 n1 x y [] (dF [] _ [] Bk (.inl (aN rfl rfl rfl)))) (fun a_ b_ c_ d_=>trivial) ?_ ?_
   ·intro k v σ hk hv hI
    subst hv
    have hk:k<4:=by exact yU 19625686903079055935233 rfl m1 hk (aA (aZ 70863781007475 rfl m0))
    revert σ
    refine Ef.el ?_ ?_
    ·intro n x y b J ps h0 L
     refine ah (Hf c k) (aW fF (dH (w:=w) x y 3 (by decide) (by decide)) [1] tt rfl rfl ?_) (qm (k:=k) (aC 117606144 rfl h0) fun a_ h=>h)
     ·intro q x y _ _
      refine⟨fun a_=>?_,fun a_=>?_⟩
      ·refine aW w8 (tA (w:=w) x y) [1,18] tt rfl rfl ?_
       ·intro x y kd CW
        refine ae (rC (w:=w) n c) [0,3,4,5,10] tt rfl rfl [0,3,4,5,10,19,20,21] tt (i' rM tN (vC (w:=w) (fm 123288151917216 1 [2] rfl h0) L n c kd CW) [12,0,10,13,3,4,5,6,7,8,11,19,20,14,21,15,16,17] tt rfl rfl ?_ ?_)
        ·intro z n' b' e' J' L'
         refine⟨fun h=>(mD h).elim,fun a_=>?_⟩
         set_option smartUnfolding false in refine⟨fun h=>(mD h).elim,fun a_=>?_⟩
         exact jo [0,1,2,3,4,5,6,7,8,9,10,11,12,13,19,20,22,23,24,25,26] (.b L') tt rfl rfl
        ·intro n' sy b' ops dy e' aM J' s1 s2 hD
         exact bJ [0,1,2,3,4,5,9,10,22,11,19,23,20] (qx _ (((.b s1 s2 fun b' e' h1 h2=>(hD b' e' h1 h2).up (fm 1973104335137424 1 [2] rfl h0))))) rfl tt
      ·refine aW oG (ma (w:=w) x y ps (by have:=L.vz;exact iA 11839571312781328 1 [2,1] rfl h0 this) L.d.v) [1,9] tt rfl rfl ?_
       ·intro x y ch qs D fy
        have hq:=D.len
        have hp:=L.vz
        refine⟨by exact tZ 814827560531650520895477776 1 [2,1,1] rfl hk hq hp,(i' me oH (oF (w:=w) (fm 123288151917216 1 [2] rfl h0) L D fy n c) [12,0,10,13,3,4,5,6,7,8,11,14,15,16,17,18] tt rfl rfl ?_ ?_)⟩
        ·intro n' b' J' L' hc
         refine ae (p9 (w:=w) J'.la J'.cp J'.s0 J'.s1 J'.nu J'.u0 J'.u1 J'.hl J'.sp) [12,0,10,13,21,22,23] tt rfl rfl [12,0,10,13,21,22,23] tt (⟨fun h=>(mD h).elim,fun a_=>(ae (count_at (w:=w) J'.la J'.cp J'.s0 J'.s1 J'.nu J'.u0 J'.u1 J'.hl J'.sp J'.co J'.la _ hc) [12,0,10,13,21,22,23] tt rfl rfl [12,0,10,13,21,22,23] tt (aN (tZ 814827560531650520895477776 1 [2,1,1] rfl hk hq hp) (fun h=>(mD h).elim) (fun a_=>?_)))⟩)
         exact jo [0,1,2,3,4,5,6,7,8,19,10,11,12,13,20,21,22,23] (.a L') tt rfl rfl
        ·intro n' sy b' ops J' s1 hD
         exact bJ [0,1,2,3,4,5,9,19,10,20,11] (qx _ ((.a s1 fun b' h1=>(hD b' h1).imp (fY.up (fm 1973104335137424 1 [2] rfl h0)) (fY.up (fm 1973104335137424 1 [2] rfl h0))))) rfl tt
    ·intro n x y b e J ps _ L
     refine ah (Hf c k) (aW fF (dH (w:=w) x y 3 (by decide) (by decide)) [1] tt rfl rfl ?_) (qm (k:=k) (aC 1191282432 rfl hk) fun a_ h=>h)
     ·intro q x y _ _
      refine⟨fun a_=>?_,fun a_=>?_⟩
      ·refine aW w8 (tA (w:=w) x y) [1,21] tt rfl rfl ?_
       ·intro x y kd CW
        refine ae (rB (w:=w) n c) [0,3,4,5,10,14] tt rfl rfl [0,3,4,5,10,14] tt (i' rM tN (vC (w:=w) (fm 1249119339283104 1 [2] rfl hk) L n c kd CW) [12,0,10,13,3,4,5,6,7,8,11,14,15,16,17,18,19,20] tt rfl rfl ?_ ?_)
        ·intro z n' b' e' J' L'
         refine⟨fun h=>(mD h).elim,fun a_=>?_⟩
         set_option smartUnfolding false in refine⟨fun h=>(mD h).elim,fun a_=>?_⟩
         exact jo [0,1,2,3,4,5,6,7,8,9,10,11,12,13,14,15,22,23,24,25,26] (.b L') tt rfl rfl
        ·intro n' sy b' ops dy e' aM J' s1 s2 hD
         exact bJ [0,1,2,3,4,5,9,10,22,11,14,23,15] (qx _ (((.b s1 s2 fun b' e' h1 h2=>(hD b' e' h1 h2).up (fm 19986403332991632 1 [2] rfl hk))))) rfl tt
      ·refine aW oG (ma (w:=w) x y ps (by have:=L.vz;exact iA 11839846173911056 1 [2,1] rfl hk this) L.d.v) [1,9] tt rfl rfl ?_
       ·intro x y ch qs D fy
        have hq:=D.len
        have hp:=L.vz
        refine⟨by exact tZ 814827560531650520895477776 1 [2,1,1] rfl hk hq hp,(i' me oH (oF (w:=w) (fm 1249119339283104 1 [2] rfl hk) L D fy n c) [12,0,10,13,3,4,5,6,7,8,11,16,18,19,20,21] tt rfl rfl ?_ ?_)⟩
        ·intro n' b' J' L' hc
         refine ae (p9 (w:=w) J'.la J'.cp J'.s0 J'.s1 J'.nu J'.u0 J'.u1 J'.hl J'.sp) [12,0,10,13,24,25,26] tt rfl rfl [12,0,10,13,24,25,26] tt (⟨fun h=>(mD h).elim,fun a_=>(ae (count_at (w:=w) J'.la J'.cp J'.s0 J'.s1 J'.nu J'.u0 J'.u1 J'.hl J'.sp J'.co J'.la _ hc) [12,0,10,13,24,25,26] tt rfl rfl [12,0,10,13,24,25,26] tt (aN (tZ 814827560531650520895477776 1 [2,1,1] rfl hk hq hp) (fun h=>(mD h).elim) (fun a_=>?_)))⟩)
         exact jo [0,1,2,3,4,5,6,7,8,22,10,11,12,13,14,15,23,17,24,25,26] (.b L') tt rfl rfl
        ·intro n' sy b' ops J' s1 hD
         exact bJ [0,1,2,3,4,5,9,10,23,11,14,17,15,22] (qx _ (((.d s1 (fW (L.d.el (fm 1249122023637664 1 [2] rfl hk))) fun b' e' h1 h2=>by rw[h2.nil_inv rfl];exact(hD b' h1).imp (fY.up (fm 19986403332991632 1 [2] rfl hk)) (fY.up (fm 19986403332991632 1 [2] rfl hk)))))) rfl tt
   ·refine Ef.el ?_ ?_
    ·intro n x y b J ps h _;exact absurd h (by exact fun e=>Et 76662821870532560698 0 [1,1,-1] rfl m0 h (aA (aZ 70863781007475 rfl m0)))
    ·intro n x y b e J ps _ L
     have h8:2*(((2:Nat):Int)+m).toNat≤8:=by exact yT 19625682402172661138080 1 [2,2] rfl m1 (aA (aZ 70863781007475 rfl m0))
     exact au [0,1,2,3,4,5,9,10,16,11,14,17,15] (qq _ _ ⟨rfl,.b (fW (L.d.bl (aC 9727821382703645344 rfl h8))) (fW (L.d.el (aC 9727821382703645344 rfl h8))) fun b' e' h1 h2=>by rw[h1.nil_inv rfl,h2.nil_inv rfl];exact L.d.up h8⟩) rfl rfl tt
end
noncomputable def Bz:Ss:=(.cons (.asg (.loc 129 233362) (.call (.gX 24 851362) (.cons (.loc 128 320962) .nil) 1312162) 1769362) (.cons (.asg (.tup (.cons (.loc 195 540563) (.cons (.loc 162 392363) .nil)) 1078163) (.call (.gX 25 781163) (.cons (.loc 124 480563) (.cons (.loc 133 408563) .nil)) 1933163) 3228563) (.cons (.expr (.sA (.loc 129 233364) 65 (.cons (.loc 195 551364) (.cons (.call (.gX 143 249564) (.cons (.loc 162 405564) .nil) 787164) .nil)) 1308564 2921364) 2921364) (.cons (.asg (.loc 135 310165) (.sA (.loc 128 314365) 106 (.cons (.lst (.cons (.int 0 92965) .nil) 245965) .nil) 1005565 1389565) 1922965) (.cons (.Ca (.cmp .ne (.call (.gX 23 772766) (.cons (.loc 135 318566) (.cons (.call (.gX 24 859766) (.cons (.loc 135 329366) .nil) 1320566) .nil)) 2692766) (.loc 162 412166) 3383966) (.cons (.ret (.bool false 393567) 926967) .nil) .nil 11369366) (.cons (.expr (.sA (.loc 129 233368) 67 (.cons (.sA (.loc 128 319168) 51 (.cons (.str 194 248368) .nil) 703168 1087168) (.cons (.call (.gX 21 635968) (.cons (.loc 124 487768) (.cons (.lst (.cons (.str 111 493168) (.cons (.str 96 805168) .nil)) 1567768) .nil)) 2939968) (.cons (.none 352768) .nil))) 1078168 5839768) 5839768) (.cons (.asg (.loc 135 310169) (.sA (.loc 128 314369) 106 (.cons (.lst (.cons (.int 0 92969) .nil) 245969) .nil) 1005569 1389569) 1922969) (.cons (.ret (.and (.cons (.cmp .eq (.call (.gX 23 775170) (.cons (.loc 128 320970) (.cons (.loc 129 247770) .nil)) 1619970) (.loc 162 406170) 2311170) (.cons (.cmp .eq (.call (.gX 23 796170) (.cons (.loc 135 341970) (.cons (.call (.gX 24 883170) (.cons (.loc 135 352770) .nil) 1343970) .nil)) 2716170) (.loc 162 435570) 3407370) .nil)) 6074370) 6607770) .nil))))))))
theorem Dx(w:World):bh w 754 3 [128,124,133] [] Bz [128,124,133,135,195,162,129] [24,25,143,23,21]:=⟨(rfl:mF nm D5=mF nm Bz)▸(GQ w).it,tt,tt,tt⟩
noncomputable abbrev GW(n:Int)(x y:Int)(b e:aD)(J:Ix)(ps:List Int):List O:=[dc n none 3 4 5,.ints [x,y],.ints ps,.dS [(194,.ref 13),(225,.ref 9)],.dS [(225,.ref 12)],LC,.d0,.d0,.d0,dA 0 225 b 15 10,.ba b,dO 0 9 12,J.at 17 18 19,dA 0 194 e 16 14,.ba e,.ops [],.ops [],.ints J.fr,.rows J.pl none,.eN J.co]
theorem w':kP [0]:=⟨by decide,by decide,fun x hx=>by rw[c9.mp hx];decide⟩
section
variable{w:World}
theorem xa(ht:t≤12)(L:Lv J b e ps t)(n x y:Int):aF w 754 120 0 [.ref 0,.ref 1,.ref 2] (GW n x y b e J ps) (dT (.bool true) []) dk:=by
 refine aE (Dx w) tt 60 fun qQ qX qq qx=>ae (Df n none b J e 0) [0,3,4,5,6,7,8,9,10,11,12,13,14,15,16,17,18,19] tt rfl rfl [0,3,4,5,6,7,8,9,10,20,21,22,23,24,25,26,27,28] tt (aW oG (ma (w:=w) x y ps (by have:=L.vz;exact dC 18446891100176 rfl ht this) L.d.v) [1,2] tt rfl rfl ?_)
 ·intro x y ch qs D fy;have hq:=D.len;have hp:=L.vz;refine⟨by exact m9 2429409752871446587136016 rfl ht hq hp,(i' me tO (oF (w:=w) (aC 854699812864 rfl ht) L D fy n none) [20,0,9,21,3,4,5,6,7,8,10,24,26,27,28,29] tt rfl rfl ?_ ?_)⟩
  ·intro n b J L _;refine j1 (w:=w) (aC 3500853118005392 rfl ht) L.d 0 fun b2 J2 H L2=>aW kX (l7 (w:=w) n none b [] e [] [0] w' (fW (L.d.bl (aC 3500853118005392 rfl ht))) (fW (L.d.el (aC 3500853118005392 rfl ht)))) [0,3,4,5,9,31,10,22,25,23,35] tt rfl rfl ?_
   ·refine ah (fun σ=>σ=⟨[(128,.ref 0),(124,.ref 1),(129,.ref 11),(162,.ref 2)],GW n x y b e J qs⟩) ?_ ?_
    ·refine aW eZ (je (w:=w) 0 none b b2 J2 e H) [36,37,38,39,40,41,42,43,44,45,46,47,48] tt rfl rfl ?_
     ·intro n2;exact ae (ig (aC 3500850433650832 rfl ht) L2 n2 none) [36,37,38,39,40,41,42,43,44,49,50,51,52,53,54,55,56,57] tt rfl rfl [36,37,38,39,40,41,42,43,44,49,50,58,59,60,61,62,63,64,65] tt (⟨fun h=>(iS h).elim,fun a_=>jo [0,1,30,3,4,5,6,7,8,9,10,20,21,22,23,31,25,32,33,34] rfl tt rfl rfl⟩)
    ·refine mz (ae (rA (w:=w) n none) [0,3,4,5,13,9] tt rfl rfl [0,3,4,5,13,9] tt (aW Du (AS (w:=w) x y) [1,20] tt rfl rfl ?_))
     ·intro x y kd CW;refine i' rM tO (vC (w:=w) (aC 3500850433650832 rfl ht) L n none kd CW) [11,0,9,12,3,4,5,6,7,8,10,13,14,15,16,17,18,19] tt rfl rfl ?_ ?_
      ·intro _ n b e J L;refine j1 (w:=w) (aC 14339494371352054160 rfl ht) L.d 0 fun b2 J2 H L2=>aW kX (l7 (w:=w) n none b [] e [] [0] w' (fW (L.d.bl (aC 14339494371352054160 rfl ht))) (fW (L.d.el (aC 14339494371352054160 rfl ht)))) [0,3,4,5,9,21,10,13,22,14,26] tt rfl rfl ?_
       ·refine ae (ig (aC 14339483376235776400 rfl ht) L n none) [0,3,4,5,6,7,8,9,10,11,12,13,14,21,22,23,24,25] tt rfl rfl [0,3,4,5,6,7,8,9,10,11,12,40,41,42,43,44,45,46,47] tt (aN trivial (fun a_=>?_) (fun h=>?_))
        ·refine aW eZ (je (w:=w) 0 none b b2 J2 e H) [27,28,29,30,31,32,33,34,35,36,37,38,39] tt rfl rfl ?_
         ·intro n2;exact ae (ig (aC 14339483376235776400 rfl ht) L2 n2 none) [27,28,29,30,31,32,33,34,35,48,49,50,51,52,53,54,55,56] tt rfl rfl [27,28,29,30,31,32,33,34,35,48,49,57,58,59,60,61,62,63,64] tt (au [] (qq _ _ ⟨rfl,rfl⟩) (av V.bool (show true=(qs==qs) from(beq_self_eq_true qs).symm)) rfl tt)
        ·exact(Ky h).elim
      ·exact trivial
  ·exact trivial
end
noncomputable def Qr:O:=.inst 497 [(171,.ref 8),(172,.ref 9),(173,.ref 10)]
noncomputable def j2:Ss:=(.cons (.asg (.loc 128 310183) (.sA (.loc 128 314383) 106 (.cons (.loc 137 553183) .nil) 1005583 1696783) 2230183) (.cons (.asg (.loc 132 386984) (.call (.gX 23 775784) (.cons (.loc 128 321584) (.cons (.call (.gX 24 862784) (.cons (.loc 128 332384) .nil) 1323584) .nil)) 2695784) 3305384) (.cons (.Ca (.and (.cons (.cmp .ne (.loc 132 388785) (.sub (.loc 86 317385) (.int 0 89985) 547785) 1233585) (.cons (.or (.cons (.cmp .is (.sub (.loc 86 325185) (.int 1 97785) 555585) (.none 331785) 1169985) (.cons (.cmp .ne (.loc 132 413385) (.sub (.loc 86 341985) (.int 1 114585) 572385) 1258185) .nil)) 2705985) .nil)) 4459185) (.cons (.ret (.bool false 393586) 926986) .nil) .nil 11369385) (.cons (.asg (.loc 128 310187) (.sA (.loc 128 314387) 106 (.cons (.lst (.cons (.int 0 92987) .nil) 245987) .nil) 1005587 1389587) 1922987) (.cons (.Ca (.cmp .ne (.call (.gX 23 772788) (.cons (.loc 128 318588) (.cons (.call (.gX 24 859788) (.cons (.loc 128 329388) .nil) 1320588) .nil)) 2692788) (.loc 132 412188) 3383988) (.cons (.ret (.bool false 393589) 926989) .nil) .nil 11369388) (.cons (.ret (.call (.gX 27 928790) (.cons (.loc 128 322190) (.cons (.uu 124 479390) (.cons (.loc 132 407390) .nil))) 2541590) 3074990) .nil))))))
noncomputable abbrev rO(n:Int)(c:Option Int)(fl:List (Nat×V))(x y:Int)(b e:aD)(J:Ix)(rs:List Int):List O:=[.dead,.cell (.ref 4),dc n c 5 6 7,.ints rs,.ints [x,y],.dS fl,.dS [(225,.ref 14)],Qr,.d0,.d0,.d0,dA 2 225 b 17 12,.ba b,dO 2 11 14,J.at 19 20 21,dA 2 194 e 18 16,.ba e,.ops [],.ops [],.ints J.fr,.rows J.pl none,.eN J.co]
noncomputable abbrev rP:List (Nat×V):=[(128,.ref 2),(132,.ref 3)]
noncomputable abbrev Nj:List (Nat×V):=[(225,.ref 11),(194,.ref 15)]
noncomputable abbrev HI:List (Nat×V):=[(194,.ref 15),(225,.ref 11)]
def oJ(σ:St):Prop:=∃n c x y b e J rs,Lv J b e rs 8∧(σ=⟨rP,rO n c Nj x y b e J rs⟩∨σ=⟨rP,rO n c HI x y b e J rs⟩)
theorem oJ.a(L:Lv J b e rs 8):oJ ⟨rP,rO n c Nj x y b e J rs⟩:=b9 n c x y (b9 b e J rs (qo L (.inl rfl)))
theorem oJ.b{n:Int}{c:Option Int}{x y:Int}{b e:aD}{J:Ix}{rs:List Int}(L:Lv J b e rs 8):oJ ⟨rP,rO n c HI x y b e J rs⟩:=b9 n c x y (b9 b e J rs (qo L (.inr rfl)))
theorem oJ.el{T:St→Prop}(h1:∀n c x y b e J rs,Lv J b e rs 8→T ⟨rP,rO n c Nj x y b e J rs⟩)(h2:∀n c x y b e J rs,Lv J b e rs 8→T ⟨rP,rO n c HI x y b e J rs⟩):∀σ,oJ σ→T σ:=by
 rintro σ ⟨n,c,x,y,b,e,J,rs,L,rfl|rfl⟩
 ·exact h1 n c x y b e J rs L
 ·exact h2 n c x y b e J rs L
def tP(rs:List Int)(σ:St):Prop:=∃n x y b e J,Lv J b e rs 8∧σ=⟨rP,rO n none HI x y b e J rs⟩
theorem tP.mk(L:Lv J b e rs 8):tP rs ⟨rP,rO n none HI x y b e J rs⟩:=b9 n x y b (cL e J L rfl)
theorem tP.el{T:St→Prop}(h1:∀n x y b e J,Lv J b e rs 8→T ⟨rP,rO n none HI x y b e J rs⟩):∀σ,tP rs σ→T σ:=by rintro σ ⟨n,x,y,b,e,J,L,rfl⟩;exact h1 n x y b e J L
theorem xb:El (dT (.bool true) []) fun T=>T (.bool true) []:=by rintro T h r cs' ⟨rfl,rfl⟩;exact h
noncomputable abbrev yz:KF:=fun fl a_=>match fl with|.ret v=>v=.bool true|_=>False
section
variable{w:World}
theorem rQ{X:St→Prop}:∀σ,oJ σ→v5 w 140 X 60 [1] j2.tl.tl.tl σ yz:=by
 refine oJ.el (fun n c x y b e J rs L=>?_) (fun n c x y b e J rs L=>?_)
 ·refine j1 (w:=w) (by decide) L.d 0 fun b2 J2 H L2=>aW kX (l6 (w:=w) n c b [] e [] [0] w' (fW (L.d.bl (by decide))) (fW (L.d.el (by decide)))) [2,5,6,7,11,17,12,15,18,16,22] tt rfl rfl ?_
  ·skip;refine ah (tP rs) ?_ ?_
   ·refine aW eZ (je (w:=w) 0 none b b2 J2 e H) [23,24,25,26,27,28,29,30,31,32,33,34,35] tt rfl rfl ?_
    ·intro n2;exact ae (ig (by decide) L2 n2 none) [23,24,25,26,27,28,29,30,31,36,37,38,39,40,41,42,43,44] tt rfl rfl [23,24,25,26,27,28,29,30,31,36,37,45,46,47,48,49,50,51,52] tt (⟨fun h=>(iS h).elim,fun a_=>jo [0,1,23,3,4,24,25,26,27,28,29,30,31,36,37,45,46,47,48,49,50,51] (.mk L2) tt rfl rfl⟩)
   ·refine tP.el fun n x y b e J L=>⟨tt,(aW xb (xa (w:=w) (by decide) L n x y) [2,4,3,5,6,7,8,9,10,11,12,13,14,15,16,17,18,19,20,21] tt rfl rfl ?_)⟩
    ·skip;exact rfl
 ·refine j1 (w:=w) (by decide) L.d 0 fun b2 J2 H L2=>aW kX (l7 (w:=w) n c b [] e [] [0] w' (fW (L.d.bl (by decide))) (fW (L.d.el (by decide)))) [2,5,6,7,11,17,12,15,18,16,22] tt rfl rfl ?_
  ·skip;refine ah (tP rs) ?_ ?_
   ·refine aW eZ (je (w:=w) 0 none b b2 J2 e H) [23,24,25,26,27,28,29,30,31,32,33,34,35] tt rfl rfl ?_
    ·intro n2;exact ae (ig (by decide) L2 n2 none) [23,24,25,26,27,28,29,30,31,36,37,38,39,40,41,42,43,44] tt rfl rfl [23,24,25,26,27,28,29,30,31,36,37,45,46,47,48,49,50,51,52] tt (⟨fun h=>(iS h).elim,fun a_=>jo [0,1,23,3,4,24,25,26,27,28,29,30,31,36,37,45,46,47,48,49,50,51] (.mk L2) tt rfl rfl⟩)
   ·refine tP.el fun n x y b e J L=>⟨tt,(aW xb (xa (w:=w) (by decide) L n x y) [2,4,3,5,6,7,8,9,10,11,12,13,14,15,16,17,18,19,20,21] tt rfl rfl ?_)⟩
    ·skip;exact rfl
end
theorem Eg{a b c:List Int}(h:a=b∨a=c)(h1:(!(a==b))=true)(h2:(!(a==c))=true):False:=by
 rcases h with rfl|rfl
 ·exact iS h1
 ·exact iS h2
noncomputable abbrev Hg:List (Nat×V):=[(128,.ref 2),(86,.ref 3),(137,.ref 4)]
noncomputable abbrev L1(n:Int)(c:Option Int)(x y:Int)(sy:aD)(ops:List Op)(ps qs cs:List Int):St:=⟨Hg,[.dead,.cell (.ref 5),dc n c 6 7 8,.list [.ref 9,.ref 10],.ints cs,.ints [x,y],.dS [(225,.ref 11)],.dead,.dead,.ints ps,.ints qs,dA 2 225 sy 12 13,.ops ops,.dead]⟩
noncomputable abbrev L2(n:Int)(c:Option Int)(x y:Int)(sy:aD)(ops:List Op)(dy:aD)(aM:List Op)(ps cs:List Int):St:=⟨Hg,[.dead,.cell (.ref 5),dc n c 6 7 8,.list [.ref 9,.none],.ints cs,.ints [x,y],.dS [(225,.ref 10),(194,.ref 13)],.dead,.dead,.ints ps,dA 2 225 sy 11 12,.ops ops,.dead,dA 2 194 dy 14 15,.ops aM,.dead]⟩
noncomputable abbrev L3(n:Int)(c:Option Int)(x y:Int)(sy:aD)(ops:List Op)(dy:aD)(aM:List Op)(ps qs cs:List Int):St:=⟨Hg,[.dead,.cell (.ref 5),dc n c 6 7 8,.list [.ref 9,.ref 16],.ints cs,.ints [x,y],.dS [(225,.ref 10),(194,.ref 13)],.dead,.dead,.ints ps,dA 2 225 sy 11 12,.ops ops,.dead,dA 2 194 dy 14 15,.ops aM,.dead,.ints qs]⟩
theorem BA{n:Int}{c:Option Int}{sy:aD}{ops:List Op}{l:List Int}:El (fun r cs'=>r=.ref 8∧∃b,Sv sy ops b∧cs'=T1 n c sy ops l++[dc 0 none 9 10 11,.dS [(225,.ref 15)],.d0,BL 12 13 14,.d0,.d0,.d0,dA 8 225 b 17 16,.ba b,.ops []]) fun T=>∀b,Sv sy ops b→T (.ref 8) (T1 n c sy ops l++[dc 0 none 9 10 11,.dS [(225,.ref 15)],.d0,BL 12 13 14,.d0,.d0,.d0,dA 8 225 b 17 16,.ba b,.ops []]):=by rintro T h r cs' ⟨rfl,b,hb,rfl⟩;exact h b hb
theorem fY.two{b e:aD}{ps qs:List Int}{t:Nat}(h:fY b e ps t∨fY b e qs t){P:Prop}(k:∀rs,(rs=ps∨rs=qs)→fY b e rs t→P):P:=h.elim (k _ (.inl rfl)) (k _ (.inr rfl))
section
variable{w:World}
theorem Kz{X:St→Prop}{n:Int}{c:Option Int}{x y:Int}{sy:aD}{ops:List Op}{ps qs cs:List Int}(hc:kP cs)(hs:dj sy ops)(hD:∀b',Sv sy ops b'→fY b' [] ps 8∨fY b' [] qs 8):v5 w 140 X 60 [1] j2 (L1 n c x y sy ops ps qs cs) yz:=by
 refine aW BA (yt (w:=w) n c sy ops cs hc hs) [2,6,7,8,11,12,13,4] tt rfl rfl ?_
 ·intro b hb;refine fY.two (hD b hb) fun rs Nk D=>j1 (w:=w) (by decide) D 0 fun b2 J2 H L2=>aW vE (De (w:=w) 0 none b b2 J2 H) [14,15,16,17,18,19,20,21,22,23] tt rfl rfl ?_
  ·intro n2;refine ae (w9 (by decide) L2 n2 none) [14,15,16,17,18,19,20,21,22,24,25,26,27,28,29] tt rfl rfl [14,15,16,17,18,19,20,21,22,24,25,30,31,32,33,34,35,36,37] tt (ah oJ ⟨fun h1=>⟨fun h2=>(Eg Nk h1 h2).elim,fun a_=>?_⟩,fun a_=>?_⟩ rQ)
   ·exact jo [0,1,14,37,5,15,16,17,18,19,20,21,22,24,25,30,31,32,33,34,35,36] (.a L2) tt rfl rfl
   ·exact jo [0,1,14,37,5,15,16,17,18,19,20,21,22,24,25,30,31,32,33,34,35,36] (.a L2) tt rfl rfl
theorem KA{X:St→Prop}{n:Int}{c:Option Int}{x y:Int}{sy:aD}{ops:List Op}{dy:aD}{aM:List Op}{ps cs:List Int}(hc:kP cs)(hs:dj sy ops)(hd:dj dy aM)(hD:∀b' e',Sv sy ops b'→Sv dy aM e'→fY b' e' ps 8):v5 w 140 X 60 [1] j2 (L2 n c x y sy ops dy aM ps cs) yz:=by
 refine aW rN (l6 (w:=w) n c sy ops dy aM cs hc hs hd) [2,6,7,8,10,11,12,13,14,15,4] tt rfl rfl ?_
 ·intro b e hb he;have D:=hD b e hb he;refine j1 (w:=w) (by decide) D 0 fun b2 J2 H L2=>aW eZ (je (w:=w) 0 none b b2 J2 e H) [16,17,18,19,20,21,22,23,24,25,26,27,28] tt rfl rfl ?_
  ·intro n2;exact ae (ig (by decide) L2 n2 none) [16,17,18,19,20,21,22,23,24,29,30,31,32,33,34,35,36,37] tt rfl rfl [16,17,18,19,20,21,22,23,24,29,30,38,39,40,41,42,43,44,45] tt (ah oJ ⟨fun h1=>(iS h1).elim,fun a_=>(jo [0,1,16,45,5,17,18,19,20,21,22,23,24,29,30,38,39,40,41,42,43,44] (.b L2) tt rfl rfl)⟩ rQ)
theorem KC{X:St→Prop}{n:Int}{c:Option Int}{x y:Int}{sy:aD}{ops:List Op}{dy:aD}{aM:List Op}{ps qs cs:List Int}(hc:kP cs)(hs:dj sy ops)(hd:dj dy aM)(hD:∀b' e',Sv sy ops b'→Sv dy aM e'→fY b' e' ps 8∨fY b' e' qs 8):v5 w 140 X 60 [1] j2 (L3 n c x y sy ops dy aM ps qs cs) yz:=by
 refine aW rN (l6 (w:=w) n c sy ops dy aM cs hc hs hd) [2,6,7,8,10,11,12,13,14,15,4] tt rfl rfl ?_
 ·intro b e hb he;refine fY.two (hD b e hb he) fun rs Nk D=>j1 (w:=w) (by decide) D 0 fun b2 J2 H L2=>aW eZ (je (w:=w) 0 none b b2 J2 e H) [17,18,19,20,21,22,23,24,25,26,27,28,29] tt rfl rfl ?_
  ·intro n2;refine ae (ig (by decide) L2 n2 none) [17,18,19,20,21,22,23,24,25,30,31,32,33,34,35,36,37,38] tt rfl rfl [17,18,19,20,21,22,23,24,25,30,31,39,40,41,42,43,44,45,46] tt (ah oJ ⟨fun h1=>⟨fun h2=>(Eg Nk h1 h2).elim,fun a_=>?_⟩,fun a_=>?_⟩ rQ)
   ·exact jo [0,1,17,46,5,18,19,20,21,22,23,24,25,30,31,39,40,41,42,43,44,45] (.b L2) tt rfl rfl
   ·exact jo [0,1,17,46,5,18,19,20,21,22,23,24,25,30,31,39,40,41,42,43,44,45] (.b L2) tt rfl rfl
end
section
variable{w:World}{c:Cx w}{lv:Nat}{σ:St}{ρ:List Addr}{P:Led}{s:Shared}{X:St→Prop}{ls gs:List Nat}{Q:Flow→Shared→Prop}
noncomputable abbrev Nl(x y:Int)(k:Option Int)(l:List Int):St:=⟨[(128,.ref 2),(86,.ref 3),(137,.ref 12)],[.dead,.cell (.ref 4),dc 0 k 5 6 7,.list [.ref 11,.none],.ints [x,y],.d0,.d0,.inst 497 [(171,.ref 8),(172,.ref 9),(173,.ref 10)],.d0,.d0,.d0,.list [],.ints l]⟩
theorem Hh(O:(dI c).Ok 140)(R:aK (dI c) (Ln x y q) ρ P s)(k:∀x y l aI P' s',kP l→l.length=7→aK (dI c) (Nl x y q l) aI P' s'→Wp (dI c) (execs ss (dI c).env) Q s'):Wp (dI c) (execs (AV::ss) (dI c).env) Q s:=by
 refine bp R fun m news led R=>?_;rw[execs_cons];refine br (R.C.focus (i:=4) (o:=.ints [x,y]) rfl) fun sa l1 r Qs DR pm put=>?_;refine ao DR fun ob bw aQ qW hv=>?_;clear DR;subst aQ;obtain⟨n,rfl⟩:=qW;refine br (R.C.focus (i:=1) (o:=.cell (.ref 4)) rfl) fun ca l2 r2 Qt DR Qu _=>?_;refine ao DR fun co xx aQ jm vx=>?_;clear DR;subst aQ;obtain rfl:c.L+1=ca:=bf ((R.K (1,c.L+1) aS).symm.trans Qt);refine aa vx.bI fun Qv Nm aQ=>?_;clear vx;subst aQ;obtain rfl:sa=Qv:=bf (Qs.symm.trans Nm);refine ao hv.cons_inv fun z1 zs e1 v1 hv=>?_;obtain⟨z2,zs,rfl,v2,hv⟩:=hv.cons_inv;rw[hv.nil_inv]at e1;refine bg v1.int_inv fun tx az=>?_;clear v1;subst az;refine bg v2.int_inv fun ty az=>?_;clear v2;subst az;obtain rfl:bw=#[.int x tx,.int y ty]:=Array.toList_inj.mp e1
 have zb:(c.L+1,co)∈r:=by
  rcases bD.mp (pm.mem_iff.mp (Qu.mem_iff.mpr aS))with z|z
  ·cases z;exact PySem.Data.noConfusion jm
  ·exact z
 refine yJ (List.append_of_mem zb) fun r3 r4 er=>?_;have pr:r.Perm ((c.L+1,co)::(r3++r4)):=by rw[er];exact List.perm_middle
 have pn:news.Perm ((c.L+1,co)::(sa,listOf #[.int x tx,.int y ty] n)::((r3++r4)++P)):=R.M.trans ((pm.append_right P).trans (((pr.append_right P).cons _).trans (List.Perm.swap _ _ _)));refine ag (af (C6 O.B O.X O.T (aX (Nat.add_le_add_left (by decide) _) O.dp) (aX (Nat.add_le_add_left (by decide) _) O.un) R.F (gC R.N pn) (d9 pn R.D) jm (fun D ys cs x' y' AW AX n' h' tk F' N' D' hi hl hu=>?_)));have up:∀(i:Nat) (a:Addr),ρ[i]?=some a→(ρ++[D])[i]?=some a:=fun i a h=>fC h;refine aa (put (ρ++[D]) up (.ints [x',y']) [(sa,listOf #[.int x' AW,.int y' AX] n')] (aJ _ (#[.int x' AW,.int y' AX]) rfl ⟨n',rfl⟩ (.cons .int (.cons .int .nil)))) fun bx C' Ax=>?_;have iq:=R.len;refine k x' y' cs (ρ++[D]) P _ ⟨by rw[hl];decide,fun e=>absurd (e▸hl:([]:List Int).length=7) (by decide),hu⟩ hl ⟨_,_,bx++[(D,LCg.lst ys)],R.gens,R.drawn,R.os,fun p hp=>up _ _ (R.K p hp),F',N',D',?_,aP.snoc (o:=.ints cs) (aJ _ ys.toArray rfl ⟨ys.length,rfl⟩ (gE hi)) C',?_⟩
 ·have h1:((D,LCg.lst ys)::(bx++P)).Perm (bx++[(D,LCg.lst ys)]++P):=by rw[bC];exact List.perm_middle.symm
  exact(List.Perm.cons _ ((List.Perm.swap _ _ _).trans ((Ax.trans (pr.cons _)).symm.append_right P))).trans h1
 ·exact(R.Vr.mono (fun a_ b_ h=>h) up).put (n:=137) tt (.ref (by rw[show 12=ρ.length from iq.symm];exact List.getElem?_concat_length))
inductive LL(cs:List Int):St→Prop
 |a {n c x y sy ops ps qs} (h1:dj sy ops) (h2:∀b',Sv sy ops b'→fY b' [] ps 8∨fY b' [] qs 8):LL cs (L1 n c x y sy ops ps qs cs)
 |b {n c x y sy ops dy aM ps} (h1:dj sy ops) (h2:dj dy aM) (h3:∀b' e',Sv sy ops b'→Sv dy aM e'→fY b' e' ps 8):LL cs (L2 n c x y sy ops dy aM ps cs)
 |d {n c x y sy ops dy aM ps qs} (h1:dj sy ops) (h2:dj dy aM) (h3:∀b' e',Sv sy ops b'→Sv dy aM e'→fY b' e' ps 8∨fY b' e' qs 8):LL cs (L3 n c x y sy ops dy aM ps qs cs)
theorem LL.run{X:St→Prop}(hc:kP cs)(h:LL cs σ):v5 w 140 X 60 [1] j2 σ yz:=by
 induction h with
 |a h1 h2=>exact Kz hc h1 h2
 |b h1 h2 h3=>exact KA hc h1 h2 h3
 |d h1 h2 h3=>exact KC hc h1 h2 h3
theorem LL.app{σ:St}(h:LL cs σ):look σ.vars 137=some (.ref 4)∧σ.cs[4]?=some (.ints cs)∧LL cs' ⟨σ.vars,σ.cs.set 4 (.ints cs')⟩:=by
 induction h with
 |a h1 h2=>exact aN rfl rfl (.a h1 h2)
 |b h1 h2 h3=>exact aN rfl rfl (.b h1 h2 h3)
 |d h1 h2 h3=>exact aN rfl rfl (.d h1 h2 h3)
noncomputable abbrev KD(c:Cx w)(Q:Flow→Shared→Prop)(Hi:ExceptHandler):dB:=fun e bu=>wpAny (model Prog w) (dI c).A (noteFrame e (dI c).env) (fun a_ mJ=>wpAny (model Prog w) (dI c).A (setFlight e none) (fun a_ kj=>wpAny (model Prog w) (dI c).A (handleBy e (dI c).env [Hi]) Q (fun a_ b_=>False) kj) (fun a_ b_=>False) mJ) (fun a_ b_=>False) bu
noncomputable abbrev yA(c:Cx w)(Q:Flow→Shared→Prop)(Hi:ExceptHandler):Cx w:={dI c with E:=KD c Q Hi}
theorem Hj(h:cR (model Prog w) (dI c).A (execs body (dI c).env) (fun f s'=>f=.next∧Q f s') (KD c Q Hi) s):Wp (dI c) (exec (.Try body [Hi] [] [] p) (dI c).env) Q s:=by
 rw[arm_exec_Try];refine aU ?_;unfold tryStmt;refine cP tt (ag (rV (bM h (fun f bu bH=>?_) fun e bu bH=>?_)))
 ·refine fz bH fun fQ bH=>?_;subst fQ;exact ak bH
 ·exact af (aO (wpAny_mono bH (fun a_ b_ uN=>cA ff (aO (wpAny_mono uN (fun a_ b_ uE=>cA ff (cA ff uE)) fun a_ b_ x=>x))) fun a_ b_ x=>x))
noncomputable abbrev qn(np hp:Pos):ExceptHandler:=.ExceptHandler (some (.Name (Str.ofString "CrashError") np)) none [Kc] hp
def HJ(cs:List Int)(σ:St):Prop:=∃κ oM,Norm [1] κ σ oM∧LL cs oM
theorem BB{cs:List Int}(O:(dI c).Ok 140)(hl:cs.length=7)(kQ:∀oM sT P2 s2,aK (dI c) oM sT P2 s2→LL (cs++[1]) oM→Q .next s2):nQ (yA c Q (qn np hp)) (HJ cs):=by intro σ' aI P' bx hs h' m news pre rest post e tk F N D pm fl jM Ax C' CX hV ⟨κ,oM,hn,hL⟩;refine GR (s:=⟨h',c.gens,c.drawn,tk,c.os⟩) O.B F N D pm O.X O.T fl rfl rfl fun jr F2 N2=>?_;have R':aK (dI c) σ' aI P' ⟨jr,c.gens,c.drawn,tk,c.os⟩:=⟨m,post++rest,bx,rfl,rfl,rfl,CX,F2,N2,jM,Ax,C',hV⟩;refine ao (i8 (Kp:=[1]) (fun p hp=>by rw[c9.mp hp];exact aS) R' hn) fun sT P2 n1 n2 t_=>bp t_ fun m2 Ot IW R2=>fc (hL.app (cs':=cs++[1])) fun a1 a2 a3=>gO (R2.Vr _ _ a1) fun _ x hx vx=>aa vx.bI fun a ha aQ=>?_;clear vx;subst aQ;refine bV (R2.vS ha a2) fun l1 r pL N3 D3 put=>?_;refine ao pL fun ob bw aQ qW hv=>?_;clear pL;subst aQ;obtain⟨n,rfl⟩:=qW;have hI:=kG hv;have hz:bw.size=7:=(iB hI).trans hl;refine append_one R2.F N3 D3 hx (hz▸(by decide)) fun h3 n' t dU F3 N4=>?_;exact kQ _ _ _ _ (put ⟨h3,c.gens,c.drawn,dU,c.os⟩ (.ints (cs++[1])) [(a,listOf (bw.push (.int 1 t)) n')] (aN rfl rfl rfl) F3 N4 D3 (aJ _ (bw.push (.int 1 t)) rfl ⟨n',rfl⟩ (by rw[Array.toList_push];exact gE (ints_app hI)))) a3
noncomputable def Eh:Ss:=(.cons (.Ca (.not (.call (.gX 26 700779) (.cons (.loc 128 322779) (.cons (.uu 124 479979) (.cons (.loc 86 331179) .nil))) 2236779) 2541579) (.cons (.ret (.bool false 395980) 929380) .nil) .nil 11678979) .nil)
theorem BC:(vc w 140 (HJ l) 60).t (.not (.call (.gX 26 700779) (.cons (.loc 128 322779) (.cons (.uu 124 479979) (.cons (.loc 86 331179) .nil))) 2236779) 2541579) (Nl x y q l) (fun a_=>False) (HJ l):=by
 refine⟨tt,(call_of (By (w:=w) 0 q x y) [2,4,3,5,6,7,8,9,10,11] ?a1 ?a2 ?a3 (fun r cs' h=>?A) fun cs' h=>?B)⟩;case a1=>exact tt
 case a2=>exact rfl
 case a3=>exact rfl
 case A=>
  obtain⟨e,h⟩:=h;subst e;induction h with
  |a h1 h2=>exact aN trivial (fun a_=>jo [0,1,2,3,12,4,13,14,15,16,17,18,19,20] (.a h1 h2) tt rfl rfl) (fun h=>tF h)
  |b h1 h2 h3=>exact aN trivial (fun a_=>jo [0,1,2,3,12,4,13,14,15,16,17,18,19,20,21,22] (.b h1 h2 h3) tt rfl rfl) (fun h=>tF h)
  |d h1 h2 h3=>exact aN trivial (fun a_=>jo [0,1,2,3,12,4,13,14,15,16,17,18,19,20,21,22,23] (.d h1 h2 h3) tt rfl rfl) (fun h=>tF h)
 case B=>
  induction h with
  |a h1 h2=>exact jo [0,1,2,3,12,4,13,14,15,16,17,18,19,20] (.a h1 h2) tt rfl rfl
  |b h1 h2 h3=>exact jo [0,1,2,3,12,4,13,14,15,16,17,18,19,20,21,22] (.b h1 h2 h3) tt rfl rfl
  |d h1 h2 h3=>exact jo [0,1,2,3,12,4,13,14,15,16,17,18,19,20,21,22,23] (.d h1 h2 h3) tt rfl rfl
theorem kP.one{l:List Int}(h:kP l)(hl:l.length=7):kP (l++[1]):=⟨by rw[bR,hl];decide,fun e=>absurd (List.append_eq_nil_iff.mp e).2 (by decide),fun x hx=>by
 rcases cC.mp hx with h'|h'
 ·exact h.u x h'
 ·rw[c9.mp h'];decide⟩
def BD(c:Cx w)(s':Shared):Prop:=∃cs σ' aI P',kP cs∧LL cs σ'∧aK (dI c) σ' aI P' s'
theorem Hk{Q:Flow→Shared→Prop}(R:aK (dI c) σ ρ P s):aK (yA c Q Hi) σ ρ P s:=by exact bp R fun m news led R=>⟨m,news,led,R.gens,R.drawn,R.os,R.K,R.F,R.N,R.D,R.M,R.C,R.Vr⟩
theorem Hl{Q:Flow→Shared→Prop}(R:aK (yA c Q Hi) σ ρ P s):aK (dI c) σ ρ P s:=by exact bp R fun m news led R=>⟨m,news,led,R.gens,R.drawn,R.os,R.K,R.F,R.N,R.D,R.M,R.C,R.Vr⟩
theorem Hm{l:List Int}(O:(dI c).Ok 140)(hl:l.length=7)(hc:kP l)(R:aK (dI c) (Nl x y q l) ρ P s)(k:∀s',BD c s'→Wp (dI c) (execs ss (dI c).env) Q s'):Wp (dI c) (execs (.Try (mF nm Eh) [qn np hp] [] [] tp::ss) (dI c).env) Q s:=by
 rw[execs_cons];refine ag (bj (Hj (Q:=fun f s'=>f=.next∧BD c s') ?_) (fun f s' df=>by obtain⟨e,h⟩:=df;subst e;exact k s' h));have hE:nQ (yA c (fun f s'=>f=.next∧BD c s') (qn np hp)) (HJ l):=BB O hl fun oM sT P2 s2 R2 h=>et rfl _ (bz oM sT P2 (hc.one hl) h R2);have O1:(yA c (fun f s'=>f=.next∧BD c s') (qn np hp)).Ok 140:=⟨O.B,O.X,O.T,O.hk,O.dp,O.un,O.S,O.uu⟩;have T:=(DQ O1 hE AZ 60).t _ _ _ _ (BC (x:=x) (y:=y) (q:=q)) tt;have I:Wp (yA c (fun f s'=>f=.next∧BD c s') (qn np hp)) (exec (.If _ (mF nm (.cons (.ret (.bool false 395980) 929380) .nil)) [] (dP 11678979)) _) _ s:=uV (Kp:=[1]) (K:=C7 (HJ l)) (T.mono (fun a_ h=>h.elim) (fun σ' h ρ P s R=>ak (iI.of (K:=C7 (HJ l)) (fl:=.next) .c6 R h))) ρ P s (Hk R);refine(?_:cR _ _ (execs [_] _) _ _ _);rw[execs_cons];refine ag (bj I (fun fl s' h=>(br h fun σ' aI P' _ _ R' q=>?_)));induction fl with
 |next=>exact cS q fun κ oM hn hL=>ao (i8 (Kp:=[1]) (fun p hp=>by rw[c9.mp hp];exact aS) (Hl R') hn) fun sT P2 _ _ R2=>ak (aN rfl rfl (jF l oM sT P2 hc hL R2))
 |brk=>exact q.elim
 |cont=>exact q.elim
 |ret v=>exact q.choose_spec.2.elim
theorem tQ{R:Result→Shared→Prop}{scope:Scope}{binds:List (PySem.Str×Value)}(X:(hd.heap_39 w.params).In s.heap)(T:s.heap.NoLimit)(ka:dp<recursionLimit)(ho:(hd.heap_39 w.params).lookup f=some ⟨oc,od,.func (fnOf name qual params body scope dV kV doc pm an gQ ct),BE⟩)(t5:codeIn (hd.heap_39 w.params) gQ qual=true)(kb:BindsTo s (fnOf name qual params body scope dV kV doc pm an gQ ct) ⟨args,[]⟩ binds)(ml:(binds.all fun y=>scope.names.lookup y.1==some .local||scope.names.lookup y.1==some .cell)=true)(jM:((cellsFrom 0 scope.names []).map (·.1)).Nodup)(h:∀bH tk cells,bH.Ns s.heap.objs.size (bindL (envX qual scope s.heap.objs.size f gQ (cellsFrom (s.heap.objs.size+1) scope.names [])).kindOf binds fun a_=>none)→(∀b o,s.heap.get? b=some o→bH.get? b=some o)→News s.heap s.heap.objs.size bH cells→CellsAre (bindC (envX qual scope s.heap.objs.size f gQ (cellsFrom (s.heap.objs.size+1) scope.names [])).kindOf binds fun a_=>none) (cellsFrom (s.heap.objs.size+1) scope.names []) cells→cR (model Prog w) ((Ar dp un gd []).deeper (envX qual scope s.heap.objs.size f gQ (cellsFrom (s.heap.objs.size+1) scope.names []))) (execs body (envX qual scope s.heap.objs.size f gQ (cellsFrom (s.heap.objs.size+1) scope.names []))) (fun f s'=>R (.ok (.ret (match f with|.ret v=>v|_=>.none))) s') (fun a_ b_=>False) {s with heap:=bH,toks:=tk})(jm:scope.isCoroutine=false)(lu:scope.isGenerator=false)(hk:scope.kind=.function):cK (model Prog w) (Ar dp un gd []) (.call (.ref f) ⟨args,[]⟩) R s:=lZ ka (X _ _ ho) rfl T (codeRec_of X t5) rfl kb rfl ml jM h jm lu hk
theorem law_code{cy:ExcName→Option Value}{mg mb:PySem.Str→Option Value}{s:Shared}{R:Result→Shared→Prop}{bw:Array Value}(B:Below (Ar dp un gd []) base [] s.heap)(Xs:(hd.heap_39 w.params).In s.heap)(T:jI cy mg mb s.heap)(hl:s.heap.IsList a bw)(hI:IntsAre bw.toList l)(hz:bw.size≤100000)(ki:dp+140≤900)(rR:un+1400≤6000)(ret:∀h' tk,(∀b o,s.heap.get? b=some o→h'.get? b=some o)→R (.ok (.ret (.bool true))) {s with heap:=h',toks:=tk}):cK (model Prog w) (Ar dp un gd []) (.call (.ref 766) ⟨[.ref a],[]⟩) R s:=by
 refine' tQ (binds:=[(Str.ofString "script",.ref a)]) Xs T.nolimit ?h1 ?h2 ?h3 ?h4 ?h5 ?h6 (fun bH tk cells ns k₁ NC Y=>?_) ?h7 ?h8 ?h9;case h2=>k_is
 case h1=>show dp<recursionLimit;simp only[recursionLimit];exact aC 16606144342120645277697 rfl ki
 case h3=>k_is
 case h4=>exact BindsTo.of_eq rfl
 case h5=>exact tt
 case h6=>decide+kernel
 case h7=>exact ff
 case h8=>exact ff
 case h9=>exact rfl
 have Y':CellsAre _ [(Str.ofString "source",s.heap.objs.size+1)] cells:=Y;refine aa Y'.one fun co az jm=>?_;clear Y Y';subst az;replace ns:bH.Ns s.heap.objs.size (fun y=>if y=Str.ofString "script" then some (.ref a)else none):=ns
 let c0:Cx w:={cy:=cy,mg:=mg,mb:=mb,dp:=dp,un:=un,gd:=gd,stack:=[],base:=base,g:=s.heap,L:=s.heap.objs.size,qual:=Str.ofString "law",scope:=jC,f:=766,cd:=.ref 765,cl:=[(Str.ofString "source",s.heap.objs.size+1)],gens:=s.gens,drawn:=s.drawn,os:=s.os,S:=fun a_ b_=>False,K:=[(1,s.heap.objs.size+1)],E:=fun a_ b_=>False};have O:(dI c0).Ok 140:=⟨B,Xs,T,rfl,ki,rR,fun a_ b_ h=>h.elim,fun a_=>(ah _ rfl aS)⟩;have hK:∀p∈(dI c0).K,p.1∈[1]:=fun p hp=>by rw[c9.mp hp];exact aS
 refine(?_:Wp (dI c0) (execs (Kb::(mF nm vm++(mF nm vn++(AV::.Try (mF nm Eh) [qn _ _] [] [] _::mF nm j2)))) _) _ _);rw[execs_cons];refine ag (af (GU (dp:=dp) (un:=un) B Xs T (aC 17412804409683490870799794320 rfl ki) (aC 475391363803841044267229316874384 rfl rR) hz hI hl ⟨ns,k₁,bF _⟩ NC jm fun D x y tx ty n o' h' dU F' N' ho fy=>?_))
 have R1:aK (dI c0) (Oc x y) [0,s.heap.objs.size+1,D] [] {s with heap:=h',toks:=dU}:=
  ⟨_,[(s.heap.objs.size+1,o'),(D,listOf #[.int x tx,.int y ty] n)],[(s.heap.objs.size+1,o'),(D,listOf #[.int x tx,.int y ty] n)],rfl,rfl,rfl,fun p hp=>by rw[c9.mp hp];rfl,F',N',
   cu.mpr ⟨fun h=>fy (c9.mp h),ly⟩,List.Perm.refl _,
   .cons (l:=[]) rfl (.cons (l:=[(_,_)]) (aJ o' (.ref D) rfl ho (.ref rfl)) (.cons (l:=[(_,_)]) (aJ _ (#[.int x tx,.int y ty]) rfl ⟨n,rfl⟩ (.cons .int (.cons .int .nil))) .nil)),fun a_ b_ h=>by exact nS h⟩
 refine tB (rp (rF O) 60 [1] vm _ _ GV tt hK) R1 fun oM sT P2 s2 R2 a_ df=>cS df fun κ yD hn e=>?_;subst e;refine ao (i8 hK R2 hn) fun yE P3 _ _ R3=>tB (rp (rF O) 60 [1] vn _ _ GX tt hK) R3 fun K6 K7 P4 s4 R4 a_ df=>bp df fun x4 y4 q4 e=>?_;clear df;subst e;refine Hh O R4 fun x5 y5 l5 QS P5 s5 Qw Qx R5=>Hm O Qx Qw R5 fun s6 df=>fN df fun cs Qy Qz P6 t_=>fc t_ fun QA QB R6=>bj (rp (rF O) 60 [1] j2 Qy yz (QB.run QA) tt hK Qz P6 s6 R6) (fun fl s7 df=>?_);refine br df fun QT QU P7 _ _ R7 q=>?_;induction fl with
 |next=>exact q.elim
 |brk=>exact q.elim
 |cont=>exact q.elim
 |ret z=>
  refine aa q fun v vx aQ=>?_;subst aQ;refine bp R7 fun m news led R7=>?_;rw[vx.bool_inv];have es:s7={s with heap:=s7.heap,toks:=s7.toks}:=by have e1:s7.gens=s.gens:=R7.gens;have e2:s7.drawn=s.drawn:=R7.drawn;have e3:s7.os=s.os:=R7.os;rw[←e1,←e2,←e3]
  rw[es];exact ret _ _ R7.F.keep
end
theorem top:PySem.Challenge.rw_xw0233_01.Holds:=by
 refine hd ?_;intro w qu bu mg mb G Y fa o pm cd doc dV kV ho yW t5 hD Ou hg args vals as jk xc LG QC QD;have KX:=kIn_of Y;refine Ground.open G ?_;intro T B D TE TW;clear ho yW t5 hD;obtain rfl:fa=766:=by have e:mg (Str.ofString "law")=some (.ref 766):=mg_of KX T.g (by k_is);exact Value.ref.inj (bf (Ou.symm.trans e))
 clear Ou
 wrow_args jk xc LG QC QD;rename_i l _ _ _ _ _ _ _ a vs _ hL _ _ _ hI _ hn _;have hz:vs.length≤100000:=by rw[iB hI];exact aC 16425347546653677568 rfl hn
 refine gy (law_code (dp:=301) (un:=4) (gd:=some []) (below_caller _) KX T hL hI hz (by decide) (by decide) fun h' tk kp=>?_);refine cZ (.inl (aR (.bool true) (.bool true) [] rfl (fun cls=>by induction cls<;>exact ff) (.bool _) (qo (postW_of (X:=true) ?_ ?_ tt) (fun a_=>⟨List.nodup_nil,fun a_ h=>by cases h⟩)))) (.of_keep kp) rfl (.of_eq hg)
 ·exact tt
 ·with_unfolding_all rfl
end Mine.Internal
theorem PySem.Challenge.cw_xw0233_01_holds : PySem.Challenge.rw_xw0233_01.Holds := by
 exact Mine.Internal.top
