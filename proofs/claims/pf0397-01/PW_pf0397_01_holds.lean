import PyProof.Rows.All
import Wide.All
import OpenK.AllK
import Wide.FinOn
import PySem.Challenge.RW_pf0397_01
open PySem PySem.W PyProof.Rows
set_option Elab.async false
set_option rowWalk.seconds 0
set_option linter.all false
set_option linter.unusedSimpArgs false
namespace Mine
set_option maxRecDepth 100000
set_option maxHeartbeats 8000000
/-- the parts of the given program: its statements, and a def's parts -/
noncomputable def nth : List Stmt → Nat → Stmt
  | [], _ => .Pass ⟨0, 0, 0, 0⟩
  | s :: _, 0 => s
  | _ :: r, n + 1 => nth r n
noncomputable def fb : Stmt → List Stmt
  | .FunctionDef _ _ b _ _ _ _ _ _ _ => b
  | .ClassDef _ _ _ b _ _ _ _ _ _ _ => b
  | _ => []
noncomputable def fa : Stmt → Arguments
  | .FunctionDef _ a _ _ _ _ _ _ _ _ => a
  | _ => ⟨[], [], none, [], [], none, []⟩
noncomputable def fs : Stmt → Scope
  | .FunctionDef _ _ _ _ _ _ s _ _ _ => s
  | _ => ⟨.function, [], false, false, []⟩
noncomputable def f0 : Stmt := (nth PySem.Challenge.pw_pf0397_01.main.body 0)
noncomputable abbrev b0 : List Stmt := (show {x : List Stmt // x = fb f0} from ⟨[_], rfl⟩).1
noncomputable abbrev p0 : Arguments := (show {x : Arguments // x = fa f0} from ⟨⟨_, _, _, _, _, _, _⟩, rfl⟩).1
noncomputable abbrev s0 : Scope := (show {x : Scope // x = fs f0} from ⟨⟨_, _, _, _, _⟩, rfl⟩).1
noncomputable def f1 : Stmt := (nth (fb (nth PySem.Challenge.pw_pf0397_01.main.body 2)) 0)
noncomputable abbrev b1 : List Stmt := (show {x : List Stmt // x = fb f1} from ⟨[_], rfl⟩).1
noncomputable abbrev p1 : Arguments := (show {x : Arguments // x = fa f1} from ⟨⟨_, _, _, _, _, _, _⟩, rfl⟩).1
noncomputable abbrev s1 : Scope := (show {x : Scope // x = fs f1} from ⟨⟨_, _, _, _, _⟩, rfl⟩).1
noncomputable def f2 : Stmt := (nth PySem.Challenge.pw_pf0397_01.main.body 7)
noncomputable abbrev b2 : List Stmt := (show {x : List Stmt // x = fb f2} from ⟨[_, _], rfl⟩).1
noncomputable abbrev p2 : Arguments := (show {x : Arguments // x = fa f2} from ⟨⟨_, _, _, _, _, _, _⟩, rfl⟩).1
noncomputable abbrev s2 : Scope := (show {x : Scope // x = fs f2} from ⟨⟨_, _, _, _, _⟩, rfl⟩).1
noncomputable def f3 : Stmt := (nth PySem.Challenge.pw_pf0397_01.main.body 8)
noncomputable abbrev b3 : List Stmt := (show {x : List Stmt // x = fb f3} from ⟨[_], rfl⟩).1
noncomputable abbrev p3 : Arguments := (show {x : Arguments // x = fa f3} from ⟨⟨_, _, _, _, _, _, _⟩, rfl⟩).1
noncomputable abbrev s3 : Scope := (show {x : Scope // x = fs f3} from ⟨⟨_, _, _, _, _⟩, rfl⟩).1
noncomputable def f4 : Stmt := (nth PySem.Challenge.pw_pf0397_01.main.body 9)
noncomputable abbrev b4 : List Stmt := (show {x : List Stmt // x = fb f4} from ⟨[_], rfl⟩).1
noncomputable abbrev p4 : Arguments := (show {x : Arguments // x = fa f4} from ⟨⟨_, _, _, _, _, _, _⟩, rfl⟩).1
noncomputable abbrev s4 : Scope := (show {x : Scope // x = fs f4} from ⟨⟨_, _, _, _, _⟩, rfl⟩).1
noncomputable def f5 : Stmt := (nth PySem.Challenge.pw_pf0397_01.main.body 10)
noncomputable abbrev b5 : List Stmt := (show {x : List Stmt // x = fb f5} from ⟨[_, _, _], rfl⟩).1
noncomputable abbrev p5 : Arguments := (show {x : Arguments // x = fa f5} from ⟨⟨_, _, _, _, _, _, _⟩, rfl⟩).1
noncomputable abbrev s5 : Scope := (show {x : Scope // x = fs f5} from ⟨⟨_, _, _, _, _⟩, rfl⟩).1
noncomputable def f6 : Stmt := (nth PySem.Challenge.pw_pf0397_01.main.body 11)
noncomputable abbrev b6 : List Stmt := (show {x : List Stmt // x = fb f6} from ⟨[_], rfl⟩).1
noncomputable abbrev p6 : Arguments := (show {x : Arguments // x = fa f6} from ⟨⟨_, _, _, _, _, _, _⟩, rfl⟩).1
noncomputable abbrev s6 : Scope := (show {x : Scope // x = fs f6} from ⟨⟨_, _, _, _, _⟩, rfl⟩).1
noncomputable def f7 : Stmt := (nth (fb (nth PySem.Challenge.pw_pf0397_01.main.body 12)) 0)
noncomputable abbrev b7 : List Stmt := (show {x : List Stmt // x = fb f7} from ⟨[_, _, _, _, _], rfl⟩).1
noncomputable abbrev p7 : Arguments := (show {x : Arguments // x = fa f7} from ⟨⟨_, _, _, _, _, _, _⟩, rfl⟩).1
noncomputable abbrev s7 : Scope := (show {x : Scope // x = fs f7} from ⟨⟨_, _, _, _, _⟩, rfl⟩).1
noncomputable def f8 : Stmt := (nth (fb (nth PySem.Challenge.pw_pf0397_01.main.body 12)) 1)
noncomputable abbrev b8 : List Stmt := (show {x : List Stmt // x = fb f8} from ⟨[_], rfl⟩).1
noncomputable abbrev p8 : Arguments := (show {x : Arguments // x = fa f8} from ⟨⟨_, _, _, _, _, _, _⟩, rfl⟩).1
noncomputable abbrev s8 : Scope := (show {x : Scope // x = fs f8} from ⟨⟨_, _, _, _, _⟩, rfl⟩).1
noncomputable def f9 : Stmt := (nth (fb (nth PySem.Challenge.pw_pf0397_01.main.body 12)) 2)
noncomputable abbrev b9 : List Stmt := (show {x : List Stmt // x = fb f9} from ⟨[_], rfl⟩).1
noncomputable abbrev p9 : Arguments := (show {x : Arguments // x = fa f9} from ⟨⟨_, _, _, _, _, _, _⟩, rfl⟩).1
noncomputable abbrev s9 : Scope := (show {x : Scope // x = fs f9} from ⟨⟨_, _, _, _, _⟩, rfl⟩).1
noncomputable def f10 : Stmt := (nth (fb (nth PySem.Challenge.pw_pf0397_01.main.body 13)) 0)
noncomputable abbrev b10 : List Stmt := (show {x : List Stmt // x = fb f10} from ⟨[_, _, _], rfl⟩).1
noncomputable abbrev p10 : Arguments := (show {x : Arguments // x = fa f10} from ⟨⟨_, _, _, _, _, _, _⟩, rfl⟩).1
noncomputable abbrev s10 : Scope := (show {x : Scope // x = fs f10} from ⟨⟨_, _, _, _, _⟩, rfl⟩).1
noncomputable def f11 : Stmt := (nth (fb (nth PySem.Challenge.pw_pf0397_01.main.body 13)) 1)
noncomputable abbrev b11 : List Stmt := (show {x : List Stmt // x = fb f11} from ⟨[_, _], rfl⟩).1
noncomputable abbrev p11 : Arguments := (show {x : Arguments // x = fa f11} from ⟨⟨_, _, _, _, _, _, _⟩, rfl⟩).1
noncomputable abbrev s11 : Scope := (show {x : Scope // x = fs f11} from ⟨⟨_, _, _, _, _⟩, rfl⟩).1
noncomputable def f12 : Stmt := (nth (fb (nth PySem.Challenge.pw_pf0397_01.main.body 13)) 2)
noncomputable abbrev b12 : List Stmt := (show {x : List Stmt // x = fb f12} from ⟨[_], rfl⟩).1
noncomputable abbrev p12 : Arguments := (show {x : Arguments // x = fa f12} from ⟨⟨_, _, _, _, _, _, _⟩, rfl⟩).1
noncomputable abbrev s12 : Scope := (show {x : Scope // x = fs f12} from ⟨⟨_, _, _, _, _⟩, rfl⟩).1
noncomputable def f13 : Stmt := (nth (fb (nth PySem.Challenge.pw_pf0397_01.main.body 13)) 3)
noncomputable abbrev b13 : List Stmt := (show {x : List Stmt // x = fb f13} from ⟨[_], rfl⟩).1
noncomputable abbrev p13 : Arguments := (show {x : Arguments // x = fa f13} from ⟨⟨_, _, _, _, _, _, _⟩, rfl⟩).1
noncomputable abbrev s13 : Scope := (show {x : Scope // x = fs f13} from ⟨⟨_, _, _, _, _⟩, rfl⟩).1
noncomputable def f14 : Stmt := (nth (fb (nth PySem.Challenge.pw_pf0397_01.main.body 13)) 4)
noncomputable abbrev b14 : List Stmt := (show {x : List Stmt // x = fb f14} from ⟨[_, _, _], rfl⟩).1
noncomputable abbrev p14 : Arguments := (show {x : Arguments // x = fa f14} from ⟨⟨_, _, _, _, _, _, _⟩, rfl⟩).1
noncomputable abbrev s14 : Scope := (show {x : Scope // x = fs f14} from ⟨⟨_, _, _, _, _⟩, rfl⟩).1
noncomputable def f15 : Stmt := (nth PySem.Challenge.pw_pf0397_01.main.body 14)
noncomputable abbrev b15 : List Stmt := (show {x : List Stmt // x = fb f15} from ⟨[_], rfl⟩).1
noncomputable abbrev p15 : Arguments := (show {x : Arguments // x = fa f15} from ⟨⟨_, _, _, _, _, _, _⟩, rfl⟩).1
noncomputable abbrev s15 : Scope := (show {x : Scope // x = fs f15} from ⟨⟨_, _, _, _, _⟩, rfl⟩).1
noncomputable def f16 : Stmt := (nth (fb (nth PySem.Challenge.pw_pf0397_01.main.body 15)) 0)
noncomputable abbrev b16 : List Stmt := (show {x : List Stmt // x = fb f16} from ⟨[_, _], rfl⟩).1
noncomputable abbrev p16 : Arguments := (show {x : Arguments // x = fa f16} from ⟨⟨_, _, _, _, _, _, _⟩, rfl⟩).1
noncomputable abbrev s16 : Scope := (show {x : Scope // x = fs f16} from ⟨⟨_, _, _, _, _⟩, rfl⟩).1
noncomputable def f17 : Stmt := (nth (fb (nth PySem.Challenge.pw_pf0397_01.main.body 15)) 1)
noncomputable abbrev b17 : List Stmt := (show {x : List Stmt // x = fb f17} from ⟨[_], rfl⟩).1
noncomputable abbrev p17 : Arguments := (show {x : Arguments // x = fa f17} from ⟨⟨_, _, _, _, _, _, _⟩, rfl⟩).1
noncomputable abbrev s17 : Scope := (show {x : Scope // x = fs f17} from ⟨⟨_, _, _, _, _⟩, rfl⟩).1
noncomputable def f18 : Stmt := (nth (fb (nth PySem.Challenge.pw_pf0397_01.main.body 15)) 2)
noncomputable abbrev b18 : List Stmt := (show {x : List Stmt // x = fb f18} from ⟨[_, _, _], rfl⟩).1
noncomputable abbrev p18 : Arguments := (show {x : Arguments // x = fa f18} from ⟨⟨_, _, _, _, _, _, _⟩, rfl⟩).1
noncomputable abbrev s18 : Scope := (show {x : Scope // x = fs f18} from ⟨⟨_, _, _, _, _⟩, rfl⟩).1
noncomputable def f19 : Stmt := (nth (fb (nth PySem.Challenge.pw_pf0397_01.main.body 15)) 3)
noncomputable abbrev b19 : List Stmt := (show {x : List Stmt // x = fb f19} from ⟨[_, _, _, _, _, _, _], rfl⟩).1
noncomputable abbrev p19 : Arguments := (show {x : Arguments // x = fa f19} from ⟨⟨_, _, _, _, _, _, _⟩, rfl⟩).1
noncomputable abbrev s19 : Scope := (show {x : Scope // x = fs f19} from ⟨⟨_, _, _, _, _⟩, rfl⟩).1
noncomputable def f20 : Stmt := (nth (fb (nth PySem.Challenge.pw_pf0397_01.main.body 15)) 4)
noncomputable abbrev b20 : List Stmt := (show {x : List Stmt // x = fb f20} from ⟨[_, _, _, _, _, _, _, _], rfl⟩).1
noncomputable abbrev p20 : Arguments := (show {x : Arguments // x = fa f20} from ⟨⟨_, _, _, _, _, _, _⟩, rfl⟩).1
noncomputable abbrev s20 : Scope := (show {x : Scope // x = fs f20} from ⟨⟨_, _, _, _, _⟩, rfl⟩).1
noncomputable def f21 : Stmt := (nth (fb (nth PySem.Challenge.pw_pf0397_01.main.body 15)) 5)
noncomputable abbrev b21 : List Stmt := (show {x : List Stmt // x = fb f21} from ⟨[_, _, _, _], rfl⟩).1
noncomputable abbrev p21 : Arguments := (show {x : Arguments // x = fa f21} from ⟨⟨_, _, _, _, _, _, _⟩, rfl⟩).1
noncomputable abbrev s21 : Scope := (show {x : Scope // x = fs f21} from ⟨⟨_, _, _, _, _⟩, rfl⟩).1
noncomputable def f22 : Stmt := (nth (fb (nth PySem.Challenge.pw_pf0397_01.main.body 15)) 6)
noncomputable abbrev b22 : List Stmt := (show {x : List Stmt // x = fb f22} from ⟨[_, _], rfl⟩).1
noncomputable abbrev p22 : Arguments := (show {x : Arguments // x = fa f22} from ⟨⟨_, _, _, _, _, _, _⟩, rfl⟩).1
noncomputable abbrev s22 : Scope := (show {x : Scope // x = fs f22} from ⟨⟨_, _, _, _, _⟩, rfl⟩).1
noncomputable def f23 : Stmt := (nth (fb (nth PySem.Challenge.pw_pf0397_01.main.body 15)) 7)
noncomputable abbrev b23 : List Stmt := (show {x : List Stmt // x = fb f23} from ⟨[_, _, _, _, _], rfl⟩).1
noncomputable abbrev p23 : Arguments := (show {x : Arguments // x = fa f23} from ⟨⟨_, _, _, _, _, _, _⟩, rfl⟩).1
noncomputable abbrev s23 : Scope := (show {x : Scope // x = fs f23} from ⟨⟨_, _, _, _, _⟩, rfl⟩).1
noncomputable def f24 : Stmt := (nth (fb (nth PySem.Challenge.pw_pf0397_01.main.body 15)) 8)
noncomputable abbrev b24 : List Stmt := (show {x : List Stmt // x = fb f24} from ⟨[_, _, _, _], rfl⟩).1
noncomputable abbrev p24 : Arguments := (show {x : Arguments // x = fa f24} from ⟨⟨_, _, _, _, _, _, _⟩, rfl⟩).1
noncomputable abbrev s24 : Scope := (show {x : Scope // x = fs f24} from ⟨⟨_, _, _, _, _⟩, rfl⟩).1
noncomputable def f25 : Stmt := (nth PySem.Challenge.pw_pf0397_01.main.body 17)
noncomputable abbrev b25 : List Stmt := (show {x : List Stmt // x = fb f25} from ⟨[_, _, _, _, _], rfl⟩).1
noncomputable abbrev p25 : Arguments := (show {x : Arguments // x = fa f25} from ⟨⟨_, _, _, _, _, _, _⟩, rfl⟩).1
noncomputable abbrev s25 : Scope := (show {x : Scope // x = fs f25} from ⟨⟨_, _, _, _, _⟩, rfl⟩).1
noncomputable def f26 : Stmt := (nth PySem.Challenge.pw_pf0397_01.main.body 18)
noncomputable abbrev b26 : List Stmt := (show {x : List Stmt // x = fb f26} from ⟨[_, _, _], rfl⟩).1
noncomputable abbrev p26 : Arguments := (show {x : Arguments // x = fa f26} from ⟨⟨_, _, _, _, _, _, _⟩, rfl⟩).1
noncomputable abbrev s26 : Scope := (show {x : Scope // x = fs f26} from ⟨⟨_, _, _, _, _⟩, rfl⟩).1
noncomputable def f27 : Stmt := (nth PySem.Challenge.pw_pf0397_01.main.body 19)
noncomputable abbrev b27 : List Stmt := (show {x : List Stmt // x = fb f27} from ⟨[_], rfl⟩).1
noncomputable abbrev p27 : Arguments := (show {x : Arguments // x = fa f27} from ⟨⟨_, _, _, _, _, _, _⟩, rfl⟩).1
noncomputable abbrev s27 : Scope := (show {x : Scope // x = fs f27} from ⟨⟨_, _, _, _, _⟩, rfl⟩).1
noncomputable def f28 : Stmt := (nth PySem.Challenge.pw_pf0397_01.main.body 20)
noncomputable abbrev b28 : List Stmt := (show {x : List Stmt // x = fb f28} from ⟨[_], rfl⟩).1
noncomputable abbrev p28 : Arguments := (show {x : Arguments // x = fa f28} from ⟨⟨_, _, _, _, _, _, _⟩, rfl⟩).1
noncomputable abbrev s28 : Scope := (show {x : Scope // x = fs f28} from ⟨⟨_, _, _, _, _⟩, rfl⟩).1
noncomputable def f29 : Stmt := (nth PySem.Challenge.pw_pf0397_01.main.body 21)
noncomputable abbrev b29 : List Stmt := (show {x : List Stmt // x = fb f29} from ⟨[_], rfl⟩).1
noncomputable abbrev p29 : Arguments := (show {x : Arguments // x = fa f29} from ⟨⟨_, _, _, _, _, _, _⟩, rfl⟩).1
noncomputable abbrev s29 : Scope := (show {x : Scope // x = fs f29} from ⟨⟨_, _, _, _, _⟩, rfl⟩).1
noncomputable def f30 : Stmt := (nth PySem.Challenge.pw_pf0397_01.main.body 22)
noncomputable abbrev b30 : List Stmt := (show {x : List Stmt // x = fb f30} from ⟨[_, _, _, _], rfl⟩).1
noncomputable abbrev p30 : Arguments := (show {x : Arguments // x = fa f30} from ⟨⟨_, _, _, _, _, _, _⟩, rfl⟩).1
noncomputable abbrev s30 : Scope := (show {x : Scope // x = fs f30} from ⟨⟨_, _, _, _, _⟩, rfl⟩).1
noncomputable def f31 : Stmt := (nth PySem.Challenge.pw_pf0397_01.main.body 23)
noncomputable abbrev b31 : List Stmt := (show {x : List Stmt // x = fb f31} from ⟨[_], rfl⟩).1
noncomputable abbrev p31 : Arguments := (show {x : Arguments // x = fa f31} from ⟨⟨_, _, _, _, _, _, _⟩, rfl⟩).1
noncomputable abbrev s31 : Scope := (show {x : Scope // x = fs f31} from ⟨⟨_, _, _, _, _⟩, rfl⟩).1
noncomputable def f32 : Stmt := (nth PySem.Challenge.pw_pf0397_01.main.body 24)
noncomputable abbrev b32 : List Stmt := (show {x : List Stmt // x = fb f32} from ⟨[_, _, _, _, _, _, _, _], rfl⟩).1
noncomputable abbrev p32 : Arguments := (show {x : Arguments // x = fa f32} from ⟨⟨_, _, _, _, _, _, _⟩, rfl⟩).1
noncomputable abbrev s32 : Scope := (show {x : Scope // x = fs f32} from ⟨⟨_, _, _, _, _⟩, rfl⟩).1
noncomputable def f33 : Stmt := (nth PySem.Challenge.pw_pf0397_01.main.body 25)
noncomputable abbrev b33 : List Stmt := (show {x : List Stmt // x = fb f33} from ⟨[_, _, _, _], rfl⟩).1
noncomputable abbrev p33 : Arguments := (show {x : Arguments // x = fa f33} from ⟨⟨_, _, _, _, _, _, _⟩, rfl⟩).1
noncomputable abbrev s33 : Scope := (show {x : Scope // x = fs f33} from ⟨⟨_, _, _, _, _⟩, rfl⟩).1
noncomputable def f34 : Stmt := (nth PySem.Challenge.pw_pf0397_01.main.body 26)
noncomputable abbrev b34 : List Stmt := (show {x : List Stmt // x = fb f34} from ⟨[_], rfl⟩).1
noncomputable abbrev p34 : Arguments := (show {x : Arguments // x = fa f34} from ⟨⟨_, _, _, _, _, _, _⟩, rfl⟩).1
noncomputable abbrev s34 : Scope := (show {x : Scope // x = fs f34} from ⟨⟨_, _, _, _, _⟩, rfl⟩).1
noncomputable def f35 : Stmt := (nth PySem.Challenge.pw_pf0397_01.main.body 27)
noncomputable abbrev b35 : List Stmt := (show {x : List Stmt // x = fb f35} from ⟨[_, _, _], rfl⟩).1
noncomputable abbrev p35 : Arguments := (show {x : Arguments // x = fa f35} from ⟨⟨_, _, _, _, _, _, _⟩, rfl⟩).1
noncomputable abbrev s35 : Scope := (show {x : Scope // x = fs f35} from ⟨⟨_, _, _, _, _⟩, rfl⟩).1
noncomputable def f36 : Stmt := (nth PySem.Challenge.pw_pf0397_01.main.body 28)
noncomputable abbrev b36 : List Stmt := (show {x : List Stmt // x = fb f36} from ⟨[_, _, _, _, _], rfl⟩).1
noncomputable abbrev p36 : Arguments := (show {x : Arguments // x = fa f36} from ⟨⟨_, _, _, _, _, _, _⟩, rfl⟩).1
noncomputable abbrev s36 : Scope := (show {x : Scope // x = fs f36} from ⟨⟨_, _, _, _, _⟩, rfl⟩).1
noncomputable def f37 : Stmt := (nth PySem.Challenge.pw_pf0397_01.main.body 29)
noncomputable abbrev b37 : List Stmt := (show {x : List Stmt // x = fb f37} from ⟨[_, _, _, _, _, _, _, _], rfl⟩).1
noncomputable abbrev p37 : Arguments := (show {x : Arguments // x = fa f37} from ⟨⟨_, _, _, _, _, _, _⟩, rfl⟩).1
noncomputable abbrev s37 : Scope := (show {x : Scope // x = fs f37} from ⟨⟨_, _, _, _, _⟩, rfl⟩).1
noncomputable def f38 : Stmt := (nth PySem.Challenge.pw_pf0397_01.main.body 30)
noncomputable abbrev b38 : List Stmt := (show {x : List Stmt // x = fb f38} from ⟨[_, _, _, _, _, _, _, _, _, _], rfl⟩).1
noncomputable abbrev p38 : Arguments := (show {x : Arguments // x = fa f38} from ⟨⟨_, _, _, _, _, _, _⟩, rfl⟩).1
noncomputable abbrev s38 : Scope := (show {x : Scope // x = fs f38} from ⟨⟨_, _, _, _, _⟩, rfl⟩).1
noncomputable def st0 : Stmt := nth PySem.Challenge.pw_pf0397_01.main.body 0
noncomputable def st1 : Stmt := nth PySem.Challenge.pw_pf0397_01.main.body 1
noncomputable def st2 : Stmt := nth PySem.Challenge.pw_pf0397_01.main.body 2
noncomputable def st3 : Stmt := nth PySem.Challenge.pw_pf0397_01.main.body 3
noncomputable def st4 : Stmt := nth PySem.Challenge.pw_pf0397_01.main.body 4
noncomputable def st5 : Stmt := nth PySem.Challenge.pw_pf0397_01.main.body 5
noncomputable def st6 : Stmt := nth PySem.Challenge.pw_pf0397_01.main.body 6
noncomputable def st7 : Stmt := nth PySem.Challenge.pw_pf0397_01.main.body 7
noncomputable def st8 : Stmt := nth PySem.Challenge.pw_pf0397_01.main.body 8
noncomputable def st9 : Stmt := nth PySem.Challenge.pw_pf0397_01.main.body 9
noncomputable def st10 : Stmt := nth PySem.Challenge.pw_pf0397_01.main.body 10
noncomputable def st11 : Stmt := nth PySem.Challenge.pw_pf0397_01.main.body 11
noncomputable def st12 : Stmt := nth PySem.Challenge.pw_pf0397_01.main.body 12
noncomputable def st13 : Stmt := nth PySem.Challenge.pw_pf0397_01.main.body 13
noncomputable def st14 : Stmt := nth PySem.Challenge.pw_pf0397_01.main.body 14
noncomputable def st15 : Stmt := nth PySem.Challenge.pw_pf0397_01.main.body 15
noncomputable def st16 : Stmt := nth PySem.Challenge.pw_pf0397_01.main.body 16
noncomputable def st17 : Stmt := nth PySem.Challenge.pw_pf0397_01.main.body 17
noncomputable def st18 : Stmt := nth PySem.Challenge.pw_pf0397_01.main.body 18
noncomputable def st19 : Stmt := nth PySem.Challenge.pw_pf0397_01.main.body 19
noncomputable def st20 : Stmt := nth PySem.Challenge.pw_pf0397_01.main.body 20
noncomputable def st21 : Stmt := nth PySem.Challenge.pw_pf0397_01.main.body 21
noncomputable def st22 : Stmt := nth PySem.Challenge.pw_pf0397_01.main.body 22
noncomputable def st23 : Stmt := nth PySem.Challenge.pw_pf0397_01.main.body 23
noncomputable def st24 : Stmt := nth PySem.Challenge.pw_pf0397_01.main.body 24
noncomputable def st25 : Stmt := nth PySem.Challenge.pw_pf0397_01.main.body 25
noncomputable def st26 : Stmt := nth PySem.Challenge.pw_pf0397_01.main.body 26
noncomputable def st27 : Stmt := nth PySem.Challenge.pw_pf0397_01.main.body 27
noncomputable def st28 : Stmt := nth PySem.Challenge.pw_pf0397_01.main.body 28
noncomputable def st29 : Stmt := nth PySem.Challenge.pw_pf0397_01.main.body 29
noncomputable def st30 : Stmt := nth PySem.Challenge.pw_pf0397_01.main.body 30
noncomputable abbrev pwQ : Program := PySem.Challenge.pw_pf0397_01
noncomputable abbrev rwQ : OpenLaw := PySem.Challenge.rw_pf0397_01
noncomputable def sts49 : List Stmt := [st0, st1, st2]
noncomputable def sts79 : List Stmt := [st3, st4, st5, st6, st7, st8, st9, st10]
noncomputable def sts122 : List Stmt := [st11, st12]
noncomputable def sts167 : List Stmt := [st13, st14]
noncomputable def sts225 : List Stmt := [st15]
noncomputable def sts302 : List Stmt := [st16, st17, st18, st19, st20, st21, st22, st23, st24, st25, st26, st27, st28, st29]
noncomputable def sts387 : List Stmt := [st30]
noncomputable def view : Program := { pwQ with main := { pwQ.main with body := [st0, st2, st3, st5, st6, st7, st8, st9, st10, st11, st12, st13, st14, st15, st17, st18, st19, st20, st21, st22, st23, st24, st25, st26, st27, st28, st29, st30] } }
noncomputable def o43 : Params → Obj := fun P => (Obj.mk (Value.type "tuple") none (Data.seq (List.toArray []) 0) (List.toArray []))
noncomputable def o44 : Params → Obj := fun P => (Obj.mk Value.none none (Data.fields (List.toArray [])) (List.toArray []))
noncomputable def o45 : Params → Obj := fun P => (Obj.mk (Value.type "code") none (Data.fields (List.toArray [(Value.str (Str.ofString "<module>") 182), (Value.str (Str.ofString "<module>") 183), (Value.str (Str.ofString "/claim/cut.py") 184), (Value.int 1 0), (Value.int 0 0), (Value.int 0 0), (Value.int 0 0), (Value.int 0 0), (Value.ref 11), (Value.bool Bool.false), (Value.int 181 0), (Value.ref 12), Value.none, Value.none, Value.none, Value.none, (Value.int 185 0), (Value.int 1 0), (Value.str (Str.ofString "/claim/cut.py") 186)])) (List.toArray []))
noncomputable def o46 : Params → Obj := fun P => (Obj.mk (Value.type "frame") none Data.plain (List.toArray [(some (Value.ref 13)), (some (Value.ref 3)), (some (Value.ref 3)), none, (some (Value.str (Str.ofString "__main__") 164)), none, (some (Value.ref 0))]))
noncomputable def o49 : Params → Obj := fun P => (Obj.mk Value.none none (Data.dict (List.toArray [(DictEntry.mk (PyData.keyHash P (Str.ofString "type.__subclasses__.Exception.0")) (Value.str (Str.ofString "type.__subclasses__.Exception.0") 221) (Value.int 38 0)), (DictEntry.mk (PyData.keyHash P (Str.ofString "type.__subclasses__.Exception.n")) (Value.str (Str.ofString "type.__subclasses__.Exception.n") 222) (Value.int 1 0))]) 2) (List.toArray []))
noncomputable def o50 : Params → Obj := fun P => (Obj.mk (Value.type "dict") none (Data.dict (List.toArray [(DictEntry.mk (PyData.keyHash P (Str.ofString "__name__")) (Value.str (Str.ofString "__name__") 165) (Value.str (Str.ofString "thinstack.errors") 194)), (DictEntry.mk (PyData.keyHash P (Str.ofString "__doc__")) (Value.str (Str.ofString "__doc__") 166) Value.none), (DictEntry.mk (PyData.keyHash P (Str.ofString "__package__")) (Value.str (Str.ofString "__package__") 167) Value.none), (DictEntry.mk (PyData.keyHash P (Str.ofString "__loader__")) (Value.str (Str.ofString "__loader__") 168) (Value.builtin "__main__.__loader__#opaque")), (DictEntry.mk (PyData.keyHash P (Str.ofString "__spec__")) (Value.str (Str.ofString "__spec__") 169) Value.none), (DictEntry.mk (PyData.keyHash P (Str.ofString "__annotations__")) (Value.str (Str.ofString "__annotations__") 170) (Value.ref 6)), (DictEntry.mk (PyData.keyHash P (Str.ofString "__builtins__")) (Value.str (Str.ofString "__builtins__") 171) (Value.ref 4)), (DictEntry.mk (PyData.keyHash P (Str.ofString "__file__")) (Value.str (Str.ofString "__file__") 173) (Value.str (Str.ofString "/claim/cut.py") 172)), (DictEntry.mk (PyData.keyHash P (Str.ofString "__cached__")) (Value.str (Str.ofString "__cached__") 174) Value.none), (DictEntry.mk (PyData.keyHash P (Str.ofString "_wall")) (Value.str (Str.ofString "_wall") 193) (Value.ref 21)), (DictEntry.mk (PyData.keyHash P (Str.ofString "StackError")) (Value.str (Str.ofString "StackError") 224) (Value.ref 38))]) 11) (List.toArray []))
noncomputable def o51 : Params → Obj := fun P => (Obj.mk Value.none none (Data.fields (List.toArray [(Value.int 1 0), (Value.int 0 0), (Value.ref 20), (Value.int 5 0), (Value.int 0 0), (Value.ref 27)])) (List.toArray []))
noncomputable def o52 : Params → Obj := fun P => (Obj.mk (Value.type "tuple") none (Data.seq (List.toArray []) 0) (List.toArray []))
noncomputable def o53 : Params → Obj := fun P => (Obj.mk Value.none none (Data.fields (List.toArray [])) (List.toArray []))
noncomputable def o54 : Params → Obj := fun P => (Obj.mk (Value.type "tuple") none (Data.seq (List.toArray [(Value.str (Str.ofString "k") 190)]) 0) (List.toArray []))
noncomputable def o55 : Params → Obj := fun P => (Obj.mk (Value.type "tuple") none (Data.seq (List.toArray []) 0) (List.toArray []))
noncomputable def o56 : Params → Obj := fun P => (Obj.mk Value.none none (Data.func (FuncData.mk (Str.ofString "_wall") (Str.ofString "_wall") p0 (FuncBody.stmts b0) s0 0 [] Value.none Value.none Value.none Value.none none Value.none Value.none 0)) (List.toArray []))
noncomputable def o57 : Params → Obj := fun P => (Obj.mk (Value.type "code") none (Data.fields (List.toArray [(Value.str (Str.ofString "_wall") 187), (Value.str (Str.ofString "_wall") 188), (Value.str (Str.ofString "/claim/cut.py") 189), (Value.int 1 0), (Value.int 1 0), (Value.int 0 0), (Value.int 0 0), (Value.int 3 0), (Value.ref 15), (Value.bool Bool.true), (Value.int 181 0), (Value.ref 16), Value.none, (Value.ref 17), (Value.ref 18), (Value.ref 19), (Value.int 191 0), (Value.int 1 0), (Value.str (Str.ofString "/claim/cut.py") 192)])) (List.toArray []))
noncomputable def o58 : Params → Obj := fun P => (Obj.mk (Value.type "function") none (Data.func (FuncData.mk (Str.ofString "_wall") (Str.ofString "_wall") p0 (FuncBody.stmts b0) s0 3 [] Value.none Value.none Value.none (Value.str (Str.ofString "__main__") 164) none (Value.ref 20) Value.none 0)) (List.toArray []))
noncomputable def o59 : Params → Obj := fun P => (Obj.mk (Value.type "tuple") none (Data.seq (List.toArray [(Value.type "Exception")]) 0) (List.toArray []))
noncomputable def o60 : Params → Obj := fun P => (Obj.mk (Value.type "builtin_function_or_method") none (Data.fields (List.toArray [(Value.builtin "type.__prepare__"), (Value.type "type")])) (List.toArray []))
noncomputable def o61 : Params → Obj := fun P => (Obj.mk (Value.type "dict") none (Data.dict (List.toArray [(DictEntry.mk (PyData.keyHash P (Str.ofString "__module__")) (Value.str (Str.ofString "__module__") 203) (Value.str (Str.ofString "thinstack.errors") 194)), (DictEntry.mk (PyData.keyHash P (Str.ofString "__qualname__")) (Value.str (Str.ofString "__qualname__") 205) (Value.str (Str.ofString "StackError") 204)), (DictEntry.mk (PyData.keyHash P (Str.ofString "__firstlineno__")) (Value.str (Str.ofString "__firstlineno__") 207) (Value.int 5 206)), (DictEntry.mk (PyData.keyHash P (Str.ofString "__init__")) (Value.str (Str.ofString "__init__") 215) (Value.ref 35)), (DictEntry.mk (PyData.keyHash P (Str.ofString "__static_attributes__")) (Value.str (Str.ofString "__static_attributes__") 217) (Value.ref 36))]) 5) (List.toArray []))
noncomputable def o62 : Params → Obj := fun P => (Obj.mk (Value.type "tuple") none (Data.seq (List.toArray []) 0) (List.toArray []))
noncomputable def o63 : Params → Obj := fun P => (Obj.mk Value.none none (Data.fields (List.toArray [(Value.int 7 0), (Value.int 4 0), (Value.ref 34)])) (List.toArray []))
noncomputable def o64 : Params → Obj := fun P => (Obj.mk (Value.type "code") none (Data.fields (List.toArray [(Value.str (Str.ofString "StackError") 198), (Value.str (Str.ofString "StackError") 199), (Value.str (Str.ofString "/claim/cut.py") 200), (Value.int 5 0), (Value.int 0 0), (Value.int 0 0), (Value.int 0 0), (Value.int 0 0), (Value.ref 25), (Value.bool Bool.false), (Value.int 181 0), (Value.ref 26), Value.none, Value.none, Value.none, Value.none, (Value.int 201 0), (Value.int 5 0), (Value.str (Str.ofString "/claim/cut.py") 202)])) (List.toArray []))
noncomputable def o65 : Params → Obj := fun P => (Obj.mk (Value.type "frame") none Data.plain (List.toArray [(some (Value.ref 27)), (some (Value.ref 3)), (some (Value.ref 24)), none, (some (Value.str (Str.ofString "thinstack.errors") 194)), none, (some (Value.ref 0))]))
noncomputable def o66 : Params → Obj := fun P => (Obj.mk (Value.type "tuple") none (Data.seq (List.toArray []) 0) (List.toArray []))
noncomputable def o67 : Params → Obj := fun P => (Obj.mk Value.none none (Data.fields (List.toArray [])) (List.toArray []))
noncomputable def o68 : Params → Obj := fun P => (Obj.mk (Value.type "tuple") none (Data.seq (List.toArray [(Value.str (Str.ofString "self") 211), (Value.str (Str.ofString "message") 212)]) 0) (List.toArray []))
noncomputable def o69 : Params → Obj := fun P => (Obj.mk (Value.type "tuple") none (Data.seq (List.toArray []) 0) (List.toArray []))
noncomputable def o70 : Params → Obj := fun P => (Obj.mk Value.none none (Data.func (FuncData.mk (Str.ofString "__init__") (Str.ofString "StackError.__init__") p1 (FuncBody.stmts b1) s1 0 [] Value.none Value.none Value.none Value.none none Value.none Value.none 0)) (List.toArray []))
noncomputable def o71 : Params → Obj := fun P => (Obj.mk (Value.type "code") none (Data.fields (List.toArray [(Value.str (Str.ofString "__init__") 208), (Value.str (Str.ofString "StackError.__init__") 209), (Value.str (Str.ofString "/claim/cut.py") 210), (Value.int 7 0), (Value.int 2 0), (Value.int 0 0), (Value.int 0 0), (Value.int 3 0), (Value.ref 29), (Value.bool Bool.true), (Value.int 181 0), (Value.ref 30), Value.none, (Value.ref 31), (Value.ref 32), (Value.ref 33), (Value.int 213 0), (Value.int 7 0), (Value.str (Str.ofString "/claim/cut.py") 214)])) (List.toArray []))
noncomputable def o72 : Params → Obj := fun P => (Obj.mk (Value.type "function") none (Data.func (FuncData.mk (Str.ofString "__init__") (Str.ofString "StackError.__init__") p1 (FuncBody.stmts b1) s1 3 [] Value.none Value.none Value.none (Value.str (Str.ofString "thinstack.errors") 194) none (Value.ref 34) Value.none 0)) (List.toArray []))
noncomputable def o73 : Params → Obj := fun P => (Obj.mk (Value.type "tuple") none (Data.seq (List.toArray [(Value.str (Str.ofString "message") 216)]) 0) (List.toArray []))
noncomputable def o74 : Params → Obj := fun P => (Obj.mk (Value.type "dict") none (Data.dict (List.toArray [(DictEntry.mk (PyData.keyHash P (Str.ofString "__module__")) (Value.str (Str.ofString "__module__") 203) (Value.str (Str.ofString "thinstack.errors") 194)), (DictEntry.mk (PyData.keyHash P (Str.ofString "__firstlineno__")) (Value.str (Str.ofString "__firstlineno__") 207) (Value.int 5 206)), (DictEntry.mk (PyData.keyHash P (Str.ofString "__init__")) (Value.str (Str.ofString "__init__") 215) (Value.ref 35)), (DictEntry.mk (PyData.keyHash P (Str.ofString "__static_attributes__")) (Value.str (Str.ofString "__static_attributes__") 217) (Value.ref 36)), (DictEntry.mk (PyData.keyHash P (Str.ofString "__weakref__")) (Value.str (Str.ofString "__weakref__") 219) (Value.ref 39)), (DictEntry.mk (PyData.keyHash P (Str.ofString "__doc__")) (Value.str (Str.ofString "__doc__") 220) Value.none)]) 3) (List.toArray []))
noncomputable def o75 : Params → Obj := fun P => (Obj.mk (Value.type "type") none (Data.cls (ClassData.mk (Str.ofString "StackError") [(Value.type "Exception")] [(Value.ref 38), (Value.type "Exception"), (Value.type "BaseException"), (Value.type "object")] 37 (Str.ofString "StackError") Bool.true [] [] Bool.false none Bool.false)) (List.toArray [(some (Value.ref 22)), none, (some (Value.str (Str.ofString "StackError") 196)), (some (Value.str (Str.ofString "StackError") 204)), (some (Value.builtin "Exception.__new__")), (some (Value.bool Bool.true))]))
noncomputable def o76 : Params → Obj := fun P => (Obj.mk (Value.type "getset_descriptor") none (Data.fields (List.toArray [(Value.str (Str.ofString "__weakref__") 218), (Value.ref 38), (Value.builtin "ExceptionGroup.__weakref__"), Value.none])) (List.toArray []))
noncomputable def o77 : Params → Obj := fun P => (Obj.mk (Value.type "super") none (Data.fields (List.toArray [(Value.ref 38), (Value.ref 38), (Value.ref 38)])) (List.toArray []))
noncomputable def o78 : Params → Obj := fun P => (Obj.mk (Value.type "builtin_function_or_method") none (Data.fields (List.toArray [(Value.builtin "object.__init_subclass__"), (Value.ref 38)])) (List.toArray []))
noncomputable def o79 : Params → Obj := fun P => (Obj.mk (Value.type "dict") none (Data.dict (List.toArray [(DictEntry.mk (PyData.keyHash P (Str.ofString "__name__")) (Value.str (Str.ofString "__name__") 165) (Value.str (Str.ofString "thinstack.routes") 241)), (DictEntry.mk (PyData.keyHash P (Str.ofString "__doc__")) (Value.str (Str.ofString "__doc__") 166) Value.none), (DictEntry.mk (PyData.keyHash P (Str.ofString "__package__")) (Value.str (Str.ofString "__package__") 167) Value.none), (DictEntry.mk (PyData.keyHash P (Str.ofString "__loader__")) (Value.str (Str.ofString "__loader__") 168) (Value.builtin "__main__.__loader__#opaque")), (DictEntry.mk (PyData.keyHash P (Str.ofString "__spec__")) (Value.str (Str.ofString "__spec__") 169) Value.none), (DictEntry.mk (PyData.keyHash P (Str.ofString "__annotations__")) (Value.str (Str.ofString "__annotations__") 170) (Value.ref 6)), (DictEntry.mk (PyData.keyHash P (Str.ofString "__builtins__")) (Value.str (Str.ofString "__builtins__") 171) (Value.ref 4)), (DictEntry.mk (PyData.keyHash P (Str.ofString "__file__")) (Value.str (Str.ofString "__file__") 173) (Value.str (Str.ofString "/claim/cut.py") 172)), (DictEntry.mk (PyData.keyHash P (Str.ofString "__cached__")) (Value.str (Str.ofString "__cached__") 174) Value.none), (DictEntry.mk (PyData.keyHash P (Str.ofString "_wall")) (Value.str (Str.ofString "_wall") 193) (Value.ref 21)), (DictEntry.mk (PyData.keyHash P (Str.ofString "StackError")) (Value.str (Str.ofString "StackError") 224) (Value.ref 38)), (DictEntry.mk (PyData.keyHash P (Str.ofString "RouteError")) (Value.str (Str.ofString "RouteError") 240) (Value.ref 51)), (DictEntry.mk (PyData.keyHash P (Str.ofString "BITS")) (Value.str (Str.ofString "BITS") 244) (Value.int 32 243)), (DictEntry.mk (PyData.keyHash P (Str.ofString "ALL")) (Value.str (Str.ofString "ALL") 250) (Value.int 4294967295 249)), (DictEntry.mk (PyData.keyHash P (Str.ofString "mask_of")) (Value.str (Str.ofString "mask_of") 257) (Value.ref 60)), (DictEntry.mk (PyData.keyHash P (Str.ofString "net_of")) (Value.str (Str.ofString "net_of") 265) (Value.ref 67)), (DictEntry.mk (PyData.keyHash P (Str.ofString "is_in")) (Value.str (Str.ofString "is_in") 274) (Value.ref 74)), (DictEntry.mk (PyData.keyHash P (Str.ofString "is_broadcast")) (Value.str (Str.ofString "is_broadcast") 283) (Value.ref 81))]) 18) (List.toArray []))
noncomputable def o80 : Params → Obj := fun P => (Obj.mk Value.none none (Data.fields (List.toArray [(Value.int 1 0), (Value.int 0 0), (Value.ref 20), (Value.int 5 0), (Value.int 0 0), (Value.ref 27), (Value.int 9 0), (Value.int 0 0), (Value.ref 47), (Value.int 14 0), (Value.int 0 0), (Value.ref 59), (Value.int 18 0), (Value.int 0 0), (Value.ref 66), (Value.int 20 0), (Value.int 0 0), (Value.ref 73), (Value.int 22 0), (Value.int 0 0), (Value.ref 80)])) (List.toArray []))
noncomputable def o81 : Params → Obj := fun P => (Obj.mk (Value.type "type") none (Data.cls (ClassData.mk (Str.ofString "StackError") [(Value.type "Exception")] [(Value.ref 38), (Value.type "Exception"), (Value.type "BaseException"), (Value.type "object")] 37 (Str.ofString "StackError") Bool.true [] [(Value.ref 51)] Bool.false none Bool.false)) (List.toArray [(some (Value.ref 22)), none, (some (Value.str (Str.ofString "StackError") 196)), (some (Value.str (Str.ofString "StackError") 204)), (some (Value.builtin "Exception.__new__")), (some (Value.bool Bool.true))]))
noncomputable def o82 : Params → Obj := fun P => (Obj.mk (Value.type "tuple") none (Data.seq (List.toArray [(Value.ref 38)]) 0) (List.toArray []))
noncomputable def o83 : Params → Obj := fun P => (Obj.mk (Value.type "builtin_function_or_method") none (Data.fields (List.toArray [(Value.builtin "type.__prepare__"), (Value.type "type")])) (List.toArray []))
noncomputable def o84 : Params → Obj := fun P => (Obj.mk (Value.type "dict") none (Data.dict (List.toArray [(DictEntry.mk (PyData.keyHash P (Str.ofString "__module__")) (Value.str (Str.ofString "__module__") 232) (Value.str (Str.ofString "thinstack.errors") 194)), (DictEntry.mk (PyData.keyHash P (Str.ofString "__qualname__")) (Value.str (Str.ofString "__qualname__") 234) (Value.str (Str.ofString "RouteError") 233)), (DictEntry.mk (PyData.keyHash P (Str.ofString "__firstlineno__")) (Value.str (Str.ofString "__firstlineno__") 236) (Value.int 9 235)), (DictEntry.mk (PyData.keyHash P (Str.ofString "__static_attributes__")) (Value.str (Str.ofString "__static_attributes__") 237) (Value.ref 49))]) 4) (List.toArray []))
noncomputable def o85 : Params → Obj := fun P => (Obj.mk (Value.type "tuple") none (Data.seq (List.toArray []) 0) (List.toArray []))
noncomputable def o86 : Params → Obj := fun P => (Obj.mk Value.none none (Data.fields (List.toArray [])) (List.toArray []))
noncomputable def o87 : Params → Obj := fun P => (Obj.mk (Value.type "code") none (Data.fields (List.toArray [(Value.str (Str.ofString "RouteError") 227), (Value.str (Str.ofString "RouteError") 228), (Value.str (Str.ofString "/claim/cut.py") 229), (Value.int 9 0), (Value.int 0 0), (Value.int 0 0), (Value.int 0 0), (Value.int 0 0), (Value.ref 45), (Value.bool Bool.false), (Value.int 181 0), (Value.ref 46), Value.none, Value.none, Value.none, Value.none, (Value.int 230 0), (Value.int 9 0), (Value.str (Str.ofString "/claim/cut.py") 231)])) (List.toArray []))
noncomputable def o88 : Params → Obj := fun P => (Obj.mk (Value.type "frame") none Data.plain (List.toArray [(some (Value.ref 47)), (some (Value.ref 3)), (some (Value.ref 44)), none, (some (Value.str (Str.ofString "thinstack.errors") 194)), none, (some (Value.ref 0))]))
noncomputable def o89 : Params → Obj := fun P => (Obj.mk (Value.type "tuple") none (Data.seq (List.toArray []) 0) (List.toArray []))
noncomputable def o90 : Params → Obj := fun P => (Obj.mk (Value.type "dict") none (Data.dict (List.toArray [(DictEntry.mk (PyData.keyHash P (Str.ofString "__module__")) (Value.str (Str.ofString "__module__") 232) (Value.str (Str.ofString "thinstack.errors") 194)), (DictEntry.mk (PyData.keyHash P (Str.ofString "__firstlineno__")) (Value.str (Str.ofString "__firstlineno__") 236) (Value.int 9 235)), (DictEntry.mk (PyData.keyHash P (Str.ofString "__static_attributes__")) (Value.str (Str.ofString "__static_attributes__") 237) (Value.ref 49)), (DictEntry.mk (PyData.keyHash P (Str.ofString "__doc__")) (Value.str (Str.ofString "__doc__") 238) Value.none)]) 2) (List.toArray []))
noncomputable def o91 : Params → Obj := fun P => (Obj.mk (Value.type "type") none (Data.cls (ClassData.mk (Str.ofString "RouteError") [(Value.ref 38)] [(Value.ref 51), (Value.ref 38), (Value.type "Exception"), (Value.type "BaseException"), (Value.type "object")] 50 (Str.ofString "RouteError") Bool.true [] [] Bool.false none Bool.false)) (List.toArray [(some (Value.ref 42)), none, (some (Value.str (Str.ofString "RouteError") 225)), (some (Value.str (Str.ofString "RouteError") 233)), (some (Value.builtin "Exception.__new__")), (some (Value.bool Bool.true))]))
noncomputable def o92 : Params → Obj := fun P => (Obj.mk (Value.type "super") none (Data.fields (List.toArray [(Value.ref 51), (Value.ref 51), (Value.ref 51)])) (List.toArray []))
noncomputable def o93 : Params → Obj := fun P => (Obj.mk (Value.type "builtin_function_or_method") none (Data.fields (List.toArray [(Value.builtin "object.__init_subclass__"), (Value.ref 51)])) (List.toArray []))
noncomputable def o94 : Params → Obj := fun P => (Obj.mk (Value.type "tuple") none (Data.seq (List.toArray []) 0) (List.toArray []))
noncomputable def o95 : Params → Obj := fun P => (Obj.mk Value.none none (Data.fields (List.toArray [])) (List.toArray []))
noncomputable def o96 : Params → Obj := fun P => (Obj.mk (Value.type "tuple") none (Data.seq (List.toArray [(Value.str (Str.ofString "prefix") 254)]) 0) (List.toArray []))
noncomputable def o97 : Params → Obj := fun P => (Obj.mk (Value.type "tuple") none (Data.seq (List.toArray []) 0) (List.toArray []))
noncomputable def o98 : Params → Obj := fun P => (Obj.mk Value.none none (Data.func (FuncData.mk (Str.ofString "mask_of") (Str.ofString "mask_of") p2 (FuncBody.stmts b2) s2 0 [] Value.none Value.none Value.none Value.none none Value.none Value.none 0)) (List.toArray []))
noncomputable def o99 : Params → Obj := fun P => (Obj.mk (Value.type "code") none (Data.fields (List.toArray [(Value.str (Str.ofString "mask_of") 251), (Value.str (Str.ofString "mask_of") 252), (Value.str (Str.ofString "/claim/cut.py") 253), (Value.int 14 0), (Value.int 1 0), (Value.int 0 0), (Value.int 0 0), (Value.int 3 0), (Value.ref 54), (Value.bool Bool.true), (Value.int 181 0), (Value.ref 55), Value.none, (Value.ref 56), (Value.ref 57), (Value.ref 58), (Value.int 255 0), (Value.int 14 0), (Value.str (Str.ofString "/claim/cut.py") 256)])) (List.toArray []))
noncomputable def o100 : Params → Obj := fun P => (Obj.mk (Value.type "function") none (Data.func (FuncData.mk (Str.ofString "mask_of") (Str.ofString "mask_of") p2 (FuncBody.stmts b2) s2 3 [] Value.none Value.none Value.none (Value.str (Str.ofString "thinstack.routes") 241) none (Value.ref 59) Value.none 0)) (List.toArray []))
noncomputable def o101 : Params → Obj := fun P => (Obj.mk (Value.type "tuple") none (Data.seq (List.toArray []) 0) (List.toArray []))
noncomputable def o102 : Params → Obj := fun P => (Obj.mk Value.none none (Data.fields (List.toArray [])) (List.toArray []))
noncomputable def o103 : Params → Obj := fun P => (Obj.mk (Value.type "tuple") none (Data.seq (List.toArray [(Value.str (Str.ofString "address") 261), (Value.str (Str.ofString "prefix") 262)]) 0) (List.toArray []))
noncomputable def o104 : Params → Obj := fun P => (Obj.mk (Value.type "tuple") none (Data.seq (List.toArray []) 0) (List.toArray []))
noncomputable def o105 : Params → Obj := fun P => (Obj.mk Value.none none (Data.func (FuncData.mk (Str.ofString "net_of") (Str.ofString "net_of") p3 (FuncBody.stmts b3) s3 0 [] Value.none Value.none Value.none Value.none none Value.none Value.none 0)) (List.toArray []))
noncomputable def o106 : Params → Obj := fun P => (Obj.mk (Value.type "code") none (Data.fields (List.toArray [(Value.str (Str.ofString "net_of") 258), (Value.str (Str.ofString "net_of") 259), (Value.str (Str.ofString "/claim/cut.py") 260), (Value.int 18 0), (Value.int 2 0), (Value.int 0 0), (Value.int 0 0), (Value.int 3 0), (Value.ref 61), (Value.bool Bool.true), (Value.int 181 0), (Value.ref 62), Value.none, (Value.ref 63), (Value.ref 64), (Value.ref 65), (Value.int 263 0), (Value.int 18 0), (Value.str (Str.ofString "/claim/cut.py") 264)])) (List.toArray []))
noncomputable def o107 : Params → Obj := fun P => (Obj.mk (Value.type "function") none (Data.func (FuncData.mk (Str.ofString "net_of") (Str.ofString "net_of") p3 (FuncBody.stmts b3) s3 3 [] Value.none Value.none Value.none (Value.str (Str.ofString "thinstack.routes") 241) none (Value.ref 66) Value.none 0)) (List.toArray []))
noncomputable def o108 : Params → Obj := fun P => (Obj.mk (Value.type "tuple") none (Data.seq (List.toArray []) 0) (List.toArray []))
noncomputable def o109 : Params → Obj := fun P => (Obj.mk Value.none none (Data.fields (List.toArray [])) (List.toArray []))
noncomputable def o110 : Params → Obj := fun P => (Obj.mk (Value.type "tuple") none (Data.seq (List.toArray [(Value.str (Str.ofString "address") 269), (Value.str (Str.ofString "net") 270), (Value.str (Str.ofString "prefix") 271)]) 0) (List.toArray []))
noncomputable def o111 : Params → Obj := fun P => (Obj.mk (Value.type "tuple") none (Data.seq (List.toArray []) 0) (List.toArray []))
noncomputable def o112 : Params → Obj := fun P => (Obj.mk Value.none none (Data.func (FuncData.mk (Str.ofString "is_in") (Str.ofString "is_in") p4 (FuncBody.stmts b4) s4 0 [] Value.none Value.none Value.none Value.none none Value.none Value.none 0)) (List.toArray []))
noncomputable def o113 : Params → Obj := fun P => (Obj.mk (Value.type "code") none (Data.fields (List.toArray [(Value.str (Str.ofString "is_in") 266), (Value.str (Str.ofString "is_in") 267), (Value.str (Str.ofString "/claim/cut.py") 268), (Value.int 20 0), (Value.int 3 0), (Value.int 0 0), (Value.int 0 0), (Value.int 3 0), (Value.ref 68), (Value.bool Bool.true), (Value.int 181 0), (Value.ref 69), Value.none, (Value.ref 70), (Value.ref 71), (Value.ref 72), (Value.int 272 0), (Value.int 20 0), (Value.str (Str.ofString "/claim/cut.py") 273)])) (List.toArray []))
noncomputable def o114 : Params → Obj := fun P => (Obj.mk (Value.type "function") none (Data.func (FuncData.mk (Str.ofString "is_in") (Str.ofString "is_in") p4 (FuncBody.stmts b4) s4 3 [] Value.none Value.none Value.none (Value.str (Str.ofString "thinstack.routes") 241) none (Value.ref 73) Value.none 0)) (List.toArray []))
noncomputable def o115 : Params → Obj := fun P => (Obj.mk (Value.type "tuple") none (Data.seq (List.toArray []) 0) (List.toArray []))
noncomputable def o116 : Params → Obj := fun P => (Obj.mk Value.none none (Data.fields (List.toArray [])) (List.toArray []))
noncomputable def o117 : Params → Obj := fun P => (Obj.mk (Value.type "tuple") none (Data.seq (List.toArray [(Value.str (Str.ofString "address") 278), (Value.str (Str.ofString "net") 279), (Value.str (Str.ofString "prefix") 280)]) 0) (List.toArray []))
noncomputable def o118 : Params → Obj := fun P => (Obj.mk (Value.type "tuple") none (Data.seq (List.toArray []) 0) (List.toArray []))
noncomputable def o119 : Params → Obj := fun P => (Obj.mk Value.none none (Data.func (FuncData.mk (Str.ofString "is_broadcast") (Str.ofString "is_broadcast") p5 (FuncBody.stmts b5) s5 0 [] Value.none Value.none Value.none Value.none none Value.none Value.none 0)) (List.toArray []))
noncomputable def o120 : Params → Obj := fun P => (Obj.mk (Value.type "code") none (Data.fields (List.toArray [(Value.str (Str.ofString "is_broadcast") 275), (Value.str (Str.ofString "is_broadcast") 276), (Value.str (Str.ofString "/claim/cut.py") 277), (Value.int 22 0), (Value.int 3 0), (Value.int 0 0), (Value.int 0 0), (Value.int 3 0), (Value.ref 75), (Value.bool Bool.true), (Value.int 181 0), (Value.ref 76), Value.none, (Value.ref 77), (Value.ref 78), (Value.ref 79), (Value.int 281 0), (Value.int 22 0), (Value.str (Str.ofString "/claim/cut.py") 282)])) (List.toArray []))
noncomputable def o121 : Params → Obj := fun P => (Obj.mk (Value.type "function") none (Data.func (FuncData.mk (Str.ofString "is_broadcast") (Str.ofString "is_broadcast") p5 (FuncBody.stmts b5) s5 3 [] Value.none Value.none Value.none (Value.str (Str.ofString "thinstack.routes") 241) none (Value.ref 80) Value.none 0)) (List.toArray []))
noncomputable def o122 : Params → Obj := fun P => (Obj.mk (Value.type "dict") none (Data.dict (List.toArray [(DictEntry.mk (PyData.keyHash P (Str.ofString "__name__")) (Value.str (Str.ofString "__name__") 165) (Value.str (Str.ofString "thinstack.routes") 241)), (DictEntry.mk (PyData.keyHash P (Str.ofString "__doc__")) (Value.str (Str.ofString "__doc__") 166) Value.none), (DictEntry.mk (PyData.keyHash P (Str.ofString "__package__")) (Value.str (Str.ofString "__package__") 167) Value.none), (DictEntry.mk (PyData.keyHash P (Str.ofString "__loader__")) (Value.str (Str.ofString "__loader__") 168) (Value.builtin "__main__.__loader__#opaque")), (DictEntry.mk (PyData.keyHash P (Str.ofString "__spec__")) (Value.str (Str.ofString "__spec__") 169) Value.none), (DictEntry.mk (PyData.keyHash P (Str.ofString "__annotations__")) (Value.str (Str.ofString "__annotations__") 170) (Value.ref 6)), (DictEntry.mk (PyData.keyHash P (Str.ofString "__builtins__")) (Value.str (Str.ofString "__builtins__") 171) (Value.ref 4)), (DictEntry.mk (PyData.keyHash P (Str.ofString "__file__")) (Value.str (Str.ofString "__file__") 173) (Value.str (Str.ofString "/claim/cut.py") 172)), (DictEntry.mk (PyData.keyHash P (Str.ofString "__cached__")) (Value.str (Str.ofString "__cached__") 174) Value.none), (DictEntry.mk (PyData.keyHash P (Str.ofString "_wall")) (Value.str (Str.ofString "_wall") 193) (Value.ref 21)), (DictEntry.mk (PyData.keyHash P (Str.ofString "StackError")) (Value.str (Str.ofString "StackError") 224) (Value.ref 38)), (DictEntry.mk (PyData.keyHash P (Str.ofString "RouteError")) (Value.str (Str.ofString "RouteError") 240) (Value.ref 51)), (DictEntry.mk (PyData.keyHash P (Str.ofString "BITS")) (Value.str (Str.ofString "BITS") 244) (Value.int 32 243)), (DictEntry.mk (PyData.keyHash P (Str.ofString "ALL")) (Value.str (Str.ofString "ALL") 250) (Value.int 4294967295 249)), (DictEntry.mk (PyData.keyHash P (Str.ofString "mask_of")) (Value.str (Str.ofString "mask_of") 257) (Value.ref 60)), (DictEntry.mk (PyData.keyHash P (Str.ofString "net_of")) (Value.str (Str.ofString "net_of") 265) (Value.ref 67)), (DictEntry.mk (PyData.keyHash P (Str.ofString "is_in")) (Value.str (Str.ofString "is_in") 274) (Value.ref 74)), (DictEntry.mk (PyData.keyHash P (Str.ofString "is_broadcast")) (Value.str (Str.ofString "is_broadcast") 283) (Value.ref 81)), (DictEntry.mk (PyData.keyHash P (Str.ofString "is_loop")) (Value.str (Str.ofString "is_loop") 290) (Value.ref 88)), (DictEntry.mk (PyData.keyHash P (Str.ofString "Route")) (Value.str (Str.ofString "Route") 343) (Value.ref 120))]) 20) (List.toArray []))
noncomputable def o123 : Params → Obj := fun P => (Obj.mk Value.none none (Data.fields (List.toArray [(Value.int 1 0), (Value.int 0 0), (Value.ref 20), (Value.int 5 0), (Value.int 0 0), (Value.ref 27), (Value.int 9 0), (Value.int 0 0), (Value.ref 47), (Value.int 14 0), (Value.int 0 0), (Value.ref 59), (Value.int 18 0), (Value.int 0 0), (Value.ref 66), (Value.int 20 0), (Value.int 0 0), (Value.ref 73), (Value.int 22 0), (Value.int 0 0), (Value.ref 80), (Value.int 28 0), (Value.int 0 0), (Value.ref 87), (Value.int 30 0), (Value.int 0 0), (Value.ref 94)])) (List.toArray []))
noncomputable def o124 : Params → Obj := fun P => (Obj.mk (Value.type "tuple") none (Data.seq (List.toArray []) 0) (List.toArray []))
noncomputable def o125 : Params → Obj := fun P => (Obj.mk Value.none none (Data.fields (List.toArray [])) (List.toArray []))
noncomputable def o126 : Params → Obj := fun P => (Obj.mk (Value.type "tuple") none (Data.seq (List.toArray [(Value.str (Str.ofString "address") 287)]) 0) (List.toArray []))
noncomputable def o127 : Params → Obj := fun P => (Obj.mk (Value.type "tuple") none (Data.seq (List.toArray []) 0) (List.toArray []))
noncomputable def o128 : Params → Obj := fun P => (Obj.mk Value.none none (Data.func (FuncData.mk (Str.ofString "is_loop") (Str.ofString "is_loop") p6 (FuncBody.stmts b6) s6 0 [] Value.none Value.none Value.none Value.none none Value.none Value.none 0)) (List.toArray []))
noncomputable def o129 : Params → Obj := fun P => (Obj.mk (Value.type "code") none (Data.fields (List.toArray [(Value.str (Str.ofString "is_loop") 284), (Value.str (Str.ofString "is_loop") 285), (Value.str (Str.ofString "/claim/cut.py") 286), (Value.int 28 0), (Value.int 1 0), (Value.int 0 0), (Value.int 0 0), (Value.int 3 0), (Value.ref 82), (Value.bool Bool.true), (Value.int 181 0), (Value.ref 83), Value.none, (Value.ref 84), (Value.ref 85), (Value.ref 86), (Value.int 288 0), (Value.int 28 0), (Value.str (Str.ofString "/claim/cut.py") 289)])) (List.toArray []))
noncomputable def o130 : Params → Obj := fun P => (Obj.mk (Value.type "function") none (Data.func (FuncData.mk (Str.ofString "is_loop") (Str.ofString "is_loop") p6 (FuncBody.stmts b6) s6 3 [] Value.none Value.none Value.none (Value.str (Str.ofString "thinstack.routes") 241) none (Value.ref 87) Value.none 0)) (List.toArray []))
noncomputable def o131 : Params → Obj := fun P => (Obj.mk (Value.type "tuple") none (Data.seq (List.toArray []) 0) (List.toArray []))
noncomputable def o132 : Params → Obj := fun P => (Obj.mk (Value.type "builtin_function_or_method") none (Data.fields (List.toArray [(Value.builtin "type.__prepare__"), (Value.type "type")])) (List.toArray []))
noncomputable def o133 : Params → Obj := fun P => (Obj.mk (Value.type "dict") none (Data.dict (List.toArray [(DictEntry.mk (PyData.keyHash P (Str.ofString "__module__")) (Value.str (Str.ofString "__module__") 298) (Value.str (Str.ofString "thinstack.routes") 241)), (DictEntry.mk (PyData.keyHash P (Str.ofString "__qualname__")) (Value.str (Str.ofString "__qualname__") 300) (Value.str (Str.ofString "Route") 299)), (DictEntry.mk (PyData.keyHash P (Str.ofString "__firstlineno__")) (Value.str (Str.ofString "__firstlineno__") 302) (Value.int 30 301)), (DictEntry.mk (PyData.keyHash P (Str.ofString "__init__")) (Value.str (Str.ofString "__init__") 315) (Value.ref 103)), (DictEntry.mk (PyData.keyHash P (Str.ofString "next_address")) (Value.str (Str.ofString "next_address") 323) (Value.ref 110)), (DictEntry.mk (PyData.keyHash P (Str.ofString "row")) (Value.str (Str.ofString "row") 330) (Value.ref 117)), (DictEntry.mk (PyData.keyHash P (Str.ofString "__static_attributes__")) (Value.str (Str.ofString "__static_attributes__") 336) (Value.ref 118))]) 7) (List.toArray []))
noncomputable def o134 : Params → Obj := fun P => (Obj.mk (Value.type "tuple") none (Data.seq (List.toArray []) 0) (List.toArray []))
noncomputable def o135 : Params → Obj := fun P => (Obj.mk Value.none none (Data.fields (List.toArray [(Value.int 32 0), (Value.int 4 0), (Value.ref 102), (Value.int 39 0), (Value.int 4 0), (Value.ref 109), (Value.int 42 0), (Value.int 4 0), (Value.ref 116)])) (List.toArray []))
noncomputable def o136 : Params → Obj := fun P => (Obj.mk (Value.type "code") none (Data.fields (List.toArray [(Value.str (Str.ofString "Route") 293), (Value.str (Str.ofString "Route") 294), (Value.str (Str.ofString "/claim/cut.py") 295), (Value.int 30 0), (Value.int 0 0), (Value.int 0 0), (Value.int 0 0), (Value.int 0 0), (Value.ref 92), (Value.bool Bool.false), (Value.int 181 0), (Value.ref 93), Value.none, Value.none, Value.none, Value.none, (Value.int 296 0), (Value.int 30 0), (Value.str (Str.ofString "/claim/cut.py") 297)])) (List.toArray []))
noncomputable def o137 : Params → Obj := fun P => (Obj.mk (Value.type "frame") none Data.plain (List.toArray [(some (Value.ref 94)), (some (Value.ref 3)), (some (Value.ref 91)), none, (some (Value.str (Str.ofString "thinstack.routes") 241)), none, (some (Value.ref 0))]))
noncomputable def o138 : Params → Obj := fun P => (Obj.mk (Value.type "tuple") none (Data.seq (List.toArray [(Value.int 0 303)]) 0) (List.toArray []))
noncomputable def o139 : Params → Obj := fun P => (Obj.mk (Value.type "tuple") none (Data.seq (List.toArray []) 0) (List.toArray []))
noncomputable def o140 : Params → Obj := fun P => (Obj.mk Value.none none (Data.fields (List.toArray [])) (List.toArray []))
noncomputable def o141 : Params → Obj := fun P => (Obj.mk (Value.type "tuple") none (Data.seq (List.toArray [(Value.str (Str.ofString "self") 307), (Value.str (Str.ofString "net") 308), (Value.str (Str.ofString "prefix") 309), (Value.str (Str.ofString "gateway") 310), (Value.str (Str.ofString "face") 311), (Value.str (Str.ofString "metric") 312)]) 0) (List.toArray []))
noncomputable def o142 : Params → Obj := fun P => (Obj.mk (Value.type "tuple") none (Data.seq (List.toArray []) 0) (List.toArray []))
noncomputable def o143 : Params → Obj := fun P => (Obj.mk Value.none none (Data.func (FuncData.mk (Str.ofString "__init__") (Str.ofString "Route.__init__") p7 (FuncBody.stmts b7) s7 0 [] Value.none Value.none Value.none Value.none none Value.none Value.none 0)) (List.toArray []))
noncomputable def o144 : Params → Obj := fun P => (Obj.mk (Value.type "code") none (Data.fields (List.toArray [(Value.str (Str.ofString "__init__") 304), (Value.str (Str.ofString "Route.__init__") 305), (Value.str (Str.ofString "/claim/cut.py") 306), (Value.int 32 0), (Value.int 6 0), (Value.int 0 0), (Value.int 0 0), (Value.int 3 0), (Value.ref 97), (Value.bool Bool.true), (Value.int 181 0), (Value.ref 98), Value.none, (Value.ref 99), (Value.ref 100), (Value.ref 101), (Value.int 313 0), (Value.int 32 0), (Value.str (Str.ofString "/claim/cut.py") 314)])) (List.toArray []))
noncomputable def o145 : Params → Obj := fun P => (Obj.mk (Value.type "function") none (Data.func (FuncData.mk (Str.ofString "__init__") (Str.ofString "Route.__init__") p7 (FuncBody.stmts b7) s7 3 [] (Value.ref 96) Value.none Value.none (Value.str (Str.ofString "thinstack.routes") 241) none (Value.ref 102) Value.none 0)) (List.toArray []))
noncomputable def o146 : Params → Obj := fun P => (Obj.mk (Value.type "tuple") none (Data.seq (List.toArray []) 0) (List.toArray []))
noncomputable def o147 : Params → Obj := fun P => (Obj.mk Value.none none (Data.fields (List.toArray [])) (List.toArray []))
noncomputable def o148 : Params → Obj := fun P => (Obj.mk (Value.type "tuple") none (Data.seq (List.toArray [(Value.str (Str.ofString "self") 319), (Value.str (Str.ofString "target") 320)]) 0) (List.toArray []))
noncomputable def o149 : Params → Obj := fun P => (Obj.mk (Value.type "tuple") none (Data.seq (List.toArray []) 0) (List.toArray []))
noncomputable def o150 : Params → Obj := fun P => (Obj.mk Value.none none (Data.func (FuncData.mk (Str.ofString "next_address") (Str.ofString "Route.next_address") p8 (FuncBody.stmts b8) s8 0 [] Value.none Value.none Value.none Value.none none Value.none Value.none 0)) (List.toArray []))
noncomputable def o151 : Params → Obj := fun P => (Obj.mk (Value.type "code") none (Data.fields (List.toArray [(Value.str (Str.ofString "next_address") 316), (Value.str (Str.ofString "Route.next_address") 317), (Value.str (Str.ofString "/claim/cut.py") 318), (Value.int 39 0), (Value.int 2 0), (Value.int 0 0), (Value.int 0 0), (Value.int 3 0), (Value.ref 104), (Value.bool Bool.true), (Value.int 181 0), (Value.ref 105), Value.none, (Value.ref 106), (Value.ref 107), (Value.ref 108), (Value.int 321 0), (Value.int 39 0), (Value.str (Str.ofString "/claim/cut.py") 322)])) (List.toArray []))
noncomputable def o152 : Params → Obj := fun P => (Obj.mk (Value.type "function") none (Data.func (FuncData.mk (Str.ofString "next_address") (Str.ofString "Route.next_address") p8 (FuncBody.stmts b8) s8 3 [] Value.none Value.none Value.none (Value.str (Str.ofString "thinstack.routes") 241) none (Value.ref 109) Value.none 0)) (List.toArray []))
noncomputable def o153 : Params → Obj := fun P => (Obj.mk (Value.type "tuple") none (Data.seq (List.toArray []) 0) (List.toArray []))
noncomputable def o154 : Params → Obj := fun P => (Obj.mk Value.none none (Data.fields (List.toArray [])) (List.toArray []))
noncomputable def o155 : Params → Obj := fun P => (Obj.mk (Value.type "tuple") none (Data.seq (List.toArray [(Value.str (Str.ofString "self") 327)]) 0) (List.toArray []))
noncomputable def o156 : Params → Obj := fun P => (Obj.mk (Value.type "tuple") none (Data.seq (List.toArray []) 0) (List.toArray []))
noncomputable def o157 : Params → Obj := fun P => (Obj.mk Value.none none (Data.func (FuncData.mk (Str.ofString "row") (Str.ofString "Route.row") p9 (FuncBody.stmts b9) s17 0 [] Value.none Value.none Value.none Value.none none Value.none Value.none 0)) (List.toArray []))
noncomputable def o158 : Params → Obj := fun P => (Obj.mk (Value.type "code") none (Data.fields (List.toArray [(Value.str (Str.ofString "row") 324), (Value.str (Str.ofString "Route.row") 325), (Value.str (Str.ofString "/claim/cut.py") 326), (Value.int 42 0), (Value.int 1 0), (Value.int 0 0), (Value.int 0 0), (Value.int 3 0), (Value.ref 111), (Value.bool Bool.true), (Value.int 181 0), (Value.ref 112), Value.none, (Value.ref 113), (Value.ref 114), (Value.ref 115), (Value.int 328 0), (Value.int 42 0), (Value.str (Str.ofString "/claim/cut.py") 329)])) (List.toArray []))
noncomputable def o159 : Params → Obj := fun P => (Obj.mk (Value.type "function") none (Data.func (FuncData.mk (Str.ofString "row") (Str.ofString "Route.row") p9 (FuncBody.stmts b9) s17 3 [] Value.none Value.none Value.none (Value.str (Str.ofString "thinstack.routes") 241) none (Value.ref 116) Value.none 0)) (List.toArray []))
noncomputable def o160 : Params → Obj := fun P => (Obj.mk (Value.type "tuple") none (Data.seq (List.toArray [(Value.str (Str.ofString "face") 331), (Value.str (Str.ofString "gateway") 332), (Value.str (Str.ofString "metric") 333), (Value.str (Str.ofString "net") 334), (Value.str (Str.ofString "prefix") 335)]) 0) (List.toArray []))
noncomputable def o161 : Params → Obj := fun P => (Obj.mk (Value.type "dict") none (Data.dict (List.toArray [(DictEntry.mk (PyData.keyHash P (Str.ofString "__module__")) (Value.str (Str.ofString "__module__") 298) (Value.str (Str.ofString "thinstack.routes") 241)), (DictEntry.mk (PyData.keyHash P (Str.ofString "__firstlineno__")) (Value.str (Str.ofString "__firstlineno__") 302) (Value.int 30 301)), (DictEntry.mk (PyData.keyHash P (Str.ofString "__init__")) (Value.str (Str.ofString "__init__") 315) (Value.ref 103)), (DictEntry.mk (PyData.keyHash P (Str.ofString "next_address")) (Value.str (Str.ofString "next_address") 323) (Value.ref 110)), (DictEntry.mk (PyData.keyHash P (Str.ofString "row")) (Value.str (Str.ofString "row") 330) (Value.ref 117)), (DictEntry.mk (PyData.keyHash P (Str.ofString "__static_attributes__")) (Value.str (Str.ofString "__static_attributes__") 336) (Value.ref 118)), (DictEntry.mk (PyData.keyHash P (Str.ofString "__dict__")) (Value.str (Str.ofString "__dict__") 338) (Value.ref 121)), (DictEntry.mk (PyData.keyHash P (Str.ofString "__weakref__")) (Value.str (Str.ofString "__weakref__") 340) (Value.ref 122)), (DictEntry.mk (PyData.keyHash P (Str.ofString "__doc__")) (Value.str (Str.ofString "__doc__") 341) Value.none)]) 4) (List.toArray []))
noncomputable def o162 : Params → Obj := fun P => (Obj.mk (Value.type "type") none (Data.cls (ClassData.mk (Str.ofString "Route") [(Value.type "object")] [(Value.ref 120), (Value.type "object")] 119 (Str.ofString "Route") Bool.true [] [] Bool.false none Bool.false)) (List.toArray [none, none, (some (Value.str (Str.ofString "Route") 291)), (some (Value.str (Str.ofString "Route") 299)), (some (Value.builtin "object.__new__")), (some (Value.bool Bool.true))]))
noncomputable def o163 : Params → Obj := fun P => (Obj.mk (Value.type "getset_descriptor") none (Data.fields (List.toArray [(Value.str (Str.ofString "__dict__") 337), (Value.ref 120), (Value.builtin "function.__dict__"), (Value.builtin "function.__dict__#set")])) (List.toArray []))
noncomputable def o164 : Params → Obj := fun P => (Obj.mk (Value.type "getset_descriptor") none (Data.fields (List.toArray [(Value.str (Str.ofString "__weakref__") 339), (Value.ref 120), (Value.builtin "ExceptionGroup.__weakref__"), Value.none])) (List.toArray []))
noncomputable def o165 : Params → Obj := fun P => (Obj.mk (Value.type "super") none (Data.fields (List.toArray [(Value.ref 120), (Value.ref 120), (Value.ref 120)])) (List.toArray []))
noncomputable def o166 : Params → Obj := fun P => (Obj.mk (Value.type "builtin_function_or_method") none (Data.fields (List.toArray [(Value.builtin "object.__init_subclass__"), (Value.ref 120)])) (List.toArray []))
noncomputable def o167 : Params → Obj := fun P => (Obj.mk (Value.type "dict") none (Data.dict (List.toArray [(DictEntry.mk (PyData.keyHash P (Str.ofString "__name__")) (Value.str (Str.ofString "__name__") 165) (Value.str (Str.ofString "thinstack.routes") 241)), (DictEntry.mk (PyData.keyHash P (Str.ofString "__doc__")) (Value.str (Str.ofString "__doc__") 166) Value.none), (DictEntry.mk (PyData.keyHash P (Str.ofString "__package__")) (Value.str (Str.ofString "__package__") 167) Value.none), (DictEntry.mk (PyData.keyHash P (Str.ofString "__loader__")) (Value.str (Str.ofString "__loader__") 168) (Value.builtin "__main__.__loader__#opaque")), (DictEntry.mk (PyData.keyHash P (Str.ofString "__spec__")) (Value.str (Str.ofString "__spec__") 169) Value.none), (DictEntry.mk (PyData.keyHash P (Str.ofString "__annotations__")) (Value.str (Str.ofString "__annotations__") 170) (Value.ref 6)), (DictEntry.mk (PyData.keyHash P (Str.ofString "__builtins__")) (Value.str (Str.ofString "__builtins__") 171) (Value.ref 4)), (DictEntry.mk (PyData.keyHash P (Str.ofString "__file__")) (Value.str (Str.ofString "__file__") 173) (Value.str (Str.ofString "/claim/cut.py") 172)), (DictEntry.mk (PyData.keyHash P (Str.ofString "__cached__")) (Value.str (Str.ofString "__cached__") 174) Value.none), (DictEntry.mk (PyData.keyHash P (Str.ofString "_wall")) (Value.str (Str.ofString "_wall") 193) (Value.ref 21)), (DictEntry.mk (PyData.keyHash P (Str.ofString "StackError")) (Value.str (Str.ofString "StackError") 224) (Value.ref 38)), (DictEntry.mk (PyData.keyHash P (Str.ofString "RouteError")) (Value.str (Str.ofString "RouteError") 240) (Value.ref 51)), (DictEntry.mk (PyData.keyHash P (Str.ofString "BITS")) (Value.str (Str.ofString "BITS") 244) (Value.int 32 243)), (DictEntry.mk (PyData.keyHash P (Str.ofString "ALL")) (Value.str (Str.ofString "ALL") 250) (Value.int 4294967295 249)), (DictEntry.mk (PyData.keyHash P (Str.ofString "mask_of")) (Value.str (Str.ofString "mask_of") 257) (Value.ref 60)), (DictEntry.mk (PyData.keyHash P (Str.ofString "net_of")) (Value.str (Str.ofString "net_of") 265) (Value.ref 67)), (DictEntry.mk (PyData.keyHash P (Str.ofString "is_in")) (Value.str (Str.ofString "is_in") 274) (Value.ref 74)), (DictEntry.mk (PyData.keyHash P (Str.ofString "is_broadcast")) (Value.str (Str.ofString "is_broadcast") 283) (Value.ref 81)), (DictEntry.mk (PyData.keyHash P (Str.ofString "is_loop")) (Value.str (Str.ofString "is_loop") 290) (Value.ref 88)), (DictEntry.mk (PyData.keyHash P (Str.ofString "Route")) (Value.str (Str.ofString "Route") 343) (Value.ref 120)), (DictEntry.mk (PyData.keyHash P (Str.ofString "Branch")) (Value.str (Str.ofString "Branch") 406) (Value.ref 169)), (DictEntry.mk (PyData.keyHash P (Str.ofString "bit_at")) (Value.str (Str.ofString "bit_at") 414) (Value.ref 180))]) 22) (List.toArray []))
noncomputable def o168 : Params → Obj := fun P => (Obj.mk Value.none none (Data.fields (List.toArray [(Value.int 1 0), (Value.int 0 0), (Value.ref 20), (Value.int 5 0), (Value.int 0 0), (Value.ref 27), (Value.int 9 0), (Value.int 0 0), (Value.ref 47), (Value.int 14 0), (Value.int 0 0), (Value.ref 59), (Value.int 18 0), (Value.int 0 0), (Value.ref 66), (Value.int 20 0), (Value.int 0 0), (Value.ref 73), (Value.int 22 0), (Value.int 0 0), (Value.ref 80), (Value.int 28 0), (Value.int 0 0), (Value.ref 87), (Value.int 30 0), (Value.int 0 0), (Value.ref 94), (Value.int 44 0), (Value.int 0 0), (Value.ref 130), (Value.int 71 0), (Value.int 0 0), (Value.ref 179)])) (List.toArray []))
noncomputable def o169 : Params → Obj := fun P => (Obj.mk (Value.type "tuple") none (Data.seq (List.toArray []) 0) (List.toArray []))
noncomputable def o170 : Params → Obj := fun P => (Obj.mk (Value.type "builtin_function_or_method") none (Data.fields (List.toArray [(Value.builtin "type.__prepare__"), (Value.type "type")])) (List.toArray []))
noncomputable def o171 : Params → Obj := fun P => (Obj.mk (Value.type "dict") none (Data.dict (List.toArray [(DictEntry.mk (PyData.keyHash P (Str.ofString "__module__")) (Value.str (Str.ofString "__module__") 351) (Value.str (Str.ofString "thinstack.routes") 241)), (DictEntry.mk (PyData.keyHash P (Str.ofString "__qualname__")) (Value.str (Str.ofString "__qualname__") 353) (Value.str (Str.ofString "Branch") 352)), (DictEntry.mk (PyData.keyHash P (Str.ofString "__firstlineno__")) (Value.str (Str.ofString "__firstlineno__") 355) (Value.int 44 354)), (DictEntry.mk (PyData.keyHash P (Str.ofString "__init__")) (Value.str (Str.ofString "__init__") 362) (Value.ref 138)), (DictEntry.mk (PyData.keyHash P (Str.ofString "child")) (Value.str (Str.ofString "child") 370) (Value.ref 145)), (DictEntry.mk (PyData.keyHash P (Str.ofString "set_child")) (Value.str (Str.ofString "set_child") 379) (Value.ref 152)), (DictEntry.mk (PyData.keyHash P (Str.ofString "is_bare")) (Value.str (Str.ofString "is_bare") 386) (Value.ref 159)), (DictEntry.mk (PyData.keyHash P (Str.ofString "best")) (Value.str (Str.ofString "best") 395) (Value.ref 166)), (DictEntry.mk (PyData.keyHash P (Str.ofString "__static_attributes__")) (Value.str (Str.ofString "__static_attributes__") 399) (Value.ref 167))]) 9) (List.toArray []))
noncomputable def o172 : Params → Obj := fun P => (Obj.mk (Value.type "tuple") none (Data.seq (List.toArray []) 0) (List.toArray []))
noncomputable def o173 : Params → Obj := fun P => (Obj.mk Value.none none (Data.fields (List.toArray [(Value.int 46 0), (Value.int 4 0), (Value.ref 137), (Value.int 51 0), (Value.int 4 0), (Value.ref 144), (Value.int 56 0), (Value.int 4 0), (Value.ref 151), (Value.int 62 0), (Value.int 4 0), (Value.ref 158), (Value.int 65 0), (Value.int 4 0), (Value.ref 165)])) (List.toArray []))
noncomputable def o174 : Params → Obj := fun P => (Obj.mk (Value.type "code") none (Data.fields (List.toArray [(Value.str (Str.ofString "Branch") 346), (Value.str (Str.ofString "Branch") 347), (Value.str (Str.ofString "/claim/cut.py") 348), (Value.int 44 0), (Value.int 0 0), (Value.int 0 0), (Value.int 0 0), (Value.int 0 0), (Value.ref 128), (Value.bool Bool.false), (Value.int 181 0), (Value.ref 129), Value.none, Value.none, Value.none, Value.none, (Value.int 349 0), (Value.int 44 0), (Value.str (Str.ofString "/claim/cut.py") 350)])) (List.toArray []))
noncomputable def o175 : Params → Obj := fun P => (Obj.mk (Value.type "frame") none Data.plain (List.toArray [(some (Value.ref 130)), (some (Value.ref 3)), (some (Value.ref 127)), none, (some (Value.str (Str.ofString "thinstack.routes") 241)), none, (some (Value.ref 0))]))
noncomputable def o176 : Params → Obj := fun P => (Obj.mk (Value.type "tuple") none (Data.seq (List.toArray []) 0) (List.toArray []))
noncomputable def o177 : Params → Obj := fun P => (Obj.mk Value.none none (Data.fields (List.toArray [])) (List.toArray []))
noncomputable def o178 : Params → Obj := fun P => (Obj.mk (Value.type "tuple") none (Data.seq (List.toArray [(Value.str (Str.ofString "self") 359)]) 0) (List.toArray []))
noncomputable def o179 : Params → Obj := fun P => (Obj.mk (Value.type "tuple") none (Data.seq (List.toArray []) 0) (List.toArray []))
noncomputable def o180 : Params → Obj := fun P => (Obj.mk Value.none none (Data.func (FuncData.mk (Str.ofString "__init__") (Str.ofString "Branch.__init__") p10 (FuncBody.stmts b10) s17 0 [] Value.none Value.none Value.none Value.none none Value.none Value.none 0)) (List.toArray []))
noncomputable def o181 : Params → Obj := fun P => (Obj.mk (Value.type "code") none (Data.fields (List.toArray [(Value.str (Str.ofString "__init__") 356), (Value.str (Str.ofString "Branch.__init__") 357), (Value.str (Str.ofString "/claim/cut.py") 358), (Value.int 46 0), (Value.int 1 0), (Value.int 0 0), (Value.int 0 0), (Value.int 3 0), (Value.ref 132), (Value.bool Bool.true), (Value.int 181 0), (Value.ref 133), Value.none, (Value.ref 134), (Value.ref 135), (Value.ref 136), (Value.int 360 0), (Value.int 46 0), (Value.str (Str.ofString "/claim/cut.py") 361)])) (List.toArray []))
noncomputable def o182 : Params → Obj := fun P => (Obj.mk (Value.type "function") none (Data.func (FuncData.mk (Str.ofString "__init__") (Str.ofString "Branch.__init__") p10 (FuncBody.stmts b10) s17 3 [] Value.none Value.none Value.none (Value.str (Str.ofString "thinstack.routes") 241) none (Value.ref 137) Value.none 0)) (List.toArray []))
noncomputable def o183 : Params → Obj := fun P => (Obj.mk (Value.type "tuple") none (Data.seq (List.toArray []) 0) (List.toArray []))
noncomputable def o184 : Params → Obj := fun P => (Obj.mk Value.none none (Data.fields (List.toArray [])) (List.toArray []))
noncomputable def o185 : Params → Obj := fun P => (Obj.mk (Value.type "tuple") none (Data.seq (List.toArray [(Value.str (Str.ofString "self") 366), (Value.str (Str.ofString "bit") 367)]) 0) (List.toArray []))
noncomputable def o186 : Params → Obj := fun P => (Obj.mk (Value.type "tuple") none (Data.seq (List.toArray []) 0) (List.toArray []))
noncomputable def o187 : Params → Obj := fun P => (Obj.mk Value.none none (Data.func (FuncData.mk (Str.ofString "child") (Str.ofString "Branch.child") p11 (FuncBody.stmts b11) s11 0 [] Value.none Value.none Value.none Value.none none Value.none Value.none 0)) (List.toArray []))
noncomputable def o188 : Params → Obj := fun P => (Obj.mk (Value.type "code") none (Data.fields (List.toArray [(Value.str (Str.ofString "child") 363), (Value.str (Str.ofString "Branch.child") 364), (Value.str (Str.ofString "/claim/cut.py") 365), (Value.int 51 0), (Value.int 2 0), (Value.int 0 0), (Value.int 0 0), (Value.int 3 0), (Value.ref 139), (Value.bool Bool.true), (Value.int 181 0), (Value.ref 140), Value.none, (Value.ref 141), (Value.ref 142), (Value.ref 143), (Value.int 368 0), (Value.int 51 0), (Value.str (Str.ofString "/claim/cut.py") 369)])) (List.toArray []))
noncomputable def o189 : Params → Obj := fun P => (Obj.mk (Value.type "function") none (Data.func (FuncData.mk (Str.ofString "child") (Str.ofString "Branch.child") p11 (FuncBody.stmts b11) s11 3 [] Value.none Value.none Value.none (Value.str (Str.ofString "thinstack.routes") 241) none (Value.ref 144) Value.none 0)) (List.toArray []))
noncomputable def o190 : Params → Obj := fun P => (Obj.mk (Value.type "tuple") none (Data.seq (List.toArray []) 0) (List.toArray []))
noncomputable def o191 : Params → Obj := fun P => (Obj.mk Value.none none (Data.fields (List.toArray [])) (List.toArray []))
noncomputable def o192 : Params → Obj := fun P => (Obj.mk (Value.type "tuple") none (Data.seq (List.toArray [(Value.str (Str.ofString "self") 374), (Value.str (Str.ofString "bit") 375), (Value.str (Str.ofString "branch") 376)]) 0) (List.toArray []))
noncomputable def o193 : Params → Obj := fun P => (Obj.mk (Value.type "tuple") none (Data.seq (List.toArray []) 0) (List.toArray []))
noncomputable def o194 : Params → Obj := fun P => (Obj.mk Value.none none (Data.func (FuncData.mk (Str.ofString "set_child") (Str.ofString "Branch.set_child") p12 (FuncBody.stmts b12) s12 0 [] Value.none Value.none Value.none Value.none none Value.none Value.none 0)) (List.toArray []))
noncomputable def o195 : Params → Obj := fun P => (Obj.mk (Value.type "code") none (Data.fields (List.toArray [(Value.str (Str.ofString "set_child") 371), (Value.str (Str.ofString "Branch.set_child") 372), (Value.str (Str.ofString "/claim/cut.py") 373), (Value.int 56 0), (Value.int 3 0), (Value.int 0 0), (Value.int 0 0), (Value.int 3 0), (Value.ref 146), (Value.bool Bool.true), (Value.int 181 0), (Value.ref 147), Value.none, (Value.ref 148), (Value.ref 149), (Value.ref 150), (Value.int 377 0), (Value.int 56 0), (Value.str (Str.ofString "/claim/cut.py") 378)])) (List.toArray []))
noncomputable def o196 : Params → Obj := fun P => (Obj.mk (Value.type "function") none (Data.func (FuncData.mk (Str.ofString "set_child") (Str.ofString "Branch.set_child") p12 (FuncBody.stmts b12) s12 3 [] Value.none Value.none Value.none (Value.str (Str.ofString "thinstack.routes") 241) none (Value.ref 151) Value.none 0)) (List.toArray []))
noncomputable def o197 : Params → Obj := fun P => (Obj.mk (Value.type "tuple") none (Data.seq (List.toArray []) 0) (List.toArray []))
noncomputable def o198 : Params → Obj := fun P => (Obj.mk Value.none none (Data.fields (List.toArray [])) (List.toArray []))
noncomputable def o199 : Params → Obj := fun P => (Obj.mk (Value.type "tuple") none (Data.seq (List.toArray [(Value.str (Str.ofString "self") 383)]) 0) (List.toArray []))
noncomputable def o200 : Params → Obj := fun P => (Obj.mk (Value.type "tuple") none (Data.seq (List.toArray []) 0) (List.toArray []))
noncomputable def o201 : Params → Obj := fun P => (Obj.mk Value.none none (Data.func (FuncData.mk (Str.ofString "is_bare") (Str.ofString "Branch.is_bare") p13 (FuncBody.stmts b13) s17 0 [] Value.none Value.none Value.none Value.none none Value.none Value.none 0)) (List.toArray []))
noncomputable def o202 : Params → Obj := fun P => (Obj.mk (Value.type "code") none (Data.fields (List.toArray [(Value.str (Str.ofString "is_bare") 380), (Value.str (Str.ofString "Branch.is_bare") 381), (Value.str (Str.ofString "/claim/cut.py") 382), (Value.int 62 0), (Value.int 1 0), (Value.int 0 0), (Value.int 0 0), (Value.int 3 0), (Value.ref 153), (Value.bool Bool.true), (Value.int 181 0), (Value.ref 154), Value.none, (Value.ref 155), (Value.ref 156), (Value.ref 157), (Value.int 384 0), (Value.int 62 0), (Value.str (Str.ofString "/claim/cut.py") 385)])) (List.toArray []))
noncomputable def o203 : Params → Obj := fun P => (Obj.mk (Value.type "function") none (Data.func (FuncData.mk (Str.ofString "is_bare") (Str.ofString "Branch.is_bare") p13 (FuncBody.stmts b13) s17 3 [] Value.none Value.none Value.none (Value.str (Str.ofString "thinstack.routes") 241) none (Value.ref 158) Value.none 0)) (List.toArray []))
noncomputable def o204 : Params → Obj := fun P => (Obj.mk (Value.type "tuple") none (Data.seq (List.toArray []) 0) (List.toArray []))
noncomputable def o205 : Params → Obj := fun P => (Obj.mk Value.none none (Data.fields (List.toArray [])) (List.toArray []))
noncomputable def o206 : Params → Obj := fun P => (Obj.mk (Value.type "tuple") none (Data.seq (List.toArray [(Value.str (Str.ofString "self") 390), (Value.str (Str.ofString "found") 391), (Value.str (Str.ofString "route") 392)]) 0) (List.toArray []))
noncomputable def o207 : Params → Obj := fun P => (Obj.mk (Value.type "tuple") none (Data.seq (List.toArray []) 0) (List.toArray []))
noncomputable def o208 : Params → Obj := fun P => (Obj.mk Value.none none (Data.func (FuncData.mk (Str.ofString "best") (Str.ofString "Branch.best") p14 (FuncBody.stmts b14) s14 0 [] Value.none Value.none Value.none Value.none none Value.none Value.none 0)) (List.toArray []))
noncomputable def o209 : Params → Obj := fun P => (Obj.mk (Value.type "code") none (Data.fields (List.toArray [(Value.str (Str.ofString "best") 387), (Value.str (Str.ofString "Branch.best") 388), (Value.str (Str.ofString "/claim/cut.py") 389), (Value.int 65 0), (Value.int 1 0), (Value.int 0 0), (Value.int 0 0), (Value.int 3 0), (Value.ref 160), (Value.bool Bool.true), (Value.int 181 0), (Value.ref 161), Value.none, (Value.ref 162), (Value.ref 163), (Value.ref 164), (Value.int 393 0), (Value.int 65 0), (Value.str (Str.ofString "/claim/cut.py") 394)])) (List.toArray []))
noncomputable def o210 : Params → Obj := fun P => (Obj.mk (Value.type "function") none (Data.func (FuncData.mk (Str.ofString "best") (Str.ofString "Branch.best") p14 (FuncBody.stmts b14) s14 3 [] Value.none Value.none Value.none (Value.str (Str.ofString "thinstack.routes") 241) none (Value.ref 165) Value.none 0)) (List.toArray []))
noncomputable def o211 : Params → Obj := fun P => (Obj.mk (Value.type "tuple") none (Data.seq (List.toArray [(Value.str (Str.ofString "one") 396), (Value.str (Str.ofString "routes") 397), (Value.str (Str.ofString "zero") 398)]) 0) (List.toArray []))
noncomputable def o212 : Params → Obj := fun P => (Obj.mk (Value.type "dict") none (Data.dict (List.toArray [(DictEntry.mk (PyData.keyHash P (Str.ofString "__module__")) (Value.str (Str.ofString "__module__") 351) (Value.str (Str.ofString "thinstack.routes") 241)), (DictEntry.mk (PyData.keyHash P (Str.ofString "__firstlineno__")) (Value.str (Str.ofString "__firstlineno__") 355) (Value.int 44 354)), (DictEntry.mk (PyData.keyHash P (Str.ofString "__init__")) (Value.str (Str.ofString "__init__") 362) (Value.ref 138)), (DictEntry.mk (PyData.keyHash P (Str.ofString "child")) (Value.str (Str.ofString "child") 370) (Value.ref 145)), (DictEntry.mk (PyData.keyHash P (Str.ofString "set_child")) (Value.str (Str.ofString "set_child") 379) (Value.ref 152)), (DictEntry.mk (PyData.keyHash P (Str.ofString "is_bare")) (Value.str (Str.ofString "is_bare") 386) (Value.ref 159)), (DictEntry.mk (PyData.keyHash P (Str.ofString "best")) (Value.str (Str.ofString "best") 395) (Value.ref 166)), (DictEntry.mk (PyData.keyHash P (Str.ofString "__static_attributes__")) (Value.str (Str.ofString "__static_attributes__") 399) (Value.ref 167)), (DictEntry.mk (PyData.keyHash P (Str.ofString "__dict__")) (Value.str (Str.ofString "__dict__") 401) (Value.ref 170)), (DictEntry.mk (PyData.keyHash P (Str.ofString "__weakref__")) (Value.str (Str.ofString "__weakref__") 403) (Value.ref 171)), (DictEntry.mk (PyData.keyHash P (Str.ofString "__doc__")) (Value.str (Str.ofString "__doc__") 404) Value.none)]) 4) (List.toArray []))
noncomputable def o213 : Params → Obj := fun P => (Obj.mk (Value.type "type") none (Data.cls (ClassData.mk (Str.ofString "Branch") [(Value.type "object")] [(Value.ref 169), (Value.type "object")] 168 (Str.ofString "Branch") Bool.true [] [] Bool.false none Bool.false)) (List.toArray [none, none, (some (Value.str (Str.ofString "Branch") 344)), (some (Value.str (Str.ofString "Branch") 352)), (some (Value.builtin "object.__new__")), (some (Value.bool Bool.true))]))
noncomputable def o214 : Params → Obj := fun P => (Obj.mk (Value.type "getset_descriptor") none (Data.fields (List.toArray [(Value.str (Str.ofString "__dict__") 400), (Value.ref 169), (Value.builtin "function.__dict__"), (Value.builtin "function.__dict__#set")])) (List.toArray []))
noncomputable def o215 : Params → Obj := fun P => (Obj.mk (Value.type "getset_descriptor") none (Data.fields (List.toArray [(Value.str (Str.ofString "__weakref__") 402), (Value.ref 169), (Value.builtin "ExceptionGroup.__weakref__"), Value.none])) (List.toArray []))
noncomputable def o216 : Params → Obj := fun P => (Obj.mk (Value.type "super") none (Data.fields (List.toArray [(Value.ref 169), (Value.ref 169), (Value.ref 169)])) (List.toArray []))
noncomputable def o217 : Params → Obj := fun P => (Obj.mk (Value.type "builtin_function_or_method") none (Data.fields (List.toArray [(Value.builtin "object.__init_subclass__"), (Value.ref 169)])) (List.toArray []))
noncomputable def o218 : Params → Obj := fun P => (Obj.mk (Value.type "tuple") none (Data.seq (List.toArray []) 0) (List.toArray []))
noncomputable def o219 : Params → Obj := fun P => (Obj.mk Value.none none (Data.fields (List.toArray [])) (List.toArray []))
noncomputable def o220 : Params → Obj := fun P => (Obj.mk (Value.type "tuple") none (Data.seq (List.toArray [(Value.str (Str.ofString "address") 410), (Value.str (Str.ofString "place") 411)]) 0) (List.toArray []))
noncomputable def o221 : Params → Obj := fun P => (Obj.mk (Value.type "tuple") none (Data.seq (List.toArray []) 0) (List.toArray []))
noncomputable def o222 : Params → Obj := fun P => (Obj.mk Value.none none (Data.func (FuncData.mk (Str.ofString "bit_at") (Str.ofString "bit_at") p15 (FuncBody.stmts b15) s15 0 [] Value.none Value.none Value.none Value.none none Value.none Value.none 0)) (List.toArray []))
noncomputable def o223 : Params → Obj := fun P => (Obj.mk (Value.type "code") none (Data.fields (List.toArray [(Value.str (Str.ofString "bit_at") 407), (Value.str (Str.ofString "bit_at") 408), (Value.str (Str.ofString "/claim/cut.py") 409), (Value.int 71 0), (Value.int 2 0), (Value.int 0 0), (Value.int 0 0), (Value.int 3 0), (Value.ref 174), (Value.bool Bool.true), (Value.int 181 0), (Value.ref 175), Value.none, (Value.ref 176), (Value.ref 177), (Value.ref 178), (Value.int 412 0), (Value.int 71 0), (Value.str (Str.ofString "/claim/cut.py") 413)])) (List.toArray []))
noncomputable def o224 : Params → Obj := fun P => (Obj.mk (Value.type "function") none (Data.func (FuncData.mk (Str.ofString "bit_at") (Str.ofString "bit_at") p15 (FuncBody.stmts b15) s15 3 [] Value.none Value.none Value.none (Value.str (Str.ofString "thinstack.routes") 241) none (Value.ref 179) Value.none 0)) (List.toArray []))
noncomputable def o225 : Params → Obj := fun P => (Obj.mk (Value.type "dict") none (Data.dict (List.toArray [(DictEntry.mk (PyData.keyHash P (Str.ofString "__name__")) (Value.str (Str.ofString "__name__") 165) (Value.str (Str.ofString "thinstack.routes") 241)), (DictEntry.mk (PyData.keyHash P (Str.ofString "__doc__")) (Value.str (Str.ofString "__doc__") 166) Value.none), (DictEntry.mk (PyData.keyHash P (Str.ofString "__package__")) (Value.str (Str.ofString "__package__") 167) Value.none), (DictEntry.mk (PyData.keyHash P (Str.ofString "__loader__")) (Value.str (Str.ofString "__loader__") 168) (Value.builtin "__main__.__loader__#opaque")), (DictEntry.mk (PyData.keyHash P (Str.ofString "__spec__")) (Value.str (Str.ofString "__spec__") 169) Value.none), (DictEntry.mk (PyData.keyHash P (Str.ofString "__annotations__")) (Value.str (Str.ofString "__annotations__") 170) (Value.ref 6)), (DictEntry.mk (PyData.keyHash P (Str.ofString "__builtins__")) (Value.str (Str.ofString "__builtins__") 171) (Value.ref 4)), (DictEntry.mk (PyData.keyHash P (Str.ofString "__file__")) (Value.str (Str.ofString "__file__") 173) (Value.str (Str.ofString "/claim/cut.py") 172)), (DictEntry.mk (PyData.keyHash P (Str.ofString "__cached__")) (Value.str (Str.ofString "__cached__") 174) Value.none), (DictEntry.mk (PyData.keyHash P (Str.ofString "_wall")) (Value.str (Str.ofString "_wall") 193) (Value.ref 21)), (DictEntry.mk (PyData.keyHash P (Str.ofString "StackError")) (Value.str (Str.ofString "StackError") 224) (Value.ref 38)), (DictEntry.mk (PyData.keyHash P (Str.ofString "RouteError")) (Value.str (Str.ofString "RouteError") 240) (Value.ref 51)), (DictEntry.mk (PyData.keyHash P (Str.ofString "BITS")) (Value.str (Str.ofString "BITS") 244) (Value.int 32 243)), (DictEntry.mk (PyData.keyHash P (Str.ofString "ALL")) (Value.str (Str.ofString "ALL") 250) (Value.int 4294967295 249)), (DictEntry.mk (PyData.keyHash P (Str.ofString "mask_of")) (Value.str (Str.ofString "mask_of") 257) (Value.ref 60)), (DictEntry.mk (PyData.keyHash P (Str.ofString "net_of")) (Value.str (Str.ofString "net_of") 265) (Value.ref 67)), (DictEntry.mk (PyData.keyHash P (Str.ofString "is_in")) (Value.str (Str.ofString "is_in") 274) (Value.ref 74)), (DictEntry.mk (PyData.keyHash P (Str.ofString "is_broadcast")) (Value.str (Str.ofString "is_broadcast") 283) (Value.ref 81)), (DictEntry.mk (PyData.keyHash P (Str.ofString "is_loop")) (Value.str (Str.ofString "is_loop") 290) (Value.ref 88)), (DictEntry.mk (PyData.keyHash P (Str.ofString "Route")) (Value.str (Str.ofString "Route") 343) (Value.ref 120)), (DictEntry.mk (PyData.keyHash P (Str.ofString "Branch")) (Value.str (Str.ofString "Branch") 406) (Value.ref 169)), (DictEntry.mk (PyData.keyHash P (Str.ofString "bit_at")) (Value.str (Str.ofString "bit_at") 414) (Value.ref 180)), (DictEntry.mk (PyData.keyHash P (Str.ofString "Routes")) (Value.str (Str.ofString "Routes") 524) (Value.ref 251))]) 23) (List.toArray []))
noncomputable def o226 : Params → Obj := fun P => (Obj.mk Value.none none (Data.fields (List.toArray [(Value.int 1 0), (Value.int 0 0), (Value.ref 20), (Value.int 5 0), (Value.int 0 0), (Value.ref 27), (Value.int 9 0), (Value.int 0 0), (Value.ref 47), (Value.int 14 0), (Value.int 0 0), (Value.ref 59), (Value.int 18 0), (Value.int 0 0), (Value.ref 66), (Value.int 20 0), (Value.int 0 0), (Value.ref 73), (Value.int 22 0), (Value.int 0 0), (Value.ref 80), (Value.int 28 0), (Value.int 0 0), (Value.ref 87), (Value.int 30 0), (Value.int 0 0), (Value.ref 94), (Value.int 44 0), (Value.int 0 0), (Value.ref 130), (Value.int 71 0), (Value.int 0 0), (Value.ref 179), (Value.int 73 0), (Value.int 0 0), (Value.ref 186)])) (List.toArray []))
noncomputable def o227 : Params → Obj := fun P => (Obj.mk (Value.type "tuple") none (Data.seq (List.toArray []) 0) (List.toArray []))
noncomputable def o228 : Params → Obj := fun P => (Obj.mk (Value.type "builtin_function_or_method") none (Data.fields (List.toArray [(Value.builtin "type.__prepare__"), (Value.type "type")])) (List.toArray []))
noncomputable def o229 : Params → Obj := fun P => (Obj.mk (Value.type "dict") none (Data.dict (List.toArray [(DictEntry.mk (PyData.keyHash P (Str.ofString "__module__")) (Value.str (Str.ofString "__module__") 422) (Value.str (Str.ofString "thinstack.routes") 241)), (DictEntry.mk (PyData.keyHash P (Str.ofString "__qualname__")) (Value.str (Str.ofString "__qualname__") 424) (Value.str (Str.ofString "Routes") 423)), (DictEntry.mk (PyData.keyHash P (Str.ofString "__firstlineno__")) (Value.str (Str.ofString "__firstlineno__") 426) (Value.int 73 425)), (DictEntry.mk (PyData.keyHash P (Str.ofString "__init__")) (Value.str (Str.ofString "__init__") 433) (Value.ref 194)), (DictEntry.mk (PyData.keyHash P (Str.ofString "size")) (Value.str (Str.ofString "size") 440) (Value.ref 201)), (DictEntry.mk (PyData.keyHash P (Str.ofString "path")) (Value.str (Str.ofString "path") 454) (Value.ref 208)), (DictEntry.mk (PyData.keyHash P (Str.ofString "add")) (Value.str (Str.ofString "add") 466) (Value.ref 215)), (DictEntry.mk (PyData.keyHash P (Str.ofString "remove")) (Value.str (Str.ofString "remove") 477) (Value.ref 222)), (DictEntry.mk (PyData.keyHash P (Str.ofString "remove_face")) (Value.str (Str.ofString "remove_face") 483) (Value.ref 227)), (DictEntry.mk (PyData.keyHash P (Str.ofString "prune")) (Value.str (Str.ofString "prune") 493) (Value.ref 234)), (DictEntry.mk (PyData.keyHash P (Str.ofString "find")) (Value.str (Str.ofString "find") 504) (Value.ref 241)), (DictEntry.mk (PyData.keyHash P (Str.ofString "rows")) (Value.str (Str.ofString "rows") 514) (Value.ref 248)), (DictEntry.mk (PyData.keyHash P (Str.ofString "__static_attributes__")) (Value.str (Str.ofString "__static_attributes__") 517) (Value.ref 249))]) 13) (List.toArray []))
noncomputable def o230 : Params → Obj := fun P => (Obj.mk (Value.type "tuple") none (Data.seq (List.toArray []) 0) (List.toArray []))
noncomputable def o231 : Params → Obj := fun P => (Obj.mk Value.none none (Data.fields (List.toArray [(Value.int 75 0), (Value.int 4 0), (Value.ref 193), (Value.int 79 0), (Value.int 4 0), (Value.ref 200), (Value.int 82 0), (Value.int 4 0), (Value.ref 207), (Value.int 95 0), (Value.int 4 0), (Value.ref 214), (Value.int 110 0), (Value.int 4 0), (Value.ref 221), (Value.int 121 0), (Value.int 4 0), (Value.ref 226), (Value.int 132 0), (Value.int 4 0), (Value.ref 233), (Value.int 138 0), (Value.int 4 0), (Value.ref 240), (Value.int 149 0), (Value.int 4 0), (Value.ref 247)])) (List.toArray []))
noncomputable def o232 : Params → Obj := fun P => (Obj.mk (Value.type "code") none (Data.fields (List.toArray [(Value.str (Str.ofString "Routes") 417), (Value.str (Str.ofString "Routes") 418), (Value.str (Str.ofString "/claim/cut.py") 419), (Value.int 73 0), (Value.int 0 0), (Value.int 0 0), (Value.int 0 0), (Value.int 0 0), (Value.ref 184), (Value.bool Bool.false), (Value.int 181 0), (Value.ref 185), Value.none, Value.none, Value.none, Value.none, (Value.int 420 0), (Value.int 73 0), (Value.str (Str.ofString "/claim/cut.py") 421)])) (List.toArray []))
noncomputable def o233 : Params → Obj := fun P => (Obj.mk (Value.type "frame") none Data.plain (List.toArray [(some (Value.ref 186)), (some (Value.ref 3)), (some (Value.ref 183)), none, (some (Value.str (Str.ofString "thinstack.routes") 241)), none, (some (Value.ref 0))]))
noncomputable def o234 : Params → Obj := fun P => (Obj.mk (Value.type "tuple") none (Data.seq (List.toArray []) 0) (List.toArray []))
noncomputable def o235 : Params → Obj := fun P => (Obj.mk Value.none none (Data.fields (List.toArray [])) (List.toArray []))
noncomputable def o236 : Params → Obj := fun P => (Obj.mk (Value.type "tuple") none (Data.seq (List.toArray [(Value.str (Str.ofString "self") 430)]) 0) (List.toArray []))
noncomputable def o237 : Params → Obj := fun P => (Obj.mk (Value.type "tuple") none (Data.seq (List.toArray []) 0) (List.toArray []))
noncomputable def o238 : Params → Obj := fun P => (Obj.mk Value.none none (Data.func (FuncData.mk (Str.ofString "__init__") (Str.ofString "Routes.__init__") p16 (FuncBody.stmts b16) s16 0 [] Value.none Value.none Value.none Value.none none Value.none Value.none 0)) (List.toArray []))
noncomputable def o239 : Params → Obj := fun P => (Obj.mk (Value.type "code") none (Data.fields (List.toArray [(Value.str (Str.ofString "__init__") 427), (Value.str (Str.ofString "Routes.__init__") 428), (Value.str (Str.ofString "/claim/cut.py") 429), (Value.int 75 0), (Value.int 1 0), (Value.int 0 0), (Value.int 0 0), (Value.int 3 0), (Value.ref 188), (Value.bool Bool.true), (Value.int 181 0), (Value.ref 189), Value.none, (Value.ref 190), (Value.ref 191), (Value.ref 192), (Value.int 431 0), (Value.int 75 0), (Value.str (Str.ofString "/claim/cut.py") 432)])) (List.toArray []))
noncomputable def o240 : Params → Obj := fun P => (Obj.mk (Value.type "function") none (Data.func (FuncData.mk (Str.ofString "__init__") (Str.ofString "Routes.__init__") p16 (FuncBody.stmts b16) s16 3 [] Value.none Value.none Value.none (Value.str (Str.ofString "thinstack.routes") 241) none (Value.ref 193) Value.none 0)) (List.toArray []))
noncomputable def o241 : Params → Obj := fun P => (Obj.mk (Value.type "tuple") none (Data.seq (List.toArray []) 0) (List.toArray []))
noncomputable def o242 : Params → Obj := fun P => (Obj.mk Value.none none (Data.fields (List.toArray [])) (List.toArray []))
noncomputable def o243 : Params → Obj := fun P => (Obj.mk (Value.type "tuple") none (Data.seq (List.toArray [(Value.str (Str.ofString "self") 437)]) 0) (List.toArray []))
noncomputable def o244 : Params → Obj := fun P => (Obj.mk (Value.type "tuple") none (Data.seq (List.toArray []) 0) (List.toArray []))
noncomputable def o245 : Params → Obj := fun P => (Obj.mk Value.none none (Data.func (FuncData.mk (Str.ofString "size") (Str.ofString "Routes.size") p17 (FuncBody.stmts b17) s17 0 [] Value.none Value.none Value.none Value.none none Value.none Value.none 0)) (List.toArray []))
noncomputable def o246 : Params → Obj := fun P => (Obj.mk (Value.type "code") none (Data.fields (List.toArray [(Value.str (Str.ofString "size") 434), (Value.str (Str.ofString "Routes.size") 435), (Value.str (Str.ofString "/claim/cut.py") 436), (Value.int 79 0), (Value.int 1 0), (Value.int 0 0), (Value.int 0 0), (Value.int 3 0), (Value.ref 195), (Value.bool Bool.true), (Value.int 181 0), (Value.ref 196), Value.none, (Value.ref 197), (Value.ref 198), (Value.ref 199), (Value.int 438 0), (Value.int 79 0), (Value.str (Str.ofString "/claim/cut.py") 439)])) (List.toArray []))
noncomputable def o247 : Params → Obj := fun P => (Obj.mk (Value.type "function") none (Data.func (FuncData.mk (Str.ofString "size") (Str.ofString "Routes.size") p17 (FuncBody.stmts b17) s17 3 [] Value.none Value.none Value.none (Value.str (Str.ofString "thinstack.routes") 241) none (Value.ref 200) Value.none 0)) (List.toArray []))
noncomputable def o248 : Params → Obj := fun P => (Obj.mk (Value.type "tuple") none (Data.seq (List.toArray []) 0) (List.toArray []))
noncomputable def o249 : Params → Obj := fun P => (Obj.mk Value.none none (Data.fields (List.toArray [])) (List.toArray []))
noncomputable def o250 : Params → Obj := fun P => (Obj.mk (Value.type "tuple") none (Data.seq (List.toArray [(Value.str (Str.ofString "self") 444), (Value.str (Str.ofString "net") 445), (Value.str (Str.ofString "prefix") 446), (Value.str (Str.ofString "makes") 447), (Value.str (Str.ofString "found") 448), (Value.str (Str.ofString "place") 449), (Value.str (Str.ofString "bit") 450), (Value.str (Str.ofString "later") 451)]) 0) (List.toArray []))
noncomputable def o251 : Params → Obj := fun P => (Obj.mk (Value.type "tuple") none (Data.seq (List.toArray []) 0) (List.toArray []))
noncomputable def o252 : Params → Obj := fun P => (Obj.mk Value.none none (Data.func (FuncData.mk (Str.ofString "path") (Str.ofString "Routes.path") p18 (FuncBody.stmts b18) s18 0 [] Value.none Value.none Value.none Value.none none Value.none Value.none 0)) (List.toArray []))
noncomputable def o253 : Params → Obj := fun P => (Obj.mk (Value.type "code") none (Data.fields (List.toArray [(Value.str (Str.ofString "path") 441), (Value.str (Str.ofString "Routes.path") 442), (Value.str (Str.ofString "/claim/cut.py") 443), (Value.int 82 0), (Value.int 4 0), (Value.int 0 0), (Value.int 0 0), (Value.int 3 0), (Value.ref 202), (Value.bool Bool.true), (Value.int 181 0), (Value.ref 203), Value.none, (Value.ref 204), (Value.ref 205), (Value.ref 206), (Value.int 452 0), (Value.int 82 0), (Value.str (Str.ofString "/claim/cut.py") 453)])) (List.toArray []))
noncomputable def o254 : Params → Obj := fun P => (Obj.mk (Value.type "function") none (Data.func (FuncData.mk (Str.ofString "path") (Str.ofString "Routes.path") p18 (FuncBody.stmts b18) s18 3 [] Value.none Value.none Value.none (Value.str (Str.ofString "thinstack.routes") 241) none (Value.ref 207) Value.none 0)) (List.toArray []))
noncomputable def o255 : Params → Obj := fun P => (Obj.mk (Value.type "tuple") none (Data.seq (List.toArray []) 0) (List.toArray []))
noncomputable def o256 : Params → Obj := fun P => (Obj.mk Value.none none (Data.fields (List.toArray [])) (List.toArray []))
noncomputable def o257 : Params → Obj := fun P => (Obj.mk (Value.type "tuple") none (Data.seq (List.toArray [(Value.str (Str.ofString "self") 458), (Value.str (Str.ofString "route") 459), (Value.str (Str.ofString "net") 460), (Value.str (Str.ofString "branch") 461), (Value.str (Str.ofString "at") 462), (Value.str (Str.ofString "other") 463)]) 0) (List.toArray []))
noncomputable def o258 : Params → Obj := fun P => (Obj.mk (Value.type "tuple") none (Data.seq (List.toArray []) 0) (List.toArray []))
noncomputable def o259 : Params → Obj := fun P => (Obj.mk Value.none none (Data.func (FuncData.mk (Str.ofString "add") (Str.ofString "Routes.add") p19 (FuncBody.stmts b19) s19 0 [] Value.none Value.none Value.none Value.none none Value.none Value.none 0)) (List.toArray []))
noncomputable def o260 : Params → Obj := fun P => (Obj.mk (Value.type "code") none (Data.fields (List.toArray [(Value.str (Str.ofString "add") 455), (Value.str (Str.ofString "Routes.add") 456), (Value.str (Str.ofString "/claim/cut.py") 457), (Value.int 95 0), (Value.int 2 0), (Value.int 0 0), (Value.int 0 0), (Value.int 3 0), (Value.ref 209), (Value.bool Bool.true), (Value.int 181 0), (Value.ref 210), Value.none, (Value.ref 211), (Value.ref 212), (Value.ref 213), (Value.int 464 0), (Value.int 95 0), (Value.str (Str.ofString "/claim/cut.py") 465)])) (List.toArray []))
noncomputable def o261 : Params → Obj := fun P => (Obj.mk (Value.type "function") none (Data.func (FuncData.mk (Str.ofString "add") (Str.ofString "Routes.add") p19 (FuncBody.stmts b19) s19 3 [] Value.none Value.none Value.none (Value.str (Str.ofString "thinstack.routes") 241) none (Value.ref 214) Value.none 0)) (List.toArray []))
noncomputable def o262 : Params → Obj := fun P => (Obj.mk (Value.type "tuple") none (Data.seq (List.toArray []) 0) (List.toArray []))
noncomputable def o263 : Params → Obj := fun P => (Obj.mk Value.none none (Data.fields (List.toArray [])) (List.toArray []))
noncomputable def o264 : Params → Obj := fun P => (Obj.mk (Value.type "tuple") none (Data.seq (List.toArray [(Value.str (Str.ofString "self") 470), (Value.str (Str.ofString "net") 471), (Value.str (Str.ofString "prefix") 472), (Value.str (Str.ofString "path") 473), (Value.str (Str.ofString "many") 474)]) 0) (List.toArray []))
noncomputable def o265 : Params → Obj := fun P => (Obj.mk (Value.type "tuple") none (Data.seq (List.toArray []) 0) (List.toArray []))
noncomputable def o266 : Params → Obj := fun P => (Obj.mk Value.none none (Data.func (FuncData.mk (Str.ofString "remove") (Str.ofString "Routes.remove") p20 (FuncBody.stmts b20) s20 0 [] Value.none Value.none Value.none Value.none none Value.none Value.none 0)) (List.toArray []))
noncomputable def o267 : Params → Obj := fun P => (Obj.mk (Value.type "code") none (Data.fields (List.toArray [(Value.str (Str.ofString "remove") 467), (Value.str (Str.ofString "Routes.remove") 468), (Value.str (Str.ofString "/claim/cut.py") 469), (Value.int 110 0), (Value.int 3 0), (Value.int 0 0), (Value.int 0 0), (Value.int 3 0), (Value.ref 216), (Value.bool Bool.true), (Value.int 181 0), (Value.ref 217), Value.none, (Value.ref 218), (Value.ref 219), (Value.ref 220), (Value.int 475 0), (Value.int 110 0), (Value.str (Str.ofString "/claim/cut.py") 476)])) (List.toArray []))
noncomputable def o268 : Params → Obj := fun P => (Obj.mk (Value.type "function") none (Data.func (FuncData.mk (Str.ofString "remove") (Str.ofString "Routes.remove") p20 (FuncBody.stmts b20) s20 3 [] Value.none Value.none Value.none (Value.str (Str.ofString "thinstack.routes") 241) none (Value.ref 221) Value.none 0)) (List.toArray []))
noncomputable def o269 : Params → Obj := fun P => (Obj.mk (Value.type "tuple") none (Data.seq (List.toArray []) 0) (List.toArray []))
noncomputable def o270 : Params → Obj := fun P => (Obj.mk Value.none none (Data.fields (List.toArray [])) (List.toArray []))
noncomputable def o271 : Params → Obj := fun P => (Obj.mk Value.none none (Data.func (FuncData.mk (Str.ofString "remove_face") (Str.ofString "Routes.remove_face") p21 (FuncBody.stmts b21) s21 0 [] Value.none Value.none Value.none Value.none none Value.none Value.none 0)) (List.toArray []))
noncomputable def o272 : Params → Obj := fun P => (Obj.mk (Value.type "code") none (Data.fields (List.toArray [(Value.str (Str.ofString "remove_face") 478), (Value.str (Str.ofString "Routes.remove_face") 479), (Value.str (Str.ofString "/claim/cut.py") 480), (Value.int 121 0), (Value.int 2 0), (Value.int 0 0), (Value.int 0 0), (Value.int 3 0), (Value.ref 223), (Value.bool Bool.true), (Value.int 181 0), (Value.ref 224), Value.none, Value.none, Value.none, (Value.ref 225), (Value.int 481 0), (Value.int 121 0), (Value.str (Str.ofString "/claim/cut.py") 482)])) (List.toArray []))
noncomputable def o273 : Params → Obj := fun P => (Obj.mk (Value.type "function") none (Data.func (FuncData.mk (Str.ofString "remove_face") (Str.ofString "Routes.remove_face") p21 (FuncBody.stmts b21) s21 3 [] Value.none Value.none Value.none (Value.str (Str.ofString "thinstack.routes") 241) none (Value.ref 226) Value.none 0)) (List.toArray []))
noncomputable def o274 : Params → Obj := fun P => (Obj.mk (Value.type "tuple") none (Data.seq (List.toArray []) 0) (List.toArray []))
noncomputable def o275 : Params → Obj := fun P => (Obj.mk Value.none none (Data.fields (List.toArray [])) (List.toArray []))
noncomputable def o276 : Params → Obj := fun P => (Obj.mk (Value.type "tuple") none (Data.seq (List.toArray [(Value.str (Str.ofString "self") 487), (Value.str (Str.ofString "net") 488), (Value.str (Str.ofString "path") 489), (Value.str (Str.ofString "at") 490)]) 0) (List.toArray []))
noncomputable def o277 : Params → Obj := fun P => (Obj.mk (Value.type "tuple") none (Data.seq (List.toArray []) 0) (List.toArray []))
noncomputable def o278 : Params → Obj := fun P => (Obj.mk Value.none none (Data.func (FuncData.mk (Str.ofString "prune") (Str.ofString "Routes.prune") p22 (FuncBody.stmts b22) s22 0 [] Value.none Value.none Value.none Value.none none Value.none Value.none 0)) (List.toArray []))
noncomputable def o279 : Params → Obj := fun P => (Obj.mk (Value.type "code") none (Data.fields (List.toArray [(Value.str (Str.ofString "prune") 484), (Value.str (Str.ofString "Routes.prune") 485), (Value.str (Str.ofString "/claim/cut.py") 486), (Value.int 132 0), (Value.int 3 0), (Value.int 0 0), (Value.int 0 0), (Value.int 3 0), (Value.ref 228), (Value.bool Bool.true), (Value.int 181 0), (Value.ref 229), Value.none, (Value.ref 230), (Value.ref 231), (Value.ref 232), (Value.int 491 0), (Value.int 132 0), (Value.str (Str.ofString "/claim/cut.py") 492)])) (List.toArray []))
noncomputable def o280 : Params → Obj := fun P => (Obj.mk (Value.type "function") none (Data.func (FuncData.mk (Str.ofString "prune") (Str.ofString "Routes.prune") p22 (FuncBody.stmts b22) s22 3 [] Value.none Value.none Value.none (Value.str (Str.ofString "thinstack.routes") 241) none (Value.ref 233) Value.none 0)) (List.toArray []))
noncomputable def o281 : Params → Obj := fun P => (Obj.mk (Value.type "tuple") none (Data.seq (List.toArray []) 0) (List.toArray []))
noncomputable def o282 : Params → Obj := fun P => (Obj.mk Value.none none (Data.fields (List.toArray [])) (List.toArray []))
noncomputable def o283 : Params → Obj := fun P => (Obj.mk (Value.type "tuple") none (Data.seq (List.toArray [(Value.str (Str.ofString "self") 497), (Value.str (Str.ofString "address") 498), (Value.str (Str.ofString "branch") 499), (Value.str (Str.ofString "found") 500), (Value.str (Str.ofString "place") 501)]) 0) (List.toArray []))
noncomputable def o284 : Params → Obj := fun P => (Obj.mk (Value.type "tuple") none (Data.seq (List.toArray []) 0) (List.toArray []))
noncomputable def o285 : Params → Obj := fun P => (Obj.mk Value.none none (Data.func (FuncData.mk (Str.ofString "find") (Str.ofString "Routes.find") p23 (FuncBody.stmts b23) s23 0 [] Value.none Value.none Value.none Value.none none Value.none Value.none 0)) (List.toArray []))
noncomputable def o286 : Params → Obj := fun P => (Obj.mk (Value.type "code") none (Data.fields (List.toArray [(Value.str (Str.ofString "find") 494), (Value.str (Str.ofString "Routes.find") 495), (Value.str (Str.ofString "/claim/cut.py") 496), (Value.int 138 0), (Value.int 2 0), (Value.int 0 0), (Value.int 0 0), (Value.int 3 0), (Value.ref 235), (Value.bool Bool.true), (Value.int 181 0), (Value.ref 236), Value.none, (Value.ref 237), (Value.ref 238), (Value.ref 239), (Value.int 502 0), (Value.int 138 0), (Value.str (Str.ofString "/claim/cut.py") 503)])) (List.toArray []))
noncomputable def o287 : Params → Obj := fun P => (Obj.mk (Value.type "function") none (Data.func (FuncData.mk (Str.ofString "find") (Str.ofString "Routes.find") p23 (FuncBody.stmts b23) s23 3 [] Value.none Value.none Value.none (Value.str (Str.ofString "thinstack.routes") 241) none (Value.ref 240) Value.none 0)) (List.toArray []))
noncomputable def o288 : Params → Obj := fun P => (Obj.mk (Value.type "tuple") none (Data.seq (List.toArray []) 0) (List.toArray []))
noncomputable def o289 : Params → Obj := fun P => (Obj.mk Value.none none (Data.fields (List.toArray [])) (List.toArray []))
noncomputable def o290 : Params → Obj := fun P => (Obj.mk (Value.type "tuple") none (Data.seq (List.toArray [(Value.str (Str.ofString "self") 508), (Value.str (Str.ofString "found") 509), (Value.str (Str.ofString "left") 510), (Value.str (Str.ofString "branch") 511)]) 0) (List.toArray []))
noncomputable def o291 : Params → Obj := fun P => (Obj.mk (Value.type "tuple") none (Data.seq (List.toArray []) 0) (List.toArray []))
noncomputable def o292 : Params → Obj := fun P => (Obj.mk Value.none none (Data.func (FuncData.mk (Str.ofString "rows") (Str.ofString "Routes.rows") p24 (FuncBody.stmts b24) s24 0 [] Value.none Value.none Value.none Value.none none Value.none Value.none 0)) (List.toArray []))
noncomputable def o293 : Params → Obj := fun P => (Obj.mk (Value.type "code") none (Data.fields (List.toArray [(Value.str (Str.ofString "rows") 505), (Value.str (Str.ofString "Routes.rows") 506), (Value.str (Str.ofString "/claim/cut.py") 507), (Value.int 149 0), (Value.int 1 0), (Value.int 0 0), (Value.int 0 0), (Value.int 3 0), (Value.ref 242), (Value.bool Bool.true), (Value.int 181 0), (Value.ref 243), Value.none, (Value.ref 244), (Value.ref 245), (Value.ref 246), (Value.int 512 0), (Value.int 149 0), (Value.str (Str.ofString "/claim/cut.py") 513)])) (List.toArray []))
noncomputable def o294 : Params → Obj := fun P => (Obj.mk (Value.type "function") none (Data.func (FuncData.mk (Str.ofString "rows") (Str.ofString "Routes.rows") p24 (FuncBody.stmts b24) s24 3 [] Value.none Value.none Value.none (Value.str (Str.ofString "thinstack.routes") 241) none (Value.ref 247) Value.none 0)) (List.toArray []))
noncomputable def o295 : Params → Obj := fun P => (Obj.mk (Value.type "tuple") none (Data.seq (List.toArray [(Value.str (Str.ofString "many") 515), (Value.str (Str.ofString "root") 516)]) 0) (List.toArray []))
noncomputable def o296 : Params → Obj := fun P => (Obj.mk (Value.type "dict") none (Data.dict (List.toArray [(DictEntry.mk (PyData.keyHash P (Str.ofString "__module__")) (Value.str (Str.ofString "__module__") 422) (Value.str (Str.ofString "thinstack.routes") 241)), (DictEntry.mk (PyData.keyHash P (Str.ofString "__firstlineno__")) (Value.str (Str.ofString "__firstlineno__") 426) (Value.int 73 425)), (DictEntry.mk (PyData.keyHash P (Str.ofString "__init__")) (Value.str (Str.ofString "__init__") 433) (Value.ref 194)), (DictEntry.mk (PyData.keyHash P (Str.ofString "size")) (Value.str (Str.ofString "size") 440) (Value.ref 201)), (DictEntry.mk (PyData.keyHash P (Str.ofString "path")) (Value.str (Str.ofString "path") 454) (Value.ref 208)), (DictEntry.mk (PyData.keyHash P (Str.ofString "add")) (Value.str (Str.ofString "add") 466) (Value.ref 215)), (DictEntry.mk (PyData.keyHash P (Str.ofString "remove")) (Value.str (Str.ofString "remove") 477) (Value.ref 222)), (DictEntry.mk (PyData.keyHash P (Str.ofString "remove_face")) (Value.str (Str.ofString "remove_face") 483) (Value.ref 227)), (DictEntry.mk (PyData.keyHash P (Str.ofString "prune")) (Value.str (Str.ofString "prune") 493) (Value.ref 234)), (DictEntry.mk (PyData.keyHash P (Str.ofString "find")) (Value.str (Str.ofString "find") 504) (Value.ref 241)), (DictEntry.mk (PyData.keyHash P (Str.ofString "rows")) (Value.str (Str.ofString "rows") 514) (Value.ref 248)), (DictEntry.mk (PyData.keyHash P (Str.ofString "__static_attributes__")) (Value.str (Str.ofString "__static_attributes__") 517) (Value.ref 249)), (DictEntry.mk (PyData.keyHash P (Str.ofString "__dict__")) (Value.str (Str.ofString "__dict__") 519) (Value.ref 252)), (DictEntry.mk (PyData.keyHash P (Str.ofString "__weakref__")) (Value.str (Str.ofString "__weakref__") 521) (Value.ref 253)), (DictEntry.mk (PyData.keyHash P (Str.ofString "__doc__")) (Value.str (Str.ofString "__doc__") 522) Value.none)]) 4) (List.toArray []))
noncomputable def o297 : Params → Obj := fun P => (Obj.mk (Value.type "type") none (Data.cls (ClassData.mk (Str.ofString "Routes") [(Value.type "object")] [(Value.ref 251), (Value.type "object")] 250 (Str.ofString "Routes") Bool.true [] [] Bool.false none Bool.false)) (List.toArray [none, none, (some (Value.str (Str.ofString "Routes") 415)), (some (Value.str (Str.ofString "Routes") 423)), (some (Value.builtin "object.__new__")), (some (Value.bool Bool.true))]))
noncomputable def o298 : Params → Obj := fun P => (Obj.mk (Value.type "getset_descriptor") none (Data.fields (List.toArray [(Value.str (Str.ofString "__dict__") 518), (Value.ref 251), (Value.builtin "function.__dict__"), (Value.builtin "function.__dict__#set")])) (List.toArray []))
noncomputable def o299 : Params → Obj := fun P => (Obj.mk (Value.type "getset_descriptor") none (Data.fields (List.toArray [(Value.str (Str.ofString "__weakref__") 520), (Value.ref 251), (Value.builtin "ExceptionGroup.__weakref__"), Value.none])) (List.toArray []))
noncomputable def o300 : Params → Obj := fun P => (Obj.mk (Value.type "super") none (Data.fields (List.toArray [(Value.ref 251), (Value.ref 251), (Value.ref 251)])) (List.toArray []))
noncomputable def o301 : Params → Obj := fun P => (Obj.mk (Value.type "builtin_function_or_method") none (Data.fields (List.toArray [(Value.builtin "object.__init_subclass__"), (Value.ref 251)])) (List.toArray []))
noncomputable def o302 : Params → Obj := fun P => (Obj.mk (Value.type "dict") none (Data.dict (List.toArray [(DictEntry.mk (PyData.keyHash P (Str.ofString "__name__")) (Value.str (Str.ofString "__name__") 165) (Value.str (Str.ofString "law_pf0397_01") 525)), (DictEntry.mk (PyData.keyHash P (Str.ofString "__doc__")) (Value.str (Str.ofString "__doc__") 166) Value.none), (DictEntry.mk (PyData.keyHash P (Str.ofString "__package__")) (Value.str (Str.ofString "__package__") 167) Value.none), (DictEntry.mk (PyData.keyHash P (Str.ofString "__loader__")) (Value.str (Str.ofString "__loader__") 168) (Value.builtin "__main__.__loader__#opaque")), (DictEntry.mk (PyData.keyHash P (Str.ofString "__spec__")) (Value.str (Str.ofString "__spec__") 169) Value.none), (DictEntry.mk (PyData.keyHash P (Str.ofString "__annotations__")) (Value.str (Str.ofString "__annotations__") 170) (Value.ref 6)), (DictEntry.mk (PyData.keyHash P (Str.ofString "__builtins__")) (Value.str (Str.ofString "__builtins__") 171) (Value.ref 4)), (DictEntry.mk (PyData.keyHash P (Str.ofString "__file__")) (Value.str (Str.ofString "__file__") 173) (Value.str (Str.ofString "/claim/cut.py") 172)), (DictEntry.mk (PyData.keyHash P (Str.ofString "__cached__")) (Value.str (Str.ofString "__cached__") 174) Value.none), (DictEntry.mk (PyData.keyHash P (Str.ofString "_wall")) (Value.str (Str.ofString "_wall") 193) (Value.ref 21)), (DictEntry.mk (PyData.keyHash P (Str.ofString "StackError")) (Value.str (Str.ofString "StackError") 224) (Value.ref 38)), (DictEntry.mk (PyData.keyHash P (Str.ofString "RouteError")) (Value.str (Str.ofString "RouteError") 240) (Value.ref 51)), (DictEntry.mk (PyData.keyHash P (Str.ofString "BITS")) (Value.str (Str.ofString "BITS") 244) (Value.int 32 243)), (DictEntry.mk (PyData.keyHash P (Str.ofString "ALL")) (Value.str (Str.ofString "ALL") 250) (Value.int 4294967295 249)), (DictEntry.mk (PyData.keyHash P (Str.ofString "mask_of")) (Value.str (Str.ofString "mask_of") 257) (Value.ref 60)), (DictEntry.mk (PyData.keyHash P (Str.ofString "net_of")) (Value.str (Str.ofString "net_of") 265) (Value.ref 67)), (DictEntry.mk (PyData.keyHash P (Str.ofString "is_in")) (Value.str (Str.ofString "is_in") 274) (Value.ref 74)), (DictEntry.mk (PyData.keyHash P (Str.ofString "is_broadcast")) (Value.str (Str.ofString "is_broadcast") 283) (Value.ref 81)), (DictEntry.mk (PyData.keyHash P (Str.ofString "is_loop")) (Value.str (Str.ofString "is_loop") 290) (Value.ref 88)), (DictEntry.mk (PyData.keyHash P (Str.ofString "Route")) (Value.str (Str.ofString "Route") 343) (Value.ref 120)), (DictEntry.mk (PyData.keyHash P (Str.ofString "Branch")) (Value.str (Str.ofString "Branch") 406) (Value.ref 169)), (DictEntry.mk (PyData.keyHash P (Str.ofString "bit_at")) (Value.str (Str.ofString "bit_at") 414) (Value.ref 180)), (DictEntry.mk (PyData.keyHash P (Str.ofString "Routes")) (Value.str (Str.ofString "Routes") 524) (Value.ref 251)), (DictEntry.mk (PyData.keyHash P (Str.ofString "_law_pool")) (Value.str (Str.ofString "_law_pool") 537) (Value.ref 262)), (DictEntry.mk (PyData.keyHash P (Str.ofString "_law_take")) (Value.str (Str.ofString "_law_take") 546) (Value.ref 269)), (DictEntry.mk (PyData.keyHash P (Str.ofString "_law_one")) (Value.str (Str.ofString "_law_one") 554) (Value.ref 276)), (DictEntry.mk (PyData.keyHash P (Str.ofString "_law_all")) (Value.str (Str.ofString "_law_all") 560) (Value.ref 283)), (DictEntry.mk (PyData.keyHash P (Str.ofString "_law_is_well")) (Value.str (Str.ofString "_law_is_well") 568) (Value.ref 290)), (DictEntry.mk (PyData.keyHash P (Str.ofString "_law_net")) (Value.str (Str.ofString "_law_net") 577) (Value.ref 297)), (DictEntry.mk (PyData.keyHash P (Str.ofString "_law_heard")) (Value.str (Str.ofString "_law_heard") 584) (Value.ref 304)), (DictEntry.mk (PyData.keyHash P (Str.ofString "_law_added_right")) (Value.str (Str.ofString "_law_added_right") 601) (Value.ref 311)), (DictEntry.mk (PyData.keyHash P (Str.ofString "_law_removed_right")) (Value.str (Str.ofString "_law_removed_right") 607) (Value.ref 316)), (DictEntry.mk (PyData.keyHash P (Str.ofString "_law_text")) (Value.str (Str.ofString "_law_text") 613) (Value.ref 321)), (DictEntry.mk (PyData.keyHash P (Str.ofString "_law_found")) (Value.str (Str.ofString "_law_found") 623) (Value.ref 328)), (DictEntry.mk (PyData.keyHash P (Str.ofString "_law_stands")) (Value.str (Str.ofString "_law_stands") 629) (Value.ref 333)), (DictEntry.mk (PyData.keyHash P (Str.ofString "_law_ends_right")) (Value.str (Str.ofString "_law_ends_right") 635) (Value.ref 338))]) 36) (List.toArray []))
noncomputable def o303 : Params → Obj := fun P => (Obj.mk Value.none none (Data.fields (List.toArray [(Value.int 1 0), (Value.int 0 0), (Value.ref 20), (Value.int 5 0), (Value.int 0 0), (Value.ref 27), (Value.int 9 0), (Value.int 0 0), (Value.ref 47), (Value.int 14 0), (Value.int 0 0), (Value.ref 59), (Value.int 18 0), (Value.int 0 0), (Value.ref 66), (Value.int 20 0), (Value.int 0 0), (Value.ref 73), (Value.int 22 0), (Value.int 0 0), (Value.ref 80), (Value.int 28 0), (Value.int 0 0), (Value.ref 87), (Value.int 30 0), (Value.int 0 0), (Value.ref 94), (Value.int 44 0), (Value.int 0 0), (Value.ref 130), (Value.int 71 0), (Value.int 0 0), (Value.ref 179), (Value.int 73 0), (Value.int 0 0), (Value.ref 186), (Value.int 161 0), (Value.int 0 0), (Value.ref 261), (Value.int 168 0), (Value.int 0 0), (Value.ref 268), (Value.int 175 0), (Value.int 0 0), (Value.ref 275), (Value.int 177 0), (Value.int 0 0), (Value.ref 282), (Value.int 179 0), (Value.int 0 0), (Value.ref 289), (Value.int 181 0), (Value.int 0 0), (Value.ref 296), (Value.int 187 0), (Value.int 0 0), (Value.ref 303), (Value.int 192 0), (Value.int 0 0), (Value.ref 310), (Value.int 205 0), (Value.int 0 0), (Value.ref 315), (Value.int 220 0), (Value.int 0 0), (Value.ref 320), (Value.int 222 0), (Value.int 0 0), (Value.ref 327), (Value.int 229 0), (Value.int 0 0), (Value.ref 332), (Value.int 239 0), (Value.int 0 0), (Value.ref 337)])) (List.toArray []))
noncomputable def o304 : Params → Obj := fun P => (Obj.mk (Value.type "tuple") none (Data.seq (List.toArray []) 0) (List.toArray []))
noncomputable def o305 : Params → Obj := fun P => (Obj.mk Value.none none (Data.fields (List.toArray [])) (List.toArray []))
noncomputable def o306 : Params → Obj := fun P => (Obj.mk (Value.type "tuple") none (Data.seq (List.toArray [(Value.str (Str.ofString "script") 530), (Value.str (Str.ofString "k") 531), (Value.str (Str.ofString "cell") 532), (Value.str (Str.ofString "big") 533), (Value.str (Str.ofString "stirred") 534)]) 0) (List.toArray []))
noncomputable def o307 : Params → Obj := fun P => (Obj.mk (Value.type "tuple") none (Data.seq (List.toArray []) 0) (List.toArray []))
noncomputable def o308 : Params → Obj := fun P => (Obj.mk Value.none none (Data.func (FuncData.mk (Str.ofString "_law_pool") (Str.ofString "_law_pool") p25 (FuncBody.stmts b25) s25 0 [] Value.none Value.none Value.none Value.none none Value.none Value.none 0)) (List.toArray []))
noncomputable def o309 : Params → Obj := fun P => (Obj.mk (Value.type "code") none (Data.fields (List.toArray [(Value.str (Str.ofString "_law_pool") 527), (Value.str (Str.ofString "_law_pool") 528), (Value.str (Str.ofString "/claim/cut.py") 529), (Value.int 161 0), (Value.int 2 0), (Value.int 0 0), (Value.int 0 0), (Value.int 3 0), (Value.ref 256), (Value.bool Bool.true), (Value.int 181 0), (Value.ref 257), Value.none, (Value.ref 258), (Value.ref 259), (Value.ref 260), (Value.int 535 0), (Value.int 161 0), (Value.str (Str.ofString "/claim/cut.py") 536)])) (List.toArray []))
noncomputable def o310 : Params → Obj := fun P => (Obj.mk (Value.type "function") none (Data.func (FuncData.mk (Str.ofString "_law_pool") (Str.ofString "_law_pool") p25 (FuncBody.stmts b25) s25 3 [] Value.none Value.none Value.none (Value.str (Str.ofString "law_pf0397_01") 525) none (Value.ref 261) Value.none 0)) (List.toArray []))
noncomputable def o311 : Params → Obj := fun P => (Obj.mk (Value.type "tuple") none (Data.seq (List.toArray []) 0) (List.toArray []))
noncomputable def o312 : Params → Obj := fun P => (Obj.mk Value.none none (Data.fields (List.toArray [])) (List.toArray []))
noncomputable def o313 : Params → Obj := fun P => (Obj.mk (Value.type "tuple") none (Data.seq (List.toArray [(Value.str (Str.ofString "source") 541), (Value.str (Str.ofString "top") 542), (Value.str (Str.ofString "figure") 543)]) 0) (List.toArray []))
noncomputable def o314 : Params → Obj := fun P => (Obj.mk (Value.type "tuple") none (Data.seq (List.toArray []) 0) (List.toArray []))
noncomputable def o315 : Params → Obj := fun P => (Obj.mk Value.none none (Data.func (FuncData.mk (Str.ofString "_law_take") (Str.ofString "_law_take") p26 (FuncBody.stmts b26) s26 0 [] Value.none Value.none Value.none Value.none none Value.none Value.none 0)) (List.toArray []))
noncomputable def o316 : Params → Obj := fun P => (Obj.mk (Value.type "code") none (Data.fields (List.toArray [(Value.str (Str.ofString "_law_take") 538), (Value.str (Str.ofString "_law_take") 539), (Value.str (Str.ofString "/claim/cut.py") 540), (Value.int 168 0), (Value.int 2 0), (Value.int 0 0), (Value.int 0 0), (Value.int 3 0), (Value.ref 263), (Value.bool Bool.true), (Value.int 181 0), (Value.ref 264), Value.none, (Value.ref 265), (Value.ref 266), (Value.ref 267), (Value.int 544 0), (Value.int 168 0), (Value.str (Str.ofString "/claim/cut.py") 545)])) (List.toArray []))
noncomputable def o317 : Params → Obj := fun P => (Obj.mk (Value.type "function") none (Data.func (FuncData.mk (Str.ofString "_law_take") (Str.ofString "_law_take") p26 (FuncBody.stmts b26) s26 3 [] Value.none Value.none Value.none (Value.str (Str.ofString "law_pf0397_01") 525) none (Value.ref 268) Value.none 0)) (List.toArray []))
noncomputable def o318 : Params → Obj := fun P => (Obj.mk (Value.type "tuple") none (Data.seq (List.toArray []) 0) (List.toArray []))
noncomputable def o319 : Params → Obj := fun P => (Obj.mk Value.none none (Data.fields (List.toArray [])) (List.toArray []))
noncomputable def o320 : Params → Obj := fun P => (Obj.mk (Value.type "tuple") none (Data.seq (List.toArray [(Value.str (Str.ofString "source") 550), (Value.str (Str.ofString "things") 551)]) 0) (List.toArray []))
noncomputable def o321 : Params → Obj := fun P => (Obj.mk (Value.type "tuple") none (Data.seq (List.toArray []) 0) (List.toArray []))
noncomputable def o322 : Params → Obj := fun P => (Obj.mk Value.none none (Data.func (FuncData.mk (Str.ofString "_law_one") (Str.ofString "_law_one") p27 (FuncBody.stmts b27) s27 0 [] Value.none Value.none Value.none Value.none none Value.none Value.none 0)) (List.toArray []))
noncomputable def o323 : Params → Obj := fun P => (Obj.mk (Value.type "code") none (Data.fields (List.toArray [(Value.str (Str.ofString "_law_one") 547), (Value.str (Str.ofString "_law_one") 548), (Value.str (Str.ofString "/claim/cut.py") 549), (Value.int 175 0), (Value.int 2 0), (Value.int 0 0), (Value.int 0 0), (Value.int 3 0), (Value.ref 270), (Value.bool Bool.true), (Value.int 181 0), (Value.ref 271), Value.none, (Value.ref 272), (Value.ref 273), (Value.ref 274), (Value.int 552 0), (Value.int 175 0), (Value.str (Str.ofString "/claim/cut.py") 553)])) (List.toArray []))
noncomputable def o324 : Params → Obj := fun P => (Obj.mk (Value.type "function") none (Data.func (FuncData.mk (Str.ofString "_law_one") (Str.ofString "_law_one") p27 (FuncBody.stmts b27) s27 3 [] Value.none Value.none Value.none (Value.str (Str.ofString "law_pf0397_01") 525) none (Value.ref 275) Value.none 0)) (List.toArray []))
noncomputable def o325 : Params → Obj := fun P => (Obj.mk (Value.type "tuple") none (Data.seq (List.toArray []) 0) (List.toArray []))
noncomputable def o326 : Params → Obj := fun P => (Obj.mk Value.none none (Data.fields (List.toArray [])) (List.toArray []))
noncomputable def o327 : Params → Obj := fun P => (Obj.mk (Value.type "tuple") none (Data.seq (List.toArray []) 0) (List.toArray []))
noncomputable def o328 : Params → Obj := fun P => (Obj.mk (Value.type "tuple") none (Data.seq (List.toArray []) 0) (List.toArray []))
noncomputable def o329 : Params → Obj := fun P => (Obj.mk Value.none none (Data.func (FuncData.mk (Str.ofString "_law_all") (Str.ofString "_law_all") p28 (FuncBody.stmts b28) s28 0 [] Value.none Value.none Value.none Value.none none Value.none Value.none 0)) (List.toArray []))
noncomputable def o330 : Params → Obj := fun P => (Obj.mk (Value.type "code") none (Data.fields (List.toArray [(Value.str (Str.ofString "_law_all") 555), (Value.str (Str.ofString "_law_all") 556), (Value.str (Str.ofString "/claim/cut.py") 557), (Value.int 177 0), (Value.int 0 0), (Value.int 0 0), (Value.int 0 0), (Value.int 3 0), (Value.ref 277), (Value.bool Bool.true), (Value.int 181 0), (Value.ref 278), Value.none, (Value.ref 279), (Value.ref 280), (Value.ref 281), (Value.int 558 0), (Value.int 177 0), (Value.str (Str.ofString "/claim/cut.py") 559)])) (List.toArray []))
noncomputable def o331 : Params → Obj := fun P => (Obj.mk (Value.type "function") none (Data.func (FuncData.mk (Str.ofString "_law_all") (Str.ofString "_law_all") p28 (FuncBody.stmts b28) s28 3 [] Value.none Value.none Value.none (Value.str (Str.ofString "law_pf0397_01") 525) none (Value.ref 282) Value.none 0)) (List.toArray []))
noncomputable def o332 : Params → Obj := fun P => (Obj.mk (Value.type "tuple") none (Data.seq (List.toArray []) 0) (List.toArray []))
noncomputable def o333 : Params → Obj := fun P => (Obj.mk Value.none none (Data.fields (List.toArray [])) (List.toArray []))
noncomputable def o334 : Params → Obj := fun P => (Obj.mk (Value.type "tuple") none (Data.seq (List.toArray [(Value.str (Str.ofString "net") 564), (Value.str (Str.ofString "prefix") 565)]) 0) (List.toArray []))
noncomputable def o335 : Params → Obj := fun P => (Obj.mk (Value.type "tuple") none (Data.seq (List.toArray []) 0) (List.toArray []))
noncomputable def o336 : Params → Obj := fun P => (Obj.mk Value.none none (Data.func (FuncData.mk (Str.ofString "_law_is_well") (Str.ofString "_law_is_well") p29 (FuncBody.stmts b29) s29 0 [] Value.none Value.none Value.none Value.none none Value.none Value.none 0)) (List.toArray []))
noncomputable def o337 : Params → Obj := fun P => (Obj.mk (Value.type "code") none (Data.fields (List.toArray [(Value.str (Str.ofString "_law_is_well") 561), (Value.str (Str.ofString "_law_is_well") 562), (Value.str (Str.ofString "/claim/cut.py") 563), (Value.int 179 0), (Value.int 2 0), (Value.int 0 0), (Value.int 0 0), (Value.int 3 0), (Value.ref 284), (Value.bool Bool.true), (Value.int 181 0), (Value.ref 285), Value.none, (Value.ref 286), (Value.ref 287), (Value.ref 288), (Value.int 566 0), (Value.int 179 0), (Value.str (Str.ofString "/claim/cut.py") 567)])) (List.toArray []))
noncomputable def o338 : Params → Obj := fun P => (Obj.mk (Value.type "function") none (Data.func (FuncData.mk (Str.ofString "_law_is_well") (Str.ofString "_law_is_well") p29 (FuncBody.stmts b29) s29 3 [] Value.none Value.none Value.none (Value.str (Str.ofString "law_pf0397_01") 525) none (Value.ref 289) Value.none 0)) (List.toArray []))
noncomputable def o339 : Params → Obj := fun P => (Obj.mk (Value.type "tuple") none (Data.seq (List.toArray []) 0) (List.toArray []))
noncomputable def o340 : Params → Obj := fun P => (Obj.mk Value.none none (Data.fields (List.toArray [])) (List.toArray []))
noncomputable def o341 : Params → Obj := fun P => (Obj.mk (Value.type "tuple") none (Data.seq (List.toArray [(Value.str (Str.ofString "source") 572), (Value.str (Str.ofString "prefix") 573), (Value.str (Str.ofString "address") 574)]) 0) (List.toArray []))
noncomputable def o342 : Params → Obj := fun P => (Obj.mk (Value.type "tuple") none (Data.seq (List.toArray []) 0) (List.toArray []))
noncomputable def o343 : Params → Obj := fun P => (Obj.mk Value.none none (Data.func (FuncData.mk (Str.ofString "_law_net") (Str.ofString "_law_net") p30 (FuncBody.stmts b30) s30 0 [] Value.none Value.none Value.none Value.none none Value.none Value.none 0)) (List.toArray []))
noncomputable def o344 : Params → Obj := fun P => (Obj.mk (Value.type "code") none (Data.fields (List.toArray [(Value.str (Str.ofString "_law_net") 569), (Value.str (Str.ofString "_law_net") 570), (Value.str (Str.ofString "/claim/cut.py") 571), (Value.int 181 0), (Value.int 1 0), (Value.int 0 0), (Value.int 0 0), (Value.int 3 0), (Value.ref 291), (Value.bool Bool.true), (Value.int 181 0), (Value.ref 292), Value.none, (Value.ref 293), (Value.ref 294), (Value.ref 295), (Value.int 575 0), (Value.int 181 0), (Value.str (Str.ofString "/claim/cut.py") 576)])) (List.toArray []))
noncomputable def o345 : Params → Obj := fun P => (Obj.mk (Value.type "function") none (Data.func (FuncData.mk (Str.ofString "_law_net") (Str.ofString "_law_net") p30 (FuncBody.stmts b30) s30 3 [] Value.none Value.none Value.none (Value.str (Str.ofString "law_pf0397_01") 525) none (Value.ref 296) Value.none 0)) (List.toArray []))
noncomputable def o346 : Params → Obj := fun P => (Obj.mk (Value.type "tuple") none (Data.seq (List.toArray []) 0) (List.toArray []))
noncomputable def o347 : Params → Obj := fun P => (Obj.mk Value.none none (Data.fields (List.toArray [])) (List.toArray []))
noncomputable def o348 : Params → Obj := fun P => (Obj.mk (Value.type "tuple") none (Data.seq (List.toArray [(Value.str (Str.ofString "call") 581)]) 0) (List.toArray []))
noncomputable def o349 : Params → Obj := fun P => (Obj.mk (Value.type "tuple") none (Data.seq (List.toArray []) 0) (List.toArray []))
noncomputable def o350 : Params → Obj := fun P => (Obj.mk Value.none none (Data.func (FuncData.mk (Str.ofString "_law_heard") (Str.ofString "_law_heard") p31 (FuncBody.stmts b31) s31 0 [] Value.none Value.none Value.none Value.none none Value.none Value.none 0)) (List.toArray []))
noncomputable def o351 : Params → Obj := fun P => (Obj.mk (Value.type "code") none (Data.fields (List.toArray [(Value.str (Str.ofString "_law_heard") 578), (Value.str (Str.ofString "_law_heard") 579), (Value.str (Str.ofString "/claim/cut.py") 580), (Value.int 187 0), (Value.int 1 0), (Value.int 0 0), (Value.int 0 0), (Value.int 3 0), (Value.ref 298), (Value.bool Bool.true), (Value.int 181 0), (Value.ref 299), Value.none, (Value.ref 300), (Value.ref 301), (Value.ref 302), (Value.int 582 0), (Value.int 187 0), (Value.str (Str.ofString "/claim/cut.py") 583)])) (List.toArray []))
noncomputable def o352 : Params → Obj := fun P => (Obj.mk (Value.type "function") none (Data.func (FuncData.mk (Str.ofString "_law_heard") (Str.ofString "_law_heard") p31 (FuncBody.stmts b31) s31 3 [] Value.none Value.none Value.none (Value.str (Str.ofString "law_pf0397_01") 525) none (Value.ref 303) Value.none 0)) (List.toArray []))
noncomputable def o353 : Params → Obj := fun P => (Obj.mk (Value.type "tuple") none (Data.seq (List.toArray []) 0) (List.toArray []))
noncomputable def o354 : Params → Obj := fun P => (Obj.mk Value.none none (Data.fields (List.toArray [])) (List.toArray []))
noncomputable def o355 : Params → Obj := fun P => (Obj.mk (Value.type "tuple") none (Data.seq (List.toArray [(Value.str (Str.ofString "source") 588), (Value.str (Str.ofString "table") 589), (Value.str (Str.ofString "rows") 590), (Value.str (Str.ofString "told") 591), (Value.str (Str.ofString "row") 592)]) 0) (List.toArray []))
noncomputable def o356 : Params → Obj := fun P => (Obj.mk (Value.type "tuple") none (Data.seq (List.toArray [(Value.str (Str.ofString "table") 593), (Value.str (Str.ofString "face") 594), (Value.str (Str.ofString "gateway") 595), (Value.str (Str.ofString "metric") 596), (Value.str (Str.ofString "net") 597), (Value.str (Str.ofString "prefix") 598)]) 0) (List.toArray []))
noncomputable def o357 : Params → Obj := fun P => (Obj.mk Value.none none (Data.func (FuncData.mk (Str.ofString "_law_added_right") (Str.ofString "_law_added_right") p32 (FuncBody.stmts b32) s32 0 [] Value.none Value.none Value.none Value.none none Value.none Value.none 0)) (List.toArray []))
noncomputable def o358 : Params → Obj := fun P => (Obj.mk (Value.type "code") none (Data.fields (List.toArray [(Value.str (Str.ofString "_law_added_right") 585), (Value.str (Str.ofString "_law_added_right") 586), (Value.str (Str.ofString "/claim/cut.py") 587), (Value.int 192 0), (Value.int 3 0), (Value.int 0 0), (Value.int 0 0), (Value.int 3 0), (Value.ref 305), (Value.bool Bool.true), (Value.int 181 0), (Value.ref 306), Value.none, (Value.ref 307), (Value.ref 308), (Value.ref 309), (Value.int 599 0), (Value.int 192 0), (Value.str (Str.ofString "/claim/cut.py") 600)])) (List.toArray []))
noncomputable def o359 : Params → Obj := fun P => (Obj.mk (Value.type "function") none (Data.func (FuncData.mk (Str.ofString "_law_added_right") (Str.ofString "_law_added_right") p32 (FuncBody.stmts b32) s32 3 [] Value.none Value.none Value.none (Value.str (Str.ofString "law_pf0397_01") 525) none (Value.ref 310) Value.none 0)) (List.toArray []))
noncomputable def o360 : Params → Obj := fun P => (Obj.mk (Value.type "tuple") none (Data.seq (List.toArray []) 0) (List.toArray []))
noncomputable def o361 : Params → Obj := fun P => (Obj.mk Value.none none (Data.fields (List.toArray [])) (List.toArray []))
noncomputable def o362 : Params → Obj := fun P => (Obj.mk Value.none none (Data.func (FuncData.mk (Str.ofString "_law_removed_right") (Str.ofString "_law_removed_right") p33 (FuncBody.stmts b33) s33 0 [] Value.none Value.none Value.none Value.none none Value.none Value.none 0)) (List.toArray []))
noncomputable def o363 : Params → Obj := fun P => (Obj.mk (Value.type "code") none (Data.fields (List.toArray [(Value.str (Str.ofString "_law_removed_right") 602), (Value.str (Str.ofString "_law_removed_right") 603), (Value.str (Str.ofString "/claim/cut.py") 604), (Value.int 205 0), (Value.int 3 0), (Value.int 0 0), (Value.int 0 0), (Value.int 3 0), (Value.ref 312), (Value.bool Bool.true), (Value.int 181 0), (Value.ref 313), Value.none, Value.none, Value.none, (Value.ref 314), (Value.int 605 0), (Value.int 205 0), (Value.str (Str.ofString "/claim/cut.py") 606)])) (List.toArray []))
noncomputable def o364 : Params → Obj := fun P => (Obj.mk (Value.type "function") none (Data.func (FuncData.mk (Str.ofString "_law_removed_right") (Str.ofString "_law_removed_right") p33 (FuncBody.stmts b33) s33 3 [] Value.none Value.none Value.none (Value.str (Str.ofString "law_pf0397_01") 525) none (Value.ref 315) Value.none 0)) (List.toArray []))
noncomputable def o365 : Params → Obj := fun P => (Obj.mk (Value.type "tuple") none (Data.seq (List.toArray []) 0) (List.toArray []))
noncomputable def o366 : Params → Obj := fun P => (Obj.mk Value.none none (Data.fields (List.toArray [])) (List.toArray []))
noncomputable def o367 : Params → Obj := fun P => (Obj.mk Value.none none (Data.func (FuncData.mk (Str.ofString "_law_text") (Str.ofString "_law_text") p34 (FuncBody.stmts b34) s34 0 [] Value.none Value.none Value.none Value.none none Value.none Value.none 0)) (List.toArray []))
noncomputable def o368 : Params → Obj := fun P => (Obj.mk (Value.type "code") none (Data.fields (List.toArray [(Value.str (Str.ofString "_law_text") 608), (Value.str (Str.ofString "_law_text") 609), (Value.str (Str.ofString "/claim/cut.py") 610), (Value.int 220 0), (Value.int 1 0), (Value.int 0 0), (Value.int 0 0), (Value.int 3 0), (Value.ref 317), (Value.bool Bool.true), (Value.int 181 0), (Value.ref 318), Value.none, Value.none, Value.none, (Value.ref 319), (Value.int 611 0), (Value.int 220 0), (Value.str (Str.ofString "/claim/cut.py") 612)])) (List.toArray []))
noncomputable def o369 : Params → Obj := fun P => (Obj.mk (Value.type "function") none (Data.func (FuncData.mk (Str.ofString "_law_text") (Str.ofString "_law_text") p34 (FuncBody.stmts b34) s34 3 [] Value.none Value.none Value.none (Value.str (Str.ofString "law_pf0397_01") 525) none (Value.ref 320) Value.none 0)) (List.toArray []))
noncomputable def o370 : Params → Obj := fun P => (Obj.mk (Value.type "tuple") none (Data.seq (List.toArray []) 0) (List.toArray []))
noncomputable def o371 : Params → Obj := fun P => (Obj.mk Value.none none (Data.fields (List.toArray [])) (List.toArray []))
noncomputable def o372 : Params → Obj := fun P => (Obj.mk (Value.type "tuple") none (Data.seq (List.toArray [(Value.str (Str.ofString "rows") 617), (Value.str (Str.ofString "address") 618), (Value.str (Str.ofString "best") 619), (Value.str (Str.ofString "row") 620)]) 0) (List.toArray []))
noncomputable def o373 : Params → Obj := fun P => (Obj.mk (Value.type "tuple") none (Data.seq (List.toArray []) 0) (List.toArray []))
noncomputable def o374 : Params → Obj := fun P => (Obj.mk Value.none none (Data.func (FuncData.mk (Str.ofString "_law_found") (Str.ofString "_law_found") p35 (FuncBody.stmts b35) s35 0 [] Value.none Value.none Value.none Value.none none Value.none Value.none 0)) (List.toArray []))
noncomputable def o375 : Params → Obj := fun P => (Obj.mk (Value.type "code") none (Data.fields (List.toArray [(Value.str (Str.ofString "_law_found") 614), (Value.str (Str.ofString "_law_found") 615), (Value.str (Str.ofString "/claim/cut.py") 616), (Value.int 222 0), (Value.int 2 0), (Value.int 0 0), (Value.int 0 0), (Value.int 3 0), (Value.ref 322), (Value.bool Bool.true), (Value.int 181 0), (Value.ref 323), Value.none, (Value.ref 324), (Value.ref 325), (Value.ref 326), (Value.int 621 0), (Value.int 222 0), (Value.str (Str.ofString "/claim/cut.py") 622)])) (List.toArray []))
noncomputable def o376 : Params → Obj := fun P => (Obj.mk (Value.type "function") none (Data.func (FuncData.mk (Str.ofString "_law_found") (Str.ofString "_law_found") p35 (FuncBody.stmts b35) s35 3 [] Value.none Value.none Value.none (Value.str (Str.ofString "law_pf0397_01") 525) none (Value.ref 327) Value.none 0)) (List.toArray []))
noncomputable def o377 : Params → Obj := fun P => (Obj.mk (Value.type "tuple") none (Data.seq (List.toArray []) 0) (List.toArray []))
noncomputable def o378 : Params → Obj := fun P => (Obj.mk Value.none none (Data.fields (List.toArray [])) (List.toArray []))
noncomputable def o379 : Params → Obj := fun P => (Obj.mk Value.none none (Data.func (FuncData.mk (Str.ofString "_law_stands") (Str.ofString "_law_stands") p36 (FuncBody.stmts b36) s36 0 [] Value.none Value.none Value.none Value.none none Value.none Value.none 0)) (List.toArray []))
noncomputable def o380 : Params → Obj := fun P => (Obj.mk (Value.type "code") none (Data.fields (List.toArray [(Value.str (Str.ofString "_law_stands") 624), (Value.str (Str.ofString "_law_stands") 625), (Value.str (Str.ofString "/claim/cut.py") 626), (Value.int 229 0), (Value.int 3 0), (Value.int 0 0), (Value.int 0 0), (Value.int 3 0), (Value.ref 329), (Value.bool Bool.true), (Value.int 181 0), (Value.ref 330), Value.none, Value.none, Value.none, (Value.ref 331), (Value.int 627 0), (Value.int 229 0), (Value.str (Str.ofString "/claim/cut.py") 628)])) (List.toArray []))
noncomputable def o381 : Params → Obj := fun P => (Obj.mk (Value.type "function") none (Data.func (FuncData.mk (Str.ofString "_law_stands") (Str.ofString "_law_stands") p36 (FuncBody.stmts b36) s36 3 [] Value.none Value.none Value.none (Value.str (Str.ofString "law_pf0397_01") 525) none (Value.ref 332) Value.none 0)) (List.toArray []))
noncomputable def o382 : Params → Obj := fun P => (Obj.mk (Value.type "tuple") none (Data.seq (List.toArray []) 0) (List.toArray []))
noncomputable def o383 : Params → Obj := fun P => (Obj.mk Value.none none (Data.fields (List.toArray [])) (List.toArray []))
noncomputable def o384 : Params → Obj := fun P => (Obj.mk Value.none none (Data.func (FuncData.mk (Str.ofString "_law_ends_right") (Str.ofString "_law_ends_right") p37 (FuncBody.stmts b37) s37 0 [] Value.none Value.none Value.none Value.none none Value.none Value.none 0)) (List.toArray []))
noncomputable def o385 : Params → Obj := fun P => (Obj.mk (Value.type "code") none (Data.fields (List.toArray [(Value.str (Str.ofString "_law_ends_right") 630), (Value.str (Str.ofString "_law_ends_right") 631), (Value.str (Str.ofString "/claim/cut.py") 632), (Value.int 239 0), (Value.int 1 0), (Value.int 0 0), (Value.int 0 0), (Value.int 3 0), (Value.ref 334), (Value.bool Bool.true), (Value.int 181 0), (Value.ref 335), Value.none, Value.none, Value.none, (Value.ref 336), (Value.int 633 0), (Value.int 239 0), (Value.str (Str.ofString "/claim/cut.py") 634)])) (List.toArray []))
noncomputable def o386 : Params → Obj := fun P => (Obj.mk (Value.type "function") none (Data.func (FuncData.mk (Str.ofString "_law_ends_right") (Str.ofString "_law_ends_right") p37 (FuncBody.stmts b37) s37 3 [] Value.none Value.none Value.none (Value.str (Str.ofString "law_pf0397_01") 525) none (Value.ref 337) Value.none 0)) (List.toArray []))
noncomputable def o387 : Params → Obj := fun P => (Obj.mk (Value.type "dict") none (Data.dict (List.toArray [(DictEntry.mk (PyData.keyHash P (Str.ofString "__name__")) (Value.str (Str.ofString "__name__") 165) (Value.str (Str.ofString "law_pf0397_01") 525)), (DictEntry.mk (PyData.keyHash P (Str.ofString "__doc__")) (Value.str (Str.ofString "__doc__") 166) Value.none), (DictEntry.mk (PyData.keyHash P (Str.ofString "__package__")) (Value.str (Str.ofString "__package__") 167) Value.none), (DictEntry.mk (PyData.keyHash P (Str.ofString "__loader__")) (Value.str (Str.ofString "__loader__") 168) (Value.builtin "__main__.__loader__#opaque")), (DictEntry.mk (PyData.keyHash P (Str.ofString "__spec__")) (Value.str (Str.ofString "__spec__") 169) Value.none), (DictEntry.mk (PyData.keyHash P (Str.ofString "__annotations__")) (Value.str (Str.ofString "__annotations__") 170) (Value.ref 6)), (DictEntry.mk (PyData.keyHash P (Str.ofString "__builtins__")) (Value.str (Str.ofString "__builtins__") 171) (Value.ref 4)), (DictEntry.mk (PyData.keyHash P (Str.ofString "__file__")) (Value.str (Str.ofString "__file__") 173) (Value.str (Str.ofString "/claim/cut.py") 172)), (DictEntry.mk (PyData.keyHash P (Str.ofString "__cached__")) (Value.str (Str.ofString "__cached__") 174) Value.none), (DictEntry.mk (PyData.keyHash P (Str.ofString "_wall")) (Value.str (Str.ofString "_wall") 193) (Value.ref 21)), (DictEntry.mk (PyData.keyHash P (Str.ofString "StackError")) (Value.str (Str.ofString "StackError") 224) (Value.ref 38)), (DictEntry.mk (PyData.keyHash P (Str.ofString "RouteError")) (Value.str (Str.ofString "RouteError") 240) (Value.ref 51)), (DictEntry.mk (PyData.keyHash P (Str.ofString "BITS")) (Value.str (Str.ofString "BITS") 244) (Value.int 32 243)), (DictEntry.mk (PyData.keyHash P (Str.ofString "ALL")) (Value.str (Str.ofString "ALL") 250) (Value.int 4294967295 249)), (DictEntry.mk (PyData.keyHash P (Str.ofString "mask_of")) (Value.str (Str.ofString "mask_of") 257) (Value.ref 60)), (DictEntry.mk (PyData.keyHash P (Str.ofString "net_of")) (Value.str (Str.ofString "net_of") 265) (Value.ref 67)), (DictEntry.mk (PyData.keyHash P (Str.ofString "is_in")) (Value.str (Str.ofString "is_in") 274) (Value.ref 74)), (DictEntry.mk (PyData.keyHash P (Str.ofString "is_broadcast")) (Value.str (Str.ofString "is_broadcast") 283) (Value.ref 81)), (DictEntry.mk (PyData.keyHash P (Str.ofString "is_loop")) (Value.str (Str.ofString "is_loop") 290) (Value.ref 88)), (DictEntry.mk (PyData.keyHash P (Str.ofString "Route")) (Value.str (Str.ofString "Route") 343) (Value.ref 120)), (DictEntry.mk (PyData.keyHash P (Str.ofString "Branch")) (Value.str (Str.ofString "Branch") 406) (Value.ref 169)), (DictEntry.mk (PyData.keyHash P (Str.ofString "bit_at")) (Value.str (Str.ofString "bit_at") 414) (Value.ref 180)), (DictEntry.mk (PyData.keyHash P (Str.ofString "Routes")) (Value.str (Str.ofString "Routes") 524) (Value.ref 251)), (DictEntry.mk (PyData.keyHash P (Str.ofString "_law_pool")) (Value.str (Str.ofString "_law_pool") 537) (Value.ref 262)), (DictEntry.mk (PyData.keyHash P (Str.ofString "_law_take")) (Value.str (Str.ofString "_law_take") 546) (Value.ref 269)), (DictEntry.mk (PyData.keyHash P (Str.ofString "_law_one")) (Value.str (Str.ofString "_law_one") 554) (Value.ref 276)), (DictEntry.mk (PyData.keyHash P (Str.ofString "_law_all")) (Value.str (Str.ofString "_law_all") 560) (Value.ref 283)), (DictEntry.mk (PyData.keyHash P (Str.ofString "_law_is_well")) (Value.str (Str.ofString "_law_is_well") 568) (Value.ref 290)), (DictEntry.mk (PyData.keyHash P (Str.ofString "_law_net")) (Value.str (Str.ofString "_law_net") 577) (Value.ref 297)), (DictEntry.mk (PyData.keyHash P (Str.ofString "_law_heard")) (Value.str (Str.ofString "_law_heard") 584) (Value.ref 304)), (DictEntry.mk (PyData.keyHash P (Str.ofString "_law_added_right")) (Value.str (Str.ofString "_law_added_right") 601) (Value.ref 311)), (DictEntry.mk (PyData.keyHash P (Str.ofString "_law_removed_right")) (Value.str (Str.ofString "_law_removed_right") 607) (Value.ref 316)), (DictEntry.mk (PyData.keyHash P (Str.ofString "_law_text")) (Value.str (Str.ofString "_law_text") 613) (Value.ref 321)), (DictEntry.mk (PyData.keyHash P (Str.ofString "_law_found")) (Value.str (Str.ofString "_law_found") 623) (Value.ref 328)), (DictEntry.mk (PyData.keyHash P (Str.ofString "_law_stands")) (Value.str (Str.ofString "_law_stands") 629) (Value.ref 333)), (DictEntry.mk (PyData.keyHash P (Str.ofString "_law_ends_right")) (Value.str (Str.ofString "_law_ends_right") 635) (Value.ref 338)), (DictEntry.mk (PyData.keyHash P (Str.ofString "law")) (Value.str (Str.ofString "law") 641) (Value.ref 343))]) 37) (List.toArray []))
noncomputable def o388 : Params → Obj := fun P => (Obj.mk Value.none none (Data.fields (List.toArray [(Value.int 1 0), (Value.int 0 0), (Value.ref 20), (Value.int 5 0), (Value.int 0 0), (Value.ref 27), (Value.int 9 0), (Value.int 0 0), (Value.ref 47), (Value.int 14 0), (Value.int 0 0), (Value.ref 59), (Value.int 18 0), (Value.int 0 0), (Value.ref 66), (Value.int 20 0), (Value.int 0 0), (Value.ref 73), (Value.int 22 0), (Value.int 0 0), (Value.ref 80), (Value.int 28 0), (Value.int 0 0), (Value.ref 87), (Value.int 30 0), (Value.int 0 0), (Value.ref 94), (Value.int 44 0), (Value.int 0 0), (Value.ref 130), (Value.int 71 0), (Value.int 0 0), (Value.ref 179), (Value.int 73 0), (Value.int 0 0), (Value.ref 186), (Value.int 161 0), (Value.int 0 0), (Value.ref 261), (Value.int 168 0), (Value.int 0 0), (Value.ref 268), (Value.int 175 0), (Value.int 0 0), (Value.ref 275), (Value.int 177 0), (Value.int 0 0), (Value.ref 282), (Value.int 179 0), (Value.int 0 0), (Value.ref 289), (Value.int 181 0), (Value.int 0 0), (Value.ref 296), (Value.int 187 0), (Value.int 0 0), (Value.ref 303), (Value.int 192 0), (Value.int 0 0), (Value.ref 310), (Value.int 205 0), (Value.int 0 0), (Value.ref 315), (Value.int 220 0), (Value.int 0 0), (Value.ref 320), (Value.int 222 0), (Value.int 0 0), (Value.ref 327), (Value.int 229 0), (Value.int 0 0), (Value.ref 332), (Value.int 239 0), (Value.int 0 0), (Value.ref 337), (Value.int 253 0), (Value.int 0 0), (Value.ref 342)])) (List.toArray []))
noncomputable def o389 : Params → Obj := fun P => (Obj.mk (Value.type "tuple") none (Data.seq (List.toArray []) 0) (List.toArray []))
noncomputable def o390 : Params → Obj := fun P => (Obj.mk Value.none none (Data.fields (List.toArray [])) (List.toArray []))
noncomputable def o391 : Params → Obj := fun P => (Obj.mk Value.none none (Data.func (FuncData.mk (Str.ofString "law") (Str.ofString "law") p38 (FuncBody.stmts b38) s38 0 [] Value.none Value.none Value.none Value.none none Value.none Value.none 0)) (List.toArray []))
noncomputable def o392 : Params → Obj := fun P => (Obj.mk (Value.type "code") none (Data.fields (List.toArray [(Value.str (Str.ofString "law") 636), (Value.str (Str.ofString "law") 637), (Value.str (Str.ofString "/claim/cut.py") 638), (Value.int 253 0), (Value.int 1 0), (Value.int 0 0), (Value.int 0 0), (Value.int 3 0), (Value.ref 339), (Value.bool Bool.true), (Value.int 181 0), (Value.ref 340), Value.none, Value.none, Value.none, (Value.ref 341), (Value.int 639 0), (Value.int 253 0), (Value.str (Str.ofString "/claim/cut.py") 640)])) (List.toArray []))
noncomputable def o393 : Params → Obj := fun P => (Obj.mk (Value.type "function") none (Data.func (FuncData.mk (Str.ofString "law") (Str.ofString "law") p38 (FuncBody.stmts b38) s38 3 [] Value.none Value.none Value.none (Value.str (Str.ofString "law_pf0397_01") 525) none (Value.ref 342) Value.none 0)) (List.toArray []))
noncomputable def tree47 : Params → BT := fun P => (BT.node (boot_o_0 P) (BT.node (boot_o_1 P) (BT.node (boot_o_3 P) (BT.node (boot_o_7 P) BT.nil BT.nil) (BT.node (o43 P) BT.nil BT.nil)) (BT.node (boot_o_5 P) (BT.node (boot_o_9 P) BT.nil BT.nil) (BT.node (o45 P) BT.nil BT.nil))) (BT.node (boot_o_2 P) (BT.node (boot_o_4 P) (BT.node (boot_o_8 P) BT.nil BT.nil) (BT.node (o44 P) BT.nil BT.nil)) (BT.node (boot_o_6 P) (BT.node (boot_o_10 P) BT.nil BT.nil) (BT.node (o46 P) BT.nil BT.nil))))
noncomputable def tree78 : Params → BT := fun P => (BT.node (boot_o_0 P) (BT.node (boot_o_1 P) (BT.node (o50 P) (BT.node (boot_o_7 P) (BT.node (o52 P) (BT.node (o68 P) BT.nil BT.nil) BT.nil) (BT.node (o60 P) (BT.node (o76 P) BT.nil BT.nil) BT.nil)) (BT.node (o43 P) (BT.node (o56 P) (BT.node (o72 P) BT.nil BT.nil) BT.nil) (BT.node (o64 P) BT.nil BT.nil))) (BT.node (boot_o_5 P) (BT.node (boot_o_9 P) (BT.node (o54 P) (BT.node (o70 P) BT.nil BT.nil) BT.nil) (BT.node (o62 P) (BT.node (o78 P) BT.nil BT.nil) BT.nil)) (BT.node (o45 P) (BT.node (o58 P) (BT.node (o74 P) BT.nil BT.nil) BT.nil) (BT.node (o66 P) BT.nil BT.nil)))) (BT.node (o49 P) (BT.node (boot_o_4 P) (BT.node (boot_o_8 P) (BT.node (o53 P) (BT.node (o69 P) BT.nil BT.nil) BT.nil) (BT.node (o61 P) (BT.node (o77 P) BT.nil BT.nil) BT.nil)) (BT.node (o51 P) (BT.node (o57 P) (BT.node (o73 P) BT.nil BT.nil) BT.nil) (BT.node (o65 P) BT.nil BT.nil))) (BT.node (boot_o_6 P) (BT.node (boot_o_10 P) (BT.node (o55 P) (BT.node (o71 P) BT.nil BT.nil) BT.nil) (BT.node (o63 P) BT.nil BT.nil)) (BT.node (o46 P) (BT.node (o59 P) (BT.node (o75 P) BT.nil BT.nil) BT.nil) (BT.node (o67 P) BT.nil BT.nil)))))
noncomputable def tree121 : Params → BT := fun P => (BT.node (boot_o_0 P) (BT.node (boot_o_1 P) (BT.node (o79 P) (BT.node (boot_o_7 P) (BT.node (o52 P) (BT.node (o68 P) (BT.node (o103 P) BT.nil BT.nil) BT.nil) (BT.node (o87 P) (BT.node (o119 P) BT.nil BT.nil) BT.nil)) (BT.node (o60 P) (BT.node (o76 P) (BT.node (o111 P) BT.nil BT.nil) BT.nil) (BT.node (o95 P) BT.nil BT.nil))) (BT.node (o43 P) (BT.node (o56 P) (BT.node (o72 P) (BT.node (o107 P) BT.nil BT.nil) BT.nil) (BT.node (o91 P) BT.nil BT.nil)) (BT.node (o64 P) (BT.node (o83 P) (BT.node (o115 P) BT.nil BT.nil) BT.nil) (BT.node (o99 P) BT.nil BT.nil)))) (BT.node (boot_o_5 P) (BT.node (boot_o_9 P) (BT.node (o54 P) (BT.node (o70 P) (BT.node (o105 P) BT.nil BT.nil) BT.nil) (BT.node (o89 P) (BT.node (o121 P) BT.nil BT.nil) BT.nil)) (BT.node (o62 P) (BT.node (o78 P) (BT.node (o113 P) BT.nil BT.nil) BT.nil) (BT.node (o97 P) BT.nil BT.nil))) (BT.node (o45 P) (BT.node (o58 P) (BT.node (o74 P) (BT.node (o109 P) BT.nil BT.nil) BT.nil) (BT.node (o93 P) BT.nil BT.nil)) (BT.node (o66 P) (BT.node (o85 P) (BT.node (o117 P) BT.nil BT.nil) BT.nil) (BT.node (o101 P) BT.nil BT.nil))))) (BT.node (o49 P) (BT.node (boot_o_4 P) (BT.node (boot_o_8 P) (BT.node (o53 P) (BT.node (o69 P) (BT.node (o104 P) BT.nil BT.nil) BT.nil) (BT.node (o88 P) (BT.node (o120 P) BT.nil BT.nil) BT.nil)) (BT.node (o61 P) (BT.node (o77 P) (BT.node (o112 P) BT.nil BT.nil) BT.nil) (BT.node (o96 P) BT.nil BT.nil))) (BT.node (o80 P) (BT.node (o57 P) (BT.node (o73 P) (BT.node (o108 P) BT.nil BT.nil) BT.nil) (BT.node (o92 P) BT.nil BT.nil)) (BT.node (o65 P) (BT.node (o84 P) (BT.node (o116 P) BT.nil BT.nil) BT.nil) (BT.node (o100 P) BT.nil BT.nil)))) (BT.node (boot_o_6 P) (BT.node (boot_o_10 P) (BT.node (o55 P) (BT.node (o71 P) (BT.node (o106 P) BT.nil BT.nil) BT.nil) (BT.node (o90 P) BT.nil BT.nil)) (BT.node (o63 P) (BT.node (o82 P) (BT.node (o114 P) BT.nil BT.nil) BT.nil) (BT.node (o98 P) BT.nil BT.nil))) (BT.node (o46 P) (BT.node (o59 P) (BT.node (o81 P) (BT.node (o110 P) BT.nil BT.nil) BT.nil) (BT.node (o94 P) BT.nil BT.nil)) (BT.node (o67 P) (BT.node (o86 P) (BT.node (o118 P) BT.nil BT.nil) BT.nil) (BT.node (o102 P) BT.nil BT.nil))))))
noncomputable def tree166 : Params → BT := fun P => (BT.node (boot_o_0 P) (BT.node (boot_o_1 P) (BT.node (o122 P) (BT.node (boot_o_7 P) (BT.node (o52 P) (BT.node (o68 P) (BT.node (o103 P) BT.nil BT.nil) (BT.node (o137 P) BT.nil BT.nil)) (BT.node (o87 P) (BT.node (o119 P) BT.nil BT.nil) (BT.node (o153 P) BT.nil BT.nil))) (BT.node (o60 P) (BT.node (o76 P) (BT.node (o111 P) BT.nil BT.nil) (BT.node (o145 P) BT.nil BT.nil)) (BT.node (o95 P) (BT.node (o129 P) BT.nil BT.nil) (BT.node (o161 P) BT.nil BT.nil)))) (BT.node (o43 P) (BT.node (o56 P) (BT.node (o72 P) (BT.node (o107 P) BT.nil BT.nil) (BT.node (o141 P) BT.nil BT.nil)) (BT.node (o91 P) (BT.node (o125 P) BT.nil BT.nil) (BT.node (o157 P) BT.nil BT.nil))) (BT.node (o64 P) (BT.node (o83 P) (BT.node (o115 P) BT.nil BT.nil) (BT.node (o149 P) BT.nil BT.nil)) (BT.node (o99 P) (BT.node (o133 P) BT.nil BT.nil) (BT.node (o165 P) BT.nil BT.nil))))) (BT.node (boot_o_5 P) (BT.node (boot_o_9 P) (BT.node (o54 P) (BT.node (o70 P) (BT.node (o105 P) BT.nil BT.nil) (BT.node (o139 P) BT.nil BT.nil)) (BT.node (o89 P) (BT.node (o121 P) BT.nil BT.nil) (BT.node (o155 P) BT.nil BT.nil))) (BT.node (o62 P) (BT.node (o78 P) (BT.node (o113 P) BT.nil BT.nil) (BT.node (o147 P) BT.nil BT.nil)) (BT.node (o97 P) (BT.node (o131 P) BT.nil BT.nil) (BT.node (o163 P) BT.nil BT.nil)))) (BT.node (o45 P) (BT.node (o58 P) (BT.node (o74 P) (BT.node (o109 P) BT.nil BT.nil) (BT.node (o143 P) BT.nil BT.nil)) (BT.node (o93 P) (BT.node (o127 P) BT.nil BT.nil) (BT.node (o159 P) BT.nil BT.nil))) (BT.node (o66 P) (BT.node (o85 P) (BT.node (o117 P) BT.nil BT.nil) (BT.node (o151 P) BT.nil BT.nil)) (BT.node (o101 P) (BT.node (o135 P) BT.nil BT.nil) BT.nil))))) (BT.node (o49 P) (BT.node (boot_o_4 P) (BT.node (boot_o_8 P) (BT.node (o53 P) (BT.node (o69 P) (BT.node (o104 P) BT.nil BT.nil) (BT.node (o138 P) BT.nil BT.nil)) (BT.node (o88 P) (BT.node (o120 P) BT.nil BT.nil) (BT.node (o154 P) BT.nil BT.nil))) (BT.node (o61 P) (BT.node (o77 P) (BT.node (o112 P) BT.nil BT.nil) (BT.node (o146 P) BT.nil BT.nil)) (BT.node (o96 P) (BT.node (o130 P) BT.nil BT.nil) (BT.node (o162 P) BT.nil BT.nil)))) (BT.node (o123 P) (BT.node (o57 P) (BT.node (o73 P) (BT.node (o108 P) BT.nil BT.nil) (BT.node (o142 P) BT.nil BT.nil)) (BT.node (o92 P) (BT.node (o126 P) BT.nil BT.nil) (BT.node (o158 P) BT.nil BT.nil))) (BT.node (o65 P) (BT.node (o84 P) (BT.node (o116 P) BT.nil BT.nil) (BT.node (o150 P) BT.nil BT.nil)) (BT.node (o100 P) (BT.node (o134 P) BT.nil BT.nil) (BT.node (o166 P) BT.nil BT.nil))))) (BT.node (boot_o_6 P) (BT.node (boot_o_10 P) (BT.node (o55 P) (BT.node (o71 P) (BT.node (o106 P) BT.nil BT.nil) (BT.node (o140 P) BT.nil BT.nil)) (BT.node (o90 P) (BT.node (o124 P) BT.nil BT.nil) (BT.node (o156 P) BT.nil BT.nil))) (BT.node (o63 P) (BT.node (o82 P) (BT.node (o114 P) BT.nil BT.nil) (BT.node (o148 P) BT.nil BT.nil)) (BT.node (o98 P) (BT.node (o132 P) BT.nil BT.nil) (BT.node (o164 P) BT.nil BT.nil)))) (BT.node (o46 P) (BT.node (o59 P) (BT.node (o81 P) (BT.node (o110 P) BT.nil BT.nil) (BT.node (o144 P) BT.nil BT.nil)) (BT.node (o94 P) (BT.node (o128 P) BT.nil BT.nil) (BT.node (o160 P) BT.nil BT.nil))) (BT.node (o67 P) (BT.node (o86 P) (BT.node (o118 P) BT.nil BT.nil) (BT.node (o152 P) BT.nil BT.nil)) (BT.node (o102 P) (BT.node (o136 P) BT.nil BT.nil) BT.nil))))))
noncomputable def tree224 : Params → BT := fun P => (BT.node (boot_o_0 P) (BT.node (boot_o_1 P) (BT.node (o167 P) (BT.node (boot_o_7 P) (BT.node (o52 P) (BT.node (o68 P) (BT.node (o103 P) (BT.node (o171 P) BT.nil BT.nil) BT.nil) (BT.node (o137 P) (BT.node (o203 P) BT.nil BT.nil) BT.nil)) (BT.node (o87 P) (BT.node (o119 P) (BT.node (o187 P) BT.nil BT.nil) BT.nil) (BT.node (o153 P) (BT.node (o219 P) BT.nil BT.nil) BT.nil))) (BT.node (o60 P) (BT.node (o76 P) (BT.node (o111 P) (BT.node (o179 P) BT.nil BT.nil) BT.nil) (BT.node (o145 P) (BT.node (o211 P) BT.nil BT.nil) BT.nil)) (BT.node (o95 P) (BT.node (o129 P) (BT.node (o195 P) BT.nil BT.nil) BT.nil) (BT.node (o161 P) BT.nil BT.nil)))) (BT.node (o43 P) (BT.node (o56 P) (BT.node (o72 P) (BT.node (o107 P) (BT.node (o175 P) BT.nil BT.nil) BT.nil) (BT.node (o141 P) (BT.node (o207 P) BT.nil BT.nil) BT.nil)) (BT.node (o91 P) (BT.node (o125 P) (BT.node (o191 P) BT.nil BT.nil) BT.nil) (BT.node (o157 P) (BT.node (o223 P) BT.nil BT.nil) BT.nil))) (BT.node (o64 P) (BT.node (o83 P) (BT.node (o115 P) (BT.node (o183 P) BT.nil BT.nil) BT.nil) (BT.node (o149 P) (BT.node (o215 P) BT.nil BT.nil) BT.nil)) (BT.node (o99 P) (BT.node (o133 P) (BT.node (o199 P) BT.nil BT.nil) BT.nil) (BT.node (o165 P) BT.nil BT.nil))))) (BT.node (boot_o_5 P) (BT.node (boot_o_9 P) (BT.node (o54 P) (BT.node (o70 P) (BT.node (o105 P) (BT.node (o173 P) BT.nil BT.nil) BT.nil) (BT.node (o139 P) (BT.node (o205 P) BT.nil BT.nil) BT.nil)) (BT.node (o89 P) (BT.node (o121 P) (BT.node (o189 P) BT.nil BT.nil) BT.nil) (BT.node (o155 P) (BT.node (o221 P) BT.nil BT.nil) BT.nil))) (BT.node (o62 P) (BT.node (o78 P) (BT.node (o113 P) (BT.node (o181 P) BT.nil BT.nil) BT.nil) (BT.node (o147 P) (BT.node (o213 P) BT.nil BT.nil) BT.nil)) (BT.node (o97 P) (BT.node (o131 P) (BT.node (o197 P) BT.nil BT.nil) BT.nil) (BT.node (o163 P) BT.nil BT.nil)))) (BT.node (o45 P) (BT.node (o58 P) (BT.node (o74 P) (BT.node (o109 P) (BT.node (o177 P) BT.nil BT.nil) BT.nil) (BT.node (o143 P) (BT.node (o209 P) BT.nil BT.nil) BT.nil)) (BT.node (o93 P) (BT.node (o127 P) (BT.node (o193 P) BT.nil BT.nil) BT.nil) (BT.node (o159 P) BT.nil BT.nil))) (BT.node (o66 P) (BT.node (o85 P) (BT.node (o117 P) (BT.node (o185 P) BT.nil BT.nil) BT.nil) (BT.node (o151 P) (BT.node (o217 P) BT.nil BT.nil) BT.nil)) (BT.node (o101 P) (BT.node (o135 P) (BT.node (o201 P) BT.nil BT.nil) BT.nil) (BT.node (o169 P) BT.nil BT.nil)))))) (BT.node (o49 P) (BT.node (boot_o_4 P) (BT.node (boot_o_8 P) (BT.node (o53 P) (BT.node (o69 P) (BT.node (o104 P) (BT.node (o172 P) BT.nil BT.nil) BT.nil) (BT.node (o138 P) (BT.node (o204 P) BT.nil BT.nil) BT.nil)) (BT.node (o88 P) (BT.node (o120 P) (BT.node (o188 P) BT.nil BT.nil) BT.nil) (BT.node (o154 P) (BT.node (o220 P) BT.nil BT.nil) BT.nil))) (BT.node (o61 P) (BT.node (o77 P) (BT.node (o112 P) (BT.node (o180 P) BT.nil BT.nil) BT.nil) (BT.node (o146 P) (BT.node (o212 P) BT.nil BT.nil) BT.nil)) (BT.node (o96 P) (BT.node (o130 P) (BT.node (o196 P) BT.nil BT.nil) BT.nil) (BT.node (o162 P) BT.nil BT.nil)))) (BT.node (o168 P) (BT.node (o57 P) (BT.node (o73 P) (BT.node (o108 P) (BT.node (o176 P) BT.nil BT.nil) BT.nil) (BT.node (o142 P) (BT.node (o208 P) BT.nil BT.nil) BT.nil)) (BT.node (o92 P) (BT.node (o126 P) (BT.node (o192 P) BT.nil BT.nil) BT.nil) (BT.node (o158 P) (BT.node (o224 P) BT.nil BT.nil) BT.nil))) (BT.node (o65 P) (BT.node (o84 P) (BT.node (o116 P) (BT.node (o184 P) BT.nil BT.nil) BT.nil) (BT.node (o150 P) (BT.node (o216 P) BT.nil BT.nil) BT.nil)) (BT.node (o100 P) (BT.node (o134 P) (BT.node (o200 P) BT.nil BT.nil) BT.nil) (BT.node (o166 P) BT.nil BT.nil))))) (BT.node (boot_o_6 P) (BT.node (boot_o_10 P) (BT.node (o55 P) (BT.node (o71 P) (BT.node (o106 P) (BT.node (o174 P) BT.nil BT.nil) BT.nil) (BT.node (o140 P) (BT.node (o206 P) BT.nil BT.nil) BT.nil)) (BT.node (o90 P) (BT.node (o124 P) (BT.node (o190 P) BT.nil BT.nil) BT.nil) (BT.node (o156 P) (BT.node (o222 P) BT.nil BT.nil) BT.nil))) (BT.node (o63 P) (BT.node (o82 P) (BT.node (o114 P) (BT.node (o182 P) BT.nil BT.nil) BT.nil) (BT.node (o148 P) (BT.node (o214 P) BT.nil BT.nil) BT.nil)) (BT.node (o98 P) (BT.node (o132 P) (BT.node (o198 P) BT.nil BT.nil) BT.nil) (BT.node (o164 P) BT.nil BT.nil)))) (BT.node (o46 P) (BT.node (o59 P) (BT.node (o81 P) (BT.node (o110 P) (BT.node (o178 P) BT.nil BT.nil) BT.nil) (BT.node (o144 P) (BT.node (o210 P) BT.nil BT.nil) BT.nil)) (BT.node (o94 P) (BT.node (o128 P) (BT.node (o194 P) BT.nil BT.nil) BT.nil) (BT.node (o160 P) BT.nil BT.nil))) (BT.node (o67 P) (BT.node (o86 P) (BT.node (o118 P) (BT.node (o186 P) BT.nil BT.nil) BT.nil) (BT.node (o152 P) (BT.node (o218 P) BT.nil BT.nil) BT.nil)) (BT.node (o102 P) (BT.node (o136 P) (BT.node (o202 P) BT.nil BT.nil) BT.nil) (BT.node (o170 P) BT.nil BT.nil)))))))
noncomputable def tree301 : Params → BT := fun P => (BT.node (boot_o_0 P) (BT.node (boot_o_1 P) (BT.node (o225 P) (BT.node (boot_o_7 P) (BT.node (o52 P) (BT.node (o68 P) (BT.node (o103 P) (BT.node (o171 P) (BT.node (o301 P) BT.nil BT.nil) BT.nil) (BT.node (o237 P) BT.nil BT.nil)) (BT.node (o137 P) (BT.node (o203 P) BT.nil BT.nil) (BT.node (o269 P) BT.nil BT.nil))) (BT.node (o87 P) (BT.node (o119 P) (BT.node (o187 P) BT.nil BT.nil) (BT.node (o253 P) BT.nil BT.nil)) (BT.node (o153 P) (BT.node (o219 P) BT.nil BT.nil) (BT.node (o285 P) BT.nil BT.nil)))) (BT.node (o60 P) (BT.node (o76 P) (BT.node (o111 P) (BT.node (o179 P) BT.nil BT.nil) (BT.node (o245 P) BT.nil BT.nil)) (BT.node (o145 P) (BT.node (o211 P) BT.nil BT.nil) (BT.node (o277 P) BT.nil BT.nil))) (BT.node (o95 P) (BT.node (o129 P) (BT.node (o195 P) BT.nil BT.nil) (BT.node (o261 P) BT.nil BT.nil)) (BT.node (o161 P) (BT.node (o229 P) BT.nil BT.nil) (BT.node (o293 P) BT.nil BT.nil))))) (BT.node (o43 P) (BT.node (o56 P) (BT.node (o72 P) (BT.node (o107 P) (BT.node (o175 P) BT.nil BT.nil) (BT.node (o241 P) BT.nil BT.nil)) (BT.node (o141 P) (BT.node (o207 P) BT.nil BT.nil) (BT.node (o273 P) BT.nil BT.nil))) (BT.node (o91 P) (BT.node (o125 P) (BT.node (o191 P) BT.nil BT.nil) (BT.node (o257 P) BT.nil BT.nil)) (BT.node (o157 P) (BT.node (o223 P) BT.nil BT.nil) (BT.node (o289 P) BT.nil BT.nil)))) (BT.node (o64 P) (BT.node (o83 P) (BT.node (o115 P) (BT.node (o183 P) BT.nil BT.nil) (BT.node (o249 P) BT.nil BT.nil)) (BT.node (o149 P) (BT.node (o215 P) BT.nil BT.nil) (BT.node (o281 P) BT.nil BT.nil))) (BT.node (o99 P) (BT.node (o133 P) (BT.node (o199 P) BT.nil BT.nil) (BT.node (o265 P) BT.nil BT.nil)) (BT.node (o165 P) (BT.node (o233 P) BT.nil BT.nil) (BT.node (o297 P) BT.nil BT.nil)))))) (BT.node (boot_o_5 P) (BT.node (boot_o_9 P) (BT.node (o54 P) (BT.node (o70 P) (BT.node (o105 P) (BT.node (o173 P) BT.nil BT.nil) (BT.node (o239 P) BT.nil BT.nil)) (BT.node (o139 P) (BT.node (o205 P) BT.nil BT.nil) (BT.node (o271 P) BT.nil BT.nil))) (BT.node (o89 P) (BT.node (o121 P) (BT.node (o189 P) BT.nil BT.nil) (BT.node (o255 P) BT.nil BT.nil)) (BT.node (o155 P) (BT.node (o221 P) BT.nil BT.nil) (BT.node (o287 P) BT.nil BT.nil)))) (BT.node (o62 P) (BT.node (o78 P) (BT.node (o113 P) (BT.node (o181 P) BT.nil BT.nil) (BT.node (o247 P) BT.nil BT.nil)) (BT.node (o147 P) (BT.node (o213 P) BT.nil BT.nil) (BT.node (o279 P) BT.nil BT.nil))) (BT.node (o97 P) (BT.node (o131 P) (BT.node (o197 P) BT.nil BT.nil) (BT.node (o263 P) BT.nil BT.nil)) (BT.node (o163 P) (BT.node (o231 P) BT.nil BT.nil) (BT.node (o295 P) BT.nil BT.nil))))) (BT.node (o45 P) (BT.node (o58 P) (BT.node (o74 P) (BT.node (o109 P) (BT.node (o177 P) BT.nil BT.nil) (BT.node (o243 P) BT.nil BT.nil)) (BT.node (o143 P) (BT.node (o209 P) BT.nil BT.nil) (BT.node (o275 P) BT.nil BT.nil))) (BT.node (o93 P) (BT.node (o127 P) (BT.node (o193 P) BT.nil BT.nil) (BT.node (o259 P) BT.nil BT.nil)) (BT.node (o159 P) (BT.node (o227 P) BT.nil BT.nil) (BT.node (o291 P) BT.nil BT.nil)))) (BT.node (o66 P) (BT.node (o85 P) (BT.node (o117 P) (BT.node (o185 P) BT.nil BT.nil) (BT.node (o251 P) BT.nil BT.nil)) (BT.node (o151 P) (BT.node (o217 P) BT.nil BT.nil) (BT.node (o283 P) BT.nil BT.nil))) (BT.node (o101 P) (BT.node (o135 P) (BT.node (o201 P) BT.nil BT.nil) (BT.node (o267 P) BT.nil BT.nil)) (BT.node (o169 P) (BT.node (o235 P) BT.nil BT.nil) (BT.node (o299 P) BT.nil BT.nil))))))) (BT.node (o49 P) (BT.node (boot_o_4 P) (BT.node (boot_o_8 P) (BT.node (o53 P) (BT.node (o69 P) (BT.node (o104 P) (BT.node (o172 P) BT.nil BT.nil) (BT.node (o238 P) BT.nil BT.nil)) (BT.node (o138 P) (BT.node (o204 P) BT.nil BT.nil) (BT.node (o270 P) BT.nil BT.nil))) (BT.node (o88 P) (BT.node (o120 P) (BT.node (o188 P) BT.nil BT.nil) (BT.node (o254 P) BT.nil BT.nil)) (BT.node (o154 P) (BT.node (o220 P) BT.nil BT.nil) (BT.node (o286 P) BT.nil BT.nil)))) (BT.node (o61 P) (BT.node (o77 P) (BT.node (o112 P) (BT.node (o180 P) BT.nil BT.nil) (BT.node (o246 P) BT.nil BT.nil)) (BT.node (o146 P) (BT.node (o212 P) BT.nil BT.nil) (BT.node (o278 P) BT.nil BT.nil))) (BT.node (o96 P) (BT.node (o130 P) (BT.node (o196 P) BT.nil BT.nil) (BT.node (o262 P) BT.nil BT.nil)) (BT.node (o162 P) (BT.node (o230 P) BT.nil BT.nil) (BT.node (o294 P) BT.nil BT.nil))))) (BT.node (o226 P) (BT.node (o57 P) (BT.node (o73 P) (BT.node (o108 P) (BT.node (o176 P) BT.nil BT.nil) (BT.node (o242 P) BT.nil BT.nil)) (BT.node (o142 P) (BT.node (o208 P) BT.nil BT.nil) (BT.node (o274 P) BT.nil BT.nil))) (BT.node (o92 P) (BT.node (o126 P) (BT.node (o192 P) BT.nil BT.nil) (BT.node (o258 P) BT.nil BT.nil)) (BT.node (o158 P) (BT.node (o224 P) BT.nil BT.nil) (BT.node (o290 P) BT.nil BT.nil)))) (BT.node (o65 P) (BT.node (o84 P) (BT.node (o116 P) (BT.node (o184 P) BT.nil BT.nil) (BT.node (o250 P) BT.nil BT.nil)) (BT.node (o150 P) (BT.node (o216 P) BT.nil BT.nil) (BT.node (o282 P) BT.nil BT.nil))) (BT.node (o100 P) (BT.node (o134 P) (BT.node (o200 P) BT.nil BT.nil) (BT.node (o266 P) BT.nil BT.nil)) (BT.node (o166 P) (BT.node (o234 P) BT.nil BT.nil) (BT.node (o298 P) BT.nil BT.nil)))))) (BT.node (boot_o_6 P) (BT.node (boot_o_10 P) (BT.node (o55 P) (BT.node (o71 P) (BT.node (o106 P) (BT.node (o174 P) BT.nil BT.nil) (BT.node (o240 P) BT.nil BT.nil)) (BT.node (o140 P) (BT.node (o206 P) BT.nil BT.nil) (BT.node (o272 P) BT.nil BT.nil))) (BT.node (o90 P) (BT.node (o124 P) (BT.node (o190 P) BT.nil BT.nil) (BT.node (o256 P) BT.nil BT.nil)) (BT.node (o156 P) (BT.node (o222 P) BT.nil BT.nil) (BT.node (o288 P) BT.nil BT.nil)))) (BT.node (o63 P) (BT.node (o82 P) (BT.node (o114 P) (BT.node (o182 P) BT.nil BT.nil) (BT.node (o248 P) BT.nil BT.nil)) (BT.node (o148 P) (BT.node (o214 P) BT.nil BT.nil) (BT.node (o280 P) BT.nil BT.nil))) (BT.node (o98 P) (BT.node (o132 P) (BT.node (o198 P) BT.nil BT.nil) (BT.node (o264 P) BT.nil BT.nil)) (BT.node (o164 P) (BT.node (o232 P) BT.nil BT.nil) (BT.node (o296 P) BT.nil BT.nil))))) (BT.node (o46 P) (BT.node (o59 P) (BT.node (o81 P) (BT.node (o110 P) (BT.node (o178 P) BT.nil BT.nil) (BT.node (o244 P) BT.nil BT.nil)) (BT.node (o144 P) (BT.node (o210 P) BT.nil BT.nil) (BT.node (o276 P) BT.nil BT.nil))) (BT.node (o94 P) (BT.node (o128 P) (BT.node (o194 P) BT.nil BT.nil) (BT.node (o260 P) BT.nil BT.nil)) (BT.node (o160 P) (BT.node (o228 P) BT.nil BT.nil) (BT.node (o292 P) BT.nil BT.nil)))) (BT.node (o67 P) (BT.node (o86 P) (BT.node (o118 P) (BT.node (o186 P) BT.nil BT.nil) (BT.node (o252 P) BT.nil BT.nil)) (BT.node (o152 P) (BT.node (o218 P) BT.nil BT.nil) (BT.node (o284 P) BT.nil BT.nil))) (BT.node (o102 P) (BT.node (o136 P) (BT.node (o202 P) BT.nil BT.nil) (BT.node (o268 P) BT.nil BT.nil)) (BT.node (o170 P) (BT.node (o236 P) BT.nil BT.nil) (BT.node (o300 P) BT.nil BT.nil))))))))
noncomputable def tree386 : Params → BT := fun P => (BT.node (boot_o_0 P) (BT.node (boot_o_1 P) (BT.node (o302 P) (BT.node (boot_o_7 P) (BT.node (o52 P) (BT.node (o68 P) (BT.node (o103 P) (BT.node (o171 P) (BT.node (o301 P) BT.nil BT.nil) BT.nil) (BT.node (o237 P) (BT.node (o367 P) BT.nil BT.nil) BT.nil)) (BT.node (o137 P) (BT.node (o203 P) (BT.node (o335 P) BT.nil BT.nil) BT.nil) (BT.node (o269 P) BT.nil BT.nil))) (BT.node (o87 P) (BT.node (o119 P) (BT.node (o187 P) (BT.node (o319 P) BT.nil BT.nil) BT.nil) (BT.node (o253 P) (BT.node (o383 P) BT.nil BT.nil) BT.nil)) (BT.node (o153 P) (BT.node (o219 P) (BT.node (o351 P) BT.nil BT.nil) BT.nil) (BT.node (o285 P) BT.nil BT.nil)))) (BT.node (o60 P) (BT.node (o76 P) (BT.node (o111 P) (BT.node (o179 P) (BT.node (o311 P) BT.nil BT.nil) BT.nil) (BT.node (o245 P) (BT.node (o375 P) BT.nil BT.nil) BT.nil)) (BT.node (o145 P) (BT.node (o211 P) (BT.node (o343 P) BT.nil BT.nil) BT.nil) (BT.node (o277 P) BT.nil BT.nil))) (BT.node (o95 P) (BT.node (o129 P) (BT.node (o195 P) (BT.node (o327 P) BT.nil BT.nil) BT.nil) (BT.node (o261 P) BT.nil BT.nil)) (BT.node (o161 P) (BT.node (o229 P) (BT.node (o359 P) BT.nil BT.nil) BT.nil) (BT.node (o293 P) BT.nil BT.nil))))) (BT.node (o43 P) (BT.node (o56 P) (BT.node (o72 P) (BT.node (o107 P) (BT.node (o175 P) (BT.node (o307 P) BT.nil BT.nil) BT.nil) (BT.node (o241 P) (BT.node (o371 P) BT.nil BT.nil) BT.nil)) (BT.node (o141 P) (BT.node (o207 P) (BT.node (o339 P) BT.nil BT.nil) BT.nil) (BT.node (o273 P) BT.nil BT.nil))) (BT.node (o91 P) (BT.node (o125 P) (BT.node (o191 P) (BT.node (o323 P) BT.nil BT.nil) BT.nil) (BT.node (o257 P) BT.nil BT.nil)) (BT.node (o157 P) (BT.node (o223 P) (BT.node (o355 P) BT.nil BT.nil) BT.nil) (BT.node (o289 P) BT.nil BT.nil)))) (BT.node (o64 P) (BT.node (o83 P) (BT.node (o115 P) (BT.node (o183 P) (BT.node (o315 P) BT.nil BT.nil) BT.nil) (BT.node (o249 P) (BT.node (o379 P) BT.nil BT.nil) BT.nil)) (BT.node (o149 P) (BT.node (o215 P) (BT.node (o347 P) BT.nil BT.nil) BT.nil) (BT.node (o281 P) BT.nil BT.nil))) (BT.node (o99 P) (BT.node (o133 P) (BT.node (o199 P) (BT.node (o331 P) BT.nil BT.nil) BT.nil) (BT.node (o265 P) BT.nil BT.nil)) (BT.node (o165 P) (BT.node (o233 P) (BT.node (o363 P) BT.nil BT.nil) BT.nil) (BT.node (o297 P) BT.nil BT.nil)))))) (BT.node (boot_o_5 P) (BT.node (boot_o_9 P) (BT.node (o54 P) (BT.node (o70 P) (BT.node (o105 P) (BT.node (o173 P) (BT.node (o305 P) BT.nil BT.nil) BT.nil) (BT.node (o239 P) (BT.node (o369 P) BT.nil BT.nil) BT.nil)) (BT.node (o139 P) (BT.node (o205 P) (BT.node (o337 P) BT.nil BT.nil) BT.nil) (BT.node (o271 P) BT.nil BT.nil))) (BT.node (o89 P) (BT.node (o121 P) (BT.node (o189 P) (BT.node (o321 P) BT.nil BT.nil) BT.nil) (BT.node (o255 P) (BT.node (o385 P) BT.nil BT.nil) BT.nil)) (BT.node (o155 P) (BT.node (o221 P) (BT.node (o353 P) BT.nil BT.nil) BT.nil) (BT.node (o287 P) BT.nil BT.nil)))) (BT.node (o62 P) (BT.node (o78 P) (BT.node (o113 P) (BT.node (o181 P) (BT.node (o313 P) BT.nil BT.nil) BT.nil) (BT.node (o247 P) (BT.node (o377 P) BT.nil BT.nil) BT.nil)) (BT.node (o147 P) (BT.node (o213 P) (BT.node (o345 P) BT.nil BT.nil) BT.nil) (BT.node (o279 P) BT.nil BT.nil))) (BT.node (o97 P) (BT.node (o131 P) (BT.node (o197 P) (BT.node (o329 P) BT.nil BT.nil) BT.nil) (BT.node (o263 P) BT.nil BT.nil)) (BT.node (o163 P) (BT.node (o231 P) (BT.node (o361 P) BT.nil BT.nil) BT.nil) (BT.node (o295 P) BT.nil BT.nil))))) (BT.node (o45 P) (BT.node (o58 P) (BT.node (o74 P) (BT.node (o109 P) (BT.node (o177 P) (BT.node (o309 P) BT.nil BT.nil) BT.nil) (BT.node (o243 P) (BT.node (o373 P) BT.nil BT.nil) BT.nil)) (BT.node (o143 P) (BT.node (o209 P) (BT.node (o341 P) BT.nil BT.nil) BT.nil) (BT.node (o275 P) BT.nil BT.nil))) (BT.node (o93 P) (BT.node (o127 P) (BT.node (o193 P) (BT.node (o325 P) BT.nil BT.nil) BT.nil) (BT.node (o259 P) BT.nil BT.nil)) (BT.node (o159 P) (BT.node (o227 P) (BT.node (o357 P) BT.nil BT.nil) BT.nil) (BT.node (o291 P) BT.nil BT.nil)))) (BT.node (o66 P) (BT.node (o85 P) (BT.node (o117 P) (BT.node (o185 P) (BT.node (o317 P) BT.nil BT.nil) BT.nil) (BT.node (o251 P) (BT.node (o381 P) BT.nil BT.nil) BT.nil)) (BT.node (o151 P) (BT.node (o217 P) (BT.node (o349 P) BT.nil BT.nil) BT.nil) (BT.node (o283 P) BT.nil BT.nil))) (BT.node (o101 P) (BT.node (o135 P) (BT.node (o201 P) (BT.node (o333 P) BT.nil BT.nil) BT.nil) (BT.node (o267 P) BT.nil BT.nil)) (BT.node (o169 P) (BT.node (o235 P) (BT.node (o365 P) BT.nil BT.nil) BT.nil) (BT.node (o299 P) BT.nil BT.nil))))))) (BT.node (o49 P) (BT.node (boot_o_4 P) (BT.node (boot_o_8 P) (BT.node (o53 P) (BT.node (o69 P) (BT.node (o104 P) (BT.node (o172 P) (BT.node (o304 P) BT.nil BT.nil) BT.nil) (BT.node (o238 P) (BT.node (o368 P) BT.nil BT.nil) BT.nil)) (BT.node (o138 P) (BT.node (o204 P) (BT.node (o336 P) BT.nil BT.nil) BT.nil) (BT.node (o270 P) BT.nil BT.nil))) (BT.node (o88 P) (BT.node (o120 P) (BT.node (o188 P) (BT.node (o320 P) BT.nil BT.nil) BT.nil) (BT.node (o254 P) (BT.node (o384 P) BT.nil BT.nil) BT.nil)) (BT.node (o154 P) (BT.node (o220 P) (BT.node (o352 P) BT.nil BT.nil) BT.nil) (BT.node (o286 P) BT.nil BT.nil)))) (BT.node (o61 P) (BT.node (o77 P) (BT.node (o112 P) (BT.node (o180 P) (BT.node (o312 P) BT.nil BT.nil) BT.nil) (BT.node (o246 P) (BT.node (o376 P) BT.nil BT.nil) BT.nil)) (BT.node (o146 P) (BT.node (o212 P) (BT.node (o344 P) BT.nil BT.nil) BT.nil) (BT.node (o278 P) BT.nil BT.nil))) (BT.node (o96 P) (BT.node (o130 P) (BT.node (o196 P) (BT.node (o328 P) BT.nil BT.nil) BT.nil) (BT.node (o262 P) BT.nil BT.nil)) (BT.node (o162 P) (BT.node (o230 P) (BT.node (o360 P) BT.nil BT.nil) BT.nil) (BT.node (o294 P) BT.nil BT.nil))))) (BT.node (o303 P) (BT.node (o57 P) (BT.node (o73 P) (BT.node (o108 P) (BT.node (o176 P) (BT.node (o308 P) BT.nil BT.nil) BT.nil) (BT.node (o242 P) (BT.node (o372 P) BT.nil BT.nil) BT.nil)) (BT.node (o142 P) (BT.node (o208 P) (BT.node (o340 P) BT.nil BT.nil) BT.nil) (BT.node (o274 P) BT.nil BT.nil))) (BT.node (o92 P) (BT.node (o126 P) (BT.node (o192 P) (BT.node (o324 P) BT.nil BT.nil) BT.nil) (BT.node (o258 P) BT.nil BT.nil)) (BT.node (o158 P) (BT.node (o224 P) (BT.node (o356 P) BT.nil BT.nil) BT.nil) (BT.node (o290 P) BT.nil BT.nil)))) (BT.node (o65 P) (BT.node (o84 P) (BT.node (o116 P) (BT.node (o184 P) (BT.node (o316 P) BT.nil BT.nil) BT.nil) (BT.node (o250 P) (BT.node (o380 P) BT.nil BT.nil) BT.nil)) (BT.node (o150 P) (BT.node (o216 P) (BT.node (o348 P) BT.nil BT.nil) BT.nil) (BT.node (o282 P) BT.nil BT.nil))) (BT.node (o100 P) (BT.node (o134 P) (BT.node (o200 P) (BT.node (o332 P) BT.nil BT.nil) BT.nil) (BT.node (o266 P) BT.nil BT.nil)) (BT.node (o166 P) (BT.node (o234 P) (BT.node (o364 P) BT.nil BT.nil) BT.nil) (BT.node (o298 P) BT.nil BT.nil)))))) (BT.node (boot_o_6 P) (BT.node (boot_o_10 P) (BT.node (o55 P) (BT.node (o71 P) (BT.node (o106 P) (BT.node (o174 P) (BT.node (o306 P) BT.nil BT.nil) BT.nil) (BT.node (o240 P) (BT.node (o370 P) BT.nil BT.nil) BT.nil)) (BT.node (o140 P) (BT.node (o206 P) (BT.node (o338 P) BT.nil BT.nil) BT.nil) (BT.node (o272 P) BT.nil BT.nil))) (BT.node (o90 P) (BT.node (o124 P) (BT.node (o190 P) (BT.node (o322 P) BT.nil BT.nil) BT.nil) (BT.node (o256 P) (BT.node (o386 P) BT.nil BT.nil) BT.nil)) (BT.node (o156 P) (BT.node (o222 P) (BT.node (o354 P) BT.nil BT.nil) BT.nil) (BT.node (o288 P) BT.nil BT.nil)))) (BT.node (o63 P) (BT.node (o82 P) (BT.node (o114 P) (BT.node (o182 P) (BT.node (o314 P) BT.nil BT.nil) BT.nil) (BT.node (o248 P) (BT.node (o378 P) BT.nil BT.nil) BT.nil)) (BT.node (o148 P) (BT.node (o214 P) (BT.node (o346 P) BT.nil BT.nil) BT.nil) (BT.node (o280 P) BT.nil BT.nil))) (BT.node (o98 P) (BT.node (o132 P) (BT.node (o198 P) (BT.node (o330 P) BT.nil BT.nil) BT.nil) (BT.node (o264 P) BT.nil BT.nil)) (BT.node (o164 P) (BT.node (o232 P) (BT.node (o362 P) BT.nil BT.nil) BT.nil) (BT.node (o296 P) BT.nil BT.nil))))) (BT.node (o46 P) (BT.node (o59 P) (BT.node (o81 P) (BT.node (o110 P) (BT.node (o178 P) (BT.node (o310 P) BT.nil BT.nil) BT.nil) (BT.node (o244 P) (BT.node (o374 P) BT.nil BT.nil) BT.nil)) (BT.node (o144 P) (BT.node (o210 P) (BT.node (o342 P) BT.nil BT.nil) BT.nil) (BT.node (o276 P) BT.nil BT.nil))) (BT.node (o94 P) (BT.node (o128 P) (BT.node (o194 P) (BT.node (o326 P) BT.nil BT.nil) BT.nil) (BT.node (o260 P) BT.nil BT.nil)) (BT.node (o160 P) (BT.node (o228 P) (BT.node (o358 P) BT.nil BT.nil) BT.nil) (BT.node (o292 P) BT.nil BT.nil)))) (BT.node (o67 P) (BT.node (o86 P) (BT.node (o118 P) (BT.node (o186 P) (BT.node (o318 P) BT.nil BT.nil) BT.nil) (BT.node (o252 P) (BT.node (o382 P) BT.nil BT.nil) BT.nil)) (BT.node (o152 P) (BT.node (o218 P) (BT.node (o350 P) BT.nil BT.nil) BT.nil) (BT.node (o284 P) BT.nil BT.nil))) (BT.node (o102 P) (BT.node (o136 P) (BT.node (o202 P) (BT.node (o334 P) BT.nil BT.nil) BT.nil) (BT.node (o268 P) BT.nil BT.nil)) (BT.node (o170 P) (BT.node (o236 P) (BT.node (o366 P) BT.nil BT.nil) BT.nil) (BT.node (o300 P) BT.nil BT.nil))))))))
noncomputable def tree393 : Params → BT := fun P => (BT.node (boot_o_0 P) (BT.node (boot_o_1 P) (BT.node (o387 P) (BT.node (boot_o_7 P) (BT.node (o52 P) (BT.node (o68 P) (BT.node (o103 P) (BT.node (o171 P) (BT.node (o301 P) BT.nil BT.nil) BT.nil) (BT.node (o237 P) (BT.node (o367 P) BT.nil BT.nil) BT.nil)) (BT.node (o137 P) (BT.node (o203 P) (BT.node (o335 P) BT.nil BT.nil) BT.nil) (BT.node (o269 P) BT.nil BT.nil))) (BT.node (o87 P) (BT.node (o119 P) (BT.node (o187 P) (BT.node (o319 P) BT.nil BT.nil) BT.nil) (BT.node (o253 P) (BT.node (o383 P) BT.nil BT.nil) BT.nil)) (BT.node (o153 P) (BT.node (o219 P) (BT.node (o351 P) BT.nil BT.nil) BT.nil) (BT.node (o285 P) BT.nil BT.nil)))) (BT.node (o60 P) (BT.node (o76 P) (BT.node (o111 P) (BT.node (o179 P) (BT.node (o311 P) BT.nil BT.nil) BT.nil) (BT.node (o245 P) (BT.node (o375 P) BT.nil BT.nil) BT.nil)) (BT.node (o145 P) (BT.node (o211 P) (BT.node (o343 P) BT.nil BT.nil) BT.nil) (BT.node (o277 P) BT.nil BT.nil))) (BT.node (o95 P) (BT.node (o129 P) (BT.node (o195 P) (BT.node (o327 P) BT.nil BT.nil) BT.nil) (BT.node (o261 P) (BT.node (o393 P) BT.nil BT.nil) BT.nil)) (BT.node (o161 P) (BT.node (o229 P) (BT.node (o359 P) BT.nil BT.nil) BT.nil) (BT.node (o293 P) BT.nil BT.nil))))) (BT.node (o43 P) (BT.node (o56 P) (BT.node (o72 P) (BT.node (o107 P) (BT.node (o175 P) (BT.node (o307 P) BT.nil BT.nil) BT.nil) (BT.node (o241 P) (BT.node (o371 P) BT.nil BT.nil) BT.nil)) (BT.node (o141 P) (BT.node (o207 P) (BT.node (o339 P) BT.nil BT.nil) BT.nil) (BT.node (o273 P) BT.nil BT.nil))) (BT.node (o91 P) (BT.node (o125 P) (BT.node (o191 P) (BT.node (o323 P) BT.nil BT.nil) BT.nil) (BT.node (o257 P) (BT.node (o389 P) BT.nil BT.nil) BT.nil)) (BT.node (o157 P) (BT.node (o223 P) (BT.node (o355 P) BT.nil BT.nil) BT.nil) (BT.node (o289 P) BT.nil BT.nil)))) (BT.node (o64 P) (BT.node (o83 P) (BT.node (o115 P) (BT.node (o183 P) (BT.node (o315 P) BT.nil BT.nil) BT.nil) (BT.node (o249 P) (BT.node (o379 P) BT.nil BT.nil) BT.nil)) (BT.node (o149 P) (BT.node (o215 P) (BT.node (o347 P) BT.nil BT.nil) BT.nil) (BT.node (o281 P) BT.nil BT.nil))) (BT.node (o99 P) (BT.node (o133 P) (BT.node (o199 P) (BT.node (o331 P) BT.nil BT.nil) BT.nil) (BT.node (o265 P) BT.nil BT.nil)) (BT.node (o165 P) (BT.node (o233 P) (BT.node (o363 P) BT.nil BT.nil) BT.nil) (BT.node (o297 P) BT.nil BT.nil)))))) (BT.node (boot_o_5 P) (BT.node (boot_o_9 P) (BT.node (o54 P) (BT.node (o70 P) (BT.node (o105 P) (BT.node (o173 P) (BT.node (o305 P) BT.nil BT.nil) BT.nil) (BT.node (o239 P) (BT.node (o369 P) BT.nil BT.nil) BT.nil)) (BT.node (o139 P) (BT.node (o205 P) (BT.node (o337 P) BT.nil BT.nil) BT.nil) (BT.node (o271 P) BT.nil BT.nil))) (BT.node (o89 P) (BT.node (o121 P) (BT.node (o189 P) (BT.node (o321 P) BT.nil BT.nil) BT.nil) (BT.node (o255 P) (BT.node (o385 P) BT.nil BT.nil) BT.nil)) (BT.node (o155 P) (BT.node (o221 P) (BT.node (o353 P) BT.nil BT.nil) BT.nil) (BT.node (o287 P) BT.nil BT.nil)))) (BT.node (o62 P) (BT.node (o78 P) (BT.node (o113 P) (BT.node (o181 P) (BT.node (o313 P) BT.nil BT.nil) BT.nil) (BT.node (o247 P) (BT.node (o377 P) BT.nil BT.nil) BT.nil)) (BT.node (o147 P) (BT.node (o213 P) (BT.node (o345 P) BT.nil BT.nil) BT.nil) (BT.node (o279 P) BT.nil BT.nil))) (BT.node (o97 P) (BT.node (o131 P) (BT.node (o197 P) (BT.node (o329 P) BT.nil BT.nil) BT.nil) (BT.node (o263 P) BT.nil BT.nil)) (BT.node (o163 P) (BT.node (o231 P) (BT.node (o361 P) BT.nil BT.nil) BT.nil) (BT.node (o295 P) BT.nil BT.nil))))) (BT.node (o45 P) (BT.node (o58 P) (BT.node (o74 P) (BT.node (o109 P) (BT.node (o177 P) (BT.node (o309 P) BT.nil BT.nil) BT.nil) (BT.node (o243 P) (BT.node (o373 P) BT.nil BT.nil) BT.nil)) (BT.node (o143 P) (BT.node (o209 P) (BT.node (o341 P) BT.nil BT.nil) BT.nil) (BT.node (o275 P) BT.nil BT.nil))) (BT.node (o93 P) (BT.node (o127 P) (BT.node (o193 P) (BT.node (o325 P) BT.nil BT.nil) BT.nil) (BT.node (o259 P) (BT.node (o391 P) BT.nil BT.nil) BT.nil)) (BT.node (o159 P) (BT.node (o227 P) (BT.node (o357 P) BT.nil BT.nil) BT.nil) (BT.node (o291 P) BT.nil BT.nil)))) (BT.node (o66 P) (BT.node (o85 P) (BT.node (o117 P) (BT.node (o185 P) (BT.node (o317 P) BT.nil BT.nil) BT.nil) (BT.node (o251 P) (BT.node (o381 P) BT.nil BT.nil) BT.nil)) (BT.node (o151 P) (BT.node (o217 P) (BT.node (o349 P) BT.nil BT.nil) BT.nil) (BT.node (o283 P) BT.nil BT.nil))) (BT.node (o101 P) (BT.node (o135 P) (BT.node (o201 P) (BT.node (o333 P) BT.nil BT.nil) BT.nil) (BT.node (o267 P) BT.nil BT.nil)) (BT.node (o169 P) (BT.node (o235 P) (BT.node (o365 P) BT.nil BT.nil) BT.nil) (BT.node (o299 P) BT.nil BT.nil))))))) (BT.node (o49 P) (BT.node (boot_o_4 P) (BT.node (boot_o_8 P) (BT.node (o53 P) (BT.node (o69 P) (BT.node (o104 P) (BT.node (o172 P) (BT.node (o304 P) BT.nil BT.nil) BT.nil) (BT.node (o238 P) (BT.node (o368 P) BT.nil BT.nil) BT.nil)) (BT.node (o138 P) (BT.node (o204 P) (BT.node (o336 P) BT.nil BT.nil) BT.nil) (BT.node (o270 P) BT.nil BT.nil))) (BT.node (o88 P) (BT.node (o120 P) (BT.node (o188 P) (BT.node (o320 P) BT.nil BT.nil) BT.nil) (BT.node (o254 P) (BT.node (o384 P) BT.nil BT.nil) BT.nil)) (BT.node (o154 P) (BT.node (o220 P) (BT.node (o352 P) BT.nil BT.nil) BT.nil) (BT.node (o286 P) BT.nil BT.nil)))) (BT.node (o61 P) (BT.node (o77 P) (BT.node (o112 P) (BT.node (o180 P) (BT.node (o312 P) BT.nil BT.nil) BT.nil) (BT.node (o246 P) (BT.node (o376 P) BT.nil BT.nil) BT.nil)) (BT.node (o146 P) (BT.node (o212 P) (BT.node (o344 P) BT.nil BT.nil) BT.nil) (BT.node (o278 P) BT.nil BT.nil))) (BT.node (o96 P) (BT.node (o130 P) (BT.node (o196 P) (BT.node (o328 P) BT.nil BT.nil) BT.nil) (BT.node (o262 P) BT.nil BT.nil)) (BT.node (o162 P) (BT.node (o230 P) (BT.node (o360 P) BT.nil BT.nil) BT.nil) (BT.node (o294 P) BT.nil BT.nil))))) (BT.node (o388 P) (BT.node (o57 P) (BT.node (o73 P) (BT.node (o108 P) (BT.node (o176 P) (BT.node (o308 P) BT.nil BT.nil) BT.nil) (BT.node (o242 P) (BT.node (o372 P) BT.nil BT.nil) BT.nil)) (BT.node (o142 P) (BT.node (o208 P) (BT.node (o340 P) BT.nil BT.nil) BT.nil) (BT.node (o274 P) BT.nil BT.nil))) (BT.node (o92 P) (BT.node (o126 P) (BT.node (o192 P) (BT.node (o324 P) BT.nil BT.nil) BT.nil) (BT.node (o258 P) (BT.node (o390 P) BT.nil BT.nil) BT.nil)) (BT.node (o158 P) (BT.node (o224 P) (BT.node (o356 P) BT.nil BT.nil) BT.nil) (BT.node (o290 P) BT.nil BT.nil)))) (BT.node (o65 P) (BT.node (o84 P) (BT.node (o116 P) (BT.node (o184 P) (BT.node (o316 P) BT.nil BT.nil) BT.nil) (BT.node (o250 P) (BT.node (o380 P) BT.nil BT.nil) BT.nil)) (BT.node (o150 P) (BT.node (o216 P) (BT.node (o348 P) BT.nil BT.nil) BT.nil) (BT.node (o282 P) BT.nil BT.nil))) (BT.node (o100 P) (BT.node (o134 P) (BT.node (o200 P) (BT.node (o332 P) BT.nil BT.nil) BT.nil) (BT.node (o266 P) BT.nil BT.nil)) (BT.node (o166 P) (BT.node (o234 P) (BT.node (o364 P) BT.nil BT.nil) BT.nil) (BT.node (o298 P) BT.nil BT.nil)))))) (BT.node (boot_o_6 P) (BT.node (boot_o_10 P) (BT.node (o55 P) (BT.node (o71 P) (BT.node (o106 P) (BT.node (o174 P) (BT.node (o306 P) BT.nil BT.nil) BT.nil) (BT.node (o240 P) (BT.node (o370 P) BT.nil BT.nil) BT.nil)) (BT.node (o140 P) (BT.node (o206 P) (BT.node (o338 P) BT.nil BT.nil) BT.nil) (BT.node (o272 P) BT.nil BT.nil))) (BT.node (o90 P) (BT.node (o124 P) (BT.node (o190 P) (BT.node (o322 P) BT.nil BT.nil) BT.nil) (BT.node (o256 P) (BT.node (o386 P) BT.nil BT.nil) BT.nil)) (BT.node (o156 P) (BT.node (o222 P) (BT.node (o354 P) BT.nil BT.nil) BT.nil) (BT.node (o288 P) BT.nil BT.nil)))) (BT.node (o63 P) (BT.node (o82 P) (BT.node (o114 P) (BT.node (o182 P) (BT.node (o314 P) BT.nil BT.nil) BT.nil) (BT.node (o248 P) (BT.node (o378 P) BT.nil BT.nil) BT.nil)) (BT.node (o148 P) (BT.node (o214 P) (BT.node (o346 P) BT.nil BT.nil) BT.nil) (BT.node (o280 P) BT.nil BT.nil))) (BT.node (o98 P) (BT.node (o132 P) (BT.node (o198 P) (BT.node (o330 P) BT.nil BT.nil) BT.nil) (BT.node (o264 P) BT.nil BT.nil)) (BT.node (o164 P) (BT.node (o232 P) (BT.node (o362 P) BT.nil BT.nil) BT.nil) (BT.node (o296 P) BT.nil BT.nil))))) (BT.node (o46 P) (BT.node (o59 P) (BT.node (o81 P) (BT.node (o110 P) (BT.node (o178 P) (BT.node (o310 P) BT.nil BT.nil) BT.nil) (BT.node (o244 P) (BT.node (o374 P) BT.nil BT.nil) BT.nil)) (BT.node (o144 P) (BT.node (o210 P) (BT.node (o342 P) BT.nil BT.nil) BT.nil) (BT.node (o276 P) BT.nil BT.nil))) (BT.node (o94 P) (BT.node (o128 P) (BT.node (o194 P) (BT.node (o326 P) BT.nil BT.nil) BT.nil) (BT.node (o260 P) (BT.node (o392 P) BT.nil BT.nil) BT.nil)) (BT.node (o160 P) (BT.node (o228 P) (BT.node (o358 P) BT.nil BT.nil) BT.nil) (BT.node (o292 P) BT.nil BT.nil)))) (BT.node (o67 P) (BT.node (o86 P) (BT.node (o118 P) (BT.node (o186 P) (BT.node (o318 P) BT.nil BT.nil) BT.nil) (BT.node (o252 P) (BT.node (o382 P) BT.nil BT.nil) BT.nil)) (BT.node (o152 P) (BT.node (o218 P) (BT.node (o350 P) BT.nil BT.nil) BT.nil) (BT.node (o284 P) BT.nil BT.nil))) (BT.node (o102 P) (BT.node (o136 P) (BT.node (o202 P) (BT.node (o334 P) BT.nil BT.nil) BT.nil) (BT.node (o268 P) BT.nil BT.nil)) (BT.node (o170 P) (BT.node (o236 P) (BT.node (o366 P) BT.nil BT.nil) BT.nil) (BT.node (o300 P) BT.nil BT.nil))))))))
noncomputable def frag : Params → Frag := fun P => (nat_lit 2, (o49 P)) :: (nat_lit 3, (o387 P)) :: (nat_lit 15, (o52 P)) :: (nat_lit 17, (o54 P)) :: (nat_lit 18, (o55 P)) :: (nat_lit 20, (o57 P)) :: (nat_lit 21, (o58 P)) :: (nat_lit 22, (o59 P)) :: (nat_lit 29, (o66 P)) :: (nat_lit 31, (o68 P)) :: (nat_lit 32, (o69 P)) :: (nat_lit 34, (o71 P)) :: (nat_lit 35, (o72 P)) :: (nat_lit 36, (o73 P)) :: (nat_lit 37, (o74 P)) :: (nat_lit 38, (o81 P)) :: (nat_lit 39, (o76 P)) :: (nat_lit 42, (o82 P)) :: (nat_lit 49, (o89 P)) :: (nat_lit 50, (o90 P)) :: (nat_lit 51, (o91 P)) :: (nat_lit 54, (o94 P)) :: (nat_lit 56, (o96 P)) :: (nat_lit 57, (o97 P)) :: (nat_lit 59, (o99 P)) :: (nat_lit 60, (o100 P)) :: (nat_lit 61, (o101 P)) :: (nat_lit 63, (o103 P)) :: (nat_lit 64, (o104 P)) :: (nat_lit 66, (o106 P)) :: (nat_lit 67, (o107 P)) :: (nat_lit 68, (o108 P)) :: (nat_lit 70, (o110 P)) :: (nat_lit 71, (o111 P)) :: (nat_lit 73, (o113 P)) :: (nat_lit 74, (o114 P)) :: (nat_lit 75, (o115 P)) :: (nat_lit 77, (o117 P)) :: (nat_lit 78, (o118 P)) :: (nat_lit 80, (o120 P)) :: (nat_lit 81, (o121 P)) :: (nat_lit 82, (o124 P)) :: (nat_lit 84, (o126 P)) :: (nat_lit 85, (o127 P)) :: (nat_lit 87, (o129 P)) :: (nat_lit 88, (o130 P)) :: (nat_lit 96, (o138 P)) :: (nat_lit 97, (o139 P)) :: (nat_lit 99, (o141 P)) :: (nat_lit 100, (o142 P)) :: (nat_lit 102, (o144 P)) :: (nat_lit 103, (o145 P)) :: (nat_lit 104, (o146 P)) :: (nat_lit 106, (o148 P)) :: (nat_lit 107, (o149 P)) :: (nat_lit 109, (o151 P)) :: (nat_lit 110, (o152 P)) :: (nat_lit 111, (o153 P)) :: (nat_lit 113, (o155 P)) :: (nat_lit 114, (o156 P)) :: (nat_lit 116, (o158 P)) :: (nat_lit 117, (o159 P)) :: (nat_lit 118, (o160 P)) :: (nat_lit 119, (o161 P)) :: (nat_lit 120, (o162 P)) :: (nat_lit 121, (o163 P)) :: (nat_lit 122, (o164 P)) :: (nat_lit 132, (o176 P)) :: (nat_lit 134, (o178 P)) :: (nat_lit 135, (o179 P)) :: (nat_lit 137, (o181 P)) :: (nat_lit 138, (o182 P)) :: (nat_lit 139, (o183 P)) :: (nat_lit 141, (o185 P)) :: (nat_lit 142, (o186 P)) :: (nat_lit 144, (o188 P)) :: (nat_lit 145, (o189 P)) :: (nat_lit 146, (o190 P)) :: (nat_lit 148, (o192 P)) :: (nat_lit 149, (o193 P)) :: (nat_lit 151, (o195 P)) :: (nat_lit 152, (o196 P)) :: (nat_lit 153, (o197 P)) :: (nat_lit 155, (o199 P)) :: (nat_lit 156, (o200 P)) :: (nat_lit 158, (o202 P)) :: (nat_lit 159, (o203 P)) :: (nat_lit 160, (o204 P)) :: (nat_lit 162, (o206 P)) :: (nat_lit 163, (o207 P)) :: (nat_lit 165, (o209 P)) :: (nat_lit 166, (o210 P)) :: (nat_lit 167, (o211 P)) :: (nat_lit 168, (o212 P)) :: (nat_lit 169, (o213 P)) :: (nat_lit 170, (o214 P)) :: (nat_lit 171, (o215 P)) :: (nat_lit 174, (o218 P)) :: (nat_lit 176, (o220 P)) :: (nat_lit 177, (o221 P)) :: (nat_lit 179, (o223 P)) :: (nat_lit 180, (o224 P)) :: (nat_lit 188, (o234 P)) :: (nat_lit 190, (o236 P)) :: (nat_lit 191, (o237 P)) :: (nat_lit 193, (o239 P)) :: (nat_lit 194, (o240 P)) :: (nat_lit 195, (o241 P)) :: (nat_lit 197, (o243 P)) :: (nat_lit 198, (o244 P)) :: (nat_lit 200, (o246 P)) :: (nat_lit 201, (o247 P)) :: (nat_lit 202, (o248 P)) :: (nat_lit 204, (o250 P)) :: (nat_lit 205, (o251 P)) :: (nat_lit 207, (o253 P)) :: (nat_lit 208, (o254 P)) :: (nat_lit 209, (o255 P)) :: (nat_lit 211, (o257 P)) :: (nat_lit 212, (o258 P)) :: (nat_lit 214, (o260 P)) :: (nat_lit 215, (o261 P)) :: (nat_lit 216, (o262 P)) :: (nat_lit 218, (o264 P)) :: (nat_lit 219, (o265 P)) :: (nat_lit 221, (o267 P)) :: (nat_lit 222, (o268 P)) :: (nat_lit 223, (o269 P)) :: (nat_lit 226, (o272 P)) :: (nat_lit 227, (o273 P)) :: (nat_lit 228, (o274 P)) :: (nat_lit 230, (o276 P)) :: (nat_lit 231, (o277 P)) :: (nat_lit 233, (o279 P)) :: (nat_lit 234, (o280 P)) :: (nat_lit 235, (o281 P)) :: (nat_lit 237, (o283 P)) :: (nat_lit 238, (o284 P)) :: (nat_lit 240, (o286 P)) :: (nat_lit 241, (o287 P)) :: (nat_lit 242, (o288 P)) :: (nat_lit 244, (o290 P)) :: (nat_lit 245, (o291 P)) :: (nat_lit 247, (o293 P)) :: (nat_lit 248, (o294 P)) :: (nat_lit 249, (o295 P)) :: (nat_lit 250, (o296 P)) :: (nat_lit 251, (o297 P)) :: (nat_lit 252, (o298 P)) :: (nat_lit 253, (o299 P)) :: (nat_lit 256, (o304 P)) :: (nat_lit 258, (o306 P)) :: (nat_lit 259, (o307 P)) :: (nat_lit 261, (o309 P)) :: (nat_lit 262, (o310 P)) :: (nat_lit 263, (o311 P)) :: (nat_lit 265, (o313 P)) :: (nat_lit 266, (o314 P)) :: (nat_lit 268, (o316 P)) :: (nat_lit 269, (o317 P)) :: (nat_lit 270, (o318 P)) :: (nat_lit 272, (o320 P)) :: (nat_lit 273, (o321 P)) :: (nat_lit 275, (o323 P)) :: (nat_lit 276, (o324 P)) :: (nat_lit 277, (o325 P)) :: (nat_lit 279, (o327 P)) :: (nat_lit 280, (o328 P)) :: (nat_lit 282, (o330 P)) :: (nat_lit 283, (o331 P)) :: (nat_lit 284, (o332 P)) :: (nat_lit 286, (o334 P)) :: (nat_lit 287, (o335 P)) :: (nat_lit 289, (o337 P)) :: (nat_lit 290, (o338 P)) :: (nat_lit 291, (o339 P)) :: (nat_lit 293, (o341 P)) :: (nat_lit 294, (o342 P)) :: (nat_lit 296, (o344 P)) :: (nat_lit 297, (o345 P)) :: (nat_lit 298, (o346 P)) :: (nat_lit 300, (o348 P)) :: (nat_lit 301, (o349 P)) :: (nat_lit 303, (o351 P)) :: (nat_lit 304, (o352 P)) :: (nat_lit 305, (o353 P)) :: (nat_lit 307, (o355 P)) :: (nat_lit 308, (o356 P)) :: (nat_lit 310, (o358 P)) :: (nat_lit 311, (o359 P)) :: (nat_lit 312, (o360 P)) :: (nat_lit 315, (o363 P)) :: (nat_lit 316, (o364 P)) :: (nat_lit 317, (o365 P)) :: (nat_lit 320, (o368 P)) :: (nat_lit 321, (o369 P)) :: (nat_lit 322, (o370 P)) :: (nat_lit 324, (o372 P)) :: (nat_lit 325, (o373 P)) :: (nat_lit 327, (o375 P)) :: (nat_lit 328, (o376 P)) :: (nat_lit 329, (o377 P)) :: (nat_lit 332, (o380 P)) :: (nat_lit 333, (o381 P)) :: (nat_lit 334, (o382 P)) :: (nat_lit 337, (o385 P)) :: (nat_lit 338, (o386 P)) :: (nat_lit 339, (o389 P)) :: (nat_lit 342, (o392 P)) :: (nat_lit 343, (o393 P)) :: []
noncomputable def heap46 : Params → Heap := fun P => (Heap.mk (Array.mk [(boot_o_0 P), (boot_o_1 P), (boot_o_2 P), (boot_o_3 P), (boot_o_4 P), (boot_o_5 P), (boot_o_6 P), (boot_o_7 P), (boot_o_8 P), (boot_o_9 P), (boot_o_10 P), (o43 P), (o44 P), (o45 P), (o46 P)]) (Life.mk [] [] [] 0 [] [] Bool.false (List.toArray []) [] 0 Bool.false Bool.false Bool.false 0 [2000, 10, 10] Bool.false 0 Bool.true [] [] 0 Bool.false))
noncomputable def heap394 : Params → Heap := fun P => (Heap.mk (Array.mk [(boot_o_0 P), (boot_o_1 P), (o49 P), (o387 P), (boot_o_4 P), (boot_o_5 P), (boot_o_6 P), (boot_o_7 P), (boot_o_8 P), (boot_o_9 P), (boot_o_10 P), (o43 P), (o388 P), (o45 P), (o46 P), (o52 P), (o53 P), (o54 P), (o55 P), (o56 P), (o57 P), (o58 P), (o59 P), (o60 P), (o61 P), (o62 P), (o63 P), (o64 P), (o65 P), (o66 P), (o67 P), (o68 P), (o69 P), (o70 P), (o71 P), (o72 P), (o73 P), (o74 P), (o81 P), (o76 P), (o77 P), (o78 P), (o82 P), (o83 P), (o84 P), (o85 P), (o86 P), (o87 P), (o88 P), (o89 P), (o90 P), (o91 P), (o92 P), (o93 P), (o94 P), (o95 P), (o96 P), (o97 P), (o98 P), (o99 P), (o100 P), (o101 P), (o102 P), (o103 P), (o104 P), (o105 P), (o106 P), (o107 P), (o108 P), (o109 P), (o110 P), (o111 P), (o112 P), (o113 P), (o114 P), (o115 P), (o116 P), (o117 P), (o118 P), (o119 P), (o120 P), (o121 P), (o124 P), (o125 P), (o126 P), (o127 P), (o128 P), (o129 P), (o130 P), (o131 P), (o132 P), (o133 P), (o134 P), (o135 P), (o136 P), (o137 P), (o138 P), (o139 P), (o140 P), (o141 P), (o142 P), (o143 P), (o144 P), (o145 P), (o146 P), (o147 P), (o148 P), (o149 P), (o150 P), (o151 P), (o152 P), (o153 P), (o154 P), (o155 P), (o156 P), (o157 P), (o158 P), (o159 P), (o160 P), (o161 P), (o162 P), (o163 P), (o164 P), (o165 P), (o166 P), (o169 P), (o170 P), (o171 P), (o172 P), (o173 P), (o174 P), (o175 P), (o176 P), (o177 P), (o178 P), (o179 P), (o180 P), (o181 P), (o182 P), (o183 P), (o184 P), (o185 P), (o186 P), (o187 P), (o188 P), (o189 P), (o190 P), (o191 P), (o192 P), (o193 P), (o194 P), (o195 P), (o196 P), (o197 P), (o198 P), (o199 P), (o200 P), (o201 P), (o202 P), (o203 P), (o204 P), (o205 P), (o206 P), (o207 P), (o208 P), (o209 P), (o210 P), (o211 P), (o212 P), (o213 P), (o214 P), (o215 P), (o216 P), (o217 P), (o218 P), (o219 P), (o220 P), (o221 P), (o222 P), (o223 P), (o224 P), (o227 P), (o228 P), (o229 P), (o230 P), (o231 P), (o232 P), (o233 P), (o234 P), (o235 P), (o236 P), (o237 P), (o238 P), (o239 P), (o240 P), (o241 P), (o242 P), (o243 P), (o244 P), (o245 P), (o246 P), (o247 P), (o248 P), (o249 P), (o250 P), (o251 P), (o252 P), (o253 P), (o254 P), (o255 P), (o256 P), (o257 P), (o258 P), (o259 P), (o260 P), (o261 P), (o262 P), (o263 P), (o264 P), (o265 P), (o266 P), (o267 P), (o268 P), (o269 P), (o270 P), (o271 P), (o272 P), (o273 P), (o274 P), (o275 P), (o276 P), (o277 P), (o278 P), (o279 P), (o280 P), (o281 P), (o282 P), (o283 P), (o284 P), (o285 P), (o286 P), (o287 P), (o288 P), (o289 P), (o290 P), (o291 P), (o292 P), (o293 P), (o294 P), (o295 P), (o296 P), (o297 P), (o298 P), (o299 P), (o300 P), (o301 P), (o304 P), (o305 P), (o306 P), (o307 P), (o308 P), (o309 P), (o310 P), (o311 P), (o312 P), (o313 P), (o314 P), (o315 P), (o316 P), (o317 P), (o318 P), (o319 P), (o320 P), (o321 P), (o322 P), (o323 P), (o324 P), (o325 P), (o326 P), (o327 P), (o328 P), (o329 P), (o330 P), (o331 P), (o332 P), (o333 P), (o334 P), (o335 P), (o336 P), (o337 P), (o338 P), (o339 P), (o340 P), (o341 P), (o342 P), (o343 P), (o344 P), (o345 P), (o346 P), (o347 P), (o348 P), (o349 P), (o350 P), (o351 P), (o352 P), (o353 P), (o354 P), (o355 P), (o356 P), (o357 P), (o358 P), (o359 P), (o360 P), (o361 P), (o362 P), (o363 P), (o364 P), (o365 P), (o366 P), (o367 P), (o368 P), (o369 P), (o370 P), (o371 P), (o372 P), (o373 P), (o374 P), (o375 P), (o376 P), (o377 P), (o378 P), (o379 P), (o380 P), (o381 P), (o382 P), (o383 P), (o384 P), (o385 P), (o386 P), (o389 P), (o390 P), (o391 P), (o392 P), (o393 P)]) (Life.mk [] [] [] 0 [] [] Bool.false (List.toArray []) [] 0 Bool.false Bool.false Bool.false 0 [2000, 10, 10] Bool.false 0 Bool.true [] [] 0 Bool.false))
noncomputable abbrev pz : Pos := ⟨0, 0, 0, 0⟩
noncomputable def env : Env := { scope := pwQ.main.scope, locals := mainNs, globals := mainNs, cells := [], code := Value.ref 13, frame := some 14 }
noncomputable abbrev cdQ : Code := Code.body (behindTheImports pwQ) env
noncomputable abbrev shT (t : Params → BT) (n k : Nat) (w : World) (os : OsState) : SharedT := { tree := t w.params, n := n, life := {}, gens := Array.mk [], drawn := {}, toks := k, os := os }
noncomputable abbrev shH (h : Params → Heap) (k : Nat) (w : World) (os : OsState) : Shared := { heap := h w.params, gens := Array.mk [], drawn := {}, toks := k, os := os }
noncomputable abbrev sh0 (w : World) (os : OsState) : Shared := { heap := boot_heap w.params, gens := Array.mk [], drawn := boot_drawn, toks := boot_toks, os := os }
noncomputable abbrev ann : Option Value := some (Value.ref 6)
theorem run_pre (w : World) (os : OsState) :
    topGo treeTable pwQ w 11 ann 12 (sh0 w os) (topStub pwQ) = some (shH heap46 187 w os, { cur := denote treeTable cdQ, code := cdQ, pos := pz, stack := [topFrame pz] }) := by
  rw [Fast.te15667345088766844465, Fast.te14364793385576792824, Fast.te11892475500146522536]; kernel_rfl
theorem run_block (w : World) (os : OsState) :
    segRun treeTable pwQ w 11 ann 1 1 (shH heap46 187 w os) (blockOf (behindTheImports pwQ) env cdQ pz [topFrame pz]) = some (Flow.next, (shT tree47 15 187 w os).abs, cdQ, pz) := by
  rw [Fast.te14374325043358763698, Fast.te14364793385576792824]; kernel_rfl
theorem run49 (w : World) (os : OsState) :
    segRunT treeTable pwQ w 11 ann 1 267 (shT tree47 15 187 w os) (piecesOf sts49 env cdQ ⟨0, 0, 0, 0⟩ [topFrame pz]) = some (Flow.next, shT tree78 42 225 w os, cdQ, ⟨5, 0, 8, 30⟩) := by
  rw [Fast.te10110043849684766642, Fast.te14364793385576792824]; kernel_rfl
theorem run79 (w : World) (os : OsState) :
    segRunT treeTable pwQ w 11 ann 1 374 (shT tree78 42 225 w os) (piecesOf sts79 env cdQ ⟨5, 0, 8, 30⟩ [topFrame pz]) = some (Flow.next, shT tree121 82 284 w os, cdQ, ⟨22, 0, 27, 67⟩) := by
  rw [Fast.te10110043849684766642, Fast.te14364793385576792824]; kernel_rfl
theorem run122 (w : World) (os : OsState) :
    segRunT treeTable pwQ w 11 ann 1 325 (shT tree121 82 284 w os) (piecesOf sts122 env cdQ ⟨22, 0, 27, 67⟩ [topFrame pz]) = some (Flow.next, shT tree166 125 344 w os, cdQ, ⟨30, 0, 43, 76⟩) := by
  rw [Fast.te10110043849684766642, Fast.te14364793385576792824]; kernel_rfl
theorem run167 (w : World) (os : OsState) :
    segRunT treeTable pwQ w 11 ann 1 383 (shT tree166 125 344 w os) (piecesOf sts167 env cdQ ⟨30, 0, 43, 76⟩ [topFrame pz]) = some (Flow.next, shT tree224 181 415 w os, cdQ, ⟨71, 0, 72, 49⟩) := by
  rw [Fast.te10110043849684766642, Fast.te14364793385576792824]; kernel_rfl
theorem run225 (w : World) (os : OsState) :
    segRunT treeTable pwQ w 11 ann 1 494 (shT tree224 181 415 w os) (piecesOf sts225 env cdQ ⟨71, 0, 72, 49⟩ [topFrame pz]) = some (Flow.next, shT tree301 256 525 w os, cdQ, ⟨73, 0, 159, 20⟩) := by
  rw [Fast.te10110043849684766642, Fast.te14364793385576792824]; kernel_rfl
theorem run302 (w : World) (os : OsState) :
    segRunT treeTable pwQ w 11 ann 1 397 (shT tree301 256 525 w os) (piecesOf sts302 env cdQ ⟨73, 0, 159, 20⟩ [topFrame pz]) = some (Flow.next, shT tree386 339 636 w os, cdQ, ⟨239, 0, 252, 78⟩) := by
  rw [Fast.te10110043849684766642, Fast.te14364793385576792824]; kernel_rfl
theorem run387 (w : World) (os : OsState) :
    segRunT treeTable pwQ w 11 ann 1 27 (shT tree386 339 636 w os) (piecesOf sts387 env cdQ ⟨239, 0, 252, 78⟩ [topFrame pz]) = some (Flow.next, shT tree393 344 642 w os, cdQ, ⟨253, 0, 276, 98⟩) := by
  rw [Fast.te10110043849684766642, Fast.te14364793385576792824]; kernel_rfl
theorem run_fin (w : World) (os : OsState) :
    topRun treeTable pwQ w 11 ann 2 (shT tree393 344 642 w os).abs { cur := doneF Flow.next, code := cdQ, pos := ⟨253, 0, 276, 98⟩, stack := [topFrame pz] } = some (shH heap394 642 w os) := by
  rw [Fast.te14082659384304107361, Fast.te14364793385576792824]; kernel_rfl
theorem body_is : behindTheImports pwQ = sts49 ++ (sts79 ++ (sts122 ++ (sts167 ++ (sts225 ++ (sts302 ++ (sts387 ++ [])))))) := by kernel_rfl
theorem run_all (w : World) (os : OsState) : topRun treeTable pwQ w 11 ann (Nat.add 12 (Nat.add 1 (Nat.add 267 (Nat.add 374 (Nat.add 325 (Nat.add 383 (Nat.add 494 (Nat.add 397 (Nat.add 27 2))))))))) (sh0 w os) (topStub pwQ) = some (shH heap394 642 w os) := by
  refine go_top (run_pre w os) ?_
  have hb : denote treeTable cdQ = (blockStart (behindTheImports pwQ) env).wrap (fun _ => (execs (behindTheImports pwQ) env).wrap doneF (leaveH env) id id) .raise id id := body_wrap _
  refine piece_block (run_block w os) ?_
  have e : restOf (behindTheImports pwQ) env cdQ pz [topFrame pz] = restOf (sts49 ++ (sts79 ++ (sts122 ++ (sts167 ++ (sts225 ++ (sts302 ++ (sts387 ++ []))))))) env cdQ pz [topFrame pz] := congrArg (fun b => restOf b env cdQ pz [topFrame pz]) body_is
  rw [e]
  refine piece_app (segRun_of (run49 w os)) (piece_app (segRun_of (run79 w os)) (piece_app (segRun_of (run122 w os)) (piece_app (segRun_of (run167 w os)) (piece_app (segRun_of (run225 w os)) (piece_app (segRun_of (run302 w os)) (piece_app (segRun_of (run387 w os)) (run_fin w os)))))))
noncomputable def asK : List Addr := [2, 3, 15, 17, 18, 20, 21, 22, 29, 31, 32, 34, 35, 36, 37, 38, 39, 42, 49, 50, 51, 54, 56, 57, 59, 60, 61, 63, 64, 66, 67, 68, 70, 71, 73, 74, 75, 77, 78, 80, 81, 82, 84, 85, 87, 88, 96, 97, 99, 100, 102, 103, 104, 106, 107, 109, 110, 111, 113, 114, 116, 117, 118, 119, 120, 121, 122, 132, 134, 135, 137, 138, 139, 141, 142, 144, 145, 146, 148, 149, 151, 152, 153, 155, 156, 158, 159, 160, 162, 163, 165, 166, 167, 168, 169, 170, 171, 174, 176, 177, 179, 180, 188, 190, 191, 193, 194, 195, 197, 198, 200, 201, 202, 204, 205, 207, 208, 209, 211, 212, 214, 215, 216, 218, 219, 221, 222, 223, 226, 227, 228, 230, 231, 233, 234, 235, 237, 238, 240, 241, 242, 244, 245, 247, 248, 249, 250, 251, 252, 253, 256, 258, 259, 261, 262, 263, 265, 266, 268, 269, 270, 272, 273, 275, 276, 277, 279, 280, 282, 283, 284, 286, 287, 289, 290, 291, 293, 294, 296, 297, 298, 300, 301, 303, 304, 305, 307, 308, 310, 311, 312, 315, 316, 317, 320, 321, 322, 324, 325, 327, 328, 329, 332, 333, 334, 337, 338, 339, 342, 343]
theorem asK_is : ∀ P, asK = (frag P).map (·.1) := fun _ => by kernel_rfl
noncomputable abbrev hk : Hook := kmHook frag asK asK_is [313, 306, 340]
noncomputable abbrev Xt : Shared → Bool := fun s => xlAt view [(Str.ofString "ALL", WData.int 4294967295)] s && recOk (RowW.records PySem.Challenge.rw_pf0397_01.row.toRowW) s
noncomputable abbrev sF (w : World) (os : OsState) : Shared := shH heap394 642 w os
theorem look_top (w : World) (os : OsState) :
    (staticsOk (importedModules pwQ.main.body) (boot_heap w.params) (heap394 w.params) && namesBound pwQ (heap394 w.params) && gensDone (sF w os) && laidKept (boot_heap w.params) (heap394 w.params)) = true := by
  rw [Fast.te5923862056798008813]; kernel_rfl
theorem look1 (w : World) (os : OsState) :
    seen ((recsOf view).map (·.name)) (ownsOf view) [] { sF w os with gens := #[] } = expectedOf view := by
  rw [Fast.te5160383126252970620, R.mapR_eq, Fast.te3399658132070893891, Fast.te5991557255702980513]; kernel_rfl
theorem look2 (w : World) (os : OsState) :
    (sF w os).heap.bltView = bltViewBooted := by
  kernel_rfl
theorem look3 (w : World) (os : OsState) :
    ((sF w os).heap.keysOk (looseW view [(Str.ofString "ALL")]) ((recsOf view).map (·.name)) ((litsOf view).map (·.1)) ((clssOf view (looseW view [(Str.ofString "ALL")])).map (·.name)) && (sF w os).heap.accountedOkI (importedModules pwQ.main.body) && (sF w os).heap.isNs mainGlobals && (sF w os).heap.isNs builtinsNs && tablesOk view (sF w os).heap && Xt (sF w os) && (if true then (sF w os).gens.size == 0 else !leftWithCleanup (sF w os).gens)) = true := by
  rw [Fast.te10880121769531294198, Fast.te821141287760084731, R.mapR_eq, Fast.te3399658132070893891, Fast.te7409074990110511671, Fast.te13664370479719496447, Fast.te14722251495701143533, Fast.te5923862056798008813, Fast.te10994771534591457954]; kernel_rfl
theorem look4 (w : World) (os : OsState) :
    tabsOk view (sF w os) = true := by
  rw [Fast.te479339242167458305]; kernel_rfl
theorem look5 (w : World) (os : OsState) :
    pinSeenD view (drecsOf view) (sF w os) = pinGoodD (drecsOf view) := by
  rw [Fast.te16090120013241838585, Fast.te3247288618530077131]; kernel_rfl
theorem look6 (w : World) (os : OsState) :
    plainSeenE view (looseW view [(Str.ofString "ALL")]) (sF w os) = plainGoodE view (looseW view [(Str.ofString "ALL")]) := by
  rw [Fast.te2386780881361962483, Fast.te821141287760084731]; kernel_rfl
theorem look7 (w : World) (os : OsState) :
    plainSeenD view [(Str.ofString "ALL")] (sF w os) = plainGoodD view [(Str.ofString "ALL")] := by
  rw [Fast.te11698064438423848299]; kernel_rfl
theorem look8 (w : World) (os : OsState) :
    wideSeen view (sF w os) = wideGood view := by
  rw [Fast.te7317090234206586261]; kernel_rfl
theorem look9 (w : World) (os : OsState) :
    clsSeenW view [(Str.ofString "ALL")] (sF w os) = clsGoodW view [(Str.ofString "ALL")] := by
  rw [Fast.te7369524293546568484]; kernel_rfl
theorem look_open (w : World) (os : OsState) :
    openSeen view [(Str.ofString "ALL")] (importedModules pwQ.main.body) Xt true (sF w os) = openGood view [(Str.ofString "ALL")] := by
  exact looks_pair (look1 w os) (looks_pair (look2 w os) (looks_pair (look3 w os) (looks_pair (look4 w os) (looks_pair (look5 w os) (looks_pair (look6 w os) (looks_pair (look7 w os) (looks_pair (look8 w os) (look9 w os))))))))
theorem look_hook (w : World) (os : OsState) :
    Hook.obs hk (sF w os) = Hook.val hk w := by
  kernel_rfl
theorem look_size (w : World) :
    ((boot_heap w.params).isNs mainGlobals && (Array.mk [] : Array GenState).size == 0, (boot_heap w.params).objs.size, (boot_heap w.params).nsMap mainGlobals "__annotations__") = (true, 11, ann) := by
  rw [Fast.te8920871248978507458]; kernel_rfl
theorem boots (w : World) : (fencedOpening treeTable pwQ w 4646).map (fun s => (s.heap, s.gens, s.drawn, s.toks)) = some (boot_heap w.params, Array.mk [], boot_drawn, boot_toks) :=
  boot_open (by kernel_rfl) (by kernel_rfl) (fun s => by kernel_rfl) w
theorem left : LeftO PySem.Challenge.rw_pf0397_01.row.toRowW.prog view [Str.ofString "ALL"] Xt (Hook.obs hk) (Hook.val hk) 4646 :=
  LeftO.of_pieces (p := pwQ) (H₀ := boot_heap) (H₁ := heap394) (gs₀ := Array.mk []) (gs₁ := Array.mk []) (d₀ := boot_drawn) (d₁ := {}) (k₀ := boot_toks) (k₁ := 642) (m₀ := 11) (ann := ann)
    boots look_size run_all (by kernel_rfl) (fun w => funext fun os => looks_pair (look_top w os) (looks_pair (look_open w os) (look_hook w os)))
theorem law_ok : PySem.Challenge.rw_pf0397_01.wellSaid = true := by
  rw [Fast.te9446332074065402090]; kernel_rfl
theorem hd_ok : (chainsOk view && opensWell PySem.Challenge.rw_pf0397_01.row.toRowW.prog && (frees PySem.Challenge.rw_pf0397_01.row.toRowW && PySem.Challenge.rw_pf0397_01.row.toRowW.within.isEmpty)) = true := by decide +kernel
theorem hd_bare : PySem.Challenge.rw_pf0397_01.row.toRowW.prog.bare := ⟨rfl, rfl, rfl, rfl, rfl, by decide +kernel⟩
theorem hd_wit : PySem.Challenge.rw_pf0397_01.row.toRowW.promised := by w_witness2
theorem law_def : defOf view (Str.ofString "law") = some (⟨Str.ofString "law", p38, b38, s38, ⟨253, 0, 276, 98⟩⟩, []) := by kernel_rfl
theorem law_the : PySem.Challenge.rw_pf0397_01.row.toRowW.prog.theDef (Str.ofString "law") = some (p38, b38, s38) := by kernel_rfl
theorem hd (walk : WalkO view [Str.ofString "ALL"] (XL view [(Str.ofString "ALL", WData.int 4294967295)]) (Hook.says (kmHook frag asK asK_is [313, 306, 340])) PySem.Challenge.rw_pf0397_01.row.toRowW ⟨Str.ofString "law", p38, b38, s38, ⟨253, 0, 276, 98⟩⟩ [] fun f vs => PySem.call f vs) : PySem.Challenge.rw_pf0397_01.Holds := by
  refine holds_law law_ok fun said => ?_
  exact holds_open (q := view) (loose := [Str.ofString "ALL"]) (Xt := Xt) (XP := XL view [(Str.ofString "ALL", WData.int 4294967295)]) (Yf := Hook.obs hk) (Ya := Hook.val hk) (YP := Hook.says hk) (N := 4646) left (Hook.of hk) (Hook.keeps hk)
    (fun s e => xl_of s (Bool.and_eq_true_iff.mp e).1) XL.keeps law_def law_the (by kernel_rfl) (fun s e => recFacts_of (Bool.and_eq_true_iff.mp e).2) (by kernel_rfl) said hd_ok hd_bare hd_wit walk

noncomputable abbrev Led := List (Addr × Obj)

theorem fill0 : frag = frag ∧ PySem.Challenge.rw_pf0397_01 = PySem.Challenge.rw_pf0397_01 := by
  k_fill
  exact ⟨rfl, rfl⟩

/-- the ledger with the entry of `d` changed -/
noncomputable def updL (d : Addr) (o : Obj) (news : Led) : Led := Classical.choose (⟨news.map fun p => if p.1 = d then (d, o) else p, rfl⟩ : ∃ l : Led, l = news.map fun p => if p.1 = d then (d, o) else p)
theorem updL_eq (d : Addr) (o : Obj) (news : Led) : updL d o news = news.map fun p => if p.1 = d then (d, o) else p := Classical.choose_spec (⟨_, rfl⟩ : ∃ l : Led, l = news.map fun p => if p.1 = d then (d, o) else p)
theorem mem_updL {d : Addr} {o : Obj} {news : Led} {q : Addr × Obj} : q ∈ updL d o news ↔ ∃ p ∈ news, (if p.1 = d then (d, o) else p) = q := by rw [updL_eq]; exact List.mem_map

theorem mem_updL_self {d : Addr} {o o' : Obj} {news : Led} (h : (d, o) ∈ news) : (d, o') ∈ updL d o' news :=
  mem_updL.mpr ⟨_, h, by simp⟩
theorem mem_updL_ne {d : Addr} {o' : Obj} {news : Led} {q : Addr × Obj} (h : q ∈ news) (hn : q.1 ≠ d) : q ∈ updL d o' news :=
  mem_updL.mpr ⟨_, h, by simp [hn]⟩
theorem of_mem_updL {d : Addr} {o' : Obj} {news : Led} {q : Addr × Obj} (h : q ∈ updL d o' news) : q = (d, o') ∨ (q ∈ news ∧ q.1 ≠ d) := by
  obtain ⟨p, hp, e⟩ := mem_updL.mp h
  by_cases hd : p.1 = d
  · left; simpa [hd] using e.symm
  · right
    have : p = q := by simpa [hd] using e
    subst this; exact ⟨hp, hd⟩
theorem updL_addr {d : Addr} {o' : Obj} {news : Led} : (updL d o' news).map (·.1) = news.map (·.1) := by
  simp only [updL_eq, List.map_map]
  refine List.map_congr_left fun p _ => ?_
  simp only [Function.comp_apply]
  split <;> simp_all
theorem updL_lt {d x : Addr} {o' : Obj} {news : Led} (h : ∀ p ∈ news, p.1 < x) : ∀ p ∈ updL d o' news, p.1 < x := fun p hp => by
  have : p.1 ∈ (updL d o' news).map (·.1) := List.mem_map_of_mem hp
  rw [updL_addr] at this
  obtain ⟨q, hq, e⟩ := List.mem_map.mp this
  exact e ▸ h q hq

noncomputable def offL (d : Addr) (news : Led) : Led := news.filter fun p => decide (p.1 ≠ d)
theorem toHead {h₀ h : Heap} {L d : Addr} {o : Obj} {news : Led} (N : News h₀ L h news) (hm : (d, o) ∈ news) : News h₀ L h ((d, o) :: offL d news) := fun q hq => by
  rcases List.mem_cons.mp hq with rfl | hq
  · exact N _ hm
  · exact N _ (List.mem_filter.mp hq).1
theorem offL_ne {d : Addr} {news : Led} : ∀ p ∈ offL d news, p.1 ≠ d := fun p hp => by
  simpa using (List.mem_filter.mp hp).2
theorem ofHead {h₀ h : Heap} {L d : Addr} {o : Obj} {news : Led} (N : News h₀ L h ((d, o) :: offL d news)) : News h₀ L h (updL d o news) := fun q hq => by
  rcases of_mem_updL hq with rfl | ⟨h1, h2⟩
  · exact N _ (.head _)
  · exact N _ (.tail _ (List.mem_filter.mpr ⟨h1, by simpa using h2⟩))

theorem set_dictU {prog : Program} {w : World} {A : Around} {E : Value → Shared → Prop} {s : Shared} {K : Frag} {x C dx L : Addr} {h₀ : Heap} {m : Str → Option Value} {news : Led} {sl : Array (Option Value)} {es es' : List DictEntry} {n n' : Nat} {name : Str} {v : Value}
    {Q : Unit → Shared → Prop} (F : Fr h₀ L s.heap m) (X₀ : K.In h₀) (N : News h₀ L s.heap news) (h1 : (x, (⟨.ref C, some dx, .plain, sl⟩ : Obj)) ∈ news) (h2 : (dx, dictOf es n) ∈ news)
    (hs : findIn K (.ref C) "__setattr__" = some (some (.builtin "object.__setattr__"))) (hp : plainOver K C = true) (ht : takerIn K C name = some none) (hh : hasDictIn K C = true) (hl : (getL name es).isSome = true)
    (e : (putL name (PyData.keyHash w.params name) (.str name (s.toks + 1)) v es, putN name es n) = (es', n')) (hz : es'.length ≤ 1000)
    (h : ∀ h', Fr h₀ L h' m → News h₀ L h' (updL dx (dictOf es' n') news) → Q () { s with heap := h', toks := s.toks + 2 }) :
    wpAny (model prog w) A (setAttr (.ref x) name v) Q E s :=
  set_dict F X₀ (toHead N h2) (InstAt.of_news N h1 h2) rfl hs hp ht hh hl e (.head offL_ne) hz fun h' F' N' => h h' F' (ofHead N')

/-- what a call of `f` with `vs` gives back over any frame that bears the ledger `news` -/
noncomputable def Spec (prog : Program) (w : World) (f : Addr) (D U : Nat) (vs : List Value) (news : Led) (Φ : Led → Value → Led → Prop) : Prop :=
  ∀ (p : Program) (loose : List Str) (mean : ExcName → Option Value) (mg mb : Str → Option Value)
    (dp un : Nat) (gd : Option (List Code)) (cn : Str) (cs : Scope) (a : Addr) (ccd : Value) (cl : List (Str × Addr)) (outer : List Env) (A₀ : Around) (base h₀ : Heap) (L : Addr) (m : Str → Option Value) (s : Shared) (Q E : Value → Shared → Prop),
    Below A₀ base outer h₀ → Fr h₀ L s.heap m → (frag w.params).In h₀ → News h₀ L s.heap news → Top p loose mean mg mb h₀ → cs.kind = .function →
    dp + D < recursionLimit → un + U < cLine →
    (∀ v news' h' tk', Fr h₀ L h' m → News h₀ L h' news' → Φ news v news' → Q v { s with heap := h', toks := tk' }) →
    wpAny (model prog w) (ktrTop dp un gd cn cs L a ccd cl outer) (call (.ref f) vs) Q E s

theorem Spec.use {prog : Program} {w : World} {f : Addr} {D U : Nat} {vs : List Value} {news : Led} {Φ : Led → Value → Led → Prop} (S : Spec prog w f D U vs news Φ)
    {p : Program} {loose : List Str} {mean : ExcName → Option Value} {mg mb : Str → Option Value}
    {dp un : Nat} {gd : Option (List Code)} {cn : Str} {cs : Scope} {a : Addr} {ccd : Value} {cl : List (Str × Addr)} {outer : List Env} {A₀ : Around} {base h₀ : Heap} {L : Addr} {m : Str → Option Value} {s : Shared} {Q E : Value → Shared → Prop}
    (B : Below A₀ base outer h₀) (F : Fr h₀ L s.heap m) (X : (frag w.params).In h₀) (N : News h₀ L s.heap news) (T : Top p loose mean mg mb h₀) (hk : cs.kind = .function)
    (hD : dp + D < recursionLimit) (hU : un + U < cLine)
    (ret : ∀ v news' h' tk', Fr h₀ L h' m → News h₀ L h' news' → Φ news v news' → Q v { s with heap := h', toks := tk' }) :
    wpAny (model prog w) (ktrTop dp un gd cn cs L a ccd cl outer) (call (.ref f) vs) Q E s :=
  S p loose mean mg mb dp un gd cn cs a ccd cl outer A₀ base h₀ L m s Q E B F X N T hk hD hU ret
/-- the same with the walk's goal as a letter while the answer's parts are taken apart -/
theorem Spec.use2 {prog : Program} {w : World} {f : Addr} {D U : Nat} {vs : List Value} {news : Led} {Φ : Led → Value → Led → Prop}
    {p : Program} {loose : List Str} {mean : ExcName → Option Value} {mg mb : Str → Option Value}
    {dp un : Nat} {gd : Option (List Code)} {cn : Str} {cs : Scope} {a : Addr} {ccd : Value} {cl : List (Str × Addr)} {outer : List Env} {A₀ : Around} {base h₀ : Heap} {L : Addr} {m : Str → Option Value} {hp : Heap} {gn} {dw} {tk₀ : Nat} {os} {Q E : Value → Shared → Prop}
    (B : Below A₀ base outer h₀) (F : Fr h₀ L hp m) (X : (frag w.params).In h₀) (N : News h₀ L hp news) (T : Top p loose mean mg mb h₀) (hk : cs.kind = .function) (S : Spec prog w f D U vs news Φ)
    (hD : dp + D < recursionLimit) (hU : un + U < cLine)
    (ret : ∀ (R : Value → Led → Heap → Nat → Prop) (nw : Led), news = nw → (∀ v n h tk, Q v ⟨h, gn, dw, tk, os⟩ → R v n h tk) → ∀ v n h tk, Fr h₀ L h m → News h₀ L h n → Φ nw v n → R v n h tk) :
    wpAny (model prog w) (ktrTop dp un gd cn cs L a ccd cl outer) (call (.ref f) vs) Q E ⟨hp, gn, dw, tk₀, os⟩ :=
  S.use B (s := ⟨hp, gn, dw, tk₀, os⟩) F X N T hk hD hU fun v n h tk F' N' P => ret (fun v _ h tk => Q v ⟨h, gn, dw, tk, os⟩) news rfl (fun _ _ _ _ x => x) v n h tk F' N' P
/-- what becomes of a statement's end: the rest of the block -/
noncomputable def ExK (M : Model) (A : Around) (rest : List Stmt) (env : Env) (Q : Flow → Shared → Prop) (E : Value → Shared → Prop) : Flow → Shared → Prop := fun f s' => match f with | .next => wpAny M A (execs rest env) Q E s' | f => Q f s'
section
variable {M : Model} {A : Around} {rest : List Stmt} {st : Stmt} {env : Env} {Q : Flow → Shared → Prop} {E : Value → Shared → Prop} {s : Shared} {v : Value}
theorem execs_consK (h : wpAny M A (exec st env) (ExK M A rest env Q E) E s) : wpAny M A (execs (st :: rest) env) Q E s :=
  wpAny_execs_cons (wpAny_mono h (fun f s' h' => by cases f <;> exact h') fun _ _ h' => h')
theorem ExK.next (h : wpAny M A (execs rest env) Q E s) : ExK M A rest env Q E .next s := h
theorem ExK.ret (h : Q (.ret v) s) : ExK M A rest env Q E (.ret v) s := h
theorem ExK.brk (h : Q .brk s) : ExK M A rest env Q E .brk s := h
theorem ExK.cont (h : Q .cont s) : ExK M A rest env Q E .cont s := h
end
/-- what becomes of a call's answer -/
noncomputable def RQ (Q E : Value → Shared → Prop) : Result → Shared → Prop := fun r s' => match r with | .ok (.ret v) => Q v s' | .ok _ => False | .error e => E e s'
theorem leaveS {h₀ g : Heap} {L L' : Addr} {m m' : Str → Option Value} {news' : Led} {Q E : Value → Shared → Prop} {v : Value} {hp : Heap} {gn} {dw} {tk : Nat} {os} (F' : Fr g L' hp m') (N' : News g L' hp news')
    (k : Fr h₀ L hp m → News h₀ L hp news' → Q v ⟨hp, gn, dw, tk, os⟩) : LeaveK h₀ L m g (RQ Q E) v ⟨hp, gn, dw, tk, os⟩ := ⟨L', m', news', F', N', k⟩
/-- a frame is entered: the state by its parts, the marks drawn as a letter -/
theorem code_defS {prog : Program} {w : World} {A : Around} {A₀ : Around} {base h₀ : Heap} {L : Addr} {m : Str → Option Value} {K : Frag} {p : Program} {loose : List Str} {mean : ExcName → Option Value} {mg mb : Str → Option Value} {news : Led}
    {hp : Heap} {gn} {dw} {tk₀ : Nat} {os} {env : Env} {outer : List Env} {Q E : Value → Shared → Prop} {name qual : Str} {params : Arguments} {body : List Stmt} {scope : Scope} {dV kV doc pm cdv ct oc : Value} {an od : Option Addr} {osl : Array (Option Value)} {f : Addr} {vs : List Value} {binds : List (Str × Value)}
    (B : Below A₀ base outer h₀) (F : Fr h₀ L hp m) (X₀ : K.In h₀) (N : News h₀ L hp news) (T : Top p loose mean mg mb h₀) (hA : A.frames = some (env :: outer)) (hf : env.frame = some L) (hke : env.scope.kind = .function)
    (ho : K.lookup f = some ⟨oc, od, .func (fnOf name qual params body scope dV kV doc pm an cdv ct), osl⟩) (hcd : codeIn K cdv qual = true) (hroom : A.depth < recursionLimit)
    (hbind : BindsTo ⟨hp, gn, dw, tk₀, os⟩ (fnOf name qual params body scope dV kV doc pm an cdv ct) ⟨vs, []⟩ binds) (hloc : ∀ y ∈ binds, scope.names.lookup y.1 = some .local)
    (h : ∀ g L' h₁ tk, Fr h₀ L g m → Fr g L' h₁ (fun y => binds.reverse.lookup y) → News g L' h₁ news → Below A base (env :: outer) g → K.In g → Top p loose mean mg mb g →
      wpAny (model prog w) (A.deeper (envOf qual scope L' f cdv)) (execs body (envOf qual scope L' f cdv))
        (fun fl s' => LeaveK h₀ L m g (RQ Q E) (match fl with | .ret v => v | _ => .none) s')
        (fun e s' => wpAny (model prog w) (A.deeper (envOf qual scope L' f cdv)) (leaving (envOf qual scope L' f cdv) e) (fun _ s'' => E e s'') (fun e' s'' => E e' s'') s')
        ⟨h₁, gn, dw, tk, os⟩)
    (hco : scope.isCoroutine = false) (hgen : scope.isGenerator = false) (hk : scope.kind = .function)
    (hcell : ∀ x ∈ scope.names, x.2 ≠ .cell) : wpAny (model prog w) A (call (.ref f) vs) Q E ⟨hp, gn, dw, tk₀, os⟩ :=
  wpAny_call (code_def (R := RQ Q E) B F X₀ N T hA hf hke ho hcd hroom hbind hloc (fun g L' h₁ => h g L' h₁ _) hco hgen hk hcell)
/-- a frame is entered: the state by its parts, the marks drawn as a letter -/
theorem code_defR {prog : Program} {w : World} {A : Around} {A₀ : Around} {base h₀ : Heap} {L : Addr} {m : Str → Option Value} {K : Frag} {p : Program} {loose : List Str} {mean : ExcName → Option Value} {mg mb : Str → Option Value} {news : Led}
    {hp : Heap} {gn} {dw} {tk₀ : Nat} {os} {env : Env} {outer : List Env} {R : Result → Shared → Prop} {name qual : Str} {params : Arguments} {body : List Stmt} {scope : Scope} {dV kV doc pm cdv ct oc : Value} {an od : Option Addr} {osl : Array (Option Value)} {f : Addr} {vs : List Value} {binds : List (Str × Value)}
    (B : Below A₀ base outer h₀) (F : Fr h₀ L hp m) (X₀ : K.In h₀) (N : News h₀ L hp news) (T : Top p loose mean mg mb h₀) (hA : A.frames = some (env :: outer)) (hf : env.frame = some L) (hke : env.scope.kind = .function)
    (ho : K.lookup f = some ⟨oc, od, .func (fnOf name qual params body scope dV kV doc pm an cdv ct), osl⟩) (hcd : codeIn K cdv qual = true) (hroom : A.depth < recursionLimit)
    (hbind : BindsTo ⟨hp, gn, dw, tk₀, os⟩ (fnOf name qual params body scope dV kV doc pm an cdv ct) ⟨vs, []⟩ binds) (hloc : ∀ y ∈ binds, scope.names.lookup y.1 = some .local)
    (h : ∀ g L' h₁ tk, Fr h₀ L g m → Fr g L' h₁ (fun y => binds.reverse.lookup y) → News g L' h₁ news → Below A base (env :: outer) g → K.In g → Top p loose mean mg mb g →
      wpAny (model prog w) (A.deeper (envOf qual scope L' f cdv)) (execs body (envOf qual scope L' f cdv))
        (fun fl s' => LeaveK h₀ L m g R (match fl with | .ret v => v | _ => .none) s')
        (fun e s' => wpAny (model prog w) (A.deeper (envOf qual scope L' f cdv)) (leaving (envOf qual scope L' f cdv) e) (fun _ s'' => R (.error e) s'') (fun e' s'' => R (.error e') s'') s')
        ⟨h₁, gn, dw, tk, os⟩)
    (hco : scope.isCoroutine = false) (hgen : scope.isGenerator = false) (hk : scope.kind = .function)
    (hcell : ∀ x ∈ scope.names, x.2 ≠ .cell) : codeAny (model prog w) A (.call (.ref f) ⟨vs, []⟩) R ⟨hp, gn, dw, tk₀, os⟩ :=
  code_def (R := R) B F X₀ N T hA hf hke ho hcd hroom hbind hloc (fun g L' h₁ => h g L' h₁ _) hco hgen hk hcell
theorem bindL_lookup (k : Str → Option NameKind) : ∀ (bs : List (Str × Value)) (m : Str → Option Value) (y : Str), bindL k bs m y = ((bs.filter fun z => decide (k z.1 = some .local)).reverse.lookup y).or (m y)
  | [], m, y => rfl
  | (n, v) :: r, m, y => by
    unfold bindL
    rw [bindL_lookup k r]
    by_cases h : k n = some .local
    · rw [if_pos h, List.filter_cons_of_pos (by simpa using h), List.reverse_cons, List.lookup_append]
      cases (List.lookup y (List.filter (fun z => decide (k z.1 = some .local)) r).reverse) with
      | some z => rfl
      | none =>
        by_cases e : y = n
        · subst e; simp
        · have e' : (y == n) = false := by simpa using e
          simp [e, List.lookup, e']
    · rw [if_neg h, List.filter_cons_of_neg (by simpa using h)]
theorem code_defCS {prog : Program} {w : World} {A : Around} {A₀ : Around} {base h₀ : Heap} {L : Addr} {m : Str → Option Value} {K : Frag} {p : Program} {loose : List Str} {mean : ExcName → Option Value} {mg mb : Str → Option Value} {news : Led}
    {hp : Heap} {gn} {dw} {tk₀ : Nat} {os} {env : Env} {outer : List Env} {Q E : Value → Shared → Prop} {name qual : Str} {params : Arguments} {body : List Stmt} {scope : Scope} {dV kV doc pm cdv ct oc : Value} {an od : Option Addr} {osl : Array (Option Value)} {f : Addr} {vs : List Value} {binds lm : List (Str × Value)}
    (B : Below A₀ base outer h₀) (F : Fr h₀ L hp m) (X₀ : K.In h₀) (N : News h₀ L hp news) (T : Top p loose mean mg mb h₀) (hA : A.frames = some (env :: outer)) (hf : env.frame = some L) (hke : env.scope.kind = .function)
    (ho : K.lookup f = some ⟨oc, od, .func (fnOf name qual params body scope dV kV doc pm an cdv ct), osl⟩) (hcd : codeIn K cdv qual = true) (hroom : A.depth < recursionLimit)
    (hbind : BindsTo ⟨hp, gn, dw, tk₀, os⟩ (fnOf name qual params body scope dV kV doc pm an cdv ct) ⟨vs, []⟩ binds) (hlm : (binds.filter fun z => decide (scope.names.lookup z.1 = some .local)) = lm)
    (hkind : (binds.all fun y => scope.names.lookup y.1 == some .local || scope.names.lookup y.1 == some .cell) = true)
    (hnd : ((cellsFrom 0 scope.names []).map (·.1)).Nodup)
    (h : ∀ g L' h₁ tk cells, Fr h₀ L g m → Fr g L' h₁ (fun y => lm.reverse.lookup y) → News g L' h₁ (cells ++ news) →
      CellsAre (bindC (envOfC qual scope L' f cdv).kindOf binds fun _ => none) (cellsFrom (L' + 1) scope.names []) cells → Below A base (env :: outer) g → K.In g → Top p loose mean mg mb g → (∀ p ∈ news, p.1 < L') →
      wpAny (model prog w) (A.deeper (envOfC qual scope L' f cdv)) (execs body (envOfC qual scope L' f cdv))
        (fun fl s' => LeaveK h₀ L m g (RQ Q E) (match fl with | .ret v => v | _ => .none) s')
        (fun e s' => wpAny (model prog w) (A.deeper (envOfC qual scope L' f cdv)) (leaving (envOfC qual scope L' f cdv) e) (fun _ s'' => E e s'') (fun e' s'' => E e' s'') s')
        ⟨h₁, gn, dw, tk, os⟩)
    (hco : scope.isCoroutine = false) (hgen : scope.isGenerator = false) (hk : scope.kind = .function) : wpAny (model prog w) A (call (.ref f) vs) Q E ⟨hp, gn, dw, tk₀, os⟩ :=
  wpAny_call (code_defC (R := RQ Q E) B F X₀ N T hA hf hke ho hcd hroom hbind hkind hnd (fun g L' h₁ tk cells FG F' => h g L' h₁ tk cells FG (by
    subst hlm
    have e : (fun y => (binds.filter fun z => decide (scope.names.lookup z.1 = some .local)).reverse.lookup y) = bindL (envOfC qual scope L' f cdv).kindOf binds fun _ => none := by
      funext y; rw [bindL_lookup]; exact (Option.or_none).symm
    rw [e]; exact F')) hco hgen hk)
/-- a walk is to stop behind the answer -/
structure Stopped : Prop where
theorem hide {P : Prop} (h : ∀ G : Prop, (P → G) → G) : P := h P id
theorem ne_below {a b : Nat} (h : a < b) : a ≠ b := Nat.ne_of_lt h
theorem ne_above {a b : Nat} (h : b < a) : a ≠ b := Nat.ne_of_gt h
theorem ne_up1 {a b : Nat} (h : a < b) : b + 1 ≠ a := Nat.ne_of_gt (Nat.lt_succ_of_lt h)
theorem ne_up2 {a b : Nat} (h : a < b) : b + 1 + 1 ≠ a := ne_up1 (Nat.lt_succ_of_lt h)
theorem ne_up3 {a b : Nat} (h : a < b) : b + 1 + 1 + 1 ≠ a := ne_up2 (Nat.lt_succ_of_lt h)
theorem ne_up4 {a b : Nat} (h : a < b) : b + 1 + 1 + 1 + 1 ≠ a := ne_up3 (Nat.lt_succ_of_lt h)
theorem ne_up5 {a b : Nat} (h : a < b) : b + 1 + 1 + 1 + 1 + 1 ≠ a := ne_up4 (Nat.lt_succ_of_lt h)
theorem ne_up6 {a b : Nat} (h : a < b) : b + 1 + 1 + 1 + 1 + 1 + 1 ≠ a := ne_up5 (Nat.lt_succ_of_lt h)
theorem ne_self1 {a : Nat} : a ≠ a + 1 := Nat.ne_of_lt (Nat.lt_succ_self a)
theorem ne_self2 {a : Nat} : a ≠ a + 1 + 1 := Nat.ne_of_lt (Nat.lt_succ_of_lt (Nat.lt_succ_self a))
theorem ne_self3 {a : Nat} : a ≠ a + 1 + 1 + 1 := Nat.ne_of_lt (Nat.lt_succ_of_lt (Nat.lt_succ_of_lt (Nat.lt_succ_self a)))
theorem ne_self4 {a : Nat} : a ≠ a + 1 + 1 + 1 + 1 := Nat.ne_of_lt (Nat.lt_succ_of_lt (Nat.lt_succ_of_lt (Nat.lt_succ_of_lt (Nat.lt_succ_self a))))
theorem ne_self5 {a : Nat} : a ≠ a + 1 + 1 + 1 + 1 + 1 := Nat.ne_of_lt (Nat.lt_succ_of_lt (Nat.lt_succ_of_lt (Nat.lt_succ_of_lt (Nat.lt_succ_of_lt (Nat.lt_succ_self a)))))
theorem room0 {d D L : Nat} (h : d + D < L) : d < L := Nat.lt_of_le_of_lt (Nat.le_add_right d D) h
theorem room1 {d D k L : Nat} (h : d + D < L) (e : k ≤ D) : d + k < L := Nat.lt_of_le_of_lt (Nat.add_le_add_left e d) h
theorem room2 {d D k l L : Nat} (h : d + D < L) (e : k + l ≤ D) : d + k + l < L := Nat.lt_of_le_of_lt (Nat.add_assoc d k l ▸ Nat.add_le_add_left e d) h
/-- an expression gives one value, whatever is wanted of it -/
structure Pv (M : Model) (A : Around) (E : Value → Shared → Prop) (env : Env) (e : Expr) (s : Shared) (v : Value) (s' : Shared) : Prop where
  out : ∀ Q : Value → Shared → Prop, Q v s' → wpAny M A (eval e env) Q E s
section
variable {M : Model} {A : Around} {E : Value → Shared → Prop} {s s₁ s₂ : Shared} {h₀ : Heap} {L a : Addr} {m : Str → Option Value} {cn : Str} {cs : Scope} {ccd : Value} {cl : List (Str × Addr)} {x : Str} {pos : Pos} {v v' : Value} {K : Frag} {p : Program} {loose : List Str} {mg mb : Str → Option Value} {news : Led} {c : Addr} {o : Obj} {env : Env} {l r e : Expr} {rest : List Expr}
theorem pv_L (F : Fr h₀ L s.heap m) (hx : (envX cn cs L a ccd cl).kindOf x = some .local) (hv : m x = some v) (hk : cs.kind = .function := by rfl) (hd : (x == ("__debug__" : Str)) = false := by decide) :
    Pv M A E (envX cn cs L a ccd cl) (.Name x pos) s v s := ⟨fun _ h => nameX_L F hv h hk hx hd⟩
theorem pv_K (F : Fr h₀ L s.heap m) (X : K.In h₀) (T : TopRead p loose mg mb h₀) (hx : (envX cn cs L a ccd cl).kindOf x = some .globalImplicit) (e : nsIn K mainGlobals x = some (some v)) (hk : cs.kind = .function := by rfl) (hd : (x == ("__debug__" : Str)) = false := by decide) :
    Pv M A E (envX cn cs L a ccd cl) (.Name x pos) s v s := ⟨fun _ h => nameX_K F X T e h hk hx hd⟩
theorem pv_C (N : News h₀ L s.heap news) (hx : (envX cn cs L a ccd cl).kindOf x = some .cell) (hc : cl.lookup x = some c) (hm : (c, o) ∈ news) (hd : o.data = .cell (some v)) (hk : cs.kind = .function := by rfl) (hb : (x == ("__debug__" : Str)) = false := by decide) :
    Pv M A E (envX cn cs L a ccd cl) (.Name x pos) s v s := ⟨fun _ h => nameX_C N hc hm hd h hk hx hb⟩
theorem pv_int {i : Int} {k : Nat} {hp : Heap} {g : Array GenState} {d : Drawn} {t : Nat} {os : OsState} : Pv M A E env (.Constant (.int i) k pos) ⟨hp, g, d, t, os⟩ (.int i t) ⟨hp, g, d, t + 1, os⟩ := ⟨fun _ h => wpAny_Constant_int (s := ⟨hp, g, d, t, os⟩) h⟩
theorem BinOp_pv {op : Operator} {Q : Value → Shared → Prop} (h1 : Pv M A E env l s v s₁) (h2 : Pv M A E env r s₁ v' s₂) (h : wpAny M A (binaryOp op v v') Q E s₂) : wpAny M A (eval (.BinOp l op r pos) env) Q E s :=
  wpAny_BinOp (h1.out _ (h2.out _ h))
theorem BinOp_pl {op : Operator} {Q : Value → Shared → Prop} (h1 : Pv M A E env l s v s₁) (h : wpAny M A (eval r env) (fun b s₂ => wpAny M A (binaryOp op v b) Q E s₂) E s₁) : wpAny M A (eval (.BinOp l op r pos) env) Q E s :=
  wpAny_BinOp (h1.out _ h)
theorem Compare_pv {op : CmpOp} {Q : Value → Shared → Prop} (h1 : Pv M A E env l s v s₁) (h2 : Pv M A E env r s₁ v' s₂) (h : wpAny M A (compareOp op v v') Q E s₂) (hm : behindInMarks op r = false := by with_unfolding_all rfl) : wpAny M A (eval (.Compare l [op] [r] pos) env) Q E s :=
  wpAny_Compare1 (h1.out _ (h2.out _ h)) hm
theorem Compare_pl {op : CmpOp} {Q : Value → Shared → Prop} (h1 : Pv M A E env l s v s₁) (h : wpAny M A (eval r env) (fun b s₂ => wpAny M A (compareOp op v b) Q E s₂) E s₁) (hm : behindInMarks op r = false := by with_unfolding_all rfl) : wpAny M A (eval (.Compare l [op] [r] pos) env) Q E s :=
  wpAny_Compare1 (h1.out _ h) hm
theorem isTrue_pv {op : CmpOp} {whole : Sem Value} {Q : Bool → Shared → Prop} (h1 : Pv M A E env l s v s₁) (h2 : Pv M A E env r s₁ v' s₂) (h : wpAny M A (compareOp op v v') (fun c s₃ => wpAny M A (truthy c) Q E s₃) E s₂) (hm : behindInMarks op r = false := by with_unfolding_all rfl) : wpAny M A (isTrue (.Compare l [op] [r] pos) env whole) Q E s :=
  wpAny_isTrue_Compare1 (h1.out _ (h2.out _ h)) hm
theorem isTrue_pl {op : CmpOp} {whole : Sem Value} {Q : Bool → Shared → Prop} (h1 : Pv M A E env l s v s₁) (h : wpAny M A (eval r env) (fun b s₂ => wpAny M A (compareOp op v b) (fun c s₃ => wpAny M A (truthy c) Q E s₃) E s₂) E s₁) (hm : behindInMarks op r = false := by with_unfolding_all rfl) : wpAny M A (isTrue (.Compare l [op] [r] pos) env whole) Q E s :=
  wpAny_isTrue_Compare1 (h1.out _ h) hm
theorem Return_pv {Q : Flow → Shared → Prop} (h1 : Pv M A E env e s v s₁) (h : Q (.ret v) s₁) : wpAny M A (exec (.Return (some e) pos) env) Q E s := wpAny_Return_some (h1.out _ h)
theorem Call_pv {args : List Expr} {Q : Value → Shared → Prop} (h1 : Pv M A E env e s v s₁) (h : wpAny M A (callWith pos v [] (backTo pos (starEach args env)) []) Q E s₁)
    (he : eval (.Call e args [] pos) env = (do callWith pos (← eval e env) [] (backTo pos (starEach args env)) (backToKw pos (keywordEach [] env))) := by rfl) : wpAny M A (eval (.Call e args [] pos) env) Q E s := Call_ (h1.out _ h) he
theorem Attr_pv {attr : Str} {xp : Pos} {Q : Value → Shared → Prop} (h1 : Pv M A E env (.Name x xp) s v s₁) (h : wpAny M A (getAttr v attr true) Q E s₁)
    (he : eval (.Attribute (.Name x xp) attr pos) env = (do
      let o ← eval (.Name x xp) env
      standAt pos.atName
      let r ← holding [o] (getAttr o attr true)
      letTemporaryGo (.Name x xp) o r
      pure r) := by with_unfolding_all rfl) : wpAny M A (eval (.Attribute (.Name x xp) attr pos) env) Q E s := Attribute_Name_ (h1.out _ h) he
theorem args0_pv {Q : List Value → Shared → Prop} (h : Q [] s) : wpAny M A (spliced (backTo pos (starEach [] env))) Q E s := args_nil h
theorem args1_pv {e1 : Expr} {v1 : Value} {z1 : Shared} {Q : List Value → Shared → Prop} (h1 : Pv M A E env e1 s v1 z1) (h : Q [v1] z1) (q1 : starEach [e1] env = (false, eval e1 env) :: starEach [] env := by rfl) : wpAny M A (spliced (backTo pos (starEach [e1] env))) Q E s :=
  args_cons (h1.out _ (args_nil h)) q1
theorem args2_pv {e1 e2 : Expr} {v1 v2 : Value} {z1 z2 : Shared} {Q : List Value → Shared → Prop} (h1 : Pv M A E env e1 s v1 z1) (h2 : Pv M A E env e2 z1 v2 z2) (h : Q [v1, v2] z2) (q1 : starEach [e1, e2] env = (false, eval e1 env) :: starEach [e2] env := by rfl) (q2 : starEach [e2] env = (false, eval e2 env) :: starEach [] env := by rfl) : wpAny M A (spliced (backTo pos (starEach [e1, e2] env))) Q E s :=
  args_cons (h1.out _ (args_cons (h2.out _ (args_nil h)) q2)) q1
theorem args3_pv {e1 e2 e3 : Expr} {v1 v2 v3 : Value} {z1 z2 z3 : Shared} {Q : List Value → Shared → Prop} (h1 : Pv M A E env e1 s v1 z1) (h2 : Pv M A E env e2 z1 v2 z2) (h3 : Pv M A E env e3 z2 v3 z3) (h : Q [v1, v2, v3] z3) (q1 : starEach [e1, e2, e3] env = (false, eval e1 env) :: starEach [e2, e3] env := by rfl) (q2 : starEach [e2, e3] env = (false, eval e2 env) :: starEach [e3] env := by rfl) (q3 : starEach [e3] env = (false, eval e3 env) :: starEach [] env := by rfl) : wpAny M A (spliced (backTo pos (starEach [e1, e2, e3] env))) Q E s :=
  args_cons (h1.out _ (args_cons (h2.out _ (args_cons (h3.out _ (args_nil h)) q3)) q2)) q1
theorem args4_pv {e1 e2 e3 e4 : Expr} {v1 v2 v3 v4 : Value} {z1 z2 z3 z4 : Shared} {Q : List Value → Shared → Prop} (h1 : Pv M A E env e1 s v1 z1) (h2 : Pv M A E env e2 z1 v2 z2) (h3 : Pv M A E env e3 z2 v3 z3) (h4 : Pv M A E env e4 z3 v4 z4) (h : Q [v1, v2, v3, v4] z4) (q1 : starEach [e1, e2, e3, e4] env = (false, eval e1 env) :: starEach [e2, e3, e4] env := by rfl) (q2 : starEach [e2, e3, e4] env = (false, eval e2 env) :: starEach [e3, e4] env := by rfl) (q3 : starEach [e3, e4] env = (false, eval e3 env) :: starEach [e4] env := by rfl) (q4 : starEach [e4] env = (false, eval e4 env) :: starEach [] env := by rfl) : wpAny M A (spliced (backTo pos (starEach [e1, e2, e3, e4] env))) Q E s :=
  args_cons (h1.out _ (args_cons (h2.out _ (args_cons (h3.out _ (args_cons (h4.out _ (args_nil h)) q4)) q3)) q2)) q1
theorem args5_pv {e1 e2 e3 e4 e5 : Expr} {v1 v2 v3 v4 v5 : Value} {z1 z2 z3 z4 z5 : Shared} {Q : List Value → Shared → Prop} (h1 : Pv M A E env e1 s v1 z1) (h2 : Pv M A E env e2 z1 v2 z2) (h3 : Pv M A E env e3 z2 v3 z3) (h4 : Pv M A E env e4 z3 v4 z4) (h5 : Pv M A E env e5 z4 v5 z5) (h : Q [v1, v2, v3, v4, v5] z5) (q1 : starEach [e1, e2, e3, e4, e5] env = (false, eval e1 env) :: starEach [e2, e3, e4, e5] env := by rfl) (q2 : starEach [e2, e3, e4, e5] env = (false, eval e2 env) :: starEach [e3, e4, e5] env := by rfl) (q3 : starEach [e3, e4, e5] env = (false, eval e3 env) :: starEach [e4, e5] env := by rfl) (q4 : starEach [e4, e5] env = (false, eval e4 env) :: starEach [e5] env := by rfl) (q5 : starEach [e5] env = (false, eval e5 env) :: starEach [] env := by rfl) : wpAny M A (spliced (backTo pos (starEach [e1, e2, e3, e4, e5] env))) Q E s :=
  args_cons (h1.out _ (args_cons (h2.out _ (args_cons (h3.out _ (args_cons (h4.out _ (args_cons (h5.out _ (args_nil h)) q5)) q4)) q3)) q2)) q1
end

set_option maxRecDepth 100000 in
set_option maxHeartbeats 8000000 in
theorem spec_bit_at (prog : Program) (w : World) (x y : Int) (tx ty : Tok) (news : Led) (h0 : 0 ≤ y) (h1 : y ≤ 31) :
    Spec prog w 180 1 8 [.int x tx, .int y ty] news (fun news v news' => news = news' ∧ ∃ t, v = .int (Int.fmod (Int.fdiv x (2 ^ (31 - y).toNat)) 2) t) := by
  intro p loose mean mg mb dp un gd cn cs a ccd cl outer A₀ base h₀ L m s Q E B F X N T hk hd hu hret
  refine wpAny_call ?_
  k_dflt cell_enter
  k_steps
  all_goals exact hret _ _ _ _ (by k_asm) (by k_asm) ⟨rfl, _, rfl⟩

set_option maxRecDepth 100000 in
set_option maxHeartbeats 8000000 in
theorem spec_mask_of (prog : Program) (w : World) (x : Int) (tx : Tok) (news : Led) (h0 : 0 ≤ x) (h1 : x ≤ 32) :
    Spec prog w 60 1 8 [.int x tx] news (fun news v news' => news = news' ∧ ∃ t, v = .int (4294967295 - (2 ^ (32 - x).toNat - 1)) t) := by
  intro p loose mean mg mb dp un gd cn cs a ccd cl outer A₀ base h₀ L m s Q E B F X N T hk hd hu hret
  refine wpAny_call ?_
  k_dflt cell_enter
  k_steps
  all_goals exact hret _ _ _ _ (by k_asm) (by k_asm) ⟨rfl, _, rfl⟩

theorem and_mask (k : Nat) : ∀ (n : Nat) (x : Int), k ≤ n → Builtin.bitAnd x (2 ^ n - 2 ^ k) = x % 2 ^ n - x % 2 ^ k := by
  induction k with
  | zero => intro n x _; rw [Int.pow_zero, kbt_mask]; omega
  | succ k ih =>
    intro n x h
    obtain ⟨n, rfl⟩ : ∃ m, n = m + 1 := ⟨n - 1, by omega⟩
    rw [kbt_halves]
    have e : (2 : Int) ^ (n + 1) - 2 ^ (k + 1) = 2 * (2 ^ n - 2 ^ k) := by rw [Int.pow_succ, Int.pow_succ]; (clear h; omega)
    have e1 : ((2 : Int) ^ (n + 1) - 2 ^ (k + 1)) / 2 = 2 ^ n - 2 ^ k := by rw [e]; (clear e h; omega)
    have e2 : ((2 : Int) ^ (n + 1) - 2 ^ (k + 1)) % 2 = 0 := by rw [e]; (clear e e1 h; omega)
    rw [e1, e2, ih n (x / 2) (by (clear e e1 e2; omega))]
    have half : ∀ j : Nat, x % 2 ^ (j + 1) = 2 * (x / 2 % 2 ^ j) + x % 2 := by
      intro j
      have hp : (0 : Int) < 2 ^ j := Int.pow_pos (by decide)
      have h1 := Int.mul_ediv_add_emod (x / 2) (2 ^ j)
      have h2 := Int.emod_nonneg (x / 2) (Int.ne_of_gt hp)
      have h3 := Int.emod_lt_of_pos (x / 2) hp
      have h4 := Int.mul_ediv_add_emod x 2
      have hx : x = (2 * (x / 2 % 2 ^ j) + x % 2) + 2 ^ (j + 1) * (x / 2 / 2 ^ j) := by
        rw [Int.pow_succ, Int.mul_comm (2 ^ j) 2, Int.mul_assoc]; (clear e e1 e2 h h2 h3 h4 hp; omega)
      have hp2 : (2 : Int) ^ (j + 1) = 2 * 2 ^ j := by rw [Int.pow_succ, Int.mul_comm]
      conv => lhs; rw [hx]
      rw [Int.add_mul_emod_self_left]
      exact Int.emod_eq_of_lt (by (clear e e1 e2 h h1 h2 h3 h4 hp hp2 hx; omega)) (by rw [hp2]; (clear e e1 e2 h h1 h2 h3 h4 hp hp2 hx; omega))
    rw [half n, half k]
    simp
    (clear e e1 e2 h; omega)

/-- 2 ^ n of an int n -/
noncomputable abbrev pw (n : Int) : Int := 2 ^ n.toNat
theorem pw_pos (n : Int) : 0 < pw n := Int.pow_pos (by decide)
noncomputable def netOf (x y : Int) : Int := x % 4294967296 - x % pw (32 - y)
theorem and_net (x y : Int) (h0 : 0 ≤ y) (h1 : y ≤ 32) : Builtin.bitAnd x (4294967295 - (2 ^ (32 - y).toNat - 1)) = netOf x y := by
  have h := and_mask (32 - y).toNat 32 x (by (clear h1; omega))
  have e : (2 : Int) ^ 32 - 2 ^ (32 - y).toNat = 4294967295 - (2 ^ (32 - y).toNat - 1) := by
    have : (2 : Int) ^ 32 = 4294967296 := by decide
    rw [this]; (clear h h0 h1 this; omega)
  rw [← e, h]
  rfl

local macro_rules | `(tactic| k_mem) => `(tactic| walk_at "m_mem")
local macro_rules | `(tactic| k_handed) => `(tactic| assumption)
local macro_rules | `(tactic| k_in) => `(tactic| walk_at "m_in")
local macro_rules | `(tactic| walk_at $s:str) => `(tactic| k_extra $s)
local macro_rules | `(tactic| walk_at "m_mem") => `(tactic| first | with_reducible assumption | assumption | exact List.Mem.head _ | (refine List.Mem.tail _ ?_; walk_at "m_mem") | (refine' mem_updL_self ?hm9; (case hm9 => walk_at "m_mem")) | (refine' mem_updL_ne ?ha ?hb; (case ha => walk_at "m_mem"); (case hb => walk_at "m_ne")) | fail "m_mem")
theorem rows_USE_F2 : True := by
  k_with  "m_ne" => first | with_reducible assumption | (dsimp only; first | with_reducible assumption | exact Ne.symm (by with_reducible assumption) | exact ne_above (by with_reducible assumption) | exact ne_below (by with_reducible assumption) | exact ne_up1 (by with_reducible assumption) | exact ne_up2 (by with_reducible assumption) | exact ne_up3 (by with_reducible assumption) | exact ne_up4 (by with_reducible assumption) | exact ne_up5 (by with_reducible assumption) | exact ne_up6 (by with_reducible assumption) | exact ne_self1 | exact ne_self2 | exact ne_self3 | exact ne_self4 | exact ne_self5 | exact Ne.symm ne_self1 | exact Ne.symm ne_self2 | exact Ne.symm ne_self3 | exact Ne.symm ne_self4 | exact Ne.symm ne_self5 | exact Ne.symm (ne_up1 (by with_reducible assumption)) | exact Ne.symm (ne_up2 (by with_reducible assumption)) | exact Ne.symm (ne_up3 (by with_reducible assumption)) | exact Ne.symm (ne_up4 (by with_reducible assumption)) | exact Ne.symm (ne_up5 (by with_reducible assumption)) | exact Ne.symm (ne_up6 (by with_reducible assumption)) | (refine neN ?_; omega))
  k_with  "m_in" => first | with_reducible assumption | exact Frag.In.keeps (by k_asm) (Fr.keep (by k_asm))
  k_with  "t_enter" => (intro _ _ _ _ _ _ _ Be9 _ _; (try dsimp only); (try k_lift Be9); (try k_fold))
  k_with  "m_pv" => (first | ((with_reducible show Pv _ _ _ _ (PySem.Expr.Name _ _) _ _ _); k_dflt (first | exact pv_L (by k_asm) rfl (by rfl) | exact pv_C (by k_asm) rfl (by rfl) (by k_mem) (by k_asm) | exact pv_K (by k_asm) (by k_asm) (by k_asm) rfl (by k_is))) | ((with_reducible show Pv _ _ _ _ (PySem.Expr.Constant (Const.int _) _ _) _ _ _); exact pv_int))
  k_with  "spliced" => (k_here; first | ((with_reducible show wpAny _ _ (spliced (backTo _ (starEach [] _))) _ _ _); k_dflt (refine args0_pv ?_; k_whole)) | ((first | (with_reducible show wpAny _ _ (spliced (backTo _ (starEach [PySem.Expr.Name _ _] _))) _ _ _) | (with_reducible show wpAny _ _ (spliced (backTo _ (starEach [PySem.Expr.Constant (Const.int _) _ _] _))) _ _ _)); k_dflt (refine args1_pv (by walk_at "m_pv") ?_; k_whole)) | ((first | (with_reducible show wpAny _ _ (spliced (backTo _ (starEach [PySem.Expr.Name _ _, PySem.Expr.Name _ _] _))) _ _ _) | (with_reducible show wpAny _ _ (spliced (backTo _ (starEach [PySem.Expr.Name _ _, PySem.Expr.Constant (Const.int _) _ _] _))) _ _ _) | (with_reducible show wpAny _ _ (spliced (backTo _ (starEach [PySem.Expr.Constant (Const.int _) _ _, PySem.Expr.Name _ _] _))) _ _ _) | (with_reducible show wpAny _ _ (spliced (backTo _ (starEach [PySem.Expr.Constant (Const.int _) _ _, PySem.Expr.Constant (Const.int _) _ _] _))) _ _ _)); k_dflt (refine args2_pv (by walk_at "m_pv") (by walk_at "m_pv") ?_; k_whole)) | ((first | (with_reducible show wpAny _ _ (spliced (backTo _ (starEach [PySem.Expr.Name _ _, PySem.Expr.Name _ _, PySem.Expr.Name _ _] _))) _ _ _) | (with_reducible show wpAny _ _ (spliced (backTo _ (starEach [PySem.Expr.Name _ _, PySem.Expr.Name _ _, PySem.Expr.Constant (Const.int _) _ _] _))) _ _ _) | (with_reducible show wpAny _ _ (spliced (backTo _ (starEach [PySem.Expr.Name _ _, PySem.Expr.Constant (Const.int _) _ _, PySem.Expr.Name _ _] _))) _ _ _) | (with_reducible show wpAny _ _ (spliced (backTo _ (starEach [PySem.Expr.Name _ _, PySem.Expr.Constant (Const.int _) _ _, PySem.Expr.Constant (Const.int _) _ _] _))) _ _ _) | (with_reducible show wpAny _ _ (spliced (backTo _ (starEach [PySem.Expr.Constant (Const.int _) _ _, PySem.Expr.Name _ _, PySem.Expr.Name _ _] _))) _ _ _) | (with_reducible show wpAny _ _ (spliced (backTo _ (starEach [PySem.Expr.Constant (Const.int _) _ _, PySem.Expr.Name _ _, PySem.Expr.Constant (Const.int _) _ _] _))) _ _ _) | (with_reducible show wpAny _ _ (spliced (backTo _ (starEach [PySem.Expr.Constant (Const.int _) _ _, PySem.Expr.Constant (Const.int _) _ _, PySem.Expr.Name _ _] _))) _ _ _) | (with_reducible show wpAny _ _ (spliced (backTo _ (starEach [PySem.Expr.Constant (Const.int _) _ _, PySem.Expr.Constant (Const.int _) _ _, PySem.Expr.Constant (Const.int _) _ _] _))) _ _ _)); k_dflt (refine args3_pv (by walk_at "m_pv") (by walk_at "m_pv") (by walk_at "m_pv") ?_; k_whole)))
  k_with  "eval BinOp" => (k_here; first | ((first | (with_reducible show wpAny _ _ (eval (PySem.Expr.BinOp (PySem.Expr.Name _ _) _ (PySem.Expr.Name _ _) _) _) _ _ _) | (with_reducible show wpAny _ _ (eval (PySem.Expr.BinOp (PySem.Expr.Name _ _) _ (PySem.Expr.Constant (Const.int _) _ _) _) _) _ _ _) | (with_reducible show wpAny _ _ (eval (PySem.Expr.BinOp (PySem.Expr.Constant (Const.int _) _ _) _ (PySem.Expr.Name _ _) _) _) _ _ _) | (with_reducible show wpAny _ _ (eval (PySem.Expr.BinOp (PySem.Expr.Constant (Const.int _) _ _) _ (PySem.Expr.Constant (Const.int _) _ _) _) _) _ _ _)); k_dflt (refine BinOp_pv (by walk_at "m_pv") (by walk_at "m_pv") ?_; k_whole)) | ((first | (with_reducible show wpAny _ _ (eval (PySem.Expr.BinOp (PySem.Expr.Name _ _) _ _ _) _) _ _ _) | (with_reducible show wpAny _ _ (eval (PySem.Expr.BinOp (PySem.Expr.Constant (Const.int _) _ _) _ _ _) _) _ _ _)); k_dflt (refine BinOp_pl (by walk_at "m_pv") ?_; k_whole)))
  k_with  "isTrue Compare" => (k_here; first | ((first | (with_reducible show wpAny _ _ (isTrue (PySem.Expr.Compare (PySem.Expr.Name _ _) [_] [(PySem.Expr.Name _ _)] _) _ _) _ _ _) | (with_reducible show wpAny _ _ (isTrue (PySem.Expr.Compare (PySem.Expr.Name _ _) [_] [(PySem.Expr.Constant (Const.int _) _ _)] _) _ _) _ _ _) | (with_reducible show wpAny _ _ (isTrue (PySem.Expr.Compare (PySem.Expr.Constant (Const.int _) _ _) [_] [(PySem.Expr.Name _ _)] _) _ _) _ _ _) | (with_reducible show wpAny _ _ (isTrue (PySem.Expr.Compare (PySem.Expr.Constant (Const.int _) _ _) [_] [(PySem.Expr.Constant (Const.int _) _ _)] _) _ _) _ _ _)); k_dflt (refine isTrue_pv (by walk_at "m_pv") (by walk_at "m_pv") ?_; k_whole)) | ((first | (with_reducible show wpAny _ _ (isTrue (PySem.Expr.Compare (PySem.Expr.Name _ _) [_] [_] _) _ _) _ _ _) | (with_reducible show wpAny _ _ (isTrue (PySem.Expr.Compare (PySem.Expr.Constant (Const.int _) _ _) [_] [_] _) _ _) _ _ _)); k_dflt (refine isTrue_pl (by walk_at "m_pv") ?_; k_whole)))
  k_with  "eval Compare" => (k_here; first | ((first | (with_reducible show wpAny _ _ (eval (PySem.Expr.Compare (PySem.Expr.Name _ _) [_] [(PySem.Expr.Name _ _)] _) _) _ _ _) | (with_reducible show wpAny _ _ (eval (PySem.Expr.Compare (PySem.Expr.Name _ _) [_] [(PySem.Expr.Constant (Const.int _) _ _)] _) _) _ _ _) | (with_reducible show wpAny _ _ (eval (PySem.Expr.Compare (PySem.Expr.Constant (Const.int _) _ _) [_] [(PySem.Expr.Name _ _)] _) _) _ _ _) | (with_reducible show wpAny _ _ (eval (PySem.Expr.Compare (PySem.Expr.Constant (Const.int _) _ _) [_] [(PySem.Expr.Constant (Const.int _) _ _)] _) _) _ _ _)); k_dflt (refine Compare_pv (by walk_at "m_pv") (by walk_at "m_pv") ?_; k_whole)) | ((first | (with_reducible show wpAny _ _ (eval (PySem.Expr.Compare (PySem.Expr.Name _ _) [_] [_] _) _) _ _ _) | (with_reducible show wpAny _ _ (eval (PySem.Expr.Compare (PySem.Expr.Constant (Const.int _) _ _) [_] [_] _) _) _ _ _)); k_dflt (refine Compare_pl (by walk_at "m_pv") ?_; k_whole)))
  k_with  "eval Attribute Name" => (k_here; k_dflt (refine Attr_pv (by walk_at "m_pv") ?_; k_whole))
  k_with  "exec Return some" => (k_here; (first | (with_reducible show wpAny _ _ (exec (PySem.Stmt.Return (some (PySem.Expr.Name _ _)) _) _) _ _ _) | (with_reducible show wpAny _ _ (exec (PySem.Stmt.Return (some (PySem.Expr.Constant (Const.int _) _ _)) _) _) _ _ _)); k_dflt (refine Return_pv (by walk_at "m_pv") ?_; k_whole))
  k_with  "eval Call" => (k_here; (first | (with_reducible show wpAny _ _ (eval (PySem.Expr.Call (PySem.Expr.Name _ _) _ [] _) _) _ _ _)); k_dflt (refine Call_pv (by walk_at "m_pv") ?_; k_whole))
  k_with  "m_om" => first | decide | with_reducible assumption | omega
  k_with  "m_room" => first | exact room0 (by with_reducible assumption) | exact room1 (by with_reducible assumption) (by decide) | exact room2 (by with_reducible assumption) (by decide) | omega | ((try simp only [depth_under_make, depth_under_kw, units_under_make, depth_in1, units_in1, depth_deeper, units_deeper, ktrTop] at *); omega)
  k_with  "m_use" => (k_here; refine Spec.use2 (by k_asm) (by k_asm) (by k_asm) (by k_asm) (by k_asm) (by first | exact rfl | assumption) (by k_extra "spec") (by walk_at "m_room") (by walk_at "m_room") ?_; k_whole; intro RR9 nw9 he9 hRR9 _ _ _ _ _ _ _; (k_extra "post") <;> (try subst he9) <;> (refine hRR9 _ _ _ _ ?_) <;> (clear hRR9 RR9) <;> (try (rename Stopped => z9; clear z9; refine Stop.go ?_)) <;> (try dsimp only) <;> (try k_sweep) <;> (try k_fold))
  k_with  "call ref" => k_dflt (walk_at "m_use")
  k_with  "setAttr ref" => (k_here; k_extra "updl"; k_dflt (refine set_dictU (by k_asm) (by k_asm) (by k_asm) (by k_mem) (by k_mem) (by k_is) (by k_is) (by k_is) (by k_is) (by k_get) (by k_put) (by exact Nat.le_of_ble_eq_true rfl) ?_; k_whole; intro _ _ _; (try k_sweep)))
  k_with  "compareOp Eq ref ref" => (k_here; k_dflt (refine eq_nil (by k_asm) (by k_mem) (by k_mem) (by walk_at "m_room") ?_; k_whole))
  k_with  "compareOp NotEq ref ref" => (k_here; k_dflt (refine ne_nil (by k_asm) (by k_mem) (by k_mem) (by walk_at "m_room") ?_; k_whole))
  k_with  "m_names" => (intro z9 hz9 hs9; (try simp only [List.contains_cons, List.contains_nil, Bool.or_false, Bool.or_eq_false_iff, beq_eq_false_iff_ne, ne_eq] at hs9); simp only [setL, List.zip_cons_cons, List.zip_nil_right, List.zip_nil_left, hz9, hs9, if_false]; (repeat' split); all_goals first | rfl | contradiction | (simp_all; done))
  k_with  "m_wnames" => (intro z9 hs9; (try simp only [List.contains_cons, List.contains_nil, Bool.or_false, Bool.or_eq_false_iff, beq_eq_false_iff_ne, ne_eq] at hs9); simp only [setL, List.zip_cons_cons, List.zip_nil_right, List.zip_nil_left, hs9, if_false]; (repeat' split); all_goals first | rfl | contradiction | (simp_all; done))
  k_with  "m_small" => first | decide | exact small_one (by decide) (by decide) (by omega) (by omega)
  k_with  "m_off" => (first
    | (intro z9 hx9 hs9 hy9; (try simp only [List.contains_cons, List.contains_nil, Bool.or_false, Bool.or_eq_false_iff, beq_eq_false_iff_ne, ne_eq] at hs9); (simp only [List.contains_cons, List.contains_nil, Bool.or_false, Bool.or_eq_false_iff, beq_eq_false_iff_ne, ne_eq] at hy9); first | (simp only [hx9, hs9, hy9, setL, List.zip_cons_cons, List.zip_nil_left, List.zip_nil_right, List.contains_cons, List.contains_nil, Bool.or_false, Bool.false_eq_true, beq_iff_eq, if_false, and_self, not_false_eq_true]; done) | (simp only [hx9, hy9, setL, List.zip_cons_cons, List.zip_nil_left, List.zip_nil_right, List.contains_cons, List.contains_nil, Bool.or_false, Bool.false_eq_true, beq_iff_eq, if_false, and_self, not_false_eq_true]; done))
    | (intro z9 hs9 hy9; (try simp only [List.contains_cons, List.contains_nil, Bool.or_false, Bool.or_eq_false_iff, beq_eq_false_iff_ne, ne_eq] at hs9); (simp only [List.contains_cons, List.contains_nil, Bool.or_false, Bool.or_eq_false_iff, beq_eq_false_iff_ne, ne_eq] at hy9); first | (simp only [hs9, hy9, setL, List.zip_cons_cons, List.zip_nil_left, List.zip_nil_right, List.contains_cons, List.contains_nil, Bool.or_false, Bool.false_eq_true, beq_iff_eq, if_false, and_self, not_false_eq_true]; done) | (simp only [hy9, setL, List.zip_cons_cons, List.zip_nil_left, List.zip_nil_right, List.contains_cons, List.contains_nil, Bool.or_false, Bool.false_eq_true, beq_iff_eq, if_false, and_self, not_false_eq_true]; done)))
  k_with  "m_on" => (intro y9 hy9; simp only [List.mem_cons, List.not_mem_nil, or_false] at hy9; first | (subst hy9; rfl) | (rcases hy9 with h9 | h9 <;> subst h9 <;> rfl) | (rcases hy9 with h9 | h9 | h9 <;> subst h9 <;> rfl) | (rcases hy9 with h9 | h9 | h9 | h9 <;> subst h9 <;> rfl))
  k_with  "m_enter" => first | (k_dflt (refine code_defS (by k_asm) (by k_asm) (by k_asm) (by k_asm) (by k_asm) rfl rfl (by first | exact rfl | assumption) (by k_is) (by k_is) (by walk_at "m_room") (by walk_at "m_binds") (by exact locs rfl) ?_ (by exact rfl) (by exact rfl) (by exact rfl) (by decide); k_whole; walk_at "t_enter")) | (k_dflt (refine code_defR (by k_asm) (by k_asm) (by k_asm) (by k_asm) (by k_asm) rfl rfl (by first | exact rfl | assumption) (by k_is) (by k_is) (by walk_at "m_room") (by walk_at "m_binds") (by exact locs rfl) ?_ (by exact rfl) (by exact rfl) (by exact rfl) (by decide); k_whole; walk_at "t_enter"))
  k_with  "m_binds" => first | exact BindsTo.of_eq (binds := []) rfl | exact BindsTo.of_eq (binds := [(_, _)]) rfl | exact BindsTo.of_eq (binds := [(_, _), (_, _)]) rfl | exact BindsTo.of_eq (binds := [(_, _), (_, _), (_, _)]) rfl | exact BindsTo.of_eq (binds := [(_, _), (_, _), (_, _), (_, _)]) rfl | exact BindsTo.of_eq (binds := [(_, _), (_, _), (_, _), (_, _), (_, _)]) rfl | exact BindsTo.of_eq (binds := [(_, _), (_, _), (_, _), (_, _), (_, _), (_, _)]) rfl | exact BindsTo.of_eq (binds := [(_, _), (_, _), (_, _), (_, _), (_, _), (_, _), (_, _)]) rfl | exact BindsTo.of_eq (binds := [(_, _), (_, _), (_, _), (_, _), (_, _), (_, _), (_, _), (_, _)]) rfl | exact BindsTo.of_eq (binds := [(_, _), (_, _), (_, _), (_, _), (_, _), (_, _), (_, _), (_, _), (_, _)]) rfl | exact binds_K (binds := [(_, _)]) (by k_in) rfl (by k_is) rfl rfl rfl | exact binds_K (binds := [(_, _), (_, _)]) (by k_in) rfl (by k_is) rfl rfl rfl | exact binds_K (binds := [(_, _), (_, _), (_, _)]) (by k_in) rfl (by k_is) rfl rfl rfl | exact binds_K (binds := [(_, _), (_, _), (_, _), (_, _)]) (by k_in) rfl (by k_is) rfl rfl rfl | exact binds_K (binds := [(_, _), (_, _), (_, _), (_, _), (_, _)]) (by k_in) rfl (by k_is) rfl rfl rfl | exact binds_K (binds := [(_, _), (_, _), (_, _), (_, _), (_, _), (_, _)]) (by k_in) rfl (by k_is) rfl rfl rfl | exact binds_K (binds := [(_, _), (_, _), (_, _), (_, _), (_, _), (_, _), (_, _)]) (by k_in) rfl (by k_is) rfl rfl rfl | exact binds_K (binds := [(_, _), (_, _), (_, _), (_, _), (_, _), (_, _), (_, _), (_, _)]) (by k_in) rfl (by k_is) rfl rfl rfl | exact binds_K (binds := [(_, _), (_, _), (_, _), (_, _), (_, _), (_, _), (_, _), (_, _), (_, _)]) (by k_in) rfl (by k_is) rfl rfl rfl
  k_with  "execs cons" => refine execs_consK ?_
  k_with  "execs nil" => refine wpAny_execs_nil ?_
  k_with  "ExK" => ((first | refine ExK.next ?_ | refine ExK.ret ?_ | refine ExK.brk ?_ | refine ExK.cont ?_); (try dsimp only))
  k_with  "LeaveK" => (k_dflt (refine leaveS (by k_asm) (by k_asm) ?_; k_whole); intro _ _; (try dsimp only))
  trivial
set_option maxRecDepth 100000 in
set_option maxHeartbeats 2000000 in
theorem spec_net_of (prog : Program) (w : World) (x y : Int) (tx ty : Tok) (news : Led) (h0 : 0 ≤ y) (h1 : y ≤ 32) :
    Spec prog w 67 2 16 [.int x tx, .int y ty] news (fun news v news' => news = news' ∧ ∃ t, v = .int (netOf x y) t) := by
  intro p loose mean mg mb dp un gd cn cs a ccd cl outer A₀ base h₀ L m s Q E B F X N T hk hd hu hret
  obtain mk_F2_1 : True := trivial
  k_with "spec" => (guard_hyp mk_F2_1; exact spec_mask_of _ _ _ _ _ (by omega) (by omega))
  k_with "post" => (guard_hyp mk_F2_1; (rename_i P9; obtain ⟨rfl, t9, rfl⟩ := P9))
  walk_at "m_enter"
  k_steps
  all_goals (rw [and_net _ _ h0 h1]; exact hret _ _ _ _ (by k_asm) (by k_asm) ⟨rfl, _, rfl⟩)

set_option maxRecDepth 100000 in
set_option maxHeartbeats 2000000 in
theorem spec_is_in (prog : Program) (w : World) (x y z : Int) (tx ty tz : Tok) (news : Led) (h0 : 0 ≤ z) (h1 : z ≤ 32) :
    Spec prog w 74 3 24 [.int x tx, .int y ty, .int z tz] news (fun news v news' => news = news' ∧ v = .bool (decide (netOf x z = netOf y z))) := by
  intro p loose mean mg mb dp un gd cn cs a ccd cl outer A₀ base h₀ L m s Q E B F X N T hk hd hu hret
  obtain mk_F2_2 : True := trivial
  k_with "spec" => (guard_hyp mk_F2_2; exact spec_net_of _ _ _ _ _ _ _ (by omega) (by omega))
  k_with "post" => (guard_hyp mk_F2_2; (rename_i P9; obtain ⟨rfl, t9, rfl⟩ := P9))
  walk_at "m_enter"
  k_steps
  all_goals exact hret _ _ _ _ (by k_asm) (by k_asm) ⟨rfl, rfl⟩

set_option maxRecDepth 100000 in
set_option maxHeartbeats 2000000 in
theorem spec_is_broadcast (prog : Program) (w : World) (x y z : Int) (tx ty tz : Tok) (news : Led) (h0 : 0 ≤ z) (h1 : z ≤ 32) :
    Spec prog w 81 3 24 [.int x tx, .int y ty, .int z tz] news (fun news v news' => news = news' ∧ v = .bool (decide (x = 4294967295 ∨ (z < 31 ∧ x = netOf y z + (pw (32 - z) - 1))))) := by
  intro p loose mean mg mb dp un gd cn cs a ccd cl outer A₀ base h₀ L m s Q E B F X N T hk hd hu hret
  obtain mk_F2_3 : True := trivial
  k_with "spec" => (guard_hyp mk_F2_3; first | exact spec_net_of _ _ _ _ _ _ _ (by omega) (by omega) | exact spec_mask_of _ _ _ _ _ (by omega) (by omega))
  k_with "post" => (guard_hyp mk_F2_3; (rename_i P9; obtain ⟨rfl, t9, rfl⟩ := P9))
  walk_at "m_enter"
  k_steps
  all_goals refine hret _ _ _ _ (by k_asm) (by k_asm) ⟨rfl, congrArg Value.bool ?_⟩
  all_goals (try simp only [decide_eq_true_eq, decide_eq_false_iff_not, beq_iff_eq, beq_eq_false_iff_ne, ne_eq, Bool.not_eq_true] at *)
  all_goals (unfold netOf pw at *)
  all_goals (refine Bool.eq_iff_iff.mpr ?_; simp only [decide_eq_true_eq, beq_iff_eq, Bool.false_eq_true, false_iff, true_iff]; try omega)

set_option maxRecDepth 100000 in
set_option maxHeartbeats 2000000 in
theorem spec_is_loop (prog : Program) (w : World) (x : Int) (tx : Tok) (news : Led) (h0 : 0 ≤ x) (h1 : x ≤ 4294967296) :
    Spec prog w 88 3 24 [.int x tx] news (fun news v news' => news = news' ∧ v = .bool (decide (x / 16777216 = 127))) := by
  intro p loose mean mg mb dp un gd cn cs a ccd cl outer A₀ base h₀ L m s Q E B F X N T hk hd hu hret
  obtain mk_F2_4 : True := trivial
  walk_at "m_enter"
  k_steps
  all_goals refine hret _ _ _ _ (by k_asm) (by k_asm) ⟨rfl, congrArg Value.bool ?_⟩
  all_goals (try simp only [decide_eq_true_eq, decide_eq_false_iff_not, beq_iff_eq, beq_eq_false_iff_ne, ne_eq, Bool.not_eq_true] at *)
  all_goals (rw [Int.fdiv_eq_ediv_of_nonneg _ (by decide), show (2 : Int) ^ Int.toNat 24 = 16777216 by decide])
  all_goals (refine Bool.eq_iff_iff.mpr ?_; simp only [decide_eq_true_eq, beq_iff_eq, Bool.false_eq_true, false_iff, true_iff]; try omega)

set_option maxRecDepth 100000 in
set_option maxHeartbeats 2000000 in
theorem spec_law_all (prog : Program) (w : World) (news : Led) :
    Spec prog w 283 1 8 [] news (fun news v news' => news = news' ∧ ∃ t, v = .int 4294967295 t) := by
  intro p loose mean mg mb dp un gd cn cs a ccd cl outer A₀ base h₀ L m s Q E B F X N T hk hd hu hret
  obtain mk_F2_5 : True := trivial
  walk_at "m_enter"
  k_steps
  all_goals exact hret _ _ _ _ (by k_asm) (by k_asm) ⟨rfl, _, rfl⟩

set_option maxRecDepth 100000 in
set_option maxHeartbeats 2000000 in
theorem spec_law_is_well (prog : Program) (w : World) (x y : Int) (tx ty : Tok) (news : Led) (h0 : -1 ≤ y) (h1 : y ≤ 33) :
    Spec prog w 290 2 16 [.int x tx, .int y ty] news (fun news v news' => news = news' ∧ v = .bool (decide (0 ≤ y ∧ y ≤ 32 ∧ 0 ≤ x ∧ x ≤ 4294967295 ∧ x % pw (32 - y) = 0))) := by
  intro p loose mean mg mb dp un gd cn cs a ccd cl outer A₀ base h₀ L m s Q E B F X N T hk hd hu hret
  obtain mk_F2_6 : True := trivial
  k_with "spec" => (guard_hyp mk_F2_6; exact spec_law_all _ _ _)
  k_with "post" => (guard_hyp mk_F2_6; (rename_i P9; obtain ⟨rfl, t9, rfl⟩ := P9))
  walk_at "m_enter"
  k_steps
  all_goals refine hret _ _ _ _ (by k_asm) (by k_asm) ⟨rfl, congrArg Value.bool ?_⟩
  all_goals (try simp only [decide_eq_true_eq, decide_eq_false_iff_not, beq_iff_eq, beq_eq_false_iff_ne, ne_eq, Bool.not_eq_true] at *)
  all_goals (try rw [Int.fmod_eq_emod_of_nonneg _ (Int.le_of_lt (pw_pos _))])
  all_goals (refine Bool.eq_iff_iff.mpr ?_; simp only [decide_eq_true_eq, beq_iff_eq, Bool.false_eq_true, false_iff, true_iff]; try omega)

section
variable {prog : Program} {w : World} {A : Around} {E : Value → Shared → Prop} {s : Shared} {h₀ : Heap} {L l b : Addr} {news : Led} {rs : List Value} {c c2 : Nat} {Q : Value → Shared → Prop}
theorem eq_nil (N : News h₀ L s.heap news) (hl : (l, listOf rs.toArray c) ∈ news) (hb : (b, listOf #[] c2) ∈ news) (hu : A.units < cLine) (h : Q (.bool rs.isEmpty) s) :
    wpAny (model prog w) A (compareOp .Eq (.ref l) (.ref b)) Q E s := by
  cases rs with
  | nil => exact P.eq_list (e := fun _ => true) (N.get hl) (N.get hb) rfl (fun j h1 => absurd h1 (Nat.not_lt_zero _)) hu (by simpa using h)
  | cons x r => exact P.eq_list_lengths (N.get hl) (N.get hb) (by simp) hu (by simpa using h)
theorem ne_nil (N : News h₀ L s.heap news) (hl : (l, listOf rs.toArray c) ∈ news) (hb : (b, listOf #[] c2) ∈ news) (hu : A.units < cLine) (h : Q (.bool (!rs.isEmpty)) s) :
    wpAny (model prog w) A (compareOp .NotEq (.ref l) (.ref b)) Q E s := by
  cases rs with
  | nil => exact PySem.SeqAt.RcNeAt.lists (e := fun _ => true) (N.isList hl) (N.isList hb) rfl hu (fun j h1 => absurd h1 (Nat.not_lt_zero _)) prog w E Q (by simpa using h)
  | cons x r => exact PySem.SeqAt.RcNeAt.lists_lengths (N.isList hl) (N.isList hb) (by simp) hu prog w E Q (by simpa using h)
end

noncomputable abbrev ent (w : World) (x : String) (t : Tok) (v : Value) : DictEntry := ⟨PyData.keyHash w.params (Str.ofString x), .str (Str.ofString x) t, v⟩
noncomputable abbrev brD (w : World) (t0 t1 t2 : Tok) (z o r : Value) : Obj := dictOf [ent w "zero" t0 z, ent w "one" t1 o, ent w "routes" t2 r] 3
noncomputable abbrev rtD (w : World) (t0 t1 t2 t3 t4 : Tok) (n p g f m : Value) : Obj := dictOf [ent w "net" t0 n, ent w "prefix" t1 p, ent w "gateway" t2 g, ent w "face" t3 f, ent w "metric" t4 m] 5
noncomputable abbrev tbD (w : World) (t0 t1 : Tok) (r m : Value) : Obj := dictOf [ent w "root" t0 r, ent w "many" t1 m] 2

set_option maxRecDepth 100000 in
set_option maxHeartbeats 2000000 in
theorem spec_newBranch (prog : Program) (w : World) (news : Led) :
    Spec prog w 169 2 16 [] news (fun news v news' => ∃ b d l t0 t1 t2 c, v = .ref b ∧ news' = (l, listOf #[] c) :: (b, instObj 169 d) :: (d, brD w t0 t1 t2 .none .none (.ref l)) :: news ∧ AllLt d news ∧ @LT.lt Nat _ d b ∧ @LT.lt Nat _ b l) := by
  intro p loose mean mg mb dp un gd cn cs a ccd cl outer A₀ base h₀ L m s Q E B F X N T hk hd hu hret
  obtain mk_F3_1 : True := trivial
  k_dflt (refine' call_cls ?k1 ?k2 ?k3 ?k4 ?k5 ?k6 ?_; (case k1 => k_asm); (case k2 => k_asm); (case k3 => k_asm); (case k4 => k_is); (case k5 => k_is); (case k6 => k_is); k_whole; intro x' d' h' F' N' l1 l2; (try k_lt2 l2); (try k_sweep); walk_at "m_enter")
  k_steps
  all_goals exact hret _ _ _ _ (by k_asm) (by k_asm) ⟨x', d', _, _, _, _, _, rfl, rfl, allLt_of l1, l2, ltN (by omega)⟩

set_option maxRecDepth 100000 in
set_option maxHeartbeats 2000000 in
theorem spec_newRoute (prog : Program) (w : World) (n p g f e : Value) (news : Led) :
    Spec prog w 120 2 16 [n, p, g, f, e] news (fun news v news' => ∃ b d t0 t1 t2 t3 t4, v = .ref b ∧ news' = (b, instObj 120 d) :: (d, rtD w t0 t1 t2 t3 t4 n p g f e) :: news ∧ AllLt d news ∧ @LT.lt Nat _ d b) := by
  intro p loose mean mg mb dp un gd cn cs a ccd cl outer A₀ base h₀ L m s Q E B F X N T hk hd hu hret
  obtain mk_F3_2 : True := trivial
  k_dflt (refine' call_cls ?k1 ?k2 ?k3 ?k4 ?k5 ?k6 ?_; (case k1 => k_asm); (case k2 => k_asm); (case k3 => k_asm); (case k4 => k_is); (case k5 => k_is); (case k6 => k_is); k_whole; intro x' d' h' F' N' l1 l2; (try k_lt2 l2); (try k_sweep); walk_at "m_enter")
  k_steps
  all_goals exact hret _ _ _ _ (by k_asm) (by k_asm) ⟨x', d', _, _, _, _, _, rfl, rfl, allLt_of l1, l2⟩

set_option maxRecDepth 100000 in
set_option maxHeartbeats 2000000 in
theorem spec_newRoute4 (prog : Program) (w : World) (n p g f : Value) (news : Led) :
    Spec prog w 120 2 16 [n, p, g, f] news (fun news v news' => ∃ b d t0 t1 t2 t3 t4 tm, v = .ref b ∧ news' = (b, instObj 120 d) :: (d, rtD w t0 t1 t2 t3 t4 n p g f (.int 0 tm)) :: news ∧ AllLt d news ∧ @LT.lt Nat _ d b) := by
  intro p loose mean mg mb dp un gd cn cs a ccd cl outer A₀ base h₀ L m s Q E B F X N T hk hd hu hret
  obtain mk_F3_3 : True := trivial
  k_dflt (refine' call_cls ?k1 ?k2 ?k3 ?k4 ?k5 ?k6 ?_; (case k1 => k_asm); (case k2 => k_asm); (case k3 => k_asm); (case k4 => k_is); (case k5 => k_is); (case k6 => k_is); k_whole; intro x' d' h' F' N' l1 l2; (try k_lt2 l2); (try k_sweep); walk_at "m_enter")
  k_steps
  all_goals exact hret _ _ _ _ (by k_asm) (by k_asm) ⟨x', d', _, _, _, _, _, _, rfl, rfl, allLt_of l1, l2⟩

set_option maxRecDepth 100000 in
set_option maxHeartbeats 2000000 in
theorem spec_newRoutes (prog : Program) (w : World) (news : Led) :
    Spec prog w 251 6 48 [] news (fun news v news' => ∃ x td b d l t0 t1 t2 t3 t4 t5 c, v = .ref x ∧ news' = (l, listOf #[] c) :: (b, instObj 169 d) :: (d, brD w t0 t1 t2 .none .none (.ref l)) :: (x, instObj 251 td) :: (td, tbD w t3 t4 (.ref b) (.int 0 t5)) :: news ∧ AllLt td news ∧ @LT.lt Nat _ td x ∧ @LT.lt Nat _ x d ∧ @LT.lt Nat _ d b ∧ @LT.lt Nat _ b l) := by
  intro p loose mean mg mb dp un gd cn cs a ccd cl outer A₀ base h₀ L m s Q E B F X N T hk hd hu hret
  obtain mk_F3_4 : True := trivial
  k_with "spec" => (guard_hyp mk_F3_4; exact spec_newBranch _ _ _)
  k_with "post" => (guard_hyp mk_F3_4; (subst he9; rename_i P9; obtain ⟨b9, d9, l9, t0, t1, t2, c9, rfl, rfl, q1, q2, q3⟩ := P9; simp only [AllLt] at q1))
  k_dflt (refine' call_cls ?k1 ?k2 ?k3 ?k4 ?k5 ?k6 ?_; (case k1 => k_asm); (case k2 => k_asm); (case k3 => k_asm); (case k4 => k_is); (case k5 => k_is); (case k6 => k_is); k_whole; intro x' d' h' F' N' l1 l2; (try k_lt2 l2); (try k_sweep); walk_at "m_enter")
  k_steps
  all_goals exact hret _ _ _ _ (by k_asm) (by k_asm) ⟨x', d', _, _, _, _, _, _, _, _, _, _, rfl, rfl, allLt_of l1, l2, q1.1, q2, q3⟩

set_option maxRecDepth 100000 in
set_option maxHeartbeats 2000000 in
theorem spec_child (prog : Program) (w : World) (b d : Addr) (t0 t1 t2 : Tok) (z o r : Value) (x : Int) (tx : Tok) (news : Led) (h1 : (b, instObj 169 d) ∈ news) (h2 : (d, brD w t0 t1 t2 z o r) ∈ news) (hz : handedIn z = true) (ho : handedIn o = true) :
    Spec prog w 145 1 8 [.ref b, .int x tx] news (fun news v news' => news = news' ∧ v = if x = 0 then z else o) := by
  intro p loose mean mg mb dp un gd cn cs a ccd cl outer A₀ base h₀ L m s Q E B F X N T hk hd hu hret
  obtain mk_F3_5 : True := trivial
  walk_at "m_enter"
  k_steps
  all_goals refine hret _ _ _ _ (by k_asm) (by k_asm) ⟨rfl, ?_⟩
  all_goals (simp only [beq_iff_eq, beq_eq_false_iff_ne, ne_eq, decide_eq_true_eq, decide_eq_false_iff_not] at *)
  all_goals simp [*]

set_option maxRecDepth 100000 in
set_option maxHeartbeats 2000000 in
theorem spec_set_child (prog : Program) (w : World) (b d : Addr) (t0 t1 t2 : Tok) (z o r y : Value) (x : Int) (tx : Tok) (news : Led) (h1 : (b, instObj 169 d) ∈ news) (h2 : (d, brD w t0 t1 t2 z o r) ∈ news) :
    Spec prog w 152 1 8 [.ref b, .int x tx, y] news (fun news v news' => v = .none ∧ news' = updL d (brD w t0 t1 t2 (if x = 0 then y else z) (if x = 0 then o else y) r) news) := by
  intro p loose mean mg mb dp un gd cn cs a ccd cl outer A₀ base h₀ L m s Q E B F X N T hk hd hu hret
  obtain mk_F3_6 : True := trivial
  k_with "updl" => (guard_hyp mk_F3_6; skip)
  walk_at "m_enter"
  k_steps
  all_goals refine hret _ _ _ _ (by k_asm) (by k_asm) ⟨rfl, ?_⟩
  all_goals (simp only [beq_iff_eq, beq_eq_false_iff_ne, ne_eq, decide_eq_true_eq, decide_eq_false_iff_not] at *)
  all_goals simp only [*, if_true, if_false]

/-- none or a reference -/
noncomputable abbrev vr : Option Addr → Value
  | none => .none
  | some a => .ref a
theorem vr_handed (o : Option Addr) : handedIn (vr o) = true := by cases o <;> rfl

set_option maxRecDepth 100000 in
set_option maxHeartbeats 2000000 in
theorem spec_row (prog : Program) (w : World) (b d : Addr) (t0 t1 t2 t3 t4 : Tok) (n p g f e : Int) (u0 u1 u2 u3 u4 : Tok) (news : Led) (h1 : (b, instObj 120 d) ∈ news) (h2 : (d, rtD w t0 t1 t2 t3 t4 (.int n u0) (.int p u1) (.int g u2) (.int f u3) (.int e u4)) ∈ news) :
    Spec prog w 117 1 8 [.ref b] news (fun news v news' => ∃ x, v = .ref x ∧ news' = (x, seqObj "tuple" #[.int n u0, .int p u1, .int g u2, .int f u3, .int e u4] 0) :: news ∧ AllLt x news) := by
  intro p loose mean mg mb dp un gd cn cs a ccd cl outer A₀ base h₀ L m s Q E B F X N T hk hd hu hret
  obtain mk_F3_7 : True := trivial
  walk_at "m_enter"
  k_steps
  all_goals (rename ∀ p ∈ news, p.1 < _ => l9)
  all_goals exact hret _ _ _ _ (by k_asm) (by k_asm) ⟨_, rfl, rfl, allLt_of l9⟩

set_option maxRecDepth 100000 in
set_option maxHeartbeats 2000000 in
theorem spec_size (prog : Program) (w : World) (x td : Addr) (t0 t1 t2 : Tok) (r : Value) (y : Int) (news : Led) (h1 : (x, instObj 251 td) ∈ news) (h2 : (td, tbD w t0 t1 r (.int y t2)) ∈ news) :
    Spec prog w 201 1 8 [.ref x] news (fun news v news' => news = news' ∧ v = .int y t2) := by
  intro p loose mean mg mb dp un gd cn cs a ccd cl outer A₀ base h₀ L m s Q E B F X N T hk hd hu hret
  obtain mk_F3_8 : True := trivial
  walk_at "m_enter"
  k_steps
  all_goals exact hret _ _ _ _ (by k_asm) (by k_asm) ⟨rfl, rfl⟩

set_option maxRecDepth 100000 in
set_option maxHeartbeats 2000000 in
theorem spec_is_bare (prog : Program) (w : World) (b d l : Addr) (t0 t1 t2 : Tok) (z o : Option Addr) (rs : List Value) (c : Nat) (news : Led) (h1 : (b, instObj 169 d) ∈ news) (h2 : (d, brD w t0 t1 t2 (vr z) (vr o) (.ref l)) ∈ news) (h3 : (l, listOf rs.toArray c) ∈ news) :
    Spec prog w 159 1 8 [.ref b] news (fun news v news' => (∃ x, news' = (x, listOf #[] 0) :: news ∧ AllLt x news) ∧ v = .bool (rs.isEmpty && z.isNone && o.isNone)) := by
  intro p loose mean mg mb dp un gd cn cs a ccd cl outer A₀ base h₀ L m s Q E B F X N T hk hd hu hret
  obtain mk_F4_1 : True := trivial
  cases z <;> cases o
  all_goals (
    walk_at "m_enter"
    k_steps)
  all_goals (rename ∀ p ∈ news, p.1 < _ => l9)
  all_goals exact hret _ _ _ _ (by k_asm) (by k_asm) ⟨⟨_, rfl, allLt_of l9⟩, congrArg Value.bool (by simp [*])⟩

section
variable {prog : Program} {w : World} {A : Around} {E : Value → Shared → Prop} {s : Shared} {env : Env} {h₀ : Heap} {x : Str} {body : List Stmt} {Q : Flow → Shared → Prop}

/-- the end of a turn of a loop over a list of the ledger -/
noncomputable def LedEnd (h₀ : Heap) (L : Addr) (J : (Str → Option Value) → Led → Prop) (I : Addr) (oI : Obj) (s₁ s₂ : Shared) : Prop :=
  ∃ h' tk m' news' news₂, s₂ = { s₁ with heap := h', toks := tk } ∧ Fr h₀ L h' m' ∧ News h₀ L h' news' ∧ ((I, oI) ∈ news') ∧ (∀ p ∈ news₂, p ∈ news') ∧ (∀ p ∈ news₂, p.1 ≠ I) ∧ J m' news₂
noncomputable def LedPost (h₀ : Heap) (L : Addr) (J : (Str → Option Value) → Led → Prop) (I : Addr) (oI : Obj) (s₁ : Shared) (Q : Flow → Shared → Prop) (f : Flow) (s₂ : Shared) : Prop :=
  match f with
  | .ret v => Q (.ret v) s₂
  | .brk => Q .next s₂
  | _ => LedEnd h₀ L J I oI s₁ s₂

theorem iter_led {l : Addr} {items : List Value} {c : Nat} {m₀ : Str → Option Value} {news : Led} (J : Nat → (Str → Option Value) → Led → Prop)
    (hh : A.handled = none) (F : Fr h₀ env.locals s.heap m₀) (N : News h₀ env.locals s.heap news) (hl : (l, listOf items.toArray c) ∈ news)
    (hj : J 0 m₀ news) (hJl : ∀ i m n, J i m n → (l, listOf items.toArray c) ∈ n)
    (turn : ∀ i v m₁ news₁ h tk I oI, items[i]? = some v → J i m₁ news₁ → (∀ p ∈ news₁, p.1 ≠ I) → (∀ p ∈ news, p.1 < I) → Fr h₀ env.locals h (fun y => if y = x then some v else m₁ y) → News h₀ env.locals h ((I, oI) :: news₁) →
      wpAny (model prog w) A (execs body env) (LedPost h₀ env.locals (J (i + 1)) I oI { s with heap := h, toks := tk } Q) E { s with heap := h, toks := tk })
    (done : ∀ m₁ news₁ h tk, J items.length m₁ news₁ → Fr h₀ env.locals h m₁ → News h₀ env.locals h news₁ → Q .next { s with heap := h, toks := tk }) :
    wpAny (model prog w) A (pyIter (.ref l)) (fun it s₂ => LoopAtV prog w A h₀ env x body Q E it s₂) E s := by
  have hls : s.heap.IsList l items.toArray := N.isList hl
  have hll := N _ hl
  have hlt : l < s.heap.objs.size := Heap.lt_size hll.1
  have hne : l ≠ s.heap.objs.size := Nat.ne_of_lt hlt
  refine wpAny_pyIter_list hls ?_
  have W := Walks.list (prog := prog) (w := w) hh s.heap.objs.size l hne items.toArray
  have hlen : items.toArray.size = items.length := by simp
  rw [hlen] at W
  let J' : Nat → (Str → Option Value) → Led → Prop := J
  refine ⟨_, _, _, items.length, _, _, m₀, news, J', rfl, W, ?_, ?_, ?_, ⟨⟨_, Heap.get?_push_size _ rfl, rfl, rfl⟩, hls.at fun o e => Heap.get?_push_of_some _ e⟩, F.push _, (fun p hp => ⟨Heap.get?_push_of_some _ (N p hp).1, (N p hp).2⟩), hj, ?_, ?_⟩
  · intro hm
    rcases List.mem_cons.mp hm with e | hm
    · exact absurd F.ns.lt (e ▸ Nat.lt_irrefl _)
    · exact hll.2.1 ((List.mem_singleton.mp hm).symm)
  · intro b hb
    rw [List.mem_singleton.mp hb]
    exact next_is_new F
  · intro p hp hI
    exact absurd (Heap.lt_size (N p hp).1) ((List.mem_singleton.mp hI) ▸ Nat.lt_irrefl _)
  · rintro i v m₁ news₁ s₁ own ⟨hh', tk', rfl⟩ hin hP hJ hoff hown hget hall hst F₁ N₁
    have hv : items[i]? = some v := by simpa using hP
    obtain ⟨oI, hoI, _⟩ := hst.1
    have hIown : (s.heap.objs.size, oI) ∈ own := hall _ (.head _) (next_is_new F) oI hoI
    have hIg := N₁ _ (List.mem_append_left _ hIown)
    have NI : News h₀ env.locals hh' ((s.heap.objs.size, oI) :: news₁) := fun q hq => by
      rcases List.mem_cons.mp hq with rfl | hq
      · exact hIg
      · exact N₁ q (List.mem_append_right _ hq)
    have hoff' : ∀ p ∈ news₁, p.1 ≠ s.heap.objs.size := fun p hp e => hoff p hp (by rw [e]; exact .head _)
    refine wpAny_mono (turn i v m₁ news₁ hh' tk' s.heap.objs.size oI hv hJ hoff' (fun p hp => Heap.lt_size (N p hp).1) F₁ NI) (fun f s₂ p => ?_) fun _ _ e => e
    have fin : LedEnd h₀ env.locals (J (i + 1)) s.heap.objs.size oI { s with heap := hh', toks := tk' } s₂ → LoopStepU h₀ env.locals [s.heap.objs.size] own (J' (i + 1)) { s with heap := hh', toks := tk' } .next s₂ := by
      rintro ⟨h', tk, m', news', news₂, e, F', N', hI, hsub, hoff₂, hm⟩
      refine ⟨rfl, h', tk, m', news₂, e, F', fun q hq => ?_, fun p hp hI => hoff₂ p hp (List.mem_singleton.mp hI), hm⟩
      rcases List.mem_append.mp hq with hq | hq
      · rcases List.mem_cons.mp (hown q hq) with h1 | h1
        · have e1 : q = (s.heap.objs.size, oI) := by
            have := hget q hq
            rw [h1, hoI] at this
            exact Prod.ext h1 (Option.some.inj this).symm
          exact e1 ▸ N' _ hI
        · have h1 := List.mem_singleton.mp h1
          have hl2 := hJl _ _ _ hm
          have hl1 := N₁ _ (List.mem_append_right _ (hJl _ _ _ hJ))
          have e1 : q = (l, listOf items.toArray c) := by
            have := hget q hq
            rw [h1, hl1.1] at this
            exact Prod.ext h1 (Option.some.inj this).symm
          exact e1 ▸ N' _ (hsub _ hl2)
      · exact N' q (hsub q hq)
    cases f with
    | ret v => exact .ret p
    | brk => exact .brk p
    | next => exact .next (fin p)
    | cont => exact .cont (fin p)
  · rintro h' tk m' news' F' N' _ hJ
    exact done m' news' h' tk hJ F' N'
theorem LedEnd.intro {L : Addr} {J : (Str → Option Value) → Led → Prop} {I : Addr} {oI : Obj} {s₁ : Shared} {h' : Heap} {tk : Nat} {m' : Str → Option Value} {news' : Led} (news₂ : Led)
    (F : Fr h₀ L h' m') (N : News h₀ L h' news') (hI : (I, oI) ∈ news') (hs : ∀ p ∈ news₂, p ∈ news') (hn : ∀ p ∈ news₂, p.1 ≠ I) (hj : J m' news₂) : LedEnd h₀ L J I oI s₁ { s₁ with heap := h', toks := tk } :=
  ⟨h', tk, m', news', news₂, rfl, F, N, hI, hs, hn, hj⟩
end
/-- a frame with names set -/
noncomputable def setL : List (Str × Value) → (Str → Option Value) → Str → Option Value
  | [], m => m
  | (y, v) :: r, m => fun z => if z = y then some v else setL r m z
theorem setL_one {m : Str → Option Value} {y : Str} {v : Value} (h : m y = some v) : ∀ z, setL [(y, v)] m z = m z := by
  intro z; simp only [setL]; split
  · next e => rw [e, h]
  · rfl
theorem setL_two {m : Str → Option Value} {y y' : Str} {v v' : Value} (h : m y = some v) (h' : m y' = some v') : ∀ z, setL [(y, v), (y', v')] m z = m z := by
  intro z; simp only [setL]; split
  · next e => rw [e, h]
  · split
    · next e => rw [e, h']
    · rfl
theorem setL_three {m : Str → Option Value} {y y' y'' : Str} {v v' v'' : Value} (h : m y = some v) (h' : m y' = some v') (h'' : m y'' = some v'') : ∀ z, setL [(y, v), (y', v'), (y'', v'')] m z = m z := by
  intro z; simp only [setL]; split
  · next e => rw [e, h]
  · split
    · next e => rw [e, h']
    · split
      · next e => rw [e, h'']
      · rfl

section
variable {prog : Program} {w : World} {A : Around} {E : Value → Shared → Prop} {s : Shared} {env : Env} {h₀ : Heap} {x : Str} {body : List Stmt} {Q : Flow → Shared → Prop}
theorem iter_rng {r : Addr} {b₀ : Int} {t₀ u₀ v₀ : Tok} {n : Nat} {m₀ : Str → Option Value} {news : Led} (J : Nat → (Str → Option Value) → Led → Prop)
    (hh : A.handled = none) (hr : IsRange s.heap r 0 b₀ 1 t₀ u₀ v₀) (hsmall : Builtin.Range.small 0 b₀ 1 = true) (hn : Builtin.Range.rangeSize 0 b₀ 1 = (n : Int)) (F : Fr h₀ env.locals s.heap m₀) (N : News h₀ env.locals s.heap news)
    (hj : J 0 m₀ news)
    (turn : ∀ i t m₁ news₁ h tk I oI, i < n → J i m₁ news₁ → (∀ p ∈ news₁, p.1 ≠ I) → (∀ p ∈ news, p.1 < I) → Fr h₀ env.locals h (fun y => if y = x then some (.int (i : Nat) t) else m₁ y) → News h₀ env.locals h ((I, oI) :: news₁) →
      wpAny (model prog w) A (execs body env) (LedPost h₀ env.locals (J (i + 1)) I oI { s with heap := h, toks := tk } Q) E { s with heap := h, toks := tk })
    (done : ∀ m₁ news₁ h tk, J n m₁ news₁ → Fr h₀ env.locals h m₁ → News h₀ env.locals h news₁ → Q .next { s with heap := h, toks := tk }) :
    wpAny (model prog w) A (pyIter (.ref r)) (fun it s₂ => LoopAtV prog w A h₀ env x body Q E it s₂) E s := by
  refine wpAny_pyIter_range hr hsmall ?_
  have W : Walks prog w A s.heap.objs.size [s.heap.objs.size] [s.heap.objs.size] n (fun i v => i < n ∧ ∃ t, v = .int (0 + i * 1) t)
      (fun i h => IsRangeIter h s.heap.objs.size (0 + (i : Nat) * 1) ((n : Int) - (i : Nat)) 1) := (Walks.range hh _ 0 1 n).bound
  refine ⟨_, _, _, n, _, _, m₀, news, J, rfl, W, ?_, ?_, ?_, (by show IsRangeIter _ _ _ _ _; rw [hn]; simpa using Heap.get?_push_size _ rfl), F.push _, (fun p hp => ⟨Heap.get?_push_of_some _ (N p hp).1, (N p hp).2⟩), hj, ?_, ?_⟩
  · intro hm
    exact absurd F.ns.lt ((List.mem_singleton.mp hm) ▸ Nat.lt_irrefl _)
  · intro b hb
    rw [List.mem_singleton.mp hb]
    exact next_is_new F
  · intro p hp hI
    exact absurd (Heap.lt_size (N p hp).1) ((List.mem_singleton.mp hI) ▸ Nat.lt_irrefl _)
  · rintro i v m₁ news₁ s₁ own ⟨hh', tk', rfl⟩ hin hP hJ hoff hown hget hall hst F₁ N₁
    obtain ⟨_, t, rfl⟩ := hP
    rw [show (0 : Int) + (i : Int) * 1 = (i : Int) by (clear hin hn; omega)] at F₁
    have hst' : IsRangeIter hh' s.heap.objs.size (0 + ((i + 1 : Nat) : Int) * 1) ((n : Int) - ((i + 1 : Nat) : Int)) 1 := hst
    obtain ⟨oI, hoI⟩ : ∃ o, hh'.get? s.heap.objs.size = some o := ⟨_, hst'⟩
    have hIown : (s.heap.objs.size, oI) ∈ own := hall _ (.head _) (next_is_new F) oI hoI
    have hIg := N₁ _ (List.mem_append_left _ hIown)
    have NI : News h₀ env.locals hh' ((s.heap.objs.size, oI) :: news₁) := fun q hq => by
      rcases List.mem_cons.mp hq with rfl | hq
      · exact hIg
      · exact N₁ q (List.mem_append_right _ hq)
    have hoff' : ∀ p ∈ news₁, p.1 ≠ s.heap.objs.size := fun p hp e => hoff p hp (by rw [e]; exact .head _)
    refine wpAny_mono (turn i t m₁ news₁ hh' tk' s.heap.objs.size oI hin hJ hoff' (fun p hp => Heap.lt_size (N p hp).1) F₁ NI) (fun f s₂ p => ?_) fun _ _ e => e
    have fin : LedEnd h₀ env.locals (J (i + 1)) s.heap.objs.size oI { s with heap := hh', toks := tk' } s₂ → LoopStepU h₀ env.locals [s.heap.objs.size] own (J (i + 1)) { s with heap := hh', toks := tk' } .next s₂ := by
      rintro ⟨h', tk, m', news', news₂, e, F', N', hI, hsub, hoff₂, hm⟩
      refine ⟨rfl, h', tk, m', news₂, e, F', fun q hq => ?_, fun p hp hI => hoff₂ p hp (List.mem_singleton.mp hI), hm⟩
      rcases List.mem_append.mp hq with hq | hq
      · have h1 := List.mem_singleton.mp (hown q hq)
        have e1 : q = (s.heap.objs.size, oI) := by
          have := hget q hq
          rw [h1, hoI] at this
          exact Prod.ext h1 (Option.some.inj this).symm
        exact e1 ▸ N' _ hI
      · exact N' q (hsub q hq)
    cases f with
    | ret v => exact .ret p
    | brk => exact .brk p
    | next => exact .next (fin p)
    | cont => exact .cont (fin p)
  · rintro h' tk m' news' F' N' _ hJ
    exact done m' news' h' tk hJ F' N'

/-- the end of a turn, the frame's names told -/
noncomputable def NamEnd (h₀ : Heap) (L : Addr) (x : Str) (st ys : List Str) (m₀ : Str → Option Value) (P : List Value → Led → Prop) (I : Addr) (oI : Obj) (s₁ s₂ : Shared) : Prop :=
  ∃ h' tk m' news' news₂ vs, s₂ = { s₁ with heap := h', toks := tk } ∧ Fr h₀ L h' m' ∧ News h₀ L h' news' ∧ ((I, oI) ∈ news') ∧ (∀ p ∈ news₂, p ∈ news') ∧ (∀ p ∈ news₂, p.1 ≠ I) ∧ (∀ z, z ≠ x → st.contains z = false → m' z = setL (ys.zip vs) m₀ z) ∧ P vs news₂
noncomputable def NamPost (h₀ : Heap) (L : Addr) (x : Str) (st ys : List Str) (m₀ : Str → Option Value) (P : List Value → Led → Prop) (I : Addr) (oI : Obj) (s₁ : Shared) (Q : Flow → Shared → Prop) (f : Flow) (s₂ : Shared) : Prop :=
  match f with
  | .ret v => Q (.ret v) s₂
  | .brk => Q .next s₂
  | _ => NamEnd h₀ L x st ys m₀ P I oI s₁ s₂
theorem NamEnd.intro {L : Addr} {st ys : List Str} {m₀ : Str → Option Value} {P : List Value → Led → Prop} {I : Addr} {oI : Obj} {s₁ : Shared} {h' : Heap} {tk : Nat} {m' : Str → Option Value} {news' : Led} (vs : List Value) (news₂ : Led)
    (F : Fr h₀ L h' m') (N : News h₀ L h' news') (hI : (I, oI) ∈ news') (hs : ∀ p ∈ news₂, p ∈ news') (hn : ∀ p ∈ news₂, p.1 ≠ I) (hm : ∀ z, z ≠ x → st.contains z = false → m' z = setL (ys.zip vs) m₀ z) (hp : P vs news₂) : NamEnd h₀ L x st ys m₀ P I oI s₁ { s₁ with heap := h', toks := tk } :=
  ⟨h', tk, m', news', news₂, vs, rfl, F, N, hI, hs, hn, hm, hp⟩
noncomputable def namJ (x : Str) (st ys : List Str) (m₀ : Str → Option Value) (P : Nat → List Value → Led → Prop) (i : Nat) (m : Str → Option Value) (n : Led) : Prop := ∃ vs, (∀ z, z ≠ x → st.contains z = false → m z = setL (ys.zip vs) m₀ z) ∧ P i vs n
theorem namJ_fr {st ys : List Str} {m₀ m : Str → Option Value} {v : Option Value} {vs : List Value} (hm : ∀ z, z ≠ x → st.contains z = false → m z = setL (ys.zip vs) m₀ z) : (fun y => if y = x then v else m y) = fun y => if y = x then v else if st.contains y then m y else setL (ys.zip vs) m₀ y := by
  funext z; split
  · rfl
  · next h =>
    cases hs : st.contains z with
    | true => simp
    | false => simp only [Bool.false_eq_true, if_false]; exact hm z h hs
theorem namJ_done {st ys : List Str} {m₀ m : Str → Option Value} {vs : List Value} (hm : ∀ z, z ≠ x → st.contains z = false → m z = setL (ys.zip vs) m₀ z) : (fun y => if y = x then m y else m y) = fun y => if y = x then m y else if st.contains y then m y else setL (ys.zip vs) m₀ y := by
  funext z; split
  · rfl
  · next h =>
    cases hs : st.contains z with
    | true => simp
    | false => simp only [Bool.false_eq_true, if_false]; exact hm z h hs
theorem namPost_led {L : Addr} {st ys : List Str} {m₀ : Str → Option Value} {P : Nat → List Value → Led → Prop} {i : Nat} {I : Addr} {oI : Obj} {s₁ s₂ : Shared} {f : Flow} (h : NamPost h₀ L x st ys m₀ (P i) I oI s₁ Q f s₂) : LedPost h₀ L (namJ x st ys m₀ P i) I oI s₁ Q f s₂ := by
  cases f with
  | ret v => exact h
  | brk => exact h
  | next => obtain ⟨h', tk, m', news', news₂, vs, e, F, N, hI, hs, hn, hm, hp⟩ := h; exact ⟨h', tk, m', news', news₂, e, F, N, hI, hs, hn, vs, hm, hp⟩
  | cont => obtain ⟨h', tk, m', news', news₂, vs, e, F, N, hI, hs, hn, hm, hp⟩ := h; exact ⟨h', tk, m', news', news₂, e, F, N, hI, hs, hn, vs, hm, hp⟩

theorem iter_ledN {l : Addr} {items : List Value} {c : Nat} {m₀ : Str → Option Value} {news : Led} (st ys : List Str) (vs₀ : List Value) (P : Nat → List Value → Led → Prop)
    (hh : A.handled = none) (F : Fr h₀ env.locals s.heap m₀) (N : News h₀ env.locals s.heap news) (hl : (l, listOf items.toArray c) ∈ news) (hm0 : ∀ z, setL (ys.zip vs₀) m₀ z = m₀ z)
    (hj : P 0 vs₀ news) (hJl : ∀ i vs n, P i vs n → (l, listOf items.toArray c) ∈ n)
    (turn : ∀ i v vs (u : Str → Option Value) news₁ h tk I oI, items[i]? = some v → P i vs news₁ → (∀ p ∈ news₁, p.1 ≠ I) → (∀ p ∈ news, p.1 < I) → Fr h₀ env.locals h (fun y => if y = x then some v else if st.contains y then u y else setL (ys.zip vs) m₀ y) → News h₀ env.locals h ((I, oI) :: news₁) →
      wpAny (model prog w) A (execs body env) (NamPost h₀ env.locals x st ys m₀ (P (i + 1)) I oI { s with heap := h, toks := tk } Q) E { s with heap := h, toks := tk })
    (done : ∀ (u : Str → Option Value) vs news₁ h tk, P items.length vs news₁ → Fr h₀ env.locals h (fun y => if y = x then u y else if st.contains y then u y else setL (ys.zip vs) m₀ y) → News h₀ env.locals h news₁ → Q .next { s with heap := h, toks := tk }) :
    wpAny (model prog w) A (pyIter (.ref l)) (fun it s₂ => LoopAtV prog w A h₀ env x body Q E it s₂) E s := by
  refine iter_led (namJ x st ys m₀ P) hh F N hl ⟨vs₀, fun z _ _ => (hm0 z).symm, hj⟩ (fun i m n ⟨vs, _, h⟩ => hJl i vs n h) ?_ ?_
  · rintro i v m₁ news₁ h tk I oI hv ⟨vs, hm, hp⟩ hI hlt F₁ N₁
    rw [namJ_fr hm] at F₁
    exact wpAny_mono (turn i v vs m₁ news₁ h tk I oI hv hp hI hlt F₁ N₁) (fun f s₂ p => namPost_led (P := P) p) fun _ _ e => e
  · rintro m₁ news₁ h tk ⟨vs, hm, hp⟩ F₁ N₁
    have e : m₁ = fun y => if y = x then m₁ y else m₁ y := by funext y; simp
    rw [e, namJ_done hm] at F₁
    exact done m₁ vs news₁ h tk hp F₁ N₁

theorem iter_rngN {r : Addr} {b₀ : Int} {t₀ u₀ v₀ : Tok} {m₀ : Str → Option Value} {news : Led} (st ys : List Str) (vs₀ : List Value) (P : Nat → List Value → Led → Prop)
    (hh : A.handled = none) (hr : IsRange s.heap r 0 b₀ 1 t₀ u₀ v₀) (F : Fr h₀ env.locals s.heap m₀) (N : News h₀ env.locals s.heap news) (hm0 : ∀ z, setL (ys.zip vs₀) m₀ z = m₀ z)
    (hj : P 0 vs₀ news)
    (turn : ∀ (i : Nat) t vs (u : Str → Option Value) news₁ h tk I oI, (i : Int) < b₀ → P i vs news₁ → (∀ p ∈ news₁, p.1 ≠ I) → (∀ p ∈ news, p.1 < I) → Fr h₀ env.locals h (fun y => if y = x then some (.int (i : Nat) t) else if st.contains y then u y else setL (ys.zip vs) m₀ y) → News h₀ env.locals h ((I, oI) :: news₁) →
      wpAny (model prog w) A (execs body env) (NamPost h₀ env.locals x st ys m₀ (P (i + 1)) I oI { s with heap := h, toks := tk } Q) E { s with heap := h, toks := tk })
    (done : ∀ (u : Str → Option Value) vs news₁ h tk, P b₀.toNat vs news₁ → Fr h₀ env.locals h (fun y => if y = x then u y else if st.contains y then u y else setL (ys.zip vs) m₀ y) → News h₀ env.locals h news₁ → Q .next { s with heap := h, toks := tk })
    (hsmall : Builtin.Range.small 0 b₀ 1 = true) :
    wpAny (model prog w) A (pyIter (.ref r)) (fun it s₂ => LoopAtV prog w A h₀ env x body Q E it s₂) E s := by
  have hn : Builtin.Range.rangeSize 0 b₀ 1 = (b₀.toNat : Int) := by
    unfold Builtin.Range.rangeSize
    simp only [show (1 : Int) > 0 by decide, if_true]
    split <;> omega
  refine iter_rng (namJ x st ys m₀ P) hh hr hsmall hn F N ⟨vs₀, fun z _ _ => (hm0 z).symm, hj⟩ ?_ ?_
  · rintro i t m₁ news₁ h tk I oI hv ⟨vs, hm, hp⟩ hI hlt F₁ N₁
    rw [namJ_fr hm] at F₁
    exact wpAny_mono (turn i t vs m₁ news₁ h tk I oI (by (clear hn; omega)) hp hI hlt F₁ N₁) (fun f s₂ p => namPost_led (P := P) p) fun _ _ e => e
  · rintro m₁ news₁ h tk ⟨vs, hm, hp⟩ F₁ N₁
    have e : m₁ = fun y => if y = x then m₁ y else m₁ y := by funext y; simp
    rw [e, namJ_done hm] at F₁
    exact done m₁ vs news₁ h tk hp F₁ N₁
end

section
variable {prog : Program} {w : World} {A : Around} {E : Value → Shared → Prop} {Q : Flow → Shared → Prop} {s : Shared} {env : Env} {h₀ : Heap} {L : Addr}
noncomputable def WNamEnd (h₀ : Heap) (L : Addr) (st ys : List Str) (m₀ : Str → Option Value) (P : Nat → List Value → Led → Prop) (n : Nat) (s₁ s₂ : Shared) : Prop :=
  ∃ h' tk m' news' vs n', s₂ = { s₁ with heap := h', toks := tk } ∧ Fr h₀ L h' m' ∧ News h₀ L h' news' ∧ (∀ z, st.contains z = false → m' z = setL (ys.zip vs) m₀ z) ∧ n' < n ∧ ∃ news₂, (∀ p ∈ news₂, p ∈ news') ∧ P n' vs news₂
noncomputable def WNamPost (h₀ : Heap) (L : Addr) (st ys : List Str) (m₀ : Str → Option Value) (P : Nat → List Value → Led → Prop) (n : Nat) (s₁ : Shared) (Q : Flow → Shared → Prop) (f : Flow) (s₂ : Shared) : Prop :=
  match f with
  | .ret v => Q (.ret v) s₂
  | .brk => Q .next s₂
  | _ => WNamEnd h₀ L st ys m₀ P n s₁ s₂
theorem WNamEnd.intro {st ys : List Str} {m₀ : Str → Option Value} {P : Nat → List Value → Led → Prop} {n : Nat} {s₁ : Shared} {h' : Heap} {tk : Nat} {m' : Str → Option Value} {news' : Led} (vs : List Value) (news₂ : Led) (n' : Nat)
    (F : Fr h₀ L h' m') (N : News h₀ L h' news') (hs : ∀ p ∈ news₂, p ∈ news') (hm : ∀ z, st.contains z = false → m' z = setL (ys.zip vs) m₀ z) (hn : n' < n) (hp : P n' vs news₂) : WNamEnd h₀ L st ys m₀ P n s₁ { s₁ with heap := h', toks := tk } :=
  ⟨h', tk, m', news', vs, n', rfl, F, N, hm, hn, news₂, hs, hp⟩
theorem wnam_fr {st ys : List Str} {m₀ m : Str → Option Value} {vs : List Value} (hm : ∀ z, st.contains z = false → m z = setL (ys.zip vs) m₀ z) : m = fun y => if st.contains y then m y else setL (ys.zip vs) m₀ y := by
  funext z
  cases hs : st.contains z with
  | true => simp
  | false => simp only [Bool.false_eq_true, if_false]; exact hm z hs

theorem While_nam {test : Expr} {body : List Stmt} {pos : Pos} {m₀ : Str → Option Value} {news : Led} (st ys : List Str) (vs₀ : List Value) (P : Nat → List Value → Led → Prop) {n₀ : Nat}
    (F : Fr h₀ L s.heap m₀) (N : News h₀ L s.heap news) (hm0 : ∀ z, setL (ys.zip vs₀) m₀ z = m₀ z) (hJ : P n₀ vs₀ news)
    (turn : ∀ n vs (u : Str → Option Value) news₁ h tk, P n vs news₁ → Fr h₀ L h (fun y => if st.contains y then u y else setL (ys.zip vs) m₀ y) → News h₀ L h news₁ →
      wpAny (model prog w) A (isTrue test env (eval test env)) (fun b s₂ =>
        if b = true then wpAny (model prog w) A (execs body env) (WNamPost h₀ L st ys m₀ P n s Q) E s₂ else Q .next s₂) E { s with heap := h, toks := tk })
    (hE : PassesOwn (model prog w) A env E := by passes_own) :
    wpAny (model prog w) A (exec (.While test body [] pos) env) Q E s := by
  refine While_inv2 (fun n m nx => ∃ vs, (∀ z, st.contains z = false → m z = setL (ys.zip vs) m₀ z) ∧ P n vs nx) F N ⟨vs₀, fun z _ => (hm0 z).symm, hJ⟩ ?_ hE
  rintro n m₁ nx h tk F₁ N₁ ⟨vs, hm, hp⟩
  rw [wnam_fr hm] at F₁
  refine wpAny_mono (turn n vs m₁ nx h tk hp F₁ N₁) (fun b s₂ p => ?_) fun _ _ x => x
  cases b with
  | false => simpa using p
  | true =>
    simp only [if_true] at p ⊢
    refine wpAny_mono p (fun f s₃ q => ?_) fun _ _ x => x
    cases f with
    | ret v => exact q
    | brk => exact q
    | next =>
      obtain ⟨h', tk', m', news', vs', n', rfl, F', N', hm', hn, news₂, hs, hp'⟩ := q
      exact ⟨h', tk', m', news₂, n', rfl, F', fun p hp => N' p (hs p hp), hn, vs', hm', hp'⟩
    | cont =>
      obtain ⟨h', tk', m', news', vs', n', rfl, F', N', hm', hn, news₂, hs, hp'⟩ := q
      exact ⟨h', tk', m', news₂, n', rfl, F', fun p hp => N' p (hs p hp), hn, vs', hm', hp'⟩
end

theorem rows_MORE_F5 : True := by
  k_with  "t_enterC" => (intro _ _ _ _ _ _ _ Ne9 Ye9 Be9 _ _ le9; (try k_lt le9); k_cells Ye9; (try simp only [List.cons_append, List.nil_append] at Ne9); (try dsimp only); (try k_lift Be9); (try k_fold))
  k_with  "pyIter ref" => k_extra "loop"
  k_with  "exec While" => k_extra "while"
  k_with  "CompSrcT" => k_extra "comp"
  k_with  "CompSrc" => k_extra "comp"
  k_with  "CompEnd" => k_extra "compend"
  k_with  "subscriptTail" => (k_here; k_extra "item"; k_dflt (first
    | (refine item_at (by k_asm) (by k_mem) (by walk_at "m_om") (by walk_at "m_om") (by with_reducible assumption) ?_; k_whole)
    | ((with_reducible show wpAny _ _ (subscriptTail _ _ (Value.ref _) (Value.int (-1) _)) _ _ _); refine item_last (by k_asm) (by k_mem) (by k_extra "size") (by with_reducible assumption) ?_; k_whole)))
  k_with  "call builtin:list.append" => (k_here; k_extra "appU"; k_dflt (refine append_U (by k_asm) (by k_asm) (by k_mem) (by k_extra "size") ?_; k_whole); intro _ _ _; (try k_sweep))
  k_with  "call builtin:len" => (k_here; k_extra "lenU"; k_dflt (refine len_U (by k_asm) (by k_mem) (by k_extra "len") (by k_extra "size") ?_; k_whole))
  k_with  "setItem ref" => (k_here; k_extra "setU"; k_dflt (refine set_U (by k_asm) (by k_asm) (by k_mem) (by walk_at "m_om") (by k_extra "size") (by walk_at "m_om") ?_; k_whole); intro _ _ _; (try k_sweep))
  k_with  "m_enterC" => (k_dflt (refine code_defCS (by k_asm) (by k_asm) (by k_asm) (by k_asm) (by k_asm) rfl rfl (by first | exact rfl | assumption) (by k_is) (by k_is) (by walk_at "m_room") (by walk_at "m_binds") (by walk_at "m_lm") (by exact rfl) (by decide +kernel) ?_ (by exact rfl) (by exact rfl) (by exact rfl); k_whole; walk_at "t_enterC"))
  k_with  "m_lm" => first | exact (show _ = [] from rfl) | exact (show _ = [(_, _)] from rfl) | exact (show _ = [(_, _), (_, _)] from rfl) | exact (show _ = [(_, _), (_, _), (_, _)] from rfl) | exact (show _ = [(_, _), (_, _), (_, _), (_, _)] from rfl) | exact (show _ = [(_, _), (_, _), (_, _), (_, _), (_, _)] from rfl)
  trivial

/-- a route of the heap: its object, its dict, the tokens, its five ints -/
structure Rt where
  x : Addr
  d : Addr
  t : Tok × Tok × Tok × Tok × Tok
  u : Tok × Tok × Tok × Tok × Tok
  n : Int
  p : Int
  g : Int
  f : Int
  e : Int
noncomputable abbrev Rt.dict (w : World) (r : Rt) : Obj := rtD w r.t.1 r.t.2.1 r.t.2.2.1 r.t.2.2.2.1 r.t.2.2.2.2 (.int r.n r.u.1) (.int r.p r.u.2.1) (.int r.g r.u.2.2.1) (.int r.f r.u.2.2.2.1) (.int r.e r.u.2.2.2.2)
noncomputable abbrev rtVals (rs : List Rt) : List Value := rs.map fun r => Value.ref r.x
theorem rtVals_get {rs : List Rt} {i : Nat} {v : Value} (h : (rtVals rs)[i]? = some v) : ∃ r, rs[i]? = some r ∧ v = .ref r.x := by
  rw [List.getElem?_map] at h
  cases hr : rs[i]? with
  | none => rw [hr] at h; cases h
  | some r => rw [hr] at h; exact ⟨r, rfl, (Option.some.inj h).symm⟩
noncomputable def RtIn (w : World) (news : Led) (r : Rt) : Prop := (r.x, instObj 120 r.d) ∈ news ∧ (r.d, r.dict w) ∈ news
theorem RtIn.mono {w : World} {news news' : Led} {r : Rt} (h : RtIn w news r) (hs : ∀ q ∈ news, q ∈ news') : RtIn w news' r := ⟨hs _ h.1, hs _ h.2⟩
noncomputable def vrt : Option Rt → Value
  | none => .none
  | some r => .ref r.x
/-- the first route of the least metric -/
noncomputable def bestStep (found : Option Rt) (r : Rt) : Option Rt := match found with
  | none => some r
  | some q => if r.e < q.e then some r else some q
noncomputable def bestOf (rs : List Rt) : Option Rt := rs.foldl bestStep none
theorem bestOf_snoc (rs : List Rt) (r : Rt) : bestOf (rs ++ [r]) = bestStep (bestOf rs) r := by simp [bestOf, List.foldl_append]
theorem bestOf_mem : ∀ (rs : List Rt) (q : Option Rt) (r : Rt), rs.foldl bestStep q = some r → r ∈ rs ∨ q = some r
  | [], q, r, h => .inr h
  | a :: l, q, r, h => by
    rcases bestOf_mem l _ r h with h1 | h1
    · exact .inl (.tail _ h1)
    · unfold bestStep at h1
      split at h1
      · left; obtain rfl := Option.some.inj h1; exact .head _
      · split at h1
        · left; obtain rfl := Option.some.inj h1; exact .head _
        · right; exact h1

theorem bestOf_in {rs : List Rt} {i : Nat} {q : Rt} (h : bestOf (rs.take i) = some q) : q ∈ rs :=
  (bestOf_mem _ _ _ h).elim List.mem_of_mem_take (fun h => nomatch h)

set_option maxRecDepth 100000 in
set_option maxHeartbeats 2000000 in
theorem spec_best (prog : Program) (w : World) (b d l : Addr) (t0 t1 t2 : Tok) (z o : Value) (rs : List Rt) (c : Nat) (news : Led) (h1 : (b, instObj 169 d) ∈ news) (h2 : (d, brD w t0 t1 t2 z o (.ref l)) ∈ news) (h3 : (l, listOf (rtVals rs).toArray c) ∈ news) (hr : ∀ r ∈ rs, RtIn w news r) :
    Spec prog w 166 2 16 [.ref b] news (fun news v news' => news = news' ∧ v = vrt (bestOf rs)) := by
  intro p loose mean mg mb dp un gd cn cs a ccd cl outer A₀ base h₀ L m s Q E B F X N T hk hd hu hret
  obtain mk_F5_1 : True := trivial
  k_with "loop" => (guard_hyp mk_F5_1; (
    refine' iter_ledN (l := l) (items := rtVals rs) (c := c) [] ["found"] [.none] (fun i vs n => n = news ∧ vs = [vrt (bestOf (rs.take i))]) (by exact rfl) (by k_asm) (by k_asm) (by k_mem) (setL_one (by exact rfl)) ⟨rfl, rfl⟩ (fun i vs n hp => hp.1 ▸ h3) ?turn ?done
    case' turn =>
      intro i9 v9 vs9 _ n9 h9 tk9 I9 oI9 hv9 hp9 hI9 hlt9 F9 N9
      refine hide ?_
      intro GG0 hGG0
      obtain ⟨rfl, rfl⟩ := hp9
      obtain ⟨r9, hr9, rfl⟩ := rtVals_get hv9
      obtain ⟨hin9a, hin9b⟩ := hr _ (List.mem_of_getElem? hr9)
      refine hGG0 ?_
      (try clear hGG0 GG0)
      rcases hb9 : bestOf (rs.take i9) with _ | q9
      all_goals rw [hb9] at F9
      all_goals simp only [vrt] at F9
      case' some => obtain ⟨hq9a, hq9b⟩ := hr _ (bestOf_in hb9)
      all_goals k_fold
    case' done =>
      intro u9 vs9 n9 h9 tk9 hp9 F9 N9
      obtain ⟨rfl, rfl⟩ := hp9
      rcases hb9 : bestOf (rs.take rs.length) with _ | q9
      all_goals (rw [List.length_map, hb9] at F9; simp only [vrt] at F9)
      all_goals (try dsimp only)
      all_goals (try k_fold)))
  walk_at "m_enter"
  k_steps
  all_goals first
    | exact hret _ _ _ _ (by k_asm) (by k_asm) ⟨rfl, by rw [List.take_length] at hb9; rw [hb9]; rfl⟩
    | (refine NamEnd.intro [_] _ (by k_asm) (by k_asm) (by k_mem) (fun p hp => .tail _ hp) hI9 (by walk_at "m_names") ⟨rfl, ?_⟩)
  all_goals (simp only [decide_eq_true_eq, decide_eq_false_iff_not] at *)
  all_goals simp [List.take_add_one, hr9, bestOf_snoc, hb9, bestStep, vrt, *]

noncomputable abbrev Bits := List Bool
structure Nd where
  b : Addr
  d : Addr
  l : Addr
  t0 : Tok
  t1 : Tok
  t2 : Tok
  c : Nat
  rs : List Rt
/-- the trie: what stands at a place -/
noncomputable abbrev Tm := Bits → Option Nd
noncomputable def bA (N : Tm) (p : Bits) : Option Addr := (N p).map (·.b)
noncomputable def rsAt (N : Tm) (p : Bits) : List Rt := match N p with
  | some n => n.rs
  | none => []
noncomputable def Off (N : Tm) (a : Addr) : Prop := ∀ p n, N p = some n → a ≠ n.d ∧ a ≠ n.l
noncomputable abbrev Nd.dict (w : World) (N : Tm) (p : Bits) (n : Nd) : Obj := brD w n.t0 n.t1 n.t2 (vr (bA N (p ++ [false]))) (vr (bA N (p ++ [true]))) (.ref n.l)
noncomputable abbrev Nd.lst (n : Nd) : Obj := listOf (rtVals n.rs).toArray n.c
structure TrieIn (w : World) (news : Led) (N : Tm) : Prop where
  inst : ∀ p n, N p = some n → (n.b, instObj 169 n.d) ∈ news
  dict : ∀ p n, N p = some n → (n.d, n.dict w N p) ∈ news
  list : ∀ p n, N p = some n → (n.l, n.lst) ∈ news
  rts : ∀ p n, N p = some n → ∀ r ∈ n.rs, RtIn w news r ∧ Off N r.x ∧ Off N r.d
structure Wf (N : Tm) : Prop where
  root : (N []).isSome
  closed : ∀ p b, (N (p ++ [b])).isSome → (N p).isSome
  apartD : ∀ p q n m, N p = some n → N q = some m → n.d = m.d → p = q
  apartL : ∀ p q n m, N p = some n → N q = some m → n.l = m.l → p = q
  cross : ∀ p q n m, N p = some n → N q = some m → n.d ≠ m.l
  instD : ∀ p q n m, N p = some n → N q = some m → n.b ≠ m.d ∧ n.b ≠ m.l
  deep : ∀ p n, N p = some n → p.length ≤ 32
theorem TrieIn.mono {w : World} {news news' : Led} {N : Tm} (T : TrieIn w news N) (hs : ∀ q ∈ news, q ∈ news') : TrieIn w news' N :=
  ⟨fun p n h => hs _ (T.inst p n h), fun p n h => hs _ (T.dict p n h), fun p n h => hs _ (T.list p n h), fun p n h r hr => ⟨(T.rts p n h r hr).1.mono hs, (T.rts p n h r hr).2⟩⟩
/-- the entries that are none of the trie's own stand as they stood -/
noncomputable def Keeps (news : Led) (N : Tm) (news' : Led) (N' : Tm) : Prop := ∀ q ∈ news, Off N q.1 → q ∈ news' ∧ Off N' q.1
theorem Keeps.trans {news news₁ news₂ : Led} {N N₁ N₂ : Tm} (a : Keeps news N news₁ N₁) (b : Keeps news₁ N₁ news₂ N₂) : Keeps news N news₂ N₂ := fun q hq ho =>
  let ⟨h1, h2⟩ := a q hq ho
  b q h1 h2
theorem Keeps.more {news news' : Led} {N : Tm} (hs : ∀ q ∈ news, q ∈ news') : Keeps news N news' N := fun q hq ho => ⟨hs q hq, ho⟩

noncomputable def setAt (N : Tm) (p : Bits) (n : Option Nd) : Tm := fun q => if q = p then n else N q
theorem setAt_self {N : Tm} {p : Bits} {n : Option Nd} : setAt N p n p = n := by simp [setAt]
theorem setAt_ne {N : Tm} {p q : Bits} {n : Option Nd} (h : q ≠ p) : setAt N p n q = N q := by simp [setAt, h]
theorem snoc_ne (p : Bits) (b : Bool) : p ++ [b] ≠ p := fun h => by simpa using congrArg List.length h
theorem Wf.leaf {N : Tm} (W : Wf N) {p : Bits} (h : N p = none) (b : Bool) : N (p ++ [b]) = none := by
  cases hq : N (p ++ [b]) with
  | none => rfl
  | some n => have := W.closed p b (by simp [hq]); rw [h] at this; cases this

/-- a place set: the cases of one node, and of two -/
theorem setAt_all {N : Tm} {p : Bits} {n' : Nd} {P : Bits → Nd → Prop} (h0 : P p n') (h1 : ∀ q m, q ≠ p → N q = some m → P q m) : ∀ q m, setAt N p (some n') q = some m → P q m := fun q m h => by
  by_cases e : q = p
  · subst e; rw [setAt_self] at h; exact Option.some.inj h ▸ h0
  · rw [setAt_ne e] at h; exact h1 q m e h
theorem setAt_two {N : Tm} {p : Bits} {n' : Nd} {P : Bits → Nd → Bits → Nd → Prop} (h00 : P p n' p n') (h01 : ∀ q m, q ≠ p → N q = some m → P p n' q m) (h10 : ∀ q m, q ≠ p → N q = some m → P q m p n')
    (h11 : ∀ q q' m m', N q = some m → N q' = some m' → P q m q' m') : ∀ q q' m m', setAt N p (some n') q = some m → setAt N p (some n') q' = some m' → P q m q' m' := fun q q' m m' h h' =>
  setAt_all (P := fun q m => P q m q' m') (setAt_all (P := P p n') h00 h01 q' m' h') (fun q m e g => setAt_all (P := P q m) (h10 q m e g) (fun q' m' _ g' => h11 q q' m m' g g') q' m' h') q m h
/-- a new leaf below `p` -/
theorem grow {w : World} {news news' : Led} {N : Tm} (T : TrieIn w news N) (W : Wf N) {p : Bits} {b : Bool} {n nd : Nd} (hp : N p = some n) (hb : N (p ++ [b]) = none) (hlen : p.length < 32) (hrs : nd.rs = [])
    (hfresh : ∀ q ∈ news, q.1 ≠ nd.b ∧ q.1 ≠ nd.d ∧ q.1 ≠ nd.l) (hbd : nd.b ≠ nd.d) (hbl : nd.b ≠ nd.l) (hdl : nd.d ≠ nd.l)
    (h1 : (nd.b, instObj 169 nd.d) ∈ news') (h2 : (nd.d, brD w nd.t0 nd.t1 nd.t2 .none .none (.ref nd.l)) ∈ news') (h3 : (nd.l, nd.lst) ∈ news')
    (h4 : (n.d, brD w n.t0 n.t1 n.t2 (if b = false then .ref nd.b else vr (bA N (p ++ [false]))) (if b = false then vr (bA N (p ++ [true])) else .ref nd.b) (.ref n.l)) ∈ news')
    (hs : ∀ q ∈ news, q.1 ≠ n.d → q ∈ news') :
    TrieIn w news' (setAt N (p ++ [b]) (some nd)) ∧ Wf (setAt N (p ++ [b]) (some nd)) ∧ Keeps news N news' (setAt N (p ++ [b]) (some nd)) ∧ (∀ q, rsAt (setAt N (p ++ [b]) (some nd)) q = rsAt N q) := by
  have hpne : p ≠ p ++ [b] := fun e => snoc_ne p b e.symm
  have hoff : ∀ q ∈ news, Off N q.1 → Off (setAt N (p ++ [b]) (some nd)) q.1 := fun q hq ho => setAt_all (hfresh q hq).2 fun r m _ h => ho r m h
  have hbA : ∀ q, q ≠ p ++ [b] → bA (setAt N (p ++ [b]) (some nd)) q = bA N q := fun q hq => by unfold bA; rw [setAt_ne hq]
  have hbA' : bA (setAt N (p ++ [b]) (some nd)) (p ++ [b]) = some nd.b := by unfold bA; rw [setAt_self]; rfl
  refine ⟨⟨setAt_all h1 fun q m _ h => hs _ (T.inst q m h) (W.instD q p m n h hp).1, setAt_all ?_ fun q m hne h => ?_, setAt_all h3 fun q m _ h => hs _ (T.list q m h) fun e => W.cross p q n m hp h e.symm,
      setAt_all (fun r hr => absurd hr (by rw [hrs]; exact List.not_mem_nil)) fun q m _ h r hr => ⟨⟨hs _ (T.rts q m h r hr).1.1 ((T.rts q m h r hr).2.1 p n hp).1, hs _ (T.rts q m h r hr).1.2 ((T.rts q m h r hr).2.2 p n hp).1⟩, hoff _ (T.rts q m h r hr).1.1 (T.rts q m h r hr).2.1, hoff _ (T.rts q m h r hr).1.2 (T.rts q m h r hr).2.2⟩⟩,
    ⟨?_, fun q c h => ?_, setAt_two (fun _ => rfl) (fun q m _ h e => absurd e.symm (hfresh _ (T.dict q m h)).2.1) (fun q m _ h e => absurd e (hfresh _ (T.dict q m h)).2.1) W.apartD,
      setAt_two (fun _ => rfl) (fun q m _ h e => absurd e.symm (hfresh _ (T.list q m h)).2.2) (fun q m _ h e => absurd e (hfresh _ (T.list q m h)).2.2) W.apartL,
      setAt_two hdl (fun q m _ h e => (hfresh _ (T.list q m h)).2.1 e.symm) (fun q m _ h => (hfresh _ (T.dict q m h)).2.2) W.cross,
      setAt_two ⟨hbd, hbl⟩ (fun q m _ h => ⟨fun e => (hfresh _ (T.dict q m h)).1 e.symm, fun e => (hfresh _ (T.list q m h)).1 e.symm⟩) (fun q m _ h => (hfresh _ (T.inst q m h)).2) W.instD,
      setAt_all (by simp only [List.length_append, List.length_cons, List.length_nil]; exact hlen) fun q m _ h => W.deep q m h⟩, fun q hq ho => ⟨hs q hq (ho p n hp).1, hoff q hq ho⟩, fun q => ?_⟩
  · have e1 : bA (setAt N (p ++ [b]) (some nd)) (p ++ [b] ++ [false]) = none := by rw [hbA _ (snoc_ne _ _)]; unfold bA; rw [W.leaf hb]; rfl
    have e2 : bA (setAt N (p ++ [b]) (some nd)) (p ++ [b] ++ [true]) = none := by rw [hbA _ (snoc_ne _ _)]; unfold bA; rw [W.leaf hb]; rfl
    unfold Nd.dict
    rw [e1, e2]
    exact h2
  · by_cases hqp : q = p
    · subst hqp
      obtain rfl : n = m := Option.some.inj (hp.symm.trans (by assumption))
      unfold Nd.dict
      cases b with
      | false =>
        rw [hbA', hbA (q ++ [true]) (by simp)]
        exact h4
      | true =>
        rw [hbA', hbA (q ++ [false]) (by simp)]
        exact h4
    · unfold Nd.dict
      have e : ∀ c, q ++ [c] ≠ p ++ [b] := fun c e => hqp (List.append_inj_left' e rfl)
      rw [hbA _ (e false), hbA _ (e true)]
      exact hs _ (T.dict q m h) fun e => hqp (W.apartD q p m n h hp e)
  · rw [setAt_ne (by simp)]; exact W.root
  · by_cases e : q ++ [c] = p ++ [b]
    · have : q = p := List.append_inj_left' e rfl
      subst this
      rw [setAt_ne hpne, hp]; rfl
    · rw [setAt_ne e] at h
      have h5 := W.closed q c h
      by_cases e' : q = p ++ [b]
      · subst e'; rw [setAt_self]; rfl
      · rw [setAt_ne e']; exact h5
  · by_cases e : q = p ++ [b]
    · subst e; unfold rsAt; rw [setAt_self, hb]; exact hrs
    · unfold rsAt; rw [setAt_ne e]

/-- the routes of a node changed: its list's content, or its list -/
theorem reset {w : World} {news news' : Led} {N : Tm} (T : TrieIn w news N) (W : Wf N) {p : Bits} {n n' : Nd} (hp : N p = some n) (eb : n'.b = n.b) (ed : n'.d = n.d)
    (hl : n'.l = n.l ∨ ∀ q ∈ news, q.1 ≠ n'.l)
    (h2 : (n.d, brD w n'.t0 n'.t1 n'.t2 (vr (bA N (p ++ [false]))) (vr (bA N (p ++ [true]))) (.ref n'.l)) ∈ news') (h3 : (n'.l, n'.lst) ∈ news')
    (hr : ∀ r ∈ n'.rs, RtIn w news r ∧ Off N r.x ∧ Off N r.d)
    (hs : ∀ q ∈ news, q.1 ≠ n.d → q.1 ≠ n.l → q ∈ news') :
    TrieIn w news' (setAt N p (some n')) ∧ Wf (setAt N p (some n')) ∧ Keeps news N news' (setAt N p (some n')) ∧ (∀ q, rsAt (setAt N p (some n')) q = if q = p then n'.rs else rsAt N q) ∧ (∀ q, bA (setAt N p (some n')) q = bA N q) := by
  have hbA : ∀ q, bA (setAt N p (some n')) q = bA N q := fun q => by
    unfold bA
    by_cases e : q = p
    · subst e; rw [setAt_self, hp]; simp [eb]
    · rw [setAt_ne e]
  have lne : ∀ q m, q ≠ p → N q = some m → m.b ≠ n'.l ∧ m.d ≠ n'.l ∧ m.l ≠ n'.l := fun q m hq h => by
    rcases hl with e | hf
    · rw [e]; exact ⟨(W.instD q p m n h hp).2, W.cross q p m n h hp, fun e => hq (W.apartL q p m n h hp e)⟩
    · exact ⟨hf _ (T.inst q m h), hf _ (T.dict q m h), hf _ (T.list q m h)⟩
  have lne' : n.b ≠ n'.l ∧ n.d ≠ n'.l := by
    rcases hl with e | hf
    · rw [e]; exact ⟨(W.instD p p n n hp hp).2, W.cross p p n n hp hp⟩
    · exact ⟨hf _ (T.inst p n hp), hf _ (T.dict p n hp)⟩
  have hoff : ∀ q ∈ news, Off N q.1 → Off (setAt N p (some n')) q.1 := fun q hq ho => setAt_all ⟨ed ▸ (ho p n hp).1, hl.elim (fun e => e ▸ (ho p n hp).2) fun hf => hf q hq⟩ fun r m _ h => ho r m h
  have key : ∀ q m, setAt N p (some n') q = some m → ∀ r ∈ m.rs, RtIn w news r ∧ Off N r.x ∧ Off N r.d := setAt_all hr fun q m _ h => T.rts q m h
  refine ⟨⟨setAt_all (by rw [eb, ed]; exact hs _ (T.inst p n hp) (W.instD p p n n hp hp).1 (W.instD p p n n hp hp).2) fun q m _ h => hs _ (T.inst q m h) (W.instD q p m n h hp).1 (W.instD q p m n h hp).2,
      setAt_all (by unfold Nd.dict; rw [hbA, hbA, ed]; exact h2) fun q m hne h => by unfold Nd.dict; rw [hbA, hbA]; exact hs _ (T.dict q m h) (fun e => hne (W.apartD q p m n h hp e)) (W.cross q p m n h hp),
      setAt_all h3 fun q m hne h => hs _ (T.list q m h) (fun e => W.cross p q n m hp h e.symm) (fun e => hne (W.apartL q p m n h hp e)),
      fun q m h r hrm => ⟨⟨hs _ (key q m h r hrm).1.1 ((key q m h r hrm).2.1 p n hp).1 ((key q m h r hrm).2.1 p n hp).2, hs _ (key q m h r hrm).1.2 ((key q m h r hrm).2.2 p n hp).1 ((key q m h r hrm).2.2 p n hp).2⟩, hoff _ (key q m h r hrm).1.1 (key q m h r hrm).2.1, hoff _ (key q m h r hrm).1.2 (key q m h r hrm).2.2⟩⟩,
    ⟨?_, fun q c h => ?_, setAt_two (fun _ => rfl) (fun q m _ h e => W.apartD p q n m hp h (ed.symm.trans e)) (fun q m _ h e => W.apartD q p m n h hp (e.trans ed)) W.apartD,
      setAt_two (fun _ => rfl) (fun q m hq h e => absurd e.symm (lne q m hq h).2.2) (fun q m hq h e => absurd e (lne q m hq h).2.2) W.apartL,
      setAt_two (by rw [ed]; exact lne'.2) (fun q m _ h => by rw [ed]; exact W.cross p q n m hp h) (fun q m hq h => (lne q m hq h).2.1) W.cross,
      setAt_two (by rw [eb, ed]; exact ⟨(W.instD _ _ n n hp hp).1, lne'.1⟩) (fun q m _ h => by rw [eb]; exact W.instD p q n m hp h) (fun q m hq h => by rw [ed]; exact ⟨(W.instD q p m n h hp).1, (lne q m hq h).1⟩) W.instD,
      setAt_all (W.deep p n hp) fun q m _ h => W.deep q m h⟩, fun q hq ho => ⟨hs q hq (ho p n hp).1 (ho p n hp).2, hoff q hq ho⟩, fun q => ?_, hbA⟩
  · by_cases e : [] = p
    · rw [← e, setAt_self]; rfl
    · rw [setAt_ne e]; exact W.root
  · have h5 : (N (q ++ [c])).isSome := by
      by_cases e : q ++ [c] = p
      · rw [e, hp]; rfl
      · rw [setAt_ne e] at h; exact h
    have h6 := W.closed q c h5
    by_cases e : q = p
    · subst e; rw [setAt_self]; rfl
    · rw [setAt_ne e]; exact h6
  · unfold rsAt
    by_cases e : q = p
    · subst e; rw [setAt_self, if_pos rfl]
    · rw [setAt_ne e, if_neg e]

/-- a bare leaf goes -/
theorem shed {w : World} {news news' : Led} {N : Tm} (T : TrieIn w news N) (W : Wf N) {p : Bits} {b : Bool} {n m : Nd} (hp : N p = some n) (hb : N (p ++ [b]) = some m) (hrs : m.rs = [])
    (hc0 : N (p ++ [b] ++ [false]) = none) (hc1 : N (p ++ [b] ++ [true]) = none)
    (h4 : (n.d, brD w n.t0 n.t1 n.t2 (if b = false then .none else vr (bA N (p ++ [false]))) (if b = false then vr (bA N (p ++ [true])) else .none) (.ref n.l)) ∈ news')
    (hs : ∀ q ∈ news, q.1 ≠ n.d → q ∈ news') :
    TrieIn w news' (setAt N (p ++ [b]) none) ∧ Wf (setAt N (p ++ [b]) none) ∧ Keeps news N news' (setAt N (p ++ [b]) none) ∧ (∀ q, rsAt (setAt N (p ++ [b]) none) q = rsAt N q) := by
  have hcase : ∀ q m, setAt N (p ++ [b]) none q = some m → q ≠ p ++ [b] ∧ N q = some m := fun q m h => by
    by_cases e : q = p ++ [b]
    · subst e; rw [setAt_self] at h; cases h
    · rw [setAt_ne e] at h; exact ⟨e, h⟩
  have hpne : p ≠ p ++ [b] := fun e => snoc_ne p b e.symm
  have hoff : ∀ a, Off N a → Off (setAt N (p ++ [b]) none) a := fun a ho r m h => ho r m (hcase r m h).2
  have hbA : ∀ q, q ≠ p ++ [b] → bA (setAt N (p ++ [b]) none) q = bA N q := fun q hq => by unfold bA; rw [setAt_ne hq]
  have hbA' : bA (setAt N (p ++ [b]) none) (p ++ [b]) = none := by unfold bA; rw [setAt_self]; rfl
  refine ⟨⟨fun q m h => ?_, fun q m h => ?_, fun q m h => ?_, fun q m h r hr => ?_⟩, ⟨?_, fun q c h => ?_, fun q q' m m' h h' e => ?_, fun q q' m m' h h' e => ?_, fun q q' m m' h h' => ?_, fun q q' m m' h h' => ?_, fun q m h => ?_⟩, fun q hq ho => ⟨hs q hq (ho p n hp).1, hoff _ ho⟩, fun q => ?_⟩
  · exact hs _ (T.inst q m (hcase q m h).2) ((W.instD q p m n (hcase q m h).2 hp).1)
  · obtain ⟨hne, h⟩ := hcase q m h
    by_cases hqp : q = p
    · subst hqp
      obtain rfl : n = m := Option.some.inj (hp.symm.trans (by assumption))
      unfold Nd.dict
      cases b with
      | false =>
        rw [hbA', hbA (q ++ [true]) (by simp)]
        simpa using h4
      | true =>
        rw [hbA', hbA (q ++ [false]) (by simp)]
        simpa using h4
    · unfold Nd.dict
      have e : ∀ c, q ++ [c] ≠ p ++ [b] := fun c e => hqp (List.append_inj_left' e rfl)
      rw [hbA _ (e false), hbA _ (e true)]
      exact hs _ (T.dict q m h) fun e => hqp (W.apartD q p m n h hp e)
  · exact hs _ (T.list q m (hcase q m h).2) fun e => W.cross p q n m hp (hcase q m h).2 e.symm
  · obtain ⟨hr1, hr2, hr3⟩ := T.rts q m (hcase q m h).2 r hr
    exact ⟨⟨hs _ hr1.1 (hr2 p n hp).1, hs _ hr1.2 (hr3 p n hp).1⟩, hoff _ hr2, hoff _ hr3⟩
  · rw [setAt_ne (by simp)]; exact W.root
  · by_cases e : q ++ [c] = p ++ [b]
    · rw [e, setAt_self] at h; cases h
    · rw [setAt_ne e] at h
      have h5 := W.closed q c h
      by_cases e' : q = p ++ [b]
      · subst e'
        cases c
        · rw [hc0] at h; cases h
        · rw [hc1] at h; cases h
      · rw [setAt_ne e']; exact h5
  · exact W.apartD q q' m m' (hcase q m h).2 (hcase q' m' h').2 e
  · exact W.apartL q q' m m' (hcase q m h).2 (hcase q' m' h').2 e
  · exact W.cross q q' m m' (hcase q m h).2 (hcase q' m' h').2
  · exact W.instD q q' m m' (hcase q m h).2 (hcase q' m' h').2
  · exact W.deep q m (hcase q m h).2
  · by_cases e : q = p ++ [b]
    · subst e; unfold rsAt; rw [setAt_self, hb]; exact hrs.symm
    · unfold rsAt; rw [setAt_ne e]

section
variable {prog : Program} {w : World} {A : Around} {E : Value → Shared → Prop} {s : Shared} {h₀ : Heap} {L D a : Addr} {m : Str → Option Value} {news : Led} {its : List Value} {n : Nat} {x : Value}
theorem append_U {Q : Value → Shared → Prop} (F : Fr h₀ L s.heap m) (N : News h₀ L s.heap news) (hm : (D, listOf its.toArray n) ∈ news) (hsz : its.length ≤ sizeLine)
    (h : ∀ h', Fr h₀ L h' m → News h₀ L h' (updL D (listOf (its ++ [x]).toArray (n + 1)) news) → Q .none { s with heap := h' }) : wpAny (model prog w) A (call (.builtin "list.append") [.ref D, x]) Q E s :=
  append_K F (toHead N hm) (.head offL_ne) (fun h' F' N' => h h' F' (ofHead (by rw [List.push_toArray] at N'; exact N'))) (by simpa using hsz)
theorem pop_U {y : Value} {Q : Value → Shared → Prop} (F : Fr h₀ L s.heap m) (N : News h₀ L s.heap news) (hm : (D, listOf (its ++ [y]).toArray n) ∈ news) (hsz : (its ++ [y]).length ≤ sizeLine)
    (h : ∀ h', Fr h₀ L h' m → News h₀ L h' (updL D (listOf its.toArray (n + 1)) news) → Q y { s with heap := h' }) : wpAny (model prog w) A (call (.builtin "list.pop") [.ref D]) Q E s :=
  kl_pop F (toHead N hm) (by simpa using kpa_last y its) (.head offL_ne) (by simpa using hsz) (fun h' F' N' => h h' F' (ofHead N'))
theorem ki_setL_set : ∀ (l : List Value) (k : Nat) (v : Value), k < l.length → ki_setL l k v = some (l.set k v)
  | [], _, _, h => absurd h (Nat.not_lt_zero _)
  | a :: r, 0, v, _ => rfl
  | a :: r, k + 1, v, h => by
    have := ki_setL_set r k v (by simpa using h)
    simp [ki_setL, this]
theorem set_U {k : Int} {t : Tok} {Q : Unit → Shared → Prop} (F : Fr h₀ L s.heap m) (N : News h₀ L s.heap news) (hm : (D, listOf its.toArray n) ∈ news) (h0 : 0 ≤ k) (h1 : k < its.length) (hfit : k < 2 ^ 63)
    (h : ∀ h', Fr h₀ L h' m → News h₀ L h' (updL D (listOf (its.set k.toNat x).toArray n) news) → Q () { s with heap := h' }) : wpAny (model prog w) A (setItem (.ref D) (.int k t) x) Q E s :=
  ki_set F (toHead N hm) h0 hfit (by simpa using ki_setL_set its k.toNat x (by (clear hfit; omega))) (.head offL_ne) (fun h' F' N' => h h' F' (ofHead N'))
theorem item_last {value slice : PySem.Expr} {u : Tok} {Q : Value → Shared → Prop} (N : News h₀ L s.heap news) (hm : (a, listOf its.toArray n) ∈ news) (hz : its.length < 2 ^ 62) (hx : its.getLast? = some x) (h : Q x s)
    (hs : subscripted slice false (.ref a) (.int (-1) u) = operate [.ref a, .int (-1) u] (getItem (.ref a) (.int (-1) u)) := by with_unfolding_all rfl) :
    wpAny (model prog w) A (subscriptTail value slice (.ref a) (.int (-1) u)) Q E s := by
  have hne : 0 < its.length := by
    cases its with
    | nil => simp at hx
    | cons => simp
  refine tail_any (N.isList hm).typeIs slot_list_getitem.lookup (wpAny_getItem_list_neg (N.isList hm) (by decide) (by simp; (clear hz; omega)) (by decide) ?_ h) hs
  rw [List.getLast?_eq_getElem?] at hx
  simp only [List.size_toArray, List.getElem?_toArray]
  rw [show (-1 + (its.length : Int)).toNat = its.length - 1 by (clear hne hz; omega)]
  exact hx
theorem item_at {value slice : PySem.Expr} {k : Int} {u : Tok} {Q : Value → Shared → Prop} (N : News h₀ L s.heap news) (hm : (a, listOf its.toArray n) ∈ news) (h0 : 0 ≤ k) (hfit : k < 2 ^ 63) (hx : its[k.toNat]? = some x) (h : Q x s)
    (hs : subscripted slice false (.ref a) (.int k u) = operate [.ref a, .int k u] (getItem (.ref a) (.int k u)) := by with_unfolding_all rfl) :
    wpAny (model prog w) A (subscriptTail value slice (.ref a) (.int k u)) Q E s :=
  tail_any (N.isList hm).typeIs slot_list_getitem.lookup (wpAny_getItem_list (N.isList hm) h0 hfit (by simpa using hx) h) hs
end
section
variable {prog : Program} {w : World} {A : Around} {E : Value → Shared → Prop} {s : Shared} {h₀ : Heap} {L a : Addr} {news : Led} {its : List Value} {n : Nat}
theorem len_U {k : Nat} {Q : Value → Shared → Prop} (N : News h₀ L s.heap news) (hm : (a, listOf its.toArray n) ∈ news) (hl : its.length = k) (hz : k < 2 ^ 62) (h : Q (.int (k : Int) (s.toks + 1)) { s with toks := s.toks + 1 + 1 }) :
    wpAny (model prog w) A (call (.builtin "len") [.ref a]) Q E s :=
  Calls.call_len_list (N.isList hm) (by simp; omega) (by rw [List.size_toArray, hl]; exact h)
end
noncomputable def Sub (a b : Led) : Prop := ∀ q ∈ a, q ∈ b
theorem Sub.refl (a : Led) : Sub a a := fun _ h => h
theorem Sub.trans {a b c : Led} (h : Sub a b) (h' : Sub b c) : Sub a c := fun q hq => h' q (h q hq)
theorem Sub.cons {a b : Led} (q : Addr × Obj) (h : Sub a b) : Sub a (q :: b) := fun p hp => .tail _ (h p hp)

noncomputable def bitB (net : Int) (i : Nat) : Bool := decide (Int.fmod (Int.fdiv net (2 ^ (31 - (i : Int)).toNat)) 2 ≠ 0)
noncomputable def bitsOf (net : Int) (k : Nat) : Bits := (List.range k).map (bitB net)
theorem bitsOf_succ (net : Int) (k : Nat) : bitsOf net (k + 1) = bitsOf net k ++ [bitB net k] := by simp [bitsOf, List.range_succ]
theorem bitsOf_length (net : Int) (k : Nat) : (bitsOf net k).length = k := by simp [bitsOf]
theorem child_eq (N : Tm) (net : Int) (i : Nat) : (if Int.fmod (Int.fdiv net (2 ^ (31 - (i : Int)).toNat)) 2 = 0 then vr (bA N (bitsOf net i ++ [false])) else vr (bA N (bitsOf net i ++ [true]))) = vr (bA N (bitsOf net (i + 1))) := by
  rw [bitsOf_succ]
  unfold bitB
  split <;> simp_all
noncomputable def pathRefs (N : Tm) (net : Int) (k : Nat) : List Value := (List.range (k + 1)).map fun j => vr (bA N (bitsOf net j))
theorem pathRefs_succ (N : Tm) (net : Int) (k : Nat) : pathRefs N net (k + 1) = pathRefs N net k ++ [vr (bA N (bitsOf net (k + 1)))] := by simp [pathRefs, List.range_succ]
theorem pathRefs_zero {N : Tm} {net : Int} {b : Addr} (h : bA N [] = some b) : pathRefs N net 0 = [.ref b] := by
  simp [pathRefs, bitsOf, h]
theorem pathRefs_length (N : Tm) (net : Int) (k : Nat) : (pathRefs N net k).length = k + 1 := by simp [pathRefs]
theorem pathRefs_last {N : Tm} {net : Int} {k : Nat} : (pathRefs N net k).getLast? = some (vr (bA N (bitsOf net k))) := by
  simp [pathRefs, List.range_succ]
theorem pathRefs_congr {N N' : Tm} {net : Int} {k : Nat} (h : ∀ j ≤ k, bA N' (bitsOf net j) = bA N (bitsOf net j)) : pathRefs N' net k = pathRefs N net k := by
  unfold pathRefs
  refine List.map_congr_left fun j hj => ?_
  rw [h j (by have := List.mem_range.mp hj; omega)]
theorem bA_some {N : Tm} {p : Bits} (h : (bA N p).isSome) : ∃ n, N p = some n := by
  unfold bA at h
  cases hn : N p with
  | none => rw [hn] at h; cases h
  | some n => exact ⟨n, rfl⟩
theorem bA_eq {N : Tm} {p : Bits} {b : Addr} (h : bA N p = some b) : ∃ n, N p = some n ∧ n.b = b := by
  unfold bA at h
  cases hn : N p with
  | none => rw [hn] at h; cases h
  | some n => rw [hn] at h; exact ⟨n, rfl, Option.some.inj h⟩
theorem bA_none {N : Tm} {p : Bits} (h : bA N p = none) : N p = none := by
  unfold bA at h
  cases hn : N p with
  | none => rfl
  | some n => rw [hn] at h; cases h
theorem allLt_mem {d : Addr} {l : Led} (h : AllLt d l) (q : Addr × Obj) (hq : q ∈ l) : @LT.lt Nat _ q.1 d := by
  induction l with
  | nil => cases hq
  | cons p r ih =>
    rcases List.mem_cons.mp hq with e | hq
    · rw [e]; exact h.1
    · exact ih h.2 hq
theorem allLt_ne {d : Addr} {l : Led} (h : AllLt d l) : ∀ q ∈ l, q.1 ≠ d := fun q hq => Nat.ne_of_lt (allLt_mem h q hq)
theorem allLt_all {d : Addr} {l : Led} (h : ∀ q ∈ l, @LT.lt Nat _ q.1 d) : AllLt d l := allLt_of h
theorem updL_tail {d : Addr} {o : Obj} {n : Led} (q : Addr × Obj) : ∀ p ∈ updL d o n, p ∈ updL d o (q :: n) := fun _ hp => by
  obtain ⟨p, h1, h2⟩ := mem_updL.mp hp
  exact mem_updL.mpr ⟨p, .tail _ h1, h2⟩
theorem updL_ne {d x : Addr} {o' : Obj} {news : Led} (h : ∀ p ∈ news, p.1 ≠ x) : ∀ p ∈ updL d o' news, p.1 ≠ x := fun p hp => by
  have : p.1 ∈ (updL d o' news).map (·.1) := List.mem_map_of_mem hp
  rw [updL_addr] at this
  obtain ⟨q, hq, e⟩ := List.mem_map.mp this
  exact e ▸ h q hq
theorem sub_updL {a n : Led} {d : Addr} {o : Obj} (h : Sub a n) (hn : ∀ q ∈ a, q.1 ≠ d) : Sub a (updL d o n) := fun q hq => mem_updL_ne (h q hq) (hn q hq)
theorem namPost_ret {h₀ : Heap} {L : Addr} {x : Str} {st ys : List Str} {m₀ : Str → Option Value} {P : List Value → Led → Prop} {I : Addr} {oI : Obj} {s₁ s₂ : Shared} {Q : Flow → Shared → Prop} {v : Value} (h : Q (.ret v) s₂) : NamPost h₀ L x st ys m₀ P I oI s₁ Q (.ret v) s₂ := h
theorem wnamPost_ret {h₀ : Heap} {L : Addr} {st ys : List Str} {m₀ : Str → Option Value} {P : Nat → List Value → Led → Prop} {n : Nat} {s₁ s₂ : Shared} {Q : Flow → Shared → Prop} {v : Value} (h : Q (.ret v) s₂) : WNamPost h₀ L st ys m₀ P n s₁ Q (.ret v) s₂ := h
theorem bit_if {α : Type} (net : Int) (i : Nat) (A B : α) : (if bitB net i = false then A else B) = if Int.fmod (Int.fdiv net (2 ^ (31 - (i : Int)).toNat)) 2 = 0 then A else B := by
  unfold bitB
  split <;> split <;> simp_all
theorem memU {h₀ h : Heap} {L d : Addr} {o : Obj} {n : Led} {q : Addr × Obj} (_N : News h₀ L h (updL d o n)) (hq : q ∈ n) (hne : q.1 ≠ d) : q ∈ updL d o n := mem_updL_ne hq hne
/-- an address that is none of the trie's -/
noncomputable def Far (M : Tm) (f : Addr) : Prop := ∀ p n, M p = some n → f ≠ n.b ∧ f ≠ n.d ∧ f ≠ n.l ∧ ∀ r ∈ n.rs, f ≠ r.x ∧ f ≠ r.d
theorem Far.off {M : Tm} {f : Addr} (h : Far M f) : Off M f := fun p n hp => ⟨(h p n hp).2.1, (h p n hp).2.2.1⟩
theorem far_of {w : World} {n : Led} {M : Tm} {f : Addr} (T : TrieIn w n M) (h : ∀ q ∈ n, q.1 ≠ f) : Far M f := fun p nd hp =>
  ⟨(h _ (T.inst p nd hp)).symm, (h _ (T.dict p nd hp)).symm, (h _ (T.list p nd hp)).symm, fun r hr => ⟨(h _ (T.rts p nd hp r hr).1.1).symm, (h _ (T.rts p nd hp r hr).1.2).symm⟩⟩
theorem TrieIn.updFar {w : World} {n : Led} {M : Tm} {f : Addr} {o : Obj} (T : TrieIn w n M) (h : Far M f) : TrieIn w (updL f o n) M :=
  ⟨fun p nd hp => mem_updL_ne (T.inst p nd hp) (h p nd hp).1.symm, fun p nd hp => mem_updL_ne (T.dict p nd hp) (h p nd hp).2.1.symm, fun p nd hp => mem_updL_ne (T.list p nd hp) (h p nd hp).2.2.1.symm,
    fun p nd hp r hr => ⟨⟨mem_updL_ne (T.rts p nd hp r hr).1.1 ((h p nd hp).2.2.2 r hr).1.symm, mem_updL_ne (T.rts p nd hp r hr).1.2 ((h p nd hp).2.2.2 r hr).2.symm⟩, (T.rts p nd hp r hr).2⟩⟩
theorem Keeps.updFar {news n : Led} {M M' : Tm} {f : Addr} {o : Obj} (K : Keeps news M n M') (h : ∀ q ∈ news, q.1 ≠ f) : Keeps news M (updL f o n) M' := fun q hq ho => ⟨mem_updL_ne (K q hq ho).1 (h q hq), (K q hq ho).2⟩
theorem updL_sub {d : Addr} {o : Obj} {a b : Led} (h : Sub a b) : Sub (updL d o a) (updL d o b) := fun q hq => by
  obtain ⟨p, hp, e⟩ := mem_updL.mp hq
  exact mem_updL.mpr ⟨p, h p hp, e⟩
theorem Far.setAt {M : Tm} {p : Bits} {nd : Nd} {f : Addr} (h : Far M f) (hb : f ≠ nd.b) (hd : f ≠ nd.d) (hl : f ≠ nd.l) (hr : ∀ r ∈ nd.rs, f ≠ r.x ∧ f ≠ r.d) : Far (setAt M p (some nd)) f := fun q n hq => by
  by_cases e : q = p
  · subst e; rw [setAt_self] at hq; obtain rfl := Option.some.inj hq; exact ⟨hb, hd, hl, hr⟩
  · rw [setAt_ne e] at hq; exact h q n hq
theorem vr_none : vr none = .none := rfl
theorem vr_some (a : Addr) : vr (some a) = .ref a := rfl
theorem vr_cases {w : World} {news led : Led} {M : Tm} {p : Bits} {v : Value} (T : TrieIn w news M) (hs : Sub news led) (h : v = vr (bA M p)) :
    (v = .none ∧ M p = none) ∨ ∃ nd, v = .ref nd.b ∧ M p = some nd ∧ (nd.b, instObj 169 nd.d) ∈ led ∧ (nd.d, nd.dict w M p) ∈ led ∧ (nd.l, nd.lst) ∈ led := by
  subst h
  cases hn : M p with
  | none => left; unfold bA; rw [hn]; exact ⟨rfl, rfl⟩
  | some nd => right; exact ⟨nd, by unfold bA; rw [hn]; rfl, rfl, hs _ (T.inst p nd hn), hs _ (T.dict p nd hn), hs _ (T.list p nd hn)⟩
theorem setL_map {m' m₀ : Str → Option Value} (z : Str) : ∀ (ys : List Str), (∀ y ∈ ys, (m' y).isSome = true) → (ys.contains z = false → m' z = m₀ z) → m' z = setL (ys.zip (ys.map fun y => (m' y).getD .none)) m₀ z
  | [], _, h => h rfl
  | y :: r, hs, h => by
    simp only [List.map_cons, List.zip_cons_cons, setL]
    split
    · next e =>
      subst e
      have := hs z (.head _)
      cases hm : m' z with
      | none => rw [hm] at this; cases this
      | some v => rfl
    · next e =>
      refine setL_map z r (fun y hy => hs y (.tail _ hy)) fun hc => h ?_
      rw [List.contains_cons, hc]
      simp [e]
theorem WNamEnd.introM {h₀ : Heap} {L : Addr} {st ys : List Str} {m₀ : Str → Option Value} {P : Nat → List Value → Led → Prop} {n : Nat} {s₁ : Shared} {h' : Heap} {tk : Nat} {m' : Str → Option Value} {news' : Led} (news₂ : Led) (n' : Nat)
    (F : Fr h₀ L h' m') (N : News h₀ L h' news') (hs : ∀ p ∈ news₂, p ∈ news') (hm : ∀ z, st.contains z = false → ys.contains z = false → m' z = m₀ z) (hy : ∀ y ∈ ys, (m' y).isSome = true) (hn : n' < n)
    (hp : P n' (ys.map fun y => (m' y).getD .none) news₂) : WNamEnd h₀ L st ys m₀ P n s₁ { s₁ with heap := h', toks := tk } :=
  WNamEnd.intro _ news₂ n' F N hs (fun z hz => setL_map z ys hy (hm z hz)) hn hp
theorem NamEnd.introM {h₀ : Heap} {L : Addr} {x : Str} {st ys : List Str} {m₀ : Str → Option Value} {P : List Value → Led → Prop} {I : Addr} {oI : Obj} {s₁ : Shared} {h' : Heap} {tk : Nat} {m' : Str → Option Value} {news' : Led} (news₂ : Led)
    (F : Fr h₀ L h' m') (N : News h₀ L h' news') (hI : (I, oI) ∈ news') (hs : ∀ p ∈ news₂, p ∈ news') (hn : ∀ p ∈ news₂, p.1 ≠ I) (hm : ∀ z, z ≠ x → st.contains z = false → ys.contains z = false → m' z = m₀ z) (hy : ∀ y ∈ ys, (m' y).isSome = true)
    (hp : P (ys.map fun y => (m' y).getD .none) news₂) : NamEnd h₀ L x st ys m₀ P I oI s₁ { s₁ with heap := h', toks := tk } :=
  NamEnd.intro _ news₂ F N hI hs hn (fun z hx hz => setL_map z ys hy (hm z hx hz)) hp
theorem pathRefs_get {N : Tm} {net : Int} {k j : Nat} {nd : Nd} (hj : j ≤ k) (h : N (bitsOf net j) = some nd) : (pathRefs N net k)[j]? = some (.ref nd.b) := by
  unfold pathRefs
  rw [List.getElem?_map, List.getElem?_range (show j < k + 1 by omega)]
  simp [bA, h, vr]
/-- the walk stops here -/
noncomputable def Stop (P : Prop) : Prop := P
theorem Stop.go {P : Prop} (h : Stop P) : P := h
/-- what holds of the trie while it is changed, its routes as they were -/
structure Made (w : World) (news : Led) (M : Tm) (b0 : Addr) (n : Led) (M' : Tm) : Prop where
  T : TrieIn w n M'
  W : Wf M'
  rs : ∀ q, rsAt M' q = rsAt M q
  root : bA M' [] = some b0
  keeps : Keeps news M n M'
theorem Made.mono {w : World} {news n n' : Led} {M M' : Tm} {b0 : Addr} (h : Made w news M b0 n M') (hs : Sub n n') : Made w news M b0 n' M' :=
  ⟨h.T.mono hs, h.W, h.rs, h.root, h.keeps.trans (Keeps.more hs)⟩
theorem bit_if' {α : Type} {net : Int} {i : Nat} {y : Int} (h : y = (i : Int)) (A B : α) : (if bitB net i = false then A else B) = if Int.fmod (Int.fdiv net (2 ^ (31 - y).toNat)) 2 = 0 then A else B := by
  rw [h]; exact bit_if net i A B

set_option maxRecDepth 100000 in
set_option maxHeartbeats 2000000 in
theorem spec_path0 (prog : Program) (w : World) (x td : Addr) (t0 t1 : Tok) (mv : Value) (M : Tm) (b0 : Addr) (net pre : Int) (tn tp : Tok) (news : Led) (h1 : (x, instObj 251 td) ∈ news) (h2 : (td, tbD w t0 t1 (.ref b0) mv) ∈ news) (TI : TrieIn w news M) (W : Wf M) (hb0 : bA M [] = some b0) (hp0 : 0 ≤ pre) (hp1 : pre ≤ 32) :
    Spec prog w 208 6 48 [.ref x, .int net tn, .int pre tp, .bool false] news (fun news v news' => ∃ f c k, v = .ref f ∧ (f, listOf (pathRefs M net k).toArray c) ∈ news' ∧ Sub news news' ∧ AllLt f news ∧ (k : Int) ≤ pre ∧ (bA M (bitsOf net k)).isSome ∧ ((k : Int) < pre → bA M (bitsOf net (k + 1)) = none)) := by
  intro p loose mean mg mb dp un gd cn cs a ccd cl outer A₀ base h₀ L m s Q E B F X N T hk hd hu hret
  obtain mk_F6_1 : True := trivial
  k_with "loop" => (guard_hyp mk_F6_1; (refine Stop.go ?_))
  walk_at "m_enter"
  k_steps
  rename ∀ q ∈ news, q.1 < _ => l9
  refine iter_rngN ["bit", "later"] ["found"] [_] (fun i vs n => ∃ f c, vs = [.ref f] ∧ (f, listOf (pathRefs M net i).toArray c) ∈ n ∧ Sub news n ∧ (bA M (bitsOf net i)).isSome ∧ AllLt f news) (by exact rfl) (by assumption) (by k_asm) (by k_asm) (setL_one (by exact rfl)) ?hj ?turn ?done ?small
  case small => walk_at "m_small"
  case hj =>
    refine ⟨_, 0, rfl, ?_, Sub.cons _ (Sub.refl _), by simp [bitsOf, hb0], allLt_of l9⟩
    rw [pathRefs_zero hb0]
    exact .head _
  case done =>
    intro u9 vs9 n9 h9 tk9 hp9 F9 N9
    refine hide ?_
    intro GG0 hGG0
    obtain ⟨f9, c9, rfl, hf9, hs9, hb9, hl9⟩ := hp9
    refine hGG0 ?_
    (try clear hGG0 GG0)
    (try dsimp only)
    (try k_fold)
    k_steps
    all_goals exact hret _ _ _ _ (by k_asm) (by k_asm) ⟨f9, c9, pre.toNat, rfl, hf9, hs9, hl9, by (clear hd hp1 hu; omega), hb9, fun h => by (clear hd hp0 hp1 hu; omega)⟩
  case turn =>
    intro i9 t9 vs9 u9 n9 h9 tk9 I9 oI9 hlt9 hp9 hI9 hlt9' F9 N9
    refine hide ?_
    intro GG0 hGG0
    obtain ⟨f9, c9, rfl, hf9, hs9, hb9, hl9⟩ := hp9
    obtain ⟨nd9, hnd9⟩ := bA_some hb9
    refine hGG0 ?_
    (try clear hGG0 GG0)
    k_fold
    have hin := hs9 _ (TI.inst _ _ hnd9)
    have hdn := hs9 _ (TI.dict _ _ hnd9)
    have hz9 : (pathRefs M net i9).length ≤ 33 := by rw [pathRefs_length]; (clear hd hp0 hu; omega)
    have hx9 : (pathRefs M net i9).getLast? = some (.ref nd9.b) := by rw [pathRefs_last]; unfold bA; rw [hnd9]; rfl
    k_with "size" => (guard_hyp mk_F6_1; first | (rw [pathRefs_length]; omega) | (rw [pathRefs_length, PySem.sizeLine_eq]; omega))
    k_with "item" => (guard_hyp mk_F6_1; skip)
    k_with "appU" => (guard_hyp mk_F6_1; skip)
    k_with "spec" => (guard_hyp mk_F6_1; first | exact spec_bit_at _ _ _ _ _ _ _ (by walk_at "m_om") (by walk_at "m_om") | exact spec_child _ _ _ _ _ _ _ _ _ _ _ _ _ (by k_mem) (by k_mem) (vr_handed _) (vr_handed _))
    k_with "post" => (guard_hyp mk_F6_1; (subst he9; rename_i P9; first | (obtain ⟨rfl, rfl⟩ := P9; rw [child_eq]; rcases hc9 : bA M (bitsOf net (i9 + 1)) with _ | k9 <;> simp only [vr]) | (obtain ⟨rfl, t9, rfl⟩ := P9)))
    k_steps
    all_goals (try dsimp only)
    k_steps
    · refine namPost_ret ?_
      (try dsimp only)
      k_steps
      all_goals exact hret _ _ _ _ (by k_asm) (by k_asm) ⟨f9, c9, i9, rfl, .tail _ hf9, fun q hq => .tail _ (hs9 q hq), hl9, by (clear hd hp0 hp1 hu hz9; omega), hb9, fun _ => hc9⟩
    · refine NamEnd.intro [_] (updL f9 _ n9) (by k_asm) (by k_asm) (mem_updL_ne (.head _) (fun e => hI9 _ hf9 e.symm)) (updL_tail _) (updL_ne hI9) (by walk_at "m_names") ⟨f9, c9 + 1, rfl, ?_, sub_updL hs9 (allLt_ne hl9), by rw [hc9]; rfl, hl9⟩
      rw [pathRefs_succ, hc9]
      exact mem_updL_self hf9

set_option maxRecDepth 100000 in
set_option maxHeartbeats 2000000 in
theorem spec_path1 (prog : Program) (w : World) (x td : Addr) (t0 t1 : Tok) (mv : Value) (M : Tm) (b0 : Addr) (net pre : Int) (tn tp : Tok) (news : Led) (h1 : (x, instObj 251 td) ∈ news) (h2 : (td, tbD w t0 t1 (.ref b0) mv) ∈ news) (TI : TrieIn w news M) (W : Wf M) (hb0 : bA M [] = some b0) (hp0 : 0 ≤ pre) (hp1 : pre ≤ 32) :
    Spec prog w 208 6 48 [.ref x, .int net tn, .int pre tp, .bool true] news (fun news v news' => ∃ f c M', v = .ref f ∧ (f, listOf (pathRefs M' net pre.toNat).toArray c) ∈ news' ∧ Made w news M b0 news' M' ∧ (∀ j ≤ pre.toNat, (bA M' (bitsOf net j)).isSome) ∧ Far M' f ∧ AllLt f news) := by
  intro p loose mean mg mb dp un gd cn cs a ccd cl outer A₀ base h₀ L m s Q E B F X N T hk hd hu hret
  obtain mk_F7_1 : True := trivial
  k_with "loop" => (guard_hyp mk_F7_1; (refine Stop.go ?_))
  walk_at "m_enter"
  k_steps
  rename ∀ q ∈ news, q.1 < _ => l9
  refine iter_rngN ["bit", "later"] ["found"] [_] (fun i vs n => ∃ f c M', vs = [.ref f] ∧ (f, listOf (pathRefs M' net i).toArray c) ∈ n ∧ Made w news M b0 n M' ∧ (∀ j ≤ i, (bA M' (bitsOf net j)).isSome) ∧ Far M' f ∧ AllLt f news) (by exact rfl) (by assumption) (by k_asm) (by k_asm) (setL_one (by exact rfl)) ?hj ?turn ?done ?small
  case small => walk_at "m_small"
  case hj =>
    refine ⟨_, 0, M, rfl, ?_, ⟨TI.mono (Sub.cons _ (Sub.refl _)), W, fun _ => rfl, hb0, Keeps.more (Sub.cons _ (Sub.refl _))⟩, ?_, ?_, allLt_of l9⟩
    · rw [pathRefs_zero hb0]
      exact .head _
    · intro j hj
      obtain rfl : j = 0 := by (clear hd hp0 hp1 hu; omega)
      simp [bitsOf, hb0]
    · exact far_of TI fun q hq => Nat.ne_of_lt (l9 q hq)
  case done =>
    intro u9 vs9 n9 h9 tk9 hp9 F9 N9
    refine hide ?_
    intro GG0 hGG0
    obtain ⟨f9, c9, M9, rfl, hf9, hs9, hb9, ho9, hl9⟩ := hp9
    refine hGG0 ?_
    (try clear hGG0 GG0)
    (try dsimp only)
    (try k_fold)
    k_steps
    all_goals exact hret _ _ _ _ (by k_asm) (by k_asm) ⟨f9, c9, M9, rfl, hf9, hs9, hb9, ho9, hl9⟩
  case turn =>
    intro i9 t9 vs9 u9 n9 h9 tk9 I9 oI9 hlt9 hp9 hI9 hlt9' F9 N9
    refine hide ?_
    intro GG0 hGG0
    obtain ⟨f9, c9, M9, rfl, hf9, hs9, hb9, ho9, hl9⟩ := hp9
    obtain ⟨nd9, hnd9⟩ := bA_some (hb9 i9 (Nat.le_refl _))
    refine hGG0 ?_
    (try clear hGG0 GG0)
    k_fold
    have hin := hs9.T.inst _ _ hnd9
    have hdn := hs9.T.dict _ _ hnd9
    have hx9 : (pathRefs M9 net i9).getLast? = some (.ref nd9.b) := by rw [pathRefs_last]; unfold bA; rw [hnd9]; rfl
    k_with "size" => (guard_hyp mk_F7_1; first | (rw [pathRefs_length]; omega) | (rw [pathRefs_length, PySem.sizeLine_eq]; omega))
    k_with "item" => (guard_hyp mk_F7_1; skip)
    k_with "appU" => (guard_hyp mk_F7_1; skip)
    k_with "spec" => (guard_hyp mk_F7_1; first | exact spec_bit_at _ _ _ _ _ _ _ (by walk_at "m_om") (by walk_at "m_om") | exact spec_child _ _ _ _ _ _ _ _ _ _ _ _ _ (by k_mem) (by k_mem) (vr_handed _) (vr_handed _))
    k_with "post" => (guard_hyp mk_F7_1; (subst he9; rename_i P9; first | (obtain ⟨rfl, rfl⟩ := P9; rw [child_eq]; rcases hc9 : bA M9 (bitsOf net (i9 + 1)) with _ | k9 <;> simp only [vr]) | (obtain ⟨rfl, t9, rfl⟩ := P9)))
    k_with "spec" => (guard_hyp mk_F7_1; exact spec_newBranch _ _ _)
    k_with "post" => (guard_hyp mk_F7_1; (subst he9; rename_i P9; obtain ⟨b9, d9, l9', t0, t1, t2, c9', rfl, rfl, q1, q2, q3⟩ := P9; simp only [AllLt] at q1))
    k_with "spec" => (guard_hyp mk_F7_1; exact spec_set_child _ _ _ _ _ _ _ _ _ _ _ _ _ _ (by k_mem) (by k_mem))
    k_with "post" => (guard_hyp mk_F7_1; (subst he9; rename_i N9 P9; obtain ⟨rfl, rfl⟩ := P9; obtain hf9' := memU N9 (.tail _ (.tail _ (.tail _ (.tail _ hf9)))) (ho9 _ _ hnd9).2.1))
    k_steps
    all_goals (try dsimp only)
    k_steps
    · have hA : @LT.lt Nat _ nd9.d d9 := allLt_mem q1.2 _ hdn
      refine hide ?_
      intro GG0 hGG0
      have hB : @LT.lt Nat _ f9 d9 := allLt_mem q1.2 _ hf9
      have hC : f9 ≠ nd9.d := (ho9 _ _ hnd9).2.1
      have hI1 : ∀ q ∈ (l9', listOf #[] c9') :: (b9, instObj 169 d9) :: (d9, brD w t0 t1 t2 .none .none (.ref l9')) :: n9, q.1 ≠ I9 := by
        intro q hq
        simp only [List.mem_cons] at hq
        rcases hq with rfl | rfl | rfl | hq
        · exact neN (by dsimp only; (clear hA hB hC hGG0 hd hlt9 hp0 hp1 hu; omega))
        · exact neN (by dsimp only; (clear hA hB hC hGG0 hd hlt9 hp0 hp1 hu q3; omega))
        · exact neN (by dsimp only; (clear hA hB hC hGG0 hd hlt9 hp0 hp1 hu q2 q3; omega))
        · exact hI9 q hq
      obtain ⟨g1, g2, g3, g4⟩ := grow (news' := updL nd9.d _ ((l9', listOf #[] c9') :: (b9, instObj 169 d9) :: (d9, brD w t0 t1 t2 .none .none (.ref l9')) :: n9)) (b := bitB net i9) (nd := ⟨b9, d9, l9', t0, t1, t2, c9', []⟩) hs9.T hs9.W hnd9 (bA_none (by rw [← bitsOf_succ]; exact hc9)) (by rw [bitsOf_length]; (clear hA hB hC hGG0 hd hp0 hu q1 q2 q3; omega)) rfl
        (fun q hq => by have := allLt_mem q1.2 q hq; exact ⟨neN (by dsimp only; (clear hA hB hC hGG0 hd hlt9 hp0 hp1 hu q1 q3; omega)), neN (by dsimp only; (clear hA hB hC hGG0 hd hlt9 hp0 hp1 hu q1 q2 q3; omega)), neN (by dsimp only; (clear hA hB hC hGG0 hd hlt9 hp0 hp1 hu q1; omega))⟩) (neN (by dsimp only; (clear hA hB hC hGG0 hd hlt9 hp0 hp1 hu q1 q3; omega))) (neN (by dsimp only; (clear hA hB hC hGG0 hd hlt9 hp0 hp1 hu q1 q2; omega))) (neN (by dsimp only; (clear hA hB hC hGG0 hd hlt9 hp0 hp1 hu q1; omega)))
        (mem_updL_ne (.tail _ (.head _)) (neN (by dsimp only; (clear hB hC hGG0 hd hlt9 hp0 hp1 hu q1 q3; omega)))) (mem_updL_ne (.tail _ (.tail _ (.head _))) (neN (by dsimp only; (clear hB hC hGG0 hd hlt9 hp0 hp1 hu q1 q2 q3; omega)))) (mem_updL_ne (.head _) (neN (by dsimp only; (clear hB hC hGG0 hd hlt9 hp0 hp1 hu q1; omega))))
        (mem_updL_self (.tail _ (.tail _ (.tail _ hdn)))) (fun q hq hne => mem_updL_ne (.tail _ (.tail _ (.tail _ hq))) hne)
      rw [← bitsOf_succ] at g1 g2 g3 g4
      have hfar := ho9.setAt (p := bitsOf net (i9 + 1)) (nd := ⟨b9, d9, l9', t0, t1, t2, c9', []⟩) (neN (by dsimp only; (clear hA hC hGG0 hd hlt9 hp0 hp1 hu q1 q3; omega))) (neN (by dsimp only; (clear hA hC hGG0 hd hlt9 hp0 hp1 hu q1 q2 q3; omega))) (neN (by dsimp only; (clear hA hC hGG0 hd hlt9 hp0 hp1 hu q1; omega))) (fun r hr => nomatch hr)
      have hpre : ∀ j ≤ i9, bA (setAt M9 (bitsOf net (i9 + 1)) (some ⟨b9, d9, l9', t0, t1, t2, c9', []⟩)) (bitsOf net j) = bA M9 (bitsOf net j) := fun j hj => by
        unfold bA; rw [setAt_ne (fun e => by have := congrArg List.length e; rw [bitsOf_length, bitsOf_length] at this; (clear hA hB hC hGG0 hd hlt9 hp0 hp1 hu q1 q2 q3; omega))]
      have hnew : bA (setAt M9 (bitsOf net (i9 + 1)) (some ⟨b9, d9, l9', t0, t1, t2, c9', []⟩)) (bitsOf net (i9 + 1)) = some b9 := by unfold bA; rw [setAt_self]; rfl
      refine hGG0 ?_
      (try clear hGG0 GG0)
      refine NamEnd.intro [_] (updL f9 _ (updL nd9.d _ ((l9', listOf #[] c9') :: (b9, instObj 169 d9) :: (d9, brD w t0 t1 t2 .none .none (.ref l9')) :: n9))) (by k_asm) (by k_asm)
        (mem_updL_ne (mem_updL_ne (.tail _ (.tail _ (.tail _ (.head _)))) (fun e => hI9 _ hdn e.symm)) (fun e => hI9 _ hf9 e.symm))
        (updL_sub (updL_sub (fun q hq => by simp only [List.mem_cons] at hq ⊢; rcases hq with h | h | h | h <;> simp [h]))) (updL_ne (updL_ne hI1)) (by walk_at "m_names")
        ⟨f9, c9 + 1, setAt M9 (bitsOf net (i9 + 1)) (some ⟨b9, d9, l9', t0, t1, t2, c9', []⟩), rfl, ?_, ⟨?_, g2, fun q => (g4 q).trans (hs9.rs q), ?_, ?_⟩, ?_, hfar, hl9⟩
      · rw [pathRefs_succ, hnew, pathRefs_congr hpre]
        exact mem_updL_self (mem_updL_ne (.tail _ (.tail _ (.tail _ hf9))) hC)
      · simp only [bit_if] at g1
        exact g1.updFar hfar
      · rw [show ([] : Bits) = bitsOf net 0 from rfl, hpre 0 (Nat.zero_le _)]; exact hs9.root
      · simp only [bit_if] at g3
        exact (hs9.keeps.trans g3).updFar (allLt_ne hl9)
      · intro j hj
        by_cases e : j = i9 + 1
        · rw [e, hnew]; rfl
        · rw [hpre j (by (clear hA hB hC hd hlt9 hp0 hp1 hu q1 q2 q3; omega))]; exact hb9 j (by (clear hA hB hC hd hlt9 hp0 hp1 hu q1 q2 q3; omega))
    · refine NamEnd.intro [_] (updL f9 _ n9) (by k_asm) (by k_asm) (mem_updL_ne (.head _) (fun e => hI9 _ hf9 e.symm)) (updL_tail _) (updL_ne hI9) (by walk_at "m_names") ⟨f9, c9 + 1, M9, rfl, ?_, ⟨hs9.T.updFar ho9, hs9.W, hs9.rs, hs9.root, hs9.keeps.updFar (allLt_ne hl9)⟩, ?_, ho9, hl9⟩
      · rw [pathRefs_succ, hc9]
        exact mem_updL_self hf9
      · intro j hj
        by_cases e : j = i9 + 1
        · rw [e, hc9]; rfl
        · exact hb9 j (by (clear hd hlt9 hp0 hp1 hu; omega))

/-- the route found: the best of the last place on the way that has any -/
noncomputable def fnd (M : Tm) (net : Int) : Nat → Option Rt
  | 0 => bestOf (rsAt M [])
  | k + 1 => if (rsAt M (bitsOf net (k + 1))).isEmpty then fnd M net k else bestOf (rsAt M (bitsOf net (k + 1)))
theorem fnd_end {M : Tm} (W : Wf M) {net : Int} {k : Nat} (h : M (bitsOf net k) = none) : ∀ j, fnd M net (k + j) = fnd M net k
  | 0 => rfl
  | j + 1 => by
    have hn : ∀ i, M (bitsOf net (k + i)) = none := by
      intro i
      induction i with
      | zero => exact h
      | succ i ih => rw [show k + (i + 1) = (k + i) + 1 by omega, bitsOf_succ]; exact W.leaf ih _
    rw [show k + (j + 1) = (k + j) + 1 by omega, fnd]
    have : rsAt M (bitsOf net (k + j + 1)) = [] := by unfold rsAt; rw [show k + j + 1 = k + (j + 1) by omega, hn]
    rw [this]
    exact fnd_end W h j

theorem vs3 {k : Nat} {t : Tok} {a b a' b' : Value} (h1 : a = a') (h2 : b = b') : [a, b, .int ((k : Int) + 1) t] = [a', b', .int ((k + 1 : Nat) : Int) t] := by
  rw [h1, h2]; rfl

set_option maxRecDepth 100000 in
set_option maxHeartbeats 2000000 in
theorem spec_find (prog : Program) (w : World) (x td : Addr) (t0 t1 : Tok) (mv : Value) (M : Tm) (b0 : Addr) (net : Int) (tn : Tok) (news : Led) (h1 : (x, instObj 251 td) ∈ news) (h2 : (td, tbD w t0 t1 (.ref b0) mv) ∈ news) (TI : TrieIn w news M) (W : Wf M) (hb0 : bA M [] = some b0) :
    Spec prog w 241 6 48 [.ref x, .int net tn] news (fun news v news' => Sub news news' ∧ v = vrt (fnd M net 32)) := by
  intro p loose mean mg mb dp un gd cn cs a ccd cl outer A₀ base h₀ L m s Q E B F X N T hk hd hu hret
  obtain mk_F8_1 : True := trivial
  obtain ⟨nd0, hnd0⟩ := bA_some (by rw [hb0]; rfl : (bA M []).isSome)
  obtain rfl : nd0.b = b0 := by unfold bA at hb0; rw [hnd0] at hb0; exact Option.some.inj hb0
  have hin := TI.inst _ _ hnd0
  have hdn := TI.dict _ _ hnd0
  have hls := TI.list _ _ hnd0
  k_with "while" => (guard_hyp mk_F8_1; (refine Stop.go ?_))
  k_with "spec" => (guard_hyp mk_F8_1; exact spec_best _ _ _ _ _ _ _ _ _ _ _ _ _ (by k_mem) (by k_mem) (by k_mem) (fun r hr => (TI.rts _ _ hnd0 r hr).1))
  k_with "post" => (guard_hyp mk_F8_1; (rename_i P9; obtain ⟨rfl, rfl⟩ := P9))
  walk_at "m_enter"
  k_steps
  refine While_nam [] ["branch", "found", "place"] [_, _, _] (n₀ := 33) (fun n vs led => ∃ (k : Nat) (t : Tok), n = 33 - k ∧ k ≤ 32 ∧ vs = [vr (bA M (bitsOf net k)), vrt (fnd M net k), .int (k : Int) t] ∧ Sub news led) (by k_asm) (by k_asm) (setL_three (by exact rfl) (by exact rfl) (by exact rfl)) ?hv ?turn
  case hv =>
    have e1 : bA M (bitsOf net 0) = some nd0.b := hb0
    have e2 : fnd M net 0 = bestOf nd0.rs := by simp [fnd, rsAt, hnd0]
    refine ⟨0, ?_, rfl, by (clear hd hu; omega), ?_, Sub.refl _⟩
    rotate_left
    · rw [e1, e2]; rfl
  case turn =>
    intro n9 vs9 u9 led9 h9 tk9 hp9 F9 N9
    refine hide ?_
    intro GG0 hGG0
    obtain ⟨k9, t9, rfl, hk9, rfl, hs9⟩ := hp9
    refine hGG0 ?_
    (try clear hGG0 GG0)
    rcases hb9 : M (bitsOf net k9) with _ | nd9
    all_goals simp only [bA, hb9, Option.map_none, Option.map_some, vr] at F9
    case' some => obtain hin9 := hs9 _ (TI.inst _ _ hb9)
    case' some => obtain hdn9 := hs9 _ (TI.dict _ _ hb9)
    all_goals k_fold
    k_with "spec" => (guard_hyp mk_F8_1; first | exact spec_bit_at _ _ _ _ _ _ _ (by walk_at "m_om") (by walk_at "m_om") | exact spec_child _ _ _ _ _ _ _ _ _ _ _ _ _ (by k_mem) (by k_mem) (vr_handed _) (vr_handed _) | exact spec_best _ _ _ _ _ _ _ _ _ _ _ _ _ (by k_mem) (by k_mem) (by k_mem) (fun r hr => (TI.rts _ _ (by assumption) r hr).1.mono (fun q hq => .tail _ (hs9 q hq))))
    k_with "post" => (guard_hyp mk_F8_1; (subst he9; rename_i P9; first | (obtain ⟨rfl, h9e⟩ := P9; rw [child_eq] at h9e; rcases vr_cases TI hs9 h9e with ⟨rfl, hc9⟩ | ⟨nd8, rfl, hnd8, hin8, hdn8, hls8⟩) | (obtain ⟨rfl, rfl⟩ := P9) | (obtain ⟨rfl, t9, rfl⟩ := P9)))
    k_steps
    all_goals first
      | (refine hret _ _ _ _ (by k_asm) (by k_asm) ⟨hs9, congrArg vrt ?_⟩; first | (rw [show 32 = k9 + (32 - k9) by (clear hd hu; omega)]; exact (fnd_end W hb9 _).symm) | (rw [show k9 = 32 by (clear hd hu; omega)]))
      | (refine' WNamEnd.introM led9 (33 - (k9 + 1)) (by k_asm) (by k_asm) (by first | exact fun p hp => hp | exact fun p hp => .tail _ hp) ?_ ?_ (by (clear hd hk9 hu; omega)) ?_; (next => walk_at "m_off"); (next => walk_at "m_on"); refine' ⟨k9 + 1, _, rfl, by (clear hd hk9 hu; omega), vs3 ?_ ?_, hs9⟩)
    all_goals (try simp only [decide_eq_true_eq, decide_eq_false_iff_not, Bool.not_eq_true', Bool.not_eq_false', List.isEmpty_map] at *)
    · show Value.none = _
      simp only [bA, hc9, Option.map_none, vr]
    · show vrt (fnd M net k9) = _
      simp only [fnd, rsAt, hc9, List.isEmpty_nil, if_true]
    · show Value.ref nd8.b = _
      simp only [bA, hnd8, Option.map_some, vr]
    · show vrt (fnd M net k9) = _
      simp only [fnd, rsAt, hnd8, *, if_true]
    · show Value.ref nd8.b = _
      simp only [bA, hnd8, Option.map_some, vr]
    · show vrt (bestOf nd8.rs) = _
      simp only [fnd, rsAt, hnd8, *, Bool.false_eq_true, if_false]

theorem vs1 {a b : Int} {t : Tok} (h : a = b) : [Value.int a t] = [Value.int b t] := by rw [h]
theorem pathRefs_get' {M M' : Tm} {net : Int} {n k j : Nat} {nd : Nd} (he : ∀ j ≤ n, bA M' (bitsOf net j) = bA M (bitsOf net j)) (h : M' (bitsOf net j) = some nd) (hj : j ≤ n) (hk : n ≤ k) : (pathRefs M net k)[j]? = some (.ref nd.b) := by
  unfold pathRefs
  rw [List.getElem?_map, List.getElem?_range (show j < k + 1 by omega)]
  have := he j hj
  simp only [Option.map_some]
  rw [← this]
  simp [bA, h, vr]

set_option maxRecDepth 100000 in
set_option maxHeartbeats 2000000 in
theorem spec_prune (prog : Program) (w : World) (xv : Value) (M : Tm) (b0 f : Addr) (c k : Nat) (net : Int) (tn : Tok) (news : Led) (h3 : (f, listOf (pathRefs M net k).toArray c) ∈ news) (ho : Off M f) (TI : TrieIn w news M) (W : Wf M) (hb0 : bA M [] = some b0) (hk : k ≤ 32) (hall : ∀ j ≤ k, (bA M (bitsOf net j)).isSome) :
    Spec prog w 234 6 48 [xv, .int net tn, .ref f] news (fun news v news' => v = .none ∧ ∃ M', Made w news M b0 news' M' ∧ ∀ p n, M' p = some n → M p = some n) := by
  intro p loose mean mg mb dp un gd cn cs a ccd cl outer A₀ base h₀ L m s Q E B F X N T hk hd hu hret
  obtain mk_F9_1 : True := trivial
  k_with "while" => (guard_hyp mk_F9_1; (refine Stop.go ?_))
  k_with "lenU" => (guard_hyp mk_F9_1; skip)
  k_with "len" => (guard_hyp mk_F9_1; exact pathRefs_length _ _ _)
  k_with "size" => (guard_hyp mk_F9_1; first | omega | (rw [pathRefs_length]; omega))
  walk_at "m_enter"
  k_steps
  refine While_nam [] ["at"] [_] (n₀ := k) (fun n vs led => ∃ (t : Tok) (M' : Tm), n ≤ k ∧ vs = [.int (n : Int) t] ∧ Made w news M b0 led M' ∧ (∀ j ≤ n, bA M' (bitsOf net j) = bA M (bitsOf net j)) ∧ (f, listOf (pathRefs M net k).toArray c) ∈ led ∧ Off M' f ∧ ∀ p n, M' p = some n → M p = some n) (by k_asm) (by k_asm) (setL_one (by exact rfl)) ?hv ?turn
  case hv => exact ⟨_, M, Nat.le_refl _, vs1 (by (clear hd hu; omega)), ⟨TI, W, fun _ => rfl, hb0, fun q hq ho => ⟨hq, ho⟩⟩, fun _ _ => rfl, h3, ho, fun _ _ h => h⟩
  case turn =>
    intro n9 vs9 u9 led9 h9 tk9 hp9 F9 N9
    refine hide ?_
    intro GG0 hGG0
    obtain ⟨t9, M9, hk9, rfl, hm9, he9, hf9, ho9, hs9⟩ := hp9
    refine hGG0 ?_
    (try clear hGG0 GG0)
    k_fold
    rcases n9 with _ | a9
    · k_steps
      all_goals exact hret _ _ _ _ (by k_asm) (by k_asm) ⟨rfl, M9, hm9, hs9⟩
    refine hide ?_
    intro GG0 hGG0
    obtain ⟨nd9, hnd9⟩ := bA_some (by rw [he9 (a9 + 1) (Nat.le_refl _)]; exact hall (a9 + 1) hk9 : (bA M9 (bitsOf net (a9 + 1))).isSome)
    obtain ⟨nd8, hnd8⟩ := bA_some (by rw [he9 a9 (Nat.le_succ _)]; exact hall a9 (by (clear hGG0 hd hu; omega)) : (bA M9 (bitsOf net a9)).isSome)
    have hx9 : (pathRefs M net k)[((a9 + 1 : Nat) : Int).toNat]? = some (.ref nd9.b) := pathRefs_get' (j := a9 + 1) he9 hnd9 (Nat.le_refl _) hk9
    have hx8 : (pathRefs M net k)[(((a9 + 1 : Nat) : Int) - 1).toNat]? = some (.ref nd8.b) := by rw [show (((a9 + 1 : Nat) : Int) - 1).toNat = a9 by (clear hGG0 hd hk9 hu; omega)]; exact pathRefs_get' (j := a9) he9 hnd8 (Nat.le_succ _) (by (clear hGG0 hd hu; omega))
    have hin9 := hm9.T.inst _ _ hnd9
    have hdn9 := hm9.T.dict _ _ hnd9
    have hls9 := hm9.T.list _ _ hnd9
    have hin8 := hm9.T.inst _ _ hnd8
    have hdn8 := hm9.T.dict _ _ hnd8
    refine hGG0 ?_
    (try clear hGG0 GG0)
    k_with "item" => (guard_hyp mk_F9_1; skip)
    k_with "spec" => (guard_hyp mk_F9_1; first | exact spec_is_bare _ _ _ _ _ _ _ _ _ _ _ _ _ (by k_mem) (by k_mem) (by k_mem) | exact spec_bit_at _ _ _ _ _ _ _ (by walk_at "m_om") (by walk_at "m_om") | exact spec_set_child _ _ _ _ _ _ _ _ _ _ _ _ _ _ (by k_mem) (by k_mem))
    k_with "post" => (guard_hyp mk_F9_1; (rename_i P9; obtain ⟨rfl, t9, rfl⟩ := P9))
    k_with "post" => (guard_hyp mk_F9_1; (rename_i P9; obtain ⟨rfl, rfl⟩ := P9))
    k_with "post" => (guard_hyp mk_F9_1; (rename_i P9; obtain ⟨⟨x9, rfl, hx9l⟩, rfl⟩ := P9))
    k_steps
    · rename (_ && _) = true => hc9
      refine hide ?_
      intro GG0 hGG0
      simp only [Bool.and_eq_true, List.isEmpty_iff, List.map_eq_nil_iff, Option.isNone_iff_eq_none] at hc9
      have hnd9' : M9 (bitsOf net a9 ++ [bitB net a9]) = some nd9 := by rw [← bitsOf_succ]; exact hnd9
      obtain ⟨g1, g2, g3, g4⟩ := shed (news' := updL nd8.d _ ((x9, listOf #[] 0) :: led9)) (b := bitB net a9) hm9.T hm9.W hnd8 hnd9' hc9.1.1 (bA_none (by rw [← bitsOf_succ]; exact hc9.1.2)) (bA_none (by rw [← bitsOf_succ]; exact hc9.2))
        (mem_updL_self (.tail _ hdn8)) (fun q hq hne => mem_updL_ne (.tail _ hq) hne)
      rw [← bitsOf_succ] at g1 g2 g3 g4
      simp only [bit_if' (show ((a9 + 1 : Nat) : Int) - 1 = (a9 : Int) by (clear hGG0 hc9 hd hk9 hu; omega))] at g1 g3
      have hpre : ∀ j ≤ a9, bA (setAt M9 (bitsOf net (a9 + 1)) none) (bitsOf net j) = bA M (bitsOf net j) := fun j hj => by
        rw [← he9 j (by (clear hGG0 hc9 hd hk9 hu; omega))]; unfold bA; rw [setAt_ne (fun e => by have := congrArg List.length e; rw [bitsOf_length, bitsOf_length] at this; (clear hGG0 hc9 hd hk9 hu; omega))]
      have hk := g3 _ hf9 ho9
      refine hGG0 ?_
      (try clear hGG0 GG0)
      refine' WNamEnd.introM _ a9 (by k_asm) (by k_asm) (fun p hp => hp) ?_ ?_ (Nat.lt_succ_self _) ?_
      · walk_at "m_off"
      · walk_at "m_on"
      · exact ⟨_, _, by (clear hc9 hd hk hu; omega), vs1 (by (clear hc9 hd hk hk9 hu; omega)), ⟨g1, g2, fun q => (g4 q).trans (hm9.rs q), (hpre 0 (Nat.zero_le _)).trans hb0, hm9.keeps.trans g3⟩, hpre, hk.1, hk.2, fun q n hq => hs9 q n (by by_cases e : q = bitsOf net (a9 + 1); (· subst e; rw [setAt_self] at hq; cases hq); (· rw [setAt_ne e] at hq; exact hq))⟩
    · exact hret _ _ _ _ (by k_asm) (by k_asm) ⟨rfl, M9, hm9.mono (Sub.cons _ (Sub.refl _)), hs9⟩

section
variable {prog : Program} {w : World} {A : Around} {E : Value → Shared → Prop} {s : Shared} {h₀ : Heap} {L a b : Addr} {m : Str → Option Value} {news : Led} {xs ys : List Value} {n n2 : Nat}
theorem add_U {Q : Value → Shared → Prop} (F : Fr h₀ L s.heap m) (N : News h₀ L s.heap news) (ha : (a, listOf xs.toArray n) ∈ news) (hb : (b, listOf ys.toArray n2) ∈ news) (hz : xs.length + ys.length ≤ sizeLine)
    (h : ∀ D h', Fr h₀ L h' m → News h₀ L h' ((D, listOf (xs ++ ys).toArray 0) :: news) → (∀ p ∈ news, p.1 < D) → Q (.ref D) { s with heap := h' }) : wpAny (model prog w) A (binaryOp .Add (.ref a) (.ref b)) Q E s :=
  kmk_add_lit F N (N.isList ha) (N.isList hb) (zs := xs ++ ys) (by simp) h (by simpa using hz)
end
/-- the routes below a place, the nearest first, zero before one -/
noncomputable def pre (M : Tm) : Nat → Bits → List Rt
  | 0, _ => []
  | n + 1, p => match M p with
    | none => []
    | some nd => nd.rs ++ pre M n (p ++ [false]) ++ pre M n (p ++ [true])
noncomputable def preF (M : Tm) (p : Bits) : List Rt := pre M (33 - p.length) p
noncomputable def sz (M : Tm) : Nat → Bits → Nat
  | 0, _ => 0
  | n + 1, p => match M p with
    | none => 0
    | some _ => 1 + sz M n (p ++ [false]) + sz M n (p ++ [true])
noncomputable def szF (M : Tm) (p : Bits) : Nat := sz M (33 - p.length) p
theorem preF_none {M : Tm} {p : Bits} (h : M p = none) : preF M p = [] := by
  unfold preF
  cases 33 - p.length with
  | zero => rfl
  | succ n => rw [pre, h]
theorem preF_some {M : Tm} (W : Wf M) {p : Bits} {nd : Nd} (h : M p = some nd) : preF M p = nd.rs ++ preF M (p ++ [false]) ++ preF M (p ++ [true]) := by
  have := W.deep p nd h
  unfold preF
  obtain ⟨n, hn⟩ : ∃ n, 33 - p.length = n + 1 := ⟨32 - p.length, by omega⟩
  rw [hn, pre, h]
  simp only [List.length_append, List.length_cons, List.length_nil]
  rw [show 33 - (p.length + 1) = n by (clear this; omega)]
theorem szF_none {M : Tm} {p : Bits} (h : M p = none) : szF M p = 0 := by
  unfold szF
  cases 33 - p.length with
  | zero => rfl
  | succ n => rw [sz, h]
theorem szF_some {M : Tm} (W : Wf M) {p : Bits} {nd : Nd} (h : M p = some nd) : szF M p = 1 + szF M (p ++ [false]) + szF M (p ++ [true]) := by
  have := W.deep p nd h
  unfold szF
  obtain ⟨n, hn⟩ : ∃ n, 33 - p.length = n + 1 := ⟨32 - p.length, by omega⟩
  rw [hn, sz, h]
  simp only [List.length_append, List.length_cons, List.length_nil]
  rw [show 33 - (p.length + 1) = n by (clear this; omega)]
/-- the places on the stack: the lengths fall, but the first two's may be alike -/
noncomputable def Falls : List Bits → Prop
  | [] => True
  | p :: r => (∀ q ∈ r, q.length ≤ p.length) ∧ r.Pairwise fun a b => b.length < a.length
theorem Falls.tail {p : Bits} {r : List Bits} (h : Falls (p :: r)) : Falls r := by
  cases r with
  | nil => trivial
  | cons q r => exact ⟨fun x hx => Nat.le_of_lt ((List.pairwise_cons.mp h.2).1 x hx), (List.pairwise_cons.mp h.2).2⟩
theorem Falls.one {p c : Bits} {r : List Bits} (h : Falls (p :: r)) (hc : c.length = p.length + 1) : Falls (c :: r) :=
  ⟨fun q hq => by have := h.1 q hq; omega, h.2⟩
theorem Falls.two {p c c' : Bits} {r : List Bits} (h : Falls (p :: r)) (hc : c.length = p.length + 1) (hc' : c'.length = p.length + 1) : Falls (c :: c' :: r) :=
  ⟨fun q hq => by
    rcases List.mem_cons.mp hq with rfl | hq
    · omega
    · have := h.1 q hq; (clear hc'; omega), List.pairwise_cons.mpr ⟨fun q hq => by have := h.1 q hq; (clear hc; omega), h.2⟩⟩
theorem falls_len : ∀ {r : List Bits} {n : Nat}, r.Pairwise (fun a b => b.length < a.length) → (∀ q ∈ r, q.length < n) → r.length ≤ n
  | [], _, _, _ => Nat.zero_le _
  | p :: r, n, h, hn => by
    have h1 := List.pairwise_cons.mp h
    have h2 := falls_len h1.2 h1.1
    have h3 := hn p (.head _)
    simp only [List.length_cons]; (clear h1; omega)
theorem Falls.len {ps : List Bits} (h : Falls ps) (hd : ∀ q ∈ ps, q.length ≤ 32) : ps.length ≤ 34 := by
  cases ps with
  | nil => exact Nat.zero_le _
  | cons p r =>
    have := falls_len (n := 33) h.2 fun q hq => Nat.lt_succ_of_le (hd q (.tail _ hq))
    simp only [List.length_cons]; omega
noncomputable def refsOf (M : Tm) (ps : List Bits) : List Value := ps.reverse.map fun p => vr (bA M p)
theorem refsOf_cons (M : Tm) (p : Bits) (ps : List Bits) : refsOf M (p :: ps) = refsOf M ps ++ [vr (bA M p)] := by simp [refsOf]
theorem refsOf_length (M : Tm) (ps : List Bits) : (refsOf M ps).length = ps.length := by simp [refsOf]

theorem rows_OWN_F10_6 : True := by
  k_with  "call builtin:list.pop" => (k_here; k_extra "popU"; k_dflt (refine pop_U (by k_asm) (by k_asm) (by k_mem) (by k_extra "size") ?_; k_whole); intro _ _ _; (try k_sweep))
  k_with  "binaryOp Add ref ref" => (k_here; k_extra "addU"; k_dflt (refine add_U (by k_asm) (by k_asm) (by k_mem) (by k_mem) (by k_extra "size") ?_; k_whole); intro _ _ _ _ _; (try k_sweep))
  trivial

theorem rtVals_append (a b : List Rt) : rtVals (a ++ b) = rtVals a ++ rtVals b := List.map_append
noncomputable def kids (M : Tm) (p : Bits) : List Bits := (if (bA M (p ++ [false])).isSome then [p ++ [false]] else []) ++ (if (bA M (p ++ [true])).isSome then [p ++ [true]] else [])
theorem kids_facts {M : Tm} (W : Wf M) {p : Bits} {ps : List Bits} {nd : Nd} (hnd : M p = some nd) (hall : ∀ q ∈ p :: ps, (M q).isSome) (hf : Falls (p :: ps)) :
    ((kids M p ++ ps).map (szF M)).sum < ((p :: ps).map (szF M)).sum ∧ (∀ q ∈ kids M p ++ ps, (M q).isSome) ∧ Falls (kids M p ++ ps) ∧ ∀ G, G ++ nd.rs ++ (kids M p ++ ps).flatMap (preF M) = G ++ (p :: ps).flatMap (preF M) := by
  have e0 : ∀ b, (bA M (p ++ [b])).isSome = (M (p ++ [b])).isSome := fun b => by unfold bA; cases M (p ++ [b]) <;> rfl
  have h1 := szF_some W hnd
  have h2 := preF_some W hnd
  have hl : ∀ b : Bool, (p ++ [b]).length = p.length + 1 := fun b => by simp
  have hr : ∀ q ∈ ps, (M q).isSome := fun q hq => hall q (.tail _ hq)
  unfold kids
  simp only [e0]
  rcases hz : M (p ++ [false]) with _ | z <;> rcases ho : M (p ++ [true]) with _ | o
  all_goals simp only [Option.isSome_none, Option.isSome_some, Bool.false_eq_true, if_true, if_false, List.nil_append, List.append_nil, List.cons_append, List.map_cons, List.sum_cons, List.flatMap_cons, h1, h2]
  · refine ⟨by (clear h1; omega), hr, hf.tail, fun G => ?_⟩
    simp [preF_none hz, preF_none ho]
  · refine ⟨by (clear h1; omega), ?_, hf.one (hl true), fun G => ?_⟩
    · intro q hq
      rcases List.mem_cons.mp hq with rfl | hq
      · rw [ho]; rfl
      · exact hr q hq
    · simp [preF_none hz]
  · refine ⟨by (clear h1; omega), ?_, hf.one (hl false), fun G => ?_⟩
    · intro q hq
      rcases List.mem_cons.mp hq with rfl | hq
      · rw [hz]; rfl
      · exact hr q hq
    · simp [preF_none ho]
  · refine ⟨by (clear h1; omega), ?_, hf.two (hl false) (hl true), fun G => ?_⟩
    · intro q hq
      rcases List.mem_cons.mp hq with rfl | hq
      · rw [hz]; rfl
      · rcases List.mem_cons.mp hq with rfl | hq
        · rw [ho]; rfl
        · exact hr q hq
    · simp

set_option maxRecDepth 100000 in
set_option maxHeartbeats 2000000 in
theorem spec_rows (prog : Program) (w : World) (x td : Addr) (t0 t1 : Tok) (mv : Value) (M : Tm) (b0 : Addr) (news : Led) (h1 : (x, instObj 251 td) ∈ news) (h2 : (td, tbD w t0 t1 (.ref b0) mv) ∈ news) (TI : TrieIn w news M) (W : Wf M) (hb0 : bA M [] = some b0) (hz : (preF M []).length ≤ 1000) :
    Spec prog w 248 6 48 [.ref x] news (fun news v news' => ∃ f c, v = .ref f ∧ (f, listOf (rtVals (preF M [])).toArray c) ∈ news' ∧ Sub news news' ∧ AllLt f news) := by
  intro p loose mean mg mb dp un gd cn cs a ccd cl outer A₀ base h₀ L m s Q E B F X N T hk hd hu hret
  obtain mk_F10_1 : True := trivial
  obtain ⟨nd0, hnd0⟩ := bA_some (by rw [hb0]; rfl : (bA M []).isSome)
  k_with "while" => (guard_hyp mk_F10_1; (refine Stop.go ?_))
  walk_at "m_enter"
  k_steps
  refine While_nam ["branch"] ["found", "left"] [_, _] (n₀ := szF M []) (fun n vs led => ∃ fa fc la lc ps G, n = (ps.map (szF M)).sum ∧ vs = [.ref fa, .ref la] ∧ (fa, listOf (rtVals G).toArray fc) ∈ led ∧ (la, listOf (refsOf M ps).toArray lc) ∈ led ∧ (∀ q ∈ ps, (M q).isSome) ∧ Falls ps ∧ G ++ ps.flatMap (preF M) = preF M [] ∧ Sub news led ∧ AllLt fa news ∧ AllLt la news ∧ fa ≠ la) (by k_asm) (by k_asm) (setL_two (by exact rfl) (by exact rfl)) ?hv ?turn
  case hv =>
    rename _ ∧ AllLt _ news => q9
    exact ⟨_, 0, _, 0, [[]], [], by simp, rfl, .tail _ (.head _), by rw [show refsOf M [[]] = [vr (bA M [])] from rfl, hb0]; exact .head _, by simp [hnd0], ⟨by simp, by simp⟩, by simp, Sub.cons _ (Sub.cons _ (Sub.refl _)), allLt_of (by assumption), q9.2, neN (by have := q9.1; (clear hd hu hz this; omega))⟩
  case turn =>
    intro n9 vs9 u9 led9 h9 tk9 hp9 F9 N9
    refine hide ?_
    intro GG0 hGG0
    obtain ⟨fa, fc, la, lc, ps, G, rfl, rfl, hf9, hl9, hall9, hfall9, hG9, hs9, hlf9, hll9, hne9⟩ := hp9
    obtain hG0 : G.length ≤ 1000 := by have := congrArg List.length hG9; simp only [List.length_append] at this; (clear hGG0 hd hne9 hu; omega)
    refine hGG0 ?_
    (try clear hGG0 GG0)
    k_fold
    rcases ps with _ | ⟨p, ps⟩
    · rw [show refsOf M [] = [] from rfl] at hl9
      k_steps
      all_goals exact hret _ _ _ _ (by k_asm) (by k_asm) ⟨fa, fc, rfl, by rw [← hG9, List.flatMap_nil, List.append_nil]; exact .tail _ hf9, Sub.cons _ hs9, hlf9⟩
    obtain ⟨nd9, hnd9⟩ := Option.isSome_iff_exists.mp (hall9 p (.head _))
    rw [refsOf_cons, show vr (bA M p) = .ref nd9.b by unfold bA; rw [hnd9]; rfl] at hl9
    obtain hin9 := hs9 _ (TI.inst _ _ hnd9)
    obtain hdn9 := hs9 _ (TI.dict _ _ hnd9)
    obtain hls9 := hs9 _ (TI.list _ _ hnd9)
    obtain hni9 : nd9.b ≠ la := allLt_ne hll9 _ (TI.inst _ _ hnd9)
    obtain hnd9' : nd9.d ≠ la := allLt_ne hll9 _ (TI.dict _ _ hnd9)
    obtain hnl9 : nd9.l ≠ la := allLt_ne hll9 _ (TI.list _ _ hnd9)
    obtain hps9 : ps.length ≤ 34 := by
      have := hfall9.len fun q hq => by obtain ⟨m, hm⟩ := Option.isSome_iff_exists.mp (hall9 q hq); exact W.deep q m hm
      simp only [List.length_cons] at this; (clear hG0 hd hnd9' hne9 hni9 hnl9 hu hz; omega)
    obtain hpre9 : preF M p = nd9.rs ++ preF M (p ++ [false]) ++ preF M (p ++ [true]) := preF_some W hnd9
    obtain hsz9 : szF M p = 1 + szF M (p ++ [false]) + szF M (p ++ [true]) := szF_some W hnd9
    obtain hrs9 : nd9.rs.length ≤ 1000 := by have := congrArg List.length hG9; simp only [List.flatMap_cons, hpre9, List.length_append] at this; (clear hG0 hd hnd9' hne9 hni9 hnl9 hps9 hsz9 hu; omega)
    rcases hz9 : bA M (p ++ [false]) with _ | z9
    all_goals rcases ho9 : bA M (p ++ [true]) with _ | o9
    all_goals simp only [Nd.dict, hz9, ho9, vr] at hdn9
    all_goals simp only [Nd.lst] at hls9
    k_with "size" => (guard_hyp mk_F10_1; (simp only [List.length_append, List.length_map, refsOf_length, List.length_cons, List.length_nil, PySem.sizeLine_eq]; omega))
    k_with "popU" => (guard_hyp mk_F10_1; skip)
    k_with "appU" => (guard_hyp mk_F10_1; skip)
    k_with "addU" => (guard_hyp mk_F10_1; skip)
    all_goals k_steps
    all_goals first
      | (exfalso; rename List.isEmpty _ = true => hc9; simp at hc9; done)
      | skip
    all_goals (rename ∀ p ∈ updL la _ _, p.1 < _ => l9)
    all_goals (obtain ⟨k1, k2, k3, k4⟩ := kids_facts W hnd9 hall9 hfall9)
    all_goals (obtain hDl : @LT.lt Nat _ la _ := l9 _ (mem_updL_self (.tail _ hl9)))
    all_goals (obtain hDn := fun q hq => l9 q (mem_updL_ne (.tail _ (hs9 q hq)) (allLt_ne hll9 _ hq)))
    · have hk : kids M p ++ ps = ps := by simp [kids, hz9, ho9]
      rw [hk] at k1 k2 k3 k4
      refine' WNamEnd.introM _ ((ps).map (szF M)).sum (by k_asm) (by k_asm) (fun p hp => hp) ?m1 ?m2 k1 ?P
      case m1 => walk_at "m_off"
      case m2 => walk_at "m_on"
      case P =>
        refine' ⟨_, 0, la, _, ps, G ++ nd9.rs, rfl, rfl, ?a1, ?a2, k2, k3, (k4 G).trans hG9, ?a3, allLt_of hDn, hll9, neN (by (clear hG0 hd hnd9' hne9 hni9 hnl9 hps9 hrs9 hsz9 hu hz k1; omega))⟩
        case a1 => rw [rtVals_append]; k_mem
        case a2 => k_mem
        case a3 => repeat' first | exact hs9 | refine Sub.cons _ ?_ | refine sub_updL ?_ (allLt_ne hll9)
    · have hk : kids M p ++ ps = (p ++ [true]) :: ps := by simp [kids, hz9, ho9]
      rw [hk] at k1 k2 k3 k4
      refine' WNamEnd.introM _ (((p ++ [true]) :: ps).map (szF M)).sum (by k_asm) (by k_asm) (fun p hp => hp) ?m1 ?m2 k1 ?P
      case m1 => walk_at "m_off"
      case m2 => walk_at "m_on"
      case P =>
        refine' ⟨_, 0, la, _, (p ++ [true]) :: ps, G ++ nd9.rs, rfl, rfl, ?a1, ?a2, k2, k3, (k4 G).trans hG9, ?a3, allLt_of hDn, hll9, neN (by (clear hG0 hd hnd9' hne9 hni9 hnl9 hps9 hrs9 hsz9 hu hz k1; omega))⟩
        case a1 => rw [rtVals_append]; k_mem
        case a2 => rw [refsOf_cons, ho9, vr_some]; k_mem
        case a3 => repeat' first | exact hs9 | refine Sub.cons _ ?_ | refine sub_updL ?_ (allLt_ne hll9)
    · have hk : kids M p ++ ps = (p ++ [false]) :: ps := by simp [kids, hz9, ho9]
      rw [hk] at k1 k2 k3 k4
      refine' WNamEnd.introM _ (((p ++ [false]) :: ps).map (szF M)).sum (by k_asm) (by k_asm) (fun p hp => hp) ?m1 ?m2 k1 ?P
      case m1 => walk_at "m_off"
      case m2 => walk_at "m_on"
      case P =>
        refine' ⟨_, 0, la, _, (p ++ [false]) :: ps, G ++ nd9.rs, rfl, rfl, ?a1, ?a2, k2, k3, (k4 G).trans hG9, ?a3, allLt_of hDn, hll9, neN (by (clear hG0 hd hnd9' hne9 hni9 hnl9 hps9 hrs9 hsz9 hu hz k1; omega))⟩
        case a1 => rw [rtVals_append]; k_mem
        case a2 => rw [refsOf_cons, hz9, vr_some]; k_mem
        case a3 => repeat' first | exact hs9 | refine Sub.cons _ ?_ | refine sub_updL ?_ (allLt_ne hll9)
    · have hk : kids M p ++ ps = (p ++ [false]) :: (p ++ [true]) :: ps := by simp [kids, hz9, ho9]
      rw [hk] at k1 k2 k3 k4
      refine' WNamEnd.introM _ (((p ++ [false]) :: (p ++ [true]) :: ps).map (szF M)).sum (by k_asm) (by k_asm) (fun p hp => hp) ?m1 ?m2 k1 ?P
      case m1 => walk_at "m_off"
      case m2 => walk_at "m_on"
      case P =>
        refine' ⟨_, 0, la, _, (p ++ [false]) :: (p ++ [true]) :: ps, G ++ nd9.rs, rfl, rfl, ?a1, ?a2, k2, k3, (k4 G).trans hG9, ?a3, allLt_of hDn, hll9, neN (by (clear hG0 hd hnd9' hne9 hni9 hnl9 hps9 hrs9 hsz9 hu hz k1; omega))⟩
        case a1 => rw [rtVals_append]; k_mem
        case a2 => rw [refsOf_cons, refsOf_cons, hz9, ho9, vr_some, vr_some]; k_mem
        case a3 => repeat' first | exact hs9 | refine Sub.cons _ ?_ | refine sub_updL ?_ (allLt_ne hll9)

section
variable {prog : Program} {w : World} {A : Around} {E : Value → Shared → Prop} {h : Heap} {g : Array GenState} {d : Drawn} {t : Nat} {os : OsState}
variable {nm q : Str} {C N : Addr} {bs bm bmB : List Value} {hdct : Bool} {sn : List Str} {sub : List Value} {ab : Bool} {col : Option Bool} {dd : Option Addr} {k0 k1 k2 k3 k5 : Option Value} {B newId initId : String}
/-- what the line of a class's forebears must hold to make one of it as of an exception -/
structure Line (B : String) (bm : List Value) : Prop where
  hasB : bm.contains (.type B) = true
  base : bm.contains (.type "BaseException") = true
  noAttr : bm.contains (.type "AttributeError") = false
  noName : bm.contains (.type "NameError") = false

theorem exn_check (F : ExcBaseFacts B newId initId bmB) (T : Line B bm) {rest : List Value} {Q : Unit → Shared → Prop} (hC : h.get? C = some (excClassObj nm q C N bs bm hdct sn sub ab col dd k0 k1 k2 k3 k5 newId))
    (hq : Q () ⟨h, g, d, t, os⟩) : wpAny (model prog w) A (checkBuiltinCall newId ⟨.ref C :: rest, []⟩) Q E ⟨h, g, d, t, os⟩ := by
  have hc : (Value.ref C :: bm).contains (.type B) = true := by rw [List.contains_cons, T.hasB, Bool.or_true]
  have hs := F.noStar
  simp only [checkBuiltinCall, F.newKind, F.newSplit, F.newRow]
  repeat (first | refine wpAny_loadPart_at hC ?_ | (refine wpAny_isSubtype_exc hC ?_; rw [hc]) | refine wpAny_staticBase_exc hC ?_ | refine wpAny_madeBy_exc hC ?_ | simp only [bne_self_eq_false, Bool.false_eq_true, if_false] | wp_step)
  exact hq

noncomputable abbrev excO (C t : Addr) (dd : Option Addr) : Obj := { cls := .ref C, dict := dd, data := .fields #[.ref t, .none, .none, .none, .bool false, .none] }
noncomputable abbrev tupO (vs : List Value) : Obj := { cls := .type "tuple", data := .seq vs.toArray }

theorem exn_new {R : Result → Shared → Prop} (F : ExcBaseFacts B newId initId bmB) (T : Line B bm) {rest : List Value} (hC : h.get? C = some (excClassObj nm q C N bs bm hdct sn sub ab col dd k0 k1 k2 k3 k5 newId))
    (hq : R (.ok (.ret (.ref (h.objs.size + 1)))) ⟨(h.push (tupO rest)).push (excO C h.objs.size none), g, d, t, os⟩) (hrest : rest.length ≤ sizeLine) :
    codeAny (model prog w) A (.builtin newId ⟨.ref C :: rest, []⟩) R ⟨h, g, d, t, os⟩ := by
  have hends := F.ends
  have hB : (Value.ref C :: bm).contains (.type B) = true := by rw [List.contains_cons, T.hasB, Bool.or_true]
  have hA : (Value.ref C :: bm).contains (.type "AttributeError") = false := by rw [List.contains_cons, T.noAttr]; rfl
  have hN : (Value.ref C :: bm).contains (.type "NameError") = false := by rw [List.contains_cons, T.noName]; rfl
  refine codeAny_builtinAt F.entry ?_
  unfold Builtin.«BaseException.__new__»
  refine PySem.wpAt_bind ?_
  show PySem.wpAt _ _ _ (stack >>= _) _ _ _
  refine PySem.wpAt_bind (PySem.wpAt_stack fun p below => PySem.wpAt_of_wpAny ?_)
  wp_walk
  refine PySem.wpAt_of_wpAny ?_
  rw [F.owner]
  repeat (first | with_reducible refine wpAny_madeHere_exc F.canon hC ?_ | with_reducible refine wpAny_loadPart_at hC ?_ | (with_reducible refine wpAny_isSubtype_exc hC ?_; first | rw [hB] | rw [hA] | rw [hN]) | wp_step)
  show R _ _
  rw [Heap.size_push]
  exact hq

theorem exn_make (F : ExcBaseFacts B newId initId bmB) (T : Line B bm) {rest : List Value} {fI : Addr} {Q : Fin → Shared → Prop}
    (hC : h.get? C = some (excClassObj nm q C N bs bm hdct sn sub ab col dd k0 k1 k2 k3 k5 newId))
    (hi : Looks (model prog w) h (typeLookup (.ref C) "__init__") (some (.ref fI))) (hb : ∀ self, Looks (model prog w) h (bindSpecial (.ref fI) self) (.ref fI, [self]))
    (hq : wpAny (model prog w) A (call (.ref fI) (.ref (h.objs.size + 1) :: rest)) (fun r s' => r = .none ∧ Q (.done (.ret (.ref (h.objs.size + 1)))) s') E ⟨(h.push (tupO rest)).push (excO C h.objs.size none), g, d, t, os⟩) (hrest : rest.length ≤ sizeLine) :
    wpAny (model prog w) A (Builtin.«type.__call__» ⟨.ref C :: rest, []⟩) Q E ⟨h, g, d, t, os⟩ := by
  repeat (first | with_reducible refine wpAny_loadPart_at hC ?_ | with_reducible refine wpAny_madeBy_exc hC ?_ | wp_step)
  refine codeAny_call_builtin_code (Code.quiet_builtin _ F.quiet) (exn_check F T hC ?_)
  refine exn_new F T hC ?_ hrest
  show wpAny _ _ _ _ _ _
  have up : ∀ b o, h.get? b = some o → ((h.push (tupO rest)).push (excO C h.objs.size none)).get? b = some o := fun b o e => Heap.get?_push_of_some _ (Heap.get?_push_of_some _ e)
  have hC₁ := up _ _ hC
  have hget : ((h.push (tupO rest)).push (excO C h.objs.size none)).get? (h.objs.size + 1) = some (excO C h.objs.size none) := by heap_get
  have hcC : (Value.ref C :: bm).contains (.ref C) = true := by simp
  unfold isInstance
  repeat (first | with_reducible refine wpAny_loadPart_at hget ?_ | (with_reducible refine wpAny_isSubtype_exc hC₁ ?_; rw [hcC]) | wp_step)
  refine hi _ _ _ _ up ?_
  refine wpAny_holding (wpAny_bind (hb _ _ _ _ _ up ?_))
  refine wpAny_bind (wpAny_mono hq (fun r s' hr => ?_) fun _ _ x => x)
  obtain ⟨rfl, hQ⟩ := hr
  wp_walk
  exact hQ
end
section
variable {prog : Program} {w : World} {A : Around} {E : Value → Shared → Prop} {s : Shared} {K : Frag} {h₀ : Heap} {m : Str → Option Value} {L C S e t : Addr} {news : Led} {name : Str} {v : Value}
open Builtin Builtin.ObjectAttr in
theorem exc_set_code {R : Result → Shared → Prop} {tk : Tok} {cd : ClassData} (F : Fr h₀ L s.heap m) (X : K.In s.heap) (N : News h₀ L s.heap news) (h1 : (e, excO C t none) ∈ news)
    (hc : clsIn K C = some cd) (hm : cd.mro = [.ref C, .ref S, .type "Exception", .type "BaseException", .type "object"]) (hd : cd.hasDict = true) (ht : findIn K (.ref C) name = some none)
    (h : ∀ d od h' tk', Fr h₀ L h' m → News h₀ L h' ((d, od) :: updL e (excO C t (some d)) news) → (∀ p ∈ news, p.1 < d) → R (.ok (.ret .none)) { s with heap := h', toks := tk' }) :
    codeAny (model prog w) A (.call (.builtin "object.__setattr__") ⟨[.ref e, .str name tk, v], []⟩) R s := by
  have SF := PySem.F.store_object
  have SE := PySem.F.store_Exception
  have hx := (N _ h1).1
  have I : InstAt s.heap e (excO C t none) C none := ⟨hx, rfl, rfl, trivial⟩
  have ty := I.type (M := model prog w)
  have sub : Looks (model prog w) s.heap (isInstance (.ref e) (.type "object")) true := ty.andThen (looks_mroIn X (by unfold mroIn; rw [hc, Option.bind_some, hm]; rfl))
  refine codeAny_call_builtin SF.slot.plain SF.entry (@check_slot (model prog w) _ _ s "object.__setattr__" "object" "__setattr__" (.ref e) [.str name tk, v] [] _ SF.kind SF.split sub (SF.args (.ref e) (.str name tk) v) ?_)
  have hmr : Looks (model prog w) s.heap (mroOf (.ref C)) cd.mro := (looks_clsIn X hc).andThen .now
  rw [osa_eq, refuse_eq]
  refine wpAny_bind (wpAny_bind (ty.here (wpAny_bind (hmr.here ?_))))
  rw [hm, refuseLoop_ref, refuseLoop_ref, SE.passes]
  refine wpAny_pure (wpAny_bind (ty.here (wpAny_bind ((looks_findIn X ht).here (wpAny_bind (wpAny_pure ?_))))))
  have hf : e ≠ s.heap.objs.size := Nat.ne_of_lt (Heap.lt_size hx)
  refine wpAny_bind (wpAny_pure (wpAny_bind (wpAny_bind (wpAny_loadPart hx (wpAny_bind ((looks_clsIn X hc).here ?_))))))
  rw [hd]
  obtain ⟨hh, g, dr, tt, os⟩ := s
  dsimp only at hx hf F N
  have hx₁ : (hh.push { cls := .type "dict", data := .dict #[] }).get? e = some (excO C t none) := Heap.get?_push_of_some _ hx
  show wpAny _ _ (if (!true || !typeHasDict (.ref C)) = true then pure none else _) _ _ _
  rw [if_neg (by simp [typeHasDict])]
  refine wpAny_bind (wpAny_alloc' ?_)
  refine wpAny_bind (wpAny_update' hx₁ ?_)
  refine wpAny_pure ?_
  have F₁ := (F.push { cls := .type "dict", data := .dict #[] })
  have N₁ := N.push F { cls := .type "dict", data := .dict #[] }
  have hgx : ((hh.push { cls := .type "dict", data := .dict #[] }).update e fun o => { cls := o.cls, dict := some hh.objs.size, data := o.data, slots := o.slots }).get? e = some (excO C t (some hh.objs.size)) := Heap.get?_update_self _ hx₁ rfl
  have hgd : ((hh.push { cls := .type "dict", data := .dict #[] }).update e fun o => { cls := o.cls, dict := some hh.objs.size, data := o.data, slots := o.slots }).get? hh.objs.size = some { cls := .type "dict", data := .dict #[] } :=
    (Heap.get?_update_ne _ _ _ _ (Ne.symm hf)).trans (Heap.get?_push_at rfl rfl)
  have hnd : ((hh.push { cls := .type "dict", data := .dict #[] }).update e fun o => { cls := o.cls, dict := some hh.objs.size, data := o.data, slots := o.slots }).Ns hh.objs.size (fun _ => none) :=
    ⟨_, #[], _, hgd, rfl, fun e he => absurd he (by simp), fun _ => rfl⟩
  have other : ∀ b, b ≠ e → ((hh.push { cls := .type "dict", data := .dict #[] }).update e fun o => { cls := o.cls, dict := some hh.objs.size, data := o.data, slots := o.slots }).get? b = (hh.push { cls := .type "dict", data := .dict #[] }).get? b := fun b hb => Heap.get?_update_ne _ _ _ _ hb
  show wpAny _ _ (storeInDict hh.objs.size (.str name tk) name v) _ _ _
  unfold storeInDict newKeyGuard
  refine wpAny_bind (wpAny_pure (wpAny_bind (wpAny_nsSet1 (Heap.Ns1.of_empty hnd) fun h' hn' hs => ?_)))
  obtain ⟨oD, esD, epD, hoD, hdD, hcD⟩ := hn'.count (Within.cons name v Within.nil)
  refine wpAny_bind (wpAny_lookBehind hoD (by rw [hdD]; exact pastItsLine_dict (Nat.le_trans hcD (by rw [List.length_cons, List.length_nil, sizeLine_eq]; (clear hcD hf; omega)))) ?_)
  refine wpAny_pure (h hh.objs.size oD h' _ ?_ ?_ fun p hp => Heap.lt_size (N p hp).1)
  · obtain ⟨oL, es, ep, hL, hLd⟩ := F.ns
    have hLe : L ≠ e := fun q => (N _ h1).2.1 q.symm
    have hLs : L ≠ hh.objs.size := Nat.ne_of_lt (Heap.lt_size hL)
    refine ⟨⟨oL, es, ep, ((hs.2 L hLs).trans (other L hLe)).trans (Heap.get?_push_of_some _ hL), hLd⟩, fun b o hb => ?_, F.above⟩
    have hb' := F.keep b o hb
    have hbe : b ≠ e := fun q => by rw [q, (N _ h1).2.2] at hb; cases hb
    exact ((hs.2 b (Nat.ne_of_lt (Heap.lt_size hb'))).trans (other b hbe)).trans (Heap.get?_push_of_some _ hb')
  · have fresh : h₀.get? hh.objs.size = none := Heap.get?_none_of_le (Nat.le_of_lt (Nat.lt_of_le_of_lt F.above F.ns.lt))
    intro p hp
    rcases List.mem_cons.mp hp with rfl | hp
    · exact ⟨hoD, fun q => absurd F.ns.lt (q ▸ Nat.lt_irrefl _), fresh⟩
    · rcases of_mem_updL hp with rfl | ⟨hp, hne⟩
      · exact ⟨(hs.2 e hf).trans hgx, (N _ h1).2⟩
      · exact ⟨((hs.2 _ (Nat.ne_of_lt (Heap.lt_size (N p hp).1))).trans (other _ hne)).trans (Heap.get?_push_of_some _ (N p hp).1), (N p hp).2⟩
end
noncomputable def excLineIn (K : Frag) (C S : Addr) : Bool := (clsIn K C).any fun cd => cd.mro == [.ref C, .ref S, .type "Exception", .type "BaseException", .type "object"] && cd.hasDict
section
variable {prog : Program} {w : World} {A : Around} {E : Value → Shared → Prop} {s : Shared} {K : Frag} {h₀ : Heap} {m : Str → Option Value} {L C S e t : Addr} {news : Led} {name : Str} {v : Value}
theorem set_exc {Q : Unit → Shared → Prop} (F : Fr h₀ L s.heap m) (X₀ : K.In h₀) (N : News h₀ L s.heap news) (h1 : (e, excO C t none) ∈ news)
    (hs : findIn K (.ref C) "__setattr__" = some (some (.builtin "object.__setattr__"))) (hp : excLineIn K C S = true) (ht : findIn K (.ref C) name = some none)
    (h : ∀ d od h' tk', Fr h₀ L h' m → News h₀ L h' ((d, od) :: updL e (excO C t (some d)) news) → (∀ p ∈ news, p.1 < d) → Q () { s with heap := h', toks := tk' }) :
    wpAny (model prog w) A (setAttr (.ref e) name v) Q E s := by
  obtain ⟨cd, hc, hcd⟩ := any_some hp
  simp only [Bool.and_eq_true, beq_iff_eq] at hcd
  have X := X₀.keeps F.keep
  have I : InstAt s.heap e (excO C t none) C none := ⟨(N _ h1).1, rfl, rfl, trivial⟩
  exact set_plain X I hs (exc_set_code (s := { s with toks := s.toks + 1 }) F X N h1 hc hcd.1 hcd.2 ht fun d od h' tk' F' N' l => h d od h' tk' F' N' l)
end

section
variable {prog : Program} {w : World} {A : Around} {E : Value → Shared → Prop} {h : Heap} {g : Array GenState} {d : Drawn} {t : Nat} {os : OsState}
variable {nm q : Str} {C N : Addr} {bs bm bmB : List Value} {hdct : Bool} {sn : List Str} {sub : List Value} {ab : Bool} {col : Option Bool} {dd : Option Addr} {k0 k1 k2 k3 k5 : Option Value} {B newId initId : String}
theorem exn_call (F : ExcBaseFacts B newId initId bmB) (T : Line B bm) {rest : List Value} {fI : Addr} {Q : Value → Shared → Prop}
    (hC : h.get? C = some (excClassObj nm q C N bs bm hdct sn sub ab col dd k0 k1 k2 k3 k5 newId))
    (hi : Looks (model prog w) h (typeLookup (.ref C) "__init__") (some (.ref fI))) (hb : ∀ self, Looks (model prog w) h (bindSpecial (.ref fI) self) (.ref fI, [self]))
    (hq : wpAny (model prog w) (A.under (.builtin "type.__call__" ⟨.ref C :: rest, []⟩)) (call (.ref fI) (.ref (h.objs.size + 1) :: rest)) (fun r s' => r = .none ∧ Q (.ref (h.objs.size + 1)) s') E ⟨(h.push (tupO rest)).push (excO C h.objs.size none), g, d, t, os⟩) (hrest : rest.length ≤ sizeLine) :
    wpAny (model prog w) A (call (.ref C) rest) Q E ⟨h, g, d, t, os⟩ := by
  have f1 := tc_lookup
  have f2 := tc_bind (.ref C)
  have hT : (⟨h, g, d, t, os⟩ : Shared).TypeIs (.ref C) "type" := ⟨_, hC, rfl⟩
  refine wpAny_call (codeAny_of_tree ?_)
  show wpAny _ _ (callAny (.ref C) _) _ _ _
  repeat (any_goals (first | assumption | with_reducible refine wpAny_loadPart_at hC ?_ | wp_step))
  refine ⟨rfl, ?_⟩
  exact codeAny_call_builtin_at (Code.quiet_builtin _ (by decide +kernel)) entry_typeCall (wpAny_check_type_call_sub hC (exn_make F T hC hi hb hq hrest))

theorem exn_stmt {M : Model} {s : Shared} {env : Env} {x : Sem Value} {Q : Flow → Shared → Prop} (hbase : bm.contains (.type "BaseException") = true) (hh : A.handled = none)
    (h : wpAny M A x (fun v s₁ => ∃ e t dx, v = .ref e ∧ s₁.heap.get? C = some (excClassObj nm q C N bs bm hdct sn sub ab col dd k0 k1 k2 k3 k5 newId) ∧ s₁.heap.get? e = some (excO C t dx) ∧ E (.ref e) s₁) E s) :
    wpAny M A (raiseStmt env (some x) none) Q E s := by
  have hcB : (Value.ref C :: bm).contains (.type "BaseException") = true := by rw [List.contains_cons, hbase, Bool.or_true]
  unfold raiseStmt
  refine wpAny_bind (wpAny_mono h (fun v s₁ h₁ => ?_) fun _ _ x => x)
  obtain ⟨e, t, dx, rfl, hC, he, hE⟩ := h₁
  obtain ⟨hp, g, d, tk, os⟩ := s₁
  repeat (first | with_reducible refine wpAny_loadPart_at he ?_ | with_reducible refine wpAny_loadPart_at hC ?_ | (with_reducible refine wpAny_isSubtype_exc hC ?_; rw [hcB]) | wp_step)
  exact wpAny_raiseNew_none hh hE
end
section
variable {prog : Program} {w : World} {A : Around} {E : Value → Shared → Prop} {s : Shared} {env : Env} {K : Frag} {h₀ : Heap} {m : Str → Option Value} {L C fI : Addr} {mg mb : Str → Option Value}
  {x : Str} {np cpos pos : Pos} {e₀ : Expr} {rest : List Expr} {Q : Flow → Shared → Prop}
/-- the end of a raise statement's arguments: the exception made, its start runs -/
noncomputable def RaiseArgs (prog : Program) (w : World) (A : Around) (E : Value → Shared → Prop) (h₀ : Heap) (L C fI : Addr) (vs : List Value) (s : Shared) : Prop :=
  vs.length ≤ sizeLine ∧ ∃ m news, Fr h₀ L s.heap m ∧ News h₀ L s.heap news ∧ ∀ h' e t, Fr h₀ L h' m → News h₀ L h' ((e, excO C t none) :: (t, tupO vs) :: news) → AllLt t news → @LT.lt Nat _ t e →
    wpAny (model prog w) (A.under (.builtin "type.__call__" ⟨.ref C :: vs, []⟩)) (call (.ref fI) (.ref e :: vs)) (fun r s' => r = .none ∧ ∃ m' dx, Fr h₀ L s'.heap m' ∧ s'.heap.get? e = some (excO C t dx) ∧ E (.ref e) s') E { s with heap := h' }
theorem raise_own {nm qn : Str} {N : Addr} {bs bm : List Value} {hdct : Bool} {sn : List Str} {sub : List Value} {ab : Bool} {col : Option Bool} {dd : Option Addr} {k0 k1 k2 k3 k5 : Option Value}
    (F : Fr h₀ L s.heap m) (X : K.In h₀) (hl : K.lookup C = some (excClassObj nm qn C N bs bm hdct sn sub ab col dd k0 k1 k2 k3 k5 "Exception.__new__")) (T : Line "Exception" bm) (hi : findIn K (.ref C) "__init__" = some (some (.ref fI))) (hf : typeIn K (.ref fI) = some (.type "function")) (hh : A.handled = none)
    (hn : ∀ {Q : Value → Shared → Prop}, Q (.ref C) s → wpAny (model prog w) A (eval (.Name x np) env) Q E s)
    (harg : wpAny (model prog w) A (spliced (backTo cpos (starEach (e₀ :: rest) env))) (RaiseArgs prog w A E h₀ L C fI) E s)
    (he : starEach (e₀ :: rest) env = (false, eval e₀ env) :: starEach rest env := by rfl)
    (hplain : (backTo cpos (starEach rest env)).any (·.1) = false := by rfl) :
    wpAny (model prog w) A (exec (.Raise (some (.Call (.Name x np) (e₀ :: rest) [] cpos)) none pos) env) Q E s := by
  have hpl : (backTo cpos (starEach (e₀ :: rest) env)).any (·.1) = false := by
    rw [he]; show (false || (backTo cpos (starEach rest env)).any (·.1)) = false; rw [hplain]; rfl
  rw [he] at harg
  have hC0 := X _ _ hl
  rw [arm_exec_Raise]
  refine wpAny_bind (wpAny_standAt (exn_stmt (C := C) (nm := nm) (q := qn) (N := N) (bs := bs) (bm := bm) (hdct := hdct) (sn := sn) (sub := sub) (ab := ab) (col := col) (dd := dd) (k0 := k0) (k1 := k1) (k2 := k2) (k3 := k3) (k5 := k5) (newId := "Exception.__new__") T.base hh ?_))
  refine wpAny_bind (wpAny_mono (wpAny_Call_ofName (hn ?_)) (fun v s₃ h₃ => wpAny_bind (wpAny_standAt (wpAny_pure h₃))) fun _ _ x => x)
  unfold callWith
  simp only [hpl]
  rw [he]
  refine wpAny_bind (wpAny_holding (Calls.evalArgs_plain (wpAny_mono harg (fun vs s₂ h₂ => wpAny_bind (wpAny_standAt ?_)) fun _ _ x => x)))
  obtain ⟨hlen, m₂, news₂, F₂, N₂, k⟩ := h₂
  obtain ⟨hp, g, d, tk, os⟩ := s₂
  have X₂ := X.keeps F₂.keep
  have hC := F₂.keep _ _ hC0
  refine wpAny_bind (wpAny_keeperOf_exc hC ?_)
  have F₃ := (F₂.push (tupO vs)).push (excO C hp.objs.size none)
  have N₃ := (N₂.push F₂ (tupO vs)).push (F₂.push _) (excO C hp.objs.size none)
  rw [Heap.size_push] at N₃
  refine wpAny_bind (exn_call PySem.F.excBase_Exception T hC (looks_findIn X₂ hi) (fun self => bind_fn X₂ self hf) (wpAny_mono (k _ _ _ F₃ N₃ (allLt_of fun p hp => Heap.lt_size (N₂ p hp).1) (Nat.lt_succ_self _)) (fun r s' hr => ?_) fun _ _ x => x) hlen)
  obtain ⟨hr, m', dx, F', he, hE⟩ := hr
  exact ⟨hr, wpAny_bind (wpAny_holding (wpAny_point (wpAny_pure ⟨_, _, dx, rfl, F'.keep _ _ hC0, he, hE⟩)))⟩
end
noncomputable def excLineOf (o : Obj) (C S : Addr) : Bool := match o.data with
  | .cls cd => cd.mro == [.ref C, .ref S, .type "Exception", .type "BaseException", .type "object"] && cd.hasDict
  | _ => false
theorem excLine_of {K : Frag} {C S : Addr} {o : Obj} (hl : K.lookup C = some o) (e : excLineOf o C S = true) : excLineIn K C S = true := by
  unfold excLineOf at e
  split at e
  · rename_i cd hd
    unfold excLineIn clsIn
    rw [hl]
    obtain ⟨a, b, c, d⟩ := o
    dsimp only at hd
    subst hd
    exact e
  · cases e
section
variable {prog : Program} {w : World} {A : Around} {E : Value → Shared → Prop} {s : Shared} {K : Frag} {h₀ : Heap} {m : Str → Option Value} {L C e t : Addr} {news : Led} {name : Str} {v : Value}
theorem set_excL {Q : Unit → Shared → Prop} {o : Obj} (F : Fr h₀ L s.heap m) (X₀ : K.In h₀) (N : News h₀ L s.heap news) (h1 : (e, excO C t none) ∈ news)
    (hs : findIn K (.ref C) "__setattr__" = some (some (.builtin "object.__setattr__"))) (hl : K.lookup C = some o) (hp : excLineOf o C 38 = true) (ht : findIn K (.ref C) name = some none)
    (h : ∀ d od h' tk', Fr h₀ L h' m → News h₀ L h' ((d, od) :: updL e (excO C t (some d)) news) → (∀ p ∈ news, p.1 < d) → Q () { s with heap := h', toks := tk' }) :
    wpAny (model prog w) A (setAttr (.ref e) name v) Q E s := set_exc F X₀ N h1 hs (excLine_of hl hp) ht h
end

theorem mem_frames {env : Env} {outer : List Env} {L b : Addr} (hf : env.frame = some L) (hm : b ∈ (env :: outer).filterMap (·.frame)) : b = L ∨ b ∈ outer.filterMap (·.frame) := by
  obtain ⟨e, he, hb⟩ := List.mem_filterMap.mp hm
  rcases List.mem_cons.mp he with rfl | he
  · exact .inl (Option.some.inj (hb.symm.trans hf))
  · exact .inr (List.mem_filterMap.mpr ⟨e, he, hb⟩)
section
variable {M : Model} {A : Around} {E : Value → Shared → Prop} {s' : Shared} {base g g₂ h : Heap} {outer : List Env} {L e t : Addr} {m : Str → Option Value} {env : Env} {Q : Unit → Shared → Prop} {news news' : Led} {C : Addr} {vs : List Value}
/-- the exception just made, which stands in the ledger, leaves the frame -/
theorem leave_new {dx : Option Addr} (K : Below A base outer g) (F : Fr g L s'.heap m) (N : News g L s'.heap news) (he : s'.heap.get? e = some (excO C t dx)) (hen : g.get? e = none) (heL : e ≠ L) (ht : (t, tupO vs) ∈ news)
    (hf : env.frame = some L) (hke : env.scope.kind = .function) (hs : ∀ q ∈ news', q ∈ news ∧ q.1 ≠ e ∧ q.1 ≠ t)
    (hQ : ∀ h', RaisedS base g outer e (.ref C) t vs news' h' → g.UpToSlots h' → Q () { s' with heap := h' }) :
    wpAny M (A.deeper env) (leaving env (.ref e)) Q E s' := by
  have K' := pushX (env := env) K F hf hke
  have hin : ∀ env' ∈ (env :: outer), ∀ b, env'.frame = some b → b ∈ e :: t :: (env :: outer).filterMap (·.frame) := fun env' he b hb => .tail _ (.tail _ (List.mem_filterMap.mpr ⟨env', he, hb⟩))
  have nt := N _ ht
  have notin : ∀ b o, g.get? b = some o → b ∉ outer.filterMap (·.frame) → b ∉ e :: t :: (env :: outer).filterMap (·.frame) := fun b o q nm hm => by
    rcases List.mem_cons.mp hm with z | hm
    · rw [z, hen] at q; cases q
    · rcases List.mem_cons.mp hm with z | hm
      · rw [z, nt.2.2] at q; cases q
      · rcases mem_frames hf hm with z | z
        · rw [z, kts_self F] at q; cases q
        · exact nm z
  have st : base.StaysIn (hideAll s'.heap (e :: t :: (env :: outer).filterMap (·.frame))) := fun b o q => hideAll_get _ (F.keep b o (K.stays b o q)) (notin b o (K.stays b o q) fun hm => by
    rw [(K.frames.mem hm).1] at q; cases q)
  have sg : ∀ b o, g.get? b = some o → b ∉ outer.filterMap (·.frame) → (hideAll s'.heap (e :: t :: (env :: outer).filterMap (·.frame))).get? b = some o := fun b o q nm => hideAll_get _ (F.keep b o q) (notin b o q nm)
  have hl : ∀ q ∈ news', (hideAll s'.heap (e :: t :: (env :: outer).filterMap (·.frame))).get? q.1 = some q.2 ∧ g.get? q.1 = none ∧ base.get? q.1 = none := fun q hq => by
    obtain ⟨hq, n1, n2⟩ := hs q hq
    refine ⟨hideAll_get _ (N q hq).1 fun hm => ?_, (N q hq).2.2, fresh_of_stays K.stays (N q hq).2.2⟩
    rcases List.mem_cons.mp hm with z | hm
    · exact n1 z
    · rcases List.mem_cons.mp hm with z | hm
      · exact n2 z
      · rcases mem_frames hf hm with z | z
        · exact (N q hq).2.1 z
        · obtain ⟨o, ho, _⟩ := (K.frames.mem z).2
          rw [(N q hq).2.2] at ho; cases ho
  have hen' : (hideAll s'.heap (e :: t :: (env :: outer).filterMap (·.frame))).get? e = none := hideAll_none _ (.head _)
  refine wpAny_leaving_firstW (a0 := .ref t) K'.stack (funFrames_hide K'.frames hin) hf he (fun b o hb => of_hideAll _ hb) hen' rfl rfl rfl fun h' hL => ?_
  obtain ⟨k1, ⟨_, _, k2⟩, k3, k4⟩ := hL
  exact hQ h' ⟨⟨_, st, sg, hl, ⟨k1, hen', k2, k3⟩, hideAll_none _ (.tail _ (.head _))⟩, Heap.TupAt.of_slots ⟨_, _, nt.1, rfl, rfl⟩ k4⟩ ((Heap.UpToSlots.of_keeps F.keep).trans k4)

/-- an exception leaves a frame on its way -/
theorem leave_on {cls : Value} (K : Below A base outer g) (F : Fr g L g₂ m) (hf : env.frame = some L) (R : RaisedS base g₂ (env :: outer) e cls t vs news s'.heap) (hsm : g₂.UpToSlots s'.heap)
    (hQ : ∀ h', RaisedS base g outer e cls t vs news h' → g.UpToSlots h' → Q () { s' with heap := h' }) :
    wpAny M (A.deeper env) (leaving env (.ref e)) Q E s' := by
  obtain ⟨⟨B, hB, hBG, hl, hfl, hnew⟩, htup⟩ := R
  refine wpAny_leaves_onW (Around.frames_deeper K.stack) hf hfl fun h' x1 x2 => ?_
  refine hQ h' ⟨⟨B, hB, fun b o q nm => hBG b o (F.keep b o q) (fun hm => ?_), fun q hq => ⟨(hl q hq).1, kts_none F.keep (hl q hq).2.1, (hl q hq).2.2⟩, x1, hnew⟩, htup.of_slots x2⟩ ((Heap.UpToSlots.of_keeps F.keep).trans (hsm.trans x2))
  rcases mem_frames hf hm with z | z
  · rw [z, kts_self F] at q; cases q
  · exact nm z
theorem leave_on2 {cls : Value} (R : RaisedS base g₂ (env :: outer) e cls t vs news s'.heap) (hsm : g₂.UpToSlots s'.heap) (F : Fr g L g₂ m) (K : Below A base outer g) (hf : env.frame = some L)
    (hQ : ∀ h', RaisedS base g outer e cls t vs news h' → g.UpToSlots h' → Q () { s' with heap := h' }) :
    wpAny M (A.deeper env) (leaving env (.ref e)) Q E s' := leave_on K F hf R hsm hQ
end
/-- a call of `f` with `vs` that ends in a RouteError, the ledger `news'` as it stands then -/
noncomputable def SpecX (prog : Program) (w : World) (f : Addr) (D U : Nat) (vs : List Value) (news : Led) (Φ : Led → Prop) : Prop :=
  ∀ (p : Program) (loose : List Str) (mean : ExcName → Option Value) (mg mb : Str → Option Value)
    (dp un : Nat) (gd : Option (List Code)) (cn : Str) (cs : Scope) (a : Addr) (ccd : Value) (cl : List (Str × Addr)) (outer : List Env) (A₀ : Around) (base h₀ : Heap) (L : Addr) (m : Str → Option Value) (s : Shared) (Q E : Value → Shared → Prop),
    Below A₀ base outer h₀ → Fr h₀ L s.heap m → (frag w.params).In h₀ → News h₀ L s.heap news → Top p loose mean mg mb h₀ → cs.kind = .function →
    dp + D < recursionLimit → un + U < cLine →
    (∀ e t vs' news' g₂ h' tk', Φ news' → Fr h₀ L g₂ m → RaisedS base g₂ (envX cn cs L a ccd cl :: outer) e (.ref 51) t vs' news' h' → g₂.UpToSlots h' → E (.ref e) { s with heap := h', toks := tk' }) →
    wpAny (model prog w) (ktrTop dp un gd cn cs L a ccd cl outer) (call (.ref f) vs) Q E s
theorem SpecX.use {prog : Program} {w : World} {f : Addr} {D U : Nat} {vs : List Value} {news : Led} {Φ : Led → Prop} (S : SpecX prog w f D U vs news Φ)
    {p : Program} {loose : List Str} {mean : ExcName → Option Value} {mg mb : Str → Option Value}
    {dp un : Nat} {gd : Option (List Code)} {cn : Str} {cs : Scope} {a : Addr} {ccd : Value} {cl : List (Str × Addr)} {outer : List Env} {A₀ : Around} {base h₀ : Heap} {L : Addr} {m : Str → Option Value} {s : Shared} {Q E : Value → Shared → Prop}
    (B : Below A₀ base outer h₀) (F : Fr h₀ L s.heap m) (X : (frag w.params).In h₀) (N : News h₀ L s.heap news) (T : Top p loose mean mg mb h₀) (hk : cs.kind = .function)
    (hD : dp + D < recursionLimit) (hU : un + U < cLine)
    (ret : ∀ e t vs' news' g₂ h' tk', Φ news' → Fr h₀ L g₂ m → RaisedS base g₂ (envX cn cs L a ccd cl :: outer) e (.ref 51) t vs' news' h' → g₂.UpToSlots h' → E (.ref e) { s with heap := h', toks := tk' }) :
    wpAny (model prog w) (ktrTop dp un gd cn cs L a ccd cl outer) (call (.ref f) vs) Q E s :=
  S p loose mean mg mb dp un gd cn cs a ccd cl outer A₀ base h₀ L m s Q E B F X N T hk hD hU ret
theorem SpecX.use2 {prog : Program} {w : World} {f : Addr} {D U : Nat} {vs : List Value} {news : Led} {Φ : Led → Prop}
    {p : Program} {loose : List Str} {mean : ExcName → Option Value} {mg mb : Str → Option Value}
    {dp un : Nat} {gd : Option (List Code)} {cn : Str} {cs : Scope} {a : Addr} {ccd : Value} {cl : List (Str × Addr)} {outer : List Env} {A₀ : Around} {base h₀ : Heap} {L : Addr} {m : Str → Option Value} {hp : Heap} {gn} {dw} {tk₀ : Nat} {os} {Q E : Value → Shared → Prop}
    (B : Below A₀ base outer h₀) (F : Fr h₀ L hp m) (X : (frag w.params).In h₀) (N : News h₀ L hp news) (T : Top p loose mean mg mb h₀) (hk : cs.kind = .function)
    (S : SpecX prog w f D U vs news Φ)
    (hD : dp + D < recursionLimit) (hU : un + U < cLine)
    (ret : ∀ e t vs' news' g₂ h' tk', Φ news' → Fr h₀ L g₂ m → RaisedS base g₂ (envX cn cs L a ccd cl :: outer) e (.ref 51) t vs' news' h' → g₂.UpToSlots h' → E (.ref e) ⟨h', gn, dw, tk', os⟩) :
    wpAny (model prog w) (ktrTop dp un gd cn cs L a ccd cl outer) (call (.ref f) vs) Q E ⟨hp, gn, dw, tk₀, os⟩ :=
  S.use B (s := ⟨hp, gn, dw, tk₀, os⟩) F X N T hk hD hU ret

theorem rows_USEX_F11 : True := by
  k_with  "m_usex" => (k_here; refine SpecX.use2 (by k_asm) (by k_asm) (by k_asm) (by k_asm) (by k_asm) (by first | exact rfl | assumption) (by k_extra "specx") (by walk_at "m_room") (by walk_at "m_room") ?_; k_whole; intro _ _ _ _ _ _ _ _ _ _ _; (try dsimp only); (try k_fold))
  k_with  "call ref" => k_dflt (walk_at "m_usex")
  k_with  "leaving ref" => (k_here; refine leave_on2 (by assumption) (by assumption) (by assumption) (by assumption) rfl ?_; k_whole; intro _ _ _; (try dsimp only))
  k_with  "exec Raise some none" => k_extra "raise"
  k_with  "m_raise" => (k_here; k_dflt (refine raise_own (C := 51) (fI := 35) (by k_asm) (by k_asm) (by k_is) (by exact ⟨by decide +kernel, by decide +kernel, by decide +kernel, by decide +kernel⟩) (by k_is) (by k_is) (by exact rfl) (by intro Q9 h9; exact nameX_K (by k_asm) (by k_asm) (topRead_of (by k_asm)) (by k_is) h9) ?_; k_whole))
  k_with  "m_raised" => ((change wpAny _ _ _ _ _ _); walk_at "m_raise"; k_steps; refine raiseArgs_leave (by k_asm) (by k_asm) (by k_asm) (by k_asm) (by k_asm) rfl (by walk_at "m_room") (by walk_at "m_room") fun _ _ _ _ _ _ => ?_)
  trivial

theorem rows_OWN_F11_5 : True := by
  k_with  "setAttr ref" => (k_here; k_extra "excset"; k_dflt (refine set_excL (by k_asm) (by k_asm) (by k_asm) (by k_mem) (by k_is) (by k_is) (by exact rfl) (by k_is) ?_; k_whole); intro _ _ _ _ _ _ _; (try k_sweep))
  trivial

set_option maxRecDepth 100000 in
set_option maxHeartbeats 2000000 in
theorem spec_exc_init (prog : Program) (w : World) (e t : Addr) (y : Value) (news : Led) (h1 : (e, excO 51 t none) ∈ news) :
    Spec prog w 35 2 16 [.ref e, y] news (fun news v news' => v = .none ∧ ∃ d od, news' = (d, od) :: updL e (excO 51 t (some d)) news ∧ AllLt d news) := by
  intro p loose mean mg mb dp un gd cn cs a ccd cl outer A₀ base h₀ L m s Q E B F X N T hk hd hu hret
  obtain mk_F11_1 : True := trivial
  k_with "excset" => (guard_hyp mk_F11_1; skip)
  walk_at "m_enter"
  k_steps
  all_goals exact hret _ _ _ _ (by k_asm) (by k_asm) ⟨rfl, _, _, rfl, allLt_of (by assumption)⟩

theorem raiseArgs_leave {prog : Program} {w : World} {p : Program} {loose : List Str} {mean : ExcName → Option Value} {mg mb : Str → Option Value}
    {dp un : Nat} {gd : Option (List Code)} {cn n : Str} {cs sc : Scope} {L₀ a L f : Addr} {ccd cd : Value} {cl cl' : List (Str × Addr)} {outer : List Env} {base g : Heap} {m : Str → Option Value} {s : Shared} {news : Led} {y : Value} {R' : Value → Shared → Prop} {E₂ : Value → Value → Shared → Prop}
    (B : Below (ktrTop dp un gd cn cs L₀ a ccd cl outer) base (envX cn cs L₀ a ccd cl :: outer) g) (F : Fr g L s.heap m) (X : (frag w.params).In g) (N : News g L s.heap news) (T : Top p loose mean mg mb g) (hk : sc.kind = .function)
    (hD : dp + 5 < recursionLimit) (hU : un + 40 < cLine)
    (hQ : ∀ e t h' tk, RaisedS base g (envX cn cs L₀ a ccd cl :: outer) e (.ref 51) t [y] news h' → g.UpToSlots h' → R' (.ref e) { s with heap := h', toks := tk }) :
    RaiseArgs prog w ((ktrTop dp un gd cn cs L₀ a ccd cl outer).deeper (envX n sc L f cd cl')) (fun e s' => wpAny (model prog w) ((ktrTop dp un gd cn cs L₀ a ccd cl outer).deeper (envX n sc L f cd cl')) (leaving (envX n sc L f cd cl') e) (fun _ s'' => R' e s'') (E₂ e) s') g L 51 35 [y] s := by
  refine ⟨by rw [PySem.sizeLine_eq]; show 1 ≤ _; decide, m, news, F, N, fun h8 e8 t8 F8 N8 l8 l8' => ?_⟩
  refine Spec.use (spec_exc_init prog w e8 t8 y _ (.head _)) B F8 X N8 T hk ?_ ?_ ?_
  · show (((ktrTop dp un gd cn cs L₀ a ccd cl outer).deeper (envX n sc L f cd cl')).under (.builtin "type.__call__" ⟨.ref 51 :: [y], []⟩)).depth + 2 < recursionLimit
    walk_at "m_room"
  · show (((ktrTop dp un gd cn cs L₀ a ccd cl outer).deeper (envX n sc L f cd cl')).under (.builtin "type.__call__" ⟨.ref 51 :: [y], []⟩)).units + 16 < cLine
    walk_at "m_room"
  rintro v9 n9 h9 tk9 F9 N9 ⟨rfl, d9, od9, rfl, l9⟩
  have he : (e8, excO 51 t8 (some d9)) ∈ (d9, od9) :: updL e8 (excO 51 t8 (some d9)) ((e8, excO 51 t8 none) :: (t8, tupO [y]) :: news) := .tail _ (mem_updL_self (.head _))
  have hte : t8 ≠ e8 := neN (by (clear hD hU; omega))
  refine ⟨rfl, m, some d9, F9, (N9 _ he).1, ?_⟩
  refine leave_new (dx := some d9) B F9 N9 (N9 _ he).1 (N9 _ he).2.2 (N9 _ he).2.1 (.tail _ (mem_updL_ne (.tail _ (.head _)) hte)) rfl hk (news' := news) (fun q hq => ?_) fun h' R U => hQ e8 t8 h' tk9 R U
  have h1 := allLt_mem l8 q hq
  exact ⟨.tail _ (mem_updL_ne (.tail _ (.tail _ hq)) (neN (by (clear hD hU hte; omega)))), neN (by (clear hD hU hte; omega)), neN (by (clear hD hU hte l8'; omega))⟩

set_option maxRecDepth 100000 in
set_option maxHeartbeats 2000000 in
theorem specx_mask_of (prog : Program) (w : World) (y : Int) (ty : Tok) (news : Led) (hbad : y < 0 ∨ 32 < y) :
    SpecX prog w 60 6 48 [.int y ty] news (fun news' => Sub news news') := by
  intro p loose mean mg mb dp un gd cn cs a ccd cl outer A₀ base h₀ L m s Q E B F X N T hk hd hu hret
  obtain mk_F11_2 : True := trivial
  k_with "raise" => (guard_hyp mk_F11_2; (refine Stop.go ?_))
  walk_at "m_enter"
  k_steps
  all_goals (change wpAny _ _ _ _ _ _)
  all_goals (walk_at "m_raise")
  all_goals k_steps
  all_goals refine raiseArgs_leave (by k_asm) (by k_asm) (by k_asm) (by k_asm) (by k_asm) rfl (by walk_at "m_room") (by walk_at "m_room") fun e t h' tk R U => ?_
  all_goals exact hret _ _ _ _ _ _ _ (Sub.refl _) (by k_asm) R U

set_option maxRecDepth 100000 in
set_option maxHeartbeats 2000000 in
theorem specx_net_of (prog : Program) (w : World) (x y : Int) (tx ty : Tok) (news : Led) (hbad : y < 0 ∨ 32 < y) :
    SpecX prog w 67 7 56 [.int x tx, .int y ty] news (fun news' => Sub news news') := by
  intro p loose mean mg mb dp un gd cn cs a ccd cl outer A₀ base h₀ L m s Q E B F X N T hk hd hu hret
  obtain mk_F12_1 : True := trivial
  k_with "specx" => (guard_hyp mk_F12_1; exact specx_mask_of _ _ _ _ _ hbad)
  walk_at "m_enter"
  k_steps
  all_goals exact hret _ _ _ _ _ _ _ (by assumption) (by k_asm) (by assumption) (by assumption)

/-- a table of routes in the ledger -/
structure Tab (w : World) (news : Led) (x td b0 : Addr) (M : Tm) (many : Int) : Prop where
  inst : (x, instObj 251 td) ∈ news
  dict : ∃ t0 t1 tm, (td, tbD w t0 t1 (.ref b0) (.int many tm)) ∈ news
  T : TrieIn w news M
  W : Wf M
  root : bA M [] = some b0
theorem Tab.mono {w : World} {news news' : Led} {x td b0 : Addr} {M : Tm} {many : Int} (h : Tab w news x td b0 M many) (hs : Sub news news') : Tab w news' x td b0 M many :=
  ⟨hs _ h.inst, let ⟨a, b, c, hd⟩ := h.dict; ⟨a, b, c, hs _ hd⟩, h.T.mono hs, h.W, h.root⟩
/-- what is neither the trie's nor the table's stands as it stood -/
noncomputable def Kept (news : Led) (td : Addr) (M : Tm) (news' : Led) (M' : Tm) : Prop := ∀ q ∈ news, Off M q.1 → q.1 ≠ td → q ∈ news' ∧ Off M' q.1
theorem get_same {h₀ h : Heap} {L a : Addr} {o o' : Obj} {news : Led} (N : News h₀ L h news) (h1 : (a, o) ∈ news) (h2 : (a, o') ∈ news) : o = o' :=
  Option.some.inj ((N _ h1).1.symm.trans (N _ h2).1)
noncomputable def tagO (o : Obj) : Nat := match o.data with
  | .plain => 0
  | .dict _ n => 10 + n
  | .seq _ _ => 1
  | _ => 2
theorem ne_tag {h₀ h : Heap} {L a b : Addr} {o o' : Obj} {news : Led} {t t' : Nat} (N : News h₀ L h news) (h1 : (a, o) ∈ news) (h2 : (b, o') ∈ news) (e1 : tagO o = t) (e2 : tagO o' = t') (hne : t ≠ t') : a ≠ b := fun e => by
  subst e
  exact hne (e1 ▸ e2 ▸ congrArg tagO (get_same N h1 h2))
theorem far_td {h₀ h : Heap} {L td : Addr} {w : World} {M : Tm} {news : Led} {t0 t1 : Tok} {r mv : Value} (N : News h₀ L h news) (T : TrieIn w news M) (hd : (td, tbD w t0 t1 r mv) ∈ news) : Far M td := fun p n hp =>
  ⟨ne_tag N hd (T.inst p n hp) (t := 12) (t' := 0) rfl rfl (by decide), ne_tag N hd (T.dict p n hp) (t := 12) (t' := 13) rfl rfl (by decide), ne_tag N hd (T.list p n hp) (t := 12) (t' := 1) rfl rfl (by decide),
   fun r hr => ⟨ne_tag N hd (T.rts p n hp r hr).1.1 (t := 12) (t' := 0) rfl rfl (by decide), ne_tag N hd (T.rts p n hp r hr).1.2 (t := 12) (t' := 15) rfl rfl (by decide)⟩⟩
theorem off_x {h₀ h : Heap} {L x td : Addr} {w : World} {M : Tm} {news : Led} (N : News h₀ L h news) (T : TrieIn w news M) (hd : (x, instObj 251 td) ∈ news) : Off M x := fun p n hp =>
  ⟨ne_tag N hd (T.dict p n hp) (t := 0) (t' := 13) rfl rfl (by decide), ne_tag N hd (T.list p n hp) (t := 0) (t' := 1) rfl rfl (by decide)⟩
theorem x_td {h₀ h : Heap} {L x td : Addr} {w : World} {news : Led} {t0 t1 : Tok} {r mv : Value} (N : News h₀ L h news) (hx : (x, instObj 251 td) ∈ news) (hd : (td, tbD w t0 t1 r mv) ∈ news) : x ≠ td :=
  ne_tag N hx hd (t := 0) (t' := 12) rfl rfl (by decide)
theorem rsAt_some {M : Tm} {p : Bits} {n : Nd} (h : M p = some n) : rsAt M p = n.rs := by unfold rsAt; rw [h]
theorem none_below {M : Tm} (W : Wf M) {net : Int} {k : Nat} (h : M (bitsOf net k) = none) : ∀ i, M (bitsOf net (k + i)) = none
  | 0 => h
  | i + 1 => by rw [show k + (i + 1) = (k + i) + 1 by omega, bitsOf_succ]; exact W.leaf (none_below W h i) _
theorem rsAt_below {M : Tm} (W : Wf M) {net : Int} {k j : Nat} (h : bA M (bitsOf net (k + 1)) = none) (hj : k < j) : rsAt M (bitsOf net j) = [] := by
  have := none_below W (bA_none h) (j - (k + 1))
  rw [show k + 1 + (j - (k + 1)) = j by omega] at this
  unfold rsAt; rw [this]

theorem some_above {M : Tm} (W : Wf M) {net : Int} : ∀ {k : Nat}, (bA M (bitsOf net k)).isSome → ∀ j ≤ k, (bA M (bitsOf net j)).isSome
  | 0, h, j, hj => by obtain rfl : j = 0 := by omega
                      exact h
  | k + 1, h, j, hj => by
    by_cases e : j = k + 1
    · subst e; exact h
    · refine some_above W (k := k) ?_ j (by omega)
      have e1 : ∀ q, (bA M q).isSome = (M q).isSome := fun q => by unfold bA; cases M q <;> rfl
      rw [e1] at h ⊢
      rw [bitsOf_succ] at h
      exact W.closed _ _ h

set_option maxRecDepth 100000 in
set_option maxHeartbeats 2000000 in
theorem spec_remove (prog : Program) (w : World) (x td b0 : Addr) (M : Tm) (many : Int) (net pre : Int) (tn tp : Tok) (news : Led) (TB : Tab w news x td b0 M many) (hp0 : 0 ≤ pre) (hp1 : pre ≤ 32) (hz : ∀ q, (rsAt M q).length ≤ 1000) :
    Spec prog w 222 10 80 [.ref x, .int net tn, .int pre tp] news (fun news v news' => ∃ M' t, v = .int ((rsAt M (bitsOf (netOf net pre) pre.toNat)).length : Nat) t ∧ Tab w news' x td b0 M' (many - ((rsAt M (bitsOf (netOf net pre) pre.toNat)).length : Nat)) ∧ Kept news td M news' M' ∧ ∀ q, rsAt M' q = if q = bitsOf (netOf net pre) pre.toNat then [] else rsAt M q) := by
  intro p loose mean mg mb dp un gd cn cs a ccd cl outer A₀ base h₀ L m s Q E B F X N T hk hd hu hret
  obtain mk_F13_1 : True := trivial
  refine hide ?_
  intro GG0 hGG0
  obtain ⟨hin, ⟨t0, t1, tm, hdt⟩, TI, W, hb0⟩ := TB
  refine hGG0 ?_
  (try clear hGG0 GG0)
  k_with "lenU" => (guard_hyp mk_F13_1; skip)
  k_with "spec" => (guard_hyp mk_F13_1; first | exact spec_net_of _ _ _ _ _ _ _ (by walk_at "m_om") (by walk_at "m_om") | exact spec_path0 _ _ _ _ _ _ _ _ _ _ _ _ _ _ (by k_mem) (by k_mem) TI W hb0 (by walk_at "m_om") (by walk_at "m_om"))
  k_with "post" => (guard_hyp mk_F13_1; (subst he9; rename_i n9 h9 tk9 F9 N9 P9; first | (obtain ⟨rfl, t9, rfl⟩ := P9) | (obtain ⟨rfl, rfl⟩ := P9) | (obtain ⟨f9, c9, k9, rfl, hf9, hs9, hl9, hk9, hb9, hn9⟩ := P9; obtain ⟨nd9, hnd9⟩ := bA_some hb9; obtain hx9 : (pathRefs M (netOf net pre) k9).getLast? = some (.ref nd9.b) := (by rw [pathRefs_last]; unfold bA; rw [hnd9]; rfl); obtain hin9 := hs9 _ (TI.inst _ _ hnd9); obtain hdn9 := hs9 _ (TI.dict _ _ hnd9); obtain hls9 := hs9 _ (TI.list _ _ hnd9); obtain hz9 : nd9.rs.length ≤ 1000 := (rsAt_some hnd9 ▸ hz _); obtain hin' := hs9 _ hin; obtain hdt' := hs9 _ hdt; obtain hfar9 := far_td N9 (TI.mono hs9) hdt'; obtain htd9 : td ≠ nd9.d := (hfar9 _ _ hnd9).2.1; obtain hox9 : Off M x := off_x N9 (TI.mono hs9) hin'; obtain hxd9 : x ≠ nd9.d := (hox9 _ _ hnd9).1; obtain hxt9 : x ≠ td := x_td N9 hin' hdt')))
  k_with "len" => (guard_hyp mk_F13_1; first | exact pathRefs_length _ _ _ | exact List.length_map _)
  k_with "size" => (guard_hyp mk_F13_1; first | omega | (rw [pathRefs_length]; omega))
  k_with "item" => (guard_hyp mk_F13_1; skip)
  k_with "updl" => (guard_hyp mk_F13_1; skip)
  walk_at "m_enter"
  k_steps
  · obtain he9 : rsAt M (bitsOf (netOf net pre) pre.toNat) = [] := rsAt_below W (hn9 (by (clear hd hk9 hn9 hp0 hp1 htd9 hu hxd9 hxt9 hz9; omega))) (by (clear hd hk9 hn9 hp0 hp1 htd9 hu hxd9 hxt9 hz9; omega))
    refine hret _ _ _ _ (by k_asm) (by k_asm) ⟨M, _, (by rw [he9]; rfl), (by rw [he9]; simpa using Tab.mono ⟨hin, ⟨_, _, _, hdt⟩, TI, W, hb0⟩ hs9), fun q hq ho _ => ⟨hs9 _ hq, ho⟩, fun q => ?_⟩
    split
    · next e => rw [e, he9]
    · rfl
  · rename ∀ p ∈ n9, p.1 < _ => l9
    rename_i l8 _ _ _ F8 N8
    refine hide ?_
    intro GG0 hGG0
    obtain hk : k9 = pre.toNat := by (clear hGG0 hd hn9 hp0 hp1 htd9 hu hxd9 hxt9 hz9; omega)
    obtain hdl : @LT.lt Nat _ nd9.d l8 := l9 _ hdn9
    obtain htl : @LT.lt Nat _ td l8 := l9 _ hdt'
    obtain hfl : @LT.lt Nat _ f9 l8 := l9 _ hf9
    obtain hfd : nd9.d ≠ f9 := allLt_ne hl9 _ (TI.dict _ _ hnd9)
    obtain hft : td ≠ f9 := allLt_ne hl9 _ hdt
    obtain ⟨g1, g2, g3, g4, g5⟩ := reset (news' := updL nd9.d (brD w nd9.t0 nd9.t1 nd9.t2 (vr (bA M (bitsOf (netOf net pre) k9 ++ [false]))) (vr (bA M (bitsOf (netOf net pre) k9 ++ [true]))) (.ref l8)) ((l8, listOf #[] 0) :: n9)) (n' := ⟨nd9.b, nd9.d, l8, nd9.t0, nd9.t1, nd9.t2, 0, []⟩) (TI.mono hs9) W hnd9 rfl rfl (.inr fun q hq => Nat.ne_of_lt (l9 q hq))
      (mem_updL_self (.tail _ hdn9)) (mem_updL_ne (.head _) (neN (by dsimp only; (clear hGG0 hd hfd hfl hft hk hk9 hn9 hp0 hp1 htd9 htl hu hxd9 hxt9 hz9; omega)))) (fun r hr => nomatch (show r ∈ ([] : List Rt) from hr)) (fun q hq h1 _ => mem_updL_ne (.tail _ hq) h1)
    obtain hfar1 : Far (setAt M (bitsOf (netOf net pre) k9) (some ⟨nd9.b, nd9.d, l8, nd9.t0, nd9.t1, nd9.t2, 0, []⟩)) td := hfar9.setAt (nd := ⟨nd9.b, nd9.d, l8, nd9.t0, nd9.t1, nd9.t2, 0, []⟩) (hfar9 _ _ hnd9).1 htd9 (neN (by (try dsimp only); (clear hGG0 hd hdl hfd hfl hft hk hk9 hn9 hp0 hp1 htd9 hu hxd9 hxt9 hz9; omega))) (fun r hr => nomatch (show r ∈ ([] : List Rt) from hr))
    obtain hfarf : Far M f9 := far_of TI fun q hq => allLt_ne hl9 q hq
    obtain hoff1 : Off (setAt M (bitsOf (netOf net pre) k9) (some ⟨nd9.b, nd9.d, l8, nd9.t0, nd9.t1, nd9.t2, 0, []⟩)) f9 := (hfarf.setAt (nd := ⟨nd9.b, nd9.d, l8, nd9.t0, nd9.t1, nd9.t2, 0, []⟩) (hfarf _ _ hnd9).1 (hfarf _ _ hnd9).2.1 (neN (by (try dsimp only); (clear hGG0 hd hdl hfd hft hk hk9 hn9 hp0 hp1 htd9 htl hu hxd9 hxt9 hz9; omega))) (fun r hr => nomatch (show r ∈ ([] : List Rt) from hr))).off
    refine hGG0 ?_
    (try clear hGG0 GG0)
    k_with "spec" => (guard_hyp mk_F13_1; exact spec_prune _ _ _ (setAt M (bitsOf (netOf net pre) k9) (some ⟨nd9.b, nd9.d, l8, nd9.t0, nd9.t1, nd9.t2, 0, []⟩)) b0 f9 c9 k9 _ _ _ (by rw [pathRefs_congr (fun j _ => g5 _)]; exact mem_updL_ne (mem_updL_ne (.tail _ hf9) hfd.symm) hft.symm) hoff1 (g1.updFar hfar1) g2 ((g5 _).trans hb0) (by walk_at "m_om") (fun j hj => by rw [g5]; exact some_above W hb9 j hj))
    k_with "post" => (guard_hyp mk_F13_1; (rename_i P9; obtain ⟨rfl, M9, hm9, _⟩ := P9))
    k_steps
    obtain hrs9 : rsAt M (bitsOf (netOf net pre) pre.toNat) = nd9.rs := by rw [← hk]; exact rsAt_some hnd9
    refine hret _ _ _ _ (by k_asm) (by k_asm) ⟨M9, _, (by rw [hrs9]), ⟨(hm9.keeps _ (mem_updL_ne (mem_updL_ne (.tail _ hin') hxd9) hxt9) ?ox).1, ?dict, hm9.T, hm9.W, hm9.root⟩, ?kept, ?rs⟩
    case ox => exact (g3 _ hin' hox9).2
    case dict => rw [hrs9]; exact ⟨_, _, _, (hm9.keeps _ (mem_updL_self (mem_updL_ne (.tail _ hdt') htd9)) hfar1.off).1⟩
    case kept =>
      intro q hq ho hne
      obtain ⟨h1, h2⟩ := g3 q (hs9 _ hq) ho
      exact hm9.keeps q (mem_updL_ne h1 hne) h2
    case rs =>
      intro q
      rw [hm9.rs, g4, hk]

/-- the routes of a place with one more: it takes the place of the one of its gateway and face -/
noncomputable def addR (r : Rt) : List Rt → List Rt
  | [] => [r]
  | q :: l => if q.g = r.g ∧ q.f = r.f then r :: l else q :: addR r l
noncomputable def hasR (r : Rt) (l : List Rt) : Bool := l.any fun q => decide (q.g = r.g ∧ q.f = r.f)
theorem addR_new {r : Rt} : ∀ {l : List Rt}, (∀ q ∈ l, ¬ (q.g = r.g ∧ q.f = r.f)) → addR r l = l ++ [r] ∧ hasR r l = false
  | [], _ => ⟨rfl, rfl⟩
  | q :: l, h => by
    obtain ⟨a, b⟩ := addR_new (l := l) fun q' hq => h q' (.tail _ hq)
    have h0 := h q (.head _)
    unfold addR hasR
    rw [if_neg h0, a]
    refine ⟨rfl, ?_⟩
    rw [List.any_cons]
    unfold hasR at b
    rw [b]; simpa using h0
theorem addR_old {r : Rt} : ∀ {l : List Rt} {i : Nat} {q : Rt}, l[i]? = some q → (q.g = r.g ∧ q.f = r.f) → (∀ j < i, ∀ q, l[j]? = some q → ¬ (q.g = r.g ∧ q.f = r.f)) → addR r l = l.set i r ∧ hasR r l = true
  | [], i, q, h, _, _ => by simp at h
  | a :: l, 0, q, h, hs, _ => by
    obtain rfl : a = q := by simpa using h
    unfold addR hasR
    rw [if_pos hs]
    exact ⟨rfl, by rw [List.any_cons]; simp [hs]⟩
  | a :: l, i + 1, q, h, hs, hn => by
    have h0 := hn 0 (Nat.succ_pos _) a rfl
    obtain ⟨x, y⟩ := addR_old (l := l) (i := i) (q := q) (by simpa using h) hs fun j hj q' hq => hn (j + 1) (by (clear h0 hs; omega)) q' (by simpa using hq)
    unfold addR hasR
    rw [if_neg h0, x]
    refine ⟨rfl, ?_⟩
    rw [List.any_cons]
    unfold hasR at y
    rw [y, Bool.or_true]
theorem spec_net_eq (prog : Program) (w : World) (x y z : Int) (tx ty : Tok) (news : Led) (h0 : 0 ≤ y) (h1 : y ≤ 32) (h : netOf x y = z) :
    Spec prog w 67 2 16 [.int x tx, .int y ty] news (fun news v news' => news = news' ∧ ∃ t, v = .int z t) := h ▸ spec_net_of prog w x y tx ty news h0 h1

theorem off_r {h₀ h : Heap} {L x : Addr} {d : Addr} {w : World} {M : Tm} {news : Led} (N : News h₀ L h news) (T : TrieIn w news M) (hd : (x, instObj 120 d) ∈ news) : Off M x := fun p n hp =>
  ⟨ne_tag N hd (T.dict p n hp) (t := 0) (t' := 13) rfl rfl (by decide), ne_tag N hd (T.list p n hp) (t := 0) (t' := 1) rfl rfl (by decide)⟩
theorem off_d {h₀ h : Heap} {L : Addr} {w : World} {M : Tm} {r : Rt} {news : Led} (N : News h₀ L h news) (T : TrieIn w news M) (hd : (r.d, r.dict w) ∈ news) : Off M r.d := fun p n hp =>
  ⟨ne_tag N hd (T.dict p n hp) (t := 15) (t' := 13) rfl rfl (by decide), ne_tag N hd (T.list p n hp) (t := 15) (t' := 1) rfl rfl (by decide)⟩

theorem put_rs {w : World} {n9 : Led} {M9 : Tm} {p : Bits} {nd : Nd} (T : TrieIn w n9 M9) (W : Wf M9) (hnd : M9 p = some nd) (rs : List Rt) (c : Nat) (hnew : ∀ r ∈ rs, RtIn w n9 r ∧ Off M9 r.x ∧ Off M9 r.d) :
    TrieIn w (updL nd.l (listOf (rtVals rs).toArray c) n9) (setAt M9 p (some ⟨nd.b, nd.d, nd.l, nd.t0, nd.t1, nd.t2, c, rs⟩)) ∧ Wf (setAt M9 p (some ⟨nd.b, nd.d, nd.l, nd.t0, nd.t1, nd.t2, c, rs⟩)) ∧
      Keeps n9 M9 (updL nd.l (listOf (rtVals rs).toArray c) n9) (setAt M9 p (some ⟨nd.b, nd.d, nd.l, nd.t0, nd.t1, nd.t2, c, rs⟩)) ∧ (∀ q, rsAt (setAt M9 p (some ⟨nd.b, nd.d, nd.l, nd.t0, nd.t1, nd.t2, c, rs⟩)) q = if q = p then rs else rsAt M9 q) ∧
      ∀ q, bA (setAt M9 p (some ⟨nd.b, nd.d, nd.l, nd.t0, nd.t1, nd.t2, c, rs⟩)) q = bA M9 q :=
  reset (n' := ⟨nd.b, nd.d, nd.l, nd.t0, nd.t1, nd.t2, c, rs⟩) T W hnd rfl rfl (.inl rfl) (mem_updL_ne (T.dict p nd hnd) (W.cross p p nd nd hnd hnd)) (mem_updL_self (T.list p nd hnd)) hnew fun q hq _ h2 => mem_updL_ne hq h2
theorem rtVals_set (rs : List Rt) (i : Nat) (r : Rt) : (rtVals rs).set i (.ref r.x) = rtVals (rs.set i r) := (List.map_set).symm

set_option maxRecDepth 100000 in
set_option maxHeartbeats 2000000 in
theorem spec_add (prog : Program) (w : World) (x td b0 : Addr) (M : Tm) (many : Int) (r : Rt) (news : Led) (TB : Tab w news x td b0 M many) (hr : RtIn w news r) (hn0 : 0 ≤ r.n) (hn1 : r.n ≤ 4294967295) (hg0 : 0 ≤ r.g) (hg1 : r.g ≤ 4294967295) (hp0 : 0 ≤ r.p) (hp1 : r.p ≤ 32) (hnet : netOf r.n r.p = r.n) (hz : ∀ q, (rsAt M q).length ≤ 1000) :
    Spec prog w 215 10 80 [.ref x, .ref r.x] news (fun news v news' => v = .none ∧ ∃ M', Tab w news' x td b0 M' (if hasR r (rsAt M (bitsOf r.n r.p.toNat)) then many else many + 1) ∧ Kept news td M news' M' ∧ ∀ q, rsAt M' q = if q = bitsOf r.n r.p.toNat then addR r (rsAt M q) else rsAt M q) := by
  intro p loose mean mg mb dp un gd cn cs a ccd cl outer A₀ base h₀ L m s Q E B F X N T hk hd hu hret
  obtain mk_F14_1 : True := trivial
  refine hide ?_
  intro GG0 hGG0
  obtain ⟨hin, ⟨t0, t1, tm, hdt⟩, TI, W, hb0⟩ := TB
  obtain ⟨hrx, hrd⟩ := hr
  obtain hofx := off_x N TI hin
  obtain hoft := (far_td N TI hdt).off
  obtain hofr := off_r N TI hrx
  obtain hofd := off_d N TI hrd
  refine hGG0 ?_
  (try clear hGG0 GG0)
  k_with "loop" => (guard_hyp mk_F14_1; (refine Stop.go ?_))
  k_with "lenU" => (guard_hyp mk_F14_1; skip)
  k_with "spec" => (guard_hyp mk_F14_1; first | exact spec_net_eq _ _ _ _ _ _ _ _ (by walk_at "m_om") (by walk_at "m_om") hnet | exact spec_path1 _ _ _ _ _ _ _ _ _ _ _ _ _ _ (by k_mem) (by k_mem) TI W hb0 (by walk_at "m_om") (by walk_at "m_om"))
  k_with "post" => (guard_hyp mk_F14_1; (subst he9; rename_i n9 h9 tk9 F9 N9 P9; first | (obtain ⟨rfl, t9, rfl⟩ := P9) | (obtain ⟨f9, c9, M9, rfl, hf9, hm9, hb9, ho9, hl9⟩ := P9; obtain ⟨nd9, hnd9⟩ := bA_some (hb9 r.p.toNat (Nat.le_refl _)); obtain hx9 : (pathRefs M9 r.n r.p.toNat).getLast? = some (.ref nd9.b) := (by rw [pathRefs_last]; unfold bA; rw [hnd9]; rfl); obtain hin9 := hm9.T.inst _ _ hnd9; obtain hdn9 := hm9.T.dict _ _ hnd9; obtain hls9 := hm9.T.list _ _ hnd9; obtain hrs9 : rsAt M (bitsOf r.n r.p.toNat) = nd9.rs := (by rw [← hm9.rs]; exact rsAt_some hnd9); obtain hz9 : nd9.rs.length ≤ 1000 := (hrs9 ▸ hz _); obtain ⟨hrx9, hr1⟩ := hm9.keeps _ hrx hofr; obtain ⟨hrd9, hr2⟩ := hm9.keeps _ hrd hofd; obtain ⟨hin', hx1⟩ := hm9.keeps _ hin hofx; obtain ⟨hdt', ht1⟩ := hm9.keeps _ hdt hoft; obtain hxl9 : x ≠ nd9.l := (hx1 _ _ hnd9).2; obtain htl9 : td ≠ nd9.l := (ht1 _ _ hnd9).2)))
  k_with "len" => (guard_hyp mk_F14_1; first | exact pathRefs_length _ _ _ | exact List.length_map _)
  k_with "size" => (guard_hyp mk_F14_1; first | omega | (rw [pathRefs_length]; omega))
  k_with "item" => (guard_hyp mk_F14_1; skip)
  k_with "updl" => (guard_hyp mk_F14_1; skip)
  walk_at "m_enter"
  k_steps
  · exact absurd rfl (by assumption : r.n ≠ r.n)
  rename_i hra9 Fa9 Na9 _
  refine iter_rngN ["other"] [] [] (fun i vs n => n = n9 ∧ vs = [] ∧ ∀ j < i, ∀ q, nd9.rs[j]? = some q → ¬ (q.g = r.g ∧ q.f = r.f)) (by exact rfl) (by assumption) (by k_asm) (by k_asm) (fun z => rfl) ?hj ?turn ?done ?small
  case small => walk_at "m_small"
  case hj => exact ⟨rfl, rfl, fun j hj => absurd hj (Nat.not_lt_zero _)⟩
  case turn =>
    intro i9 t8 vs9 u9 n8 h8 tk8 I9 oI9 hlt9 hp9 hI9 hlt9' F8 N8
    refine hide ?_
    intro GG0 hGG0
    obtain ⟨rfl, rfl, hno9⟩ := hp9
    obtain ⟨q9, hq9⟩ : ∃ q, nd9.rs[i9]? = some q := ⟨nd9.rs[i9]'(by (clear hGG0 hd hg0 hg1 hn0 hn1 hnet hp0 hp1 htl9 hu hxl9 hz9; omega)), List.getElem?_eq_getElem _⟩
    obtain ⟨hqx, hqd⟩ := (hm9.T.rts _ _ hnd9 q9 (List.mem_of_getElem? hq9)).1
    obtain hqv : (rtVals nd9.rs)[((i9 : Nat) : Int).toNat]? = some (.ref q9.x) := by rw [Int.toNat_natCast, List.getElem?_map, hq9]; rfl
    refine hGG0 ?_
    (try clear hGG0 GG0)
    k_fold
    k_with "size" => (guard_hyp mk_F14_1; (simp only [List.length_map]; omega))
    k_with "setU" => (guard_hyp mk_F14_1; skip)
    k_steps
    · refine namPost_ret ?_
      (try dsimp only)
      k_steps
      refine hide ?_
      intro GG0 hGG0
      obtain ⟨e1, e2⟩ := addR_old (r := r) hq9 ⟨by assumption, by assumption⟩ hno9
      obtain ⟨g1, g2, g3, g4, g5⟩ := put_rs hm9.T hm9.W hnd9 (nd9.rs.set i9 r) nd9.c fun r' hr' => by
        rcases List.mem_or_eq_of_mem_set hr' with h | rfl
        · exact hm9.T.rts _ _ hnd9 r' h
        · exact ⟨⟨hrx9, hrd9⟩, hr1, hr2⟩
      have hsub : Sub (updL nd9.l (listOf (rtVals (nd9.rs.set i9 r)).toArray nd9.c) n8) (updL nd9.l (listOf ((rtVals nd9.rs).set ((i9 : Nat) : Int).toNat (.ref r.x)).toArray nd9.c) ((I9, oI9) :: n8)) := by
        rw [Int.toNat_natCast, rtVals_set]; exact updL_tail _
      refine hGG0 ?_
      (try clear hGG0 GG0)
      refine hret _ _ _ _ (by k_asm) (by k_asm) ⟨rfl, _, ⟨hsub _ (g3 _ hin' hx1).1, ?_, g1.mono hsub, g2, (g5 _).trans hm9.root⟩, fun q hq ho hne => ?_, fun q => ?_⟩
      · rw [hrs9, e2]; exact ⟨_, _, _, hsub _ (g3 _ hdt' ht1).1⟩
      · obtain ⟨a1, a2⟩ := hm9.keeps q hq ho
        exact ⟨hsub _ (g3 q a1 a2).1, (g3 q a1 a2).2⟩
      · rw [g4, hm9.rs, ← e1]
        split
        · next e => rw [e, hrs9]
        · rfl
    all_goals refine NamEnd.intro [] n8 (by k_asm) (by k_asm) (.head _) (fun p hp => .tail _ hp) hI9 (by walk_at "m_names") ⟨rfl, rfl, fun j hj q hq hs => ?_⟩
    all_goals (by_cases hji : j = i9)
    all_goals first
      | exact hno9 j (by (clear hd hg0 hg1 hlt9 hn0 hn1 hnet hp0 hp1 hs htl9 hu hxl9 hz9; omega)) q hq hs
      | (subst hji; rw [hq9] at hq; obtain rfl := Option.some.inj hq; simp_all; done)
  case done =>
    intro u9 vs9 n8 h8 tk8 hp9 F8 N8
    obtain ⟨rfl, rfl, hno9⟩ := hp9
    (try dsimp only)
    (try k_fold)
    k_with "size" => (guard_hyp mk_F14_1; (simp only [List.length_map, PySem.sizeLine_eq]; omega))
    k_with "appU" => (guard_hyp mk_F14_1; skip)
    k_with "updl" => (guard_hyp mk_F14_1; skip)
    k_steps
    refine hide ?_
    intro GG0 hGG0
    obtain ⟨e1, e2⟩ := addR_new (r := r) (l := nd9.rs) fun q hq => by
      obtain ⟨j, hj, hjq⟩ := List.mem_iff_getElem.mp hq
      exact hno9 j (by rw [Int.toNat_natCast]; exact hj) q (by rw [← hjq]; exact List.getElem?_eq_getElem hj)
    obtain ⟨g1, g2, g3, g4, g5⟩ := put_rs hm9.T hm9.W hnd9 (nd9.rs ++ [r]) (nd9.c + 1) fun r' hr' => by
      rcases List.mem_append.mp hr' with h | h
      · exact hm9.T.rts _ _ hnd9 r' h
      · obtain rfl := List.mem_singleton.mp h
        exact ⟨⟨hrx9, hrd9⟩, hr1, hr2⟩
    rw [rtVals_append] at g1 g3
    obtain hfar9 := far_td Na9 hm9.T hdt'
    obtain hfar : Far (setAt M9 (bitsOf r.n r.p.toNat) (some ⟨nd9.b, nd9.d, nd9.l, nd9.t0, nd9.t1, nd9.t2, nd9.c + 1, nd9.rs ++ [r]⟩)) td := hfar9.setAt (nd := ⟨nd9.b, nd9.d, nd9.l, nd9.t0, nd9.t1, nd9.t2, nd9.c + 1, nd9.rs ++ [r]⟩) (hfar9 _ _ hnd9).1 (hfar9 _ _ hnd9).2.1 (hfar9 _ _ hnd9).2.2.1 fun r' hr' => by
      rcases List.mem_append.mp hr' with h | h
      · exact (hfar9 _ _ hnd9).2.2.2 r' h
      · obtain rfl := List.mem_singleton.mp h
        exact ⟨ne_tag Na9 hdt' hrx9 (t := 12) (t' := 0) rfl rfl (by decide), ne_tag Na9 hdt' hrd9 (t := 12) (t' := 15) rfl rfl (by decide)⟩
    refine hGG0 ?_
    (try clear hGG0 GG0)
    refine hret _ _ _ _ (by k_asm) (by k_asm) ⟨rfl, _, ⟨mem_updL_ne (g3 _ hin' hx1).1 (x_td N hin hdt), ?_, g1.updFar hfar, g2, (g5 _).trans hm9.root⟩, fun q hq ho hne => ?_, fun q => ?_⟩
    · rw [hrs9, e2]; exact ⟨_, _, _, mem_updL_self (g3 _ hdt' ht1).1⟩
    · obtain ⟨a1, a2⟩ := hm9.keeps q hq ho
      exact ⟨mem_updL_ne (g3 q a1 a2).1 hne, (g3 q a1 a2).2⟩
    · rw [g4, hm9.rs, ← e1]
      split
      · next e => rw [e, hrs9]
      · rfl

set_option maxRecDepth 100000 in
set_option maxHeartbeats 2000000 in
theorem specx_remove (prog : Program) (w : World) (x : Addr) (net pre : Int) (tn tp : Tok) (news : Led) (hbad : pre < 0 ∨ 32 < pre) :
    SpecX prog w 222 8 64 [.ref x, .int net tn, .int pre tp] news (fun news' => Sub news news') := by
  intro p loose mean mg mb dp un gd cn cs a ccd cl outer A₀ base h₀ L m s Q E B F X N T hk hd hu hret
  obtain mk_F15_1 : True := trivial
  k_with "specx" => (guard_hyp mk_F15_1; exact specx_net_of _ _ _ _ _ _ _ hbad)
  walk_at "m_enter"
  k_steps
  all_goals exact hret _ _ _ _ _ _ _ (by assumption) (by k_asm) (by assumption) (by assumption)

set_option maxRecDepth 100000 in
set_option maxHeartbeats 2000000 in
theorem specx_add_net (prog : Program) (w : World) (x : Addr) (r : Rt) (news : Led) (hr : RtIn w news r) (h1 : 0 ≤ r.n) (h2 : r.n ≤ 4294967295) (h3 : 0 ≤ r.g) (h4 : r.g ≤ 4294967295) (hbad : r.p < 0 ∨ 32 < r.p) :
    SpecX prog w 215 8 64 [.ref x, .ref r.x] news (fun news' => Sub news news') := by
  intro p loose mean mg mb dp un gd cn cs a ccd cl outer A₀ base h₀ L m s Q E B F X N T hk hd hu hret
  obtain mk_F15_2 : True := trivial
  obtain ⟨hrx, hrd⟩ := hr
  k_with "specx" => (guard_hyp mk_F15_2; exact specx_net_of _ _ _ _ _ _ _ hbad)
  walk_at "m_enter"
  k_steps
  all_goals exact hret _ _ _ _ _ _ _ (by assumption) (by k_asm) (by assumption) (by assumption)

set_option maxRecDepth 100000 in
set_option maxHeartbeats 2000000 in
theorem specx_add_bits (prog : Program) (w : World) (x : Addr) (r : Rt) (news : Led) (hr : RtIn w news r) (h1 : 0 ≤ r.n) (h2 : r.n ≤ 4294967295) (h3 : 0 ≤ r.g) (h4 : r.g ≤ 4294967295) (hp0 : 0 ≤ r.p) (hp1 : r.p ≤ 32) (hbad : netOf r.n r.p ≠ r.n) :
    SpecX prog w 215 8 64 [.ref x, .ref r.x] news (fun news' => Sub news news') := by
  intro p loose mean mg mb dp un gd cn cs a ccd cl outer A₀ base h₀ L m s Q E B F X N T hk hd hu hret
  obtain mk_F15_3 : True := trivial
  obtain ⟨hrx, hrd⟩ := hr
  k_with "raise" => (guard_hyp mk_F15_3; (refine Stop.go ?_))
  k_with "spec" => (guard_hyp mk_F15_3; exact spec_net_of _ _ _ _ _ _ _ (by walk_at "m_om") (by walk_at "m_om"))
  k_with "post" => (guard_hyp mk_F15_3; (rename_i P9; obtain ⟨rfl, t9, rfl⟩ := P9))
  walk_at "m_enter"
  k_steps
  all_goals (try (exfalso; first | (clear h1 h2 h3 h4 hd hp0 hp1 hu; omega) | exact hbad (by assumption) | contradiction))
  all_goals walk_at "m_raised"
  all_goals exact hret _ _ _ _ _ _ _ (Sub.refl _) (by k_asm) (by assumption) (by assumption)

set_option maxRecDepth 100000 in
set_option maxHeartbeats 2000000 in
theorem specx_add_far (prog : Program) (w : World) (x : Addr) (r : Rt) (news : Led) (hr : RtIn w news r) (hbad : r.n < 0 ∨ 4294967295 < r.n ∨ r.g < 0 ∨ 4294967295 < r.g) :
    SpecX prog w 215 8 64 [.ref x, .ref r.x] news (fun news' => Sub news news') := by
  intro p loose mean mg mb dp un gd cn cs a ccd cl outer A₀ base h₀ L m s Q E B F X N T hk hd hu hret
  obtain mk_F15_4 : True := trivial
  obtain ⟨hrx, hrd⟩ := hr
  k_with "raise" => (guard_hyp mk_F15_4; (refine Stop.go ?_))
  walk_at "m_enter"
  k_steps
  all_goals (try (exfalso; omega))
  all_goals walk_at "m_raised"
  all_goals exact hret _ _ _ _ _ _ _ (Sub.refl _) (by k_asm) (by assumption) (by assumption)

open LCg LCt
theorem compEnd_mono {h₀ : Heap} {L : Addr} {m : Str → Option Value} {s₁ s₂ : Shared} {I C D : Addr} {oI oC oD : Obj} {S : Led → Prop} {rest rest' : Value → Led → Prop} {y : Value}
    (h : CompEnd h₀ L m s₁ I oI C oC D oD S rest y s₂) (k : ∀ n, rest y n → rest' y n) : CompEnd h₀ L m s₁ I oI C oC D oD S rest' y s₂ := by
  obtain ⟨h', tk, n', e, F, N, o, hS, r⟩ := h
  exact ⟨h', tk, n', e, F, N, o, hS, k _ r⟩
section
variable {prog : Program} {w : World} {A : Around} {E : Value → Shared → Prop} {s : Shared} {h₀ : Heap} {L : Addr} {m : Str → Option Value} {env : Env}
/-- the turns of a comprehension with a test, by an invariant -/
theorem compT_inv {ct elt : Expr} {x : Str} {scope : Scope} {cl : List (Str × Addr)} {S : Led → Prop} {P : Nat → Value → Prop} {Fin : List Value → Led → Prop} (J : Nat → List Value → Led → Prop) {n : Nat}
    (step : ∀ i ys news v I oI C oC D m₂ h tk (E' : Value → Shared → Prop), i < n → J i ys news → P i v → NsObj oC m₂ → m₂ x = some v → Fr h₀ L h m → News h₀ L h ((I, oI) :: (C, oC) :: (D, lst ys) :: news) → Off3 I C D news → ((@Ne Nat I C) ∧ (@Ne Nat I D) ∧ (@Ne Nat C D)) →
      wpAny (model prog w) A (isTrue ct (compEnvC scope cl C env) (eval ct (compEnvC scope cl C env))) (fun ok s' => if ok = true then
        wpAny (model prog w) A (eval elt (compEnvC scope cl C env)) (CompEnd h₀ L m { s with heap := h, toks := tk } I oI C oC D (lst ys) S (fun y news' => J (i + 1) (ys ++ [y]) news')) E' s'
        else CompEnd h₀ L m { s with heap := h, toks := tk } I oI C oC D (lst ys) S (fun _ news' => J (i + 1) ys news') Value.none s') E' { s with heap := h, toks := tk })
    (fin : ∀ ys news, J n ys news → Fin ys news) : ∀ (k i : Nat) (ys : List Value) (news : Led), i + k = n → J i ys news → CompRestT prog w A h₀ L m env ct elt x scope cl s S P Fin k i ys news
  | 0, i, ys, news, e, hj => fin ys news (by have : i = n := by omega
                                             subst this; exact hj)
  | k + 1, i, ys, news, e, hj => by
    refine CompRestT.succ fun v I oI C oC D m₂ h tk E' hP ho hx F N off ne => ?_
    refine wpAny_mono (step i ys news v I oI C oC D m₂ h tk E' (by (clear ne; omega)) hj hP ho hx F N off ne) (fun ok s' p => ?_) fun _ _ z => z
    cases ok with
    | false =>
      simp only [Bool.false_eq_true, if_false] at p ⊢
      exact compEnd_mono p fun n' r => compT_inv J step fin k (i + 1) ys n' (by (clear ne; omega)) r
    | true =>
      simp only [if_true] at p ⊢
      exact wpAny_mono p (fun y s'' r => compEnd_mono r fun n' r => compT_inv J step fin k (i + 1) _ n' (by (clear ne; omega)) r) fun _ _ z => z
/-- and of one without -/
theorem comp_inv {elt : Expr} {x : Str} {scope : Scope} {cl : List (Str × Addr)} {S : Led → Prop} {P : Nat → Value → Prop} {Fin : List Value → Led → Prop} (J : Nat → List Value → Led → Prop) {n : Nat}
    (step : ∀ i ys news v I oI C oC D m₂ h tk (E' : Value → Shared → Prop), i < n → J i ys news → P i v → NsObj oC m₂ → m₂ x = some v → Fr h₀ L h m → News h₀ L h ((I, oI) :: (C, oC) :: (D, lst ys) :: news) → Off3 I C D news → ((@Ne Nat I C) ∧ (@Ne Nat I D) ∧ (@Ne Nat C D)) →
      wpAny (model prog w) A (eval elt (compEnvC scope cl C env)) (CompEnd h₀ L m { s with heap := h, toks := tk } I oI C oC D (lst ys) S (fun y news' => J (i + 1) (ys ++ [y]) news')) E' { s with heap := h, toks := tk })
    (fin : ∀ ys news, J n ys news → Fin ys news) : ∀ (k i : Nat) (ys : List Value) (news : Led), i + k = n → J i ys news → CompRest prog w A h₀ L m env elt x scope cl s S P Fin k i ys news
  | 0, i, ys, news, e, hj => fin ys news (by have : i = n := by omega
                                             subst this; exact hj)
  | k + 1, i, ys, news, e, hj => by
    refine CompRest.succ fun v I oI C oC D m₂ h tk E' hP ho hx F N off ne => ?_
    exact wpAny_mono (step i ys news v I oI C oC D m₂ h tk E' (by (clear ne; omega)) hj hP ho hx F N off ne) (fun y s'' r => compEnd_mono r fun n' r => comp_inv J step fin k (i + 1) _ n' (by (clear ne; omega)) r) fun _ _ z => z
end

theorem mem_pre {M : Tm} {r : Rt} : ∀ {n : Nat} {p : Bits}, r ∈ pre M n p → ∃ q, r ∈ rsAt M q
  | 0, _, h => nomatch h
  | n + 1, p, h => by
    unfold pre at h
    cases hp : M p with
    | none => rw [hp] at h; cases h
    | some nd =>
      rw [hp] at h
      rcases List.mem_append.mp h with h | h
      · rcases List.mem_append.mp h with h | h
        · exact ⟨p, by rw [rsAt_some hp]; exact h⟩
        · exact mem_pre h
      · exact mem_pre h
theorem wf_pre {M : Tm} (W : Wf M) : ∀ (q p : Bits), (M (p ++ q)).isSome → (M p).isSome
  | [], p, h => by simpa using h
  | b :: q, p, h => W.closed p b (wf_pre W q (p ++ [b]) (by simpa using h))
theorem pre_below {M : Tm} (W : Wf M) {r : Rt} : ∀ (q p : Bits), r ∈ rsAt M (p ++ q) → r ∈ preF M p
  | [], p, h => by
    rw [List.append_nil] at h
    cases hp : M p with
    | none => unfold rsAt at h; rw [hp] at h; cases h
    | some nd => rw [preF_some W hp]; rw [rsAt_some hp] at h; exact List.mem_append_left _ (List.mem_append_left _ h)
  | b :: q, p, h => by
    have e : p ++ b :: q = (p ++ [b]) ++ q := by simp
    have h1 := pre_below W q (p ++ [b]) (e ▸ h)
    have hs : (M (p ++ b :: q)).isSome := by
      cases hp : M (p ++ b :: q) with
      | none => unfold rsAt at h; rw [hp] at h; cases h
      | some nd => rfl
    obtain ⟨nd, hnd⟩ := Option.isSome_iff_exists.mp (wf_pre W _ _ hs)
    rw [preF_some W hnd]
    cases b with
    | false => exact List.mem_append_left _ (List.mem_append_right _ h1)
    | true => exact List.mem_append_right _ h1

theorem pre_len {M : Tm} (W : Wf M) : ∀ (q p : Bits), (rsAt M (p ++ q)).length ≤ (preF M p).length
  | [], p => by
    rw [List.append_nil]
    cases hp : M p with
    | none => unfold rsAt; rw [hp]; exact Nat.zero_le _
    | some nd => rw [preF_some W hp, rsAt_some hp]; simp only [List.length_append]; omega
  | b :: q, p => by
    have e : p ++ b :: q = (p ++ [b]) ++ q := by simp
    have h1 := pre_len W q (p ++ [b])
    rw [e]
    cases hs : M ((p ++ [b]) ++ q) with
    | none => unfold rsAt; rw [hs]; exact Nat.zero_le _
    | some n =>
      obtain ⟨nd, hnd⟩ := Option.isSome_iff_exists.mp (wf_pre W (b :: q) p (by rw [e, hs]; rfl))
      rw [preF_some W hnd]
      simp only [List.length_append]
      cases b <;> omega
theorem take_filter {rs : List Rt} {i : Nat} {r : Rt} (h : rs[i]? = some r) (p : Rt → Bool) : (rs.take (i + 1)).filter p = (rs.take i).filter p ++ if p r then [r] else [] := by
  rw [List.take_succ, h]
  simp only [Option.toList_some, List.filter_append, List.filter_cons, List.filter_nil]
theorem off1_mem {D : Addr} : ∀ {l : Led}, LCg.Off1 D l → ∀ p : Addr × Obj, p ∈ l → p.1 ≠ D
  | [], _, _, h => nomatch h
  | a :: l, x, p, h => (List.mem_cons.mp h).elim (fun e => by rw [e]; exact x.1) fun h => off1_mem x.2 p h
theorem TrieIn.off {w : World} {n : Led} {M : Tm} {f : Addr} (T : TrieIn w n M) (h : Far M f) : TrieIn w (offL f n) M :=
  have k : ∀ q : Addr × Obj, q ∈ n → q.1 ≠ f → q ∈ offL f n := fun q hq hne => List.mem_filter.mpr ⟨hq, by simpa using hne⟩
  ⟨fun p nd hp => k _ (T.inst p nd hp) (h p nd hp).1.symm, fun p nd hp => k _ (T.dict p nd hp) (h p nd hp).2.1.symm, fun p nd hp => k _ (T.list p nd hp) (h p nd hp).2.2.1.symm,
    fun p nd hp r hr => ⟨⟨k _ (T.rts p nd hp r hr).1.1 ((h p nd hp).2.2.2 r hr).1.symm, k _ (T.rts p nd hp r hr).1.2 ((h p nd hp).2.2.2 r hr).2.symm⟩, (T.rts p nd hp r hr).2⟩⟩
theorem Far.sub {M M' : Tm} {f : Addr} (h : Far M f) (hs : ∀ p n, M' p = some n → M p = some n) : Far M' f := fun p n hp => h p n (hs p n hp)
theorem rsAt_mem {M : Tm} {q : Bits} {r : Rt} (h : r ∈ rsAt M q) : ∃ nd, M q = some nd ∧ r ∈ nd.rs := by
  unfold rsAt at h
  cases hq : M q with
  | none => rw [hq] at h; cases h
  | some nd => rw [hq] at h; exact ⟨nd, rfl, h⟩
theorem off_cell {h₀ h : Heap} {L c : Addr} {w : World} {M : Tm} {o : Obj} {news : Led} (N : News h₀ L h news) (T : TrieIn w news M) (hd : (c, o) ∈ news) (ht : tagO o = 2) : Off M c := fun p n hp =>
  ⟨ne_tag N hd (T.dict p n hp) (t := 2) (t' := 13) ht rfl (by decide), ne_tag N hd (T.list p n hp) (t := 2) (t' := 1) ht rfl (by decide)⟩

set_option maxRecDepth 100000 in
set_option maxHeartbeats 2000000 in
theorem spec_remove_face (prog : Program) (w : World) (x td b0 : Addr) (M : Tm) (many face : Int) (tf : Tok) (news : Led) (TB : Tab w news x td b0 M many) (hkey : ∀ q r, r ∈ rsAt M q → q = bitsOf r.n r.p.toNat ∧ 0 ≤ r.p ∧ r.p ≤ 32) (hz : (preF M []).length ≤ 1000) :
    Spec prog w 227 10 80 [.ref x, .int face tf] news (fun news v news' => ∃ M' t, v = .int (((preF M []).filter fun r => decide (r.f = face)).length : Nat) t ∧ Tab w news' x td b0 M' (many - (((preF M []).filter fun r => decide (r.f = face)).length : Nat)) ∧ Kept news td M news' M' ∧ ∀ q, rsAt M' q = (rsAt M q).filter fun r => !decide (r.f = face)) := by
  intro p loose mean mg mb dp un gd cn cs a ccd cl outer A₀ base h₀ L m s Q E B F X N T hk hd hu hret
  obtain mk_F16_1 : True := trivial
  refine hide ?_
  intro GG0 hGG0
  obtain ⟨hin, ⟨t0, t1, tm, hdt⟩, TI, W, hb0⟩ := TB
  obtain hofx := off_x N TI hin
  obtain hoft := (far_td N TI hdt).off
  refine hGG0 ?_
  (try clear hGG0 GG0)
  k_with "loop" => (guard_hyp mk_F16_1; (refine Stop.go ?_))
  k_with "comp" => (guard_hyp mk_F16_1; (refine Stop.go ?_))
  k_with "compend" => (guard_hyp mk_F16_1; (refine Stop.go ?_))
  k_with "spec" => (guard_hyp mk_F16_1; first | exact spec_rows _ _ _ _ _ _ _ _ _ _ (by k_mem) (by k_mem) (TI.mono (fun q hq => .tail _ hq)) W hb0 hz)
  k_with "post" => (guard_hyp mk_F16_1; (rename_i n9 h9 tk9 F9 N9 P9; obtain ⟨f9, c9, rfl, hf9, hs9, hl9⟩ := P9))
  walk_at "m_enterC"
  k_steps
  all_goals (try dsimp only [List.append_nil])
  rename _ = Data.cell _ => d9
  replace d9 := d9.trans (show _ = Data.cell (some (.int face tf)) from rfl)
  rename Obj => o8
  obtain hcell := hs9 _ (.head _)
  obtain hsn : Sub news n9 := fun q hq => hs9 q (.tail _ hq)
  obtain hoc : Off M _ := off_cell N9 (TI.mono hsn) hcell (by rw [tagO, d9])
  obtain hfarf : Far M f9 := far_of TI fun q hq => allLt_ne hl9 q (.tail _ hq)
  refine iter_ledN (l := f9) (items := rtVals (preF M [])) (c := c9) ["path"] ["many"] [_] (fun i vs n => ∃ M' t, vs = [.int ((((preF M []).take i).filter fun r => decide (r.f = face)).length : Nat) t] ∧ TrieIn w n M' ∧ Wf M' ∧ bA M' [] = some b0 ∧ Keeps n9 M n M' ∧ (∀ q, rsAt M' q = rsAt M q ∨ rsAt M' q = (rsAt M q).filter fun r => !decide (r.f = face)) ∧
      ∀ j < i, ∀ r, (preF M [])[j]? = some r → r.f = face → rsAt M' (bitsOf r.n r.p.toNat) = (rsAt M (bitsOf r.n r.p.toNat)).filter fun r => !decide (r.f = face)) (by exact rfl) (by k_asm) (by k_asm) hf9 (setL_one (by exact rfl)) ?hj ?hJl ?turn ?done
  case hj => exact ⟨M, _, rfl, TI.mono hsn, W, hb0, fun q hq ho => ⟨hq, ho⟩, fun q => .inl rfl, fun j hj => absurd hj (Nat.not_lt_zero _)⟩
  case hJl =>
    rintro i vs n ⟨M', t, _, _, _, _, K, _⟩
    exact (K _ hf9 hfarf.off).1
  case turn =>
    intro i9 v9 vs9 u9 led9 h8 tk8 I9 oI9 hv9 hp9 hI9 hlt9 F8 N8
    refine hide ?_
    intro GG0 hGG0
    obtain ⟨M8, t8, rfl, T9, W9, hb9, K9, hq9, hd9⟩ := hp9
    obtain ⟨r9, hr9, rfl⟩ := rtVals_get hv9
    obtain ⟨q9, hrq9⟩ := mem_pre (List.mem_of_getElem? hr9)
    obtain ⟨rfl, hp0, hp1⟩ := hkey _ _ hrq9
    obtain ⟨nq9, hnq9, hrn9⟩ := rsAt_mem hrq9
    obtain ⟨⟨hrx0, hrd0⟩, hro1, hro2⟩ := TI.rts _ _ hnq9 r9 hrn9
    obtain ⟨hrx9, hrx1⟩ := K9 _ (hsn _ hrx0) hro1
    obtain ⟨hrd9, hrd1⟩ := K9 _ (hsn _ hrd0) hro2
    obtain ⟨hin9, hin1⟩ := K9 _ (hsn _ hin) hofx
    obtain ⟨hdt9, hdt1⟩ := K9 _ (hsn _ hdt) hoft
    obtain ⟨hce9, hce1⟩ := K9 _ hcell hoc
    refine hGG0 ?_
    (try clear hGG0 GG0)
    k_fold
    k_with "spec" => (guard_hyp mk_F16_1; exact spec_path0 _ _ _ _ _ _ _ _ _ _ _ _ _ _ (by k_mem) (by k_mem) (T9.mono (fun q hq => .tail _ hq)) W9 hb9 (by walk_at "m_om") (by walk_at "m_om"))
    k_with "post" => (guard_hyp mk_F16_1; (subst he9; rename_i n7 h7 tk7 F7 N7 P7; obtain ⟨f7, c7, k7, rfl, hf7, hs7, hl7, hk7, hbb7, hn7⟩ := P7; obtain ⟨nd7, hnd7⟩ := bA_some hbb7; obtain hx7 : (pathRefs M8 r9.n k7).getLast? = some (.ref nd7.b) := (by rw [pathRefs_last]; unfold bA; rw [hnd7]; rfl); obtain hin7 := hs7 _ (.tail _ (T9.inst _ _ hnd7)); obtain hdn7 := hs7 _ (.tail _ (T9.dict _ _ hnd7)); obtain hls7 := hs7 _ (.tail _ (T9.list _ _ hnd7))))
    k_with "item" => (guard_hyp mk_F16_1; skip)
    k_with "size" => (guard_hyp mk_F16_1; (rw [pathRefs_length]; omega))
    k_steps
    · obtain hz7 : nd7.rs.length ≤ 1000 := by
        have h1 := pre_len W (bitsOf r9.n k7) []
        rw [List.nil_append] at h1
        rw [← rsAt_some hnd7]
        rcases hq9 (bitsOf r9.n k7) with e | e
        · rw [e]; (clear hd hk7 hn7 hp0 hp1 hu; omega)
        · rw [e]; have := List.length_filter_le (fun r : Rt => !decide (r.f = face)) (rsAt M (bitsOf r9.n k7)); (clear hd hk7 hn7 hp0 hp1 hu; omega)
      refine LCt.CompSrcT.ledger (ax := nd7.l) (its := (rtVals nd7.rs).toArray) (k := nd7.c) (by exact rfl) (by k_asm) (by k_asm) hls7 (by rw [PySem.sizeLine_eq]; simp only [List.size_toArray, List.length_map]; (clear hd hk7 hn7 hp0 hp1 hu hz; omega)) fun g8 => ?_
      refine compT_inv (fun i ys n => n = n7 ∧ ys = rtVals ((nd7.rs.take i).filter fun r => !decide (r.f = face))) (n := nd7.rs.length) ?step ?fin _ 0 [] n7 (by simp) ⟨rfl, rfl⟩
      case step =>
        intro i8 ys8 n8 v8 I8 oI8 C8 oC8 D8 m8 hh8 tk8' E8 hi8 hj8 hP8 ho8 hx8 F8 N8 off8 ne8
        refine hide ?_
        intro GG0 hGG0
        obtain ⟨rfl, rfl⟩ := hj8
        obtain ⟨r8, hr8, rfl⟩ := rtVals_get (by simpa using hP8)
        obtain ⟨hr8x, hr8d⟩ := (T9.rts _ _ hnd7 r8 (List.mem_of_getElem? hr8)).1
        obtain hr8x := hs7 _ (.tail _ hr8x)
        obtain hr8d := hs7 _ (.tail _ hr8d)
        obtain hce7 := hs7 _ (.tail _ hce9)
        refine hGG0 ?_
        (try clear hGG0 GG0)
        k_fold
        k_steps
        · refine LCg.CompEnd.intro (by k_asm) (by k_asm) n8 (fun p hp => hp) off8 (.inr ⟨_, hls7, rfl, _, rfl⟩) ⟨rfl, ?_⟩
          have hne : r8.f ≠ face := by assumption
          rw [take_filter hr8, rtVals_append, if_pos (by simp [hne])]
          rfl
        · refine LCg.CompEnd.intro (by k_asm) (by k_asm) n8 (fun p hp => hp) off8 (.inr ⟨_, hls7, rfl, _, rfl⟩) ⟨rfl, ?_⟩
          have hne : r8.f = face := by first | assumption | exact Decidable.not_not.mp (by assumption)
          rw [take_filter hr8, if_neg (by simp [hne]), List.append_nil]
      case fin =>
        rintro ys8 n8 ⟨rfl, rfl⟩ D8 h8 tk8 F8 N8 o8'
        rw [List.take_length] at N8
        (try dsimp only)
        (try k_fold)
        refine hide ?_
        intro GG0 hGG0
        obtain hD8 := off1_mem o8'
        obtain ⟨g1, g2, g3, g4, g5⟩ := reset (news' := updL nd7.d (brD w nd7.t0 nd7.t1 nd7.t2 (vr (bA M8 (bitsOf r9.n k7 ++ [false]))) (vr (bA M8 (bitsOf r9.n k7 ++ [true]))) (.ref D8)) ((D8, LCg.lst (rtVals (nd7.rs.filter fun r => !decide (r.f = face)))) :: n8)) (n' := ⟨nd7.b, nd7.d, D8, nd7.t0, nd7.t1, nd7.t2, (rtVals (nd7.rs.filter fun r => !decide (r.f = face))).length, nd7.rs.filter fun r => !decide (r.f = face)⟩) (T9.mono fun q hq => hs7 _ (.tail _ hq)) W9 hnd7 rfl rfl (.inr fun q hq => hD8 q hq)
          (mem_updL_self (.tail _ hdn7)) (mem_updL_ne (.head _) (fun e => hD8 _ hdn7 e.symm)) (fun r hr => (T9.mono fun q hq => hs7 _ (.tail _ hq)).rts _ _ hnd7 r (List.mem_filter.mp hr).1) (fun q hq h1 _ => mem_updL_ne (.tail _ hq) h1)
        obtain hfar7 : Far M8 f7 := far_of T9 fun q hq => allLt_ne hl7 q (.tail _ hq)
        obtain hfd7 : nd7.d ≠ f7 := allLt_ne hl7 _ (.tail _ (T9.dict _ _ hnd7))
        obtain hoff7 := (hfar7.setAt (p := bitsOf r9.n k7) (nd := ⟨nd7.b, nd7.d, D8, nd7.t0, nd7.t1, nd7.t2, (rtVals (nd7.rs.filter fun r => !decide (r.f = face))).length, nd7.rs.filter fun r => !decide (r.f = face)⟩) (hfar7 _ _ hnd7).1 (hfar7 _ _ hnd7).2.1 (hD8 _ hf7) (fun r hr => (hfar7 _ _ hnd7).2.2.2 r (List.mem_filter.mp hr).1)).off
        k_with "spec" => (guard_hyp mk_F16_1; exact spec_prune _ _ _ _ b0 f7 c7 k7 _ _ _ (by rw [pathRefs_congr (fun j _ => g5 _)]; exact mem_updL_ne (.tail _ hf7) hfd7.symm) hoff7 g1 g2 ((g5 _).trans hb9) (by walk_at "m_om") (fun j hj => by rw [g5]; exact some_above W9 hbb7 j hj))
        k_with "post" => (guard_hyp mk_F16_1; (subst he9; rename_i n6 h6 tk6 F6 N6 P6; obtain ⟨rfl, M6, hm6, hs6⟩ := P6))
        k_with "updl" => (guard_hyp mk_F16_1; skip)
        obtain hin6 := hs7 _ (.tail _ hin9)
        obtain hxd7 : x ≠ nd7.d := (hin1 _ _ hnd7).1
        obtain hdt6 := hs7 _ (.tail _ hdt9)
        obtain htd7 : td ≠ nd7.d := (hdt1 _ _ hnd7).1
        obtain hrx7 := hs7 _ (.tail _ hrx9)
        obtain hrd7 := hs7 _ (.tail _ hrd9)
        obtain hrxn7 : r9.x ≠ nd7.d := (hrx1 _ _ hnd7).1
        obtain hrdn7 : r9.d ≠ nd7.d := (hrd1 _ _ hnd7).1
        refine hGG0 ?_
        (try clear hGG0 GG0)
        k_steps
        obtain hfarI : Far M8 I9 := far_of T9 hI9
        obtain hfarI1 := hfarI.setAt (p := bitsOf r9.n k7) (nd := ⟨nd7.b, nd7.d, D8, nd7.t0, nd7.t1, nd7.t2, (rtVals (nd7.rs.filter fun r => !decide (r.f = face))).length, nd7.rs.filter fun r => !decide (r.f = face)⟩) (hfarI _ _ hnd7).1 (hfarI _ _ hnd7).2.1 (hD8 _ (hs7 _ (.head _))) (fun r hr => (hfarI _ _ hnd7).2.2.2 r (List.mem_filter.mp hr).1)
        refine' NamEnd.introM (offL I9 n6) (by k_asm) (by k_asm) ?hI (fun p hp => (List.mem_filter.mp hp).1) offL_ne ?m1 ?m2 ?P
        case m1 => walk_at "m_off"
        case m2 => walk_at "m_on"
        case' P => refine' ⟨M6, ?tk, vs1 ?hv, hm6.T.off (hfarI1.sub hs6), hm6.W, hm6.root, ?hK, ?hq, ?hd⟩
        case hI => exact (hm6.keeps _ (mem_updL_ne (.tail _ (hs7 _ (.head _))) (hfarI _ _ hnd7).2.1) hfarI1.off).1
        case hv =>
          have hfe : r9.f = face := by assumption
          rw [take_filter hr9, if_pos (by simp [hfe])]
          simp only [List.length_append, List.length_cons, List.length_nil]
          (clear hd hfd7 hfe hk7 hn7 hp0 hp1 hrdn7 hrxn7 htd7 hu hxd7 hz hz7; omega)
        case hK =>
          intro q hq ho
          refine hide ?_
          intro GG0 hGG0
          obtain ⟨a1, a2⟩ := K9 q hq ho
          obtain ⟨b1, b2⟩ := g3 q (hs7 _ (.tail _ a1)) a2
          obtain ⟨c1, c2⟩ := hm6.keeps q b1 b2
          refine hGG0 ?_
          (try clear hGG0 GG0)
          exact ⟨List.mem_filter.mpr ⟨c1, by simpa using hI9 q a1⟩, c2⟩
        case hq =>
          intro q
          rw [hm6.rs, g4]
          split
          · next e =>
            right
            rw [e]
            have h0 := rsAt_some hnd7
            rcases hq9 (bitsOf r9.n k7) with h | h
            · rw [← h, h0]
            · rw [← h0, h, List.filter_filter]; simp only [Bool.and_self]
          · exact hq9 q
        case hd =>
          intro j hj r hr hf
          rw [hm6.rs, g4]
          split
          · next e =>
            have h0 := rsAt_some hnd7
            rw [e]
            rcases hq9 (bitsOf r9.n k7) with h | h
            · rw [← h, h0]
            · rw [← h0, h, List.filter_filter]; simp only [Bool.and_self]
          · next e =>
            by_cases hji : j = i9
            · subst hji
              rw [hr9] at hr
              obtain rfl := Option.some.inj hr
              have hk : (k7 : Int) < r9.p := by
                rcases Int.lt_or_le (k7 : Int) r9.p with h | h
                · exact h
                · exact absurd (by rw [show k7 = r9.p.toNat by (clear e hd hf hfd7 hj hn7 hp0 hp1 hrdn7 hrxn7 htd7 hu hxd7 hz hz7; omega)]) e
              have h0 := rsAt_below W9 (hn7 hk) (show k7 < r9.p.toNat by (clear e hd hf hfd7 hj hk7 hn7 hp0 hp1 hrdn7 hrxn7 htd7 hu hxd7 hz hz7; omega))
              rcases hq9 (bitsOf r9.n r9.p.toNat) with h | h
              · rw [h] at h0; rw [h, h0]; rfl
              · exact h
            · exact hd9 j (by (clear e hd hf hfd7 hk7 hn7 hp0 hp1 hrdn7 hrxn7 htd7 hu hxd7 hz hz7; omega)) r hr hf
    · have hfe : ¬ r9.f = face := by assumption
      refine' NamEnd.introM led9 (by k_asm) (by k_asm) (.head _) (fun p hp => .tail _ hp) hI9 ?m3 ?m4 ?P2
      case m3 => walk_at "m_off"
      case m4 => walk_at "m_on"
      case' P2 => refine' ⟨M8, ?tk2, vs1 ?hv2, T9, W9, hb9, K9, hq9, ?hd2⟩
      case hv2 => rw [take_filter hr9, if_neg (by simp [hfe]), List.append_nil]
      case hd2 =>
        intro j hj r hr hf
        by_cases hji : j = i9
        · subst hji
          rw [hr9] at hr
          obtain rfl := Option.some.inj hr
          exact absurd hf hfe
        · exact hd9 j (by (clear hd hf hfe hp0 hp1 hu hz; omega)) r hr hf
  case done =>
    intro u9 vs9 led9 h8 tk8 hp9 F8 N8
    refine hide ?_
    intro GG0 hGG0
    obtain ⟨M8, t8, rfl, T9, W9, hb9, K9, hq9, hd9⟩ := hp9
    rw [show (rtVals (preF M [])).length = (preF M []).length from List.length_map _, List.take_length] at F8
    refine hGG0 ?_
    (try clear hGG0 GG0)
    (try dsimp only)
    (try k_fold)
    refine hide ?_
    intro GG0 hGG0
    obtain ⟨hin9, hin1⟩ := K9 _ (hsn _ hin) hofx
    obtain ⟨hdt9, hdt1⟩ := K9 _ (hsn _ hdt) hoft
    obtain hfar8 := far_td N8 T9 hdt9
    refine hGG0 ?_
    (try clear hGG0 GG0)
    k_with "updl" => (guard_hyp mk_F16_1; skip)
    k_steps
    refine hret _ _ _ _ (by k_asm) (by k_asm) ⟨M8, _, rfl, ⟨mem_updL_ne hin9 (x_td N hin hdt), ⟨_, _, _, mem_updL_self hdt9⟩, T9.updFar hfar8, W9, hb9⟩, fun q hq ho hne => ?_, fun q => ?_⟩
    · obtain ⟨a1, a2⟩ := K9 q (hsn _ hq) ho
      exact ⟨mem_updL_ne a1 hne, a2⟩
    · by_cases hall : ∀ r ∈ rsAt M q, r.f ≠ face
      · have e : (rsAt M q).filter (fun r => !decide (r.f = face)) = rsAt M q := List.filter_eq_self.mpr fun r hr => by simp [hall r hr]
        rcases hq9 q with h | h
        · rw [h, e]
        · exact h
      · obtain ⟨r, hr, hf⟩ : ∃ r, r ∈ rsAt M q ∧ r.f = face := Classical.byContradiction fun hn => hall fun r hr hf => hn ⟨r, hr, hf⟩
        refine hide ?_
        intro GG0 hGG0
        obtain ⟨rfl, _, _⟩ := hkey q r hr
        have hm := pre_below W _ [] (by rw [List.nil_append]; exact hr)
        obtain ⟨j, hj, hjr⟩ := List.mem_iff_getElem.mp hm
        refine hGG0 ?_
        (try clear hGG0 GG0)
        exact hd9 j (by rw [List.length_map]; exact hj) r (by rw [List.getElem?_eq_getElem hj, hjr]) hf

theorem rows_OWN_F17_6 : True := by
  k_with  "subscriptTail" => (k_here; k_extra "item2"; k_dflt (refine item_at (by k_asm) (by k_mem) (by walk_at "m_om") (by walk_at "m_om") (by exact rfl) ?_; k_whole))
  k_with  "binaryOp FloorDiv int int" => (k_here; k_extra "fdivU"; k_dflt (refine floordiv_int (by omega) ?_ (Or.inl (PyProof.noPylong_of_log2 (log2_top (by omega) (by omega))))))
  trivial

theorem log2_top {y : Int} (h0 : 0 < y) (h1 : y ≤ 4294967296) : y.natAbs.log2 < 9000 := by
  have h2 : y.natAbs < 2 ^ 33 := by omega
  have h3 := (Nat.log2_lt (show y.natAbs ≠ 0 by (clear h1 h2; omega))).mpr h2
  (clear h0 h1 h2; omega)
theorem ediv_le {a b : Int} (ha : 0 ≤ a) (hb : 0 < b) : 0 ≤ a.fdiv b := by rw [Int.fdiv_eq_ediv_of_nonneg _ (Int.le_of_lt hb)]; exact Int.ediv_nonneg ha (Int.le_of_lt hb)

set_option maxRecDepth 100000 in
set_option maxHeartbeats 2000000 in
theorem spec_law_take (prog : Program) (w : World) (so : Addr) (u0 u1 : Int) (ta tb : Tok) (c : Nat) (top : Int) (tt : Tok) (news : Led) (h1 : (so, listOf #[.int u0 ta, .int u1 tb] c) ∈ news) (ha : 0 ≤ u0) (hb0 : 0 ≤ u1) (hb1 : u1 < 2147483647) (ht : 0 < top) (ht1 : top ≤ 4294967296) :
    Spec prog w 269 2 16 [.ref so, .int top tt] news (fun news v news' => ∃ fig t a' b' ta' tb' c', v = .int fig t ∧ 0 ≤ fig ∧ fig < top ∧ news' = updL so (listOf #[.int a' ta', .int b' tb'] c') news ∧ 0 ≤ a' ∧ 0 ≤ b' ∧ b' < 2147483647) := by
  intro p loose mean mg mb dp un gd cn cs a ccd cl outer A₀ base h₀ L m s Q E B F X N T hk hd hu hret
  obtain mk_F17_1 : True := trivial
  k_with "item2" => (guard_hyp mk_F17_1; skip)
  k_with "setU" => (guard_hyp mk_F17_1; skip)
  k_with "fdivU" => (guard_hyp mk_F17_1; skip)
  k_with "size" => (guard_hyp mk_F17_1; (simp only [List.length_cons, List.length_nil]; omega))
  walk_at "m_enter"
  k_steps
  · refine hret _ _ _ _ (by k_asm) (by k_asm) ⟨_, _, _, _, _, _, _, rfl, ?_, ?_, rfl, ?_, hb0, hb1⟩
    · exact Int.fmod_nonneg_of_pos _ ht
    · exact Int.fmod_lt_of_pos _ ht
    · exact ediv_le ha ht
  · refine hret _ _ _ _ (by k_asm) (by k_asm) ⟨_, _, _, _, _, _, _, rfl, ?_, ?_, rfl, ha, ?_, ?_⟩
    · exact Int.fmod_nonneg_of_pos _ ht
    · exact Int.fmod_lt_of_pos _ ht
    · exact Int.fmod_nonneg_of_pos _ (by decide)
    · exact Int.fmod_lt_of_pos _ (by decide)

theorem Spec.mono {prog : Program} {w : World} {f : Addr} {D U : Nat} {vs : List Value} {news : Led} {Φ Ψ : Led → Value → Led → Prop} (S : Spec prog w f D U vs news Φ) (h : ∀ v n, Φ news v n → Ψ news v n) : Spec prog w f D U vs news Ψ :=
  fun p loose mean mg mb dp un gd cn cs a ccd cl outer A₀ base h₀ L m s Q E B F X N T hk hd hu hret =>
    S p loose mean mg mb dp un gd cn cs a ccd cl outer A₀ base h₀ L m s Q E B F X N T hk hd hu fun v n h' tk F' N' P => hret v n h' tk F' N' (h v n P)
/-- the drawn source: two ints within their bounds -/
noncomputable def SrcO (o : Obj) : Prop := ∃ a b ta tb c, o = listOf #[.int a ta, .int b tb] c ∧ 0 ≤ a ∧ 0 ≤ b ∧ b < 2147483647
theorem spec_take (prog : Program) (w : World) (so : Addr) (o : Obj) (top : Int) (tt : Tok) (news : Led) (h1 : (so, o) ∈ news) (ho : SrcO o) (ht : 0 < top) (ht1 : top ≤ 4294967296) :
    Spec prog w 269 2 16 [.ref so, .int top tt] news (fun news v news' => ∃ fig t o', v = .int fig t ∧ 0 ≤ fig ∧ fig < top ∧ news' = updL so o' news ∧ SrcO o') := by
  obtain ⟨a, b, ta, tb, c, rfl, h2, h3, h4⟩ := ho
  refine (spec_law_take prog w so a b ta tb c top tt news h1 h2 h3 h4 ht ht1).mono ?_
  rintro v n ⟨fig, t, a', b', ta', tb', c', e, f0, f1, hn, g1, g2, g3⟩
  exact ⟨fig, t, _, e, f0, f1, hn, a', b', ta', tb', c', rfl, g1, g2, g3⟩

set_option maxRecDepth 100000 in
set_option maxHeartbeats 2000000 in
theorem spec_one (prog : Program) (w : World) (so : Addr) (o : Obj) (l : Addr) (xs : List Value) (c : Nat) (news : Led) (h1 : (so, o) ∈ news) (ho : SrcO o) (h2 : (l, listOf xs.toArray c) ∈ news) (hne : l ≠ so) (hx0 : 0 < xs.length) (hx1 : xs.length ≤ 1000) :
    Spec prog w 276 4 32 [.ref so, .ref l] news (fun news v news' => ∃ (i : Nat) (o' : Obj), xs[i]? = some v ∧ news' = updL so o' news ∧ SrcO o') := by
  intro p loose mean mg mb dp un gd cn cs a ccd cl outer A₀ base h₀ L m s Q E B F X N T hk hd hu hret
  obtain mk_F18_1 : True := trivial
  k_with "lenU" => (guard_hyp mk_F18_1; skip)
  k_with "len" => (guard_hyp mk_F18_1; exact rfl)
  k_with "size" => (guard_hyp mk_F18_1; omega)
  k_with "item" => (guard_hyp mk_F18_1; skip)
  k_with "spec" => (guard_hyp mk_F18_1; exact spec_take _ _ _ _ _ _ _ (by k_mem) ho (by walk_at "m_om") (by walk_at "m_om"))
  k_with "post" => (guard_hyp mk_F18_1; (subst he9; rename_i P9; obtain ⟨fig, t9, o9, rfl, hf0, hf1, rfl, ho9⟩ := P9; obtain ⟨x9, hx9⟩ : ∃ x, xs[fig.toNat]? = some x := ⟨xs[fig.toNat]'(by walk_at "m_om"), List.getElem?_eq_getElem _⟩))
  walk_at "m_enter"
  k_steps
  all_goals exact hret _ _ _ _ (by k_asm) (by k_asm) ⟨_, _, hx9, rfl, ho9⟩
theorem spec_oneI (prog : Program) (w : World) (so : Addr) (o : Obj) (l : Addr) (xs : List Value) (c : Nat) (lo hi : Int) (news : Led) (h1 : (so, o) ∈ news) (ho : SrcO o) (h2 : (l, listOf xs.toArray c) ∈ news) (hne : l ≠ so) (hx0 : 0 < xs.length) (hx1 : xs.length ≤ 1000)
    (hP : ∀ x ∈ xs, ∃ y t, x = .int y t ∧ lo ≤ y ∧ y ≤ hi) : Spec prog w 276 4 32 [.ref so, .ref l] news (fun news v news' => ∃ y t o', v = .int y t ∧ lo ≤ y ∧ y ≤ hi ∧ news' = updL so o' news ∧ SrcO o') := by
  refine (spec_one prog w so o l xs c news h1 ho h2 hne hx0 hx1).mono ?_
  rintro v n ⟨i, o', hx, hn, ho'⟩
  obtain ⟨y, t, e, h3, h4⟩ := hP v (List.mem_of_getElem? hx)
  exact ⟨y, t, o', e, h3, h4, hn, ho'⟩
theorem ne_all {news : Led} {l so : Addr} {o : Obj} (h : AllLt l news) (hm : (so, o) ∈ news) : l ≠ so := fun e => absurd (allLt_mem h _ hm) (by rw [e]; exact Nat.lt_irrefl _)
theorem ne_lt {news : Led} {l so : Addr} {o : Obj} (h : ∀ p ∈ news, p.1 < l) (hm : (so, o) ∈ news) : l ≠ so := fun e => absurd (h _ hm) (by rw [e]; exact Nat.lt_irrefl _)

section
variable {prog : Program} {w : World} {A : Around} {E : Value → Shared → Prop} {s : Shared} {a b c : Int} {t u : Tok} {Q : Value → Shared → Prop}
theorem bits64 {x : Int} (h0 : -9223372036854775808 ≤ x) (h1 : x ≤ 9223372036854775808) : Builtin.Int.intBits x ≤ 64 := PySem.intBits_le_iff.mpr (by omega)
theorem mul_left (h0 : -9223372036854775808 ≤ a) (h1 : a ≤ 9223372036854775808) (h : Q (.int (a * b) s.toks) { s with toks := s.toks + 1 }) : wpAny (model prog w) A (binaryOp .Mult (.int a t) (.int b u)) Q E s :=
  mul_int h (IntMulOk.of_left (bits64 h0 h1))
theorem mul_right (h0 : -9223372036854775808 ≤ b) (h1 : b ≤ 9223372036854775808) (h : Q (.int (a * b) s.toks) { s with toks := s.toks + 1 }) : wpAny (model prog w) A (binaryOp .Mult (.int a t) (.int b u)) Q E s :=
  mul_int h (IntMulOk.of_right (bits64 h0 h1))
theorem pow_lit (h0 : 0 ≤ b) (h1 : b ≤ 1000000) (h2 : a.natAbs < 2 ^ 64) (e : a ^ b.toNat = c) (h : Q (.int c s.toks) { s with toks := s.toks + 1 }) : wpAny (model prog w) A (binaryOp .Pow (.int a t) (.int b u)) Q E s :=
  pow_int_small h0 h1 h2 (e ▸ h)
end
theorem sub_mod {a b : Int} (h0 : 0 ≤ a) (hb : 0 < b) : 0 ≤ a - a.fmod b ∧ a - a.fmod b ≤ a := by
  have h1 := Int.fmod_nonneg_of_pos a hb
  rw [Int.fmod_eq_emod_of_nonneg _ (Int.le_of_lt hb)] at *
  have h2 := Int.mul_ediv_add_emod a b
  have h3 : 0 ≤ b * (a / b) := Int.mul_nonneg (Int.le_of_lt hb) (Int.ediv_nonneg h0 (Int.le_of_lt hb))
  (clear h0 hb; omega)
theorem sub_lo {a p : Int} (h0 : 0 ≤ a) : -1 ≤ a - a.fmod (2 ^ p.toNat) := Int.le_trans (by decide) (sub_mod h0 (pw_pos p)).1
theorem sub_hi {a p : Int} (h0 : 0 ≤ a) (h1 : a ≤ 4294967295) : a - a.fmod (2 ^ p.toNat) ≤ 4294967296 := Int.le_trans (sub_mod h0 (pw_pos p)).2 (by (clear h0; omega))

theorem rows_NUMS_F19 : True := by
  k_with  "m_ints" => (repeat' (first | exact List.forall_mem_nil _ | refine List.forall_mem_cons.mpr ⟨⟨_, _, rfl, by walk_at "m_om", by walk_at "m_om"⟩, ?_⟩))
  k_with  "m_kept" => (intro p9 hp9 hne9; walk_at "m_mem")
  k_with  "binaryOp Mult int int" => (k_here; k_extra "mulU"; k_dflt (first | (refine mul_left (by walk_at "m_om") (by walk_at "m_om") ?_; k_whole) | (refine mul_right (by walk_at "m_om") (by walk_at "m_om") ?_; k_whole)))
  k_with  "binaryOp Pow int int" => (k_here; k_extra "powU"; k_dflt (refine pow_lit (by walk_at "m_om") (by walk_at "m_om") (by decide) (by ((try simp only [Int.reduceToNat, Int.reducePow]); first | done | rfl)) ?_; k_whole); (try dsimp only))
  trivial

set_option maxRecDepth 100000 in
set_option maxHeartbeats 2000000 in
theorem spec_law_net (prog : Program) (w : World) (so : Addr) (o : Obj) (news : Led) (h1 : (so, o) ∈ news) (ho : SrcO o) :
    Spec prog w 297 8 64 [.ref so] news (fun news v news' => ∃ x y tx ty q o', v = .ref q ∧ (q, seqObj "tuple" #[.int x tx, .int y ty] 0) ∈ news' ∧ -1 ≤ x ∧ x ≤ 4294967296 ∧ -1 ≤ y ∧ y ≤ 33 ∧ SrcO o' ∧ (so, o') ∈ news' ∧ ∀ p ∈ news, p.1 ≠ so → p ∈ news') := by
  intro p loose mean mg mb dp un gd cn cs a ccd cl outer A₀ base h₀ L m s Q E B F X N T hk hd hu hret
  obtain mk_F19_1 : True := trivial
  k_with "spec" => (guard_hyp mk_F19_1; first | exact spec_oneI _ _ _ _ _ _ _ (-1) 33 _ (by k_mem) (by assumption) (by k_mem) (by first | exact ne_lt (by assumption) (by k_mem) | exact ne_all (by assumption) (by k_mem)) (by exact Nat.succ_pos _) (by exact Nat.le_of_ble_eq_true rfl) (by walk_at "m_ints") | exact spec_oneI _ _ _ _ _ _ _ 0 4294967295 _ (by k_mem) (by assumption) (by k_mem) (by first | exact ne_lt (by assumption) (by k_mem) | exact ne_all (by assumption) (by k_mem)) (by exact Nat.succ_pos _) (by exact Nat.le_of_ble_eq_true rfl) (by walk_at "m_ints") | exact spec_oneI _ _ _ _ _ _ _ (-1) 4294967296 _ (by k_mem) (by assumption) (by k_mem) (by first | exact ne_lt (by assumption) (by k_mem) | exact ne_all (by assumption) (by k_mem)) (by exact Nat.succ_pos _) (by exact Nat.le_of_ble_eq_true rfl) (by walk_at "m_ints") | exact spec_take _ _ _ _ _ _ _ (by k_mem) (by assumption) (by walk_at "m_om") (by walk_at "m_om") | exact spec_law_all _ _ _)
  k_with "mulU" => (guard_hyp mk_F19_1; skip)
  k_with "powU" => (guard_hyp mk_F19_1; skip)
  k_with "post" => (guard_hyp mk_F19_1; (rename_i P9; first | (obtain ⟨y9, t9, o9, rfl, hy0, hy1, rfl, ho9⟩ := P9; obtain st9 := Stopped.mk) | (obtain ⟨rfl, t9, rfl⟩ := P9)))
  walk_at "m_enter"
  k_steps
  all_goals (change wpAny _ _ _ _ _ _)
  k_with "spec" => (guard_hyp mk_F19_1; first | exact spec_law_all _ _ _ | exact spec_take _ _ _ _ _ _ _ (by k_mem) (by assumption) (by walk_at "m_om") (by walk_at "m_om"))
  k_with "post" => (guard_hyp mk_F19_1; (rename_i P9; first | (obtain ⟨rfl, t9, rfl⟩ := P9) | (obtain ⟨fig, t9, o9, rfl, hy0, hy1, rfl, ho9⟩ := P9; obtain st9 := Stopped.mk)))
  k_steps
  all_goals (change wpAny _ _ _ _ _ _)
  k_with "spec" => (guard_hyp mk_F19_1; exact spec_oneI _ _ _ _ _ _ _ 0 4294967295 _ (by k_mem) (by assumption) (by k_mem) (by first | exact ne_lt (by assumption) (by k_mem) | exact ne_all (by assumption) (by k_mem)) (by exact Nat.succ_pos _) (by exact Nat.le_of_ble_eq_true rfl) (by walk_at "m_ints"))
  k_with "post" => (guard_hyp mk_F19_1; (rename_i P9; obtain ⟨y9, t9, o9, rfl, hy0, hy1, rfl, ho9⟩ := P9; obtain st9 := Stopped.mk))
  k_steps
  all_goals (change wpAny _ _ _ _ _ _)
  k_with "spec" => (guard_hyp mk_F19_1; first | exact spec_take _ _ _ _ _ _ _ (by k_mem) (by assumption) (by walk_at "m_om") (by walk_at "m_om") | exact spec_oneI _ _ _ _ _ _ _ (-1) 4294967296 _ (by k_mem) (by assumption) (by k_mem) (by first | exact ne_lt (by assumption) (by k_mem) | exact ne_all (by assumption) (by k_mem)) (by exact Nat.succ_pos _) (by exact Nat.le_of_ble_eq_true rfl) (by walk_at "m_ints"))
  k_with "post" => (guard_hyp mk_F19_1; (rename_i P9; obtain ⟨y9, t9, o9, rfl, hy0, hy1, hz9⟩ := P9; first | (obtain ⟨rfl, ho9⟩ := hz9) | (obtain ⟨hy2, rfl, ho9⟩ := hz9)))
  k_steps
  all_goals refine hret _ _ _ _ (by k_asm) (by k_asm) ⟨_, _, _, _, _, _, rfl, .head _, ?_, ?_, ?_, ?_, ho9, ?_, ?_⟩
  all_goals first | done | omega | (walk_at "m_mem"; done) | (walk_at "m_kept"; done) | skip
  all_goals first | exact sub_lo (by assumption) | exact sub_hi (by assumption) (by assumption)

open PySem.Calls
section
variable {prog : Program} {w : World} {A₀ A : Around} {s : Shared} {base h₀ : Heap} {outer : List Env} {L : Addr} {m : Str → Option Value} {env : Env} {news : Led} {R : Result → Shared → Prop}

/-- a frame is left, the outer frames' slots turned on the way -/
noncomputable def LeaveT (A₀ : Around) (base : Heap) (outer : List Env) (h₀ : Heap) (L : Addr) (m : Str → Option Value) (fs : List Addr) (g : Heap) (R : Result → Shared → Prop) (v : Value) (s' : Shared) : Prop :=
  ∃ g' L' m' news', KtsTurn fs g g' ∧ Fr g' L' s'.heap m' ∧ News g' L' s'.heap news' ∧
    ∀ h₁, KtsTurn (outer.filterMap (·.frame)) h₀ h₁ → Fr h₁ L s'.heap m → News h₁ L s'.heap news' → Below A₀ base outer h₁ → KtsDicts (outer.filterMap (·.frame)) h₁ → R (.ok (.ret v)) s'
theorem LeaveT.intro {fs : List Addr} {g g' : Heap} {L' : Addr} {m' : Str → Option Value} {news' : Led} {v : Value} {s' : Shared} (F : Fr g' L' s'.heap m') (N : News g' L' s'.heap news') (T : KtsTurn fs g g')
    (k : ∀ h₁, KtsTurn (outer.filterMap (·.frame)) h₀ h₁ → Fr h₁ L s'.heap m → News h₁ L s'.heap news' → Below A₀ base outer h₁ → KtsDicts (outer.filterMap (·.frame)) h₁ → R (.ok (.ret v)) s') : LeaveT A₀ base outer h₀ L m fs g R v s' :=
  ⟨g', L', m', news', T, F, N, k⟩

theorem groundT (B : Below A₀ base outer h₀) (F : Fr h₀ L s.heap m) (N : News h₀ L s.heap news) (D : KtsDicts (outer.filterMap (·.frame)) h₀) (hA : A.frames = some (env :: outer)) (hf : env.frame = some L) (hke : env.scope.kind = .function) :
    Fr h₀ L (hideAll s.heap (news.map (·.1))) m ∧ Below A base (env :: outer) (hideAll s.heap (news.map (·.1))) ∧ h₀.StaysIn (hideAll s.heap (news.map (·.1))) ∧ KtsDicts ((env :: outer).filterMap (·.frame)) (hideAll s.heap (news.map (·.1))) ∧
      ∀ v s', LeaveT A₀ base outer h₀ L m ((env :: outer).filterMap (·.frame)) (hideAll s.heap (news.map (·.1))) R v s' → R (.ok (.ret v)) s' := by
  obtain ⟨FG, BG, st, _⟩ := groundX (R := R) B F N hA hf hke
  obtain ⟨oL, es, ep, hLg, hLd, hLk, hLf⟩ := FG.ns
  refine ⟨⟨⟨oL, es, ep, hLg, hLd, hLk, hLf⟩, st, F.above⟩, BG, st, fun b hb => ?_, ?_⟩
  · rcases mem_frames hf hb with rfl | hb
    · exact ⟨oL, es, ep, hLg, hLd⟩
    · obtain ⟨o, es', n', ho, hd⟩ := D b hb
      exact ⟨o, es', n', st b o ho, hd⟩
  · rintro v s' ⟨g', L', m', news', T', F', N', k⟩
    have nL₀ : h₀.get? L = none := kts_self F
    obtain ⟨sl, hs⟩ := T'.up hLg
    obtain ⟨T₁, S₁⟩ := kts_turn_at (h := s'.heap) (fs := outer.filterMap (·.frame)) (g := h₀)
      (fun b hb => by
        obtain ⟨_, o, ho', _⟩ := B.frames.mem hb
        exact ⟨o, ho'⟩)
      (fun b o e nmem => F'.keep b o (T'.other b o (st b o e) (fun q => by
        rcases mem_frames hf q with z | z
        · rw [z, nL₀] at e; cases e
        · exact nmem z)))
      (fun b o e hm => by
        obtain ⟨sl', hs'⟩ := T'.up (st b o e)
        exact ⟨sl', F'.keep _ _ hs'⟩)
    have B₃ : Below A₀ base outer (ktsHeap s'.heap (outer.filterMap (·.frame)) h₀) := ⟨B.stack, fun b o e => T₁.other b o (B.stays b o e) (fun hm => by
      rw [(B.frames.mem hm).1] at e; cases e), B.frames.of_keeps fun b o e _ => by
      obtain ⟨sl', hs'⟩ := T₁.up e
      exact ⟨_, hs', rfl⟩⟩
    refine k _ T₁ ⟨⟨_, es, ep, F'.keep _ _ hs, hLd, hLk, hLf⟩, S₁, by rw [T₁.size]; exact F.above⟩ (fun p hp => ⟨(N' p hp).1, fun q => ?_, ?_⟩) B₃ (D.turn T₁)
    · have := (N' p hp).2.2; rw [q, hs] at this; cases this
    · refine T₁.none_ _ ?_
      cases q : h₀.get? p.1 with
      | none => rfl
      | some o =>
        obtain ⟨sl', hs'⟩ := T'.up (st _ _ q)
        have := (N' p hp).2.2
        rw [hs'] at this
        cases this
end
section
variable {prog : Program} {w : World} {A₀ A : Around} {s : Shared} {base h₀ : Heap} {outer : List Env} {L : Addr} {m mg mb : Str → Option Value} {env : Env} {news : Led} {R : Result → Shared → Prop} {K : Frag} {p : Program} {loose : List Str} {mean : ExcName → Option Value}
  {name qual : Str} {params : Arguments} {body : List Stmt} {scope : Scope} {dV kV doc pm cdv ct oc : Value} {an od : Option Addr} {osl : Array (Option Value)} {f : Addr} {args : Args} {binds : List (Str × Value)}
theorem code_defT (B : Below A₀ base outer h₀) (F : Fr h₀ L s.heap m) (X₀ : K.In h₀) (N : News h₀ L s.heap news) (T : Top p loose mean mg mb h₀) (D : KtsDicts (outer.filterMap (·.frame)) h₀) (hA : A.frames = some (env :: outer)) (hf : env.frame = some L) (hke : env.scope.kind = .function)
    (ho : K.lookup f = some ⟨oc, od, .func (fnOf name qual params body scope dV kV doc pm an cdv ct), osl⟩) (hcd : codeIn K cdv qual = true) (hroom : A.depth < recursionLimit)
    (hbind : BindsTo s (fnOf name qual params body scope dV kV doc pm an cdv ct) args binds) (hloc : ∀ y ∈ binds, scope.names.lookup y.1 = some .local)
    (h : ∀ g L' h₁, Fr h₀ L g m → Fr g L' h₁ (fun y => binds.reverse.lookup y) → News g L' h₁ news → Below A base (env :: outer) g → K.In g → Top p loose mean mg mb g → KtsDicts ((env :: outer).filterMap (·.frame)) g →
      wpAny (model prog w) (A.deeper (envOf qual scope L' f cdv)) (execs body (envOf qual scope L' f cdv))
        (fun fl s' => LeaveT A₀ base outer h₀ L m ((env :: outer).filterMap (·.frame)) g R (match fl with | .ret v => v | _ => .none) s')
        (fun e s' => wpAny (model prog w) (A.deeper (envOf qual scope L' f cdv)) (leaving (envOf qual scope L' f cdv) e) (fun _ s'' => R (.error e) s'') (fun e' s'' => R (.error e') s'') s')
        { s with heap := h₁, toks := s.toks + binds.length })
    (hco : scope.isCoroutine = false) (hgen : scope.isGenerator = false) (hk : scope.kind = .function)
    (hcell : ∀ x ∈ scope.names, x.2 ≠ .cell) : codeAny (model prog w) A (.call (.ref f) args) R s := by
  obtain ⟨FG, BG, st, DG, lv⟩ := groundT (R := R) B F N D hA hf hke
  refine codeAny_call_def (fd := fnX name qual params body scope [] dV kV doc pm an cdv ct) (body := body) (binds := binds) hroom ((X₀.keeps F.keep) _ _ ho) rfl (T.nolimit.keeps F.keep) (codeRec_of (X₀.keeps F.keep) hcd) rfl hbind hcell hloc (fun h₁ hns hk₁ => ?_) hco hgen hk
  exact wpAny_mono (h _ s.heap.objs.size h₁ FG ⟨hns, fun b o e => hk₁ b o (of_hideAll _ e), Nat.le_of_eq (hideAll_size _ _)⟩
    (fun p hp => ⟨hk₁ _ _ (N p hp).1, Nat.ne_of_lt (Heap.lt_size (N p hp).1), hideAll_none _ (List.mem_map_of_mem hp)⟩) BG (X₀.keeps st) (T.keeps st) DG) (fun fl s' hl => lv _ _ hl) fun _ _ y => y

theorem code_defTC (B : Below A₀ base outer h₀) (F : Fr h₀ L s.heap m) (X₀ : K.In h₀) (N : News h₀ L s.heap news) (T : Top p loose mean mg mb h₀) (D : KtsDicts (outer.filterMap (·.frame)) h₀) (hA : A.frames = some (env :: outer)) (hf : env.frame = some L) (hke : env.scope.kind = .function)
    (ho : K.lookup f = some ⟨oc, od, .func (fnOf name qual params body scope dV kV doc pm an cdv ct), osl⟩) (hcd : codeIn K cdv qual = true) (hroom : A.depth < recursionLimit)
    (hbind : BindsTo s (fnOf name qual params body scope dV kV doc pm an cdv ct) args binds) (hkind : (binds.all fun y => scope.names.lookup y.1 == some .local || scope.names.lookup y.1 == some .cell) = true)
    (hnd : ((cellsFrom 0 scope.names []).map (·.1)).Nodup)
    (h : ∀ g L' h₁ tk cells, Fr h₀ L g m → Fr g L' h₁ (bindL (envOfC qual scope L' f cdv).kindOf binds fun _ => none) → News g L' h₁ (cells ++ news) →
      CellsAre (bindC (envOfC qual scope L' f cdv).kindOf binds fun _ => none) (cellsFrom (L' + 1) scope.names []) cells → Below A base (env :: outer) g → K.In g → Top p loose mean mg mb g → KtsDicts ((env :: outer).filterMap (·.frame)) g → (∀ p ∈ news, p.1 < L') →
      wpAny (model prog w) (A.deeper (envOfC qual scope L' f cdv)) (execs body (envOfC qual scope L' f cdv))
        (fun fl s' => LeaveT A₀ base outer h₀ L m ((env :: outer).filterMap (·.frame)) g R (match fl with | .ret v => v | _ => .none) s')
        (fun e s' => wpAny (model prog w) (A.deeper (envOfC qual scope L' f cdv)) (leaving (envOfC qual scope L' f cdv) e) (fun _ s'' => R (.error e) s'') (fun e' s'' => R (.error e') s'') s')
        { s with heap := h₁, toks := tk })
    (hco : scope.isCoroutine = false) (hgen : scope.isGenerator = false) (hk : scope.kind = .function) : codeAny (model prog w) A (.call (.ref f) args) R s := by
  obtain ⟨FG, BG, st, DG, lv⟩ := groundT (R := R) B F N D hA hf hke
  refine codeAny_call_function (fd := fnX name qual params body scope [] dV kV doc pm an cdv ct) hroom ((X₀.keeps F.keep) _ _ ho) rfl hco hgen rfl (codeRec_of (X₀.keeps F.keep) hcd) (hbind _ _ _ _ ?_)
  refine wpAny_newFunctionEnv_cells hk (kindsX hkind _) fun env' he s' x => ?_
  subst he
  refine ⟨(T.nolimit.keeps F.keep).keeps x.toInCall.keep, codeAny_func ?_⟩
  obtain ⟨h₁, tk, rfl, _⟩ := x.done
  have hk₁ := x.toInCall.keep
  obtain ⟨cells, NC, Y⟩ := Cl.news (h₀ := s.heap) (Nat.le_refl _) fun n c hm => ⟨x.cell n c (lookup_of_mem_nodup (cellsFrom_names scope.names 0 (s.heap.objs.size + 1) [] [] rfl ▸ hnd) hm), x.above n c hm⟩
  refine wpAny_mono (h _ s.heap.objs.size h₁ tk cells FG ⟨x.toInCall.ns, fun b o e => hk₁ b o (of_hideAll _ e), Nat.le_of_eq (hideAll_size _ _)⟩ (fun p hp => ?_) Y BG (X₀.keeps st) (T.keeps st) DG (fun p hp => Heap.lt_size (N p hp).1)) (fun fl s' hl => lv _ _ hl) fun _ _ y => y
  rcases List.mem_append.mp hp with hp | hp
  · refine ⟨(NC p hp).1, (NC p hp).2.1, ?_⟩
    cases q : (hideAll s.heap (news.map (·.1))).get? p.1 with
    | none => rfl
    | some o => have := of_hideAll _ q; rw [(NC p hp).2.2] at this; cases this
  · exact ⟨hk₁ _ _ (N p hp).1, Nat.ne_of_lt (Heap.lt_size (N p hp).1), hideAll_none _ (List.mem_map_of_mem hp)⟩
/-- the state by its parts, the answer without its match -/
theorem LeaveT.introS {h₀ : Heap} {fs : List Addr} {g g' : Heap} {L' : Addr} {m' : Str → Option Value} {news' : Led} {v : Value} {Q E : Value → Shared → Prop} {hp : Heap} {gn} {dw} {tk : Nat} {os} (F : Fr g' L' hp m') (N : News g' L' hp news') (T : KtsTurn fs g g')
    (k : ∀ h₁, KtsTurn (outer.filterMap (·.frame)) h₀ h₁ → Fr h₁ L hp m → News h₁ L hp news' → Below A₀ base outer h₁ → KtsDicts (outer.filterMap (·.frame)) h₁ → Q v ⟨hp, gn, dw, tk, os⟩) : LeaveT A₀ base outer h₀ L m fs g (RQ Q E) v ⟨hp, gn, dw, tk, os⟩ :=
  ⟨g', L', m', news', T, F, N, k⟩
theorem code_defTS {Q E : Value → Shared → Prop} {vs : List Value} {hp : Heap} {gn} {dw} {tk₀ : Nat} {os} (B : Below A₀ base outer h₀) (F : Fr h₀ L hp m) (X₀ : K.In h₀) (N : News h₀ L hp news) (T : Top p loose mean mg mb h₀) (D : KtsDicts (outer.filterMap (·.frame)) h₀) (hA : A.frames = some (env :: outer)) (hf : env.frame = some L) (hke : env.scope.kind = .function)
    (ho : K.lookup f = some ⟨oc, od, .func (fnOf name qual params body scope dV kV doc pm an cdv ct), osl⟩) (hcd : codeIn K cdv qual = true) (hroom : A.depth < recursionLimit)
    (hbind : BindsTo ⟨hp, gn, dw, tk₀, os⟩ (fnOf name qual params body scope dV kV doc pm an cdv ct) ⟨vs, []⟩ binds) (hloc : ∀ y ∈ binds, scope.names.lookup y.1 = some .local)
    (h : ∀ g L' h₁ tk, Fr h₀ L g m → Fr g L' h₁ (fun y => binds.reverse.lookup y) → News g L' h₁ news → Below A base (env :: outer) g → K.In g → Top p loose mean mg mb g → KtsDicts ((env :: outer).filterMap (·.frame)) g →
      wpAny (model prog w) (A.deeper (envOf qual scope L' f cdv)) (execs body (envOf qual scope L' f cdv))
        (fun fl s' => LeaveT A₀ base outer h₀ L m ((env :: outer).filterMap (·.frame)) g (RQ Q E) (match fl with | .ret v => v | _ => .none) s')
        (fun e s' => wpAny (model prog w) (A.deeper (envOf qual scope L' f cdv)) (leaving (envOf qual scope L' f cdv) e) (fun _ s'' => E e s'') (fun e' s'' => E e' s'') s')
        ⟨h₁, gn, dw, tk, os⟩)
    (hco : scope.isCoroutine = false) (hgen : scope.isGenerator = false) (hk : scope.kind = .function)
    (hcell : ∀ x ∈ scope.names, x.2 ≠ .cell) : wpAny (model prog w) A (call (.ref f) vs) Q E ⟨hp, gn, dw, tk₀, os⟩ :=
  wpAny_call (code_defT (s := ⟨hp, gn, dw, tk₀, os⟩) (R := RQ Q E) B F X₀ N T D hA hf hke ho hcd hroom hbind hloc (fun g L' h₁ => h g L' h₁ _) hco hgen hk hcell)
theorem code_defTCS {Q E : Value → Shared → Prop} {vs : List Value} {lm : List (Str × Value)} {hp : Heap} {gn} {dw} {tk₀ : Nat} {os} (B : Below A₀ base outer h₀) (F : Fr h₀ L hp m) (X₀ : K.In h₀) (N : News h₀ L hp news) (T : Top p loose mean mg mb h₀) (D : KtsDicts (outer.filterMap (·.frame)) h₀) (hA : A.frames = some (env :: outer)) (hf : env.frame = some L) (hke : env.scope.kind = .function)
    (ho : K.lookup f = some ⟨oc, od, .func (fnOf name qual params body scope dV kV doc pm an cdv ct), osl⟩) (hcd : codeIn K cdv qual = true) (hroom : A.depth < recursionLimit)
    (hbind : BindsTo ⟨hp, gn, dw, tk₀, os⟩ (fnOf name qual params body scope dV kV doc pm an cdv ct) ⟨vs, []⟩ binds) (hlm : (binds.filter fun z => decide (scope.names.lookup z.1 = some .local)) = lm)
    (hkind : (binds.all fun y => scope.names.lookup y.1 == some .local || scope.names.lookup y.1 == some .cell) = true)
    (hnd : ((cellsFrom 0 scope.names []).map (·.1)).Nodup)
    (h : ∀ g L' h₁ tk cells, Fr h₀ L g m → Fr g L' h₁ (fun y => lm.reverse.lookup y) → News g L' h₁ (cells ++ news) →
      CellsAre (bindC (envOfC qual scope L' f cdv).kindOf binds fun _ => none) (cellsFrom (L' + 1) scope.names []) cells → Below A base (env :: outer) g → K.In g → Top p loose mean mg mb g → KtsDicts ((env :: outer).filterMap (·.frame)) g → (∀ p ∈ news, p.1 < L') →
      wpAny (model prog w) (A.deeper (envOfC qual scope L' f cdv)) (execs body (envOfC qual scope L' f cdv))
        (fun fl s' => LeaveT A₀ base outer h₀ L m ((env :: outer).filterMap (·.frame)) g (RQ Q E) (match fl with | .ret v => v | _ => .none) s')
        (fun e s' => wpAny (model prog w) (A.deeper (envOfC qual scope L' f cdv)) (leaving (envOfC qual scope L' f cdv) e) (fun _ s'' => E e s'') (fun e' s'' => E e' s'') s')
        ⟨h₁, gn, dw, tk, os⟩)
    (hco : scope.isCoroutine = false) (hgen : scope.isGenerator = false) (hk : scope.kind = .function) : wpAny (model prog w) A (call (.ref f) vs) Q E ⟨hp, gn, dw, tk₀, os⟩ :=
  wpAny_call (code_defTC (s := ⟨hp, gn, dw, tk₀, os⟩) (R := RQ Q E) B F X₀ N T D hA hf hke ho hcd hroom hbind hkind hnd (fun g L' h₁ tk cells FG F' => h g L' h₁ tk cells FG (by
    subst hlm
    have e : (fun y => (binds.filter fun z => decide (scope.names.lookup z.1 = some .local)).reverse.lookup y) = bindL (envOfC qual scope L' f cdv).kindOf binds fun _ => none := by
      funext y; rw [bindL_lookup]; exact (Option.or_none).symm
    rw [e]; exact F')) hco hgen hk)
theorem kla_codeS {Q E : Value → Shared → Prop} {vs : List Value} {hp : Heap} {gn} {dw} {tk₀ : Nat} {os} {body : Expr} {cl : List (Str × Addr)} {pm ctv : Value} {c' : Addr}
    (B : Below A₀ base outer h₀) (F : Fr h₀ L hp m) (X₀ : K.In h₀) (N : News h₀ L hp news) (T : Top p loose mean mg mb h₀) (hA : A.frames = some (env :: outer)) (hf : env.frame = some L) (hke : env.scope.kind = .function)
    (ho : (f, kla_obj name qual params body scope cl pm c' ctv) ∈ news) (hcd : hp.CodeRec (.ref c') qual) (hroom : A.depth < recursionLimit)
    (hbind : bindArgs (kla_fn name qual params body scope cl pm (.ref c') ctv) ⟨vs, []⟩ = pure binds) (hloc : ∀ y ∈ binds, scope.names.lookup y.1 = some .local)
    (h : ∀ g L' h₁ tk, Fr h₀ L g m → Fr g L' h₁ (fun y => binds.reverse.lookup y) → News g L' h₁ news → Below A base (env :: outer) g → K.In g → Top p loose mean mg mb g →
      wpAny (model prog w) (A.deeper (envX qual scope L' f (.ref c') cl)) (eval body (envX qual scope L' f (.ref c') cl))
        (fun v s' => LeaveK h₀ L m g (RQ Q E) v s')
        (fun e s' => wpAny (model prog w) (A.deeper (envX qual scope L' f (.ref c') cl)) (leaving (envX qual scope L' f (.ref c') cl) e) (fun _ s'' => E e s'') (fun e' s'' => E e' s'') s')
        ⟨h₁, gn, dw, tk, os⟩)
    (hco : scope.isCoroutine = false) (hgen : scope.isGenerator = false) (hk : scope.kind = .function)
    (hcell : ∀ x ∈ scope.names, x.2 ≠ .cell) : wpAny (model prog w) A (call (.ref f) vs) Q E ⟨hp, gn, dw, tk₀, os⟩ :=
  wpAny_call (kla_code (s := ⟨hp, gn, dw, tk₀, os⟩) (R := RQ Q E) B F X₀ N T hA hf hke ho hcd hroom hbind hloc (fun g L' h₁ => h g L' h₁ _) hco hgen hk hcell)
end
/-- what holds of the ground of all -/
structure Bas (w : World) (p : Program) (loose : List Str) (mean : ExcName → Option Value) (mg mb : Str → Option Value) (base : Heap) : Prop where
  X : (frag w.params).In base
  T : Top p loose mean mg mb base
  c1 : CodeHd base 315 313
  c2 : CodeHd base 310 306
  c3 : CodeHd base 342 340
/-- a call of `f` with `vs` behind which the outer frames may have turned -/
noncomputable def SpecT (prog : Program) (w : World) (f : Addr) (D U : Nat) (vs : List Value) (news : Led) (Φ : Led → Value → Led → Prop) : Prop :=
  ∀ (p : Program) (loose : List Str) (mean : ExcName → Option Value) (mg mb : Str → Option Value)
    (dp un : Nat) (gd : Option (List Code)) (cn : Str) (cs : Scope) (a : Addr) (ccd : Value) (cl : List (Str × Addr)) (outer : List Env) (A₀ : Around) (base h₀ : Heap) (L : Addr) (m : Str → Option Value) (s : Shared) (Q E : Value → Shared → Prop),
    Below A₀ base outer h₀ → Fr h₀ L s.heap m → (frag w.params).In h₀ → News h₀ L s.heap news → Top p loose mean mg mb h₀ → cs.kind = .function → Bas w p loose mean mg mb base → KtsDicts (outer.filterMap (·.frame)) h₀ →
    dp + D < recursionLimit → un + U < cLine →
    (∀ v news' h₁ h' tk', KtsTurn (outer.filterMap (·.frame)) h₀ h₁ → Fr h₁ L h' m → News h₁ L h' news' → Below A₀ base outer h₁ → (frag w.params).In h₁ → Top p loose mean mg mb h₁ → KtsDicts (outer.filterMap (·.frame)) h₁ → Φ news v news' → Q v { s with heap := h', toks := tk' }) →
    wpAny (model prog w) (ktrTop dp un gd cn cs L a ccd cl outer) (call (.ref f) vs) Q E s
theorem SpecT.use {prog : Program} {w : World} {f : Addr} {D U : Nat} {vs : List Value} {news : Led} {Φ : Led → Value → Led → Prop} (S : SpecT prog w f D U vs news Φ)
    {p : Program} {loose : List Str} {mean : ExcName → Option Value} {mg mb : Str → Option Value}
    {dp un : Nat} {gd : Option (List Code)} {cn : Str} {cs : Scope} {a : Addr} {ccd : Value} {cl : List (Str × Addr)} {outer : List Env} {A₀ : Around} {base h₀ : Heap} {L : Addr} {m : Str → Option Value} {s : Shared} {Q E : Value → Shared → Prop}
    (B : Below A₀ base outer h₀) (F : Fr h₀ L s.heap m) (X : (frag w.params).In h₀) (N : News h₀ L s.heap news) (T : Top p loose mean mg mb h₀) (hk : cs.kind = .function) (Z : Bas w p loose mean mg mb base) (Dc : KtsDicts (outer.filterMap (·.frame)) h₀)
    (hD : dp + D < recursionLimit) (hU : un + U < cLine)
    (ret : ∀ v news' h₁ h' tk', KtsTurn (outer.filterMap (·.frame)) h₀ h₁ → Fr h₁ L h' m → News h₁ L h' news' → Below A₀ base outer h₁ → (frag w.params).In h₁ → Top p loose mean mg mb h₁ → KtsDicts (outer.filterMap (·.frame)) h₁ → Φ news v news' → Q v { s with heap := h', toks := tk' }) :
    wpAny (model prog w) (ktrTop dp un gd cn cs L a ccd cl outer) (call (.ref f) vs) Q E s :=
  S p loose mean mg mb dp un gd cn cs a ccd cl outer A₀ base h₀ L m s Q E B F X N T hk Z Dc hD hU ret
/-- and of the outermost frame, where none can turn -/
theorem SpecT.use0 {prog : Program} {w : World} {f : Addr} {D U : Nat} {vs : List Value} {news : Led} {Φ : Led → Value → Led → Prop} (S : SpecT prog w f D U vs news Φ)
    {p : Program} {loose : List Str} {mean : ExcName → Option Value} {mg mb : Str → Option Value}
    {dp un : Nat} {gd : Option (List Code)} {cn : Str} {cs : Scope} {a : Addr} {ccd : Value} {cl : List (Str × Addr)} {A₀ : Around} {base h₀ : Heap} {L : Addr} {m : Str → Option Value} {s : Shared} {Q E : Value → Shared → Prop}
    (B : Below A₀ base [] h₀) (F : Fr h₀ L s.heap m) (X : (frag w.params).In h₀) (N : News h₀ L s.heap news) (T : Top p loose mean mg mb h₀) (hk : cs.kind = .function) (Z : Bas w p loose mean mg mb base)
    (hD : dp + D < recursionLimit) (hU : un + U < cLine)
    (ret : ∀ v news' h' tk', Fr h₀ L h' m → News h₀ L h' news' → Φ news v news' → Q v { s with heap := h', toks := tk' }) :
    wpAny (model prog w) (ktrTop dp un gd cn cs L a ccd cl []) (call (.ref f) vs) Q E s := by
  refine S p loose mean mg mb dp un gd cn cs a ccd cl [] A₀ base h₀ L m s Q E B F X N T hk Z ktsDicts_nil hD hU fun v news' h₁ h' tk' T' F' N' _ _ _ _ P => ?_
  have back : ∀ b o, h₀.get? b = some o → h₁.get? b = some o := fun b o e => T'.other b o e (by simp)
  refine ret v news' h' tk' ⟨F'.ns, fun b o e => F'.keep b o (back b o e), by rw [← T'.size]; exact F'.above⟩ (fun q hq => ⟨(N' q hq).1, (N' q hq).2.1, ?_⟩) P
  cases e : h₀.get? q.1 with
  | none => rfl
  | some o => have := (N' q hq).2.2; rw [back _ _ e] at this; cases this
theorem SpecT.use2 {prog : Program} {w : World} {f : Addr} {D U : Nat} {vs : List Value} {news : Led} {Φ : Led → Value → Led → Prop}
    {p : Program} {loose : List Str} {mean : ExcName → Option Value} {mg mb : Str → Option Value}
    {dp un : Nat} {gd : Option (List Code)} {cn : Str} {cs : Scope} {a : Addr} {ccd : Value} {cl : List (Str × Addr)} {outer : List Env} {A₀ : Around} {base h₀ : Heap} {L : Addr} {m : Str → Option Value} {hp : Heap} {gn} {dw} {tk₀ : Nat} {os} {Q E : Value → Shared → Prop}
    (B : Below A₀ base outer h₀) (F : Fr h₀ L hp m) (X : (frag w.params).In h₀) (N : News h₀ L hp news) (T : Top p loose mean mg mb h₀) (hk : cs.kind = .function) (Z : Bas w p loose mean mg mb base) (Dc : KtsDicts (outer.filterMap (·.frame)) h₀)
    (S : SpecT prog w f D U vs news Φ)
    (hD : dp + D < recursionLimit) (hU : un + U < cLine)
    (ret : ∀ (R : Value → Led → Heap → Heap → Nat → Prop) (nw : Led), news = nw → (∀ v n g h tk, Q v ⟨h, gn, dw, tk, os⟩ → R v n g h tk) → ∀ v news' h₁ h' tk', KtsTurn (outer.filterMap (·.frame)) h₀ h₁ → Fr h₁ L h' m → News h₁ L h' news' → Below A₀ base outer h₁ → (frag w.params).In h₁ → Top p loose mean mg mb h₁ → KtsDicts (outer.filterMap (·.frame)) h₁ → Φ nw v news' → R v news' h₁ h' tk') :
    wpAny (model prog w) (ktrTop dp un gd cn cs L a ccd cl outer) (call (.ref f) vs) Q E ⟨hp, gn, dw, tk₀, os⟩ :=
  S.use B (s := ⟨hp, gn, dw, tk₀, os⟩) F X N T hk Z Dc hD hU fun v n g h tk T' F' N' B' X' Tp' D' P => ret (fun v _ _ h tk => Q v ⟨h, gn, dw, tk, os⟩) news rfl (fun _ _ _ _ _ x => x) v n g h tk T' F' N' B' X' Tp' D' P
theorem SpecT.use02 {prog : Program} {w : World} {f : Addr} {D U : Nat} {vs : List Value} {news : Led} {Φ : Led → Value → Led → Prop}
    {p : Program} {loose : List Str} {mean : ExcName → Option Value} {mg mb : Str → Option Value}
    {dp un : Nat} {gd : Option (List Code)} {cn : Str} {cs : Scope} {a : Addr} {ccd : Value} {cl : List (Str × Addr)} {A₀ : Around} {base h₀ : Heap} {L : Addr} {m : Str → Option Value} {hp : Heap} {gn} {dw} {tk₀ : Nat} {os} {Q E : Value → Shared → Prop}
    (B : Below A₀ base [] h₀) (F : Fr h₀ L hp m) (X : (frag w.params).In h₀) (N : News h₀ L hp news) (T : Top p loose mean mg mb h₀) (hk : cs.kind = .function) (Z : Bas w p loose mean mg mb base)
    (S : SpecT prog w f D U vs news Φ)
    (hD : dp + D < recursionLimit) (hU : un + U < cLine)
    (ret : ∀ (R : Value → Led → Heap → Nat → Prop) (nw : Led), news = nw → (∀ v n h tk, Q v ⟨h, gn, dw, tk, os⟩ → R v n h tk) → ∀ v n h tk, Fr h₀ L h m → News h₀ L h n → Φ nw v n → R v n h tk) :
    wpAny (model prog w) (ktrTop dp un gd cn cs L a ccd cl []) (call (.ref f) vs) Q E ⟨hp, gn, dw, tk₀, os⟩ :=
  S.use0 B (s := ⟨hp, gn, dw, tk₀, os⟩) F X N T hk Z hD hU fun v n h tk F' N' P => ret (fun v _ h tk => Q v ⟨h, gn, dw, tk, os⟩) news rfl (fun _ _ _ _ x => x) v n h tk F' N' P

theorem rows_USET_F20 : True := by
  k_with  "t_enterT" => (intro _ _ _ _ _ _ _ Be9 _ _ _; (try dsimp only); (try k_lift Be9); (try k_fold))
  k_with  "t_enterTC" => (intro _ _ _ _ _ _ _ N9 Ye9 B9 _ _ _ l9; (try k_lt l9); k_cells Ye9; (try simp only [List.cons_append, List.nil_append] at N9); (try dsimp only); (try k_lift B9); (try k_fold))
  k_with  "ite" => (k_here; k_extra "eqO"; (refine ite_tells (by assumption) ?_ ?_) <;> intro _)
  k_with  "compareOp Eq int int" => (k_here; k_extra "eqO"; k_dflt (refine eq_opq ?_; k_whole); intro _ _; (try dsimp only))
  k_with  "binaryOp FloorDiv int int" => (k_here; k_extra "fdivP"; k_dflt (refine fdiv_pow (by walk_at "m_om") (by walk_at "m_om") ?_; k_whole); (try dsimp only))
  k_with  "binaryOp Mod int int" => (k_here; k_extra "fdivP"; k_dflt (refine fmod_pow (by walk_at "m_om") (by walk_at "m_om") ?_; k_whole); (try dsimp only))
  k_with  "setItem ref" => (k_here; k_extra "setAll"; k_dflt (refine set_allU (by k_asm) (by k_asm) (by k_mem) (by k_mem) (by assumption) (by k_extra "size") (by k_extra "size") ?_; k_whole); intro _ _ _ _; (try k_sweep))
  k_with  "subscriptTail" => (k_here; k_extra "item3"; k_dflt (refine item_at (by k_asm) (by k_mem) (by walk_at "m_om") (by walk_at "m_om") (by exact rfl) ?_; k_whole))
  k_with  "exec For Name Name cons nil" => (k_here; k_extra "forL"; (with_unfolding_all refine For_invVF (by k_asm) (by exact rfl) (by exact rfl) ?_; k_whole))
  k_with  "m_enterL" => (refine kla_codeS (binds := []) (by k_asm) (by k_asm) (by k_asm) (by k_asm) (by k_asm) rfl rfl (by first | exact rfl | assumption) (by k_mem) (by exact codeRec_news (by k_asm) (by k_mem) (by assumption) (by assumption)) (by walk_at "m_room") (by exact rfl) (by exact locs rfl) ?_ (by exact rfl) (by exact rfl) (by exact rfl) (by decide); k_whole; walk_at "t_enter")
  k_with  "eval Lambda" => (k_here; k_extra "lam"; k_dflt (refine kla_eval (by exact rfl) ?_); refine Stop.go ?_)
  k_with  "storeName" => (k_here; k_extra "m_cell"; k_dflt (refine store_cU (by k_asm) (by k_asm) (by exact rfl) (by k_mem) (by assumption) ?_ (by exact rfl) (by exact rfl); k_whole); intro _ _ _ _ _; (try k_sweep))
  k_with  "m_enterT" => (k_dflt (refine code_defTS (by k_asm) (by k_asm) (by k_asm) (by k_asm) (by k_asm) (by assumption) rfl rfl (by first | exact rfl | assumption) (by k_is) (by k_is) (by walk_at "m_room") (by walk_at "m_binds") (by exact locs rfl) ?_ (by exact rfl) (by exact rfl) (by exact rfl) (by decide); k_whole; walk_at "t_enterT"))
  k_with  "m_enterTC" => (k_dflt (refine code_defTCS (by k_asm) (by k_asm) (by k_asm) (by k_asm) (by k_asm) (by assumption) rfl rfl (by first | exact rfl | assumption) (by k_is) (by k_is) (by walk_at "m_room") (by walk_at "m_binds") (by walk_at "m_lm") (by exact rfl) (by decide +kernel) ?_ (by exact rfl) (by exact rfl) (by exact rfl); k_whole; walk_at "t_enterTC"))
  k_with  "LeaveT" => (k_dflt (refine LeaveT.introS (by k_asm) (by k_asm) (by first | assumption | exact KtsTurn.refl) ?_; k_whole); intro _ _ _ _ _ _; (try dsimp only))
  k_with  "m_useT" => (k_here; refine SpecT.use2 (by k_asm) (by k_asm) (by k_asm) (by k_asm) (by k_asm) (by first | exact rfl | assumption) (by assumption) (by assumption) (by k_extra "specT") (by walk_at "m_room") (by walk_at "m_room") ?_; k_whole; intro RR9 nw9 he9 hRR9 _ _ _ _ _ _ _ _ _ _ _ _ _; (k_extra "postT") <;> (try subst he9) <;> (refine hRR9 _ _ _ _ _ ?_) <;> (clear hRR9 RR9) <;> (try (rename Stopped => z9; clear z9; refine Stop.go ?_)) <;> (try dsimp only) <;> (try k_sweep) <;> (try k_fold))
  k_with  "call ref" => k_dflt (walk_at "m_useT")
  trivial

theorem rows_OWN_F20_5 : True := by
  k_with  "callWith ref" => (k_here; k_extra "callF"; k_dflt (refine callWith_F0 (by exact FnAt.of (by k_asm) (by k_mem)) ?_; k_whole; try dsimp only [List.nil_append, List.cons_append]))
  trivial

set_option maxRecDepth 100000 in
set_option maxHeartbeats 2000000 in
theorem spec_heard (prog : Program) (w : World) (fn : Addr) (oc : Value) (od : Option Addr) (fd : FuncData) (sl : Array (Option Value)) (news : Led) (hfn : (fn, (⟨oc, od, .func fd, sl⟩ : Obj)) ∈ news) (Φ : Led → Value → Led → Prop) (S : Spec prog w fn 12 96 [] news Φ) :
    SpecT prog w 304 14 112 [.ref fn] news (fun news v news' => Φ news v news') := by
  intro p loose mean mg mb dp un gd cn cs a ccd cl outer A₀ base h₀ L m s Q E B F X N T hk Z Dc hD hU hret
  obtain mk_F20_1 : True := trivial
  k_with "callF" => (guard_hyp mk_F20_1; skip)
  k_with "spec" => (guard_hyp mk_F20_1; exact S)
  k_with "post" => (guard_hyp mk_F20_1; skip)
  walk_at "m_enterT"
  k_steps
  all_goals exact hret _ _ _ _ _ (by assumption) (by assumption) (by assumption) (by assumption) (Z.X.keeps (Below.stays (by assumption))) (Z.T.keeps (Below.stays (by assumption))) (by assumption) (by assumption)

set_option maxRecDepth 100000 in
set_option maxHeartbeats 2000000 in
theorem spec_heardX (prog : Program) (w : World) (fn : Addr) (oc : Value) (od : Option Addr) (fd : FuncData) (sl : Array (Option Value)) (news : Led) (hfn : (fn, (⟨oc, od, .func fd, sl⟩ : Obj)) ∈ news) (Φ : Led → Prop) (S : SpecX prog w fn 12 96 [] news Φ) :
    SpecT prog w 304 14 112 [.ref fn] news (fun news v news' => (∃ t, v = .str (Str.ofString "refused") t) ∧ Φ news') := by
  intro p loose mean mg mb dp un gd cn cs a ccd cl outer A₀ base h₀ L m s Q E B F X N T hk Z Dc hD hU hret
  obtain mk_F20_2 : True := trivial
  k_with "callF" => (guard_hyp mk_F20_2; skip)
  obtain ZX := Z.X
  obtain ZT := Z.T
  k_with "specx" => (guard_hyp mk_F20_2; exact S)
  walk_at "m_enterT"
  k_steps
  all_goals exact hret _ _ _ _ _ (by assumption) (by assumption) (by assumption) (by assumption) (Z.X.keeps (Below.stays (by assumption))) (Z.T.keeps (Below.stays (by assumption))) (by assumption) ⟨⟨_, rfl⟩, by assumption⟩

/-- a row's five numbers -/
structure R5 where
  n : Int
  p : Int
  g : Int
  f : Int
  e : Int
noncomputable def five (r : Rt) : R5 := ⟨r.n, r.p, r.g, r.f, r.e⟩
noncomputable def keyOf (r : R5) : Bits := bitsOf r.n r.p.toNat
structure WellR (r : R5) : Prop where
  p0 : 0 ≤ r.p
  p1 : r.p ≤ 32
  n0 : 0 ≤ r.n
  n1 : r.n ≤ 4294967295
  net : netOf r.n r.p = r.n

theorem half_step (a : Int) (j : Nat) : a / 2 ^ j = 2 * (a / 2 ^ (j + 1)) + a / 2 ^ j % 2 := by
  have h := Int.mul_ediv_add_emod (a / 2 ^ j) 2
  rw [Int.ediv_ediv_of_nonneg (Int.le_of_lt (Int.pow_pos (by decide)))] at h
  rw [Int.pow_succ]
  omega
theorem fmod_two (a : Int) (j : Nat) : Int.fmod (Int.fdiv a (2 ^ j)) 2 = a / 2 ^ j % 2 := by
  rw [Int.fdiv_eq_ediv_of_nonneg _ (Int.le_of_lt (Int.pow_pos (by decide))), Int.fmod_eq_emod_of_nonneg _ (by decide)]
theorem bits_eq {a b : Int} (ha0 : 0 ≤ a) (ha1 : a < 4294967296) (hb0 : 0 ≤ b) (hb1 : b < 4294967296) : ∀ k : Nat, k ≤ 32 → (bitsOf a k = bitsOf b k ↔ a / 2 ^ (32 - k) = b / 2 ^ (32 - k))
  | 0, _ => by
    refine ⟨fun _ => ?_, fun _ => rfl⟩
    have e : (2 : Int) ^ (32 - 0) = 4294967296 := by decide
    rw [e, Int.ediv_eq_zero_of_lt ha0 ha1, Int.ediv_eq_zero_of_lt hb0 hb1]
  | k + 1, h => by
    have ih := bits_eq ha0 ha1 hb0 hb1 k (by (clear ha0 ha1 hb0 hb1; omega))
    have e1 : (31 - (k : Int)).toNat = 31 - k := by (clear h ha0 ha1 hb0 hb1 ih; omega)
    have e2 : 32 - k = (31 - k) + 1 := by (clear e1 ha0 ha1 hb0 hb1 ih; omega)
    have e3 : 32 - (k + 1) = 31 - k := by (clear e1 e2 h ha0 ha1 hb0 hb1 ih; omega)
    have sa := half_step a (31 - k)
    have sb := half_step b (31 - k)
    rw [bitsOf_succ, bitsOf_succ, e3]
    rw [e2] at ih
    have hbit : bitB a k = bitB b k ↔ a / 2 ^ (31 - k) % 2 = b / 2 ^ (31 - k) % 2 := by
      unfold bitB
      rw [e1, fmod_two, fmod_two]
      have m1 := Int.emod_two_eq (a / 2 ^ (31 - k))
      have m2 := Int.emod_two_eq (b / 2 ^ (31 - k))
      constructor
      · intro h
        have h := decide_eq_decide.mp h
        (clear e1 e2 e3 ha0 ha1 hb0 hb1 ih m1 m2 sa sb; omega)
      · intro h; rw [h]
    constructor
    · intro h
      obtain ⟨h1, h2⟩ := List.append_inj h (by rw [bitsOf_length, bitsOf_length])
      have h1 := ih.mp h1
      have h2 := hbit.mp (List.cons.inj h2).1
      rw [sa, sb, h1, h2]
    · intro h
      have h2 : a / 2 ^ (31 - k) % 2 = b / 2 ^ (31 - k) % 2 := by rw [h]
      have h1 : a / 2 ^ ((31 - k) + 1) = b / 2 ^ ((31 - k) + 1) := by (clear e1 e2 e3 h2 ha0 ha1 hb0 hb1 hbit ih; omega)
      rw [ih.mpr h1, hbit.mpr h2]
theorem netOf_rem {n p : Int} (n0 : 0 ≤ n) (n1 : n ≤ 4294967295) (h : netOf n p = n) : n % pw (32 - p) = 0 := by
  unfold netOf at h
  rw [Int.emod_eq_of_lt n0 (by (clear h n0; omega))] at h
  (clear n0 n1; omega)
theorem netOf_of_rem {n p : Int} (n0 : 0 ≤ n) (n1 : n ≤ 4294967295) (h : n % pw (32 - p) = 0) : netOf n p = n := by
  unfold netOf
  rw [Int.emod_eq_of_lt n0 (by (clear h n0; omega)), h]; (clear h n0 n1; omega)
theorem pw_32 {p : Int} (p0 : 0 ≤ p) (p1 : p ≤ 32) : pw (32 - p) ∣ 4294967296 ∧ pw (32 - p) ≤ 4294967296 := by
  have h : (2 : Int) ^ (32 - p).toNat ∣ 2 ^ 32 := ⟨2 ^ (32 - (32 - p).toNat), by rw [← Int.pow_add, show (32 - p).toNat + (32 - (32 - p).toNat) = 32 by (clear p1; omega)]⟩
  have e : (2 : Int) ^ 32 = 4294967296 := by decide
  rw [e] at h
  exact ⟨h, Int.le_of_dvd (by decide) h⟩
/-- a network of any address is a network -/
theorem netOf_well {a p : Int} (p0 : 0 ≤ p) (p1 : p ≤ 32) : 0 ≤ netOf a p ∧ netOf a p ≤ 4294967295 ∧ netOf (netOf a p) p = netOf a p := by
  obtain ⟨hd, hl⟩ := pw_32 p0 p1
  have hp := pw_pos (32 - p)
  have e : a % pw (32 - p) = a % 4294967296 % pw (32 - p) := (Int.emod_emod_of_dvd a hd).symm
  have h1 := Int.emod_nonneg a (show (4294967296 : Int) ≠ 0 by decide)
  have h2 := Int.emod_lt_of_pos a (show (0 : Int) < 4294967296 by decide)
  have h3 := Int.mul_ediv_add_emod (a % 4294967296) (pw (32 - p))
  have h4 := Int.emod_nonneg (a % 4294967296) (Int.ne_of_gt hp)
  have h5 : 0 ≤ pw (32 - p) * (a % 4294967296 / pw (32 - p)) := Int.mul_nonneg (Int.le_of_lt hp) (Int.ediv_nonneg h1 (Int.le_of_lt hp))
  have h6 : netOf a p = pw (32 - p) * (a % 4294967296 / pw (32 - p)) := by unfold netOf; rw [e]; (clear e h1 h2 h4 h5 hl hp p0 p1; omega)
  refine ⟨by (clear e h1 h2 h3 h4 hl hp p0 p1; omega), by unfold netOf; rw [e]; (clear e h1 h2 h3 h5 h6 hl hp p0 p1; omega), ?_⟩
  exact netOf_of_rem (by (clear e h1 h2 h3 h4 hl hp p0 p1; omega)) (by unfold netOf; rw [e]; (clear e h1 h2 h3 h5 h6 hl hp p0 p1; omega)) (by rw [h6]; exact Int.mul_emod_right _ _)
theorem keyOf_eq {r s : R5} (hr : WellR r) (hs : WellR s) : keyOf r = keyOf s ↔ r.n = s.n ∧ r.p = s.p := by
  refine ⟨fun h => ?_, fun ⟨a, b⟩ => by unfold keyOf; rw [a, b]⟩
  unfold keyOf at h
  have hl := congrArg List.length h
  rw [bitsOf_length, bitsOf_length] at hl
  have hp : r.p = s.p := by have := hr.p0; have := hs.p0; omega
  refine ⟨?_, hp⟩
  have hr1 := hr.n1; have hs1 := hs.n1; have hp1 := hr.p1; have hp0 := hr.p0
  rw [← hl] at h
  have h2 := (bits_eq hr.n0 (by (clear hl hp hp0 hp1 hs1; omega)) hs.n0 (by (clear hl hp hp0 hp1 hr1; omega)) r.p.toNat (by (clear hl hp hp0 hr1 hs1; omega))).mp h
  have e : 32 - r.p.toNat = (32 - r.p).toNat := by (clear h2 hl hp hp1 hr1 hs1; omega)
  rw [e] at h2
  have a := netOf_rem hr.n0 hr.n1 hr.net
  have b := netOf_rem hs.n0 hs.n1 hs.net
  rw [← hp] at b
  have a1 := Int.mul_ediv_add_emod r.n (pw (32 - r.p))
  have b1 := Int.mul_ediv_add_emod s.n (pw (32 - r.p))
  rw [a] at a1; rw [b] at b1
  have h3 : r.n / pw (32 - r.p) = s.n / pw (32 - r.p) := h2
  rw [← a1, ← b1, h3]

/-- the table's trie bears the rows -/
structure Alike (M : Tm) (rs : List R5) : Prop where
  well : ∀ r ∈ rs, WellR r
  at_ : ∀ q, (rsAt M q).map five = rs.filter fun r => decide (keyOf r = q)
theorem Alike.mem {M : Tm} {rs : List R5} (h : Alike M rs) {q : Bits} {r : Rt} (hr : r ∈ rsAt M q) : five r ∈ rs ∧ keyOf (five r) = q := by
  have : five r ∈ rs.filter fun r => decide (keyOf r = q) := by rw [← h.at_]; exact List.mem_map_of_mem hr
  have := List.mem_filter.mp this
  exact ⟨this.1, by simpa using this.2⟩
theorem Alike.len {M : Tm} {rs : List R5} (h : Alike M rs) (q : Bits) : (rsAt M q).length ≤ rs.length := by
  rw [← List.length_map (f := five), h.at_]; exact List.length_filter_le _ _
noncomputable abbrev Same4 (x q : R5) : Prop := q.n = x.n ∧ q.p = x.p ∧ q.g = x.g ∧ q.f = x.f
theorem Same4.eq {x q : R5} (h : Same4 x q) : (⟨q.n, q.p, q.g, q.f, x.e⟩ : R5) = x := by
  obtain ⟨a, b, c, d⟩ := h; cases x; simp_all
noncomputable def addL (x : R5) : List R5 → List R5
  | [] => [x]
  | q :: l => if Same4 x q then x :: l else q :: addL x l
theorem addL_new {x : R5} : ∀ {l : List R5}, (∀ q ∈ l, ¬ Same4 x q) → addL x l = l ++ [x]
  | [], _ => rfl
  | q :: l, h => by
    unfold addL
    rw [if_neg (h q (.head _)), addL_new fun q hq => h q (.tail _ hq)]; rfl
theorem addL_old {x : R5} : ∀ {l : List R5} {i : Nat} {q : R5}, l[i]? = some q → Same4 x q → (∀ j < i, ∀ q, l[j]? = some q → ¬ Same4 x q) → addL x l = l.set i x
  | [], i, q, h, _, _ => by simp at h
  | a :: l, 0, q, h, hs, _ => by
    obtain rfl : a = q := by simpa using h
    unfold addL; rw [if_pos hs]; rfl
  | a :: l, i + 1, q, h, hs, hn => by
    unfold addL
    rw [if_neg (hn 0 (Nat.succ_pos _) a rfl), addL_old (l := l) (i := i) (q := q) (by simpa using h) hs fun j hj q' hq => hn (j + 1) (by omega) q' (by simpa using hq)]; rfl
noncomputable def addF (x : R5) : List R5 → List R5
  | [] => [x]
  | q :: l => if q.g = x.g ∧ q.f = x.f then x :: l else q :: addF x l
theorem addR_five (r : Rt) : ∀ l : List Rt, (addR r l).map five = addF (five r) (l.map five)
  | [] => rfl
  | q :: l => by
    unfold addR addF
    have e : ((five q).g = (five r).g ∧ (five q).f = (five r).f) = (q.g = r.g ∧ q.f = r.f) := rfl
    rw [List.map_cons]
    simp only [e]
    by_cases h : q.g = r.g ∧ q.f = r.f
    · rw [if_pos h, if_pos h]; rfl
    · rw [if_neg h, if_neg h, List.map_cons, addR_five r l]
theorem addL_mem {x q : R5} : ∀ {l : List R5}, q ∈ addL x l → q = x ∨ q ∈ l
  | [], h => .inl (List.mem_singleton.mp h)
  | a :: l, h => by
    unfold addL at h
    split at h
    · rcases List.mem_cons.mp h with h | h
      · exact .inl h
      · exact .inr (.tail _ h)
    · rcases List.mem_cons.mp h with h | h
      · exact .inr (h ▸ .head _)
      · rcases addL_mem h with h | h
        · exact .inl h
        · exact .inr (.tail _ h)
theorem addL_off {x : R5} {q : Bits} (hx : keyOf x ≠ q) : ∀ l : List R5, (addL x l).filter (fun r => decide (keyOf r = q)) = l.filter fun r => decide (keyOf r = q)
  | [] => by unfold addL; simp [hx]
  | a :: l => by
    unfold addL
    split
    · next h =>
      have e : keyOf a = keyOf x := by unfold keyOf; rw [h.1, h.2.1]
      rw [List.filter_cons_of_neg (by simpa using hx), List.filter_cons_of_neg (by rw [e]; simpa using hx)]
    · by_cases ha : keyOf a = q
      · rw [List.filter_cons_of_pos (by simpa using ha), List.filter_cons_of_pos (by simpa using ha), addL_off hx l]
      · rw [List.filter_cons_of_neg (by simpa using ha), List.filter_cons_of_neg (by simpa using ha), addL_off hx l]
theorem addL_on {x : R5} (wx : WellR x) : ∀ l : List R5, (∀ r ∈ l, WellR r) → (addL x l).filter (fun r => decide (keyOf r = keyOf x)) = addF x (l.filter fun r => decide (keyOf r = keyOf x))
  | [], _ => by unfold addL; simp [addF]
  | a :: l, hw => by
    have wa := hw a (.head _)
    have ih := addL_on wx l fun r hr => hw r (.tail _ hr)
    have hk := keyOf_eq wa wx
    unfold addL
    by_cases ha : keyOf a = keyOf x
    · rw [List.filter_cons_of_pos (a := a) (l := l) (by simpa using ha)]
      obtain ⟨h1, h2⟩ := hk.mp ha
      unfold addF
      by_cases h : a.g = x.g ∧ a.f = x.f
      · rw [if_pos h, if_pos (show Same4 x a from ⟨h1, h2, h⟩), List.filter_cons_of_pos (by simp)]
      · rw [if_neg h, if_neg (show ¬ Same4 x a from fun z => h z.2.2), List.filter_cons_of_pos (by simpa using ha), ih]
    · rw [List.filter_cons_of_neg (a := a) (l := l) (by simpa using ha), if_neg (show ¬ Same4 x a from fun z => ha (hk.mpr ⟨z.1, z.2.1⟩)), List.filter_cons_of_neg (by simpa using ha), ih]
theorem Alike.add {M M' : Tm} {rs : List R5} {r : Rt} (h : Alike M rs) (hw : WellR (five r)) (hM : ∀ q, rsAt M' q = if q = bitsOf r.n r.p.toNat then addR r (rsAt M q) else rsAt M q) : Alike M' (addL (five r) rs) := by
  refine ⟨fun q hq => ?_, fun q => ?_⟩
  · rcases addL_mem hq with rfl | hq
    · exact hw
    · exact h.well q hq
  · rw [hM]
    by_cases e : q = bitsOf r.n r.p.toNat
    · rw [if_pos e, addR_five, h.at_, e]
      exact (addL_on hw rs h.well).symm
    · rw [if_neg e, h.at_]
      exact (addL_off (fun z => e z.symm) rs).symm
/-- is one of the list's of the row's four numbers -/
noncomputable def has4 (x : R5) (l : List R5) : Bool := l.any fun q => decide (Same4 x q)
theorem addL_len (x : R5) : ∀ l : List R5, (addL x l).length = if has4 x l = true then l.length else l.length + 1
  | [] => rfl
  | q :: l => by
    unfold addL has4
    rw [List.any_cons]
    by_cases h : Same4 x q
    · rw [if_pos h]; simp [h]
    · rw [if_neg h, List.length_cons, addL_len x l]
      unfold has4
      simp only [h, decide_false, Bool.false_or, List.length_cons]
      split <;> rfl
theorem Alike.has {M : Tm} {rs : List R5} {r : Rt} (h : Alike M rs) (hw : WellR (five r)) : hasR r (rsAt M (bitsOf r.n r.p.toNat)) = has4 (five r) rs := by
  rw [Bool.eq_iff_iff]
  unfold hasR has4
  rw [List.any_eq_true, List.any_eq_true]
  constructor
  · rintro ⟨q, hq, e⟩
    obtain ⟨a, b⟩ := h.mem hq
    refine ⟨_, a, ?_⟩
    have e := of_decide_eq_true e
    obtain ⟨h1, h2⟩ := (keyOf_eq (h.well _ a) hw).mp b
    exact decide_eq_true ⟨h1, h2, e⟩
  · rintro ⟨x, hx, e⟩
    have e := of_decide_eq_true e
    have hk := (keyOf_eq (h.well _ hx) hw).mpr ⟨e.1, e.2.1⟩
    have : x ∈ (rsAt M (bitsOf r.n r.p.toNat)).map five := by rw [h.at_]; exact List.mem_filter.mpr ⟨hx, decide_eq_true hk⟩
    obtain ⟨q, hq, rfl⟩ := List.mem_map.mp this
    exact ⟨q, hq, decide_eq_true e.2.2⟩
theorem Alike.many {M : Tm} {rs : List R5} {r : Rt} (h : Alike M rs) (hw : WellR (five r)) : (if hasR r (rsAt M (bitsOf r.n r.p.toNat)) = true then (rs.length : Int) else (rs.length : Int) + 1) = ((addL (five r) rs).length : Nat) := by
  rw [h.has hw, addL_len]
  split <;> simp
theorem filter_two {α : Type} (p : α → Bool) : ∀ l : List α, (l.filter p).length + (l.filter fun x => !p x).length = l.length
  | [] => rfl
  | a :: l => by
    have ih := filter_two p l
    cases h : p a with
    | true => rw [List.filter_cons_of_pos h, List.filter_cons_of_neg (by simp [h])]; simp only [List.length_cons]; omega
    | false => rw [List.filter_cons_of_neg (by simp [h]), List.filter_cons_of_pos (by simp [h])]; simp only [List.length_cons]; omega
/-- all routes of a network are taken out -/
theorem Alike.drop {M M' : Tm} {rs : List R5} {net pre : Int} (h : Alike M rs) (p0 : 0 ≤ pre) (p1 : pre ≤ 32) (hM : ∀ q, rsAt M' q = if q = bitsOf (netOf net pre) pre.toNat then [] else rsAt M q) :
    Alike M' (rs.filter fun r => !decide (r.n = netOf net pre ∧ r.p = pre)) ∧ (rsAt M (bitsOf (netOf net pre) pre.toNat)).length + (rs.filter fun r => !decide (r.n = netOf net pre ∧ r.p = pre)).length = rs.length := by
  obtain ⟨w1, w2, w3⟩ := netOf_well (a := net) p0 p1
  have hk : ∀ r ∈ rs, (keyOf r = bitsOf (netOf net pre) pre.toNat ↔ (r.n = netOf net pre ∧ r.p = pre)) := fun r hr => keyOf_eq (s := ⟨netOf net pre, pre, 0, 0, 0⟩) (h.well r hr) ⟨p0, p1, w1, w2, w3⟩
  refine ⟨⟨fun r hr => h.well r (List.mem_filter.mp hr).1, fun q => ?_⟩, ?_⟩
  · rw [hM, List.filter_filter]
    by_cases e : q = bitsOf (netOf net pre) pre.toNat
    · rw [if_pos e, List.map_nil]
      refine (List.filter_eq_nil_iff.mpr fun r hr => ?_).symm
      have := hk r hr
      rw [e]
      by_cases hx : keyOf r = bitsOf (netOf net pre) pre.toNat
      · have := this.mp hx; simp [this]
      · simp [hx]
    · rw [if_neg e, h.at_]
      refine List.filter_congr fun r hr => ?_
      have := hk r hr
      by_cases hx : keyOf r = q
      · have hn : ¬ (r.n = netOf net pre ∧ r.p = pre) := fun z => e (hx.symm.trans (this.mpr z))
        simp [hx, hn]
      · simp [hx]
  · rw [← List.length_map (f := five), h.at_]
    have e : rs.filter (fun r => decide (keyOf r = bitsOf (netOf net pre) pre.toNat)) = rs.filter fun r => decide (r.n = netOf net pre ∧ r.p = pre) := List.filter_congr fun r hr => decide_eq_decide.mpr (hk r hr)
    rw [e]
    have := filter_two (fun r : R5 => decide (r.n = netOf net pre ∧ r.p = pre)) rs
    (clear p0 p1 w1 w2 w3; omega)
theorem Alike.dropFace {M M' : Tm} {rs : List R5} {face : Int} (h : Alike M rs) (hM : ∀ q, rsAt M' q = (rsAt M q).filter fun r => !decide (r.f = face)) : Alike M' (rs.filter fun r => !decide (r.f = face)) := by
  refine ⟨fun r hr => h.well r (List.mem_filter.mp hr).1, fun q => ?_⟩
  rw [hM, List.filter_filter]
  have e : ((rsAt M q).filter fun r => !decide (r.f = face)).map five = ((rsAt M q).map five).filter fun r => !decide (r.f = face) := by
    rw [List.filter_map]; rfl
  rw [e, h.at_, List.filter_filter]
  refine List.filter_congr fun r _ => Bool.and_comm _ _
theorem Alike.nil {M : Tm} (h : ∀ q, rsAt M q = []) : Alike M [] := ⟨(fun _ h => nomatch h), fun q => by rw [h]; rfl⟩

/-- the law's own search -/
noncomputable def hit5 (a : Int) (r : R5) : Bool := decide (a / pw (32 - r.p) = r.n / pw (32 - r.p))
noncomputable def stepL (a : Int) (best : Option R5) (r : R5) : Option R5 := if hit5 a r then (match best with
  | none => some r
  | some b => if r.p > b.p ∨ (r.p = b.p ∧ r.e < b.e) then some r else some b) else best
noncomputable def foundL (a : Int) (rs : List R5) : Option R5 := rs.foldl (stepL a) none

noncomputable def best5 (b : Option R5) (r : R5) : Option R5 := match b with
  | none => some r
  | some q => if r.e < q.e then some r else some q
theorem bestOf_five (l : List Rt) (b : Option Rt) : (l.foldl bestStep b).map five = (l.map five).foldl best5 (b.map five) := by
  induction l generalizing b with
  | nil => rfl
  | cons r l ih =>
    rw [List.foldl_cons, List.map_cons, List.foldl_cons, ih]
    congr 1
    cases b with
    | none => rfl
    | some q =>
      show (if r.e < q.e then some r else some q).map five = if (five r).e < (five q).e then some (five r) else some (five q)
      have : ((five r).e < (five q).e) = (r.e < q.e) := rfl
      simp only [this]
      split <;> rfl
/-- the step of the search on rows that match -/
noncomputable def step1 (best : Option R5) (r : R5) : Option R5 := match best with
  | none => some r
  | some b => if r.p > b.p ∨ (r.p = b.p ∧ r.e < b.e) then some r else some b
theorem foldl_hit (a : Int) (l : List R5) (b : Option R5) : l.foldl (stepL a) b = (l.filter (hit5 a)).foldl step1 b := by
  induction l generalizing b with
  | nil => rfl
  | cons r l ih =>
    rw [List.foldl_cons, ih]
    by_cases h : hit5 a r = true
    · rw [List.filter_cons_of_pos h, List.foldl_cons]
      congr 1
      unfold stepL
      rw [if_pos h]; rfl
    · rw [List.filter_cons_of_neg h]
      congr 1
      unfold stepL
      rw [if_neg h]
/-- once one of the longest prefix stands, only such count -/
theorem fold_top {K : Int} : ∀ (l : List R5) (b : R5), (∀ r ∈ l, r.p ≤ K) → b.p = K → l.foldl step1 (some b) = (l.filter fun r => decide (r.p = K)).foldl best5 (some b)
  | [], _, _, _ => rfl
  | r :: l, b, h, hb => by
    have hr := h r (.head _)
    have hl := fun x hx => h x (List.mem_cons_of_mem r hx)
    rw [List.foldl_cons]
    by_cases e : r.p = K
    · rw [List.filter_cons_of_pos (by simpa using e), List.foldl_cons]
      have e1 : step1 (some b) r = if r.e < b.e then some r else some b := by
        unfold step1
        simp only
        by_cases q : r.e < b.e
        · rw [if_pos (.inr ⟨e.trans hb.symm, q⟩), if_pos q]
        · rw [if_neg (fun z => z.elim (fun z => by (clear e z; omega)) fun z => q z.2), if_neg q]
      have e2 : best5 (some b) r = if r.e < b.e then some r else some b := rfl
      rw [e1, e2]
      split
      · exact fold_top l r hl e
      · exact fold_top l b hl hb
    · rw [List.filter_cons_of_neg (by simpa using e)]
      have e1 : step1 (some b) r = some b := by
        unfold step1
        simp only
        rw [if_neg (fun z => z.elim (fun z => by (clear z; omega)) fun z => by (clear z; omega))]
      rw [e1]
      exact fold_top l b hl hb
theorem fold_low {K : Int} : ∀ (l : List R5) (b : Option R5), (∀ r ∈ l, r.p ≤ K) → (∀ x, b = some x → x.p < K) → (l.filter fun r => decide (r.p = K)) ≠ [] → l.foldl step1 b = (l.filter fun r => decide (r.p = K)).foldl best5 none
  | [], _, _, _, hn => absurd rfl hn
  | r :: l, b, h, hb, hn => by
    have hr := h r (.head _)
    have hl := fun x hx => h x (List.mem_cons_of_mem r hx)
    rw [List.foldl_cons]
    by_cases e : r.p = K
    · rw [List.filter_cons_of_pos (by simpa using e), List.foldl_cons]
      have e1 : step1 b r = some r := by
        cases b with
        | none => rfl
        | some x =>
          have := hb x rfl
          unfold step1
          simp only
          rw [if_pos (.inl (by (clear hr; omega)))]
      have e2 : best5 none r = some r := rfl
      rw [e1, e2]
      exact fold_top l r hl e
    · rw [List.filter_cons_of_neg (by simpa using e)] at hn ⊢
      refine fold_low l _ hl (fun x hx => ?_) hn
      cases b with
      | none =>
        have hx : some r = some x := hx
        obtain rfl := Option.some.inj hx
        omega
      | some y =>
        have hy := hb y rfl
        unfold step1 at hx
        simp only at hx
        split at hx
        · obtain rfl := Option.some.inj hx; (clear hy; omega)
        · obtain rfl := Option.some.inj hx; exact hy
theorem hit_key {a : Int} (a0 : 0 ≤ a) (a1 : a ≤ 4294967295) {r : R5} (hr : WellR r) {k : Nat} (hk : r.p = k) : hit5 a r = true ↔ keyOf r = bitsOf a k := by
  have h0 := hr.p0; have h1 := hr.p1; have h2 := hr.n0; have h3 := hr.n1
  unfold hit5 keyOf
  rw [hk, Int.toNat_natCast, bits_eq h2 (by (clear a0 a1 h0 h1 h2 hk; omega)) a0 (by (clear a0 h0 h1 h2 h3 hk; omega)) k (by (clear a0 a1 h0 h2 h3; omega))]
  have e : (32 - (k : Int)).toNat = 32 - k := by (clear a0 a1 h0 h1 h2 h3 hk; omega)
  unfold pw
  rw [e]
  constructor
  · intro h; exact (of_decide_eq_true h).symm
  · intro h; exact decide_eq_true h.symm
theorem key_len {r : R5} (w : WellR r) {a : Int} {k : Nat} (h : keyOf r = bitsOf a k) : r.p = (k : Int) := by
  have := congrArg List.length h
  unfold keyOf at this
  rw [bitsOf_length, bitsOf_length] at this
  have := w.p0
  omega
theorem class_eq {M : Tm} {rs : List R5} (h : Alike M rs) {a : Int} (a0 : 0 ≤ a) (a1 : a ≤ 4294967295) (k : Nat) : ((rs.filter (hit5 a)).filter fun r => decide (r.p ≤ (k : Int))).filter (fun r => decide (r.p = (k : Int))) = (rsAt M (bitsOf a k)).map five := by
  rw [h.at_, List.filter_filter, List.filter_filter]
  refine List.filter_congr fun r hr => ?_
  have w := h.well r hr
  rw [Bool.eq_iff_iff]
  simp only [Bool.and_eq_true, decide_eq_true_eq]
  constructor
  · rintro ⟨⟨e, _⟩, q⟩
    exact (hit_key a0 a1 w e).mp q
  · intro q
    have e := key_len w q
    exact ⟨⟨e, Int.le_of_eq e⟩, (hit_key a0 a1 w e).mpr q⟩
/-- the trie's search is the law's -/
theorem Alike.upTo {M : Tm} {rs : List R5} (h : Alike M rs) {a : Int} (a0 : 0 ≤ a) (a1 : a ≤ 4294967295) : ∀ k : Nat, k ≤ 32 → (fnd M a k).map five = ((rs.filter (hit5 a)).filter fun r => decide (r.p ≤ (k : Int))).foldl step1 none
  | 0, _ => by
    have hcls := class_eq h a0 a1 0
    have hall : ((rs.filter (hit5 a)).filter fun r => decide (r.p ≤ ((0 : Nat) : Int))).filter (fun r => decide (r.p = ((0 : Nat) : Int))) = (rs.filter (hit5 a)).filter fun r => decide (r.p ≤ ((0 : Nat) : Int)) := List.filter_eq_self.mpr fun r hr => by
      have h1 := of_decide_eq_true (List.mem_filter.mp hr).2
      have h2 := (h.well r (List.mem_filter.mp (List.mem_filter.mp hr).1).1).p0
      exact decide_eq_true (by (clear a0 a1; omega))
    show (bestOf (rsAt M (bitsOf a 0))).map five = _
    unfold bestOf
    rw [bestOf_five, ← hcls]
    by_cases hn : ((rs.filter (hit5 a)).filter fun r => decide (r.p ≤ ((0 : Nat) : Int))) = []
    · rw [hn]; rfl
    · exact (fold_low (K := ((0 : Nat) : Int)) _ none (fun r hr => of_decide_eq_true (List.mem_filter.mp hr).2) (fun _ z => nomatch z) (by rw [hall]; exact hn)).symm
  | k + 1, hk => by
    have ih := h.upTo a0 a1 k (by (clear a0 a1; omega))
    have hcls := class_eq h a0 a1 (k + 1)
    rw [fnd]
    by_cases he : rsAt M (bitsOf a (k + 1)) = []
    · rw [he]
      show (fnd M a k).map five = _
      rw [ih]
      rw [he, List.map_nil] at hcls
      congr 1
      refine List.filter_congr fun r hr => ?_
      have hno := List.filter_eq_nil_iff.mp hcls r
      refine decide_eq_decide.mpr ⟨fun z => by (clear a0 a1 hk hno; omega), fun z => ?_⟩
      have := hno (List.mem_filter.mpr ⟨hr, decide_eq_true z⟩)
      have : r.p ≠ ((k + 1 : Nat) : Int) := fun x => this (decide_eq_true x)
      (clear a0 a1 hk hno; omega)
    · have hne : (rsAt M (bitsOf a (k + 1))).isEmpty = false := by
        cases hx : rsAt M (bitsOf a (k + 1)) with
        | nil => exact absurd hx he
        | cons x l => rfl
      rw [hne]
      show (bestOf (rsAt M (bitsOf a (k + 1)))).map five = _
      unfold bestOf
      rw [bestOf_five, ← hcls]
      refine (fold_low (K := ((k + 1 : Nat) : Int)) _ none (fun r hr => of_decide_eq_true (List.mem_filter.mp hr).2) (fun _ z => nomatch z) ?_).symm
      rw [hcls]
      intro z
      exact he (List.map_eq_nil_iff.mp z)
theorem Alike.found {M : Tm} {rs : List R5} (h : Alike M rs) {a : Int} (a0 : 0 ≤ a) (a1 : a ≤ 4294967295) : (fnd M a 32).map five = foundL a rs := by
  rw [h.upTo a0 a1 32 (Nat.le_refl _)]
  unfold foundL
  rw [foldl_hit]
  congr 1
  refine List.filter_eq_self.mpr fun r hr => ?_
  have := (h.well r (List.mem_filter.mp hr).1).p1
  exact decide_eq_true (by (clear a0 a1; omega))

open PySem.W PyProof.Rows
/-- one row of bits stands before another -/
noncomputable def bl : Bits → Bits → Bool
  | _, [] => false
  | [], _ :: _ => true
  | a :: x, b :: y => if a = b then bl x y else b
theorem bl_irr : ∀ a : Bits, bl a a = false
  | [] => rfl
  | a :: x => by unfold bl; rw [if_pos rfl]; exact bl_irr x
theorem bl_tot : ∀ a b : Bits, bl a b = false → bl b a = false → a = b
  | [], [], _, _ => rfl
  | [], _ :: _, h, _ => by cases h
  | _ :: _, [], _, h => by cases h
  | a :: x, b :: y, h, h' => by
    unfold bl at h h'
    by_cases e : a = b
    · subst e
      rw [if_pos rfl] at h h'
      rw [bl_tot x y h h']
    · rw [if_neg e] at h
      rw [if_neg (fun z => e z.symm)] at h'
      subst h; subst h'
      exact absurd rfl e
theorem bl_trans : ∀ {a b c : Bits}, bl a b = true → bl b c = true → bl a c = true
  | _, [], _, h, _ => by unfold bl at h; cases h
  | _, _ :: _, [], _, h => by cases h
  | [], _ :: _, _ :: _, _, _ => rfl
  | a :: x, b :: y, c :: z, h, h' => by
    unfold bl at h h' ⊢
    by_cases e : a = b
    · subst e
      rw [if_pos rfl] at h
      by_cases e' : a = c
      · subst e'
        rw [if_pos rfl] at h' ⊢
        exact bl_trans h h'
      · rw [if_neg e'] at h' ⊢; exact h'
    · rw [if_neg e] at h
      subst h
      by_cases e' : true = c
      · subst e'
        rw [if_neg e]
      · rw [if_neg e'] at h'
        exact absurd h'.symm e'
theorem bl_asym {a b : Bits} (h : bl a b = true) : bl b a = false := by
  cases h' : bl b a with
  | false => rfl
  | true => have := bl_trans h h'; rw [bl_irr] at this; cases this
theorem bl_le_trans {a b c : Bits} (h : bl b a = false) (h' : bl c b = false) : bl c a = false := by
  cases q : bl c a with
  | false => rfl
  | true =>
    cases r : bl a b with
    | true => have := bl_trans q r; rw [h'] at this; cases this
    | false => have := bl_tot _ _ r h; subst this; rw [h'] at q; cases q
theorem bl_lt_le {a b c : Bits} (h : bl a b = true) (h' : bl c b = false) : bl a c = true := by
  cases r : bl b c with
  | true => exact bl_trans h r
  | false => have := bl_tot _ _ r h'; subst this; exact h
theorem bl_le_lt {a b c : Bits} (h : bl b a = false) (h' : bl b c = true) : bl a c = true := by
  cases r : bl a b with
  | true => exact bl_trans r h'
  | false => have := bl_tot _ _ r h; subst this; exact h'

/-- lists sorted by their bits and alike in every class are one -/
theorem sorted_one {α : Type} (k : α → Bits) : ∀ (l l' : List α), l.Pairwise (fun x y => bl (k y) (k x) = false) → l'.Pairwise (fun x y => bl (k y) (k x) = false) →
    (∀ q, l.filter (fun x => decide (k x = q)) = l'.filter fun x => decide (k x = q)) → l = l'
  | [], [], _, _, _ => rfl
  | [], b :: l', _, _, h => by
    have := h (k b)
    rw [List.filter_cons_of_pos (by simp)] at this
    cases this
  | a :: l, [], _, _, h => by
    have := h (k a)
    rw [List.filter_cons_of_pos (by simp)] at this
    cases this
  | a :: l, b :: l', hs, hs', h => by
    obtain ⟨h1, h2⟩ := List.pairwise_cons.mp hs
    obtain ⟨h1', h2'⟩ := List.pairwise_cons.mp hs'
    have ha : a ∈ b :: l' := by
      have : a ∈ (b :: l').filter fun x => decide (k x = k a) := by
        rw [← h]; exact List.mem_filter.mpr ⟨.head _, by simp⟩
      exact (List.mem_filter.mp this).1
    have hb : b ∈ a :: l := by
      have : b ∈ (a :: l).filter fun x => decide (k x = k b) := by
        rw [h]; exact List.mem_filter.mpr ⟨.head _, by simp⟩
      exact (List.mem_filter.mp this).1
    have e : k a = k b := by
      refine bl_tot _ _ ?_ ?_
      · rcases List.mem_cons.mp ha with rfl | ha
        · exact bl_irr _
        · exact h1' a ha
      · rcases List.mem_cons.mp hb with rfl | hb
        · exact bl_irr _
        · exact h1 b hb
    have hab : a = b := by
      have := h (k a)
      rw [List.filter_cons_of_pos (by simp), List.filter_cons_of_pos (by simp [e])] at this
      exact (List.cons.inj this).1
    subst hab
    rw [sorted_one k l l' h2 h2' fun q => ?_]
    have := h q
    by_cases hq : k a = q
    · rw [List.filter_cons_of_pos (by simp [hq]), List.filter_cons_of_pos (by simp [hq])] at this
      exact (List.cons.inj this).2
    · rwa [List.filter_cons_of_neg (by simp [hq]), List.filter_cons_of_neg (by simp [hq])] at this

noncomputable def runK {α : Type} (lt : Nat → Nat → Bool) : KasT α → α
  | .ret a => a
  | .ask i j k => runK lt (k (lt i j))
theorem runK_bind {α β : Type} (lt : Nat → Nat → Bool) (f : α → KasT β) : ∀ t : KasT α, runK lt (t.bind f) = runK lt (f (runK lt t))
  | .ret _ => rfl
  | .ask i j k => runK_bind lt f (k (lt i j))
section
variable (K : Nat → Bits)
/-- the order asked for: by bits, then by place -/
noncomputable def Ss (i j : Nat) : Prop := bl (K i) (K j) = true ∨ (K i = K j ∧ i < j)
noncomputable abbrev ltK (i j : Nat) : Bool := bl (K i) (K j)
variable {K}
theorem Ss.trans {i j k : Nat} (h : Ss K i j) (h' : Ss K j k) : Ss K i k := by
  rcases h with h | ⟨e, l⟩ <;> rcases h' with h' | ⟨e', l'⟩
  · exact .inl (bl_trans h h')
  · exact .inl (e' ▸ h)
  · exact .inl (e ▸ h')
  · exact .inr ⟨e.trans e', Nat.lt_trans l l'⟩
theorem Ss.of {i j : Nat} (h : bl (K j) (K i) = false) (l : i < j) : Ss K i j := by
  cases q : bl (K i) (K j) with
  | true => exact .inl q
  | false => exact .inr ⟨bl_tot _ _ q h, l⟩
theorem Ss.le {i j : Nat} (h : Ss K i j) : bl (K j) (K i) = false := by
  rcases h with h | ⟨e, _⟩
  · exact bl_asym h
  · rw [e]; exact bl_irr _
noncomputable def At (p : Array Nat) (i : Nat) : Nat := p.getD i 0
noncomputable def SoTo (K : Nat → Bits) (p : Array Nat) (n : Nat) : Prop := ∀ a b, a < b → b < n → Ss K (At p a) (At p b)
/-- the front holds the first places, the rest stands as it stood -/
structure Front (N : Nat) (p : Array Nat) (n : Nat) : Prop where
  size : p.size = N
  perm : p.toList.Perm (List.range N)
  low : ∀ i < n, At p i < n
  rest : ∀ i, n ≤ i → i < N → At p i = i
theorem Front.more {N n : Nat} {p : Array Nat} (h : Front N p n) (hn : n < N) : Front N p (n + 1) :=
  ⟨h.size, h.perm, fun i hi => by
    by_cases e : i = n
    · subst e; rw [h.rest i (Nat.le_refl _) hn]; (clear hi hn; omega)
    · have := h.low i (by (clear hn; omega)); (clear e hi hn; omega), fun i h1 h2 => h.rest i (by (clear h2 hn; omega)) h2⟩
theorem at_eq {p : Array Nat} {i : Nat} : At p i = (p[i]?).getD 0 := by unfold At; simp
theorem at_rev {p : Array Nat} {i j : Nat} (hj : j ≤ p.size) (k : Nat) : At (kas_rev p i j) k = if i ≤ k ∧ k < j then At p (i + j - 1 - k) else At p k := by
  unfold kas_rev
  rw [at_eq, getElem?_mirror_all hj, at_eq, at_eq]
  split <;> rfl
theorem at_bub {p : Array Nat} {k l : Nat} (hk : k < p.size) (hl : l ≤ k) (t : Nat) : At (bubble p k (k - l)) t = if t = l then At p k else if l < t ∧ t ≤ k then At p (t - 1) else At p t := by
  rw [at_eq, getElem?_bubble hk _ (by (clear hk hl; omega)), show k - (k - l) = l by (clear hk; omega), at_eq, at_eq, at_eq]
  split
  · rfl
  · split <;> rfl
theorem perm_of {p q : Array Nat} {l : List Nat} (h : q.Perm p) (h' : p.toList.Perm l) : q.toList.Perm l := (Array.perm_iff_toList_perm.mp h).trans h'
theorem Front.rev {N n : Nat} {p : Array Nat} (h : Front N p n) {i j : Nat} (hj : j ≤ n) (hn : n ≤ N) : Front N (kas_rev p i j) n := by
  have hs := h.size
  refine ⟨(mirror_size _ _ _ _).trans hs, perm_of (mirror_perm _ _ _ _) h.perm, fun k hk => ?_, fun k h1 h2 => ?_⟩
  · rw [at_rev (by (clear hk; omega))]
    split
    · exact h.low _ (by (clear hk hn hs; omega))
    · exact h.low _ hk
  · rw [at_rev (by (clear h1 h2; omega)), if_neg (by (clear h2 hn hs; omega))]
    exact h.rest k h1 h2

theorem asc_ok {N : Nat} {p : Array Nat} : ∀ (f n : Nat), 1 ≤ n → n + f = N → Front N p n → SoTo K p n →
    n ≤ runK (ltK K) (kas_asc p f n) ∧ runK (ltK K) (kas_asc p f n) ≤ N ∧ Front N p (runK (ltK K) (kas_asc p f n)) ∧ SoTo K p (runK (ltK K) (kas_asc p f n)) ∧
      (runK (ltK K) (kas_asc p f n) < N → bl (K (At p (runK (ltK K) (kas_asc p f n)))) (K (At p (runK (ltK K) (kas_asc p f n) - 1))) = true)
  | 0, n, h1, hN, hf, hs => by
    refine ⟨Nat.le_refl _, ?_, hf, hs, fun h => ?_⟩
    · show n ≤ N; (clear h1; omega)
    · have h : n < N := h; (clear h1; omega)
  | f + 1, n, h1, hN, hf, hs => by
    cases hc : bl (K (At p n)) (K (At p (n - 1))) with
    | true =>
      have e : runK (ltK K) (kas_asc p (f + 1) n) = n := by
        show runK (ltK K) (if ltK K (p.getD n 0) (p.getD (n - 1) 0) = true then .ret n else kas_asc p f (n + 1)) = n
        have hc : ltK K (p.getD n 0) (p.getD (n - 1) 0) = true := hc
        rw [if_pos hc]; rfl
      rw [e]
      exact ⟨Nat.le_refl _, by (clear e h1; omega), hf, hs, fun _ => hc⟩
    | false =>
      have e : runK (ltK K) (kas_asc p (f + 1) n) = runK (ltK K) (kas_asc p f (n + 1)) := by
        show runK (ltK K) (if ltK K (p.getD n 0) (p.getD (n - 1) 0) = true then .ret n else kas_asc p f (n + 1)) = _
        have hc : ltK K (p.getD n 0) (p.getD (n - 1) 0) = false := hc
        rw [if_neg (by rw [hc]; simp)]
      rw [e]
      have hlast : Ss K (At p (n - 1)) (At p n) := Ss.of hc (by rw [hf.rest n (Nat.le_refl _) (by (clear e h1; omega))]; exact hf.low _ (by (clear e hN; omega)))
      obtain ⟨a, b, c, d, g⟩ := asc_ok f (n + 1) (by (clear e h1 hN; omega)) (by (clear e h1; omega)) (hf.more (by (clear e h1; omega))) fun x y hxy hy => by
        by_cases ey : y = n
        · subst ey
          by_cases ex : x = y - 1
          · subst ex; exact hlast
          · exact (hs x (y - 1) (by (clear e h1 hN hy; omega)) (by (clear e ex h1 hN hy; omega))).trans hlast
        · exact hs x y hxy (by (clear e h1 hN hxy; omega))
      exact ⟨by (clear b e g h1 hN; omega), b, c, d, g⟩

/-- a descending run so far: the last block of equal ones not yet turned -/
structure Desc (K : Nat → Bits) (p : Array Nat) (n q : Nat) : Prop where
  q1 : q + 1 ≤ n
  blk : ∀ a b, n - (q + 1) ≤ a → a < b → b < n → K (At p a) = K (At p b) ∧ At p a < At p b
  pre : ∀ a b, a < b → b < n - (q + 1) → Ss K (At p b) (At p a)
  low : ∀ a b, a < n - (q + 1) → n - (q + 1) ≤ b → b < n → bl (K (At p b)) (K (At p a)) = true
/-- the block turned, the whole descends -/
theorem Desc.turned {p : Array Nat} {n q : Nat} (h : Desc K p n q) (hn : n ≤ p.size) : ∀ a b, a < b → b < n → Ss K (At (kas_rev p (n - (q + 1)) n) b) (At (kas_rev p (n - (q + 1)) n) a) := fun a b hab hb => by
  have h1 := h.q1
  rw [at_rev hn, at_rev hn]
  by_cases hb' : b < n - (q + 1)
  · rw [if_neg (by (clear h1 hab hb hn; omega)), if_neg (by (clear h1 hb hn; omega))]
    exact h.pre a b hab hb'
  · by_cases ha' : a < n - (q + 1)
    · rw [if_pos (by (clear h1 ha' hab hn; omega)), if_neg (by (clear h1 hab hb hb' hn; omega))]
      exact .inl (h.low a _ ha' (by (clear h1 ha' hab hb' hn; omega)) (by (clear h1 ha' hab hn; omega)))
    · rw [if_pos (by (clear h1 ha' hab hn; omega)), if_pos (by (clear h1 hb' hn; omega))]
      obtain ⟨e, l⟩ := h.blk (n - (q + 1) + n - 1 - b) (n - (q + 1) + n - 1 - a) (by (clear h1 ha' hab hb' hn; omega)) (by (clear h1 ha' hb' hn; omega)) (by (clear h1 hab hb' hn; omega))
      exact .inr ⟨e, l⟩
theorem rev_one {p : Array Nat} {n : Nat} (h1 : 1 ≤ n) (hn : n ≤ p.size) (k : Nat) : At (kas_rev p (n - 1) n) k = At p k := by
  rw [at_rev hn]
  split
  · congr 1; (clear h1 hn; omega)
  · rfl
theorem desc_ok {N : Nat} : ∀ (f : Nat) (p : Array Nat) (n q : Nat), n + f = N → Front N p n → Desc K p n q →
    let r := runK (ltK K) (kas_desc f p n q)
    n ≤ r.2.1 ∧ r.2.1 ≤ N ∧ Front N r.1 r.2.1 ∧ Desc K r.1 r.2.1 r.2.2
  | 0, p, n, q, hN, hf, hd => ⟨Nat.le_refl _, by show n ≤ N; omega, hf, hd⟩
  | f + 1, p, n, q, hN, hf, hd => by
    have hs := hf.size
    have hq := hd.q1
    have hpn : At p n = n := hf.rest n (Nat.le_refl _) (by (clear hq hs; omega))
    have step : ∀ (p' : Array Nat) (n' q' : Nat), n ≤ n' → (let r := runK (ltK K) (kas_desc f p' n' q'); n' ≤ r.2.1 ∧ r.2.1 ≤ N ∧ Front N r.1 r.2.1 ∧ Desc K r.1 r.2.1 r.2.2) →
        runK (ltK K) (kas_desc (f + 1) p n q) = runK (ltK K) (kas_desc f p' n' q') →
        (let r := runK (ltK K) (kas_desc (f + 1) p n q); n ≤ r.2.1 ∧ r.2.1 ≤ N ∧ Front N r.1 r.2.1 ∧ Desc K r.1 r.2.1 r.2.2) := fun p' n' q' hn h e => by
      rw [e]
      exact ⟨Nat.le_trans hn h.1, h.2⟩
    cases hc : bl (K (At p n)) (K (At p (n - 1))) with
    | true =>
      have all : ∀ a < n, bl (K (At p n)) (K (At p a)) = true := fun a ha => by
        by_cases ha' : a < n - (q + 1)
        · exact bl_trans hc (hd.low a (n - 1) ha' (by (clear hN ha ha' hpn hq hs; omega)) (by (clear hN ha ha' hpn hs; omega)))
        · by_cases e : a = n - 1
          · subst e; exact hc
          · rw [(hd.blk a (n - 1) (by (clear e hN ha hpn hq hs; omega)) (by (clear hN ha' hpn hq hs; omega)) (by (clear e hN ha ha' hpn hs; omega))).1]; exact hc
      have new : ∀ p' : Array Nat, (∀ k, At p' k = At (kas_rev p (n - (q + 1)) n) k) → Desc K p' (n + 1) 0 := fun p' e => by
        have hp' : At p' n = At p n := by rw [e, at_rev (by (clear hpn hq; omega)), if_neg (by (clear hN hpn hq hs; omega))]
        refine ⟨by (clear hN hp' hpn hq hs; omega), fun a b h1 h2 h3 => by (clear hN hp' hpn hq hs; omega), fun a b hab hb => ?_, fun a b ha h2 h3 => ?_⟩
        · rw [e, e]; exact hd.turned (by (clear hab hb hp' hpn hq; omega)) a b hab (by (clear hN hab hp' hpn hq hs; omega))
        · have : b = n := by (clear hN ha hp' hpn hq hs; omega)
          subst this
          rw [hp', e, at_rev (by (clear h2 h3 ha hp' hpn hq; omega))]
          split
          · exact all _ (by (clear h2 h3 hN ha hp' hpn hq hs; omega))
          · exact all _ (by (clear h2 h3 hN hp' hpn hq hs; omega))
      by_cases hq0 : q > 0
      · refine step (kas_rev p (n - (q + 1)) n) (n + 1) 0 (by (clear hN hpn hq hq0 hs; omega)) (desc_ok f _ (n + 1) 0 (by (clear hpn hq hq0 hs; omega)) ((hf.rev (by (clear hN hpn hq hq0 hs; omega)) (by (clear hpn hq hq0 hs; omega))).more (by (clear hpn hq hq0 hs; omega))) (new _ fun _ => rfl)) ?_
        show runK (ltK K) (if ltK K (p.getD n 0) (p.getD (n - 1) 0) = true then _ else _) = _
        have hc : ltK K (p.getD n 0) (p.getD (n - 1) 0) = true := hc
        rw [if_pos hc, if_pos hq0]
      · refine step p (n + 1) 0 (by (clear hN hpn hq hq0 hs; omega)) (desc_ok f _ (n + 1) 0 (by (clear hpn hq hq0 hs; omega)) (hf.more (by (clear hpn hq hq0 hs; omega))) (new _ fun k => ?_)) ?_
        · obtain rfl : q = 0 := by (clear hN hpn hq hs; omega)
          exact (rev_one (by (clear hN hpn hq0 hs; omega)) (by (clear hpn hq hq0; omega)) k).symm
        · show runK (ltK K) (if ltK K (p.getD n 0) (p.getD (n - 1) 0) = true then _ else _) = _
          have hc : ltK K (p.getD n 0) (p.getD (n - 1) 0) = true := hc
          rw [if_pos hc, if_neg hq0]
    | false =>
      have hc' : ltK K (p.getD n 0) (p.getD (n - 1) 0) = false := hc
      cases hd' : bl (K (At p (n - 1))) (K (At p n)) with
      | true =>
        have hd'' : ltK K (p.getD (n - 1) 0) (p.getD n 0) = true := hd'
        have e : runK (ltK K) (kas_desc (f + 1) p n q) = (p, n, q) := by
          show runK (ltK K) (if ltK K (p.getD n 0) (p.getD (n - 1) 0) = true then _ else .ask (p.getD (n - 1) 0) (p.getD n 0) fun d => if d = true then .ret (p, n, q) else kas_desc f p (n + 1) (q + 1)) = _
          rw [if_neg (by rw [hc']; simp)]
          show runK (ltK K) (if ltK K (p.getD (n - 1) 0) (p.getD n 0) = true then .ret (p, n, q) else _) = _
          rw [if_pos hd'']; rfl
        rw [e]
        exact ⟨Nat.le_refl _, by show n ≤ N; (clear hpn hq hs; omega), hf, hd⟩
      | false =>
        have hd'' : ltK K (p.getD (n - 1) 0) (p.getD n 0) = false := hd'
        have heq : K (At p (n - 1)) = K (At p n) := bl_tot _ _ hd' hc
        refine step p (n + 1) (q + 1) (by (clear hN hpn hq hs; omega)) (desc_ok f p (n + 1) (q + 1) (by (clear hpn hq hs; omega)) (hf.more (by (clear hpn hq hs; omega))) ⟨by (clear hN hpn hs; omega), fun a b h1 h2 h3 => ?_, fun a b hab hb => hd.pre a b hab (by (clear hN hab hpn hq hs; omega)), fun a b ha h2 h3 => ?_⟩) ?_
        · by_cases eb : b = n
          · subst eb
            have la : At p a < At p b := by rw [hpn]; exact hf.low a h2
            by_cases ea : a = b - 1
            · subst ea; exact ⟨heq, la⟩
            · exact ⟨((hd.blk a (b - 1) (by (clear ea h2 h3 hN hpn hq hs la; omega)) (by (clear h1 h3 hN hpn hq hs la; omega)) (by (clear ea h1 h3 hN hpn hq hs la; omega))).1).trans heq, la⟩
          · exact hd.blk a b (by (clear eb h2 h3 hN hpn hq hs; omega)) h2 (by (clear h1 h2 hN hpn hq hs; omega))
        · by_cases eb : b = n
          · subst eb; rw [← heq]; exact hd.low a (b - 1) (by (clear h2 h3 hN hpn hq hs; omega)) (by (clear h2 h3 hN ha hpn hq hs; omega)) (by (clear h2 h3 hN ha hpn hs; omega))
          · exact hd.low a b (by (clear eb h2 h3 hN hpn hq hs; omega)) (by (clear eb h3 hN ha hpn hq hs; omega)) (by (clear h2 hN ha hpn hq hs; omega))
        · show runK (ltK K) (if ltK K (p.getD n 0) (p.getD (n - 1) 0) = true then _ else .ask (p.getD (n - 1) 0) (p.getD n 0) fun d => if d = true then .ret (p, n, q) else kas_desc f p (n + 1) (q + 1)) = _
          rw [if_neg (by rw [hc']; simp)]
          show runK (ltK K) (if ltK K (p.getD (n - 1) 0) (p.getD n 0) = true then .ret (p, n, q) else _) = _
          rw [if_neg (by rw [hd'']; simp)]
end

open PySem.W PyProof.Rows
section
variable {K : Nat → Bits}
/-- what a count of a run gives -/
noncomputable def RunOk (K : Nat → Bits) (N : Nat) (r : Nat × Array Nat) : Prop := 1 ≤ r.1 ∧ r.1 ≤ N ∧ Front N r.2 r.1 ∧ SoTo K r.2 r.1
theorem tail3_ok {N n : Nat} {p : Array Nat} (h1 : 1 ≤ n) (hn : n ≤ N) (hf : Front N p n) (hr : ∀ a b, a < b → b < n → Ss K (At p b) (At p a)) : RunOk K N (runK (ltK K) (kas_tail3 n N p)) := by
  have hs := hf.size
  have hf' : Front N (kas_rev p 0 n) n := hf.rev (Nat.le_refl _) hn
  obtain ⟨a, b, c, d, _⟩ := asc_ok (K := K) (N - n) n h1 (by (clear h1 hs; omega)) hf' fun x y hxy hy => by
    rw [at_rev (by (clear h1 hxy hy; omega)), at_rev (by (clear h1 hxy hy; omega)), if_pos (by (clear h1 hn hs; omega)), if_pos (by (clear h1 hn hs hxy; omega))]
    exact hr _ _ (by (clear h1 hn hs; omega)) (by (clear hn hs hxy hy; omega))
  unfold kas_tail3
  rw [runK_bind]
  exact ⟨Nat.le_trans h1 a, b, c, d⟩
theorem descPart_ok {N n : Nat} {p : Array Nat} (hn : n + 1 ≤ N) (hf : Front N p n) (hr : ∀ a b, a < b → b < n → Ss K (At p b) (At p a)) (hl : ∀ a < n, bl (K (At p n)) (K (At p a)) = true) : RunOk K N (runK (ltK K) (kas_descPart n N p)) := by
  have hs := hf.size
  obtain ⟨a, b, c, d⟩ := desc_ok (K := K) (N - (n + 1)) p (n + 1) 0 (by (clear hs; omega)) (hf.more (by (clear hs; omega))) ⟨by (clear hn hs; omega), fun a b h1 h2 h3 => by (clear hn hs; omega), fun a b hab hb => hr a b hab (by (clear hab hn hs; omega)), fun a b ha h2 h3 => by
    have : b = n := by (clear ha hn hs; omega)
    subst this
    exact hl a (by (clear h2 h3 hn hs; omega))⟩
  unfold kas_descPart
  rw [runK_bind]
  by_cases hq : (runK (ltK K) (kas_desc (N - (n + 1)) p (n + 1) 0)).2.2 > 0
  · rw [if_pos hq]
    have hs' := c.size
    exact tail3_ok (by (clear b hn hq hs hs'; omega)) b (c.rev (Nat.le_refl _) b) (d.turned (by (clear a hn hq hs; omega)))
  · rw [if_neg hq]
    have hs' := c.size
    have hq : (runK (ltK K) (kas_desc (N - (n + 1)) p (n + 1) 0)).2.2 = 0 := by (clear a b hn hs hs'; omega)
    refine tail3_ok (by (clear b hn hq hs hs'; omega)) b c fun x y hxy hy => ?_
    have h := d.turned (by (clear a hn hq hs hxy hy; omega)) x y hxy hy
    rw [hq] at h
    rw [rev_one (by (clear b hn hq hs hs' hxy hy; omega)) (by (clear a hn hq hs hxy hy; omega)), rev_one (by (clear b hn hq hs hs' hxy hy; omega)) (by (clear a hn hq hs hxy hy; omega))] at h
    exact h
theorem count_ok {N : Nat} {p : Array Nat} (h1 : 1 ≤ N) (hf : Front N p 1) : RunOk K N (runK (ltK K) (kas_count N p)) := by
  have hs := hf.size
  obtain ⟨a, b, c, d, g⟩ := asc_ok (K := K) (N - 1) 1 (Nat.le_refl _) (by (clear hs; omega)) hf fun x y hxy hy => by (clear h1 hs; omega)
  unfold kas_count
  rw [runK_bind]
  generalize runK (ltK K) (kas_asc p (N - 1) 1) = n at a b c d g
  by_cases e : n = N
  · rw [if_pos (by simpa using e)]
    exact ⟨a, b, c, d⟩
  · rw [if_neg (by simpa using e)]
    have hlt := g (by (clear a g h1 hs; omega))
    by_cases h2 : n > 1
    · rw [if_pos h2]
      cases hc : bl (K (At p 0)) (K (At p (n - 1))) with
      | true =>
        show RunOk K N (runK (ltK K) (if ltK K (p.getD 0 0) (p.getD (n - 1) 0) = true then _ else _))
        have hc : ltK K (p.getD 0 0) (p.getD (n - 1) 0) = true := hc
        rw [if_pos hc]
        exact ⟨a, b, c, d⟩
      | false =>
        show RunOk K N (runK (ltK K) (if ltK K (p.getD 0 0) (p.getD (n - 1) 0) = true then _ else _))
        have hc' : ltK K (p.getD 0 0) (p.getD (n - 1) 0) = false := hc
        rw [if_neg (by rw [hc']; simp)]
        have alike : ∀ x < n, K (At p x) = K (At p (n - 1)) := fun x hx => by
          have l1 : bl (K (At p (n - 1))) (K (At p x)) = false := by
            by_cases ex : x = n - 1
            · rw [ex]; exact bl_irr _
            · exact (d x (n - 1) (by (clear a b e g h1 h2 hs; omega)) (by (clear b e ex g h1 h2 hs hx; omega))).le
          have l2 : bl (K (At p x)) (K (At p 0)) = false := by
            by_cases ex : x = 0
            · rw [ex]; exact bl_irr _
            · exact (d 0 x (by (clear a b e g h1 h2 hs hx; omega)) (by (clear a b e ex g h1 h2 hs; omega))).le
          exact bl_tot _ _ (bl_le_trans hc l2) l1
        refine descPart_ok (by (clear a g h1 h2 hs; omega)) (c.rev (Nat.le_refl _) b) (fun x y hxy hy => ?_) fun x hx => ?_
        · rw [at_rev (by (clear a e g h1 h2 hxy hy; omega)), at_rev (by (clear a e g h1 h2 hxy hy; omega)), if_pos (by (clear a b e g h1 h2 hs hxy; omega)), if_pos (by (clear a b e g h1 h2 hs; omega))]
          exact d _ _ (by (clear a b e g h1 h2 hs; omega)) (by (clear b e g h1 h2 hs hxy hy; omega))
        · rw [at_rev (by (clear a e g h1 h2 hx; omega)), at_rev (by (clear a e g h1 h2 hx; omega)), if_neg (by (clear a b e g h1 h2 hs hx; omega)), if_pos (by (clear a b e g h1 h2 hs; omega)), alike (0 + n - 1 - x) (by (clear b e g h1 h2 hs hx; omega))]
          exact hlt
    · rw [if_neg h2]
      have : n = 1 := by (clear b e g h1 hs; omega)
      subst this
      exact descPart_ok (by (clear a b g h2 hs; omega)) c (fun x y hxy hy => by (clear a b e g h1 h2 hs; omega)) fun x hx => by
        have : x = 0 := by (clear a b e g h1 h2 hs; omega)
        subst this; exact hlt
theorem place_ok {p : Array Nat} {k : Nat} (hs : SoTo K p k) : ∀ (f l r : Nat), r - l ≤ f → l ≤ r → r ≤ k → (∀ t < l, bl (K (At p k)) (K (At p t)) = false) → (∀ t, r ≤ t → t < k → bl (K (At p k)) (K (At p t)) = true) →
    let m := runK (ltK K) (kas_place p k f l r)
    m ≤ k ∧ (∀ t < m, bl (K (At p k)) (K (At p t)) = false) ∧ (∀ t, m ≤ t → t < k → bl (K (At p k)) (K (At p t)) = true)
  | 0, l, r, hf, hlr, hr, h1, h2 => ⟨by show l ≤ k; (clear hf; omega), h1, fun t a b => h2 t (by have a : l ≤ t := a; (clear b hlr hr; omega)) b⟩
  | f + 1, l, r, hf, hlr, hr, h1, h2 => by
    by_cases hge : l ≥ r
    · have e : runK (ltK K) (kas_place p k (f + 1) l r) = l := by
        show runK (ltK K) (if l ≥ r then .ret l else _) = l
        rw [if_pos hge]; rfl
      rw [e]
      exact ⟨by (clear e hf hge; omega), h1, fun t a b => h2 t (by (clear b e hf hlr hr; omega)) b⟩
    · cases hc : bl (K (At p k)) (K (At p ((l + r) / 2))) with
      | true =>
        have hc' : ltK K (p.getD k 0) (p.getD ((l + r) / 2) 0) = true := hc
        have e : runK (ltK K) (kas_place p k (f + 1) l r) = runK (ltK K) (kas_place p k f l ((l + r) / 2)) := by
          show runK (ltK K) (if l ≥ r then .ret l else .ask (p.getD k 0) (p.getD ((l + r) / 2) 0) fun c => if c = true then kas_place p k f l ((l + r) / 2) else kas_place p k f ((l + r) / 2 + 1) r) = _
          rw [if_neg hge]
          show runK (ltK K) (if ltK K (p.getD k 0) (p.getD ((l + r) / 2) 0) = true then _ else _) = _
          rw [if_pos hc']
        rw [e]
        refine place_ok hs f l _ (by (clear e hge hlr hr; omega)) (by (clear e hf hge hr; omega)) (by (clear e hf hge; omega)) h1 fun t ht hk => ?_
        by_cases et : t = (l + r) / 2
        · rw [et]; exact hc
        · exact bl_lt_le hc (hs _ t (by (clear e hf hge hk hlr hr; omega)) hk).le
      | false =>
        have hc' : ltK K (p.getD k 0) (p.getD ((l + r) / 2) 0) = false := hc
        have e : runK (ltK K) (kas_place p k (f + 1) l r) = runK (ltK K) (kas_place p k f ((l + r) / 2 + 1) r) := by
          show runK (ltK K) (if l ≥ r then .ret l else .ask (p.getD k 0) (p.getD ((l + r) / 2) 0) fun c => if c = true then kas_place p k f l ((l + r) / 2) else kas_place p k f ((l + r) / 2 + 1) r) = _
          rw [if_neg hge]
          show runK (ltK K) (if ltK K (p.getD k 0) (p.getD ((l + r) / 2) 0) = true then _ else _) = _
          rw [if_neg (by rw [hc']; simp)]
        rw [e]
        refine place_ok hs f _ r (by (clear e hge hlr hr; omega)) (by (clear e hf hlr hr; omega)) hr (fun t ht => ?_) h2
        by_cases et : t = (l + r) / 2
        · rw [et]; exact hc
        · exact bl_le_trans (hs t _ (by (clear e hf hge hlr hr; omega)) (by (clear e et hf hlr ht; omega))).le hc
theorem bin_ok {N : Nat} : ∀ (f : Nat) (p : Array Nat) (k : Nat), k + f = N → Front N p k → SoTo K p k →
    Front N (runK (ltK K) (kas_bin f p k)) N ∧ SoTo K (runK (ltK K) (kas_bin f p k)) N
  | 0, p, k, hN, hf, hs => by
    have : k = N := by omega
    subst this
    exact ⟨hf, hs⟩
  | f + 1, p, k, hN, hf, hs => by
    have hsz := hf.size
    have hpk : At p k = k := hf.rest k (Nat.le_refl _) (by (clear hsz; omega))
    obtain ⟨m1, m2, m3⟩ := place_ok hs k 0 k (by (clear hN hpk hsz; omega)) (by (clear hN hpk hsz; omega)) (Nat.le_refl _) (fun t ht => by (clear hN hpk hsz; omega)) fun t h1 h2 => by (clear hN hpk hsz; omega)
    have e : runK (ltK K) (kas_bin (f + 1) p k) = runK (ltK K) (kas_bin f (bubble p k (k - runK (ltK K) (kas_place p k k 0 k))) (k + 1)) := by
      show runK (ltK K) ((kas_place p k k 0 k).bind fun l => kas_bin f (bubble p k (k - l)) (k + 1)) = _
      rw [runK_bind]
    rw [e]
    generalize runK (ltK K) (kas_place p k k 0 k) = l at m1 m2 m3
    have ab := fun t => at_bub (p := p) (k := k) (l := l) (by (clear hpk m1; omega)) m1 t
    refine bin_ok f _ (k + 1) (by (clear hpk hsz m1; omega)) ⟨(bubble_size _ _ _).trans hsz, perm_of (bubble_perm _ _ _) hf.perm, fun t ht => ?_, fun t h1 h2 => ?_⟩ fun x y hxy hy => ?_
    · rw [ab]
      split
      · (clear hN hsz ht m1; omega)
      · split
        · have := hf.low (t - 1) (by (clear hN hpk hsz ht m1; omega)); (clear hN hpk hsz ht m1; omega)
        · by_cases et : t = k
          · rw [et]; (clear et hN hsz ht m1; omega)
          · have := hf.low t (by (clear et hN hpk hsz; omega)); (clear et hN hpk hsz ht m1; omega)
    · rw [ab, if_neg (by (clear h2 hN hpk hsz; omega)), if_neg (by (clear h2 hN hpk hsz m1; omega))]
      exact hf.rest t (by (clear h2 hN hpk hsz m1; omega)) h2
    · have toK : ∀ t < l, Ss K (At p t) (At p k) := fun t ht => Ss.of (m2 t ht) (by rw [hpk]; exact hf.low t (by (clear hN hpk hsz hxy hy; omega)))
      have ofK : ∀ t, l ≤ t → t < k → Ss K (At p k) (At p t) := fun t h1 h2 => .inl (m3 t h1 h2)
      rw [ab, ab]
      by_cases hy1 : y = l
      · rw [if_pos hy1, if_neg (show ¬ x = l by (clear hN hpk hsz hy m1; omega)), if_neg (show ¬ (l < x ∧ x ≤ k) by (clear hN hpk hsz hy m1; omega))]
        exact toK x (by (clear hN hpk hsz hy m1; omega))
      · rw [if_neg hy1]
        by_cases hy2 : l < y
        · rw [if_pos (show l < y ∧ y ≤ k by (clear hN hpk hsz hxy hy1 m1; omega))]
          by_cases hx1 : x = l
          · rw [if_pos hx1]; exact ofK _ (by (clear hN hpk hsz hx1 hxy hy hy1 m1; omega)) (by (clear hN hpk hsz hx1 hy1 hy2 m1; omega))
          · rw [if_neg hx1]
            by_cases hx2 : l < x
            · rw [if_pos (show l < x ∧ x ≤ k by (clear hN hpk hsz hx1 hy1 hy2 m1; omega))]; exact hs _ _ (by (clear hN hpk hsz hx2 hy hy1 m1; omega)) (by (clear hN hpk hsz hx1 hx2 hy1 hy2 m1; omega))
            · rw [if_neg (show ¬ (l < x ∧ x ≤ k) by (clear hN hpk hsz hx1 hxy hy hy1 hy2 m1; omega))]
              by_cases hyk : y - 1 = x
              · (clear hN hpk hsz hxy hy hy1 m1; omega)
              · exact hs _ _ (by (clear hN hpk hsz hxy hy hy1 hyk m1; omega)) (by (clear hN hpk hsz hx1 hx2 hy1 hy2 hyk m1; omega))
        · rw [if_neg (show ¬ (l < y ∧ y ≤ k) by (clear hN hpk hsz hxy hy hy1 m1; omega)), if_neg (show ¬ x = l by (clear hN hpk hsz hy hy1 m1; omega)), if_neg (show ¬ (l < x ∧ x ≤ k) by (clear hN hpk hsz hy hy1 m1; omega))]
          exact hs x y hxy (by (clear hN hpk hsz hxy hy; omega))
theorem sort_ok (K : Nat → Bits) {N : Nat} (h : 1 ≤ N) : Front N (runK (ltK K) (kas_sort N)) N ∧ SoTo K (runK (ltK K) (kas_sort N)) N := by
  have hat : ∀ i, i < N → At (List.toArray (List.range N)) i = i := fun i hi => by rw [at_eq]; simp [hi]
  have hc := count_ok (K := K) (N := N) (p := List.toArray (List.range N)) h ⟨by simp, by simp, fun i hi => by
    have : i = 0 := by (clear h; omega)
    subst this; rw [hat 0 (by (clear hi; omega))]; (clear h hi; omega), fun i _ hi => hat i hi⟩
  obtain ⟨a, b, c, d⟩ := hc
  unfold kas_sort
  rw [runK_bind]
  by_cases hlt : (runK (ltK K) (kas_count N (List.toArray (List.range N)))).1 < N
  · rw [if_pos hlt, show max (runK (ltK K) (kas_count N (List.toArray (List.range N)))).1 1 = (runK (ltK K) (kas_count N (List.toArray (List.range N)))).1 by (clear b h hlt; omega)]
    exact bin_ok _ _ _ (by (clear a h hlt; omega)) c d
  · rw [if_neg hlt]
    have e : (runK (ltK K) (kas_count N (List.toArray (List.range N)))).1 = N := by (clear a h; omega)
    rw [e] at c d
    exact ⟨c, d⟩
end
/-- the places in their order -/
theorem sort_list (K : Nat → Bits) {N : Nat} (h : 1 ≤ N) : (runK (ltK K) (kas_sort N)).toList.Perm (List.range N) ∧ (runK (ltK K) (kas_sort N)).toList.Pairwise (Ss K) := by
  obtain ⟨hf, hs⟩ := sort_ok K h
  refine ⟨hf.perm, ?_⟩
  rw [List.pairwise_iff_getElem]
  intro i j hi hj hij
  have hsz := hf.size
  rw [Array.length_toList] at hi hj
  have := hs i j hij (by (clear h hi hij; omega))
  unfold At at this
  simpa [hi, hj] using this
/-- each class of the sorted places stands as it stood -/
theorem class_list (K : Nat → Bits) {N : Nat} (h : 1 ≤ N) (q : Bits) : (runK (ltK K) (kas_sort N)).toList.filter (fun i => decide (K i = q)) = (List.range N).filter fun i => decide (K i = q) := by
  obtain ⟨hp, hs⟩ := sort_list K h
  have h1 : ((runK (ltK K) (kas_sort N)).toList.filter (fun i => decide (K i = q))).Perm ((List.range N).filter fun i => decide (K i = q)) := hp.filter _
  have s1 : ((runK (ltK K) (kas_sort N)).toList.filter (fun i => decide (K i = q))).Pairwise (· < ·) := by
    have := List.Pairwise.filter (fun i => decide (K i = q)) hs
    refine List.Pairwise.imp_of_mem (fun {a b} ha hb hab => ?_) this
    have ea := of_decide_eq_true (List.mem_filter.mp ha).2
    have eb := of_decide_eq_true (List.mem_filter.mp hb).2
    rcases hab with hab | hab
    · rw [ea, eb, bl_irr] at hab; cases hab
    · exact hab.2
  have s2 : ((List.range N).filter fun i => decide (K i = q)).Pairwise (· < ·) := List.Pairwise.filter _ List.pairwise_lt_range
  exact h1.eq_of_pairwise (fun a b _ _ h h' => absurd (Nat.lt_trans h h') (Nat.lt_irrefl _)) s1 s2

open PySem.W PyProof.Rows
theorem bl_app : ∀ (p a b : Bits), bl (p ++ a) (p ++ b) = bl a b
  | [], _, _ => rfl
  | c :: p, a, b => by
    have e : bl (c :: (p ++ a)) (c :: (p ++ b)) = bl (p ++ a) (p ++ b) := by
      rw [bl, if_pos rfl]
    exact e.trans (bl_app p a b)
theorem bl_pre (p s : Bits) : bl (p ++ s) p = false := by
  have := bl_app p s []
  rw [List.append_nil] at this
  rw [this]
  cases s <;> rfl
theorem mem_pre' {M : Tm} {r : Rt} : ∀ {n : Nat} {p : Bits}, r ∈ pre M n p → ∃ s, r ∈ rsAt M (p ++ s)
  | 0, _, h => nomatch h
  | n + 1, p, h => by
    unfold pre at h
    cases hp : M p with
    | none => rw [hp] at h; cases h
    | some nd =>
      rw [hp] at h
      rcases List.mem_append.mp h with h | h
      · rcases List.mem_append.mp h with h | h
        · exact ⟨[], by rw [List.append_nil, rsAt_some hp]; exact h⟩
        · obtain ⟨s, hs⟩ := mem_pre' h
          exact ⟨false :: s, by rw [List.append_assoc] at hs; exact hs⟩
      · obtain ⟨s, hs⟩ := mem_pre' h
        exact ⟨true :: s, by rw [List.append_assoc] at hs; exact hs⟩
section
variable {M : Tm} {rs : List R5}
theorem Alike.key_pre (h : Alike M rs) {n : Nat} {p : Bits} {r : Rt} (hr : r ∈ pre M n p) : ∃ s, keyOf (five r) = p ++ s := by
  obtain ⟨s, hs⟩ := mem_pre' hr
  exact ⟨s, (h.mem hs).2⟩
theorem Alike.pre_asc (h : Alike M rs) : ∀ (n : Nat) (p : Bits), (pre M n p).Pairwise fun x y => bl (keyOf (five y)) (keyOf (five x)) = false
  | 0, _ => List.Pairwise.nil
  | n + 1, p => by
    unfold pre
    cases hp : M p with
    | none => exact List.Pairwise.nil
    | some nd =>
      have hrs : ∀ r ∈ nd.rs, keyOf (five r) = p := fun r hr => (h.mem (q := p) (by rw [rsAt_some hp]; exact hr)).2
      refine List.pairwise_append.mpr ⟨List.pairwise_append.mpr ⟨?_, h.pre_asc n _, fun x hx y hy => ?_⟩, h.pre_asc n _, fun x hx y hy => ?_⟩
      · refine List.Pairwise.imp_of_mem (R := fun _ _ => True) (fun {x y} hx hy _ => ?_) (List.pairwise_of_forall fun _ _ => trivial)
        rw [hrs x hx, hrs y hy]; exact bl_irr _
      · obtain ⟨s, hs⟩ := h.key_pre hy
        rw [hrs x hx, hs, List.append_assoc]; exact bl_pre _ _
      · obtain ⟨s, hs⟩ := h.key_pre hy
        rw [hs, List.append_assoc]
        rcases List.mem_append.mp hx with hx | hx
        · rw [hrs x hx]; exact bl_pre _ _
        · obtain ⟨s', hs'⟩ := h.key_pre hx
          rw [hs', List.append_assoc, bl_app]; rfl
theorem rs_none (W : Wf M) {p : Bits} (hp : M p = none) (s : Bits) : rsAt M (p ++ s) = [] := by
  unfold rsAt
  cases hs : M (p ++ s) with
  | none => rfl
  | some nd => have := wf_pre W s p (by rw [hs]; rfl); rw [hp] at this; cases this
theorem Alike.pre_class (h : Alike M rs) (W : Wf M) : ∀ (s p : Bits), (preF M p).filter (fun r => decide (keyOf (five r) = p ++ s)) = rsAt M (p ++ s)
  | s, p => by
    cases hp : M p with
    | none => rw [preF_none hp, rs_none W hp]; rfl
    | some nd =>
      have hrs : ∀ r ∈ nd.rs, keyOf (five r) = p := fun r hr => (h.mem (q := p) (by rw [rsAt_some hp]; exact hr)).2
      have hk : ∀ b, ∀ r ∈ preF M (p ++ [b]), ∃ s, keyOf (five r) = p ++ b :: s := fun b r hr => by
        obtain ⟨s, hs⟩ := h.key_pre hr
        exact ⟨s, by rw [hs, List.append_assoc]; rfl⟩
      rw [preF_some W hp, List.filter_append, List.filter_append]
      match s with
      | [] =>
        have e1 : nd.rs.filter (fun r => decide (keyOf (five r) = p ++ [])) = nd.rs := List.filter_eq_self.mpr fun r hr => by rw [hrs r hr]; simp
        have e2 : ∀ b, (preF M (p ++ [b])).filter (fun r => decide (keyOf (five r) = p ++ [])) = [] := fun b => List.filter_eq_nil_iff.mpr fun r hr => by
          obtain ⟨s, hs⟩ := hk b r hr
          rw [hs]; simp
        rw [e1, e2, e2, List.append_nil, List.append_nil, List.append_nil, rsAt_some hp]
      | c :: s =>
        have e1 : nd.rs.filter (fun r => decide (keyOf (five r) = p ++ c :: s)) = [] := List.filter_eq_nil_iff.mpr fun r hr => by rw [hrs r hr]; simp
        have e2 : (preF M (p ++ [c])).filter (fun r => decide (keyOf (five r) = p ++ c :: s)) = rsAt M (p ++ c :: s) := by
          have := h.pre_class W s (p ++ [c])
          rw [List.append_assoc] at this
          exact this
        have e3 : ∀ b, b ≠ c → (preF M (p ++ [b])).filter (fun r => decide (keyOf (five r) = p ++ c :: s)) = [] := fun b hb => List.filter_eq_nil_iff.mpr fun r hr => by
          obtain ⟨s', hs⟩ := hk b r hr
          rw [hs]; simp [hb]
        rw [e1, List.nil_append]
        cases c with
        | false => rw [e2, e3 true (by simp), List.append_nil]
        | true => rw [e2, e3 false (by simp), List.nil_append]
  termination_by s => s.length
noncomputable abbrev dR : R5 := ⟨0, 0, 0, 0, 0⟩
noncomputable abbrev keyI (rs : List R5) (i : Nat) : Bits := keyOf (rs.getD i dR)
theorem map_range (rs : List R5) : (List.range rs.length).map (fun i => rs.getD i dR) = rs := by
  refine List.ext_getElem (by simp) fun i h1 h2 => ?_
  simp [h2]
/-- the trie's routes in their order are the rows sorted -/
theorem Alike.sorted (h : Alike M rs) (W : Wf M) (hn : 1 ≤ rs.length) : (preF M []).map five = (runK (ltK (keyI rs)) (kas_sort rs.length)).toList.map fun i => rs.getD i dR := by
  obtain ⟨hp, hs⟩ := sort_list (keyI rs) hn
  refine sorted_one keyOf _ _ ?_ ?_ fun q => ?_
  · exact List.pairwise_map.mpr (h.pre_asc _ _)
  · refine List.pairwise_map.mpr (List.Pairwise.imp ?_ hs)
    exact fun {a b} hab => hab.le
  · have e1 : ((preF M []).map five).filter (fun x => decide (keyOf x = q)) = ((preF M []).filter fun r => decide (keyOf (five r) = q)).map five := by rw [List.filter_map]; rfl
    have e2 := h.pre_class W q []
    rw [List.nil_append] at e2
    rw [e1, e2, h.at_, List.filter_map]
    have e3 : ((fun x => decide (keyOf x = q)) ∘ fun i => rs.getD i dR) = fun i => decide (keyI rs i = q) := rfl
    rw [e3, class_list (keyI rs) hn q]
    have e4 : (List.range rs.length).filter (fun i => decide (keyI rs i = q)) = (List.range rs.length).filter ((fun x => decide (keyOf x = q)) ∘ fun i => rs.getD i dR) := rfl
    rw [e4, ← List.filter_map, map_range]
theorem Alike.pre_nil (h : Alike M []) : preF M [] = [] := by
  cases hp : preF M [] with
  | nil => rfl
  | cons r l =>
    obtain ⟨s, hs⟩ := mem_pre' (M := M) (r := r) (n := 33) (p := []) (by show r ∈ preF M []; rw [hp]; exact .head _)
    have := (h.mem hs).1
    cases this
/-- the trie's routes are the rows, in some order -/
theorem Alike.perm (h : Alike M rs) (W : Wf M) : ((preF M []).map five).Perm rs := by
  by_cases hn : 1 ≤ rs.length
  · rw [h.sorted W hn]
    have := ((sort_list (keyI rs) hn).1).map fun i => rs.getD i dR
    rw [map_range] at this
    exact this
  · have : rs = [] := List.length_eq_zero_iff.mp (by omega)
    subst this
    rw [h.pre_nil]; exact List.Perm.refl _
theorem Alike.pre_length (h : Alike M rs) (W : Wf M) : (preF M []).length = rs.length := by
  rw [← List.length_map (f := five), (h.perm W).length_eq]
theorem Alike.face_count (h : Alike M rs) (W : Wf M) (face : Int) : ((preF M []).filter fun r => decide (r.f = face)).length + (rs.filter fun r => !decide (r.f = face)).length = rs.length := by
  have e : ((preF M []).filter fun r => decide (r.f = face)).length = (((preF M []).map five).filter fun r => decide (r.f = face)).length := by
    rw [List.filter_map, List.length_map]; rfl
  rw [e, ((h.perm W).filter _).length_eq]
  exact filter_two _ rs
theorem Alike.keyed (h : Alike M rs) (q : Bits) (r : Rt) (hr : r ∈ rsAt M q) : q = bitsOf r.n r.p.toNat ∧ 0 ≤ r.p ∧ r.p ≤ 32 := by
  obtain ⟨a, b⟩ := h.mem hr
  have w := h.well _ a
  exact ⟨b.symm, w.p0, w.p1⟩
end

open PySem.Calls
/-- all entries but one stand -/
noncomputable def But (so : Addr) (a b : Led) : Prop := ∀ p ∈ a, p.1 ≠ so → p ∈ b
theorem But.refl (so : Addr) (a : Led) : But so a a := fun _ h _ => h
theorem But.trans {so : Addr} {a b c : Led} (h : But so a b) (h' : But so b c) : But so a c := fun p hp hn => h' p (h p hp hn) hn
theorem But.cons {so : Addr} {a b : Led} (q : Addr × Obj) (h : But so a b) : But so a (q :: b) := fun p hp hn => .tail _ (h p hp hn)
theorem But.upd {so : Addr} {a b : Led} (o : Obj) (h : But so a b) : But so a (updL so o b) := fun p hp hn => mem_updL_ne (h p hp hn) hn
/-- a row: its list's address, its tokens, its numbers -/
structure Rw where
  a : Addr
  c : Nat
  u : Tok × Tok × Tok × Tok × Tok
  v : R5
noncomputable abbrev Rw.obj (r : Rw) : Obj := listOf #[.int r.v.n r.u.1, .int r.v.p r.u.2.1, .int r.v.g r.u.2.2.1, .int r.v.f r.u.2.2.2.1, .int r.v.e r.u.2.2.2.2] r.c
noncomputable abbrev rowVals (rr : List Rw) : List Value := rr.map fun r => Value.ref r.a
noncomputable abbrev numsOf (rr : List Rw) : List R5 := rr.map fun r => r.v
/-- the code table of a function whose one lambda may have been made -/
noncomputable def TabOk (P : Addr) (pos : Pos) (qual : Str) (news : Led) : Prop :=
  ∃ ps, (P, tabObj ps) ∈ news ∧ TriplesOk ps.toList ∧ (codeAmong pos ps.toList = none ∨ ∃ c' oc vs t, codeAmong pos ps.toList = some (.ref c') ∧ (c', oc) ∈ news ∧ oc.data = .fields vs ∧ vs[1]? = some (.str qual t))
theorem TabOk.two {P : Addr} {pos : Pos} {qual : Str} {news news' : Led} (h : TabOk P pos qual news) (k : ∀ q ∈ news, tagO q.2 = 2 → q ∈ news') : TabOk P pos qual news' := by
  obtain ⟨ps, h1, h2, h3⟩ := h
  refine ⟨ps, k _ h1 rfl, h2, h3.imp id ?_⟩
  rintro ⟨c', oc, vs, t, e, hm, hd, hv⟩
  exact ⟨c', oc, vs, t, e, k _ hm (by unfold tagO; rw [hd]), hd, hv⟩
section
variable {M : Model} {A : Around} {E : Value → Shared → Prop} {s : Shared} {h₀ : Heap} {L a c P : Addr} {m mg mb : Str → Option Value} {cn : Str} {cs : Scope} {ccd : Value} {cl : List (Str × Addr)} {news : Led}
  {p : Program} {loose : List Str} {mean : ExcName → Option Value} {name qual : Str} {params : Arguments} {body : Expr} {scope : Scope} {ps : Array Value} {pos : Pos} {firstLine : Nat} {clos : List (Str × Addr)}
theorem lam_new {Q : Value → Shared → Prop} (F : Fr h₀ L s.heap m) (N : News h₀ L s.heap news) (T : Top p loose mean mg mb h₀) (C : CodeHd h₀ c P) (hcd : ccd = .ref c) (hm : (P, tabObj ps) ∈ news) (ht : TriplesOk ps.toList) (hnf : codeAmong pos ps.toList = none)
    (hcl : closureFor scope (envX cn cs L a ccd cl) = pure clos)
    (h : ∀ f c' oc vs t ctv h' tk, Fr h₀ L h' m →
      News h₀ L h' ((f, kla_obj name qual params body scope clos ((mg "__name__").getD .none) c' ctv) :: (c', oc) :: updL P (tabObj (ps ++ #[rawInt pos.line, rawInt pos.col, .ref c'])) news) →
      oc.data = .fields vs → vs[1]? = some (.str qual t) → (∀ q ∈ news, q.1 < c') → c' < f → Q (.ref f) { s with heap := h', toks := tk }) :
    wpAny M A (makeFunction name qual params (.expr body) scope (envX cn cs L a ccd cl) [] [] [] pos firstLine) Q E s :=
  kla_nest F (toHead N hm) T C hcd (.head offL_ne) ht hnf hcl fun f c' oc vs t ctv h' tk F' N' hd hv l1 l2 => by
    have l3 : ∀ q ∈ news, q.1 < c' := fun q hq => by
      by_cases e : q.1 = P
      · have := l1 _ (.head _); rw [e]; exact this
      · exact l1 q (.tail _ (List.mem_filter.mpr ⟨hq, by simpa using e⟩))
    refine h f c' oc vs t ctv h' tk F' (fun q hq => ?_) hd hv l3 l2
    rcases List.mem_cons.mp hq with rfl | hq
    · exact N' _ (.head _)
    · rcases List.mem_cons.mp hq with rfl | hq
      · exact N' _ (.tail _ (.head _))
      · exact ofHead (fun q hq => N' q (.tail _ (.tail _ hq))) q hq
/-- a lambda is made, the first time or again -/
theorem lam_any {Q : Value → Shared → Prop} (F : Fr h₀ L s.heap m) (N : News h₀ L s.heap news) (T : Top p loose mean mg mb h₀) (C : CodeHd h₀ c P) (hcd : ccd = .ref c) (hT : TabOk P pos qual news)
    (hcl : closureFor scope (envX cn cs L a ccd cl) = pure clos)
    (h : ∀ f c' oc vs t ctv news' h' tk, Fr h₀ L h' m → News h₀ L h' news' → (f, kla_obj name qual params body scope clos ((mg "__name__").getD .none) c' ctv) ∈ news' → (c', oc) ∈ news' → oc.data = .fields vs → vs[1]? = some (.str qual t) →
      But P news news' → TabOk P pos qual news' → Q (.ref f) { s with heap := h', toks := tk }) :
    wpAny M A (makeFunction name qual params (.expr body) scope (envX cn cs L a ccd cl) [] [] [] pos firstLine) Q E s := by
  obtain ⟨ps, hm, ht, hq | ⟨c', oc, vs, t, hq, hc, hd, hv⟩⟩ := hT
  · refine lam_new F N T C hcd hm ht hq hcl fun f c' oc vs t ctv h' tk F' N' hd hv l1 l2 => ?_
    refine h f c' oc vs t ctv _ h' tk F' N' (.head _) (.tail _ (.head _)) hd hv (((But.refl _ _).upd _).cons _ |>.cons _) ⟨_, .tail _ (.tail _ (mem_updL_self hm)), ?_, .inr ⟨c', oc, vs, t, ?_, .tail _ (.head _), hd, hv⟩⟩
    · rw [Array.toList_append]; exact TriplesOk_snoc _ _ _ _ ht
    · rw [Array.toList_append]; exact codeAmong_snoc _ ht hq
  · refine kla_hit F N T C hcd hm ht hq hcl fun f ctv h' tk F' N' l1 => ?_
    exact h f c' oc vs t ctv _ h' tk F' N' (.head _) (.tail _ hc) hd hv ((But.refl _ _).cons _) ⟨ps, .tail _ hm, ht, .inr ⟨c', oc, vs, t, hq, .tail _ hc, hd, hv⟩⟩
end

theorem Tab.lists {w : World} {news news' : Led} {x td b0 : Addr} {M : Tm} {many : Int} (h : Tab w news x td b0 M many) (hk : ∀ q ∈ news, tagO q.2 ≠ 1 → q ∈ news') (hl : ∀ p n, M p = some n → (n.l, n.lst) ∈ news') : Tab w news' x td b0 M many := by
  obtain ⟨hin, ⟨t0, t1, tm, hdt⟩, TI, W, hb0⟩ := h
  exact ⟨hk _ hin (show (0 : Nat) ≠ 1 by decide), ⟨t0, t1, tm, hk _ hdt (show (12 : Nat) ≠ 1 by decide)⟩,
    ⟨fun p n hp => hk _ (TI.inst p n hp) (show (0 : Nat) ≠ 1 by decide), fun p n hp => hk _ (TI.dict p n hp) (show (13 : Nat) ≠ 1 by decide), hl,
      fun p n hp r hr => ⟨⟨hk _ (TI.rts p n hp r hr).1.1 (show (0 : Nat) ≠ 1 by decide), hk _ (TI.rts p n hp r hr).1.2 (show (15 : Nat) ≠ 1 by decide)⟩, (TI.rts p n hp r hr).2⟩⟩, W, hb0⟩
noncomputable abbrev posA : Pos := ⟨196, 22, 196, 82⟩
noncomputable abbrev posR : Pos := ⟨212, 26, 212, 59⟩
noncomputable abbrev qualA : Str := Str.ofString "_law_added_right" ++ ".<locals>." ++ "<lambda>"
noncomputable abbrev qualR : Str := Str.ofString "_law_removed_right" ++ ".<locals>." ++ "<lambda>"
/-- an entry that none of the law's helpers turns -/
noncomputable def Still (q : Addr × Obj) : Prop := tagO q.2 = 2 ∧ (∀ v, q.2.data ≠ .cell v) ∧ q.1 ≠ 306 ∧ q.1 ≠ 313
/-- the law's objects: the source, the table, the rows; and what stands by -/
structure LawObj (kk : Led) (w : World) (news : Led) (so x td b0 rl : Addr) (M : Tm) (many : Int) (rr : List Rw) : Prop where
  src : ∃ o, (so, o) ∈ news ∧ SrcO o
  tab : Tab w news x td b0 M many
  rows : ∃ c, (rl, listOf (rowVals rr).toArray c) ∈ news
  row : ∀ r ∈ rr, (r.a, r.obj) ∈ news
  nd : (rr.map (·.a)).Nodup
  offs : Off M so
  offl : Off M rl
  offr : ∀ r ∈ rr, Off M r.a
  t1 : TabOk 306 posA qualA news
  t2 : TabOk 313 posR qualR news
  t3 : ∀ q ∈ kk, q ∈ news ∧ Still q
theorem seq_same {xs ys : List Value} {c c' : Nat} (h : listOf xs.toArray c = listOf ys.toArray c') : xs = ys := by
  have h := congrArg Obj.data h
  have h : Data.seq xs.toArray c = Data.seq ys.toArray c' := h
  injection h with h _
  injection h
section
variable {kk : Led} {w : World} {news news' : Led} {so x td b0 rl : Addr} {M M' : Tm} {many many' : Int} {rr rr' : List Rw} {h₀ h : Heap} {L : Addr}
theorem srcO_tag {o : Obj} (h : SrcO o) : tagO o = 1 := by obtain ⟨_, _, _, _, _, rfl, _⟩ := h; rfl
theorem LawObj.so_rl (O : LawObj kk w news so x td b0 rl M many rr) (N : News h₀ L h news) : so ≠ rl := fun e => by
  obtain ⟨o, ho, a, b, ta, tb, c, rfl, _⟩ := O.src
  obtain ⟨c', hc⟩ := O.rows
  subst e
  have := seq_same (xs := [.int a ta, .int b tb]) (get_same N ho hc)
  cases rr with
  | nil => cases this
  | cons r l => injection this with h1 _; cases h1
theorem LawObj.so_r (O : LawObj kk w news so x td b0 rl M many rr) (N : News h₀ L h news) {r : Rw} (hr : r ∈ rr) : so ≠ r.a := fun e => by
  obtain ⟨o, ho, a, b, ta, tb, c, rfl, _⟩ := O.src
  have h1 := O.row r hr
  rw [← e] at h1
  have := seq_same (xs := [.int a ta, .int b tb]) (ys := [_, _, _, _, _]) (get_same N ho h1)
  have := congrArg List.length this
  simp at this
theorem LawObj.rl_r (O : LawObj kk w news so x td b0 rl M many rr) (N : News h₀ L h news) {r : Rw} (hr : r ∈ rr) : rl ≠ r.a := fun e => by
  obtain ⟨c', hc⟩ := O.rows
  have h1 := O.row r hr
  rw [← e] at h1
  have := seq_same (ys := [_, _, _, _, _]) (get_same N hc h1)
  cases rr with
  | nil => cases hr
  | cons r l => injection this with h1 _; cases h1
theorem LawObj.gen (O : LawObj kk w news so x td b0 rl M many rr) (hk : ∀ q ∈ news, tagO q.2 ≠ 1 → q ∈ news') (hl : ∀ p n, M p = some n → (n.l, n.lst) ∈ news')
    (hs : ∃ o, (so, o) ∈ news' ∧ SrcO o) (hr : ∃ c, (rl, listOf (rowVals rr').toArray c) ∈ news') (hrow : ∀ r ∈ rr', (r.a, r.obj) ∈ news') (hnd : (rr'.map (·.a)).Nodup) (ho : ∀ r ∈ rr', Off M r.a) : LawObj kk w news' so x td b0 rl M many rr' :=
  ⟨hs, O.tab.lists hk hl, hr, hrow, hnd, O.offs, O.offl, ho, O.t1.two fun q hq e => hk q hq (by omega), O.t2.two fun q hq e => hk q hq (by omega), fun q hq => ⟨hk q (O.t3 q hq).1 (by have := (O.t3 q hq).2.1; omega), (O.t3 q hq).2⟩⟩
/-- the source alone has turned -/
theorem LawObj.but (O : LawObj kk w news so x td b0 rl M many rr) (N : News h₀ L h news) (hb : But so news news') {o : Obj} (ho : (so, o) ∈ news') (hs : SrcO o) : LawObj kk w news' so x td b0 rl M many rr := by
  obtain ⟨o₀, ho₀, hs₀⟩ := O.src
  obtain ⟨c, hc⟩ := O.rows
  refine O.gen (fun q hq ht => hb q hq fun e => ht ?_) (fun p n hp => hb _ (O.tab.T.list p n hp) (O.offs p n hp).2.symm) ⟨o, ho, hs⟩ ⟨c, hb _ hc (O.so_rl N).symm⟩ (fun r hr => hb _ (O.row r hr) (O.so_r N hr).symm) O.nd O.offr
  have e1 := get_same N ho₀ (show (so, q.2) ∈ news by rw [← e]; exact hq)
  rw [← e1]; exact srcO_tag hs₀
/-- the table alone has turned -/
theorem LawObj.kept (O : LawObj kk w news so x td b0 rl M many rr) (N : News h₀ L h news) (T : Tab w news' x td b0 M' many') (K : Kept news td M news' M') : LawObj kk w news' so x td b0 rl M' many' rr := by
  obtain ⟨o₀, ho₀, hs₀⟩ := O.src
  obtain ⟨c, hc⟩ := O.rows
  obtain ⟨t0, t1, tm, hdt⟩ := O.tab.dict
  have ntd : ∀ (q : Addr × Obj) (t : Nat), q ∈ news → tagO q.2 = t → t ≠ 12 → q.1 ≠ td := fun q t hq ht hn => ne_tag N hq hdt ht (t' := 12) rfl hn
  have k1 := K _ ho₀ O.offs (ntd _ 1 ho₀ (srcO_tag hs₀) (by decide))
  have k2 := K _ hc O.offl (ntd _ 1 hc rfl (by decide))
  have k3 := fun r hr => K _ (O.row r hr) (O.offr r hr) (ntd _ 1 (O.row r hr) rfl (by decide))
  have two : ∀ q ∈ news, tagO q.2 = 2 → q ∈ news' := fun q hq ht => (K q hq (off_cell N O.tab.T hq ht) (ntd q 2 hq ht (by decide))).1
  exact ⟨⟨_, k1.1, hs₀⟩, T, ⟨c, k2.1⟩, fun r hr => (k3 r hr).1, O.nd, k1.2, k2.2, fun r hr => (k3 r hr).2, O.t1.two two, O.t2.two two, fun q hq => ⟨two q (O.t3 q hq).1 (O.t3 q hq).2.1, (O.t3 q hq).2⟩⟩
/-- the rows alone have turned -/
theorem LawObj.put (O : LawObj kk w news so x td b0 rl M many rr) (N : News h₀ L h news) (hk : ∀ q ∈ news, q.1 ≠ rl → (∀ r ∈ rr, q.1 ≠ r.a) → q ∈ news')
    {c : Nat} (hr : (rl, listOf (rowVals rr').toArray c) ∈ news') (hrow : ∀ r ∈ rr', (r.a, r.obj) ∈ news') (hnd : (rr'.map (·.a)).Nodup) (ho : ∀ r ∈ rr', Off M r.a) : LawObj kk w news' so x td b0 rl M many rr' := by
  obtain ⟨o₀, ho₀, hs₀⟩ := O.src
  obtain ⟨c₀, hc⟩ := O.rows
  refine O.gen (fun q hq ht => hk q hq (fun e => ht ?_) fun r hr e => ht ?_) (fun p n hp => hk _ (O.tab.T.list p n hp) (O.offl p n hp).2.symm fun r hr => (O.offr r hr p n hp).2.symm) ⟨o₀, hk _ ho₀ (O.so_rl N) fun r hr => O.so_r N hr, hs₀⟩ ⟨c, hr⟩ hrow hnd ho
  · have e1 := get_same N hc (show (rl, q.2) ∈ news by rw [← e]; exact hq)
    rw [← e1]; rfl
  · have e1 := get_same N (O.row r hr) (show (r.a, q.2) ∈ news by rw [← e]; exact hq)
    rw [← e1]; rfl
/-- the ledger has grown -/
theorem LawObj.mono (O : LawObj kk w news so x td b0 rl M many rr) (hs : Sub news news') : LawObj kk w news' so x td b0 rl M many rr := by
  obtain ⟨o, ho, h1⟩ := O.src
  obtain ⟨c, hc⟩ := O.rows
  exact ⟨⟨o, hs _ ho, h1⟩, O.tab.mono hs, ⟨c, hs _ hc⟩, fun r hr => hs _ (O.row r hr), O.nd, O.offs, O.offl, O.offr, O.t1.two fun q hq _ => hs q hq, O.t2.two fun q hq _ => hs q hq, fun q hq => ⟨hs _ (O.t3 q hq).1, (O.t3 q hq).2⟩⟩
end
section
variable {M : Model} {A : Around} {E : Value → Shared → Prop} {s : Shared} {h₀ : Heap} {L a : Addr} {m : Str → Option Value} {cn : Str} {cs : Scope} {ccd : Value} {cl : List (Str × Addr)}
  {x : Str} {v : Value} {Q : Unit → Shared → Prop} {news : List (Addr × Obj)} {c : Addr} {o : Obj} {v₀ : Option Value}
theorem store_cU (F : Fr h₀ L s.heap m) (N : News h₀ L s.heap news) (hc : cl.lookup x = some c) (hm : (c, o) ∈ news) (hd : o.data = .cell v₀)
    (h : ∀ h' o', Fr h₀ L h' m → News h₀ L h' (updL c o' news) → o'.data = .cell (some v) → Q () { s with heap := h' })
    (hk : cs.kind = .function := by rfl) (hx : (envX cn cs L a ccd cl).kindOf x = some .cell := by rfl) : wpAny M A (storeName (envX cn cs L a ccd cl) x v) Q E s :=
  storeX_C F (toHead N hm) hc (.head offL_ne) hd (fun h' o' F' N' d => h h' o' F' (ofHead N') d) hk hx
end
theorem tab_code_ne {h₀ h : Heap} {L P c' : Addr} {news : Led} {ps vs : Array Value} {oc : Obj} {q : Str} {t : Tok} (N : News h₀ L h news) (hp : (P, tabObj ps) ∈ news) (ht : TriplesOk ps.toList) (hc : (c', oc) ∈ news) (hd : oc.data = .fields vs) (hv : vs[1]? = some (.str q t)) : c' ≠ P := fun e => by
  subst e
  have h1 := get_same N hc hp
  subst h1
  have hd : Data.fields ps = Data.fields vs := hd
  injection hd with hd
  subst hd
  obtain ⟨l⟩ := ps
  unfold TriplesOk at ht
  split at ht
  · rename_i e9; have e9 : l = [] := e9; rw [e9] at hv; simp at hv
  · rename_i e9; have e9 : l = _ := e9; rw [e9] at hv; simp at hv
  · exact ht
theorem TabOk.but {h₀ h : Heap} {L P P' : Addr} {pos : Pos} {qual : Str} {news news' : Led} {ps : Array Value} (hT : TabOk P' pos qual news) (N : News h₀ L h news) (hp : (P, tabObj ps) ∈ news) (ht : TriplesOk ps.toList) (hne : P' ≠ P) (hb : But P news news') : TabOk P' pos qual news' := by
  obtain ⟨qs, h1, h2, h3⟩ := hT
  refine ⟨qs, hb _ h1 hne, h2, h3.imp id ?_⟩
  rintro ⟨c', oc, vs, t, e, hm, hd, hv⟩
  exact ⟨c', oc, vs, t, e, hb _ hm (tab_code_ne N hp ht hm hd hv), hd, hv⟩
section
variable {kk : Led} {w : World} {news news' : Led} {so x td b0 rl : Addr} {M M' : Tm} {many many' : Int} {rr rr' : List Rw} {h₀ h : Heap} {L : Addr}
/-- a code table alone has turned -/
theorem LawObj.butP (O : LawObj kk w news so x td b0 rl M many rr) (N : News h₀ L h news) {P : Addr} {ps : Array Value} (hP : (P, tabObj ps) ∈ news) (hne : ∀ q ∈ kk, q.1 ≠ P) (hb : But P news news') (h1 : TabOk 306 posA qualA news') (h2 : TabOk 313 posR qualR news') : LawObj kk w news' so x td b0 rl M many rr := by
  obtain ⟨o₀, ho₀, hs₀⟩ := O.src
  obtain ⟨c, hc⟩ := O.rows
  have ne : ∀ (q : Addr × Obj) (t : Nat), q ∈ news → tagO q.2 = t → t ≠ 2 → q.1 ≠ P := fun q t hq ht hn => ne_tag N hq hP ht (t' := 2) rfl hn
  obtain ⟨hin, ⟨t0, t1, tm, hdt⟩, TI, W, hb0⟩ := O.tab
  refine ⟨⟨o₀, hb _ ho₀ (ne _ 1 ho₀ (srcO_tag hs₀) (by decide)), hs₀⟩, ⟨hb _ hin (ne _ 0 hin rfl (by decide)), ⟨t0, t1, tm, hb _ hdt (ne _ 12 hdt rfl (by decide))⟩, ⟨fun p n hp => hb _ (TI.inst p n hp) (ne _ 0 (TI.inst p n hp) rfl (by decide)), fun p n hp => hb _ (TI.dict p n hp) (ne _ 13 (TI.dict p n hp) rfl (by decide)), fun p n hp => hb _ (TI.list p n hp) (ne _ 1 (TI.list p n hp) rfl (by decide)),
    fun p n hp r hr => ⟨⟨hb _ (TI.rts p n hp r hr).1.1 (ne _ 0 (TI.rts p n hp r hr).1.1 rfl (by decide)), hb _ (TI.rts p n hp r hr).1.2 (ne _ 15 (TI.rts p n hp r hr).1.2 rfl (by decide))⟩, (TI.rts p n hp r hr).2⟩⟩, W, hb0⟩,
    ⟨c, hb _ hc (ne _ 1 hc rfl (by decide))⟩, fun r hr => hb _ (O.row r hr) (ne _ 1 (O.row r hr) rfl (by decide)), O.nd, O.offs, O.offl, O.offr, h1, h2, fun q hq => ⟨hb q (O.t3 q hq).1 (hne q hq), (O.t3 q hq).2⟩⟩
theorem LawObj.but306 (O : LawObj kk w news so x td b0 rl M many rr) (N : News h₀ L h news) (hb : But 306 news news') (h1 : TabOk 306 posA qualA news') : LawObj kk w news' so x td b0 rl M many rr := by
  obtain ⟨ps, hp, ht, _⟩ := id O.t1
  exact O.butP N hp (fun q hq => (O.t3 q hq).2.2.2.1) hb h1 (O.t2.but N hp ht (neN (by decide)) hb)
theorem LawObj.but313 (O : LawObj kk w news so x td b0 rl M many rr) (N : News h₀ L h news) (hb : But 313 news news') (h2 : TabOk 313 posR qualR news') : LawObj kk w news' so x td b0 rl M many rr := by
  obtain ⟨ps, hp, ht, _⟩ := id O.t2
  exact O.butP N hp (fun q hq => (O.t3 q hq).2.2.2.2) hb (O.t1.but N hp ht (neN (by decide)) hb) h2
end
theorem specx_add (prog : Program) (w : World) (x : Addr) (r : Rt) (news : Led) (hr : RtIn w news r) (hbad : ¬ (0 ≤ r.g ∧ r.g ≤ 4294967295 ∧ 0 ≤ r.p ∧ r.p ≤ 32 ∧ 0 ≤ r.n ∧ r.n ≤ 4294967295 ∧ r.n % pw (32 - r.p) = 0)) :
    SpecX prog w 215 8 64 [.ref x, .ref r.x] news (fun news' => Sub news news') := by
  by_cases hfar : r.n < 0 ∨ 4294967295 < r.n ∨ r.g < 0 ∨ 4294967295 < r.g
  · exact specx_add_far prog w x r news hr hfar
  · by_cases hp : r.p < 0 ∨ 32 < r.p
    · exact specx_add_net prog w x r news hr (by (clear hbad hp; omega)) (by (clear hbad hp; omega)) (by (clear hbad hp; omega)) (by (clear hbad hp; omega)) hp
    · exact specx_add_bits prog w x r news hr (by (clear hbad hp; omega)) (by (clear hbad hp; omega)) (by (clear hbad hp; omega)) (by (clear hbad hp; omega)) (by (clear hbad hfar; omega)) (by (clear hbad hfar; omega)) fun e => hbad ⟨by (clear e hbad hp; omega), by (clear e hbad hp; omega), by (clear e hbad hfar; omega), by (clear e hbad hfar; omega), by (clear e hbad hp; omega), by (clear e hbad hp; omega), netOf_rem (by (clear e hbad hp; omega)) (by (clear e hbad hp; omega)) e⟩
section
variable {kk : Led} {w : World} {news news' n2 : Led} {so x td b0 rl : Addr} {M M' : Tm} {many many' : Int} {rr rr' : List Rw} {h₀ h : Heap} {L : Addr}
theorem nodup_at {l : List Addr} (h : l.Nodup) {i j : Nat} {a : Addr} (hi : l[i]? = some a) (hj : l[j]? = some a) : i = j := by
  obtain ⟨h1, e1⟩ := List.getElem?_eq_some_iff.mp hi
  obtain ⟨h2, e2⟩ := List.getElem?_eq_some_iff.mp hj
  have hp := List.pairwise_iff_getElem.mp h
  rcases Nat.lt_trichotomy i j with q | q | q
  · exact absurd (e1.trans e2.symm) (hp i j h1 h2 q)
  · exact q
  · exact absurd (e2.trans e1.symm) (hp j i h2 h1 q)
theorem set_self {α : Type} {l : List α} {i : Nat} {a : α} (h : l[i]? = some a) : l.set i a = l := by
  refine List.ext_getElem? fun j => ?_
  rw [List.getElem?_set]
  split
  · next e =>
    subst e
    obtain ⟨h1, e1⟩ := List.getElem?_eq_some_iff.mp h
    rw [if_pos h1, h]
  · rfl
theorem LawObj.setRow (O : LawObj kk w news so x td b0 rl M many rr) (N : News h₀ L h news) {i : Nat} {r r' : Rw} (hi : rr[i]? = some r) (ha : r'.a = r.a) (hs : Sub news n2) : LawObj kk w (updL r.a r'.obj n2) so x td b0 rl M many (rr.set i r') := by
  obtain ⟨c, hc⟩ := O.rows
  have hr := List.mem_of_getElem? hi
  have hv : rowVals (rr.set i r') = rowVals rr := by
    unfold rowVals
    rw [List.map_set, ha]
    exact set_self (by rw [List.getElem?_map, hi]; rfl)
  have hm : (rr.set i r').map (·.a) = rr.map (·.a) := by
    rw [List.map_set, ha]
    exact set_self (by rw [List.getElem?_map, hi]; rfl)
  have cases' : ∀ r'' ∈ rr.set i r', r'' = r' ∨ (r'' ∈ rr ∧ r''.a ≠ r.a) := fun r'' hr'' => by
    obtain ⟨j, hj⟩ := List.mem_iff_getElem?.mp hr''
    rw [List.getElem?_set] at hj
    by_cases e : i = j
    · rw [if_pos e] at hj
      split at hj
      · exact .inl (Option.some.inj hj).symm
      · cases hj
    · rw [if_neg e] at hj
      refine .inr ⟨List.mem_of_getElem? hj, fun ea => e ?_⟩
      exact nodup_at O.nd (a := r.a) (by rw [List.getElem?_map, hi]; rfl) (by rw [List.getElem?_map, hj]; exact congrArg some ea)
  refine O.put N (rr' := rr.set i r') (c := c) (fun q hq _ h2 => mem_updL_ne (hs q hq) (h2 r hr)) ?_ (fun r'' hr'' => ?_) (hm ▸ O.nd) fun r'' hr'' => ?_
  · rw [hv]; exact mem_updL_ne (hs _ hc) (O.rl_r N hr)
  · rcases cases' r'' hr'' with rfl | ⟨h1, h2⟩
    · rw [ha]; exact mem_updL_self (hs _ (O.row r hr))
    · exact mem_updL_ne (hs _ (O.row r'' h1)) h2
  · rcases cases' r'' hr'' with rfl | ⟨h1, _⟩
    · rw [ha]; exact O.offr r hr
    · exact O.offr r'' h1
theorem LawObj.addRow (O : LawObj kk w news so x td b0 rl M many rr) (N : News h₀ L h news) {r' : Rw} {c : Nat} (hs : Sub news n2) (hl : (r'.a, r'.obj) ∈ n2) (hf : ∀ q ∈ news, q.1 ≠ r'.a) : LawObj kk w (updL rl (listOf (rowVals rr ++ [Value.ref r'.a]).toArray c) n2) so x td b0 rl M many (rr ++ [r']) := by
  obtain ⟨c₀, hc⟩ := O.rows
  refine O.put N (rr' := rr ++ [r']) (c := c) (fun q hq h1 _ => mem_updL_ne (hs q hq) h1) ?_ (fun r hr => ?_) ?_ fun r hr => ?_
  · have e : rowVals (rr ++ [r']) = rowVals rr ++ [Value.ref r'.a] := by unfold rowVals; rw [List.map_append]; rfl
    rw [e]; exact mem_updL_self (hs _ hc)
  · rcases List.mem_append.mp hr with hr | hr
    · exact mem_updL_ne (hs _ (O.row r hr)) (O.rl_r N hr).symm
    · obtain rfl := List.mem_singleton.mp hr
      exact mem_updL_ne hl (hf _ hc).symm
  · rw [List.map_append]
    refine List.nodup_append.mpr ⟨O.nd, by simp, fun a ha b hb => ?_⟩
    obtain ⟨r, hr, rfl⟩ := List.mem_map.mp ha
    rw [List.map_singleton, List.mem_singleton] at hb
    rw [hb]
    exact hf _ (O.row r hr)
  · rcases List.mem_append.mp hr with hr | hr
    · exact O.offr r hr
    · obtain rfl := List.mem_singleton.mp hr
      exact (far_of O.tab.T hf).off
end
theorem rowVals_get {rr : List Rw} {i : Nat} {v : Value} (h : (rowVals rr)[i]? = some v) : ∃ r, rr[i]? = some r ∧ v = .ref r.a := by
  rw [List.getElem?_map] at h
  cases hr : rr[i]? with
  | none => rw [hr] at h; cases h
  | some r => rw [hr] at h; exact ⟨r, rfl, (Option.some.inj h).symm⟩
theorem row_filter {rr : List Rw} {i : Nat} {r : Rw} (h : rr[i]? = some r) (p : Rw → Bool) : (rr.take (i + 1)).filter p = (rr.take i).filter p ++ if p r then [r] else [] := by
  rw [List.take_succ, h]
  simp only [Option.toList_some, List.filter_append, List.filter_cons, List.filter_nil]

set_option maxRecDepth 100000 in
set_option maxHeartbeats 2000000 in
theorem spec_added (prog : Program) (w : World) (kk : Led) (so x td b0 rl : Addr) (M : Tm) (rr : List Rw) (news : Led) (O : LawObj kk w news so x td b0 rl M rr.length rr) (hal : Alike M (numsOf rr)) (hz : rr.length ≤ 50) :
    SpecT prog w 311 16 128 [.ref so, .ref x, .ref rl] news (fun news v news' => v = .bool true ∧ ∃ M' rr', LawObj kk w news' so x td b0 rl M' rr'.length rr' ∧ Alike M' (numsOf rr') ∧ rr'.length ≤ rr.length + 1) := by
  intro p loose mean mg mb dp un gd cn cs a ccd cl outer A₀ base h₀ L m s Q E B F X N T hk Z Dc hD hU hret
  obtain mk_F21_1 : True := trivial
  obtain ⟨o, hso, hsrc⟩ := O.src
  walk_at "m_enterTC"
  rename_i g9 L9 h9 tk9 FG9 F9 X9 T9 D9 o1 o2 o3 o4 o5 o6 d1 d2 d3 d4 d5 d6
  replace d6 := d6.trans (show _ = Data.cell (some (.ref x)) from rfl)
  replace d5 := d5.trans (show _ = Data.cell none from rfl)
  replace d4 := d4.trans (show _ = Data.cell none from rfl)
  replace d3 := d3.trans (show _ = Data.cell none from rfl)
  replace d2 := d2.trans (show _ = Data.cell none from rfl)
  replace d1 := d1.trans (show _ = Data.cell none from rfl)
  obtain hsoL := Nat.ne_of_lt (l9 _ hso)
  obtain hsoL' := l9 _ hso
  k_with "m_cell" => (guard_hyp mk_F21_1; skip)
  k_with "spec" => (guard_hyp mk_F21_1; exact spec_law_net _ _ _ _ _ (by k_mem) hsrc)
  k_with "post" => (guard_hyp mk_F21_1; (rename_i n9 h9 tk9 F9 N9 P9; obtain ⟨nx, ny, tx, ty, qt, o9, rfl, hq9, hx0, hx1, hy0, hy1, hs9, hm9, hb9⟩ := P9; obtain st9 := Stopped.mk))
  k_steps
  refine hide ?_
  intro GG0 hGG0
  simp only [List.forall_mem_cons] at hb9
  obtain ⟨k1, k2, k3, k4, k5, k6, hb9⟩ := hb9
  obtain hL9 : @LT.lt Nat _ so L9 := hsoL'
  replace k1 := k1 (neN (by (clear hD hGG0 hU hsoL hx0 hx1 hy0 hy1 hz k1 k2 k3 k4 k5 k6; omega)))
  replace k2 := k2 (neN (by (clear hD hGG0 hU hsoL hx0 hx1 hy0 hy1 hz k2 k3 k4 k5 k6; omega)))
  replace k3 := k3 (neN (by (clear hD hGG0 hU hsoL hx0 hx1 hy0 hy1 hz k3 k4 k5 k6; omega)))
  replace k4 := k4 (neN (by (clear hD hGG0 hU hsoL hx0 hx1 hy0 hy1 hz k4 k5 k6; omega)))
  replace k5 := k5 (neN (by (clear hD hGG0 hU hsoL hx0 hx1 hy0 hy1 hz k5 k6; omega)))
  replace k6 := k6 (neN (by (clear hD hGG0 hU hsoL hx0 hx1 hy0 hy1 hz k6; omega)))
  obtain hq9L : @LT.lt Nat _ L9 qt ∨ True := .inr trivial
  refine hGG0 ?_
  (try clear hGG0 GG0)
  all_goals (change wpAny _ _ _ _ _ _)
  k_with "lam" => (guard_hyp mk_F21_1; skip)
  k_with "powU" => (guard_hyp mk_F21_1; skip)
  k_with "mulU" => (guard_hyp mk_F21_1; skip)
  k_with "spec" => (guard_hyp mk_F21_1; first | exact spec_take _ _ _ _ _ _ _ (by k_mem) (by assumption) (by walk_at "m_om") (by walk_at "m_om") | exact spec_law_all _ _ _ | exact spec_oneI _ _ _ _ _ _ _ (-1) 4294967296 _ (by k_mem) (by assumption) (by k_mem) (by first | exact ne_lt (by assumption) (by k_mem) | exact ne_all (by assumption) (by k_mem)) (by exact Nat.succ_pos _) (by exact Nat.le_of_ble_eq_true rfl) (by walk_at "m_ints"))
  k_with "post" => (guard_hyp mk_F21_1; (rename_i P9; first | (obtain ⟨rfl, t9, rfl⟩ := P9) | (obtain ⟨y9, t9, o9, rfl, hy0, hy1, hz9⟩ := P9; first | (obtain ⟨rfl, ho9⟩ := hz9) | (obtain ⟨hy2, rfl, ho9⟩ := hz9))))
  k_steps
  rename News g9 L9 _ _ => NA
  rename_i hA hB oN dN hC oP dP hD tkD tD qkD ekD lD hE lE hF tkF yg tg og hg0 hg1 hog qk1 ek1 hh1 tkk1 yf tf of hf0 hf1 hof qk2 ek2 aa hh2 ll hh3 hh4 oG dG hh5 oF dF hh6 tk6 hh7 oM FF dM
  refine hide ?_
  intro GG0 hGG0
  obtain ⟨nA, NA', q1, q2, q3, q4, q5, q6, qs, qb⟩ : ∃ nA, News g9 L9 hh7 nA ∧ (L9 + 1 + 1 + 1 + 1 + 1 + 1, oP) ∈ nA ∧ (L9 + 1 + 1 + 1 + 1 + 1, oN) ∈ nA ∧ (L9 + 1 + 1 + 1 + 1, oM) ∈ nA ∧ (L9 + 1 + 1 + 1, oG) ∈ nA ∧ (L9 + 1 + 1, oF) ∈ nA ∧ (L9 + 1, o6) ∈ nA ∧ (so, o9) ∈ nA ∧ But so news nA :=
    ⟨_, NA, by k_mem, by k_mem, by k_mem, by k_mem, by k_mem, by k_mem, by k_mem, by
      rintro ⟨pa, po⟩ hp hne
      obtain hpL : @LT.lt Nat _ pa L9 := l9 _ hp
      obtain hp9 := hb9 _ hp hne
      dsimp only at hne
      walk_at "m_mem"⟩
  clear NA
  obtain OA := O.but N qb qs ho9
  obtain h306 : @LT.lt Nat _ 306 L9 := (by obtain ⟨ps, hps, _⟩ := O.t1; exact l9 _ hps)
  refine hGG0 ?_
  (try clear hGG0 GG0)
  refine lam_any (P := 306) (c := 310) FF NA' T9 (Z.c2.keeps B9.stays) rfl OA.t1 rfl ?_
  intro f9 c9 oc9 vs9 tt9 ctv9 nB hB tkB FB NB hfB hcB hdB hvB hbB htB
  refine hide ?_
  intro GG0 hGG0
  obtain OB := OA.but306 NA' hbB htB
  obtain q1 := hbB _ q1 (neN (by (clear hGG0 hU hf0 hf1 hg0 hg1 hq9L hsoL hsoL' hx0 hx1 hy0 hy1 hz; omega)))
  obtain q2 := hbB _ q2 (neN (by (clear hGG0 hU hf0 hf1 hg0 hg1 hq9L hsoL hsoL' hx0 hx1 hy0 hy1 hz; omega)))
  obtain q3 := hbB _ q3 (neN (by (clear hGG0 hU hf0 hf1 hg0 hg1 hq9L hsoL hsoL' hx0 hx1 hy0 hy1 hz; omega)))
  obtain q4 := hbB _ q4 (neN (by (clear hGG0 hU hf0 hf1 hg0 hg1 hq9L hsoL hsoL' hx0 hx1 hy0 hy1 hz; omega)))
  obtain q5 := hbB _ q5 (neN (by (clear hGG0 hU hf0 hf1 hg0 hg1 hq9L hsoL hsoL' hx0 hx1 hy0 hy1 hz; omega)))
  obtain q6 := hbB _ q6 (neN (by (clear hGG0 hU hf0 hf1 hg0 hg1 hq9L hsoL hsoL' hx0 hx1 hy0 hy1 hz; omega)))
  obtain ⟨hinB, ⟨u0, u1, um, hdtB⟩, _, _, _⟩ := id OB.tab
  obtain codeB := Z.c2
  refine hGG0 ?_
  (try clear hGG0 GG0)
  by_cases hgood : 0 ≤ yg ∧ yg ≤ 4294967295 ∧ 0 ≤ ny ∧ ny ≤ 32 ∧ 0 ≤ nx ∧ nx ≤ 4294967295 ∧ nx % pw (32 - ny) = 0
  case neg =>
    obtain S : SpecX prog w f9 12 96 [] nB (fun n' => Sub nB n') := (by
      intro p loose mean mg mb dp un gd cn cs a ccd cl outer A₀ base h₀ L m s Q E B F X N T hk hd hu hret
      k_with "spec" => (guard_hyp mk_F21_1; exact spec_newRoute _ _ _ _ _ _ _ _)
      k_with "post" => (guard_hyp mk_F21_1; (rename_i P9; obtain ⟨b8, d8, e0, e1, e2, e3, e4, rfl, rfl, l8, l7⟩ := P9))
      k_with "specx" => (guard_hyp mk_F21_1; exact specx_add _ _ _ ⟨b8, d8, (e0, e1, e2, e3, e4), (tx, ty, tg, tf, t9), nx, ny, yg, yf, y9⟩ _ ⟨.head _, .tail _ (.head _)⟩ hgood)
      walk_at "m_enterL"
      k_steps
      all_goals exact hret _ _ _ _ _ _ _ (Sub.trans (Sub.cons _ (Sub.cons _ (Sub.refl _))) (by assumption)) (by k_asm) (by assumption) (by assumption))
    k_with "specT" => (guard_hyp mk_F21_1; exact spec_heardX _ _ _ _ _ _ _ _ hfB _ S)
    k_with "postT" => (guard_hyp mk_F21_1; (subst he9; rename_i n9 g9 h9 tk9 T9 F9 N9 B9 X9 P9 D9 Q9; obtain ⟨⟨tt9, rfl⟩, hsub9⟩ := Q9; obtain q1 := hsub9 _ q1; obtain q2 := hsub9 _ q2; obtain q4 := hsub9 _ q4; obtain OC := OB.mono hsub9))
    k_with "callF" => (guard_hyp mk_F21_1; skip)
    k_with "storeName" => (guard_hyp mk_F21_1; (refine Stop.go ?_))
    k_steps
    all_goals (change wpAny _ _ _ _ _ _)
    (try clear mk_F21_1)
    obtain mk_F21_2 : True := trivial
    k_with "spec" => (guard_hyp mk_F21_2; first | exact spec_law_all _ _ _ | exact spec_law_is_well _ _ _ _ _ _ _ (by walk_at "m_om") (by walk_at "m_om"))
    k_with "post" => (guard_hyp mk_F21_2; (rename_i P9; first | (obtain ⟨rfl, t8, rfl⟩ := P9) | (obtain ⟨rfl, rfl⟩ := P9)))
    k_with "loop" => (guard_hyp mk_F21_2; (refine Stop.go ?_))
    k_steps
    all_goals exact hret _ _ _ _ _ (by assumption) (by assumption) (by assumption) (by assumption) (Z.X.keeps (Below.stays (by assumption))) (Z.T.keeps (Below.stays (by assumption))) (by assumption) ⟨congrArg Value.bool (by decide), M, rr, OC, hal, by (clear h306 hU hf0 hf1 hg0 hg1 hgood hq9L hsoL hsoL' hx0 hx1 hy0 hy1 hz; omega)⟩
  case pos =>
    refine hide ?_
    intro GG0 hGG0
    obtain ⟨hw1, hw2, hw3, hw4, hw5, hw6, hw7⟩ := hgood
    obtain hw8 := netOf_of_rem hw5 hw6 hw7
    obtain S : Spec prog w f9 12 96 [] nB (fun nB v n' => v = .none ∧ ∃ r M', five r = ⟨nx, ny, yg, yf, y9⟩ ∧ Tab w n' x td b0 M' (if hasR r (rsAt M (bitsOf r.n r.p.toNat)) then (rr.length : Int) else rr.length + 1) ∧ Kept nB td M n' M' ∧ ∀ q, rsAt M' q = if q = bitsOf r.n r.p.toNat then addR r (rsAt M q) else rsAt M q) := (by
      intro p loose mean mg mb dp un gd cn cs a ccd cl outer A₀ base h₀ L m s Q E B F X N T hk hd hu hret
      k_with "spec" => (guard_hyp mk_F21_1; first | exact spec_newRoute _ _ _ _ _ _ _ _ | exact spec_add _ _ _ _ _ _ _ ⟨b8, d8, (e0, e1, e2, e3, e4), (tx, ty, tg, tf, t9), nx, ny, yg, yf, y9⟩ _ (OB.tab.mono (Sub.cons _ (Sub.cons _ (Sub.refl _)))) ⟨.head _, .tail _ (.head _)⟩ hw5 hw6 hw1 hw2 hw3 hw4 hw8 (fun q => Nat.le_trans (hal.len q) (by rw [List.length_map]; omega)))
      k_with "post" => (guard_hyp mk_F21_1; (rename_i P9; first | (obtain ⟨b8, d8, e0, e1, e2, e3, e4, rfl, rfl, l8, l7⟩ := P9) | (obtain ⟨rfl, M8, T8, K8, R8⟩ := P9)))
      walk_at "m_enterL"
      k_steps
      all_goals exact hret _ _ _ _ (by k_asm) (by k_asm) ⟨rfl, ⟨b8, d8, (e0, e1, e2, e3, e4), (tx, ty, tg, tf, t9), nx, ny, yg, yf, y9⟩, M8, rfl, T8, fun q hq => K8 q (.tail _ (.tail _ hq)), R8⟩)
    refine hGG0 ?_
    (try clear hGG0 GG0)
    (try clear mk_F21_1)
    obtain mk_F21_3 : True := trivial
    k_with "specT" => (guard_hyp mk_F21_3; exact spec_heard _ _ _ _ _ _ _ _ hfB _ S)
    k_with "postT" => (guard_hyp mk_F21_3; (rename_i n9 g9 h9 tk9 T9 F9 N9 B9 X9 P9 D9 Q9; obtain ⟨rfl, r8, M8, hr8, T8, K8, R8⟩ := Q9; obtain st9 := Stopped.mk))
    k_with "callF" => (guard_hyp mk_F21_3; skip)
    k_steps
    all_goals (change wpAny _ _ _ _ _ _)
    obtain two8 : ∀ q ∈ nB, tagO q.2 = 2 → q ∈ n9 := fun q hq ht => (K8 q hq (off_cell NB OB.tab.T hq ht) (ne_tag NB hq hdtB ht (t' := 12) rfl (by decide))).1
    obtain q1 := two8 _ q1 (by unfold tagO; rw [dP])
    obtain q2 := two8 _ q2 (by unfold tagO; rw [dN])
    obtain q3 := two8 _ q3 (by unfold tagO; rw [dM])
    obtain q4 := two8 _ q4 (by unfold tagO; rw [dG])
    obtain q5 := two8 _ q5 (by unfold tagO; rw [dF])
    obtain OC := OB.kept NB T8 K8
    obtain hwl : WellR (five r8) := (by rw [hr8]; exact ⟨hw3, hw4, hw5, hw6, hw8⟩)
    obtain al8 := hal.add hwl R8
    obtain hmany := hal.many hwl
    rw [hr8] at al8 hmany
    rw [List.length_map] at hmany
    obtain ⟨c8, hrl8⟩ := OC.rows
    (try clear mk_F21_3)
    obtain mk_F21_4 : True := trivial
    k_with "spec" => (guard_hyp mk_F21_4; first | exact spec_law_all _ _ _ | exact spec_law_is_well _ _ _ _ _ _ _ (by walk_at "m_om") (by walk_at "m_om"))
    k_with "post" => (guard_hyp mk_F21_4; (rename_i P9; first | (obtain ⟨rfl, t8, rfl⟩ := P9) | (obtain ⟨rfl, rfl⟩ := P9)))
    k_with "loop" => (guard_hyp mk_F21_4; (refine Stop.go ?_))
    k_with "forL" => (guard_hyp mk_F21_4; skip)
    k_steps
    all_goals (change wpAny _ _ _ _ _ _)
    rename Fr _ L9 _ _ => lF
    rename News _ L9 _ n9 => N9
    refine iter_ledN (l := rl) (items := rowVals rr) (c := c8) [] [] [] (fun i vs n => vs = [] ∧ Sub n9 n ∧ ∀ j < i, ∀ r, rr[j]? = some r → ¬ Same4 ⟨nx, ny, yg, yf, y9⟩ r.v) (by exact rfl) lF N9 hrl8 (fun z => rfl) ⟨rfl, Sub.refl _, fun j hj => absurd hj (Nat.not_lt_zero _)⟩ ?hJl ?turn ?done
    case hJl => exact fun i vs n hp => hp.2.1 _ hrl8
    case turn =>
      intro i7 v7 vs7 u7 n7 h7 tk7 I7 oI7 hv7 hp7 hI7 hlt7 F7 N7
      refine hide ?_
      intro GG0 hGG0
      obtain ⟨rfl, hs7, hno7⟩ := hp7
      obtain ⟨r7, hr7, rfl⟩ : ∃ r, rr[i7]? = some r ∧ v7 = .ref r.a := (by
        rw [List.getElem?_map] at hv7
        cases hr : rr[i7]? with
        | none => rw [hr] at hv7; cases hv7
        | some r => rw [hr] at hv7; exact ⟨r, rfl, (Option.some.inj hv7).symm⟩)
      obtain hrow7 := hs7 _ (OC.row r7 (List.mem_of_getElem? hr7))
      obtain q1 := hs7 _ q1
      obtain q2 := hs7 _ q2
      obtain q3 := hs7 _ q3
      obtain q4 := hs7 _ q4
      obtain q5 := hs7 _ q5
      refine hGG0 ?_
      (try clear hGG0 GG0)
      k_fold
      k_with "setU" => (guard_hyp mk_F21_4; skip)
      k_with "size" => (guard_hyp mk_F21_4; (simp only [List.length_cons, List.length_nil]; omega))
      k_steps
      · refine namPost_ret ?_
        (try dsimp only)
        walk_at "LeaveT"
        rename [r7.v.n, r7.v.p, r7.v.g, r7.v.f] = _ => heq7
        refine hide ?_
        intro GG0 hGG0
        obtain ⟨e1, e2, e3, e4⟩ : r7.v.n = nx ∧ r7.v.p = ny ∧ r7.v.g = yg ∧ r7.v.f = yf := (by simpa using heq7)
        obtain hst := OC.setRow N9 (r' := ⟨r7.a, r7.c, (r7.u.1, r7.u.2.1, r7.u.2.2.1, r7.u.2.2.2.1, t9), ⟨r7.v.n, r7.v.p, r7.v.g, r7.v.f, y9⟩⟩) hr7 rfl (hs7.trans (Sub.cons _ (Sub.cons _ (Sub.cons _ (Sub.refl _)))))
        obtain hnm : numsOf (rr.set i7 ⟨r7.a, r7.c, (r7.u.1, r7.u.2.1, r7.u.2.2.1, r7.u.2.2.2.1, t9), ⟨r7.v.n, r7.v.p, r7.v.g, r7.v.f, y9⟩⟩) = addL ⟨nx, ny, yg, yf, y9⟩ (numsOf rr) := (by
          unfold numsOf
          rw [addL_old (i := i7) (q := r7.v) (by rw [List.getElem?_map, hr7]; rfl) ⟨e1, e2, e3, e4⟩ (fun j hj q hq => ?_), List.map_set, e1, e2, e3, e4]
          rw [List.getElem?_map] at hq
          cases hrj : rr[j]? with
          | none => rw [hrj] at hq; cases hq
          | some rj => rw [hrj] at hq; obtain rfl := Option.some.inj hq; exact hno7 j hj rj hrj)
        obtain hlen := congrArg List.length hnm
        rw [List.length_map] at hlen
        rw [hmany, ← hlen] at hst
        refine hGG0 ?_
        (try clear hGG0 GG0)
        exact hret _ _ _ _ _ (by assumption) (by assumption) (by assumption) (by assumption) (Z.X.keeps (Below.stays (by assumption))) (Z.T.keeps (Below.stays (by assumption))) (by assumption) ⟨rfl, M8, _, hst, hnm ▸ al8, by rw [List.length_set]; (clear e1 e2 e3 e4 h306 hGG0 hU hf0 hf1 hg0 hg1 hlen hmany hq9L hsoL hsoL' hw1 hw2 hw3 hw4 hw5 hw6 hw7 hw8 hx0 hx1 hy0 hy1 hz; omega)⟩
      · refine' NamEnd.introM n7 (by k_asm) (by k_asm) (.tail _ (.tail _ (.head _))) (fun p hp => .tail _ (.tail _ (.tail _ hp))) hI7 ?m1 ?m2 ?P
        case m1 => walk_at "m_off"
        case m2 => exact fun y hy => nomatch hy
        case' P => refine ⟨rfl, hs7, fun j hj r hr => ?_⟩
        case P =>
          by_cases e : j = i7
          · subst e
            rw [hr7] at hr
            obtain rfl := Option.some.inj hr
            rename ¬ [r7.v.n, r7.v.p, r7.v.g, r7.v.f] = _ => hne7
            exact fun ⟨e1, e2, e3, e4⟩ => hne7 (by rw [e1, e2, e3, e4])
          · exact hno7 j (by (clear h306 hU hf0 hf1 hg0 hg1 hmany hq9L hsoL hsoL' hw1 hw2 hw3 hw4 hw5 hw6 hw7 hw8 hx0 hx1 hy0 hy1 hz; omega)) r hr
    case done =>
      intro u7 vs7 n7 h7 tk7 hp7 F7 N7
      obtain ⟨rfl, hs7, hno7⟩ := hp7
      obtain q1 := hs7 _ q1
      obtain q2 := hs7 _ q2
      obtain q3 := hs7 _ q3
      obtain q4 := hs7 _ q4
      obtain q5 := hs7 _ q5
      obtain hrl7 := hs7 _ hrl8
      (try dsimp only)
      (try k_fold)
      k_with "appU" => (guard_hyp mk_F21_4; skip)
      k_with "size" => (guard_hyp mk_F21_4; (rw [List.length_map, PySem.sizeLine_eq]; omega))
      k_steps
      rename_i l6 hh61 l5 hh62 FF6 NN6 hT6 TT6 FT6 NT6 BT6 DT6
      obtain hst := OC.addRow N9 (r' := ⟨l6, 0, (tx, ty, tg, tf, t9), ⟨nx, ny, yg, yf, y9⟩⟩) (c := c8 + 1) (n2 := (l6, listOf [Value.int nx tx, .int ny ty, .int yg tg, .int yf tf, .int y9 t9].toArray 0) :: n7) (hs7.trans (Sub.cons _ (Sub.refl _))) (.head _) (fun q hq => Nat.ne_of_lt (l5 q (hs7 q hq)))
      obtain hnm : numsOf (rr ++ [⟨l6, 0, (tx, ty, tg, tf, t9), ⟨nx, ny, yg, yf, y9⟩⟩]) = addL ⟨nx, ny, yg, yf, y9⟩ (numsOf rr) := (by
        unfold numsOf
        rw [addL_new fun q hq => ?_, List.map_append]
        · rfl
        · obtain ⟨r, hr, rfl⟩ := List.mem_map.mp hq
          obtain ⟨j, hj⟩ := List.mem_iff_getElem?.mp hr
          exact hno7 j (by rw [List.length_map]; exact (List.getElem?_eq_some_iff.mp hj).1) r hj)
      obtain hlen := congrArg List.length hnm
      rw [List.length_map] at hlen
      rw [hmany, ← hlen] at hst
      exact hret _ _ _ _ _ (by assumption) (by assumption) (by assumption) (by assumption) (Z.X.keeps (Below.stays (by assumption))) (Z.T.keeps (Below.stays (by assumption))) (by assumption) ⟨rfl, M8, _, hst, hnm ▸ al8, by simp⟩

open PySem.Calls
section
variable {prog : Program} {w : World} {A : Around} {E : Value → Shared → Prop} {s : Shared}
theorem all_of {xs ys : Array Value} : xs.extract 0 (0 : Int).toNat ++ ys ++ xs.extract (max (0 : Int) (xs.size : Int)).toNat xs.size = ys := by
  have e : (max (0 : Int) (xs.size : Int)).toNat = xs.size := by omega
  rw [e]
  simp
/-- a list's items all set anew -/
theorem set_all {l sl d : Addr} {xs ys : Array Value} {n k : Nat} {Q : Unit → Shared → Prop} (ho : s.heap.get? l = some (listOf xs n)) (hs : s.heap.IsSliceOf sl .none .none .none) (hd : s.heap.get? d = some (listOf ys k)) (hne : l ≠ d)
    (hx : xs.size ≤ 1000) (hy : ys.size ≤ 1000) (hQ : ∀ f, f xs = ys → Q () { s with heap := s.heap.update l (Obj.mapSeq f) }) : wpAny (model prog w) A (setItem (.ref l) (.ref sl) (.ref d)) Q E s := by
  have hl : s.heap.IsList l xs := PySem.IsL.isList (n := n) ho
  have hld : s.heap.IsList d ys := PySem.IsL.isList (n := k) hd
  obtain ⟨os, hos, hcs, hds⟩ := id hs
  have hTs : s.TypeIs (.ref sl) "slice" := ⟨os, hos, hcs⟩
  unfold setItem
  try with_reducible refine wpAny_holding ?_
  first | refine wpAny_bind (wpAny_pure ?_) | skip
  refine wpAny_bind (wpAny_sequenceKey hl.typeIs (by decide) ?_)
  refine wpAny_bind (wpAny_callSpecial?_slot (name := Str.ofString "__setitem__") hl.typeIs slot_list_setitem
    (wpAny_call_entry slot_list_setitem hl.typeIs entry_list_setitem ?_ (args_list_setitem _ _ _)))
  show wpAny _ _ (Builtin.List.listSubscript? (.ref sl) >>= _) _ _ s
  refine wpAny_bind ?_
  unfold Builtin.List.listSubscript?
  refine wpAny_bind (wpAny_specialOf hTs slice_no_index ?_)
  simp only [Option.isNone_none, if_true]
  refine wpAny_pure ?_
  show wpAny _ _ (typeOf (.ref sl) >>= _) _ _ s
  refine wpAny_bind (wpAny_typeOf hTs ?_)
  rw [if_neg (by decide)]
  rw [listSliceParts_eq]
  refine wpAny_bind (wpAny_bind (wpAny_field hos hds (x := .none) rfl (wpAny_bind (wpAny_listPart .none ?_))))
  rw [if_neg (show ¬ ((rawPart none == rawInt 0) = true) from Bool.false_ne_true)]
  refine wpAny_bind (wpAny_field hos hds (x := .none) rfl (wpAny_bind (wpAny_listPart .none ?_)))
  refine wpAny_bind (wpAny_field hos hds (x := .none) rfl (wpAny_bind (wpAny_listPart .none (wpAny_pure ?_))))
  have hsame : Builtin.List.listSameRef (.ref l) (.ref d) = false := by
    show (l == d) = false
    simpa using hne
  dsimp only
  rw [hsame]
  simp only [Bool.false_eq_true, if_false]
  refine wpAny_bind (m := Builtin.List.listAllItems (.ref d) "must assign iterable to extended slice") ?_
  unfold Builtin.List.listAllItems
  refine wpAny_bind (wpAny_typeOf hld.typeIs ?_)
  rw [if_pos (by decide)]
  refine listItems_at hd rfl ?_
  refine wpAny_bind (listItems_at ho rfl ?_)
  refine wpAny_bind (wpAny_of_eq (sliceIndices_raw none none none xs.size (by simp)) ?_)
  have hb : sliceBounds none none none xs.size = (0, (xs.size : Int), 1) := rfl
  rw [hb]
  dsimp only
  rw [if_pos (by decide)]
  refine wpAny_bind (wpAny_rule ?_)
  have hlong : Builtin.List.listTooLong (xs.size + ys.size) = false := by
    unfold Builtin.List.listTooLong
    rw [sizeLine_eq]
    exact decide_eq_false (by (clear hne; omega))
  rw [hlong]
  simp only [Bool.false_eq_true, if_false]
  refine wpAny_bind (listUpdate_at ho rfl ?_ (by rw [sizeLine_eq]; (clear hne hy; omega)) (by rw [all_of, sizeLine_eq]; (clear hne hx; omega)))
  refine wpAny_bind (wpAny_letGo ?_)
  exact wpAny_bind (wpAny_pure (wpAny_pure ⟨.none, rfl, wpAny_pure (hQ _ all_of)⟩))
end
section
variable {prog : Program} {w : World} {A : Around} {E : Value → Shared → Prop} {h₀ h : Heap} {L l d : Addr} {m : Str → Option Value} {news : Led} {xs ys : List Value} {n k : Nat} {Q : Unit → Shared → Prop}
theorem set_allU {gs : Array GenState} {dr : Drawn} {tk : Nat} {os : OsState} (F : Fr h₀ L h m) (N : News h₀ L h news) (hl : (l, listOf xs.toArray n) ∈ news) (hd : (d, listOf ys.toArray k) ∈ news) (hne : l ≠ d) (hx : xs.length ≤ 1000) (hy : ys.length ≤ 1000)
    (hQ : ∀ h' c, Fr h₀ L h' m → News h₀ L h' (updL l (listOf ys.toArray c) news) → Q () ⟨h', gs, dr, tk, os⟩) :
    wpAny (model prog w) A (setItem (.ref l) (.ref h.objs.size) (.ref d)) Q E ⟨h.push { cls := .type "slice", data := .fields #[.none, .none, .none] }, gs, dr, tk, os⟩ := by
  have F₁ := F.push { cls := .type "slice", data := .fields #[.none, .none, .none] }
  have N₁ : News h₀ L (h.push { cls := .type "slice", data := .fields #[.none, .none, .none] }) news := fun q hq => (N.push F { cls := .type "slice", data := .fields #[.none, .none, .none] }) q (.tail _ hq)
  have NH := toHead N₁ hl
  have z := N₁ _ hl
  refine set_all (s := ⟨h.push _, gs, dr, tk, os⟩) z.1 (Heap.IsSliceOf.new ..) (N₁ _ hd).1 hne (by simpa using hx) (by simpa using hy) fun f hf => ?_
  refine hQ _ (if ys.toArray.size == xs.toArray.size then n else n + 1) (F₁.change (Heap.SameBut.update ..) z.2.1 z.2.2) (ofHead ?_)
  exact ki_turn (pre := []) (its' := ys.toArray) f NH (fun _ h => nomatch h) offL_ne hf rfl
end
section
variable {kk : Led} {w : World} {news n2 : Led} {so x td b0 rl : Addr} {M : Tm} {many : Int} {rr : List Rw} {h₀ h : Heap} {L : Addr}
theorem LawObj.setRows (O : LawObj kk w news so x td b0 rl M many rr) (N : News h₀ L h news) (hs : Sub news n2) (p : Rw → Bool) {c : Nat} : LawObj kk w (updL rl (listOf (rowVals (rr.filter p)).toArray c) n2) so x td b0 rl M many (rr.filter p) := by
  obtain ⟨c₀, hc⟩ := O.rows
  refine O.put N (rr' := rr.filter p) (c := c) (fun q hq h1 _ => mem_updL_ne (hs q hq) h1) (mem_updL_self (hs _ hc)) (fun r hr => ?_) ?_ fun r hr => O.offr r (List.mem_filter.mp hr).1
  · have hr := (List.mem_filter.mp hr).1
    exact mem_updL_ne (hs _ (O.row r hr)) (O.rl_r N hr).symm
  · exact O.nd.sublist (List.Sublist.map _ List.filter_sublist)
theorem nums_filter (rr : List Rw) (p : R5 → Bool) : numsOf (rr.filter fun r => p r.v) = (numsOf rr).filter p := by
  unfold numsOf
  rw [List.filter_map]; rfl
end
theorem TabOk.cell {h₀ h : Heap} {L P c : Addr} {pos : Pos} {qual : Str} {news : Led} {o o' : Obj} {v : Option Value} (hT : TabOk P pos qual news) (N : News h₀ L h news) (hc : (c, o) ∈ news) (hd : o.data = .cell v) : TabOk P pos qual (updL c o' news) := by
  obtain ⟨qs, h1, h2, h3⟩ := hT
  have ne : ∀ (b : Addr) (ob : Obj) (vs : Array Value), (b, ob) ∈ news → ob.data = .fields vs → b ≠ c := fun b ob vs hb hv e => by
    subst e
    have := get_same N hb hc
    subst this
    rw [hd] at hv; cases hv
  refine ⟨qs, mem_updL_ne h1 (ne _ _ _ h1 rfl), h2, h3.imp id ?_⟩
  rintro ⟨c', oc, vs, t, e, hm, hd', hv⟩
  exact ⟨c', oc, vs, t, e, mem_updL_ne hm (ne _ _ _ hm hd'), hd', hv⟩
section
variable {kk : Led} {w : World} {news : Led} {so x td b0 rl c : Addr} {M : Tm} {many : Int} {rr : List Rw} {h₀ h : Heap} {L : Addr} {o o' : Obj} {v : Option Value}
/-- a cell alone has turned -/
theorem LawObj.cell (O : LawObj kk w news so x td b0 rl M many rr) (N : News h₀ L h news) (hcm : (c, o) ∈ news) (hcd : o.data = .cell v) : LawObj kk w (updL c o' news) so x td b0 rl M many rr := by
  obtain ⟨o₀, ho₀, hs₀⟩ := O.src
  obtain ⟨k, hc⟩ := O.rows
  have ht : tagO o = 2 := by unfold tagO; rw [hcd]
  have ne : ∀ (q : Addr × Obj) (t : Nat), q ∈ news → tagO q.2 = t → t ≠ 2 → q.1 ≠ c := fun q t hq htq hn => ne_tag N hq hcm htq ht hn
  have hb : ∀ q ∈ news, q.1 ≠ c → q ∈ updL c o' news := fun q hq hn => mem_updL_ne hq hn
  obtain ⟨hin, ⟨t0, t1, tm, hdt⟩, TI, W, hb0⟩ := O.tab
  exact ⟨⟨o₀, hb _ ho₀ (ne _ 1 ho₀ (srcO_tag hs₀) (by decide)), hs₀⟩, ⟨hb _ hin (ne _ 0 hin rfl (by decide)), ⟨t0, t1, tm, hb _ hdt (ne _ 12 hdt rfl (by decide))⟩, ⟨fun p n hp => hb _ (TI.inst p n hp) (ne _ 0 (TI.inst p n hp) rfl (by decide)), fun p n hp => hb _ (TI.dict p n hp) (ne _ 13 (TI.dict p n hp) rfl (by decide)), fun p n hp => hb _ (TI.list p n hp) (ne _ 1 (TI.list p n hp) rfl (by decide)),
    fun p n hp r hr => ⟨⟨hb _ (TI.rts p n hp r hr).1.1 (ne _ 0 (TI.rts p n hp r hr).1.1 rfl (by decide)), hb _ (TI.rts p n hp r hr).1.2 (ne _ 15 (TI.rts p n hp r hr).1.2 rfl (by decide))⟩, (TI.rts p n hp r hr).2⟩⟩, W, hb0⟩,
    ⟨k, hb _ hc (ne _ 1 hc rfl (by decide))⟩, fun r hr => hb _ (O.row r hr) (ne _ 1 (O.row r hr) rfl (by decide)), O.nd, O.offs, O.offl, O.offr, O.t1.cell N hcm hcd, O.t2.cell N hcm hcd, fun q hq => ⟨hb q (O.t3 q hq).1 fun e => (O.t3 q hq).2.2.1 v (by rw [get_same N (show (c, q.2) ∈ news by rw [← e]; exact (O.t3 q hq).1) hcm]; exact hcd), (O.t3 q hq).2⟩⟩
end
theorem first_eq (x y : Int) : x.fmod 4294967296 - x.fmod (2 ^ (32 - y).toNat) = netOf x y := by
  unfold netOf
  rw [Int.fmod_eq_emod_of_nonneg _ (by decide), Int.fmod_eq_emod_of_nonneg _ (Int.le_of_lt (pw_pos (32 - y)))]
section
variable {prog : Program} {w : World} {A : Around} {E : Value → Shared → Prop} {s : Shared} {a n : Int} {t u : Tok} {Q : Value → Shared → Prop}
theorem pw_le {n : Int} (h0 : 0 ≤ n) (h1 : n ≤ 32) : 0 < (2 : Int) ^ n.toNat ∧ (2 : Int) ^ n.toNat ≤ 4294967296 := by
  refine ⟨pw_pos n, ?_⟩
  have h := (pw_32 (p := 32 - n) (by (clear h0; omega)) (by (clear h1; omega))).2
  rw [show 32 - (32 - n) = n by (clear h h0 h1; omega)] at h
  exact h
theorem pw_log {y : Int} (h0 : 0 < y) (h1 : y ≤ 4294967296) : y.natAbs.log2 < 9000 := by
  have h2 : y.natAbs < 2 ^ 33 := by omega
  have h3 := (Nat.log2_lt (show y.natAbs ≠ 0 by (clear h1 h2; omega))).mpr h2
  (clear h0 h1 h2; omega)
theorem fdiv_pow (h0 : 0 ≤ n) (h1 : n ≤ 32) (h : Q (.int (a.fdiv (2 ^ n.toNat)) s.toks) { s with toks := s.toks + 1 }) : wpAny (model prog w) A (binaryOp .FloorDiv (.int a t) (.int (2 ^ n.toNat) u)) Q E s :=
  floordiv_int (by have := (pw_le h0 h1).1; (clear h0 h1; omega)) h (Or.inl (PyProof.noPylong_of_log2 (pw_log (pw_le h0 h1).1 (pw_le h0 h1).2)))
theorem fmod_pow (h0 : 0 ≤ n) (h1 : n ≤ 32) (h : Q (.int (a.fmod (2 ^ n.toNat)) s.toks) { s with toks := s.toks + 1 }) : wpAny (model prog w) A (binaryOp .Mod (.int a t) (.int (2 ^ n.toNat) u)) Q E s :=
  mod_int' (by have := (pw_le h0 h1).1; (clear h0 h1; omega)) h
end
/-- a test's answer, told apart -/
noncomputable def Tells (b : Bool) (P : Prop) : Prop := b = true ↔ P
/-- a fact told apart -/
noncomputable def Told (P : Prop) : Prop := P
theorem Told.out {P : Prop} (h : Told P) : P := h
theorem ite_tells {b : Bool} {P : Prop} {Q₁ Q₂ : Prop} (h : Tells b P) (h1 : Told P → Q₁) (h2 : Told (¬ P) → Q₂) : if b = true then Q₁ else Q₂ := by
  cases b with
  | true => exact h1 (h.mp rfl)
  | false => exact h2 fun p => nomatch h.mpr p
theorem eq_opq {prog : Program} {w : World} {A : Around} {E : Value → Shared → Prop} {s : Shared} {x y : Int} {t u : Tok} {Q : Value → Shared → Prop} (h : ∀ b : Bool, Tells b (x = y) → Q (.bool b) s) :
    wpAny (model prog w) A (compareOp .Eq (.int x t) (.int y u)) Q E s := eq_int (h _ (by unfold Tells; simp))

set_option maxRecDepth 100000 in
set_option maxHeartbeats 2000000 in
theorem spec_removed (prog : Program) (w : World) (kk : Led) (so x td b0 rl : Addr) (M : Tm) (rr : List Rw) (news : Led) (O : LawObj kk w news so x td b0 rl M rr.length rr) (hal : Alike M (numsOf rr)) (hz : rr.length ≤ 50) :
    SpecT prog w 316 16 128 [.ref so, .ref x, .ref rl] news (fun news v news' => v = .bool true ∧ ∃ M' rr', LawObj kk w news' so x td b0 rl M' rr'.length rr' ∧ Alike M' (numsOf rr') ∧ rr'.length ≤ rr.length + 1) := by
  intro p loose mean mg mb dp un gd cn cs a ccd cl outer A₀ base h₀ L m s Q E B F X N T hk Z Dc hD hU hret
  obtain mk_F22_1 : True := trivial
  obtain ⟨o, hso, hsrc⟩ := O.src
  walk_at "m_enterTC"
  rename_i g9 L9 h9 tk9 FG9 F9 X9 T9 D9 o1 o2 o3 o4 o5 d1 d2 d3 d4 d5
  replace d5 := d5.trans (show _ = Data.cell (some (.ref x)) from rfl)
  replace d4 := d4.trans (show _ = Data.cell none from rfl)
  replace d3 := d3.trans (show _ = Data.cell none from rfl)
  replace d2 := d2.trans (show _ = Data.cell none from rfl)
  replace d1 := d1.trans (show _ = Data.cell none from rfl)
  obtain hL9 : @LT.lt Nat _ so L9 := l9 _ hso
  k_with "m_cell" => (guard_hyp mk_F22_1; skip)
  k_with "comp" => (guard_hyp mk_F22_1; (refine Stop.go ?_))
  k_with "spec" => (guard_hyp mk_F22_1; first | exact spec_take _ _ _ _ _ _ _ (by k_mem) (by assumption) (by walk_at "m_om") (by walk_at "m_om") | exact spec_law_net _ _ _ _ _ (by k_mem) (by assumption))
  k_with "post" => (guard_hyp mk_F22_1; (rename_i P9; first | (obtain ⟨y9, t9, o9, rfl, hy0, hy1, rfl, ho9⟩ := P9) | (obtain ⟨nx, ny, tx, ty, qt, o9, rfl, hq9, hx0, hx1, hy0, hy1, hs9, hm9, hb9⟩ := P9; obtain st9 := Stopped.mk)))
  k_steps
  · rename News g9 L9 _ _ => NA
    rename_i hh1 oF FF dF
    refine hide ?_
    intro GG0 hGG0
    obtain ⟨nA, NA', q4, q5, qs, qb⟩ : ∃ nA, News g9 L9 hh1 nA ∧ (L9 + 1 + 1, oF) ∈ nA ∧ (L9 + 1, o5) ∈ nA ∧ (so, o9) ∈ nA ∧ But so news nA :=
      ⟨_, NA, by k_mem, by k_mem, by k_mem, by
        rintro ⟨pa, po⟩ hp hne
        obtain hpL : @LT.lt Nat _ pa L9 := l9 _ hp
        dsimp only at hne
        walk_at "m_mem"⟩
    clear NA
    obtain OA := O.but N qb qs ho9
    obtain ⟨c8, hrl8⟩ := OA.rows
    refine hGG0 ?_
    (try clear hGG0 GG0)
    refine LCt.CompSrcT.ledger (ax := rl) (its := (rowVals rr).toArray) (k := c8) (by exact rfl) (by k_asm) (by k_asm) hrl8 (by rw [PySem.sizeLine_eq]; simp only [List.size_toArray, List.length_map]; (clear hD hL9 hU hy0 hy1; omega)) fun g8 => ?_
    refine compT_inv (fun i ys n => n = nA ∧ ys = rowVals ((rr.take i).filter fun r => !decide (r.v.f = y9))) (n := rr.length) ?step ?fin _ 0 [] nA (by simp) ⟨rfl, rfl⟩
    case step =>
      intro i8 ys8 n8 v8 I8 oI8 C8 oC8 D8 m8 hh8 tk8' E8 hi8 hj8 hP8 ho8 hx8 F8 N8 off8 ne8
      refine hide ?_
      intro GG0 hGG0
      obtain ⟨rfl, rfl⟩ := hj8
      obtain ⟨r8, hr8, rfl⟩ : ∃ r, rr[i8]? = some r ∧ v8 = .ref r.a := rowVals_get (by simpa using hP8)
      obtain hrow8 := OA.row r8 (List.mem_of_getElem? hr8)
      refine hGG0 ?_
      (try clear hGG0 GG0)
      k_fold
      k_with "item3" => (guard_hyp mk_F22_1; skip)
      k_steps
      · refine LCg.CompEnd.intro (by k_asm) (by k_asm) n8 (fun p hp => hp) off8 (.inr ⟨_, hrl8, rfl, _, rfl⟩) ⟨rfl, ?_⟩
        have hne : r8.v.f ≠ y9 := by assumption
        rw [row_filter hr8, if_pos (by simp [hne])]
        unfold rowVals; rw [List.map_append]; rfl
      · refine LCg.CompEnd.intro (by k_asm) (by k_asm) n8 (fun p hp => hp) off8 (.inr ⟨_, hrl8, rfl, _, rfl⟩) ⟨rfl, ?_⟩
        have hne : r8.v.f = y9 := by first | assumption | exact Decidable.not_not.mp (by assumption)
        rw [row_filter hr8, if_neg (by simp [hne]), List.append_nil]
    case fin =>
      rintro ys8 n8 ⟨rfl, rfl⟩ D8 h8 tk8 F8 N8 o8'
      rw [List.take_length] at N8
      (try dsimp only)
      (try k_fold)
      refine hide ?_
      intro GG0 hGG0
      obtain hD8 := off1_mem o8'
      obtain hfD := far_of OA.tab.T hD8
      obtain ⟨hinA, ⟨u0, u1, um, hdtA⟩, _, WA, _⟩ := id OA.tab
      obtain hkept : ∀ {news' : Led} {M' : Tm} {many' : Int}, Tab w news' x td b0 M' many' → Kept ((D8, LCg.lst (rowVals (rr.filter fun r => !decide (r.v.f = y9)))) :: n8) td M news' M' → LawObj kk w news' so x td b0 rl M' many' rr := fun T K => (OA.mono (Sub.cons _ (Sub.refl _))).kept N8 T K
      refine hGG0 ?_
      (try clear hGG0 GG0)
      (try clear mk_F22_1)
      obtain mk_F22_2 : True := trivial
      k_with "spec" => (guard_hyp mk_F22_2; exact spec_remove_face _ _ _ _ _ _ _ _ _ _ (OA.tab.mono (Sub.cons _ (Sub.refl _))) hal.keyed (by rw [hal.pre_length WA, List.length_map]; omega))
      k_with "post" => (guard_hyp mk_F22_2; (rename_i n9 h9 tk9 F9 N9 P9; obtain ⟨M9, t9, rfl, T9, K9, R9⟩ := P9; obtain st9 := Stopped.mk))
      k_steps
      all_goals (change wpAny _ _ _ _ _ _)
      obtain OC := hkept T9 K9
      obtain hDk : (D8, listOf (rowVals (rr.filter fun r => !decide (r.v.f = y9))).toArray (rowVals (rr.filter fun r => !decide (r.v.f = y9))).length) ∈ n9 := (K9 _ (.head _) hfD.off (hD8 _ hdtA).symm).1
      obtain ⟨c9, hrl9⟩ := OC.rows
      obtain hrD : rl ≠ D8 := hD8 _ hrl8
      obtain hcnt := hal.face_count WA y9
      rw [← nums_filter, List.length_map, List.length_map] at hcnt
      obtain hle : (rr.filter fun r => !decide (r.v.f = y9)).length ≤ 50 := (by (clear hD hL9 hU hrD hy0 hy1; omega))
      obtain hrows := fun {n2 : Led} {c : Nat} (hs : Sub n9 n2) => OC.setRows N9 hs (fun r => !decide (r.v.f = y9)) (c := c)
      (try clear mk_F22_2)
      obtain mk_F22_3 : True := trivial
      k_with "lenU" => (guard_hyp mk_F22_3; skip)
      k_with "len" => (guard_hyp mk_F22_3; exact rfl)
      k_with "setAll" => (guard_hyp mk_F22_3; skip)
      k_with "size" => (guard_hyp mk_F22_3; (simp only [List.length_map]; omega))
      k_steps
      obtain hst := hrows (c := _) (Sub.refl _)
      rw [show (rr.length : Int) - (((preF M []).filter fun r => decide (r.f = y9)).length : Nat) = ((rr.filter fun r => !decide (r.v.f = y9)).length : Nat) by omega] at hst
      exact hret _ _ _ _ _ (by assumption) (by assumption) (by assumption) (by assumption) (Z.X.keeps (Below.stays (by assumption))) (Z.T.keeps (Below.stays (by assumption))) (by assumption) ⟨congrArg Value.bool (by rw [beq_iff_eq, List.length_map, List.length_map]; (clear hD hL9 hU hle hrD hy0 hy1 hz; omega)), M9, _, hst, nums_filter rr (fun r => !decide (r.f = y9)) ▸ hal.dropFace R9, by (clear hD hL9 hU hle hrD hy0 hy1 hz; omega)⟩
  · obtain hb9 := fun (p : Addr × Obj) (hp : p ∈ _) (hn : p.1 ≠ so) => hb9 p (mem_updL_ne hp hn) hn
    refine hide ?_
    intro GG0 hGG0
    simp only [List.forall_mem_cons] at hb9
    obtain ⟨k1, k2, k3, k4, k5, hb9⟩ := hb9
    replace k1 := k1 (neN (by (clear hD hGG0 hU hx0 hx1 hy0 hy1 hz k1 k2 k3 k4 k5; omega)))
    replace k2 := k2 (neN (by (clear hD hGG0 hU hx0 hx1 hy0 hy1 hz k2 k3 k4 k5; omega)))
    replace k3 := k3 (neN (by (clear hD hGG0 hU hx0 hx1 hy0 hy1 hz k3 k4 k5; omega)))
    replace k4 := k4 (neN (by (clear hD hGG0 hU hx0 hx1 hy0 hy1 hz k4 k5; omega)))
    replace k5 := k5 (neN (by (clear hD hGG0 hU hx0 hx1 hy0 hy1 hz k5; omega)))
    refine hGG0 ?_
    (try clear hGG0 GG0)
    all_goals (change wpAny _ _ _ _ _ _)
    (try clear mk_F22_1)
    obtain mk_F22_4 : True := trivial
    k_with "m_cell" => (guard_hyp mk_F22_4; skip)
    k_with "lam" => (guard_hyp mk_F22_4; skip)
    k_steps
    rename News g9 L9 _ _ => NA
    rename_i hN1 hN2 oN dN hN3 oP FF dP
    refine hide ?_
    intro GG0 hGG0
    obtain ⟨nA, NA', q1, q2, q3, q4, q5, qs, qb⟩ : ∃ nA, News g9 L9 hN3 nA ∧ (L9 + 1 + 1 + 1 + 1 + 1, oP) ∈ nA ∧ (L9 + 1 + 1 + 1 + 1, oN) ∈ nA ∧ (L9 + 1 + 1 + 1, o3) ∈ nA ∧ (L9 + 1 + 1, o4) ∈ nA ∧ (L9 + 1, o5) ∈ nA ∧ (so, o9) ∈ nA ∧ But so news nA :=
      ⟨_, NA, by k_mem, by k_mem, by k_mem, by k_mem, by k_mem, by k_mem, by
        rintro ⟨pa, po⟩ hp hne
        obtain hpL : @LT.lt Nat _ pa L9 := l9 _ hp
        obtain hp9 := hb9 _ hp hne
        dsimp only at hne
        walk_at "m_mem"⟩
    clear NA
    obtain OA := O.but N qb qs hs9
    obtain h313 : @LT.lt Nat _ 313 L9 := (by obtain ⟨ps, hps, _⟩ := O.t2; exact l9 _ hps)
    refine hGG0 ?_
    (try clear hGG0 GG0)
    refine lam_any (P := 313) (c := 315) FF NA' T9 (Z.c1.keeps B9.stays) rfl OA.t2 rfl ?_
    intro f9 c9 oc9 vs9 tt9 ctv9 nB hB tkB FB NB hfB hcB hdB hvB hbB htB
    refine hide ?_
    intro GG0 hGG0
    obtain OB := OA.but313 NA' hbB htB
    obtain q1 := hbB _ q1 (neN (by (clear hD hGG0 hL9 hU hx0 hx1 hy0 hy1 hz; omega)))
    obtain q2 := hbB _ q2 (neN (by (clear hD hGG0 hL9 hU hx0 hx1 hy0 hy1 hz; omega)))
    obtain q3 := hbB _ q3 (neN (by (clear hD hGG0 hL9 hU hx0 hx1 hy0 hy1 hz; omega)))
    obtain q5 := hbB _ q5 (neN (by (clear hD hGG0 hL9 hU hx0 hx1 hy0 hy1 hz; omega)))
    obtain ⟨hinB, ⟨u0, u1, um, hdtB⟩, _, _, _⟩ := id OB.tab
    obtain codeB := Z.c1
    refine hGG0 ?_
    (try clear hGG0 GG0)
    by_cases hgood : 0 ≤ ny ∧ ny ≤ 32
    case neg =>
      obtain S : SpecX prog w f9 12 96 [] nB (fun n' => Sub nB n') := (by
        intro p loose mean mg mb dp un gd cn cs a ccd cl outer A₀ base h₀ L m s Q E B F X N T hk hd hu hret
        (try clear mk_F22_4)
        obtain mk_F22_5 : True := trivial
        k_with "specx" => (guard_hyp mk_F22_5; exact specx_remove _ _ _ _ _ _ _ _ (by walk_at "m_om"))
        walk_at "m_enterL"
        k_steps
        all_goals exact hret _ _ _ _ _ _ _ (by assumption) (by k_asm) (by assumption) (by assumption))
      (try clear mk_F22_4)
      obtain mk_F22_6 : True := trivial
      k_with "specT" => (guard_hyp mk_F22_6; exact spec_heardX _ _ _ _ _ _ _ _ hfB _ S)
      k_with "postT" => (guard_hyp mk_F22_6; (subst he9; rename_i n9 g9 h9 tk9 T9 F9 N9 B9 X9 P9 D9 Q9; obtain ⟨⟨tt9, rfl⟩, hsub9⟩ := Q9; obtain q1 := hsub9 _ q1; obtain OC := OB.mono hsub9))
      k_with "callF" => (guard_hyp mk_F22_6; skip)
      k_with "comp" => (guard_hyp mk_F22_6; (refine Stop.go ?_))
      k_steps
      all_goals exact hret _ _ _ _ _ (by assumption) (by assumption) (by assumption) (by assumption) (Z.X.keeps (Below.stays (by assumption))) (Z.T.keeps (Below.stays (by assumption))) (by assumption) ⟨congrArg Value.bool (by decide), M, rr, OC, hal, by (clear h313 hD hL9 hU hgood hx0 hx1 hy0 hy1 hz; omega)⟩
    case pos =>
      obtain ⟨hp0, hp1⟩ := hgood
      obtain S : Spec prog w f9 12 96 [] nB (fun nB v news' => ∃ M' t, v = .int ((rsAt M (bitsOf (netOf nx ny) ny.toNat)).length : Nat) t ∧ Tab w news' x td b0 M' ((rr.length : Int) - ((rsAt M (bitsOf (netOf nx ny) ny.toNat)).length : Nat)) ∧ Kept nB td M news' M' ∧ ∀ q, rsAt M' q = if q = bitsOf (netOf nx ny) ny.toNat then [] else rsAt M q) := (by
        intro p loose mean mg mb dp un gd cn cs a ccd cl outer A₀ base h₀ L m s Q E B F X N T hk hd hu hret
        (try clear mk_F22_4)
        obtain mk_F22_7 : True := trivial
        k_with "spec" => (guard_hyp mk_F22_7; exact spec_remove _ _ _ _ _ _ _ _ _ _ _ _ OB.tab hp0 hp1 (fun q => Nat.le_trans (hal.len q) (by rw [List.length_map]; omega)))
        k_with "post" => (guard_hyp mk_F22_7; (rename_i P9; obtain ⟨M8, t8, rfl, T8, K8, R8⟩ := P9))
        walk_at "m_enterL"
        k_steps
        all_goals exact hret _ _ _ _ (by k_asm) (by k_asm) ⟨M8, _, rfl, T8, K8, R8⟩)
      (try clear mk_F22_4)
      obtain mk_F22_8 : True := trivial
      k_with "specT" => (guard_hyp mk_F22_8; exact spec_heard _ _ _ _ _ _ _ _ hfB _ S)
      k_with "postT" => (guard_hyp mk_F22_8; (rename_i n9 g9 h9 tk9 T9 F9 N9 B9 X9 P9 D9 Q9; obtain ⟨M8, t8, rfl, T8, K8, R8⟩ := Q9; obtain st9 := Stopped.mk))
      k_with "callF" => (guard_hyp mk_F22_8; skip)
      k_steps
      all_goals (change wpAny _ _ _ _ _ _)
      obtain two8 : ∀ q ∈ nB, tagO q.2 = 2 → q ∈ n9 := fun q hq ht => (K8 q hq (off_cell NB OB.tab.T hq ht) (ne_tag NB hq hdtB ht (t' := 12) rfl (by decide))).1
      obtain q1 := two8 _ q1 (by unfold tagO; rw [dP])
      obtain q2 := two8 _ q2 (by unfold tagO; rw [dN])
      obtain q3 := two8 _ q3 (by unfold tagO; rw [d3])
      obtain OC := OB.kept NB T8 K8
      obtain ⟨al8, hcnt⟩ := hal.drop hp0 hp1 R8
      obtain hcell := fun (o' : Obj) => OC.cell N9 q3 d3 (o' := o')
      (try clear mk_F22_8)
      obtain mk_F22_9 : True := trivial
      k_with "m_cell" => (guard_hyp mk_F22_9; skip)
      k_with "powU" => (guard_hyp mk_F22_9; skip)
      k_with "comp" => (guard_hyp mk_F22_9; (refine Stop.go ?_))
      k_steps
      rename News g9 L9 _ _ => NS
      rename_i hS1 hS2 oS FS dS
      refine hide ?_
      intro GG0 hGG0
      rw [first_eq] at dS
      obtain ⟨nS, NS', p1, p3, OS⟩ : ∃ nS, News g9 L9 hS2 nS ∧ (L9 + 1 + 1 + 1 + 1 + 1, oP) ∈ nS ∧ (L9 + 1 + 1 + 1, oS) ∈ nS ∧ LawObj kk w nS so x td b0 rl M8 ((rr.length : Int) - ((rsAt M (bitsOf (netOf nx ny) ny.toNat)).length : Nat)) rr :=
        ⟨_, NS, by k_mem, by k_mem, hcell _⟩
      clear NS
      obtain ⟨c8, hrl8⟩ := OS.rows
      refine hGG0 ?_
      (try clear hGG0 GG0)
      refine LCt.CompSrcT.ledger (ax := rl) (its := (rowVals rr).toArray) (k := c8) (by exact rfl) (by k_asm) (by k_asm) hrl8 (by rw [PySem.sizeLine_eq]; simp only [List.size_toArray, List.length_map]; (clear h313 hD hL9 hU hcnt hp0 hp1 hx0 hx1 hy0 hy1; omega)) fun g8 => ?_
      refine compT_inv (fun i ys n => Sub nS n ∧ ys = rowVals ((rr.take i).filter fun r => !decide (r.v.n = netOf nx ny ∧ r.v.p = ny))) (n := rr.length) ?step ?fin _ 0 [] nS (by simp) ⟨Sub.refl _, rfl⟩
      case step =>
        intro i8 ys8 n8 v8 I8 oI8 C8 oC8 D8 m8 hh8 tk8' E8 hi8 hj8 hP8 ho8 hx8 F8 N8 off8 ne8
        refine hide ?_
        intro GG0 hGG0
        obtain ⟨hs8, rfl⟩ := hj8
        obtain ⟨r8, hr8, rfl⟩ : ∃ r, rr[i8]? = some r ∧ v8 = .ref r.a := rowVals_get (by simpa using hP8)
        obtain hrow8 := hs8 _ (OS.row r8 (List.mem_of_getElem? hr8))
        obtain p1 := hs8 _ p1
        obtain p3 := hs8 _ p3
        obtain hrl8 := hs8 _ hrl8
        refine hGG0 ?_
        (try clear hGG0 GG0)
        k_fold
        k_steps
        · refine LCg.CompEnd.intro (by k_asm) (by k_asm) n8 (fun p hp => .tail _ (.tail _ hp)) off8 (.inr ⟨_, hrl8, rfl, _, rfl⟩) ⟨hs8, ?_⟩
          have heq : [r8.v.n, r8.v.p] = [netOf nx ny, ny] := by assumption
          obtain ⟨e1, e2⟩ : r8.v.n = netOf nx ny ∧ r8.v.p = ny := by simpa using heq
          rw [row_filter hr8, if_neg (by simp [e1, e2]), List.append_nil]
        · refine LCg.CompEnd.intro (by k_asm) (by k_asm) n8 (fun p hp => .tail _ (.tail _ hp)) off8 (.inr ⟨_, hrl8, rfl, _, rfl⟩) ⟨hs8, ?_⟩
          have hne : ¬ [r8.v.n, r8.v.p] = [netOf nx ny, ny] := by assumption
          have hne : ¬ (r8.v.n = netOf nx ny ∧ r8.v.p = ny) := fun ⟨e1, e2⟩ => hne (by rw [e1, e2])
          rw [row_filter hr8, if_pos (by rw [decide_eq_false hne]; rfl)]
          unfold rowVals; rw [List.map_append]; rfl
      case fin =>
        rintro ys8 n8 ⟨hs8, rfl⟩ D8 h8 tk8 F8 N8 o8'
        rw [List.take_length] at N8
        (try dsimp only)
        (try k_fold)
        obtain hD8 := off1_mem o8'
        obtain hrl8 := hs8 _ hrl8
        obtain hrD : rl ≠ D8 := hD8 _ hrl8
        rw [← nums_filter rr (fun r => !decide (r.n = netOf nx ny ∧ r.p = ny)), List.length_map, List.length_map] at hcnt
        obtain hle : (rr.filter fun r => !decide (r.v.n = netOf nx ny ∧ r.v.p = ny)).length ≤ 50 := (by (clear h313 hD hL9 hU hp0 hp1 hrD hx0 hx1 hy0 hy1; omega))
        obtain hrows := fun {n2 : Led} {c : Nat} (hs : Sub nS n2) => OS.setRows NS' hs (fun r => !decide (r.v.n = netOf nx ny ∧ r.v.p = ny)) (c := c)
        (try clear mk_F22_9)
        obtain mk_F22_10 : True := trivial
        k_with "lenU" => (guard_hyp mk_F22_10; skip)
        k_with "len" => (guard_hyp mk_F22_10; exact rfl)
        k_with "setAll" => (guard_hyp mk_F22_10; skip)
        k_with "size" => (guard_hyp mk_F22_10; (simp only [List.length_map]; omega))
        k_steps
        obtain hst := hrows (c := _) (Sub.trans hs8 (Sub.cons _ (Sub.refl _)))
        rw [show (rr.length : Int) - ((rsAt M (bitsOf (netOf nx ny) ny.toNat)).length : Nat) = ((rr.filter fun r => !decide (r.v.n = netOf nx ny ∧ r.v.p = ny)).length : Nat) by omega] at hst
        exact hret _ _ _ _ _ (by assumption) (by assumption) (by assumption) (by assumption) (Z.X.keeps (Below.stays (by assumption))) (Z.T.keeps (Below.stays (by assumption))) (by assumption) ⟨congrArg Value.bool (by rw [beq_iff_eq, List.length_map, List.length_map]; (clear h313 hD hL9 hU hle hp0 hp1 hrD hx0 hx1 hy0 hy1 hz; omega)), M8, _, hst, nums_filter rr (fun r => !decide (r.n = netOf nx ny ∧ r.p = ny)) ▸ al8, by (clear h313 hD hL9 hU hle hp0 hp1 hrD hx0 hx1 hy0 hy1 hz; omega)⟩

/-- a bit's sign -/
noncomputable def chrB (b : Bool) : Str := if b then Str.ofString "1" else Str.ofString "0"
theorem joinE (l : List Str) : (PySem.Txt.join (PySem.Str.ofString "") l).cps.toList = l.flatMap fun a => a.cps.toList := by
  show (Builtin.Str.glued (PySem.Str.ofString "") l).cps.toList = _
  rw [StrLaws.glued_eq_join]
  cases l with
  | nil => rfl
  | cons a r =>
    rw [← StrLaws.glued_cons]
    have go : ∀ (r : List Str) (acc : Array Nat), (r.foldl (fun acc p => acc ++ (Str.ofString "").cps ++ p.cps) acc).toList = acc.toList ++ r.flatMap fun a => a.cps.toList := by
      intro r
      induction r with
      | nil => intro acc; simp
      | cons b r ih =>
        intro acc
        rw [List.foldl_cons, ih]
        have e : (Str.ofString "").cps = #[] := by decide
        rw [e]
        simp
    exact go r a.cps
theorem chr_cps (b : Bool) : (chrB b).cps.toList = [if b then 49 else 48] := by cases b <;> decide
noncomputable def txtB (p : Bits) : List Nat := p.map fun b => if b then 49 else 48
theorem join_bits (p : Bits) : (PySem.Txt.join (PySem.Str.ofString "") (p.map chrB)).cps.toList = txtB p := by
  rw [joinE]
  unfold txtB
  induction p with
  | nil => rfl
  | cons b p ih => rw [List.map_cons, List.flatMap_cons, List.map_cons, ih, chr_cps]; rfl

theorem chr_bit (n : Int) (i : Nat) {y : Int} (h : y = (i : Int)) : Str.ofString (toString (Int.fmod (Int.fdiv n (2 ^ (31 - y).toNat)) 2)) = chrB (bitB n i) := by
  subst h
  unfold bitB chrB
  have h := Int.emod_two_eq (Int.fdiv n (2 ^ (31 - (i : Int)).toNat))
  rw [← Int.fmod_eq_emod_of_nonneg _ (by decide)] at h
  rcases h with h | h
  · rw [h]; decide
  · rw [h]; decide
theorem sv_snoc (ts : List (Str × Tok)) (a : Str) (t : Tok) : strValues ts ++ [Value.str a t] = strValues (ts ++ [(a, t)]) := by unfold strValues; rw [List.map_append]; rfl
theorem join_fits {p : Bits} (h : p.length ≤ 32) : JoinOk (PySem.Str.ofString "") (p.map chrB) = true := by
  refine joinOk_of_weight ?_ (by decide)
  have e : ∀ q : Bits, ((q.map chrB).map (·.length)).sum = q.length := by
    intro q
    induction q with
    | nil => rfl
    | cons b q ih =>
      rw [List.map_cons, List.map_cons, List.sum_cons, ih, List.length_cons]
      have : (chrB b).length = 1 := by cases b <;> decide
      (clear h ih; omega)
  rw [e, List.length_map]; omega
theorem rows_OWN_F23_55 : True := by
  k_with  "call builtin:str.join" => (k_here; k_extra "join"; k_dflt (refine SC.join (by exact News.isList (by k_asm) (.head _)) (by assumption) (by exact join_fits (by rw [bitsOf_length]; omega)) ?_; k_whole); intro _ _)
  trivial

set_option maxRecDepth 100000 in
set_option maxHeartbeats 2000000 in
theorem spec_law_text (prog : Program) (w : World) (r : Rw) (news : Led) (h : (r.a, r.obj) ∈ news) (h0 : 0 ≤ r.v.p) (h1 : r.v.p ≤ 32) (h2 : 0 ≤ r.v.n) (h3 : r.v.n ≤ 4294967295) :
    Spec prog w 321 4 32 [.ref r.a] news (fun news v news' => Sub news news' ∧ ∃ T t, v = .str T t ∧ T.cps.toList = txtB (keyOf r.v)) := by
  intro p loose mean mg mb dp un gd cn cs a ccd cl outer A₀ base h₀ L m s Q E B F X N T hk hd hu hret
  obtain mk_F23_1 : True := trivial
  walk_at "m_enterC"
  rename _ = Data.cell _ => d9
  replace d9 := d9.trans (show _ = Data.cell (some (.ref r.a)) from rfl)
  k_with "item3" => (guard_hyp mk_F23_1; skip)
  k_with "comp" => (guard_hyp mk_F23_1; (refine Stop.go ?_))
  k_with "compend" => (guard_hyp mk_F23_1; (refine Stop.go ?_))
  k_steps
  rename IsRange _ _ _ _ _ _ _ _ => hr9
  rename News _ _ _ _ => N9
  rename Fr _ _ _ _ => F9
  refine LCg.CompSrc.range (n := r.v.p.toNat) (by exact rfl) F9 N9 hr9 (by walk_at "m_small") (by unfold Builtin.Range.rangeSize; simp only [show (1 : Int) > 0 by decide, if_true]; split <;> (clear h0 h1 h2 h3 hd hu; omega)) (by rw [PySem.sizeLine_eq]; (clear h0 h2 h3 hd hu; omega)) fun g8 => ?_
  refine comp_inv (fun i ys n => Sub _ n ∧ ∃ ts, ys = strValues ts ∧ ts.map (·.1) = (bitsOf r.v.n i).map chrB) (n := r.v.p.toNat) ?step ?fin _ 0 [] _ (by simp) ⟨Sub.refl _, [], rfl, rfl⟩
  case step =>
    intro i8 ys8 n8 v8 I8 oI8 C8 oC8 D8 m8 hh8 tk8' E8 hi8 hj8 hP8 ho8 hx8 F8 N8 off8 ne8
    refine hide ?_
    intro GG0 hGG0
    obtain ⟨hs8, ts8, rfl, hts8⟩ := hj8
    obtain ⟨t8, rfl⟩ := hP8
    obtain hrow8 := hs8 _ (.tail _ h)
    obtain hcell8 := hs8 _ (.head _)
    refine hGG0 ?_
    (try clear hGG0 GG0)
    k_fold
    k_with "powU" => (guard_hyp mk_F23_1; skip)
    k_steps
    all_goals (change LCg.CompEnd _ _ _ _ _ _ _ _ _ _ _ _ _ _)
    refine LCg.CompEnd.intro (by k_asm) (by k_asm) n8 (fun p hp => hp) off8 trivial ⟨hs8, ts8 ++ [(_, _)], sv_snoc _ _ _, ?_⟩
    rw [List.map_append, hts8, bitsOf_succ, List.map_append]
    exact congrArg (fun z => _ ++ [z]) (chr_bit _ _ (Int.zero_add _))
  case fin =>
    rintro ys8 n8 ⟨hs8, ts8, rfl, hts8⟩ D8 h8 tk8 F8 N8 o8'
    (try dsimp only)
    (try k_fold)
    k_with "join" => (guard_hyp mk_F23_1; skip)
    k_steps
    all_goals exact hret _ _ _ _ (by k_asm) (by k_asm) ⟨fun q hq => .tail _ (hs8 _ (.tail _ hq)), _, _, rfl, join_bits _⟩

/-- none or a row -/
noncomputable def vrw : Option Rw → Value
  | none => .none
  | some r => .ref r.a
theorem hit_eq (a : Int) (r : R5) : (a.fdiv (2 ^ (32 - r.p).toNat) = r.n.fdiv (2 ^ (32 - r.p).toNat)) ↔ hit5 a r = true := by
  unfold hit5
  rw [Int.fdiv_eq_ediv_of_nonneg _ (Int.le_of_lt (pw_pos (32 - r.p))), Int.fdiv_eq_ediv_of_nonneg _ (Int.le_of_lt (pw_pos (32 - r.p)))]
  exact (decide_eq_true_iff).symm
theorem found_take {ad : Int} {rr : List Rw} {i : Nat} {r : Rw} (h : rr[i]? = some r) : foundL ad (numsOf (rr.take (i + 1))) = stepL ad (foundL ad (numsOf (rr.take i))) r.v := by
  unfold foundL numsOf
  rw [List.take_succ, h, List.map_append, List.foldl_append]; rfl
theorem found_hit {ad : Int} {rr : List Rw} {i : Nat} {r : Rw} {b : Option Rw} (h : rr[i]? = some r) (hb : b.map (·.v) = foundL ad (numsOf (rr.take i))) (hh : ad.fdiv (2 ^ (32 - r.v.p).toNat) = r.v.n.fdiv (2 ^ (32 - r.v.p).toNat)) :
    foundL ad (numsOf (rr.take (i + 1))) = step1 (b.map (·.v)) r.v := by
  rw [found_take h, ← hb]
  unfold stepL
  rw [if_pos ((hit_eq ad r.v).mp hh)]; rfl
theorem found_miss {ad : Int} {rr : List Rw} {i : Nat} {r : Rw} {b : Option Rw} (h : rr[i]? = some r) (hb : b.map (·.v) = foundL ad (numsOf (rr.take i))) (hh : ¬ ad.fdiv (2 ^ (32 - r.v.p).toNat) = r.v.n.fdiv (2 ^ (32 - r.v.p).toNat)) :
    b.map (·.v) = foundL ad (numsOf (rr.take (i + 1))) := by
  rw [found_take h, ← hb]
  unfold stepL
  rw [if_neg fun z => hh ((hit_eq ad r.v).mpr z)]
set_option maxRecDepth 100000 in
set_option maxHeartbeats 2000000 in
theorem spec_law_found (prog : Program) (w : World) (rr : List Rw) (rl : Addr) (c : Nat) (ad : Int) (ta : Tok) (news : Led) (h : (rl, listOf (rowVals rr).toArray c) ∈ news) (hr : ∀ r ∈ rr, (r.a, r.obj) ∈ news) (hw : ∀ r ∈ rr, WellR r.v) (h0 : 0 ≤ ad) (h1 : ad ≤ 4294967295) :
    Spec prog w 328 2 16 [.ref rl, .int ad ta] news (fun news v news' => news' = news ∧ ∃ b : Option Rw, v = vrw b ∧ (∀ r, b = some r → r ∈ rr) ∧ b.map (·.v) = foundL ad (numsOf rr)) := by
  intro p loose mean mg mb dp un gd cn cs a ccd cl outer A₀ base h₀ L m s Q E B F X N T hk hd hu hret
  obtain mk_F24_1 : True := trivial
  k_with "loop" => (guard_hyp mk_F24_1; (refine Stop.go ?_))
  k_with "forL" => (guard_hyp mk_F24_1; skip)
  walk_at "m_enter"
  k_steps
  rename Fr _ _ _ _ => F9
  rename News _ _ _ _ => N9
  refine iter_ledN (l := rl) (items := rowVals rr) (c := c) [] ["best"] [.none] (fun i vs n => n = news ∧ ∃ b : Option Rw, vs = [vrw b] ∧ (∀ r, b = some r → r ∈ rr) ∧ b.map (·.v) = foundL ad (numsOf (rr.take i))) (by exact rfl) F9 N9 h (setL_one (by exact rfl)) ⟨rfl, none, rfl, (fun _ z => nomatch z), rfl⟩ (fun i vs n hp => hp.1 ▸ h) ?turn ?done
  case turn =>
    intro i7 v7 vs7 u7 n7 h7 tk7 I7 oI7 hv7 hp7 hI7 hlt7 F7 N7
    refine hide ?_
    intro GG0 hGG0
    obtain ⟨rfl, b7, rfl, hb7, hf7⟩ := hp7
    obtain ⟨r7, hr7, rfl⟩ := rowVals_get hv7
    obtain hrm7 := List.mem_of_getElem? hr7
    obtain hrow7 := hr r7 hrm7
    obtain hw7 := hw r7 hrm7
    obtain ⟨w1, w2⟩ : 0 ≤ r7.v.p ∧ r7.v.p ≤ 32 := ⟨hw7.p0, hw7.p1⟩
    refine hGG0 ?_
    (try clear hGG0 GG0)
    cases b7 with
    | none =>
      dsimp only [vrw] at F7
      k_fold
      k_with "item3" => (guard_hyp mk_F24_1; skip)
      k_with "powU" => (guard_hyp mk_F24_1; skip)
      k_with "fdivP" => (guard_hyp mk_F24_1; skip)
      k_with "eqO" => (guard_hyp mk_F24_1; skip)
      k_steps
      ·
        refine' NamEnd.introM n7 (by k_asm) (by k_asm) (.head _) (fun p hp => .tail _ hp) hI7 ?m1 ?m2 ?P
        case m1 => walk_at "m_off"
        case m2 => walk_at "m_on"
        case P => exact ⟨rfl, some r7, rfl, (fun r e => Option.some.inj e ▸ hrm7), (found_hit hr7 hf7 (Told.out (by assumption))).symm⟩
      ·
        refine' NamEnd.introM n7 (by k_asm) (by k_asm) (.head _) (fun p hp => .tail _ hp) hI7 ?m1 ?m2 ?P
        case m1 => walk_at "m_off"
        case m2 => walk_at "m_on"
        case P => exact ⟨rfl, none, rfl, (fun _ z => nomatch z), found_miss hr7 hf7 (Told.out (by assumption))⟩
    | some q7 =>
      dsimp only [vrw] at F7
      obtain hrowq := hr q7 (hb7 q7 rfl)
      k_fold
      k_with "item3" => (guard_hyp mk_F24_1; skip)
      k_with "powU" => (guard_hyp mk_F24_1; skip)
      k_with "fdivP" => (guard_hyp mk_F24_1; skip)
      k_with "eqO" => (guard_hyp mk_F24_1; skip)
      k_steps
      ·
        refine' NamEnd.introM n7 (by k_asm) (by k_asm) (.head _) (fun p hp => .tail _ hp) hI7 ?m1 ?m2 ?P
        case m1 => walk_at "m_off"
        case m2 => walk_at "m_on"
        case P => exact ⟨rfl, some r7, rfl, (fun r e => Option.some.inj e ▸ hrm7), by rw [found_hit hr7 hf7 (Told.out (by assumption))]; exact (if_pos (.inl (by assumption))).symm⟩
      ·
        refine' NamEnd.introM n7 (by k_asm) (by k_asm) (.head _) (fun p hp => .tail _ hp) hI7 ?m1 ?m2 ?P
        case m1 => walk_at "m_off"
        case m2 => walk_at "m_on"
        case P => exact ⟨rfl, some r7, rfl, (fun r e => Option.some.inj e ▸ hrm7), by rw [found_hit hr7 hf7 (Told.out (by assumption))]; exact (if_pos (.inr ⟨Told.out (by assumption), by assumption⟩)).symm⟩
      ·
        refine' NamEnd.introM n7 (by k_asm) (by k_asm) (.head _) (fun p hp => .tail _ hp) hI7 ?m1 ?m2 ?P
        case m1 => walk_at "m_off"
        case m2 => walk_at "m_on"
        case P => exact ⟨rfl, some q7, rfl, hb7, by rw [found_hit hr7 hf7 (Told.out (by assumption))]; exact (if_neg (fun z => z.elim (fun z => absurd z (by assumption)) fun z => absurd z.2 (by assumption))).symm⟩
      ·
        refine' NamEnd.introM n7 (by k_asm) (by k_asm) (.head _) (fun p hp => .tail _ hp) hI7 ?m1 ?m2 ?P
        case m1 => walk_at "m_off"
        case m2 => walk_at "m_on"
        case P => exact ⟨rfl, some q7, rfl, hb7, by rw [found_hit hr7 hf7 (Told.out (by assumption))]; exact (if_neg (fun z => z.elim (fun z => absurd z (by assumption)) fun z => absurd z.1 (Told.out (by assumption)))).symm⟩
      ·
        refine' NamEnd.introM n7 (by k_asm) (by k_asm) (.head _) (fun p hp => .tail _ hp) hI7 ?m1 ?m2 ?P
        case m1 => walk_at "m_off"
        case m2 => walk_at "m_on"
        case P => exact ⟨rfl, some q7, rfl, hb7, found_miss hr7 hf7 (Told.out (by assumption))⟩
  case done =>
    intro u7 vs7 n7 h7 tk7 hp7 F7 N7
    refine hide ?_
    intro GG0 hGG0
    obtain ⟨rfl, b7, rfl, hb7, hf7⟩ := hp7
    rw [show (rowVals rr).length = rr.length from List.length_map _, List.take_length] at hf7
    refine hGG0 ?_
    (try clear hGG0 GG0)
    (try dsimp only)
    cases b7 with
    | none =>
      dsimp only [vrw] at F7
      (try k_fold)
      k_steps
      all_goals exact hret _ _ _ _ (by k_asm) (by k_asm) ⟨rfl, none, rfl, hb7, hf7⟩
    | some q7 =>
      dsimp only [vrw] at F7
      (try k_fold)
      k_steps
      all_goals exact hret _ _ _ _ (by k_asm) (by k_asm) ⟨rfl, some q7, rfl, hb7, hf7⟩

theorem first_net {a p : Int} (h0 : 0 ≤ a) (h1 : a < 4294967296) : a - a.fmod (2 ^ (32 - p).toNat) = netOf a p := by
  unfold netOf
  rw [Int.fmod_eq_emod_of_nonneg _ (Int.le_of_lt (pw_pos (32 - p))), Int.emod_eq_of_lt h0 h1]
theorem last_le {a p : Int} (p0 : 0 ≤ p) (p1 : p ≤ 32) : netOf a p + 2 ^ (32 - p).toNat ≤ 4294967296 := by
  obtain ⟨h1, h2, h3⟩ := netOf_well (a := a) p0 p1
  have h4 := netOf_rem h1 h2 h3
  obtain ⟨⟨k, hk⟩, hl⟩ := pw_32 p0 p1
  have hp := pw_pos (32 - p)
  have h5 := Int.mul_ediv_add_emod (netOf a p) (pw (32 - p))
  rw [h4] at h5
  have h6 : netOf a p / pw (32 - p) < k := by
    rcases Int.lt_or_le (netOf a p / pw (32 - p)) k with h | h
    · exact h
    · have := Int.mul_le_mul_of_nonneg_left h (Int.le_of_lt hp)
      (clear h h1 h3 h4 hl hp p0 p1; omega)
  have h7 := Int.mul_le_mul_of_nonneg_left (show netOf a p / pw (32 - p) + 1 ≤ k by (clear h1 h2 h3 h4 h5 hk hl hp p0 p1; omega)) (Int.le_of_lt hp)
  rw [Int.mul_add, Int.mul_one] at h7
  show netOf a p + pw (32 - p) ≤ 4294967296
  (clear h1 h2 h3 h4 h6 hl hp p0 p1; omega)
/-- an address is in a network if it lies between its ends -/
theorem in_ends {z a p : Int} (z0 : 0 ≤ z) (z1 : z ≤ 4294967295) (p0 : 0 ≤ p) (p1 : p ≤ 32) : netOf z p = netOf a p ↔ (netOf a p ≤ z ∧ z ≤ netOf a p + 2 ^ (32 - p).toNat - 1) := by
  have hp : 0 < (2 : Int) ^ (32 - p).toNat := pw_pos (32 - p)
  have hz : netOf z p = z - z % 2 ^ (32 - p).toNat := by unfold netOf; rw [Int.emod_eq_of_lt z0 (by (clear hp p0 p1 z0; omega))]
  have m0 := Int.emod_nonneg z (Int.ne_of_gt hp)
  have m1 := Int.emod_lt_of_pos z hp
  constructor
  · intro h
    rw [hz] at h
    (clear hp hz m0 m1 p0 p1 z0 z1; omega)
  · rintro ⟨h1, h2⟩
    obtain ⟨w1, w2, w3⟩ := netOf_well (a := a) p0 p1
    have w4 : netOf a p % 2 ^ (32 - p).toNat = 0 := netOf_rem w1 w2 w3
    rw [hz]
    have e : (z - netOf a p) % 2 ^ (32 - p).toNat = z - netOf a p := Int.emod_eq_of_lt (by (clear h2 hp hz m0 m1 p0 p1 w1 w2 w3 w4 z0 z1; omega)) (by (clear h1 hp hz m0 m1 p0 p1 w1 w2 w3 w4 z0 z1; omega))
    have e2 : z % 2 ^ (32 - p).toNat = (z - netOf a p) % 2 ^ (32 - p).toNat := by
      rw [Int.sub_emod, w4, Int.sub_zero, Int.emod_emod]
    rw [e2, e]; (clear e e2 h1 h2 hp hz m0 m1 p0 p1 w1 w2 w3 w4 z0 z1; omega)
theorem pos_net {a p : Int} (p0 : 0 ≤ p) (p1 : p ≤ 32) : 0 ≤ netOf a p := (netOf_well (a := a) p0 p1).1
theorem last_two {a p : Int} (p0 : 0 ≤ p) (p1 : p ≤ 32) : 0 < (2 : Int) ^ (32 - p).toNat ∧ netOf a p + 2 ^ (32 - p).toNat ≤ 4294967296 := ⟨pw_pos (32 - p), last_le p0 p1⟩
theorem mod_lo (a : Int) : 0 ≤ a.fmod 16777216 ∧ a.fmod 16777216 < 16777216 := ⟨Int.fmod_nonneg_of_pos _ (by decide), Int.fmod_lt_of_pos _ (by decide)⟩
/-- is the int a loop's -/
noncomputable def loopV : Value → Value
  | .int z _ => .bool (decide (z / 16777216 = 127))
  | v => v
theorem same_gives (a : Bool) : MeetsSeq.EqGives (.bool a) (.bool a) true := fun prog w A E s Q h => by
  unfold eqBool
  show wpAny _ _ (if (Value.bool a == Value.bool a) = true then _ else _) Q E s
  rw [if_pos (by cases a <;> rfl)]
  exact wpAny_bind (wpAny_rule (wpAny_pure h))
theorem same_at (bs : List Bool) (j : Nat) (h1 : j < (bs.map Value.bool).toArray.size) (h2 : j < (bs.map Value.bool).toArray.size) : MeetsSeq.EqGives (bs.map Value.bool).toArray[j] (bs.map Value.bool).toArray[j] true := by
  simp only [List.getElem_toArray, List.getElem_map]
  exact same_gives _
theorem eq_bools {prog : Program} {w : World} {A : Around} {E : Value → Shared → Prop} {s : Shared} {h₀ : Heap} {L l b : Addr} {news : Led} (bs : List Bool) {c c2 : Nat} {Q : Value → Shared → Prop} (N : News h₀ L s.heap news)
    (hl : (l, listOf (bs.map Value.bool).toArray c) ∈ news) (hb : (b, listOf (bs.map Value.bool).toArray c2) ∈ news) (hu : A.units < cLine) (h : Q (.bool true) s) :
    wpAny (model prog w) A (compareOp .Eq (.ref l) (.ref b)) Q E s :=
  P.eq_list (e := fun _ => true) (N.get hl) (N.get hb) rfl (fun j h1 h2 => same_at bs j h1 h2) hu (by rw [show ((List.range (bs.map Value.bool).toArray.size).all fun _ => true) = true from by simp]; exact h)
theorem rows_OWN_F25_63 : True := by
  k_with  "compareOp Eq ref ref" => k_extra "eqB"
  trivial

set_option maxRecDepth 100000 in
set_option maxHeartbeats 2000000 in
theorem spec_law_ends (prog : Program) (w : World) (so : Addr) (o : Obj) (news : Led) (h1 : (so, o) ∈ news) (ho : SrcO o) :
    Spec prog w 338 6 48 [.ref so] news (fun news v news' => v = .bool true ∧ ∃ o', SrcO o' ∧ (so, o') ∈ news' ∧ But so news news') := by
  intro p loose mean mg mb dp un gd cn cs a ccd cl outer A₀ base h₀ L m s Q E B F X N T hk hd hu hret
  obtain mk_F25_1 : True := trivial
  k_with "powU" => (guard_hyp mk_F25_1; skip)
  k_with "mulU" => (guard_hyp mk_F25_1; skip)
  k_with "fdivP" => (guard_hyp mk_F25_1; skip)
  k_with "forL" => (guard_hyp mk_F25_1; skip)
  k_with "loop" => (guard_hyp mk_F25_1; (refine Stop.go ?_))
  k_with "comp" => (guard_hyp mk_F25_1; (refine Stop.go ?_))
  k_with "spec" => (guard_hyp mk_F25_1; first | exact spec_take _ _ _ _ _ _ _ (by k_mem) (by assumption) (by walk_at "m_om") (by walk_at "m_om") | exact spec_law_all _ _ _ | exact spec_oneI _ _ _ _ _ _ _ 0 32 _ (by k_mem) (by assumption) (by k_mem) (by first | exact ne_lt (by assumption) (by k_mem) | exact ne_all (by assumption) (by k_mem)) (by exact Nat.succ_pos _) (by exact Nat.le_of_ble_eq_true rfl) (by walk_at "m_ints"))
  k_with "post" => (guard_hyp mk_F25_1; (rename_i P9; first | (obtain ⟨rfl, t9, rfl⟩ := P9) | (obtain ⟨y9, t9, o9, rfl, hy0, hy1, hz9⟩ := P9; first | (obtain ⟨rfl, ho9⟩ := hz9) | (obtain ⟨hy2, rfl, ho9⟩ := hz9))))
  walk_at "m_enter"
  k_steps
  rename_i l8 h8 F8 N8 l18
  rename (_ : Int) ≤ 32 => hp1
  refine hide ?_
  intro GG0 hGG0
  rw [first_net hy0 hy1] at F8 N8
  obtain ⟨h4, h2⟩ := last_two (a := y9) (by assumption) hp1
  obtain h3 := pos_net (a := y9) (by assumption) hp1
  obtain ⟨n0, N0, qs, qb, items, c0, hit, hall⟩ : ∃ n0, News _ _ _ n0 ∧ (so, o9) ∈ n0 ∧ But so news n0 ∧ ∃ (items : List Value) (c : Nat), (l8, listOf items.toArray c) ∈ n0 ∧ ∀ v ∈ items, ∃ z t, v = Value.int z t ∧ 0 ≤ z ∧ z ≤ 4294967295 :=
    ⟨_, N8, by k_mem, by walk_at "m_kept", _, _, .head _, by walk_at "m_ints"⟩
  refine hGG0 ?_
  (try clear hGG0 GG0)
  clear N8
  refine iter_ledN (l := l8) (items := items) (c := c0) [] [] [] (fun i vs n => vs = [] ∧ Sub n0 n) (by exact rfl) F8 N0 hit (fun z => rfl) ⟨rfl, Sub.refl _⟩ (fun i vs n hp => hp.2 _ hit) ?turn ?done
  case turn =>
    intro i7 v7 vs7 u7 n7 h7 tk7 I7 oI7 hv7 hp7 hI7 hlt7 F7 N7
    refine hide ?_
    intro GG0 hGG0
    obtain ⟨rfl, hs7⟩ := hp7
    obtain ⟨z7, tz7, rfl, hz0, hz1⟩ := hall _ (List.mem_of_getElem? hv7)
    obtain hends := in_ends (z := z7) (a := y9) hz0 hz1 (by assumption) hp1
    refine hGG0 ?_
    (try clear hGG0 GG0)
    k_fold
    k_with "spec" => (guard_hyp mk_F25_1; first | exact spec_is_in _ _ _ _ _ _ _ _ _ (by walk_at "m_om") (by walk_at "m_om") | exact spec_is_broadcast _ _ _ _ _ _ _ _ _ (by walk_at "m_om") (by walk_at "m_om") | exact spec_law_all _ _ _)
    k_with "post" => (guard_hyp mk_F25_1; (rename_i P9; first | (obtain ⟨rfl, t9, rfl⟩ := P9) | (obtain ⟨rfl, rfl⟩ := P9)))
    k_steps
    all_goals first
      | (exfalso; rename (@bne Bool _ _ _) = true => hb; refine absurd ?_ (bne_iff_ne.mp hb); rw [Bool.eq_iff_iff]; simp only [decide_eq_true_eq, beq_iff_eq, pw]; (clear h2 h3 h4 hd hp1 hu hy0 hy1 hz0 hz1 l18; omega))
      | (refine' NamEnd.introM n7 (by k_asm) (by k_asm) (.head _) (fun p hp => .tail _ hp) hI7 ?m1 ?m2 ?P; (case m1 => walk_at "m_off"); (case m2 => exact fun y hy => nomatch hy); (case P => exact ⟨rfl, hs7⟩))
      | (exfalso; (clear h3 hd hends hp1 hu hy0 hy1 hz0 hz1 l18; omega))
  case done =>
    intro u7 vs7 n7 h7 tk7 hp7 F7 N7
    obtain ⟨rfl, hs7⟩ := hp7
    (try dsimp only)
    (try k_fold)
    obtain hmod := mod_lo y9
    (try clear mk_F25_1)
    obtain mk_F25_2 : True := trivial
    k_with "spec" => (guard_hyp mk_F25_2; first | exact spec_mask_of _ _ _ _ _ (by walk_at "m_om") (by walk_at "m_om"))
    k_with "post" => (guard_hyp mk_F25_2; (rename_i P9; obtain ⟨rfl, t9, rfl⟩ := P9; obtain st9 := Stopped.mk))
    k_steps
    all_goals (change wpAny _ _ _ _ _ _)
    (try clear mk_F25_2)
    obtain mk_F25_3 : True := trivial
    k_with "powU" => (guard_hyp mk_F25_3; skip)
    k_with "mulU" => (guard_hyp mk_F25_3; skip)
    k_with "fdivP" => (guard_hyp mk_F25_3; skip)
    k_with "comp" => (guard_hyp mk_F25_3; (refine Stop.go ?_))
    k_with "ite" => (guard_hyp mk_F25_3; (refine Stop.go ?_))
    k_steps
    all_goals (unfold Stop)
    all_goals (rw [if_neg (by simp only [bne_iff_ne, ne_eq, Decidable.not_not]; (clear h2 h3 h4 hd hmod hp1 hu hy0 hy1 l18; omega))])
    all_goals (try dsimp only)
    (try clear mk_F25_3)
    obtain mk_F25_4 : True := trivial
    k_with "powU" => (guard_hyp mk_F25_4; skip)
    k_with "mulU" => (guard_hyp mk_F25_4; skip)
    k_with "comp" => (guard_hyp mk_F25_4; (refine Stop.go ?_))
    k_steps
    rename_i l5 h5a l15 h5 F5 N5
    refine hide ?_
    intro GG0 hGG0
    obtain ⟨n5, N5', hs5, items, c5, hit5, hall5, hmap5⟩ : ∃ n5, News _ _ _ n5 ∧ Sub n7 n5 ∧ ∃ (items : List Value) (c : Nat), (l5, listOf items.toArray c) ∈ n5 ∧ (∀ v ∈ items, ∃ z t, v = Value.int z t ∧ 0 ≤ z ∧ z ≤ 4294967296) ∧ items.map loopV = [.bool false, .bool true, .bool true, .bool true, .bool false] :=
      ⟨_, N5, Sub.cons _ (Sub.refl _), _, _, .head _, by walk_at "m_ints", by
        simp only [List.map_cons, List.map_nil, loopV, List.cons.injEq, Value.bool.injEq, decide_eq_true_eq, decide_eq_false_iff_not, and_true]
        refine ⟨?_, ?_, ?_, ?_, ?_⟩ <;> (clear h2 h3 h4 hGG0 hd hp1 hu hy0 hy1 l18; omega)⟩
    clear N5
    obtain hlen5 : items.length = 5 := (by have := congrArg List.length hmap5; simpa using this)
    refine hGG0 ?_
    (try clear hGG0 GG0)
    refine LCg.CompSrc.ledger (ax := l5) (its := items.toArray) (k := c5) (by exact rfl) F5 N5' hit5 (by rw [PySem.sizeLine_eq]; simp only [List.size_toArray]; (clear h2 h3 h4 hd hmod hp1 hu hy0 hy1 l18; omega)) fun g8 => ?_
    refine comp_inv (fun i ys n => n = n5 ∧ ys = (items.take i).map loopV) (n := items.length) ?step ?fin _ 0 [] n5 (by simp) ⟨rfl, rfl⟩
    case step =>
      intro i8 ys8 n8 v8 I8 oI8 C8 oC8 D8 m8 hh8 tk8' E8 hi8 hj8 hP8 ho8 hx8 F8 N8 off8 ne8
      refine hide ?_
      intro GG0 hGG0
      obtain ⟨rfl, rfl⟩ := hj8
      obtain hv8 : items[i8]? = some v8 := (by simpa using hP8)
      obtain ⟨z8, tz8, rfl, hz0, hz1⟩ := hall5 _ (List.mem_of_getElem? hv8)
      refine hGG0 ?_
      (try clear hGG0 GG0)
      k_fold
      k_with "spec" => (guard_hyp mk_F25_4; exact spec_is_loop _ _ _ _ _ (by walk_at "m_om") (by walk_at "m_om"))
      k_with "post" => (guard_hyp mk_F25_4; (rename_i P9; obtain ⟨rfl, rfl⟩ := P9))
      k_with "compend" => (guard_hyp mk_F25_4; (refine Stop.go ?_))
      k_steps
      all_goals (change LCg.CompEnd _ _ _ _ _ _ _ _ _ _ _ _ _ _)
      refine LCg.CompEnd.intro (by k_asm) (by k_asm) n8 (fun p hp => hp) off8 (.inr ⟨_, hit5, rfl, _, rfl⟩) ⟨rfl, ?_⟩
      rw [List.take_succ, hv8, List.map_append]; rfl
    case fin =>
      rintro ys8 n8 ⟨rfl, rfl⟩ D8 h8 tk8 F8 N8 o8'
      rw [List.take_length, hmap5] at N8
      (try dsimp only)
      (try k_fold)
      (try clear mk_F25_4)
      obtain mk_F25_5 : True := trivial
      k_with "compareOp Eq ref ref" => (guard_hyp mk_F25_5; (refine Stop.go ?_))
      k_with "eqB" => (guard_hyp mk_F25_5; (refine Stop.go ?_))
      k_steps
      all_goals (change wpAny _ _ _ _ _ _)
      rename News _ _ _ _ => N3
      refine eq_bools [false, true, true, true, false] N3 (.tail _ (.head _)) (.head _) (by walk_at "m_room") ?_
      (try clear mk_F25_5)
      obtain mk_F25_6 : True := trivial
      k_steps
      all_goals exact hret _ _ _ _ (by k_asm) (by k_asm) ⟨rfl, o9, ho9, (.tail _ (.tail _ (hs5 _ (hs7 _ qs)))), fun q hq hn => .tail _ (.tail _ (hs5 _ (hs7 _ (qb q hq hn))))⟩

open PySem.W PyProof.Rows
/-- all places asked for lie below N, and what comes out fits -/
noncomputable def OkK {α : Type} (N : Nat) (R : α → Prop) : KasT α → Prop
  | .ret a => R a
  | .ask i j k => i < N ∧ j < N ∧ ∀ b, OkK N R (k b)
theorem OkK.bind {α β : Type} {N : Nat} {R : α → Prop} {R' : β → Prop} {f : α → KasT β} : ∀ {t : KasT α}, OkK N R t → (∀ a, R a → OkK N R' (f a)) → OkK N R' (t.bind f)
  | .ret _, h, hf => hf _ h
  | .ask _ _ _, ⟨h1, h2, h3⟩, hf => ⟨h1, h2, fun b => OkK.bind (h3 b) hf⟩
theorem OkK.mono {α : Type} {N : Nat} {R R' : α → Prop} (hr : ∀ a, R a → R' a) : ∀ {t : KasT α}, OkK N R t → OkK N R' t
  | .ret _, h => hr _ h
  | .ask _ _ _, ⟨h1, h2, h3⟩ => ⟨h1, h2, fun b => OkK.mono hr (h3 b)⟩
noncomputable def Bd (N : Nat) (p : Array Nat) : Prop := ∀ x ∈ p.toList, x < N
theorem Bd.at_ {N : Nat} {p : Array Nat} (h : Bd N p) (hN : 0 < N) (i : Nat) : p.getD i 0 < N := by
  by_cases hi : i < p.size
  · have : p.getD i 0 = p[i] := by simp [hi]
    rw [this]
    exact h _ (by simp)
  · have : p.getD i 0 = 0 := by simp [hi]
    rw [this]; exact hN
theorem Bd.perm {N : Nat} {p q : Array Nat} (h : Bd N p) (hq : q.Perm p) : Bd N q := fun x hx => h x ((Array.perm_iff_toList_perm.mp hq).mem_iff.mp hx)
theorem Bd.rev {N : Nat} {p : Array Nat} (h : Bd N p) (i j : Nat) : Bd N (kas_rev p i j) := h.perm (mirror_perm _ _ _ _)
theorem Bd.bub {N : Nat} {p : Array Nat} (h : Bd N p) (i j : Nat) : Bd N (bubble p i j) := h.perm (bubble_perm _ _ _)
section
variable {N : Nat} (hN : 0 < N)
include hN
theorem ok_asc {p : Array Nat} (h : Bd N p) : ∀ f n : Nat, OkK N (fun _ => True) (kas_asc p f n)
  | 0, _ => trivial
  | f + 1, n => ⟨h.at_ hN _, h.at_ hN _, fun c => by
    cases c with
    | true => exact trivial
    | false => exact ok_asc h f (n + 1)⟩
theorem ok_desc : ∀ (f : Nat) {p : Array Nat}, Bd N p → ∀ n q : Nat, OkK N (fun r => Bd N r.1) (kas_desc f p n q)
  | 0, _, h, _, _ => h
  | f + 1, p, h, n, q => ⟨h.at_ hN _, h.at_ hN _, fun c => by
    cases c with
    | true =>
      show OkK N _ (if q > 0 then kas_desc f (kas_rev p (n - (q + 1)) n) (n + 1) 0 else kas_desc f p (n + 1) 0)
      split
      · exact ok_desc f (h.rev _ _) _ _
      · exact ok_desc f h _ _
    | false => exact ⟨h.at_ hN _, h.at_ hN _, fun d => by
        cases d with
        | true => exact h
        | false => exact ok_desc f h _ _⟩⟩
theorem ok_tail3 {p : Array Nat} (h : Bd N p) (n nrem : Nat) : OkK N (fun r => Bd N r.2) (kas_tail3 n nrem p) :=
  (ok_asc hN (h.rev 0 n) _ _).bind fun _ _ => h.rev 0 n
theorem ok_descPart {p : Array Nat} (h : Bd N p) (n nrem : Nat) : OkK N (fun r => Bd N r.2) (kas_descPart n nrem p) :=
  (ok_desc hN _ h _ _).bind fun r hr => by
    show OkK N _ (if r.2.2 > 0 then kas_tail3 r.2.1 nrem (kas_rev r.1 (r.2.1 - (r.2.2 + 1)) r.2.1) else kas_tail3 r.2.1 nrem r.1)
    split
    · exact ok_tail3 hN (hr.rev _ _) _ _
    · exact ok_tail3 hN hr _ _
theorem ok_count {p : Array Nat} (h : Bd N p) (nrem : Nat) : OkK N (fun r => Bd N r.2) (kas_count nrem p) :=
  (ok_asc hN h _ _).bind fun n _ => by
    show OkK N _ (if (n == nrem) = true then .ret (n, p) else if n > 1 then .ask (p.getD 0 0) (p.getD (n - 1) 0) fun c => if c = true then .ret (n, p) else kas_descPart n nrem (kas_rev p 0 n) else kas_descPart n nrem p)
    split
    · exact h
    · split
      · exact ⟨h.at_ hN _, h.at_ hN _, fun c => by
          cases c with
          | true => exact h
          | false => exact ok_descPart hN (h.rev _ _) _ _⟩
      · exact ok_descPart hN h _ _
theorem ok_place {p : Array Nat} (h : Bd N p) (k : Nat) : ∀ f l r : Nat, OkK N (fun _ => True) (kas_place p k f l r)
  | 0, _, _ => trivial
  | f + 1, l, r => by
    show OkK N _ (if l ≥ r then .ret l else .ask (p.getD k 0) (p.getD ((l + r) / 2) 0) fun c => if c = true then kas_place p k f l ((l + r) / 2) else kas_place p k f ((l + r) / 2 + 1) r)
    split
    · exact trivial
    · exact ⟨h.at_ hN _, h.at_ hN _, fun c => by
        cases c with
        | true => exact ok_place h k f _ _
        | false => exact ok_place h k f _ _⟩
theorem ok_bin : ∀ (f : Nat) {p : Array Nat}, Bd N p → ∀ k : Nat, OkK N (fun r => Bd N r) (kas_bin f p k)
  | 0, _, h, _ => h
  | f + 1, p, h, k => (ok_place hN h k k 0 k).bind fun l _ => ok_bin f (h.bub _ _) (k + 1)
theorem ok_sort : OkK N (fun r => Bd N r) (kas_sort N) := by
  have h0 : Bd N (List.toArray (List.range N)) := fun x hx => by simpa using hx
  exact (ok_count hN h0 N).bind fun r hr => by
    show OkK N _ (if r.1 < N then kas_bin (N - max r.1 1) r.2 (max r.1 1) else .ret r.2)
    split
    · exact ok_bin hN _ hr _
    · exact hr
end
/-- where every ask is answered at once, the walk of the tree is its run -/
theorem wp_run {α : Type} {N : Nat} {lt : Nat → Nat → Bool} {cmp : Nat → Nat → (Bool → Shared → Prop) → Shared → Prop} {Q : α → Shared → Prop} {R : α → Prop} {s : Shared} (hc : ∀ i j C, i < N → j < N → C (lt i j) s → cmp i j C s) :
    ∀ t : KasT α, OkK N R t → Q (runK lt t) s → t.kasWp cmp Q s
  | .ret _, _, h => h
  | .ask i j k, ⟨h1, h2, h3⟩, h => hc i j _ h1 h2 (wp_run hc (k (lt i j)) (h3 _) h)
/-- a bit's sign's number -/
noncomputable def txtB' (p : Bits) : List Nat := p.map fun b => if b then 49 else 48
/-- texts of bits in their order -/
theorem txt_lt : ∀ p q : Bits, decide (txtB' p < txtB' q) = bl p q
  | [], [] => rfl
  | [], _ :: _ => by simp [txtB', bl]
  | _ :: _, [] => by simp [txtB', bl]
  | a :: p, b :: q => by
    have ih := txt_lt p q
    have e : decide (txtB' (a :: p) < txtB' (b :: q)) = if a = b then decide (txtB' p < txtB' q) else b := by
      unfold txtB'
      rw [List.map_cons, List.map_cons]
      simp only [List.cons_lt_cons_iff]
      cases a <;> cases b <;> simp
    rw [e, ih]
    rfl

open PySem.Calls
noncomputable abbrev dRw : Rw := ⟨0, 0, (0, 0, 0, 0, 0), dR⟩
noncomputable abbrev keyW (rr : List Rw) (i : Nat) : Bits := keyOf (rr.getD i dRw).v
/-- the rows sorted by their texts -/
noncomputable def sortR (rr : List Rw) : List Rw := if rr.length = 0 then [] else (runK (ltK (keyW rr)) (kas_sort rr.length)).toList.map fun i => rr.getD i dRw
noncomputable def KeysAre (ks : List Value) (rr : List Rw) : Prop := ∃ ts : List (Str × Tok), ks = strValues ts ∧ ts.map (fun p => p.1.cps.toList) = rr.map fun r => txtB (keyOf r.v)
theorem KeysAre.snoc {ks : List Value} {rr : List Rw} {r : Rw} {T : Str} {t : Tok} (h : KeysAre ks rr) (hT : T.cps.toList = txtB (keyOf r.v)) : KeysAre (ks ++ [.str T t]) (rr ++ [r]) := by
  obtain ⟨ts, rfl, e⟩ := h
  refine ⟨ts ++ [(T, t)], sv_snoc _ _ _, ?_⟩
  rw [List.map_append, List.map_append, e]
  exact congrArg (fun z => _ ++ [z]) hT
theorem KeysAre.len {ks : List Value} {rr : List Rw} (h : KeysAre ks rr) : ks.length = rr.length := by
  obtain ⟨ts, rfl, e⟩ := h
  have := congrArg List.length e
  rw [List.length_map, List.length_map] at this
  unfold strValues; rw [List.length_map]; exact this
theorem KeysAre.get {ks : List Value} {rr : List Rw} (h : KeysAre ks rr) {i : Nat} (hi : i < rr.length) : ∃ T t, ks.getD i .none = .str T t ∧ T.cps.toList = txtB (keyW rr i) := by
  have hl := h.len
  obtain ⟨ts, rfl, e⟩ := h
  unfold strValues at hl
  rw [List.length_map] at hl
  have hi' : i < ts.length := by omega
  refine ⟨ts[i].1, ts[i].2, ?_, ?_⟩
  · unfold strValues
    simp [hi']
  · have := congrArg (fun l : List (List Nat) => l[i]?) e
    simp only [List.getElem?_map, List.getElem?_eq_getElem hi', List.getElem?_eq_getElem hi, Option.map_some] at this
    have h2 := Option.some.inj this
    rw [h2]
    unfold keyW
    simp [hi]
theorem KeysAre.strs {ks : List Value} {rr : List Rw} (h : KeysAre ks rr) {v : Value} (hv : v ∈ ks) : ∃ T t, v = .str T t := by
  obtain ⟨ts, rfl, _⟩ := h
  obtain ⟨p, _, rfl⟩ := List.mem_map.mp hv
  exact ⟨_, _, rfl⟩
section
variable {prog : Program} {w : World} {A : Around} {h₀ : Heap} {L : Addr} {m : Str → Option Value} {kS D : Addr} {e1 : Nat} {news : Led} {f : Value} {Fin : List Value → Nat → Shared → Prop} {s : Shared} {rr : List Rw}
theorem keys_go (hkd : @LT.lt Nat _ D kS) (hD : ∀ q ∈ news, @LT.lt Nat _ q.1 D)
    (step : ∀ (r : Rw) n h tk (Q : Value → Shared → Prop), r ∈ rr → Fr h₀ L h m → News h₀ L h n → Sub news n → (∀ v n' h' tk', Fr h₀ L h' m → News h₀ L h' n' → Sub n n' → (∃ T t, v = .str T t ∧ T.cps.toList = txtB (keyOf r.v)) → Q v { s with heap := h', toks := tk' }) →
      wpAny (model prog w) A (call f [.ref r.a]) Q (fun _ _ => False) { s with heap := h, toks := tk })
    (fin : ∀ ks n h tk c, Fr h₀ L h m → News h₀ L h n → Sub news n → (kS, listOf (List.toArray ks) c) ∈ n → (D, listOf #[] e1) ∈ n → KeysAre ks rr → Fin ks c { s with heap := h, toks := tk }) :
    ∀ (r2 dn : List Rw) (ks : List Value) (e : Nat) (n : Led) (h : Heap) (tk : Nat), rr = dn ++ r2 → Fr h₀ L h m → News h₀ L h n → Sub news n → (kS, listOf (List.toArray ks) e) ∈ n → (D, listOf #[] e1) ∈ n → KeysAre ks dn →
      KatKeys prog w A h₀ L m kS f Fin (rowVals r2) ks e { s with heap := h, toks := tk }
  | [], dn, ks, e, n, h, tk, hr, F, N, hs, hk, hd, ha => by
    rw [List.append_nil] at hr
    subst hr
    exact fin ks n h tk e F N hs hk hd ha
  | r :: r2, dn, ks, e, n, h, tk, hr, F, N, hs, hk, hd, ha => by
    refine KatKeys.cons (step r n h tk _ (by rw [hr]; simp) F N hs fun v n' h' tk' F' N' hs' hv => ?_)
    obtain ⟨T, t, rfl, hT⟩ := hv
    refine KatBack.intro F' (toHead N' (hs' _ hk)) (.head offL_ne) fun h'' c F'' N'' => ?_
    exact keys_go hkd hD step fin r2 (dn ++ [r]) (ks ++ [.str T t]) c (updL kS (listOf (List.toArray (ks ++ [.str T t])) c) n') h'' tk' (by rw [hr]; simp) F'' (ofHead N'')
      (fun q hq => mem_updL_ne (hs' _ (hs q hq)) (neN (by have := hD q hq; omega))) (mem_updL_self (hs' _ hk)) (mem_updL_ne (hs' _ hd) (neN (by omega))) (ha.snoc hT)
end
theorem sortR_vals {rr : List Rw} (h : 1 ≤ rr.length) : (runK (ltK (keyW rr)) (kas_sort rr.length)).toList.map (fun i => (rowVals rr).getD i .none) = rowVals (sortR rr) := by
  unfold sortR
  rw [if_neg (by omega)]
  unfold rowVals
  rw [List.map_map]
  refine List.map_congr_left fun i hi => ?_
  have hi : i < rr.length := by
    have := ((sort_list (keyW rr) h).1).mem_iff.mp hi
    simpa using this
  simp [hi]
section
variable {prog : Program} {w : World} {A : Around} {E : Value → Shared → Prop} {h₀ : Heap} {L l fa : Addr} {m : Str → Option Value} {news : Led} {s : Shared} {rr : List Rw} {c : Nat} {Q : Value → Shared → Prop}
theorem sorted_two (F : Fr h₀ L s.heap m) (N : News h₀ L s.heap news) (hl : (l, listOf (rowVals rr).toArray c) ∈ news) (h2 : 2 ≤ rr.length) (h64 : rr.length < 64)
    (step : ∀ (r : Rw) n h tk (Q : Value → Shared → Prop), r ∈ rr → Fr h₀ L h m → News h₀ L h n → Sub news n → (∀ v n' h' tk', Fr h₀ L h' m → News h₀ L h' n' → Sub n n' → (∃ T t, v = .str T t ∧ T.cps.toList = txtB (keyOf r.v)) → Q v { s with heap := h', toks := tk' }) →
      wpAny (model prog w) A.in1.in1 (call (.ref fa) [.ref r.a]) Q (fun _ _ => False) { s with heap := h, toks := tk })
    (h : ∀ D c' n' h' tk', Fr h₀ L h' m → News h₀ L h' n' → Sub news n' → (D, listOf (rowVals (sortR rr)).toArray c') ∈ n' → (∀ q ∈ news, q.1 < D) → Q (.ref D) { s with heap := h', toks := tk' }) :
    wpAny (model prog w) A (call (.builtin "sorted") [.ref l] [(Str.ofString "key", .ref fa)]) Q E s := by
  have hlen : (rowVals rr).length = rr.length := List.length_map _
  refine kat_sortedK (vs := rowVals rr) (b := false) (f := .ref fa) F N (N.isList hl) (by (clear h64; omega)) (by (clear h2; omega)) (ksk_s1 _ _) (fun x => ksk_l1 _ _) (fun x => ksk_t1 _ _) fun D kS e1 h' F' N' l1 l2 => ?_
  refine keys_go (s := s) (D := D) (e1 := e1) (news := news) (rr := rr) l1 l2 step ?_ rr [] [] 0 _ h' s.toks rfl F' N' (Sub.cons _ (Sub.cons _ (Sub.refl _))) (.head _) (.tail _ (.head _)) ⟨[], rfl, rfl⟩
  intro ks n h5 tk c5 F5 N5 hs5 hk5 hd5 ha
  refine kas_kind (vs := ks) (T := .type "str") (by rw [ha.len]; exact h2) (fun v hv => ?_) rfl rfl ?_
  · obtain ⟨T, t, rfl⟩ := ha.strs hv
    exact Looks.of_pure rfl
  · rw [hlen]
    refine wp_run (N := rr.length) (lt := ltK (keyW rr)) (R := fun r => Bd rr.length r) (fun i j C hi hj hC => ?_) _ (ok_sort (by (clear h64 hlen l1; omega))) ?_
    · obtain ⟨T, t, e1, e2⟩ := ha.get hi
      obtain ⟨T', t', e1', e2'⟩ := ha.get hj
      unfold kas_ask
      show wpAny _ _ (keyLt' oneType' (ks.getD i .none) (ks.getD j .none)) _ _ _
      rw [e1, e1']
      refine kas_lt_str ?_
      rw [e2, e2']
      have := txt_lt (keyW rr i) (keyW rr j)
      have e : decide (txtB (keyW rr i) < txtB (keyW rr j)) = ltK (keyW rr) i j := this
      rw [e]; exact hC
    · refine KatFin.intro F5 (toHead N5 hk5) (.head offL_ne) fun h6 c6 F6 N6 => ?_
      have N6' := ofHead N6
      have hd6 : (D, listOf #[] e1) ∈ updL kS (seqObj "list" #[] c6) n := mem_updL_ne hd5 (neN (Nat.ne_of_lt l1))
      refine KasFin.intro F6 (toHead N6' hd6) (.head offL_ne) fun h7 c7 F7 N7 => ?_
      refine h D c7 _ h7 tk F7 (ofHead N7) (fun q hq => mem_updL_ne (mem_updL_ne (hs5 q hq) (neN ?_)) (neN ?_)) ?_ l2
      · have := l2 q hq; have : @LT.lt Nat _ q.1 D := this; have : @LT.lt Nat _ D kS := l1; (clear h2 h64 hlen l1; omega)
      · have : @LT.lt Nat _ q.1 D := l2 q hq; (clear h2 h64 hlen l1; omega)
      · rw [← sortR_vals (by (clear h64 hlen l1; omega))]
        exact mem_updL_self hd6
end

open PySem.Calls
section
variable {prog : Program} {w : World} {A : Around} {E : Value → Shared → Prop} {s : Shared} {h₀ : Heap} {L : Addr} {m : Str → Option Value} {news : List (Addr × Obj)} {a kS : Addr} {vs ks : List Value} {f : Value} {P : PySem.Fin → Shared → Prop}
theorem few_out (hl : ks.length = vs.length) (h1 : vs.length < 2) : ((List.toArray ks).zip (List.toArray vs)).map (·.2) = List.toArray vs := by
  cases vs with
  | nil =>
    cases ks with
    | nil => simp
    | cons x r => simp at hl
  | cons y r =>
    cases r with
    | cons z r => exact absurd h1 (by simp only [List.length_cons]; (clear h1 hl; omega))
    | nil =>
      cases ks with
      | nil => simp at hl
      | cons x q =>
        cases q with
        | nil => simp
        | cons z q => simp at hl
theorem end_few {e e1 : Nat} (hl : ks.length = vs.length) (h1 : vs.length < 2) (h : KatFin h₀ L m kS a ks e e1 vs (fun s' => P (.done (.ret .none)) s') s) :
    wpAny (model prog w) A (ksk_end a false vs.toArray e1 (.ref kS) (List.toArray ks)) P E s := by
  have hn : vs.toArray.size < 2 := by rw [List.size_toArray]; exact h1
  unfold ksk_end
  dsimp only
  rw [if_neg Bool.false_ne_true]
  rw [if_pos hn, if_pos hn]
  refine wpAny_bind (wpAny_pure ?_)
  rw [StateT.run_pure]
  refine wpAny_bind (wpAny_pure ?_)
  exact kat_tail (b := false) (st := SortSt.mk' general' ((List.toArray ks).zip vs.toArray) #[] 7 none) (out := vs) (few_out hl h1) (by (clear hl hn; omega)) (by (clear hn; omega)) rfl h
theorem rest_few {e1 : Nat} (hk : s.heap.get? kS = some (seqObj "list" #[] 0)) (h1 : vs.length < 2)
    (h : KatKeys prog w A h₀ L m kS f (fun ks e s' => KatFin h₀ L m kS a ks e e1 vs (fun s4 => P (.done (.ret .none)) s4) s') vs [] 0 s) : wpAny (model prog w) A (ksk_rest a f false vs.toArray e1 (.ref kS)) P E s := by
  unfold ksk_rest
  refine wpAny_bind (wpAny_rule ?_)
  first
    | rw [List.forIn_toArray]
    | (rw [← Array.forIn_toList]; simp only [List.toList_toArray])
    | rw [← Array.forIn_toList]
  refine wpAny_bind (wpAny_mono (kat_fold (n := vs.length) (by omega) (fun x ks e s' C hz hx => ?_) vs [] 0 s (by simp) hk h) (fun _ s' hd => ?_) fun _ _ x => x)
  · refine wpAny_bind (wpAny_attempt (wpAny_mono hx (fun k s'' hk => ?_) fun _ _ hF => hF.elim))
    obtain ⟨news', g, F', N', U, c⟩ := hk
    obtain ⟨pre, post, e0, hg, x1, x2⟩ := U.split
    rw [e0] at N'
    have nk := N' (kS, seqObj "list" (List.toArray ks) e) (List.mem_append_right _ (.head _))
    have s1 := Heap.SameBut.update s''.heap kS (Obj.mapSeq (·.push k))
    have ea : (List.toArray ks).push k = List.toArray (ks ++ [k]) := by simp
    obtain ⟨c2, hc2⟩ : ∃ c2, (s''.heap.update kS (Obj.mapSeq (·.push k))).get? kS = some (seqObj "list" (List.toArray (ks ++ [k])) c2) := ⟨_, by rw [← ea]; exact get?_update_seq nk.1 (·.push k)⟩
    dsimp only
    refine wpAny_bind (listUpdate_at nk.1 rfl ?_ (by rw [List.size_toArray, sizeLine_eq]; (clear h1 nk; omega)) (Nat.le_trans (Nat.le_of_eq (Array.size_push ..)) (by rw [List.size_toArray, sizeLine_eq]; (clear h1 nk; omega))))
    exact wpAny_pure ⟨rfl, k, c2, hc2, c _ c2 (kas_fr F' s1 nk.2.1 nk.2.2) (by rw [hg]; exact news_set N' x1 x2 s1 hc2)⟩
  · obtain ⟨ks, e, hk', hl, fin⟩ := hd
    refine wpAny_bind (listItems_at hk' rfl ?_)
    exact end_few hl h1 fin
theorem keyed_few {n : Nat} (F : Fr h₀ L s.heap m) (N : News h₀ L s.heap news) (ho : s.heap.get? a = some (seqObj "list" vs.toArray n)) (haL : a ≠ L) (ha0 : h₀.get? a = none) (hna : ∀ p ∈ news, p.1 ≠ a) (h1 : vs.length < 2)
    (h : ∀ kS e1 h', Fr h₀ L h' m → News h₀ L h' ((kS, seqObj "list" #[] 0) :: (a, seqObj "list" #[] e1) :: news) → a < kS → (∀ q ∈ news, q.1 < kS) →
      KatKeys prog w A h₀ L m kS f (fun ks e s' => KatFin h₀ L m kS a ks e e1 vs (fun s4 => P (.done (.ret .none)) s4) s') vs [] 0 { s with heap := h' }) : wpAny (model prog w) A (ksk_tree a f false) P E s := by
  have ha : a < s.heap.objs.size := Heap.lt_size ho
  have s1 := Heap.SameBut.update s.heap a (Obj.mapSeq fun _ => (#[] : Array Value))
  obtain ⟨e1, ho1⟩ : ∃ e1, (s.heap.update a (Obj.mapSeq fun _ => (#[] : Array Value))).get? a = some (seqObj "list" #[] e1) := ⟨_, get?_update_seq ho fun _ => #[]⟩
  have F1 := kas_fr F s1 haL ha0
  have N1 := kas_news N s1 hna
  have hkS : ((s.heap.update a (Obj.mapSeq fun _ => (#[] : Array Value))).push (seqObj "tuple" vs.toArray 0)).objs.size = s.heap.objs.size + 1 := by rw [Heap.size_push, Heap.size_update]
  have hLk : L < ((s.heap.update a (Obj.mapSeq fun _ => (#[] : Array Value))).push (seqObj "tuple" vs.toArray 0)).objs.size := (F1.push _).ns.lt
  unfold ksk_tree
  refine wpAny_bind (listItems_at ho rfl ?_)
  refine wpAny_bind (listUpdate_at ho rfl ?_ (by rw [List.size_toArray, sizeLine_eq]; (clear hLk ha haL hkS; omega)) (Nat.zero_le _))
  refine wpAny_bind (seqEpoch_at ho1 rfl ?_)
  refine wpAny_bind (wpAny_newTuple ?_ (by show vs.length ≤ _; rw [sizeLine_eq]; (clear hLk ha haL hkS; omega)))
  refine wpAny_bind (wpAny_newList ?_ (Nat.zero_le _))
  refine wpAny_holding ?_
  refine rest_few (s := { s with heap := ((s.heap.update a (Obj.mapSeq fun _ => (#[] : Array Value))).push (seqObj "tuple" vs.toArray 0)).push (seqObj "list" #[] 0) }) (kS := ((s.heap.update a (Obj.mapSeq fun _ => (#[] : Array Value))).push (seqObj "tuple" vs.toArray 0)).objs.size)
    (Heap.get?_push_size _ rfl) h1 (h _ e1 _ ((F1.push _).push _) (fun p hp => ?_) (by rw [hkS]; exact Nat.lt_succ_of_lt ha) fun q hq => by rw [hkS]; exact Nat.lt_succ_of_lt (Heap.lt_size (N q hq).1))
  rcases List.mem_cons.mp hp with rfl | hp
  · exact ⟨Heap.get?_push_size _ rfl, Nat.ne_of_gt hLk, Heap.get?_none_of_le (Nat.le_trans F.above (Nat.le_of_lt hLk))⟩
  · rcases List.mem_cons.mp hp with rfl | hp
    · exact ⟨Heap.get?_push_of_some _ (Heap.get?_push_of_some _ ho1), haL, ha0⟩
    · exact ⟨Heap.get?_push_of_some _ (Heap.get?_push_of_some _ (N1 p hp).1), (N1 p hp).2⟩
theorem call_few {l fa : Addr} {Q : Value → Shared → Prop} (F : Fr h₀ L s.heap m) (N : News h₀ L s.heap news) (hl : s.heap.IsList l vs.toArray) (h1 : vs.length < 2)
    (h : ∀ D kS e1 h', Fr h₀ L h' m → News h₀ L h' ((kS, seqObj "list" #[] 0) :: (D, seqObj "list" #[] e1) :: news) → D < kS → (∀ q ∈ news, q.1 < D) →
      KatKeys prog w A.in1.in1 h₀ L m kS (.ref fa) (fun ks e s' => KatFin h₀ L m kS D ks e e1 vs (fun s4 => Q (.ref D) s4) s') vs [] 0 { s with heap := h' }) :
    wpAny (model prog w) A (call (.builtin "sorted") [.ref l] [(Str.ofString "key", .ref fa)]) Q E s := by
  refine call_function_entry_kw kind_sorted plain_sorted entry_sorted (ksk_s1 _ _) ?_
  unfold Builtin.«sorted»
  refine wpAny_bind (m := checkCount "sorted" 1 1 _) (wpAny_pure ?_)
  refine wpAny_bind (collect_list hl ?_ (by rw [sizeLine_eq]; omega))
  refine wpAny_bind (wpAny_newList ?_ (by rw [sizeLine_eq]; omega))
  have hsz : ((s.heap.push (seqObj "list" #[] 0)).update s.heap.objs.size (Obj.mapSeq (· ++ vs.toArray))).objs.size = s.heap.objs.size + 1 := by
    rw [Heap.size_update, Heap.size_push]
  have hoL : (((s.heap.push (seqObj "list" #[] 0)).update s.heap.objs.size (Obj.mapSeq (· ++ vs.toArray))).push (seqObj "list" vs.toArray 0)).get? (s.heap.objs.size + 1) = some (seqObj "list" vs.toArray 0) := by
    rw [← hsz]; exact Heap.get?_push_size _ rfl
  have keep : ∀ b o, s.heap.get? b = some o → (((s.heap.push (seqObj "list" #[] 0)).update s.heap.objs.size (Obj.mapSeq (· ++ vs.toArray))).push (seqObj "list" vs.toArray 0)).get? b = some o := fun b o q => by
    have hlt : b < s.heap.objs.size := Heap.lt_size q
    rw [Heap.get?_push_ne _ _ _ (by rw [hsz]; exact Nat.ne_of_lt (Nat.lt_succ_of_lt hlt)), Heap.get?_update_ne _ _ _ _ (Nat.ne_of_lt hlt), Heap.get?_push_ne _ _ _ (Nat.ne_of_lt hlt)]
    exact q
  have hL : L < s.heap.objs.size := F.ns.lt
  show wpAny _ _ _ _ _ { s with heap := ((s.heap.push (seqObj "list" #[] 0)).update s.heap.objs.size (Obj.mapSeq (· ++ vs.toArray))).push (seqObj "list" vs.toArray 0) }
  rw [hsz]
  refine wpAny_bind (wpAny_holding (wpAny_call_entry_kw slot_list_sort ⟨_, hoL, rfl⟩ entry_list_sort ?body (ksk_l1 _ _)))
  case body =>
    show wpAny (model prog w) A.in1.in1 (Builtin.«list.sort» ⟨[.ref (s.heap.objs.size + 1)], [(Str.ofString "key", .ref fa)]⟩) _ _ _
    rw [ksk_t1]
    refine keyed_few (s := { s with heap := ((s.heap.push (seqObj "list" #[] 0)).update s.heap.objs.size (Obj.mapSeq (· ++ vs.toArray))).push (seqObj "list" vs.toArray 0) })
      (F.kept keep) (N.grown keep) hoL (Nat.ne_of_gt (Nat.lt_succ_of_lt hL)) (Heap.get?_none_of_le (Nat.le_trans F.above (Nat.le_succ_of_le (Nat.le_of_lt hL))))
      (fun p hp => Nat.ne_of_lt (Nat.lt_succ_of_lt (Heap.lt_size (N p hp).1))) h1 fun kS e1 h' F' N' l0 l1 => ?_
    refine kat_keys_mono (h _ kS e1 h' F' N' l0 fun q hq => Nat.lt_succ_of_lt (Heap.lt_size (N q hq).1)) fun ks e s' hl' hd => ?_
    exact hd.mono fun s4 hq => ⟨_, rfl, wpAny_pure ⟨_, rfl, hq⟩⟩
end
theorem sortR_few {rr : List Rw} (h : rr.length < 2) : sortR rr = rr := by
  rcases rr with _ | ⟨r, _ | ⟨r2, t⟩⟩
  · rfl
  · unfold sortR
    rw [if_neg (by simp)]
    have hp := (sort_list (keyW [r]) (N := [r].length) (by simp)).1
    have e : (runK (ltK (keyW [r])) (kas_sort [r].length)).toList = [0] := by
      have : List.range [r].length = [0] := rfl
      rw [this] at hp
      exact List.perm_singleton.mp hp
    rw [e]; rfl
  · exact absurd h (Nat.not_lt.mpr (Nat.le_add_left 2 t.length))
section
variable {prog : Program} {w : World} {A : Around} {E : Value → Shared → Prop} {h₀ : Heap} {L l fa : Addr} {m : Str → Option Value} {news : Led} {s : Shared} {rr : List Rw} {c : Nat} {Q : Value → Shared → Prop}
/-- the rows sorted by the law's key -/
theorem sorted_rows (F : Fr h₀ L s.heap m) (N : News h₀ L s.heap news) (hl : (l, listOf (rowVals rr).toArray c) ∈ news) (h64 : rr.length < 64)
    (step : ∀ (r : Rw) n h tk (Q : Value → Shared → Prop), r ∈ rr → Fr h₀ L h m → News h₀ L h n → Sub news n → (∀ v n' h' tk', Fr h₀ L h' m → News h₀ L h' n' → Sub n n' → (∃ T t, v = .str T t ∧ T.cps.toList = txtB (keyOf r.v)) → Q v { s with heap := h', toks := tk' }) →
      wpAny (model prog w) A.in1.in1 (call (.ref fa) [.ref r.a]) Q (fun _ _ => False) { s with heap := h, toks := tk })
    (h : ∀ D c' n' h' tk', Fr h₀ L h' m → News h₀ L h' n' → Sub news n' → (D, listOf (rowVals (sortR rr)).toArray c') ∈ n' → (∀ q ∈ news, q.1 < D) → Q (.ref D) { s with heap := h', toks := tk' }) :
    wpAny (model prog w) A (call (.builtin "sorted") [.ref l] [(Str.ofString "key", .ref fa)]) Q E s := by
  by_cases h2 : 2 ≤ rr.length
  · exact sorted_two F N hl h2 h64 step h
  have hlen : (rowVals rr).length = rr.length := List.length_map _
  refine call_few (vs := rowVals rr) F N (N.isList hl) (by (clear h64; omega)) fun D kS e1 h' F' N' l1 l2 => ?_
  refine keys_go (s := s) (D := D) (e1 := e1) (news := news) (rr := rr) l1 l2 step ?_ rr [] [] 0 _ h' s.toks rfl F' N' (Sub.cons _ (Sub.cons _ (Sub.refl _))) (.head _) (.tail _ (.head _)) ⟨[], rfl, rfl⟩
  intro ks n h5 tk c5 F5 N5 hs5 hk5 hd5 ha
  refine KatFin.intro F5 (toHead N5 hk5) (.head offL_ne) fun h6 c6 F6 N6 => ?_
  have N6' := ofHead N6
  have hd6 : (D, listOf #[] e1) ∈ updL kS (seqObj "list" #[] c6) n := mem_updL_ne hd5 (neN (Nat.ne_of_lt l1))
  refine KasFin.intro F6 (toHead N6' hd6) (.head offL_ne) fun h7 c7 F7 N7 => ?_
  refine h D c7 _ h7 tk F7 (ofHead N7) (fun q hq => mem_updL_ne (mem_updL_ne (hs5 q hq) (neN ?_)) (neN ?_)) ?_ l2
  · have := l2 q hq; have : @LT.lt Nat _ q.1 D := this; have : @LT.lt Nat _ D kS := l1; (clear h2 h64 hlen l1; omega)
  · have : @LT.lt Nat _ q.1 D := l2 q hq; (clear h2 h64 hlen l1; omega)
  · rw [sortR_few (by (clear h64 hlen l1; omega))]
    exact mem_updL_self hd6
end

open PySem.SeqAt
section
variable {prog : Program} {w : World} {A : Around} {E : Value → Shared → Prop} {s : Shared} {h₀ : Heap} {L l b : Addr} {news : Led} {c c2 : Nat} {Q : Value → Shared → Prop}
/-- a row's five values -/
noncomputable def vals5 (u : Tok × Tok × Tok × Tok × Tok) (v : R5) : List Value := [.int v.n u.1, .int v.p u.2.1, .int v.g u.2.2.1, .int v.f u.2.2.2.1, .int v.e u.2.2.2.2]
theorem five_at {A' : Around} (u u' : Tok × Tok × Tok × Tok × Tok) (v : R5) (j : Nat) (h1 : j < (vals5 u v).toArray.size) (h2 : j < (vals5 u' v).toArray.size) : EqAt A' s (vals5 u v).toArray[j] (vals5 u' v).toArray[j] true := by
  have hj : j < 5 := h1
  have e : ∀ (x : Int) (t t' : Tok), EqAt A' s (.int x t) (.int x t') true := fun x t t' => by
    have := (MeetsSeq.EqGives.int x x t t').at A' s
    rwa [show (x == x) = true from by simp] at this
  match j, hj with
  | 0, _ => exact e _ _ _
  | 1, _ => exact e _ _ _
  | 2, _ => exact e _ _ _
  | 3, _ => exact e _ _ _
  | 4, _ => exact e _ _ _
theorem all_true (n : Nat) : ((List.range n).all fun _ => true) = true := by simp
theorem rows_rc {A' : Around} {a a' : Addr} {u u' : Tok × Tok × Tok × Tok × Tok} {v : R5} {k k' : Nat} (N : News h₀ L s.heap news) (h1 : (a, listOf (vals5 u v).toArray k) ∈ news) (h2 : (a', listOf (vals5 u' v).toArray k') ∈ news) (hu : A'.units < cLine) : EqAt A' s (.ref a) (.ref a') true := by
  by_cases e : a = a'
  · subst e; exact EqAt.same _
  · have := RcAt.lists (A := A') (e := fun _ => true) (N.isList h1) (N.isList h2) rfl hu (fun j h1 h2 => five_at u u' v j h1 h2)
    rw [all_true] at this
    exact EqAt.of_refs e this
/-- two lists of rows of the same numbers do not differ -/
theorem ne_rows {tt uu : List Rw} (N : News h₀ L s.heap news) (hl : (l, listOf (rowVals tt).toArray c) ∈ news) (hb : (b, listOf (rowVals uu).toArray c2) ∈ news) (ht : ∀ r ∈ tt, (r.a, r.obj) ∈ news) (hu : ∀ r ∈ uu, (r.a, r.obj) ∈ news)
    (he : numsOf tt = numsOf uu) (h1 : A.units < cLine) (h2 : A.in1.units < cLine) (h : Q (.bool false) s) : wpAny (model prog w) A (compareOp .NotEq (.ref l) (.ref b)) Q E s := by
  have hlen : tt.length = uu.length := by have := congrArg List.length he; simpa using this
  refine RcNeAt.lists (e := fun _ => true) (N.isList hl) (N.isList hb) (by simpa using hlen) h1 (fun j hj1 hj2 => ?_) prog w E Q (by rw [all_true]; exact h)
  have hj1' : j < tt.length := by simpa using hj1
  have hj2' : j < uu.length := by simpa using hj2
  have e1 : (rowVals tt).toArray[j] = .ref (tt[j]).a := by simp
  have e2 : (rowVals uu).toArray[j] = .ref (uu[j]).a := by simp
  rw [e1, e2]
  have ev : (tt[j]).v = (uu[j]).v := by
    have := congrArg (fun l : List R5 => l[j]?) he
    simp only [List.getElem?_map, List.getElem?_eq_getElem hj1', List.getElem?_eq_getElem hj2', Option.map_some] at this
    exact Option.some.inj this
  have m1 := ht _ (List.getElem_mem hj1')
  have m2 := hu _ (List.getElem_mem hj2')
  exact rows_rc (u := (tt[j]).u) (u' := (uu[j]).u) (v := (tt[j]).v) N m1 (by rw [ev]; exact m2) h2
/-- and two rows of the same numbers -/
theorem ne_five {a a' : Addr} {u u' : Tok × Tok × Tok × Tok × Tok} {v v' : R5} {k k' : Nat} (N : News h₀ L s.heap news) (h1 : (a, listOf (vals5 u v).toArray k) ∈ news) (h2 : (a', listOf (vals5 u' v').toArray k') ∈ news) (hv : v = v') (hu : A.units < cLine) (h : Q (.bool false) s) :
    wpAny (model prog w) A (compareOp .NotEq (.ref a) (.ref a')) Q E s := by
  subst hv
  exact RcNeAt.lists (e := fun _ => true) (N.isList h1) (N.isList h2) rfl hu (fun j h1 h2 => five_at u u' v j h1 h2) prog w E Q (by rw [all_true]; exact h)
end
theorem sortR_nums {M : Tm} {rr : List Rw} (h : Alike M (numsOf rr)) (W : Wf M) : numsOf (sortR rr) = (preF M []).map five := by
  unfold sortR
  by_cases hn : rr.length = 0
  · have : rr = [] := List.length_eq_zero_iff.mp hn
    subst this
    have h' : Alike M [] := h
    show numsOf [] = _
    rw [h'.pre_nil]; rfl
  · rw [if_neg hn, h.sorted W (by rw [List.length_map]; omega)]
    have e : ∀ i, (numsOf rr).getD i dR = (rr.getD i dRw).v := fun i => by
      unfold numsOf
      rw [List.getD_eq_getElem?_getD, List.getD_eq_getElem?_getD, List.getElem?_map]
      cases rr[i]? <;> rfl
    have ek : keyI (numsOf rr) = keyW rr := by funext i; exact congrArg keyOf (e i)
    have el : (numsOf rr).length = rr.length := List.length_map _
    rw [ek, el]
    unfold numsOf
    rw [List.map_map]
    exact List.map_congr_left fun i _ => (e i).symm
theorem sortR_mem {rr : List Rw} {r : Rw} (h : r ∈ sortR rr) : r ∈ rr := by
  unfold sortR at h
  by_cases hn : rr.length = 0
  · rw [if_pos hn] at h; cases h
  · rw [if_neg hn] at h
    obtain ⟨i, hi, rfl⟩ := List.mem_map.mp h
    have hi : i < rr.length := by
      have := ((sort_list (keyW rr) (N := rr.length) (by omega)).1).mem_iff.mp hi
      simpa using this
    have : rr.getD i dRw = rr[i] := by simp [hi]
    rw [this]; exact List.getElem_mem hi

theorem rows_OWN_F27_7 : True := by
  k_with  "call builtin:sorted" => k_extra "sorted"
  trivial

theorem fnd_mem {M : Tm} {a : Int} {r : Rt} : ∀ {k : Nat}, fnd M a k = some r → ∃ q, r ∈ rsAt M q
  | 0, h => ⟨[], (bestOf_mem _ _ _ h).elim id fun h => nomatch h⟩
  | k + 1, h => by
    unfold fnd at h
    split at h
    · exact fnd_mem h
    · exact ⟨_, (bestOf_mem _ _ _ h).elim id fun h => nomatch h⟩
theorem vb_none {b : Option Rw} (h : b.map (·.v) = (none : Option Rt).map five) : b = none := by
  cases b with
  | none => rfl
  | some q => simp at h
theorem vb_some {b : Option Rw} {r : Rt} (h : b.map (·.v) = (some r).map five) : ∃ q, b = some q ∧ q.v = five r := by
  cases b with
  | none => simp at h
  | some q => exact ⟨q, rfl, by simpa using h⟩
set_option maxRecDepth 100000 in
set_option maxHeartbeats 2000000 in
theorem spec_law_stands (prog : Program) (w : World) (kk : Led) (so x td b0 rl : Addr) (M : Tm) (rr : List Rw) (news : Led) (O : LawObj kk w news so x td b0 rl M rr.length rr) (hal : Alike M (numsOf rr)) (hz : rr.length ≤ 60) :
    Spec prog w 333 10 80 [.ref so, .ref x, .ref rl] news (fun news v news' => v = .bool true ∧ LawObj kk w news' so x td b0 rl M rr.length rr) := by
  intro p loose mean mg mb dp un gd cn cs a ccd cl outer A₀ base h₀ L m s Q E B F X N T hk hd hu hret
  obtain mk_F27_1 : True := trivial
  refine hide ?_
  intro GG0 hGG0
  obtain ⟨o, hso, hsrc⟩ := O.src
  obtain ⟨hin, ⟨u0, u1, um, hdt⟩, TI, W, hb0⟩ := id O.tab
  obtain hpl := hal.pre_length W
  rw [List.length_map] at hpl
  refine hGG0 ?_
  (try clear hGG0 GG0)
  k_with "comp" => (guard_hyp mk_F27_1; (refine Stop.go ?_))
  k_with "compend" => (guard_hyp mk_F27_1; (refine Stop.go ?_))
  k_with "spec" => (guard_hyp mk_F27_1; exact spec_rows _ _ _ _ _ _ _ _ _ _ hin hdt TI W hb0 (by walk_at "m_om"))
  k_with "post" => (guard_hyp mk_F27_1; (rename_i n9 h9 tk9 F9 N9 P9; obtain ⟨f9, c9, rfl, hf9, hs9, hl9⟩ := P9))
  walk_at "m_enter"
  k_steps
  refine LCg.CompSrc.ledger (ax := f9) (its := (rtVals (preF M [])).toArray) (k := c9) (by exact rfl) (by k_asm) (by k_asm) hf9 (by rw [PySem.sizeLine_eq]; simp only [List.size_toArray, List.length_map]; (clear hd hu; omega)) fun g8 => ?_
  refine comp_inv (fun i ys n => Sub n9 n ∧ ∃ tt : List Rw, ys = rowVals tt ∧ numsOf tt = ((preF M []).take i).map five ∧ ∀ r ∈ tt, (r.a, r.obj) ∈ n) (n := (preF M []).length) ?step ?fin _ 0 [] n9 (by simp) ⟨Sub.refl _, [], rfl, rfl, fun _ h => nomatch h⟩
  case step =>
    intro i8 ys8 n8 v8 I8 oI8 C8 oC8 D8 m8 hh8 tk8' E8 hi8 hj8 hP8 ho8 hx8 F8 N8 off8 ne8
    refine hide ?_
    intro GG0 hGG0
    obtain ⟨hs8, tt8, rfl, htt8, hmem8⟩ := hj8
    obtain ⟨r8, hr8, rfl⟩ := rtVals_get (by simpa using hP8)
    obtain ⟨q8, hq8⟩ := mem_pre (List.mem_of_getElem? hr8)
    obtain ⟨nd8, hnd8, hrn8⟩ := rsAt_mem hq8
    obtain ⟨hr8x, hr8d⟩ := (TI.rts _ _ hnd8 r8 hrn8).1
    obtain hr8x := hs8 _ (hs9 _ hr8x)
    obtain hr8d := hs8 _ (hs9 _ hr8d)
    obtain hf8 := hs8 _ hf9
    refine hGG0 ?_
    (try clear hGG0 GG0)
    k_fold
    (try clear mk_F27_1)
    obtain mk_F27_2 : True := trivial
    k_with "spec" => (guard_hyp mk_F27_2; exact spec_row _ _ _ _ _ _ _ _ _ _ _ _ _ _ _ _ _ _ _ _ (by k_mem) (by k_mem))
    k_with "post" => (guard_hyp mk_F27_2; (rename_i P9; obtain ⟨x8, rfl, rfl, hlx8⟩ := P9))
    k_with "compend" => (guard_hyp mk_F27_2; (refine Stop.go ?_))
    k_steps
    rename_i D7 c7 h7 F7 N7 l7
    unfold Stop
    (try simp only [])
    (try dsimp only)
    refine LCg.CompEnd.intro F7 N7 ((D7, listOf [Value.int r8.n r8.u.1, .int r8.p r8.u.2.1, .int r8.g r8.u.2.2.1, .int r8.f r8.u.2.2.2.1, .int r8.e r8.u.2.2.2.2].toArray c7) :: n8) (fun p hp => ?_) ⟨⟨Nat.ne_of_gt l7.2.1, Nat.ne_of_gt l7.2.2.1, Nat.ne_of_gt l7.2.2.2.1⟩, off8⟩ (.inr ⟨_, .tail _ hf8, rfl, _, rfl⟩)
      ⟨hs8.trans (Sub.cons _ (Sub.refl _)), tt8 ++ [⟨D7, c7, r8.u, five r8⟩], by unfold rowVals; rw [List.map_append]; rfl, ?_, fun r hr => ?_⟩
    · rcases List.mem_cons.mp hp with rfl | hp
      · exact .tail _ (.tail _ (.head _))
      rcases List.mem_cons.mp hp with rfl | hp
      · exact .tail _ (.tail _ (.tail _ (.head _)))
      rcases List.mem_cons.mp hp with rfl | hp
      · exact .tail _ (.tail _ (.tail _ (.tail _ (.head _))))
      rcases List.mem_cons.mp hp with rfl | hp
      · exact .head _
      exact .tail _ (.tail _ (.tail _ (.tail _ (.tail _ hp))))
    · unfold numsOf at htt8 ⊢
      rw [List.map_append, htt8, List.take_succ, hr8, List.map_append]; rfl
    · rcases List.mem_append.mp hr with hr | hr
      · exact .tail _ (hmem8 r hr)
      · obtain rfl := List.mem_singleton.mp hr
        exact .head _
  case fin =>
    rintro ys8 n8 ⟨hs8, tt8, rfl, htt8, hmem8⟩ D8 h8 tk8 F8 N8 o8'
    rw [List.take_length] at htt8
    (try dsimp only)
    (try k_fold)
    obtain hD8 := off1_mem o8'
    (try clear mk_F27_1)
    obtain mk_F27_3 : True := trivial
    k_with "sorted" => (guard_hyp mk_F27_3; (refine Stop.go ?_))
    k_steps
    obtain ⟨c0, hrl0⟩ := O.rows
    change wpAny _ _ (call (.builtin "sorted") [.ref rl] [(Str.ofString "key", .ref 321)]) _ _ _
    rename Fr _ _ _ _ => F6
    refine sorted_rows (rr := rr) (c := c0) F6 N8 (.tail _ (hs8 _ (hs9 _ hrl0))) (by (clear hd hpl hu; omega)) ?step2 ?then2
    case step2 =>
      intro r6 n6 h6 tk6 Q6 hr6 F5 N5 hs6 cont6
      obtain hrow6 := hs6 _ (.tail _ (hs8 _ (hs9 _ (O.row r6 hr6))))
      obtain wl6 := hal.well _ (List.mem_map_of_mem hr6)
      (try clear mk_F27_3)
      obtain mk_F27_4 : True := trivial
      k_with "spec" => (guard_hyp mk_F27_4; exact spec_law_text _ _ _ _ hrow6 wl6.p0 wl6.p1 wl6.n0 wl6.n1)
      k_with "post" => (guard_hyp mk_F27_4; skip)
      walk_at "m_use"
      rename_i v5 n5 h5 tk5 F5 N5 P5
      exact cont6 _ _ _ _ F5 N5 P5.1 P5.2
    case then2 =>
      intro D6 c6 n6 h6 tk6 F5 N5 hs6 hD6 hl6
      (try dsimp only)
      (try k_fold)
      refine ne_rows (tt := tt8) (uu := sortR rr) N5 (hs6 _ (.head _)) hD6 (fun r hr => hs6 _ (.tail _ (hmem8 r hr))) (fun r hr => hs6 _ (.tail _ (hs8 _ (hs9 _ (O.row r (sortR_mem hr)))))) (htt8.trans (sortR_nums hal W).symm) (by walk_at "m_room") (by walk_at "m_room") ?_
      obtain hsub6 : Sub news n6 := fun q hq => hs6 _ (.tail _ (hs8 _ (hs9 _ hq)))
      obtain O6 := O.mono hsub6
      obtain hbut := fun {n' : Led} {o' : Obj} (hb : But so n6 n') (ho : (so, o') ∈ n') (hs : SrcO o') => O6.but N5 hb ho hs
      obtain hin6 := hsub6 _ hin
      obtain hdt6 := hsub6 _ hdt
      obtain hrl6 := hsub6 _ hrl0
      obtain hso6 := hsub6 _ hso
      (try dsimp only)
      (try k_fold)
      (try clear mk_F27_3)
      obtain mk_F27_5 : True := trivial
      k_with "powU" => (guard_hyp mk_F27_5; skip)
      k_with "mulU" => (guard_hyp mk_F27_5; skip)
      k_with "lenU" => (guard_hyp mk_F27_5; skip)
      k_with "forL" => (guard_hyp mk_F27_5; skip)
      k_with "len" => (guard_hyp mk_F27_5; exact rfl)
      k_with "size" => (guard_hyp mk_F27_5; (simp only [List.length_map]; omega))
      k_with "loop" => (guard_hyp mk_F27_5; (refine Stop.go ?_))
      k_with "spec" => (guard_hyp mk_F27_5; first | exact spec_size _ _ _ _ _ _ _ _ _ _ hin6 hdt6 | exact spec_law_all _ _ _ | exact spec_take _ _ _ _ _ _ _ (by k_mem) (by assumption) (by walk_at "m_om") (by walk_at "m_om"))
      k_with "post" => (guard_hyp mk_F27_5; (rename_i P9; first | (obtain ⟨rfl, t9, rfl⟩ := P9) | (obtain ⟨rfl, rfl⟩ := P9) | (obtain ⟨y9, t9, o9, rfl, hy0, hy1, rfl, ho9⟩ := P9)))
      k_steps
      · exfalso
        simp only [List.length_map] at *
        (clear hd hpl hu hz; omega)
      · rename_i l7 h7a l17 h7 F7 N7
        refine hide ?_
        intro GG0 hGG0
        obtain ⟨n7, N7', O7, items, c7, hit7, hall7⟩ : ∃ n7, News _ _ _ n7 ∧ LawObj kk w n7 so x td b0 rl M rr.length rr ∧ ∃ (items : List Value) (c : Nat), (l7, listOf items.toArray c) ∈ n7 ∧ ∀ v ∈ items, ∃ z t, v = Value.int z t ∧ 0 ≤ z ∧ z ≤ 4294967295 :=
          ⟨_, N7, hbut (((But.refl _ _).upd _).cons _) (.tail _ (mem_updL_self hso6)) (by assumption), _, _, .head _, by walk_at "m_ints"⟩
        refine hGG0 ?_
        (try clear hGG0 GG0)
        clear N7
        refine iter_ledN (l := l7) (items := items) (c := c7) ["found", "due"] [] [] (fun i vs n => vs = [] ∧ Sub n7 n) (by exact rfl) F7 N7' hit7 (fun z => rfl) ⟨rfl, Sub.refl _⟩ (fun i vs n hp => hp.2 _ hit7) ?turn ?done
        case turn =>
          intro i3 v3 vs3 u3 n3 h3 tk3 I3 oI3 hv3 hp3 hI3 hlt3 F3 N3
          refine hide ?_
          intro GG0 hGG0
          obtain ⟨rfl, hs3⟩ := hp3
          obtain ⟨z3, tz3, rfl, hz0, hz1⟩ := hall7 _ (List.mem_of_getElem? hv3)
          obtain O3 := O7.mono hs3
          obtain ⟨hin3, ⟨w0, w1, wm, hdt3⟩, TI3, W3, hb3⟩ := id O3.tab
          obtain ⟨c3, hrl3⟩ := O3.rows
          obtain hfd := hal.found hz0 hz1
          refine hGG0 ?_
          (try clear hGG0 GG0)
          k_fold
          rcases hf : fnd M z3 32 with _ | r3
          case none =>
            rw [hf] at hfd
            (try clear mk_F27_5)
            obtain mk_F27_6 : True := trivial
            k_with "spec" => (guard_hyp mk_F27_6; first | exact spec_find _ _ _ _ _ _ _ _ _ _ _ _ (.tail _ hin3) (.tail _ hdt3) (TI3.mono (Sub.cons _ (Sub.refl _))) W3 hb3 | exact spec_law_found _ _ rr _ _ _ _ _ (hs2 _ (.tail _ hrl3)) (fun r hr => hs2 _ (.tail _ (O3.row r hr))) (fun r hr => hal.well _ (List.mem_map_of_mem hr)) hz0 hz1)
            k_with "post" => (guard_hyp mk_F27_6; (subst he9; rename_i n2 h2 tk2 F2 N2 P9; first | (obtain ⟨hs2, hv2⟩ := P9; rw [hf] at hv2; dsimp only [vrt] at hv2; subst hv2) | (obtain ⟨rfl, b2, rfl, hb2, he2⟩ := P9; rw [← hfd] at he2; obtain rfl := vb_none he2; dsimp only [vrw])))
            k_steps
            all_goals (refine' NamEnd.introM n3 (by k_asm) (by k_asm) (by repeat (first | exact hs2 _ (.head _) | refine List.Mem.tail _ ?_)) (fun p hp => by repeat (first | exact hs2 _ (.tail _ hp) | refine List.Mem.tail _ ?_)) hI3 ?m1 ?m2 ?P; (case m1 => (intro z9 hx9 hs9 hy9; clear hy9; (have hs8 := hs9); simp only [List.contains_cons, List.contains_nil, Bool.or_false, Bool.or_eq_false_iff, beq_eq_false_iff_ne, ne_eq] at hs9; simp only [hx9, hs9, hs8, setL, List.zip_nil_left, List.zip_nil_right, Bool.false_eq_true, if_false])); (case m2 => exact fun y hy => nomatch hy); (case P => exact ⟨rfl, hs3⟩))
          case some =>
            refine hide ?_
            intro GG0 hGG0
            rw [hf] at hfd
            obtain ⟨q3, hq3⟩ := fnd_mem hf
            obtain ⟨nd3, hnd3, hrn3⟩ := rsAt_mem hq3
            obtain ⟨⟨hrx3, hrd3⟩, _⟩ := TI3.rts _ _ hnd3 r3 hrn3
            refine hGG0 ?_
            (try clear hGG0 GG0)
            (try clear mk_F27_5)
            obtain mk_F27_7 : True := trivial
            k_with "spec" => (guard_hyp mk_F27_7; first | exact spec_find _ _ _ _ _ _ _ _ _ _ _ _ (.tail _ hin3) (.tail _ hdt3) (TI3.mono (Sub.cons _ (Sub.refl _))) W3 hb3 | exact spec_law_found _ _ rr _ _ _ _ _ (hs2 _ (.tail _ hrl3)) (fun r hr => hs2 _ (.tail _ (O3.row r hr))) (fun r hr => hal.well _ (List.mem_map_of_mem hr)) hz0 hz1 | exact spec_row _ _ _ _ _ _ _ _ _ _ _ _ _ _ _ _ _ _ _ _ (by k_mem) (by k_mem))
            k_with "post" => (guard_hyp mk_F27_7; (subst he9; rename_i n2 h2 tk2 F2 N2 P9; first | (obtain ⟨hs2, hv2⟩ := P9; rw [hf] at hv2; dsimp only [vrt] at hv2; subst hv2; obtain hrx2 := hs2 _ (.tail _ hrx3); obtain hrd2 := hs2 _ (.tail _ hrd3)) | (obtain ⟨rfl, b2, rfl, hb2, he2⟩ := P9; rw [← hfd] at he2; obtain ⟨q2, rfl, hqv2⟩ := vb_some he2; obtain hrow2 := hs2 _ (.tail _ (O3.row q2 (hb2 q2 rfl))); dsimp only [vrw]) | (obtain ⟨x2, rfl, rfl, hx2⟩ := P9)))
            k_steps
            all_goals first
              | (refine' NamEnd.introM n3 (by k_asm) (by k_asm) (by repeat (first | exact hs2 _ (.head _) | refine List.Mem.tail _ ?_)) (fun p hp => by repeat (first | exact hs2 _ (.tail _ hp) | refine List.Mem.tail _ ?_)) hI3 ?m1 ?m2 ?P; (case m1 => (intro z9 hx9 hs9 hy9; clear hy9; (have hs8 := hs9); simp only [List.contains_cons, List.contains_nil, Bool.or_false, Bool.or_eq_false_iff, beq_eq_false_iff_ne, ne_eq] at hs9; simp only [hx9, hs9, hs8, setL, List.zip_nil_left, List.zip_nil_right, Bool.false_eq_true, if_false])); (case m2 => exact fun y hy => nomatch hy); (case P => exact ⟨rfl, hs3⟩))
              | (exfalso; rename (_ && _) = false => hb; rw [hqv2] at hb; simp [five] at hb)
        case done =>
          intro u3 vs3 n3 h3 tk3 hp3 F3 N3
          obtain ⟨rfl, hs3⟩ := hp3
          (try dsimp only)
          (try k_fold)
          (try clear mk_F27_5)
          obtain mk_F27_8 : True := trivial
          k_steps
          all_goals exact hret _ _ _ _ (by k_asm) (by k_asm) ⟨rfl, O7.mono hs3⟩

/-- an iterator's own object -/
noncomputable def IterO (o : Obj) : Prop := ∃ fs, o.data = .fields fs ∧ ∀ q t, fs[1]? ≠ some (.str q t)
section
variable {prog : Program} {w : World} {A : Around} {E : Value → Shared → Prop} {s : Shared} {env : Env} {h₀ : Heap} {x : Str} {body : List Stmt} {Q : Flow → Shared → Prop}
theorem iter_rngF {r : Addr} {b₀ : Int} {t₀ u₀ v₀ : Tok} {n : Nat} {m₀ : Str → Option Value} {news : Led} (J : Nat → (Str → Option Value) → Led → Prop)
    (hh : A.handled = none) (hr : IsRange s.heap r 0 b₀ 1 t₀ u₀ v₀) (hsmall : Builtin.Range.small 0 b₀ 1 = true) (hn : Builtin.Range.rangeSize 0 b₀ 1 = (n : Int)) (F : Fr h₀ env.locals s.heap m₀) (N : News h₀ env.locals s.heap news)
    (hj : J 0 m₀ news)
    (turn : ∀ i t m₁ news₁ h tk I oI, IterO oI → i < n → J i m₁ news₁ → (∀ p ∈ news₁, p.1 ≠ I) → (∀ p ∈ news, p.1 < I) → Fr h₀ env.locals h (fun y => if y = x then some (.int (i : Nat) t) else m₁ y) → News h₀ env.locals h ((I, oI) :: news₁) →
      wpAny (model prog w) A (execs body env) (LedPost h₀ env.locals (J (i + 1)) I oI { s with heap := h, toks := tk } Q) E { s with heap := h, toks := tk })
    (done : ∀ m₁ news₁ h tk, J n m₁ news₁ → Fr h₀ env.locals h m₁ → News h₀ env.locals h news₁ → Q .next { s with heap := h, toks := tk }) :
    wpAny (model prog w) A (pyIter (.ref r)) (fun it s₂ => LoopAtV prog w A h₀ env x body Q E it s₂) E s := by
  refine wpAny_pyIter_range hr hsmall ?_
  have W : Walks prog w A s.heap.objs.size [s.heap.objs.size] [s.heap.objs.size] n (fun i v => i < n ∧ ∃ t, v = .int (0 + i * 1) t)
      (fun i h => IsRangeIter h s.heap.objs.size (0 + (i : Nat) * 1) ((n : Int) - (i : Nat)) 1) := (Walks.range hh _ 0 1 n).bound
  refine ⟨_, _, _, n, _, _, m₀, news, J, rfl, W, ?_, ?_, ?_, (by show IsRangeIter _ _ _ _ _; rw [hn]; simpa using Heap.get?_push_size _ rfl), F.push _, (fun p hp => ⟨Heap.get?_push_of_some _ (N p hp).1, (N p hp).2⟩), hj, ?_, ?_⟩
  · intro hm
    exact absurd F.ns.lt ((List.mem_singleton.mp hm) ▸ Nat.lt_irrefl _)
  · intro b hb
    rw [List.mem_singleton.mp hb]
    exact next_is_new F
  · intro p hp hI
    exact absurd (Heap.lt_size (N p hp).1) ((List.mem_singleton.mp hI) ▸ Nat.lt_irrefl _)
  · rintro i v m₁ news₁ s₁ own ⟨hh', tk', rfl⟩ hin hP hJ hoff hown hget hall hst F₁ N₁
    obtain ⟨_, t, rfl⟩ := hP
    rw [show (0 : Int) + (i : Int) * 1 = (i : Int) by (clear hin hn; omega)] at F₁
    have hst' : IsRangeIter hh' s.heap.objs.size (0 + ((i + 1 : Nat) : Int) * 1) ((n : Int) - ((i + 1 : Nat) : Int)) 1 := hst
    obtain ⟨oI, hoI, hoD⟩ : ∃ o, hh'.get? s.heap.objs.size = some o ∧ IterO o := ⟨_, hst', _, rfl, fun q t e => by simp [rawInt] at e⟩
    have hIown : (s.heap.objs.size, oI) ∈ own := hall _ (.head _) (next_is_new F) oI hoI
    have hIg := N₁ _ (List.mem_append_left _ hIown)
    have NI : News h₀ env.locals hh' ((s.heap.objs.size, oI) :: news₁) := fun q hq => by
      rcases List.mem_cons.mp hq with rfl | hq
      · exact hIg
      · exact N₁ q (List.mem_append_right _ hq)
    have hoff' : ∀ p ∈ news₁, p.1 ≠ s.heap.objs.size := fun p hp e => hoff p hp (by rw [e]; exact .head _)
    refine wpAny_mono (turn i t m₁ news₁ hh' tk' s.heap.objs.size oI hoD hin hJ hoff' (fun p hp => Heap.lt_size (N p hp).1) F₁ NI) (fun f s₂ p => ?_) fun _ _ e => e
    have fin : LedEnd h₀ env.locals (J (i + 1)) s.heap.objs.size oI { s with heap := hh', toks := tk' } s₂ → LoopStepU h₀ env.locals [s.heap.objs.size] own (J (i + 1)) { s with heap := hh', toks := tk' } .next s₂ := by
      rintro ⟨h', tk, m', news', news₂, e, F', N', hI, hsub, hoff₂, hm⟩
      refine ⟨rfl, h', tk, m', news₂, e, F', fun q hq => ?_, fun p hp hI => hoff₂ p hp (List.mem_singleton.mp hI), hm⟩
      rcases List.mem_append.mp hq with hq | hq
      · have h1 := List.mem_singleton.mp (hown q hq)
        have e1 : q = (s.heap.objs.size, oI) := by
          have := hget q hq
          rw [h1, hoI] at this
          exact Prod.ext h1 (Option.some.inj this).symm
        exact e1 ▸ N' _ hI
      · exact N' q (hsub q hq)
    cases f with
    | ret v => exact .ret p
    | brk => exact .brk p
    | next => exact .next (fin p)
    | cont => exact .cont (fin p)
  · rintro h' tk m' news' F' N' _ hJ
    exact done m' news' h' tk hJ F' N'

theorem iter_rngNF {r : Addr} {b₀ : Int} {t₀ u₀ v₀ : Tok} {m₀ : Str → Option Value} {news : Led} (st ys : List Str) (vs₀ : List Value) (P : Nat → List Value → Led → Prop)
    (hh : A.handled = none) (hr : IsRange s.heap r 0 b₀ 1 t₀ u₀ v₀) (F : Fr h₀ env.locals s.heap m₀) (N : News h₀ env.locals s.heap news) (hm0 : ∀ z, setL (ys.zip vs₀) m₀ z = m₀ z)
    (hj : P 0 vs₀ news)
    (turn : ∀ (i : Nat) t vs (u : Str → Option Value) news₁ h tk I oI, IterO oI → (i : Int) < b₀ → P i vs news₁ → (∀ p ∈ news₁, p.1 ≠ I) → (∀ p ∈ news, p.1 < I) → Fr h₀ env.locals h (fun y => if y = x then some (.int (i : Nat) t) else if st.contains y then u y else setL (ys.zip vs) m₀ y) → News h₀ env.locals h ((I, oI) :: news₁) →
      wpAny (model prog w) A (execs body env) (NamPost h₀ env.locals x st ys m₀ (P (i + 1)) I oI { s with heap := h, toks := tk } Q) E { s with heap := h, toks := tk })
    (done : ∀ (u : Str → Option Value) vs news₁ h tk, P b₀.toNat vs news₁ → Fr h₀ env.locals h (fun y => if y = x then u y else if st.contains y then u y else setL (ys.zip vs) m₀ y) → News h₀ env.locals h news₁ → Q .next { s with heap := h, toks := tk })
    (hsmall : Builtin.Range.small 0 b₀ 1 = true) :
    wpAny (model prog w) A (pyIter (.ref r)) (fun it s₂ => LoopAtV prog w A h₀ env x body Q E it s₂) E s := by
  have hn : Builtin.Range.rangeSize 0 b₀ 1 = (b₀.toNat : Int) := by
    unfold Builtin.Range.rangeSize
    simp only [show (1 : Int) > 0 by decide, if_true]
    split <;> omega
  refine iter_rngF (namJ x st ys m₀ P) hh hr hsmall hn F N ⟨vs₀, fun z _ _ => (hm0 z).symm, hj⟩ ?_ ?_
  · rintro i t m₁ news₁ h tk I oI hoD hv ⟨vs, hm, hp⟩ hI hlt F₁ N₁
    rw [namJ_fr hm] at F₁
    exact wpAny_mono (turn i t vs m₁ news₁ h tk I oI hoD (by (clear hn; omega)) hp hI hlt F₁ N₁) (fun f s₂ p => namPost_led (P := P) p) fun _ _ e => e
  · rintro m₁ news₁ h tk ⟨vs, hm, hp⟩ F₁ N₁
    have e : m₁ = fun y => if y = x then m₁ y else m₁ y := by funext y; simp
    rw [e, namJ_done hm] at F₁
    exact done m₁ vs news₁ h tk hp F₁ N₁
end

/-- a table just made -/
theorem newTab {w : World} {news : Led} {x td b d l : Addr} {t0 t1 t2 t3 t4 t5 : Tok} {c : Nat} (m1 : (l, listOf #[] c) ∈ news) (m2 : (b, instObj 169 d) ∈ news) (m3 : (d, brD w t0 t1 t2 .none .none (.ref l)) ∈ news) (m4 : (x, instObj 251 td) ∈ news) (m5 : (td, tbD w t3 t4 (.ref b) (.int 0 t5)) ∈ news)
    (l3 : @LT.lt Nat _ d b) (l4 : @LT.lt Nat _ b l) :
    ∃ M, Tab w news x td b M 0 ∧ (∀ q, rsAt M q = []) ∧ ∀ a, a ≠ d → a ≠ l → Off M a := by
  have h1 : d ≠ b := Nat.ne_of_lt l3
  have h2 : b ≠ l := Nat.ne_of_lt l4
  have h3 : d ≠ l := Nat.ne_of_lt (Nat.lt_trans l3 l4)
  let M : Tm := fun q => if q = [] then some ⟨b, d, l, t0, t1, t2, c, []⟩ else none
  have hM : ∀ q n, M q = some n → q = [] ∧ n = ⟨b, d, l, t0, t1, t2, c, []⟩ := fun q n h => by
    by_cases e : q = []
    · simp only [M, e, if_true] at h; exact ⟨e, (Option.some.inj h).symm⟩
    · simp only [M, e, if_false] at h; cases h
  have h0 : M [] = some ⟨b, d, l, t0, t1, t2, c, []⟩ := by simp [M]
  refine ⟨M, ⟨m4, ⟨t3, t4, t5, m5⟩, ⟨fun p n h => ?_, fun p n h => ?_, fun p n h => ?_, fun p n h r hr => ?_⟩,
    ⟨by rw [h0]; rfl, fun p b' h => ?_, fun p q n m h h' _ => ?_, fun p q n m h h' _ => ?_, fun p q n m h h' => ?_, fun p q n m h h' => ?_, fun p n h => ?_⟩, by unfold bA; rw [h0]; rfl⟩, fun q => ?_, fun a ha hb p n h => ?_⟩
  · obtain ⟨rfl, rfl⟩ := hM p n h; exact m2
  · obtain ⟨rfl, rfl⟩ := hM p n h
    have e : ∀ c, bA M ([] ++ [c]) = none := fun c => by unfold bA; simp [M]
    unfold Nd.dict
    rw [e, e]
    exact m3
  · obtain ⟨rfl, rfl⟩ := hM p n h; exact m1
  · obtain ⟨rfl, rfl⟩ := hM p n h; cases hr
  · have : M (p ++ [b']) = none := by simp [M]
    rw [this] at h; cases h
  · rw [(hM p n h).1, (hM q m h').1]
  · rw [(hM p n h).1, (hM q m h').1]
  · rw [(hM p n h).2, (hM q m h').2]; exact h3
  · rw [(hM p n h).2, (hM q m h').2]; exact ⟨h1.symm, h2⟩
  · rw [(hM p n h).1]; exact Nat.zero_le _
  · by_cases e : q = []
    · subst e; unfold rsAt; rw [h0]
    · have : M q = none := by simp [M, e]
      unfold rsAt; rw [this]
  · rw [(hM p n h).2]; exact ⟨ha, hb⟩
/-- the law's objects, all just made -/
theorem law_fresh {kk : Led} {w : World} {news : Led} {so x td b d l rl : Addr} {t0 t1 t2 t3 t4 t5 : Tok} {c c0 : Nat} {o : Obj}
    (m1 : (l, listOf #[] c) ∈ news) (m2 : (b, instObj 169 d) ∈ news) (m3 : (d, brD w t0 t1 t2 .none .none (.ref l)) ∈ news) (m4 : (x, instObj 251 td) ∈ news) (m5 : (td, tbD w t3 t4 (.ref b) (.int 0 t5)) ∈ news)
    (m6 : (rl, listOf #[] c0) ∈ news) (l3 : @LT.lt Nat _ d b) (l4 : @LT.lt Nat _ b l) (l5 : @LT.lt Nat _ l rl) (lso : @LT.lt Nat _ so d)
    (hso : (so, o) ∈ news) (ho : SrcO o) (k1 : ((306 : Addr), tabObj #[]) ∈ news) (k2 : ((313 : Addr), tabObj #[]) ∈ news) (k3 : ∀ q ∈ kk, q ∈ news ∧ Still q) :
    ∃ M rr, LawObj kk w news so x td b rl M (rr.length : Nat) rr ∧ Alike M (numsOf rr) ∧ rr.length ≤ 0 := by
  obtain ⟨M, TB, hr, hoff⟩ := newTab m1 m2 m3 m4 m5 l3 l4
  exact ⟨M, [], ⟨⟨o, hso, ho⟩, TB, ⟨c0, m6⟩, (fun _ h => nomatch h), List.nodup_nil, hoff _ (Nat.ne_of_lt lso) (Nat.ne_of_lt (Nat.lt_trans lso (Nat.lt_trans l3 l4))), hoff _ (Nat.ne_of_gt (Nat.lt_trans l3 (Nat.lt_trans l4 l5))) (Nat.ne_of_gt l5), (fun _ h => nomatch h), ⟨#[], k1, trivial, .inl rfl⟩, ⟨#[], k2, trivial, .inl rfl⟩, k3⟩, Alike.nil hr, Nat.le_refl _⟩
theorem LawObj.more {kk : Led} {w : World} {news : Led} {so x td b0 rl : Addr} {M : Tm} {many : Int} {rr : List Rw} {q : Addr × Obj} (O : LawObj kk w news so x td b0 rl M many rr) (h : q ∈ news) (hs : Still q) : LawObj (q :: kk) w news so x td b0 rl M many rr :=
  { O with t3 := fun p hp => (List.mem_cons.mp hp).elim (fun e => e ▸ ⟨h, hs⟩) (O.t3 p) }
theorem TabOk.drop {h₀ h : Heap} {L P I : Addr} {pos : Pos} {qual : Str} {news news' : Led} {oI : Obj} (hT : TabOk P pos qual news) (N : News h₀ L h news) (hI : (I, oI) ∈ news) (hd : IterO oI) (hne : I ≠ P) (hb : But I news news') : TabOk P pos qual news' := by
  obtain ⟨qs, h1, h2, h3⟩ := hT
  refine ⟨qs, hb _ h1 hne.symm, h2, h3.imp id ?_⟩
  rintro ⟨c', oc, vs, t, e, hm, hd', hv⟩
  refine ⟨c', oc, vs, t, e, hb _ hm fun e' => ?_, hd', hv⟩
  obtain ⟨fs, g1, g2⟩ := hd
  have g3 := get_same N (show (I, oc) ∈ news by rw [← show c' = I from e']; exact hm) hI
  rw [g3, g1] at hd'
  obtain rfl : fs = vs := by injection hd'
  exact g2 _ _ hv
/-- the loop's iterator is let go -/
theorem LawObj.drop {kk : Led} {w : World} {news news' : Led} {so x td b0 rl : Addr} {M : Tm} {many : Int} {rr : List Rw} {h₀ h : Heap} {L I : Addr} {oI : Obj} (O : LawObj ((I, oI) :: kk) w news so x td b0 rl M many rr) (N : News h₀ L h news) (hd : IterO oI) (hk : ∀ q ∈ kk, q.1 ≠ I) (hb : But I news news') : LawObj kk w news' so x td b0 rl M many rr := by
  obtain ⟨o₀, ho₀, hs₀⟩ := O.src
  obtain ⟨c, hc⟩ := O.rows
  obtain ⟨hI, hst⟩ := O.t3 _ (.head _)
  have ne : ∀ (q : Addr × Obj) (t : Nat), q ∈ news → tagO q.2 = t → t ≠ 2 → q.1 ≠ I := fun q t hq ht hn => ne_tag N hq hI ht hst.1 hn
  obtain ⟨hin, ⟨t0, t1, tm, hdt⟩, TI, W, hb0⟩ := O.tab
  refine ⟨⟨o₀, hb _ ho₀ (ne _ 1 ho₀ (srcO_tag hs₀) (by decide)), hs₀⟩, ⟨hb _ hin (ne _ 0 hin rfl (by decide)), ⟨t0, t1, tm, hb _ hdt (ne _ 12 hdt rfl (by decide))⟩, ⟨fun p n hp => hb _ (TI.inst p n hp) (ne _ 0 (TI.inst p n hp) rfl (by decide)), fun p n hp => hb _ (TI.dict p n hp) (ne _ 13 (TI.dict p n hp) rfl (by decide)), fun p n hp => hb _ (TI.list p n hp) (ne _ 1 (TI.list p n hp) rfl (by decide)),
    fun p n hp r hr => ⟨⟨hb _ (TI.rts p n hp r hr).1.1 (ne _ 0 (TI.rts p n hp r hr).1.1 rfl (by decide)), hb _ (TI.rts p n hp r hr).1.2 (ne _ 15 (TI.rts p n hp r hr).1.2 rfl (by decide))⟩, (TI.rts p n hp r hr).2⟩⟩, W, hb0⟩,
    ⟨c, hb _ hc (ne _ 1 hc rfl (by decide))⟩, fun r hr => hb _ (O.row r hr) (ne _ 1 (O.row r hr) rfl (by decide)), O.nd, O.offs, O.offl, O.offr, O.t1.drop N hI hd hst.2.2.1 hb, O.t2.drop N hI hd hst.2.2.2 hb, fun q hq => ⟨hb q (O.t3 q (.tail _ hq)).1 (hk q hq), (O.t3 q (.tail _ hq)).2⟩⟩
/-- one route in a table of one row -/
theorem one_row {M : Tm} {x : R5} (W : Wf M) (h : Alike M [x]) : ∃ r, preF M [] = [r] ∧ five r = x ∧ ∃ q, r ∈ rsAt M q := by
  have hl := h.pre_length W
  obtain ⟨r, hp⟩ := List.length_eq_one_iff.mp hl
  · obtain ⟨q, hq⟩ := mem_pre (M := M) (r := r) (show r ∈ preF M [] by rw [hp]; exact .head _)
    exact ⟨r, hp, List.mem_singleton.mp (h.mem hq).1, q, hq⟩

open PySem.Calls
set_option maxRecDepth 100000 in
set_option maxHeartbeats 2000000 in
theorem pool_call (prog : Program) (w : World) (sc : Addr) (vs : List Value) (ns : List Int) (tk0 : Tok) (hI : IntsAre vs ns) (hn : ns.length ≤ 63)
    {p : Program} {loose : List Str} {mean : ExcName → Option Value} {mg mb : Str → Option Value} {dp un : Nat} {gd : Option (List Code)} {cn : Str} {cs : Scope} {a : Addr} {ccd : Value} {cl : List (Str × Addr)} {outer : List Env} {A₀ : Around} {base h₀ : Heap} {L : Addr} {m : Str → Option Value} {s : Shared} {Q E : Value → Shared → Prop} {news : Led}
    (B : Below A₀ base outer h₀) (F : Fr h₀ L s.heap m) (X : (frag w.params).In h₀) (N : News h₀ L s.heap news) (T : Top p loose mean mg mb h₀) (lifted : base.IsList sc vs.toArray) (hk : cs.kind = .function) (hd : dp + 4 < recursionLimit) (hu : un + 32 < cLine)
    (hret : ∀ so o h' tk', SrcO o → (∀ q ∈ news, q.1 < so) → Fr h₀ L h' m → News h₀ L h' ((so, o) :: news) → Q (.ref so) { s with heap := h', toks := tk' }) :
    wpAny (model prog w) (ktrTop dp un gd cn cs L a ccd cl outer) (call (.ref 262) [.ref sc, .int 0 tk0]) Q E s := by
  obtain mk_Pool_1 : True := trivial
  walk_at "m_enter"
  k_steps
  all_goals refine hret _ _ _ _ ⟨_, _, _, _, _, rfl, ?_, ?_, ?_⟩ (by assumption) (by k_asm) (by k_asm)
  all_goals first
    | exact fmod_lo _ (by decide)
    | exact fmod_hi _ (by decide)
    | (refine Int.mul_nonneg ?_ ?_ <;> split <;> (clear hd hn hu; omega))

/-- a call that is refused -/
noncomputable def Odd (prog : Program) (w : World) (f : Addr) (news : Led) : Prop :=
  ∃ oc od fd sl c ob, (f, (⟨oc, od, .func fd, sl⟩ : Obj)) ∈ news ∧ (c, ob) ∈ news ∧ f ≠ 340 ∧ c ≠ 340 ∧ ∀ n : Led, (f, (⟨oc, od, .func fd, sl⟩ : Obj)) ∈ n → (c, ob) ∈ n → SpecX prog w f 12 96 [] n (fun n' => Sub n n')
theorem Odd.but {prog : Program} {w : World} {f : Addr} {a b : Led} (h : Odd prog w f a) (hb : But 340 a b) : Odd prog w f b := by
  obtain ⟨oc, od, fd, sl, c, ob, h1, h2, h3, h4, h5⟩ := h
  exact ⟨oc, od, fd, sl, c, ob, hb _ h1 h3, hb _ h2 h4, h3, h4, h5⟩
theorem Odd.sub {prog : Program} {w : World} {f : Addr} {a b : Led} (h : Odd prog w f a) (hb : Sub a b) : Odd prog w f b := h.but fun p hp _ => hb p hp
theorem Odd.intro {prog : Program} {w : World} {f c : Addr} {ob : Obj} {news : Led} {oc : Value} {od : Option Addr} {fd : FuncData} {sl : Array (Option Value)} (h1 : (f, (⟨oc, od, .func fd, sl⟩ : Obj)) ∈ news) (h2 : (c, ob) ∈ news) (h3 : f ≠ 340) (h4 : c ≠ 340)
    (h5 : ∀ n : Led, (f, (⟨oc, od, .func fd, sl⟩ : Obj)) ∈ n → (c, ob) ∈ n → SpecX prog w f 12 96 [] n (fun n' => Sub n n')) : Odd prog w f news := ⟨oc, od, fd, sl, c, ob, h1, h2, h3, h4, h5⟩
/-- a code table in which the lambdas of these places stand -/
noncomputable def Tri (ps : Array Value) (seen : List (Int × Int)) : Prop := TriplesOk ps.toList ∧ ∀ pos : Pos, ((pos.line : Int), (pos.col : Int)) ∉ seen → codeAmong pos ps.toList = none
theorem among_snoc {pos pos' : Pos} {c : Value} (hne : ¬ ((pos'.line : Int) = pos.line ∧ (pos'.col : Int) = pos.col)) : ∀ l : List Value, TriplesOk l → codeAmong pos l = none → codeAmong pos (l ++ [rawInt pos'.line, rawInt pos'.col, c]) = none
  | [], _, _ => by
    show codeAmong pos [Value.int pos'.line 0, .int pos'.col 0, c] = none
    unfold codeAmong
    rw [if_neg (by simpa using hne)]
    rfl
  | .int a t :: .int b u :: v :: rest, h, hn => by
    have h : TriplesOk rest := h
    show codeAmong pos (.int a t :: .int b u :: v :: (rest ++ [rawInt pos'.line, rawInt pos'.col, c])) = none
    unfold codeAmong at hn ⊢
    split at hn
    · cases hn
    · next hc =>
      rw [if_neg hc]
      exact among_snoc hne rest h hn
theorem Tri.nil : Tri #[] [] := ⟨trivial, fun _ _ => rfl⟩
theorem Tri.snoc {ps : Array Value} {seen : List (Int × Int)} {pos : Pos} {c : Addr} (h : Tri ps seen) : Tri (ps ++ #[rawInt pos.line, rawInt pos.col, .ref c]) (((pos.line : Int), (pos.col : Int)) :: seen) := by
  refine ⟨?_, fun p hp => ?_⟩
  · rw [Array.toList_append]; exact TriplesOk_snoc _ _ _ _ h.1
  · rw [Array.toList_append]
    refine among_snoc (fun ⟨e1, e2⟩ => hp ?_) _ h.1 (h.2 p fun hm => hp (.tail _ hm))
    rw [← e1, ← e2]
    exact .head _
theorem lamPack {h₀ h : Heap} {L f c : Addr} {o ob : Obj} {ps : Array Value} {seen : List (Int × Int)} {pos : Pos} {n : Led} (N : News h₀ L h ((f, o) :: (c, ob) :: updL 340 (tabObj (ps ++ #[rawInt pos.line, rawInt pos.col, .ref c])) n)) (hp : ((340 : Addr), tabObj ps) ∈ n) (hT : Tri ps seen) :
    ∃ n' ps', News h₀ L h n' ∧ ((340 : Addr), tabObj ps') ∈ n' ∧ Tri ps' (((pos.line : Int), (pos.col : Int)) :: seen) ∧ But 340 n n' ∧ (f, o) ∈ n' ∧ (c, ob) ∈ n' :=
  ⟨_, _, N, .tail _ (.tail _ (mem_updL_self hp)), hT.snoc, (((But.refl _ _).upd _).cons _).cons _, .head _, .tail _ (.head _)⟩

open PySem.SeqAt
section
variable {prog : Program} {w : World} {A : Around} {E : Value → Shared → Prop} {s : Shared} {h₀ : Heap} {L l b : Addr} {news : Led} {c c2 : Nat} {Q : Value → Shared → Prop}
theorem tup_rc {A' : Around} {a a' : Addr} {u u' : Tok × Tok × Tok × Tok × Tok} {v : R5} {k k' : Nat} (N : News h₀ L s.heap news) (h1 : (a, seqObj "tuple" (vals5 u v).toArray k) ∈ news) (h2 : (a', seqObj "tuple" (vals5 u' v).toArray k') ∈ news) (hu : A'.units < cLine) : EqAt A' s (.ref a) (.ref a') true := by
  by_cases e : a = a'
  · subst e; exact EqAt.same _
  · have := RcAt.tuples (A := A') (e := fun _ => true) (N.isTup h1) (N.isTup h2) hu (fun j h1 h2 => five_at u u' v j h1 h2)
    refine EqAt.of_refs e ?_
    have e2 : ((List.range (min (vals5 u v).toArray.size (vals5 u' v).toArray.size)).all (fun _ => true) && (vals5 u v).toArray.size == (vals5 u' v).toArray.size) = true := by rw [all_true]; rfl
    rw [e2] at this
    exact this
/-- two lists of one tuple of the same numbers -/
theorem eq_one {a a' : Addr} {u u' : Tok × Tok × Tok × Tok × Tok} {v : R5} {k k' : Nat} (N : News h₀ L s.heap news) (hl : (l, listOf #[.ref a] c) ∈ news) (hb : (b, listOf #[.ref a'] c2) ∈ news) (h1 : (a, seqObj "tuple" (vals5 u v).toArray k) ∈ news) (h2 : (a', seqObj "tuple" (vals5 u' v).toArray k') ∈ news)
    (h3 : A.units < cLine) (h4 : A.in1.units < cLine) (h : Q (.bool true) s) : wpAny (model prog w) A (compareOp .Eq (.ref l) (.ref b)) Q E s := by
  refine eq_listAt (e := fun _ => true) (N.isList hl) (N.isList hb) rfl h3 (fun j hj1 hj2 => ?_) (by rw [all_true]; exact h)
  obtain rfl : j = 0 := by simpa using hj1
  exact tup_rc (u := u) (u' := u') (v := v) N h1 h2 h4
end
/-- a table with one route put in -/
theorem tab_put {w : World} {news : Led} {x td b0 : Addr} {M M' : Tm} {rs : List R5} {r : Rt} (hR : ∀ q, rsAt M' q = if q = bitsOf r.n r.p.toNat then addR r (rsAt M q) else rsAt M q) (hal : Alike M rs) (hw : WellR (five r)) (T : Tab w news x td b0 M' (if hasR r (rsAt M (bitsOf r.n r.p.toNat)) then (rs.length : Int) else (rs.length : Int) + 1)) :
    Alike M' (addL (five r) rs) ∧ Tab w news x td b0 M' ((addL (five r) rs).length : Nat) := by
  refine ⟨hal.add hw hR, ?_⟩
  rw [hal.many hw] at T
  exact T
noncomputable abbrev fewA : R5 := ⟨0, 0, 4294967295, 1, 2⟩
noncomputable abbrev fewB : R5 := ⟨0, 0, 4294967295, 1, 5⟩
theorem fewA_well : WellR fewA := ⟨by decide, by decide, by decide, by decide, by decide⟩
theorem fewB_well : WellR fewB := ⟨by decide, by decide, by decide, by decide, by decide⟩
theorem few_add1 : addL fewA [] = [fewA] := rfl
theorem few_add2 : addL fewB [fewA] = [fewB] := by
  unfold addL
  rw [if_pos ⟨rfl, rfl, rfl, rfl⟩]

theorem rows_OWN_F28_11 : True := by
  k_with  "call ref" => (k_here; k_extra "pool"; k_dflt (refine pool_call _ _ _ _ _ _ (by assumption) (by omega) (by k_asm) (by k_asm) (by k_asm) (by k_asm) (by k_asm) (by assumption) (by exact rfl) (by walk_at "m_room") (by walk_at "m_room") ?_; k_whole); intro _ _ _ _ _ _ _ _; k_extra "poolP"; (try dsimp only); (try k_sweep))
  k_with  "m_use0x" => (k_here; refine SpecT.use02 (by k_asm) (by k_asm) (by k_asm) (by k_asm) (by k_asm) (by first | exact rfl | assumption) (by with_reducible assumption) (by k_extra "specT") (by walk_at "m_room") (by walk_at "m_room") ?_; k_whole; intro RR9 nw9 he9 hRR9 _ _ _ _ _ _ _; (k_extra "postT") <;> (try subst he9) <;> (refine hRR9 _ _ _ _ ?_) <;> (clear hRR9 RR9) <;> (try (rename Stopped => z9; clear z9; refine Stop.go ?_)) <;> (try dsimp only) <;> (try k_sweep) <;> (try k_fold))
  k_with  "call ref" => k_dflt (walk_at "m_use0x")
  k_with  "compareOp Eq ref ref" => (k_here; k_extra "eqL")
  trivial

/-- the law's end -/
noncomputable def LawEnd (g : Heap) (L : Addr) (s₁ : Shared) (f : Flow) (s' : Shared) : Prop :=
  f = .ret (.bool true) ∧ ∃ h' tk' m' news', s' = { s₁ with heap := h', toks := tk' } ∧ Fr g L h' m' ∧ News g L h' news' ∧ (∃ ps, ((313 : Addr), tabObj ps) ∈ news') ∧ (∃ ps, ((306 : Addr), tabObj ps) ∈ news') ∧ ∃ ps, ((340 : Addr), tabObj ps) ∈ news'
set_option maxRecDepth 100000 in
set_option maxHeartbeats 40000000 in
theorem the_law : PySem.Challenge.rw_pf0397_01.Holds := hd (by
  k_fill
  intro w s₀ s₁ mg mb G Y fa o pm cd doc dV kV ho hd hcd hD hmg hg args vals as hpre hlay hrd hwl hlo
  have KX := km_in_of Y
  km_tabs Y
  have X := (Ground.X G).1
  have V := (Ground.X G).2
  refine Ground.open G ?_
  intro T B D TE TW
  try (refine guard_noD D (by decide +kernel) ?_; clear D)
  dsimp only at hmg
  km_lay T hmg ho hd cd
  clear hmg
  wrow_args hpre hlay hrd hwl hlo
  refine enter_call ?_
  w_top on
  kn_posts
  w_call any ho hd hcd hD T F
  clear hd
  kn_ghosts F T
  k_drop
  all_goals (try k_fold)
  rename_i ns hs hlay hL1 hr1 hl2 a1 a2 sc vs a3 hL ra w1 r0 hI hr hc1 hc2 h₁ X' T' K' F' ch1 ch2 N' l0
  refine wpAny_mono (show wpAny _ _ _ (LawEnd (ghostOf s₁.heap [(315, 313), (310, 306), (342, 340)]) s₁.heap.objs.size s₁) (fun _ _ => False) _ from ?walk) ?fin (fun _ _ h => h.elim)
  case fin =>
    rintro f s' ⟨rfl, h', tk', m', n', rfl, F9, N9, ⟨p1, m1⟩, ⟨p2, m2⟩, ⟨p3, m3⟩⟩
    (try dsimp only)
    obtain mk_F28_1 : True := trivial
    k_steps
  case walk =>
    obtain ⟨l1, l2, l3⟩ := l0
    obtain hn : ns.length ≤ 63 := by (clear l1 l2 l3; omega)
    obtain Z : Bas w topProg _ _ mg mb _ := ⟨X', T', ch1, ch2, codeHd⟩
    obtain D0 : KtsDicts (([] : List Env).filterMap (·.frame)) (ghostOf s₁.heap [(315, 313), (310, 306), (342, 340)]) := ktsDicts_nil
    clear hD hc2 hc1 hr r0 w1 ra hL hl2 hr1 hL1 hlay hs hcd hT9 TW TE B T V X hT8 hg ho Y G
    generalize ghostOf s₁.heap [(315, 313), (310, 306), (342, 340)] = g0 at *
    generalize s₁.heap.objs.size = L0 at *
    refine hide ?_
    intro GG0 hGG0
    obtain hh : ∃ pp lo me, Top pp lo me mg mb g0 ∧ Bas w pp lo me mg mb g0 := ⟨_, _, _, T', Z⟩
    clear Z T' ch1 ch2 codeHd
    obtain ⟨pp, lo, me, T', Z⟩ := hh
    refine hGG0 ?_
    (try clear hGG0 GG0)
    clear a1 a2 a3 pm doc kV o
    change wpAny _ (ktrTop _ _ _ _ _ _ _ _ [] []) _ _ _ _
    obtain hdp : callerA.depth + 1 + 50 < recursionLimit := by decide
    obtain hup : callerA.units + 3 + 500 < cLine := by decide
    generalize callerA.depth + 1 = dp at *
    generalize callerA.units + 3 = up at *
    generalize callerA.guards = gd at *
    obtain mk_F28_2 : True := trivial
    k_with "pool" => (guard_hyp mk_F28_2; skip)
    k_with "poolP" => (guard_hyp mk_F28_2; (rename_i so o0 h0 tk0 hsrc lso F0 N0; replace lso := allLt_of lso; simp only [AllLt, and_true] at lso))
    k_with "spec" => (guard_hyp mk_F28_2; first | k_dflt (exact spec_newRoutes _ _ _) | k_dflt (exact spec_take _ _ so _ _ _ _ (by k_mem) hsrc (by walk_at "m_om") (by walk_at "m_om")))
    k_with "post" => (guard_hyp mk_F28_2; (rename_i P9; first | (obtain ⟨x9, td9, b9, d9, l9, t0, t1, t2, t3, t4, t5, c9, rfl, rfl, q1, q2, q3, q4, q5⟩ := P9) | (obtain ⟨y9, t9, o9, rfl, hy0, hy1, rfl, ho9⟩ := P9)))
    k_with "loop" => (guard_hyp mk_F28_2; (refine Stop.go ?_))
    k_steps
    rename_i l6 hh6 l1a D6 hh5 l1b hh4 hh3 hh2 hh1 h9z tk9z F9z N9z hhA tkA tA uA vA IR FA NA KA
    refine hide ?_
    intro GG0 hGG0
    simp only [AllLt, and_true] at q1
    obtain ⟨hso9, q1⟩ := q1
    obtain hstill : Still ((340 : Addr), tabObj #[]) := ⟨rfl, (fun v h => nomatch h), (by decide), (by decide)⟩
    obtain ⟨nA, NA', M0, rr0, OL0, hal0, hz0⟩ : ∃ nA, News g0 L0 hhA nA ∧ ∃ M rr, LawObj [((340 : Addr), tabObj #[])] w nA so x9 td9 b9 l6 M (rr.length : Nat) rr ∧ Alike M (numsOf rr) ∧ rr.length ≤ 0 :=
      ⟨_, NA, law_fresh (l := l9) (b := b9) (d := d9) (x := x9) (td := td9) (rl := l6) (so := so) (by k_mem) (by k_mem) (by k_mem) (by k_mem) (by k_mem) (by k_mem) q4 q5 (by (clear hGG0 hdp hn hso9 hup hy0 hy1 l1 l1b l2 l3 lso q1 q2 q3 q4 q5; omega)) (by (clear hGG0 hdp hn hup hy0 hy1 l1 l1a l1b l2 l3 lso q1 q4 q5; omega)) (by k_mem) ho9 (by k_mem) (by k_mem) (fun q hq => by obtain rfl := List.mem_singleton.mp hq; exact ⟨by k_mem, hstill⟩)⟩
    clear NA
    obtain hltA := fun (p : Addr × Obj) (hp : p ∈ nA) => Heap.lt_size (NA' p hp).1
    refine hGG0 ?_
    (try clear hGG0 GG0)
    refine iter_rngNF ["is_add"] [] [] (fun i vs n => vs = [] ∧ ∃ M rr, LawObj [((340 : Addr), tabObj #[])] w n so x9 td9 b9 l6 M (rr.length : Nat) rr ∧ Alike M (numsOf rr) ∧ rr.length ≤ i) (by exact rfl) IR FA NA' (fun z => rfl) ⟨rfl, M0, rr0, OL0, hal0, hz0⟩ ?turn ?done (by walk_at "m_small")
    case turn =>
      intro i3 tt3 vs3 u3 n3 h3 tk3 I3 oI3 hD3 hi3 hp3 hI3 hlt3 F3 N3
      refine hide ?_
      intro GG0 hGG0
      obtain ⟨rfl, M3, rr3, O3, hal3, hz3⟩ := hp3
      obtain ⟨o3, hso3, hsrc3⟩ := O3.src
      obtain hst3 : Still (I3, oI3) := (by
        obtain ⟨fs, hfs, _⟩ := hD3
        obtain ⟨_, h306, _⟩ := OL0.t1
        obtain ⟨_, h313, _⟩ := OL0.t2
        exact ⟨by unfold tagO; rw [hfs], (fun v h => by rw [hfs] at h; cases h), Nat.ne_of_gt (hlt3 _ h306), Nat.ne_of_gt (hlt3 _ h313)⟩)
      obtain h340 : ∀ q ∈ [((340 : Addr), tabObj #[])], q.1 ≠ I3 := fun q hq => Nat.ne_of_lt (hlt3 _ (OL0.t3 q hq).1)
      obtain O4 := (O3.mono (Sub.cons (I3, oI3) (Sub.refl _))).more (.head _) hst3
      obtain hz5 : rr3.length ≤ 50 := (by (clear hGG0 hdp hn hso9 hup hy0 hz0 l1 l1a l1b l2 l3 lso q1 q2 q3 q4 q5; omega))
      obtain hbut := fun {n' : Led} {o' : Obj} (hb : But so ((I3, oI3) :: n3) n') (ho : (so, o') ∈ n') (hs : SrcO o') => O4.but N3 hb ho hs
      refine hGG0 ?_
      (try clear hGG0 GG0)
      k_fold
      (try clear mk_F28_2)
      obtain mk_F28_3 : True := trivial
      k_with "spec" => (guard_hyp mk_F28_3; first | k_dflt (exact spec_take _ _ _ _ _ _ _ (.tail _ hso3) hsrc3 (by walk_at "m_om") (by walk_at "m_om")) | k_dflt (exact spec_law_stands _ _ _ _ _ _ _ _ _ _ _ O6 hal6 (by walk_at "m_om")))
      k_with "post" => (guard_hyp mk_F28_3; (subst he9; rename_i n9 h9 tk9 F9 N9 P9; first | (obtain ⟨y8, t8, o8, rfl, hy0, hy1, rfl, ho8⟩ := P9; obtain O5 := hbut ((But.refl _ _).upd _) (mem_updL_self (.tail _ hso3)) ho8) | (obtain ⟨rfl, O7⟩ := P9)))
      k_with "specT" => (guard_hyp mk_F28_3; k_dflt (first | exact spec_added _ _ _ _ _ _ _ _ _ _ _ O5 hal3 hz5 | exact spec_removed _ _ _ _ _ _ _ _ _ _ _ O5 hal3 hz5))
      k_with "postT" => (guard_hyp mk_F28_3; (rename_i n9 h9 tk9 F9 N9 P9; obtain ⟨rfl, M6, rr6, O6, hal6, hz6⟩ := P9))
      k_steps
      all_goals (obtain ⟨hI9, _⟩ := O7.t3 _ (.head _); refine' NamEnd.introM (n9.filter fun p => decide (p.1 ≠ I3)) F9 N9 hI9 (fun p hp => (List.mem_filter.mp hp).1) (fun p hp => by simpa using (List.mem_filter.mp hp).2) ?_ ?_ ?_)
      all_goals first
        | (intro z9 hx9 hs9 hy9; clear hy9; (have hs8 := hs9); simp only [List.contains_cons, List.contains_nil, Bool.or_false, Bool.or_eq_false_iff, beq_eq_false_iff_ne, ne_eq] at hs9; simp only [hx9, hs9, hs8, setL, List.zip_nil_left, List.zip_nil_right, Bool.false_eq_true, if_false]; done)
        | exact fun y hy => nomatch hy
        | exact ⟨rfl, M6, rr6, O7.drop N9 hD3 h340 (fun p hp hn => List.mem_filter.mpr ⟨hp, by simpa using hn⟩), hal6, by (clear hdp hi3 hn hso9 hup hy0 hy1 hz0 hz5 l1 l1a l1b l2 l3 lso q1 q2 q3 q4 q5; omega)⟩
    case done =>
      intro u3 vs3 n3 h3 tk3 hp3 F3 N3
      refine hide ?_
      intro GG0 hGG0
      obtain ⟨rfl, M3, rr3, O3, hal3, hz3⟩ := hp3
      obtain ⟨o3, hso3, hsrc3⟩ := O3.src
      refine hGG0 ?_
      (try clear hGG0 GG0)
      (try dsimp only)
      (try k_fold)
      (try clear mk_F28_2)
      obtain mk_F28_4 : True := trivial
      k_with "spec" => (guard_hyp mk_F28_4; k_dflt (exact spec_law_ends _ _ _ _ _ hso3 hsrc3))
      k_with "post" => (guard_hyp mk_F28_4; (subst he9; rename_i n9 h9 tk9 F9 N9 P9; obtain ⟨rfl, o9, ho9, hs9, hb9⟩ := P9; obtain O7 := O3.but N3 hb9 hs9 ho9; obtain st9 := Stopped.mk))
      k_steps
      all_goals (change wpAny _ _ _ _ _ _)
      refine hide ?_
      intro GG0 hGG0
      obtain ⟨p306, hp306, _, _⟩ := O7.t1
      obtain ⟨p313, hp313, _, _⟩ := O7.t2
      obtain ⟨hp340, _⟩ := O7.t3 _ (.head _)
      obtain hT := Tri.nil
      refine hGG0 ?_
      (try clear hGG0 GG0)
      (try clear hb9)
      (try clear hs9)
      (try clear ho9)
      (try clear O7)
      (try clear O3)
      (try clear hal3)
      (try clear hz3)
      (try clear hso3)
      (try clear hsrc3)
      (try clear hltA)
      (try clear OL0)
      (try clear hal0)
      (try clear hz0)
      (try clear NA')
      (try clear N3)
      (try clear F3)
      (try clear FA)
      (try clear IR)
      (try clear KA)
      (try clear hsrc)
      (try clear ho9)
      (try clear mk_F28_4)
      obtain mk_F28_5 : True := trivial
      k_with "lam" => (guard_hyp mk_F28_5; skip)
      k_steps
      rename Fr _ _ _ _ => FF
      rename News _ _ _ _ => NN
      refine lam_new (P := 340) (c := 342) FF NN T' Z.c3 rfl hp340 hT.1 (hT.2 _ (by decide)) rfl ?_
      intro f1 c1 oc1 vs1 t1 ctv1 hh1 tk1 F1 N1 d1 e1 l1 m1
      refine hide ?_
      intro GG0 hGG0
      obtain g1 : @LT.lt Nat _ 340 c1 := l1 _ hp340
      obtain k1 : @LT.lt Nat _ c1 f1 := m1
      obtain ⟨nL1, pp1, NL1, hq340, hT', hb1, hf1, hc1⟩ := lamPack N1 hp340 hT
      clear hp340 hT
      rename ((340 : Addr), tabObj pp1) ∈ nL1 => hp340
      rename Tri pp1 _ => hT
      replace hp306 := hb1 _ hp306 (show (306 : Nat) ≠ 340 by decide)
      replace hp313 := hb1 _ hp313 (show (313 : Nat) ≠ 340 by decide)
      refine hGG0 ?_
      (try clear hGG0 GG0)
      obtain od1 : Odd PySem.Challenge.rw_pf0397_01.row.prog w f1 nL1 := Odd.intro hf1 hc1 (neN (by (clear hdp hn hso9 hup hy0 hy1 l1a l1b l2 l3 lso q1 q2 q3 q4 q5; omega))) (neN (by (clear hdp hn hso9 hup hy0 hy1 l1a l1b l2 l3 lso m1 q1 q2 q3 q4 q5; omega))) (by
        intro n hf hc p loose mean mg mb dp un gd cn cs a ccd cl outer A₀ base h₀ L m s Q E B F X N T hk hd hu hret
        clear hdp hup
        (try clear mk_F28_5)
        obtain mk_F28_6 : True := trivial
        k_with "spec" => (guard_hyp mk_F28_6; k_dflt (exact spec_newRoutes _ _ _))
        k_with "post" => (guard_hyp mk_F28_6; (rename_i P9; obtain ⟨x9, td9, b9, d9, l9, t0, t1, t2, t3, t4, t5, c9, rfl, rfl, q1, q2, q3, q4, q5⟩ := P9))
        k_with "specx" => (guard_hyp mk_F28_6; k_dflt (exact specx_remove _ _ _ _ _ _ _ _ (by walk_at "m_om")))
        walk_at "m_enterL"
        k_steps
        all_goals exact hret _ _ _ _ _ _ _ (Sub.trans (Sub.cons _ (Sub.cons _ (Sub.cons _ (Sub.cons _ (Sub.cons _ (Sub.refl _)))))) (by assumption)) (by k_asm) (by assumption) (by assumption))
      (try clear N1)
      (try clear NN)
      (try clear FF)
      (try clear l1)
      (try clear m1)
      (try clear hb1)
      (try clear hf1)
      (try clear hc1)
      (try clear d1)
      (try clear e1)
      (try clear g1)
      (try clear k1)
      (try clear vs1)
      (try clear t1)
      (try clear ctv1)
      (try dsimp only)
      (try k_fold)
      (try clear mk_F28_5)
      obtain mk_F28_7 : True := trivial
      k_with "lam" => (guard_hyp mk_F28_7; skip)
      k_with "comp" => (guard_hyp mk_F28_7; (refine Stop.go ?_))
      k_steps
      rename Fr _ _ _ _ => FF
      rename News _ _ _ _ => NN
      refine lam_new (P := 340) (c := 342) FF NN T' Z.c3 rfl hp340 hT.1 (hT.2 _ (by decide)) rfl ?_
      intro f2 c2 oc2 vs2 t2 ctv2 hh2 tk2 F2 N2 d2 e2 l2 m2
      refine hide ?_
      intro GG0 hGG0
      obtain g2 : @LT.lt Nat _ 340 c2 := l2 _ hp340
      obtain k2 : @LT.lt Nat _ c2 f2 := m2
      obtain ⟨nL2, pp2, NL2, hq340, hT', hb2, hf2, hc2⟩ := lamPack N2 hp340 hT
      clear hp340 hT
      rename ((340 : Addr), tabObj pp2) ∈ nL2 => hp340
      rename Tri pp2 _ => hT
      replace hp306 := hb2 _ hp306 (show (306 : Nat) ≠ 340 by decide)
      replace hp313 := hb2 _ hp313 (show (313 : Nat) ≠ 340 by decide)
      replace od1 := od1.but hb2
      refine hGG0 ?_
      (try clear hGG0 GG0)
      obtain od2 : Odd PySem.Challenge.rw_pf0397_01.row.prog w f2 nL2 := Odd.intro hf2 hc2 (neN (by (clear hdp hn hso9 hup hy0 hy1 l1 l1a l1b l3 lso q1 q2 q3 q4 q5; omega))) (neN (by (clear hdp hn hso9 hup hy0 hy1 l1 l1a l1b l3 lso m2 q1 q2 q3 q4 q5; omega))) (by
        intro n hf hc p loose mean mg mb dp un gd cn cs a ccd cl outer A₀ base h₀ L m s Q E B F X N T hk hd hu hret
        clear hdp hup
        (try clear mk_F28_7)
        obtain mk_F28_8 : True := trivial
        k_with "spec" => (guard_hyp mk_F28_8; k_dflt (exact spec_newRoutes _ _ _))
        k_with "post" => (guard_hyp mk_F28_8; (rename_i P9; obtain ⟨x9, td9, b9, d9, l9, t0, t1, t2, t3, t4, t5, c9, rfl, rfl, q1, q2, q3, q4, q5⟩ := P9))
        k_with "specx" => (guard_hyp mk_F28_8; k_dflt (exact specx_remove _ _ _ _ _ _ _ _ (by walk_at "m_om")))
        walk_at "m_enterL"
        k_steps
        all_goals exact hret _ _ _ _ _ _ _ (Sub.trans (Sub.cons _ (Sub.cons _ (Sub.cons _ (Sub.cons _ (Sub.cons _ (Sub.refl _)))))) (by assumption)) (by k_asm) (by assumption) (by assumption))
      (try clear N2)
      (try clear NN)
      (try clear FF)
      (try clear l2)
      (try clear m2)
      (try clear hb2)
      (try clear hf2)
      (try clear hc2)
      (try clear d2)
      (try clear e2)
      (try clear g2)
      (try clear k2)
      (try clear vs2)
      (try clear t2)
      (try clear ctv2)
      (try dsimp only)
      (try k_fold)
      (try clear mk_F28_7)
      obtain mk_F28_9 : True := trivial
      k_with "lam" => (guard_hyp mk_F28_9; skip)
      k_with "comp" => (guard_hyp mk_F28_9; (refine Stop.go ?_))
      k_steps
      rename Fr _ _ _ _ => FF
      rename News _ _ _ _ => NN
      refine lam_new (P := 340) (c := 342) FF NN T' Z.c3 rfl hp340 hT.1 (hT.2 _ (by decide)) rfl ?_
      intro f3 c3 oc3 vs3 t3 ctv3 hh3 tk3 F3 N3 d3 e3 l3 m3
      refine hide ?_
      intro GG0 hGG0
      obtain g3 : @LT.lt Nat _ 340 c3 := l3 _ hp340
      obtain k3 : @LT.lt Nat _ c3 f3 := m3
      obtain ⟨nL3, pp3, NL3, hq340, hT', hb3, hf3, hc3⟩ := lamPack N3 hp340 hT
      clear hp340 hT
      rename ((340 : Addr), tabObj pp3) ∈ nL3 => hp340
      rename Tri pp3 _ => hT
      replace hp306 := hb3 _ hp306 (show (306 : Nat) ≠ 340 by decide)
      replace hp313 := hb3 _ hp313 (show (313 : Nat) ≠ 340 by decide)
      replace od1 := od1.but hb3
      replace od2 := od2.but hb3
      refine hGG0 ?_
      (try clear hGG0 GG0)
      obtain od3 : Odd PySem.Challenge.rw_pf0397_01.row.prog w f3 nL3 := Odd.intro hf3 hc3 (neN (by (clear hdp hn hso9 hup hy0 hy1 l1 l1a l1b l2 lso q1 q2 q3 q4 q5; omega))) (neN (by (clear hdp hn hso9 hup hy0 hy1 l1 l1a l1b l2 lso m3 q1 q2 q3 q4 q5; omega))) (by
        intro n hf hc p loose mean mg mb dp un gd cn cs a ccd cl outer A₀ base h₀ L m s Q E B F X N T hk hd hu hret
        clear hdp hup
        (try clear mk_F28_9)
        obtain mk_F28_10 : True := trivial
        k_with "specx" => (guard_hyp mk_F28_10; k_dflt (exact specx_mask_of _ _ _ _ _ (by walk_at "m_om")))
        walk_at "m_enterL"
        k_steps
        all_goals exact hret _ _ _ _ _ _ _ (by assumption) (by k_asm) (by assumption) (by assumption))
      (try clear N3)
      (try clear NN)
      (try clear FF)
      (try clear l3)
      (try clear m3)
      (try clear hb3)
      (try clear hf3)
      (try clear hc3)
      (try clear d3)
      (try clear e3)
      (try clear g3)
      (try clear k3)
      (try clear vs3)
      (try clear t3)
      (try clear ctv3)
      (try dsimp only)
      (try k_fold)
      (try clear mk_F28_9)
      obtain mk_F28_11 : True := trivial
      k_with "lam" => (guard_hyp mk_F28_11; skip)
      k_with "comp" => (guard_hyp mk_F28_11; (refine Stop.go ?_))
      k_steps
      rename Fr _ _ _ _ => FF
      rename News _ _ _ _ => NN
      refine lam_new (P := 340) (c := 342) FF NN T' Z.c3 rfl hp340 hT.1 (hT.2 _ (by decide)) rfl ?_
      intro f4 c4 oc4 vs4 t4 ctv4 hh4 tk4 F4 N4 d4 e4 l4 m4
      refine hide ?_
      intro GG0 hGG0
      obtain g4 : @LT.lt Nat _ 340 c4 := l4 _ hp340
      obtain k4 : @LT.lt Nat _ c4 f4 := m4
      obtain ⟨nL4, pp4, NL4, hq340, hT', hb4, hf4, hc4⟩ := lamPack N4 hp340 hT
      clear hp340 hT
      rename ((340 : Addr), tabObj pp4) ∈ nL4 => hp340
      rename Tri pp4 _ => hT
      replace hp306 := hb4 _ hp306 (show (306 : Nat) ≠ 340 by decide)
      replace hp313 := hb4 _ hp313 (show (313 : Nat) ≠ 340 by decide)
      replace od1 := od1.but hb4
      replace od2 := od2.but hb4
      replace od3 := od3.but hb4
      refine hGG0 ?_
      (try clear hGG0 GG0)
      obtain od4 : Odd PySem.Challenge.rw_pf0397_01.row.prog w f4 nL4 := Odd.intro hf4 hc4 (neN (by (clear hdp hn hso9 hup hy0 hy1 l1 l1a l1b l2 l3 lso q1 q2 q3 q4 q5; omega))) (neN (by (clear hdp hn hso9 hup hy0 hy1 l1 l1a l1b l2 l3 lso m4 q1 q2 q3 q4 q5; omega))) (by
        intro n hf hc p loose mean mg mb dp un gd cn cs a ccd cl outer A₀ base h₀ L m s Q E B F X N T hk hd hu hret
        clear hdp hup
        (try clear mk_F28_11)
        obtain mk_F28_12 : True := trivial
        k_with "specx" => (guard_hyp mk_F28_12; k_dflt (exact specx_mask_of _ _ _ _ _ (by walk_at "m_om")))
        walk_at "m_enterL"
        k_steps
        all_goals exact hret _ _ _ _ _ _ _ (by assumption) (by k_asm) (by assumption) (by assumption))
      (try clear N4)
      (try clear NN)
      (try clear FF)
      (try clear l4)
      (try clear m4)
      (try clear hb4)
      (try clear hf4)
      (try clear hc4)
      (try clear d4)
      (try clear e4)
      (try clear g4)
      (try clear k4)
      (try clear vs4)
      (try clear t4)
      (try clear ctv4)
      (try dsimp only)
      (try k_fold)
      (try clear mk_F28_11)
      obtain mk_F28_13 : True := trivial
      k_with "lam" => (guard_hyp mk_F28_13; skip)
      k_with "comp" => (guard_hyp mk_F28_13; (refine Stop.go ?_))
      k_steps
      rename_i lo hl1 ll1 hl2 Fl Nl
      refine hide ?_
      intro GG0 hGG0
      obtain ⟨nLo, NLo, hodd, hslo⟩ : ∃ n, News g0 L0 hl2 n ∧ (lo, listOf [Value.ref f1, .ref f2, .ref f3, .ref f4].toArray 0) ∈ n ∧ Sub nL4 n := ⟨_, Nl, .head _, Sub.cons _ (Sub.refl _)⟩
      clear Nl
      obtain glo : @LT.lt Nat _ 340 lo := ll1 _ hp340
      replace hp340 := hslo _ hp340
      replace hp306 := hslo _ hp306
      replace hp313 := hslo _ hp313
      replace od1 := od1.sub hslo
      replace od2 := od2.sub hslo
      replace od3 := od3.sub hslo
      replace od4 := od4.sub hslo
      refine hGG0 ?_
      (try clear hGG0 GG0)
      rename Fr _ _ _ _ => FF
      rename News _ _ _ _ => NN
      refine lam_new (P := 340) (c := 342) FF NN T' Z.c3 rfl hp340 hT.1 (hT.2 _ (by decide)) rfl ?_
      intro f5 c5 oc5 vs5 t5 ctv5 hh5 tk5 F5 N5 d5 e5 l5 m5
      refine hide ?_
      intro GG0 hGG0
      obtain g5 : @LT.lt Nat _ 340 c5 := l5 _ hp340
      obtain k5 : @LT.lt Nat _ c5 f5 := m5
      obtain ⟨nL5, pp5, NL5, hq340, hT', hb5, hf5, hc5⟩ := lamPack N5 hp340 hT
      clear hp340 hT
      rename ((340 : Addr), tabObj pp5) ∈ nL5 => hp340
      rename Tri pp5 _ => hT
      replace hp306 := hb5 _ hp306 (show (306 : Nat) ≠ 340 by decide)
      replace hp313 := hb5 _ hp313 (show (313 : Nat) ≠ 340 by decide)
      replace od1 := od1.but hb5
      replace od2 := od2.but hb5
      replace od3 := od3.but hb5
      replace od4 := od4.but hb5
      replace hodd := hb5 _ hodd (neN (by (clear g5 hdp hn hso9 hup hy0 hy1 l1 l1a l1b l2 l3 lso m5 q1 q2 q3 q4 q5; omega)))
      refine hGG0 ?_
      (try clear hGG0 GG0)
      obtain od5 : Odd PySem.Challenge.rw_pf0397_01.row.prog w f5 nL5 := Odd.intro hf5 hc5 (neN (by (clear glo hdp hn hso9 hup hy0 hy1 l1 l1a l1b l2 l3 lso q1 q2 q3 q4 q5; omega))) (neN (by (clear glo hdp hn hso9 hup hy0 hy1 l1 l1a l1b l2 l3 lso m5 q1 q2 q3 q4 q5; omega))) (by
        intro n hf hc p loose mean mg mb dp un gd cn cs a ccd cl outer A₀ base h₀ L m s Q E B F X N T hk hd hu hret
        clear hdp hup
        (try clear mk_F28_13)
        obtain mk_F28_14 : True := trivial
        k_with "spec" => (guard_hyp mk_F28_14; k_dflt (first | exact spec_newRoutes _ _ _ | exact spec_newRoute4 _ _ _ _ _ _ _))
        k_with "post" => (guard_hyp mk_F28_14; (rename_i P9; first | (obtain ⟨b8, d8, e0, e1, e2, e3, e4, e5, rfl, rfl, q6, q7⟩ := P9) | (obtain ⟨x9, td9, b9, d9, l9, t0, t1, t2, t3, t4, t5, c9, rfl, rfl, q1, q2, q3, q4, q5⟩ := P9)))
        k_with "powU" => (guard_hyp mk_F28_14; skip)
        k_with "specx" => (guard_hyp mk_F28_14; k_dflt (exact specx_add_far _ _ _ ⟨b8, d8, (e0, e1, e2, e3, e4), (_, _, _, _, e5), 0, 0, -1, 0, 0⟩ _ ⟨.head _, .tail _ (.head _)⟩ (.inr (.inr (.inl (show (-1 : Int) < 0 by decide))))))
        walk_at "m_enterL"
        k_steps
        all_goals exact hret _ _ _ _ _ _ _ (Sub.trans (Sub.cons _ (Sub.cons _ (Sub.cons _ (Sub.cons _ (Sub.cons _ (Sub.cons _ (Sub.cons _ (Sub.refl _)))))))) (by assumption)) (by k_asm) (by assumption) (by assumption))
      (try clear N5)
      (try clear NN)
      (try clear FF)
      (try clear l5)
      (try clear m5)
      (try clear hb5)
      (try clear hf5)
      (try clear hc5)
      (try clear d5)
      (try clear e5)
      (try clear g5)
      (try clear k5)
      (try clear vs5)
      (try clear t5)
      (try clear ctv5)
      (try dsimp only)
      (try k_fold)
      (try clear mk_F28_13)
      obtain mk_F28_15 : True := trivial
      k_with "lam" => (guard_hyp mk_F28_15; skip)
      k_with "comp" => (guard_hyp mk_F28_15; (refine Stop.go ?_))
      k_steps
      rename Fr _ _ _ _ => FF
      rename News _ _ _ _ => NN
      refine lam_new (P := 340) (c := 342) FF NN T' Z.c3 rfl hp340 hT.1 (hT.2 _ (by decide)) rfl ?_
      intro f6 c6 oc6 vs6 t6 ctv6 hh6 tk6 F6 N6 d6 e6 l6 m6
      refine hide ?_
      intro GG0 hGG0
      obtain g6 : @LT.lt Nat _ 340 c6 := l6 _ hp340
      obtain k6 : @LT.lt Nat _ c6 f6 := m6
      obtain ⟨nL6, pp6, NL6, hq340, hT', hb6, hf6, hc6⟩ := lamPack N6 hp340 hT
      clear hp340 hT
      rename ((340 : Addr), tabObj pp6) ∈ nL6 => hp340
      rename Tri pp6 _ => hT
      replace hp306 := hb6 _ hp306 (show (306 : Nat) ≠ 340 by decide)
      replace hp313 := hb6 _ hp313 (show (313 : Nat) ≠ 340 by decide)
      replace od1 := od1.but hb6
      replace od2 := od2.but hb6
      replace od3 := od3.but hb6
      replace od4 := od4.but hb6
      replace od5 := od5.but hb6
      replace hodd := hb6 _ hodd (neN (by (clear g6 hdp hn hso9 hup hy0 hy1 l1 l1a l1b l2 l3 lso m6 q1 q2 q3 q4 q5; omega)))
      refine hGG0 ?_
      (try clear hGG0 GG0)
      obtain od6 : Odd PySem.Challenge.rw_pf0397_01.row.prog w f6 nL6 := Odd.intro hf6 hc6 (neN (by (clear glo hdp hn hso9 hup hy0 hy1 l1 l1a l1b l2 l3 lso q1 q2 q3 q4 q5; omega))) (neN (by (clear glo hdp hn hso9 hup hy0 hy1 l1 l1a l1b l2 l3 lso m6 q1 q2 q3 q4 q5; omega))) (by
        intro n hf hc p loose mean mg mb dp un gd cn cs a ccd cl outer A₀ base h₀ L m s Q E B F X N T hk hd hu hret
        clear hdp hup
        (try clear mk_F28_15)
        obtain mk_F28_16 : True := trivial
        k_with "spec" => (guard_hyp mk_F28_16; k_dflt (first | exact spec_newRoutes _ _ _ | exact spec_newRoute4 _ _ _ _ _ _ _))
        k_with "post" => (guard_hyp mk_F28_16; (rename_i P9; first | (obtain ⟨b8, d8, e0, e1, e2, e3, e4, e5, rfl, rfl, q6, q7⟩ := P9) | (obtain ⟨x9, td9, b9, d9, l9, t0, t1, t2, t3, t4, t5, c9, rfl, rfl, q1, q2, q3, q4, q5⟩ := P9)))
        k_with "powU" => (guard_hyp mk_F28_16; skip)
        k_with "specx" => (guard_hyp mk_F28_16; k_dflt (exact specx_add_far _ _ _ ⟨b8, d8, (e0, e1, e2, e3, e4), (_, _, _, _, e5), 0, 0, 4294967296, 0, 0⟩ _ ⟨.head _, .tail _ (.head _)⟩ (.inr (.inr (.inr (show (4294967295 : Int) < 4294967296 by decide))))))
        walk_at "m_enterL"
        k_steps
        all_goals exact hret _ _ _ _ _ _ _ (Sub.trans (Sub.cons _ (Sub.cons _ (Sub.cons _ (Sub.cons _ (Sub.cons _ (Sub.cons _ (Sub.cons _ (Sub.refl _)))))))) (by assumption)) (by k_asm) (by assumption) (by assumption))
      (try clear N6)
      (try clear NN)
      (try clear FF)
      (try clear l6)
      (try clear m6)
      (try clear hb6)
      (try clear hf6)
      (try clear hc6)
      (try clear d6)
      (try clear e6)
      (try clear g6)
      (try clear k6)
      (try clear vs6)
      (try clear t6)
      (try clear ctv6)
      (try dsimp only)
      (try k_fold)
      (try clear mk_F28_15)
      obtain mk_F28_17 : True := trivial
      k_with "lam" => (guard_hyp mk_F28_17; skip)
      k_with "comp" => (guard_hyp mk_F28_17; (refine Stop.go ?_))
      k_steps
      rename_i lp hq1 llp lD hq2 llD hq3 FD ND
      refine hide ?_
      intro GG0 hGG0
      obtain ⟨nD, ND', hD, hsD⟩ : ∃ n, News g0 L0 hq3 n ∧ (lD, listOf [Value.ref f1, .ref f2, .ref f3, .ref f4, .ref f5, .ref f6].toArray 0) ∈ n ∧ Sub nL6 n := ⟨_, ND, .head _, Sub.cons _ (Sub.cons _ (Sub.refl _))⟩
      clear ND
      obtain hall : ∀ v ∈ [Value.ref f1, .ref f2, .ref f3, .ref f4, .ref f5, .ref f6], ∃ f, v = .ref f ∧ Odd PySem.Challenge.rw_pf0397_01.row.prog w f nD :=
        List.forall_mem_cons.mpr ⟨⟨_, rfl, od1.sub hsD⟩, List.forall_mem_cons.mpr ⟨⟨_, rfl, od2.sub hsD⟩, List.forall_mem_cons.mpr ⟨⟨_, rfl, od3.sub hsD⟩, List.forall_mem_cons.mpr ⟨⟨_, rfl, od4.sub hsD⟩, List.forall_mem_cons.mpr ⟨⟨_, rfl, od5.sub hsD⟩, List.forall_mem_cons.mpr ⟨⟨_, rfl, od6.sub hsD⟩, List.forall_mem_nil _⟩⟩⟩⟩⟩⟩
      replace hp340 := hsD _ hp340
      replace hp306 := hsD _ hp306
      replace hp313 := hsD _ hp313
      obtain hlen : [Value.ref f1, .ref f2, .ref f3, .ref f4, .ref f5, .ref f6].length = 6 := rfl
      generalize [Value.ref f1, .ref f2, .ref f3, .ref f4, .ref f5, .ref f6] = fs at hD hall hlen
      (try clear od1)
      (try clear od2)
      (try clear od3)
      (try clear od4)
      (try clear od5)
      (try clear od6)
      (try clear hodd)
      (try clear hsD)
      (try clear hT)
      (try clear glo)
      (try clear ll1)
      (try clear llp)
      (try clear llD)
      (try clear hslo)
      (try clear so)
      (try clear hI)
      (try clear hn)
      (try clear lifted)
      refine hGG0 ?_
      (try clear hGG0 GG0)
      refine LCt.CompSrcT.ledger (ax := lD) (its := fs.toArray) (k := 0) (by exact rfl) (by k_asm) (by k_asm) hD (by rw [PySem.sizeLine_eq]; simp only [List.size_toArray]; (clear hdp hso9 hup hy0 hy1 l1 l1a l1b l2 l3 lso q1 q2 q3 q4 q5; omega)) fun g8 => ?_
      refine compT_inv (fun i ys n => Sub nD n ∧ ys = []) (n := fs.length) ?step ?fin _ 0 [] nD (by simp) ⟨Sub.refl _, rfl⟩
      case step =>
        intro i8 ys8 n8 v8 I8 oI8 C8 oC8 D8 m8 hh8 tk8' E8 hi8 hj8 hP8 ho8 hx8 F8 N8 off8 ne8
        refine hide ?_
        intro GG0 hGG0
        obtain ⟨hs8, rfl⟩ := hj8
        obtain ⟨f8, rfl, od8⟩ := hall _ (List.mem_of_getElem? (show fs[i8]? = some v8 by simpa using hP8))
        obtain ⟨oc8, odd8, fd8, sl8, c8, ob8, k1, k2, k3, k4, k5⟩ := od8
        obtain k1 := hs8 _ k1
        obtain k2 := hs8 _ k2
        obtain S8 := k5 ((I8, oI8) :: (C8, oC8) :: (D8, LCg.lst []) :: n8) (.tail _ (.tail _ (.tail _ k1))) (.tail _ (.tail _ (.tail _ k2)))
        obtain hD8 := hs8 _ hD
        refine hGG0 ?_
        (try clear hGG0 GG0)
        k_fold
        (try clear mk_F28_17)
        obtain mk_F28_18 : True := trivial
        k_with "specT" => (guard_hyp mk_F28_18; k_dflt (exact spec_heardX _ _ _ _ _ _ _ _ (.tail _ (.tail _ (.tail _ k1))) _ S8))
        k_with "postT" => (guard_hyp mk_F28_18; (rename_i n9 h9 tk9 F9 N9 P9; obtain ⟨⟨t9, rfl⟩, hs9⟩ := P9))
        k_steps
        all_goals exact LCg.CompEnd.intro (by k_asm) (by k_asm) n8 (fun p hp => hs9 p hp) off8 (.inr ⟨_, hD8, rfl, _, rfl⟩) ⟨hs8, rfl⟩
      case fin =>
        rintro ys8 n8 ⟨hs8, rfl⟩ D8 h8 tk8 F8 N8 o8'
        (try dsimp only)
        (try k_fold)
        replace hp340 := hs8 _ hp340
        replace hp306 := hs8 _ hp306
        replace hp313 := hs8 _ hp313
        (try clear hall hlen hD)
        (try clear hD)
        obtain ⟨p340, hp340⟩ : ∃ ps, ((340 : Addr), tabObj ps) ∈ _ := ⟨_, hp340⟩
        (try clear mk_F28_17)
        obtain mk_F28_19 : True := trivial
        k_with "spec" => (guard_hyp mk_F28_19; k_dflt (exact spec_newRoutes _ _ _))
        k_with "post" => (guard_hyp mk_F28_19; (rename_i n9 h9 tk9 F9 N9 P9; obtain ⟨x9, td9, b9, d9, l9, t0, t1, t2, t3, t4, t5, c9, rfl, rfl, q1, q2, q3, q4, q5⟩ := P9; obtain st9 := Stopped.mk))
        k_steps
        all_goals (change wpAny _ _ _ _ _ _)
        refine hide ?_
        intro GG0 hGG0
        obtain ⟨nA, NA, hp340, hp306, hp313, MA, TA, alA⟩ : ∃ n, News g0 L0 h9 n ∧ ((340 : Addr), tabObj p340) ∈ n ∧ ((306 : Addr), tabObj p306) ∈ n ∧ ((313 : Addr), tabObj p313) ∈ n ∧ ∃ M, Tab w n x9 td9 b9 M (([] : List R5).length : Nat) ∧ Alike M [] := (by
          obtain ⟨M, T, hr, _⟩ := newTab (w := w) (.head _) (.tail _ (.head _)) (.tail _ (.tail _ (.head _))) (.tail _ (.tail _ (.tail _ (.head _)))) (.tail _ (.tail _ (.tail _ (.tail _ (.head _))))) q4 q5
          exact ⟨_, N9, by k_mem, by k_mem, by k_mem, M, T, Alike.nil hr⟩)
        clear N9
        obtain ⟨ua0, ua1, uam, hdtA⟩ := TA.dict
        obtain hinA := TA.inst
        obtain two8 : ∀ {e1 e2 : Addr × Obj} {n' : Led} {M' : Tm}, Kept (e1 :: e2 :: nA) td9 MA n' M' → ∀ q ∈ nA, tagO q.2 = 2 → q ∈ n' := fun K q hq ht => (K q (.tail _ (.tail _ hq)) (off_cell NA TA.T hq ht) (ne_tag NA hq hdtA ht (t' := 12) rfl (by decide))).1
        refine hGG0 ?_
        (try clear hGG0 GG0)
        (try clear mk_F28_19)
        obtain mk_F28_20 : True := trivial
        k_with "spec" => (guard_hyp mk_F28_20; k_dflt (first | exact spec_law_all _ _ _ | exact spec_newRoute _ _ _ _ _ _ _ _ | exact spec_add _ _ _ _ _ _ _ ⟨b8, d8, (e0, e1, e2, e3, e4), (_, _, _, _, _), 0, 0, 4294967295, 1, 2⟩ _ (TA.mono (Sub.cons _ (Sub.cons _ (Sub.refl _)))) ⟨.head _, .tail _ (.head _)⟩ fewA_well.n0 fewA_well.n1 (show (0 : Int) ≤ 4294967295 by decide) (show (4294967295 : Int) ≤ 4294967295 by decide) fewA_well.p0 fewA_well.p1 fewA_well.net (fun q => Nat.le_trans (alA.len q) (Nat.zero_le _))))
        k_with "post" => (guard_hyp mk_F28_20; (subst he9; rename_i n9 h9 tk9 F9 N9 P9; first | (obtain ⟨rfl, t8, rfl⟩ := P9) | (obtain ⟨rfl, MB, TB, KB, RB⟩ := P9; obtain hp340 := two8 KB _ hp340 rfl; obtain hp306 := two8 KB _ hp306 rfl; obtain hp313 := two8 KB _ hp313 rfl; obtain st9 := Stopped.mk) | (obtain ⟨b8, d8, e0, e1, e2, e3, e4, rfl, rfl, q6, q7⟩ := P9)))
        k_steps
        all_goals (change wpAny _ _ _ _ _ _)
        refine hide ?_
        intro GG0 hGG0
        obtain ⟨alB, TB⟩ := tab_put RB alA fewA_well TB
        obtain alB : Alike MB [fewA] := alB
        obtain TB : Tab w n9 x9 td9 b9 MB ([fewA].length : Nat) := TB
        obtain ⟨ub0, ub1, ubm, hdtB⟩ := TB.dict
        obtain hinB := TB.inst
        obtain two9 : ∀ {e1 e2 : Addr × Obj} {n' : Led} {M' : Tm}, Kept (e1 :: e2 :: n9) td9 MB n' M' → ∀ q ∈ n9, tagO q.2 = 2 → q ∈ n' := fun K q hq ht => (K q (.tail _ (.tail _ hq)) (off_cell N9 TB.T hq ht) (ne_tag N9 hq hdtB ht (t' := 12) rfl (by decide))).1
        clear two8 alA TA RB KB hdtA hinA
        refine hGG0 ?_
        (try clear hGG0 GG0)
        (try clear mk_F28_20)
        obtain mk_F28_21 : True := trivial
        k_with "spec" => (guard_hyp mk_F28_21; k_dflt (first | exact spec_law_all _ _ _ | exact spec_newRoute _ _ _ _ _ _ _ _ | exact spec_add _ _ _ _ _ _ _ ⟨b7, d7, (e0, e1, e2, e3, e4), (_, _, _, _, _), 0, 0, 4294967295, 1, 5⟩ _ (TB.mono (Sub.cons _ (Sub.cons _ (Sub.refl _)))) ⟨.head _, .tail _ (.head _)⟩ fewB_well.n0 fewB_well.n1 (show (0 : Int) ≤ 4294967295 by decide) (show (4294967295 : Int) ≤ 4294967295 by decide) fewB_well.p0 fewB_well.p1 fewB_well.net (fun q => Nat.le_trans (alB.len q) (show 1 ≤ 1000 by decide))))
        k_with "post" => (guard_hyp mk_F28_21; (subst he9; rename_i n8 h8 tk8 F8 N8 P9; first | (obtain ⟨rfl, t8, rfl⟩ := P9) | (obtain ⟨rfl, MC, TC, KC, RC⟩ := P9; obtain hp340 := two9 KC _ hp340 rfl; obtain hp306 := two9 KC _ hp306 rfl; obtain hp313 := two9 KC _ hp313 rfl; obtain st9 := Stopped.mk) | (obtain ⟨b7, d7, e0, e1, e2, e3, e4, rfl, rfl, q6, q7⟩ := P9)))
        k_steps
        all_goals (change wpAny _ _ _ _ _ _)
        refine hide ?_
        intro GG0 hGG0
        obtain ⟨alC, TC⟩ := tab_put RC alB fewB_well TC
        obtain alC : Alike MC [fewB] := few_add2 ▸ alC
        obtain TC : Tab w n8 x9 td9 b9 MC ((addL fewB [fewA]).length : Nat) := TC
        rw [few_add2] at TC
        obtain ⟨uc0, uc1, ucm, hdtC⟩ := TC.dict
        obtain hinC := TC.inst
        obtain ⟨r1, hpre, hfive, qq, hrq⟩ := one_row TC.W alC
        obtain ⟨nd1, hnd1, hrn1⟩ := rsAt_mem hrq
        obtain ⟨hr1x, hr1d⟩ := (TC.T.rts _ _ hnd1 r1 hrn1).1
        obtain hz : (preF MC []).length ≤ 1000 := (by rw [hpre]; exact Nat.le_of_ble_eq_true rfl)
        obtain ⟨rx, rd, rt, ru, rn, rp, rg, rf, re⟩ := r1
        obtain ⟨rfl, rfl, rfl, rfl, rfl⟩ : rn = 0 ∧ rp = 0 ∧ rg = 4294967295 ∧ rf = 1 ∧ re = 5 := (by unfold five at hfive; injection hfive with g1 g2 g3 g4 g5; exact ⟨g1, g2, g3, g4, g5⟩)
        (try clear two9 alB TB RC KC hdtB hinB)
        refine hGG0 ?_
        (try clear hGG0 GG0)
        (try clear mk_F28_21)
        obtain mk_F28_22 : True := trivial
        k_with "comp" => (guard_hyp mk_F28_22; (refine Stop.go ?_))
        k_with "spec" => (guard_hyp mk_F28_22; k_dflt (exact spec_rows _ _ _ _ _ _ _ _ _ _ hinC hdtC TC.T TC.W TC.root hz))
        k_with "post" => (guard_hyp mk_F28_22; (rename_i n7 h7 tk7 F7 N7 P9; obtain ⟨f7, c7, rfl, hf7, hs7, hl7⟩ := P9))
        k_steps
        obtain hf7 : (f7, listOf #[Value.ref rx] c7) ∈ n7 := (by rw [hpre] at hf7; exact hf7)
        refine LCg.CompSrc.ledger (ax := f7) (its := #[Value.ref rx]) (k := c7) (by exact rfl) (by k_asm) (by k_asm) hf7 (by rw [PySem.sizeLine_eq]; simp) fun g8 => ?_
        refine comp_inv (fun i ys n => Sub n7 n ∧ ((i = 0 ∧ ys = []) ∨ (i = 1 ∧ ∃ a u, ys = [Value.ref a] ∧ (a, seqObj "tuple" (vals5 u fewB).toArray 0) ∈ n))) (n := 1) ?step2 ?fin2 _ 0 [] n7 (by simp) ⟨Sub.refl _, .inl ⟨rfl, rfl⟩⟩
        case step2 =>
          intro i8 ys8 n6 v8 I8 oI8 C8 oC8 D8 m8 hh8 tk8' E8 hi8 hj8 hP8 ho8 hx8 F8 N8 off8 ne8
          refine hide ?_
          intro GG0 hGG0
          obtain ⟨hs8, ⟨rfl, rfl⟩ | ⟨h1, _⟩⟩ := hj8
          · obtain rfl : v8 = Value.ref rx := (by simpa using hP8.symm)
            obtain hrx8 := hs8 _ (hs7 _ hr1x)
            obtain hrd8 := hs8 _ (hs7 _ hr1d)
            obtain hf8 := hs8 _ hf7
            refine hGG0 ?_
            (try clear hGG0 GG0)
            k_fold
            (try clear mk_F28_22)
            obtain mk_F28_23 : True := trivial
            k_with "spec" => (guard_hyp mk_F28_23; k_dflt (exact spec_row _ _ _ _ _ _ _ _ _ _ _ _ _ _ _ _ _ _ _ _ (by k_mem) (by k_mem)))
            k_with "post" => (guard_hyp mk_F28_23; (rename_i n9 h9 tk9 F9 N9 P9; obtain ⟨x8, rfl, rfl, hlx8⟩ := P9))
            k_with "compend" => (guard_hyp mk_F28_23; (refine Stop.go ?_))
            k_steps
            unfold Stop
            (try dsimp only)
            refine LCg.CompEnd.intro (by k_asm) (by k_asm) ((x8, seqObj "tuple" (vals5 ru fewB).toArray 0) :: n6) (fun p hp => ?_) ⟨⟨Nat.ne_of_gt hlx8.1, Nat.ne_of_gt hlx8.2.1, Nat.ne_of_gt hlx8.2.2.1⟩, off8⟩ (.inr ⟨_, .tail _ hf8, rfl, _, rfl⟩) ⟨hs8.trans (Sub.cons _ (Sub.refl _)), .inr ⟨rfl, x8, ru, rfl, .head _⟩⟩
            rcases List.mem_cons.mp hp with rfl | hp
            · exact .tail _ (.head _)
            rcases List.mem_cons.mp hp with rfl | hp
            · exact .tail _ (.tail _ (.head _))
            rcases List.mem_cons.mp hp with rfl | hp
            · exact .tail _ (.tail _ (.tail _ (.head _)))
            rcases List.mem_cons.mp hp with rfl | hp
            · exact .head _
            exact .tail _ (.tail _ (.tail _ (.tail _ hp)))
          · exfalso; (clear hdp hso9 hup hy0 hy1 hz l1 l1a l1b l2 l3 lso ne8 q2 q3 q4 q5 q7; omega)
        case fin2 =>
          rintro ys8 n6 ⟨hs8, hj8⟩ D8 h8 tk8 F8 N8 o8'
          refine hide ?_
          intro GG0 hGG0
          obtain ⟨h1, _⟩ | ⟨_, a8, u8, rfl, ha8⟩ := hj8
          · exact absurd h1 (by decide)
          obtain hinD := hs8 _ (hs7 _ hinC)
          obtain hdtD := hs8 _ (hs7 _ hdtC)
          obtain hp340 := hs8 _ (hs7 _ hp340)
          obtain hp306 := hs8 _ (hs7 _ hp306)
          obtain hp313 := hs8 _ (hs7 _ hp313)
          refine hGG0 ?_
          (try clear hGG0 GG0)
          (try dsimp only)
          (try k_fold)
          (try clear mk_F28_22)
          obtain mk_F28_24 : True := trivial
          k_with "eqL" => (guard_hyp mk_F28_24; (refine Stop.go ?_))
          k_with "spec" => (guard_hyp mk_F28_24; k_dflt (first | exact spec_law_all _ _ _ | exact spec_size _ _ _ _ _ _ _ _ _ _ (by k_mem) (by k_mem)))
          k_with "post" => (guard_hyp mk_F28_24; (rename_i n9 h9 tk9 F9 N9 P9; first | (obtain ⟨rfl, t8, rfl⟩ := P9) | (obtain ⟨rfl, rfl⟩ := P9)))
          k_steps
          all_goals (change wpAny _ _ _ _ _ _)
          rename News _ _ _ _ => NN
          refine eq_one (v := fewB) (u := u8) (u' := (_, _, _, _, _)) NN (by k_mem) (by k_mem) (by k_mem) (by k_mem) (by walk_at "m_room") (by walk_at "m_room") ?_
          (try dsimp only)
          (try k_fold)
          k_steps
          all_goals (unfold LawEnd; exact ⟨rfl, _, _, _, _, rfl, by k_asm, by k_asm, ⟨_, by k_mem⟩, ⟨_, by k_mem⟩, ⟨_, by k_mem⟩⟩))
end Mine

theorem PySem.Challenge.cw_pf0397_01_holds : PySem.Challenge.rw_pf0397_01.Holds :=
  Mine.the_law
