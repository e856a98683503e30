import PyProof.Rows.All
import Wide.All
import OpenK.AllK
import Wide.FinOn
import PySem.Challenge.RW_nn0148_01
set_option Elab.async false
set_option bootstrap.genMatcherCode false
section
open PySem PySem.Calls PyProof.Rows PySem.W
set_option maxRecDepth 100000
set_option linter.unusedVariables false
set_option maxHeartbeats 0
namespace Mine
theorem x0a2 {A0 A1 P : Prop} (h : A0 ∧ A1) (f : A0 → A1 → P) : P := f h.1 h.2
theorem x4a8 {a b c d : Sort _} {A0 A1 A2 A3 A4 A5 A6 A7 : a → b → c → d → Prop} {P : Prop} (h : ∃ x y z u, A0 x y z u ∧ A1 x y z u ∧ A2 x y z u ∧ A3 x y z u ∧ A4 x y z u ∧ A5 x y z u ∧ A6 x y z u ∧ A7 x y z u) (f : ∀ x y z u, A0 x y z u → A1 x y z u → A2 x y z u → A3 x y z u → A4 x y z u → A5 x y z u → A6 x y z u → A7 x y z u → P) : P := by
  obtain ⟨x, y, z, u, h0, h1, h2, h3, h4, h5, h6, h7⟩ := h
  exact f x y z u h0 h1 h2 h3 h4 h5 h6 h7
theorem x1a1 {a : Sort _} {A0 : a → Prop} {P : Prop} (h : ∃ x, A0 x) (f : ∀ x, A0 x → P) : P := h.elim f
theorem x2a6 {a b : Sort _} {A0 A1 A2 A3 A4 A5 : a → b → Prop} {P : Prop} (h : ∃ x y, A0 x y ∧ A1 x y ∧ A2 x y ∧ A3 x y ∧ A4 x y ∧ A5 x y) (f : ∀ x y, A0 x y → A1 x y → A2 x y → A3 x y → A4 x y → A5 x y → P) : P := by
  obtain ⟨x, y, h0, h1, h2, h3, h4, h5⟩ := h
  exact f x y h0 h1 h2 h3 h4 h5
theorem x6a5 {a b c d e i : Sort _} {A0 A1 A2 A3 A4 : a → b → c → d → e → i → Prop} {P : Prop} (h : ∃ x y z u v s, A0 x y z u v s ∧ A1 x y z u v s ∧ A2 x y z u v s ∧ A3 x y z u v s ∧ A4 x y z u v s) (f : ∀ x y z u v s, A0 x y z u v s → A1 x y z u v s → A2 x y z u v s → A3 x y z u v s → A4 x y z u v s → P) : P := by
  obtain ⟨x, y, z, u, v, s, h0, h1, h2, h3, h4⟩ := h
  exact f x y z u v s h0 h1 h2 h3 h4
theorem x0a3 {A0 A1 A2 : Prop} {P : Prop} (h : A0 ∧ A1 ∧ A2) (f : A0 → A1 → A2 → P) : P := by
  obtain ⟨h0, h1, h2⟩ := h
  exact f h0 h1 h2
theorem x0a4 {A0 A1 A2 A3 : Prop} {P : Prop} (h : A0 ∧ A1 ∧ A2 ∧ A3) (f : A0 → A1 → A2 → A3 → P) : P := by
  obtain ⟨h0, h1, h2, h3⟩ := h
  exact f h0 h1 h2 h3
theorem x0a5 {A0 A1 A2 A3 A4 : Prop} {P : Prop} (h : A0 ∧ A1 ∧ A2 ∧ A3 ∧ A4) (f : A0 → A1 → A2 → A3 → A4 → P) : P := by
  obtain ⟨h0, h1, h2, h3, h4⟩ := h
  exact f h0 h1 h2 h3 h4
theorem x1a2 {a : Sort _} {A0 A1 : a → Prop} {P : Prop} (h : ∃ x, A0 x ∧ A1 x) (f : ∀ x, A0 x → A1 x → P) : P := by
  obtain ⟨x, h0, h1⟩ := h
  exact f x h0 h1
theorem x1a3 {a : Sort _} {A0 A1 A2 : a → Prop} {P : Prop} (h : ∃ x, A0 x ∧ A1 x ∧ A2 x) (f : ∀ x, A0 x → A1 x → A2 x → P) : P := by
  obtain ⟨x, h0, h1, h2⟩ := h
  exact f x h0 h1 h2
theorem x1a5 {a : Sort _} {A0 A1 A2 A3 A4 : a → Prop} {P : Prop} (h : ∃ x, A0 x ∧ A1 x ∧ A2 x ∧ A3 x ∧ A4 x) (f : ∀ x, A0 x → A1 x → A2 x → A3 x → A4 x → P) : P := by
  obtain ⟨x, h0, h1, h2, h3, h4⟩ := h
  exact f x h0 h1 h2 h3 h4
theorem x2a1 {a : Sort _} {b : Sort _} {A0 : a → b → Prop} {P : Prop} (h : ∃ x y, A0 x y) (f : ∀ x y, A0 x y → P) : P := by
  obtain ⟨x, y, h0⟩ := h
  exact f x y h0
theorem x2a2 {a : Sort _} {b : Sort _} {A0 A1 : a → b → Prop} {P : Prop} (h : ∃ x y, A0 x y ∧ A1 x y) (f : ∀ x y, A0 x y → A1 x y → P) : P := by
  obtain ⟨x, y, h0, h1⟩ := h
  exact f x y h0 h1
theorem x2a3 {a : Sort _} {b : Sort _} {A0 A1 A2 : a → b → Prop} {P : Prop} (h : ∃ x y, A0 x y ∧ A1 x y ∧ A2 x y) (f : ∀ x y, A0 x y → A1 x y → A2 x y → P) : P := by
  obtain ⟨x, y, h0, h1, h2⟩ := h
  exact f x y h0 h1 h2
theorem x2a4 {a : Sort _} {b : Sort _} {A0 A1 A2 A3 : a → b → Prop} {P : Prop} (h : ∃ x y, A0 x y ∧ A1 x y ∧ A2 x y ∧ A3 x y) (f : ∀ x y, A0 x y → A1 x y → A2 x y → A3 x y → P) : P := by
  obtain ⟨x, y, h0, h1, h2, h3⟩ := h
  exact f x y h0 h1 h2 h3
theorem x2a5 {a : Sort _} {b : Sort _} {A0 A1 A2 A3 A4 : a → b → Prop} {P : Prop} (h : ∃ x y, A0 x y ∧ A1 x y ∧ A2 x y ∧ A3 x y ∧ A4 x y) (f : ∀ x y, A0 x y → A1 x y → A2 x y → A3 x y → A4 x y → P) : P := by
  obtain ⟨x, y, h0, h1, h2, h3, h4⟩ := h
  exact f x y h0 h1 h2 h3 h4
theorem x3a2 {a : Sort _} {b : Sort _} {c : Sort _} {A0 A1 : a → b → c → Prop} {P : Prop} (h : ∃ x y z, A0 x y z ∧ A1 x y z) (f : ∀ x y z, A0 x y z → A1 x y z → P) : P := by
  obtain ⟨x, y, z, h0, h1⟩ := h
  exact f x y z h0 h1
theorem x3a3 {a : Sort _} {b : Sort _} {c : Sort _} {A0 A1 A2 : a → b → c → Prop} {P : Prop} (h : ∃ x y z, A0 x y z ∧ A1 x y z ∧ A2 x y z) (f : ∀ x y z, A0 x y z → A1 x y z → A2 x y z → P) : P := by
  obtain ⟨x, y, z, h0, h1, h2⟩ := h
  exact f x y z h0 h1 h2
theorem x3a4 {a : Sort _} {b : Sort _} {c : Sort _} {A0 A1 A2 A3 : a → b → c → Prop} {P : Prop} (h : ∃ x y z, A0 x y z ∧ A1 x y z ∧ A2 x y z ∧ A3 x y z) (f : ∀ x y z, A0 x y z → A1 x y z → A2 x y z → A3 x y z → P) : P := by
  obtain ⟨x, y, z, h0, h1, h2, h3⟩ := h
  exact f x y z h0 h1 h2 h3
theorem x3a6 {a : Sort _} {b : Sort _} {c : Sort _} {A0 A1 A2 A3 A4 A5 : a → b → c → Prop} {P : Prop} (h : ∃ x y z, A0 x y z ∧ A1 x y z ∧ A2 x y z ∧ A3 x y z ∧ A4 x y z ∧ A5 x y z) (f : ∀ x y z, A0 x y z → A1 x y z → A2 x y z → A3 x y z → A4 x y z → A5 x y z → P) : P := by
  obtain ⟨x, y, z, h0, h1, h2, h3, h4, h5⟩ := h
  exact f x y z h0 h1 h2 h3 h4 h5
theorem x4a1 {a : Sort _} {b : Sort _} {c : Sort _} {d : Sort _} {A0 : a → b → c → d → Prop} {P : Prop} (h : ∃ x y z u, A0 x y z u) (f : ∀ x y z u, A0 x y z u → P) : P := by
  obtain ⟨x, y, z, u, h0⟩ := h
  exact f x y z u h0
theorem x4a2 {a : Sort _} {b : Sort _} {c : Sort _} {d : Sort _} {A0 A1 : a → b → c → d → Prop} {P : Prop} (h : ∃ x y z u, A0 x y z u ∧ A1 x y z u) (f : ∀ x y z u, A0 x y z u → A1 x y z u → P) : P := by
  obtain ⟨x, y, z, u, h0, h1⟩ := h
  exact f x y z u h0 h1
theorem x4a3 {a : Sort _} {b : Sort _} {c : Sort _} {d : Sort _} {A0 A1 A2 : a → b → c → d → Prop} {P : Prop} (h : ∃ x y z u, A0 x y z u ∧ A1 x y z u ∧ A2 x y z u) (f : ∀ x y z u, A0 x y z u → A1 x y z u → A2 x y z u → P) : P := by
  obtain ⟨x, y, z, u, h0, h1, h2⟩ := h
  exact f x y z u h0 h1 h2
theorem x4a7 {a : Sort _} {b : Sort _} {c : Sort _} {d : Sort _} {A0 A1 A2 A3 A4 A5 A6 : a → b → c → d → Prop} {P : Prop} (h : ∃ x y z u, A0 x y z u ∧ A1 x y z u ∧ A2 x y z u ∧ A3 x y z u ∧ A4 x y z u ∧ A5 x y z u ∧ A6 x y z u) (f : ∀ x y z u, A0 x y z u → A1 x y z u → A2 x y z u → A3 x y z u → A4 x y z u → A5 x y z u → A6 x y z u → P) : P := by
  obtain ⟨x, y, z, u, h0, h1, h2, h3, h4, h5, h6⟩ := h
  exact f x y z u h0 h1 h2 h3 h4 h5 h6
theorem x5a2 {a : Sort _} {b : Sort _} {c : Sort _} {d : Sort _} {e : Sort _} {A0 A1 : a → b → c → d → e → Prop} {P : Prop} (h : ∃ x y z u v, A0 x y z u v ∧ A1 x y z u v) (f : ∀ x y z u v, A0 x y z u v → A1 x y z u v → P) : P := by
  obtain ⟨x, y, z, u, v, h0, h1⟩ := h
  exact f x y z u v h0 h1
theorem x5a5 {a : Sort _} {b : Sort _} {c : Sort _} {d : Sort _} {e : Sort _} {A0 A1 A2 A3 A4 : a → b → c → d → e → Prop} {P : Prop} (h : ∃ x y z u v, A0 x y z u v ∧ A1 x y z u v ∧ A2 x y z u v ∧ A3 x y z u v ∧ A4 x y z u v) (f : ∀ x y z u v, A0 x y z u v → A1 x y z u v → A2 x y z u v → A3 x y z u v → A4 x y z u v → P) : P := by
  obtain ⟨x, y, z, u, v, h0, h1, h2, h3, h4⟩ := h
  exact f x y z u v h0 h1 h2 h3 h4
theorem x8a3 {a : Sort _} {b : Sort _} {c : Sort _} {d : Sort _} {e : Sort _} {i : Sort _} {j : Sort _} {k : Sort _} {A0 A1 A2 : a → b → c → d → e → i → j → k → Prop} {P : Prop} (h : ∃ x y z u v s t r, A0 x y z u v s t r ∧ A1 x y z u v s t r ∧ A2 x y z u v s t r) (f : ∀ x y z u v s t r, A0 x y z u v s t r → A1 x y z u v s t r → A2 x y z u v s t r → P) : P := by
  obtain ⟨x, y, z, u, v, s, t, r, h0, h1, h2⟩ := h
  exact f x y z u v s t r h0 h1 h2
theorem x8a4 {a : Sort _} {b : Sort _} {c : Sort _} {d : Sort _} {e : Sort _} {i : Sort _} {j : Sort _} {k : Sort _} {A0 A1 A2 A3 : a → b → c → d → e → i → j → k → Prop} {P : Prop} (h : ∃ x y z u v s t r, A0 x y z u v s t r ∧ A1 x y z u v s t r ∧ A2 x y z u v s t r ∧ A3 x y z u v s t r) (f : ∀ x y z u v s t r, A0 x y z u v s t r → A1 x y z u v s t r → A2 x y z u v s t r → A3 x y z u v s t r → P) : P := by
  obtain ⟨x, y, z, u, v, s, t, r, h0, h1, h2, h3⟩ := h
  exact f x y z u v s t r h0 h1 h2 h3
structure IsPw (p : Program) : Prop where
  h : PySem.Challenge.pw_nn0148_01 = p
noncomputable def pS : { p : Program // IsPw p } := ⟨_, ⟨by conv => lhs; reduce⟩⟩
noncomputable abbrev pN : Program := pS.1
noncomputable def bd : List Stmt := behindTheImports pN
noncomputable def st (i : Nat) : Stmt := ((bd.drop i).head?).getD (.Pass ⟨0,0,0,0⟩)
noncomputable def cm (i j : Nat) : Stmt := match st i with
  | .ClassDef _ _ _ b _ _ _ _ _ _ _ => ((b.drop j).head?).getD (.Pass ⟨0,0,0,0⟩)
  | s => s
noncomputable def fdP : Stmt → Arguments
  | .FunctionDef _ a _ _ _ _ _ _ _ _ => a
  | _ => default
noncomputable def fdB : Stmt → List Stmt
  | .FunctionDef _ _ b _ _ _ _ _ _ _ => b
  | _ => []
noncomputable def fdS : Stmt → Scope
  | .FunctionDef _ _ _ _ _ _ s _ _ _ => s
  | _ => default
noncomputable def sts (i j : Nat) : List Stmt := (bd.take j).drop i
noncomputable def env : Env := { scope := pN.main.scope, locals := mainNs, globals := mainNs, cells := [], code := .ref 13, frame := some 14 }
noncomputable def RunTo (w : World) (n : Nat) (S : SharedT) (l : List Stmt) (pos : Pos) (S' : SharedT) (pos' : Pos) : Prop :=
  PySem.W.Fast.tw10110043849684766642 PySem.W.Fast.tw14364793385576792824 pN w 11 (some (.ref 6)) 1 n S ⟨(PySem.W.Fast.tw12563942051412417395 l env).wrap doneF deadEnd id id, .body bd env, pos, [topFrame ⟨0,0,0,0⟩]⟩ = some (.next, S', .body bd env, pos')
noncomputable abbrev E : BT := .nil
noncomputable abbrev N (o : Obj) (l r : BT) : BT := .node o l r
noncomputable abbrev cc0 := SL.s5856160107412720595x4
noncomputable abbrev cc1 := SL.s2766695959194262286x5
noncomputable abbrev cc2 := SL.s7174869446012820540x8
noncomputable abbrev cc3 := SL.s14018661285674007319x4
noncomputable abbrev cc4 := SL.s2742458400755230247x6
noncomputable abbrev cc5 := SL.s14755015743595814543x17
noncomputable abbrev cc6 := SL.s658472552662922059x5
noncomputable abbrev cc7 := SL.s11030030927630378310x26
noncomputable abbrev cc8 := SL.s17162191345867700912x4
noncomputable abbrev cc9 := SL.s4290257624100764138x5
noncomputable abbrev cc10 := SL.s4860613602091757760x24
noncomputable abbrev cc11 := SL.s11443829558043349243x14
noncomputable abbrev cc12 := SL.s10220274742760427390x26
noncomputable abbrev cc13 := SL.s6511155373996960695x17
noncomputable abbrev Lf (o : Obj) : BT := .node o .nil .nil
noncomputable abbrev iN (n : Nat) : Value := .int (.ofNat n) 0
noncomputable abbrev oF (c : String) (l : List Value) : Obj := ⟨.type c, none, .fields ⟨l⟩, ⟨[]⟩⟩
noncomputable abbrev o0 : Obj := ⟨(.type cc1), none, (.seq ⟨[]⟩ 0), ⟨[]⟩⟩
noncomputable abbrev o1 : Obj := ⟨.none, none, (.fields ⟨[]⟩), ⟨[]⟩⟩
noncomputable abbrev s0 : Str := ⟨⟨[60,109,111,100,117,108,101,62]⟩⟩
noncomputable abbrev s1 : Str := ⟨⟨[47,99,108,97,105,109,47,99,117,116,46,112,121]⟩⟩
noncomputable abbrev o2 : Obj := oF cc0 [(.str s0 182), (.str s0 183), (.str s1 184), iN 1, iN 0, iN 0, iN 0, iN 0, (.ref 11), (.bool false), iN 181, (.ref 12), .none, .none, .none, .none, iN 185, iN 1, (.str s1 186)]
noncomputable abbrev s2 : Str := ⟨⟨[95,95,109,97,105,110,95,95]⟩⟩
noncomputable abbrev o3 : Obj := ⟨(.type cc6), none, .plain, ⟨[(some (.ref 13)), (some (.ref 3)), (some (.ref 3)), none, (some (.str s2 164)), none, (some (.ref 0))]⟩⟩
noncomputable abbrev s3 : Str := ⟨⟨[116,121,112,101,46,95,95,115,117,98,99,108,97,115,115,101,115,95,95,46,69,120,99,101,112,116,105,111,110,46,48]⟩⟩
noncomputable abbrev s4 : Str := ⟨⟨[116,121,112,101,46,95,95,115,117,98,99,108,97,115,115,101,115,95,95,46,69,120,99,101,112,116,105,111,110,46,110]⟩⟩
noncomputable abbrev o4 (P : Params) : Obj := ⟨.none, none, (.dict ⟨[⟨(PyData.keyHash P s3), (.str s3 282), iN 79⟩, ⟨(PyData.keyHash P s4), (.str s4 283), iN 1⟩]⟩ 2), ⟨[]⟩⟩
noncomputable abbrev s5 : Str := ⟨⟨[95,95,110,97,109,101,95,95]⟩⟩
noncomputable abbrev s6 : Str := ⟨⟨[112,97,112,101,114,104,111,108,100,46,101,114,114,111,114,115]⟩⟩
noncomputable abbrev s7 : Str := ⟨⟨[95,95,100,111,99,95,95]⟩⟩
noncomputable abbrev s8 : Str := ⟨⟨[95,95,112,97,99,107,97,103,101,95,95]⟩⟩
noncomputable abbrev s9 : Str := ⟨⟨[95,95,108,111,97,100,101,114,95,95]⟩⟩
noncomputable abbrev s10 : Str := ⟨⟨[95,95,115,112,101,99,95,95]⟩⟩
noncomputable abbrev s11 : Str := ⟨⟨[95,95,97,110,110,111,116,97,116,105,111,110,115,95,95]⟩⟩
noncomputable abbrev s12 : Str := ⟨⟨[95,95,98,117,105,108,116,105,110,115,95,95]⟩⟩
noncomputable abbrev s13 : Str := ⟨⟨[95,95,102,105,108,101,95,95]⟩⟩
noncomputable abbrev s14 : Str := ⟨⟨[95,95,99,97,99,104,101,100,95,95]⟩⟩
noncomputable abbrev s15 : Str := ⟨⟨[95,119,97,108,108]⟩⟩
noncomputable abbrev s16 : Str := ⟨⟨[77,79,83,84,95,71,69,78,69,82,65,84,73,79,78]⟩⟩
noncomputable abbrev s17 : Str := ⟨⟨[69,110,116,114,121]⟩⟩
noncomputable abbrev s18 : Str := ⟨⟨[102,114,101,101,95,99,104,97,105,110]⟩⟩
noncomputable abbrev s19 : Str := ⟨⟨[80,97,112,101,114,69,114,114,111,114]⟩⟩
noncomputable abbrev s20 : Str := ⟨⟨[68,114,97,102,116,70,97,117,108,116]⟩⟩
noncomputable abbrev o5 (P : Params) : Obj := ⟨(.type cc3), none, (.dict ⟨[⟨(PyData.keyHash P s5), (.str s5 165), (.str s6 244)⟩, ⟨(PyData.keyHash P s7), (.str s7 166), .none⟩, ⟨(PyData.keyHash P s8), (.str s8 167), .none⟩, ⟨(PyData.keyHash P s9), (.str s9 168), (.builtin SL.s7097527257260152453x26)⟩, ⟨(PyData.keyHash P s10), (.str s10 169), .none⟩, ⟨(PyData.keyHash P s11), (.str s11 170), (.ref 6)⟩, ⟨(PyData.keyHash P s12), (.str s12 171), (.ref 4)⟩, ⟨(PyData.keyHash P s13), (.str s13 173), (.str s1 172)⟩, ⟨(PyData.keyHash P s14), (.str s14 174), .none⟩, ⟨(PyData.keyHash P s15), (.str s15 193), (.ref 21)⟩, ⟨(PyData.keyHash P s16), (.str s16 197), (.int (.ofNat 65535) 196)⟩, ⟨(PyData.keyHash P s17), (.str s17 237), (.ref 45)⟩, ⟨(PyData.keyHash P s18), (.str s18 243), (.ref 54)⟩, ⟨(PyData.keyHash P s19), (.str s19 285), (.ref 79)⟩, ⟨(PyData.keyHash P s20), (.str s20 301), (.ref 92)⟩]⟩ 15), ⟨[]⟩⟩
noncomputable abbrev o6 : Obj := ⟨.none, none, (.fields ⟨[iN 1, iN 0, (.ref 20), iN 6, iN 0, (.ref 27), iN 15, iN 0, (.ref 53), iN 23, iN 0, (.ref 60), iN 32, iN 0, (.ref 88)]⟩), ⟨[]⟩⟩
noncomputable abbrev s21 : Str := ⟨⟨[107]⟩⟩
noncomputable abbrev o7 : Obj := ⟨(.type cc1), none, (.seq ⟨[(.str s21 190)]⟩ 0), ⟨[]⟩⟩
noncomputable abbrev o8 : Obj := ⟨.none, none, (.func ⟨s15, s15, fdP (st 0), .stmts (fdB (st 0)), fdS (st 0), 0, [], .none, .none, .none, .none, none, .none, .none, 0⟩), ⟨[]⟩⟩
noncomputable abbrev o9 : Obj := oF cc0 [(.str s15 187), (.str s15 188), (.str s1 189), iN 1, iN 1, iN 0, iN 0, iN 3, (.ref 15), (.bool true), iN 181, (.ref 16), .none, (.ref 17), (.ref 18), (.ref 19), iN 191, iN 1, (.str s1 192)]
noncomputable abbrev o10 : Obj := ⟨(.type cc2), none, (.func ⟨s15, s15, fdP (st 0), .stmts (fdB (st 0)), fdS (st 0), 3, [], .none, .none, .none, (.str s2 164), none, (.ref 20), .none, 0⟩), ⟨[]⟩⟩
noncomputable abbrev o11 : Obj := oF cc7 [(.builtin SL.s10062305145149207511x16), (.type cc8)]
noncomputable abbrev s22 : Str := ⟨⟨[95,95,109,111,100,117,108,101,95,95]⟩⟩
noncomputable abbrev s23 : Str := ⟨⟨[112,97,112,101,114,104,111,108,100,46,99,114,111,115,115]⟩⟩
noncomputable abbrev s24 : Str := ⟨⟨[95,95,113,117,97,108,110,97,109,101,95,95]⟩⟩
noncomputable abbrev s25 : Str := ⟨⟨[95,95,102,105,114,115,116,108,105,110,101,110,111,95,95]⟩⟩
noncomputable abbrev s26 : Str := ⟨⟨[95,95,105,110,105,116,95,95]⟩⟩
noncomputable abbrev s27 : Str := ⟨⟨[116,111,108,100]⟩⟩
noncomputable abbrev s28 : Str := ⟨⟨[95,95,115,116,97,116,105,99,95,97,116,116,114,105,98,117,116,101,115,95,95]⟩⟩
noncomputable abbrev o12 (P : Params) : Obj := ⟨(.type cc3), none, (.dict ⟨[⟨(PyData.keyHash P s22), (.str s22 205), (.str s23 194)⟩, ⟨(PyData.keyHash P s24), (.str s24 207), (.str s17 206)⟩, ⟨(PyData.keyHash P s25), (.str s25 209), (.int (.ofNat 6) 208)⟩, ⟨(PyData.keyHash P s26), (.str s26 219), (.ref 35)⟩, ⟨(PyData.keyHash P s27), (.str s27 226), (.ref 42)⟩, ⟨(PyData.keyHash P s28), (.str s28 230), (.ref 43)⟩]⟩ 6), ⟨[]⟩⟩
noncomputable abbrev o13 : Obj := ⟨.none, none, (.fields ⟨[iN 8, iN 4, (.ref 34), iN 13, iN 4, (.ref 41)]⟩), ⟨[]⟩⟩
noncomputable abbrev o14 : Obj := oF cc0 [(.str s17 200), (.str s17 201), (.str s1 202), iN 6, iN 0, iN 0, iN 0, iN 0, (.ref 25), (.bool false), iN 181, (.ref 26), .none, .none, .none, .none, iN 203, iN 6, (.str s1 204)]
noncomputable abbrev o15 : Obj := ⟨(.type cc6), none, .plain, ⟨[(some (.ref 27)), (some (.ref 3)), (some (.ref 24)), none, (some (.str s23 194)), none, (some (.ref 0))]⟩⟩
noncomputable abbrev s29 : Str := ⟨⟨[115,101,108,102]⟩⟩
noncomputable abbrev s30 : Str := ⟨⟨[119,97,121]⟩⟩
noncomputable abbrev s31 : Str := ⟨⟨[111,110,101]⟩⟩
noncomputable abbrev s32 : Str := ⟨⟨[116,119,111]⟩⟩
noncomputable abbrev o16 : Obj := ⟨(.type cc1), none, (.seq ⟨[(.str s29 213), (.str s30 214), (.str s31 215), (.str s32 216)]⟩ 0), ⟨[]⟩⟩
noncomputable abbrev s33 : Str := ⟨⟨[69,110,116,114,121,46,95,95,105,110,105,116,95,95]⟩⟩
noncomputable abbrev o17 : Obj := ⟨.none, none, (.func ⟨s26, s33, fdP (cm 3 0), .stmts (fdB (cm 3 0)), fdS (cm 3 0), 0, [], .none, .none, .none, .none, none, .none, .none, 0⟩), ⟨[]⟩⟩
noncomputable abbrev o18 : Obj := oF cc0 [(.str s26 210), (.str s33 211), (.str s1 212), iN 8, iN 4, iN 0, iN 0, iN 3, (.ref 29), (.bool true), iN 181, (.ref 30), .none, (.ref 31), (.ref 32), (.ref 33), iN 217, iN 8, (.str s1 218)]
noncomputable abbrev o19 : Obj := ⟨(.type cc2), none, (.func ⟨s26, s33, fdP (cm 3 0), .stmts (fdB (cm 3 0)), fdS (cm 3 0), 3, [], .none, .none, .none, (.str s23 194), none, (.ref 34), .none, 0⟩), ⟨[]⟩⟩
noncomputable abbrev o20 : Obj := ⟨(.type cc1), none, (.seq ⟨[(.str s29 223)]⟩ 0), ⟨[]⟩⟩
noncomputable abbrev s34 : Str := ⟨⟨[69,110,116,114,121,46,116,111,108,100]⟩⟩
noncomputable abbrev o21 : Obj := ⟨.none, none, (.func ⟨s27, s34, fdP (cm 3 1), .stmts (fdB (cm 3 1)), fdS (cm 3 1), 0, [], .none, .none, .none, .none, none, .none, .none, 0⟩), ⟨[]⟩⟩
noncomputable abbrev o22 : Obj := oF cc0 [(.str s27 220), (.str s34 221), (.str s1 222), iN 13, iN 1, iN 0, iN 0, iN 3, (.ref 36), (.bool true), iN 181, (.ref 37), .none, (.ref 38), (.ref 39), (.ref 40), iN 224, iN 13, (.str s1 225)]
noncomputable abbrev o23 : Obj := ⟨(.type cc2), none, (.func ⟨s27, s34, fdP (cm 3 1), .stmts (fdB (cm 3 1)), fdS (cm 3 1), 3, [], .none, .none, .none, (.str s23 194), none, (.ref 41), .none, 0⟩), ⟨[]⟩⟩
noncomputable abbrev o24 : Obj := ⟨(.type cc1), none, (.seq ⟨[(.str s31 227), (.str s32 228), (.str s30 229)]⟩ 0), ⟨[]⟩⟩
noncomputable abbrev s35 : Str := ⟨⟨[95,95,100,105,99,116,95,95]⟩⟩
noncomputable abbrev s36 : Str := ⟨⟨[95,95,119,101,97,107,114,101,102,95,95]⟩⟩
noncomputable abbrev o25 (P : Params) : Obj := ⟨(.type cc3), none, (.dict ⟨[⟨(PyData.keyHash P s22), (.str s22 205), (.str s23 194)⟩, ⟨(PyData.keyHash P s25), (.str s25 209), (.int (.ofNat 6) 208)⟩, ⟨(PyData.keyHash P s26), (.str s26 219), (.ref 35)⟩, ⟨(PyData.keyHash P s27), (.str s27 226), (.ref 42)⟩, ⟨(PyData.keyHash P s28), (.str s28 230), (.ref 43)⟩, ⟨(PyData.keyHash P s35), (.str s35 232), (.ref 46)⟩, ⟨(PyData.keyHash P s36), (.str s36 234), (.ref 47)⟩, ⟨(PyData.keyHash P s7), (.str s7 235), .none⟩]⟩ 4), ⟨[]⟩⟩
noncomputable abbrev o26 : Obj := ⟨(.type cc8), none, (.cls { name := s17, bases := [(.type cc4)], mro := [(.ref 45), (.type cc4)], ns := 44, qualname := s17, hasDict := true, slotNames := [], subclasses := [], abstract := false, collection := none, hasDel := false }), ⟨[none, none, (some (.str s17 198)), (some (.str s17 206)), (some (.builtin cc11)), (some (.bool true))]⟩⟩
noncomputable abbrev o27 : Obj := oF cc5 [(.str s35 231), (.ref 45), (.builtin cc13), (.builtin SL.s12411053484034534018x21)]
noncomputable abbrev o28 : Obj := oF cc5 [(.str s36 233), (.ref 45), (.builtin cc12), .none]
noncomputable abbrev o29 : Obj := oF cc9 [(.ref 45), (.ref 45), (.ref 45)]
noncomputable abbrev o30 : Obj := oF cc7 [(.builtin cc10), (.ref 45)]
noncomputable abbrev o31 : Obj := ⟨.none, none, (.func ⟨s18, s18, fdP (st 4), .stmts (fdB (st 4)), fdS (st 4), 0, [], .none, .none, .none, .none, none, .none, .none, 0⟩), ⟨[]⟩⟩
noncomputable abbrev o32 : Obj := oF cc0 [(.str s18 238), (.str s18 239), (.str s1 240), iN 15, iN 2, iN 0, iN 0, iN 3, (.ref 50), (.bool true), iN 181, (.ref 51), .none, .none, .none, (.ref 52), iN 241, iN 15, (.str s1 242)]
noncomputable abbrev o33 : Obj := ⟨(.type cc2), none, (.func ⟨s18, s18, fdP (st 4), .stmts (fdB (st 4)), fdS (st 4), 3, [], .none, .none, .none, (.str s23 194), none, (.ref 53), .none, 0⟩), ⟨[]⟩⟩
noncomputable abbrev o34 : Obj := ⟨(.type cc1), none, (.seq ⟨[(.type SL.s5946037652744460706x9)]⟩ 0), ⟨[]⟩⟩
noncomputable abbrev o35 (P : Params) : Obj := ⟨(.type cc3), none, (.dict ⟨[⟨(PyData.keyHash P s22), (.str s22 253), (.str s6 244)⟩, ⟨(PyData.keyHash P s24), (.str s24 255), (.str s19 254)⟩, ⟨(PyData.keyHash P s25), (.str s25 257), (.int (.ofNat 23) 256)⟩, ⟨(PyData.keyHash P s26), (.str s26 268), (.ref 69)⟩, ⟨(PyData.keyHash P s27), (.str s27 275), (.ref 76)⟩, ⟨(PyData.keyHash P s28), (.str s28 278), (.ref 77)⟩]⟩ 6), ⟨[]⟩⟩
noncomputable abbrev o36 : Obj := ⟨.none, none, (.fields ⟨[iN 25, iN 4, (.ref 68), iN 30, iN 4, (.ref 75)]⟩), ⟨[]⟩⟩
noncomputable abbrev o37 : Obj := oF cc0 [(.str s19 248), (.str s19 249), (.str s1 250), iN 23, iN 0, iN 0, iN 0, iN 0, (.ref 58), (.bool false), iN 181, (.ref 59), .none, .none, .none, .none, iN 251, iN 23, (.str s1 252)]
noncomputable abbrev o38 : Obj := ⟨(.type cc6), none, .plain, ⟨[(some (.ref 60)), (some (.ref 3)), (some (.ref 57)), none, (some (.str s6 244)), none, (some (.ref 0))]⟩⟩
noncomputable abbrev o39 : Obj := ⟨(.type cc1), none, (.seq ⟨[(.int (.negSucc 0) 259)]⟩ 0), ⟨[]⟩⟩
noncomputable abbrev s37 : Str := ⟨⟨[119,104,97,116]⟩⟩
noncomputable abbrev s38 : Str := ⟨⟨[97,116]⟩⟩
noncomputable abbrev o40 : Obj := ⟨(.type cc1), none, (.seq ⟨[(.str s29 263), (.str s37 264), (.str s38 265)]⟩ 0), ⟨[]⟩⟩
noncomputable abbrev s39 : Str := ⟨⟨[80,97,112,101,114,69,114,114,111,114,46,95,95,105,110,105,116,95,95]⟩⟩
noncomputable abbrev o41 : Obj := ⟨.none, none, (.func ⟨s26, s39, fdP (cm 6 0), .stmts (fdB (cm 6 0)), fdS (cm 6 0), 0, [], .none, .none, .none, .none, none, .none, .none, 0⟩), ⟨[]⟩⟩
noncomputable abbrev o42 : Obj := oF cc0 [(.str s26 260), (.str s39 261), (.str s1 262), iN 25, iN 3, iN 0, iN 0, iN 3, (.ref 63), (.bool true), iN 181, (.ref 64), .none, (.ref 65), (.ref 66), (.ref 67), iN 266, iN 25, (.str s1 267)]
noncomputable abbrev o43 : Obj := ⟨(.type cc2), none, (.func ⟨s26, s39, fdP (cm 6 0), .stmts (fdB (cm 6 0)), fdS (cm 6 0), 3, [], (.ref 62), .none, .none, (.str s6 244), none, (.ref 68), .none, 0⟩), ⟨[]⟩⟩
noncomputable abbrev o44 : Obj := ⟨(.type cc1), none, (.seq ⟨[(.str s29 272)]⟩ 0), ⟨[]⟩⟩
noncomputable abbrev s40 : Str := ⟨⟨[80,97,112,101,114,69,114,114,111,114,46,116,111,108,100]⟩⟩
noncomputable abbrev o45 : Obj := ⟨.none, none, (.func ⟨s27, s40, fdP (cm 6 1), .stmts (fdB (cm 6 1)), fdS (cm 6 1), 0, [], .none, .none, .none, .none, none, .none, .none, 0⟩), ⟨[]⟩⟩
noncomputable abbrev o46 : Obj := oF cc0 [(.str s27 269), (.str s40 270), (.str s1 271), iN 30, iN 1, iN 0, iN 0, iN 3, (.ref 70), (.bool true), iN 181, (.ref 71), .none, (.ref 72), (.ref 73), (.ref 74), iN 273, iN 30, (.str s1 274)]
noncomputable abbrev o47 : Obj := ⟨(.type cc2), none, (.func ⟨s27, s40, fdP (cm 6 1), .stmts (fdB (cm 6 1)), fdS (cm 6 1), 3, [], .none, .none, .none, (.str s6 244), none, (.ref 75), .none, 0⟩), ⟨[]⟩⟩
noncomputable abbrev o48 : Obj := ⟨(.type cc1), none, (.seq ⟨[(.str s38 276), (.str s37 277)]⟩ 0), ⟨[]⟩⟩
noncomputable abbrev o49 (P : Params) : Obj := ⟨(.type cc3), none, (.dict ⟨[⟨(PyData.keyHash P s22), (.str s22 253), (.str s6 244)⟩, ⟨(PyData.keyHash P s25), (.str s25 257), (.int (.ofNat 23) 256)⟩, ⟨(PyData.keyHash P s26), (.str s26 268), (.ref 69)⟩, ⟨(PyData.keyHash P s27), (.str s27 275), (.ref 76)⟩, ⟨(PyData.keyHash P s28), (.str s28 278), (.ref 77)⟩, ⟨(PyData.keyHash P s36), (.str s36 280), (.ref 80)⟩, ⟨(PyData.keyHash P s7), (.str s7 281), .none⟩]⟩ 3), ⟨[]⟩⟩
noncomputable abbrev o50 : Obj := ⟨(.type cc8), none, (.cls { name := s19, bases := [(.type SL.s5946037652744460706x9)], mro := [(.ref 79), (.type SL.s5946037652744460706x9), (.type SL.s4278001404047624695x13), (.type cc4)], ns := 78, qualname := s19, hasDict := true, slotNames := [], subclasses := [(.ref 92)], abstract := false, collection := none, hasDel := false }), ⟨[(some (.ref 55)), none, (some (.str s19 246)), (some (.str s19 254)), (some (.builtin SL.s5160863994218179198x17)), (some (.bool true))]⟩⟩
noncomputable abbrev o51 : Obj := oF cc5 [(.str s36 279), (.ref 79), (.builtin cc12), .none]
noncomputable abbrev o52 : Obj := oF cc9 [(.ref 79), (.ref 79), (.ref 79)]
noncomputable abbrev o53 : Obj := oF cc7 [(.builtin cc10), (.ref 79)]
noncomputable abbrev o54 : Obj := ⟨(.type cc1), none, (.seq ⟨[(.ref 79)]⟩ 0), ⟨[]⟩⟩
noncomputable abbrev o55 (P : Params) : Obj := ⟨(.type cc3), none, (.dict ⟨[⟨(PyData.keyHash P s22), (.str s22 293), (.str s6 244)⟩, ⟨(PyData.keyHash P s24), (.str s24 295), (.str s20 294)⟩, ⟨(PyData.keyHash P s25), (.str s25 297), (.int (.ofNat 32) 296)⟩, ⟨(PyData.keyHash P s28), (.str s28 298), (.ref 90)⟩]⟩ 4), ⟨[]⟩⟩
noncomputable abbrev o56 : Obj := oF cc0 [(.str s20 288), (.str s20 289), (.str s1 290), iN 32, iN 0, iN 0, iN 0, iN 0, (.ref 86), (.bool false), iN 181, (.ref 87), .none, .none, .none, .none, iN 291, iN 32, (.str s1 292)]
noncomputable abbrev o57 : Obj := ⟨(.type cc6), none, .plain, ⟨[(some (.ref 88)), (some (.ref 3)), (some (.ref 85)), none, (some (.str s6 244)), none, (some (.ref 0))]⟩⟩
noncomputable abbrev o58 (P : Params) : Obj := ⟨(.type cc3), none, (.dict ⟨[⟨(PyData.keyHash P s22), (.str s22 293), (.str s6 244)⟩, ⟨(PyData.keyHash P s25), (.str s25 297), (.int (.ofNat 32) 296)⟩, ⟨(PyData.keyHash P s28), (.str s28 298), (.ref 90)⟩, ⟨(PyData.keyHash P s7), (.str s7 299), .none⟩]⟩ 2), ⟨[]⟩⟩
noncomputable abbrev o59 : Obj := ⟨(.type cc8), none, (.cls { name := s20, bases := [(.ref 79)], mro := [(.ref 92), (.ref 79), (.type SL.s5946037652744460706x9), (.type SL.s4278001404047624695x13), (.type cc4)], ns := 91, qualname := s20, hasDict := true, slotNames := [], subclasses := [], abstract := false, collection := none, hasDel := false }), ⟨[(some (.ref 83)), none, (some (.str s20 286)), (some (.str s20 294)), (some (.builtin SL.s5160863994218179198x17)), (some (.bool true))]⟩⟩
noncomputable abbrev o60 : Obj := oF cc9 [(.ref 92), (.ref 92), (.ref 92)]
noncomputable abbrev o61 : Obj := oF cc7 [(.builtin cc10), (.ref 92)]
noncomputable abbrev s41 : Str := ⟨⟨[112,97,112,101,114,104,111,108,100,46,111,98,106,101,99,116,115]⟩⟩
noncomputable abbrev s42 : Str := ⟨⟨[87,72,73,84,69]⟩⟩
noncomputable abbrev s43 : Str := ⟨⟨[68,69,76,73,77,73,84,69,82,83]⟩⟩
noncomputable abbrev s44 : Str := ⟨⟨[105,115,95,114,101,103,117,108,97,114]⟩⟩
noncomputable abbrev s45 : Str := ⟨⟨[68,101,99,105,109,97,108]⟩⟩
noncomputable abbrev s46 : Str := ⟨⟨[115,105,103,110,95,116,101,120,116]⟩⟩
noncomputable abbrev s47 : Str := ⟨⟨[77,79,83,84,95,72,79,80,83]⟩⟩
noncomputable abbrev o62 (P : Params) : Obj := ⟨(.type cc3), none, (.dict ⟨[⟨(PyData.keyHash P s5), (.str s5 165), (.str s41 453)⟩, ⟨(PyData.keyHash P s7), (.str s7 166), .none⟩, ⟨(PyData.keyHash P s8), (.str s8 167), .none⟩, ⟨(PyData.keyHash P s9), (.str s9 168), (.builtin SL.s7097527257260152453x26)⟩, ⟨(PyData.keyHash P s10), (.str s10 169), .none⟩, ⟨(PyData.keyHash P s11), (.str s11 170), (.ref 6)⟩, ⟨(PyData.keyHash P s12), (.str s12 171), (.ref 4)⟩, ⟨(PyData.keyHash P s13), (.str s13 173), (.str s1 172)⟩, ⟨(PyData.keyHash P s14), (.str s14 174), .none⟩, ⟨(PyData.keyHash P s15), (.str s15 193), (.ref 21)⟩, ⟨(PyData.keyHash P s16), (.str s16 197), (.int (.ofNat 65535) 196)⟩, ⟨(PyData.keyHash P s17), (.str s17 237), (.ref 45)⟩, ⟨(PyData.keyHash P s18), (.str s18 243), (.ref 54)⟩, ⟨(PyData.keyHash P s19), (.str s19 285), (.ref 79)⟩, ⟨(PyData.keyHash P s20), (.str s20 301), (.ref 92)⟩, ⟨(PyData.keyHash P s42), (.str s42 310), (.ref 95)⟩, ⟨(PyData.keyHash P s43), (.str s43 321), (.ref 96)⟩, ⟨(PyData.keyHash P s44), (.str s44 328), (.ref 103)⟩, ⟨(PyData.keyHash P s45), (.str s45 445), (.ref 197)⟩, ⟨(PyData.keyHash P s46), (.str s46 452), (.ref 208)⟩, ⟨(PyData.keyHash P s47), (.str s47 456), (.int (.ofNat 30) 455)⟩]⟩ 21), ⟨[]⟩⟩
noncomputable abbrev o63 : Obj := ⟨.none, none, (.fields ⟨[iN 1, iN 0, (.ref 20), iN 6, iN 0, (.ref 27), iN 15, iN 0, (.ref 53), iN 23, iN 0, (.ref 60), iN 32, iN 0, (.ref 88), iN 37, iN 0, (.ref 102), iN 40, iN 0, (.ref 109), iN 88, iN 0, (.ref 207)]⟩), ⟨[]⟩⟩
noncomputable abbrev o64 : Obj := ⟨(.type cc1), none, (.seq ⟨[(.int (.ofNat 0) 304), (.int (.ofNat 9) 305), (.int (.ofNat 10) 306), (.int (.ofNat 12) 307), (.int (.ofNat 13) 308), (.int (.ofNat 32) 309)]⟩ 0), ⟨[]⟩⟩
noncomputable abbrev o65 : Obj := ⟨(.type cc1), none, (.seq ⟨[(.int (.ofNat 40) 311), (.int (.ofNat 41) 312), (.int (.ofNat 60) 313), (.int (.ofNat 62) 314), (.int (.ofNat 91) 315), (.int (.ofNat 93) 316), (.int (.ofNat 123) 317), (.int (.ofNat 125) 318), (.int (.ofNat 47) 319), (.int (.ofNat 37) 320)]⟩ 0), ⟨[]⟩⟩
noncomputable abbrev s48 : Str := ⟨⟨[99,111,100,101]⟩⟩
noncomputable abbrev o66 : Obj := ⟨(.type cc1), none, (.seq ⟨[(.str s48 325)]⟩ 0), ⟨[]⟩⟩
noncomputable abbrev o67 : Obj := ⟨.none, none, (.func ⟨s44, s44, fdP (st 11), .stmts (fdB (st 11)), fdS (st 11), 0, [], .none, .none, .none, .none, none, .none, .none, 0⟩), ⟨[]⟩⟩
noncomputable abbrev o68 : Obj := oF cc0 [(.str s44 322), (.str s44 323), (.str s1 324), iN 37, iN 1, iN 0, iN 0, iN 3, (.ref 97), (.bool true), iN 181, (.ref 98), .none, (.ref 99), (.ref 100), (.ref 101), iN 326, iN 37, (.str s1 327)]
noncomputable abbrev s49 : Str := ⟨⟨[112,97,112,101,114,104,111,108,100,46,99,117,114,115,111,114]⟩⟩
noncomputable abbrev o69 : Obj := ⟨(.type cc2), none, (.func ⟨s44, s44, fdP (st 11), .stmts (fdB (st 11)), fdS (st 11), 3, [], .none, .none, .none, (.str s49 302), none, (.ref 102), .none, 0⟩), ⟨[]⟩⟩
noncomputable abbrev s50 : Str := ⟨⟨[112,97,112,101,114,104,111,108,100,46,100,101,99,105,109,97,108,115]⟩⟩
noncomputable abbrev s51 : Str := ⟨⟨[112,108,117,115]⟩⟩
noncomputable abbrev s52 : Str := ⟨⟨[109,105,110,117,115]⟩⟩
noncomputable abbrev s53 : Str := ⟨⟨[116,105,109,101,115]⟩⟩
noncomputable abbrev s54 : Str := ⟨⟨[110,101,103,97,116,101,100]⟩⟩
noncomputable abbrev s55 : Str := ⟨⟨[99,111,109,112,97,114,101,100]⟩⟩
noncomputable abbrev s56 : Str := ⟨⟨[105,115,95,119,104,111,108,101]⟩⟩
noncomputable abbrev s57 : Str := ⟨⟨[102,108,111,111,114]⟩⟩
noncomputable abbrev s58 : Str := ⟨⟨[114,111,117,110,100,101,100]⟩⟩
noncomputable abbrev s59 : Str := ⟨⟨[116,101,120,116]⟩⟩
noncomputable abbrev s60 : Str := ⟨⟨[108,101,97,115,116,95,116,101,120,116]⟩⟩
noncomputable abbrev o70 (P : Params) : Obj := ⟨(.type cc3), none, (.dict ⟨[⟨(PyData.keyHash P s22), (.str s22 338), (.str s50 329)⟩, ⟨(PyData.keyHash P s24), (.str s24 340), (.str s45 339)⟩, ⟨(PyData.keyHash P s25), (.str s25 342), (.int (.ofNat 40) 341)⟩, ⟨(PyData.keyHash P s26), (.str s26 351), (.ref 117)⟩, ⟨(PyData.keyHash P s51), (.str s51 359), (.ref 124)⟩, ⟨(PyData.keyHash P s52), (.str s52 367), (.ref 131)⟩, ⟨(PyData.keyHash P s53), (.str s53 375), (.ref 138)⟩, ⟨(PyData.keyHash P s54), (.str s54 382), (.ref 145)⟩, ⟨(PyData.keyHash P s55), (.str s55 390), (.ref 152)⟩, ⟨(PyData.keyHash P s56), (.str s56 397), (.ref 159)⟩, ⟨(PyData.keyHash P s57), (.str s57 404), (.ref 166)⟩, ⟨(PyData.keyHash P s58), (.str s58 412), (.ref 173)⟩, ⟨(PyData.keyHash P s27), (.str s27 419), (.ref 180)⟩, ⟨(PyData.keyHash P s59), (.str s59 427), (.ref 187)⟩, ⟨(PyData.keyHash P s60), (.str s60 435), (.ref 194)⟩, ⟨(PyData.keyHash P s28), (.str s28 438), (.ref 195)⟩]⟩ 16), ⟨[]⟩⟩
noncomputable abbrev o71 : Obj := ⟨.none, none, (.fields ⟨[iN 42, iN 4, (.ref 116), iN 49, iN 4, (.ref 123), iN 52, iN 4, (.ref 130), iN 55, iN 4, (.ref 137), iN 58, iN 4, (.ref 144), iN 61, iN 4, (.ref 151), iN 64, iN 4, (.ref 158), iN 67, iN 4, (.ref 165), iN 70, iN 4, (.ref 172), iN 73, iN 4, (.ref 179), iN 76, iN 4, (.ref 186), iN 83, iN 4, (.ref 193)]⟩), ⟨[]⟩⟩
noncomputable abbrev o72 : Obj := oF cc0 [(.str s45 333), (.str s45 334), (.str s1 335), iN 40, iN 0, iN 0, iN 0, iN 0, (.ref 107), (.bool false), iN 181, (.ref 108), .none, .none, .none, .none, iN 336, iN 40, (.str s1 337)]
noncomputable abbrev o73 : Obj := ⟨(.type cc6), none, .plain, ⟨[(some (.ref 109)), (some (.ref 3)), (some (.ref 106)), none, (some (.str s50 329)), none, (some (.ref 0))]⟩⟩
noncomputable abbrev s61 : Str := ⟨⟨[116,111,112]⟩⟩
noncomputable abbrev s62 : Str := ⟨⟨[112,108,97,99,101,115]⟩⟩
noncomputable abbrev o74 : Obj := ⟨(.type cc1), none, (.seq ⟨[(.str s29 346), (.str s61 347), (.str s62 348)]⟩ 0), ⟨[]⟩⟩
noncomputable abbrev s63 : Str := ⟨⟨[68,101,99,105,109,97,108,46,95,95,105,110,105,116,95,95]⟩⟩
noncomputable abbrev o75 : Obj := ⟨.none, none, (.func ⟨s26, s63, fdP (cm 13 0), .stmts (fdB (cm 13 0)), fdS (cm 13 0), 0, [], .none, .none, .none, .none, none, .none, .none, 0⟩), ⟨[]⟩⟩
noncomputable abbrev o76 : Obj := oF cc0 [(.str s26 343), (.str s63 344), (.str s1 345), iN 42, iN 3, iN 0, iN 0, iN 3, (.ref 111), (.bool true), iN 181, (.ref 112), .none, (.ref 113), (.ref 114), (.ref 115), iN 349, iN 42, (.str s1 350)]
noncomputable abbrev o77 : Obj := ⟨(.type cc2), none, (.func ⟨s26, s63, fdP (cm 13 0), .stmts (fdB (cm 13 0)), fdS (cm 13 0), 3, [], .none, .none, .none, (.str s50 329), none, (.ref 116), .none, 0⟩), ⟨[]⟩⟩
noncomputable abbrev s64 : Str := ⟨⟨[111,116,104,101,114]⟩⟩
noncomputable abbrev o78 : Obj := ⟨(.type cc1), none, (.seq ⟨[(.str s29 355), (.str s64 356)]⟩ 0), ⟨[]⟩⟩
noncomputable abbrev s65 : Str := ⟨⟨[68,101,99,105,109,97,108,46,112,108,117,115]⟩⟩
noncomputable abbrev o79 : Obj := ⟨.none, none, (.func ⟨s51, s65, fdP (cm 13 1), .stmts (fdB (cm 13 1)), fdS (cm 13 1), 0, [], .none, .none, .none, .none, none, .none, .none, 0⟩), ⟨[]⟩⟩
noncomputable abbrev o80 : Obj := oF cc0 [(.str s51 352), (.str s65 353), (.str s1 354), iN 49, iN 2, iN 0, iN 0, iN 3, (.ref 118), (.bool true), iN 181, (.ref 119), .none, (.ref 120), (.ref 121), (.ref 122), iN 357, iN 49, (.str s1 358)]
noncomputable abbrev o81 : Obj := ⟨(.type cc2), none, (.func ⟨s51, s65, fdP (cm 13 1), .stmts (fdB (cm 13 1)), fdS (cm 13 1), 3, [], .none, .none, .none, (.str s50 329), none, (.ref 123), .none, 0⟩), ⟨[]⟩⟩
noncomputable abbrev o82 : Obj := ⟨(.type cc1), none, (.seq ⟨[(.str s29 363), (.str s64 364)]⟩ 0), ⟨[]⟩⟩
noncomputable abbrev s66 : Str := ⟨⟨[68,101,99,105,109,97,108,46,109,105,110,117,115]⟩⟩
noncomputable abbrev o83 : Obj := ⟨.none, none, (.func ⟨s52, s66, fdP (cm 13 2), .stmts (fdB (cm 13 2)), fdS (cm 13 2), 0, [], .none, .none, .none, .none, none, .none, .none, 0⟩), ⟨[]⟩⟩
noncomputable abbrev o84 : Obj := oF cc0 [(.str s52 360), (.str s66 361), (.str s1 362), iN 52, iN 2, iN 0, iN 0, iN 3, (.ref 125), (.bool true), iN 181, (.ref 126), .none, (.ref 127), (.ref 128), (.ref 129), iN 365, iN 52, (.str s1 366)]
noncomputable abbrev o85 : Obj := ⟨(.type cc2), none, (.func ⟨s52, s66, fdP (cm 13 2), .stmts (fdB (cm 13 2)), fdS (cm 13 2), 3, [], .none, .none, .none, (.str s50 329), none, (.ref 130), .none, 0⟩), ⟨[]⟩⟩
noncomputable abbrev o86 : Obj := ⟨(.type cc1), none, (.seq ⟨[(.str s29 371), (.str s64 372)]⟩ 0), ⟨[]⟩⟩
noncomputable abbrev s67 : Str := ⟨⟨[68,101,99,105,109,97,108,46,116,105,109,101,115]⟩⟩
noncomputable abbrev o87 : Obj := ⟨.none, none, (.func ⟨s53, s67, fdP (cm 13 3), .stmts (fdB (cm 13 3)), fdS (cm 13 3), 0, [], .none, .none, .none, .none, none, .none, .none, 0⟩), ⟨[]⟩⟩
noncomputable abbrev o88 : Obj := oF cc0 [(.str s53 368), (.str s67 369), (.str s1 370), iN 55, iN 2, iN 0, iN 0, iN 3, (.ref 132), (.bool true), iN 181, (.ref 133), .none, (.ref 134), (.ref 135), (.ref 136), iN 373, iN 55, (.str s1 374)]
noncomputable abbrev o89 : Obj := ⟨(.type cc2), none, (.func ⟨s53, s67, fdP (cm 13 3), .stmts (fdB (cm 13 3)), fdS (cm 13 3), 3, [], .none, .none, .none, (.str s50 329), none, (.ref 137), .none, 0⟩), ⟨[]⟩⟩
noncomputable abbrev o90 : Obj := ⟨(.type cc1), none, (.seq ⟨[(.str s29 379)]⟩ 0), ⟨[]⟩⟩
noncomputable abbrev s68 : Str := ⟨⟨[68,101,99,105,109,97,108,46,110,101,103,97,116,101,100]⟩⟩
noncomputable abbrev o91 : Obj := ⟨.none, none, (.func ⟨s54, s68, fdP (cm 13 4), .stmts (fdB (cm 13 4)), fdS (cm 13 4), 0, [], .none, .none, .none, .none, none, .none, .none, 0⟩), ⟨[]⟩⟩
noncomputable abbrev o92 : Obj := oF cc0 [(.str s54 376), (.str s68 377), (.str s1 378), iN 58, iN 1, iN 0, iN 0, iN 3, (.ref 139), (.bool true), iN 181, (.ref 140), .none, (.ref 141), (.ref 142), (.ref 143), iN 380, iN 58, (.str s1 381)]
noncomputable abbrev o93 : Obj := ⟨(.type cc2), none, (.func ⟨s54, s68, fdP (cm 13 4), .stmts (fdB (cm 13 4)), fdS (cm 13 4), 3, [], .none, .none, .none, (.str s50 329), none, (.ref 144), .none, 0⟩), ⟨[]⟩⟩
noncomputable abbrev o94 : Obj := ⟨(.type cc1), none, (.seq ⟨[(.str s29 386), (.str s64 387)]⟩ 0), ⟨[]⟩⟩
noncomputable abbrev s69 : Str := ⟨⟨[68,101,99,105,109,97,108,46,99,111,109,112,97,114,101,100]⟩⟩
noncomputable abbrev o95 : Obj := ⟨.none, none, (.func ⟨s55, s69, fdP (cm 13 5), .stmts (fdB (cm 13 5)), fdS (cm 13 5), 0, [], .none, .none, .none, .none, none, .none, .none, 0⟩), ⟨[]⟩⟩
noncomputable abbrev o96 : Obj := oF cc0 [(.str s55 383), (.str s69 384), (.str s1 385), iN 61, iN 2, iN 0, iN 0, iN 3, (.ref 146), (.bool true), iN 181, (.ref 147), .none, (.ref 148), (.ref 149), (.ref 150), iN 388, iN 61, (.str s1 389)]
noncomputable abbrev o97 : Obj := ⟨(.type cc2), none, (.func ⟨s55, s69, fdP (cm 13 5), .stmts (fdB (cm 13 5)), fdS (cm 13 5), 3, [], .none, .none, .none, (.str s50 329), none, (.ref 151), .none, 0⟩), ⟨[]⟩⟩
noncomputable abbrev o98 : Obj := ⟨(.type cc1), none, (.seq ⟨[(.str s29 394)]⟩ 0), ⟨[]⟩⟩
noncomputable abbrev s70 : Str := ⟨⟨[68,101,99,105,109,97,108,46,105,115,95,119,104,111,108,101]⟩⟩
noncomputable abbrev o99 : Obj := ⟨.none, none, (.func ⟨s56, s70, fdP (cm 13 6), .stmts (fdB (cm 13 6)), fdS (cm 13 6), 0, [], .none, .none, .none, .none, none, .none, .none, 0⟩), ⟨[]⟩⟩
noncomputable abbrev o100 : Obj := oF cc0 [(.str s56 391), (.str s70 392), (.str s1 393), iN 64, iN 1, iN 0, iN 0, iN 3, (.ref 153), (.bool true), iN 181, (.ref 154), .none, (.ref 155), (.ref 156), (.ref 157), iN 395, iN 64, (.str s1 396)]
noncomputable abbrev o101 : Obj := ⟨(.type cc2), none, (.func ⟨s56, s70, fdP (cm 13 6), .stmts (fdB (cm 13 6)), fdS (cm 13 6), 3, [], .none, .none, .none, (.str s50 329), none, (.ref 158), .none, 0⟩), ⟨[]⟩⟩
noncomputable abbrev o102 : Obj := ⟨(.type cc1), none, (.seq ⟨[(.str s29 401)]⟩ 0), ⟨[]⟩⟩
noncomputable abbrev s71 : Str := ⟨⟨[68,101,99,105,109,97,108,46,102,108,111,111,114]⟩⟩
noncomputable abbrev o103 : Obj := ⟨.none, none, (.func ⟨s57, s71, fdP (cm 13 7), .stmts (fdB (cm 13 7)), fdS (cm 13 7), 0, [], .none, .none, .none, .none, none, .none, .none, 0⟩), ⟨[]⟩⟩
noncomputable abbrev o104 : Obj := oF cc0 [(.str s57 398), (.str s71 399), (.str s1 400), iN 67, iN 1, iN 0, iN 0, iN 3, (.ref 160), (.bool true), iN 181, (.ref 161), .none, (.ref 162), (.ref 163), (.ref 164), iN 402, iN 67, (.str s1 403)]
noncomputable abbrev o105 : Obj := ⟨(.type cc2), none, (.func ⟨s57, s71, fdP (cm 13 7), .stmts (fdB (cm 13 7)), fdS (cm 13 7), 3, [], .none, .none, .none, (.str s50 329), none, (.ref 165), .none, 0⟩), ⟨[]⟩⟩
noncomputable abbrev o106 : Obj := ⟨(.type cc1), none, (.seq ⟨[(.str s29 408), (.str s62 409)]⟩ 0), ⟨[]⟩⟩
noncomputable abbrev s72 : Str := ⟨⟨[68,101,99,105,109,97,108,46,114,111,117,110,100,101,100]⟩⟩
noncomputable abbrev o107 : Obj := ⟨.none, none, (.func ⟨s58, s72, fdP (cm 13 8), .stmts (fdB (cm 13 8)), fdS (cm 13 8), 0, [], .none, .none, .none, .none, none, .none, .none, 0⟩), ⟨[]⟩⟩
noncomputable abbrev o108 : Obj := oF cc0 [(.str s58 405), (.str s72 406), (.str s1 407), iN 70, iN 2, iN 0, iN 0, iN 3, (.ref 167), (.bool true), iN 181, (.ref 168), .none, (.ref 169), (.ref 170), (.ref 171), iN 410, iN 70, (.str s1 411)]
noncomputable abbrev o109 : Obj := ⟨(.type cc2), none, (.func ⟨s58, s72, fdP (cm 13 8), .stmts (fdB (cm 13 8)), fdS (cm 13 8), 3, [], .none, .none, .none, (.str s50 329), none, (.ref 172), .none, 0⟩), ⟨[]⟩⟩
noncomputable abbrev o110 : Obj := ⟨(.type cc1), none, (.seq ⟨[(.str s29 416)]⟩ 0), ⟨[]⟩⟩
noncomputable abbrev s73 : Str := ⟨⟨[68,101,99,105,109,97,108,46,116,111,108,100]⟩⟩
noncomputable abbrev o111 : Obj := ⟨.none, none, (.func ⟨s27, s73, fdP (cm 13 9), .stmts (fdB (cm 13 9)), fdS (cm 13 9), 0, [], .none, .none, .none, .none, none, .none, .none, 0⟩), ⟨[]⟩⟩
noncomputable abbrev o112 : Obj := oF cc0 [(.str s27 413), (.str s73 414), (.str s1 415), iN 73, iN 1, iN 0, iN 0, iN 3, (.ref 174), (.bool true), iN 181, (.ref 175), .none, (.ref 176), (.ref 177), (.ref 178), iN 417, iN 73, (.str s1 418)]
noncomputable abbrev o113 : Obj := ⟨(.type cc2), none, (.func ⟨s27, s73, fdP (cm 13 9), .stmts (fdB (cm 13 9)), fdS (cm 13 9), 3, [], .none, .none, .none, (.str s50 329), none, (.ref 179), .none, 0⟩), ⟨[]⟩⟩
noncomputable abbrev s74 : Str := ⟨⟨[110,117,109,101,114,97,108,115]⟩⟩
noncomputable abbrev o114 : Obj := ⟨(.type cc1), none, (.seq ⟨[(.str s29 423), (.str s74 424)]⟩ 0), ⟨[]⟩⟩
noncomputable abbrev s75 : Str := ⟨⟨[68,101,99,105,109,97,108,46,116,101,120,116]⟩⟩
noncomputable abbrev o115 : Obj := ⟨.none, none, (.func ⟨s59, s75, fdP (cm 13 10), .stmts (fdB (cm 13 10)), fdS (cm 13 10), 0, [], .none, .none, .none, .none, none, .none, .none, 0⟩), ⟨[]⟩⟩
noncomputable abbrev o116 : Obj := oF cc0 [(.str s59 420), (.str s75 421), (.str s1 422), iN 76, iN 1, iN 0, iN 0, iN 3, (.ref 181), (.bool true), iN 181, (.ref 182), .none, (.ref 183), (.ref 184), (.ref 185), iN 425, iN 76, (.str s1 426)]
noncomputable abbrev o117 : Obj := ⟨(.type cc2), none, (.func ⟨s59, s75, fdP (cm 13 10), .stmts (fdB (cm 13 10)), fdS (cm 13 10), 3, [], .none, .none, .none, (.str s50 329), none, (.ref 186), .none, 0⟩), ⟨[]⟩⟩
noncomputable abbrev o118 : Obj := ⟨(.type cc1), none, (.seq ⟨[(.str s29 431), (.str s74 432)]⟩ 0), ⟨[]⟩⟩
noncomputable abbrev s76 : Str := ⟨⟨[68,101,99,105,109,97,108,46,108,101,97,115,116,95,116,101,120,116]⟩⟩
noncomputable abbrev o119 : Obj := ⟨.none, none, (.func ⟨s60, s76, fdP (cm 13 11), .stmts (fdB (cm 13 11)), fdS (cm 13 11), 0, [], .none, .none, .none, .none, none, .none, .none, 0⟩), ⟨[]⟩⟩
noncomputable abbrev o120 : Obj := oF cc0 [(.str s60 428), (.str s76 429), (.str s1 430), iN 83, iN 1, iN 0, iN 0, iN 3, (.ref 188), (.bool true), iN 181, (.ref 189), .none, (.ref 190), (.ref 191), (.ref 192), iN 433, iN 83, (.str s1 434)]
noncomputable abbrev o121 : Obj := ⟨(.type cc2), none, (.func ⟨s60, s76, fdP (cm 13 11), .stmts (fdB (cm 13 11)), fdS (cm 13 11), 3, [], .none, .none, .none, (.str s50 329), none, (.ref 193), .none, 0⟩), ⟨[]⟩⟩
noncomputable abbrev o122 : Obj := ⟨(.type cc1), none, (.seq ⟨[(.str s62 436), (.str s61 437)]⟩ 0), ⟨[]⟩⟩
noncomputable abbrev o123 (P : Params) : Obj := ⟨(.type cc3), none, (.dict ⟨[⟨(PyData.keyHash P s22), (.str s22 338), (.str s50 329)⟩, ⟨(PyData.keyHash P s25), (.str s25 342), (.int (.ofNat 40) 341)⟩, ⟨(PyData.keyHash P s26), (.str s26 351), (.ref 117)⟩, ⟨(PyData.keyHash P s51), (.str s51 359), (.ref 124)⟩, ⟨(PyData.keyHash P s52), (.str s52 367), (.ref 131)⟩, ⟨(PyData.keyHash P s53), (.str s53 375), (.ref 138)⟩, ⟨(PyData.keyHash P s54), (.str s54 382), (.ref 145)⟩, ⟨(PyData.keyHash P s55), (.str s55 390), (.ref 152)⟩, ⟨(PyData.keyHash P s56), (.str s56 397), (.ref 159)⟩, ⟨(PyData.keyHash P s57), (.str s57 404), (.ref 166)⟩, ⟨(PyData.keyHash P s58), (.str s58 412), (.ref 173)⟩, ⟨(PyData.keyHash P s27), (.str s27 419), (.ref 180)⟩, ⟨(PyData.keyHash P s59), (.str s59 427), (.ref 187)⟩, ⟨(PyData.keyHash P s60), (.str s60 435), (.ref 194)⟩, ⟨(PyData.keyHash P s28), (.str s28 438), (.ref 195)⟩, ⟨(PyData.keyHash P s35), (.str s35 440), (.ref 198)⟩, ⟨(PyData.keyHash P s36), (.str s36 442), (.ref 199)⟩, ⟨(PyData.keyHash P s7), (.str s7 443), .none⟩]⟩ 4), ⟨[]⟩⟩
noncomputable abbrev o124 : Obj := ⟨(.type cc8), none, (.cls { name := s45, bases := [(.type cc4)], mro := [(.ref 197), (.type cc4)], ns := 196, qualname := s45, hasDict := true, slotNames := [], subclasses := [], abstract := false, collection := none, hasDel := false }), ⟨[none, none, (some (.str s45 331)), (some (.str s45 339)), (some (.builtin cc11)), (some (.bool true))]⟩⟩
noncomputable abbrev o125 : Obj := oF cc5 [(.str s35 439), (.ref 197), (.builtin cc13), (.builtin SL.s12411053484034534018x21)]
noncomputable abbrev o126 : Obj := oF cc5 [(.str s36 441), (.ref 197), (.builtin cc12), .none]
noncomputable abbrev o127 : Obj := oF cc9 [(.ref 197), (.ref 197), (.ref 197)]
noncomputable abbrev o128 : Obj := oF cc7 [(.builtin cc10), (.ref 197)]
noncomputable abbrev s77 : Str := ⟨⟨[110,117,109,98,101,114]⟩⟩
noncomputable abbrev o129 : Obj := ⟨(.type cc1), none, (.seq ⟨[(.str s77 449)]⟩ 0), ⟨[]⟩⟩
noncomputable abbrev o130 : Obj := ⟨.none, none, (.func ⟨s46, s46, fdP (st 14), .stmts (fdB (st 14)), fdS (st 14), 0, [], .none, .none, .none, .none, none, .none, .none, 0⟩), ⟨[]⟩⟩
noncomputable abbrev o131 : Obj := oF cc0 [(.str s46 446), (.str s46 447), (.str s1 448), iN 88, iN 1, iN 0, iN 0, iN 3, (.ref 202), (.bool true), iN 181, (.ref 203), .none, (.ref 204), (.ref 205), (.ref 206), iN 450, iN 88, (.str s1 451)]
noncomputable abbrev o132 : Obj := ⟨(.type cc2), none, (.func ⟨s46, s46, fdP (st 14), .stmts (fdB (st 14)), fdS (st 14), 3, [], .none, .none, .none, (.str s50 329), none, (.ref 207), .none, 0⟩), ⟨[]⟩⟩
noncomputable abbrev s78 : Str := ⟨⟨[78,97,109,101]⟩⟩
noncomputable abbrev s79 : Str := ⟨⟨[83,116,114,105,110,103]⟩⟩
noncomputable abbrev s80 : Str := ⟨⟨[83,116,114,101,97,109]⟩⟩
noncomputable abbrev s81 : Str := ⟨⟨[82,101,102,101,114,101,110,99,101]⟩⟩
noncomputable abbrev o133 (P : Params) : Obj := ⟨(.type cc3), none, (.dict ⟨[⟨(PyData.keyHash P s5), (.str s5 165), (.str s41 453)⟩, ⟨(PyData.keyHash P s7), (.str s7 166), .none⟩, ⟨(PyData.keyHash P s8), (.str s8 167), .none⟩, ⟨(PyData.keyHash P s9), (.str s9 168), (.builtin SL.s7097527257260152453x26)⟩, ⟨(PyData.keyHash P s10), (.str s10 169), .none⟩, ⟨(PyData.keyHash P s11), (.str s11 170), (.ref 6)⟩, ⟨(PyData.keyHash P s12), (.str s12 171), (.ref 4)⟩, ⟨(PyData.keyHash P s13), (.str s13 173), (.str s1 172)⟩, ⟨(PyData.keyHash P s14), (.str s14 174), .none⟩, ⟨(PyData.keyHash P s15), (.str s15 193), (.ref 21)⟩, ⟨(PyData.keyHash P s16), (.str s16 197), (.int (.ofNat 65535) 196)⟩, ⟨(PyData.keyHash P s17), (.str s17 237), (.ref 45)⟩, ⟨(PyData.keyHash P s18), (.str s18 243), (.ref 54)⟩, ⟨(PyData.keyHash P s19), (.str s19 285), (.ref 79)⟩, ⟨(PyData.keyHash P s20), (.str s20 301), (.ref 92)⟩, ⟨(PyData.keyHash P s42), (.str s42 310), (.ref 95)⟩, ⟨(PyData.keyHash P s43), (.str s43 321), (.ref 96)⟩, ⟨(PyData.keyHash P s44), (.str s44 328), (.ref 103)⟩, ⟨(PyData.keyHash P s45), (.str s45 445), (.ref 197)⟩, ⟨(PyData.keyHash P s46), (.str s46 452), (.ref 208)⟩, ⟨(PyData.keyHash P s47), (.str s47 456), (.int (.ofNat 30) 455)⟩, ⟨(PyData.keyHash P s78), (.str s78 485), (.ref 225)⟩, ⟨(PyData.keyHash P s79), (.str s79 516), (.ref 247)⟩, ⟨(PyData.keyHash P s80), (.str s80 547), (.ref 268)⟩, ⟨(PyData.keyHash P s81), (.str s81 585), (.ref 296)⟩]⟩ 25), ⟨[]⟩⟩
noncomputable abbrev o134 : Obj := ⟨.none, none, (.fields ⟨[iN 1, iN 0, (.ref 20), iN 6, iN 0, (.ref 27), iN 15, iN 0, (.ref 53), iN 23, iN 0, (.ref 60), iN 32, iN 0, (.ref 88), iN 37, iN 0, (.ref 102), iN 40, iN 0, (.ref 109), iN 88, iN 0, (.ref 207), iN 92, iN 0, (.ref 214), iN 96, iN 0, (.ref 235), iN 101, iN 0, (.ref 257), iN 106, iN 0, (.ref 278)]⟩), ⟨[]⟩⟩
noncomputable abbrev o135 (P : Params) : Obj := ⟨(.type cc3), none, (.dict ⟨[⟨(PyData.keyHash P s22), (.str s22 464), (.str s41 453)⟩, ⟨(PyData.keyHash P s24), (.str s24 466), (.str s78 465)⟩, ⟨(PyData.keyHash P s25), (.str s25 468), (.int (.ofNat 92) 467)⟩, ⟨(PyData.keyHash P s26), (.str s26 476), (.ref 222)⟩, ⟨(PyData.keyHash P s28), (.str s28 478), (.ref 223)⟩]⟩ 5), ⟨[]⟩⟩
noncomputable abbrev o136 : Obj := ⟨.none, none, (.fields ⟨[iN 94, iN 4, (.ref 221)]⟩), ⟨[]⟩⟩
noncomputable abbrev o137 : Obj := oF cc0 [(.str s78 459), (.str s78 460), (.str s1 461), iN 92, iN 0, iN 0, iN 0, iN 0, (.ref 212), (.bool false), iN 181, (.ref 213), .none, .none, .none, .none, iN 462, iN 92, (.str s1 463)]
noncomputable abbrev o138 : Obj := ⟨(.type cc6), none, .plain, ⟨[(some (.ref 214)), (some (.ref 3)), (some (.ref 211)), none, (some (.str s41 453)), none, (some (.ref 0))]⟩⟩
noncomputable abbrev o139 : Obj := ⟨(.type cc1), none, (.seq ⟨[(.str s29 472), (.str s59 473)]⟩ 0), ⟨[]⟩⟩
noncomputable abbrev s82 : Str := ⟨⟨[78,97,109,101,46,95,95,105,110,105,116,95,95]⟩⟩
noncomputable abbrev o140 : Obj := ⟨.none, none, (.func ⟨s26, s82, fdP (cm 17 0), .stmts (fdB (cm 17 0)), fdS (cm 17 0), 0, [], .none, .none, .none, .none, none, .none, .none, 0⟩), ⟨[]⟩⟩
noncomputable abbrev o141 : Obj := oF cc0 [(.str s26 469), (.str s82 470), (.str s1 471), iN 94, iN 2, iN 0, iN 0, iN 3, (.ref 216), (.bool true), iN 181, (.ref 217), .none, (.ref 218), (.ref 219), (.ref 220), iN 474, iN 94, (.str s1 475)]
noncomputable abbrev o142 : Obj := ⟨(.type cc2), none, (.func ⟨s26, s82, fdP (cm 17 0), .stmts (fdB (cm 17 0)), fdS (cm 17 0), 3, [], .none, .none, .none, (.str s41 453), none, (.ref 221), .none, 0⟩), ⟨[]⟩⟩
noncomputable abbrev o143 : Obj := ⟨(.type cc1), none, (.seq ⟨[(.str s59 477)]⟩ 0), ⟨[]⟩⟩
noncomputable abbrev o144 (P : Params) : Obj := ⟨(.type cc3), none, (.dict ⟨[⟨(PyData.keyHash P s22), (.str s22 464), (.str s41 453)⟩, ⟨(PyData.keyHash P s25), (.str s25 468), (.int (.ofNat 92) 467)⟩, ⟨(PyData.keyHash P s26), (.str s26 476), (.ref 222)⟩, ⟨(PyData.keyHash P s28), (.str s28 478), (.ref 223)⟩, ⟨(PyData.keyHash P s35), (.str s35 480), (.ref 226)⟩, ⟨(PyData.keyHash P s36), (.str s36 482), (.ref 227)⟩, ⟨(PyData.keyHash P s7), (.str s7 483), .none⟩]⟩ 4), ⟨[]⟩⟩
noncomputable abbrev o145 : Obj := ⟨(.type cc8), none, (.cls { name := s78, bases := [(.type cc4)], mro := [(.ref 225), (.type cc4)], ns := 224, qualname := s78, hasDict := true, slotNames := [], subclasses := [], abstract := false, collection := none, hasDel := false }), ⟨[none, none, (some (.str s78 457)), (some (.str s78 465)), (some (.builtin cc11)), (some (.bool true))]⟩⟩
noncomputable abbrev o146 : Obj := oF cc5 [(.str s35 479), (.ref 225), (.builtin cc13), (.builtin SL.s12411053484034534018x21)]
noncomputable abbrev o147 : Obj := oF cc5 [(.str s36 481), (.ref 225), (.builtin cc12), .none]
noncomputable abbrev o148 : Obj := oF cc9 [(.ref 225), (.ref 225), (.ref 225)]
noncomputable abbrev o149 : Obj := oF cc7 [(.builtin cc10), (.ref 225)]
noncomputable abbrev o150 (P : Params) : Obj := ⟨(.type cc3), none, (.dict ⟨[⟨(PyData.keyHash P s22), (.str s22 493), (.str s41 453)⟩, ⟨(PyData.keyHash P s24), (.str s24 495), (.str s79 494)⟩, ⟨(PyData.keyHash P s25), (.str s25 497), (.int (.ofNat 96) 496)⟩, ⟨(PyData.keyHash P s26), (.str s26 506), (.ref 244)⟩, ⟨(PyData.keyHash P s28), (.str s28 509), (.ref 245)⟩]⟩ 5), ⟨[]⟩⟩
noncomputable abbrev o151 : Obj := ⟨.none, none, (.fields ⟨[iN 98, iN 4, (.ref 243)]⟩), ⟨[]⟩⟩
noncomputable abbrev o152 : Obj := oF cc0 [(.str s79 488), (.str s79 489), (.str s1 490), iN 96, iN 0, iN 0, iN 0, iN 0, (.ref 233), (.bool false), iN 181, (.ref 234), .none, .none, .none, .none, iN 491, iN 96, (.str s1 492)]
noncomputable abbrev o153 : Obj := ⟨(.type cc6), none, .plain, ⟨[(some (.ref 235)), (some (.ref 3)), (some (.ref 232)), none, (some (.str s41 453)), none, (some (.ref 0))]⟩⟩
noncomputable abbrev o154 : Obj := ⟨(.type cc1), none, (.seq ⟨[(.bool false)]⟩ 0), ⟨[]⟩⟩
noncomputable abbrev s83 : Str := ⟨⟨[111,99,116,101,116,115]⟩⟩
noncomputable abbrev s84 : Str := ⟨⟨[105,115,95,104,101,120]⟩⟩
noncomputable abbrev o155 : Obj := ⟨(.type cc1), none, (.seq ⟨[(.str s29 501), (.str s83 502), (.str s84 503)]⟩ 0), ⟨[]⟩⟩
noncomputable abbrev s85 : Str := ⟨⟨[83,116,114,105,110,103,46,95,95,105,110,105,116,95,95]⟩⟩
noncomputable abbrev o156 : Obj := ⟨.none, none, (.func ⟨s26, s85, fdP (cm 18 0), .stmts (fdB (cm 18 0)), fdS (cm 18 0), 0, [], .none, .none, .none, .none, none, .none, .none, 0⟩), ⟨[]⟩⟩
noncomputable abbrev o157 : Obj := oF cc0 [(.str s26 498), (.str s85 499), (.str s1 500), iN 98, iN 3, iN 0, iN 0, iN 3, (.ref 238), (.bool true), iN 181, (.ref 239), .none, (.ref 240), (.ref 241), (.ref 242), iN 504, iN 98, (.str s1 505)]
noncomputable abbrev o158 : Obj := ⟨(.type cc2), none, (.func ⟨s26, s85, fdP (cm 18 0), .stmts (fdB (cm 18 0)), fdS (cm 18 0), 3, [], (.ref 237), .none, .none, (.str s41 453), none, (.ref 243), .none, 0⟩), ⟨[]⟩⟩
noncomputable abbrev o159 : Obj := ⟨(.type cc1), none, (.seq ⟨[(.str s84 507), (.str s83 508)]⟩ 0), ⟨[]⟩⟩
noncomputable abbrev o160 (P : Params) : Obj := ⟨(.type cc3), none, (.dict ⟨[⟨(PyData.keyHash P s22), (.str s22 493), (.str s41 453)⟩, ⟨(PyData.keyHash P s25), (.str s25 497), (.int (.ofNat 96) 496)⟩, ⟨(PyData.keyHash P s26), (.str s26 506), (.ref 244)⟩, ⟨(PyData.keyHash P s28), (.str s28 509), (.ref 245)⟩, ⟨(PyData.keyHash P s35), (.str s35 511), (.ref 248)⟩, ⟨(PyData.keyHash P s36), (.str s36 513), (.ref 249)⟩, ⟨(PyData.keyHash P s7), (.str s7 514), .none⟩]⟩ 4), ⟨[]⟩⟩
noncomputable abbrev o161 : Obj := ⟨(.type cc8), none, (.cls { name := s79, bases := [(.type cc4)], mro := [(.ref 247), (.type cc4)], ns := 246, qualname := s79, hasDict := true, slotNames := [], subclasses := [], abstract := false, collection := none, hasDel := false }), ⟨[none, none, (some (.str s79 486)), (some (.str s79 494)), (some (.builtin cc11)), (some (.bool true))]⟩⟩
noncomputable abbrev o162 : Obj := oF cc5 [(.str s35 510), (.ref 247), (.builtin cc13), (.builtin SL.s12411053484034534018x21)]
noncomputable abbrev o163 : Obj := oF cc5 [(.str s36 512), (.ref 247), (.builtin cc12), .none]
noncomputable abbrev o164 : Obj := oF cc9 [(.ref 247), (.ref 247), (.ref 247)]
noncomputable abbrev o165 : Obj := oF cc7 [(.builtin cc10), (.ref 247)]
noncomputable abbrev o166 (P : Params) : Obj := ⟨(.type cc3), none, (.dict ⟨[⟨(PyData.keyHash P s22), (.str s22 524), (.str s41 453)⟩, ⟨(PyData.keyHash P s24), (.str s24 526), (.str s80 525)⟩, ⟨(PyData.keyHash P s25), (.str s25 528), (.int (.ofNat 101) 527)⟩, ⟨(PyData.keyHash P s26), (.str s26 537), (.ref 265)⟩, ⟨(PyData.keyHash P s28), (.str s28 540), (.ref 266)⟩]⟩ 5), ⟨[]⟩⟩
noncomputable abbrev o167 : Obj := ⟨.none, none, (.fields ⟨[iN 103, iN 4, (.ref 264)]⟩), ⟨[]⟩⟩
noncomputable abbrev o168 : Obj := oF cc0 [(.str s80 519), (.str s80 520), (.str s1 521), iN 101, iN 0, iN 0, iN 0, iN 0, (.ref 255), (.bool false), iN 181, (.ref 256), .none, .none, .none, .none, iN 522, iN 101, (.str s1 523)]
noncomputable abbrev o169 : Obj := ⟨(.type cc6), none, .plain, ⟨[(some (.ref 257)), (some (.ref 3)), (some (.ref 254)), none, (some (.str s41 453)), none, (some (.ref 0))]⟩⟩
noncomputable abbrev s86 : Str := ⟨⟨[104,101,97,100]⟩⟩
noncomputable abbrev o170 : Obj := ⟨(.type cc1), none, (.seq ⟨[(.str s29 532), (.str s86 533), (.str s83 534)]⟩ 0), ⟨[]⟩⟩
noncomputable abbrev s87 : Str := ⟨⟨[83,116,114,101,97,109,46,95,95,105,110,105,116,95,95]⟩⟩
noncomputable abbrev o171 : Obj := ⟨.none, none, (.func ⟨s26, s87, fdP (cm 19 0), .stmts (fdB (cm 19 0)), fdS (cm 19 0), 0, [], .none, .none, .none, .none, none, .none, .none, 0⟩), ⟨[]⟩⟩
noncomputable abbrev o172 : Obj := oF cc0 [(.str s26 529), (.str s87 530), (.str s1 531), iN 103, iN 3, iN 0, iN 0, iN 3, (.ref 259), (.bool true), iN 181, (.ref 260), .none, (.ref 261), (.ref 262), (.ref 263), iN 535, iN 103, (.str s1 536)]
noncomputable abbrev o173 : Obj := ⟨(.type cc2), none, (.func ⟨s26, s87, fdP (cm 19 0), .stmts (fdB (cm 19 0)), fdS (cm 19 0), 3, [], .none, .none, .none, (.str s41 453), none, (.ref 264), .none, 0⟩), ⟨[]⟩⟩
noncomputable abbrev o174 : Obj := ⟨(.type cc1), none, (.seq ⟨[(.str s86 538), (.str s83 539)]⟩ 0), ⟨[]⟩⟩
noncomputable abbrev o175 (P : Params) : Obj := ⟨(.type cc3), none, (.dict ⟨[⟨(PyData.keyHash P s22), (.str s22 524), (.str s41 453)⟩, ⟨(PyData.keyHash P s25), (.str s25 528), (.int (.ofNat 101) 527)⟩, ⟨(PyData.keyHash P s26), (.str s26 537), (.ref 265)⟩, ⟨(PyData.keyHash P s28), (.str s28 540), (.ref 266)⟩, ⟨(PyData.keyHash P s35), (.str s35 542), (.ref 269)⟩, ⟨(PyData.keyHash P s36), (.str s36 544), (.ref 270)⟩, ⟨(PyData.keyHash P s7), (.str s7 545), .none⟩]⟩ 4), ⟨[]⟩⟩
noncomputable abbrev o176 : Obj := ⟨(.type cc8), none, (.cls { name := s80, bases := [(.type cc4)], mro := [(.ref 268), (.type cc4)], ns := 267, qualname := s80, hasDict := true, slotNames := [], subclasses := [], abstract := false, collection := none, hasDel := false }), ⟨[none, none, (some (.str s80 517)), (some (.str s80 525)), (some (.builtin cc11)), (some (.bool true))]⟩⟩
noncomputable abbrev o177 : Obj := oF cc5 [(.str s35 541), (.ref 268), (.builtin cc13), (.builtin SL.s12411053484034534018x21)]
noncomputable abbrev o178 : Obj := oF cc5 [(.str s36 543), (.ref 268), (.builtin cc12), .none]
noncomputable abbrev o179 : Obj := oF cc9 [(.ref 268), (.ref 268), (.ref 268)]
noncomputable abbrev o180 : Obj := oF cc7 [(.builtin cc10), (.ref 268)]
noncomputable abbrev s88 : Str := ⟨⟨[112,97,105,114]⟩⟩
noncomputable abbrev o181 (P : Params) : Obj := ⟨(.type cc3), none, (.dict ⟨[⟨(PyData.keyHash P s22), (.str s22 555), (.str s41 453)⟩, ⟨(PyData.keyHash P s24), (.str s24 557), (.str s81 556)⟩, ⟨(PyData.keyHash P s25), (.str s25 559), (.int (.ofNat 106) 558)⟩, ⟨(PyData.keyHash P s26), (.str s26 568), (.ref 286)⟩, ⟨(PyData.keyHash P s88), (.str s88 575), (.ref 293)⟩, ⟨(PyData.keyHash P s28), (.str s28 578), (.ref 294)⟩]⟩ 6), ⟨[]⟩⟩
noncomputable abbrev o182 : Obj := ⟨.none, none, (.fields ⟨[iN 108, iN 4, (.ref 285), iN 112, iN 4, (.ref 292)]⟩), ⟨[]⟩⟩
noncomputable abbrev o183 : Obj := oF cc0 [(.str s81 550), (.str s81 551), (.str s1 552), iN 106, iN 0, iN 0, iN 0, iN 0, (.ref 276), (.bool false), iN 181, (.ref 277), .none, .none, .none, .none, iN 553, iN 106, (.str s1 554)]
noncomputable abbrev o184 : Obj := ⟨(.type cc6), none, .plain, ⟨[(some (.ref 278)), (some (.ref 3)), (some (.ref 275)), none, (some (.str s41 453)), none, (some (.ref 0))]⟩⟩
noncomputable abbrev s89 : Str := ⟨⟨[103,101,110,101,114,97,116,105,111,110]⟩⟩
noncomputable abbrev o185 : Obj := ⟨(.type cc1), none, (.seq ⟨[(.str s29 563), (.str s77 564), (.str s89 565)]⟩ 0), ⟨[]⟩⟩
noncomputable abbrev s90 : Str := ⟨⟨[82,101,102,101,114,101,110,99,101,46,95,95,105,110,105,116,95,95]⟩⟩
noncomputable abbrev o186 : Obj := ⟨.none, none, (.func ⟨s26, s90, fdP (cm 20 0), .stmts (fdB (cm 20 0)), fdS (cm 20 0), 0, [], .none, .none, .none, .none, none, .none, .none, 0⟩), ⟨[]⟩⟩
noncomputable abbrev o187 : Obj := oF cc0 [(.str s26 560), (.str s90 561), (.str s1 562), iN 108, iN 3, iN 0, iN 0, iN 3, (.ref 280), (.bool true), iN 181, (.ref 281), .none, (.ref 282), (.ref 283), (.ref 284), iN 566, iN 108, (.str s1 567)]
noncomputable abbrev o188 : Obj := ⟨(.type cc2), none, (.func ⟨s26, s90, fdP (cm 20 0), .stmts (fdB (cm 20 0)), fdS (cm 20 0), 3, [], .none, .none, .none, (.str s41 453), none, (.ref 285), .none, 0⟩), ⟨[]⟩⟩
noncomputable abbrev o189 : Obj := ⟨(.type cc1), none, (.seq ⟨[(.str s29 572)]⟩ 0), ⟨[]⟩⟩
noncomputable abbrev s91 : Str := ⟨⟨[82,101,102,101,114,101,110,99,101,46,112,97,105,114]⟩⟩
noncomputable abbrev o190 : Obj := ⟨.none, none, (.func ⟨s88, s91, fdP (cm 20 1), .stmts (fdB (cm 20 1)), fdS (cm 20 1), 0, [], .none, .none, .none, .none, none, .none, .none, 0⟩), ⟨[]⟩⟩
noncomputable abbrev o191 : Obj := oF cc0 [(.str s88 569), (.str s91 570), (.str s1 571), iN 112, iN 1, iN 0, iN 0, iN 3, (.ref 287), (.bool true), iN 181, (.ref 288), .none, (.ref 289), (.ref 290), (.ref 291), iN 573, iN 112, (.str s1 574)]
noncomputable abbrev o192 : Obj := ⟨(.type cc2), none, (.func ⟨s88, s91, fdP (cm 20 1), .stmts (fdB (cm 20 1)), fdS (cm 20 1), 3, [], .none, .none, .none, (.str s41 453), none, (.ref 292), .none, 0⟩), ⟨[]⟩⟩
noncomputable abbrev o193 : Obj := ⟨(.type cc1), none, (.seq ⟨[(.str s89 576), (.str s77 577)]⟩ 0), ⟨[]⟩⟩
noncomputable abbrev o194 (P : Params) : Obj := ⟨(.type cc3), none, (.dict ⟨[⟨(PyData.keyHash P s22), (.str s22 555), (.str s41 453)⟩, ⟨(PyData.keyHash P s25), (.str s25 559), (.int (.ofNat 106) 558)⟩, ⟨(PyData.keyHash P s26), (.str s26 568), (.ref 286)⟩, ⟨(PyData.keyHash P s88), (.str s88 575), (.ref 293)⟩, ⟨(PyData.keyHash P s28), (.str s28 578), (.ref 294)⟩, ⟨(PyData.keyHash P s35), (.str s35 580), (.ref 297)⟩, ⟨(PyData.keyHash P s36), (.str s36 582), (.ref 298)⟩, ⟨(PyData.keyHash P s7), (.str s7 583), .none⟩]⟩ 4), ⟨[]⟩⟩
noncomputable abbrev o195 : Obj := ⟨(.type cc8), none, (.cls { name := s81, bases := [(.type cc4)], mro := [(.ref 296), (.type cc4)], ns := 295, qualname := s81, hasDict := true, slotNames := [], subclasses := [], abstract := false, collection := none, hasDel := false }), ⟨[none, none, (some (.str s81 548)), (some (.str s81 556)), (some (.builtin cc11)), (some (.bool true))]⟩⟩
noncomputable abbrev o196 : Obj := oF cc5 [(.str s35 579), (.ref 296), (.builtin cc13), (.builtin SL.s12411053484034534018x21)]
noncomputable abbrev o197 : Obj := oF cc5 [(.str s36 581), (.ref 296), (.builtin cc12), .none]
noncomputable abbrev o198 : Obj := oF cc9 [(.ref 296), (.ref 296), (.ref 296)]
noncomputable abbrev o199 : Obj := oF cc7 [(.builtin cc10), (.ref 296)]
noncomputable abbrev s92 : Str := ⟨⟨[107,105,110,100,95,111,102]⟩⟩
noncomputable abbrev s93 : Str := ⟨⟨[116,111,108,100,95,112,108,97,105,110]⟩⟩
noncomputable abbrev s94 : Str := ⟨⟨[116,111,108,100,95,111,98,106,101,99,116,115]⟩⟩
noncomputable abbrev s95 : Str := ⟨⟨[112,97,114,116,115,95,111,102]⟩⟩
noncomputable abbrev s96 : Str := ⟨⟨[100,101,112,116,104,95,111,102]⟩⟩
noncomputable abbrev s97 : Str := ⟨⟨[76,111,111,107,117,112]⟩⟩
noncomputable abbrev s98 : Str := ⟨⟨[83,104,101,108,102]⟩⟩
noncomputable abbrev o200 (P : Params) : Obj := ⟨(.type cc3), none, (.dict ⟨[⟨(PyData.keyHash P s5), (.str s5 165), (.str s41 453)⟩, ⟨(PyData.keyHash P s7), (.str s7 166), .none⟩, ⟨(PyData.keyHash P s8), (.str s8 167), .none⟩, ⟨(PyData.keyHash P s9), (.str s9 168), (.builtin SL.s7097527257260152453x26)⟩, ⟨(PyData.keyHash P s10), (.str s10 169), .none⟩, ⟨(PyData.keyHash P s11), (.str s11 170), (.ref 6)⟩, ⟨(PyData.keyHash P s12), (.str s12 171), (.ref 4)⟩, ⟨(PyData.keyHash P s13), (.str s13 173), (.str s1 172)⟩, ⟨(PyData.keyHash P s14), (.str s14 174), .none⟩, ⟨(PyData.keyHash P s15), (.str s15 193), (.ref 21)⟩, ⟨(PyData.keyHash P s16), (.str s16 197), (.int (.ofNat 65535) 196)⟩, ⟨(PyData.keyHash P s17), (.str s17 237), (.ref 45)⟩, ⟨(PyData.keyHash P s18), (.str s18 243), (.ref 54)⟩, ⟨(PyData.keyHash P s19), (.str s19 285), (.ref 79)⟩, ⟨(PyData.keyHash P s20), (.str s20 301), (.ref 92)⟩, ⟨(PyData.keyHash P s42), (.str s42 310), (.ref 95)⟩, ⟨(PyData.keyHash P s43), (.str s43 321), (.ref 96)⟩, ⟨(PyData.keyHash P s44), (.str s44 328), (.ref 103)⟩, ⟨(PyData.keyHash P s45), (.str s45 445), (.ref 197)⟩, ⟨(PyData.keyHash P s46), (.str s46 452), (.ref 208)⟩, ⟨(PyData.keyHash P s47), (.str s47 456), (.int (.ofNat 30) 455)⟩, ⟨(PyData.keyHash P s78), (.str s78 485), (.ref 225)⟩, ⟨(PyData.keyHash P s79), (.str s79 516), (.ref 247)⟩, ⟨(PyData.keyHash P s80), (.str s80 547), (.ref 268)⟩, ⟨(PyData.keyHash P s81), (.str s81 585), (.ref 296)⟩, ⟨(PyData.keyHash P s92), (.str s92 592), (.ref 307)⟩, ⟨(PyData.keyHash P s93), (.str s93 600), (.ref 314)⟩, ⟨(PyData.keyHash P s27), (.str s27 606), (.ref 319)⟩, ⟨(PyData.keyHash P s94), (.str s94 607), (.ref 319)⟩, ⟨(PyData.keyHash P s95), (.str s95 613), (.ref 324)⟩, ⟨(PyData.keyHash P s96), (.str s96 625), (.ref 331)⟩, ⟨(PyData.keyHash P s97), (.str s97 677), (.ref 363)⟩, ⟨(PyData.keyHash P s98), (.str s98 739), (.ref 417)⟩]⟩ 33), ⟨[]⟩⟩
noncomputable abbrev o201 : Obj := ⟨.none, none, (.fields ⟨[iN 1, iN 0, (.ref 20), iN 6, iN 0, (.ref 27), iN 15, iN 0, (.ref 53), iN 23, iN 0, (.ref 60), iN 32, iN 0, (.ref 88), iN 37, iN 0, (.ref 102), iN 40, iN 0, (.ref 109), iN 88, iN 0, (.ref 207), iN 92, iN 0, (.ref 214), iN 96, iN 0, (.ref 235), iN 101, iN 0, (.ref 257), iN 106, iN 0, (.ref 278), iN 114, iN 0, (.ref 306), iN 136, iN 0, (.ref 313), iN 150, iN 0, (.ref 318), iN 160, iN 0, (.ref 323), iN 169, iN 0, (.ref 330), iN 179, iN 0, (.ref 337), iN 198, iN 0, (.ref 373)]⟩), ⟨[]⟩⟩
noncomputable abbrev s99 : Str := ⟨⟨[118,97,108,117,101]⟩⟩
noncomputable abbrev o202 : Obj := ⟨(.type cc1), none, (.seq ⟨[(.str s99 589)]⟩ 0), ⟨[]⟩⟩
noncomputable abbrev o203 : Obj := ⟨.none, none, (.func ⟨s92, s92, fdP (st 21), .stmts (fdB (st 21)), fdS (st 21), 0, [], .none, .none, .none, .none, none, .none, .none, 0⟩), ⟨[]⟩⟩
noncomputable abbrev o204 : Obj := oF cc0 [(.str s92 586), (.str s92 587), (.str s1 588), iN 114, iN 1, iN 0, iN 0, iN 3, (.ref 301), (.bool true), iN 181, (.ref 302), .none, (.ref 303), (.ref 304), (.ref 305), iN 590, iN 114, (.str s1 591)]
noncomputable abbrev o205 : Obj := ⟨(.type cc2), none, (.func ⟨s92, s92, fdP (st 21), .stmts (fdB (st 21)), fdS (st 21), 3, [], .none, .none, .none, (.str s41 453), none, (.ref 306), .none, 0⟩), ⟨[]⟩⟩
noncomputable abbrev s100 : Str := ⟨⟨[107,105,110,100]⟩⟩
noncomputable abbrev o206 : Obj := ⟨(.type cc1), none, (.seq ⟨[(.str s100 596), (.str s99 597)]⟩ 0), ⟨[]⟩⟩
noncomputable abbrev o207 : Obj := ⟨.none, none, (.func ⟨s93, s93, fdP (st 22), .stmts (fdB (st 22)), fdS (st 22), 0, [], .none, .none, .none, .none, none, .none, .none, 0⟩), ⟨[]⟩⟩
noncomputable abbrev o208 : Obj := oF cc0 [(.str s93 593), (.str s93 594), (.str s1 595), iN 136, iN 2, iN 0, iN 0, iN 3, (.ref 308), (.bool true), iN 181, (.ref 309), .none, (.ref 310), (.ref 311), (.ref 312), iN 598, iN 136, (.str s1 599)]
noncomputable abbrev o209 : Obj := ⟨(.type cc2), none, (.func ⟨s93, s93, fdP (st 22), .stmts (fdB (st 22)), fdS (st 22), 3, [], .none, .none, .none, (.str s41 453), none, (.ref 313), .none, 0⟩), ⟨[]⟩⟩
noncomputable abbrev o210 : Obj := ⟨.none, none, (.func ⟨s27, s27, fdP (st 23), .stmts (fdB (st 23)), fdS (st 23), 0, [], .none, .none, .none, .none, none, .none, .none, 0⟩), ⟨[]⟩⟩
noncomputable abbrev o211 : Obj := oF cc0 [(.str s27 601), (.str s27 602), (.str s1 603), iN 150, iN 1, iN 0, iN 0, iN 3, (.ref 315), (.bool true), iN 181, (.ref 316), .none, .none, .none, (.ref 317), iN 604, iN 150, (.str s1 605)]
noncomputable abbrev o212 : Obj := ⟨(.type cc2), none, (.func ⟨s27, s27, fdP (st 23), .stmts (fdB (st 23)), fdS (st 23), 3, [], .none, .none, .none, (.str s41 453), none, (.ref 318), .none, 0⟩), ⟨[]⟩⟩
noncomputable abbrev o213 : Obj := ⟨.none, none, (.func ⟨s95, s95, fdP (st 25), .stmts (fdB (st 25)), fdS (st 25), 0, [], .none, .none, .none, .none, none, .none, .none, 0⟩), ⟨[]⟩⟩
noncomputable abbrev o214 : Obj := oF cc0 [(.str s95 608), (.str s95 609), (.str s1 610), iN 160, iN 1, iN 0, iN 0, iN 3, (.ref 320), (.bool true), iN 181, (.ref 321), .none, .none, .none, (.ref 322), iN 611, iN 160, (.str s1 612)]
noncomputable abbrev o215 : Obj := ⟨(.type cc2), none, (.func ⟨s95, s95, fdP (st 25), .stmts (fdB (st 25)), fdS (st 25), 3, [], .none, .none, .none, (.str s41 453), none, (.ref 323), .none, 0⟩), ⟨[]⟩⟩
noncomputable abbrev s101 : Str := ⟨⟨[100,101,101,112,101,115,116]⟩⟩
noncomputable abbrev s102 : Str := ⟨⟨[108,105,110,101]⟩⟩
noncomputable abbrev s103 : Str := ⟨⟨[104,101,114,101]⟩⟩
noncomputable abbrev s104 : Str := ⟨⟨[97,98,111,118,101]⟩⟩
noncomputable abbrev s105 : Str := ⟨⟨[112,97,114,116]⟩⟩
noncomputable abbrev o216 : Obj := ⟨(.type cc1), none, (.seq ⟨[(.str s99 617), (.str s101 618), (.str s102 619), (.str s103 620), (.str s104 621), (.str s105 622)]⟩ 0), ⟨[]⟩⟩
noncomputable abbrev o217 : Obj := ⟨.none, none, (.func ⟨s96, s96, fdP (st 26), .stmts (fdB (st 26)), fdS (st 26), 0, [], .none, .none, .none, .none, none, .none, .none, 0⟩), ⟨[]⟩⟩
noncomputable abbrev o218 : Obj := oF cc0 [(.str s96 614), (.str s96 615), (.str s1 616), iN 169, iN 1, iN 0, iN 0, iN 3, (.ref 325), (.bool true), iN 181, (.ref 326), .none, (.ref 327), (.ref 328), (.ref 329), iN 623, iN 169, (.str s1 624)]
noncomputable abbrev o219 : Obj := ⟨(.type cc2), none, (.func ⟨s96, s96, fdP (st 26), .stmts (fdB (st 26)), fdS (st 26), 3, [], .none, .none, .none, (.str s41 453), none, (.ref 330), .none, 0⟩), ⟨[]⟩⟩
noncomputable abbrev s106 : Str := ⟨⟨[102,101,116,99,104]⟩⟩
noncomputable abbrev s107 : Str := ⟨⟨[103,101,116]⟩⟩
noncomputable abbrev o220 (P : Params) : Obj := ⟨(.type cc3), none, (.dict ⟨[⟨(PyData.keyHash P s22), (.str s22 633), (.str s41 453)⟩, ⟨(PyData.keyHash P s24), (.str s24 635), (.str s97 634)⟩, ⟨(PyData.keyHash P s25), (.str s25 637), (.int (.ofNat 179) 636)⟩, ⟨(PyData.keyHash P s26), (.str s26 646), (.ref 346)⟩, ⟨(PyData.keyHash P s106), (.str s106 658), (.ref 353)⟩, ⟨(PyData.keyHash P s107), (.str s107 667), (.ref 360)⟩, ⟨(PyData.keyHash P s28), (.str s28 670), (.ref 361)⟩]⟩ 7), ⟨[]⟩⟩
noncomputable abbrev o221 : Obj := ⟨.none, none, (.fields ⟨[iN 181, iN 4, (.ref 345), iN 185, iN 4, (.ref 352), iN 196, iN 4, (.ref 359)]⟩), ⟨[]⟩⟩
noncomputable abbrev o222 : Obj := oF cc0 [(.str s97 628), (.str s97 629), (.str s1 630), iN 179, iN 0, iN 0, iN 0, iN 0, (.ref 335), (.bool false), iN 181, (.ref 336), .none, .none, .none, .none, iN 631, iN 179, (.str s1 632)]
noncomputable abbrev o223 : Obj := ⟨(.type cc6), none, .plain, ⟨[(some (.ref 337)), (some (.ref 3)), (some (.ref 334)), none, (some (.str s41 453)), none, (some (.ref 0))]⟩⟩
noncomputable abbrev o224 : Obj := ⟨(.type cc1), none, (.seq ⟨[.none, .none]⟩ 0), ⟨[]⟩⟩
noncomputable abbrev s108 : Str := ⟨⟨[116,97,98,108,101]⟩⟩
noncomputable abbrev s109 : Str := ⟨⟨[116,114,97,105,108,101,114]⟩⟩
noncomputable abbrev o225 : Obj := ⟨(.type cc1), none, (.seq ⟨[(.str s29 641), (.str s108 642), (.str s109 643)]⟩ 0), ⟨[]⟩⟩
noncomputable abbrev s110 : Str := ⟨⟨[76,111,111,107,117,112,46,95,95,105,110,105,116,95,95]⟩⟩
noncomputable abbrev o226 : Obj := ⟨.none, none, (.func ⟨s26, s110, fdP (cm 27 0), .stmts (fdB (cm 27 0)), fdS (cm 27 0), 0, [], .none, .none, .none, .none, none, .none, .none, 0⟩), ⟨[]⟩⟩
noncomputable abbrev o227 : Obj := oF cc0 [(.str s26 638), (.str s110 639), (.str s1 640), iN 181, iN 3, iN 0, iN 0, iN 3, (.ref 340), (.bool true), iN 181, (.ref 341), .none, (.ref 342), (.ref 343), (.ref 344), iN 644, iN 181, (.str s1 645)]
noncomputable abbrev o228 : Obj := ⟨(.type cc2), none, (.func ⟨s26, s110, fdP (cm 27 0), .stmts (fdB (cm 27 0)), fdS (cm 27 0), 3, [], (.ref 339), .none, .none, (.str s41 453), none, (.ref 345), .none, 0⟩), ⟨[]⟩⟩
noncomputable abbrev s111 : Str := ⟨⟨[104,111,112]⟩⟩
noncomputable abbrev s112 : Str := ⟨⟨[102,111,117,110,100]⟩⟩
noncomputable abbrev o229 : Obj := ⟨(.type cc1), none, (.seq ⟨[(.str s29 650), (.str s99 651), (.str s103 652), (.str s111 653), (.str s89 654), (.str s112 655)]⟩ 0), ⟨[]⟩⟩
noncomputable abbrev s113 : Str := ⟨⟨[76,111,111,107,117,112,46,102,101,116,99,104]⟩⟩
noncomputable abbrev o230 : Obj := ⟨.none, none, (.func ⟨s106, s113, fdP (cm 27 1), .stmts (fdB (cm 27 1)), fdS (cm 27 1), 0, [], .none, .none, .none, .none, none, .none, .none, 0⟩), ⟨[]⟩⟩
noncomputable abbrev o231 : Obj := oF cc0 [(.str s106 647), (.str s113 648), (.str s1 649), iN 185, iN 2, iN 0, iN 0, iN 3, (.ref 347), (.bool true), iN 181, (.ref 348), .none, (.ref 349), (.ref 350), (.ref 351), iN 656, iN 185, (.str s1 657)]
noncomputable abbrev o232 : Obj := ⟨(.type cc2), none, (.func ⟨s106, s113, fdP (cm 27 1), .stmts (fdB (cm 27 1)), fdS (cm 27 1), 3, [], .none, .none, .none, (.str s41 453), none, (.ref 352), .none, 0⟩), ⟨[]⟩⟩
noncomputable abbrev s114 : Str := ⟨⟨[107,101,121]⟩⟩
noncomputable abbrev o233 : Obj := ⟨(.type cc1), none, (.seq ⟨[(.str s29 662), (.str s86 663), (.str s114 664)]⟩ 0), ⟨[]⟩⟩
noncomputable abbrev s115 : Str := ⟨⟨[76,111,111,107,117,112,46,103,101,116]⟩⟩
noncomputable abbrev o234 : Obj := ⟨.none, none, (.func ⟨s107, s115, fdP (cm 27 2), .stmts (fdB (cm 27 2)), fdS (cm 27 2), 0, [], .none, .none, .none, .none, none, .none, .none, 0⟩), ⟨[]⟩⟩
noncomputable abbrev o235 : Obj := oF cc0 [(.str s107 659), (.str s115 660), (.str s1 661), iN 196, iN 3, iN 0, iN 0, iN 3, (.ref 354), (.bool true), iN 181, (.ref 355), .none, (.ref 356), (.ref 357), (.ref 358), iN 665, iN 196, (.str s1 666)]
noncomputable abbrev o236 : Obj := ⟨(.type cc2), none, (.func ⟨s107, s115, fdP (cm 27 2), .stmts (fdB (cm 27 2)), fdS (cm 27 2), 3, [], .none, .none, .none, (.str s41 453), none, (.ref 359), .none, 0⟩), ⟨[]⟩⟩
noncomputable abbrev o237 : Obj := ⟨(.type cc1), none, (.seq ⟨[(.str s108 668), (.str s109 669)]⟩ 0), ⟨[]⟩⟩
noncomputable abbrev o238 (P : Params) : Obj := ⟨(.type cc3), none, (.dict ⟨[⟨(PyData.keyHash P s22), (.str s22 633), (.str s41 453)⟩, ⟨(PyData.keyHash P s25), (.str s25 637), (.int (.ofNat 179) 636)⟩, ⟨(PyData.keyHash P s26), (.str s26 646), (.ref 346)⟩, ⟨(PyData.keyHash P s106), (.str s106 658), (.ref 353)⟩, ⟨(PyData.keyHash P s107), (.str s107 667), (.ref 360)⟩, ⟨(PyData.keyHash P s28), (.str s28 670), (.ref 361)⟩, ⟨(PyData.keyHash P s35), (.str s35 672), (.ref 364)⟩, ⟨(PyData.keyHash P s36), (.str s36 674), (.ref 365)⟩, ⟨(PyData.keyHash P s7), (.str s7 675), .none⟩]⟩ 4), ⟨[]⟩⟩
noncomputable abbrev o239 : Obj := ⟨(.type cc8), none, (.cls { name := s97, bases := [(.type cc4)], mro := [(.ref 363), (.type cc4)], ns := 362, qualname := s97, hasDict := true, slotNames := [], subclasses := [(.ref 417)], abstract := false, collection := none, hasDel := false }), ⟨[none, none, (some (.str s97 626)), (some (.str s97 634)), (some (.builtin cc11)), (some (.bool true))]⟩⟩
noncomputable abbrev o240 : Obj := oF cc5 [(.str s35 671), (.ref 363), (.builtin cc13), (.builtin SL.s12411053484034534018x21)]
noncomputable abbrev o241 : Obj := oF cc5 [(.str s36 673), (.ref 363), (.builtin cc12), .none]
noncomputable abbrev o242 : Obj := oF cc9 [(.ref 363), (.ref 363), (.ref 363)]
noncomputable abbrev o243 : Obj := oF cc7 [(.builtin cc10), (.ref 363)]
noncomputable abbrev o244 : Obj := ⟨(.type cc1), none, (.seq ⟨[(.ref 363)]⟩ 0), ⟨[]⟩⟩
noncomputable abbrev s116 : Str := ⟨⟨[112,117,116]⟩⟩
noncomputable abbrev s117 : Str := ⟨⟨[97,100,100]⟩⟩
noncomputable abbrev s118 : Str := ⟨⟨[100,114,111,112]⟩⟩
noncomputable abbrev s119 : Str := ⟨⟨[110,117,109,98,101,114,115]⟩⟩
noncomputable abbrev s120 : Str := ⟨⟨[114,111,111,116]⟩⟩
noncomputable abbrev o245 (P : Params) : Obj := ⟨(.type cc3), none, (.dict ⟨[⟨(PyData.keyHash P s22), (.str s22 685), (.str s41 453)⟩, ⟨(PyData.keyHash P s24), (.str s24 687), (.str s98 686)⟩, ⟨(PyData.keyHash P s25), (.str s25 689), (.int (.ofNat 198) 688)⟩, ⟨(PyData.keyHash P s116), (.str s116 699), (.ref 381)⟩, ⟨(PyData.keyHash P s117), (.str s117 707), (.ref 388)⟩, ⟨(PyData.keyHash P s118), (.str s118 715), (.ref 395)⟩, ⟨(PyData.keyHash P s119), (.str s119 722), (.ref 402)⟩, ⟨(PyData.keyHash P s120), (.str s120 729), (.ref 409)⟩, ⟨(PyData.keyHash P s27), (.str s27 735), (.ref 414)⟩, ⟨(PyData.keyHash P s28), (.str s28 736), (.ref 415)⟩]⟩ 10), ⟨[]⟩⟩
noncomputable abbrev o246 : Obj := ⟨.none, none, (.fields ⟨[iN 200, iN 4, (.ref 380), iN 203, iN 4, (.ref 387), iN 206, iN 4, (.ref 394), iN 209, iN 4, (.ref 401), iN 212, iN 4, (.ref 408), iN 215, iN 4, (.ref 413)]⟩), ⟨[]⟩⟩
noncomputable abbrev o247 : Obj := oF cc0 [(.str s98 680), (.str s98 681), (.str s1 682), iN 198, iN 0, iN 0, iN 0, iN 0, (.ref 371), (.bool false), iN 181, (.ref 372), .none, .none, .none, .none, iN 683, iN 198, (.str s1 684)]
noncomputable abbrev o248 : Obj := ⟨(.type cc6), none, .plain, ⟨[(some (.ref 373)), (some (.ref 3)), (some (.ref 370)), none, (some (.str s41 453)), none, (some (.ref 0))]⟩⟩
noncomputable abbrev o249 : Obj := ⟨(.type cc1), none, (.seq ⟨[(.str s29 693), (.str s77 694), (.str s89 695), (.str s99 696)]⟩ 0), ⟨[]⟩⟩
noncomputable abbrev s121 : Str := ⟨⟨[83,104,101,108,102,46,112,117,116]⟩⟩
noncomputable abbrev o250 : Obj := ⟨.none, none, (.func ⟨s116, s121, fdP (cm 28 0), .stmts (fdB (cm 28 0)), fdS (cm 28 0), 0, [], .none, .none, .none, .none, none, .none, .none, 0⟩), ⟨[]⟩⟩
noncomputable abbrev o251 : Obj := oF cc0 [(.str s116 690), (.str s121 691), (.str s1 692), iN 200, iN 4, iN 0, iN 0, iN 3, (.ref 375), (.bool true), iN 181, (.ref 376), .none, (.ref 377), (.ref 378), (.ref 379), iN 697, iN 200, (.str s1 698)]
noncomputable abbrev o252 : Obj := ⟨(.type cc2), none, (.func ⟨s116, s121, fdP (cm 28 0), .stmts (fdB (cm 28 0)), fdS (cm 28 0), 3, [], .none, .none, .none, (.str s41 453), none, (.ref 380), .none, 0⟩), ⟨[]⟩⟩
noncomputable abbrev o253 : Obj := ⟨(.type cc1), none, (.seq ⟨[(.str s29 703), (.str s99 704)]⟩ 0), ⟨[]⟩⟩
noncomputable abbrev s122 : Str := ⟨⟨[83,104,101,108,102,46,97,100,100]⟩⟩
noncomputable abbrev o254 : Obj := ⟨.none, none, (.func ⟨s117, s122, fdP (cm 28 1), .stmts (fdB (cm 28 1)), fdS (cm 28 1), 0, [], .none, .none, .none, .none, none, .none, .none, 0⟩), ⟨[]⟩⟩
noncomputable abbrev o255 : Obj := oF cc0 [(.str s117 700), (.str s122 701), (.str s1 702), iN 203, iN 2, iN 0, iN 0, iN 3, (.ref 382), (.bool true), iN 181, (.ref 383), .none, (.ref 384), (.ref 385), (.ref 386), iN 705, iN 203, (.str s1 706)]
noncomputable abbrev o256 : Obj := ⟨(.type cc2), none, (.func ⟨s117, s122, fdP (cm 28 1), .stmts (fdB (cm 28 1)), fdS (cm 28 1), 3, [], .none, .none, .none, (.str s41 453), none, (.ref 387), .none, 0⟩), ⟨[]⟩⟩
noncomputable abbrev o257 : Obj := ⟨(.type cc1), none, (.seq ⟨[(.str s29 711), (.str s77 712)]⟩ 0), ⟨[]⟩⟩
noncomputable abbrev s123 : Str := ⟨⟨[83,104,101,108,102,46,100,114,111,112]⟩⟩
noncomputable abbrev o258 : Obj := ⟨.none, none, (.func ⟨s118, s123, fdP (cm 28 2), .stmts (fdB (cm 28 2)), fdS (cm 28 2), 0, [], .none, .none, .none, .none, none, .none, .none, 0⟩), ⟨[]⟩⟩
noncomputable abbrev o259 : Obj := oF cc0 [(.str s118 708), (.str s123 709), (.str s1 710), iN 206, iN 2, iN 0, iN 0, iN 3, (.ref 389), (.bool true), iN 181, (.ref 390), .none, (.ref 391), (.ref 392), (.ref 393), iN 713, iN 206, (.str s1 714)]
noncomputable abbrev o260 : Obj := ⟨(.type cc2), none, (.func ⟨s118, s123, fdP (cm 28 2), .stmts (fdB (cm 28 2)), fdS (cm 28 2), 3, [], .none, .none, .none, (.str s41 453), none, (.ref 394), .none, 0⟩), ⟨[]⟩⟩
noncomputable abbrev o261 : Obj := ⟨(.type cc1), none, (.seq ⟨[(.str s29 719)]⟩ 0), ⟨[]⟩⟩
noncomputable abbrev s124 : Str := ⟨⟨[83,104,101,108,102,46,110,117,109,98,101,114,115]⟩⟩
noncomputable abbrev o262 : Obj := ⟨.none, none, (.func ⟨s119, s124, fdP (cm 28 3), .stmts (fdB (cm 28 3)), fdS (cm 28 3), 0, [], .none, .none, .none, .none, none, .none, .none, 0⟩), ⟨[]⟩⟩
noncomputable abbrev o263 : Obj := oF cc0 [(.str s119 716), (.str s124 717), (.str s1 718), iN 209, iN 1, iN 0, iN 0, iN 3, (.ref 396), (.bool true), iN 181, (.ref 397), .none, (.ref 398), (.ref 399), (.ref 400), iN 720, iN 209, (.str s1 721)]
noncomputable abbrev o264 : Obj := ⟨(.type cc2), none, (.func ⟨s119, s124, fdP (cm 28 3), .stmts (fdB (cm 28 3)), fdS (cm 28 3), 3, [], .none, .none, .none, (.str s41 453), none, (.ref 401), .none, 0⟩), ⟨[]⟩⟩
noncomputable abbrev o265 : Obj := ⟨(.type cc1), none, (.seq ⟨[(.str s29 726)]⟩ 0), ⟨[]⟩⟩
noncomputable abbrev s125 : Str := ⟨⟨[83,104,101,108,102,46,114,111,111,116]⟩⟩
noncomputable abbrev o266 : Obj := ⟨.none, none, (.func ⟨s120, s125, fdP (cm 28 4), .stmts (fdB (cm 28 4)), fdS (cm 28 4), 0, [], .none, .none, .none, .none, none, .none, .none, 0⟩), ⟨[]⟩⟩
noncomputable abbrev o267 : Obj := oF cc0 [(.str s120 723), (.str s125 724), (.str s1 725), iN 212, iN 1, iN 0, iN 0, iN 3, (.ref 403), (.bool true), iN 181, (.ref 404), .none, (.ref 405), (.ref 406), (.ref 407), iN 727, iN 212, (.str s1 728)]
noncomputable abbrev o268 : Obj := ⟨(.type cc2), none, (.func ⟨s120, s125, fdP (cm 28 4), .stmts (fdB (cm 28 4)), fdS (cm 28 4), 3, [], .none, .none, .none, (.str s41 453), none, (.ref 408), .none, 0⟩), ⟨[]⟩⟩
noncomputable abbrev s126 : Str := ⟨⟨[83,104,101,108,102,46,116,111,108,100]⟩⟩
noncomputable abbrev o269 : Obj := ⟨.none, none, (.func ⟨s27, s126, fdP (cm 28 5), .stmts (fdB (cm 28 5)), fdS (cm 28 5), 0, [], .none, .none, .none, .none, none, .none, .none, 0⟩), ⟨[]⟩⟩
noncomputable abbrev o270 : Obj := oF cc0 [(.str s27 730), (.str s126 731), (.str s1 732), iN 215, iN 1, iN 0, iN 0, iN 3, (.ref 410), (.bool true), iN 181, (.ref 411), .none, .none, .none, (.ref 412), iN 733, iN 215, (.str s1 734)]
noncomputable abbrev o271 : Obj := ⟨(.type cc2), none, (.func ⟨s27, s126, fdP (cm 28 5), .stmts (fdB (cm 28 5)), fdS (cm 28 5), 3, [], .none, .none, .none, (.str s41 453), none, (.ref 413), .none, 0⟩), ⟨[]⟩⟩
noncomputable abbrev o272 (P : Params) : Obj := ⟨(.type cc3), none, (.dict ⟨[⟨(PyData.keyHash P s22), (.str s22 685), (.str s41 453)⟩, ⟨(PyData.keyHash P s25), (.str s25 689), (.int (.ofNat 198) 688)⟩, ⟨(PyData.keyHash P s116), (.str s116 699), (.ref 381)⟩, ⟨(PyData.keyHash P s117), (.str s117 707), (.ref 388)⟩, ⟨(PyData.keyHash P s118), (.str s118 715), (.ref 395)⟩, ⟨(PyData.keyHash P s119), (.str s119 722), (.ref 402)⟩, ⟨(PyData.keyHash P s120), (.str s120 729), (.ref 409)⟩, ⟨(PyData.keyHash P s27), (.str s27 735), (.ref 414)⟩, ⟨(PyData.keyHash P s28), (.str s28 736), (.ref 415)⟩, ⟨(PyData.keyHash P s7), (.str s7 737), .none⟩]⟩ 2), ⟨[]⟩⟩
noncomputable abbrev o273 : Obj := ⟨(.type cc8), none, (.cls { name := s98, bases := [(.ref 363)], mro := [(.ref 417), (.ref 363), (.type cc4)], ns := 416, qualname := s98, hasDict := true, slotNames := [], subclasses := [], abstract := false, collection := none, hasDel := false }), ⟨[(some (.ref 368)), none, (some (.str s98 678)), (some (.str s98 686)), (some (.builtin cc11)), (some (.bool true))]⟩⟩
noncomputable abbrev o274 : Obj := oF cc9 [(.ref 417), (.ref 417), (.ref 417)]
noncomputable abbrev o275 : Obj := oF cc7 [(.builtin cc10), (.ref 417)]
noncomputable abbrev s127 : Str := ⟨⟨[112,97,112,101,114,104,111,108,100,46,102,105,108,105,110,103]⟩⟩
noncomputable abbrev s128 : Str := ⟨⟨[77,79,83,84,95,78,69,83,84,69,68]⟩⟩
noncomputable abbrev s129 : Str := ⟨⟨[77,79,83,84,95,78,85,77,66,69,82]⟩⟩
noncomputable abbrev s130 : Str := ⟨⟨[66,65,67,75,83,76,65,83,72]⟩⟩
noncomputable abbrev s131 : Str := ⟨⟨[79,80,69,78,95,66,82,65,67,75,69,84]⟩⟩
noncomputable abbrev s132 : Str := ⟨⟨[67,76,79,83,69,95,66,82,65,67,75,69,84]⟩⟩
noncomputable abbrev s133 : Str := ⟨⟨[67,65,82,82,73,65,71,69]⟩⟩
noncomputable abbrev s134 : Str := ⟨⟨[78,85,77,66,69,82,95,83,73,71,78]⟩⟩
noncomputable abbrev s135 : Str := ⟨⟨[72,69,88,95,70,73,71,85,82,69,83]⟩⟩
noncomputable abbrev s136 : Str := ⟨⟨[116,101,120,116,95,111,99,116,101,116,115]⟩⟩
noncomputable abbrev s137 : Str := ⟨⟨[104,101,120,95,112,97,105,114]⟩⟩
noncomputable abbrev s138 : Str := ⟨⟨[110,97,109,101,95,111,99,116,101,116,115]⟩⟩
noncomputable abbrev s139 : Str := ⟨⟨[119,104,111,108,101,95,111,99,116,101,116,115]⟩⟩
noncomputable abbrev s140 : Str := ⟨⟨[100,101,99,105,109,97,108,95,111,99,116,101,116,115]⟩⟩
noncomputable abbrev s141 : Str := ⟨⟨[108,111,110,101,95,98,114,97,99,107,101,116,115]⟩⟩
noncomputable abbrev s142 : Str := ⟨⟨[108,105,116,101,114,97,108,95,111,99,116,101,116,115]⟩⟩
noncomputable abbrev s143 : Str := ⟨⟨[104,101,120,95,111,99,116,101,116,115]⟩⟩
noncomputable abbrev s144 : Str := ⟨⟨[115,116,114,105,110,103,95,111,99,116,101,116,115]⟩⟩
noncomputable abbrev s145 : Str := ⟨⟨[112,108,97,105,110,95,112,97,114,116]⟩⟩
noncomputable abbrev s146 : Str := ⟨⟨[108,97,121,95,114,101,102,101,114,101,110,99,101]⟩⟩
noncomputable abbrev s147 : Str := ⟨⟨[108,97,121,95,100,105,99,116]⟩⟩
noncomputable abbrev s148 : Str := ⟨⟨[108,97,121,95,112,97,114,116,115]⟩⟩
noncomputable abbrev s149 : Str := ⟨⟨[114,117,110,95,116,111,103,101,116,104,101,114]⟩⟩
noncomputable abbrev s150 : Str := ⟨⟨[106,111,105,110,101,100,95,112,97,114,116,115]⟩⟩
noncomputable abbrev s151 : Str := ⟨⟨[115,116,114,101,97,109,95,104,101,97,100]⟩⟩
noncomputable abbrev s152 : Str := ⟨⟨[119,114,105,116,101,95,111,98,106,101,99,116]⟩⟩
noncomputable abbrev s153 : Str := ⟨⟨[119,114,105,116,101,95,105,110,100,105,114,101,99,116]⟩⟩
noncomputable abbrev s154 : Str := ⟨⟨[70,73,76,69,95,87,65,89,83]⟩⟩
noncomputable abbrev s155 : Str := ⟨⟨[102,105,108,101,95,104,101,97,100,101,114]⟩⟩
noncomputable abbrev s156 : Str := ⟨⟨[114,111,119,115,95,111,102,95,115,104,101,108,102]⟩⟩
noncomputable abbrev o276 (P : Params) : Obj := ⟨(.type cc3), none, (.dict ⟨[⟨(PyData.keyHash P s5), (.str s5 165), (.str s127 920)⟩, ⟨(PyData.keyHash P s7), (.str s7 166), .none⟩, ⟨(PyData.keyHash P s8), (.str s8 167), .none⟩, ⟨(PyData.keyHash P s9), (.str s9 168), (.builtin SL.s7097527257260152453x26)⟩, ⟨(PyData.keyHash P s10), (.str s10 169), .none⟩, ⟨(PyData.keyHash P s11), (.str s11 170), (.ref 6)⟩, ⟨(PyData.keyHash P s12), (.str s12 171), (.ref 4)⟩, ⟨(PyData.keyHash P s13), (.str s13 173), (.str s1 172)⟩, ⟨(PyData.keyHash P s14), (.str s14 174), .none⟩, ⟨(PyData.keyHash P s15), (.str s15 193), (.ref 21)⟩, ⟨(PyData.keyHash P s16), (.str s16 197), (.int (.ofNat 65535) 196)⟩, ⟨(PyData.keyHash P s17), (.str s17 237), (.ref 45)⟩, ⟨(PyData.keyHash P s18), (.str s18 243), (.ref 54)⟩, ⟨(PyData.keyHash P s19), (.str s19 285), (.ref 79)⟩, ⟨(PyData.keyHash P s20), (.str s20 301), (.ref 92)⟩, ⟨(PyData.keyHash P s42), (.str s42 310), (.ref 95)⟩, ⟨(PyData.keyHash P s43), (.str s43 321), (.ref 96)⟩, ⟨(PyData.keyHash P s44), (.str s44 328), (.ref 103)⟩, ⟨(PyData.keyHash P s45), (.str s45 445), (.ref 197)⟩, ⟨(PyData.keyHash P s46), (.str s46 452), (.ref 208)⟩, ⟨(PyData.keyHash P s47), (.str s47 456), (.int (.ofNat 30) 455)⟩, ⟨(PyData.keyHash P s78), (.str s78 485), (.ref 225)⟩, ⟨(PyData.keyHash P s79), (.str s79 516), (.ref 247)⟩, ⟨(PyData.keyHash P s80), (.str s80 547), (.ref 268)⟩, ⟨(PyData.keyHash P s81), (.str s81 585), (.ref 296)⟩, ⟨(PyData.keyHash P s92), (.str s92 592), (.ref 307)⟩, ⟨(PyData.keyHash P s93), (.str s93 600), (.ref 314)⟩, ⟨(PyData.keyHash P s27), (.str s27 606), (.ref 319)⟩, ⟨(PyData.keyHash P s94), (.str s94 607), (.ref 319)⟩, ⟨(PyData.keyHash P s95), (.str s95 613), (.ref 324)⟩, ⟨(PyData.keyHash P s96), (.str s96 625), (.ref 331)⟩, ⟨(PyData.keyHash P s97), (.str s97 677), (.ref 363)⟩, ⟨(PyData.keyHash P s98), (.str s98 739), (.ref 417)⟩, ⟨(PyData.keyHash P s128), (.str s128 743), (.int (.ofNat 40) 742)⟩, ⟨(PyData.keyHash P s129), (.str s129 745), (.int (.ofNat 40) 744)⟩, ⟨(PyData.keyHash P s130), (.str s130 747), (.int (.ofNat 92) 746)⟩, ⟨(PyData.keyHash P s131), (.str s131 749), (.int (.ofNat 40) 748)⟩, ⟨(PyData.keyHash P s132), (.str s132 751), (.int (.ofNat 41) 750)⟩, ⟨(PyData.keyHash P s133), (.str s133 753), (.int (.ofNat 13) 752)⟩, ⟨(PyData.keyHash P s134), (.str s134 755), (.int (.ofNat 35) 754)⟩, ⟨(PyData.keyHash P s135), (.str s135 757), (.bytes ⟨[48,49,50,51,52,53,54,55,56,57,65,66,67,68,69,70]⟩ 756)⟩, ⟨(PyData.keyHash P s136), (.str s136 763), (.ref 424)⟩, ⟨(PyData.keyHash P s137), (.str s137 770), (.ref 431)⟩, ⟨(PyData.keyHash P s138), (.str s138 780), (.ref 438)⟩, ⟨(PyData.keyHash P s139), (.str s139 787), (.ref 445)⟩, ⟨(PyData.keyHash P s140), (.str s140 793), (.ref 450)⟩, ⟨(PyData.keyHash P s141), (.str s141 803), (.ref 457)⟩, ⟨(PyData.keyHash P s142), (.str s142 814), (.ref 464)⟩, ⟨(PyData.keyHash P s143), (.str s143 823), (.ref 471)⟩, ⟨(PyData.keyHash P s144), (.str s144 833), (.ref 478)⟩, ⟨(PyData.keyHash P s145), (.str s145 842), (.ref 485)⟩, ⟨(PyData.keyHash P s146), (.str s146 850), (.ref 492)⟩, ⟨(PyData.keyHash P s147), (.str s147 860), (.ref 499)⟩, ⟨(PyData.keyHash P s148), (.str s148 871), (.ref 506)⟩, ⟨(PyData.keyHash P s149), (.str s149 879), (.ref 513)⟩, ⟨(PyData.keyHash P s150), (.str s150 889), (.ref 520)⟩, ⟨(PyData.keyHash P s151), (.str s151 898), (.ref 527)⟩, ⟨(PyData.keyHash P s152), (.str s152 908), (.ref 534)⟩, ⟨(PyData.keyHash P s153), (.str s153 919), (.ref 541)⟩, ⟨(PyData.keyHash P s154), (.str s154 925), (.ref 542)⟩, ⟨(PyData.keyHash P s155), (.str s155 931), (.ref 549)⟩, ⟨(PyData.keyHash P s156), (.str s156 937), (.ref 554)⟩]⟩ 62), ⟨[]⟩⟩
noncomputable abbrev o277 : Obj := ⟨.none, none, (.fields ⟨[iN 1, iN 0, (.ref 20), iN 6, iN 0, (.ref 27), iN 15, iN 0, (.ref 53), iN 23, iN 0, (.ref 60), iN 32, iN 0, (.ref 88), iN 37, iN 0, (.ref 102), iN 40, iN 0, (.ref 109), iN 88, iN 0, (.ref 207), iN 92, iN 0, (.ref 214), iN 96, iN 0, (.ref 235), iN 101, iN 0, (.ref 257), iN 106, iN 0, (.ref 278), iN 114, iN 0, (.ref 306), iN 136, iN 0, (.ref 313), iN 150, iN 0, (.ref 318), iN 160, iN 0, (.ref 323), iN 169, iN 0, (.ref 330), iN 179, iN 0, (.ref 337), iN 198, iN 0, (.ref 373), iN 227, iN 0, (.ref 423), iN 229, iN 0, (.ref 430), iN 231, iN 0, (.ref 437), iN 243, iN 0, (.ref 444), iN 247, iN 0, (.ref 449), iN 257, iN 0, (.ref 456), iN 271, iN 0, (.ref 463), iN 284, iN 0, (.ref 470), iN 290, iN 0, (.ref 477), iN 296, iN 0, (.ref 484), iN 310, iN 0, (.ref 491), iN 316, iN 0, (.ref 498), iN 323, iN 0, (.ref 505), iN 336, iN 0, (.ref 512), iN 338, iN 0, (.ref 519), iN 347, iN 0, (.ref 526), iN 353, iN 0, (.ref 533), iN 363, iN 0, (.ref 540), iN 370, iN 0, (.ref 548), iN 372, iN 0, (.ref 553)]⟩), ⟨[]⟩⟩
noncomputable abbrev o278 : Obj := ⟨.none, none, (.func ⟨s136, s136, fdP (st 38), .stmts (fdB (st 38)), fdS (st 38), 0, [], .none, .none, .none, .none, none, .none, .none, 0⟩), ⟨[]⟩⟩
noncomputable abbrev o279 : Obj := oF cc0 [(.str s136 758), (.str s136 759), (.str s1 760), iN 227, iN 1, iN 0, iN 0, iN 3, (.ref 420), (.bool true), iN 181, (.ref 421), .none, .none, .none, (.ref 422), iN 761, iN 227, (.str s1 762)]
noncomputable abbrev s157 : Str := ⟨⟨[112,97,112,101,114,104,111,108,100,46,119,114,105,116,101,114]⟩⟩
noncomputable abbrev o280 : Obj := ⟨(.type cc2), none, (.func ⟨s136, s136, fdP (st 38), .stmts (fdB (st 38)), fdS (st 38), 3, [], .none, .none, .none, (.str s157 740), none, (.ref 423), .none, 0⟩), ⟨[]⟩⟩
noncomputable abbrev o281 : Obj := ⟨(.type cc1), none, (.seq ⟨[(.str s48 767)]⟩ 0), ⟨[]⟩⟩
noncomputable abbrev o282 : Obj := ⟨.none, none, (.func ⟨s137, s137, fdP (st 39), .stmts (fdB (st 39)), fdS (st 39), 0, [], .none, .none, .none, .none, none, .none, .none, 0⟩), ⟨[]⟩⟩
noncomputable abbrev o283 : Obj := oF cc0 [(.str s137 764), (.str s137 765), (.str s1 766), iN 229, iN 1, iN 0, iN 0, iN 3, (.ref 425), (.bool true), iN 181, (.ref 426), .none, (.ref 427), (.ref 428), (.ref 429), iN 768, iN 229, (.str s1 769)]
noncomputable abbrev o284 : Obj := ⟨(.type cc2), none, (.func ⟨s137, s137, fdP (st 39), .stmts (fdB (st 39)), fdS (st 39), 3, [], .none, .none, .none, (.str s157 740), none, (.ref 430), .none, 0⟩), ⟨[]⟩⟩
noncomputable abbrev s158 : Str := ⟨⟨[115,105,103,110]⟩⟩
noncomputable abbrev o285 : Obj := ⟨(.type cc1), none, (.seq ⟨[(.str s59 774), (.str s112 775), (.str s158 776), (.str s48 777)]⟩ 0), ⟨[]⟩⟩
noncomputable abbrev o286 : Obj := ⟨.none, none, (.func ⟨s138, s138, fdP (st 40), .stmts (fdB (st 40)), fdS (st 40), 0, [], .none, .none, .none, .none, none, .none, .none, 0⟩), ⟨[]⟩⟩
noncomputable abbrev o287 : Obj := oF cc0 [(.str s138 771), (.str s138 772), (.str s1 773), iN 231, iN 1, iN 0, iN 0, iN 3, (.ref 432), (.bool true), iN 181, (.ref 433), .none, (.ref 434), (.ref 435), (.ref 436), iN 778, iN 231, (.str s1 779)]
noncomputable abbrev o288 : Obj := ⟨(.type cc2), none, (.func ⟨s138, s138, fdP (st 40), .stmts (fdB (st 40)), fdS (st 40), 3, [], .none, .none, .none, (.str s157 740), none, (.ref 437), .none, 0⟩), ⟨[]⟩⟩
noncomputable abbrev o289 : Obj := ⟨(.type cc1), none, (.seq ⟨[(.str s77 784)]⟩ 0), ⟨[]⟩⟩
noncomputable abbrev o290 : Obj := ⟨.none, none, (.func ⟨s139, s139, fdP (st 41), .stmts (fdB (st 41)), fdS (st 41), 0, [], .none, .none, .none, .none, none, .none, .none, 0⟩), ⟨[]⟩⟩
noncomputable abbrev o291 : Obj := oF cc0 [(.str s139 781), (.str s139 782), (.str s1 783), iN 243, iN 1, iN 0, iN 0, iN 3, (.ref 439), (.bool true), iN 181, (.ref 440), .none, (.ref 441), (.ref 442), (.ref 443), iN 785, iN 243, (.str s1 786)]
noncomputable abbrev o292 : Obj := ⟨(.type cc2), none, (.func ⟨s139, s139, fdP (st 41), .stmts (fdB (st 41)), fdS (st 41), 3, [], .none, .none, .none, (.str s157 740), none, (.ref 444), .none, 0⟩), ⟨[]⟩⟩
noncomputable abbrev o293 : Obj := ⟨.none, none, (.func ⟨s140, s140, fdP (st 42), .stmts (fdB (st 42)), fdS (st 42), 0, [], .none, .none, .none, .none, none, .none, .none, 0⟩), ⟨[]⟩⟩
noncomputable abbrev o294 : Obj := oF cc0 [(.str s140 788), (.str s140 789), (.str s1 790), iN 247, iN 2, iN 0, iN 0, iN 3, (.ref 446), (.bool true), iN 181, (.ref 447), .none, .none, .none, (.ref 448), iN 791, iN 247, (.str s1 792)]
noncomputable abbrev o295 : Obj := ⟨(.type cc2), none, (.func ⟨s140, s140, fdP (st 42), .stmts (fdB (st 42)), fdS (st 42), 3, [], .none, .none, .none, (.str s157 740), none, (.ref 449), .none, 0⟩), ⟨[]⟩⟩
noncomputable abbrev s159 : Str := ⟨⟨[111,112,101,110,95,111,110,101,115]⟩⟩
noncomputable abbrev s160 : Str := ⟨⟨[108,111,110,101]⟩⟩
noncomputable abbrev o296 : Obj := ⟨(.type cc1), none, (.seq ⟨[(.str s83 797), (.str s159 798), (.str s160 799), (.str s38 800)]⟩ 0), ⟨[]⟩⟩
noncomputable abbrev o297 : Obj := ⟨.none, none, (.func ⟨s141, s141, fdP (st 43), .stmts (fdB (st 43)), fdS (st 43), 0, [], .none, .none, .none, .none, none, .none, .none, 0⟩), ⟨[]⟩⟩
noncomputable abbrev o298 : Obj := oF cc0 [(.str s141 794), (.str s141 795), (.str s1 796), iN 257, iN 1, iN 0, iN 0, iN 3, (.ref 451), (.bool true), iN 181, (.ref 452), .none, (.ref 453), (.ref 454), (.ref 455), iN 801, iN 257, (.str s1 802)]
noncomputable abbrev o299 : Obj := ⟨(.type cc2), none, (.func ⟨s141, s141, fdP (st 43), .stmts (fdB (st 43)), fdS (st 43), 3, [], .none, .none, .none, (.str s157 740), none, (.ref 456), .none, 0⟩), ⟨[]⟩⟩
noncomputable abbrev o300 : Obj := ⟨(.type cc1), none, (.seq ⟨[(.str s83 807), (.str s160 808), (.str s112 809), (.str s38 810), (.str s48 811)]⟩ 0), ⟨[]⟩⟩
noncomputable abbrev o301 : Obj := ⟨.none, none, (.func ⟨s142, s142, fdP (st 44), .stmts (fdB (st 44)), fdS (st 44), 0, [], .none, .none, .none, .none, none, .none, .none, 0⟩), ⟨[]⟩⟩
noncomputable abbrev o302 : Obj := oF cc0 [(.str s142 804), (.str s142 805), (.str s1 806), iN 271, iN 1, iN 0, iN 0, iN 3, (.ref 458), (.bool true), iN 181, (.ref 459), .none, (.ref 460), (.ref 461), (.ref 462), iN 812, iN 271, (.str s1 813)]
noncomputable abbrev o303 : Obj := ⟨(.type cc2), none, (.func ⟨s142, s142, fdP (st 44), .stmts (fdB (st 44)), fdS (st 44), 3, [], .none, .none, .none, (.str s157 740), none, (.ref 463), .none, 0⟩), ⟨[]⟩⟩
noncomputable abbrev o304 : Obj := ⟨(.type cc1), none, (.seq ⟨[(.str s83 818), (.str s112 819), (.str s48 820)]⟩ 0), ⟨[]⟩⟩
noncomputable abbrev o305 : Obj := ⟨.none, none, (.func ⟨s143, s143, fdP (st 45), .stmts (fdB (st 45)), fdS (st 45), 0, [], .none, .none, .none, .none, none, .none, .none, 0⟩), ⟨[]⟩⟩
noncomputable abbrev o306 : Obj := oF cc0 [(.str s143 815), (.str s143 816), (.str s1 817), iN 284, iN 1, iN 0, iN 0, iN 3, (.ref 465), (.bool true), iN 181, (.ref 466), .none, (.ref 467), (.ref 468), (.ref 469), iN 821, iN 284, (.str s1 822)]
noncomputable abbrev o307 : Obj := ⟨(.type cc2), none, (.func ⟨s143, s143, fdP (st 45), .stmts (fdB (st 45)), fdS (st 45), 3, [], .none, .none, .none, (.str s157 740), none, (.ref 470), .none, 0⟩), ⟨[]⟩⟩
noncomputable abbrev s161 : Str := ⟨⟨[105,115,95,108,101,97,115,116]⟩⟩
noncomputable abbrev s162 : Str := ⟨⟨[114,111,117,110,100,101,100,95,102,111,114,109]⟩⟩
noncomputable abbrev s163 : Str := ⟨⟨[97,110,103,108,101,100,95,102,111,114,109]⟩⟩
noncomputable abbrev o308 : Obj := ⟨(.type cc1), none, (.seq ⟨[(.str s99 827), (.str s161 828), (.str s162 829), (.str s163 830)]⟩ 0), ⟨[]⟩⟩
noncomputable abbrev o309 : Obj := ⟨.none, none, (.func ⟨s144, s144, fdP (st 46), .stmts (fdB (st 46)), fdS (st 46), 0, [], .none, .none, .none, .none, none, .none, .none, 0⟩), ⟨[]⟩⟩
noncomputable abbrev o310 : Obj := oF cc0 [(.str s144 824), (.str s144 825), (.str s1 826), iN 290, iN 2, iN 0, iN 0, iN 3, (.ref 472), (.bool true), iN 181, (.ref 473), .none, (.ref 474), (.ref 475), (.ref 476), iN 831, iN 290, (.str s1 832)]
noncomputable abbrev o311 : Obj := ⟨(.type cc2), none, (.func ⟨s144, s144, fdP (st 46), .stmts (fdB (st 46)), fdS (st 46), 3, [], .none, .none, .none, (.str s157 740), none, (.ref 477), .none, 0⟩), ⟨[]⟩⟩
noncomputable abbrev o312 : Obj := ⟨(.type cc1), none, (.seq ⟨[(.str s100 837), (.str s99 838), (.str s161 839)]⟩ 0), ⟨[]⟩⟩
noncomputable abbrev o313 : Obj := ⟨.none, none, (.func ⟨s145, s145, fdP (st 47), .stmts (fdB (st 47)), fdS (st 47), 0, [], .none, .none, .none, .none, none, .none, .none, 0⟩), ⟨[]⟩⟩
noncomputable abbrev o314 : Obj := oF cc0 [(.str s145 834), (.str s145 835), (.str s1 836), iN 296, iN 3, iN 0, iN 0, iN 3, (.ref 479), (.bool true), iN 181, (.ref 480), .none, (.ref 481), (.ref 482), (.ref 483), iN 840, iN 296, (.str s1 841)]
noncomputable abbrev o315 : Obj := ⟨(.type cc2), none, (.func ⟨s145, s145, fdP (st 47), .stmts (fdB (st 47)), fdS (st 47), 3, [], .none, .none, .none, (.str s157 740), none, (.ref 484), .none, 0⟩), ⟨[]⟩⟩
noncomputable abbrev s164 : Str := ⟨⟨[112,97,114,116,115]⟩⟩
noncomputable abbrev o316 : Obj := ⟨(.type cc1), none, (.seq ⟨[(.str s164 846), (.str s99 847)]⟩ 0), ⟨[]⟩⟩
noncomputable abbrev o317 : Obj := ⟨.none, none, (.func ⟨s146, s146, fdP (st 48), .stmts (fdB (st 48)), fdS (st 48), 0, [], .none, .none, .none, .none, none, .none, .none, 0⟩), ⟨[]⟩⟩
noncomputable abbrev o318 : Obj := oF cc0 [(.str s146 843), (.str s146 844), (.str s1 845), iN 310, iN 2, iN 0, iN 0, iN 3, (.ref 486), (.bool true), iN 181, (.ref 487), .none, (.ref 488), (.ref 489), (.ref 490), iN 848, iN 310, (.str s1 849)]
noncomputable abbrev o319 : Obj := ⟨(.type cc2), none, (.func ⟨s146, s146, fdP (st 48), .stmts (fdB (st 48)), fdS (st 48), 3, [], .none, .none, .none, (.str s157 740), none, (.ref 491), .none, 0⟩), ⟨[]⟩⟩
noncomputable abbrev o320 : Obj := ⟨(.type cc1), none, (.seq ⟨[(.str s164 854), (.str s99 855), (.str s161 856), (.str s114 857)]⟩ 0), ⟨[]⟩⟩
noncomputable abbrev o321 : Obj := ⟨.none, none, (.func ⟨s147, s147, fdP (st 49), .stmts (fdB (st 49)), fdS (st 49), 0, [], .none, .none, .none, .none, none, .none, .none, 0⟩), ⟨[]⟩⟩
noncomputable abbrev o322 : Obj := oF cc0 [(.str s147 851), (.str s147 852), (.str s1 853), iN 316, iN 3, iN 0, iN 0, iN 3, (.ref 493), (.bool true), iN 181, (.ref 494), .none, (.ref 495), (.ref 496), (.ref 497), iN 858, iN 316, (.str s1 859)]
noncomputable abbrev o323 : Obj := ⟨(.type cc2), none, (.func ⟨s147, s147, fdP (st 49), .stmts (fdB (st 49)), fdS (st 49), 3, [], .none, .none, .none, (.str s157 740), none, (.ref 498), .none, 0⟩), ⟨[]⟩⟩
noncomputable abbrev o324 : Obj := ⟨(.type cc1), none, (.seq ⟨[(.str s164 864), (.str s99 865), (.str s161 866), (.str s100 867), (.str s105 868)]⟩ 0), ⟨[]⟩⟩
noncomputable abbrev o325 : Obj := ⟨.none, none, (.func ⟨s148, s148, fdP (st 50), .stmts (fdB (st 50)), fdS (st 50), 0, [], .none, .none, .none, .none, none, .none, .none, 0⟩), ⟨[]⟩⟩
noncomputable abbrev o326 : Obj := oF cc0 [(.str s148 861), (.str s148 862), (.str s1 863), iN 323, iN 3, iN 0, iN 0, iN 3, (.ref 500), (.bool true), iN 181, (.ref 501), .none, (.ref 502), (.ref 503), (.ref 504), iN 869, iN 323, (.str s1 870)]
noncomputable abbrev o327 : Obj := ⟨(.type cc2), none, (.func ⟨s148, s148, fdP (st 50), .stmts (fdB (st 50)), fdS (st 50), 3, [], .none, .none, .none, (.str s157 740), none, (.ref 505), .none, 0⟩), ⟨[]⟩⟩
noncomputable abbrev s165 : Str := ⟨⟨[98,101,102,111,114,101]⟩⟩
noncomputable abbrev s166 : Str := ⟨⟨[98,101,104,105,110,100]⟩⟩
noncomputable abbrev o328 : Obj := ⟨(.type cc1), none, (.seq ⟨[(.str s165 875), (.str s166 876)]⟩ 0), ⟨[]⟩⟩
noncomputable abbrev o329 : Obj := ⟨.none, none, (.func ⟨s149, s149, fdP (st 51), .stmts (fdB (st 51)), fdS (st 51), 0, [], .none, .none, .none, .none, none, .none, .none, 0⟩), ⟨[]⟩⟩
noncomputable abbrev o330 : Obj := oF cc0 [(.str s149 872), (.str s149 873), (.str s1 874), iN 336, iN 2, iN 0, iN 0, iN 3, (.ref 507), (.bool true), iN 181, (.ref 508), .none, (.ref 509), (.ref 510), (.ref 511), iN 877, iN 336, (.str s1 878)]
noncomputable abbrev o331 : Obj := ⟨(.type cc2), none, (.func ⟨s149, s149, fdP (st 51), .stmts (fdB (st 51)), fdS (st 51), 3, [], .none, .none, .none, (.str s157 740), none, (.ref 512), .none, 0⟩), ⟨[]⟩⟩
noncomputable abbrev o332 : Obj := ⟨(.type cc1), none, (.seq ⟨[(.str s164 883), (.str s161 884), (.str s112 885), (.str s38 886)]⟩ 0), ⟨[]⟩⟩
noncomputable abbrev o333 : Obj := ⟨.none, none, (.func ⟨s150, s150, fdP (st 52), .stmts (fdB (st 52)), fdS (st 52), 0, [], .none, .none, .none, .none, none, .none, .none, 0⟩), ⟨[]⟩⟩
noncomputable abbrev o334 : Obj := oF cc0 [(.str s150 880), (.str s150 881), (.str s1 882), iN 338, iN 2, iN 0, iN 0, iN 3, (.ref 514), (.bool true), iN 181, (.ref 515), .none, (.ref 516), (.ref 517), (.ref 518), iN 887, iN 338, (.str s1 888)]
noncomputable abbrev o335 : Obj := ⟨(.type cc2), none, (.func ⟨s150, s150, fdP (st 52), .stmts (fdB (st 52)), fdS (st 52), 3, [], .none, .none, .none, (.str s157 740), none, (.ref 519), .none, 0⟩), ⟨[]⟩⟩
noncomputable abbrev o336 : Obj := ⟨(.type cc1), none, (.seq ⟨[(.str s99 893), (.str s86 894), (.str s114 895)]⟩ 0), ⟨[]⟩⟩
noncomputable abbrev o337 : Obj := ⟨.none, none, (.func ⟨s151, s151, fdP (st 53), .stmts (fdB (st 53)), fdS (st 53), 0, [], .none, .none, .none, .none, none, .none, .none, 0⟩), ⟨[]⟩⟩
noncomputable abbrev o338 : Obj := oF cc0 [(.str s151 890), (.str s151 891), (.str s1 892), iN 347, iN 1, iN 0, iN 0, iN 3, (.ref 521), (.bool true), iN 181, (.ref 522), .none, (.ref 523), (.ref 524), (.ref 525), iN 896, iN 347, (.str s1 897)]
noncomputable abbrev o339 : Obj := ⟨(.type cc2), none, (.func ⟨s151, s151, fdP (st 53), .stmts (fdB (st 53)), fdS (st 53), 3, [], .none, .none, .none, (.str s157 740), none, (.ref 526), .none, 0⟩), ⟨[]⟩⟩
noncomputable abbrev s167 : Str := ⟨⟨[98,101,116,119,101,101,110]⟩⟩
noncomputable abbrev o340 : Obj := ⟨(.type cc1), none, (.seq ⟨[(.str s99 902), (.str s161 903), (.str s164 904), (.str s167 905)]⟩ 0), ⟨[]⟩⟩
noncomputable abbrev o341 : Obj := ⟨.none, none, (.func ⟨s152, s152, fdP (st 54), .stmts (fdB (st 54)), fdS (st 54), 0, [], .none, .none, .none, .none, none, .none, .none, 0⟩), ⟨[]⟩⟩
noncomputable abbrev o342 : Obj := oF cc0 [(.str s152 899), (.str s152 900), (.str s1 901), iN 353, iN 2, iN 0, iN 0, iN 3, (.ref 528), (.bool true), iN 181, (.ref 529), .none, (.ref 530), (.ref 531), (.ref 532), iN 906, iN 353, (.str s1 907)]
noncomputable abbrev o343 : Obj := ⟨(.type cc2), none, (.func ⟨s152, s152, fdP (st 54), .stmts (fdB (st 54)), fdS (st 54), 3, [], .none, .none, .none, (.str s157 740), none, (.ref 533), .none, 0⟩), ⟨[]⟩⟩
noncomputable abbrev s168 : Str := ⟨⟨[111,112,101,110,105,110,103]⟩⟩
noncomputable abbrev o344 : Obj := ⟨(.type cc1), none, (.seq ⟨[(.str s77 912), (.str s89 913), (.str s99 914), (.str s161 915), (.str s168 916)]⟩ 0), ⟨[]⟩⟩
noncomputable abbrev o345 : Obj := ⟨.none, none, (.func ⟨s153, s153, fdP (st 55), .stmts (fdB (st 55)), fdS (st 55), 0, [], .none, .none, .none, .none, none, .none, .none, 0⟩), ⟨[]⟩⟩
noncomputable abbrev o346 : Obj := oF cc0 [(.str s153 909), (.str s153 910), (.str s1 911), iN 363, iN 4, iN 0, iN 0, iN 3, (.ref 535), (.bool true), iN 181, (.ref 536), .none, (.ref 537), (.ref 538), (.ref 539), iN 917, iN 363, (.str s1 918)]
noncomputable abbrev o347 : Obj := ⟨(.type cc2), none, (.func ⟨s153, s153, fdP (st 55), .stmts (fdB (st 55)), fdS (st 55), 3, [], .none, .none, .none, (.str s157 740), none, (.ref 540), .none, 0⟩), ⟨[]⟩⟩
noncomputable abbrev s169 : Str := ⟨⟨[99,108,97,115,115,105,99]⟩⟩
noncomputable abbrev s170 : Str := ⟨⟨[115,116,114,101,97,109]⟩⟩
noncomputable abbrev s171 : Str := ⟨⟨[112,97,99,107,101,100]⟩⟩
noncomputable abbrev o348 : Obj := ⟨(.type cc1), none, (.seq ⟨[(.str s169 922), (.str s170 923), (.str s171 924)]⟩ 0), ⟨[]⟩⟩
noncomputable abbrev o349 : Obj := ⟨.none, none, (.func ⟨s155, s155, fdP (st 58), .stmts (fdB (st 58)), fdS (st 58), 0, [], .none, .none, .none, .none, none, .none, .none, 0⟩), ⟨[]⟩⟩
noncomputable abbrev o350 : Obj := oF cc0 [(.str s155 926), (.str s155 927), (.str s1 928), iN 370, iN 0, iN 0, iN 0, iN 3, (.ref 543), (.bool true), iN 181, (.ref 544), .none, (.ref 545), (.ref 546), (.ref 547), iN 929, iN 370, (.str s1 930)]
noncomputable abbrev o351 : Obj := ⟨(.type cc2), none, (.func ⟨s155, s155, fdP (st 58), .stmts (fdB (st 58)), fdS (st 58), 3, [], .none, .none, .none, (.str s127 920), none, (.ref 548), .none, 0⟩), ⟨[]⟩⟩
noncomputable abbrev o352 : Obj := ⟨.none, none, (.func ⟨s156, s156, fdP (st 59), .stmts (fdB (st 59)), fdS (st 59), 0, [], .none, .none, .none, .none, none, .none, .none, 0⟩), ⟨[]⟩⟩
noncomputable abbrev o353 : Obj := oF cc0 [(.str s156 932), (.str s156 933), (.str s1 934), iN 372, iN 1, iN 0, iN 0, iN 3, (.ref 550), (.bool true), iN 181, (.ref 551), .none, .none, .none, (.ref 552), iN 935, iN 372, (.str s1 936)]
noncomputable abbrev o354 : Obj := ⟨(.type cc2), none, (.func ⟨s156, s156, fdP (st 59), .stmts (fdB (st 59)), fdS (st 59), 3, [], .none, .none, .none, (.str s127 920), none, (.ref 553), .none, 0⟩), ⟨[]⟩⟩
noncomputable abbrev s172 : Str := ⟨⟨[108,97,119,95,110,110,48,49,52,56,95,48,49]⟩⟩
noncomputable abbrev s173 : Str := ⟨⟨[108,97,115,116,95,110,117,109,98,101,114]⟩⟩
noncomputable abbrev s174 : Str := ⟨⟨[111,98,106,101,99,116,95,111,102,102,115,101,116,115]⟩⟩
noncomputable abbrev s175 : Str := ⟨⟨[117,115,101,100,95,101,110,116,114,105,101,115]⟩⟩
noncomputable abbrev s176 : Str := ⟨⟨[119,105,116,104,95,102,114,101,101]⟩⟩
noncomputable abbrev s177 : Str := ⟨⟨[112,97,99,107,101,100,95,101,110,116,114,105,101,115]⟩⟩
noncomputable abbrev s178 : Str := ⟨⟨[112,108,97,99,101,100,95,111,98,106,101,99,116,115]⟩⟩
noncomputable abbrev s179 : Str := ⟨⟨[99,104,101,99,107,95,119,97,121]⟩⟩
noncomputable abbrev s180 : Str := ⟨⟨[95,108,97,119,95,112,101,110]⟩⟩
noncomputable abbrev s181 : Str := ⟨⟨[95,108,97,119,95,100,114,97,119]⟩⟩
noncomputable abbrev s182 : Str := ⟨⟨[95,108,97,119,95,112,105,99,107]⟩⟩
noncomputable abbrev s183 : Str := ⟨⟨[95,108,97,119,95,111,99,116,101,116,115]⟩⟩
noncomputable abbrev s184 : Str := ⟨⟨[95,108,97,119,95,108,105,110,101,115]⟩⟩
noncomputable abbrev s185 : Str := ⟨⟨[95,108,97,119,95,103,114,111,117,112,115]⟩⟩
noncomputable abbrev s186 : Str := ⟨⟨[95,108,97,119,95,100,117,101]⟩⟩
noncomputable abbrev s187 : Str := ⟨⟨[95,108,97,119,95,116,111,108,100]⟩⟩
noncomputable abbrev s188 : Str := ⟨⟨[95,108,97,119,95,105,115,95,108,101,116]⟩⟩
noncomputable abbrev s189 : Str := ⟨⟨[108,97,119]⟩⟩
noncomputable abbrev o355 (P : Params) : Obj := ⟨(.type cc3), none, (.dict ⟨[⟨(PyData.keyHash P s5), (.str s5 165), (.str s172 1004)⟩, ⟨(PyData.keyHash P s7), (.str s7 166), .none⟩, ⟨(PyData.keyHash P s8), (.str s8 167), .none⟩, ⟨(PyData.keyHash P s9), (.str s9 168), (.builtin SL.s7097527257260152453x26)⟩, ⟨(PyData.keyHash P s10), (.str s10 169), .none⟩, ⟨(PyData.keyHash P s11), (.str s11 170), (.ref 6)⟩, ⟨(PyData.keyHash P s12), (.str s12 171), (.ref 4)⟩, ⟨(PyData.keyHash P s13), (.str s13 173), (.str s1 172)⟩, ⟨(PyData.keyHash P s14), (.str s14 174), .none⟩, ⟨(PyData.keyHash P s15), (.str s15 193), (.ref 21)⟩, ⟨(PyData.keyHash P s16), (.str s16 197), (.int (.ofNat 65535) 196)⟩, ⟨(PyData.keyHash P s17), (.str s17 237), (.ref 45)⟩, ⟨(PyData.keyHash P s18), (.str s18 243), (.ref 54)⟩, ⟨(PyData.keyHash P s19), (.str s19 285), (.ref 79)⟩, ⟨(PyData.keyHash P s20), (.str s20 301), (.ref 92)⟩, ⟨(PyData.keyHash P s42), (.str s42 310), (.ref 95)⟩, ⟨(PyData.keyHash P s43), (.str s43 321), (.ref 96)⟩, ⟨(PyData.keyHash P s44), (.str s44 328), (.ref 103)⟩, ⟨(PyData.keyHash P s45), (.str s45 445), (.ref 197)⟩, ⟨(PyData.keyHash P s46), (.str s46 452), (.ref 208)⟩, ⟨(PyData.keyHash P s47), (.str s47 456), (.int (.ofNat 30) 455)⟩, ⟨(PyData.keyHash P s78), (.str s78 485), (.ref 225)⟩, ⟨(PyData.keyHash P s79), (.str s79 516), (.ref 247)⟩, ⟨(PyData.keyHash P s80), (.str s80 547), (.ref 268)⟩, ⟨(PyData.keyHash P s81), (.str s81 585), (.ref 296)⟩, ⟨(PyData.keyHash P s92), (.str s92 592), (.ref 307)⟩, ⟨(PyData.keyHash P s93), (.str s93 600), (.ref 314)⟩, ⟨(PyData.keyHash P s27), (.str s27 606), (.ref 319)⟩, ⟨(PyData.keyHash P s94), (.str s94 607), (.ref 319)⟩, ⟨(PyData.keyHash P s95), (.str s95 613), (.ref 324)⟩, ⟨(PyData.keyHash P s96), (.str s96 625), (.ref 331)⟩, ⟨(PyData.keyHash P s97), (.str s97 677), (.ref 363)⟩, ⟨(PyData.keyHash P s98), (.str s98 739), (.ref 417)⟩, ⟨(PyData.keyHash P s128), (.str s128 743), (.int (.ofNat 40) 742)⟩, ⟨(PyData.keyHash P s129), (.str s129 745), (.int (.ofNat 40) 744)⟩, ⟨(PyData.keyHash P s130), (.str s130 747), (.int (.ofNat 92) 746)⟩, ⟨(PyData.keyHash P s131), (.str s131 749), (.int (.ofNat 40) 748)⟩, ⟨(PyData.keyHash P s132), (.str s132 751), (.int (.ofNat 41) 750)⟩, ⟨(PyData.keyHash P s133), (.str s133 753), (.int (.ofNat 13) 752)⟩, ⟨(PyData.keyHash P s134), (.str s134 755), (.int (.ofNat 35) 754)⟩, ⟨(PyData.keyHash P s135), (.str s135 757), (.bytes ⟨[48,49,50,51,52,53,54,55,56,57,65,66,67,68,69,70]⟩ 756)⟩, ⟨(PyData.keyHash P s136), (.str s136 763), (.ref 424)⟩, ⟨(PyData.keyHash P s137), (.str s137 770), (.ref 431)⟩, ⟨(PyData.keyHash P s138), (.str s138 780), (.ref 438)⟩, ⟨(PyData.keyHash P s139), (.str s139 787), (.ref 445)⟩, ⟨(PyData.keyHash P s140), (.str s140 793), (.ref 450)⟩, ⟨(PyData.keyHash P s141), (.str s141 803), (.ref 457)⟩, ⟨(PyData.keyHash P s142), (.str s142 814), (.ref 464)⟩, ⟨(PyData.keyHash P s143), (.str s143 823), (.ref 471)⟩, ⟨(PyData.keyHash P s144), (.str s144 833), (.ref 478)⟩, ⟨(PyData.keyHash P s145), (.str s145 842), (.ref 485)⟩, ⟨(PyData.keyHash P s146), (.str s146 850), (.ref 492)⟩, ⟨(PyData.keyHash P s147), (.str s147 860), (.ref 499)⟩, ⟨(PyData.keyHash P s148), (.str s148 871), (.ref 506)⟩, ⟨(PyData.keyHash P s149), (.str s149 879), (.ref 513)⟩, ⟨(PyData.keyHash P s150), (.str s150 889), (.ref 520)⟩, ⟨(PyData.keyHash P s151), (.str s151 898), (.ref 527)⟩, ⟨(PyData.keyHash P s152), (.str s152 908), (.ref 534)⟩, ⟨(PyData.keyHash P s153), (.str s153 919), (.ref 541)⟩, ⟨(PyData.keyHash P s154), (.str s154 925), (.ref 542)⟩, ⟨(PyData.keyHash P s155), (.str s155 931), (.ref 549)⟩, ⟨(PyData.keyHash P s156), (.str s156 937), (.ref 554)⟩, ⟨(PyData.keyHash P s173), (.str s173 944), (.ref 561)⟩, ⟨(PyData.keyHash P s174), (.str s174 960), (.ref 568)⟩, ⟨(PyData.keyHash P s175), (.str s175 972), (.ref 575)⟩, ⟨(PyData.keyHash P s176), (.str s176 978), (.ref 580)⟩, ⟨(PyData.keyHash P s177), (.str s177 989), (.ref 587)⟩, ⟨(PyData.keyHash P s178), (.str s178 995), (.ref 592)⟩, ⟨(PyData.keyHash P s179), (.str s179 1003), (.ref 599)⟩, ⟨(PyData.keyHash P s180), (.str s180 1011), (.ref 604)⟩, ⟨(PyData.keyHash P s181), (.str s181 1020), (.ref 611)⟩, ⟨(PyData.keyHash P s182), (.str s182 1028), (.ref 618)⟩, ⟨(PyData.keyHash P s183), (.str s183 1034), (.ref 623)⟩, ⟨(PyData.keyHash P s184), (.str s184 1043), (.ref 630)⟩, ⟨(PyData.keyHash P s185), (.str s185 1049), (.ref 635)⟩, ⟨(PyData.keyHash P s186), (.str s186 1055), (.ref 640)⟩, ⟨(PyData.keyHash P s187), (.str s187 1061), (.ref 645)⟩, ⟨(PyData.keyHash P s188), (.str s188 1069), (.ref 652)⟩, ⟨(PyData.keyHash P s189), (.str s189 1075), (.ref 657)⟩]⟩ 79), ⟨[]⟩⟩
noncomputable abbrev o356 : Obj := ⟨.none, none, (.fields ⟨[iN 1, iN 0, (.ref 20), iN 6, iN 0, (.ref 27), iN 15, iN 0, (.ref 53), iN 23, iN 0, (.ref 60), iN 32, iN 0, (.ref 88), iN 37, iN 0, (.ref 102), iN 40, iN 0, (.ref 109), iN 88, iN 0, (.ref 207), iN 92, iN 0, (.ref 214), iN 96, iN 0, (.ref 235), iN 101, iN 0, (.ref 257), iN 106, iN 0, (.ref 278), iN 114, iN 0, (.ref 306), iN 136, iN 0, (.ref 313), iN 150, iN 0, (.ref 318), iN 160, iN 0, (.ref 323), iN 169, iN 0, (.ref 330), iN 179, iN 0, (.ref 337), iN 198, iN 0, (.ref 373), iN 227, iN 0, (.ref 423), iN 229, iN 0, (.ref 430), iN 231, iN 0, (.ref 437), iN 243, iN 0, (.ref 444), iN 247, iN 0, (.ref 449), iN 257, iN 0, (.ref 456), iN 271, iN 0, (.ref 463), iN 284, iN 0, (.ref 470), iN 290, iN 0, (.ref 477), iN 296, iN 0, (.ref 484), iN 310, iN 0, (.ref 491), iN 316, iN 0, (.ref 498), iN 323, iN 0, (.ref 505), iN 336, iN 0, (.ref 512), iN 338, iN 0, (.ref 519), iN 347, iN 0, (.ref 526), iN 353, iN 0, (.ref 533), iN 363, iN 0, (.ref 540), iN 370, iN 0, (.ref 548), iN 372, iN 0, (.ref 553), iN 374, iN 0, (.ref 560), iN 376, iN 0, (.ref 567), iN 386, iN 0, (.ref 574), iN 391, iN 0, (.ref 579), iN 397, iN 0, (.ref 586), iN 403, iN 0, (.ref 591), iN 416, iN 0, (.ref 598), iN 422, iN 0, (.ref 603), iN 424, iN 0, (.ref 610), iN 431, iN 0, (.ref 617), iN 433, iN 0, (.ref 622), iN 435, iN 0, (.ref 629), iN 437, iN 0, (.ref 634), iN 445, iN 0, (.ref 639), iN 455, iN 0, (.ref 644), iN 465, iN 0, (.ref 651), iN 471, iN 0, (.ref 656)]⟩), ⟨[]⟩⟩
noncomputable abbrev s190 : Str := ⟨⟨[115,104,101,108,102]⟩⟩
noncomputable abbrev o357 : Obj := ⟨(.type cc1), none, (.seq ⟨[(.str s190 941)]⟩ 0), ⟨[]⟩⟩
noncomputable abbrev o358 : Obj := ⟨.none, none, (.func ⟨s173, s173, fdP (st 60), .stmts (fdB (st 60)), fdS (st 60), 0, [], .none, .none, .none, .none, none, .none, .none, 0⟩), ⟨[]⟩⟩
noncomputable abbrev o359 : Obj := oF cc0 [(.str s173 938), (.str s173 939), (.str s1 940), iN 374, iN 1, iN 0, iN 0, iN 3, (.ref 555), (.bool true), iN 181, (.ref 556), .none, (.ref 557), (.ref 558), (.ref 559), iN 942, iN 374, (.str s1 943)]
noncomputable abbrev o360 : Obj := ⟨(.type cc2), none, (.func ⟨s173, s173, fdP (st 60), .stmts (fdB (st 60)), fdS (st 60), 3, [], .none, .none, .none, (.str s127 920), none, (.ref 560), .none, 0⟩), ⟨[]⟩⟩
noncomputable abbrev s191 : Str := ⟨⟨[114,111,119,115]⟩⟩
noncomputable abbrev s192 : Str := ⟨⟨[98,101,103,105,110]⟩⟩
noncomputable abbrev s193 : Str := ⟨⟨[119,114,105,116,116,101,110]⟩⟩
noncomputable abbrev s194 : Str := ⟨⟨[111,102,102,115,101,116,115]⟩⟩
noncomputable abbrev o361 : Obj := ⟨(.type cc1), none, (.seq ⟨[(.str s191 948), (.str s192 949), (.str s161 950), (.str s193 951), (.str s194 952), (.str s38 953), (.str s77 954), (.str s89 955), (.str s99 956), (.str s83 957)]⟩ 0), ⟨[]⟩⟩
noncomputable abbrev o362 : Obj := ⟨.none, none, (.func ⟨s174, s174, fdP (st 61), .stmts (fdB (st 61)), fdS (st 61), 0, [], .none, .none, .none, .none, none, .none, .none, 0⟩), ⟨[]⟩⟩
noncomputable abbrev o363 : Obj := oF cc0 [(.str s174 945), (.str s174 946), (.str s1 947), iN 376, iN 3, iN 0, iN 0, iN 3, (.ref 562), (.bool true), iN 181, (.ref 563), .none, (.ref 564), (.ref 565), (.ref 566), iN 958, iN 376, (.str s1 959)]
noncomputable abbrev o364 : Obj := ⟨(.type cc2), none, (.func ⟨s174, s174, fdP (st 61), .stmts (fdB (st 61)), fdS (st 61), 3, [], .none, .none, .none, (.str s127 920), none, (.ref 567), .none, 0⟩), ⟨[]⟩⟩
noncomputable abbrev s195 : Str := ⟨⟨[101,110,116,114,105,101,115]⟩⟩
noncomputable abbrev o365 : Obj := ⟨(.type cc1), none, (.seq ⟨[(.str s191 964), (.str s194 965), (.str s195 966), (.str s77 967), (.str s89 968), (.str s99 969)]⟩ 0), ⟨[]⟩⟩
noncomputable abbrev o366 : Obj := ⟨.none, none, (.func ⟨s175, s175, fdP (st 62), .stmts (fdB (st 62)), fdS (st 62), 0, [], .none, .none, .none, .none, none, .none, .none, 0⟩), ⟨[]⟩⟩
noncomputable abbrev o367 : Obj := oF cc0 [(.str s175 961), (.str s175 962), (.str s1 963), iN 386, iN 2, iN 0, iN 0, iN 3, (.ref 569), (.bool true), iN 181, (.ref 570), .none, (.ref 571), (.ref 572), (.ref 573), iN 970, iN 386, (.str s1 971)]
noncomputable abbrev o368 : Obj := ⟨(.type cc2), none, (.func ⟨s175, s175, fdP (st 62), .stmts (fdB (st 62)), fdS (st 62), 3, [], .none, .none, .none, (.str s127 920), none, (.ref 574), .none, 0⟩), ⟨[]⟩⟩
noncomputable abbrev o369 : Obj := ⟨.none, none, (.func ⟨s176, s176, fdP (st 63), .stmts (fdB (st 63)), fdS (st 63), 0, [], .none, .none, .none, .none, none, .none, .none, 0⟩), ⟨[]⟩⟩
noncomputable abbrev o370 : Obj := oF cc0 [(.str s176 973), (.str s176 974), (.str s1 975), iN 391, iN 2, iN 0, iN 0, iN 3, (.ref 576), (.bool true), iN 181, (.ref 577), .none, .none, .none, (.ref 578), iN 976, iN 391, (.str s1 977)]
noncomputable abbrev o371 : Obj := ⟨(.type cc2), none, (.func ⟨s176, s176, fdP (st 63), .stmts (fdB (st 63)), fdS (st 63), 3, [], .none, .none, .none, (.str s127 920), none, (.ref 579), .none, 0⟩), ⟨[]⟩⟩
noncomputable abbrev s196 : Str := ⟨⟨[103,114,111,117,112,115]⟩⟩
noncomputable abbrev s197 : Str := ⟨⟨[102,105,114,115,116]⟩⟩
noncomputable abbrev s198 : Str := ⟨⟨[115,112,111,116]⟩⟩
noncomputable abbrev s199 : Str := ⟨⟨[105,110,100,101,120]⟩⟩
noncomputable abbrev o372 : Obj := ⟨(.type cc1), none, (.seq ⟨[(.str s196 982), (.str s197 983), (.str s195 984), (.str s198 985), (.str s199 986)]⟩ 0), ⟨[]⟩⟩
noncomputable abbrev o373 : Obj := ⟨.none, none, (.func ⟨s177, s177, fdP (st 64), .stmts (fdB (st 64)), fdS (st 64), 0, [], .none, .none, .none, .none, none, .none, .none, 0⟩), ⟨[]⟩⟩
noncomputable abbrev o374 : Obj := oF cc0 [(.str s177 979), (.str s177 980), (.str s1 981), iN 397, iN 2, iN 0, iN 0, iN 3, (.ref 581), (.bool true), iN 181, (.ref 582), .none, (.ref 583), (.ref 584), (.ref 585), iN 987, iN 397, (.str s1 988)]
noncomputable abbrev o375 : Obj := ⟨(.type cc2), none, (.func ⟨s177, s177, fdP (st 64), .stmts (fdB (st 64)), fdS (st 64), 3, [], .none, .none, .none, (.str s127 920), none, (.ref 586), .none, 0⟩), ⟨[]⟩⟩
noncomputable abbrev o376 : Obj := ⟨.none, none, (.func ⟨s178, s178, fdP (st 65), .stmts (fdB (st 65)), fdS (st 65), 0, [], .none, .none, .none, .none, none, .none, .none, 0⟩), ⟨[]⟩⟩
noncomputable abbrev o377 : Obj := oF cc0 [(.str s178 990), (.str s178 991), (.str s1 992), iN 403, iN 4, iN 0, iN 0, iN 3, (.ref 588), (.bool true), iN 181, (.ref 589), .none, .none, .none, (.ref 590), iN 993, iN 403, (.str s1 994)]
noncomputable abbrev o378 : Obj := ⟨(.type cc2), none, (.func ⟨s178, s178, fdP (st 65), .stmts (fdB (st 65)), fdS (st 65), 3, [], .none, .none, .none, (.str s127 920), none, (.ref 591), .none, 0⟩), ⟨[]⟩⟩
noncomputable abbrev o379 : Obj := ⟨(.type cc1), none, (.seq ⟨[(.str s190 999), (.str s30 1000)]⟩ 0), ⟨[]⟩⟩
noncomputable abbrev o380 : Obj := ⟨.none, none, (.func ⟨s179, s179, fdP (st 66), .stmts (fdB (st 66)), fdS (st 66), 0, [], .none, .none, .none, .none, none, .none, .none, 0⟩), ⟨[]⟩⟩
noncomputable abbrev o381 : Obj := oF cc0 [(.str s179 996), (.str s179 997), (.str s1 998), iN 416, iN 2, iN 0, iN 0, iN 3, (.ref 593), (.bool true), iN 181, (.ref 594), .none, (.ref 595), (.ref 596), (.ref 597), iN 1001, iN 416, (.str s1 1002)]
noncomputable abbrev o382 : Obj := ⟨(.type cc2), none, (.func ⟨s179, s179, fdP (st 66), .stmts (fdB (st 66)), fdS (st 66), 3, [], .none, .none, .none, (.str s127 920), none, (.ref 598), .none, 0⟩), ⟨[]⟩⟩
noncomputable abbrev o383 : Obj := ⟨.none, none, (.func ⟨s180, s180, fdP (st 68), .stmts (fdB (st 68)), fdS (st 68), 0, [], .none, .none, .none, .none, none, .none, .none, 0⟩), ⟨[]⟩⟩
noncomputable abbrev o384 : Obj := oF cc0 [(.str s180 1006), (.str s180 1007), (.str s1 1008), iN 422, iN 1, iN 0, iN 0, iN 3, (.ref 600), (.bool true), iN 181, (.ref 601), .none, .none, .none, (.ref 602), iN 1009, iN 422, (.str s1 1010)]
noncomputable abbrev o385 : Obj := ⟨(.type cc2), none, (.func ⟨s180, s180, fdP (st 68), .stmts (fdB (st 68)), fdS (st 68), 3, [], .none, .none, .none, (.str s172 1004), none, (.ref 603), .none, 0⟩), ⟨[]⟩⟩
noncomputable abbrev s200 : Str := ⟨⟨[112,101,110]⟩⟩
noncomputable abbrev s201 : Str := ⟨⟨[109,97,110,121]⟩⟩
noncomputable abbrev s202 : Str := ⟨⟨[100,105,103,105,116]⟩⟩
noncomputable abbrev o386 : Obj := ⟨(.type cc1), none, (.seq ⟨[(.str s200 1015), (.str s201 1016), (.str s202 1017)]⟩ 0), ⟨[]⟩⟩
noncomputable abbrev o387 : Obj := ⟨.none, none, (.func ⟨s181, s181, fdP (st 69), .stmts (fdB (st 69)), fdS (st 69), 0, [], .none, .none, .none, .none, none, .none, .none, 0⟩), ⟨[]⟩⟩
noncomputable abbrev o388 : Obj := oF cc0 [(.str s181 1012), (.str s181 1013), (.str s1 1014), iN 424, iN 2, iN 0, iN 0, iN 3, (.ref 605), (.bool true), iN 181, (.ref 606), .none, (.ref 607), (.ref 608), (.ref 609), iN 1018, iN 424, (.str s1 1019)]
noncomputable abbrev o389 : Obj := ⟨(.type cc2), none, (.func ⟨s181, s181, fdP (st 69), .stmts (fdB (st 69)), fdS (st 69), 3, [], .none, .none, .none, (.str s172 1004), none, (.ref 610), .none, 0⟩), ⟨[]⟩⟩
noncomputable abbrev s203 : Str := ⟨⟨[115,111,109,101]⟩⟩
noncomputable abbrev o390 : Obj := ⟨(.type cc1), none, (.seq ⟨[(.str s200 1024), (.str s203 1025)]⟩ 0), ⟨[]⟩⟩
noncomputable abbrev o391 : Obj := ⟨.none, none, (.func ⟨s182, s182, fdP (st 70), .stmts (fdB (st 70)), fdS (st 70), 0, [], .none, .none, .none, .none, none, .none, .none, 0⟩), ⟨[]⟩⟩
noncomputable abbrev o392 : Obj := oF cc0 [(.str s182 1021), (.str s182 1022), (.str s1 1023), iN 431, iN 2, iN 0, iN 0, iN 3, (.ref 612), (.bool true), iN 181, (.ref 613), .none, (.ref 614), (.ref 615), (.ref 616), iN 1026, iN 431, (.str s1 1027)]
noncomputable abbrev o393 : Obj := ⟨(.type cc2), none, (.func ⟨s182, s182, fdP (st 70), .stmts (fdB (st 70)), fdS (st 70), 3, [], .none, .none, .none, (.str s172 1004), none, (.ref 617), .none, 0⟩), ⟨[]⟩⟩
noncomputable abbrev o394 : Obj := ⟨.none, none, (.func ⟨s183, s183, fdP (st 71), .stmts (fdB (st 71)), fdS (st 71), 0, [], .none, .none, .none, .none, none, .none, .none, 0⟩), ⟨[]⟩⟩
noncomputable abbrev o395 : Obj := oF cc0 [(.str s183 1029), (.str s183 1030), (.str s1 1031), iN 433, iN 1, iN 0, iN 0, iN 3, (.ref 619), (.bool true), iN 181, (.ref 620), .none, .none, .none, (.ref 621), iN 1032, iN 433, (.str s1 1033)]
noncomputable abbrev o396 : Obj := ⟨(.type cc2), none, (.func ⟨s183, s183, fdP (st 71), .stmts (fdB (st 71)), fdS (st 71), 3, [], .none, .none, .none, (.str s172 1004), none, (.ref 622), .none, 0⟩), ⟨[]⟩⟩
noncomputable abbrev o397 : Obj := ⟨(.type cc1), none, (.seq ⟨[(.str s77 1038), (.str s89 1039), (.str s59 1040)]⟩ 0), ⟨[]⟩⟩
noncomputable abbrev o398 : Obj := ⟨.none, none, (.func ⟨s184, s184, fdP (st 72), .stmts (fdB (st 72)), fdS (st 72), 0, [], .none, .none, .none, .none, none, .none, .none, 0⟩), ⟨[]⟩⟩
noncomputable abbrev o399 : Obj := oF cc0 [(.str s184 1035), (.str s184 1036), (.str s1 1037), iN 435, iN 3, iN 0, iN 0, iN 3, (.ref 624), (.bool true), iN 181, (.ref 625), .none, (.ref 626), (.ref 627), (.ref 628), iN 1041, iN 435, (.str s1 1042)]
noncomputable abbrev o400 : Obj := ⟨(.type cc2), none, (.func ⟨s184, s184, fdP (st 72), .stmts (fdB (st 72)), fdS (st 72), 3, [], .none, .none, .none, (.str s172 1004), none, (.ref 629), .none, 0⟩), ⟨[]⟩⟩
noncomputable abbrev o401 : Obj := ⟨.none, none, (.func ⟨s185, s185, fdP (st 73), .stmts (fdB (st 73)), fdS (st 73), 0, [], .none, .none, .none, .none, none, .none, .none, 0⟩), ⟨[]⟩⟩
noncomputable abbrev o402 : Obj := oF cc0 [(.str s185 1044), (.str s185 1045), (.str s1 1046), iN 437, iN 2, iN 0, iN 0, iN 3, (.ref 631), (.bool true), iN 181, (.ref 632), .none, .none, .none, (.ref 633), iN 1047, iN 437, (.str s1 1048)]
noncomputable abbrev o403 : Obj := ⟨(.type cc2), none, (.func ⟨s185, s185, fdP (st 73), .stmts (fdB (st 73)), fdS (st 73), 3, [], .none, .none, .none, (.str s172 1004), none, (.ref 634), .none, 0⟩), ⟨[]⟩⟩
noncomputable abbrev o404 : Obj := ⟨.none, none, (.func ⟨s186, s186, fdP (st 74), .stmts (fdB (st 74)), fdS (st 74), 0, [], .none, .none, .none, .none, none, .none, .none, 0⟩), ⟨[]⟩⟩
noncomputable abbrev o405 : Obj := oF cc0 [(.str s186 1050), (.str s186 1051), (.str s1 1052), iN 445, iN 4, iN 0, iN 0, iN 3, (.ref 636), (.bool true), iN 181, (.ref 637), .none, .none, .none, (.ref 638), iN 1053, iN 445, (.str s1 1054)]
noncomputable abbrev o406 : Obj := ⟨(.type cc2), none, (.func ⟨s186, s186, fdP (st 74), .stmts (fdB (st 74)), fdS (st 74), 3, [], .none, .none, .none, (.str s172 1004), none, (.ref 639), .none, 0⟩), ⟨[]⟩⟩
noncomputable abbrev o407 : Obj := ⟨.none, none, (.func ⟨s187, s187, fdP (st 75), .stmts (fdB (st 75)), fdS (st 75), 0, [], .none, .none, .none, .none, none, .none, .none, 0⟩), ⟨[]⟩⟩
noncomputable abbrev o408 : Obj := oF cc0 [(.str s187 1056), (.str s187 1057), (.str s1 1058), iN 455, iN 7, iN 0, iN 0, iN 3, (.ref 641), (.bool true), iN 181, (.ref 642), .none, .none, .none, (.ref 643), iN 1059, iN 455, (.str s1 1060)]
noncomputable abbrev o409 : Obj := ⟨(.type cc2), none, (.func ⟨s187, s187, fdP (st 75), .stmts (fdB (st 75)), fdS (st 75), 3, [], .none, .none, .none, (.str s172 1004), none, (.ref 644), .none, 0⟩), ⟨[]⟩⟩
noncomputable abbrev o410 : Obj := ⟨(.type cc1), none, (.seq ⟨[(.str s190 1065), (.str s30 1066)]⟩ 0), ⟨[]⟩⟩
noncomputable abbrev o411 : Obj := ⟨.none, none, (.func ⟨s188, s188, fdP (st 76), .stmts (fdB (st 76)), fdS (st 76), 0, [], .none, .none, .none, .none, none, .none, .none, 0⟩), ⟨[]⟩⟩
noncomputable abbrev o412 : Obj := oF cc0 [(.str s188 1062), (.str s188 1063), (.str s1 1064), iN 465, iN 2, iN 0, iN 0, iN 3, (.ref 646), (.bool true), iN 181, (.ref 647), .none, (.ref 648), (.ref 649), (.ref 650), iN 1067, iN 465, (.str s1 1068)]
noncomputable abbrev o413 : Obj := ⟨(.type cc2), none, (.func ⟨s188, s188, fdP (st 76), .stmts (fdB (st 76)), fdS (st 76), 3, [], .none, .none, .none, (.str s172 1004), none, (.ref 651), .none, 0⟩), ⟨[]⟩⟩
noncomputable abbrev o414 : Obj := ⟨.none, none, (.func ⟨s189, s189, fdP (st 77), .stmts (fdB (st 77)), fdS (st 77), 0, [], .none, .none, .none, .none, none, .none, .none, 0⟩), ⟨[]⟩⟩
noncomputable abbrev o415 : Obj := oF cc0 [(.str s189 1070), (.str s189 1071), (.str s1 1072), iN 471, iN 1, iN 0, iN 0, iN 3, (.ref 653), (.bool true), iN 181, (.ref 654), .none, .none, .none, (.ref 655), iN 1073, iN 471, (.str s1 1074)]
noncomputable abbrev o416 : Obj := ⟨(.type cc2), none, (.func ⟨s189, s189, fdP (st 77), .stmts (fdB (st 77)), fdS (st 77), 3, [], .none, .none, .none, (.str s172 1004), none, (.ref 656), .none, 0⟩), ⟨[]⟩⟩
noncomputable def T0 (P : Params) : BT := (N (boot_o_0 P) (N (boot_o_1 P) (N (boot_o_3 P) (Lf (boot_o_7 P)) (Lf o0)) (N (boot_o_5 P) (Lf (boot_o_9 P)) (Lf o2))) (N (boot_o_2 P) (N (boot_o_4 P) (Lf (boot_o_8 P)) (Lf o1)) (N (boot_o_6 P) (Lf (boot_o_10 P)) (Lf o3))))
noncomputable def T1 (P : Params) : BT := (N (boot_o_0 P) (N (boot_o_1 P) (N (o5 P) (N (boot_o_7 P) (N o0 (N o16 (Lf o0) E) (N o28 (Lf o50) E)) (N o11 (N o0 (Lf o1) E) (N o34 (Lf o1) E))) (N o0 (N o8 (N o19 (Lf o41) E) (N o1 (Lf o54) E)) (N o14 (N o24 (Lf o46) E) (N o36 (Lf (o58 P)) E)))) (N (boot_o_5 P) (N (boot_o_9 P) (N o7 (N o17 (Lf o40) E) (N o30 (Lf o52) E)) (N o0 (N o22 (Lf o0) E) (N (o35 P) (Lf o57) E))) (N o2 (N o10 (N o1 (Lf o43) E) (N o32 (Lf (o55 P)) E)) (N o0 (N o26 (Lf o48) E) (N o38 (Lf o60) E))))) (N (o4 P) (N (boot_o_4 P) (N (boot_o_8 P) (N o1 (N o0 (Lf o1) E) (N o29 (Lf o51) E)) (N (o12 P) (N o21 (Lf o44) E) (N o11 (Lf o56) E))) (N o6 (N o9 (N o0 (Lf o42) E) (N o31 (Lf o11) E)) (N o15 (N (o25 P) (Lf o47) E) (N o37 (Lf o59) E)))) (N (boot_o_6 P) (N (boot_o_10 P) (N o0 (N o18 (Lf o0) E) (N o0 (Lf o53) E)) (N o13 (N o23 (Lf o45) E) (N o0 (Lf o0) E))) (N o3 (N o0 (N o20 (Lf o0) E) (N o33 (Lf o0) E)) (N o1 (N o27 (Lf (o49 P)) E) (N o39 (Lf o61) E))))))
noncomputable def T2 (P : Params) : BT := (N (boot_o_0 P) (N (boot_o_1 P) (N (o62 P) (N (boot_o_7 P) (N o0 (N o16 (N o0 (Lf o82) (Lf o0)) (N o64 (Lf o101) E)) (N o28 (N o50 (Lf o91) (Lf o131)) (N o0 (Lf o1) E))) (N o11 (N o0 (N o1 (Lf o0) (Lf o126)) (N o69 (Lf o0) E)) (N o34 (N o1 (Lf o96) E) (N o1 (Lf o114) E)))) (N o0 (N o8 (N o19 (N o41 (Lf o85) (Lf o122)) (N o66 (Lf o0) E)) (N o1 (N o54 (Lf o1) E) (N o75 (Lf o112) E))) (N o14 (N o24 (N o46 (Lf o0) (Lf o1)) (N o0 (Lf o107) E)) (N o36 (N (o58 P) (Lf o98) E) (N o80 (Lf o117) E))))) (N (boot_o_5 P) (N (boot_o_9 P) (N o7 (N o17 (N o40 (Lf o83) (Lf o120)) (N o0 (Lf o1) E)) (N o30 (N o52 (Lf o93) E) (N o74 (Lf o0) E))) (N o0 (N o22 (N o0 (Lf o88) (Lf o128)) (N o11 (Lf o106) E)) (N (o35 P) (N o57 (Lf o0) E) (N o0 (Lf o115) E)))) (N o2 (N o10 (N o1 (N o43 (Lf o1) (Lf o124)) (N o67 (Lf o104) E)) (N o32 (N (o55 P) (Lf o0) E) (N o77 (Lf o0) E))) (N o0 (N o26 (N o48 (Lf o90) (Lf o0)) (N o72 (Lf o109) E)) (N o38 (N o60 (Lf o99) E) (N o0 (Lf o1) E)))))) (N (o4 P) (N (boot_o_4 P) (N (boot_o_8 P) (N o1 (N o0 (N o1 (Lf o0) (Lf o119)) (N o65 (Lf o0) E)) (N o29 (N o51 (Lf o92) (Lf o132)) (N o1 (Lf o110) E))) (N (o12 P) (N o21 (N o44 (Lf o87) (Lf o127)) (N o0 (Lf o1) E)) (N o11 (N o56 (Lf o97) E) (N o78 (Lf o0) E)))) (N o63 (N o9 (N o0 (N o42 (Lf o0) (Lf (o123 P))) (N o0 (Lf o103) E)) (N o31 (N o11 (Lf o94) E) (N o76 (Lf o113) E))) (N o15 (N (o25 P) (N o47 (Lf o1) (Lf o129)) (N o71 (Lf o108) E)) (N o37 (N o59 (Lf o0) E) (N o81 (Lf o0) E))))) (N (boot_o_6 P) (N (boot_o_10 P) (N o0 (N o18 (N o0 (Lf o84) (Lf o121)) (N o1 (Lf o102) E)) (N o0 (N o53 (Lf o0) E) (N o0 (Lf o111) E))) (N o13 (N o23 (N o45 (Lf o89) (Lf o0)) (N (o70 P) (Lf o0) E)) (N o0 (N o0 (Lf o1) E) (N o79 (Lf o116) E)))) (N o3 (N o0 (N o20 (N o0 (Lf o86) (Lf o125)) (N o68 (Lf o105) E)) (N o33 (N o0 (Lf o95) E) (N o0 (Lf o1) E))) (N o1 (N o27 (N (o49 P) (Lf o0) (Lf o130)) (N o73 (Lf o0) E)) (N o39 (N o61 (Lf o100) E) (N o1 (Lf o118) E)))))))
noncomputable def T3 (P : Params) : BT := (N (boot_o_0 P) (N (boot_o_1 P) (N (o133 P) (N (boot_o_7 P) (N o0 (N o16 (N o0 (N o82 (Lf o0) E) (Lf o0)) (N o64 (N o101 (Lf o0) E) (Lf o143))) (N o28 (N o50 (N o91 (Lf o179) E) (Lf o131)) (N o0 (Lf o1) (Lf o1)))) (N o11 (N o0 (N o1 (N o0 (Lf o171) E) (Lf o126)) (N o69 (N o0 (Lf (o194 P)) E) (Lf o11))) (N o34 (N o1 (N o96 (Lf o184) E) (Lf o138)) (N o1 (Lf o114) (Lf o161))))) (N o0 (N o8 (N o19 (N o41 (N o85 (Lf o0) E) (Lf o122)) (N o66 (N o0 (Lf o190) E) (Lf o147))) (N o1 (N o54 (N o1 (Lf (o181 P)) E) (Lf (o135 P))) (N o75 (Lf o112) (Lf o157)))) (N o14 (N o24 (N o46 (N o0 (Lf (o175 P)) E) (Lf o1)) (N o0 (N o107 (Lf o198) E) (Lf o152))) (N o36 (N (o58 P) (N o98 (Lf o0) E) (Lf o0)) (N o80 (Lf o117) (Lf o165)))))) (N (boot_o_5 P) (N (boot_o_9 P) (N o7 (N o17 (N o40 (N o83 (Lf o168) E) (Lf o120)) (N o0 (N o1 (Lf o189) E) (Lf o145))) (N o30 (N o52 (N o93 (Lf o0) E) (Lf o0)) (N o74 (Lf o0) (Lf o0)))) (N o0 (N o22 (N o0 (N o88 (Lf o173) E) (Lf o128)) (N o11 (N o106 (Lf o196) E) (Lf o0))) (N (o35 P) (N o57 (N o0 (Lf o1) E) (Lf o1)) (N o0 (Lf o115) (Lf o163))))) (N o2 (N o10 (N o1 (N o43 (N o1 (Lf o170) E) (Lf o124)) (N o67 (N o104 (Lf o192) E) (Lf o149))) (N o32 (N (o55 P) (N o0 (Lf o182) E) (Lf o136)) (N o77 (Lf o0) (Lf o159)))) (N o0 (N o26 (N o48 (N o90 (Lf o177) E) (Lf o0)) (N o72 (Lf o109) (Lf o154))) (N o38 (N o60 (N o99 (Lf o187) E) (Lf o141)) (N o0 (Lf o1) (Lf o11))))))) (N (o4 P) (N (boot_o_4 P) (N (boot_o_8 P) (N o1 (N o0 (N o1 (N o0 (Lf o167) E) (Lf o119)) (N o65 (N o0 (Lf o1) E) (Lf (o144 P)))) (N o29 (N o51 (N o92 (Lf o180) E) (Lf o132)) (N o1 (Lf o110) (Lf o155)))) (N (o12 P) (N o21 (N o44 (N o87 (Lf o172) E) (Lf o127)) (N o0 (N o1 (Lf o195) E) (Lf (o150 P)))) (N o11 (N o56 (N o97 (Lf o0) E) (Lf o0)) (N o78 (Lf o0) (Lf o162))))) (N o134 (N o9 (N o0 (N o42 (N o0 (Lf o1) E) (Lf (o123 P))) (N o0 (N o103 (Lf o191) E) (Lf o148))) (N o31 (N o11 (N o94 (Lf o0) E) (Lf o0)) (N o76 (Lf o113) (Lf o158)))) (N o15 (N (o25 P) (N o47 (N o1 (Lf o176) E) (Lf o129)) (N o71 (N o108 (Lf o199) E) (Lf o153))) (N o37 (N o59 (N o0 (Lf o186) E) (Lf o140)) (N o81 (Lf o0) (Lf o0)))))) (N (boot_o_6 P) (N (boot_o_10 P) (N o0 (N o18 (N o0 (N o84 (Lf o169) E) (Lf o121)) (N o1 (N o102 (Lf o0) E) (Lf o146))) (N o0 (N o53 (N o0 (Lf o11) E) (Lf o11)) (N o0 (Lf o111) (Lf o156)))) (N o13 (N o23 (N o45 (N o89 (Lf o174) E) (Lf o0)) (N (o70 P) (N o0 (Lf o197) E) (Lf o151))) (N o0 (N o0 (N o1 (Lf o185) E) (Lf o139)) (N o79 (Lf o116) (Lf o164))))) (N o3 (N o0 (N o20 (N o0 (N o86 (Lf o0) E) (Lf o125)) (N o68 (N o105 (Lf o193) E) (Lf o0))) (N o33 (N o0 (N o95 (Lf o183) E) (Lf o137)) (N o0 (Lf o1) (Lf (o160 P))))) (N o1 (N o27 (N (o49 P) (N o0 (Lf o178) E) (Lf o130)) (N o73 (Lf o0) (Lf o0))) (N o39 (N o61 (N o100 (Lf o188) E) (Lf o142)) (N o1 (Lf o118) (Lf (o166 P)))))))))
noncomputable def T4 (P : Params) : BT := (N (boot_o_0 P) (N (boot_o_1 P) (N (o200 P) (N (boot_o_7 P) (N o0 (N o16 (N o0 (N o82 (Lf o0) (Lf o1)) (N o0 (Lf o212) E)) (N o64 (N o101 (Lf o0) (Lf o0)) (N o143 (Lf o230) E))) (N o28 (N o50 (N o91 (Lf o179) (Lf o0)) (N o131 (Lf o0) E)) (N o0 (N o1 (Lf o202) E) (N o1 (Lf o243) E)))) (N o11 (N o0 (N o1 (N o0 (Lf o171) (Lf o257)) (N o126 (Lf o216) E)) (N o69 (N o0 (Lf (o194 P)) E) (N o11 (Lf o235) E))) (N o34 (N o1 (N o96 (Lf o184) (Lf o266)) (N o138 (Lf o0) E)) (N o1 (N o114 (Lf o0) E) (N o161 (Lf o0) E))))) (N o0 (N o8 (N o19 (N o41 (N o85 (Lf o0) (Lf o255)) (N o122 (Lf o214) E)) (N o66 (N o0 (Lf o190) (Lf o275)) (N o147 (Lf o1) E))) (N o1 (N o54 (N o1 (Lf (o181 P)) (Lf o0)) (N (o135 P) (Lf o224) E)) (N o75 (N o112 (Lf o205) E) (N o157 (Lf o0) E)))) (N o14 (N o24 (N o46 (N o0 (Lf (o175 P)) (Lf o260)) (N o1 (Lf o219) E)) (N o0 (N o107 (Lf o198) E) (N o152 (Lf o239) E))) (N o36 (N (o58 P) (N o98 (Lf o0) (Lf o1)) (N o0 (Lf o0) E)) (N o80 (N o117 (Lf o0) E) (N o165 (Lf o250) E)))))) (N (boot_o_5 P) (N (boot_o_9 P) (N o7 (N o17 (N o40 (N o83 (Lf o168) (Lf o0)) (N o120 (Lf o1) E)) (N o0 (N o1 (Lf o189) (Lf o273)) (N o145 (Lf o232) E))) (N o30 (N o52 (N o93 (Lf o0) (Lf o263)) (N o0 (Lf o222) E)) (N o74 (N o0 (Lf o203) E) (N o0 (Lf o11) E)))) (N o0 (N o22 (N o0 (N o88 (Lf o173) (Lf o258)) (N o128 (Lf o217) E)) (N o11 (N o106 (Lf o196) E) (N o0 (Lf o237) E))) (N (o35 P) (N o57 (N o0 (Lf o1) (Lf o268)) (N o1 (Lf o227) E)) (N o0 (N o115 (Lf o208) E) (N o163 (Lf o249) E))))) (N o2 (N o10 (N o1 (N o43 (N o1 (Lf o170) (Lf o0)) (N o124 (Lf o0) E)) (N o67 (N o104 (Lf o192) E) (N o149 (Lf o0) E))) (N o32 (N (o55 P) (N o0 (Lf o182) (Lf o265)) (N o136 (Lf o1) E)) (N o77 (N o0 (Lf o1) E) (N o159 (Lf o247) E)))) (N o0 (N o26 (N o48 (N o90 (Lf o177) (Lf o1)) (N o0 (Lf o11) E)) (N o72 (N o109 (Lf o0) E) (N o154 (Lf o241) E))) (N o38 (N o60 (N o99 (Lf o187) (Lf o270)) (N o141 (Lf o229) E)) (N o0 (N o1 (Lf o210) E) (N o11 (Lf o252) E))))))) (N (o4 P) (N (boot_o_4 P) (N (boot_o_8 P) (N o1 (N o0 (N o1 (N o0 (Lf o167) (Lf o253)) (N o119 (Lf o0) E)) (N o65 (N o0 (Lf o1) (Lf (o272 P))) (N (o144 P) (Lf o231) E))) (N o29 (N o51 (N o92 (Lf o180) (Lf o262)) (N o132 (Lf o221) E)) (N o1 (N o110 (Lf o0) E) (N o155 (Lf o244) E)))) (N (o12 P) (N o21 (N o44 (N o87 (Lf o172) (Lf o0)) (N o127 (Lf o0) E)) (N o0 (N o1 (Lf o195) E) (N (o150 P) (Lf o236) E))) (N o11 (N o56 (N o97 (Lf o0) (Lf o267)) (N o0 (Lf o226) E)) (N o78 (N o0 (Lf o207) E) (N o162 (Lf o1) E))))) (N o201 (N o9 (N o0 (N o42 (N o0 (Lf o1) (Lf o256)) (N (o123 P) (Lf o215) E)) (N o0 (N o103 (Lf o191) E) (N o148 (Lf o233) E))) (N o31 (N o11 (N o94 (Lf o0) (Lf o1)) (N o0 (Lf o0) E)) (N o76 (N o113 (Lf o0) E) (N o158 (Lf o246) E)))) (N o15 (N (o25 P) (N o47 (N o1 (Lf o176) (Lf o0)) (N o129 (Lf o0) E)) (N o71 (N o108 (Lf o199) E) (N o153 (Lf o240) E))) (N o37 (N o59 (N o0 (Lf o186) (Lf o269)) (N o140 (Lf o1) E)) (N o81 (N o0 (Lf o1) E) (N o0 (Lf o251) E)))))) (N (boot_o_6 P) (N (boot_o_10 P) (N o0 (N o18 (N o0 (N o84 (Lf o169) (Lf o254)) (N o121 (Lf o213) E)) (N o1 (N o102 (Lf o0) (Lf o274)) (N o146 (Lf o0) E))) (N o0 (N o53 (N o0 (Lf o11) (Lf o264)) (N o11 (Lf o223) E)) (N o0 (N o111 (Lf o204) E) (N o156 (Lf (o245 P)) E)))) (N o13 (N o23 (N o45 (N o89 (Lf o174) (Lf o259)) (N o0 (Lf o218) E)) (N (o70 P) (N o0 (Lf o197) E) (N o151 (Lf (o238 P)) E))) (N o0 (N o0 (N o1 (Lf o185) (Lf o0)) (N o139 (Lf o228) E)) (N o79 (N o116 (Lf o209) E) (N o164 (Lf o0) E))))) (N o3 (N o0 (N o20 (N o0 (N o86 (Lf o0) (Lf o1)) (N o125 (Lf o1) E)) (N o68 (N o105 (Lf o193) E) (N o0 (Lf o234) E))) (N o33 (N o0 (N o95 (Lf o183) (Lf o0)) (N o137 (Lf o225) E)) (N o0 (N o1 (Lf o206) E) (N (o160 P) (Lf o248) E)))) (N o1 (N o27 (N (o49 P) (N o0 (Lf o178) (Lf o261)) (N o130 (Lf (o220 P)) E)) (N o73 (N o0 (Lf o1) E) (N o0 (Lf o242) E))) (N o39 (N o61 (N o100 (Lf o188) (Lf o271)) (N o142 (Lf o0) E)) (N o1 (N o118 (Lf o211) E) (N (o166 P) (Lf o0) E))))))))
noncomputable def T5 (P : Params) : BT := (N (boot_o_0 P) (N (boot_o_1 P) (N (o276 P) (N (boot_o_7 P) (N o0 (N o16 (N o0 (N o82 (N o0 (Lf o329) E) (Lf o1)) (N o0 (Lf o212) (Lf o1))) (N o64 (N o101 (N o0 (Lf o0) E) (Lf o0)) (N o143 (Lf o230) (Lf o0)))) (N o28 (N o50 (N o91 (N o179 (Lf o339) E) (Lf o0)) (N o131 (Lf o0) (Lf o302))) (N o0 (N o1 (Lf o202) (Lf o284)) (N o1 (Lf o243) (Lf o320))))) (N o11 (N o0 (N o1 (N o0 (N o171 (Lf o334) E) (Lf o257)) (N o126 (Lf o216) (Lf o297))) (N o69 (N o0 (N (o194 P) (Lf o1) E) (Lf o279)) (N o11 (Lf o235) (Lf o1)))) (N o34 (N o1 (N o96 (N o184 (Lf o0) E) (Lf o266)) (N o138 (Lf o0) (Lf o307))) (N o1 (N o114 (Lf o0) (Lf o0)) (N o161 (Lf o0) (Lf o0)))))) (N o0 (N o8 (N o19 (N o41 (N o85 (N o0 (Lf o1) E) (Lf o255)) (N o122 (Lf o214) (Lf o0))) (N o66 (N o0 (N o190 (Lf o349) E) (Lf o275)) (N o147 (Lf o1) (Lf o313)))) (N o1 (N o54 (N o1 (N (o181 P) (Lf o0) E) (Lf o0)) (N (o135 P) (Lf o224) (Lf o304))) (N o75 (N o112 (Lf o205) (Lf o0)) (N o157 (Lf o0) (Lf o323))))) (N o14 (N o24 (N o46 (N o0 (N (o175 P) (Lf o336) E) (Lf o260)) (N o1 (Lf o219) (Lf o1))) (N o0 (N o107 (Lf o198) (Lf o281)) (N o152 (Lf o239) (Lf o318)))) (N o36 (N (o58 P) (N o98 (N o0 (Lf o345) E) (Lf o1)) (N o0 (Lf o0) (Lf o0))) (N o80 (N o117 (Lf o0) (Lf o290)) (N o165 (Lf o250) (Lf o0))))))) (N (boot_o_5 P) (N (boot_o_9 P) (N o7 (N o17 (N o40 (N o83 (N o168 (Lf o331) E) (Lf o0)) (N o120 (Lf o1) (Lf o294))) (N o0 (N o1 (N o189 (Lf o0) E) (Lf o273)) (N o145 (Lf o232) (Lf o312)))) (N o30 (N o52 (N o93 (N o0 (Lf o1) E) (Lf o263)) (N o0 (Lf o222) (Lf o0))) (N o74 (N o0 (Lf o203) (Lf o1)) (N o0 (Lf o11) (Lf o321))))) (N o0 (N o22 (N o0 (N o88 (N o173 (Lf o0) E) (Lf o258)) (N o128 (Lf o217) (Lf o299))) (N o11 (N o106 (N o196 (Lf o353) E) (Lf o0)) (N o0 (Lf o237) (Lf o0)))) (N (o35 P) (N o57 (N o0 (N o1 (Lf o344) E) (Lf o268)) (N o1 (Lf o227) (Lf o1))) (N o0 (N o115 (Lf o208) (Lf o289)) (N o163 (Lf o249) (Lf o326)))))) (N o2 (N o10 (N o1 (N o43 (N o1 (N o170 (Lf o0) E) (Lf o0)) (N o124 (Lf o0) (Lf o296))) (N o67 (N o104 (N o192 (Lf o351) E) (Lf o1)) (N o149 (Lf o0) (Lf o315)))) (N o32 (N (o55 P) (N o0 (N o182 (Lf o342) E) (Lf o265)) (N o136 (Lf o1) (Lf o305))) (N o77 (N o0 (Lf o1) (Lf o287)) (N o159 (Lf o247) (Lf o1))))) (N o0 (N o26 (N o48 (N o90 (N o177 (Lf o337) E) (Lf o1)) (N o0 (Lf o11) (Lf o0))) (N o72 (N o109 (Lf o0) (Lf o282)) (N o154 (Lf o241) (Lf o0)))) (N o38 (N o60 (N o99 (N o187 (Lf o347) E) (Lf o270)) (N o141 (Lf o229) (Lf o310))) (N o0 (N o1 (Lf o210) (Lf o292)) (N o11 (Lf o252) (Lf o328)))))))) (N (o4 P) (N (boot_o_4 P) (N (boot_o_8 P) (N o1 (N o0 (N o1 (N o0 (N o167 (Lf o330) E) (Lf o253)) (N o119 (Lf o0) (Lf o293))) (N o65 (N o0 (N o1 (Lf o1) E) (Lf (o272 P))) (N (o144 P) (Lf o231) (Lf o1)))) (N o29 (N o51 (N o92 (N o180 (Lf o0) E) (Lf o262)) (N o132 (Lf o221) (Lf o303))) (N o1 (N o110 (Lf o0) (Lf o0)) (N o155 (Lf o244) (Lf o0))))) (N (o12 P) (N o21 (N o44 (N o87 (N o172 (Lf o335) E) (Lf o0)) (N o127 (Lf o0) (Lf o298))) (N o0 (N o1 (N o195 (Lf o352) E) (Lf o280)) (N (o150 P) (Lf o236) (Lf o316)))) (N o11 (N o56 (N o97 (N o0 (Lf o1) E) (Lf o267)) (N o0 (Lf o226) (Lf o0))) (N o78 (N o0 (Lf o207) (Lf o1)) (N o162 (Lf o1) (Lf o325)))))) (N o277 (N o9 (N o0 (N o42 (N o0 (N o1 (Lf o332) E) (Lf o256)) (N (o123 P) (Lf o215) (Lf o1))) (N o0 (N o103 (N o191 (Lf o350) E) (Lf o0)) (N o148 (Lf o233) (Lf o314)))) (N o31 (N o11 (N o94 (N o0 (Lf o341) E) (Lf o1)) (N o0 (Lf o0) (Lf o0))) (N o76 (N o113 (Lf o0) (Lf o286)) (N o158 (Lf o246) (Lf o0))))) (N o15 (N (o25 P) (N o47 (N o1 (N o176 (Lf o0) E) (Lf o0)) (N o129 (Lf o0) (Lf o300))) (N o71 (N o108 (Lf o199) (Lf o0)) (N o153 (Lf o240) (Lf o319)))) (N o37 (N o59 (N o0 (N o186 (Lf o346) E) (Lf o269)) (N o140 (Lf o1) (Lf o309))) (N o81 (N o0 (Lf o1) (Lf o291)) (N o0 (Lf o251) (Lf o1))))))) (N (boot_o_6 P) (N (boot_o_10 P) (N o0 (N o18 (N o0 (N o84 (N o169 (Lf o0) E) (Lf o254)) (N o121 (Lf o213) (Lf o295))) (N o1 (N o102 (N o0 (Lf o0) E) (Lf o274)) (N o146 (Lf o0) (Lf o0)))) (N o0 (N o53 (N o0 (N o11 (Lf o340) E) (Lf o264)) (N o11 (Lf o223) (Lf o1))) (N o0 (N o111 (Lf o204) (Lf o285)) (N o156 (Lf (o245 P)) (Lf o322))))) (N o13 (N o23 (N o45 (N o89 (N o174 (Lf o1) E) (Lf o259)) (N o0 (Lf o218) (Lf o0))) (N (o70 P) (N o0 (N o197 (Lf o354) E) (Lf o1)) (N o151 (Lf (o238 P)) (Lf o317)))) (N o0 (N o0 (N o1 (N o185 (Lf o0) E) (Lf o0)) (N o139 (Lf o228) (Lf o308))) (N o79 (N o116 (Lf o209) (Lf o0)) (N o164 (Lf o0) (Lf o327)))))) (N o3 (N o0 (N o20 (N o0 (N o86 (N o0 (Lf o333) E) (Lf o1)) (N o125 (Lf o1) (Lf o0))) (N o68 (N o105 (N o193 (Lf o0) E) (Lf o278)) (N o0 (Lf o234) (Lf o0)))) (N o33 (N o0 (N o95 (N o183 (Lf o343) E) (Lf o0)) (N o137 (Lf o225) (Lf o306))) (N o0 (N o1 (Lf o206) (Lf o288)) (N (o160 P) (Lf o248) (Lf o324))))) (N o1 (N o27 (N (o49 P) (N o0 (N o178 (Lf o338) E) (Lf o261)) (N o130 (Lf (o220 P)) (Lf o301))) (N o73 (N o0 (Lf o1) (Lf o283)) (N o0 (Lf o242) (Lf o1)))) (N o39 (N o61 (N o100 (N o188 (Lf o348) E) (Lf o271)) (N o142 (Lf o0) (Lf o311))) (N o1 (N o118 (Lf o211) (Lf o0)) (N (o166 P) (Lf o0) (Lf o0)))))))))
noncomputable def T6 (P : Params) : BT := (N (boot_o_0 P) (N (boot_o_1 P) (N (o355 P) (N (boot_o_7 P) (N o0 (N o16 (N o0 (N o82 (N o0 (Lf o329) E) (N o1 (Lf o405) E)) (N o0 (N o212 (Lf o368) E) (Lf o1))) (N o64 (N o101 (N o0 (Lf o0) E) (Lf o0)) (N o143 (N o230 (Lf o386) E) (Lf o0)))) (N o28 (N o50 (N o91 (N o179 (Lf o339) E) (N o0 (Lf o414) E)) (N o131 (N o0 (Lf o377) E) (Lf o302))) (N o0 (N o1 (N o202 (Lf o358) E) (Lf o284)) (N o1 (N o243 (Lf o396) E) (Lf o320))))) (N o11 (N o0 (N o1 (N o0 (N o171 (Lf o334) E) (N o257 (Lf o1) E)) (N o126 (N o216 (Lf o372) E) (Lf o297))) (N o69 (N o0 (N (o194 P) (Lf o1) E) (Lf o279)) (N o11 (N o235 (Lf o0) E) (Lf o1)))) (N o34 (N o1 (N o96 (N o184 (Lf o0) E) (Lf o266)) (N o138 (N o0 (Lf o382) E) (Lf o307))) (N o1 (N o114 (N o0 (Lf o363) E) (Lf o0)) (N o161 (N o0 (Lf o0) E) (Lf o0)))))) (N o0 (N o8 (N o19 (N o41 (N o85 (N o0 (Lf o1) E) (N o255 (Lf o407) E)) (N o122 (N o214 (Lf o370) E) (Lf o0))) (N o66 (N o0 (N o190 (Lf o349) E) (Lf o275)) (N o147 (N o1 (Lf o389) E) (Lf o313)))) (N o1 (N o54 (N o1 (N (o181 P) (Lf o0) E) (Lf o0)) (N (o135 P) (N o224 (Lf o379) E) (Lf o304))) (N o75 (N o112 (N o205 (Lf o1) E) (Lf o0)) (N o157 (N o0 (Lf o0) E) (Lf o323))))) (N o14 (N o24 (N o46 (N o0 (N (o175 P) (Lf o336) E) (N o260 (Lf o412) E)) (N o1 (N o219 (Lf o375) E) (Lf o1))) (N o0 (N o107 (N o198 (Lf o0) E) (Lf o281)) (N o152 (N o239 (Lf o0) E) (Lf o318)))) (N o36 (N (o58 P) (N o98 (N o0 (Lf o345) E) (Lf o1)) (N o0 (N o0 (Lf o384) E) (Lf o0))) (N o80 (N o117 (N o0 (Lf o365) E) (Lf o290)) (N o165 (N o250 (Lf o403) E) (Lf o0))))))) (N (boot_o_5 P) (N (boot_o_9 P) (N o7 (N o17 (N o40 (N o83 (N o168 (Lf o331) E) (N o0 (Lf o0) E)) (N o120 (N o1 (Lf o1) E) (Lf o294))) (N o0 (N o1 (N o189 (Lf o0) E) (Lf o273)) (N o145 (N o232 (Lf o387) E) (Lf o312)))) (N o30 (N o52 (N o93 (N o0 (Lf o1) E) (N o263 (Lf o416) E)) (N o0 (N o222 (Lf o0) E) (Lf o0))) (N o74 (N o0 (N o203 (Lf o360) E) (Lf o1)) (N o0 (N o11 (Lf o1) E) (Lf o321))))) (N o0 (N o22 (N o0 (N o88 (N o173 (Lf o0) E) (N o258 (Lf o0) E)) (N o128 (N o217 (Lf o373) E) (Lf o299))) (N o11 (N o106 (N o196 (Lf o353) E) (Lf o0)) (N o0 (N o237 (Lf o392) E) (Lf o0)))) (N (o35 P) (N o57 (N o0 (N o1 (Lf o344) E) (Lf o268)) (N o1 (N o227 (Lf o1) E) (Lf o1))) (N o0 (N o115 (N o208 (Lf o0) E) (Lf o289)) (N o163 (N o249 (Lf o401) E) (Lf o326)))))) (N o2 (N o10 (N o1 (N o43 (N o1 (N o170 (Lf o0) E) (N o0 (Lf o409) E)) (N o124 (N o0 (Lf o0) E) (Lf o296))) (N o67 (N o104 (N o192 (Lf o351) E) (Lf o1)) (N o149 (N o0 (Lf o1) E) (Lf o315)))) (N o32 (N (o55 P) (N o0 (N o182 (Lf o342) E) (Lf o265)) (N o136 (N o1 (Lf o380) E) (Lf o305))) (N o77 (N o0 (N o1 (Lf o0) E) (Lf o287)) (N o159 (N o247 (Lf o399) E) (Lf o1))))) (N o0 (N o26 (N o48 (N o90 (N o177 (Lf o337) E) (N o1 (Lf o0) E)) (N o0 (N o11 (Lf o1) E) (Lf o0))) (N o72 (N o109 (N o0 (Lf o357) E) (Lf o282)) (N o154 (N o241 (Lf o394) E) (Lf o0)))) (N o38 (N o60 (N o99 (N o187 (Lf o347) E) (Lf o270)) (N o141 (N o229 (Lf o0) E) (Lf o310))) (N o0 (N o1 (N o210 (Lf o366) E) (Lf o292)) (N o11 (N o252 (Lf o1) E) (Lf o328)))))))) (N (o4 P) (N (boot_o_4 P) (N (boot_o_8 P) (N o1 (N o0 (N o1 (N o0 (N o167 (Lf o330) E) (N o253 (Lf o406) E)) (N o119 (N o0 (Lf o0) E) (Lf o293))) (N o65 (N o0 (N o1 (Lf o1) E) (Lf (o272 P))) (N (o144 P) (N o231 (Lf o0) E) (Lf o1)))) (N o29 (N o51 (N o92 (N o180 (Lf o0) E) (N o262 (Lf o415) E)) (N o132 (N o221 (Lf o378) E) (Lf o303))) (N o1 (N o110 (N o0 (Lf o359) E) (Lf o0)) (N o155 (N o244 (Lf o0) E) (Lf o0))))) (N (o12 P) (N o21 (N o44 (N o87 (N o172 (Lf o335) E) (N o0 (Lf o410) E)) (N o127 (N o0 (Lf o0) E) (Lf o298))) (N o0 (N o1 (N o195 (Lf o352) E) (Lf o280)) (N (o150 P) (N o236 (Lf o391) E) (Lf o316)))) (N o11 (N o56 (N o97 (N o0 (Lf o1) E) (Lf o267)) (N o0 (N o226 (Lf o0) E) (Lf o0))) (N o78 (N o0 (N o207 (Lf o364) E) (Lf o1)) (N o162 (N o1 (Lf o1) E) (Lf o325)))))) (N o356 (N o9 (N o0 (N o42 (N o0 (N o1 (Lf o332) E) (N o256 (Lf o408) E)) (N (o123 P) (N o215 (Lf o371) E) (Lf o1))) (N o0 (N o103 (N o191 (Lf o350) E) (Lf o0)) (N o148 (N o233 (Lf o0) E) (Lf o314)))) (N o31 (N o11 (N o94 (N o0 (Lf o341) E) (Lf o1)) (N o0 (N o0 (Lf o0) E) (Lf o0))) (N o76 (N o113 (N o0 (Lf o361) E) (Lf o286)) (N o158 (N o246 (Lf o398) E) (Lf o0))))) (N o15 (N (o25 P) (N o47 (N o1 (N o176 (Lf o0) E) (N o0 (Lf o413) E)) (N o129 (N o0 (Lf o0) E) (Lf o300))) (N o71 (N o108 (N o199 (Lf o1) E) (Lf o0)) (N o153 (N o240 (Lf o1) E) (Lf o319)))) (N o37 (N o59 (N o0 (N o186 (Lf o346) E) (Lf o269)) (N o140 (N o1 (Lf o385) E) (Lf o309))) (N o81 (N o0 (N o1 (Lf o0) E) (Lf o291)) (N o0 (N o251 (Lf o0) E) (Lf o1))))))) (N (boot_o_6 P) (N (boot_o_10 P) (N o0 (N o18 (N o0 (N o84 (N o169 (Lf o0) E) (N o254 (Lf o1) E)) (N o121 (N o213 (Lf o369) E) (Lf o295))) (N o1 (N o102 (N o0 (Lf o0) E) (Lf o274)) (N o146 (N o0 (Lf o388) E) (Lf o0)))) (N o0 (N o53 (N o0 (N o11 (Lf o340) E) (Lf o264)) (N o11 (N o223 (Lf o1) E) (Lf o1))) (N o0 (N o111 (N o204 (Lf o0) E) (Lf o285)) (N o156 (N (o245 P) (Lf o397) E) (Lf o322))))) (N o13 (N o23 (N o45 (N o89 (N o174 (Lf o1) E) (N o259 (Lf o411) E)) (N o0 (N o218 (Lf o374) E) (Lf o0))) (N (o70 P) (N o0 (N o197 (Lf o354) E) (Lf o1)) (N o151 (N (o238 P) (Lf o393) E) (Lf o317)))) (N o0 (N o0 (N o1 (N o185 (Lf o0) E) (Lf o0)) (N o139 (N o228 (Lf o383) E) (Lf o308))) (N o79 (N o116 (N o209 (Lf o1) E) (Lf o0)) (N o164 (N o0 (Lf o402) E) (Lf o327)))))) (N o3 (N o0 (N o20 (N o0 (N o86 (N o0 (Lf o333) E) (N o1 (Lf o0) E)) (N o125 (N o1 (Lf o1) E) (Lf o0))) (N o68 (N o105 (N o193 (Lf o0) E) (Lf o278)) (N o0 (N o234 (Lf o390) E) (Lf o0)))) (N o33 (N o0 (N o95 (N o183 (Lf o343) E) (Lf o0)) (N o137 (N o225 (Lf o381) E) (Lf o306))) (N o0 (N o1 (N o206 (Lf o362) E) (Lf o288)) (N (o160 P) (N o248 (Lf o400) E) (Lf o324))))) (N o1 (N o27 (N (o49 P) (N o0 (N o178 (Lf o338) E) (N o261 (Lf o1) E)) (N o130 (N (o220 P) (Lf o376) E) (Lf o301))) (N o73 (N o0 (N o1 (Lf o0) E) (Lf o283)) (N o0 (N o242 (Lf o395) E) (Lf o1)))) (N o39 (N o61 (N o100 (N o188 (Lf o348) E) (Lf o271)) (N o142 (N o0 (Lf o1) E) (Lf o311))) (N o1 (N o118 (N o211 (Lf o367) E) (Lf o0)) (N (o166 P) (N o0 (Lf o404) E) (Lf o0)))))))))
theorem run1 (w : World) (os : OsState) : RunTo w 821 ⟨T0 w.params, 15, {}, #[], {}, 187, os⟩ (sts 0 8) ⟨0,0,0,0⟩ ⟨T1 w.params, 95, {}, #[], {}, 302, os⟩ ⟨32,0,33,8⟩ := by
  delta RunTo
  kernel_rfl!
theorem run2 (w : World) (os : OsState) : RunTo w 703 ⟨T1 w.params, 95, {}, #[], {}, 302, os⟩ (sts 8 17) ⟨32,0,33,8⟩ ⟨T2 w.params, 209, {}, #[], {}, 457, os⟩ ⟨91,0,91,9⟩ := by
  delta RunTo
  kernel_rfl!
theorem run3 (w : World) (os : OsState) : RunTo w 927 ⟨T2 w.params, 209, {}, #[], {}, 457, os⟩ (sts 17 21) ⟨91,0,91,9⟩ ⟨T3 w.params, 301, {}, #[], {}, 586, os⟩ ⟨106,0,113,16⟩ := by
  delta RunTo
  kernel_rfl!
theorem run4 (w : World) (os : OsState) : RunTo w 850 ⟨T3 w.params, 301, {}, #[], {}, 586, os⟩ (sts 21 29) ⟨106,0,113,16⟩ ⟨T4 w.params, 420, {}, #[], {}, 740, os⟩ ⟨198,0,217,49⟩ := by
  delta RunTo
  kernel_rfl!
theorem run5 (w : World) (os : OsState) : RunTo w 712 ⟨T4 w.params, 420, {}, #[], {}, 740, os⟩ (sts 29 60) ⟨198,0,217,49⟩ ⟨T5 w.params, 555, {}, #[], {}, 938, os⟩ ⟨372,0,373,99⟩ := by
  delta RunTo
  kernel_rfl!
theorem run6 (w : World) (os : OsState) : RunTo w 504 ⟨T5 w.params, 555, {}, #[], {}, 938, os⟩ (sts 60 78) ⟨372,0,373,99⟩ ⟨T6 w.params, 658, {}, #[], {}, 1076, os⟩ ⟨471,0,504,82⟩ := by
  delta RunTo
  kernel_rfl!
noncomputable def H0 (P : Params) : Heap := boot_heap P
noncomputable def H1 (P : Params) : Heap := absHeap (T6 P) 658 {}
theorem seg_tw {p : Program} {w : World} {n₀ : Nat} {ann : Option Value} {b n : Nat} {s : SharedT} {t : Thread} {r} (h : PySem.W.Fast.tw10110043849684766642 PySem.W.Fast.tw14364793385576792824 p w n₀ ann b n s t = r) : segRunT treeTable p w n₀ ann b n s t = r := by
  rw [PySem.W.Fast.te10110043849684766642, PySem.W.Fast.te14364793385576792824]; exact h
theorem run_of {w : World} {n : Nat} {S S' : SharedT} {l : List Stmt} {pos pos' : Pos} (h : RunTo w n S l pos S' pos') :
    segRun treeTable pN w 11 (some (.ref 6)) 1 n S.abs (piecesOf l env (.body bd env) pos [topFrame ⟨0,0,0,0⟩]) = some (.next, S'.abs, .body bd env, pos') := by
  refine segRun_of (seg_tw ?_)
  show PySem.W.Fast.tw10110043849684766642 PySem.W.Fast.tw14364793385576792824 pN w 11 (some (.ref 6)) 1 n S ⟨(execs l env).wrap doneF deadEnd id id, .body bd env, pos, [topFrame ⟨0,0,0,0⟩]⟩ = _
  rw [PySem.W.Fast.te12563942051412417395]
  exact h
theorem bd_eq : bd = sts 0 8 ++ (sts 8 17 ++ (sts 17 21 ++ (sts 21 29 ++ (sts 29 60 ++ (sts 60 78 ++ []))))) := by kernel_rfl!
theorem sizes (w : World) : ((H0 w.params).isNs mainGlobals && (#[] : Array GenState).size == 0, (H0 w.params).objs.size, (H0 w.params).nsMap mainGlobals "__annotations__") = (true, 11, some (.ref 6)) := by kernel_rfl!
theorem opens : ∀ w : World, (fencedOpening treeTable pN w 9200).map (fun s => (s.heap, s.gens, s.drawn, s.toks)) = some (boot_heap w.params, Array.mk [], boot_drawn, boot_toks) :=
  boot_open (by kernel_rfl!) (by kernel_rfl!) fun s => by kernel_rfl!
theorem pre0 (w : World) (os : OsState) : PySem.W.Fast.tw15667345088766844465 PySem.W.Fast.tw14364793385576792824 pN w 11 (some (.ref 6)) 12 ⟨H0 w.params, #[], boot_drawn, boot_toks, os⟩ (topStub pN) =
    some (SharedT.abs ⟨T0 w.params, 15, {}, #[], {}, 187, os⟩, ⟨PySem.W.Fast.tw11892475500146522536 PySem.W.Fast.tw14364793385576792824 (.body bd env), .body bd env, ⟨0,0,0,0⟩, [topFrame ⟨0,0,0,0⟩]⟩) := by kernel_rfl!
theorem pre (w : World) (os : OsState) : topGo treeTable pN w 11 (some (.ref 6)) 12 ⟨H0 w.params, #[], boot_drawn, boot_toks, os⟩ (topStub pN) =
    some (SharedT.abs ⟨T0 w.params, 15, {}, #[], {}, 187, os⟩, ⟨denote treeTable (.body bd env), .body bd env, ⟨0,0,0,0⟩, [topFrame ⟨0,0,0,0⟩]⟩) := by
  rw [PySem.W.Fast.te15667345088766844465, PySem.W.Fast.te11892475500146522536, PySem.W.Fast.te14364793385576792824]; exact pre0 w os
theorem block (w : World) (os : OsState) : segRun treeTable pN w 11 (some (.ref 6)) 1 1 (SharedT.abs ⟨T0 w.params, 15, {}, #[], {}, 187, os⟩) (blockOf bd env (.body bd env) ⟨0,0,0,0⟩ [topFrame ⟨0,0,0,0⟩]) =
    some (.next, SharedT.abs ⟨T0 w.params, 15, {}, #[], {}, 187, os⟩, .body bd env, ⟨0,0,0,0⟩) := by kernel_rfl!
theorem fin (w : World) (os : OsState) : topRun treeTable pN w 11 (some (.ref 6)) 2 (SharedT.abs ⟨T6 w.params, 658, {}, #[], {}, 1076, os⟩) ⟨doneF .next, .body bd env, ⟨471,0,504,82⟩, [topFrame ⟨0,0,0,0⟩]⟩ =
    some (SharedT.abs ⟨T6 w.params, 658, {}, #[], {}, 1076, os⟩) := by kernel_rfl!
theorem whole (w : World) (os : OsState) : topRun treeTable pN w 11 (some (.ref 6)) (12 + (1 + (821 + (703 + (927 + (850 + (712 + (504 + 2)))))))) ⟨H0 w.params, #[], boot_drawn, boot_toks, os⟩ (topStub pN) =
    some (SharedT.abs ⟨T6 w.params, 658, {}, #[], {}, 1076, os⟩) := by
  refine go_top (pre w os) (piece_block (block w os) ?_)
  have h := piece_app (run_of (run1 w os)) (piece_app (run_of (run2 w os)) (piece_app (run_of (run3 w os)) (piece_app (run_of (run4 w os)) (piece_app (run_of (run5 w os)) (piece_app (run_of (run6 w os)) (piece_nil (fin w os)))))))
  rw [← bd_eq] at h
  exact h
noncomputable def qN : Program := { pN with main := { pN.main with body := [st 77] } }
noncomputable def loose : List Str := pN.boundNames.filter fun x => !(x == (⟨⟨[108,97,119]⟩⟩ : Str))
noncomputable def YP (w : World) (h : Heap) : Prop := ∀ a o, (H1 w.params).get? a = some o → h.get? a = some o
noncomputable def Yf (s : Shared) : List (Option Obj) := (List.range 658).map s.heap.get?
noncomputable def Ya (w : World) : List (Option Obj) := (List.range 658).map (H1 w.params).get?
theorem look1 (w : World) : staticsOk (importedModules pN.main.body) (H0 w.params) (H1 w.params) = true := by kernel_rfl!
theorem look2 (w : World) : namesBound pN (H1 w.params) = true := by kernel_rfl!
theorem look4 (w : World) : laidKept (H0 w.params) (H1 w.params) = true := by kernel_rfl!
theorem look5 (w : World) : (fun os => PySem.W.Fast.tw4187177175401517315 qN loose (importedModules pN.main.body) (fun _ => true) true ⟨H1 w.params, #[], {}, 1076, os⟩) = fun _ => openGood qN loose := by kernel_rfl!
theorem leftN : LeftO pN qN loose (fun _ => true) Yf Ya 9200 true := by
  refine LeftO.of_pieces (H₀ := H0) (H₁ := H1) (gs₀ := #[]) (gs₁ := #[]) (d₀ := boot_drawn) (d₁ := {}) (k₀ := boot_toks) (k₁ := 1076) (m₀ := 11) (ann := some (.ref 6))
    (M := 12 + (1 + (821 + (703 + (927 + (850 + (712 + (504 + 2)))))))) opens sizes (fun w os => whole w os) (by decide) fun w => ?_
  funext os
  have h := congrFun (look5 w) os
  rw [← PySem.W.Fast.te4187177175401517315] at h
  rw [look1, look2, look4, h]
  rfl
theorem left : LeftO PySem.Challenge.pw_nn0148_01 qN loose (fun _ => true) Yf Ya 9200 true := by
  rw [pS.2.h]; exact leftN
theorem yOf (w : World) (s : Shared) (e : Yf s = Ya w) : YP w s.heap := by
  intro a o h
  have ha : a < 658 := by
    have := Heap.lt_size h
    rwa [show (H1 w.params).objs.size = 658 from absHeap_size _ _ _] at this
  have e' := congrArg (fun l => l[a]?) e
  simp only [Yf, Ya, List.getElem?_map, List.getElem?_range ha, Option.map_some, Option.some.injEq] at e'
  rw [e', h]
theorem yKeeps (w : World) (h h' : Heap) (x : YP w h) (k : ∀ b o, h.get? b = some o → h'.get? b = some o) : YP w h' := fun a o e => k a o (x a o e)
end Mine
end
section
open PySem PySem.Spec PySem.Calls PyProof.Rows PySem.W
set_option maxRecDepth 100000
set_option linter.unusedVariables false
namespace Mine
noncomputable abbrev FB := Addr → Option Obj
noncomputable def FB.le (B B' : FB) : Prop := ∀ b o, B b = some o → B' b = some o
theorem FB.le.refl (B : FB) : B.le B := fun _ _ e => e
theorem FB.le.trans {B B' B'' : FB} (h : B.le B') (h' : B'.le B'') : B.le B'' := fun b o e => h' b o (h b o e)
inductive PV where
  | none
  | bool (b : Bool)
  | int (i : Int)
  | str (s : Str)
  | bytes (b : Array UInt8)
  | cst (v : Value)
  | tup (l : List PV)
  | lst (l : List PV)
  | dctI (ks : List Int) (vs : List PV)
  | dctS (ks : List Str) (vs : List PV)
  | ins (c : Addr) (ks : List Str) (vs : List PV)
  | rng (a b : Int)
noncomputable def Ents : List DictEntry → List Str → List Value → Prop
  | [], [], [] => True
  | e :: es, k :: ks, v :: vs => (∃ t, e.key = .str k t) ∧ e.val = v ∧ Ents es ks vs
  | _, _, _ => False
section
variable (prog : Program) (w : World)
mutual
noncomputable def Rel (B : FB) : PV → Value → Prop
  | .none, v => v = .none
  | .bool b, v => v = .bool b
  | .int i, v => ∃ t, v = .int i t
  | .str s, v => ∃ t, v = .str s t
  | .bytes b, v => ∃ t, v = .bytes b t
  | .cst u, v => v = u
  | .tup l, v => ∃ a its n, v = .ref a ∧ B a = some { cls := .type "tuple", data := .seq its n } ∧ RelL B l its.toList
  | .lst l, v => ∃ a its n, v = .ref a ∧ B a = some { cls := .type "list", data := .seq its n } ∧ RelL B l its.toList
  | .dctI ks vs, v => ∃ a o us, v = .ref a ∧ (a == sysModules) = false ∧ B a = some o ∧ o.IsDictOf (PySem.intKind prog w) (ks.zip us) ∧ us.length = ks.length ∧ RelL B vs us
  | .dctS ks vs, v => ∃ a o us, v = .ref a ∧ (a == sysModules) = false ∧ B a = some o ∧ o.IsDictOf (PySem.strKind prog w) (ks.zip us) ∧ us.length = ks.length ∧ RelL B vs us
  | .ins c ks vs, v => ∃ a d es n us, v = .ref a ∧ B a = some (instObj c d) ∧ B d = some (dictOf es n) ∧ Ents es ks us ∧ RelL B vs us
  | .rng a b, v => ∃ r t₀ u₀ v₀, v = .ref r ∧ B r = some { cls := .type "range", data := .fields #[.int a t₀, .int b u₀, .int 1 v₀] }
noncomputable def RelL (B : FB) : List PV → List Value → Prop
  | [], us => us = []
  | p :: ps, us => ∃ u us', us = u :: us' ∧ Rel B p u ∧ RelL B ps us'
end
mutual
theorem Rel.mono {B B' : FB} (h : B.le B') : ∀ {p : PV} {v : Value}, Rel prog w B p v → Rel prog w B' p v
  | .none, _, x => x
  | .bool _, _, x => x
  | .int _, _, x => x
  | .str _, _, x => x
  | .bytes _, _, x => x
  | .cst _, _, x => x
  | .tup _, _, x => x3a3 x fun a its n e b r => ⟨a, its, n, e, h _ _ b, RelL.mono h r⟩
  | .lst _, _, x => x3a3 x fun a its n e b r => ⟨a, its, n, e, h _ _ b, RelL.mono h r⟩
  | .dctI _ _, _, x => x3a6 x fun a o us e q b d l r => ⟨a, o, us, e, q, h _ _ b, d, l, RelL.mono h r⟩
  | .dctS _ _, _, x => x3a6 x fun a o us e q b d l r => ⟨a, o, us, e, q, h _ _ b, d, l, RelL.mono h r⟩
  | .ins _ _ _, _, x => x5a5 x fun a d es n us e b b' q r => ⟨a, d, es, n, us, e, h _ _ b, h _ _ b', q, RelL.mono h r⟩
  | .rng _ _, _, x => x4a2 x fun r t u v e b => ⟨r, t, u, v, e, h _ _ b⟩
theorem RelL.mono {B B' : FB} (h : B.le B') : ∀ {p : List PV} {v : List Value}, RelL prog w B p v → RelL prog w B' p v
  | [], _, x => x
  | _ :: _, _, ⟨u, us, e, x, y⟩ => ⟨u, us, e, Rel.mono h x, RelL.mono h y⟩
end
end
inductive AV where
  | pv (p : PV)
  | loc (n : Nat)
inductive MO where
  | lst (l : List PV)
  | alst (l : List AV)
  | dctI (ks : List Int) (vs : List PV)
  | dctS (ks : List Str) (vs : List PV)
  | ins (c : Addr) (d : Nat)
  | ns (ks : List Str) (vs : List AV)
  | dead
section
variable (prog : Program) (w : World)
noncomputable def RelA (B : FB) (ρ : List Addr) : AV → Value → Prop
  | .pv p, v => Rel prog w B p v
  | .loc n, v => ∃ a, ρ[n]? = some a ∧ v = .ref a
noncomputable def RelAL (B : FB) (ρ : List Addr) : List AV → List Value → Prop
  | [], us => us = []
  | p :: ps, us => ∃ u us', us = u :: us' ∧ RelA prog w B ρ p u ∧ RelAL B ρ ps us'
noncomputable def MRel (B : FB) (ρ : List Addr) (o : Obj) : MO → Prop
  | .lst l => ∃ its n, o = { cls := .type "list", data := .seq its n } ∧ RelL prog w B l its.toList
  | .alst l => ∃ its n, o = { cls := .type "list", data := .seq its n } ∧ RelAL prog w B ρ l its.toList
  | .dctI ks vs => ∃ us, o.IsDictOf (PySem.intKind prog w) (ks.zip us) ∧ us.length = ks.length ∧ RelL prog w B vs us
  | .dctS ks vs => ∃ us, o.IsDictOf (PySem.strKind prog w) (ks.zip us) ∧ us.length = ks.length ∧ RelL prog w B vs us
  | .ins c d => ∃ a, ρ[d]? = some a ∧ o = instObj c a
  | .ns ks vs => ∃ es n us, o = dictOf es n ∧ Ents es ks us ∧ RelAL prog w B ρ vs us
  | .dead => True
theorem get_app {ρ ν : List Addr} {n : Nat} {a : Addr} (h : ρ[n]? = some a) : (ρ ++ ν)[n]? = some a := by
  have hl : n < ρ.length := by
    rcases Nat.lt_or_ge n ρ.length with q | q
    · exact q
    · rw [List.getElem?_eq_none q] at h; cases h
  rw [List.getElem?_append_left hl]; exact h
theorem RelA.mono {B B' : FB} {ρ ν : List Addr} (h : B.le B') : ∀ {p : AV} {v : Value}, RelA prog w B ρ p v → RelA prog w B' (ρ ++ ν) p v
  | .pv _, _, x => Rel.mono prog w h x
  | .loc _, _, ⟨a, e, q⟩ => ⟨a, get_app e, q⟩
theorem RelAL.mono {B B' : FB} {ρ ν : List Addr} (h : B.le B') : ∀ {p : List AV} {v : List Value}, RelAL prog w B ρ p v → RelAL prog w B' (ρ ++ ν) p v
  | [], _, x => x
  | _ :: _, _, ⟨u, us, e, x, y⟩ => ⟨u, us, e, RelA.mono prog w h x, RelAL.mono h y⟩
theorem MRel.mono {B B' : FB} {ρ ν : List Addr} (h : B.le B') {o : Obj} : ∀ {m : MO}, MRel prog w B ρ o m → MRel prog w B' (ρ ++ ν) o m
  | .lst _, ⟨i, n, e, r⟩ => ⟨i, n, e, RelL.mono prog w h r⟩
  | .alst _, ⟨i, n, e, r⟩ => ⟨i, n, e, RelAL.mono prog w h r⟩
  | .dctI _ _, ⟨u, e, l, r⟩ => ⟨u, e, l, RelL.mono prog w h r⟩
  | .dctS _ _, ⟨u, e, l, r⟩ => ⟨u, e, l, RelL.mono prog w h r⟩
  | .ins _ _, ⟨a, e, q⟩ => ⟨a, get_app e, q⟩
  | .ns _ _, ⟨es, n, us, e, x, r⟩ => ⟨es, n, us, e, x, RelAL.mono prog w h r⟩
  | .dead, _ => trivial
structure Inv (GH : Heap) (h : Heap) (B : FB) (ρ : List Addr) (σ : List MO) : Prop where
  top : ∀ b o, GH.get? b = some o → B b = some o
  base : ∀ b o, B b = some o → h.get? b = some o
  nodup : ρ.Nodup
  high : ∀ a ∈ ρ, GH.objs.size ≤ a
  len : ρ.length = σ.length
  store : ∀ (i : Nat) (a : Addr) (m : MO), ρ[i]? = some a → σ[i]? = some m → (m ≠ .dead → B a = none) ∧ ∃ o, h.get? a = some o ∧ MRel prog w B ρ o m
end
structure Step (wr : List Addr) (h : Heap) (B : FB) (ρ : List Addr) (h' : Heap) (B' : FB) (ρ' : List Addr) : Prop where
  le : B.le B'
  new : ∀ b o, B' b = some o → B b = some o ∨ h.get? b = none ∨ b ∈ ρ
  ext : ∃ ν, ρ' = ρ ++ ν ∧ ∀ a ∈ ν, h.get? a = none
  keep : ∀ b o, h.get? b = some o → b ∉ wr → b ∉ ρ → h'.get? b = some o
  live : ∀ b o, h.get? b = some o → ∃ o', h'.get? b = some o'
theorem Step.refl (wr : List Addr) (h : Heap) (B : FB) (ρ : List Addr) : Step wr h B ρ h B ρ :=
  ⟨FB.le.refl B, fun _ _ e => .inl e, ⟨[], by simp, fun _ m => nomatch m⟩, fun _ _ e _ _ => e, fun _ o e => ⟨o, e⟩⟩
theorem Step.trans {wr wr' : List Addr} {h h' h'' : Heap} {B B' B'' : FB} {ρ ρ' ρ'' : List Addr} (hs : ∀ a ∈ wr', a ∈ wr ∨ h.get? a = none) (S : Step wr h B ρ h' B' ρ') (S' : Step wr' h' B' ρ' h'' B'' ρ'') : Step wr h B ρ h'' B'' ρ'' := by
  obtain ⟨ν, rfl, hν⟩ := S.ext
  obtain ⟨ν', rfl, hν'⟩ := S'.ext
  have none_back : ∀ b, h'.get? b = none → h.get? b = none := fun b e => by
    cases q : h.get? b with
    | none => rfl
    | some o => obtain ⟨o', ho'⟩ := S.live b o q; rw [ho'] at e; cases e
  refine ⟨S.le.trans S'.le, fun b o e => ?_, ⟨ν ++ ν', by rw [List.append_assoc], fun a ha => ?_⟩, fun b o e hw hr => ?_, fun b o e => ?_⟩
  · rcases S'.new b o e with q | q | q
    · exact S.new b o q
    · exact .inr (.inl (none_back b q))
    · rcases List.mem_append.mp q with q | q
      · exact .inr (.inr q)
      · exact .inr (.inl (hν b q))
  · rcases List.mem_append.mp ha with q | q
    · exact hν a q
    · exact none_back a (hν' a q)
  · refine S'.keep b o (S.keep b o e hw hr) (fun q => ?_) fun q => ?_
    · rcases hs b q with z | z
      · exact hw z
      · rw [z] at e; cases e
    · rcases List.mem_append.mp q with q | q
      · exact hr q
      · have := hν b q; rw [this] at e; cases e
  · obtain ⟨o', ho'⟩ := S.live b o e
    exact S'.live b o' ho'
theorem Step.weaken {wr wr' : List Addr} {h h' : Heap} {B B' : FB} {ρ ρ' : List Addr} (S : Step wr h B ρ h' B' ρ') (hs : ∀ a ∈ wr, a ∈ wr' ∨ h.get? a = none) : Step wr' h B ρ h' B' ρ' :=
  ⟨S.le, S.new, S.ext, fun b o e hw hr => S.keep b o e (fun q => (hs b q).elim hw fun z => by rw [z] at e; cases e) hr, S.live⟩
noncomputable abbrev VEnv := List (Str × AV)
structure Room (k : Nat) (A : Around) : Prop where
  handled : A.handled = none
  depth : A.depth + 2 * k < recursionLimit
  units : A.units + 20 * k < cLine
theorem Room.le {k j : Nat} {A : Around} (R : Room k A) (h : j ≤ k) : Room j A := ⟨R.handled, by have := R.depth; omega, by have := R.units; omega⟩
section
variable (prog : Program) (w : World) (GH : Heap)
structure FrOk (sc : Scope) (env : Env) (h : Heap) (B : FB) (ρ : List Addr) (V : VEnv) : Prop where
  scope : env.scope = sc
  kind : sc.kind = .function
  globals : env.globals = mainGlobals
  builtins : env.builtins = builtinsNs
  loc : ∃ m, h.Ns env.locals m ∧ ∀ x v, V.lookup x = some v → sc.names.lookup x = some .local → ∃ u, m x = some u ∧ RelA prog w B ρ v u
  cel : ∀ x v, V.lookup x = some v → sc.names.lookup x = some .cell → ∃ c u, env.cells.lookup x = some c ∧ h.IsCell c (some u) ∧ RelA prog w B ρ v u
  cells : ∀ x c, env.cells.lookup x = some c → (∃ u, h.IsCell c u) ∧ c ∉ ρ ∧ B c = none ∧ GH.objs.size ≤ c ∧ c ≠ env.locals
  apart : env.cells.Pairwise fun x y => x.2 ≠ y.2
  allc : ∀ x, sc.names.lookup x = some .cell → ∃ c, env.cells.lookup x = some c
  own : env.locals ∉ ρ ∧ B env.locals = none ∧ GH.objs.size ≤ env.locals
noncomputable def isVar (sc : Scope) (x : Str) : Bool := match sc.names.lookup x with
  | some .local | some .cell => true
  | _ => false
theorem isVar_iff {sc : Scope} {x : Str} (h : isVar sc x = true) : sc.names.lookup x = some .local ∨ sc.names.lookup x = some .cell := by
  revert h
  show (match sc.names.lookup x with | some .local | some .cell => true | _ => false) = true → _
  cases sc.names.lookup x with
  | none => exact fun h => nomatch h
  | some k => cases k <;> first | exact fun _ => .inl rfl | exact fun _ => .inr rfl | exact fun h => nomatch h
noncomputable def wrOf (env : Env) : List Addr := env.locals :: env.cells.filterMap fun p => env.cells.lookup p.1
theorem wrOf_cell {env : Env} {x : Str} {c : Addr} (h : env.cells.lookup x = some c) : c ∈ wrOf env := List.mem_cons_of_mem _ (List.mem_filterMap.mpr ⟨(x, c), mem_of_lookup h, h⟩)
theorem wrOf_cases {env : Env} {a : Addr} (h : a ∈ wrOf env) : a = env.locals ∨ ∃ x, env.cells.lookup x = some a := by
  rcases List.mem_cons.mp h with q | q
  · exact .inl q
  · obtain ⟨p, _, e⟩ := List.mem_filterMap.mp q
    exact .inr ⟨p.1, e⟩
variable {prog w GH}
theorem FrOk.stepW {wr : List Addr} {sc : Scope} {env : Env} {h h' : Heap} {B B' : FB} {ρ ρ' : List Addr} {V : VEnv} (F : FrOk prog w GH sc env h B ρ V) (S : Step wr h B ρ h' B' ρ') (hw : ∀ b ∈ wr, b ∉ wrOf env) : FrOk prog w GH sc env h' B' ρ' V := by
  obtain ⟨ν, rfl, hν⟩ := S.ext
  obtain ⟨m, hn, hm⟩ := F.loc
  have out : ∀ a o, h.get? a = some o → a ∉ ρ → a ∉ ρ ++ ν := fun a o e hr q => by
    rcases List.mem_append.mp q with q | q
    · exact hr q
    · have := hν a q; rw [this] at e; cases e
  have none' : ∀ a o, h.get? a = some o → a ∉ ρ → B a = none → B' a = none := fun a o e hr hb => by
    cases q : B' a with
    | none => rfl
    | some o' =>
      rcases S.new a o' q with z | z | z
      · rw [hb] at z; cases z
      · rw [z] at e; cases e
      · exact absurd z hr
  have hL' : env.locals ∉ wr := fun q => hw _ q (List.mem_cons_self ..)
  have hC' : ∀ x c, env.cells.lookup x = some c → c ∉ wr := fun x c hc q => hw _ q (wrOf_cell hc)
  obtain ⟨oL, _, _, hL, _⟩ := id hn
  refine ⟨F.scope, F.kind, F.globals, F.builtins, ⟨m, hn.at' fun o e => S.keep _ _ e hL' F.own.1, fun x v hv hk => ?_⟩, fun x v hv hk => ?_, fun x c hc => ?_, F.apart, F.allc, ⟨out _ _ hL F.own.1, none' _ _ hL F.own.1 F.own.2.1, F.own.2.2⟩⟩
  · refine x1a2 (hm x v hv hk) fun u hu r => ?_
    exact ⟨u, hu, r.mono prog w S.le⟩
  · refine x2a3 (F.cel x v hv hk) fun c u hc Z2 r => ?_; obtain ⟨o, ho, hd⟩ := Z2
    have := F.cells x c hc
    exact ⟨c, u, hc, ⟨o, S.keep _ _ ho (hC' x c hc) this.2.1, hd⟩, r.mono prog w S.le⟩
  · obtain ⟨Z3, Z4⟩ := F.cells x c hc; obtain ⟨u, o, ho, hd⟩ := Z3; refine x0a4 Z4 fun h1 h2 h3 h4 => ?_; clear Z4
    exact ⟨⟨u, o, S.keep _ _ ho (hC' x c hc) h1, hd⟩, out _ _ ho h1, none' _ _ ho h1 h2, h3, h4⟩
theorem FrOk.step {sc : Scope} {env : Env} {h h' : Heap} {B B' : FB} {ρ ρ' : List Addr} {V : VEnv} (F : FrOk prog w GH sc env h B ρ V) (S : Step [] h B ρ h' B' ρ') : FrOk prog w GH sc env h' B' ρ' V := F.stepW S fun _ q => nomatch q
variable (prog w GH)
noncomputable def After (wr : List Addr) (s : Shared) (B : FB) (ρ : List Addr) (R : Shared → FB → List Addr → Prop) (s' : Shared) : Prop :=
  ∃ B' ρ', (∃ h tk, s' = { s with heap := h, toks := tk }) ∧ Step wr s.heap B ρ s'.heap B' ρ' ∧ R s' B' ρ'
noncomputable def EOk (sc : Scope) (k : Nat) (e : Expr) (V : VEnv) (σ : List MO) (Q : AV → List MO → Prop) : Prop :=
  ∀ A env s B ρ, Room k A → FrOk prog w GH sc env s.heap B ρ V → Inv prog w GH s.heap B ρ σ →
    wpAny (model prog w) A (eval e env) (fun u => After [] s B ρ fun s' B' ρ' => ∃ v σ', Inv prog w GH s'.heap B' ρ' σ' ∧ RelA prog w B' ρ' v u ∧ Q v σ') (fun _ _ => False) s
noncomputable def TOk (sc : Scope) (k : Nat) (e : Expr) (V : VEnv) (σ : List MO) (Q : Bool → List MO → Prop) : Prop :=
  ∀ A env s B ρ, Room k A → FrOk prog w GH sc env s.heap B ρ V → Inv prog w GH s.heap B ρ σ →
    wpAny (model prog w) A (isTrue e env (eval e env)) (fun b => After [] s B ρ fun s' B' ρ' => ∃ σ', Inv prog w GH s'.heap B' ρ' σ' ∧ Q b σ') (fun _ _ => False) s
noncomputable def LOk (sc : Scope) (k : Nat) (es : List Expr) (V : VEnv) (σ : List MO) (Q : List AV → List MO → Prop) : Prop :=
  ∀ A env s B ρ pos, Room k A → FrOk prog w GH sc env s.heap B ρ V → Inv prog w GH s.heap B ρ σ →
    wpAny (model prog w) A (spliced (backTo pos (starEach es env))) (fun us => After [] s B ρ fun s' B' ρ' => ∃ vs σ', Inv prog w GH s'.heap B' ρ' σ' ∧ RelAL prog w B' ρ' vs us ∧ Q vs σ') (fun _ _ => False) s
inductive Fl where
  | next
  | ret (v : AV)
noncomputable def FlRel (B : FB) (ρ : List Addr) : Fl → Flow → Prop
  | .next, f => f = .next
  | .ret v, f => ∃ u, f = .ret u ∧ RelA prog w B ρ v u
noncomputable def SOk (sc : Scope) (k : Nat) (ss : List Stmt) (V : VEnv) (σ : List MO) (Q : Fl → VEnv → List MO → Prop) : Prop :=
  ∀ A env s B ρ, Room k A → FrOk prog w GH sc env s.heap B ρ V → Inv prog w GH s.heap B ρ σ →
    wpAny (model prog w) A (execs ss env) (fun f => After (wrOf env) s B ρ fun s' B' ρ' => ∃ fl V' σ', Inv prog w GH s'.heap B' ρ' σ' ∧ FrOk prog w GH sc env s'.heap B' ρ' V' ∧ FlRel prog w B' ρ' fl f ∧ Q fl V' σ') (fun _ _ => False) s
noncomputable def XOk (sc : Scope) (k : Nat) (ss : Stmt) (V : VEnv) (σ : List MO) (Q : Fl → VEnv → List MO → Prop) : Prop :=
  ∀ A env s B ρ, Room k A → FrOk prog w GH sc env s.heap B ρ V → Inv prog w GH s.heap B ρ σ →
    wpAny (model prog w) A (exec ss env) (fun f => After (wrOf env) s B ρ fun s' B' ρ' => ∃ fl V' σ', Inv prog w GH s'.heap B' ρ' σ' ∧ FrOk prog w GH sc env s'.heap B' ρ' V' ∧ FlRel prog w B' ρ' fl f ∧ Q fl V' σ') (fun _ _ => False) s
noncomputable def COk (k : Nat) (f : Value) (args : List AV) (σ : List MO) (Q : AV → List MO → Prop) : Prop :=
  ∀ A s B ρ us, Room k A → Inv prog w GH s.heap B ρ σ → RelAL prog w B ρ args us →
    wpAny (model prog w) A (call f us) (fun u => After [] s B ρ fun s' B' ρ' => ∃ v σ', Inv prog w GH s'.heap B' ρ' σ' ∧ RelA prog w B' ρ' v u ∧ Q v σ') (fun _ _ => False) s
variable {prog w GH}
theorem After.here {wr : List Addr} {s : Shared} {B : FB} {ρ : List Addr} {R : Shared → FB → List Addr → Prop} (r : R s B ρ) : After wr s B ρ R s := ⟨B, ρ, ⟨s.heap, s.toks, rfl⟩, Step.refl .., r⟩
theorem After.tok {wr : List Addr} {s : Shared} {B : FB} {ρ : List Addr} {R : Shared → FB → List Addr → Prop} (t : Nat) (r : R { s with toks := t } B ρ) : After wr s B ρ R { s with toks := t } := ⟨B, ρ, ⟨s.heap, t, rfl⟩, Step.refl .., r⟩
theorem After.mono {wr : List Addr} {s s' : Shared} {B : FB} {ρ : List Addr} {R R' : Shared → FB → List Addr → Prop} (h : After wr s B ρ R s') (f : ∀ s B ρ, R s B ρ → R' s B ρ) : After wr s B ρ R' s' :=
  let ⟨B', ρ', a, b, c⟩ := h; ⟨B', ρ', a, b, f _ _ _ c⟩
theorem After.trans {wr wr' : List Addr} {s s₁ s₂ : Shared} {B B₁ : FB} {ρ ρ₁ : List Addr} {R : Shared → FB → List Addr → Prop} (h : ∃ h tk, s₁ = { s with heap := h, toks := tk }) (S : Step wr s.heap B ρ s₁.heap B₁ ρ₁) (hs : ∀ a ∈ wr', a ∈ wr ∨ s.heap.get? a = none)
    (x : After wr' s₁ B₁ ρ₁ R s₂) : After wr s B ρ R s₂ := by
  obtain ⟨h₁, tk₁, rfl⟩ := h
  obtain ⟨B₂, ρ₂, ⟨h₂, tk₂, rfl⟩, S₂, r⟩ := x
  exact ⟨B₂, ρ₂, ⟨h₂, tk₂, rfl⟩, S.trans hs S₂, r⟩
theorem After.weaken {wr wr' : List Addr} {s s' : Shared} {B : FB} {ρ : List Addr} {R : Shared → FB → List Addr → Prop} (h : After wr s B ρ R s') (hs : ∀ a ∈ wr, a ∈ wr' ∨ s.heap.get? a = none) : After wr' s B ρ R s' :=
  let ⟨B', ρ', a, b, c⟩ := h; ⟨B', ρ', a, b.weaken hs, c⟩
end
structure GOK (GH : Heap) (mg mb : Str → Option Value) : Prop where
  last : ∃ o, GH.get? (GH.objs.size - 1) = some o
  pos : 0 < GH.objs.size
  sys : ∃ o, GH.get? sysModules = some o
  g : GH.Ns mainGlobals mg
  b : GH.Ns builtinsNs mb
  nolimit : GH.NoLimit
  builtins : ∀ x : Str, x ≠ "__name__" → mb x = bootBuiltins x
section
variable {prog : Program} {w : World} {GH : Heap} {mg mb : Str → Option Value} {A : Around} {s : Shared} {B : FB} {ρ : List Addr} {σ : List MO} {h : Heap}
theorem size_none (h : Heap) : h.get? h.objs.size = none := by
  cases e : h.get? h.objs.size with
  | none => rfl
  | some o => exact absurd (Heap.lt_size e) (Nat.lt_irrefl _)
theorem Inv.keepG (I : Inv prog w GH h B ρ σ) : ∀ b o, GH.get? b = some o → h.get? b = some o := fun _ _ e => I.base _ _ (I.top _ _ e)
theorem Inv.big (I : Inv prog w GH h B ρ σ) (G : GOK GH mg mb) : GH.objs.size ≤ h.objs.size := by
  obtain ⟨o, ho⟩ := G.last
  have h1 : @LT.lt Nat _ (GH.objs.size - 1) h.objs.size := Heap.lt_size (I.keepG _ _ ho)
  have h2 := G.pos
  omega
theorem GOK.lowNot (G : GOK GH mg mb) {a : Addr} (h : GH.objs.size ≤ a) : (a == sysModules) = false := by
  obtain ⟨o, ho⟩ := G.sys
  have h1 : @LT.lt Nat _ sysModules GH.objs.size := Heap.lt_size ho
  exact beq_eq_false_iff_ne.mpr fun e => by
    subst e
    have h2 : @LE.le Nat _ GH.objs.size sysModules := h
    omega
theorem Inv.rho_lt (I : Inv prog w GH h B ρ σ) {a : Addr} (ha : a ∈ ρ) : ∃ o, h.get? a = some o := by
  obtain ⟨i, hi, rfl⟩ := List.mem_iff_getElem.mp ha
  have hi' : i < σ.length := I.len ▸ hi
  obtain ⟨_, Z2⟩ := I.store i ρ[i] σ[i] (List.getElem?_eq_getElem hi) (List.getElem?_eq_getElem hi'); refine x1a2 Z2 fun o ho _ => ?_; clear Z2
  exact ⟨o, ho⟩
theorem Inv.none_notin (I : Inv prog w GH h B ρ σ) {a : Addr} (e : h.get? a = none) : a ∉ ρ := fun q => by
  obtain ⟨o, ho⟩ := I.rho_lt q
  rw [e] at ho; cases ho
theorem Inv.none_base (I : Inv prog w GH h B ρ σ) {a : Addr} (q : h.get? a = none) : B a = none := by
  cases e : B a with
  | none => rfl
  | some o => have := I.base _ _ e; rw [q] at this; cases this
noncomputable def FB.put (B : FB) (a : Addr) (o : Obj) : FB := fun b => if b = a then some o else B b
theorem FB.put_self (B : FB) (a : Addr) (o : Obj) : B.put a o a = some o := by simp [FB.put]
theorem FB.le_put {B : FB} {a : Addr} {o : Obj} (h : B a = none) : B.le (B.put a o) := fun b o' e => by
  unfold FB.put
  rw [if_neg (fun q => by rw [q, h] at e; cases e)]; exact e
theorem Inv.froze {h' : Heap} {a : Addr} {o : Obj} (I : Inv prog w GH h B ρ σ) (hn : h.get? a = none) (hk : ∀ b o, h.get? b = some o → h'.get? b = some o) (ha : h'.get? a = some o) :
    Inv prog w GH h' (B.put a o) ρ σ ∧ ∀ wr, Step wr h B ρ h' (B.put a o) ρ := by
  have hB := I.none_base hn
  have le : B.le (B.put a o) := FB.le_put hB
  refine ⟨⟨fun b o' e => le _ _ (I.top _ _ e), fun b o' e => ?_, I.nodup, I.high, I.len, fun i b m e1 e2 => ?_⟩, fun wr => ⟨le, fun b o' e => ?_, ⟨[], by simp, fun _ q => nomatch q⟩, fun b o' e _ _ => hk _ _ e, fun b o' e => ⟨o', hk _ _ e⟩⟩⟩
  · unfold FB.put at e
    split at e
    · rename_i q; subst q; cases e; exact ha
    · exact hk _ _ (I.base _ _ e)
  · obtain ⟨q, Z1⟩ := I.store i b m e1 e2; refine x1a2 Z1 fun o' ho' r => ?_; clear Z1
    refine ⟨fun z => ?_, o', hk _ _ ho', ?_⟩
    · unfold FB.put
      rw [if_neg (fun y => by rw [y, hn] at ho'; cases ho')]; exact q z
    · have := r.mono prog w le (ν := []); rwa [List.append_nil] at this
  · unfold FB.put at e
    split at e
    · rename_i q; subst q; exact .inr (.inl hn)
    · exact .inl e
theorem Inv.grown {h' : Heap} (I : Inv prog w GH h B ρ σ) (hk : ∀ b o, h.get? b = some o → h'.get? b = some o) : Inv prog w GH h' B ρ σ ∧ ∀ wr, Step wr h B ρ h' B ρ :=
  ⟨⟨I.top, fun b o e => hk _ _ (I.base _ _ e), I.nodup, I.high, I.len, fun i b m e1 e2 => let ⟨q, o, ho, r⟩ := I.store i b m e1 e2; ⟨q, o, hk _ _ ho, r⟩⟩,
   fun _ => ⟨FB.le.refl B, fun _ _ e => .inl e, ⟨[], by simp, fun _ q => nomatch q⟩, fun b o e _ _ => hk _ _ e, fun b o e => ⟨o, hk _ _ e⟩⟩⟩
theorem Inv.owned {h' : Heap} {a : Addr} {o : Obj} {m : MO} (I : Inv prog w GH h B ρ σ) (hn : h.get? a = none) (hg : GH.objs.size ≤ a) (hk : ∀ b o, h.get? b = some o → h'.get? b = some o) (ha : h'.get? a = some o) (hm : MRel prog w B (ρ ++ [a]) o m) :
    Inv prog w GH h' B (ρ ++ [a]) (σ ++ [m]) ∧ ∀ wr, Step wr h B ρ h' B (ρ ++ [a]) := by
  have hB := I.none_base hn
  have hr := I.none_notin hn
  refine ⟨⟨I.top, fun b o e => hk _ _ (I.base _ _ e), ?_, fun b hb => ?_, by simp [I.len], fun i b m' e1 e2 => ?_⟩, fun wr => ⟨FB.le.refl B, fun _ _ e => .inl e, ⟨[a], rfl, fun b hb => by rw [List.mem_singleton.mp hb]; exact hn⟩, fun b o e _ _ => hk _ _ e, fun b o e => ⟨o, hk _ _ e⟩⟩⟩
  · exact List.nodup_append.mpr ⟨I.nodup, by simp, fun x hx y hy e => by rw [List.mem_singleton.mp hy] at e; exact hr (e ▸ hx)⟩
  · rcases List.mem_append.mp hb with q | q
    · exact I.high b q
    · rw [List.mem_singleton.mp q]; exact hg
  · rcases Nat.lt_trichotomy i ρ.length with q | q | q
    · rw [List.getElem?_append_left q] at e1
      rw [List.getElem?_append_left (I.len ▸ q)] at e2
      obtain ⟨z, Z1⟩ := I.store i b m' e1 e2; refine x1a2 Z1 fun o' ho' r => ?_; clear Z1
      exact ⟨z, o', hk _ _ ho', r.mono prog w (FB.le.refl B)⟩
    · subst q
      rw [I.len] at e2
      rw [List.getElem?_append_right (Nat.le_refl _)] at e1
      rw [List.getElem?_append_right (Nat.le_refl _)] at e2
      simp at e1 e2
      subst e1; subst e2
      exact ⟨fun _ => hB, o, ha, hm⟩
    · rw [List.getElem?_eq_none (by simp; omega)] at e1; cases e1
theorem Inv.changed {h' : Heap} {i : Nat} {a : Addr} {o : Obj} {m m' : MO} (I : Inv prog w GH h B ρ σ) (ha : ρ[i]? = some a) (hm : σ[i]? = some m) (hd : m ≠ .dead) (hs : Heap.SameBut a h h') (ho : h'.get? a = some o) (r : MRel prog w B ρ o m') :
    Inv prog w GH h' B ρ (σ.set i m') ∧ ∀ wr, Step wr h B ρ h' B ρ := by
  have hB : B a = none := (I.store i a m ha hm).1 hd
  have hmem : a ∈ ρ := List.mem_of_getElem? ha
  have keep : ∀ b o, h.get? b = some o → b ≠ a → h'.get? b = some o := fun b o e q => hs.extBut b o q e
  refine ⟨⟨I.top, fun b o e => keep _ _ (I.base _ _ e) (fun q => by rw [q, hB] at e; cases e), I.nodup, I.high, by simp [I.len], fun j b m'' e1 e2 => ?_⟩,
    fun wr => ⟨FB.le.refl B, fun _ _ e => .inl e, ⟨[], by simp, fun _ q => nomatch q⟩, fun b o e _ hb => keep _ _ e (fun q => hb (q ▸ hmem)), fun b o' e => ?_⟩⟩
  · by_cases q : j = i
    · subst q
      rw [ha] at e1; cases e1
      have hl : j < σ.length := by
        rcases Nat.lt_or_ge j σ.length with z | z
        · exact z
        · rw [List.getElem?_eq_none z] at hm; cases hm
      rw [List.getElem?_set_self hl] at e2
      cases e2
      exact ⟨fun _ => hB, o, ho, r⟩
    · rw [List.getElem?_set_ne (Ne.symm q)] at e2
      obtain ⟨z, Z1⟩ := I.store j b m'' e1 e2; refine x1a2 Z1 fun o' ho' r' => ?_; clear Z1
      refine ⟨z, o', keep _ _ ho' (fun y => ?_), r'⟩
      have hj : j < ρ.length := by
        rcases Nat.lt_or_ge j ρ.length with z | z
        · exact z
        · rw [List.getElem?_eq_none z] at e1; cases e1
      exact q ((List.getElem?_inj hj I.nodup).mp (by rw [e1, ha, y]))
  · by_cases q : b = a
    · subst q; exact ⟨o, ho⟩
    · exact ⟨o', keep _ _ e q⟩
end
section
variable {prog : Program} {w : World} {GH : Heap} {mg mb : Str → Option Value} {A : Around} {env : Env} {s : Shared} {B : FB} {ρ : List Addr} {σ : List MO} {sc : Scope} {k : Nat} {V : VEnv} {e : Expr}
noncomputable abbrev AsS (s s' : Shared) : Prop := ∃ h tk, s' = { s with heap := h, toks := tk }
structure At (prog : Program) (w : World) (GH : Heap) (wr : List Addr) (s : Shared) (B : FB) (ρ : List Addr) (s' : Shared) (B' : FB) (ρ' : List Addr) (σ' : List MO) : Prop where
  same : AsS s s'
  step : Step wr s.heap B ρ s'.heap B' ρ'
  inv : Inv prog w GH s'.heap B' ρ' σ'
theorem EOk.go {Q : AV → List MO → Prop} {P : Value → Shared → Prop} (h : EOk prog w GH sc k e V σ Q) (R : Room k A) (F : FrOk prog w GH sc env s.heap B ρ V) (I : Inv prog w GH s.heap B ρ σ)
    (next : ∀ u s' B' ρ' v σ', At prog w GH [] s B ρ s' B' ρ' σ' → RelA prog w B' ρ' v u → Q v σ' → P u s') : wpAny (model prog w) A (eval e env) P (fun _ _ => False) s :=
  wpAny_mono (h A env s B ρ R F I) (fun u s' ⟨B', ρ', a, S, v, σ', i, r, q⟩ => next u s' B' ρ' v σ' ⟨a, S, i⟩ r q) fun _ _ x => x
theorem TOk.go {Q : Bool → List MO → Prop} {P : Bool → Shared → Prop} (h : TOk prog w GH sc k e V σ Q) (R : Room k A) (F : FrOk prog w GH sc env s.heap B ρ V) (I : Inv prog w GH s.heap B ρ σ)
    (next : ∀ b s' B' ρ' σ', At prog w GH [] s B ρ s' B' ρ' σ' → Q b σ' → P b s') : wpAny (model prog w) A (isTrue e env (eval e env)) P (fun _ _ => False) s :=
  wpAny_mono (h A env s B ρ R F I) (fun b s' ⟨B', ρ', a, S, σ', i, q⟩ => next b s' B' ρ' σ' ⟨a, S, i⟩ q) fun _ _ x => x
theorem LOk.go {es : List Expr} {pos : Pos} {Q : List AV → List MO → Prop} {P : List Value → Shared → Prop} (h : LOk prog w GH sc k es V σ Q) (R : Room k A) (F : FrOk prog w GH sc env s.heap B ρ V) (I : Inv prog w GH s.heap B ρ σ)
    (next : ∀ us s' B' ρ' vs σ', At prog w GH [] s B ρ s' B' ρ' σ' → RelAL prog w B' ρ' vs us → Q vs σ' → P us s') : wpAny (model prog w) A (spliced (backTo pos (starEach es env))) P (fun _ _ => False) s :=
  wpAny_mono (h A env s B ρ pos R F I) (fun us s' ⟨B', ρ', a, S, v, σ', i, r, q⟩ => next us s' B' ρ' v σ' ⟨a, S, i⟩ r q) fun _ _ x => x
theorem COk.go {f : Value} {args : List AV} {us : List Value} {Q : AV → List MO → Prop} {P : Value → Shared → Prop} (h : COk prog w GH k f args σ Q) (R : Room k A) (I : Inv prog w GH s.heap B ρ σ) (ra : RelAL prog w B ρ args us)
    (next : ∀ u s' B' ρ' v σ', At prog w GH [] s B ρ s' B' ρ' σ' → RelA prog w B' ρ' v u → Q v σ' → P u s') : wpAny (model prog w) A (call f us) P (fun _ _ => False) s :=
  wpAny_mono (h A s B ρ us R I ra) (fun u s' ⟨B', ρ', a, S, v, σ', i, r, q⟩ => next u s' B' ρ' v σ' ⟨a, S, i⟩ r q) fun _ _ x => x
theorem At.fr {s' : Shared} {B' : FB} {ρ' : List Addr} {σ' : List MO} (a : At prog w GH [] s B ρ s' B' ρ' σ') (F : FrOk prog w GH sc env s.heap B ρ V) : FrOk prog w GH sc env s'.heap B' ρ' V := F.step a.step
theorem At.rel {wr : List Addr} {s' : Shared} {B' : FB} {ρ' : List Addr} {σ' : List MO} {v : AV} {u : Value} (a : At prog w GH wr s B ρ s' B' ρ' σ') (r : RelA prog w B ρ v u) : RelA prog w B' ρ' v u := by
  obtain ⟨ν, rfl, _⟩ := a.step.ext
  exact r.mono prog w a.step.le
theorem At.rels {wr : List Addr} {s' : Shared} {B' : FB} {ρ' : List Addr} {σ' : List MO} {v : List AV} {u : List Value} (a : At prog w GH wr s B ρ s' B' ρ' σ') (r : RelAL prog w B ρ v u) : RelAL prog w B' ρ' v u := by
  obtain ⟨ν, rfl, _⟩ := a.step.ext
  exact r.mono prog w a.step.le
theorem At.then {wr wr' : List Addr} {s₁ s₂ : Shared} {B₁ : FB} {ρ₁ : List Addr} {σ₁ : List MO} {R : Shared → FB → List Addr → Prop} (a : At prog w GH wr s B ρ s₁ B₁ ρ₁ σ₁) (x : After wr' s₁ B₁ ρ₁ R s₂) (hs : ∀ b ∈ wr', b ∈ wr ∨ s.heap.get? b = none) : After wr s B ρ R s₂ :=
  After.trans a.same a.step hs x
theorem At.then0 {wr : List Addr} {s₁ s₂ : Shared} {B₁ : FB} {ρ₁ : List Addr} {σ₁ : List MO} {R : Shared → FB → List Addr → Prop} (a : At prog w GH wr s B ρ s₁ B₁ ρ₁ σ₁) (x : After [] s₁ B₁ ρ₁ R s₂) : After wr s B ρ R s₂ :=
  a.then x fun _ q => nomatch q
theorem At.thenW {wr : List Addr} {s₁ s₂ : Shared} {B₁ : FB} {ρ₁ : List Addr} {σ₁ : List MO} {R : Shared → FB → List Addr → Prop} (a : At prog w GH [] s B ρ s₁ B₁ ρ₁ σ₁) (x : After wr s₁ B₁ ρ₁ R s₂) : After wr s B ρ R s₂ :=
  After.trans a.same (a.step.weaken (wr' := wr) fun _ q => nomatch q) (fun _ q => .inl q) x
theorem At.here {R : Shared → FB → List Addr → Prop} {wr : List Addr} {s₁ : Shared} {B₁ : FB} {ρ₁ : List Addr} {σ₁ : List MO} (a : At prog w GH wr s B ρ s₁ B₁ ρ₁ σ₁) (r : R s₁ B₁ ρ₁) : After wr s B ρ R s₁ := ⟨B₁, ρ₁, a.same, a.step, r⟩
noncomputable def Op2 (prog : Program) (w : World) (GH : Heap) (k : Nat) (t : Value → Value → Sem Value) (a b : AV) (σ : List MO) (Q : AV → List MO → Prop) : Prop :=
  ∀ A s B ρ u v, Room k A → Inv prog w GH s.heap B ρ σ → RelA prog w B ρ a u → RelA prog w B ρ b v →
    wpAny (model prog w) A (t u v) (fun r => After [] s B ρ fun s' B' ρ' => ∃ x σ', Inv prog w GH s'.heap B' ρ' σ' ∧ RelA prog w B' ρ' x r ∧ Q x σ') (fun _ _ => False) s
noncomputable def Op1 (prog : Program) (w : World) (GH : Heap) (k : Nat) (t : Value → Sem Value) (a : AV) (σ : List MO) (Q : AV → List MO → Prop) : Prop :=
  ∀ A s B ρ u, Room k A → Inv prog w GH s.heap B ρ σ → RelA prog w B ρ a u →
    wpAny (model prog w) A (t u) (fun r => After [] s B ρ fun s' B' ρ' => ∃ x σ', Inv prog w GH s'.heap B' ρ' σ' ∧ RelA prog w B' ρ' x r ∧ Q x σ') (fun _ _ => False) s
noncomputable def Tr1 (prog : Program) (w : World) (GH : Heap) (k : Nat) (a : AV) (σ : List MO) (Q : Bool → List MO → Prop) : Prop :=
  ∀ A s B ρ u, Room k A → Inv prog w GH s.heap B ρ σ → RelA prog w B ρ a u →
    wpAny (model prog w) A (truthy u) (fun b => After [] s B ρ fun s' B' ρ' => ∃ σ', Inv prog w GH s'.heap B' ρ' σ' ∧ Q b σ') (fun _ _ => False) s
theorem e_bin {l r : Expr} {op : Operator} {p : Pos} {Q : AV → List MO → Prop} (h : EOk prog w GH sc k l V σ fun a σ₁ => EOk prog w GH sc k r V σ₁ fun b σ₂ => Op2 prog w GH k (binaryOp op) a b σ₂ Q) :
    EOk prog w GH sc k (.BinOp l op r p) V σ Q := fun A env s B ρ R F I =>
  wpAny_BinOp (h.go R F I fun u₁ s₁ B₁ ρ₁ a σ₁ at₁ r₁ h₁ => h₁.go R (at₁.fr F) at₁.inv fun u₂ s₂ B₂ ρ₂ b σ₂ at₂ r₂ h₂ =>
    wpAny_mono (h₂ A s₂ B₂ ρ₂ u₁ u₂ R at₂.inv (at₂.rel r₁) r₂) (fun _ _ x => at₁.then0 (at₂.then0 x)) fun _ _ x => x)
theorem e_cmp {l r : Expr} {op : CmpOp} {p : Pos} {Q : AV → List MO → Prop} (h : EOk prog w GH sc k l V σ fun a σ₁ => EOk prog w GH sc k r V σ₁ fun b σ₂ => Op2 prog w GH k (compareOp op) a b σ₂ Q) (hm : behindInMarks op r = false) :
    EOk prog w GH sc k (.Compare l [op] [r] p) V σ Q := fun A env s B ρ R F I =>
  wpAny_Compare1 (h.go R F I fun u₁ s₁ B₁ ρ₁ a σ₁ at₁ r₁ h₁ => h₁.go R (at₁.fr F) at₁.inv fun u₂ s₂ B₂ ρ₂ b σ₂ at₂ r₂ h₂ =>
    wpAny_mono (h₂ A s₂ B₂ ρ₂ u₁ u₂ R at₂.inv (at₂.rel r₁) r₂) (fun _ _ x => at₁.then0 (at₂.then0 x)) fun _ _ x => x) hm
theorem t_cmp {l r : Expr} {op : CmpOp} {p : Pos} {Q : Bool → List MO → Prop} (h : EOk prog w GH sc k l V σ fun a σ₁ => EOk prog w GH sc k r V σ₁ fun b σ₂ => Op2 prog w GH k (compareOp op) a b σ₂ fun c σ₃ => Tr1 prog w GH k c σ₃ Q) (hm : behindInMarks op r = false) :
    TOk prog w GH sc k (.Compare l [op] [r] p) V σ Q := fun A env s B ρ R F I =>
  wpAny_isTrue_Compare1 (h.go R F I fun u₁ s₁ B₁ ρ₁ a σ₁ at₁ r₁ h₁ => h₁.go R (at₁.fr F) at₁.inv fun u₂ s₂ B₂ ρ₂ b σ₂ at₂ r₂ h₂ =>
    wpAny_mono (h₂ A s₂ B₂ ρ₂ u₁ u₂ R at₂.inv (at₂.rel r₁) r₂) (fun c s₃ z => by
      refine x2a3 z fun B₃ ρ₃ sm S₃ Z1 => ?_; clear z; refine x2a3 Z1 fun x σ₃ i₃ r₃ h₃ => ?_; clear Z1
      exact wpAny_mono (h₃ A s₃ B₃ ρ₃ c R i₃ r₃) (fun _ _ y => at₁.then0 (at₂.then0 (After.trans (wr' := []) sm S₃ (fun _ q => nomatch q) y))) fun _ _ y => y) fun _ _ x => x) hm
theorem t_not {e : Expr} {p : Pos} {Q : Bool → List MO → Prop} (h : TOk prog w GH sc k e V σ fun b σ₁ => Q (!b) σ₁) : TOk prog w GH sc k (.UnaryOp .Not e p) V σ Q := fun _ _ _ _ _ R F I =>
  wpAny_isTrue_Not (h.go R F I fun _ _ _ _ σ' a q => a.here (R := fun s' B' ρ' => ∃ σ', Inv prog w GH s'.heap B' ρ' σ' ∧ Q _ σ') ⟨σ', a.inv, q⟩)
theorem t_value {e : Expr} {Q : Bool → List MO → Prop} (h : EOk prog w GH sc k e V σ fun a σ₁ => Tr1 prog w GH k a σ₁ Q) (he : ∀ env, isTrue e env (eval e env) = (do let v ← eval e env; standAt e.pos; holding [v] (truthy v))) : TOk prog w GH sc k e V σ Q := fun A _ _ _ _ R F I =>
  wpAny_isTrue_value (h.go R F I fun u s₁ B₁ ρ₁ _ _ a r q => wpAny_mono (q A s₁ B₁ ρ₁ u R a.inv r) (fun _ _ x => a.then0 x) fun _ _ x => x) (he _)
noncomputable def AOk (prog : Program) (w : World) (GH : Heap) (sc : Scope) (k : Nat) (op : BoolOp) (es : List Expr) (V : VEnv) (σ : List MO) (Q : Bool → List MO → Prop) : Prop :=
  ∀ A env s B ρ, Room k A → FrOk prog w GH sc env s.heap B ρ V → Inv prog w GH s.heap B ρ σ →
    wpAny (model prog w) A (allTrue op es env) (fun b => After [] s B ρ fun s' B' ρ' => ∃ σ', Inv prog w GH s'.heap B' ρ' σ' ∧ Q b σ') (fun _ _ => False) s
theorem t_bool {op : BoolOp} {es : List Expr} {p : Pos} {Q : Bool → List MO → Prop} (h : AOk prog w GH sc k op es V σ Q) : TOk prog w GH sc k (.BoolOp op es p) V σ Q := fun A env s B ρ R F I => wpAny_isTrue_BoolOp (h A env s B ρ R F I)
theorem a_and_nil {Q : Bool → List MO → Prop} (h : Q true σ) : AOk prog w GH sc k .And [] V σ Q := fun _ _ _ _ _ _ _ I => wpAny_allTrue_And_nil (by exact After.here ⟨σ, I, h⟩)
theorem a_or_nil {Q : Bool → List MO → Prop} (h : Q false σ) : AOk prog w GH sc k .Or [] V σ Q := fun _ _ _ _ _ _ _ I => wpAny_allTrue_Or_nil (by exact After.here ⟨σ, I, h⟩)
theorem a_and {e : Expr} {es : List Expr} {Q : Bool → List MO → Prop} (h : TOk prog w GH sc k e V σ fun b σ₁ => (b = true → AOk prog w GH sc k .And es V σ₁ Q) ∧ (b = false → Q false σ₁)) : AOk prog w GH sc k .And (e :: es) V σ Q := fun A env s B ρ R F I =>
  wpAny_allTrue_And_cons (h.go R F I fun b s₁ B₁ ρ₁ σ₁ a q => by
    cases b with
    | true => exact wpAny_mono (q.1 rfl A env s₁ B₁ ρ₁ R (a.fr F) a.inv) (fun _ _ x => a.then0 x) fun _ _ x => x
    | false => exact a.here (R := fun s' B' ρ' => ∃ σ', Inv prog w GH s'.heap B' ρ' σ' ∧ Q false σ') ⟨σ₁, a.inv, q.2 rfl⟩)
theorem a_or {e : Expr} {es : List Expr} {Q : Bool → List MO → Prop} (h : TOk prog w GH sc k e V σ fun b σ₁ => (b = true → Q true σ₁) ∧ (b = false → AOk prog w GH sc k .Or es V σ₁ Q)) : AOk prog w GH sc k .Or (e :: es) V σ Q := fun A env s B ρ R F I =>
  wpAny_allTrue_Or_cons (h.go R F I fun b s₁ B₁ ρ₁ σ₁ a q => by
    cases b with
    | true => exact a.here (R := fun s' B' ρ' => ∃ σ', Inv prog w GH s'.heap B' ρ' σ' ∧ Q true σ') ⟨σ₁, a.inv, q.1 rfl⟩
    | false => exact wpAny_mono (q.2 rfl A env s₁ B₁ ρ₁ R (a.fr F) a.inv) (fun _ _ x => a.then0 x) fun _ _ x => x)
noncomputable def BOk (prog : Program) (w : World) (GH : Heap) (sc : Scope) (k : Nat) (op : BoolOp) (es : List Expr) (V : VEnv) (σ : List MO) (Q : AV → List MO → Prop) : Prop :=
  ∀ A env s B ρ p, Room k A → FrOk prog w GH sc env s.heap B ρ V → Inv prog w GH s.heap B ρ σ →
    wpAny (model prog w) A (boolOp p op (evalEach es env)) (fun u => After [] s B ρ fun s' B' ρ' => ∃ v σ', Inv prog w GH s'.heap B' ρ' σ' ∧ RelA prog w B' ρ' v u ∧ Q v σ') (fun _ _ => False) s
theorem e_bool {op : BoolOp} {es : List Expr} {p : Pos} {Q : AV → List MO → Prop} (h : BOk prog w GH sc k op es V σ Q) : EOk prog w GH sc k (.BoolOp op es p) V σ Q := fun A env s B ρ R F I => h A env s B ρ p R F I
theorem b_one {op : BoolOp} {e : Expr} {Q : AV → List MO → Prop} (h : EOk prog w GH sc k e V σ Q) : BOk prog w GH sc k op [e] V σ Q := fun A env s B ρ _ R F I => h A env s B ρ R F I
theorem b_and {e e' : Expr} {es : List Expr} {Q : AV → List MO → Prop} (h : EOk prog w GH sc k e V σ fun v σ₁ => Tr1 prog w GH k v σ₁ fun b σ₂ => (b = true → BOk prog w GH sc k .And (e' :: es) V σ₂ Q) ∧ (b = false → Q v σ₂)) : BOk prog w GH sc k .And (e :: e' :: es) V σ Q := fun A env s B ρ p R F I => by
  show wpAny _ A (boolOp p .And (eval e env :: eval e' env :: evalEach es env)) _ _ s
  refine wpAny_bind (m := eval e env) (h.go R F I fun u s₁ B₁ ρ₁ v σ₁ a r q => wpAny_bind (wpAny_standAt (wpAny_bind (wpAny_holding (wpAny_mono (q A s₁ B₁ ρ₁ u R a.inv r) (fun b s₂ x => ?_) fun _ _ x => x)))))
  refine x2a3 x fun B₂ ρ₂ sm S₂ Z1 => ?_; clear x; refine x1a2 Z1 fun σ₂ i₂ q₂ => ?_; clear Z1
  have a₂ : At prog w GH [] s₁ B₁ ρ₁ s₂ B₂ ρ₂ σ₂ := ⟨sm, S₂, i₂⟩
  cases b with
  | true => exact wpAny_mono (q₂.1 rfl A env s₂ B₂ ρ₂ p R (a₂.fr (a.fr F)) i₂) (fun _ _ x => a.then0 (a₂.then0 x)) fun _ _ x => x
  | false => exact wpAny_pure (a.then0 (a₂.here ⟨v, σ₂, i₂, a₂.rel r, q₂.2 rfl⟩))
theorem b_or {e e' : Expr} {es : List Expr} {Q : AV → List MO → Prop} (h : EOk prog w GH sc k e V σ fun v σ₁ => Tr1 prog w GH k v σ₁ fun b σ₂ => (b = false → BOk prog w GH sc k .Or (e' :: es) V σ₂ Q) ∧ (b = true → Q v σ₂)) : BOk prog w GH sc k .Or (e :: e' :: es) V σ Q := fun A env s B ρ p R F I => by
  show wpAny _ A (boolOp p .Or (eval e env :: eval e' env :: evalEach es env)) _ _ s
  refine wpAny_bind (m := eval e env) (h.go R F I fun u s₁ B₁ ρ₁ v σ₁ a r q => wpAny_bind (wpAny_standAt (wpAny_bind (wpAny_holding (wpAny_mono (q A s₁ B₁ ρ₁ u R a.inv r) (fun b s₂ x => ?_) fun _ _ x => x)))))
  refine x2a3 x fun B₂ ρ₂ sm S₂ Z1 => ?_; clear x; refine x1a2 Z1 fun σ₂ i₂ q₂ => ?_; clear Z1
  have a₂ : At prog w GH [] s₁ B₁ ρ₁ s₂ B₂ ρ₂ σ₂ := ⟨sm, S₂, i₂⟩
  cases b with
  | false => exact wpAny_mono (q₂.1 rfl A env s₂ B₂ ρ₂ p R (a₂.fr (a.fr F)) i₂) (fun _ _ x => a.then0 (a₂.then0 x)) fun _ _ x => x
  | true => exact wpAny_pure (a.then0 (a₂.here ⟨v, σ₂, i₂, a₂.rel r, q₂.2 rfl⟩))
theorem e_if {t b o : Expr} {p : Pos} {Q : AV → List MO → Prop} (h : TOk prog w GH sc k t V σ fun c σ₁ => (c = true → EOk prog w GH sc k b V σ₁ Q) ∧ (c = false → EOk prog w GH sc k o V σ₁ Q)) : EOk prog w GH sc k (.IfExp t b o p) V σ Q := fun A env s B ρ R F I =>
  wpAny_IfExp (h.go R F I fun c s₁ B₁ ρ₁ σ₁ a q => by
    cases c with
    | true => exact wpAny_mono (q.1 rfl A env s₁ B₁ ρ₁ R (a.fr F) a.inv) (fun _ _ x => a.then0 x) fun _ _ x => x
    | false => exact wpAny_mono (q.2 rfl A env s₁ B₁ ρ₁ R (a.fr F) a.inv) (fun _ _ x => a.then0 x) fun _ _ x => x)
theorem e_un {op : UnaryOp} {x : Expr} {p : Pos} {Q : AV → List MO → Prop} (h : EOk prog w GH sc k x V σ fun a σ₁ => Op1 prog w GH k (unaryOp op) a σ₁ Q) : EOk prog w GH sc k (.UnaryOp op x p) V σ Q := fun A env s B ρ R F I =>
  wpAny_UnaryOp (h.go R F I fun u s₁ B₁ ρ₁ _ _ a r q => wpAny_mono (q A s₁ B₁ ρ₁ u R a.inv r) (fun _ _ x => a.then0 x) fun _ _ x => x)
-- constants
theorem relA_int {i : Int} {t : Tok} : RelA prog w B ρ (.pv (.int i)) (.int i t) := ⟨t, rfl⟩
theorem relA_str {i : Str} {t : Tok} : RelA prog w B ρ (.pv (.str i)) (.str i t) := ⟨t, rfl⟩
theorem relA_bytes {i : Array UInt8} {t : Tok} : RelA prog w B ρ (.pv (.bytes i)) (.bytes i t) := ⟨t, rfl⟩
theorem relA_none : RelA prog w B ρ (.pv .none) .none := rfl
theorem relA_bool {b : Bool} : RelA prog w B ρ (.pv (.bool b)) (.bool b) := rfl
theorem relA_cst {u : Value} : RelA prog w B ρ (.pv (.cst u)) u := rfl
theorem relA_pv {v : PV} {u : Value} (h : Rel prog w B v u) : RelA prog w B ρ (.pv v) u := h
theorem e_int {i n : Nat} {p : Pos} {Q : AV → List MO → Prop} (h : Q (.pv (.int (OfNat.ofNat i))) σ) : EOk prog w GH sc k (.Constant (.int (.ofNat i)) n p) V σ Q := fun _ _ s _ _ _ _ I =>
  wpAny_Constant_int (After.tok _ ⟨_, σ, I, relA_int, h⟩)
theorem e_str {x : Str} {n : Nat} {p : Pos} {Q : AV → List MO → Prop} (h : Q (.pv (.str x)) σ) : EOk prog w GH sc k (.Constant (.str x) n p) V σ Q := fun _ _ s _ _ _ _ I =>
  wpAny_Constant_str (After.tok _ ⟨_, σ, I, relA_str, h⟩)
theorem e_bytes {x : List UInt8} {n : Nat} {p : Pos} {Q : AV → List MO → Prop} (h : Q (.pv (.bytes x.toArray)) σ) : EOk prog w GH sc k (.Constant (.bytes x) n p) V σ Q := fun _ _ s B ρ _ _ I => by
  show wpAny _ _ (mkTextBytes x.toArray) _ _ s
  exact wpAny_mkTextBytes (After.tok _ ⟨_, σ, I, relA_bytes, h⟩)
theorem e_none {n : Nat} {p : Pos} {Q : AV → List MO → Prop} (h : Q (.pv .none) σ) : EOk prog w GH sc k (.Constant .none n p) V σ Q := fun _ _ s _ _ _ _ I =>
  wpAny_Constant_none (After.here ⟨_, σ, I, relA_none, h⟩)
theorem e_cbool {b : Bool} {n : Nat} {p : Pos} {Q : AV → List MO → Prop} (h : Q (.pv (.bool b)) σ) : EOk prog w GH sc k (.Constant (.bool b) n p) V σ Q := fun _ _ s _ _ _ _ I =>
  wpAny_Constant_bool (After.here ⟨_, σ, I, relA_bool, h⟩)
-- names
theorem FrOk.kindOf {h : Heap} (F : FrOk prog w GH sc env h B ρ V) (x : Str) : env.kindOf x = sc.names.lookup x := by
  unfold Env.kindOf; rw [F.scope]
theorem e_var {x : Str} {p : Pos} {v : AV} {Q : AV → List MO → Prop} (hv : V.lookup x = some v) (h : Q v σ) (hk : isVar sc x = true) (hd : (x == ("__debug__" : Str)) = false := by decide) : EOk prog w GH sc k (.Name x p) V σ Q := fun _ env s _ _ _ F I => by
  have hkind : env.scope.kind = .function := by rw [F.scope]; exact F.kind
  rcases isVar_iff hk with hk | hk
  · refine x1a2 F.loc fun m hn hm => ?_
    refine x1a2 (hm x v hv hk) fun u hu r => ?_
    exact wpAny_Name (wpAny_loadName_local hkind ((F.kindOf x).trans hk) hn hu (After.here ⟨v, σ, I, r, h⟩)) hd
  · refine x2a3 (F.cel x v hv hk) fun c u hc hcell r => ?_
    exact wpAny_Name (wpAny_loadName_cell hkind ((F.kindOf x).trans hk) hc hcell (After.here ⟨v, σ, I, r, h⟩)) hd
theorem e_glob {x : Str} {p : Pos} {v : PV} {u : Value} {Q : AV → List MO → Prop} (G : GOK GH mg mb) (hg : mg x = some u) (hr : ∀ B : FB, (∀ b o, GH.get? b = some o → B b = some o) → Rel prog w B v u) (h : Q (.pv v) σ) (hk : sc.names.lookup x = some .globalImplicit) (hd : (x == ("__debug__" : Str)) = false := by decide) : EOk prog w GH sc k (.Name x p) V σ Q := fun _ env s B _ _ F I => by
  have hkind : env.scope.kind = .function := by rw [F.scope]; exact F.kind
  exact Name_function_global hkind ((F.kindOf x).trans hk) (loadGlobal_global (by rw [F.globals]; exact G.g.keeps I.keepG) hg (After.here ⟨_, σ, I, relA_pv (hr B I.top), h⟩)) hd
theorem e_built {x : Str} {p : Pos} {u : Value} {Q : AV → List MO → Prop} (G : GOK GH mg mb) (hg : mg x = none) (hb : bootBuiltins x = some u) (hx : x ≠ "__name__") (h : Q (.pv (.cst u)) σ) (hk : sc.names.lookup x = some .globalImplicit) (hd : (x == ("__debug__" : Str)) = false := by decide) : EOk prog w GH sc k (.Name x p) V σ Q := fun _ env s B _ _ F I => by
  have hkind : env.scope.kind = .function := by rw [F.scope]; exact F.kind
  exact Name_function_global hkind ((F.kindOf x).trans hk) (loadGlobal_builtin (by rw [F.globals]; exact G.g.keeps I.keepG) hg (by rw [F.builtins]; exact G.b.keeps I.keepG) ((G.builtins x hx).trans hb) (After.here ⟨_, σ, I, relA_cst, h⟩)) hd
-- lists of expressions
theorem l_nil {Q : List AV → List MO → Prop} (h : Q [] σ) : LOk prog w GH sc k [] V σ Q := fun _ _ _ _ _ _ _ _ I => Calls.spliced_nil (After.here ⟨[], σ, I, rfl, h⟩)
theorem l_cons {e : Expr} {es : List Expr} {Q : List AV → List MO → Prop} (h : EOk prog w GH sc k e V σ fun a σ₁ => LOk prog w GH sc k es V σ₁ fun vs σ₂ => Q (a :: vs) σ₂) (he : ∀ env, starEach (e :: es) env = (false, eval e env) :: starEach es env) : LOk prog w GH sc k (e :: es) V σ Q := fun A env s B ρ pos R F I => by
  rw [he]
  show wpAny _ A (spliced ((false, eval e env) :: backTo pos (starEach es env))) _ _ s
  exact Calls.spliced_cons (h.go R F I fun u s₁ B₁ ρ₁ v σ₁ a r q => q.go R (a.fr F) a.inv fun us s₂ B₂ ρ₂ vs σ₂ a₂ rs q₂ => a.then0 (a₂.here ⟨v :: vs, σ₂, a₂.inv, ⟨u, us, rfl, a₂.rel r, rs⟩, q₂⟩))
noncomputable def pvs : List AV → Option (List PV)
  | [] => some []
  | .pv p :: r => (pvs r).map (p :: ·)
  | .loc _ :: _ => none
theorem lc {e : Expr} {es : List Expr} {Q : List AV → List MO → Prop} (h : EOk prog w GH sc k e V σ fun a σ₁ => LOk prog w GH sc k es V σ₁ fun vs σ₂ => Q (a :: vs) σ₂) (he : ∀ env, starEach (e :: es) env = (false, eval e env) :: starEach es env := by intro _; rfl) : LOk prog w GH sc k (e :: es) V σ Q := l_cons h he
theorem ev {x : Str} {p : Pos} {v : AV} {Q : AV → List MO → Prop} (h : Q v σ) (hv : V.lookup x = some v := by rfl) (hk : isVar sc x = true := by kernel_rfl!) (hd : (x == ("__debug__" : Str)) = false := by decide) : EOk prog w GH sc k (.Name x p) V σ Q := e_var hv h hk hd
theorem RelAL.pure : ∀ {vs : List AV} {ps : List PV} {us : List Value}, RelAL prog w B ρ vs us → pvs vs = some ps → RelL prog w B ps us
  | [], ps, us, h, e => by cases e; exact h
  | .pv p :: r, ps, us, ⟨u, us', e1, h1, h2⟩, e => by
    obtain ⟨qs, hq, rfl⟩ := Option.map_eq_some_iff.mp e
    exact ⟨u, us', e1, h1, h2.pure hq⟩
  | .loc _ :: _, _, _, _, e => by cases e
theorem RelAL.length : ∀ {vs : List AV} {us : List Value}, RelAL prog w B ρ vs us → us.length = vs.length
  | [], us, h => by rw [show us = [] from h]; rfl
  | _ :: r, us, ⟨u, us', e1, _, h2⟩ => by rw [e1, List.length_cons, List.length_cons, h2.length]
theorem RelL.length : ∀ {vs : List PV} {us : List Value}, RelL prog w B vs us → us.length = vs.length
  | [], us, h => by rw [show us = [] from h]; rfl
  | _ :: r, us, ⟨u, us', e1, _, h2⟩ => by rw [e1, List.length_cons, List.length_cons, h2.length]
theorem push_keeps (h : Heap) (o : Obj) : ∀ b o', h.get? b = some o' → (h.push o).get? b = some o' := fun _ _ e => Heap.get?_push_of_some o e
theorem e_tup {es : List Expr} {n : Nat} {p : Pos} {Q : AV → List MO → Prop} (h : LOk prog w GH sc k es V σ fun vs σ₁ => ∃ ps, pvs vs = some ps ∧ ps.length ≤ 1000 ∧ Q (.pv (.tup ps)) σ₁) : EOk prog w GH sc k (.Tuple es n p) V σ Q := fun A env s B ρ R F I =>
  wpAny_Tuple_spliced (h.go R F I fun us s₁ B₁ ρ₁ vs σ₁ a rs ⟨ps, hp, hl, q⟩ => by
    have r := rs.pure hp
    obtain ⟨I', S'⟩ := a.inv.froze (size_none s₁.heap) (push_keeps _ _) (Heap.get?_push_size s₁.heap (o := { cls := .type "tuple", data := .seq us.toArray }) rfl)
    refine ⟨by rw [r.length, sizeLine_eq]; omega, a.then0 ⟨_, _, ⟨_, _, rfl⟩, S' [], .pv (.tup ps), σ₁, I', ⟨_, _, _, rfl, FB.put_self _ _ _, ?_⟩, q⟩⟩
    exact r.mono prog w (FB.le_put (a.inv.none_base (size_none _))))
theorem e_list {es : List Expr} {p : Pos} {Q : AV → List MO → Prop} (h : LOk prog w GH sc k es V σ fun vs σ₁ => ∃ ps, pvs vs = some ps ∧ ps.length ≤ 1000 ∧ Q (.pv (.lst ps)) σ₁) : EOk prog w GH sc k (.List es p) V σ Q := fun A env s B ρ R F I =>
  wpAny_List_spliced (h.go R F I fun us s₁ B₁ ρ₁ vs σ₁ a rs ⟨ps, hp, hl, q⟩ => by
    have r := rs.pure hp
    obtain ⟨I', S'⟩ := a.inv.froze (size_none s₁.heap) (push_keeps _ _) (Heap.get?_push_size s₁.heap (o := { cls := .type "list", data := .seq us.toArray }) rfl)
    refine ⟨by rw [r.length, sizeLine_eq]; omega, a.then0 ⟨_, _, ⟨_, _, rfl⟩, S' [], .pv (.lst ps), σ₁, I', ⟨_, _, _, rfl, FB.put_self _ _ _, ?_⟩, q⟩⟩
    exact r.mono prog w (FB.le_put (a.inv.none_base (size_none _))))
theorem e_listM {es : List Expr} {p : Pos} {Q : AV → List MO → Prop} (G : GOK GH mg mb) (h : LOk prog w GH sc k es V σ fun vs σ₁ => ∃ ps, pvs vs = some ps ∧ ps.length ≤ 1000 ∧ Q (.loc σ₁.length) (σ₁ ++ [.lst ps])) : EOk prog w GH sc k (.List es p) V σ Q := fun A env s B ρ R F I =>
  wpAny_List_spliced (h.go R F I fun us s₁ B₁ ρ₁ vs σ₁ a rs ⟨ps, hp, hl, q⟩ => by
    have r := rs.pure hp
    obtain ⟨I', S'⟩ := a.inv.owned (m := .lst ps) (size_none s₁.heap) (a.inv.big G) (push_keeps _ _) (Heap.get?_push_size s₁.heap (o := { cls := .type "list", data := .seq us.toArray }) rfl) ⟨us.toArray, 0, rfl, by simpa using r⟩
    exact ⟨by rw [r.length, sizeLine_eq]; omega, a.then0 ⟨_, _, ⟨_, _, rfl⟩, S' [], .loc σ₁.length, _, I', ⟨s₁.heap.objs.size, by rw [← a.inv.len]; simp, rfl⟩, q⟩⟩)
theorem e_listA {es : List Expr} {p : Pos} {Q : AV → List MO → Prop} (G : GOK GH mg mb) (h : LOk prog w GH sc k es V σ fun vs σ₁ => vs.length ≤ 1000 ∧ Q (.loc σ₁.length) (σ₁ ++ [.alst vs])) : EOk prog w GH sc k (.List es p) V σ Q := fun A env s B ρ R F I =>
  wpAny_List_spliced (h.go R F I fun us s₁ B₁ ρ₁ vs σ₁ a rs ⟨hl, q⟩ => by
    obtain ⟨I', S'⟩ := a.inv.owned (m := .alst vs) (size_none s₁.heap) (a.inv.big G) (push_keeps _ _) (Heap.get?_push_size s₁.heap (o := { cls := .type "list", data := .seq us.toArray }) rfl) ⟨us.toArray, 0, rfl, by simpa using rs.mono prog w (FB.le.refl _)⟩
    exact ⟨by rw [rs.length, sizeLine_eq]; omega, a.then0 ⟨_, _, ⟨_, _, rfl⟩, S' [], .loc σ₁.length, _, I', ⟨s₁.heap.objs.size, by rw [← a.inv.len]; simp, rfl⟩, q⟩⟩)
end
section
variable {prog : Program} {w : World} {GH : Heap} {mg mb : Str → Option Value} {A : Around} {env : Env} {s : Shared} {B : FB} {ρ : List Addr} {σ : List MO} {sc : Scope} {k : Nat} {V : VEnv} {e : Expr}
theorem Inv.frame {h h' : Heap} {a : Addr} {o : Obj} (I : Inv prog w GH h B ρ σ) (hr : a ∉ ρ) (hb : B a = none) (hs : Heap.SameBut a h h') (ha : h'.get? a = some o) (wr : List Addr) (hw : a ∈ wr) :
    Inv prog w GH h' B ρ σ ∧ Step wr h B ρ h' B ρ := by
  have keep : ∀ b o, h.get? b = some o → b ≠ a → h'.get? b = some o := fun b o e q => hs.extBut b o q e
  refine ⟨⟨I.top, fun b o e => keep _ _ (I.base _ _ e) (fun q => by rw [q, hb] at e; cases e), I.nodup, I.high, I.len, fun i b m e1 e2 => ?_⟩,
    ⟨FB.le.refl B, fun _ _ e => .inl e, ⟨[], by simp, fun _ q => nomatch q⟩, fun b o e q _ => keep _ _ e (fun z => q (z ▸ hw)), fun b o' e => ?_⟩⟩
  · obtain ⟨z, Z1⟩ := I.store i b m e1 e2; refine x1a2 Z1 fun o' ho' r => ?_; clear Z1
    exact ⟨z, o', keep _ _ ho' (fun q => hr (q ▸ List.mem_of_getElem? e1)), r⟩
  · by_cases q : b = a
    · subst q; exact ⟨o, ha⟩
    · exact ⟨o', keep _ _ e q⟩
theorem cell_ne {h : Heap} {sc : Scope} (F : FrOk prog w GH sc env h B ρ V) {x y : Str} {c c' : Addr} (hx : env.cells.lookup x = some c) (hy : env.cells.lookup y = some c') (ne : x ≠ y) : c ≠ c' := fun e => by
  subst e
  exact ne (name_of_addr F.apart (mem_of_lookup hx) (mem_of_lookup hy))
theorem lookup_cons_ne {x y : Str} {v : AV} {V : VEnv} (h : y ≠ x) : List.lookup y ((x, v) :: V) = V.lookup y := by
  rw [List.lookup_cons, beq_eq_false_iff_ne.mpr h]
theorem lookup_cons_eq {x : Str} {v : AV} {V : VEnv} : List.lookup x ((x, v) :: V) = some v := by
  rw [List.lookup_cons, beq_self_eq_true]
theorem st_ok {x : Str} {v : AV} {u : Value} (F : FrOk prog w GH sc env s.heap B ρ V) (I : Inv prog w GH s.heap B ρ σ) (r : RelA prog w B ρ v u) (hk : isVar sc x = true) :
    wpAny (model prog w) A (storeName env x u) (fun _ => After (wrOf env) s B ρ fun s' B' ρ' => Inv prog w GH s'.heap B' ρ' σ ∧ FrOk prog w GH sc env s'.heap B' ρ' ((x, v) :: V)) (fun _ _ => False) s := by
  have hkind : env.scope.kind = .function := by rw [F.scope]; exact F.kind
  rcases isVar_iff hk with hk | hk
  · refine x1a2 F.loc fun m hn hm => ?_
    refine wpAny_storeName_local ((F.kindOf x).trans hk) hn (fun h' hn' hs => ?_) (by rw [hkind]; rfl)
    refine x3a2 (id hn') fun oL _ _ hL _ => ?_
    obtain ⟨I', S'⟩ := I.frame F.own.1 F.own.2.1 hs hL (wrOf env) (List.mem_cons_self ..)
    refine ⟨B, ρ, ⟨_, _, rfl⟩, S', I', ⟨F.scope, F.kind, F.globals, F.builtins, ⟨_, hn', fun y v' hv hy => ?_⟩, fun y v' hv hy => ?_, fun y c hc => ?_, F.apart, F.allc, F.own⟩⟩
    · by_cases q : y = x
      · subst q
        rw [lookup_cons_eq] at hv; cases hv
        exact ⟨u, by simp, r⟩
      · rw [lookup_cons_ne q] at hv
        refine x1a2 (hm y v' hv hy) fun u' hu' r' => ?_
        exact ⟨u', by simp [q, hu'], r'⟩
    · have q : y ≠ x := fun q => by rw [q, hk] at hy; cases hy
      rw [lookup_cons_ne q] at hv
      refine x2a3 (F.cel y v' hv hy) fun c u' hc hcell r' => ?_
      exact ⟨c, u', hc, hcell.sameBut hs (F.cells y c hc).2.2.2.2, r'⟩
    · obtain ⟨Z1, Z2⟩ := F.cells y c hc; obtain ⟨u', hu'⟩ := Z1; refine x0a4 Z2 fun a1 a2 a3 a4 => ?_; clear Z2
      exact ⟨⟨u', hu'.sameBut hs a4⟩, a1, a2, a3, a4⟩
  · obtain ⟨c, hc⟩ := F.allc x hk
    obtain ⟨Z3, Z4⟩ := F.cells x c hc; obtain ⟨u₀, hu₀⟩ := Z3; refine x0a4 Z4 fun a1 a2 a3 a4 => ?_; clear Z4
    refine wpAny_storeName_cell hkind ((F.kindOf x).trans hk) hc hu₀ fun h' hc' hs => ?_
    refine x1a2 (id hc') fun oc hoc hdc => ?_
    obtain ⟨I', S'⟩ := I.frame a1 a2 hs hoc (wrOf env) (wrOf_cell hc)
    refine x1a2 F.loc fun m hn hm => ?_
    refine ⟨B, ρ, ⟨_, _, rfl⟩, S', I', ⟨F.scope, F.kind, F.globals, F.builtins, ⟨m, hn.sameBut hs (Ne.symm a4), fun y v' hv hy => ?_⟩, fun y v' hv hy => ?_, fun y d hd => ?_, F.apart, F.allc, F.own⟩⟩
    · have q : y ≠ x := fun q => by rw [q, hk] at hy; cases hy
      rw [lookup_cons_ne q] at hv
      exact hm y v' hv hy
    · by_cases q : y = x
      · subst q
        rw [lookup_cons_eq] at hv; cases hv
        exact ⟨c, u, hc, hc', r⟩
      · rw [lookup_cons_ne q] at hv
        refine x2a3 (F.cel y v' hv hy) fun d u' hd hcell r' => ?_
        exact ⟨d, u', hd, hcell.sameBut hs (cell_ne F hd hc q), r'⟩
    · obtain ⟨Z5, Z6⟩ := F.cells y d hd; obtain ⟨u', hu'⟩ := Z5; refine x0a4 Z6 fun b1 b2 b3 b4 => ?_; clear Z6
      refine ⟨?_, b1, b2, b3, b4⟩
      by_cases q : d = c
      · subst q; exact ⟨_, hc'⟩
      · exact ⟨u', hu'.sameBut hs q⟩
theorem s_nil {Q : Fl → VEnv → List MO → Prop} (h : Q .next V σ) : SOk prog w GH sc k [] V σ Q := fun _ _ _ _ _ _ F I => wpAny_execs_nil (by exact After.here ⟨.next, V, σ, I, F, rfl, h⟩)
noncomputable def Then (prog : Program) (w : World) (GH : Heap) (sc : Scope) (k : Nat) (rest : List Stmt) (Q : Fl → VEnv → List MO → Prop) : Fl → VEnv → List MO → Prop
  | .next, V, σ => SOk prog w GH sc k rest V σ Q
  | .ret v, V, σ => Q (.ret v) V σ
theorem s_cons {st : Stmt} {rest : List Stmt} {Q : Fl → VEnv → List MO → Prop} (h : XOk prog w GH sc k st V σ (Then prog w GH sc k rest Q)) : SOk prog w GH sc k (st :: rest) V σ Q := fun A env s B ρ R F I =>
  wpAny_execs_cons (wpAny_mono (h A env s B ρ R F I) (fun f s₁ x => by
    refine x2a3 x fun B₁ ρ₁ sm S Z1 => ?_; clear x; refine x3a4 Z1 fun fl V₁ σ₁ I₁ F₁ r q => ?_; clear Z1
    cases fl with
    | next =>
      cases (show f = .next from r)
      exact wpAny_mono (q A env s₁ B₁ ρ₁ R F₁ I₁) (fun _ _ y => After.trans sm S (fun _ z => .inl z) y) fun _ _ y => y
    | ret v =>
      refine x1a2 r fun u Z2 => ?_; clear r; intro r; obtain rfl := Z2
      exact ⟨B₁, ρ₁, sm, S, .ret v, V₁, σ₁, I₁, F₁, ⟨u, rfl, r⟩, q⟩) fun _ _ x => x)
theorem s_one {st : Stmt} {Q : Fl → VEnv → List MO → Prop} (h : XOk prog w GH sc k st V σ Q) : SOk prog w GH sc k [st] V σ Q := s_cons fun A env s B ρ R F I =>
  wpAny_mono (h A env s B ρ R F I) (fun f s₁ x => x.mono fun s' B' ρ' y => x3a4 y fun fl V' σ' a b c q => ⟨fl, V', σ', a, b, c, by cases fl <;> first | exact s_nil q | exact q⟩) fun _ _ x => x
theorem noninter (F : FrOk prog w GH sc env s.heap B ρ V) : interactive env = false := by
  unfold interactive
  rw [F.scope, F.kind]; rfl
theorem x_expr {p : Pos} {Q : Fl → VEnv → List MO → Prop} (h : EOk prog w GH sc k e V σ fun _ σ₁ => Q .next V σ₁) (hs : ∀ env, swapsWith e none p.line env = pure false) : XOk prog w GH sc k (.Expr e p) V σ Q := fun A env s B ρ R F I =>
  wpAny_Expr_any (h.go R F I fun u s₁ B₁ ρ₁ v σ₁ a r q => (a.then0 (wr := []) (After.here ⟨Fl.next, V, σ₁, a.inv, a.fr F, rfl, q⟩)).weaken fun _ z => nomatch z) (noninter F) (hs env)
theorem x_asg {x : Str} {p' p : Pos} {Q : Fl → VEnv → List MO → Prop} (h : EOk prog w GH sc k e V σ fun v σ₁ => Q .next ((x, v) :: V) σ₁) (hs : ∀ env, swapsWith e (some (.Name x p')) p.line env = pure false)
    (hk : isVar sc x = true) : XOk prog w GH sc k (.Assign [.Name x p'] e p) V σ Q := fun A env s B ρ R F I =>
  wpAny_Assign_Name (h.go R F I fun u s₁ B₁ ρ₁ v σ₁ a r q => wpAny_mono (st_ok (a.fr F) a.inv r hk) (fun _ s₂ x => a.thenW (x.mono fun s' B' ρ' y => ⟨Fl.next, _, σ₁, y.1, y.2, rfl, q⟩)) fun _ _ x => x) (hs env)
theorem xa {x : Str} {p' p : Pos} {Q : Fl → VEnv → List MO → Prop} (h : EOk prog w GH sc k e V σ fun v σ₁ => Q .next ((x, v) :: V) σ₁) (hs : ∀ env, swapsWith e (some (.Name x p')) p.line env = pure false := by intro _; rfl)
    (hk : isVar sc x = true := by kernel_rfl!) : XOk prog w GH sc k (.Assign [.Name x p'] e p) V σ Q := x_asg h hs hk
theorem x_if {t : Expr} {b o : List Stmt} {p : Pos} {Q : Fl → VEnv → List MO → Prop} (h : TOk prog w GH sc k t V σ fun c σ₁ => (c = true → SOk prog w GH sc k b V σ₁ Q) ∧ (c = false → SOk prog w GH sc k o V σ₁ Q)) : XOk prog w GH sc k (.If t b o p) V σ Q := fun A env s B ρ R F I =>
  wpAny_If (h.go R F I fun c s₁ B₁ ρ₁ σ₁ a q => by
    cases c with
    | true => exact wpAny_mono (q.1 rfl A env s₁ B₁ ρ₁ R (a.fr F) a.inv) (fun _ _ x => a.thenW x) fun _ _ x => x
    | false => exact wpAny_mono (q.2 rfl A env s₁ B₁ ρ₁ R (a.fr F) a.inv) (fun _ _ x => a.thenW x) fun _ _ x => x)
theorem x_ret {p : Pos} {Q : Fl → VEnv → List MO → Prop} (h : EOk prog w GH sc k e V σ fun v σ₁ => Q (.ret v) V σ₁) : XOk prog w GH sc k (.Return (some e) p) V σ Q := fun A env s B ρ R F I =>
  wpAny_Return_some (h.go R F I fun u s₁ B₁ ρ₁ v σ₁ a r q => (a.then0 (wr := []) (After.here ⟨Fl.ret v, V, σ₁, a.inv, a.fr F, ⟨u, rfl, r⟩, q⟩)).weaken fun _ z => nomatch z)
noncomputable def Cov (V V' : VEnv) : Prop := ∀ x v, V'.lookup x = some v → V.lookup x = some v
theorem FrOk.cov {h : Heap} {V' : VEnv} (F : FrOk prog w GH sc env h B ρ V) (c : Cov V V') : FrOk prog w GH sc env h B ρ V' :=
  ⟨F.scope, F.kind, F.globals, F.builtins, let ⟨m, hn, hm⟩ := F.loc; ⟨m, hn, fun x v hv => hm x v (c x v hv)⟩, fun x v hv => F.cel x v (c x v hv), F.cells, F.apart, F.allc, F.own⟩
theorem Cov.nil {V : VEnv} : Cov V [] := fun _ _ e => by cases e
theorem Cov.cons {V V' : VEnv} {x : Str} {v : AV} (h : V.lookup x = some v) (c : Cov V V') : Cov V ((x, v) :: V') := fun y u e => by
  by_cases q : y = x
  · subst q; rw [lookup_cons_eq] at e; cases e; exact h
  · rw [lookup_cons_ne q] at e; exact c y u e
theorem SOk.cov {ss : List Stmt} {V' : VEnv} {Q : Fl → VEnv → List MO → Prop} (h : SOk prog w GH sc k ss V' σ Q) (c : Cov V V') : SOk prog w GH sc k ss V σ Q := fun A env s B ρ R F I => h A env s B ρ R (F.cov c) I
theorem EOk.mono {Q Q' : AV → List MO → Prop} (h : EOk prog w GH sc k e V σ Q) (f : ∀ v σ, Q v σ → Q' v σ) : EOk prog w GH sc k e V σ Q' := fun A env s B ρ R F I =>
  wpAny_mono (h A env s B ρ R F I) (fun _ _ x => x.mono fun _ _ _ ⟨v, σ', a, b, q⟩ => ⟨v, σ', a, b, f _ _ q⟩) fun _ _ x => x
theorem SOk.mono {ss : List Stmt} {Q Q' : Fl → VEnv → List MO → Prop} (h : SOk prog w GH sc k ss V σ Q) (f : ∀ fl V σ, Q fl V σ → Q' fl V σ) : SOk prog w GH sc k ss V σ Q' := fun A env s B ρ R F I =>
  wpAny_mono (h A env s B ρ R F I) (fun _ _ x => x.mono fun _ _ _ ⟨fl, V', σ', a, b, c, q⟩ => ⟨fl, V', σ', a, b, c, f _ _ _ q⟩) fun _ _ x => x
end
structure FnAt (GH : Heap) (f : Addr) (name : Str) (params : Arguments) (body : List Stmt) (scope : Scope) (dV : Value) : Prop where
  is : ∃ o qual kV doc pm an cdv ct, GH.get? f = some o ∧ o.data = .func (fnOf name qual params body scope dV kV doc pm an cdv ct) ∧ GH.CodeRec cdv qual
theorem bindL_zip {kindOf : Str → Option NameKind} : ∀ (xs : List Str) (us : List Value) (m : Str → Option Value), xs.Nodup → ∀ x, kindOf x = some .local → bindL kindOf (xs.zip us) m x = ((xs.zip us).lookup x).or (m x)
  | [], us, m, _, x, _ => by cases us <;> simp [bindL]
  | y :: xs, [], m, _, x, _ => by simp [bindL]
  | y :: xs, u :: us, m, nd, x, hx => by
    obtain ⟨hy, nd⟩ := List.nodup_cons.mp nd
    rw [List.zip_cons_cons, bindL, bindL_zip xs us _ nd x hx, List.lookup_cons]
    by_cases q : x = y
    · subst q
      rw [if_pos hx]
      have : (xs.zip us).lookup x = none := by
        cases e : (xs.zip us).lookup x with
        | none => rfl
        | some v => exact absurd (List.of_mem_zip (mem_of_lookup e)).1 hy
      simp [this]
    · rw [beq_eq_false_iff_ne.mpr q]
      split
      · simp [q]
      · rfl
theorem bindC_zip {kindOf : Str → Option NameKind} : ∀ (xs : List Str) (us : List Value) (m : Str → Option Value), xs.Nodup → ∀ x, kindOf x ≠ some .local → bindC kindOf (xs.zip us) m x = ((xs.zip us).lookup x).or (m x)
  | [], us, m, _, x, _ => by cases us <;> simp [bindC]
  | y :: xs, [], m, _, x, _ => by simp [bindC]
  | y :: xs, u :: us, m, nd, x, hx => by
    obtain ⟨hy, nd⟩ := List.nodup_cons.mp nd
    rw [List.zip_cons_cons, bindC, bindC_zip xs us _ nd x hx, List.lookup_cons]
    by_cases q : x = y
    · subst q
      rw [if_neg hx]
      have : (xs.zip us).lookup x = none := by
        cases e : (xs.zip us).lookup x with
        | none => rfl
        | some v => exact absurd (List.of_mem_zip (mem_of_lookup e)).1 hy
      simp [this]
    · rw [beq_eq_false_iff_ne.mpr q]
      split
      · rfl
      · simp [q]
section
variable {prog : Program} {w : World} {GH : Heap} {mg mb : Str → Option Value} {A : Around} {env : Env} {s : Shared} {B : FB} {ρ : List Addr} {σ : List MO} {sc : Scope} {k : Nat} {V : VEnv} {e : Expr}
theorem zip_rel {xs : List Str} : ∀ {as : List AV} {us : List Value}, RelAL prog w B ρ as us → xs.length = as.length → ∀ x v, (xs.zip as).lookup x = some v → ∃ u, (xs.zip us).lookup x = some u ∧ RelA prog w B ρ v u := by
  induction xs with
  | nil => exact fun _ _ _ _ h => nomatch h
  | cons y xs ih =>
    intro as us ra hl x v h
    cases as with
    | nil => cases hl
    | cons a as =>
      refine x2a3 ra fun u us' e r rs => ?_
      subst e
      rw [List.zip_cons_cons, List.lookup_cons] at h ⊢
      cases q : x == y with
      | true => rw [q] at h; cases h; exact ⟨u, rfl, r⟩
      | false => rw [q] at h; exact ih rs (Nat.succ.inj hl) x v h
noncomputable def RetQ (Q : AV → List MO → Prop) : Fl → VEnv → List MO → Prop
  | .next, _, σ => Q (.pv .none) σ
  | .ret v, _, σ => Q v σ
theorem none_of_ge {h : Heap} {a : Addr} (ha : h.objs.size ≤ a) : h.get? a = none := by
  cases e : h.get? a with
  | none => rfl
  | some o => exact absurd (Heap.lt_size e) (Nat.not_lt.mpr ha)
theorem c_fn {f : Addr} {name : Str} {params : Arguments} {body : List Stmt} {scope : Scope} {dV : Value} {xs : List Str} {as : List AV} {Q : AV → List MO → Prop} (G : GOK GH mg mb) (hf : FnAt GH f name params body scope dV)
    (hn : xs.length = as.length) (hb : ∀ qual kV doc pm an cdv ct (us : List Value), us.length = xs.length → bindArgs (fnOf name qual params body scope dV kV doc pm an cdv ct) ⟨us, []⟩ = pure (xs.zip us)) (nd : xs.Nodup) (hv : xs.all (isVar scope) = true)
    (hbody : SOk prog w GH scope k body (xs.zip as) σ (RetQ Q))
    (hco : scope.isCoroutine = false) (hgen : scope.isGenerator = false) (hk : scope.kind = .function) : COk prog w GH (k + 1) (.ref f) as σ Q := by
  intro A s B ρ us R I ra
  refine x8a3 hf.is fun o qual kV doc pm an cdv ct ho hd hcr => ?_
  have hus : us.length = xs.length := by rw [ra.length, hn]
  have kG := I.keepG
  have hR : ∀ env, Room k (A.deeper env) := fun env => ⟨R.handled, by have := R.depth; show A.depth + 1 + 2 * k < _; omega, by have := R.units; show A.units + 3 + 20 * k < _; omega⟩
  have kinds : ∀ y ∈ xs, scope.names.lookup y = some .local ∨ scope.names.lookup y = some .cell := fun y hy => isVar_iff (List.all_eq_true.mp hv y hy)
  refine wpAny_call (codeAny_call_cells (o := o) (fd := fnOf name qual params body scope dV kV doc pm an cdv ct) (binds := xs.zip us) (by have := R.depth; omega) (kG _ _ ho) hd (G.nolimit.keeps kG) (hcr.keeps kG) rfl (hb qual kV doc pm an cdv ct us hus) rfl
    (fun y hy => ?_) (fun s₁ x => ?_) hco hgen hk)
  · rcases kinds y.1 (List.of_mem_zip hy).1 with q | q
    · exact .inl q
    · exact .inr ⟨q, cellsFrom_some _ _ _ (.inl q)⟩
  · generalize hE : callEnvC (fnOf name qual params body scope dV kV doc pm an cdv ct) s.heap.objs.size f = env at x ⊢
    have eS : env.scope = scope := by subst hE; rfl
    have eG : env.globals = mainGlobals := by subst hE; rfl
    have eB : env.builtins = builtinsNs := by subst hE; rfl
    have eL : env.locals = s.heap.objs.size := by subst hE; rfl
    have eC : env.cells = cellsFrom (s.heap.objs.size + 1) scope.names [] := by subst hE; rfl
    refine x2a1 x.toInCall.same fun h₁ tk₁ Z1 => ?_; obtain rfl := Z1
    have keep := x.toInCall.keep
    obtain ⟨I₁, S₁⟩ := I.grown (h' := h₁) keep
    have kind_eq : ∀ y, env.kindOf y = scope.names.lookup y := fun y => by unfold Env.kindOf; rw [eS]
    have cnone : ∀ y c, (y, c) ∈ env.cells → s.heap.get? c = none := fun y c hc => none_of_ge (Nat.le_of_lt (eL ▸ x.above y c hc))
    have F : FrOk prog w GH scope env h₁ B ρ (xs.zip as) := by
      refine ⟨eS, hk, eG, eB, ⟨_, x.toInCall.ns, fun y v h hy => ?_⟩, fun y v h hy => ?_, fun y c hc => ?_, x.apart, fun y hy => ?_, ?_⟩
      · refine x1a2 (zip_rel ra hn y v h) fun u hu r => ?_
        exact ⟨u, by rw [bindL_zip xs us _ nd y ((kind_eq y).trans hy), hu]; rfl, r⟩
      · refine x1a2 (zip_rel ra hn y v h) fun u hu r => ?_
        obtain ⟨c, hc⟩ := Option.isSome_iff_exists.mp (cellsFrom_some (x := y) scope.names (s.heap.objs.size + 1) [] (.inl hy))
        rw [← eC] at hc
        refine ⟨c, u, hc, ?_, r⟩
        have := x.cell y c hc
        rwa [bindC_zip xs us _ nd y (by rw [kind_eq, hy]; decide), hu] at this
      · have hcn := cnone y c (mem_of_lookup hc)
        exact ⟨⟨_, x.cell y c hc⟩, I.none_notin hcn, I.none_base hcn, Nat.le_trans (I.big G) (Nat.le_of_lt (eL ▸ x.above y c (mem_of_lookup hc))), Nat.ne_of_gt (x.above y c (mem_of_lookup hc))⟩
      · obtain ⟨c, hc⟩ := Option.isSome_iff_exists.mp (cellsFrom_some (x := y) scope.names (s.heap.objs.size + 1) [] (.inl hy))
        exact ⟨c, by rw [eC]; exact hc⟩
      · rw [eL]
        exact ⟨I.none_notin (size_none _), I.none_base (size_none _), I.big G⟩
    refine wpAny_mono (hbody (A.deeper env) env { s with heap := h₁, toks := tk₁ } B ρ (hR env) F I₁) (fun fl s₂ y => ?_) fun _ _ y => y.elim
    have y' : After [] s B ρ (fun s' B' ρ' => ∃ fl' V' σ', Inv prog w GH s'.heap B' ρ' σ' ∧ FrOk prog w GH scope env s'.heap B' ρ' V' ∧ FlRel prog w B' ρ' fl' fl ∧ RetQ Q fl' V' σ') s₂ :=
      After.trans ⟨h₁, tk₁, rfl⟩ (S₁ []) (fun b hb => .inr (by
        rcases wrOf_cases hb with q | ⟨x, q⟩
        · rw [q, eL]; exact size_none _
        · exact cnone x b (mem_of_lookup q))) y
    refine x2a3 y' fun B' ρ' sm S Z2 => ?_; clear y'; refine x3a4 Z2 fun fl' V' σ' I' F' r q => ?_; clear Z2
    cases fl' with
    | next => cases (show fl = .next from r); exact ⟨B', ρ', sm, S, .pv .none, σ', I', rfl, q⟩
    | ret v => refine x1a2 r fun u Z3 => ?_; clear r; intro r; obtain rfl := Z3; exact ⟨B', ρ', sm, S, v, σ', I', r, q⟩
theorem nl0 {P : List Value → Prop} (h : P []) (us : List Value) (z : us.length = 0) : P us := List.length_eq_zero_iff.mp z ▸ h
theorem nlS {n : Nat} {P : List Value → Prop} (h : ∀ u us, us.length = n → P (u :: us)) (us : List Value) (z : us.length = n + 1) : P us := by
  cases us with
  | nil => cases z
  | cons u r => exact h u r (Nat.succ.inj z)
theorem nl1 {P : List Value → Prop} (h : ∀ a, P [a]) : ∀ us : List Value, us.length = 1 → P us := nlS fun a us z => nl0 (P := fun l => P (a :: l)) (h a) us z
theorem nl2 {P : List Value → Prop} (h : ∀ a b, P [a, b]) : ∀ us : List Value, us.length = 2 → P us := nlS fun a us z => nl1 (P := fun l => P (a :: l)) (h a) us z
theorem nl3 {P : List Value → Prop} (h : ∀ a b c, P [a, b, c]) : ∀ us : List Value, us.length = 3 → P us := nlS fun a us z => nl2 (P := fun l => P (a :: l)) (h a) us z
theorem nl4 {P : List Value → Prop} (h : ∀ a b c d, P [a, b, c, d]) : ∀ us : List Value, us.length = 4 → P us := nlS fun a us z => nl3 (P := fun l => P (a :: l)) (h a) us z
theorem nl7 {P : List Value → Prop} (h : ∀ a b c d e f g, P [a, b, c, d, e, f, g]) : ∀ us : List Value, us.length = 7 → P us := nlS fun a us z => nlS (P := fun l => P (a :: l)) (fun b us z => nlS (P := fun l => P (a :: b :: l)) (fun c us z => nl4 (P := fun l => P (a :: b :: c :: l)) (h a b c) us z) us z) us z
section
variable {a b c d e f g : Type} {P : a → b → c → d → e → f → g → List Value → Prop}
theorem hb1 (h : ∀ a b c d e f g u, P a b c d e f g [u]) : ∀ a b c d e f g us, us.length = 1 → P a b c d e f g us := fun a b c d e f g us z => by
  obtain ⟨u, rfl⟩ := List.length_eq_one_iff.mp z
  exact h ..
theorem lenS {n : Nat} {us : List Value} (z : us.length = n + 1) : ∃ u r, us = u :: r ∧ r.length = n := by
  cases us with
  | nil => cases z
  | cons u r => exact ⟨u, r, rfl, Nat.succ.inj z⟩
theorem hb2 (h : ∀ a b c d e f g u v, P a b c d e f g [u, v]) : ∀ a b c d e f g us, us.length = 2 → P a b c d e f g us := fun a b c d e f g us z => by
  obtain ⟨u, r, rfl, y'⟩ := lenS z
  exact hb1 (P := fun a b c d e f g l => P a b c d e f g (u :: l)) (fun _ _ _ _ _ _ _ _ => h ..) _ _ _ _ _ _ _ _ y'
theorem hb3 (h : ∀ a b c d e f g u v x, P a b c d e f g [u, v, x]) : ∀ a b c d e f g us, us.length = 3 → P a b c d e f g us := fun a b c d e f g us z => by
  obtain ⟨u, r, rfl, y'⟩ := lenS z
  exact hb2 (P := fun a b c d e f g l => P a b c d e f g (u :: l)) (fun _ _ _ _ _ _ _ _ _ => h ..) _ _ _ _ _ _ _ _ y'
theorem hb4 (h : ∀ a b c d e f g u v x y, P a b c d e f g [u, v, x, y]) : ∀ a b c d e f g us, us.length = 4 → P a b c d e f g us := fun a b c d e f g us z => by
  obtain ⟨u, r, rfl, y'⟩ := lenS z
  exact hb3 (P := fun a b c d e f g l => P a b c d e f g (u :: l)) (fun _ _ _ _ _ _ _ _ _ _ => h ..) _ _ _ _ _ _ _ _ y'
end
theorem cf {f : Addr} {name : Str} {params : Arguments} {body : List Stmt} {scope : Scope} {dV : Value} {xs : List Str} {as : List AV} {Q : AV → List MO → Prop} (G : GOK GH mg mb) (hf : FnAt GH f name params body scope dV)
    (hb : ∀ qual kV doc pm an cdv ct (us : List Value), us.length = xs.length → bindArgs (fnOf name qual params body scope dV kV doc pm an cdv ct) ⟨us, []⟩ = pure (xs.zip us)) (hbody : SOk prog w GH scope k body (xs.zip as) σ (RetQ Q))
    (hn : xs.length = as.length := by rfl) (nd : xs.Nodup := by decide +kernel) (hv : xs.all (isVar scope) = true := by kernel_rfl!) (hco : scope.isCoroutine = false := by kernel_rfl!) (hgen : scope.isGenerator = false := by kernel_rfl!) (hk : scope.kind = .function := by kernel_rfl!) : COk prog w GH (k + 1) (.ref f) as σ Q := c_fn G hf hn hb nd hv hbody hco hgen hk
end
section
variable {prog : Program} {w : World} {GH : Heap} {mg mb : Str → Option Value} {A : Around} {env : Env} {s : Shared} {B : FB} {ρ : List Addr} {σ : List MO} {sc : Scope} {k : Nat} {V : VEnv} {e : Expr}
theorem starEach_plain {e : Expr} {es : List Expr} {env : Env} (h : ∀ a p, e ≠ .Starred a p) : starEach (e :: es) env = (false, eval e env) :: starEach es env := by
  cases e <;> first | rfl | exact absurd rfl (h _ _)
theorem backTo_any (pos : Pos) : ∀ (es : List Expr) (env : Env), (∀ e ∈ es, ∀ a p, e ≠ .Starred a p) → (backTo pos (starEach es env)).any (·.1) = false
  | [], _, _ => rfl
  | e :: es, env, h => by
    rw [starEach_plain (h e (by simp))]
    show (false || (backTo pos (starEach es env)).any (·.1)) = false
    rw [backTo_any pos es env fun x hx => h x (List.mem_cons_of_mem _ hx)]; rfl
noncomputable def noStar : List Expr → Bool
  | [] => true
  | .Starred .. :: _ => false
  | _ :: r => noStar r
theorem noStar_mem {es : List Expr} (h : noStar es = true) : ∀ e ∈ es, ∀ a p, e ≠ .Starred a p := by
  induction es with
  | nil => exact fun _ hm => nomatch hm
  | cons e es ih =>
    intro x hm a p q
    rcases List.mem_cons.mp hm with e' | hm
    · rw [← e', q] at h; cases h
    · exact ih (by cases e <;> first | exact h | cases h) x hm a p q
theorem evalArgs_spl {f : Value} {pos : Pos} {es : List Expr} {Q : Args → Shared → Prop} {E : Value → Shared → Prop} (hs : noStar es = true)
    (h : wpAny (model prog w) A (spliced (backTo pos (starEach es env))) (fun vs s' => Q ⟨vs, []⟩ s') E s) : wpAny (model prog w) A (evalArgs f true (backTo pos (starEach es env)) []) Q E s := by
  cases es with
  | nil =>
    unfold evalArgs
    show wpAny _ A (spliced [] >>= _) _ _ s
    refine wpAny_bind (wpAny_mono h (fun vs s' h' => ?_) fun _ _ x => x)
    refine wpAny_bind (wpAny_pure ?_)
    refine wpAny_holding ?_
    exact wpAny_bind (wpAny_pure (wpAny_bind (wpAny_pure (wpAny_pure h'))))
  | cons e es =>
    rw [starEach_plain (noStar_mem hs e (by simp))] at h ⊢
    exact Calls.evalArgs_plain h
theorem callWith_mach {pos : Pos} {f : Value} {first : List Value} {es : List Expr} {Q : Value → Shared → Prop} {E : Value → Shared → Prop} (hs : noStar es = true) (hn : keeperOf f = pure .machine)
    (h : wpAny (model prog w) A (spliced (backTo pos (starEach es env))) (fun vs s' => wpAny (model prog w) A (call f (first ++ vs)) Q E s') E s) : wpAny (model prog w) A (callWith pos f first (backTo pos (starEach es env)) []) Q E s :=
  callWith_of (P := fun _ => True) (by rw [backTo_any pos es env (noStar_mem hs)]; rfl) (fun h _ => ⟨.machine, .inr (.inl rfl), Looks.of_pure hn⟩) (evalArgs_spl hs (wpAny_mono h (fun _ _ x => ⟨trivial, x⟩) fun _ _ x => x))
theorem e_callV {id : Str} {np p : Pos} {f : Value} {es : List Expr} {Q : AV → List MO → Prop} (hs : noStar es = true) (hn : keeperOf f = pure .machine)
    (hf : EOk prog w GH sc k (.Name id np) V σ fun v σ₁ => v = .pv (.cst f) ∧ LOk prog w GH sc k es V σ₁ fun vs σ₂ => COk prog w GH k f vs σ₂ Q) : EOk prog w GH sc k (.Call (.Name id np) es [] p) V σ Q := fun A env s B ρ R F I => by
  rw [arm_eval_Call_Name']
  refine wpAny_bind (hf.go R F I fun u s₁ B₁ ρ₁ v σ₁ a r q => ?_)
  obtain ⟨rfl, q⟩ := q
  cases (show u = f from r)
  exact callWith_mach hs hn (q.go R (a.fr F) a.inv fun us s₂ B₂ ρ₂ vs σ₂ a₂ rs q₂ => q₂.go R a₂.inv rs fun u s₃ B₃ ρ₃ v σ₃ a₃ r₃ q₃ => a.then0 (a₂.then0 (a₃.here ⟨v, σ₃, a₃.inv, r₃, q₃⟩)))
theorem e_callF {id : Str} {np p : Pos} {f : Addr} {name : Str} {params : Arguments} {body : List Stmt} {scope : Scope} {dV : Value} {es : List Expr} {Q : AV → List MO → Prop} (hs : noStar es = true) (hat : FnAt GH f name params body scope dV)
    (hf : EOk prog w GH sc k (.Name id np) V σ fun v σ₁ => v = .pv (.cst (.ref f)) ∧ LOk prog w GH sc k es V σ₁ fun vs σ₂ => COk prog w GH k (.ref f) vs σ₂ Q) : EOk prog w GH sc k (.Call (.Name id np) es [] p) V σ Q := fun A env s B ρ R F I => by
  rw [arm_eval_Call_Name']
  refine x8a3 hat.is fun o qual kV doc pm an cdv ct ho hd hcr => ?_
  refine wpAny_bind (hf.go R F I fun u s₁ B₁ ρ₁ v σ₁ a r q => ?_)
  obtain ⟨rfl, q⟩ := q
  cases (show u = .ref f from r)
  exact Calls.callWith_function (evalArgs_spl hs (q.go R (a.fr F) a.inv fun us s₂ B₂ ρ₂ vs σ₂ a₂ rs q₂ => ⟨⟨a₂.inv.keepG _ _ ho, hd⟩, q₂.go R a₂.inv rs fun u s₃ B₃ ρ₃ v σ₃ a₃ r₃ q₃ => a.then0 (a₂.then0 (a₃.here ⟨v, σ₃, a₃.inv, r₃, q₃⟩))⟩))
noncomputable def MethB (prog : Program) (w : World) (GH : Heap) (a : AV) (σ : List MO) (name : Str) (id : String) : Prop :=
  ∀ (s : Shared) B ρ u, Inv prog w GH s.heap B ρ σ → RelA prog w B ρ a u → ∃ T, PlainAttrs T ∧ Slot T name id ∧ typeOf (.builtin id) = pure (.type "method_descriptor") ∧ s.TypeIs u T ∧ (∀ a, u = .ref a → ∃ ob, s.heap.get? a = some ob ∧ ob.dict = none)
theorem e_mbi {o : Expr} {name : Str} {apos p : Pos} {id : String} {es : List Expr} {Q : AV → List MO → Prop} (hs : noStar es = true) (hline : (apos.endLine == p.line) = true) (hl : es.length < 29) (hbase : ∀ env, attributeBase o name env (eval o env) = eval o env)
    (ho : EOk prog w GH sc k o V σ fun ov σ₁ => MethB prog w GH ov σ₁ name id ∧ LOk prog w GH sc k es V σ₁ fun vs σ₂ => COk prog w GH k (.builtin id) (ov :: vs) σ₂ Q) : EOk prog w GH sc k (.Call (.Attribute o name apos) es [] p) V σ Q := fun A env s B ρ R F I => by
  have hfew : ((backTo p (starEach es env)).all (fun x => !x.1) && (backToKw p (keywordEach [] env)).all (fun x => x.1.isSome) && decide (es.length + ([] : List Keyword).length + (if ([] : List Keyword).isEmpty then 0 else 1) < 30)) = true := by
    have h1 := backTo_any p es env (noStar_mem hs)
    have h2 : (backTo p (starEach es env)).all (fun x => !x.1) = true := by
      rw [List.all_eq_true]
      intro x hx
      have := List.any_eq_false.mp h1 x hx
      simpa using this
    rw [h2]
    exact decide_eq_true (Nat.lt_succ_of_lt hl)
  refine wpAny_Call_method_late (hbase env) hfew hline rfl (ho.go R F I fun u s₁ B₁ ρ₁ v σ₁ a r q => ?_)
  refine x1a5 (q.1 s₁ B₁ ρ₁ u a.inv r) fun T pa sl ty hT hd => ?_
  refine ⟨T, id, pa, sl, ty, hT, hd, callWith_mach hs rfl (q.2.go R (a.fr F) a.inv fun us s₂ B₂ ρ₂ vs σ₂ a₂ rs q₂ => ?_)⟩
  exact q₂.go R a₂.inv ⟨u, us, rfl, a₂.rel r, rs⟩ fun u s₃ B₃ ρ₃ v σ₃ a₃ r₃ q₃ => a.then0 (a₂.then0 (a₃.here ⟨v, σ₃, a₃.inv, r₃, q₃⟩))
-- arithmetic
theorem o_intadd {x y : Int} {Q : AV → List MO → Prop} (h : Q (.pv (.int (x + y))) σ) : Op2 prog w GH k (binaryOp .Add) (.pv (.int x)) (.pv (.int y)) σ Q := fun A s B ρ u v R I ⟨t, e1⟩ ⟨t', e2⟩ => by
  subst e1 e2
  exact add_int (After.tok _ ⟨_, σ, I, relA_int, h⟩)
end
mutual
noncomputable def PV.pd : PV → Option PyData
  | .none => some .none
  | .bool b => some (.bool b)
  | .int i => some (.int i)
  | .str s => some (.str s)
  | .lst l => (pdL l).map .list
  | .tup l => (pdL l).map .tuple
  | _ => none
noncomputable def pdL : List PV → Option (List PyData)
  | [] => some []
  | p :: r => match PV.pd p, pdL r with
    | some d, some ds => some (d :: ds)
    | _, _ => none
end
theorem pdL_cons {p : PV} {l : List PV} {d : PyData} {ds : List PyData} (h : p.pd = some d) (h' : pdL l = some ds) : pdL (p :: l) = some (d :: ds) := by
  show (match p.pd, pdL l with | some d, some ds => some (d :: ds) | _, _ => none) = _
  rw [h, h']
theorem pdL_inv {p : PV} {l : List PV} {ds : List PyData} (h : pdL (p :: l) = some ds) : ∃ d ds', p.pd = some d ∧ pdL l = some ds' ∧ ds = d :: ds' := by
  have h : (match p.pd, pdL l with | some d, some ds => some (d :: ds) | _, _ => none) = some ds := h
  revert h
  cases p.pd with
  | none => exact fun h => nomatch h
  | some d =>
    cases pdL l with
    | none => exact fun h => nomatch h
    | some ds' => exact fun h => ⟨d, ds', rfl, rfl, (Option.some.inj h).symm⟩
section
variable {prog : Program} {w : World} {B : FB} {h : Heap}
mutual
theorem reads_of (hB : ∀ b o, B b = some o → h.get? b = some o) : ∀ {p : PV} {v : Value} {d : PyData}, Rel prog w B p v → p.pd = some d → ∃ as, Reads h v d as
  | .none, v, d, r, e => by cases (show v = .none from r); cases e; exact ⟨_, .none⟩
  | .bool b, v, d, r, e => by cases (show v = .bool b from r); cases e; exact ⟨_, .bool b⟩
  | .int i, v, d, ⟨t, r⟩, e => by subst r; cases e; exact ⟨_, .int i t⟩
  | .str i, v, d, ⟨t, r⟩, e => by subst r; cases e; exact ⟨_, .str i t⟩
  | .tup l, v, d, ⟨a, its, n, r, b, q⟩, e => by
    obtain ⟨ds, hd, rfl⟩ := Option.map_eq_some_iff.mp e
    obtain ⟨as, ra⟩ := readsL_of hB q hd
    subst r
    exact ⟨_, .tuple (hB _ _ b) rfl rfl ra⟩
  | .lst l, v, d, ⟨a, its, n, r, b, q⟩, e => by
    obtain ⟨ds, hd, rfl⟩ := Option.map_eq_some_iff.mp e
    obtain ⟨as, ra⟩ := readsL_of hB q hd
    subst r
    exact ⟨_, .list (hB _ _ b) rfl rfl ra⟩
  | .bytes _, _, _, _, e => by cases e
  | .cst _, _, _, _, e => by cases e
  | .dctI _ _, _, _, _, e => by cases e
  | .dctS _ _, _, _, _, e => by cases e
  | .ins _ _ _, _, _, _, e => by cases e
  | .rng _ _, _, _, _, e => by cases e
theorem readsL_of (hB : ∀ b o, B b = some o → h.get? b = some o) : ∀ {l : List PV} {us : List Value} {ds : List PyData}, RelL prog w B l us → pdL l = some ds → ∃ as, ReadsAll h us ds as
  | [], us, ds, r, e => by cases (show us = [] from r); cases e; exact ⟨_, .nil⟩
  | p :: l, us, ds, ⟨u, us', r, r1, r2⟩, e => by
    subst r
    obtain ⟨d, ds', h1, h2, rfl⟩ := pdL_inv e
    obtain ⟨a1, q1⟩ := reads_of hB r1 h1
    obtain ⟨a2, q2⟩ := readsL_of hB r2 h2
    exact ⟨_, .cons q1 q2⟩
end
end
noncomputable def asList (σ : List MO) : AV → Option (List PV)
  | .pv (.lst l) => some l
  | .loc n => match σ[n]? with
    | some (.lst l) => some l
    | _ => none
  | _ => none
noncomputable def asDictI (σ : List MO) : AV → Option (List Int × List PV)
  | .pv (.dctI ks vs) => some (ks, vs)
  | .loc n => match σ[n]? with
    | some (.dctI ks vs) => some (ks, vs)
    | _ => none
  | _ => none
noncomputable def asDictS (σ : List MO) : AV → Option (List Str × List PV)
  | .pv (.dctS ks vs) => some (ks, vs)
  | .loc n => match σ[n]? with
    | some (.dctS ks vs) => some (ks, vs)
    | _ => none
  | _ => none
noncomputable def avPd (σ : List MO) : AV → Option PyData
  | .pv p => p.pd
  | .loc n => match σ[n]? with
    | some (.lst l) => (pdL l).map .list
    | _ => none
section
variable {prog : Program} {w : World} {GH : Heap} {mg mb : Str → Option Value} {A : Around} {env : Env} {s : Shared} {h : Heap} {B : FB} {ρ : List Addr} {σ : List MO} {sc : Scope} {k : Nat} {V : VEnv} {e : Expr}
theorem view_loc {n : Nat} {u : Value} {m : MO} (I : Inv prog w GH h B ρ σ) (r : RelA prog w B ρ (.loc n) u) (hm : σ[n]? = some m) : ∃ a o, ρ[n]? = some a ∧ u = .ref a ∧ h.get? a = some o ∧ MRel prog w B ρ o m := by
  refine x1a2 r fun a ha Z1 => ?_; clear r; obtain rfl := Z1
  obtain ⟨_, Z2⟩ := I.store n a m ha hm; refine x1a2 Z2 fun o ho q => ?_; clear Z2
  exact ⟨a, o, ha, rfl, ho, q⟩
theorem nn {α : Type} {a : α} {P : Prop} (h : none = some a) : P := nomatch h
theorem view_list {a : AV} {u : Value} {l : List PV} (I : Inv prog w GH h B ρ σ) (r : RelA prog w B ρ a u) (hl : asList σ a = some l) : ∃ x its n, u = .ref x ∧ h.get? x = some { cls := .type "list", data := .seq its n } ∧ RelL prog w B l its.toList := by
  cases a with
  | pv p => cases p <;> first | exact nn hl | (cases hl; refine x3a3 r fun x its n e b q => ?_; clear r; exact ⟨x, its, n, e, I.base _ _ b, q⟩)
  | loc n =>
    have key : ∀ x, σ[n]? = x → (match x with | some (.lst l) => some l | _ => none) = some l → σ[n]? = some (.lst l) := fun x hm q => by
      cases x with
      | none => exact nn q
      | some m => cases m <;> first | exact nn q | (cases q; exact hm)
    refine x2a4 (view_loc I r (key _ rfl hl)) fun x o _ e ho Z1 => ?_; refine x2a2 Z1 fun its n' q1 q2 => ?_; clear Z1
    exact ⟨x, its, n', e, q1 ▸ ho, q2⟩
theorem view_dictI (G : GOK GH mg mb) {a : AV} {u : Value} {ks : List Int} {vs : List PV} (I : Inv prog w GH h B ρ σ) (r : RelA prog w B ρ a u) (hl : asDictI σ a = some (ks, vs)) : ∃ x us, u = .ref x ∧ (x == sysModules) = false ∧ h.DictOf (PySem.intKind prog w) x (ks.zip us) ∧ us.length = ks.length ∧ RelL prog w B vs us := by
  cases a with
  | pv p => cases p <;> first | exact nn hl | (cases hl; refine x3a6 r fun x o us e q b d l => ?_; clear r; intro r; exact ⟨x, us, e, q, Heap.dictOf_iff.mpr ⟨o, I.base _ _ b, d⟩, l, r⟩)
  | loc n =>
    have key : ∀ x, σ[n]? = x → (match x with | some (.dctI ks vs) => some (ks, vs) | _ => none) = some (ks, vs) → σ[n]? = some (.dctI ks vs) := fun x hm q => by
      cases x with
      | none => exact nn q
      | some m => cases m <;> first | exact nn q | (cases q; exact hm)
    refine x2a4 (view_loc I r (key _ rfl hl)) fun x o hx e ho Z1 => ?_; refine x1a3 Z1 fun us q1 q2 q3 => ?_; clear Z1
    exact ⟨x, us, e, G.lowNot (I.high x (List.mem_of_getElem? hx)), Heap.dictOf_iff.mpr ⟨o, ho, q1⟩, q2, q3⟩
theorem view_dictS (G : GOK GH mg mb) {a : AV} {u : Value} {ks : List Str} {vs : List PV} (I : Inv prog w GH h B ρ σ) (r : RelA prog w B ρ a u) (hl : asDictS σ a = some (ks, vs)) : ∃ x us, u = .ref x ∧ (x == sysModules) = false ∧ h.DictOf (PySem.strKind prog w) x (ks.zip us) ∧ us.length = ks.length ∧ RelL prog w B vs us := by
  cases a with
  | pv p => cases p <;> first | exact nn hl | (cases hl; refine x3a6 r fun x o us e q b d l => ?_; clear r; intro r; exact ⟨x, us, e, q, Heap.dictOf_iff.mpr ⟨o, I.base _ _ b, d⟩, l, r⟩)
  | loc n =>
    have key : ∀ x, σ[n]? = x → (match x with | some (.dctS ks vs) => some (ks, vs) | _ => none) = some (ks, vs) → σ[n]? = some (.dctS ks vs) := fun x hm q => by
      cases x with
      | none => exact nn q
      | some m => cases m <;> first | exact nn q | (cases q; exact hm)
    refine x2a4 (view_loc I r (key _ rfl hl)) fun x o hx e ho Z1 => ?_; refine x1a3 Z1 fun us q1 q2 q3 => ?_; clear Z1
    exact ⟨x, us, e, G.lowNot (I.high x (List.mem_of_getElem? hx)), Heap.dictOf_iff.mpr ⟨o, ho, q1⟩, q2, q3⟩
theorem view_pd {a : AV} {u : Value} {d : PyData} (I : Inv prog w GH h B ρ σ) (r : RelA prog w B ρ a u) (hd : avPd σ a = some d) : ∃ as, Reads h u d as := by
  cases a with
  | pv p => exact reads_of I.base r hd
  | loc n =>
    have key : ∀ x, σ[n]? = x → (match x with | some (.lst l) => (pdL l).map PyData.list | _ => none) = some d → ∃ l, σ[n]? = some (.lst l) ∧ (pdL l).map PyData.list = some d := fun x hm q => by
      cases x with
      | none => exact nn q
      | some m => cases m <;> first | exact nn q | exact ⟨_, hm, q⟩
    obtain ⟨l, hm, hd⟩ := key _ rfl hd
    obtain ⟨ds, q, rfl⟩ := Option.map_eq_some_iff.mp hd
    obtain ⟨x, o, _, rfl, ho, its, n', q1, q2⟩ := view_loc I r hm
    subst q1
    obtain ⟨as, ra⟩ := readsL_of I.base q2 q
    exact ⟨_, .list ho rfl rfl ra⟩
-- comparisons of plain data
theorem o_eq {a b : AV} {da db : PyData} {Q : AV → List MO → Prop} (ha : avPd σ a = some da) (hb : avPd σ b = some db) (sa : SeqAt.shaped da = true) (sb : SeqAt.shaped db = true) (h : Q (.pv (.bool (PyData.eqv da db))) σ) : Op2 prog w GH (k + 4) (compareOp .Eq) a b σ Q := fun A s B ρ u v R I ra rb => by
  obtain ⟨as, xa⟩ := view_pd I ra ha
  obtain ⟨bs, xb⟩ := view_pd I rb hb
  exact eq_dataH xa xb sa sb (by have := R.units; omega) (After.here ⟨_, σ, I, relA_bool, h⟩)
theorem o_ne {a b : AV} {da db : PyData} {Q : AV → List MO → Prop} (ha : avPd σ a = some da) (hb : avPd σ b = some db) (sa : SeqAt.shaped da = true) (sb : SeqAt.shaped db = true) (h : Q (.pv (.bool (!PyData.eqv da db))) σ) : Op2 prog w GH (k + 4) (compareOp .NotEq) a b σ Q := fun A s B ρ u v R I ra rb => by
  obtain ⟨as, xa⟩ := view_pd I ra ha
  obtain ⟨bs, xb⟩ := view_pd I rb hb
  exact ne_dataH xa xb sa sb (by have := R.units; omega) (After.here ⟨_, σ, I, relA_bool, h⟩)
-- ints
section
variable {x y : Int} {Q : AV → List MO → Prop}
theorem o_sub (h : Q (.pv (.int (x - y))) σ) : Op2 prog w GH k (binaryOp .Sub) (.pv (.int x)) (.pv (.int y)) σ Q := fun A s B ρ u v R I ⟨t, e1⟩ ⟨t', e2⟩ => by
  subst e1 e2; exact sub_int (After.tok _ ⟨_, σ, I, relA_int, h⟩)
theorem o_mul (hm : IntMulOk x y) (h : Q (.pv (.int (x * y))) σ) : Op2 prog w GH k (binaryOp .Mult) (.pv (.int x)) (.pv (.int y)) σ Q := fun A s B ρ u v R I ⟨t, e1⟩ ⟨t', e2⟩ => by
  subst e1 e2; exact mul_int (After.tok _ ⟨_, σ, I, relA_int, h⟩) hm
theorem o_mod (hy : y ≠ 0) (h : Q (.pv (.int (x.fmod y))) σ) : Op2 prog w GH k (binaryOp .Mod) (.pv (.int x)) (.pv (.int y)) σ Q := fun A s B ρ u v R I ⟨t, e1⟩ ⟨t', e2⟩ => by
  subst e1 e2; exact mod_int' hy (After.tok _ ⟨_, σ, I, relA_int, h⟩)
theorem o_div (hy : y ≠ 0) (hp : Builtin.divisionGoesByPylong x y = false) (h : Q (.pv (.int (x.fdiv y))) σ) : Op2 prog w GH k (binaryOp .FloorDiv) (.pv (.int x)) (.pv (.int y)) σ Q := fun A s B ρ u v R I ⟨t, e1⟩ ⟨t', e2⟩ => by
  subst e1 e2; exact floordiv_int hy (After.tok _ ⟨_, σ, I, relA_int, h⟩) (.inl hp)
theorem o_lt (h : Q (.pv (.bool (decide (x < y)))) σ) : Op2 prog w GH k (compareOp .Lt) (.pv (.int x)) (.pv (.int y)) σ Q := fun A s B ρ u v R I ⟨t, e1⟩ ⟨t', e2⟩ => by
  subst e1 e2; exact P.lt_int (After.here ⟨_, σ, I, relA_bool, h⟩)
theorem o_gt (h : Q (.pv (.bool (decide (x > y)))) σ) : Op2 prog w GH k (compareOp .Gt) (.pv (.int x)) (.pv (.int y)) σ Q := fun A s B ρ u v R I ⟨t, e1⟩ ⟨t', e2⟩ => by
  subst e1 e2; exact P.gt_int (After.here ⟨_, σ, I, relA_bool, h⟩)
theorem o_ge (h : Q (.pv (.bool (decide (x ≥ y)))) σ) : Op2 prog w GH k (compareOp .GtE) (.pv (.int x)) (.pv (.int y)) σ Q := fun A s B ρ u v R I ⟨t, e1⟩ ⟨t', e2⟩ => by
  subst e1 e2; exact P.ge_int (After.here ⟨_, σ, I, relA_bool, h⟩)
theorem o_eqI (h : Q (.pv (.bool (x == y))) σ) : Op2 prog w GH k (compareOp .Eq) (.pv (.int x)) (.pv (.int y)) σ Q := fun A s B ρ u v R I ⟨t, e1⟩ ⟨t', e2⟩ => by
  subst e1 e2; exact P.eq_int (After.here ⟨_, σ, I, relA_bool, h⟩)
theorem o_neI (h : Q (.pv (.bool (x != y))) σ) : Op2 prog w GH k (compareOp .NotEq) (.pv (.int x)) (.pv (.int y)) σ Q := fun A s B ρ u v R I ⟨t, e1⟩ ⟨t', e2⟩ => by
  subst e1 e2; exact P.ne_int (After.here ⟨_, σ, I, relA_bool, h⟩)
theorem o_neg (h : Q (.pv (.int (-x))) σ) : Op1 prog w GH k (unaryOp .USub) (.pv (.int x)) σ Q := fun A s B ρ u R I ⟨t, e1⟩ => by
  subst e1; exact P.neg_int (After.tok _ ⟨_, σ, I, relA_int, h⟩)
end
theorem o_strEq {x y : Str} {Q : AV → List MO → Prop} (h : Q (.pv (.bool (x == y))) σ) : Op2 prog w GH k (compareOp .Eq) (.pv (.str x)) (.pv (.str y)) σ Q := fun A s B ρ u v R I ⟨t, e1⟩ ⟨t', e2⟩ => by
  subst e1 e2; exact PyProof.Rows.eq_str (After.here ⟨_, σ, I, relA_bool, h⟩)
theorem o_strAdd {x y : Str} {Q : AV → List MO → Prop} (hl : x.length + y.length ≤ 16777216) (h : Q (.pv (.str (x ++ y))) σ) : Op2 prog w GH k (binaryOp .Add) (.pv (.str x)) (.pv (.str y)) σ Q := fun A s B ρ u v R I ⟨t, e1⟩ ⟨t', e2⟩ => by
  subst e1 e2; exact PyProof.Rows.add_str (fun t' tk => After.tok _ ⟨_, σ, I, relA_str, h⟩) (by rw [sizeLine_eq]; exact hl)
theorem o_bytesEq {x y : Array UInt8} {Q : AV → List MO → Prop} (h : Q (.pv (.bool (x.toList == y.toList))) σ) : Op2 prog w GH k (compareOp .Eq) (.pv (.bytes x)) (.pv (.bytes y)) σ Q := fun A s B ρ u v R I ⟨t, e1⟩ ⟨t', e2⟩ => by
  subst e1 e2; exact PySem.W.eq_bytes (After.here ⟨_, σ, I, relA_bool, h⟩)
theorem o_bytesNe {x y : Array UInt8} {Q : AV → List MO → Prop} (h : Q (.pv (.bool (x.toList != y.toList))) σ) : Op2 prog w GH k (compareOp .NotEq) (.pv (.bytes x)) (.pv (.bytes y)) σ Q := fun A s B ρ u v R I ⟨t, e1⟩ ⟨t', e2⟩ => by
  subst e1 e2; exact PySem.W.ne_bytes (After.here ⟨_, σ, I, relA_bool, h⟩)
theorem o_bytesAdd {x y : Array UInt8} {Q : AV → List MO → Prop} (hl : x.size + y.size ≤ 16777216) (h : Q (.pv (.bytes (x ++ y))) σ) : Op2 prog w GH k (binaryOp .Add) (.pv (.bytes x)) (.pv (.bytes y)) σ Q := fun A s B ρ u v R I ⟨t, e1⟩ ⟨t', e2⟩ => by
  subst e1 e2; exact PySem.W.KBy.add_bytes hl (fun t' tk => After.tok _ ⟨_, σ, I, relA_bytes, h⟩)
-- truth
theorem tr_bool {b : Bool} {Q : Bool → List MO → Prop} (h : Q b σ) : Tr1 prog w GH k (.pv (.bool b)) σ Q := fun A s B ρ u R I e => by
  cases (show u = .bool b from e); exact wpAny_truthy_bool (After.here ⟨σ, I, h⟩)
theorem tr_list {a : AV} {l : List PV} {Q : Bool → List MO → Prop} (ha : asList σ a = some l) (hl : l.length ≤ 1000000) (h : Q (!l.isEmpty) σ) : Tr1 prog w GH k a σ Q := fun A s B ρ u R I r => by
  refine x3a2 (view_list I r ha) fun x its n Z1 Z2 => ?_; obtain rfl := Z1; obtain ⟨hx, q⟩ := Z2
  have e := q.length
  have e' : its.size = l.length := by rw [← e]; simp
  have : (!its.isEmpty) = !l.isEmpty := by
    have z : its.isEmpty = decide (its.size = 0) := rfl
    rw [z, e']
    cases l <;> simp
  exact wpAny_truthy_list ⟨_, hx, rfl, _, rfl⟩ (by rw [e']; omega) (After.tok _ ⟨σ, I, by rw [this]; exact h⟩)
-- identity with None
theorem o_isNone {a : PV} {Q : AV → List MO → Prop} (h : Q (.pv (.bool (match a with | .none => true | _ => false))) σ) (hc : ∀ u, a ≠ .cst u) : Op2 prog w GH k (compareOp .Is) (.pv a) (.pv .none) σ Q := fun A s B ρ u v R I ra rb => by
  cases (show v = .none from rb)
  cases a <;> first
    | (cases (show u = .none from ra); exact wpAny_is_self rfl (After.here ⟨_, σ, I, relA_bool, h⟩))
    | (cases (show u = .bool _ from ra); exact wpAny_is_other rfl (by simp) (After.here ⟨_, σ, I, relA_bool, h⟩))
    | (obtain ⟨t, rfl⟩ := ra; exact wpAny_is_other rfl (by simp) (After.here ⟨_, σ, I, relA_bool, h⟩))
    | (exact absurd rfl (hc _))
    | (obtain ⟨_, _, _, rfl, _⟩ := ra; exact wpAny_is_other rfl (by simp) (After.here ⟨_, σ, I, relA_bool, h⟩))
    | (obtain ⟨_, _, _, _, rfl, _⟩ := ra; exact wpAny_is_other rfl (by simp) (After.here ⟨_, σ, I, relA_bool, h⟩))
    | (obtain ⟨_, _, _, _, _, rfl, _⟩ := ra; exact wpAny_is_other rfl (by simp) (After.here ⟨_, σ, I, relA_bool, h⟩))
theorem o_isNotNone {a : PV} {Q : AV → List MO → Prop} (h : Q (.pv (.bool (match a with | .none => false | _ => true))) σ) (hc : ∀ u, a ≠ .cst u) : Op2 prog w GH k (compareOp .IsNot) (.pv a) (.pv .none) σ Q := fun A s B ρ u v R I ra rb => by
  cases (show v = .none from rb)
  cases a <;> first
    | (cases (show u = .none from ra); exact wpAny_isNot_self rfl (After.here ⟨_, σ, I, relA_bool, h⟩))
    | (cases (show u = .bool _ from ra); exact wpAny_isNot_other rfl (by simp) (After.here ⟨_, σ, I, relA_bool, h⟩))
    | (obtain ⟨t, rfl⟩ := ra; exact wpAny_isNot_other rfl (by simp) (After.here ⟨_, σ, I, relA_bool, h⟩))
    | (exact absurd rfl (hc _))
    | (obtain ⟨_, _, _, rfl, _⟩ := ra; exact wpAny_isNot_other rfl (by simp) (After.here ⟨_, σ, I, relA_bool, h⟩))
    | (obtain ⟨_, _, _, _, rfl, _⟩ := ra; exact wpAny_isNot_other rfl (by simp) (After.here ⟨_, σ, I, relA_bool, h⟩))
    | (obtain ⟨_, _, _, _, _, rfl, _⟩ := ra; exact wpAny_isNot_other rfl (by simp) (After.here ⟨_, σ, I, relA_bool, h⟩))
end
section
variable {prog : Program} {w : World} {GH : Heap} {mg mb : Str → Option Value} {A : Around} {env : Env} {s : Shared} {h h' : Heap} {B B' : FB} {ρ : List Addr} {σ : List MO} {sc : Scope} {k : Nat} {V : VEnv} {e : Expr}
theorem Inv.forget (I : Inv prog w GH h B ρ σ) : Inv prog w GH h B [] [] := ⟨I.top, I.base, List.nodup_nil, fun _ m => (nomatch m), rfl, fun i a m e => by simp at e⟩
theorem Inv.back (I : Inv prog w GH h B ρ σ) {ν : List Addr} {τ : List MO} (S : Step [] h B [] h' B' ν) (J : Inv prog w GH h' B' ν τ) : Inv prog w GH h' B' ρ σ ∧ Step [] h B ρ h' B' ρ := by
  have keep : ∀ b o, h.get? b = some o → h'.get? b = some o := fun b o e => S.keep b o e (by simp) (by simp)
  have new : ∀ b o, B' b = some o → B b = some o ∨ h.get? b = none := fun b o e => (S.new b o e).imp id fun q => q.elim id fun z => nomatch z
  refine ⟨⟨J.top, J.base, I.nodup, I.high, I.len, fun i a m e1 e2 => ?_⟩, ⟨S.le, fun b o e => (new b o e).imp id .inl, ⟨[], by simp, fun _ q => nomatch q⟩, fun b o e _ _ => keep b o e, fun b o e => ⟨o, keep b o e⟩⟩⟩
  obtain ⟨q, Z1⟩ := I.store i a m e1 e2; refine x1a2 Z1 fun o ho r => ?_; clear Z1
  refine ⟨fun z => ?_, o, keep _ _ ho, by have := r.mono prog w S.le (ν := []); rwa [List.append_nil] at this⟩
  cases y : B' a with
  | none => rfl
  | some o' =>
    rcases new a o' y with x | x
    · rw [q z] at x; cases x
    · rw [x] at ho; cases ho
theorem RelAL.of_pure : ∀ {as : List AV} {ps : List PV} {us : List Value}, pvs as = some ps → RelAL prog w B ρ as us → RelAL prog w B [] as us
  | [], _, _, _, r => r
  | .pv p :: r, _, _, e, ⟨u, us, e1, r1, r2⟩ => by
    obtain ⟨qs, hq, rfl⟩ := Option.map_eq_some_iff.mp e
    exact ⟨u, us, e1, r1, r2.of_pure hq⟩
  | .loc _ :: _, _, _, e, _ => by cases e
theorem c_pure {f : Value} {as : List AV} {ps : List PV} {R : PV → Prop} {Q : AV → List MO → Prop} (hp : pvs as = some ps) (h : COk prog w GH k f as [] fun v _ => ∃ p, v = .pv p ∧ R p) (hq : ∀ p, R p → Q (.pv p) σ) : COk prog w GH k f as σ Q := fun A s B ρ us Rm I ra =>
  wpAny_mono (h A s B [] us Rm I.forget (ra.of_pure hp)) (fun u s' x => by
    refine x2a3 x fun B' ν sm S Z1 => ?_; clear x; refine x2a3 Z1 fun v τ J r Z2 => ?_; clear Z1; refine x1a2 Z2 fun p Z3 q => ?_; clear Z2; obtain rfl := Z3
    obtain ⟨I', S'⟩ := I.back S J
    exact ⟨B', ρ, sm, S', .pv p, σ, I', r, hq p q⟩) fun _ _ x => x
noncomputable def locFree : MO → Bool
  | .lst _ | .dctI _ _ | .dctS _ _ => true
  | _ => false
theorem MRel.free {o : Obj} {ν ρ' : List Addr} : ∀ {m : MO}, locFree m = true → MRel prog w B ν o m → MRel prog w B ρ' o m
  | .lst _, _, r => r
  | .dctI _ _, _, r => r
  | .dctS _ _, _, r => r
  | .alst _, h, _ => by cases h
  | .ins _ _, h, _ => by cases h
  | .ns _ _, h, _ => by cases h
  | .dead, h, _ => by cases h
theorem c_adopt {f : Value} {as : List AV} {ps : List PV} {R : MO → Prop} {Q : AV → List MO → Prop} (hp : pvs as = some ps) (h : COk prog w GH k f as [] fun v τ => ∃ j m, v = .loc j ∧ τ[j]? = some m ∧ locFree m = true ∧ R m) (hq : ∀ m, R m → Q (.loc σ.length) (σ ++ [m])) : COk prog w GH k f as σ Q := fun A s B ρ us Rm I ra =>
  wpAny_mono (h A s B [] us Rm I.forget (ra.of_pure hp)) (fun u s' x => by
    refine x2a3 x fun B' ν sm S Z1 => ?_; clear x; refine x2a3 Z1 fun v τ J r Z2 => ?_; clear Z1; refine x2a2 Z2 fun j m Z3 Z4 => ?_; clear Z2; obtain rfl := Z3; refine x0a3 Z4 fun hm hf q => ?_; clear Z4
    obtain ⟨I', S'⟩ := I.back S J
    refine x1a2 r fun a ha Z5 => ?_; clear r; obtain rfl := Z5
    obtain ⟨z, Z6⟩ := J.store j a m ha hm; refine x1a2 Z6 fun o ho hr => ?_; clear Z6
    have hnd : m ≠ .dead := by intro e; subst e; cases hf
    have hnew : s.heap.get? a = none := by
      obtain ⟨ν', e, hν⟩ := S.ext
      simp at e
      exact hν a (e ▸ List.mem_of_getElem? ha)
    have hna : a ∉ ρ := I.none_notin hnew
    refine ⟨B', ρ ++ [a], sm, ⟨S'.le, S'.new, ⟨[a], rfl, fun b hb => by rw [List.mem_singleton.mp hb]; exact hnew⟩, S'.keep, S'.live⟩, .loc σ.length, σ ++ [m], ?_, ⟨a, by rw [← I.len]; simp, rfl⟩, hq m q⟩
    refine ⟨I'.top, I'.base, List.nodup_append.mpr ⟨I'.nodup, by simp, fun x hx y hy e => by rw [List.mem_singleton.mp hy] at e; exact hna (e ▸ hx)⟩, fun b hb => ?_, by simp [I.len], fun i b m' e1 e2 => ?_⟩
    · rcases List.mem_append.mp hb with q | q
      · exact I'.high b q
      · rw [List.mem_singleton.mp q]; exact J.high a (List.mem_of_getElem? ha)
    · rcases Nat.lt_trichotomy i ρ.length with q' | q' | q'
      · rw [List.getElem?_append_left q'] at e1
        rw [List.getElem?_append_left (I.len ▸ q')] at e2
        obtain ⟨z', Z7⟩ := I'.store i b m' e1 e2; refine x1a2 Z7 fun o' ho' r' => ?_; clear Z7
        exact ⟨z', o', ho', r'.mono prog w (FB.le.refl B')⟩
      · subst q'
        rw [I.len] at e2
        rw [List.getElem?_append_right (Nat.le_refl _)] at e1
        rw [List.getElem?_append_right (Nat.le_refl _)] at e2
        simp at e1 e2
        subst e1; subst e2
        exact ⟨fun _ => z hnd, o, ho, hr.free hf⟩
      · rw [List.getElem?_eq_none (by simp; omega)] at e1; cases e1) fun _ _ x => x
theorem Inv.freeze {n : Nat} {a : Addr} {o : Obj} {m : MO} (I : Inv prog w GH h B ρ σ) (ha : ρ[n]? = some a) (hm : σ[n]? = some m) (ho : h.get? a = some o) (hd : m ≠ .dead) :
    Inv prog w GH h (B.put a o) ρ (σ.set n .dead) ∧ Step [] h B ρ h (B.put a o) ρ := by
  have hB : B a = none := (I.store n a m ha hm).1 hd
  have le : B.le (B.put a o) := FB.le_put hB
  refine ⟨⟨fun b o' e => le _ _ (I.top _ _ e), fun b o' e => ?_, I.nodup, I.high, by simp [I.len], fun i b m' e1 e2 => ?_⟩, ⟨le, fun b o' e => ?_, ⟨[], by simp, fun _ q => nomatch q⟩, fun _ _ e _ _ => e, fun b o e => ⟨o, e⟩⟩⟩
  · unfold FB.put at e
    split at e
    · rename_i q; subst q; cases e; exact ho
    · exact I.base _ _ e
  · by_cases q : i = n
    · subst q
      have hl : i < σ.length := by
        rcases Nat.lt_or_ge i σ.length with z | z
        · exact z
        · rw [List.getElem?_eq_none z] at hm; cases hm
      rw [List.getElem?_set_self hl] at e2; cases e2
      rw [ha] at e1; cases e1
      exact ⟨fun z => absurd rfl z, o, ho, trivial⟩
    · rw [List.getElem?_set_ne (Ne.symm q)] at e2
      obtain ⟨z, Z1⟩ := I.store i b m' e1 e2; refine x1a2 Z1 fun o' ho' r => ?_; clear Z1
      refine ⟨fun y => ?_, o', ho', by have := r.mono prog w le (ν := []); rwa [List.append_nil] at this⟩
      have hi : i < ρ.length := by
        rcases Nat.lt_or_ge i ρ.length with z | z
        · exact z
        · rw [List.getElem?_eq_none z] at e1; cases e1
      have hne : b ≠ a := fun e => q ((List.getElem?_inj hi I.nodup).mp (by rw [e1, ha, e]))
      unfold FB.put
      rw [if_neg hne]; exact z y
  · unfold FB.put at e
    split at e
    · rename_i q; subst q; exact .inr (.inr (List.mem_of_getElem? ha))
    · exact .inl e
noncomputable def frozen (σ : List MO) : AV → Option (Nat × PV)
  | .loc n => match σ[n]? with
    | some (.lst l) => some (n, .lst l)
    | some (.dctI ks vs) => some (n, .dctI ks vs)
    | some (.dctS ks vs) => some (n, .dctS ks vs)
    | _ => none
  | _ => none
theorem Inv.frozen (G : GOK GH mg mb) {v : AV} {u : Value} {n : Nat} {p : PV} (I : Inv prog w GH h B ρ σ) (r : RelA prog w B ρ v u) (hf : frozen σ v = some (n, p)) :
    ∃ B', Inv prog w GH h B' ρ (σ.set n .dead) ∧ Step [] h B ρ h B' ρ ∧ Rel prog w B' p u := by
  cases v with
  | pv _ => cases hf
  | loc n' =>
    simp only [Mine.frozen] at hf
    split at hf
    · rename_i l hm; cases hf
      refine x2a4 (view_loc I r hm) fun a o ha e ho Z1 => ?_; refine x2a2 Z1 fun its n' q1 q2 => ?_; clear Z1
      obtain ⟨I', S'⟩ := I.freeze ha hm ho (by simp)
      subst q1
      exact ⟨_, I', S', a, its, n', e, FB.put_self _ _ _, q2.mono prog w S'.le⟩
    · rename_i ks vs hm; cases hf
      refine x2a4 (view_loc I r hm) fun a o ha e ho Z2 => ?_; refine x1a3 Z2 fun us q1 q2 q3 => ?_; clear Z2
      obtain ⟨I', S'⟩ := I.freeze ha hm ho (by simp)
      exact ⟨_, I', S', a, o, us, e, G.lowNot (I.high a (List.mem_of_getElem? ha)), FB.put_self _ _ _, q1, q2, q3.mono prog w S'.le⟩
    · rename_i ks vs hm; cases hf
      refine x2a4 (view_loc I r hm) fun a o ha e ho Z3 => ?_; refine x1a3 Z3 fun us q1 q2 q3 => ?_; clear Z3
      obtain ⟨I', S'⟩ := I.freeze ha hm ho (by simp)
      exact ⟨_, I', S', a, o, us, e, G.lowNot (I.high a (List.mem_of_getElem? ha)), FB.put_self _ _ _, q1, q2, q3.mono prog w S'.le⟩
    · cases hf
theorem e_freeze (G : GOK GH mg mb) {Q : AV → List MO → Prop} (h : EOk prog w GH sc k e V σ fun v σ₁ => ∃ n p, frozen σ₁ v = some (n, p) ∧ Q (.pv p) (σ₁.set n .dead)) : EOk prog w GH sc k e V σ Q := fun A env s B ρ R F I =>
  h.go R F I fun u s₁ B₁ ρ₁ v σ₁ a r ⟨n, p, hf, q⟩ => by
    refine x1a3 (a.inv.frozen G r hf) fun B₂ I₂ S₂ r₂ => ?_
    exact a.then0 ⟨B₂, ρ₁, ⟨_, _, rfl⟩, S₂, .pv p, _, I₂, r₂, q⟩
end
theorem walks_map {prog : Program} {w : World} {A : Around} {I : Addr} {fp wr : List Addr} {n : Nat} {P P' : Nat → Value → Prop} {St : Nat → Heap → Prop} (W : Walks prog w A I fp wr n P St) (f : ∀ i v, i < n → P i v → P' i v) : Walks prog w A I fp wr n P' St where
  sub := W.sub
  frame := W.frame
  item := fun i s Q E hi st hQ => W.item i s Q E hi st fun v h' tk hp => hQ v h' tk (f i v hi hp)
  done := W.done
  self := W.self
noncomputable def quietIt (o : Obj) : Bool := match o.cls, o.data with
  | .type n, .fields _ => !["enumerate", "zip", "dict_itemiterator", "dict_reverseitemiterator", "odict_iterator", "itertools.zip_longest", "itertools.pairwise"].contains n
  | _, _ => true
section
variable {prog : Program} {w : World} {GH : Heap} {mg mb : Str → Option Value} {A : Around} {env : Env} {s : Shared} {h h' : Heap} {B B' : FB} {ρ : List Addr} {σ : List MO} {sc : Scope} {k : Nat} {V : VEnv} {e : Expr}
noncomputable def Src (prog : Program) (w : World) (GH : Heap) (a : PV) (l : List PV) : Prop := ∀ A (s : Shared) B ρ σ u, A.handled = none → Inv prog w GH s.heap B ρ σ → Rel prog w B a u →
  wpAny (model prog w) A (pyIter u) (fun it s' => ∃ (o : Obj) (fp : List Addr) (St : Nat → Heap → Prop) (n : Nat), n = l.length ∧ it = .ref s.heap.objs.size ∧ s' = { s with heap := s.heap.push o } ∧ o.isFreed = false ∧
    Walks prog w A s.heap.objs.size fp [s.heap.objs.size] n (fun i v => ∃ p, l[i]? = some p ∧ Rel prog w B p v) St ∧ St 0 (s.heap.push o) ∧ (∀ b ∈ fp, b = s.heap.objs.size ∨ ∃ o, B b = some o) ∧
    (∀ i h, St i h → ∃ o, h.get? s.heap.objs.size = some o ∧ quietIt o = true)) (fun _ _ => False) s
theorem relL_get {B : FB} : ∀ {l : List PV} {us : List Value} {i : Nat} {v : Value}, RelL prog w B l us → us[i]? = some v → ∃ p, l[i]? = some p ∧ Rel prog w B p v
  | [], us, i, v, r, e => by rw [show us = [] from r] at e; simp at e
  | p :: l, us, i, v, ⟨u, us', r, r1, r2⟩, e => by
    subst r
    cases i with
    | zero => simp at e; subst e; exact ⟨p, rfl, r1⟩
    | succ i => exact relL_get (l := l) (us := us') (i := i) r2 (by simpa using e)
theorem relL_get' {B : FB} : ∀ {l : List PV} {us : List Value} {i : Nat} {p : PV}, RelL prog w B l us → l[i]? = some p → ∃ v, us[i]? = some v ∧ Rel prog w B p v
  | [], us, i, v, r, e => by simp at e
  | p :: l, us, i, v, ⟨u, us', r, r1, r2⟩, e => by
    subst r
    cases i with
    | zero => simp at e; subst e; exact ⟨u, rfl, r1⟩
    | succ i => exact relL_get' (l := l) (us := us') (i := i) r2 (by simpa using e)
theorem base_lt (I : Inv prog w GH h B ρ σ) {a : Addr} {o : Obj} (e : B a = some o) : a ≠ h.objs.size := fun q => by
  have := I.base _ _ e
  rw [q, size_none] at this; cases this
theorem src_lst {l : List PV} : Src prog w GH (.lst l) l := fun A s B ρ σ u hh I r => by
  refine x3a2 r fun x its n Z1 Z2 => ?_; clear r; obtain rfl := Z1; obtain ⟨hb, q⟩ := Z2
  have hx := I.base _ _ hb
  have hl : s.heap.IsList x its := ⟨_, hx, rfl, _, rfl⟩
  have e : its.size = l.length := by rw [← q.length]; simp
  refine wpAny_pyIter_list hl ⟨_, _, _, _, e, rfl, rfl, rfl, walks_map (Walks.list hh _ x (base_lt I hb) its) (fun i v _ hv => relL_get q (by simpa using hv)), ⟨⟨_, Heap.get?_push_size _ rfl, rfl, rfl⟩, hl.at fun o e => Heap.get?_push_of_some _ e⟩, fun b hb' => ?_, fun i h st => ?_⟩
  · simp at hb'; rcases hb' with q | q
    · exact .inl q
    · exact .inr ⟨_, q ▸ hb⟩
  · obtain ⟨o, ho, hc, hd⟩ := st.1
    exact ⟨o, ho, by unfold quietIt; rw [hc, hd]; rfl⟩
theorem src_tup {l : List PV} : Src prog w GH (.tup l) l := fun A s B ρ σ u hh I r => by
  refine x3a2 r fun x its n Z1 Z2 => ?_; clear r; obtain rfl := Z1; obtain ⟨hb, q⟩ := Z2
  have hx := I.base _ _ hb
  have hl : s.heap.IsTuple x its := ⟨_, hx, rfl, _, rfl⟩
  have e : its.size = l.length := by rw [← q.length]; simp
  refine wpAny_pyIter_tuple hl ⟨_, _, _, _, e, rfl, rfl, rfl, walks_map (Walks.tuple hh _ x (base_lt I hb) its) (fun i v _ hv => relL_get q (by simpa using hv)), ⟨⟨_, Heap.get?_push_size _ rfl, rfl, rfl⟩, ⟨_, Heap.get?_push_of_some _ hx, rfl, _, rfl⟩⟩, fun b hb' => ?_, fun i h st => ?_⟩
  · simp at hb'; rcases hb' with q | q
    · exact .inl q
    · exact .inr ⟨_, q ▸ hb⟩
  · obtain ⟨o, ho, hc, hd⟩ := st.1
    exact ⟨o, ho, by unfold quietIt; rw [hc, hd]; rfl⟩
noncomputable def rngL (a b : Int) : List PV := (List.range (b - a).toNat).map fun (i : Nat) => PV.int (a + (i : Int))
theorem rangeSize_one (a b : Int) : Builtin.Range.rangeSize a b 1 = ((b - a).toNat : Int) := by
  unfold Builtin.Range.rangeSize
  split <;> rename_i h <;> simp at * <;> omega
theorem src_rng {a b : Int} (hs : Builtin.Range.small a b 1 = true) : Src prog w GH (.rng a b) (rngL a b) := fun A s B ρ σ u hh I r => by
  refine x4a2 r fun x t u' v Z1 hb => ?_; clear r; obtain rfl := Z1
  have hx := I.base _ _ hb
  have e : (b - a).toNat = (rngL a b).length := by simp [rngL]
  refine wpAny_pyIter_range (a := a) (b := b) (c := 1) hx hs ⟨_, _, _, _, e, rfl, rfl, rfl, walks_map (Walks.range hh _ a 1 _) (fun i v hi hv => ?_), ?_, fun b hb' => .inl (List.mem_singleton.mp hb'), fun i h st => ⟨_, (show h.get? _ = some _ from st), rfl⟩⟩
  · obtain ⟨t, rfl⟩ := hv
    refine ⟨.int (a + (i : Int)), ?_, t, by rw [Int.mul_one]⟩
    unfold rngL
    rw [List.getElem?_map, List.getElem?_range hi]; rfl
  · show IsRangeIter _ _ _ _ _
    rw [rangeSize_one]
    have := Heap.get?_push_size s.heap (o := { cls := .type "range_iterator", data := .fields #[rawInt a, rawInt ((b - a).toNat : Int), rawInt 1] }) rfl
    simpa using this
theorem src_str {x : Str} : Src prog w GH (.str x) (x.cps.toList.map fun c => .str ⟨#[c]⟩) := fun A s B ρ σ u hh I r => by
  obtain ⟨t, rfl⟩ := r
  have e : (x.cps.toList.map fun c => PV.str ⟨#[c]⟩).length = x.cps.size := by simp
  have wk : ∀ {St}, Walks prog w A s.heap.objs.size [s.heap.objs.size] [s.heap.objs.size] x.cps.size (SignAt x) St → Walks prog w A s.heap.objs.size [s.heap.objs.size] [s.heap.objs.size] x.cps.size (fun i v => ∃ p, (x.cps.toList.map fun c => PV.str ⟨#[c]⟩)[i]? = some p ∧ Rel prog w B p v) St := fun W => by
    refine walks_map W fun i v hi hv => ?_
    refine x2a2 hv fun c u hc Z2 => ?_; clear hv; obtain rfl := Z2
    refine ⟨.str ⟨#[c]⟩, ?_, u, rfl⟩
    rw [List.getElem?_map]
    rw [← Array.getElem?_toList] at hc
    rw [hc]; rfl
  cases ha : x.cps.all (· < 128)
  · refine wpAny_pyIter_wide ha ⟨_, _, _, _, e.symm, rfl, rfl, rfl, wk (Walks.strWide hh _ x t), ⟨_, Heap.get?_push_size _ rfl, rfl, rfl⟩, fun b hb' => .inl (by simpa using hb'), fun i h st => ?_⟩
    obtain ⟨o, ho, hc, hd⟩ := st
    exact ⟨o, ho, by unfold quietIt; rw [hc, hd]; rfl⟩
  · refine wpAny_pyIter_ascii ha ⟨_, _, _, _, e.symm, rfl, rfl, rfl, wk (Walks.strAscii hh _ x t), ⟨_, Heap.get?_push_size _ rfl, rfl, rfl⟩, fun b hb' => .inl (by simpa using hb'), fun i h st => ?_⟩
    obtain ⟨o, ho, hc, hd⟩ := st
    exact ⟨o, ho, by unfold quietIt; rw [hc, hd]; rfl⟩
theorem src_dctI {ks : List Int} {vs : List PV} (hl : vs.length = ks.length) : Src prog w GH (.dctI ks vs) (ks.map .int) := fun A s B ρ σ u hh I r => by
  refine x3a2 r fun x o us Z1 Z2 => ?_; clear r; obtain rfl := Z1; refine x0a5 Z2 fun hn hb hd hlu q => ?_; clear Z2
  have hx := I.base _ _ hb
  refine x2a5 (id hd) fun es ep c1 c2 c3 c4 c5 => ?_
  have hAt : s.heap.DictAt (PySem.intKind prog w) x (ks.zip us) ep := ⟨o, es, hx, c1, c2, c3, c4, c5⟩
  have e : (ks.zip us).length = (ks.map PV.int).length := by simp [hlu]
  refine wpAny_pyIter_dict hn hAt ⟨_, _, _, _, e, rfl, rfl, rfl, walks_map (Walks.dictKeys hh _ x (base_lt I hb) (ks.zip us) ep) (fun i v hi hv => ?_), ⟨⟨_, Heap.get?_push_size _ rfl, rfl, rfl⟩, hAt.at' fun o e => Heap.get?_push_of_some _ e⟩, fun b hb' => ?_, fun i h st => ?_⟩
  · refine x2a2 hv fun kk xx h1 h2 => ?_; clear hv
    obtain ⟨t, rfl⟩ := Value.isInt_shape h2
    refine ⟨.int kk, ?_, t, rfl⟩
    rw [List.getElem?_map]
    have := congrArg (Option.map Prod.fst) h1
    rw [List.getElem?_zip_eq_some] at h1
    rw [h1.1]; rfl
  · simp at hb'; rcases hb' with q | q
    · exact .inl q
    · exact .inr ⟨_, q ▸ hb⟩
  · obtain ⟨o, ho, hc, hd⟩ := st.1
    exact ⟨o, ho, by unfold quietIt; rw [hc, hd]; rfl⟩
theorem src_dctS {ks : List Str} {vs : List PV} (hl : vs.length = ks.length) : Src prog w GH (.dctS ks vs) (ks.map .str) := fun A s B ρ σ u hh I r => by
  refine x3a2 r fun x o us Z1 Z2 => ?_; clear r; obtain rfl := Z1; refine x0a5 Z2 fun hn hb hd hlu q => ?_; clear Z2
  have hx := I.base _ _ hb
  refine x2a5 (id hd) fun es ep c1 c2 c3 c4 c5 => ?_
  have hAt : s.heap.DictAt (PySem.strKind prog w) x (ks.zip us) ep := ⟨o, es, hx, c1, c2, c3, c4, c5⟩
  have e : (ks.zip us).length = (ks.map PV.str).length := by simp [hlu]
  refine wpAny_pyIter_dict hn hAt ⟨_, _, _, _, e, rfl, rfl, rfl, walks_map (Walks.dictKeys hh _ x (base_lt I hb) (ks.zip us) ep) (fun i v hi hv => ?_), ⟨⟨_, Heap.get?_push_size _ rfl, rfl, rfl⟩, hAt.at' fun o e => Heap.get?_push_of_some _ e⟩, fun b hb' => ?_, fun i h st => ?_⟩
  · refine x2a2 hv fun kk xx h1 h2 => ?_; clear hv
    obtain ⟨t, rfl⟩ := Value.isStrOf_shape h2
    refine ⟨.str kk, ?_, t, rfl⟩
    rw [List.getElem?_map]
    rw [List.getElem?_zip_eq_some] at h1
    rw [h1.1]; rfl
  · simp at hb'; rcases hb' with q | q
    · exact .inl q
    · exact .inr ⟨_, q ▸ hb⟩
  · obtain ⟨o, ho, hc, hd⟩ := st.1
    exact ⟨o, ho, by unfold quietIt; rw [hc, hd]; rfl⟩
end
section
variable {prog : Program} {w : World} {GH : Heap} {mg mb : Str → Option Value} {A : Around} {env : Env} {s : Shared} {h h' : Heap} {B B' : FB} {ρ ρ' : List Addr} {σ : List MO} {sc : Scope} {k : Nat} {V : VEnv} {e : Expr}
structure Untold (a : Addr) (h : Heap) (B : FB) (ρ : List Addr) : Prop where
  live : ∃ o, h.get? a = some o
  out : a ∉ ρ
  base : B a = none
theorem Untold.keep {a : Addr} {o : Obj} {wr : List Addr} (U : Untold a h B ρ) (S : Step wr h B ρ h' B' ρ') (ha : a ∉ wr) (ho : h.get? a = some o) : h'.get? a = some o := S.keep a o ho ha U.out
theorem Untold.step {a : Addr} {wr : List Addr} (U : Untold a h B ρ) (S : Step wr h B ρ h' B' ρ') : Untold a h' B' ρ' := by
  obtain ⟨o, ho⟩ := U.live
  obtain ⟨ν, rfl, hν⟩ := S.ext
  refine ⟨S.live a o ho, fun q => ?_, ?_⟩
  · rcases List.mem_append.mp q with q | q
    · exact U.out q
    · rw [hν a q] at ho; cases ho
  · cases e : B' a with
    | none => rfl
    | some o' =>
      rcases S.new a o' e with z | z | z
      · rw [U.base] at z; cases z
      · rw [z] at ho; cases ho
      · exact absurd z U.out
theorem Inv.quiet {wr : List Addr} (I : Inv prog w GH h B ρ σ) (hu : ∀ a ∈ wr, Untold a h B ρ) (hk : ∀ b o, b ∉ wr → h.get? b = some o → h'.get? b = some o) (hl : ∀ a ∈ wr, ∃ o, h'.get? a = some o) :
    Inv prog w GH h' B ρ σ ∧ Step wr h B ρ h' B ρ := by
  refine ⟨⟨I.top, fun b o e => hk _ _ (fun q => by rw [(hu b q).base] at e; cases e) (I.base _ _ e), I.nodup, I.high, I.len, fun i b m e1 e2 => ?_⟩,
    ⟨FB.le.refl B, fun _ _ e => .inl e, ⟨[], by simp, fun _ q => nomatch q⟩, fun b o e q _ => hk _ _ q e, fun b o' e => ?_⟩⟩
  · obtain ⟨z, Z1⟩ := I.store i b m e1 e2; refine x1a2 Z1 fun o' ho' r => ?_; clear Z1
    exact ⟨z, o', hk _ _ (fun q => (hu b q).out (List.mem_of_getElem? e1)) ho', r⟩
  · by_cases q : b ∈ wr
    · exact hl b q
    · exact ⟨o', hk _ _ q e⟩
theorem Inv.quiet' {wr : List Addr} (I : Inv prog w GH h B ρ σ) (hu : ∀ a ∈ wr, Untold a h B ρ) (hk : ∀ b o, b ∉ wr → h.get? b = some o → h'.get? b = some o) : Inv prog w GH h' B ρ σ :=
  ⟨I.top, fun b o e => hk _ _ (fun q => by rw [(hu b q).base] at e; cases e) (I.base _ _ e), I.nodup, I.high, I.len, fun i b m e1 e2 => by
    obtain ⟨z, Z1⟩ := I.store i b m e1 e2; refine x1a2 Z1 fun o' ho' r => ?_; clear Z1
    exact ⟨z, o', hk _ _ (fun q => (hu b q).out (List.mem_of_getElem? e1)) ho', r⟩⟩
theorem Step.done {wr wr' : List Addr} {h₁ : Heap} (S : Step wr h B ρ h' B' ρ') (hn : ∀ a ∈ wr', h.get? a = none) (hk : ∀ b o, b ∉ wr' → h'.get? b = some o → h₁.get? b = some o) : Step wr h B ρ h₁ B' ρ' := by
  have out : ∀ b o, h.get? b = some o → b ∉ wr' := fun b o e q => by rw [hn b q] at e; cases e
  exact ⟨S.le, S.new, S.ext, fun b o e hw hr => hk _ _ (out b o e) (S.keep b o e hw hr), fun b o e => let ⟨o', ho'⟩ := S.live b o e; ⟨o', hk _ _ (out b o e) ho'⟩⟩
theorem FrOk.quiet' {wr : List Addr} (F : FrOk prog w GH sc env h B ρ V) (hw : ∀ b ∈ wr, b ∉ wrOf env) (hk : ∀ b o, b ∉ wr → h.get? b = some o → h'.get? b = some o) : FrOk prog w GH sc env h' B ρ V := by
  have hL' : env.locals ∉ wr := fun q => hw _ q (List.mem_cons_self ..)
  have hC' : ∀ x c, env.cells.lookup x = some c → c ∉ wr := fun x c hc q => hw _ q (wrOf_cell hc)
  obtain ⟨m, hn, hm⟩ := F.loc
  refine ⟨F.scope, F.kind, F.globals, F.builtins, ⟨m, hn.at' fun o e => hk _ _ hL' e, hm⟩, fun x v hv hx => ?_, fun x c hc => ?_, F.apart, F.allc, F.own⟩
  · refine x2a3 (F.cel x v hv hx) fun c u hc Z1 r => ?_; obtain ⟨o, ho, hd⟩ := Z1
    exact ⟨c, u, hc, ⟨o, hk _ _ (hC' x c hc) ho, hd⟩, r⟩
  · obtain ⟨⟨u, o, ho, hd⟩, h1⟩ := F.cells x c hc
    exact ⟨⟨u, o, hk _ _ (hC' x c hc) ho, hd⟩, h1⟩
noncomputable def Tgt (prog : Program) (w : World) (GH : Heap) (sc : Scope) (t : Expr) (v : AV) (V V' : VEnv) : Prop :=
  ∀ A env s B ρ σ u, A.handled = none → FrOk prog w GH sc env s.heap B ρ V → Inv prog w GH s.heap B ρ σ → RelA prog w B ρ v u →
    wpAny (model prog w) A (assign t env u) (fun _ => After (wrOf env) s B ρ fun s' B' ρ' => Inv prog w GH s'.heap B' ρ' σ ∧ FrOk prog w GH sc env s'.heap B' ρ' V') (fun _ _ => False) s
theorem g_name {x : Str} {p : Pos} {v : AV} (hk : isVar sc x = true) : Tgt prog w GH sc (.Name x p) v V ((x, v) :: V) := fun A env s B ρ σ u hh F I r => wpAny_assign_Name (st_ok F I r hk)
noncomputable def TgtL (prog : Program) (w : World) (GH : Heap) (sc : Scope) : List Expr → List PV → VEnv → VEnv → Prop
  | [], [], V, V' => V' = V
  | t :: ts, p :: ps, V, V' => (∀ a q, t ≠ .Starred a q) ∧ ∃ V₁, Tgt prog w GH sc t (.pv p) V V₁ ∧ TgtL prog w GH sc ts ps V₁ V'
  | _, _, _, _ => False
theorem tgt_each {t : Expr} {ts : List Expr} (ht : ∀ a q, t ≠ .Starred a q) : assignEach (t :: ts) env = (false, assign t env) :: assignEach ts env := by
  cases t <;> first | rfl | exact absurd rfl (ht _ _)
theorem TgtL.star {ts : List Expr} : ∀ {ps : List PV} {V V' : VEnv} {env : Env}, TgtL prog w GH sc ts ps V V' → (assignEach ts env).findIdx? (·.1) = none ∧ (assignEach ts env).length = ps.length := by
  induction ts with
  | nil =>
    intro ps V V' env h
    cases ps with
    | nil => exact ⟨rfl, rfl⟩
    | cons p ps => exact h.elim
  | cons t ts ih =>
    intro ps V V' env h
    cases ps with
    | nil => exact h.elim
    | cons p ps =>
      obtain ⟨V₁, _, h'⟩ := h.2
      rw [tgt_each h.1]
      have hi := ih (env := env) h'
      exact ⟨by rw [List.findIdx?_cons, hi.1]; rfl, congrArg (· + 1) hi.2⟩
theorem TgtL.go {ts : List Expr} : ∀ {ps : List PV} {us : List Value} {V V' : VEnv} {s : Shared} {B : FB} {ρ : List Addr}, TgtL prog w GH sc ts ps V V' → A.handled = none → FrOk prog w GH sc env s.heap B ρ V → Inv prog w GH s.heap B ρ σ → RelL prog w B ps us →
    wpAny (model prog w) A (assignInOrder ((assignEach ts env).map (·.2)) us) (fun _ => After (wrOf env) s B ρ fun s' B' ρ' => Inv prog w GH s'.heap B' ρ' σ ∧ FrOk prog w GH sc env s'.heap B' ρ' V') (fun _ _ => False) s := by
  induction ts with
  | nil =>
    intro ps us V V' s B ρ h hh F I r
    cases ps with
    | nil =>
      cases (show us = [] from r); cases (show V' = V from h)
      exact wpAny_pure (After.here ⟨I, F⟩)
    | cons p ps => exact h.elim
  | cons t ts ih =>
    intro ps us V V' s B ρ h hh F I r
    cases ps with
    | nil => exact h.elim
    | cons p ps =>
      refine x2a3 r fun u us' e r1 r2 => x1a2 h.2 fun V₁ h1 h2 => ?_
      subst e
      rw [tgt_each h.1]
      refine wpAny_bind (m := holding us' (assign t env u)) (wpAny_holding (wpAny_mono (h1 A env s B ρ σ u hh F I r1) (fun _ s₁ x => ?_) fun _ _ x => x))
      exact x2a4 x fun B₁ ρ₁ sm S I₁ F₁ => wpAny_mono (ih h2 hh F₁ I₁ (r2.mono prog w S.le)) (fun _ s₂ y => After.trans sm S (fun _ z => .inl z) y) fun _ _ x => x
theorem g_tup {ts : List Expr} {ps : List PV} {n : Nat} {p : Pos} {V' : VEnv} (hl : TgtL prog w GH sc ts ps V V') : Tgt prog w GH sc (.Tuple ts n p) (.pv (.tup ps)) V V' := fun A env s B ρ σ u hh F I r => by
  refine x3a2 r fun a its n Z1 Z2 => ?_; clear r; obtain rfl := Z1; obtain ⟨hb, rl⟩ := Z2
  have ha := I.base _ _ hb
  obtain ⟨h1, h2⟩ := hl.star (env := env)
  have e := rl.length
  refine wpAny_assign_Tuple hh ⟨_, ha, rfl, _, rfl⟩ (by rw [h2, ← e]; simp) h1 fun h' hx => ?_
  have keep : ∀ b o, s.heap.get? b = some o → h'.get? b = some o := fun b o e => hx b o (fun q => by rw [q, size_none] at e; cases e) e
  obtain ⟨I', S'⟩ := I.grown keep
  exact wpAny_mono (hl.go (s := { s with heap := h' }) hh (F.step (S' [])) I' rl) (fun _ s₂ y => After.trans ⟨_, s.toks, rfl⟩ (S' _) (fun _ z => .inl z) y) fun _ _ x => x
theorem go_quiet {t : Expr} {I : Addr} {o : Obj} {v : Value} {Q : Unit → Shared → Prop} {E : Value → Shared → Prop} (ho : s.heap.get? I = some o) (hq : quietIt o = true) (h : Q () s) :
    wpAny (model prog w) A (letOwnedTupleGo t (.ref I) v) Q E s := by
  have key : ∀ a : Addr, wpAny (model prog w) A (do
      let o ← load I
      match o.cls, o.data with
      | .type n, .fields vs =>
        if ["enumerate", "zip", "dict_itemiterator", "dict_reverseitemiterator", "odict_iterator", "itertools.zip_longest", "itertools.pairwise"].contains n && vs[0]? == some (rawInt a) then
          rule "for.unpacks-the-owned-tuple"
          updateField I 0 .none
      | _, _ => pure ()) Q E s := fun a => by
    refine wpAny_bind (wpAny_load ho ?_)
    obtain ⟨c, di, da, sl⟩ := o
    clear ho
    cases c with
    | type n =>
      cases da with
      | fields vs =>
        have hq : (!["enumerate", "zip", "dict_itemiterator", "dict_reverseitemiterator", "odict_iterator", "itertools.zip_longest", "itertools.pairwise"].contains n) = true := hq
        show wpAny _ _ (if _ then _ else _) _ _ _
        rw [if_neg (by
          intro q
          have q := (Bool.and_eq_true _ _ ▸ q).1
          rw [q] at hq; cases hq)]
        exact wpAny_pure h
      | _ => exact wpAny_pure h
    | _ => exact wpAny_pure h
  cases t with
  | Tuple => cases v <;> first | exact wpAny_pure h | exact key _
  | List => cases v <;> first | exact wpAny_pure h | exact key _
  | _ => exact wpAny_pure h
end
section
variable {prog : Program} {w : World} {GH : Heap} {mg mb : Str → Option Value} {A : Around} {env : Env} {s : Shared} {h h' : Heap} {B B' : FB} {ρ ρ' : List Addr} {σ : List MO} {sc : Scope} {k : Nat} {V : VEnv} {e : Expr}
theorem AsS.trans {s s' s'' : Shared} (a : AsS s s') (b : AsS s' s'') : AsS s s'' := by
  obtain ⟨h, t, rfl⟩ := a; obtain ⟨h', t', rfl⟩ := b; exact ⟨h', t', rfl⟩
theorem FrOk.live {a : Addr} (F : FrOk prog w GH sc env h B ρ V) (ha : a ∈ wrOf env) : ∃ o, h.get? a = some o := by
  rcases wrOf_cases ha with q | ⟨x, hc⟩
  · obtain ⟨m, hn, _⟩ := F.loc
    obtain ⟨o, _, _, ho, _⟩ := id hn
    exact ⟨o, q ▸ ho⟩
  · obtain ⟨⟨u, o, ho, _⟩, _⟩ := F.cells x a hc
    exact ⟨o, ho⟩
noncomputable def LoopQ (J : VEnv → List MO → Prop) (Q : Fl → VEnv → List MO → Prop) : Fl → VEnv → List MO → Prop
  | .next, V, σ => J V σ
  | .ret v, V, σ => Q (.ret v) V σ
theorem lt_left {n i : Nat} (hi : i < n) : n + 1 - (i + 1) < n + 1 - i := Nat.sub_lt_sub_left (Nat.lt_succ_of_lt hi) (Nat.lt_succ_self i)
theorem one_of {P : Addr → Prop} {c : Addr} (hp : P c) : ∀ b ∈ [c], P b := fun b hb => List.mem_singleton.mp hb ▸ hp
inductive FI (prog : Program) (w : World) (GH : Heap) (sc : Scope) (env : Env) (s : Shared) (B : FB) (ρ wr : List Addr) (n : Nat) (St : Nat → Heap → Prop) (J : Nat → VEnv → List MO → Prop) (B₁ : FB) (m : Nat) (s' : Shared) : Prop
  | mk (i : Nat) (B' : FB) (ρ' : List Addr) (V' : VEnv) (σ' : List MO) (hi : i ≤ n) (hm : m = n + 1 - i) (sm : AsS s s') (S : Step (wrOf env) s.heap B ρ s'.heap B' ρ') (U : ∀ b ∈ wr, Untold b s'.heap B' ρ') (st : St i s'.heap) (I' : Inv prog w GH s'.heap B' ρ' σ') (F' : FrOk prog w GH sc env s'.heap B' ρ' V') (hJ : J i V' σ') (le : B₁.le B')
inductive FT (prog : Program) (w : World) (GH : Heap) (A : Around) (sc : Scope) (k : Nat) (env : Env) (wr : List Addr) (t : Expr) (v : Value) (body : List Stmt) (J : VEnv → List MO → Prop) (Q : Fl → VEnv → List MO → Prop) (St : Heap → Prop) (s' : Shared) (B' : FB) (ρ' : List Addr) (σ' : List MO) (s₁ : Shared) : Prop
  | mk (h₁ : Heap) (tk : Tok) (V'' : VEnv) (e : s₁ = { s' with heap := h₁, toks := tk }) (st : St h₁) (I₁ : Inv prog w GH h₁ B' ρ' σ') (S₁ : Step wr s'.heap B' ρ' h₁ B' ρ')
    (ht : wpAny (model prog w) A (assign t env v) (fun _ s₂ => ∃ B₃ ρ₃, AsS s₁ s₂ ∧ Step (wrOf env) s₁.heap B' ρ' s₂.heap B₃ ρ₃ ∧ Inv prog w GH s₂.heap B₃ ρ₃ σ' ∧ FrOk prog w GH sc env s₂.heap B₃ ρ₃ V'') (fun _ _ => False) s₁) (hb : SOk prog w GH sc k body V'' σ' (LoopQ J Q))
theorem loop_gen {t : Expr} {it : Value} {body : List Stmt} {Q : Fl → VEnv → List MO → Prop} {wr : List Addr} {n : Nat} {St : Nat → Heap → Prop} {J : Nat → VEnv → List MO → Prop} {B₁ : FB} {s₂ : Shared} {R : Result → Shared → Prop} (Rm : Room k A)
    (hR : ∀ f s', After (wrOf env) s B ρ (fun s' B' ρ' => ∃ fl V' σ', Inv prog w GH s'.heap B' ρ' σ' ∧ FrOk prog w GH sc env s'.heap B' ρ' V' ∧ FlRel prog w B' ρ' fl f ∧ Q fl V' σ') s' → R (.ok f) s')
    (hn : ∀ b ∈ wr, s.heap.get? b = none) (hw : ∀ b ∈ wr, b ∉ wrOf env)
    (hfr' : ∀ (B' : FB) h₁ h₂ i, B₁.le B' → (∀ b o, B' b = some o → h₂.get? b = some o) → (∀ b o, B' b = some o → h₁.get? b = some o) → (∀ b ∈ wr, ∀ o, h₁.get? b = some o → h₂.get? b = some o) → St i h₁ → St i h₂)
    (turn : ∀ i B' ρ' V' σ' (s' : Shared), i < n → St i s'.heap → (∀ b ∈ wr, Untold b s'.heap B' ρ') → Inv prog w GH s'.heap B' ρ' σ' → FrOk prog w GH sc env s'.heap B' ρ' V' → J i V' σ' → B₁.le B' →
      wpAny (model prog w) A (pyNext it) (fun r s₁ => ∃ v, r = some v ∧ wpAny (model prog w) A (letOwnedTupleGo t it v) (fun _ s₁ => FT prog w GH A sc k env wr t v body (J (i + 1)) Q (St (i + 1)) s' B' ρ' σ' s₁) (fun _ _ => False) s₁) (fun _ _ => False) s')
    (done : ∀ (s' : Shared), St n s'.heap → wpAny (model prog w) A (pyNext it) (fun r s₁ => r = none ∧ ∃ h₁ tk, s₁ = { s' with heap := h₁, toks := tk } ∧ ∀ b o, b ∉ wr → s'.heap.get? b = some o → h₁.get? b = some o) (fun _ _ => False) s')
    (fin : ∀ V' σ', J n V' σ' → Q .next V' σ') (init : FI prog w GH sc env s B ρ wr n St J B₁ (n + 1) s₂) : codeAny (model prog w) A (.forLoop t it body [] env) R s₂ := by
  refine codeAny_forLoop_any (FI prog w GH sc env s B ρ wr n St J B₁) ?_ (n + 1) init
  rintro m s' ⟨i, B', ρ', V', σ', hi, rfl, sm, S, U, st, I', F', hJ, le⟩
  by_cases hlt : i < n
  · refine wpAny_mono (turn i B' ρ' V' σ' s' hlt st U I' F' hJ le) (fun r s₁ x => ?_) fun _ _ x => x.elim
    obtain ⟨v, rfl, x⟩ := x
    refine wpAny_mono x (fun _ s₁ x => ?_) fun _ _ x => x.elim
    obtain ⟨h₁, tk₁, V'', rfl, st₁, I₁, S₁, ht, hb⟩ := x
    refine wpAny_mono ht (fun _ s₃ x => ?_) fun _ _ x => x.elim
    refine x2a4 x fun B₃ ρ₃ sm₃ S₃ I₃ F₃ => ?_
    clear x
    refine wpAny_mono (hb A env s₃ B₃ ρ₃ Rm F₃ I₃) (fun f s₄ y => ?_) fun _ _ x => x.elim
    refine x2a3 y fun B₄ ρ₄ sm₄ S₄ => ?_; clear y; intro y
    refine x3a4 y fun fl V₄ σ₄ I₄ F₄ rf hq₄ => ?_
    have Sb := S₃.trans (fun _ z => .inl z) S₄
    have St' : Step (wrOf env) s.heap B ρ s₄.heap B₄ ρ₄ := (S.trans (fun b hb => .inr (hn b hb)) S₁).trans (fun _ z => .inl z) Sb
    have smt : AsS s s₄ := (sm.trans ⟨h₁, tk₁, rfl⟩).trans (AsS.trans sm₃ sm₄)
    cases fl with
    | next =>
      cases (show f = .next from rf)
      exact ⟨_, lt_left hlt, i + 1, B₄, ρ₄, V₄, σ₄, hlt, rfl, smt, St', fun b hb => ((U b hb).step S₁).step Sb, hfr' B' h₁ s₄.heap (i + 1) le (fun b o e => I₄.base _ _ (Sb.le _ _ e)) I₁.base (fun b hb o e => ((U b hb).step S₁).keep Sb (hw b hb) e) st₁, I₄, F₄, hq₄, le.trans Sb.le⟩
    | ret v =>
      refine x1a2 rf fun uv e rv => ?_
      subst e
      exact hR _ _ ⟨B₄, ρ₄, smt, St', .ret v, V₄, σ₄, I₄, F₄, ⟨uv, rfl, rv⟩, hq₄⟩
  · have hin : i = n := Nat.le_antisymm hi (Nat.le_of_not_lt hlt)
    subst hin
    refine wpAny_mono (done s' st) (fun r s₁ x => ?_) fun _ _ x => x.elim
    refine x0a2 x fun e y => ?_
    subst e
    refine x2a2 y fun h₁ tk₁ e hk₁ => ?_
    subst e
    exact wpAny_execs_nil (hR _ _ ⟨B', ρ', sm.trans ⟨h₁, tk₁, rfl⟩, S.done hn hk₁, .next, V', σ', I'.quiet' U hk₁, F'.quiet' hw hk₁, rfl, fin V' σ' hJ⟩)
theorem live_none {b : Addr} {wr : List Addr} (S : Step wr h B ρ h' B' ρ') (q : h'.get? b = none) : h.get? b = none := by
  cases e : h.get? b with
  | none => rfl
  | some o => obtain ⟨o', ho'⟩ := S.live _ o e; rw [q] at ho'; cases ho'
theorem x_for {t iter : Expr} {body : List Stmt} {pos : Pos} {Q : Fl → VEnv → List MO → Prop}
    (h : EOk prog w GH sc k iter V σ fun v σ₁ => ∃ p l, v = .pv p ∧ Src prog w GH p l ∧ ∃ J : Nat → VEnv → List MO → Prop, J 0 V σ₁ ∧
      (∀ i q V' σ', l[i]? = some q → J i V' σ' → ∃ V'', Tgt prog w GH sc t (.pv q) V' V'' ∧ SOk prog w GH sc k body V'' σ' (LoopQ (J (i + 1)) Q)) ∧ (∀ V' σ', J l.length V' σ' → Q .next V' σ'))
    (hs : ∀ env x, foldedSetIterable iter env x = pure x := by intro _ _; rfl) : XOk prog w GH sc k (.For t iter body [] pos) V σ Q := fun A env s B ρ R F I =>
  wpAny_For (h.go R F I fun u s₁ B₁ ρ₁ v σ₁ a r hv => by
    refine x2a3 hv fun p l ev src hv => x1a3 hv fun J h0 step fin => ?_
    subst ev
    refine wpAny_mono (src A s₁ B₁ ρ₁ σ₁ u R.handled a.inv r) (fun it s₂ hs₂ => ?_) fun _ _ x => x.elim
    refine x4a8 hs₂ fun o fp St n hn e1 e2 hfr W hst0 hfp hqu => ?_
    clear hs₂
    subst e1 e2
    refine x0a2 (a.inv.grown (h' := s₁.heap.push o) (push_keeps _ _)) fun I₂ S₂ => ?_
    have hI0 : s₁.heap.get? s₁.heap.objs.size = none := size_none _
    have hIs := live_none a.step hI0
    have hIw : s₁.heap.objs.size ∉ wrOf env := fun q => by
      obtain ⟨o', ho'⟩ := F.live q
      rw [hIs] at ho'; cases ho'
    have oI : (s₁.heap.push o).get? s₁.heap.objs.size = some o := Heap.get?_push_size _ hfr
    generalize s₁.heap.objs.size = I0 at *
    have U0 : Untold I0 (s₁.heap.push o) B₁ ρ₁ := ⟨⟨o, oI⟩, a.inv.none_notin hI0, a.inv.none_base hI0⟩
    refine loop_gen (St := St) (wr := [I0]) (n := n) (J := J) (B₁ := B₁) R (fun _ _ x => x) (one_of hIs) (one_of hIw) (fun B' h₁ h₂ i le hb2 hb1 hk st => W.frame i h₁ h₂ st fun b hb o' e => ?_) (fun i B' ρ' V' σ' s' hlt st U I' F' hJ le => ?_)
      (fun s' st => W.done _ _ _ st fun h₁ tk₁ hk₁ => ⟨rfl, h₁, tk₁, rfl, hk₁⟩) (fun V' σ' hJ => fin V' σ' (hn ▸ hJ))
      ⟨0, B₁, ρ₁, V, σ₁, Nat.zero_le _, rfl, a.same.trans ⟨_, s₁.toks, rfl⟩, (a.step.weaken fun _ q => nomatch q).trans (fun _ q => .inl q) (S₂ (wrOf env)), one_of U0, hst0, I₂, (a.fr F).step (S₂ []), h0, FB.le.refl _⟩
    · rcases hfp b hb with q | ⟨o'', q⟩
      · subst q; exact hk b (List.mem_singleton_self _) o' e
      · have e1 := hb1 b o'' (le _ _ q)
        rw [e] at e1; cases e1
        exact hb2 b o' (le _ _ q)
    · refine W.item i _ _ _ hlt st fun v h₁ tk₁ hp st₁ hk₁ => ⟨v, rfl, ?_⟩
      refine x1a2 hp fun q hq hrel => x1a2 (hqu _ _ st₁) fun oI hoI hqI => x0a2 (I'.quiet (wr := [I0]) (h' := h₁) U hk₁ (one_of ⟨oI, hoI⟩)) fun I₁ S₁ => x1a2 (step i q V' σ' hq hJ) fun V'' ht hbody => go_quiet hoI hqI ?_
      exact ⟨h₁, tk₁, V'', rfl, st₁, I₁, S₁, ht A env { s' with heap := h₁, toks := tk₁ } B' ρ' σ' v R.handled (F'.stepW S₁ (one_of hIw)) I₁ (hrel.mono prog w le), hbody⟩) (hs env)
end
noncomputable def relS (sc scope : Scope) : Scope :=
  { scope with names := scope.names.map fun (n, k) => if (k == .free && sc.kind == .function && sc.names.lookup n == some .cell) then (n, .cell) else (n, k) }
noncomputable def clOf (cells : List (Str × Addr)) : List (Str × NameKind) → List (Str × Addr) → List (Str × Addr)
  | [], acc => acc
  | (n, k) :: r, acc => if k == .free then (match cells.lookup n with | some c => clOf cells r ((n, c) :: acc) | none => clOf cells r acc) else clOf cells r acc
noncomputable def compV (scope : Scope) (V : VEnv) : VEnv := V.filter fun p => scope.names.lookup p.1 == some .free
noncomputable def compOk (sc scope : Scope) : Bool :=
  scope.names.all (fun p => p.2 != .cell && (p.2 != .free || (sc.names.lookup p.1 == some .cell && scope.names.lookup p.1 == some .free)) && (p.2 != .local || scope.names.lookup p.1 == some .local)) && scope.kind == .function &&
    decide ((scope.names.filter fun p => p.2 == .free).map (·.1)).Nodup
theorem lookup_filter {p : Str → Bool} : ∀ {V : VEnv} {x : Str}, (V.filter fun q => p q.1).lookup x = if p x then V.lookup x else none
  | [], x => by simp
  | (y, v) :: V, x => by
    rw [List.filter_cons]
    cases hp : p y with
    | true =>
      rw [if_pos (by simpa using hp), List.lookup_cons, List.lookup_cons]
      cases q : x == y with
      | true => rw [beq_iff_eq] at q; subst q; simp [hp]
      | false => exact lookup_filter
    | false =>
      rw [if_neg (by simp [hp]), List.lookup_cons, lookup_filter]
      cases q : x == y with
      | true => rw [beq_iff_eq] at q; subst q; simp [hp]
      | false => rfl
theorem lookup_rel {sc : Scope} : ∀ {l : List (Str × NameKind)} {x : Str}, (l.map fun (n, k) => if (k == NameKind.free && sc.kind == .function && sc.names.lookup n == some .cell) then (n, NameKind.cell) else (n, k)).lookup x =
    (l.lookup x).map fun k => if (k == NameKind.free && sc.kind == .function && sc.names.lookup x == some .cell) then .cell else k
  | [], x => rfl
  | (n, k) :: r, x => by
    have ih := @lookup_rel sc r x
    show List.lookup x ((if (k == NameKind.free && sc.kind == .function && sc.names.lookup n == some .cell) = true then (n, NameKind.cell) else (n, k)) :: _) = _
    rw [List.lookup_cons (as := r)]
    by_cases hc : (k == NameKind.free && sc.kind == .function && sc.names.lookup n == some .cell) = true
    · rw [if_pos hc, List.lookup_cons]
      cases q : x == n with
      | true => rw [beq_iff_eq] at q; subst q; simp only [Option.map_some, if_pos hc]
      | false => exact ih
    · rw [if_neg hc, List.lookup_cons]
      cases q : x == n with
      | true => rw [beq_iff_eq] at q; subst q; simp only [Option.map_some, if_neg hc]
      | false => exact ih
theorem clOf_sound {cells : List (Str × Addr)} : ∀ {l : List (Str × NameKind)} {acc : List (Str × Addr)}, (∀ p ∈ acc, cells.lookup p.1 = some p.2) → ∀ p ∈ clOf cells l acc, cells.lookup p.1 = some p.2
  | [], acc, h => h
  | (n, k) :: r, acc, h => by
    unfold clOf
    split
    · split
      · rename_i c hc
        exact clOf_sound fun p hp => by
          rcases List.mem_cons.mp hp with rfl | hp
          · exact hc
          · exact h p hp
      · exact clOf_sound h
    · exact clOf_sound h
theorem clOf_keys {cells : List (Str × Addr)} : ∀ {l : List (Str × NameKind)} {acc : List (Str × Addr)} {x : Str} {c : Addr}, cells.lookup x = some c → ((x, NameKind.free) ∈ l ∨ (x, c) ∈ acc) → (x, c) ∈ clOf cells l acc
  | [], acc, x, c, _, h => h.elim (fun q => nomatch q) id
  | (n, k) :: r, acc, x, c, hx, h => by
    unfold clOf
    rcases h with h | h
    · rcases List.mem_cons.mp h with q | q
      · cases q
        rw [if_pos (by rfl), hx]
        exact clOf_keys hx (.inr (List.mem_cons_self ..))
      · split
        · split
          · exact clOf_keys hx (.inl q)
          · exact clOf_keys hx (.inl q)
        · exact clOf_keys hx (.inl q)
    · split
      · split
        · exact clOf_keys hx (.inr (List.mem_cons_of_mem _ h))
        · exact clOf_keys hx (.inr h)
      · exact clOf_keys hx (.inr h)
theorem clOf_nodup {cells : List (Str × Addr)} : ∀ {l : List (Str × NameKind)} {acc : List (Str × Addr)}, ((l.filter fun p => p.2 == .free).map (·.1)).Nodup → (acc.map (·.1)).Nodup → (∀ x ∈ acc.map (·.1), x ∉ (l.filter fun p => p.2 == .free).map (·.1)) → ((clOf cells l acc).map (·.1)).Nodup
  | [], acc, _, h, _ => h
  | (n, k) :: r, acc, hl, h, hd => by
    unfold clOf
    by_cases hk : (k == NameKind.free) = true
    · rw [if_pos hk]
      rw [List.filter_cons, if_pos hk, List.map_cons, List.nodup_cons] at hl
      have hd' : ∀ x ∈ acc.map (·.1), x ≠ n ∧ x ∉ (r.filter fun p => p.2 == .free).map (·.1) := fun x hx => by
        have := hd x hx
        rw [List.filter_cons, if_pos hk, List.map_cons, List.mem_cons] at this
        exact ⟨fun q => this (.inl q), fun q => this (.inr q)⟩
      split
      · refine clOf_nodup hl.2 (by rw [List.map_cons, List.nodup_cons]; exact ⟨fun q => (hd' n q).1 rfl, h⟩) fun x hx => ?_
        rw [List.map_cons] at hx
        rcases List.mem_cons.mp hx with q | q
        · rw [q]; exact hl.1
        · exact (hd' x q).2
      · exact clOf_nodup hl.2 h fun x hx => (hd' x hx).2
    · rw [if_neg hk]
      rw [List.filter_cons, if_neg hk] at hl hd
      exact clOf_nodup hl h hd
noncomputable def clStep (env : Env) (x : Str × NameKind) (r : List (Str × Addr)) : Sem (ForInStep (List (Str × Addr))) :=
  if x.2 == .free then do let c ← cellOf env x.1; pure (ForInStep.yield ((x.1, c) :: r)) else pure (ForInStep.yield r)
theorem closure_of {env : Env} : ∀ (l : List (Str × NameKind)) (acc : List (Str × Addr)), (∀ p ∈ l, p.2 = .free → ∃ c, env.cells.lookup p.1 = some c) →
    forIn l acc (clStep env) = pure (clOf env.cells l acc)
  | [], acc, _ => rfl
  | (n, k) :: r, acc, h => by
    rw [List.forIn_cons]
    unfold clOf
    cases hk : (k == NameKind.free) with
    | true =>
      obtain ⟨c, hc⟩ := h (n, k) (by simp) (by simpa using hk)
      dsimp only at hc
      have e : clStep env (n, k) acc = pure (ForInStep.yield ((n, c) :: acc)) := by
        unfold clStep
        rw [if_pos (by exact hk)]
        have : cellOf env n = pure c := by unfold cellOf; rw [hc]
        dsimp only
        rw [this]; rfl
      rw [e, hc]
      exact closure_of r _ fun p hp => h p (List.mem_cons_of_mem _ hp)
    | false =>
      have e : clStep env (n, k) acc = pure (ForInStep.yield acc) := by
        unfold clStep
        rw [if_neg (by simp [hk])]
      rw [e]
      exact closure_of r _ fun p hp => h p (List.mem_cons_of_mem _ hp)
theorem closureFor_of {scope : Scope} {env : Env} (h : ∀ p ∈ scope.names, p.2 = .free → ∃ c, env.cells.lookup p.1 = some c) : closureFor scope env = pure (clOf env.cells scope.names []) := by
  have := closure_of scope.names [] h
  show (forIn scope.names [] (clStep env) >>= fun cs => pure cs) = _
  rw [this]; rfl
section
variable {prog : Program} {w : World} {GH : Heap} {mg mb : Str → Option Value} {A : Around} {env : Env} {s : Shared} {h h' : Heap} {B B' : FB} {ρ ρ' : List Addr} {σ : List MO} {sc : Scope} {k : Nat} {V : VEnv} {e : Expr}
theorem compOk_spec {sc scope : Scope} (hc : compOk sc scope = true) : (∀ p ∈ scope.names, p.2 ≠ .cell) ∧ (∀ p ∈ scope.names, p.2 = .free → sc.names.lookup p.1 = some .cell ∧ scope.names.lookup p.1 = some .free) ∧
    (∀ p ∈ scope.names, p.2 = .local → scope.names.lookup p.1 = some .local) ∧ scope.kind = .function ∧ ((scope.names.filter fun p => p.2 == .free).map (·.1)).Nodup := by
  unfold compOk at hc
  simp only [Bool.and_eq_true, List.all_eq_true, decide_eq_true_eq, beq_iff_eq] at hc
  obtain ⟨⟨h1, h2⟩, h3⟩ := hc
  refine ⟨fun p hp q => ?_, fun p hp q => ?_, fun p hp q => ?_, h2, h3⟩
  · have := (h1 p hp).1.1; rw [q] at this; simp at this
  · have := (h1 p hp).1.2; rw [q] at this; simpa using this
  · have := (h1 p hp).2; rw [q] at this; simpa using this
theorem comp_fr {scope : Scope} {C : Addr} {m : Str → Option Value} {x : Str} {v : AV} {u : Value} (F : FrOk prog w GH sc env h B ρ V) (hc : compOk sc scope = true) (hn : h.Ns C m) (U : Untold C h B ρ) (hg : GH.objs.size ≤ C) (hw : C ∉ wrOf env)
    (hx0 : scope.names.lookup x = some .local) (hm0 : m x = some u) (r0 : RelA prog w B ρ v u) :
    FrOk prog w GH (relS sc scope) (compEnvC scope (clOf env.cells scope.names []) C env) h B ρ ((x, v) :: compV scope V) := by
  refine x0a5 (compOk_spec hc) fun c1 c2 c3 c4 c5 => ?_
  have sound : ∀ x c, (clOf env.cells scope.names []).lookup x = some c → env.cells.lookup x = some c := fun x c e => clOf_sound (acc := []) (fun p hp => nomatch hp) (x, c) (mem_of_lookup e)
  have nd := clOf_nodup (cells := env.cells) (acc := []) c5 (by simp) (by simp)
  have key : ∀ x c, (x, NameKind.free) ∈ scope.names → env.cells.lookup x = some c → (clOf env.cells scope.names []).lookup x = some c := fun x c hx e => lookup_of_mem_nodup nd (clOf_keys e (.inl hx))
  have lk : ∀ x, (relS sc scope).names.lookup x = (scope.names.lookup x).map fun k => if (k == NameKind.free && sc.kind == .function && sc.names.lookup x == some .cell) then .cell else k := fun x => lookup_rel
  have hv : ∀ x v, (compV scope V).lookup x = some v → V.lookup x = some v ∧ scope.names.lookup x = some .free := fun x v e => by
    unfold compV at e
    rw [lookup_filter (p := fun y => scope.names.lookup y == some .free)] at e
    split at e
    · rename_i q; exact ⟨e, by simpa using q⟩
    · cases e
  have cellOf : ∀ x, (relS sc scope).names.lookup x = some .cell → (x, NameKind.free) ∈ scope.names := fun x e => by
    rw [lk] at e
    obtain ⟨k, hk, e⟩ := Option.map_eq_some_iff.mp e
    split at e
    · rename_i q
      have : k = .free := by simp at q; exact q.1.1
      exact this ▸ mem_of_lookup hk
    · subst e; exact absurd rfl (c1 _ (mem_of_lookup hk))
  refine ⟨?_, c4, F.globals, F.builtins, ⟨m, hn, fun x v hx hl => ?_⟩, fun x v hx hl => ?_, fun x c hx => ?_, ?_, fun x hx => ?_, ⟨U.out, U.base, hg⟩⟩
  · show relabel scope env = relS sc scope
    unfold relabel relS Env.kindOf
    rw [F.scope]
  · rename_i x₀ v₀
    by_cases q : x = x₀
    · subst q; rw [lookup_cons_eq] at hx; cases hx; exact ⟨u, hm0, r0⟩
    · rw [lookup_cons_ne q] at hx
      have := (hv x v hx).2
      rw [lk, this] at hl
      simp at hl
      split at hl <;> cases hl
  · rename_i x₀ v₀
    have q : x ≠ x₀ := fun q => by
      subst q
      have := cellOf x hl
      rw [(c2 _ this rfl).2] at hx0; cases hx0
    rw [lookup_cons_ne q] at hx
    obtain ⟨h1, h2⟩ := hv x v hx
    have q := (c2 (x, .free) (mem_of_lookup h2) rfl).1
    refine x2a3 (F.cel x v h1 q) fun c u hc hcell r => ?_
    exact ⟨c, u, key x c (mem_of_lookup h2) hc, hcell, r⟩
  · have := F.cells x c (sound x c hx)
    exact ⟨this.1, this.2.1, this.2.2.1, this.2.2.2.1, fun q => hw ((show C = c from q.symm) ▸ wrOf_cell (sound x c hx))⟩
  · show (clOf env.cells scope.names []).Pairwise _
    have : ((clOf env.cells scope.names []).map (·.1)).Nodup := nd
    have pw : (clOf env.cells scope.names []).Pairwise fun x y => x.1 ≠ y.1 := List.pairwise_map.mp this
    refine List.Pairwise.imp_of_mem (fun {x y} hx hy ne q => ne ?_) pw
    have e1 := clOf_sound (cells := env.cells) (acc := []) (fun p hp => nomatch hp) x hx
    have e2 := clOf_sound (cells := env.cells) (acc := []) (fun p hp => nomatch hp) y hy
    rw [← q] at e2
    exact name_of_addr F.apart (mem_of_lookup e1) (mem_of_lookup e2)
  · have hx' := cellOf x hx
    obtain ⟨c, hc⟩ := F.allc x (c2 _ hx' rfl).1
    exact ⟨c, key x c hx' hc⟩
noncomputable def TsOk (prog : Program) (w : World) (GH : Heap) (sc : Scope) (k : Nat) (ifs : List Expr) (V : VEnv) (σ : List MO) (Q : Bool → List MO → Prop) : Prop :=
  match ifs with
  | [] => Q true σ
  | [c] => TOk prog w GH sc k c V σ Q
  | _ => False
theorem wpAny_F {α : Type} {t : Sem α} {P : α → Shared → Prop} {E : Value → Shared → Prop} (h : wpAny (model prog w) A t P (fun _ _ => False) s) : wpAny (model prog w) A t P E s := wpAny_mono h (fun _ _ x => x) fun _ _ x => x.elim
theorem TsOk.go {ifs : List Expr} {Q : Bool → List MO → Prop} {P : Bool → Shared → Prop} (h : TsOk prog w GH sc k ifs V σ Q) (R : Room k A) (F : FrOk prog w GH sc env s.heap B ρ V) (I : Inv prog w GH s.heap B ρ σ)
    (next : ∀ b s' B' ρ' σ', At prog w GH [] s B ρ s' B' ρ' σ' → Q b σ' → P b s') :
    wpAny (model prog w) A (forIn ifs true fun c r => if r = true then do let ok ← isTrue c env (eval c env); pure (ForInStep.yield ok) else pure (ForInStep.yield r)) P (fun _ _ => False) s := by
  match ifs, h with
  | [], h => exact wpAny_tests_nil (next true s B ρ σ ⟨⟨s.heap, s.toks, rfl⟩, Step.refl .., I⟩ h)
  | [c], h => exact wpAny_tests_one (TOk.go (e := c) h R F I next)
  | _ :: _ :: _, h => exact h.elim
noncomputable def CompStep (prog : Program) (w : World) (GH : Heap) (sc scope : Scope) (k : Nat) (x : Str) (elt : Expr) (ifs : List Expr) (V : VEnv) (l : List PV) (J : Nat → List AV → List MO → Prop) : Prop :=
  ∀ i q acc σ', l[i]? = some q → J i acc σ' →
    TsOk prog w GH (relS sc scope) k ifs ((x, .pv q) :: compV scope V) σ' fun b σ₂ => (b = true → EOk prog w GH (relS sc scope) k elt ((x, .pv q) :: compV scope V) σ₂ fun v σ₃ => J (i + 1) (acc ++ [v]) σ₃) ∧ (b = false → J (i + 1) acc σ₂)
theorem relA_append {l : List AV} {us : List Value} {v : AV} {u : Value} : RelAL prog w B ρ l us → RelA prog w B ρ v u → RelAL prog w B ρ (l ++ [v]) (us ++ [u]) := by
  induction l generalizing us with
  | nil => intro h r; cases (show us = [] from h); exact ⟨u, [], rfl, r, rfl⟩
  | cons a l ih => intro ⟨u', us', e, r1, r2⟩ r; subst e; exact ⟨u', us' ++ [u], rfl, r1, ih r2 r⟩
structure CEl (prog : Program) (w : World) (GH : Heap) (sc : Scope) (env : Env) (V : VEnv) (wr : List Addr) (s : Shared) (B : FB) (ρ : List Addr) (s' : Shared) (B' : FB) (ρ' : List Addr) (σ' : List MO) : Prop where
  same : AsS s s'
  step : Step wr s.heap B ρ s'.heap B' ρ'
  inv : Inv prog w GH s'.heap B' ρ' σ'
  fr : FrOk prog w GH sc env s'.heap B' ρ' V
noncomputable def CompEl (prog : Program) (w : World) (GH : Heap) (A : Around) (sc scope : Scope) (env : Env) (x : Str) (elt : Expr) (ifs : List Expr) (V : VEnv) (wr : List Addr) (l : List PV) (J : Nat → List AV → List MO → Prop) : Prop :=
  ∀ i q acc σ' (s' : Shared) (B' : FB) (ρ' : List Addr) (cenv : Env), l[i]? = some q → J i acc σ' → FrOk prog w GH (relS sc scope) cenv s'.heap B' ρ' ((x, .pv q) :: compV scope V) → FrOk prog w GH sc env s'.heap B' ρ' V → Inv prog w GH s'.heap B' ρ' σ' →
    wpAny (model prog w) A (forIn ifs true fun c r => if r = true then do let ok ← isTrue c cenv (eval c cenv); pure (ForInStep.yield ok) else pure (ForInStep.yield r)) (fun b s₃ => ∃ B₃ ρ₃ σ₃, CEl prog w GH sc env V wr s' B' ρ' s₃ B₃ ρ₃ σ₃ ∧ (b = false → J (i + 1) acc σ₃) ∧
      (b = true → wpAny (model prog w) A (eval elt cenv) (fun y s₄ => ∃ B₄ ρ₄ σ₄ v₄, CEl prog w GH sc env V wr s₃ B₃ ρ₃ s₄ B₄ ρ₄ σ₄ ∧ RelA prog w B₄ ρ₄ v₄ y ∧ J (i + 1) (acc ++ [v₄]) σ₄) (fun _ _ => False) s₃)) (fun _ _ => False) s'
inductive CI (prog : Program) (w : World) (GH : Heap) (sc : Scope) (env : Env) (V : VEnv) (wr : List Addr) (s : Shared) (B : FB) (ρ : List Addr) (n I0 D C : Nat) (St : Nat → Heap → Prop) (J : Nat → List AV → List MO → Prop) (B₁ : FB) (m : Nat) (s' : Shared) : Prop
  | mk (i : Nat) (B' : FB) (ρ' : List Addr) (σ' : List MO) (acc : List AV) (us : Array Value) (mC : Str → Option Value) (hi : i ≤ n) (hm : m = n + 1 - i) (a : CEl prog w GH sc env V wr s B ρ s' B' ρ' σ') (UI : Untold I0 s'.heap B' ρ') (UD : Untold D s'.heap B' ρ') (UC : Untold C s'.heap B' ρ')
    (st : St i s'.heap) (hnC : s'.heap.Ns C mC) (hpl : s'.heap.PlainList D us) (racc : RelAL prog w B' ρ' acc us.toList) (hus : us.size ≤ i) (hJ : J i acc σ') (le : B₁.le B')
theorem le_line {n : Nat} (h : n ≤ 1000) : n ≤ sizeLine := by rw [sizeLine_eq]; omega
theorem relAL_step {wr : List Addr} {l : List AV} {us : List Value} (S : Step wr h B ρ h' B' ρ') (r : RelAL prog w B ρ l us) : RelAL prog w B' ρ' l us := by
  obtain ⟨ν, rfl, _⟩ := S.ext
  exact RelAL.mono prog w S.le r
theorem comp_gen {elt iter : Expr} {x : Str} {px : Pos} {ifs : List Expr} {scope : Scope} {pos cp : Pos} {Fin : List AV → List MO → Prop} {wr : List Addr} (G : GOK GH mg mb)
    (h : EOk prog w GH sc k iter V σ fun v σ₁ => ∃ p l, v = .pv p ∧ Src prog w GH p l ∧ l.length ≤ 1000 ∧ ∃ J : Nat → List AV → List MO → Prop, J 0 [] σ₁ ∧ CompEl prog w GH A sc scope env x elt ifs V wr l J ∧ ∀ acc σ', J l.length acc σ' → Fin acc σ')
    (hwr : ∀ b ∈ wr, b ∈ wrOf env) (hc : compOk sc scope = true) (hx : scope.names.lookup x = some .local) (hs : ∀ env x, foldedSetIterable iter env x = pure x)
    {use : Option (Value → Sem Unit)} {Q : Value → Shared → Prop} (R : Room k A) (F : FrOk prog w GH sc env s.heap B ρ V) (I : Inv prog w GH s.heap B ρ σ)
    (hRR : ∀ D C s' B' ρ' σ' acc us m, AsS s s' → Step wr s.heap B ρ s'.heap B' ρ' → Inv prog w GH s'.heap B' ρ' σ' → FrOk prog w GH sc env s'.heap B' ρ' V → Untold D s'.heap B' ρ' → Untold C s'.heap B' ρ' → D ≠ C → s.heap.get? D = none → s.heap.get? C = none →
      GH.objs.size ≤ D → s'.heap.Ns C m → s'.heap.PlainList D us → RelAL prog w B' ρ' acc us.toList → Fin acc σ' → compPost (model prog w) A (fun _ _ => False) use Q (.ref D) C (.ok .next) s') :
    wpAny (model prog w) A (comprehension (.ListComp elt [⟨.Name x px, iter, ifs, 0⟩] scope pos) scope env cp (newList []) false (eval iter env) use) Q (fun _ _ => False) s := by
  refine x0a5 (compOk_spec hc) fun c1 c2 c3 c4 c5 => ?_
  have hclos : closureFor scope env = pure (clOf env.cells scope.names []) := closureFor_of fun p hp e => F.allc _ (c2 p hp e).1
  refine wpAny_comprehension_free rfl (hs env) hclos c4 c3 (h.go R F I fun u s₁ B₁ ρ₁ v σ₁ a r ⟨p, l, ev, src, hl, J, h0, step, fin⟩ => ?_)
  subst ev
  refine wpAny_mono (src A s₁ B₁ ρ₁ σ₁ u R.handled a.inv r) (fun it s₂ hs₂ => ?_) fun _ _ x => x.elim
  refine x4a3 hs₂ fun o fp St n hn Z1 Z2 => ?_; clear hs₂; obtain rfl := Z1; obtain ⟨Z3, Z4⟩ := Z2; obtain rfl := Z3; refine x0a5 Z4 fun hfr W hst0 hfp hqu => ?_; clear Z4
  obtain ⟨I₂, S₂⟩ := a.inv.grown (h' := s₁.heap.push o) (push_keeps _ _)
  have big1 := a.inv.big G
  have dead1 : ∀ b, s₁.heap.objs.size ≤ b → s₁.heap.get? b = none := fun b hb => none_of_ge hb
  have dead : ∀ b, s₁.heap.objs.size ≤ b → s.heap.get? b = none := fun b hb => by
    cases q : s.heap.get? b with
    | none => rfl
    | some o => obtain ⟨o', ho'⟩ := a.step.live _ o q; rw [dead1 b hb] at ho'; cases ho'
  refine wpAny_newObj_type (wpAny_newFunctionEnv c1 (by intro y hy; simp at hy) (fun h₃ hns₃ hsb₃ => ?_) c4)
  dsimp only at hns₃ hsb₃ ⊢
  generalize hI : s₁.heap.objs.size = I0 at *
  have hD : (s₁.heap.push o).objs.size = I0 + 1 := by rw [Heap.size_push, hI]
  generalize hDD : (s₁.heap.push o).objs.size = D at *
  generalize hH2 : (s₁.heap.push o).push { cls := .type "list", dict := none, data := .seq ([] : List Value).toArray } = H2 at hns₃ hsb₃ ⊢
  have hC : H2.objs.size = D + 1 := by rw [← hH2, Heap.size_push, hDD]
  generalize hCC : H2.objs.size = C at *
  have lID : I0 ≤ D := hD ▸ Nat.le_succ _
  have lDC : D ≤ C := hC ▸ Nat.le_succ _
  have lIC : I0 ≤ C := Nat.le_trans lID lDC
  have k2 : ∀ b o', s₁.heap.get? b = some o' → b ≠ C := fun b o' e => by
    have : @LT.lt Nat _ b s₁.heap.objs.size := Heap.lt_size e
    rw [hI] at this
    exact Nat.ne_of_lt (Nat.lt_of_lt_of_le this lIC)
  have k3 : ∀ b o', b ≠ C → (s₁.heap.push o).get? b = some o' → h₃.get? b = some o' := fun b o' hb e => hsb₃.extBut b o' hb (Heap.get?_push_of_some _ (hH2 ▸ Heap.get?_push_of_some _ e))
  have keep : ∀ b o', s₁.heap.get? b = some o' → h₃.get? b = some o' := fun b o' e => k3 b o' (k2 b o' e) (push_keeps _ _ _ _ e)
  obtain ⟨I₃, S₃⟩ := a.inv.grown (h' := h₃) keep
  have ne1 : I0 ≠ C := Nat.ne_of_lt (hC ▸ Nat.lt_succ_of_le lID)
  have ne2 : I0 ≠ D := Nat.ne_of_lt (hD ▸ Nat.lt_succ_self _)
  have ne3 : D ≠ C := Nat.ne_of_lt (hC ▸ Nat.lt_succ_self _)
  have oI1 : (s₁.heap.push o).get? I0 = some o := hI ▸ Heap.get?_push_size _ hfr
  have oI : h₃.get? I0 = some o := k3 _ _ ne1 oI1
  have oD : h₃.PlainList D #[] := ⟨0, hsb₃.extBut _ _ ne3 (Heap.get?_push_of_some _ (by rw [← hH2, ← hDD]; exact Heap.get?_push_size _ rfl))⟩
  have un : ∀ b, I0 ≤ b → (∃ o, h₃.get? b = some o) → Untold b h₃ B₁ ρ₁ := fun b hb ho => ⟨ho, a.inv.none_notin (dead1 b hb), a.inv.none_base (dead1 b hb)⟩
  have hw : ∀ b, I0 ≤ b → b ∉ wrOf env := fun b hb q => by
    obtain ⟨o', ho'⟩ := F.live q
    rw [dead b hb] at ho'; cases ho'
  have hnw : ∀ b, I0 ≤ b → b ∉ wr := fun b hb q => hw b hb (hwr b q)
  have one : ∀ {P : Addr → Prop} {c : Addr}, P c → ∀ b ∈ [c], P b := fun hp b hb => List.mem_singleton.mp hb ▸ hp
  have hfr' : ∀ (B' : FB) h₁ h₂ i, B₁.le B' → (∀ b o, B' b = some o → h₂.get? b = some o) → (∀ b o, B' b = some o → h₁.get? b = some o) → (∀ o, h₁.get? I0 = some o → h₂.get? I0 = some o) → St i h₁ → St i h₂ := fun B' h₁ h₂ i le hb2 hb1 hk st =>
    W.frame i h₁ h₂ st fun b hb o' e => by
      rcases hfp b hb with q | ⟨o'', q⟩
      · subst q; exact hk o' e
      · have e1 := hb1 b o'' (le _ _ q)
        rw [e] at e1; cases e1
        exact hb2 b o' (le _ _ q)
  have st₃ : St 0 h₃ := hfr' B₁ _ h₃ 0 (FB.le.refl _) I₃.base I₂.base (fun o' e => by rw [oI1] at e; cases e; exact oI) hst0
  have loop : ∀ s₃ : Shared, AsS s s₃ → s₃.heap = h₃ → codeAny (model prog w) A (.compLoop (.ListComp elt [⟨.Name x px, iter, ifs, 0⟩] scope pos) 0 (.ref I0) (.ref D) (compEnvC scope (clOf env.cells scope.names []) C env))
      (compPost (model prog w) A (fun _ _ => False) use Q (.ref D) C) s₃ := fun s₃ sm₃ e₃ => by
    have hkC : (compEnvC scope (clOf env.cells scope.names []) C env).kindOf x = some .local := lookup_relabel_local hx
    refine codeAny_compLoop_tests
      (CI prog w GH sc env V wr s B ρ n I0 D C St J B₁) ?_ (n + 1)
      ⟨0, B₁, ρ₁, σ₁, [], #[], _, Nat.zero_le _, rfl, ⟨sm₃, e₃ ▸ (a.step.weaken (fun _ q => nomatch q)).trans (fun _ q => .inl q) (S₃ wr), e₃ ▸ I₃, e₃ ▸ (a.fr F).step (S₃ [])⟩, e₃ ▸ un I0 (Nat.le_refl _) ⟨_, oI⟩, e₃ ▸ un D lID (by obtain ⟨n, e⟩ := id oD; exact ⟨_, e⟩), e₃ ▸ un C lIC (by obtain ⟨o, _, _, e, _⟩ := id hns₃; exact ⟨o, e⟩), e₃ ▸ st₃,
        e₃ ▸ hns₃, e₃ ▸ oD, rfl, Nat.le_refl _, h0, FB.le.refl _⟩
    rintro m s' ⟨i, B', ρ', σ', acc, us, mC, hi, rfl, ⟨sm, S, I', F'⟩, UI, UD, UC, st, hnC, hpl, racc, hus, hJ, le⟩
    have nI : ∀ b, b ≠ I0 → b ∉ [I0] := fun b hb q => hb (List.mem_singleton.mp q)
    have sI : ∀ b ∈ [I0], s.heap.get? b = none := one (dead I0 (Nat.le_refl _))
    by_cases hlt : i < n
    · refine W.item i _ _ _ hlt st fun v h₁ tk₁ ⟨q, hq, hrel⟩ st₁ hk₁ => ?_
      refine x1a2 (hqu _ _ st₁) fun oI' hoI hqI => ?_
      obtain ⟨I₁, S₁⟩ := I'.quiet (wr := [I0]) (h' := h₁) (one UI) (fun b o hb e => hk₁ b o hb e) (one ⟨oI', hoI⟩)
      have hnC₁ : h₁.Ns C mC := hnC.at' fun o e => hk₁ _ o (nI C (Ne.symm ne1)) e
      refine wpAny_assign_Name (wpAny_storeName_local hkC hnC₁ (fun h₂ hn₂ hs₂ => ?_) (by simp [compEnvC, relabel, c4]))
      replace hn₂ : h₂.Ns C (fun y => if y = x then some v else mC y) := hn₂
      replace hs₂ : Heap.SameBut C h₁ h₂ := hs₂
      refine x3a2 (id hn₂) fun oC₂ _ _ hoC₂ _ => ?_
      obtain ⟨I₂', S₂'⟩ := I₁.frame (UC.step S₁).out (UC.step S₁).base hs₂ hoC₂ [C] (List.mem_singleton.mpr rfl)
      have T₂ : Step wr s.heap B ρ h₂ B' ρ' := (S.trans (fun b hb => .inr (sI b hb)) S₁).trans (one (.inr (dead C lIC))) S₂'
      have un₂ : ∀ {b}, Untold b s'.heap B' ρ' → Untold b h₂ B' ρ' := fun U => (U.step S₁).step S₂'
      have F₂ : FrOk prog w GH sc env h₂ B' ρ' V := (F'.stepW S₁ (one (hw I0 (Nat.le_refl _)))).stepW S₂' (one (hw C lIC))
      have hcF := comp_fr (C := C) (v := .pv q) (u := v) F₂ hc hn₂ (un₂ UC) (Nat.le_trans big1 lIC) (hw C lIC) hx (if_pos rfl) (hrel.mono prog w le)
      have st₂ : St (i + 1) h₂ := hfr' B' h₁ h₂ (i + 1) le I₂'.base I₁.base (fun o e => hs₂.extBut I0 o ne1 e) st₁
      have pl₂ : h₂.PlainList D us := (hpl.at fun o e => hk₁ _ o (nI D (Ne.symm ne2)) e).at fun o e => hs₂.extBut D o ne3 e
      have m1 : n + 1 - (i + 1) < n + 1 - i := Nat.sub_lt_sub_left (Nat.lt_succ_of_le hi) (Nat.lt_succ_self i)
      refine wpAny_F (wpAny_mono (step i q acc σ' { s' with heap := h₂, toks := tk₁ + 1 } B' ρ' _ hq hJ hcF F₂ I₂') (fun b s₃ hb => ?_) fun _ _ x => x)
      refine x3a2 hb fun B₃ ρ₃ σ₃ Z5 Z6 => ?_; clear hb; obtain ⟨sm₃, S₃, I₃, F₃⟩ := Z5; obtain ⟨hf, ht⟩ := Z6
      have T₃ := T₂.trans (fun _ z => .inl z) S₃
      have sm₃' : AsS s s₃ := (sm.trans ⟨h₂, _, rfl⟩).trans sm₃
      have un₃ : ∀ {b}, Untold b s'.heap B' ρ' → Untold b s₃.heap B₃ ρ₃ := fun U => (un₂ U).step S₃
      have kp₃ : ∀ {b o}, I0 ≤ b → Untold b s'.heap B' ρ' → h₂.get? b = some o → s₃.heap.get? b = some o := fun hb U e => (un₂ U).keep S₃ (hnw _ hb) e
      have le₃ := le.trans S₃.le
      have rr := relAL_step S₃ racc
      cases b with
      | false =>
        rw [if_neg Bool.false_ne_true]
        exact ⟨_, m1, i + 1, B₃, ρ₃, σ₃, acc, us, _, hlt, rfl, ⟨sm₃', T₃, I₃, F₃⟩, un₃ UI, un₃ UD, un₃ UC, hfr' B' h₂ s₃.heap (i + 1) le (fun b o e => I₃.base _ _ (S₃.le _ _ e)) I₂'.base (fun o e => kp₃ (Nat.le_refl _) UI e) st₂,
          hn₂.at' fun o e => kp₃ lIC UC e, pl₂.at fun o e => kp₃ lID UD e, rr, Nat.le_succ_of_le hus, hf rfl, le₃⟩
      | true =>
        rw [if_pos rfl]
        refine wpAny_F (wpAny_mono (ht rfl) (fun y s₄ hy => ?_) fun _ _ x => x)
        refine x4a2 hy fun B₄ ρ₄ σ₄ v₄ Z7 Z8 => ?_; clear hy; obtain ⟨sm₄, S₄, I₄, F₄⟩ := Z7; obtain ⟨r₄, hJ₄⟩ := Z8
        have un₄ : ∀ {b}, Untold b s'.heap B' ρ' → Untold b s₄.heap B₄ ρ₄ := fun U => (un₃ U).step S₄
        have kp₄ : ∀ {b o}, I0 ≤ b → Untold b s'.heap B' ρ' → h₂.get? b = some o → s₄.heap.get? b = some o := fun hb U e => (un₃ U).keep S₄ (hnw _ hb) (kp₃ hb U e)
        have pl₄ : s₄.heap.PlainList D us := pl₂.at fun o e => kp₄ lID UD e
        refine wpAny_list_append_plain (hsz := le_line (Nat.le_trans hus (Nat.le_trans hi (hn ▸ hl)))) pl₄ fun h₅ pl₅ hs₅ => ?_
        obtain ⟨nD, hoD⟩ := id pl₅
        obtain ⟨I₅, S₅⟩ := I₄.frame (un₄ UD).out (un₄ UD).base hs₅ hoD [D] (List.mem_singleton.mpr rfl)
        exact ⟨_, m1, i + 1, B₄, ρ₄, σ₄, acc ++ [v₄], us.push y, _, hlt, rfl, ⟨(sm₃'.trans sm₄).trans ⟨h₅, _, rfl⟩, (T₃.trans (fun _ z => .inl z) S₄).trans (one (.inr (dead D lID))) S₅, I₅, F₄.stepW S₅ (one (hw D lID))⟩, (un₄ UI).step S₅, (un₄ UD).step S₅, (un₄ UC).step S₅,
          hfr' B' h₂ h₅ (i + 1) le (fun b o e => I₅.base _ _ (S₄.le _ _ (S₃.le _ _ e))) I₂'.base (fun o e => hs₅.extBut I0 o ne2 (kp₄ (Nat.le_refl _) UI e)) st₂,
          (hn₂.at' fun o e => kp₄ lIC UC e).at' fun o e => hs₅.extBut C o (Ne.symm ne3) e, pl₅, by rw [Array.toList_push]; exact relA_append (relAL_step S₄ rr) r₄, by rw [Array.size_push]; exact Nat.succ_le_succ hus, hJ₄, le₃.trans S₄.le⟩
    · have hin : i = n := Nat.le_antisymm hi (Nat.le_of_not_lt hlt)
      subst hin
      refine W.done _ _ _ st fun h₁ tk₁ hk₁ => ?_
      have hk₂ : ∀ b o, b ∉ [I0] → s'.heap.get? b = some o → h₁.get? b = some o := fun b o hb e => hk₁ b o hb e
      have mv : ∀ b, b ≠ I0 → Untold b s'.heap B' ρ' → Untold b h₁ B' ρ' := fun b hb U => ⟨let ⟨o, ho⟩ := U.live; ⟨o, hk₂ _ _ (nI b hb) ho⟩, U.out, U.base⟩
      exact hRR D C { s' with heap := h₁, toks := tk₁ } B' ρ' σ' acc us mC (sm.trans ⟨h₁, tk₁, rfl⟩) (S.done sI hk₂) (I'.quiet' (wr := [I0]) (one UI) hk₂)
        (F'.quiet' (wr := [I0]) (one (hw I0 (Nat.le_refl _))) hk₂) (mv D (Ne.symm ne2) UD) (mv C (Ne.symm ne1) UC) ne3 (dead D lID) (dead C lIC) (Nat.le_trans big1 lID)
        (hnC.at' fun o e => hk₂ _ _ (nI C (Ne.symm ne1)) e) (hpl.at fun o e => hk₂ _ _ (nI D (Ne.symm ne2)) e) racc (fin acc σ' (hn ▸ hJ))
  exact codeAny_compStart_list (loop _ (a.same.trans ⟨_, _, rfl⟩) rfl) (W.self 0 _ _ _ st₃ (loop _ (a.same.trans ⟨_, _, rfl⟩) rfl))
theorem comp_go {elt iter : Expr} {x : Str} {px : Pos} {ifs : List Expr} {scope : Scope} {pos cp : Pos} {Fin : List AV → List MO → Prop} (G : GOK GH mg mb)
    (h : EOk prog w GH sc k iter V σ fun v σ₁ => ∃ p l, v = .pv p ∧ Src prog w GH p l ∧ l.length ≤ 1000 ∧ ∃ J : Nat → List AV → List MO → Prop, J 0 [] σ₁ ∧ CompStep prog w GH sc scope k x elt ifs V l J ∧ ∀ acc σ', J l.length acc σ' → Fin acc σ')
    (hc : compOk sc scope = true) (hx : scope.names.lookup x = some .local) (hs : ∀ env x, foldedSetIterable iter env x = pure x)
    {use : Option (Value → Sem Unit)} {Q : Value → Shared → Prop} (R : Room k A) (F : FrOk prog w GH sc env s.heap B ρ V) (I : Inv prog w GH s.heap B ρ σ)
    (hRR : ∀ D C s' B' ρ' σ' acc us m, AsS s s' → Step [] s.heap B ρ s'.heap B' ρ' → Inv prog w GH s'.heap B' ρ' σ' → FrOk prog w GH sc env s'.heap B' ρ' V → Untold D s'.heap B' ρ' → Untold C s'.heap B' ρ' → D ≠ C → s.heap.get? D = none → s.heap.get? C = none →
      GH.objs.size ≤ D → s'.heap.Ns C m → s'.heap.PlainList D us → RelAL prog w B' ρ' acc us.toList → Fin acc σ' → compPost (model prog w) A (fun _ _ => False) use Q (.ref D) C (.ok .next) s') :
    wpAny (model prog w) A (comprehension (.ListComp elt [⟨.Name x px, iter, ifs, 0⟩] scope pos) scope env cp (newList []) false (eval iter env) use) Q (fun _ _ => False) s :=
  comp_gen G (EOk.mono h fun v σ₁ ⟨p, l, e, src, hl, J, h0, step, fin⟩ => ⟨p, l, e, src, hl, J, h0, fun i q acc σ' s' B' ρ' cenv hq hJ Fc F' I' =>
      TsOk.go (step i q acc σ' hq hJ) R Fc I' fun b s₃ B₃ ρ₃ σ₃ a₃ hb => ⟨B₃, ρ₃, σ₃, ⟨a₃.same, a₃.step, a₃.inv, a₃.fr F'⟩, hb.2, fun e =>
        (hb.1 e).go R (a₃.fr Fc) a₃.inv fun y s₄ B₄ ρ₄ v₄ σ₄ a₄ r₄ hJ₄ => ⟨B₄, ρ₄, σ₄, v₄, ⟨a₄.same, a₄.step, a₄.inv, a₄.fr (a₃.fr F')⟩, r₄, hJ₄⟩⟩, fin⟩) (fun _ m => nomatch m) hc hx hs R F I hRR
end
section
variable {prog : Program} {w : World} {GH : Heap} {mg mb : Str → Option Value} {A : Around} {env : Env} {s : Shared} {h h' : Heap} {B B' B'' : FB} {ρ ρ' : List Addr} {σ : List MO} {sc : Scope} {k : Nat} {V : VEnv} {e : Expr}
theorem Inv.tellB {D : Addr} {o : Obj} (I : Inv prog w GH h B ρ σ) (U : Untold D h B ρ) (ho : h.get? D = some o) : Inv prog w GH h (B.put D o) ρ σ := by
  have le : B.le (B.put D o) := FB.le_put U.base
  refine ⟨fun b o' e => le _ _ (I.top _ _ e), fun b o' e => ?_, I.nodup, I.high, I.len, fun i b m e1 e2 => ?_⟩
  · unfold FB.put at e
    split at e
    · rename_i q; subst q; cases e; exact ho
    · exact I.base _ _ e
  · obtain ⟨q, Z1⟩ := I.store i b m e1 e2; refine x1a2 Z1 fun o' ho' r => ?_; clear Z1
    refine ⟨fun z => ?_, o', ho', ?_⟩
    · unfold FB.put
      rw [if_neg (fun (y : b = D) => U.out (y ▸ List.mem_of_getElem? e1))]; exact q z
    · have := r.mono prog w le (ν := []); rwa [List.append_nil] at this
theorem Inv.tellO {D : Addr} {o : Obj} {m : MO} (I : Inv prog w GH h B ρ σ) (U : Untold D h B ρ) (ho : h.get? D = some o) (hg : GH.objs.size ≤ D) (hm : MRel prog w B (ρ ++ [D]) o m) : Inv prog w GH h B (ρ ++ [D]) (σ ++ [m]) := by
  refine ⟨I.top, I.base, ?_, fun b hb => ?_, by simp [I.len], fun i b m' e1 e2 => ?_⟩
  · exact List.nodup_append.mpr ⟨I.nodup, by simp, fun x hx y hy e => by rw [List.mem_singleton.mp hy] at e; exact U.out (e ▸ hx)⟩
  · rcases List.mem_append.mp hb with q | q
    · exact I.high b q
    · rw [List.mem_singleton.mp q]; exact hg
  · rcases Nat.lt_trichotomy i ρ.length with q | q | q
    · rw [List.getElem?_append_left q] at e1
      rw [List.getElem?_append_left (I.len ▸ q)] at e2
      obtain ⟨z, Z1⟩ := I.store i b m' e1 e2; refine x1a2 Z1 fun o' ho' r => ?_; clear Z1
      exact ⟨z, o', ho', r.mono prog w (FB.le.refl B)⟩
    · subst q
      rw [I.len] at e2
      rw [List.getElem?_append_right (Nat.le_refl _)] at e1
      rw [List.getElem?_append_right (Nat.le_refl _)] at e2
      simp at e1 e2
      subst e1; subst e2
      exact ⟨fun _ => U.base, o, ho, hm⟩
    · rw [List.getElem?_eq_none (by simp; omega)] at e1; cases e1
theorem FrOk.tell {D : Addr} {ν : List Addr} (F : FrOk prog w GH sc env h B ρ V) (le : B.le B'') (hB : ∀ a, a ≠ D → B a = none → B'' a = none) (hν : ∀ a ∈ ν, a = D) (hw : D ∉ wrOf env) : FrOk prog w GH sc env h B'' (ρ ++ ν) V := by
  have hL : env.locals ≠ D := fun q => hw (q ▸ List.mem_cons_self ..)
  have hC : ∀ x c, env.cells.lookup x = some c → c ≠ D := fun x c hc q => hw (q ▸ wrOf_cell hc)
  have out : ∀ a, a ∉ ρ → a ≠ D → a ∉ ρ ++ ν := fun a h1 h2 q => (List.mem_append.mp q).elim h1 fun z => h2 (hν a z)
  obtain ⟨m, hn, hm⟩ := F.loc
  refine ⟨F.scope, F.kind, F.globals, F.builtins, ⟨m, hn, fun x v hv hx => ?_⟩, fun x v hv hx => ?_, fun x c hc => ?_, F.apart, F.allc, out _ F.own.1 hL, hB _ hL F.own.2.1, F.own.2.2⟩
  · refine x1a2 (hm x v hv hx) fun u hu r => ?_
    exact ⟨u, hu, r.mono prog w le⟩
  · refine x2a3 (F.cel x v hv hx) fun c u hc hcell r => ?_
    exact ⟨c, u, hc, hcell, r.mono prog w le⟩
  · refine x0a4 (F.cells x c hc) fun h1 h2 h3 h4 => ?_
    exact ⟨h1, out _ h2 (hC x c hc), hB _ (hC x c hc) h3, h4⟩
noncomputable def Fin (Q : AV → List MO → Prop) (acc : List AV) (σ : List MO) : Prop :=
  (∃ ps, pvs acc = some ps ∧ Q (.pv (.lst ps)) σ) ∨ (∃ ps, pvs acc = some ps ∧ Q (.loc σ.length) (σ ++ [.lst ps])) ∨ Q (.loc σ.length) (σ ++ [.alst acc])
theorem fin_go {D : Addr} {us : Array Value} {acc : List AV} {Q : AV → List MO → Prop} (S : Step [] h B ρ h' B' ρ') (I : Inv prog w GH h' B' ρ' σ) (U : Untold D h' B' ρ') (hd : h.get? D = none) (hg : GH.objs.size ≤ D) (pl : h'.PlainList D us) (r : RelAL prog w B' ρ' acc us.toList) (hq : Fin Q acc σ) :
    ∃ B'' ν v σ'', Step [] h B ρ h' B'' (ρ' ++ ν) ∧ Inv prog w GH h' B'' (ρ' ++ ν) σ'' ∧ RelA prog w B'' (ρ' ++ ν) v (.ref D) ∧ Q v σ'' ∧ B'.le B'' ∧ (∀ a, a ≠ D → B' a = none → B'' a = none) ∧ (∀ a ∈ ν, a = D) := by
  obtain ⟨n, ho⟩ := pl
  refine x1a2 S.ext fun ν₀ e₀ hν₀ => ?_
  have own : ∀ m, MRel prog w B' (ρ' ++ [D]) { cls := .type "list", data := .seq us n } m → Q (.loc σ.length) (σ ++ [m]) →
      ∃ B'' ν v σ'', Step [] h B ρ h' B'' (ρ' ++ ν) ∧ Inv prog w GH h' B'' (ρ' ++ ν) σ'' ∧ RelA prog w B'' (ρ' ++ ν) v (.ref D) ∧ Q v σ'' ∧ B'.le B'' ∧ (∀ a, a ≠ D → B' a = none → B'' a = none) ∧ (∀ a ∈ ν, a = D) := fun m hm q =>
    ⟨B', [D], .loc σ.length, σ ++ [m], ⟨S.le, S.new, ⟨ν₀ ++ [D], by rw [e₀, List.append_assoc], fun a ha => by
      rcases List.mem_append.mp ha with z | z
      · exact hν₀ a z
      · rw [List.mem_singleton.mp z]; exact hd⟩, S.keep, S.live⟩, I.tellO U ho hg hm, ⟨D, by rw [← I.len]; simp, rfl⟩, q, FB.le.refl _, fun _ _ z => z, fun a ha => List.mem_singleton.mp ha⟩
  rcases hq with ⟨ps, hp, q⟩ | ⟨ps, hp, q⟩ | q
  · refine ⟨B'.put D { cls := .type "list", data := .seq us n }, [], .pv (.lst ps), σ, ?_, ?_, ?_, q, FB.le_put U.base, fun a ha z => ?_, fun a ha => nomatch ha⟩
    · rw [List.append_nil]
      refine ⟨S.le.trans (FB.le_put U.base), fun b o e => ?_, S.ext, S.keep, S.live⟩
      unfold FB.put at e
      split at e
      · rename_i z; subst z; exact .inr (.inl hd)
      · exact S.new b o e
    · rw [List.append_nil]; exact I.tellB U ho
    · exact ⟨D, us, n, rfl, FB.put_self _ _ _, (r.pure hp).mono prog w (FB.le_put U.base)⟩
    · unfold FB.put; rw [if_neg ha]; exact z
  · exact own (.lst ps) ⟨us, n, rfl, r.pure hp⟩ q
  · exact own (.alst acc) ⟨us, n, rfl, r.mono prog w (FB.le.refl _)⟩ q
noncomputable def CompH (prog : Program) (w : World) (GH : Heap) (sc scope : Scope) (k : Nat) (x : Str) (elt : Expr) (ifs : List Expr) (V : VEnv) (Q : AV → List MO → Prop) (v : AV) (σ₁ : List MO) : Prop :=
  ∃ p l, v = .pv p ∧ Src prog w GH p l ∧ l.length ≤ 1000 ∧ ∃ J : Nat → List AV → List MO → Prop, J 0 [] σ₁ ∧ CompStep prog w GH sc scope k x elt ifs V l J ∧ ∀ acc σ', J l.length acc σ' → Fin Q acc σ'
theorem e_comp {elt iter : Expr} {x : Str} {px : Pos} {ifs : List Expr} {scope : Scope} {pos : Pos} {Q : AV → List MO → Prop} (G : GOK GH mg mb)
    (h : EOk prog w GH sc k iter V σ (CompH prog w GH sc scope k x elt ifs V Q))
    (hc : compOk sc scope = true) (hx : scope.names.lookup x = some .local) (hs : ∀ env x, foldedSetIterable iter env x = pure x := by intro _ _; rfl) :
    EOk prog w GH sc k (.ListComp elt [⟨.Name x px, iter, ifs, 0⟩] scope pos) V σ Q := fun A env s B ρ R F I => by
  rw [eval_ListComp]
  refine comp_go G h hc hx hs R F I fun D C s' B' ρ' σ' acc us m sm S I' F' UD UC hDC dD dC hg hn pl r fin => ?_
  refine x4a7 (fin_go S I' UD dD hg pl r fin) fun B'' ν v σ'' S'' I'' r'' q le hB hν => ?_
  refine ⟨m, hn, fun h'' hs'' => ?_⟩
  have hC : C ∉ ρ' ++ ν := fun z => (List.mem_append.mp z).elim UC.out fun z => hDC (hν C z).symm
  have hk : ∀ b o, b ∉ [C] → s'.heap.get? b = some o → h''.get? b = some o := fun b o hb e => hs''.extBut b o (fun z => hb (List.mem_singleton.mpr z)) e
  have U'' : Untold C s'.heap B'' (ρ' ++ ν) := ⟨UC.live, hC, hB C (Ne.symm hDC) UC.base⟩
  exact ⟨B'', ρ' ++ ν, sm.trans ⟨h'', _, rfl⟩, S''.done (wr' := [C]) (fun b hb => by rw [List.mem_singleton.mp hb]; exact dC) hk, v, σ'', I''.quiet' (wr := [C]) (fun b hb => by rw [List.mem_singleton.mp hb]; exact U'') hk, r'', q⟩
theorem x_asgC {elt iter : Expr} {x y : Str} {px py : Pos} {ifs : List Expr} {scope : Scope} {pos spos : Pos} {Q : Fl → VEnv → List MO → Prop} (G : GOK GH mg mb)
    (h : EOk prog w GH sc k iter V σ (CompH prog w GH sc scope k x elt ifs V fun v σ' => Q .next ((y, v) :: V) σ'))
    (hy : isVar sc y = true) (hc : compOk sc scope = true) (hx : scope.names.lookup x = some .local) (hs : ∀ env x, foldedSetIterable iter env x = pure x := by intro _ _; rfl) :
    XOk prog w GH sc k (.Assign [.Name y py] (.ListComp elt [⟨.Name x px, iter, ifs, 0⟩] scope pos) spos) V σ Q := fun A env s B ρ R F I => by
  have sw : ∃ b, swapsWith (.ListComp elt [⟨.Name x px, iter, ifs, 0⟩] scope pos) (some (.Name y py)) spos.line env = pure b := ⟨_, rfl⟩
  obtain ⟨b, sw⟩ := sw
  cases b with
  | false =>
    refine wpAny_Assign_Name ((e_comp G h hc hx hs).go R F I fun u s₁ B₁ ρ₁ v σ₁ a r q => wpAny_mono (st_ok (a.fr F) a.inv r hy) (fun _ s₂ x => a.thenW (x.mono fun s' B' ρ' y => ⟨Fl.next, _, σ₁, y.1, y.2, rfl, q⟩)) fun _ _ x => x) sw
  | true =>
    rw [exec_Assign_Name_used _ _ _ _ sw]
    refine wpAny_bind (wpAny_standAt (wpAny_bind ?_))
    show wpAny _ A (do let _ ← comprehension (.ListComp elt [⟨.Name x px, iter, ifs, 0⟩] scope pos) scope env _ (newList []) false (eval iter env) (some (assign (.Name y py) env))) _ _ s
    refine wpAny_bind (wpAny_mono (comp_go G h hc hx hs (use := some (assign (.Name y py) env)) (Q := fun _ s' => wpAny (model prog w) A (pure Flow.next) (fun f => After (wrOf env) s B ρ fun s' B' ρ' => ∃ fl V' σ', Inv prog w GH s'.heap B' ρ' σ' ∧ FrOk prog w GH sc env s'.heap B' ρ' V' ∧ FlRel prog w B' ρ' fl f ∧ Q fl V' σ') (fun _ _ => False) s') R F I fun D C s' B' ρ' σ' acc us m sm S I' F' UD UC hDC dD dC hg hn pl r fin => ?_) (fun _ s' hh => wpAny_pure hh) fun _ _ x => x)
    refine x4a7 (fin_go S I' UD dD hg pl r fin) fun B'' ν v σ'' S'' I'' r'' q le hB hν => ?_
    have hC : C ∉ ρ' ++ ν := fun z => (List.mem_append.mp z).elim UC.out fun z => hDC (hν C z).symm
    have U'' : Untold C s'.heap B'' (ρ' ++ ν) := ⟨UC.live, hC, hB C (Ne.symm hDC) UC.base⟩
    have hwf : ∀ b, s.heap.get? b = none → b ∉ wrOf env := fun b hb q => by
      obtain ⟨o', ho'⟩ := F.live q
      rw [hb] at ho'; cases ho'
    have F'' : FrOk prog w GH sc env s'.heap B'' (ρ' ++ ν) V := F'.tell le hB hν (hwf D dD)
    refine wpAny_mono (wpAny_assign_Name (st_ok F'' I'' r'' hy)) (fun _ s₂ x => ?_) fun _ _ x => x
    refine x2a4 x fun B₂ ρ₂ sm₂ S₂ I₂ F₂ => ?_; clear x
    obtain ⟨oC, hoC⟩ := U''.live
    refine ⟨m, hn.at' fun o e => U''.keep S₂ (hwf C dC) e, fun h'' hs'' => wpAny_pure ?_⟩
    have hk : ∀ b o, b ∉ [C] → s₂.heap.get? b = some o → h''.get? b = some o := fun b o hb e => hs''.extBut b o (fun z => hb (List.mem_singleton.mpr z)) e
    have T : Step (wrOf env) s.heap B ρ s₂.heap B₂ ρ₂ := (S''.weaken fun _ q => nomatch q).trans (fun _ z => .inl z) S₂
    exact ⟨B₂, ρ₂, (sm.trans sm₂).trans ⟨h'', _, rfl⟩, T.done (wr' := [C]) (fun b hb => by rw [List.mem_singleton.mp hb]; exact dC) hk, .next, _, σ'', I₂.quiet' (wr := [C]) (fun b hb => by rw [List.mem_singleton.mp hb]; exact U''.step S₂) hk,
      F₂.quiet' (wr := [C]) (fun b hb => by rw [List.mem_singleton.mp hb]; exact hwf C dC) hk, rfl, q⟩
end
section
variable {prog : Program} {w : World} {GH : Heap} {mg mb : Str → Option Value} {A : Around} {env : Env} {s : Shared} {h h' : Heap} {B B' : FB} {ρ ρ' : List Addr} {σ : List MO} {sc : Scope} {k : Nat} {V : VEnv} {e : Expr}
noncomputable abbrev VP (prog : Program) (w : World) (GH : Heap) (Q : AV → List MO → Prop) (r : Value) (s' : Shared) (B' : FB) (ρ' : List Addr) : Prop := ∃ x σ', Inv prog w GH s'.heap B' ρ' σ' ∧ RelA prog w B' ρ' x r ∧ Q x σ'
theorem r_tok {v : AV} {u : Value} {t : Nat} {Q : AV → List MO → Prop} (I : Inv prog w GH s.heap B ρ σ) (r : RelA prog w B ρ v u) (h : Q v σ) : After [] s B ρ (VP prog w GH Q u) { s with toks := t } := After.tok _ ⟨_, σ, I, r, h⟩
theorem r_here {v : AV} {u : Value} {Q : AV → List MO → Prop} (I : Inv prog w GH s.heap B ρ σ) (r : RelA prog w B ρ v u) (h : Q v σ) : After [] s B ρ (VP prog w GH Q u) s := After.here ⟨_, σ, I, r, h⟩
theorem r_grown {v : AV} {u : Value} {t : Nat} {Q : AV → List MO → Prop} (I : Inv prog w GH s.heap B ρ σ) (hk : ∀ b o, s.heap.get? b = some o → h'.get? b = some o) (r : RelA prog w B ρ v u) (h : Q v σ) :
    After [] s B ρ (VP prog w GH Q u) { s with heap := h', toks := t } :=
  let ⟨I', S'⟩ := I.grown hk; ⟨B, ρ, ⟨_, _, rfl⟩, S' [], v, σ, I', r, h⟩
theorem r_new {p : PV} {a : Addr} {o : Obj} {t : Nat} {Q : AV → List MO → Prop} (I : Inv prog w GH s.heap B ρ σ) (hn : s.heap.get? a = none) (hk : ∀ b o, s.heap.get? b = some o → h'.get? b = some o) (ha : h'.get? a = some o)
    (r : Rel prog w (B.put a o) p (.ref a)) (h : Q (.pv p) σ) : After [] s B ρ (VP prog w GH Q (.ref a)) { s with heap := h', toks := t } :=
  let ⟨I', S'⟩ := I.froze hn hk ha; ⟨_, ρ, ⟨_, _, rfl⟩, S' [], .pv p, σ, I', r, h⟩
theorem r_newL {l : List PV} {a : Addr} {its : Array Value} {n : Nat} {t : Nat} {Q : AV → List MO → Prop} (I : Inv prog w GH s.heap B ρ σ) (hn : s.heap.get? a = none) (hk : ∀ b o, s.heap.get? b = some o → h'.get? b = some o) (ha : h'.get? a = some { cls := .type "list", data := .seq its n })
    (r : RelL prog w B l its.toList) (h : Q (.pv (.lst l)) σ) : After [] s B ρ (VP prog w GH Q (.ref a)) { s with heap := h', toks := t } :=
  r_new (p := .lst l) I hn hk ha ⟨a, its, n, rfl, FB.put_self _ _ _, r.mono prog w (FB.le_put (I.none_base hn))⟩ h
theorem r_newT {l : List PV} {a : Addr} {its : Array Value} {n : Nat} {t : Nat} {Q : AV → List MO → Prop} (I : Inv prog w GH s.heap B ρ σ) (hn : s.heap.get? a = none) (hk : ∀ b o, s.heap.get? b = some o → h'.get? b = some o) (ha : h'.get? a = some { cls := .type "tuple", data := .seq its n })
    (r : RelL prog w B l its.toList) (h : Q (.pv (.tup l)) σ) : After [] s B ρ (VP prog w GH Q (.ref a)) { s with heap := h', toks := t } :=
  r_new (p := .tup l) I hn hk ha ⟨a, its, n, rfl, FB.put_self _ _ _, r.mono prog w (FB.le_put (I.none_base hn))⟩ h
theorem r_own {m : MO} {a : Addr} {o : Obj} {t : Nat} {Q : AV → List MO → Prop} (I : Inv prog w GH s.heap B ρ σ) (hn : s.heap.get? a = none) (hg : GH.objs.size ≤ a) (hk : ∀ b o, s.heap.get? b = some o → h'.get? b = some o) (ha : h'.get? a = some o)
    (r : MRel prog w B (ρ ++ [a]) o m) (h : Q (.loc σ.length) (σ ++ [m])) : After [] s B ρ (VP prog w GH Q (.ref a)) { s with heap := h', toks := t } :=
  let ⟨I', S'⟩ := I.owned hn hg hk ha r; ⟨B, _, ⟨_, _, rfl⟩, S' [], .loc σ.length, _, I', ⟨a, by rw [← I.len]; simp, rfl⟩, h⟩
theorem r_set {i : Nat} {a : Addr} {o : Obj} {m m' : MO} {v : AV} {u : Value} {t : Nat} {Q : AV → List MO → Prop} (I : Inv prog w GH s.heap B ρ σ) (ha : ρ[i]? = some a) (hm : σ[i]? = some m) (hd : m ≠ .dead) (hs : Heap.SameBut a s.heap h') (ho : h'.get? a = some o) (r : MRel prog w B ρ o m')
    (hv : RelA prog w B ρ v u) (h : Q v (σ.set i m')) : After [] s B ρ (VP prog w GH Q u) { s with heap := h', toks := t } :=
  let ⟨I', S'⟩ := I.changed ha hm hd hs ho r; ⟨B, ρ, ⟨_, _, rfl⟩, S' [], v, _, I', hv, h⟩
theorem args1 {a : AV} {us : List Value} (r : RelAL prog w B ρ [a] us) : ∃ u, us = [u] ∧ RelA prog w B ρ a u := by
  obtain ⟨u, us', e, r1, r2⟩ := r
  cases (show us' = [] from r2)
  exact ⟨u, e, r1⟩
theorem args2 {a b : AV} {us : List Value} (r : RelAL prog w B ρ [a, b] us) : ∃ u v, us = [u, v] ∧ RelA prog w B ρ a u ∧ RelA prog w B ρ b v := by
  refine x2a3 r fun u us' e r1 r2 => ?_; clear r
  refine x1a2 (args1 r2) fun v Z1 r3 => ?_; obtain rfl := Z1
  exact ⟨u, v, e, r1, r3⟩
theorem args3 {a b c : AV} {us : List Value} (r : RelAL prog w B ρ [a, b, c] us) : ∃ u v x, us = [u, v, x] ∧ RelA prog w B ρ a u ∧ RelA prog w B ρ b v ∧ RelA prog w B ρ c x := by
  refine x2a3 r fun u us' e r1 r2 => ?_; clear r
  refine x2a2 (args2 r2) fun v x Z1 Z2 => ?_; obtain rfl := Z1; obtain ⟨r3, r4⟩ := Z2
  exact ⟨u, v, x, e, r1, r3, r4⟩
variable {Q : AV → List MO → Prop}
theorem c_abs {x : Int} (h : Q (.pv (.int (if x < 0 then -x else x))) σ) : COk prog w GH k (.builtin "abs") [.pv (.int x)] σ Q := fun A s B ρ us R I ra => by
  refine x1a2 (args1 ra) fun u Z1 Z2 => ?_; obtain rfl := Z1; obtain ⟨t, Z3⟩ := Z2; obtain rfl := Z3
  exact call_abs_int fun u tk => r_tok I relA_int h
theorem c_intI {x : Int} (h : Q (.pv (.int x)) σ) : COk prog w GH k (.type "int") [.pv (.int x)] σ Q := fun A s B ρ us R I ra => by
  refine x1a2 (args1 ra) fun u Z1 Z2 => ?_; obtain rfl := Z1; obtain ⟨t, Z3⟩ := Z2; obtain rfl := Z3
  exact call_int_int (r_here I relA_int h)
theorem c_intB {b : Bool} (h : Q (.pv (.int (if b then 1 else 0))) σ) : COk prog w GH k (.type "int") [.pv (.bool b)] σ Q := fun A s B ρ us R I ra => by
  refine x1a2 (args1 ra) fun u Z1 r => ?_; obtain rfl := Z1
  cases (show u = .bool b from r)
  exact call_int_bool (r_tok I relA_int h)
theorem c_lenL {a : AV} {l : List PV} (ha : asList σ a = some l) (hl : l.length ≤ 1000000) (h : Q (.pv (.int l.length)) σ) : COk prog w GH k (.builtin "len") [a] σ Q := fun A s B ρ us R I ra => by
  refine x1a2 (args1 ra) fun u Z1 r => ?_; obtain rfl := Z1
  refine x3a2 (view_list I r ha) fun x its n Z2 Z3 => ?_; obtain rfl := Z2; obtain ⟨hx, q⟩ := Z3
  have e' : its.size = l.length := by rw [← q.length]; simp
  exact call_len_list ⟨_, hx, rfl, _, rfl⟩ (by rw [e']; omega) (r_tok I (by rw [e']; exact relA_int) h)
theorem c_lenA {n : Nat} {l : List AV} (ha : σ[n]? = some (.alst l)) (hl : l.length ≤ 1000000) (h : Q (.pv (.int l.length)) σ) : COk prog w GH k (.builtin "len") [.loc n] σ Q := fun A s B ρ us R I ra => by
  refine x1a2 (args1 ra) fun u Z1 r => ?_; obtain rfl := Z1
  refine x2a3 (view_loc I r ha) fun a o _ Z2 Z3 => ?_; obtain rfl := Z2; obtain ⟨ho, Z4⟩ := Z3; refine x2a2 Z4 fun its n' q1 q2 => ?_; clear Z4
  subst q1
  have e' : its.size = l.length := by rw [← q2.length]; simp
  exact call_len_list ⟨_, ho, rfl, _, rfl⟩ (by rw [e']; omega) (r_tok I (by rw [e']; exact relA_int) h)
theorem c_lenB {x : Array UInt8} (hl : x.size ≤ 1000000) (h : Q (.pv (.int x.size)) σ) : COk prog w GH k (.builtin "len") [.pv (.bytes x)] σ Q := fun A s B ρ us R I ra => by
  refine x1a2 (args1 ra) fun u Z1 Z2 => ?_; obtain rfl := Z1; obtain ⟨t, Z3⟩ := Z2; obtain rfl := Z3
  exact PySem.W.len_bytes (by omega) (r_tok I relA_int h)
theorem c_ord {c : Nat} (h : Q (.pv (.int c)) σ) : COk prog w GH k (.builtin "ord") [.pv (.str ⟨#[c]⟩)] σ Q := fun A s B ρ us R I ra => by
  refine x1a2 (args1 ra) fun u Z1 Z2 => ?_; obtain rfl := Z1; obtain ⟨t, Z3⟩ := Z2; obtain rfl := Z3
  exact P.ord_of_char (r_tok I relA_int h)
theorem relL_ints : ∀ {ns : List Int} {us : List Value}, RelL prog w B (ns.map .int) us → IntsAre us ns
  | [], us, r => by cases (show us = [] from r); exact .nil
  | n :: ns, us, ⟨u, us', e, ⟨t, r1⟩, r2⟩ => by subst e r1; exact .cons n t (relL_ints r2)
theorem ints_relL : ∀ {ns : List Int} {us : List Value}, IntsAre us ns → RelL prog w B (ns.map .int) us
  | _, _, .nil => rfl
  | _, _, .cons n t r => ⟨_, _, rfl, ⟨t, rfl⟩, ints_relL r⟩
theorem c_bytes {a : AV} {ns : List Int} (ha : asList σ a = some (ns.map .int)) (hr : ∀ n ∈ ns, 0 ≤ n ∧ n < 256) (hl : ns.length ≤ 1000000) (h : Q (.pv (.bytes (byteArr ns))) σ) : COk prog w GH k (.type "bytes") [a] σ Q := fun A s B ρ us R I ra => by
  refine x1a2 (args1 ra) fun u Z1 r => ?_; obtain rfl := Z1
  refine x3a2 (view_list I r ha) fun x its n Z2 Z3 => ?_; obtain rfl := Z2; obtain ⟨hx, q⟩ := Z3
  have e := q.length
  exact call_bytes_ints (vs := its.toList) ⟨_, hx, rfl, n, by simp⟩ (relL_ints q) hr (by rw [e, sizeLine_eq]; simp; omega) R.handled fun h' t k hk => r_grown I hk relA_bytes h
theorem c_strI {x : Int} (hx : x.natAbs.log2 < 1920) (h : Q (.pv (.str (toString x))) σ) : COk prog w GH k (.type "str") [.pv (.int x)] σ Q := fun A s B ρ us R I ra => by
  refine x1a2 (args1 ra) fun u Z1 Z2 => ?_; obtain rfl := Z1; obtain ⟨t, Z3⟩ := Z2; obtain rfl := Z3
  exact P.str_of_int hx (r_tok I relA_str h)
theorem c_range1 {n : Int} (h : Q (.pv (.rng 0 n)) σ) : COk prog w GH k (.type "range") [.pv (.int n)] σ Q := fun A s B ρ us R I ra => by
  refine x1a2 (args1 ra) fun u Z1 Z2 => ?_; obtain rfl := Z1; obtain ⟨t, Z3⟩ := Z2; obtain rfl := Z3
  exact call_range_1 (r_new (p := .rng 0 n) I (size_none _) (push_keeps _ _) (Heap.get?_push_size _ rfl) ⟨_, _, _, _, rfl, FB.put_self _ _ _⟩ h)
theorem c_range2 {m n : Int} (h : Q (.pv (.rng m n)) σ) : COk prog w GH k (.type "range") [.pv (.int m), .pv (.int n)] σ Q := fun A s B ρ us R I ra => by
  refine x2a2 (args2 ra) fun u v Z1 Z2 => ?_; obtain rfl := Z1; obtain ⟨Z3, Z4⟩ := Z2; obtain ⟨t, rfl⟩ := Z3; obtain ⟨t', Z5⟩ := Z4; obtain rfl := Z5
  exact call_range_2 (r_new (p := .rng m n) I (size_none _) (push_keeps _ _) (Heap.get?_push_size _ rfl) ⟨_, _, _, _, rfl, FB.put_self _ _ _⟩ h)
end
section
variable {prog : Program} {w : World} {GH : Heap} {mg mb : Str → Option Value} {A : Around} {env : Env} {s : Shared} {h h' : Heap} {B B' : FB} {ρ ρ' : List Addr} {σ : List MO} {sc : Scope} {k : Nat} {V : VEnv} {e : Expr} {Q : AV → List MO → Prop}
noncomputable def Sub2 (prog : Program) (w : World) (GH : Heap) (k : Nat) (a b : AV) (σ : List MO) (Q : AV → List MO → Prop) : Prop :=
  ∀ A s B ρ u v, Room k A → Inv prog w GH s.heap B ρ σ → RelA prog w B ρ a u → RelA prog w B ρ b v →
    ∃ T id, s.TypeIs u T ∧ typeLookup (.type T) "__getitem__" = pure (some (.builtin id)) ∧ wpAny (model prog w) A (getItem u v) (fun r => After [] s B ρ (VP prog w GH Q r)) (fun _ _ => False) s
theorem e_sub {o i : Expr} {p : Pos} (h : EOk prog w GH sc k o V σ fun a σ₁ => EOk prog w GH sc k i V σ₁ fun b σ₂ => Sub2 prog w GH k a b σ₂ Q) (hs : ∀ ov iv, subscripted i false ov iv = operate [ov, iv] (getItem ov iv) := by intro _ _; rfl) :
    EOk prog w GH sc k (.Subscript o i p) V σ Q := fun A env s B ρ R F I =>
  Subscript_ (h.go R F I fun u₁ s₁ B₁ ρ₁ a σ₁ at₁ r₁ h₁ => h₁.go R (at₁.fr F) at₁.inv fun u₂ s₂ B₂ ρ₂ b σ₂ at₂ r₂ h₂ => by
    refine x2a3 (h₂ A s₂ B₂ ρ₂ u₁ u₂ R at₂.inv (at₂.rel r₁) r₂) fun T id hT hl hg => ?_
    exact tail_any hT hl (wpAny_mono hg (fun _ _ x => at₁.then0 (at₂.then0 x)) fun _ _ x => x) (hs u₁ u₂))
theorem relL_at {l : List PV} {its : Array Value} {i : Nat} {p : PV} (r : RelL prog w B l its.toList) (e : l[i]? = some p) : ∃ v, its[i]? = some v ∧ Rel prog w B p v := by
  refine x1a2 (relL_get' r e) fun v hv q => ?_
  exact ⟨v, by rw [← Array.getElem?_toList]; exact hv, q⟩
theorem relAL_get' : ∀ {l : List AV} {us : List Value} {i : Nat} {p : AV}, RelAL prog w B ρ l us → l[i]? = some p → ∃ v, us[i]? = some v ∧ RelA prog w B ρ p v
  | [], us, i, v, r, e => by simp at e
  | p :: l, us, i, v, ⟨u, us', r, r1, r2⟩, e => by
    subst r
    cases i with
    | zero => simp at e; subst e; exact ⟨u, rfl, r1⟩
    | succ i => exact relAL_get' (l := l) (us := us') (i := i) r2 (by simpa using e)
theorem sub_L {a : AV} {l : List PV} {i : Int} {p : PV} (ha : asList σ a = some l) (h0 : 0 ≤ i) (hp : l[i.toNat]? = some p) (hl : l.length ≤ 1000000) (h : Q (.pv p) σ) : Sub2 prog w GH k a (.pv (.int i)) σ Q := fun A s B ρ u v R I ra ⟨t, e⟩ => by
  subst e
  refine x3a2 (view_list I ra ha) fun x its n Z1 Z2 => ?_; obtain rfl := Z1; obtain ⟨hx, q⟩ := Z2
  have hlist : s.heap.IsList x its := ⟨_, hx, rfl, _, rfl⟩
  refine x1a2 (relL_at q hp) fun y hy r => ?_
  have hi : i.toNat < l.length := by
    rcases Nat.lt_or_ge i.toNat l.length with z | z
    · exact z
    · rw [List.getElem?_eq_none z] at hp; cases hp
  exact ⟨"list", _, hlist.typeIs, slot_list_getitem.lookup, wpAny_getItem_list hlist h0 (by omega) hy (r_here I (relA_pv r) h)⟩
theorem sub_A {n : Nat} {l : List AV} {i : Int} {p : AV} (ha : σ[n]? = some (.alst l)) (h0 : 0 ≤ i) (hp : l[i.toNat]? = some p) (hl : l.length ≤ 1000000) (h : Q p σ) : Sub2 prog w GH k (.loc n) (.pv (.int i)) σ Q := fun A s B ρ u v R I ra ⟨t, e⟩ => by
  subst e
  refine x2a3 (view_loc I ra ha) fun a o _ Z1 Z2 => ?_; obtain rfl := Z1; obtain ⟨ho, Z3⟩ := Z2; refine x2a2 Z3 fun its n' q1 q2 => ?_; clear Z3
  subst q1
  have hlist : s.heap.IsList a its := ⟨_, ho, rfl, _, rfl⟩
  refine x1a2 (relAL_get' q2 hp) fun y hy r => ?_
  have hi : i.toNat < l.length := by
    rcases Nat.lt_or_ge i.toNat l.length with z | z
    · exact z
    · rw [List.getElem?_eq_none z] at hp; cases hp
  exact ⟨"list", _, hlist.typeIs, slot_list_getitem.lookup, wpAny_getItem_list hlist h0 (by omega) (by rw [← Array.getElem?_toList]; exact hy) (r_here I r h)⟩
theorem sub_T {l : List PV} {i : Int} {p : PV} (h0 : 0 ≤ i) (hp : l[i.toNat]? = some p) (hl : l.length ≤ 1000000) (h : Q (.pv p) σ) : Sub2 prog w GH k (.pv (.tup l)) (.pv (.int i)) σ Q := fun A s B ρ u v R I ra ⟨t, e⟩ => by
  subst e
  refine x3a2 ra fun x its n Z1 Z2 => ?_; clear ra; obtain rfl := Z1; obtain ⟨hb, q⟩ := Z2
  have hx := I.base _ _ hb
  have ht : IsTup s.heap x its := ⟨_, hx, rfl, _, rfl⟩
  refine x1a2 (relL_at q hp) fun y hy r => ?_
  have hi : i.toNat < l.length := by
    rcases Nat.lt_or_ge i.toNat l.length with z | z
    · exact z
    · rw [List.getElem?_eq_none z] at hp; cases hp
  have e' : its.size = l.length := by rw [← q.length]; simp
  refine ⟨"tuple", _, ⟨_, hx, rfl⟩, slot_tuple_getitem.lookup, getItem_tuple (j := i.toNat) ht (by omega) (by omega) ?_ hy (r_here I (relA_pv r) h)⟩
  unfold seqIndex?
  rw [e']
  split <;> rename_i q <;> simp at * <;> omega
noncomputable def vAt {K α : Type} [DecidableEq K] : List K → List α → K → Option α
  | k :: ks, v :: vs, x => if k = x then some v else vAt ks vs x
  | _, _, _ => none
theorem valueAt_cons {K : Type} [DecidableEq K] {k x : K} {u : Value} {l : List (K × Value)} : valueAt ((k, u) :: l) x = if k = x then some u else valueAt l x := by
  by_cases q : k = x
  · rw [if_pos q]; simp [valueAt, q]
  · rw [if_neg q]; simp [valueAt, List.find?_cons, q]
theorem vAt_rel {K : Type} [DecidableEq K] {x : K} {ks : List K} : ∀ {vs : List PV} {us : List Value} {p : PV}, RelL prog w B vs us → vAt ks vs x = some p → ∃ u, valueAt (ks.zip us) x = some u ∧ Rel prog w B p u := by
  induction ks with
  | nil => exact fun _ h => nomatch h
  | cons k ks ih =>
    intro vs us p rl h
    cases vs with
    | nil => cases h
    | cons v vs =>
      refine x2a3 rl fun u us' e r1 r2 => ?_
      subst e
      replace h : (if k = x then some v else vAt ks vs x) = some p := h
      rw [List.zip_cons_cons, valueAt_cons]
      by_cases q : k = x
      · rw [if_pos q] at h ⊢; cases h
        exact ⟨u, rfl, r1⟩
      · rw [if_neg q] at h ⊢
        exact ih r2 h
theorem vAt_none {K : Type} [DecidableEq K] {x : K} {ks : List K} : ∀ {us : List Value}, us.length = ks.length → ((valueAt (ks.zip us) x).isSome = decide (x ∈ ks)) := by
  induction ks with
  | nil => exact fun _ => (decide_eq_false List.not_mem_nil).symm
  | cons k ks ih =>
    intro us h
    cases us with
    | nil => cases h
    | cons u us =>
      rw [List.zip_cons_cons, valueAt_cons]
      by_cases q : k = x
      · rw [if_pos q]; exact (decide_eq_true (q ▸ List.mem_cons_self ..)).symm
      · rw [if_neg q, ih (Nat.succ.inj h)]
        simp [Ne.symm q]
theorem sub_D (G : GOK GH mg mb) {a : AV} {ks : List Int} {vs : List PV} {i : Int} {p : PV} (ha : asDictI σ a = some (ks, vs)) (hp : vAt ks vs i = some p) (h : Q (.pv p) σ) : Sub2 prog w GH k a (.pv (.int i)) σ Q := fun A s B ρ u v R I ra ⟨t, e⟩ => by
  subst e
  refine x2a2 (view_dictI G I ra ha) fun x us Z1 Z2 => ?_; obtain rfl := Z1; refine x0a4 Z2 fun hx hd hl q => ?_; clear Z2
  refine x1a2 (vAt_rel q hp) fun y hy r => ?_
  exact ⟨"dict", _, hd.typeIs, slot_dict_getitem.lookup, wpAny_getItem_of (intKind_is _ _ i t) hd.mapOf hy (r_tok I (relA_pv r) h)⟩
theorem sub_DS (G : GOK GH mg mb) {a : AV} {ks : List Str} {vs : List PV} {i : Str} {p : PV} (ha : asDictS σ a = some (ks, vs)) (hp : vAt ks vs i = some p) (h : Q (.pv p) σ) : Sub2 prog w GH k a (.pv (.str i)) σ Q := fun A s B ρ u v R I ra ⟨t, e⟩ => by
  subst e
  refine x2a2 (view_dictS G I ra ha) fun x us Z1 Z2 => ?_; obtain rfl := Z1; refine x0a4 Z2 fun hx hd hl q => ?_; clear Z2
  refine x1a2 (vAt_rel q hp) fun y hy r => ?_
  exact ⟨"dict", _, hd.typeIs, slot_dict_getitem.lookup, wpAny_getItem_of (strKind_is _ _ i t) hd.mapOf hy (r_tok I (relA_pv r) h)⟩
noncomputable def Set3 (prog : Program) (w : World) (GH : Heap) (k : Nat) (a b v : AV) (σ : List MO) (Q : List MO → Prop) : Prop :=
  ∀ A s B ρ u x y, Room k A → Inv prog w GH s.heap B ρ σ → RelA prog w B ρ a u → RelA prog w B ρ b x → RelA prog w B ρ v y →
    wpAny (model prog w) A (setItem u x y) (fun _ => After [] s B ρ fun s' B' ρ' => ∃ σ', Inv prog w GH s'.heap B' ρ' σ' ∧ Q σ') (fun _ _ => False) s
theorem x_set {o i val : Expr} {p' p : Pos} {Q : Fl → VEnv → List MO → Prop} (h : EOk prog w GH sc k val V σ fun v σ₁ => EOk prog w GH sc k o V σ₁ fun a σ₂ => EOk prog w GH sc k i V σ₂ fun b σ₃ => Set3 prog w GH k a b v σ₃ fun σ₄ => Q .next V σ₄)
    (hs : ∀ env, swapsWith val (some (.Subscript o i p')) p.line env = pure false := by intro _; rfl) : XOk prog w GH sc k (.Assign [.Subscript o i p'] val p) V σ Q := fun A env s B ρ R F I =>
  wpAny_Assign_Subscript (h.go R F I fun u₁ s₁ B₁ ρ₁ v σ₁ at₁ r₁ h₁ => h₁.go R (at₁.fr F) at₁.inv fun u₂ s₂ B₂ ρ₂ a σ₂ at₂ r₂ h₂ => h₂.go R (at₂.fr (at₁.fr F)) at₂.inv fun u₃ s₃ B₃ ρ₃ b σ₃ at₃ r₃ h₃ =>
    wpAny_mono (h₃ A s₃ B₃ ρ₃ u₂ u₃ u₁ R at₃.inv (at₃.rel r₂) r₃ (at₃.rel (at₂.rel r₁))) (fun _ s₄ x => by
      refine x2a3 x fun B₄ ρ₄ sm S Z1 => ?_; clear x; refine x1a2 Z1 fun σ₄ I₄ q => ?_; clear Z1
      have at₄ : At prog w GH [] s₃ B₃ ρ₃ s₄ B₄ ρ₄ σ₄ := ⟨sm, S, I₄⟩
      refine (at₁.then0 (at₂.then0 (at₃.then0 (at₄.here ⟨Fl.next, V, σ₄, I₄, at₄.fr (at₃.fr (at₂.fr (at₁.fr F))), rfl, q⟩)))).weaken fun _ z => nomatch z) fun _ _ x => x) (hs env)
theorem r_setU {i : Nat} {a : Addr} {o : Obj} {m m' : MO} {t : Nat} {Q : List MO → Prop} (I : Inv prog w GH s.heap B ρ σ) (ha : ρ[i]? = some a) (hm : σ[i]? = some m) (hd : m ≠ .dead) (hs : Heap.SameBut a s.heap h') (ho : h'.get? a = some o) (r : MRel prog w B ρ o m') (h : Q (σ.set i m')) :
    After [] s B ρ (fun s' B' ρ' => ∃ σ', Inv prog w GH s'.heap B' ρ' σ' ∧ Q σ') { s with heap := h', toks := t } :=
  let ⟨I', S'⟩ := I.changed ha hm hd hs ho r; ⟨B, ρ, ⟨_, _, rfl⟩, S' [], _, I', h⟩
theorem relAL_set : ∀ {l : List AV} {us : List Value} {i : Nat} {p : AV} {v : Value}, RelAL prog w B ρ l us → RelA prog w B ρ p v → RelAL prog w B ρ (l.set i p) (us.set i v)
  | [], us, i, p, v, r, _ => by cases (show us = [] from r); exact rfl
  | x :: l, us, i, p, v, ⟨u, us', r, r1, r2⟩, rv => by
    subst r
    cases i with
    | zero => exact ⟨v, us', rfl, rv, r2⟩
    | succ i => exact ⟨u, us'.set i v, rfl, r1, relAL_set r2 rv⟩
theorem set_obj {a : Addr} {its : Array Value} {n : Nat} (ho : h.get? a = some { cls := .type "list", data := .seq its n }) (f : Array Value → Array Value) : ∃ m, (h.update a (Obj.mapSeq f)).get? a = some { cls := .type "list", data := .seq (f its) m } := ⟨_, PySem.IsL.update ho f⟩
theorem set_A {n : Nat} {l : List AV} {i : Int} {v : AV} {Q : List MO → Prop} (ha : σ[n]? = some (.alst l)) (h0 : 0 ≤ i) (hi : i.toNat < l.length) (hl : l.length ≤ 1000000) (h : Q (σ.set n (.alst (l.set i.toNat v)))) : Set3 prog w GH k (.loc n) (.pv (.int i)) v σ Q := fun A s B ρ u x y R I ra ⟨t, e⟩ rv => by
  subst e
  refine x2a3 (view_loc I ra ha) fun a o hρ Z1 Z2 => ?_; obtain rfl := Z1; obtain ⟨ho, Z3⟩ := Z2; refine x2a2 Z3 fun its n' q1 q2 => ?_; clear Z3
  subst q1
  have hlist : s.heap.IsList a its := ⟨_, ho, rfl, _, rfl⟩
  have e' : its.size = l.length := by rw [← q2.length]; simp
  have hn := set_obj (its := its) (n := n') ho (fun xs => xs.setIfInBounds i.toNat y)
  refine ki_setAt ho h0 (by omega) (by omega) (r_setU (t := s.toks) I hρ ha (by simp) (Heap.SameBut.update ..) hn.choose_spec (m' := .alst (l.set i.toNat v)) ⟨_, _, rfl, ?_⟩ h)
  have : (its.setIfInBounds i.toNat y).toList = its.toList.set i.toNat y := by simp
  rw [this]; exact relAL_set q2 rv
noncomputable def putK {K : Type} [DecidableEq K] (ks : List K) (x : K) : List K := if x ∈ ks then ks else ks ++ [x]
noncomputable def putV {K α : Type} [DecidableEq K] : List K → List α → K → α → List α
  | k :: ks, v :: vs, x, p => if k = x then p :: vs else v :: putV ks vs x p
  | _, vs, _, p => vs ++ [p]
theorem putV_length {K α : Type} [DecidableEq K] {x : K} {p : α} {ks : List K} : ∀ {vs : List α}, vs.length = ks.length → (putV ks vs x p).length = (putK ks x).length := by
  induction ks with
  | nil =>
    intro vs h
    rw [List.length_eq_zero_iff.mp h, putK, if_neg List.not_mem_nil]; rfl
  | cons k ks ih =>
    intro vs h
    cases vs with
    | nil => cases h
    | cons v vs =>
      have ih := ih (Nat.succ.inj h)
      show (if k = x then p :: vs else v :: putV ks vs x p).length = _
      by_cases q : k = x
      · rw [if_pos q, putK, if_pos (q ▸ List.mem_cons_self ..)]; exact h
      · rw [if_neg q]
        simp only [List.length_cons, ih, putK, List.mem_cons, Ne.symm q, false_or]
        split <;> simp
theorem putV_rel {K : Type} [DecidableEq K] {x : K} {p : PV} {y : Value} (r : Rel prog w B p y) {ks : List K} : ∀ {vs : List PV} {us : List Value}, RelL prog w B vs us → us.length = ks.length → RelL prog w B (putV ks vs x p) (putV ks us x y) := by
  induction ks with
  | nil =>
    intro vs us h hl
    cases List.length_eq_zero_iff.mp hl
    cases vs with
    | nil => exact ⟨y, [], rfl, r, rfl⟩
    | cons v vs => exact x2a3 h fun _ _ e _ _ => nomatch e
  | cons k ks ih =>
    intro vs us h hl
    cases vs with
    | nil => cases (show us = [] from h); cases hl
    | cons v vs =>
      refine x2a3 h fun u us' e r1 r2 => ?_
      subst e
      show RelL prog w B (if k = x then p :: vs else v :: putV ks vs x p) (if k = x then y :: us' else u :: putV ks us' x y)
      by_cases q : k = x
      · rw [if_pos q, if_pos q]; exact ⟨y, us', rfl, r, r2⟩
      · rw [if_neg q, if_neg q]; exact ⟨u, _, rfl, r1, ih r2 (Nat.succ.inj hl)⟩
theorem putV_eq {K α : Type} [DecidableEq K] {x : K} {p v : α} {ks : List K} {vs : List α} : putV (x :: ks) (v :: vs) x p = p :: vs := if_pos rfl
theorem putV_ne {K α : Type} [DecidableEq K] {k x : K} {p v : α} {ks : List K} {vs : List α} (q : ¬ k = x) : putV (k :: ks) (v :: vs) x p = v :: putV ks vs x p := if_neg q
theorem putK_of {K : Type} [DecidableEq K] {ks : List K} {x : K} (h : x ∈ ks) : putK ks x = ks := if_pos h
theorem putK_no {K : Type} [DecidableEq K] {ks : List K} {x : K} (h : x ∉ ks) : putK ks x = ks ++ [x] := if_neg h
theorem stored_zip {K : Type} [DecidableEq K] {x : K} {y : Value} {ks : List K} : ∀ {us : List Value}, us.length = ks.length → ks.Nodup → stored (ks.zip us) x y = (putK ks x).zip (putV ks us x y) := by
  induction ks with
  | nil =>
    intro us h _
    cases List.length_eq_zero_iff.mp h; rfl
  | cons k ks ih =>
    intro us h nd
    cases us with
    | nil => cases h
    | cons u us =>
      obtain ⟨hk, nd⟩ := List.nodup_cons.mp nd
      have ih := ih (Nat.succ.inj h) nd
      by_cases q : k = x
      · subst q
        rw [putK_of (List.mem_cons_self ..), putV_eq, List.zip_cons_cons, List.zip_cons_cons]
        unfold stored
        rw [if_pos (by simp), List.map_cons, if_pos rfl]
        congr 1
        have : (ks.zip us).map (fun kv => if kv.1 = k then (kv.1, y) else kv) = (ks.zip us).map id := List.map_congr_left fun kv hkv => by
          rw [if_neg (fun (e : kv.1 = k) => hk (e ▸ (List.of_mem_zip (a := kv.1) (b := kv.2) hkv).1))]; rfl
        rw [this, List.map_id]
      · rw [putV_ne q, List.zip_cons_cons]
        have es : stored ((k, u) :: ks.zip us) x y = (k, u) :: stored (ks.zip us) x y := by
          unfold stored
          simp only [List.any_cons, List.map_cons, decide_eq_false q, Bool.false_or, if_neg q]
          split <;> rfl
        rw [es, ih]
        by_cases z : x ∈ ks
        · rw [putK_of (List.mem_cons_of_mem _ z), putK_of z, List.zip_cons_cons]
        · rw [putK_no (fun m => (List.mem_cons.mp m).elim (fun e => q e.symm) z), putK_no z, List.cons_append, List.zip_cons_cons]
theorem keys_nodup {K : Type} [DecidableEq K] {knd : KeyKind prog w K} {o : Obj} {ks : List K} {us : List Value} (hd : o.IsDictOf knd (ks.zip us)) (hl : us.length = ks.length) : ks.Nodup := by
  have := keysNodup_of_isDictOf hd
  rwa [show (ks.zip us).map (·.1) = ks from by rw [List.map_fst_zip]; omega] at this
theorem set_D {n : Nat} {ks : List Int} {vs : List PV} {i : Int} {p : PV} {Q : List MO → Prop} (ha : σ[n]? = some (.dctI ks vs)) (hl : ks.length ≤ 1000000) (h : Q (σ.set n (.dctI (putK ks i) (putV ks vs i p)))) : Set3 prog w GH k (.loc n) (.pv (.int i)) (.pv p) σ Q := fun A s B ρ u x y R I ra ⟨t, e⟩ rv => by
  subst e
  refine x2a3 (view_loc I ra ha) fun a o hρ Z1 Z2 => ?_; obtain rfl := Z1; obtain ⟨ho, Z3⟩ := Z2; refine x1a3 Z3 fun us q1 q2 q3 => ?_; clear Z3
  refine wpAny_setItem_pairs (intKind_is _ _ i t) (Heap.dictOf_iff.mpr ⟨o, ho, q1⟩) (fun h' hd' hs => ?_) (by rw [sizeLine_eq]; simp; omega)
  refine x1a2 (Heap.dictOf_iff.mp hd') fun o' ho' hd' => ?_
  rw [stored_zip q2 (keys_nodup q1 q2)] at hd'
  exact r_setU I hρ ha (by simp) hs ho' (m' := .dctI (putK ks i) (putV ks vs i p)) ⟨_, hd', putV_length q2, putV_rel rv q3 q2⟩ h
theorem set_DS {n : Nat} {ks : List Str} {vs : List PV} {i : Str} {p : PV} {Q : List MO → Prop} (ha : σ[n]? = some (.dctS ks vs)) (hl : ks.length ≤ 1000000) (h : Q (σ.set n (.dctS (putK ks i) (putV ks vs i p)))) : Set3 prog w GH k (.loc n) (.pv (.str i)) (.pv p) σ Q := fun A s B ρ u x y R I ra ⟨t, e⟩ rv => by
  subst e
  refine x2a3 (view_loc I ra ha) fun a o hρ Z1 Z2 => ?_; obtain rfl := Z1; obtain ⟨ho, Z3⟩ := Z2; refine x1a3 Z3 fun us q1 q2 q3 => ?_; clear Z3
  refine wpAny_setItem_pairs (strKind_is _ _ i t) (Heap.dictOf_iff.mpr ⟨o, ho, q1⟩) (fun h' hd' hs => ?_) (by rw [sizeLine_eq]; simp; omega)
  refine x1a2 (Heap.dictOf_iff.mp hd') fun o' ho' hd' => ?_
  rw [stored_zip q2 (keys_nodup q1 q2)] at hd'
  exact r_setU I hρ ha (by simp) hs ho' (m' := .dctS (putK ks i) (putV ks vs i p)) ⟨_, hd', putV_length q2, putV_rel rv q3 q2⟩ h
end
section
variable {prog : Program} {w : World} {GH : Heap} {mg mb : Str → Option Value} {A : Around} {env : Env} {s : Shared} {h h' : Heap} {B B' : FB} {ρ ρ' : List Addr} {σ : List MO} {sc : Scope} {k : Nat} {V : VEnv} {e : Expr} {Q : AV → List MO → Prop}
-- methods of lists
theorem view_llist {n : Nat} {u : Value} {l : List PV} (I : Inv prog w GH h B ρ σ) (r : RelA prog w B ρ (.loc n) u) (hm : σ[n]? = some (.lst l)) : ∃ a its m, ρ[n]? = some a ∧ u = .ref a ∧ h.get? a = some { cls := .type "list", data := .seq its m } ∧ RelL prog w B l its.toList := by
  refine x2a4 (view_loc I r hm) fun a o e1 e2 ho Z1 => ?_; refine x2a2 Z1 fun its m q1 q2 => ?_; clear Z1
  subst q1; exact ⟨a, its, m, e1, e2, ho, q2⟩
theorem mb_list {a : AV} {l : List PV} {name : Str} {id : String} (ha : asList σ a = some l) (sl : Slot "list" name id) (ty : typeOf (.builtin id) = pure (.type "method_descriptor")) : MethB prog w GH a σ name id := fun s B ρ u I r => by
  refine x3a2 (view_list I r ha) fun x its n Z1 Z2 => ?_; obtain rfl := Z1; obtain ⟨hx, q⟩ := Z2
  exact ⟨"list", PySem.F.plainAttrs_list, sl, ty, ⟨_, hx, rfl⟩, fun a e => by cases e; exact ⟨_, hx, rfl⟩⟩
theorem mb_bytes {x : Array UInt8} {name : Str} {id : String} (sl : Slot "bytes" name id) (ty : typeOf (.builtin id) = pure (.type "method_descriptor")) : MethB prog w GH (.pv (.bytes x)) σ name id := fun s B ρ u I r => by
  obtain ⟨t, rfl⟩ := r
  exact ⟨"bytes", PySem.W.FB.plainAttrs_bytes, sl, ty, typeIs_bytes _ _ _, fun a e => by cases e⟩
theorem mb_dictI (G : GOK GH mg mb) {a : AV} {ks : List Int} {vs : List PV} {name : Str} {id : String} (ha : asDictI σ a = some (ks, vs)) (sl : Slot "dict" name id) (ty : typeOf (.builtin id) = pure (.type "method_descriptor")) : MethB prog w GH a σ name id := fun s B ρ u I r => by
  refine x2a2 (view_dictI G I r ha) fun x us Z1 Z2 => ?_; obtain rfl := Z1; refine x0a4 Z2 fun hx hd hl q => ?_; clear Z2
  refine x3a3 (_root_.id hd) fun o es ep ho ex _ => ?_
  exact ⟨"dict", PySem.F.plainAttrs_dict, sl, ty, hd.typeIs, fun a e => by cases e; exact ⟨_, ho, ex.2.1⟩⟩
theorem relL_append : ∀ {l m : List PV} {us vs : List Value}, RelL prog w B l us → RelL prog w B m vs → RelL prog w B (l ++ m) (us ++ vs)
  | [], m, us, vs, r, r' => by cases (show us = [] from r); exact r'
  | p :: l, m, us, vs, ⟨u, us', e, r1, r2⟩, r' => by subst e; exact ⟨u, us' ++ vs, rfl, r1, relL_append r2 r'⟩
theorem relL_one {p : PV} {u : Value} (r : Rel prog w B p u) : RelL prog w B [p] [u] := ⟨u, [], rfl, r, rfl⟩
theorem c_append {n : Nat} {l : List PV} {p : PV} (ha : σ[n]? = some (.lst l)) (hl : l.length ≤ 1000000) (h : Q (.pv .none) (σ.set n (.lst (l ++ [p])))) : COk prog w GH k (.builtin "list.append") [.loc n, .pv p] σ Q := fun A s B ρ us R I ra => by
  refine x2a2 (args2 ra) fun u v Z1 Z2 => ?_; obtain rfl := Z1; obtain ⟨r1, r2⟩ := Z2
  refine x3a3 (view_llist I r1 ha) fun x its m hρ Z3 Z4 => ?_; obtain rfl := Z3; obtain ⟨hx, q⟩ := Z4
  have e' : its.size = l.length := by rw [← q.length]; simp
  refine wpAny_list_append_plain (hsz := by rw [sizeLine_eq]; omega) ⟨m, hx⟩ fun h' ⟨m', pl⟩ hs => r_set (t := s.toks) (m' := .lst (l ++ [p])) I hρ ha (by simp) hs pl ⟨_, m', rfl, ?_⟩ relA_none h
  rw [Array.toList_push]
  exact relL_append q (relL_one r2)
theorem relL_snoc {l : List PV} {p : PV} {us : List Value} (r : RelL prog w B (l ++ [p]) us) : ∃ vs v, us = vs ++ [v] ∧ RelL prog w B l vs ∧ Rel prog w B p v := by
  induction l generalizing us with
  | nil => refine x2a2 r fun u us' Z1 Z2 => ?_; clear r; obtain rfl := Z1; obtain ⟨r1, r2⟩ := Z2; cases (show us' = [] from r2); exact ⟨[], u, rfl, rfl, r1⟩
  | cons x l ih =>
    refine x2a2 r fun u us' Z3 Z4 => ?_; clear r; obtain rfl := Z3; obtain ⟨r1, r2⟩ := Z4
    refine x2a2 (ih r2) fun vs v Z5 Z6 => ?_; obtain rfl := Z5; obtain ⟨r3, r4⟩ := Z6
    exact ⟨u :: vs, v, rfl, ⟨u, vs, rfl, r1, r3⟩, r4⟩
theorem c_pop {n : Nat} {l : List PV} {p : PV} (ha : σ[n]? = some (.lst (l ++ [p]))) (hl : l.length ≤ 1000000) (h : Q (.pv p) (σ.set n (.lst l))) : COk prog w GH k (.builtin "list.pop") [.loc n] σ Q := fun A s B ρ us R I ra => by
  refine x1a2 (args1 ra) fun u Z1 r1 => ?_; obtain rfl := Z1
  refine x3a3 (view_llist I r1 ha) fun x its m hρ Z2 Z3 => ?_; obtain rfl := Z2; obtain ⟨hx, q⟩ := Z3
  refine x2a3 (relL_snoc q) fun vs v e r2 r3 => ?_
  have ei : its = (vs ++ [v]).toArray := by rw [← e, Array.toArray_toList]
  subst ei
  have hvl := r2.length
  have hk : (vs ++ [v]).toArray.size - 1 = vs.length := by rw [List.size_toArray, List.length_append]; rfl
  obtain ⟨m', hm'⟩ := set_obj hx fun xs => xs.eraseIdxIfInBounds ((vs ++ [v]).toArray.size - 1)
  refine call_meets PySem.F.slot_list_pop ⟨_, hx, rfl⟩ PySem.F.entry_list_pop (PySem.F.args_list_pop_1 _) (PySem.MeetsSeq.list_pop_last x _ m v (by rw [hk]; simp) (by rw [sizeLine_eq]; simp; omega)) ⟨hx, ?_⟩
  refine r_set (t := s.toks) (m' := .lst l) I hρ ha (by simp) (Heap.SameBut.update ..) hm' ⟨_, _, rfl, ?_⟩ (relA_pv r3) h
  rw [hk, kl_erase, List.append_nil]; exact r2
theorem c_pop0 {n : Nat} {l : List PV} {p : PV} (ha : σ[n]? = some (.lst (p :: l))) (hl : l.length ≤ 1000000) (h : Q (.pv p) (σ.set n (.lst l))) : COk prog w GH k (.builtin "list.pop") [.loc n, .pv (.int 0)] σ Q := fun A s B ρ us R I ra => by
  refine x2a2 (args2 ra) fun u t Z1 Z2 => ?_; obtain rfl := Z1; obtain ⟨r1, Z3⟩ := Z2; obtain ⟨tt, Z4⟩ := Z3; obtain rfl := Z4
  refine x3a3 (view_llist I r1 ha) fun x its m hρ Z5 Z6 => ?_; obtain rfl := Z5; obtain ⟨hx, Z7⟩ := Z6; refine x2a3 Z7 fun v vs e r2 r3 => ?_; clear Z7
  have ei : its = ([] ++ v :: vs).toArray := by rw [List.nil_append, ← e, Array.toArray_toList]
  subst ei
  have hvl := r3.length
  obtain ⟨m', hm'⟩ := set_obj hx fun xs => xs.eraseIdxIfInBounds ([] : List Value).length
  refine call_meets PySem.F.slot_list_pop ⟨_, hx, rfl⟩ PySem.F.entry_list_pop (PySem.F.args_list_pop_2 _ _) (PySem.MeetsSeq.list_pop_at x _ m 0 _ ([] : List Value).length v (by decide) (by simp [seqIndex?]) (by simp) (by rw [sizeLine_eq]; simp; omega)) ⟨hx, ?_⟩
  refine r_set (t := s.toks) (m' := .lst l) I hρ ha (by simp) (Heap.SameBut.update ..) hm' ⟨_, _, rfl, ?_⟩ (relA_pv r2) h
  rw [kl_erase]; exact r3
-- in
theorem o_inL {i : Int} {a : AV} {ns : List Int} (ha : asList σ a = some (ns.map .int)) (h : Q (.pv (.bool (ns.any (· == i)))) σ) : Op2 prog w GH k (compareOp .In) (.pv (.int i)) a σ Q := fun A s B ρ u v R I ⟨t, e⟩ rb => by
  subst e
  refine x3a2 (view_list I rb ha) fun x its n Z1 Z2 => ?_; obtain rfl := Z1; obtain ⟨hx, q⟩ := Z2
  exact in_list_ints (vs := its.toList) ⟨_, hx, rfl, n, by simp⟩ (relL_ints q) (r_here I relA_bool h)
theorem o_ninL {i : Int} {a : AV} {ns : List Int} (ha : asList σ a = some (ns.map .int)) (h : Q (.pv (.bool (!(ns.any (· == i))))) σ) : Op2 prog w GH k (compareOp .NotIn) (.pv (.int i)) a σ Q := fun A s B ρ u v R I ⟨t, e⟩ rb => by
  subst e
  refine x3a2 (view_list I rb ha) fun x its n Z1 Z2 => ?_; obtain rfl := Z1; obtain ⟨hx, q⟩ := Z2
  exact notin_list_ints (vs := its.toList) ⟨_, hx, rfl, n, by simp⟩ (relL_ints q) (r_here I relA_bool h)
theorem o_ninT {i : Int} {ns : List Int} (h : Q (.pv (.bool (!(ns.any (· == i))))) σ) : Op2 prog w GH k (compareOp .NotIn) (.pv (.int i)) (.pv (.tup (ns.map .int))) σ Q := fun A s B ρ u v R I ⟨t, e⟩ rb => by
  subst e
  refine x3a2 rb fun x its n Z1 Z2 => ?_; clear rb; obtain rfl := Z1; obtain ⟨hb, q⟩ := Z2
  exact notin_tuple_ints ⟨_, I.base _ _ hb, rfl, n, rfl⟩ (relL_ints q) (r_here I relA_bool h)
theorem o_inD (G : GOK GH mg mb) {i : Int} {a : AV} {ks : List Int} {vs : List PV} (ha : asDictI σ a = some (ks, vs)) (h : Q (.pv (.bool (decide (i ∈ ks)))) σ) : Op2 prog w GH k (compareOp .In) (.pv (.int i)) a σ Q := fun A s B ρ u v R I ⟨t, e⟩ rb => by
  subst e
  refine x2a2 (view_dictI G I rb ha) fun x us Z1 Z2 => ?_; obtain rfl := Z1; refine x0a4 Z2 fun hx hd hl q => ?_; clear Z2
  refine wpAny_in_of (intKind_is _ _ i t) hx hd.mapOf (r_tok I ?_ h)
  rw [vAt_none hl]; exact relA_bool
-- sums of sequences
theorem o_addL {a b : AV} {l m : List PV} (ha : asList σ a = some l) (hb : asList σ b = some m) (hl : l.length + m.length ≤ 1000000) (h : Q (.pv (.lst (l ++ m))) σ) : Op2 prog w GH k (binaryOp .Add) a b σ Q := fun A s B ρ u v R I ra rb => by
  refine x3a2 (view_list I ra ha) fun x its n Z1 Z2 => ?_; obtain rfl := Z1; obtain ⟨hx, q⟩ := Z2
  refine x3a2 (view_list I rb hb) fun y its' n' Z3 Z4 => ?_; obtain rfl := Z3; obtain ⟨hy, q'⟩ := Z4
  have e1 : its.size = l.length := by rw [← q.length]; simp
  have e2 : its'.size = m.length := by rw [← q'.length]; simp
  exact P.add_list hx hy (r_newL (t := s.toks) I (size_none _) (push_keeps _ _) (Heap.get?_push_size _ rfl) (by rw [Array.toList_append]; exact relL_append q q') h) (by rw [sizeLine_eq]; omega)
theorem o_addT {p p' : PV} {l m : List PV} (hl : l.length + m.length ≤ 1000000) (h : Q (.pv (.tup (p :: l ++ p' :: m))) σ) : Op2 prog w GH k (binaryOp .Add) (.pv (.tup (p :: l))) (.pv (.tup (p' :: m))) σ Q := fun A s B ρ u v R I ra rb => by
  refine x3a2 ra fun x its n Z1 Z2 => ?_; clear ra; obtain rfl := Z1; obtain ⟨hx, q⟩ := Z2
  refine x3a2 rb fun y its' n' Z3 Z4 => ?_; clear rb; obtain rfl := Z3; obtain ⟨hy, q'⟩ := Z4
  have e1 : its.size = l.length + 1 := by have := q.length; simpa using this
  have e2 : its'.size = m.length + 1 := by have := q'.length; simpa using this
  exact P.add_tuple (I.base _ _ hx) (I.base _ _ hy) (by simp; intro z; subst z; simp at e1) (by simp; intro z; subst z; simp at e2) (r_newT (t := s.toks) I (size_none _) (push_keeps _ _) (Heap.get?_push_size _ rfl) (by rw [Array.toList_append]; exact relL_append q q') h) (by rw [sizeLine_eq]; omega)
theorem o_addT0 {p : PV} {l : List PV} (h : Q (.pv (.tup (p :: l))) σ) : Op2 prog w GH k (binaryOp .Add) (.pv (.tup (p :: l))) (.pv (.tup [])) σ Q := fun A s B ρ u v R I ra rb => by
  refine x3a2 (id ra) fun x its n Z1 Z2 => ?_; obtain rfl := Z1; obtain ⟨hx, q⟩ := Z2
  refine x3a2 (id rb) fun y its' n' Z3 Z4 => ?_; obtain rfl := Z3; obtain ⟨hy, q'⟩ := Z4
  have e1 : its.size = l.length + 1 := by have := q.length; simpa using this
  have e2 : its'.size = 0 := by have := q'.length; simpa using this
  exact concat_meets ⟨_, I.base _ _ hx, rfl⟩ ⟨_, I.base _ _ hy, rfl⟩ noFill_tuple_add seq_tuple_add PySem.F.slot_tuple_add PySem.F.entry_tuple_add (PySem.F.args_tuple_add_2 _ _) (AutoSeq1.tuple___add___tuple_tuple_1 x its n y its' n' (by simp; intro z; subst z; simp at e1) (by simp; exact Array.eq_empty_of_size_eq_zero e2)) ⟨I.base _ _ hx, I.base _ _ hy, r_here I (relA_pv ra) h⟩
end
section
variable {prog : Program} {w : World} {GH : Heap} {mg mb : Str → Option Value} {A : Around} {env : Env} {s : Shared} {h h' : Heap} {B B' : FB} {ρ ρ' : List Addr} {σ : List MO} {sc : Scope} {k : Nat} {V : VEnv} {e : Expr} {Q : AV → List MO → Prop}
theorem c_maxL {a : AV} {ns : List Int} (ha : asList σ a = some (ns.map .int)) (hne : 0 < ns.length) (h : ∀ M, M ∈ ns → (∀ a, a ∈ ns → a ≤ M) → Q (.pv (.int M)) σ) : COk prog w GH k (.builtin "max") [a] σ Q := fun A s B ρ us R I ra => by
  refine x1a2 (args1 ra) fun u Z1 r => ?_; obtain rfl := Z1
  refine x3a2 (view_list I r ha) fun x its n Z2 Z3 => ?_; obtain rfl := Z2; obtain ⟨hx, q⟩ := Z3
  have hi : IntsAre its.toList ns := relL_ints q
  obtain ⟨xs, e⟩ := hi.allInts.items
  have hns : ns = xs.toList.map (·.1) := by
    rw [← hi.numsOf, ← nums_intItems, ← e]
  have hsz : 0 < xs.size := by
    have h3 := hne; rw [hns, List.length_map, Array.length_toList] at h3; exact h3
  have hl : s.heap.IsList x its.toList.toArray := ⟨_, hx, rfl, n, by simp⟩
  rw [e] at hl
  refine max_intList R.handled hl hsz fun v h' tk hv hk => ?_
  obtain ⟨t, rfl⟩ := intItems_at hv
  obtain ⟨h1, h2⟩ := argBest_gt (numAt xs) (xs.size - 1)
  refine r_grown I hk relA_int (h _ ?_ fun a ha => ?_)
  · rw [hns, numAt_eq]; exact getD_mem (by rw [List.length_map, Array.length_toList]; omega)
  · rw [hns] at ha
    refine x1a2 (mem_getD ha) fun j hj Z5 => ?_; obtain rfl := Z5
    rw [List.length_map, Array.length_toList] at hj
    rw [← numAt_eq]; exact h2 j (by omega)
theorem c_max2 {x y : Int} (h : Q (.pv (.int (if y > x then y else x))) σ) : COk prog w GH k (.builtin "max") [.pv (.int x), .pv (.int y)] σ Q := fun A s B ρ us R I ra => by
  refine x2a2 (args2 ra) fun u v Z1 Z2 => ?_; obtain rfl := Z1; obtain ⟨Z3, Z4⟩ := Z2; obtain ⟨t, rfl⟩ := Z3; obtain ⟨t', Z5⟩ := Z4; obtain rfl := Z5
  refine max_two_ints R.handled fun h' tk hk => ?_
  by_cases q : y > x
  · rw [if_pos q] at h ⊢; exact r_grown I hk relA_int h
  · rw [if_neg q] at h ⊢; exact r_grown I hk relA_int h
theorem c_sortedL {a : AV} {ns : List Int} (ha : asList σ a = some (ns.map .int)) (hl : ns.length < 64) (h : ∀ ns' : List Int, ns'.Perm ns → ns'.Pairwise (· ≤ ·) → Q (.pv (.lst (ns'.map .int))) σ) : COk prog w GH k (.builtin "sorted") [a] σ Q := fun A s B ρ us R I ra => by
  refine x1a2 (args1 ra) fun u Z1 r => ?_; obtain rfl := Z1
  refine x3a2 (view_list I r ha) fun x its n Z2 Z3 => ?_; obtain rfl := Z2; obtain ⟨hx, q⟩ := Z3
  have e' : its.toList.length = ns.length := by rw [q.length]; simp
  refine sorted_ints (vs := its.toList) ⟨_, hx, rfl, n, by simp⟩ (relL_ints q) (by omega) fun out ns' a1 a2 a3 => ?_
  obtain ⟨ep, he⟩ := sortedAll_at s.heap its.toList out
  exact r_newL (t := s.toks) I (none_of_ge (Nat.le_succ _)) (fun _ _ => sortedAll_old) he (ints_relL a1) (h ns' a2 a3)
theorem ints_of_items {ks : List Int} {us : List Value} {vs : List Value} (hu : us.length = ks.length) (hl : vs.length = (ks.zip us).length) (hv : ∀ (j : Nat) (v : Value), vs[j]? = some v → ∃ (k : Int) (x : Value), (ks.zip us)[j]? = some (k, x) ∧ (PySem.intKind prog w).is k v = true) : IntsAre vs ks := by
  have hlen : vs.length = ks.length := by rw [hl]; simp [hu]
  clear hl
  induction ks generalizing us vs with
  | nil => cases vs <;> first | exact .nil | cases hlen
  | cons k ks ih =>
    cases us with
    | nil => cases hu
    | cons u us =>
      cases vs with
      | nil => cases hlen
      | cons v vs =>
        obtain ⟨k', x, e1, e2⟩ := hv 0 v rfl
        simp at e1
        obtain ⟨t, rfl⟩ := Value.isInt_shape e2
        rw [← e1.1]
        exact .cons k t (ih (us := us) (Nat.succ.inj hu) (fun j v e => hv (j + 1) v (by simpa using e)) (Nat.succ.inj hlen))
theorem c_sortedD (G : GOK GH mg mb) {a : AV} {ks : List Int} {vs : List PV} (ha : asDictI σ a = some (ks, vs)) (hl : ks.length < 64) (h : ∀ ns' : List Int, ns'.Perm ks → ns'.Pairwise (· ≤ ·) → Q (.pv (.lst (ns'.map .int))) σ) : COk prog w GH k (.builtin "sorted") [a] σ Q := fun A s B ρ us R I ra => by
  refine x1a2 (args1 ra) fun u Z1 r => ?_; obtain rfl := Z1
  refine x2a2 (view_dictI G I r ha) fun x us Z2 Z3 => ?_; obtain rfl := Z2; refine x0a4 Z3 fun hx hd hu q => ?_; clear Z3
  obtain ⟨ep, hat⟩ := hd.dictAt
  refine PySem.Calls.call_function_entry kind_sorted plain_sorted entry_sorted (args_sorted1 _) ?_
  unfold Builtin.«sorted»
  refine wpAny_bind (m := checkCount "sorted" 1 1 _) (wpAny_pure ?_)
  have hz : (ks.zip us).length = ks.length := by simp [hu]
  refine wpAny_bind (kdu_collect (A := A.in1) (kdl_dict (knd := PySem.intKind prog w) (kvs := ks.zip us) (ep := ep) hx) R.handled hat (by rw [hz, sizeLine_eq]; omega) fun h' tk acc hk hacc => ?_)
  have hI : IntsAre acc.toList ks := ints_of_items hu (by rw [Array.length_toList]; exact hacc.1) fun j v e => hacc.2 j v (by rw [← Array.getElem?_toList]; exact e)
  have hlen : acc.toList.length = ks.length := by rw [Array.length_toList, hacc.1, hz]
  refine wpAny_bind (wpAny_newList ?_ (by rw [hlen, sizeLine_eq]; omega))
  have hoL : (h'.push { cls := .type "list", data := .seq acc.toList.toArray }).get? h'.objs.size = some (seqObj "list" acc.toList.toArray 0) := Heap.get?_push_size _ rfl
  refine wpAny_bind (wpAny_holding (wpAny_call_entry slot_list_sort ⟨_, hoL, rfl⟩ entry_list_sort (list_sort_tree hoL hI (by omega) fun out ns' a1 a2 a3 => ⟨_, rfl, ?_⟩) (args_list_sort _)))
  refine wpAny_pure ⟨_, rfl, ?_⟩
  have hk' : ∀ b o, s.heap.get? b = some o → (sortedHeap (h'.push { cls := .type "list", data := .seq acc.toList.toArray }) h'.objs.size acc.toList out).get? b = some o := fun b o e => by
    have hb := hk b o e
    have hlt : @LT.lt Nat _ b h'.objs.size := Heap.lt_size hb
    rw [sortedHeap_old (Nat.ne_of_lt hlt) (by rw [Heap.size_push]; exact Nat.lt_succ_of_lt hlt)]
    exact Heap.get?_push_of_some _ hb
  obtain ⟨e, he⟩ := sortedHeap_at (out := out) hoL
  refine r_newL (t := tk) I ?_ hk' he (ints_relL a1) (h ns' a2 a3)
  cases z : s.heap.get? h'.objs.size with
  | none => rfl
  | some o => exact absurd (Heap.lt_size (hk _ _ z)) (Nat.lt_irrefl _)
theorem c_listRng {m n : Int} (hs : Builtin.Range.small m n 1 = true) (hl : (n - m).toNat ≤ 1000000) (h : Q (.pv (.lst (rngL m n))) σ) : COk prog w GH k (.type "list") [.pv (.rng m n)] σ Q := fun A s B ρ us R I ra => by
  refine x1a2 (args1 ra) fun u Z1 Z2 => ?_; obtain rfl := Z1; refine x4a2 Z2 fun r t u' v Z3 hb => ?_; clear Z2; obtain rfl := Z3
  have hx := I.base _ _ hb
  refine call_list_range (n := (n - m).toNat) R.handled hx hs (rangeSize_one m n) (by omega) fun h' tk acc c hk ha hit => ?_
  refine r_newL (t := tk) I (size_none _) hk ha ?_ h
  obtain ⟨h1, h2⟩ := hit
  have key : ∀ (j : Nat) (us : List Value), us.length = (n - m).toNat - j → (∀ (i : Nat) (v : Value), us[i]? = some v → ∃ t, v = Value.int (m + ((j + i : Nat) : Int) * 1) t) → j ≤ (n - m).toNat → RelL prog w B ((rngL m n).drop j) us := by
    intro j us
    induction us generalizing j with
    | nil =>
      intro hl _ hj
      have : (rngL m n).drop j = [] := List.drop_eq_nil_of_le (by simp [rngL]; simp at hl; omega)
      rw [this]; rfl
    | cons u us ih =>
      intro hl hv hj
      have hlt : j < (n - m).toNat := by simp at hl; omega
      have e1 : (rngL m n).drop j = .int (m + (j : Int)) :: (rngL m n).drop (j + 1) := by
        have hlt' : j < (rngL m n).length := by simpa [rngL] using hlt
        rw [List.drop_eq_getElem_cons hlt']
        congr 1
        simp [rngL]
      rw [e1]
      obtain ⟨t, e2⟩ := hv 0 u rfl
      refine ⟨u, us, rfl, ⟨t, by rw [e2]; simp⟩, ih (j + 1) (by simp at hl; omega) (fun i v e => ?_) (by omega)⟩
      obtain ⟨t, e3⟩ := hv (i + 1) v (by simpa using e)
      exact ⟨t, by rw [e3]; congr 3; omega⟩
  exact key 0 acc.toList (by rw [Array.length_toList, h1]; rfl) (fun i v e => by
    obtain ⟨t, e2⟩ := h2 i v (by rw [← Array.getElem?_toList]; exact e)
    exact ⟨t, by rw [e2]; simp⟩) (Nat.zero_le _)
theorem c_tupL {a : AV} {l : List PV} (ha : asList σ a = some l) (hl : l.length ≤ 1000000) (h : Q (.pv (.tup l)) σ) : COk prog w GH k (.type "tuple") [a] σ Q := fun A s B ρ us R I ra => by
  refine x1a2 (args1 ra) fun u Z1 r => ?_; obtain rfl := Z1
  refine x3a2 (view_list I r ha) fun x its n Z2 Z3 => ?_; obtain rfl := Z2; obtain ⟨hx, q⟩ := Z3
  have e' : its.toList.length = l.length := q.length
  refine call_tuple_list (hl := ⟨_, hx, rfl, n, rfl⟩) (hsz := by rw [sizeLine_eq]; simp at e'; omega) fun h' hk => ?_
  refine r_newT (t := s.toks) (a := h'.objs.size) I ?_ (fun b o e => Heap.get?_push_of_some _ (hk b o e)) (Heap.get?_push_size _ rfl) q h
  cases z : s.heap.get? h'.objs.size with
  | none => rfl
  | some o => exact absurd (Heap.lt_size (hk _ _ z)) (Nat.lt_irrefl _)
theorem dict0 {K : Type} [DecidableEq K] {knd : KeyKind prog w K} : ({ cls := .type "dict", data := .dict #[] } : Obj).IsDictOf knd [] := ⟨#[], 0, ⟨rfl, rfl, rfl⟩, rfl, fun _ he => by simp at he, Pairs.nil, List.nodup_nil⟩
theorem e_dictI (G : GOK GH mg mb) {p : Pos} (h : Q (.loc σ.length) (σ ++ [.dctI [] []])) : EOk prog w GH sc k (.Dict [] [] p) V σ Q := fun A env s B ρ R F I =>
  wpAny_Dict_empty (r_own (t := s.toks) (m := .dctI [] []) I (size_none _) (I.big G) (push_keeps _ _) (Heap.get?_push_size _ rfl) ⟨[], dict0, rfl, rfl⟩ h)
theorem e_dictS (G : GOK GH mg mb) {p : Pos} (h : Q (.loc σ.length) (σ ++ [.dctS [] []])) : EOk prog w GH sc k (.Dict [] [] p) V σ Q := fun A env s B ρ R F I =>
  wpAny_Dict_empty (r_own (t := s.toks) (m := .dctS [] []) I (size_none _) (I.big G) (push_keeps _ _) (Heap.get?_push_size _ rfl) ⟨[], dict0, rfl, rfl⟩ h)
theorem e_dictFI (G : GOK GH mg mb) {p : Pos} (h : Q (.pv (.dctI [] [])) σ) : EOk prog w GH sc k (.Dict [] [] p) V σ Q := fun A env s B ρ R F I =>
  wpAny_Dict_empty (r_new (t := s.toks) (p := .dctI [] []) I (size_none _) (push_keeps _ _) (Heap.get?_push_size _ rfl) ⟨_, _, [], rfl, G.lowNot (I.big G), FB.put_self _ _ _, dict0, rfl, rfl⟩ h)
end
structure Cl (GH : Heap) (K : Frag) (C : Addr) : Prop where
  X : K.In GH
  makes : makesIn K C = true
  ga : findIn K (.ref C) "__getattribute__" = some (some (.builtin "object.__getattribute__"))
  gx : findIn K (.ref C) "__getattr__" = some none
  sa : findIn K (.ref C) "__setattr__" = some (some (.builtin "object.__setattr__"))
  over : plainOver K C = true
  hasD : hasDictIn K C = true
noncomputable def asIns (σ : List MO) : AV → Option (Addr × List Str × List AV)
  | .pv (.ins c ks vs) => some (c, ks, vs.map .pv)
  | .loc n => match σ[n]? with
    | some (.ins c d) => match σ[d]? with
      | some (.ns ks vs) => some (c, ks, vs)
      | _ => none
    | _ => none
  | _ => none
theorem ents_at {name : Str} {es : List DictEntry} : ∀ {ks : List Str} {us : List Value} {v : Value}, Ents es ks us → vAt ks us name = some v → getL name es = some (some v) := by
  induction es with
  | nil =>
    intro ks us v he h
    cases ks <;> cases us <;> first | cases h | exact he.elim
  | cons e es ih =>
    intro ks us v he h
    cases ks with
    | nil => exact he.elim
    | cons k ks =>
      cases us with
      | nil => exact he.elim
      | cons u us =>
        obtain ⟨t, h1⟩ := he.1
        replace h : (if k = name then some u else vAt ks us name) = some v := h
        by_cases q : k = name
        · rw [if_pos q] at h; cases h
          subst q
          simp [getL, h1, Value.isStr, he.2.1]
        · rw [if_neg q] at h
          have ih := ih he.2.2 h
          have e1 : e.key.isStr name = false := by rw [h1]; exact beq_eq_false_iff_ne.mpr q
          unfold getL at ih ⊢
          rw [List.find?_cons, e1]
          have e2 : e.refKey = false := by rw [DictEntry.refKey, h1]
          simpa [List.any_cons, e2] using ih
theorem ents_none {name : Str} : ∀ {es : List DictEntry} {ks : List Str} {us : List Value}, Ents es ks us → name ∉ ks → (∀ e ∈ es, e.key.isStr name = false) ∧ (∀ e ∈ es, e.refKey = false)
  | [], [], [], _, _ => ⟨fun _ h => (nomatch h), fun _ h => nomatch h⟩
  | e :: es, k :: ks, u :: us, ⟨⟨t, h1⟩, h2, h3⟩, h => by
    obtain ⟨q1, q2⟩ := ents_none h3 (fun z => h (List.mem_cons_of_mem _ z))
    have e1 : e.key.isStr name = false := by rw [h1]; simp only [Value.isStr, beq_eq_false_iff_ne]; exact fun z => h (z ▸ List.mem_cons_self ..)
    have e2 : e.refKey = false := by simp [DictEntry.refKey, h1]
    exact ⟨fun x hx => (List.mem_cons.mp hx).elim (fun z => z ▸ e1) (q1 x), fun x hx => (List.mem_cons.mp hx).elim (fun z => z ▸ e2) (q2 x)⟩
  | [], _ :: _, _, h, _ => h.elim
  | [], [], _ :: _, h, _ => h.elim
  | _ :: _, [], _, h, _ => h.elim
  | _ :: _, _ :: _, [], h, _ => h.elim
theorem getL_none {name : Str} {es : List DictEntry} (h1 : ∀ e ∈ es, e.key.isStr name = false) (h2 : ∀ e ∈ es, e.refKey = false) : getL name es = some none := by
  unfold getL
  rw [List.find?_eq_none.mpr fun e he => by rw [h1 e he]; simp]
  simp only
  rw [if_neg (by
    intro q
    obtain ⟨e, he, z⟩ := List.any_eq_true.mp q
    rw [h2 e he] at z; cases z)]
theorem ents_app {es : List DictEntry} {ks : List Str} {us : List Value} {e : DictEntry} {k : Str} {t : Tok} {u : Value} (h : Ents es ks us) (hk : e.key = .str k t) (hv : e.val = u) : Ents (es ++ [e]) (ks ++ [k]) (us ++ [u]) := by
  induction es generalizing ks us with
  | nil => cases ks <;> cases us <;> first | exact ⟨⟨t, hk⟩, hv, trivial⟩ | exact h.elim
  | cons x es ih =>
    cases ks <;> cases us <;> first | exact h.elim | exact ⟨h.1, h.2.1, ih h.2.2⟩
section
variable {prog : Program} {w : World} {GH : Heap} {mg mb : Str → Option Value} {A : Around} {env : Env} {s : Shared} {h h' : Heap} {B B' : FB} {ρ ρ' : List Addr} {σ : List MO} {sc : Scope} {k : Nat} {V : VEnv} {e : Expr} {Q : AV → List MO → Prop} {K : Frag} {C : Addr}
theorem relAL_pv : ∀ {vs : List PV} {us : List Value}, RelL prog w B vs us → RelAL prog w B ρ (vs.map .pv) us
  | [], us, r => r
  | _ :: _, _, ⟨u, us', e, r1, r2⟩ => ⟨u, us', e, r1, relAL_pv r2⟩
theorem view_ins {a : AV} {u : Value} {c : Addr} {ks : List Str} {vs : List AV} (I : Inv prog w GH h B ρ σ) (r : RelA prog w B ρ a u) (hl : asIns σ a = some (c, ks, vs)) : ∃ x dx es n us, u = .ref x ∧ h.get? x = some (instObj c dx) ∧ h.get? dx = some (dictOf es n) ∧ Ents es ks us ∧ RelAL prog w B ρ vs us := by
  cases a with
  | pv p =>
    cases p <;> simp [asIns] at hl
    obtain ⟨rfl, rfl, rfl⟩ := hl
    refine x5a5 r fun a d es n us e b b' q => ?_; clear r; intro r
    exact ⟨a, d, es, n, us, e, I.base _ _ b, I.base _ _ b', q, relAL_pv r⟩
  | loc n =>
    simp only [asIns] at hl
    split at hl
    · rename_i c' d hm
      split at hl
      · rename_i ks' vs' hd; cases hl
        refine x2a4 (view_loc I r hm) fun a o e1 e2 ho Z5 => ?_; refine x1a2 Z5 fun a' e3 q => ?_; clear Z5
        obtain ⟨_, Z6⟩ := I.store d a' _ e3 hd; refine x1a2 Z6 fun o' ho' Z7 => ?_; clear Z6; refine x3a3 Z7 fun es n' us q1 q2 q3 => ?_; clear Z7
        subst q q1
        exact ⟨a, a', es, n', us, e2, ho, ho', q2, q3⟩
      · cases hl
    · cases hl
theorem vAt_relA {K : Type} [DecidableEq K] {x : K} {ks : List K} : ∀ {vs : List AV} {us : List Value} {p : AV}, RelAL prog w B ρ vs us → vAt ks vs x = some p → ∃ u, vAt ks us x = some u ∧ RelA prog w B ρ p u := by
  induction ks with
  | nil => exact fun _ h => nomatch h
  | cons k ks ih =>
    intro vs us p rl h
    cases vs with
    | nil => cases h
    | cons v vs =>
      refine x2a3 rl fun u us' e r1 r2 => ?_
      subst e
      replace h : (if k = x then some v else vAt ks vs x) = some p := h
      show ∃ w, (if k = x then some u else vAt ks us' x) = some w ∧ _
      by_cases q : k = x
      · rw [if_pos q] at h ⊢; cases h; exact ⟨u, rfl, r1⟩
      · rw [if_neg q] at h ⊢; exact ih r2 h
noncomputable def plainAV : AV → Bool
  | .pv (.cst _) => false
  | _ => true
theorem handed {v : AV} {u : Value} (hp : plainAV v = true) (r : RelA prog w B ρ v u) : handedIn u = true := by
  cases v with
  | loc n => obtain ⟨a, _, rfl⟩ := r; rfl
  | pv p =>
    cases p <;> first
      | (cases (show u = .none from r); rfl)
      | (cases (show u = .bool _ from r); rfl)
      | (obtain ⟨t, rfl⟩ := r; rfl)
      | (exact Bool.noConfusion hp)
      | (obtain ⟨x, its, n, rfl, _⟩ := r; rfl)
      | (obtain ⟨_, _, _, _, rfl, _⟩ := r; rfl)
      | (obtain ⟨_, _, _, _, _, rfl, _⟩ := r; rfl)
noncomputable def Att (prog : Program) (w : World) (GH : Heap) (k : Nat) (a : AV) (name : Str) (σ : List MO) (Q : AV → List MO → Prop) : Prop :=
  ∀ A s B ρ u, Room k A → Inv prog w GH s.heap B ρ σ → RelA prog w B ρ a u → wpAny (model prog w) A (getAttr u name true) (fun r => After [] s B ρ (VP prog w GH Q r)) (fun _ _ => False) s
theorem e_attr {o : Expr} {name : Str} {p : Pos} (h : EOk prog w GH sc k o V σ fun a σ₁ => Att prog w GH k a name σ₁ Q) (he : ∀ env, eval (.Attribute o name p) env = (do
      let x ← eval o env
      standAt p.atName
      let r ← holding [x] (getAttr x name true)
      letTemporaryGo o x r
      pure r) := by intro _; rfl) : EOk prog w GH sc k (.Attribute o name p) V σ Q := fun A env s B ρ R F I =>
  Attribute_any_ (h.go R F I fun u₁ s₁ B₁ ρ₁ a σ₁ at₁ r₁ h₁ => wpAny_mono (h₁ A s₁ B₁ ρ₁ u₁ R at₁.inv r₁) (fun _ _ x => at₁.then0 x) fun _ _ x => x) (he env)
theorem at_ins {a : AV} {name : Str} {ks : List Str} {vs : List AV} {v : AV} (cl : Cl GH K C) (ha : asIns σ a = some (C, ks, vs)) (hv : vAt ks vs name = some v) (hp : plainAV v = true) (h : Q v σ) (hf : findIn K (.ref C) name = some none) : Att prog w GH k a name σ Q := fun A s B ρ u R I r => by
  refine x5a2 (view_ins I r ha) fun x dx es n us Z1 Z2 => ?_; obtain rfl := Z1; refine x0a4 Z2 fun hx hd he rs => ?_; clear Z2
  refine x1a2 (vAt_relA rs hv) fun y hy ry => ?_
  exact get_value (cl.X.keeps I.keepG) (I := ⟨hx, rfl, rfl, hd⟩) cl.ga (findObj_own cl.hasD hf rfl (by rw [lookIn_dict]; exact ents_at he hy)) (handed hp ry) (r_tok I ry h)
noncomputable def AttS (prog : Program) (w : World) (GH : Heap) (k : Nat) (a : AV) (name : Str) (v : AV) (σ : List MO) (Q : List MO → Prop) : Prop :=
  ∀ A s B ρ u y, Room k A → Inv prog w GH s.heap B ρ σ → RelA prog w B ρ a u → RelA prog w B ρ v y →
    wpAny (model prog w) A (setAttr u name y) (fun _ => After [] s B ρ fun s' B' ρ' => ∃ σ', Inv prog w GH s'.heap B' ρ' σ' ∧ Q σ') (fun _ _ => False) s
theorem x_setA {o val : Expr} {name : Str} {p' p : Pos} {Q : Fl → VEnv → List MO → Prop} (h : EOk prog w GH sc k val V σ fun v σ₁ => EOk prog w GH sc k o V σ₁ fun a σ₂ => AttS prog w GH k a name v σ₂ fun σ₄ => Q .next V σ₄)
    (hs : ∀ env, swapsWith val (some (.Attribute o name p')) p.line env = pure false := by intro _; rfl) : XOk prog w GH sc k (.Assign [.Attribute o name p'] val p) V σ Q := fun A env s B ρ R F I =>
  plainObj_wpAny_Assign_Attribute (h.go R F I fun u₁ s₁ B₁ ρ₁ v σ₁ at₁ r₁ h₁ => h₁.go R (at₁.fr F) at₁.inv fun u₂ s₂ B₂ ρ₂ a σ₂ at₂ r₂ h₂ =>
    wpAny_mono (h₂ A s₂ B₂ ρ₂ u₂ u₁ R at₂.inv r₂ (at₂.rel r₁)) (fun _ s₄ x => by
      refine x2a3 x fun B₄ ρ₄ sm S Z1 => ?_; clear x; refine x1a2 Z1 fun σ₄ I₄ q => ?_; clear Z1
      have at₄ : At prog w GH [] s₂ B₂ ρ₂ s₄ B₄ ρ₄ σ₄ := ⟨sm, S, I₄⟩
      refine (at₁.then0 (at₂.then0 (at₄.here ⟨Fl.next, V, σ₄, I₄, at₄.fr (at₂.fr (at₁.fr F)), rfl, q⟩))).weaken fun _ z => nomatch z) fun _ _ x => x) (hs env)
theorem as_own {n c d : Nat} {name : Str} {ks : List Str} {vs : List AV} {v : AV} {Q : List MO → Prop} (cl : Cl GH K c) (hn : σ[n]? = some (.ins c d)) (hd : σ[d]? = some (.ns ks vs)) (hk : name ∉ ks) (hl : ks.length ≤ 100) (h : Q (σ.set d (.ns (ks ++ [name]) (vs ++ [v])))) (hf : takerIn K c name = some none) :
    AttS prog w GH k (.loc n) name v σ Q := fun A s B ρ u y R I r rv => by
  refine x2a3 (view_loc I r hn) fun a o e1 Z1 Z2 => ?_; obtain rfl := Z1; obtain ⟨ho, Z3⟩ := Z2; refine x1a2 Z3 fun dx hρd q => ?_; clear Z3
  subst q
  obtain ⟨hdd, Z4⟩ := I.store d dx _ hρd hd; refine x1a2 Z4 fun o' hdx Z5 => ?_; clear Z4; refine x3a3 Z5 fun es m us q1 he rs => ?_; clear Z5
  subst q1
  obtain ⟨hs1, hs2⟩ := ents_none he hk
  have X := cl.X.keeps I.keepG
  have II : InstAt s.heap a (instObj c dx) c (some (dictOf es m)) := ⟨ho, rfl, rfl, hdx⟩
  have elen : es.length ≤ 100 := by
    have : ∀ (es : List DictEntry) (ks : List Str) (us : List Value), Ents es ks us → es.length = ks.length := by
      intro es
      induction es with
      | nil => intro ks us h; cases ks <;> cases us <;> first | rfl | exact h.elim
      | cons e es ih => intro ks us h; cases ks <;> cases us <;> first | exact h.elim | exact congrArg Nat.succ (ih _ _ h.2.2)
    rw [this _ _ _ he]; exact hl
  refine set_plain X II cl.sa (osa_open (s := { s with toks := s.toks + 1 }) X II cl.over hf fun b => ?_)
  refine x1a2 (any_some (show (clsIn K c).any (·.hasDict) = true from cl.hasD)) fun cd hc hd' => ?_
  refine wpAny_bind (wpAny_pure (wpAny_bind (wpAny_bind (wpAny_loadPart ho (wpAny_bind (looks_clsIn X hc _ _ _ _ (fun _ _ e => e) ?_))))))
  rw [hd']
  refine wpAny_pure (a := some dx) (wpAny_bind (wpAny_pure (wpAny_bind ?_)))
  have e1 : es.any (·.key.isStr name) = false := by
    cases q : es.any (·.key.isStr name) with
    | false => rfl
    | true => obtain ⟨e, he, z⟩ := List.any_eq_true.mp q; rw [hs1 e he] at z; cases z
  have e2 : es.any (·.refKey) = false := by
    cases q : es.any (·.refKey) with
    | false => rfl
    | true => obtain ⟨e, he, z⟩ := List.any_eq_true.mp q; rw [hs2 e he] at z; cases z
  have e : ∀ tk, Obj.putName name (PyData.keyHash w.params name) (.str name tk) y (dictOf es m) = dictOf (es ++ [⟨PyData.keyHash w.params name, .str name tk, y⟩]) (m + 1) := fun tk => by
    rw [putName_dict, putL_new hs1]
    show dictOf _ (if es.any (·.key.isStr name) then m else m + 1) = _
    rw [e1, if_neg Bool.false_ne_true]
  have c : aRefKeyMayBeTheName name es.toArray = false := by
    rw [aRefKeyMayBeTheName_at, ← Array.any_toList, ← Array.any_toList]
    show (!es.any (·.key.isStr name) && es.any (·.refKey)) = false
    rw [e2, Bool.and_false]
  unfold nsSet
  refine wpAny_bind (wpAny_bind (wpAny_askSetting (wpAny_pure (wpAny_bind (wpAny_mkText (wpAny_bind (wpAny_loadPart hdx ?_)))))))
  dsimp only
  rw [c]
  refine wpAny_updatePart hdx ?_
  have hD' := Heap.get?_update_self (Obj.putName name (PyData.keyHash w.params name) (.str name (s.toks + 1)) y) hdx (by rw [e]; rfl)
  rw [e] at hD'
  refine wpAny_bind (wpAny_lookBehind hD' (by refine pastItsLine_dict (by rw [List.size_toArray, sizeLine_eq, List.length_append]; simp; omega)) ?_)
  refine wpAny_pure ?_
  exact r_setU I hρd hd (by simp) (Heap.SameBut.update ..) hD' (m' := .ns (ks ++ [name]) (vs ++ [v])) ⟨_, _, us ++ [y], rfl, ents_app he rfl rfl, relA_append rs rv⟩ h
end
theorem mem_of_lk {β : Type} {x : Str} {v : β} : ∀ {l : List (Str × β)}, l.lookup x = some v → (x, v) ∈ l
  | (y, u) :: l, h => by
    rw [List.lookup_cons] at h
    cases q : x == y with
    | true => rw [q] at h; cases h; rw [beq_iff_eq.mp q]; exact List.mem_cons_self ..
    | false => rw [q] at h; exact List.mem_cons_of_mem _ (mem_of_lk h)
theorem lk_of_mem {β : Type} {x : Str} {v : β} : ∀ {l : List (Str × β)}, (l.map (·.1)).Nodup → (x, v) ∈ l → l.lookup x = some v
  | (y, u) :: l, nd, h => by
    obtain ⟨h1, h2⟩ := List.nodup_cons.mp nd
    rcases List.mem_cons.mp h with q | q
    · cases q; rw [List.lookup_cons, beq_self_eq_true]
    · rw [List.lookup_cons, beq_eq_false_iff_ne.mpr (fun (e : x = y) => h1 (List.mem_map.mpr ⟨(x, v), q, e⟩))]
      exact lk_of_mem h2 q
section
variable {prog : Program} {w : World} {GH : Heap} {mg mb : Str → Option Value} {A : Around} {env : Env} {s : Shared} {h h' : Heap} {B B' : FB} {ρ ρ' : List Addr} {σ : List MO} {sc : Scope} {k : Nat} {V : VEnv} {e : Expr} {Q : AV → List MO → Prop} {K : Frag} {C : Addr}
noncomputable def CdOk (prog : Program) (w : World) (GH : Heap) (k : Nat) (f : Value) (args : List AV) (σ : List MO) (Q : AV → List MO → Prop) : Prop :=
  ∀ A s B ρ us, Room k A → Inv prog w GH s.heap B ρ σ → RelAL prog w B ρ args us →
    codeAny (model prog w) A (.call f ⟨us, []⟩) (fun r s' => match r with | .ok (.ret u) => After [] s B ρ (VP prog w GH Q u) s' | _ => False) s
theorem CdOk.co {f : Value} {args : List AV} (h : CdOk prog w GH k f args σ Q) : COk prog w GH k f args σ Q := fun A s B ρ us R I ra =>
  wpAny_call (codeAny_mono (h A s B ρ us R I ra) fun r s' x => by
    rcases r with e | (v | _ | _ | _) <;> first | exact x | exact x.elim)
noncomputable def Binds (prog : Program) (w : World) (GH : Heap) (fd : FuncData) (as : List AV) (xs : List Str) (bs : List AV) : Prop :=
  ∀ (s : Shared) B ρ (us : List Value), (∀ b o, GH.get? b = some o → s.heap.get? b = some o) → RelAL prog w B ρ as us → ∃ vs, BindsTo s fd ⟨us, []⟩ (xs.zip vs) ∧ RelAL prog w B ρ bs vs
theorem cd_fnB {f : Addr} {name : Str} {params : Arguments} {body : List Stmt} {scope : Scope} {dV : Value} {xs : List Str} {as bs : List AV} (G : GOK GH mg mb) (hf : FnAt GH f name params body scope dV)
    (hn : xs.length = bs.length) (hb : ∀ qual kV doc pm an cdv ct, Binds prog w GH (fnOf name qual params body scope dV kV doc pm an cdv ct) as xs bs) (nd : xs.Nodup) (hv : (xs.all fun x => scope.names.lookup x == some .local) = true)
    (hcell : ∀ x ∈ scope.names, x.2 ≠ .cell)
    (hbody : SOk prog w GH scope k body (xs.zip bs) σ (RetQ Q))
    (hco : scope.isCoroutine = false) (hgen : scope.isGenerator = false) (hk : scope.kind = .function) : CdOk prog w GH (k + 1) (.ref f) as σ Q := by
  intro A s B ρ us R I ra
  refine x8a3 hf.is fun o qual kV doc pm an cdv ct ho hd hcr => ?_
  have kG := I.keepG
  have hR : ∀ env, Room k (A.deeper env) := fun env => ⟨R.handled, by have := R.depth; show A.depth + 1 + 2 * k < _; omega, by have := R.units; show A.units + 3 + 20 * k < _; omega⟩
  refine x1a2 (hb qual kV doc pm an cdv ct s B ρ us kG ra) fun vs hbind rb => ?_
  have hvs : vs.length = xs.length := by rw [rb.length, hn]
  have hnl : ∀ x, scope.names.lookup x ≠ some .cell := fun x hx => hcell _ (mem_of_lookup hx) rfl
  refine codeAny_call_def (o := o) (fd := fnOf name qual params body scope dV kV doc pm an cdv ct) (binds := xs.zip vs) (by have := R.depth; omega) (kG _ _ ho) hd (G.nolimit.keeps kG) (hcr.keeps kG) rfl hbind
    hcell (fun y hy => by simpa using List.all_eq_true.mp hv y.1 (List.of_mem_zip hy).1) (fun h₁ hns keep => ?_) hco hgen hk
  generalize hE : callEnv (fnOf name qual params body scope dV kV doc pm an cdv ct) s.heap.objs.size f = env
  have eS : env.scope = scope := by subst hE; rfl
  have eG : env.globals = mainGlobals := by subst hE; rfl
  have eB : env.builtins = builtinsNs := by subst hE; rfl
  have eL : env.locals = s.heap.objs.size := by subst hE; rfl
  have eC : env.cells = [] := by subst hE; rfl
  obtain ⟨I₁, S₁⟩ := I.grown (h' := h₁) keep
  have F : FrOk prog w GH scope env h₁ B ρ (xs.zip bs) := by
    refine ⟨eS, hk, eG, eB, ⟨_, (by rw [eL]; exact hns), fun y v hy hy' => ?_⟩, fun y v h hy => absurd hy (hnl y), fun y c hc => (by rw [eC] at hc; cases hc), (by rw [eC]; exact List.Pairwise.nil), fun y hy => absurd hy (hnl y), ?_⟩
    · refine x1a2 (zip_rel rb hn y v hy) fun u hu r => ?_
      refine ⟨u, ?_, r⟩
      have ndz : ((xs.zip vs).map (·.1)).Nodup := by rw [List.map_fst_zip (by omega)]; exact nd
      have ndr : ((xs.zip vs).reverse.map (·.1)).Nodup := by rw [List.map_reverse]; exact (List.reverse_perm _).nodup_iff.mpr ndz
      exact lk_of_mem ndr (List.mem_reverse.mpr (mem_of_lk hu))
    · rw [eL]; exact ⟨I.none_notin (size_none _), I.none_base (size_none _), I.big G⟩
  refine wpAny_mono (hbody (A.deeper env) env { s with heap := h₁, toks := s.toks + (xs.zip vs).length } B ρ (hR env) F I₁) (fun fl s₂ y => ?_) fun _ _ y => y.elim
  have y' : After [] s B ρ (fun s' B' ρ' => ∃ fl' V' σ', Inv prog w GH s'.heap B' ρ' σ' ∧ FrOk prog w GH scope env s'.heap B' ρ' V' ∧ FlRel prog w B' ρ' fl' fl ∧ RetQ Q fl' V' σ') s₂ :=
    After.trans ⟨h₁, _, rfl⟩ (S₁ []) (fun b hb => .inr (by
      rcases wrOf_cases hb with q | ⟨x, q⟩
      · rw [q, eL]; exact size_none _
      · rw [eC] at q; cases q)) y
  refine x2a3 y' fun B' ρ' sm S Z1 => ?_; clear y'; refine x3a4 Z1 fun fl' V' σ' I' F' r q => ?_; clear Z1
  cases fl' with
  | next => cases (show fl = .next from r); exact ⟨B', ρ', sm, S, .pv .none, σ', I', rfl, q⟩
  | ret v => refine x1a2 r fun u Z2 => ?_; clear r; intro r; obtain rfl := Z2; exact ⟨B', ρ', sm, S, v, σ', I', r, q⟩
theorem Binds.plain {fd : FuncData} {xs : List Str} {as : List AV} (hn : xs.length = as.length) (hb : ∀ (us : List Value), us.length = xs.length → bindArgs fd ⟨us, []⟩ = pure (xs.zip us)) : Binds prog w GH fd as xs as := fun s B ρ us _ ra =>
  ⟨us, BindsTo.of_eq (hb us (by rw [ra.length, hn])), ra⟩
theorem under_tc (A : Around) (a : List Value) : (A.under (.builtin "type.__call__" ⟨a, []⟩)).units ≤ A.units + 10 := by
  show A.units + (Code.builtin "type.__call__" ⟨a, []⟩).cUnits ≤ _
  have : (Code.builtin "type.__call__" ⟨a, []⟩).cUnits ≤ 10 := by
    have e : (Code.builtin "type.__call__" ⟨a, []⟩).frames = 0 := by kernel_rfl!
    simp [Code.cUnits, e]
  omega
theorem tc_depth (A : Around) (C : Addr) (a : List Value) : (A.under (.builtin "type.__call__" ⟨.ref C :: a, []⟩)).depth = A.depth + 1 := rfl
theorem c_make (G : GOK GH mg mb) (cl : Cl GH K C) {fI : Addr} {as : List AV} (hi : findIn K (.ref C) "__init__" = some (some (.ref fI))) (hf : typeIn K (.ref fI) = some (.type "function"))
    (h : CdOk prog w GH k (.ref fI) (.loc (σ.length + 1) :: as) (σ ++ [.ns [] []] ++ [.ins C σ.length]) fun v σ' => v = .pv .none ∧ Q (.loc (σ.length + 1)) σ') : CdOk prog w GH (k + 1) (.ref C) as σ Q := fun A s B ρ us R I ra => by
  obtain ⟨hh, g, d, t, os⟩ := s
  have X := cl.X.keeps I.keepG
  refine make_core (makes_of X cl.makes) (looks_findIn X hi) (fun self => bind_fn X self hf) (.inl rfl) ?_
  have hg : GH.objs.size ≤ hh.objs.size := I.big G
  have I0 : Inv prog w GH hh B ρ σ := I
  obtain ⟨I1, S1⟩ := I0.owned (h' := hh.push emptyDict) (m := .ns [] []) (size_none hh) hg (push_keeps _ _) (Heap.get?_push_size hh (o := emptyDict) rfl) ⟨[], 0, [], rfl, trivial, rfl⟩
  have sz : (hh.push emptyDict).objs.size = hh.objs.size + 1 := Heap.size_push _ _
  have ll : (ρ ++ [hh.objs.size]).length = σ.length + 1 := by simp [I0.len]
  obtain ⟨I2, S2⟩ := I1.owned (h' := (hh.push emptyDict).push (instObj C hh.objs.size)) (a := hh.objs.size + 1) (m := .ins C σ.length) (by rw [← sz]; exact size_none _) (by omega) (push_keeps _ _) (by rw [← sz]; exact Heap.get?_push_size _ rfl) ⟨hh.objs.size, by rw [← I0.len]; simp, rfl⟩
  have S := (S1 []).trans (wr' := []) (fun _ q => (List.not_mem_nil q).elim) (S2 [])
  have rs : RelAL prog w B (ρ ++ [hh.objs.size] ++ [hh.objs.size + 1]) (.loc (σ.length + 1) :: as) (.ref (hh.objs.size + 1) :: us) := by
    refine ⟨_, us, rfl, ⟨_, by rw [← ll]; simp, rfl⟩, ?_⟩
    rw [List.append_assoc]; exact ra.mono prog w (FB.le.refl B)
  have RR : Room k (A.under (.builtin "type.__call__" ⟨.ref C :: us, []⟩)) := ⟨R.handled, by have := R.depth; rw [tc_depth]; omega, by have := R.units; have := under_tc A (.ref C :: us); omega⟩
  refine codeAny_mono (h _ ⟨(hh.push emptyDict).push (instObj C hh.objs.size), g, d, t, os⟩ B _ _ RR I2 rs) fun r s' x => ?_
  rcases r with e | (v | _ | _ | _) <;> try exact x.elim
  refine x2a3 x fun B' ρ' sm S' Z1 => ?_; clear x; refine x2a4 Z1 fun v' σ' I' r' e q => ?_; clear Z1
  subst e
  refine ⟨r', ?_⟩
  have y : After [] ⟨hh, g, d, t, os⟩ B ρ (fun s' B' ρ' => VP prog w GH Q (.ref (hh.objs.size + 1)) s' B' ρ') s' := by
    refine x2a1 sm fun h2 t2 Z2 => ?_; clear sm; obtain rfl := Z2
    refine ⟨B', ρ', ⟨h2, t2, rfl⟩, S.trans (fun _ q => .inl q) S', .loc (σ.length + 1), σ', I', ?_, q⟩
    refine x1a2 S'.ext fun ν e _ => ?_
    exact ⟨hh.objs.size + 1, by rw [e, ← ll]; simp, rfl⟩
  exact y
theorem looks_keeper {M : Model} (X : K.In h) {oc od cd sl} (ho : h.get? C = some ⟨oc, od, .cls cd, sl⟩) (hc : specialIn K (.ref C) "__call__" = some (some (.builtin "type.__call__"))) : Looks M h (keeperOf (.ref C)) .machine := by
  unfold keeperOf
  refine Looks.andThen (a := ⟨oc, od, .cls cd, sl⟩) ((Looks.ld (part := none) ho)) ?_
  refine (looks_specialIn X hc).andThen ?_
  exact Looks.now
theorem e_callC {id : Str} {np p : Pos} {es : List Expr} (hs : noStar es = true) (cl : Cl GH K C)
    (hf : EOk prog w GH sc k (.Name id np) V σ fun v σ₁ => v = .pv (.cst (.ref C)) ∧ LOk prog w GH sc k es V σ₁ fun vs σ₂ => COk prog w GH k (.ref C) vs σ₂ Q) : EOk prog w GH sc k (.Call (.Name id np) es [] p) V σ Q := fun A env s B ρ R F I => by
  rw [arm_eval_Call_Name']
  refine wpAny_bind (hf.go R F I fun u s₁ B₁ ρ₁ v σ₁ a r q => ?_)
  obtain ⟨rfl, q⟩ := q
  cases (show u = .ref C from r)
  have hm := cl.makes
  unfold makesIn at hm
  split at hm
  · rename_i oc od cd sl ho
    simp only [Bool.and_eq_true, beq_iff_eq] at hm
    refine callWith_of (P := fun h => ∀ b o, GH.get? b = some o → h.get? b = some o) (by rw [backTo_any p es env (noStar_mem hs)]; rfl) (fun h hk => ⟨.machine, .inr (.inl rfl), ?_⟩) (evalArgs_spl hs (q.go R (a.fr F) a.inv fun us s₂ B₂ ρ₂ vs σ₂ a₂ rs q₂ => ⟨a₂.inv.keepG, ?_⟩))
    · exact looks_keeper (cl.X.keeps hk) (hk _ _ (cl.X _ _ ho)) hm.1.2
    · exact q₂.go R a₂.inv rs fun u s₃ B₃ ρ₃ v σ₃ a₃ r₃ q₃ => a.then0 (a₂.then0 (a₃.here ⟨v, σ₃, a₃.inv, r₃, q₃⟩))
  · cases hm
end
section
variable {prog : Program} {w : World} {GH : Heap} {mg mb : Str → Option Value} {A : Around} {env : Env} {s : Shared} {h h' : Heap} {B B' : FB} {ρ ρ' : List Addr} {σ : List MO} {sc : Scope} {k : Nat} {V : VEnv} {e : Expr} {Q : AV → List MO → Prop} {K : Frag} {C : Addr}
theorem e_meth {o : Expr} {name : Str} {apos p : Pos} {es : List Expr} {f : Addr} {fname : Str} {params : Arguments} {body : List Stmt} {scope : Scope} {dV : Value} (hs : noStar es = true) (cl : Cl GH K C) (hat : FnAt GH f fname params body scope dV)
    (hfi : findIn K (.ref C) name = some (some (.ref f))) (hft : typeIn K (.ref f) = some (.type "function")) (hline : (apos.endLine == p.line) = true) (hl : es.length < 29)
    (ho : EOk prog w GH sc k o V σ fun ov σ₁ => (∃ ks vs, asIns σ₁ ov = some (C, ks, vs) ∧ name ∉ ks) ∧ LOk prog w GH sc k es V σ₁ fun vs σ₂ => COk prog w GH k (.ref f) (ov :: vs) σ₂ Q)
    (hbase : ∀ env, attributeBase o name env (eval o env) = eval o env := by intro _; rfl) : EOk prog w GH sc k (.Call (.Attribute o name apos) es [] p) V σ Q := fun A env s B ρ R F I => by
  refine x8a3 hat.is fun of qual kV doc pm an cdv ct hof hd hcr => ?_
  have hfew : ((backTo p (starEach es env)).all (fun x => !x.1) && (backToKw p (keywordEach [] env)).all (fun x => x.1.isSome) && decide (es.length + ([] : List Keyword).length + (if (backToKw p (keywordEach [] env)).isEmpty then 0 else 1) < 30)) = true := by
    have h1 := backTo_any p es env (noStar_mem hs)
    have h2 : (backTo p (starEach es env)).all (fun x => !x.1) = true := by
      rw [List.all_eq_true]
      intro x hx
      have := List.any_eq_false.mp h1 x hx
      simpa using this
    rw [h2]
    exact decide_eq_true (Nat.lt_succ_of_lt hl)
  rw [arm_eval_Call, hbase]
  refine wpAny_bind (ho.go R F I fun u s₁ B₁ ρ₁ v σ₁ a r q => ?_)
  obtain ⟨⟨ks, vs, hi, hn⟩, q⟩ := q
  refine x5a2 (view_ins a.inv r hi) fun x dx ens m us Z2 Z3 => ?_; obtain rfl := Z2; refine x0a4 Z3 fun hx hdx he rs => ?_; clear Z3
  obtain ⟨e1, e2⟩ := ents_none he hn
  have X := cl.X.keeps a.inv.keepG
  refine wpAny_bind (wpAny_standAt ?_)
  have hform : methodCallForm (es.length + ([] : List Keyword).length) (backTo p (starEach es env)) (backToKw p (keywordEach [] env)) = true := hfew
  have hpos : methodCallPos true o env apos p = pure p := by unfold methodCallPos; simp [hline]
  unfold methodCall
  rw [hform]
  refine wpAny_bind (wpAny_holding (method_fn (od := some (dictOf ens m)) X ⟨hx, rfl, rfl, hdx⟩ cl.ga cl.gx hfi hft (by show (lookIn name (dictOf ens m)).map (·.isSome) = some false; rw [lookIn_dict, getL_none e1 e2]; rfl) ?_))
  refine wpAny_bind (wpAny_of_eq hpos ?_)
  exact Calls.callWith_function (evalArgs_spl hs (q.go R (a.fr F) a.inv fun us s₂ B₂ ρ₂ vs σ₂ a₂ rs q₂ => ⟨⟨a₂.inv.keepG _ _ hof, hd⟩, q₂.go R a₂.inv ⟨_, us, rfl, a₂.rel r, rs⟩ fun u s₃ B₃ ρ₃ v σ₃ a₃ r₃ q₃ => a.then0 (a₂.then0 (a₃.here ⟨v, σ₃, a₃.inv, r₃, q₃⟩))⟩))
-- isinstance
noncomputable def typV : PV → Option Value
  | .none => some (.type "NoneType")
  | .bool _ => some (.type "bool")
  | .int _ => some (.type "int")
  | .str _ => some (.type "str")
  | .bytes _ => some (.type "bytes")
  | .lst _ => some (.type "list")
  | .tup _ => some (.type "tuple")
  | .dctI _ _ => some (.type "dict")
  | .dctS _ _ => some (.type "dict")
  | _ => none
theorem c_isi {v : PV} {t c : Value} {b : Bool} (X : K.In GH) (ht : typV v = some t) (hb : kitOne K t c = some b) (h : Q (.pv (.bool b)) σ) : COk prog w GH k (.builtin "isinstance") [.pv v, .pv (.cst c)] σ Q := fun A s B ρ us R I ra => by
  refine x2a2 (args2 ra) fun u v' Z1 Z2 => ?_; obtain rfl := Z1; obtain ⟨r, r'⟩ := Z2
  cases (show v' = c from r')
  have X' := X.keeps I.keepG
  have fin : ∀ tk, After [] s B ρ (VP prog w GH Q (.bool b)) { s with toks := tk } := fun tk => r_tok I relA_bool h
  cases v <;> first | exact nn ht | cases ht
  · cases (show u = .none from r); exact kia_one kitx_none X' trivial hb (by simp) fin
  · cases (show u = .bool _ from r); exact kia_one kitx_bool X' trivial hb (by simp) fin
  · obtain ⟨tk, rfl⟩ := r; exact kia_one kitx_int X' trivial hb (by simp) fin
  · obtain ⟨tk, rfl⟩ := r; exact kia_one kitx_str X' trivial hb (by simp) fin
  · obtain ⟨tk, rfl⟩ := r; exact kia_one kitx_bytes X' trivial hb (by simp) fin
  · refine x3a2 r fun a its n Z6 Z7 => ?_; clear r; obtain rfl := Z6; obtain ⟨hb', _⟩ := Z7; exact kia_one kitx_tuple X' ⟨_, I.base _ _ hb', rfl⟩ hb (by simp) fin
  · refine x3a2 r fun a its n Z8 Z9 => ?_; clear r; obtain rfl := Z8; obtain ⟨hb', _⟩ := Z9; exact kia_one kitx_list X' ⟨_, I.base _ _ hb', rfl⟩ hb (by simp) fin
  · refine x3a2 r fun a o us Z10 Z11 => ?_; clear r; obtain rfl := Z10; refine x0a4 Z11 fun _ hb' hd _ => ?_; clear Z11; exact kia_one kitx_dict X' ⟨_, I.base _ _ hb', by obtain ⟨_, _, e, _⟩ := hd; exact e.1⟩ hb (by simp) fin
  · refine x3a2 r fun a o us Z12 Z13 => ?_; clear r; obtain rfl := Z12; refine x0a4 Z13 fun _ hb' hd _ => ?_; clear Z13; exact kia_one kitx_dict X' ⟨_, I.base _ _ hb', by obtain ⟨_, _, e, _⟩ := hd; exact e.1⟩ hb (by simp) fin
theorem c_isiI {a : AV} {ks : List Str} {vs : List AV} {c : Value} {b : Bool} (cl : Cl GH K C) (ha : asIns σ a = some (C, ks, vs)) (hb : kitOne K (.ref C) c = some b)
    (hf : findIn K (.ref C) "__class__" = some (some (.builtin "object.__class__"))) (hn : specialIn K (.builtin "object.__class__") "__get__" = some (some (.builtin "getset_descriptor.__get__"))) (htk : takesIn K (.builtin "object.__class__") = some true) (hm : mroIn K C (.type "object") = some true)
    (h : Q (.pv (.bool b)) σ) : COk prog w GH k (.builtin "isinstance") [a, .pv (.cst c)] σ Q := fun A s B ρ us R I ra => by
  refine x2a2 (args2 ra) fun u v' Z1 Z2 => ?_; obtain rfl := Z1; obtain ⟨r, r'⟩ := Z2
  cases (show v' = c from r')
  have X' := cl.X.keeps I.keepG
  have fin : ∀ tk, After [] s B ρ (VP prog w GH Q (.bool b)) { s with toks := tk } := fun tk => r_tok I relA_bool h
  refine x5a2 (view_ins I r ha) fun x dx es m us Z3 Z4 => ?_; obtain rfl := Z3; refine x0a4 Z4 fun hx hdx he rs => ?_; clear Z4
  have hg : plainGet K C "__class__" = true := by unfold plainGet; rw [cl.ga, cl.gx]; rfl
  exact kia_one (kitx_own (ox := instObj C dx) (od := dictOf es m) hg cl.hasD hf hn htk hm) X' ⟨hx, rfl, rfl, hdx⟩ hb (by simp) fin
-- texts in tuples
theorem relL_strs : ∀ {ns : List Str} {us : List Value}, RelL prog w B (ns.map .str) us → StrsAre us ns
  | [], us, r => by cases (show us = [] from r); exact .nil
  | n :: ns, us, ⟨u, us', e, ⟨t, r1⟩, r2⟩ => by subst e r1; exact .cons n t (relL_strs r2)
theorem o_inTS {i : Str} {l : List PV} {ns : List Str} (hl : l = ns.map .str) (h : Q (.pv (.bool (ns.any (· == i)))) σ) : Op2 prog w GH k (compareOp .In) (.pv (.str i)) (.pv (.tup l)) σ Q := fun A s B ρ u v R I ⟨t, e⟩ rb => by
  subst e hl
  refine x3a2 rb fun x its n Z1 Z2 => ?_; clear rb; obtain rfl := Z1; obtain ⟨hb, q⟩ := Z2
  exact in_tuple_strs ⟨_, I.base _ _ hb, rfl, n, rfl⟩ (relL_strs q) (r_here I relA_bool h)
theorem o_ninTS {i : Str} {l : List PV} {ns : List Str} (hl : l = ns.map .str) (h : Q (.pv (.bool (!(ns.any (· == i))))) σ) : Op2 prog w GH k (compareOp .NotIn) (.pv (.str i)) (.pv (.tup l)) σ Q := fun A s B ρ u v R I ⟨t, e⟩ rb => by
  subst e hl
  refine x3a2 rb fun x its n Z1 Z2 => ?_; clear rb; obtain rfl := Z1; obtain ⟨hb, q⟩ := Z2
  exact notin_tuple_strs ⟨_, I.base _ _ hb, rfl, n, rfl⟩ (relL_strs q) (r_here I relA_bool h)
-- the place of an int
theorem c_index {a : AV} {ns : List Int} {x : Int} {j : Nat} (ha : asList σ a = some (ns.map .int)) (hl : ns.length ≤ 1000000) (hj : ns[j]? = some x) (hno : ∀ m, m < j → ns[m]? ≠ some x) (h : Q (.pv (.int j)) σ) : COk prog w GH k (.builtin "list.index") [a, .pv (.int x)] σ Q := fun A s B ρ us R I ra => by
  refine x2a2 (args2 ra) fun u v' Z1 Z2 => ?_; obtain rfl := Z1; obtain ⟨r, Z3⟩ := Z2; obtain ⟨tk, Z4⟩ := Z3; obtain rfl := Z4
  refine x3a2 (view_list I r ha) fun y its n Z5 Z6 => ?_; obtain rfl := Z5; obtain ⟨hx, q⟩ := Z6
  have hlen : its.size = ns.length := by have := q.length; simpa using this
  have hjl : j < ns.length := by
    rcases Nat.lt_or_ge j ns.length with z | z
    · exact z
    · rw [List.getElem?_eq_none z] at hj; cases hj
  have at_ : ∀ (m : Nat) (hm : m < its.size), ∃ t, its[m] = .int (ns[m]'(by omega)) t := fun m hm => by
    have h1 : (ns.map PV.int)[m]? = some (.int (ns[m]'(by omega))) := by rw [List.getElem?_map, List.getElem?_eq_getElem (by omega)]; rfl
    refine x1a2 (relL_at q h1) fun v hv Z7 => ?_; obtain ⟨t, Z8⟩ := Z7; obtain rfl := Z8
    rw [Array.getElem?_eq_getElem hm] at hv
    exact ⟨t, Option.some.inj hv⟩
  let E := fun v : Value => match v with | .int i _ => i == x | _ => false
  have heq : ∀ y ∈ its, PySem.MeetsSeq.EqGives y (.int x tk) (E y) := fun y hy => by
    obtain ⟨m, hm, rfl⟩ := Array.mem_iff_getElem.mp hy
    obtain ⟨t, e⟩ := at_ m hm
    rw [e]; exact PySem.MeetsSeq.EqGives.int _ _ _ _
  refine call_meets PySem.F.slot_list_index ⟨_, hx, rfl⟩ PySem.F.entry_list_index (PySem.F.args_list_index_2 _ _) (PySem.MeetsSeq.list_index y its n (.int x tk) E heq j (by omega) (by omega) ?_ ?_) ⟨hx, r_tok I relA_int h⟩
  · obtain ⟨t, e⟩ := at_ j (by omega)
    rw [e]
    rw [List.getElem?_eq_getElem hjl] at hj
    show (ns[j] == x) = true
    rw [Option.some.inj hj]; simp
  · intro m hm hlt
    obtain ⟨t, e⟩ := at_ m hm
    rw [e]
    have := hno m hlt
    rw [List.getElem?_eq_getElem (by omega)] at this
    show (ns[m]'(by omega) == x) = false
    exact beq_eq_false_iff_ne.mpr fun z => this (by rw [z])
end
noncomputable def subAV (n : Nat) (p : PV) : AV → AV
  | .loc m => if m = n then .pv p else .loc m
  | a => a
noncomputable def subMO (n : Nat) (p : PV) : MO → MO
  | .alst l => .alst (l.map (subAV n p))
  | .ns ks vs => .ns ks (vs.map (subAV n p))
  | m => m
noncomputable def subV (n : Nat) (p : PV) (V : VEnv) : VEnv := V.map fun q => (q.1, subAV n p q.2)
theorem lookup_subV {n : Nat} {p : PV} {x : Str} : ∀ {V : VEnv}, (subV n p V).lookup x = (V.lookup x).map (subAV n p)
  | [] => rfl
  | (y, v) :: V => by
    show List.lookup x ((y, subAV n p v) :: subV n p V) = _
    rw [List.lookup_cons, List.lookup_cons]
    cases x == y <;> first | exact lookup_subV | rfl
section
variable {prog : Program} {w : World} {GH : Heap} {mg mb : Str → Option Value} {A : Around} {env : Env} {s : Shared} {h h' : Heap} {B B' : FB} {ρ ρ' : List Addr} {σ : List MO} {sc : Scope} {k : Nat} {V : VEnv} {e : Expr} {Q : AV → List MO → Prop} {K : Frag} {C : Addr}
theorem relA_sub {n : Nat} {p : PV} {a : Addr} (hn : ρ[n]? = some a) (hp : Rel prog w B p (.ref a)) : ∀ {v : AV} {u : Value}, RelA prog w B ρ v u → RelA prog w B ρ (subAV n p v) u
  | .pv _, _, r => r
  | .loc m, u, ⟨b, e, q⟩ => by
    show RelA prog w B ρ (if m = n then .pv p else .loc m) u
    by_cases z : m = n
    · rw [if_pos z]; subst z q
      rw [hn] at e; cases e; exact hp
    · rw [if_neg z]; exact ⟨b, e, q⟩
theorem relAL_sub {n : Nat} {p : PV} {a : Addr} (hn : ρ[n]? = some a) (hp : Rel prog w B p (.ref a)) : ∀ {v : List AV} {u : List Value}, RelAL prog w B ρ v u → RelAL prog w B ρ (v.map (subAV n p)) u
  | [], _, r => r
  | _ :: _, _, ⟨u, us', e, r1, r2⟩ => ⟨u, us', e, relA_sub hn hp r1, relAL_sub hn hp r2⟩
theorem mrel_sub {n : Nat} {p : PV} {a : Addr} (hn : ρ[n]? = some a) (hp : Rel prog w B p (.ref a)) {o : Obj} : ∀ {m : MO}, MRel prog w B ρ o m → MRel prog w B ρ o (subMO n p m)
  | .lst _, r => r
  | .alst _, ⟨i, n, e, r⟩ => ⟨i, n, e, relAL_sub hn hp r⟩
  | .dctI _ _, r => r
  | .dctS _ _, r => r
  | .ins _ _, r => r
  | .ns _ _, ⟨es, n, us, e, x, r⟩ => ⟨es, n, us, e, x, relAL_sub hn hp r⟩
  | .dead, r => r
theorem FrOk.subst {n : Nat} {p : PV} {a : Addr} (hn : ρ[n]? = some a) (hp : Rel prog w B p (.ref a)) (F : FrOk prog w GH sc env h B ρ V) : FrOk prog w GH sc env h B ρ (subV n p V) := by
  obtain ⟨m, hm, hl⟩ := F.loc
  refine ⟨F.scope, F.kind, F.globals, F.builtins, ⟨m, hm, fun x v hv hx => ?_⟩, fun x v hv hx => ?_, F.cells, F.apart, F.allc, F.own⟩
  · rw [lookup_subV] at hv
    obtain ⟨v', hv', rfl⟩ := Option.map_eq_some_iff.mp hv
    obtain ⟨u, hu, r⟩ := hl x v' hv' hx
    exact ⟨u, hu, relA_sub hn hp r⟩
  · rw [lookup_subV] at hv
    refine x1a2 (Option.map_eq_some_iff.mp hv) fun v' hv' Z2 => ?_; obtain rfl := Z2
    refine x2a3 (F.cel x v' hv' hx) fun c u hc hcell r => ?_
    exact ⟨c, u, hc, hcell, relA_sub hn hp r⟩
theorem s_frz {n : Nat} {p : PV} {ss : List Stmt} {Q : Fl → VEnv → List MO → Prop} (G : GOK GH mg mb) (hf : frozen σ (.loc n) = some (n, p)) (h : SOk prog w GH sc k ss (subV n p V) ((σ.map (subMO n p)).set n .dead) Q) : SOk prog w GH sc k ss V σ Q := fun A env s B ρ R F I => by
  have hm : ∃ m, σ[n]? = some m := by
    cases q : σ[n]? with
    | none => simp [frozen, q] at hf
    | some m => exact ⟨m, rfl⟩
  obtain ⟨m, hm⟩ := hm
  have hlt : n < ρ.length := by
    rw [I.len]
    rcases Nat.lt_or_ge n σ.length with z | z
    · exact z
    · rw [List.getElem?_eq_none z] at hm; cases hm
  have ha : ρ[n]? = some ρ[n] := List.getElem?_eq_getElem hlt
  refine x1a3 (I.frozen G (v := .loc n) (u := .ref ρ[n]) ⟨ρ[n], ha, rfl⟩ hf) fun B' I' S' hp => ?_
  have F' : FrOk prog w GH sc env s.heap B' ρ (subV n p V) := (F.step S').subst ha hp
  have I'' : Inv prog w GH s.heap B' ρ ((σ.map (subMO n p)).set n .dead) := by
    refine ⟨I'.top, I'.base, I'.nodup, I'.high, by simp [I.len], fun i b m' e1 e2 => ?_⟩
    by_cases q : i = n
    · subst q
      rw [List.getElem?_set_self (by simp; rw [← I.len]; exact hlt)] at e2; cases e2
      obtain ⟨o, ho⟩ := I'.rho_lt (List.mem_of_getElem? e1)
      exact ⟨fun z => absurd rfl z, o, ho, trivial⟩
    · rw [List.getElem?_set_ne (Ne.symm q), List.getElem?_map] at e2
      refine x1a2 (Option.map_eq_some_iff.mp e2) fun m0 hm0 Z1 => ?_; obtain rfl := Z1
      obtain ⟨z, Z2⟩ := I'.store i b m0 e1 (by rw [List.getElem?_set_ne (Ne.symm q)]; exact hm0); refine x1a2 Z2 fun o ho r => ?_; clear Z2
      exact ⟨fun y => z (by intro e; subst e; exact y rfl), o, ho, mrel_sub ha hp r⟩
  exact wpAny_mono (h A env s B' ρ R F' I'') (fun _ _ x => After.trans ⟨s.heap, s.toks, rfl⟩ (S'.weaken fun _ z => nomatch z) (fun _ z => .inl z) x) fun _ _ x => x
theorem s_tell {n : Nat} {l : List AV} {ps : List PV} {ss : List Stmt} {Q : Fl → VEnv → List MO → Prop} (hn : σ[n]? = some (.alst l)) (hp : pvs l = some ps) (h : SOk prog w GH sc k ss V (σ.set n (.lst ps)) Q) : SOk prog w GH sc k ss V σ Q := fun A env s B ρ R F I =>
  h A env s B ρ R F ⟨I.top, I.base, I.nodup, I.high, by simp [I.len], fun i b m' e1 e2 => by
    by_cases q : i = n
    · subst q
      have hl : i < σ.length := by
        rcases Nat.lt_or_ge i σ.length with z | z
        · exact z
        · rw [List.getElem?_eq_none z] at hn; cases hn
      rw [List.getElem?_set_self hl] at e2; cases e2
      obtain ⟨z, Z1⟩ := I.store i b _ e1 hn; refine x1a2 Z1 fun o ho Z2 => ?_; clear Z1; refine x2a2 Z2 fun its m e r => ?_; clear Z2
      exact ⟨fun _ => z (by simp), o, ho, its, m, e, r.pure hp⟩
    · rw [List.getElem?_set_ne (Ne.symm q)] at e2
      exact I.store i b m' e1 e2⟩
theorem c_frz {f : Value} {as : List AV} (G : GOK GH mg mb) (h : COk prog w GH k f as σ fun v σ₁ => ∃ n p, frozen σ₁ v = some (n, p) ∧ Q (.pv p) (σ₁.set n .dead)) : COk prog w GH k f as σ Q := fun A s B ρ us R I ra =>
  h.go R I ra fun u s₁ B₁ ρ₁ v σ₁ a r ⟨n, p, hf, q⟩ => by
    refine x1a3 (a.inv.frozen G r hf) fun B₂ I₂ S₂ r₂ => ?_
    exact a.then0 ⟨B₂, ρ₁, ⟨_, _, rfl⟩, S₂, .pv p, _, I₂, r₂, q⟩
-- cuts
theorem relL_take : ∀ {n : Nat} {l : List PV} {us : List Value}, RelL prog w B l us → RelL prog w B (l.take n) (us.take n)
  | 0, _, _, _ => by simp; exact rfl
  | n + 1, [], us, r => by cases (show us = [] from r); exact rfl
  | n + 1, p :: l, us, ⟨u, us', e, r1, r2⟩ => by subst e; exact ⟨u, us'.take n, rfl, r1, relL_take r2⟩
theorem relL_reverse : ∀ {l : List PV} {us : List Value}, RelL prog w B l us → RelL prog w B l.reverse us.reverse
  | [], us, r => by cases (show us = [] from r); exact rfl
  | p :: l, us, ⟨u, us', e, r1, r2⟩ => by
    subst e
    rw [List.reverse_cons, List.reverse_cons]
    exact relL_append (relL_reverse r2) (relL_one r1)
theorem e_cut {o : Expr} {up : Nat} {n : Nat} {p1 p2 p3 : Pos} (h : EOk prog w GH sc k o V σ fun a σ₁ => ∃ l, asList σ₁ a = some l ∧ l.length ≤ 1000000 ∧ Q (.pv (.lst (l.take up))) σ₁) (ht : ∀ ov r, letTemporaryGo o ov r = pure () := by intro _ _; rfl) :
    EOk prog w GH sc k (.Subscript o (.Slice none (some (.Constant (.int (.ofNat up)) n p1)) none p2) p3) V σ Q := fun A env s B ρ R F I => by
  refine wpAny_Subscript_list_slice (h.go R F I fun u s₁ B₁ ρ₁ a σ₁ at₁ r ⟨l, ha, hl, q⟩ => ?_) ht
  refine x3a2 (view_list at₁.inv r ha) fun x its m Z1 Z2 => ?_; obtain rfl := Z1; obtain ⟨hx, rs⟩ := Z2
  refine wpAny_evalPart_none (wpAny_evalPart_some (wpAny_Constant_int ?_))
  have e' : its.toList.length = l.length := rs.length
  refine ⟨x, its, none, some (.ofNat up), rfl, ⟨_, hx, rfl, m, rfl⟩, by rw [sizeLine_eq]; simp at e'; omega, .none, .int _ _, ?_⟩
  refine at₁.then0 (r_newL (l := l.take up) (n := 0) (its := slicePick its none (some (.ofNat up)) none) (t := s₁.toks + 1) at₁.inv (none_of_ge (Nat.le_succ _)) (fun b o e => Heap.get?_push_of_some _ (Heap.get?_push_of_some _ e)) (by
      have := Heap.get?_push_size (s₁.heap.push { cls := .type "slice", data := .fields #[.none, .int (.ofNat up) s₁.toks, .none] }) (o := { cls := .type "list", data := .seq (slicePick its none (some (.ofNat up)) none) }) rfl
      rwa [Heap.size_push] at this) ?_ q)
  have : slicePick its none (some (Int.ofNat up)) none = (its.toList.take up).toArray := slicePick_upto' its up
  rw [this]
  exact relL_take rs
theorem all_of {α : Type} : ∀ l : List α, (List.range l.length).filterMap (fun i => l[i]?) = l
  | [] => rfl
  | a :: l => by
    rw [List.length_cons, List.range_succ_eq_map, List.filterMap_cons]
    simp only [List.getElem?_cons_zero, List.filterMap_map]
    congr 1
    have := all_of l
    simpa [Function.comp_def] using this
theorem range_rev {its : Array Value} : slicePick its none none (some (-1)) = its.toList.reverse.toArray := by
  unfold slicePick
  congr 1
  have e : sliceRange (sliceBounds none none (some (-1)) its.size).1 (sliceBounds none none (some (-1)) its.size).2.1 (sliceBounds none none (some (-1)) its.size).2.2 = (List.range its.size).reverse := by
    have e1 : sliceBounds none none (some (-1)) its.size = ((its.size : Int) - 1, -1, -1) := by simp [sliceBounds]
    rw [e1]
    unfold sliceRange
    have e2 : (if (-1 : Int) > 0 then (if (its.size : Int) - 1 < -1 then ((-1 : Int) - ((its.size : Int) - 1) + -1 - 1) / -1 else 0) else (if (its.size : Int) - 1 > -1 then ((its.size : Int) - 1 - -1 - -1 - 1) / (- -1) else 0)).toNat = its.size := by
      rw [if_neg (by omega)]
      have : (- -1 : Int) = 1 := by decide
      rw [this, Int.ediv_one]
      split <;> omega
    dsimp only
    rw [e2]
    apply List.ext_getElem (by simp)
    intro i h1 h2
    simp at h1 h2
    rw [List.getElem_map, List.getElem_reverse]
    simp
    omega
  rw [e, List.filterMap_reverse]
  have : (List.range its.size).filterMap (fun i => its[i]?) = its.toList := by
    have := all_of its.toList
    simpa using this
  rw [← this]
theorem e_rev {o : Expr} {n : Nat} {p0 p1 p2 p3 : Pos} (h : EOk prog w GH sc k o V σ fun a σ₁ => ∃ l, asList σ₁ a = some l ∧ l.length ≤ 1000000 ∧ Q (.pv (.lst l.reverse)) σ₁) (ht : ∀ ov r, letTemporaryGo o ov r = pure () := by intro _ _; rfl) :
    EOk prog w GH sc k (.Subscript o (.Slice none none (some (.UnaryOp .USub (.Constant (.int 1) n p0) p1)) p2) p3) V σ Q := fun A env s B ρ R F I => by
  refine wpAny_Subscript_Slice_step (T := "list") slot_list_getitem.lookup (h.go R F I fun u s₁ B₁ ρ₁ a σ₁ at₁ r ⟨l, ha, hl, q⟩ => ?_) ht
  refine x3a2 (view_list at₁.inv r ha) fun x its m Z1 Z2 => ?_; obtain rfl := Z1; obtain ⟨hx, rs⟩ := Z2
  have e' : its.toList.length = l.length := rs.length
  refine wpAny_Slice (wpAny_evalPart_none (wpAny_evalPart_none (wpAny_evalPart_some (wpAny_UnaryOp (wpAny_Constant_int (P.neg_int ?_))))))
  refine ⟨⟨_, Heap.get?_push_of_some _ hx, rfl⟩, wpAny_getItem_list_slice (lo := none) (hi := none) (st := some (-1)) ⟨_, Heap.get?_push_of_some _ hx, rfl, m, rfl⟩ (Heap.IsSliceOf.new ..) .none .none (.int _ _) (by simp) ?_ (by rw [sizeLine_eq]; simp at e'; omega)⟩
  rw [range_rev]
  refine at₁.then0 (r_newL (l := l.reverse) (n := 0) (its := its.toList.reverse.toArray) at₁.inv (none_of_ge (by show s₁.heap.objs.size ≤ _; dsimp only; rw [Heap.size_push]; exact Nat.le_succ _)) (fun b o e => Heap.get?_push_of_some _ (Heap.get?_push_of_some _ e)) (Heap.get?_push_size _ rfl) (relL_reverse rs) q)
end
end Mine
end
section
open PySem PySem.Spec PySem.Calls PyProof.Rows PySem.W Builtin Builtin.Bytes
set_option maxRecDepth 100000
set_option linter.unusedVariables false
namespace Mine
theorem slot_join : Slot "bytes" "join" "bytes.join" :=
  Slot.of (owner := "bytes") (n := "join") (by rw [typeLookup_type, builtinLookup_eq_fast]; kernel_rfl) (by decide +kernel) (by decide +kernel) (by decide +kernel) (by first | exact .inl (by decide +kernel) | exact .inr (by decide +kernel)) (by rw [isSubtype_type]; kernel_rfl)
theorem type_join : typeOf (.builtin "bytes.join") = pure (.type "method_descriptor") := by show builtinType _ = _; rw [builtinType_eq_fast]; kernel_rfl
theorem entry_join : entryFor table "bytes.join" = some Builtin.«bytes.join» := entryFor_of_tree (by kernel_rfl)
theorem args_join (a b : Value) : argsOk "bytes.join" ⟨[a, b], []⟩ := by unfold argsOk; kernel_rfl
theorem tb (b : Array UInt8) (t : Tok) : takeBufferQuiet? "bytes.join" (.bytes b t) 0 = pure (some (b, none)) := by kernel_rfl!
theorem sao (a b : Value) : selfAndOne "bytes.join" ⟨[a, b], []⟩ = pure (a, b) := by kernel_rfl!
theorem pay (b : Array UInt8) (t : Tok) : payload (.bytes b t) = pure b := by kernel_rfl!
section
variable {M : Model} {A : Around} {E : Value → Shared → Prop} {s : Shared}
theorem joinLetGo_ok {keep : List Value} {Q : Unit → Shared → Prop} : ∀ {l : List Value}, Q () s → wpAny M A (joinLetGo (l.map fun x => (x, none)) keep) Q E s
  | [], h => wpAny_pure h
  | x :: l, h => by
    exact wpAny_bind (m := letGo [x] _) (wpAny_letGo (joinLetGo_ok h))
noncomputable def bvs : List (Array UInt8 × Tok) → List Value := List.map fun p => .bytes p.1 p.2
theorem jm {α : Type} {items : Array Value} {h1 : Value → Sem α} {h2 : Array Value → Sem α} {Q : α → Shared → Prop} (hs : items.size ≠ 1) (H : wpAny M A (h2 items) Q E s) : wpAny M A (joinM.match_1 (motive := fun _ => Sem α) items h1 h2) Q E s := by
  obtain ⟨l⟩ := items
  cases l with
  | nil => exact H
  | cons x l =>
    cases l with
    | nil => exact absurd rfl hs
    | cons y l => exact H
theorem join_tree {sep : Array UInt8} {t : Tok} {a : Addr} {l : List (Array UInt8 × Tok)} {n : Nat} {P : PySem.Fin → Shared → Prop} (ho : s.heap.get? a = some { cls := .type "list", data := .seq (bvs l).toArray n }) (hz : (l.map (·.1)).toArray.foldl (fun x1 x2 => x1 + x2.size) (sep.size * (l.length - 1)) ≤ 1000000) (hj : (joined sep (l.map (·.1))).size ≤ 1000000)
    (h1 : ∀ x, l = [x] → P (.done (.ret (.bytes x.1 x.2))) s) (h : P (.done (.ret (.bytes (joined sep (l.map (·.1))) s.toks))) { s with toks := s.toks + 1 }) :
    wpAny M A («bytes.join» ⟨[.bytes sep t, .ref a], []⟩) P E s := by
  show wpAny _ _ (joinM .bytes _) _ _ _
  unfold joinM
  have seqs : ∀ {α : Type} {f : Option (Array Value) → Sem α} {Q : α → Shared → Prop}, wpAny M A (f (some (bvs l).toArray)) Q E s → wpAny M A (seqItems? (.ref a) >>= f) Q E s := fun hh => by
    unfold seqItems?
    exact wpAny_bind (wpAny_bind (wpAny_load ho (wpAny_pure hh)))
  refine wpAny_bind (m := selfAndOne _ _) (wpAny_of_eq (sao _ _) ?_)
  refine wpAny_bind (m := joinItems (.ref a)) (wpAny_bind (wpAny_typeOf (T := "list") ⟨_, ho, rfl⟩ (wpAny_pure ?_)))
  refine seqs ?_
  dsimp only
  rw [if_pos (by rfl)]
  by_cases hl1 : l.length = 1
  · obtain ⟨x, rfl⟩ := List.length_eq_one_iff.mp hl1
    show wpAny _ _ (typeOf (.bytes x.1 x.2) >>= _) _ _ _
    refine wpAny_bind (wpAny_of_eq (a := .type "bytes") rfl ?_)
    rw [if_pos (by rfl)]
    exact wpAny_bind (wpAny_rule (wpAny_pure (h1 x rfl)))
  · refine jm (fun e => hl1 ((List.length_map _).symm.trans e)) ?_
    refine wpAny_bind ?_
    rw [Std.Legacy.Range.forIn_eq_forIn_range']
    refine wpAny_forIn_list _ (fun rest b s' => s' = s ∧ ∃ i, i ≤ l.length ∧ rest = List.range' i (l.length - i) ∧ b = (((l.map (·.1)).take i).toArray, ((bvs l).take i).map fun x => (x, none))) _ (fun j rest b s' hI => ?_) (fun b s' hI => ?_) _ _ ⟨rfl, 0, Nat.zero_le _, by simp [bvs, Std.Legacy.Range.size], by simp⟩
    · obtain ⟨Z10, Z11⟩ := hI; obtain rfl := Z10; refine x1a3 Z11 fun i hi e1 Z12 => ?_; clear Z11; obtain rfl := Z12
      have hlt : i < l.length := by
        rcases Nat.lt_or_ge i l.length with z | z
        · exact z
        · rw [show l.length - i = 0 by omega] at e1; cases e1
      rw [show l.length - i = (l.length - (i + 1)) + 1 by omega, List.range'_succ] at e1
      obtain ⟨rfl, e1⟩ := List.cons.inj e1
      refine seqs ?_
      dsimp only
      have hb : ((bvs l).toArray).getD j .none = .bytes (l[j]'hlt).1 (l[j]'hlt).2 := by
        rw [Array.getD_eq_getD_getElem?, List.getElem?_toArray]; simp [bvs, List.getElem?_map, List.getElem?_eq_getElem hlt]
      have hh : ((((bvs l).take j).map fun x => (x, (none : Option Value))).any fun x => x.1.onHeap) = false := by
        rw [List.any_eq_false]
        intro x hx
        obtain ⟨v, hv, rfl⟩ := List.mem_map.mp hx
        obtain ⟨p, _, rfl⟩ := List.mem_map.mp (List.mem_of_mem_take hv)
        simp [Value.onHeap]
      rw [hh, if_neg (by decide), hb]
      refine wpAny_bind (wpAny_holding (wpAny_of_eq (tb _ _) ?_))
      dsimp only
      refine seqs ?_
      dsimp only
      rw [if_neg (by simp)]
      refine wpAny_pure ⟨rfl, j + 1, hlt, e1, ?_⟩
      have t1 : (l.map (·.1)).take (j + 1) = (l.map (·.1)).take j ++ [(l[j]'hlt).1] := by rw [List.take_add_one, List.getElem?_map, List.getElem?_eq_getElem hlt]; rfl
      have t2 : (bvs l).take (j + 1) = (bvs l).take j ++ [.bytes (l[j]'hlt).1 (l[j]'hlt).2] := by rw [List.take_add_one]; simp [bvs, List.getElem?_map, List.getElem?_eq_getElem hlt]
      rw [t1, t2]; simp
    · obtain ⟨Z16, Z17⟩ := hI; obtain rfl := Z16; refine x1a3 Z17 fun i hi e1 Z18 => ?_; clear Z17; obtain rfl := Z18
      have hi' : i = l.length := by
        have := congrArg List.length e1
        simp at this; omega
      subst hi'
      have t1 : (l.map (·.1)).take l.length = l.map (·.1) := List.take_of_length_le (by simp)
      have t2 : (bvs l).take l.length = bvs l := List.take_of_length_le (by simp [bvs])
      rw [t1, t2]
      refine wpAny_bind (wpAny_of_eq (pay _ _) ?_)
      dsimp only
      rw [if_neg (by
        have hz' := hz
        simp only [Builtin.Bytes.tooLong, decide_eq_true_eq]
        rw [sizeLine_eq]
        simp only [List.size_toArray, List.length_map] at hz' ⊢
        omega)]
      refine wpAny_bind (m := Kind.bytes.new _) (show wpAny _ _ (mkBytes _) _ _ _ from wpAny_mkBytes ?_ (by rw [sizeLine_eq]; omega))
      refine wpAny_bind (wpAny_holding (wpAny_point ?_))
      refine wpAny_bind (joinLetGo_ok ?_)
      exact wpAny_pure h
end
section
variable {prog : Program} {w : World} {GH : Heap} {mg mb : Str → Option Value} {A : Around} {env : Env} {s : Shared} {h h' : Heap} {B B' : FB} {ρ ρ' : List Addr} {σ : List MO} {sc : Scope} {k : Nat} {V : VEnv} {e : Expr} {Q : AV → List MO → Prop}
theorem relL_bytes : ∀ {ns : List (Array UInt8)} {us : List Value}, RelL prog w B (ns.map .bytes) us → ∃ l : List (Array UInt8 × Tok), us = bvs l ∧ l.map (·.1) = ns
  | [], us, r => by cases (show us = [] from r); exact ⟨[], rfl, rfl⟩
  | n :: ns, us, ⟨u, us', e, ⟨t, r1⟩, r2⟩ => by
    subst e r1
    refine x1a2 (relL_bytes r2) fun l Z1 e => ?_; obtain rfl := Z1
    exact ⟨(n, t) :: l, rfl, by simp [e]⟩
theorem joined_one (sep x : Array UInt8) : joined sep [x] = x := by simp [joined, List.zipIdx]
theorem c_join {a : AV} {ns : List (Array UInt8)} {sep : Array UInt8} (ha : asList σ a = some (ns.map .bytes)) (hz : ns.toArray.foldl (fun x1 x2 => x1 + x2.size) (sep.size * (ns.length - 1)) ≤ 1000000) (hj : (joined sep ns).size ≤ 1000000)
    (h : Q (.pv (.bytes (joined sep ns))) σ) : COk prog w GH k (.builtin "bytes.join") [.pv (.bytes sep), a] σ Q := fun A s B ρ us R I ra => by
  refine x2a2 (args2 ra) fun u v Z1 Z2 => ?_; obtain rfl := Z1; obtain ⟨Z3, r⟩ := Z2; obtain ⟨t, rfl⟩ := Z3
  refine x3a2 (view_list I r ha) fun x its n Z4 Z5 => ?_; obtain rfl := Z4; obtain ⟨hx, q⟩ := Z5
  refine x1a2 (relL_bytes q) fun l e1 e2 => ?_
  have hx' : s.heap.get? x = some { cls := .type "list", data := .seq (bvs l).toArray n } := by rw [hx, ← e1]
  have hlen : l.length = ns.length := by rw [← e2]; simp
  refine wpAny_call_entry slot_join (typeIs_bytes _ _ _) entry_join (join_tree (sep := sep) (t := t) hx' (by rw [e2, hlen]; exact hz) (by rw [e2]; exact hj) (fun y e => ⟨_, rfl, ?_⟩) ⟨_, rfl, ?_⟩) (args_join _ _)
  · subst e
    rw [← e2, List.map_cons, List.map_nil, joined_one] at h
    exact r_here I relA_bytes h
  · rw [e2]; exact r_tok I relA_bytes h
end
end Mine
end
section
open PySem PySem.Spec PySem.Calls PyProof.Rows PySem.W
set_option maxRecDepth 100000
set_option linter.unusedVariables false
namespace Mine
section
variable {prog : Program} {w : World} {GH : Heap} {mg mb : Str → Option Value} {A : Around} {env : Env} {s : Shared} {h h' : Heap} {B B' : FB} {ρ ρ' : List Addr} {σ : List MO} {sc : Scope} {k : Nat} {V : VEnv} {e : Expr}
theorem two_of {P : Addr → Prop} {a b : Addr} (ha : P a) (hb : P b) : ∀ c ∈ [a, b], P c := fun c hc => by
  rcases List.mem_cons.mp hc with q | q
  · exact q ▸ ha
  · exact List.mem_singleton.mp q ▸ hb
theorem x_forE {t1 t2 : Expr} {id : Str} {np cp tp : Pos} {tn : Nat} {es : List Expr} {body : List Stmt} {pos : Pos} {Q : Fl → VEnv → List MO → Prop} (hs : noStar es = true)
    (h : EOk prog w GH sc k (.Name id np) V σ fun v σ₀ => v = .pv (.cst (.type "enumerate")) ∧ LOk prog w GH sc k es V σ₀ fun vs σ₁ => ∃ l, vs = [.pv (.lst l)] ∧ ∃ J : Nat → VEnv → List MO → Prop, J 0 V σ₁ ∧
      (∀ i q V' σ', l[i]? = some q → J i V' σ' → ∃ V'', TgtL prog w GH sc [t1, t2] [.int i, q] V' V'' ∧ SOk prog w GH sc k body V'' σ' (LoopQ (J (i + 1)) Q)) ∧ (∀ V' σ', J l.length V' σ' → Q .next V' σ'))
    (hf : ∀ env x, foldedSetIterable (.Call (.Name id np) es [] cp) env x = pure x := by intro _ _; rfl) : XOk prog w GH sc k (.For (.Tuple [t1, t2] tn tp) (.Call (.Name id np) es [] cp) body [] pos) V σ Q := fun A env s B ρ R F I => by
  refine wpAny_For ?_ (hf env)
  rw [arm_eval_Call_Name']
  refine wpAny_bind (h.go R F I fun u s₀ B₀ ρ₀ v σ₀ a₀ r₀ hq => ?_)
  obtain ⟨rfl, hq⟩ := hq
  cases (show u = .type "enumerate" from r₀)
  refine callWith_mach (first := []) hs rfl (hq.go R (a₀.fr F) a₀.inv fun us s₁ B₁ ρ₁ vs σ₁ a₁ rs hq₁ => ?_)
  refine x1a2 hq₁ fun l Z2 Z3 => ?_; clear hq₁; obtain rfl := Z2; refine x1a3 Z3 fun J h0 step fin => ?_; clear Z3
  refine x1a2 (args1 rs) fun u Z4 Z5 => ?_; obtain rfl := Z4; refine x3a2 Z5 fun al its nl Z6 Z7 => ?_; clear Z5; obtain rfl := Z6; obtain ⟨hbl, rl⟩ := Z7
  have hxl := a₁.inv.base _ _ hbl
  have hll : s₁.heap.IsList al its := ⟨_, hxl, rfl, _, rfl⟩
  have hn : its.size = l.length := by rw [← rl.length]; simp
  refine call_enumerate_list hll fun h₂ he hit hsz hk₂ => ?_
  have Stp : Step [] s.heap B ρ s₁.heap B₁ ρ₁ := a₀.step.trans (wr' := []) (fun _ q => (List.not_mem_nil q).elim) a₁.step
  obtain ⟨I₂, S₂⟩ := a₁.inv.grown (h' := h₂) hk₂
  have F₁ : FrOk prog w GH sc env s₁.heap B₁ ρ₁ V := a₁.fr (a₀.fr F)
  have nI : ∀ b, s₁.heap.objs.size ≤ b → s₁.heap.get? b = none := fun b hb => none_of_ge hb
  have nS : ∀ b, s₁.heap.objs.size ≤ b → s.heap.get? b = none := fun b hb => by
    cases q : s.heap.get? b with
    | none => rfl
    | some o => obtain ⟨o', ho'⟩ := Stp.live _ o q; rw [nI b hb] at ho'; cases ho'
  have hal : @LT.lt Nat _ al s₁.heap.objs.size := Heap.lt_size hxl
  generalize hI : s₁.heap.objs.size = I0 at *
  have W := WalksT.enumerate (prog := prog) (w := w) (A := A) R.handled (I0 + 1) I0 al (Nat.succ_ne_self _) (Nat.ne_of_lt (Nat.lt_succ_of_lt hal)) (Nat.ne_of_lt hal) its
  have hll₂ : h₂.IsList al its := hll.at fun o e => hk₂ _ o e
  have st0 : (∃ old, IsEnum h₂ (I0 + 1) I0 0 old) ∧ h₂.IsListIter I0 al 0 ∧ h₂.IsList al its := ⟨⟨_, he⟩, hit, hll₂⟩
  refine W.self 0 _ _ _ st0 ?_
  have wrE : ∀ b ∈ [I0 + 1, I0], I0 ≤ b := two_of (Nat.le_succ _) (Nat.le_refl _)
  have hIw : ∀ b, I0 ≤ b → b ∉ wrOf env := fun b hb q => by
    obtain ⟨o', ho'⟩ := F.live q
    rw [nS b hb] at ho'; cases ho'
  have U0 : ∀ b, I0 ≤ b → (∃ o, h₂.get? b = some o) → Untold b h₂ B₁ ρ₁ := fun b hb ho => ⟨ho, a₁.inv.none_notin (nI b hb), a₁.inv.none_base (nI b hb)⟩
  refine loop_gen (St := fun i h => (∃ old, IsEnum h (I0 + 1) I0 i old) ∧ h.IsListIter I0 al i ∧ h.IsList al its) (wr := [I0 + 1, I0]) (n := its.size) (J := J) (B₁ := B₁) R (fun _ _ x => x) (fun b hb => nS b (wrE b hb)) (fun b hb => hIw b (wrE b hb)) (fun B' h₁ h₂ i le hb2 hb1 hk st => W.frame i h₁ h₂ st fun b hb o' e => ?_) (fun i B' ρ' V' σ' s' hlt st U I' F' hJ le => ?_)
    (fun s' st => W.done _ _ _ st fun h₁ tk₁ hk₁ => ⟨rfl, h₁, tk₁, rfl, hk₁⟩) (fun V' σ' hJ => fin V' σ' (hn ▸ hJ))
    ⟨0, B₁, ρ₁, V, σ₁, Nat.zero_le _, rfl, (a₀.same.trans a₁.same).trans ⟨h₂, s₁.toks, rfl⟩, (Stp.weaken fun _ q => nomatch q).trans (fun _ q => .inl q) (S₂ (wrOf env)), two_of (U0 _ (Nat.le_succ _) ⟨_, he⟩) (U0 _ (Nat.le_refl _) (x1a2 hit fun o ho _ => ⟨o, ho⟩)), st0, I₂, F₁.step (S₂ []), h0, FB.le.refl _⟩
  · rcases List.mem_cons.mp hb with q | q
    · exact hk b (q ▸ List.mem_cons_self ..) o' e
    · rcases List.mem_cons.mp q with q | q
      · exact hk b (q ▸ List.mem_cons_of_mem _ (List.mem_cons_self ..)) o' e
      · have e0 : b = al := List.mem_singleton.mp q
        subst e0
        have e1 := hb1 b _ (le _ _ hbl)
        rw [e] at e1; cases e1
        exact hb2 b _ (le _ _ hbl)
  · refine W.item i _ _ _ hlt st fun T vals h₁ tk₁ hP hTn hT hMid hk₁ => ⟨_, rfl, ?_⟩
    refine W.go _ _ _ i T _ _ _ hMid fun h₃ st₃ hk₃ => ?_
    refine x2a2 hP fun tt xv hxv e => ?_
    subst e
    refine x1a2 (relL_get rl (show its.toList[i]? = some xv by rw [Array.getElem?_toList]; exact hxv)) fun q hq hrel => ?_
    refine x1a2 (step i q V' σ' hq hJ) fun V'' ht hbody => ?_
    refine x0a2 (I'.quiet (wr := [I0 + 1, I0]) (h' := h₃) U (fun b o hb e => hk₃ b o hb (hk₁ b o hb e)) (two_of (x1a1 st₃.1 fun _ q => ⟨_, q⟩) (x1a2 st₃.2.1 fun o q _ => ⟨o, q⟩))) fun I₁ S₁ => ?_
    refine ⟨h₃, tk₁, V'', rfl, st₃, I₁, S₁, ?_, hbody⟩
    have hT₃ : h₃.IsTuple T #[.int i tt, xv] := x1a2 hT fun o ho r => ⟨o, hk₃ T o (W.apart i T h₁ hMid) ho, r⟩
    obtain ⟨s1, s2⟩ := ht.star (env := env)
    refine wpAny_assign_Tuple (s := { s' with heap := h₃, toks := tk₁ }) R.handled hT₃ (by rw [s2]; rfl) s1 fun h₄ hx₄ => ?_
    have keep₄ : ∀ b o, h₃.get? b = some o → h₄.get? b = some o := fun b o e => hx₄ b o (fun q => by rw [q] at e; exact absurd (Heap.lt_size e) (Nat.lt_irrefl _)) e
    refine x0a2 (I₁.grown keep₄) fun I₄ S₄ => ?_
    refine wpAny_mono (ht.go (s := { s' with heap := h₄, toks := tk₁ }) R.handled ((F'.stepW S₁ fun b hb => hIw b (wrE b hb)).step (S₄ [])) I₄ (us := [.int i tt, xv]) ⟨_, _, rfl, ⟨tt, rfl⟩, _, _, rfl, hrel.mono prog w le, rfl⟩) (fun _ s₅ x => ?_) fun _ _ x => x.elim
    exact x2a4 x fun B₅ ρ₅ sm₅ S₅ I₅ F₅ => ⟨B₅, ρ₅, AsS.trans ⟨h₄, tk₁, rfl⟩ sm₅, (S₄ (wrOf env)).trans (fun _ z => .inl z) S₅, I₅, F₅⟩
end
section
variable {prog : Program} {w : World} {GH : Heap} {mg mb : Str → Option Value} {A : Around} {env : Env} {s : Shared} {h h' : Heap} {B B' : FB} {ρ ρ' : List Addr} {σ : List MO} {sc : Scope} {k : Nat} {V : VEnv} {e : Expr} {Q : AV → List MO → Prop}
theorem foldl_rep (its : Array Value) : ∀ (n : Nat) (acc : Array Value), (List.foldl (fun x1 x2 => x1 ++ x2) acc (List.replicate n its)).toList = acc.toList ++ (List.replicate n its.toList).flatten
  | 0, acc => by simp
  | n + 1, acc => by
    rw [List.replicate_succ, List.foldl_cons, foldl_rep its n, List.replicate_succ, List.flatten_cons, Array.toList_append, List.append_assoc]
theorem relL_rep {l : List PV} {us : List Value} (r : RelL prog w B l us) : ∀ n : Nat, RelL prog w B (List.replicate n l).flatten (List.replicate n us).flatten
  | 0 => rfl
  | n + 1 => by rw [List.replicate_succ, List.replicate_succ, List.flatten_cons, List.flatten_cons]; exact relL_append r (relL_rep r n)
theorem o_mulL {a : AV} {l : List PV} {x : Int} (ha : asList σ a = some l) (hl : l.length * x.toNat ≤ 1000000) (h0 : 0 ≤ x) (hx : x ≤ 1000000) (hl' : l.length ≤ 1000000) (h : Q (.pv (.lst (List.replicate x.toNat l).flatten)) σ) : Op2 prog w GH k (binaryOp .Mult) a (.pv (.int x)) σ Q := fun A s B ρ u v R I ra ⟨t, e⟩ => by
  subst e
  refine x3a2 (view_list I ra ha) fun b its n Z1 Z2 => ?_; obtain rfl := Z1; obtain ⟨hb, q⟩ := Z2
  have e' : its.size = l.length := by rw [← q.length]; simp
  refine wpAny_binaryOp_repeat_ref (T := "list") (U := "int") (by decide) ⟨_, hb, rfl⟩ (fun s' => typeIs_int s' x t) noFill_list_mul PySem.F.fills_int_mul PySem.F.slot_int_rmul repeat_list PySem.F.slot_int_index.lookup
    (call_meets PySem.F.slot_int_rmul (typeIs_int s x t) PySem.F.entry_int_rmul (PySem.F.args_int_rmul_2 _ _) (int___rmul___int_list x t b its n)
      ⟨hb, rfl, ⟨_, hb, rfl⟩, call_meets PySem.F.slot_list_mul ⟨_, hb, rfl⟩ PySem.F.entry_list_mul (PySem.F.args_list_mul_2 _ _)
        (AutoListH.list___mul___list_int_3 b its n x t (by simp [Builtin.List.listFitsIndex]; omega) (by rw [e']; omega) (by rw [e']; simp [Builtin.List.listTooLong, sizeLine]; omega))
        ⟨hb, ?_⟩⟩)
  refine r_newL (t := s.toks) I (size_none _) (push_keeps _ _) (Heap.get?_push_size _ rfl) ?_ h
  rw [foldl_rep]
  by_cases z : its.isEmpty = true
  · have : l = [] := by
      have hz : its.size = 0 := by simpa using z
      exact List.length_eq_zero_iff.mp (by omega)
    subst this
    have hf : ∀ n : Nat, (List.replicate n ([] : List PV)).flatten = [] := fun n => by induction n <;> simp_all [List.replicate_succ]
    rw [if_pos z, hf]; exact rfl
  · rw [if_neg z]; exact relL_rep q _
theorem c_dget (G : GOK GH mg mb) {a : AV} {ks : List Int} {vs : List PV} {i : Int} {d : AV} (ha : asDictI σ a = some (ks, vs)) (hk : i ∉ ks) (h : Q d σ) : COk prog w GH k (.builtin "dict.get") [a, .pv (.int i), d] σ Q := fun A s B ρ us R I ra => by
  refine x3a2 (args3 ra) fun u v x Z1 Z2 => ?_; obtain rfl := Z1; refine x0a3 Z2 fun r1 Z3 r3 => ?_; clear Z2; obtain ⟨t, rfl⟩ := Z3
  refine x2a2 (view_dictI G I r1 ha) fun b us Z4 Z5 => ?_; obtain rfl := Z4; refine x0a4 Z5 fun hb hd hl q => ?_; clear Z5
  refine call_meetsIn PySem.F.slot_dict_get hd.typeIs PySem.F.entry_dict_get (PySem.F.args_dict_get_3 _ _ _) (meets_dict_get_default (PySem.intKind prog w) b (intKind_is _ _ i t) hb x) ⟨_, hd.mapOf, ?_⟩
  have : valueAt (ks.zip us) i = none := by
    have := vAt_none (x := i) hl
    rw [decide_eq_false hk] at this
    simpa using this
  rw [this]
  exact r_tok I r3 h
theorem sub_B {x : List UInt8} {i : Int} (h0 : 0 ≤ i) (hi : i < x.length) (hl : x.length ≤ 1000000) (h : Q (.pv (.int (x.getD i.toNat 0).toNat)) σ) : Sub2 prog w GH k (.pv (.bytes x.toArray)) (.pv (.int i)) σ Q := fun A s B ρ u v R I ⟨t, e⟩ ⟨t', e'⟩ => by
  subst e e'
  exact ⟨"bytes", _, typeIs_bytes _ _ _, FB.slot_bytes_getitem.lookup, getItem_bytes (by omega) h0 hi (r_tok I relA_int h)⟩
theorem sub_BL {x : List UInt8} (hi : 0 < x.length) (hl : x.length ≤ 1000000) (h : Q (.pv (.int (x.getD (x.length - 1) 0).toNat)) σ) : Sub2 prog w GH k (.pv (.bytes x.toArray)) (.pv (.int (-1))) σ Q := fun A s B ρ u v R I ⟨t, e⟩ ⟨t', e'⟩ => by
  subst e e'
  refine ⟨"bytes", _, typeIs_bytes _ _ _, FB.slot_bytes_getitem.lookup, getItem_gives (typeIs_bytes s _ t) (by decide) FB.slot_bytes_getitem FB.entry_bytes_getitem (FB.args_bytes_getitem_2 _ _) (gives_bytes_getitem _ (-1) t t' (x.getD (x.length - 1) 0) (by decide) ?_) (r_tok I relA_int h)⟩
  have : seqIndex? (-1) x.toArray.size = some (x.length - 1) := by
    rw [List.size_toArray, seqIndex_neg (by omega) (by omega)]; congr 1; omega
  rw [this]
  have hlt : x.length - 1 < x.length := by omega
  simp [hlt]
end
noncomputable abbrev GH (w : World) : Heap := H1 w.params
noncomputable def mgOf (w : World) : Str → Option Value := (GH w).nsMap mainGlobals
noncomputable def mbOf (w : World) : Str → Option Value := (GH w).nsMap builtinsNs
theorem at_ {w : World} {a : Nat} {o : Obj} (h : (T6 w.params).get a = some o) (ha : Nat.blt a 658 = true) (hf : alive o = some o) : (GH w).get? a = some o := by
  rw [← hf]; exact abs_get (by simpa using ha) h
theorem fnMk {w : World} {f : Nat} {name : Str} {params : Arguments} {body : List Stmt} {scope : Scope} {dV : Value} (o : Obj) (qual : Str) (kV doc : Value) (pm : Value) (an : Option Addr) (c : Nat) (ct : Value) (oc : Obj) {vs : Array Value} {t : Tok} (h1 : (T6 w.params).get f = some o) (ha : Nat.blt f 658 = true) (hf : alive o = some o) (hd : o.data = .func (fnOf name qual params body scope dV kV doc pm an (.ref c) ct))
    (h2 : (T6 w.params).get c = some oc) (hb : Nat.blt c 658 = true) (hg : alive oc = some oc) (h3 : oc.data = .fields vs) (h4 : vs[1]? = some (.str qual t)) : FnAt (GH w) f name params body scope dV :=
  ⟨o, qual, kV, doc, pm, an, .ref c, ct, at_ h1 ha hf, hd, c, oc, vs, t, rfl, at_ h2 hb hg, h3, h4⟩
theorem fn_Entry___init__ (w : World) : FnAt (GH w) 35 s26 (fdP (cm 3 0)) (fdB (cm 3 0)) (fdS (cm 3 0)) .none :=
  fnMk o19 s33 .none .none (.str s23 194) none 34 .none o18 (by kernel_rfl!) rfl rfl rfl (by kernel_rfl!) rfl rfl rfl rfl
theorem fn_Entry_told (w : World) : FnAt (GH w) 42 s27 (fdP (cm 3 1)) (fdB (cm 3 1)) (fdS (cm 3 1)) .none :=
  fnMk o23 s34 .none .none (.str s23 194) none 41 .none o22 (by kernel_rfl!) rfl rfl rfl (by kernel_rfl!) rfl rfl rfl rfl
-- class Entry at 45 ns 44
theorem cls_Entry (w : World) : (GH w).get? 45 = some o26 := at_ (by kernel_rfl!) (by decide) rfl
theorem clsns_Entry (w : World) : (GH w).get? 44 = some (o25 w.params) := at_ (by kernel_rfl!) (by decide) rfl
theorem fn_free_chain (w : World) : FnAt (GH w) 54 s18 (fdP (st 4)) (fdB (st 4)) (fdS (st 4)) .none :=
  fnMk o33 s18 .none .none (.str s23 194) none 53 .none o32 (by kernel_rfl!) rfl rfl rfl (by kernel_rfl!) rfl rfl rfl rfl
theorem fn_PaperError___init__ (w : World) : FnAt (GH w) 69 s26 (fdP (cm 6 0)) (fdB (cm 6 0)) (fdS (cm 6 0)) (.ref 62) :=
  fnMk o43 s39 .none .none (.str s6 244) none 68 .none o42 (by kernel_rfl!) rfl rfl rfl (by kernel_rfl!) rfl rfl rfl rfl
-- class PaperError at 79 ns 78
theorem cls_PaperError (w : World) : (GH w).get? 79 = some o50 := at_ (by kernel_rfl!) (by decide) rfl
theorem clsns_PaperError (w : World) : (GH w).get? 78 = some (o49 w.params) := at_ (by kernel_rfl!) (by decide) rfl
-- class DraftFault at 92 ns 91
theorem cls_DraftFault (w : World) : (GH w).get? 92 = some o59 := at_ (by kernel_rfl!) (by decide) rfl
theorem clsns_DraftFault (w : World) : (GH w).get? 91 = some (o58 w.params) := at_ (by kernel_rfl!) (by decide) rfl
theorem fn_is_regular (w : World) : FnAt (GH w) 103 s44 (fdP (st 11)) (fdB (st 11)) (fdS (st 11)) .none :=
  fnMk o69 s44 .none .none (.str s49 302) none 102 .none o68 (by kernel_rfl!) rfl rfl rfl (by kernel_rfl!) rfl rfl rfl rfl
-- class Decimal at 197 ns 196
theorem cls_Decimal (w : World) : (GH w).get? 197 = some o124 := at_ (by kernel_rfl!) (by decide) rfl
theorem clsns_Decimal (w : World) : (GH w).get? 196 = some (o123 w.params) := at_ (by kernel_rfl!) (by decide) rfl
theorem fn_Name___init__ (w : World) : FnAt (GH w) 222 s26 (fdP (cm 17 0)) (fdB (cm 17 0)) (fdS (cm 17 0)) .none :=
  fnMk o142 s82 .none .none (.str s41 453) none 221 .none o141 (by kernel_rfl!) rfl rfl rfl (by kernel_rfl!) rfl rfl rfl rfl
-- class Name at 225 ns 224
theorem cls_Name (w : World) : (GH w).get? 225 = some o145 := at_ (by kernel_rfl!) (by decide) rfl
theorem clsns_Name (w : World) : (GH w).get? 224 = some (o144 w.params) := at_ (by kernel_rfl!) (by decide) rfl
-- class String at 247 ns 246
theorem cls_String (w : World) : (GH w).get? 247 = some o161 := at_ (by kernel_rfl!) (by decide) rfl
theorem clsns_String (w : World) : (GH w).get? 246 = some (o160 w.params) := at_ (by kernel_rfl!) (by decide) rfl
theorem fn_Stream___init__ (w : World) : FnAt (GH w) 265 s26 (fdP (cm 19 0)) (fdB (cm 19 0)) (fdS (cm 19 0)) .none :=
  fnMk o173 s87 .none .none (.str s41 453) none 264 .none o172 (by kernel_rfl!) rfl rfl rfl (by kernel_rfl!) rfl rfl rfl rfl
-- class Stream at 268 ns 267
theorem cls_Stream (w : World) : (GH w).get? 268 = some o176 := at_ (by kernel_rfl!) (by decide) rfl
theorem clsns_Stream (w : World) : (GH w).get? 267 = some (o175 w.params) := at_ (by kernel_rfl!) (by decide) rfl
-- class Reference at 296 ns 295
theorem cls_Reference (w : World) : (GH w).get? 296 = some o195 := at_ (by kernel_rfl!) (by decide) rfl
theorem clsns_Reference (w : World) : (GH w).get? 295 = some (o194 w.params) := at_ (by kernel_rfl!) (by decide) rfl
theorem fn_kind_of (w : World) : FnAt (GH w) 307 s92 (fdP (st 21)) (fdB (st 21)) (fdS (st 21)) .none :=
  fnMk o205 s92 .none .none (.str s41 453) none 306 .none o204 (by kernel_rfl!) rfl rfl rfl (by kernel_rfl!) rfl rfl rfl rfl
theorem fn_told_plain (w : World) : FnAt (GH w) 314 s93 (fdP (st 22)) (fdB (st 22)) (fdS (st 22)) .none :=
  fnMk o209 s93 .none .none (.str s41 453) none 313 .none o208 (by kernel_rfl!) rfl rfl rfl (by kernel_rfl!) rfl rfl rfl rfl
theorem fn_told (w : World) : FnAt (GH w) 319 s27 (fdP (st 23)) (fdB (st 23)) (fdS (st 23)) .none :=
  fnMk o212 s27 .none .none (.str s41 453) none 318 .none o211 (by kernel_rfl!) rfl rfl rfl (by kernel_rfl!) rfl rfl rfl rfl
theorem fn_parts_of (w : World) : FnAt (GH w) 324 s95 (fdP (st 25)) (fdB (st 25)) (fdS (st 25)) .none :=
  fnMk o215 s95 .none .none (.str s41 453) none 323 .none o214 (by kernel_rfl!) rfl rfl rfl (by kernel_rfl!) rfl rfl rfl rfl
theorem fn_depth_of (w : World) : FnAt (GH w) 331 s96 (fdP (st 26)) (fdB (st 26)) (fdS (st 26)) .none :=
  fnMk o219 s96 .none .none (.str s41 453) none 330 .none o218 (by kernel_rfl!) rfl rfl rfl (by kernel_rfl!) rfl rfl rfl rfl
theorem fn_Lookup___init__ (w : World) : FnAt (GH w) 346 s26 (fdP (cm 27 0)) (fdB (cm 27 0)) (fdS (cm 27 0)) (.ref 339) :=
  fnMk o228 s110 .none .none (.str s41 453) none 345 .none o227 (by kernel_rfl!) rfl rfl rfl (by kernel_rfl!) rfl rfl rfl rfl
-- class Lookup at 363 ns 362
theorem cls_Lookup (w : World) : (GH w).get? 363 = some o239 := at_ (by kernel_rfl!) (by decide) rfl
theorem clsns_Lookup (w : World) : (GH w).get? 362 = some (o238 w.params) := at_ (by kernel_rfl!) (by decide) rfl
theorem fn_Shelf_put (w : World) : FnAt (GH w) 381 s116 (fdP (cm 28 0)) (fdB (cm 28 0)) (fdS (cm 28 0)) .none :=
  fnMk o252 s121 .none .none (.str s41 453) none 380 .none o251 (by kernel_rfl!) rfl rfl rfl (by kernel_rfl!) rfl rfl rfl rfl
theorem fn_Shelf_numbers (w : World) : FnAt (GH w) 402 s119 (fdP (cm 28 3)) (fdB (cm 28 3)) (fdS (cm 28 3)) .none :=
  fnMk o264 s124 .none .none (.str s41 453) none 401 .none o263 (by kernel_rfl!) rfl rfl rfl (by kernel_rfl!) rfl rfl rfl rfl
theorem fn_Shelf_told (w : World) : FnAt (GH w) 414 s27 (fdP (cm 28 5)) (fdB (cm 28 5)) (fdS (cm 28 5)) .none :=
  fnMk o271 s126 .none .none (.str s41 453) none 413 .none o270 (by kernel_rfl!) rfl rfl rfl (by kernel_rfl!) rfl rfl rfl rfl
-- class Shelf at 417 ns 416
theorem cls_Shelf (w : World) : (GH w).get? 417 = some o273 := at_ (by kernel_rfl!) (by decide) rfl
theorem clsns_Shelf (w : World) : (GH w).get? 416 = some (o272 w.params) := at_ (by kernel_rfl!) (by decide) rfl
theorem fn_text_octets (w : World) : FnAt (GH w) 424 s136 (fdP (st 38)) (fdB (st 38)) (fdS (st 38)) .none :=
  fnMk o280 s136 .none .none (.str s157 740) none 423 .none o279 (by kernel_rfl!) rfl rfl rfl (by kernel_rfl!) rfl rfl rfl rfl
theorem fn_name_octets (w : World) : FnAt (GH w) 438 s138 (fdP (st 40)) (fdB (st 40)) (fdS (st 40)) .none :=
  fnMk o288 s138 .none .none (.str s157 740) none 437 .none o287 (by kernel_rfl!) rfl rfl rfl (by kernel_rfl!) rfl rfl rfl rfl
theorem fn_whole_octets (w : World) : FnAt (GH w) 445 s139 (fdP (st 41)) (fdB (st 41)) (fdS (st 41)) .none :=
  fnMk o292 s139 .none .none (.str s157 740) none 444 .none o291 (by kernel_rfl!) rfl rfl rfl (by kernel_rfl!) rfl rfl rfl rfl
theorem fn_plain_part (w : World) : FnAt (GH w) 485 s145 (fdP (st 47)) (fdB (st 47)) (fdS (st 47)) .none :=
  fnMk o315 s145 .none .none (.str s157 740) none 484 .none o314 (by kernel_rfl!) rfl rfl rfl (by kernel_rfl!) rfl rfl rfl rfl
theorem fn_lay_dict (w : World) : FnAt (GH w) 499 s147 (fdP (st 49)) (fdB (st 49)) (fdS (st 49)) .none :=
  fnMk o323 s147 .none .none (.str s157 740) none 498 .none o322 (by kernel_rfl!) rfl rfl rfl (by kernel_rfl!) rfl rfl rfl rfl
theorem fn_lay_parts (w : World) : FnAt (GH w) 506 s148 (fdP (st 50)) (fdB (st 50)) (fdS (st 50)) .none :=
  fnMk o327 s148 .none .none (.str s157 740) none 505 .none o326 (by kernel_rfl!) rfl rfl rfl (by kernel_rfl!) rfl rfl rfl rfl
theorem fn_run_together (w : World) : FnAt (GH w) 513 s149 (fdP (st 51)) (fdB (st 51)) (fdS (st 51)) .none :=
  fnMk o331 s149 .none .none (.str s157 740) none 512 .none o330 (by kernel_rfl!) rfl rfl rfl (by kernel_rfl!) rfl rfl rfl rfl
theorem fn_joined_parts (w : World) : FnAt (GH w) 520 s150 (fdP (st 52)) (fdB (st 52)) (fdS (st 52)) .none :=
  fnMk o335 s150 .none .none (.str s157 740) none 519 .none o334 (by kernel_rfl!) rfl rfl rfl (by kernel_rfl!) rfl rfl rfl rfl
theorem fn_stream_head (w : World) : FnAt (GH w) 527 s151 (fdP (st 53)) (fdB (st 53)) (fdS (st 53)) .none :=
  fnMk o339 s151 .none .none (.str s157 740) none 526 .none o338 (by kernel_rfl!) rfl rfl rfl (by kernel_rfl!) rfl rfl rfl rfl
theorem fn_write_object (w : World) : FnAt (GH w) 534 s152 (fdP (st 54)) (fdB (st 54)) (fdS (st 54)) .none :=
  fnMk o343 s152 .none .none (.str s157 740) none 533 .none o342 (by kernel_rfl!) rfl rfl rfl (by kernel_rfl!) rfl rfl rfl rfl
theorem fn_write_indirect (w : World) : FnAt (GH w) 541 s153 (fdP (st 55)) (fdB (st 55)) (fdS (st 55)) .none :=
  fnMk o347 s153 .none .none (.str s157 740) none 540 .none o346 (by kernel_rfl!) rfl rfl rfl (by kernel_rfl!) rfl rfl rfl rfl
theorem fn_file_header (w : World) : FnAt (GH w) 549 s155 (fdP (st 58)) (fdB (st 58)) (fdS (st 58)) .none :=
  fnMk o351 s155 .none .none (.str s127 920) none 548 .none o350 (by kernel_rfl!) rfl rfl rfl (by kernel_rfl!) rfl rfl rfl rfl
theorem fn_rows_of_shelf (w : World) : FnAt (GH w) 554 s156 (fdP (st 59)) (fdB (st 59)) (fdS (st 59)) .none :=
  fnMk o354 s156 .none .none (.str s127 920) none 553 .none o353 (by kernel_rfl!) rfl rfl rfl (by kernel_rfl!) rfl rfl rfl rfl
theorem fn_last_number (w : World) : FnAt (GH w) 561 s173 (fdP (st 60)) (fdB (st 60)) (fdS (st 60)) .none :=
  fnMk o360 s173 .none .none (.str s127 920) none 560 .none o359 (by kernel_rfl!) rfl rfl rfl (by kernel_rfl!) rfl rfl rfl rfl
theorem fn_object_offsets (w : World) : FnAt (GH w) 568 s174 (fdP (st 61)) (fdB (st 61)) (fdS (st 61)) .none :=
  fnMk o364 s174 .none .none (.str s127 920) none 567 .none o363 (by kernel_rfl!) rfl rfl rfl (by kernel_rfl!) rfl rfl rfl rfl
theorem fn_used_entries (w : World) : FnAt (GH w) 575 s175 (fdP (st 62)) (fdB (st 62)) (fdS (st 62)) .none :=
  fnMk o368 s175 .none .none (.str s127 920) none 574 .none o367 (by kernel_rfl!) rfl rfl rfl (by kernel_rfl!) rfl rfl rfl rfl
theorem fn_with_free (w : World) : FnAt (GH w) 580 s176 (fdP (st 63)) (fdB (st 63)) (fdS (st 63)) .none :=
  fnMk o371 s176 .none .none (.str s127 920) none 579 .none o370 (by kernel_rfl!) rfl rfl rfl (by kernel_rfl!) rfl rfl rfl rfl
theorem fn_packed_entries (w : World) : FnAt (GH w) 587 s177 (fdP (st 64)) (fdB (st 64)) (fdS (st 64)) .none :=
  fnMk o375 s177 .none .none (.str s127 920) none 586 .none o374 (by kernel_rfl!) rfl rfl rfl (by kernel_rfl!) rfl rfl rfl rfl
theorem fn_placed_objects (w : World) : FnAt (GH w) 592 s178 (fdP (st 65)) (fdB (st 65)) (fdS (st 65)) .none :=
  fnMk o378 s178 .none .none (.str s127 920) none 591 .none o377 (by kernel_rfl!) rfl rfl rfl (by kernel_rfl!) rfl rfl rfl rfl
theorem fn_check_way (w : World) : FnAt (GH w) 599 s179 (fdP (st 66)) (fdB (st 66)) (fdS (st 66)) .none :=
  fnMk o382 s179 .none .none (.str s127 920) none 598 .none o381 (by kernel_rfl!) rfl rfl rfl (by kernel_rfl!) rfl rfl rfl rfl
theorem fn__law_pen (w : World) : FnAt (GH w) 604 s180 (fdP (st 68)) (fdB (st 68)) (fdS (st 68)) .none :=
  fnMk o385 s180 .none .none (.str s172 1004) none 603 .none o384 (by kernel_rfl!) rfl rfl rfl (by kernel_rfl!) rfl rfl rfl rfl
theorem fn__law_draw (w : World) : FnAt (GH w) 611 s181 (fdP (st 69)) (fdB (st 69)) (fdS (st 69)) .none :=
  fnMk o389 s181 .none .none (.str s172 1004) none 610 .none o388 (by kernel_rfl!) rfl rfl rfl (by kernel_rfl!) rfl rfl rfl rfl
theorem fn__law_pick (w : World) : FnAt (GH w) 618 s182 (fdP (st 70)) (fdB (st 70)) (fdS (st 70)) .none :=
  fnMk o393 s182 .none .none (.str s172 1004) none 617 .none o392 (by kernel_rfl!) rfl rfl rfl (by kernel_rfl!) rfl rfl rfl rfl
theorem fn__law_octets (w : World) : FnAt (GH w) 623 s183 (fdP (st 71)) (fdB (st 71)) (fdS (st 71)) .none :=
  fnMk o396 s183 .none .none (.str s172 1004) none 622 .none o395 (by kernel_rfl!) rfl rfl rfl (by kernel_rfl!) rfl rfl rfl rfl
theorem fn__law_lines (w : World) : FnAt (GH w) 630 s184 (fdP (st 72)) (fdB (st 72)) (fdS (st 72)) .none :=
  fnMk o400 s184 .none .none (.str s172 1004) none 629 .none o399 (by kernel_rfl!) rfl rfl rfl (by kernel_rfl!) rfl rfl rfl rfl
theorem fn__law_groups (w : World) : FnAt (GH w) 635 s185 (fdP (st 73)) (fdB (st 73)) (fdS (st 73)) .none :=
  fnMk o403 s185 .none .none (.str s172 1004) none 634 .none o402 (by kernel_rfl!) rfl rfl rfl (by kernel_rfl!) rfl rfl rfl rfl
theorem fn__law_due (w : World) : FnAt (GH w) 640 s186 (fdP (st 74)) (fdB (st 74)) (fdS (st 74)) .none :=
  fnMk o406 s186 .none .none (.str s172 1004) none 639 .none o405 (by kernel_rfl!) rfl rfl rfl (by kernel_rfl!) rfl rfl rfl rfl
theorem fn__law_told (w : World) : FnAt (GH w) 645 s187 (fdP (st 75)) (fdB (st 75)) (fdS (st 75)) .none :=
  fnMk o409 s187 .none .none (.str s172 1004) none 644 .none o408 (by kernel_rfl!) rfl rfl rfl (by kernel_rfl!) rfl rfl rfl rfl
theorem fn__law_is_let (w : World) : FnAt (GH w) 652 s188 (fdP (st 76)) (fdB (st 76)) (fdS (st 76)) .none :=
  fnMk o413 s188 .none .none (.str s172 1004) none 651 .none o412 (by kernel_rfl!) rfl rfl rfl (by kernel_rfl!) rfl rfl rfl rfl
theorem fn_law (w : World) : FnAt (GH w) 657 s189 (fdP (st 77)) (fdB (st 77)) (fdS (st 77)) .none :=
  fnMk o416 s189 .none .none (.str s172 1004) none 656 .none o415 (by kernel_rfl!) rfl rfl rfl (by kernel_rfl!) rfl rfl rfl rfl
noncomputable abbrev n_MOST_GENERATION : Str := s16
theorem g_MOST_GENERATION (w : World) : mgOf w n_MOST_GENERATION = some (.int (.ofNat 65535) 196) := by kernel_rfl!
noncomputable abbrev n_Entry : Str := s17
theorem g_Entry (w : World) : mgOf w n_Entry = some (.ref 45) := by kernel_rfl!
noncomputable abbrev n_free_chain : Str := s18
theorem g_free_chain (w : World) : mgOf w n_free_chain = some (.ref 54) := by kernel_rfl!
noncomputable abbrev n_DraftFault : Str := s20
theorem g_DraftFault (w : World) : mgOf w n_DraftFault = some (.ref 92) := by kernel_rfl!
noncomputable abbrev n_WHITE : Str := s42
theorem g_WHITE (w : World) : mgOf w n_WHITE = some (.ref 95) := by kernel_rfl!
noncomputable abbrev n_DELIMITERS : Str := s43
theorem g_DELIMITERS (w : World) : mgOf w n_DELIMITERS = some (.ref 96) := by kernel_rfl!
noncomputable abbrev n_is_regular : Str := s44
theorem g_is_regular (w : World) : mgOf w n_is_regular = some (.ref 103) := by kernel_rfl!
noncomputable abbrev n_Decimal : Str := s45
theorem g_Decimal (w : World) : mgOf w n_Decimal = some (.ref 197) := by kernel_rfl!
noncomputable abbrev n_Name : Str := s78
theorem g_Name (w : World) : mgOf w n_Name = some (.ref 225) := by kernel_rfl!
noncomputable abbrev n_String : Str := s79
theorem g_String (w : World) : mgOf w n_String = some (.ref 247) := by kernel_rfl!
noncomputable abbrev n_Stream : Str := s80
theorem g_Stream (w : World) : mgOf w n_Stream = some (.ref 268) := by kernel_rfl!
noncomputable abbrev n_kind_of : Str := s92
theorem g_kind_of (w : World) : mgOf w n_kind_of = some (.ref 307) := by kernel_rfl!
noncomputable abbrev n_told_plain : Str := s93
theorem g_told_plain (w : World) : mgOf w n_told_plain = some (.ref 314) := by kernel_rfl!
noncomputable abbrev n_told_objects : Str := s94
theorem g_told_objects (w : World) : mgOf w n_told_objects = some (.ref 319) := by kernel_rfl!
noncomputable abbrev n_parts_of : Str := s95
theorem g_parts_of (w : World) : mgOf w n_parts_of = some (.ref 324) := by kernel_rfl!
noncomputable abbrev n_depth_of : Str := s96
theorem g_depth_of (w : World) : mgOf w n_depth_of = some (.ref 331) := by kernel_rfl!
noncomputable abbrev n_Shelf : Str := s98
theorem g_Shelf (w : World) : mgOf w n_Shelf = some (.ref 417) := by kernel_rfl!
noncomputable abbrev n_MOST_NESTED : Str := s128
theorem g_MOST_NESTED (w : World) : mgOf w n_MOST_NESTED = some (.int (.ofNat 40) 742) := by kernel_rfl!
noncomputable abbrev n_MOST_NUMBER : Str := s129
theorem g_MOST_NUMBER (w : World) : mgOf w n_MOST_NUMBER = some (.int (.ofNat 40) 744) := by kernel_rfl!
noncomputable abbrev n_NUMBER_SIGN : Str := s134
theorem g_NUMBER_SIGN (w : World) : mgOf w n_NUMBER_SIGN = some (.int (.ofNat 35) 754) := by kernel_rfl!
noncomputable abbrev n_text_octets : Str := s136
theorem g_text_octets (w : World) : mgOf w n_text_octets = some (.ref 424) := by kernel_rfl!
noncomputable abbrev n_name_octets : Str := s138
theorem g_name_octets (w : World) : mgOf w n_name_octets = some (.ref 438) := by kernel_rfl!
noncomputable abbrev n_whole_octets : Str := s139
theorem g_whole_octets (w : World) : mgOf w n_whole_octets = some (.ref 445) := by kernel_rfl!
noncomputable abbrev n_plain_part : Str := s145
theorem g_plain_part (w : World) : mgOf w n_plain_part = some (.ref 485) := by kernel_rfl!
noncomputable abbrev n_lay_dict : Str := s147
theorem g_lay_dict (w : World) : mgOf w n_lay_dict = some (.ref 499) := by kernel_rfl!
noncomputable abbrev n_lay_parts : Str := s148
theorem g_lay_parts (w : World) : mgOf w n_lay_parts = some (.ref 506) := by kernel_rfl!
noncomputable abbrev n_run_together : Str := s149
theorem g_run_together (w : World) : mgOf w n_run_together = some (.ref 513) := by kernel_rfl!
noncomputable abbrev n_joined_parts : Str := s150
theorem g_joined_parts (w : World) : mgOf w n_joined_parts = some (.ref 520) := by kernel_rfl!
noncomputable abbrev n_stream_head : Str := s151
theorem g_stream_head (w : World) : mgOf w n_stream_head = some (.ref 527) := by kernel_rfl!
noncomputable abbrev n_write_object : Str := s152
theorem g_write_object (w : World) : mgOf w n_write_object = some (.ref 534) := by kernel_rfl!
noncomputable abbrev n_write_indirect : Str := s153
theorem g_write_indirect (w : World) : mgOf w n_write_indirect = some (.ref 541) := by kernel_rfl!
noncomputable abbrev n_FILE_WAYS : Str := s154
theorem g_FILE_WAYS (w : World) : mgOf w n_FILE_WAYS = some (.ref 542) := by kernel_rfl!
noncomputable abbrev n_file_header : Str := s155
theorem g_file_header (w : World) : mgOf w n_file_header = some (.ref 549) := by kernel_rfl!
noncomputable abbrev n_rows_of_shelf : Str := s156
theorem g_rows_of_shelf (w : World) : mgOf w n_rows_of_shelf = some (.ref 554) := by kernel_rfl!
noncomputable abbrev n_last_number : Str := s173
theorem g_last_number (w : World) : mgOf w n_last_number = some (.ref 561) := by kernel_rfl!
noncomputable abbrev n_object_offsets : Str := s174
theorem g_object_offsets (w : World) : mgOf w n_object_offsets = some (.ref 568) := by kernel_rfl!
noncomputable abbrev n_used_entries : Str := s175
theorem g_used_entries (w : World) : mgOf w n_used_entries = some (.ref 575) := by kernel_rfl!
noncomputable abbrev n_with_free : Str := s176
theorem g_with_free (w : World) : mgOf w n_with_free = some (.ref 580) := by kernel_rfl!
noncomputable abbrev n_packed_entries : Str := s177
theorem g_packed_entries (w : World) : mgOf w n_packed_entries = some (.ref 587) := by kernel_rfl!
noncomputable abbrev n_placed_objects : Str := s178
theorem g_placed_objects (w : World) : mgOf w n_placed_objects = some (.ref 592) := by kernel_rfl!
noncomputable abbrev n_check_way : Str := s179
theorem g_check_way (w : World) : mgOf w n_check_way = some (.ref 599) := by kernel_rfl!
noncomputable abbrev n__law_pen : Str := s180
theorem g__law_pen (w : World) : mgOf w n__law_pen = some (.ref 604) := by kernel_rfl!
noncomputable abbrev n__law_draw : Str := s181
theorem g__law_draw (w : World) : mgOf w n__law_draw = some (.ref 611) := by kernel_rfl!
noncomputable abbrev n__law_pick : Str := s182
theorem g__law_pick (w : World) : mgOf w n__law_pick = some (.ref 618) := by kernel_rfl!
noncomputable abbrev n__law_octets : Str := s183
theorem g__law_octets (w : World) : mgOf w n__law_octets = some (.ref 623) := by kernel_rfl!
noncomputable abbrev n__law_lines : Str := s184
theorem g__law_lines (w : World) : mgOf w n__law_lines = some (.ref 630) := by kernel_rfl!
noncomputable abbrev n__law_groups : Str := s185
theorem g__law_groups (w : World) : mgOf w n__law_groups = some (.ref 635) := by kernel_rfl!
noncomputable abbrev n__law_due : Str := s186
theorem g__law_due (w : World) : mgOf w n__law_due = some (.ref 640) := by kernel_rfl!
noncomputable abbrev n__law_told : Str := s187
theorem g__law_told (w : World) : mgOf w n__law_told = some (.ref 645) := by kernel_rfl!
noncomputable abbrev n__law_is_let : Str := s188
theorem g__law_is_let (w : World) : mgOf w n__law_is_let = some (.ref 652) := by kernel_rfl!
noncomputable abbrev n_law : Str := s189
theorem g_law (w : World) : mgOf w n_law = some (.ref 657) := by kernel_rfl!
theorem gok (w : World) : GOK (GH w) (mgOf w) (mbOf w) where
  last := by
    have e : (GH w).objs.size = 658 := absHeap_size _ _ _
    rw [e]; exact ⟨_, fn_law w |>.is.choose_spec.choose_spec.choose_spec.choose_spec.choose_spec.choose_spec.choose_spec.choose_spec.1⟩
  pos := by
    have e : (GH w).objs.size = 658 := absHeap_size _ _ _
    rw [e]; decide
  sys := by
    have : ((GH w).get? sysModules).isSome = true := by kernel_rfl!
    exact Option.isSome_iff_exists.mp this
  g := .of_isNs (by kernel_rfl!)
  b := .of_isNs (by kernel_rfl!)
  nolimit := ⟨_, .of_isNs (by kernel_rfl!), by kernel_rfl!⟩
  builtins := fun x hx => Heap.of_bltView (by kernel_rfl!) (by kernel_rfl!) x hx
theorem inOf {K : Frag} {h : Heap} : (∀ p ∈ K, h.get? p.1 = some p.2) → K.In h := by
  intro H a o e
  induction K with
  | nil => cases e
  | cons p K ih =>
    obtain ⟨b, x⟩ := p
    rw [List.lookup_cons] at e
    cases q : a == b with
    | true => rw [q] at e; cases e; rw [beq_iff_eq.mp q]; exact H _ (List.mem_cons_self ..)
    | false => rw [q] at e; exact ih (fun p hp => H p (List.mem_cons_of_mem _ hp)) e
noncomputable def KF (w : World) : Frag := [(45, o26), (44, o25 w.params), (197, o124), (196, o123 w.params), (225, o145), (224, o144 w.params), (247, o161), (246, o160 w.params), (268, o176), (267, o175 w.params), (296, o195), (295, o194 w.params), (363, o239), (362, o238 w.params), (417, o273), (416, o272 w.params), (35, o19), (42, o23), (117, o77), (124, o81), (131, o85), (138, o89), (145, o93), (152, o97), (159, o101), (166, o105), (173, o109), (180, o113), (187, o117), (194, o121), (222, o142), (244, o158), (265, o173), (286, o188), (293, o192), (346, o228), (353, o232), (360, o236), (381, o252), (388, o256), (395, o260), (402, o264), (409, o268), (414, o271)]
theorem allc {α : Type} {P : α → Prop} {p : α} {K : List α} (h : P p) (t : ∀ q ∈ K, P q) : ∀ q ∈ p :: K, P q := fun q m => by
  rcases List.mem_cons.mp m with rfl | m
  · exact h
  · exact t q m
theorem kf_in (w : World) : (KF w).In (GH w) := inOf (by
  unfold KF
  refine allc (cls_Entry w) ?_
  refine allc (clsns_Entry w) ?_
  refine allc (cls_Decimal w) ?_
  refine allc (clsns_Decimal w) ?_
  refine allc (cls_Name w) ?_
  refine allc (clsns_Name w) ?_
  refine allc (cls_String w) ?_
  refine allc (clsns_String w) ?_
  refine allc (cls_Stream w) ?_
  refine allc (clsns_Stream w) ?_
  refine allc (cls_Reference w) ?_
  refine allc (clsns_Reference w) ?_
  refine allc (cls_Lookup w) ?_
  refine allc (clsns_Lookup w) ?_
  refine allc (cls_Shelf w) ?_
  refine allc (clsns_Shelf w) ?_
  refine allc (at_ (a := 35) (o := o19) (by kernel_rfl!) (by decide) rfl) ?_
  refine allc (at_ (a := 42) (o := o23) (by kernel_rfl!) (by decide) rfl) ?_
  refine allc (at_ (a := 117) (o := o77) (by kernel_rfl!) (by decide) rfl) ?_
  refine allc (at_ (a := 124) (o := o81) (by kernel_rfl!) (by decide) rfl) ?_
  refine allc (at_ (a := 131) (o := o85) (by kernel_rfl!) (by decide) rfl) ?_
  refine allc (at_ (a := 138) (o := o89) (by kernel_rfl!) (by decide) rfl) ?_
  refine allc (at_ (a := 145) (o := o93) (by kernel_rfl!) (by decide) rfl) ?_
  refine allc (at_ (a := 152) (o := o97) (by kernel_rfl!) (by decide) rfl) ?_
  refine allc (at_ (a := 159) (o := o101) (by kernel_rfl!) (by decide) rfl) ?_
  refine allc (at_ (a := 166) (o := o105) (by kernel_rfl!) (by decide) rfl) ?_
  refine allc (at_ (a := 173) (o := o109) (by kernel_rfl!) (by decide) rfl) ?_
  refine allc (at_ (a := 180) (o := o113) (by kernel_rfl!) (by decide) rfl) ?_
  refine allc (at_ (a := 187) (o := o117) (by kernel_rfl!) (by decide) rfl) ?_
  refine allc (at_ (a := 194) (o := o121) (by kernel_rfl!) (by decide) rfl) ?_
  refine allc (at_ (a := 222) (o := o142) (by kernel_rfl!) (by decide) rfl) ?_
  refine allc (at_ (a := 244) (o := o158) (by kernel_rfl!) (by decide) rfl) ?_
  refine allc (at_ (a := 265) (o := o173) (by kernel_rfl!) (by decide) rfl) ?_
  refine allc (at_ (a := 286) (o := o188) (by kernel_rfl!) (by decide) rfl) ?_
  refine allc (at_ (a := 293) (o := o192) (by kernel_rfl!) (by decide) rfl) ?_
  refine allc (at_ (a := 346) (o := o228) (by kernel_rfl!) (by decide) rfl) ?_
  refine allc (at_ (a := 353) (o := o232) (by kernel_rfl!) (by decide) rfl) ?_
  refine allc (at_ (a := 360) (o := o236) (by kernel_rfl!) (by decide) rfl) ?_
  refine allc (at_ (a := 381) (o := o252) (by kernel_rfl!) (by decide) rfl) ?_
  refine allc (at_ (a := 388) (o := o256) (by kernel_rfl!) (by decide) rfl) ?_
  refine allc (at_ (a := 395) (o := o260) (by kernel_rfl!) (by decide) rfl) ?_
  refine allc (at_ (a := 402) (o := o264) (by kernel_rfl!) (by decide) rfl) ?_
  refine allc (at_ (a := 409) (o := o268) (by kernel_rfl!) (by decide) rfl) ?_
  refine allc (at_ (a := 414) (o := o271) (by kernel_rfl!) (by decide) rfl) ?_
  exact fun _ m => nomatch m)
theorem cl_Entry (w : World) : Cl (GH w) (KF w) 45 where
  X := kf_in w
  makes := by kernel_rfl!
  ga := by kernel_rfl!
  gx := by kernel_rfl!
  sa := by kernel_rfl!
  over := by kernel_rfl!
  hasD := by kernel_rfl!
theorem cl_Name (w : World) : Cl (GH w) (KF w) 225 where
  X := kf_in w
  makes := by kernel_rfl!
  ga := by kernel_rfl!
  gx := by kernel_rfl!
  sa := by kernel_rfl!
  over := by kernel_rfl!
  hasD := by kernel_rfl!
theorem cl_Stream (w : World) : Cl (GH w) (KF w) 268 where
  X := kf_in w
  makes := by kernel_rfl!
  ga := by kernel_rfl!
  gx := by kernel_rfl!
  sa := by kernel_rfl!
  over := by kernel_rfl!
  hasD := by kernel_rfl!
theorem cl_Shelf (w : World) : Cl (GH w) (KF w) 417 where
  X := kf_in w
  makes := by kernel_rfl!
  ga := by kernel_rfl!
  gx := by kernel_rfl!
  sa := by kernel_rfl!
  over := by kernel_rfl!
  hasD := by kernel_rfl!
section
variable {prog : Program} {w : World} {σ : List MO} {sc : Scope} {k : Nat} {V : VEnv} {Q : AV → List MO → Prop} {p : Pos}
theorem en_MOST_GENERATION (h : Q (.pv (.int 65535)) σ) (hk : sc.names.lookup n_MOST_GENERATION = some .globalImplicit) : EOk prog w (GH w) sc k (.Name n_MOST_GENERATION p) V σ Q := e_glob (v := .int 65535) (gok w) (g_MOST_GENERATION w) (fun _ _ => ⟨_, rfl⟩) h hk (by decide +kernel)
theorem en_Entry (h : Q (.pv (.cst (.ref 45))) σ) (hk : sc.names.lookup n_Entry = some .globalImplicit) : EOk prog w (GH w) sc k (.Name n_Entry p) V σ Q := e_glob (v := .cst (.ref 45)) (gok w) (g_Entry w) (fun _ _ => rfl) h hk (by decide +kernel)
theorem en_free_chain (h : Q (.pv (.cst (.ref 54))) σ) (hk : sc.names.lookup n_free_chain = some .globalImplicit) : EOk prog w (GH w) sc k (.Name n_free_chain p) V σ Q := e_glob (v := .cst (.ref 54)) (gok w) (g_free_chain w) (fun _ _ => rfl) h hk (by decide +kernel)
theorem en_DraftFault (h : Q (.pv (.cst (.ref 92))) σ) (hk : sc.names.lookup n_DraftFault = some .globalImplicit) : EOk prog w (GH w) sc k (.Name n_DraftFault p) V σ Q := e_glob (v := .cst (.ref 92)) (gok w) (g_DraftFault w) (fun _ _ => rfl) h hk (by decide +kernel)
theorem en_is_regular (h : Q (.pv (.cst (.ref 103))) σ) (hk : sc.names.lookup n_is_regular = some .globalImplicit) : EOk prog w (GH w) sc k (.Name n_is_regular p) V σ Q := e_glob (v := .cst (.ref 103)) (gok w) (g_is_regular w) (fun _ _ => rfl) h hk (by decide +kernel)
theorem en_Decimal (h : Q (.pv (.cst (.ref 197))) σ) (hk : sc.names.lookup n_Decimal = some .globalImplicit) : EOk prog w (GH w) sc k (.Name n_Decimal p) V σ Q := e_glob (v := .cst (.ref 197)) (gok w) (g_Decimal w) (fun _ _ => rfl) h hk (by decide +kernel)
theorem en_Name (h : Q (.pv (.cst (.ref 225))) σ) (hk : sc.names.lookup n_Name = some .globalImplicit) : EOk prog w (GH w) sc k (.Name n_Name p) V σ Q := e_glob (v := .cst (.ref 225)) (gok w) (g_Name w) (fun _ _ => rfl) h hk (by decide +kernel)
theorem en_String (h : Q (.pv (.cst (.ref 247))) σ) (hk : sc.names.lookup n_String = some .globalImplicit) : EOk prog w (GH w) sc k (.Name n_String p) V σ Q := e_glob (v := .cst (.ref 247)) (gok w) (g_String w) (fun _ _ => rfl) h hk (by decide +kernel)
theorem en_Stream (h : Q (.pv (.cst (.ref 268))) σ) (hk : sc.names.lookup n_Stream = some .globalImplicit) : EOk prog w (GH w) sc k (.Name n_Stream p) V σ Q := e_glob (v := .cst (.ref 268)) (gok w) (g_Stream w) (fun _ _ => rfl) h hk (by decide +kernel)
theorem en_kind_of (h : Q (.pv (.cst (.ref 307))) σ) (hk : sc.names.lookup n_kind_of = some .globalImplicit) : EOk prog w (GH w) sc k (.Name n_kind_of p) V σ Q := e_glob (v := .cst (.ref 307)) (gok w) (g_kind_of w) (fun _ _ => rfl) h hk (by decide +kernel)
theorem en_told_plain (h : Q (.pv (.cst (.ref 314))) σ) (hk : sc.names.lookup n_told_plain = some .globalImplicit) : EOk prog w (GH w) sc k (.Name n_told_plain p) V σ Q := e_glob (v := .cst (.ref 314)) (gok w) (g_told_plain w) (fun _ _ => rfl) h hk (by decide +kernel)
theorem en_told_objects (h : Q (.pv (.cst (.ref 319))) σ) (hk : sc.names.lookup n_told_objects = some .globalImplicit) : EOk prog w (GH w) sc k (.Name n_told_objects p) V σ Q := e_glob (v := .cst (.ref 319)) (gok w) (g_told_objects w) (fun _ _ => rfl) h hk (by decide +kernel)
theorem en_parts_of (h : Q (.pv (.cst (.ref 324))) σ) (hk : sc.names.lookup n_parts_of = some .globalImplicit) : EOk prog w (GH w) sc k (.Name n_parts_of p) V σ Q := e_glob (v := .cst (.ref 324)) (gok w) (g_parts_of w) (fun _ _ => rfl) h hk (by decide +kernel)
theorem en_depth_of (h : Q (.pv (.cst (.ref 331))) σ) (hk : sc.names.lookup n_depth_of = some .globalImplicit) : EOk prog w (GH w) sc k (.Name n_depth_of p) V σ Q := e_glob (v := .cst (.ref 331)) (gok w) (g_depth_of w) (fun _ _ => rfl) h hk (by decide +kernel)
theorem en_Shelf (h : Q (.pv (.cst (.ref 417))) σ) (hk : sc.names.lookup n_Shelf = some .globalImplicit) : EOk prog w (GH w) sc k (.Name n_Shelf p) V σ Q := e_glob (v := .cst (.ref 417)) (gok w) (g_Shelf w) (fun _ _ => rfl) h hk (by decide +kernel)
theorem en_MOST_NESTED (h : Q (.pv (.int 40)) σ) (hk : sc.names.lookup n_MOST_NESTED = some .globalImplicit) : EOk prog w (GH w) sc k (.Name n_MOST_NESTED p) V σ Q := e_glob (v := .int 40) (gok w) (g_MOST_NESTED w) (fun _ _ => ⟨_, rfl⟩) h hk (by decide +kernel)
theorem en_MOST_NUMBER (h : Q (.pv (.int 40)) σ) (hk : sc.names.lookup n_MOST_NUMBER = some .globalImplicit) : EOk prog w (GH w) sc k (.Name n_MOST_NUMBER p) V σ Q := e_glob (v := .int 40) (gok w) (g_MOST_NUMBER w) (fun _ _ => ⟨_, rfl⟩) h hk (by decide +kernel)
theorem en_NUMBER_SIGN (h : Q (.pv (.int 35)) σ) (hk : sc.names.lookup n_NUMBER_SIGN = some .globalImplicit) : EOk prog w (GH w) sc k (.Name n_NUMBER_SIGN p) V σ Q := e_glob (v := .int 35) (gok w) (g_NUMBER_SIGN w) (fun _ _ => ⟨_, rfl⟩) h hk (by decide +kernel)
theorem en_text_octets (h : Q (.pv (.cst (.ref 424))) σ) (hk : sc.names.lookup n_text_octets = some .globalImplicit) : EOk prog w (GH w) sc k (.Name n_text_octets p) V σ Q := e_glob (v := .cst (.ref 424)) (gok w) (g_text_octets w) (fun _ _ => rfl) h hk (by decide +kernel)
theorem en_name_octets (h : Q (.pv (.cst (.ref 438))) σ) (hk : sc.names.lookup n_name_octets = some .globalImplicit) : EOk prog w (GH w) sc k (.Name n_name_octets p) V σ Q := e_glob (v := .cst (.ref 438)) (gok w) (g_name_octets w) (fun _ _ => rfl) h hk (by decide +kernel)
theorem en_whole_octets (h : Q (.pv (.cst (.ref 445))) σ) (hk : sc.names.lookup n_whole_octets = some .globalImplicit) : EOk prog w (GH w) sc k (.Name n_whole_octets p) V σ Q := e_glob (v := .cst (.ref 445)) (gok w) (g_whole_octets w) (fun _ _ => rfl) h hk (by decide +kernel)
theorem en_plain_part (h : Q (.pv (.cst (.ref 485))) σ) (hk : sc.names.lookup n_plain_part = some .globalImplicit) : EOk prog w (GH w) sc k (.Name n_plain_part p) V σ Q := e_glob (v := .cst (.ref 485)) (gok w) (g_plain_part w) (fun _ _ => rfl) h hk (by decide +kernel)
theorem en_lay_dict (h : Q (.pv (.cst (.ref 499))) σ) (hk : sc.names.lookup n_lay_dict = some .globalImplicit) : EOk prog w (GH w) sc k (.Name n_lay_dict p) V σ Q := e_glob (v := .cst (.ref 499)) (gok w) (g_lay_dict w) (fun _ _ => rfl) h hk (by decide +kernel)
theorem en_lay_parts (h : Q (.pv (.cst (.ref 506))) σ) (hk : sc.names.lookup n_lay_parts = some .globalImplicit) : EOk prog w (GH w) sc k (.Name n_lay_parts p) V σ Q := e_glob (v := .cst (.ref 506)) (gok w) (g_lay_parts w) (fun _ _ => rfl) h hk (by decide +kernel)
theorem en_run_together (h : Q (.pv (.cst (.ref 513))) σ) (hk : sc.names.lookup n_run_together = some .globalImplicit) : EOk prog w (GH w) sc k (.Name n_run_together p) V σ Q := e_glob (v := .cst (.ref 513)) (gok w) (g_run_together w) (fun _ _ => rfl) h hk (by decide +kernel)
theorem en_joined_parts (h : Q (.pv (.cst (.ref 520))) σ) (hk : sc.names.lookup n_joined_parts = some .globalImplicit) : EOk prog w (GH w) sc k (.Name n_joined_parts p) V σ Q := e_glob (v := .cst (.ref 520)) (gok w) (g_joined_parts w) (fun _ _ => rfl) h hk (by decide +kernel)
theorem en_stream_head (h : Q (.pv (.cst (.ref 527))) σ) (hk : sc.names.lookup n_stream_head = some .globalImplicit) : EOk prog w (GH w) sc k (.Name n_stream_head p) V σ Q := e_glob (v := .cst (.ref 527)) (gok w) (g_stream_head w) (fun _ _ => rfl) h hk (by decide +kernel)
theorem en_write_object (h : Q (.pv (.cst (.ref 534))) σ) (hk : sc.names.lookup n_write_object = some .globalImplicit) : EOk prog w (GH w) sc k (.Name n_write_object p) V σ Q := e_glob (v := .cst (.ref 534)) (gok w) (g_write_object w) (fun _ _ => rfl) h hk (by decide +kernel)
theorem en_write_indirect (h : Q (.pv (.cst (.ref 541))) σ) (hk : sc.names.lookup n_write_indirect = some .globalImplicit) : EOk prog w (GH w) sc k (.Name n_write_indirect p) V σ Q := e_glob (v := .cst (.ref 541)) (gok w) (g_write_indirect w) (fun _ _ => rfl) h hk (by decide +kernel)
theorem en_file_header (h : Q (.pv (.cst (.ref 549))) σ) (hk : sc.names.lookup n_file_header = some .globalImplicit) : EOk prog w (GH w) sc k (.Name n_file_header p) V σ Q := e_glob (v := .cst (.ref 549)) (gok w) (g_file_header w) (fun _ _ => rfl) h hk (by decide +kernel)
theorem en_rows_of_shelf (h : Q (.pv (.cst (.ref 554))) σ) (hk : sc.names.lookup n_rows_of_shelf = some .globalImplicit) : EOk prog w (GH w) sc k (.Name n_rows_of_shelf p) V σ Q := e_glob (v := .cst (.ref 554)) (gok w) (g_rows_of_shelf w) (fun _ _ => rfl) h hk (by decide +kernel)
theorem en_last_number (h : Q (.pv (.cst (.ref 561))) σ) (hk : sc.names.lookup n_last_number = some .globalImplicit) : EOk prog w (GH w) sc k (.Name n_last_number p) V σ Q := e_glob (v := .cst (.ref 561)) (gok w) (g_last_number w) (fun _ _ => rfl) h hk (by decide +kernel)
theorem en_object_offsets (h : Q (.pv (.cst (.ref 568))) σ) (hk : sc.names.lookup n_object_offsets = some .globalImplicit) : EOk prog w (GH w) sc k (.Name n_object_offsets p) V σ Q := e_glob (v := .cst (.ref 568)) (gok w) (g_object_offsets w) (fun _ _ => rfl) h hk (by decide +kernel)
theorem en_used_entries (h : Q (.pv (.cst (.ref 575))) σ) (hk : sc.names.lookup n_used_entries = some .globalImplicit) : EOk prog w (GH w) sc k (.Name n_used_entries p) V σ Q := e_glob (v := .cst (.ref 575)) (gok w) (g_used_entries w) (fun _ _ => rfl) h hk (by decide +kernel)
theorem en_with_free (h : Q (.pv (.cst (.ref 580))) σ) (hk : sc.names.lookup n_with_free = some .globalImplicit) : EOk prog w (GH w) sc k (.Name n_with_free p) V σ Q := e_glob (v := .cst (.ref 580)) (gok w) (g_with_free w) (fun _ _ => rfl) h hk (by decide +kernel)
theorem en_packed_entries (h : Q (.pv (.cst (.ref 587))) σ) (hk : sc.names.lookup n_packed_entries = some .globalImplicit) : EOk prog w (GH w) sc k (.Name n_packed_entries p) V σ Q := e_glob (v := .cst (.ref 587)) (gok w) (g_packed_entries w) (fun _ _ => rfl) h hk (by decide +kernel)
theorem en_placed_objects (h : Q (.pv (.cst (.ref 592))) σ) (hk : sc.names.lookup n_placed_objects = some .globalImplicit) : EOk prog w (GH w) sc k (.Name n_placed_objects p) V σ Q := e_glob (v := .cst (.ref 592)) (gok w) (g_placed_objects w) (fun _ _ => rfl) h hk (by decide +kernel)
theorem en_check_way (h : Q (.pv (.cst (.ref 599))) σ) (hk : sc.names.lookup n_check_way = some .globalImplicit) : EOk prog w (GH w) sc k (.Name n_check_way p) V σ Q := e_glob (v := .cst (.ref 599)) (gok w) (g_check_way w) (fun _ _ => rfl) h hk (by decide +kernel)
theorem en__law_pen (h : Q (.pv (.cst (.ref 604))) σ) (hk : sc.names.lookup n__law_pen = some .globalImplicit) : EOk prog w (GH w) sc k (.Name n__law_pen p) V σ Q := e_glob (v := .cst (.ref 604)) (gok w) (g__law_pen w) (fun _ _ => rfl) h hk (by decide +kernel)
theorem en__law_draw (h : Q (.pv (.cst (.ref 611))) σ) (hk : sc.names.lookup n__law_draw = some .globalImplicit) : EOk prog w (GH w) sc k (.Name n__law_draw p) V σ Q := e_glob (v := .cst (.ref 611)) (gok w) (g__law_draw w) (fun _ _ => rfl) h hk (by decide +kernel)
theorem en__law_pick (h : Q (.pv (.cst (.ref 618))) σ) (hk : sc.names.lookup n__law_pick = some .globalImplicit) : EOk prog w (GH w) sc k (.Name n__law_pick p) V σ Q := e_glob (v := .cst (.ref 618)) (gok w) (g__law_pick w) (fun _ _ => rfl) h hk (by decide +kernel)
theorem en__law_octets (h : Q (.pv (.cst (.ref 623))) σ) (hk : sc.names.lookup n__law_octets = some .globalImplicit) : EOk prog w (GH w) sc k (.Name n__law_octets p) V σ Q := e_glob (v := .cst (.ref 623)) (gok w) (g__law_octets w) (fun _ _ => rfl) h hk (by decide +kernel)
theorem en__law_lines (h : Q (.pv (.cst (.ref 630))) σ) (hk : sc.names.lookup n__law_lines = some .globalImplicit) : EOk prog w (GH w) sc k (.Name n__law_lines p) V σ Q := e_glob (v := .cst (.ref 630)) (gok w) (g__law_lines w) (fun _ _ => rfl) h hk (by decide +kernel)
theorem en__law_groups (h : Q (.pv (.cst (.ref 635))) σ) (hk : sc.names.lookup n__law_groups = some .globalImplicit) : EOk prog w (GH w) sc k (.Name n__law_groups p) V σ Q := e_glob (v := .cst (.ref 635)) (gok w) (g__law_groups w) (fun _ _ => rfl) h hk (by decide +kernel)
theorem en__law_due (h : Q (.pv (.cst (.ref 640))) σ) (hk : sc.names.lookup n__law_due = some .globalImplicit) : EOk prog w (GH w) sc k (.Name n__law_due p) V σ Q := e_glob (v := .cst (.ref 640)) (gok w) (g__law_due w) (fun _ _ => rfl) h hk (by decide +kernel)
theorem en__law_told (h : Q (.pv (.cst (.ref 645))) σ) (hk : sc.names.lookup n__law_told = some .globalImplicit) : EOk prog w (GH w) sc k (.Name n__law_told p) V σ Q := e_glob (v := .cst (.ref 645)) (gok w) (g__law_told w) (fun _ _ => rfl) h hk (by decide +kernel)
theorem en__law_is_let (h : Q (.pv (.cst (.ref 652))) σ) (hk : sc.names.lookup n__law_is_let = some .globalImplicit) : EOk prog w (GH w) sc k (.Name n__law_is_let p) V σ Q := e_glob (v := .cst (.ref 652)) (gok w) (g__law_is_let w) (fun _ _ => rfl) h hk (by decide +kernel)
noncomputable abbrev c_WHITE : List Int := [0,9,10,12,13,32]
theorem en_WHITE (h : Q (.pv (.tup (c_WHITE.map .int))) σ) (hk : sc.names.lookup n_WHITE = some .globalImplicit) : EOk prog w (GH w) sc k (.Name n_WHITE p) V σ Q := e_glob (v := .tup (c_WHITE.map .int)) (gok w) (g_WHITE w) (fun B top => ⟨95, _, _, rfl, top _ _ (at_ (a := 95) (o := o64) (by kernel_rfl!) (by decide) rfl), ⟨_, _, rfl, ⟨_, rfl⟩, ⟨_, _, rfl, ⟨_, rfl⟩, ⟨_, _, rfl, ⟨_, rfl⟩, ⟨_, _, rfl, ⟨_, rfl⟩, ⟨_, _, rfl, ⟨_, rfl⟩, ⟨_, _, rfl, ⟨_, rfl⟩, rfl⟩⟩⟩⟩⟩⟩⟩) h hk (by decide +kernel)
noncomputable abbrev c_DELIMITERS : List Int := [40,41,60,62,91,93,123,125,47,37]
theorem en_DELIMITERS (h : Q (.pv (.tup (c_DELIMITERS.map .int))) σ) (hk : sc.names.lookup n_DELIMITERS = some .globalImplicit) : EOk prog w (GH w) sc k (.Name n_DELIMITERS p) V σ Q := e_glob (v := .tup (c_DELIMITERS.map .int)) (gok w) (g_DELIMITERS w) (fun B top => ⟨96, _, _, rfl, top _ _ (at_ (a := 96) (o := o65) (by kernel_rfl!) (by decide) rfl), ⟨_, _, rfl, ⟨_, rfl⟩, ⟨_, _, rfl, ⟨_, rfl⟩, ⟨_, _, rfl, ⟨_, rfl⟩, ⟨_, _, rfl, ⟨_, rfl⟩, ⟨_, _, rfl, ⟨_, rfl⟩, ⟨_, _, rfl, ⟨_, rfl⟩, ⟨_, _, rfl, ⟨_, rfl⟩, ⟨_, _, rfl, ⟨_, rfl⟩, ⟨_, _, rfl, ⟨_, rfl⟩, ⟨_, _, rfl, ⟨_, rfl⟩, rfl⟩⟩⟩⟩⟩⟩⟩⟩⟩⟩⟩) h hk (by decide +kernel)
noncomputable abbrev c_FILE_WAYS : List Str := [⟨⟨[99,108,97,115,115,105,99]⟩⟩, ⟨⟨[115,116,114,101,97,109]⟩⟩, ⟨⟨[112,97,99,107,101,100]⟩⟩]
theorem en_FILE_WAYS (h : Q (.pv (.tup (c_FILE_WAYS.map .str))) σ) (hk : sc.names.lookup n_FILE_WAYS = some .globalImplicit) : EOk prog w (GH w) sc k (.Name n_FILE_WAYS p) V σ Q := e_glob (v := .tup (c_FILE_WAYS.map .str)) (gok w) (g_FILE_WAYS w) (fun B top => ⟨542, _, _, rfl, top _ _ (at_ (a := 542) (o := o348) (by kernel_rfl!) (by decide) rfl), ⟨_, _, rfl, ⟨_, rfl⟩, ⟨_, _, rfl, ⟨_, rfl⟩, ⟨_, _, rfl, ⟨_, rfl⟩, rfl⟩⟩⟩⟩) h hk (by decide +kernel)
noncomputable abbrev n_abs : Str := ⟨⟨[97,98,115]⟩⟩
theorem nb_abs (w : World) : mgOf w n_abs = none := by kernel_rfl!
theorem bb_abs : bootBuiltins n_abs = some (.builtin "abs") := by kernel_rfl!
theorem en_abs (h : Q (.pv (.cst (.builtin "abs"))) σ) (hk : sc.names.lookup n_abs = some .globalImplicit) : EOk prog w (GH w) sc k (.Name n_abs p) V σ Q := e_built (gok w) (nb_abs w) bb_abs (by decide +kernel) h hk (by decide +kernel)
noncomputable abbrev n_int : Str := ⟨⟨[105,110,116]⟩⟩
theorem nb_int (w : World) : mgOf w n_int = none := by kernel_rfl!
theorem bb_int : bootBuiltins n_int = some (.type "int") := by kernel_rfl!
theorem en_int (h : Q (.pv (.cst (.type "int"))) σ) (hk : sc.names.lookup n_int = some .globalImplicit) : EOk prog w (GH w) sc k (.Name n_int p) V σ Q := e_built (gok w) (nb_int w) bb_int (by decide +kernel) h hk (by decide +kernel)
noncomputable abbrev n_len : Str := ⟨⟨[108,101,110]⟩⟩
theorem nb_len (w : World) : mgOf w n_len = none := by kernel_rfl!
theorem bb_len : bootBuiltins n_len = some (.builtin "len") := by kernel_rfl!
theorem en_len (h : Q (.pv (.cst (.builtin "len"))) σ) (hk : sc.names.lookup n_len = some .globalImplicit) : EOk prog w (GH w) sc k (.Name n_len p) V σ Q := e_built (gok w) (nb_len w) bb_len (by decide +kernel) h hk (by decide +kernel)
noncomputable abbrev n_range : Str := ⟨⟨[114,97,110,103,101]⟩⟩
theorem nb_range (w : World) : mgOf w n_range = none := by kernel_rfl!
theorem bb_range : bootBuiltins n_range = some (.type "range") := by kernel_rfl!
theorem en_range (h : Q (.pv (.cst (.type "range"))) σ) (hk : sc.names.lookup n_range = some .globalImplicit) : EOk prog w (GH w) sc k (.Name n_range p) V σ Q := e_built (gok w) (nb_range w) bb_range (by decide +kernel) h hk (by decide +kernel)
noncomputable abbrev n_sorted : Str := ⟨⟨[115,111,114,116,101,100]⟩⟩
theorem nb_sorted (w : World) : mgOf w n_sorted = none := by kernel_rfl!
theorem bb_sorted : bootBuiltins n_sorted = some (.builtin "sorted") := by kernel_rfl!
theorem en_sorted (h : Q (.pv (.cst (.builtin "sorted"))) σ) (hk : sc.names.lookup n_sorted = some .globalImplicit) : EOk prog w (GH w) sc k (.Name n_sorted p) V σ Q := e_built (gok w) (nb_sorted w) bb_sorted (by decide +kernel) h hk (by decide +kernel)
noncomputable abbrev n_list : Str := ⟨⟨[108,105,115,116]⟩⟩
theorem nb_list (w : World) : mgOf w n_list = none := by kernel_rfl!
theorem bb_list : bootBuiltins n_list = some (.type "list") := by kernel_rfl!
theorem en_list (h : Q (.pv (.cst (.type "list"))) σ) (hk : sc.names.lookup n_list = some .globalImplicit) : EOk prog w (GH w) sc k (.Name n_list p) V σ Q := e_built (gok w) (nb_list w) bb_list (by decide +kernel) h hk (by decide +kernel)
noncomputable abbrev n_tuple : Str := ⟨⟨[116,117,112,108,101]⟩⟩
theorem nb_tuple (w : World) : mgOf w n_tuple = none := by kernel_rfl!
theorem bb_tuple : bootBuiltins n_tuple = some (.type "tuple") := by kernel_rfl!
theorem en_tuple (h : Q (.pv (.cst (.type "tuple"))) σ) (hk : sc.names.lookup n_tuple = some .globalImplicit) : EOk prog w (GH w) sc k (.Name n_tuple p) V σ Q := e_built (gok w) (nb_tuple w) bb_tuple (by decide +kernel) h hk (by decide +kernel)
noncomputable abbrev n_max : Str := ⟨⟨[109,97,120]⟩⟩
theorem nb_max (w : World) : mgOf w n_max = none := by kernel_rfl!
theorem bb_max : bootBuiltins n_max = some (.builtin "max") := by kernel_rfl!
theorem en_max (h : Q (.pv (.cst (.builtin "max"))) σ) (hk : sc.names.lookup n_max = some .globalImplicit) : EOk prog w (GH w) sc k (.Name n_max p) V σ Q := e_built (gok w) (nb_max w) bb_max (by decide +kernel) h hk (by decide +kernel)
noncomputable abbrev n_bytes : Str := ⟨⟨[98,121,116,101,115]⟩⟩
theorem nb_bytes (w : World) : mgOf w n_bytes = none := by kernel_rfl!
theorem bb_bytes : bootBuiltins n_bytes = some (.type "bytes") := by kernel_rfl!
theorem en_bytes (h : Q (.pv (.cst (.type "bytes"))) σ) (hk : sc.names.lookup n_bytes = some .globalImplicit) : EOk prog w (GH w) sc k (.Name n_bytes p) V σ Q := e_built (gok w) (nb_bytes w) bb_bytes (by decide +kernel) h hk (by decide +kernel)
noncomputable abbrev n_ord : Str := ⟨⟨[111,114,100]⟩⟩
theorem nb_ord (w : World) : mgOf w n_ord = none := by kernel_rfl!
theorem bb_ord : bootBuiltins n_ord = some (.builtin "ord") := by kernel_rfl!
theorem en_ord (h : Q (.pv (.cst (.builtin "ord"))) σ) (hk : sc.names.lookup n_ord = some .globalImplicit) : EOk prog w (GH w) sc k (.Name n_ord p) V σ Q := e_built (gok w) (nb_ord w) bb_ord (by decide +kernel) h hk (by decide +kernel)
noncomputable abbrev n_str : Str := ⟨⟨[115,116,114]⟩⟩
theorem nb_str (w : World) : mgOf w n_str = none := by kernel_rfl!
theorem bb_str : bootBuiltins n_str = some (.type "str") := by kernel_rfl!
theorem en_str (h : Q (.pv (.cst (.type "str"))) σ) (hk : sc.names.lookup n_str = some .globalImplicit) : EOk prog w (GH w) sc k (.Name n_str p) V σ Q := e_built (gok w) (nb_str w) bb_str (by decide +kernel) h hk (by decide +kernel)
noncomputable abbrev n_isinstance : Str := ⟨⟨[105,115,105,110,115,116,97,110,99,101]⟩⟩
theorem nb_isinstance (w : World) : mgOf w n_isinstance = none := by kernel_rfl!
theorem bb_isinstance : bootBuiltins n_isinstance = some (.builtin "isinstance") := by kernel_rfl!
theorem en_isinstance (h : Q (.pv (.cst (.builtin "isinstance"))) σ) (hk : sc.names.lookup n_isinstance = some .globalImplicit) : EOk prog w (GH w) sc k (.Name n_isinstance p) V σ Q := e_built (gok w) (nb_isinstance w) bb_isinstance (by decide +kernel) h hk (by decide +kernel)
noncomputable abbrev n_enumerate : Str := ⟨⟨[101,110,117,109,101,114,97,116,101]⟩⟩
theorem nb_enumerate (w : World) : mgOf w n_enumerate = none := by kernel_rfl!
theorem bb_enumerate : bootBuiltins n_enumerate = some (.type "enumerate") := by kernel_rfl!
theorem en_enumerate (h : Q (.pv (.cst (.type "enumerate"))) σ) (hk : sc.names.lookup n_enumerate = some .globalImplicit) : EOk prog w (GH w) sc k (.Name n_enumerate p) V σ Q := e_built (gok w) (nb_enumerate w) bb_enumerate (by decide +kernel) h hk (by decide +kernel)
noncomputable abbrev n_bool : Str := ⟨⟨[98,111,111,108]⟩⟩
theorem nb_bool (w : World) : mgOf w n_bool = none := by kernel_rfl!
theorem bb_bool : bootBuiltins n_bool = some (.type "bool") := by kernel_rfl!
theorem en_bool (h : Q (.pv (.cst (.type "bool"))) σ) (hk : sc.names.lookup n_bool = some .globalImplicit) : EOk prog w (GH w) sc k (.Name n_bool p) V σ Q := e_built (gok w) (nb_bool w) bb_bool (by decide +kernel) h hk (by decide +kernel)
noncomputable abbrev n_dict : Str := ⟨⟨[100,105,99,116]⟩⟩
theorem nb_dict (w : World) : mgOf w n_dict = none := by kernel_rfl!
theorem bb_dict : bootBuiltins n_dict = some (.type "dict") := by kernel_rfl!
theorem en_dict (h : Q (.pv (.cst (.type "dict"))) σ) (hk : sc.names.lookup n_dict = some .globalImplicit) : EOk prog w (GH w) sc k (.Name n_dict p) V σ Q := e_built (gok w) (nb_dict w) bb_dict (by decide +kernel) h hk (by decide +kernel)
noncomputable abbrev n_Exception : Str := ⟨⟨[69,120,99,101,112,116,105,111,110]⟩⟩
theorem nb_Exception (w : World) : mgOf w n_Exception = none := by kernel_rfl!
theorem bb_Exception : bootBuiltins n_Exception = some (.type "Exception") := by kernel_rfl!
theorem en_Exception (h : Q (.pv (.cst (.type "Exception"))) σ) (hk : sc.names.lookup n_Exception = some .globalImplicit) : EOk prog w (GH w) sc k (.Name n_Exception p) V σ Q := e_built (gok w) (nb_Exception w) bb_Exception (by decide +kernel) h hk (by decide +kernel)
end
section
variable {prog : Program} {w : World} {σ : List MO} {sc : Scope} {k : Nat} {V : VEnv} {Q : AV → List MO → Prop} {np p : Pos} {es : List Expr}
theorem ca_Entry (h : LOk prog w (GH w) sc k es V σ fun vs σ₂ => COk prog w (GH w) k (.ref 45) vs σ₂ Q) (hk : sc.names.lookup n_Entry = some .globalImplicit) (hs : noStar es = true := by rfl) : EOk prog w (GH w) sc k (.Call (.Name n_Entry np) es [] p) V σ Q := e_callC hs (cl_Entry w) (en_Entry ⟨rfl, h⟩ hk)
theorem ca_free_chain (h : LOk prog w (GH w) sc k es V σ fun vs σ₂ => COk prog w (GH w) k (.ref 54) vs σ₂ Q) (hk : sc.names.lookup n_free_chain = some .globalImplicit) (hs : noStar es = true := by rfl) : EOk prog w (GH w) sc k (.Call (.Name n_free_chain np) es [] p) V σ Q := e_callF hs (fn_free_chain w) (en_free_chain ⟨rfl, h⟩ hk)
theorem ca_is_regular (h : LOk prog w (GH w) sc k es V σ fun vs σ₂ => COk prog w (GH w) k (.ref 103) vs σ₂ Q) (hk : sc.names.lookup n_is_regular = some .globalImplicit) (hs : noStar es = true := by rfl) : EOk prog w (GH w) sc k (.Call (.Name n_is_regular np) es [] p) V σ Q := e_callF hs (fn_is_regular w) (en_is_regular ⟨rfl, h⟩ hk)
theorem ca_Name (h : LOk prog w (GH w) sc k es V σ fun vs σ₂ => COk prog w (GH w) k (.ref 225) vs σ₂ Q) (hk : sc.names.lookup n_Name = some .globalImplicit) (hs : noStar es = true := by rfl) : EOk prog w (GH w) sc k (.Call (.Name n_Name np) es [] p) V σ Q := e_callC hs (cl_Name w) (en_Name ⟨rfl, h⟩ hk)
theorem ca_Stream (h : LOk prog w (GH w) sc k es V σ fun vs σ₂ => COk prog w (GH w) k (.ref 268) vs σ₂ Q) (hk : sc.names.lookup n_Stream = some .globalImplicit) (hs : noStar es = true := by rfl) : EOk prog w (GH w) sc k (.Call (.Name n_Stream np) es [] p) V σ Q := e_callC hs (cl_Stream w) (en_Stream ⟨rfl, h⟩ hk)
theorem ca_kind_of (h : LOk prog w (GH w) sc k es V σ fun vs σ₂ => COk prog w (GH w) k (.ref 307) vs σ₂ Q) (hk : sc.names.lookup n_kind_of = some .globalImplicit) (hs : noStar es = true := by rfl) : EOk prog w (GH w) sc k (.Call (.Name n_kind_of np) es [] p) V σ Q := e_callF hs (fn_kind_of w) (en_kind_of ⟨rfl, h⟩ hk)
theorem ca_told_plain (h : LOk prog w (GH w) sc k es V σ fun vs σ₂ => COk prog w (GH w) k (.ref 314) vs σ₂ Q) (hk : sc.names.lookup n_told_plain = some .globalImplicit) (hs : noStar es = true := by rfl) : EOk prog w (GH w) sc k (.Call (.Name n_told_plain np) es [] p) V σ Q := e_callF hs (fn_told_plain w) (en_told_plain ⟨rfl, h⟩ hk)
theorem ca_told_objects (h : LOk prog w (GH w) sc k es V σ fun vs σ₂ => COk prog w (GH w) k (.ref 319) vs σ₂ Q) (hk : sc.names.lookup n_told_objects = some .globalImplicit) (hs : noStar es = true := by rfl) : EOk prog w (GH w) sc k (.Call (.Name n_told_objects np) es [] p) V σ Q := e_callF hs (fn_told w) (en_told_objects ⟨rfl, h⟩ hk)
theorem ca_parts_of (h : LOk prog w (GH w) sc k es V σ fun vs σ₂ => COk prog w (GH w) k (.ref 324) vs σ₂ Q) (hk : sc.names.lookup n_parts_of = some .globalImplicit) (hs : noStar es = true := by rfl) : EOk prog w (GH w) sc k (.Call (.Name n_parts_of np) es [] p) V σ Q := e_callF hs (fn_parts_of w) (en_parts_of ⟨rfl, h⟩ hk)
theorem ca_depth_of (h : LOk prog w (GH w) sc k es V σ fun vs σ₂ => COk prog w (GH w) k (.ref 331) vs σ₂ Q) (hk : sc.names.lookup n_depth_of = some .globalImplicit) (hs : noStar es = true := by rfl) : EOk prog w (GH w) sc k (.Call (.Name n_depth_of np) es [] p) V σ Q := e_callF hs (fn_depth_of w) (en_depth_of ⟨rfl, h⟩ hk)
theorem ca_Shelf (h : LOk prog w (GH w) sc k es V σ fun vs σ₂ => COk prog w (GH w) k (.ref 417) vs σ₂ Q) (hk : sc.names.lookup n_Shelf = some .globalImplicit) (hs : noStar es = true := by rfl) : EOk prog w (GH w) sc k (.Call (.Name n_Shelf np) es [] p) V σ Q := e_callC hs (cl_Shelf w) (en_Shelf ⟨rfl, h⟩ hk)
theorem ca_text_octets (h : LOk prog w (GH w) sc k es V σ fun vs σ₂ => COk prog w (GH w) k (.ref 424) vs σ₂ Q) (hk : sc.names.lookup n_text_octets = some .globalImplicit) (hs : noStar es = true := by rfl) : EOk prog w (GH w) sc k (.Call (.Name n_text_octets np) es [] p) V σ Q := e_callF hs (fn_text_octets w) (en_text_octets ⟨rfl, h⟩ hk)
theorem ca_name_octets (h : LOk prog w (GH w) sc k es V σ fun vs σ₂ => COk prog w (GH w) k (.ref 438) vs σ₂ Q) (hk : sc.names.lookup n_name_octets = some .globalImplicit) (hs : noStar es = true := by rfl) : EOk prog w (GH w) sc k (.Call (.Name n_name_octets np) es [] p) V σ Q := e_callF hs (fn_name_octets w) (en_name_octets ⟨rfl, h⟩ hk)
theorem ca_whole_octets (h : LOk prog w (GH w) sc k es V σ fun vs σ₂ => COk prog w (GH w) k (.ref 445) vs σ₂ Q) (hk : sc.names.lookup n_whole_octets = some .globalImplicit) (hs : noStar es = true := by rfl) : EOk prog w (GH w) sc k (.Call (.Name n_whole_octets np) es [] p) V σ Q := e_callF hs (fn_whole_octets w) (en_whole_octets ⟨rfl, h⟩ hk)
theorem ca_plain_part (h : LOk prog w (GH w) sc k es V σ fun vs σ₂ => COk prog w (GH w) k (.ref 485) vs σ₂ Q) (hk : sc.names.lookup n_plain_part = some .globalImplicit) (hs : noStar es = true := by rfl) : EOk prog w (GH w) sc k (.Call (.Name n_plain_part np) es [] p) V σ Q := e_callF hs (fn_plain_part w) (en_plain_part ⟨rfl, h⟩ hk)
theorem ca_lay_dict (h : LOk prog w (GH w) sc k es V σ fun vs σ₂ => COk prog w (GH w) k (.ref 499) vs σ₂ Q) (hk : sc.names.lookup n_lay_dict = some .globalImplicit) (hs : noStar es = true := by rfl) : EOk prog w (GH w) sc k (.Call (.Name n_lay_dict np) es [] p) V σ Q := e_callF hs (fn_lay_dict w) (en_lay_dict ⟨rfl, h⟩ hk)
theorem ca_lay_parts (h : LOk prog w (GH w) sc k es V σ fun vs σ₂ => COk prog w (GH w) k (.ref 506) vs σ₂ Q) (hk : sc.names.lookup n_lay_parts = some .globalImplicit) (hs : noStar es = true := by rfl) : EOk prog w (GH w) sc k (.Call (.Name n_lay_parts np) es [] p) V σ Q := e_callF hs (fn_lay_parts w) (en_lay_parts ⟨rfl, h⟩ hk)
theorem ca_run_together (h : LOk prog w (GH w) sc k es V σ fun vs σ₂ => COk prog w (GH w) k (.ref 513) vs σ₂ Q) (hk : sc.names.lookup n_run_together = some .globalImplicit) (hs : noStar es = true := by rfl) : EOk prog w (GH w) sc k (.Call (.Name n_run_together np) es [] p) V σ Q := e_callF hs (fn_run_together w) (en_run_together ⟨rfl, h⟩ hk)
theorem ca_joined_parts (h : LOk prog w (GH w) sc k es V σ fun vs σ₂ => COk prog w (GH w) k (.ref 520) vs σ₂ Q) (hk : sc.names.lookup n_joined_parts = some .globalImplicit) (hs : noStar es = true := by rfl) : EOk prog w (GH w) sc k (.Call (.Name n_joined_parts np) es [] p) V σ Q := e_callF hs (fn_joined_parts w) (en_joined_parts ⟨rfl, h⟩ hk)
theorem ca_stream_head (h : LOk prog w (GH w) sc k es V σ fun vs σ₂ => COk prog w (GH w) k (.ref 527) vs σ₂ Q) (hk : sc.names.lookup n_stream_head = some .globalImplicit) (hs : noStar es = true := by rfl) : EOk prog w (GH w) sc k (.Call (.Name n_stream_head np) es [] p) V σ Q := e_callF hs (fn_stream_head w) (en_stream_head ⟨rfl, h⟩ hk)
theorem ca_write_object (h : LOk prog w (GH w) sc k es V σ fun vs σ₂ => COk prog w (GH w) k (.ref 534) vs σ₂ Q) (hk : sc.names.lookup n_write_object = some .globalImplicit) (hs : noStar es = true := by rfl) : EOk prog w (GH w) sc k (.Call (.Name n_write_object np) es [] p) V σ Q := e_callF hs (fn_write_object w) (en_write_object ⟨rfl, h⟩ hk)
theorem ca_write_indirect (h : LOk prog w (GH w) sc k es V σ fun vs σ₂ => COk prog w (GH w) k (.ref 541) vs σ₂ Q) (hk : sc.names.lookup n_write_indirect = some .globalImplicit) (hs : noStar es = true := by rfl) : EOk prog w (GH w) sc k (.Call (.Name n_write_indirect np) es [] p) V σ Q := e_callF hs (fn_write_indirect w) (en_write_indirect ⟨rfl, h⟩ hk)
theorem ca_file_header (h : LOk prog w (GH w) sc k es V σ fun vs σ₂ => COk prog w (GH w) k (.ref 549) vs σ₂ Q) (hk : sc.names.lookup n_file_header = some .globalImplicit) (hs : noStar es = true := by rfl) : EOk prog w (GH w) sc k (.Call (.Name n_file_header np) es [] p) V σ Q := e_callF hs (fn_file_header w) (en_file_header ⟨rfl, h⟩ hk)
theorem ca_rows_of_shelf (h : LOk prog w (GH w) sc k es V σ fun vs σ₂ => COk prog w (GH w) k (.ref 554) vs σ₂ Q) (hk : sc.names.lookup n_rows_of_shelf = some .globalImplicit) (hs : noStar es = true := by rfl) : EOk prog w (GH w) sc k (.Call (.Name n_rows_of_shelf np) es [] p) V σ Q := e_callF hs (fn_rows_of_shelf w) (en_rows_of_shelf ⟨rfl, h⟩ hk)
theorem ca_last_number (h : LOk prog w (GH w) sc k es V σ fun vs σ₂ => COk prog w (GH w) k (.ref 561) vs σ₂ Q) (hk : sc.names.lookup n_last_number = some .globalImplicit) (hs : noStar es = true := by rfl) : EOk prog w (GH w) sc k (.Call (.Name n_last_number np) es [] p) V σ Q := e_callF hs (fn_last_number w) (en_last_number ⟨rfl, h⟩ hk)
theorem ca_object_offsets (h : LOk prog w (GH w) sc k es V σ fun vs σ₂ => COk prog w (GH w) k (.ref 568) vs σ₂ Q) (hk : sc.names.lookup n_object_offsets = some .globalImplicit) (hs : noStar es = true := by rfl) : EOk prog w (GH w) sc k (.Call (.Name n_object_offsets np) es [] p) V σ Q := e_callF hs (fn_object_offsets w) (en_object_offsets ⟨rfl, h⟩ hk)
theorem ca_used_entries (h : LOk prog w (GH w) sc k es V σ fun vs σ₂ => COk prog w (GH w) k (.ref 575) vs σ₂ Q) (hk : sc.names.lookup n_used_entries = some .globalImplicit) (hs : noStar es = true := by rfl) : EOk prog w (GH w) sc k (.Call (.Name n_used_entries np) es [] p) V σ Q := e_callF hs (fn_used_entries w) (en_used_entries ⟨rfl, h⟩ hk)
theorem ca_with_free (h : LOk prog w (GH w) sc k es V σ fun vs σ₂ => COk prog w (GH w) k (.ref 580) vs σ₂ Q) (hk : sc.names.lookup n_with_free = some .globalImplicit) (hs : noStar es = true := by rfl) : EOk prog w (GH w) sc k (.Call (.Name n_with_free np) es [] p) V σ Q := e_callF hs (fn_with_free w) (en_with_free ⟨rfl, h⟩ hk)
theorem ca_packed_entries (h : LOk prog w (GH w) sc k es V σ fun vs σ₂ => COk prog w (GH w) k (.ref 587) vs σ₂ Q) (hk : sc.names.lookup n_packed_entries = some .globalImplicit) (hs : noStar es = true := by rfl) : EOk prog w (GH w) sc k (.Call (.Name n_packed_entries np) es [] p) V σ Q := e_callF hs (fn_packed_entries w) (en_packed_entries ⟨rfl, h⟩ hk)
theorem ca_placed_objects (h : LOk prog w (GH w) sc k es V σ fun vs σ₂ => COk prog w (GH w) k (.ref 592) vs σ₂ Q) (hk : sc.names.lookup n_placed_objects = some .globalImplicit) (hs : noStar es = true := by rfl) : EOk prog w (GH w) sc k (.Call (.Name n_placed_objects np) es [] p) V σ Q := e_callF hs (fn_placed_objects w) (en_placed_objects ⟨rfl, h⟩ hk)
theorem ca_check_way (h : LOk prog w (GH w) sc k es V σ fun vs σ₂ => COk prog w (GH w) k (.ref 599) vs σ₂ Q) (hk : sc.names.lookup n_check_way = some .globalImplicit) (hs : noStar es = true := by rfl) : EOk prog w (GH w) sc k (.Call (.Name n_check_way np) es [] p) V σ Q := e_callF hs (fn_check_way w) (en_check_way ⟨rfl, h⟩ hk)
theorem ca__law_pen (h : LOk prog w (GH w) sc k es V σ fun vs σ₂ => COk prog w (GH w) k (.ref 604) vs σ₂ Q) (hk : sc.names.lookup n__law_pen = some .globalImplicit) (hs : noStar es = true := by rfl) : EOk prog w (GH w) sc k (.Call (.Name n__law_pen np) es [] p) V σ Q := e_callF hs (fn__law_pen w) (en__law_pen ⟨rfl, h⟩ hk)
theorem ca__law_draw (h : LOk prog w (GH w) sc k es V σ fun vs σ₂ => COk prog w (GH w) k (.ref 611) vs σ₂ Q) (hk : sc.names.lookup n__law_draw = some .globalImplicit) (hs : noStar es = true := by rfl) : EOk prog w (GH w) sc k (.Call (.Name n__law_draw np) es [] p) V σ Q := e_callF hs (fn__law_draw w) (en__law_draw ⟨rfl, h⟩ hk)
theorem ca__law_pick (h : LOk prog w (GH w) sc k es V σ fun vs σ₂ => COk prog w (GH w) k (.ref 618) vs σ₂ Q) (hk : sc.names.lookup n__law_pick = some .globalImplicit) (hs : noStar es = true := by rfl) : EOk prog w (GH w) sc k (.Call (.Name n__law_pick np) es [] p) V σ Q := e_callF hs (fn__law_pick w) (en__law_pick ⟨rfl, h⟩ hk)
theorem ca__law_octets (h : LOk prog w (GH w) sc k es V σ fun vs σ₂ => COk prog w (GH w) k (.ref 623) vs σ₂ Q) (hk : sc.names.lookup n__law_octets = some .globalImplicit) (hs : noStar es = true := by rfl) : EOk prog w (GH w) sc k (.Call (.Name n__law_octets np) es [] p) V σ Q := e_callF hs (fn__law_octets w) (en__law_octets ⟨rfl, h⟩ hk)
theorem ca__law_lines (h : LOk prog w (GH w) sc k es V σ fun vs σ₂ => COk prog w (GH w) k (.ref 630) vs σ₂ Q) (hk : sc.names.lookup n__law_lines = some .globalImplicit) (hs : noStar es = true := by rfl) : EOk prog w (GH w) sc k (.Call (.Name n__law_lines np) es [] p) V σ Q := e_callF hs (fn__law_lines w) (en__law_lines ⟨rfl, h⟩ hk)
theorem ca__law_groups (h : LOk prog w (GH w) sc k es V σ fun vs σ₂ => COk prog w (GH w) k (.ref 635) vs σ₂ Q) (hk : sc.names.lookup n__law_groups = some .globalImplicit) (hs : noStar es = true := by rfl) : EOk prog w (GH w) sc k (.Call (.Name n__law_groups np) es [] p) V σ Q := e_callF hs (fn__law_groups w) (en__law_groups ⟨rfl, h⟩ hk)
theorem ca__law_due (h : LOk prog w (GH w) sc k es V σ fun vs σ₂ => COk prog w (GH w) k (.ref 640) vs σ₂ Q) (hk : sc.names.lookup n__law_due = some .globalImplicit) (hs : noStar es = true := by rfl) : EOk prog w (GH w) sc k (.Call (.Name n__law_due np) es [] p) V σ Q := e_callF hs (fn__law_due w) (en__law_due ⟨rfl, h⟩ hk)
theorem ca__law_told (h : LOk prog w (GH w) sc k es V σ fun vs σ₂ => COk prog w (GH w) k (.ref 645) vs σ₂ Q) (hk : sc.names.lookup n__law_told = some .globalImplicit) (hs : noStar es = true := by rfl) : EOk prog w (GH w) sc k (.Call (.Name n__law_told np) es [] p) V σ Q := e_callF hs (fn__law_told w) (en__law_told ⟨rfl, h⟩ hk)
theorem ca_abs (h : LOk prog w (GH w) sc k es V σ fun vs σ₂ => COk prog w (GH w) k (.builtin "abs") vs σ₂ Q) (hk : sc.names.lookup n_abs = some .globalImplicit) (hs : noStar es = true := by rfl) : EOk prog w (GH w) sc k (.Call (.Name n_abs np) es [] p) V σ Q := e_callV hs rfl (en_abs ⟨rfl, h⟩ hk)
theorem ca_int (h : LOk prog w (GH w) sc k es V σ fun vs σ₂ => COk prog w (GH w) k (.type "int") vs σ₂ Q) (hk : sc.names.lookup n_int = some .globalImplicit) (hs : noStar es = true := by rfl) : EOk prog w (GH w) sc k (.Call (.Name n_int np) es [] p) V σ Q := e_callV hs rfl (en_int ⟨rfl, h⟩ hk)
theorem ca_len (h : LOk prog w (GH w) sc k es V σ fun vs σ₂ => COk prog w (GH w) k (.builtin "len") vs σ₂ Q) (hk : sc.names.lookup n_len = some .globalImplicit) (hs : noStar es = true := by rfl) : EOk prog w (GH w) sc k (.Call (.Name n_len np) es [] p) V σ Q := e_callV hs rfl (en_len ⟨rfl, h⟩ hk)
theorem ca_range (h : LOk prog w (GH w) sc k es V σ fun vs σ₂ => COk prog w (GH w) k (.type "range") vs σ₂ Q) (hk : sc.names.lookup n_range = some .globalImplicit) (hs : noStar es = true := by rfl) : EOk prog w (GH w) sc k (.Call (.Name n_range np) es [] p) V σ Q := e_callV hs rfl (en_range ⟨rfl, h⟩ hk)
theorem ca_sorted (h : LOk prog w (GH w) sc k es V σ fun vs σ₂ => COk prog w (GH w) k (.builtin "sorted") vs σ₂ Q) (hk : sc.names.lookup n_sorted = some .globalImplicit) (hs : noStar es = true := by rfl) : EOk prog w (GH w) sc k (.Call (.Name n_sorted np) es [] p) V σ Q := e_callV hs rfl (en_sorted ⟨rfl, h⟩ hk)
theorem ca_list (h : LOk prog w (GH w) sc k es V σ fun vs σ₂ => COk prog w (GH w) k (.type "list") vs σ₂ Q) (hk : sc.names.lookup n_list = some .globalImplicit) (hs : noStar es = true := by rfl) : EOk prog w (GH w) sc k (.Call (.Name n_list np) es [] p) V σ Q := e_callV hs rfl (en_list ⟨rfl, h⟩ hk)
theorem ca_tuple (h : LOk prog w (GH w) sc k es V σ fun vs σ₂ => COk prog w (GH w) k (.type "tuple") vs σ₂ Q) (hk : sc.names.lookup n_tuple = some .globalImplicit) (hs : noStar es = true := by rfl) : EOk prog w (GH w) sc k (.Call (.Name n_tuple np) es [] p) V σ Q := e_callV hs rfl (en_tuple ⟨rfl, h⟩ hk)
theorem ca_max (h : LOk prog w (GH w) sc k es V σ fun vs σ₂ => COk prog w (GH w) k (.builtin "max") vs σ₂ Q) (hk : sc.names.lookup n_max = some .globalImplicit) (hs : noStar es = true := by rfl) : EOk prog w (GH w) sc k (.Call (.Name n_max np) es [] p) V σ Q := e_callV hs rfl (en_max ⟨rfl, h⟩ hk)
theorem ca_bytes (h : LOk prog w (GH w) sc k es V σ fun vs σ₂ => COk prog w (GH w) k (.type "bytes") vs σ₂ Q) (hk : sc.names.lookup n_bytes = some .globalImplicit) (hs : noStar es = true := by rfl) : EOk prog w (GH w) sc k (.Call (.Name n_bytes np) es [] p) V σ Q := e_callV hs rfl (en_bytes ⟨rfl, h⟩ hk)
theorem ca_ord (h : LOk prog w (GH w) sc k es V σ fun vs σ₂ => COk prog w (GH w) k (.builtin "ord") vs σ₂ Q) (hk : sc.names.lookup n_ord = some .globalImplicit) (hs : noStar es = true := by rfl) : EOk prog w (GH w) sc k (.Call (.Name n_ord np) es [] p) V σ Q := e_callV hs rfl (en_ord ⟨rfl, h⟩ hk)
theorem ca_str (h : LOk prog w (GH w) sc k es V σ fun vs σ₂ => COk prog w (GH w) k (.type "str") vs σ₂ Q) (hk : sc.names.lookup n_str = some .globalImplicit) (hs : noStar es = true := by rfl) : EOk prog w (GH w) sc k (.Call (.Name n_str np) es [] p) V σ Q := e_callV hs rfl (en_str ⟨rfl, h⟩ hk)
theorem ca_isinstance (h : LOk prog w (GH w) sc k es V σ fun vs σ₂ => COk prog w (GH w) k (.builtin "isinstance") vs σ₂ Q) (hk : sc.names.lookup n_isinstance = some .globalImplicit) (hs : noStar es = true := by rfl) : EOk prog w (GH w) sc k (.Call (.Name n_isinstance np) es [] p) V σ Q := e_callV hs rfl (en_isinstance ⟨rfl, h⟩ hk)
end
section
variable {prog : Program} {w : World} {GH : Heap} {mg mb : Str → Option Value} {A : Around} {env : Env} {s : Shared} {h h' : Heap} {B B' : FB} {ρ ρ' : List Addr} {σ : List MO} {sc : Scope} {k : Nat} {V : VEnv} {e : Expr}
theorem COk.mono {f : Value} {as : List AV} {Q Q' : AV → List MO → Prop} (h : COk prog w GH k f as σ Q) (g : ∀ v σ, Q v σ → Q' v σ) : COk prog w GH k f as σ Q' := fun A s B ρ us R I ra =>
  wpAny_mono (h A s B ρ us R I ra) (fun _ _ x => x.mono fun _ _ _ ⟨v, σ', a, b, q⟩ => ⟨v, σ', a, b, g _ _ q⟩) fun _ _ x => x
theorem XOk.mono {st : Stmt} {Q Q' : Fl → VEnv → List MO → Prop} (h : XOk prog w GH sc k st V σ Q) (f : ∀ fl V σ, Q fl V σ → Q' fl V σ) : XOk prog w GH sc k st V σ Q' := fun A env s B ρ R F I =>
  wpAny_mono (h A env s B ρ R F I) (fun _ _ x => x.mono fun _ _ _ ⟨fl, V', σ', a, b, c, q⟩ => ⟨fl, V', σ', a, b, c, f _ _ _ q⟩) fun _ _ x => x
theorem s_join {st : Stmt} {rest : List Stmt} {Q : Fl → VEnv → List MO → Prop} (J : VEnv → List MO → Prop) (h : XOk prog w GH sc k st V σ (LoopQ J Q)) (h2 : ∀ V' σ', J V' σ' → SOk prog w GH sc k rest V' σ' Q) : SOk prog w GH sc k (st :: rest) V σ Q :=
  s_cons (h.mono fun fl V' σ' q => by cases fl with
    | next => exact h2 V' σ' q
    | ret v => exact q)
theorem e_join {e : Expr} {Q : AV → List MO → Prop} (J : AV → List MO → Prop) (h : EOk prog w GH sc k e V σ J) (h2 : ∀ v σ', J v σ' → Q v σ') : EOk prog w GH sc k e V σ Q := h.mono h2
theorem t_join {e : Expr} {Q : Bool → List MO → Prop} (J : Bool → List MO → Prop) (h : TOk prog w GH sc k e V σ J) (h2 : ∀ v σ', J v σ' → Q v σ') : TOk prog w GH sc k e V σ Q := fun A env s B ρ R F I =>
  wpAny_mono (h A env s B ρ R F I) (fun _ _ x => x.mono fun _ _ _ ⟨σ', a, q⟩ => ⟨σ', a, h2 _ _ q⟩) fun _ _ x => x
theorem x_asgT {ts : List Expr} {n : Nat} {tp p : Pos} {Q : Fl → VEnv → List MO → Prop} (h : EOk prog w GH sc k e V σ fun v σ₁ => ∃ V', Tgt prog w GH sc (.Tuple ts n tp) v V V' ∧ Q .next V' σ₁)
    (hs : ∀ env, swapsWithSole [.Tuple ts n tp] e p.line env = pure false := by intro _; rfl) (hw : ∀ env, swappedStores [.Tuple ts n tp] e env = pure none := by intro _; rfl) : XOk prog w GH sc k (.Assign [.Tuple ts n tp] e p) V σ Q := fun A env s B ρ R F I =>
  Assign_Tuple (h.go R F I fun u s₁ B₁ ρ₁ v σ₁ a r ⟨V', ht, q⟩ =>
    wpAny_mono (ht A env s₁ B₁ ρ₁ σ₁ u R.handled (a.fr F) a.inv r) (fun _ s₂ x => a.thenW (x.mono fun s' B' ρ' y => ⟨Fl.next, V', σ₁, y.1, y.2, rfl, q⟩)) fun _ _ x => x) (hs env) (hw env)
theorem x_while {t : Expr} {body : List Stmt} {pos : Pos} {Q : Fl → VEnv → List MO → Prop} (J : Nat → VEnv → List MO → Prop) (n : Nat) (h0 : J n V σ)
    (step : ∀ n V' σ', J n V' σ' → TOk prog w GH sc k t V' σ' fun c σ₁ => (c = true → SOk prog w GH sc k body V' σ₁ (LoopQ (fun V'' σ'' => ∃ m, m < n ∧ J m V'' σ'') Q)) ∧ (c = false → Q .next V' σ₁)) : XOk prog w GH sc k (.While t body [] pos) V σ Q := fun A env s B ρ R F I => by
  refine wpAny_While (codeAny_whileLoop (fun n s' => ∃ B' ρ' V' σ', AsS s s' ∧ Step (wrOf env) s.heap B ρ s'.heap B' ρ' ∧ Inv prog w GH s'.heap B' ρ' σ' ∧ FrOk prog w GH sc env s'.heap B' ρ' V' ∧ J n V' σ') ?_ n ⟨B, ρ, V, σ, ⟨s.heap, s.toks, rfl⟩, Step.refl .., I, F, h0⟩)
  rintro n s' ⟨B', ρ', V', σ', sm, S, I', F', hJ⟩
  refine wpAny_mono ((step n V' σ' hJ).go (P := fun b s₂ => At prog w GH [] s' B' ρ' s' B' ρ' σ' ∧ ∃ B₂ ρ₂ σ₂, At prog w GH [] s' B' ρ' s₂ B₂ ρ₂ σ₂ ∧ _) R F' I' fun b s₂ B₂ ρ₂ σ₂ a q => ⟨⟨⟨s'.heap, s'.toks, rfl⟩, Step.refl .., I'⟩, B₂, ρ₂, σ₂, a, q⟩) (fun b s₂ x => ?_) fun _ _ x => x.elim
  obtain ⟨_, Z1⟩ := x; refine x3a2 Z1 fun B₂ ρ₂ σ₂ a q => ?_; clear Z1
  cases b with
  | true =>
    rw [if_pos rfl]
    refine wpAny_mono (q.1 rfl A env s₂ B₂ ρ₂ R (a.fr F') a.inv) (fun f s₃ y => ?_) fun _ _ x => x.elim
    refine x2a3 y fun B₃ ρ₃ sm₃ S₃ Z2 => ?_; clear y; refine x3a4 Z2 fun fl V₃ σ₃ I₃ F₃ rf hq => ?_; clear Z2
    have sm' : AsS s s₃ := AsS.trans sm (AsS.trans a.same sm₃)
    have S' : Step (wrOf env) s.heap B ρ s₃.heap B₃ ρ₃ := S.trans (fun _ z => .inl z) ((a.step.weaken (wr' := wrOf env) fun _ z => nomatch z).trans (fun _ z => .inl z) S₃)
    cases fl with
    | next =>
      cases (show f = .next from rf)
      refine x1a2 hq fun m hm hJ' => ?_; clear hq
      exact ⟨m, hm, B₃, ρ₃, V₃, σ₃, sm', S', I₃, F₃, hJ'⟩
    | ret v =>
      refine x1a2 rf fun uv Z3 rv => ?_; clear rf; obtain rfl := Z3
      exact ⟨B₃, ρ₃, sm', S', .ret v, V₃, σ₃, I₃, F₃, ⟨uv, rfl, rv⟩, hq⟩
  | false =>
    rw [if_neg (by decide)]
    refine wpAny_execs_nil ?_
    exact ⟨B₂, ρ₂, AsS.trans sm a.same, S.trans (fun _ z => .inl z) (a.step.weaken fun _ z => nomatch z), .next, V', σ₂, a.inv, a.fr F', rfl, q.2 rfl⟩
end
namespace F
theorem bb_lookup : typeLookup (.type "bytes") "__bytes__" = pure (some (.builtin "bytes.__bytes__")) := by rw [typeLookup_type, builtinLookup_eq_fast]; kernel_rfl
end F
section
variable {prog : Program} {w : World} {GH : Heap} {mg mb : Str → Option Value} {A : Around} {env : Env} {s : Shared} {h h' : Heap} {B B' : FB} {ρ ρ' : List Addr} {σ : List MO} {sc : Scope} {k : Nat} {V : VEnv} {e : Expr} {Q : AV → List MO → Prop}
theorem COk.up {f : Value} {as : List AV} {j : Nat} (h : COk prog w GH j f as σ Q) (hj : j ≤ k) : COk prog w GH k f as σ Q := fun A s B ρ us R I ra => h A s B ρ us (R.le hj) I ra
noncomputable def avB (n : Nat) : AV → Bool
  | .pv _ => true
  | .loc i => decide (i < n)
noncomputable def moB (n : Nat) : MO → Bool
  | .alst l => l.all (avB n)
  | .ins _ d => decide (d < n)
  | .ns _ vs => vs.all (avB n)
  | _ => true
theorem relA_cut {ν : List Addr} : ∀ {v : AV} {u : Value}, avB ρ.length v = true → RelA prog w B (ρ ++ ν) v u → RelA prog w B ρ v u
  | .pv _, _, _, r => r
  | .loc n, u, hb, ⟨a, e, q⟩ => ⟨a, by rwa [List.getElem?_append_left (of_decide_eq_true hb)] at e, q⟩
theorem relAL_cut {ν : List Addr} : ∀ {vs : List AV} {us : List Value}, vs.all (avB ρ.length) = true → RelAL prog w B (ρ ++ ν) vs us → RelAL prog w B ρ vs us
  | [], _, _, r => r
  | v :: vs, us, hb, ⟨u, us', e, r, rs⟩ => by
    rw [List.all_cons, Bool.and_eq_true] at hb
    exact ⟨u, us', e, relA_cut hb.1 r, relAL_cut hb.2 rs⟩
theorem mrel_cut {ν : List Addr} {o : Obj} : ∀ {m : MO}, moB ρ.length m = true → MRel prog w B (ρ ++ ν) o m → MRel prog w B ρ o m
  | .lst _, _, r => r
  | .dctI _ _, _, r => r
  | .dctS _ _, _, r => r
  | .dead, _, r => r
  | .alst _, hb, ⟨i, n, e, r⟩ => ⟨i, n, e, relAL_cut hb r⟩
  | .ns _ _, hb, ⟨es, n, us, e, x, r⟩ => ⟨es, n, us, e, x, relAL_cut hb r⟩
  | .ins _ d, hb, ⟨a, e, q⟩ => ⟨a, by rwa [List.getElem?_append_left (of_decide_eq_true hb)] at e, q⟩
theorem relA_bnd : ∀ {v : AV} {u : Value}, RelA prog w B ρ v u → avB ρ.length v = true
  | .pv _, _, _ => rfl
  | .loc n, u, ⟨a, e, q⟩ => decide_eq_true (by
    rcases Nat.lt_or_ge n ρ.length with q | q
    · exact q
    · rw [List.getElem?_eq_none q] at e; cases e)
theorem relAL_bnd : ∀ {vs : List AV} {us : List Value}, RelAL prog w B ρ vs us → vs.all (avB ρ.length) = true
  | [], _, _ => rfl
  | v :: vs, us, ⟨u, us', e, r, rs⟩ => by rw [List.all_cons, relA_bnd r, relAL_bnd rs]; rfl
theorem mrel_bnd {o : Obj} : ∀ {m : MO}, MRel prog w B ρ o m → moB ρ.length m = true
  | .lst _, r => rfl
  | .dctI _ _, r => rfl
  | .dctS _ _, r => rfl
  | .dead, r => rfl
  | .alst _, ⟨i, n, e, r⟩ => relAL_bnd r
  | .ns _ _, ⟨es, n, us, e, x, r⟩ => relAL_bnd r
  | .ins _ d, ⟨a, e, q⟩ => relA_bnd (w := w) (prog := prog) (B := B) (v := .loc d) (u := .ref a) ⟨a, e, rfl⟩
theorem Inv.cut {ν : List Addr} {σ₁ τ : List MO} (I : Inv prog w GH h B ρ σ) (hl : σ₁.length = σ.length) (hb : ∀ (i : Nat) m, σ₁[i]? = some m → σ[i]? = some m ∨ moB σ.length m = true) (J : Inv prog w GH h' B' (ρ ++ ν) (σ₁ ++ τ)) : Inv prog w GH h' B' ρ σ₁ := by
  refine ⟨J.top, J.base, (List.nodup_append.mp J.nodup).1, fun a m => J.high a (List.mem_append_left _ m), I.len.trans hl.symm, fun i a m e1 e2 => ?_⟩
  have hlt : i < σ₁.length := by
    rcases Nat.lt_or_ge i σ₁.length with q | q
    · exact q
    · rw [List.getElem?_eq_none q] at e2; cases e2
  obtain ⟨q, Z1⟩ := J.store i a m (get_app e1) (by rw [List.getElem?_append_left hlt]; exact e2); refine x1a2 Z1 fun o ho r => ?_; clear Z1
  refine ⟨q, o, ho, mrel_cut ?_ r⟩
  rw [I.len]
  rcases hb i m e2 with z | z
  · obtain ⟨_, o', _, r'⟩ := I.store i a m e1 z
    rw [← I.len]; exact mrel_bnd r'
  · exact z
theorem Step.cut {wr ν : List Addr} (S : Step wr h B ρ h' B' (ρ ++ ν)) : Step wr h B ρ h' B' ρ := ⟨S.le, S.new, ⟨[], by simp, fun _ m => nomatch m⟩, S.keep, S.live⟩
theorem c_trim {f : Value} {as : List AV} (h : COk prog w GH k f as σ fun v σ' => ∃ p σ₁ τ, v = .pv p ∧ σ' = σ₁ ++ τ ∧ σ₁.length = σ.length ∧ (∀ (i : Nat) m, σ₁[i]? = some m → σ[i]? = some m ∨ moB σ.length m = true) ∧ Q (.pv p) σ₁) : COk prog w GH k f as σ Q := fun A s B ρ us R I ra =>
  wpAny_mono (h A s B ρ us R I ra) (fun u s' x => by
    refine x2a3 x fun B' ρ' sm S Z1 => ?_; clear x; refine x2a3 Z1 fun v σ' J r Z2 => ?_; clear Z1; refine x3a2 Z2 fun p σ₁ τ Z3 Z4 => ?_; clear Z2; obtain rfl := Z3; obtain ⟨Z5, Z6⟩ := Z4; obtain rfl := Z5; refine x0a3 Z6 fun hl hb q => ?_; clear Z6
    refine x1a2 S.ext fun ν Z7 _ => ?_; obtain rfl := Z7
    exact ⟨B', ρ, sm, S.cut, .pv p, σ₁, I.cut hl hb J, r, q⟩) fun _ _ x => x
theorem c_trim0 {f : Value} {as : List AV} (h : COk prog w GH k f as σ fun v σ' => ∃ p τ, v = .pv p ∧ σ' = σ ++ τ ∧ Q (.pv p) σ) : COk prog w GH k f as σ Q := c_trim (h.mono fun v σ' ⟨p, τ, a, b, q⟩ => ⟨p, σ, τ, a, b, rfl, fun _ _ e => .inl e, q⟩)
theorem o_pow {x y : Int} (hc0 : y ≥ 0) (hc1 : ¬(y == 0) = true) (hc2 : ¬(x == 0 || x == 1) = true) (hc3 : ¬(x == -1) = true) (hc4 : ¬Builtin.Int.intTooBig (((Builtin.Int.intBits x : Nat) : Int) * y) = true) (h : Q (.pv (.int (x ^ y.toNat))) σ) : Op2 prog w GH k (binaryOp .Pow) (.pv (.int x)) (.pv (.int y)) σ Q := fun A s B ρ u v R I ⟨t, e⟩ ⟨t', e'⟩ => by
  subst e e'
  exact AutoIntOps.pow_4 hc0 hc1 hc2 hc3 hc4 (r_tok I relA_int h)
theorem o_ninD (G : GOK GH mg mb) {i : Int} {a : AV} {ks : List Int} {vs : List PV} (ha : asDictI σ a = some (ks, vs)) (h : Q (.pv (.bool (!decide (i ∈ ks)))) σ) : Op2 prog w GH k (compareOp .NotIn) (.pv (.int i)) a σ Q := fun A s B ρ u v R I ⟨t, e⟩ rb => by
  subst e
  refine x2a2 (view_dictI G I rb ha) fun x us Z1 Z2 => ?_; obtain rfl := Z1; refine x0a4 Z2 fun hx hd hl q => ?_; clear Z2
  refine wpAny_notIn_of (intKind_is _ _ i t) hx hd.mapOf (r_tok I ?_ h)
  rw [vAt_none hl]; exact relA_bool
theorem bm_newB {x : Array UInt8} {t : Tok} {E : Value → Shared → Prop} : codeAny (model prog w) A (.call (.builtin "bytes.__new__") ⟨[.type "bytes", .bytes x t], []⟩) (wants (fun obj s₁ => s₁.TypeIs obj "bytes" ∧ obj = .bytes x t ∧ s₁ = s) E) s := by
  refine codeAny_of_tree ?_
  show wpAny _ A.in1 (do checkBuiltinCall "bytes.__new__" ⟨[.type "bytes", .bytes x t], []⟩; again (.builtin "bytes.__new__" ⟨[.type "bytes", .bytes x t], []⟩)) _ _ s
  refine wpAny_bind (wpAny_of_eq (PySem.F.bm_newCall _) (wpAny_pure ⟨plainId_quiet PySem.F.bm_plain _, codeAny_builtin PySem.F.bm_entry ?_⟩))
  rw [Around.under_plainId PySem.F.bm_plain _]
  unfold Builtin.«bytes.__new__»
  refine wpAny_bind (wpAny_of_eq (a := true) rfl ?_)
  refine bm_if_false rfl ?_
  refine wpAny_bind (wpAny_of_eq PySem.F.bm_sub ?_)
  refine bm_if_false rfl ?_
  refine wpAny_bind (wpAny_of_eq (PySem.F.bm_bind _) ?_)
  refine wpAny_bind (wpAny_of_eq (a := ()) rfl ?_)
  refine wpAny_bind (wpAny_of_eq (a := ()) rfl ?_)
  refine bm_if_false rfl ?_
  refine wpAny_bind (wpAny_specialOf (PySem.W.typeIs_bytes _ _ _) F.bb_lookup ?_)
  refine wpAny_bind (wpAny_rule ?_)
  refine wpAny_bind (wpAny_typeOf (PySem.W.typeIs_bytes _ _ _) ?_)
  refine bm_if_true (by decide) ?_
  show wpAny _ _ (if (Value.type "bytes" == Value.type "bytes") = true then _ else _) _ _ _
  refine bm_if_true (by decide) ?_
  have fin : wants (fun obj s₁ => s₁.TypeIs obj "bytes" ∧ obj = Value.bytes x t ∧ s₁ = s) E (.ok (.ret (.bytes x t))) s := ⟨PySem.W.typeIs_bytes _ _ _, rfl, rfl⟩
  first
    | exact wpAny_pure fin
    | exact wpAny_bind (wpAny_pure (wpAny_pure fin))
theorem c_bytesB {x : Array UInt8} (h : Q (.pv (.bytes x)) σ) : COk prog w GH k (.type "bytes") [.pv (.bytes x)] σ Q := fun A s B ρ us R I ra => by
  refine x1a2 (args1 ra) fun u Z1 Z2 => ?_; obtain rfl := Z1; obtain ⟨t, Z3⟩ := Z2; obtain rfl := Z3
  refine callType_codes (Q₁ := fun obj s₁ => s₁.TypeIs obj "bytes" ∧ obj = .bytes x t ∧ s₁ = s) PySem.F.bm_called (PySem.F.bm_typeCall _) PySem.F.entry_object_init bm_newB fun obj s₁ h₁ => ?_
  · refine x0a3 h₁ fun h1 Z4 Z5 => ?_; clear h₁; obtain rfl := Z4; obtain rfl := Z5
    refine ⟨h1, PySem.F.args_object_init_2 _ _, object_init_meets PySem.F.bm_called.init.lookup PySem.F.bm_called.made (by decide) prog w A.in1 _ _ ⟨h1, rfl, ?_⟩⟩
    exact r_here I relA_bytes h
end
theorem pvs_map (l : List PV) : pvs (l.map .pv) = some l := by
  induction l with
  | nil => rfl
  | cons p l ih => rw [List.map_cons, pvs, ih]; rfl
theorem take_snoc {α : Type} {l : List α} {i : Nat} {q : α} (h : l[i]? = some q) : l.take (i + 1) = l.take i ++ [q] := by
  rw [List.take_add_one, h]; rfl
section
variable {prog : Program} {w : World} {GH : Heap} {mg mb : Str → Option Value} {A : Around} {env : Env} {s : Shared} {h h' : Heap} {B B' : FB} {ρ ρ' : List Addr} {σ : List MO} {sc scope : Scope} {k : Nat} {V : VEnv} {e : Expr} {Q : AV → List MO → Prop} {x : Str} {elt : Expr} {ifs : List Expr}
theorem compF {f : PV → PV} {pr : PV → Bool} {p : PV} {l : List PV} (src : Src prog w GH p l) (hl : l.length ≤ 1000)
    (st : ∀ q ∈ l, TsOk prog w GH (relS sc scope) k ifs ((x, .pv q) :: compV scope V) σ fun b σ₂ => σ₂ = σ ∧ b = pr q ∧ (b = true → EOk prog w GH (relS sc scope) k elt ((x, .pv q) :: compV scope V) σ fun v σ₃ => v = .pv (f q) ∧ σ₃ = σ))
    (hq : Fin Q (((l.filter pr).map f).map .pv) σ) : CompH prog w GH sc scope k x elt ifs V Q (.pv p) σ := by
  refine ⟨p, l, rfl, src, hl, fun i acc σ' => acc = (((l.take i).filter pr).map f).map .pv ∧ σ' = σ, ⟨rfl, rfl⟩, ?_, ?_⟩
  · rintro i q acc σ' hi ⟨rfl, rfl⟩
    have hm := List.mem_of_getElem? hi
    have H := st q hm
    have e := take_snoc hi
    have go : ∀ b σ₂, (σ₂ = σ' ∧ b = pr q ∧ (b = true → EOk prog w GH (relS sc scope) k elt ((x, .pv q) :: compV scope V) σ' fun v σ₃ => v = .pv (f q) ∧ σ₃ = σ')) →
        (b = true → EOk prog w GH (relS sc scope) k elt ((x, .pv q) :: compV scope V) σ₂ fun v σ₃ => (((l.take i).filter pr).map f).map AV.pv ++ [v] = (((l.take (i + 1)).filter pr).map f).map AV.pv ∧ σ₃ = σ') ∧ (b = false → (((l.take i).filter pr).map f).map AV.pv = (((l.take (i + 1)).filter pr).map f).map AV.pv ∧ σ₂ = σ') := by
      rintro b σ₂ ⟨rfl, hb, he⟩
      refine ⟨fun hc => (he hc).mono ?_, fun hc => ⟨?_, rfl⟩⟩
      · rintro v σ₃ ⟨rfl, rfl⟩
        rw [e, List.filter_append, List.filter_cons, ← hb, hc]
        simp
      · rw [e, List.filter_append, List.filter_cons, ← hb, hc]
        simp
    match ifs, H with
    | [], H => exact go true σ' H
    | [c], H => exact t_join _ H go
    | _ :: _ :: _, H => exact H
  · rintro acc σ' ⟨rfl, rfl⟩
    rwa [List.take_length]
theorem compM {f : PV → PV} {pr : PV → Bool} {p : PV} {l : List PV} (src : Src prog w GH p l) (hl : l.length ≤ 1000)
    (st : ∀ q ∈ l, TsOk prog w GH (relS sc scope) k ifs ((x, .pv q) :: compV scope V) σ fun b σ₂ => σ₂ = σ ∧ b = pr q ∧ (b = true → EOk prog w GH (relS sc scope) k elt ((x, .pv q) :: compV scope V) σ fun v σ₃ => v = .pv (f q) ∧ σ₃ = σ))
    (hq : Q (.pv (.lst ((l.filter pr).map f))) σ) : CompH prog w GH sc scope k x elt ifs V Q (.pv p) σ := compF src hl st (.inl ⟨_, pvs_map _, hq⟩)
theorem compM0 {f : PV → PV} {p : PV} {l : List PV} (src : Src prog w GH p l) (hl : l.length ≤ 1000)
    (st : ∀ q ∈ l, EOk prog w GH (relS sc scope) k elt ((x, .pv q) :: compV scope V) σ fun v σ₃ => v = .pv (f q) ∧ σ₃ = σ)
    (hq : Q (.pv (.lst (l.map f))) σ) : CompH prog w GH sc scope k x elt [] V Q (.pv p) σ := compF (pr := fun _ => true) src hl (fun q hq => ⟨rfl, rfl, fun _ => st q hq⟩) (.inl ⟨_, pvs_map _, by rwa [List.filter_eq_self.mpr fun _ _ => rfl]⟩)
theorem compO0 {f : PV → PV} {p : PV} {l : List PV} (src : Src prog w GH p l) (hl : l.length ≤ 1000)
    (st : ∀ q ∈ l, EOk prog w GH (relS sc scope) k elt ((x, .pv q) :: compV scope V) σ fun v σ₃ => v = .pv (f q) ∧ σ₃ = σ)
    (hq : Q (.loc σ.length) (σ ++ [.lst (l.map f)])) : CompH prog w GH sc scope k x elt [] V Q (.pv p) σ := compF (pr := fun _ => true) src hl (fun q hq => ⟨rfl, rfl, fun _ => st q hq⟩) (.inr (.inl ⟨_, pvs_map _, by rwa [List.filter_eq_self.mpr fun _ _ => rfl]⟩))
theorem c_sortedS1 (G : GOK GH mg mb) {a : AV} {x : Str} {p : PV} (ha : asDictS σ a = some ([x], [p])) (h : Q (.pv (.lst [.str x])) σ) : COk prog w GH k (.builtin "sorted") [a] σ Q := fun A s B ρ us R I ra => by
  refine x1a2 (args1 ra) fun u Z1 r => ?_; obtain rfl := Z1
  refine x2a2 (view_dictS G I r ha) fun y us Z2 Z3 => ?_; obtain rfl := Z2; refine x0a4 Z3 fun hx hd hu q => ?_; clear Z3
  obtain ⟨ep, hat⟩ := hd.dictAt
  refine PySem.Calls.call_function_entry kind_sorted plain_sorted entry_sorted (args_sorted1 _) ?_
  unfold Builtin.«sorted»
  refine wpAny_bind (m := checkCount "sorted" 1 1 _) (wpAny_pure ?_)
  obtain ⟨u, rfl⟩ := List.length_eq_one_iff.mp hu
  refine wpAny_bind (kdu_collect (A := A.in1) (kdl_dict (knd := PySem.strKind prog w) (kvs := [x].zip [u]) (ep := ep) hx) R.handled hat (by rw [sizeLine_eq]; exact Nat.le_of_ble_eq_true rfl) fun h' tk acc hk hacc => ?_)
  have hlen : acc.toList.length = 1 := by rw [Array.length_toList, hacc.1]; rfl
  obtain ⟨v, hv⟩ := List.length_eq_one_iff.mp hlen
  refine x2a2 (hacc.2 0 v (by rw [← Array.getElem?_toList, hv]; rfl)) fun k' x' e1 e2 => ?_
  simp at e1
  obtain ⟨t, rfl⟩ : ∃ t, v = .str x t := by
    rw [← e1.1] at e2
    exact Value.isStrOf_shape e2
  rw [hv]
  refine wpAny_bind (wpAny_newList ?_ (by rw [sizeLine_eq]; exact Nat.le_of_ble_eq_true rfl))
  have hoL : (h'.push { cls := .type "list", data := .seq [Value.str x t].toArray }).get? h'.objs.size = some (seqObj "list" [Value.str x t].toArray 0) := Heap.get?_push_size _ rfl
  refine wpAny_bind (wpAny_holding (wpAny_call_entry slot_list_sort ⟨_, hoL, rfl⟩ entry_list_sort (list_sort_treeK PyProof.Rows.strKind_oneLt hoL (fun p hp => ?_) (fun _ _ _ e => by cases e) (Nat.le_of_ble_eq_true rfl) fun st' a1 a2 => ⟨_, rfl, ?_⟩) (args_list_sort _)))
  · rw [pairsOf_toList] at hp
    rw [List.mem_singleton.mp hp]
    exact ⟨_, rfl⟩
  refine wpAny_pure ⟨_, rfl, ?_⟩
  have ho : (arrOf st').map (·.2) = #[Value.str x t] := by
    have a1' : (arrOf st').toList.Perm [(Value.str x t, Value.str x t)] := by simpa [pairsOf] using a1.toList
    have := List.perm_singleton.mp a1'
    apply Array.ext'
    rw [Array.toList_map, this]; rfl
  rw [ho]
  have hk' : ∀ b o, s.heap.get? b = some o → (sortedHeap (h'.push { cls := .type "list", data := .seq [Value.str x t].toArray }) h'.objs.size [Value.str x t] #[Value.str x t]).get? b = some o := fun b o e => by
    have hb := hk b o e
    have hlt : @LT.lt Nat _ b h'.objs.size := Heap.lt_size hb
    rw [sortedHeap_old (Nat.ne_of_lt hlt) (by rw [Heap.size_push]; exact Nat.lt_succ_of_lt hlt)]
    exact Heap.get?_push_of_some _ hb
  obtain ⟨e, he⟩ := sortedHeap_at (out := #[Value.str x t]) hoL
  refine r_newL (l := [.str x]) (t := tk) I ?_ hk' he ⟨_, [], rfl, ⟨t, rfl⟩, rfl⟩ h
  cases z : s.heap.get? h'.objs.size with
  | none => rfl
  | some o => exact absurd (Heap.lt_size (hk _ _ z)) (Nat.lt_irrefl _)
end
theorem Cov.self {V : VEnv} : Cov V V := fun _ _ h => h
theorem Cov.drop {V V0 : VEnv} {x : Str} {v : AV} (hx : V0.lookup x = none) (c : Cov V V0) : Cov ((x, v) :: V) V0 := fun y u e => by
  by_cases q : y = x
  · subst q; rw [hx] at e; cases e
  · rw [lookup_cons_ne q]; exact c y u e
theorem Cov.keep {V V0 : VEnv} {x : Str} {v : AV} (c : Cov V V0) : Cov ((x, v) :: V) ((x, v) :: V0) := fun y u e => by
  by_cases q : y = x
  · subst q; rw [lookup_cons_eq] at e ⊢; exact e
  · rw [lookup_cons_ne q] at e ⊢; exact c y u e
section
variable {prog : Program} {w : World} {GH : Heap} {mg mb : Str → Option Value} {A : Around} {env : Env} {s : Shared} {h h' : Heap} {B B' : FB} {ρ ρ' : List Addr} {σ : List MO} {sc : Scope} {k : Nat} {V : VEnv} {e : Expr}
theorem Tgt.cov {t : Expr} {v : AV} {V' V0 V'' : VEnv} (h : Tgt prog w GH sc t v V0 V'') (c : Cov V' V0) : Tgt prog w GH sc t v V' V'' := fun A env s B ρ σ u hh F I r => h A env s B ρ σ u hh (F.cov c) I r
theorem s_for {t iter : Expr} {body rest : List Stmt} {pos : Pos} {Q : Fl → VEnv → List MO → Prop} (V0 : VEnv) (J : Nat → List MO → Prop)
    (h : EOk prog w GH sc k iter V σ fun v σ₁ => ∃ p l, v = .pv p ∧ Src prog w GH p l ∧ Cov V V0 ∧ J 0 σ₁ ∧
      (∀ i q σ', l[i]? = some q → J i σ' → ∃ V'', Tgt prog w GH sc t (.pv q) V0 V'' ∧ SOk prog w GH sc k body V'' σ' (LoopQ (fun V3 σ3 => Cov V3 V0 ∧ J (i + 1) σ3) Q)) ∧ (∀ σ', J l.length σ' → SOk prog w GH sc k rest V0 σ' Q))
    (hs : ∀ env x, foldedSetIterable iter env x = pure x := by intro _ _; rfl) : SOk prog w GH sc k (.For t iter body [] pos :: rest) V σ Q :=
  s_cons (x_for (h.mono fun v σ₁ y => x2a6 y fun p l e src c h0 st fin => ⟨p, l, e, src, fun i V' σ' => Cov V' V0 ∧ J i σ', ⟨c, h0⟩, fun i q V' σ' hi hJ => by
      refine x1a2 (st i q σ' hi hJ.2) fun V'' ht hb => ?_
      refine ⟨V'', ht.cov hJ.1, hb.mono fun fl V3 σ3 q => ?_⟩
      cases fl <;> exact q, fun V' σ' hJ => (fin σ' hJ.2).cov hJ.1⟩) hs)
theorem s_forE {t1 t2 : Expr} {id : Str} {np cp tp : Pos} {tn : Nat} {es : List Expr} {body rest : List Stmt} {pos : Pos} {Q : Fl → VEnv → List MO → Prop} (V0 : VEnv) (J : Nat → List MO → Prop) (hs : noStar es = true)
    (h : EOk prog w GH sc k (.Name id np) V σ fun v σ₀ => v = .pv (.cst (.type "enumerate")) ∧ LOk prog w GH sc k es V σ₀ fun vs σ₁ => ∃ l, vs = [.pv (.lst l)] ∧ Cov V V0 ∧ J 0 σ₁ ∧
      (∀ i q σ', l[i]? = some q → J i σ' → ∃ V'', TgtL prog w GH sc [t1, t2] [.int i, q] V0 V'' ∧ SOk prog w GH sc k body V'' σ' (LoopQ (fun V3 σ3 => Cov V3 V0 ∧ J (i + 1) σ3) Q)) ∧ (∀ σ', J l.length σ' → SOk prog w GH sc k rest V0 σ' Q))
    (hf : ∀ env x, foldedSetIterable (.Call (.Name id np) es [] cp) env x = pure x := by intro _ _; rfl) : SOk prog w GH sc k (.For (.Tuple [t1, t2] tn tp) (.Call (.Name id np) es [] cp) body [] pos :: rest) V σ Q :=
  s_cons (x_forE hs (h.mono fun v σ₀ ⟨e, hl⟩ => ⟨e, fun A env s B ρ p R F I => wpAny_mono (hl A env s B ρ p R F I) (fun _ _ x => x.mono fun _ _ _ y => x2a3 y fun vs σ₁ a b y => x1a5 y fun l e c h0 st fin => ⟨vs, σ₁, a, b, l, e, fun i V' σ' => Cov V' V0 ∧ J i σ', ⟨c, h0⟩, fun i q V' σ' hi hJ => by
      refine x1a2 (st i q σ' hi hJ.2) fun V'' ht hb => ?_
      refine ⟨V'', ?_, hb.mono fun fl V3 σ3 q => ?_⟩
      · obtain ⟨a1, Z1⟩ := ht; refine x1a3 Z1 fun V1 b1 a2 Z2 => ?_; clear Z1; refine x1a2 Z2 fun V2 b2 e2 => ?_; clear Z2
        exact ⟨a1, V1, b1.cov hJ.1, a2, V2, b2, e2⟩
      · cases fl <;> exact q, fun V' σ' hJ => (fin σ' hJ.2).cov hJ.1⟩) fun _ _ x => x⟩) hf)
theorem s_joinV {st : Stmt} {rest : List Stmt} {Q : Fl → VEnv → List MO → Prop} (V0 : VEnv) (J : List MO → Prop) (h : XOk prog w GH sc k st V σ (LoopQ (fun V' σ' => Cov V' V0 ∧ J σ') Q)) (h2 : ∀ σ', J σ' → SOk prog w GH sc k rest V0 σ' Q) : SOk prog w GH sc k (st :: rest) V σ Q :=
  s_join _ h fun V' σ' q => (h2 σ' q.2).cov q.1
end
section
variable {prog : Program} {w : World} {GH : Heap} {mg mb : Str → Option Value} {A : Around} {env : Env} {s : Shared} {h h' : Heap} {B B' : FB} {ρ ρ' : List Addr} {σ : List MO} {sc : Scope} {k : Nat} {V : VEnv} {e : Expr} {Q : AV → List MO → Prop}
theorem CdOk.mono {f : Value} {as : List AV} {Q Q' : AV → List MO → Prop} (h : CdOk prog w GH k f as σ Q) (g : ∀ v σ, Q v σ → Q' v σ) : CdOk prog w GH k f as σ Q' := fun A s B ρ us R I ra =>
  codeAny_mono (h A s B ρ us R I ra) fun r s' x => by
    rcases r with e | f
    · exact x
    · cases f <;> first | exact (x : False).elim | exact (x : After [] s B ρ (VP prog w GH Q _) s').mono fun _ _ _ ⟨v, σ', a, b, q⟩ => ⟨v, σ', a, b, g _ _ q⟩
theorem c_frzI {f : Value} {as : List AV} (h : COk prog w GH k f as σ fun v σ₁ => ∃ n c d ks ps vs, v = .loc n ∧ σ₁[n]? = some (.ins c d) ∧ σ₁[d]? = some (.ns ks vs) ∧ pvs vs = some ps ∧ Q (.pv (.ins c ks ps)) ((σ₁.set d .dead).set n .dead)) : COk prog w GH k f as σ Q := fun A s B ρ us R I ra =>
  h.go R I ra fun u s₁ B₁ ρ₁ v σ₁ a r y => by
    refine x6a5 y fun n c d ks ps vs ev hn hd hp q => ?_
    clear y
    subst ev
    refine x1a2 r fun x hx Z1 => ?_; clear r; obtain rfl := Z1
    obtain ⟨_, Z2⟩ := a.inv.store n x _ hx hn; refine x1a2 Z2 fun o ho Z3 => ?_; clear Z2; refine x1a2 Z3 fun y hy eo => ?_; clear Z3
    obtain ⟨_, Z4⟩ := a.inv.store d y _ hy hd; refine x1a2 Z4 fun o' ho' Z5 => ?_; clear Z4; refine x3a3 Z5 fun es m us' eo' en rv => ?_; clear Z5
    subst eo eo'
    obtain ⟨I₂, S₂⟩ := a.inv.freeze hy hd ho' (by simp)
    have hne : n ≠ d := fun z => by subst z; rw [hn] at hd; cases hd
    have hn' : (σ₁.set d .dead)[n]? = some (.ins c d) := by rw [List.getElem?_set_ne hne.symm]; exact hn
    obtain ⟨I₃, S₃⟩ := I₂.freeze hx hn' ho (by simp)
    have S := S₂.trans (wr' := []) (fun _ q => nomatch q) S₃
    refine a.then0 ⟨_, ρ₁, ⟨_, _, rfl⟩, S, .pv (.ins c ks ps), _, I₃, ⟨x, y, es, m, us', rfl, FB.put_self _ _ _, S₃.le _ _ (FB.put_self _ _ _), en, ?_⟩, q⟩
    exact (rv.pure hp).mono prog w S.le
end
theorem pdL_ints : ∀ l : List Int, pdL (l.map .int) = some (l.map .int)
  | [] => rfl
  | x :: l => by rw [List.map_cons, pdL, pdL_ints l]; rfl
theorem lay_ints : ∀ l : List Int, PyData.canLay0 (.list (l.map .int)) = true ∧ PyData.depth (.list (l.map .int)) ≤ 64
  | [] => by constructor <;> decide
  | x :: l => by
    have := lay_ints l
    constructor
    · simpa [PyData.canLay0, PyData.canLayAll0] using this.1
    · have h2 := this.2
      simp only [PyData.depth, List.map_cons, PyData.depthAll] at h2 ⊢
      omega
theorem shaped_ints (l : List Int) : SeqAt.shaped (.list (l.map .int)) = true := by
  unfold SeqAt.shaped; rw [(lay_ints l).1, decide_eq_true (lay_ints l).2]; rfl
theorem fm0 {a m : Int} (h : 0 < m) : 0 ≤ a.fmod m := by rw [Int.fmod_eq_emod_of_nonneg _ (by omega)]; exact Int.emod_nonneg _ (by omega)
theorem fml {a m : Int} (h : 0 < m) : a.fmod m < m := by rw [Int.fmod_eq_emod_of_nonneg _ (by omega)]; exact Int.emod_lt_of_pos _ h
theorem pyl {a m : Int} (h : 0 < m) (h2 : m < 100) : Builtin.divisionGoesByPylong a m = false := by
  have hl : m.natAbs.log2 < 7 := (Nat.log2_lt (by omega)).mpr (by omega)
  unfold Builtin.divisionGoesByPylong
  have hm : ¬ ((m == 0) = true) := by simp; omega
  simp only [hm, if_false]
  have : ¬ (m.natAbs.log2 / 30 + 1 > 300) := by omega
  simp [this]
noncomputable abbrev penO (l : List Int) (a b : Int) (τ : List MO) : List MO := .lst (l.map .int) :: .alst [.loc 0, .pv (.int a), .pv (.int b)] :: τ
noncomputable def Pn (σ τ : List MO) : Prop := ∃ l a b, σ = penO l a b τ ∧ l.length ≤ 40
section
variable {prog : Program} {w : World} {k : Nat} {σ τ : List MO} {Q : AV → List MO → Prop}
theorem draw_ok {m : Int} (hp : Pn σ τ) (hm : 0 < m) (hm2 : m < 100) (h : ∀ d σ', 0 ≤ d → d < m → Pn σ' τ → Q (.pv (.int d)) σ') : COk prog w (GH w) (k + 5) (.ref 611) [.loc 1, .pv (.int m)] σ Q := by
  refine x3a2 hp fun l a b Z1 hl => ?_; clear hp; obtain rfl := Z1
  refine cf (gok w) (fn__law_draw w) (xs := [⟨⟨[112,101,110]⟩⟩, ⟨⟨[109,97,110,121]⟩⟩]) (hb2 fun _ _ _ _ _ _ _ _ _ => rfl) ?_
  refine s_cons ?_
  refine x_set ?_
  refine e_bin ?_
  refine e_sub ?_ (fun _ _ => rfl)
  refine ev ?_
  refine e_int ?_
  refine sub_A rfl (by decide) rfl (Nat.le_of_ble_eq_true rfl) ?_
  refine e_int ?_
  refine o_intadd ?_
  refine ev ?_
  refine e_int ?_
  refine set_A rfl (by decide) (Nat.le_of_ble_eq_true rfl) (Nat.le_of_ble_eq_true rfl) ?_
  refine s_join (fun V' σ' => ∃ l' b', V' = [(⟨⟨[112,101,110]⟩⟩, .loc 1), (⟨⟨[109,97,110,121]⟩⟩, .pv (.int m))] ∧ σ' = penO l' (a + 1) b' τ ∧ l'.length ≤ 40) ?_ ?_
  · refine x_if ?_
    refine t_bool (a_and ?_)
    refine t_cmp ?_ rfl
    refine e_sub ?_ (fun _ _ => rfl)
    refine ev ?_
    refine e_int ?_
    refine sub_A rfl (by decide) rfl (Nat.le_of_ble_eq_true rfl) ?_
    refine e_int ?_
    refine o_eqI ?_
    refine tr_bool ?_
    refine ⟨fun hc => a_and ?_, fun hc => ⟨fun h => absurd h (by decide), fun _ => ?_⟩⟩
    · refine t_cmp ?_ rfl
      refine e_sub ?_ (fun _ _ => rfl)
      refine ev ?_
      refine e_int ?_
      refine sub_A rfl (by decide) rfl (Nat.le_of_ble_eq_true rfl) ?_
      refine e_list ?_
      refine l_nil ?_
      refine ⟨_, rfl, by decide, ?_⟩
      refine o_ne (da := .list (l.map .int)) (db := .list []) (by show (pdL (l.map .int)).map PyData.list = _; rw [pdL_ints]; rfl) rfl (shaped_ints l) (by decide) ?_
      refine tr_bool ?_
      refine ⟨fun hd => a_and_nil ⟨fun _ => ?_, fun h => absurd h (by decide)⟩, fun hd => ⟨fun h => absurd h (by decide), fun _ => ?_⟩⟩
      · match l, hl, hd with
        | [], _, hd => exact absurd hd (by decide)
        | y :: l', hl, hd =>
          refine s_one ?_
          refine x_set ?_
          refine e_mbi (id := "list.pop") rfl rfl (by decide) (fun _ => rfl) ?_
          refine e_sub ?_ (fun _ _ => rfl)
          refine ev ?_
          refine e_int ?_
          refine sub_A rfl (by decide) rfl (Nat.le_of_ble_eq_true rfl) ?_
          refine ⟨mb_list rfl PySem.F.slot_list_pop PySem.F.type_list_pop, ?_⟩
          refine lc ?_
          refine e_int ?_
          refine l_nil ?_
          refine c_pop0 rfl (by simp at hl ⊢; omega) ?_
          refine ev ?_
          refine e_int ?_
          refine set_A rfl (by decide) (Nat.le_of_ble_eq_true rfl) (Nat.le_of_ble_eq_true rfl) ?_
          exact ⟨l', y, rfl, rfl, by simp at hl; omega⟩
      · exact s_nil ⟨l, b, rfl, rfl, hl⟩
    · exact s_nil ⟨l, b, rfl, rfl, hl⟩
  · rintro V' σ' ⟨l', b', rfl, rfl, hl'⟩
    refine s_cons ?_
    refine xa ?_
    refine e_bin ?_
    refine ca_int ?_ (by kernel_rfl!)
    refine lc ?_
    refine e_sub ?_ (fun _ _ => rfl)
    refine ev ?_
    refine e_int ?_
    refine sub_A rfl (by decide) rfl (Nat.le_of_ble_eq_true rfl) ?_
    refine l_nil ?_
    refine c_intI ?_
    refine ev ?_
    refine o_mod (by omega) ?_
    refine s_cons ?_
    refine x_set ?_
    refine e_bin ?_
    refine ca_int ?_ (by kernel_rfl!)
    refine lc ?_
    refine e_sub ?_ (fun _ _ => rfl)
    refine ev ?_
    refine e_int ?_
    refine sub_A rfl (by decide) rfl (Nat.le_of_ble_eq_true rfl) ?_
    refine l_nil ?_
    refine c_intI ?_
    refine ev ?_
    refine o_div (by omega) (pyl hm hm2) ?_
    refine ev ?_
    refine e_int ?_
    refine set_A rfl (by decide) (Nat.le_of_ble_eq_true rfl) (Nat.le_of_ble_eq_true rfl) ?_
    refine s_one ?_
    refine x_ret ?_
    refine e_bin ?_
    refine e_bin ?_
    refine ev ?_
    refine e_sub ?_ (fun _ _ => rfl)
    refine ev ?_
    refine e_int ?_
    refine sub_A rfl (by decide) rfl (Nat.le_of_ble_eq_true rfl) ?_
    refine o_intadd ?_
    refine ev ?_
    refine o_mod (by omega) ?_
    exact h _ _ (fm0 hm) (fml hm) ⟨l', a + 1, b'.fdiv m, rfl, hl'⟩
end
noncomputable def bs (l : List Nat) : Array UInt8 := ⟨l.map Nat.toUInt8⟩
theorem byteArr_bs (l : List Nat) : byteArr (l.map Int.ofNat) = bs l := by
  unfold byteArr bs
  simp [List.map_map]
theorem bs_append (a b : List Nat) : bs a ++ bs b = bs (a ++ b) := by unfold bs; simp
theorem bs_size (l : List Nat) : (bs l).size = l.length := by unfold bs; simp
noncomputable abbrev sg (l : List Nat) : PV := .str ⟨⟨l⟩⟩
theorem oct_in {l : List Nat} (hb : ∀ c ∈ l, c < 256) : ∀ n ∈ l.map Int.ofNat, 0 ≤ n ∧ n < 256 := fun n hn => by
  obtain ⟨c, hc, rfl⟩ := List.mem_map.mp hn
  have := hb c hc
  show 0 ≤ (c : Int) ∧ (c : Int) < 256
  omega
noncomputable def dg (n : Int) : List Nat := (toString n : Str).cps.toList
theorem dg_ok : ∀ n : _root_.Fin 40, (∀ c ∈ dg (n.val : Int), c < 256) ∧ (dg (n.val : Int)).length ≤ 2 := by decide +kernel
theorem dg_in {n : Int} (h0 : 0 ≤ n) (h1 : n < 40) : (∀ c ∈ dg n, c < 256) ∧ (dg n).length ≤ 2 := by
  have := dg_ok ⟨n.toNat, by omega⟩
  rwa [show ((n.toNat : Nat) : Int) = n by omega] at this
noncomputable def isReg (c : Int) : Bool := decide (c ≥ 0) && (!(c_WHITE.any (· == c)) && !(c_DELIMITERS.any (· == c)))
section
variable {prog : Program} {w : World} {k : Nat} {σ τ : List MO} {Q : AV → List MO → Prop}
theorem text_octets_ok {l : List Nat} (hb : ∀ c ∈ l, c < 256) (hl : l.length ≤ 1000) (h : Q (.pv (.bytes (bs l))) σ) : COk prog w (GH w) (k + 3) (.ref 424) [.pv (sg l)] σ Q := by
  refine cf (gok w) (fn_text_octets w) (xs := [⟨⟨[116,101,120,116]⟩⟩]) (hb1 fun _ _ _ _ _ _ _ _ => rfl) ?_
  refine s_one ?_
  refine x_ret ?_
  refine ca_bytes ?_ (by kernel_rfl!)
  refine lc ?_
  refine e_comp (gok w) ?_ (by kernel_rfl!) (by kernel_rfl!)
  refine ev ?_
  refine compM0 (f := fun p => match p with | .str s => .int (s.cps.toList.headD 0 : Nat) | p => p) src_str (by simpa using hl) (fun q hq => ?_) ?_
  · refine x1a2 (List.mem_map.mp hq) fun c hc Z1 => ?_; obtain rfl := Z1
    refine ca_ord ?_ (by kernel_rfl!)
    refine lc ?_
    refine ev ?_
    refine l_nil ?_
    refine c_ord ?_
    exact ⟨rfl, rfl⟩
  · refine l_nil ?_
    refine c_bytes (ns := l.map Int.ofNat) ?_ (oct_in hb) (by simp; omega) ?_
    · show some _ = some _
      simp
    · rw [byteArr_bs]; exact h
theorem law_octets_ok {l : List Nat} (hb : ∀ c ∈ l, c < 256) (hl : l.length ≤ 1000) (h : Q (.pv (.bytes (bs l))) σ) : COk prog w (GH w) (k + 3) (.ref 623) [.pv (sg l)] σ Q := by
  refine cf (gok w) (fn__law_octets w) (xs := [⟨⟨[116,101,120,116]⟩⟩]) (hb1 fun _ _ _ _ _ _ _ _ => rfl) ?_
  refine s_one ?_
  refine x_ret ?_
  refine ca_bytes ?_ (by kernel_rfl!)
  refine lc ?_
  refine e_comp (gok w) ?_ (by kernel_rfl!) (by kernel_rfl!)
  refine ev ?_
  refine compM0 (f := fun p => match p with | .str s => .int (s.cps.toList.headD 0 : Nat) | p => p) src_str (by simpa using hl) (fun q hq => ?_) ?_
  · refine x1a2 (List.mem_map.mp hq) fun c hc Z1 => ?_; obtain rfl := Z1
    refine ca_ord ?_ (by kernel_rfl!)
    refine lc ?_
    refine ev ?_
    refine l_nil ?_
    refine c_ord ?_
    exact ⟨rfl, rfl⟩
  · refine l_nil ?_
    refine c_bytes (ns := l.map Int.ofNat) ?_ (oct_in hb) (by simp; omega) ?_
    · show some _ = some _
      simp
    · rw [byteArr_bs]; exact h
theorem is_regular_ok {c : Int} (h : Q (.pv (.bool (isReg c))) σ) : COk prog w (GH w) (k + 3) (.ref 103) [.pv (.int c)] σ Q := by
  refine cf (gok w) (fn_is_regular w) (xs := [⟨⟨[99,111,100,101]⟩⟩]) (hb1 fun _ _ _ _ _ _ _ _ => rfl) ?_
  refine s_one ?_
  refine x_ret ?_
  refine e_bool (b_and ?_)
  refine e_cmp ?_ rfl
  refine ev ?_
  refine e_int ?_
  refine o_ge ?_
  refine tr_bool ⟨fun h1 => b_and ?_, fun h1 => ?_⟩
  · refine e_cmp ?_ rfl
    refine ev ?_
    refine en_WHITE ?_ (by kernel_rfl!)
    refine o_ninT ?_
    refine tr_bool ⟨fun h2 => b_one ?_, fun h2 => ?_⟩
    · refine e_cmp ?_ rfl
      refine ev ?_
      refine en_DELIMITERS ?_ (by kernel_rfl!)
      refine o_ninT ?_
      unfold isReg at h; rw [h1, h2] at h; exact h
    · unfold isReg at h; rw [h1, h2] at h; rw [h2]; exact h
  · unfold isReg at h; rw [h1] at h; rw [h1]; exact h
theorem whole_octets_ok {n : Int} (h0 : 0 ≤ n) (h1 : n < 40) (h : Q (.pv (.bytes (bs (dg n)))) σ) : COk prog w (GH w) (k + 5) (.ref 445) [.pv (.int n)] σ Q := by
  refine cf (gok w) (fn_whole_octets w) (xs := [⟨⟨[110,117,109,98,101,114]⟩⟩]) (hb1 fun _ _ _ _ _ _ _ _ => rfl) ?_
  refine s_cons ?_
  refine x_if ?_
  refine t_cmp ?_ rfl
  refine ca_abs ?_ (by kernel_rfl!)
  refine lc ?_
  refine ev ?_
  refine l_nil ?_
  refine c_abs ?_
  refine e_bin ?_
  refine e_int ?_
  refine en_MOST_NUMBER ?_ (by kernel_rfl!)
  refine o_pow (by decide) (by decide) (by decide) (by decide) (by decide +kernel) ?_
  refine o_ge ?_
  refine tr_bool ?_
  refine ⟨fun hc => absurd hc ?_, fun hc => ?_⟩
  · rw [if_neg (by omega)]
    simp only [decide_eq_true_eq]
    have : (10 : Int) ^ (Int.toNat 40) = 10 ^ 40 := rfl
    omega
  · refine s_nil ?_
    refine s_one ?_
    refine x_ret ?_
    refine ca_text_octets ?_ (by kernel_rfl!)
    refine lc ?_
    refine ca_str ?_ (by kernel_rfl!)
    refine lc ?_
    refine ev ?_
    refine l_nil ?_
    refine c_strI ?_ ?_
    · have : n.natAbs.log2 < 1920 := Nat.lt_of_le_of_lt (Nat.log2_le_self _) (by omega)
      exact this
    refine l_nil ?_
    have hd := dg_in h0 h1
    exact text_octets_ok (l := dg n) hd.1 (Nat.le_trans hd.2 (by decide)) h
end
noncomputable abbrev vName : PV := .ins 225 [⟨⟨[116,101,120,116]⟩⟩] [sg [65]]
noncomputable abbrev vStrm : PV := .ins 268 [⟨⟨[104,101,97,100]⟩⟩, ⟨⟨[111,99,116,101,116,115]⟩⟩] [.dctI [] [], .bytes (bs [120])]
section
variable {prog : Program} {w : World} {k : Nat} {σ τ : List MO} {Q : AV → List MO → Prop}
theorem kind_null (h : Q (.pv (sg [110,117,108,108])) σ) : COk prog w (GH w) (k + 3) (.ref 307) [.pv .none] σ Q := by
  refine cf (gok w) (fn_kind_of w) (xs := [⟨⟨[118,97,108,117,101]⟩⟩]) (hb1 fun _ _ _ _ _ _ _ _ => rfl) ?_
  refine s_cons ?_
  refine x_if ?_
  refine t_cmp ?_ rfl
  refine ev ?_
  refine e_none ?_
  refine o_isNone ?_ (fun _ e => by cases e)
  refine tr_bool ?_
  refine ⟨fun _ => ?_, fun h => absurd h (by decide)⟩
  exact s_one (x_ret (e_str h))
theorem kind_tru (h : Q (.pv (sg [116,114,117,116,104])) σ) : COk prog w (GH w) (k + 3) (.ref 307) [.pv (.bool true)] σ Q := by
  refine cf (gok w) (fn_kind_of w) (xs := [⟨⟨[118,97,108,117,101]⟩⟩]) (hb1 fun _ _ _ _ _ _ _ _ => rfl) ?_
  refine s_cons ?_
  refine x_if ?_
  refine t_cmp ?_ rfl
  refine ev ?_
  refine e_none ?_
  refine o_isNone ?_ (fun _ e => by cases e)
  refine tr_bool ?_
  refine ⟨fun h => (by cases h), fun _ => s_nil ?_⟩
  refine s_cons ?_
  refine x_if ?_
  refine t_value ?_ (fun _ => rfl)
  refine ca_isinstance ?_ (by kernel_rfl!)
  refine lc ?_
  refine ev ?_
  refine lc ?_
  refine en_bool ?_ (by kernel_rfl!)
  refine l_nil ?_
  refine c_isi (b := true) (kf_in w) rfl (by kernel_rfl!) ?_
  refine tr_bool ?_
  refine ⟨fun _ => ?_, fun h => absurd h (by decide)⟩
  exact s_one (x_ret (e_str h))
theorem kind_int {i : Int} (h : Q (.pv (sg [105,110,116])) σ) : COk prog w (GH w) (k + 3) (.ref 307) [.pv (.int i)] σ Q := by
  refine cf (gok w) (fn_kind_of w) (xs := [⟨⟨[118,97,108,117,101]⟩⟩]) (hb1 fun _ _ _ _ _ _ _ _ => rfl) ?_
  refine s_cons ?_
  refine x_if ?_
  refine t_cmp ?_ rfl
  refine ev ?_
  refine e_none ?_
  refine o_isNone ?_ (fun _ e => by cases e)
  refine tr_bool ?_
  refine ⟨fun h => (by cases h), fun _ => s_nil ?_⟩
  refine s_cons ?_
  refine x_if ?_
  refine t_value ?_ (fun _ => rfl)
  refine ca_isinstance ?_ (by kernel_rfl!)
  refine lc ?_
  refine ev ?_
  refine lc ?_
  refine en_bool ?_ (by kernel_rfl!)
  refine l_nil ?_
  refine c_isi (b := false) (kf_in w) rfl (by kernel_rfl!) ?_
  refine tr_bool ?_
  refine ⟨fun h => (by cases h), fun _ => s_nil ?_⟩
  refine s_cons ?_
  refine x_if ?_
  refine t_value ?_ (fun _ => rfl)
  refine ca_isinstance ?_ (by kernel_rfl!)
  refine lc ?_
  refine ev ?_
  refine lc ?_
  refine en_int ?_ (by kernel_rfl!)
  refine l_nil ?_
  refine c_isi (b := true) (kf_in w) rfl (by kernel_rfl!) ?_
  refine tr_bool ?_
  refine ⟨fun _ => ?_, fun h => absurd h (by decide)⟩
  exact s_one (x_ret (e_str h))
theorem kind_name (h : Q (.pv (sg [110,97,109,101])) σ) : COk prog w (GH w) (k + 3) (.ref 307) [.pv vName] σ Q := by
  refine cf (gok w) (fn_kind_of w) (xs := [⟨⟨[118,97,108,117,101]⟩⟩]) (hb1 fun _ _ _ _ _ _ _ _ => rfl) ?_
  refine s_cons ?_
  refine x_if ?_
  refine t_cmp ?_ rfl
  refine ev ?_
  refine e_none ?_
  refine o_isNone ?_ (fun _ e => by cases e)
  refine tr_bool ?_
  refine ⟨fun h => (by cases h), fun _ => s_nil ?_⟩
  refine s_cons ?_
  refine x_if ?_
  refine t_value ?_ (fun _ => rfl)
  refine ca_isinstance ?_ (by kernel_rfl!)
  refine lc ?_
  refine ev ?_
  refine lc ?_
  refine en_bool ?_ (by kernel_rfl!)
  refine l_nil ?_
  refine c_isiI (b := false) (cl_Name w) rfl (by kernel_rfl!) (by kernel_rfl!) (by kernel_rfl!) (by kernel_rfl!) (by kernel_rfl!) ?_
  refine tr_bool ?_
  refine ⟨fun h => (by cases h), fun _ => s_nil ?_⟩
  refine s_cons ?_
  refine x_if ?_
  refine t_value ?_ (fun _ => rfl)
  refine ca_isinstance ?_ (by kernel_rfl!)
  refine lc ?_
  refine ev ?_
  refine lc ?_
  refine en_int ?_ (by kernel_rfl!)
  refine l_nil ?_
  refine c_isiI (b := false) (cl_Name w) rfl (by kernel_rfl!) (by kernel_rfl!) (by kernel_rfl!) (by kernel_rfl!) (by kernel_rfl!) ?_
  refine tr_bool ?_
  refine ⟨fun h => (by cases h), fun _ => s_nil ?_⟩
  refine s_cons ?_
  refine x_if ?_
  refine t_value ?_ (fun _ => rfl)
  refine ca_isinstance ?_ (by kernel_rfl!)
  refine lc ?_
  refine ev ?_
  refine lc ?_
  refine en_Decimal ?_ (by kernel_rfl!)
  refine l_nil ?_
  refine c_isiI (b := false) (cl_Name w) rfl (by kernel_rfl!) (by kernel_rfl!) (by kernel_rfl!) (by kernel_rfl!) (by kernel_rfl!) ?_
  refine tr_bool ?_
  refine ⟨fun h => (by cases h), fun _ => s_nil ?_⟩
  refine s_cons ?_
  refine x_if ?_
  refine t_value ?_ (fun _ => rfl)
  refine ca_isinstance ?_ (by kernel_rfl!)
  refine lc ?_
  refine ev ?_
  refine lc ?_
  refine en_Name ?_ (by kernel_rfl!)
  refine l_nil ?_
  refine c_isiI (b := true) (cl_Name w) rfl (by kernel_rfl!) (by kernel_rfl!) (by kernel_rfl!) (by kernel_rfl!) (by kernel_rfl!) ?_
  refine tr_bool ?_
  refine ⟨fun _ => ?_, fun h => absurd h (by decide)⟩
  exact s_one (x_ret (e_str h))
theorem kind_dict (h : Q (.pv (sg [100,105,99,116])) σ) : COk prog w (GH w) (k + 3) (.ref 307) [.pv (.dctI [] [])] σ Q := by
  refine cf (gok w) (fn_kind_of w) (xs := [⟨⟨[118,97,108,117,101]⟩⟩]) (hb1 fun _ _ _ _ _ _ _ _ => rfl) ?_
  refine s_cons ?_
  refine x_if ?_
  refine t_cmp ?_ rfl
  refine ev ?_
  refine e_none ?_
  refine o_isNone ?_ (fun _ e => by cases e)
  refine tr_bool ?_
  refine ⟨fun h => (by cases h), fun _ => s_nil ?_⟩
  refine s_cons ?_
  refine x_if ?_
  refine t_value ?_ (fun _ => rfl)
  refine ca_isinstance ?_ (by kernel_rfl!)
  refine lc ?_
  refine ev ?_
  refine lc ?_
  refine en_bool ?_ (by kernel_rfl!)
  refine l_nil ?_
  refine c_isi (b := false) (kf_in w) rfl (by kernel_rfl!) ?_
  refine tr_bool ?_
  refine ⟨fun h => (by cases h), fun _ => s_nil ?_⟩
  refine s_cons ?_
  refine x_if ?_
  refine t_value ?_ (fun _ => rfl)
  refine ca_isinstance ?_ (by kernel_rfl!)
  refine lc ?_
  refine ev ?_
  refine lc ?_
  refine en_int ?_ (by kernel_rfl!)
  refine l_nil ?_
  refine c_isi (b := false) (kf_in w) rfl (by kernel_rfl!) ?_
  refine tr_bool ?_
  refine ⟨fun h => (by cases h), fun _ => s_nil ?_⟩
  refine s_cons ?_
  refine x_if ?_
  refine t_value ?_ (fun _ => rfl)
  refine ca_isinstance ?_ (by kernel_rfl!)
  refine lc ?_
  refine ev ?_
  refine lc ?_
  refine en_Decimal ?_ (by kernel_rfl!)
  refine l_nil ?_
  refine c_isi (b := false) (kf_in w) rfl (by kernel_rfl!) ?_
  refine tr_bool ?_
  refine ⟨fun h => (by cases h), fun _ => s_nil ?_⟩
  refine s_cons ?_
  refine x_if ?_
  refine t_value ?_ (fun _ => rfl)
  refine ca_isinstance ?_ (by kernel_rfl!)
  refine lc ?_
  refine ev ?_
  refine lc ?_
  refine en_Name ?_ (by kernel_rfl!)
  refine l_nil ?_
  refine c_isi (b := false) (kf_in w) rfl (by kernel_rfl!) ?_
  refine tr_bool ?_
  refine ⟨fun h => (by cases h), fun _ => s_nil ?_⟩
  refine s_cons ?_
  refine x_if ?_
  refine t_value ?_ (fun _ => rfl)
  refine ca_isinstance ?_ (by kernel_rfl!)
  refine lc ?_
  refine ev ?_
  refine lc ?_
  refine en_String ?_ (by kernel_rfl!)
  refine l_nil ?_
  refine c_isi (b := false) (kf_in w) rfl (by kernel_rfl!) ?_
  refine tr_bool ?_
  refine ⟨fun h => (by cases h), fun _ => s_nil ?_⟩
  refine s_cons ?_
  refine x_if ?_
  refine t_value ?_ (fun _ => rfl)
  refine ca_isinstance ?_ (by kernel_rfl!)
  refine lc ?_
  refine ev ?_
  refine lc ?_
  refine en_list ?_ (by kernel_rfl!)
  refine l_nil ?_
  refine c_isi (b := false) (kf_in w) rfl (by kernel_rfl!) ?_
  refine tr_bool ?_
  refine ⟨fun h => (by cases h), fun _ => s_nil ?_⟩
  refine s_cons ?_
  refine x_if ?_
  refine t_value ?_ (fun _ => rfl)
  refine ca_isinstance ?_ (by kernel_rfl!)
  refine lc ?_
  refine ev ?_
  refine lc ?_
  refine en_dict ?_ (by kernel_rfl!)
  refine l_nil ?_
  refine c_isi (b := true) (kf_in w) rfl (by kernel_rfl!) ?_
  refine tr_bool ?_
  refine ⟨fun _ => ?_, fun h => absurd h (by decide)⟩
  exact s_one (x_ret (e_str h))
theorem kind_strm (h : Q (.pv (sg [115,116,114,101,97,109])) σ) : COk prog w (GH w) (k + 3) (.ref 307) [.pv vStrm] σ Q := by
  refine cf (gok w) (fn_kind_of w) (xs := [⟨⟨[118,97,108,117,101]⟩⟩]) (hb1 fun _ _ _ _ _ _ _ _ => rfl) ?_
  refine s_cons ?_
  refine x_if ?_
  refine t_cmp ?_ rfl
  refine ev ?_
  refine e_none ?_
  refine o_isNone ?_ (fun _ e => by cases e)
  refine tr_bool ?_
  refine ⟨fun h => (by cases h), fun _ => s_nil ?_⟩
  refine s_cons ?_
  refine x_if ?_
  refine t_value ?_ (fun _ => rfl)
  refine ca_isinstance ?_ (by kernel_rfl!)
  refine lc ?_
  refine ev ?_
  refine lc ?_
  refine en_bool ?_ (by kernel_rfl!)
  refine l_nil ?_
  refine c_isiI (b := false) (cl_Stream w) rfl (by kernel_rfl!) (by kernel_rfl!) (by kernel_rfl!) (by kernel_rfl!) (by kernel_rfl!) ?_
  refine tr_bool ?_
  refine ⟨fun h => (by cases h), fun _ => s_nil ?_⟩
  refine s_cons ?_
  refine x_if ?_
  refine t_value ?_ (fun _ => rfl)
  refine ca_isinstance ?_ (by kernel_rfl!)
  refine lc ?_
  refine ev ?_
  refine lc ?_
  refine en_int ?_ (by kernel_rfl!)
  refine l_nil ?_
  refine c_isiI (b := false) (cl_Stream w) rfl (by kernel_rfl!) (by kernel_rfl!) (by kernel_rfl!) (by kernel_rfl!) (by kernel_rfl!) ?_
  refine tr_bool ?_
  refine ⟨fun h => (by cases h), fun _ => s_nil ?_⟩
  refine s_cons ?_
  refine x_if ?_
  refine t_value ?_ (fun _ => rfl)
  refine ca_isinstance ?_ (by kernel_rfl!)
  refine lc ?_
  refine ev ?_
  refine lc ?_
  refine en_Decimal ?_ (by kernel_rfl!)
  refine l_nil ?_
  refine c_isiI (b := false) (cl_Stream w) rfl (by kernel_rfl!) (by kernel_rfl!) (by kernel_rfl!) (by kernel_rfl!) (by kernel_rfl!) ?_
  refine tr_bool ?_
  refine ⟨fun h => (by cases h), fun _ => s_nil ?_⟩
  refine s_cons ?_
  refine x_if ?_
  refine t_value ?_ (fun _ => rfl)
  refine ca_isinstance ?_ (by kernel_rfl!)
  refine lc ?_
  refine ev ?_
  refine lc ?_
  refine en_Name ?_ (by kernel_rfl!)
  refine l_nil ?_
  refine c_isiI (b := false) (cl_Stream w) rfl (by kernel_rfl!) (by kernel_rfl!) (by kernel_rfl!) (by kernel_rfl!) (by kernel_rfl!) ?_
  refine tr_bool ?_
  refine ⟨fun h => (by cases h), fun _ => s_nil ?_⟩
  refine s_cons ?_
  refine x_if ?_
  refine t_value ?_ (fun _ => rfl)
  refine ca_isinstance ?_ (by kernel_rfl!)
  refine lc ?_
  refine ev ?_
  refine lc ?_
  refine en_String ?_ (by kernel_rfl!)
  refine l_nil ?_
  refine c_isiI (b := false) (cl_Stream w) rfl (by kernel_rfl!) (by kernel_rfl!) (by kernel_rfl!) (by kernel_rfl!) (by kernel_rfl!) ?_
  refine tr_bool ?_
  refine ⟨fun h => (by cases h), fun _ => s_nil ?_⟩
  refine s_cons ?_
  refine x_if ?_
  refine t_value ?_ (fun _ => rfl)
  refine ca_isinstance ?_ (by kernel_rfl!)
  refine lc ?_
  refine ev ?_
  refine lc ?_
  refine en_list ?_ (by kernel_rfl!)
  refine l_nil ?_
  refine c_isiI (b := false) (cl_Stream w) rfl (by kernel_rfl!) (by kernel_rfl!) (by kernel_rfl!) (by kernel_rfl!) (by kernel_rfl!) ?_
  refine tr_bool ?_
  refine ⟨fun h => (by cases h), fun _ => s_nil ?_⟩
  refine s_cons ?_
  refine x_if ?_
  refine t_value ?_ (fun _ => rfl)
  refine ca_isinstance ?_ (by kernel_rfl!)
  refine lc ?_
  refine ev ?_
  refine lc ?_
  refine en_dict ?_ (by kernel_rfl!)
  refine l_nil ?_
  refine c_isiI (b := false) (cl_Stream w) rfl (by kernel_rfl!) (by kernel_rfl!) (by kernel_rfl!) (by kernel_rfl!) (by kernel_rfl!) ?_
  refine tr_bool ?_
  refine ⟨fun h => (by cases h), fun _ => s_nil ?_⟩
  refine s_cons ?_
  refine x_if ?_
  refine t_value ?_ (fun _ => rfl)
  refine ca_isinstance ?_ (by kernel_rfl!)
  refine lc ?_
  refine ev ?_
  refine lc ?_
  refine en_Stream ?_ (by kernel_rfl!)
  refine l_nil ?_
  refine c_isiI (b := true) (cl_Stream w) rfl (by kernel_rfl!) (by kernel_rfl!) (by kernel_rfl!) (by kernel_rfl!) (by kernel_rfl!) ?_
  refine tr_bool ?_
  refine ⟨fun _ => ?_, fun h => absurd h (by decide)⟩
  exact s_one (x_ret (e_str h))
end
noncomputable abbrev nt (c : Nat) : PV := .int (c : Int)
noncomputable abbrev ch (c : Nat) : PV := .str ⟨#[c]⟩
theorem chars_at {l : List Nat} {i : Nat} {q : PV} (h : (l.map ch)[i]? = some q) : ∃ c, l[i]? = some c ∧ q = ch c := by
  rw [List.getElem?_map] at h
  cases e : l[i]? with
  | none => rw [e] at h; cases h
  | some c => rw [e] at h; exact ⟨c, rfl, by cases h; rfl⟩
section
variable {prog : Program} {w : World} {k : Nat} {σ τ : List MO} {Q : AV → List MO → Prop}
theorem name_octets_0 {l : List Nat} (hl : l.length ≤ 1000) (hg : ∀ c ∈ l, 33 ≤ c ∧ c ≤ 126 ∧ c ≠ 35 ∧ isReg (c : Int) = true) : COk prog w (GH w) (k + 8) (.ref 438) [.pv (sg l)] [] fun v _ => ∃ p, v = .pv p ∧ p = .bytes (bs (47 :: l)) := by
  refine cf (gok w) (fn_name_octets w) (xs := [⟨⟨[116,101,120,116]⟩⟩]) (hb1 fun _ _ _ _ _ _ _ _ => rfl) ?_
  refine s_cons ?_
  refine xa ?_
  refine e_listM (gok w) ?_
  refine lc ?_
  refine e_int ?_
  refine l_nil ?_
  refine ⟨_, rfl, by decide, ?_⟩
  refine s_for [(⟨⟨[102,111,117,110,100]⟩⟩, .loc 0), (⟨⟨[116,101,120,116]⟩⟩, .pv (sg l))] (fun i σ' => σ' = [.lst ((47 :: l.take i).map nt)]) ?_
  refine ev ?_
  refine ⟨_, _, rfl, src_str, Cov.self, rfl, fun i q σ' hi hJ => ?_, fun σ' hJ => ?_⟩
  · refine x1a2 (chars_at hi) fun c hc Z1 => ?_; obtain rfl := Z1
    subst hJ
    refine x0a4 (hg c (List.mem_of_getElem? hc)) fun g1 g2 g3 g4 => ?_
    refine ⟨_, g_name (by kernel_rfl!), ?_⟩
    refine s_cons ?_
    refine xa ?_
    refine ca_ord ?_ (by kernel_rfl!)
    refine lc ?_
    refine ev ?_
    refine l_nil ?_
    refine c_ord ?_
    refine s_cons ?_
    refine x_if ?_
    refine t_bool (a_or ?_)
    refine t_cmp ?_ rfl
    refine ev ?_
    refine e_int ?_
    refine o_eqI ?_
    refine tr_bool ?_
    refine ⟨fun h => absurd h (by simp; omega), fun _ => a_or ?_⟩
    refine t_cmp ?_ rfl
    refine ev ?_
    refine e_int ?_
    refine o_gt ?_
    refine tr_bool ?_
    refine ⟨fun h => absurd h (by simp; omega), fun _ => a_or_nil ⟨fun h => (by cases h), fun _ => s_nil ?_⟩⟩
    refine s_one ?_
    refine x_if ?_
    refine t_bool (a_or ?_)
    refine t_cmp ?_ rfl
    refine ev ?_
    refine e_int ?_
    refine o_lt ?_
    refine tr_bool ?_
    refine ⟨fun h => absurd h (by simp; omega), fun _ => a_or ?_⟩
    refine t_cmp ?_ rfl
    refine ev ?_
    refine e_int ?_
    refine o_gt ?_
    refine tr_bool ?_
    refine ⟨fun h => absurd h (by simp; omega), fun _ => a_or ?_⟩
    refine t_cmp ?_ rfl
    refine ev ?_
    refine en_NUMBER_SIGN ?_ (by kernel_rfl!)
    refine o_eqI ?_
    refine tr_bool ?_
    refine ⟨fun h => absurd h (by simp; omega), fun _ => a_or ?_⟩
    refine t_not ?_
    refine t_value ?_ (fun _ => rfl)
    refine ca_is_regular ?_ (by kernel_rfl!)
    refine lc ?_
    refine ev ?_
    refine l_nil ?_
    refine is_regular_ok ?_
    refine tr_bool ?_
    rw [show isReg _ = true from g4]
    refine ⟨fun h => (by cases h), fun _ => a_or_nil ⟨fun h => (by cases h), fun _ => ?_⟩⟩
    refine s_one ?_
    refine x_expr ?_ (fun _ => rfl)
    refine e_mbi (id := "list.append") rfl rfl (by decide) (fun _ => rfl) ?_
    refine ev ?_
    refine ⟨mb_list rfl PySem.F.slot_list_append PySem.F.type_list_append, ?_⟩
    refine lc ?_
    refine ev ?_
    refine l_nil ?_
    refine c_append rfl (by simp; omega) ?_
    refine ⟨Cov.drop rfl (Cov.drop rfl Cov.self), ?_⟩
    rw [take_snoc hc]
    show [MO.lst _] = _
    simp
  · rw [List.length_map, Array.length_toList, show (_ : Array Nat).size = l.length from rfl, List.take_length] at hJ
    subst hJ
    refine s_one ?_
    refine x_ret ?_
    refine ca_bytes ?_ (by kernel_rfl!)
    refine lc ?_
    refine ev ?_
    refine l_nil ?_
    refine c_bytes (ns := (47 :: l).map Int.ofNat) ?_ (oct_in (l := 47 :: l) ?_) (by simp; omega) ?_
    · show some _ = some _
      simp
    · intro c hc
      rcases List.mem_cons.mp hc with rfl | hc
      · decide
      · have := (hg c hc).2.1; omega
    · rw [byteArr_bs]; exact ⟨_, rfl, rfl⟩
theorem name_octets_ok {l : List Nat} (hl : l.length ≤ 1000) (hg : ∀ c ∈ l, 33 ≤ c ∧ c ≤ 126 ∧ c ≠ 35 ∧ isReg (c : Int) = true) (h : Q (.pv (.bytes (bs (47 :: l)))) σ) : COk prog w (GH w) (k + 8) (.ref 438) [.pv (sg l)] σ Q :=
  c_pure rfl (name_octets_0 hl hg) fun p hp => by subst hp; exact h
end
inductive Wo where
  | seven | nameA | null | tru | one
noncomputable def Wo.val : Wo → PV
  | .seven => .int 7
  | .nameA => vName
  | .null => .none
  | .tru => .bool true
  | .one => .int 1
noncomputable def Wo.kd : Wo → List Nat
  | .seven => [105,110,116]
  | .nameA => [110,97,109,101]
  | .null => [110,117,108,108]
  | .tru => [116,114,117,116,104]
  | .one => [105,110,116]
noncomputable def Wo.pc : Wo → List Nat
  | .seven => [55]
  | .nameA => [47,65]
  | .null => [110,117,108,108]
  | .tru => [116,114,117,101]
  | .one => [49]
section
variable {prog : Program} {w : World} {k : Nat} {σ τ : List MO} {Q : AV → List MO → Prop} {b : Bool}
theorem kind_wo {x : Wo} (h : Q (.pv (sg x.kd)) σ) : COk prog w (GH w) (k + 3) (.ref 307) [.pv x.val] σ Q := by
  cases x
  · exact kind_int h
  · exact kind_name h
  · exact kind_null h
  · exact kind_tru h
  · exact kind_int h
theorem plain_part_ok {x : Wo} (h : Q (.pv (.bytes (bs x.pc))) σ) : COk prog w (GH w) (k + 10) (.ref 485) [.pv (sg x.kd), .pv x.val, .pv (.bool b)] σ Q := by
  refine cf (gok w) (fn_plain_part w) (xs := [⟨⟨[107,105,110,100]⟩⟩, ⟨⟨[118,97,108,117,101]⟩⟩, ⟨⟨[105,115,95,108,101,97,115,116]⟩⟩]) (hb3 fun _ _ _ _ _ _ _ _ _ _ => rfl) ?_
  cases x
  · refine s_cons ?_
    refine x_if ?_
    refine t_cmp ?_ rfl
    refine ev ?_
    refine e_str ?_
    refine o_strEq ?_
    refine tr_bool ?_
    refine ⟨fun h => absurd h (by decide), fun _ => s_nil ?_⟩
    refine s_cons ?_
    refine x_if ?_
    refine t_cmp ?_ rfl
    refine ev ?_
    refine e_str ?_
    refine o_strEq ?_
    refine tr_bool ?_
    refine ⟨fun h => absurd h (by decide), fun _ => s_nil ?_⟩
    refine s_cons ?_
    refine x_if ?_
    refine t_cmp ?_ rfl
    refine ev ?_
    refine e_str ?_
    refine o_strEq ?_
    refine tr_bool ?_
    refine ⟨fun _ => ?_, fun h => absurd h (by decide)⟩
    refine s_one ?_
    refine x_ret ?_
    refine ca_whole_octets ?_ (by kernel_rfl!)
    refine lc ?_
    refine ev ?_
    refine l_nil ?_
    refine whole_octets_ok (by decide) (by decide) ?_
    exact h
  · refine s_cons ?_
    refine x_if ?_
    refine t_cmp ?_ rfl
    refine ev ?_
    refine e_str ?_
    refine o_strEq ?_
    refine tr_bool ?_
    refine ⟨fun h => absurd h (by decide), fun _ => s_nil ?_⟩
    refine s_cons ?_
    refine x_if ?_
    refine t_cmp ?_ rfl
    refine ev ?_
    refine e_str ?_
    refine o_strEq ?_
    refine tr_bool ?_
    refine ⟨fun h => absurd h (by decide), fun _ => s_nil ?_⟩
    refine s_cons ?_
    refine x_if ?_
    refine t_cmp ?_ rfl
    refine ev ?_
    refine e_str ?_
    refine o_strEq ?_
    refine tr_bool ?_
    refine ⟨fun h => absurd h (by decide), fun _ => s_nil ?_⟩
    refine s_cons ?_
    refine x_if ?_
    refine t_cmp ?_ rfl
    refine ev ?_
    refine e_str ?_
    refine o_strEq ?_
    refine tr_bool ?_
    refine ⟨fun h => absurd h (by decide), fun _ => s_nil ?_⟩
    refine s_cons ?_
    refine x_if ?_
    refine t_cmp ?_ rfl
    refine ev ?_
    refine e_str ?_
    refine o_strEq ?_
    refine tr_bool ?_
    refine ⟨fun _ => ?_, fun h => absurd h (by decide)⟩
    refine s_one ?_
    refine x_ret ?_
    refine ca_name_octets ?_ (by kernel_rfl!)
    refine lc ?_
    refine e_attr ?_ (fun _ => rfl)
    refine ev ?_
    refine at_ins (cl_Name w) rfl rfl rfl ?_ (by kernel_rfl!)
    refine l_nil ?_
    refine name_octets_ok (by decide) (by decide +kernel) ?_
    exact h
  · refine s_cons ?_
    refine x_if ?_
    refine t_cmp ?_ rfl
    refine ev ?_
    refine e_str ?_
    refine o_strEq ?_
    refine tr_bool ?_
    refine ⟨fun _ => ?_, fun h => absurd h (by decide)⟩
    refine s_one ?_
    refine x_ret ?_
    refine e_bytes ?_
    exact h
  · refine s_cons ?_
    refine x_if ?_
    refine t_cmp ?_ rfl
    refine ev ?_
    refine e_str ?_
    refine o_strEq ?_
    refine tr_bool ?_
    refine ⟨fun h => absurd h (by decide), fun _ => s_nil ?_⟩
    refine s_cons ?_
    refine x_if ?_
    refine t_cmp ?_ rfl
    refine ev ?_
    refine e_str ?_
    refine o_strEq ?_
    refine tr_bool ?_
    refine ⟨fun _ => ?_, fun h => absurd h (by decide)⟩
    refine s_one (x_ret (e_if (t_value (e_var rfl (tr_bool ⟨fun _ => e_bytes h, fun h => (by cases h)⟩) (by kernel_rfl!)) (fun _ => rfl))))
  · refine s_cons ?_
    refine x_if ?_
    refine t_cmp ?_ rfl
    refine ev ?_
    refine e_str ?_
    refine o_strEq ?_
    refine tr_bool ?_
    refine ⟨fun h => absurd h (by decide), fun _ => s_nil ?_⟩
    refine s_cons ?_
    refine x_if ?_
    refine t_cmp ?_ rfl
    refine ev ?_
    refine e_str ?_
    refine o_strEq ?_
    refine tr_bool ?_
    refine ⟨fun h => absurd h (by decide), fun _ => s_nil ?_⟩
    refine s_cons ?_
    refine x_if ?_
    refine t_cmp ?_ rfl
    refine ev ?_
    refine e_str ?_
    refine o_strEq ?_
    refine tr_bool ?_
    refine ⟨fun _ => ?_, fun h => absurd h (by decide)⟩
    refine s_one ?_
    refine x_ret ?_
    refine ca_whole_octets ?_ (by kernel_rfl!)
    refine lc ?_
    refine ev ?_
    refine l_nil ?_
    refine whole_octets_ok (by decide) (by decide) ?_
    exact h
theorem lay_parts_ok {x : Wo} {l : List PV} (hl : l.length ≤ 1000000) (h : Q (.pv .none) (.lst (l ++ [.bytes (bs x.pc)]) :: τ)) : COk prog w (GH w) (k + 12) (.ref 506) [.loc 0, .pv x.val, .pv (.bool b)] (.lst l :: τ) Q := by
  refine cf (gok w) (fn_lay_parts w) (xs := [⟨⟨[112,97,114,116,115]⟩⟩, ⟨⟨[118,97,108,117,101]⟩⟩, ⟨⟨[105,115,95,108,101,97,115,116]⟩⟩]) (hb3 fun _ _ _ _ _ _ _ _ _ _ => rfl) ?_
  refine s_cons ?_
  refine xa ?_
  refine ca_kind_of ?_ (by kernel_rfl!)
  refine lc ?_
  refine ev ?_
  refine l_nil ?_
  refine kind_wo ?_
  refine s_one ?_
  refine x_if ?_
  refine t_cmp ?_ rfl
  refine ev ?_
  refine e_str ?_
  refine o_strEq ?_
  refine tr_bool ?_
  refine ⟨fun h => absurd h (by cases x <;> decide), fun _ => ?_⟩
  refine s_one ?_
  refine x_if ?_
  refine t_cmp ?_ rfl
  refine ev ?_
  refine e_str ?_
  refine o_strEq ?_
  refine tr_bool ?_
  refine ⟨fun h => absurd h (by cases x <;> decide), fun _ => ?_⟩
  refine s_one ?_
  refine x_if ?_
  refine t_cmp ?_ rfl
  refine ev ?_
  refine e_str ?_
  refine o_strEq ?_
  refine tr_bool ?_
  refine ⟨fun h => absurd h (by cases x <;> decide), fun _ => ?_⟩
  refine s_one ?_
  refine x_expr ?_ (fun _ => rfl)
  refine e_mbi (id := "list.append") rfl rfl (by decide) (fun _ => rfl) ?_
  refine ev ?_
  refine ⟨mb_list rfl PySem.F.slot_list_append PySem.F.type_list_append, ?_⟩
  refine lc ?_
  refine ca_plain_part ?_ (by kernel_rfl!)
  refine lc ?_
  refine ev ?_
  refine lc ?_
  refine ev ?_
  refine lc ?_
  refine ev ?_
  refine l_nil ?_
  refine plain_part_ok ?_
  refine l_nil ?_
  refine c_append rfl hl ?_
  exact h
end
noncomputable abbrev bp (l : List Nat) : PV := .bytes (bs l)
noncomputable def jn (sep : List Nat) : List (List Nat) → List Nat
  | [] => []
  | p :: ps => p ++ (ps.map fun q => sep ++ q).flatten
theorem jn_nil : ∀ ps : List (List Nat), jn [] ps = ps.flatten
  | [] => rfl
  | p :: ps => by simp [jn]
open Builtin.Bytes in
theorem joined_flat (sep : List Nat) : ∀ ps : List (List Nat), joined (bs sep) (ps.map bs) = bs (jn sep ps)
  | [] => rfl
  | p :: ps => by
    unfold joined
    have gen : ∀ (ps : List (List Nat)) (i : Nat) (acc : List Nat), 0 < i → ((ps.map bs).zipIdx i).foldl (fun out (p, i) => (if i > 0 then out ++ bs sep else out) ++ p) (bs acc) = bs (acc ++ (ps.map fun q => sep ++ q).flatten) := by
      intro ps
      induction ps with
      | nil => intro i acc _; simp
      | cons q ps ih =>
        intro i acc hi
        rw [List.map_cons, List.zipIdx_cons, List.foldl_cons]
        show List.foldl _ ((if i > 0 then bs acc ++ bs sep else bs acc) ++ bs q) _ = _
        rw [if_pos hi, bs_append, bs_append, ih (i + 1) _ (by omega)]
        simp
    rw [List.map_cons, List.zipIdx_cons, List.foldl_cons]
    show List.foldl _ ((if (0 : Nat) > 0 then #[] ++ bs sep else #[]) ++ bs p) _ = _
    rw [if_neg (by omega)]
    have e : (#[] : Array UInt8) ++ bs p = bs p := by simp
    rw [e]
    exact gen ps 1 p (by omega)
theorem fold_size (c : Nat) : ∀ (ps : List (List Nat)) (init : Nat), (∀ p ∈ ps, p.length ≤ c) → (ps.map bs).foldl (fun x1 x2 => x1 + x2.size) init ≤ init + c * ps.length
  | [], init, _ => by simp
  | p :: ps, init, h => by
    rw [List.map_cons, List.foldl_cons]
    have := fold_size c ps (init + (bs p).size) (fun q hq => h q (List.mem_cons_of_mem _ hq))
    have h2 := h p (List.mem_cons_self ..)
    rw [bs_size] at this ⊢
    rw [List.length_cons, Nat.mul_add, Nat.mul_one]
    omega
theorem jn_size {c : Nat} {sep : List Nat} : ∀ (ps : List (List Nat)), (∀ p ∈ ps, p.length ≤ c) → (jn sep ps).length ≤ (sep.length + c) * ps.length
  | [], _ => by simp [jn]
  | p :: ps, h => by
    have gen : ∀ ps : List (List Nat), (∀ p ∈ ps, p.length ≤ c) → ((ps.map fun q => sep ++ q).flatten).length ≤ (sep.length + c) * ps.length := by
      intro ps
      induction ps with
      | nil => simp
      | cons q ps ih =>
        intro h
        have := ih fun x hx => h x (List.mem_cons_of_mem _ hx)
        have h2 := h q (List.mem_cons_self ..)
        simp only [List.map_cons, List.flatten_cons, List.length_append, List.length_cons, Nat.mul_add, Nat.mul_one] at this ⊢
        omega
    have h1 := gen ps fun x hx => h x (List.mem_cons_of_mem _ hx)
    have h2 := h p (List.mem_cons_self ..)
    simp only [jn, List.length_append, List.length_cons, Nat.mul_add, Nat.mul_one]
    omega
section
variable {prog : Program} {w : World} {k : Nat} {σ τ : List MO} {Q : AV → List MO → Prop} {b : Bool}
theorem c_joinB {a : AV} {ps : List (List Nat)} {sep : List Nat} (ha : asList σ a = some (ps.map bp)) (hs : sep.length ≤ 10) (hn : ps.length ≤ 20) (hl : ∀ p ∈ ps, p.length ≤ 20000) (h : Q (.pv (bp (jn sep ps))) σ) : COk prog w (GH w) k (.builtin "bytes.join") [.pv (bp sep), a] σ Q := by
  have h1 := jn_size (sep := sep) ps hl
  have h2 := fold_size 20000 ps (sep.length * (ps.length - 1)) hl
  have h3 : sep.length * (ps.length - 1) ≤ 10 * 20 := Nat.mul_le_mul hs (by omega)
  have h4 : (sep.length + 20000) * ps.length ≤ 20010 * 20 := Nat.mul_le_mul (by omega) hn
  refine c_join (ns := ps.map bs) (by rw [ha]; simp) ?_ ?_ (by rw [joined_flat]; exact h)
  · rw [bs_size, List.length_map]
    have : (List.map bs ps).toArray.foldl (fun x1 x2 => x1 + x2.size) (sep.length * (ps.length - 1)) = (ps.map bs).foldl (fun x1 x2 => x1 + x2.size) (sep.length * (ps.length - 1)) := by simp
    rw [this]
    omega
  · rw [joined_flat, bs_size]; omega
end
noncomputable def tog (a b : List Nat) : Bool := isReg (((b.map Nat.toUInt8).getD 0 0).toNat : Nat) && (isReg (((a.map Nat.toUInt8).getD ((a.map Nat.toUInt8).length - 1) 0).toNat : Nat) || ((bs a).toList == [47]))
noncomputable def gap (ps : List (List Nat)) (j : Nat) : List (List Nat) := (if tog (ps.getD j []) (ps.getD (j + 1) []) then [[32]] else []) ++ [ps.getD (j + 1) []]
noncomputable def joinL (ps : List (List Nat)) (n : Nat) : List (List Nat) := ps.getD 0 [] :: (List.range n).flatMap (gap ps)
theorem attributeBase_const {c : Const} {n : Nat} {p : Pos} {a : Str} {env : Env} {x : Sem Value} : attributeBase (.Constant c n p) a env x = x := rfl
theorem small_of {a b : Int} (h0 : 0 ≤ a ∧ a ≤ 1000) (h1 : 0 ≤ b ∧ b ≤ 1000) : Builtin.Range.small a b 1 = true := by
  unfold Builtin.Range.small
  rw [rangeSize_one]
  simp [Builtin.Range.rangeFitsLong]
  omega
theorem joinL_succ (ps : List (List Nat)) (n : Nat) : joinL ps (n + 1) = joinL ps n ++ gap ps n := by
  unfold joinL; rw [List.range_succ, List.flatMap_append]; simp
theorem at_map {α : Type} {f : α → PV} {l : List α} {i : Nat} {q : PV} (h : (l.map f)[i]? = some q) : ∃ c, l[i]? = some c ∧ q = f c := by
  rw [List.getElem?_map] at h
  cases e : l[i]? with
  | none => rw [e] at h; cases h
  | some c => rw [e] at h; exact ⟨c, rfl, by cases h; rfl⟩
theorem getD_mem {ps : List (List Nat)} {j : Nat} (hj : j < ps.length) : ps[j]? = some (ps.getD j []) ∧ ps.getD j [] ∈ ps := by
  have e : ps[j]? = some ps[j] := List.getElem?_eq_getElem hj
  have e2 : ps.getD j [] = ps[j] := by rw [List.getD_eq_getElem?_getD, e]; rfl
  rw [e2]
  exact ⟨e, List.getElem_mem hj⟩
theorem rng_at {a b : Int} {i : Nat} {q : PV} (h : (rngL a b)[i]? = some q) : q = .int (a + (i : Int)) ∧ i < (b - a).toNat := by
  unfold rngL at h
  rw [List.getElem?_map] at h
  cases e : (List.range (b - a).toNat)[i]? with
  | none => rw [e] at h; cases h
  | some c =>
    rw [e] at h
    obtain ⟨hi, rfl⟩ := List.getElem?_eq_some_iff.mp e
    rw [List.length_range] at hi
    cases h
    exact ⟨by simp, hi⟩
theorem rng_len (a b : Int) : (rngL a b).length = (b - a).toNat := by unfold rngL; simp
theorem joinL_len (ps : List (List Nat)) : ∀ n, (joinL ps n).length ≤ 2 * n + 1
  | 0 => by simp [joinL]
  | n + 1 => by
    have := joinL_len ps n
    have h2 : (gap ps n).length ≤ 2 := by unfold gap; split <;> simp
    rw [joinL_succ, List.length_append]; omega
theorem joinL_mem {ps : List (List Nat)} {c : Nat} (hc : 1 ≤ c) (hp : ∀ p ∈ ps, p.length ≤ c) : ∀ n, ∀ p ∈ joinL ps n, p.length ≤ c := by
  have g : ∀ j, (ps.getD j []).length ≤ c := fun j => by
    by_cases hj : j < ps.length
    · exact hp _ (getD_mem hj).2
    · rw [List.getD_eq_getElem?_getD, List.getElem?_eq_none (by omega)]; exact Nat.zero_le _
  intro n
  induction n with
  | zero => intro p h; simp [joinL] at h; rw [h]; exact g 0
  | succ n ih =>
    intro p h
    rw [joinL_succ] at h
    rcases List.mem_append.mp h with h | h
    · exact ih p h
    · unfold gap at h
      rcases List.mem_append.mp h with h | h
      · split at h
        · rw [List.mem_singleton.mp h]; exact hc
        · cases h
      · rw [List.mem_singleton.mp h]; exact g _
section
variable {prog : Program} {w : World} {k : Nat} {σ τ : List MO} {Q : AV → List MO → Prop} {b : Bool}
theorem sub_ps {ps : List (List Nat)} {i : Int} {j : Nat} (hj : j < ps.length) (hl : ps.length ≤ 1000000) (hi : i = (j : Int)) (h : Q (.pv (bp (ps.getD j []))) σ) : Sub2 prog w (GH w) k (.pv (.lst (ps.map bp))) (.pv (.int i)) σ Q := by
  subst hi
  refine sub_L rfl (by omega) ?_ (by simpa using hl) h
  rw [Int.toNat_natCast, List.getElem?_map, (getD_mem hj).1]; rfl
theorem run_together_ok {x y : List Nat} (hx : 0 < x.length ∧ x.length ≤ 1000) (hy : 0 < y.length ∧ y.length ≤ 1000) (h : Q (.pv (.bool (tog x y))) σ) : COk prog w (GH w) (k + 5) (.ref 513) [.pv (bp x), .pv (bp y)] σ Q := by
  refine cf (gok w) (fn_run_together w) (xs := [⟨⟨[98,101,102,111,114,101]⟩⟩, ⟨⟨[98,101,104,105,110,100]⟩⟩]) (hb2 fun _ _ _ _ _ _ _ _ _ => rfl) ?_
  refine s_one ?_
  refine x_ret ?_
  refine e_bool (b_and ?_)
  refine ca_is_regular ?_ (by kernel_rfl!)
  refine lc ?_
  refine e_sub ?_ (fun _ _ => rfl)
  refine ev ?_
  refine e_int ?_
  refine sub_B (by decide) (by simp; omega) (by simp; omega) ?_
  refine l_nil ?_
  refine is_regular_ok ?_
  refine tr_bool ⟨fun h1 => b_one (e_bool (b_or ?_)), fun h1 => ?_⟩
  · refine ca_is_regular ?_ (by kernel_rfl!)
    refine lc ?_
    refine e_sub ?_ (fun _ _ => rfl)
    refine ev ?_
    refine e_un ?_
    refine e_int ?_
    refine o_neg ?_
    refine sub_BL (by simp; omega) (by simp; omega) ?_
    refine l_nil ?_
    refine is_regular_ok ?_
    refine tr_bool ⟨fun h2 => b_one ?_, fun h2 => ?_⟩
    · refine e_cmp ?_ rfl
      refine ev ?_
      refine e_bytes ?_
      refine o_bytesEq ?_
      unfold tog at h
      have h1' : isReg (((y.map Nat.toUInt8).getD 0 0).toNat : Nat) = true := h1
      have h2' : isReg (((x.map Nat.toUInt8).getD ((x.map Nat.toUInt8).length - 1) 0).toNat : Nat) = false := h2
      rw [h1', h2', Bool.true_and, Bool.false_or] at h
      exact h
    · unfold tog at h
      have h1' : isReg (((y.map Nat.toUInt8).getD 0 0).toNat : Nat) = true := h1
      have h2' : isReg (((x.map Nat.toUInt8).getD ((x.map Nat.toUInt8).length - 1) 0).toNat : Nat) = true := h2
      rw [h1', h2', Bool.true_and, Bool.true_or] at h
      rw [h2]
      exact h
  · unfold tog at h
    have h1' : isReg (((y.map Nat.toUInt8).getD 0 0).toNat : Nat) = false := h1
    rw [h1', Bool.false_and] at h
    rw [h1]
    exact h
theorem joined_least {ps : List (List Nat)} (hp : 0 < ps.length) (hl : ps.length ≤ 10) (hb : ∀ p ∈ ps, 0 < p.length ∧ p.length ≤ 100) : COk prog w (GH w) (k + 8) (.ref 520) [.pv (.lst (ps.map bp)), .pv (.bool true)] [] fun v _ => ∃ p, v = .pv p ∧ p = bp (joinL ps (ps.length - 1)).flatten := by
  have gt : ∀ j, j < ps.length → 0 < (ps.getD j []).length ∧ (ps.getD j []).length ≤ 1000 := fun j hj => by
    have := hb _ (getD_mem hj).2; omega
  have jl := joinL_len ps
  have lm : (List.map bp ps).length = ps.length := List.length_map ..
  refine cf (gok w) (fn_joined_parts w) (xs := [⟨⟨[112,97,114,116,115]⟩⟩, ⟨⟨[105,115,95,108,101,97,115,116]⟩⟩]) (hb2 fun _ _ _ _ _ _ _ _ _ => rfl) ?_
  refine s_cons ?_
  refine x_if ?_
  refine t_not ?_
  refine t_value ?_ (fun _ => rfl)
  refine ev ?_
  refine tr_bool ?_
  refine ⟨fun h => (by cases h), fun _ => s_nil ?_⟩
  refine s_cons ?_
  refine xa ?_
  refine e_listM (gok w) ?_
  refine lc ?_
  refine e_sub ?_ (fun _ _ => rfl)
  refine ev ?_
  refine e_int ?_
  refine sub_ps hp (by omega) rfl ?_
  refine l_nil ?_
  refine ⟨_, rfl, Nat.le_of_ble_eq_true rfl, ?_⟩
  refine s_for [(⟨⟨[102,111,117,110,100]⟩⟩, .loc 0), (⟨⟨[112,97,114,116,115]⟩⟩, .pv (.lst (ps.map bp))), (⟨⟨[105,115,95,108,101,97,115,116]⟩⟩, .pv (.bool true))] (fun i σ' => σ' = [.lst ((joinL ps i).map bp)]) ?_
  refine ca_range ?_ (by kernel_rfl!)
  refine lc ?_
  refine e_int ?_
  refine lc ?_
  refine ca_len ?_ (by kernel_rfl!)
  refine lc ?_
  refine ev ?_
  refine l_nil ?_
  refine c_lenL rfl (by simp; omega) ?_
  refine l_nil ?_
  refine c_range2 ?_
  refine ⟨_, _, rfl, src_rng ?_, Cov.self, rfl, fun i q σ' hi hJ => ?_, fun σ' hJ => ?_⟩
  · rw [List.length_map]; exact small_of (by omega) (by omega)
  · subst hJ
    obtain ⟨rfl, hi⟩ := rng_at hi
    simp only [List.length_map] at hi
    have hi' : i + 1 < ps.length := by omega
    have jl' := jl i
    refine ⟨_, g_name (by kernel_rfl!), ?_⟩
    refine s_joinV [(⟨⟨[97,116]⟩⟩, .pv (.int (1 + (i : Int)))), (⟨⟨[102,111,117,110,100]⟩⟩, .loc 0), (⟨⟨[112,97,114,116,115]⟩⟩, .pv (.lst (ps.map bp))), (⟨⟨[105,115,95,108,101,97,115,116]⟩⟩, .pv (.bool true))] (fun σ' => σ' = [.lst ((joinL ps i ++ (if tog (ps.getD i []) (ps.getD (i + 1) []) then [[32]] else [])).map bp)]) ?_ ?_
    · refine x_if ?_
      refine t_value ?_ (fun _ => rfl)
      refine ca_run_together ?_ (by kernel_rfl!)
      refine lc ?_
      refine e_sub ?_ (fun _ _ => rfl)
      refine ev ?_
      refine e_bin ?_
      refine ev ?_
      refine e_int ?_
      refine o_sub ?_
      refine sub_ps (j := i) (by omega) (by omega) (by omega) ?_
      refine lc ?_
      refine e_sub ?_ (fun _ _ => rfl)
      refine ev ?_
      refine ev ?_
      refine sub_ps (j := i + 1) (by omega) (by omega) (by omega) ?_
      refine l_nil ?_
      refine run_together_ok (gt _ (by omega)) (gt _ (by omega)) ?_
      refine tr_bool ?_
      refine ⟨fun h => ?_, fun h => s_nil ⟨Cov.self, ?_⟩⟩
      · refine s_one ?_
        refine x_expr ?_ (fun _ => rfl)
        refine e_mbi (id := "list.append") rfl rfl (by decide) (fun _ => rfl) ?_
        refine ev ?_
        refine ⟨mb_list rfl PySem.F.slot_list_append PySem.F.type_list_append, ?_⟩
        refine lc ?_
        refine e_bytes ?_
        refine l_nil ?_
        refine c_append rfl (by simp; omega) ?_
        refine ⟨Cov.self, ?_⟩
        rw [h]
        show [MO.lst _] = _
        simp
        rfl
      · rw [h]; simp
    · rintro σ' rfl
      have h2 : (joinL ps i ++ (if tog (ps.getD i []) (ps.getD (i + 1) []) then [[32]] else [])).length ≤ 1000 := by
        rw [List.length_append]; split <;> simp <;> omega
      refine s_one ?_
      refine x_expr ?_ (fun _ => rfl)
      refine e_mbi (id := "list.append") rfl rfl (by decide) (fun _ => rfl) ?_
      refine ev ?_
      refine ⟨mb_list rfl PySem.F.slot_list_append PySem.F.type_list_append, ?_⟩
      refine lc ?_
      refine e_sub ?_ (fun _ _ => rfl)
      refine ev ?_
      refine ev ?_
      refine sub_ps (j := i + 1) (by omega) (by omega) (by omega) ?_
      refine l_nil ?_
      refine c_append rfl (by rw [List.length_map]; omega) ?_
      refine ⟨Cov.drop rfl Cov.self, ?_⟩
      show [MO.lst _] = _
      rw [joinL_succ]
      unfold gap
      simp
  · rw [rng_len, List.length_map] at hJ
    rw [show (((ps.length : Nat) : Int) - 1).toNat = ps.length - 1 by omega] at hJ
    subst hJ
    have jl' := jl (ps.length - 1)
    refine s_one ?_
    refine x_ret ?_
    refine e_mbi (id := "bytes.join") ?_ ?_ ?_ ?_ ?_
    exact rfl
    exact rfl
    exact Nat.le_of_ble_eq_true rfl
    exact fun _ => attributeBase_const
    refine e_bytes ?_
    refine ⟨mb_bytes slot_join type_join, ?_⟩
    refine lc ?_
    refine ev ?_
    refine l_nil ?_
    refine c_joinB (sep := []) (ps := joinL ps (ps.length - 1)) rfl (by decide) (by omega) (joinL_mem (by decide) (fun p h => by have := hb p h; omega) _) ?_
    rw [jn_nil]
    exact ⟨_, rfl, rfl⟩
theorem joined_spaced {ps : List (List Nat)} (hp : 0 < ps.length) (hl : ps.length ≤ 10) (hb : ∀ p ∈ ps, 0 < p.length ∧ p.length ≤ 100) (h : Q (.pv (bp (jn [32] ps))) σ) : COk prog w (GH w) (k + 8) (.ref 520) [.pv (.lst (ps.map bp)), .pv (.bool false)] σ Q := by
  refine cf (gok w) (fn_joined_parts w) (xs := [⟨⟨[112,97,114,116,115]⟩⟩, ⟨⟨[105,115,95,108,101,97,115,116]⟩⟩]) (hb2 fun _ _ _ _ _ _ _ _ _ => rfl) ?_
  refine s_cons ?_
  refine x_if ?_
  refine t_not ?_
  refine t_value ?_ (fun _ => rfl)
  refine ev ?_
  refine tr_bool ?_
  refine ⟨fun _ => ?_, fun h => (by cases h)⟩
  refine s_one ?_
  refine x_ret ?_
  refine e_mbi (id := "bytes.join") ?_ ?_ ?_ ?_ ?_
  exact rfl
  exact rfl
  exact Nat.le_of_ble_eq_true rfl
  exact fun _ => attributeBase_const
  refine e_bytes ?_
  refine ⟨mb_bytes slot_join type_join, ?_⟩
  refine lc ?_
  refine ev ?_
  refine l_nil ?_
  refine c_joinB (sep := [32]) (ps := ps) rfl (by decide) (by omega) (fun p h => by have := hb p h; omega) ?_
  exact h
end
noncomputable abbrev vHead : PV := .dctS [⟨⟨[76,101,110,103,116,104]⟩⟩] [.int 1]
section
variable {prog : Program} {w : World} {k : Nat} {σ τ : List MO} {Q : AV → List MO → Prop} {b : Bool}
theorem stream_head_0 : COk prog w (GH w) (k + 3) (.ref 527) [.pv vStrm] [] fun v _ => ∃ p, v = .pv p ∧ p = vHead := by
  refine c_frz (gok w) ?_
  refine cf (gok w) (fn_stream_head w) (xs := [⟨⟨[118,97,108,117,101]⟩⟩]) (hb1 fun _ _ _ _ _ _ _ _ => rfl) ?_
  refine s_cons ?_
  refine xa ?_
  refine e_dictS (gok w) ?_
  refine s_for [(⟨⟨[104,101,97,100]⟩⟩, .loc 0), (⟨⟨[118,97,108,117,101]⟩⟩, .pv vStrm)] (fun i σ' => σ' = [.dctS [] []]) ?_
  refine e_attr ?_ (fun _ => rfl)
  refine ev ?_
  refine at_ins (cl_Stream w) rfl rfl rfl ?_ (by kernel_rfl!)
  refine ⟨_, _, rfl, src_dctI rfl, Cov.self, rfl, fun i q σ' hi hJ => ?_, fun σ' hJ => ?_⟩
  · simp at hi
  · subst hJ
    refine s_cons ?_
    refine x_set ?_
    refine ca_len ?_ (by kernel_rfl!)
    refine lc ?_
    refine e_attr ?_ (fun _ => rfl)
    refine ev ?_
    refine at_ins (cl_Stream w) rfl rfl rfl ?_ (by kernel_rfl!)
    refine l_nil ?_
    refine c_lenB (Nat.le_of_ble_eq_true rfl) ?_
    refine ev ?_
    refine e_str ?_
    refine set_DS rfl (Nat.le_of_ble_eq_true rfl) ?_
    refine s_one ?_
    refine x_ret ?_
    refine ev ?_
    exact ⟨0, vHead, rfl, _, rfl, rfl⟩
theorem stream_head_ok (h : Q (.pv vHead) σ) : COk prog w (GH w) (k + 3) (.ref 527) [.pv vStrm] σ Q := c_pure rfl stream_head_0 fun p hp => by subst hp; exact h
theorem parts_dict (h : Q (.pv (.lst [])) σ) : COk prog w (GH w) (k + 5) (.ref 324) [.pv (.dctI [] [])] σ Q := by
  refine cf (gok w) (fn_parts_of w) (xs := [⟨⟨[118,97,108,117,101]⟩⟩]) (hb1 fun _ _ _ _ _ _ _ _ => rfl) ?_
  refine s_cons ?_
  refine xa ?_
  refine ca_kind_of ?_ (by kernel_rfl!)
  refine lc ?_
  refine ev ?_
  refine l_nil ?_
  refine kind_dict ?_
  refine s_cons ?_
  refine x_if ?_
  refine t_cmp ?_ rfl
  refine ev ?_
  refine e_str ?_
  refine o_strEq ?_
  refine tr_bool ?_
  refine ⟨fun h => absurd h (by decide), fun _ => s_nil ?_⟩
  refine s_cons ?_
  refine x_if ?_
  refine t_cmp ?_ rfl
  refine ev ?_
  refine e_str ?_
  refine o_strEq ?_
  refine tr_bool ?_
  refine ⟨fun _ => ?_, fun h => absurd h (by decide)⟩
  refine s_one ?_
  refine x_ret ?_
  refine e_comp (gok w) ?_ (by kernel_rfl!) (by kernel_rfl!)
  refine ca_sorted ?_ (by kernel_rfl!)
  refine lc ?_
  refine ev ?_
  refine l_nil ?_
  refine c_sortedD (gok w) rfl (Nat.le_of_ble_eq_true rfl) fun ns' hp _ => ?_
  obtain rfl := hp.eq_nil
  refine compM0 (f := id) src_lst (Nat.le_of_ble_eq_true rfl) (fun q hq => ?_) ?_
  · cases hq
  · exact h
theorem parts_strm (h : Q (.pv (.lst [])) σ) : COk prog w (GH w) (k + 7) (.ref 324) [.pv vStrm] σ Q := by
  refine cf (gok w) (fn_parts_of w) (xs := [⟨⟨[118,97,108,117,101]⟩⟩]) (hb1 fun _ _ _ _ _ _ _ _ => rfl) ?_
  refine s_cons ?_
  refine xa ?_
  refine ca_kind_of ?_ (by kernel_rfl!)
  refine lc ?_
  refine ev ?_
  refine l_nil ?_
  refine kind_strm ?_
  refine s_cons ?_
  refine x_if ?_
  refine t_cmp ?_ rfl
  refine ev ?_
  refine e_str ?_
  refine o_strEq ?_
  refine tr_bool ?_
  refine ⟨fun h => absurd h (by decide), fun _ => s_nil ?_⟩
  refine s_cons ?_
  refine x_if ?_
  refine t_cmp ?_ rfl
  refine ev ?_
  refine e_str ?_
  refine o_strEq ?_
  refine tr_bool ?_
  refine ⟨fun h => absurd h (by decide), fun _ => s_nil ?_⟩
  refine s_cons ?_
  refine x_if ?_
  refine t_cmp ?_ rfl
  refine ev ?_
  refine e_str ?_
  refine o_strEq ?_
  refine tr_bool ?_
  refine ⟨fun _ => ?_, fun h => absurd h (by decide)⟩
  refine s_one ?_
  refine x_ret ?_
  refine ca_parts_of ?_ (by kernel_rfl!)
  refine lc ?_
  refine e_attr ?_ (fun _ => rfl)
  refine ev ?_
  refine at_ins (cl_Stream w) rfl rfl rfl ?_ (by kernel_rfl!)
  refine l_nil ?_
  refine parts_dict ?_
  exact h
theorem depth_wo {x : Wo} : COk prog w (GH w) (k + 10) (.ref 331) [.pv x.val] [] fun v _ => ∃ p, v = .pv p ∧ p = .int 0 := by
  refine cf (gok w) (fn_depth_of w) (xs := [⟨⟨[118,97,108,117,101]⟩⟩]) (hb1 fun _ _ _ _ _ _ _ _ => rfl) ?_
  refine s_cons ?_
  refine xa ?_
  refine e_int ?_
  refine s_cons ?_
  refine xa ?_
  refine e_listM (gok w) ?_
  refine lc ?_
  refine e_tup ?_
  refine lc ?_
  refine ev ?_
  refine lc ?_
  refine e_int ?_
  refine l_nil ?_
  refine ⟨_, rfl, Nat.le_of_ble_eq_true rfl, ?_⟩
  refine l_nil ?_
  refine ⟨_, rfl, Nat.le_of_ble_eq_true rfl, ?_⟩
  refine s_join (fun V' σ' => V'.lookup ⟨⟨[100,101,101,112,101,115,116]⟩⟩ = some (.pv (.int 0))) ?_ ?_
  · refine x_while (fun n V' σ' => (n = 1 ∧ Cov V' [(⟨⟨[108,105,110,101]⟩⟩, .loc 0), (⟨⟨[100,101,101,112,101,115,116]⟩⟩, .pv (.int 0)), (⟨⟨[118,97,108,117,101]⟩⟩, .pv x.val)] ∧ σ' = [.lst [.tup [x.val, .int 0]]]) ∨ (n = 0 ∧ Cov V' [(⟨⟨[108,105,110,101]⟩⟩, .loc 0), (⟨⟨[100,101,101,112,101,115,116]⟩⟩, .pv (.int 0)), (⟨⟨[118,97,108,117,101]⟩⟩, .pv x.val)] ∧ σ' = [.lst []])) 1 (.inl ⟨rfl, Cov.self, rfl⟩) ?_
    rintro n V' σ' (⟨rfl, hc, rfl⟩ | ⟨rfl, hc, rfl⟩)
    · refine t_value ?_ (fun _ => rfl)
      refine e_var (hc _ _ rfl) ?_ (by kernel_rfl!)
      refine tr_list rfl (Nat.le_of_ble_eq_true rfl) ?_
      refine ⟨fun _ => SOk.cov ?_ hc, fun h => (by cases h)⟩
      refine s_cons ?_
      refine x_asgT ?_
      refine e_mbi (id := "list.pop") rfl rfl (by decide) (fun _ => rfl) ?_
      refine ev ?_
      refine ⟨mb_list rfl PySem.F.slot_list_pop PySem.F.type_list_pop, ?_⟩
      refine l_nil ?_
      refine c_pop (l := []) rfl (Nat.le_of_ble_eq_true rfl) ?_
      refine ⟨_, g_tup ⟨(fun _ _ e => by cases e), _, g_name (by kernel_rfl!), (fun _ _ e => by cases e), _, g_name (by kernel_rfl!), rfl⟩, ?_⟩
      refine s_one ?_
      refine x_if ?_
      refine t_cmp ?_ rfl
      refine ca_kind_of ?_ (by kernel_rfl!)
      refine lc ?_
      refine ev ?_
      refine l_nil ?_
      refine kind_wo ?_
      refine e_tup ?_
      refine lc ?_
      refine e_str ?_
      refine lc ?_
      refine e_str ?_
      refine lc ?_
      refine e_str ?_
      refine l_nil ?_
      refine ⟨_, rfl, Nat.le_of_ble_eq_true rfl, ?_⟩
      refine o_inTS (ns := [⟨⟨[97,114,114,97,121]⟩⟩, ⟨⟨[100,105,99,116]⟩⟩, ⟨⟨[115,116,114,101,97,109]⟩⟩]) rfl ?_
      refine tr_bool ?_
      refine ⟨fun h => absurd h (by cases x <;> decide), fun _ => s_nil ?_⟩
      exact ⟨0, by decide, .inr ⟨rfl, Cov.drop rfl (Cov.drop rfl Cov.self), rfl⟩⟩
    · refine t_value ?_ (fun _ => rfl)
      refine e_var (hc _ _ rfl) ?_ (by kernel_rfl!)
      refine tr_list rfl (Nat.le_of_ble_eq_true rfl) ?_
      refine ⟨fun h => (by cases h), fun _ => ?_⟩
      exact hc _ _ rfl
  · intro V' σ' hv
    refine s_one ?_
    refine x_ret ?_
    refine e_var hv ?_ (by kernel_rfl!)
    exact ⟨_, rfl, rfl⟩
theorem depth_strm : COk prog w (GH w) (k + 10) (.ref 331) [.pv vStrm] [] fun v _ => ∃ p, v = .pv p ∧ p = .int 1 := by
  refine cf (gok w) (fn_depth_of w) (xs := [⟨⟨[118,97,108,117,101]⟩⟩]) (hb1 fun _ _ _ _ _ _ _ _ => rfl) ?_
  refine s_cons ?_
  refine xa ?_
  refine e_int ?_
  refine s_cons ?_
  refine xa ?_
  refine e_listM (gok w) ?_
  refine lc ?_
  refine e_tup ?_
  refine lc ?_
  refine ev ?_
  refine lc ?_
  refine e_int ?_
  refine l_nil ?_
  refine ⟨_, rfl, Nat.le_of_ble_eq_true rfl, ?_⟩
  refine l_nil ?_
  refine ⟨_, rfl, Nat.le_of_ble_eq_true rfl, ?_⟩
  refine s_join (fun V' σ' => V'.lookup ⟨⟨[100,101,101,112,101,115,116]⟩⟩ = some (.pv (.int 1))) ?_ ?_
  · refine x_while (fun n V' σ' => (n = 1 ∧ Cov V' [(⟨⟨[108,105,110,101]⟩⟩, .loc 0), (⟨⟨[100,101,101,112,101,115,116]⟩⟩, .pv (.int 0)), (⟨⟨[118,97,108,117,101]⟩⟩, .pv vStrm)] ∧ σ' = [.lst [.tup [vStrm, .int 0]]]) ∨ (n = 0 ∧ Cov V' [(⟨⟨[108,105,110,101]⟩⟩, .loc 0), (⟨⟨[100,101,101,112,101,115,116]⟩⟩, .pv (.int 1))] ∧ σ' = [.lst []])) 1 (.inl ⟨rfl, Cov.self, rfl⟩) ?_
    rintro n V' σ' (⟨rfl, hc, rfl⟩ | ⟨rfl, hc, rfl⟩)
    · refine t_value ?_ (fun _ => rfl)
      refine e_var (hc _ _ rfl) ?_ (by kernel_rfl!)
      refine tr_list rfl (Nat.le_of_ble_eq_true rfl) ?_
      refine ⟨fun _ => SOk.cov ?_ hc, fun h => (by cases h)⟩
      refine s_cons ?_
      refine x_asgT ?_
      refine e_mbi (id := "list.pop") rfl rfl (by decide) (fun _ => rfl) ?_
      refine ev ?_
      refine ⟨mb_list rfl PySem.F.slot_list_pop PySem.F.type_list_pop, ?_⟩
      refine l_nil ?_
      refine c_pop (l := []) rfl (Nat.le_of_ble_eq_true rfl) ?_
      refine ⟨_, g_tup ⟨(fun _ _ e => by cases e), _, g_name (by kernel_rfl!), (fun _ _ e => by cases e), _, g_name (by kernel_rfl!), rfl⟩, ?_⟩
      refine s_one ?_
      refine x_if ?_
      refine t_cmp ?_ rfl
      refine ca_kind_of ?_ (by kernel_rfl!)
      refine lc ?_
      refine ev ?_
      refine l_nil ?_
      refine kind_strm ?_
      refine e_tup ?_
      refine lc ?_
      refine e_str ?_
      refine lc ?_
      refine e_str ?_
      refine lc ?_
      refine e_str ?_
      refine l_nil ?_
      refine ⟨_, rfl, Nat.le_of_ble_eq_true rfl, ?_⟩
      refine o_inTS (ns := [⟨⟨[97,114,114,97,121]⟩⟩, ⟨⟨[100,105,99,116]⟩⟩, ⟨⟨[115,116,114,101,97,109]⟩⟩]) rfl ?_
      refine tr_bool ?_
      refine ⟨fun _ => ?_, fun h => absurd h (by decide)⟩
      refine s_cons ?_
      refine xa ?_
      refine ca_max ?_ (by kernel_rfl!)
      refine lc ?_
      refine ev ?_
      refine lc ?_
      refine e_bin ?_
      refine ev ?_
      refine e_int ?_
      refine o_intadd ?_
      refine l_nil ?_
      refine c_max2 ?_
      refine s_for [(⟨⟨[108,105,110,101]⟩⟩, .loc 0), (⟨⟨[100,101,101,112,101,115,116]⟩⟩, .pv (.int 1))] (fun i σ' => σ' = [.lst []]) ?_
      refine ca_parts_of ?_ (by kernel_rfl!)
      refine lc ?_
      refine ev ?_
      refine l_nil ?_
      refine parts_strm ?_
      refine ⟨_, _, rfl, src_lst, ?_, rfl, fun i q σ' hi hJ => ?_, fun σ' hJ => ?_⟩
      · exact Cov.cons rfl (Cov.cons rfl Cov.nil)
      · simp at hi
      · subst hJ
        exact s_nil ⟨0, by decide, .inr ⟨rfl, Cov.self, rfl⟩⟩
    · refine t_value ?_ (fun _ => rfl)
      refine e_var (hc _ _ rfl) ?_ (by kernel_rfl!)
      refine tr_list rfl (Nat.le_of_ble_eq_true rfl) ?_
      refine ⟨fun h => (by cases h), fun _ => ?_⟩
      exact hc _ _ rfl
  · intro V' σ' hv
    refine s_one ?_
    refine x_ret ?_
    refine e_var hv ?_ (by kernel_rfl!)
    exact ⟨_, rfl, rfl⟩
end
noncomputable def stx (b : Bool) : List Nat := if b then [60,60,47,76,101,110,103,116,104,32,49,62,62,115,116,114,101,97,109,10,120,10,101,110,100,115,116,114,101,97,109] else [60,60,32,47,76,101,110,103,116,104,32,49,32,62,62,10,115,116,114,101,97,109,10,120,10,101,110,100,115,116,114,101,97,109]
noncomputable def lineOf (n g : Int) (t : List Nat) : List Nat := dg n ++ [32] ++ dg g ++ [32,111,98,106,10] ++ t ++ [10,101,110,100,111,98,106,10]
noncomputable abbrev hdr : List Nat := [37,80,68,70,45,49,46,55,10,37] ++ [226,227,207,211] ++ [10]
section
variable {prog : Program} {w : World} {k : Nat} {σ τ : List MO} {Q : AV → List MO → Prop} {b : Bool}
theorem lay_dict_ok {l : List PV} (hl : l.length ≤ 1000) (h : Q (.pv .none) (.lst (l ++ [bp [60,60], bp [47,76,101,110,103,116,104], bp [49], bp [62,62]]) :: τ)) : COk prog w (GH w) (k + 14) (.ref 499) [.loc 0, .pv vHead, .pv (.bool b)] (.lst l :: τ) Q := by
  refine cf (gok w) (fn_lay_dict w) (xs := [⟨⟨[112,97,114,116,115]⟩⟩, ⟨⟨[118,97,108,117,101]⟩⟩, ⟨⟨[105,115,95,108,101,97,115,116]⟩⟩]) (hb3 fun _ _ _ _ _ _ _ _ _ _ => rfl) ?_
  refine s_cons ?_
  refine x_expr ?_ (fun _ => rfl)
  refine e_mbi (id := "list.append") rfl rfl (by decide) (fun _ => rfl) ?_
  refine ev ?_
  refine ⟨mb_list rfl PySem.F.slot_list_append PySem.F.type_list_append, ?_⟩
  refine lc ?_
  refine e_bytes ?_
  refine l_nil ?_
  refine c_append rfl (by omega) ?_
  refine s_for [(⟨⟨[112,97,114,116,115]⟩⟩, .loc 0), (⟨⟨[118,97,108,117,101]⟩⟩, .pv vHead), (⟨⟨[105,115,95,108,101,97,115,116]⟩⟩, .pv (.bool b))] (fun i σ' => (i = 0 ∧ σ' = .lst (l ++ [bp [60,60]]) :: τ) ∨ (i = 1 ∧ σ' = .lst (l ++ [bp [60,60]] ++ [bp [47,76,101,110,103,116,104]] ++ [bp [49]]) :: τ)) ?_
  refine e_join (fun v σ' => σ' = .lst (l ++ [bp [60,60]]) :: τ ∧ ∃ p, v = .pv p ∧ Src prog w (GH w) p [.str ⟨⟨[76,101,110,103,116,104]⟩⟩]) ?_ ?_
  · refine e_if ?_
    refine t_value ?_ (fun _ => rfl)
    refine ev ?_
    refine tr_bool ⟨fun h => ?_, fun h => ?_⟩
    · refine ca_sorted ?_ (by kernel_rfl!)
      refine lc ?_
      refine ev ?_
      refine l_nil ?_
      refine c_sortedS1 (gok w) rfl ?_
      exact ⟨rfl, _, rfl, src_lst⟩
    · refine ev ?_
      exact ⟨rfl, _, rfl, src_dctS rfl⟩
  · rintro v σ' ⟨rfl, p, rfl, hs⟩
    refine ⟨_, _, rfl, hs, Cov.self, .inl ⟨rfl, rfl⟩, fun i q σ' hi hJ => ?_, fun σ' hJ => ?_⟩
    · rcases hJ with ⟨rfl, rfl⟩ | ⟨rfl, rfl⟩
      · cases hi
        refine ⟨_, g_name (by kernel_rfl!), ?_⟩
        refine s_one ?_
        refine x_if ?_
        refine t_cmp ?_ rfl
        refine e_sub ?_ (fun _ _ => rfl)
        refine ev ?_
        refine ev ?_
        refine sub_DS (gok w) rfl rfl ?_
        refine e_none ?_
        refine o_isNotNone ?_ (fun _ e => by cases e)
        refine tr_bool ?_
        refine ⟨fun _ => ?_, fun h => (by cases h)⟩
        refine s_cons ?_
        refine x_expr ?_ (fun _ => rfl)
        refine e_mbi (id := "list.append") rfl rfl (by decide) (fun _ => rfl) ?_
        refine ev ?_
        refine ⟨mb_list rfl PySem.F.slot_list_append PySem.F.type_list_append, ?_⟩
        refine lc ?_
        refine ca_name_octets ?_ (by kernel_rfl!)
        refine lc ?_
        refine ev ?_
        refine l_nil ?_
        refine name_octets_ok (by decide) (by decide +kernel) ?_
        refine l_nil ?_
        refine c_append rfl (by simp; omega) ?_
        refine s_one ?_
        refine x_expr ?_ (fun _ => rfl)
        refine ca_lay_parts ?_ (by kernel_rfl!)
        refine lc ?_
        refine ev ?_
        refine lc ?_
        refine e_sub ?_ (fun _ _ => rfl)
        refine ev ?_
        refine ev ?_
        refine sub_DS (gok w) rfl rfl ?_
        refine lc ?_
        refine ev ?_
        refine l_nil ?_
        refine lay_parts_ok (x := .one) (by simp; omega) ?_
        exact ⟨Cov.drop rfl Cov.self, .inr ⟨rfl, rfl⟩⟩
      · cases hi
    · rcases hJ with ⟨h, _⟩ | ⟨_, rfl⟩
      · cases h
      · refine s_one ?_
        refine x_expr ?_ (fun _ => rfl)
        refine e_mbi (id := "list.append") rfl rfl (by decide) (fun _ => rfl) ?_
        refine ev ?_
        refine ⟨mb_list rfl PySem.F.slot_list_append PySem.F.type_list_append, ?_⟩
        refine lc ?_
        refine e_bytes ?_
        refine l_nil ?_
        refine c_append rfl (by simp; omega) ?_
        have e : (l ++ [bp [60,60]] ++ [bp [47,76,101,110,103,116,104]] ++ [bp [49]]) ++ [bp [62,62]] = l ++ [bp [60,60], bp [47,76,101,110,103,116,104], bp [49], bp [62,62]] := by simp
        rw [← e] at h
        exact h
theorem joined_least_ok {ps : List (List Nat)} {r : List Nat} (hp : 0 < ps.length) (hl : ps.length ≤ 10) (hb : ∀ p ∈ ps, 0 < p.length ∧ p.length ≤ 100) (hr : (joinL ps (ps.length - 1)).flatten = r) (h : Q (.pv (bp r)) σ) : COk prog w (GH w) (k + 8) (.ref 520) [.pv (.lst (ps.map bp)), .pv (.bool true)] σ Q := c_pure rfl (joined_least hp hl hb) fun p e => by subst e; rw [hr]; exact h
theorem joined_one_ok {x : List Nat} (hx : 0 < x.length ∧ x.length ≤ 100) (h : Q (.pv (bp x)) σ) : COk prog w (GH w) (k + 8) (.ref 520) [.pv (.lst [bp x]), .pv (.bool b)] σ Q := by
  have hb : ∀ p ∈ [x], 0 < p.length ∧ p.length ≤ 100 := fun p hp => by rw [List.mem_singleton.mp hp]; exact hx
  cases b with
  | true => exact joined_least_ok (ps := [x]) (Nat.le_of_ble_eq_true rfl) (Nat.le_of_ble_eq_true rfl) hb (by simp [joinL]) h
  | false => exact joined_spaced (ps := [x]) (Nat.le_of_ble_eq_true rfl) (Nat.le_of_ble_eq_true rfl) hb (by simpa [jn] using h)
theorem joined_head_ok (h : Q (.pv (bp (if b then [60,60,47,76,101,110,103,116,104,32,49,62,62] else [60,60,32,47,76,101,110,103,116,104,32,49,32,62,62]))) σ) : COk prog w (GH w) (k + 8) (.ref 520) [.pv (.lst [bp [60,60], bp [47,76,101,110,103,116,104], bp [49], bp [62,62]]), .pv (.bool b)] σ Q := by
  cases b with
  | true => exact joined_least_ok (ps := [[60,60], [47,76,101,110,103,116,104], [49], [62,62]]) (by decide) (by decide) (by decide) (by decide +kernel) h
  | false => exact joined_spaced (ps := [[60,60], [47,76,101,110,103,116,104], [49], [62,62]]) (by decide) (by decide) (by decide) h
inductive Wr (b : Bool) : PV → List Nat → Prop where
  | wo (x : Wo) : Wr b x.val x.pc
  | strm : Wr b vStrm (stx b)
theorem o_bsAdd {x y : List Nat} (hl : x.length + y.length ≤ 1000000) (h : Q (.pv (bp (x ++ y))) σ) : Op2 prog w (GH w) k (binaryOp .Add) (.pv (bp x)) (.pv (bp y)) σ Q := o_bytesAdd (by rw [bs_size, bs_size]; omega) (by rw [bs_append]; exact h)
theorem depth_wo_ok {x : Wo} (h : Q (.pv (.int 0)) σ) : COk prog w (GH w) (k + 10) (.ref 331) [.pv x.val] σ Q := c_pure rfl depth_wo fun p e => by subst e; exact h
theorem depth_strm_ok (h : Q (.pv (.int 1)) σ) : COk prog w (GH w) (k + 10) (.ref 331) [.pv vStrm] σ Q := c_pure rfl depth_strm fun p e => by subst e; exact h
theorem write_object_wo {x : Wo} : COk prog w (GH w) (k + 18) (.ref 534) [.pv x.val, .pv (.bool b)] [] fun v _ => ∃ p, v = .pv p ∧ p = bp x.pc := by
  refine cf (gok w) (fn_write_object w) (xs := [⟨⟨[118,97,108,117,101]⟩⟩, ⟨⟨[105,115,95,108,101,97,115,116]⟩⟩]) (hb2 fun _ _ _ _ _ _ _ _ _ => rfl) ?_
  refine s_cons ?_
  refine x_if ?_
  refine t_cmp ?_ rfl
  refine ca_depth_of ?_ (by kernel_rfl!)
  refine lc ?_
  refine ev ?_
  refine l_nil ?_
  refine depth_wo_ok ?_
  refine en_MOST_NESTED ?_ (by kernel_rfl!)
  refine o_gt ?_
  refine tr_bool ?_
  refine ⟨fun h => absurd h (by decide), fun _ => s_nil ?_⟩
  refine s_cons ?_
  refine xa ?_
  refine e_listM (gok w) ?_
  refine l_nil ?_
  refine ⟨_, rfl, Nat.le_of_ble_eq_true rfl, ?_⟩
  refine s_cons ?_
  refine x_if ?_
  refine t_cmp ?_ rfl
  refine ca_kind_of ?_ (by kernel_rfl!)
  refine lc ?_
  refine ev ?_
  refine l_nil ?_
  refine kind_wo ?_
  refine e_str ?_
  refine o_ne (da := .str ⟨⟨x.kd⟩⟩) (db := .str ⟨⟨[115,116,114,101,97,109]⟩⟩) rfl rfl (by cases x <;> decide +kernel) (by decide +kernel) ?_
  refine tr_bool ?_
  refine ⟨fun _ => ?_, fun h => absurd h (by cases x <;> decide)⟩
  refine s_cons ?_
  refine x_expr ?_ (fun _ => rfl)
  refine ca_lay_parts ?_ (by kernel_rfl!)
  refine lc ?_
  refine ev ?_
  refine lc ?_
  refine ev ?_
  refine lc ?_
  refine ev ?_
  refine l_nil ?_
  refine lay_parts_ok (Nat.zero_le _) ?_
  refine s_frz (gok w) (n := 0) rfl ?_
  refine s_one ?_
  refine x_ret ?_
  refine ca_joined_parts ?_ (by kernel_rfl!)
  refine lc ?_
  refine ev ?_
  refine lc ?_
  refine ev ?_
  refine l_nil ?_
  refine joined_one_ok (by cases x <;> decide) ?_
  exact ⟨_, rfl, rfl⟩
theorem write_object_strm : COk prog w (GH w) (k + 18) (.ref 534) [.pv vStrm, .pv (.bool b)] [] fun v _ => ∃ p, v = .pv p ∧ p = bp (stx b) := by
  refine cf (gok w) (fn_write_object w) (xs := [⟨⟨[118,97,108,117,101]⟩⟩, ⟨⟨[105,115,95,108,101,97,115,116]⟩⟩]) (hb2 fun _ _ _ _ _ _ _ _ _ => rfl) ?_
  refine s_cons ?_
  refine x_if ?_
  refine t_cmp ?_ rfl
  refine ca_depth_of ?_ (by kernel_rfl!)
  refine lc ?_
  refine ev ?_
  refine l_nil ?_
  refine depth_strm_ok ?_
  refine en_MOST_NESTED ?_ (by kernel_rfl!)
  refine o_gt ?_
  refine tr_bool ?_
  refine ⟨fun h => absurd h (by decide), fun _ => s_nil ?_⟩
  refine s_cons ?_
  refine xa ?_
  refine e_listM (gok w) ?_
  refine l_nil ?_
  refine ⟨_, rfl, Nat.le_of_ble_eq_true rfl, ?_⟩
  refine s_cons ?_
  refine x_if ?_
  refine t_cmp ?_ rfl
  refine ca_kind_of ?_ (by kernel_rfl!)
  refine lc ?_
  refine ev ?_
  refine l_nil ?_
  refine kind_strm ?_
  refine e_str ?_
  refine o_ne (da := .str ⟨⟨[115,116,114,101,97,109]⟩⟩) (db := .str ⟨⟨[115,116,114,101,97,109]⟩⟩) rfl rfl (by decide +kernel) (by decide +kernel) ?_
  refine tr_bool ?_
  refine ⟨fun h => absurd h (by decide), fun _ => s_nil ?_⟩
  refine s_cons ?_
  refine x_expr ?_ (fun _ => rfl)
  refine ca_lay_dict ?_ (by kernel_rfl!)
  refine lc ?_
  refine ev ?_
  refine lc ?_
  refine ca_stream_head ?_ (by kernel_rfl!)
  refine lc ?_
  refine ev ?_
  refine l_nil ?_
  refine stream_head_ok ?_
  refine lc ?_
  refine ev ?_
  refine l_nil ?_
  refine lay_dict_ok (Nat.zero_le _) ?_
  refine s_frz (gok w) (n := 0) rfl ?_
  refine s_cons ?_
  refine xa ?_
  refine e_join (fun v σ' => σ' = [.dead] ∧ v = .pv (bp (if b then [115,116,114,101,97,109,10] else [10,115,116,114,101,97,109,10]))) ?_ ?_
  · refine e_if ?_
    refine t_value ?_ (fun _ => rfl)
    refine ev ?_
    refine tr_bool ?_
    refine ⟨fun h => ?_, fun h => ?_⟩
    · subst h
      exact e_bytes ⟨rfl, rfl⟩
    · subst h
      exact e_bytes ⟨rfl, rfl⟩
  · rintro v σ' ⟨rfl, rfl⟩
    refine s_one ?_
    refine x_ret ?_
    refine e_bin ?_
    refine e_bin ?_
    refine e_bin ?_
    refine ca_joined_parts ?_ (by kernel_rfl!)
    refine lc ?_
    refine ev ?_
    refine lc ?_
    refine ev ?_
    refine l_nil ?_
    refine joined_head_ok ?_
    refine ev ?_
    refine o_bsAdd (by cases b <;> decide) ?_
    refine ca_bytes ?_ (by kernel_rfl!)
    refine lc ?_
    refine e_attr ?_ (fun _ => rfl)
    refine ev ?_
    refine at_ins (cl_Stream w) rfl rfl rfl ?_ (by kernel_rfl!)
    refine l_nil ?_
    refine c_bytesB ?_
    refine o_bsAdd (by cases b <;> decide) ?_
    refine e_bytes ?_
    refine o_bsAdd (y := [10,101,110,100,115,116,114,101,97,109]) (by cases b <;> decide) ?_
    refine ⟨_, rfl, ?_⟩
    cases b <;> rfl
theorem write_object_ok {v : PV} {t : List Nat} (r : Wr b v t) (h : Q (.pv (bp t)) σ) : COk prog w (GH w) (k + 18) (.ref 534) [.pv v, .pv (.bool b)] σ Q := by
  cases r with
  | wo x => exact c_pure rfl write_object_wo fun p e => by subst e; exact h
  | strm => exact c_pure rfl write_object_strm fun p e => by subst e; exact h
theorem Wr.len {v : PV} {t : List Nat} (r : Wr b v t) : t.length ≤ 100 := by
  cases r with
  | wo x => cases x <;> decide
  | strm => cases b <;> decide
theorem write_indirect_ok {n g : Int} {v : PV} {t : List Nat} (hn : 0 ≤ n ∧ n < 40) (hg : 0 ≤ g ∧ g < 40) (r : Wr b v t) (h : Q (.pv (bp (lineOf n g t))) σ) : COk prog w (GH w) (k + 20) (.ref 541) [.pv (.int n), .pv (.int g), .pv v, .pv (.bool b)] σ Q := by
  have l1 := (dg_in hn.1 hn.2).2
  have l2 := (dg_in hg.1 hg.2).2
  have l3 := r.len
  refine cf (gok w) (fn_write_indirect w) (xs := [⟨⟨[110,117,109,98,101,114]⟩⟩, ⟨⟨[103,101,110,101,114,97,116,105,111,110]⟩⟩, ⟨⟨[118,97,108,117,101]⟩⟩, ⟨⟨[105,115,95,108,101,97,115,116]⟩⟩]) (hb4 fun _ _ _ _ _ _ _ _ _ _ _ => rfl) ?_
  refine s_cons ?_
  refine x_if ?_
  refine t_bool (a_or ?_)
  refine t_cmp ?_ rfl
  refine ev ?_
  refine e_int ?_
  refine o_lt ?_
  refine tr_bool ?_
  refine ⟨fun h => absurd h (by simp; omega), fun _ => a_or ?_⟩
  refine t_cmp ?_ rfl
  refine ev ?_
  refine e_int ?_
  refine o_lt ?_
  refine tr_bool ?_
  refine ⟨fun h => absurd h (by simp; omega), fun _ => a_or_nil ⟨fun h => (by cases h), fun _ => s_nil ?_⟩⟩
  refine s_cons ?_
  refine xa ?_
  refine e_bin ?_
  refine e_bin ?_
  refine e_bin ?_
  refine ca_whole_octets ?_ (by kernel_rfl!)
  refine lc ?_
  refine ev ?_
  refine l_nil ?_
  refine whole_octets_ok hn.1 hn.2 ?_
  refine e_bytes ?_
  refine o_bsAdd (y := [32]) (by simp; omega) ?_
  refine ca_whole_octets ?_ (by kernel_rfl!)
  refine lc ?_
  refine ev ?_
  refine l_nil ?_
  refine whole_octets_ok hg.1 hg.2 ?_
  refine o_bsAdd (by simp; omega) ?_
  refine e_bytes ?_
  refine o_bsAdd (y := [32,111,98,106,10]) (by simp; omega) ?_
  refine s_one ?_
  refine x_ret ?_
  refine e_bin ?_
  refine e_bin ?_
  refine ev ?_
  refine ca_write_object ?_ (by kernel_rfl!)
  refine lc ?_
  refine ev ?_
  refine lc ?_
  refine ev ?_
  refine l_nil ?_
  refine write_object_ok r ?_
  refine o_bsAdd (by simp; omega) ?_
  refine e_bytes ?_
  refine o_bsAdd (y := [10,101,110,100,111,98,106,10]) (by simp; omega) ?_
  exact h
theorem file_header_ok (h : Q (.pv (bp hdr)) σ) : COk prog w (GH w) (k + 3) (.ref 549) [] σ Q := by
  refine c_fn (gok w) (fn_file_header w) (xs := []) rfl ?hb (by decide +kernel) (by kernel_rfl!) ?body (by kernel_rfl!) (by kernel_rfl!) (by kernel_rfl!)
  case hb => exact fun _ _ _ _ _ _ _ => nl0 rfl
  case body =>
  refine s_one ?_
  refine x_ret ?_
  refine e_bin ?_
  refine e_bin ?_
  refine e_bytes ?_
  refine ca_bytes ?_ (by kernel_rfl!)
  refine lc ?_
  refine e_list ?_
  refine lc ?_
  refine e_int ?_
  refine lc ?_
  refine e_int ?_
  refine lc ?_
  refine e_int ?_
  refine lc ?_
  refine e_int ?_
  refine l_nil ?_
  refine ⟨_, rfl, Nat.le_of_ble_eq_true rfl, ?_⟩
  refine l_nil ?_
  refine c_bytes (ns := [226,227,207,211]) rfl (by decide) (by decide) ?_
  refine o_bsAdd (x := [37,80,68,70,45,49,46,55,10,37]) (y := [226,227,207,211]) (by decide) ?_
  refine e_bytes ?_
  refine o_bsAdd (y := [10]) (by decide) ?_
  exact h
end
noncomputable abbrev ent (way : List Nat) (one two : Int) : PV := .ins 45 [⟨⟨[119,97,121]⟩⟩, ⟨⟨[111,110,101]⟩⟩, ⟨⟨[116,119,111]⟩⟩] [sg way, .int one, .int two]
section
variable {prog : Program} {w : World} {k : Nat} {σ τ : List MO} {Q : AV → List MO → Prop} {b : Bool}
theorem Entry_ok {way : List Nat} {one two : Int} (h : Q (.pv (ent way one two)) σ) : COk prog w (GH w) (k + 6) (.ref 45) [.pv (sg way), .pv (.int one), .pv (.int two)] σ Q := by
  refine c_pure rfl (R := fun p => p = ent way one two) (c_frzI (c_make (gok w) (cl_Entry w) (fI := 35) (by kernel_rfl!) (by kernel_rfl!) (CdOk.mono (cd_fnB (gok w) (fn_Entry___init__ w) (xs := [⟨⟨[115,101,108,102]⟩⟩, ⟨⟨[119,97,121]⟩⟩, ⟨⟨[111,110,101]⟩⟩, ⟨⟨[116,119,111]⟩⟩]) (bs := [.loc 1, .pv (sg way), .pv (.int one), .pv (.int two)]) (Q := fun v σ' => v = .pv .none ∧ σ' = [.ns [⟨⟨[119,97,121]⟩⟩, ⟨⟨[111,110,101]⟩⟩, ⟨⟨[116,119,111]⟩⟩] [.pv (sg way), .pv (.int one), .pv (.int two)], .ins 45 0]) rfl (fun qual kV doc pm an cdv ct => Binds.plain rfl fun us hus => ?hb) (by decide +kernel) (by kernel_rfl!) (by decide +kernel) ?body (by kernel_rfl!) (by kernel_rfl!) (by kernel_rfl!)) ?fin)).co) fun p e => by subst e; exact h
  case hb =>
    revert us
    exact nl4 fun _ _ _ _ => rfl
  case fin =>
    rintro v σ' ⟨rfl, rfl⟩
    exact ⟨rfl, 1, _, _, _, _, _, rfl, rfl, rfl, rfl, _, rfl, rfl⟩
  case body =>
    refine s_cons ?_
    refine x_setA ?_
    refine ev ?_
    refine ev ?_
    refine as_own (cl_Entry w) rfl rfl (by decide +kernel) (by decide) ?_ (by kernel_rfl!)
    refine s_cons ?_
    refine x_setA ?_
    refine ev ?_
    refine ev ?_
    refine as_own (cl_Entry w) rfl rfl (by decide +kernel) (by decide) ?_ (by kernel_rfl!)
    refine s_one ?_
    refine x_setA ?_
    refine ev ?_
    refine ev ?_
    refine as_own (cl_Entry w) rfl rfl (by decide +kernel) (by decide) ?_ (by kernel_rfl!)
    exact ⟨rfl, rfl⟩
theorem Stream_ok  (h : Q (.pv (vStrm)) σ) : COk prog w (GH w) (k + 6) (.ref 268) [.pv (.dctI [] []), .pv (bp [120])] σ Q := by
  refine c_pure rfl (R := fun p => p = vStrm) (c_frzI (c_make (gok w) (cl_Stream w) (fI := 265) (by kernel_rfl!) (by kernel_rfl!) (CdOk.mono (cd_fnB (gok w) (fn_Stream___init__ w) (xs := [⟨⟨[115,101,108,102]⟩⟩, ⟨⟨[104,101,97,100]⟩⟩, ⟨⟨[111,99,116,101,116,115]⟩⟩]) (bs := [.loc 1, .pv (.dctI [] []), .pv (bp [120])]) (Q := fun v σ' => v = .pv .none ∧ σ' = [.ns [⟨⟨[104,101,97,100]⟩⟩, ⟨⟨[111,99,116,101,116,115]⟩⟩] [.pv (.dctI [] []), .pv (bp [120])], .ins 268 0]) rfl (fun qual kV doc pm an cdv ct => Binds.plain rfl fun us hus => ?hb) (by decide +kernel) (by kernel_rfl!) (by decide +kernel) ?body (by kernel_rfl!) (by kernel_rfl!) (by kernel_rfl!)) ?fin)).co) fun p e => by subst e; exact h
  case hb =>
    revert us
    exact nl3 fun _ _ _ => rfl
  case fin =>
    rintro v σ' ⟨rfl, rfl⟩
    exact ⟨rfl, 1, _, _, _, _, _, rfl, rfl, rfl, rfl, _, rfl, rfl⟩
  case body =>
    refine s_cons ?_
    refine x_setA ?_
    refine ev ?_
    refine ev ?_
    refine as_own (cl_Stream w) rfl rfl (by decide +kernel) (by decide) ?_ (by kernel_rfl!)
    refine s_one ?_
    refine x_setA ?_
    refine ev ?_
    refine ev ?_
    refine as_own (cl_Stream w) rfl rfl (by decide +kernel) (by decide) ?_ (by kernel_rfl!)
    exact ⟨rfl, rfl⟩
theorem Name_ok  (h : Q (.pv (vName)) σ) : COk prog w (GH w) (k + 6) (.ref 225) [.pv (sg [65])] σ Q := by
  refine c_pure rfl (R := fun p => p = vName) (c_frzI (c_make (gok w) (cl_Name w) (fI := 222) (by kernel_rfl!) (by kernel_rfl!) (CdOk.mono (cd_fnB (gok w) (fn_Name___init__ w) (xs := [⟨⟨[115,101,108,102]⟩⟩, ⟨⟨[116,101,120,116]⟩⟩]) (bs := [.loc 1, .pv (sg [65])]) (Q := fun v σ' => v = .pv .none ∧ σ' = [.ns [⟨⟨[116,101,120,116]⟩⟩] [.pv (sg [65])], .ins 225 0]) rfl (fun qual kV doc pm an cdv ct => Binds.plain rfl fun us hus => ?hb) (by decide +kernel) (by kernel_rfl!) (by decide +kernel) ?body (by kernel_rfl!) (by kernel_rfl!) (by kernel_rfl!)) ?fin)).co) fun p e => by subst e; exact h
  case hb =>
    revert us
    exact nl2 fun _ _ => rfl
  case fin =>
    rintro v σ' ⟨rfl, rfl⟩
    exact ⟨rfl, 1, _, _, _, _, _, rfl, rfl, rfl, rfl, _, rfl, rfl⟩
  case body =>
    refine s_one ?_
    refine x_setA ?_
    refine ev ?_
    refine ev ?_
    refine as_own (cl_Name w) rfl rfl (by decide +kernel) (by decide) ?_ (by kernel_rfl!)
    exact ⟨rfl, rfl⟩
end
noncomputable abbrev dO (D : List (Int × PV)) : MO := .dctI (D.map (·.1)) (D.map (·.2))
noncomputable abbrev dP (D : List (Int × PV)) : PV := .dctI (D.map (·.1)) (D.map (·.2))
theorem vAt_lookup {x : Int} : ∀ D : List (Int × PV), vAt (D.map (·.1)) (D.map (·.2)) x = D.lookup x
  | [] => rfl
  | (k, v) :: D => by
    rw [List.map_cons, List.map_cons, vAt, List.lookup_cons]
    by_cases q : k = x
    · subst q; simp
    · rw [if_neg q, vAt_lookup D, beq_eq_false_iff_ne.mpr (Ne.symm q)]
theorem putK_fresh {ks : List Int} {x : Int} (h : x ∉ ks) : putK ks x = ks ++ [x] := by unfold putK; rw [if_neg h]
theorem putV_fresh {x : Int} {p : PV} : ∀ D : List (Int × PV), x ∉ D.map (·.1) → putV (D.map (·.1)) (D.map (·.2)) x p = D.map (·.2) ++ [p]
  | [], _ => rfl
  | (k, v) :: D, h => by
    rw [List.map_cons, List.mem_cons, not_or] at h
    rw [List.map_cons, List.map_cons, putV_ne (Ne.symm h.1), putV_fresh D h.2]; rfl
theorem lookup_of_mem {D : List (Int × PV)} (nd : (D.map (·.1)).Nodup) {x : Int} {p : PV} (h : (x, p) ∈ D) : D.lookup x = some p := by
  induction D with
  | nil => cases h
  | cons d D ih =>
    obtain ⟨k, v⟩ := d
    rw [List.map_cons, List.nodup_cons] at nd
    rw [List.lookup_cons]
    rcases List.mem_cons.mp h with e | e
    · cases e; simp
    · have : x ≠ k := fun z => nd.1 (z ▸ List.mem_map.mpr ⟨_, e, rfl⟩)
      rw [beq_eq_false_iff_ne.mpr this]
      exact ih nd.2 e
theorem getD_int {l : List Int} {j : Nat} (hj : j < l.length) : l[j]? = some (l.getD j 0) ∧ l.getD j 0 ∈ l := by
  have e : l[j]? = some l[j] := List.getElem?_eq_getElem hj
  have e2 : l.getD j 0 = l[j] := by rw [List.getD_eq_getElem?_getD, e]; rfl
  rw [e2]
  exact ⟨e, List.getElem_mem hj⟩
theorem perm_sorted : ∀ {l m : List Int}, l.Perm m → l.Pairwise (· ≤ ·) → m.Pairwise (· ≤ ·) → l = m
  | [], m, p, _, _ => by rw [List.nil_perm.mp p]
  | x :: l, m, p, hl, hm => by
    cases m with
    | nil => exact absurd p.length_eq (by simp)
    | cons y m =>
      have h1 := List.pairwise_cons.mp hl
      have h2 := List.pairwise_cons.mp hm
      have e : x = y := by
        have a : x ∈ y :: m := p.subset (List.mem_cons_self ..)
        have b : y ∈ x :: l := p.symm.subset (List.mem_cons_self ..)
        rcases List.mem_cons.mp a with a | a
        · exact a
        · rcases List.mem_cons.mp b with b | b
          · exact b.symm
          · have := h1.1 _ b; have := h2.1 _ a; omega
      subst e
      rw [perm_sorted (List.perm_cons x |>.mp p) h1.2 h2.2]
noncomputable def seatL (f s : Int) (g : List Int) : List (Int × PV) := g.zipIdx.map fun x => (x.1, ent [112,97,99,107,101,100] (f + s) (x.2 : Int))
noncomputable def packFrom (f : Int) : Int → List (List Int) → List (Int × PV)
  | _, [] => []
  | s, g :: gs => seatL f s g ++ packFrom f (s + 1) gs
noncomputable abbrev packL (f : Int) (gs : List (List Int)) : List (Int × PV) := packFrom f 0 gs
theorem seat_keys (f s : Int) (g : List Int) : (seatL f s g).map (·.1) = g := by
  unfold seatL
  rw [List.map_map]
  have : ((fun x : Int × PV => x.1) ∘ fun x : Int × Nat => (x.1, ent [112,97,99,107,101,100] (f + s) (x.2 : Int))) = Prod.fst := rfl
  rw [this, List.zipIdx_map_fst]
theorem pack_keys (f : Int) : ∀ (s : Int) (gs : List (List Int)), (packFrom f s gs).map (·.1) = gs.flatten
  | _, [] => rfl
  | s, g :: gs => by rw [packFrom, List.map_append, seat_keys, pack_keys f (s + 1) gs]; rfl
theorem packFrom_app (f : Int) : ∀ (s : Int) (gs hs : List (List Int)), packFrom f s (gs ++ hs) = packFrom f s gs ++ packFrom f (s + gs.length) hs
  | s, [], hs => by simp [packFrom]
  | s, g :: gs, hs => by
    rw [List.cons_append, packFrom, packFrom_app f (s + 1) gs hs, packFrom, List.append_assoc, List.length_cons]
    rw [show s + 1 + (gs.length : Int) = s + ((gs.length + 1 : Nat) : Int) by omega]
theorem flat_len {gs : List (List Int)} {c : Nat} (h : ∀ g ∈ gs, g.length ≤ c) : gs.flatten.length ≤ c * gs.length := by
  induction gs with
  | nil => simp
  | cons g gs ih =>
    have := ih fun x hx => h x (List.mem_cons_of_mem _ hx)
    have := h g (List.mem_cons_self ..)
    rw [List.flatten_cons, List.length_append, List.length_cons, Nat.mul_add, Nat.mul_one]
    omega
theorem seat_snoc {f : Int} {i : Nat} {g : List Int} {j : Nat} {x : Int} (h : g[j]? = some x) : seatL f i (g.take (j + 1)) = seatL f i (g.take j) ++ [(x, ent [112,97,99,107,101,100] (f + (0 + (i : Int))) (0 + (j : Int)))] := by
  obtain ⟨hj, _⟩ := List.getElem?_eq_some_iff.mp h
  unfold seatL
  rw [take_snoc h, List.zipIdx_append, List.map_append]
  simp only [List.zipIdx_cons, List.zipIdx_nil, List.map_cons, List.map_nil, List.length_take]
  rw [show 0 + min j g.length = j by omega, Int.zero_add, Int.zero_add]
section
variable {prog : Program} {w : World} {k : Nat} {σ τ : List MO} {Q : AV → List MO → Prop} {b : Bool}
theorem sub_its {a : AV} {l : List Int} {i : Int} {j : Nat} (ha : asList σ a = some (l.map .int)) (hj : j < l.length) (hl : l.length ≤ 1000000) (hi : i = (j : Int)) (h : Q (.pv (.int (l.getD j 0))) σ) : Sub2 prog w (GH w) k a (.pv (.int i)) σ Q := by
  subst hi
  refine sub_L ha (by omega) ?_ (by simpa using hl) h
  rw [Int.toNat_natCast, List.getElem?_map, (getD_int hj).1]; rfl
theorem set_fresh {n : Nat} {D : List (Int × PV)} {x : Int} {p : PV} {Q : List MO → Prop} (ha : σ[n]? = some (dO D)) (hx : x ∉ D.map (·.1)) (hl : D.length ≤ 1000000) (h : Q (σ.set n (dO (D ++ [(x, p)])))) : Set3 prog w (GH w) k (.loc n) (.pv (.int x)) (.pv p) σ Q := by
  refine set_D ha (by simpa using hl) ?_
  rw [putK_fresh hx, putV_fresh D hx]
  have e : dO (D ++ [(x, p)]) = .dctI (D.map (·.1) ++ [x]) (D.map (·.2) ++ [p]) := by unfold dO; rw [List.map_append, List.map_append]; rfl
  rw [e] at h
  exact h
theorem sub_dct {a : AV} {D : List (Int × PV)} {x : Int} {p : PV} (ha : asDictI σ a = some (D.map (·.1), D.map (·.2))) (hp : D.lookup x = some p) (h : Q (.pv p) σ) : Sub2 prog w (GH w) k a (.pv (.int x)) σ Q := sub_D (gok w) ha (by rw [vAt_lookup]; exact hp) h
noncomputable abbrev gsP (gs : List (List Int)) : PV := .lst (gs.map fun g => .lst (g.map .int))
theorem packed_entries_0 {gs : List (List Int)} {f : Int} (h1 : gs.length ≤ 3) (h2 : ∀ g ∈ gs, g.length ≤ 10) (nd : gs.flatten.Nodup) : COk prog w (GH w) (k + 9) (.ref 587) [.pv (gsP gs), .pv (.int f)] [] fun v τ => ∃ j m, v = .loc j ∧ τ[j]? = some m ∧ locFree m = true ∧ m = dO (packL f gs) := by
  have lm : (gs.map fun g => PV.lst (g.map .int)).length = gs.length := List.length_map ..
  refine cf (gok w) (fn_packed_entries w) (xs := [⟨⟨[103,114,111,117,112,115]⟩⟩, ⟨⟨[102,105,114,115,116]⟩⟩]) (hb2 fun _ _ _ _ _ _ _ _ _ => rfl) ?_
  refine s_cons ?_
  refine xa ?_
  refine e_dictI (gok w) ?_
  refine s_for [(⟨⟨[101,110,116,114,105,101,115]⟩⟩, .loc 0), (⟨⟨[103,114,111,117,112,115]⟩⟩, .pv (gsP gs)), (⟨⟨[102,105,114,115,116]⟩⟩, .pv (.int f))] (fun i σ' => σ' = [dO (packL f (gs.take i))]) ?_
  refine ca_range ?_ (by kernel_rfl!)
  refine lc ?_
  refine ca_len ?_ (by kernel_rfl!)
  refine lc ?_
  refine ev ?_
  refine l_nil ?_
  refine c_lenL rfl (by simp; omega) ?_
  refine l_nil ?_
  refine c_range1 ?_
  refine ⟨_, _, rfl, src_rng ?_, Cov.self, rfl, fun i q σ' hi hJ => ?_, fun σ' hJ => ?_⟩
  · rw [List.length_map]; exact small_of (by omega) (by omega)
  · subst hJ
    obtain ⟨rfl, hi⟩ := rng_at hi
    simp only [List.length_map] at hi
    have hi' : i < gs.length := by omega
    obtain ⟨g, hg⟩ : ∃ g, gs[i]? = some g := ⟨gs[i], List.getElem?_eq_getElem hi'⟩
    have hgl := h2 g (List.mem_of_getElem? hg)
    have hgs : (gs.map fun g => PV.lst (g.map .int))[(0 + (i : Int)).toNat]? = some (.lst (g.map .int)) := by
      rw [show (0 + (i : Int)).toNat = i by omega, List.getElem?_map, hg]; rfl
    refine ⟨_, g_name (by kernel_rfl!), ?_⟩
    refine s_for [(⟨⟨[115,112,111,116]⟩⟩, .pv (.int (0 + (i : Int)))), (⟨⟨[101,110,116,114,105,101,115]⟩⟩, .loc 0), (⟨⟨[103,114,111,117,112,115]⟩⟩, .pv (gsP gs)), (⟨⟨[102,105,114,115,116]⟩⟩, .pv (.int f))] (fun j σ' => σ' = [dO (packL f (gs.take i) ++ seatL f i (g.take j))]) ?_
    refine ca_range ?_ (by kernel_rfl!)
    refine lc ?_
    refine ca_len ?_ (by kernel_rfl!)
    refine lc ?_
    refine e_sub ?_ (fun _ _ => rfl)
    refine ev ?_
    refine ev ?_
    refine sub_L rfl (by omega) hgs (by simp; omega) ?_
    refine l_nil ?_
    refine c_lenL rfl (by simp; omega) ?_
    refine l_nil ?_
    refine c_range1 ?_
    refine ⟨_, _, rfl, src_rng ?_, Cov.self, ?_, fun j q σ' hi hJ => ?_, fun σ' hJ => ?_⟩
    · rw [List.length_map]; exact small_of (by omega) (by omega)
    · simp [seatL]
    · subst hJ
      obtain ⟨rfl, hj⟩ := rng_at hi
      simp only [List.length_map] at hj
      have hj' : j < g.length := by omega
      refine ⟨_, g_name (by kernel_rfl!), ?_⟩
      have hk : (packL f (gs.take i) ++ seatL f i (g.take j)).map (·.1) = (gs.take i).flatten ++ g.take j := by
        rw [List.map_append, pack_keys, seat_keys]
      have hnd : ((gs.take i).flatten ++ g.take (j + 1)).Nodup := by
        have e : gs.flatten = (gs.take i).flatten ++ (g ++ (gs.drop (i + 1)).flatten) := by
          conv => lhs; rw [← List.take_append_drop i gs, List.drop_eq_getElem_cons hi']
          rw [List.flatten_append, List.flatten_cons, show gs[i] = g from (List.getElem?_eq_some_iff.mp hg).2]
        rw [e, ← List.append_assoc] at nd
        refine (List.nodup_append.mp nd).1.sublist ?_
        exact List.Sublist.append (List.Sublist.refl _) (List.take_sublist _ _)
      rw [take_snoc (getD_int hj').1, ← List.append_assoc] at hnd
      have hfr : g.getD j 0 ∉ (packL f (gs.take i) ++ seatL f i (g.take j)).map (·.1) := by
        rw [hk]
        intro hm
        exact (List.nodup_append.mp hnd).2.2 _ hm _ (List.mem_singleton.mpr rfl) rfl
      have hpl : (packL f (gs.take i) ++ seatL f i (g.take j)).length ≤ 1000 := by
        have e := congrArg List.length hk
        rw [List.length_map] at e
        rw [e, List.length_append]
        have a1 : (gs.take i).flatten.length ≤ 10 * (gs.take i).length := flat_len fun g hg => h2 g (List.mem_of_mem_take hg)
        rw [List.length_take] at a1
        rw [List.length_take]
        omega
      refine s_one ?_
      refine x_set ?_
      refine ca_Entry ?_ (by kernel_rfl!)
      refine lc ?_
      refine e_str ?_
      refine lc ?_
      refine e_bin ?_
      refine ev ?_
      refine ev ?_
      refine o_intadd ?_
      refine lc ?_
      refine ev ?_
      refine l_nil ?_
      refine Entry_ok ?_
      refine ev ?_
      refine e_sub ?_ (fun _ _ => rfl)
      refine e_sub ?_ (fun _ _ => rfl)
      refine ev ?_
      refine ev ?_
      refine sub_L rfl (by omega) hgs (by simp; omega) ?_
      refine ev ?_
      refine sub_its (j := j) rfl (by omega) (by omega) (by omega) ?_
      refine set_fresh rfl hfr (Nat.le_trans hpl (by decide)) ?_
      refine ⟨Cov.drop rfl Cov.self, ?_⟩
      show [dO _] = _
      rw [show seatL f i (g.take (j + 1)) = seatL f i (g.take j) ++ [(g.getD j 0, ent [112,97,99,107,101,100] (f + (0 + (i : Int))) (0 + (j : Int)))] from seat_snoc (getD_int hj').1, ← List.append_assoc]
    · simp only [rng_len, List.length_map] at hJ
      rw [show ((g.length : Int) - 0).toNat = g.length by omega, List.take_length] at hJ
      subst hJ
      refine s_nil ⟨Cov.drop rfl Cov.self, ?_⟩
      rw [take_snoc hg, packL, packL, packFrom_app]
      simp only [packFrom, List.append_nil, List.length_take]
      rw [show (0 : Int) + ((min i gs.length : Nat) : Int) = i by omega]
  · simp only [rng_len, List.length_map] at hJ
    rw [show ((gs.length : Int) - 0).toNat = gs.length by omega, List.take_length] at hJ
    subst hJ
    refine s_one ?_
    refine x_ret ?_
    refine ev ?_
    exact ⟨0, _, rfl, rfl, rfl, rfl⟩
end
structure Rw where
  n : Int
  g : Int
  t : List Nat
  v : PV
noncomputable abbrev row3 (r : Rw) : PV := .tup [.int r.n, .int r.g, r.v]
noncomputable def Rw.line (r : Rw) : List Nat := lineOf r.n r.g r.t
structure Rw.Ok (b : Bool) (r : Rw) : Prop where
  n : 0 ≤ r.n ∧ r.n < 40
  g : 0 ≤ r.g ∧ r.g < 40
  w : Wr b r.v r.t
theorem Rw.Ok.len {b : Bool} {r : Rw} (h : r.Ok b) : r.line.length ≤ 200 := by
  have l1 := (dg_in h.n.1 h.n.2).2
  have l2 := (dg_in h.g.1 h.g.2).2
  have l3 := h.w.len
  unfold Rw.line lineOf
  simp
  omega
noncomputable def offL : Int → List Rw → List (Int × PV)
  | _, [] => []
  | at', r :: R => (r.n, .int at') :: offL (at' + (r.line.length : Int)) R
noncomputable def sumL : List Rw → Int
  | [] => 0
  | r :: R => (r.line.length : Int) + sumL R
theorem sumL_app (R S : List Rw) : sumL (R ++ S) = sumL R + sumL S := by
  induction R with
  | nil => simp [sumL]
  | cons r R ih => simp only [List.cons_append, sumL, ih]; omega
theorem offL_app : ∀ (a : Int) (R S : List Rw), offL a (R ++ S) = offL a R ++ offL (a + sumL R) S
  | a, [], S => by simp [offL, sumL]
  | a, r :: R, S => by
    rw [List.cons_append, offL, offL_app, offL, sumL, List.cons_append, Int.add_assoc]
theorem off_keys : ∀ (a : Int) (R : List Rw), (offL a R).map (·.1) = R.map (·.n)
  | _, [] => rfl
  | a, r :: R => by rw [offL, List.map_cons, off_keys, List.map_cons]
noncomputable def usedL : Int → List Rw → List (Int × PV)
  | _, [] => []
  | a, r :: R => (r.n, ent [117,115,101,100] a r.g) :: usedL (a + (r.line.length : Int)) R
theorem usedL_app : ∀ (a : Int) (R S : List Rw), usedL a (R ++ S) = usedL a R ++ usedL (a + sumL R) S
  | a, [], S => by simp [usedL, sumL]
  | a, r :: R, S => by
    rw [List.cons_append, usedL, usedL_app, usedL, sumL, List.cons_append, Int.add_assoc]
theorem used_keys : ∀ (a : Int) (R : List Rw), (usedL a R).map (·.1) = R.map (·.n)
  | _, [] => rfl
  | a, r :: R => by rw [usedL, List.map_cons, used_keys, List.map_cons]
theorem fresh_at {R : List Rw} {i : Nat} {r : Rw} (nd : (R.map (·.n)).Nodup) (h : R[i]? = some r) : r.n ∉ (R.take i).map (·.n) := by
  intro hm
  have e := take_snoc h
  have nd' : ((R.take (i + 1)).map (·.n)).Nodup := nd.sublist ((List.take_sublist _ _).map _)
  rw [e, List.map_append] at nd'
  exact (List.nodup_append.mp nd').2.2 _ hm _ (List.mem_singleton.mpr rfl) rfl
noncomputable def freeE (l : List Int) (i : Nat) : Int × PV := (l.getD i 0, ent [102,114,101,101] (l.getD (i + 1) 0) (if i = 0 then 65535 else 0))
noncomputable def freeL (l : List Int) : List (Int × PV) := (List.range l.length).map (freeE l)
theorem off_at {a : Int} {R : List Rw} {i : Nat} {r : Rw} (nd : (R.map (·.n)).Nodup) (h : R[i]? = some r) : (offL a R).lookup r.n = some (.int (a + sumL (R.take i))) := by
  obtain ⟨hi, hr⟩ := List.getElem?_eq_some_iff.mp h
  refine lookup_of_mem (by rw [off_keys]; exact nd) ?_
  have e : R = R.take i ++ r :: R.drop (i + 1) := by
    conv => lhs; rw [← List.take_append_drop i R, List.drop_eq_getElem_cons hi, hr]
  have key : offL a R = offL a (R.take i) ++ offL (a + sumL (R.take i)) (r :: R.drop (i + 1)) := by rw [← offL_app, ← e]
  rw [key, offL]
  simp
section
variable {prog : Program} {w : World} {k : Nat} {σ τ : List MO} {Q : AV → List MO → Prop} {b : Bool}
theorem object_offsets_0 {R : List Rw} {a : Int} (hl : R.length ≤ 15) (hok : ∀ r ∈ R, r.Ok b) (nd : (R.map (·.n)).Nodup) : COk prog w (GH w) (k + 24) (.ref 568) [.pv (.lst (R.map row3)), .pv (.int a), .pv (.bool b)] [] fun v _ => ∃ p, v = .pv p ∧ p = .tup [bp (R.map Rw.line).flatten, dP (offL a R)] := by
  refine cf (gok w) (fn_object_offsets w) (xs := [⟨⟨[114,111,119,115]⟩⟩, ⟨⟨[98,101,103,105,110]⟩⟩, ⟨⟨[105,115,95,108,101,97,115,116]⟩⟩]) (hb3 fun _ _ _ _ _ _ _ _ _ _ => rfl) ?_
  refine s_cons ?_
  refine xa ?_
  refine e_listM (gok w) ?_
  refine l_nil ?_
  refine ⟨_, rfl, Nat.le_of_ble_eq_true rfl, ?_⟩
  refine s_cons ?_
  refine xa ?_
  refine e_dictI (gok w) ?_
  refine s_cons ?_
  refine xa ?_
  refine ev ?_
  refine s_joinV [(⟨⟨[111,102,102,115,101,116,115]⟩⟩, .loc 1), (⟨⟨[119,114,105,116,116,101,110]⟩⟩, .loc 0)] (fun σ' => σ' = [.lst ((R.map Rw.line).map bp), dO (offL a R)]) ?_ ?_
  · refine x_for ?_
    refine ev ?_
    refine ⟨_, _, rfl, src_lst, fun i V' σ' => Cov V' [(⟨⟨[97,116]⟩⟩, .pv (.int (a + sumL (R.take i)))), (⟨⟨[111,102,102,115,101,116,115]⟩⟩, .loc 1), (⟨⟨[119,114,105,116,116,101,110]⟩⟩, .loc 0), (⟨⟨[105,115,95,108,101,97,115,116]⟩⟩, .pv (.bool b))] ∧ σ' = [.lst (((R.take i).map Rw.line).map bp), dO (offL a (R.take i))], ⟨?_, rfl⟩, fun i q V' σ' hi hJ => ?_, fun V' σ' hJ => ?_⟩
    · simp only [List.take_zero, sumL, Int.add_zero]
      exact Cov.cons rfl (Cov.cons rfl (Cov.cons rfl (Cov.cons rfl Cov.nil)))
    · obtain ⟨hc, rfl⟩ := hJ
      refine x1a2 (at_map hi) fun r hr Z2 => ?_; obtain rfl := Z2
      have ok := hok r (List.mem_of_getElem? hr)
      have hll := ok.len
      have hfr : r.n ∉ (offL a (R.take i)).map (·.1) := by rw [off_keys]; exact fresh_at nd hr
      have hD : (offL a (R.take i)).length ≤ 1000000 := by
        have e := congrArg List.length (off_keys a (R.take i))
        rw [List.length_map, List.length_map, List.length_take] at e
        omega
      have hW : (((R.take i).map Rw.line).map bp).length ≤ 1000000 := by
        rw [List.length_map, List.length_map, List.length_take]; omega
      refine ⟨_, g_tup ⟨(fun _ _ e => by cases e), _, g_name (by kernel_rfl!), (fun _ _ e => by cases e), _, g_name (by kernel_rfl!), (fun _ _ e => by cases e), _, g_name (by kernel_rfl!), rfl⟩, ?_⟩
      refine SOk.cov (V' := [(⟨⟨[118,97,108,117,101]⟩⟩, .pv r.v), (⟨⟨[103,101,110,101,114,97,116,105,111,110]⟩⟩, .pv (.int r.g)), (⟨⟨[110,117,109,98,101,114]⟩⟩, .pv (.int r.n)), (⟨⟨[97,116]⟩⟩, .pv (.int (a + sumL (R.take i)))), (⟨⟨[111,102,102,115,101,116,115]⟩⟩, .loc 1), (⟨⟨[119,114,105,116,116,101,110]⟩⟩, .loc 0), (⟨⟨[105,115,95,108,101,97,115,116]⟩⟩, .pv (.bool b))]) ?_ (Cov.keep (Cov.keep (Cov.keep hc)))
      have hlen : (lineOf r.n r.g r.t).length ≤ 200 := hll
      refine s_cons ?_
      refine xa ?_
      refine ca_write_indirect ?_ (by kernel_rfl!)
      refine lc ?_
      refine ev ?_
      refine lc ?_
      refine ev ?_
      refine lc ?_
      refine ev ?_
      refine lc ?_
      refine ev ?_
      refine l_nil ?_
      refine write_indirect_ok ok.n ok.g ok.w ?_
      refine s_cons ?_
      refine x_set ?_
      refine ev ?_
      refine ev ?_
      refine ev ?_
      refine set_fresh rfl hfr hD ?_
      refine s_cons ?_
      refine x_expr ?_ (fun _ => rfl)
      refine e_mbi (id := "list.append") rfl rfl (by decide) (fun _ => rfl) ?_
      refine ev ?_
      refine ⟨mb_list rfl PySem.F.slot_list_append PySem.F.type_list_append, ?_⟩
      refine lc ?_
      refine ev ?_
      refine l_nil ?_
      refine c_append rfl hW ?_
      refine s_one ?_
      refine xa ?_
      refine e_bin ?_
      refine ev ?_
      refine ca_len ?_ (by kernel_rfl!)
      refine lc ?_
      refine ev ?_
      refine l_nil ?_
      refine c_lenB (by rw [bs_size]; omega) ?_
      refine o_intadd ?_
      refine ⟨?_, ?_⟩
      · rw [take_snoc hr, sumL_app]
        refine Cov.cons ?_ (Cov.cons rfl (Cov.cons rfl (Cov.cons rfl Cov.nil)))
        show some _ = some _
        rw [bs_size]
        simp only [sumL, Rw.line]
        rw [Int.add_zero, Int.add_assoc]
      · rw [take_snoc hr, offL_app, List.map_append, List.map_append]
        rfl
    · rw [List.length_map, List.take_length] at hJ
      exact ⟨fun x v e => hJ.1 x v (Cov.cons rfl (Cov.cons rfl Cov.nil) x v e), hJ.2⟩
  · rintro σ' rfl
    have hlj : ∀ p ∈ R.map Rw.line, p.length ≤ 20000 := fun p hp => by
      obtain ⟨r, hr, rfl⟩ := List.mem_map.mp hp
      have := (hok r hr).len
      omega
    refine s_one ?_
    refine x_ret ?_
    refine e_tup ?_
    refine lc ?_
    refine e_mbi (id := "bytes.join") ?_ ?_ ?_ ?_ ?_
    exact rfl
    exact rfl
    exact Nat.le_of_ble_eq_true rfl
    exact fun _ => attributeBase_const
    refine e_bytes ?_
    refine ⟨mb_bytes slot_join type_join, ?_⟩
    refine lc ?_
    refine ev ?_
    refine l_nil ?_
    refine c_joinB (sep := []) (ps := R.map Rw.line) rfl (by decide) (by simp; omega) hlj ?_
    refine lc ?_
    refine e_freeze (gok w) (e_var rfl ⟨1, _, rfl, ?_⟩ (by kernel_rfl!))
    refine l_nil ?_
    refine ⟨_, rfl, Nat.le_of_ble_eq_true rfl, ?_⟩
    rw [jn_nil]
    exact ⟨_, rfl, rfl⟩
theorem object_offsets_ok {R : List Rw} {a : Int} (hl : R.length ≤ 15) (hok : ∀ r ∈ R, r.Ok b) (nd : (R.map (·.n)).Nodup) (h : Q (.pv (.tup [bp (R.map Rw.line).flatten, dP (offL a R)])) σ) : COk prog w (GH w) (k + 24) (.ref 568) [.pv (.lst (R.map row3)), .pv (.int a), .pv (.bool b)] σ Q := c_pure rfl (object_offsets_0 hl hok nd) fun p e => by subst e; exact h
theorem used_entries_0 {R : List Rw} {a : Int} (hl : R.length ≤ 15) (nd : (R.map (·.n)).Nodup) : COk prog w (GH w) (k + 9) (.ref 575) [.pv (.lst (R.map row3)), .pv (dP (offL a R))] [] fun v τ => ∃ p, v = .pv p ∧ p = dP (usedL a R) := by
  refine c_frz (gok w) ?_
  refine cf (gok w) (fn_used_entries w) (xs := [⟨⟨[114,111,119,115]⟩⟩, ⟨⟨[111,102,102,115,101,116,115]⟩⟩]) (hb2 fun _ _ _ _ _ _ _ _ _ => rfl) ?_
  refine s_cons ?_
  refine xa ?_
  refine e_dictI (gok w) ?_
  refine s_for [(⟨⟨[101,110,116,114,105,101,115]⟩⟩, .loc 0), (⟨⟨[114,111,119,115]⟩⟩, .pv (.lst (R.map row3))), (⟨⟨[111,102,102,115,101,116,115]⟩⟩, .pv (dP (offL a R)))] (fun i σ' => σ' = [dO (usedL a (R.take i))]) ?_
  refine ev ?_
  refine ⟨_, _, rfl, src_lst, Cov.self, rfl, fun i q σ' hi hJ => ?_, fun σ' hJ => ?_⟩
  · subst hJ
    refine x1a2 (at_map hi) fun r hr Z1 => ?_; obtain rfl := Z1
    have hfr : r.n ∉ (usedL a (R.take i)).map (·.1) := by rw [used_keys]; exact fresh_at nd hr
    have hD : (usedL a (R.take i)).length ≤ 1000000 := by
      have e := congrArg List.length (used_keys a (R.take i))
      rw [List.length_map, List.length_map, List.length_take] at e
      omega
    refine ⟨_, g_tup ⟨(fun _ _ e => by cases e), _, g_name (by kernel_rfl!), (fun _ _ e => by cases e), _, g_name (by kernel_rfl!), (fun _ _ e => by cases e), _, g_name (by kernel_rfl!), rfl⟩, ?_⟩
    refine s_one ?_
    refine x_set ?_
    refine ca_Entry ?_ (by kernel_rfl!)
    refine lc ?_
    refine e_str ?_
    refine lc ?_
    refine e_sub ?_ (fun _ _ => rfl)
    refine ev ?_
    refine ev ?_
    refine sub_dct rfl (off_at nd hr) ?_
    refine lc ?_
    refine ev ?_
    refine l_nil ?_
    refine Entry_ok ?_
    refine ev ?_
    refine ev ?_
    refine set_fresh rfl hfr hD ?_
    refine ⟨Cov.drop rfl (Cov.drop rfl (Cov.drop rfl Cov.self)), ?_⟩
    rw [take_snoc hr, usedL_app]
    rfl
  · rw [List.length_map, List.take_length] at hJ
    subst hJ
    refine s_one ?_
    refine x_ret ?_
    refine ev ?_
    exact ⟨0, _, rfl, _, rfl, rfl⟩
theorem used_entries_ok {R : List Rw} {a : Int} (hl : R.length ≤ 15) (nd : (R.map (·.n)).Nodup) (h : Q (.pv (dP (usedL a R))) σ) : COk prog w (GH w) (k + 9) (.ref 575) [.pv (.lst (R.map row3)), .pv (dP (offL a R))] σ Q := c_pure rfl (used_entries_0 hl nd) fun p e => by subst e; exact h
theorem free_chain_0 {l : List Int} (hl : l.length ≤ 40) (hs : l.Pairwise (· < ·)) (h0 : ∀ x ∈ l, 0 < x) : COk prog w (GH w) (k + 9) (.ref 54) [.pv (.lst (l.map .int)), .pv (.dctI [] [])] [] fun v τ => ∃ j m, v = .loc j ∧ τ[j]? = some m ∧ locFree m = true ∧ m = dO (freeL (0 :: l)) := by
  have hnd : (0 :: l).Nodup := by
    refine List.nodup_cons.mpr ⟨fun h => absurd (h0 0 h) (by decide), ?_⟩
    exact hs.imp fun h => by omega
  refine cf (gok w) (fn_free_chain w) (xs := [⟨⟨[110,117,109,98,101,114,115]⟩⟩, ⟨⟨[103,101,110,101,114,97,116,105,111,110,115]⟩⟩]) (hb2 fun _ _ _ _ _ _ _ _ _ => rfl) ?_
  refine s_cons ?_
  refine xa ?_
  refine e_bin ?_
  refine e_list ?_
  refine lc ?_
  refine e_int ?_
  refine l_nil ?_
  refine ⟨_, rfl, Nat.le_of_ble_eq_true rfl, ?_⟩
  refine e_comp (gok w) ?_ (by kernel_rfl!) (by kernel_rfl!)
  refine ca_sorted ?_ (by kernel_rfl!)
  refine lc ?_
  refine ev ?_
  refine l_nil ?_
  refine c_sortedL (ns := l) rfl (by omega) fun ns' hp hso => ?_
  obtain rfl : l = ns' := (perm_sorted hp hso (hs.imp fun h => by omega)).symm
  refine compM (f := id) (pr := fun _ => true) src_lst (by simp; omega) (fun q hq => ?_) ?_
  · refine x1a2 (List.mem_map.mp hq) fun x hx Z1 => ?_; obtain rfl := Z1
    refine t_cmp ?_ rfl
    refine ev ?_
    refine e_int ?_
    refine o_gt ?_
    refine tr_bool ?_
    refine ⟨rfl, by simpa using h0 x hx, fun _ => ?_⟩
    refine ev ?_
    exact ⟨rfl, rfl⟩
  rw [List.filter_eq_self.mpr fun _ _ => rfl, List.map_id]
  refine o_addL (l := [.int 0]) (m := l.map .int) rfl rfl (by simp; omega) ?_
  rw [show ([PV.int 0] ++ l.map .int : List PV) = (0 :: l).map .int from rfl]
  refine s_cons ?_
  refine xa ?_
  refine e_dictI (gok w) ?_
  refine s_for [(⟨⟨[102,111,117,110,100]⟩⟩, .loc 0), (⟨⟨[108,105,110,101]⟩⟩, .pv (.lst ((0 :: l).map .int))), (⟨⟨[103,101,110,101,114,97,116,105,111,110,115]⟩⟩, .pv (.dctI [] []))] (fun i σ' => σ' = [dO ((List.range i).map (freeE (0 :: l)))]) ?_
  refine ca_range ?_ (by kernel_rfl!)
  refine lc ?_
  refine ca_len ?_ (by kernel_rfl!)
  refine lc ?_
  refine ev ?_
  refine l_nil ?_
  refine c_lenL rfl (by simp; omega) ?_
  refine l_nil ?_
  refine c_range1 ?_
  refine ⟨_, _, rfl, src_rng ?_, ?_, rfl, fun i q σ' hi hJ => ?_, fun σ' hJ => ?_⟩
  · rw [List.length_map]; exact small_of (by omega) (by simp; omega)
  · exact Cov.cons rfl (Cov.cons rfl (Cov.cons rfl Cov.nil))
  · subst hJ
    obtain ⟨rfl, hi⟩ := rng_at hi
    have lm : ((0 :: l).map PV.int).length = l.length + 1 := by simp
    rw [lm] at hi
    have hi' : i < l.length + 1 := by omega
    have hfr : (0 :: l).getD i 0 ∉ ((List.range i).map (freeE (0 :: l))).map (·.1) := by
      rw [List.map_map]
      intro hm
      obtain ⟨j, hj, e⟩ := List.mem_map.mp hm
      rw [List.mem_range] at hj
      have e1 := (getD_int (l := 0 :: l) (j := i) (by simp; omega)).1
      have e2 := (getD_int (l := 0 :: l) (j := j) (by simp; omega)).1
      have e' : (0 :: l).getD j 0 = (0 :: l).getD i 0 := e
      rw [e', ← e1] at e2
      have := (List.getElem?_inj (by simp; omega) hnd).mp e2
      omega
    have hD : ((List.range i).map (freeE (0 :: l))).length ≤ 1000000 := by simp; omega
    refine ⟨_, g_name (by kernel_rfl!), ?_⟩
    refine s_cons ?_
    refine xa ?_
    refine e_join (fun v σ' => v = .pv (.int ((0 :: l).getD (i + 1) 0)) ∧ σ' = [dO ((List.range i).map (freeE (0 :: l)))]) ?_ ?_
    · refine e_if ?_
      refine t_cmp ?_ rfl
      refine e_bin ?_
      refine ev ?_
      refine e_int ?_
      refine o_intadd ?_
      refine ca_len ?_ (by kernel_rfl!)
      refine lc ?_
      refine ev ?_
      refine l_nil ?_
      refine c_lenL rfl (by simp; omega) ?_
      refine o_lt ?_
      refine tr_bool ?_
      refine ⟨fun h => ?_, fun h => ?_⟩
      · have hlt : i < l.length := by
          simp only [lm, decide_eq_true_eq] at h; omega
        refine e_sub ?_ (fun _ _ => rfl)
        refine ev ?_
        refine e_bin ?_
        refine ev ?_
        refine e_int ?_
        refine o_intadd ?_
        refine sub_its (l := 0 :: l) (j := i + 1) rfl (by simp; omega) (by simp; omega) (by omega) ?_
        exact ⟨rfl, rfl⟩
      · have hge : ¬ i < l.length := by
          simp only [lm, decide_eq_false_iff_not] at h; omega
        refine e_int ⟨?_, rfl⟩
        rw [List.getD_eq_getElem?_getD, List.getElem?_eq_none (by simp; omega)]
        rfl
    · rintro v σ' ⟨rfl, rfl⟩
      refine s_one ?_
      refine x_set ?_
      refine ca_Entry ?_ (by kernel_rfl!)
      refine lc ?_
      refine e_str ?_
      refine lc ?_
      refine ev ?_
      refine lc ?_
      refine e_join (fun v σ' => v = .pv (.int (if i = 0 then 65535 else 0)) ∧ σ' = [dO ((List.range i).map (freeE (0 :: l)))]) ?_ ?_
      · refine e_if ?_
        refine t_cmp ?_ rfl
        refine ev ?_
        refine e_int ?_
        refine o_eqI ?_
        refine tr_bool ?_
        refine ⟨fun h => ?_, fun h => ?_⟩
        · have : i = 0 := by simpa using h
          refine en_MOST_GENERATION ?_ (by kernel_rfl!)
          exact ⟨by rw [if_pos this], rfl⟩
        · have : i ≠ 0 := by simpa using h
          refine e_mbi (id := "dict.get") rfl rfl (by decide) (fun _ => rfl) ?_
          refine ev ?_
          refine ⟨mb_dictI (gok w) rfl PySem.F.slot_dict_get PySem.F.type_dict_get, ?_⟩
          refine lc ?_
          refine e_sub ?_ (fun _ _ => rfl)
          refine ev ?_
          refine ev ?_
          refine sub_its (l := 0 :: l) (j := i) rfl (by simp; omega) (by simp; omega) (by omega) ?_
          refine lc ?_
          refine e_int ?_
          refine l_nil ?_
          refine c_dget (gok w) rfl (by simp) ?_
          exact ⟨by rw [if_neg this], rfl⟩
      · rintro v σ' ⟨rfl, rfl⟩
        refine l_nil ?_
        refine Entry_ok ?_
        refine ev ?_
        refine e_sub ?_ (fun _ _ => rfl)
        refine ev ?_
        refine ev ?_
        refine sub_its (l := 0 :: l) (j := i) rfl (by simp; omega) (by simp; omega) (by omega) ?_
        refine set_fresh rfl hfr hD ?_
        refine ⟨Cov.drop rfl (Cov.drop rfl Cov.self), ?_⟩
        show [dO _] = _
        rw [List.range_succ, List.map_append]
        rfl
  · rw [rng_len, List.length_map] at hJ
    subst hJ
    refine s_one ?_
    refine x_ret ?_
    refine ev ?_
    refine ⟨0, _, rfl, rfl, rfl, ?_⟩
    rw [freeL, show (((0 :: l).length : Nat) : Int) - 0 = (((0 :: l).length : Nat) : Int) by omega, Int.toNat_natCast]
end
noncomputable def ir (a b : Int) : List Int := (List.range (b - a).toNat).map fun (i : Nat) => a + (i : Int)
theorem rngL_ir (a b : Int) : rngL a b = (ir a b).map .int := by unfold rngL ir; rw [List.map_map]; rfl
theorem ir_len (a b : Int) : (ir a b).length = (b - a).toNat := by unfold ir; simp
theorem ir_mem {a b x : Int} : x ∈ ir a b ↔ a ≤ x ∧ x < b := by
  unfold ir
  rw [List.mem_map]
  constructor
  · rintro ⟨i, hi, rfl⟩
    rw [List.mem_range] at hi
    omega
  · intro h
    exact ⟨(x - a).toNat, List.mem_range.mpr (by omega), by omega⟩
theorem ir_sorted (a b : Int) : (ir a b).Pairwise (· < ·) := by
  unfold ir
  rw [List.pairwise_map]
  exact List.pairwise_lt_range.imp fun h => by omega
theorem free_keys (l : List Int) : (freeL l).map (·.1) = l := by
  unfold freeL
  rw [List.map_map]
  apply List.ext_getElem?
  intro i
  rw [List.getElem?_map]
  by_cases h : i < l.length
  · rw [List.getElem?_range h, (getD_int h).1]; rfl
  · rw [List.getElem?_eq_none (by simp; omega), List.getElem?_eq_none (by omega)]; rfl
noncomputable def lackL (D : List (Int × PV)) (top : Int) : List Int := (ir 1 top).filter fun x => !decide (x ∈ D.map (·.1))
section
variable {prog : Program} {w : World} {k : Nat} {σ τ : List MO} {Q : AV → List MO → Prop} {b : Bool}
theorem with_free_0 {D : List (Int × PV)} {top : Int} (ht : 0 ≤ top ∧ top ≤ 40) (hk : ∀ x ∈ D.map (·.1), 0 < x) (nd : (D.map (·.1)).Nodup) (hDl : D.length ≤ 50) : COk prog w (GH w) (k + 12) (.ref 580) [.pv (dP D), .pv (.int top)] [] fun v τ => ∃ p, v = .pv p ∧ p = dP (freeL (0 :: lackL D top) ++ D) := by
  have hl1 : (lackL D top).length ≤ 40 := by
    have h1 := List.length_filter_le (fun x => !decide (x ∈ D.map (·.1))) (ir 1 top)
    rw [ir_len] at h1
    unfold lackL
    omega
  have hl2 : (lackL D top).Pairwise (· < ·) := (ir_sorted 1 top).sublist List.filter_sublist
  have hl3 : ∀ x ∈ lackL D top, 0 < x := fun x hx => by
    have := ir_mem.mp (List.mem_filter.mp hx).1
    omega
  refine c_frz (gok w) ?_
  refine cf (gok w) (fn_with_free w) (xs := [⟨⟨[101,110,116,114,105,101,115]⟩⟩, ⟨⟨[116,111,112]⟩⟩]) (hb2 fun _ _ _ _ _ _ _ _ _ => rfl) ?_
  refine s_cons ?_
  refine x_asgC (gok w) ?_ (by kernel_rfl!) (by kernel_rfl!) (by kernel_rfl!)
  refine ca_range ?_ (by kernel_rfl!)
  refine lc ?_
  refine e_int ?_
  refine lc ?_
  refine ev ?_
  refine l_nil ?_
  refine c_range2 ?_
  refine compM (f := id) (pr := fun q => match q with | .int x => !decide (x ∈ D.map (·.1)) | _ => false) (src_rng (small_of (by omega) (by omega))) (by rw [rng_len]; omega) (fun q hq => ?_) ?_
  · rw [rngL_ir] at hq
    refine x1a2 (List.mem_map.mp hq) fun x hx Z1 => ?_; obtain rfl := Z1
    refine t_cmp ?_ rfl
    refine ev ?_
    refine ev ?_
    refine o_ninD (gok w) rfl ?_
    refine tr_bool ?_
    refine ⟨rfl, rfl, fun _ => ?_⟩
    refine ev ?_
    exact ⟨rfl, rfl⟩
  rw [show ((rngL 1 top).filter fun q => match q with | .int x => !decide (x ∈ D.map (·.1)) | _ => false).map id = (lackL D top).map .int from by
    rw [rngL_ir, List.filter_map, List.map_id]; rfl]
  refine s_cons ?_
  refine xa ?_
  refine ca_free_chain ?_ (by kernel_rfl!)
  refine lc ?_
  refine ev ?_
  refine lc ?_
  refine e_dictFI (gok w) ?_
  refine l_nil ?_
  refine c_adopt rfl (free_chain_0 hl1 hl2 hl3) (fun m hm => ?_)
  subst hm
  refine s_for [(⟨⟨[102,111,117,110,100]⟩⟩, .loc 0), (⟨⟨[101,110,116,114,105,101,115]⟩⟩, .pv (dP D))] (fun i σ' => σ' = [dO (freeL (0 :: lackL D top) ++ D.take i)]) ?_
  refine ev ?_
  refine ⟨_, _, rfl, src_dctI (by simp), ?_, ?_, fun i q σ' hi hJ => ?_, fun σ' hJ => ?_⟩
  · exact Cov.cons rfl (Cov.cons rfl Cov.nil)
  · simp
  · subst hJ
    refine x1a2 (at_map hi) fun x hx Z2 => ?_; obtain rfl := Z2
    rw [List.getElem?_map] at hx
    obtain ⟨⟨x', p⟩, hd, e⟩ := Option.map_eq_some_iff.mp hx
    have e' : x' = x := e
    subst e'
    have hmem := List.mem_of_getElem? hd
    have hlk : D.lookup x' = some p := lookup_of_mem nd hmem
    have hxk : x' ∈ D.map (·.1) := List.mem_map.mpr ⟨_, hmem, rfl⟩
    have hfr : x' ∉ (freeL (0 :: lackL D top) ++ D.take i).map (·.1) := by
      rw [List.map_append, free_keys]
      intro h
      rcases List.mem_append.mp h with h | h
      · rcases List.mem_cons.mp h with h | h
        · have := hk x' hxk; omega
        · have := (List.mem_filter.mp h).2
          simp only [Bool.not_eq_true', decide_eq_false_iff_not] at this
          exact this hxk
      · have nd' : ((D.take (i + 1)).map (·.1)).Nodup := nd.sublist ((List.take_sublist _ _).map _)
        rw [take_snoc hd, List.map_append] at nd'
        exact (List.nodup_append.mp nd').2.2 _ h _ (List.mem_singleton.mpr rfl) rfl
    have hD : (freeL (0 :: lackL D top) ++ D.take i).length ≤ 1000000 := by
      have e := congrArg List.length (free_keys (0 :: lackL D top))
      rw [List.length_map, List.length_cons] at e
      rw [List.length_append, e, List.length_take]
      omega
    refine ⟨_, g_name (by kernel_rfl!), ?_⟩
    refine s_one ?_
    refine x_set ?_
    refine e_sub ?_ (fun _ _ => rfl)
    refine ev ?_
    refine ev ?_
    refine sub_dct rfl hlk ?_
    refine ev ?_
    refine ev ?_
    refine set_fresh rfl hfr hD ?_
    refine ⟨Cov.drop rfl Cov.self, ?_⟩
    rw [take_snoc hd, ← List.append_assoc]
    rfl
  · rw [List.length_map, List.length_map, List.take_length] at hJ
    subst hJ
    refine s_one ?_
    refine x_ret ?_
    refine ev ?_
    exact ⟨0, _, rfl, _, rfl, rfl⟩
theorem with_free_ok {D : List (Int × PV)} {top : Int} (ht : 0 ≤ top ∧ top ≤ 40) (hk : ∀ x ∈ D.map (·.1), 0 < x) (nd : (D.map (·.1)).Nodup) (hDl : D.length ≤ 50) (h : Q (.pv (dP (freeL (0 :: lackL D top) ++ D))) σ) : COk prog w (GH w) (k + 12) (.ref 580) [.pv (dP D), .pv (.int top)] σ Q := c_pure rfl (with_free_0 ht hk nd hDl) fun p e => by subst e; exact h
end
noncomputable def Wo.td : Wo → PV
  | .seven => .tup [sg [105,110,116], .int 7]
  | .nameA => .tup [sg [110,97,109,101], sg [65]]
  | .null => .tup [sg [110,117,108,108]]
  | .tru => .tup [sg [116,114,117,116,104], .int 1]
  | .one => .tup [sg [105,110,116], .int 1]
section
variable {prog : Program} {w : World} {k : Nat} {σ τ : List MO} {Q : AV → List MO → Prop} {b : Bool}
theorem told_plain_ok {x : Wo} (h : Q (.pv x.td) σ) : COk prog w (GH w) (k + 10) (.ref 314) [.pv (sg x.kd), .pv x.val] σ Q := by
  refine cf (gok w) (fn_told_plain w) (xs := [⟨⟨[107,105,110,100]⟩⟩, ⟨⟨[118,97,108,117,101]⟩⟩]) (hb2 fun _ _ _ _ _ _ _ _ _ => rfl) ?_
  cases x
  · refine s_cons ?_
    refine x_if ?_
    refine t_cmp ?_ rfl
    refine ev ?_
    refine e_str ?_
    refine o_strEq ?_
    refine tr_bool ?_
    refine ⟨fun h => absurd h (by decide), fun _ => s_nil ?_⟩
    refine s_cons ?_
    refine x_if ?_
    refine t_cmp ?_ rfl
    refine ev ?_
    refine e_str ?_
    refine o_strEq ?_
    refine tr_bool ?_
    refine ⟨fun h => absurd h (by decide), fun _ => s_nil ?_⟩
    refine s_cons ?_
    refine x_if ?_
    refine t_cmp ?_ rfl
    refine ev ?_
    refine e_str ?_
    refine o_strEq ?_
    refine tr_bool ?_
    refine ⟨fun _ => ?_, fun h => absurd h (by decide)⟩
    refine s_one ?_
    refine x_ret ?_
    refine e_tup ?_
    refine lc ?_
    refine e_str ?_
    refine lc ?_
    refine ev ?_
    refine l_nil ?_
    refine ⟨_, rfl, Nat.le_of_ble_eq_true rfl, ?_⟩
    exact h
  · refine s_cons ?_
    refine x_if ?_
    refine t_cmp ?_ rfl
    refine ev ?_
    refine e_str ?_
    refine o_strEq ?_
    refine tr_bool ?_
    refine ⟨fun h => absurd h (by decide), fun _ => s_nil ?_⟩
    refine s_cons ?_
    refine x_if ?_
    refine t_cmp ?_ rfl
    refine ev ?_
    refine e_str ?_
    refine o_strEq ?_
    refine tr_bool ?_
    refine ⟨fun h => absurd h (by decide), fun _ => s_nil ?_⟩
    refine s_cons ?_
    refine x_if ?_
    refine t_cmp ?_ rfl
    refine ev ?_
    refine e_str ?_
    refine o_strEq ?_
    refine tr_bool ?_
    refine ⟨fun h => absurd h (by decide), fun _ => s_nil ?_⟩
    refine s_cons ?_
    refine x_if ?_
    refine t_cmp ?_ rfl
    refine ev ?_
    refine e_str ?_
    refine o_strEq ?_
    refine tr_bool ?_
    refine ⟨fun h => absurd h (by decide), fun _ => s_nil ?_⟩
    refine s_cons ?_
    refine x_if ?_
    refine t_cmp ?_ rfl
    refine ev ?_
    refine e_str ?_
    refine o_strEq ?_
    refine tr_bool ?_
    refine ⟨fun _ => ?_, fun h => absurd h (by decide)⟩
    refine s_one ?_
    refine x_ret ?_
    refine e_tup ?_
    refine lc ?_
    refine e_str ?_
    refine lc ?_
    refine e_attr ?_ (fun _ => rfl)
    refine ev ?_
    refine at_ins (cl_Name w) rfl rfl rfl ?_ (by kernel_rfl!)
    refine l_nil ?_
    refine ⟨_, rfl, Nat.le_of_ble_eq_true rfl, ?_⟩
    exact h
  · refine s_cons ?_
    refine x_if ?_
    refine t_cmp ?_ rfl
    refine ev ?_
    refine e_str ?_
    refine o_strEq ?_
    refine tr_bool ?_
    refine ⟨fun _ => ?_, fun h => absurd h (by decide)⟩
    refine s_one ?_
    refine x_ret ?_
    refine e_tup ?_
    refine lc ?_
    refine e_str ?_
    refine l_nil ?_
    refine ⟨_, rfl, Nat.le_of_ble_eq_true rfl, ?_⟩
    exact h
  · refine s_cons ?_
    refine x_if ?_
    refine t_cmp ?_ rfl
    refine ev ?_
    refine e_str ?_
    refine o_strEq ?_
    refine tr_bool ?_
    refine ⟨fun h => absurd h (by decide), fun _ => s_nil ?_⟩
    refine s_cons ?_
    refine x_if ?_
    refine t_cmp ?_ rfl
    refine ev ?_
    refine e_str ?_
    refine o_strEq ?_
    refine tr_bool ?_
    refine ⟨fun _ => ?_, fun h => absurd h (by decide)⟩
    refine s_one ?_
    refine x_ret ?_
    refine e_tup ?_
    refine lc ?_
    refine e_str ?_
    refine lc ?_
    refine e_if ?_
    refine t_value ?_ (fun _ => rfl)
    refine ev ?_
    refine tr_bool ⟨fun _ => ?_, fun h => (by cases h)⟩
    refine e_int ?_
    refine l_nil ⟨_, rfl, Nat.le_of_ble_eq_true rfl, ?_⟩
    exact h
  · refine s_cons ?_
    refine x_if ?_
    refine t_cmp ?_ rfl
    refine ev ?_
    refine e_str ?_
    refine o_strEq ?_
    refine tr_bool ?_
    refine ⟨fun h => absurd h (by decide), fun _ => s_nil ?_⟩
    refine s_cons ?_
    refine x_if ?_
    refine t_cmp ?_ rfl
    refine ev ?_
    refine e_str ?_
    refine o_strEq ?_
    refine tr_bool ?_
    refine ⟨fun h => absurd h (by decide), fun _ => s_nil ?_⟩
    refine s_cons ?_
    refine x_if ?_
    refine t_cmp ?_ rfl
    refine ev ?_
    refine e_str ?_
    refine o_strEq ?_
    refine tr_bool ?_
    refine ⟨fun _ => ?_, fun h => absurd h (by decide)⟩
    refine s_one ?_
    refine x_ret ?_
    refine e_tup ?_
    refine lc ?_
    refine e_str ?_
    refine lc ?_
    refine ev ?_
    refine l_nil ?_
    refine ⟨_, rfl, Nat.le_of_ble_eq_true rfl, ?_⟩
    exact h
theorem told_wo {x : Wo} (h : Q (.pv x.td) σ) : COk prog w (GH w) (k + 14) (.ref 319) [.pv x.val] σ Q := by
  refine cf (gok w) (fn_told w) (xs := [⟨⟨[118,97,108,117,101]⟩⟩]) (hb1 fun _ _ _ _ _ _ _ _ => rfl) ?_
  refine s_cons ?_
  refine xa ?_
  refine ca_kind_of ?_ (by kernel_rfl!)
  refine lc ?_
  refine ev ?_
  refine l_nil ?_
  refine kind_wo ?_
  refine s_cons ?_
  refine x_if ?_
  refine t_cmp ?_ rfl
  refine ev ?_
  refine e_str ?_
  refine o_strEq ?_
  refine tr_bool ?_
  refine ⟨fun h => absurd h (by cases x <;> decide), fun _ => s_nil ?_⟩
  refine s_cons ?_
  refine x_if ?_
  refine t_cmp ?_ rfl
  refine ev ?_
  refine e_str ?_
  refine o_strEq ?_
  refine tr_bool ?_
  refine ⟨fun h => absurd h (by cases x <;> decide), fun _ => s_nil ?_⟩
  refine s_cons ?_
  refine x_if ?_
  refine t_cmp ?_ rfl
  refine ev ?_
  refine e_str ?_
  refine o_strEq ?_
  refine tr_bool ?_
  refine ⟨fun h => absurd h (by cases x <;> decide), fun _ => s_nil ?_⟩
  refine s_one ?_
  refine x_ret ?_
  refine ca_told_plain ?_ (by kernel_rfl!)
  refine lc ?_
  refine ev ?_
  refine lc ?_
  refine ev ?_
  refine l_nil ?_
  refine told_plain_ok ?_
  exact h
theorem told_dict (h : Q (.pv (.tup [sg [100,105,99,116]])) σ) : COk prog w (GH w) (k + 14) (.ref 319) [.pv (.dctI [] [])] σ Q := by
  refine cf (gok w) (fn_told w) (xs := [⟨⟨[118,97,108,117,101]⟩⟩]) (hb1 fun _ _ _ _ _ _ _ _ => rfl) ?_
  refine s_cons ?_
  refine xa ?_
  refine ca_kind_of ?_ (by kernel_rfl!)
  refine lc ?_
  refine ev ?_
  refine l_nil ?_
  refine kind_dict ?_
  refine s_cons ?_
  refine x_if ?_
  refine t_cmp ?_ rfl
  refine ev ?_
  refine e_str ?_
  refine o_strEq ?_
  refine tr_bool ?_
  refine ⟨fun h => absurd h (by decide), fun _ => s_nil ?_⟩
  refine s_cons ?_
  refine x_if ?_
  refine t_cmp ?_ rfl
  refine ev ?_
  refine e_str ?_
  refine o_strEq ?_
  refine tr_bool ?_
  refine ⟨fun _ => ?_, fun h => absurd h (by decide)⟩
  refine s_one ?_
  refine x_ret ?_
  refine e_bin ?_
  refine e_tup ?_
  refine lc ?_
  refine e_str ?_
  refine l_nil ?_
  refine ⟨_, rfl, Nat.le_of_ble_eq_true rfl, ?_⟩
  refine ca_tuple ?_ (by kernel_rfl!)
  refine lc ?_
  refine e_comp (gok w) ?_ (by kernel_rfl!) (by kernel_rfl!)
  refine ca_sorted ?_ (by kernel_rfl!)
  refine lc ?_
  refine ev ?_
  refine l_nil ?_
  refine c_sortedD (gok w) rfl (Nat.le_of_ble_eq_true rfl) fun ns' hp _ => ?_
  obtain rfl := hp.eq_nil
  refine compM (f := id) (pr := fun _ => true) src_lst (Nat.le_of_ble_eq_true rfl) (fun q hq => ?_) ?_
  · cases hq
  · refine l_nil ?_
    refine c_tupL rfl (Nat.le_of_ble_eq_true rfl) ?_
    refine o_addT0 ?_
    exact h
noncomputable abbrev shN : List Str := [⟨⟨[116,97,98,108,101]⟩⟩, ⟨⟨[116,114,97,105,108,101,114]⟩⟩]
noncomputable abbrev shO (m0 m1 : MO) (D : List (Int × PV)) : List MO := [m0, m1, .dead, .ns shN [.loc 5, .pv (.dctI [] [])], .ins 417 3, dO D]
theorem Shelf_ok {m0 m1 : MO} (h : Q (.loc 4) (shO m0 m1 [])) : COk prog w (GH w) (k + 6) (.ref 417) [] [m0, m1, .dead] Q := by
  refine CdOk.co (c_make (gok w) (cl_Shelf w) (fI := 346) (by kernel_rfl!) (by kernel_rfl!) (CdOk.mono (cd_fnB (gok w) (fn_Lookup___init__ w) (xs := [⟨⟨[115,101,108,102]⟩⟩, ⟨⟨[116,97,98,108,101]⟩⟩, ⟨⟨[116,114,97,105,108,101,114]⟩⟩]) (bs := [.loc 4, .pv .none, .pv .none]) (Q := fun v σ' => v = .pv .none ∧ σ' = shO m0 m1 []) rfl (fun qual kV doc pm an cdv ct => ?hb) (by decide +kernel) (by kernel_rfl!) (by decide +kernel) ?body (by kernel_rfl!) (by kernel_rfl!) (by kernel_rfl!)) ?fin))
  case fin =>
    rintro v σ' ⟨rfl, rfl⟩
    exact ⟨rfl, h⟩
  case hb =>
    intro s B ρ us kG ra
    refine x1a2 (args1 ra) fun u Z1 r => ?_; obtain rfl := Z1
    exact ⟨[u, .none, .none], BindsTo.of_defaults rfl (kG 339 o224 (at_ (by kernel_rfl!) (by decide) rfl)) rfl rfl rfl, u, _, rfl, r, _, _, rfl, rfl, _, _, rfl, rfl, rfl⟩
  case body =>
    refine s_cons ?_
    refine x_setA ?_
    refine e_if ?_
    refine t_cmp ?_ rfl
    refine ev ?_
    refine e_none ?_
    refine o_isNone ?_ (fun _ e => by cases e)
    refine tr_bool ?_
    refine ⟨fun _ => ?_, fun h => (by cases h)⟩
    refine e_dictI (gok w) ?_
    refine ev ?_
    refine as_own (cl_Shelf w) rfl rfl (by decide +kernel) (by decide) ?_ (by kernel_rfl!)
    refine s_one ?_
    refine x_setA ?_
    refine e_if ?_
    refine t_cmp ?_ rfl
    refine ev ?_
    refine e_none ?_
    refine o_isNone ?_ (fun _ e => by cases e)
    refine tr_bool ?_
    refine ⟨fun _ => ?_, fun h => (by cases h)⟩
    refine e_dictFI (gok w) ?_
    refine ev ?_
    refine as_own (cl_Shelf w) rfl rfl (by decide +kernel) (by decide) ?_ (by kernel_rfl!)
    exact ⟨rfl, rfl⟩
end
noncomputable abbrev shE (r : Rw) : Int × PV := (r.n, .tup [.int r.g, r.v])
structure Shelved (D : List (Int × PV)) (R : List Rw) : Prop where
  len : R.length ≤ 15
  perm : D.Perm (R.map shE)
  asc : (R.map (·.n)).Pairwise (· < ·)
theorem Shelved.keys {D : List (Int × PV)} {R : List Rw} (h : Shelved D R) : (R.map (·.n)).Perm (D.map (·.1)) := by
  have := (h.perm.map (·.1)).symm
  rwa [List.map_map] at this
theorem Shelved.nd {D : List (Int × PV)} {R : List Rw} (h : Shelved D R) : (D.map (·.1)).Nodup := h.keys.nodup_iff.mp (h.asc.imp fun h => by omega)
theorem Shelved.dlen {D : List (Int × PV)} {R : List Rw} (h : Shelved D R) : D.length ≤ 15 := by
  rw [h.perm.length_eq, List.length_map]; exact h.len
theorem Shelved.at {D : List (Int × PV)} {R : List Rw} (h : Shelved D R) {r : Rw} (hr : r ∈ R) : D.lookup r.n = some (.tup [.int r.g, r.v]) := lookup_of_mem h.nd (h.perm.mem_iff.mpr (List.mem_map.mpr ⟨r, hr, rfl⟩))
noncomputable def rowF (D : List (Int × PV)) : PV → PV
  | .int x => .tup (.int x :: (match D.lookup x with | some (.tup l) => l | _ => []))
  | p => p
theorem rowF_at {D : List (Int × PV)} {R : List Rw} (h : Shelved D R) {r : Rw} (hr : r ∈ R) : rowF D (.int r.n) = row3 r := by
  have e := h.at hr
  simp only [rowF, e]
noncomputable abbrev shT (m0 m1 : MO) (D : List (Int × PV)) (τ : List MO) : List MO := m0 :: m1 :: .dead :: .ns shN [.loc 5, .pv (.dctI [] [])] :: .ins 417 3 :: dO D :: τ
noncomputable def tdV : PV → PV
  | .none => .tup [sg [110,117,108,108]]
  | .bool b => .tup [sg [116,114,117,116,104], .int (if b then 1 else 0)]
  | .int i => .tup [sg [105,110,116], .int i]
  | .ins _ _ [p] => .tup [sg [110,97,109,101], p]
  | p => p
theorem tdV_td (x : Wo) : tdV x.val = x.td := by cases x <;> rfl
theorem told_val {prog : Program} {w : World} {k : Nat} {σ : List MO} {Q : AV → List MO → Prop} {v : PV} (hv : ∃ x : Wo, v = x.val) (h : Q (.pv (tdV v)) σ) : COk prog w (GH w) (k + 14) (.ref 319) [.pv v] σ Q := by
  obtain ⟨x, rfl⟩ := hv
  rw [tdV_td] at h
  exact told_wo h
noncomputable abbrev rowT3 (r : Rw) : PV := .tup [.int r.n, .int r.g, tdV r.v]
noncomputable def rowT (D : List (Int × PV)) : PV → PV
  | .int x => .tup (.int x :: (match D.lookup x with | some (.tup [g, v]) => [g, tdV v] | _ => []))
  | p => p
theorem rowT_at {D : List (Int × PV)} {R : List Rw} (h : Shelved D R) {r : Rw} (hr : r ∈ R) : rowT D (.int r.n) = rowT3 r := by
  have e := h.at hr
  simp only [rowT, e]
structure IsTop (l : List Int) (M : Int) : Prop where
  mem : M ∈ l ++ [0]
  ub : ∀ a ∈ l ++ [0], a ≤ M
theorem IsTop.eq {l : List Int} {M N : Int} (h : IsTop l M) (h' : IsTop l N) : M = N := by
  have := h.ub _ h'.mem
  have := h'.ub _ h.mem
  omega
section
variable {prog : Program} {w : World} {k : Nat} {σ τ : List MO} {Q : AV → List MO → Prop} {b : Bool} {m0 m1 : MO} {D : List (Int × PV)} {R : List Rw}
theorem numbers_ok (hs : Shelved D R) (h : Q (.pv (.lst ((R.map (·.n)).map .int))) (shT m0 m1 D τ)) : COk prog w (GH w) (k + 3) (.ref 402) [.loc 4] (shT m0 m1 D τ) Q := by
  refine cf (gok w) (fn_Shelf_numbers w) (xs := [⟨⟨[115,101,108,102]⟩⟩]) (hb1 fun _ _ _ _ _ _ _ _ => rfl) ?_
  refine s_one ?_
  refine x_ret ?_
  refine ca_sorted ?_ (by kernel_rfl!)
  refine lc ?_
  refine e_attr ?_ (fun _ => rfl)
  refine ev ?_
  refine at_ins (cl_Shelf w) rfl rfl rfl ?_ (by kernel_rfl!)
  refine l_nil ?_
  refine c_sortedD (gok w) rfl (by rw [List.length_map]; have := hs.dlen; omega) fun ns' hp hso => ?_
  obtain rfl : R.map (·.n) = ns' := (perm_sorted (hp.trans hs.keys.symm) hso (hs.asc.imp fun h => by omega)).symm
  exact h
theorem rows_ok (hs : Shelved D R) (h : Q (.pv (.lst (R.map row3))) (shT m0 m1 D τ)) : COk prog w (GH w) (k + 6) (.ref 554) [.loc 4] (shT m0 m1 D τ) Q := by
  refine cf (gok w) (fn_rows_of_shelf w) (xs := [⟨⟨[115,104,101,108,102]⟩⟩]) (hb1 fun _ _ _ _ _ _ _ _ => rfl) ?_
  refine s_one ?_
  refine x_ret ?_
  refine e_comp (gok w) ?_ (by kernel_rfl!) (by kernel_rfl!)
  refine e_meth rfl (cl_Shelf w) (fn_Shelf_numbers w) (by kernel_rfl!) (by kernel_rfl!) rfl (by decide) ?_
  refine ev ?_
  refine ⟨⟨_, _, rfl, by decide +kernel⟩, ?_⟩
  refine l_nil ?_
  refine numbers_ok hs ?_
  refine compM0 (f := rowF D) src_lst (by have := hs.len; simp; omega) (fun q hq => ?_) ?_
  · refine x1a2 (List.mem_map.mp hq) fun x hx Z1 => ?_; obtain rfl := Z1
    refine x1a2 (List.mem_map.mp hx) fun r hr Z2 => ?_; obtain rfl := Z2
    refine e_tup ?_
    refine lc ?_
    refine ev ?_
    refine lc ?_
    refine e_sub ?_ (fun _ _ => rfl)
    refine e_sub ?_ (fun _ _ => rfl)
    refine e_attr ?_ (fun _ => rfl)
    refine ev ?_
    refine at_ins (cl_Shelf w) rfl rfl rfl ?_ (by kernel_rfl!)
    refine ev ?_
    refine sub_dct rfl (hs.at hr) ?_
    refine e_int ?_
    refine sub_T (by decide) rfl (Nat.le_of_ble_eq_true rfl) ?_
    refine lc ?_
    refine e_sub ?_ (fun _ _ => rfl)
    refine e_sub ?_ (fun _ _ => rfl)
    refine e_attr ?_ (fun _ => rfl)
    refine ev ?_
    refine at_ins (cl_Shelf w) rfl rfl rfl ?_ (by kernel_rfl!)
    refine ev ?_
    refine sub_dct rfl (hs.at hr) ?_
    refine e_int ?_
    refine sub_T (by decide) rfl (Nat.le_of_ble_eq_true rfl) ?_
    refine l_nil ?_
    refine ⟨_, rfl, Nat.le_of_ble_eq_true rfl, ?_⟩
    exact ⟨congrArg AV.pv (rowF_at hs hr).symm, rfl⟩
  · show Q _ _
    rw [List.map_map, List.map_map]
    have e : (List.map ((rowF D ∘ PV.int) ∘ fun x => x.n) R : List PV) = R.map row3 := List.map_congr_left fun r hr => rowF_at hs hr
    rw [e]
    exact h
theorem last_number_ok (hs : Shelved D R) (h : ∀ M, IsTop (R.map (·.n)) M → Q (.pv (.int M)) (shT m0 m1 D τ)) : COk prog w (GH w) (k + 6) (.ref 561) [.loc 4] (shT m0 m1 D τ) Q := by
  refine cf (gok w) (fn_last_number w) (xs := [⟨⟨[115,104,101,108,102]⟩⟩]) (hb1 fun _ _ _ _ _ _ _ _ => rfl) ?_
  refine s_one ?_
  refine x_ret ?_
  refine ca_max ?_ (by kernel_rfl!)
  refine lc ?_
  refine e_bin ?_
  refine e_meth rfl (cl_Shelf w) (fn_Shelf_numbers w) (by kernel_rfl!) (by kernel_rfl!) rfl (by decide) ?_
  refine ev ?_
  refine ⟨⟨_, _, rfl, by decide +kernel⟩, ?_⟩
  refine l_nil ?_
  refine numbers_ok hs ?_
  refine e_list ?_
  refine lc ?_
  refine e_int ?_
  refine l_nil ?_
  refine ⟨_, rfl, Nat.le_of_ble_eq_true rfl, ?_⟩
  refine o_addL (l := (R.map (·.n)).map .int) (m := [.int 0]) rfl rfl (by have := hs.len; simp; omega) ?_
  refine l_nil ?_
  refine c_maxL (ns := R.map (·.n) ++ [0]) (by simp [asList]) (by simp) fun M h1 h2 => ?_
  exact h M ⟨h1, h2⟩
theorem put_ok {n g : Int} {v : PV} (hx : n ∉ D.map (·.1)) (hl : D.length ≤ 1000000) (h : Q (.pv .none) (shT m0 m1 (D ++ [(n, .tup [.int g, v])]) τ)) : COk prog w (GH w) (k + 3) (.ref 381) [.loc 4, .pv (.int n), .pv (.int g), .pv v] (shT m0 m1 D τ) Q := by
  refine cf (gok w) (fn_Shelf_put w) (xs := [⟨⟨[115,101,108,102]⟩⟩, ⟨⟨[110,117,109,98,101,114]⟩⟩, ⟨⟨[103,101,110,101,114,97,116,105,111,110]⟩⟩, ⟨⟨[118,97,108,117,101]⟩⟩]) (hb4 fun _ _ _ _ _ _ _ _ _ _ _ => rfl) ?_
  refine s_one ?_
  refine x_set ?_
  refine e_tup ?_
  refine lc ?_
  refine ev ?_
  refine lc ?_
  refine ev ?_
  refine l_nil ?_
  refine ⟨_, rfl, Nat.le_of_ble_eq_true rfl, ?_⟩
  refine e_attr ?_ (fun _ => rfl)
  refine ev ?_
  refine at_ins (cl_Shelf w) rfl rfl rfl ?_ (by kernel_rfl!)
  refine ev ?_
  refine set_fresh rfl hx hl ?_
  exact h
theorem shelf_told_ok (hs : Shelved D R) (hw : ∀ r ∈ R, ∃ x : Wo, r.v = x.val) (h : Q (.pv (.tup [.tup (R.map rowT3), .tup [sg [100,105,99,116]]])) (shT m0 m1 D τ)) : COk prog w (GH w) (k + 18) (.ref 414) [.loc 4] (shT m0 m1 D τ) Q := by
  refine cf (gok w) (fn_Shelf_told w) (xs := [⟨⟨[115,101,108,102]⟩⟩]) (hb1 fun _ _ _ _ _ _ _ _ => rfl) ?_
  refine s_cons ?_
  refine xa ?_
  refine ca_tuple ?_ (by kernel_rfl!)
  refine lc ?_
  refine e_comp (gok w) ?_ (by kernel_rfl!) (by kernel_rfl!)
  refine e_meth rfl (cl_Shelf w) (fn_Shelf_numbers w) (by kernel_rfl!) (by kernel_rfl!) rfl (by decide) ?_
  refine ev ?_
  refine ⟨⟨_, _, rfl, by decide +kernel⟩, ?_⟩
  refine l_nil ?_
  refine numbers_ok hs ?_
  refine compM0 (f := rowT D) src_lst (by have := hs.len; simp; omega) (fun q hq => ?_) ?_
  · refine x1a2 (List.mem_map.mp hq) fun x hx Z1 => ?_; obtain rfl := Z1
    refine x1a2 (List.mem_map.mp hx) fun r hr Z2 => ?_; obtain rfl := Z2
    refine e_tup ?_
    refine lc ?_
    refine ev ?_
    refine lc ?_
    refine e_sub ?_ (fun _ _ => rfl)
    refine e_sub ?_ (fun _ _ => rfl)
    refine e_attr ?_ (fun _ => rfl)
    refine ev ?_
    refine at_ins (cl_Shelf w) rfl rfl rfl ?_ (by kernel_rfl!)
    refine ev ?_
    refine sub_dct rfl (hs.at hr) ?_
    refine e_int ?_
    refine sub_T (by decide) rfl (Nat.le_of_ble_eq_true rfl) ?_
    refine lc ?_
    refine ca_told_objects ?_ (by kernel_rfl!)
    refine lc ?_
    refine e_sub ?_ (fun _ _ => rfl)
    refine e_sub ?_ (fun _ _ => rfl)
    refine e_attr ?_ (fun _ => rfl)
    refine ev ?_
    refine at_ins (cl_Shelf w) rfl rfl rfl ?_ (by kernel_rfl!)
    refine ev ?_
    refine sub_dct rfl (hs.at hr) ?_
    refine e_int ?_
    refine sub_T (by decide) rfl (Nat.le_of_ble_eq_true rfl) ?_
    refine l_nil ?_
    refine told_val (hw r hr) ?_
    refine l_nil ?_
    refine ⟨_, rfl, Nat.le_of_ble_eq_true rfl, ?_⟩
    exact ⟨congrArg AV.pv (rowT_at hs hr).symm, rfl⟩
  · rw [List.map_map, List.map_map]
    have e : (List.map ((rowT D ∘ PV.int) ∘ fun x => x.n) R : List PV) = R.map rowT3 := List.map_congr_left fun r hr => rowT_at hs hr
    rw [e]
    refine l_nil ?_
    refine c_tupL rfl (by have := hs.len; simp; omega) ?_
    refine s_one ?_
    refine x_ret ?_
    refine e_tup ?_
    refine lc ?_
    refine ev ?_
    refine lc ?_
    refine ca_told_objects ?_ (by kernel_rfl!)
    refine lc ?_
    refine e_attr ?_ (fun _ => rfl)
    refine ev ?_
    refine at_ins (cl_Shelf w) rfl rfl rfl ?_ (by kernel_rfl!)
    refine l_nil ?_
    refine told_dict ?_
    refine l_nil ?_
    refine ⟨_, rfl, Nat.le_of_ble_eq_true rfl, ?_⟩
    exact h
end
noncomputable def keptR (gs : List (List Int)) (R : List Rw) : List Rw := R.filter fun r => !decide (r.n ∈ gs.flatten)
noncomputable def bodyL (W : List Rw) : List Nat := hdr ++ (W.map Rw.line).flatten
noncomputable def entL (F : Int) (gs : List (List Int)) (W : List Rw) : List (Int × PV) := packL F gs ++ usedL (15 : Int) W ++ [(F + (gs.length : Int), ent [117,115,101,100] ((bodyL W).length : Int) 0)]
noncomputable def finL (F : Int) (gs : List (List Int)) (W : List Rw) : List (Int × PV) := freeL (0 :: lackL (entL F gs W) (F + (gs.length : Int) + 1)) ++ entL F gs W
structure Place (b : Bool) (F : Int) (gs : List (List Int)) (W : List Rw) : Prop where
  gl : gs.length ≤ 3
  gk : ∀ g ∈ gs, g.length ≤ 10
  wl : W.length ≤ 15
  ok : ∀ r ∈ W, r.Ok b
  f : 0 < F ∧ F ≤ 30
  nd : (gs.flatten ++ W.map (·.n) ++ [F + (gs.length : Int)]).Nodup
  pos : ∀ x ∈ gs.flatten ++ W.map (·.n), 0 < x
  up : ∀ x ∈ gs.flatten ++ W.map (·.n), x < F + (gs.length : Int)
theorem ent_keys {F : Int} {gs : List (List Int)} {W : List Rw} : (entL F gs W).map (·.1) = gs.flatten ++ W.map (·.n) ++ [F + (gs.length : Int)] := by
  unfold entL
  rw [List.map_append, List.map_append, pack_keys, used_keys]; rfl
section
variable {prog : Program} {w : World} {k : Nat} {σ τ : List MO} {Q : AV → List MO → Prop} {b : Bool} {D : List (Int × PV)} {R : List Rw}
theorem placed_ok {L0 : List Int} {p q : PV} {gs : List (List Int)} {A : List Rw} {F : Int} (hs : Shelved D R) (hF : IsTop (R.map (·.n)) (F - 1)) (pl : Place b F gs (keptR gs R ++ A)) (h : Q (.pv (.tup [bp (bodyL (keptR gs R ++ A)), dP (finL F gs (keptR gs R ++ A)), .int (F + (gs.length : Int))])) (shT (.lst (L0.map .int)) (.alst [.loc 0, .pv p, .pv q]) D [])) :
    COk prog w (GH w) (k + 30) (.ref 592) [.loc 4, .pv (gsP gs), .pv (.lst (A.map row3)), .pv (.bool b)] (shT (.lst (L0.map .int)) (.alst [.loc 0, .pv p, .pv q]) D []) Q := by
  have hndW : ((keptR gs R ++ A).map (·.n)).Nodup := (List.nodup_append.mp (List.nodup_append.mp pl.nd).1).2.1
  have hbl : ((keptR gs R ++ A).map Rw.line).flatten.length ≤ 200 * (keptR gs R ++ A).length := by
    have gen : ∀ W : List Rw, (∀ r ∈ W, r.Ok b) → (W.map Rw.line).flatten.length ≤ 200 * W.length := fun W => by
      induction W with
      | nil => simp
      | cons r W ih =>
        intro h
        have h1 := (h r (List.mem_cons_self ..)).len
        have h2 := ih fun x hx => h x (List.mem_cons_of_mem _ hx)
        rw [List.map_cons, List.flatten_cons, List.length_append, List.length_cons, Nat.mul_add, Nat.mul_one]
        omega
    exact gen _ pl.ok
  have hhd : hdr.length = 15 := by decide
  have hwl := pl.wl
  refine c_trim0 ?_
  refine cf (gok w) (fn_placed_objects w) (xs := [⟨⟨[115,104,101,108,102]⟩⟩, ⟨⟨[103,114,111,117,112,115]⟩⟩, ⟨⟨[97,100,100,101,100]⟩⟩, ⟨⟨[105,115,95,108,101,97,115,116]⟩⟩]) (hb4 fun _ _ _ _ _ _ _ _ _ _ _ => rfl) ?_
  refine s_cons ?_
  refine xa ?_
  refine e_bin ?_
  refine ca_last_number ?_ (by kernel_rfl!)
  refine lc ?_
  refine ev ?_
  refine l_nil ?_
  refine last_number_ok hs (fun M hM => ?_)
  refine e_int ?_
  refine o_intadd ?_
  obtain rfl : F = M + 1 := by have := hM.eq hF; omega
  refine s_cons ?_
  refine xa ?_
  refine ca_packed_entries ?_ (by kernel_rfl!)
  refine lc ?_
  refine ev ?_
  refine lc ?_
  refine ev ?_
  refine l_nil ?_
  refine c_adopt rfl (packed_entries_0 pl.gl pl.gk (List.nodup_append.mp (List.nodup_append.mp pl.nd).1).1) (fun m hm => ?_)
  subst hm
  refine s_cons ?_
  refine xa ?_
  refine e_bin ?_
  refine e_comp (gok w) ?_ (by kernel_rfl!) (by kernel_rfl!)
  refine ca_rows_of_shelf ?_ (by kernel_rfl!)
  refine lc ?_
  refine ev ?_
  refine l_nil ?_
  refine rows_ok hs ?_
  refine compM (f := id) (pr := fun q => match q with | .tup (.int x :: _) => !decide (x ∈ (packL (M + 1) gs).map (·.1)) | _ => false) src_lst (by have := hs.len; simp; omega) (fun q hq => ?_) ?_
  · refine x1a2 (List.mem_map.mp hq) fun r hr Z1 => ?_; obtain rfl := Z1
    refine t_cmp ?_ rfl
    refine e_sub ?_ (fun _ _ => rfl)
    refine ev ?_
    refine e_int ?_
    refine sub_T (by decide) rfl (Nat.le_of_ble_eq_true rfl) ?_
    refine ev ?_
    refine o_ninD (gok w) rfl ?_
    refine tr_bool ?_
    refine ⟨rfl, rfl, fun _ => ?_⟩
    refine ev ?_
    exact ⟨rfl, rfl⟩
  rw [show ((R.map row3).filter fun q => match q with | .tup (.int x :: _) => !decide (x ∈ (packL (M + 1) gs).map (·.1)) | _ => false).map id = (keptR gs R).map row3 from by
    rw [List.filter_map, List.map_id, pack_keys]; rfl]
  refine ev ?_
  refine o_addL (l := (keptR gs R).map row3) (m := A.map row3) rfl rfl (by simp at hwl ⊢; omega) ?_
  rw [← List.map_append]
  refine s_cons ?_
  refine xa ?_
  refine ca_file_header ?_ (by kernel_rfl!)
  refine l_nil ?_
  refine file_header_ok ?_
  refine s_cons ?_
  refine x_asgT ?_
  refine ca_object_offsets ?_ (by kernel_rfl!)
  refine lc ?_
  refine ev ?_
  refine lc ?_
  refine ca_len ?_ (by kernel_rfl!)
  refine lc ?_
  refine ev ?_
  refine l_nil ?_
  refine c_lenB (Nat.le_of_ble_eq_true rfl) ?_
  refine lc ?_
  refine ev ?_
  refine l_nil ?_
  refine object_offsets_ok pl.wl pl.ok hndW ?_
  refine ⟨_, g_tup ⟨(fun _ _ e => by cases e), _, g_name (by kernel_rfl!), (fun _ _ e => by cases e), _, g_name (by kernel_rfl!), rfl⟩, ?_⟩
  refine s_cons ?_
  refine xa ?_
  refine e_bin ?_
  refine ev ?_
  refine ev ?_
  refine o_bsAdd (x := hdr) (by omega) ?_
  refine s_cons ?_
  refine xa ?_
  refine ca_used_entries ?_ (by kernel_rfl!)
  refine lc ?_
  refine ev ?_
  refine lc ?_
  refine ev ?_
  refine l_nil ?_
  refine used_entries_ok pl.wl hndW ?_
  generalize hW : keptR gs R ++ A = W at *
  rw [show (((bs hdr).size : Nat) : Int) = 15 from rfl]
  have hul : (usedL 15 W).length = W.length := by
    have e := congrArg List.length (used_keys 15 W)
    rwa [List.length_map, List.length_map] at e
  have hpl : (packL (M + 1) gs).length ≤ 30 := by
    have e := congrArg List.length (pack_keys (M + 1) 0 gs)
    rw [List.length_map] at e
    have := flat_len pl.gk
    have := pl.gl
    rw [e]; omega
  have nd := pl.nd
  have nd1 := (List.nodup_append.mp nd).1
  refine s_for [(⟨⟨[108,111,110,101]⟩⟩, .pv (dP (usedL 15 W))), (⟨⟨[98,111,100,121]⟩⟩, .pv (bp (bodyL W))), (⟨⟨[101,110,116,114,105,101,115]⟩⟩, .loc 6), (⟨⟨[102,105,114,115,116]⟩⟩, .pv (.int (M + 1))), (⟨⟨[103,114,111,117,112,115]⟩⟩, .pv (gsP gs))] (fun i σ' => σ' = shT (.lst (L0.map .int)) (.alst [.loc 0, .pv p, .pv q]) D [dO (packL (M + 1) gs ++ (usedL 15 W).take i)]) ?_
  refine ev ?_
  refine ⟨_, _, rfl, src_dctI (by simp), ?_, ?_, fun i q σ' hi hJ => ?_, fun σ' hJ => ?_⟩
  · exact Cov.cons rfl (Cov.cons rfl (Cov.cons rfl (Cov.cons rfl (Cov.cons rfl Cov.nil))))
  · simp
  · subst hJ
    refine x1a2 (at_map hi) fun x hx Z2 => ?_; obtain rfl := Z2
    rw [List.getElem?_map] at hx
    obtain ⟨⟨x', v⟩, hd, e⟩ := Option.map_eq_some_iff.mp hx
    have e' : x' = x := e
    subst e'
    have hmem := List.mem_of_getElem? hd
    have ndu : ((usedL 15 W).map (·.1)).Nodup := by rw [used_keys]; exact hndW
    have hlk : (usedL 15 W).lookup x' = some v := lookup_of_mem ndu hmem
    have hfr : x' ∉ (packL (M + 1) gs ++ (usedL 15 W).take i).map (·.1) := by
      rw [List.map_append, pack_keys]
      intro h
      have nd' : (gs.flatten ++ ((usedL 15 W).take (i + 1)).map (·.1)).Nodup := by
        refine nd1.sublist (List.Sublist.append (List.Sublist.refl _) ?_)
        rw [← used_keys 15 W]
        exact (List.take_sublist _ _).map _
      rw [take_snoc hd, List.map_append, ← List.append_assoc] at nd'
      exact (List.nodup_append.mp nd').2.2 _ h _ (List.mem_singleton.mpr rfl) rfl
    have hD : (packL (M + 1) gs ++ (usedL 15 W).take i).length ≤ 1000000 := by
      rw [List.length_append, List.length_take]; omega
    refine ⟨_, g_name (by kernel_rfl!), ?_⟩
    refine s_one ?_
    refine x_set ?_
    refine e_sub ?_ (fun _ _ => rfl)
    refine ev ?_
    refine ev ?_
    refine sub_dct rfl hlk ?_
    refine ev ?_
    refine ev ?_
    refine set_fresh rfl hfr hD ?_
    refine ⟨Cov.drop rfl Cov.self, ?_⟩
    rw [take_snoc hd, ← List.append_assoc]
    rfl
  · rw [List.length_map, List.length_map, List.take_length] at hJ
    subst hJ
    have hfr : M + 1 + (gs.length : Int) ∉ (packL (M + 1) gs ++ usedL 15 W).map (·.1) := by
      rw [List.map_append, pack_keys, used_keys]
      intro h
      exact (List.nodup_append.mp nd).2.2 _ h _ (List.mem_singleton.mpr rfl) rfl
    have hD : (packL (M + 1) gs ++ usedL 15 W).length ≤ 1000000 := by
      rw [List.length_append]; omega
    have lm : (gs.map fun g => PV.lst (g.map .int)).length = gs.length := List.length_map ..
    have hgl := pl.gl
    have hbo : (bodyL W).length ≤ 1000000 := by
      unfold bodyL; rw [List.length_append]; omega
    refine s_cons ?_
    refine xa ?_
    refine e_bin ?_
    refine ev ?_
    refine ca_len ?_ (by kernel_rfl!)
    refine lc ?_
    refine ev ?_
    refine l_nil ?_
    refine c_lenL rfl (by omega) ?_
    refine o_intadd ?_
    rw [lm]
    refine s_cons ?_
    refine x_set ?_
    refine ca_Entry ?_ (by kernel_rfl!)
    refine lc ?_
    refine e_str ?_
    refine lc ?_
    refine ca_len ?_ (by kernel_rfl!)
    refine lc ?_
    refine ev ?_
    refine l_nil ?_
    refine c_lenB (by rw [bs_size]; exact hbo) ?_
    refine lc ?_
    refine e_int ?_
    refine l_nil ?_
    refine Entry_ok ?_
    refine ev ?_
    refine ev ?_
    refine set_fresh rfl hfr hD ?_
    rw [bs_size, show packL (M + 1) gs ++ usedL 15 W ++ [(M + 1 + (gs.length : Int), ent [117,115,101,100] ((bodyL W).length : Int) 0)] = entL (M + 1) gs W from rfl]
    refine s_frz (gok w) (n := 6) rfl ?_
    have hke : ∀ x ∈ (entL (M + 1) gs W).map (·.1), 0 < x := fun x hx => by
      rw [ent_keys] at hx
      rcases List.mem_append.mp hx with h | h
      · exact pl.pos x h
      · rw [List.mem_singleton.mp h]; have := pl.f; omega
    have hel : (entL (M + 1) gs W).length ≤ 50 := by
      have e := congrArg List.length (ent_keys (F := M + 1) (gs := gs) (W := W))
      unfold entL
      rw [List.length_append, List.length_append, hul]
      simp only [List.length_cons, List.length_nil]
      omega
    have hf := pl.f
    refine s_one ?_
    refine x_ret ?_
    refine e_tup ?_
    refine lc ?_
    refine ev ?_
    refine lc ?_
    refine ca_with_free ?_ (by kernel_rfl!)
    refine lc ?_
    refine ev ?_
    refine lc ?_
    refine e_bin ?_
    refine ev ?_
    refine e_int ?_
    refine o_intadd ?_
    refine l_nil ?_
    refine with_free_ok (D := entL (M + 1) gs W) (top := M + 1 + (gs.length : Int) + 1) (by omega) hke (by rw [ent_keys]; exact nd) hel ?_
    refine lc ?_
    refine ev ?_
    refine l_nil ?_
    refine ⟨_, rfl, Nat.le_of_ble_eq_true rfl, ?_⟩
    refine ⟨_, [.dead], rfl, rfl, ?_⟩
    exact h
end
noncomputable abbrev row4 (r : Rw) : PV := .tup [.int r.n, .int r.g, sg r.t, r.v]
theorem str_app (a b : List Nat) : (⟨⟨a⟩⟩ : Str) ++ (⟨⟨b⟩⟩ : Str) = ⟨⟨a ++ b⟩⟩ := by
  show Str.mk (_ ++ _) = _
  simp
noncomputable def plcL : Int → List Rw → List (Int × PV)
  | _, [] => []
  | a, r :: R => (r.n, .tup [.int a, .int r.g]) :: plcL (a + (r.line.length : Int)) R
theorem plcL_app : ∀ (a : Int) (R S : List Rw), plcL a (R ++ S) = plcL a R ++ plcL (a + sumL R) S
  | a, [], S => by simp [plcL, sumL]
  | a, r :: R, S => by
    rw [List.cons_append, plcL, plcL_app, plcL, sumL, List.cons_append, Int.add_assoc]
theorem plc_keys : ∀ (a : Int) (R : List Rw), (plcL a R).map (·.1) = R.map (·.n)
  | _, [] => rfl
  | a, r :: R => by rw [plcL, List.map_cons, plc_keys, List.map_cons]
theorem sumL_eq : ∀ R : List Rw, ((R.map Rw.line).flatten.length : Int) = sumL R
  | [] => rfl
  | r :: R => by
    have := sumL_eq R
    rw [List.map_cons, List.flatten_cons, List.length_append, sumL]
    omega
section
variable {prog : Program} {w : World} {k : Nat} {σ τ : List MO} {Q : AV → List MO → Prop} {b : Bool} {D : List (Int × PV)} {R : List Rw}
theorem o_sgAdd {x y : List Nat} (hl : x.length + y.length ≤ 1000000) (h : Q (.pv (sg (x ++ y))) σ) : Op2 prog w (GH w) k (binaryOp .Add) (.pv (sg x)) (.pv (sg y)) σ Q := o_strAdd (by show x.length + y.length ≤ _; omega) (by rw [str_app]; exact h)
theorem law_pen_ok {l : List Int} (hl : l.length ≤ 1000000) (h : ∀ σ', Pn σ' [] → Q (.loc 1) σ') : COk prog w (GH w) (k + 3) (.ref 604) [.pv (.lst (l.map .int))] [] Q := by
  refine cf (gok w) (fn__law_pen w) (xs := [⟨⟨[115,99,114,105,112,116]⟩⟩]) (hb1 fun _ _ _ _ _ _ _ _ => rfl) ?_
  refine s_one ?_
  refine x_ret ?_
  refine e_listA (gok w) ?_
  refine lc ?_
  refine e_comp (gok w) ?_ (by kernel_rfl!) (by kernel_rfl!)
  refine e_cut ?_
  refine ev ?_
  refine ⟨_, rfl, by simpa using hl, ?_⟩
  refine compO0 (f := fun q => match q with | .int x => .int (2 * (if x < 0 then -x else x) + (if decide (x < 0) then 1 else 0)) | q => q) src_lst (by simp; omega) (fun q hq => ?_) ?_
  · refine x1a2 (List.mem_map.mp (List.mem_of_mem_take hq)) fun x hx Z1 => ?_; obtain rfl := Z1
    refine e_bin ?_
    refine e_bin ?_
    refine e_int ?_
    refine ca_abs ?_ (by kernel_rfl!)
    refine lc ?_
    refine ca_int ?_ (by kernel_rfl!)
    refine lc ?_
    refine ev ?_
    refine l_nil ?_
    refine c_intI ?_
    refine l_nil ?_
    refine c_abs ?_
    refine o_mul (IntMulOk.of_left (by decide)) ?_
    refine ca_int ?_ (by kernel_rfl!)
    refine lc ?_
    refine e_cmp ?_ rfl
    refine ev ?_
    refine e_int ?_
    refine o_lt ?_
    refine l_nil ?_
    refine c_intB ?_
    refine o_intadd ?_
    exact ⟨rfl, rfl⟩
  · rw [← List.map_take, List.map_map]
    refine lc ?_
    refine e_int ?_
    refine lc ?_
    refine e_int ?_
    refine l_nil ⟨Nat.le_of_ble_eq_true rfl, ?_⟩
    exact h _ ⟨(l.take 40).map (fun x => 2 * (if x < 0 then -x else x) + (if decide (x < 0) then 1 else 0)), 0,0, by simp [penO, Function.comp_def], by simp; omega⟩
theorem law_pick_ok {l : List PV} (hp : Pn σ τ) (h1 : 0 < l.length) (h2 : l.length < 100) (h : ∀ p σ', p ∈ l → Pn σ' τ → Q (.pv p) σ') : COk prog w (GH w) (k + 7) (.ref 618) [.loc 1, .pv (.lst l)] σ Q := by
  refine cf (gok w) (fn__law_pick w) (xs := [⟨⟨[112,101,110]⟩⟩, ⟨⟨[115,111,109,101]⟩⟩]) (hb2 fun _ _ _ _ _ _ _ _ _ => rfl) ?_
  refine s_one ?_
  refine x_ret ?_
  refine e_sub ?_ (fun _ _ => rfl)
  refine ev ?_
  refine ca__law_draw ?_ (by kernel_rfl!)
  refine lc ?_
  refine ev ?_
  refine lc ?_
  refine ca_len ?_ (by kernel_rfl!)
  refine lc ?_
  refine ev ?_
  refine l_nil ?_
  refine c_lenL rfl (by omega) ?_
  refine l_nil ?_
  refine draw_ok hp (by omega) (by omega) (fun d σ' h0 h1 hp' => ?_)
  have hd : l[d.toNat]? = some l[d.toNat] := List.getElem?_eq_getElem (by omega)
  refine sub_L rfl h0 hd (by omega) ?_
  exact h _ _ (List.getElem_mem _) hp'
theorem law_lines_ok {n g : Int} {t : List Nat} (hn : 0 ≤ n ∧ n < 40) (hg : 0 ≤ g ∧ g < 40) (hl : t.length ≤ 100) (ht : ∀ c ∈ t, c < 256) (h : Q (.pv (bp (lineOf n g t))) σ) : COk prog w (GH w) (k + 6) (.ref 630) [.pv (.int n), .pv (.int g), .pv (sg t)] σ Q := by
  have d1 := dg_in hn.1 hn.2
  have d2 := dg_in hg.1 hg.2
  have l1 := d1.2
  have l2 := d2.2
  have hc : ∀ c ∈ lineOf n g t, c < 256 := by
    intro c hc
    unfold lineOf at hc
    simp only [List.mem_append] at hc
    rcases hc with ((((h | h) | h) | h) | h) | h
    · exact d1.1 c h
    · rw [List.mem_singleton.mp h]; decide
    · exact d2.1 c h
    · revert c; decide
    · exact ht c h
    · revert c; decide
  refine cf (gok w) (fn__law_lines w) (xs := [⟨⟨[110,117,109,98,101,114]⟩⟩, ⟨⟨[103,101,110,101,114,97,116,105,111,110]⟩⟩, ⟨⟨[116,101,120,116]⟩⟩]) (hb3 fun _ _ _ _ _ _ _ _ _ _ => rfl) ?_
  refine s_one ?_
  refine x_ret ?_
  refine ca__law_octets ?_ (by kernel_rfl!)
  refine lc ?_
  refine e_bin ?_
  refine e_bin ?_
  refine e_bin ?_
  refine e_bin ?_
  refine e_bin ?_
  refine ca_str ?_ (by kernel_rfl!)
  refine lc ?_
  refine ev ?_
  refine l_nil ?_
  refine c_strI (x := n) (Nat.lt_of_le_of_lt (Nat.log2_le_self _) (by omega)) ?_
  refine e_str ?_
  refine o_sgAdd (x := dg n) (y := [32]) (by simp; omega) ?_
  refine ca_str ?_ (by kernel_rfl!)
  refine lc ?_
  refine ev ?_
  refine l_nil ?_
  refine c_strI (x := g) (Nat.lt_of_le_of_lt (Nat.log2_le_self _) (by omega)) ?_
  refine o_sgAdd (y := dg g) (by simp; omega) ?_
  refine e_str ?_
  refine o_sgAdd (y := [32,111,98,106,10]) (by simp; omega) ?_
  refine ev ?_
  refine o_sgAdd (by simp; omega) ?_
  refine e_str ?_
  refine o_sgAdd (y := [10,101,110,100,111,98,106,10]) (by simp; omega) ?_
  refine l_nil ?_
  refine law_octets_ok hc (by simp; omega) h
end
section
variable {prog : Program} {w : World} {k : Nat} {σ τ : List MO} {Q : AV → List MO → Prop} {b : Bool} {D : List (Int × PV)} {R : List Rw}
theorem lines_len {W : List Rw} (h : ∀ r ∈ W, r.Ok b) : (W.map Rw.line).flatten.length ≤ 200 * W.length := by
  induction W with
  | nil => simp
  | cons r W ih =>
    have h1 := (h r (List.mem_cons_self ..)).len
    have h2 := ih fun x hx => h x (List.mem_cons_of_mem _ hx)
    rw [List.map_cons, List.flatten_cons, List.length_append, List.length_cons, Nat.mul_add, Nat.mul_one]
    omega
theorem Wr.oct {v : PV} {t : List Nat} (r : Wr b v t) : ∀ c ∈ t, c < 256 := by
  cases r with
  | wo x => cases x <;> decide
  | strm => cases b <;> decide
theorem law_due_0 {gs : List (List Int)} {A : List Rw} {bd : List Nat} (hg1 : gs.length ≤ 3) (hg2 : ∀ g ∈ gs, g.length ≤ 10) (hR : R.length ≤ 15) (hl : (keptR gs R ++ A).length ≤ 15) (hok : ∀ r ∈ keptR gs R ++ A, r.Ok b) (nd : ((keptR gs R ++ A).map (·.n)).Nodup) (hb : bd.length ≤ 100) :
    COk prog w (GH w) (k + 12) (.ref 640) [.pv (.lst (R.map row4)), .pv (gsP gs), .pv (.lst (A.map row4)), .pv (bp bd)] [] fun v _ => ∃ p, v = .pv p ∧ p = .tup [bp (bd ++ ((keptR gs R ++ A).map Rw.line).flatten), dP (plcL (bd.length : Int) (keptR gs R ++ A))] := by
  have hfl : ∀ i, ((gs.take i).flatten).length ≤ 30 := fun i => by
    have h1 := flat_len (gs := gs.take i) fun g hg => hg2 g (List.mem_of_mem_take hg)
    rw [List.length_take] at h1
    omega
  refine cf (gok w) (fn__law_due w) (xs := [⟨⟨[114,111,119,115]⟩⟩, ⟨⟨[103,114,111,117,112,115]⟩⟩, ⟨⟨[97,100,100,101,100]⟩⟩, ⟨⟨[98,111,100,121]⟩⟩]) (hb4 fun _ _ _ _ _ _ _ _ _ _ _ => rfl) ?_
  refine s_cons ?_
  refine xa ?_
  refine e_list ?_
  refine l_nil ?_
  refine ⟨_, rfl, Nat.le_of_ble_eq_true rfl, ?_⟩
  refine s_cons ?_
  refine x_for ?_
  refine ev ?_
  refine ⟨_, _, rfl, src_lst, fun i V' σ' => Cov V' [(⟨⟨[105,110,115,105,100,101]⟩⟩, .pv (.lst ((gs.take i).flatten.map .int))), (⟨⟨[114,111,119,115]⟩⟩, .pv (.lst (R.map row4))), (⟨⟨[97,100,100,101,100]⟩⟩, .pv (.lst (A.map row4))), (⟨⟨[98,111,100,121]⟩⟩, .pv (bp bd))] ∧ σ' = [], ⟨?_, rfl⟩, fun i q V' σ' hi hJ => ?_, fun V' σ' hJ => ?_⟩
  · exact Cov.cons rfl (Cov.cons rfl (Cov.cons rfl (Cov.cons rfl Cov.nil)))
  · obtain ⟨hc, rfl⟩ := hJ
    refine x1a2 (at_map hi) fun g hg Z2 => ?_; obtain rfl := Z2
    have hgl := hg2 g (List.mem_of_getElem? hg)
    have hfi := hfl i
    have hai : ((gs.take i).flatten.map PV.int).length + (g.map PV.int).length ≤ 1000000 := by rw [List.length_map, List.length_map]; omega
    refine ⟨_, g_name (by kernel_rfl!), ?_⟩
    refine SOk.cov ?_ (Cov.keep hc)
    refine s_one ?_
    refine xa ?_
    refine e_bin ?_
    refine ev ?_
    refine ev ?_
    refine o_addL (l := (gs.take i).flatten.map .int) (m := g.map .int) rfl rfl hai ?_
    refine ⟨?_, rfl⟩
    rw [take_snoc hg, List.flatten_append, List.map_append]
    refine Cov.cons ?_ (Cov.cons rfl (Cov.cons rfl (Cov.cons rfl Cov.nil)))
    show some _ = some _
    simp
  · obtain ⟨hc, rfl⟩ := hJ
    rw [List.length_map, List.take_length] at hc
    refine SOk.cov ?_ hc
    refine s_cons ?_
    refine xa ?_
    refine e_dictI (gok w) ?_
    refine s_cons ?_
    refine xa ?_
    refine ev ?_
    generalize hW : keptR gs R ++ A = W at *
    have hll := lines_len hok
    refine s_joinV [(⟨⟨[100,97,116,97]⟩⟩, .pv (bp (bd ++ (W.map Rw.line).flatten))), (⟨⟨[112,108,97,99,101,115]⟩⟩, .loc 0)] (fun σ' => σ' = [dO (plcL (bd.length : Int) W)]) ?_ ?_
    · refine x_for ?_
      refine e_bin ?_
      refine e_comp (gok w) ?_ (by kernel_rfl!) (by kernel_rfl!)
      refine ev ?_
      refine compM (f := id) (pr := fun q => match q with | .tup (.int x :: _) => !(gs.flatten.any (· == x)) | _ => false) src_lst (by simp; omega) (fun q hq => ?_) ?_
      · refine x1a2 (List.mem_map.mp hq) fun r hr Z4 => ?_; obtain rfl := Z4
        refine t_cmp ?_ rfl
        refine e_sub ?_ (fun _ _ => rfl)
        refine ev ?_
        refine e_int ?_
        refine sub_T (by decide) rfl (Nat.le_of_ble_eq_true rfl) ?_
        refine ev ?_
        refine o_ninL (ns := gs.flatten) rfl ?_
        refine tr_bool ?_
        refine ⟨rfl, rfl, fun _ => ?_⟩
        refine ev ?_
        exact ⟨rfl, rfl⟩
      rw [show ((R.map row4).filter fun q => match q with | .tup (.int x :: _) => !(gs.flatten.any (· == x)) | _ => false).map id = (keptR gs R).map row4 from by
        rw [List.filter_map, List.map_id]
        unfold keptR
        congr 1
        refine List.filter_congr fun r _ => ?_
        show (!(gs.flatten.any (· == r.n))) = !decide (r.n ∈ gs.flatten)
        congr 1
        rw [List.any_beq']
        simp]
      refine ev ?_
      have hl2 : (keptR gs R).length + A.length ≤ 15 := by rw [← List.length_append, hW]; exact hl
      refine o_addL (l := (keptR gs R).map row4) (m := A.map row4) rfl rfl (by simp; omega) ?_
      rw [← List.map_append, hW]
      refine ⟨_, _, rfl, src_lst, fun i V' σ' => Cov V' [(⟨⟨[100,97,116,97]⟩⟩, .pv (bp (bd ++ ((W.take i).map Rw.line).flatten))), (⟨⟨[112,108,97,99,101,115]⟩⟩, .loc 0)] ∧ σ' = [dO (plcL (bd.length : Int) (W.take i))], ⟨?_, rfl⟩, fun i q V' σ' hi hJ => ?_, fun V' σ' hJ => ?_⟩
      · refine Cov.cons ?_ (Cov.cons rfl Cov.nil)
        show some _ = some _
        simp
      · obtain ⟨hc, rfl⟩ := hJ
        refine x1a2 (at_map hi) fun r hr Z6 => ?_; obtain rfl := Z6
        have ok := hok r (List.mem_of_getElem? hr)
        have hrl := ok.len
        have hll' : ((W.take i).map Rw.line).flatten.length ≤ 3000 := by
          have h1 := lines_len (W := W.take i) (b := b) fun r h => hok r (List.mem_of_mem_take h)
          rw [List.length_take] at h1
          omega
        have hbl : (bd ++ ((W.take i).map Rw.line).flatten).length ≤ 4000 := by rw [List.length_append]; omega
        have hfr : r.n ∉ (plcL (bd.length : Int) (W.take i)).map (·.1) := by rw [plc_keys]; exact fresh_at nd hr
        have hD : (plcL (bd.length : Int) (W.take i)).length ≤ 1000000 := by
          have e := congrArg List.length (plc_keys (bd.length : Int) (W.take i))
          rw [List.length_map, List.length_map, List.length_take] at e
          omega
        have hlen : (lineOf r.n r.g r.t).length ≤ 200 := hrl
        refine ⟨_, g_tup ⟨(fun _ _ e => by cases e), _, g_name (by kernel_rfl!), (fun _ _ e => by cases e), _, g_name (by kernel_rfl!), (fun _ _ e => by cases e), _, g_name (by kernel_rfl!), (fun _ _ e => by cases e), _, g_name (by kernel_rfl!), rfl⟩, ?_⟩
        refine SOk.cov (V' := [(⟨⟨[119,111,114,116,104]⟩⟩, .pv r.v), (⟨⟨[116,101,120,116]⟩⟩, .pv (sg r.t)), (⟨⟨[103,101,110,101,114,97,116,105,111,110]⟩⟩, .pv (.int r.g)), (⟨⟨[110,117,109,98,101,114]⟩⟩, .pv (.int r.n)), (⟨⟨[100,97,116,97]⟩⟩, .pv (bp (bd ++ ((W.take i).map Rw.line).flatten))), (⟨⟨[112,108,97,99,101,115]⟩⟩, .loc 0)]) ?_ (Cov.keep (Cov.keep (Cov.keep (Cov.keep hc))))
        refine s_cons ?_
        refine x_set ?_
        refine e_tup ?_
        refine lc ?_
        refine ca_len ?_ (by kernel_rfl!)
        refine lc ?_
        refine ev ?_
        refine l_nil ?_
        refine c_lenB (by rw [bs_size]; omega) ?_
        refine lc ?_
        refine ev ?_
        refine l_nil ?_
        refine ⟨_, rfl, Nat.le_of_ble_eq_true rfl, ?_⟩
        refine ev ?_
        refine ev ?_
        refine set_fresh rfl hfr hD ?_
        refine s_one ?_
        refine xa ?_
        refine e_bin ?_
        refine ev ?_
        refine ca__law_lines ?_ (by kernel_rfl!)
        refine lc ?_
        refine ev ?_
        refine lc ?_
        refine ev ?_
        refine lc ?_
        refine ev ?_
        refine l_nil ?_
        refine law_lines_ok ok.n ok.g ok.w.len ok.w.oct ?_
        refine o_bsAdd (by omega) ?_
        refine ⟨?_, ?_⟩
        · rw [take_snoc hr]
          refine Cov.cons ?_ (Cov.cons rfl Cov.nil)
          show some _ = some _
          rw [List.map_append, List.flatten_append, ← List.append_assoc]
          simp [Rw.line]
        · rw [take_snoc hr, plcL_app, bs_size, List.length_append]
          show [dO _] = _
          rw [show (((bd.length + ((W.take i).map Rw.line).flatten.length : Nat)) : Int) = (bd.length : Int) + sumL (W.take i) by rw [← sumL_eq]; omega]
          rfl
      · rw [List.length_map, List.take_length] at hJ
        exact hJ
    · rintro σ' rfl
      refine s_one ?_
      refine x_ret ?_
      refine e_tup ?_
      refine lc ?_
      refine ev ?_
      refine lc ?_
      refine e_freeze (gok w) (e_var rfl ⟨0, _, rfl, ?_⟩ (by kernel_rfl!))
      refine l_nil ?_
      refine ⟨_, rfl, Nat.le_of_ble_eq_true rfl, ?_⟩
      exact ⟨_, rfl, rfl⟩
theorem law_due_ok {gs : List (List Int)} {A : List Rw} {bd : List Nat} (hg1 : gs.length ≤ 3) (hg2 : ∀ g ∈ gs, g.length ≤ 10) (hR : R.length ≤ 15) (hl : (keptR gs R ++ A).length ≤ 15) (hok : ∀ r ∈ keptR gs R ++ A, r.Ok b) (nd : ((keptR gs R ++ A).map (·.n)).Nodup) (hb : bd.length ≤ 100)
    (h : Q (.pv (.tup [bp (bd ++ ((keptR gs R ++ A).map Rw.line).flatten), dP (plcL (bd.length : Int) (keptR gs R ++ A))])) σ) :
    COk prog w (GH w) (k + 12) (.ref 640) [.pv (.lst (R.map row4)), .pv (gsP gs), .pv (.lst (A.map row4)), .pv (bp bd)] σ Q := c_pure rfl (law_due_0 hg1 hg2 hR hl hok nd hb) fun p e => by subst e; exact h
end
noncomputable abbrev baseO (D : List (Int × PV)) : List MO := [.dead, .ns shN [.loc 5, .pv (.dctI [] [])], .ins 417 3, dO D]
structure GP (R : List Rw) (i : Nat) (gs : List (List Int)) : Prop where
  nd : gs.flatten.Nodup
  sub : ∀ x ∈ gs.flatten, x ∈ (R.take i).map (·.n)
  len : ∀ g ∈ gs, g.length ≤ i
theorem GP.step {R : List Rw} {i : Nat} {gs : List (List Int)} (h : GP R i gs) : GP R (i + 1) gs := ⟨h.nd, fun x hx => by
  have := h.sub x hx
  refine x1a2 (List.mem_map.mp this) fun r hr e => ?_
  exact List.mem_map.mpr ⟨r, (List.take_sublist_take_left (Nat.le_succ i)).subset hr, e⟩, fun g hg => by have := h.len g hg; omega⟩
theorem GP.fresh {R : List Rw} {i : Nat} {gs : List (List Int)} {r : Rw} (h : GP R i gs) (nd : (R.map (·.n)).Nodup) (hr : R[i]? = some r) : r.n ∉ gs.flatten := fun hm => fresh_at nd hr (h.sub _ hm)
theorem GP.add {R : List Rw} {i : Nat} {p q : List (List Int)} {g : List Int} {r : Rw} (h : GP R i (p ++ g :: q)) (nd : (R.map (·.n)).Nodup) (hr : R[i]? = some r) : GP R (i + 1) (p ++ (g ++ [r.n]) :: q) := by
  have hf := h.fresh nd hr
  have s := h.step
  have perm : ((p ++ (g ++ [r.n]) :: q).flatten).Perm (r.n :: (p ++ g :: q).flatten) := by
    simp only [List.flatten_append, List.flatten_cons]
    rw [← List.append_assoc, ← List.append_assoc, List.append_assoc]
    refine (List.perm_middle (l₁ := p.flatten ++ g) (l₂ := q.flatten) (a := r.n)).trans ?_ |> fun z => by simpa using z
    simp
  refine ⟨perm.nodup_iff.mpr (List.nodup_cons.mpr ⟨hf, h.nd⟩), fun x hx => ?_, fun y hy => ?_⟩
  · rcases List.mem_cons.mp (perm.mem_iff.mp hx) with rfl | hx
    · rw [take_snoc hr, List.map_append]
      exact List.mem_append_right _ (List.mem_singleton.mpr rfl)
    · exact s.sub x hx
  · rcases List.mem_append.mp hy with hy | hy
    · exact s.len y (List.mem_append_left _ hy)
    · rcases List.mem_cons.mp hy with rfl | hy
      · have := h.len g (List.mem_append_right _ (List.mem_cons_self ..))
        rw [List.length_append]; simp; omega
      · exact s.len y (List.mem_append_right _ (List.mem_cons_of_mem _ hy))
theorem GP.filter {R : List Rw} {i : Nat} {gs : List (List Int)} (h : GP R i gs) (p : List Int → Bool) : GP R i (gs.filter p) := by
  have s : (gs.filter p).flatten.Sublist gs.flatten := by
    clear h
    induction gs with
    | nil => exact List.Sublist.refl _
    | cons g gs ih =>
      rw [List.filter_cons]
      split
      · exact List.Sublist.append (List.Sublist.refl _) ih
      · rw [List.flatten_cons]; exact ih.trans (List.sublist_append_right _ _)
  exact ⟨h.nd.sublist s, fun x hx => h.sub x (s.subset hx), fun g hg => h.len g (List.mem_filter.mp hg).1⟩
theorem eqv_nil : ∀ g : List Int, (!PyData.eqv (.list (g.map .int)) (.list [])) = !g.isEmpty
  | [] => rfl
  | _ :: _ => rfl
noncomputable def isGr : PV → Bool
  | .lst l => !l.isEmpty
  | _ => false
theorem filt_map (gs : List (List Int)) : ((gs.map fun g => PV.lst (g.map .int)).filter isGr).map id = (gs.filter fun g => !g.isEmpty).map (fun g => PV.lst (g.map .int)) := by
  rw [List.filter_map, List.map_id]
  congr 1
  refine List.filter_congr fun g _ => ?_
  show (!(g.map PV.int).isEmpty) = _
  cases g <;> rfl
theorem pen_cut {l l' : List Int} {a b a' b' : Int} {τ : List MO} : ∀ (i : Nat) m, (penO l a b τ)[i]? = some m → (penO l' a' b' τ)[i]? = some m ∨ moB (penO l' a' b' τ).length m = true
  | 0, m, e => .inr (by cases e; rfl)
  | 1, m, e => .inr (by cases e; rfl)
  | i + 2, m, e => .inl e
section
variable {prog : Program} {w : World} {k : Nat} {σ τ : List MO} {Q : AV → List MO → Prop} {b : Bool} {D : List (Int × PV)} {R : List Rw}
theorem law_groups_ok (hp : Pn σ (baseO D)) (hR : R.length ≤ 8) (nd : (R.map (·.n)).Nodup) (h : ∀ gs σ', Pn σ' (baseO D) → gs.length ≤ 2 → GP R R.length gs → Q (.pv (gsP gs)) σ') : COk prog w (GH w) (k + 10) (.ref 635) [.loc 1, .pv (.lst (R.map row4))] σ Q := by
  refine x3a2 hp fun l0 a0 b0 Z1 hl0 => ?_; clear hp; obtain rfl := Z1
  refine c_trim ?_
  refine cf (gok w) (fn__law_groups w) (xs := [⟨⟨[112,101,110]⟩⟩, ⟨⟨[114,111,119,115]⟩⟩]) (hb2 fun _ _ _ _ _ _ _ _ _ => rfl) ?_
  refine s_cons ?_
  refine x_asgC (gok w) ?_ (by kernel_rfl!) (by kernel_rfl!) (by kernel_rfl!)
  refine ca_range ?_ (by kernel_rfl!)
  refine lc ?_
  refine ca__law_draw ?_ (by kernel_rfl!)
  refine lc ?_
  refine ev ?_
  refine lc ?_
  refine e_int ?_
  refine l_nil ?_
  refine draw_ok ⟨l0, a0, b0, rfl, hl0⟩ (by decide) (by decide) (fun d σ' hd0 hd1 hp' => ?_)
  refine l_nil ?_
  refine c_range1 ?_
  refine x3a2 hp' fun l a b' Z2 hl => ?_; clear hp'; obtain rfl := Z2
  have hd : d = 0 ∨ d = 1 ∨ d = 2 := by omega
  refine ⟨_, _, rfl, src_rng (small_of (by omega) (by omega)), by rw [rng_len]; omega, fun i acc σ' => acc = (List.range i).map (fun j => .loc (6 + j)) ∧ σ' = penO l a b' (baseO D ++ List.replicate i (.lst [])), ⟨rfl, rfl⟩, ?_, ?_⟩
  · rintro i q acc σ' hi ⟨rfl, rfl⟩
    refine ⟨fun _ => ?_, fun h => (by cases h)⟩
    refine e_listM (gok w) ?_
    refine l_nil ⟨_, rfl, Nat.zero_le _, ?_, ?_⟩
    · rw [List.range_succ, List.map_append]
      simp [penO]
      omega
    · rw [List.replicate_succ']
      simp [penO]
  rintro acc σ' ⟨rfl, rfl⟩
  refine .inr (.inr ?_)
  rw [rng_len]
  rcases hd with rfl | rfl | rfl
  · show SOk _ _ _ _ _ _ _ _ _
    refine s_for [(⟨⟨[103,114,111,117,112,115]⟩⟩, .loc 6), (⟨⟨[112,101,110]⟩⟩, .loc 1)] (fun i σ' => ∃ l a b', σ' = penO l a b' (baseO D ++ [.alst []]) ∧ l.length ≤ 40 ∧ GP R i []) ?_
    refine ev ?_
    refine ⟨_, _, rfl, src_lst, ?_, ⟨l, a, b', rfl, hl, ⟨by simp, by simp, by simp⟩⟩, fun i q σ' hi hJ => ?_, fun σ' hJ => ?_⟩
    · exact Cov.cons rfl (Cov.cons rfl Cov.nil)
    · refine x3a2 hJ fun l a b' Z3 Z4 => ?_; clear hJ; obtain rfl := Z3; obtain ⟨hl, gp⟩ := Z4
      refine x1a2 (at_map hi) fun r hr Z5 => ?_; obtain rfl := Z5
      refine ⟨_, g_tup ⟨(fun _ _ e => by cases e), _, g_name (by kernel_rfl!), (fun _ _ e => by cases e), _, g_name (by kernel_rfl!), (fun _ _ e => by cases e), _, g_name (by kernel_rfl!), (fun _ _ e => by cases e), _, g_name (by kernel_rfl!), rfl⟩, ?_⟩
      refine s_cons ?_
      refine xa ?_
      refine ca__law_draw ?_ (by kernel_rfl!)
      refine lc ?_
      refine ev ?_
      refine lc ?_
      refine e_int ?_
      refine l_nil ?_
      refine draw_ok ⟨l, a, b', rfl, hl⟩ (by decide) (by decide) (fun s σ' hs0 hs1 hp' => ?_)
      refine x3a2 hp' fun l a b' Z6 hl => ?_; clear hp'; obtain rfl := Z6
      have cv : ∀ {V V0 : VEnv}, V = V → True := fun _ => trivial
      refine s_one ?_
      refine x_if ?_
      refine t_bool (a_and ?_)
      refine t_cmp ?_ rfl
      refine ev ?_
      refine e_int ?_
      refine o_eqI ?_
      refine tr_bool ?_
      refine ⟨fun h1 => a_and ?_, fun h1 => ⟨fun h => (by cases h), fun _ => s_nil ⟨?_, l, a, b', rfl, hl, gp.step⟩⟩⟩
      · refine t_cmp ?_ rfl
        refine ev ?_
        refine ca_len ?_ (by kernel_rfl!)
        refine lc ?_
        refine ev ?_
        refine l_nil ?_
        refine c_lenA rfl (Nat.le_of_ble_eq_true rfl) ?_
        refine o_lt ?_
        refine tr_bool ?_
        refine ⟨fun h2 => a_and_nil ⟨fun _ => ?_, fun h => (by cases h)⟩, fun h2 => ⟨fun h => (by cases h), fun _ => s_nil ⟨?_, l, a, b', rfl, hl, gp.step⟩⟩⟩
        · have := of_decide_eq_true h2
          simp at this <;> omega
        · exact Cov.drop rfl (Cov.drop rfl (Cov.drop rfl (Cov.drop rfl (Cov.drop rfl Cov.self))))
      · exact Cov.drop rfl (Cov.drop rfl (Cov.drop rfl (Cov.drop rfl (Cov.drop rfl Cov.self))))
    · refine x3a2 hJ fun l a b' Z7 Z8 => ?_; clear hJ; obtain rfl := Z7; obtain ⟨hl, gp⟩ := Z8
      rw [List.length_map] at gp
      refine s_tell (n := 6) rfl rfl ?_
      refine s_frz (gok w) (n := 6) rfl ?_
      refine s_one ?_
      refine x_ret ?_
      refine e_comp (gok w) ?_ (by kernel_rfl!) (by kernel_rfl!)
      refine ev ?_
      refine compM (f := id) (pr := isGr) (l := ([] : List (List Int)).map fun g => PV.lst (g.map .int)) src_lst (Nat.le_of_ble_eq_true rfl) (fun q hq => ?_) ?_
      · refine x1a2 (List.mem_map.mp hq) fun g hg Z9 => ?_; obtain rfl := Z9
        refine t_cmp ?_ rfl
        refine ev ?_
        refine e_list ?_
        refine l_nil ?_
        refine ⟨_, rfl, Nat.le_of_ble_eq_true rfl, ?_⟩
        refine o_ne (da := .list (g.map .int)) (db := .list []) (by show (pdL (g.map .int)).map PyData.list = _; rw [pdL_ints]; rfl) rfl (shaped_ints g) (by decide) ?_
        refine tr_bool ?_
        refine ⟨rfl, ?_, fun _ => ?_⟩
        · rw [eqv_nil]
          show _ = !(g.map PV.int).isEmpty
          cases g <;> rfl
        · refine ev ?_
          exact ⟨rfl, rfl⟩
      · refine ⟨_, penO l a b' (baseO D), [.dead], rfl, rfl, rfl, pen_cut, ?_⟩
        rw [show ((([] : List (List Int)).map fun g => PV.lst (g.map .int)).filter isGr).map id = (([] : List (List Int)).filter fun g => !g.isEmpty).map (fun g => PV.lst (g.map .int)) from filt_map _]
        refine h _ _ ⟨l, a, b', rfl, hl⟩ ?_ (gp.filter _)
        exact Nat.le_trans (List.length_filter_le _ _) (by simp)
  · show SOk _ _ _ _ _ _ _ _ _
    refine s_for [(⟨⟨[103,114,111,117,112,115]⟩⟩, .loc 7), (⟨⟨[112,101,110]⟩⟩, .loc 1)] (fun i σ' => ∃ l a b' g0, σ' = penO l a b' (baseO D ++ [.lst (g0.map PV.int), .alst [.loc 6]]) ∧ l.length ≤ 40 ∧ GP R i [g0]) ?_
    refine ev ?_
    refine ⟨_, _, rfl, src_lst, ?_, ⟨l, a, b', [], rfl, hl, ⟨by simp, by simp, by simp⟩⟩, fun i q σ' hi hJ => ?_, fun σ' hJ => ?_⟩
    · exact Cov.cons rfl (Cov.cons rfl Cov.nil)
    · refine x4a2 hJ fun l a b' g0 Z10 Z11 => ?_; clear hJ; obtain rfl := Z10; obtain ⟨hl, gp⟩ := Z11
      refine x1a2 (at_map hi) fun r hr Z12 => ?_; obtain rfl := Z12
      refine ⟨_, g_tup ⟨(fun _ _ e => by cases e), _, g_name (by kernel_rfl!), (fun _ _ e => by cases e), _, g_name (by kernel_rfl!), (fun _ _ e => by cases e), _, g_name (by kernel_rfl!), (fun _ _ e => by cases e), _, g_name (by kernel_rfl!), rfl⟩, ?_⟩
      refine s_cons ?_
      refine xa ?_
      refine ca__law_draw ?_ (by kernel_rfl!)
      refine lc ?_
      refine ev ?_
      refine lc ?_
      refine e_int ?_
      refine l_nil ?_
      refine draw_ok ⟨l, a, b', rfl, hl⟩ (by decide) (by decide) (fun s σ' hs0 hs1 hp' => ?_)
      refine x3a2 hp' fun l a b' Z13 hl => ?_; clear hp'; obtain rfl := Z13
      have cv : ∀ {V V0 : VEnv}, V = V → True := fun _ => trivial
      refine s_one ?_
      refine x_if ?_
      refine t_bool (a_and ?_)
      refine t_cmp ?_ rfl
      refine ev ?_
      refine e_int ?_
      refine o_eqI ?_
      refine tr_bool ?_
      refine ⟨fun h1 => a_and ?_, fun h1 => ⟨fun h => (by cases h), fun _ => s_nil ⟨?_, l, a, b', g0, rfl, hl, gp.step⟩⟩⟩
      · refine t_cmp ?_ rfl
        refine ev ?_
        refine ca_len ?_ (by kernel_rfl!)
        refine lc ?_
        refine ev ?_
        refine l_nil ?_
        refine c_lenA rfl (Nat.le_of_ble_eq_true rfl) ?_
        refine o_lt ?_
        refine tr_bool ?_
        refine ⟨fun h2 => a_and_nil ⟨fun _ => ?_, fun h => (by cases h)⟩, fun h2 => ⟨fun h => (by cases h), fun _ => s_nil ⟨?_, l, a, b', g0, rfl, hl, gp.step⟩⟩⟩
        · have h3 : s < 1 := of_decide_eq_true h2
          have h4 : s = 0 := by omega
          rcases h4 with rfl
          · have hgl : g0.length ≤ i := gp.len g0 (by simp)
            have hRi := (List.getElem?_eq_some_iff.mp hr).1
            refine s_cons ?_
            refine xa ?_
            refine e_sub ?_ (fun _ _ => rfl)
            refine ev ?_
            refine ev ?_
            refine sub_A rfl (by decide) rfl (Nat.le_of_ble_eq_true rfl) ?_
            refine s_one ?_
            refine x_expr ?_ (fun _ => rfl)
            refine e_mbi (id := "list.append") rfl rfl (by decide) (fun _ => rfl) ?_
            refine ev ?_
            refine ⟨mb_list rfl PySem.F.slot_list_append PySem.F.type_list_append, ?_⟩
            refine lc ?_
            refine ev ?_
            refine l_nil ?_
            refine c_append rfl (by rw [List.length_map]; omega) ?_
            refine ⟨Cov.drop rfl (Cov.drop rfl (Cov.drop rfl (Cov.drop rfl (Cov.drop rfl (Cov.drop rfl Cov.self))))), l, a, b', (g0 ++ [r.n]), ?_, hl, (GP.add (p := []) (q := []) gp nd hr)⟩
            rw [List.map_append]
            rfl
        · exact Cov.drop rfl (Cov.drop rfl (Cov.drop rfl (Cov.drop rfl (Cov.drop rfl Cov.self))))
      · exact Cov.drop rfl (Cov.drop rfl (Cov.drop rfl (Cov.drop rfl (Cov.drop rfl Cov.self))))
    · refine x4a2 hJ fun l a b' g0 Z14 Z15 => ?_; clear hJ; obtain rfl := Z14; obtain ⟨hl, gp⟩ := Z15
      rw [List.length_map] at gp
      refine s_frz (gok w) (n := 6) rfl ?_
      refine s_tell (n := 7) rfl rfl ?_
      refine s_frz (gok w) (n := 7) rfl ?_
      refine s_one ?_
      refine x_ret ?_
      refine e_comp (gok w) ?_ (by kernel_rfl!) (by kernel_rfl!)
      refine ev ?_
      refine compM (f := id) (pr := isGr) (l := ([g0] : List (List Int)).map fun g => PV.lst (g.map .int)) src_lst (Nat.le_of_ble_eq_true rfl) (fun q hq => ?_) ?_
      · refine x1a2 (List.mem_map.mp hq) fun g hg Z16 => ?_; obtain rfl := Z16
        refine t_cmp ?_ rfl
        refine ev ?_
        refine e_list ?_
        refine l_nil ?_
        refine ⟨_, rfl, Nat.le_of_ble_eq_true rfl, ?_⟩
        refine o_ne (da := .list (g.map .int)) (db := .list []) (by show (pdL (g.map .int)).map PyData.list = _; rw [pdL_ints]; rfl) rfl (shaped_ints g) (by decide) ?_
        refine tr_bool ?_
        refine ⟨rfl, ?_, fun _ => ?_⟩
        · rw [eqv_nil]
          show _ = !(g.map PV.int).isEmpty
          cases g <;> rfl
        · refine ev ?_
          exact ⟨rfl, rfl⟩
      · refine ⟨_, penO l a b' (baseO D), [.dead, .dead], rfl, rfl, rfl, pen_cut, ?_⟩
        rw [show ((([g0] : List (List Int)).map fun g => PV.lst (g.map .int)).filter isGr).map id = (([g0] : List (List Int)).filter fun g => !g.isEmpty).map (fun g => PV.lst (g.map .int)) from filt_map _]
        refine h _ _ ⟨l, a, b', rfl, hl⟩ ?_ (gp.filter _)
        exact Nat.le_trans (List.length_filter_le _ _) (by simp)
  · show SOk _ _ _ _ _ _ _ _ _
    refine s_for [(⟨⟨[103,114,111,117,112,115]⟩⟩, .loc 8), (⟨⟨[112,101,110]⟩⟩, .loc 1)] (fun i σ' => ∃ l a b' g0 g1, σ' = penO l a b' (baseO D ++ [.lst (g0.map PV.int), .lst (g1.map PV.int), .alst [.loc 6, .loc 7]]) ∧ l.length ≤ 40 ∧ GP R i [g0, g1]) ?_
    refine ev ?_
    refine ⟨_, _, rfl, src_lst, ?_, ⟨l, a, b', [], [], rfl, hl, ⟨by simp, by simp, by simp⟩⟩, fun i q σ' hi hJ => ?_, fun σ' hJ => ?_⟩
    · exact Cov.cons rfl (Cov.cons rfl Cov.nil)
    · refine x5a2 hJ fun l a b' g0 g1 Z17 Z18 => ?_; clear hJ; obtain rfl := Z17; obtain ⟨hl, gp⟩ := Z18
      refine x1a2 (at_map hi) fun r hr Z19 => ?_; obtain rfl := Z19
      refine ⟨_, g_tup ⟨(fun _ _ e => by cases e), _, g_name (by kernel_rfl!), (fun _ _ e => by cases e), _, g_name (by kernel_rfl!), (fun _ _ e => by cases e), _, g_name (by kernel_rfl!), (fun _ _ e => by cases e), _, g_name (by kernel_rfl!), rfl⟩, ?_⟩
      refine s_cons ?_
      refine xa ?_
      refine ca__law_draw ?_ (by kernel_rfl!)
      refine lc ?_
      refine ev ?_
      refine lc ?_
      refine e_int ?_
      refine l_nil ?_
      refine draw_ok ⟨l, a, b', rfl, hl⟩ (by decide) (by decide) (fun s σ' hs0 hs1 hp' => ?_)
      refine x3a2 hp' fun l a b' Z20 hl => ?_; clear hp'; obtain rfl := Z20
      have cv : ∀ {V V0 : VEnv}, V = V → True := fun _ => trivial
      refine s_one ?_
      refine x_if ?_
      refine t_bool (a_and ?_)
      refine t_cmp ?_ rfl
      refine ev ?_
      refine e_int ?_
      refine o_eqI ?_
      refine tr_bool ?_
      refine ⟨fun h1 => a_and ?_, fun h1 => ⟨fun h => (by cases h), fun _ => s_nil ⟨?_, l, a, b', g0, g1, rfl, hl, gp.step⟩⟩⟩
      · refine t_cmp ?_ rfl
        refine ev ?_
        refine ca_len ?_ (by kernel_rfl!)
        refine lc ?_
        refine ev ?_
        refine l_nil ?_
        refine c_lenA rfl (Nat.le_of_ble_eq_true rfl) ?_
        refine o_lt ?_
        refine tr_bool ?_
        refine ⟨fun h2 => a_and_nil ⟨fun _ => ?_, fun h => (by cases h)⟩, fun h2 => ⟨fun h => (by cases h), fun _ => s_nil ⟨?_, l, a, b', g0, g1, rfl, hl, gp.step⟩⟩⟩
        · have h3 : s < 2 := of_decide_eq_true h2
          have h4 : s = 0 ∨ s = 1 := by omega
          rcases h4 with rfl | rfl
          · have hgl : g0.length ≤ i := gp.len g0 (by simp)
            have hRi := (List.getElem?_eq_some_iff.mp hr).1
            refine s_cons ?_
            refine xa ?_
            refine e_sub ?_ (fun _ _ => rfl)
            refine ev ?_
            refine ev ?_
            refine sub_A rfl (by decide) rfl (Nat.le_of_ble_eq_true rfl) ?_
            refine s_one ?_
            refine x_expr ?_ (fun _ => rfl)
            refine e_mbi (id := "list.append") rfl rfl (by decide) (fun _ => rfl) ?_
            refine ev ?_
            refine ⟨mb_list rfl PySem.F.slot_list_append PySem.F.type_list_append, ?_⟩
            refine lc ?_
            refine ev ?_
            refine l_nil ?_
            refine c_append rfl (by rw [List.length_map]; omega) ?_
            refine ⟨Cov.drop rfl (Cov.drop rfl (Cov.drop rfl (Cov.drop rfl (Cov.drop rfl (Cov.drop rfl Cov.self))))), l, a, b', (g0 ++ [r.n]), g1, ?_, hl, (GP.add (p := []) (q := [g1]) gp nd hr)⟩
            rw [List.map_append]
            rfl
          · have hgl : g1.length ≤ i := gp.len g1 (by simp)
            have hRi := (List.getElem?_eq_some_iff.mp hr).1
            refine s_cons ?_
            refine xa ?_
            refine e_sub ?_ (fun _ _ => rfl)
            refine ev ?_
            refine ev ?_
            refine sub_A rfl (by decide) rfl (Nat.le_of_ble_eq_true rfl) ?_
            refine s_one ?_
            refine x_expr ?_ (fun _ => rfl)
            refine e_mbi (id := "list.append") rfl rfl (by decide) (fun _ => rfl) ?_
            refine ev ?_
            refine ⟨mb_list rfl PySem.F.slot_list_append PySem.F.type_list_append, ?_⟩
            refine lc ?_
            refine ev ?_
            refine l_nil ?_
            refine c_append rfl (by rw [List.length_map]; omega) ?_
            refine ⟨Cov.drop rfl (Cov.drop rfl (Cov.drop rfl (Cov.drop rfl (Cov.drop rfl (Cov.drop rfl Cov.self))))), l, a, b', g0, (g1 ++ [r.n]), ?_, hl, (GP.add (p := [g0]) (q := []) gp nd hr)⟩
            rw [List.map_append]
            rfl
        · exact Cov.drop rfl (Cov.drop rfl (Cov.drop rfl (Cov.drop rfl (Cov.drop rfl Cov.self))))
      · exact Cov.drop rfl (Cov.drop rfl (Cov.drop rfl (Cov.drop rfl (Cov.drop rfl Cov.self))))
    · refine x5a2 hJ fun l a b' g0 g1 Z21 Z22 => ?_; clear hJ; obtain rfl := Z21; obtain ⟨hl, gp⟩ := Z22
      rw [List.length_map] at gp
      refine s_frz (gok w) (n := 6) rfl ?_
      refine s_frz (gok w) (n := 7) rfl ?_
      refine s_tell (n := 8) rfl rfl ?_
      refine s_frz (gok w) (n := 8) rfl ?_
      refine s_one ?_
      refine x_ret ?_
      refine e_comp (gok w) ?_ (by kernel_rfl!) (by kernel_rfl!)
      refine ev ?_
      refine compM (f := id) (pr := isGr) (l := ([g0, g1] : List (List Int)).map fun g => PV.lst (g.map .int)) src_lst (Nat.le_of_ble_eq_true rfl) (fun q hq => ?_) ?_
      · refine x1a2 (List.mem_map.mp hq) fun g hg Z23 => ?_; obtain rfl := Z23
        refine t_cmp ?_ rfl
        refine ev ?_
        refine e_list ?_
        refine l_nil ?_
        refine ⟨_, rfl, Nat.le_of_ble_eq_true rfl, ?_⟩
        refine o_ne (da := .list (g.map .int)) (db := .list []) (by show (pdL (g.map .int)).map PyData.list = _; rw [pdL_ints]; rfl) rfl (shaped_ints g) (by decide) ?_
        refine tr_bool ?_
        refine ⟨rfl, ?_, fun _ => ?_⟩
        · rw [eqv_nil]
          show _ = !(g.map PV.int).isEmpty
          cases g <;> rfl
        · refine ev ?_
          exact ⟨rfl, rfl⟩
      · refine ⟨_, penO l a b' (baseO D), [.dead, .dead, .dead], rfl, rfl, rfl, pen_cut, ?_⟩
        rw [show ((([g0, g1] : List (List Int)).map fun g => PV.lst (g.map .int)).filter isGr).map id = (([g0, g1] : List (List Int)).filter fun g => !g.isEmpty).map (fun g => PV.lst (g.map .int)) from filt_map _]
        refine h _ _ ⟨l, a, b', rfl, hl⟩ ?_ (gp.filter _)
        exact Nat.le_trans (List.length_filter_le _ _) (by simp)
end
theorem split_at {α : Type} {l : List α} {i : Nat} {x : α} (h : l[i]? = some x) : l = l.take i ++ x :: l.drop (i + 1) := by
  obtain ⟨hi, hx⟩ := List.getElem?_eq_some_iff.mp h
  conv => lhs; rw [← List.take_append_drop i l, List.drop_eq_getElem_cons hi, hx]
theorem at_of_mem {α : Type} {l : List α} {x : α} (h : x ∈ l) : ∃ i : Nat, l[i]? = some x := List.mem_iff_getElem?.mp h
theorem seat_at {f s : Int} {g : List Int} {i : Nat} {x : Int} (h : g[i]? = some x) : (x, ent [112,97,99,107,101,100] (f + s) (i : Int)) ∈ seatL f s g := by
  unfold seatL
  refine List.mem_map.mpr ⟨(x, i), ?_, rfl⟩
  exact List.mem_iff_getElem?.mpr ⟨i, by simp [h]⟩
theorem pack_at {F : Int} {gs : List (List Int)} {s : Nat} {g : List Int} {i : Nat} {x : Int} (hs : gs[s]? = some g) (hi : g[i]? = some x) : (x, ent [112,97,99,107,101,100] (F + (s : Int)) (i : Int)) ∈ packL F gs := by
  obtain ⟨hl, _⟩ := List.getElem?_eq_some_iff.mp hs
  have e := split_at hs
  have e2 : packL F gs = packFrom F 0 (gs.take s) ++ (seatL F (0 + ((gs.take s).length : Int)) g ++ packFrom F (0 + ((gs.take s).length : Int) + 1) (gs.drop (s + 1))) := by
    conv => lhs; rw [e]
    rw [packL, packFrom_app]; rfl
  rw [e2, List.length_take, show (0 : Int) + ((min s gs.length : Nat) : Int) = s by omega]
  exact List.mem_append_right _ (List.mem_append_left _ (seat_at hi))
theorem used_at {a : Int} {W : List Rw} {i : Nat} {r : Rw} (h : W[i]? = some r) : (r.n, ent [117,115,101,100] (a + sumL (W.take i)) r.g) ∈ usedL a W := by
  have e : usedL a W = usedL a (W.take i) ++ usedL (a + sumL (W.take i)) (r :: W.drop (i + 1)) := by rw [← usedL_app, ← split_at h]
  rw [e, usedL]
  simp
theorem plc_at {a : Int} {W : List Rw} {i : Nat} {r : Rw} (h : W[i]? = some r) : (r.n, PV.tup [.int (a + sumL (W.take i)), .int r.g]) ∈ plcL a W := by
  have e : plcL a W = plcL a (W.take i) ++ plcL (a + sumL (W.take i)) (r :: W.drop (i + 1)) := by rw [← plcL_app, ← split_at h]
  rw [e, plcL]
  simp
theorem flat_at {gs : List (List Int)} {x : Int} (h : x ∈ gs.flatten) : ∃ (s : Nat) (g : List Int) (i : Nat), gs[s]? = some g ∧ g[i]? = some x := by
  refine x1a2 (List.mem_flatten.mp h) fun g hg hx => ?_
  obtain ⟨s, hs⟩ := at_of_mem hg
  obtain ⟨i, hi⟩ := at_of_mem hx
  exact ⟨s, g, i, hs, hi⟩
theorem sorted_ext {l m : List Int} (hl : l.Pairwise (· < ·)) (hm : m.Pairwise (· < ·)) (h : ∀ x, x ∈ l ↔ x ∈ m) : l = m := by
  have nl : l.Nodup := hl.imp fun h => by omega
  have nm : m.Nodup := hm.imp fun h => by omega
  exact perm_sorted ((List.perm_ext_iff_of_nodup nl nm).mpr h) (hl.imp fun h => by omega) (hm.imp fun h => by omega)
section
variable {b : Bool} {F : Int} {gs : List (List Int)} {W : List Rw}
noncomputable abbrev lastOf (F : Int) (gs : List (List Int)) : Int := F + (gs.length : Int)
noncomputable abbrev lackOf (F : Int) (gs : List (List Int)) (W : List Rw) : List Int := lackL (entL F gs W) (lastOf F gs + 1)
noncomputable abbrev kOf (F : Int) (gs : List (List Int)) (W : List Rw) : List Int := gs.flatten ++ W.map (·.n) ++ [lastOf F gs]
theorem lack_mem {x : Int} : x ∈ lackOf F gs W ↔ 1 ≤ x ∧ x ≤ lastOf F gs ∧ x ∉ kOf F gs W := by
  unfold lackOf lackL
  rw [List.mem_filter, ir_mem, ent_keys]
  simp only [Bool.not_eq_true', decide_eq_false_iff_not]
  constructor
  · rintro ⟨⟨h1, h2⟩, h3⟩; exact ⟨h1, by omega, h3⟩
  · rintro ⟨h1, h2, h3⟩; exact ⟨⟨h1, by omega⟩, h3⟩
theorem lack_sorted : (lackOf F gs W).Pairwise (· < ·) := (ir_sorted 1 (lastOf F gs + 1)).sublist List.filter_sublist
theorem fin_keys : (finL F gs W).map (·.1) = (0 :: lackOf F gs W) ++ kOf F gs W := by
  unfold finL
  rw [List.map_append, free_keys, ent_keys]
theorem line_sorted : (0 :: lackOf F gs W).Pairwise (· < ·) := List.pairwise_cons.mpr ⟨fun x hx => by have := (lack_mem.mp hx).1; omega, lack_sorted⟩
theorem Place.last (pl : Place b F gs W) : 0 < lastOf F gs := by have := pl.f; show 0 < F + (gs.length : Int); omega
theorem Place.kpos (pl : Place b F gs W) {x : Int} (h : x ∈ kOf F gs W) : 0 < x ∧ x ≤ lastOf F gs := by
  rcases List.mem_append.mp h with h | h
  · exact ⟨pl.pos x h, by have := pl.up x h; show x ≤ F + (gs.length : Int); omega⟩
  · rw [List.mem_singleton.mp h]; exact ⟨pl.last, Int.le_refl _⟩
theorem Place.fnd (pl : Place b F gs W) : ((finL F gs W).map (·.1)).Nodup := by
  rw [fin_keys]
  refine List.nodup_append.mpr ⟨line_sorted.imp fun h => by omega, pl.nd, fun x hx y hy e => ?_⟩
  subst e
  rcases List.mem_cons.mp hx with h | h
  · have := (pl.kpos hy).1; omega
  · exact (lack_mem.mp h).2.2 hy
theorem Place.look (pl : Place b F gs W) {x : Int} {p : PV} (h : (x, p) ∈ finL F gs W) : (finL F gs W).lookup x = some p := lookup_of_mem pl.fnd h
theorem Place.mem (pl : Place b F gs W) {x : Int} : x ∈ (finL F gs W).map (·.1) ↔ 0 ≤ x ∧ x ≤ lastOf F gs := by
  rw [fin_keys]
  constructor
  · intro h
    rcases List.mem_append.mp h with h | h
    · rcases List.mem_cons.mp h with rfl | h
      · have := pl.last; omega
      · have := lack_mem.mp h; omega
    · have := pl.kpos h; omega
  · rintro ⟨h1, h2⟩
    by_cases hk : x ∈ kOf F gs W
    · exact List.mem_append_right _ hk
    · refine List.mem_append_left _ ?_
      by_cases h0 : x = 0
      · exact List.mem_cons.mpr (.inl h0)
      · exact List.mem_cons_of_mem _ (lack_mem.mpr ⟨by omega, h2, hk⟩)
theorem Place.keys_perm (pl : Place b F gs W) : (ir 0 (lastOf F gs + 1)).Perm ((finL F gs W).map (·.1)) := by
  refine (List.perm_ext_iff_of_nodup ((ir_sorted _ _).imp fun h => by omega) pl.fnd).mpr fun x => ?_
  rw [ir_mem, pl.mem]; omega
theorem Place.packed (pl : Place b F gs W) {s : Nat} {g : List Int} {i : Nat} {x : Int} (hs : gs[s]? = some g) (hi : g[i]? = some x) : (finL F gs W).lookup x = some (ent [112,97,99,107,101,100] (F + (s : Int)) (i : Int)) := pl.look (List.mem_append_right _ (List.mem_append_left _ (List.mem_append_left _ (pack_at hs hi))))
theorem Place.used (pl : Place b F gs W) {i : Nat} {r : Rw} (h : W[i]? = some r) : (finL F gs W).lookup r.n = some (ent [117,115,101,100] (15 + sumL (W.take i)) r.g) := pl.look (List.mem_append_right _ (List.mem_append_left _ (List.mem_append_right _ (used_at h))))
theorem Place.end (pl : Place b F gs W) : (finL F gs W).lookup (lastOf F gs) = some (ent [117,115,101,100] ((bodyL W).length : Int) 0) := pl.look (List.mem_append_right _ (List.mem_append_right _ (List.mem_singleton.mpr rfl)))
theorem Place.free (pl : Place b F gs W) {i : Nat} {x : Int} (h : (0 :: lackOf F gs W)[i]? = some x) : (finL F gs W).lookup x = some (ent [102,114,101,101] ((0 :: lackOf F gs W).getD (i + 1) 0) (if x = 0 then 65535 else 0)) := by
  obtain ⟨hi, hx⟩ := List.getElem?_eq_some_iff.mp h
  have e : freeE (0 :: lackOf F gs W) i ∈ freeL (0 :: lackOf F gs W) := List.mem_map.mpr ⟨i, List.mem_range.mpr hi, rfl⟩
  have e2 : (0 :: lackOf F gs W).getD i 0 = x := by rw [List.getD_eq_getElem?_getD, h]; rfl
  have e3 : (i = 0) ↔ (x = 0) := by
    constructor
    · intro z; subst z; simpa using h.symm
    · intro z
      cases i with
      | zero => rfl
      | succ i =>
        have := List.mem_of_getElem? (show (lackOf F gs W)[i]? = some x from h)
        have := (lack_mem.mp this).1
        omega
  unfold freeE at e
  rw [e2] at e
  simp only [e3] at e
  exact pl.look (List.mem_append_left _ e)
theorem drop_mem : ∀ {l : List Int} {i : Nat} {x y : Int}, l.Pairwise (· < ·) → l[i]? = some x → (y ∈ l.drop (i + 1) ↔ y ∈ l ∧ x < y)
  | a :: l, 0, x, y, hp, hx => by
    cases hx
    have h1 := List.pairwise_cons.mp hp
    show y ∈ l ↔ _
    constructor
    · intro h; exact ⟨List.mem_cons_of_mem _ h, h1.1 y h⟩
    · rintro ⟨h, h2⟩
      rcases List.mem_cons.mp h with rfl | h
      · omega
      · exact h
  | a :: l, i + 1, x, y, hp, hx => by
    have h1 := List.pairwise_cons.mp hp
    have ih := drop_mem (y := y) h1.2 (show l[i]? = some x from hx)
    show y ∈ l.drop (i + 1) ↔ _
    rw [ih]
    have := h1.1 x (List.mem_of_getElem? (show l[i]? = some x from hx))
    constructor
    · rintro ⟨h, h2⟩; exact ⟨List.mem_cons_of_mem _ h, h2⟩
    · rintro ⟨h, h2⟩
      rcases List.mem_cons.mp h with rfl | h
      · omega
      · exact ⟨h, h2⟩
theorem Place.later (pl : Place b F gs W) {i : Nat} {x : Int} (h : (0 :: lackOf F gs W)[i]? = some x) : ((ir (x + 1) (lastOf F gs)).filter fun y => decide (y ∈ lackOf F gs W)) = (0 :: lackOf F gs W).drop (i + 1) := by
  refine sorted_ext ((ir_sorted _ _).sublist List.filter_sublist) (line_sorted.sublist (List.drop_sublist _ _)) fun y => ?_
  rw [List.mem_filter, ir_mem, drop_mem line_sorted h, List.mem_cons, decide_eq_true_eq]
  have hx : 0 ≤ x := by
    rcases List.mem_cons.mp (List.mem_of_getElem? h) with h | h
    · omega
    · have := (lack_mem.mp h).1; omega
  constructor
  · rintro ⟨⟨h1, h2⟩, h3⟩; exact ⟨.inr h3, by omega⟩
  · rintro ⟨h1, h2⟩
    rcases h1 with h1 | h1
    · omega
    · refine ⟨⟨by omega, ?_⟩, h1⟩
      have hl := lack_mem.mp h1
      have : y ≠ lastOf F gs := fun z => hl.2.2 (z ▸ List.mem_append_right _ (List.mem_singleton.mpr rfl))
      omega
theorem drop_head {l : List Int} {i : Nat} : (l.drop i ++ [0])[0]? = some (l.getD i 0) := by
  by_cases h : i < l.length
  · rw [List.getElem?_append_left (by simp; omega), List.getElem?_drop]
    exact (getD_int h).1
  · rw [List.drop_eq_nil_of_le (by omega), List.getD_eq_getElem?_getD, List.getElem?_eq_none (l := l) (by omega)]; rfl
end
noncomputable abbrev toldE (way : List Nat) (one two : Int) : PV := .tup [sg way, .int one, .int two]
section
variable {prog : Program} {w : World} {k : Nat} {σ τ : List MO} {Q : AV → List MO → Prop} {b : Bool} {D : List (Int × PV)} {R : List Rw} {F : Int} {gs : List (List Int)} {W : List Rw}
theorem entry_told_ok {wy : List Nat} {one two : Int} (h : Q (.pv (toldE wy one two)) σ) : COk prog w (GH w) (k + 3) (.ref 42) [.pv (ent wy one two)] σ Q := by
  refine cf (gok w) (fn_Entry_told w) (xs := [⟨⟨[115,101,108,102]⟩⟩]) (hb1 fun _ _ _ _ _ _ _ _ => rfl) ?_
  refine s_one ?_
  refine x_ret ?_
  refine e_tup ?_
  refine lc ?_
  refine e_attr ?_ (fun _ => rfl)
  refine ev ?_
  refine at_ins (cl_Entry w) rfl rfl rfl ?_ (by kernel_rfl!)
  refine lc ?_
  refine e_attr ?_ (fun _ => rfl)
  refine ev ?_
  refine at_ins (cl_Entry w) rfl rfl rfl ?_ (by kernel_rfl!)
  refine lc ?_
  refine e_attr ?_ (fun _ => rfl)
  refine ev ?_
  refine at_ins (cl_Entry w) rfl rfl rfl ?_ (by kernel_rfl!)
  refine l_nil ?_
  refine ⟨_, rfl, Nat.le_of_ble_eq_true rfl, ?_⟩
  exact h
theorem nodup_first {g : List Int} {j : Nat} {x : Int} (nd : g.Nodup) (hj : g[j]? = some x) : ∀ m, m < j → g[m]? ≠ some x := by
  intro m hm e
  have hl := (List.getElem?_eq_some_iff.mp hj).1
  have := (List.getElem?_inj (by omega) nd).mp (e.trans hj.symm)
  omega
theorem Place.way (pl : Place b F gs W) {y : Int} (h0 : 1 ≤ y) (h1 : y ≤ lastOf F gs) : ∃ wy one two, (finL F gs W).lookup y = some (ent wy one two) ∧ ((⟨⟨wy⟩⟩ : Str) == ⟨⟨[102,114,101,101]⟩⟩) = decide (y ∈ lackOf F gs W) := by
  have hm := pl.mem.mpr ⟨by omega, h1⟩
  rw [fin_keys] at hm
  rcases List.mem_append.mp hm with h | h
  · obtain ⟨i, hi⟩ := at_of_mem h
    refine ⟨_, _, _, pl.free hi, ?_⟩
    have hy : y ∈ lackOf F gs W := (List.mem_cons.mp h).resolve_left (by omega)
    rw [decide_eq_true hy]; decide
  · have hn : y ∉ lackOf F gs W := fun z => (lack_mem.mp z).2.2 h
    rw [decide_eq_false hn]
    rcases List.mem_append.mp h with h | h
    · rcases List.mem_append.mp h with h | h
      · refine x3a2 (flat_at h) fun s g i hs hi => ?_
        exact ⟨_, _, _, pl.packed hs hi, by decide⟩
      · refine x1a2 (List.mem_map.mp h) fun r hr Z1 => ?_; obtain rfl := Z1
        obtain ⟨i, hi⟩ := at_of_mem hr
        exact ⟨_, _, _, pl.used hi, by decide⟩
    · rw [List.mem_singleton.mp h]
      exact ⟨_, _, _, pl.end, by decide⟩
theorem law_told_0 (pl : Place b F gs W) {x : Int} (h0 : 0 ≤ x) (h1 : x ≤ lastOf F gs) : COk prog w (GH w) (k + 8) (.ref 645) [.pv (dP (finL F gs W)), .pv (.int x), .pv (gsP gs), .pv (.int F), .pv (dP (plcL 15 W)), .pv (.int (lastOf F gs)), .pv (.int ((bodyL W).length : Int))] [] fun v _ => ∃ p, v = .pv p ∧ ∃ wy one two, p = toldE wy one two ∧ (finL F gs W).lookup x = some (ent wy one two) := by
  have hf := pl.f
  have hgl := pl.gl
  have hll : (lackOf F gs W).length ≤ 40 := by
    have e := List.length_filter_le (fun x => !decide (x ∈ (entL F gs W).map (·.1))) (ir 1 (lastOf F gs + 1))
    rw [ir_len] at e
    unfold lackOf lackL lastOf at *
    omega
  have hla : lastOf F gs ≤ 33 := by show F + (gs.length : Int) ≤ 33; omega
  refine c_fn (gok w) (fn__law_told w) (xs := [⟨⟨[101,110,116,114,105,101,115]⟩⟩, ⟨⟨[110,117,109,98,101,114]⟩⟩, ⟨⟨[103,114,111,117,112,115]⟩⟩, ⟨⟨[102,105,114,115,116]⟩⟩, ⟨⟨[112,108,97,99,101,115]⟩⟩, ⟨⟨[108,97,115,116]⟩⟩, ⟨⟨[115,105,122,101]⟩⟩]) rfl ?hb (by decide +kernel) (by kernel_rfl!) ?body (by kernel_rfl!) (by kernel_rfl!) (by kernel_rfl!)
  case hb => exact fun _ _ _ _ _ _ _ => nl7 (fun _ _ _ _ _ _ _ => rfl)
  case body =>
  refine s_forE [(⟨⟨[101,110,116,114,105,101,115]⟩⟩, .pv (dP (finL F gs W))), (⟨⟨[110,117,109,98,101,114]⟩⟩, .pv (.int x)), (⟨⟨[102,105,114,115,116]⟩⟩, .pv (.int F)), (⟨⟨[112,108,97,99,101,115]⟩⟩, .pv (dP (plcL 15 W))), (⟨⟨[108,97,115,116]⟩⟩, .pv (.int (lastOf F gs))), (⟨⟨[115,105,122,101]⟩⟩, .pv (.int ((bodyL W).length : Int)))] (fun i σ' => σ' = [] ∧ ∀ j, j < i → ∀ g, gs[j]? = some g → x ∉ g) rfl ?_
  refine en_enumerate ?_ (by kernel_rfl!)
  refine ⟨rfl, ?_⟩
  refine lc ?_
  refine ev ?_
  refine l_nil ?_
  refine ⟨_, rfl, ?_, ⟨rfl, fun j hj => by omega⟩, fun i q σ' hi hJ => ?_, fun σ' hJ => ?_⟩
  · exact Cov.cons rfl (Cov.cons rfl (Cov.cons rfl (Cov.cons rfl (Cov.cons rfl (Cov.cons rfl Cov.nil)))))
  · obtain ⟨rfl, hno⟩ := hJ
    refine x1a2 (at_map hi) fun g hg Z2 => ?_; obtain rfl := Z2
    have hgk := pl.gk g (List.mem_of_getElem? hg)
    have ndg : g.Nodup := (List.nodup_append.mp (List.nodup_append.mp pl.nd).1).1.sublist (List.sublist_flatten_of_mem (List.mem_of_getElem? hg))
    refine ⟨_, ⟨(fun _ _ e => by cases e), _, g_name (by kernel_rfl!), (fun _ _ e => by cases e), _, g_name (by kernel_rfl!), rfl⟩, ?_⟩
    refine s_one ?_
    refine x_if ?_
    refine t_cmp ?_ rfl
    refine ev ?_
    refine ev ?_
    refine o_inL (ns := g) rfl ?_
    refine tr_bool ?_
    refine ⟨fun h => ?_, fun h => s_nil ⟨Cov.drop rfl (Cov.drop rfl Cov.self), rfl, fun j hj g' hg' => ?_⟩⟩
    · have hx : x ∈ g := by simpa using h
      obtain ⟨j, hj⟩ := at_of_mem hx
      refine s_one ?_
      refine x_ret ?_
      refine e_tup ?_
      refine lc ?_
      refine e_str ?_
      refine lc ?_
      refine e_bin ?_
      refine ev ?_
      refine ev ?_
      refine o_intadd ?_
      refine lc ?_
      refine e_mbi (id := "list.index") rfl rfl (by decide) (fun _ => rfl) ?_
      refine ev ?_
      refine ⟨mb_list rfl PySem.F.slot_list_index PySem.F.type_list_index, ?_⟩
      refine lc ?_
      refine ev ?_
      refine l_nil ?_
      refine c_index (ns := g) rfl (by omega) hj (nodup_first ndg hj) ?_
      refine l_nil ?_
      refine ⟨_, rfl, Nat.le_of_ble_eq_true rfl, ?_⟩
      exact ⟨_, rfl, _, _, _, rfl, pl.packed hg hj⟩
    · rcases Nat.lt_or_ge j i with q | q
      · exact hno j q g' hg'
      · have : j = i := by omega
        subst this
        rw [hg] at hg'
        cases hg'
        have h2 : ∀ y ∈ g, ¬ y = x := by simpa using h
        exact fun hm => h2 x hm rfl
  · obtain ⟨rfl, hno⟩ := hJ
    rw [List.length_map] at hno
    have hnf : x ∉ gs.flatten := fun hm => by
      obtain ⟨s, g, i, hs, hi⟩ := flat_at hm
      exact hno s (List.getElem?_eq_some_iff.mp hs).1 g hs (List.mem_of_getElem? hi)
    refine s_cons ?_
    refine x_if ?_
    refine t_cmp ?_ rfl
    refine ev ?_
    refine ev ?_
    refine o_inD (gok w) rfl ?_
    refine tr_bool ?_
    rw [plc_keys]
    refine ⟨fun h => ?_, fun h => s_nil ?_⟩
    · refine x1a2 (List.mem_map.mp (of_decide_eq_true h)) fun r hr Z4 => ?_; obtain rfl := Z4
      obtain ⟨i, hi⟩ := at_of_mem hr
      have ndW := (List.nodup_append.mp (List.nodup_append.mp pl.nd).1).2.1
      have hpl : (plcL 15 W).lookup r.n = some (.tup [.int (15 + sumL (W.take i)), .int r.g]) := lookup_of_mem (by rw [plc_keys]; exact ndW) (plc_at hi)
      refine s_one ?_
      refine x_ret ?_
      refine e_bin ?_
      refine e_tup ?_
      refine lc ?_
      refine e_str ?_
      refine l_nil ?_
      refine ⟨_, rfl, Nat.le_of_ble_eq_true rfl, ?_⟩
      refine e_sub ?_ (fun _ _ => rfl)
      refine ev ?_
      refine ev ?_
      refine sub_dct rfl hpl ?_
      refine o_addT (l := []) (m := [.int r.g]) (Nat.le_of_ble_eq_true rfl) ?_
      exact ⟨_, rfl, _, _, _, rfl, pl.used hi⟩
    · have hnW := of_decide_eq_false h
      refine s_cons ?_
      refine x_if ?_
      refine t_cmp ?_ rfl
      refine ev ?_
      refine ev ?_
      refine o_eqI ?_
      refine tr_bool ?_
      refine ⟨fun h => ?_, fun h => s_nil ?_⟩
      · have : x = lastOf F gs := by simpa using h
        subst this
        refine s_one ?_
        refine x_ret ?_
        refine e_tup ?_
        refine lc ?_
        refine e_str ?_
        refine lc ?_
        refine ev ?_
        refine lc ?_
        refine e_int ?_
        refine l_nil ?_
        refine ⟨_, rfl, Nat.le_of_ble_eq_true rfl, ?_⟩
        exact ⟨_, rfl, _, _, _, rfl, pl.end⟩
      · have hxl : x ≠ lastOf F gs := by simpa using h
        have hxk : x ∉ kOf F gs W := fun hm => by
          rcases List.mem_append.mp hm with hm | hm
          · exact (List.mem_append.mp hm).elim hnf hnW
          · exact hxl (List.mem_singleton.mp hm)
        have hline : x ∈ 0 :: lackOf F gs W := by
          have := pl.mem.mpr ⟨h0, h1⟩
          rw [fin_keys] at this
          exact (List.mem_append.mp this).resolve_right hxk
        obtain ⟨i, hi⟩ := at_of_mem hline
        refine s_cons ?_
        refine xa ?_
        refine e_bin ?_
        refine e_comp (gok w) ?_ (by kernel_rfl!) (by kernel_rfl!)
        refine ca_range ?_ (by kernel_rfl!)
        refine lc ?_
        refine e_bin ?_
        refine ev ?_
        refine e_int ?_
        refine o_intadd ?_
        refine lc ?_
        refine ev ?_
        refine l_nil ?_
        refine c_range2 ?_
        refine compM (f := id) (pr := fun q => match q with | .int y => decide (y ∈ lackOf F gs W) | _ => false) (src_rng (small_of (by omega) (by omega))) (by rw [rng_len]; omega) (fun q hq => ?_) ?_
        · rw [rngL_ir] at hq
          refine x1a2 (List.mem_map.mp hq) fun y hy Z5 => ?_; obtain rfl := Z5
          have hy' := ir_mem.mp hy
          refine x3a2 (pl.way (y := y) (by omega) (by omega)) fun wy one two hlk hwy => ?_
          refine t_cmp ?_ rfl
          refine e_attr ?_ (fun _ => rfl)
          refine e_sub ?_ (fun _ _ => rfl)
          refine ev ?_
          refine ev ?_
          refine sub_dct rfl hlk ?_
          refine at_ins (cl_Entry w) rfl rfl rfl ?_ (by kernel_rfl!)
          refine e_str ?_
          refine o_strEq ?_
          refine tr_bool ?_
          refine ⟨rfl, hwy, fun _ => ?_⟩
          refine ev ?_
          exact ⟨rfl, rfl⟩
        rw [show ((rngL (x + 1) (lastOf F gs)).filter fun q => match q with | .int y => decide (y ∈ lackOf F gs W) | _ => false).map id = ((0 :: lackOf F gs W).drop (i + 1)).map .int from by
          rw [← pl.later hi, rngL_ir, List.filter_map, List.map_id]; rfl]
        refine e_list ?_
        refine lc ?_
        refine e_int ?_
        refine l_nil ⟨_, rfl, Nat.le_of_ble_eq_true rfl, ?_⟩
        refine o_addL (l := ((0 :: lackOf F gs W).drop (i + 1)).map .int) (m := [.int 0]) rfl rfl (by simp; omega) ?_
        rw [show (((0 :: lackOf F gs W).drop (i + 1)).map PV.int ++ [PV.int 0] : List PV) = ((0 :: lackOf F gs W).drop (i + 1) ++ [0]).map .int from by simp]
        refine s_one ?_
        refine x_ret ?_
        refine e_tup ?_
        refine lc ?_
        refine e_str ?_
        refine lc ?_
        refine e_sub ?_ (fun _ _ => rfl)
        refine ev ?_
        refine e_int ?_
        refine sub_its (l := (0 :: lackOf F gs W).drop (i + 1) ++ [0]) (j := 0) rfl (by simp) (by simp; omega) rfl ?_
        refine lc ?_
        refine e_join (fun v σ' => v = .pv (.int (if x = 0 then 65535 else 0)) ∧ σ' = []) ?_ ?_
        · refine e_if ?_
          refine t_cmp ?_ rfl
          refine ev ?_
          refine e_int ?_
          refine o_eqI ?_
          refine tr_bool ?_
          refine ⟨fun h => ?_, fun h => ?_⟩
          · have : x = 0 := by simpa using h
            exact e_int ⟨by rw [if_pos this], rfl⟩
          · have : x ≠ 0 := by simpa using h
            exact e_int ⟨by rw [if_neg this], rfl⟩
        · rintro v σ' ⟨rfl, rfl⟩
          refine l_nil ⟨_, rfl, Nat.le_of_ble_eq_true rfl, ?_⟩
          refine ⟨_, rfl, _, _, _, rfl, ?_⟩
          rw [pl.free hi]
          have e : ((0 :: lackOf F gs W).drop (i + 1) ++ [0]).getD 0 0 = (0 :: lackOf F gs W).getD (i + 1) 0 := by
            rw [List.getD_eq_getElem?_getD, drop_head]; rfl
          rw [e]
theorem law_told_ok (pl : Place b F gs W) {x : Int} (h0 : 0 ≤ x) (h1 : x ≤ lastOf F gs) (h : ∀ wy one two, (finL F gs W).lookup x = some (ent wy one two) → Q (.pv (toldE wy one two)) σ) : COk prog w (GH w) (k + 8) (.ref 645) [.pv (dP (finL F gs W)), .pv (.int x), .pv (gsP gs), .pv (.int F), .pv (dP (plcL 15 W)), .pv (.int (lastOf F gs)), .pv (.int ((bodyL W).length : Int))] σ Q :=
  c_pure rfl (law_told_0 pl h0 h1) fun p ⟨wy, one, two, e, hl⟩ => by subst e; exact h _ _ _ hl
end
section
variable {M : Model} {A : Around} {E : Value → Shared → Prop} {h : Heap} {g : Array GenState} {d : Drawn} {t : Nat} {os : OsState}
variable {nm q : Str} {C N : Addr} {bs bm bmB : List Value} {hdct : Bool} {sn : List Str} {sub : List Value} {ab : Bool} {col : Option Bool} {dd : Option Addr} {k0 k1 k2 k3 k5 : Option Value} {B newId initId : String}
theorem x_check_new (F : ExcBaseFacts B newId initId bmB) (hB : bm.contains (.type B) = true) {rest : List Value} {Q : Unit → Shared → Prop} (hC : h.get? C = some (excClassObj nm q C N bs bm hdct sn sub ab col dd k0 k1 k2 k3 k5 newId))
    (hq : Q () ⟨h, g, d, t, os⟩) : wpAny M A (checkBuiltinCall newId ⟨.ref C :: rest, []⟩) Q E ⟨h, g, d, t, os⟩ := by
  have hcont : (Value.ref C :: bm).contains (.type B) = true := by rw [List.contains_cons, hB, Bool.or_true]
  have hstar := F.noStar
  simp only [checkBuiltinCall, F.newKind, F.newSplit, F.newRow]
  repeat (first | refine wpAny_loadPart_at hC ?_ | (refine wpAny_isSubtype_exc hC ?_; rw [hcont]) | refine wpAny_staticBase_exc hC ?_ | refine wpAny_madeBy_exc hC ?_ | simp only [bne_self_eq_false, Bool.false_eq_true, if_false] | wp_step)
  exact hq
theorem x_check_init (F : ExcBaseFacts B newId initId bmB) (hB : bm.contains (.type B) = true) {M : Model} {e : Addr} {oe : Obj} {rest : List Value} {Q : Unit → Shared → Prop}
    (hC : h.get? C = some (excClassObj nm q C N bs bm hdct sn sub ab col dd k0 k1 k2 k3 k5 newId)) (he : h.get? e = some oe) (hcls : oe.cls = .ref C) (hq : Q () ⟨h, g, d, t, os⟩) :
    wpAny M A (checkBuiltinCall initId ⟨.ref e :: rest, []⟩) Q E ⟨h, g, d, t, os⟩ := by
  have hcB : (Value.ref C :: bm).contains (.type B) = true := by rw [List.contains_cons, hB, Bool.or_true]
  have hshort := F.noStar
  simp only [checkBuiltinCall, F.initKind, F.initSplit, F.initRow]
  repeat (first | (with_reducible refine wpAny_loadPart_at he ?_; rw [hcls]) | with_reducible refine wpAny_loadPart_at hC ?_ | (with_reducible refine wpAny_isSubtype_exc hC ?_; rw [hcB]) | wp_step)
  refine wpAny_onRaise ?_
  rw [show ∀ (a b : String) (n : Nat), Bind.check ⟨.positional, "*", B, .self, [⟨"args", .varPos, false⟩]⟩ a b n (List.map (fun x => x.fst) ({ pos := Value.ref e :: rest } : Args).kw) = pure () from
    fun a b n => check_star_args _ _ _ _ _ _]
  exact wpAny_pure hq
end
section
variable {prog : Program} {w : World} {A : Around} {R : Result → Shared → Prop} {h : Heap} {g : Array GenState} {d : Drawn} {t : Nat} {os : OsState}
variable {nm q : Str} {C N : Addr} {bs bm bmB : List Value} {hdct : Bool} {sn : List Str} {sub : List Value} {ab : Bool} {col : Option Bool} {dd : Option Addr} {k0 k1 k2 k3 k5 : Option Value} {B newId initId : String}
theorem x_exc_new (F : ExcBaseFacts B newId initId bmB) (hB : bm.contains (.type B) = true) (hA : bm.contains (.type "AttributeError") = false) (hN : bm.contains (.type "NameError") = false) {rest : List Value} (hC : h.get? C = some (excClassObj nm q C N bs bm hdct sn sub ab col dd k0 k1 k2 k3 k5 newId))
    (hq : R (.ok (.ret (.ref (h.objs.size + 1)))) ⟨(h.push { cls := .type "tuple", data := .seq rest.toArray }).push
      { cls := .ref C, data := .fields #[.ref h.objs.size, .none, .none, .none, .bool false, .none] }, g, d, t, os⟩) (hrest : rest.length ≤ sizeLine := by size_fits) :
    codeAny (model prog w) A (.builtin newId ⟨.ref C :: rest, []⟩) R ⟨h, g, d, t, os⟩ := by
  have hends := F.ends
  have hcB : (Value.ref C :: bm).contains (.type B) = true := by rw [List.contains_cons, hB, Bool.or_true]
  have hcA : (Value.ref C :: bm).contains (.type "AttributeError") = false := by rw [List.contains_cons, hA]; rfl
  have hcN : (Value.ref C :: bm).contains (.type "NameError") = false := by rw [List.contains_cons, hN]; rfl
  refine codeAny_builtinAt F.entry ?_
  unfold Builtin.«BaseException.__new__»
  refine PySem.wpAt_bind ?_
  show PySem.wpAt _ _ _ (stack >>= _) _ _ _
  refine PySem.wpAt_bind (PySem.wpAt_stack fun p below => PySem.wpAt_of_wpAny ?_)
  wp_walk
  refine PySem.wpAt_of_wpAny ?_
  rw [F.owner]
  repeat (first | with_reducible refine wpAny_madeHere_exc F.canon hC ?_ | with_reducible refine wpAny_loadPart_at hC ?_ | (with_reducible refine wpAny_isSubtype_exc hC ?_; first | rw [hcB] | rw [hcA] | rw [hcN]) | wp_step)
  show R _ _
  rw [Heap.size_push]
  exact hq
end
section
variable {prog : Program} {w : World} {A : Around} {E : Value → Shared → Prop} {h : Heap} {g : Array GenState} {d : Drawn} {t : Nat} {os : OsState}
variable {nm q : Str} {C N : Addr} {bs bm bmB : List Value} {hdct : Bool} {sn : List Str} {sub : List Value} {ab : Bool} {col : Option Bool} {dd : Option Addr} {k0 k1 k2 k3 k5 : Option Value} {B newId initId : String} {K : Frag}
theorem x_type_call (F : ExcBaseFacts B newId initId bmB) (hB : bm.contains (.type B) = true) (hA : bm.contains (.type "AttributeError") = false) (hN : bm.contains (.type "NameError") = false) {rest : List Value} {fI : Addr} {oI : Obj} {Q : PySem.Fin → Shared → Prop}
    (hC : h.get? C = some (excClassObj nm q C N bs bm hdct sn sub ab col dd k0 k1 k2 k3 k5 newId)) (X : K.In h) (hi : findIn K (.ref C) "__init__" = some (some (.ref fI)))
    (hfI : h.get? fI = some oI) (hfc : oI.cls = .type "function")
    (hq : ∀ h' e, Heap.MadeExcOf h h' e (.ref C) rest → h.objs.size ≤ e →
      wpAny (model prog w) A (call (.ref fI) (.ref e :: rest)) (fun r s' => r = .none ∧ Q (.done (.ret (.ref e))) s') E ⟨h', g, d, t, os⟩) (hrest : rest.length ≤ sizeLine := by size_fits) :
    wpAny (model prog w) A (Builtin.«type.__call__» ⟨.ref C :: rest, []⟩) Q E ⟨h, g, d, t, os⟩ := by
  repeat (first | with_reducible refine wpAny_loadPart_at hC ?_ | with_reducible refine wpAny_madeBy_exc hC ?_ | wp_step)
  refine codeAny_call_builtin_code (Code.quiet_builtin _ F.quiet) (x_check_new F hB hC ?_)
  refine x_exc_new F hB hA hN hC ?_ hrest
  show wpAny _ _ _ _ _ _
  have hC₁ := Heap.get?_push_of_some { cls := .ref C, data := .fields #[.ref h.objs.size, .none, .none, .none, .bool false, .none] }
    (Heap.get?_push_of_some { cls := .type "tuple", data := .seq rest.toArray } hC)
  have hfI₁ := Heap.get?_push_of_some { cls := .ref C, data := .fields #[.ref h.objs.size, .none, .none, .none, .bool false, .none] }
    (Heap.get?_push_of_some { cls := .type "tuple", data := .seq rest.toArray } hfI)
  have X₁ : K.In ((h.push { cls := .type "tuple", data := .seq rest.toArray }).push { cls := .ref C, data := .fields #[.ref h.objs.size, .none, .none, .none, .bool false, .none] }) := X.keeps fun b o e => Heap.get?_push_of_some _ (Heap.get?_push_of_some _ e)
  have hget : ((h.push { cls := .type "tuple", data := .seq rest.toArray }).push
      { cls := .ref C, data := .fields #[.ref h.objs.size, .none, .none, .none, .bool false, .none] }).get? (h.objs.size + 1) = some
      { cls := .ref C, data := .fields #[.ref h.objs.size, .none, .none, .none, .bool false, .none] } := by heap_get
  have hcC : (Value.ref C :: bm).contains (.ref C) = true := by simp
  unfold isInstance
  repeat (first | with_reducible refine wpAny_loadPart_at hget ?_ | (with_reducible refine wpAny_isSubtype_exc hC₁ ?_; rw [hcC]) | wp_step)
  show wpAny _ _ (typeLookup (.ref C) _) _ _ _
  refine looks_findIn X₁ hi _ _ _ _ (fun _ _ e => e) ?_
  refine wpAny_holding (wpAny_bind ?_)
  unfold bindSpecial
  refine wpAny_bind (wpAny_typeOf (T := "function") ⟨_, hfI₁, hfc⟩ ?_)
  rw [if_pos (by decide)]
  refine wpAny_pure (wpAny_bind (wpAny_mono (hq _ (h.objs.size + 1) ⟨fun b o hb => Heap.get?_push_of_some _ (Heap.get?_push_of_some _ hb), Heap.get?_none_of_le (Nat.le_succ _), h.objs.size, hget, Heap.get?_none_of_le (Nat.le_refl _), ?_⟩ (Nat.le_succ _)) (fun r s' hr => ?_) fun _ _ x => x))
  · exact Heap.get?_push_of_some _ (Heap.get?_push_at rfl rfl)
  · obtain ⟨rfl, hQ⟩ := hr
    wp_walk
    exact hQ
theorem x_call_exc (F : ExcBaseFacts B newId initId bmB) (hB : bm.contains (.type B) = true) (hA : bm.contains (.type "AttributeError") = false) (hN : bm.contains (.type "NameError") = false) {rest : List Value} {fI : Addr} {oI : Obj} {Q : Value → Shared → Prop}
    (hC : h.get? C = some (excClassObj nm q C N bs bm hdct sn sub ab col dd k0 k1 k2 k3 k5 newId)) (X : K.In h) (hi : findIn K (.ref C) "__init__" = some (some (.ref fI)))
    (hfI : h.get? fI = some oI) (hfc : oI.cls = .type "function")
    (hq : ∀ h' e, Heap.MadeExcOf h h' e (.ref C) rest → h.objs.size ≤ e →
      wpAny (model prog w) (A.under (.builtin "type.__call__" ⟨.ref C :: rest, []⟩)) (call (.ref fI) (.ref e :: rest)) (fun r s' => r = .none ∧ Q (.ref e) s') E ⟨h', g, d, t, os⟩) (hrest : rest.length ≤ sizeLine := by size_fits) :
    wpAny (model prog w) A (call (.ref C) rest) Q E ⟨h, g, d, t, os⟩ := by
  have f1 := tc_lookup
  have f2 := tc_bind (.ref C)
  have hT : (⟨h, g, d, t, os⟩ : Shared).TypeIs (.ref C) "type" := ⟨_, hC, rfl⟩
  refine wpAny_call (codeAny_of_tree ?_)
  show wpAny _ _ (callAny (.ref C) _) _ _ _
  repeat (any_goals (first | assumption | with_reducible refine wpAny_loadPart_at hC ?_ | wp_step))
  refine ⟨rfl, ?_⟩
  refine codeAny_call_builtin_at (Code.quiet_builtin _ (by decide +kernel)) entry_typeCall (wpAny_check_type_call_sub hC (x_type_call (hrest := hrest) F hB hA hN hC X hi hfI hfc fun h' e hm hle => ?_))
  exact hq h' e hm hle
theorem x_init (F : ExcBaseFacts B newId initId bmB) (hB : bm.contains (.type B) = true) {e t0 : Addr} {rest : List Value} {Q : Value → Shared → Prop}
    (hC : h.get? C = some (excClassObj nm q C N bs bm hdct sn sub ab col dd k0 k1 k2 k3 k5 newId)) (he : h.get? e = some { cls := .ref C, data := .fields #[.ref t0, .none, .none, .none, .bool false, .none] })
    (hq : ∀ h', (∀ b o, b ≠ e → h.get? b = some o → h'.get? b = some o) → (∃ t1, h'.get? e = some { cls := .ref C, data := .fields #[.ref t1, .none, .none, .none, .bool false, .none] }) → Q .none ⟨h', g, d, t, os⟩) (hrest : rest.length ≤ sizeLine := by size_fits) :
    wpAny (model prog w) A (call (.builtin initId) (.ref e :: rest)) Q E ⟨h, g, d, t, os⟩ := by
  refine wpAny_call (codeAny_call_builtin F.init.plain F.initEntry (x_check_init F hB hC he rfl ?_))
  wp_walk
  refine hq _ (fun b o hb e1 => ?_) ⟨h.objs.size, ?_⟩
  · rw [Heap.get?_update_other _ _ (Ne.symm hb)]
    exact Heap.get?_push_of_some _ e1
  · rw [Heap.get?_update_self _ (Heap.get?_push_of_some _ he) rfl]
    rfl
end
end Mine
end
section
open PySem PySem.Spec PySem.Calls PyProof.Rows PySem.W Builtin Builtin.ObjectAttr
set_option maxRecDepth 100000
set_option linter.unusedVariables false
namespace Mine
section
variable {prog : Program} {w : World} {A : Around} {E : Value → Shared → Prop} {s : Shared} {K : Frag} {x C C' : Addr} {bmB : List Value} {B : String}
theorem x_osa {ox : Obj} {od : Option Obj} {name : Str} {tk : Tok} {v : Value} {R : Result → Shared → Prop} {cd : ClassData} (SF : StoreFacts B bmB "object.__setattr__" "object") (X : K.In s.heap) (I : InstAt s.heap x ox C od)
    (hc : clsIn K C = some cd) (hm : cd.mro = .ref C :: .ref C' :: bmB) (hh : cd.hasDict = true) (hmo : mroIn K C (.type "object") = some true) (hf : findIn K (.ref C) name = some none)
    (h : ∀ b, wpAny (model prog w) A.in1 (storeInOwnDict (.ref x) (.ref C) (.str name tk) name v b)
      (fun fin s' => match fin with | PySem.Fin.done f => R (.ok f) s' | PySem.Fin.again c' => c'.quiet = true ∧ codeAny (model prog w) A c' R s') (fun e s' => R (.error e) s') s) :
    codeAny (model prog w) A (.call (.builtin "object.__setattr__") ⟨[.ref x, .str name tk, v], []⟩) R s := by
  have sub : Looks (model prog w) s.heap (isInstance (.ref x) (.type "object")) true := I.type.andThen (looks_mroIn X hmo)
  have lm : Looks (model prog w) s.heap (mroOf (.ref C)) cd.mro := (looks_clsIn X hc).andThen .now
  have S0 := PySem.F.store_object
  refine codeAny_call_builtin S0.slot.plain S0.entry (@check_slot (model prog w) _ _ s "object.__setattr__" "object" "__setattr__" (.ref x) [.str name tk, v] [] _ S0.kind S0.split sub (S0.args (.ref x) (.str name tk) v) ?_)
  rw [osa_eq, refuse_eq]
  refine wpAny_bind (wpAny_bind (I.type.here (wpAny_bind (lm.here ?_))))
  rw [hm, refuseLoop_ref, refuseLoop_ref, SF.passes]
  exact wpAny_pure (wpAny_bind (I.type.here (wpAny_bind ((looks_findIn X hf).here (wpAny_bind (wpAny_pure (h _)))))))
noncomputable abbrev exO (C : Addr) (d : Option Addr) (t : Addr) : Obj := { cls := .ref C, dict := d, data := .fields #[.ref t, .none, .none, .none, .bool false, .none] }
theorem x_ns {d : Addr} {es : List DictEntry} {m : Nat} {ks : List Str} {us : List Value} {name : Str} {v : Value} {tk : Tok} {P : PySem.Fin → Shared → Prop} (hd : s.heap.get? d = some (dictOf es m)) (he : Ents es ks us) (hk : name ∉ ks) (hl : es.length ≤ 100)
    (h : ∀ h' tk' es' n', Heap.SameBut d s.heap h' → h'.get? d = some (dictOf es' n') → Ents es' (ks ++ [name]) (us ++ [v]) → es'.length = es.length + 1 → P (.done (.ret .none)) { s with heap := h', toks := tk' }) :
    wpAny (model prog w) A (storeInDict d (.str name tk) name v) P E s := by
  obtain ⟨hs1, hs2⟩ := ents_none he hk
  unfold storeInDict newKeyGuard
  have e1 : es.any (·.key.isStr name) = false := by
    cases q : es.any (·.key.isStr name) with
    | false => rfl
    | true => obtain ⟨e, he, z⟩ := List.any_eq_true.mp q; rw [hs1 e he] at z; cases z
  have e2 : es.any (·.refKey) = false := by
    cases q : es.any (·.refKey) with
    | false => rfl
    | true => obtain ⟨e, he, z⟩ := List.any_eq_true.mp q; rw [hs2 e he] at z; cases z
  have e : ∀ tk, Obj.putName name (PyData.keyHash w.params name) (.str name tk) v (dictOf es m) = dictOf (es ++ [⟨PyData.keyHash w.params name, .str name tk, v⟩]) (m + 1) := fun tk => by
    rw [putName_dict, putL_new hs1]
    show dictOf _ (if es.any (·.key.isStr name) then m else m + 1) = _
    rw [e1, if_neg Bool.false_ne_true]
  have c : aRefKeyMayBeTheName name es.toArray = false := by
    rw [aRefKeyMayBeTheName_at, ← Array.any_toList, ← Array.any_toList]
    show (!es.any (·.key.isStr name) && es.any (·.refKey)) = false
    rw [e2, Bool.and_false]
  refine wpAny_bind (wpAny_pure (wpAny_bind ?_))
  unfold nsSet
  refine wpAny_bind (wpAny_bind (wpAny_askSetting (wpAny_pure (wpAny_bind (wpAny_mkText (wpAny_bind (wpAny_loadPart hd ?_)))))))
  dsimp only
  rw [c]
  refine wpAny_updatePart hd ?_
  have hD' := Heap.get?_update_self (Obj.putName name (PyData.keyHash w.params name) (.str name s.toks) v) hd (by rw [e]; rfl)
  rw [e] at hD'
  refine wpAny_bind (wpAny_lookBehind hD' (by refine pastItsLine_dict (by rw [List.size_toArray, sizeLine_eq, List.length_append]; simp; omega)) ?_)
  exact wpAny_pure (h _ _ _ _ (Heap.SameBut.update ..) hD' (ents_app he rfl rfl) (by simp))
theorem x_set0 {name : Str} {v : Value} {t : Addr} {Q : Unit → Shared → Prop} {cd : ClassData} (SF : StoreFacts B bmB "object.__setattr__" "object") (X : K.In s.heap) (he : s.heap.get? x = some (exO C none t))
    (hs : findIn K (.ref C) "__setattr__" = some (some (.builtin "object.__setattr__"))) (hc : clsIn K C = some cd) (hm : cd.mro = .ref C :: .ref C' :: bmB) (hh : cd.hasDict = true) (hmo : mroIn K C (.type "object") = some true) (hf : findIn K (.ref C) name = some none)
    (h : ∀ h' tk', (∀ b o, b ≠ x → s.heap.get? b = some o → h'.get? b = some o) → (∃ dx es n, h'.get? x = some (exO C (some dx) t) ∧ dx ≠ x ∧ s.heap.get? dx = none ∧ h'.get? dx = some (dictOf es n) ∧ Ents es [name] [v] ∧ es.length = 1) → Q () { s with heap := h', toks := tk' }) :
    wpAny (model prog w) A (setAttr (.ref x) name v) Q E s := by
  have I : InstAt s.heap x (exO C none t) C none := ⟨he, rfl, rfl, trivial⟩
  refine set_plain X I hs (x_osa (s := { s with toks := s.toks + 1 }) SF X I hc hm hh hmo hf fun b => ?_)
  refine wpAny_bind (wpAny_pure (wpAny_bind (wpAny_bind (wpAny_loadPart he (wpAny_bind (looks_clsIn X hc _ _ _ _ (fun _ _ e => e) ?_))))))
  rw [hh]
  have he₁ : (s.heap.push { cls := .type "dict", data := .dict #[] }).get? x = some (exO C none t) := Heap.get?_push_of_some _ he
  have hxs : x ≠ s.heap.objs.size := Nat.ne_of_lt (Heap.lt_size he)
  show wpAny _ _ (alloc { cls := .type "dict", data := .dict #[] } >>= fun d => update x (fun o => { cls := o.cls, dict := some d, data := o.data, slots := o.slots }) >>= fun _ => dictMade (.ref C) x d) _ _ _
  refine wpAny_bind (wpAny_alloc' ?_)
  refine wpAny_bind (wpAny_update' he₁ ?_)
  refine wpAny_pure ?_
  have hd₂ : ((s.heap.push { cls := .type "dict", data := .dict #[] }).update x fun o => { cls := o.cls, dict := some s.heap.objs.size, data := o.data, slots := o.slots }).get? s.heap.objs.size = some (dictOf [] 0) :=
    (Heap.get?_update_ne _ _ _ _ hxs.symm).trans (Heap.get?_push_at rfl rfl)
  have hx₂ : ((s.heap.push { cls := .type "dict", data := .dict #[] }).update x fun o => { cls := o.cls, dict := some s.heap.objs.size, data := o.data, slots := o.slots }).get? x = some (exO C (some s.heap.objs.size) t) :=
    Heap.get?_update_self _ he₁ rfl
  refine x_ns (ks := []) (us := []) hd₂ trivial (by simp) (by simp) fun h' tk' es' n' sb hd' en hl => ?_
  refine h h' tk' (fun b o hb e => sb.extBut b o (Nat.ne_of_lt (Heap.lt_size e)) ((Heap.get?_update_ne _ _ _ _ hb).trans (Heap.get?_push_of_some _ e))) ⟨s.heap.objs.size, es', n', sb.extBut x _ hxs hx₂, hxs.symm, size_none _, hd', en, hl⟩
theorem x_set1 {name : Str} {v : Value} {t dx : Addr} {es : List DictEntry} {n : Nat} {ks : List Str} {us : List Value} {Q : Unit → Shared → Prop} {cd : ClassData} (SF : StoreFacts B bmB "object.__setattr__" "object") (X : K.In s.heap) (he : s.heap.get? x = some (exO C (some dx) t))
    (hd : s.heap.get? dx = some (dictOf es n)) (hen : Ents es ks us) (hk : name ∉ ks) (hl : es.length ≤ 100)
    (hs : findIn K (.ref C) "__setattr__" = some (some (.builtin "object.__setattr__"))) (hc : clsIn K C = some cd) (hm : cd.mro = .ref C :: .ref C' :: bmB) (hh : cd.hasDict = true) (hmo : mroIn K C (.type "object") = some true) (hf : findIn K (.ref C) name = some none)
    (h : ∀ h' tk', Heap.SameBut dx s.heap h' → Q () { s with heap := h', toks := tk' }) :
    wpAny (model prog w) A (setAttr (.ref x) name v) Q E s := by
  have I : InstAt s.heap x (exO C (some dx) t) C (some (dictOf es n)) := ⟨he, rfl, rfl, hd⟩
  refine set_plain X I hs (x_osa (s := { s with toks := s.toks + 1 }) SF X I hc hm hh hmo hf fun b => ?_)
  refine wpAny_bind (wpAny_pure (wpAny_bind (wpAny_bind (wpAny_loadPart he (wpAny_bind (looks_clsIn X hc _ _ _ _ (fun _ _ e => e) ?_))))))
  rw [hh]
  refine wpAny_pure (a := some dx) ?_
  exact x_ns (s := { s with toks := s.toks + 1 }) hd hen hk hl fun h' tk' es' n' sb _ _ _ => h h' tk' sb
end
end Mine
end
section
open PySem PySem.Spec PySem.Calls PyProof.Rows PySem.W
set_option maxRecDepth 100000
set_option linter.unusedVariables false
namespace Mine
noncomputable def KX (w : World) : Frag := [(92, o59), (91, o58 w.params), (79, o50), (78, o49 w.params), (69, o43)]
theorem kx_in (w : World) : (KX w).In (GH w) := inOf (by
  intro p hp
  unfold KX at hp
  rcases List.mem_cons.mp hp with rfl | hp
  · exact cls_DraftFault w
  rcases List.mem_cons.mp hp with rfl | hp
  · exact clsns_DraftFault w
  rcases List.mem_cons.mp hp with rfl | hp
  · exact cls_PaperError w
  rcases List.mem_cons.mp hp with rfl | hp
  · exact clsns_PaperError w
  rcases List.mem_cons.mp hp with rfl | hp
  · exact at_ (a := 69) (o := o43) (by kernel_rfl!) (by decide) rfl
  cases hp)
noncomputable abbrev cdX (w : World) : ClassData := { name := s20, bases := [(.ref 79)], mro := [(.ref 92), (.ref 79), .type "Exception", .type "BaseException", .type "object"], ns := 91, qualname := s20, hasDict := true, slotNames := [], subclasses := [], abstract := false, collection := none, hasDel := false }
theorem kx_cls (w : World) : clsIn (KX w) 92 = some (cdX w) := by kernel_rfl!
theorem kx_sa (w : World) : findIn (KX w) (.ref 92) "__setattr__" = some (some (.builtin "object.__setattr__")) := by kernel_rfl!
theorem kx_init (w : World) : findIn (KX w) (.ref 92) "__init__" = some (some (.ref 69)) := by kernel_rfl!
theorem kx_what (w : World) : findIn (KX w) (.ref 92) ⟨⟨[119,104,97,116]⟩⟩ = some none := by kernel_rfl!
theorem kx_at (w : World) : findIn (KX w) (.ref 92) ⟨⟨[97,116]⟩⟩ = some none := by kernel_rfl!
theorem kx_obj (w : World) : mroIn (KX w) 92 (.type "object") = some true := by kernel_rfl!
section
variable {prog : Program} {w : World} {A : Around} {env : Env} {s : Shared} {h h' : Heap} {sc : Scope} {k : Nat} {V : VEnv} {e : Addr}
structure Mk (w : World) (sc : Scope) (env : Env) (h : Heap) (V : VEnv) (e : Addr) (prog : Program) : Prop where
  fr : FrOk prog w (GH w) sc env h (GH w).get? [] V
  inv : Inv prog w (GH w) h (GH w).get? [] []
  low : (GH w).objs.size ≤ e
  out : e ∉ wrOf env
theorem Mk.step (m : Mk w sc env h V e prog) (hk : ∀ b o, b ≠ e → h.get? b = some o → h'.get? b = some o) (hl : ∃ o, h'.get? e = some o) (h0 : ∃ o, h.get? e = some o) : Mk w sc env h' V e prog := by
  have U : Untold e h (GH w).get? [] := ⟨h0, by simp, none_of_ge m.low⟩
  have hw : ∀ b ∈ [e], b ∉ wrOf env := fun b hb => by rw [List.mem_singleton.mp hb]; exact m.out
  obtain ⟨I, S⟩ := m.inv.quiet (wr := [e]) (h' := h') (fun b hb => by rw [List.mem_singleton.mp hb]; exact U) (fun b o hb e1 => hk b o (fun z => hb (List.mem_singleton.mpr z)) e1) (fun b hb => by rw [List.mem_singleton.mp hb]; exact hl)
  exact ⟨m.fr.stepW S hw, I, m.low, m.out⟩
theorem Mk.of {B' : FB} {ρ' : List Addr} (m : Mk w sc env h V e prog) (S : Step [] h (GH w).get? [] h' B' ρ') (h0 : ∃ o, h.get? e = some o) : Mk w sc env h' V e prog ∧ ∀ b o, h.get? b = some o → h'.get? b = some o := by
  have k : ∀ b o, h.get? b = some o → h'.get? b = some o := fun b o q => S.keep b o q (by simp) (by simp)
  exact ⟨m.step (fun b o _ q => k b o q) (let ⟨o, q⟩ := h0; ⟨o, k _ _ q⟩) h0, k⟩
theorem mkNew (m : Mk w sc env h V e prog) {d : Addr} (hd : h.get? d = none) : d ∉ wrOf env ∧ (GH w).get? d = none := by
  constructor
  · intro q
    obtain ⟨o, ho⟩ := m.fr.live q
    rw [hd] at ho; cases ho
  · cases q : (GH w).get? d with
    | none => rfl
    | some o => have := m.inv.base _ _ q; rw [hd] at this; cases this
theorem ty_exc : typeOf (.type "Exception") = pure (.type "type") := by first | kernel_rfl | rfl
theorem fc_exc {w : World} : findCls (KX w) (.type "Exception") (.type "type") ⟨⟨[95,95,105,110,105,116,95,95]⟩⟩ = some (.val (.builtin "Exception.__init__")) := by kernel_rfl!
theorem cls_exc (w : World) : (GH w).get? 92 = some (excClassObj s20 s20 92 91 [.ref 79] [.ref 79, .type "Exception", .type "BaseException", .type "object"] true [] [] false none none (some (.ref 83)) none (some (.str s20 286)) (some (.str s20 294)) (some (.bool true)) "Exception.__new__") := cls_DraftFault w
theorem kind_init : (fdS (cm 6 0)).kind = .function := by kernel_rfl!
theorem cells_init : ∀ x ∈ (fdS (cm 6 0)).names, x.2 ≠ .cell := by decide +kernel
theorem paper_init {e t0 : Addr} {m : Str} {tk : Tok} (R : Room (k + 1) A) (hG : ∀ b o, (GH w).get? b = some o → s.heap.get? b = some o) (hlow : (GH w).objs.size ≤ e) (he : s.heap.get? e = some (exO 92 none t0)) :
    wpAny (model prog w) A (call (.ref 69) [.ref e, .str m tk]) (fun r s' => r = .none ∧ AsS s s' ∧ (∀ b o, b ≠ e → s.heap.get? b = some o → s'.heap.get? b = some o) ∧ ∃ d t, s'.heap.get? e = some (exO 92 d t)) (fun _ _ => False) s := by
  refine x8a3 ((fn_PaperError___init__ w).is) fun o qual kV doc pm an cdv ct ho hd hcr => ?_
  refine wpAny_call (codeAny_mono (R := fun r s' => match r with | .ok (.ret u) => u = .none ∧ AsS s s' ∧ (∀ b o, b ≠ e → s.heap.get? b = some o → s'.heap.get? b = some o) ∧ ∃ d t, s'.heap.get? e = some (exO 92 d t) | _ => False) ?_ fun r s' x => by
    rcases r with e | f
    · exact x
    · cases f <;> first | exact (x : False).elim | exact x)
  have X := (kx_in w).keeps hG
  have hv : (([⟨⟨[115,101,108,102]⟩⟩, ⟨⟨[119,104,97,116]⟩⟩, ⟨⟨[97,116]⟩⟩] : List Str).all fun x => (fdS (cm 6 0)).names.lookup x == some .local) = true := by kernel_rfl!
  have nd : ([⟨⟨[115,101,108,102]⟩⟩, ⟨⟨[119,104,97,116]⟩⟩, ⟨⟨[97,116]⟩⟩] : List Str).Nodup := by decide +kernel
  have rb : RelAL prog w (GH w).get? [] [.pv (.cst (.ref e)), .pv (.str m), .pv (.int (-1))] [.ref e, .str m tk, .int (-1) 259] := ⟨_, _, rfl, rfl, _, _, rfl, ⟨_, rfl⟩, _, _, rfl, ⟨_, rfl⟩, rfl⟩
  refine codeAny_call_def (o := o) (fd := fnOf s26 qual (fdP (cm 6 0)) (fdB (cm 6 0)) (fdS (cm 6 0)) (.ref 62) kV doc pm an cdv ct) (binds := ([⟨⟨[115,101,108,102]⟩⟩, ⟨⟨[119,104,97,116]⟩⟩, ⟨⟨[97,116]⟩⟩] : List Str).zip [.ref e, .str m tk, .int (-1) 259]) (by have := R.depth; omega) (hG _ _ ho) hd ((gok w).nolimit.keeps hG) (hcr.keeps hG) rfl
    (BindsTo.of_defaults rfl (hG 62 o39 (at_ (by kernel_rfl!) (by decide) rfl)) rfl rfl rfl) cells_init (fun y hy => by simpa using List.all_eq_true.mp hv y.1 (List.of_mem_zip hy).1) (fun h₁ hns keep => ?_) (by kernel_rfl!) (by kernel_rfl!) kind_init
  generalize hE : callEnv (fnOf s26 qual (fdP (cm 6 0)) (fdB (cm 6 0)) (fdS (cm 6 0)) (.ref 62) kV doc pm an cdv ct) s.heap.objs.size 69 = env
  have eS : env.scope = fdS (cm 6 0) := by subst hE; rfl
  have eG : env.globals = mainGlobals := by subst hE; rfl
  have eB : env.builtins = builtinsNs := by subst hE; rfl
  have eL : env.locals = s.heap.objs.size := by subst hE; rfl
  have eC : env.cells = [] := by subst hE; rfl
  have hbig : (GH w).objs.size ≤ s.heap.objs.size := (⟨fun _ _ e => e, hG, List.nodup_nil, fun _ m => (nomatch m), rfl, fun i a m e => by simp at e⟩ : Inv prog w (GH w) s.heap (GH w).get? [] []).big (gok w)
  have I₁ : Inv prog w (GH w) h₁ (GH w).get? [] [] := ⟨fun _ _ e => e, fun b o q => keep _ _ (hG _ _ q), List.nodup_nil, fun _ m => (nomatch m), rfl, fun i a m e => by simp at e⟩
  have hnl : ∀ x, (fdS (cm 6 0)).names.lookup x ≠ some .cell := fun x hx => cells_init _ (mem_of_lookup hx) rfl
  have R' : Room k (A.deeper env) := ⟨R.handled, by have := R.depth; show A.depth + 1 + 2 * k < _; omega, by have := R.units; show A.units + 3 + 20 * k < _; omega⟩
  have m₁ : Mk w (fdS (cm 6 0)) env h₁ (([⟨⟨[115,101,108,102]⟩⟩, ⟨⟨[119,104,97,116]⟩⟩, ⟨⟨[97,116]⟩⟩] : List Str).zip [.pv (.cst (.ref e)), .pv (.str m), .pv (.int (-1))]) e prog := by
    refine ⟨⟨eS, kind_init, eG, eB, ⟨_, (by rw [eL]; exact hns), fun y v hy hy' => ?_⟩, fun y v h hy => absurd hy (hnl y), fun y c hc => (by rw [eC] at hc; cases hc), (by rw [eC]; exact List.Pairwise.nil), fun y hy => absurd hy (hnl y), ?_⟩, I₁, hlow, ?_⟩
    · refine x1a2 (zip_rel rb rfl y v hy) fun u hu r => ?_
      refine ⟨u, ?_, r⟩
      have ndr : (((([⟨⟨[115,101,108,102]⟩⟩, ⟨⟨[119,104,97,116]⟩⟩, ⟨⟨[97,116]⟩⟩] : List Str).zip [Value.ref e, Value.str m tk, Value.int (-1) 259]).reverse).map (·.1)).Nodup := by rw [List.map_reverse]; exact (List.reverse_perm _).nodup_iff.mpr nd
      exact lk_of_mem ndr (List.mem_reverse.mpr (mem_of_lk hu))
    · rw [eL]; exact ⟨by simp, none_of_ge hbig, hbig⟩
    · intro q
      rcases wrOf_cases q with z | ⟨y, z⟩
      · rw [eL] at z; exact absurd (Heap.lt_size he) (by rw [z]; exact Nat.lt_irrefl _)
      · rw [eC] at z; cases z
  have he₁ := keep _ _ he
  refine wpAny_mono (E := fun _ _ => False) (Q := fun f s' => f = .next ∧ AsS s s' ∧ (∀ b o, b ≠ e → s.heap.get? b = some o → s'.heap.get? b = some o) ∧ ∃ d t, s'.heap.get? e = some (exO 92 d t)) ?_ (fun f s' x => ?_) fun _ _ x => x.elim
  · have nw : e ∉ wrOf env := m₁.out
    have kE : ∀ {h₂ : Heap}, (∀ b o, b ≠ e → h₁.get? b = some o → h₂.get? b = some o) → ∀ b o, b ≠ e → s.heap.get? b = some o → h₂.get? b = some o := fun hk b o hb q => hk b o hb (keep _ _ q)
    -- Exception.__init__(self, what)
    refine wpAny_execs_cons ?_
    refine wpAny_Expr_any ?_ (noninter (s := { s with heap := h₁ }) m₁.fr) rfl
    refine methodCall_KW (he := rfl) ?_
    refine (en_Exception (k := k) (Q := fun v _ => v = .pv (.cst (.type "Exception"))) rfl (by kernel_rfl!)).go R' m₁.fr m₁.inv fun u s₁ B₁ ρ₁ v σ₁ a r hv' => ?_
    subst hv'
    cases (show u = .type "Exception" from r)
    obtain ⟨m₂, k₂⟩ := m₁.of a.step ⟨_, he₁⟩
    obtain ⟨sm₁⟩ := a
    have he₂ := k₂ _ _ he₁
    refine x1a2 m₂.fr.loc fun mm hmm _ => ?_
    have Fr₂ : Fr (GH w) env.locals s₁.heap mm := ⟨hmm, fun b o q => m₂.inv.base b o q, m₂.fr.own.2.2⟩
    refine method_type (T := "Exception") (K := KX w) (v := .builtin "Exception.__init__") Fr₂ (kx_in w) ty_exc (by decide +kernel) fc_exc rfl ?_
    refine callWith_mach (first := []) rfl rfl ?_
    refine (show LOk prog w (GH w) (fdS (cm 6 0)) k _ _ [] (fun vs _ => vs = [.pv (.cst (.ref e)), .pv (.str m)]) from l_cons (e_var rfl (l_cons (e_var rfl (l_nil rfl) (by kernel_rfl!)) (fun _ => rfl)) (by kernel_rfl!)) (fun _ => rfl)).go (s := { s₁ with toks := s₁.toks + 1 }) R' m₂.fr m₂.inv fun us s₃ B₃ ρ₃ vs σ₃ a₃ rs hvs => ?_
    subst hvs
    refine x2a2 (args2 rs) fun u1 u2 Z1 Z2 => ?_; obtain rfl := Z1; obtain ⟨r1, r2⟩ := Z2
    cases (show u1 = .ref e from r1)
    obtain ⟨tk2, rfl⟩ := (show ∃ t, u2 = .str m t from r2)
    obtain ⟨m₃, k₃⟩ := m₂.of a₃.step ⟨_, he₂⟩
    have he₃ := k₃ _ _ he₂
    obtain ⟨hp₃, g₃, d₃, t₃, os₃⟩ := s₃
    refine x_init PySem.F.excBase_Exception rfl (m₃.inv.base _ _ (cls_exc w)) he₃ (fun h₄ hk₄ he₄ => ?_)
    obtain ⟨t1, he₄⟩ := he₄
    have m₄ := m₃.step hk₄ ⟨_, he₄⟩ ⟨_, he₃⟩
    -- self.what = what
    refine wpAny_execs_cons ?_
    refine plainObj_wpAny_Assign_Attribute ?_ rfl
    refine (show EOk prog w (GH w) (fdS (cm 6 0)) k _ _ [] (fun v _ => v = .pv (.str m)) from e_var rfl rfl (by kernel_rfl!)).go (s := ⟨h₄, g₃, d₃, t₃, os₃⟩) R' m₄.fr m₄.inv fun u₅ s₅ B₅ ρ₅ v₅ σ₅ a₅ r₅ hv₅ => ?_
    subst hv₅
    obtain ⟨m₅, k₅⟩ := m₄.of a₅.step ⟨_, he₄⟩
    have he₅ := k₅ _ _ he₄
    refine (show EOk prog w (GH w) (fdS (cm 6 0)) k _ _ [] (fun v _ => v = .pv (.cst (.ref e))) from e_var rfl rfl (by kernel_rfl!)).go R' m₅.fr m₅.inv fun u₆ s₆ B₆ ρ₆ v₆ σ₆ a₆ r₆ hv₆ => ?_
    subst hv₆
    cases (show u₆ = .ref e from r₆)
    obtain ⟨m₆, k₆⟩ := m₅.of a₆.step ⟨_, he₅⟩
    have he₆ := k₆ _ _ he₅
    refine x_set0 PySem.F.store_Exception ((kx_in w).keeps fun b o q => m₆.inv.base b o q) he₆ (kx_sa w) (kx_cls w) rfl rfl (kx_obj w) (kx_what w) fun h₇ tk₇ hk₇ hx₇ => ?_
    refine x3a6 hx₇ fun dx es n he₇ hdx hdn hd₇ hen hel => ?_; clear hx₇
    have m₇ := m₆.step hk₇ ⟨_, he₇⟩ ⟨_, he₆⟩
    have hdW : dx ∉ wrOf env := (mkNew m₆ hdn).1
    have hdG : (GH w).get? dx = none := (mkNew m₆ hdn).2
    -- self.at = at
    refine wpAny_execs_cons ?_
    refine plainObj_wpAny_Assign_Attribute ?_ rfl
    refine (show EOk prog w (GH w) (fdS (cm 6 0)) k _ _ [] (fun v _ => v = .pv (.int (-1))) from e_var rfl rfl (by kernel_rfl!)).go (s := { s₆ with heap := h₇, toks := tk₇ }) R' m₇.fr m₇.inv fun u₈ s₈ B₈ ρ₈ v₈ σ₈ a₈ r₈ hv₈ => ?_
    subst hv₈
    obtain ⟨m₈, k₈⟩ := m₇.of a₈.step ⟨_, he₇⟩
    have he₈ := k₈ _ _ he₇
    refine (show EOk prog w (GH w) (fdS (cm 6 0)) k _ _ [] (fun v _ => v = .pv (.cst (.ref e))) from e_var rfl rfl (by kernel_rfl!)).go R' m₈.fr m₈.inv fun u₉ s₉ B₉ ρ₉ v₉ σ₉ a₉ r₉ hv₉ => ?_
    subst hv₉
    cases (show u₉ = .ref e from r₉)
    obtain ⟨m₉, k₉⟩ := m₈.of a₉.step ⟨_, he₈⟩
    have he₉ := k₉ _ _ he₈
    have hd₉ := k₉ _ _ (k₈ _ _ hd₇)
    refine x_set1 PySem.F.store_Exception ((kx_in w).keeps fun b o q => m₉.inv.base b o q) he₉ hd₉ hen (by decide +kernel) (by omega) (kx_sa w) (kx_cls w) rfl rfl (kx_obj w) (kx_at w) fun h₁₀ tk₁₀ sb => ?_
    refine wpAny_execs_nil ⟨rfl, ?_, ?_, some dx, _, sb.extBut _ _ (Ne.symm hdx) he₉⟩
    · exact (AsS.trans ⟨h₁, _, rfl⟩ sm₁).trans ((AsS.trans ⟨s₁.heap, _, rfl⟩ a₃.same).trans ((AsS.trans ⟨h₄, t₃, rfl⟩ a₅.same).trans (a₆.same.trans ((AsS.trans ⟨h₇, tk₇, rfl⟩ a₈.same).trans (a₉.same.trans ⟨h₁₀, tk₁₀, rfl⟩)))))
    · intro b o hb q
      have q₆ := k₆ _ _ (k₅ _ _ (hk₄ _ _ hb (k₃ _ _ (k₂ _ _ (keep _ _ q)))))
      have hbd : b ≠ dx := fun z => by
        subst z
        rw [hdn] at q₆; cases q₆
      exact sb.extBut _ _ hbd (k₉ _ _ (k₈ _ _ (hk₇ _ _ hb q₆)))
  · obtain ⟨rfl, x⟩ := x
    exact ⟨rfl, x⟩
end
section
variable {prog : Program} {w : World} {A : Around} {env : Env} {s : Shared} {h h' : Heap} {sc : Scope} {k : Nat} {V : VEnv} {B : FB}
noncomputable def Thrown (s : Shared) (e : Value) (s' : Shared) : Prop := ∃ a d t, e = .ref a ∧ AsS s s' ∧ (∀ b o, s.heap.get? b = some o → s'.heap.get? b = some o) ∧ s.heap.get? a = none ∧ s'.heap.get? a = some (exO 92 d t)
theorem x_throw {x : Sem Value} {Q : Flow → Shared → Prop} {E : Value → Shared → Prop} (hh : A.handled = none)
    (hx : wpAny (model prog w) A x (fun v s₁ => ∃ e d t, v = .ref e ∧ (∀ b o, (GH w).get? b = some o → s₁.heap.get? b = some o) ∧ s₁.heap.get? e = some (exO 92 d t) ∧ E (.ref e) s₁) E s) :
    wpAny (model prog w) A (raiseStmt env (some x) none) Q E s := by
  unfold raiseStmt
  refine wpAny_bind (wpAny_mono hx (fun v s₁ h₁ => ?_) fun _ _ x => x)
  refine x3a2 h₁ fun e d t Z1 Z2 => ?_; clear h₁; obtain rfl := Z1; refine x0a3 Z2 fun hG he hE => ?_; clear Z2
  have hC := hG _ _ (cls_exc w)
  have hcB : (Value.ref 92 :: [Value.ref 79, .type "Exception", .type "BaseException", .type "object"]).contains (.type "BaseException") = true := by decide
  obtain ⟨hp, g, dr, tk, os⟩ := s₁
  repeat (first | with_reducible refine wpAny_loadPart_at he ?_ | with_reducible refine wpAny_loadPart_at hC ?_ | (with_reducible refine wpAny_isSubtype_exc hC ?_; rw [hcB]) | wp_step)
  exact wpAny_raiseNew_none hh hE
theorem raise_low {arg : Expr} {np cp pos : Pos} {Q : Flow → Shared → Prop} (R : Room (k + 20) A) (F : FrOk prog w (GH w) sc env s.heap B [] V) (I : Inv prog w (GH w) s.heap B [] [])
    (ha : EOk prog w (GH w) sc (k + 20) arg V [] fun v _ => ∃ m, v = .pv (.str m)) (hst : noStar [arg] = true) (hse : ∀ env, starEach [arg] env = (false, eval arg env) :: starEach [] env) (hk : sc.names.lookup n_DraftFault = some .globalImplicit) :
    wpAny (model prog w) A (exec (.Raise (some (.Call (.Name n_DraftFault np) [arg] [] cp)) none pos) env) Q (Thrown s) s := by
  rw [arm_exec_Raise]
  refine wpAny_bind (wpAny_standAt ?_)
  refine x_throw R.handled ?_
  refine wpAny_bind (wpAny_mono (Q := fun v s₁ => ∃ e d t, v = .ref e ∧ (∀ b o, (GH w).get? b = some o → s₁.heap.get? b = some o) ∧ s₁.heap.get? e = some (exO 92 d t) ∧ Thrown s (.ref e) s₁) (E := fun _ _ => False) ?_ (fun v s₁ h₁ => wpAny_bind (wpAny_standAt (wpAny_pure h₁))) fun _ _ x => x.elim)
  refine wpAny_Call_ofName ?_
  refine (en_DraftFault (k := k + 20) (Q := fun v σ => v = .pv (.cst (.ref 92)) ∧ σ = []) ⟨rfl, rfl⟩ hk).go R F I fun u s₁ B₁ ρ₁ v σ₁ a r hv => ?_
  obtain ⟨rfl, rfl⟩ := hv
  cases (show u = .ref 92 from r)
  have k₁ : ∀ b o, s.heap.get? b = some o → s₁.heap.get? b = some o := fun b o q => a.step.keep b o q (by simp) (by simp)
  refine callWith_of (P := fun h => ∀ b o, (GH w).get? b = some o → h.get? b = some o) (by rw [backTo_any cp _ env (noStar_mem hst)]; rfl) (fun h hP => ⟨.machine, .inr (.inl rfl), fun A Q E s hk q => ?_⟩) (evalArgs_spl hst ((l_cons (Q := fun vs _ => ∃ m, vs = [.pv (.str m)]) (ha.mono fun v σ ⟨m, e⟩ => l_nil ⟨m, by rw [e]⟩) hse).go R (a.fr F) a.inv fun us s₂ B₂ ρ₂ vs σ₂ a₂ rs hvs => ⟨a₂.inv.keepG, ?_⟩))
  · obtain ⟨hp, g, dr, tk, os⟩ := s
    exact wpAny_keeperOf_exc (hk _ _ (hP _ _ (cls_exc w))) q
  · obtain ⟨m, rfl⟩ := hvs
    refine x1a2 (args1 rs) fun u2 Z4 Z5 => ?_; obtain rfl := Z4; obtain ⟨tk2, Z6⟩ := Z5; obtain rfl := Z6
    have hρ₁ : ρ₁ = [] := List.eq_nil_of_length_eq_zero a.inv.len
    subst hρ₁
    have k₂ : ∀ b o, s₁.heap.get? b = some o → s₂.heap.get? b = some o := fun b o q => a₂.step.keep b o q (by simp) (by simp)
    have hG := a₂.inv.keepG
    have hbig := a₂.inv.big (gok w)
    obtain ⟨hp, g, dr, tk, os⟩ := s₂
    refine x_call_exc PySem.F.excBase_Exception rfl rfl rfl (hG _ _ (cls_exc w)) ((kx_in w).keeps hG) (kx_init w) (hG _ _ (at_ (a := 69) (o := o43) (by kernel_rfl!) (by decide) rfl)) rfl fun h' e hm hle => ?_
    refine x1a3 hm.there fun t he _ _ => ?_
    have RR : Room (0 + 1) (A.under (.builtin "type.__call__" ⟨[.ref 92, .str m tk2], []⟩)) := ⟨R.handled, by have := R.depth; rw [tc_depth]; omega, by have := R.units; have := under_tc A [.ref 92, .str m tk2]; omega⟩
    have hlow : (GH w).objs.size ≤ e := Nat.le_trans hbig hle
    refine wpAny_mono (paper_init (k := 0) (s := ⟨h', g, dr, tk, os⟩) RR (fun b o q => hm.keeps _ _ (hG _ _ q)) hlow he) (fun r s' x => ?_) fun _ _ x => x.elim
    obtain ⟨Z7, Z8⟩ := x; obtain rfl := Z7; refine x0a3 Z8 fun sm hk' Z9 => ?_; clear Z8; refine x2a1 Z9 fun d t' he' => ?_; clear Z9
    have ne : ∀ {b o}, hp.get? b = some o → b ≠ e := fun q z => by rw [z, hm.new] at q; cases q
    refine ⟨rfl, e, d, t', rfl, fun b o q => hk' _ _ (ne (hG _ _ q)) (hm.keeps _ _ (hG _ _ q)), he', e, d, t', rfl, a.same.trans (a₂.same.trans (AsS.trans ⟨h', tk, rfl⟩ sm)), fun b o q => hk' _ _ (ne (k₂ _ _ (k₁ _ _ q))) (hm.keeps _ _ (k₂ _ _ (k₁ _ _ q))), ?_, he'⟩
    cases q : s.heap.get? e with
    | none => rfl
    | some o => have := k₂ _ _ (k₁ _ _ q); rw [hm.new] at this; cases this
end
section
variable {prog : Program} {w : World} {A : Around} {env : Env} {s s' s'' : Shared} {h h' : Heap} {sc : Scope} {k : Nat} {V : VEnv} {B : FB} {e : Value}
theorem Thrown.after (sm : AsS s s') (hk : ∀ b o, s.heap.get? b = some o → s'.heap.get? b = some o) (x : Thrown s' e s'') : Thrown s e s'' := by
  obtain ⟨a, d, t, rfl, sm', hk', hn, he⟩ := x
  refine ⟨a, d, t, rfl, sm.trans sm', fun b o q => hk' _ _ (hk _ _ q), ?_, he⟩
  cases q : s.heap.get? a with
  | none => rfl
  | some o => have := hk _ _ q; rw [hn] at this; cases this
noncomputable def SR (prog : Program) (w : World) (sc : Scope) (k : Nat) (ss : List Stmt) (V : VEnv) : Prop :=
  ∀ A env s B, Room k A → FrOk prog w (GH w) sc env s.heap B [] V → Inv prog w (GH w) s.heap B [] [] → wpAny (model prog w) A (execs ss env) (fun _ _ => False) (Thrown s) s
theorem sr_raise {arg : Expr} {np cp pos : Pos} {rest : List Stmt} (ha : EOk prog w (GH w) sc (k + 20) arg V [] fun v _ => ∃ m, v = .pv (.str m)) (hst : noStar [arg] = true) (hse : ∀ env, starEach [arg] env = (false, eval arg env) :: starEach [] env) (hk : sc.names.lookup n_DraftFault = some .globalImplicit) :
    SR prog w sc (k + 20) (.Raise (some (.Call (.Name n_DraftFault np) [arg] [] cp)) none pos :: rest) V := fun A env s B R F I =>
  wpAny_execs_cons (raise_low R F I ha hst hse hk)
theorem sr_test {t : Expr} {b : List Stmt} {p : Pos} {rest : List Stmt} {c : Bool} (ht : TOk prog w (GH w) sc k t V [] fun c' σ => c' = c ∧ σ = []) (h1 : c = true → SR prog w sc k b V) (h2 : c = false → SR prog w sc k rest V) : SR prog w sc k (.If t b [] p :: rest) V := fun A env s B R F I => by
  refine wpAny_execs_cons (wpAny_If (wpAny_F (ht.go R F I fun c' s₁ B₁ ρ₁ σ₁ a q => ?_)))
  obtain ⟨rfl, rfl⟩ := q
  have hρ : ρ₁ = [] := List.eq_nil_of_length_eq_zero a.inv.len
  subst hρ
  have k₁ : ∀ b o, s.heap.get? b = some o → s₁.heap.get? b = some o := fun b o q => a.step.keep b o q (by simp) (by simp)
  cases c' with
  | true => exact wpAny_mono (h1 rfl A env s₁ B₁ R (a.fr F) a.inv) (fun _ _ x => x.elim) fun e s' x => x.after a.same k₁
  | false => exact wpAny_execs_nil (wpAny_mono (h2 rfl A env s₁ B₁ R (a.fr F) a.inv) (fun _ _ x => x.elim) fun e s' x => x.after a.same k₁)
end
noncomputable abbrev shP (D : List (Int × PV)) : PV := .ins 417 shN [dP D, .dctI [] []]
noncomputable def isWay (l : List Nat) : Bool := l == [99,108,97,115,115,105,99] || l == [115,116,114,101,97,109] || l == [112,97,99,107,101,100]
theorem way_any (l : List Nat) : (([⟨⟨[99,108,97,115,115,105,99]⟩⟩, ⟨⟨[115,116,114,101,97,109]⟩⟩, ⟨⟨[112,97,99,107,101,100]⟩⟩] : List Str).any (· == ⟨⟨l⟩⟩)) = isWay l := by
  have e : ∀ a b : List Nat, ((⟨⟨a⟩⟩ : Str) == ⟨⟨b⟩⟩) = (b == a) := fun a b => by
    by_cases h : a = b
    · subst h; rw [beq_self_eq_true, beq_self_eq_true]
    · rw [beq_eq_false_iff_ne.mpr (fun z => h (by injection z with z; injection z)), beq_eq_false_iff_ne.mpr (Ne.symm h)]
  show (((⟨⟨_⟩⟩ : Str) == ⟨⟨l⟩⟩) || (((⟨⟨_⟩⟩ : Str) == ⟨⟨l⟩⟩) || (((⟨⟨_⟩⟩ : Str) == ⟨⟨l⟩⟩) || false))) = _
  rw [e, e, e, Bool.or_false]
  unfold isWay
  rw [Bool.or_assoc]
section
variable {prog : Program} {w : World} {k : Nat} {D : List (Int × PV)} {way : List Nat} {Q : AV → List MO → Prop}
noncomputable abbrev vWay (D : List (Int × PV)) (way : List Nat) : VEnv := ([⟨⟨[115,104,101,108,102]⟩⟩, ⟨⟨[119,97,121]⟩⟩] : List Str).zip [.pv (shP D), .pv (sg way)]
theorem check_ok (hw : isWay way = true) (hz : (0 : Int) ∉ D.map (·.1)) (h : Q (.pv .none) []) : COk prog w (GH w) (k + 5) (.ref 599) [.pv (shP D), .pv (sg way)] [] Q := by
  refine cf (gok w) (fn_check_way w) (xs := [⟨⟨[115,104,101,108,102]⟩⟩, ⟨⟨[119,97,121]⟩⟩]) (hb2 fun _ _ _ _ _ _ _ _ _ => rfl) ?_
  refine s_cons ?_
  refine x_if ?_
  refine t_cmp ?_ rfl
  refine ev ?_
  refine en_FILE_WAYS ?_ (by kernel_rfl!)
  refine o_ninTS (ns := c_FILE_WAYS) rfl ?_
  refine tr_bool ?_
  rw [way_any, hw]
  refine ⟨fun h => (by cases h), fun _ => s_nil ?_⟩
  refine s_one ?_
  refine x_if ?_
  refine t_cmp ?_ rfl
  refine e_int ?_
  refine e_attr ?_ (fun _ => rfl)
  refine ev ?_
  refine at_ins (cl_Shelf w) rfl rfl rfl ?_ (by kernel_rfl!)
  refine o_inD (gok w) rfl ?_
  refine tr_bool ?_
  rw [decide_eq_false hz]
  exact ⟨fun h => (by cases h), fun _ => s_nil h⟩
theorem check_sr (hl' : way.length ≤ 100) (hr : isWay way = false ∨ (0 : Int) ∈ D.map (·.1)) : SR prog w (fdS (st 66)) (k + 20) (fdB (st 66)) (vWay D way) := by
  have hl : ((⟨⟨[117,110,107,110,111,119,110,32,119,97,121,32]⟩⟩ : Str)).length + ((⟨⟨way⟩⟩ : Str)).length ≤ 16777216 := by
    show 12 + way.length ≤ _
    omega
  refine sr_test (c := !isWay way) ?_ (fun _ => sr_raise ?_ rfl (fun _ => rfl) (by kernel_rfl!)) (fun hw => sr_test (c := decide ((0 : Int) ∈ D.map (·.1))) ?_ (fun _ => sr_raise ?_ rfl (fun _ => rfl) (by kernel_rfl!)) (fun hz => ?_))
  · refine t_cmp ?_ rfl
    refine ev ?_
    refine en_FILE_WAYS ?_ (by kernel_rfl!)
    refine o_ninTS (ns := c_FILE_WAYS) rfl ?_
    refine tr_bool ?_
    rw [way_any]
    exact ⟨rfl, rfl⟩
  · refine e_bin ?_
    refine e_str ?_
    refine ev ?_
    refine o_strAdd hl ?_
    exact ⟨_, rfl⟩
  · refine t_cmp ?_ rfl
    refine e_int ?_
    refine e_attr ?_ (fun _ => rfl)
    refine ev ?_
    refine at_ins (cl_Shelf w) rfl rfl rfl ?_ (by kernel_rfl!)
    refine o_inD (gok w) rfl ?_
    refine tr_bool ?_
    exact ⟨rfl, rfl⟩
  · exact e_str ⟨_, rfl⟩
  · rcases hr with h | h
    · rw [h] at hw; cases hw
    · rw [decide_eq_true h] at hz; cases hz
end
section
variable {prog : Program} {w : World} {A : Around} {s : Shared} {k : Nat} {B : FB} {f : Addr} {name : Str} {params : Arguments} {body : List Stmt} {scope : Scope} {xs : List Str} {bs : List AV} {us : List Value} {RR : Result → Shared → Prop}
theorem enter (hf : FnAt (GH w) f name params body scope .none) (hn : xs.length = bs.length) (hb : ∀ qual kV doc pm an cdv ct, bindArgs (fnOf name qual params body scope .none kV doc pm an cdv ct) ⟨us, []⟩ = pure (xs.zip us)) (nd : xs.Nodup) (hv : (xs.all fun x => scope.names.lookup x == some .local) = true)
    (hcell : ∀ x ∈ scope.names, x.2 ≠ .cell) (hco : scope.isCoroutine = false) (hgen : scope.isGenerator = false) (hk : scope.kind = .function)
    (R : Room (k + 1) A) (I : Inv prog w (GH w) s.heap B [] []) (ra : RelAL prog w B [] bs us)
    (h : ∀ env h₁ tk₁, FrOk prog w (GH w) scope env h₁ B [] (xs.zip bs) → Inv prog w (GH w) h₁ B [] [] → Room k (A.deeper env) → (∀ b o, s.heap.get? b = some o → h₁.get? b = some o) → env.frame = some s.heap.objs.size → env.locals = s.heap.objs.size →
      wpAny (model prog w) (A.deeper env) (execs body env) (fun f s' => RR (.ok (.ret (match f with | .ret v => v | _ => .none))) s')
        (fun e s' => wpAny (model prog w) (A.deeper env) (leaving env e) (fun _ s'' => RR (.error e) s'') (fun e' s'' => RR (.error e') s'') s') { s with heap := h₁, toks := tk₁ }) :
    codeAny (model prog w) A (.call (.ref f) ⟨us, []⟩) RR s := by
  obtain ⟨o, qual, kV, doc, pm, an, cdv, ct, ho, hd, hcr⟩ := hf.is
  have kG := I.keepG
  have hus : us.length = xs.length := by rw [ra.length, hn]
  have hnl : ∀ x, scope.names.lookup x ≠ some .cell := fun x hx => hcell _ (mem_of_lookup hx) rfl
  refine codeAny_call_def (o := o) (fd := fnOf name qual params body scope .none kV doc pm an cdv ct) (binds := xs.zip us) (by have := R.depth; omega) (kG _ _ ho) hd ((gok w).nolimit.keeps kG) (hcr.keeps kG) rfl (BindsTo.of_eq (hb qual kV doc pm an cdv ct))
    hcell (fun y hy => by simpa using List.all_eq_true.mp hv y.1 (List.of_mem_zip hy).1) (fun h₁ hns keep => ?_) hco hgen hk
  generalize hE : callEnv (fnOf name qual params body scope .none kV doc pm an cdv ct) s.heap.objs.size f = env
  have eS : env.scope = scope := by subst hE; rfl
  have eG : env.globals = mainGlobals := by subst hE; rfl
  have eB : env.builtins = builtinsNs := by subst hE; rfl
  have eL : env.locals = s.heap.objs.size := by subst hE; rfl
  have eF : env.frame = some s.heap.objs.size := by subst hE; rfl
  have eC : env.cells = [] := by subst hE; rfl
  obtain ⟨I₁, S₁⟩ := I.grown (h' := h₁) keep
  have R' : Room k (A.deeper env) := ⟨R.handled, by have := R.depth; show A.depth + 1 + 2 * k < _; omega, by have := R.units; show A.units + 3 + 20 * k < _; omega⟩
  refine h env h₁ _ ⟨eS, hk, eG, eB, ⟨_, (by rw [eL]; exact hns), fun y v hy hy' => ?_⟩, fun y v h hy => absurd hy (hnl y), fun y c hc => (by rw [eC] at hc; cases hc), (by rw [eC]; exact List.Pairwise.nil), fun y hy => absurd hy (hnl y), ?_⟩ I₁ R' keep eF eL
  · refine x1a2 (zip_rel ra hn y v hy) fun u hu r => ?_
    refine ⟨u, ?_, r⟩
    have ndz : ((xs.zip us).map (·.1)).Nodup := by rw [List.map_fst_zip (by omega)]; exact nd
    have ndr : ((xs.zip us).reverse.map (·.1)).Nodup := by rw [List.map_reverse]; exact (List.reverse_perm _).nodup_iff.mpr ndz
    exact lk_of_mem ndr (List.mem_reverse.mpr (mem_of_lk hu))
  · rw [eL]; exact ⟨by simp, I.none_base (size_none _), I.big (gok w)⟩
theorem check_raise {D : List (Int × PV)} {way : List Nat} {outer : List Env} {base : Heap} (hl' : way.length ≤ 100) (hr : isWay way = false ∨ (0 : Int) ∈ D.map (·.1)) (R : Room (k + 21) A) (I : Inv prog w (GH w) s.heap B [] []) (ra : RelAL prog w B [] [.pv (shP D), .pv (sg way)] us)
    (hfr : A.frames = some outer) (hfun : s.heap.FunFrames base outer) (hbase : base.StaysIn s.heap) :
    wpAny (model prog w) A (call (.ref 599) us) (fun _ _ => False) (fun e s' => ∃ a a0, e = .ref a ∧ Heap.FlyingW base outer a (.ref 92) a0 s'.heap ∧ AsS s s' ∧ s.heap.UpToSlots s'.heap) s := by
  refine wpAny_call (codeAny_mono (R := fun r s' => ∃ a a0, r = .error (.ref a) ∧ Heap.FlyingW base outer a (.ref 92) a0 s'.heap ∧ AsS s s' ∧ s.heap.UpToSlots s'.heap) ?_ fun r s' x => by
    refine x2a2 x fun a a0 Z1 => ?_; clear x; intro x; obtain rfl := Z1
    exact ⟨a, a0, rfl, x⟩)
  refine enter (k := k + 20) (fn_check_way w) (xs := [⟨⟨[115,104,101,108,102]⟩⟩, ⟨⟨[119,97,121]⟩⟩]) rfl (fun qual kV doc pm an cdv ct => ?_) (by decide +kernel) (by kernel_rfl!) (by decide +kernel) (by kernel_rfl!) (by kernel_rfl!) (by kernel_rfl!) R I ra (fun env h₁ tk₁ F I₁ R₁ keep eF eL => ?_)
  · refine x2a2 (args2 ra) fun u1 u2 Z2 Z3 => ?_; obtain rfl := Z2; obtain ⟨_, _⟩ := Z3
    rfl
  refine wpAny_mono (check_sr (k := k) hl' hr (A.deeper env) env { s with heap := h₁, toks := tk₁ } B R₁ F I₁) (fun _ _ x => x.elim) fun e s' x => ?_
  refine x3a2 x fun a d t Z4 Z5 => ?_; clear x; obtain rfl := Z4; refine x0a4 Z5 fun sm hk hn he => ?_; clear Z5
  have hk' : ∀ b o, s.heap.get? b = some o → s'.heap.get? b = some o := fun b o q => hk _ _ (keep _ _ q)
  have hbn : base.get? s.heap.objs.size = none := by
    cases q : base.get? s.heap.objs.size with
    | none => rfl
    | some o => have := hbase _ _ q; rw [size_none] at this; cases this
  refine x1a2 F.loc fun m hm _ => ?_
  have hm' : s'.heap.Ns env.locals m := hm.keeps hk
  have hff : s'.heap.FunFrames base (env :: outer) := Heap.FunFrames.cons (by rw [F.scope, F.kind]; nofun) eF (eL ▸ hm') hbn (hfun.of_keeps fun b o q _ => ⟨o, hk' _ _ q, rfl⟩)
  have hba : base.get? a = none := by
    cases q : base.get? a with
    | none => rfl
    | some o => have := keep _ _ (hbase _ _ q); rw [hn] at this; cases this
  refine wpAny_leaving_firstW (Around.frames_deeper hfr) hff eF he (fun b o q => hk' _ _ (hbase _ _ q)) hba rfl rfl rfl fun h' hL => ?_
  refine x0a3 hL fun k1 Z6 Z7 => ?_; clear hL; obtain ⟨_, _, k2⟩ := Z6; obtain ⟨k3, k4⟩ := Z7
  exact ⟨a, _, rfl, ⟨k1, hba, k2, k3⟩, (AsS.trans ⟨h₁, tk₁, rfl⟩ sm).trans ⟨h', s'.toks, rfl⟩, (Heap.UpToSlots.of_keeps hk').trans k4⟩
theorem let_raise {D : List (Int × PV)} {way : List Nat} {outer : List Env} {base : Heap} (hl' : way.length ≤ 100) (hr : isWay way = false ∨ (0 : Int) ∈ D.map (·.1)) (R : Room (k + 22) A) (I : Inv prog w (GH w) s.heap B [] []) (ra : RelAL prog w B [] [.pv (shP D), .pv (sg way)] us)
    (hfr : A.frames = some outer) (hfun : s.heap.FunFrames base outer) (hbase : base.StaysIn s.heap) (hG : ∀ b o, (GH w).get? b = some o → base.get? b = some o) :
    wpAny (model prog w) A (call (.ref 652) us) (fun r s' => r = .bool false ∧ AsS s s' ∧ base.StaysIn s'.heap ∧ s.heap.UpToSlots s'.heap) (fun _ _ => False) s := by
  refine wpAny_call (codeAny_mono (R := fun r s' => r = .ok (.ret (.bool false)) ∧ AsS s s' ∧ base.StaysIn s'.heap ∧ s.heap.UpToSlots s'.heap) ?_ fun r s' x => by
    obtain ⟨rfl, x⟩ := x
    exact ⟨rfl, x⟩)
  refine enter (k := k + 21) (fn__law_is_let w) (xs := [⟨⟨[115,104,101,108,102]⟩⟩, ⟨⟨[119,97,121]⟩⟩]) rfl (fun qual kV doc pm an cdv ct => ?_) (by decide +kernel) (by kernel_rfl!) (by decide +kernel) (by kernel_rfl!) (by kernel_rfl!) (by kernel_rfl!) R I ra (fun env h₁ tk₁ F I₁ R₁ keep eF eL => ?_)
  · refine x2a2 (args2 ra) fun u1 u2 Z2 Z3 => ?_; obtain rfl := Z2; obtain ⟨_, _⟩ := Z3
    rfl
  have hbn : base.get? s.heap.objs.size = none := by
    cases q : base.get? s.heap.objs.size with
    | none => rfl
    | some o => have := hbase _ _ q; rw [size_none] at this; cases this
  have hkind : env.scope.kind = .function := by rw [F.scope]; exact F.kind
  refine wpAny_execs_cons ?_
  refine wpAny_Try_except ?_
  refine wpAny_execs_cons ?_
  refine wpAny_Expr_any ?_ (noninter (s := { s with heap := h₁ }) F) rfl
  rw [arm_eval_Call_Name']
  refine x8a3 ((fn_check_way w).is) fun o qual kV doc pm an cdv ct ho hd hcr => ?_
  refine wpAny_bind (wpAny_F ((en_check_way (k := k + 21) (Q := fun v σ => v = .pv (.cst (.ref 599)) ∧ σ = []) ⟨rfl, rfl⟩ (by kernel_rfl!)).go (s := { s with heap := h₁, toks := tk₁ }) R₁ F I₁ fun u s₂ B₂ ρ₂ v σ₂ a₂ r₂ hv => ?_))
  obtain ⟨rfl, rfl⟩ := hv
  cases (show u = .ref 599 from r₂)
  refine Calls.callWith_function (o := o) (fd := fnOf s179 qual (fdP (st 66)) (fdB (st 66)) (fdS (st 66)) .none kV doc pm an cdv ct) (evalArgs_spl rfl (wpAny_F ((show LOk prog w (GH w) (fdS (st 76)) (k + 21) _ _ [] (fun vs σ => vs = [.pv (shP D), .pv (sg way)] ∧ σ = []) from l_cons (e_var rfl (l_cons (e_var rfl (l_nil ⟨rfl, rfl⟩) (by kernel_rfl!)) (fun _ => rfl)) (by kernel_rfl!)) (fun _ => rfl)).go R₁ (a₂.fr F) a₂.inv fun us₃ s₃ B₃ ρ₃ vs σ₃ a₃ rs hvs => ?_)))
  obtain ⟨rfl, rfl⟩ := hvs
  have hρ₃ : ρ₃ = [] := List.eq_nil_of_length_eq_zero a₃.inv.len
  have hρ₂ : ρ₂ = [] := List.eq_nil_of_length_eq_zero a₂.inv.len
  subst hρ₃ hρ₂
  have hk₃ : ∀ b o, s.heap.get? b = some o → s₃.heap.get? b = some o := fun b o q => a₃.step.keep b o (a₂.step.keep b o (keep _ _ q) (by simp) (by simp)) (by simp) (by simp)
  refine x1a2 ((a₃.fr (a₂.fr F)).loc) fun m hm _ => ?_
  have hff : s₃.heap.FunFrames base (env :: outer) := Heap.FunFrames.cons (by rw [hkind]; nofun) eF (eL ▸ hm) hbn (hfun.of_keeps fun b o q _ => ⟨o, hk₃ _ _ q, rfl⟩)
  refine ⟨⟨a₃.inv.keepG _ _ ho, hd⟩, ?_⟩
  refine wpAny_mono (check_raise (k := k) hl' hr R₁ a₃.inv rs (Around.frames_deeper hfr) hff fun b o q => hk₃ _ _ (hbase _ _ q)) (fun _ _ x => x.elim) fun e s₄ x => ?_
  refine x2a2 x fun a a0 Z8 Z9 => ?_; clear x; obtain rfl := Z8; refine x0a3 Z9 fun hfl sm₄ up₄ => ?_; clear Z9
  refine wpAny_looks_onW (Around.frames_deeper hfr) eF hfl fun h₅ hheld up₅ => ?_
  refine wpAny_landsW hheld fun h₆ hfl₆ up₆ => ?_
  have hG₆ : ∀ b o, (GH w).get? b = some o → h₆.get? b = some o := fun b o q => hfl₆.1 _ _ (hG _ _ q)
  refine wpAny_handleBy_cons (codeAny_handlers_test ?_) (by intro q; cases q)
  refine Name_function_global hkind ((F.kindOf _).trans (by kernel_rfl!)) (loadGlobal_global (by rw [F.globals]; exact (gok w).g.keeps hG₆) (g_DraftFault w) ?_) (by decide +kernel)
  refine x1a2 hfl₆.there fun ob hob hcls => ?_
  refine wpAny_excMatches_sub_self (hG₆ _ _ (cls_exc w)) hob hcls rfl ?_
  refine codeAny_handlers_suite ?_
  refine lands_againW hfl₆ fun h₇ hfl₇ up₇ => ?_
  refine wpAny_execs_cons (wpAny_Return_some (wpAny_Constant_bool ?_))
  refine ⟨rfl, ?_, hfl₇.1, ?_⟩
  · exact (AsS.trans ⟨h₁, tk₁, rfl⟩ (a₂.same.trans (a₃.same.trans sm₄))).trans ⟨h₇, s₄.toks, rfl⟩
  · exact (Heap.UpToSlots.of_keeps hk₃).trans (up₄.trans (up₅.trans (up₆.trans up₇)))
end
structure Up (L : Addr) (h h' : Heap) : Prop where
  keep : ∀ b o, b ≠ L → h.get? b = some o → h'.get? b = some o
  slots : ∀ o, h.get? L = some o → (∀ vs, o.data ≠ .fields vs) → ∃ sl, h'.get? L = some { o with slots := sl }
section
variable {prog : Program} {w : World} {A : Around} {s : Shared} {k : Nat} {B : FB} {us : List Value} {σ : List MO} {ρ : List Addr}
theorem let_norm {D : List (Int × PV)} {way : List Nat} (hw : isWay way = true) (hz : (0 : Int) ∉ D.map (·.1)) (R : Room (k + 22) A) (I : Inv prog w (GH w) s.heap B [] []) (ra : RelAL prog w B [] [.pv (shP D), .pv (sg way)] us) :
    wpAny (model prog w) A (call (.ref 652) us) (fun r s' => r = .bool true ∧ AsS s s' ∧ ∀ b o, s.heap.get? b = some o → s'.heap.get? b = some o) (fun _ _ => False) s := by
  refine wpAny_call (codeAny_mono (R := fun r s' => r = .ok (.ret (.bool true)) ∧ AsS s s' ∧ ∀ b o, s.heap.get? b = some o → s'.heap.get? b = some o) ?_ fun r s' x => by
    obtain ⟨rfl, x⟩ := x
    exact ⟨rfl, x⟩)
  refine enter (k := k + 21) (fn__law_is_let w) (xs := [⟨⟨[115,104,101,108,102]⟩⟩, ⟨⟨[119,97,121]⟩⟩]) rfl (fun qual kV doc pm an cdv ct => ?_) (by decide +kernel) (by kernel_rfl!) (by decide +kernel) (by kernel_rfl!) (by kernel_rfl!) (by kernel_rfl!) R I ra (fun env h₁ tk₁ F I₁ R₁ keep eF eL => ?_)
  · refine x2a2 (args2 ra) fun u1 u2 Z2 Z3 => ?_; obtain rfl := Z2; obtain ⟨_, _⟩ := Z3
    rfl
  refine wpAny_execs_cons ?_
  refine wpAny_Try_except ?_
  refine wpAny_execs_cons ?_
  refine wpAny_Expr_any ?_ (noninter (s := { s with heap := h₁ }) F) rfl
  refine wpAny_F ((show EOk prog w (GH w) (fdS (st 76)) (k + 21) _ _ [] (fun v σ => v = .pv .none ∧ σ = []) from ca_check_way (l_cons (e_var rfl (l_cons (e_var rfl (l_nil (COk.up (check_ok (k := 0) hw hz ⟨rfl, rfl⟩) (by omega))) (by kernel_rfl!)) (fun _ => rfl)) (by kernel_rfl!)) (fun _ => rfl)) (by kernel_rfl!)).go (s := { s with heap := h₁, toks := tk₁ }) R₁ F I₁ fun u s₂ B₂ ρ₂ v σ₂ a₂ r₂ hv => ?_)
  refine wpAny_execs_nil ?_
  refine wpAny_execs_nil ?_
  refine wpAny_execs_cons (wpAny_Return_some (wpAny_Constant_bool ?_))
  exact ⟨rfl, AsS.trans ⟨h₁, tk₁, rfl⟩ a₂.same, fun b o q => a₂.step.keep b o (keep _ _ q) (by simp) (by simp)⟩
structure Top1 (w : World) (A : Around) (env : Env) (h : Heap) : Prop where
  fr : A.frames = some [env]
  loc : env.frame = some env.locals
  kind : env.scope.kind = .function
  low : (GH w).objs.size ≤ env.locals
  ns : ∃ m, h.Ns env.locals m
theorem let_any {D : List (Int × PV)} {way : List Nat} {env : Env} {B0 : FB} (hl' : way.length ≤ 100) (T : Top1 w A env s.heap) (R : Room (k + 22) A) (I : Inv prog w (GH w) s.heap B0 [] []) (ra : RelAL prog w B0 [] [.pv (shP D), .pv (sg way)] us) :
    wpAny (model prog w) A (call (.ref 652) us) (fun r s' => r = .bool (isWay way && !decide ((0 : Int) ∈ D.map (·.1))) ∧ AsS s s' ∧ Up env.locals s.heap s'.heap) (fun _ _ => False) s := by
  by_cases hc : isWay way = true ∧ (0 : Int) ∉ D.map (·.1)
  · refine wpAny_mono (let_norm hc.1 hc.2 R I ra) (fun r s' x => ?_) fun _ _ x => x
    obtain ⟨rfl, sm, hk⟩ := x
    refine ⟨by rw [hc.1, decide_eq_false hc.2]; rfl, sm, fun b o _ q => hk _ _ q, fun o q _ => ⟨o.slots, hk _ _ q⟩⟩
  · have hr : isWay way = false ∨ (0 : Int) ∈ D.map (·.1) := by
      by_cases h1 : isWay way = true
      · by_cases h2 : (0 : Int) ∈ D.map (·.1)
        · exact .inr h2
        · exact absurd ⟨h1, h2⟩ hc
      · exact .inl (by simpa using h1)
    refine x4a3 T.ns fun m o es ep ho hd hx => ?_
    have hnb : (hideAll s.heap [env.locals]).get? env.locals = none := hideAll_none _ (.head _)
    have hfun : s.heap.FunFrames (hideAll s.heap [env.locals]) [env] := ⟨by rw [T.kind]; nofun, ⟨env.locals, o, T.loc, hnb, ho, fun vs q => by rw [hd] at q; cases q⟩, trivial⟩
    refine wpAny_mono (let_raise hl' hr R I ra T.fr hfun (fun b o q => of_hideAll _ q) fun b o q => hideAll_get _ (I.keepG _ _ q) fun z => ?_) (fun r s' x => ?_) fun _ _ x => x
    · have := Heap.lt_size q
      rw [List.mem_singleton.mp z] at this
      exact absurd this (Nat.not_lt.mpr T.low)
    · obtain ⟨Z3, Z4⟩ := x; obtain rfl := Z3; refine x0a3 Z4 fun sm hst up => ?_; clear Z4
      refine ⟨?_, sm, fun b o hb q => hst _ _ (hideAll_get _ q fun z => hb (List.mem_singleton.mp z)), fun o q hn => up _ _ q hn⟩
      rcases hr with h | h
      · rw [h]; rfl
      · rw [decide_eq_true h]; simp
end
section
variable {prog : Program} {w : World} {A : Around} {s s' : Shared} {k : Nat} {B : FB} {us : List Value} {σ : List MO} {ρ : List Addr} {env env0 : Env} {sc : Scope} {V : VEnv} {h h' : Heap} {L : Addr}
theorem Up.ns (u : Up L h h') {a : Addr} {m : Str → Option Value} (hn : h.Ns a m) : h'.Ns a m := by
  obtain ⟨o, es, ep, ho, hd, r⟩ := hn
  by_cases z : a = L
  · subst z
    obtain ⟨sl, hs⟩ := u.slots o ho fun vs q => by rw [hd] at q; cases q
    exact ⟨_, es, ep, hs, hd, r⟩
  · exact ⟨o, es, ep, u.keep _ _ z ho, hd, r⟩
theorem Inv.up (I : Inv prog w (GH w) h B ρ σ) (u : Up L h h') (hr : L ∉ ρ) (hb : B L = none) : Inv prog w (GH w) h' B ρ σ := by
  refine ⟨I.top, fun b o q => u.keep _ _ (fun z => by rw [z, hb] at q; cases q) (I.base _ _ q), I.nodup, I.high, I.len, fun i a m e1 e2 => ?_⟩
  obtain ⟨z, Z1⟩ := I.store i a m e1 e2; refine x1a2 Z1 fun o ho r => ?_; clear Z1
  exact ⟨z, o, u.keep _ _ (fun z => hr (z ▸ List.mem_of_getElem? e1)) ho, r⟩
theorem FrOk.up (F : FrOk prog w (GH w) sc env h B ρ V) (u : Up env.locals h h') : FrOk prog w (GH w) sc env h' B ρ V := by
  obtain ⟨m, hn, hm⟩ := F.loc
  refine ⟨F.scope, F.kind, F.globals, F.builtins, ⟨m, u.ns hn, hm⟩, fun x v hv hk => ?_, fun x c hc => ?_, F.apart, F.allc, F.own⟩
  · refine x2a3 (F.cel x v hv hk) fun c v' hc Z1 r => ?_; obtain ⟨o, ho, hd⟩ := Z1
    exact ⟨c, v', hc, ⟨o, u.keep _ _ (F.cells x c hc).2.2.2.2 ho, hd⟩, r⟩
  · obtain ⟨Z2, Z3⟩ := F.cells x c hc; obtain ⟨v', o, ho, hd⟩ := Z2; refine x0a4 Z3 fun h1 h2 h3 h4 => ?_; clear Z3
    exact ⟨⟨v', o, u.keep _ _ h4 ho, hd⟩, h1, h2, h3, h4⟩
noncomputable def allBut (h : Heap) (L : Addr) : FB := fun b => if b = L then none else h.get? b
theorem allBut_le (I : Inv prog w (GH w) h B ρ σ) (hb : B L = none) : B.le (allBut h L) := fun b o q => by
  unfold allBut
  rw [if_neg (fun z => by rw [z, hb] at q; cases q)]
  exact I.base _ _ q
theorem allBut_inv (I : Inv prog w (GH w) h B ρ σ) (hb : B L = none) : Inv prog w (GH w) h (allBut h L) [] [] := by
  refine ⟨fun b o q => allBut_le I hb _ _ (I.top _ _ q), fun b o q => ?_, List.nodup_nil, fun _ m => (nomatch m), rfl, fun i a m e => by simp at e⟩
  unfold allBut at q
  split at q
  · cases q
  · exact q
theorem shelf_rel {m0 m1 : MO} {D : List (Int × PV)} {τ : List MO} {u : Value} (I : Inv prog w (GH w) h B ρ (shT m0 m1 D τ)) (hr : L ∉ ρ) (hb : B L = none) (r : RelA prog w B ρ (.loc 4) u) : Rel prog w (allBut h L) (shP D) u := by
  have le := allBut_le I hb
  have ne : ∀ {i a}, ρ[i]? = some a → a ≠ L := fun q z => hr (z ▸ List.mem_of_getElem? q)
  have all : ∀ {a o}, a ≠ L → h.get? a = some o → allBut h L a = some o := fun n q => by unfold allBut; rw [if_neg n]; exact q
  obtain ⟨x, hx, rfl⟩ := r
  obtain ⟨_, o, ho, y, hy, eo⟩ := I.store 4 x _ hx rfl
  obtain ⟨_, o', ho', es, n, vs, eo', en, rv⟩ := I.store 3 y _ hy rfl
  subst eo eo'
  obtain ⟨u1, vs1, rfl, ⟨t, ht, rfl⟩, u2, vs2, rfl, r2, rfl⟩ := rv
  obtain ⟨_, o5, ho5, ws, hd5, hl5, rl5⟩ := I.store 5 t _ ht rfl
  refine ⟨x, y, es, n, _, rfl, all (ne hx) ho, all (ne hy) ho', en, _, _, rfl, ⟨t, o5, ws, rfl, ?_, all (ne ht) ho5, hd5, hl5, rl5.mono prog w le⟩, _, _, rfl, Rel.mono prog w le r2, rfl⟩
  exact (gok w).lowNot (I.high _ (List.mem_of_getElem? ht))
theorem call_let {np cp : Pos} {es : List Expr} {Q : List Nat → List (Int × PV) → List MO → Prop} (hs : noStar es = true) (hk : sc.names.lookup n__law_is_let = some .globalImplicit) (T : ∀ h', (∃ m, h'.Ns env0.locals m) → Top1 w A env0 h') (R : Room (k + 22) A)
    (F : FrOk prog w (GH w) sc env s.heap B ρ V) (I : Inv prog w (GH w) s.heap B ρ σ) (hL : ∃ m, s.heap.Ns env0.locals m) (hr : env0.locals ∉ ρ) (hb : B env0.locals = none)
    (ha : LOk prog w (GH w) sc (k + 22) es V σ fun vs σ' => ∃ way D m0 m1 τ, vs = [.loc 4, .pv (sg way)] ∧ way.length ≤ 100 ∧ σ' = shT m0 m1 D τ ∧ Q way D σ') :
    wpAny (model prog w) A (eval (.Call (.Name n__law_is_let np) es [] cp) env) (fun u s' => ∃ s₃ B' ρ' way D m0 m1 τ, At prog w (GH w) [] s B ρ s₃ B' ρ' (shT m0 m1 D τ) ∧ Q way D (shT m0 m1 D τ) ∧ u = .bool (isWay way && !decide ((0 : Int) ∈ D.map (·.1))) ∧ AsS s₃ s' ∧ Up env0.locals s₃.heap s'.heap) (fun _ _ => False) s := by
  rw [arm_eval_Call_Name']
  refine x8a3 ((fn__law_is_let w).is) fun o qual kV doc pm an cdv ct ho hd hcr => ?_
  refine wpAny_bind ((en__law_is_let (k := k + 22) (Q := fun v σ' => v = .pv (.cst (.ref 652)) ∧ σ' = σ) ⟨rfl, rfl⟩ hk).go R F I fun u s₂ B₂ ρ₂ v σ₂ a₂ r₂ hv => ?_)
  obtain ⟨rfl, rfl⟩ := hv
  cases (show u = .ref 652 from r₂)
  refine Calls.callWith_function (o := o) (fd := fnOf s188 qual (fdP (st 76)) (fdB (st 76)) (fdS (st 76)) .none kV doc pm an cdv ct) (evalArgs_spl hs (ha.go R (a₂.fr F) a₂.inv fun us₃ s₃ B₃ ρ₃ vs σ₃ a₃ rs hvs => ?_))
  refine x5a2 hvs fun way D m0 m1 τ Z3 Z4 => ?_; clear hvs; obtain rfl := Z3; refine x0a3 Z4 fun hwl Z5 hq => ?_; clear Z4; obtain rfl := Z5
  refine ⟨⟨a₃.inv.keepG _ _ ho, hd⟩, ?_⟩
  have aa : At prog w (GH w) [] s B ρ s₃ B₃ ρ₃ (shT m0 m1 D τ) := ⟨a₂.same.trans a₃.same, a₂.step.trans (fun _ q => .inl q) a₃.step, a₃.inv⟩
  obtain ⟨m, hm⟩ := hL
  refine x3a2 (id hm) fun oL _ _ hoL _ => ?_
  have hm₃ : s₃.heap.Ns env0.locals m := hm.at' fun o q => aa.step.keep _ _ q (by simp) hr
  have hr₃ : env0.locals ∉ ρ₃ := fun q => by
    obtain ⟨ν, e, hν⟩ := aa.step.ext
    rw [e] at q
    rcases List.mem_append.mp q with q | q
    · exact hr q
    · have := hν _ q; rw [this] at hoL; cases hoL
  have hb₃ : B₃ env0.locals = none := by
    cases q : B₃ env0.locals with
    | none => rfl
    | some o' =>
      rcases aa.step.new _ _ q with z | z | z
      · rw [hb] at z; cases z
      · rw [z] at hoL; cases hoL
      · exact absurd z hr
  refine x2a2 (args2 rs) fun u1 u2 Z6 Z7 => ?_; obtain rfl := Z6; obtain ⟨r1, r2⟩ := Z7
  have ra : RelAL prog w (allBut s₃.heap env0.locals) [] [.pv (shP D), .pv (sg way)] [u1, u2] := ⟨_, _, rfl, shelf_rel a₃.inv hr₃ hb₃ r1, _, _, rfl, Rel.mono prog w (allBut_le a₃.inv hb₃) r2, rfl⟩
  refine wpAny_mono (let_any hwl (T _ ⟨m, hm₃⟩) R (allBut_inv a₃.inv hb₃) ra) (fun r s' x => ?_) fun _ _ x => x
  obtain ⟨rfl, sm, up⟩ := x
  exact ⟨s₃, B₃, ρ₃, way, D, m0, m1, τ, aa, hq, rfl, sm, up⟩
end
section
variable {prog : Program} {w : World} {A : Around} {s s' : Shared} {k : Nat} {B : FB} {us : List Value} {σ : List MO} {ρ : List Addr} {env env0 : Env} {sc : Scope} {V : VEnv} {h h' : Heap} {L : Addr}
theorem up_step (u : Up L h h') (hn : ∃ m, h.Ns L m) : Step [L] h B ρ h' B ρ := by
  refine ⟨FB.le.refl B, fun _ _ e => .inl e, ⟨[], by simp, fun _ m => nomatch m⟩, fun b o q hb _ => u.keep _ _ (fun z => hb (List.mem_singleton.mpr z)) q, fun b o q => ?_⟩
  by_cases z : b = L
  · subst z
    obtain ⟨m, o', es, ep, ho, hd, _⟩ := hn
    obtain ⟨sl, hs⟩ := u.slots o' ho fun vs q => by rw [hd] at q; cases q
    exact ⟨_, hs⟩
  · exact ⟨o, u.keep _ _ z q⟩
theorem comp_up {elt iter : Expr} {x : Str} {px : Pos} {scope : Scope} {pos cp : Pos} {p : PV} {l : List PV} {f : PV → Bool}
    (h : EOk prog w (GH w) sc k iter V σ fun v σ₁ => v = .pv p ∧ σ₁ = σ) (src : Src prog w (GH w) p l) (hl : l.length ≤ 1000)
    (step : ∀ q ∈ l, ∀ (s' : Shared) (B' : FB) (ρ' : List Addr) (cenv : Env), FrOk prog w (GH w) (relS sc scope) cenv s'.heap B' ρ' ((x, .pv q) :: compV scope V) → FrOk prog w (GH w) sc env s'.heap B' ρ' V → Inv prog w (GH w) s'.heap B' ρ' σ →
      wpAny (model prog w) A (eval elt cenv) (fun u s'' => u = .bool (f q) ∧ ∃ s₃ B'' ρ'', At prog w (GH w) [] s' B' ρ' s₃ B'' ρ'' σ ∧ AsS s₃ s'' ∧ Up env.locals s₃.heap s''.heap) (fun _ _ => False) s')
    (hc : compOk sc scope = true) (hx : scope.names.lookup x = some .local) (hs : ∀ env x, foldedSetIterable iter env x = pure x)
    {use : Option (Value → Sem Unit)} {Q : Value → Shared → Prop} (R : Room k A) (F : FrOk prog w (GH w) sc env s.heap B ρ V) (I : Inv prog w (GH w) s.heap B ρ σ)
    (hRR : ∀ D C s' B' ρ' us m, AsS s s' → Step [env.locals] s.heap B ρ s'.heap B' ρ' → Inv prog w (GH w) s'.heap B' ρ' σ → FrOk prog w (GH w) sc env s'.heap B' ρ' V → Untold D s'.heap B' ρ' → Untold C s'.heap B' ρ' → D ≠ C → s.heap.get? D = none → s.heap.get? C = none →
      s'.heap.Ns C m → s'.heap.PlainList D us → RelAL prog w B' ρ' (l.map fun q => .pv (.bool (f q))) us.toList → compPost (model prog w) A (fun _ _ => False) use Q (.ref D) C (.ok .next) s') :
    wpAny (model prog w) A (comprehension (.ListComp elt [⟨.Name x px, iter, [], 0⟩] scope pos) scope env cp (newList []) false (eval iter env) use) Q (fun _ _ => False) s := by
  have elem : CompEl prog w (GH w) A sc scope env x elt [] V [env.locals] l fun i acc σ' => σ' = σ ∧ acc = (l.take i).map fun q => .pv (.bool (f q)) := fun i q acc σ' s' B' ρ' cenv hq hJ Fc F' I' => by
    obtain ⟨rfl, rfl⟩ := hJ
    refine wpAny_tests_nil ⟨B', ρ', σ', ⟨⟨s'.heap, s'.toks, rfl⟩, Step.refl .., I', F'⟩, (fun q => nomatch q), fun _ => wpAny_mono (step q (List.mem_of_getElem? hq) s' B' ρ' cenv Fc F' I') (fun y s₄ hy => ?_) fun _ _ x => x⟩
    obtain ⟨Z3, Z4⟩ := hy; obtain rfl := Z3; refine x3a3 Z4 fun s₃ B₃ ρ₃ a₃ sm₄ up => ?_; clear Z4
    have F₃ := a₃.fr F'
    exact ⟨B₃, ρ₃, σ', .pv (.bool (f q)), ⟨a₃.same.trans sm₄, (a₃.step.weaken (wr' := [env.locals]) fun _ q => nomatch q).trans (fun _ z => .inl z) (up_step up (let ⟨m, hm, _⟩ := F₃.loc; ⟨m, hm⟩)), a₃.inv.up up F₃.own.1 F₃.own.2.1, F₃.up up⟩, rfl, rfl, by rw [take_snoc hq, List.map_append]; rfl⟩
  exact comp_gen (wr := [env.locals]) (Fin := fun acc σ' => σ' = σ ∧ acc = l.map fun q => .pv (.bool (f q))) (gok w)
    (EOk.mono h fun v σ₁ e => ⟨p, l, e.1, src, hl, _, ⟨e.2, rfl⟩, elem, fun acc σ' q => ⟨q.1, q.2.trans (by rw [List.take_length])⟩⟩) (fun b hb => List.mem_singleton.mp hb ▸ List.mem_cons_self ..) hc hx hs R F I
    fun D C s' B' ρ' σ' acc us m sm S I' F' UD UC ne dD dC _ hn pl r fin => hRR D C s' B' ρ' us m sm S (fin.1 ▸ I') F' UD UC ne dD dC hn pl (fin.2 ▸ r)
end
theorem eqv_self {d : PyData} (h : d.canLay0 = true) : PyData.eqv d d = true := PySem.SeqAt.eqv_refl d h
theorem lay_of_shaped {d : PyData} (h : SeqAt.shaped d = true) : d.canLay0 = true := SeqAt.canLay_of_shaped h
section
variable {prog : Program} {w : World} {k : Nat} {σ τ : List MO} {Q : AV → List MO → Prop} {b : Bool} {D : List (Int × PV)} {R : List Rw} {F : Int} {gs : List (List Int)} {W : List Rw}
theorem o_neSame {a b : AV} {d : PyData} (ha : avPd σ a = some d) (hb : avPd σ b = some d) (hs : SeqAt.shaped d = true) (h : Q (.pv (.bool false)) σ) : Op2 prog w (GH w) (k + 4) (compareOp .NotEq) a b σ Q :=
  o_ne ha hb hs hs (by rw [eqv_self (lay_of_shaped hs)]; exact h)
theorem packed_entries_ok {f : Int} (h1 : gs.length ≤ 3) (h2 : ∀ g ∈ gs, g.length ≤ 10) (nd : gs.flatten.Nodup) (h : Q (.pv (dP (packL f gs))) σ) : COk prog w (GH w) (k + 9) (.ref 587) [.pv (gsP gs), .pv (.int f)] σ Q :=
  c_pure rfl (R := fun p => p = dP (packL f gs)) (c_frz (gok w) ((packed_entries_0 h1 h2 nd).mono fun v τ ⟨j, m, e1, e2, e3, e4⟩ => by
    subst e1 e4
    refine ⟨j, dP (packL f gs), ?_, _, rfl, rfl⟩
    simp only [frozen, e2])) fun p e => by subst e; exact h
theorem shaped_e {wy : List Nat} {one two : Int} (h : wy = [112,97,99,107,101,100] ∨ wy = [117,115,101,100] ∨ wy = [102,114,101,101]) : SeqAt.shaped (.tuple [.str ⟨⟨wy⟩⟩, .int one, .int two]) = true := by
  rcases h with rfl | rfl | rfl <;> (unfold SeqAt.shaped; simp [PyData.canLay0, PyData.canLayAll0, PyData.depth, PyData.depthAll]; decide +kernel)
theorem Place.kinds (pl : Place b F gs W) {x : Int} (h0 : 0 ≤ x) (h1 : x ≤ lastOf F gs) : ∃ wy one two, (finL F gs W).lookup x = some (ent wy one two) ∧ (wy = [112,97,99,107,101,100] ∨ wy = [117,115,101,100] ∨ wy = [102,114,101,101]) ∧ ((wy = [112,97,99,107,101,100]) ↔ x ∈ gs.flatten) := by
  have hm := pl.mem.mpr ⟨h0, h1⟩
  have nd := pl.nd
  rw [fin_keys] at hm
  have hout : ∀ y, y ∈ 0 :: lackOf F gs W → y ∉ gs.flatten := fun y hy hg => by
    rcases List.mem_cons.mp hy with rfl | hy
    · have := pl.pos 0 (List.mem_append_left _ hg); omega
    · exact (lack_mem.mp hy).2.2 (List.mem_append_left _ (List.mem_append_left _ hg))
  rcases List.mem_append.mp hm with h | h
  · obtain ⟨i, hi⟩ := at_of_mem h
    exact ⟨_, _, _, pl.free hi, .inr (.inr rfl), ⟨fun e => absurd e (by decide), fun e => absurd e (hout x h)⟩⟩
  · rcases List.mem_append.mp h with h | h
    · rcases List.mem_append.mp h with h | h
      · refine x3a2 (flat_at h) fun s g i hs hi => ?_
        exact ⟨_, _, _, pl.packed hs hi, .inl rfl, ⟨fun _ => h, fun _ => rfl⟩⟩
      · refine x1a2 (List.mem_map.mp h) fun r hr Z1 => ?_; obtain rfl := Z1
        obtain ⟨i, hi⟩ := at_of_mem hr
        refine ⟨_, _, _, pl.used hi, .inr (.inl rfl), ⟨fun e => absurd e (by decide), fun e => ?_⟩⟩
        exact absurd rfl ((List.nodup_append.mp (List.nodup_append.mp nd).1).2.2 _ e _ h)
    · rw [List.mem_singleton.mp h]
      refine ⟨_, _, _, pl.end, .inr (.inl rfl), ⟨fun e => absurd e (by decide), fun e => ?_⟩⟩
      exact absurd rfl ((List.nodup_append.mp nd).2.2 _ (List.mem_append_left _ e) _ (List.mem_singleton.mpr rfl))
theorem pdL_map {α : Type} {f : α → PV} {g : α → PyData} : ∀ {l : List α}, (∀ x ∈ l, (f x).pd = some (g x)) → pdL (l.map f) = some (l.map g)
  | [], _ => rfl
  | x :: l, h => by
    rw [List.map_cons, pdL, h x (List.mem_cons_self ..), pdL_map fun y hy => h y (List.mem_cons_of_mem _ hy)]; rfl
theorem shaped_of {d : PyData} (h1 : d.canLay0 = true) (h2 : d.depth ≤ 64) : SeqAt.shaped d = true := by
  unfold SeqAt.shaped; rw [h1, decide_eq_true h2]; rfl
theorem lay_map {α : Type} {g : α → PyData} : ∀ {l : List α}, (∀ x ∈ l, (g x).canLay0 = true) → PyData.canLayAll0 (l.map g) = true
  | [], _ => by simp [PyData.canLayAll0]
  | x :: l, h => by
    rw [List.map_cons, PyData.canLayAll0, h x (List.mem_cons_self ..), lay_map fun y hy => h y (List.mem_cons_of_mem _ hy)]; rfl
theorem depth_map {α : Type} {g : α → PyData} {n : Nat} : ∀ {l : List α}, (∀ x ∈ l, (g x).depth ≤ n) → PyData.depthAll (l.map g) ≤ n
  | [], _ => by simp [PyData.depthAll]
  | x :: l, h => by
    have h1 := h x (List.mem_cons_self ..)
    have h2 := depth_map (l := l) fun y hy => h y (List.mem_cons_of_mem _ hy)
    rw [List.map_cons, PyData.depthAll]
    omega
theorem shaped_map {α : Type} {g : α → PyData} {l : List α} (h1 : ∀ x ∈ l, (g x).canLay0 = true) (h2 : ∀ x ∈ l, (g x).depth ≤ 10) : SeqAt.shaped (.list (l.map g)) = true ∧ SeqAt.shaped (.tuple (l.map g)) = true := by
  have a := lay_map h1
  have b := depth_map h2
  constructor
  · exact shaped_of (by simpa [PyData.canLay0] using a) (by simp only [PyData.depth]; omega)
  · exact shaped_of (by simpa [PyData.canLay0] using a) (by simp only [PyData.depth]; omega)
noncomputable def Wo.tdd : Wo → PyData
  | .seven => .tuple [.str ⟨⟨[105,110,116]⟩⟩, .int 7]
  | .nameA => .tuple [.str ⟨⟨[110,97,109,101]⟩⟩, .str ⟨⟨[65]⟩⟩]
  | .null => .tuple [.str ⟨⟨[110,117,108,108]⟩⟩]
  | .tru => .tuple [.str ⟨⟨[116,114,117,116,104]⟩⟩, .int 1]
  | .one => .tuple [.str ⟨⟨[105,110,116]⟩⟩, .int 1]
theorem Wo.td_pd (x : Wo) : (tdV x.val).pd = some x.tdd := by cases x <;> rfl
theorem Wo.td_lay (x : Wo) : x.tdd.canLay0 = true ∧ x.tdd.depth ≤ 5 := by cases x <;> decide +kernel
end
structure PA (A : Around) (env : Env) : Prop where
  fr : A.frames = some [env]
  loc : env.frame = some env.locals
section
variable (prog : Program) (w : World) (GH : Heap)
noncomputable def SOkP (sc : Scope) (k : Nat) (ss : List Stmt) (V : VEnv) (σ : List MO) (Q : Fl → VEnv → List MO → Prop) : Prop :=
  ∀ A env s B ρ, PA A env → Room k A → FrOk prog w GH sc env s.heap B ρ V → Inv prog w GH s.heap B ρ σ →
    wpAny (model prog w) A (execs ss env) (fun f => After (wrOf env) s B ρ fun s' B' ρ' => ∃ fl V' σ', Inv prog w GH s'.heap B' ρ' σ' ∧ FrOk prog w GH sc env s'.heap B' ρ' V' ∧ FlRel prog w B' ρ' fl f ∧ Q fl V' σ') (fun _ _ => False) s
noncomputable def ThenP (sc : Scope) (k : Nat) (rest : List Stmt) (Q : Fl → VEnv → List MO → Prop) : Fl → VEnv → List MO → Prop
  | .next, V, σ => SOkP prog w GH sc k rest V σ Q
  | .ret v, V, σ => Q (.ret v) V σ
end
section
variable {prog : Program} {w : World} {GH : Heap} {mg mb : Str → Option Value} {A : Around} {s s' : Shared} {k : Nat} {B : FB} {us : List Value} {σ : List MO} {ρ : List Addr} {env env0 : Env} {sc : Scope} {V : VEnv} {h h' : Heap} {L : Addr} {Q : Fl → VEnv → List MO → Prop} {rest : List Stmt}
theorem sp_cons {st : Stmt} (h : XOk prog w GH sc k st V σ (ThenP prog w GH sc k rest Q)) : SOkP prog w GH sc k (st :: rest) V σ Q := fun A env s B ρ P R F I =>
  wpAny_execs_cons (wpAny_mono (h A env s B ρ R F I) (fun f s₁ x => by
    refine x2a3 x fun B₁ ρ₁ sm S Z1 => ?_; clear x; refine x3a4 Z1 fun fl V₁ σ₁ I₁ F₁ r q => ?_; clear Z1
    cases fl with
    | next =>
      cases (show f = .next from r)
      exact wpAny_mono (q A env s₁ B₁ ρ₁ P R F₁ I₁) (fun _ _ y => After.trans sm S (fun _ z => .inl z) y) fun _ _ y => y
    | ret v =>
      refine x1a2 r fun u Z2 => ?_; clear r; intro r; obtain rfl := Z2
      exact ⟨B₁, ρ₁, sm, S, .ret v, V₁, σ₁, I₁, F₁, ⟨u, rfl, r⟩, q⟩) fun _ _ x => x)
theorem SOkP.cov {ss : List Stmt} {V' : VEnv} (h : SOkP prog w GH sc k ss V' σ Q) (c : Cov V V') : SOkP prog w GH sc k ss V σ Q := fun A env s B ρ P R F I => h A env s B ρ P R (F.cov c) I
theorem sp_for {t iter : Expr} {body : List Stmt} {pos : Pos} (V0 : VEnv) (J : Nat → List MO → Prop)
    (h : EOk prog w GH sc k iter V σ fun v σ₁ => ∃ p l, v = .pv p ∧ Src prog w GH p l ∧ Cov V V0 ∧ J 0 σ₁ ∧
      (∀ i q σ', l[i]? = some q → J i σ' → ∃ V'', Tgt prog w GH sc t (.pv q) V0 V'' ∧ SOk prog w GH sc k body V'' σ' (LoopQ (fun V3 σ3 => Cov V3 V0 ∧ J (i + 1) σ3) Q)) ∧ (∀ σ', J l.length σ' → SOkP prog w GH sc k rest V0 σ' Q))
    (hs : ∀ env x, foldedSetIterable iter env x = pure x := by intro _ _; rfl) : SOkP prog w GH sc k (.For t iter body [] pos :: rest) V σ Q :=
  sp_cons (x_for (h.mono fun v σ₁ y => x2a6 y fun p l e src c h0 st fin => ⟨p, l, e, src, fun i V' σ' => Cov V' V0 ∧ J i σ', ⟨c, h0⟩, fun i q V' σ' hi hJ => by
      refine x1a2 (st i q σ' hi hJ.2) fun V'' ht hb => ?_
      refine ⟨V'', ht.cov hJ.1, hb.mono fun fl V3 σ3 q => ?_⟩
      cases fl <;> exact q, fun V' σ' hJ => (fin σ' hJ.2).cov hJ.1⟩) hs)
theorem sp_frz {n : Nat} {p : PV} {ss : List Stmt} (G : GOK GH mg mb) (hf : frozen σ (.loc n) = some (n, p)) (h : SOkP prog w GH sc k ss (subV n p V) ((σ.map (subMO n p)).set n .dead) Q) : SOkP prog w GH sc k ss V σ Q := fun A env s B ρ P R F I => by
  have hm : ∃ m, σ[n]? = some m := by
    cases q : σ[n]? with
    | none => simp [frozen, q] at hf
    | some m => exact ⟨m, rfl⟩
  obtain ⟨m, hm⟩ := hm
  have hlt : n < ρ.length := by
    rw [I.len]
    rcases Nat.lt_or_ge n σ.length with z | z
    · exact z
    · rw [List.getElem?_eq_none z] at hm; cases hm
  have ha : ρ[n]? = some ρ[n] := List.getElem?_eq_getElem hlt
  refine x1a3 (I.frozen G (v := .loc n) (u := .ref ρ[n]) ⟨ρ[n], ha, rfl⟩ hf) fun B' I' S' hp => ?_
  have F' : FrOk prog w GH sc env s.heap B' ρ (subV n p V) := (F.step S').subst ha hp
  have I'' : Inv prog w GH s.heap B' ρ ((σ.map (subMO n p)).set n .dead) := by
    refine ⟨I'.top, I'.base, I'.nodup, I'.high, by simp [I.len], fun i b m' e1 e2 => ?_⟩
    by_cases q : i = n
    · subst q
      rw [List.getElem?_set_self (by simp; rw [← I.len]; exact hlt)] at e2; cases e2
      obtain ⟨o, ho⟩ := I'.rho_lt (List.mem_of_getElem? e1)
      exact ⟨fun z => absurd rfl z, o, ho, trivial⟩
    · rw [List.getElem?_set_ne (Ne.symm q), List.getElem?_map] at e2
      refine x1a2 (Option.map_eq_some_iff.mp e2) fun m0 hm0 Z1 => ?_; obtain rfl := Z1
      obtain ⟨z, Z2⟩ := I'.store i b m0 e1 (by rw [List.getElem?_set_ne (Ne.symm q)]; exact hm0); refine x1a2 Z2 fun o ho r => ?_; clear Z2
      exact ⟨fun y => z (by intro e; subst e; exact y rfl), o, ho, mrel_sub ha hp r⟩
  exact wpAny_mono (h A env s B' ρ P R F' I'') (fun _ _ x => After.trans ⟨s.heap, s.toks, rfl⟩ (S'.weaken fun _ z => nomatch z) (fun _ z => .inl z) x) fun _ _ x => x
theorem c_fnP {f : Addr} {name : Str} {params : Arguments} {body : List Stmt} {scope : Scope} {dV : Value} {xs : List Str} {as : List AV} {Q : AV → List MO → Prop} (G : GOK GH mg mb) (hf : FnAt GH f name params body scope dV)
    (hn : xs.length = as.length) (hb : ∀ qual kV doc pm an cdv ct (us : List Value), us.length = xs.length → bindArgs (fnOf name qual params body scope dV kV doc pm an cdv ct) ⟨us, []⟩ = pure (xs.zip us)) (nd : xs.Nodup) (hv : xs.all (isVar scope) = true)
    (hbody : SOkP prog w GH scope k body (xs.zip as) σ (RetQ Q))
    (hco : scope.isCoroutine = false) (hgen : scope.isGenerator = false) (hk : scope.kind = .function) {A : Around} {s : Shared} {B : FB} {ρ : List Addr} {us : List Value} (hA : A.frames = some []) (R : Room (k + 1) A) (I : Inv prog w GH s.heap B ρ σ) (ra : RelAL prog w B ρ as us) :
    wpAny (model prog w) A (call (.ref f) us) (fun u => After [] s B ρ fun s' B' ρ' => ∃ v σ', Inv prog w GH s'.heap B' ρ' σ' ∧ RelA prog w B' ρ' v u ∧ Q v σ') (fun _ _ => False) s := by
  refine x8a3 hf.is fun o qual kV doc pm an cdv ct ho hd hcr => ?_
  have hus : us.length = xs.length := by rw [ra.length, hn]
  have kG := I.keepG
  have hR : ∀ env, Room k (A.deeper env) := fun env => ⟨R.handled, by have := R.depth; show A.depth + 1 + 2 * k < _; omega, by have := R.units; show A.units + 3 + 20 * k < _; omega⟩
  have kinds : ∀ y ∈ xs, scope.names.lookup y = some .local ∨ scope.names.lookup y = some .cell := fun y hy => isVar_iff (List.all_eq_true.mp hv y hy)
  refine wpAny_call (codeAny_call_cells (o := o) (fd := fnOf name qual params body scope dV kV doc pm an cdv ct) (binds := xs.zip us) (by have := R.depth; omega) (kG _ _ ho) hd (G.nolimit.keeps kG) (hcr.keeps kG) rfl (hb qual kV doc pm an cdv ct us hus) rfl
    (fun y hy => ?_) (fun s₁ x => ?_) hco hgen hk)
  · rcases kinds y.1 (List.of_mem_zip hy).1 with q | q
    · exact .inl q
    · exact .inr ⟨q, cellsFrom_some _ _ _ (.inl q)⟩
  · generalize hE : callEnvC (fnOf name qual params body scope dV kV doc pm an cdv ct) s.heap.objs.size f = env at x ⊢
    have eS : env.scope = scope := by subst hE; rfl
    have eG : env.globals = mainGlobals := by subst hE; rfl
    have eB : env.builtins = builtinsNs := by subst hE; rfl
    have eL : env.locals = s.heap.objs.size := by subst hE; rfl
    have eFr : env.frame = some s.heap.objs.size := by subst hE; rfl
    have eC : env.cells = cellsFrom (s.heap.objs.size + 1) scope.names [] := by subst hE; rfl
    refine x2a1 x.toInCall.same fun h₁ tk₁ Z1 => ?_; obtain rfl := Z1
    have keep := x.toInCall.keep
    obtain ⟨I₁, S₁⟩ := I.grown (h' := h₁) keep
    have kind_eq : ∀ y, env.kindOf y = scope.names.lookup y := fun y => by unfold Env.kindOf; rw [eS]
    have cnone : ∀ y c, (y, c) ∈ env.cells → s.heap.get? c = none := fun y c hc => none_of_ge (Nat.le_of_lt (eL ▸ x.above y c hc))
    have F : FrOk prog w GH scope env h₁ B ρ (xs.zip as) := by
      refine ⟨eS, hk, eG, eB, ⟨_, x.toInCall.ns, fun y v h hy => ?_⟩, fun y v h hy => ?_, fun y c hc => ?_, x.apart, fun y hy => ?_, ?_⟩
      · refine x1a2 (zip_rel ra hn y v h) fun u hu r => ?_
        exact ⟨u, by rw [bindL_zip xs us _ nd y ((kind_eq y).trans hy), hu]; rfl, r⟩
      · refine x1a2 (zip_rel ra hn y v h) fun u hu r => ?_
        obtain ⟨c, hc⟩ := Option.isSome_iff_exists.mp (cellsFrom_some (x := y) scope.names (s.heap.objs.size + 1) [] (.inl hy))
        rw [← eC] at hc
        refine ⟨c, u, hc, ?_, r⟩
        have := x.cell y c hc
        rwa [bindC_zip xs us _ nd y (by rw [kind_eq, hy]; decide), hu] at this
      · have hcn := cnone y c (mem_of_lookup hc)
        exact ⟨⟨_, x.cell y c hc⟩, I.none_notin hcn, I.none_base hcn, Nat.le_trans (I.big G) (Nat.le_of_lt (eL ▸ x.above y c (mem_of_lookup hc))), Nat.ne_of_gt (x.above y c (mem_of_lookup hc))⟩
      · obtain ⟨c, hc⟩ := Option.isSome_iff_exists.mp (cellsFrom_some (x := y) scope.names (s.heap.objs.size + 1) [] (.inl hy))
        exact ⟨c, by rw [eC]; exact hc⟩
      · rw [eL]
        exact ⟨I.none_notin (size_none _), I.none_base (size_none _), I.big G⟩
    refine wpAny_mono (hbody (A.deeper env) env { s with heap := h₁, toks := tk₁ } B ρ ⟨Around.frames_deeper hA, by rw [eFr, eL]⟩ (hR env) F I₁) (fun fl s₂ y => ?_) fun _ _ y => y.elim
    have y' : After [] s B ρ (fun s' B' ρ' => ∃ fl' V' σ', Inv prog w GH s'.heap B' ρ' σ' ∧ FrOk prog w GH scope env s'.heap B' ρ' V' ∧ FlRel prog w B' ρ' fl' fl ∧ RetQ Q fl' V' σ') s₂ :=
      After.trans ⟨h₁, tk₁, rfl⟩ (S₁ []) (fun b hb => .inr (by
        rcases wrOf_cases hb with q | ⟨x, q⟩
        · rw [q, eL]; exact size_none _
        · exact cnone x b (mem_of_lookup q))) y
    refine x2a3 y' fun B' ρ' sm S Z2 => ?_; clear y'; refine x3a4 Z2 fun fl' V' σ' I' F' r q => ?_; clear Z2
    cases fl' with
    | next => cases (show fl = .next from r); exact ⟨B', ρ', sm, S, .pv .none, σ', I', rfl, q⟩
    | ret v => refine x1a2 r fun u Z3 => ?_; clear r; intro r; obtain rfl := Z3; exact ⟨B', ρ', sm, S, v, σ', I', r, q⟩
end
section
variable {prog : Program} {w : World} {A : Around} {s s' : Shared} {k : Nat} {B : FB} {us : List Value} {σ : List MO} {ρ : List Addr} {env env0 : Env} {sc : Scope} {V : VEnv} {h h' : Heap} {L : Addr} {Q : Fl → VEnv → List MO → Prop} {rest : List Stmt}
theorem pvs_mapf {α : Type} (g : α → PV) (l : List α) : pvs (l.map fun q => .pv (g q)) = some (l.map g) := by
  rw [show (l.map fun q => AV.pv (g q)) = (l.map g).map AV.pv by rw [List.map_map]; rfl]
  exact pvs_map _
theorem top1_of (P : PA A env) (F : FrOk prog w (GH w) sc env h B ρ V) : ∀ h', (∃ m, h'.Ns env.locals m) → Top1 w A env h' := fun h' hn => ⟨P.fr, P.loc, by rw [F.scope]; exact F.kind, F.own.2.2, hn⟩
theorem F_ns (F : FrOk prog w (GH w) sc env h B ρ V) : ∃ m, h.Ns env.locals m := let ⟨m, hm, _⟩ := F.loc; ⟨m, hm⟩
theorem sp_letret {np cp up rp : Pos} {es : List Expr} (hs : noStar es = true) (hk : sc.names.lookup n__law_is_let = some .globalImplicit)
    (ha : LOk prog w (GH w) sc (k + 22) es V σ fun vs σ' => ∃ way D m0 m1 τ, vs = [.loc 4, .pv (sg way)] ∧ way.length ≤ 100 ∧ σ' = shT m0 m1 D τ ∧ Q (.ret (.pv (.bool (!(isWay way && !decide ((0 : Int) ∈ D.map (·.1))))))) V σ') :
    SOkP prog w (GH w) sc (k + 22) [.Return (some (.UnaryOp .Not (.Call (.Name n__law_is_let np) es [] cp) up)) rp] V σ Q := fun A env s B ρ P R F I => by
  refine wpAny_execs_cons (wpAny_Return_some (wpAny_UnaryOp (wpAny_mono (call_let hs hk (top1_of P F) R F I (F_ns F) F.own.1 F.own.2.1 (Q := fun way D σ' => Q (.ret (.pv (.bool (!(isWay way && !decide ((0 : Int) ∈ D.map (·.1))))))) V σ') ha) (fun u s' x => ?_) fun _ _ x => x)))
  refine x8a4 x fun s₃ B' ρ' way D m0 m1 τ a q Z1 Z2 => ?_; clear x; obtain rfl := Z1; obtain ⟨sm, up⟩ := Z2
  refine not_value (wpAny_truthy_bool ?_)
  have F₃ := a.fr F
  have SU := up_step (B := B') (ρ := ρ') up (F_ns F₃)
  refine ⟨B', ρ', a.same.trans sm, ((a.step.weaken (wr' := [env.locals]) fun _ z => nomatch z).trans (fun _ z => .inl z) SU).weaken fun b hb => .inl (by rw [List.mem_singleton.mp hb]; exact List.mem_cons_self ..), .ret _, V, _, a.inv.up up F₃.own.1 F₃.own.2.1, F₃.up up, ⟨_, rfl, relA_bool⟩, q⟩
theorem sp_letif {iter rhs : Expr} {x : Str} {px np cp pos ip xp : Pos} {scope : Scope} {es : List Expr} {b : List Stmt} {p : PV} {l : List PV} {m0 m1 : MO} {D : List (Int × PV)} {τ : List MO} {f : PV → List Nat}
    (h : EOk prog w (GH w) sc (k + 22) iter V (shT m0 m1 D τ) fun v σ₁ => v = .pv p ∧ σ₁ = shT m0 m1 D τ) (src : Src prog w (GH w) p l) (hl : l.length ≤ 1000) (hs : noStar es = true) (hk : (relS sc scope).names.lookup n__law_is_let = some .globalImplicit)
    (ha : ∀ q ∈ l, LOk prog w (GH w) (relS sc scope) (k + 22) es ((x, .pv q) :: compV scope V) (shT m0 m1 D τ) fun vs σ' => vs = [.loc 4, .pv (sg (f q))] ∧ (f q).length ≤ 100 ∧ σ' = shT m0 m1 D τ)
    (hc : compOk sc scope = true) (hx : scope.names.lookup x = some .local) (hsi : ∀ env x, foldedSetIterable iter env x = pure x)
    (hrest : EOk prog w (GH w) sc (k + 22) rhs V (shT m0 m1 D τ) fun b σ₂ => Op2 prog w (GH w) (k + 22) (compareOp .NotEq) (.pv (.lst (l.map fun q => .bool (isWay (f q) && !decide ((0 : Int) ∈ D.map (·.1)))))) b σ₂ fun c σ₃ => Tr1 prog w (GH w) (k + 22) c σ₃ fun t σ₄ => t = false ∧ SOkP prog w (GH w) sc (k + 22) rest V σ₄ Q)
    (hm : behindInMarks .NotEq rhs = false) :
    SOkP prog w (GH w) sc (k + 22) (.If (.Compare (.ListComp (.Call (.Name n__law_is_let np) es [] cp) [⟨.Name x px, iter, [], 0⟩] scope pos) [.NotEq] [rhs] ip) b [] xp :: rest) V (shT m0 m1 D τ) Q := fun A env s B ρ P R F I => by
  refine wpAny_execs_cons (wpAny_If (wpAny_isTrue_Compare1 ?_ hm))
  rw [eval_ListComp]
  refine comp_up (f := fun q => isWay (f q) && !decide ((0 : Int) ∈ D.map (·.1))) h src hl (fun q hq s' B' ρ' cenv Fc F' I' => ?_) hc hx hsi R F I (fun Da C s' B' ρ' us m sm S I' F' UD UC hDC dD dC hn pl r => ?_)
  · refine wpAny_mono (call_let (env0 := env) (Q := fun way D' σ' => way = f q ∧ D' = D ∧ σ' = shT m0 m1 D τ) hs hk (top1_of P F') R Fc I' (F_ns F') F'.own.1 F'.own.2.1 fun A env s B ρ pos R F I => wpAny_mono (ha q hq A env s B ρ pos R F I) (fun _ _ y => y.mono fun _ _ _ ⟨vs, σ', a, b, e1, e2, e3⟩ => ⟨vs, σ', a, b, f q, D, m0, m1, τ, e1, e2, e3, rfl, rfl, e3⟩) fun _ _ y => y) (fun u s'' y => ?_) fun _ _ y => y
    refine x8a3 y fun s₃ B₃ ρ₃ way D' m0' m1' τ' a Z1 Z2 => ?_; clear y; obtain ⟨rfl, rfl, e⟩ := Z1; obtain ⟨Z3, Z4⟩ := Z2; obtain rfl := Z3; obtain ⟨sm, up⟩ := Z4
    exact ⟨rfl, s₃, B₃, ρ₃, e ▸ a, sm, up⟩
  · obtain ⟨n, ho⟩ := pl
    refine ⟨m, hn, fun h'' hs'' => ?_⟩
    have hwf : ∀ b, s.heap.get? b = none → b ∉ wrOf env := fun b hb q => by
      obtain ⟨o', ho'⟩ := F.live q
      rw [hb] at ho'; cases ho'
    have S'' : Step [env.locals] s.heap B ρ s'.heap (B'.put Da { cls := .type "list", data := .seq us n }) ρ' := ⟨S.le.trans (FB.le_put UD.base), fun b o e => by
      unfold FB.put at e
      split at e
      · rename_i z; subst z; exact .inr (.inl dD)
      · exact S.new b o e, S.ext, S.keep, S.live⟩
    have I'' := I'.tellB UD ho
    have hB : ∀ a, a ≠ Da → B' a = none → B'.put Da { cls := .type "list", data := .seq us n } a = none := fun a hne z => by unfold FB.put; rw [if_neg hne]; exact z
    have F'' := F'.tell (ν := []) (FB.le_put UD.base) hB (fun a z => nomatch z) (hwf Da dD)
    rw [List.append_nil] at F''
    have hk : ∀ b o, b ∉ [C] → s'.heap.get? b = some o → h''.get? b = some o := fun b o hb e => hs''.extBut b o (fun z => hb (List.mem_singleton.mpr z)) e
    have U'' : Untold C s'.heap (B'.put Da { cls := .type "list", data := .seq us n }) ρ' := ⟨UC.live, UC.out, hB C (Ne.symm hDC) UC.base⟩
    have I₂ := I''.quiet' (wr := [C]) (fun b hb => by rw [List.mem_singleton.mp hb]; exact U'') hk
    have F₂ := F''.quiet' (wr := [C]) (fun b hb => by rw [List.mem_singleton.mp hb]; exact hwf C dC) hk
    have S₂ := S''.done (wr' := [C]) (fun b hb => by rw [List.mem_singleton.mp hb]; exact dC) hk
    have r' : RelA prog w (B'.put Da { cls := .type "list", data := .seq us n }) ρ' (.pv (.lst (l.map fun q => .bool (isWay (f q) && !decide ((0 : Int) ∈ D.map (·.1)))))) (.ref Da) :=
      ⟨Da, us, n, rfl, FB.put_self _ _ _, (r.pure (pvs_mapf _ _)).mono prog w (FB.le_put UD.base)⟩
    refine hrest.go (s := { s' with heap := h'' }) R F₂ I₂ fun u₂ s₃ B₃ ρ₃ b σ₃ a₃ r₃ h₃ => ?_
    refine wpAny_mono (h₃ A s₃ B₃ ρ₃ _ u₂ R a₃.inv (a₃.rel r') r₃) (fun c s₄ z => ?_) fun _ _ y => y
    refine x2a3 z fun B₄ ρ₄ sm₄ S₄ Z5 => ?_; clear z; refine x2a3 Z5 fun xx σ₄ I₄ r₄ h₄ => ?_; clear Z5
    refine wpAny_mono (h₄ A s₄ B₄ ρ₄ c R I₄ r₄) (fun t s₅ z => ?_) fun _ _ y => y
    refine x2a3 z fun B₅ ρ₅ sm₅ S₅ Z6 => ?_; clear z; refine x1a3 Z6 fun σ₅ I₅ Z7 h₅ => ?_; clear Z6; obtain rfl := Z7
    rw [if_neg (by decide)]
    refine wpAny_execs_nil ?_
    have T : Step [env.locals] s.heap B ρ s₅.heap B₅ ρ₅ := ((S₂.trans (fun _ z => (List.not_mem_nil z).elim) a₃.step).trans (fun _ z => (List.not_mem_nil z).elim) S₄).trans (fun _ z => (List.not_mem_nil z).elim) S₅
    have T' : Step (wrOf env) s.heap B ρ s₅.heap B₅ ρ₅ := T.weaken fun b hb => .inl (by rw [List.mem_singleton.mp hb]; exact List.mem_cons_self ..)
    have F₅ := ((a₃.fr F₂).step S₄).step S₅
    exact wpAny_mono (h₅ A env s₅ B₅ ρ₅ P R F₅ I₅) (fun _ _ y => After.trans ((((sm.trans ⟨h'', _, rfl⟩).trans a₃.same).trans sm₄).trans sm₅) T' (fun _ z => .inl z) y) fun _ _ y => y
end
structure RowsOk (R : List Rw) (i : Nat) : Prop where
  len : R.length ≤ 6
  asc : (R.map (·.n)).Pairwise (· < ·)
  rng : ∀ r ∈ R, 1 ≤ r.n ∧ r.n ≤ (i : Int)
  gen : ∀ r ∈ R, 0 ≤ r.g ∧ r.g < 40
  wo : ∀ r ∈ R, ∃ x : Wo, r.v = x.val ∧ r.t = x.pc
theorem RowsOk.step {R : List Rw} {i : Nat} (h : RowsOk R i) : RowsOk R (i + 1) := ⟨h.len, h.asc, fun r hr => by have := h.rng r hr; omega, h.gen, h.wo⟩
theorem RowsOk.add {R : List Rw} {i : Nat} {g : Int} {x : Wo} (h : RowsOk R i) (hl : R.length < 6) (hg : 0 ≤ g ∧ g < 40) : RowsOk (R ++ [⟨1 + (i : Int), g, x.pc, x.val⟩]) (i + 1) := by
  refine ⟨by simp; omega, ?_, fun r hr => ?_, fun r hr => ?_, fun r hr => ?_⟩
  · rw [List.map_append]
    refine List.pairwise_append.mpr ⟨h.asc, List.pairwise_singleton _ _, fun a ha b hb => ?_⟩
    obtain ⟨r, hr, rfl⟩ := List.mem_map.mp ha
    have := (h.rng r hr).2
    rw [List.mem_singleton.mp hb]
    show r.n < 1 + (i : Int)
    omega
  all_goals rcases List.mem_append.mp hr with hr | hr
  · have := h.rng r hr; omega
  · rw [List.mem_singleton.mp hr]; show 1 ≤ 1 + (i : Int) ∧ 1 + (i : Int) ≤ ((i + 1 : Nat) : Int); omega
  · exact h.gen r hr
  · rw [List.mem_singleton.mp hr]; exact hg
  · exact h.wo r hr
  · rw [List.mem_singleton.mp hr]; exact ⟨x, rfl, rfl⟩
noncomputable def addR (M : Int) (il : Bool) (n : Nat) : List Rw := (List.range n).map fun (s : Nat) => (⟨M + 1 + (s : Int), 0, stx il, vStrm⟩ : Rw)
theorem addR_mem {M : Int} {il : Bool} {n : Nat} {r : Rw} (h : r ∈ addR M il n) : ∃ s : Nat, s < n ∧ r = ⟨M + 1 + (s : Int), 0, stx il, vStrm⟩ := by
  refine x1a2 (List.mem_map.mp h) fun s hs Z1 => ?_; obtain rfl := Z1
  exact ⟨s, List.mem_range.mp hs, rfl⟩
theorem Place.inside {b : Bool} {F : Int} {gs : List (List Int)} {W : List Rw} (pl : Place b F gs W) : ((finL F gs W).map (·.1)).filter (fun y => decide (y ∈ gs.flatten)) = gs.flatten := by
  have nd := pl.nd
  rw [fin_keys, List.filter_append, List.filter_append, List.filter_append]
  have e1 : (0 :: lackOf F gs W).filter (fun y => decide (y ∈ gs.flatten)) = [] := by
    refine List.filter_eq_nil_iff.mpr fun y hy => ?_
    simp only [decide_eq_true_eq]
    intro hg
    rcases List.mem_cons.mp hy with rfl | hy
    · have := pl.pos 0 (List.mem_append_left _ hg); omega
    · exact (lack_mem.mp hy).2.2 (List.mem_append_left _ (List.mem_append_left _ hg))
  have e2 : gs.flatten.filter (fun y => decide (y ∈ gs.flatten)) = gs.flatten := List.filter_eq_self.mpr fun y hy => decide_eq_true hy
  have e3 : (W.map (·.n)).filter (fun y => decide (y ∈ gs.flatten)) = [] := by
    refine List.filter_eq_nil_iff.mpr fun y hy => ?_
    simp only [decide_eq_true_eq]
    exact fun hg => (List.nodup_append.mp (List.nodup_append.mp nd).1).2.2 _ hg _ hy rfl
  have e4 : [lastOf F gs].filter (fun y => decide (y ∈ gs.flatten)) = [] := by
    refine List.filter_eq_nil_iff.mpr fun y hy => ?_
    simp only [decide_eq_true_eq]
    exact fun hg => (List.nodup_append.mp nd).2.2 _ (List.mem_append_left _ hg) _ hy rfl
  rw [e1, e2, e3, e4]; simp
theorem rep_map {α : Type} {x : PV} : ∀ l : List α, (List.replicate l.length [x]).flatten = l.map fun _ => x
  | [] => rfl
  | _ :: l => by rw [List.length_cons, List.replicate_succ, List.flatten_cons, rep_map l]; rfl
noncomputable def pair2 : PV → PV
  | .tup (x :: y :: _) => .tup [x, y]
  | p => p
noncomputable def td3 (r : Rw) : PyData := .tuple [.int r.n, .int r.g, ((tdV r.v).pd).getD .none]
theorem place_of {R : List Rw} {gs : List (List Int)} {M : Int} {il : Bool} (ro : RowsOk R 8) (gp : GP R R.length gs) (hgl : gs.length ≤ 2) (hM : IsTop (R.map (·.n)) M) (hM8 : M ≤ 8) : Place il (M + 1) gs (keptR gs R ++ addR M il gs.length) := by
  have hR := ro.len
  have hM0 : 0 ≤ M := hM.ub 0 (List.mem_append_right _ (List.mem_singleton.mpr rfl))
  have hRM : ∀ x ∈ R.map (·.n), 1 ≤ x ∧ x ≤ M := fun x hx => by
    refine ⟨?_, hM.ub x (List.mem_append_left _ hx)⟩
    obtain ⟨r, hr, rfl⟩ := List.mem_map.mp hx
    exact (ro.rng r hr).1
  have hgR : ∀ x ∈ gs.flatten, x ∈ R.map (·.n) := fun x hx => by
    have := gp.sub x hx
    rwa [List.take_length] at this
  have hkR : ∀ x ∈ (keptR gs R).map (·.n), x ∈ R.map (·.n) ∧ x ∉ gs.flatten := fun x hx => by
    obtain ⟨r, hr, rfl⟩ := List.mem_map.mp hx
    obtain ⟨h1, h2⟩ := List.mem_filter.mp hr
    simp only [Bool.not_eq_true', decide_eq_false_iff_not] at h2
    exact ⟨List.mem_map.mpr ⟨r, h1, rfl⟩, h2⟩
  have hAn : ∀ x ∈ (addR M il gs.length).map (·.n), M + 1 ≤ x ∧ x < M + 1 + (gs.length : Int) := fun x hx => by
    refine x1a2 (List.mem_map.mp hx) fun r hr Z3 => ?_; obtain rfl := Z3
    refine x1a2 (addR_mem hr) fun s hs Z4 => ?_; obtain rfl := Z4
    show M + 1 ≤ M + 1 + (s : Int) ∧ M + 1 + (s : Int) < _
    omega
  have hAl : (addR M il gs.length).length = gs.length := by simp [addR]
  have hkl : (keptR gs R).length ≤ R.length := List.length_filter_le _ _
  have hnd : (R.map (·.n)).Nodup := ro.asc.imp fun h => by omega
  refine ⟨by omega, fun g hg => by have := gp.len g hg; omega, by rw [List.length_append]; omega, fun r hr => ?_, by omega, ?_, fun x hx => ?_, fun x hx => ?_⟩
  · rcases List.mem_append.mp hr with hr | hr
    · have hr' := (List.mem_filter.mp hr).1
      obtain ⟨x, e1, e2⟩ := ro.wo r hr'
      have := ro.rng r hr'
      exact ⟨by omega, ro.gen r hr', by rw [e1, e2]; exact .wo x⟩
    · obtain ⟨s, hs, rfl⟩ := addR_mem hr
      exact ⟨by show 0 ≤ M + 1 + (s : Int) ∧ M + 1 + (s : Int) < 40; omega, by show (0 : Int) ≤ 0 ∧ (0 : Int) < 40; decide, .strm⟩
  · rw [List.map_append]
    have ndk : ((keptR gs R).map (·.n)).Nodup := hnd.sublist (List.filter_sublist.map _)
    have nda : ((addR M il gs.length).map (·.n)).Nodup := by
      unfold addR
      rw [List.map_map]
      refine List.Pairwise.map _ (fun a b h => ?_) List.nodup_range
      show M + 1 + (a : Int) ≠ M + 1 + (b : Int)
      omega
    refine List.nodup_append.mpr ⟨List.nodup_append.mpr ⟨gp.nd, List.nodup_append.mpr ⟨ndk, nda, fun x hx y hy e => ?_⟩, fun x hx y hy e => ?_⟩, by simp, fun x hx y hy e => ?_⟩
    · have := (hRM x (hkR x hx).1).2
      have := (hAn y hy).1
      omega
    · subst e
      rcases List.mem_append.mp hy with hy | hy
      · exact (hkR x hy).2 hx
      · have := (hRM x (hgR x hx)).2
        have := (hAn x hy).1
        omega
    · have hy' := List.mem_singleton.mp hy
      rcases List.mem_append.mp hx with hx | hx
      · have := (hRM x (hgR x hx)).2
        omega
      · rcases List.mem_append.mp hx with hx | hx
        · have := (hRM x (hkR x hx).1).2
          omega
        · have := (hAn x hx).2
          omega
  · rcases List.mem_append.mp hx with hx | hx
    · have := (hRM x (hgR x hx)).1; omega
    · rw [List.map_append] at hx
      rcases List.mem_append.mp hx with hx | hx
      · have := (hRM x (hkR x hx).1).1; omega
      · have := (hAn x hx).1; omega
  · rcases List.mem_append.mp hx with hx | hx
    · have := (hRM x (hgR x hx)).2; omega
    · rw [List.map_append] at hx
      rcases List.mem_append.mp hx with hx | hx
      · have := (hRM x (hkR x hx).1).2; omega
      · have := (hAn x hx).2; omega
section
variable {prog : Program} {w : World} {k : Nat} {σ τ : List MO} {Q : AV → List MO → Prop} {b : Bool} {D : List (Int × PV)}
set_option maxHeartbeats 4000000 in
theorem law_ok {sl : List Int} (hsl : sl.length ≤ 1000000) (h : ∀ σ', Q (.pv (.bool true)) σ') {A : Around} {s : Shared} {B : FB} {ρ : List Addr} {us : List Value} (hA : A.frames = some []) (R : Room (k + 60) A) (I : Inv prog w (GH w) s.heap B ρ []) (ra : RelAL prog w B ρ [.pv (.lst (sl.map .int))] us) :
    wpAny (model prog w) A (call (.ref 657) us) (fun u => After [] s B ρ fun s' B' ρ' => ∃ v σ', Inv prog w (GH w) s'.heap B' ρ' σ' ∧ RelA prog w B' ρ' v u ∧ Q v σ') (fun _ _ => False) s := by
  refine c_fnP (k := k + 59) (gok w) (fn_law w) (xs := [⟨⟨[115,99,114,105,112,116]⟩⟩]) rfl ?hb (by decide +kernel) (by kernel_rfl!) ?body (by kernel_rfl!) (by kernel_rfl!) (by kernel_rfl!) hA R I ra
  case hb => exact fun _ _ _ _ _ _ _ => nl1 (fun _ => rfl)
  case body =>
  refine sp_cons ?_
  refine xa ?_
  refine ca__law_pen ?_ (by kernel_rfl!)
  refine lc ?_
  refine ev ?_
  refine l_nil ?_
  refine law_pen_ok hsl (fun σ' hp => ?_)
  refine x3a2 hp fun l a b Z1 hl => ?_; clear hp; obtain rfl := Z1
  refine sp_cons ?_
  refine xa ?_
  refine e_listM (gok w) ?_
  refine l_nil ?_
  refine ⟨_, rfl, Nat.le_of_ble_eq_true rfl, ?_⟩
  refine sp_for [(⟨⟨[114,111,119,115]⟩⟩, .loc 2), (⟨⟨[112,101,110]⟩⟩, .loc 1)] (fun i σ' => ∃ l a b R, σ' = penO l a b [.lst (R.map row4)] ∧ l.length ≤ 40 ∧ RowsOk R i) ?_
  refine ca_range ?_ (by kernel_rfl!)
  refine lc ?_
  refine e_int ?_
  refine lc ?_
  refine e_int ?_
  refine l_nil ?_
  refine c_range2 ?_
  refine ⟨_, _, rfl, src_rng (by decide), ?_, ⟨l, a, b, [], rfl, hl, ⟨by simp, List.Pairwise.nil, by simp, by simp, by simp⟩⟩, fun i q σ' hi hJ => ?_, fun σ' hJ => ?_⟩
  · exact Cov.cons rfl (Cov.cons rfl Cov.nil)
  · refine x4a2 hJ fun l a b R Z2 Z3 => ?_; clear hJ; obtain rfl := Z2; obtain ⟨hl, ro⟩ := Z3
    obtain ⟨rfl, hi'⟩ := rng_at hi
    have hR := ro.len
    refine ⟨_, g_name (by kernel_rfl!), ?_⟩
    refine s_one ?_
    refine x_if ?_
    refine t_bool (a_and ?_)
    refine t_cmp ?_ rfl
    refine ca_len ?_ (by kernel_rfl!)
    refine lc ?_
    refine ev ?_
    refine l_nil ?_
    refine c_lenL rfl (by rw [List.length_map]; omega) ?_
    refine e_int ?_
    refine o_lt ?_
    refine tr_bool ?_
    refine ⟨fun h1 => a_and ?_, fun h1 => ⟨fun h => (by cases h), fun _ => s_nil ⟨Cov.drop rfl Cov.self, l, a, b, R, rfl, hl, ro.step⟩⟩⟩
    have hR6 : R.length < 6 := by
      have := of_decide_eq_true h1
      rw [List.length_map] at this
      omega
    refine t_cmp ?_ rfl
    refine ca__law_draw ?_ (by kernel_rfl!)
    refine lc ?_
    refine ev ?_
    refine lc ?_
    refine e_int ?_
    refine l_nil ?_
    refine draw_ok ⟨l, a, b, rfl, hl⟩ (by decide) (by decide) (fun d σ' hd0 hd1 hp' => ?_)
    refine e_int ?_
    refine o_gt ?_
    refine tr_bool ?_
    refine x3a2 hp' fun l a b Z5 hl => ?_; clear hp'; obtain rfl := Z5
    refine ⟨fun h2 => a_and_nil ⟨fun _ => ?_, fun h => (by cases h)⟩, fun h2 => ⟨fun h => (by cases h), fun _ => s_nil ⟨Cov.drop rfl Cov.self, l, a, b, R, rfl, hl, ro.step⟩⟩⟩
    refine s_cons ?_
    refine x_asgT ?_
    refine ca__law_pick ?_ (by kernel_rfl!)
    refine lc ?_
    refine ev ?_
    refine lc ?_
    refine e_list ?_
    refine lc ?_
    refine e_tup ?_
    refine lc ?_
    refine e_str ?_
    refine lc ?_
    refine e_int ?_
    refine l_nil ?_
    refine ⟨_, rfl, Nat.le_of_ble_eq_true rfl, ?_⟩
    refine lc ?_
    refine e_tup ?_
    refine lc ?_
    refine e_str ?_
    refine lc ?_
    refine ca_Name ?_ (by kernel_rfl!)
    refine lc ?_
    refine e_str ?_
    refine l_nil ?_
    refine Name_ok ?_
    refine l_nil ?_
    refine ⟨_, rfl, Nat.le_of_ble_eq_true rfl, ?_⟩
    refine lc ?_
    refine e_tup ?_
    refine lc ?_
    refine e_str ?_
    refine lc ?_
    refine e_none ?_
    refine l_nil ?_
    refine ⟨_, rfl, Nat.le_of_ble_eq_true rfl, ?_⟩
    refine lc ?_
    refine e_tup ?_
    refine lc ?_
    refine e_str ?_
    refine lc ?_
    refine e_cbool ?_
    refine l_nil ?_
    refine ⟨_, rfl, Nat.le_of_ble_eq_true rfl, ?_⟩
    refine l_nil ?_
    refine ⟨_, rfl, Nat.le_of_ble_eq_true rfl, ?_⟩
    refine l_nil ?_
    refine law_pick_ok ⟨l, a, b, rfl, hl⟩ (by decide) (by decide) (fun p σ' hp hp' => ?_)
    obtain ⟨x, rfl⟩ : ∃ x : Wo, p = .tup [sg x.pc, x.val] := by
      simp only [List.mem_cons, List.not_mem_nil, or_false] at hp
      rcases hp with rfl | rfl | rfl | rfl
      · exact ⟨.seven, rfl⟩
      · exact ⟨.nameA, rfl⟩
      · exact ⟨.null, rfl⟩
      · exact ⟨.tru, rfl⟩
    refine x3a2 hp' fun l a b Z6 hl => ?_; clear hp'; obtain rfl := Z6
    refine ⟨_, g_tup ⟨(fun _ _ e => by cases e), _, g_name (by kernel_rfl!), (fun _ _ e => by cases e), _, g_name (by kernel_rfl!), rfl⟩, ?_⟩
    refine s_one ?_
    refine x_expr ?_ (fun _ => rfl)
    refine e_mbi (id := "list.append") rfl rfl (by decide) (fun _ => rfl) ?_
    refine ev ?_
    refine ⟨mb_list rfl PySem.F.slot_list_append PySem.F.type_list_append, ?_⟩
    refine lc ?_
    refine e_tup ?_
    refine lc ?_
    refine ev ?_
    refine lc ?_
    refine ca__law_pick ?_ (by kernel_rfl!)
    refine lc ?_
    refine ev ?_
    refine lc ?_
    refine e_list ?_
    refine lc ?_
    refine e_int ?_
    refine lc ?_
    refine e_int ?_
    refine lc ?_
    refine e_int ?_
    refine l_nil ?_
    refine ⟨_, rfl, Nat.le_of_ble_eq_true rfl, ?_⟩
    refine l_nil ?_
    refine law_pick_ok ⟨l, a, b, rfl, hl⟩ (by decide) (by decide) (fun p σ' hp hp' => ?_)
    obtain ⟨g, rfl, hg⟩ : ∃ g : Int, p = .int g ∧ (0 ≤ g ∧ g < 40) := by
      simp only [List.mem_cons, List.not_mem_nil, or_false] at hp
      rcases hp with rfl | rfl | rfl
      · exact ⟨0, rfl, by decide⟩
      · exact ⟨0, rfl, by decide⟩
      · exact ⟨3, rfl, by decide⟩
    refine x3a2 hp' fun l a b Z7 hl => ?_; clear hp'; obtain rfl := Z7
    refine lc ?_
    refine ev ?_
    refine lc ?_
    refine ev ?_
    refine l_nil ⟨_, rfl, Nat.le_of_ble_eq_true rfl, ?_⟩
    refine l_nil ?_
    refine c_append rfl (by rw [List.length_map]; omega) ?_
    refine ⟨Cov.drop rfl (Cov.drop rfl (Cov.drop rfl Cov.self)), l, a, b, _, ?_, hl, ro.add (x := x) hR6 hg⟩
    rw [List.map_append]
    rfl
  · refine x4a2 hJ fun l a b R Z8 Z9 => ?_; clear hJ; obtain rfl := Z8; obtain ⟨hl, ro⟩ := Z9
    rw [rng_len] at ro
    have ro : RowsOk R 8 := ro
    have hR6 := ro.len
    refine sp_frz (gok w) (n := 2) rfl ?_
    refine sp_cons ?_
    refine xa ?_
    refine ca_Shelf ?_ (by kernel_rfl!)
    refine l_nil ?_
    refine Shelf_ok ?_
    have hnd : (R.map (·.n)).Nodup := ro.asc.imp fun h => by omega
    have hndr : ((R.reverse).map (·.n)).Nodup := by rw [List.map_reverse]; exact (List.reverse_perm _).nodup_iff.mpr hnd
    refine sp_for [(⟨⟨[115,104,101,108,102]⟩⟩, .loc 4), (⟨⟨[114,111,119,115]⟩⟩, .pv (.lst (R.map row4))), (⟨⟨[112,101,110]⟩⟩, .loc 1)] (fun i σ' => σ' = shT (.lst (l.map .int)) (.alst [.loc 0, .pv (.int a), .pv (.int b)]) ((R.reverse.take i).map shE) []) ?_
    refine e_rev ?_
    refine ev ?_
    refine ⟨_, rfl, by rw [List.length_map]; omega, ?_⟩
    rw [← List.map_reverse]
    refine ⟨_, _, rfl, src_lst, ?_, rfl, fun i q σ' hi hJ => ?_, fun σ' hJ => ?_⟩
    · exact Cov.cons rfl (Cov.cons rfl (Cov.cons rfl Cov.nil))
    · subst hJ
      refine x1a2 (at_map hi) fun r hr Z10 => ?_; obtain rfl := Z10
      refine ⟨_, g_tup ⟨(fun _ _ e => by cases e), _, g_name (by kernel_rfl!), (fun _ _ e => by cases e), _, g_name (by kernel_rfl!), (fun _ _ e => by cases e), _, g_name (by kernel_rfl!), (fun _ _ e => by cases e), _, g_name (by kernel_rfl!), rfl⟩, ?_⟩
      have hx : r.n ∉ ((R.reverse.take i).map shE).map (·.1) := by
        rw [List.map_map]
        exact fresh_at hndr hr
      have hdl : ((R.reverse.take i).map shE).length ≤ 1000000 := by
        rw [List.length_map, List.length_take, List.length_reverse]; omega
      refine s_one ?_
      refine x_expr ?_ (fun _ => rfl)
      refine e_meth rfl (cl_Shelf w) (fn_Shelf_put w) (by kernel_rfl!) (by kernel_rfl!) rfl (by decide) ?_
      refine ev ?_
      refine ⟨⟨_, _, rfl, by decide +kernel⟩, ?_⟩
      refine lc ?_
      refine ev ?_
      refine lc ?_
      refine ev ?_
      refine lc ?_
      refine ev ?_
      refine l_nil ?_
      refine put_ok hx hdl ?_
      refine ⟨Cov.drop rfl (Cov.drop rfl (Cov.drop rfl (Cov.drop rfl Cov.self))), ?_⟩
      rw [take_snoc hr, List.map_append]
      rfl
    · rw [List.length_map, List.take_length] at hJ
      subst hJ
      have hs : Shelved (R.reverse.map shE) R := ⟨by omega, (List.reverse_perm R).map shE, ro.asc⟩
      generalize R.reverse.map shE = D at *
      refine sp_cons ?_
      refine xa ?_
      refine ca__law_groups ?_ (by kernel_rfl!)
      refine lc ?_
      refine ev ?_
      refine lc ?_
      refine ev ?_
      refine l_nil ?_
      refine law_groups_ok ⟨l, a, b, rfl, hl⟩ (by omega) hnd (fun gs σ' hp hgl gp => ?_)
      refine x3a2 hp fun l a b Z11 hl => ?_; clear hp; obtain rfl := Z11
      have hwo : ∀ r ∈ R, ∃ x : Wo, r.v = x.val := fun r hr => let ⟨x, e, _⟩ := ro.wo r hr; ⟨x, e⟩
      refine sp_cons ?_
      refine xa ?_
      refine e_meth rfl (cl_Shelf w) (fn_Shelf_told w) (by kernel_rfl!) (by kernel_rfl!) rfl (by decide) ?_
      refine ev ?_
      refine ⟨⟨_, _, rfl, by decide +kernel⟩, ?_⟩
      refine l_nil ?_
      refine shelf_told_ok hs hwo ?_
      refine sp_cons ?_
      refine xa ?_
      refine e_bin ?_
      refine ca_max ?_ (by kernel_rfl!)
      refine lc ?_
      refine e_bin ?_
      refine e_comp (gok w) ?_ (by kernel_rfl!) (by kernel_rfl!)
      refine ev ?_
      refine compM0 (f := fun q => match q with | .tup (p :: _) => p | p => p) src_lst (by rw [List.length_map]; omega) (fun q hq => ?_) ?_
      · refine x1a2 (List.mem_map.mp hq) fun r hr Z12 => ?_; obtain rfl := Z12
        refine e_sub ?_ (fun _ _ => rfl)
        refine ev ?_
        refine e_int ?_
        refine sub_T (by decide) rfl (Nat.le_of_ble_eq_true rfl) ?_
        exact ⟨rfl, rfl⟩
      rw [List.map_map]
      refine e_list ?_
      refine lc ?_
      refine e_int ?_
      refine l_nil ⟨_, rfl, Nat.le_of_ble_eq_true rfl, ?_⟩
      refine o_addL (l := R.map fun r => .int r.n) (m := [.int 0]) rfl rfl (by simp; omega) ?_
      refine l_nil ?_
      refine c_maxL (ns := R.map (·.n) ++ [0]) (by simp [asList]) (by simp) fun M hM1 hM2 => ?_
      refine e_int ?_
      refine o_intadd ?_
      have hM : IsTop (R.map (·.n)) M := ⟨hM1, hM2⟩
      refine sp_cons ?_
      refine xa ?_
      refine e_cmp ?_ rfl
      refine ca__law_draw ?_ (by kernel_rfl!)
      refine lc ?_
      refine ev ?_
      refine lc ?_
      refine e_int ?_
      refine l_nil ?_
      refine draw_ok ⟨l, a, b, rfl, hl⟩ (by decide) (by decide) (fun d σ' hd0 hd1 hp' => ?_)
      refine e_int ?_
      refine o_eqI ?_
      refine x3a2 hp' fun l a b Z13 hl => ?_; clear hp'; obtain rfl := Z13
      generalize hil : (d == 1) = il
      refine sp_cons ?_
      refine xa ?_
      refine e_join (fun v σ' => v = .pv (sg (stx il)) ∧ σ' = shT (.lst (l.map .int)) (.alst [.loc 0, .pv (.int a), .pv (.int b)]) D []) ?_ ?_
      · refine e_if ?_
        refine t_value ?_ (fun _ => rfl)
        refine ev ?_
        refine tr_bool ⟨fun h => ?_, fun h => ?_⟩
        · subst h
          exact e_str ⟨rfl, rfl⟩
        · subst h
          exact e_str ⟨rfl, rfl⟩
      rintro v σ' ⟨rfl, rfl⟩
      have hM0 : 0 ≤ M ∧ M ≤ 8 := by
        have h1 := hM2 0 (List.mem_append_right _ (List.mem_singleton.mpr rfl))
        refine ⟨h1, ?_⟩
        rcases List.mem_append.mp hM1 with h | h
        · obtain ⟨r, hr, e⟩ := List.mem_map.mp h
          have := (ro.rng r hr).2
          have e' : r.n = M := e
          omega
        · have := List.mem_singleton.mp h; omega
      have lm : (gs.map fun g => PV.lst (g.map .int)).length = gs.length := List.length_map ..
      obtain ⟨A, hA⟩ : ∃ A : List Rw, A = addR M il gs.length := ⟨_, rfl⟩
      have hAl : A.length = gs.length := by rw [hA]; simp [addR]
      refine sp_cons ?_
      refine x_asgC (gok w) ?_ (by kernel_rfl!) (by kernel_rfl!) (by kernel_rfl!)
      refine ca_range ?_ (by kernel_rfl!)
      refine lc ?_
      refine ca_len ?_ (by kernel_rfl!)
      refine lc ?_
      refine ev ?_
      refine l_nil ?_
      refine c_lenL rfl (by omega) ?_
      refine l_nil ?_
      refine c_range1 ?_
      refine compM0 (f := fun q => match q with | .int s => .tup [.int (M + 1 + s), .int 0, sg (stx il), vStrm] | p => p) (src_rng (small_of (by omega) (by omega))) (by rw [rng_len]; omega) (fun q hq => ?_) ?_
      · rw [rngL_ir] at hq
        refine x1a2 (List.mem_map.mp hq) fun s hs Z14 => ?_; obtain rfl := Z14
        refine e_tup ?_
        refine lc ?_
        refine e_bin ?_
        refine ev ?_
        refine ev ?_
        refine o_intadd ?_
        refine lc ?_
        refine e_int ?_
        refine lc ?_
        refine ev ?_
        refine lc ?_
        refine ca_Stream ?_ (by kernel_rfl!)
        refine lc ?_
        refine e_dictFI (gok w) ?_
        refine lc ?_
        refine e_bytes ?_
        refine l_nil ?_
        refine Stream_ok ?_
        refine l_nil ?_
        refine ⟨_, rfl, Nat.le_of_ble_eq_true rfl, ?_⟩
        exact ⟨rfl, rfl⟩
      rw [lm, show (rngL 0 (gs.length : Int)).map (fun q => match q with | .int s => PV.tup [.int (M + 1 + s), .int 0, sg (stx il), vStrm] | p => p) = A.map row4 from by
        rw [hA, rngL_ir, List.map_map]
        unfold ir addR
        rw [List.map_map]
        rw [List.map_map, show ((gs.length : Int) - 0).toNat = gs.length by omega]
        refine List.map_congr_left fun s _ => ?_
        show PV.tup [.int (M + 1 + (0 + (s : Int))), _, _, _] = PV.tup [.int (M + 1 + (s : Int)), _, _, _]
        rw [Int.zero_add]]
      have pl : Place il (M + 1) gs (keptR gs R ++ A) := hA ▸ place_of ro gp hgl hM hM0.2
      have hwl := pl.wl
      have hndW : ((keptR gs R ++ A).map (·.n)).Nodup := (List.nodup_append.mp (List.nodup_append.mp pl.nd).1).2.1
      refine sp_cons ?_
      refine xa ?_
      refine e_bin ?_
      refine e_bin ?_
      refine e_bytes ?_
      refine ca_bytes ?_ (by kernel_rfl!)
      refine lc ?_
      refine e_list ?_
      refine lc ?_
      refine e_int ?_
      refine lc ?_
      refine e_int ?_
      refine lc ?_
      refine e_int ?_
      refine lc ?_
      refine e_int ?_
      refine l_nil ?_
      refine ⟨_, rfl, Nat.le_of_ble_eq_true rfl, ?_⟩
      refine l_nil ?_
      refine c_bytes (ns := [226,227,207,211]) rfl (by decide) (by decide) ?_
      refine o_bsAdd (x := [37,80,68,70,45,49,46,55,10,37]) (y := [226,227,207,211]) (by decide) ?_
      refine e_bytes ?_
      refine o_bsAdd (y := [10]) (by decide) ?_
      refine sp_cons ?_
      refine x_asgT ?_
      refine ca__law_due ?_ (by kernel_rfl!)
      refine lc ?_
      refine ev ?_
      refine lc ?_
      refine ev ?_
      refine lc ?_
      refine ev ?_
      refine lc ?_
      refine ev ?_
      refine l_nil ?_
      refine law_due_ok (b := il) (bd := hdr) (by omega) (fun g hg => pl.gk g hg) (by omega) hwl pl.ok hndW (by decide) ?_
      refine ⟨_, g_tup ⟨(fun _ _ e => by cases e), _, g_name (by kernel_rfl!), (fun _ _ e => by cases e), _, g_name (by kernel_rfl!), rfl⟩, ?_⟩
      rw [show (((hdr.length : Nat)) : Int) = 15 from rfl, show hdr ++ ((keptR gs R ++ A).map Rw.line).flatten = bodyL (keptR gs R ++ A) from rfl]
      refine sp_cons ?_
      refine x_asgT ?_
      refine ca_placed_objects ?_ (by kernel_rfl!)
      refine lc ?_
      refine ev ?_
      refine lc ?_
      refine ev ?_
      refine lc ?_
      refine e_comp (gok w) ?_ (by kernel_rfl!) (by kernel_rfl!)
      refine ev ?_
      refine compM0 (f := fun q => match q with | .tup [x, y, _, z] => .tup [x, y, z] | p => p) src_lst (by rw [List.length_map]; omega) (fun q hq => ?_) ?_
      · refine x1a2 (List.mem_map.mp hq) fun r hr Z15 => ?_; obtain rfl := Z15
        refine e_tup ?_
        refine lc ?_
        refine e_sub ?_ (fun _ _ => rfl)
        refine ev ?_
        refine e_int ?_
        refine sub_T (by decide) rfl (Nat.le_of_ble_eq_true rfl) ?_
        refine lc ?_
        refine e_sub ?_ (fun _ _ => rfl)
        refine ev ?_
        refine e_int ?_
        refine sub_T (by decide) rfl (Nat.le_of_ble_eq_true rfl) ?_
        refine lc ?_
        refine e_sub ?_ (fun _ _ => rfl)
        refine ev ?_
        refine e_int ?_
        refine sub_T (by decide) rfl (Nat.le_of_ble_eq_true rfl) ?_
        refine l_nil ?_
        refine ⟨_, rfl, Nat.le_of_ble_eq_true rfl, ?_⟩
        exact ⟨rfl, rfl⟩
      rw [List.map_map]
      refine lc ?_
      refine ev ?_
      refine l_nil ?_
      refine placed_ok (F := M + 1) (A := A) hs (by rw [show M + 1 - 1 = M by omega]; exact hM) pl ?_
      refine ⟨_, g_tup ⟨(fun _ _ e => by cases e), _, g_name (by kernel_rfl!), (fun _ _ e => by cases e), _, g_name (by kernel_rfl!), (fun _ _ e => by cases e), _, g_name (by kernel_rfl!), rfl⟩, ?_⟩
      generalize hW : keptR gs R ++ A = W at *
      refine SOkP.cov (V' := [(⟨⟨[108,97,115,116]⟩⟩, .pv (.int (lastOf (M + 1) gs))), (⟨⟨[101,110,116,114,105,101,115]⟩⟩, .pv (dP (finL (M + 1) gs W))), (⟨⟨[104,101,97,114,100]⟩⟩, .pv (bp (bodyL W))), (⟨⟨[112,108,97,99,101,115]⟩⟩, .pv (dP (plcL 15 W))), (⟨⟨[100,97,116,97]⟩⟩, .pv (bp (bodyL W))), (⟨⟨[102,105,114,115,116]⟩⟩, .pv (.int (M + 1))), (⟨⟨[98,101,102,111,114,101]⟩⟩, .pv (.tup [.tup (R.map rowT3), .tup [sg [100,105,99,116]]])), (⟨⟨[103,114,111,117,112,115]⟩⟩, .pv (gsP gs)), (⟨⟨[115,104,101,108,102]⟩⟩, .loc 4), (⟨⟨[114,111,119,115]⟩⟩, .pv (.lst (R.map row4))), (⟨⟨[112,101,110]⟩⟩, .loc 1)]) ?_ ?_
      · have hfl : (finL (M + 1) gs W).length ≤ 60 := by
          have e := pl.keys_perm.length_eq
          rw [ir_len, List.length_map] at e
          have : lastOf (M + 1) gs = M + 1 + (gs.length : Int) := rfl
          omega
        have hla : 0 ≤ lastOf (M + 1) gs ∧ lastOf (M + 1) gs ≤ 12 := by
          have : lastOf (M + 1) gs = M + 1 + (gs.length : Int) := rfl
          omega
        refine sp_cons ?_
        refine x_if ?_
        refine t_bool (a_or ?_)
        refine t_cmp ?_ rfl
        refine ev ?_
        refine ev ?_
        refine o_bytesNe ?_
        refine tr_bool ?_
        refine ⟨fun h => (by simp at h), fun _ => a_or ?_⟩
        refine t_cmp ?_ rfl
        refine ev ?_
        refine e_bin ?_
        refine ev ?_
        refine ca_len ?_ (by kernel_rfl!)
        refine lc ?_
        refine ev ?_
        refine l_nil ?_
        refine c_lenL rfl (by omega) ?_
        refine o_intadd ?_
        refine o_neI ?_
        refine tr_bool ?_
        rw [lm]
        refine ⟨fun h => (by simp at h), fun _ => a_or ?_⟩
        refine t_cmp ?_ rfl
        refine ca_sorted ?_ (by kernel_rfl!)
        refine lc ?_
        refine ev ?_
        refine l_nil ?_
        refine c_sortedD (gok w) rfl (by rw [List.length_map]; omega) fun ns' hp hso => ?_
        obtain rfl : ir 0 (lastOf (M + 1) gs + 1) = ns' := (perm_sorted (hp.trans pl.keys_perm.symm) hso ((ir_sorted _ _).imp fun h => by omega)).symm
        refine ca_list ?_ (by kernel_rfl!)
        refine lc ?_
        refine ca_range ?_ (by kernel_rfl!)
        refine lc ?_
        refine e_bin ?_
        refine ev ?_
        refine e_int ?_
        refine o_intadd ?_
        refine l_nil ?_
        refine c_range1 ?_
        refine l_nil ?_
        refine c_listRng (small_of (by omega) (by omega)) (by omega) ?_
        rw [rngL_ir]
        refine o_neSame (d := .list ((ir 0 (lastOf (M + 1) gs + 1)).map .int)) (by show (pdL _).map PyData.list = _; rw [pdL_ints]; rfl) (by show (pdL _).map PyData.list = _; rw [pdL_ints]; rfl) (shaped_ints _) ?_
        refine tr_bool ⟨fun h => (by cases h), fun _ => a_or_nil ⟨fun h => (by cases h), fun _ => s_nil ?_⟩⟩
        have hgn : gs.flatten.Nodup := gp.nd
        have hgfl : gs.flatten.length ≤ 30 := by
          have := flat_len pl.gk
          omega
        have hkin : ∀ y ∈ (finL (M + 1) gs W).map (·.1), ∃ wy one two, (finL (M + 1) gs W).lookup y = some (ent wy one two) ∧ ((⟨⟨wy⟩⟩ : Str) == ⟨⟨[112,97,99,107,101,100]⟩⟩) = decide (y ∈ gs.flatten) := fun y hy => by
          have hy' := pl.mem.mp hy
          refine x3a3 (pl.kinds hy'.1 hy'.2) fun wy one two hl' hk hiff => ?_
          refine ⟨wy, one, two, hl', ?_⟩
          by_cases hg : y ∈ gs.flatten
          · rw [decide_eq_true hg, hiff.mpr hg]; decide
          · rw [decide_eq_false hg]
            rcases hk with e | e | e
            · exact absurd (hiff.mp e) hg
            · rw [e]; decide
            · rw [e]; decide
        refine sp_for [(⟨⟨[108,97,115,116]⟩⟩, .pv (.int (lastOf (M + 1) gs))), (⟨⟨[101,110,116,114,105,101,115]⟩⟩, .pv (dP (finL (M + 1) gs W))), (⟨⟨[112,108,97,99,101,115]⟩⟩, .pv (dP (plcL 15 W))), (⟨⟨[100,97,116,97]⟩⟩, .pv (bp (bodyL W))), (⟨⟨[102,105,114,115,116]⟩⟩, .pv (.int (M + 1))), (⟨⟨[98,101,102,111,114,101]⟩⟩, .pv (.tup [.tup (R.map rowT3), .tup [sg [100,105,99,116]]])), (⟨⟨[103,114,111,117,112,115]⟩⟩, .pv (gsP gs)), (⟨⟨[115,104,101,108,102]⟩⟩, .loc 4), (⟨⟨[114,111,119,115]⟩⟩, .pv (.lst (R.map row4))), (⟨⟨[112,101,110]⟩⟩, .loc 1)] (fun i σ' => σ' = shT (.lst (l.map .int)) (.alst [.loc 0, .pv (.int a), .pv (.int b)]) D []) ?_
        refine ca_range ?_ (by kernel_rfl!)
        refine lc ?_
        refine e_bin ?_
        refine ev ?_
        refine e_int ?_
        refine o_intadd ?_
        refine l_nil ?_
        refine c_range1 ?_
        refine ⟨_, _, rfl, src_rng (small_of (by omega) (by omega)), ?_, rfl, fun i q σ' hi hJ => ?_, fun σ' hJ => ?_⟩
        · exact Cov.cons rfl (Cov.cons rfl (Cov.cons rfl (Cov.cons rfl (Cov.cons rfl (Cov.cons rfl (Cov.cons rfl (Cov.cons rfl (Cov.cons rfl (Cov.cons rfl Cov.nil)))))))))
        · subst hJ
          obtain ⟨rfl, hi'⟩ := rng_at hi
          have hx0 : 0 ≤ (0 + (i : Int)) := by omega
          have hx1 : 0 + (i : Int) ≤ lastOf (M + 1) gs := by omega
          refine x3a3 (pl.kinds hx0 hx1) fun wy one two hlk hk _ => ?_
          refine ⟨_, g_name (by kernel_rfl!), ?_⟩
          refine s_one ?_
          refine x_if ?_
          refine t_cmp ?_ rfl
          refine e_meth rfl (cl_Entry w) (fn_Entry_told w) (by kernel_rfl!) (by kernel_rfl!) rfl (by decide) ?_
          refine e_sub ?_ (fun _ _ => rfl)
          refine ev ?_
          refine ev ?_
          refine sub_dct rfl hlk ?_
          refine ⟨⟨_, _, rfl, by decide +kernel⟩, ?_⟩
          refine l_nil ?_
          refine entry_told_ok ?_
          refine ca__law_told ?_ (by kernel_rfl!)
          refine lc ?_
          refine ev ?_
          refine lc ?_
          refine ev ?_
          refine lc ?_
          refine ev ?_
          refine lc ?_
          refine ev ?_
          refine lc ?_
          refine ev ?_
          refine lc ?_
          refine ev ?_
          refine lc ?_
          have hbl : (bodyL W).length ≤ 1000000 := by
            have := lines_len pl.ok
            unfold bodyL
            rw [List.length_append, show hdr.length = 15 from rfl]
            omega
          refine ca_len ?_ (by kernel_rfl!)
          refine lc ?_
          refine ev ?_
          refine l_nil ?_
          refine c_lenB (by rw [bs_size]; exact hbl) ?_
          rw [bs_size]
          refine l_nil ?_
          refine law_told_ok pl hx0 hx1 fun wy' one' two' e => ?_
          rw [hlk] at e
          simp only [Option.some.injEq, PV.ins.injEq, List.cons.injEq, PV.str.injEq, PV.int.injEq, and_true, true_and, Str.mk.injEq, Array.mk.injEq] at e
          obtain ⟨rfl, rfl, rfl⟩ := e
          refine o_neSame (d := .tuple [.str ⟨⟨wy⟩⟩, .int one, .int two]) rfl rfl (shaped_e hk) ?_
          refine tr_bool ⟨fun h => (by cases h), fun _ => s_nil ⟨Cov.drop rfl Cov.self, rfl⟩⟩
        · subst hJ
          refine sp_cons ?_
          refine xa ?_
          refine ca_packed_entries ?_ (by kernel_rfl!)
          refine lc ?_
          refine ev ?_
          refine lc ?_
          refine e_int ?_
          refine l_nil ?_
          refine packed_entries_ok pl.gl pl.gk hgn ?_
          refine sp_cons ?_
          refine x_asgC (gok w) ?_ (by kernel_rfl!) (by kernel_rfl!) (by kernel_rfl!)
          refine ev ?_
          refine compM (f := id) (pr := fun q => match q with | .int y => decide (y ∈ gs.flatten) | _ => false) (src_dctI (by simp)) (by rw [List.length_map, List.length_map]; omega) (fun q hq => ?_) ?_
          · refine x1a2 (List.mem_map.mp hq) fun y hy Z21 => ?_; obtain rfl := Z21
            refine x3a2 (hkin y hy) fun wy one two hlk hwy => ?_
            refine t_cmp ?_ rfl
            refine e_attr ?_ (fun _ => rfl)
            refine e_sub ?_ (fun _ _ => rfl)
            refine ev ?_
            refine ev ?_
            refine sub_dct rfl hlk ?_
            refine at_ins (cl_Entry w) rfl rfl rfl ?_ (by kernel_rfl!)
            refine e_str ?_
            refine o_strEq ?_
            refine tr_bool ?_
            refine ⟨rfl, hwy, fun _ => ?_⟩
            refine ev ?_
            exact ⟨rfl, rfl⟩
          rw [show ((((finL (M + 1) gs W).map (·.1)).map PV.int).filter fun q => match q with | .int y => decide (y ∈ gs.flatten) | _ => false).map id = gs.flatten.map .int from by
            rw [List.filter_map, List.map_id]
            exact congrArg (List.map PV.int) pl.inside]
          refine sp_cons ?_
          refine x_if ?_
          refine t_bool (a_or ?_)
          refine t_cmp ?_ rfl
          refine ca_sorted ?_ (by kernel_rfl!)
          refine lc ?_
          refine ev ?_
          refine l_nil ?_
          refine c_sortedD (gok w) rfl (by rw [List.length_map, ← List.length_map (f := (·.1)), pack_keys]; omega) fun ns' hp' hso' => ?_
          rw [pack_keys] at hp'
          refine ca_sorted ?_ (by kernel_rfl!)
          refine lc ?_
          refine ev ?_
          refine l_nil ?_
          refine c_sortedL (ns := gs.flatten) rfl (by omega) fun ns'' hp'' hso'' => ?_
          obtain rfl : ns' = ns'' := perm_sorted (hp'.trans hp''.symm) hso' hso''
          refine o_neSame (d := .list (ns'.map .int)) (by show (pdL _).map PyData.list = _; rw [pdL_ints]; rfl) (by show (pdL _).map PyData.list = _; rw [pdL_ints]; rfl) (shaped_ints _) ?_
          refine tr_bool ⟨fun h => (by cases h), fun _ => a_or ?_⟩
          refine t_cmp ?_ rfl
          refine e_comp (gok w) ?_ (by kernel_rfl!) (by kernel_rfl!)
          refine ev ?_
          refine compM0 (f := fun _ => .int (50 - (M + 1))) src_lst (by rw [List.length_map]; omega) (fun q hq => ?_) ?_
          · refine x1a2 (List.mem_map.mp hq) fun y hy Z22 => ?_; obtain rfl := Z22
            refine x3a2 (flat_at hy) fun s g i hs1 hi1 => ?_
            have hlk := pl.packed hs1 hi1
            have hla' : (packL 50 gs).lookup y = some (ent [112,97,99,107,101,100] (50 + (s : Int)) (i : Int)) := lookup_of_mem (by rw [pack_keys]; exact hgn) (pack_at hs1 hi1)
            refine e_bin ?_
            refine e_attr ?_ (fun _ => rfl)
            refine e_sub ?_ (fun _ _ => rfl)
            refine ev ?_
            refine ev ?_
            refine sub_dct rfl hla' ?_
            refine at_ins (cl_Entry w) rfl rfl rfl ?_ (by kernel_rfl!)
            refine e_attr ?_ (fun _ => rfl)
            refine e_sub ?_ (fun _ _ => rfl)
            refine ev ?_
            refine ev ?_
            refine sub_dct rfl hlk ?_
            refine at_ins (cl_Entry w) rfl rfl rfl ?_ (by kernel_rfl!)
            refine o_sub ?_
            refine ⟨?_, rfl⟩
            rw [show (50 : Int) + (s : Int) - (M + 1 + (s : Int)) = 50 - (M + 1) by omega]
          rw [List.map_map]
          refine e_bin ?_
          refine e_list ?_
          refine lc ?_
          refine e_bin ?_
          refine e_int ?_
          refine ev ?_
          refine o_sub ?_
          refine l_nil ?_
          refine ⟨_, rfl, Nat.le_of_ble_eq_true rfl, ?_⟩
          refine ca_len ?_ (by kernel_rfl!)
          refine lc ?_
          refine ev ?_
          refine l_nil ?_
          refine c_lenL rfl (by rw [List.length_map]; omega) ?_
          rw [List.length_map]
          refine o_mulL rfl (by rw [Int.toNat_natCast]; show 1 * _ ≤ _; omega) (by omega) (by omega) (Nat.le_of_ble_eq_true rfl) ?_
          rw [Int.toNat_natCast, rep_map]
          have hci : ∀ l : List Int, (l.map fun _ => PV.int (50 - (M + 1))) = (l.map fun _ => (50 - (M + 1) : Int)).map PV.int := fun l => by rw [List.map_map]; rfl
          rw [show (gs.flatten.map ((fun _ => PV.int (50 - (M + 1))) ∘ PV.int)) = (gs.flatten.map fun _ => (50 - (M + 1) : Int)).map PV.int from hci _, hci]
          refine o_neSame (d := .list ((gs.flatten.map fun _ => (50 - (M + 1) : Int)).map .int)) (by show (pdL _).map PyData.list = _; rw [pdL_ints]; rfl) (by show (pdL _).map PyData.list = _; rw [pdL_ints]; rfl) (shaped_ints _) ?_
          refine tr_bool ⟨fun h => (by cases h), fun _ => a_or_nil ⟨fun h => (by cases h), fun _ => s_nil ?_⟩⟩
          have hpp : ∀ (f : Rw → PV), (∀ r, f r = .tup [.int r.n, .int r.g]) → avPd (shT (.lst (l.map .int)) (.alst [.loc 0, .pv (.int a), .pv (.int b)]) D []) (.pv (.lst (R.map f))) = some (.list (R.map fun r => .tuple [.int r.n, .int r.g])) := fun f hf => by
            show (pdL (R.map f)).map PyData.list = _
            rw [pdL_map (g := fun r => .tuple [.int r.n, .int r.g]) fun r _ => by rw [hf]; rfl]
            rfl
          refine sp_cons ?_
          refine x_if ?_
          refine t_bool (a_or ?_)
          refine t_cmp ?_ rfl
          refine e_comp (gok w) ?_ (by kernel_rfl!) (by kernel_rfl!)
          refine ca_rows_of_shelf ?_ (by kernel_rfl!)
          refine lc ?_
          refine ev ?_
          refine l_nil ?_
          refine rows_ok hs ?_
          refine compM0 (f := pair2) src_lst (by rw [List.length_map]; omega) (fun q hq => ?_) ?_
          · refine x1a2 (List.mem_map.mp hq) fun r hr Z23 => ?_; obtain rfl := Z23
            refine e_tup ?_
            refine lc ?_
            refine e_sub ?_ (fun _ _ => rfl)
            refine ev ?_
            refine e_int ?_
            refine sub_T (by decide) rfl (Nat.le_of_ble_eq_true rfl) ?_
            refine lc ?_
            refine e_sub ?_ (fun _ _ => rfl)
            refine ev ?_
            refine e_int ?_
            refine sub_T (by decide) rfl (Nat.le_of_ble_eq_true rfl) ?_
            refine l_nil ?_
            refine ⟨_, rfl, Nat.le_of_ble_eq_true rfl, ?_⟩
            exact ⟨rfl, rfl⟩
          rw [List.map_map]
          refine e_comp (gok w) ?_ (by kernel_rfl!) (by kernel_rfl!)
          refine ev ?_
          refine compM0 (f := pair2) src_lst (by rw [List.length_map]; omega) (fun q hq => ?_) ?_
          · refine x1a2 (List.mem_map.mp hq) fun r hr Z24 => ?_; obtain rfl := Z24
            refine e_tup ?_
            refine lc ?_
            refine e_sub ?_ (fun _ _ => rfl)
            refine ev ?_
            refine e_int ?_
            refine sub_T (by decide) rfl (Nat.le_of_ble_eq_true rfl) ?_
            refine lc ?_
            refine e_sub ?_ (fun _ _ => rfl)
            refine ev ?_
            refine e_int ?_
            refine sub_T (by decide) rfl (Nat.le_of_ble_eq_true rfl) ?_
            refine l_nil ?_
            refine ⟨_, rfl, Nat.le_of_ble_eq_true rfl, ?_⟩
            exact ⟨rfl, rfl⟩
          rw [List.map_map]
          refine o_neSame (d := .list (R.map fun (r : Rw) => .tuple [.int r.n, .int r.g])) (hpp (pair2 ∘ row3) fun r => rfl) (hpp (pair2 ∘ row4) fun r => rfl) (shaped_map (fun r _ => by simp [PyData.canLay0, PyData.canLayAll0]) (fun r _ => by simp [PyData.depth, PyData.depthAll])).1 ?_
          refine tr_bool ⟨fun h => (by cases h), fun _ => a_or ?_⟩
          refine t_cmp ?_ rfl
          refine e_meth rfl (cl_Shelf w) (fn_Shelf_told w) (by kernel_rfl!) (by kernel_rfl!) rfl (by decide) ?_
          refine ev ?_
          refine ⟨⟨_, _, rfl, by decide +kernel⟩, ?_⟩
          refine l_nil ?_
          refine shelf_told_ok hs hwo ?_
          refine ev ?_
          have htp : avPd (shT (.lst (l.map .int)) (.alst [.loc 0, .pv (.int a), .pv (.int b)]) D []) (.pv (.tup [.tup (R.map rowT3), .tup [sg [100,105,99,116]]])) = some (.tuple [.tuple (R.map td3), .tuple [.str ⟨⟨[100,105,99,116]⟩⟩]]) := by
            have e : pdL (R.map rowT3) = some (R.map td3) := pdL_map fun r hr => by
              obtain ⟨x, ex⟩ := hwo r hr
              unfold td3
              rw [ex, x.td_pd]
              show (pdL [PV.int r.n, PV.int r.g, tdV r.v]).map PyData.tuple = _
              rw [ex, pdL_cons (p := .int r.n) rfl (pdL_cons (p := .int r.g) rfl (pdL_cons x.td_pd rfl))]
              rfl
            exact congrArg (Option.map PyData.tuple) (pdL_cons (p := PV.tup (R.map rowT3)) (congrArg (Option.map PyData.tuple) e) (ds := [.tuple [.str ⟨⟨[100,105,99,116]⟩⟩]]) rfl)
          have htl : ∀ r ∈ R, (td3 r).canLay0 = true ∧ (td3 r).depth ≤ 10 := fun r hr => by
            obtain ⟨x, ex⟩ := hwo r hr
            have := x.td_lay
            unfold td3
            rw [ex, x.td_pd]
            constructor
            · simp [PyData.canLay0, PyData.canLayAll0, this.1]
            · simp only [PyData.depth, PyData.depthAll, Option.getD_some]
              omega
          refine o_neSame htp htp (shaped_of ?_ ?_) ?_
          · have h1 := lay_map fun r hr => (htl r hr).1
            simp only [PyData.canLay0, PyData.canLayAll0, h1]
            decide +kernel
          · have h1 := depth_map fun r hr => (htl r hr).2
            simp only [PyData.depth, PyData.depthAll]
            omega
          refine tr_bool ⟨fun h => (by cases h), fun _ => a_or_nil ⟨fun h => (by cases h), fun _ => s_nil ?_⟩⟩
          have hz : (0 : Int) ∉ D.map (·.1) := fun hm => by
            obtain ⟨r, hr, e⟩ := List.mem_map.mp (hs.keys.symm.subset hm)
            have := (ro.rng r hr).1
            have e' : r.n = 0 := e
            omega
          refine sp_letif (p := .tup [sg [99,108,97,115,115,105,99], sg [115,116,114,101,97,109], sg [112,97,99,107,101,100], sg [80,97,99,107,101,100], sg [], sg [104,121,98,114,105,100]]) (f := fun q => match q with | .str s => s.cps.toList | _ => []) ?_ src_tup (Nat.le_of_ble_eq_true rfl) rfl (by kernel_rfl!) (fun q hq => ?_) (by kernel_rfl!) (by kernel_rfl!) (fun _ _ => rfl) ?_ rfl
          · refine e_tup ?_
            refine lc ?_
            refine e_str ?_
            refine lc ?_
            refine e_str ?_
            refine lc ?_
            refine e_str ?_
            refine lc ?_
            refine e_str ?_
            refine lc ?_
            refine e_str ?_
            refine lc ?_
            refine e_str ?_
            refine l_nil ?_
            refine ⟨_, rfl, Nat.le_of_ble_eq_true rfl, ?_⟩
            exact ⟨rfl, rfl⟩
          · obtain ⟨wy, hwy, hwl, rfl⟩ : ∃ wy : List Nat, wy ∈ [[99,108,97,115,115,105,99], [115,116,114,101,97,109], [112,97,99,107,101,100], [80,97,99,107,101,100], [], [104,121,98,114,105,100]] ∧ wy.length ≤ 100 ∧ q = sg wy := by
              simp only [List.mem_cons, List.not_mem_nil, or_false] at hq
              rcases hq with rfl | rfl | rfl | rfl | rfl | rfl <;> exact ⟨_, by simp, Nat.le_of_ble_eq_true rfl, rfl⟩
            refine lc ?_
            refine ev ?_
            refine lc ?_
            refine ev ?_
            refine l_nil ?_
            exact ⟨rfl, hwl, rfl⟩
          rw [decide_eq_false hz]
          refine e_list ?_
          refine lc ?_
          refine e_cbool ?_
          refine lc ?_
          refine e_cbool ?_
          refine lc ?_
          refine e_cbool ?_
          refine lc ?_
          refine e_cbool ?_
          refine lc ?_
          refine e_cbool ?_
          refine lc ?_
          refine e_cbool ?_
          refine l_nil ?_
          refine ⟨_, rfl, Nat.le_of_ble_eq_true rfl, ?_⟩
          refine o_neSame (d := .list [.bool true, .bool true, .bool true, .bool false, .bool false, .bool false]) rfl rfl (by decide +kernel) ?_
          refine tr_bool ⟨rfl, ?_⟩
          refine sp_cons ?_
          refine x_expr ?_ (fun _ => rfl)
          refine e_meth rfl (cl_Shelf w) (fn_Shelf_put w) (by kernel_rfl!) (by kernel_rfl!) rfl (by decide) ?_
          refine ev ?_
          refine ⟨⟨_, _, rfl, by decide +kernel⟩, ?_⟩
          refine lc ?_
          refine e_int ?_
          refine lc ?_
          refine e_int ?_
          refine lc ?_
          refine e_int ?_
          refine l_nil ?_
          refine put_ok (n := 0) (g := 0) (v := .int 1) hz (by have := hs.dlen; omega) ?_
          refine sp_letret rfl (by kernel_rfl!) ?_
          refine lc ?_
          refine ev ?_
          refine lc ?_
          refine ca__law_pick ?_ (by kernel_rfl!)
          refine lc ?_
          refine ev ?_
          refine lc ?_
          refine e_list ?_
          refine lc ?_
          refine e_str ?_
          refine lc ?_
          refine e_str ?_
          refine lc ?_
          refine e_str ?_
          refine l_nil ?_
          refine ⟨_, rfl, Nat.le_of_ble_eq_true rfl, ?_⟩
          refine l_nil ?_
          refine law_pick_ok (τ := baseO (D ++ [(0, .tup [.int 0, .int 1])])) ⟨l, a, b, rfl, hl⟩ (by decide) (by decide) (fun p σ' hp hp' => ?_)
          obtain ⟨wy, hwl, rfl⟩ : ∃ wy : List Nat, wy.length ≤ 100 ∧ p = sg wy := by
            simp only [List.mem_cons, List.not_mem_nil, or_false] at hp
            rcases hp with rfl | rfl | rfl <;> exact ⟨_, Nat.le_of_ble_eq_true rfl, rfl⟩
          refine x3a2 hp' fun l a b Z25 hl => ?_; clear hp'; obtain rfl := Z25
          refine l_nil ⟨wy, D ++ [((0 : Int), PV.tup [.int 0, .int 1])], .lst (l.map .int), .alst [.loc 0, .pv (.int a), .pv (.int b)], _, rfl, hwl, rfl, ?_⟩
          have hz' : (0 : Int) ∈ (D ++ [((0 : Int), PV.tup [.int 0, .int 1])]).map (·.1) := by
            rw [List.map_append]
            exact List.mem_append_right _ (List.mem_singleton.mpr rfl)
          rw [decide_eq_true hz']
          rw [show (!(isWay wy && !true)) = true by simp]
          exact h _
      · exact Cov.cons rfl (Cov.cons rfl (Cov.cons rfl (Cov.cons rfl (Cov.cons rfl (Cov.cons rfl (Cov.cons rfl (Cov.cons rfl (Cov.cons rfl (Cov.cons rfl (Cov.cons rfl Cov.nil))))))))))
end
end Mine
end
section
open PySem PySem.Calls PyProof.Rows PySem.W
set_option maxRecDepth 100000
set_option linter.unusedVariables false
namespace Mine
theorem ff (h : false = true) {P : Prop} : P := nomatch h
theorem int_of {d : WData} (h : WShape.has [] d .int = true) : ∃ i, d = .int i := by
  cases d
  all_goals first | exact ⟨_, rfl⟩ | exact ff h
theorem ints_of {d : WData} (h : WShape.has [] d (.list .int) = true) : ∃ xs, d = .list xs ∧ WShape.hasItems [] xs .int = true := by
  cases d
  all_goals first | exact ⟨_, rfl, (Bool.or_false _).symm.trans h⟩ | exact ff h
theorem and2 {a b : Bool} (h : (a && b) = true) : a = true ∧ b = true := Bool.and_eq_true .. ▸ h
theorem int_items {xs : List WData} : WShape.hasItems [] xs .int = true → ∃ sl : List Int, xs = sl.map .int := by
  induction xs with
  | nil => exact fun _ => ⟨[], rfl⟩
  | cons x xs ih =>
    intro h
    obtain ⟨a, b⟩ := and2 h
    obtain ⟨sl, rfl⟩ := ih b
    obtain ⟨i, rfl⟩ := int_of a
    exact ⟨i :: sl, rfl⟩
noncomputable def intP (P : Params) (h : Heap) (v : Value) : WData → Prop
  | .int x => ∃ t, v = .int x t
  | .list xs => ∃ a vs, v = .ref a ∧ h.get? a = some { cls := .type "list", data := .seq vs.toArray } ∧ WellAll P h vs xs
  | _ => True
theorem well_int {P : Params} {h : Heap} {v : Value} {d : WData} (r : Well P h v d) : intP P h v d := by
  cases r
  all_goals first | exact trivial | exact ⟨_, rfl⟩ | exact ⟨_, _, rfl, ‹_›, ‹_›⟩
noncomputable def allP (P : Params) (h : Heap) : List Value → List WData → Prop
  | [], [] => True
  | v :: vs, d :: ds => Well P h v d ∧ WellAll P h vs ds
  | _, _ => False
theorem well_all {P : Params} {h : Heap} {vs : List Value} {ds : List WData} (r : WellAll P h vs ds) : allP P h vs ds := by
  cases r
  · exact trivial
  · exact ⟨‹_›, ‹_›⟩
theorem rel_items {prog : Program} {w : World} {B : FB} {P : Params} {h : Heap} {sl : List Int} : ∀ {vs : List Value}, WellAll P h vs (sl.map .int) → RelL prog w B (sl.map .int) vs := by
  induction sl with
  | nil =>
    intro vs r
    cases vs with
    | nil => exact rfl
    | cons v vs => exact (well_all r).elim
  | cons x sl ih =>
    intro vs r
    cases vs with
    | nil => exact (well_all r).elim
    | cons v vs => exact ⟨_, _, rfl, well_int (well_all r).1, ih (well_all r).2⟩
theorem well_one {P : Params} {h : Heap} {vs : List Value} {d : WData} (r : WellAll P h vs [d]) : ∃ v, vs = [v] ∧ Well P h v d := by
  cases vs with
  | nil => exact (well_all r).elim
  | cons v vs =>
    cases vs with
    | nil => exact ⟨v, rfl, (well_all r).1⟩
    | cons u vs => exact (well_all (well_all r).2).elim
theorem walk : WalkO qN loose (fun _ _ => True) YP PySem.Challenge.rw_nn0148_01.row.toRowW ⟨⟨⟨[108, 97, 119]⟩⟩, fdP (st 77), fdB (st 77), fdS (st 77), ⟨471, 0, 504, 82⟩⟩ [] fun f vs => call f vs := by
  intro w s₀ s₁ mg mb G Y a o pm cd doc dV kV ho hd hcr hdf hmg hgens args vals as hpre hlay hrd hwell hsys
  have keepG : ∀ b o, (GH w).get? b = some o → s₁.heap.get? b = some o := Y
  have hns := (gok w).g.keeps keepG
  have e1 : mg = mgOf w := G.T.g.eq_nsMap.trans hns.eq_nsMap.symm
  rw [e1] at hmg
  have ha : a = 657 := by
    have := (g_law w).symm.trans hmg
    cases this; rfl
  subst ha
  obtain ⟨hall, hp⟩ := pre_splitW hpre
  refine x2a2 (hasAllW_cons (e := .list .int) (es := []) hall) fun d r Z1 Z2 => ?_; obtain rfl := Z1; obtain ⟨h1, h2⟩ := Z2
  obtain rfl := hasAllW_nil h2
  refine x1a2 (ints_of h1) fun xs Z3 h3 => ?_; obtain rfl := Z3
  obtain ⟨sl, rfl⟩ := int_items h3
  have hlen : sl.length ≤ 1000000 := by
    have hp' : WTm.holds [] (.and (.not (.lt (.lit (.int 63)) (.len (.arg 0)))) (.lit (.bool true))) { args := [WData.list (sl.map WData.int)] } = true := hp
    by_cases hc : (63 : Int) < (sl.length : Int)
    · have hl : less? (.int 63) (.int (sl.length : Int)) = some true := by
        simp [less?, Num.less?, hc]
      simp [WTm.holds, WTm.value, hl] at hp'
    · omega
  refine x1a2 (well_one hwell) fun v1 Z5 w1 => ?_; obtain rfl := Z5
  refine x2a2 (well_int w1) fun la vs Z6 Z7 => ?_; obtain rfl := Z6; obtain ⟨hl1, hl2⟩ := Z7
  have I : Inv PySem.Challenge.rw_nn0148_01.row.prog w (GH w) s₁.heap s₁.heap.get? [] [] := ⟨keepG, fun _ _ e => e, List.nodup_nil, fun _ m => (nomatch m), rfl, fun i a m e => by simp at e⟩
  have R : Room 60 callerA := ⟨rfl, by decide +kernel, by decide +kernel⟩
  have ra : RelAL PySem.Challenge.rw_nn0148_01.row.prog w s₁.heap.get? [] [.pv (.lst (sl.map .int))] [.ref la] := ⟨_, _, rfl, ⟨la, vs.toArray, 0, rfl, hl1, by simpa using rel_items hl2⟩, rfl⟩
  refine wpAny_mono (law_ok (k := 0) (Q := fun v _ => v = .pv (.bool true)) hlen (fun _ => rfl) rfl R I ra) (fun u s' x => ?_) fun _ _ x => x.elim
  refine x2a2 x fun B' ρ' Z8 Z9 => ?_; clear x; obtain ⟨h', tk, rfl⟩ := Z8; obtain ⟨S, Z10⟩ := Z9; refine x2a3 Z10 fun v σ' I' r Z11 => ?_; clear Z10; obtain rfl := Z11
  cases (show u = .bool true from r)
  refine ⟨.inl ⟨_, .bool true, [], rfl, fun _ => rfl, .bool true, ?_, fun _ => ⟨List.nodup_nil, fun _ m => nomatch m⟩⟩, .of_keep fun b o e => S.keep b o e (by simp) (by simp), rfl, .of_eq hgens⟩
  show (WShape.has [] (.bool true) .bool && WTm.holds [] (.eq .res (.lit (.bool true))) { args := [WData.list (sl.map WData.int)], res := some (.bool true), after := [WData.list (sl.map WData.int)] }) = true
  exact (show WTm.holds [] (.eq .res (.lit (.bool true))) { args := [WData.list (sl.map WData.int)], res := some (.bool true), after := [WData.list (sl.map WData.int)] } = true by simp [WTm.holds, WTm.value, same])
end Mine
end
section
open PySem PySem.Calls PyProof.Rows PySem.W
set_option Elab.async false
set_option maxRecDepth 100000
set_option maxHeartbeats 0
theorem Mine.rest (said : PySem.Challenge.rw_nn0148_01.row.wellSaid = true) : PySem.Challenge.rw_nn0148_01.row.Holds := by
  refine holds_open (q := Mine.qN) (loose := Mine.loose) (Xt := fun _ => true) (XP := fun _ _ => True) (Yf := Mine.Yf) (Ya := Mine.Ya) (YP := Mine.YP) (d := ⟨⟨⟨[108,97,119]⟩⟩, Mine.fdP (Mine.st 77), Mine.fdB (Mine.st 77), Mine.fdS (Mine.st 77), ⟨471,0,504,82⟩⟩) (kwd := []) (N := 9200) ?_ Mine.yOf Mine.yKeeps (fun _ _ => trivial) (fun _ _ _ _ _ => trivial) ?_ ?_ ?_ (fun _ _ => recFacts_nil rfl) rfl (by assumption) ?_ ?_ ?_ ?_
  · exact Mine.left
  · kernel_rfl!
  · kernel_rfl!
  · kernel_rfl!
  · kernel_rfl!
  · exact ⟨rfl, rfl, rfl, rfl, rfl, by decide +kernel⟩
  · w_witness2
  · exact Mine.walk
noncomputable def Mine.lN : OpenLaw := { prog := Mine.pN, name := ⟨⟨[108,97,119]⟩⟩, about := [⟨⟨[112,108,97,99,101,100,95,111,98,106,101,99,116,115]⟩⟩], foot := 10, most := some 63, bound := none, writes := false }
theorem Mine.eL : PySem.Challenge.rw_nn0148_01 = Mine.lN := congrArg (fun p => { prog := p, name := ⟨⟨[108,97,119]⟩⟩, about := [⟨⟨[112,108,97,99,101,100,95,111,98,106,101,99,116,115]⟩⟩], foot := 10, most := some 63, bound := none, writes := false : OpenLaw }) Mine.pS.2.h
theorem Mine.restN : Mine.lN.row.wellSaid = true → Mine.lN.row.Holds := Mine.eL ▸ Mine.rest
theorem Mine.lawN : Mine.lN.Holds := by
  o_law
  exact Mine.restN ‹_›
theorem PySem.Challenge.cw_nn0148_01_holds : PySem.Challenge.rw_nn0148_01.Holds := by
  rw [Mine.eL]; exact Mine.lawN
end
