import PyProof.Rows.All
import Wide.All
import OpenK.AllK
import Wide.FinOn
import Lean
import PySem.Challenge.RW_og0082_01
open PySem PySem.W PyProof.Rows PySem.Calls
set_option Elab.async false
set_option maxRecDepth 100000
set_option maxHeartbeats 8000000
set_option linter.unusedVariables false
set_option genInjectivity false
set_option genSizeOfSpec false
set_option genSizeOf false
namespace Mine
local macro_rules | `(tactic| k_head) => `(tactic| z_head)
open_top hd for PySem.Challenge.rw_og0082_01
end Mine
namespace Mine
noncomputable def frag (P : Params) : Frag := (nat_lit 2, hd.zo_41 P) :: (nat_lit 3, hd.zo_42 P) :: (nat_lit 15, hd.zo_54 P) :: (nat_lit 17, hd.zo_56 P) :: (nat_lit 18, hd.zo_57 P) :: (nat_lit 20, hd.zo_59 P) :: (nat_lit 21, hd.zo_60 P) :: (nat_lit 29, hd.zo_61 P) :: (nat_lit 30, hd.zo_62 P) :: (nat_lit 31, hd.zo_63 P) :: (nat_lit 32, hd.zo_64 P) :: (nat_lit 34, hd.zo_66 P) :: (nat_lit 35, hd.zo_67 P) :: (nat_lit 37, hd.zo_69 P) :: (nat_lit 38, hd.zo_70 P) :: (nat_lit 39, hd.zo_71 P) :: (nat_lit 41, hd.zo_73 P) :: (nat_lit 42, hd.zo_74 P) :: (nat_lit 44, hd.zo_76 P) :: (nat_lit 45, hd.zo_77 P) :: (nat_lit 46, hd.zo_78 P) :: (nat_lit 47, hd.zo_79 P) :: (nat_lit 48, hd.zo_80 P) :: (nat_lit 49, hd.zo_81 P) :: (nat_lit 50, hd.zo_82 P) :: (nat_lit 60, hd.zo_83 P) :: (nat_lit 62, hd.zo_85 P) :: (nat_lit 63, hd.zo_86 P) :: (nat_lit 65, hd.zo_88 P) :: (nat_lit 66, hd.zo_89 P) :: (nat_lit 67, hd.zo_90 P) :: (nat_lit 69, hd.zo_92 P) :: (nat_lit 70, hd.zo_93 P) :: (nat_lit 72, hd.zo_95 P) :: (nat_lit 73, hd.zo_96 P) :: (nat_lit 74, hd.zo_97 P) :: (nat_lit 76, hd.zo_99 P) :: (nat_lit 77, hd.zo_100 P) :: (nat_lit 79, hd.zo_102 P) :: (nat_lit 80, hd.zo_103 P) :: (nat_lit 81, hd.zo_104 P) :: (nat_lit 83, hd.zo_106 P) :: (nat_lit 84, hd.zo_107 P) :: (nat_lit 86, hd.zo_109 P) :: (nat_lit 87, hd.zo_110 P) :: (nat_lit 88, hd.zo_111 P) :: (nat_lit 91, hd.zo_114 P) :: (nat_lit 92, hd.zo_115 P) :: (nat_lit 93, hd.zo_116 P) :: (nat_lit 94, hd.zo_117 P) :: (nat_lit 95, hd.zo_118 P) :: (nat_lit 96, hd.zo_119 P) :: (nat_lit 97, hd.zo_120 P) :: (nat_lit 100, hd.zo_121 P) :: (nat_lit 102, hd.zo_123 P) :: (nat_lit 103, hd.zo_124 P) :: (nat_lit 105, hd.zo_126 P) :: (nat_lit 106, hd.zo_127 P) :: (nat_lit 107, hd.zo_128 P) :: (nat_lit 110, hd.zo_131 P) :: (nat_lit 111, hd.zo_132 P) :: (nat_lit 112, hd.zo_133 P) :: (nat_lit 114, hd.zo_135 P) :: (nat_lit 115, hd.zo_136 P) :: (nat_lit 117, hd.zo_138 P) :: (nat_lit 118, hd.zo_139 P) :: (nat_lit 119, hd.zo_140 P) :: (nat_lit 121, hd.zo_142 P) :: (nat_lit 122, hd.zo_143 P) :: (nat_lit 124, hd.zo_145 P) :: (nat_lit 125, hd.zo_146 P) :: (nat_lit 126, hd.zo_147 P) :: (nat_lit 128, hd.zo_149 P) :: (nat_lit 129, hd.zo_150 P) :: (nat_lit 131, hd.zo_152 P) :: (nat_lit 132, hd.zo_153 P) :: (nat_lit 133, hd.zo_154 P) :: (nat_lit 135, hd.zo_156 P) :: (nat_lit 136, hd.zo_157 P) :: (nat_lit 138, hd.zo_159 P) :: (nat_lit 139, hd.zo_160 P) :: (nat_lit 140, hd.zo_161 P) :: (nat_lit 142, hd.zo_163 P) :: (nat_lit 143, hd.zo_164 P) :: (nat_lit 145, hd.zo_166 P) :: (nat_lit 146, hd.zo_167 P) :: (nat_lit 154, hd.zo_168 P) :: (nat_lit 155, hd.zo_169 P) :: (nat_lit 157, hd.zo_171 P) :: (nat_lit 158, hd.zo_172 P) :: (nat_lit 160, hd.zo_174 P) :: (nat_lit 161, hd.zo_175 P) :: (nat_lit 162, hd.zo_176 P) :: (nat_lit 164, hd.zo_178 P) :: (nat_lit 165, hd.zo_179 P) :: (nat_lit 167, hd.zo_181 P) :: (nat_lit 168, hd.zo_182 P) :: (nat_lit 169, hd.zo_183 P) :: (nat_lit 171, hd.zo_185 P) :: (nat_lit 172, hd.zo_186 P) :: (nat_lit 174, hd.zo_188 P) :: (nat_lit 175, hd.zo_189 P) :: (nat_lit 176, hd.zo_190 P) :: (nat_lit 177, hd.zo_191 P) :: (nat_lit 178, hd.zo_192 P) :: (nat_lit 179, hd.zo_193 P) :: (nat_lit 180, hd.zo_194 P) :: (nat_lit 183, hd.zo_195 P) :: (nat_lit 185, hd.zo_197 P) :: (nat_lit 186, hd.zo_198 P) :: (nat_lit 188, hd.zo_200 P) :: (nat_lit 189, hd.zo_201 P) :: (nat_lit 190, hd.zo_202 P) :: (nat_lit 192, hd.zo_204 P) :: (nat_lit 193, hd.zo_205 P) :: (nat_lit 195, hd.zo_207 P) :: (nat_lit 196, hd.zo_208 P) :: (nat_lit 197, hd.zo_209 P) :: (nat_lit 199, hd.zo_211 P) :: (nat_lit 200, hd.zo_212 P) :: (nat_lit 202, hd.zo_214 P) :: (nat_lit 203, hd.zo_215 P) :: (nat_lit 204, hd.zo_216 P) :: (nat_lit 206, hd.zo_218 P) :: (nat_lit 207, hd.zo_219 P) :: (nat_lit 209, hd.zo_221 P) :: (nat_lit 210, hd.zo_222 P) :: (nat_lit 211, hd.zo_223 P) :: (nat_lit 213, hd.zo_225 P) :: (nat_lit 214, hd.zo_226 P) :: (nat_lit 216, hd.zo_228 P) :: (nat_lit 217, hd.zo_229 P) :: (nat_lit 218, hd.zo_230 P) :: (nat_lit 220, hd.zo_232 P) :: (nat_lit 221, hd.zo_233 P) :: (nat_lit 223, hd.zo_235 P) :: (nat_lit 224, hd.zo_236 P) :: (nat_lit 225, hd.zo_237 P) :: (nat_lit 227, hd.zo_239 P) :: (nat_lit 228, hd.zo_240 P) :: (nat_lit 230, hd.zo_242 P) :: (nat_lit 231, hd.zo_243 P) :: (nat_lit 232, hd.zo_244 P) :: (nat_lit 235, hd.zo_247 P) :: (nat_lit 236, hd.zo_248 P) :: (nat_lit 237, hd.zo_249 P) :: (nat_lit 239, hd.zo_251 P) :: (nat_lit 240, hd.zo_252 P) :: (nat_lit 242, hd.zo_254 P) :: (nat_lit 243, hd.zo_255 P) :: (nat_lit 244, hd.zo_256 P) :: (nat_lit 247, hd.zo_259 P) :: (nat_lit 248, hd.zo_260 P) :: (nat_lit 249, hd.zo_261 P) :: (nat_lit 252, hd.zo_264 P) :: (nat_lit 253, hd.zo_265 P) :: (nat_lit 254, hd.zo_266 P) :: (nat_lit 257, hd.zo_269 P) :: (nat_lit 258, hd.zo_270 P) :: []
theorem fill0 : PySem.Challenge.rw_og0082_01 = PySem.Challenge.rw_og0082_01 ∧ frag = frag := by k_fill; exact ⟨rfl, rfl⟩
end Mine
namespace Mine
abbrev Led := List (Addr × Obj)
abbrev Loc := Str → Option Value
noncomputable abbrev pg : Program := PySem.Challenge.rw_og0082_01.row.prog
noncomputable abbrev loose0 : List Str := looseW hd.view_520 [Str.ofString "Occurs"]
def Kk (n n' : Led) : Prop := ∀ p ∈ n, p ∈ n'
def Kl (l : Addr) (n n' : Led) : Prop := ∀ p ∈ n, p.1 ≠ l → p ∈ n'
def Lw (n : Led) (l : Addr) : Prop := ∀ p ∈ n, p.1 < l
structure St : Type where
  cn : Str
  cs : Scope
  a : Addr
  ccd : Value
  cl : List (Str × Addr)
noncomputable abbrev St.env (Z : St) (L : Addr) : Env := envX Z.cn Z.cs L Z.a Z.ccd Z.cl
structure Wd : Type where
  w : World
  p : Program
  loose : List Str
  mean : ExcName → Option Value
  mg : Str → Option Value
  mb : Str → Option Value
noncomputable abbrev Wd.K (W : Wd) : Frag := frag W.w.params
structure Cx (W : Wd) (Z : St) : Type where
  A : Around
  outer : List Env
  A0 : Around
  base : Heap
  h0 : Heap
  L : Addr
  hA : A.frames = some (Z.env L :: outer)
  hh : A.handled = none
  B : Below A0 base outer h0
  X : W.K.In h0
  T : Top W.p W.loose W.mean W.mg W.mb h0
  G : CodeHd h0 124 120
  hk : Z.cs.kind = .function
section
variable {W : Wd} {Z : St}
noncomputable abbrev Cx.env (C : Cx W Z) : Env := Z.env C.L
abbrev No : Value → Shared → Prop := fun ζ ζ => False
def At (C : Cx W Z) (m : Loc) (n : Led) (h : Heap) : Prop := Fr C.h0 C.L h m ∧ News C.h0 C.L h n
def Out {α : Type} (C : Cx W Z) (m : Loc) (s : Shared) (R : α → Led → Prop) (v : α) (s' : Shared) : Prop :=
  ∃ n' h' tk', At C m n' h' ∧ R v n' ∧ s' = { s with heap := h', toks := tk' }
def OutS (C : Cx W Z) (s : Shared) (R : Flow → Loc → Led → Prop) (f : Flow) (s' : Shared) : Prop :=
  ∃ m' n' h' tk', At C m' n' h' ∧ R f m' n' ∧ s' = { s with heap := h', toks := tk' }
def Wt {α : Type} (C : Cx W Z) (m : Loc) (n : Led) (t : Sem α) (R : α → Led → Prop) : Prop :=
  ∀ s, At C m n s.heap → wpAny (model pg W.w) C.A t (Out C m s R) No s
abbrev We (C : Cx W Z) (v : Env) (m : Loc) (n : Led) (e : PySem.Expr) (R : Value → Led → Prop) : Prop := Wt C m n (eval e v) R
abbrev Wb (C : Cx W Z) (v : Env) (m : Loc) (n : Led) (e : PySem.Expr) (R : Bool → Led → Prop) : Prop := Wt C m n (PySem.isTrue e v (eval e v)) R
def Wx (C : Cx W Z) (m : Loc) (n : Led) (st : Stmt) (R : Flow → Loc → Led → Prop) : Prop :=
  ∀ s, At C m n s.heap → wpAny (model pg W.w) C.A (exec st C.env) (OutS C s R) No s
def Ws (C : Cx W Z) (m : Loc) (n : Led) (b : List Stmt) (R : Flow → Loc → Led → Prop) : Prop :=
  ∀ s, At C m n s.heap → wpAny (model pg W.w) C.A (execs b C.env) (OutS C s R) No s
variable {C : Cx W Z} {m m' : Loc} {n : Led} {α β : Type}
theorem Wt.go {t : Sem α} {R : α → Led → Prop} {Q : α → Shared → Prop} {s : Shared} (h : Wt C m n t R) (x : At C m n s.heap)
    (k : ∀ v n' h' tk', At C m n' h' → R v n' → Q v { s with heap := h', toks := tk' }) : wpAny (model pg W.w) C.A t Q No s :=
  wpAny_mono (h s x) (fun v s' o => o.elim fun n' o => o.elim fun h' o => o.elim fun tk' o => o.2.2 ▸ k v n' h' tk' o.1 o.2.1) fun ζ ζ x => x
theorem Ws.go {b : List Stmt} {R : Flow → Loc → Led → Prop} {Q : Flow → Shared → Prop} {s : Shared} (h : Ws C m n b R) (x : At C m n s.heap)
    (k : ∀ f m' n' h' tk', At C m' n' h' → R f m' n' → Q f { s with heap := h', toks := tk' }) : wpAny (model pg W.w) C.A (execs b C.env) Q No s :=
  wpAny_mono (h s x) (fun v s' o => o.elim fun m' o => o.elim fun n' o => o.elim fun h' o => o.elim fun tk' o => o.2.2 ▸ k v m' n' h' tk' o.1 o.2.1) fun ζ ζ x => x
theorem out {s : Shared} {h' : Heap} {tk' : Nat} {R : α → Led → Prop} {v : α} (x : At C m n h') (r : R v n) : Out C m s R v { s with heap := h', toks := tk' } := ⟨n, h', tk', x, r, rfl⟩
theorem outS {s : Shared} {h' : Heap} {tk' : Nat} {R : Flow → Loc → Led → Prop} {v : Flow} (x : At C m n h') (r : R v m n) : OutS C s R v { s with heap := h', toks := tk' } := ⟨m, n, h', tk', x, r, rfl⟩
theorem Wt.at {t : Sem α} {R : α → Led → Prop} (h : Wt C m n t R) {s : Shared} {h' : Heap} {tk' : Nat} (x : At C m n h') : wpAny (model pg W.w) C.A t (Out C m s R) No { s with heap := h', toks := tk' } :=
  h.go (s := { s with heap := h', toks := tk' }) x fun ζ ζ ζ ζ y r => out y r
theorem Ws.at {b : List Stmt} {R : Flow → Loc → Led → Prop} (h : Ws C m n b R) {s : Shared} {h' : Heap} {tk' : Nat} (x : At C m n h') : wpAny (model pg W.w) C.A (execs b C.env) (OutS C s R) No { s with heap := h', toks := tk' } :=
  h.go (s := { s with heap := h', toks := tk' }) x fun ζ ζ ζ ζ ζ y r => outS y r
theorem Wt.mono {t : Sem α} {R R' : α → Led → Prop} (h : Wt C m n t R) (k : ∀ v n', R v n' → R' v n') : Wt C m n t R' := fun s x => h.go x fun v n' ζ ζ y r => out y (k v n' r)
theorem Ws.mono {b : List Stmt} {R R' : Flow → Loc → Led → Prop} (h : Ws C m n b R) (k : ∀ v m' n', R v m' n' → R' v m' n') : Ws C m n b R' := fun s x => h.go x fun v m' n' ζ ζ y r => outS y (k v m' n' r)
theorem At.led {h : Heap} {n' : Led} (x : At C m n h) (k : Kk n' n) : At C m n' h := ⟨x.1, fun p hp => x.2 p (k p hp)⟩
theorem At.same {h : Heap} (x : At C m n h) {b : Addr} {o o' : Obj} (p : (b, o) ∈ n) (q : (b, o') ∈ n) : o = o' := Option.some.inj ((x.2 _ p).1.symm.trans (x.2 _ q).1)
def One (n : Led) : Prop := ∀ b o o', (b, o) ∈ n → (b, o') ∈ n → o = o'
theorem Wt.one {t : Sem α} {R : α → Led → Prop} (h : One n → Wt C m n t R) : Wt C m n t R := fun s x => h (fun ζ ζ ζ p q => x.same p q) s x
theorem Ws.one {b : List Stmt} {R : Flow → Loc → Led → Prop} (h : One n → Ws C m n b R) : Ws C m n b R := fun s x => h (fun ζ ζ ζ p q => x.same p q) s x
-- expressions
variable {v : Env} {R : Value → Led → Prop} {RB : Bool → Led → Prop}
theorem We.cint {i : Int} {k : Nat} {pos : Pos} (h : ∀ t, R (.int i t) n) : We C v m n (.Constant (.int i) k pos) R := fun s x => wpAny_Constant_int (out (tk' := s.toks + 1) x (h _))
theorem We.cstr {y : Str} {k : Nat} {pos : Pos} (h : ∀ t, R (.str y t) n) : We C v m n (.Constant (.str y) k pos) R := fun s x => Constant_str (out (tk' := s.toks + 1) x (h _))
theorem We.cnone {k : Nat} {pos : Pos} (h : R .none n) : We C v m n (.Constant .none k pos) R := fun s x => wpAny_Constant_none (out (tk' := s.toks) x h)
theorem We.cbool {b : Bool} {k : Nat} {pos : Pos} (h : R (.bool b) n) : We C v m n (.Constant (.bool b) k pos) R := fun s x => wpAny_of_eq (a := .bool b) rfl (out (tk' := s.toks) x h)
theorem We.loc {y : Str} {pos : Pos} {u : Value} (hv : m y = some u) (h : R u n) (hx : (Z.env 0).kindOf y = some .local := by rfl) (hd : (y == ("__debug__" : Str)) = false := by decide) : We C C.env m n (.Name y pos) R :=
  fun s x => nameX_L x.1 hv (out (tk' := s.toks) x h) C.hk hx hd
theorem We.glob {y : Str} {pos : Pos} {u : Value} (hv : ∀ P, nsIn (frag P) mainGlobals y = some (some u)) (h : R u n) (hx : (Z.env 0).kindOf y = some .globalImplicit := by rfl) (hd : (y == ("__debug__" : Str)) = false := by decide) : We C C.env m n (.Name y pos) R :=
  fun s x => nameX_K x.1 C.X (topRead_of C.T) (hv _) (out (tk' := s.toks) x h) C.hk hx hd
theorem We.blt {y : Str} {pos : Pos} {u : Value} (hv : ∀ P, nsIn (frag P) mainGlobals y = some none) (hb : bootBuiltins y = some u) (hn : y ≠ "__name__") (h : R u n) (hx : (Z.env 0).kindOf y = some .globalImplicit := by rfl) (hd : (y == ("__debug__" : Str)) = false := by decide) : We C C.env m n (.Name y pos) R :=
  fun s x => nameX_B x.1 C.X (topRead_of C.T) (hv _) hb hn (out (tk' := s.toks) x h) C.hk hx hd
theorem We.bin {l r : PySem.Expr} {op : Operator} {pos : Pos} (h : We C v m n l fun x n1 => We C v m n1 r fun y n2 => Wt C m n2 (binaryOp op x y) R) : We C v m n (.BinOp l op r pos) R :=
  fun ζ x => wpAny_BinOp (h.go x fun ζ ζ ζ ζ y r => r.go y fun ζ ζ ζ ζ z r => r.at z)
theorem We.cmp {l r : PySem.Expr} {op : CmpOp} {pos : Pos} (h : We C v m n l fun x n1 => We C v m n1 r fun y n2 => Wt C m n2 (compareOp op x y) R) (hb : behindInMarks op r = false := by rfl) : We C v m n (.Compare l [op] [r] pos) R :=
  fun ζ x => wpAny_Compare1 (h.go x fun ζ ζ ζ ζ y r => r.go y fun ζ ζ ζ ζ z r => r.at z) hb
theorem Wb.cmp {l r : PySem.Expr} {op : CmpOp} {pos : Pos} (h : We C v m n l fun x n1 => We C v m n1 r fun y n2 => Wt C m n2 (compareOp op x y) fun u n3 => ∃ b, u = .bool b ∧ RB b n3) (hb : behindInMarks op r = false := by rfl) : Wb C v m n (.Compare l [op] [r] pos) RB :=
  fun ζ x => wpAny_isTrue_Compare1 (h.go x fun ζ ζ ζ ζ y r => r.go y fun ζ ζ ζ ζ z r => r.go z fun ζ ζ ζ ζ u r => r.elim fun b q => q.1 ▸ wpAny_truthy_bool (out u q.2)) hb
theorem We.ife {t b o : PySem.Expr} {pos : Pos} (h : Wb C v m n t fun c n1 => if c = true then We C v m n1 b R else We C v m n1 o R) : We C v m n (.IfExp t b o pos) R :=
  fun ζ x => IfExp_ (h.go x fun c ζ ζ ζ y r => by cases c <;> exact Wt.at r y)
theorem Wb.not {e : PySem.Expr} {pos : Pos} (h : Wb C v m n e fun c n1 => RB (!c) n1) : Wb C v m n (.UnaryOp .Not e pos) RB :=
  fun ζ x => isTrue_not (h.go x fun ζ ζ ζ ζ y r => out y r)
theorem Wb.or2 {e f : PySem.Expr} {pos : Pos} (h : Wb C v m n e fun c n1 => if c = true then RB true n1 else Wb C v m n1 f RB) : Wb C v m n (.BoolOp .Or [e, f] pos) RB :=
  fun ζ x => isTrue_or (h.go x fun c ζ ζ ζ y r => by
    cases c with
    | true => exact out y r
    | false => exact isTrue_or (Wt.go r y fun c ζ ζ ζ z r => by
        cases c with
        | true => exact out z r
        | false => exact isTrue_or_nil (out z r)))
theorem Wb.and2 {e f : PySem.Expr} {pos : Pos} (h : Wb C v m n e fun c n1 => if c = true then Wb C v m n1 f RB else RB false n1) : Wb C v m n (.BoolOp .And [e, f] pos) RB :=
  fun ζ x => isTrue_and (h.go x fun c ζ ζ ζ y r => by
    cases c with
    | false => exact out y r
    | true => exact isTrue_and (Wt.go r y fun c ζ ζ ζ z r => by
        cases c with
        | false => exact out z r
        | true => exact isTrue_and_nil (out z r)))
theorem Wb.val {e : PySem.Expr} (h : We C v m n e fun u n1 => ∃ b, u = .bool b ∧ RB b n1)
    (hp : ∀ w : Sem Value, PySem.isTrue e v w = (do let u ← w; standAt e.pos; holding [u] (truthy u)) := by intro _; rfl) : Wb C v m n e RB :=
  fun ζ x => isTrue_plain (h.go x fun ζ ζ ζ ζ y r => r.elim fun b q => q.1 ▸ wpAny_truthy_bool (out y q.2)) (hp _)
end
end Mine
namespace Mine
-- dictionaries
def Fld (es : List DictEntry) (name : Str) (v : Value) : Prop := getL name es = some (some v)
def Pure (es : List DictEntry) : Prop := es.any (·.refKey) = false
theorem isStr_str {a b : Str} {t : Tok} : (Value.str a t).isStr b = (a == b) := rfl
theorem isStr_ne {k : Value} {a b : Str} (h : k.isStr a = true) (n : b ≠ a) : k.isStr b = false := by
  cases k <;> first | cases h | skip
  rename_i s t
  have h : (s == a) = true := h
  rw [beq_iff_eq] at h
  subst h
  show (s == b) = false
  exact beq_eq_false_iff_ne.mpr fun e => n e.symm
theorem find_putL {name y : Str} {hs : Int} {t : Tok} {v : Value} : ∀ es : List DictEntry, (putL name hs (.str name t) v es).find? (·.key.isStr y) = if y = name then some ⟨((es.find? (·.key.isStr name)).getD ⟨hs, .str name t, v⟩).hash, ((es.find? (·.key.isStr name)).getD ⟨hs, .str name t, v⟩).key, v⟩ else es.find? (·.key.isStr y) := by
  intro es
  induction es with
  | nil =>
    by_cases h : y = name
    · subst h; simp [putL, isStr_str]
    · simp [putL, isStr_str, h, Ne.symm h]
  | cons e r ih =>
    unfold putL
    cases q : e.key.isStr name with
    | true =>
      simp only [if_true, List.find?_cons, q]
      by_cases h : y = name
      · subst h; simp [q]
      · simp [isStr_ne q h, h]
    | false =>
      simp only [Bool.false_eq_true, if_false, List.find?_cons, q]
      rw [ih]
      by_cases h : y = name
      · subst h; simp [q]
      · simp [h]
theorem any_putL {name : Str} {hs : Int} {t : Tok} {v : Value} : ∀ es : List DictEntry, (putL name hs (.str name t) v es).any (·.refKey) = es.any (·.refKey)
  | [] => rfl
  | e :: r => by
    have ih := any_putL (name := name) (hs := hs) (t := t) (v := v) r
    unfold putL
    split
    · rfl
    · simp only [List.any_cons, ih]
theorem len_putL {name : Str} {hs : Int} {k v : Value} : ∀ es : List DictEntry, (putL name hs k v es).length ≤ es.length + 1
  | [] => Nat.le_refl _
  | e :: r => by
    have ih := len_putL (name := name) (hs := hs) (k := k) (v := v) r
    unfold putL
    split
    · exact Nat.le_succ _
    · exact Nat.succ_le_succ ih
theorem len_putL' {name : Str} {hs : Int} {k v u : Value} : ∀ es : List DictEntry, Fld es name u → (putL name hs k v es).length = es.length := by
  intro es h
  induction es with
  | nil => simp [Fld, getL] at h
  | cons e r ih =>
    unfold putL
    split
    · rfl
    · rename_i q
      have q : e.key.isStr name = false := by simpa using q
      refine congrArg (· + 1) (ih ?_)
      unfold Fld getL at h ⊢
      rw [List.find?_cons, q] at h
      dsimp only at h
      split at h
      · rename_i z hz; rw [hz]; exact h
      · split at h <;> cases h
structure Put (name : Str) (v : Value) (es es' : List DictEntry) : Prop where
  here : Fld es' name v
  there : ∀ y u, y ≠ name → Fld es y u → Fld es' y u
  gone : ∀ y, y ≠ name → getL y es = some none → getL y es' = some none
  pure : Pure es'
  len : es'.length ≤ es.length + 1
  same : ∀ u, Fld es name u → es'.length = es.length
theorem put_of {name : Str} {hs : Int} {t : Tok} {v : Value} {es : List DictEntry} (p : Pure es) : Put name v es (putL name hs (.str name t) v es) where
  here := by unfold Fld getL; rw [find_putL, if_pos rfl]
  there := fun y u h f => by
    unfold Fld getL at f ⊢
    rw [find_putL, if_neg h, any_putL]
    exact f
  gone := fun y h f => by
    unfold getL at f ⊢
    rw [find_putL, if_neg h, any_putL]
    exact f
  pure := by unfold Pure; rw [any_putL]; exact p
  len := len_putL es
  same := fun u f => len_putL' es f
theorem isSome_getL {name : Str} {es : List DictEntry} (p : Pure es) : (getL name es).isSome = true := by
  unfold getL
  split
  · rfl
  · rw [if_neg (by rw [p]; exact Bool.false_ne_true)]; rfl
def Has (n : Led) (x c dx : Addr) (es : List DictEntry) : Prop := (x, instObj c dx) ∈ n ∧ ∃ k, (dx, dictOf es k) ∈ n
def Plain (c : Addr) (name : Str) : Prop := ∀ P, plainGet (frag P) c name = true ∧ findIn (frag P) (.ref c) name = some none ∧ takerIn (frag P) c name = some none
def Cls (c : Addr) : Prop := ∀ P, hasDictIn (frag P) c = true ∧ findIn (frag P) (.ref c) "__setattr__" = some (some (.builtin "object.__setattr__")) ∧ plainOver (frag P) c = true
def Meth (c : Addr) (name : Str) (f : Addr) : Prop := ∀ P, plainGet (frag P) c name = true ∧ findIn (frag P) (.ref c) name = some (some (.ref f)) ∧ isFn (frag P) (.ref f) = true ∧ keepIn (frag P) (.ref f) = true
section
variable {W : Wd} {Z : St} {C : Cx W Z} {m : Loc} {n : Led} {v : Env}
theorem At.inst {h : Heap} {x c dx : Addr} {es : List DictEntry} (y : At C m n h) (H : Has n x c dx es) : ∃ k, InstAt h x (instObj c dx) c (some (dictOf es k)) :=
  H.2.elim fun k q => ⟨k, InstAt.of_news y.2 H.1 q⟩
theorem Wt.get {x c dx : Addr} {es : List DictEntry} {name : Str} {u : Value} {b : Bool} {R : Value → Led → Prop} (H : Has n x c dx es) (hc : Cls c) (hp : Plain c name) (f : Fld es name u) (hu : handedIn u = true) (r : R u n) :
    Wt C m n (getAttr (.ref x) name b) R := fun s y => (y.inst H).elim fun k I =>
  get_own y.1 C.X I (hp _).1 (hc _).1 (hp _).2.1 rfl f hu (out (tk' := s.toks + 1) y r)
theorem Wt.meth {x c dx f : Addr} {es : List DictEntry} {name : Str} {pl : Sem Bool} {R : Value × List Value → Led → Prop} (H : Has n x c dx es) (hm : Meth c name f) (g : getL name es = some none) (r : R (.ref f, [.ref x]) n) :
    Wt C m n (getMethod (.ref x) name pl) R := fun s y => (y.inst H).elim fun k I =>
  method_inst y.1 C.X I (hm _).1 (hm _).2.1 (hm _).2.2.1 g (out (tk' := s.toks) y r)
theorem At.turn {h : Heap} {D : Addr} {o : Obj} (y : At C m n h) (hm : (D, o) ∈ n) : At C m ((D, o) :: n.filter fun p => p.1 != D) h :=
  y.led fun p hp => by
    rcases List.mem_cons.mp hp with rfl | hp
    · exact hm
    · exact (List.mem_filter.mp hp).1
theorem off_filter {D : Addr} : ∀ p ∈ n.filter fun p => p.1 != D, p.1 ≠ D := fun p hp => by simpa using (List.mem_filter.mp hp).2
theorem in_filter {D : Addr} {p : Addr × Obj} {o : Obj} (hp : p ∈ n) (h : p.1 ≠ D) : p ∈ (D, o) :: n.filter fun p => p.1 != D := .tail _ (List.mem_filter.mpr ⟨hp, by simpa using h⟩)
structure Turn (n n' : Led) (D : Addr) (o : Obj) : Prop where
  here : (D, o) ∈ n'
  there : Kl D n n'
  back : Kl D n' n
  only : ∀ p ∈ n', p.1 = D → p.2 = o
theorem turn_of {D : Addr} {o : Obj} : Turn n ((D, o) :: n.filter fun p => p.1 != D) D o where
  here := .head _
  there := fun ζ hp h => in_filter hp h
  back := fun p hp h => by
    rcases List.mem_cons.mp hp with rfl | hp
    · exact absurd rfl h
    · exact (List.mem_filter.mp hp).1
  only := fun p hp h => by
    rcases List.mem_cons.mp hp with rfl | hp
    · rfl
    · exact absurd h (off_filter p hp)
theorem Wt.set {x c dx : Addr} {es : List DictEntry} {k : Nat} {name : Str} {u : Value} {R : Unit → Led → Prop} (hx : (x, instObj c dx) ∈ n) (hd : (dx, dictOf es k) ∈ n) (hc : Cls c) (hp : Plain c name) (p : Pure es) (hz : es.length ≤ 900)
    (r : ∀ es' k' n', Put name u es es' → Turn n n' dx (dictOf es' k') → R () n') : Wt C m n (setAttr (.ref x) name u) R := fun s y => by
  have y' := y.turn hd
  have ne : x ≠ dx := fun e => by have q := y.same (e ▸ hx) hd; cases q
  refine set_dict y'.1 C.X y'.2 (InstAt.of_news y'.2 (in_filter hx ne) (.head _)) rfl (hc _).2.1 (hc _).2.2 (hp _).2.2 (hc _).1 (isSome_getL p) rfl (.head off_filter) (Nat.le_trans (len_putL es) (by omega)) fun h' F N => ?_
  exact out (tk' := s.toks + 2) ⟨F, N⟩ (r _ _ _ (put_of p) turn_of)
-- calls
def Wa (C : Cx W Z) (v : Env) (m : Loc) (n : Led) (pos : Pos) (es : List PySem.Expr) (R : List Value → Led → Prop) : Prop := Wt C m n (spliced (backTo pos (starEach es v))) R
theorem Wa.nil {pos : Pos} {R : List Value → Led → Prop} (r : R [] n) : Wa C v m n pos [] R := fun s y => spliced_none (out (tk' := s.toks) y r)
theorem Wa.cons {pos : Pos} {e : PySem.Expr} {es : List PySem.Expr} {R : List Value → Led → Prop} (h : We C v m n e fun u n1 => Wa C v m n1 pos es fun us n2 => R (u :: us) n2)
    (hs : starEach (e :: es) v = (false, eval e v) :: starEach es v := by rfl) : Wa C v m n pos (e :: es) R :=
  fun ζ y => spliced_more (h.go y fun ζ ζ ζ ζ z r => Wt.go r z fun ζ ζ ζ ζ u r => out u r) hs
theorem We.fn {fe : PySem.Expr} {e : PySem.Expr} {es : List PySem.Expr} {pos : Pos} {f : Addr} {R : Value → Led → Prop} (hk : ∀ P, keepIn (frag P) (.ref f) = true)
    (h : We C v m n fe fun u n1 => u = .ref f ∧ Wa C v m n1 pos (e :: es) fun us n2 => Wt C m n2 (call (.ref f) us) R)
    (h1 : eval (fe.Call (e :: es) [] pos) v = (do let f ← eval fe v; callWith pos f [] (backTo pos (starEach (e :: es) v)) (backToKw pos (keywordEach [] v))) := by rfl)
    (h2 : starEach (e :: es) v = (false, eval e v) :: starEach es v := by rfl) (h3 : ((backTo pos (starEach es v)).any (·.1)) = false := by rfl) : We C v m n (fe.Call (e :: es) [] pos) R :=
  fun ζ x => Call_ (h.go x fun ζ ζ ζ ζ y r => r.1 ▸ callWith_K C.X (hk _) (Wt.go r.2 y fun ζ ζ ζ ζ z q => ⟨C.X.keeps z.1.keep, q.at z⟩) h2 h3) h1
theorem We.fn0 {fe : PySem.Expr} {pos : Pos} {f : Addr} {R : Value → Led → Prop} (hk : ∀ P, keepIn (frag P) (.ref f) = true)
    (h : We C v m n fe fun u n1 => u = .ref f ∧ Wt C m n1 (call (.ref f) []) R)
    (h1 : eval (fe.Call [] [] pos) v = (do let f ← eval fe v; callWith pos f [] (backTo pos (starEach [] v)) (backToKw pos (keywordEach [] v))) := by rfl) : We C v m n (fe.Call [] [] pos) R :=
  fun ζ x => Call_ (h.go x fun ζ ζ ζ ζ y r => r.1 ▸ callWith_K0 (C.X.keeps y.1.keep) (hk _) (r.2.at y)) h1
theorem We.bi {fe : PySem.Expr} {e : PySem.Expr} {es : List PySem.Expr} {pos : Pos} {id : String} {R : Value → Led → Prop}
    (h : We C v m n fe fun u n1 => u = .builtin id ∧ Wa C v m n1 pos (e :: es) fun us n2 => Wt C m n2 (call (.builtin id) us) R)
    (h1 : eval (fe.Call (e :: es) [] pos) v = (do let f ← eval fe v; callWith pos f [] (backTo pos (starEach (e :: es) v)) (backToKw pos (keywordEach [] v))) := by rfl)
    (h2 : starEach (e :: es) v = (false, eval e v) :: starEach es v := by rfl) (h3 : ((backTo pos (starEach es v)).any (·.1)) = false := by rfl) : We C v m n (fe.Call (e :: es) [] pos) R :=
  fun ζ x => Call_ (h.go x fun ζ ζ ζ ζ y r => r.1 ▸ PyProof.Rows.callWith_builtin1 (Wt.go r.2 y fun ζ ζ ζ ζ z q => q.at z) h2 h3) h1
theorem We.ty {fe : PySem.Expr} {e : PySem.Expr} {es : List PySem.Expr} {pos : Pos} {id : String} {R : Value → Led → Prop}
    (h : We C v m n fe fun u n1 => u = .type id ∧ Wa C v m n1 pos (e :: es) fun us n2 => Wt C m n2 (call (.type id) us) R)
    (h1 : eval (fe.Call (e :: es) [] pos) v = (do let f ← eval fe v; callWith pos f [] (backTo pos (starEach (e :: es) v)) (backToKw pos (keywordEach [] v))) := by rfl)
    (h2 : starEach (e :: es) v = (false, eval e v) :: starEach es v := by rfl) (h3 : ((backTo pos (starEach es v)).any (·.1)) = false := by rfl) : We C v m n (fe.Call (e :: es) [] pos) R :=
  fun ζ x => Call_ (h.go x fun ζ ζ ζ ζ y r => r.1 ▸ PyProof.Rows.callWith_type1 (Wt.go r.2 y fun ζ ζ ζ ζ z q => q.at z) h2 h3) h1
theorem We.me {o : PySem.Expr} {name : Str} {ap pos : Pos} {e : PySem.Expr} {es : List PySem.Expr} {pl : Sem Bool} {R : Value → Led → Prop}
    (h : We C v m n o fun ov n1 => Wt C m n1 (getMethod ov name pl) fun fx n2 => ∃ f x, fx = (.ref f, [x]) ∧ (∀ P, keepIn (frag P) (.ref f) = true) ∧ Wa C v m n2 pos (e :: es) fun us n3 => Wt C m n3 (call (.ref f) (x :: us)) R)
    (h1 : eval ((o.Attribute name ap).Call (e :: es) [] pos) v = (do let ov ← eval o v; standAt ap.atName; let x ← holding [ov] (getMethod ov name pl); match x with | (f, first) => callWith pos f first (backTo pos (starEach (e :: es) v)) []) := by rfl)
    (h2 : starEach (e :: es) v = (false, eval e v) :: starEach es v := by rfl) (h3 : ((backTo pos (starEach es v)).any (·.1)) = false := by rfl) : We C v m n ((o.Attribute name ap).Call (e :: es) [] pos) R :=
  fun ζ x => MethodCall_ (h.go x fun ζ ζ ζ ζ y r => r.go y fun ζ ζ ζ ζ z r => r.elim fun f r => r.elim fun x r => by
    rw [r.1]
    exact callWith_K C.X (r.2.1 _) (Wt.go r.2.2 z fun ζ ζ ζ ζ z q => ⟨C.X.keeps z.1.keep, q.at z⟩) h2 h3) h1
theorem We.me0 {o : PySem.Expr} {name : Str} {ap pos : Pos} {pl : Sem Bool} {R : Value → Led → Prop}
    (h : We C v m n o fun ov n1 => Wt C m n1 (getMethod ov name pl) fun fx n2 => ∃ f x, fx = (.ref f, [x]) ∧ (∀ P, keepIn (frag P) (.ref f) = true) ∧ Wt C m n2 (call (.ref f) [x]) R)
    (h1 : eval ((o.Attribute name ap).Call [] [] pos) v = (do let ov ← eval o v; standAt ap.atName; let x ← holding [ov] (getMethod ov name pl); match x with | (f, first) => callWith pos f first (backTo pos (starEach [] v)) []) := by rfl) : We C v m n ((o.Attribute name ap).Call [] [] pos) R :=
  fun ζ x => MethodCall_ (h.go x fun ζ ζ ζ ζ y r => r.go y fun ζ ζ ζ ζ z r => r.elim fun f r => r.elim fun x r => by
    rw [r.1]
    exact callWith_K0 (C.X.keeps z.1.keep) (r.2.1 _) (r.2.2.at z)) h1
theorem We.li {o : PySem.Expr} {name : Str} {ap pos : Pos} {e : PySem.Expr} {es : List PySem.Expr} {pl : Sem Bool} {id : String} {R : Value → Led → Prop} (slot : Slot "list" name id) (ty : typeOf (.builtin id) = pure (.type "method_descriptor"))
    (h : We C v m n o fun ov n1 => ∃ D its k, ov = .ref D ∧ (D, listOf its k) ∈ n1 ∧ Wa C v m n1 pos (e :: es) fun us n3 => Wt C m n3 (call (.builtin id) (.ref D :: us)) R)
    (h1 : eval ((o.Attribute name ap).Call (e :: es) [] pos) v = (do let ov ← eval o v; standAt ap.atName; let x ← holding [ov] (getMethod ov name pl); match x with | (f, first) => callWith pos f first (backTo pos (starEach (e :: es) v)) []) := by rfl)
    (h2 : starEach (e :: es) v = (false, eval e v) :: starEach es v := by rfl) (h3 : ((backTo pos (starEach es v)).any (·.1)) = false := by rfl) : We C v m n ((o.Attribute name ap).Call (e :: es) [] pos) R :=
  fun ζ x => MethodCall_ (h.go x fun ζ ζ ζ ζ y r => r.elim fun D r => r.elim fun its r => r.elim fun k r => by
    rw [r.1]
    exact kl_method y.2 r.2.1 slot ty (callWith_method1 (Wt.go r.2.2 y fun ζ ζ ζ ζ z q => q.at z) h2 h3)) h1
end
end Mine
namespace Mine
section
variable {W : Wd} {Z : St} {C : Cx W Z} {m : Loc} {n : Led} {R : Flow → Loc → Led → Prop}
abbrev upd (m : Loc) (y : Str) (u : Value) : Loc := fun z => if z = y then some u else m z
def Then (C : Cx W Z) (rest : List Stmt) (R : Flow → Loc → Led → Prop) (f : Flow) (m' : Loc) (n' : Led) : Prop := match f with
  | .next => Ws C m' n' rest R
  | f => R f m' n'
theorem Ws.nil (r : R .next m n) : Ws C m n [] R := fun s y => wpAny_execs_nil (outS (tk' := s.toks) y r)
theorem Ws.asg {y : Str} {p pos : Pos} {e : PySem.Expr} {rest : List Stmt} (h : We C C.env m n e fun u n1 => Ws C (upd m y u) n1 rest R) (hx : (Z.env 0).kindOf y = some .local := by rfl)
    (hs : swapsWith e (some (.Name y p)) pos.line C.env = Pure.pure false := by rfl) : Ws C m n (.Assign [.Name y p] e pos :: rest) R :=
  fun s x => wpAny_execs_cons (wpAny_Assign_Name (h.go x fun u n1 h' tk' z r => storeX_L z.1 z.2 (fun h2 F N => Ws.at (tk' := tk' + 1) r ⟨F, N⟩) C.hk hx) hs)
theorem Ws.seta {o e : PySem.Expr} {name : Str} {p pos : Pos} {rest : List Stmt} (h : We C C.env m n e fun u n1 => We C C.env m n1 o fun ov n2 => Wt C m n2 (setAttr ov name u) fun ζ n3 => Ws C m n3 rest R)
    (hs : swapsWith e (some (o.Attribute name p)) pos.line C.env = Pure.pure false := by rfl) : Ws C m n (.Assign [.Attribute o name p] e pos :: rest) R :=
  fun s x => wpAny_execs_cons (plainObj_wpAny_Assign_Attribute (h.go x fun ζ ζ ζ ζ z r => r.go z fun ζ ζ ζ ζ z r => r.go z fun ζ ζ ζ ζ z r => Ws.at r z) hs)
theorem Ws.ex {e : PySem.Expr} {pos : Pos} {rest : List Stmt} (h : We C C.env m n e fun u n1 => match u with | .ref _ => False | _ => Ws C m n1 rest R)
    (hi : interactive C.env = false := by rfl) (hs : swapsWith e Option.none pos.line C.env = Pure.pure false := by rfl) : Ws C m n (.Expr e pos :: rest) R :=
  fun s x => wpAny_execs_cons (wpAny_Expr (h.go x fun u ζ ζ ζ z r => by
    cases u with
    | ref _ => exact r
    | _ => exact Ws.at r z) hi hs)
theorem Ws.ret {e : PySem.Expr} {pos : Pos} {rest : List Stmt} (h : We C C.env m n e fun u n1 => R (.ret u) m n1) : Ws C m n (.Return (some e) pos :: rest) R :=
  fun s x => wpAny_execs_cons (wpAny_Return_some (h.go x fun ζ ζ ζ ζ z r => outS z r))
theorem Ws.cont {pos : Pos} {rest : List Stmt} (r : R .cont m n) : Ws C m n (.Continue pos :: rest) R := fun s x => wpAny_execs_cons (wpAny_Continue (outS (tk' := s.toks) x r))
theorem Ws.thenAt {b rest : List Stmt} (h : Ws C m n b (Then C rest R)) {s : Shared} {h' : Heap} {tk' : Nat} (z : At C m n h') :
    wpAny (model pg W.w) C.A (execs b C.env) (fun f s' => match f with | .next => wpAny (model pg W.w) C.A (execs rest C.env) (OutS C s R) No s' | f => OutS C s R f s') No { s with heap := h', toks := tk' } :=
  h.go (s := { s with heap := h', toks := tk' }) z fun f ζ ζ ζ ζ z r => by
    cases f with
    | next => exact Ws.at r z
    | _ => exact outS z r
theorem Ws.ite {t : PySem.Expr} {b o : List Stmt} {pos : Pos} {rest : List Stmt} (h : Wb C C.env m n t fun c n1 => if c = true then Ws C m n1 b (Then C rest R) else Ws C m n1 o (Then C rest R)) : Ws C m n (.If t b o pos :: rest) R :=
  fun s x => wpAny_execs_cons (wpAny_If (h.go x fun c ζ ζ ζ z r => by
    cases c with
    | true => exact Ws.thenAt r z
    | false => exact Ws.thenAt r z))
-- lists, tuples
variable {RV : Value → Led → Prop} {v : Env}
theorem At.lt {h : Heap} (y : At C m n h) {p : Addr × Obj} (hp : p ∈ n) : p.1 < h.objs.size := Heap.lt_size (y.2 p hp).1
theorem Wt.newList {us : List Value} (hz : us.length ≤ 1000) (r : ∀ l, (Lw n l) → RV (.ref l) ((l, listOf us.toArray 0) :: n)) : Wt C m n (newList us) RV :=
  fun s y => newList_K y.1 y.2 (fun l h' F N lt => out (tk' := s.toks) ⟨F, N⟩ (r l lt)) (by rw [sizeLine_eq]; omega)
abbrev tupOf (us : List Value) : Obj := { cls := .type "tuple", data := .seq us.toArray }
theorem Wt.newTuple {us : List Value} (hz : us.length ≤ 1000) (r : ∀ l, (Lw n l) → RV (.ref l) ((l, tupOf us) :: n)) : Wt C m n (newTuple us) RV :=
  fun s y => newTuple_N y.1 y.2 (fun h' F N => out (tk' := s.toks) ⟨F, N⟩ (r _ fun p hp => y.lt hp)) (by rw [sizeLine_eq]; omega)
theorem We.list {es : List PySem.Expr} {pos : Pos} (h : Wa C v m n pos es fun us n1 => Wt C m n1 (PySem.newList us) RV) : We C v m n (.List es pos) RV := fun s y => List_ (Wt.go h y fun ζ ζ ζ ζ z r => r.at z)
theorem We.tup {es : List PySem.Expr} {k : Nat} {pos : Pos} (h : Wa C v m n pos es fun us n1 => Wt C m n1 (PySem.newTuple us) RV) : We C v m n (.Tuple es k pos) RV := fun s y => Tuple_ (Wt.go h y fun ζ ζ ζ ζ z r => r.at z)
theorem We.sub {e i : PySem.Expr} {pos : Pos} (h : We C v m n e fun u n1 => We C v m n1 i fun k n2 => Wt C m n2 (subscriptTail e i u k) RV) : We C v m n (.Subscript e i pos) RV :=
  fun s y => Subscript_ (h.go y fun ζ ζ ζ ζ z r => r.go z fun ζ ζ ζ ζ z r => r.at z)
theorem Wt.len {l : Addr} {its : List Value} {k : Nat} (hl : (l, listOf its.toArray k) ∈ n) (hz : its.length ≤ 100000) (r : ∀ t, RV (.int its.length t) n) : Wt C m n (call (.builtin "len") [.ref l]) RV :=
  fun s y => len_list (News.isList y.2 hl) (by simp only [List.size_toArray]; omega) (out (tk' := s.toks + 1 + 1) y (by simpa only [List.size_toArray] using r (s.toks + 1)))
theorem Wt.itemL {e i : PySem.Expr} {l : Addr} {its : List Value} {k : Nat} {x : Int} {u : Tok} {w : Value} (hl : (l, listOf its.toArray k) ∈ n) (h0 : 0 ≤ x) (h1 : x < 100000) (hi : its[x.toNat]? = some w) (r : RV w n)
    (hs : subscripted i false (.ref l) (.int x u) = operate [.ref l, .int x u] (getItem (.ref l) (.int x u)) := by with_unfolding_all rfl) (hg : ∀ r, letTemporaryGo e (.ref l) r = Pure.pure () := by intro _; with_unfolding_all rfl) :
    Wt C m n (subscriptTail e i (.ref l) (.int x u)) RV := fun s y => item_listL (News.isList y.2 hl) h0 (by omega) hi (out (tk' := s.toks) y r) hs hg
theorem seqIndex_in {x : Int} {k : Nat} (h0 : 0 ≤ x) (h1 : x < k) : seqIndex? x k = some x.toNat := by
  unfold seqIndex?
  simp only [show ¬ x < 0 from by omega, if_false]
  simp [h0, h1]
theorem Wt.itemT {e i : PySem.Expr} {l : Addr} {its : List Value} {x : Int} {u : Tok} {w : Value} (hl : (l, tupOf its) ∈ n) (h0 : 0 ≤ x) (h1 : x < 100000) (hi : its[x.toNat]? = some w) (r : RV w n)
    (hs : subscripted i false (.ref l) (.int x u) = operate [.ref l, .int x u] (getItem (.ref l) (.int x u)) := by with_unfolding_all rfl) :
    Wt C m n (subscriptTail e i (.ref l) (.int x u)) RV := fun s y =>
  item_tupleT (News.isTup y.2 hl) (by omega) (by omega) (seqIndex_in h0 (by have := (List.getElem?_eq_some_iff.mp hi).1; omega)) hi (out (tk' := s.toks) y r) hs
theorem Wt.append {D : Addr} {its : List Value} {k : Nat} {x : Value} (hm : (D, listOf its.toArray k) ∈ n) (hz : its.length ≤ 100000) (r : ∀ n', Turn n n' D (listOf (its ++ [x]).toArray (k + 1)) → RV .none n') :
    Wt C m n (call (.builtin "list.append") [.ref D, x]) RV := fun s y => by
  have y' := y.turn hm
  refine append_K y'.1 y'.2 (.head off_filter) (fun h' F N => ?_) (by rw [sizeLine_eq, List.size_toArray]; omega)
  rw [List.push_toArray] at N
  exact out (tk' := s.toks) ⟨F, N⟩ (r _ turn_of)
theorem Wt.extend {D b : Addr} {its its2 : List Value} {k k2 : Nat} (hm : (D, listOf its.toArray k) ∈ n) (hb : (b, listOf its2.toArray k2) ∈ n) (hD : D ≠ b) (hz : its.length + its2.length ≤ 100000) (r : ∀ n' k', Turn n n' D (listOf (its ++ its2).toArray k') → RV .none n') :
    Wt C m n (call (.builtin "list.extend") [.ref D, .ref b]) RV := fun s y => by
  have y' := y.turn hm
  have hb' := in_filter (o := listOf its.toArray k) hb (Ne.symm hD)
  have hlong : ¬(!its.toArray.isEmpty && Builtin.List.listTooLong (its.toArray.size + its2.toArray.size)) = true := by
    simp only [List.size_toArray, Builtin.List.listTooLong, Bool.and_eq_true, Bool.not_eq_true', decide_eq_true_eq, not_and]
    intro _
    first | omega | (rw [sizeLine_eq]; omega)
  have e2 : its2 = [] ∨ its2 ≠ [] := by cases its2 <;> simp
  rcases e2 with e2 | e2
  · subst e2
    refine kxn_extend y'.1 y'.2 hb' rfl (.head off_filter) hlong (by rw [sizeLine_eq]; simp only [List.length_nil] at hz; simp; omega) (by rw [sizeLine_eq]; simp only [List.size_toArray]; simp only [List.length_nil] at hz ⊢; omega) (fun h' F N => ?_)
    exact out (tk' := s.toks) ⟨F, N⟩ (r _ k (by rw [List.append_nil]; exact turn_of))
  · refine kl_extend y'.1 y'.2 hb' (l := its ++ its2) rfl (by simpa using e2) (.head off_filter) hlong (by rw [sizeLine_eq]; simp; omega) (by rw [sizeLine_eq]; simp only [List.size_toArray]; omega) (fun h' F N => ?_)
    exact out (tk' := s.toks) ⟨F, N⟩ (r _ (k + 1) turn_of)
theorem Wt.cat {l b : Addr} {its its2 : List Value} {k k2 : Nat} (hm : (l, listOf its.toArray k) ∈ n) (hb : (b, listOf its2.toArray k2) ∈ n) (hz : its.length + its2.length ≤ 100000) (r : ∀ D, (Lw n D) → RV (.ref D) ((D, listOf (its ++ its2).toArray 0) :: n)) :
    Wt C m n (binaryOp .Add (.ref l) (.ref b)) RV := fun s y =>
  add_arrays y.1 y.2 (News.isList y.2 hm) (News.isList y.2 hb) (fun h' F N => out (tk' := s.toks) ⟨F, N⟩ (r _ fun p hp => y.lt hp)) (by rw [sizeLine_eq]; simp only [List.size_toArray]; omega)
-- ints, words
theorem Wt.add {x y : Int} {t u : Tok} (r : ∀ t, RV (.int (x + y) t) n) : Wt C m n (binaryOp .Add (.int x t) (.int y u)) RV := fun s z => add_int (out (tk' := s.toks + 1) z (r _))
theorem Wt.sub {x y : Int} {t u : Tok} (r : ∀ t, RV (.int (x - y) t) n) : Wt C m n (binaryOp .Sub (.int x t) (.int y u)) RV := fun s z => sub_int (out (tk' := s.toks + 1) z (r _))
theorem Wt.mul {x y : Int} {t u : Tok} (h0 : -100000000 < x) (h1 : x < 100000000) (r : ∀ t, RV (.int (x * y) t) n) : Wt C m n (binaryOp .Mult (.int x t) (.int y u)) RV :=
  fun s z => mul_int (out (tk' := s.toks + 1) z (r _)) (IntMulOk.of_left (intBits_le_64 (by omega) (by omega)))
theorem Wt.mod {x y : Int} {t u : Tok} (h : y ≠ 0) (r : ∀ t, RV (.int (x.fmod y) t) n) : Wt C m n (binaryOp .Mod (.int x t) (.int y u)) RV := fun s z => mod_int h (out (tk' := s.toks + 1) z (r _))
theorem Wt.eqI {x y : Int} {t u : Tok} (r : RV (.bool (x == y)) n) : Wt C m n (compareOp .Eq (.int x t) (.int y u)) RV := fun s z => eq_int (out (tk' := s.toks) z r)
theorem Wt.neI {x y : Int} {t u : Tok} (r : RV (.bool (x != y)) n) : Wt C m n (compareOp .NotEq (.int x t) (.int y u)) RV := fun s z => ne_int (out (tk' := s.toks) z r)
theorem Wt.gtI {x y : Int} {t u : Tok} (r : RV (.bool (decide (y < x))) n) : Wt C m n (compareOp .Gt (.int x t) (.int y u)) RV := fun s z => gt_int (out (tk' := s.toks) z r)
theorem Wt.ltI {x y : Int} {t u : Tok} (r : RV (.bool (decide (x < y))) n) : Wt C m n (compareOp .Lt (.int x t) (.int y u)) RV := fun s z => lt_int (out (tk' := s.toks) z r)
theorem Wt.eqS {x y : Str} {t u : Tok} (r : RV (.bool (x == y)) n) : Wt C m n (compareOp .Eq (.str x t) (.str y u)) RV := fun s z => eq_str (out (tk' := s.toks) z r)
theorem Wt.neS {x y : Str} {t u : Tok} (r : RV (.bool (x != y)) n) : Wt C m n (compareOp .NotEq (.str x t) (.str y u)) RV := fun s z => ne_str (out (tk' := s.toks) z r)
theorem Wt.isN (r : RV (.bool true) n) : Wt C m n (compareOp .Is .none .none) RV := fun s z => is_none_none (out (tk' := s.toks) z r)
theorem Wt.isR {x : Addr} (r : RV (.bool false) n) : Wt C m n (compareOp .Is (.ref x) .none) RV := fun s z => is_ref_none (out (tk' := s.toks) z r)
theorem Wt.notN (r : RV (.bool false) n) : Wt C m n (compareOp .IsNot .none .none) RV := fun s z => isnot_none_none (out (tk' := s.toks) z r)
theorem Wt.notR {x : Addr} (r : RV (.bool true) n) : Wt C m n (compareOp .IsNot (.ref x) .none) RV := fun s z => isnot_ref_none (out (tk' := s.toks) z r)
-- calls of the text's defs and classes
def Does (W : Wd) (f : Addr) (args : List Value) (d u : Nat) (n : Led) (Post : Value → Led → Prop) : Prop :=
  ∀ {Z : St} (C : Cx W Z) (m : Loc), C.A.depth + d < recursionLimit → C.A.units + u < cLine → Wt C m n (call (.ref f) args) Post
def back (fl : Flow) : Value := match fl with | .ret v => v | _ => .none
theorem body_of {R : Result → Shared → Prop} {f : Addr} {qual : Str} {scope : Scope} {cdv : Value} {body : List Stmt} {binds : List (Str × Value)} {n0 : Led} {s : Shared} {A : Around} {g : Heap} {L' : Addr} {h₁ : Heap} {tk : Nat} {Post : Flow → Led → Prop}
    (y : At C m n0 s.heap) (hA : A.frames = some (C.env :: C.outer)) (hh : A.handled = none) (F' : Fr g L' h₁ fun y => binds.reverse.lookup y) (N' : News g L' h₁ n) (B' : Below A C.base (C.env :: C.outer) g) (st : C.h0.StaysIn g) (hk : scope.kind = .function)
    (h : ∀ C' : Cx W ⟨qual, scope, f, cdv, []⟩, C'.A.depth = A.depth + 1 → C'.A.units = A.units + 3 → Ws C' (fun y => binds.reverse.lookup y) n body fun fl ζ n' => Post fl n')
    (k : ∀ fl n' h' tk', Fr C.h0 C.L h' m → News C.h0 C.L h' n' → Post fl n' → R (.ok (.ret (back fl))) { s with heap := h', toks := tk' }) :
    wpAny (model pg W.w) (A.deeper (envX qual scope L' f cdv [])) (execs body (envX qual scope L' f cdv [])) (fun fl s' => LeaveK C.h0 C.L m g R (match fl with | .ret v => v | _ => .none) s')
      (fun e s' => wpAny (model pg W.w) (A.deeper (envX qual scope L' f cdv [])) (leaving (envX qual scope L' f cdv []) e) (fun x s'' => R (.error e) s'') (fun e' s'' => R (.error e') s'') s') { s with heap := h₁, toks := tk } := by
  let C' : Cx W ⟨qual, scope, f, cdv, []⟩ := { A := A.deeper (envX qual scope L' f cdv []), outer := C.env :: C.outer, A0 := A, base := C.base, h0 := g, L := L', hA := Around.frames_deeper hA, hh := hh, B := B', X := C.X.keeps st, T := C.T.keeps st, G := C.G.keeps st, hk := hk }
  refine wpAny_mono (Ws.go (C := C') (Q := fun fl s' => LeaveK C.h0 C.L m g R (match fl with | .ret v => v | _ => .none) s') (s := { s with heap := h₁, toks := tk }) (h C' rfl rfl) ⟨F', N'⟩ fun fl m' n' h' tk' z r => ?_) (fun ζ ζ x => x) fun ζ ζ x => x.elim
  exact leaveK_ z.1 z.2 fun F2 N2 => k fl n' h' tk' F2 N2 r
theorem room {a b c d m : Nat} (e : a = b + c) (h : b + (d + c) < m) : a + d < m := by rw [e, Nat.add_assoc, Nat.add_comm c]; exact h
theorem enter {f : Addr} {name qual : Str} {params : Arguments} {body : List Stmt} {scope : Scope} {dV kV doc pm cdv ct oc : Value} {an od : Option Addr} {osl : Array (Option Value)} {args : List Value} {binds : List (Str × Value)} {d u : Nat} {Post : Value → Led → Prop}
    (ho : ∀ P, (frag P).lookup f = some ⟨oc, od, .func (fnOf name qual params body scope dV kV doc pm an cdv ct), osl⟩) (hcd : ∀ P, codeIn (frag P) cdv qual = true)
    (hb : ∀ (s : Shared) P, (frag P).In s.heap → BindsTo s (fnOf name qual params body scope dV kV doc pm an cdv ct) ⟨args, []⟩ binds)
    (hl : (binds.all fun x => decide (scope.names.lookup x.1 = some .local)) = true)
    (h : ∀ C : Cx W ⟨qual, scope, f, cdv, []⟩, C.A.depth + d < recursionLimit → C.A.units + u < cLine → Ws C (fun y => binds.reverse.lookup y) n body fun fl ζ n' => Post (back fl) n')
    (c1 : scope.isCoroutine = false := by rfl) (c2 : scope.isGenerator = false := by rfl) (c3 : scope.kind = .function := by rfl) (c4 : ∀ x ∈ scope.names, x.2 ≠ .cell := by decide) : Does W f args (d + 1) (u + 3) n Post := by
  intro Z C m hd hu s y
  have XX := C.X.keeps y.1.keep
  refine wpAny_call (callX_plain (cl := []) C.B y.1 y.2 C.T.nolimit C.hA rfl C.hk (XX _ _ (ho _)) rfl (codeRec_of XX (hcd _)) (Nat.lt_of_le_of_lt (Nat.le_add_right _ _) hd) (hb _ _ XX) (locs hl) (fun g L' h₁ FG F' N' B' st lt => ?_) c4 c1 c2 c3)
  exact body_of (Post := fun fl n' => Post (back fl) n') y C.hA C.hh F' N' B' st c3 (fun C' e1 e2 => h C' (room e1 hd) (room e2 hu)) fun fl n' h' tk' F2 N2 r => out (tk' := tk') ⟨F2, N2⟩ r
theorem units_make (A : Around) (c : Addr) (args : List Value) : (A.under (.builtin "type.__call__" { pos := .ref c :: args })).units = A.units + (Code.builtin "type.__call__" { pos := .ref c :: args }).cUnits := rfl
theorem cUnits_make (c : Addr) (args : List Value) : (Code.builtin "type.__call__" { pos := .ref c :: args }).cUnits = 1 := by rfl
theorem make {c fI : Addr} {name qual : Str} {params : Arguments} {body : List Stmt} {scope : Scope} {dV kV doc pm cdv ct oc : Value} {an od : Option Addr} {osl : Array (Option Value)} {args : List Value} {binds : Addr → List (Str × Value)} {d u : Nat} {Post : Value → Led → Prop}
    (hm : ∀ P, makesIn (frag P) c = true) (hi : ∀ P, findIn (frag P) (.ref c) "__init__" = some (some (.ref fI))) (hf : ∀ P, isFn (frag P) (.ref fI) = true)
    (ho : ∀ P, (frag P).lookup fI = some ⟨oc, od, .func (fnOf name qual params body scope dV kV doc pm an cdv ct), osl⟩) (hcd : ∀ P, codeIn (frag P) cdv qual = true)
    (hb : ∀ (s : Shared) P x, (frag P).In s.heap → BindsTo s (fnOf name qual params body scope dV kV doc pm an cdv ct) ⟨.ref x :: args, []⟩ (binds x))
    (hl : ∀ x, ((binds x).all fun x => decide (scope.names.lookup x.1 = some .local)) = true)
    (h : ∀ (C : Cx W ⟨qual, scope, fI, cdv, []⟩) x dx, (Lw n dx) → dx < x → C.A.depth + d < recursionLimit → C.A.units + u < cLine → Ws C (fun y => (binds x).reverse.lookup y) ((x, instObj c dx) :: (dx, dictOf [] 0) :: n) body fun fl ζ n' => back fl = .none ∧ Post (.ref x) n')
    (c1 : scope.isCoroutine = false := by rfl) (c2 : scope.isGenerator = false := by rfl) (c3 : scope.kind = .function := by rfl) (c4 : ∀ x ∈ scope.names, x.2 ≠ .cell := by decide) : Does W c args (d + 2) (u + 4) n Post := by
  intro Z C m hd hu s y
  refine call_cls y.1 C.X y.2 (hm _) (hi _) (hf _) fun x dx h' F N l1 l2 => ?_
  have y' : At C m ((x, instObj c dx) :: (dx, dictOf [] 0) :: n) h' := ⟨F, N⟩
  have XX := C.X.keeps y'.1.keep
  have hA' : (C.A.under (.builtin "type.__call__" { pos := .ref c :: args })).frames = some (C.env :: C.outer) := C.hA
  have hh' : (C.A.under (.builtin "type.__call__" { pos := .ref c :: args })).handled = none := C.hh
  have e1 := depth_under_make C.A c args
  have e2 := (units_make C.A c args).trans (congrArg (C.A.units + ·) (cUnits_make c args))
  refine callX_plain (cl := []) (s := { s with heap := h' }) C.B y'.1 y'.2 C.T.nolimit hA' rfl C.hk (XX _ _ (ho _)) rfl (codeRec_of XX (hcd _)) (Nat.lt_of_le_of_lt (Nat.le_add_right _ _) (room (d := d + 1) e1 hd)) (hb _ _ _ XX) (locs (hl x)) (fun g L' h₁ FG F' N' B' st lt => ?_) c4 c1 c2 c3
  refine body_of (s := { s with heap := h' }) (Post := fun fl n' => back fl = .none ∧ Post (.ref x) n') y' hA' hh' F' N' B' st c3 (fun C' e3 e4 => h C' x dx l1 l2 (room e3 (room (d := d + 1) e1 hd)) (room e4 (room (d := u + 3) e2 hu))) fun fl n' h' tk' F2 N2 r => ?_
  exact ⟨r.1, out (tk' := tk') ⟨F2, N2⟩ r.2⟩
end
end Mine
namespace Mine
section
variable {W : Wd} {Z : St} {C : Cx W Z} {m : Loc} {n : Led} {R : Flow → Loc → Led → Prop}
theorem plain_scope (hk : Z.cs.kind = .function) {L : Addr} : ((Z.env L).scope.kind == .class || ((Z.env L).scope.kind == .module && (Z.env L).locals != (Z.env L).globals)) = false := by
  show (Z.cs.kind == .class || (Z.cs.kind == .module && L != mainGlobals)) = false
  rw [hk]; rfl
def Calm (o : Obj) : Prop := (o.cls ≠ .type "list_iterator" ∧ o.cls ≠ .type "range_iterator" ∧ o.cls ≠ .type "tuple_iterator") ∨ ∀ vs, o.data = .fields vs → ∃ s t, vs[1]? = some (.str s t)
theorem At.iter {h : Heap} (z : At C m n h) (o : Obj) : At C m n (h.push o) := ⟨z.1.push o, fun p hp => ⟨Heap.get?_push_of_some _ (z.2 p hp).1, (z.2 p hp).2⟩⟩
theorem At.new {h : Heap} (z : At C m n h) : C.h0.get? h.objs.size = none := next_is_new z.1
theorem rangeSize_nat (k : Nat) : Builtin.Range.rangeSize 0 (k : Int) 1 = (k : Int) := by
  unfold Builtin.Range.rangeSize
  simp only [show (1 : Int) > 0 from by decide, if_true]
  split
  · rw [Int.ediv_one]; omega
  · omega
theorem Ws.whl {t : PySem.Expr} {body rest : List Stmt} {pos : Pos} (J : Nat → Loc → Led → Prop) (k : Nat) (h0 : J k m n)
    (turn : ∀ i m' n', J i m' n' → Wb C C.env m' n' t fun c n1 => if c = true then Ws C m' n1 body fun f m2 n2 => f = .next ∧ ∃ j, j < i ∧ J j m2 n2 else Ws C m' n1 rest R) : Ws C m n (.While t body [] pos :: rest) R :=
  fun s z => wpAny_execs_cons (wpAny_While (codeAny_whileLoop (fun i s' => ∃ m' n' h' tk', At C m' n' h' ∧ J i m' n' ∧ s' = { s with heap := h', toks := tk' }) (fun i s' hI => by
    obtain ⟨m', n', h', tk', z, j, rfl⟩ := hI
    refine wpAny_mono (Wt.go (s := { s with heap := h', toks := tk' }) (turn i m' n' j) z (Q := fun b s₂ => if b = true then
              wpAny (model pg W.w) C.A (execs body C.env)
                (fun f s₃ =>
                  match f with
                  | Flow.next => ∃ m, m < i ∧ (∃ m' n' h' tk', At C m' n' h' ∧ J m m' n' ∧ s₃ = { s with heap := h', toks := tk' })
                  | Flow.cont => ∃ m, m < i ∧ (∃ m' n' h' tk', At C m' n' h' ∧ J m m' n' ∧ s₃ = { s with heap := h', toks := tk' })
                  | Flow.brk => (match (Flow.next : Flow) with | .next => wpAny (model pg W.w) C.A (execs rest C.env) (OutS C s R) No s₃ | f => OutS C s R f s₃)
                  | Flow.ret v => OutS C s R (.ret v) s₃)
                (notedBy (model pg W.w) C.A C.env fun e s' => cameBackBy (model pg W.w) C.A C.env No e s') s₂
            else
              wpAny (model pg W.w) C.A (execs [] C.env) (fun f s₃ => (match f with | .next => wpAny (model pg W.w) C.A (execs rest C.env) (OutS C s R) No s₃ | f => OutS C s R f s₃))
                (notedBy (model pg W.w) C.A C.env fun e s' => cameBackBy (model pg W.w) C.A C.env No e s') s₂) fun c n1 h1 tk1 z r => ?_) (fun ζ ζ x => x) fun ζ ζ x => x.elim
    cases c with
    | true =>
      rw [if_pos rfl]
      refine wpAny_mono (Ws.go (s := { s with heap := h1, toks := tk1 }) (show Ws C m' n1 body _ from r) z (Q := fun f s₃ => ∃ mm, f = .next ∧ mm < i ∧ (∃ m' n' h' tk', At C m' n' h' ∧ J mm m' n' ∧ s₃ = { s with heap := h', toks := tk' })) fun f m2 n2 h2 tk2 z q => ?_) (fun f s3 x => ?_) fun ζ ζ x => x.elim
      · obtain ⟨rfl, j, hj, q⟩ := q
        exact ⟨j, rfl, hj, m2, n2, h2, tk2, z, q, rfl⟩
      · obtain ⟨mm, rfl, x⟩ := x
        exact ⟨mm, x⟩
    | false =>
      rw [if_neg Bool.false_ne_true]
      refine wpAny_execs_nil ?_
      exact Ws.at (show Ws C m' n1 rest R from r) z) k ⟨m, n, s.heap, s.toks, z, h0, rfl⟩))
end
end Mine
namespace Mine
section
variable {W : Wd} {Z : St} {C : Cx W Z} {m : Loc} {n : Led} {RV : Value → Led → Prop}
theorem We.own {sc : Scope} {cl' : List (Str × Addr)} {D : Addr} {e : Env} {y : Str} {pos : Pos} {oC : Obj} {m₂ : Loc} {u : Value} (hm : (D, oC) ∈ n) (hn : LCg.NsObj oC m₂) (hv : m₂ y = some u) (r : RV u n)
    (hk : (compEnvC sc cl' D e).scope.kind = .function := by rfl) (hl : (compEnvC sc cl' D e).kindOf y = some .local := by rfl) (hd : (y == ("__debug__" : Str)) = false := by decide) : We C (compEnvC sc cl' D e) m n (.Name y pos) RV :=
  fun s z => LCgL.ld_own z.2 hm hn hv (out (tk' := s.toks) z r) hk hl hd
theorem We.ownG {sc : Scope} {cl' : List (Str × Addr)} {D : Addr} {y : Str} {pos : Pos} {u : Value} (hv : ∀ P, nsIn (frag P) mainGlobals y = some (some u)) (r : RV u n)
    (hk : (compEnvC sc cl' D C.env).scope.kind = .function := by rfl) (hx : (compEnvC sc cl' D C.env).kindOf y = some .globalImplicit := by rfl) (hd : (y == ("__debug__" : Str)) = false := by decide) : We C (compEnvC sc cl' D C.env) m n (.Name y pos) RV :=
  fun s z => LCgL.ld_global z.1 C.X C.T (hv _) (out (tk' := s.toks) z r) rfl hk hx hd
theorem We.ownB {sc : Scope} {cl' : List (Str × Addr)} {D : Addr} {y : Str} {pos : Pos} {u : Value} (hv : ∀ P, nsIn (frag P) mainGlobals y = some none) (hb : bootBuiltins y = some u) (hn : y ≠ "__name__") (r : RV u n)
    (hk : (compEnvC sc cl' D C.env).scope.kind = .function := by rfl) (hx : (compEnvC sc cl' D C.env).kindOf y = some .globalImplicit := by rfl) (hd : (y == ("__debug__" : Str)) = false := by decide) : We C (compEnvC sc cl' D C.env) m n (.Name y pos) RV :=
  fun s z => LCgL.ld_built z.1 C.X C.T (hv _) hb hn (out (tk' := s.toks) z r) rfl rfl hk hx hd
end
end Mine
namespace Mine
-- the top's names
def Top.Is (x : Str) (v : Value) : Prop := ∀ P, nsIn (frag P) mainGlobals x = some (some v)
theorem g_Occurs : Top.Is "Occurs" (.ref 48) := by intro P; k_is
theorem g_Item : Top.Is "Item" (.ref 95) := by intro P; k_is
theorem g_Shape : Top.Is "Shape" (.ref 178) := by intro P; k_is
theorem g_around : Top.Is "items_around" (.ref 106) := by intro P; k_is
theorem g_group : Top.Is "is_group" (.ref 111) := by intro P; k_is
theorem g_told : Top.Is "told_up" (.ref 118) := by intro P; k_is
theorem g_usage : Top.Is "usage_of" (.ref 125) := by intro P; k_is
theorem g_passed : Top.Is "is_passed" (.ref 132) := by intro P; k_is
theorem g_fields : Top.Is "fields_below" (.ref 139) := by intro P; k_is
theorem g_worth : Top.Is "first_worth" (.ref 146) := by intro P; k_is
theorem g_gshape : Top.Is "group_shape" (.ref 189) := by intro P; k_is
theorem g_nshape : Top.Is "numbered_shape" (.ref 196) := by intro P; k_is
theorem g_ishape : Top.Is "index_shape" (.ref 203) := by intro P; k_is
theorem g_take : Top.Is "_law_take" (.ref 210) := by intro P; k_is
theorem g_leaf : Top.Is "_law_leaf" (.ref 217) := by intro P; k_is
theorem g_grown : Top.Is "_law_grown" (.ref 224) := by intro P; k_is
theorem g_apart : Top.Is "_law_is_apart" (.ref 231) := by intro P; k_is
theorem g_sized : Top.Is "_law_sized" (.ref 236) := by intro P; k_is
theorem g_lay : Top.Is "_law_lay" (.ref 243) := by intro P; k_is
theorem g_due : Top.Is "_law_due" (.ref 248) := by intro P; k_is
theorem g_right : Top.Is "_law_table_right" (.ref 253) := by intro P; k_is
theorem g_FILLER : Top.Is "FILLER" (.str "FILLER" 196) := by intro P; k_is
theorem g_RENAMING : Top.Is "RENAMING" (.int 66 198) := by intro P; k_is
theorem g_SIZE : Top.Is "INDEX_SIZE" (.int 4 387) := by intro P; k_is
theorem g_DIGITS : Top.Is "INDEX_DIGITS" (.int 9 389) := by intro P; k_is
def Top.Not (x : Str) : Prop := ∀ P, nsIn (frag P) mainGlobals x = some none
theorem n_len : Top.Not "len" := by intro P; k_is
theorem n_range : Top.Not "range" := by intro P; k_is
theorem n_sum : Top.Not "sum" := by intro P; k_is
theorem n_abs : Top.Not "abs" := by intro P; k_is
theorem n_bytes : Top.Not "bytes" := by intro P; k_is
theorem n_tuple : Top.Not "tuple" := by intro P; k_is
def Kept (f : Addr) : Prop := ∀ P, keepIn (frag P) (.ref f) = true
theorem k48 : Kept 48 := by intro P; k_is
theorem k95 : Kept 95 := by intro P; k_is
theorem k178 : Kept 178 := by intro P; k_is
theorem k106 : Kept 106 := by intro P; k_is
theorem k111 : Kept 111 := by intro P; k_is
theorem k118 : Kept 118 := by intro P; k_is
theorem k125 : Kept 125 := by intro P; k_is
theorem k132 : Kept 132 := by intro P; k_is
theorem k139 : Kept 139 := by intro P; k_is
theorem k146 : Kept 146 := by intro P; k_is
theorem k189 : Kept 189 := by intro P; k_is
theorem k196 : Kept 196 := by intro P; k_is
theorem k203 : Kept 203 := by intro P; k_is
theorem k210 : Kept 210 := by intro P; k_is
theorem k217 : Kept 217 := by intro P; k_is
theorem k224 : Kept 224 := by intro P; k_is
theorem k231 : Kept 231 := by intro P; k_is
theorem k236 : Kept 236 := by intro P; k_is
theorem k243 : Kept 243 := by intro P; k_is
theorem k248 : Kept 248 := by intro P; k_is
theorem k253 : Kept 253 := by intro P; k_is
-- the classes
theorem c48 : Cls 48 := fun P => ⟨by k_is, by k_is, by k_is⟩
theorem c95 : Cls 95 := fun P => ⟨by k_is, by k_is, by k_is⟩
theorem c178 : Cls 178 := fun P => ⟨by k_is, by k_is, by k_is⟩
theorem m_add : Meth 95 "add" 73 := fun P => ⟨by k_is, by k_is, by k_is, by k_is⟩
theorem m_count : Meth 95 "count" 80 := fun P => ⟨by k_is, by k_is, by k_is, by k_is⟩
theorem m_told : Meth 178 "told" 168 := fun P => ⟨by k_is, by k_is, by k_is, by k_is⟩
theorem p_level : Plain 95 "level" := fun P => ⟨by k_is, by k_is, by k_is⟩
theorem p_name : Plain 95 "name" := fun P => ⟨by k_is, by k_is, by k_is⟩
theorem p_pict : Plain 95 "picture_text" := fun P => ⟨by k_is, by k_is, by k_is⟩
theorem p_usage : Plain 95 "usage" := fun P => ⟨by k_is, by k_is, by k_is⟩
theorem p_sign : Plain 95 "sign" := fun P => ⟨by k_is, by k_is, by k_is⟩
theorem p_sep : Plain 95 "is_separate" := fun P => ⟨by k_is, by k_is, by k_is⟩
theorem p_occ : Plain 95 "occurs" := fun P => ⟨by k_is, by k_is, by k_is⟩
theorem p_red : Plain 95 "redefines" := fun P => ⟨by k_is, by k_is, by k_is⟩
theorem p_value : Plain 95 "value" := fun P => ⟨by k_is, by k_is, by k_is⟩
theorem p_just : Plain 95 "is_justified" := fun P => ⟨by k_is, by k_is, by k_is⟩
theorem p_blank : Plain 95 "is_blank_zero" := fun P => ⟨by k_is, by k_is, by k_is⟩
theorem p_conds : Plain 95 "conditions" := fun P => ⟨by k_is, by k_is, by k_is⟩
theorem p_kids : Plain 95 "kids" := fun P => ⟨by k_is, by k_is, by k_is⟩
theorem p_parent : Plain 95 "parent" := fun P => ⟨by k_is, by k_is, by k_is⟩
theorem p_renames : Plain 95 "renames" := fun P => ⟨by k_is, by k_is, by k_is⟩
theorem p_base : Plain 95 "base" := fun P => ⟨by k_is, by k_is, by k_is⟩
theorem p_offset : Plain 95 "offset" := fun P => ⟨by k_is, by k_is, by k_is⟩
theorem p_size : Plain 95 "size" := fun P => ⟨by k_is, by k_is, by k_is⟩
theorem p_shape : Plain 95 "shape" := fun P => ⟨by k_is, by k_is, by k_is⟩
theorem o_low : Plain 48 "low" := fun P => ⟨by k_is, by k_is, by k_is⟩
theorem o_high : Plain 48 "high" := fun P => ⟨by k_is, by k_is, by k_is⟩
theorem o_dep : Plain 48 "depending" := fun P => ⟨by k_is, by k_is, by k_is⟩
theorem o_keys : Plain 48 "keys" := fun P => ⟨by k_is, by k_is, by k_is⟩
theorem o_idx : Plain 48 "indexes" := fun P => ⟨by k_is, by k_is, by k_is⟩
theorem s_cat : Plain 178 "category" := fun P => ⟨by k_is, by k_is, by k_is⟩
theorem s_size : Plain 178 "size" := fun P => ⟨by k_is, by k_is, by k_is⟩
theorem s_pict : Plain 178 "picture" := fun P => ⟨by k_is, by k_is, by k_is⟩
theorem s_usage : Plain 178 "usage" := fun P => ⟨by k_is, by k_is, by k_is⟩
theorem s_sign : Plain 178 "sign" := fun P => ⟨by k_is, by k_is, by k_is⟩
theorem s_sep : Plain 178 "is_separate" := fun P => ⟨by k_is, by k_is, by k_is⟩
theorem s_just : Plain 178 "is_justified" := fun P => ⟨by k_is, by k_is, by k_is⟩
theorem s_blank : Plain 178 "is_blank_zero" := fun P => ⟨by k_is, by k_is, by k_is⟩
theorem s_digits : Plain 178 "digits" := fun P => ⟨by k_is, by k_is, by k_is⟩
theorem s_scale : Plain 178 "scale" := fun P => ⟨by k_is, by k_is, by k_is⟩
theorem s_signed : Plain 178 "is_signed" := fun P => ⟨by k_is, by k_is, by k_is⟩
theorem mk48 : ∀ P, makesIn (frag P) 48 = true := fun P => by k_is
theorem mk95 : ∀ P, makesIn (frag P) 95 = true := fun P => by k_is
theorem mk178 : ∀ P, makesIn (frag P) 178 = true := fun P => by k_is
theorem in48 : ∀ P, findIn (frag P) (.ref 48) "__init__" = some (some (.ref 38)) := fun P => by k_is
theorem in95 : ∀ P, findIn (frag P) (.ref 95) "__init__" = some (some (.ref 66)) := fun P => by k_is
theorem in178 : ∀ P, findIn (frag P) (.ref 178) "__init__" = some (some (.ref 161)) := fun P => by k_is
theorem fn38 : ∀ P, isFn (frag P) (.ref 38) = true := fun P => by k_is
theorem fn66 : ∀ P, isFn (frag P) (.ref 66) = true := fun P => by k_is
theorem fn161 : ∀ P, isFn (frag P) (.ref 161) = true := fun P => by k_is
end Mine
namespace Mine
inductive Vl : Type where
  | int (i : Int) | str (s : Str) | ref (a : Addr) | bool (b : Bool) | none | bytes (b : Array UInt8)
noncomputable def Vl.is : Vl → Value → Prop
  | .int i, u => ∃ t, u = .int i t
  | .str s, u => ∃ t, u = .str s t
  | .ref a, u => u = .ref a
  | .bool b, u => u = .bool b
  | .none, u => u = .none
  | .bytes b, u => ∃ t, u = .bytes b t
theorem Vl.handed {x : Vl} {u : Value} (h : x.is u) : handedIn u = true := by
  cases x <;> first | (obtain ⟨t, rfl⟩ := h; rfl) | (cases h; rfl)
abbrev Lm := List (Str × Vl)
noncomputable def Sat (m : Loc) (lm : Lm) : Prop := ∀ y x, lm.lookup y = some x → ∃ u, m y = some u ∧ x.is u
theorem Sat.put {m : Loc} {lm : Lm} {y : Str} {x : Vl} {u : Value} (h : Sat m lm) (hx : x.is u) : Sat (upd m y u) ((y, x) :: lm) := fun z w e => by
  rw [List.lookup_cons] at e
  by_cases q : z = y
  · subst q
    rw [beq_self_eq_true] at e
    cases e
    exact ⟨u, if_pos rfl, hx⟩
  · rw [beq_eq_false_iff_ne.mpr q] at e
    obtain ⟨w', a, b⟩ := h z w e
    exact ⟨w', (if_neg q).trans a, b⟩
theorem Sat.nil {m : Loc} : Sat m [] := fun ζ ζ e => nomatch e
section
variable {W : Wd} {Z : St}
noncomputable def Ev (C : Cx W Z) (v : Env) (lm : Lm) (n : Led) (e : PySem.Expr) (x : Vl) : Prop := ∀ m, Sat m lm → We C v m n e fun u n' => x.is u ∧ n' = n
noncomputable def Eb (C : Cx W Z) (v : Env) (lm : Lm) (n : Led) (e : PySem.Expr) (b : Bool) : Prop := ∀ m, Sat m lm → Wb C v m n e fun c n' => c = b ∧ n' = n
noncomputable def Vw (C : Cx W Z) (v : Env) (lm : Lm) (n : Led) (e : PySem.Expr) (R : Vl → Led → Prop) : Prop := ∀ m, Sat m lm → We C v m n e fun u n' => ∃ x, x.is u ∧ R x n'
noncomputable def Vb (C : Cx W Z) (v : Env) (lm : Lm) (n : Led) (e : PySem.Expr) (R : Bool → Led → Prop) : Prop := ∀ m, Sat m lm → Wb C v m n e R
variable {C : Cx W Z} {v : Env} {lm : Lm} {n : Led} {x y : Vl} {e f g : PySem.Expr} {R : Vl → Led → Prop}
theorem Ev.go {Q : Value → Led → Prop} {m : Loc} (h : Ev C v lm n e x) (s : Sat m lm) (k : ∀ u, x.is u → Q u n) : We C v m n e Q := (h m s).mono fun u n' q => q.2 ▸ k u q.1
theorem Ev.w (h : Ev C v lm n e x) (r : R x n) : Vw C v lm n e R := fun m s => h.go s fun u q => ⟨x, q, r⟩
theorem Eb.w {b : Bool} {R : Bool → Led → Prop} (h : Eb C v lm n e b) (r : R b n) : Vb C v lm n e R := fun m s => (h m s).mono fun c n' q => by rw [q.1, q.2]; exact r
theorem Ev.loc {z : Str} {pos : Pos} (h : lm.lookup z = some x) (hx : (Z.env 0).kindOf z = some .local) (hd : (z == ("__debug__" : Str)) = false) : Ev C C.env lm n (.Name z pos) x := fun m s =>
  (s z x h).elim fun u q => .loc q.1 ⟨q.2, rfl⟩ hx hd
theorem Ev.glob {z : Str} {pos : Pos} {u : Value} (h : Top.Is z u) (hu : x.is u) (hx : (Z.env 0).kindOf z = some .globalImplicit) (hd : (z == ("__debug__" : Str)) = false) : Ev C C.env lm n (.Name z pos) x := fun m s => .glob h ⟨hu, rfl⟩ hx hd
theorem Ev.int {i : Int} {k : Nat} {pos : Pos} : Ev C v lm n (.Constant (.int i) k pos) (.int i) := fun ζ ζ => .cint fun t => ⟨⟨t, rfl⟩, rfl⟩
theorem Ev.str {i : Str} {k : Nat} {pos : Pos} : Ev C v lm n (.Constant (.str i) k pos) (.str i) := fun ζ ζ => .cstr fun t => ⟨⟨t, rfl⟩, rfl⟩
theorem Ev.cnone {k : Nat} {pos : Pos} : Ev C v lm n (.Constant .none k pos) .none := fun ζ ζ => .cnone ⟨rfl, rfl⟩
theorem Ev.bool {b : Bool} {k : Nat} {pos : Pos} : Ev C v lm n (.Constant (.bool b) k pos) (.bool b) := fun ζ ζ => .cbool ⟨rfl, rfl⟩
-- a block's own names
theorem Ev.own {sc : Scope} {cl' : List (Str × Addr)} {D : Addr} {z : Str} {pos : Pos} {oC : Obj} {m₂ : Loc} {u : Value} (hm : (D, oC) ∈ n) (hn : LCg.NsObj oC m₂) (hv : m₂ z = some u) (hu : x.is u)
    (hk : (compEnvC sc cl' 0 (Z.env 0)).scope.kind = .function) (hl : (compEnvC sc cl' 0 (Z.env 0)).kindOf z = some .local) (hd : (z == ("__debug__" : Str)) = false) : Ev C (compEnvC sc cl' D C.env) lm n (.Name z pos) x := fun ζ ζ => .own hm hn hv ⟨hu, rfl⟩ hk hl hd
theorem Ev.ownG {sc : Scope} {cl' : List (Str × Addr)} {D : Addr} {z : Str} {pos : Pos} {u : Value} (h : Top.Is z u) (hu : x.is u)
    (hk : (compEnvC sc cl' 0 (Z.env 0)).scope.kind = .function) (hx : (compEnvC sc cl' 0 (Z.env 0)).kindOf z = some .globalImplicit) (hd : (z == ("__debug__" : Str)) = false) : Ev C (compEnvC sc cl' D C.env) lm n (.Name z pos) x := fun ζ ζ => .ownG h ⟨hu, rfl⟩ hk hx hd
-- ints
variable {i j : Int} {pos : Pos} {b c : Bool} {s t : Str}
theorem Ev.add (h : Ev C v lm n e (.int i)) (k : Ev C v lm n f (.int j)) : Ev C v lm n (.BinOp e .Add f pos) (.int (i + j)) := fun m s => .bin (h.go s fun _ ⟨_, q⟩ => k.go s fun _ ⟨_, r⟩ => q ▸ r ▸ .add fun t => ⟨⟨t, rfl⟩, rfl⟩)
theorem Ev.sub (h : Ev C v lm n e (.int i)) (k : Ev C v lm n f (.int j)) : Ev C v lm n (.BinOp e .Sub f pos) (.int (i - j)) := fun m s => .bin (h.go s fun _ ⟨_, q⟩ => k.go s fun _ ⟨_, r⟩ => q ▸ r ▸ .sub fun t => ⟨⟨t, rfl⟩, rfl⟩)
theorem Ev.mul (h : Ev C v lm n e (.int i)) (k : Ev C v lm n f (.int j)) (h0 : 0 ≤ i) (h1 : i < 100000000) : Ev C v lm n (.BinOp e .Mult f pos) (.int (i * j)) := fun m s => .bin (h.go s fun _ ⟨_, q⟩ => k.go s fun _ ⟨_, r⟩ => q ▸ r ▸ .mul (by omega) h1 fun t => ⟨⟨t, rfl⟩, rfl⟩)
theorem Ev.mod (h : Ev C v lm n e (.int i)) (k : Ev C v lm n f (.int j)) (h0 : j ≠ 0) : Ev C v lm n (.BinOp e .Mod f pos) (.int (i.fmod j)) := fun m s => .bin (h.go s fun _ ⟨_, q⟩ => k.go s fun _ ⟨_, r⟩ => q ▸ r ▸ .mod h0 fun t => ⟨⟨t, rfl⟩, rfl⟩)
theorem Wt.div {m : Loc} {i j : Int} {t u : Tok} {RV : Value → Led → Prop} (h : j ≠ 0) (hy : j.natAbs < 1073741824) (r : ∀ t, RV (.int (i.fdiv j) t) n) : Wt C m n (binaryOp .FloorDiv (.int i t) (.int j u)) RV :=
  fun s z => floordiv_int h (out (tk' := s.toks + 1) z (r _)) (.inl (PyProof.noPylong_small hy))
theorem Ev.div (h : Ev C v lm n e (.int i)) (k : Ev C v lm n f (.int j)) (h0 : j ≠ 0) (h1 : j.natAbs < 1073741824) : Ev C v lm n (.BinOp e .FloorDiv f pos) (.int (i.fdiv j)) := fun m s => .bin (h.go s fun _ ⟨_, q⟩ => k.go s fun _ ⟨_, r⟩ => q ▸ r ▸ .div h0 h1 fun t => ⟨⟨t, rfl⟩, rfl⟩)
-- comparisons: one word for both their uses
noncomputable def Cp (C : Cx W Z) (v : Env) (lm : Lm) (n : Led) (op : CmpOp) (e f : PySem.Expr) (b : Bool) : Prop :=
  ∀ m, Sat m lm → ∀ Q : Value → Led → Prop, Q (.bool b) n → We C v m n e fun x n1 => We C v m n1 f fun y n2 => Wt C m n2 (compareOp op x y) Q
theorem Ev.cmp {op : CmpOp} (h : Cp C v lm n op e f b) (hb : behindInMarks op f = false) : Ev C v lm n (.Compare e [op] [f] pos) (.bool b) := fun m s => .cmp (h m s _ ⟨rfl, rfl⟩) hb
theorem Eb.cmp {op : CmpOp} (h : Cp C v lm n op e f b) (hb : behindInMarks op f = false) : Eb C v lm n (.Compare e [op] [f] pos) b := fun m s => .cmp (h m s _ ⟨b, rfl, rfl, rfl⟩) hb
theorem Cp.eqI (h : Ev C v lm n e (.int i)) (k : Ev C v lm n f (.int j)) : Cp C v lm n .Eq e f (i == j) := fun m s Q r => h.go s fun _ ⟨_, q⟩ => k.go s fun _ ⟨_, p⟩ => q ▸ p ▸ .eqI r
theorem Cp.neI (h : Ev C v lm n e (.int i)) (k : Ev C v lm n f (.int j)) : Cp C v lm n .NotEq e f (i != j) := fun m s Q r => h.go s fun _ ⟨_, q⟩ => k.go s fun _ ⟨_, p⟩ => q ▸ p ▸ .neI r
theorem Cp.ltI (h : Ev C v lm n e (.int i)) (k : Ev C v lm n f (.int j)) : Cp C v lm n .Lt e f (decide (i < j)) := fun m s Q r => h.go s fun _ ⟨_, q⟩ => k.go s fun _ ⟨_, p⟩ => q ▸ p ▸ .ltI r
theorem Cp.gtI (h : Ev C v lm n e (.int i)) (k : Ev C v lm n f (.int j)) : Cp C v lm n .Gt e f (decide (j < i)) := fun m s Q r => h.go s fun _ ⟨_, q⟩ => k.go s fun _ ⟨_, p⟩ => q ▸ p ▸ .gtI r
theorem Cp.eqS (h : Ev C v lm n e (.str s)) (k : Ev C v lm n f (.str t)) : Cp C v lm n .Eq e f (s == t) := fun m s Q r => h.go s fun _ ⟨_, q⟩ => k.go s fun _ ⟨_, p⟩ => q ▸ p ▸ .eqS r
theorem Cp.neS (h : Ev C v lm n e (.str s)) (k : Ev C v lm n f (.str t)) : Cp C v lm n .NotEq e f (s != t) := fun m s Q r => h.go s fun _ ⟨_, q⟩ => k.go s fun _ ⟨_, p⟩ => q ▸ p ▸ .neS r
theorem Cp.isN (h : Ev C v lm n e .none) (k : Ev C v lm n f .none) : Cp C v lm n .Is e f true := fun m s Q r => h.go s fun ζ q => k.go s fun ζ p => by cases q; cases p; exact .isN r
theorem Cp.isR {x : Addr} (h : Ev C v lm n e (.ref x)) (k : Ev C v lm n f .none) : Cp C v lm n .Is e f false := fun m s Q r => h.go s fun ζ q => k.go s fun ζ p => (show _ = _ from q) ▸ (show _ = _ from p) ▸ .isR r
theorem Cp.notN (h : Ev C v lm n e .none) (k : Ev C v lm n f .none) : Cp C v lm n .IsNot e f false := fun m s Q r => h.go s fun ζ q => k.go s fun ζ p => by cases q; cases p; exact .notN r
theorem Cp.notR {x : Addr} (h : Ev C v lm n e (.ref x)) (k : Ev C v lm n f .none) : Cp C v lm n .IsNot e f true := fun m s Q r => h.go s fun ζ q => k.go s fun ζ p => (show _ = _ from q) ▸ (show _ = _ from p) ▸ .notR r
theorem Cp.to {op : CmpOp} (h : Cp C v lm n op e f b) (k : b = c) : Cp C v lm n op e f c := k ▸ h
theorem Ev.to (h : Ev C v lm n e x) (k : x = y) : Ev C v lm n e y := k ▸ h
theorem Ev.ifT (h : Eb C v lm n e true) (k : Ev C v lm n f x) : Ev C v lm n (.IfExp e f g pos) x := fun m s => .ife ((h m s).mono fun c n' q => by rw [q.1, q.2, if_pos rfl]; exact k m s)
theorem Ev.ifF (h : Eb C v lm n e false) (k : Ev C v lm n g x) : Ev C v lm n (.IfExp e f g pos) x := fun m s => .ife ((h m s).mono fun c n' q => by rw [q.1, q.2, if_neg Bool.false_ne_true]; exact k m s)
theorem Eb.not (h : Eb C v lm n e b) : Eb C v lm n (.UnaryOp .Not e pos) (!b) := fun m s => .not ((h m s).mono fun c n' q => ⟨congrArg _ q.1, q.2⟩)
theorem Eb.or2 (h : Eb C v lm n e b) (k : Eb C v lm n f c) : Eb C v lm n (.BoolOp .Or [e, f] pos) (b || c) := fun m s => .or2 ((h m s).mono fun d n' q => by
  rw [q.1, q.2]
  cases b
  · exact k m s
  · exact ⟨rfl, rfl⟩)
theorem Eb.and2 (h : Eb C v lm n e b) (k : Eb C v lm n f c) : Eb C v lm n (.BoolOp .And [e, f] pos) (b && c) := fun m s => .and2 ((h m s).mono fun d n' q => by
  rw [q.1, q.2]
  cases b
  · exact ⟨rfl, rfl⟩
  · exact k m s)
theorem Eb.andF (h : Eb C v lm n e false) : Eb C v lm n (.BoolOp .And [e, f] pos) false := fun m s => .and2 ((h m s).mono fun d n' q => by
  rw [q.1, q.2]
  exact ⟨rfl, rfl⟩)
theorem Eb.val (h : Ev C v lm n e (.bool b)) (hp : ∀ w : Sem Value, PySem.isTrue e v w = (do let u ← w; standAt e.pos; holding [u] (truthy u))) : Eb C v lm n e b := fun m s => .val (h.go s fun u q => ⟨b, q, rfl, rfl⟩) hp
-- or as a value: of two bools
theorem Ev.or2 (h : Ev C v lm n e (.bool b)) (k : Ev C v lm n f (.bool c)) : Ev C v lm n (.BoolOp .Or [e, f] pos) (.bool (b || c)) := fun m s σ z =>
  BoolOp_or ((h m s).go z fun u n' h' tk' z' q => by
    obtain ⟨q1, q2⟩ := q
    subst q2
    obtain rfl : u = .bool b := q1
    refine wpAny_truthy_bool ?_
    cases b with
    | true => exact out (R := fun u n' => (Vl.bool (true || c)).is u ∧ n' = _) z' ⟨rfl, rfl⟩
    | false => exact (k m s).at z')
end
-- the fields' names, by number
noncomputable def names : List String := ["level", "name", "picture_text", "usage", "sign", "is_separate", "occurs", "redefines", "value", "is_justified", "is_blank_zero", "conditions", "kids", "parent", "renames", "base", "offset", "size", "shape", "category", "picture", "digits", "scale", "is_signed", "low", "high", "depending", "keys", "indexes", "add", "count", "told"]
noncomputable def ks (i : Nat) : Str := Str.ofString (names.getD i "")
noncomputable def strIdx (s : Str) : Nat := names.findIdx fun w => Str.ofString w == s
theorem strIdx_ks : ∀ i, i < 32 → strIdx (ks i) = i := by decide +kernel
theorem ks_inj {i j : Nat} (hi : i < 32) (hj : j < 32) (h : ks i = ks j) : i = j := by rw [← strIdx_ks i hi, ← strIdx_ks j hj, h]
end Mine
namespace Mine
noncomputable def IsAll : List Vl → List Value → Prop
  | [], [] => True
  | x :: xs, u :: us => x.is u ∧ IsAll xs us
  | _, _ => False
-- instances, by their fields
abbrev Fds := List (Option Vl)
noncomputable def FldO (es : List DictEntry) (i : Nat) (o : Option Vl) : Prop := match o with
  | some y => ∃ u, Fld es (ks i) u ∧ y.is u
  | none => getL (ks i) es = some none
noncomputable def Ob (n : Led) (x c dx : Addr) (fs : Fds) (b : Nat) : Prop := (x, instObj c dx) ∈ n ∧ ∃ es k, (dx, dictOf es k) ∈ n ∧ Pure es ∧ es.length ≤ b ∧ fs.length = 32 ∧ ∀ i, i < 32 → FldO es i (fs.getD i none)
theorem Ob.mono {n n' : Led} {x c dx : Addr} {fs : Fds} {b : Nat} (h : Ob n x c dx fs b) (k1 : ∀ o, (x, o) ∈ n → (x, o) ∈ n') (k2 : ∀ o, (dx, o) ∈ n → (dx, o) ∈ n') : Ob n' x c dx fs b :=
  ⟨k1 _ h.1, let ⟨es, k, p, q⟩ := h.2; ⟨es, k, k2 _ p, q⟩⟩
theorem Ob.to {n : Led} {x c dx : Addr} {fs gs : Fds} {b : Nat} (h : Ob n x c dx fs b) (e : fs = gs) : Ob n x c dx gs b := e ▸ h
theorem Ob.le {n : Led} {x c dx : Addr} {fs : Fds} {b b' : Nat} (h : Ob n x c dx fs b) (e : b ≤ b') : Ob n x c dx fs b' := ⟨h.1, let ⟨es, k, p, q, r, s⟩ := h.2; ⟨es, k, p, q, Nat.le_trans r e, s⟩⟩
theorem Ob.start {n : Led} {x c dx : Addr} : Ob ((x, instObj c dx) :: (dx, dictOf [] 0) :: n) x c dx [none, none, none, none, none, none, none, none, none, none, none, none, none, none, none, none, none, none, none, none, none, none, none, none, none, none, none, none, none, none, none, none] 0 :=
  ⟨.head _, [], 0, .tail _ (.head _), rfl, Nat.le_refl _, rfl, fun i hi => by
    have e : ([none, none, none, none, none, none, none, none, none, none, none, none, none, none, none, none, none, none, none, none, none, none, none, none, none, none, none, none, none, none, none, none] : Fds).getD i none = none := by
      rw [show ([none, none, none, none, none, none, none, none, none, none, none, none, none, none, none, none, none, none, none, none, none, none, none, none, none, none, none, none, none, none, none, none] : Fds) = List.replicate 32 none from rfl]
      rw [List.getD_eq_getElem?_getD, List.getElem?_replicate]
      split <;> rfl
    rw [e]; rfl⟩
theorem fldO_put {es es' : List DictEntry} {i : Nat} {y : Vl} {u : Value} {fs : Fds} (hl : fs.length = 32) (hi : i < 32) (P : Put (ks i) u es es') (hy : y.is u) (h : ∀ j, j < 32 → FldO es j (fs.getD j none)) : ∀ j, j < 32 → FldO es' j ((fs.set i (some y)).getD j none) := fun j hj => by
  rw [List.getD_eq_getElem?_getD, List.getElem?_set]
  by_cases e : i = j
  · subst e
    rw [if_pos rfl, if_pos (by omega)]
    exact ⟨u, P.here, hy⟩
  · rw [if_neg e, ← List.getD_eq_getElem?_getD]
    have q := h j hj
    have ne : ks j ≠ ks i := fun z => e (ks_inj hj hi z).symm
    cases hz : fs.getD j none with
    | some z => rw [hz] at q; exact q.elim fun w r => ⟨w, P.there _ _ ne r.1, r.2⟩
    | none => rw [hz] at q; exact P.gone _ ne q
structure FK (c : Addr) (i : Nat) (at' : Str) : Prop where
  cls : Cls c
  pl : Plain c at'
  eq : ks i = at'
  lt : i < 32
structure MK (c : Addr) (i : Nat) (at' : Str) (f : Addr) : Prop where
  m : Meth c at' f
  eq : ks i = at'
  lt : i < 32
theorem fk_level : FK 95 0 "level" := ⟨c95, p_level, rfl, by decide⟩
theorem fk_name : FK 95 1 "name" := ⟨c95, p_name, rfl, by decide⟩
theorem fk_pict : FK 95 2 "picture_text" := ⟨c95, p_pict, rfl, by decide⟩
theorem fk_usage : FK 95 3 "usage" := ⟨c95, p_usage, rfl, by decide⟩
theorem fk_sign : FK 95 4 "sign" := ⟨c95, p_sign, rfl, by decide⟩
theorem fk_sep : FK 95 5 "is_separate" := ⟨c95, p_sep, rfl, by decide⟩
theorem fk_occ : FK 95 6 "occurs" := ⟨c95, p_occ, rfl, by decide⟩
theorem fk_red : FK 95 7 "redefines" := ⟨c95, p_red, rfl, by decide⟩
theorem fk_value : FK 95 8 "value" := ⟨c95, p_value, rfl, by decide⟩
theorem fk_just : FK 95 9 "is_justified" := ⟨c95, p_just, rfl, by decide⟩
theorem fk_blank : FK 95 10 "is_blank_zero" := ⟨c95, p_blank, rfl, by decide⟩
theorem fk_conds : FK 95 11 "conditions" := ⟨c95, p_conds, rfl, by decide⟩
theorem fk_kids : FK 95 12 "kids" := ⟨c95, p_kids, rfl, by decide⟩
theorem fk_parent : FK 95 13 "parent" := ⟨c95, p_parent, rfl, by decide⟩
theorem fk_renames : FK 95 14 "renames" := ⟨c95, p_renames, rfl, by decide⟩
theorem fk_base : FK 95 15 "base" := ⟨c95, p_base, rfl, by decide⟩
theorem fk_offset : FK 95 16 "offset" := ⟨c95, p_offset, rfl, by decide⟩
theorem fk_size : FK 95 17 "size" := ⟨c95, p_size, rfl, by decide⟩
theorem fk_shape : FK 95 18 "shape" := ⟨c95, p_shape, rfl, by decide⟩
theorem sk_usage : FK 178 3 "usage" := ⟨c178, s_usage, rfl, by decide⟩
theorem sk_sign : FK 178 4 "sign" := ⟨c178, s_sign, rfl, by decide⟩
theorem sk_sep : FK 178 5 "is_separate" := ⟨c178, s_sep, rfl, by decide⟩
theorem sk_just : FK 178 9 "is_justified" := ⟨c178, s_just, rfl, by decide⟩
theorem sk_blank : FK 178 10 "is_blank_zero" := ⟨c178, s_blank, rfl, by decide⟩
theorem sk_size : FK 178 17 "size" := ⟨c178, s_size, rfl, by decide⟩
theorem sk_cat : FK 178 19 "category" := ⟨c178, s_cat, rfl, by decide⟩
theorem sk_pict : FK 178 20 "picture" := ⟨c178, s_pict, rfl, by decide⟩
theorem sk_digits : FK 178 21 "digits" := ⟨c178, s_digits, rfl, by decide⟩
theorem sk_scale : FK 178 22 "scale" := ⟨c178, s_scale, rfl, by decide⟩
theorem sk_signed : FK 178 23 "is_signed" := ⟨c178, s_signed, rfl, by decide⟩
theorem ok_low : FK 48 24 "low" := ⟨c48, o_low, rfl, by decide⟩
theorem ok_high : FK 48 25 "high" := ⟨c48, o_high, rfl, by decide⟩
theorem ok_dep : FK 48 26 "depending" := ⟨c48, o_dep, rfl, by decide⟩
theorem ok_keys : FK 48 27 "keys" := ⟨c48, o_keys, rfl, by decide⟩
theorem ok_idx : FK 48 28 "indexes" := ⟨c48, o_idx, rfl, by decide⟩
theorem mk_add : MK 95 29 "add" 73 := ⟨m_add, rfl, by decide⟩
theorem mk_count : MK 95 30 "count" 80 := ⟨m_count, rfl, by decide⟩
theorem mk_told : MK 178 31 "told" 168 := ⟨m_told, rfl, by decide⟩
section
variable {W : Wd} {Z : St} {C : Cx W Z} {v : Env} {lm : Lm} {n : Led} {x y : Vl} {e f g : PySem.Expr} {R : Vl → Led → Prop} {pos : Pos}
theorem Ev.attr {i : Nat} {at' : Str} {o c dx : Addr} {fs : Fds} {b : Nat} (F : FK c i at') (O : Ob n o c dx fs b) (hf : fs.getD i none = some x) (h : Ev C v lm n e (.ref o))
    (h0 : eval (e.Attribute at' pos) v = (do let o ← eval e v; standAt pos.atName; let r ← holding [o] (getAttr o at' true); letTemporaryGo e o r; Pure.pure r)) : Ev C v lm n (.Attribute e at' pos) x := fun m s σ z =>
  Attribute_any_ ((h m s).go z fun u n' h' tk' z' q => by
    obtain ⟨q1, q2⟩ := q
    subst q2
    obtain rfl : u = .ref o := q1
    obtain ⟨es, k, hd, hp, hl, ζ, hF⟩ := O.2
    have q := hF i F.lt
    rw [hf] at q
    obtain ⟨w, hw, hx⟩ := q
    exact Wt.at (Wt.get ⟨O.1, k, hd⟩ F.cls F.pl (F.eq ▸ hw) (Vl.handed hx) ⟨hx, rfl⟩) z') h0
-- impure ones
theorem Vw.mono {R' : Vl → Led → Prop} (h : Vw C v lm n e R) (k : ∀ x n', R x n' → R' x n') : Vw C v lm n e R' := fun m s => (h m s).mono fun u n' q => q.elim fun x q => ⟨x, q.1, k _ _ q.2⟩
noncomputable def VwL (C : Cx W Z) (v : Env) (lm : Lm) (n : Led) (pos : Pos) (es : List PySem.Expr) (R : List Vl → Led → Prop) : Prop := ∀ m, Sat m lm → Wa C v m n pos es fun us n' => ∃ xs, IsAll xs us ∧ R xs n'
theorem VwL.nil {R : List Vl → Led → Prop} (r : R [] n) : VwL C v lm n pos [] R := fun m s => .nil ⟨[], trivial, r⟩
theorem VwL.cons {es : List PySem.Expr} {R : List Vl → Led → Prop} (h : Vw C v lm n e fun x n1 => VwL C v lm n1 pos es fun xs n2 => R (x :: xs) n2) (hs : starEach (e :: es) v = (false, eval e v) :: starEach es v) : VwL C v lm n pos (e :: es) R :=
  fun m s => .cons ((h m s).mono fun u n1 q => q.elim fun x q => Wt.mono (q.2 m s) fun us n2 r => r.elim fun xs r => ⟨x :: xs, ⟨q.1, r.1⟩, r.2⟩) hs
theorem VwL.one (h : Ev C v lm n e x) {es : List PySem.Expr} {R : List Vl → Led → Prop} (k : VwL C v lm n pos es fun xs n2 => R (x :: xs) n2) (hs : starEach (e :: es) v = (false, eval e v) :: starEach es v) : VwL C v lm n pos (e :: es) R := .cons (h.w k) hs
-- room
noncomputable def Rm (C : Cx W Z) (k : Nat) : Prop := C.A.depth + k < recursionLimit ∧ C.A.units + 8 * k < cLine
theorem Rm.le {k j : Nat} (h : Rm C k) (e : j ≤ k) : Rm C j := ⟨Nat.lt_of_le_of_lt (Nat.add_le_add_left e _) h.1, Nat.lt_of_le_of_lt (Nat.add_le_add_left (Nat.mul_le_mul_left 8 e) _) h.2⟩
end
noncomputable def DoesV (W : Wd) (f : Addr) (xs : List Vl) (k : Nat) (n : Led) (Post : Vl → Led → Prop) : Prop :=
  ∀ us, IsAll xs us → ∀ {Z : St} (C : Cx W Z) (m : Loc), Rm C k → Wt C m n (call (.ref f) us) fun r n' => ∃ x, x.is r ∧ Post x n'
section
variable {W : Wd} {Z : St} {C : Cx W Z} {v : Env} {lm : Lm} {n : Led} {x y : Vl} {e f g : PySem.Expr} {R : Vl → Led → Prop} {pos : Pos}
theorem Vw.fn {es : List PySem.Expr} {fe : PySem.Expr} {fa : Addr} {k : Nat} (hk : Kept fa) (rm : Rm C k) (hf : Ev C v lm n fe (.ref fa)) (h : VwL C v lm n pos (e :: es) fun xs n1 => DoesV W fa xs k n1 R)
    (h1 : eval (fe.Call (e :: es) [] pos) v = (do let f ← eval fe v; callWith pos f [] (backTo pos (starEach (e :: es) v)) (backToKw pos (keywordEach [] v))))
    (h2 : starEach (e :: es) v = (false, eval e v) :: starEach es v) (h3 : ((backTo pos (starEach es v)).any (·.1)) = false) : Vw C v lm n (fe.Call (e :: es) [] pos) R :=
  fun m s => .fn hk (hf.go s fun u q => ⟨q, (h m s).mono fun us n2 q => q.elim fun xs q => q.2 us q.1 C m rm⟩) h1 h2 h3
theorem Vw.fn0 {fe : PySem.Expr} {fa : Addr} {k : Nat} (hk : Kept fa) (rm : Rm C k) (hf : Ev C v lm n fe (.ref fa)) (h : DoesV W fa [] k n R)
    (h1 : eval (fe.Call [] [] pos) v = (do let f ← eval fe v; callWith pos f [] (backTo pos (starEach [] v)) (backToKw pos (keywordEach [] v)))) : Vw C v lm n (fe.Call [] [] pos) R :=
  fun m s => .fn0 hk (hf.go s fun u q => ⟨q, h [] trivial C m rm⟩) h1
theorem Wt.methO {m : Loc} {i : Nat} {at' : Str} {fa o c dx : Addr} {fs : Fds} {b : Nat} {pl : Sem Bool} {R : Value × List Value → Led → Prop} (M : MK c i at' fa) (O : Ob n o c dx fs b) (hf : fs.getD i none = Option.none) (r : R (.ref fa, [.ref o]) n) : Wt C m n (getMethod (.ref o) at' pl) R := by
  obtain ⟨es, k, hd, hp, hl, ζ, hF⟩ := O.2
  have q := hF i M.lt
  rw [hf] at q
  exact Wt.meth ⟨O.1, k, hd⟩ M.m (M.eq ▸ q) r
theorem Vw.me {es : List PySem.Expr} {i : Nat} {at' : Str} {ap : Pos} {fa o c dx : Addr} {fs : Fds} {b k : Nat} {pl : Sem Bool} (M : MK c i at' fa) (rm : Rm C k) (ho : Ev C v lm n f (.ref o)) (O : Ob n o c dx fs b) (hf : fs.getD i none = Option.none)
    (h : VwL C v lm n pos (e :: es) fun xs n1 => DoesV W fa (.ref o :: xs) k n1 R)
    (h1 : eval ((f.Attribute at' ap).Call (e :: es) [] pos) v = (do let ov ← eval f v; standAt ap.atName; let x ← holding [ov] (getMethod ov at' pl); match x with | (f, first) => callWith pos f first (backTo pos (starEach (e :: es) v)) []))
    (h2 : starEach (e :: es) v = (false, eval e v) :: starEach es v) (h3 : ((backTo pos (starEach es v)).any (·.1)) = false) : Vw C v lm n ((f.Attribute at' ap).Call (e :: es) [] pos) R :=
  fun m s => .me (ho.go s fun u q => (show u = _ from q) ▸ Wt.methO M O hf ⟨fa, .ref o, rfl, fun P => (M.m P).2.2.2, (h m s).mono fun us n2 q => q.elim fun xs q => q.2 (.ref o :: us) ⟨rfl, q.1⟩ C m rm⟩) h1 h2 h3
theorem Vw.me0 {i : Nat} {at' : Str} {ap : Pos} {fa o c dx : Addr} {fs : Fds} {b k : Nat} {pl : Sem Bool} (M : MK c i at' fa) (rm : Rm C k) (ho : Ev C v lm n f (.ref o)) (O : Ob n o c dx fs b) (hf : fs.getD i none = Option.none)
    (h : DoesV W fa [.ref o] k n R)
    (h1 : eval ((f.Attribute at' ap).Call [] [] pos) v = (do let ov ← eval f v; standAt ap.atName; let x ← holding [ov] (getMethod ov at' pl); match x with | (f, first) => callWith pos f first (backTo pos (starEach [] v)) [])) : Vw C v lm n ((f.Attribute at' ap).Call [] [] pos) R :=
  fun m s => .me0 (ho.go s fun u q => (show u = _ from q) ▸ Wt.methO M O hf ⟨fa, .ref o, rfl, fun P => (M.m P).2.2.2, h [.ref o] ⟨rfl, trivial⟩ C m rm⟩) h1
-- statements
structure Rs : Type where
  ret : Vl → Led → Prop
  nxt : Lm → Led → Prop
  cnt : Lm → Led → Prop
noncomputable def Rs.at (R : Rs) (f : Flow) (m : Loc) (n : Led) : Prop := match f with
  | .ret u => ∃ x, x.is u ∧ R.ret x n
  | .next => ∃ lm, Sat m lm ∧ R.nxt lm n
  | .cont => ∃ lm, Sat m lm ∧ R.cnt lm n
  | .brk => False
noncomputable def Sv (C : Cx W Z) (lm : Lm) (n : Led) (b : List Stmt) (R : Rs) : Prop := ∀ m, Sat m lm → Ws C m n b R.at
noncomputable abbrev Rs.then (R : Rs) (C : Cx W Z) (rest : List Stmt) : Rs := ⟨R.ret, fun lm n => Sv C lm n rest R, R.cnt⟩
variable {Q : Rs} {rest bd el : List Stmt}
theorem Sv.nil (r : Q.nxt lm n) : Sv C lm n [] Q := fun m s => .nil ⟨lm, s, r⟩
theorem Sv.cont (r : Q.cnt lm n) : Sv C lm n (.Continue pos :: rest) Q := fun m s => .cont ⟨lm, s, r⟩
theorem Sv.asgW {z : Str} {p : Pos} (h : Vw C C.env lm n e fun x n1 => Sv C ((z, x) :: lm) n1 rest Q) (hx : (Z.env 0).kindOf z = some .local)
    (hs : swapsWith e (some (.Name z p)) pos.line C.env = Pure.pure false) : Sv C lm n (.Assign [.Name z p] e pos :: rest) Q :=
  fun m s => .asg ((h m s).mono fun u n1 q => q.elim fun x q => q.2 _ (s.put q.1)) hx hs
theorem Sv.asg {z : Str} {p : Pos} (h : Ev C C.env lm n e x) (k : Sv C ((z, x) :: lm) n rest Q) (hx : (Z.env 0).kindOf z = some .local)
    (hs : swapsWith e (some (.Name z p)) pos.line C.env = Pure.pure false) : Sv C lm n (.Assign [.Name z p] e pos :: rest) Q := .asgW (h.w k) hx hs
theorem Sv.retW (h : Vw C C.env lm n e Q.ret) : Sv C lm n (.Return (some e) pos :: rest) Q := fun m s => .ret ((h m s).mono fun u n1 q => q)
theorem Sv.ret (h : Ev C C.env lm n e x) (r : Q.ret x n) : Sv C lm n (.Return (some e) pos :: rest) Q := .retW (h.w r)
theorem Rs.then_at {fl : Flow} {m' : Loc} {n' : Led} (h : (Q.then C rest).at fl m' n') : Then C rest Q.at fl m' n' := by
  cases fl with
  | next => exact h.elim fun lm q => q.2 m' q.1
  | _ => exact h
theorem Sv.iteW (h : Vb C C.env lm n e fun c n1 => if c = true then Sv C lm n1 bd (Q.then C rest) else Sv C lm n1 el (Q.then C rest)) : Sv C lm n (.If e bd el pos :: rest) Q :=
  fun m s => .ite ((h m s).mono fun c n1 q => by
    cases c with
    | true => exact Ws.mono ((show Sv C lm n1 bd (Q.then C rest) from q) m s) fun ζ ζ ζ => Rs.then_at
    | false => exact Ws.mono ((show Sv C lm n1 el (Q.then C rest) from q) m s) fun ζ ζ ζ => Rs.then_at)
end
end Mine
namespace Mine
noncomputable abbrev SatL (l : List (Str × Value)) (lm : Lm) : Prop := Sat (fun y => l.lookup y) lm
theorem SatL.nil : SatL [] [] := Sat.nil
theorem SatL.cons {l : List (Str × Value)} {lm : Lm} {k : Str} {u : Value} {x : Vl} (h : SatL l lm) (hx : x.is u) : SatL ((k, u) :: l) ((k, x) :: lm) := fun z w e => by
  show ∃ w', List.lookup z ((k, u) :: l) = some w' ∧ w.is w'
  rw [List.lookup_cons] at e ⊢
  by_cases q : (z == k) = true
  · rw [q] at e ⊢
    cases e
    exact ⟨u, rfl, hx⟩
  · rw [Bool.not_eq_true] at q
    rw [q] at e ⊢
    exact h z w e
section
variable {W : Wd} {Z : St} {C : Cx W Z} {v : Env} {lm : Lm} {n : Led} {x y : Vl} {e f g : PySem.Expr} {R : Vl → Led → Prop} {pos : Pos} {Q : Rs} {rest bd el : List Stmt} {b : Bool}
theorem Sv.ifT (h : Eb C C.env lm n e true) (k : Sv C lm n bd (Q.then C rest)) : Sv C lm n (.If e bd el pos :: rest) Q := .iteW (h.w (by rw [if_pos rfl]; exact k))
theorem Sv.ifF (h : Eb C C.env lm n e false) (k : Sv C lm n el (Q.then C rest)) : Sv C lm n (.If e bd el pos :: rest) Q := .iteW (h.w (by rw [if_neg Bool.false_ne_true]; exact k))
theorem Sv.skip (h : Eb C C.env lm n e false) (k : Sv C lm n rest Q) : Sv C lm n (.If e bd [] pos :: rest) Q := .ifF h (.nil k)
theorem Sv.ite (h : Eb C C.env lm n e b) (k : b = true → Sv C lm n bd (Q.then C rest)) (l : b = false → Sv C lm n el (Q.then C rest)) : Sv C lm n (.If e bd el pos :: rest) Q := by
  cases b with
  | true => exact .ifT h (k rfl)
  | false => exact .ifF h (l rfl)
theorem Sv.ex (h : Vw C C.env lm n e fun x n1 => match x with | .ref _ => False | _ => Sv C lm n1 rest Q)
    (hi : interactive C.env = false) (hs : swapsWith e Option.none pos.line C.env = Pure.pure false) : Sv C lm n (.Expr e pos :: rest) Q :=
  fun m s => .ex ((h m s).mono fun u n1 q => by
    obtain ⟨x, hx, r⟩ := q
    cases x with
    | ref _ => exact r.elim
    | int i => obtain ⟨t, rfl⟩ := hx; exact r m s
    | str i => obtain ⟨t, rfl⟩ := hx; exact r m s
    | bool i => cases hx; exact r m s
    | none => cases hx; exact r m s
    | bytes i => obtain ⟨t, rfl⟩ := hx; exact r m s) hi hs
noncomputable def Store (C : Cx W Z) (lm : Lm) (o : PySem.Expr) (at' : Str) (R : Led → Prop) (x : Vl) (n : Led) : Prop :=
  ∃ c i z dx fs b, FK c i at' ∧ Ev C C.env lm n o (.ref z) ∧ Ob n z c dx fs b ∧ b ≤ 800 ∧ ∀ n' b', One n → b' = (if fs.getD i none = Option.none then b + 1 else b) → Ob n' z c dx (fs.set i (some x)) b' → (Kl dx n n') → R n'
theorem Store.put {o : PySem.Expr} {at' : Str} {R : Led → Prop} {u : Value} {m : Loc} (h : Store C lm o at' R x n) (hx : x.is u) (s : Sat m lm) : We C C.env m n o fun ov n1 => Wt C m n1 (setAttr ov at' u) fun ζ n' => R n' := by
  obtain ⟨c, i, z, dx, fs, b, F, ho, O, hb, k⟩ := h
  refine ho.go s fun w hw => ?_
  obtain rfl : w = .ref z := hw
  obtain ⟨es, kk, hd, hp, hl, hfl, hF⟩ := O.2
  refine Wt.one fun one => Wt.set O.1 hd F.cls F.pl hp (by omega) fun es' k' n' P T => ?_
  have ne : z ≠ dx := fun e => by have q := one _ _ _ (e ▸ O.1) hd; cases q
  have P : Put (ks i) u es es' := F.eq ▸ P
  refine k n' _ one rfl ⟨T.there _ O.1 ne, es', k', T.here, P.pure, ?_, by rw [List.length_set]; exact hfl, fldO_put hfl F.lt P hx hF⟩ T.there
  split
  · exact Nat.le_trans P.len (Nat.succ_le_succ hl)
  · rename_i hne
    have q := hF i F.lt
    cases hz : fs.getD i none with
    | none => exact absurd hz hne
    | some y => rw [hz] at q; obtain ⟨w, hw, ζ⟩ := q; rw [P.same w hw]; exact hl
theorem Sv.setaW {o : PySem.Expr} {at' : Str} {p : Pos} (h : Vw C C.env lm n e (Store C lm o at' fun n' => Sv C lm n' rest Q))
    (hs : swapsWith e (some (o.Attribute at' p)) pos.line C.env = Pure.pure false) : Sv C lm n (.Assign [.Attribute o at' p] e pos :: rest) Q :=
  fun m s => .seta ((h m s).mono fun u n1 q => let ⟨_, hx, q⟩ := q; (q.put hx s).mono fun ζ ζ q => q.mono fun ζ ζ q => q m s) hs
theorem Sv.seta {o : PySem.Expr} {at' : Str} {p : Pos} {c i z dx b : Nat} {fs : Fds} (F : FK c i at') (h : Ev C C.env lm n e x) (ho : Ev C C.env lm n o (.ref z)) (O : Ob n z c dx fs b) (hb : b ≤ 800) (hy : fs.getD i none = some y)
    (k : ∀ n', Ob n' z c dx (fs.set i (some x)) b → (Kl dx n n') → Sv C lm n' rest Q)
    (hs : swapsWith e (some (o.Attribute at' p)) pos.line C.env = Pure.pure false) : Sv C lm n (.Assign [.Attribute o at' p] e pos :: rest) Q :=
  .setaW (h.w ⟨c, i, z, dx, fs, b, F, ho, O, hb, fun n' b' ζ e O' t => k n' (by rw [hy, if_neg (by simp)] at e; exact e ▸ O') t⟩) hs
theorem Sv.setn {o : PySem.Expr} {at' : Str} {p : Pos} {c i z dx b : Nat} {fs : Fds} (F : FK c i at') (h : Ev C C.env lm n e x) (ho : Ev C C.env lm n o (.ref z)) (O : Ob n z c dx fs b) (hb : b ≤ 800)
    (k : ∀ n', Ob n' z c dx (fs.set i (some x)) (b + 1) → (Kl dx n n') → Sv C lm n' rest Q)
    (hs : swapsWith e (some (o.Attribute at' p)) pos.line C.env = Pure.pure false) : Sv C lm n (.Assign [.Attribute o at' p] e pos :: rest) Q :=
  .setaW (h.w ⟨c, i, z, dx, fs, b, F, ho, O, hb, fun n' b' ζ e O' t => k n' (O'.le (by rw [e]; split <;> omega)) t⟩) hs
theorem enterV {f : Addr} {name qual : Str} {params : Arguments} {body : List Stmt} {scope : Scope} {dV kV doc pm cdv ct oc : Value} {an od : Option Addr} {osl : Array (Option Value)} {xs : List Vl} (bs : List Value → List (Str × Value)) (lm : Lm) {k : Nat} {Post : Vl → Led → Prop}
    (ho : ∀ P, (frag P).lookup f = some ⟨oc, od, .func (fnOf name qual params body scope dV kV doc pm an cdv ct), osl⟩) (hcd : ∀ P, codeIn (frag P) cdv qual = true)
    (hb : ∀ us, IsAll xs us → SatL (bs us).reverse lm ∧ ((bs us).all fun x => decide (scope.names.lookup x.1 = some .local)) = true ∧ ∀ (s : Shared) P, (frag P).In s.heap → BindsTo s (fnOf name qual params body scope dV kV doc pm an cdv ct) ⟨us, []⟩ (bs us))
    (h : ∀ C : Cx W ⟨qual, scope, f, cdv, []⟩, Rm C k → Sv C lm n body ⟨Post, fun ζ n' => Post .none n', fun ζ ζ => False⟩)
    (c1 : scope.isCoroutine = false) (c2 : scope.isGenerator = false) (c3 : scope.kind = .function) (c4 : ∀ x ∈ scope.names, x.2 ≠ .cell) : DoesV W f xs (k + 1) n Post := by
  intro us hus Z C m rm
  obtain ⟨b1, b2, b3⟩ := hb us hus
  refine enter (d := k) (u := 8 * k) (n := n) (Post := fun r n' => ∃ x, x.is r ∧ Post x n') ho hcd b3 b2 (fun C' e1 e2 => (h C' ⟨e1, e2⟩ _ b1).mono fun fl m' n' q => ?_) c1 c2 c3 c4 C m rm.1 (Nat.lt_of_le_of_lt (Nat.add_le_add_left (Nat.add_le_add_left (show 3 ≤ 8 from by decide) (8 * k)) _) rm.2)
  cases fl with
  | ret u => exact q
  | next => exact q.elim fun ζ q => ⟨.none, rfl, q.2⟩
  | cont => exact q.elim fun ζ q => q.2.elim
  | brk => exact q.elim
theorem makeV {c fI : Addr} {name qual : Str} {params : Arguments} {body : List Stmt} {scope : Scope} {dV kV doc pm cdv ct oc : Value} {an od : Option Addr} {osl : Array (Option Value)} {xs : List Vl} (bs : Addr → List Value → List (Str × Value)) (lm : Addr → Lm) {k : Nat} {Post : Vl → Led → Prop}
    (hm : ∀ P, makesIn (frag P) c = true) (hi : ∀ P, findIn (frag P) (.ref c) "__init__" = some (some (.ref fI))) (hf : ∀ P, isFn (frag P) (.ref fI) = true)
    (ho : ∀ P, (frag P).lookup fI = some ⟨oc, od, .func (fnOf name qual params body scope dV kV doc pm an cdv ct), osl⟩) (hcd : ∀ P, codeIn (frag P) cdv qual = true)
    (hb : ∀ us, IsAll xs us → ∀ x, SatL (bs x us).reverse (lm x) ∧ ((bs x us).all fun x => decide (scope.names.lookup x.1 = some .local)) = true ∧ ∀ (s : Shared) P, (frag P).In s.heap → BindsTo s (fnOf name qual params body scope dV kV doc pm an cdv ct) ⟨.ref x :: us, []⟩ (bs x us))
    (h : ∀ (C : Cx W ⟨qual, scope, fI, cdv, []⟩) x dx, (Lw n dx) → dx < x → Rm C k → Sv C (lm x) ((x, instObj c dx) :: (dx, dictOf [] 0) :: n) body ⟨fun ζ ζ => False, fun ζ n' => Post (.ref x) n', fun ζ ζ => False⟩)
    (c1 : scope.isCoroutine = false) (c2 : scope.isGenerator = false) (c3 : scope.kind = .function) (c4 : ∀ x ∈ scope.names, x.2 ≠ .cell) : DoesV W c xs (k + 2) n Post := by
  intro us hus Z C m rm
  refine make (d := k) (u := 8 * k) (n := n) (binds := fun x => bs x us) (Post := fun r n' => ∃ x, x.is r ∧ Post x n') hm hi hf ho hcd (fun s P x => (hb us hus x).2.2 s P) (fun x => (hb us hus x).2.1) (fun C' x dx l1 l2 e1 e2 => (h C' x dx l1 l2 ⟨e1, e2⟩ _ (hb us hus x).1).mono fun fl m' n' q => ?_) c1 c2 c3 c4 C m rm.1 (Nat.lt_of_le_of_lt (Nat.add_le_add_left (Nat.add_le_add_left (show 4 ≤ 16 from by decide) (8 * k)) _) rm.2)
  cases fl with
  | ret u => exact q.elim fun ζ q => q.2.elim
  | next => exact q.elim fun ζ q => ⟨rfl, .ref x, rfl, q.2⟩
  | cont => exact q.elim fun ζ q => q.2.elim
  | brk => exact q.elim
-- lists
noncomputable def Lst (n : Led) (l : Addr) (us : List Value) : Prop := ∃ k, (l, listOf us.toArray k) ∈ n
theorem Vw.list {es : List PySem.Expr} (h : VwL C v lm n pos es fun xs n1 => ∀ us l, IsAll xs us → us.length ≤ 1000 ∧ ((Lw n1 l) → R (.ref l) ((l, listOf us.toArray 0) :: n1))) : Vw C v lm n (.List es pos) R :=
  fun m s => .list ((h m s).mono fun us n1 q => q.elim fun xs q => .newList (q.2 us 0 q.1).1 fun l lt => ⟨.ref l, rfl, (q.2 us l q.1).2 lt⟩)
theorem Vw.nilList (h : ∀ l, (Lw n l) → R (.ref l) ((l, listOf [].toArray 0) :: n)) : Vw C v lm n (.List [] pos) R :=
  .list (.nil fun us l q => by
    cases us with
    | nil => exact ⟨by decide, h l⟩
    | cons _ _ => exact q.elim)
end
end Mine
namespace Mine
theorem IsAll.length : ∀ {xs : List Vl} {us : List Value}, IsAll xs us → us.length = xs.length
  | [], [], _ => rfl
  | _ :: _, _ :: _, h => congrArg (· + 1) (IsAll.length h.2)
  | [], _ :: _, h => h.elim
  | _ :: _, [], h => h.elim
theorem IsAll.one {x : Vl} {us : List Value} (h : IsAll [x] us) : ∃ u, us = [u] ∧ x.is u := by
  cases us with
  | nil => exact h.elim
  | cons u us => cases us with
    | nil => exact ⟨u, rfl, h.1⟩
    | cons v us => exact h.2.elim
theorem IsAll.two {x y : Vl} {us : List Value} (h : IsAll [x, y] us) : ∃ u v, us = [u, v] ∧ x.is u ∧ y.is v := by
  cases us with
  | nil => exact h.elim
  | cons u us => exact (IsAll.one h.2).elim fun v q => ⟨u, v, congrArg (u :: ·) q.1, h.1, q.2⟩
theorem IsAll.get : ∀ {xs : List Vl} {us : List Value} {j : Nat} {x : Vl}, IsAll xs us → xs[j]? = some x → ∃ u, us[j]? = some u ∧ x.is u
  | [], _, _, _, _, h => by simp at h
  | x :: _, u :: _, 0, _, h, e => by cases e; exact ⟨u, rfl, h.1⟩
  | _ :: _, _ :: _, j + 1, _, h, e => by
    obtain ⟨w, p, q⟩ := IsAll.get (j := j) h.2 (by simpa using e)
    exact ⟨w, by simpa using p, q⟩
  | _ :: _, [], _, _, h, _ => h.elim
theorem IsAll.append : ∀ {xs ys : List Vl} {us vs : List Value}, IsAll xs us → IsAll ys vs → IsAll (xs ++ ys) (us ++ vs)
  | [], _, [], _, _, k => k
  | _ :: _, _, _ :: _, _, h, k => ⟨h.1, IsAll.append h.2 k⟩
  | [], _, _ :: _, _, h, _ => h.elim
  | _ :: _, _, [], _, h, _ => h.elim
theorem IsAll.ints : ∀ {ns : List Int} {us : List Value}, IsAll (ns.map Vl.int) us → IntsAre us ns
  | [], [], _ => .nil
  | _ :: _, _ :: _, h => by obtain ⟨t, rfl⟩ := h.1; exact .cons _ _ (IsAll.ints h.2)
  | [], _ :: _, h => h.elim
  | _ :: _, [], h => h.elim
theorem IsAll.of_ints {ns : List Int} {us : List Value} (h : IntsAre us ns) : IsAll (ns.map Vl.int) us := by
  induction h with
  | nil => exact trivial
  | cons k t _ ih => exact ⟨⟨t, rfl⟩, ih⟩
noncomputable def LV (n : Led) (l : Addr) (xs : List Vl) : Prop := ∃ us k, (l, listOf us.toArray k) ∈ n ∧ IsAll xs us
theorem LV.mono {n n' : Led} {l : Addr} {xs : List Vl} (h : LV n l xs) (k : ∀ o, (l, o) ∈ n → (l, o) ∈ n') : LV n' l xs := by obtain ⟨us, c, p, q⟩ := h; exact ⟨us, c, k _ p, q⟩
theorem LV.off {n n' : Led} {l d : Addr} {xs : List Vl} (h : LV n l xs) (k : Kl d n n') (ne : l ≠ d) : LV n' l xs := h.mono fun o q => k _ q ne
noncomputable def TV (n : Led) (l : Addr) (xs : List Vl) : Prop := ∃ us, (l, tupOf us) ∈ n ∧ IsAll xs us
theorem TV.mono {n n' : Led} {l : Addr} {xs : List Vl} (h : TV n l xs) (k : ∀ o, (l, o) ∈ n → (l, o) ∈ n') : TV n' l xs := by obtain ⟨us, p, q⟩ := h; exact ⟨us, k _ p, q⟩
section
variable {W : Wd} {Z : St} {C : Cx W Z} {v : Env} {lm : Lm} {n : Led} {x y : Vl} {e f g : PySem.Expr} {R : Vl → Led → Prop} {pos p1 : Pos} {Q : Rs} {rest bd el : List Stmt} {b : Bool} {l : Addr} {xs ys : List Vl} {j : Int}
theorem Ev.len (h : Ev C v lm n e (.ref l)) (L : LV n l xs) (hz : xs.length ≤ 100000)
    {fe : PySem.Expr} (hf : ∀ m (R : Value → Led → Prop), R (.builtin "len") n → We C v m n fe R)
    (h1 : eval (fe.Call [e] [] pos) v = (do let f ← eval fe v; callWith pos f [] (backTo pos (starEach [e] v)) (backToKw pos (keywordEach [] v))))
    (h2 : starEach [e] v = (false, eval e v) :: starEach [] v) (h3 : ((backTo pos (starEach [] v)).any (·.1)) = false) : Ev C v lm n (fe.Call [e] [] pos) (.int xs.length) := fun m s =>
  .bi (hf m _ ⟨rfl, .cons (h.go s fun u q => .nil ((show u = _ from q) ▸ (let ⟨us, k, p, q⟩ := L; q.length ▸ .len p (by rw [q.length]; exact hz) fun t => ⟨⟨t, rfl⟩, rfl⟩))) h2⟩) h1 h2 h3
theorem Ev.itemL (h : Ev C v lm n e (.ref l)) (L : LV n l xs) (hi : Ev C v lm n f (.int j)) (h0 : 0 ≤ j) (h1 : j < 100000) (hx : xs[j.toNat]? = some x)
    (hs : ∀ u, subscripted f false (.ref l) (.int j u) = operate [.ref l, .int j u] (getItem (.ref l) (.int j u))) (hg : ∀ r, letTemporaryGo e (.ref l) r = Pure.pure ()) : Ev C v lm n (.Subscript e f pos) x := fun m s =>
  .sub (h.go s fun u q => hi.go s fun w ⟨t, p⟩ => by
    obtain ⟨us, k, hm, hu⟩ := L
    obtain ⟨z, hz, hxz⟩ := hu.get hx
    obtain rfl : u = .ref l := q
    subst p
    exact .itemL hm h0 h1 hz ⟨hxz, rfl⟩ (hs t) hg)
theorem Vw.appends {o : PySem.Expr} {ap : Pos} {pl : Sem Bool} (ho : Ev C v lm n o (.ref l)) (L : LV n l xs) (hz : xs.length ≤ 100000)
    (h : Vw C v lm n e fun x n1 => LV n1 l xs ∧ ∀ n2, LV n2 l (xs ++ [x]) → (Kl l n1 n2) → R .none n2)
    (h1 : eval ((o.Attribute "append" ap).Call [e] [] pos) v = (do let ov ← eval o v; standAt ap.atName; let x ← holding [ov] (getMethod ov "append" pl); match x with | (f, first) => callWith pos f first (backTo pos (starEach [e] v)) []))
    (h2 : starEach [e] v = (false, eval e v) :: starEach [] v) (h3 : ((backTo pos (starEach [] v)).any (·.1)) = false) : Vw C v lm n ((o.Attribute "append" ap).Call [e] [] pos) R := fun m s =>
  .li PySem.F.slot_list_append PySem.F.type_list_append (ho.go s fun u q => by
    obtain ⟨us, k, hm, hu⟩ := L
    obtain rfl : u = .ref l := q
    refine ⟨l, _, k, rfl, hm, .cons ((h m s).mono fun w n1 q => .nil ?_) h2⟩
    obtain ⟨x, hx, ⟨us1, k1, hm1, hu1⟩, q⟩ := q
    exact .append hm1 (by rw [hu1.length]; exact hz) fun n2 T => ⟨.none, rfl, q n2 ⟨_, _, T.here, hu1.append ⟨hx, trivial⟩⟩ T.there⟩) h1 h2 h3
theorem Vw.extends {o : PySem.Expr} {ap : Pos} {pl : Sem Bool} (ho : Ev C v lm n o (.ref l)) (L : LV n l xs)
    (h : Vw C v lm n e fun x n1 => ∃ l2 ys, x = .ref l2 ∧ LV n1 l xs ∧ LV n1 l2 ys ∧ l ≠ l2 ∧ xs.length + ys.length ≤ 100000 ∧ ∀ n2, One n1 → LV n2 l (xs ++ ys) → (Kl l n1 n2) → R .none n2)
    (h1 : eval ((o.Attribute "extend" ap).Call [e] [] pos) v = (do let ov ← eval o v; standAt ap.atName; let x ← holding [ov] (getMethod ov "extend" pl); match x with | (f, first) => callWith pos f first (backTo pos (starEach [e] v)) []))
    (h2 : starEach [e] v = (false, eval e v) :: starEach [] v) (h3 : ((backTo pos (starEach [] v)).any (·.1)) = false) : Vw C v lm n ((o.Attribute "extend" ap).Call [e] [] pos) R := fun m s =>
  .li PySem.F.slot_list_extend PySem.F.type_list_extend (ho.go s fun u q => by
    obtain ⟨us, k, hm, hu⟩ := L
    obtain rfl : u = .ref l := q
    refine ⟨l, _, k, rfl, hm, .cons ((h m s).mono fun w n1 q => .nil ?_) h2⟩
    obtain ⟨x, hx, l2, ys, rfl, ⟨us1, k1, hm1, hu1⟩, ⟨us2, k2, hm2, hu2⟩, ne, hz, q⟩ := q
    obtain rfl : w = .ref l2 := hx
    exact Wt.one fun one => .extend hm1 hm2 ne (by rw [hu1.length, hu2.length]; exact hz) fun n2 k' T => ⟨.none, rfl, q n2 one ⟨_, _, T.here, hu1.append hu2⟩ T.there⟩) h1 h2 h3
theorem Wt.pop0 {m : Loc} {D : Addr} {v : Value} {vs : List Value} {k : Nat} {u : Tok} {RV : Value → Led → Prop} (hm : (D, listOf (v :: vs).toArray k) ∈ n) (hz : vs.length ≤ 100000) (r : ∀ n', Turn n n' D (listOf vs.toArray (k + 1)) → RV v n') :
    Wt C m n (call (.builtin "list.pop") [.ref D, .int 0 u]) RV := fun s y => by
  have y' := y.turn hm
  refine kl_popAt (k := 0) (p := []) (q := vs) (y := v) y'.1 y'.2 rfl (seqIndex_in (Int.le_refl 0) (by simp)) rfl (.head off_filter) (by rw [sizeLine_eq]; simp; omega) fun h' F N => ?_
  exact out (tk' := s.toks) ⟨F, N⟩ (r _ turn_of)
theorem Vw.pop0 {o : PySem.Expr} {ap : Pos} {pl : Sem Bool} (ho : Ev C v lm n o (.ref l)) (L : LV n l (x :: xs)) (hz : xs.length ≤ 100000) (hi : Ev C v lm n e (.int 0))
    (h : ∀ n2, LV n2 l xs → (Kl l n n2) → R x n2)
    (h1 : eval ((o.Attribute "pop" ap).Call [e] [] pos) v = (do let ov ← eval o v; standAt ap.atName; let x ← holding [ov] (getMethod ov "pop" pl); match x with | (f, first) => callWith pos f first (backTo pos (starEach [e] v)) []))
    (h2 : starEach [e] v = (false, eval e v) :: starEach [] v) (h3 : ((backTo pos (starEach [] v)).any (·.1)) = false) : Vw C v lm n ((o.Attribute "pop" ap).Call [e] [] pos) R := fun m s =>
  .li PySem.F.slot_list_pop PySem.F.type_list_pop (ho.go s fun u q => by
    obtain ⟨us, k, hm, hu⟩ := L
    obtain rfl : u = .ref l := q
    cases us with
    | nil => exact hu.elim
    | cons w ws =>
      refine ⟨l, _, k, rfl, hm, .cons (hi.go s fun z ⟨t, hz2⟩ => .nil ?_) h2⟩
      subst hz2
      exact .pop0 hm (by rw [hu.2.length]; exact hz) fun n2 T => ⟨x, hu.1, h n2 ⟨_, _, T.here, hu.2⟩ T.there⟩) h1 h2 h3
theorem Sv.put0 {o i : PySem.Expr} {p : Pos} {z : Int} {ns : List Int} {z0 : Int} (h : Ev C C.env lm n e (.int z)) (ho : Ev C C.env lm n o (.ref l)) (hi : Ev C C.env lm n i (.int 0)) (L : LV n l ((z0 :: ns).map Vl.int))
    (k : ∀ n2, LV n2 l ((z :: ns).map Vl.int) → (Kl l n n2) → Sv C lm n2 rest Q)
    (hs : swapsWith e (some (o.Subscript i p)) pos.line C.env = Pure.pure false) : Sv C lm n (.Assign [.Subscript o i p] e pos :: rest) Q := fun m s σ y =>
  wpAny_execs_cons (wpAny_Assign_Subscript ((h m s).go y fun u n1 h1 t1 y1 q => by
    obtain ⟨⟨tz, rfl⟩, rfl⟩ := q
    refine (ho m s).go y1 fun w n2 h2 t2 y2 q => ?_
    obtain ⟨q, rfl⟩ := q
    obtain rfl : w = .ref l := q
    refine (hi m s).go y2 fun w n3 h3 t3 y3 q => ?_
    obtain ⟨⟨tw, rfl⟩, rfl⟩ := q
    obtain ⟨us, c, hm, hu⟩ := L
    have hI := hu.ints
    cases us with
    | nil => exact hu.elim
    | cons w ws =>
      have y' := y3.turn hm
      refine ksa_set y'.1 y'.2 (.head off_filter) hI (Int.le_refl 0) (by simp only [List.length_cons]; omega) (by decide) fun h' F N hi' ζ ζ => ?_
      refine Ws.at (k _ ⟨_, _, (turn_of (n := n3)).here, ?_⟩ (turn_of (n := n3)).there m s) ⟨F, N⟩
      exact ⟨⟨tz, rfl⟩, hu.2⟩) hs)
end
-- the pool
noncomputable def takeD (ns : List Int) (k : Int) : Int := match ns with | [] => 0 | n :: _ => n.fmod k
noncomputable def takeP (ns : List Int) (k : Int) : List Int := match ns with | [] => [] | n :: r => if n.fdiv k = 0 then r else (n.fdiv k) :: r
noncomputable abbrev Pool (n : Led) (pl : Addr) (ns : List Int) : Prop := LV n pl (ns.map Vl.int)
end Mine
namespace Mine
theorem SatL.zipA {ys : List Str} : ∀ {xs : List Vl} {us : List Value} {l : List (Str × Value)} {lm : Lm}, IsAll xs us → SatL l lm → SatL ((ys.zip us).reverseAux l) ((ys.zip xs).reverseAux lm) := by
  induction ys with
  | nil => intro xs us l lm h s; rw [List.zip_nil_left, List.zip_nil_left]; exact s
  | cons y ys ih =>
    intro xs us l lm h s
    cases xs with
    | nil =>
      cases us
      · exact s
      · exact h.elim
    | cons x xs =>
      cases us
      · exact h.elim
      · exact ih h.2 (s.cons h.1)
theorem all_zip {sn : List (Str × NameKind)} {ys : List Str} : ∀ {us : List Value}, (ys.all fun y => decide (sn.lookup y = some .local)) = true → ((ys.zip us).all fun x => decide (sn.lookup x.1 = some .local)) = true := by
  induction ys with
  | nil => intro us h; rw [List.zip_nil_left]; rfl
  | cons y ys ih =>
    intro us h
    cases us
    · rfl
    · rw [List.all_cons, Bool.and_eq_true] at h
      rw [List.zip_cons_cons, List.all_cons, Bool.and_eq_true]
      exact ⟨h.1, ih h.2⟩
theorem len0 {Q : List Value → Prop} (h : Q []) : ∀ us, us.length = 0 → Q us := fun us e => by
  cases us with
  | nil => exact h
  | cons _ _ => exact absurd e (by simp)
theorem lenS {Q : List Value → Prop} {k : Nat} (h : ∀ u us, us.length = k → Q (u :: us)) : ∀ us, us.length = k + 1 → Q us := fun us e => by
  cases us with
  | nil => exact absurd e (by simp)
  | cons u us => exact h u us (by simpa using e)
theorem len1 {Q : List Value → Prop} (h : ∀ a, Q [a]) : ∀ us, us.length = 1 → Q us := lenS fun a => len0 (h a)
theorem len2 {Q : List Value → Prop} (h : ∀ a b, Q [a, b]) : ∀ us, us.length = 2 → Q us := lenS fun a => len1 (h a)
theorem len3 {Q : List Value → Prop} (h : ∀ a b c, Q [a, b, c]) : ∀ us, us.length = 3 → Q us := lenS fun a => len2 (h a)
theorem len4 {Q : List Value → Prop} (h : ∀ a b c d, Q [a, b, c, d]) : ∀ us, us.length = 4 → Q us := lenS fun a => len3 (h a)
theorem len6 {Q : List Value → Prop} (h : ∀ a b c d e f, Q [a, b, c, d, e, f]) : ∀ us, us.length = 6 → Q us := lenS fun a => lenS fun b => len4 (h a b)
variable {W : Wd} {n : Led} {c fI : Addr} {name qual : Str} {params : Arguments} {body : List Stmt} {scope : Scope} {dV kV doc pm cdv ct oc : Value} {an od : Option Addr} {osl : Array (Option Value)} {xs : List Vl} {k : Nat} {Post : Vl → Led → Prop}
theorem enterZ {f : Addr} (ys : List Str) (lm : Lm)
    (ho : ∀ P, (frag P).lookup f = some ⟨oc, od, .func (fnOf name qual params body scope dV kV doc pm an cdv ct), osl⟩) (hcd : ∀ P, codeIn (frag P) cdv qual = true)
    (hb : ∀ us, us.length = xs.length → ∀ s : Shared, BindsTo s (fnOf name qual params body scope dV kV doc pm an cdv ct) ⟨us, []⟩ (ys.zip us))
    (hl : (ys.all fun y => decide (scope.names.lookup y = some .local)) = true) (hz : (ys.zip xs).reverse = lm)
    (h : ∀ C : Cx W ⟨qual, scope, f, cdv, []⟩, Rm C k → Sv C lm n body ⟨Post, fun ζ n' => Post .none n', fun ζ ζ => False⟩)
    (c1 : scope.isCoroutine = false) (c2 : scope.isGenerator = false) (c3 : scope.kind = .function) (c4 : (scope.names.all fun x => decide (x.2 ≠ .cell)) = true) : DoesV W f xs (k + 1) n Post :=
  enterV (fun us => ys.zip us) lm ho hcd (fun us h => ⟨hz ▸ .zipA h .nil, all_zip hl, fun s P ζ => hb us h.length s⟩) h c1 c2 c3 fun x hx => of_decide_eq_true (List.all_eq_true.mp c4 x hx)
theorem makeZ (ys : List Str) (lm : Addr → Lm)
    (hm : ∀ P, makesIn (frag P) c = true) (hi : ∀ P, findIn (frag P) (.ref c) "__init__" = some (some (.ref fI))) (hf : ∀ P, isFn (frag P) (.ref fI) = true)
    (ho : ∀ P, (frag P).lookup fI = some ⟨oc, od, .func (fnOf name qual params body scope dV kV doc pm an cdv ct), osl⟩) (hcd : ∀ P, codeIn (frag P) cdv qual = true)
    (ds : List Value) (dx : List Vl) (hds : IsAll dx ds)
    (hb : ∀ us, us.length = xs.length → ∀ (s : Shared) P x, (frag P).In s.heap → BindsTo s (fnOf name qual params body scope dV kV doc pm an cdv ct) ⟨.ref x :: us, []⟩ (ys.zip (.ref x :: (us ++ ds))))
    (hl : (ys.all fun y => decide (scope.names.lookup y = some .local)) = true) (hz : ∀ x, (ys.zip (.ref x :: (xs ++ dx))).reverse = lm x)
    (h : ∀ (C : Cx W ⟨qual, scope, fI, cdv, []⟩) x dx, (Lw n dx) → dx < x → Rm C k → Sv C (lm x) ((x, instObj c dx) :: (dx, dictOf [] 0) :: n) body ⟨fun ζ ζ => False, fun ζ n' => Post (.ref x) n', fun ζ ζ => False⟩)
    (c1 : scope.isCoroutine = false) (c2 : scope.isGenerator = false) (c3 : scope.kind = .function) (c4 : (scope.names.all fun x => decide (x.2 ≠ .cell)) = true) : DoesV W c xs (k + 2) n Post :=
  makeV (fun x us => ys.zip (.ref x :: (us ++ ds))) lm hm hi hf ho hcd (fun us h x => ⟨hz x ▸ .zipA (show IsAll (.ref x :: (xs ++ dx)) (.ref x :: (us ++ ds)) from ⟨rfl, h.append hds⟩) .nil, all_zip hl, fun s P X => hb us h.length s P x X⟩) h c1 c2 c3 fun x hx => of_decide_eq_true (List.all_eq_true.mp c4 x hx)
-- the take
theorem b_len : bootBuiltins "len" = some (.builtin "len") := by boot_by_name
theorem take_v {pl : Addr} {ns : List Int} {k : Int} (hp : Pool n pl ns) (hz : ns.length ≤ 24) (hk : 2 ≤ k) (hk2 : k ≤ 20)
    (ret : ∀ n', Pool n' pl (takeP ns k) → (Kl pl n n') → Post (.int (takeD ns k)) n') : DoesV W 210 [.ref pl, .int k] 2 n Post := by
  refine enterZ (k := 1) ["pool", "many"] [("many", .int k), ("pool", .ref pl)] (by intro P; k_is) (by intro P; k_is) (len2 fun a b s => .of_eq rfl) rfl rfl (fun C rm => ?_) rfl rfl rfl rfl
  have hlen : ∀ m (R : Value → Led → Prop), R (.builtin "len") n → We C C.env m n (.Name "len" ⟨135, 7, 135, 10⟩) R := fun ζ ζ r => .blt n_len b_len (by decide) r
  cases ns with
  | nil =>
    refine .ifT (.cmp ((Cp.eqI (.len (.loc rfl rfl (by decide)) hp (by decide) hlen rfl rfl rfl) .int).to rfl) rfl) (.ret .int (ret n hp fun p hp ζ => hp))
  | cons z ns =>
    have hz' : (ns.map Vl.int).length ≤ 100000 := by rw [List.length_map]; exact Nat.le_trans (Nat.le_of_succ_le hz) (by decide)
    refine .skip (.cmp ((Cp.eqI (.len (.loc rfl rfl (by decide)) hp (by rw [List.length_map]; exact Nat.le_trans hz (by decide)) hlen rfl rfl rfl) .int).to (beq_eq_false_iff_ne.mpr (Int.ofNat_ne_zero.mpr (Nat.succ_ne_zero _)))) rfl) ?_
    have k0 : k ≠ 0 := by omega
    refine .asg (.mod (.itemL (.loc rfl rfl (by decide)) hp .int (by decide) (by decide) rfl (fun ζ => rfl) (fun ζ => rfl)) (.loc rfl rfl (by decide)) k0) ?_ rfl rfl
    refine .put0 (.div (.itemL (.loc rfl rfl (by decide)) hp .int (by decide) (by decide) rfl (fun ζ => rfl) (fun ζ => rfl)) (.loc rfl rfl (by decide)) k0 (by omega)) (.loc rfl rfl (by decide)) .int hp (fun n2 P2 K2 => ?_) rfl
    refine .ite (.cmp (.eqI (.itemL (.loc rfl rfl (by decide)) P2 .int (by decide) (by decide) rfl (fun ζ => rfl) (fun ζ => rfl)) .int) rfl) (fun q => ?_) (fun q => ?_)
    · refine .ex (.pop0 (.loc rfl rfl (by decide)) P2 hz' .int (fun n3 P3 K3 => ?_) rfl rfl rfl) rfl rfl
      refine .nil (.ret (.loc rfl rfl (by decide)) (ret n3 ?_ fun p hp hne => K3 p (K2 p hp hne) hne))
      show Pool n3 pl (if z.fdiv k = 0 then _ else _)
      rw [if_pos (beq_iff_eq.mp q)]; exact P3
    · refine .nil (.ret (.loc rfl rfl (by decide)) (ret n2 ?_ K2))
      show Pool n2 pl (if z.fdiv k = 0 then _ else _)
      rw [if_neg (beq_eq_false_iff_ne.mp q)]; exact P2
end Mine
namespace Mine
structure It : Type where
  lv : Int
  nm : Str
  us : Str
  rd : Str
  oc : Vl
  par : Vl
  off : Int
  sz : Int
  sh : Vl
  cd : Addr
  kl : Addr
noncomputable def It.fs (F : It) : Fds := [some (.int F.lv), some (.str F.nm), some .none, some (.str F.us), some (.str ""), some (.bool false), some F.oc, some (.str F.rd), some .none, some (.bool false), some (.bool false), some (.ref F.cd), some (.ref F.kl), some F.par, some .none, some (.str ""), some (.int F.off), some (.int F.sz), some F.sh, none, none, none, none, none, none, none, none, none, none, none, none, none]
structure Sh : Type where
  cat : Str
  size : Int
  us : Str
  dig : Int
  sc : Int
  sg : Bool
noncomputable def Sh.fs (S : Sh) : Fds := [none, none, none, some (.str S.us), some (.str "trailing"), some (.bool false), none, none, none, some (.bool false), some (.bool false), none, none, none, none, none, none, some (.int S.size), none, some (.str S.cat), some .none, some (.int S.dig), some (.int S.sc), some (.bool S.sg), none, none, none, none, none, none, none, none]
noncomputable abbrev ItIn (n : Led) (x dx : Addr) (F : It) : Prop := Ob n x 95 dx F.fs 20
noncomputable abbrev ShIn (n : Led) (s ds : Addr) (S : Sh) : Prop := Ob n s 178 ds S.fs 20
noncomputable def Bu (n0 n : Led) (x c dx : Addr) (fs : Fds) (b : Nat) : Prop := Ob n x c dx fs b ∧ Kl dx n0 n
theorem Bu.start {n : Led} {x c dx : Addr} : Bu n ((x, instObj c dx) :: (dx, dictOf [] 0) :: n) x c dx [none, none, none, none, none, none, none, none, none, none, none, none, none, none, none, none, none, none, none, none, none, none, none, none, none, none, none, none, none, none, none, none] 0 := ⟨.start, fun p hp ζ => .tail _ (.tail _ hp)⟩
theorem Bu.push {n0 n : Led} {x c dx : Addr} {fs : Fds} {b : Nat} (B : Bu n0 n x c dx fs b) (q : Addr × Obj) : Bu (q :: n0) (q :: n) x c dx fs b :=
  ⟨B.1.mono (fun ζ h => .tail _ h) (fun ζ h => .tail _ h), fun p hp ne => by
    rcases List.mem_cons.mp hp with rfl | hp
    · exact .head _
    · exact .tail _ (B.2 p hp ne)⟩
theorem Bu.lt {n0 n : Led} {x c dx : Addr} {fs : Fds} {b : Nat} {l : Addr} (B : Bu n0 n x c dx fs b) (lt : ∀ p ∈ n, p.1 < l) : dx < l ∧ ∀ p ∈ n0, p.1 ≠ dx → p.1 < l := ⟨let ⟨_, _, h, _⟩ := B.1.2; lt _ h, fun p hp ne => lt p (B.2 p hp ne)⟩
section
variable {W : Wd} {Z : St} {C : Cx W Z} {v : Env} {lm : Lm} {n n0 : Led} {x y : Vl} {e f g : PySem.Expr} {pos : Pos} {Q : Rs} {rest bd el : List Stmt} {b : Nat}
theorem Sv.fld {o : PySem.Expr} {at' : Str} {p : Pos} {c i z dx : Nat} {fs : Fds} (F : FK c i at') (h : Ev C C.env lm n e x) (ho : Ev C C.env lm n o (.ref z)) (B : Bu n0 n z c dx fs b) (hb : b ≤ 800)
    (k : ∀ n', Bu n0 n' z c dx (fs.set i (some x)) (b + 1) → Sv C lm n' rest Q)
    (hs : swapsWith e (some (o.Attribute at' p)) pos.line C.env = Pure.pure false) : Sv C lm n (.Assign [.Attribute o at' p] e pos :: rest) Q :=
  .setn F h ho B.1 hb (fun n' O K => k n' ⟨O, fun p hp ne => K p (B.2 p hp ne) ne⟩) hs
theorem Sv.fldE {o : PySem.Expr} {at' : Str} {p : Pos} {c i z dx : Nat} {fs : Fds} (F : FK c i at') (h : Ev C C.env lm n e x) (ho : Ev C C.env lm n o (.ref z)) (B : Bu n0 n z c dx fs b) (hb : b ≤ 800) (hy : fs.getD i none = some y)
    (k : ∀ n', Bu n0 n' z c dx (fs.set i (some x)) b → Sv C lm n' rest Q)
    (hs : swapsWith e (some (o.Attribute at' p)) pos.line C.env = Pure.pure false) : Sv C lm n (.Assign [.Attribute o at' p] e pos :: rest) Q :=
  .seta F h ho B.1 hb hy (fun n' O K => k n' ⟨O, fun p hp ne => K p (B.2 p hp ne) ne⟩) hs
theorem Sv.fldL {o : PySem.Expr} {at' : Str} {p pl : Pos} {c i z dx : Nat} {fs : Fds} (F : FK c i at') (ho : ∀ n, Ev C C.env lm n o (.ref z)) (B : Bu n0 n z c dx fs b) (hb : b ≤ 800)
    (k : ∀ n' l, (Lw n l) → Bu ((l, listOf [].toArray 0) :: n0) n' z c dx (fs.set i (some (.ref l))) (b + 1) → Sv C lm n' rest Q)
    (hs : swapsWith (.List [] pl) (some (o.Attribute at' p)) pos.line C.env = Pure.pure false) : Sv C lm n (.Assign [.Attribute o at' p] (.List [] pl) pos :: rest) Q :=
  .setaW (.nilList fun l lt => ⟨c, i, z, dx, fs, b, F, ho _, (B.push _).1, hb, fun n' b' ζ e O K => k n' l lt ⟨O.le (by rw [e]; split <;> omega), fun p hp ne => K p ((B.push _).2 p hp ne) ne⟩⟩) hs
end
section
variable {W : Wd} {n : Led} {Post : Vl → Led → Prop}
theorem item_v {lv : Int} {nm : Str}
    (ret : ∀ n' x dx cd kl, (∀ p ∈ n, p.1 < dx ∧ p.1 < x ∧ p.1 < kl) → ItIn n' x dx ⟨lv, nm, "", "", .none, .none, 0, 0, .none, cd, kl⟩ → LV n' kl [] → (Kk n n') → Post (.ref x) n') : DoesV W 95 [.int lv, .str nm] 2 n Post := by
  refine makeZ (k := 0) ["self", "level", "name"] (fun x => [("name", .str nm), ("level", .int lv), ("self", .ref x)]) mk95 in95 fn66 (by intro P; k_is) (by intro P; k_is) [] [] trivial (len2 fun a b s P x ζ => .of_eq rfl) rfl (fun x => rfl) (fun C x dx l1 l2 rm => ?_) rfl rfl rfl rfl
  have B : Bu n _ x 95 dx _ 0 := .start
  have hs : ∀ n {ps}, Ev C C.env [("name", .str nm), ("level", .int lv), ("self", .ref x)] n (.Name "self" ps) (.ref x) := fun n ζ => .loc rfl rfl (by decide)
  refine .fld fk_level (.loc rfl rfl (by decide)) (hs _) B (by decide) (fun ζ B => ?_) rfl
  refine .fld fk_name (.loc rfl rfl (by decide)) (hs _) B (by decide) (fun ζ B => ?_) rfl
  refine .fld fk_pict .cnone (hs _) B (by decide) (fun ζ B => ?_) rfl
  refine .fld fk_usage .str (hs _) B (by decide) (fun ζ B => ?_) rfl
  refine .fld fk_sign .str (hs _) B (by decide) (fun ζ B => ?_) rfl
  refine .fld fk_sep .bool (hs _) B (by decide) (fun ζ B => ?_) rfl
  refine .fld fk_occ .cnone (hs _) B (by decide) (fun ζ B => ?_) rfl
  refine .fld fk_red .str (hs _) B (by decide) (fun ζ B => ?_) rfl
  refine .fld fk_value .cnone (hs _) B (by decide) (fun ζ B => ?_) rfl
  refine .fld fk_just .bool (hs _) B (by decide) (fun ζ B => ?_) rfl
  refine .fld fk_blank .bool (hs _) B (by decide) (fun ζ B => ?_) rfl
  refine .fldL fk_conds (fun n => hs n) B (by decide) (fun ζ cd lc B => ?_) rfl
  refine .fldL fk_kids (fun n => hs n) B (by decide) (fun ζ kl lk B => ?_) rfl
  have lk := (Bu.lt ‹_› lk)
  refine .fld fk_parent .cnone (hs _) B (by decide) (fun ζ B => ?_) rfl
  refine .fld fk_renames .cnone (hs _) B (by decide) (fun ζ B => ?_) rfl
  refine .fld fk_base .str (hs _) B (by decide) (fun ζ B => ?_) rfl
  refine .fld fk_offset .int (hs _) B (by decide) (fun ζ B => ?_) rfl
  refine .fld fk_size .int (hs _) B (by decide) (fun ζ B => ?_) rfl
  refine .fld fk_shape .cnone (hs _) B (by decide) (fun n' B => ?_) rfl
  refine .nil (ret n' x dx cd kl (fun p hp => ⟨l1 p hp, Nat.lt_trans (l1 p hp) l2, ?_⟩) ((B.1.to (by kernel_rfl!)).le (by decide)) ⟨[], 0, B.2 _ (.head _) ?_, trivial⟩ fun p hp => B.2 p (.tail _ (.tail _ hp)) (Nat.ne_of_lt (l1 p hp)))
  · exact Nat.lt_trans (l1 p hp) lk.1
  · exact Nat.ne_of_gt lk.1
end
end Mine
namespace Mine
section
variable {W : Wd} {n : Led} {Post : Vl → Led → Prop}
theorem shape_v (full : Bool) {c us : Str} {z : Int} (hus : full = false → us = "display")
    (ret : ∀ n' x dx, (∀ p ∈ n, p.1 < dx ∧ p.1 < x) → ShIn n' x dx ⟨c, z, us, 0, 0, false⟩ → (Kk n n') → Post (.ref x) n') : DoesV W 178 ([.str c, .int z] ++ (if full = true then [.none, .str us] else [])) 2 n Post := by
  refine makeZ (k := 0) ["self", "category", "size", "picture", "usage", "sign", "is_separate", "is_justified", "is_blank_zero"] (fun x => [("is_blank_zero", .bool false), ("is_justified", .bool false), ("is_separate", .bool false), ("sign", .str "trailing"), ("usage", .str us), ("picture", .none), ("size", .int z), ("category", .str c), ("self", .ref x)]) mk178 in178 fn161 (by intro P; k_is) (by intro P; k_is)
    (if full = true then [_, _, _, _] else [_, _, _, _, _, _]) (if full = true then [.str "trailing", .bool false, .bool false, .bool false] else [.none, .str us, .str "trailing", .bool false, .bool false, .bool false]) ?hds (by
      cases full with
      | true => exact len4 fun a b c d s P x X => binds_K X rfl (by k_is) rfl rfl rfl
      | false => exact len2 fun a b s P x X => binds_K X rfl (by k_is) rfl rfl rfl) rfl (fun x => by cases full <;> rfl) (fun C x dx l1 l2 rm => ?_) rfl rfl rfl rfl
  · cases full with
    | true => exact ⟨⟨_, rfl⟩, rfl, rfl, rfl, trivial⟩
    | false => cases hus rfl; exact ⟨rfl, ⟨_, rfl⟩, ⟨_, rfl⟩, rfl, rfl, rfl, trivial⟩
  have B : Bu n _ x 178 dx _ 0 := .start
  have hs : ∀ n {ps}, Ev C C.env [("is_blank_zero", .bool false), ("is_justified", .bool false), ("is_separate", .bool false), ("sign", .str "trailing"), ("usage", .str us), ("picture", .none), ("size", .int z), ("category", .str c), ("self", .ref x)] n (.Name "self" ps) (.ref x) := fun n ζ => .loc rfl rfl (by decide)
  refine .fld sk_cat (.loc rfl rfl (by decide)) (hs _) B (by decide) (fun ζ B => ?_) rfl
  refine .fld sk_size (.loc rfl rfl (by decide)) (hs _) B (by decide) (fun ζ B => ?_) rfl
  refine .fld sk_pict (.loc rfl rfl (by decide)) (hs _) B (by decide) (fun ζ B => ?_) rfl
  refine .fld sk_usage (.loc rfl rfl (by decide)) (hs _) B (by decide) (fun ζ B => ?_) rfl
  refine .fld sk_sign (.loc rfl rfl (by decide)) (hs _) B (by decide) (fun ζ B => ?_) rfl
  refine .fld sk_sep (.loc rfl rfl (by decide)) (hs _) B (by decide) (fun ζ B => ?_) rfl
  refine .fld sk_just (.loc rfl rfl (by decide)) (hs _) B (by decide) (fun ζ B => ?_) rfl
  refine .fld sk_blank (.loc rfl rfl (by decide)) (hs _) B (by decide) (fun ζ B => ?_) rfl
  refine .fld sk_digits .int (hs _) B (by decide) (fun ζ B => ?_) rfl
  refine .fld sk_scale .int (hs _) B (by decide) (fun ζ B => ?_) rfl
  refine .fld sk_signed .bool (hs _) B (by decide) (fun n' B => ?_) rfl
  refine .skip (.andF (.cmp (.notN (.loc rfl rfl (by decide)) .cnone) rfl)) (.nil (ret n' x dx (fun p hp => ⟨l1 p hp, Nat.lt_trans (l1 p hp) l2⟩) ((B.1.to (by kernel_rfl!)).le (by decide)) fun p hp => B.2 p hp (Nat.ne_of_lt (l1 p hp))))
theorem gshape_v {z : Int}
    (ret : ∀ n' x dx, (∀ p ∈ n, p.1 < dx ∧ p.1 < x) → ShIn n' x dx ⟨"group", z, "display", 0, 0, false⟩ → (Kk n n') → Post (.ref x) n') : DoesV W 189 [.int z] 3 n Post := by
  refine enterZ (k := 2) ["size"] [("size", .int z)] (by intro P; k_is) (by intro P; k_is) (len1 fun a s => .of_eq rfl) rfl rfl (fun C rm => ?_) rfl rfl rfl rfl
  exact .retW (.fn k178 rm (.glob g_Shape rfl rfl (by decide)) (.one .str (.one (.loc rfl rfl (by decide)) (.nil (shape_v false (fun ζ => rfl) ret)) rfl) rfl) rfl rfl rfl)
theorem nshape_v {c us : Str} {z d sc : Int} {sg : Bool}
    (ret : ∀ n' x dx, (∀ p ∈ n, p.1 < dx ∧ p.1 < x) → ShIn n' x dx ⟨c, z, us, d, sc, sg⟩ → (Kk n n') → Post (.ref x) n') : DoesV W 196 [.str c, .int z, .str us, .int d, .int sc, .bool sg] 3 n Post := by
  refine enterZ (k := 2) ["category", "size", "usage", "digits", "scale", "is_signed"] [("is_signed", .bool sg), ("scale", .int sc), ("digits", .int d), ("usage", .str us), ("size", .int z), ("category", .str c)] (by intro P; k_is) (by intro P; k_is) (len6 fun a b c d e f s => .of_eq rfl) rfl rfl (fun C rm => ?_) rfl rfl rfl rfl
  refine .asgW (.fn k178 rm (.glob g_Shape rfl rfl (by decide)) (.one (.loc rfl rfl (by decide)) (.one (.loc rfl rfl (by decide)) (.one .cnone (.one (.loc rfl rfl (by decide)) (.nil (shape_v true (fun e => nomatch e) fun n1 x dx lt S1 K1 => ?_)) rfl) rfl) rfl) rfl) rfl rfl rfl) rfl rfl
  have B : Bu n n1 x 178 dx _ 20 := ⟨S1, fun p hp ζ => K1 p hp⟩
  refine .fldE sk_digits (.loc rfl rfl (by decide)) (.loc rfl rfl (by decide)) B (by decide) rfl (fun ζ B => ?_) rfl
  refine .fldE sk_scale (.loc rfl rfl (by decide)) (.loc rfl rfl (by decide)) B (by decide) rfl (fun ζ B => ?_) rfl
  refine .fldE sk_signed (.loc rfl rfl (by decide)) (.loc rfl rfl (by decide)) B (by decide) rfl (fun n' B => ?_) rfl
  exact .ret (.loc rfl rfl (by decide)) (ret n' x dx lt (B.1.to (gs := Sh.fs ⟨c, z, us, d, sc, sg⟩) (by kernel_rfl!)) fun p hp => B.2 p hp (Nat.ne_of_lt (lt p hp).1))
theorem ishape_v
    (ret : ∀ n' x dx, (∀ p ∈ n, p.1 < dx ∧ p.1 < x) → ShIn n' x dx ⟨"index", 4, "index", 9, 0, true⟩ → (Kk n n') → Post (.ref x) n') : DoesV W 203 [] 4 n Post := by
  refine enterZ (k := 3) [] [] (by intro P; k_is) (by intro P; k_is) (len0 fun s => .of_eq rfl) rfl rfl (fun C rm => ?_) rfl rfl rfl rfl
  exact .retW (.fn k196 rm (.glob g_nshape rfl rfl (by decide)) (.one .str (.one (.glob (x := .int 4) g_SIZE ⟨_, rfl⟩ rfl (by decide)) (.one .str (.one (.glob (x := .int 9) g_DIGITS ⟨_, rfl⟩ rfl (by decide)) (.one .int (.one .bool (.nil (nshape_v ret)) rfl) rfl) rfl) rfl) rfl) rfl) rfl rfl rfl)
end
end Mine
namespace Mine
-- kinds of objects
theorem One.il {n : Led} {x l c d : Addr} {us : List Value} {k : Nat} (o : One n) (h : (x, instObj c d) ∈ n) (g : (l, listOf us.toArray k) ∈ n) : x ≠ l := fun e => by subst e; cases o _ _ _ h g
theorem One.dl {n : Led} {x l : Addr} {es : List DictEntry} {us : List Value} {k q : Nat} (o : One n) (h : (x, dictOf es q) ∈ n) (g : (l, listOf us.toArray k) ∈ n) : x ≠ l := fun e => by subst e; exact absurd (Value.type.inj (congrArg Obj.cls (o _ _ _ h g))) (by decide)
theorem One.di {n : Led} {x l c d : Addr} {es : List DictEntry} {q : Nat} (o : One n) (h : (x, dictOf es q) ∈ n) (g : (l, instObj c d) ∈ n) : x ≠ l := fun e => by subst e; cases o _ _ _ h g
theorem Ob.offL {n n' : Led} {x c dx l : Addr} {fs : Fds} {b : Nat} {xs : List Vl} (O : Ob n x c dx fs b) (o : One n) (L : LV n l xs) (K : Kl l n n') : Ob n' x c dx fs b := by
  obtain ⟨ζ, ζ, hl, ζ⟩ := L
  obtain ⟨ζ, ζ, hd, ζ⟩ := O.2
  exact O.mono (fun ζ h => K _ h (o.il O.1 hl)) (fun ζ h => K _ h (o.dl hd hl))
theorem LV.offD {n n' : Led} {x c dx l : Addr} {fs : Fds} {b : Nat} {xs : List Vl} (L : LV n l xs) (o : One n) (O : Ob n x c dx fs b) (K : Kl dx n n') : LV n' l xs := by
  obtain ⟨ζ, ζ, hl, ζ⟩ := id L
  obtain ⟨ζ, ζ, hd, ζ⟩ := O.2
  exact L.mono fun ζ h => K _ h (Ne.symm (o.dl hd hl))
theorem Ob.offD {n n' : Led} {x c dx y c' dy : Addr} {fs gs : Fds} {b b' : Nat} (O : Ob n x c dx fs b) (o : One n) (Y : Ob n y c' dy gs b') (ne : dx ≠ dy) (K : Kl dy n n') : Ob n' x c dx fs b := by
  obtain ⟨ζ, ζ, hd, ζ⟩ := Y.2
  exact O.mono (fun ζ h => K _ h (Ne.symm (o.di hd O.1))) (fun ζ h => K _ h ne)
theorem Ob.ne {n : Led} {x c dx y c' dy : Addr} {fs gs : Fds} {b b' : Nat} {i : Nat} {v : Vl} (o : One n) (O : Ob n x c dx fs b) (Y : Ob n y c' dy gs b') (hi : i < 32) (h : fs.getD i none = some v) (g : gs.getD i none = none) : dx ≠ dy := fun e => by
  subst e
  obtain ⟨ζ, es, k, hd, ζ, ζ, ζ, hF⟩ := O
  obtain ⟨ζ, es', k', hd', ζ, ζ, ζ, hF'⟩ := Y
  have q := o _ _ _ hd hd'
  have e2 : es = es' := by
    exact congrArg Array.toList (Data.dict.inj (congrArg Obj.data q)).1
  subst e2
  have a := hF i hi
  have b := hF' i hi
  rw [h] at a
  rw [g] at b
  obtain ⟨u, a, ζ⟩ := a
  have b : getL (ks i) es = some none := b
  rw [show getL (ks i) es = some (some u) from a] at b
  cases b
section
variable {W : Wd} {Z : St} {C : Cx W Z} {v : Env} {lm : Lm} {n n0 : Led} {x y : Vl} {e f g : PySem.Expr} {pos : Pos} {Q : Rs} {rest bd el : List Stmt} {b : Nat} {R : Vl → Led → Prop}
theorem Sv.one (h : One n → Sv C lm n bd Q) : Sv C lm n bd Q := fun m s => Ws.one fun o => h o m s
theorem Vw.one (h : One n → Vw C v lm n e R) : Vw C v lm n e R := fun m s => Wt.one fun o => h o m s
theorem Ev.tupT {T : Addr} (hT : ∀ P, (frag P).lookup T = some (tupOf [])) (h : Ev C v lm n e (.ref T))
    {fe : PySem.Expr} (hf : ∀ m (R : Value → Led → Prop), R (.type "tuple") n → We C v m n fe R)
    (h1 : eval (fe.Call [e] [] pos) v = (do let f ← eval fe v; callWith pos f [] (backTo pos (starEach [e] v)) (backToKw pos (keywordEach [] v))))
    (h2 : starEach [e] v = (false, eval e v) :: starEach [] v) (h3 : ((backTo pos (starEach [] v)).any (·.1)) = false) : Ev C v lm n (fe.Call [e] [] pos) (.ref T) := fun m s =>
  .ty (hf m _ ⟨rfl, .cons (h.go s fun u q => .nil ((show u = _ from q) ▸ fun s y => call_tuple_same ⟨_, (C.X.keeps y.1.keep) _ _ (hT _), rfl, 0, rfl⟩ (out (tk' := s.toks) y ⟨rfl, rfl⟩))) h2⟩) h1 h2 h3
theorem Vw.tup {es : List PySem.Expr} {k : Nat} (h : VwL C v lm n pos es fun xs n1 => xs.length ≤ 1000 ∧ ∀ us t, IsAll xs us → (Lw n1 t) → R (.ref t) ((t, tupOf us) :: n1)) : Vw C v lm n (.Tuple es k pos) R :=
  fun m s => .tup ((h m s).mono fun us n1 q => q.elim fun xs q => .newTuple (by rw [q.1.length]; exact q.2.1) fun t lt => ⟨.ref t, rfl, q.2.2 us t q.1 lt⟩)
theorem Vw.pick (h : Vw C v lm n e fun x n1 => ∃ t xs, x = .ref t ∧ Vw C v lm n1 f fun y n2 => ∃ j z, y = .int j ∧ 0 ≤ j ∧ j < 100000 ∧ xs[j.toNat]? = some z ∧ TV n2 t xs ∧ R z n2)
    (hs : ∀ t j u, subscripted f false (.ref t) (.int j u) = operate [.ref t, .int j u] (getItem (.ref t) (.int j u))) : Vw C v lm n (.Subscript e f pos) R := fun m s =>
  .sub ((h m s).mono fun u n1 q => by
    obtain ⟨ζ, hx, t, xs, rfl, q⟩ := q
    obtain rfl : u = .ref t := hx
    refine (q m s).mono fun w n2 q => ?_
    obtain ⟨ζ, hy, j, z, rfl, h0, h1, hz, ⟨us, hm, hu⟩, r⟩ := q
    obtain ⟨tk, rfl⟩ := hy
    obtain ⟨uz, hz, hxz⟩ := hu.get hz
    exact .itemT hm h0 h1 hz ⟨z, hxz, r⟩ (hs _ _ _))
noncomputable def OcIn (n : Led) (oc : Vl) (k : Int) : Prop := oc = .none ∧ k = 1 ∨ ∃ o odx fs, oc = .ref o ∧ Ob n o 48 odx fs 20 ∧ fs.getD 25 Option.none = some (.int k) ∧ fs.getD 0 Option.none = Option.none
theorem Ev.cnt {x dx : Addr} {F : It} {k : Int} {p1 p2 p3 p4 p5 p6 p7 : Pos} {t1 t2 : Nat} (I : ItIn n x dx F) (O : OcIn n F.oc k) (h : Ev C v lm n e (.ref x)) (g : Ev C v lm n f (.ref x))
    (h0 : eval (e.Attribute "occurs" p1) v = (do let o ← eval e v; standAt p1.atName; let r ← holding [o] (getAttr o "occurs" true); letTemporaryGo e o r; Pure.pure r))
    (g0 : eval (f.Attribute "occurs" p5) v = (do let o ← eval f v; standAt p5.atName; let r ← holding [o] (getAttr o "occurs" true); letTemporaryGo f o r; Pure.pure r))
    (h1 : eval ((f.Attribute "occurs" p5).Attribute "high" p6) v = (do let o ← eval (f.Attribute "occurs" p5) v; standAt p6.atName; let r ← holding [o] (getAttr o "high" true); letTemporaryGo (f.Attribute "occurs" p5) o r; Pure.pure r)) :
    Ev C v lm n (.IfExp (.Compare (e.Attribute "occurs" p1) [.Is] [.Constant .none t1 p2] p3) (.Constant (.int 1) t2 p4) ((f.Attribute "occurs" p5).Attribute "high" p6) p7) (.int k) := by
  have a := Ev.attr (pos := p1) fk_occ I rfl h h0
  have b := Ev.attr (pos := p5) fk_occ I rfl g g0
  rcases O with ⟨e1, rfl⟩ | ⟨o, odx, fs, e1, O, hk, _⟩
  · rw [e1] at a
    exact .ifT (.cmp (.isN a .cnone) rfl) .int
  · rw [e1] at a b
    exact .ifF (.cmp (.isR a .cnone) rfl) (.attr ok_high O hk b h1)
end
section
variable {W : Wd} {n : Led} {Post : Vl → Led → Prop}
theorem b_tuple : bootBuiltins "tuple" = some (.type "tuple") := by boot_by_name
theorem occ_v {lo hi : Int}
    (ret : ∀ n' x dx fs, (∀ p ∈ n, p.1 < dx ∧ p.1 < x) → Ob n' x 48 dx fs 20 → fs.getD 25 Option.none = some (.int hi) → fs.getD 0 Option.none = Option.none → (Kk n n') → Post (.ref x) n') : DoesV W 48 [.int lo, .int hi] 2 n Post := by
  refine makeZ (k := 0) ["self", "low", "high", "depending", "keys", "indexes"] (fun x => [("indexes", .ref 30), ("keys", .ref 29), ("depending", .none), ("high", .int hi), ("low", .int lo), ("self", .ref x)]) mk48 in48 fn38 (by intro P; k_is) (by intro P; k_is)
    [.none, .ref 29, .ref 30] [.none, .ref 29, .ref 30] ⟨rfl, rfl, rfl, trivial⟩ (len2 fun a b s P x X => binds_K X rfl (by k_is) rfl rfl rfl) rfl (fun x => rfl) (fun C x dx l1 l2 rm => ?_) rfl rfl rfl rfl
  have B : Bu n _ x 48 dx _ 0 := .start
  have hs : ∀ n {ps}, Ev C C.env [("indexes", .ref 30), ("keys", .ref 29), ("depending", .none), ("high", .int hi), ("low", .int lo), ("self", .ref x)] n (.Name "self" ps) (.ref x) := fun n ζ => .loc rfl rfl (by decide)
  refine .fld ok_low (.loc rfl rfl (by decide)) (hs _) B (by decide) (fun ζ B => ?_) rfl
  refine .fld ok_high (.loc rfl rfl (by decide)) (hs _) B (by decide) (fun ζ B => ?_) rfl
  refine .fld ok_dep (.loc rfl rfl (by decide)) (hs _) B (by decide) (fun ζ B => ?_) rfl
  refine .fld ok_keys (.tupT (by intro P; k_is) (.loc rfl rfl (by decide)) (fun ζ ζ r => .blt n_tuple b_tuple (by decide) r) rfl rfl rfl) (hs _) B (by decide) (fun ζ B => ?_) rfl
  refine .fld ok_idx (.tupT (by intro P; k_is) (.loc rfl rfl (by decide)) (fun ζ ζ r => .blt n_tuple b_tuple (by decide) r) rfl rfl rfl) (hs _) B (by decide) (fun n' B => ?_) rfl
  exact .nil (ret n' x dx _ (fun p hp => ⟨l1 p hp, Nat.lt_trans (l1 p hp) l2⟩) (B.1.le (by decide)) rfl rfl fun p hp => B.2 p hp (Nat.ne_of_lt (l1 p hp)))
theorem add_v {x dx y dy : Addr} {F G : It} {xs : List Vl} (X : ItIn n x dx F) (Y : ItIn n y dy G) (L : LV n F.kl xs) (ne : dx ≠ dy) (hz : xs.length ≤ 1000)
    (ret : ∀ n', One n → ItIn n' x dx F → ItIn n' y dy { G with par := .ref x } → LV n' F.kl (xs ++ [.ref y]) → (∀ p ∈ n, p.1 ≠ dy → p.1 ≠ F.kl → p ∈ n') → Post .none n') : DoesV W 73 [.ref x, .ref y] 1 n Post := by
  refine enterZ (k := 0) ["self", "kid"] [("kid", .ref y), ("self", .ref x)] (by intro P; k_is) (by intro P; k_is) (len2 fun a b s => .of_eq rfl) rfl rfl (fun C rm => ?_) rfl rfl rfl rfl
  refine .one fun o1 => .seta fk_parent (.loc rfl rfl (by decide)) (.loc rfl rfl (by decide)) Y (by decide) rfl (fun n1 Y1 K1 => ?_) rfl
  have X1 := X.offD o1 Y ne K1
  have L1 := L.offD o1 Y K1
  have Y1 : ItIn n1 y dy { G with par := .ref x } := Y1
  refine .one fun o2 => .ex (.appends (.attr fk_kids X1 rfl (.loc rfl rfl (by decide)) rfl) L1 (Nat.le_trans hz (by decide)) (Ev.w (.loc rfl rfl (by decide)) ⟨L1, fun n2 L2 K2 => ?_⟩) rfl rfl rfl) rfl rfl
  exact .nil (ret n2 o1 (X1.offL o2 L1 K2) (Y1.offL o2 L1 K2) L2 fun p hp h1 h2 => K2 p (K1 p hp h1) h2)
theorem count_v {x dx : Addr} {F : It} {k : Int} (I : ItIn n x dx F) (O : OcIn n F.oc k) (ret : Post (.int k) n) : DoesV W 80 [.ref x] 1 n Post := by
  refine enterZ (k := 0) ["self"] [("self", .ref x)] (by intro P; k_is) (by intro P; k_is) (len1 fun a s => .of_eq rfl) rfl rfl (fun C rm => ?_) rfl rfl rfl rfl
  exact .ret (.cnt I O (.loc rfl rfl (by decide)) (.loc rfl rfl (by decide)) rfl rfl rfl) ret
theorem apart_v {x dx : Addr} {F : It} (I : ItIn n x dx F) (ret : Post (.bool (F.rd != "" || F.lv == 66)) n) : DoesV W 231 [.ref x] 1 n Post := by
  refine enterZ (k := 0) ["item"] [("item", .ref x)] (by intro P; k_is) (by intro P; k_is) (len1 fun a s => .of_eq rfl) rfl rfl (fun C rm => ?_) rfl rfl rfl rfl
  exact .ret (.or2 (.cmp (.neS (.attr fk_red I rfl (.loc rfl rfl (by decide)) rfl) .str) rfl) (.cmp (.eqI (.attr fk_level I rfl (.loc rfl rfl (by decide)) rfl) .int) rfl)) ret
end
end Mine
namespace Mine
theorem Ob.all {n : Led} {x c dx : Addr} {fs : Fds} {b : Nat} {P : Addr → Prop} (O : Ob n x c dx fs b) (h : ∀ p ∈ n, P p.1) : P dx := by obtain ⟨ζ, ζ, hd, ζ⟩ := O.2; exact h _ hd
theorem takeD_in (ns : List Int) {k : Int} (h : 0 < k) : 0 ≤ takeD ns k ∧ takeD ns k < k := by
  cases ns with
  | nil => exact ⟨Int.le_refl 0, h⟩
  | cons n r => exact ⟨Int.fmod_nonneg_of_pos _ h, Int.fmod_lt_of_pos _ h⟩
theorem takeP_len (ns : List Int) (k : Int) : (takeP ns k).length ≤ ns.length := by
  cases ns with
  | nil => exact Nat.le_refl 0
  | cons n r =>
    show (if n.fdiv k = 0 then r else (n.fdiv k) :: r).length ≤ _
    split
    · exact Nat.le_succ _
    · exact Nat.le_refl _
theorem pickS {xs : List Vl} (ss : List Str) {j : Int} (e : xs = ss.map Vl.str) (h0 : 0 ≤ j) (h1 : j < ss.length) : ∃ s, xs[j.toNat]? = some (.str s) ∧ s ∈ ss := by
  have : j.toNat < ss.length := by omega
  exact ⟨ss[j.toNat], by rw [e, List.getElem?_map, List.getElem?_eq_getElem this]; rfl, List.getElem_mem this⟩
section
variable {W : Wd} {Z : St} {C : Cx W Z} {v : Env} {lm : Lm} {n n0 : Led} {x y : Vl} {e f g : PySem.Expr} {pos : Pos} {Q : Rs} {rest bd el : List Stmt} {b : Nat} {R : Vl → Led → Prop}
theorem Vw.add {i : Int} (h : Ev C v lm n e (.int i)) (k : Vw C v lm n f fun y n' => ∃ j, y = .int j ∧ R (.int (i + j)) n') : Vw C v lm n (.BinOp e .Add f pos) R := fun m s =>
  .bin (h.go s fun _ ⟨_, q⟩ => (k m s).mono fun _ n' ⟨_, hy, j, e, r⟩ => by subst e; obtain ⟨ζ, rfl⟩ := hy; exact q ▸ .add fun t => ⟨.int (i + j), ⟨t, rfl⟩, r⟩)
theorem Store.old {o : PySem.Expr} {at' : Str} {R : Led → Prop} {c i z dx b : Nat} {fs : Fds} (F : FK c i at') (ho : Ev C C.env lm n o (.ref z)) (O : Ob n z c dx fs b) (hb : b ≤ 800) (hy : fs.getD i Option.none = some y)
    (k : ∀ n', One n → Ob n' z c dx (fs.set i (some x)) b → (Kl dx n n') → R n') : Store C lm o at' R x n :=
  ⟨c, i, z, dx, fs, b, F, ho, O, hb, fun n' b' one e O' t => k n' one (by rw [hy, if_neg (by simp)] at e; exact e ▸ O') t⟩
theorem Vw.take {pl : Addr} {ns : List Int} {k : Int} {kp : Pos} {t : Nat} (rm : Rm C 2) (hf : Ev C v lm n f (.ref 210)) (hl : Ev C v lm n e (.ref pl)) (hp : Pool n pl ns) (hz : ns.length ≤ 24) (hk : 2 ≤ k) (hk2 : k ≤ 20)
    (ret : ∀ n', 0 ≤ takeD ns k → takeD ns k < k → (takeP ns k).length ≤ 24 → Pool n' pl (takeP ns k) → (Kl pl n n') → R (.int (takeD ns k)) n')
    (h1 : eval (f.Call [e, .Constant (.int k) t kp] [] pos) v = (do let f' ← eval f v; callWith pos f' [] (backTo pos (starEach [e, .Constant (.int k) t kp] v)) (backToKw pos (keywordEach [] v))))
    (h2 : starEach [e, .Constant (.int k) t kp] v = (false, eval e v) :: starEach [.Constant (.int k) t kp] v) (h4 : starEach [.Constant (.int k) t kp] v = (false, eval (.Constant (.int k) t kp) v) :: starEach [] v) (h3 : ((backTo pos (starEach [.Constant (.int k) t kp] v)).any (·.1)) = false) : Vw C v lm n (f.Call [e, .Constant (.int k) t kp] [] pos) R :=
  .fn k210 rm hf (.one hl (.one .int (.nil (take_v hp hz hk hk2 fun n' P K => ret n' (takeD_in ns (Int.lt_of_lt_of_le (by decide) hk)).1 (takeD_in ns (Int.lt_of_lt_of_le (by decide) hk)).2 (Nat.le_trans (takeP_len ns k) hz) P K)) h4) h2) h1 h2 h3
end
section
variable {W : Wd} {n : Led} {Post : Vl → Led → Prop}
theorem leaf_v {pl : Addr} {ns : List Int} {nm : Str} (hp : Pool n pl ns) (hz : ns.length ≤ 24)
    (ret : ∀ n' x dx cd kl s ds z cat ns', 1 ≤ z → z ≤ 4 → ns'.length ≤ 24 → (∀ p ∈ n, p.1 < dx ∧ p.1 < x ∧ p.1 < kl) → ItIn n' x dx ⟨5, nm, "", "", .none, .none, 0, z, .ref s, cd, kl⟩ → LV n' kl [] → ShIn n' s ds ⟨cat, z, "display", 0, 0, false⟩ → Pool n' pl ns' → (Kl pl n n') → Post (.ref x) n') : DoesV W 217 [.ref pl, .str nm] 3 n Post := by
  refine enterZ (k := 2) ["pool", "name"] [("name", .str nm), ("pool", .ref pl)] (by intro P; k_is) (by intro P; k_is) (len2 fun a b s => .of_eq rfl) rfl rfl (fun C rm => ?_) rfl rfl rfl rfl
  refine .asgW (.fn k95 rm (.glob g_Item rfl rfl (by decide)) (.one .int (.one (.loc rfl rfl (by decide)) (.nil (item_v fun n1 x dx cd kl lt I1 L1 K1 => ?_)) rfl) rfl) rfl rfl rfl) rfl rfl
  have hpl : pl < kl := let ⟨_, _, h, _⟩ := hp; (lt _ h).2.2
  have P1 : Pool n1 pl ns := hp.mono fun ζ h => K1 _ h
  refine .asgW (.pick (.tup (.one .str (.one .str (.one .str (.one .str (.one .str (.nil ⟨by decide, fun us t hu lt1 => ⟨t, (["numeric", "alphanumeric", "edited", "alphabetic", "alnum-edited"] : List Str).map Vl.str, rfl, .one fun o1 => .take rm (.glob g_take rfl rfl (by decide)) (.loc rfl rfl (by decide)) (P1.mono fun ζ h => .tail _ h) hz (by decide) (by decide) (fun n2 a1 a2 z1 P2 K2 => ?_) rfl rfl rfl rfl⟩⟩) rfl) rfl) rfl) rfl) rfl)) (fun ζ ζ ζ => rfl)) rfl rfl
  obtain ⟨cat, hcat, ζ⟩ := pickS ["numeric", "alphanumeric", "edited", "alphabetic", "alnum-edited"] rfl a1 a2
  refine ⟨_, .str cat, rfl, a1, Int.lt_trans a2 (by decide), hcat, ⟨us, K2 _ (.head _) (let ⟨_, _, h, _⟩ := P1; Nat.ne_of_gt (lt1 _ h)), hu⟩, ?_⟩
  have I2 := (I1.mono (fun ζ h => .tail _ h) fun ζ h => .tail _ h).offL o1 (P1.mono fun ζ h => .tail _ h) K2
  have L2 := LV.off (L1.mono fun ζ h => .tail (t, tupOf us) h) K2 (Nat.ne_of_gt hpl)
  refine .setaW (.fn k178 rm (.glob g_Shape rfl rfl (by decide)) (.one (.loc rfl rfl (by decide)) (.cons (.add .int (.one fun o2 => .take rm (.glob g_take rfl rfl (by decide)) (.loc rfl rfl (by decide)) P2 z1 (by decide) (by decide) (fun n3 b1 b2 z2 P3 K3 => ⟨_, rfl, .nil (shape_v false (fun ζ => rfl) fun n4 s ds lt4 S4 K4 => ?_)⟩) rfl rfl rfl rfl)) rfl) rfl) rfl rfl rfl) rfl
  have I4 := (I2.offL o2 P2 K3).mono (fun ζ h => K4 _ h) (fun ζ h => K4 _ h)
  have ne := I2.offL o2 P2 K3 |>.all (P := fun a => a < ds ∧ a < s) lt4
  have L4 := (L2.off K3 (Nat.ne_of_gt hpl)).mono fun ζ h => K4 _ h
  have P4 := P3.mono fun ζ h => K4 _ h
  refine .old fk_shape (.loc rfl rfl (by decide)) I4 (by decide) rfl fun n5 o4 I5 K5 => .one fun o5 => ?_
  have I5 : ItIn n5 x dx ⟨5, nm, "", "", .none, .none, 0, 0, .ref s, cd, kl⟩ := I5
  have S5 := S4.offD o4 I4 (Nat.ne_of_gt ne.1) K5
  have L5 := L4.offD o4 I4 K5
  have P5 := P4.offD o4 I4 K5
  refine .seta fk_size (.attr sk_size S5 rfl (.attr fk_shape I5 rfl (.loc rfl rfl (by decide)) rfl) rfl) (.loc rfl rfl (by decide)) I5 (by decide) rfl (fun n6 I6 K6 => ?_) rfl
  refine .ret (.loc rfl rfl (by decide)) (ret n6 x dx cd kl s ds _ cat _ (by omega) (by omega) z2 lt I6 (L5.offD o5 I5 K6) (S5.offD o5 I5 (Nat.ne_of_gt ne.1) K6) (P5.offD o5 I5 K6) fun p hp h => ?_)
  have h2 := Nat.ne_of_lt (lt p hp).1
  exact K6 p (K5 p (K4 p (K3 p (K2 p (.tail _ (K1 p hp)) h) h)) h2) h2
end
end Mine
namespace Mine
noncomputable def Kp (n n' : Led) : Prop := ∀ p ∈ n, (p.2.cls ≠ .none ∨ p.1 ≠ 120) → p ∈ n'
theorem Kp.refl {n : Led} : Kp n n := fun ζ h ζ => h
theorem Kp.of {n n' : Led} (h : Kk n n') : Kp n n' := fun p hp ζ => h p hp
theorem Kp.trans {n n' n'' : Led} (h : Kp n n') (k : Kp n' n'') : Kp n n'' := fun p hp q => k p (h p hp q) q
theorem cls_i {c d : Addr} : (instObj c d).cls ≠ .none := nofun
theorem cls_d {es : List DictEntry} {k : Nat} : (dictOf es k).cls ≠ .none := nofun
theorem cls_l {us : Array Value} {k : Nat} : (listOf us k).cls ≠ .none := nofun
theorem cls_t {us : List Value} : (tupOf us).cls ≠ .none := nofun
theorem Ob.kp {n n' : Led} {x c dx : Addr} {fs : Fds} {b : Nat} (O : Ob n x c dx fs b) (K : Kp n n') : Ob n' x c dx fs b :=
  ⟨K _ O.1 (.inl cls_i), let ⟨es, k, p, q⟩ := O.2; ⟨es, k, K _ p (.inl cls_d), q⟩⟩
theorem LV.kp {n n' : Led} {l : Addr} {xs : List Vl} (h : LV n l xs) (K : Kp n n') : LV n' l xs := by obtain ⟨us, k, p, q⟩ := h; exact ⟨us, k, K _ p (.inl cls_l), q⟩
noncomputable def LamCd (qual : Str) (n : Led) (c' : Addr) : Prop := ∃ oc vs t, (c', oc) ∈ n ∧ c' ≠ 120 ∧ oc.data = .fields vs ∧ vs[1]? = some (.str qual t)
theorem LamCd.kp {n n' : Led} {qual : Str} {c' : Addr} (h : LamCd qual n c') (K : Kp n n') : LamCd qual n' c' := by obtain ⟨oc, vs, t, p, q, r⟩ := h; exact ⟨oc, vs, t, K _ p (.inr q), q, r⟩
noncomputable def TabP (pos : Pos) (qual : Str) (n : Led) : Prop := ∃ ps, (120, tabObj ps) ∈ n ∧ (ps = #[] ∨ ∃ c', ps = #[rawInt pos.line, rawInt pos.col, .ref c'] ∧ LamCd qual n c')
theorem TabP.by {pos : Pos} {q : Str} {n n' : Led} (T : TabP pos q n) (h1 : ∀ ps, (120, tabObj ps) ∈ n → (120, tabObj ps) ∈ n') (h2 : ∀ c' o vs s t, (c', o) ∈ n → o.data = .fields vs → vs[1]? = some (.str s t) → (c', o) ∈ n') : TabP pos q n' := by
  obtain ⟨ps, p, h⟩ := T
  refine ⟨ps, h1 _ p, h.imp id fun h => ?_⟩
  obtain ⟨c', e, oc, vs, t, p, q, d, v⟩ := h
  exact ⟨c', e, oc, vs, t, h2 _ _ _ _ _ p d v, q, d, v⟩
noncomputable def LamFn (qual : Str) (params : Arguments) (body : PySem.Expr) (scope : Scope) (n : Led) (f : Addr) : Prop := ∃ c' pm ctv, (f, kla_obj "<lambda>" qual params body scope [] pm c' ctv) ∈ n ∧ LamCd qual n c'
section
variable {W : Wd} {Z : St} {C : Cx W Z} {v : Env} {lm : Lm} {n n0 : Led} {x y : Vl} {e f g : PySem.Expr} {pos : Pos} {Q : Rs} {rest bd el : List Stmt} {b : Nat} {R : Vl → Led → Prop} {params : Arguments} {body : PySem.Expr} {scope : Scope} {qual : Str}
theorem LamFn.kp {n n' : Led} {f : Addr} (h : LamFn qual params body scope n f) (K : Kp n n') : LamFn qual params body scope n' f :=
  let ⟨c', pm, ctv, p, q⟩ := h; ⟨c', pm, ctv, K _ p (.inl (by show Value.type "function" ≠ .none; nofun)), q.kp K⟩
theorem Vw.lam (hcd : Z.ccd = .ref 124) (T : TabP pos qual n) (hq : (Z.env 0).qual ++ "<lambda>" = qual) (hdef : defaultsOf params C.env = ([], [])) (hcl : closureFor scope C.env = Pure.pure [])
    (k : ∀ n' f, LamFn qual params body scope n' f → TabP pos qual n' → Kp n n' → R (.ref f) n') : Vw C C.env lm n (.Lambda params body scope pos) R := fun m s σ y => by
  subst hq
  refine kla_eval hdef ?_
  obtain ⟨ps, h120, rfl | ⟨c', rfl, oc, vs, t, hc, hne, hd, hv⟩⟩ := T
  · have y' := y.turn h120
    refine kla_nest y'.1 y'.2 C.T C.G hcd (.head off_filter) trivial rfl hcl fun f c' oc vs t ctv h' tk F N d1 d2 l1 l2 => ?_
    have e120 : c' ≠ 120 := Nat.ne_of_gt (l1 _ (.head _))
    have hcd : ∀ o r, LamCd ((Z.env 0).qual ++ "<lambda>") (o :: (c', oc) :: r) c' := fun o r => ⟨oc, vs, t, .tail _ (.head _), e120, d1, d2⟩
    refine out ⟨F, N⟩ ⟨.ref f, rfl, k _ f ⟨c', _, ctv, .head _, hcd _ _⟩ ⟨_, .tail _ (.tail _ (.head _)), .inr ⟨c', rfl, hcd _ _⟩⟩ fun p hp q => ?_⟩
    have : p.1 ≠ 120 := fun e => by
      rcases q with q | q
      · have e2 : p.2 = tabObj #[] := y.same (b := 120) (by rw [← e]; exact hp) h120
        rw [e2] at q
        exact q rfl
      · exact q e
    exact .tail _ (.tail _ (.tail _ (List.mem_filter.mpr ⟨hp, by simpa using this⟩)))
  · refine kla_hit (c' := c') y.1 y.2 C.T C.G hcd h120 trivial (by simp [codeAmong, rawInt]) hcl fun f ctv h' tk F N l1 => ?_
    have hcd : ∀ o, LamCd ((Z.env 0).qual ++ "<lambda>") (o :: n) c' := fun o => ⟨oc, vs, t, .tail _ hc, hne, hd, hv⟩
    exact out ⟨F, N⟩ ⟨.ref f, rfl, k _ f ⟨c', _, ctv, .head _, hcd _⟩ ⟨_, .tail _ h120, .inr ⟨c', rfl, hcd _⟩⟩ (.of fun p hp => .tail _ hp)⟩
theorem lam_v {fa : Addr} {Post : Vl → Led → Prop} {z : Str} (H : LamFn qual params body scope n fa)
    (hb : ∀ pm c' ctv u, bindArgs (kla_fn "<lambda>" qual params body scope [] pm (.ref c') ctv) ⟨[u], []⟩ = Pure.pure [(z, u)]) (hl : scope.names.lookup z = some .local)
    (hev : ∀ {cd} (C : Cx W ⟨qual, scope, fa, cd, []⟩), Ev C C.env [(z, x)] n body y) (ret : Post y n)
    (c1 : scope.isCoroutine = false) (c2 : scope.isGenerator = false) (c3 : scope.kind = .function) (c4 : (scope.names.all fun x => decide (x.2 ≠ .cell)) = true) : DoesV W fa [x] 0 n Post := by
  intro us hus Z C m rm s y
  obtain ⟨c', pm, ctv, hm, oc, vs, t, hc, hne, hd, hv⟩ := H
  obtain ⟨u, rfl, hu⟩ := hus.one
  refine wpAny_call (kla_code C.B y.1 C.X y.2 C.T C.hA rfl C.hk hm (codeRec_news y.2 hc hd hv) rm.1 (hb _ _ _ _) (fun p hp => by rw [List.mem_singleton.mp hp]; exact hl) (fun g L' h₁ FG F' N' B' X' T' => ?_) c1 c2 c3 fun x hx => of_decide_eq_true (List.all_eq_true.mp c4 x hx))
  let C' : Cx W ⟨qual, scope, fa, .ref c', []⟩ := { A := C.A.deeper (envX qual scope L' fa (.ref c') []), outer := C.env :: C.outer, A0 := C.A, base := C.base, h0 := g, L := L', hA := Around.frames_deeper C.hA, hh := C.hh, B := B', X := X', T := T', G := C.G.keeps FG.keep, hk := c3 }
  refine wpAny_mono (Wt.go (C := C') (Q := fun v s' => LeaveK C.h0 C.L m g _ v s') (s := { s with heap := h₁, toks := s.toks + [(z, u)].length }) (hev C' (fun y => [(z, u)].reverse.lookup y) (SatL.nil.cons hu)) ⟨F', N'⟩ fun v n' h' tk' z r => ?_) (fun ζ ζ x => x) fun ζ ζ x => x.elim
  exact leaveK_ z.1 z.2 fun F2 N2 => out (tk' := tk') ⟨F2, N2⟩ ⟨_, r.1, r.2 ▸ ret⟩
end
end Mine
namespace Mine
noncomputable def Sub (lm lm0 : Lm) : Prop := ∀ y x, lm0.lookup y = some x → lm.lookup y = some x
theorem Sub.refl {lm : Lm} : Sub lm lm := fun ζ ζ h => h
theorem Sub.nil {lm : Lm} : Sub lm [] := fun ζ ζ h => nomatch h
theorem Sub.cons {lm lm0 : Lm} {z : Str} {w : Vl} (h : lm.lookup z = some w) (k : Sub lm lm0) : Sub lm ((z, w) :: lm0) := fun y x e => by
  rw [List.lookup_cons] at e
  by_cases q : y = z
  · subst q
    rw [beq_self_eq_true] at e
    cases e
    exact h
  · rw [beq_eq_false_iff_ne.mpr q] at e
    exact k y x e
theorem Sat.sub {m : Loc} {lm lm0 : Lm} (h : Sat m lm) (k : Sub lm lm0) : Sat m lm0 := fun y x e => h y x (k y x e)
theorem calm_i {c d : Addr} : Calm (instObj c d) := .inr fun ζ h => by cases h
theorem calm_d {es : List DictEntry} {k : Nat} : Calm (dictOf es k) := .inr fun ζ h => by cases h
theorem calm_l {us : Array Value} {k : Nat} : Calm (listOf us k) := .inr fun ζ h => by cases h
theorem calm_t {us : List Value} : Calm (tupOf us) := .inr fun ζ h => by cases h
theorem calm_n {ps : Array Value} : Calm (tabObj ps) := .inl ⟨nofun, nofun, nofun⟩
noncomputable def Kc (n n' : Led) : Prop := ∀ p ∈ n, Calm p.2 → p ∈ n'
theorem Ob.kc {n n' : Led} {x c dx : Addr} {fs : Fds} {b : Nat} (O : Ob n x c dx fs b) (K : Kc n n') : Ob n' x c dx fs b :=
  ⟨K _ O.1 calm_i, let ⟨es, k, p, q⟩ := O.2; ⟨es, k, K _ p calm_d, q⟩⟩
theorem LV.kc {n n' : Led} {l : Addr} {xs : List Vl} (h : LV n l xs) (K : Kc n n') : LV n' l xs := by obtain ⟨us, k, p, q⟩ := h; exact ⟨us, k, K _ p calm_l, q⟩
theorem TV.kc {n n' : Led} {l : Addr} {xs : List Vl} (h : TV n l xs) (K : Kc n n') : TV n' l xs := by obtain ⟨us, p, q⟩ := h; exact ⟨us, K _ p calm_t, q⟩
theorem TabP.kc {pos : Pos} {q : Str} {n n' : Led} (T : TabP pos q n) (K : Kc n n') : TabP pos q n' := T.by (fun ps p => K _ p calm_n) fun c' o vs s t p d v => K _ p (.inr fun ws e => ⟨s, t, by rw [d] at e; cases e; exact v⟩)
section
variable {W : Wd} {Z : St} {C : Cx W Z} {v : Env} {lm : Lm} {n n0 : Led} {x y : Vl} {e f g : PySem.Expr} {pos : Pos} {Q : Rs} {rest bd el : List Stmt} {b : Nat} {R : Vl → Led → Prop}
theorem Sv.sub {lm0 : Lm} (k : Sub lm lm0) (h : Sv C lm0 n bd Q) : Sv C lm n bd Q := fun m s => h m (s.sub k)
end
end Mine
namespace Mine
structure Inv (π σ : Type) : Type where
  foot : Addr → Prop
  lm : σ → Lm
  ex : π → σ → Led → Prop
noncomputable def Nx {π σ : Type} (I : Inv π σ) (p : π) (n : Led) (lm : Lm) (n' : Led) : Prop := (∀ p ∈ n, ¬ I.foot p.1 → p ∈ n') ∧ ∃ s, Sub lm (I.lm s) ∧ I.ex p s n'
noncomputable abbrev Rs.turn {π σ : Type} (Q : Rs) (I : Inv π σ) (p : π) (n : Led) : Rs := ⟨Q.ret, Nx I p n, Nx I p n⟩
section
variable {W : Wd} {Z : St} {C : Cx W Z} {m : Loc} {n : Led} {lm : Lm} {x x1 x2 : Vl} {e it rn target : PySem.Expr} {pos px p1 p2 tp rp : Pos} {Q : Rs} {rest bd : List Stmt} {z z1 z2 : Str} {a c : Addr} {π σ α : Type}
noncomputable def Tn (C : Cx W Z) (target : PySem.Expr) (body : List Stmt) (u : Value) (m : Loc) (n : Led) (R : Flow → Loc → Led → Prop) : Prop :=
  ∀ s, At C m n s.heap → wpAny (model pg W.w) C.A (assign target C.env u) (fun ζ s₂ => wpAny (model pg W.w) C.A (execs body C.env) (OutS C s R) No s₂) No s
noncomputable def Tg (C : Cx W Z) (target : PySem.Expr) (bd : List Stmt) (x : Vl) (lm : Lm) (n : Led) (Q : Rs) : Prop := ∀ m u, Sat m lm → x.is u → Tn C target bd u m n Q.at
theorem Tg.name (h : Sv C ((z, x) :: lm) n bd Q) (hx : (Z.env 0).kindOf z = some .local) : Tg C (.Name z px) bd x lm n Q := fun m u s hu σ y =>
  assign_Name (storeX_L y.1 y.2 (fun h3 F3 N3 => Ws.at (tk' := _) (h _ (s.put hu)) ⟨F3, N3⟩) C.hk hx)
theorem Tg.pair {tk : Nat} (T : TV n a [x1, x2]) (h : Sv C ((z2, x2) :: (z1, x1) :: lm) n bd Q) (h1 : (Z.env 0).kindOf z1 = some .local) (h2 : (Z.env 0).kindOf z2 = some .local) : Tg C (.Tuple [.Name z1 p1, .Name z2 p2] tk tp) bd (.ref a) lm n Q := fun m u s hu σ y => by
  obtain rfl : u = .ref a := hu
  obtain ⟨us, hm, q⟩ := T
  obtain ⟨u1, u2, rfl, q1, q2⟩ := q.two
  refine unpackN_ (items := #[u1, u2]) y.1 y.2 (News.isTup y.2 hm) C.hh rfl rfl fun h2' F2 N2 => ?_
  show wpAny _ _ (do holding [u2] (assign (.Name z1 p1) C.env u1); holding [] (assign (.Name z2 p2) C.env u2); Pure.pure ()) _ _ _
  refine wpAny_bind (wpAny_holding (assign_Name (storeX_L F2 N2 (fun h3 F3 N3 => ?_) C.hk h1)))
  refine wpAny_bind (wpAny_holding (assign_Name (storeX_L F3 N3 (fun h4 F4 N4 => ?_) C.hk h2)))
  exact wpAny_pure (Ws.at (tk' := _) (h _ ((s.put q1).put q2)) ⟨F4, N4⟩)
noncomputable def CellV (n : Led) (c : Addr) (x : Vl) : Prop := ∃ o u, (c, o) ∈ n ∧ o.data = .cell (some u) ∧ x.is u
theorem Tg.cell {o : Obj} {v : Option Value} (hc : Z.cl.lookup z = some c) (ho : (c, o) ∈ n) (hd : o.data = .cell v) (h : ∀ n', (Kl c n n') → CellV n' c x → Sv C lm n' bd Q) (hx : ∀ L, (Z.env L).kindOf z = some .cell) : Tg C (.Name z px) bd x lm n Q := fun m u s hu σ y => by
  have y' := y.turn ho
  exact assign_Name (storeX_C y'.1 y'.2 hc (.head off_filter) hd (fun h3 o' F3 N3 hd' => Ws.at (tk' := _) (h ((c, o') :: n.filter fun p => p.1 != c) (fun p hp h => in_filter hp h) ⟨o', u, .head _, hd', hu⟩ _ s) ⟨F3, N3⟩) C.hk (hx _))
structure Lg (C : Cx W Z) (n : Led) (lm : Lm) (target : PySem.Expr) (bd rest : List Stmt) (Q : Rs) (k : Nat) (P : Nat → Value → Prop) (pos : Nat → π) (I : Inv π σ) : Prop where
  ext : ∀ r s n n', I.ex r s n → Kc n n' → I.ex r s n'
  start : ∃ s, Sub lm (I.lm s) ∧ I.ex (pos 0) s n
  turn : ∀ i u s n', P i u → i < k → One n' → (∀ p ∈ n, ¬ I.foot p.1 → p ∈ n') → I.ex (pos i) s n' → ∀ m, Sat m (I.lm s) → Tn C target bd u m n' (Q.turn I (pos (i + 1)) n').at
  done : ∀ s n', (∀ p ∈ n, ¬ I.foot p.1 → p ∈ n') → I.ex (pos k) s n' → Sv C (I.lm s) n' rest Q
noncomputable def After (C : Cx W Z) (s : Shared) (rest : List Stmt) (Q : Rs) : Flow → Shared → Prop := fun f s' => match f with | .next => wpAny (model pg W.w) C.A (execs rest C.env) (OutS C s Q.at) No s' | f => OutS C s Q.at f s'
noncomputable def TvJ (I : Inv π σ) (pos : Nat → π) (n : Led) (i : Nat) (m' : Loc) (n' : Led) : Prop := (∀ p ∈ n, ¬ I.foot p.1 → p ∈ n') ∧ ∃ s, Sat m' (I.lm s) ∧ I.ex (pos i) s n'
theorem in_off {D : Addr} {p : Addr × Obj} (hp : p ∈ n) (h : p.1 ≠ D) : p ∈ n.filter fun p => p.1 != D := List.mem_filter.mpr ⟨hp, bne_iff_ne.mpr h⟩
theorem turns_v {h1 : Heap} {o : Obj} {ls : List Addr} {k : Nat} {P : Nat → Value → Prop} {St : Nat → Heap → Prop} {s : Shared} {pos : Nat → π} {I : Inv π σ} (z : At C m n h1) (sat : Sat m lm) (es : s.heap = h1.push o)
    (hls : ∀ b ∈ ls, ∃ o, (b, o) ∈ n) (hf : ∀ b, I.foot b → b ∉ ls ∧ ∃ o, (b, o) ∈ n) (Wk : Walks pg W.w C.A h1.objs.size (h1.objs.size :: ls) [h1.objs.size] k P St)
    (hgo : ∀ i v (s : Shared) (Q : Unit → Shared → Prop) (E : Value → Shared → Prop), St i s.heap → Q () s → wpAny (model pg W.w) C.A (letOwnedTupleGo target (.ref h1.objs.size) v) Q E s)
    (h0 : St 0 (h1.push o)) (hit : ∀ i h, St i h → ∃ o, h.get? h1.objs.size = some o ∧ ¬ Calm o) (L : Lg C n lm target bd rest Q k P pos I) :
    TurnsAt pg W.w C.A C.h0 C.env target bd (After C s rest Q) No (.ref h1.objs.size) s := by
  have hnI : ∀ {b : Addr} {o : Obj}, (b, o) ∈ n → b ≠ h1.objs.size := fun hp => Nat.ne_of_lt (z.lt hp)
  obtain ⟨s0, sb, e0⟩ := L.start
  have z' := es ▸ z.iter o
  refine ⟨_, _, [h1.objs.size], k, _, _, St, m, n, TvJ I pos n, rfl, KTurns.ofWalks Wk hgo, (fun hm => ?_), (fun b hb => by rw [List.mem_singleton.mp hb]; exact z.new), (fun p hp hm => hnI hp (List.mem_singleton.mp hm)), es ▸ h0, z'.1, z'.2, ⟨fun ζ h ζ => h, s0, sat.sub sb, e0⟩, ?_, ?_⟩
  · rcases List.mem_cons.mp hm with e | hm
    · exact Nat.ne_of_lt z.1.ns.lt e
    · exact (hls _ hm).elim fun o ho => (z.2 _ ho).2.1 rfl
  · rintro i u m1 n1 hh tk own hi hP ⟨hk, s1, sat1, hE⟩ hw hof hoh hall hst F N
    have zz : At C m1 (own ++ n1) hh := ⟨F, N⟩
    have T := L.turn i u s1 (own ++ n1) hP hi (fun ζ ζ ζ p q => zz.same p q) (fun p hp hf => List.mem_append_right _ (hk p hp hf)) (L.ext _ _ _ _ hE fun p hp ζ => List.mem_append_right _ hp) m1 sat1
    obtain ⟨oI, ho, hc⟩ := hit _ _ hst
    have ho := hall _ (.head _) z.new oI ho
    refine wpAny_mono (T { s with heap := hh, toks := tk } zz) (fun ζ s₂ w => wpAny_mono w (fun f s₃ o => ?_) fun ζ ζ x => x) fun ζ ζ x => x
    obtain ⟨m2, n2, h2, tk2, z2, r, rfl⟩ := o
    have fin : (∃ lm, Sat m2 lm ∧ Nx I (pos (i + 1)) (own ++ n1) lm n2) → LoopStepU C.h0 C.L [h1.objs.size] own (TvJ I pos n (i + 1)) { s with heap := hh, toks := tk } .next { s with heap := h2, toks := tk2 } := by
      rintro ⟨lm2, sat2, k1, s2, sb2, k2⟩
      have ownIn : Kk own n2 := fun p hp => k1 p (List.mem_append_left _ hp) fun hf' => (hf _ hf').elim fun h1 h2 => (List.mem_cons.mp (hof p hp)).elim (fun e => h2.elim fun o h => hnI h e) h1
      refine LoopStepU.intro (news₂ := n2.filter fun p => p.1 != h1.objs.size) z2.1 (fun p hp => ?_) (fun p hp hm => ?_) ⟨fun p hp hf => in_off (k1 p (List.mem_append_right _ (hk p hp hf)) hf) (hnI hp), s2, sat2.sub sb2, L.ext _ _ _ _ k2 fun p hp hc' => in_off hp fun e => hc ?_⟩
      · rcases List.mem_append.mp hp with hp | hp
        · exact z2.2 p (ownIn p hp)
        · exact z2.2 p (List.mem_filter.mp hp).1
      · exact off_filter p hp (List.mem_singleton.mp hm)
      · rw [← z2.same (b := h1.objs.size) (e ▸ hp : (h1.objs.size, p.2) ∈ n2) (ownIn _ ho)]; exact hc'
    cases f with
    | next => exact .next (fin r)
    | cont => exact .cont (fin r)
    | ret u => exact .ret ⟨m2, n2, h2, tk2, z2, r, rfl⟩
    | brk => exact r.elim
  · rintro h' tk m' n' F N ζ ⟨hk, s1, sat1, hE⟩
    exact Ws.at (L.done s1 n' hk hE m' sat1) ⟨F, N⟩
end
end Mine
namespace Mine
section
variable {W : Wd} {Z : St} {C : Cx W Z} {m : Loc} {n : Led} {lm : Lm} {x x1 x2 : Vl} {e it rn target : PySem.Expr} {pos px p1 p2 tp rp : Pos} {Q : Rs} {rest bd : List Stmt} {z z1 z2 : Str} {a c l : Addr} {α σ : Type}
structure Lp (C : Cx W Z) (n : Led) (lm : Lm) (target : PySem.Expr) (bd rest : List Stmt) (Q : Rs) (l : Addr) (g : α → Vl) (ts : List α) (I : Inv (List α) σ) : Prop where
  foot : ∀ b, I.foot b → b ≠ l ∧ ∃ o, (b, o) ∈ n
  ext : ∀ r s n n', I.ex r s n → Kc n n' → I.ex r s n'
  start : ∃ s, Sub lm (I.lm s) ∧ I.ex ts s n
  turn : ∀ t r s n', One n' → (∀ p ∈ n, ¬ I.foot p.1 → p ∈ n') → I.ex (t :: r) s n' → Tg C target bd (g t) (I.lm s) n' (Q.turn I r n')
  done : ∀ s n', (∀ p ∈ n, ¬ I.foot p.1 → p ∈ n') → I.ex [] s n' → Sv C (I.lm s) n' rest Q
theorem Lp.lg {g : α → Vl} {ts : List α} {I : Inv (List α) σ} {us : List Value} (L : Lp C n lm target bd rest Q l g ts I) (hus : IsAll (ts.map g) us) : Lg C n lm target bd rest Q us.toArray.size (fun i v => us.toArray[i]? = some v) (fun i => ts.drop i) I := by
  have hlen := hus.length
  rw [List.length_map] at hlen
  refine ⟨L.ext, L.start, fun i u s n' hu hi one kp e m sat => ?_, fun s n' kp e => L.done s n' kp ?_⟩
  · have hi : i < ts.length := hlen ▸ hi
    obtain ⟨w, hw, hx⟩ := hus.get (j := i) (x := g ts[i]) (by rw [List.getElem?_map, List.getElem?_eq_getElem hi]; rfl)
    rw [List.drop_eq_getElem_cons hi] at e
    rw [List.getElem?_toArray, hw] at hu
    exact L.turn _ _ s n' one kp e m u sat (Option.some.inj hu ▸ hx)
  · have e : I.ex (ts.drop us.length) s n' := e
    rw [hlen, List.drop_length] at e
    exact e
inductive LpL (C : Cx W Z) (lm : Lm) (target : PySem.Expr) (bd rest : List Stmt) (Q : Rs) : Vl → Led → Prop
  | mk {n : Led} {l : Addr} {α σ : Type} {g : α → Vl} {ts : List α} {I : Inv (List α) σ} (hl : LV n l (ts.map g)) (L : Lp C n lm target bd rest Q l g ts I) : LpL C lm target bd rest Q (.ref l) n
inductive LpT (C : Cx W Z) (lm : Lm) (target : PySem.Expr) (bd rest : List Stmt) (Q : Rs) : Vl → Led → Prop
  | mk {n : Led} {l : Addr} {α σ : Type} {g : α → Vl} {ts : List α} {I : Inv (List α) σ} (hl : TV n l (ts.map g)) (L : Lp C n lm target bd rest Q l g ts I) : LpT C lm target bd rest Q (.ref l) n
noncomputable def GoL (target : PySem.Expr) : Prop := ∀ {w : World} {A : Around} {I l : Addr} {i : Nat} (v : Value) (s : Shared) (Q : Unit → Shared → Prop) (E : Value → Shared → Prop), s.heap.IsListIter I l i → Q () s → wpAny (model pg w) A (letOwnedTupleGo target (.ref I) v) Q E s
theorem goN : GoL (.Name z px) := fun v s Q E ζ q => wpAny_pure q
theorem goP {es : List PySem.Expr} {tk : Nat} : GoL (.Tuple es tk tp) := fun v s Q E st q => by
  cases v with
  | ref T => exact PySem.wpAny_letOwnedTupleGo_listiter st q
  | _ => exact wpAny_pure q
theorem Sv.forL (hgo : GoL target) (h : Vw C C.env lm n it (LpL C lm target bd rest Q)) (hs : ∀ x, foldedSetIterable it C.env x = Pure.pure x) : Sv C lm n (.For target it bd [] pos :: rest) Q := fun m sat s z =>
  wpAny_execs_cons (For_turns (E := No) (Q := After C s rest Q) z.1 ((h m sat).go z fun u n1 h1 tk1 z r => by
    obtain ⟨x, hu, r⟩ := r
    cases r with
    | mk hl L =>
      rename_i l _ _ _ _ _
      obtain rfl : u = .ref l := hu
      obtain ⟨us, k, hl, hus⟩ := hl
      refine wpAny_pyIter_list (News.isList z.2 hl) ?_
      have hll : l ≠ h1.objs.size := Nat.ne_of_lt (z.lt hl)
      refine turns_v (ls := [l]) z sat rfl (fun b hb => ⟨_, List.mem_singleton.mp hb ▸ hl⟩) (fun b hb => ⟨fun hm => (L.foot b hb).1 (List.mem_singleton.mp hm), (L.foot b hb).2⟩) (Walks.list C.hh h1.objs.size l hll us.toArray) (fun i v s Q E st q => hgo v s Q E st.1 q) ⟨⟨_, Heap.get?_push_size _ rfl, rfl, rfl⟩, News.isList (z.iter _).2 hl⟩ (fun i h st => ?_) (L.lg hus)
      obtain ⟨o, e, c, d⟩ := st.1
      exact ⟨o, e, fun q => q.elim (fun q => q.1 c) fun q => (q _ d).elim fun s q => q.elim fun t q => nomatch q⟩) hs (fun ζ ζ x => x.elim))
theorem Sv.forT (h : Vw C C.env lm n it (LpT C lm (.Name z px) bd rest Q)) (hs : ∀ x, foldedSetIterable it C.env x = Pure.pure x) : Sv C lm n (.For (.Name z px) it bd [] pos :: rest) Q := fun m sat s y =>
  wpAny_execs_cons (For_turns (E := No) (Q := After C s rest Q) y.1 ((h m sat).go y fun u n1 h1 tk1 z r => by
    obtain ⟨x, hu, r⟩ := r
    cases r with
    | mk hl L =>
      rename_i l _ _ _ _ _
      obtain rfl : u = .ref l := hu
      obtain ⟨us, hl, hus⟩ := hl
      have isT : ∀ {h : Heap}, At C m n1 h → h.IsTuple l us.toArray := fun z => ⟨_, (z.2 _ hl).1, rfl, 0, rfl⟩
      refine wpAny_pyIter_tuple (isT z) ?_
      have hll : l ≠ h1.objs.size := Nat.ne_of_lt (z.lt hl)
      refine turns_v (ls := [l]) z sat rfl (fun b hb => ⟨_, List.mem_singleton.mp hb ▸ hl⟩) (fun b hb => ⟨fun hm => (L.foot b hb).1 (List.mem_singleton.mp hm), (L.foot b hb).2⟩) (Walks.tuple C.hh h1.objs.size l hll us.toArray) (fun i v s Q E st q => wpAny_pure q) ⟨⟨_, Heap.get?_push_size _ rfl, rfl, rfl⟩, isT (z.iter _)⟩ (fun i h st => ?_) (L.lg hus)
      obtain ⟨o, e, c, d⟩ := st.1
      exact ⟨o, e, fun q => q.elim (fun q => q.2.2 c) fun q => (q _ d).elim fun s q => q.elim fun t q => nomatch q⟩) hs (fun ζ ζ x => x.elim))
structure Lr (C : Cx W Z) (n : Led) (lm : Lm) (z : Str) (bd rest : List Stmt) (Q : Rs) (k : Nat) (I : Inv Nat σ) : Prop where
  foot : ∀ b, I.foot b → ∃ o, (b, o) ∈ n
  ext : ∀ r s n n', I.ex r s n → Kc n n' → I.ex r s n'
  start : ∃ s, Sub lm (I.lm s) ∧ I.ex 0 s n
  turn : ∀ i s n', i < k → One n' → (∀ p ∈ n, ¬ I.foot p.1 → p ∈ n') → I.ex i s n' → Sv C ((z, .int i) :: I.lm s) n' bd (Q.turn I (i + 1) n')
  done : ∀ s n', (∀ p ∈ n, ¬ I.foot p.1 → p ∈ n') → I.ex k s n' → Sv C (I.lm s) n' rest Q
inductive LrX (C : Cx W Z) (lm : Lm) (z : Str) (bd rest : List Stmt) (Q : Rs) : Vl → Led → Prop
  | mk {n : Led} {x : Vl} {k : Nat} {σ : Type} {I : Inv Nat σ} (hx : x = .int k) (hk : k ≤ 1000) (L : Lr C n lm z bd rest Q k I) : LrX C lm z bd rest Q x n
theorem Sv.forR (hr : ∀ m (R : Value → Led → Prop), R (.type "range") n → We C C.env m n rn R) (h : Vw C C.env lm n e (LrX C lm z bd rest Q)) (hx : (Z.env 0).kindOf z = some .local)
    (h1 : eval (rn.Call [e] [] rp) C.env = (do let f ← eval rn C.env; callWith rp f [] (backTo rp (starEach [e] C.env)) (backToKw rp (keywordEach [] C.env))))
    (h2 : starEach [e] C.env = (false, eval e C.env) :: starEach [] C.env) (h3 : ((backTo rp (starEach [] C.env)).any (·.1)) = false)
    (hs : ∀ x, foldedSetIterable (rn.Call [e] [] rp) C.env x = Pure.pure x) : Sv C lm n (.For (.Name z px) (rn.Call [e] [] rp) bd [] pos :: rest) Q := fun m sat s y =>
  wpAny_execs_cons (For_turns (E := No) (Q := After C s rest Q) y.1 (Call_ ((hr m (fun ty n0 => ty = .type "range" ∧ n0 = n) ⟨rfl, rfl⟩).go y fun ty n0 h0 tk0 y0 r => by
    obtain ⟨rfl, rfl⟩ := r
    refine PyProof.Rows.callWith_type1 (spliced_more (Wt.go (h m sat) y0 fun u n1 h1 tk1 z r => spliced_none ?_) h2) h2 h3
    obtain ⟨x, hu, r⟩ := r
    cases r with
    | mk hx hk L =>
      rename_i k _ _
      subst hx
      obtain ⟨t, rfl⟩ := hu
      refine range1_rows z.1 z.2 fun h2 tk2 t1 u1 v1 hr F2 N2 hkeep => ?_
      have z : At C m n1 h2 := ⟨F2, N2⟩
      have hk : (k : Int) ≤ 1000 := Int.ofNat_le.mpr hk
      have h0 : (0 : Int) ≤ k := Int.natCast_nonneg k
      refine wpAny_pyIter_range hr (small_one (by decide) (by decide) (Int.le_trans (by decide) h0) (Int.lt_of_le_of_lt hk (by decide))) ?_
      refine turns_v (ls := []) z sat rfl (fun b hb => nomatch hb) (fun b hb => ⟨List.not_mem_nil, L.foot b hb⟩) (LCg.range_walks C.hh 0 k) (fun i v s Q E st q => wpAny_pure q) (by show IsRangeIter _ _ _ _ _; rw [rangeSize_nat]; simpa using Heap.get?_push_size _ rfl)
        (fun i h st => ⟨_, st, fun q => q.elim (fun q => q.2.1 rfl) fun q => (q _ rfl).elim fun s q => q.elim fun t q => nomatch q⟩) (pos := id) ⟨L.ext, L.start, fun i u s n' hP hi one kp e m sat => ?_, L.done⟩
      obtain ⟨t, rfl⟩ := hP
      rw [Int.zero_add]
      exact Tg.name (L.turn i s n' hi one kp e) hx m _ sat ⟨t, rfl⟩) h1) hs (fun ζ ζ x => x.elim))
end
end Mine
namespace Mine
noncomputable def UpL (n : Led) : Vl → List Addr → Prop
  | v, [] => v = .none
  | v, a :: as => v = .ref a ∧ ∃ dx F, ItIn n a dx F ∧ F.us = "" ∧ UpL n F.par as
theorem UpL.mono {n n' : Led} (K : ∀ {x c dx : Addr} {fs : Fds} {b : Nat}, Ob n x c dx fs b → Ob n' x c dx fs b) : ∀ {as : List Addr} {v : Vl}, UpL n v as → UpL n' v as
  | [], _, h => h
  | _ :: _, _, ⟨e, dx, F, I, u, r⟩ => ⟨e, dx, F, K I, u, UpL.mono K r⟩
noncomputable def firstU : List (Addr × Str) → Str
  | [] => ""
  | p :: r => if p.2 != "" then p.2 else firstU r
section
variable {W : Wd} {Z : St} {C : Cx W Z} {v : Env} {lm : Lm} {n n0 : Led} {x y : Vl} {e f g : PySem.Expr} {pos : Pos} {Q : Rs} {rest bd el : List Stmt} {R : Vl → Led → Prop}
theorem Sv.whlV {t : PySem.Expr} (Ex : Nat → Lm → Led → Prop) (k : Nat) (e0 : ∃ lm0, Sub lm lm0 ∧ Ex k lm0 n)
    (turn : ∀ i lm n, Ex i lm n → ∃ b, Eb C C.env lm n t b ∧ (b = true → Sv C lm n bd ⟨fun ζ ζ => False, fun lm' n' => ∃ j, j < i ∧ ∃ lm0, Sub lm' lm0 ∧ Ex j lm0 n', fun ζ ζ => False⟩) ∧ (b = false → Sv C lm n rest Q)) : Sv C lm n (.While t bd [] pos :: rest) Q := fun m s =>
  .whl (fun i m' n' => ∃ lm', Sat m' lm' ∧ Ex i lm' n') k (let ⟨lm0, sb, e⟩ := e0; ⟨lm0, s.sub sb, e⟩) fun i m' n' ⟨lm', s', e⟩ => by
    obtain ⟨b, hb, h1, h2⟩ := turn i lm' n' e
    refine (hb m' s').mono fun c n1 q => ?_
    obtain ⟨rfl, rfl⟩ := q
    cases c with
    | true =>
      rw [if_pos rfl]
      refine Ws.mono (h1 rfl m' s') fun fl m2 n2 q => ?_
      cases fl with
      | next => obtain ⟨lm2, s2, j, hj, lm0, sb, e⟩ := q; exact ⟨rfl, j, hj, lm0, s2.sub sb, e⟩
      | cont => exact q.elim fun ζ q => q.2.elim
      | ret u => exact q.elim fun ζ q => q.2.elim
      | brk => exact q.elim
    | false => rw [if_neg Bool.false_ne_true]; exact h2 rfl m' s'
theorem Vw.catV (h : Vw C v lm n e fun x n1 => ∃ l1 xs, x = .ref l1 ∧ Vw C v lm n1 f fun y n2 => ∃ l2 ys, y = .ref l2 ∧ LV n2 l1 xs ∧ LV n2 l2 ys ∧ xs.length + ys.length ≤ 100000 ∧ ∀ D n3, (Lw n2 D) → LV n3 D (xs ++ ys) → (Kk n2 n3) → R (.ref D) n3) : Vw C v lm n (.BinOp e .Add f pos) R := fun m s =>
  .bin ((h m s).mono fun u n1 q => by
    obtain ⟨ζ, hu, l1, xs, rfl, q⟩ := q
    obtain rfl : u = .ref l1 := hu
    refine (q m s).mono fun w n2 q => ?_
    obtain ⟨ζ, hw, l2, ys, rfl, ⟨us, k, hm, hus⟩, ⟨vs, k2, hm2, hvs⟩, hz, r⟩ := q
    obtain rfl : w = .ref l2 := hw
    exact .cat hm hm2 (by rw [hus.length, hvs.length]; exact hz) fun D lt => ⟨.ref D, rfl, r D _ lt ⟨_, _, .head _, hus.append hvs⟩ fun p hp => .tail _ hp⟩)
theorem Vw.or3 {b c : Bool} {p : Pos} (h : Ev C v lm n e (.bool b)) (k : Ev C v lm n f (.bool c)) (r : (b || c) = true → R (.bool true) n) (l : Vw C v lm n g fun z n' => ∃ d, z = .bool d ∧ R (.bool (b || c || d)) n') : Vw C v lm n (.BoolOp .Or [e, f, g] p) R := fun m s σ z =>
  BoolOp_or ((h m s).go z fun u n' h' tk' z' q => by
    obtain ⟨q1, q2⟩ := q
    subst q2
    obtain rfl : u = .bool b := q1
    refine wpAny_truthy_bool ?_
    cases b with
    | true => exact out (R := fun u n' => ∃ x, x.is u ∧ R x n') z' ⟨.bool true, rfl, r rfl⟩
    | false =>
      refine BoolOp_or ((k m s).go z' fun u n' h2 tk2 z2 q => ?_)
      obtain ⟨q1, q2⟩ := q
      subst q2
      obtain rfl : u = .bool c := q1
      refine wpAny_truthy_bool ?_
      cases c with
      | true => exact out (R := fun u n' => ∃ x, x.is u ∧ R x n') z2 ⟨.bool true, rfl, r rfl⟩
      | false => exact ((l m s).mono fun u n' q => let ⟨_, hu, d, e, r⟩ := q; ⟨.bool d, e ▸ hu, r⟩).at z2)
end
section
variable {W : Wd} {n : Led} {Post : Vl → Led → Prop}
theorem around_v {x dx : Addr} {F : It} {as : List Addr} (I : ItIn n x dx F) (U : UpL n F.par as) (hz : as.length ≤ 100)
    (ret : ∀ n' l, LV n' l (as.map .ref) → (Kk n n') → Post (.ref l) n') : DoesV W 106 [.ref x] 1 n Post := by
  refine enterZ (k := 0) ["item"] [("item", .ref x)] (by intro P; k_is) (by intro P; k_is) (len1 fun a s => .of_eq rfl) rfl rfl (fun C rm => ?_) rfl rfl rfl rfl
  refine .asgW (.nilList fun l lt => ?_) rfl rfl
  have h0 : LV ((l, listOf [].toArray 0) :: n) l [] := ⟨[], 0, .head _, trivial⟩
  refine .asg (.attr fk_parent (I.mono (fun ζ h => .tail _ h) fun ζ h => .tail _ h) rfl (.loc rfl rfl (by decide)) rfl) ?_ rfl rfl
  refine .whlV (fun i lm' n' => ∃ v done todo, lm' = ([("above", v), ("found", .ref l)] : Lm) ∧ done ++ todo = as ∧ todo.length = i ∧ UpL n v todo ∧ LV n' l (done.map .ref) ∧ (Kk n n')) as.length ⟨_, .cons rfl (.cons rfl .nil), F.par, [], as, rfl, rfl, rfl, U, h0, fun p hp => .tail _ hp⟩ fun i lm' n' ⟨v, done, todo, e, e2, e3, U', L', K'⟩ => ?_
  subst e
  cases todo with
  | nil =>
    obtain rfl : v = .none := U'
    refine ⟨false, .cmp (.notN (.loc rfl rfl (by decide)) .cnone) rfl, (fun e => nomatch e), fun ζ => .ret (.loc rfl rfl (by decide)) (ret n' l ?_ K')⟩
    rw [← e2, List.append_nil]; exact L'
  | cons b todo =>
    obtain ⟨rfl, dy, G, J, ζ, U2⟩ := U'
    refine ⟨true, .cmp (.notR (.loc rfl rfl (by decide)) .cnone) rfl, fun ζ => ?_, fun e => nomatch e⟩
    have hl : done.length ≤ 100000 := Nat.le_trans (Nat.le_trans (Nat.le_add_right _ _) (Nat.le_of_eq (List.length_append.symm.trans (congrArg List.length e2)))) (Nat.le_trans hz (Nat.le_of_ble_eq_true rfl))
    refine .one fun o => .ex (.appends (.loc rfl rfl (by decide)) L' (by rw [List.length_map]; exact hl) (Ev.w (.loc rfl rfl (by decide)) ⟨L', fun n2 L2 K2 => ?_⟩) rfl rfl rfl) rfl rfl
    have K3 : Kk n n2 := fun p hp => K2 p (K' p hp) (Nat.ne_of_lt (lt p hp))
    refine .asg (.attr fk_parent (J.mono (fun ζ h => K3 _ h) fun ζ h => K3 _ h) rfl (.loc rfl rfl (by decide)) rfl) (.nil ⟨todo.length, e3 ▸ Nat.lt_succ_self _, _, .cons rfl (.cons rfl .nil), G.par, done ++ [b], todo, rfl, by rw [List.append_assoc]; exact e2, rfl, U2, ?_, K3⟩) rfl rfl
    rw [List.map_append]; exact L2
end
end Mine
namespace Mine
theorem UpL.all {n : Led} : ∀ {as : List Addr} {v : Vl}, UpL n v as → ∀ a ∈ as, ∃ dx F, ItIn n a dx F ∧ F.us = ""
  | [], _, _, _, h => nomatch h
  | _ :: _, _, ⟨_, dx, F, I, u, r⟩, a, h => by
    rcases List.mem_cons.mp h with rfl | h
    · exact ⟨dx, F, I, u⟩
    · exact UpL.all r a h
theorem firstU_nil : ∀ as : List Addr, firstU (as.map fun a => (a, "")) = ""
  | [] => rfl
  | _ :: as => firstU_nil as
theorem firstU_up (x : Addr) (u : Str) (as : List Addr) : firstU ((x, u) :: as.map fun a => (a, "")) = u := by
  show (if u != "" then u else firstU (as.map fun a => (a, ""))) = u
  rw [firstU_nil]
  by_cases h : u = ""
  · subst h; rfl
  · rw [if_pos (bne_iff_ne.mpr h)]
noncomputable abbrev FnIn (n : Led) (f : Addr) : Prop := ∃ oc od fd sl, (f, (⟨oc, od, .func fd, sl⟩ : Obj)) ∈ n
section
variable {W : Wd} {Z : St} {C : Cx W Z} {v : Env} {lm : Lm} {n n0 : Led} {x y : Vl} {e f g : PySem.Expr} {pos : Pos} {Q : Rs} {rest bd el : List Stmt} {R : Vl → Led → Prop}
theorem Vw.ev (h : Vw C v lm n e fun y n' => y = x ∧ n' = n) : Ev C v lm n e x := fun m s => (h m s).mono fun u n' ⟨_, hx, e, e2⟩ => ⟨e ▸ hx, e2⟩
theorem Ev.ite {b : Bool} (h : Eb C v lm n e b) (k : b = true → Ev C v lm n f x) (l : b = false → Ev C v lm n g x) : Ev C v lm n (.IfExp e f g pos) x := by
  cases b with
  | true => exact .ifT h (k rfl)
  | false => exact .ifF h (l rfl)
theorem Vw.cmpE {t : Str} {k : Nat} {p : Pos} (h : Vw C v lm n e fun x n' => ∃ s, x = .str s ∧ R (.bool (s == t)) n') (hb : behindInMarks .Eq (.Constant (.str t) k p) = false) : Vw C v lm n (.Compare e [.Eq] [.Constant (.str t) k p] pos) R := fun m s =>
  .cmp ((h m s).mono fun u n' ⟨_, hu, w, e, r⟩ => by
    subst e
    obtain ⟨tk, rfl⟩ := hu
    exact .cstr fun tk => .eqS ⟨.bool _, rfl, r⟩) hb
theorem Vw.fnF {es : List PySem.Expr} {fe : PySem.Expr} {fa : Addr} {k : Nat} (rm : Rm C k) (hf : Ev C v lm n fe (.ref fa)) (hn : FnIn n fa) (h : VwL C v lm n pos (e :: es) fun xs n1 => FnIn n1 fa ∧ DoesV W fa xs k n1 R)
    (h1 : eval (fe.Call (e :: es) [] pos) v = (do let f ← eval fe v; callWith pos f [] (backTo pos (starEach (e :: es) v)) (backToKw pos (keywordEach [] v))))
    (h2 : starEach (e :: es) v = (false, eval e v) :: starEach es v) (h3 : ((backTo pos (starEach es v)).any (·.1)) = false) : Vw C v lm n (fe.Call (e :: es) [] pos) R := fun m s σ z =>
  Call_ ((hf m s).go z fun u n1 h1 tk1 z1 q => by
    obtain ⟨q, rfl⟩ := q
    obtain rfl : u = .ref fa := q
    obtain ⟨oc, od, fd, sl, hn⟩ := hn
    refine callWith_F (FnAt.of z1.2 hn) (Wt.go (h m s) z1 fun us n2 h2 tk2 z2 q => ?_) h2 h3
    obtain ⟨xs, hx, ⟨oc, od, fd, sl, hn⟩, d⟩ := q
    exact ⟨FnAt.of z2.2 hn, Wt.at (d us hx C m rm) z2⟩) h1
end
section
variable {W : Wd} {n : Led} {Post : Vl → Led → Prop}
noncomputable def toldI (n : Led) (fa : Addr) (us : Str) : Inv (List (Addr × Str)) Unit := ⟨fun ζ => False, fun ζ => [("read", .ref fa)], fun r ζ ζ => (∀ p ∈ r, ∃ dy G, ItIn n p.1 dy G ∧ G.us = p.2) ∧ firstU r = us⟩
theorem told_v {x dx fa : Addr} {F : It} {as : List Addr} (I : ItIn n x dx F) (U : UpL n F.par as) (hz : as.length ≤ 100) (hn : FnIn n fa)
    (hread : ∀ {n' : Led} {y dy : Addr} {G : It} {Post : Vl → Led → Prop}, (Kk n n') → ItIn n' y dy G → Post (.str G.us) n' → DoesV W fa [.ref y] 0 n' Post)
    (ret : ∀ n', (Kk n n') → Post (.str F.us) n') : DoesV W 118 [.ref x, .ref fa] 2 n Post := by
  refine enterZ (k := 1) ["item", "read"] [("read", .ref fa), ("item", .ref x)] (by intro P; k_is) (by intro P; k_is) (len2 fun a b s => .of_eq rfl) rfl rfl (fun C rm => ?_) rfl rfl rfl rfl
  refine .forL goN
    (.catV (.list (.one (.loc rfl rfl (by decide)) (.nil fun us l hu => ⟨by rw [hu.length]; exact Nat.le_of_ble_eq_true rfl, fun lt => ⟨l, [.ref x], rfl, .fn k106 rm (.glob g_around rfl rfl (by decide)) (.one (.loc rfl rfl (by decide)) (.nil (around_v (I.mono (fun ζ h => .tail _ h) fun ζ h => .tail _ h) (U.mono fun O => O.mono (fun ζ h => .tail _ h) fun ζ h => .tail _ h) hz fun n2 l2 L2 K2 =>
      ⟨l2, _, rfl, ⟨us, 0, K2 _ (.head _), hu⟩, L2, by rw [List.length_map]; exact Nat.le_trans (Nat.add_le_add_left hz _) (Nat.le_of_ble_eq_true rfl), fun D n3 ltD L3 K3 => .mk (g := fun p : Addr × Str => .ref p.1) (ts := (x, F.us) :: as.map fun a => (a, "")) (I := toldI n fa F.us) ?_ ⟨fun ζ h => h.elim, fun ζ ζ ζ ζ h ζ => h, ⟨(), .cons rfl .nil, fun p hp => ?_, firstU_up x F.us as⟩, ?_, ?_⟩⟩)) rfl) rfl rfl rfl⟩⟩) rfl)))
    (fun ζ => rfl)
  · rw [List.map_cons, List.map_map]; exact L3
  · rcases List.mem_cons.mp hp with rfl | hp
    · exact ⟨dx, F, I, rfl⟩
    · obtain ⟨b, hb, rfl⟩ := List.mem_map.mp hp
      exact U.all b hb
  · rintro ⟨y, u⟩ r ζ n' ζ kp ⟨hall, hu⟩
    obtain ⟨dy, G, J, rfl⟩ := hall _ (.head _)
    refine .name ?_ rfl
    have K : Kk n n' := fun p hp => kp p (K3 p (K2 p (.tail _ hp))) id
    have J' : ItIn n' y dy G := J.mono (fun ζ h => K _ h) fun ζ h => K _ h
    have hn' : FnIn n' fa := let ⟨a, b, c, d, h⟩ := hn; ⟨a, b, c, d, K _ h⟩
    have ev : ∀ {p1 p2 p3 : Pos}, Ev C C.env [("one", .ref y), ("read", .ref fa)] n' (.Call (.Name "read" p1) [.Name "one" p2] [] p3) (.str G.us) := fun {ζ ζ ζ} => Vw.ev (.fnF (rm.le (Nat.zero_le 1)) (.loc rfl rfl (by decide)) hn' (.one (.loc rfl rfl (by decide)) (.nil ⟨hn', hread K J' ⟨rfl, rfl⟩⟩) rfl) rfl rfl rfl)
    refine .ite (.cmp (.neS ev .str) rfl) (fun q => .ret ev ?_) fun q => .nil (.nil ⟨fun p hp ζ => hp, (), .cons rfl .nil, fun p hp => hall p (.tail _ hp), ?_⟩)
    · have e : (if G.us != "" then G.us else firstU r) = F.us := hu
      rw [if_pos (show (G.us != "") = true from q)] at e
      exact e ▸ ret n' K
    · have e : (if G.us != "" then G.us else firstU r) = F.us := hu
      rw [if_neg (by rw [show (G.us != "") = false from q]; exact Bool.false_ne_true)] at e
      exact e
  · rintro ζ n' kp ⟨ζ, hu⟩
    have hu : "" = F.us := hu
    exact .ret (x := .str "") .str (hu ▸ ret n' fun p hp => kp p (K3 p (K2 p (.tail _ hp))) id)
noncomputable abbrev Tab (n : Led) : Prop := TabP ⟨71, 26, 71, 47⟩ "usage_of.<locals>.<lambda>" n
noncomputable def usz (F : It) : Str := if F.us != "" then F.us else "display"
theorem usage_v {x dx : Addr} {F : It} {as : List Addr} (I : ItIn n x dx F) (U : UpL n F.par as) (hz : as.length ≤ 100) (T : Tab n)
    (ret : ∀ n', Tab n' → Kp n n' → Post (.str (usz F)) n') : DoesV W 125 [.ref x] 3 n Post := by
  refine enterZ (k := 2) ["item"] [("item", .ref x)] (by intro P; k_is) (by intro P; k_is) (len1 fun a s => .of_eq rfl) rfl rfl (fun C rm => ?_) rfl rfl rfl rfl
  refine .asgW (.fn k118 rm (.glob g_told rfl rfl (by decide)) (.one (.loc rfl rfl (by decide)) (.cons (.lam rfl T rfl rfl rfl fun n1 fa L1 T1 K1 => .nil (told_v (I.kp K1) (U.mono fun O => O.kp K1) hz (let ⟨_, _, _, h, _⟩ := L1; ⟨_, _, _, _, h⟩) (fun k J r => lam_v (L1.kp (.of k)) (fun ζ ζ ζ ζ => rfl) rfl (fun C => .attr fk_usage J rfl (.loc rfl rfl (by decide)) rfl) r rfl rfl rfl rfl) fun n2 K2 => ?_)) rfl) rfl) rfl rfl rfl) rfl rfl
  refine .ret (x := .str (usz F)) (.ite (.cmp (.neS (.loc rfl rfl (by decide)) .str) rfl) (fun q => ?_) fun q => ?_) (ret n2 ?_ (K1.trans (.of K2)))
  · rw [usz, if_pos (show (F.us != "") = true from q)]; exact .loc rfl rfl (by decide)
  · rw [usz, if_neg (by rw [show (F.us != "") = false from q]; exact Bool.false_ne_true)]; exact .str
  · obtain ⟨ps, h, r⟩ := T1
    exact ⟨ps, K2 _ h, r.imp id fun ⟨c', e, L⟩ => ⟨c', e, L.kp (.of K2)⟩⟩
noncomputable def pas (F : It) : Bool := F.rd != "" || F.lv == 66 || F.us == "index"
theorem usz_index (F : It) : (usz F == "index") = (F.us == "index") := by
  unfold usz
  by_cases h : F.us = ""
  · rw [h]; decide
  · rw [if_pos (bne_iff_ne.mpr h)]
theorem passed_v {x dx : Addr} {F : It} {as : List Addr} (I : ItIn n x dx F) (U : UpL n F.par as) (hz : as.length ≤ 100) (T : Tab n)
    (ret : ∀ n', Tab n' → Kp n n' → Post (.bool (pas F)) n') : DoesV W 132 [.ref x] 4 n Post := by
  refine enterZ (k := 3) ["item"] [("item", .ref x)] (by intro P; k_is) (by intro P; k_is) (len1 fun a s => .of_eq rfl) rfl rfl (fun C rm => ?_) rfl rfl rfl rfl
  refine .retW (.or3 (.cmp (.neS (.attr fk_red I rfl (.loc rfl rfl (by decide)) rfl) .str) rfl) (.cmp (.eqI (.attr fk_level I rfl (.loc rfl rfl (by decide)) rfl) (.glob (x := .int 66) g_RENAMING ⟨_, rfl⟩ rfl (by decide))) rfl) (fun q => ?_) ?_)
  · have : pas F = true := by rw [pas, show (F.rd != "" || F.lv == 66) = true from q, Bool.true_or]
    exact this ▸ ret n T .refl
  · refine Vw.cmpE (.fn k125 rm (.glob g_usage rfl rfl (by decide)) (.one (.loc rfl rfl (by decide)) (.nil (usage_v I U hz T fun n1 T1 K1 => ⟨usz F, rfl, ⟨_, rfl, ?_⟩⟩)) rfl) rfl rfl rfl) rfl
    have : (F.rd != "" || F.lv == 66 || (usz F == "index")) = pas F := by rw [usz_index, pas]
    exact this ▸ ret n1 T1 K1
end
end Mine
namespace Mine
noncomputable def AIn {α β : Type} (P : α → β → Prop) : List α → List β → Prop
  | [], [] => True
  | a :: as, z :: zs => P a z ∧ AIn P as zs
  | _, _ => False
section
variable {α β : Type} {P P' : α → β → Prop}
theorem AIn.mono (h : ∀ a z, P a z → P' a z) {as : List α} : ∀ {zs : List β}, AIn P as zs → AIn P' as zs := by
  induction as with
  | nil => intro zs q; cases zs; exact q; exact q
  | cons a as ih => intro zs q; cases zs; exact q; exact ⟨h _ _ q.1, ih q.2⟩
theorem AIn.len {as : List α} : ∀ {zs : List β}, AIn P as zs → as.length = zs.length := by
  induction as with
  | nil => intro zs q; cases zs; rfl; exact q.elim
  | cons a as ih => intro zs q; cases zs; exact q.elim; exact congrArg (· + 1) (ih q.2)
theorem AIn.app {as bs : List α} {zs ws : List β} (h : AIn P as zs) (k : AIn P bs ws) : AIn P (as ++ bs) (zs ++ ws) := by
  induction as generalizing zs with
  | nil => cases zs; exact k; exact h.elim
  | cons a as ih => cases zs; exact h.elim; exact ⟨h.1, ih h.2⟩
theorem AIn.eq {f : β → α} {ys : List α} : ∀ {ts : List β}, AIn (fun y t => y = f t) ys ts → ys = ts.map f := by
  induction ys with
  | nil => intro zs q; cases zs; rfl; exact q.elim
  | cons a as ih => intro zs q; cases zs; exact q.elim; exact List.cons_eq_cons.mpr ⟨q.1, ih q.2⟩
end
theorem nat_le {z k : Int} {m : Nat} (h : z < k) (e : k ≤ m) : z.toNat ≤ m := by omega
theorem nat1_le {z k : Int} {m : Nat} (h : z < k) (e : k ≤ m) : (1 + z).toNat ≤ m := by omega
theorem vnat1 {z : Int} (h : 0 ≤ z) : Vl.int (1 + z) = .int (((1 + z).toNat : Nat) : Int) := by rw [Int.toNat_of_nonneg (Int.add_nonneg (by decide) h)]
theorem le_r {a b j : Nat} (h : a ≤ b) : a ≤ j + b := Nat.le_trans h (Nat.le_add_left b j)
theorem three_sub (j : Nat) : (3 : Int) - ((j + 1 : Nat) : Int) + 1 = 3 - j := by omega
theorem three_sub' {j j' : Nat} (h : j = j' + 1) : (3 : Int) - j + 1 = 3 - j' := h ▸ three_sub j'
theorem pos_of {j : Nat} (h : decide ((3 : Int) - j < 3) = true) : ∃ j', j = j' + 1 := by
  cases j with
  | zero => exact absurd h (by decide)
  | succ j => exact ⟨j, rfl⟩
theorem two_le {z : Int} (h : 0 ≤ z) : 1 ≤ 2 + z := by omega
theorem two_le3 {z : Int} (h : z < 2) : 2 + z ≤ 3 := by omega
theorem mid_le {a b c d m : Nat} (e : a + (b + c) = d) (h : d ≤ m) : b ≤ m := by omega
theorem fst_le {a b c d : Nat} (e : a + (b + c) = d) (h : d ≤ 60000) : a + b ≤ 100000 := by omega
theorem toNat3 {z : Int} (h : z ≤ 3) : z.toNat ≤ 1000 := by omega
theorem idx_lt {i : Nat} {z : Int} (hi : i < z.toNat) (h : z ≤ 3) : (i : Int) < 100000000 := by omega
theorem k_pos {k : Int} (h : 1 ≤ k) : 0 ≤ k := Int.le_trans (by decide) h
theorem k_small {k : Int} (h : k ≤ 3) : k < 100000000 := Int.lt_of_le_of_lt h (by decide)
theorem up_len {a h b : Nat} (hz : a + (h + 1) ≤ b) : a + 1 ≤ b := Nat.le_trans (Nat.add_le_add_left (Nat.le_add_left 1 h) a) hz
theorem up_len2 {a h g b : Nat} (hz : a + (h + 1) ≤ b) (hg : g ≤ h) : a + 1 + g ≤ b := by omega
theorem byte_ok {i : Nat} {z : Int} (hi : i < z.toNat) (h : z < 3) : 0 ≤ 97 + (i : Int) ∧ 97 + (i : Int) < 256 := by omega
end Mine
namespace Mine
section
variable {W : Wd} {Z : St} {C : Cx W Z} {m : Loc} {n N : Led} {lm : Lm} {l I D E : Addr} {us : List Value} {k i : Nat}
theorem Wt.goE {α : Type} {t : Sem α} {R : α → Led → Prop} {Q : α → Shared → Prop} {X : Value → Shared → Prop} {s : Shared} (h : Wt C m n t R) (x : At C m n s.heap)
    (k : ∀ v n' h' tk', At C m n' h' → R v n' → Q v { s with heap := h', toks := tk' }) : wpAny (model pg W.w) C.A t Q X s := wpAny_mono (h.go x k) (fun ζ ζ x => x) fun ζ ζ x => x.elim
theorem At.alter {h h2 : Heap} {o o' : Obj} (z : At C m n h) (hI : (I, o) ∈ n) (k : ∀ b o, b ≠ I → h.get? b = some o → h2.get? b = some o) (e : h2.get? I = some o') : At C m ((I, o') :: n.filter fun p => p.1 != I) h2 := by
  have q := z.2 _ hI
  have k' : ∀ b o, b ∉ [I] → h.get? b = some o → h2.get? b = some o := fun b o hb => k b o fun e => hb (e ▸ .head _)
  refine ⟨LCg.fr_but z.1 k' (Ne.symm q.2.1) q.2.2, fun p hp => ?_⟩
  rcases List.mem_cons.mp hp with rfl | hp
  · exact ⟨e, q.2⟩
  · exact LCg.news_but (fun p hp => z.2 p (List.mem_filter.mp hp).1) k' off_filter p hp
theorem At.push {h : Heap} (z : At C m n h) (o : Obj) (e : o.isFreed = false) : At C m ((h.objs.size, o) :: n) (h.push o) := ⟨z.1.push o, fun p hp => by
  rcases List.mem_cons.mp hp with rfl | hp
  · exact ⟨Heap.get?_push_size _ e, Nat.ne_of_gt z.1.ns.lt, next_is_new z.1⟩
  · exact ⟨Heap.get?_push_of_some _ (z.2 p hp).1, (z.2 p hp).2⟩⟩
structure Itr (N : Led) (I l : Addr) (i : Nat) : Prop where
  ex : ∃ o, (I, o) ∈ N ∧ o.cls = .type "list_iterator" ∧ o.data = .fields #[.ref l, .int i 0]
theorem Itr.mono {N N' : Led} (h : Itr N I l i) (k : ∀ o, (I, o) ∈ N → (I, o) ∈ N') : Itr N' I l i := ⟨h.ex.elim fun o h => ⟨o, k o h.1, h.2⟩⟩
theorem Itr.at {h : Heap} (z : At C m N h) (q : Itr N I l i) : h.IsListIter I l i := q.ex.elim fun o q => ⟨o, (z.2 _ q.1).1, q.2⟩
theorem Wt.next {R : Option Value → Led → Prop} {u : Value} (hI : Itr N I l i) (hl : (l, listOf us.toArray k) ∈ N) (ne : l ≠ I) (hu : us[i]? = some u) (r : ∀ N', (Kl I N N') → Itr N' I l (i + 1) → R (some u) N') : Wt C m N (pyNext (.ref I)) R := fun s z => by
  refine wpAny_pyNext_list_item (x := u) (hI.at z) (News.isList z.2 hl) (by simpa using hu) fun h2 hit hs => ?_
  obtain ⟨o, hI, ζ⟩ := hI.ex
  obtain ⟨o', e, c⟩ := hit
  exact out (tk' := s.toks) (z.alter hI (fun b o hb e => hs.extBut b o hb e) e) (r _ (fun p hp h => in_filter hp h) ⟨o', .head _, c⟩)
theorem Wt.nextEnd {R : Option Value → Led → Prop} (hI : Itr N I l i) (hl : (l, listOf us.toArray k) ∈ N) (hu : us[i]? = none) (r : R none (N.filter fun p => p.1 != I)) : Wt C m N (pyNext (.ref I)) R := fun s z => by
  refine wpAny_pyNext_list_end C.hh (hI.at z) (News.isList z.2 hl) (by simpa using hu) fun h2 he => ?_
  obtain ⟨o, hI, ζ⟩ := hI.ex
  have k' : ∀ b o, b ∉ [I] → s.heap.get? b = some o → h2.get? b = some o := fun b o hb => he b o fun e => hb (e ▸ .head _)
  exact out (tk' := s.toks) ⟨LCg.fr_but z.1 k' (Ne.symm (z.2 _ hI).2.1) (z.2 _ hI).2.2, fun p hp => LCg.news_but (fun p hp => z.2 p (List.mem_filter.mp hp).1) k' off_filter p hp⟩ r
structure OwnK (n : Led) (D : Addr) (zs : Lm) : Prop where
  ex : ∃ o m2, (D, o) ∈ n ∧ LCg.NsObj o m2 ∧ Sat m2 zs
theorem OwnK.mono {n n' : Led} {zs : Lm} (h : OwnK n D zs) (k : ∀ o, (D, o) ∈ n → (D, o) ∈ n') : OwnK n' D zs := ⟨h.ex.elim fun o h => h.elim fun m2 h => ⟨o, m2, k _ h.1, h.2⟩⟩
noncomputable abbrev tests (ifs : List PySem.Expr) (env : Env) : Sem Bool := forIn ifs true fun c r => if r = true then do let ok ← PySem.isTrue c env (eval c env); Pure.pure (ForInStep.yield ok) else Pure.pure (ForInStep.yield r)
theorem comp_loop {elt target iter : PySem.Expr} {ifs : List PySem.Expr} {sc : Scope} {pos : Pos} {v : Env} {R : Result → Shared → Prop} (CL : Nat → Led → Prop) (Fn : Led → Prop)
    (turn : ∀ q N, CL q N → Wt C m N (pyNext (.ref I)) fun r N1 => match r with
      | none => Fn N1
      | some u => Wt C m N1 (letOwnedTupleGo target (.ref I) u) fun ζ N2 => Wt C m N2 (assign target v u) fun ζ N3 => Wt C m N3 (tests ifs v) fun ok N4 =>
        if ok = true then We C v m N4 elt fun y N5 => Wt C m N5 (call (.builtin "list.append") [.ref E, y]) fun ζ N6 => ∃ q', q' < q ∧ CL q' N6 else ∃ q', q' < q ∧ CL q' N4)
    (q : Nat) (c : CL q N) (s : Shared) (z : At C m N s.heap) (fin : ∀ N h tk, At C m N h → Fn N → R (.ok .next) { s with heap := h, toks := tk }) :
    codeAny (model pg W.w) C.A (.compLoop (.ListComp elt [⟨target, iter, ifs, 0⟩] sc pos) 0 (.ref I) (.ref E) v) R s := by
  refine codeAny_loop rfl (fun q s' => ∃ N h tk, s' = { s with heap := h, toks := tk } ∧ At C m N h ∧ CL q N) (fun q s' hI => ?_) q ⟨N, s.heap, s.toks, rfl, z, c⟩
  obtain ⟨N, h, tk, rfl, z, c⟩ := hI
  show wpAny _ C.A ((compTurn (.ListComp elt [⟨target, iter, ifs, 0⟩] sc pos) 0 (.ref I) (.ref E) v).onRaise (fun x => do noteFrame x v; theTreesLotGoes x)) _ _ _
  refine wpAny_noted ?_
  rw [compTurn_list]
  refine wpAny_bind (wpAny_standAt (wpAny_bind ((turn q N c).goE z fun r N1 h1 tk1 z1 T => ?_)))
  cases r with
  | none => exact wpAny_pure (fin N1 h1 tk1 z1 T)
  | some u =>
    refine wpAny_bind (Wt.goE T z1 fun ζ N2 h2 tk2 z2 T => wpAny_bind (T.goE z2 fun ζ N3 h3 tk3 z3 T => wpAny_bind (T.goE z3 fun ok N4 h4 tk4 z4 T => ?_)))
    cases ok with
    | false => exact wpAny_pure ⟨rfl, T.elim fun q' T => ⟨q', T.1, N4, h4, tk4, rfl, z4, T.2⟩⟩
    | true => exact wpAny_bind (wpAny_bind (Wt.goE T z4 fun y N5 h5 tk5 z5 T => wpAny_bind (Wt.goE T z5 fun ζ N6 h6 tk6 z6 T => wpAny_pure (wpAny_pure ⟨rfl, T.elim fun q' T => ⟨q', T.1, N6, h6, tk6, rfl, z6, T.2⟩⟩))))
structure CS0 (n N : Led) (l I D E : Addr) : Prop where
  it : Itr N I l 0
  own : OwnK N D []
  acc : (E, listOf [].toArray 0) ∈ N
  keep : Kk n N
  off : ∀ p ∈ n, p.1 ≠ I ∧ p.1 ≠ D ∧ p.1 ≠ E
  ID : I ≠ D
  IE : I ≠ E
  DE : D ≠ E
theorem comp_start {elt target iter : PySem.Expr} {ifs : List PySem.Expr} {sc : Scope} {cl' : List (Str × Addr)} {pos : Pos} {s : Shared} {RR : Value → Addr → Result → Shared → Prop}
    (hcell : ∀ y ∈ sc.names, y.2 ≠ .cell) (hkind : sc.kind = .function) (z : At C m n s.heap) (hl : (l, listOf us.toArray k) ∈ n)
    (h : ∀ I D E N h tk, CS0 n N l I D E → At C m N h → codeAny (model pg W.w) C.A (.compLoop (.ListComp elt [⟨target, iter, ifs, 0⟩] sc pos) 0 (.ref I) (.ref E) (compEnvC sc cl' D C.env)) (RR (.ref E) D) { s with heap := h, toks := tk }) :
    wpAny (model pg W.w) C.A (pyIter (.ref l)) (fun it s₂ => wpAny (model pg W.w) C.A (newList []) (fun acc s₃ => wpAny (model pg W.w) C.A (newFunctionEnv sc C.env.globals cl' [] C.env.qual none .none (some C.env)) (fun cenv s₄ =>
      codeAny (model pg W.w) C.A (.compStart (.ListComp elt [⟨target, iter, ifs, 0⟩] sc pos) 0 it acc { cenv with scope := relabel sc C.env }) (RR acc cenv.locals) s₄) No s₃) No s₂) No s := by
  refine wpAny_pyIter_list (News.isList z.2 hl) (wpAny_newObj_type (wpAny_newFunctionEnv hcell (fun y hy => nomatch hy) (fun h3 hns hsb => ?_) hkind))
  have z1 := z.push { cls := .type "list_iterator", data := .fields #[.ref l, .int 0 0] } rfl
  have z2 := z1.push { cls := .type "list", dict := none, data := .seq ([] : List Value).toArray } rfl
  obtain ⟨oD, eD, nD⟩ := LCg.ns_obj hns
  have z3 := (z2.push { cls := .type (if (some C.env).isSome then "dict" else "frame"), data := .dict #[] } rfl).alter (.head _) (fun b o hb e => hsb.extBut b o hb e) eD
  have l1 : ∀ p ∈ n, p.1 < _ := fun p hp => z.lt hp
  have l2 := z1.lt (.head _)
  have l3 := z2.lt (.head _)
  have l4 := z2.lt (.tail _ (.head _))
  exact (fun S : CS0 n _ l _ _ _ => codeAny_compStart_list (h _ _ _ _ h3 _ S z3) (wpAny_pyIter_listiter (S.it.at z3) (h _ _ _ _ h3 _ S z3))) ⟨⟨_, in_filter (.tail _ (.tail _ (.head _))) (Nat.ne_of_lt l4), rfl, rfl⟩, ⟨_, _, .head _, nD, .nil⟩, in_filter (.tail _ (.head _)) (Nat.ne_of_lt l3), fun p hp => in_filter (.tail _ (.tail _ (.tail _ hp))) (Nat.ne_of_lt (Nat.lt_trans (l1 p hp) l4)), fun p hp => ⟨Nat.ne_of_lt (l1 p hp), Nat.ne_of_lt (Nat.lt_trans (l1 p hp) l4), Nat.ne_of_lt (Nat.lt_trans (l1 p hp) l2)⟩, Nat.ne_of_lt l4, Nat.ne_of_lt l2, Nat.ne_of_gt l3⟩
end
end Mine
namespace Mine
section
variable {W : Wd} {Z : St} {C : Cx W Z} {m : Loc} {n N n1 : Led} {lm : Lm} {l I D E : Addr} {us : List Value} {k i : Nat} {v : Env} {sc : Scope} {cl' : List (Str × Addr)} {target elt iter : PySem.Expr} {ifs : List PySem.Expr}
structure Tgt (C : Cx W Z) (n1 : Led) (sc : Scope) (cl' : List (Str × Addr)) (target : PySem.Expr) (x : Vl) (zs : Lm) : Prop where
  go : ∀ {u : Value} {N : Led} {I D l : Addr} {i : Nat} {m : Loc}, x.is u → (Kk n1 N) → Itr N I l i → OwnK N D [] → Wt C m N (letOwnedTupleGo target (.ref I) u) fun ζ N1 => Wt C m N1 (assign target (compEnvC sc cl' D C.env) u) fun ζ N' => (Kl D N N') ∧ OwnK N' D zs
structure Stp (C : Cx W Z) (lm : Lm) (n1 : Led) (sc : Scope) (cl' : List (Str × Addr)) (ifs : List PySem.Expr) (elt : PySem.Expr) (zs : Lm) (b : Bool) (P : Led → Vl → Prop) : Prop where
  test : ∀ {N : Led} {D : Addr} {m : Loc}, Sat m lm → (Kk n1 N) → OwnK N D zs → Wt C m N (tests ifs (compEnvC sc cl' D C.env)) fun ok N' => ok = b ∧ N' = N
  elt : b = true → ∀ {N : Led} {D : Addr}, (Kk n1 N) → OwnK N D zs → Vw C (compEnvC sc cl' D C.env) lm N elt fun y N' => (Kk N N') ∧ ∀ n'', (∀ p ∈ N', (∀ q ∈ N, q.1 < p.1) → p ∈ n'') → (Kk n1 n'') → P n'' y
structure CLS (n N : Led) (l I D E : Addr) (i : Nat) (Q : Led → List Vl → Prop) (xs : List Vl) : Prop where
  it : Itr N I l i
  own : OwnK N D []
  acc : LV N E xs
  keep : Kk n N
  len : xs.length ≤ i
  q : ∀ N', (∀ p ∈ N, p.1 ≠ I → p.1 ≠ D → p.1 ≠ E → p ∈ N') → Q N' xs
noncomputable def CQ {α : Type} (n : Led) (l I D E : Addr) (ts : List α) (f : α → Bool) (P : Led → α → Vl → Prop) (q : Nat) (N : Led) : Prop := ∃ i xs, q = ts.length - i ∧ i ≤ ts.length ∧ CLS n N l I D E i (fun n' xs => AIn (fun y t => P n' t y) xs ((ts.take i).filter f)) xs
noncomputable def CEnd {α : Type} (n : Led) (D E : Addr) (ts : List α) (f : α → Bool) (P : Led → α → Vl → Prop) (N : Led) : Prop := ∃ xs, OwnK N D [] ∧ LV N E xs ∧ (Kk n N) ∧ ∀ N', (∀ p ∈ N, p.1 ≠ D → p.1 ≠ E → p ∈ N') → AIn (fun y t => P N' t y) xs (ts.filter f)
theorem comp_turn {α : Type} {g : α → Vl} {zs : α → Lm} {f : α → Bool} {P : Led → α → Vl → Prop} {ts : List α} {N0 : Led} {xs : List Vl} (S0 : CS0 n N0 l I D E) (sat : Sat m lm) (hl : (l, listOf us.toArray k) ∈ n) (hus : IsAll (ts.map g) us) (hz : ts.length ≤ 100000) (hP : ∀ n n' t y, (Kk n n') → P n t y → P n' t y)
    (tg : ∀ t ∈ ts, Tgt C n sc cl' target (g t) (zs t)) (st : ∀ t ∈ ts, Stp C lm n sc cl' ifs elt (zs t) (f t) fun n y => P n t y) (hi : i ≤ ts.length) (S : CLS n N l I D E i (fun n' xs => AIn (fun y t => P n' t y) xs ((ts.take i).filter f)) xs) :
    Wt C m N (pyNext (.ref I)) fun r N1 => match r with
      | none => CEnd n D E ts f P N1
      | some u => Wt C m N1 (letOwnedTupleGo target (.ref I) u) fun ζ N2 => Wt C m N2 (assign target (compEnvC sc cl' D C.env) u) fun ζ N3 => Wt C m N3 (tests ifs (compEnvC sc cl' D C.env)) fun ok N4 =>
        if ok = true then We C (compEnvC sc cl' D C.env) m N4 elt fun y N5 => Wt C m N5 (call (.builtin "list.append") [.ref E, y]) fun ζ N6 => ∃ q', q' < ts.length - i ∧ CQ n l I D E ts f P q' N6
        else ∃ q', q' < ts.length - i ∧ CQ n l I D E ts f P q' N4 := by
  have hlen := hus.length
  rw [List.length_map] at hlen
  by_cases hlt : i < ts.length
  · obtain ⟨u, hu, hx⟩ := hus.get (j := i) (x := g ts[i]) (by rw [List.getElem?_map, List.getElem?_eq_getElem hlt]; rfl)
    refine .next S.it (S.keep _ hl) (S0.off _ hl).1 hu fun N1 k1 it1 => ((tg ts[i] (List.getElem_mem hlt)).go hx (fun p hp => k1 p (S.keep p hp) (S0.off p hp).1) it1 (S.own.mono fun o h => k1 _ h (Ne.symm S0.ID))).mono fun ζ N2 T => T.mono fun ζ N3 q => ?_
    have k3 : Kk n N3 := fun p hp => q.1 p (k1 p (S.keep p hp) (S0.off p hp).1) (S0.off p hp).2.1
    have it3 : Itr N3 I l (i + 1) := it1.mono fun o h => q.1 _ h S0.ID
    have acc3 : LV N3 E xs := S.acc.mono fun o h => q.1 _ (k1 _ h (Ne.symm S0.IE)) (Ne.symm S0.DE)
    have own3 : OwnK N3 D [] := ⟨q.2.ex.elim fun o h => h.elim fun m2 h => ⟨o, m2, h.1, h.2.1, .nil⟩⟩
    have q3 : ∀ N', (∀ p ∈ N3, p.1 ≠ I → p.1 ≠ D → p.1 ≠ E → p ∈ N') → AIn (fun y t => P N' t y) xs ((ts.take i).filter f) := fun N' h => S.q N' fun p hp h1 h2 h3 => h p (q.1 p (k1 p hp h1) h2) h1 h2 h3
    have et : (ts.take (i + 1)).filter f = (ts.take i).filter f ++ (if f ts[i] = true then [ts[i]] else []) := by
      rw [List.take_succ_eq_append_getElem hlt, List.filter_append, List.filter_cons, List.filter_nil]
    have T := st ts[i] (List.getElem_mem hlt)
    refine (T.test sat k3 q.2).mono fun ok N4 q4 => ?_
    obtain ⟨rfl, rfl⟩ := q4
    have hq : ts.length - (i + 1) < ts.length - i := Nat.sub_lt_sub_left hlt (Nat.lt_succ_self i)
    by_cases hf : f ts[i] = true
    · rw [if_pos hf]
      rw [if_pos hf] at et
      refine (T.elt hf k3 q.2 m sat).mono fun y N5 q5 => ?_
      obtain ⟨xy, hxy, kN, hPy⟩ := q5
      obtain ⟨ys, k, hE, hys⟩ := acc3
      refine .append (kN _ hE) (hys.length ▸ Nat.le_trans S.len (Nat.le_trans hi hz)) fun N6 T => ⟨_, hq, i + 1, xs ++ [xy], rfl, hlt, it3.mono fun o h => T.there _ (kN _ h) S0.IE, own3.mono fun o h => T.there _ (kN _ h) S0.DE, ⟨_, _, T.here, hys.append ⟨hxy, trivial⟩⟩, fun p hp => T.there p (kN p (k3 p hp)) (S0.off p hp).2.2, by rw [List.length_append]; exact Nat.succ_le_succ S.len, fun N' h => ?_⟩
      rw [et]
      have hI : ∃ o, (I, o) ∈ N4 := it3.ex.elim fun o h => ⟨o, h.1⟩
      have hD : ∃ o, (D, o) ∈ N4 := own3.ex.elim fun o h => h.elim fun ζ h => ⟨o, h.1⟩
      exact AIn.app (q3 N' fun p hp h1 h2 h3 => h p (T.there p (kN p hp) h3) h1 h2 h3)
        ⟨hPy N' (fun p hp lt => h p (T.there p hp (Nat.ne_of_gt (lt _ hE))) (hI.elim fun o h => Nat.ne_of_gt (lt _ h)) (hD.elim fun o h => Nat.ne_of_gt (lt _ h)) (Nat.ne_of_gt (lt _ hE))) fun p hp => h p (T.there p (kN p (k3 p hp)) (S0.off p hp).2.2) (S0.off p hp).1 (S0.off p hp).2.1 (S0.off p hp).2.2, trivial⟩
    · rw [if_neg hf]
      rw [if_neg hf, List.append_nil] at et
      exact ⟨_, hq, i + 1, xs, rfl, hlt, it3, own3, acc3, k3, Nat.le_succ_of_le S.len, fun N' h => by rw [et]; exact q3 N' h⟩
  · obtain rfl : i = ts.length := Nat.le_antisymm hi (Nat.not_lt.mp hlt)
    have hq := S.q
    rw [List.take_length] at hq
    have off : ∀ {p : Addr × Obj}, p ∈ N → p.1 ≠ I → p ∈ N.filter fun p => p.1 != I := fun hp h => List.mem_filter.mpr ⟨hp, by simpa using h⟩
    exact .nextEnd S.it (S.keep _ hl) (by simp [hlen]) ⟨xs, S.own.mono fun o h => off h (Ne.symm S0.ID), S.acc.mono fun o h => off h (Ne.symm S0.IE), fun p hp => off (S.keep p hp) (S0.off p hp).1, fun N' h => hq N' fun p hp h1 => h p (off hp h1)⟩
end
end Mine
namespace Mine
section
variable {W : Wd} {Z : St} {C : Cx W Z} {m : Loc} {n N n1 : Led} {lm : Lm} {l I D E : Addr} {us : List Value} {k i : Nat} {v : Env} {sc : Scope} {cl' : List (Str × Addr)} {target elt iter : PySem.Expr} {ifs : List PySem.Expr}
structure Blc {α : Type} (C : Cx W Z) (lm : Lm) (n : Led) (sc : Scope) (cl' : List (Str × Addr)) (target : PySem.Expr) (ifs : List PySem.Expr) (elt : PySem.Expr) (l : Addr) (ts : List α) (g : α → Vl) (zs : α → Lm) (f : α → Bool) (P : Led → α → Vl → Prop) (R : Addr → Led → Prop) : Prop where
  list : LV n l (ts.map g)
  len : ts.length ≤ 100000
  mono : ∀ n n' t y, (Kk n n') → P n t y → P n' t y
  tgt : ∀ t ∈ ts, Tgt C n sc cl' target (g t) (zs t)
  stp : ∀ t ∈ ts, Stp C lm n sc cl' ifs elt (zs t) (f t) fun n y => P n t y
  ret : ∀ E n' xs, LV n' E xs → (∀ p ∈ n, p.1 ≠ E) → (Kk n n') → AIn (fun y t => P n' t y) xs (ts.filter f) → R E n'
theorem Blc.run {α : Type} {pos : Pos} {ts : List α} {g : α → Vl} {zs : α → Lm} {f : α → Bool} {P : Led → α → Vl → Prop} {R : Addr → Led → Prop} {s : Shared} {RR : Value → Addr → Result → Shared → Prop} (B : Blc C lm n sc cl' target ifs elt l ts g zs f P R) (z : At C m n s.heap) (sat : Sat m lm)
    (hcell : (sc.names.all fun y => decide (y.2 ≠ .cell)) = true) (hkind : sc.kind = .function)
    (fin : ∀ E D m' n' h tk, At C m n' h → (∃ o, (E, o) ∈ n' ∧ E ≠ D) → h.Ns D m' → D ≠ C.L → C.h0.get? D = none → (∀ p ∈ n', p.1 ≠ D) → R E n' → RR (.ref E) D (.ok .next) { s with heap := h, toks := tk }) :
    wpAny (model pg W.w) C.A (pyIter (.ref l)) (fun it s₂ => wpAny (model pg W.w) C.A (newList []) (fun acc s₃ => wpAny (model pg W.w) C.A (newFunctionEnv sc C.env.globals cl' [] C.env.qual none .none (some C.env)) (fun cenv s₄ =>
      codeAny (model pg W.w) C.A (.compStart (.ListComp elt [⟨target, iter, ifs, 0⟩] sc pos) 0 it acc { cenv with scope := relabel sc C.env }) (RR acc cenv.locals) s₄) No s₃) No s₂) No s := by
  obtain ⟨us, k, hl, hus⟩ := B.list
  refine comp_start (fun x hx => of_decide_eq_true (List.all_eq_true.mp hcell x hx)) hkind z hl fun I D E N h tk S0 z => ?_
  refine comp_loop (m := m) (CQ n l I D E ts f P) (CEnd n D E ts f P) (fun q N c => ?_) _ ⟨0, [], rfl, Nat.zero_le _, S0.it, S0.own, ⟨[], 0, S0.acc, trivial⟩, S0.keep, Nat.zero_le _, fun ζ ζ => trivial⟩ _ z fun N h tk z c => ?_
  · obtain ⟨i, xs, rfl, hi, S⟩ := c
    exact comp_turn S0 sat hl hus B.len B.mono B.tgt B.stp hi S
  · obtain ⟨xs, own, acc, kp, q⟩ := c
    obtain ⟨o, m', hD, hN, ζ⟩ := own.ex
    have off : ∀ {p : Addr × Obj}, p ∈ N → p.1 ≠ D → p ∈ N.filter fun p => p.1 != D := fun hp h => List.mem_filter.mpr ⟨hp, by simpa using h⟩
    have acc' : LV (N.filter fun p => p.1 != D) E xs := acc.mono fun o h => off h (Ne.symm S0.DE)
    obtain ⟨ys, k, hE, hys⟩ := acc'
    refine fin E D m' _ h tk (z.led fun p hp => (List.mem_filter.mp hp).1) ⟨_, hE, Ne.symm S0.DE⟩ (hN.ns (z.2 _ hD).1) (z.2 _ hD).2.1 (z.2 _ hD).2.2 off_filter (B.ret E _ xs ⟨ys, k, hE, hys⟩ (fun p hp => (S0.off p hp).2.2) (fun p hp => off (kp p hp) (S0.off p hp).2.1) (q _ fun p hp h ζ => off hp h))
theorem At.drop {h h' : Heap} (z : At C m n h) (hs : Heap.SameBut D h h') (h1 : D ≠ C.L) (h2 : C.h0.get? D = none) (off : ∀ p ∈ n, p.1 ≠ D) : At C m n h' := ⟨z.1.change hs h1 h2, fun p hp => ⟨hs.extBut _ _ (off p hp) (z.2 p hp).1, (z.2 p hp).2⟩⟩
theorem Vw.comp {α : Type} {pos : Pos} {g : α → Vl} {zs : α → Lm} {f : α → Bool} {P : Led → α → Vl → Prop} {R : Vl → Led → Prop}
    (h : Vw C C.env lm n iter fun x n1 => ∃ l ts, x = .ref l ∧ Blc C lm n1 sc cl' target ifs elt l ts g zs f P fun E n' => R (.ref E) n')
    (hclos : closureFor sc C.env = Pure.pure cl') (hcell : (sc.names.all fun y => decide (y.2 ≠ .cell)) = true) (hkind : sc.kind = .function)
    (hnames : (sc.names.all fun y => decide (y.2 = .local → sc.names.lookup y.1 = some .local)) = true) (hs : ∀ x, foldedSetIterable iter C.env x = Pure.pure x) : Vw C C.env lm n (.ListComp elt [⟨target, iter, ifs, 0⟩] sc pos) R := fun m sat s z => by
  rw [eval_ListComp]
  refine wpAny_comprehension_free (use := none) rfl hs hclos hkind (fun x hx => of_decide_eq_true (List.all_eq_true.mp hnames x hx)) ((h m sat).goE z fun u n1 h1 tk1 z1 q => ?_)
  obtain ⟨ζ, hu, l, ts, rfl, B⟩ := q
  obtain rfl : u = .ref l := hu
  exact B.run (s := { s with heap := h1, toks := tk1 }) z1 sat hcell hkind fun E D m' n' h tk z hE hN h1 h2 off r => ⟨m', hN, fun h' hs => out (z.drop hs h1 h2 off) ⟨.ref E, rfl, r⟩⟩
theorem Sv.asgC {α : Type} {y : Str} {py : Pos} {rest : List Stmt} {Q : Rs} {pos spos : Pos} {g : α → Vl} {zs : α → Lm} {f : α → Bool} {P : Led → α → Vl → Prop}
    (h : Vw C C.env lm n iter fun x n1 => ∃ l ts, x = .ref l ∧ Blc C lm n1 sc cl' target ifs elt l ts g zs f P fun E n' => Sv C ((y, .ref E) :: lm) n' rest Q)
    (hsw : swapsWith (.ListComp elt [⟨target, iter, ifs, 0⟩] sc pos) (some (.Name y py)) spos.line C.env = Pure.pure true)
    (hclos : closureFor sc C.env = Pure.pure cl') (hcell : (sc.names.all fun y => decide (y.2 ≠ .cell)) = true) (hkind : sc.kind = .function)
    (hnames : (sc.names.all fun y => decide (y.2 = .local → sc.names.lookup y.1 = some .local)) = true) (hy : (Z.env 0).kindOf y = some .local) (hs : ∀ x, foldedSetIterable iter C.env x = Pure.pure x) : Sv C lm n (.Assign [.Name y py] (.ListComp elt [⟨target, iter, ifs, 0⟩] sc pos) spos :: rest) Q := fun m sat s z => by
  refine wpAny_execs_cons ?_
  rw [exec_Assign_Name_used _ _ _ _ hsw]
  refine wpAny_bind (wpAny_standAt (wpAny_bind ?_))
  show wpAny _ C.A (do let _ ← comprehension (.ListComp elt [⟨target, iter, ifs, 0⟩] sc pos) sc C.env _ (newList []) false (eval iter C.env) (some (assign (.Name y py) C.env))) _ _ s
  refine wpAny_bind (wpAny_mono (wpAny_comprehension_free (E := No) (use := some (assign (.Name y py) C.env)) (Q := fun ζ s' => wpAny (model pg W.w) C.A (execs rest C.env) (OutS C s Q.at) No s') rfl hs hclos hkind (fun x hx => of_decide_eq_true (List.all_eq_true.mp hnames x hx)) ((h m sat).goE z fun u n1 h1 tk1 z1 q => ?_)) (fun ζ s' hq => wpAny_pure (wpAny_pure hq)) fun ζ ζ e => e)
  obtain ⟨ζ, hu, l, ts, rfl, B⟩ := q
  obtain rfl : u = .ref l := hu
  refine B.run (s := { s with heap := h1, toks := tk1 }) z1 sat hcell hkind fun E D m' n' h tk z hE hN h1 h2 off r => ?_
  show wpAny _ C.A (assign (.Name y py) C.env (.ref E)) _ _ _
  refine wpAny_assign_Name (wpAny_storeName_local hy z.1.ns (fun h₂ hn₂ hs₂ => ?_) (plain_scope C.hk))
  have z2 : At C (upd m y (.ref E)) n' h₂ := ⟨⟨hn₂, fun b o e => hs₂.extBut b o (fun q => by rw [q, Heap.get?_none_of_le z.1.above] at e; cases e) (z.1.keep b o e), z.1.above⟩, fun p hp => ⟨hs₂.extBut _ _ (z.2 p hp).2.1 (z.2 p hp).1, (z.2 p hp).2⟩⟩
  exact ⟨m', hN.sameBut hs₂ h1, fun h'' hs'' => Ws.at (r _ (sat.put rfl)) (z2.drop hs'' h1 h2 off)⟩
end
end Mine
namespace Mine
section
variable {W : Wd} {Z : St} {C : Cx W Z} {m : Loc} {n N n1 : Led} {lm : Lm} {l I D E : Addr} {us : List Value} {k i : Nat} {v : Env} {sc : Scope} {cl' : List (Str × Addr)} {target elt iter ct : PySem.Expr} {ifs : List PySem.Expr} {zs : Lm} {b : Bool} {P : Led → Vl → Prop} {x y : Vl} {z z1 z2 : Str} {pos px p1 p2 tp : Pos}
theorem Wt.ownSet {o : Obj} {m2 : Loc} {u : Value} {R : Unit → Led → Prop} (hD : (D, o) ∈ N) (hn : LCg.NsObj o m2) (hx : sc.names.lookup z = some .local) (hk : sc.kind = .function) (r : ∀ N' o', (Kl D N N') → (D, o') ∈ N' → LCg.NsObj o' (upd m2 z u) → R () N') : Wt C m N (assign (.Name z px) (compEnvC sc cl' D C.env) u) R := fun s y => by
  refine wpAny_assign_Name (wpAny_storeName_local (lookup_relabel_local hx) (hn.ns (y.2 _ hD).1) (fun h2 hn2 hs => ?_) (by simp [compEnvC, relabel, hk]))
  obtain ⟨o', e, hn'⟩ := LCg.ns_obj hn2
  exact out (tk' := s.toks + 1) (y.alter hD (fun b o hb e => hs.extBut b o hb e) e) (r _ o' (fun p hp h => in_filter hp h) (.head _) hn')
theorem Tgt.name (hx : sc.names.lookup z = some .local) (hk : sc.kind = .function) : Tgt C n1 sc cl' (.Name z px) x [(z, x)] := ⟨fun hu kp it own s y => by
  obtain ⟨o, m2, hD, hn, ζ⟩ := own.ex
  exact wpAny_pure (out (tk' := s.toks) y (.ownSet hD hn hx hk fun N' o' k h' hn' => ⟨k, o', _, h', hn', Sat.put .nil hu⟩))⟩
theorem Tgt.pair {tk : Nat} {t : Addr} {x1 x2 : Vl} (T : TV n1 t [x1, x2]) (hx1 : sc.names.lookup z1 = some .local) (hx2 : sc.names.lookup z2 = some .local) (hk : sc.kind = .function) : Tgt C n1 sc cl' (.Tuple [.Name z1 p1, .Name z2 p2] tk tp) (.ref t) [(z2, x2), (z1, x1)] := ⟨fun {u N I D l i m} hu kp it own s y => by
  obtain rfl : u = .ref t := hu
  obtain ⟨o, m2, hD, hn, ζ⟩ := own.ex
  refine wpAny_letOwnedTupleGo_listiter (it.at y) (out (tk' := s.toks) y fun s y => ?_)
  obtain ⟨us, hm, hus⟩ := T
  obtain ⟨u1, u2, rfl, q1, q2⟩ := hus.two
  refine unpackN_ (items := #[u1, u2]) y.1 y.2 (News.isTup y.2 (kp _ hm)) C.hh rfl rfl fun h2 F2 N2 => ?_
  show wpAny _ _ (do holding [u2] (assign (.Name z1 p1) (compEnvC sc cl' D C.env) u1); holding [] (assign (.Name z2 p2) (compEnvC sc cl' D C.env) u2); Pure.pure ()) _ _ _
  refine wpAny_bind (wpAny_holding (Wt.go (s := { s with heap := h2 }) (Wt.ownSet (R := fun ζ N' => (Kl D N N') ∧ ∃ o', (D, o') ∈ N' ∧ LCg.NsObj o' (upd m2 z1 u1)) hD hn hx1 hk fun N' o' k h' hn' => ⟨k, o', h', hn'⟩) ⟨F2, N2⟩ fun ζ N3 h3 tk3 y3 q => ?_))
  obtain ⟨k3, o3, hD3, hn3⟩ := q
  refine wpAny_bind (wpAny_holding (Wt.go (s := { s with heap := h3, toks := tk3 }) (Wt.ownSet (R := fun ζ N' => (Kl D N3 N') ∧ ∃ o', (D, o') ∈ N' ∧ LCg.NsObj o' (upd (upd m2 z1 u1) z2 u2)) hD3 hn3 hx2 hk fun N' o' k h' hn' => ⟨k, o', h', hn'⟩) y3 fun ζ N4 h4 tk4 y4 q => ?_))
  obtain ⟨k4, o4, hD4, hn4⟩ := q
  exact wpAny_pure (out y4 ⟨fun p hp h => k4 p (k3 p hp h) h, o4, _, hD4, hn4, (Sat.put .nil q1).put q2⟩)⟩
theorem Stp.all (h : ∀ {N : Led} {D : Addr}, (Kk n1 N) → OwnK N D zs → Vw C (compEnvC sc cl' D C.env) lm N elt fun y N' => (Kk N N') ∧ ∀ n'', (∀ p ∈ N', (∀ q ∈ N, q.1 < p.1) → p ∈ n'') → (Kk n1 n'') → P n'' y) : Stp C lm n1 sc cl' [] elt zs true P :=
  ⟨fun ζ ζ ζ s z => wpAny_tests_nil (out (tk' := s.toks) z ⟨rfl, rfl⟩), fun ζ => h⟩
theorem Stp.one (t : ∀ {N : Led} {D : Addr}, (Kk n1 N) → OwnK N D zs → Eb C (compEnvC sc cl' D C.env) lm N ct b) (h : b = true → ∀ {N : Led} {D : Addr}, (Kk n1 N) → OwnK N D zs → Vw C (compEnvC sc cl' D C.env) lm N elt fun y N' => (Kk N N') ∧ ∀ n'', (∀ p ∈ N', (∀ q ∈ N, q.1 < p.1) → p ∈ n'') → (Kk n1 n'') → P n'' y) : Stp C lm n1 sc cl' [ct] elt zs b P :=
  ⟨fun {N D m} sat kp O s z => wpAny_tests_one ((t kp O m sat).go z fun c n' h' tk' z' q => out z' q), h⟩
theorem Vw.el (h : Ev C v lm N elt y) (hy : ∀ n'', (Kk n1 n'') → P n'' y) : Vw C v lm N elt fun y N' => (Kk N N') ∧ ∀ n'', (∀ p ∈ N', (∀ q ∈ N, q.1 < p.1) → p ∈ n'') → (Kk n1 n'') → P n'' y := h.w ⟨fun ζ h => h, fun n'' ζ k => hy n'' k⟩
theorem Ev.ownK (O : OwnK N D zs) (h : zs.lookup z = some x) (hk : (compEnvC sc cl' 0 (Z.env 0)).scope.kind = .function) (hl : (compEnvC sc cl' 0 (Z.env 0)).kindOf z = some .local) (hd : (z == ("__debug__" : Str)) = false) : Ev C (compEnvC sc cl' D C.env) lm N (.Name z pos) x :=
  O.ex.elim fun o O => O.elim fun m2 O => (O.2.2 z x h).elim fun u q => .own O.1 O.2.1 q.1 q.2 hk hl hd
theorem Ev.cellK {c : Addr} (hc : cl'.lookup z = some c) (h : CellV N c x) (hk : (compEnvC sc cl' 0 (Z.env 0)).scope.kind = .function) (hx : (compEnvC sc cl' 0 (Z.env 0)).kindOf z = some .cell) (hb : (z == ("__debug__" : Str)) = false) : Ev C (compEnvC sc cl' D C.env) lm N (.Name z pos) x := fun m s σ y =>
  h.elim fun o h => h.elim fun u h => wpAny_Name (wpAny_loadName_cell hk hx hc ⟨o, (y.2 _ h.1).1, h.2.1⟩ (out (tk' := σ.toks) y ⟨h.2.2, rfl⟩)) hb
end
end Mine
namespace Mine
section
variable {W : Wd} {Z : St} {C : Cx W Z} {v : Env} {lm : Lm} {n n0 : Led} {x y : Vl} {e f g : PySem.Expr} {pos : Pos} {Q : Rs} {rest bd el : List Stmt} {R : Vl → Led → Prop}
theorem Vw.compV {α : Type} {ct elt iter : PySem.Expr} {z : Str} {px : Pos} {sc : Scope} {cl' : List (Str × Addr)} (g : α → Vl) (ts : List α) (p : α → Bool) (q : α → Vl) {l : Addr}
    (h : Ev C C.env lm n iter (.ref l)) (L : LV n l (ts.map g)) (hz : ts.length ≤ 100000)
    (ht : ∀ t ∈ ts, ∀ N D, (Kk n N) → (∀ {pos : Pos}, Ev C (compEnvC sc cl' D C.env) lm N (.Name z pos) (g t)) → Eb C (compEnvC sc cl' D C.env) lm N ct (p t) ∧ (p t = true → Ev C (compEnvC sc cl' D C.env) lm N elt (q t)))
    (r : ∀ E n', LV n' E ((ts.filter p).map q) → (∀ p ∈ n, p.1 ≠ E) → (Kk n n') → R (.ref E) n')
    (hclos : closureFor sc C.env = Pure.pure cl') (hcell : (sc.names.all fun y => decide (y.2 ≠ .cell)) = true) (hkind : sc.kind = .function)
    (hnames : (sc.names.all fun y => decide (y.2 = .local → sc.names.lookup y.1 = some .local)) = true) (hx : sc.names.lookup z = some .local)
    (hk : (compEnvC sc cl' 0 (Z.env 0)).scope.kind = .function) (hl : (compEnvC sc cl' 0 (Z.env 0)).kindOf z = some .local) (hd : (z == ("__debug__" : Str)) = false)
    (hs : ∀ x, foldedSetIterable iter C.env x = Pure.pure x) : Vw C C.env lm n (.ListComp elt [⟨.Name z px, iter, [ct], 0⟩] sc pos) R :=
  .comp (g := g) (zs := fun t => [(z, g t)]) (f := p) (P := fun ζ t y => y = q t) (h.w ⟨l, ts, rfl, L, hz, fun ζ ζ ζ ζ ζ h => h, fun t ζ => .name hx hkind, fun t h => .one (fun kp O => (ht t h _ _ kp (.ownK O (by rw [List.lookup_cons, beq_self_eq_true]) hk hl hd)).1) fun e ζ ζ kp O => .el ((ht t h _ _ kp (.ownK O (by rw [List.lookup_cons, beq_self_eq_true]) hk hl hd)).2 e) fun ζ ζ => rfl, fun E n' xs LE ne K A => r E n' (AIn.eq A ▸ LE) ne K⟩) hclos hcell hkind hnames hs
theorem Vw.neNil {p2 : Pos} (hu : C.A.units < cLine) (h : Vw C v lm n e fun x n' => ∃ l xs, x = .ref l ∧ LV n' l xs ∧ ∀ n2, (Kk n' n2) → R (.bool (!xs.isEmpty)) n2) (hb : behindInMarks .NotEq (.List [] p2) = false) : Vw C v lm n (.Compare e [.NotEq] [.List [] p2] pos) R := fun m s =>
  .cmp ((h m s).mono fun u n1 q => by
    obtain ⟨ζ, hu', l, xs, rfl, ⟨us, c, hm, hus⟩, r⟩ := q
    obtain rfl : u = .ref l := hu'
    refine (Vw.nilList (R := fun x n2 => ∃ b, x = .ref b ∧ (b, listOf [].toArray 0) ∈ n2 ∧ Kk n1 n2) (fun b lt => ⟨b, rfl, .head _, fun p hp => .tail _ hp⟩) m s).mono fun w n2 q => ?_
    obtain ⟨ζ, hw, b, rfl, hb, kp⟩ := q
    obtain rfl : w = .ref b := hw
    intro σ z
    have hL := News.isList z.2 (kp _ hm)
    have hB := News.isList z.2 hb
    cases us with
    | nil =>
      cases xs with
      | nil => exact SeqAt.RcNeAt.lists hL hB rfl hu (e := fun ζ => true) (fun j h1 h2 => absurd h1 (by simp)) pg W.w _ _ (out (tk' := σ.toks) z ⟨.bool false, rfl, r n2 kp⟩)
      | cons _ _ => exact hus.elim
    | cons w ws =>
      cases xs with
      | nil => exact hus.elim
      | cons _ _ => exact SeqAt.RcNeAt.lists_lengths hL hB (by simp) hu pg W.w _ _ (out (tk' := σ.toks) z ⟨.bool true, rfl, r n2 kp⟩)) hb
end
end Mine
namespace Mine
structure Nd : Type where
  x : Addr
  dx : Addr
  s : Addr
  ds : Addr
  F : It
  S : Sh
  k : Int
inductive Tr : Type where
  | mk (d : Nd) (ts : List Tr)
noncomputable abbrev Tr.d : Tr → Nd | .mk d _ => d
noncomputable abbrev Tr.ts : Tr → List Tr | .mk _ ts => ts
noncomputable abbrev refs (ts : List Tr) : List Vl := ts.map fun t => Vl.ref t.d.x
structure NIn (n : Led) (par : Vl) (d : Nd) (ks : List Vl) : Prop where
  it : ItIn n d.x d.dx d.F
  par : d.F.par = par
  sh : d.F.sh = .ref d.s
  sI : ShIn n d.s d.ds d.S
  oc : OcIn n d.F.oc d.k
  kl : LV n d.F.kl ks
  k0 : 1 ≤ d.k
  k1 : d.k ≤ 3
  us : ks ≠ [] → d.F.us = ""
  kn : ks.length ≤ 3
mutual
noncomputable def TIn (n : Led) : Vl → Tr → Prop
  | par, .mk d ts => NIn n par d (refs ts) ∧ KIn n (.ref d.x) ts
noncomputable def KIn (n : Led) : Vl → List Tr → Prop
  | _, [] => True
  | par, t :: ts => TIn n par t ∧ KIn n par ts
end
theorem KIn.all {n : Led} : ∀ {ts : List Tr} {par : Vl}, KIn n par ts → ∀ t ∈ ts, TIn n par t
  | [], _, _, _, h => nomatch h
  | _ :: _, _, h, t, q => by
    rcases List.mem_cons.mp q with rfl | q
    · exact h.1
    · exact KIn.all h.2 t q
theorem TIn.n {n : Led} {par : Vl} : ∀ {t : Tr}, TIn n par t → NIn n par t.d (refs t.ts)
  | .mk _ _, h => h.1
noncomputable def Kt (n n' : Led) : Prop := ∀ p ∈ n, p.2.cls ≠ .none → Calm p.2 → p ∈ n'
theorem Kp.t {n n' : Led} (K : Kp n n') : Kt n n' := fun p hp h ζ => K p hp (.inl h)
theorem Kc.t {n n' : Led} (K : Kc n n') : Kt n n' := fun p hp ζ h => K p hp h
theorem Ob.kt {n n' : Led} {x c dx : Addr} {fs : Fds} {b : Nat} (O : Ob n x c dx fs b) (K : Kt n n') : Ob n' x c dx fs b :=
  ⟨K _ O.1 cls_i calm_i, let ⟨es, k, p, q⟩ := O.2; ⟨es, k, K _ p cls_d calm_d, q⟩⟩
theorem LV.kt {n n' : Led} {l : Addr} {xs : List Vl} (h : LV n l xs) (K : Kt n n') : LV n' l xs := by obtain ⟨us, k, p, q⟩ := h; exact ⟨us, k, K _ p cls_l calm_l, q⟩
theorem OcIn.kt {n n' : Led} {oc : Vl} {k : Int} (h : OcIn n oc k) (K : Kt n n') : OcIn n' oc k := h.imp id fun ⟨o, odx, fs, e, O, r⟩ => ⟨o, odx, fs, e, O.kt K, r⟩
theorem NIn.kt {n n' : Led} {par : Vl} {d : Nd} {ks : List Vl} (h : NIn n par d ks) (K : Kt n n') : NIn n' par d ks := ⟨h.it.kt K, h.par, h.sh, h.sI.kt K, h.oc.kt K, h.kl.kt K, h.k0, h.k1, h.us, h.kn⟩
theorem TIn.kt {n n' : Led} (K : Kt n n') (t : Tr) : ∀ par, TIn n par t → TIn n' par t := by
  induction t using Tr.rec (motive_2 := fun ts => ∀ par, KIn n par ts → KIn n' par ts) with
  | mk d ts ih => exact fun par h => ⟨h.1.kt K, ih _ h.2⟩
  | nil => rename_i par h; exact h
  | cons t r h1 h2 => rename_i par h; exact ⟨h1 _ h.1, h2 _ h.2⟩
theorem KIn.kt {n n' : Led} (K : Kt n n') {ts : List Tr} {par : Vl} (h : KIn n par ts) : KIn n' par ts := by
  induction ts with
  | nil => exact h
  | cons t r ih => exact ⟨TIn.kt K t _ h.1, ih h.2⟩
noncomputable def ap (t : Tr) : Bool := t.d.F.rd != "" || t.d.F.lv == 66
noncomputable def isg (ts : List Tr) : Bool := !(ts.filter fun t => t.d.F.lv != 66).isEmpty
noncomputable def szs (ts : List Tr) : Int := ((ts.filter fun t => !ap t).map fun t => t.d.F.sz * t.d.k).sum
section
variable {W : Wd} {Z : St} {C : Cx W Z} {v : Env} {lm : Lm} {n n0 : Led} {x y : Vl} {e f g : PySem.Expr} {pos : Pos} {Q : Rs} {rest bd el : List Stmt} {R : Vl → Led → Prop}
theorem Rm.u {k : Nat} (rm : Rm C k) : C.A.units < cLine := Nat.lt_of_le_of_lt (Nat.le_add_right _ _) rm.2
theorem Ev.mulR {i j : Int} (h : Ev C v lm n e (.int i)) (k : Ev C v lm n f (.int j)) (h0 : 0 ≤ j) (h1 : j < 100000000) : Ev C v lm n (.BinOp e .Mult f pos) (.int (i * j)) := fun m s => .bin (h.go s fun _ ⟨_, q⟩ => k.go s fun _ ⟨_, r⟩ => q ▸ r ▸ fun s z => mul_int (out (tk' := s.toks + 1) z ⟨⟨_, rfl⟩, rfl⟩) (IntMulOk.of_right (intBits_le_64 (by omega) (by omega))))
theorem b_sum : bootBuiltins "sum" = some (.builtin "sum") := by boot_by_name
theorem Vw.sum {fe : PySem.Expr} (hf : ∀ m (R : Value → Led → Prop), R (.builtin "sum") n → We C v m n fe R) (h : Vw C v lm n e fun x n' => ∃ (l : Addr) (ns : List Int), x = .ref l ∧ LV n' l (ns.map Vl.int) ∧ R (.int ns.sum) n')
    (h1 : eval (fe.Call [e] [] pos) v = (do let f ← eval fe v; callWith pos f [] (backTo pos (starEach [e] v)) (backToKw pos (keywordEach [] v))))
    (h2 : starEach [e] v = (false, eval e v) :: starEach [] v) (h3 : ((backTo pos (starEach [] v)).any (·.1)) = false) : Vw C v lm n (fe.Call [e] [] pos) R := fun m s =>
  .bi (hf m _ ⟨rfl, .cons ((h m s).mono fun u n' q => by
    obtain ⟨ζ, hu, l, ns, rfl, ⟨us, k, hm, hus⟩, r⟩ := q
    obtain rfl : u = .ref l := hu
    exact .nil fun s y => sumK C.hh y.1 y.2 (News.isList y.2 hm) hus.ints fun h' tk t' F N => out (tk' := tk) ⟨F, N⟩ ⟨.int ns.sum, ⟨_, rfl⟩, r⟩) h2⟩) h1 h2 h3
end
section
variable {W : Wd} {n : Led} {Post : Vl → Led → Prop}
theorem group_v {x dx : Addr} {F : It} {ts : List Tr} (I : ItIn n x dx F) (L : LV n F.kl (refs ts)) (hz : ts.length ≤ 100) (hk : ∀ t ∈ ts, ItIn n t.d.x t.d.dx t.d.F)
    (ret : ∀ n', (Kk n n') → Post (.bool (isg ts)) n') : DoesV W 111 [.ref x] 1 n Post := by
  refine enterZ (k := 0) ["item"] [("item", .ref x)] (by intro P; k_is) (by intro P; k_is) (len1 fun a s => .of_eq rfl) rfl rfl (fun C rm => ?_) rfl rfl rfl rfl
  refine .retW (.neNil rm.u (.compV (fun t => .ref t.d.x) ts (fun t => t.d.F.lv != 66) (fun t => .ref t.d.x) (.attr fk_kids I rfl (.loc rfl rfl (by decide)) rfl) L (Nat.le_trans hz (by decide)) (fun t ht N D kp own => ⟨.cmp (.neI (.attr fk_level ((hk t ht).mono (fun ζ h => kp _ h) fun ζ h => kp _ h) rfl own rfl) (.ownG (x := .int 66) g_RENAMING ⟨_, rfl⟩ rfl rfl (by decide))) rfl, fun ζ => own⟩)
    (fun E n' LE ζ kp => ⟨E, _, rfl, LE, fun n2 k2 => ?_⟩) rfl rfl rfl rfl rfl rfl rfl (by decide) (fun ζ => rfl)) rfl)
  rw [show (((ts.filter fun t => t.d.F.lv != 66).map fun t => Vl.ref t.d.x).isEmpty) = (ts.filter fun t => t.d.F.lv != 66).isEmpty from List.isEmpty_map]
  exact ret n2 fun p hp => k2 p (kp p hp)
theorem sized_v {x dx : Addr} {F : It} {ts : List Tr} (I : ItIn n x dx F) (L : LV n F.kl (refs ts)) (hz : ts.length ≤ 100) (hk : ∀ t ∈ ts, ItIn n t.d.x t.d.dx t.d.F ∧ OcIn n t.d.F.oc t.d.k ∧ 1 ≤ t.d.k ∧ t.d.k ≤ 3)
    (ret : ∀ n' s ds, (∀ p ∈ n, p.1 < ds ∧ p.1 < s) → ItIn n' x dx { F with sz := szs ts, sh := .ref s } → ShIn n' s ds ⟨"group", szs ts, "display", 0, 0, false⟩ → (Kl dx n n') → Post .none n') : DoesV W 236 [.ref x] 4 n Post := by
  refine enterZ (k := 3) ["item"] [("item", .ref x)] (by intro P; k_is) (by intro P; k_is) (len1 fun a s => .of_eq rfl) rfl rfl (fun C rm => ?_) rfl rfl rfl rfl
  refine .setaW (.sum (fun ζ ζ r => .blt n_sum b_sum (by decide) r) (.compV (fun t => .ref t.d.x) ts (fun t => !ap t) (fun t => .int (t.d.F.sz * t.d.k)) (.attr fk_kids I rfl (.loc rfl rfl (by decide)) rfl) L (Nat.le_trans hz (by decide)) (fun t ht N D kp own => ?_)
    (fun E n1 LE ζ kp => ⟨E, (ts.filter fun t => !ap t).map fun t => t.d.F.sz * t.d.k, rfl, by rw [List.map_map]; exact LE, .old fk_size (.loc rfl rfl (by decide)) (I.mono (fun ζ h => kp _ h) fun ζ h => kp _ h) (by decide) rfl fun n2 ζ I2 K2 => ?_⟩) rfl rfl rfl rfl rfl rfl rfl (by decide) (fun ζ => rfl)) rfl rfl rfl) rfl
  · obtain ⟨J, O, k0, k1⟩ := hk t ht
    have J' := J.mono (fun ζ h => kp _ h) fun ζ h => kp _ h
    have O' : OcIn N t.d.F.oc t.d.k := O.imp id fun ⟨o, odx, fs, e, O, r⟩ => ⟨o, odx, fs, e, O.mono (fun ζ h => kp _ h) (fun ζ h => kp _ h), r⟩
    exact ⟨.not (.val (Vw.ev (.fn k231 (rm.le (by decide)) (.ownG g_apart rfl rfl rfl (by decide)) (.one own (.nil (apart_v J' ⟨rfl, rfl⟩)) rfl) rfl rfl rfl)) (fun ζ => rfl)), fun ζ => .mulR (.attr fk_size J' rfl own rfl) (.cnt J' O' own own rfl rfl rfl) (k_pos k0) (k_small k1)⟩
  · have I2 : ItIn n2 x dx { F with sz := szs ts } := I2
    refine .setaW (.fn k189 rm (.glob g_gshape rfl rfl (by decide)) (.one (.attr fk_size I2 rfl (.loc rfl rfl (by decide)) rfl) (.nil (gshape_v fun n3 s ds lt S3 K3 => .old fk_shape (.loc rfl rfl (by decide)) (I2.mono (fun ζ h => K3 _ h) fun ζ h => K3 _ h) (by decide) rfl fun n4 o3 I4 K4 => ?_)) rfl) rfl rfl rfl) rfl
    have ne := I2.all (P := fun a => a < ds ∧ a < s) lt
    refine .nil (ret n4 s ds (fun p hp => ?_) I4 (S3.offD o3 (I2.mono (fun ζ h => K3 _ h) fun ζ h => K3 _ h) (Nat.ne_of_gt ne.1) K4) fun p hp h => K4 p (K3 p (K2 p (kp p hp) h)) h)
    by_cases h : p.1 = dx
    · rw [h]; exact ne
    · exact lt p (K2 p (kp p hp) h)
end
end Mine
namespace Mine
noncomputable def nx (o : Int) (t : Tr) : Int := if ap t = true then o else o + t.d.F.sz * t.d.k
noncomputable abbrev Nd.at (d : Nd) (o : Int) : Nd := { d with F := { d.F with off := o } }
mutual
noncomputable def lay : Int → Tr → Tr
  | o, .mk d ts => .mk (d.at o) (layL o ts)
noncomputable def layL : Int → List Tr → List Tr
  | _, [] => []
  | o, t :: ts => lay o t :: layL (nx o t) ts
end
mutual
noncomputable def dcs : Tr → List Addr
  | .mk d ts => d.dx :: dcsL ts
noncomputable def dcsL : List Tr → List Addr
  | [] => []
  | t :: ts => dcs t ++ dcsL ts
end
mutual
noncomputable def lks : Tr → List Addr
  | .mk d ts => d.F.kl :: lksL ts
noncomputable def lksL : List Tr → List Addr
  | [] => []
  | t :: ts => lks t ++ lksL ts
end
mutual
noncomputable def hgt : Tr → Nat
  | .mk _ ts => hgtL ts + 1
noncomputable def hgtL : List Tr → Nat
  | [] => 0
  | t :: ts => max (hgt t) (hgtL ts)
end
theorem hgt_le : ∀ {ts : List Tr}, ∀ t ∈ ts, hgt t ≤ hgtL ts
  | [], _, h => nomatch h
  | a :: r, t, h => by
    rcases List.mem_cons.mp h with rfl | h
    · exact Nat.le_max_left _ _
    · exact Nat.le_trans (hgt_le t h) (Nat.le_max_right _ _)
theorem lay_d (o : Int) : ∀ t : Tr, (lay o t).d = t.d.at o
  | .mk _ _ => rfl
theorem refs_lay : ∀ {ts : List Tr} (o : Int), refs (layL o ts) = refs ts
  | [], _ => rfl
  | t :: ts, o => by
    show Vl.ref (lay o t).d.x :: refs (layL (nx o t) ts) = Vl.ref t.d.x :: refs ts
    rw [lay_d, refs_lay]
theorem ap_lay (o : Int) (t : Tr) : ap (lay o t) = ap t := by unfold ap; rw [lay_d]
theorem dcs_lay (t : Tr) : ∀ o, dcs (lay o t) = dcs t := by
  induction t using Tr.rec (motive_2 := fun ts => ∀ o, dcsL (layL o ts) = dcsL ts) with
  | mk d ts ih => exact fun o => congrArg (d.dx :: ·) (ih o)
  | nil => rename_i o; rfl
  | cons t r h1 h2 =>
    rename_i o
    show dcs (lay o t) ++ dcsL (layL (nx o t) r) = dcs t ++ dcsL r
    rw [h1, h2]
theorem dcsL_app : ∀ xs ys : List Tr, dcsL (xs ++ ys) = dcsL xs ++ dcsL ys
  | [], _ => rfl
  | x :: xs, ys => by
    show dcs x ++ dcsL (xs ++ ys) = (dcs x ++ dcsL xs) ++ dcsL ys
    rw [dcsL_app, List.append_assoc]
theorem KIn.app {n : Led} {par : Vl} : ∀ {xs ys : List Tr}, KIn n par xs → KIn n par ys → KIn n par (xs ++ ys)
  | [], _, _, k => k
  | _ :: _, _, h, k => ⟨h.1, KIn.app h.2 k⟩
theorem TIn.hD {n : Led} (t : Tr) : ∀ par, TIn n par t → ∀ b ∈ dcs t, ∃ y F, ItIn n y b F := by
  induction t using Tr.rec (motive_2 := fun ts => ∀ par, KIn n par ts → ∀ b ∈ dcsL ts, ∃ y F, ItIn n y b F) with
  | mk d ts ih =>
    intro par h b hb
    rcases List.mem_cons.mp hb with rfl | hb
    · exact ⟨_, _, h.1.it⟩
    · exact ih _ h.2 b hb
  | nil => rename_i b hb; exact nomatch hb
  | cons t r h1 h2 =>
    rename_i par h b hb
    rcases List.mem_append.mp hb with hb | hb
    · exact h1 _ h.1 b hb
    · exact h2 _ h.2 b hb
theorem TIn.hL {n : Led} (t : Tr) : ∀ par, TIn n par t → ∀ b ∈ lks t, ∃ ys, LV n b ys := by
  induction t using Tr.rec (motive_2 := fun ts => ∀ par, KIn n par ts → ∀ b ∈ lksL ts, ∃ ys, LV n b ys) with
  | mk d ts ih =>
    intro par h b hb
    rcases List.mem_cons.mp hb with rfl | hb
    · exact ⟨_, h.1.kl⟩
    · exact ih _ h.2 b hb
  | nil => rename_i b hb; exact nomatch hb
  | cons t r h1 h2 =>
    rename_i par h b hb
    rcases List.mem_append.mp hb with hb | hb
    · exact h1 _ h.1 b hb
    · exact h2 _ h.2 b hb
theorem KIn.hL {n : Led} : ∀ {ts : List Tr} {par : Vl}, KIn n par ts → ∀ b ∈ lksL ts, ∃ ys, LV n b ys
  | [], _, _, _, hb => nomatch hb
  | _ :: _, _, h, b, hb => by
    rcases List.mem_append.mp hb with hb | hb
    · exact TIn.hL _ _ h.1 b hb
    · exact KIn.hL h.2 b hb
theorem KIn.hD {n : Led} : ∀ {ts : List Tr} {par : Vl}, KIn n par ts → ∀ b ∈ dcsL ts, ∃ y F, ItIn n y b F
  | [], _, _, _, hb => nomatch hb
  | _ :: _, _, h, b, hb => by
    rcases List.mem_append.mp hb with hb | hb
    · exact TIn.hD _ _ h.1 b hb
    · exact KIn.hD h.2 b hb
noncomputable def Tch (n : Led) (M : Addr → Prop) : Prop := ∀ b, M b → (∃ y F, ItIn n y b F) ∨ ∃ ys, LV n b ys
section
variable {n n' : Led} {M : Addr → Prop} (one : One n) (hM : Tch n M) (K : ∀ p ∈ n, ¬ M p.1 → p ∈ n')
include one hM in
theorem Tch.inst {x c dx : Addr} (h : (x, instObj c dx) ∈ n) : ¬ M x := fun hb => (hM _ hb).elim (fun ⟨_, _, J⟩ => let ⟨_, _, p, _⟩ := J.2; one.di p h rfl) fun ⟨_, _, _, p, _⟩ => one.il h p rfl
include one hM K
theorem Ob.offs {x c dx : Addr} {fs : Fds} {b : Nat} (O : Ob n x c dx fs b) (h : fs.getD 0 none = none) : Ob n' x c dx fs b :=
  O.mono (fun ζ h => K _ h (hM.inst one O.1)) (fun ζ h2 => K _ h2 fun hb => (hM _ hb).elim (fun ⟨_, _, J⟩ => Ob.ne one J O (by decide) rfl h rfl) fun ⟨_, _, _, p, _⟩ => let ⟨_, _, q, _⟩ := O.2; one.dl q p rfl)
theorem OcIn.offs {oc : Vl} {k : Int} (h : OcIn n oc k) : OcIn n' oc k := h.imp id fun ⟨o, odx, fs, e, O, r, r0⟩ => ⟨o, odx, fs, e, Ob.offs one hM K O r0, r, r0⟩
theorem NIn.off {par : Vl} {d : Nd} {ks : List Vl} (h : NIn n par d ks) (hd : ¬ M d.dx) (hl : ¬ M d.F.kl) : NIn n' par d ks :=
  ⟨h.it.mono (fun ζ q => K _ q (hM.inst one h.it.1)) fun ζ q => K _ q hd, h.par, h.sh, Ob.offs one hM K h.sI rfl, OcIn.offs one hM K h.oc, h.kl.mono fun ζ q => K _ q hl, h.k0, h.k1, h.us, h.kn⟩
theorem TIn.off (t : Tr) : ∀ par, TIn n par t → (∀ a ∈ dcs t, ¬ M a) → (∀ a ∈ lks t, ¬ M a) → TIn n' par t := by
  induction t using Tr.rec (motive_2 := fun ts => ∀ par, KIn n par ts → (∀ a ∈ dcsL ts, ¬ M a) → (∀ a ∈ lksL ts, ¬ M a) → KIn n' par ts) with
  | mk d ts ih => exact fun par h hd hl => ⟨h.1.off one hM K (hd _ (.head _)) (hl _ (.head _)), ih _ h.2 (fun a ha => hd a (.tail _ ha)) fun a ha => hl a (.tail _ ha)⟩
  | nil => rename_i par h hd hl; exact h
  | cons t r h1 h2 => rename_i par h hd hl; exact ⟨h1 _ h.1 (fun a ha => hd a (List.mem_append_left _ ha)) fun a ha => hl a (List.mem_append_left _ ha), h2 _ h.2 (fun a ha => hd a (List.mem_append_right _ ha)) fun a ha => hl a (List.mem_append_right _ ha)⟩
theorem KIn.off : ∀ {ts : List Tr} {par : Vl}, KIn n par ts → (∀ a ∈ dcsL ts, ¬ M a) → (∀ a ∈ lksL ts, ¬ M a) → KIn n' par ts
  | [], _, h, _, _ => h
  | _ :: _, _, h, hd, hl => ⟨TIn.off one hM K _ _ h.1 (fun a ha => hd a (List.mem_append_left _ ha)) fun a ha => hl a (List.mem_append_left _ ha), KIn.off h.2 (fun a ha => hd a (List.mem_append_right _ ha)) fun a ha => hl a (List.mem_append_right _ ha)⟩
end
section
variable {n n' : Led} {D : List Addr} (one : One n) (hD : ∀ b ∈ D, ∃ y F, ItIn n y b F) (K : ∀ p ∈ n, p.1 ∉ D → p ∈ n')
include one hD
theorem noL {l : Addr} {ys : List Vl} (L : LV n l ys) : l ∉ D := fun hb => let ⟨_, _, p, _⟩ := L; let ⟨_, _, J⟩ := hD _ hb; let ⟨_, _, q, _⟩ := J.2; one.dl q p rfl
include K
theorem NIn.offD {par : Vl} {d : Nd} {ks : List Vl} (h : NIn n par d ks) (hd : d.dx ∉ D) : NIn n' par d ks := h.off one (M := (· ∈ D)) (fun b hb => .inl (hD b hb)) K hd (noL one hD h.kl)
theorem KIn.offD {ts : List Tr} {par : Vl} (h : KIn n par ts) (hd : ∀ a ∈ dcsL ts, a ∉ D) : KIn n' par ts := h.off one (M := (· ∈ D)) (fun b hb => .inl (hD b hb)) K hd fun a ha => let ⟨_, L⟩ := h.hL a ha; noL one hD L
end
theorem NIn.set {n n' : Led} {par : Vl} {d : Nd} {ks : List Vl} {F : It} (one : One n) (h : NIn n par d ks) (J : ItIn n' d.x d.dx F) (K : ∀ p ∈ n, p.1 ≠ d.dx → p ∈ n') (e1 : F.par = d.F.par) (e2 : F.sh = d.F.sh) (e3 : F.oc = d.F.oc) (e4 : F.kl = d.F.kl) (e5 : F.us = d.F.us) : NIn n' par { d with F := F } ks :=
  have hM : Tch n (· = d.dx) := fun b hb => .inl ⟨_, _, (show b = d.dx from hb) ▸ h.it⟩
  ⟨J, e1.trans h.par, e2.trans h.sh, Ob.offs one hM K h.sI rfl, e3 ▸ OcIn.offs one hM K h.oc, e4 ▸ h.kl.offD one h.it K, h.k0, h.k1, fun q => e5.trans (h.us q), h.kn⟩
section
variable {W : Wd} {Z : St} {C : Cx W Z} {v : Env} {lm : Lm} {n n0 : Led} {x y : Vl} {e f g : PySem.Expr} {pos : Pos} {Q : Rs} {rest bd el : List Stmt} {R : Vl → Led → Prop}
variable {W : Wd} {n : Led} {Post : Vl → Led → Prop}
structure LayI (x : Addr) (ts : List Tr) (o : Int) (r : List Tr) (s : Int × List Tr) (n' : Led) : Prop where
  e1 : s.2 ++ layL s.1 r = layL o ts
  e2 : dcsL s.2 ++ dcsL r = dcsL ts
  suf : ∃ q, q ++ r = ts
  dn : KIn n' (.ref x) s.2
  td : KIn n' (.ref x) r
noncomputable def layI (x : Addr) (ts : List Tr) (o : Int) : Inv (List Tr) (Int × List Tr) := ⟨(· ∈ dcsL ts), fun s => [("offset", .int s.1), ("item", .ref x)], LayI x ts o⟩
theorem lay_v (t : Tr) : ∀ {n : Led} {par : Vl} {o : Int} {Post : Vl → Led → Prop}, TIn n par t → (dcs t).Nodup → 
    (∀ n', TIn n' par (lay o t) → (∀ p ∈ n, p.1 ∉ dcs t → p ∈ n') → Post .none n') → DoesV W 243 [.ref t.d.x, .int o] (hgt t + 1) n Post := by
  induction t using Tr.rec (motive_2 := fun ts => ∀ t ∈ ts, ∀ {n : Led} {par : Vl} {o : Int} {Post : Vl → Led → Prop}, TIn n par t → (dcs t).Nodup → 
    (∀ n', TIn n' par (lay o t) → (∀ p ∈ n, p.1 ∉ dcs t → p ∈ n') → Post .none n') → DoesV W 243 [.ref t.d.x, .int o] (hgt t + 1) n Post) with
  | nil => rename_i t h n' par o Post hT hnd ret; exact nomatch h
  | cons t r h1 h2 =>
    rename_i u h n' par o Post hT hnd ret
    rcases List.mem_cons.mp h with rfl | h
    · exact h1 hT hnd ret
    · exact h2 u h hT hnd ret
  | mk d ts ih =>
    intro n par o Post hT hnd ret
    refine enterZ (k := hgtL ts + 1) ["item", "offset"] [("offset", .int o), ("item", .ref d.x)] (by intro P; k_is) (by intro P; k_is) (len2 fun a b s => .of_eq rfl) rfl rfl (fun C rm => ?_) rfl rfl rfl rfl
    obtain ⟨hdx, hnd⟩ := List.nodup_cons.mp hnd
    refine .one fun o1 => .seta fk_offset (.loc rfl rfl (by decide)) (.loc rfl rfl (by decide)) hT.1.it (by decide) rfl (fun n1 I1 K1 => ?_) rfl
    have N1 : NIn n1 par (d.at o) (refs ts) := hT.1.set o1 I1 K1 rfl rfl rfl rfl rfl
    have hK1 : KIn n1 (.ref d.x) ts := hT.2.offD o1 (D := [d.dx]) (fun b hb => by rw [List.mem_singleton.mp hb]; exact ⟨_, _, hT.1.it⟩) (fun p hp q => K1 p hp fun e => q (e ▸ .head _)) fun a ha e => hdx ((List.mem_singleton.mp e) ▸ ha)
    refine .one fun o2 => .forL goN ((Ev.attr fk_kids N1.it rfl (.loc rfl rfl (by decide)) rfl).w (.mk (I := layI d.x ts o) N1.kl ⟨fun b hb => ?_, fun r s n' n'' h kc => ⟨h.e1, h.e2, h.suf, h.dn.kt kc.t, h.td.kt kc.t⟩, ⟨(o, []), .cons rfl (.cons rfl .nil), rfl, rfl, ⟨[], rfl⟩, trivial, hK1⟩, ?_, ?_⟩)) (fun ζ => rfl)
    · obtain ⟨y, F, J⟩ := hK1.hD b hb
      obtain ⟨es, k, p, ζ⟩ := J.2
      obtain ⟨us, c, q, ζ⟩ := N1.kl
      exact ⟨o2.dl p q, _, p⟩
    · rintro t r ⟨o', dn⟩ n' o3 kp ⟨e1, e2, ⟨q, eq⟩, hdn, ht, hr⟩
      have htm : t ∈ ts := eq ▸ List.mem_append_right _ (.head _)
      have hnd' := e2 ▸ hnd
      obtain ⟨ζ, hnd2, dj⟩ := List.nodup_append.mp hnd'
      obtain ⟨hndt, ζ, dj2⟩ := List.nodup_append.mp hnd2
      refine .name (.ex (.fn k243 (rm.le (Nat.succ_le_succ (hgt_le t htm))) (.glob g_lay rfl rfl (by decide)) (.one (.loc rfl rfl (by decide)) (.one (.loc rfl rfl (by decide)) (.nil (ih t htm ht hndt fun n2 ht2 K2 => ?_)) rfl) rfl) rfl rfl rfl) rfl rfl) rfl
      have hdn2 : KIn n2 (.ref d.x) dn := hdn.offD o3 (TIn.hD t _ ht) K2 fun a ha hb => dj a ha a (List.mem_append_left _ hb) rfl
      have hr2 : KIn n2 (.ref d.x) r := hr.offD o3 (TIn.hD t _ ht) K2 fun a ha hb => dj2 a hb a ha rfl
      have hT2 := ht2.n
      rw [lay_d] at hT2
      have keep : ∀ p ∈ n', ¬ (p.1 ∈ dcsL ts) → p ∈ n2 := fun p hp h => K2 p hp fun hb => h (e2 ▸ List.mem_append_right _ (List.mem_append_left _ hb))
      have fin : LayI d.x ts o r (nx o' t, dn ++ [lay o' t]) n2 := by
        refine ⟨by rw [List.append_assoc]; exact e1, ?_, ⟨q ++ [t], by rw [List.append_assoc]; exact eq⟩, hdn2.app ⟨ht2, trivial⟩, hr2⟩
        rw [dcsL_app, List.append_assoc]
        show dcsL dn ++ ((dcs (lay o' t) ++ []) ++ dcsL r) = _
        rw [List.append_nil, dcs_lay]
        exact e2
      refine .ite (.not (.val (Vw.ev (.fn k231 (rm.le (Nat.succ_le_succ (Nat.zero_le _))) (.glob g_apart rfl rfl (by decide)) (.one (.loc rfl rfl (by decide)) (.nil (apart_v hT2.it ⟨rfl, rfl⟩)) rfl) rfl rfl rfl)) (fun ζ => rfl))) (fun h => ?_) fun h => ?_
      · have h : ap t = false := by cases q : ap t with | false => rfl | true => exact absurd h (by rw [show (t.d.F.rd != "" || t.d.F.lv == 66) = true from q]; exact Bool.false_ne_true)
        refine .asg (.add (.loc rfl rfl (by decide)) (.mulR (.attr fk_size hT2.it rfl (.loc rfl rfl (by decide)) rfl) (.cnt hT2.it hT2.oc (.loc rfl rfl (by decide)) (.loc rfl rfl (by decide)) rfl rfl rfl) (k_pos hT2.k0) (k_small hT2.k1))) (.nil (.nil ⟨keep, _, .cons (congrArg some (congrArg Vl.int (by unfold nx; rw [h]; rfl))) (.cons rfl .nil), fin⟩)) rfl rfl
      · have h : ap t = true := by cases q : ap t with | true => rfl | false => exact absurd h (by rw [show (t.d.F.rd != "" || t.d.F.lv == 66) = false from q]; decide)
        exact .nil (.nil ⟨keep, _, .cons (congrArg some (congrArg Vl.int (by unfold nx; rw [h]; rfl))) (.cons rfl .nil), fin⟩)
    · rintro ⟨o', dn⟩ n' kp ⟨e1, e2, ζ, hdn, ζ⟩
      have e1 : dn = layL o ts := (List.append_nil dn).symm.trans e1
      refine .nil (ret n' ⟨?_, e1 ▸ hdn⟩ fun p hp h => kp p (K1 p hp fun e => h (e ▸ .head _)) fun hb => h (.tail _ hb))
      have := N1.offD o2 hK1.hD kp hdx
      rw [show refs (layL o ts) = refs ts from refs_lay o]
      exact this
end
end Mine
namespace Mine
noncomputable def rep {β : Type} (f : Nat → List β) : Nat → Nat → List β
  | 0, _ => []
  | m + 1, i => f i ++ rep f m (i + 1)
abbrev Fd := Int × Addr × Sh
mutual
noncomputable def fields : Tr → Int → Bool → List Fd
  | .mk d ts, o, g => if isg ts = true then fieldsL ts d.F.off o else if (d.F.nm == "FILLER" && !g) = true then [] else [(o, d.s, d.S)]
noncomputable def fieldsL : List Tr → Int → Int → List Fd
  | [], _, _ => []
  | t :: ts, b, o => (if pas t.d.F = true then [] else rep (fun j => fields t (o + t.d.F.off - b + j * t.d.F.sz) false) t.d.k.toNat 0) ++ fieldsL ts b o
end
noncomputable def FIn (n : Led) : List Addr → List Fd → Prop := AIn fun a z => TV n a [.int z.1, .ref z.2.1] ∧ ∃ ds, ShIn n z.2.1 ds z.2.2
theorem TV.kt {n n' : Led} {l : Addr} {xs : List Vl} (h : TV n l xs) (K : Kt n n') : TV n' l xs := by obtain ⟨us, p, q⟩ := h; exact ⟨us, K _ p cls_t calm_t, q⟩
theorem FIn.kt {n n' : Led} (K : Kt n n') {as : List Addr} {zs : List Fd} (h : FIn n as zs) : FIn n' as zs := AIn.mono (fun a z q => ⟨q.1.kt K, q.2.elim fun ds S => ⟨ds, S.kt K⟩⟩) h
section
variable {n n' : Led} {l : Addr} {ys : List Vl} (one : One n) (L : LV n l ys) (K : Kl l n n')
include one L K
theorem TV.offL {a : Addr} {xs : List Vl} (h : TV n a xs) : TV n' a xs := by
  obtain ⟨us, p, q⟩ := h
  obtain ⟨vs, k, r, ζ⟩ := L
  exact ⟨us, K _ p fun e => absurd (Value.type.inj (congrArg Obj.cls (one _ _ _ p (show (a, listOf vs.toArray k) ∈ n from (show a = l from e) ▸ r)))) (by decide), q⟩
theorem FIn.offL {as : List Addr} {zs : List Fd} (h : FIn n as zs) : FIn n' as zs := AIn.mono (fun a z q => ⟨TV.offL one L K q.1, q.2.elim fun ds S => ⟨ds, S.offL one L K⟩⟩) h
theorem TabP.offL {pos : Pos} {q : Str} (T : TabP pos q n) : TabP pos q n' := by
  obtain ⟨vs, k, r, ζ⟩ := L
  exact T.by (fun ps p => K _ p fun e => absurd (congrArg Obj.cls (one 120 _ _ p (show (120, listOf vs.toArray k) ∈ n from (show 120 = l from e) ▸ r))) nofun) fun c' o ws s t p d v => K _ p fun e => by
    rw [one c' _ _ p (show (c', listOf vs.toArray k) ∈ n from (show c' = l from e) ▸ r)] at d
    cases d
end
theorem tab_ne {n : Led} {pos : Pos} {q : Str} (one : One n) (T : TabP pos q n) {p : Addr × Obj} (hp : p ∈ n) (h : p.2.cls ≠ .none) : p.1 ≠ 120 := fun e => by
  obtain ⟨ps, r, ζ⟩ := T
  have := one 120 p.2 _ (by rw [← e]; exact hp) r
  rw [this] at h
  exact h rfl
section
variable {W : Wd} {Z : St} {C : Cx W Z} {v : Env} {lm : Lm} {n n0 : Led} {x y : Vl} {e f g : PySem.Expr} {pos : Pos} {Q : Rs} {rest bd el : List Stmt} {R : Vl → Led → Prop}
theorem Vw.ife {b : Bool} (h : Eb C v lm n e b) (k : b = true → Vw C v lm n f R) (l : b = false → Vw C v lm n g R) : Vw C v lm n (.IfExp e f g pos) R := fun m s => .ife ((h m s).mono fun c n' q => by
  obtain ⟨rfl, rfl⟩ := q
  cases c with
  | true => rw [if_pos rfl]; exact k rfl m s
  | false => rw [if_neg Bool.false_ne_true]; exact l rfl m s)
theorem Vb.valV {R : Bool → Led → Prop} (h : Vw C v lm n e fun x n' => ∃ b, x = .bool b ∧ R b n') (hp : ∀ w : Sem Value, PySem.isTrue e v w = (do let u ← w; standAt e.pos; holding [u] (truthy u))) : Vb C v lm n e R := fun m s =>
  .val ((h m s).mono fun u n' q => let ⟨_, hu, b, e, r⟩ := q; ⟨b, (show (Vl.bool b).is u from e ▸ hu), r⟩) hp
theorem Vb.not {R : Bool → Led → Prop} (h : Vb C v lm n e fun b n' => R (!b) n') : Vb C v lm n (.UnaryOp .Not e pos) R := fun m s => .not (h m s)
theorem Sv.iteV (h : Vb C C.env lm n e fun c n1 => (c = true → Sv C lm n1 bd (Q.then C rest)) ∧ (c = false → Sv C lm n1 el (Q.then C rest))) : Sv C lm n (.If e bd el pos :: rest) Q := .iteW fun m s => (h m s).mono fun c n1 q => by
  cases c with
  | true => rw [if_pos rfl]; exact q.1 rfl
  | false => rw [if_neg Bool.false_ne_true]; exact q.2 rfl
end
end Mine
namespace Mine
theorem rep_step {β : Type} (f : Nat → List β) {k i : Nat} (h : i < k) : rep f (k - i) i = f i ++ rep f (k - (i + 1)) (i + 1) := by
  rw [← Nat.succ_pred_eq_of_pos (Nat.sub_pos_of_lt h)]; rfl
theorem b_range : bootBuiltins "range" = some (.type "range") := by boot_by_name
noncomputable abbrev FieldsOk (W : Wd) (t : Tr) : Prop := ∀ {n : Led} {par : Vl} {as : List Addr} {o : Int} {g : Bool} {Post : Vl → Led → Prop}, TIn n par t → UpL n par as → as.length + hgt t ≤ 100 → Tab n → (fields t o g).length ≤ 60000 →
    (∀ n' l us, LV n' l (us.map .ref) → FIn n' us (fields t o g) → Tab n' → Kp n n' → (∀ p ∈ n, p.1 ≠ l) → Post (.ref l) n') → DoesV W 139 [.ref t.d.x, .int o, .bool g] (hgt t + 5) n Post
structure FldI (l : Addr) (all todo : List Fd) (s : List Addr × List Fd) (n : Led) : Prop where
  list : LV n l (s.1.map .ref)
  fin : FIn n s.1 s.2
  eq : s.2 ++ todo = all
  tab : Tab n
theorem FldI.kc {l : Addr} {all todo : List Fd} {s : List Addr × List Fd} {n n' : Led} (h : FldI l all todo s n) (K : Kc n n') : FldI l all todo s n' := ⟨h.list.kc K, h.fin.kt K.t, h.eq, h.tab.kc K⟩
noncomputable def fldO (l x : Addr) (o f : Int) (ts : List Tr) : Inv (List Tr) (List Addr × List Fd) := ⟨fun b => b = 120 ∨ b = l, fun ζ => [("found", .ref l), ("offset", .int o), ("item", .ref x)], fun r s n' => (∃ q, q ++ r = ts) ∧ FldI l (fieldsL ts f o) (fieldsL r f o) s n'⟩
noncomputable def fldR (l x y : Addr) (o : Int) (all rest : List Fd) (g : Nat → List Fd) (k : Nat) : Inv Nat (List Addr × List Fd) := ⟨fun b => b = 120 ∨ b = l, fun ζ => [("kid", .ref y), ("found", .ref l), ("offset", .int o), ("item", .ref x)], fun i => FldI l all (rep g (k - i) i ++ rest)⟩
theorem fields_v {W : Wd} (t : Tr) : FieldsOk W t := by
  induction t using Tr.rec (motive_2 := fun ts => ∀ t ∈ ts, FieldsOk W t) with
  | nil => rename_i t h; exact nomatch h
  | cons t r h1 h2 =>
    rename_i u h
    rcases List.mem_cons.mp h with rfl | h
    · exact h1
    · exact h2 u h
  | mk d ts ih =>
    intro n par as o g Post hT U hz T hl ret
    refine enterZ (k := hgtL ts + 5) ["item", "offset", "is_goal"] [("is_goal", .bool g), ("offset", .int o), ("item", .ref d.x)] (by intro P; k_is) (by intro P; k_is) (len3 fun a b c s => .of_eq rfl) rfl rfl (fun C rm => ?_) rfl rfl rfl rfl
    have hz : as.length + (hgtL ts + 1) ≤ 100 := hz
    have hts : ts.length ≤ 3 := by have := hT.1.kn; rw [List.length_map] at this; exact this
    refine .iteV (.not (.valV (.fn k111 (rm.le (le_r (by decide))) (.glob g_group rfl rfl (by decide)) (.one (.loc rfl rfl (by decide)) (.nil (group_v hT.1.it hT.1.kl (Nat.le_trans hts (by decide)) (fun t ht => (hT.2.all t ht).n.it) fun n1 K1 => ⟨isg ts, rfl, fun hg => ?_, fun hg => ?_⟩)) rfl) rfl rfl rfl) (fun ζ => rfl)))
    · have e : fields (.mk d ts) o g = if (d.F.nm == "FILLER" && !g) = true then [] else [(o, d.s, d.S)] := if_neg (by rw [Bool.not_eq_true'] at hg; rw [hg]; exact Bool.false_ne_true)
      rw [e] at ret
      have I1 := hT.1.it.mono (fun ζ h => K1 _ h) fun ζ h => K1 _ h
      have T1 : Tab n1 := T.kc fun p hp ζ => K1 p hp
      refine .retW (.ife (.and2 (.cmp (.eqS (.attr fk_name I1 rfl (.loc rfl rfl (by decide)) rfl) (.glob (x := .str "FILLER") g_FILLER ⟨_, rfl⟩ rfl (by decide))) rfl) (.not (.val (.loc rfl rfl (by decide)) (fun ζ => rfl)))) (fun h => .nilList fun l lt => ?_) fun h => .list (.cons (.tup (.one (.loc rfl rfl (by decide)) (.one (.attr fk_shape I1 (congrArg some hT.1.sh) (.loc rfl rfl (by decide)) rfl) (.nil ⟨Nat.le_of_ble_eq_true rfl, fun us t hu lt => .nil fun vs l hv => ⟨by rw [hv.length]; exact Nat.le_of_ble_eq_true rfl, fun lt2 => ?_⟩⟩) rfl) rfl)) rfl))
      · rw [if_pos h] at ret
        exact ret _ l [] ⟨[], 0, .head _, trivial⟩ trivial (T1.kc fun p hp ζ => .tail _ hp) (.of fun p hp => .tail _ (K1 p hp)) fun p hp => Nat.ne_of_lt (lt p (K1 p hp))
      · rw [if_neg (by rw [h]; exact Bool.false_ne_true)] at ret
        exact ret _ l [t] ⟨vs, 0, .head _, hv⟩ ⟨⟨⟨us, .tail _ (.head _), hu⟩, d.ds, hT.1.sI.mono (fun ζ h => .tail _ (.tail _ (K1 _ h))) fun ζ h => .tail _ (.tail _ (K1 _ h))⟩, trivial⟩ (T1.kc fun p hp ζ => .tail _ (.tail _ hp)) (.of fun p hp => .tail _ (.tail _ (K1 p hp))) fun p hp => Nat.ne_of_lt (lt2 p (.tail _ (K1 p hp)))
    · have hg : isg ts = true := by rw [Bool.not_eq_false'] at hg; exact hg
      have e : fields (.mk d ts) o g = fieldsL ts d.F.off o := if_pos hg
      rw [e] at ret hl
      refine .nil (.asgW (.nilList fun l lt => .one fun o2 => ?_) rfl rfl)
      have T2 : Tab ((l, listOf [].toArray 0) :: n1) := T.kc fun p hp ζ => .tail _ (K1 p hp)
      have N2 : NIn ((l, listOf [].toArray 0) :: n1) par d (refs ts) := hT.1.kt fun p hp ζ ζ => .tail _ (K1 p hp)
      refine .forL goN ((Ev.attr fk_kids N2.it rfl (.loc rfl rfl (by decide)) rfl).w (.mk (I := fldO l d.x o d.F.off ts) N2.kl ⟨fun b hb => ?_, fun r s n' n'' h kc => ⟨h.1, h.2.kc kc⟩, ⟨([], []), .cons rfl (.cons rfl (.cons rfl .nil)), ⟨[], rfl⟩, ⟨[], 0, .head _, trivial⟩, trivial, rfl, T2⟩, ?_, ?_⟩)) (fun ζ => rfl)
      · exact hb.elim (fun e => e ▸ ⟨N2.kl.elim fun us q => q.elim fun c q => Ne.symm (tab_ne o2 T2 q.1 cls_l), T2.elim fun ps q => ⟨_, q.1⟩⟩) fun e => by rw [e]; exact ⟨hT.1.kl.elim fun us q => q.elim fun c q => Nat.ne_of_gt (lt _ (K1 _ q.1)), _, .head _⟩
      · rintro t r ⟨us, zs⟩ n' ζ kp ⟨⟨q, eq⟩, L', F', ez, T'⟩
        have htm : t ∈ ts := eq ▸ List.mem_append_right _ (.head _)
        have K' : Kt n n' := fun p hp hc ζ => kp p (.tail _ (K1 p hp)) fun h => h.elim (tab_ne o2 T2 (.tail _ (K1 p hp)) hc) (Nat.ne_of_lt (lt p (K1 p hp)))
        have ht : TIn n' (.ref d.x) t := TIn.kt K' t _ (hT.2.all t htm)
        have U' : UpL n' (.ref d.x) (d.x :: as) := ⟨rfl, d.dx, d.F, hT.1.it.kt K', hT.1.us (fun e => by rw [List.map_eq_nil_iff.mp e] at htm; exact nomatch htm), hT.1.par.symm ▸ U.mono fun O => O.kt K'⟩
        have hgt := hgt_le t htm
        refine .name (.iteV (.valV (.fn k132 (rm.le (le_r (by decide))) (.glob g_passed rfl rfl (by decide)) (.one (.loc rfl rfl (by decide)) (.nil (passed_v ht.n.it (ht.n.par.symm ▸ U') (by exact up_len hz) T' fun n3 T3 K3 => ⟨pas t.d.F, rfl, fun hp => ?_, fun hp => ?_⟩)) rfl) rfl rfl rfl) (fun ζ => rfl))) rfl
        · refine .cont ⟨fun p hp h => K3 p hp (.inr fun e => h (.inl e)), (us, zs), .cons rfl (.cons rfl (.cons rfl .nil)), ⟨q ++ [t], by rw [List.append_assoc]; exact eq⟩, L'.kp K3, F'.kt K3.t, ?_, T3⟩
          have ez : zs ++ ((if pas t.d.F = true then [] else _) ++ fieldsL r d.F.off o) = fieldsL ts d.F.off o := ez
          rw [if_pos hp] at ez
          exact ez
        · have ht3 : TIn n3 (.ref d.x) t := TIn.kt K3.t t _ ht
          have hK : ((t.d.k.toNat : Nat) : Int) = t.d.k := Int.toNat_of_nonneg (k_pos ht3.n.k0)
          have ez : zs ++ ((if pas t.d.F = true then [] else rep (fun j => fields t (o + t.d.F.off - d.F.off + j * t.d.F.sz) false) t.d.k.toNat 0) ++ fieldsL r d.F.off o) = fieldsL ts d.F.off o := ez
          rw [if_neg (by rw [hp]; exact Bool.false_ne_true)] at ez
          refine .nil (.one fun o3 => .forR (fun ζ ζ r => .blt n_range b_range (by decide) r)
            (.me0 mk_count (rm.le (le_r (by decide))) (.loc rfl rfl (by decide)) ht3.n.it rfl (count_v ht3.n.it ht3.n.oc (.mk (k := t.d.k.toNat) (I := fldR l d.x t.d.x o (fieldsL ts d.F.off o) (fieldsL r d.F.off o) (fun j => fields t (o + t.d.F.off - d.F.off + j * t.d.F.sz) false) t.d.k.toNat) (by rw [hK]) (toNat3 ht3.n.k1) ⟨fun b hb => ?_, fun ζ ζ ζ ζ h kc => h.kc kc, ⟨(us, zs), .cons rfl (.cons rfl (.cons rfl (.cons rfl .nil))), L'.kp K3, F'.kt K3.t, ez, T3⟩, ?_, ?_⟩)) rfl) rfl rfl rfl rfl (fun ζ => rfl))
          · exact hb.elim (fun e => e ▸ T3.elim fun ps q => ⟨_, q.1⟩) fun e => e ▸ (L'.kp K3).elim fun us q => q.elim fun c q => ⟨_, q.1⟩
          · rintro i ⟨us4, zs4⟩ n4 hi ζ kp4 ⟨L4, F4, ez4, T4⟩
            have F4 : FIn n4 us4 zs4 := F4
            have K4 : Kt n n4 := fun p hp hc hm => kp4 p (K3 p (K' p hp hc hm) (.inl hc)) fun h => h.elim (tab_ne o3 T3 (K3 p (K' p hp hc hm) (.inl hc)) hc) (Nat.ne_of_lt (lt p (K1 p hp)))
            have ht4 : TIn n4 (.ref d.x) t := TIn.kt K4 t _ (hT.2.all t htm)
            have I4 := hT.1.it.kt K4
            have U4 : UpL n4 (.ref d.x) (d.x :: as) := ⟨rfl, d.dx, d.F, I4, hT.1.us (fun e => by rw [List.map_eq_nil_iff.mp e] at htm; exact nomatch htm), hT.1.par.symm ▸ U.mono fun O => O.kt K4⟩
            have ez4 : zs4 ++ (rep (fun j => fields t (o + t.d.F.off - d.F.off + j * t.d.F.sz) false) (t.d.k.toNat - i) i ++ fieldsL r d.F.off o) = fieldsL ts d.F.off o := ez4
            rw [rep_step _ hi, List.append_assoc] at ez4
            have hlen := congrArg List.length ez4
            rw [List.length_append, List.length_append] at hlen
            refine .ex (.extends (.loc rfl rfl (by decide)) L4 (.fn k139 (rm.le (Nat.add_le_add_right hgt 5)) (.glob g_fields rfl rfl (by decide)) (.one (.loc rfl rfl (by decide)) (.one (.add (.sub (.add (.loc rfl rfl (by decide)) (.attr fk_offset ht4.n.it rfl (.loc rfl rfl (by decide)) rfl)) (.attr fk_offset I4 rfl (.loc rfl rfl (by decide)) rfl)) (.mul (.loc rfl rfl (by decide)) (.attr fk_size ht4.n.it rfl (.loc rfl rfl (by decide)) rfl) (Int.natCast_nonneg i) (idx_lt hi ht4.n.k1))) (.one .bool (.nil (ih t htm ht4 U4 (by exact up_len2 hz hgt) T4 (by exact mid_le hlen hl) fun n5 l5 us5 L5 F5 T5 K5 ne5 => ⟨l5, _, rfl, L4.kp K5, L5, ?_, ?_, fun n6 o5 L6 K6 => ?_⟩)) rfl) rfl) rfl) rfl rfl rfl) rfl rfl rfl) rfl rfl
            · obtain ⟨us, c, q, ζ⟩ := L4
              exact ne5 _ q
            · rw [List.length_map, List.length_map, AIn.len F4, AIn.len F5]; exact fst_le hlen hl
            · refine .nil ⟨fun p hp h => K6 p (K5 p hp (.inr fun e => h (.inl e))) fun e => h (.inr e), (us4 ++ us5, zs4 ++ _), .cons rfl (.cons rfl (.cons rfl (.cons rfl .nil))), ?_, AIn.app (FIn.offL o5 (L4.kp K5) K6 (F4.kt K5.t)) (FIn.offL o5 (L4.kp K5) K6 F5), ?_, TabP.offL o5 (L4.kp K5) K6 T5⟩
              · show LV n6 l ((us4 ++ us5).map .ref)
                rw [List.map_append]; exact L6
              · exact (List.append_assoc ..).trans ez4
          · rintro ⟨us4, zs4⟩ n4 kp4 ⟨L4, F4, ez4, T4⟩
            have ez4 : zs4 ++ (rep (fun j => fields t (o + t.d.F.off - d.F.off + j * t.d.F.sz) false) (t.d.k.toNat - t.d.k.toNat) t.d.k.toNat ++ fieldsL r d.F.off o) = fieldsL ts d.F.off o := ez4
            rw [Nat.sub_self] at ez4
            exact .nil ⟨fun p hp h => kp4 p (K3 p hp (.inr fun e => h (.inl e))) h, (us4, zs4), .cons rfl (.cons rfl (.cons rfl .nil)), ⟨q ++ [t], by rw [List.append_assoc]; exact eq⟩, L4, F4, ez4, T4⟩
      · rintro ⟨us, zs⟩ n' kp ⟨ζ, L', F', ez, T'⟩
        have ez : zs = fieldsL ts d.F.off o := (List.append_nil zs).symm.trans ez
        have ne : ∀ p ∈ n, (p.2.cls ≠ .none ∨ p.1 ≠ 120) → ¬ (p.1 = 120 ∨ p.1 = l) := fun p hp h q => q.elim (fun e => h.elim (fun h => tab_ne o2 T2 (.tail _ (K1 p hp)) h e) fun h => h e) (Nat.ne_of_lt (lt p (K1 p hp)))
        exact .ret (.loc rfl rfl (by decide)) (ret n' l us L' (ez ▸ F') T' (fun p hp h => kp p (.tail _ (K1 p hp)) (ne p hp h)) fun p hp => Nat.ne_of_lt (lt p (K1 p hp)))
end Mine
namespace Mine
noncomputable def ToldV (n : Led) (w : Addr) (S : Sh) : Prop := ∃ p q, TV n w [.str S.cat, .int S.size, .none, .str S.us, .ref p, .ref q] ∧ TV n p [.str "trailing", .bool false, .bool false, .bool false] ∧ TV n q [.int S.dig, .int S.sc, .bool S.sg]
theorem ToldV.kt {n n' : Led} (K : Kt n n') {w : Addr} {S : Sh} (h : ToldV n w S) : ToldV n' w S := by obtain ⟨p, q, a, b, c⟩ := h; exact ⟨p, q, a.kt K, b.kt K, c.kt K⟩
noncomputable def DIn (n : Led) : List Addr → List (Int × Sh) → Prop := AIn fun a z => ∃ w, TV n a [.int z.1, .ref w] ∧ ToldV n w z.2
theorem DIn.kt {n n' : Led} (K : Kt n n') {as : List Addr} {zs : List (Int × Sh)} (h : DIn n as zs) : DIn n' as zs := AIn.mono (fun a z ⟨w, q, r⟩ => ⟨w, q.kt K, r.kt K⟩) h
theorem Kt.of {n n' : Led} (h : Kk n n') : Kt n n' := fun p hp ζ ζ => h p hp
noncomputable def mny (t : Tr) : Int := if (ap t || t.d.F.us == "index") = true then 0 else t.d.k
mutual
noncomputable def due : Tr → Int → List (Int × Sh)
  | .mk d ts, o => if isg ts = true then dueL ts o else if (d.F.nm == "FILLER") = true then [] else [(o, d.S)]
noncomputable def dueL : List Tr → Int → List (Int × Sh)
  | [], _ => []
  | t :: ts, o => rep (fun j => due t (o + j * t.d.F.sz)) (mny t).toNat 0 ++ dueL ts (nx o t)
end
structure DueI (all todo : List (Int × Sh)) (l : Addr) (us : List Addr) (zs : List (Int × Sh)) (n : Led) : Prop where
  list : LV n l (us.map .ref)
  fin : DIn n us zs
  eq : zs ++ todo = all
theorem DueI.kc {all todo zs : List (Int × Sh)} {l : Addr} {us : List Addr} {n n' : Led} (h : DueI all todo l us zs n) (K : Kc n n') : DueI all todo l us zs n' := ⟨h.list.kc K, h.fin.kt K.t, h.eq⟩
section
variable {W : Wd} {Z : St} {C : Cx W Z} {v : Env} {lm : Lm} {n n0 : Led} {x y : Vl} {e f g : PySem.Expr} {pos : Pos} {Q : Rs} {rest bd el : List Stmt} {R : Vl → Led → Prop}
theorem Vb.eqNil {RB : Bool → Led → Prop} {p2 : Pos} (hu : C.A.units < cLine) (h : Vw C v lm n e fun x n' => ∃ l xs, x = .ref l ∧ LV n' l xs ∧ ∀ n2, (Kk n' n2) → RB xs.isEmpty n2) (hb : behindInMarks .Eq (.List [] p2) = false) : Vb C v lm n (.Compare e [.Eq] [.List [] p2] pos) RB := fun m s =>
  .cmp ((h m s).mono fun u n1 q => by
    obtain ⟨ζ, hu', l, xs, rfl, ⟨us, c, hm, hus⟩, r⟩ := q
    obtain rfl : u = .ref l := hu'
    refine (Vw.nilList (R := fun x n2 => ∃ b, x = .ref b ∧ (b, listOf [].toArray 0) ∈ n2 ∧ Kk n1 n2) (fun b lt => ⟨b, rfl, .head _, fun p hp => .tail _ hp⟩) m s).mono fun w n2 q => ?_
    obtain ⟨ζ, hw, b, rfl, hb, kp⟩ := q
    obtain rfl : w = .ref b := hw
    intro σ z
    have hL := News.isList z.2 (kp _ hm)
    have hB := News.isList z.2 hb
    cases us with
    | nil =>
      cases xs with
      | nil => exact SeqAt.RcAt.lists hL hB rfl hu (e := fun ζ => true) (fun j h1 h2 => absurd h1 (by simp)) pg W.w _ _ (out (tk' := σ.toks) z ⟨true, rfl, r n2 kp⟩)
      | cons _ _ => exact hus.elim
    | cons w ws =>
      cases xs with
      | nil => exact hus.elim
      | cons _ _ => exact SeqAt.RcAt.lists_lengths hL hB (by simp) hu pg W.w _ _ (out (tk' := σ.toks) z ⟨false, rfl, r n2 kp⟩)) hb
end
section
variable {W : Wd} {n : Led} {Post : Vl → Led → Prop}
theorem stold_v {s ds : Addr} {S : Sh} (I : ShIn n s ds S) (ret : ∀ n' w, (∀ n'', (∀ p ∈ n', (∀ q ∈ n, q.1 < p.1) → p ∈ n'') → ToldV n'' w S) → (Kk n n') → (Lw n w) → Post (.ref w) n') : DoesV W 168 [.ref s] 1 n Post := by
  refine enterZ (k := 0) ["self"] [("self", .ref s)] (by intro P; k_is) (by intro P; k_is) (len1 fun a s => .of_eq rfl) rfl rfl (fun C rm => ?_) rfl rfl rfl rfl
  refine .asgW (.tup (.one (.attr sk_sign I rfl (.loc rfl rfl (by decide)) rfl) (.one (.attr sk_sep I rfl (.loc rfl rfl (by decide)) rfl) (.one (.attr sk_just I rfl (.loc rfl rfl (by decide)) rfl) (.one (.attr sk_blank I rfl (.loc rfl rfl (by decide)) rfl) (.nil ⟨Nat.le_of_ble_eq_true rfl, fun us p hu lt => ?_⟩) rfl) rfl) rfl) rfl)) rfl rfl
  have I1 : ShIn ((p, tupOf us) :: n) s ds S := I.mono (fun ζ h => .tail _ h) fun ζ h => .tail _ h
  refine .asgW (.tup (.one (.attr sk_digits I1 rfl (.loc rfl rfl (by decide)) rfl) (.one (.attr sk_scale I1 rfl (.loc rfl rfl (by decide)) rfl) (.one (.attr sk_signed I1 rfl (.loc rfl rfl (by decide)) rfl) (.nil ⟨Nat.le_of_ble_eq_true rfl, fun vs q hv lt2 => ?_⟩) rfl) rfl) rfl)) rfl rfl
  have I2 : ShIn ((q, tupOf vs) :: (p, tupOf us) :: n) s ds S := I1.mono (fun ζ h => .tail _ h) fun ζ h => .tail _ h
  refine .asg (.ifT (.cmp (.isN (.attr sk_pict I2 rfl (.loc rfl rfl (by decide)) rfl) .cnone) rfl) .cnone) ?_ rfl rfl
  refine .retW (.tup (.one (.attr sk_cat I2 rfl (.loc rfl rfl (by decide)) rfl) (.one (.attr sk_size I2 rfl (.loc rfl rfl (by decide)) rfl) (.one (.loc rfl rfl (by decide)) (.one (.attr sk_usage I2 rfl (.loc rfl rfl (by decide)) rfl) (.one (.loc rfl rfl (by decide)) (.one (.loc rfl rfl (by decide)) (.nil ⟨Nat.le_of_ble_eq_true rfl, fun ws w hw lt3 => ?_⟩) rfl) rfl) rfl) rfl) rfl) rfl))
  exact ret _ w (fun n'' k => ⟨p, q, ⟨ws, k _ (.head _) fun x hx => lt3 x (.tail _ (.tail _ hx)), hw⟩, ⟨us, k _ (.tail _ (.tail _ (.head _))) lt, hu⟩, ⟨vs, k _ (.tail _ (.head _)) fun x hx => lt2 x (.tail _ hx), hv⟩⟩) (fun p hp => .tail _ (.tail _ (.tail _ hp))) fun x hx => lt3 x (.tail _ (.tail _ hx))
end
noncomputable abbrev DueOk (W : Wd) (t : Tr) : Prop := ∀ {n : Led} {par : Vl} {o : Int} {Post : Vl → Led → Prop}, TIn n par t → (due t o).length ≤ 60000 →
    (∀ n' l us, LV n' l (us.map .ref) → DIn n' us (due t o) → (Kk n n') → Post (.ref l) n') → DoesV W 248 [.ref t.d.x, .int o] (hgt t + 3) n Post
noncomputable def dueO (x : Addr) (o : Int) (ts : List Tr) : Inv (List Tr) (Addr × Int × List Addr × List (Int × Sh)) := ⟨fun ζ => False, fun s => [("found", .ref s.1), ("offset", .int s.2.1), ("item", .ref x)], fun r s n' => (∃ q, q ++ r = ts) ∧ DueI (dueL ts o) (dueL r s.2.1) s.1 s.2.2.1 s.2.2.2 n'⟩
noncomputable def dueR (x y : Addr) (o : Int) (all rest : List (Int × Sh)) (g : Nat → List (Int × Sh)) (k : Nat) : Inv Nat (Addr × List Addr × List (Int × Sh)) := ⟨fun ζ => False, fun s => [("found", .ref s.1), ("kid", .ref y), ("offset", .int o), ("item", .ref x)], fun i s => DueI all (rep g (k - i) i ++ rest) s.1 s.2.1 s.2.2⟩
theorem due_v {W : Wd} (t : Tr) : DueOk W t := by
  induction t using Tr.rec (motive_2 := fun ts => ∀ t ∈ ts, DueOk W t) with
  | nil => rename_i t h; exact nomatch h
  | cons t r h1 h2 =>
    rename_i u h
    rcases List.mem_cons.mp h with rfl | h
    · exact h1
    · exact h2 u h
  | mk d ts ih =>
    intro n par o Post hT hl ret
    refine enterZ (k := hgtL ts + 3) ["item", "offset"] [("offset", .int o), ("item", .ref d.x)] (by intro P; k_is) (by intro P; k_is) (len2 fun a b s => .of_eq rfl) rfl rfl (fun C rm => ?_) rfl rfl rfl rfl
    have hts : ts.length ≤ 3 := by have := hT.1.kn; rw [List.length_map] at this; exact this
    refine .iteV (.eqNil rm.u (.compV (fun t => .ref t.d.x) ts (fun t => t.d.F.lv != 66) (fun t => .ref t.d.x) (.attr fk_kids hT.1.it rfl (.loc rfl rfl (by decide)) rfl) hT.1.kl (Nat.le_trans hts (by decide)) (fun t ht N D kp own => ⟨.cmp (.neI (.attr fk_level ((hT.2.all t ht).n.it.mono (fun ζ h => kp _ h) fun ζ h => kp _ h) rfl own rfl) .int) rfl, fun ζ => own⟩)
      (fun E n0 LE ζ kp => ⟨E, _, rfl, LE, fun n1 k2 => ?_⟩) rfl rfl rfl rfl rfl rfl rfl (by decide) (fun ζ => rfl)) rfl)
    have K1 : Kk n n1 := fun p hp => k2 p (kp p hp)
    rw [show (((ts.filter fun t => t.d.F.lv != 66).map fun t => Vl.ref t.d.x).isEmpty) = !isg ts from by rw [List.isEmpty_map, isg, Bool.not_not]]
    have hT1 : TIn n1 par (.mk d ts) := TIn.kt (.of K1) _ _ hT
    refine ⟨fun hg => ?_, fun hg => ?_⟩
    · have e : due (.mk d ts) o = if (d.F.nm == "FILLER") = true then [] else [(o, d.S)] := if_neg (by rw [Bool.not_eq_true'] at hg; rw [hg]; exact Bool.false_ne_true)
      rw [e] at ret
      refine .retW (.ife (.cmp (.eqS (.attr fk_name hT1.1.it rfl (.loc rfl rfl (by decide)) rfl) .str) rfl) (fun h => .nilList fun l lt => ?_) fun h => .list (.cons (.tup (.one (.loc rfl rfl (by decide)) (.cons (.me0 mk_told (rm.le (le_r (by decide))) (.attr fk_shape hT1.1.it (congrArg some hT1.1.sh) (.loc rfl rfl (by decide)) rfl) hT1.1.sI rfl (stold_v hT1.1.sI fun n2 w w2 K2 ζ => .nil ⟨Nat.le_of_ble_eq_true rfl, fun us t hu lt => .nil fun vs l hv => ⟨by rw [hv.length]; exact Nat.le_of_ble_eq_true rfl, fun lt2 => ?_⟩⟩) rfl) rfl) rfl)) rfl))
      · rw [if_pos (show (d.F.nm == "FILLER") = true from h)] at ret
        exact ret _ l [] ⟨[], 0, .head _, trivial⟩ trivial fun p hp => .tail _ (K1 p hp)
      · rw [if_neg (by rw [show (d.F.nm == "FILLER") = false from h]; exact Bool.false_ne_true)] at ret
        exact ret _ l [t] ⟨vs, 0, .head _, hv⟩ ⟨⟨w, ⟨us, .tail _ (.head _), hu⟩, (w2 n2 fun ζ h ζ => h).kt (.of fun p hp => .tail _ (.tail _ hp))⟩, trivial⟩ fun p hp => .tail _ (.tail _ (K2 p (K1 p hp)))
    · have hg : isg ts = true := by rw [Bool.not_eq_false'] at hg; exact hg
      have e : due (.mk d ts) o = dueL ts o := if_pos hg
      rw [e] at ret hl
      refine .nil (.asgW (.nilList fun l lt => ?_) rfl rfl)
      have K2 : ∀ p ∈ n, p ∈ (l, listOf [].toArray 0) :: n1 := fun p hp => .tail _ (K1 p hp)
      refine .forL goN ((Ev.attr fk_kids (hT.1.it.kt (.of K2)) rfl (.loc rfl rfl (by decide)) rfl).w (.mk (I := dueO d.x o ts) (hT.1.kl.kt (.of K2)) ⟨fun b hb => hb.elim, fun ζ ζ ζ ζ h kc => ⟨h.1, h.2.kc kc⟩, ⟨(l, o, [], []), .cons rfl (.cons rfl (.cons rfl .nil)), ⟨[], rfl⟩, ⟨[], 0, .head _, trivial⟩, trivial, rfl⟩, ?_, ?_⟩)) (fun ζ => rfl)
      · rintro t r ⟨l', o', us, zs⟩ n' ζ kp ⟨⟨q, eq⟩, L', F', ez⟩
        have htm : t ∈ ts := eq ▸ List.mem_append_right _ (.head _)
        have K' : Kt n n' := .of fun p hp => kp p (K2 p hp) id
        have ht : TIn n' (.ref d.x) t := TIn.kt K' t _ (hT.2.all t htm)
        have hgt := hgt_le t htm
        have ez : zs ++ (rep (fun j => due t (o' + j * t.d.F.sz)) (mny t).toNat 0 ++ dueL r (nx o' t)) = dueL ts o := ez
        have apt : ∀ {n' : Led} {lm : Lm}, TIn n' (.ref d.x) t → lm.lookup ("kid" : Str) = some (.ref t.d.x) → ∀ {p1 p2 p3 : Pos}, Ev C C.env lm n' (.Call (.Name "_law_is_apart" p1) [.Name "kid" p2] [] p3) (.bool (ap t)) := fun {ζ ζ} ht h {ζ ζ ζ} => Vw.ev (.fn k231 (rm.le (le_r (by decide))) (.glob g_apart rfl rfl (by decide)) (.one (.loc h rfl (by decide)) (.nil (apart_v ht.n.it ⟨rfl, rfl⟩)) rfl) rfl rfl rfl)
        refine .name (.asg (x := .int (mny t)) (.ite (.or2 (.val (apt ht rfl) (fun ζ => rfl)) (.cmp (.eqS (.attr fk_usage ht.n.it rfl (.loc rfl rfl (by decide)) rfl) .str) rfl)) (fun h => ?_) fun h => ?_) ?_ rfl rfl) rfl
        · exact Ev.int.to (congrArg Vl.int (if_pos h).symm)
        · exact (Ev.cnt ht.n.it ht.n.oc (.loc rfl rfl (by decide)) (.loc rfl rfl (by decide)) rfl rfl rfl).to (congrArg Vl.int (if_neg (by rw [show (ap t || t.d.F.us == "index") = false from h]; exact Bool.false_ne_true)).symm)
        have hm : 0 ≤ mny t ∧ mny t ≤ 3 := by
          have h0 := ht.n.k0
          have h1 := ht.n.k1
          unfold mny
          split
          · exact ⟨Int.le_refl _, by decide⟩
          · exact ⟨k_pos h0, h1⟩
        have hK : (((mny t).toNat : Nat) : Int) = mny t := Int.toNat_of_nonneg hm.1
        refine .forR (fun ζ ζ r => .blt n_range b_range (by decide) r)
          (Ev.w (.loc rfl rfl (by decide)) (.mk (k := (mny t).toNat) (I := dueR d.x t.d.x o' (dueL ts o) (dueL r (nx o' t)) (fun j => due t (o' + j * t.d.F.sz)) (mny t).toNat) (by rw [hK]) (toNat3 hm.2) ⟨fun b hb => hb.elim, fun ζ ζ ζ ζ h kc => h.kc kc, ⟨(l', us, zs), .cons rfl (.cons rfl (.cons rfl (.cons rfl .nil))), L', F', ez⟩, ?_, ?_⟩)) rfl rfl rfl rfl (fun ζ => rfl)
        · rintro i ⟨l4, us4, zs4⟩ n4 hi ζ kp4 ⟨L4, F4, ez4⟩
          have F4 : DIn n4 us4 zs4 := F4
          have ez4 : zs4 ++ (rep (fun j => due t (o' + j * t.d.F.sz)) ((mny t).toNat - i) i ++ dueL r (nx o' t)) = dueL ts o := ez4
          have ht4 : TIn n4 (.ref d.x) t := TIn.kt (.of fun p hp => kp4 p hp id) t _ ht
          rw [rep_step _ hi, List.append_assoc] at ez4
          have hlen := congrArg List.length ez4
          rw [List.length_append, List.length_append] at hlen
          refine .asgW (.catV (Ev.w (.loc rfl rfl (by decide)) ⟨l4, _, rfl, .fn k248 (rm.le (Nat.add_le_add_right hgt 3)) (.glob g_due rfl rfl (by decide)) (.one (.loc rfl rfl (by decide)) (.one (.add (.loc rfl rfl (by decide)) (.mul (.loc rfl rfl (by decide)) (.attr fk_size ht4.n.it rfl (.loc rfl rfl (by decide)) rfl) (Int.natCast_nonneg i) (idx_lt hi hm.2))) (.nil (ih t htm ht4 (by exact mid_le hlen hl) fun n5 l5 us5 L5 F5 K5 => ⟨l5, _, rfl, L4.kt (.of K5), L5, ?_, fun D n6 lt6 L6 K6 => ?_⟩)) rfl) rfl) rfl rfl rfl⟩)) rfl rfl
          · rw [List.length_map, List.length_map, AIn.len F4, AIn.len F5]; exact fst_le hlen hl
          · refine .nil ⟨fun p hp ζ => K6 p (K5 p hp), (D, us4 ++ us5, zs4 ++ _), .cons rfl (.cons rfl (.cons rfl (.cons rfl .nil))), ?_, AIn.app (F4.kt (.of fun p hp => K6 p (K5 p hp))) (F5.kt (.of K6)), ?_⟩
            · show LV n6 D ((us4 ++ us5).map .ref)
              rw [List.map_append]; exact L6
            · exact (List.append_assoc ..).trans ez4
        · rintro ⟨l4, us4, zs4⟩ n4 kp4 ⟨L4, F4, ez4⟩
          have ez4 : zs4 ++ (rep (fun j => due t (o' + j * t.d.F.sz)) ((mny t).toNat - (mny t).toNat) (mny t).toNat ++ dueL r (nx o' t)) = dueL ts o := ez4
          rw [Nat.sub_self] at ez4
          have ez4 : zs4 ++ dueL r (nx o' t) = dueL ts o := ez4
          have ht4 : TIn n4 (.ref d.x) t := TIn.kt (.of fun p hp => kp4 p hp id) t _ ht
          have eq2 : (q ++ [t]) ++ r = ts := by rw [List.append_assoc]; exact eq
          refine .ite (.not (.val (apt ht4 rfl) (fun ζ => rfl))) (fun h => ?_) fun h => ?_
          · have h : ap t = false := by rw [Bool.not_eq_true'] at h; exact h
            rw [nx, if_neg (by rw [h]; exact Bool.false_ne_true)] at ez4
            exact .asg (.add (.loc rfl rfl (by decide)) (.mulR (.attr fk_size ht4.n.it rfl (.loc rfl rfl (by decide)) rfl) (.cnt ht4.n.it ht4.n.oc (.loc rfl rfl (by decide)) (.loc rfl rfl (by decide)) rfl rfl rfl) (k_pos ht4.n.k0) (k_small ht4.n.k1))) (.nil (.nil ⟨fun p hp h => kp4 p hp h, (l4, _, us4, zs4), .cons rfl (.cons rfl (.cons rfl .nil)), ⟨_, eq2⟩, L4, F4, ez4⟩)) rfl rfl
          · have h : ap t = true := by rw [Bool.not_eq_false'] at h; exact h
            rw [nx, if_pos h] at ez4
            exact .nil (.nil ⟨fun p hp h => kp4 p hp h, (l4, _, us4, zs4), .cons rfl (.cons rfl (.cons rfl .nil)), ⟨_, eq2⟩, L4, F4, ez4⟩)
      · rintro ⟨l', o', us, zs⟩ n' kp ⟨ζ, L', F', ez⟩
        have ez : zs = dueL ts o := (List.append_nil zs).symm.trans ez
        exact .ret (.loc rfl rfl (by decide)) (ret n' l' us L' (ez ▸ F') fun p hp => kp p (K2 p hp) id)
end Mine
namespace Mine
noncomputable abbrev mp : List Fd → List (Int × Sh) := List.map fun z => (z.1, z.2.2)
theorem rep_map {f : Nat → List Fd} {g : Nat → List (Int × Sh)} (h : ∀ i, mp (f i) = g i) : ∀ m i, mp (rep f m i) = rep g m i
  | 0, _ => rfl
  | m + 1, i => by
    show mp (f i ++ rep f m (i + 1)) = g i ++ rep g m (i + 1)
    rw [mp, List.map_append]
    exact congr (congrArg _ (h i)) (rep_map h m (i + 1))
theorem nx_lay (o b p : Int) (t : Tr) : nx (o + p - b) (lay p t) = o + nx p t - b := by
  unfold nx
  rw [ap_lay, lay_d]
  split
  · rfl
  · show o + p - b + t.d.F.sz * t.d.k = o + (p + t.d.F.sz * t.d.k) - b
    rw [← Int.add_assoc, Int.sub_eq_add_neg, Int.sub_eq_add_neg, Int.add_right_comm]
theorem plain (t : Tr) : ∀ p o, mp (fields (lay p t) o false) = due (lay p t) o := by
  induction t using Tr.rec (motive_2 := fun ts => ∀ p b o, mp (fieldsL (layL p ts) b o) = dueL (layL p ts) (o + p - b)) with
  | mk d ts ih =>
    intro p o
    show mp (if isg (layL p ts) = true then fieldsL (layL p ts) p o else if (d.F.nm == "FILLER" && true) = true then [] else [(o, d.s, d.S)]) = if isg (layL p ts) = true then dueL (layL p ts) o else if (d.F.nm == "FILLER") = true then [] else [(o, d.S)]
    rw [Bool.and_true]
    split
    · rw [ih p p o, show o + p - p = o from by omega]
    · split <;> rfl
  | nil => rfl
  | cons t r h1 h2 =>
    rename_i p b o
    show mp ((if pas (lay p t).d.F = true then [] else rep (fun j => fields (lay p t) (o + (lay p t).d.F.off - b + j * (lay p t).d.F.sz) false) (lay p t).d.k.toNat 0) ++ fieldsL (layL (nx p t) r) b o) = rep (fun j => due (lay p t) (o + p - b + j * (lay p t).d.F.sz)) (mny (lay p t)).toNat 0 ++ dueL (layL (nx p t) r) (nx (o + p - b) (lay p t))
    rw [mp, List.map_append, nx_lay]
    refine congr (congrArg _ ?_) (h2 _ _ _)
    have e : (ap (lay p t) || (lay p t).d.F.us == "index") = pas (lay p t).d.F := rfl
    unfold mny
    rw [e]
    split
    · rfl
    · rw [lay_d]
      exact rep_map (fun i => h1 _ _) _ _
theorem plain_goal (d : Nd) (ts : List Tr) (p o : Int) (h : (d.F.nm == "FILLER") = false) : mp (fields (lay p (.mk d ts)) o true) = due (lay p (.mk d ts)) o := by
  rw [← plain (.mk d ts) p o]
  show mp (if isg (layL p ts) = true then fieldsL (layL p ts) p o else if (d.F.nm == "FILLER" && false) = true then [] else [(o, d.s, d.S)]) = mp (if isg (layL p ts) = true then fieldsL (layL p ts) p o else if (d.F.nm == "FILLER" && true) = true then [] else [(o, d.s, d.S)])
  rw [h]
  rfl
theorem rep_len {f : Nat → List Fd} {c : Nat} (h : ∀ i, (f i).length ≤ c) : ∀ m i, (rep f m i).length ≤ m * c
  | 0, _ => Nat.zero_le _
  | m + 1, i => by
    show (f i ++ rep f m (i + 1)).length ≤ _
    rw [List.length_append, Nat.succ_mul, Nat.add_comm]
    exact Nat.add_le_add (rep_len h m _) (h i)
theorem fields_len {n : Led} (t : Tr) : ∀ par o g, TIn n par t → (fields t o g).length ≤ 9 ^ hgt t := by
  induction t using Tr.rec (motive_2 := fun ts => ∀ par b o, KIn n par ts → (fieldsL ts b o).length ≤ ts.length * (3 * 9 ^ hgtL ts)) with
  | mk d ts ih =>
    intro par o g hT
    have hts : ts.length ≤ 3 := by have := hT.1.kn; rw [List.length_map] at this; exact this
    have h1 : 1 ≤ 9 ^ (hgtL ts + 1) := Nat.one_le_pow _ _ (by decide)
    show (if isg ts = true then fieldsL ts d.F.off o else if (d.F.nm == "FILLER" && !g) = true then [] else [(o, d.s, d.S)]).length ≤ 9 ^ (hgtL ts + 1)
    split
    · refine Nat.le_trans (ih _ _ _ hT.2) (Nat.le_trans (Nat.mul_le_mul_right _ hts) ?_)
      rw [Nat.pow_succ, ← Nat.mul_assoc, Nat.mul_comm]
      exact Nat.le_refl _
    · split
      · exact Nat.zero_le _
      · exact h1
  | nil => exact Nat.zero_le _
  | cons t r h1 h2 =>
    rename_i par b o h
    show ((if pas t.d.F = true then [] else rep (fun j => fields t (o + t.d.F.off - b + j * t.d.F.sz) false) t.d.k.toNat 0) ++ fieldsL r b o).length ≤ (r.length + 1) * (3 * 9 ^ max (hgt t) (hgtL r))
    have a := Nat.le_trans (h2 par b o h.2) (Nat.mul_le_mul_left r.length (Nat.mul_le_mul_left 3 (Nat.pow_le_pow_right (by decide) (Nat.le_max_right (hgt t) (hgtL r)))))
    rw [List.length_append, Nat.succ_mul, Nat.add_comm]
    refine Nat.add_le_add a ?_
    split
    · exact Nat.zero_le _
    · refine Nat.le_trans (rep_len (fun i => h1 par _ _ h.1) _ _) (Nat.mul_le_mul ?_ (Nat.pow_le_pow_right (by decide) (Nat.le_max_left _ _)))
      have := h.1.n.k1
      omega
end Mine
namespace Mine
section
variable {W : Wd} {Z : St} {C : Cx W Z} {v : Env} {lm : Lm} {n n0 : Led} {x y : Vl} {e f g : PySem.Expr} {pos : Pos} {Q : Rs} {rest bd el : List Stmt} {R : Vl → Led → Prop} {m : Loc}
theorem Store.wt {o : PySem.Expr} {at' : Str} {p : Pos} {R : Led → Prop} {u : Value} (h : Store C lm o at' R x n) (hx : x.is u) (s : Sat m lm) : Wt C m n (assign (.Attribute o at' p) C.env u) fun ζ n' => R n' := fun σ y => by
  rw [assign_Attribute]
  exact wpAny_bind (wpAny_holding ((h.put hx s).go y fun w n1 h1 tk1 y1 q => wpAny_bind (wpAny_standAt (wpAny_bind (wpAny_holding (q.go y1 fun ζ n2 h2 tk2 y2 r => wpAny_release (out y2 r)))))))
noncomputable def SetAll (C : Cx W Z) (lm : Lm) (R : Led → Prop) : List PySem.Expr → List Vl → Led → Prop
  | [], [], n => R n
  | t :: ts, x :: xs, n => ∃ o at' p, t = .Attribute o at' p ∧ Store C lm o at' (SetAll C lm R ts xs) x n
  | _, _, _ => False
theorem SetAll.wt {R : Led → Prop} : ∀ {ts : List PySem.Expr} {xs : List Vl} {us : List Value} {n : Led}, SetAll C lm R ts xs n → IsAll xs us → Sat m lm → Wt C m n (assignInOrder ((assignEach ts C.env).map (·.2)) us) fun ζ n' => R n'
  | [], [], [], _, h, _, _ => fun σ y => wpAny_pure (out (tk' := σ.toks) y h)
  | [], _ :: _, _, _, h, _, _ => h.elim
  | _ :: _, [], _, _, h, _, _ => h.elim
  | _, _ :: _, [], _, _, q, _ => q.elim
  | _, [], _ :: _, _, _, q, _ => q.elim
  | t :: ts, x :: xs, u :: us, n, h, q, s => fun σ y => by
    obtain ⟨o, at', p, rfl, h⟩ := h
    show wpAny _ _ (do holding us (assign (.Attribute o at' p) C.env u); assignInOrder ((assignEach ts C.env).map (·.2)) us) _ _ _
    exact wpAny_bind (wpAny_holding ((h.wt q.1 s).go y fun ζ n2 h2 tk2 y2 r => (SetAll.wt r q.2 s).at y2))
theorem Sv.tupA {ts : List PySem.Expr} {k : Nat} {tp : Pos} (h : Vw C C.env lm n e fun x n1 => ∃ t xs, x = .ref t ∧ TV n1 t xs ∧ (assignEach ts C.env).length = xs.length ∧ SetAll C lm (fun n' => Sv C lm n' rest Q) ts xs n1)
    (hs : swapsWithSole [.Tuple ts k tp] e pos.line C.env = Pure.pure false) (hw : swappedStores [.Tuple ts k tp] e C.env = Pure.pure none) (hst : (assignEach ts C.env).findIdx? (·.1) = none) : Sv C lm n (.Assign [.Tuple ts k tp] e pos :: rest) Q := fun m s σ y =>
  wpAny_execs_cons (Assign_Tuple ((h m s).go y fun u n1 h1 tk1 y1 q => by
    obtain ⟨ζ, hu, t, xs, rfl, ⟨us, hm, hus⟩, hl, q⟩ := q
    obtain rfl : u = .ref t := hu
    refine unpackN_ (items := us.toArray) y1.1 y1.2 (News.isTup y1.2 hm) C.hh (by rw [hl, List.size_toArray, hus.length]) hst fun h2 F2 N2 => ?_
    exact (SetAll.wt q hus s).go (s := { σ with heap := h2, toks := tk1 }) ⟨F2, N2⟩ fun ζ n3 h3 tk3 y3 r => Ws.at (r m s) y3) hs hw)
theorem Sv.tup2 {k : Nat} {tp p1 p2 : Pos} {y1 y2 : Str} (h : Vw C C.env lm n e fun x n1 => ∃ t x1 x2, x = .ref t ∧ TV n1 t [x1, x2] ∧ Sv C ((y1, x1) :: (y2, x2) :: lm) n1 rest Q)
    (h1 : (Z.env 0).kindOf y1 = some .local) (h2 : (Z.env 0).kindOf y2 = some .local)
    (hs : swapsWithSole [.Tuple [.Name y1 p1, .Name y2 p2] k tp] e pos.line C.env = Pure.pure false) (hw : swappedStores [.Tuple [.Name y1 p1, .Name y2 p2] k tp] e C.env = Pure.pure (some [y1, y2])) : Sv C lm n (.Assign [.Tuple [.Name y1 p1, .Name y2 p2] k tp] e pos :: rest) Q := fun m s σ y =>
  wpAny_execs_cons (Assign_Tuple_swapped ((h m s).go y fun u n1 h1' tk1 z1 q => by
    obtain ⟨ζ, hu, t, x1, x2, rfl, ⟨us, hm, hus⟩, q⟩ := q
    obtain rfl : u = .ref t := hu
    obtain ⟨u1, u2, rfl, q1, q2⟩ := hus.two
    refine unpackItemsN_ (items := #[u1, u2]) z1.1 z1.2 (News.isTup z1.2 hm) C.hh rfl fun h2' F2 N2 => ?_
    show wpAny _ _ (do holding [u1] (bindName C.env y2 u2); holding [] (bindName C.env y1 u1); Pure.pure ()) _ _ _
    refine wpAny_bind (wpAny_holding (bindName_ (storeX_L F2 N2 (fun h3 F3 N3 => ?_) C.hk h2)))
    refine wpAny_bind (wpAny_holding (bindName_ (storeX_L F3 N3 (fun h4 F4 N4 => ?_) C.hk h1)))
    refine wpAny_pure ?_
    exact Ws.at (tk' := _) (q _ ((s.put q2).put q1)) ⟨F4, N4⟩) hs hw)
end
end Mine
namespace Mine
theorem lksL_app : ∀ xs ys : List Tr, lksL (xs ++ ys) = lksL xs ++ lksL ys
  | [], _ => rfl
  | x :: xs, ys => by
    show lks x ++ lksL (xs ++ ys) = (lks x ++ lksL xs) ++ lksL ys
    rw [lksL_app, List.append_assoc]
theorem hgtL_app : ∀ {xs : List Tr} {t : Tr} {h : Nat}, hgtL xs ≤ h → hgt t ≤ h → hgtL (xs ++ [t]) ≤ h
  | [], _, _, _, k => Nat.max_le.mpr ⟨k, Nat.zero_le _⟩
  | _ :: _, _, _, h, k => Nat.max_le.mpr ⟨(Nat.max_le.mp h).1, hgtL_app (Nat.max_le.mp h).2 k⟩
structure Bld (n : Led) (x dx : Addr) (F : It) (pl : Addr) (ns : List Int) (ts : List Tr) : Prop where
  it : ItIn n x dx F
  kl : LV n F.kl (refs ts)
  kids : KIn n (.ref x) ts
  pool : Pool n pl ns
  hz : ns.length ≤ 24
  plk : pl < F.kl
  nd : (dcsL ts).Nodup
  ab : ∀ a, a ∈ dcsL ts ∨ a ∈ lksL ts → pl < a ∧ F.kl < a ∧ dx < a
structure Grw (n0 n : Led) (pl : Addr) (ns : List Int) (t : Tr) (h : Nat) : Prop where
  tr : TIn n .none t
  hg : hgt t ≤ h
  pool : Pool n pl ns
  hz : ns.length ≤ 24
  nd : (dcs t).Nodup
  ab : ∀ a, a ∈ dcs t ∨ a ∈ lks t → ∀ p ∈ n0, p.1 < a
  keep : Kl pl n0 n
theorem Bld.kc {n n' : Led} {x dx pl : Addr} {F : It} {ns : List Int} {ts : List Tr} (B : Bld n x dx F pl ns ts) (K : Kc n n') : Bld n' x dx F pl ns ts :=
  ⟨B.it.kc K, B.kl.kc K, B.kids.kt K.t, B.pool.kc K, B.hz, B.plk, B.nd, B.ab⟩
theorem Ob.here {n : Led} {x c dx : Addr} {fs : Fds} {b : Nat} (O : Ob n x c dx fs b) : ∃ o, (dx, o) ∈ n := by obtain ⟨ζ, ζ, h, ζ⟩ := O.2; exact ⟨_, h⟩
theorem LV.here {n : Led} {l : Addr} {xs : List Vl} (L : LV n l xs) : ∃ o, (l, o) ∈ n := by obtain ⟨ζ, ζ, h, ζ⟩ := L; exact ⟨_, h⟩
theorem Bld.step1 {n n2 : Led} {x dx pl : Addr} {F : It} {ns ns' : List Int} {ts : List Tr} (one : One n) (B : Bld n x dx F pl ns ts) (P : Pool n2 pl ns') (hz : ns'.length ≤ 24) (K : Kl pl n n2) : Bld n2 x dx F pl ns' ts :=
  ⟨B.it.offL one B.pool K, B.kl.mono fun ζ h => K _ h (Nat.ne_of_gt B.plk), B.kids.off one (M := (· = pl)) (fun b hb => .inr ⟨_, (show b = pl from hb) ▸ B.pool⟩) K (fun a ha => Nat.ne_of_gt (B.ab a (.inl ha)).1) fun a ha => Nat.ne_of_gt (B.ab a (.inr ha)).1, P, hz, B.plk, B.nd, B.ab⟩
theorem Grw.far {n n2 : Led} {x dx pl : Addr} {F : It} {ns ns' : List Int} {ts : List Tr} {t : Tr} {h : Nat} (G : Grw n n2 pl ns' t h) (B1 : Bld n x dx F pl ns ts) : (∀ a, a ∈ dcs t ∨ a ∈ lks t → pl < a ∧ F.kl < a ∧ dx < a) ∧ ∀ a ∈ dcsL ts, ∀ b ∈ dcs t, a ≠ b :=
  ⟨fun a ha => ⟨let ⟨_, p⟩ := B1.pool.here; G.ab a ha _ p, let ⟨_, p⟩ := B1.kl.here; G.ab a ha _ p, let ⟨_, p⟩ := B1.it.here; G.ab a ha _ p⟩,
    fun a ha b hb => let ⟨_, _, I⟩ := B1.kids.hD a ha; let ⟨_, p⟩ := I.here; Nat.ne_of_lt (G.ab b (.inl hb) _ p)⟩
theorem Bld.step2 {n2 n3 : Led} {x dx pl : Addr} {F : It} {ns' : List Int} {ts us : List Tr} {d : Nd} (one : One n2) (B : Bld n2 x dx F pl ns' ts) (hT : TIn n2 .none (.mk d us)) (nd : (dcs (.mk d us)).Nodup)
    (far : (∀ a, a ∈ dcs (.mk d us) ∨ a ∈ lks (.mk d us) → pl < a ∧ F.kl < a ∧ dx < a) ∧ ∀ a ∈ dcsL ts, ∀ b ∈ dcs (.mk d us), a ≠ b) (J : ItIn n3 x dx F) (Jt : ItIn n3 d.x d.dx { d.F with par := .ref x }) (L : LV n3 F.kl (refs ts ++ [.ref d.x]))
    (K : ∀ p ∈ n2, p.1 ≠ d.dx → p.1 ≠ F.kl → p ∈ n3) : Bld n3 x dx F pl ns' (ts ++ [.mk { d with F := { d.F with par := .ref x } } us]) := by
  have hM : Tch n2 (fun b => b = d.dx ∨ b = F.kl) := fun b hb => hb.elim (fun e => .inl ⟨_, _, e ▸ hT.1.it⟩) fun e => .inr ⟨_, e ▸ B.kl⟩
  have K' : ∀ p ∈ n2, ¬ (p.1 = d.dx ∨ p.1 = F.kl) → p ∈ n3 := fun p hp h => K p hp (fun e => h (.inl e)) fun e => h (.inr e)
  obtain ⟨gab, dj⟩ := far
  have g0 := gab d.dx (.inl (.head _))
  obtain ⟨ndx, ndu⟩ := List.nodup_cons.mp nd
  have cl : ∀ {a : Addr}, (∃ ys, LV n2 a ys) → a ≠ d.dx := fun ⟨_, _, _, p, _⟩ e => let ⟨_, _, r, _⟩ := hT.1.it.2; one.dl r p e.symm
  refine ⟨J, ?_, ?_, B.pool.mono fun ζ h => K _ h (Nat.ne_of_lt g0.1) (Nat.ne_of_lt B.plk), B.hz, B.plk, ?_, ?_⟩
  · rw [refs, List.map_append]; exact L
  · exact KIn.app (B.kids.off one hM K' (fun a ha q => q.elim (dj a ha _ (.head _)) (Nat.ne_of_gt (B.ab a (.inl ha)).2.1)) fun a ha q => q.elim (cl (B.kids.hL a ha)) (Nat.ne_of_gt (B.ab a (.inr ha)).2.1))
      ⟨⟨⟨Jt, rfl, hT.1.sh, Ob.offs one hM K' hT.1.sI rfl, OcIn.offs one hM K' hT.1.oc, hT.1.kl.mono fun ζ h => K' _ h fun q => q.elim (cl ⟨_, hT.1.kl⟩) (Nat.ne_of_gt (gab d.F.kl (.inr (.head _))).2.1), hT.1.k0, hT.1.k1, hT.1.us, hT.1.kn⟩,
        hT.2.off one hM K' (fun a ha q => q.elim (fun e => ndx (e ▸ ha)) (Nat.ne_of_gt (gab a (.inl (.tail _ ha))).2.1)) fun a ha q => q.elim (cl (hT.2.hL a ha)) (Nat.ne_of_gt (gab a (.inr (.tail _ ha))).2.1)⟩, trivial⟩
  · rw [dcsL_app]
    refine List.nodup_append.mpr ⟨B.nd, ?_, fun a ha b hb e => ?_⟩
    · show (d.dx :: dcsL us ++ []).Nodup
      rw [List.append_nil]
      exact nd
    · have hb : b ∈ dcs (.mk d us) ++ [] := hb
      rw [List.append_nil] at hb
      exact dj a ha b hb e
  · intro a ha
    rw [dcsL_app, lksL_app] at ha
    rcases ha with ha | ha
    · rcases List.mem_append.mp ha with ha | ha
      · exact B.ab a (.inl ha)
      · have ha : a ∈ dcs (.mk d us) ++ [] := ha
        rw [List.append_nil] at ha
        exact gab a (.inl ha)
    · rcases List.mem_append.mp ha with ha | ha
      · exact B.ab a (.inr ha)
      · have ha : a ∈ lks (.mk d us) ++ [] := ha
        rw [List.append_nil] at ha
        exact gab a (.inr ha)
section
variable {W : Wd} {Z : St} {C : Cx W Z} {v : Env} {lm : Lm} {n n0 : Led} {x y : Vl} {e f g : PySem.Expr} {pos : Pos} {Q : Rs} {rest bd el : List Stmt} {R : Vl → Led → Prop} {m : Loc}
theorem Sv.mono {N' : Lm → Led → Prop} (h : Sv C lm n bd ⟨Q.ret, N', Q.cnt⟩) (k : ∀ lm n, N' lm n → Q.nxt lm n) : Sv C lm n bd Q := fun m s => (h m s).mono fun fl m' n' q => by
  cases fl with
  | next => exact q.elim fun lm q => ⟨lm, q.1, k _ _ q.2⟩
  | _ => exact q
noncomputable abbrev Jn {σ : Type} (f : σ → Lm) (J : σ → Led → Prop) : Lm → Led → Prop := fun lm n => ∃ s, Sub lm (f s) ∧ J s n
theorem Sv.iteJ {σ : Type} (f : σ → Lm) (J : σ → Led → Prop) (h : Vb C C.env lm n e fun c n1 => (c = true → Sv C lm n1 bd ⟨Q.ret, Jn f J, Q.cnt⟩) ∧ (c = false → Sv C lm n1 el ⟨Q.ret, Jn f J, Q.cnt⟩)) (tail : ∀ s n, J s n → Sv C (f s) n rest Q) : Sv C lm n (.If e bd el pos :: rest) Q :=
  .iteV fun m s => (h m s).mono fun c n1 q => ⟨fun e => (q.1 e).mono (Q := Q.then C rest) fun lm n h => h.elim fun s h => .sub h.1 (tail s n h.2), fun e => (q.2 e).mono (Q := Q.then C rest) fun lm n h => h.elim fun s h => .sub h.1 (tail s n h.2)⟩
theorem Vb.mono {R R' : Bool → Led → Prop} (h : Vb C v lm n e R) (k : ∀ c n', R c n' → R' c n') : Vb C v lm n e R' := fun m s => (h m s).mono k
theorem Vb.and2V {R : Bool → Led → Prop} {b : Bool} (h : Eb C v lm n e b) (k : b = true → Vb C v lm n f R) (l : b = false → R false n) : Vb C v lm n (.BoolOp .And [e, f] pos) R := fun m s => .and2 ((h m s).mono fun d n' q => by
  obtain ⟨rfl, rfl⟩ := q
  cases d with
  | true => rw [if_pos rfl]; exact k rfl m s
  | false => rw [if_neg Bool.false_ne_true]; exact l rfl)
theorem Vb.eqI {R : Bool → Led → Prop} {j : Int} {k : Nat} {p : Pos} (h : Vw C v lm n e fun x n' => ∃ i, x = .int i ∧ R (i == j) n') (hb : behindInMarks .Eq (.Constant (.int j) k p) = false) : Vb C v lm n (.Compare e [.Eq] [.Constant (.int j) k p] pos) R := fun m s =>
  .cmp ((h m s).mono fun u n' ⟨_, hu, w, e, r⟩ => by
    subst e
    obtain ⟨tk, rfl⟩ := hu
    exact .cint fun tk => .eqI ⟨_, rfl, r⟩) hb
end
end Mine
namespace Mine
theorem one3 : (1 : Int) ≤ 3 := by decide
theorem grw_leaf {n n' : Led} {pl x dx cd kl s ds : Addr} {ns : List Int} {nm cat : Str} {z : Int} (lt : ∀ p ∈ n, p.1 < dx ∧ p.1 < x ∧ p.1 < kl) (I : ItIn n' x dx ⟨5, nm, "", "", .none, .none, 0, z, .ref s, cd, kl⟩) (L : LV n' kl []) (S : ShIn n' s ds ⟨cat, z, "display", 0, 0, false⟩) (P : Pool n' pl ns) (hz : ns.length ≤ 24) (K : Kl pl n n') (h : Nat) :
    Grw n n' pl ns (.mk ⟨x, dx, s, ds, ⟨5, nm, "", "", .none, .none, 0, z, .ref s, cd, kl⟩, ⟨cat, z, "display", 0, 0, false⟩, 1⟩ []) (h + 1) :=
  ⟨⟨⟨I, rfl, rfl, S, .inl ⟨rfl, rfl⟩, L, Int.le_refl 1, one3, fun e => absurd rfl e, Nat.zero_le 3⟩, trivial⟩, Nat.succ_le_succ (Nat.zero_le h), P, hz, List.nodup_cons.mpr ⟨List.not_mem_nil, List.nodup_nil⟩, fun a ha p hp => ha.elim (fun ha => (List.mem_singleton.mp ha) ▸ (lt p hp).1) fun ha => (List.mem_singleton.mp ha) ▸ (lt p hp).2.2, K⟩
theorem grw_group {n n1 n2 : Led} {pl x dx s ds : Addr} {F : It} {S : Sh} {ns : List Int} {ts : List Tr} {h : Nat} (one : One n1) (B : Bld n1 x dx F pl ns ts) (lt : ∀ p ∈ n, p.1 < dx ∧ p.1 < F.kl) (e1 : F.par = .none) (e2 : F.oc = .none) (e3 : F.us = "") {z : Int} (I : ItIn n2 x dx { F with sz := z, sh := .ref s }) (hS : ShIn n2 s ds S) (K : Kl dx n1 n2) (hts : ts.length ≤ 3) (hh : hgtL ts ≤ h) (K0 : Kl pl n n1) :
    Grw n n2 pl ns (.mk ⟨x, dx, s, ds, { F with sz := z, sh := .ref s }, S, 1⟩ ts) (h + 1) :=
  ⟨⟨⟨I, e1, rfl, hS, .inl ⟨e2, rfl⟩, B.kl.offD one B.it K, Int.le_refl 1, one3, fun ζ => e3, by rw [List.length_map]; exact hts⟩,
    B.kids.offD one (D := [dx]) (fun b hb => by rw [List.mem_singleton.mp hb]; exact ⟨_, _, B.it⟩) (fun p hp q => K p hp fun e => q (e ▸ .head _)) fun a ha e => Nat.lt_irrefl _ ((List.mem_singleton.mp e) ▸ (B.ab a (.inl ha)).2.2)⟩,
    Nat.succ_le_succ hh, B.pool.offD one B.it K, B.hz, List.nodup_cons.mpr ⟨fun ha => Nat.lt_irrefl _ (B.ab _ (.inl ha)).2.2, B.nd⟩,
    (fun a ha p hp => by
      rcases ha with ha | ha
      · rcases List.mem_cons.mp ha with rfl | ha
        · exact (lt p hp).1
        · exact Nat.lt_trans (lt p hp).1 (B.ab a (.inl ha)).2.2
      · rcases List.mem_cons.mp ha with rfl | ha
        · exact (lt p hp).2
        · exact Nat.lt_trans (lt p hp).1 (B.ab a (.inr ha)).2.2),
    fun p hp h => K p (K0 p hp h) (Nat.ne_of_lt (lt p hp).1)⟩
theorem Grw.root {n n1 n2 : Led} {pl : Addr} {ns : List Int} {d d' : Nd} {ts : List Tr} {h : Nat} (G : Grw n n1 pl ns (.mk d ts) h) (one : One n1) (N : NIn n2 .none d' (refs ts)) (K : ∀ p ∈ n1, p.1 ≠ d.dx → p ∈ n2) (e1 : d'.dx = d.dx) (e2 : d'.F.kl = d.F.kl) (e3 : d'.x = d.x) : Grw n n2 pl ns (.mk d' ts) h := by
  obtain ⟨ndx, ndu⟩ := List.nodup_cons.mp G.nd
  refine ⟨⟨N, e3 ▸ G.tr.2.offD one (D := [d.dx]) (fun b hb => by rw [List.mem_singleton.mp hb]; exact ⟨_, _, G.tr.1.it⟩) (fun p hp q => K p hp fun e => q (e ▸ .head _)) fun a ha e => ndx ((List.mem_singleton.mp e) ▸ ha)⟩, G.hg, G.pool.offD one G.tr.1.it K, G.hz, ?_, fun a ha => ?_, fun p hp hne => K p (G.keep p hp hne) (Nat.ne_of_lt (G.ab d.dx (.inl (.head _)) p hp))⟩
  · show (d'.dx :: dcsL ts).Nodup
    rw [e1]; exact G.nd
  · have ha : a ∈ d'.dx :: dcsL ts ∨ a ∈ d'.F.kl :: lksL ts := ha
    rw [e1, e2] at ha
    exact G.ab a ha
theorem Grw.kt {n n1 n2 : Led} {pl : Addr} {ns : List Int} {t : Tr} {h : Nat} (G : Grw n n1 pl ns t h) (K : Kk n1 n2) : Grw n n2 pl ns t h :=
  ⟨TIn.kt (.of K) _ _ G.tr, G.hg, G.pool.mono fun ζ h => K _ h, G.hz, G.nd, G.ab, fun p hp h => K p (G.keep p hp h)⟩
theorem Grw.pool1 {n n1 n2 : Led} {pl : Addr} {ns ns' : List Int} {t : Tr} {h : Nat} (G : Grw n n1 pl ns t h) (one : One n1) (hp : ∃ o, (pl, o) ∈ n) (P : Pool n2 pl ns') (hz : ns'.length ≤ 24) (K : Kl pl n1 n2) : Grw n n2 pl ns' t h :=
  ⟨TIn.off one (M := (· = pl)) (fun b hb => .inr ⟨_, (show b = pl from hb) ▸ G.pool⟩) K _ _ G.tr (fun a ha => let ⟨_, p⟩ := hp; Nat.ne_of_gt (G.ab a (.inl ha) _ p)) fun a ha => let ⟨_, p⟩ := hp; Nat.ne_of_gt (G.ab a (.inr ha) _ p), G.hg, P, hz, G.nd, G.ab, fun p hp h => K p (G.keep p hp h) h⟩
structure BldI (x dx : Addr) (F : It) (pl : Addr) (h i : Nat) (s : List Tr × List Int) (n : Led) : Prop where
  b : Bld n x dx F pl s.2 s.1
  len : s.1.length = i
  hg : hgtL s.1 ≤ h
theorem BldI.kc {x dx pl : Addr} {F : It} {h i : Nat} {s : List Tr × List Int} {n n' : Led} (B : BldI x dx F pl h i s n) (K : Kc n n') : BldI x dx F pl h i s n' := ⟨B.b.kc K, B.len, B.hg⟩
theorem BldI.add {W : Wd} {n n2 : Led} {x dx pl : Addr} {F : It} {h i : Nat} {s : List Tr × List Int} {ns : List Int} {t : Tr} {Post : Vl → Led → Prop} (B : BldI x dx F pl h i s n) (hi : i ≤ 1000) (one : One n) (G : Grw n n2 pl ns t h)
    (r : ∀ n3 s', (∀ p ∈ n, ¬ (p.1 = pl ∨ p.1 = F.kl) → p ∈ n3) → BldI x dx F pl h (i + 1) s' n3 → Post .none n3) : DoesV W 73 [.ref x, .ref t.d.x] 1 n2 Post := by
  cases t with
  | mk d us =>
    have B7 := B.b.step1 one G.pool G.hz G.keep
    have far := G.far B.b
    refine add_v B7.it G.tr.1.it B7.kl (Nat.ne_of_lt (far.1 d.dx (.inl (.head _))).2.2) (by rw [List.length_map, B.len]; exact hi) fun n8 o7 J Jt L8 K8 => r n8 (s.1 ++ [.mk { d with F := { d.F with par := .ref x } } us], ns) (fun p hp h => K8 p (G.keep p hp fun e => h (.inl e)) (Nat.ne_of_lt (G.ab d.dx (.inl (.head _)) p hp)) fun e => h (.inr e)) ⟨Bld.step2 o7 B7 G.tr G.nd far J Jt L8 K8, ?_, hgtL_app B.hg G.hg⟩
    rw [List.length_append, B.len]
    rfl
noncomputable abbrev Grows (W : Wd) (j : Nat) : Prop := ∀ {n : Led} {pl : Addr} {ns : List Int} {Post : Vl → Led → Prop}, Pool n pl ns → ns.length ≤ 24 → (∀ n' ns' t, Grw n n' pl ns' t (j + 1) → Post (.ref t.d.x) n') → DoesV W 224 [.ref pl, .int (3 - j)] (j + 5) n Post
noncomputable def it0 (lv : Int) (nm : Str) (cd kl : Addr) : It := ⟨lv, nm, "", "", .none, .none, 0, 0, .none, cd, kl⟩
noncomputable def growI (x dx pl cd kl : Addr) (nm : Str) (j : Nat) : Inv Nat (List Tr × List Int) := ⟨fun b => b = pl ∨ b = kl, fun ζ => [("found", .ref x), ("deep", .int (3 - j)), ("pool", .ref pl)], BldI x dx (it0 5 nm cd kl) pl j⟩
noncomputable def rootI (x dx pl cd kl : Addr) : Inv Nat (List Tr × List Int) := ⟨fun b => b = pl ∨ b = kl, fun ζ => [("root", .ref x), ("pool", .ref pl)], BldI x dx (it0 1 "R" cd kl) pl 4⟩
theorem grown_step {W : Wd} (j : Nat) (ih : ∀ j', j = j' + 1 → Grows W j') : Grows W j := by
  intro n pl ns Post hp hz ret
  refine enterZ (k := j + 4) ["pool", "deep"] [("deep", .int (3 - j)), ("pool", .ref pl)] (by intro P; k_is) (by intro P; k_is) (len2 fun a b s => .of_eq rfl) rfl rfl (fun C rm => ?_) rfl rfl rfl rfl
  have r2 : Rm C 2 := rm.le (le_r (by decide))
  refine .asgW (.pick (.tup (.one .str (.one .str (.one .str (.nil ⟨Nat.le_of_ble_eq_true rfl, fun us t hu lt1 => ⟨t, (["A", "FILLER", "B"] : List Str).map Vl.str, rfl, .one fun o1 => .take r2 (.glob g_take rfl rfl (by decide)) (.loc rfl rfl (by decide)) (hp.mono fun ζ h => .tail _ h) hz (by decide) (by decide) (fun n2 a1 a2 z1 P2 K2 => ?_) rfl rfl rfl rfl⟩⟩) rfl) rfl) rfl)) (fun ζ ζ ζ => rfl)) rfl rfl
  obtain ⟨nm, hnm, ζ⟩ := pickS ["A", "FILLER", "B"] rfl a1 a2
  have hpl : ∃ o, (pl, o) ∈ n := hp.here
  refine ⟨_, .str nm, rfl, a1, Int.lt_trans a2 (by decide), hnm, ⟨us, K2 _ (.head _) (let ⟨_, q⟩ := hpl; Nat.ne_of_gt (lt1 _ q)), hu⟩, ?_⟩
  have K2' : Kl pl n n2 := fun p hp h => K2 p (.tail _ hp) h
  have old : ∀ {n' : Led} {P : Addr → Prop}, (∃ o, (pl, o) ∈ n') → (Kl pl n n') → (∀ p ∈ n', P p.1) → ∀ p ∈ n, P p.1 := fun ⟨_, q⟩ h k p hp => by
    by_cases e : p.1 = pl
    · rw [e]; exact k _ q
    · exact k p (h p hp e)
  refine .iteJ (fun s : Tr × List Int => [("found", .ref s.1.d.x), ("deep", .int (3 - j)), ("pool", .ref pl)]) (fun s n' => Grw n n' pl s.2 s.1 (j + 1)) ?_ fun s n3 G3 => ?_
  · have leafC : ∀ {n' : Led} {ns' : List Int} {e1 e2 e3 e4 : Pos} {R : Vl → Led → Prop}, Pool n' pl ns' → ns'.length ≤ 24 → (Kl pl n n') → (∀ n3 ns3 t, Grw n n3 pl ns3 t (j + 1) → R (.ref t.d.x) n3) → Vw C C.env [("name", .str nm), ("deep", .int (3 - j)), ("pool", .ref pl)] n' (.Call (.Name "_law_leaf" e1) [.Name "pool" e2, .Name "name" e3] [] e4) R :=
      fun {ζ ζ ζ ζ ζ ζ ζ} P hz K r => .fn k217 (rm.le (le_r (by decide))) (.glob g_leaf rfl rfl (by decide)) (.one (.loc rfl rfl (by decide)) (.one (.loc rfl rfl (by decide)) (.nil (leaf_v P hz fun n4 x dx cd kl s ds z cat ns4 z0 z1 hz4 lt I L S P4 K4 => r n4 ns4 _ (grw_leaf (old (P := fun a => a < dx ∧ a < x ∧ a < kl) P.here K lt) I L S P4 hz4 (fun p hp h => K4 p (K p hp h) h) j))) rfl) rfl) rfl rfl rfl
    refine .and2V (.cmp (.ltI (.loc rfl rfl (by decide)) .int) rfl) (fun hb => .eqI (.one fun o2 => .take r2 (.glob g_take rfl rfl (by decide)) (.loc rfl rfl (by decide)) P2 z1 (by decide) (by decide) (fun n3 b1 b2 z2 P3 K3 => ⟨_, rfl, fun hc => ?_, fun hc => ?_⟩) rfl rfl rfl rfl) rfl) fun hb => ⟨(fun e => nomatch e), fun ζ => ?_⟩
    · have K3' : Kl pl n n3 := fun p hp h => K3 p (K2' p hp h) h
      obtain ⟨j', hj⟩ := pos_of hb
      refine .asgW (.fn k95 r2 (.glob g_Item rfl rfl (by decide)) (.one .int (.one (.loc rfl rfl (by decide)) (.nil (item_v fun n4 x dx cd kl lt4 I4 L4 K4 => ?_)) rfl) rfl) rfl rfl rfl) rfl rfl
      have hplk : pl < kl := let ⟨_, q⟩ := P3.here; (lt4 _ q).2.2
      have P4 : Pool n4 pl _ := P3.mono fun ζ h => K4 _ h
      refine .one fun o4 => .forR (fun ζ ζ r => .blt n_range b_range (by decide) r)
        (.add .int (.take r2 (.glob g_take rfl rfl (by decide)) (.loc rfl rfl (by decide)) P4 z2 (by decide) (by decide) (fun n5 c1 c2 z5 P5 K5 => ⟨_, rfl, .mk (k := (1 + takeD (takeP (takeP ns 3) 3) 2).toNat) (I := growI x dx pl cd kl nm j) (vnat1 c1) (nat1_le c2 (by decide)) ⟨fun b hb => ?_, fun ζ ζ ζ ζ h kc => h.kc kc, ⟨([], _), .cons rfl (.cons rfl (.cons rfl .nil)), ⟨I4.offL o4 P4 K5, LV.off L4 K5 (Nat.ne_of_gt hplk), trivial, P5, z5, hplk, List.nodup_nil, fun a ha => ha.elim (fun h => nomatch h) fun h => nomatch h⟩, rfl, Nat.zero_le _⟩, ?_, ?_⟩⟩) rfl rfl rfl rfl)) rfl rfl rfl rfl (fun ζ => rfl)
      · exact hb.elim (fun e => e ▸ P5.here) fun e => e ▸ (LV.off L4 K5 (Nat.ne_of_gt hplk)).here
      · intro i s6 n6 hi o6 kp6 B6
        refine .ex (.me (k := 1) mk_add (rm.le (le_r (by decide))) (.loc rfl rfl (by decide)) B6.b.it rfl (.cons (.fn (k := j' + 5) k224 (rm.le (Nat.le_of_eq (congrArg (· + 4) hj.symm))) (.glob g_grown rfl rfl (by decide)) (.one (.loc rfl rfl (by decide)) (.one (.add (.loc rfl rfl (by decide)) .int) (.nil ?_) rfl) rfl) rfl rfl rfl) rfl) rfl rfl rfl) rfl rfl
        rw [three_sub' hj]
        exact ih j' hj B6.b.pool B6.b.hz fun n7 ns7 t G7 => .nil (B6.add (Nat.le_trans (Nat.le_of_lt hi) (nat1_le c2 (by decide))) o6 (hj ▸ G7) fun n8 s8 K8 B8 => .nil ⟨K8, s8, .cons rfl (.cons rfl (.cons rfl .nil)), B8⟩)
      · rintro ⟨ts, ns9⟩ n9 kp9 ⟨B9, hlen, hh⟩
        have hlen : ts.length = _ := hlen
        refine .one fun o9 => .ex (.fn k236 (rm.le (le_r (by decide))) (.glob g_sized rfl rfl (by decide)) (.one (.loc rfl rfl (by decide)) (.nil (sized_v B9.it B9.kl (Nat.le_trans (Nat.le_of_eq hlen) (nat1_le c2 (by decide))) (fun t ht => let N := (B9.kids.all t ht).n; ⟨N.it, N.oc, N.k0, N.k1⟩) fun n10 s ds lt10 I10 S10 K10 =>
          .nil ⟨(.mk ⟨x, dx, s, ds, _, _, 1⟩ ts, ns9), .cons rfl (.cons rfl (.cons rfl .nil)), grw_group o9 B9 (fun p hp => ⟨old (P := fun a => a < dx ∧ a < x ∧ a < kl) P3.here K3' lt4 p hp |>.1, (old (P := fun a => a < dx ∧ a < x ∧ a < kl) P3.here K3' lt4 p hp).2.2⟩) rfl rfl rfl I10 S10 K10 (Nat.le_trans (Nat.le_of_eq hlen) (nat1_le c2 (by decide))) hh fun p hp h => kp9 p (K5 p (K4 p (K3' p hp h)) h) fun q => q.elim h ?_⟩)) rfl) rfl rfl rfl) rfl rfl
        exact Nat.ne_of_lt (old (P := fun a => a < dx ∧ a < x ∧ a < kl) P3.here K3' lt4 p hp).2.2
    · exact .asgW (leafC P3 z2 (fun p hp h => K3 p (K2' p hp h) h) fun n4 ns4 t G => .nil ⟨(t, ns4), .cons rfl (.cons rfl (.cons rfl .nil)), G⟩) rfl rfl
    · exact .asgW (leafC P2 z1 K2' fun n4 ns4 t G => .nil ⟨(t, ns4), .cons rfl (.cons rfl (.cons rfl .nil)), G⟩) rfl rfl
  · obtain ⟨t, ns3⟩ := s
    cases t with
    | mk d ts =>
      have G3 : Grw n n3 pl ns3 (.mk d ts) (j + 1) := G3
      refine .one fun o3 => .asgW (.take r2 (.glob g_take rfl rfl (by decide)) (.loc rfl rfl (by decide)) G3.pool G3.hz (by decide) (by decide) (fun n4 c1 c2 z4 P4 K4 => ?_) rfl rfl rfl rfl) rfl rfl
      have G4 := G3.pool1 o3 hpl P4 z4 K4
      refine .iteJ (fun s : Tr × List Int => [("found", .ref s.1.d.x)]) (fun s n' => Grw n n' pl s.2 s.1 (j + 1)) (Eb.w (.and2 (.cmp (.eqI (.loc rfl rfl (by decide)) .int) rfl) (.cmp (.ltI (.loc rfl rfl (by decide)) .int) rfl)) ⟨fun ζ => ?_, fun ζ => .iteV (.mono (R := fun c n' => Grw n n' pl (takeP ns3 9) (.mk d ts) (j + 1) ∧ (c = true → refs ts = [])) ?_ fun c n5 h5 => ⟨fun h => ?_, fun ζ => ?_⟩)⟩) fun s n9 G9 => ?_
      · refine .setaW (.fn k48 r2 (.glob g_Occurs rfl rfl (by decide)) (.one .int (.cons (.add .int (.one fun o4 => .take r2 (.glob g_take rfl rfl (by decide)) (.loc rfl rfl (by decide)) P4 z4 (by decide) (by decide) (fun n5 b1 b2 z5 P5 K5 => ⟨_, rfl, .nil (occ_v fun n6 o odx fs lt6 O hk h0 K6 => ?_)⟩) rfl rfl rfl rfl)) rfl) rfl) rfl rfl rfl) rfl
        have G6 := (G4.pool1 o4 hpl P5 z5 K5).kt K6
        have hM : Tch n6 (· = d.dx) := fun b hb => .inl ⟨_, _, (show b = d.dx from hb) ▸ G6.tr.1.it⟩
        exact .old fk_occ (.loc rfl rfl (by decide)) G6.tr.1.it (by decide) rfl fun n7 o6 I7 K7 => .nil ⟨(.mk { d with F := { d.F with oc := .ref o }, k := 2 + takeD (takeP ns3 9) 2 } ts, _), .cons rfl .nil, G6.root o6 ⟨I7, G6.tr.1.par, G6.tr.1.sh, Ob.offs o6 hM K7 G6.tr.1.sI rfl, .inr ⟨o, odx, fs, rfl, Ob.offs o6 hM K7 O h0, hk, h0⟩, G6.tr.1.kl.offD o6 G6.tr.1.it K7, two_le b1, two_le3 b2, G6.tr.1.us, G6.tr.1.kn⟩ K7 rfl rfl rfl⟩
      · exact .and2V (.cmp (.eqI (.loc rfl rfl (by decide)) .int) rfl) (fun ζ => .eqNil rm.u ((Ev.attr fk_kids G4.tr.1.it rfl (.loc rfl rfl (by decide)) rfl).w ⟨_, refs ts, rfl, G4.tr.1.kl, fun n5 K5 => ⟨G4.kt K5, fun h => List.isEmpty_iff.mp h⟩⟩) rfl) fun ζ => ⟨G4, fun e => nomatch e⟩
      · have hnil := h5.2 h
        have G5 := h5.1
        refine .tupA (.tup (.one .str (.cons (.fn0 k203 (rm.le (Nat.le_add_left 4 j)) (.glob g_ishape rfl rfl (by decide)) (ishape_v fun n6 s ds lt6 S6 K6 => .one .int (.nil ⟨Nat.le_of_ble_eq_true rfl, fun vs t hv lt => ?_⟩) rfl) rfl) rfl) rfl)) rfl rfl rfl
        have G6 := (G5.kt K6).kt fun p hp => .tail (t, tupOf vs) hp
        have S6 : ShIn ((t, tupOf vs) :: n6) s ds ⟨"index", 4, "index", 9, 0, true⟩ := S6.mono (fun ζ h => .tail _ h) fun ζ h => .tail _ h
        have hM : Tch ((t, tupOf vs) :: n6) (· = d.dx) := fun b hb => .inl ⟨_, _, (show b = d.dx from hb) ▸ G6.tr.1.it⟩
        refine ⟨t, _, rfl, ⟨vs, .head _, hv⟩, rfl, _, _, _, rfl, .old fk_usage (.loc rfl rfl (by decide)) G6.tr.1.it (by decide) rfl fun n7 o6 I7 K7 => ⟨_, _, _, rfl, .old fk_shape (.loc rfl rfl (by decide)) I7 (by decide) rfl fun n8 o7 I8 K8 => ⟨_, _, _, rfl, .old fk_size (.loc rfl rfl (by decide)) I8 (by decide) rfl fun n9 o8 I9 K9 => ?_⟩⟩⟩
        have K : ∀ p ∈ (t, tupOf vs) :: n6, p.1 ≠ d.dx → p ∈ n9 := fun p hp h => K9 p (K8 p (K7 p hp h) h) h
        exact Sv.nil (Sv.nil ⟨(.mk { d with s := s, ds := ds, S := ⟨"index", 4, "index", 9, 0, true⟩, F := { d.F with us := "index", sz := 4, sh := .ref s } } ts, _), .cons rfl .nil, G6.root o6 ⟨I9, G6.tr.1.par, rfl, Ob.offs o6 hM K S6 rfl, OcIn.offs o6 hM K G6.tr.1.oc, G6.tr.1.kl.offD o6 G6.tr.1.it K, G6.tr.1.k0, G6.tr.1.k1, fun e => absurd hnil e, G6.tr.1.kn⟩ K rfl rfl rfl⟩)
      · have G5 := h5.1
        refine .iteV (Eb.w (.cmp (.eqI (.loc rfl rfl (by decide)) .int) rfl) ⟨fun ζ => ?_, fun ζ => .iteV (Eb.w (.cmp (.eqI (.loc rfl rfl (by decide)) .int) rfl) ⟨fun ζ => ?_, fun ζ => .nil (.nil (.nil (.nil ⟨(.mk d ts, takeP ns3 9), .cons rfl .nil, G5⟩)))⟩)⟩)
        · exact .one fun o5 => .seta fk_red .str (.loc rfl rfl (by decide)) G5.tr.1.it (by decide) rfl (fun n6 I6 K6 => .nil (.nil (.nil ⟨(.mk { d with F := { d.F with rd := "A" } } ts, takeP ns3 9), .cons rfl .nil, G5.root o5 (NIn.set (F := { d.F with rd := "A" }) o5 G5.tr.1 I6 K6 rfl rfl rfl rfl rfl) K6 rfl rfl rfl⟩))) rfl
        · exact .one fun o5 => .seta fk_level .int (.loc rfl rfl (by decide)) G5.tr.1.it (by decide) rfl (fun n6 I6 K6 => .nil (.nil (.nil (.nil ⟨(.mk { d with F := { d.F with lv := 66 } } ts, takeP ns3 9), .cons rfl .nil, G5.root o5 (NIn.set (F := { d.F with lv := 66 }) o5 G5.tr.1 I6 K6 rfl rfl rfl rfl rfl) K6 rfl rfl rfl⟩)))) rfl
      · exact .ret (.loc rfl rfl (by decide)) (ret n9 s.2 s.1 G9)
theorem grown_v {W : Wd} (j : Nat) : Grows W j := by
  induction j with
  | zero => exact grown_step 0 fun j' e => nomatch e
  | succ j ih => exact grown_step (j + 1) fun j' e => Nat.succ.inj e ▸ ih
end Mine
namespace Mine
section
variable {W : Wd} {Z : St} {C : Cx W Z} {v : Env} {lm : Lm} {n n0 : Led} {x y : Vl} {e f g : PySem.Expr} {pos : Pos} {Q : Rs} {rest bd el : List Stmt} {R : Vl → Led → Prop} {m : Loc}
theorem any_strs {c : Str} : ∀ {ss : List Str} {us : List Value}, IsAll (ss.map Vl.str) us → us.any (fun y => y.isStr c) = ss.any (· == c)
  | [], [], _ => rfl
  | s :: ss, u :: us, h => by
    obtain ⟨t, rfl⟩ := h.1
    rw [List.any_cons, List.any_cons, any_strs h.2]
    rfl
  | [], _ :: _, h => h.elim
  | _ :: _, [], h => h.elim
theorem Vb.inT {R : Bool → Led → Prop} {c : Str} {es : List PySem.Expr} {k : Nat} {p : Pos} (ss : List Str) (h : Ev C v lm n e (.str c)) (hw : VwL C v lm n p es fun xs n' => xs = ss.map Vl.str ∧ n' = n) (hss : ss.length ≤ 1000) (r : ∀ n', (Kk n n') → R (ss.any (· == c)) n') (hb : behindInMarks .In (.Tuple es k p) = false) : Vb C v lm n (.Compare e [.In] [.Tuple es k p] pos) R := fun m s =>
  .cmp (h.go s fun u ⟨tk, hu⟩ => by
    subst hu
    refine (Vw.tup (R := fun x n2 => ∃ t, x = .ref t ∧ TV n2 t (ss.map Vl.str) ∧ Kk n n2) (fun m s => (hw m s).mono fun us n' ⟨xs, hx, e1, e2⟩ => ⟨xs, hx, by subst e1; rw [List.length_map]; exact hss, fun us t hu lt => ⟨t, rfl, ⟨us, .head _, e1 ▸ hu⟩, fun p hp => .tail _ (e2 ▸ hp)⟩⟩) m s).mono fun w n2 q => ?_
    obtain ⟨ζ, hw, t, rfl, ⟨us, hm, hus⟩, kp⟩ := q
    obtain rfl : w = .ref t := hw
    intro σ z
    refine SeqAt.in_tupleAt (items := us.toArray) (fun y => y.isStr c) ⟨_, (z.2 _ hm).1, rfl, 0, rfl⟩ (fun y hy => ?_) (out (tk' := σ.toks) z ⟨_, rfl, ?_⟩)
    · have hy : y ∈ us := by simpa using hy
      have : ∀ {ss : List Str} {us : List Value}, IsAll (ss.map Vl.str) us → y ∈ us → ∃ s t, y = .str s t := by
        intro ss
        induction ss with
        | nil => intro us h hy; cases us with | nil => exact nomatch hy | cons _ _ => exact h.elim
        | cons s ss ih =>
          intro us h hy
          cases us with
          | nil => exact h.elim
          | cons u us =>
            rcases List.mem_cons.mp hy with rfl | hy
            · obtain ⟨t, rfl⟩ := h.1; exact ⟨s, t, rfl⟩
            · exact ih h.2 hy
      obtain ⟨s, t, rfl⟩ := this hus hy
      exact SeqAt.EqAt.str_str s t c tk
    · rw [show us.toArray.any (fun y => y.isStr c) = us.any (fun y => y.isStr c) from by simp, any_strs hus]
      exact r n2 kp) hb
end
end Mine
namespace Mine
abbrev Rw := Addr × Str × Addr
noncomputable def firstW (c : Str) : List Rw → Option Addr
  | [] => none
  | r :: rs => if (r.2.1 == c) = true then some r.2.2 else firstW c rs
noncomputable def isNE (c : Str) : Bool := (["numeric", "edited"] : List Str).any (· == c)
noncomputable def figW (c : Str) : Str := if isNE c = true then "ZERO" else "SPACE"
section
variable {W : Wd} {Z : St} {C : Cx W Z} {v : Env} {lm : Lm} {n n0 : Led} {x y : Vl} {e f g : PySem.Expr} {pos : Pos} {Q : Rs} {rest bd el : List Stmt} {R : Vl → Led → Prop} {m : Loc}
theorem Vw.ifeV (h : Vb C v lm n e fun c n' => (c = true → Vw C v lm n' f R) ∧ (c = false → Vw C v lm n' g R)) : Vw C v lm n (.IfExp e f g pos) R := fun m s => .ife ((h m s).mono fun c n' q => by
  cases c with
  | true => rw [if_pos rfl]; exact q.1 rfl m s
  | false => rw [if_neg Bool.false_ne_true]; exact q.2 rfl m s)
end
section
variable {W : Wd} {n : Led} {Post : Vl → Led → Prop}
noncomputable def wrtI (rl s : Addr) (c : Str) (rs : List Rw) : Inv (List Rw) Unit := ⟨fun ζ => False, fun ζ => [("rows", .ref rl), ("shape", .ref s)], fun r ζ ζ => (∃ q, q ++ r = rs) ∧ firstW c r = firstW c rs⟩
theorem worth_v {s ds rl : Addr} {S : Sh} {rs : List Rw} (I : ShIn n s ds S) (L : LV n rl (rs.map fun r => .ref r.1)) (hr : ∀ r ∈ rs, TV n r.1 [.str r.2.1, .ref r.2.2]) (hz : rs.length ≤ 100)
    (r1 : ∀ a n', firstW S.cat rs = some a → (Kk n n') → Post (.ref a) n') (r2 : firstW S.cat rs = none → rs ≠ [] → ∀ n', (Kk n n') → Post .none n')
    (r3 : rs = [] → ∀ n' t, (Kk n n') → TV n' t [.str "figure", .str (figW S.cat)] → (∀ p ∈ n, p.1 ≠ t) → Post (.ref t) n') : DoesV W 146 [.ref s, .ref rl] 1 n Post := by
  refine enterZ (k := 0) ["shape", "rows"] [("rows", .ref rl), ("shape", .ref s)] (by intro P; k_is) (by intro P; k_is) (len2 fun a b s => .of_eq rfl) rfl rfl (fun C rm => ?_) rfl rfl rfl rfl
  refine .forL goP (Ev.w (.loc rfl rfl (by decide)) (.mk (I := wrtI rl s S.cat rs) L ⟨fun b hb => hb.elim, fun ζ ζ ζ ζ h ζ => h, ⟨(), .cons rfl (.cons rfl .nil), ⟨[], rfl⟩, rfl⟩, ?_, ?_⟩)) (fun ζ => rfl)
  · rintro t r ζ n' ζ kp ⟨⟨q, eq⟩, ef⟩
    have K : Kk n n' := fun p hp => kp p hp id
    refine .pair ((hr t (eq ▸ List.mem_append_right _ (.head _))).mono fun ζ h => K _ h) (.ite (.cmp (.eqS (.loc rfl rfl (by decide)) (.attr sk_cat (I.mono (fun ζ h => K _ h) fun ζ h => K _ h) rfl (.loc rfl rfl (by decide)) rfl)) rfl) (fun h => ?_) fun h => ?_) rfl rfl
    · have ef : (if (t.2.1 == S.cat) = true then some t.2.2 else firstW S.cat r) = firstW S.cat rs := ef
      rw [if_pos h] at ef
      exact .ret (.loc rfl rfl (by decide)) (r1 _ n' ef.symm K)
    · have ef : (if (t.2.1 == S.cat) = true then some t.2.2 else firstW S.cat r) = firstW S.cat rs := ef
      rw [if_neg (by rw [h]; exact Bool.false_ne_true)] at ef
      exact .nil (.nil ⟨fun p hp ζ => hp, (), .cons rfl (.cons rfl .nil), ⟨q ++ [t], by rw [List.append_assoc]; exact eq⟩, ef⟩)
  · rintro ζ n' kp ⟨ζ, ef⟩
    have K : Kk n n' := fun p hp => kp p hp id
    have hlen : ∀ m (R : Value → Led → Prop), R (.builtin "len") n' → We C C.env m n' (.Name "len" ⟨90, 7, 90, 10⟩) R := fun ζ ζ r => .blt n_len b_len (by decide) r
    refine .ite (.cmp (.gtI (.len (.loc rfl rfl (by decide)) (L.mono fun ζ h => K _ h) (by rw [List.length_map]; omega) hlen rfl rfl rfl) .int) rfl) (fun h => ?_) fun h => ?_
    · refine .ret .cnone (r2 ef.symm (fun e => ?_) n' K)
      subst e
      exact absurd (of_decide_eq_true h) (by decide)
    · have hnil : rs = [] := by
        cases rs with
        | nil => rfl
        | cons _ _ => exact absurd h (by rw [List.map_cons, List.length_cons]; simp)
      refine .nil (.retW (.tup (.one .str (.cons (.ifeV (.inT ["numeric", "edited"] (.attr sk_cat (I.mono (fun ζ h => K _ h) fun ζ h => K _ h) rfl (.loc rfl rfl (by decide)) rfl) (.one .str (.one .str (.nil ⟨rfl, rfl⟩) rfl) rfl) (by decide) (fun n2 K2 => ⟨fun hc => Ev.w .str (.nil ⟨Nat.le_of_ble_eq_true rfl, fun us t hu lt => ?_⟩), fun hc => Ev.w .str (.nil ⟨Nat.le_of_ble_eq_true rfl, fun us t hu lt => ?_⟩)⟩) rfl)) rfl) rfl)))
      · have e : figW S.cat = "ZERO" := if_pos hc
        exact r3 hnil _ t (fun p hp => .tail _ (K2 p (K p hp))) ⟨us, .head _, by rw [e]; exact hu⟩ fun p hp => Nat.ne_of_lt (lt p (K2 p (K p hp)))
      · have e : figW S.cat = "SPACE" := if_neg (by rw [show isNE S.cat = false from hc]; exact Bool.false_ne_true)
        exact r3 hnil _ t (fun p hp => .tail _ (K2 p (K p hp))) ⟨us, .head _, by rw [e]; exact hu⟩ fun p hp => Nat.ne_of_lt (lt p (K2 p (K p hp)))
end
end Mine
namespace Mine
section
variable {n : Led} {k : Nat} {x y : Vl} {s t : Addr} {xs ys : List Vl}
noncomputable def Alv (n : Led) (k : Nat) (x y : Vl) : Prop := ∀ u w, x.is u → y.is w → ∀ (σ : Shared) (A : Around), (∀ p ∈ n, σ.heap.get? p.1 = some p.2) → A.units + k < cLine → SeqAt.EqAt A σ u w true
noncomputable def Pl : Vl → Prop
  | .bytes _ => False
  | _ => True
theorem Alv.pl (h : Pl x) : Alv n k x x := fun u w hu hw σ A ζ ζ => by
  cases x with
  | bytes _ => exact h.elim
  | int i => obtain ⟨t, rfl⟩ := hu; obtain ⟨t', rfl⟩ := hw; exact beq_self_eq_true i ▸ SeqAt.EqAt.int_int i t i t'
  | str i => obtain ⟨t, rfl⟩ := hu; obtain ⟨t', rfl⟩ := hw; exact beq_self_eq_true i ▸ SeqAt.EqAt.str_str i t i t'
  | _ => cases hu; cases hw; exact SeqAt.EqAt.same _
theorem alv_at {us ws : List Value} {σ : Shared} {A : Around} (hn : ∀ p ∈ n, σ.heap.get? p.1 = some p.2) (hu : A.units + k < cLine) (h : AIn (Alv n k) xs ys) (p : IsAll xs us) (q : IsAll ys ws) : us.length = ws.length ∧ ∀ j (h1 : j < us.toArray.size) (h2 : j < ws.toArray.size), SeqAt.EqAt A σ us.toArray[j] ws.toArray[j] true := by
  have l := (p.length.trans h.len).trans q.length.symm
  refine ⟨l, fun j (h1 : j < us.length) (h2 : j < ws.length) => ?_⟩
  show SeqAt.EqAt A σ us[j] ws[j] true
  clear l
  induction xs generalizing ys us ws j with
  | nil => cases us; exact absurd h1 (Nat.not_lt_zero _); exact p.elim
  | cons x xs ih =>
    cases us; exact p.elim
    cases ys; exact h.elim
    cases ws; exact q.elim
    cases j
    · exact h.1 _ _ p.1 q.1 _ _ hn hu
    · exact ih h.2 p.2 q.2 _ (Nat.lt_of_succ_lt_succ h1) (Nat.lt_of_succ_lt_succ h2)
theorem all_true {b : Bool} {l : List Nat} (h : b = true) : ((l.all fun ζ => true) && b) = true := by rw [List.all_eq_true.mpr fun ζ ζ => rfl, h]; rfl
theorem Alv.tup (hs : TV n s xs) (ht : TV n t ys) (h : AIn (Alv n k) xs ys) : Alv n (k + 1) (.ref s) (.ref t) := fun u w hu hw σ A hn ha => by
  obtain rfl : u = .ref s := hu
  obtain rfl : w = .ref t := hw
  by_cases e : s = t
  · subst e; exact SeqAt.EqAt.same _
  · obtain ⟨us, p, p'⟩ := hs
    obtain ⟨ws, q, q'⟩ := ht
    have g := alv_at (A := A.in1) hn (by rw [PySem.Around.in1_units, Nat.add_right_comm]; exact ha) h p' q'
    have r := SeqAt.RcAt.tuples (A := A) (e := fun ζ => true) (⟨_, hn _ p, rfl, 0, rfl⟩ : σ.heap.IsTuple s us.toArray) (⟨_, hn _ q, rfl, 0, rfl⟩ : σ.heap.IsTuple t ws.toArray) (Nat.lt_of_le_of_lt (Nat.le_add_right _ _) ha) g.2
    rw [all_true (by rw [List.size_toArray, List.size_toArray, g.1]; exact beq_self_eq_true _)] at r
    exact SeqAt.EqAt.of_refs e r
noncomputable def LAlk (n : Led) (s t : Addr) : Prop := ∃ xs ys, LV n s xs ∧ LV n t ys ∧ AIn (Alv n 4) xs ys
theorem LAlk.ints {zs : List Int} (h : LV n s (zs.map Vl.int)) (k : LV n t (zs.map Vl.int)) : LAlk n s t := ⟨_, _, h, k, by
  clear h k
  induction zs with
  | nil => trivial
  | cons z zs ih => exact ⟨.pl trivial, ih⟩⟩
theorem alk_told {w w' : Addr} {S : Sh} (h : ToldV n w S) (k : ToldV n w' S) : Alv n 2 (.ref w) (.ref w') := by
  obtain ⟨p, q, h⟩ := h
  obtain ⟨p', q', k⟩ := k
  exact .tup h.1 k.1 ⟨.pl trivial, .pl trivial, .pl trivial, .pl trivial, .tup h.2.1 k.2.1 ⟨.pl trivial, .pl trivial, .pl trivial, .pl trivial, trivial⟩, .tup h.2.2 k.2.2 ⟨.pl trivial, .pl trivial, .pl trivial, trivial⟩, trivial⟩
theorem LAlk.dues {as bs : List Addr} {zs : List (Int × Sh)} (h : LV n s (as.map .ref)) (hd : DIn n as zs) (k : LV n t (bs.map .ref)) (kd : DIn n bs zs) : LAlk n s t := ⟨_, _, h, k, by
  clear h k
  induction as generalizing bs zs with
  | nil => cases zs; cases bs; trivial; exact kd.elim; exact hd.elim
  | cons a as ih =>
    cases zs; exact hd.elim
    cases bs; exact kd.elim
    obtain ⟨w1, t1⟩ := hd.1
    obtain ⟨w2, t2⟩ := kd.1
    exact ⟨fun u w hu hw σ A hn ha => Alv.tup t1.1 t2.1 ⟨.pl trivial, alk_told t1.2 t2.2, trivial⟩ u w hu hw σ A hn (Nat.lt_of_succ_lt ha), ih hd.2 kd.2⟩⟩
end
section
variable {W : Wd} {Z : St} {C : Cx W Z} {v : Env} {lm : Lm} {n : Led} {e f : PySem.Expr} {pos : Pos} {R : Vl → Led → Prop}
theorem At.get {m : Loc} {h : Heap} (z : At C m n h) : ∀ p ∈ n, h.get? p.1 = some p.2 := fun p hp => (z.2 p hp).1
theorem Vw.eqLL (hu : C.A.units + 8 < cLine) (h : Vw C v lm n e fun x n1 => ∃ l, x = .ref l ∧ Vw C v lm n1 f fun y n2 => ∃ l2, y = .ref l2 ∧ LAlk n2 l l2 ∧ R (.bool true) n2) (hb : behindInMarks .Eq f = false) : Vw C v lm n (.Compare e [.Eq] [f] pos) R := fun m s =>
  .cmp ((h m s).mono fun u n1 q => by
    obtain ⟨ζ, hu1, l, rfl, q⟩ := q
    obtain rfl : u = .ref l := hu1
    refine (q m s).mono fun w n2 q => ?_
    obtain ⟨ζ, hw, l2, rfl, ⟨xs, ys, ⟨us, k, p, p'⟩, ⟨ws, k2, q, q'⟩, A⟩, r⟩ := q
    obtain rfl : w = .ref l2 := hw
    intro σ z
    have g := alv_at (A := C.A.in1) z.get (by rw [PySem.Around.in1_units]; omega) A p' q'
    have q := SeqAt.RcAt.lists (A := C.A) (e := fun ζ => true) (News.isList z.2 p) (News.isList z.2 q) (by rw [List.size_toArray, List.size_toArray, g.1]) (Nat.lt_of_le_of_lt (Nat.le_add_right _ _) hu) g.2
    rw [List.all_eq_true.mpr fun ζ ζ => rfl] at q
    exact q pg W.w _ _ (out (tk' := σ.toks) z ⟨.bool true, rfl, r⟩)) hb
theorem Vb.neLL {RB : Bool → Led → Prop} (hu : C.A.units + 8 < cLine) (h : Vw C v lm n e fun x n1 => ∃ l, x = .ref l ∧ Vw C v lm n1 f fun y n2 => ∃ l2, y = .ref l2 ∧ LAlk n2 l l2 ∧ RB false n2) (hb : behindInMarks .NotEq f = false) : Vb C v lm n (.Compare e [.NotEq] [f] pos) RB := fun m s =>
  .cmp ((h m s).mono fun u n1 q => by
    obtain ⟨ζ, hu1, l, rfl, q⟩ := q
    obtain rfl : u = .ref l := hu1
    refine (q m s).mono fun w n2 q => ?_
    obtain ⟨ζ, hw, l2, rfl, ⟨xs, ys, ⟨us, k, p, p'⟩, ⟨ws, k2, q, q'⟩, A⟩, r⟩ := q
    obtain rfl : w = .ref l2 := hw
    intro σ z
    have g := alv_at (A := C.A.in1) z.get (by rw [PySem.Around.in1_units]; omega) A p' q'
    have q := SeqAt.RcNeAt.lists (A := C.A) (e := fun ζ => true) (News.isList z.2 p) (News.isList z.2 q) (by rw [List.size_toArray, List.size_toArray, g.1]) (Nat.lt_of_le_of_lt (Nat.le_add_right _ _) hu) g.2
    rw [List.all_eq_true.mpr fun ζ ζ => rfl] at q
    exact q pg W.w _ _ (out (tk' := σ.toks) z ⟨false, rfl, r⟩)) hb
end
end Mine
namespace Mine
theorem two1 : (1 : Int) ≤ 2 := by decide
theorem two3 : (2 : Int) ≤ 3 := by decide
structure Raw (n : Led) (x dx : Addr) (F : It) (ks : List Vl) : Prop where
  it : ItIn n x dx F
  kl : LV n F.kl ks
theorem Raw.mono {n n' : Led} {x dx : Addr} {F : It} {ks : List Vl} (r : Raw n x dx F ks) (K : Kk n n') : Raw n' x dx F ks := ⟨r.it.mono (fun ζ h => K _ h) fun ζ h => K _ h, r.kl.mono fun ζ h => K _ h⟩
theorem Raw.offD {n n' : Led} {x dx y d : Addr} {F G : It} {ks : List Vl} (r : Raw n x dx F ks) (one : One n) (Y : ItIn n y d G) (K : Kl d n n') (h1 : dx ≠ d) : Raw n' x dx F ks :=
  ⟨Ob.offD r.it one Y h1 K, r.kl.offD one Y K⟩
structure Kd : Type where
  x : Addr
  dx : Addr
  cd : Addr
  kl : Addr
  nm : Str
noncomputable def kidT (k : Kd) (par : Vl) (s ds : Addr) : Tr := .mk ⟨k.x, k.dx, s, ds, ⟨10, k.nm, "", "", .none, par, 0, 2, .ref s, k.cd, k.kl⟩, ⟨"numeric", 2, "display", 0, 0, false⟩, 1⟩ []
noncomputable def innT (x dx s ds o p cd kl : Addr) (ts : List Tr) : Tr := .mk ⟨x, dx, s, ds, ⟨5, "FILLER", "", "", .ref o, .ref p, 0, szs ts, .ref s, cd, kl⟩, ⟨"group", szs ts, "display", 0, 0, false⟩, 2⟩ ts
noncomputable def topT (x dx s ds cd kl : Addr) (ts : List Tr) : Tr := .mk ⟨x, dx, s, ds, ⟨1, "R", "", "", .none, .none, 0, szs ts, .ref s, cd, kl⟩, ⟨"group", szs ts, "display", 0, 0, false⟩, 1⟩ ts
theorem Raw.keep {n n' : Led} {x dx : Addr} {F : It} {ks : List Vl} (r : Raw n x dx F ks) (K : ∀ p ∈ n, Calm p.2 → p.1 = x ∨ p.1 = dx ∨ p.1 = F.kl → p ∈ n') : Raw n' x dx F ks := by
  obtain ⟨⟨h, es, k, hd, q⟩, us, c, hl, hu⟩ := r
  exact ⟨⟨K _ h calm_i (.inl rfl), es, k, K _ hd calm_d (.inr (.inl rfl)), q⟩, us, c, K _ hl calm_l (.inr (.inr rfl)), hu⟩
theorem Bld.set {n n' : Led} {x dx pl : Addr} {F F' : It} {ns : List Int} {ts : List Tr} (B : Bld n x dx F pl ns ts) (one : One n) (J : ItIn n' x dx F') (K : Kl dx n n') (e : F'.kl = F.kl) : Bld n' x dx F' pl ns ts :=
  ⟨J, e ▸ B.kl.offD one B.it K, B.kids.offD one (D := [dx]) (fun b hb => by rw [List.mem_singleton.mp hb]; exact ⟨_, _, B.it⟩) (fun p hp q => K p hp fun e => q (e ▸ .head _)) fun a ha e => Nat.lt_irrefl _ ((List.mem_singleton.mp e) ▸ (B.ab a (.inl ha)).2.2), B.pool.offD one B.it K, B.hz, e ▸ B.plk, B.nd, fun a ha => e ▸ B.ab a ha⟩
theorem Bld.mono {n n' : Led} {x dx pl : Addr} {F : It} {ns : List Int} {ts : List Tr} (B : Bld n x dx F pl ns ts) (K : Kk n n') : Bld n' x dx F pl ns ts :=
  ⟨B.it.mono (fun ζ h => K _ h) fun ζ h => K _ h, B.kl.mono fun ζ h => K _ h, B.kids.kt (.of K), B.pool.mono fun ζ h => K _ h, B.hz, B.plk, B.nd, B.ab⟩
theorem Bld.offD {n n' : Led} {x dx y d pl : Addr} {F G : It} {ns : List Int} {ts : List Tr} (B : Bld n x dx F pl ns ts) (one : One n) (Y : ItIn n y d G) (K : Kl d n n') (h1 : dx ≠ d) (h2 : d ∉ dcsL ts) : Bld n' x dx F pl ns ts :=
  ⟨Ob.offD B.it one Y h1 K, B.kl.offD one Y K, B.kids.offD one (D := [d]) (fun b hb => by rw [List.mem_singleton.mp hb]; exact ⟨_, _, Y⟩) (fun p hp q => K p hp fun e => q (e ▸ .head _)) fun a ha e => h2 ((List.mem_singleton.mp e) ▸ ha), B.pool.offD one Y K, B.hz, B.plk, B.nd, B.ab⟩
theorem FIn.zip {n : Led} {us : List Addr} : ∀ {zs : List Fd}, FIn n us zs → ((us.zip zs).map fun t => Vl.ref t.1) = us.map Vl.ref ∧ (us.zip zs).map (·.2) = zs ∧ ∀ t ∈ us.zip zs, TV n t.1 [.int t.2.1, .ref t.2.2.1] ∧ ∃ ds, ShIn n t.2.2.1 ds t.2.2.2 := by
  induction us with
  | nil =>
    intro zs h
    cases zs
    · exact ⟨rfl, rfl, fun ζ h => nomatch h⟩
    · exact h.elim
  | cons u us ih =>
    intro zs h
    cases zs with
    | nil => exact h.elim
    | cons z zs =>
      have q := ih h.2
      refine ⟨congrArg (Vl.ref u :: ·) q.1, congrArg (z :: ·) q.2.1, fun t ht => ?_⟩
      rcases List.mem_cons.mp ht with rfl | ht
      · exact h.1
      · exact q.2.2 t ht
structure RgtI (m0 : Led) (xI dI cI kI pl : Addr) (ns : List Int) (ks r : List Kd) (dn : List Tr) (n : Led) : Prop where
  b : Bld n xI dI (it0 5 "FILLER" cI kI) pl ns dn
  kp : ∀ p ∈ m0, Calm p.2 → p.1 ≠ kI → p.1 ∉ dcsL dn → p ∈ n
  sh : ∃ dk, dk ++ r = ks ∧ AIn (fun t k => ∃ s ds, t = kidT k (.ref xI) s ds) dn dk
noncomputable def rgtI (m0 : Led) (xT xI dI cI kI pl : Addr) (ns : List Int) (A B : Kd) : Inv (List Kd) (List Tr) := ⟨fun b => b = kI ∨ b = A.dx ∨ b = B.dx, fun ζ => [("inner", .ref xI), ("top", .ref xT)], RgtI m0 xI dI cI kI pl ns [A, B]⟩
theorem kids_at {xI : Addr} {dn : List Tr} : ∀ {dk : List Kd}, AIn (fun t k => ∃ s ds, t = kidT k (.ref xI) s ds) dn dk → (∀ a ∈ dcsL dn, ∃ k ∈ dk, a = k.dx) ∧ ∀ a ∈ lksL dn, ∃ k ∈ dk, a = k.kl := by
  induction dn with
  | nil => exact fun ζ => ⟨fun ζ h => (nomatch h), fun ζ h => nomatch h⟩
  | cons t dn ih =>
    intro dk h
    cases dk; exact h.elim
    obtain ⟨⟨s, ds, rfl⟩, h⟩ := h
    refine ⟨fun a ha => ?_, fun a ha => ?_⟩
    · rcases List.mem_cons.mp ha with rfl | ha
      · exact ⟨_, .head _, rfl⟩
      · exact ((ih h).1 a ha).elim fun k q => ⟨k, .tail _ q.1, q.2⟩
    · rcases List.mem_cons.mp ha with rfl | ha
      · exact ⟨_, .head _, rfl⟩
      · exact ((ih h).2 a ha).elim fun k q => ⟨k, .tail _ q.1, q.2⟩
theorem two_split {A B k k' : Kd} {dk r : List Kd} (e : dk ++ k :: r = [A, B]) (h : k' ∈ dk) : k' = A ∧ k = B := by
  cases dk with
  | nil => exact nomatch h
  | cons a dk =>
    cases dk with
    | nil => cases e; exact ⟨List.mem_singleton.mp h, rfl⟩
    | cons b dk =>
      exact nomatch (List.append_eq_nil_iff.mp (List.cons.inj (List.cons.inj e).2).2).2
theorem right_plain (xT dT sT dsT cT kT xI dI sI dsI cI kI o xA dA sA dsA cA kA xB dB sB dsB cB kB : Addr) : ((due (lay 3 (topT xT dT sT dsT cT kT [innT xI dI sI dsI o xT cI kI [kidT ⟨xA, dA, cA, kA, "A"⟩ (.ref xI) sA dsA, kidT ⟨xB, dB, cB, kB, "FILLER"⟩ (.ref xI) sB dsB]])) 10).map (·.1)) = [10, 14] := by
  kernel_rfl!
theorem right_two {A B : Kd} {xI : Addr} {dn : List Tr} (sh : AIn (fun t k => ∃ s ds, t = kidT k (.ref xI) s ds) dn [A, B]) : ∃ sA dsA sB dsB, dn = [kidT A (.ref xI) sA dsA, kidT B (.ref xI) sB dsB] := by
  cases dn with
  | nil => exact sh.elim
  | cons a dn => cases dn with
    | nil => exact sh.2.elim
    | cons b dn => cases dn with
      | nil =>
        obtain ⟨⟨sA, dsA, rfl⟩, ⟨sB, dsB, rfl⟩, _⟩ := sh
        exact ⟨sA, dsA, sB, dsB, rfl⟩
      | cons _ _ => exact sh.2.2.elim
theorem right_eq {A B : Kd} {xA dA cA kA xB dB cB kB xT dT sT dsT cT kT xI dI sI dsI cI kI o : Addr} {dn : List Tr} (hA : A = ⟨xA, dA, cA, kA, "A"⟩) (hB : B = ⟨xB, dB, cB, kB, "FILLER"⟩) (sh : AIn (fun t k => ∃ s ds, t = kidT k (.ref xI) s ds) dn [A, B]) :
    ((due (lay 3 (topT xT dT sT dsT cT kT [innT xI dI sI dsI o xT cI kI dn])) 10).map (·.1)) = [10, 14] ∧ hgt (lay 3 (topT xT dT sT dsT cT kT [innT xI dI sI dsI o xT cI kI dn])) = 3 := by
  subst hA hB
  obtain ⟨sA, dsA, sB, dsB, rfl⟩ := right_two sh
  exact ⟨right_plain .., rfl⟩
theorem right_hg {A B : Kd} {xI : Addr} {dn : List Tr} (sh : AIn (fun t k => ∃ s ds, t = kidT k (.ref xI) s ds) dn [A, B]) : hgtL dn = 1 := by
  obtain ⟨sA, dsA, sB, dsB, rfl⟩ := right_two sh
  rfl
section
variable {W : Wd} {n : Led} {Post : Vl → Led → Prop}
theorem right_v {pl : Addr} {ns : List Int} (hp : Pool n pl ns) (hz : ns.length ≤ 24) (T : Tab n) (ret : ∀ n', Tab n' → Post (.bool true) n') : DoesV W 253 [] 9 n Post := by
  refine enterZ (k := 8) [] [] (by intro P; k_is) (by intro P; k_is) (len0 fun s => .of_eq rfl) rfl rfl (fun C rm => ?_) rfl rfl rfl rfl
  have r2 : Rm C 2 := rm.le (by decide)
  refine .tup2 (.tup (.cons (.fn k95 r2 (.glob g_Item rfl rfl (by decide)) (.one .int (.one .str (.nil (item_v fun n1 xT dT cT kT ltT IT LT K1 => .cons (.fn k95 r2 (.glob g_Item rfl rfl (by decide)) (.one .int (.one .str (.nil (item_v fun n2 xI dI cI kI ltI II LI K2 => .nil ⟨Nat.le_of_ble_eq_true rfl, fun us t hu lt => ⟨t, .ref xT, .ref xI, rfl, ⟨us, .head _, hu⟩, ?_⟩⟩)) rfl) rfl) rfl rfl rfl) rfl)) rfl) rfl) rfl rfl rfl) rfl)) rfl rfl rfl rfl
  have RT1 : Raw n1 xT dT (it0 1 "R" cT kT) [] := ⟨IT, LT⟩
  have RI : Raw n2 xI dI (it0 5 "FILLER" cI kI) [] := ⟨II, LI⟩
  have P2 : Pool n2 pl ns := hp.mono fun ζ h => K2 _ (K1 _ h)
  have tI : dT < dI ∧ kT < kI ∧ dT < kI := ⟨RT1.it.here.elim fun ζ h => (ltI _ h).1, RT1.kl.here.elim fun ζ h => (ltI _ h).2.2, RT1.it.here.elim fun ζ h => (ltI _ h).2.2⟩
  have plI : pl < dI ∧ pl < kI := hp.here.elim fun ζ h => ⟨(ltI _ (K1 _ h)).1, (ltI _ (K1 _ h)).2.2⟩
  clear IT LT II LI lt hu
  refine .forT (.tup (.cons (.fn k95 r2 (.glob g_Item rfl rfl (by decide)) (.one .int (.one .str (.nil (item_v fun n4 xA dA cA kA ltA IA LA K4 => .cons (.fn k95 r2 (.glob g_Item rfl rfl (by decide)) (.one .int (.one .str (.nil (item_v fun n5 xB dB cB kB ltB IB LB K5 => .nil ⟨Nat.le_of_ble_eq_true rfl, fun vs t2 hv lt2 => ?_⟩)) rfl) rfl) rfl rfl rfl) rfl)) rfl) rfl) rfl rfl rfl) rfl)) (fun ζ => rfl)
  obtain ⟨A, hA⟩ : ∃ A : Kd, A = ⟨xA, dA, cA, kA, "A"⟩ := ⟨_, rfl⟩
  obtain ⟨B, hB⟩ : ∃ B : Kd, B = ⟨xB, dB, cB, kB, "FILLER"⟩ := ⟨_, rfl⟩
  have Tt : TV ((t2, tupOf vs) :: n5) t2 ([A, B].map fun k : Kd => .ref k.x) := by rw [hA, hB]; exact ⟨vs, .head _, hv⟩
  have RA : Raw n4 A.x A.dx (it0 10 A.nm A.cd A.kl) [] := by rw [hA]; exact ⟨IA, LA⟩
  have RB : Raw n5 B.x B.dx (it0 10 B.nm B.cd B.kl) [] := by rw [hB]; exact ⟨IB, LB⟩
  have fA : ∀ p ∈ n2, p.1 < A.dx ∧ p.1 < A.x ∧ p.1 < A.kl := by rw [hA]; exact fun p hp => ltA p (.tail _ hp)
  have fB : ∀ p ∈ n4, p.1 < B.dx ∧ p.1 < B.x ∧ p.1 < B.kl := by rw [hB]; exact ltB
  have AB : A.dx < B.dx ∧ A.dx < B.x ∧ A.dx < B.kl := RA.it.here.elim fun ζ h => fB _ h
  have K24 : Kk n2 n4 := fun p hp => K4 p (.tail _ hp)
  have kidF : ∀ k ∈ [A, B], Raw ((t2, tupOf vs) :: n5) k.x k.dx (it0 10 k.nm k.cd k.kl) [] ∧ ∀ p ∈ n2, p.1 < k.dx ∧ p.1 < k.x ∧ p.1 < k.kl := fun k hk => by
    rcases List.mem_cons.mp hk with e | hk
    · rw [e]; exact ⟨RA.mono fun p hp => .tail _ (K5 p hp), fA⟩
    · rw [List.mem_singleton.mp hk]
      exact ⟨RB.mono fun p hp => .tail _ hp, fun p hp => fB p (K24 p hp)⟩
  have KT2 : ∀ p ∈ n2, p ∈ (t2, tupOf vs) :: n5 := fun p hp => .tail _ (K5 p (K24 p hp))
  have hft : ∀ b, b = kI ∨ b = A.dx ∨ b = B.dx → b ≠ t2 ∧ ∃ o, (b, o) ∈ (t2, tupOf vs) :: n5 := fun b hb => by
    have q : (∃ o, (b, o) ∈ n5) → b ≠ t2 ∧ ∃ o, (b, o) ∈ (t2, tupOf vs) :: n5 := fun h => h.elim fun o h => ⟨Nat.ne_of_lt (lt2 _ h), o, .tail _ h⟩
    rcases hb with e | e | e
    · rw [e] at q ⊢; exact q (RI.kl.here.elim fun o h => ⟨o, K5 _ (K24 _ h)⟩)
    · rw [e] at q ⊢; exact q (RA.it.here.elim fun o h => ⟨o, K5 _ h⟩)
    · rw [e] at q ⊢; exact q RB.it.here
  obtain ⟨m0, hm⟩ : ∃ m0, m0 = (t2, tupOf vs) :: n5 := ⟨_, rfl⟩
  rw [← hm] at Tt kidF KT2 hft ⊢
  clear hm IA LA IB LB ltA ltB RA RB fA fB lt2 hv K5 K4 K24
  refine .mk (g := fun k : Kd => .ref k.x) (I := rgtI m0 xT xI dI cI kI pl ns A B) Tt ⟨hft, fun r s n' n'' h kc => ⟨h.b.kc kc, fun p hp c h1 h2 => kc p (h.kp p hp c h1 h2) c, h.sh⟩, ⟨[], .cons rfl (.cons rfl .nil), ⟨RI.it.mono (fun ζ h => KT2 _ h) fun ζ h => KT2 _ h, RI.kl.mono fun ζ h => KT2 _ h, trivial, P2.mono fun ζ h => KT2 _ h, hz, plI.2, List.nodup_nil, fun a ha => ha.elim (fun h => nomatch h) fun h => nomatch h⟩, fun p hp ζ ζ ζ => hp, [], rfl, trivial⟩, ?_, ?_⟩
  · rintro k r dn n' one kp ⟨BI, kq, dk, e, sh⟩
    have hk : k ∈ [A, B] := e ▸ List.mem_append_right _ (.head _)
    obtain ⟨rk0, far⟩ := kidF k hk
    have hkI : kI < k.dx ∧ kI < k.x ∧ kI < k.kl := RI.kl.here.elim fun ζ h => far _ h
    have hdI : dI < k.dx ∧ dI < k.x ∧ dI < k.kl := RI.it.here.elim fun ζ h => far _ h
    have hpl : pl < k.dx ∧ pl < k.x ∧ pl < k.kl := P2.here.elim fun ζ h => far _ h
    have hlt : ∀ a ∈ dcsL dn, a < k.dx ∧ a < k.x ∧ a < k.kl := fun a ha => ((kids_at sh).1 a ha).elim fun k' q => by
      obtain ⟨rfl, rfl⟩ := two_split e q.1
      rw [q.2]; exact AB
    have rk : Raw n' k.x k.dx (it0 10 k.nm k.cd k.kl) [] := rk0.keep fun p hp c hx => kq p hp c (hx.elim (fun e => e ▸ Nat.ne_of_gt hkI.2.1) fun hx => hx.elim (fun e => e ▸ Nat.ne_of_gt hkI.1) fun e => e ▸ Nat.ne_of_gt hkI.2.2) fun ha => hx.elim (fun e => Nat.ne_of_gt (hlt _ ha).2.1 e.symm) fun hx => hx.elim (fun e => Nat.ne_of_gt (hlt _ ha).1 e.symm) fun e => Nat.ne_of_gt (hlt _ ha).2.2 e.symm
    refine .name (.tupA (.tup (.cons (.fn k178 r2 (.glob g_Shape rfl rfl (by decide)) (.one .str (.one .int (.nil (shape_v false (fun ζ => rfl) fun n6 s ds lt6 S6 K6 => .one .int (.nil ⟨Nat.le_of_ble_eq_true rfl, fun ws w hw ltw => ?_⟩) rfl)) rfl) rfl) rfl rfl rfl) rfl)) rfl rfl rfl) rfl
    have K6' : ∀ p ∈ n', p ∈ (w, tupOf ws) :: n6 := fun p hp => .tail _ (K6 p hp)
    have rk6 := rk.mono K6'
    refine ⟨w, _, rfl, ⟨ws, .head _, hw⟩, rfl, _, _, _, rfl, .old fk_shape (.loc rfl rfl (by decide)) rk6.it (by decide) rfl fun n7 o6 I7 K7 => ⟨_, _, _, rfl, .old fk_size (.loc rfl rfl (by decide)) I7 (by decide) rfl fun n8 o7 I8 K8 => ?_⟩⟩
    have K' : ∀ p ∈ (w, tupOf ws) :: n6, p.1 ≠ k.dx → p ∈ n8 := fun p hp h => K8 p (K7 p hp h) h
    have B8 := (BI.mono K6').offD o6 rk6.it K' (Nat.ne_of_lt hdI.1) fun h => Nat.lt_irrefl _ (hlt _ h).1
    have hds : ds ≠ k.dx := Nat.ne_of_gt (rk.it.all (P := fun a => a < ds ∧ a < s) lt6).1
    have hT : TIn n8 .none (kidT k .none s ds) := ⟨⟨I8, rfl, rfl, (S6.mono (fun ζ h => .tail (w, tupOf ws) h) fun ζ h => .tail (w, tupOf ws) h).offD o6 rk6.it hds K', .inl ⟨rfl, rfl⟩, rk6.kl.offD o6 rk6.it K', Int.le_refl 1, one3, fun e => absurd rfl e, Nat.zero_le 3⟩, trivial⟩
    have hl : dn.length ≤ 1000 := by
      have a := sh.len
      have b := congrArg List.length e
      rw [List.length_append] at b
      exact Nat.le_trans (Nat.le_trans (Nat.le_of_eq a) (Nat.le_trans (Nat.le_add_right _ _) (Nat.le_of_eq b))) (Nat.le_of_ble_eq_true rfl)
    show Sv C _ n8 _ _
    refine .ex (.me mk_add (rm.le (by decide)) (.loc rfl rfl (by decide)) B8.it rfl (.one (.loc rfl rfl (by decide)) (.nil (add_v B8.it hT.1.it B8.kl (Nat.ne_of_lt hdI.1) (by rw [List.length_map]; exact hl) fun n9 o9 J Jt L9 K9 => ?_)) rfl) rfl rfl rfl) rfl rfl
    have K9' : ∀ p ∈ n', p.1 ≠ k.dx → p.1 ≠ kI → p ∈ n9 := fun p hp h1 h2 => K9 p (K' p (K6' p hp) h1) h1 h2
    refine .nil ⟨fun p hp h => K9' p hp (fun q => h (.inr ((List.mem_cons.mp hk).imp (fun e => q.trans (congrArg Kd.dx e)) fun h => q.trans (congrArg Kd.dx (List.mem_singleton.mp h))))) fun q => h (.inl q), dn ++ [kidT k (.ref xI) s ds], .cons rfl (.cons rfl .nil), Bld.step2 o9 B8 hT (List.nodup_cons.mpr ⟨List.not_mem_nil, List.nodup_nil⟩) ⟨fun a ha => ?_, fun a ha b hb => ?_⟩ J Jt L9 K9, fun p hp c h1 h2 => ?_, dk ++ [k], by rw [List.append_assoc]; exact e, sh.app ⟨⟨s, ds, rfl⟩, trivial⟩⟩
    · rcases ha with ha | ha
      · rw [List.mem_singleton.mp ha]; exact ⟨hpl.1, hkI.1, hdI.1⟩
      · rw [List.mem_singleton.mp ha]; exact ⟨hpl.2.2, hkI.2.2, hdI.2.2⟩
    · rw [List.mem_singleton.mp hb]; exact Nat.ne_of_lt (hlt a ha).1
    · rw [dcsL_app] at h2
      exact K9' p (kq p hp c h1 fun h => h2 (List.mem_append_left _ h)) (fun h => h2 (List.mem_append_right _ (h ▸ .head _))) h1
  · rintro dn n' kp ⟨BI, kq, dk, e, sh⟩
    have sh : AIn (fun t k => ∃ s ds, t = kidT k (.ref xI) s ds) dn [A, B] := ((List.append_nil dk).symm.trans e) ▸ sh
    clear e
    have hd : ∀ a, a ∈ dcsL dn ∨ a ∈ lksL dn → ∀ p ∈ n2, p.1 < a := fun a ha p hp => ha.elim (fun ha => ((kids_at sh).1 a ha).elim fun k q => q.2 ▸ ((kidF k q.1).2 p hp).1) fun ha => ((kids_at sh).2 a ha).elim fun k q => q.2 ▸ ((kidF k q.1).2 p hp).2.2
    have hln : dn.length = 2 := sh.len
    have keep2 : ∀ p ∈ n2, Calm p.2 → p.1 ≠ kI → p ∈ n' := fun p hp c h => kq p (KT2 p hp) c h fun ha => Nat.lt_irrefl _ (hd _ (.inl ha) p hp)
    have RT : Raw n' xT dT (it0 1 "R" cT kT) [] := RT1.keep fun p hp c ζ => keep2 p (K2 p hp) c (Nat.ne_of_lt (ltI p hp).2.2)
    clear kp kq kidF hft Tt KT2
    refine .setaW (.fn k48 r2 (.glob g_Occurs rfl rfl (by decide)) (.one .int (.one .int (.nil (occ_v fun n6 o odx fs lt6 O hk6 h06 K6 => .old fk_occ (.loc rfl rfl (by decide)) (BI.mono K6).it (by decide) rfl fun n7 o6 I7 K7 => ?_)) rfl) rfl) rfl rfl rfl) rfl
    have B6 := BI.mono K6
    have I7 : ItIn n7 xI dI { it0 5 "FILLER" cI kI with oc := .ref o } := I7
    have B7 := B6.set o6 I7 K7 rfl
    have T7 := (RT.mono K6).offD o6 B6.it K7 (Nat.ne_of_lt tI.1)
    have O7 := Ob.offs o6 (M := (· = dI)) (fun b hb => .inl ⟨_, _, (show b = dI from hb) ▸ B6.it⟩) K7 O h06
    refine .ex (.me mk_add (rm.le (by decide)) (.loc rfl rfl (by decide)) T7.it rfl (.one (.loc rfl rfl (by decide)) (.nil (add_v T7.it B7.it T7.kl (Nat.ne_of_lt tI.1) (Nat.zero_le _) fun n8 o7 JT JI L8 K8 => .one fun o8 => ?_)) rfl) rfl rfl rfl) rfl rfl
    have hM : Tch n7 (fun b => b = dI ∨ b = kT) := fun b hb => hb.elim (fun e => .inl ⟨_, _, e ▸ B7.it⟩) fun e => .inr ⟨_, e ▸ T7.kl⟩
    have K8' : ∀ p ∈ n7, ¬ (p.1 = dI ∨ p.1 = kT) → p ∈ n8 := fun p hp h => K8 p hp (fun e => h (.inl e)) fun e => h (.inr e)
    have cl : ∀ {a : Addr}, (∃ ys, LV n7 a ys) → a ≠ dI := fun ⟨_, _, _, p, _⟩ e => let ⟨_, _, r, _⟩ := B7.it.2; o7.dl r p e.symm
    have cd : ∀ {a : Addr}, (∃ y F, ItIn n7 y a F) → a ≠ kT := fun ⟨_, _, J⟩ e => let ⟨_, _, p, _⟩ := J.2; let ⟨_, _, r, _⟩ := T7.kl; o7.dl p r e
    have ki8 := B7.kids.off o7 hM K8' (fun a ha q => q.elim (Nat.ne_of_gt (B7.ab a (.inl ha)).2.2) (cd (B7.kids.hD a ha))) fun a ha q => q.elim (cl (B7.kids.hL a ha)) (Nat.ne_of_gt (RT1.kl.here.elim fun ζ h => hd a (.inr ha) _ (K2 _ h)))
    have LI8 := B7.kl.mono fun ζ h => K8 _ h (cl ⟨_, B7.kl⟩) (Nat.ne_of_gt tI.2.1)
    have O8 := Ob.offs o7 hM K8' O7 h06
    refine .ex (.fn k236 (rm.le (by decide)) (.glob g_sized rfl rfl (by decide)) (.one (.loc rfl rfl (by decide)) (.nil (sized_v JI LI8 (by rw [hln]; decide) (fun t ht => let N := (ki8.all t ht).n; ⟨N.it, N.oc, N.k0, N.k1⟩) fun n9 sI dsI lt9 I9 S9 K9 => .one fun o9 => ?_)) rfl) rfl rfl rfl) rfl rfl
    have T9 := Raw.offD ⟨JT, L8⟩ o8 JI K9 (Nat.ne_of_lt tI.1)
    have ki9 := ki8.offD o8 (D := [dI]) (fun b hb => by rw [List.mem_singleton.mp hb]; exact ⟨_, _, JI⟩) (fun p hp q => K9 p hp fun e => q (e ▸ .head _)) fun a ha e => Nat.lt_irrefl _ ((List.mem_singleton.mp e) ▸ (B7.ab a (.inl ha)).2.2)
    have O9 := Ob.offs o8 (M := (· = dI)) (fun b hb => .inl ⟨_, _, (show b = dI from hb) ▸ JI⟩) K9 O8 h06
    have tI9 : TIn n9 (.ref xT) (innT xI dI sI dsI o xT cI kI dn) := ⟨⟨I9, rfl, rfl, S9, .inr ⟨o, odx, fs, rfl, O9, hk6, h06⟩, LI8.offD o8 JI K9, two1, two3, fun ζ => rfl, by rw [List.length_map, hln]; decide⟩, ki9⟩
    refine .ex (.fn k236 (rm.le (by decide)) (.glob g_sized rfl rfl (by decide)) (.one (.loc rfl rfl (by decide)) (.nil (sized_v T9.it (ts := [innT xI dI sI dsI o xT cI kI dn]) T9.kl (Nat.le_of_ble_eq_true rfl) (fun t ht => by rw [List.mem_singleton.mp ht]; exact ⟨tI9.1.it, tI9.1.oc, tI9.1.k0, tI9.1.k1⟩) fun n10 sT dsT lt10 I10 S10 K10 => .one fun o10 => ?_)) rfl) rfl rfl rfl) rfl rfl
    have hdT : ∀ a ∈ dcsL [innT xI dI sI dsI o xT cI kI dn], dT < a := fun a ha => by
      rcases List.mem_cons.mp ha with rfl | ha
      · exact tI.1
      · have ha : a ∈ dcsL dn ++ [] := ha
        rw [List.append_nil] at ha
        exact Nat.lt_trans tI.1 (B7.ab a (.inl ha)).2.2
    have hhg : hgtL dn = 1 := right_hg sh
    have hT3 : hgt (topT xT dT sT dsT cT kT [innT xI dI sI dsI o xT cI kI dn]) = 3 := by show max (hgtL dn + 1) 0 + 1 = 3; rw [hhg]; rfl
    have ki10 := KIn.offD (ts := [innT xI dI sI dsI o xT cI kI dn]) o9 (D := [dT]) (fun b hb => by rw [List.mem_singleton.mp hb]; exact ⟨_, _, T9.it⟩) (fun p hp q => K10 p hp fun e => q (e ▸ .head _)) ⟨tI9, trivial⟩ fun a ha e => Nat.lt_irrefl _ ((List.mem_singleton.mp e) ▸ hdT a ha)
    have tT : TIn n10 .none (topT xT dT sT dsT cT kT [innT xI dI sI dsI o xT cI kI dn]) := ⟨⟨I10, rfl, rfl, S10, .inl ⟨rfl, rfl⟩, T9.kl.offD o9 T9.it K10, Int.le_refl 1, one3, fun ζ => rfl, Nat.le_of_ble_eq_true rfl⟩, ki10⟩
    refine .ex (.fn k243 (rm.le (by rw [hT3]; decide)) (.glob g_lay rfl rfl (by decide)) (.one (.loc rfl rfl (by decide)) (.one .int (.nil (lay_v _ tT ?_ fun n11 T11 K11 => ?_)) rfl) rfl) rfl rfl rfl) rfl rfl
    · refine List.nodup_cons.mpr ⟨fun h => Nat.lt_irrefl _ (hdT _ h), ?_⟩
      show (dI :: dcsL dn ++ []).Nodup
      rw [List.append_nil]
      exact List.nodup_cons.mpr ⟨fun h => Nat.lt_irrefl _ (B7.ab _ (.inl h)).2.2, B7.nd⟩
    · have keep : ∀ p ∈ n, Calm p.2 → p ∈ n11 := fun p hp c => by
        have a := ltT p hp
        have b := ltI p (K1 p hp)
        refine K11 p (K10 p (K9 p (K8 p (K7 p (K6 p (keep2 p (K2 p (K1 p hp)) c (Nat.ne_of_lt b.2.2))) (Nat.ne_of_lt b.1)) (Nat.ne_of_lt b.1) (Nat.ne_of_lt a.2.2)) (Nat.ne_of_lt b.1)) (Nat.ne_of_lt a.1)) fun h => ?_
        rcases List.mem_cons.mp h with h | h
        · exact Nat.ne_of_lt a.1 h
        · exact Nat.lt_irrefl _ (Nat.lt_trans a.1 (hdT _ h))
      have T11' : Tab n11 := T.kc keep
      have hh : hgt (lay 3 (topT xT dT sT dsT cT kT [innT xI dI sI dsI o xT cI kI dn])) = 3 := (right_eq hA hB sh).2
      refine .retW (.eqLL (rm.le (j := 1) (by decide)).2 (.comp (g := fun t : Addr × Fd => .ref t.1) (zs := fun t => [("shape", .ref t.2.2.1), ("offset", .int t.2.1)]) (f := fun ζ => true) (P := fun ζ t y => y = .int t.2.1) (.fn k139 (rm.le (by rw [hh]; decide)) (.glob g_fields rfl rfl (by decide)) (.one (.loc rfl rfl (by decide)) (.one .int (.one .bool (.nil (fields_v _ T11 (as := []) rfl (by rw [hh]; decide) T11' (Nat.le_trans (fields_len _ _ _ _ T11) (by rw [hh]; decide)) fun n12 l us L F T12 K12 ne => ?_)) rfl) rfl) rfl) rfl rfl rfl)
        rfl rfl rfl rfl (fun ζ => rfl)) rfl)
      obtain ⟨z1, z2, z3⟩ := F.zip
      refine ⟨l, us.zip _, rfl, by rw [z1]; exact L, ?_, fun ζ ζ ζ ζ ζ h => h, fun t ht => .pair (z3 t ht).1 rfl rfl rfl, fun t ht => .all fun kp O => .el (.ownK O rfl rfl rfl (by decide)) fun ζ ζ => rfl, fun E n13 ys LE neE k13 hys => ⟨E, rfl, .list (.one .int (.one .int (.nil fun ws l2 hw => ⟨by rw [hw.length]; exact Nat.le_of_ble_eq_true rfl, fun lt => ⟨l2, rfl, ?_, ret _ (T12.kc fun p hp ζ => .tail _ (k13 p hp))⟩⟩) rfl) rfl)⟩⟩
      · rw [List.length_zip]
        exact Nat.le_trans (Nat.min_le_right _ _) (Nat.le_trans (fields_len _ _ _ _ T11) (by rw [hh]; decide))
      · have e : ys = ([10, 14] : List Int).map Vl.int := by
          rw [AIn.eq (f := fun t : Addr × Fd => Vl.int t.2.1) hys, List.filter_eq_self.mpr fun ζ ζ => rfl]
          have e1 : ∀ L : List (Addr × Fd), L.map (fun t => Vl.int t.2.1) = ((mp (L.map (·.2))).map (·.1)).map Vl.int := fun L => by
            rw [mp, List.map_map, List.map_map, List.map_map]; rfl
          rw [e1, z2, show mp (fields (lay 3 (topT xT dT sT dsT cT kT [innT xI dI sI dsI o xT cI kI dn])) 10 true) = due (lay 3 (topT xT dT sT dsT cT kT [innT xI dI sI dsI o xT cI kI dn])) 10 from plain_goal _ _ _ _ rfl]
          exact congrArg _ (right_eq hA hB sh).1
        subst e
        exact .ints (LE.mono fun ζ h => .tail _ h) ⟨ws, 0, .head _, hw⟩
end
end Mine
namespace Mine
section
variable {W : Wd} {Z : St} {C : Cx W Z} {v : Env} {lm : Lm} {n n0 : Led} {x y : Vl} {e f g : PySem.Expr} {pos : Pos} {Q : Rs} {rest bd el : List Stmt} {R : Vl → Led → Prop} {m : Loc}
theorem Ev.cell {z : Str} {c : Addr} (hc : Z.cl.lookup z = some c) (h : CellV n c x) (hx : ∀ L, (Z.env L).kindOf z = some .cell) (hb : (z == ("__debug__" : Str)) = false) : Ev C C.env lm n (.Name z pos) x := fun m s σ y =>
  let ⟨o, u, hm, hd, hu⟩ := h
  nameX_C y.2 hc hm hd (out (tk' := σ.toks) y ⟨hu, rfl⟩) C.hk (hx _) hb
theorem Ev.pow {i j : Int} (h : Ev C v lm n e (.int i)) (k : Ev C v lm n f (.int j)) (h0 : 0 ≤ j) (h1 : j ≤ 1000000) (h2 : i.natAbs < 2 ^ 64) : Ev C v lm n (.BinOp e .Pow f pos) (.int (i ^ j.toNat)) := fun m s =>
  .bin (h.go s fun _ ⟨_, q⟩ => k.go s fun _ ⟨_, r⟩ => q ▸ r ▸ fun s z => pow_int_small h0 h1 h2 (out (tk' := s.toks + 1) z ⟨⟨_, rfl⟩, rfl⟩))
theorem b_abs : bootBuiltins "abs" = some (.builtin "abs") := by boot_by_name
theorem b_bytes : bootBuiltins "bytes" = some (.type "bytes") := by boot_by_name
theorem Ev.abs {i : Int} {fe : PySem.Expr} (hf : ∀ m (R : Value → Led → Prop), R (.builtin "abs") n → We C v m n fe R) (h : Ev C v lm n e (.int i))
    (h1 : eval (fe.Call [e] [] pos) v = (do let f ← eval fe v; callWith pos f [] (backTo pos (starEach [e] v)) (backToKw pos (keywordEach [] v))))
    (h2 : starEach [e] v = (false, eval e v) :: starEach [] v) (h3 : ((backTo pos (starEach [] v)).any (·.1)) = false) : Ev C v lm n (fe.Call [e] [] pos) (.int (if i < 0 then -i else i)) := fun m s =>
  .bi (hf m _ ⟨rfl, .cons (h.go s fun u ⟨t, hu⟩ => .nil (by
    subst hu
    intro σ z
    exact call_abs_int fun u tk => out (tk' := tk) z ⟨⟨_, rfl⟩, rfl⟩)) h2⟩) h1 h2 h3
theorem Vw.upto {sl : Addr} {us : List Value} {ns : List Int} {k : Int} {t : Nat} {kp sp : Pos} (h : Ev C v lm n e (.ref sl)) (hl : C.h0.IsList sl us.toArray) (hi : IntsAre us ns) (hz : us.length ≤ 100000) (h0 : 0 ≤ k)
    (r : ∀ D n', (Lw n D) → LV n' D ((ns.take k.toNat).map Vl.int) → (Kk n n') → R (.ref D) n')
    (hs : ∀ D, subscripted (.Slice none (some (.Constant (.int k) t kp)) none sp) false (.ref sl) (.ref D) = operate [.ref D, .ref sl] (getItem (.ref sl) (.ref D))) (ht : ∀ r, letTemporaryGo e (.ref sl) r = Pure.pure ()) :
    Vw C v lm n (.Subscript e (.Slice none (some (.Constant (.int k) t kp)) none sp) pos) R := fun m s σ y =>
  Subscript_ ((h m s).go y fun u n1 h1 tk1 y1 q => by
    obtain ⟨q, rfl⟩ := q
    obtain rfl : u = .ref sl := q
    refine wpAny_Slice (wpAny_pure (wpAny_Constant_int (k := t) (pos := kp) (wpAny_pure ?_)))
    refine kmk_slice_lit (s := { σ with heap := h1, toks := tk1 + 1 }) y1.1 y1.2 (let ⟨o, ho, r⟩ := hl; ⟨o, y1.1.keep _ _ ho, r⟩) .none (.int k _) rfl (fun D h' F N lt => ?_) (hs _) ht (by rw [sizeLine_eq, List.size_toArray]; omega)
    exact out (tk' := tk1 + 1) ⟨F, N⟩ ⟨.ref D, rfl, r D _ lt ⟨_, 0, .head _, .of_ints (PyProof.Rows.slice_ints_uptoW hi h0)⟩ fun p hp => .tail _ hp⟩)
theorem Vw.bytes {fe : PySem.Expr} (hf : ∀ m (R : Value → Led → Prop), R (.type "bytes") n → We C v m n fe R) (h : Vw C v lm n e fun x n' => ∃ (l : Addr) (ns : List Int), x = .ref l ∧ LV n' l (ns.map Vl.int) ∧ (∀ i ∈ ns, 0 ≤ i ∧ i < 256) ∧ ns.length ≤ 1000 ∧ ∀ b, R (.bytes b) n')
    (h1 : eval (fe.Call [e] [] pos) v = (do let f ← eval fe v; callWith pos f [] (backTo pos (starEach [e] v)) (backToKw pos (keywordEach [] v))))
    (h2 : starEach [e] v = (false, eval e v) :: starEach [] v) (h3 : ((backTo pos (starEach [] v)).any (·.1)) = false) : Vw C v lm n (fe.Call [e] [] pos) R := fun m s =>
  .ty (hf m _ ⟨rfl, .cons ((h m s).mono fun u n' q => by
    obtain ⟨ζ, hu, l, ns, rfl, ⟨us, k, hm, hus⟩, hr, hz, r⟩ := q
    obtain rfl : u = .ref l := hu
    exact .nil fun s y => bytes_K y.1 y.2 (News.isList y.2 hm) hus.ints hr (by rw [sizeLine_eq, hus.length, List.length_map]; omega) C.hh fun h' t k F N ζ => out (tk' := k) ⟨F, N⟩ ⟨.bytes _, ⟨_, rfl⟩, r _⟩) h2⟩) h1 h2 h3
end
end Mine
namespace Mine
section
variable {W : Wd} {Z : St} {C : Cx W Z} {v : Env} {lm : Lm} {n n0 : Led} {x y : Vl} {e f g : PySem.Expr} {pos : Pos} {Q : Rs} {rest bd el : List Stmt} {R : Vl → Led → Prop} {m : Loc}
theorem We.ownBV {sc : Scope} {cl' : List (Str × Addr)} {D : Addr} {y : Str} {u : Value} (hv : Top.Not y) (hb : bootBuiltins y = some u) (hn : y ≠ "__name__") {m : Loc} {RV : Value → Led → Prop} (r : RV u n)
    (hk : (compEnvC sc cl' D C.env).scope.kind = .function) (hx : (compEnvC sc cl' D C.env).kindOf y = some .globalImplicit) (hd : (y == ("__debug__" : Str)) = false) : We C (compEnvC sc cl' D C.env) m n (.Name y pos) RV := .ownB hv hb hn r hk hx hd
end
end Mine
namespace Mine
theorem lks_lay (t : Tr) : ∀ o, lks (lay o t) = lks t := by
  induction t using Tr.rec (motive_2 := fun ts => ∀ o, lksL (layL o ts) = lksL ts) with
  | mk d ts ih => exact fun o => congrArg (d.F.kl :: ·) (ih o)
  | nil => rename_i o; rfl
  | cons t r h1 h2 =>
    rename_i o
    show lks (lay o t) ++ lksL (layL (nx o t) r) = lks t ++ lksL r
    rw [h1, h2]
theorem hgt_lay (t : Tr) : ∀ o, hgt (lay o t) = hgt t := by
  induction t using Tr.rec (motive_2 := fun ts => ∀ o, hgtL (layL o ts) = hgtL ts) with
  | mk d ts ih => exact fun o => congrArg (· + 1) (ih o)
  | nil => rename_i o; rfl
  | cons t r h1 h2 =>
    rename_i o
    show max (hgt (lay o t)) (hgtL (layL (nx o t) r)) = max (hgt t) (hgtL r)
    rw [h1, h2]
theorem Grw.lay {n0 n n' : Led} {pl : Addr} {ns : List Int} {t : Tr} {h : Nat} {o : Int} (G : Grw n0 n pl ns t h) (hp : ∃ o, (pl, o) ∈ n0) (T : TIn n' .none (Mine.lay o t)) (K : ∀ p ∈ n, p.1 ∉ dcs t → p ∈ n') : Grw n0 n' pl ns (Mine.lay o t) h :=
  ⟨T, (hgt_lay t o).symm ▸ G.hg, G.pool.mono fun ζ h => K _ h fun hb => let ⟨_, q⟩ := hp; Nat.lt_irrefl pl (G.ab pl (.inl hb) _ q), G.hz, (dcs_lay t o).symm ▸ G.nd, fun a ha => G.ab a ((dcs_lay t o) ▸ (lks_lay t o) ▸ ha), fun p hp h => K p (G.keep p hp h) fun hb => Nat.lt_irrefl _ (G.ab _ (.inl hb) p hp)⟩
end Mine
namespace Mine
section
variable {W : Wd} {Z : St} {C : Cx W Z} {m : Loc} {n N n1 : Led} {lm : Lm} {l I D E : Addr} {us : List Value} {k i : Nat} {v : Env} {e f : PySem.Expr} {x y : Vl} {z z1 z2 : Str} {pos px p1 p2 tp : Pos} {Q : Rs} {rest bd : List Stmt}
inductive Nlk (n : Led) : Vl → Vl → Prop
  | none : Nlk n .none .none
  | same {s : Addr} {xs : List Vl} : TV n s xs → Nlk n (.ref s) (.ref s)
  | tup {s t : Addr} {xs ys : List Vl} : TV n s xs → TV n t ys → AIn (Alv n 0) xs ys → Nlk n (.ref s) (.ref t)
theorem ne_tup {A : Around} {σ : Shared} {s t : Addr} {us ws : List Value} (hn : ∀ p ∈ n, σ.heap.get? p.1 = some p.2) (p : (s, tupOf us) ∈ n) (q : (t, tupOf ws) ∈ n) (hu : A.units < cLine) (g : us.length = ws.length ∧ ∀ j (h1 : j < us.toArray.size) (h2 : j < ws.toArray.size), SeqAt.EqAt A.in1 σ us.toArray[j] ws.toArray[j] true) : SeqAt.RcNeAt A σ (.ref s) (.ref t) false := by
  have q := SeqAt.RcNeAt.tuples (A := A) (e := fun ζ => true) (⟨_, hn _ p, rfl, 0, rfl⟩ : σ.heap.IsTuple s us.toArray) (⟨_, hn _ q, rfl, 0, rfl⟩ : σ.heap.IsTuple t ws.toArray) hu g.2
  rw [all_true (by rw [List.size_toArray, List.size_toArray, g.1]; exact beq_self_eq_true _)] at q
  exact q
theorem Vb.neV {RB : Bool → Led → Prop} (hu : C.A.units + 8 < cLine) (h : Vw C v lm n e fun x n1 => Vw C v lm n1 f fun y n2 => Nlk n2 x y ∧ RB false n2) (hb : behindInMarks .NotEq f = false) : Vb C v lm n (.Compare e [.NotEq] [f] pos) RB := fun m s =>
  .cmp ((h m s).mono fun u n1 q => by
    obtain ⟨x, hx, q⟩ := q
    refine (q m s).mono fun w n2 q => ?_
    obtain ⟨y, hy, q, r⟩ := q
    intro σ z
    have h0 := Nat.lt_of_le_of_lt (Nat.le_add_right _ _) hu
    cases q with
    | none =>
      obtain rfl : u = .none := hx
      obtain rfl : w = .none := hy
      exact SeqAt.RcNeAt.none_none pg W.w _ _ (out (tk' := σ.toks) z ⟨false, rfl, r⟩)
    | same p =>
      obtain rfl : u = _ := hx
      obtain rfl : w = _ := hy
      obtain ⟨us, p, ζ⟩ := p
      exact ne_tup z.get p p h0 ⟨rfl, fun ζ ζ ζ => .same _⟩ pg W.w _ _ (out (tk' := σ.toks) z ⟨false, rfl, r⟩)
    | tup p p2 A =>
      obtain rfl : u = _ := hx
      obtain rfl : w = _ := hy
      obtain ⟨us, p, p'⟩ := p
      obtain ⟨ws, p2, q'⟩ := p2
      exact ne_tup z.get p p2 h0 (alv_at z.get (by rw [PySem.Around.in1_units]; omega) A p' q') pg W.w _ _ (out (tk' := σ.toks) z ⟨false, rfl, r⟩)) hb
theorem dues_of {xs : List Vl} : ∀ {ts : List (Addr × Fd)}, AIn (fun y (t : Addr × Fd) => ∃ a, y = .ref a ∧ ∃ w, TV n a [.int t.2.1, .ref w] ∧ ToldV n w t.2.2.2) xs ts → ∃ as, xs = as.map .ref ∧ DIn n as (mp (ts.map (·.2))) := by
  induction xs with
  | nil =>
    intro ts h
    cases ts
    · exact ⟨[], rfl, trivial⟩
    · exact h.elim
  | cons x xs ih =>
    intro ts h
    cases ts with
    | nil => exact h.elim
    | cons t ts =>
      obtain ⟨as, e, D⟩ := ih h.2
      obtain ⟨a, rfl, w, h1⟩ := h.1
      exact ⟨a :: as, congrArg (_ :: ·) e, ⟨w, h1⟩, D⟩
theorem firstW_head (c : Str) : ∀ rs : List Rw, firstW c rs = ((rs.filter fun r => r.2.1 == c).map (·.2.2)).head?
  | [] => rfl
  | r :: rs => by
    show (if (r.2.1 == c) = true then some r.2.2 else firstW c rs) = _
    rw [List.filter_cons]
    by_cases h : (r.2.1 == c) = true
    · rw [if_pos h, if_pos h]; rfl
    · rw [if_neg h, if_neg h]; exact firstW_head c rs
theorem fields_leaf (d : Nd) (o : Int) : fields (.mk d []) o true = [(o, d.s, d.S)] := by
  show (if isg [] = true then fieldsL [] d.F.off o else if (d.F.nm == "FILLER" && !true) = true then [] else [(o, d.s, d.S)]) = _
  rw [if_neg (by decide), Bool.not_true, Bool.and_false, if_neg Bool.false_ne_true]
theorem Grw.plain {n0 : Led} {pl : Addr} {ns : List Int} {p : Int} {d : Nd} {ts : List Tr} (G : Grw n0 n pl ns (Mine.lay p (.mk d ts)) 5) (o : Int) (h : (d.F.nm == "FILLER") = false) : mp (fields (Mine.lay p (.mk d ts)) o true) = due (Mine.lay p (.mk d ts)) o ∧ (fields (Mine.lay p (.mk d ts)) o true).length ≤ 60000 :=
  ⟨plain_goal d ts p o h, Nat.le_trans (fields_len _ _ o true G.tr) (Nat.le_trans (Nat.pow_le_pow_right (by decide) G.hg) (by decide))⟩
end
end Mine
namespace Mine
theorem DoesV.one {W : Wd} {f : Addr} {xs : List Vl} {k : Nat} {n : Led} {Post : Vl → Led → Prop} (h : One n → DoesV W f xs k n Post) : DoesV W f xs k n Post := fun us hus ζ C m rm => Wt.one fun o => h o us hus C m rm
theorem DoesV.le {W : Wd} {f : Addr} {xs : List Vl} {k k' : Nat} {n : Led} {Post : Vl → Led → Prop} (h : DoesV W f xs k n Post) (e : k ≤ k') : DoesV W f xs k' n Post := fun us hus ζ C m rm => h us hus C m (rm.le e)
section
variable {W : Wd} {Z : St} {C : Cx W Z} {n : Led} {lm : Lm} {sc : Scope} {cl' : List (Str × Addr)} {iter : PySem.Expr} {R : Vl → Led → Prop} {pos p1 p2 p3 p4 p5 p6 p7 p8 : Pos} {k1 k2 : Nat}
theorem Vw.tolds (rm : Rm C 1) (h : Vw C C.env lm n iter fun x n1 => ∃ l us zs, x = .ref l ∧ LV n1 l (us.map .ref) ∧ FIn n1 us zs ∧ zs.length ≤ 60000 ∧ ∀ E n2 as, LV n2 E (as.map .ref) → DIn n2 as (mp zs) → (Kk n1 n2) → R (.ref E) n2)
    (hclos : closureFor sc C.env = Pure.pure cl') (hcell : (sc.names.all fun y => decide (y.2 ≠ .cell)) = true) (hkind : sc.kind = .function)
    (hnames : (sc.names.all fun y => decide (y.2 = .local → sc.names.lookup y.1 = some .local)) = true) (hs : ∀ x, foldedSetIterable iter C.env x = Pure.pure x)
    (hx : sc.names.lookup ("offset" : Str) = some .local) (hx2 : sc.names.lookup ("shape" : Str) = some .local) (hk : (compEnvC sc cl' 0 (Z.env 0)).scope.kind = .function) (hl : (compEnvC sc cl' 0 (Z.env 0)).kindOf "offset" = some .local) (hl2 : (compEnvC sc cl' 0 (Z.env 0)).kindOf "shape" = some .local)
    {pl : Addr → Sem Bool} (h1 : ∀ D, eval (((PySem.Expr.Name "shape" p2).Attribute "told" p3).Call [] [] p4) (compEnvC sc cl' D C.env) = (do let ov ← eval (.Name "shape" p2) (compEnvC sc cl' D C.env); standAt p3.atName; let x ← holding [ov] (getMethod ov "told" (pl D)); match x with | (f, first) => callWith p4 f first (backTo p4 (starEach [] (compEnvC sc cl' D C.env))) [])) :
    Vw C C.env lm n (.ListComp (.Tuple [.Name "offset" p1, .Call (.Attribute (.Name "shape" p2) "told" p3) [] [] p4] k1 p5) [⟨.Tuple [.Name "offset" p6, .Name "shape" p7] k2 p8, iter, [], 0⟩] sc pos) R := by
  refine .comp (g := fun t : Addr × Fd => .ref t.1) (zs := fun t => [("shape", .ref t.2.2.1), ("offset", .int t.2.1)]) (f := fun ζ => true) (P := fun n t y => ∃ a, y = .ref a ∧ ∃ w, TV n a [.int t.2.1, .ref w] ∧ ToldV n w t.2.2.2) (h.mono fun x n1 q => ?_) hclos hcell hkind hnames hs
  obtain ⟨l, us, zs, rfl, L, F, hz, ret⟩ := q
  obtain ⟨z1, z2, z3⟩ := F.zip
  refine ⟨l, us.zip zs, rfl, by rw [z1]; exact L, ?_, fun n n' t y k q => q.elim fun a q => ⟨a, q.1, q.2.elim fun w q => ⟨w, q.1.kt (.of k), q.2.kt (.of k)⟩⟩, fun t ht => .pair (z3 t ht).1 hx hx2 hkind, fun t ht => .all fun {N D} kp O => ?_, fun E n2 xs LE neE K2 A => ?_⟩
  · rw [List.length_zip]
    exact Nat.le_trans (Nat.min_le_right _ _) (Nat.le_trans hz (by decide))
  · obtain ⟨ds, S⟩ := (z3 t ht).2
    have S : ShIn N t.2.2.1 ds t.2.2.2 := S.mono (fun ζ h => kp _ h) fun ζ h => kp _ h
    exact .tup (.one (.ownK O rfl hk hl (by decide)) (.cons (.me0 mk_told rm (.ownK O rfl hk hl2 (by decide)) S rfl (stold_v S fun n2 w hw K2 lt2 => .nil ⟨Nat.le_of_ble_eq_true rfl, fun us a hu lt => ⟨fun p hp => .tail _ (K2 p hp), fun n'' k1 k2 => ⟨a, rfl, w, ⟨us, k1 _ (.head _) fun q hq => lt _ (K2 q hq), hu⟩, hw n'' fun p hp h => k1 p (.tail _ hp) h⟩⟩⟩) (h1 D)) rfl) rfl)
  · obtain ⟨as, rfl, D⟩ := dues_of A
    rw [List.filter_eq_self.mpr fun ζ ζ => rfl, z2] at D
    exact ret E n2 as LE D K2
end
end Mine
namespace Mine
section
variable {n n' : Led} {a s t tp c : Addr} {xs : List Vl} {w d : Str} {rs : List Rw}
noncomputable def plainV (rs : List Rw) (tp : Addr) : Vl := if (rs.map fun r => Vl.ref r.1).isEmpty = true then .ref tp else .none
noncomputable def dueV (w : Str) (rs : List Rw) (tp : Addr) : List Vl := (rs.filter fun r => r.2.1 == w).map (fun r => Vl.ref r.2.2) ++ [plainV rs tp]
theorem due_some (e : firstW w rs = some a) : (dueV w rs tp)[0]? = some (.ref a) ∧ ∃ r ∈ rs, r.2.2 = a := by
  rw [firstW_head] at e
  unfold dueV
  cases q : rs.filter fun r => r.2.1 == w with
  | nil => rw [q] at e; cases e
  | cons r t =>
    rw [q] at e
    cases e
    exact ⟨rfl, r, (List.mem_filter.mp (q ▸ List.mem_cons_self)).1, rfl⟩
theorem due_none (e : firstW w rs = none) (h : rs ≠ []) : (dueV w rs tp)[0]? = some .none := by
  rw [firstW_head] at e
  unfold dueV
  cases q : rs.filter fun r => r.2.1 == w with
  | nil =>
    cases rs with
    | nil => exact absurd rfl h
    | cons _ _ => rfl
  | cons r t => rw [q] at e; cases e
theorem due_nil (e : rs = []) : (dueV w rs tp)[0]? = some (.ref tp) := by subst e; rfl
noncomputable def Kn (n n' : Led) : Prop := ∀ p ∈ n, Calm p.2 → (∀ v, p.2.data ≠ .cell v) → p ∈ n'
theorem Kn.of {o : Obj} {v : Option Value} (one : One n) (h : (c, o) ∈ n) (hd : o.data = .cell v) (K : Kl c n n') : Kn n n' := fun p hp ζ hn => K p hp fun e => hn v (by rw [one p.1 p.2 o hp (e ▸ h)]; exact hd)
theorem LV.kn (h : LV n a xs) (K : Kn n n') : LV n' a xs := h.elim fun us h => h.elim fun k h => ⟨us, k, K _ h.1 calm_l (fun ζ e => by cases e), h.2⟩
theorem TV.kn (h : TV n a xs) (K : Kn n n') : TV n' a xs := h.elim fun us h => ⟨us, K _ h.1 calm_t (fun ζ e => by cases e), h.2⟩
theorem TabP.kn {pos : Pos} {q : Str} (T : TabP pos q n) (K : Kn n n') : TabP pos q n' := T.by (fun ps p => K _ p calm_n fun ζ e => by cases e) fun c' o vs s t p d v => K _ p (.inr fun ws e => ⟨s, t, by rw [d] at e; cases e; exact v⟩) fun ζ e => by rw [d] at e; cases e
theorem cell_ne {o : Obj} {v : Option Value} {pos : Pos} {q : Str} (one : One n) (h : (c, o) ∈ n) (hd : o.data = .cell v) (T : TabP pos q n) : c ≠ 120 := fun e => by
  obtain ⟨ps, p, ζ⟩ := T
  rw [one c o (tabObj ps) h (e ▸ p)] at hd
  cases hd
end
end Mine
namespace Mine
noncomputable def AtFn (K : Frag) (f : Addr) (X : Scope → List Stmt → Prop) : Prop := match K.lookup f with
  | some ⟨_, _, .func fd, _⟩ => (match fd.body with | .stmts b => X fd.scope b | _ => True)
  | _ => True
section
variable {K : Frag} {f : Addr} {X : Scope → List Stmt → Prop} {name qual : Str} {params : Arguments} {body : List Stmt} {scope : Scope} {dV kV doc pm : Value} {an : Option Addr} {cdv ct : Value}
theorem AtFn.of {oc od osl} (ho : K.lookup f = some ⟨oc, od, .func (fnOf name qual params body scope dV kV doc pm an cdv ct), osl⟩) (h : X scope body) : AtFn K f X := by unfold AtFn; rw [ho]; exact h
theorem AtFn.to {oc od osl} (h : AtFn K f X) (ho : K.lookup f = some ⟨oc, od, .func (fnOf name qual params body scope dV kV doc pm an cdv ct), osl⟩) : X scope body := by unfold AtFn at h; rw [ho] at h; exact h
end
theorem Sat.single {m : Loc} {z : Str} {x : Vl} {u : Value} (h : m z = some u) (hx : x.is u) : Sat m [(z, x)] := fun y w e => by
  rw [List.lookup_cons] at e
  by_cases q : y = z
  · subst q
    rw [beq_self_eq_true] at e
    cases e
    exact ⟨u, h, hx⟩
  · rw [beq_eq_false_iff_ne.mpr q] at e
    exact nomatch e
theorem LV.pool {n : Led} {pl : Addr} {α : Type} (f : α → Int) {ts : List α} (h : LV n pl (ts.map fun i => .int (f i))) : Pool n pl (ts.map f) := by rw [Pool, List.map_map]; exact h
noncomputable def lawSt (cs : Scope) (fa : Addr) (ccd : Value) (ca : Addr) : St := ⟨"law", cs, fa, ccd, [("category", ca)]⟩
structure LawOk (W : Wd) (cs : Scope) (body : List Stmt) : Prop where
  go : ∀ {fa ca : Addr} {ccd : Value} {C : Cx W (lawSt cs fa ccd ca)} {n : Led} {sl : Addr} {us : List Value} {ns0 : List Int} {co : Obj} {cv : Option Value}, C.h0.IsList sl us.toArray → IntsAre us ns0 → ns0.length ≤ 63 → Tab n → (ca, co) ∈ n → co.data = .cell cv → Rm C 50 →
    Sv C [("script", .ref sl)] n body ⟨fun x n' => x = .bool true ∧ Tab n', fun ζ ζ => False, fun ζ ζ => False⟩
structure RowsI (rl pl : Addr) (i : Nat) (s : List Rw × List Int) (n : Led) : Prop where
  list : LV n rl (s.1.map fun r => .ref r.1)
  row : ∀ r ∈ s.1, ∃ b, TV n r.1 [.str r.2.1, .ref r.2.2] ∧ TV n r.2.2 [.str "text", .bytes b]
  len : s.1.length = i
  pool : Pool n pl s.2
  hz : s.2.length ≤ 24
  tab : Tab n
theorem RowsI.kc {rl pl : Addr} {i : Nat} {s : List Rw × List Int} {n n' : Led} (h : RowsI rl pl i s n) (K : Kc n n') : RowsI rl pl i s n' := ⟨h.list.kc K, fun r hr => (h.row r hr).elim fun b q => ⟨b, q.1.kc K, q.2.kc K⟩, h.len, h.pool.kc K, h.hz, h.tab.kc K⟩
structure CatI (rl pl ca : Addr) (rs : List Rw) (ns : List Int) (n : Led) : Prop where
  list : LV n rl (rs.map fun r => .ref r.1)
  row : ∀ r ∈ rs, ∃ b, TV n r.1 [.str r.2.1, .ref r.2.2] ∧ TV n r.2.2 [.str "text", .bytes b]
  pool : Pool n pl ns
  tab : Tab n
  cell : ∃ o v, (ca, o) ∈ n ∧ o.data = .cell v
theorem CatI.kc {rl pl ca : Addr} {rs : List Rw} {ns : List Int} {n n' : Led} (h : CatI rl pl ca rs ns n) (K : Kc n n') : CatI rl pl ca rs ns n' := ⟨h.list.kc K, fun r hr => (h.row r hr).elim fun b q => ⟨b, q.1.kc K, q.2.kc K⟩, h.pool.kc K, h.tab.kc K, h.cell.elim fun o h => h.elim fun v h => ⟨o, v, K _ h.1 (.inr fun vs e => by rw [h.2] at e; cases e), h.2⟩⟩
noncomputable def rowI (rl pl : Addr) : Inv Nat (List Rw × List Int) := ⟨fun b => b = pl ∨ b = rl, fun ζ => [("rows", .ref rl), ("pool", .ref pl)], RowsI rl pl⟩
noncomputable def catI (rl pl ca : Addr) (rs : List Rw) (ns : List Int) : Inv (List Str) Unit := ⟨(· = ca), fun ζ => [("rows", .ref rl), ("pool", .ref pl)], fun ζ ζ => CatI rl pl ca rs ns⟩
theorem law_v {W : Wd} (P : Params) : AtFn (frag P) 258 (LawOk W) := by
  refine AtFn.of (by k_is) ⟨?_⟩
  intro fa ca ccd C n sl us ns0 co cv hsl hI hz0 T0 hco hcd rm
  refine .one fun o0 => .asgC (α := Int) (g := .int) (zs := fun i => [("number", .int i)]) (f := fun ζ => true) (P := fun ζ i y => y = .int ((if i < 0 then -i else i).fmod (10 ^ 80))) (.upto (.loc rfl rfl (by decide)) hsl hI ?_ (by decide) (fun D n' lt L K => ⟨D, ns0.take 24, rfl, L, ?_, fun ζ ζ ζ ζ ζ h => h, fun t ζ => .name rfl rfl, fun t ζ => .all fun kp O => .el (.mod (.abs (fun ζ ζ r => .ownBV n_abs b_abs (by decide) r rfl rfl (by decide)) (.ownK O rfl rfl rfl (by decide)) rfl rfl rfl) (.pow .int .int (by decide) (by decide) (by decide)) (by decide)) fun ζ ζ => rfl, fun pl n2 xs P2 ne2 K2 A2 => ?_⟩) (fun ζ => rfl) (fun ζ => rfl)) rfl rfl rfl rfl rfl rfl (fun ζ => rfl)
  · exact Nat.le_trans (Nat.le_of_eq hI.length) (Nat.le_trans hz0 (Nat.le_of_ble_eq_true rfl))
  · rw [List.length_take]; exact Nat.le_trans (Nat.min_le_left _ _) (Nat.le_of_ble_eq_true rfl)
  · obtain ⟨ns, P, hz⟩ : ∃ ns, Pool n2 pl ns ∧ ns.length ≤ 24 := by
      rw [AIn.eq A2, List.filter_eq_self.mpr fun ζ ζ => rfl] at P2
      exact ⟨_, LV.pool _ P2, by rw [List.length_map, List.length_take]; exact Nat.min_le_left _ _⟩
    have r2 : Rm C 2 := rm.le (by decide)
    refine .asgW (.fn k95 r2 (.glob g_Item rfl rfl (by decide)) (.one .int (.one .str (.nil (item_v fun n3 xR dR cR kR ltR IR LR K3 => ?_)) rfl) rfl) rfl rfl rfl) rfl rfl
    have hplk : pl < kR := let ⟨_, q⟩ := P.here; (ltR _ q).2.2
    have P3 : Pool n3 pl ns := P.mono fun ζ h => K3 _ h
    refine .one fun o3 => .forR (fun ζ ζ r => .blt n_range b_range (by decide) r)
      (.add .int (.take r2 (.glob g_take rfl rfl (by decide)) (.loc rfl rfl (by decide)) P3 hz (by decide) (by decide) (fun n5 c1 c2 z5 P5 K5 => ⟨_, rfl, .mk (k := (1 + takeD ns 3).toNat) (I := rootI xR dR pl cR kR) (vnat1 c1) (nat1_le c2 (by decide)) ⟨fun b hb => ?_, fun ζ ζ ζ ζ h kc => h.kc kc, ⟨([], _), .cons rfl (.cons rfl .nil), ⟨IR.offL o3 P3 K5, LV.off LR K5 (Nat.ne_of_gt hplk), trivial, P5, z5, hplk, List.nodup_nil, fun a ha => ha.elim (fun h => nomatch h) fun h => nomatch h⟩, rfl, Nat.zero_le _⟩, ?_, ?_⟩⟩) rfl rfl rfl rfl)) rfl rfl rfl rfl (fun ζ => rfl)
    · exact hb.elim (fun e => e ▸ P5.here) fun e => e ▸ (LV.off LR K5 (Nat.ne_of_gt hplk)).here
    · intro i s6 n6 hi o6 kp6 B6
      exact .ex (.me (k := 1) mk_add (rm.le (by decide)) (.loc rfl rfl (by decide)) B6.b.it rfl (.cons (.fn (k := 8) k224 (rm.le (by decide)) (.glob g_grown rfl rfl (by decide)) (.one (.loc rfl rfl (by decide)) (.one .int (.nil (grown_v 3 B6.b.pool B6.b.hz fun n7 ns7 t G7 => .nil (B6.add (Nat.le_trans (Nat.le_of_lt hi) (nat1_le c2 (by decide))) o6 G7 fun n8 s8 K8 B8 => .nil ⟨K8, s8, .cons rfl (.cons rfl .nil), B8⟩))) rfl) rfl) rfl rfl rfl) rfl) rfl rfl rfl) rfl rfl
    · rintro ⟨ts, ns9⟩ n9 kp9 ⟨B9, hlen, hh⟩
      have hlen : ts.length = _ := hlen
      have hlen3 : ts.length ≤ 3 := Nat.le_trans (Nat.le_of_eq hlen) (nat1_le c2 (by decide))
      refine .one fun o9 => .ex (.fn k236 (rm.le (by decide)) (.glob g_sized rfl rfl (by decide)) (.one (.loc rfl rfl (by decide)) (.nil (sized_v B9.it B9.kl (Nat.le_trans hlen3 (by decide)) (fun t ht => let N := (B9.kids.all t ht).n; ⟨N.it, N.oc, N.k0, N.k1⟩) fun n10 s ds lt10 I10 S10 K10 => ?_)) rfl) rfl rfl rfl) rfl rfl
      have G := grw_group (h := 4) (n := n2) o9 B9 (fun p hp => ⟨(ltR p hp).1, (ltR p hp).2.2⟩) rfl rfl rfl I10 S10 K10 hlen3 hh fun p hp h => kp9 p (K5 p (K3 p hp) h) fun q => q.elim h (Nat.ne_of_lt (ltR p hp).2.2)
      have hpl : ∃ o, (pl, o) ∈ n2 := P.here
      refine .ex (.fn k243 (k := 6) (rm.le (by decide)) (.glob g_lay rfl rfl (by decide)) (.one (.loc rfl rfl (by decide)) (.cons (.one fun o10 => .take r2 (.glob g_take rfl rfl (by decide)) (.loc rfl rfl (by decide)) G.pool G.hz (by decide) (by decide) (fun n11 d1 d2 z11 P11 K11 => .nil ?_) rfl rfl rfl rfl) rfl) rfl) rfl rfl rfl) rfl rfl
      have G11 := G.pool1 o10 hpl P11 z11 K11
      refine (lay_v _ G11.tr G11.nd fun n12 T12 K12 => ?_).le (Nat.succ_le_succ G11.hg)
      have G12 := G11.lay hpl T12 K12
      refine .one fun o12 => .asgW (.take r2 (.glob g_take rfl rfl (by decide)) (.loc rfl rfl (by decide)) G12.pool z11 (by decide) (by decide) (fun n13 f1 f2 z13 P13 K13 => ?_) rfl rfl rfl rfl) rfl rfl
      have G13 := G12.pool1 o12 hpl P13 z13 K13
      have K13 : Kk n n13 := fun p hp => G13.keep p (K2 p (K p hp)) (ne2 p (K p hp))
      have T13 : Tab n13 := T0.kc fun p hp ζ => K13 p hp
      have h5 := G13.hg
      have P13 := G13.plain (takeD (takeP ns9 9) 20) rfl
      have E13 := P13.1
      have hl13 := P13.2
      refine .iteV (.neLL (rm.le (j := 1) (by decide)).2 (.tolds (rm.le (by decide)) (.fn k139 (k := 10) (rm.le (by decide)) (.glob g_fields rfl rfl (by decide)) (.one (.loc rfl rfl (by decide)) (.one (.loc rfl rfl (by decide)) (.one .bool (.nil (.le (fields_v _ G13.tr (as := []) rfl (Nat.le_trans (Nat.add_le_add_left h5 0) (by decide)) T13 hl13 fun n14 l14 us14 L14 F14 T14 K14 ne14 => ⟨l14, us14, _, rfl, L14, F14, hl13, fun E n15 as LE D15 K15 => ?_⟩) (Nat.add_le_add_right h5 5))) rfl) rfl) rfl) rfl rfl rfl) rfl rfl rfl rfl (fun ζ => rfl) rfl rfl rfl rfl rfl (fun ζ => rfl)) rfl)
      rw [E13] at D15
      have k15 : Kp n13 n15 := fun p hp h => K15 p (K14 p hp h)
      refine ⟨E, rfl, .fn k248 (k := 8) (rm.le (by decide)) (.glob g_due rfl rfl (by decide)) (.one (.loc rfl rfl (by decide)) (.one (.loc rfl rfl (by decide)) (.nil (.le (due_v _ (TIn.kt k15.t _ _ G13.tr) ?_ fun n16 l16 us16 L16 D16 K16 => ⟨l16, rfl, .dues (LE.kt (.of K16)) (D15.kt (.of K16)) L16 D16, fun e => (nomatch e), fun ζ => .nil ?_⟩) (Nat.add_le_add_right h5 3))) rfl) rfl) rfl rfl rfl⟩
      · rw [← E13, mp, List.length_map]; exact hl13
      have K16' : Kp n n16 := fun p hp h => K16 p (k15 p (K13 p hp) h)
      have P16 := (G13.pool.kp k15).kt (.of K16)
      have T16 : Tab n16 := T14.kc fun p hp ζ => K16 p (K15 p hp)
      clear K16 D16 L16 D15 LE K15 F14 L14 K14 ne14 hl13 E13 P13 h5 k15 G13 G12 G11
      refine .asgW (.fn k217 (k := 3) (rm.le (by decide)) (.glob g_leaf rfl rfl (by decide)) (.one (.loc rfl rfl (by decide)) (.cons (.pick (.tup (.one .str (.one .str (.nil ⟨Nat.le_of_ble_eq_true rfl, fun us t hu lt1 => ⟨t, (["A", "FILLER"] : List Str).map Vl.str, rfl, .one fun o16 => .take r2 (.glob g_take rfl rfl (by decide)) (.loc rfl rfl (by decide)) (P16.mono fun ζ h => .tail _ h) z13 (by decide) (by decide) (fun n17 a1 a2 z17 P17 K17 => ?_) rfl rfl rfl rfl⟩⟩) rfl) rfl)) (fun ζ ζ ζ => rfl)) rfl) rfl) rfl rfl rfl) rfl rfl
      obtain ⟨nm, hnm, ζ⟩ := pickS ["A", "FILLER"] rfl a1 a2
      have T17 : Tab n17 := TabP.offL o16 (P16.mono fun ζ h => .tail _ h) K17 (T16.kc fun p hp ζ => .tail _ hp)
      refine ⟨_, .str nm, rfl, a1, Int.lt_trans a2 (by decide), hnm, ⟨us, K17 _ (.head _) (let ⟨_, h⟩ := P16.here; Nat.ne_of_gt (lt1 _ h)), hu⟩, .nil (.one fun o17 => leaf_v P17 z17 fun n18 x dx cd kl s' ds' z cat ns18 q0 q4 z18 lt18 I18 L18 S18 P18 K18 => ?_)⟩
      have T18 : Tab n18 := TabP.offL o17 P17 K18 T17
      have K18' : Kp n n18 := fun p hp h => K18 p (K17 p (.tail _ (K16' p hp h)) (ne2 p (K p hp))) (ne2 p (K p hp))
      have t18 := (grw_leaf lt18 I18 L18 S18 P18 z18 K18 0).tr
      refine .iteV (.neLL (rm.le (j := 1) (by decide)).2 (.tolds (rm.le (by decide)) (.fn k139 (k := 6) (rm.le (by decide)) (.glob g_fields rfl rfl (by decide)) (.one (.loc rfl rfl (by decide)) (.one (.loc rfl rfl (by decide)) (.one .bool (.nil (fields_v _ t18 (as := []) rfl (Nat.le_of_ble_eq_true rfl) T18 (by rw [fields_leaf]; exact Nat.le_of_ble_eq_true rfl) fun n19 l19 us19 L19 F19 T19 K19 ne19 => ⟨l19, us19, _, rfl, L19, F19, (by rw [fields_leaf]; exact Nat.le_of_ble_eq_true rfl), fun E n20 as LE D20 K20 => ?_⟩)) rfl) rfl) rfl) rfl rfl rfl) rfl rfl rfl rfl (fun ζ => rfl) rfl rfl rfl rfl rfl (fun ζ => rfl)) rfl)
      rw [fields_leaf] at D20
      have k20 : Kp n18 n20 := fun p hp h => K20 p (K19 p hp h)
      refine ⟨E, rfl, .list (.cons (.tup (.one (.loc rfl rfl (by decide)) (.cons (.me0 mk_told (rm.le (j := 1) (by decide)) (.attr fk_shape (I18.kp k20) rfl (.loc rfl rfl (by decide)) rfl) (S18.kp k20) rfl (stold_v (S18.kp k20) fun n21 w hw K21 lt21 => .nil ⟨Nat.le_of_ble_eq_true rfl, fun us t hu lt => .nil fun vs l hv => ⟨by rw [hv.length]; exact Nat.le_of_ble_eq_true rfl, fun lt2 => ⟨l, rfl, ?_, fun e => (nomatch e), fun ζ => .nil ?_⟩⟩⟩) rfl) rfl) rfl)) rfl)⟩
      · have k : ∀ p ∈ n20, p ∈ (l, listOf vs.toArray 0) :: (t, tupOf us) :: n21 := fun p hp => .tail _ (.tail _ (K21 p hp))
        exact .dues (bs := [t]) (LE.kt (.of k)) (D20.kt (.of k)) ⟨vs, 0, .head _, hv⟩ ⟨⟨w, ⟨us, .tail _ (.head _), hu⟩, (hw n21 fun ζ h ζ => h).kt (.of fun p hp => .tail _ (.tail _ hp))⟩, trivial⟩
      have k22 : ∀ p ∈ n20, p ∈ (l, listOf vs.toArray 0) :: (t, tupOf us) :: n21 := fun p hp => .tail _ (.tail _ (K21 p hp))
      have T22 := T19.kc fun p hp ζ => k22 p (K20 p hp)
      have P22 := (P18.kp k20).kt (.of k22)
      have K22 : Kp n _ := fun p hp h => k22 p (k20 p (K18' p hp h) h)
      generalize (l, listOf vs.toArray 0) :: (t, tupOf us) :: n21 = n22 at T22 P22 K22 ⊢
      refine .asgW (.nilList fun rl lt22 => ?_) rfl rfl
      have hrl : pl ≠ rl := let ⟨_, h⟩ := P22.here; Nat.ne_of_lt (lt22 _ h)
      refine .one fun o23 => .forR (fun ζ ζ r => .blt n_range b_range (by decide) r)
        (.take r2 (.glob g_take rfl rfl (by decide)) (.loc rfl rfl (by decide)) (P22.mono fun ζ h => .tail _ h) z18 (by decide) (by decide) (fun n24 b1 b2 z24 P24 K24 => .mk (k := (takeD ns18 3).toNat) (I := rowI rl pl) ?_ ?_ ⟨fun b hb => ?_, fun ζ ζ ζ ζ h kc => h.kc kc, ⟨([], _), .cons rfl (.cons rfl .nil), ⟨[], 0, K24 _ (.head _) (Ne.symm hrl), trivial⟩, (fun r hr => nomatch hr), rfl, P24, z24, TabP.offL o23 (P22.mono fun ζ h => .tail _ h) K24 (T22.kc fun p hp ζ => .tail _ hp)⟩, ?_, ?_⟩) rfl rfl rfl rfl) rfl rfl rfl rfl (fun ζ => rfl)
      · rw [Int.toNat_of_nonneg b1]
      · exact nat_le b2 (by decide)
      · exact hb.elim (fun e => e ▸ P24.here) fun e => e ▸ ⟨_, K24 _ (.head _) (Ne.symm hrl)⟩
      · rintro i ⟨rs, ns25⟩ n25 hi o25 kp25 ⟨L25, R25, hlen, P25, z25, T25⟩
        have hlen : rs.length = i := hlen
        refine .ex (.appends (.loc rfl rfl (by decide)) L25 (by rw [List.length_map, hlen]; exact Nat.le_trans (Nat.le_of_lt hi) (nat_le b2 (by decide))) (.tup (.cons (.pick (.tup (.one .str (.one .str (.one .str (.nil ⟨Nat.le_of_ble_eq_true rfl, fun us t hu lt1 => ⟨t, (["numeric", "alphanumeric", "edited"] : List Str).map Vl.str, rfl, .one fun o26 => .take r2 (.glob g_take rfl rfl (by decide)) (.loc rfl rfl (by decide)) (P25.mono fun ζ h => .tail _ h) z25 (by decide) (by decide) (fun n27 a1 a2 z27 P27 K27 => ?_) rfl rfl rfl rfl⟩⟩) rfl) rfl) rfl)) (fun ζ ζ ζ => rfl)) rfl)) rfl rfl rfl) rfl rfl
        obtain ⟨nm, hnm, ζ⟩ := pickS ["numeric", "alphanumeric", "edited"] rfl a1 a2
        have Kt27 : Kl pl n25 n27 := fun p hp h => K27 p (.tail _ hp) h
        have L27 := LV.off L25 Kt27 (Ne.symm hrl)
        have R27 : ∀ r ∈ rs, ∃ b, TV n27 r.1 [.str r.2.1, .ref r.2.2] ∧ TV n27 r.2.2 [.str "text", .bytes b] := fun r hr => (R25 r hr).elim fun b q => ⟨b, TV.offL o25 P25 Kt27 q.1, TV.offL o25 P25 Kt27 q.2⟩
        refine ⟨_, .str nm, rfl, a1, Int.lt_trans a2 (by decide), hnm, ⟨us, K27 _ (.head _) (P25.here.elim fun ζ h => Nat.ne_of_gt (lt1 _ h)), hu⟩, .cons (.one fun o27 => .tup (.one .str (.cons (.bytes (fun ζ ζ r => .blt n_bytes b_bytes (by decide) r) (.list (.one (.add .int (.loc rfl rfl (by decide))) (.nil fun vs l hv => ⟨by rw [hv.length]; exact Nat.le_of_ble_eq_true rfl, fun lt2 => ⟨l, [97 + (i : Int)], rfl, ⟨vs, 0, .head _, hv⟩, ?_, Nat.le_of_ble_eq_true rfl, fun b => .nil ⟨Nat.le_of_ble_eq_true rfl, fun ws t2 hw lt3 => .nil ⟨Nat.le_of_ble_eq_true rfl, fun ys t3 hy lt4 => ⟨L27.mono fun ζ h => .tail _ (.tail _ (.tail _ h)), fun n28 L28 K28 => .nil ?_⟩⟩⟩⟩⟩) rfl)) rfl rfl rfl) rfl) rfl)) rfl⟩
        · intro j hj
          rw [List.mem_singleton.mp hj]
          exact byte_ok hi b2
        · have k : Kl rl n27 n28 := fun p hp h => K28 p (.tail _ (.tail _ (.tail _ hp))) h
          have lr : ∃ o, (rl, o) ∈ n27 := L27.here
          have h2 : t2 ≠ rl := lr.elim fun ζ h => Nat.ne_of_gt (lt3 _ (.tail _ h))
          have h3 : t3 ≠ rl := lr.elim fun ζ h => Nat.ne_of_gt (lt4 _ (.tail _ (.tail _ h)))
          refine ⟨fun p hp h => k p (Kt27 p hp fun e => h (.inl e)) fun e => h (.inr e), (rs ++ [(t3, nm, t2)], _), .cons rfl (.cons rfl .nil), by rw [List.map_append]; exact L28, fun r hr => ?_, by rw [List.length_append, hlen]; rfl, LV.off P27 k hrl, z27, TabP.offL o27 L27 k (TabP.offL o25 P25 Kt27 T25)⟩
          rcases List.mem_append.mp hr with hr | hr
          · exact (R27 r hr).elim fun b q => ⟨b, TV.offL o27 L27 k q.1, TV.offL o27 L27 k q.2⟩
          · rw [List.mem_singleton.mp hr]
            exact ⟨b, ⟨ys, K28 _ (.head _) h3, hy⟩, ⟨ws, K28 _ (.tail _ (.head _)) h2, hw⟩⟩
      · rintro ⟨rs, ns25⟩ n25 kp25 ⟨L25, R25, hlen, P25, z25, T25⟩
        have hlen : rs.length = _ := hlen
        have nca : ca ≠ 120 := cell_ne o0 hco hcd T0
        have ca22 : (ca, co) ∈ n22 := K22 _ hco (.inr nca)
        have npl : ca ≠ pl := ne2 _ (K _ hco)
        have nrl : ca ≠ rl := Nat.ne_of_lt (lt22 _ ca22)
        have ca25 : (ca, co) ∈ n25 := kp25 _ (K24 _ (.tail _ ca22) npl) fun e => e.elim npl nrl
        have hz : rs.length ≤ 100 := Nat.le_trans (Nat.le_of_eq hlen) (nat_le b2 (by decide))
        clear kp25 K24 K22 T22 P22 lt22 K P2
        refine .forT (.tup (.one .str (.one .str (.one .str (.one .str (.one .str (.nil ⟨Nat.le_of_ble_eq_true rfl, fun us tl hu ltl => .mk (g := Vl.str) (ts := ["numeric", "alphanumeric", "edited", "alphabetic", "alnum-edited"]) (I := catI rl pl ca rs ns25) ⟨us, .head _, hu⟩ ⟨fun b hb => hb ▸ ⟨Nat.ne_of_lt (ltl _ ca25), co, .tail _ ca25⟩, fun ζ ζ ζ ζ h kc => h.kc kc, ⟨(), .cons rfl (.cons rfl .nil), L25.mono fun ζ h => .tail _ h, fun r hr => (R25 r hr).elim fun b q => ⟨b, q.1.mono fun ζ h => .tail _ h, q.2.mono fun ζ h => .tail _ h⟩, P25.mono fun ζ h => .tail _ h, T25.kc fun ζ h ζ => .tail _ h, co, cv, .tail _ ca25, hcd⟩, ?_, ?_⟩⟩) rfl) rfl) rfl) rfl) rfl)) (fun ζ => rfl)
        · rintro w r ζ n26 one26 kp26 ⟨L26, R26, P26, T26, co6, cv6, hco6, hcd6⟩
          refine .cell rfl hco6 hcd6 (fun n27 kp27 Cc => ?_) (fun ζ => rfl)
          have kn := Kn.of one26 hco6 hcd6 kp27
          have L27 := L26.kn kn
          have R27 : ∀ r ∈ rs, ∃ b, TV n27 r.1 [.str r.2.1, .ref r.2.2] ∧ TV n27 r.2.2 [.str "text", .bytes b] := fun r hr => (R26 r hr).elim fun b q => ⟨b, q.1.kn kn, q.2.kn kn⟩
          have P27 := P26.kn kn
          have T27 := T26.kn kn
          refine .asgW (Vw.mono (R := fun x n28 => ∃ tp, x = .ref tp ∧ (Kk n27 n28) ∧ TV n28 tp [.str "figure", .str (figW w)]) (.ifeV (.inT ["numeric", "edited"] (.cell rfl Cc (fun ζ => rfl) rfl) (.one .str (.one .str (.nil ⟨rfl, rfl⟩) rfl) rfl) (by decide) (fun n2 K2 => ⟨fun hc => .tup (.one .str (.one .str (.nil ⟨Nat.le_of_ble_eq_true rfl, fun us t hu lt => ⟨t, rfl, fun p hp => .tail _ (K2 p hp), us, .head _, by rw [show figW w = "ZERO" from if_pos hc]; exact hu⟩⟩) rfl) rfl), fun hc => .tup (.one .str (.one .str (.nil ⟨Nat.le_of_ble_eq_true rfl, fun us t hu lt => ⟨t, rfl, fun p hp => .tail _ (K2 p hp), us, .head _, by rw [show figW w = "SPACE" from if_neg (by rw [show isNE w = false from hc]; exact Bool.false_ne_true)]; exact hu⟩⟩) rfl) rfl)⟩) rfl)) fun x n28 q => ?_) rfl rfl
          obtain ⟨tp, rfl, K28, T28⟩ := q
          have L28 := L27.mono (n' := n28) fun ζ h => K28 _ h
          have C28 : CellV n28 ca (.str w) := Cc.elim fun o h => h.elim fun u h => ⟨o, u, K28 _ h.1, h.2⟩
          refine .asgW (Vw.mono (R := fun x n29 => ∃ D, x = .ref D ∧ (Kk n28 n29) ∧ LV n29 D (dueV w rs tp)) (.catV (.comp (g := fun r : Rw => .ref r.1) (zs := fun r => [("operand", .ref r.2.2), ("word", .str r.2.1)]) (f := fun r => r.2.1 == w) (P := fun ζ r y => y = .ref r.2.2) (Ev.w (.loc rfl rfl (by decide)) ⟨rl, rs, rfl, L28, Nat.le_trans hz (Nat.le_of_ble_eq_true rfl), fun ζ ζ ζ ζ ζ h => h, fun r hr => .pair ((R27 r hr).elim fun b q => q.1.mono fun ζ h => K28 _ h) rfl rfl rfl, fun r hr => .one (fun kp O => .cmp (.eqS (.ownK O rfl rfl rfl (by decide)) (.cellK rfl (C28.elim fun o h => h.elim fun u h => ⟨o, u, kp _ h.1, h.2⟩) rfl rfl rfl)) rfl) fun ζ ζ ζ kp O => .el (.ownK O rfl rfl rfl (by decide)) fun ζ ζ => rfl, fun E n29 xs L29 neE K29 A => ⟨E, xs, rfl, .list (.cons (Vw.mono (R := fun x n30 => (Kk n29 n30) ∧ x = plainV rs tp) (.ifeV (.eqNil (rm.le (j := 1) (by decide)).u (Ev.w (.loc rfl rfl (by decide)) ⟨rl, _, rfl, L28.mono fun ζ h => K29 _ h, fun n30 K30 => ⟨fun he => Ev.w (.loc rfl rfl (by decide)) ⟨K30, (if_pos he).symm⟩, fun he => Ev.w .cnone ⟨K30, (if_neg (by rw [he]; exact Bool.false_ne_true)).symm⟩⟩⟩) rfl)) fun x n30 q => .nil fun us l hu => ⟨by rw [hu.length]; exact Nat.le_of_ble_eq_true rfl, fun lt => ⟨l, _, rfl, L29.mono fun ζ h => .tail _ (q.1 _ h), ⟨us, 0, .head _, hu⟩, ?_, fun D n32 lt3 L32 K32 => ⟨D, rfl, fun p hp => K32 p (.tail _ (q.1 p (K29 p hp))), ?_⟩⟩⟩) rfl)⟩⟩) rfl rfl rfl rfl (fun ζ => rfl))) fun x n31 q => ?_) rfl rfl
          · rw [A.len]
            exact Nat.le_trans (Nat.succ_le_succ (Nat.le_trans (List.length_filter_le _ _) hz)) (Nat.le_of_ble_eq_true rfl)
          · rw [AIn.eq A, q.2] at L32
            exact L32
          obtain ⟨D, rfl, K31, D31⟩ := q
          have K31' : Kk n27 n31 := fun p hp => K31 p (K28 p hp)
          refine .iteV (.neV (rm.le (j := 1) (by decide)).2 (Vw.mono (R := fun x n33 => ∃ y, (Kk n31 n33) ∧ (dueV w rs tp)[0]? = some y ∧ Nlk n33 x y) (.fn k146 (k := 1) (rm.le (by decide)) (.glob g_worth rfl rfl (by decide)) (.cons (.fn k178 (k := 2) (rm.le (by decide)) (.glob g_Shape rfl rfl (by decide)) (.one (.cell rfl (C28.elim fun o h => h.elim fun u h => ⟨o, u, K31 _ h.1, h.2⟩) (fun ζ => rfl) rfl) (.one .int (.nil (shape_v false (fun ζ => rfl) fun n32 s ds lt32 S32 K32 => .one (.loc rfl rfl (by decide)) (.nil (worth_v S32 (L27.mono fun ζ h => K32 _ (K31' _ h)) (fun r hr => (R27 r hr).elim fun b q => q.1.mono fun ζ h => K32 _ (K31' _ h)) hz (fun a n33 e K33 => ?_) (fun e h n33 K33 => ⟨.none, fun p hp => K33 p (K32 p hp), due_none e h, .none⟩) (fun e n33 t K33 T33 ne => ?_))) rfl)) rfl) rfl) rfl rfl rfl) rfl) rfl rfl rfl) fun x n33 q => ?_) rfl)
          · obtain ⟨e1, r, hr, rfl⟩ := due_some (tp := tp) e
            exact ⟨_, fun p hp => K33 p (K32 p hp), e1, (R27 r hr).elim fun b q => .same (q.2.mono fun ζ h => K33 _ (K32 _ (K31' _ h)))⟩
          · exact ⟨.ref tp, fun p hp => K33 p (K32 p hp), due_nil e, .tup T33 (T28.mono fun ζ h => K33 _ (K32 _ (K31 _ h))) ⟨.pl trivial, .pl trivial, trivial⟩⟩
          obtain ⟨y, K33, hy, N33⟩ := q
          have K : Kk n27 n33 := fun p hp => K33 p (K31' p hp)
          exact Ev.w (.itemL (.loc rfl rfl (by decide)) (D31.mono fun ζ h => K33 _ h) .int (by decide) (by decide) hy (fun ζ => rfl) fun ζ => rfl) ⟨N33, fun e => (nomatch e), fun ζ => .nil (.nil ⟨fun p hp h => K p (kp27 p hp h), (), .cons rfl (.cons rfl .nil), L27.mono fun ζ h => K _ h, fun r hr => (R27 r hr).elim fun b q => ⟨b, q.1.mono fun ζ h => K _ h, q.2.mono fun ζ h => K _ h⟩, P27.mono fun ζ h => K _ h, T27.kc fun p hp ζ => K p hp, Cc.elim fun o h => h.elim fun u h => ⟨o, _, K _ h.1, h.2.1⟩⟩)⟩
        · rintro ζ n26 kp26 ⟨L26, R26, P26, T26, hc⟩
          exact .retW (.fn0 k253 (k := 9) (rm.le (by decide)) (.glob g_right rfl rfl (by decide)) (right_v P26 z25 T26 fun ζ T => ⟨rfl, T⟩) rfl)
end Mine
namespace Mine
theorem law_in {w : World} {p : Program} {loose : List Str} {mean : ExcName → Option Value} {mg mb : Str → Option Value} {h0 h1 : Heap} {L : Addr} {cn : Str} {cs : Scope} {a : Addr} {ccd : Value} {m : Loc} {n : Led} {body : List Stmt} {s : Shared} {Q : Flow → Shared → Prop}
    (X : (frag w.params).In h0) (T : Top p loose mean mg mb h0) (K : Below callerA h0 [] h0) (F : Fr h0 L h1 m) (N : News h0 L h1 n) (G : CodeHd h0 124 120) (hk : cs.kind = .function) (es : s.heap = h1)
    (h : ∀ C : Cx ⟨w, p, loose, mean, mg, mb⟩ ⟨cn, cs, a, ccd, [("category", L + 1)]⟩, C.L = L → C.h0 = h0 → Rm C 50 → Ws C m n body fun fl ζ n' => fl = .ret (.bool true) ∧ Tab n')
    (k : ∀ m' h' tk' n' ps, Fr h0 L h' m' → News h0 L h' n' → (120, tabObj ps) ∈ n' → Q (.ret (.bool true)) { s with heap := h', toks := tk' }) : wpAny (model pg w) (callerA.deeper (envX cn cs L a ccd [("category", L + 1)])) (execs body (envX cn cs L a ccd [("category", L + 1)])) Q No s := by
  let C : Cx ⟨w, p, loose, mean, mg, mb⟩ ⟨cn, cs, a, ccd, [("category", L + 1)]⟩ := { A := callerA.deeper (envX cn cs L a ccd [("category", L + 1)]), outer := [], A0 := callerA, base := h0, h0 := h0, L := L, hA := Around.frames_deeper rfl, hh := rfl, B := K, X := X, T := T, G := G, hk := hk }
  subst es
  have d0 : callerA.depth + 1 + 50 < recursionLimit := by decide
  have u0 : callerA.units + 3 + 8 * 50 < cLine := by decide
  exact Ws.go (C := C) (h C rfl rfl ⟨d0, u0⟩) ⟨F, N⟩ fun fl m' n' h' tk' z r => by
    obtain ⟨rfl, ps, hT, ζ⟩ := r
    exact k m' h' tk' n' ps z.1 z.2 hT
theorem law_sv {W : Wd} {Z : St} {C : Cx W Z} {m : Loc} {n : Led} {body : List Stmt} {sl : Addr} (hm : m "script" = some (.ref sl)) (h : Sv C [("script", .ref sl)] n body ⟨fun x n' => x = .bool true ∧ Tab n', fun ζ ζ => False, fun ζ ζ => False⟩) : Ws C m n body fun fl ζ n' => fl = .ret (.bool true) ∧ Tab n' :=
  (h m (.single hm rfl)).mono fun fl m' n' q => by
    cases fl with
    | ret u =>
      obtain ⟨x, hx, rfl, T⟩ := q
      obtain rfl : u = .bool true := hx
      exact ⟨rfl, T⟩
    | next => exact q.elim fun ζ q => q.2.elim
    | cont => exact q.elim fun ζ q => q.2.elim
    | brk => exact q.elim
theorem law_w {W : Wd} : AtFn (frag W.w.params) 258 (LawOk W) := law_v _
theorem lookup_mem {a : Addr} {o : Obj} {l : Frag} (h : l.lookup a = some o) : (a, o) ∈ l := by
  induction l with
  | nil => exact nomatch h
  | cons p l ih =>
    obtain ⟨b, q⟩ := p
    rw [List.lookup_cons] at h
    by_cases e : a = b
    · subst e; rw [beq_self_eq_true] at h; cases h; exact .head _
    · rw [beq_eq_false_iff_ne.mpr e] at h; exact .tail _ (ih h)
theorem frag_eq (P : Params) : frag P = (hd.heap_270 P).filter fun p => ((frag P).map (·.1)).contains p.1 := by kernel_rfl
theorem frag_at {as : List Addr} {w : World} {s₀ s₁ : Shared} (y : X.obsZ as s₀ = X.valZ hd.heap_270 259 555 w) (e : ∀ P, as = (hd.heap_270 P).map (·.1)) (k : ∀ b o, s₀.heap.get? b = some o → s₁.heap.get? b = some o) : (frag w.params).In s₁.heap ∧ ∀ P ∈ [120], s₁.heap.get? P = some (tabObj #[]) := by
  have A := (X.z_facts e y).1
  have H : ∀ {K : Frag}, X.AllIn s₀.heap K → ∀ p ∈ K, s₀.heap.get? p.1 = some p.2 := fun {K} => by
    induction K with
    | nil => exact fun ζ p hp => nomatch hp
    | cons q K ih =>
      intro A p hp
      rcases List.mem_cons.mp hp with rfl | hp
      · exact A.1
      · exact ih A.2 p hp
  refine ⟨fun a o q => k _ _ (H A (a, o) ?_), fun P hP => k _ _ (H A (P, _) ?_)⟩
  · have q := lookup_mem q
    rw [frag_eq] at q
    exact (List.mem_filter.mp q).1
  · rw [List.mem_singleton.mp hP]
    exact lookup_mem (l := hd.heap_270 w.params) rfl
theorem t1 : PySem.Challenge.rw_og0082_01.Holds := hd (by
  intro w s₀ s₁ mg mb G y fa o pm cd doc dV kV ho hd' hcd hD hmg hg args vals as L hpre hlay hrd hwl hlo
  obtain ⟨KX, hT8⟩ := frag_at y (fun ζ => rfl) L.keeps
  have X := (Ground.X G).1
  have V := (Ground.X G).2
  refine Ground.open G ?_
  intro T B D TE TW
  try (refine guard_noD D (by decide +kernel) ?_; clear D)
  have hT9 : TabsAt [(124, 120)] s₁.heap := List.forall_mem_cons.mpr ⟨⟨codeHd_of_K (c := 124) (P := 120) KX (by kernel_rfl), hT8 120 (.head _)⟩, fun ζ h => nomatch h⟩
  clear hmg
  wrow_args hpre hlay hrd hwl hlo
  all_goals (
    first | refine callC_kw (enter_call ?_) | refine enter_call ?_
    w_top on
    kn_posts
    w_call any ho hd' hcd hD T F
    clear hd'
    kn_ghosts F T
    k_drop
    skip)
  rename_i X' T' K' F' N' l0
  refine wpAny_mono (law_in X' T' K' F' N' codeHd rfl rfl (fun C e1 e2 rm => law_sv rfl ((law_w.to (by k_is)).go (cv := none) (e2 ▸ lifted) (by assumption) (by omega) ⟨#[], .tail _ (.head _), .inl rfl⟩ (.head _) (by assumption) rm)) fun m' h' tk' n' ps F2 N2 hT => ?_) (fun ζ ζ q => q) fun ζ ζ x => x.elim
  exact ⟨goodW_bool F2 (by assumption) (raisesW_false (by wrow_none_raised)) (by kc_post), ⟨ps, (N2 _ hT).1⟩, trivial⟩)
end Mine


theorem PySem.Challenge.cw_og0082_01_holds : PySem.Challenge.rw_og0082_01.Holds :=
  Mine.t1
