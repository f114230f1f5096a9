import PyProof.Rows.All
import Wide.All
import OpenK.KMisc
import KE.KUnpack
import KE.LcTurns
import PyProof.ExcClass
import PyProof.Rows.Top
import PyProof.StationsW
import PyProof.ExcInit
import PyProof.PassesOwn
import PyProof.InstLoad
import PyProof.ExcArgsOwn
import PyProof.InstStoreFacts
import PyProof.ExcBaseAll.Exception
import PyProof.AssignAttr
import Lean
import PySem.Challenge.RW_sa0121_01

set_option genSizeOf false
set_option genInjectivity false
section
open PySem PySem.W PySem.Calls PyProof.Rows
set_option Elab.async false
set_option maxRecDepth 100000
set_option linter.unusedVariables false
namespace Mine

/-- pure data; adr: the value itself -/
inductive D where
  | none
  | bool (b : Bool)
  | int (i : Int)
  | str (x : Str)
  | tup (ds : List D)
  | lst (ds : List D)
  | adr (v : Value)

abbrev Hp := Addr → Obj → Prop
abbrev tobj (vs : List Value) (n : Nat) : Obj := { cls := .type "tuple", data := .seq vs.toArray n }
abbrev lobj (vs : List Value) (n : Nat) : Obj := { cls := .type "list", data := .seq vs.toArray n }
/-- no list of ours is longer -/
abbrev Bd : Nat := 4096

mutual
inductive Ok (φ : Hp) : Value → D → Prop
  | none : Ok φ .none .none
  | bool (b : Bool) : Ok φ (.bool b) (.bool b)
  | int (i : Int) (t : Tok) : Ok φ (.int i t) (.int i)
  | str (x : Str) (t : Tok) : Ok φ (.str x t) (.str x)
  | tup {a : Addr} {n : Nat} {vs : List Value} {ds : List D} : φ a (tobj vs n) → vs.length ≤ Bd → Oks φ vs ds → Ok φ (.ref a) (.tup ds)
  | lst {a : Addr} {n : Nat} {vs : List Value} {ds : List D} : φ a (lobj vs n) → vs.length ≤ Bd → Oks φ vs ds → Ok φ (.ref a) (.lst ds)
  | adr (v : Value) : Ok φ v (.adr v)
inductive Oks (φ : Hp) : List Value → List D → Prop
  | nil : Oks φ [] []
  | cons {v : Value} {vs : List Value} {d : D} {ds : List D} : Ok φ v d → Oks φ vs ds → Oks φ (v :: vs) (d :: ds)
end

mutual
theorem Ok.mono {φ ψ : Hp} (hs : ∀ a o, φ a o → ψ a o) : ∀ {v : Value} {d : D}, Ok φ v d → Ok ψ v d
  | _, _, .none => .none
  | _, _, .bool b => .bool b
  | _, _, .int i t => .int i t
  | _, _, .str x t => .str x t
  | _, _, .tup h hl r => .tup (hs _ _ h) hl (Oks.mono hs r)
  | _, _, .lst h hl r => .lst (hs _ _ h) hl (Oks.mono hs r)
  | _, _, .adr v => .adr v
theorem Oks.mono {φ ψ : Hp} (hs : ∀ a o, φ a o → ψ a o) : ∀ {vs : List Value} {ds : List D}, Oks φ vs ds → Oks ψ vs ds
  | _, _, .nil => .nil
  | _, _, .cons h r => .cons (Ok.mono hs h) (Oks.mono hs r)
end

mutual
/-- only tuples and lists are asked of the heap -/
theorem Ok.mono' {φ ψ : Hp} (hs : ∀ a vs n, φ a (tobj vs n) → ψ a (tobj vs n)) (hl' : ∀ a vs n, φ a (lobj vs n) → ψ a (lobj vs n)) : ∀ {v : Value} {d : D}, Ok φ v d → Ok ψ v d
  | _, _, .none => .none
  | _, _, .bool b => .bool b
  | _, _, .int i t => .int i t
  | _, _, .str x t => .str x t
  | _, _, .tup h hl r => .tup (hs _ _ _ h) hl (Oks.mono' hs hl' r)
  | _, _, .lst h hl r => .lst (hl' _ _ _ h) hl (Oks.mono' hs hl' r)
  | _, _, .adr v => .adr v
theorem Oks.mono' {φ ψ : Hp} (hs : ∀ a vs n, φ a (tobj vs n) → ψ a (tobj vs n)) (hl' : ∀ a vs n, φ a (lobj vs n) → ψ a (lobj vs n)) : ∀ {vs : List Value} {ds : List D}, Oks φ vs ds → Oks ψ vs ds
  | _, _, .nil => .nil
  | _, _, .cons h r => .cons (Ok.mono' hs hl' h) (Oks.mono' hs hl' r)
end

theorem Oks.length {φ : Hp} : ∀ {vs : List Value} {ds : List D}, Oks φ vs ds → vs.length = ds.length
  | _, _, .nil => rfl
  | _, _, .cons _ r => by rw [List.length_cons, List.length_cons, Oks.length r]
theorem Oks.append {φ : Hp} : ∀ {vs ws : List Value} {ds es : List D}, Oks φ vs ds → Oks φ ws es → Oks φ (vs ++ ws) (ds ++ es)
  | _, _, _, _, .nil, k => k
  | _, _, _, _, .cons h r, k => .cons h (Oks.append r k)
theorem Oks.get {φ : Hp} : ∀ {vs : List Value} {ds : List D}, Oks φ vs ds → ∀ {k : Nat} {d : D}, ds[k]? = some d → ∃ v, vs[k]? = some v ∧ Ok φ v d
  | _, _, .nil, k, d, h => by simp at h
  | _, _, .cons h r, 0, d, e => by simp at e; subst e; exact ⟨_, rfl, h⟩
  | _, _, .cons h r, k + 1, d, e => by simp at e; simpa using Oks.get r e
theorem Oks.take {φ : Hp} : ∀ {vs : List Value} {ds : List D} (k : Nat), Oks φ vs ds → Oks φ (vs.take k) (ds.take k)
  | _, _, 0, _ => by simpa using Oks.nil
  | _, _, _ + 1, .nil => by simpa using Oks.nil
  | _, _, k + 1, .cons h r => by simpa using Oks.cons h (Oks.take k r)
theorem Oks.drop {φ : Hp} : ∀ {vs : List Value} {ds : List D} (k : Nat), Oks φ vs ds → Oks φ (vs.drop k) (ds.drop k)
  | _, _, 0, h => by simpa using h
  | _, _, _ + 1, .nil => by simpa using Oks.nil
  | _, _, k + 1, .cons h r => by simpa using Oks.drop k r
theorem Oks.replicate {φ : Hp} {v : Value} {d : D} (h : Ok φ v d) : ∀ k : Nat, Oks φ (List.replicate k v) (List.replicate k d)
  | 0 => by simpa using Oks.nil
  | k + 1 => by simpa [List.replicate_succ] using Oks.cons h (Oks.replicate h k)

abbrev Kp (h h' : Heap) : Prop := ∀ b o, h.get? b = some o → h'.get? b = some o
/-- the part of the heap that nobody changes -/
abbrev Fz (M : Addr → Prop) (h : Heap) : Hp := fun a o => h.get? a = some o ∧ ¬ M a

theorem Ok.keeps {M : Addr → Prop} {h h' : Heap} {v : Value} {d : D} (x : Ok (Fz M h) v d) (hk : Kp h h') : Ok (Fz M h') v d := x.mono fun a o e => ⟨hk a o e.1, e.2⟩
theorem Oks.keeps {M : Addr → Prop} {h h' : Heap} {v : List Value} {d : List D} (x : Oks (Fz M h) v d) (hk : Kp h h') : Oks (Fz M h') v d := x.mono fun a o e => ⟨hk a o e.1, e.2⟩
theorem Ok.less {M M' : Addr → Prop} {h : Heap} {v : Value} {d : D} (x : Ok (Fz M h) v d) (hm : ∀ a, M' a → M a) : Ok (Fz M' h) v d := x.mono fun a o e => ⟨e.1, fun q => e.2 (hm a q)⟩
theorem Oks.less {M M' : Addr → Prop} {h : Heap} {v : List Value} {d : List D} (x : Oks (Fz M h) v d) (hm : ∀ a, M' a → M a) : Oks (Fz M' h) v d := x.mono fun a o e => ⟨e.1, fun q => e.2 (hm a q)⟩

/-- the world, the heap behind the top, its two namespaces -/
structure Wd where
  w : World
  g : Heap
  mg : Str → Option Value
  mb : Str → Option Value

def st (i : Nat) : Stmt := PySem.Challenge.pw_sa0121_01.main.body.getD i (.Pass ⟨0, 0, 0, 0⟩)
def fN : Stmt → Str
  | .FunctionDef n .. => n
  | _ => Str.empty
def fP : Stmt → Arguments
  | .FunctionDef _ a .. => a
  | _ => ⟨[], [], none, [], [], none, []⟩
def fB : Stmt → List Stmt
  | .FunctionDef _ _ b .. => b
  | _ => []
def fS : Stmt → Scope
  | .FunctionDef _ _ _ _ _ _ s .. => s
  | _ => default

/-- a def of the text, plain: its object -/
structure Fd (W : Wd) (name : Str) (params : Arguments) (body : List Stmt) (scope : Scope) (a : Addr) (cd : Value) : Prop where
  mg : W.mg name = some (.ref a)
  ob : ∃ o pm doc, W.g.get? a = some o ∧ o.data = .func (docDef name params body scope pm cd doc)
  code : W.g.CodeRec cd name

def qd (x : Int × Int) : D := .tup [.int x.1, .int x.2]
/-- the text's written globals -/
def globs : List (Str × D) := [("R0", qd (0, 1)), ("R1", qd (1, 1)), ("MOST_BITS", .int 200000), ("MOST_SQUARED", .int 1000), ("MORE", .tup [.int 0, .int 2, .int 4, .int 8, .int 16, .int 32, .int 64])]
def funs : List Nat := [3, 4, 5, 10, 11, 12, 13, 14, 16, 17, 18, 20, 21, 22, 23, 24, 25, 26, 27, 28, 29, 30, 31, 32, 33, 36, 37, 40, 41, 42, 43, 44, 45, 46, 49, 50, 51, 52, 53, 54, 55, 56, 57, 61, 62, 63, 64, 65, 66, 68, 69, 70, 71, 72, 73]
def blts : List Str := ["abs", "min", "max", "len", "range", "list", "tuple", "int"]

structure Gd (W : Wd) : Prop where
  fd : ∀ i ∈ funs, ∃ a cd, Fd W (fN (st i)) (fP (st i)) (fB (st i)) (fS (st i)) a cd
  gv : ∀ p ∈ globs, ∃ v, W.mg p.1 = some v ∧ Ok (Fz (fun _ => False) W.g) v p.2
  nb : ∀ x ∈ blts, W.mg x = none
  nsg : W.g.Ns mainGlobals W.mg
  nsb : W.g.Ns builtinsNs W.mb
  nolimit : W.g.NoLimit
  blt : ∀ x : Str, x ≠ "__name__" → W.mb x = bootBuiltins x

structure Cx extends Wd where
  A : Around
  base : Heap
  M0 : Addr → Prop
  env : Env

abbrev Sg := List (Addr × List D)
abbrev Rh := List (Str × D)
abbrev P : Program := PySem.Challenge.pw_sa0121_01
abbrev No : Value → Shared → Prop := fun _ _ => False

def MM (c : Cx) (σ : Sg) : Addr → Prop := fun a => c.M0 a ∨ ∃ p ∈ σ, p.1 = a

def Vr (env : Env) (h : Heap) (m : Str → Option Value) (x : Str) (Q : Value → Prop) : Prop :=
  (env.kindOf x = some .local ∧ ∃ v, m x = some v ∧ Q v) ∨
  ((env.kindOf x = some .cell ∨ env.kindOf x = some .free) ∧ ∃ k v, env.cells.lookup x = some k ∧ h.IsCell k (some v) ∧ Q v)

structure FR (c : Cx) (σ : Sg) (h : Heap) (ρ : Rh) : Prop where
  gd : Gd c.toWd
  kg : Kp c.g c.base
  kb : Kp c.base h
  m0 : ∀ a, c.M0 a → c.g.get? a = none ∧ ∃ o, c.base.get? a = some o
  vars : ∃ m, h.Ns c.env.locals m ∧ ∀ x d, ρ.lookup x = some d → Vr c.env h m x fun v => Ok (Fz (MM c σ) h) v d
  bl : c.base.get? c.env.locals = none
  bc : c.env.func.isSome = true → ∀ x k, c.env.cells.lookup x = some k → c.base.get? k = none
  cx : ∀ x k, c.env.cells.lookup x = some k → ∃ v, h.IsCell k v
  ca : c.env.cells.Pairwise fun x y => x.2 ≠ y.2
  ow : ∀ p ∈ σ, c.base.get? p.1 = none ∧ ∃ vs n, h.get? p.1 = some (lobj vs n) ∧ vs.length ≤ Bd ∧ Oks (Fz (MM c σ) h) vs p.2
  oa : σ.Pairwise fun p q => p.1 ≠ q.1
  ek : c.env.scope.kind = .function
  eg : c.env.globals = mainGlobals
  eb : c.env.builtins = builtinsNs
  ah : c.A.handled = none

theorem Vr.keeps {env : Env} {h h' : Heap} {m : Str → Option Value} {x : Str} {Q Q' : Value → Prop} (X : Vr env h m x Q) (hk : Kp h h') (hq : ∀ v, Q v → Q' v) : Vr env h' m x Q' := by
  rcases X with ⟨a, v, b, q⟩ | ⟨a, k, v, b, cc, q⟩
  · exact .inl ⟨a, v, b, hq v q⟩
  · exact .inr ⟨a, k, v, b, cc.keeps hk, hq v q⟩

theorem FR.keeps {c : Cx} {σ : Sg} {h h' : Heap} {ρ : Rh} (F : FR c σ h ρ) (hk : Kp h h') : FR c σ h' ρ where
  gd := F.gd
  kg := F.kg
  kb := fun b o e => hk b o (F.kb b o e)
  m0 := F.m0
  vars := let ⟨m, hn, hv⟩ := F.vars; ⟨m, hn.keeps hk, fun x d e => (hv x d e).keeps hk fun v q => q.keeps hk⟩
  bl := F.bl
  bc := F.bc
  cx := fun x k e => let ⟨v, q⟩ := F.cx x k e; ⟨v, q.keeps hk⟩
  ca := F.ca
  ow := fun p hp => let ⟨a, vs, n, q, l, r⟩ := F.ow p hp; ⟨a, vs, n, hk _ _ q, l, r.keeps hk⟩
  oa := F.oa
  ek := F.ek
  eg := F.eg
  eb := F.eb
  ah := F.ah

theorem FR.mg {c : Cx} {σ : Sg} {h : Heap} {ρ : Rh} (F : FR c σ h ρ) (a : Addr) (hm : MM c σ a) : c.g.get? a = none := by
  rcases hm with hm | ⟨p, hp, rfl⟩
  · exact (F.m0 a hm).1
  · cases e : c.g.get? p.1 with
    | none => rfl
    | some o => have := (F.ow p hp).1; rw [F.kg _ _ e] at this; cases this
theorem FR.live {c : Cx} {σ : Sg} {h : Heap} {ρ : Rh} (F : FR c σ h ρ) (a : Addr) (hm : MM c σ a) : ∃ o, h.get? a = some o := by
  rcases hm with hm | ⟨p, hp, rfl⟩
  · obtain ⟨o, e⟩ := (F.m0 a hm).2; exact ⟨o, F.kb _ _ e⟩
  · obtain ⟨_, vs, n, e, _⟩ := F.ow p hp; exact ⟨_, e⟩
theorem FR.kgh {c : Cx} {σ : Sg} {h : Heap} {ρ : Rh} (F : FR c σ h ρ) : Kp c.g h := fun b o e => F.kb b o (F.kg b o e)
theorem FR.fresh {c : Cx} {σ : Sg} {h : Heap} {ρ : Rh} (F : FR c σ h ρ) : ¬ MM c σ h.objs.size := fun hm => by
  obtain ⟨o, e⟩ := F.live _ hm; exact Nat.lt_irrefl _ (Heap.lt_size e)
theorem FR.ground {c : Cx} {σ : Sg} {h : Heap} {ρ : Rh} {v : Value} {d : D} (F : FR c σ h ρ) (x : Ok (Fz (fun _ => False) c.g) v d) : Ok (Fz (MM c σ) h) v d :=
  x.mono fun a o e => ⟨F.kgh a o e.1, fun hm => by have q := e.1; rw [F.mg a hm] at q; cases q⟩

def Stp (s s' : Shared) : Prop := ∃ h' tk, s' = { s with heap := h', toks := tk } ∧ Kp s.heap h'
/-- what an evaluation leaves -/
def Pst (M : Addr → Prop) (s : Shared) (d : D) : Value → Shared → Prop := fun v s' => Stp s s' ∧ Ok (Fz M s'.heap) v d
def Pss (M : Addr → Prop) (s : Shared) (ds : List D) : List Value → Shared → Prop := fun v s' => Stp s s' ∧ Oks (Fz M s'.heap) v ds

theorem Stp.refl (s : Shared) : Stp s s := ⟨s.heap, s.toks, rfl, fun _ _ e => e⟩
theorem Stp.tok (s : Shared) (t : Nat) : Stp s { s with toks := t } := ⟨s.heap, t, rfl, fun _ _ e => e⟩
theorem Stp.kp {s s' : Shared} (x : Stp s s') : Kp s.heap s'.heap := by obtain ⟨h, t, rfl, k⟩ := x; exact k
theorem Stp.trans {s s' s'' : Shared} (x : Stp s s') (y : Stp s' s'') : Stp s s'' := by
  obtain ⟨h, t, rfl, k⟩ := x; obtain ⟨h', t', rfl, k'⟩ := y; exact ⟨h', t', rfl, fun b o e => k' b o (k b o e)⟩

section
variable {c : Cx} {σ : Sg} {ρ : Rh}

def Tv (c : Cx) (σ : Sg) (ρ : Rh) (t : Sem Value) (d : D) : Prop := ∀ s, FR c σ s.heap ρ → wpAny (model P c.w) c.A t (Pst (MM c σ) s d) No s
def Ts (c : Cx) (σ : Sg) (ρ : Rh) (t : Sem (List Value)) (ds : List D) : Prop := ∀ s, FR c σ s.heap ρ → wpAny (model P c.w) c.A t (Pss (MM c σ) s ds) No s
def Tb (c : Cx) (σ : Sg) (ρ : Rh) (t : Sem Bool) (b : Bool) : Prop := ∀ s, FR c σ s.heap ρ → wpAny (model P c.w) c.A t (fun b' s' => b' = b ∧ Stp s s') No s

def Op1 (c : Cx) (σ : Sg) (ρ : Rh) (f : Value → Sem Value) (a d : D) : Prop :=
  ∀ s va, FR c σ s.heap ρ → Ok (Fz (MM c σ) s.heap) va a → wpAny (model P c.w) c.A (f va) (Pst (MM c σ) s d) No s
def Op2 (c : Cx) (σ : Sg) (ρ : Rh) (f : Value → Value → Sem Value) (a b d : D) : Prop :=
  ∀ s va vb, FR c σ s.heap ρ → Ok (Fz (MM c σ) s.heap) va a → Ok (Fz (MM c σ) s.heap) vb b → wpAny (model P c.w) c.A (f va vb) (Pst (MM c σ) s d) No s
/-- a call upon given data -/
def Cl (c : Cx) (σ : Sg) (ρ : Rh) (f : Value) (ds : List D) (d : D) : Prop :=
  ∀ s vs, FR c σ s.heap ρ → Oks (Fz (MM c σ) s.heap) vs ds → wpAny (model P c.w) c.A (call f vs) (Pst (MM c σ) s d) No s

theorem Pst.weak {M : Addr → Prop} {s s' : Shared} {d : D} {v : Value} {s'' : Shared} (k : Stp s s') (x : Pst M s' d v s'') : Pst M s d v s'' := ⟨k.trans x.1, x.2⟩

theorem tv_then {t : Sem Value} {a : D} {Q : Value → Shared → Prop} {s : Shared} (h : Tv c σ ρ t a) (F : FR c σ s.heap ρ)
    (k : ∀ v s', Stp s s' → FR c σ s'.heap ρ → Ok (Fz (MM c σ) s'.heap) v a → Q v s') : wpAny (model P c.w) c.A t Q No s :=
  wpAny_mono (h s F) (fun v s' x => k v s' x.1 (F.keeps x.1.kp) x.2) fun _ _ x => x

theorem tv_int {i : Int} {k : Nat} {pos : Pos} : Tv c σ ρ (eval (.Constant (.int i) k pos) c.env) (.int i) := fun s _ => wpAny_Constant_int ⟨Stp.tok _ _, .int _ _⟩
theorem tv_str {x : Str} {k : Nat} {pos : Pos} : Tv c σ ρ (eval (.Constant (.str x) k pos) c.env) (.str x) := fun s _ => Constant_str ⟨Stp.tok _ _, .str _ _⟩
theorem tv_none {k : Nat} {pos : Pos} : Tv c σ ρ (eval (.Constant .none k pos) c.env) .none := fun s _ => Constant_none ⟨Stp.refl _, .none⟩

theorem tv_name {x : Str} {pos : Pos} {d : D} (h : ρ.lookup x = some d) (hd : (x == ("__debug__" : Str)) = false := by decide +kernel)
    (hn : (x == ("__classdict__" : Str)) = false := by decide +kernel) : Tv c σ ρ (eval (.Name x pos) c.env) d := fun s F => by
  obtain ⟨m, hns, hv⟩ := F.vars
  rcases hv x d h with ⟨a, v, b, q⟩ | ⟨a | a, k, v, b, cc, q⟩
  · exact wpAny_Name (wpAny_loadName_local F.ek a hns b ⟨Stp.refl _, q⟩) hd
  · exact wpAny_Name (wpAny_loadName_cell F.ek a b cc ⟨Stp.refl _, q⟩) hd
  · exact wpAny_Name (wpAny_loadName_free F.ek a b cc ⟨Stp.refl _, q⟩ hn) hd

theorem tv_global {x : Str} {pos : Pos} {v : Value} {d : D} (hx : c.env.kindOf x = some .globalImplicit) (hv : c.mg x = some v) (ho : Ok (Fz (fun _ => False) c.g) v d)
    (hd : (x == ("__debug__" : Str)) = false := by decide +kernel) : Tv c σ ρ (eval (.Name x pos) c.env) d := fun s F =>
  Name_function_global F.ek hx (loadGlobal_global (by rw [F.eg]; exact F.gd.nsg.keeps F.kgh) hv ⟨Stp.refl _, F.ground ho⟩) hd

theorem tv_builtin {x : Str} {pos : Pos} {v : Value} (hx : c.env.kindOf x = some .globalImplicit) (hg : c.mg x = none) (hv : bootBuiltins x = some v)
    (hn : x ≠ "__name__" := by decide +kernel) (hd : (x == ("__debug__" : Str)) = false := by decide +kernel) : Tv c σ ρ (eval (.Name x pos) c.env) (.adr v) := fun s F =>
  Name_function_global F.ek hx (loadGlobal_builtin (by rw [F.eg]; exact F.gd.nsg.keeps F.kgh) hg (by rw [F.eb]; exact F.gd.nsb.keeps F.kgh) ((F.gd.blt x hn).trans hv) ⟨Stp.refl _, .adr _⟩) hd

theorem tv_bin {l r : Expr} {op : Operator} {pos : Pos} {a b d : D} (h1 : Tv c σ ρ (eval l c.env) a) (h2 : Tv c σ ρ (eval r c.env) b) (ho : Op2 c σ ρ (binaryOp op) a b d) :
    Tv c σ ρ (eval (.BinOp l op r pos) c.env) d := fun s F =>
  wpAny_BinOp (tv_then h1 F fun va s1 k1 F1 o1 => tv_then h2 F1 fun vb s2 k2 F2 o2 =>
    wpAny_mono (ho s2 va vb F2 (o1.keeps k2.kp) o2) (fun v s3 x => x.weak (k1.trans k2)) fun _ _ x => x)

theorem tv_cmp {l r : Expr} {op : CmpOp} {pos : Pos} {a b d : D} (h1 : Tv c σ ρ (eval l c.env) a) (h2 : Tv c σ ρ (eval r c.env) b) (ho : Op2 c σ ρ (compareOp op) a b d)
    (hm : behindInMarks op r = false := by with_unfolding_all rfl) :
    Tv c σ ρ (eval (.Compare l [op] [r] pos) c.env) d := fun s F =>
  wpAny_Compare1 (tv_then h1 F fun va s1 k1 F1 o1 => tv_then h2 F1 fun vb s2 k2 F2 o2 =>
    wpAny_mono (ho s2 va vb F2 (o1.keeps k2.kp) o2) (fun v s3 x => x.weak (k1.trans k2)) fun _ _ x => x) hm

theorem tb_cmp {l r : Expr} {op : CmpOp} {pos : Pos} {a b : D} {t : Bool} {whole : Sem Value} (h1 : Tv c σ ρ (eval l c.env) a) (h2 : Tv c σ ρ (eval r c.env) b) (ho : Op2 c σ ρ (compareOp op) a b (.bool t))
    (hm : behindInMarks op r = false := by with_unfolding_all rfl) :
    Tb c σ ρ (isTrue (.Compare l [op] [r] pos) c.env whole) t := fun s F =>
  wpAny_isTrue_Compare1 (tv_then h1 F fun va s1 k1 F1 o1 => tv_then h2 F1 fun vb s2 k2 F2 o2 =>
    wpAny_mono (ho s2 va vb F2 (o1.keeps k2.kp) o2) (fun v s3 x => by
      obtain ⟨k3, o3⟩ := x
      cases o3
      exact wpAny_truthy_bool ⟨rfl, (k1.trans k2).trans k3⟩) fun _ _ x => x) hm

/-- a test that is a value: a call, a name -/
theorem tb_plain {e : Expr} {whole : Sem Value} {t : Bool} (h : Tv c σ ρ whole (.bool t))
    (he : isTrue e c.env whole = (do let v ← whole; standAt e.pos; holding [v] (truthy v)) := by rfl) : Tb c σ ρ (isTrue e c.env whole) t := fun s F =>
  isTrue_plain (tv_then h F fun v s1 k1 F1 o1 => by cases o1; exact wpAny_truthy_bool ⟨rfl, k1⟩) he

theorem tb_and_nil {pos : Pos} {whole : Sem Value} : Tb c σ ρ (isTrue (.BoolOp .And [] pos) c.env whole) true := fun s F => isTrue_and_nil ⟨rfl, Stp.refl _⟩
theorem tb_or_nil {pos : Pos} {whole : Sem Value} : Tb c σ ρ (isTrue (.BoolOp .Or [] pos) c.env whole) false := fun s F => isTrue_or_nil ⟨rfl, Stp.refl _⟩
theorem tb_and {x : Expr} {rest : List Expr} {pos : Pos} {whole : Sem Value} {a b : Bool} (h1 : Tb c σ ρ (isTrue x c.env (eval x c.env)) a)
    (h2 : a = true → Tb c σ ρ (isTrue (.BoolOp .And rest pos) c.env whole) b) (hb : a = false → b = false) : Tb c σ ρ (isTrue (.BoolOp .And (x :: rest) pos) c.env whole) b := fun s F =>
  isTrue_and (wpAny_mono (h1 s F) (fun t s1 q => by
    obtain ⟨rfl, k1⟩ := q
    cases t with
    | false => exact ⟨(hb rfl).symm, k1⟩
    | true => exact wpAny_mono (h2 rfl s1 (F.keeps k1.kp)) (fun t' s2 q' => ⟨q'.1, k1.trans q'.2⟩) fun _ _ x => x) fun _ _ x => x)
theorem tb_or {x : Expr} {rest : List Expr} {pos : Pos} {whole : Sem Value} {a b : Bool} (h1 : Tb c σ ρ (isTrue x c.env (eval x c.env)) a)
    (h2 : a = false → Tb c σ ρ (isTrue (.BoolOp .Or rest pos) c.env whole) b) (hb : a = true → b = true) : Tb c σ ρ (isTrue (.BoolOp .Or (x :: rest) pos) c.env whole) b := fun s F =>
  isTrue_or (wpAny_mono (h1 s F) (fun t s1 q => by
    obtain ⟨rfl, k1⟩ := q
    cases t with
    | true => exact ⟨(hb rfl).symm, k1⟩
    | false => exact wpAny_mono (h2 rfl s1 (F.keeps k1.kp)) (fun t' s2 q' => ⟨q'.1, k1.trans q'.2⟩) fun _ _ x => x) fun _ _ x => x)

theorem tv_if_t {test body orelse : Expr} {pos : Pos} {d : D} (h : Tb c σ ρ (isTrue test c.env (eval test c.env)) true) (h1 : Tv c σ ρ (eval body c.env) d) : Tv c σ ρ (eval (.IfExp test body orelse pos) c.env) d := fun s F =>
  IfExp_ (wpAny_mono (h s F) (fun t s1 q => by
    obtain ⟨rfl, k1⟩ := q
    exact wpAny_mono (h1 s1 (F.keeps k1.kp)) (fun v s2 x => x.weak k1) fun _ _ x => x) fun _ _ x => x)
theorem tv_if_f {test body orelse : Expr} {pos : Pos} {d : D} (h : Tb c σ ρ (isTrue test c.env (eval test c.env)) false) (h1 : Tv c σ ρ (eval orelse c.env) d) : Tv c σ ρ (eval (.IfExp test body orelse pos) c.env) d := fun s F =>
  IfExp_ (wpAny_mono (h s F) (fun t s1 q => by
    obtain ⟨rfl, k1⟩ := q
    exact wpAny_mono (h1 s1 (F.keeps k1.kp)) (fun v s2 x => x.weak k1) fun _ _ x => x) fun _ _ x => x)

theorem tv_and {e₁ e₂ : Expr} {rest : List Expr} {pos : Pos} {t : Bool} {d : D} (h1 : Tv c σ ρ (eval e₁ c.env) (.bool t)) (h2 : t = true → Tv c σ ρ (eval (.BoolOp .And (e₂ :: rest) pos) c.env) d) (h3 : t = false → d = .bool false) :
    Tv c σ ρ (eval (.BoolOp .And (e₁ :: e₂ :: rest) pos) c.env) d := fun s F =>
  BoolOp_and (tv_then h1 F fun v s1 k1 F1 o1 => by
    cases o1
    refine wpAny_truthy_bool ?_
    cases t with
    | true => exact wpAny_mono (h2 rfl s1 F1) (fun v s2 x => x.weak k1) fun _ _ x => x
    | false => rw [h3 rfl]; exact ⟨k1, .bool _⟩)
theorem tv_bool1 {op : BoolOp} {e : Expr} {pos : Pos} {d : D} (h : Tv c σ ρ (eval e c.env) d) : Tv c σ ρ (eval (.BoolOp op [e] pos) c.env) d := fun s F => BoolOp_one (h s F)

theorem tv_un {op : UnaryOp} {e : Expr} {pos : Pos} {a d : D} (h : Tv c σ ρ (eval e c.env) a) (ho : Op1 c σ ρ (unaryOp op) a d) : Tv c σ ρ (eval (.UnaryOp op e pos) c.env) d := fun s F =>
  UnaryOp_ (tv_then h F fun v s1 k1 F1 o1 => wpAny_mono (ho s1 v F1 o1) (fun v s2 x => x.weak k1) fun _ _ x => x)

theorem ts_nil {pos : Pos} : Ts c σ ρ (spliced (backTo pos (starEach [] c.env))) [] := fun s F => args_nil ⟨Stp.refl _, .nil⟩
theorem ts_cons {e : Expr} {rest : List Expr} {pos : Pos} {d : D} {ds : List D} (h1 : Tv c σ ρ (eval e c.env) d) (h2 : Ts c σ ρ (spliced (backTo pos (starEach rest c.env))) ds)
    (he : starEach (e :: rest) c.env = (false, eval e c.env) :: starEach rest c.env := by rfl) : Ts c σ ρ (spliced (backTo pos (starEach (e :: rest) c.env))) (d :: ds) := fun s F =>
  args_cons (tv_then h1 F fun v s1 k1 F1 o1 => wpAny_mono (h2 s1 F1) (fun vs s2 x => ⟨k1.trans x.1, .cons (o1.keeps x.1.kp) x.2⟩) fun _ _ x => x) he

theorem alloc_tup {s : Shared} {vs : List Value} {ds : List D} {Q : Value → Shared → Prop} (F : FR c σ s.heap ρ) (o : Oks (Fz (MM c σ) s.heap) vs ds) (hl : vs.length ≤ Bd)
    (h : ∀ v s', Pst (MM c σ) s (.tup ds) v s' → Q v s') : wpAny (model P c.w) c.A (newTuple vs) Q No s := by
  have hkk : Kp s.heap (s.heap.push (tobj vs 0)) := fun _ _ e => Heap.get?_push_of_some _ e
  refine wpAny_newObj_type (h _ _ ⟨⟨_, s.toks, rfl, hkk⟩, ?_⟩) (by show vs.toArray.size ≤ sizeLine; rw [List.size_toArray]; exact Nat.le_trans hl (by decide))
  exact .tup (n := 0) ⟨Heap.get?_push_size _ rfl, F.fresh⟩ hl (o.keeps hkk)
theorem alloc_lst {s : Shared} {vs : List Value} {ds : List D} {Q : Value → Shared → Prop} (F : FR c σ s.heap ρ) (o : Oks (Fz (MM c σ) s.heap) vs ds) (hl : vs.length ≤ Bd)
    (h : ∀ v s', Pst (MM c σ) s (.lst ds) v s' → Q v s') : wpAny (model P c.w) c.A (newList vs) Q No s := by
  have hkk : Kp s.heap (s.heap.push (lobj vs 0)) := fun _ _ e => Heap.get?_push_of_some _ e
  refine wpAny_newObj_type (h _ _ ⟨⟨_, s.toks, rfl, hkk⟩, ?_⟩) (by show vs.toArray.size ≤ sizeLine; rw [List.size_toArray]; exact Nat.le_trans hl (by decide))
  exact .lst (n := 0) ⟨Heap.get?_push_size _ rfl, F.fresh⟩ hl (o.keeps hkk)

theorem tv_tuple {elts : List Expr} {k : Nat} {pos : Pos} {ds : List D} (h : Ts c σ ρ (spliced (backTo pos (starEach elts c.env))) ds) (hl : ds.length ≤ Bd := by simp [Bd]) : Tv c σ ρ (eval (.Tuple elts k pos) c.env) (.tup ds) := fun s F =>
  Tuple_ (wpAny_mono (h s F) (fun vs s1 x => alloc_tup (F.keeps x.1.kp) x.2 (x.2.length ▸ hl) fun v s2 y => y.weak x.1) fun _ _ x => x)
theorem tv_list {elts : List Expr} {pos : Pos} {ds : List D} (h : Ts c σ ρ (spliced (backTo pos (starEach elts c.env))) ds) (hl : ds.length ≤ Bd := by simp [Bd]) : Tv c σ ρ (eval (.List elts pos) c.env) (.lst ds) := fun s F =>
  List_ (wpAny_mono (h s F) (fun vs s1 x => alloc_lst (F.keeps x.1.kp) x.2 (x.2.length ▸ hl) fun v s2 y => y.weak x.1) fun _ _ x => x)

/-- a call of a built-in by its name -/
theorem tv_callb {func e : Expr} {rest : List Expr} {pos : Pos} {id : String} {ds : List D} {d : D} (hf : Tv c σ ρ (eval func c.env) (.adr (.builtin id)))
    (ha : Ts c σ ρ (spliced (backTo pos (starEach (e :: rest) c.env))) ds) (hc : Cl c σ ρ (.builtin id) ds d)
    (he : eval (.Call func (e :: rest) [] pos) c.env = (do callWith pos (← eval func c.env) [] (backTo pos (starEach (e :: rest) c.env)) (backToKw pos (keywordEach [] c.env))) := by rfl)
    (he' : starEach (e :: rest) c.env = (false, eval e c.env) :: starEach rest c.env := by rfl)
    (hp : (backTo pos (starEach rest c.env)).any (·.1) = false := by rfl) : Tv c σ ρ (eval (.Call func (e :: rest) [] pos) c.env) d := fun s F =>
  Call_ (tv_then hf F fun v s1 k1 F1 o1 => by
    cases o1
    exact callWith_builtin1 (wpAny_mono (ha s1 F1) (fun vs s2 x => wpAny_mono (hc s2 vs (F1.keeps x.1.kp) x.2) (fun v s3 y => y.weak (k1.trans x.1)) fun _ _ x => x) fun _ _ x => x) he' hp) he

/-- a call of a def of the text by its name -/
theorem tv_calld {func e : Expr} {rest : List Expr} {pos : Pos} {f : Addr} {o : Obj} {fd : FuncData} {ds : List D} {d : D} (hf : Tv c σ ρ (eval func c.env) (.adr (.ref f))) (hg : c.g.get? f = some o) (hd : o.data = .func fd)
    (ha : Ts c σ ρ (spliced (backTo pos (starEach (e :: rest) c.env))) ds) (hc : Cl c σ ρ (.ref f) ds d)
    (he : eval (.Call func (e :: rest) [] pos) c.env = (do callWith pos (← eval func c.env) [] (backTo pos (starEach (e :: rest) c.env)) (backToKw pos (keywordEach [] c.env))) := by rfl)
    (he' : starEach (e :: rest) c.env = (false, eval e c.env) :: starEach rest c.env := by rfl) : Tv c σ ρ (eval (.Call func (e :: rest) [] pos) c.env) d := fun s F =>
  Call_ (tv_then hf F fun v s1 k1 F1 o1 => by
    cases o1
    exact callWith_def hd (wpAny_mono (ha s1 F1) (fun vs s2 x => ⟨(F1.keeps x.1.kp).kgh _ _ hg, wpAny_mono (hc s2 vs (F1.keeps x.1.kp) x.2) (fun v s3 y => y.weak (k1.trans x.1)) fun _ _ x => x⟩) fun _ _ x => x) he') he
end
end Mine
end

section
open PySem PySem.W PySem.Calls PyProof.Rows
set_option Elab.async false
set_option maxRecDepth 1000000
set_option maxHeartbeats 0
set_option linter.unusedVariables false
namespace Mine

/-- the address of the own exception class, and of its namespace -/
abbrev CA : Addr := 31
abbrev CN : Addr := 30

abbrev bmE : List Value := [.type "Exception", .type "BaseException", .type "object"]

def iSt : Stmt := match st 1 with
  | .ClassDef _ _ _ (s :: _) .. => s
  | _ => .Pass ⟨0, 0, 0, 0⟩

/-! the head: what stands when the text's top has run -/
def isNm : Stmt → Bool
  | .Assign [.Name x _] _ _ => decide (x = "__name__")
  | _ => false
/-- the text without its eight module names -/
def qV : Program := { PySem.Challenge.pw_sa0121_01 with main := { PySem.Challenge.pw_sa0121_01.main with body := PySem.Challenge.pw_sa0121_01.main.body.filter fun s => !isNm s } }

def isStrV : Value → Bool
  | .str _ _ => true
  | _ => false
abbrev topN : List Str := ["CasFail", "Exception", "R0", "R1", "MOST_BITS", "MOST_SQUARED", "MORE", "abs", "min", "max", "len", "range", "list", "tuple", "int"]
abbrev topV : List (Option Value) := [some (.ref 31), none, some (.ref 56), some (.ref 57), some (.int 200000 259), some (.int 1000 492), some (.ref 284), none, none, none, none, none, none, none, none]
abbrev clsN : List Str := ["__init__", "kind", "text", "__setattr__", "__getattribute__", "__getattr__"]
abbrev clsV : List (Option Value) := [some (.ref 28), none, none, none, none, none]
abbrev cls31 : Obj := excClassObj "CasFail" "CasFail" 31 30 [.type "Exception"] bmE true [] [] false none none (some (.ref 15)) none (some (.str "CasFail" 189)) (some (.str "CasFail" 197)) (some (.bool true)) "Exception.__new__"
abbrev fd28 : FuncData := { docDef "__init__" (fP iSt) (fB iSt) (fS iSt) (.str "cas.errors" 187) (.ref 27) .none with qualname := "CasFail.__init__" }
abbrev t56 : Obj := tobj [.int 0 253, .int 1 254] 0
abbrev t57 : Obj := tobj [.int 1 256, .int 1 257] 0
abbrev t284 : Obj := tobj [.int 0 557, .int 2 558, .int 4 559, .int 8 560, .int 16 561, .int 32 562, .int 64 563] 0

def dictOf? (h : Heap) (a : Addr) : Option (Array DictEntry) := match h.get? a with
  | some ⟨_, _, .dict es _, _⟩ => some es
  | _ => none
def obsH (h : Heap) :=
  ((dictOf? h mainGlobals).map fun es => topN.map (nsFind es), (dictOf? h CN).map fun es => (es.toList.all (fun e => isStrV e.key), clsN.map (nsFind es)),
   h.get? 31, (h.get? 28).map fun o => (o.cls, o.data), (h.get? 27).map fun o => (match o.data with
    | .fields vs => vs[1]?
    | _ => none), h.get? 56, h.get? 57, h.get? 284)
def valH : Option (List (Option Value)) × Option (Bool × List (Option Value)) × Option Obj × Option (Value × Data) × Option (Option Value) × Option Obj × Option Obj × Option Obj :=
  (some topV, some (true, clsV), some cls31, some (.type "function", .func fd28), some (some (.str "CasFail.__init__" 202)), some t56, some t57, some t284)

structure HF (h : Heap) : Prop where
  g : ∃ o es ep, h.get? mainGlobals = some o ∧ o.data = .dict es ep ∧ topN.map (nsFind es) = topV
  n : ∃ o es ep, h.get? CN = some o ∧ o.data = .dict es ep ∧ es.toList.all (fun e => isStrV e.key) = true ∧ clsN.map (nsFind es) = clsV
  c : h.get? 31 = some cls31
  i : ∃ o, h.get? 28 = some o ∧ o.cls = .type "function" ∧ o.data = .func fd28
  k : ∃ o vs, h.get? 27 = some o ∧ o.data = .fields vs ∧ vs[1]? = some (.str "CasFail.__init__" 202)
  r0 : h.get? 56 = some t56
  r1 : h.get? 57 = some t57
  mo : h.get? 284 = some t284

theorem dictOf_in {h : Heap} {a : Addr} {es : Array DictEntry} (e : dictOf? h a = some es) : ∃ o ep, h.get? a = some o ∧ o.data = .dict es ep := by
  unfold dictOf? at e
  split at e
  · rename_i c d es' ep sl hg
    cases e
    exact ⟨_, ep, hg, rfl⟩
  · cases e

theorem hf_of {h : Heap} (e : obsH h = valH) : HF h := by
  have e1 := congrArg (·.1) e
  have e2 := congrArg (·.2.1) e
  have e3 := congrArg (·.2.2.1) e
  have e4 := congrArg (·.2.2.2.1) e
  have e5 := congrArg (·.2.2.2.2.1) e
  have e6 := congrArg (·.2.2.2.2.2.1) e
  have e7 := congrArg (·.2.2.2.2.2.2.1) e
  have e8 := congrArg (·.2.2.2.2.2.2.2) e
  obtain ⟨es, a1, b1⟩ := Option.map_eq_some_iff.mp e1
  obtain ⟨o, ep, g1, g2⟩ := dictOf_in a1
  obtain ⟨es', a2, b2⟩ := Option.map_eq_some_iff.mp e2
  obtain ⟨o', ep', g3, g4⟩ := dictOf_in a2
  obtain ⟨o4, a4, b4⟩ := Option.map_eq_some_iff.mp e4
  obtain ⟨o5, a5, b5⟩ := Option.map_eq_some_iff.mp e5
  refine ⟨⟨o, es, ep, g1, g2, b1⟩, ⟨o', es', ep', g3, g4, congrArg (·.1) b2, congrArg (·.2) b2⟩, e3, ⟨o4, a4, congrArg (·.1) b4, congrArg (·.2) b4⟩, ?_, e6, e7, e8⟩
  split at b5
  · rename_i vs hv
    exact ⟨o5, vs, a5, hv, b5⟩
  · cases b5
theorem HF.keeps {h h' : Heap} (x : HF h) (k : ∀ b o, h.get? b = some o → h'.get? b = some o) : HF h' where
  g := let ⟨o, es, ep, a, r⟩ := x.g; ⟨o, es, ep, k _ _ a, r⟩
  n := let ⟨o, es, ep, a, r⟩ := x.n; ⟨o, es, ep, k _ _ a, r⟩
  c := k _ _ x.c
  i := let ⟨o, a, r⟩ := x.i; ⟨o, k _ _ a, r⟩
  k := let ⟨o, vs, a, r⟩ := x.k; ⟨o, vs, k _ _ a, r⟩
  r0 := k _ _ x.r0
  r1 := k _ _ x.r1
  mo := k _ _ x.mo

def hkV : Hook := ⟨_, fun s => obsH s.heap, fun _ => valH, fun _ h => HF h, fun _ _ e => hf_of e, fun _ _ _ x k => x.keeps k⟩

abbrev XtV (s : Shared) : Bool := xlAt qV [] s && recOk [] s
abbrev runV (w : World) : Option Shared := openEnds treeTable PySem.Challenge.pw_sa0121_01 w 4450
abbrev modsV : List Str := importedModules PySem.Challenge.pw_sa0121_01.main.body
def seenA (s : Shared) :=
  (seen ((recsOf qV).map (·.name)) (ownsOf qV) [] { s with gens := #[] }, s.heap.bltView,
   s.heap.keysOk (looseW qV []) ((recsOf qV).map (·.name)) ((litsOf qV).map (·.1)) ((clssOf qV (looseW qV [])).map (·.name)) && s.heap.accountedOkI modsV && s.heap.isNs mainGlobals && s.heap.isNs builtinsNs && tablesOk qV s.heap && XtV s && (if true then s.gens.size == 0 else !leftWithCleanup s.gens))
def seenB (s : Shared) := (tabsOk qV s, pinSeenD qV (drecsOf qV) s, plainSeenE qV (looseW qV []) s, plainSeenD qV [] s, wideSeen qV s, clsSeenW qV [] s)
theorem left_A (w : World) : (runV w).map seenA = some (expectedOf qV, bltViewBooted, true) := by kernel_rfl
theorem left_B (w : World) : (runV w).map (fun s => (seenB s, obsH s.heap)) = some ((true, pinGoodD (drecsOf qV), plainGoodE qV (looseW qV []), plainGoodD qV [], wideGood qV, clsGoodW qV []), valH) := by kernel_rfl
theorem left_V : LeftO PySem.Challenge.pw_sa0121_01 qV [] XtV (Hook.obs hkV) (Hook.val hkV) 4450 := fun w => by
  obtain ⟨s, h1, a⟩ := Option.map_eq_some_iff.mp (left_A w)
  obtain ⟨s', h2, b⟩ := Option.map_eq_some_iff.mp (left_B w)
  rw [h1] at h2; cases h2
  refine Option.map_eq_some_iff.mpr ⟨s, h1, ?_⟩
  have a1 := congrArg (·.1) a
  have a2 := congrArg (·.2.1) a
  have a3 := congrArg (·.2.2) a
  have b1 := congrArg (·.1.1) b
  have b2 := congrArg (·.1.2) b
  have b3 := congrArg (·.2) b
  refine Prod.ext (Prod.ext a1 (Prod.ext a2 (Prod.ext a3 (Prod.ext b1 b2)))) b3
theorem said_V : OpenLaw.wellSaid PySem.Challenge.rw_sa0121_01 = true := by decide +kernel
end Mine
end

section
open PySem PySem.W PySem.Calls PyProof.Rows
set_option Elab.async false
set_option maxRecDepth 100000
set_option linter.unusedVariables false
namespace Mine

abbrev Sm (x : Int) : Prop := x.natAbs < 1073741824

mutual
def py : D → PyData
  | .none => .none
  | .bool b => .bool b
  | .int i => .int i
  | .str x => .str x
  | .tup ds => .tuple (pys ds)
  | .lst ds => .list (pys ds)
  | .adr _ => .none
def pys : List D → List PyData
  | [] => []
  | d :: ds => py d :: pys ds
end
mutual
def noadr : D → Bool
  | .adr _ => false
  | .tup ds => noadrs ds
  | .lst ds => noadrs ds
  | _ => true
def noadrs : List D → Bool
  | [] => true
  | d :: ds => noadr d && noadrs ds
end
/-- may stand at both sides of == -/
def cmpOk (d : D) : Bool := noadr d && SeqAt.shaped (py d)

mutual
theorem Ok.reads {M : Addr → Prop} {h : Heap} : ∀ {v : Value} {d : D}, Ok (Fz M h) v d → noadr d = true → ∃ as, Reads h v (py d) as
  | _, _, .none, _ => ⟨_, by rw [py]; exact Reads.none⟩
  | _, _, .bool b, _ => ⟨_, by rw [py]; exact Reads.bool b⟩
  | _, _, .int i t, _ => ⟨_, by rw [py]; exact Reads.int i t⟩
  | _, _, .str x t, _ => ⟨_, by rw [py]; exact Reads.str x t⟩
  | _, _, .tup hp hl r, hk => by
    obtain ⟨as, q⟩ := Oks.reads r (by simpa [noadr] using hk)
    rw [py]; exact ⟨as, Reads.tuple hp.1 rfl rfl (by simpa using q)⟩
  | _, _, .lst hp hl r, hk => by
    obtain ⟨as, q⟩ := Oks.reads r (by simpa [noadr] using hk)
    rw [py]; exact ⟨_, Reads.list hp.1 rfl rfl (by simpa using q)⟩
  | _, _, .adr v, hk => by simp [noadr] at hk
theorem Oks.reads {M : Addr → Prop} {h : Heap} : ∀ {vs : List Value} {ds : List D}, Oks (Fz M h) vs ds → noadrs ds = true → ∃ as, ReadsAll h vs (pys ds) as
  | _, _, .nil, _ => ⟨_, by rw [pys]; exact ReadsAll.nil⟩
  | _, _, .cons hd r, hk => by
    simp only [noadrs, Bool.and_eq_true] at hk
    obtain ⟨as, q⟩ := Ok.reads hd hk.1
    obtain ⟨bs, p⟩ := Oks.reads r hk.2
    rw [pys]; exact ⟨_, ReadsAll.cons q p⟩
end

section
variable {c : Cx} {σ : Sg} {ρ : Rh} {a b : Int} {x y : Str}

theorem op_add : Op2 c σ ρ (binaryOp .Add) (.int a) (.int b) (.int (a + b)) := fun s va vb F oa ob => by
  cases oa; cases ob; exact add_int ⟨Stp.tok _ _, .int _ _⟩
theorem op_sub : Op2 c σ ρ (binaryOp .Sub) (.int a) (.int b) (.int (a - b)) := fun s va vb F oa ob => by
  cases oa; cases ob; exact sub_int ⟨Stp.tok _ _, .int _ _⟩
theorem sm_bits (h : Sm a) : Builtin.Int.intBits a ≤ 64 := intBits_le_64 (by have := h; omega) (by have := h; omega)
theorem op_mul (h : Sm a) : Op2 c σ ρ (binaryOp .Mult) (.int a) (.int b) (.int (a * b)) := fun s va vb F oa ob => by
  cases oa; cases ob; exact mul_int ⟨Stp.tok _ _, .int _ _⟩ (.of_left (sm_bits h))
theorem op_div (h0 : b ≠ 0) (h : Sm b) : Op2 c σ ρ (binaryOp .FloorDiv) (.int a) (.int b) (.int (a.fdiv b)) := fun s va vb F oa ob => by
  cases oa; cases ob; exact floordiv_int h0 ⟨Stp.tok _ _, .int _ _⟩ (.inl (PyProof.noPylong_small h))
theorem op_mod (h0 : b ≠ 0) : Op2 c σ ρ (binaryOp .Mod) (.int a) (.int b) (.int (a.fmod b)) := fun s va vb F oa ob => by
  cases oa; cases ob; exact mod_int' h0 ⟨Stp.tok _ _, .int _ _⟩
theorem op_pow (h : Sm a) (h0 : 0 ≤ b) (h1 : b ≤ 1000000) : Op2 c σ ρ (binaryOp .Pow) (.int a) (.int b) (.int (a ^ b.toNat)) := fun s va vb F oa ob => by
  cases oa; cases ob; exact pow_int_small h0 h1 (by have := h; omega) ⟨Stp.tok _ _, .int _ _⟩
theorem op_subb {p q : Bool} : Op2 c σ ρ (binaryOp .Sub) (.bool p) (.bool q) (.int (b2i p - b2i q)) := fun s va vb F oa ob => by
  cases oa; cases ob; exact sub_bool ⟨Stp.tok _ _, .int _ _⟩
theorem op_lt : Op2 c σ ρ (compareOp .Lt) (.int a) (.int b) (.bool (decide (a < b))) := fun s va vb F oa ob => by
  cases oa; cases ob; exact lt_int ⟨Stp.refl _, .bool _⟩
theorem op_gt : Op2 c σ ρ (compareOp .Gt) (.int a) (.int b) (.bool (decide (b < a))) := fun s va vb F oa ob => by
  cases oa; cases ob; exact gt_int ⟨Stp.refl _, .bool _⟩
theorem op_le : Op2 c σ ρ (compareOp .LtE) (.int a) (.int b) (.bool (decide (a ≤ b))) := fun s va vb F oa ob => by
  cases oa; cases ob; exact le_int ⟨Stp.refl _, .bool _⟩
theorem op_ge : Op2 c σ ρ (compareOp .GtE) (.int a) (.int b) (.bool (decide (b ≤ a))) := fun s va vb F oa ob => by
  cases oa; cases ob; exact ge_int ⟨Stp.refl _, .bool _⟩
theorem op_eqi : Op2 c σ ρ (compareOp .Eq) (.int a) (.int b) (.bool (a == b)) := fun s va vb F oa ob => by
  cases oa; cases ob; exact eq_int ⟨Stp.refl _, .bool _⟩
theorem op_nei : Op2 c σ ρ (compareOp .NotEq) (.int a) (.int b) (.bool (a != b)) := fun s va vb F oa ob => by
  cases oa; cases ob; exact ne_int ⟨Stp.refl _, .bool _⟩
theorem op_eqs : Op2 c σ ρ (compareOp .Eq) (.str x) (.str y) (.bool (x == y)) := fun s va vb F oa ob => by
  cases oa; cases ob; exact eq_str ⟨Stp.refl _, .bool _⟩
theorem op_nes : Op2 c σ ρ (compareOp .NotEq) (.str x) (.str y) (.bool (x != y)) := fun s va vb F oa ob => by
  cases oa; cases ob; exact ne_str ⟨Stp.refl _, .bool _⟩
theorem op_neg : Op1 c σ ρ (unaryOp .USub) (.int a) (.int (-a)) := fun s va F oa => by
  cases oa; exact neg_int ⟨Stp.tok _ _, .int _ _⟩
theorem op_eq {d e : D} (hu : c.A.units + 64 < cLine) (hd : cmpOk d = true) (he : cmpOk e = true) : Op2 c σ ρ (compareOp .Eq) d e (.bool (PyData.eqv (py d) (py e))) := fun s va vb F oa ob => by
  simp only [cmpOk, Bool.and_eq_true] at hd he
  obtain ⟨as, ra⟩ := oa.reads hd.1
  obtain ⟨bs, rb⟩ := ob.reads he.1
  exact SeqAt.compareEq_shaped ra rb hd.2 he.2 hu ⟨Stp.refl _, .bool _⟩
theorem op_ne {d e : D} (hu : c.A.units + 64 < cLine) (hd : cmpOk d = true) (he : cmpOk e = true) : Op2 c σ ρ (compareOp .NotEq) d e (.bool (!PyData.eqv (py d) (py e))) := fun s va vb F oa ob => by
  simp only [cmpOk, Bool.and_eq_true] at hd he
  obtain ⟨as, ra⟩ := oa.reads hd.1
  obtain ⟨bs, rb⟩ := ob.reads he.1
  exact SeqAt.compareNe_shaped ra rb hd.2 he.2 hu ⟨Stp.refl _, .bool _⟩
theorem op_is_none {ds : List D} : Op2 c σ ρ (compareOp .Is) (.lst ds) .none (.bool false) := fun s va vb F oa ob => by
  cases oa; cases ob; exact is_ref_none ⟨Stp.refl _, .bool _⟩
theorem op_is_none_t {ds : List D} : Op2 c σ ρ (compareOp .Is) (.tup ds) .none (.bool false) := fun s va vb F oa ob => by
  cases oa; cases ob; exact is_ref_none ⟨Stp.refl _, .bool _⟩

theorem op_addl {ds es : List D} (hl : ds.length + es.length ≤ Bd) : Op2 c σ ρ (binaryOp .Add) (.lst ds) (.lst es) (.lst (ds ++ es)) := fun s va vb F oa ob => by
  cases oa with
  | @lst l n vs _ hp hlen r =>
  cases ob with
  | @lst l' n' ws _ hp' hlen' r' =>
  have e : vs.toArray ++ ws.toArray = (vs ++ ws).toArray := by simp
  have hle : (vs ++ ws).length ≤ Bd := by rw [List.length_append, r.length, r'.length]; exact hl
  refine concat_meets ⟨_, hp.1, rfl⟩ ⟨_, hp'.1, rfl⟩ noFill_list_add seq_list_add PySem.F.slot_list_add PySem.F.entry_list_add (PySem.F.args_list_add_2 _ _)
    (list_addW l l' vs.toArray ws.toArray n n' none none #[] #[] (by rw [List.size_toArray, List.size_toArray, ← List.length_append]; exact Nat.le_trans hle (by decide))) ⟨hp.1, hp'.1, ?_⟩
  rw [e]
  have hkk : Kp s.heap (s.heap.push (lobj (vs ++ ws) 0)) := fun _ _ e => Heap.get?_push_of_some _ e
  exact ⟨⟨_, s.toks, rfl, hkk⟩, .lst (n := 0) ⟨Heap.get?_push_size _ rfl, F.fresh⟩ hle ((r.append r').keeps hkk)⟩

theorem foldl_one (v : Value) : ∀ (k : Nat) (acc : Array Value), List.foldl (fun x1 x2 => x1 ++ x2) acc (List.replicate k #[v]) = acc ++ (List.replicate k v).toArray
  | 0, acc => by simp
  | k + 1, acc => by
    rw [List.replicate_succ, List.foldl_cons, foldl_one v k]
    apply Array.toList_inj.mp
    simp [List.replicate_succ]

theorem op_rep {d : D} {k : Int} (hlo : -1000000 ≤ k) (hk : k ≤ 4096) : Op2 c σ ρ (binaryOp .Mult) (.lst [d]) (.int k) (.lst (List.replicate k.toNat d)) := fun s va vb F oa ob => by
  cases ob with
  | int _ u =>
  cases oa with
  | @lst l n vs _ hp hlen r =>
  cases r with
  | @cons v vs' _ _ o1 r' =>
  cases r'
  have hle : (List.replicate k.toNat v).length ≤ Bd := by rw [List.length_replicate]; show k.toNat ≤ 4096; omega
  refine wpAny_binaryOp_repeat_ref (T := "list") (U := "int") (by decide) ⟨_, hp.1, rfl⟩ (fun s' => typeIs_int s' k u) noFill_list_mul PySem.F.fills_int_mul PySem.F.slot_int_rmul repeat_list PySem.F.slot_int_index.lookup
    (call_meets PySem.F.slot_int_rmul (typeIs_int s k u) PySem.F.entry_int_rmul (PySem.F.args_int_rmul_2 _ _) (int___rmul___int_list k u l #[v] n)
      ⟨hp.1, rfl, ⟨_, hp.1, rfl⟩, call_meets PySem.F.slot_list_mul ⟨_, hp.1, rfl⟩ PySem.F.entry_list_mul (PySem.F.args_list_mul_2 _ _)
        (AutoListH.list___mul___list_int_3 l #[v] n k u (by simp [Builtin.List.listFitsIndex]; omega) (by simp; omega) (by simp [Builtin.List.listTooLong, sizeLine]; omega))
        ⟨hp.1, ?_⟩⟩)
  have e : List.foldl (fun x1 x2 => x1 ++ x2) #[] (List.replicate (if (#[v] : Array Value).isEmpty = true then 0 else k.toNat) #[v]) = (List.replicate k.toNat v).toArray := by
    rw [if_neg (by simp), foldl_one]; simp
  rw [e]
  have hkk : Kp s.heap (s.heap.push (lobj (List.replicate k.toNat v) 0)) := fun _ _ e => Heap.get?_push_of_some _ e
  exact ⟨⟨_, s.toks, rfl, hkk⟩, .lst (n := 0) ⟨Heap.get?_push_size _ rfl, F.fresh⟩ hle ((Oks.replicate o1 _).keeps hkk)⟩

/-! subscripts -/
theorem tv_sub {value slice : Expr} {pos : Pos} {a b d : D} (h1 : Tv c σ ρ (eval value c.env) a) (h2 : Tv c σ ρ (eval slice c.env) b) (ho : Op2 c σ ρ (subscriptTail value slice) a b d) :
    Tv c σ ρ (eval (.Subscript value slice pos) c.env) d := fun s F =>
  Subscript_ (tv_then h1 F fun va s1 k1 F1 o1 => tv_then h2 F1 fun vb s2 k2 F2 o2 =>
    wpAny_mono (ho s2 va vb F2 (o1.keeps k2.kp) o2) (fun v s3 x => x.weak (k1.trans k2)) fun _ _ x => x)

/-- a place of a tuple, from its end too -/
theorem op_item_t {value slice : Expr} {ds : List D} {k : Int} {j : Nat} {d : D} (hlo : -1000000 ≤ k) (hhi : k ≤ 1000000) (hj : seqIndex? k ds.length = some j) (hd : ds[j]? = some d)
    (hs : ∀ t u, subscripted slice false (.ref t) (.int k u) = operate [.ref t, .int k u] (getItem (.ref t) (.int k u)) := by intro _ _; with_unfolding_all rfl) :
    Op2 c σ ρ (subscriptTail value slice) (.tup ds) (.int k) d := fun s va vb F oa ob => by
  cases ob with
  | int _ u =>
  cases oa with
  | @tup l n vs _ hp hlen r =>
  obtain ⟨v, hv, o⟩ := r.get hd
  exact item_tupleT ⟨_, hp.1, rfl, n, rfl⟩ (by omega) (by omega) (by rw [r.length]; exact hj) hv ⟨Stp.refl _, o⟩ (hs _ _)

theorem op_item_l {value slice : Expr} {ds : List D} {k : Int} {d : D} (h0 : 0 ≤ k) (hd : ds[k.toNat]? = some d)
    (hs : ∀ t u, subscripted slice false (.ref t) (.int k u) = operate [.ref t, .int k u] (getItem (.ref t) (.int k u)) := by intro _ _; with_unfolding_all rfl) :
    Op2 c σ ρ (subscriptTail value slice) (.lst ds) (.int k) d := fun s va vb F oa ob => by
  cases ob with
  | int _ u =>
  cases oa with
  | @lst l n vs _ hp hlen r =>
  obtain ⟨v, hv, o⟩ := r.get hd
  have hk : k.toNat < vs.length := (List.getElem?_eq_some_iff.mp hv).1
  have hk2 : vs.length ≤ 4096 := hlen
  exact item_litK ⟨_, hp.1, rfl, n, rfl⟩ h0 (by omega) hv ⟨Stp.refl _, o⟩ (hs _ _)

/-- a place of a list of the frame's own -/
theorem op_item_own {value slice : Expr} {l : Addr} {ds : List D} {k : Int} {d : D} (hm : (l, ds) ∈ σ) (h0 : 0 ≤ k) (hd : ds[k.toNat]? = some d)
    (hs : ∀ t u, subscripted slice false (.ref t) (.int k u) = operate [.ref t, .int k u] (getItem (.ref t) (.int k u)) := by intro _ _; with_unfolding_all rfl) :
    Op2 c σ ρ (subscriptTail value slice) (.adr (.ref l)) (.int k) d := fun s va vb F oa ob => by
  cases ob with
  | int _ u =>
  cases oa
  obtain ⟨_, vs, n, hp, hlen, r⟩ := F.ow _ hm
  obtain ⟨v, hv, o⟩ := r.get hd
  have hk : k.toNat < vs.length := (List.getElem?_eq_some_iff.mp hv).1
  have hk2 : vs.length ≤ 4096 := hlen
  exact item_litK ⟨_, hp, rfl, n, rfl⟩ h0 (by omega) hv ⟨Stp.refl _, o⟩ (hs _ _)

theorem slice_to {value upper : Expr} {p pos : Pos} {ds : List D} {k : Int} (h1 : Tv c σ ρ (eval value c.env) (.lst ds)) (h2 : Tv c σ ρ (eval upper c.env) (.int k)) (h0 : 0 ≤ k) :
    Tv c σ ρ (eval (.Subscript value (.Slice none (some upper) none p) pos) c.env) (.lst (ds.take k.toNat)) := fun s F => by
  refine Subscript_ (tv_then h1 F fun va s1 k1 F1 o1 => wpAny_Slice ?_)
  rw [evalPart_none, evalPart_some]
  refine wpAny_pure (tv_then h2 F1 fun vb s2 k2 F2 o2 => ?_)
  refine wpAny_pure ?_
  cases o2 with
  | int _ u =>
  cases o1 with
  | @lst l n vs _ hp hlen r =>
  have hk2 : Kp s2.heap (s2.heap.push { cls := .type "slice", data := .fields #[.none, .int k u, .none] }) := fun _ _ e => Heap.get?_push_of_some _ e
  have hl : (s2.heap.push { cls := .type "slice", data := .fields #[.none, .int k u, .none] }).IsList l vs.toArray := ⟨_, hk2 _ _ (k2.kp _ _ hp.1), rfl, n, rfl⟩
  have hle : (vs.take k.toNat).length ≤ Bd := by rw [List.length_take]; exact Nat.le_trans (Nat.min_le_right _ _) hlen
  refine tail_any (ops := [.ref s2.heap.objs.size, .ref l]) hl.typeIs slot_list_getitem.lookup (wpAny_getItem_list_slice hl (Heap.IsSliceOf.new ..) .none (.int k u) .none (by simp) ?_ (by rw [List.size_toArray]; exact Nat.le_trans hlen (by decide))) rfl
  have e : slicePick vs.toArray none (some k) none = (vs.take k.toNat).toArray := by
    have := slicePick_upto' vs.toArray k.toNat
    rw [show ((k.toNat : Nat) : Int) = k by omega] at this
    simpa using this
  rw [e]
  have hkk : Kp (s2.heap.push { cls := .type "slice", data := .fields #[.none, .int k u, .none] }) ((s2.heap.push { cls := .type "slice", data := .fields #[.none, .int k u, .none] }).push (lobj (vs.take k.toNat) 0)) := fun _ _ e => Heap.get?_push_of_some _ e
  have F3 := F2.keeps hk2
  exact ⟨(k1.trans k2).trans ⟨_, s2.toks, rfl, fun b o e => hkk b o (hk2 b o e)⟩, .lst (n := 0) ⟨Heap.get?_push_size _ rfl, F3.fresh⟩ hle (((r.keeps k2.kp).keeps fun b o e => hkk b o (hk2 b o e)).take _)⟩

theorem slice_from {value lower : Expr} {p pos : Pos} {ds : List D} {k : Int} (h1 : Tv c σ ρ (eval value c.env) (.lst ds)) (h2 : Tv c σ ρ (eval lower c.env) (.int k)) (h0 : 0 ≤ k) :
    Tv c σ ρ (eval (.Subscript value (.Slice (some lower) none none p) pos) c.env) (.lst (ds.drop k.toNat)) := fun s F => by
  refine Subscript_ (tv_then h1 F fun va s1 k1 F1 o1 => wpAny_Slice ?_)
  rw [evalPart_none, evalPart_some]
  refine (tv_then h2 F1 fun vb s2 k2 F2 o2 => ?_)
  refine wpAny_pure (wpAny_pure ?_)
  cases o2 with
  | int _ u =>
  cases o1 with
  | @lst l n vs _ hp hlen r =>
  have hk2 : Kp s2.heap (s2.heap.push { cls := .type "slice", data := .fields #[.int k u, .none, .none] }) := fun _ _ e => Heap.get?_push_of_some _ e
  have hl : (s2.heap.push { cls := .type "slice", data := .fields #[.int k u, .none, .none] }).IsList l vs.toArray := ⟨_, hk2 _ _ (k2.kp _ _ hp.1), rfl, n, rfl⟩
  have hle : (vs.drop k.toNat).length ≤ Bd := by rw [List.length_drop]; exact Nat.le_trans (Nat.sub_le _ _) hlen
  refine tail_any (ops := [.ref s2.heap.objs.size, .ref l]) hl.typeIs slot_list_getitem.lookup (wpAny_getItem_list_slice hl (Heap.IsSliceOf.new ..) (.int k u) .none .none (by simp) ?_ (by rw [List.size_toArray]; exact Nat.le_trans hlen (by decide))) rfl
  have e : slicePick vs.toArray (some k) none none = (vs.drop k.toNat).toArray := by
    have := slicePick_from' vs.toArray k.toNat
    rw [show ((k.toNat : Nat) : Int) = k by omega] at this
    simpa using this
  rw [e]
  have hkk : Kp (s2.heap.push { cls := .type "slice", data := .fields #[.int k u, .none, .none] }) ((s2.heap.push { cls := .type "slice", data := .fields #[.int k u, .none, .none] }).push (lobj (vs.drop k.toNat) 0)) := fun _ _ e => Heap.get?_push_of_some _ e
  have F3 := F2.keeps hk2
  exact ⟨(k1.trans k2).trans ⟨_, s2.toks, rfl, fun b o e => hkk b o (hk2 b o e)⟩, .lst (n := 0) ⟨Heap.get?_push_size _ rfl, F3.fresh⟩ hle (((r.keeps k2.kp).keeps fun b o e => hkk b o (hk2 b o e)).drop _)⟩

/-! built-in calls -/
theorem cl_len {ds : List D} : Cl c σ ρ (.builtin "len") [.lst ds] (.int ds.length) := fun s vs F os => by
  cases os with
  | cons o r =>
  cases r
  cases o with
  | @lst l n ws _ hp hlen r =>
  have hk2 : ws.length ≤ 4096 := hlen
  refine len_list (items := ws.toArray) ⟨_, hp.1, rfl, n, rfl⟩ (by rw [List.size_toArray]; omega) ?_
  rw [List.size_toArray, r.length]
  exact ⟨Stp.tok _ _, .int _ _⟩
theorem cl_len_t {ds : List D} : Cl c σ ρ (.builtin "len") [.tup ds] (.int ds.length) := fun s vs F os => by
  cases os with
  | cons o r =>
  cases r
  cases o with
  | @tup l n ws _ hp hlen r =>
  have hk2 : ws.length ≤ 4096 := hlen
  refine len_tuple (items := ws.toArray) ⟨_, hp.1, rfl, n, rfl⟩ (by rw [List.size_toArray]; omega) ?_
  rw [List.size_toArray, r.length]
  exact ⟨Stp.tok _ _, .int _ _⟩
theorem cl_abs : Cl c σ ρ (.builtin "abs") [.int a] (.int (if a < 0 then -a else a)) := fun s vs F os => by
  cases os with
  | cons o r =>
  cases r; cases o
  exact call_abs_int fun u tk => ⟨Stp.tok _ _, .int _ _⟩
theorem cl_min : Cl c σ ρ (.builtin "min") [.int a, .int b] (.int (if b < a then b else a)) := fun s vs F os => by
  cases os with
  | cons o r =>
  cases r with
  | cons o' r =>
  cases r; cases o; cases o'
  refine min_two_ints F.ah fun h' tk hk => ⟨⟨h', tk, rfl, hk⟩, ?_⟩
  split <;> exact .int _ _
theorem cl_max : Cl c σ ρ (.builtin "max") [.int a, .int b] (.int (if b > a then b else a)) := fun s vs F os => by
  cases os with
  | cons o r =>
  cases r with
  | cons o' r =>
  cases r; cases o; cases o'
  refine max_two_ints F.ah fun h' tk hk => ⟨⟨h', tk, rfl, hk⟩, ?_⟩
  split <;> exact .int _ _
theorem cl_int : Cl c σ ρ (.type "int") [.int a] (.int a) := fun s vs F os => by
  cases os with
  | cons o r =>
  cases r; cases o
  exact call_int_int ⟨Stp.refl _, .int _ _⟩
theorem cl_tuple {ds : List D} : Cl c σ ρ (.type "tuple") [.lst ds] (.tup ds) := fun s vs F os => by
  cases os with
  | cons o r =>
  cases r
  cases o with
  | @lst l n ws _ hp hlen r =>
  refine call_tuple_list (items := ws.toArray) ⟨_, hp.1, rfl, n, rfl⟩ (fun h' hk => ?_) (by rw [List.size_toArray]; exact Nat.le_trans hlen (by decide))
  have hkk : Kp h' (h'.push (tobj ws 0)) := fun _ _ e => Heap.get?_push_of_some _ e
  exact ⟨⟨_, s.toks, rfl, fun b o e => hkk b o (hk b o e)⟩, .tup (n := 0) ⟨Heap.get?_push_size _ rfl, (F.keeps hk).fresh⟩ hlen ((r.keeps hk).keeps hkk)⟩
theorem cl_list {ds : List D} : Cl c σ ρ (.type "list") [.lst ds] (.lst ds) := fun s vs F os => by
  cases os with
  | cons o r =>
  cases r
  cases o with
  | @lst l n ws _ hp hlen r =>
  refine call_list_seq (items := ws.toArray) l (.inl rfl) hp.1 rfl rfl (fun h' c' hk hD => ?_) (by rw [List.size_toArray]; exact Nat.le_trans hlen (by decide))
  exact ⟨⟨_, s.toks, rfl, hk⟩, .lst (n := c') ⟨hD, F.fresh⟩ hlen (r.keeps hk)⟩
/-- a call of a built-in type by its name -/
theorem tv_callt {func e : Expr} {rest : List Expr} {pos : Pos} {T : String} {ds : List D} {d : D} (hf : Tv c σ ρ (eval func c.env) (.adr (.type T)))
    (ha : Ts c σ ρ (spliced (backTo pos (starEach (e :: rest) c.env))) ds) (hc : Cl c σ ρ (.type T) ds d)
    (he : eval (.Call func (e :: rest) [] pos) c.env = (do callWith pos (← eval func c.env) [] (backTo pos (starEach (e :: rest) c.env)) (backToKw pos (keywordEach [] c.env))) := by rfl)
    (he' : starEach (e :: rest) c.env = (false, eval e c.env) :: starEach rest c.env := by rfl)
    (hp : (backTo pos (starEach rest c.env)).any (·.1) = false := by rfl) : Tv c σ ρ (eval (.Call func (e :: rest) [] pos) c.env) d := fun s F =>
  Call_ (tv_then hf F fun v s1 k1 F1 o1 => by
    cases o1
    exact callWith_type1 (wpAny_mono (ha s1 F1) (fun vs s2 x => wpAny_mono (hc s2 vs (F1.keeps x.1.kp) x.2) (fun v s3 y => y.weak (k1.trans x.1)) fun _ _ x => x) fun _ _ x => x) he' hp) he
end
end Mine
end

section
open PySem PySem.W PySem.Calls PyProof.Rows
set_option Elab.async false
set_option maxRecDepth 100000
set_option linter.unusedVariables false
namespace Mine

inductive Out where
  | ret (d : D)
  | next (σ : Sg) (ρ : Rh)

/-- what a statement may change -/
def Mt (c : Cx) (σ : Sg) (a : Addr) : Prop := a = c.env.locals ∨ (∃ x, c.env.cells.lookup x = some a) ∨ ∃ p ∈ σ, p.1 = a
def Kb (c : Cx) (σ : Sg) (h h' : Heap) : Prop := ∀ a o, ¬ Mt c σ a → h.get? a = some o → h'.get? a = some o
def Sa (s s' : Shared) : Prop := ∃ h' tk, s' = { s with heap := h', toks := tk }

theorem Sa.refl (s : Shared) : Sa s s := ⟨_, _, rfl⟩
theorem Sa.trans {s s' s'' : Shared} (x : Sa s s') (y : Sa s' s'') : Sa s s'' := by
  obtain ⟨h, t, rfl⟩ := x; obtain ⟨h', t', rfl⟩ := y; exact ⟨_, _, rfl⟩
theorem Stp.sa {s s' : Shared} (x : Stp s s') : Sa s s' := by obtain ⟨h, t, rfl, _⟩ := x; exact ⟨_, _, rfl⟩
theorem Kb.of_kp {c : Cx} {σ : Sg} {h h' : Heap} (x : Kp h h') : Kb c σ h h' := fun a o _ e => x a o e
theorem Kb.trans {c : Cx} {σ : Sg} {h h' h'' : Heap} (x : Kb c σ h h') (y : Kb c σ h' h'') : Kb c σ h h'' := fun a o m e => y a o m (x a o m e)
theorem Mt.of_map {c : Cx} {σ σ' : Sg} (e : σ'.map (·.1) = σ.map (·.1)) {a : Addr} (m : Mt c σ' a) : Mt c σ a := by
  rcases m with m | m | ⟨p, hp, rfl⟩
  · exact .inl m
  · exact .inr (.inl m)
  · have : p.1 ∈ σ'.map (·.1) := List.mem_map_of_mem hp
    rw [e] at this
    obtain ⟨q, hq, e'⟩ := List.mem_map.mp this
    exact .inr (.inr ⟨q, hq, e'⟩)
theorem Kb.of_map {c : Cx} {σ σ' : Sg} {h h' : Heap} (e : σ'.map (·.1) = σ.map (·.1)) (x : Kb c σ' h h') : Kb c σ h h' := fun a o m q => x a o (fun m' => m (m'.of_map e)) q
theorem MM.of_map {c : Cx} {σ σ' : Sg} (e : σ'.map (·.1) = σ.map (·.1)) {a : Addr} (m : MM c σ' a) : MM c σ a := by
  rcases m with m | ⟨p, hp, rfl⟩
  · exact .inl m
  · have : p.1 ∈ σ'.map (·.1) := List.mem_map_of_mem hp
    rw [e] at this
    obtain ⟨q, hq, e'⟩ := List.mem_map.mp this
    exact .inr ⟨q, hq, e'⟩

def Done (c : Cx) (σ : Sg) : Out → Flow → Shared → Shared → Prop
  | .ret d, fl, s, s' => ∃ v, fl = .ret v ∧ Sa s s' ∧ Kp c.base s'.heap ∧ Ok (Fz c.M0 s'.heap) v d
  | .next σ' ρ', fl, s, s' => fl = .next ∧ Sa s s' ∧ σ'.map (·.1) = σ.map (·.1) ∧ FR c σ' s'.heap ρ' ∧ Kb c σ s.heap s'.heap

def Ex1 (c : Cx) (σ : Sg) (ρ : Rh) (st : Stmt) (o : Out) : Prop := ∀ s, FR c σ s.heap ρ → wpAny (model P c.w) c.A (exec st c.env) (fun fl s' => Done c σ o fl s s') No s
def Exs (c : Cx) (σ : Sg) (ρ : Rh) (ss : List Stmt) (o : Out) : Prop := ∀ s, FR c σ s.heap ρ → wpAny (model P c.w) c.A (execs ss c.env) (fun fl s' => Done c σ o fl s s') No s

section
variable {c : Cx} {σ σ₁ σ₂ : Sg} {ρ ρ₁ ρ₂ : Rh} {o : Out}

theorem Done.before {fl : Flow} {s s₁ s' : Shared} (e : σ₁.map (·.1) = σ.map (·.1)) (k : Kb c σ s.heap s₁.heap) (a : Sa s s₁) (d : Done c σ₁ o fl s₁ s') : Done c σ o fl s s' := by
  cases o with
  | ret d' => obtain ⟨v, h1, h2, h3⟩ := d; exact ⟨v, h1, a.trans h2, h3⟩
  | next σ' ρ' => obtain ⟨h1, h2, h3, h4, h5⟩ := d; exact ⟨h1, a.trans h2, h3.trans e, h4, k.trans (h5.of_map e)⟩
theorem Done.beforeK {fl : Flow} {s s₁ s' : Shared} (k : Stp s s₁) (d : Done c σ o fl s₁ s') : Done c σ o fl s s' := d.before rfl (.of_kp k.kp) k.sa

theorem exs_nil : Exs c σ ρ [] (.next σ ρ) := fun s F => wpAny_execs_nil ⟨rfl, .refl _, rfl, F, fun _ _ _ e => e⟩
theorem exs_cons {st : Stmt} {rest : List Stmt} (h1 : Ex1 c σ ρ st (.next σ₁ ρ₁)) (h2 : Exs c σ₁ ρ₁ rest o) : Exs c σ ρ (st :: rest) o := fun s F =>
  wpAny_execs_cons (wpAny_mono (h1 s F) (fun fl s' d => by
    obtain ⟨rfl, a, e, F1, k⟩ := d
    exact wpAny_mono (h2 s' F1) (fun fl s'' d' => d'.before e k a) fun _ _ x => x) fun _ _ x => x)
theorem exs_ret {st : Stmt} {rest : List Stmt} {d : D} (h1 : Ex1 c σ ρ st (.ret d)) : Exs c σ ρ (st :: rest) (.ret d) := fun s F =>
  wpAny_execs_cons (wpAny_mono (h1 s F) (fun fl s' q => by
    obtain ⟨v, rfl, r⟩ := q
    exact ⟨v, rfl, r⟩) fun _ _ x => x)

theorem FR.sub {h : Heap} (F : FR c σ h ρ) (hs : ∀ x d, ρ₁.lookup x = some d → ρ.lookup x = some d) : FR c σ h ρ₁ :=
  { F with vars := let ⟨m, hn, hv⟩ := F.vars; ⟨m, hn, fun x d e => hv x d (hs x d e)⟩ }

/-! the data behind a store -/
theorem ok_but {M : Addr → Prop} {h h' : Heap} {b : Addr} {v : Value} {d : D} (hs : Heap.SameBut b h h') (hb : ∀ ob xs n, h.get? b = some ob → ob.data ≠ .seq xs n) (x : Ok (Fz M h) v d) : Ok (Fz M h') v d :=
  x.mono' (fun a vs n q => ⟨(hs.2 a fun e => hb _ _ _ (e ▸ q.1) rfl).trans q.1, q.2⟩) fun a vs n q => ⟨(hs.2 a fun e => hb _ _ _ (e ▸ q.1) rfl).trans q.1, q.2⟩
theorem oks_but {M : Addr → Prop} {h h' : Heap} {b : Addr} {v : List Value} {d : List D} (hs : Heap.SameBut b h h') (hb : ∀ ob xs n, h.get? b = some ob → ob.data ≠ .seq xs n) (x : Oks (Fz M h) v d) : Oks (Fz M h') v d :=
  x.mono' (fun a vs n q => ⟨(hs.2 a fun e => hb _ _ _ (e ▸ q.1) rfl).trans q.1, q.2⟩) fun a vs n q => ⟨(hs.2 a fun e => hb _ _ _ (e ▸ q.1) rfl).trans q.1, q.2⟩

theorem ns_noseq {h : Heap} {a : Addr} {m : Str → Option Value} (hn : h.Ns a m) : ∀ ob xs n, h.get? a = some ob → ob.data ≠ .seq xs n := fun ob xs n e q => by
  obtain ⟨o, es, ep, ho, hd, _⟩ := hn
  rw [ho] at e; cases e; rw [hd] at q; cases q
theorem cell_noseq {h : Heap} {a : Addr} {v : Option Value} (hn : h.IsCell a v) : ∀ ob xs n, h.get? a = some ob → ob.data ≠ .seq xs n := fun ob xs n e q => by
  obtain ⟨o, ho, hd⟩ := hn
  rw [ho] at e; cases e; rw [hd] at q; cases q
theorem ns_cell {h : Heap} {a b : Addr} {m : Str → Option Value} {v : Option Value} (hn : h.Ns a m) (hc : h.IsCell b v) : b ≠ a := fun e => by
  obtain ⟨o, es, ep, ho, hd, _⟩ := hn
  obtain ⟨o', ho', hd'⟩ := hc
  rw [e, ho] at ho'; cases ho'; rw [hd] at hd'; cases hd'

theorem lookup_put {x y : Str} {d : D} {ρ : Rh} : List.lookup y ((x, d) :: ρ) = if y = x then some d else ρ.lookup y := by
  rw [List.lookup_cons]
  by_cases h : y = x
  · subst h; simp
  · have : (y == x) = false := by simpa using h
    rw [this]; simp [h]

theorem store_ {x : Str} {v : Value} {d : D} {s : Shared} {Q : Unit → Shared → Prop} (F : FR c σ s.heap ρ) (o : Ok (Fz (MM c σ) s.heap) v d) (hx : c.env.kindOf x = some .local ∨ (c.env.kindOf x = some .cell ∧ (c.env.cells.lookup x).isSome = true ∧ c.env.func.isSome = true))
    (k : ∀ s', Sa s s' → FR c σ s'.heap ((x, d) :: ρ) → Kb c σ s.heap s'.heap → (∀ v' d', Ok (Fz (MM c σ) s.heap) v' d' → Ok (Fz (MM c σ) s'.heap) v' d') → Q () s') : wpAny (model P c.w) c.A (storeName c.env x v) Q No s := by
  obtain ⟨m, hns, hv⟩ := F.vars
  rcases hx with hx | ⟨hx, hxs, hfn⟩
  · refine wpAny_storeName_local hx hns (fun h' hn' hs => ?_) (by rw [F.ek]; rfl)
    have nb := ns_noseq hns
    have kp : ∀ b ob, b ≠ c.env.locals → s.heap.get? b = some ob → h'.get? b = some ob := hs.extBut
    refine k _ ⟨_, _, rfl⟩ ?_ (fun a o' hm e => kp a o' (fun q => hm (.inl q)) e) fun v' d' x' => ok_but hs nb x'
    exact {
      gd := F.gd, kg := F.kg, m0 := F.m0, bl := F.bl, bc := F.bc, ca := F.ca, oa := F.oa, ek := F.ek, eg := F.eg, eb := F.eb, ah := F.ah
      kb := fun b ob e => kp b ob (fun q => by rw [q, F.bl] at e; cases e) (F.kb b ob e)
      vars := ⟨_, hn', fun y d' e => by
        rw [lookup_put] at e
        by_cases hy : y = x
        · rw [if_pos hy] at e; cases e
          exact .inl ⟨hy ▸ hx, v, if_pos hy, ok_but hs nb o⟩
        · rw [if_neg hy] at e
          rcases hv y d' e with ⟨a, v', b, q⟩ | ⟨a, kk, v', b, cc, q⟩
          · exact .inl ⟨a, v', (if_neg hy).trans b, ok_but hs nb q⟩
          · exact .inr ⟨a, kk, v', b, cc.sameBut hs (ns_cell hns cc), ok_but hs nb q⟩⟩
      cx := fun y kk e => let ⟨v', q⟩ := F.cx y kk e; ⟨v', q.sameBut hs (ns_cell hns q)⟩
      ow := fun p hp => let ⟨a, vs, n, q, l, r⟩ := F.ow p hp; ⟨a, vs, n, kp _ _ (fun e => nb _ _ _ (e ▸ q) rfl) q, l, oks_but hs nb r⟩ }
  · obtain ⟨kk, hk⟩ := Option.isSome_iff_exists.mp hxs
    obtain ⟨v₀, hc⟩ := F.cx x kk hk
    refine wpAny_storeName_cell F.ek hx hk hc fun h' hc' hs => ?_
    have nb := cell_noseq hc
    have kp : ∀ b ob, b ≠ kk → s.heap.get? b = some ob → h'.get? b = some ob := hs.extBut
    refine k _ ⟨h', s.toks, rfl⟩ ?_ (fun a o' hm e => kp a o' (fun q => hm (.inr (.inl ⟨x, q ▸ hk⟩))) e) fun v' d' x' => ok_but hs nb x'
    exact {
      gd := F.gd, kg := F.kg, m0 := F.m0, bl := F.bl, bc := F.bc, ca := F.ca, oa := F.oa, ek := F.ek, eg := F.eg, eb := F.eb, ah := F.ah
      kb := fun b ob e => kp b ob (fun q => by rw [q, F.bc hfn x kk hk] at e; cases e) (F.kb b ob e)
      vars := ⟨m, hns.sameBut hs (Ne.symm (ns_cell hns hc)), fun y d' e => by
        rw [lookup_put] at e
        by_cases hy : y = x
        · rw [if_pos hy] at e; cases e
          exact .inr ⟨.inl (hy ▸ hx), kk, v, hy ▸ hk, hc', ok_but hs nb o⟩
        · rw [if_neg hy] at e
          rcases hv y d' e with ⟨a, v', b, q⟩ | ⟨a, k2, v', b, cc, q⟩
          · exact .inl ⟨a, v', b, ok_but hs nb q⟩
          · refine .inr ⟨a, k2, v', b, cc.sameBut hs (fun e => hy ?_), ok_but hs nb q⟩
            exact name_of_addr F.ca (mem_of_lookup b) (e ▸ mem_of_lookup hk)⟩
      cx := fun y k2 e => by
        by_cases hy : k2 = kk
        · exact ⟨_, hy ▸ hc'⟩
        · obtain ⟨v', q⟩ := F.cx y k2 e; exact ⟨v', q.sameBut hs hy⟩
      ow := fun p hp => let ⟨a, vs, n, q, l, r⟩ := F.ow p hp; ⟨a, vs, n, kp _ _ (fun e => nb _ _ _ (e ▸ q) rfl) q, l, oks_but hs nb r⟩ }

/-- may be stored -/
abbrev St (c : Cx) (x : Str) : Prop := c.env.kindOf x = some .local ∨ (c.env.kindOf x = some .cell ∧ (c.env.cells.lookup x).isSome = true ∧ c.env.func.isSome = true)

theorem ex_assign {x : Str} {p pos : Pos} {value : Expr} {d : D} (h : Tv c σ ρ (eval value c.env) d) (hx : St c x)
    (hs : swapsWith value (some (.Name x p)) pos.line c.env = pure false := by rfl) : Ex1 c σ ρ (.Assign [.Name x p] value pos) (.next σ ((x, d) :: ρ)) := fun s F =>
  wpAny_Assign_Name (tv_then h F fun v s1 k1 F1 o1 => store_ F1 o1 hx fun s2 a2 F2 kb2 _ => ⟨rfl, k1.sa.trans a2, rfl, F2, (Kb.of_kp k1.kp).trans kb2⟩) hs

/-- stores one behind the other -/
def puts : List (Str × D) → Rh → Rh
  | [], ρ => ρ
  | p :: r, ρ => puts r (p :: ρ)
theorem stores_ : ∀ (nds : List (Str × D)) (vs : List Value) (ρ : Rh) (s : Shared) (Q : Unit → Shared → Prop) (ts : List (Value → Sem Unit)), FR c σ s.heap ρ → Oks (Fz (MM c σ) s.heap) vs (nds.map (·.2)) → (∀ p ∈ nds, St c p.1) →
    (∀ (i : Nat) n, (nds.map (·.1))[i]? = some n → ∃ t, ts[i]? = some t ∧ ∀ v s Q, wpAny (model P c.w) c.A (storeName c.env n v) Q No s → wpAny (model P c.w) c.A (t v) Q No s) → ts.length = nds.length →
    (∀ s', Sa s s' → FR c σ s'.heap (puts nds ρ) → Kb c σ s.heap s'.heap → Q () s') → wpAny (model P c.w) c.A (assignInOrder ts vs) Q No s
  | [], vs, ρ, s, Q, ts, F, os, _, _, hl, k => by
    cases os
    cases ts with
    | nil => exact wpAny_pure (k s (.refl _) F fun _ _ _ e => e)
    | cons t r => simp at hl
  | (x, d) :: r, vs, ρ, s, Q, ts, F, os, hx, ht, hl, k => by
    cases os with
    | @cons v vs' _ _ o1 o2 =>
    cases ts with
    | nil => simp at hl
    | cons t ts' =>
    obtain ⟨t', e1, e2⟩ := ht 0 x rfl
    simp at e1; subst e1
    show wpAny _ _ (do holding vs' (t v); assignInOrder ts' vs') _ _ _
    refine wpAny_bind (wpAny_holding (e2 v s _ (store_ F o1 (hx _ (.head _)) fun s1 a1 F1 kb1 tr => ?_)))
    exact stores_ r vs' _ s1 Q ts' F1 (o2.mono' (fun a ws n q => by
        have := tr (.ref a) (.adr (.ref a)) (.adr _)
        exact ⟨kb1 a _ (fun m => by
          rcases m with m | ⟨y, m⟩ | ⟨p, hp, m⟩
          · obtain ⟨m', hn, _⟩ := F.vars; exact ns_noseq hn _ _ _ (m ▸ q.1) rfl
          · obtain ⟨v', hc⟩ := F.cx y a m; exact cell_noseq hc _ _ _ q.1 rfl
          · exact q.2 (.inr ⟨p, hp, m⟩)) q.1, q.2⟩) (fun a ws n q => by
        exact ⟨kb1 a _ (fun m => by
          rcases m with m | ⟨y, m⟩ | ⟨p, hp, m⟩
          · obtain ⟨m', hn, _⟩ := F.vars; exact ns_noseq hn _ _ _ (m ▸ q.1) rfl
          · obtain ⟨v', hc⟩ := F.cx y a m; exact cell_noseq hc _ _ _ q.1 rfl
          · exact q.2 (.inr ⟨p, hp, m⟩)) q.1, q.2⟩))
      (fun p hp => hx p (.tail _ hp)) (fun i n e => by obtain ⟨t2, a, b⟩ := ht (i + 1) n (by simpa using e); exact ⟨t2, by simpa using a, b⟩) (by simpa using hl)
      fun s' a' F' kb' => k s' (a1.trans a') F' (kb1.trans kb')

theorem ex_if_t {test : Expr} {body orelse : List Stmt} {pos : Pos} (ht : Tb c σ ρ (isTrue test c.env (eval test c.env)) true) (hb : Exs c σ ρ body o) : Ex1 c σ ρ (.If test body orelse pos) o := fun s F =>
  wpAny_If (wpAny_mono (ht s F) (fun t s1 q => by
    obtain ⟨rfl, k1⟩ := q
    exact wpAny_mono (hb s1 (F.keeps k1.kp)) (fun fl s2 d => d.beforeK k1) fun _ _ x => x) fun _ _ x => x)
theorem ex_if_f {test : Expr} {body orelse : List Stmt} {pos : Pos} (ht : Tb c σ ρ (isTrue test c.env (eval test c.env)) false) (hb : Exs c σ ρ orelse o) : Ex1 c σ ρ (.If test body orelse pos) o := fun s F =>
  wpAny_If (wpAny_mono (ht s F) (fun t s1 q => by
    obtain ⟨rfl, k1⟩ := q
    exact wpAny_mono (hb s1 (F.keeps k1.kp)) (fun fl s2 d => d.beforeK k1) fun _ _ x => x) fun _ _ x => x)
theorem ex_if_pass {test : Expr} {body : List Stmt} {pos : Pos} (ht : Tb c σ ρ (isTrue test c.env (eval test c.env)) false) : Ex1 c σ ρ (.If test body [] pos) (.next σ ρ) := ex_if_f ht exs_nil

/-- data that a frame hands back -/
def Rs (c : Cx) (σ : Sg) (ρ : Rh) (d' d : D) : Prop := ∀ (h : Heap) v, FR c σ h ρ → Ok (Fz (MM c σ) h) v d' → Ok (Fz c.M0 h) v d
theorem rs_same {d : D} : Rs c σ ρ d d := fun h v F x => x.less fun a m => .inl m
theorem rs_own {l : Addr} {ds : List D} (hm : (l, ds) ∈ σ) : Rs c σ ρ (.adr (.ref l)) (.lst ds) := fun h v F x => by
  cases x
  obtain ⟨hb, vs, n, hp, hl, r⟩ := F.ow _ hm
  exact .lst ⟨hp, fun m => by obtain ⟨o, e⟩ := (F.m0 _ m).2; rw [hb] at e; cases e⟩ hl (r.less fun a m => .inl m)
theorem rs_own2 {l l' : Addr} {ds es : List D} (hm : (l, ds) ∈ σ) (hm' : (l', es) ∈ σ) : Rs c σ ρ (.tup [.adr (.ref l), .adr (.ref l')]) (.tup [.lst ds, .lst es]) := fun h v F x => by
  cases x with
  | tup hp hl r =>
  cases r with
  | cons o1 r =>
  cases r with
  | cons o2 r =>
  cases r
  exact .tup ⟨hp.1, fun m => hp.2 (.inl m)⟩ hl (.cons (rs_own hm h _ F o1) (.cons (rs_own hm' h _ F o2) .nil))

theorem ex_return {e : Expr} {pos : Pos} {d' d : D} (h : Tv c σ ρ (eval e c.env) d') (hr : Rs c σ ρ d' d) : Ex1 c σ ρ (.Return (some e) pos) (.ret d) := fun s F =>
  wpAny_Return_some (tv_then h F fun v s1 k1 F1 o1 => ⟨v, rfl, k1.sa, F1.kb, hr _ v F1 o1⟩)
end
end Mine
end

section
open PySem PySem.W PySem.Calls PyProof.Rows
set_option Elab.async false
set_option maxRecDepth 100000
set_option linter.unusedVariables false
namespace Mine

section
variable {c : Cx} {σ σ₁ σ₂ : Sg} {ρ ρ₁ ρ₂ : Rh} {o : Out}

theorem kp_ext {h h' : Heap} (x : Heap.ExtBut h.objs.size h h') : Kp h h' := fun b ob e => x b ob (Nat.ne_of_lt (Heap.lt_size e)) e

theorem FR.live' {h : Heap} (F : FR c σ h ρ) {a : Addr} (m : Mt c σ a) : ∃ ob, h.get? a = some ob := by
  rcases m with rfl | ⟨x, m⟩ | ⟨p, hp, rfl⟩
  · obtain ⟨_, ⟨ob, _, _, e, _⟩, _⟩ := F.vars; exact ⟨ob, e⟩
  · obtain ⟨v, ob, e, _⟩ := F.cx x a m; exact ⟨ob, e⟩
  · obtain ⟨_, vs, n, e, _⟩ := F.ow p hp; exact ⟨_, e⟩
theorem FR.not_mt {h : Heap} (F : FR c σ h ρ) {a : Addr} (e : h.get? a = none) : ¬ Mt c σ a := fun m => by
  obtain ⟨ob, q⟩ := F.live' m; rw [e] at q; cases q
/-- a frozen tuple or list is nobody's to change -/
theorem FR.frozen {h : Heap} (F : FR c σ h ρ) {a : Addr} {ob : Obj} {xs : Array Value} {n : Nat} (q : Fz (MM c σ) h a ob) (hd : ob.data = .seq xs n) : ¬ Mt c σ a := fun m => by
  rcases m with m | ⟨y, m⟩ | ⟨p, hp, m⟩
  · obtain ⟨m', hn, _⟩ := F.vars; exact ns_noseq hn _ _ _ (m ▸ q.1) hd
  · obtain ⟨v', hc⟩ := F.cx y a m; exact cell_noseq hc _ _ _ q.1 hd
  · exact q.2 (.inr ⟨p, hp, m⟩)
theorem Ok.kb {h h' : Heap} {v : Value} {d : D} (x : Ok (Fz (MM c σ) h) v d) (F : FR c σ h ρ) (k : Kb c σ h h') (e : σ₁.map (·.1) = σ.map (·.1)) : Ok (Fz (MM c σ₁) h') v d :=
  x.mono' (fun a vs n q => ⟨k a _ (F.frozen q rfl) q.1, fun m => q.2 (m.of_map e)⟩) fun a vs n q => ⟨k a _ (F.frozen q rfl) q.1, fun m => q.2 (m.of_map e)⟩
theorem Oks.kb {h h' : Heap} {v : List Value} {d : List D} (x : Oks (Fz (MM c σ) h) v d) (F : FR c σ h ρ) (k : Kb c σ h h') (e : σ₁.map (·.1) = σ.map (·.1)) : Oks (Fz (MM c σ₁) h') v d :=
  x.mono' (fun a vs n q => ⟨k a _ (F.frozen q rfl) q.1, fun m => q.2 (m.of_map e)⟩) fun a vs n q => ⟨k a _ (F.frozen q rfl) q.1, fun m => q.2 (m.of_map e)⟩

/-- a, b = (e1, e2): the stores in the other order -/
theorem ex_swap {elts : List Expr} {k : Nat} {tpos pos : Pos} {value : Expr} {names : List Str} {ds : List D} (h : Tv c σ ρ (eval value c.env) (.tup ds))
    (hw : swappedStores [.Tuple elts k tpos] value c.env = pure (some names)) (hl : names.length = ds.length) (hx : ∀ n ∈ names, St c n)
    (hs : swapsWithSole [.Tuple elts k tpos] value pos.line c.env = pure false := by rfl) : Ex1 c σ ρ (.Assign [.Tuple elts k tpos] value pos) (.next σ (puts (names.zip ds).reverse ρ)) := fun s F => by
  refine Assign_Tuple_swapped (tv_then h F fun v s1 k1 F1 o1 => ?_) hs hw
  cases o1 with
  | @tup t n vs _ hp hlen r =>
  have hT : IsTup s1.heap t vs.toArray := ⟨_, hp.1, rfl, n, rfl⟩
  have e : names.length = vs.toArray.size := by rw [List.size_toArray, r.length, hl]
  rw [e]
  refine unpackItems_tuple F1.ah hT fun h' he => ?_
  have hk := kp_ext he
  have F2 : FR c σ h' ρ := F1.keeps hk
  refine stores_ (names.zip ds).reverse _ ρ _ _ _ F2 ?_ (fun p hp => hx p.1 (List.of_mem_zip (List.mem_reverse.mp hp)).1) (fun i n e => ?_) (by simp [hl]) fun s' a F' kb' => ⟨rfl, (k1.sa.trans ⟨h', s1.toks, rfl⟩).trans a, rfl, F', ((Kb.of_kp k1.kp).trans (.of_kp hk)).trans kb'⟩
  · have e2 : (names.zip ds).reverse.map (·.2) = ds.reverse := by
      rw [List.map_reverse, List.map_snd_zip (Nat.le_of_eq hl.symm)]
    rw [e2]
    have : ∀ {φ : Hp} {vs : List Value} {ds : List D}, Oks φ vs ds → Oks φ vs.reverse ds.reverse := fun {φ} {vs} {ds} x => by
      induction vs generalizing ds with
      | nil => cases x; exact .nil
      | cons v vs ih => cases x with | cons a b => rw [List.reverse_cons, List.reverse_cons]; exact (ih b).append (.cons a .nil)
    simpa using this (r.keeps hk)
  · have e2 : (names.zip ds).reverse.map (·.1) = names.reverse := by
      rw [List.map_reverse, List.map_fst_zip (Nat.le_of_eq hl)]
    rw [e2] at e
    exact ⟨bindName c.env n, by rw [List.getElem?_map, e]; rfl, fun v s Q q => wpAny_bindName q⟩

theorem ex_swap2 {elts : List Expr} {k : Nat} {tpos pos : Pos} {value : Expr} {x y : Str} {a b : D} (h : Tv c σ ρ (eval value c.env) (.tup [a, b])) (hx : St c x) (hy : St c y)
    (hw : swappedStores [.Tuple elts k tpos] value c.env = pure (some [x, y]) := by rfl)
    (hs : swapsWithSole [.Tuple elts k tpos] value pos.line c.env = pure false := by rfl) : Ex1 c σ ρ (.Assign [.Tuple elts k tpos] value pos) (.next σ ((x, a) :: (y, b) :: ρ)) :=
  ex_swap h hw rfl (fun n hn => by
    rcases List.mem_cons.mp hn with rfl | hn
    · exact hx
    · rw [List.mem_singleton.mp hn]; exact hy) hs

/-- x, y = e: unpacked in order -/
theorem ex_unpack2 {x y : Str} {px py : Pos} {k : Nat} {tpos pos : Pos} {value : Expr} {a b : D} (h : Tv c σ ρ (eval value c.env) (.tup [a, b]))
    (hx : St c x) (hy : St c y) (hw : swappedStores [.Tuple [.Name x px, .Name y py] k tpos] value c.env = pure none := by rfl)
    (hs : swapsWithSole [.Tuple [.Name x px, .Name y py] k tpos] value pos.line c.env = pure false := by rfl) :
    Ex1 c σ ρ (.Assign [.Tuple [.Name x px, .Name y py] k tpos] value pos) (.next σ ((y, b) :: (x, a) :: ρ)) := fun s F => by
  refine Assign_Tuple (tv_then h F fun v s1 k1 F1 o1 => ?_) hs hw
  cases o1 with
  | @tup t n vs _ hp hlen r =>
  refine assign_Tuple_tuple F1.ah ⟨_, hp.1, rfl, n, rfl⟩ (by rw [List.size_toArray, r.length]; rfl) rfl fun h' he => ?_
  have hk := kp_ext he
  refine stores_ [(x, a), (y, b)] _ ρ _ _ _ (F1.keeps hk) (by simpa using r.keeps hk) (fun p hp => ?_) (fun i n e => ?_) rfl fun s' a F' kb' => ⟨rfl, (k1.sa.trans ⟨h', s1.toks, rfl⟩).trans a, rfl, F', ((Kb.of_kp k1.kp).trans (.of_kp hk)).trans kb'⟩
  · simp at hp; rcases hp with rfl | rfl
    · exact hx
    · exact hy
  · match i with
    | 0 => simp at e; subst e; exact ⟨_, rfl, fun v s Q q => PyProof.Rows.assign_Name q⟩
    | 1 => simp at e; subst e; exact ⟨_, rfl, fun v s Q q => PyProof.Rows.assign_Name q⟩
    | i + 2 => simp at e
theorem ex_unpack2l {x y : Str} {px py : Pos} {k : Nat} {tpos pos : Pos} {value : Expr} {a b : D} (h : Tv c σ ρ (eval value c.env) (.lst [a, b]))
    (hx : St c x) (hy : St c y) (hw : swappedStores [.Tuple [.Name x px, .Name y py] k tpos] value c.env = pure none := by rfl)
    (hs : swapsWithSole [.Tuple [.Name x px, .Name y py] k tpos] value pos.line c.env = pure false := by rfl) :
    Ex1 c σ ρ (.Assign [.Tuple [.Name x px, .Name y py] k tpos] value pos) (.next σ ((y, b) :: (x, a) :: ρ)) := fun s F => by
  refine Assign_Tuple (tv_then h F fun v s1 k1 F1 o1 => ?_) hs hw
  cases o1 with
  | @lst t n vs _ hp hlen r =>
  rw [PyProof.Rows.assign_Tuple]
  refine wpAny_bind (wpAny_standAt ?_)
  have e : (assignEach [Expr.Name x px, .Name y py] c.env).length = vs.toArray.size := by rw [List.size_toArray, r.length]; rfl
  have e2 : (assignEach [Expr.Name x px, .Name y py] c.env).findIdx? (·.1) = none := rfl
  unfold unpack
  rw [e, e2]
  refine wpAny_bind (wpAny_holding (kun_itemsOf F1.ah ⟨_, hp.1, rfl, n, rfl⟩ fun h' he => ?_))
  have hk := kp_ext he
  refine stores_ [(x, a), (y, b)] _ ρ _ _ _ (F1.keeps hk) (by simpa using r.keeps hk) (fun p hp => ?_) (fun i n e => ?_) rfl fun s' a F' kb' => ⟨rfl, (k1.sa.trans ⟨h', s1.toks, rfl⟩).trans a, rfl, F', ((Kb.of_kp k1.kp).trans (.of_kp hk)).trans kb'⟩
  · simp at hp; rcases hp with rfl | rfl
    · exact hx
    · exact hy
  · match i with
    | 0 => simp at e; subst e; exact ⟨_, rfl, fun v s Q q => PyProof.Rows.assign_Name q⟩
    | 1 => simp at e; subst e; exact ⟨_, rfl, fun v s Q q => PyProof.Rows.assign_Name q⟩
    | i + 2 => simp at e

/-! lists of the frame's own -/
theorem FR.own {h₀ h : Heap} {l : Addr} {n : Nat} (F : FR c σ h₀ ρ) (hk : Kp h₀ h) (hl : h₀.get? l = none) (ho : h.get? l = some (lobj [] n)) : FR c ((l, []) :: σ) h ρ := by
  have tr : ∀ {v : Value} {d : D}, Ok (Fz (MM c σ) h₀) v d → Ok (Fz (MM c ((l, []) :: σ)) h) v d := fun x => x.mono fun a ob q => ⟨hk a ob q.1, fun m => by
    rcases m with m | ⟨p, hp, rfl⟩
    · exact q.2 (.inl m)
    · rcases List.mem_cons.mp hp with rfl | hp
      · have := q.1; rw [hl] at this; cases this
      · exact q.2 (.inr ⟨p, hp, rfl⟩)⟩
  have trs : ∀ {v : List Value} {d : List D}, Oks (Fz (MM c σ) h₀) v d → Oks (Fz (MM c ((l, []) :: σ)) h) v d := fun x => x.mono fun a ob q => ⟨hk a ob q.1, fun m => by
    rcases m with m | ⟨p, hp, rfl⟩
    · exact q.2 (.inl m)
    · rcases List.mem_cons.mp hp with rfl | hp
      · have := q.1; rw [hl] at this; cases this
      · exact q.2 (.inr ⟨p, hp, rfl⟩)⟩
  have F1 := F.keeps hk
  exact { F1 with
    vars := let ⟨m, hn, hv⟩ := F.vars; ⟨m, hn.keeps hk, fun x d e => (hv x d e).keeps hk fun v q => tr q⟩
    ow := fun p hp => by
      rcases List.mem_cons.mp hp with rfl | hp
      · refine ⟨?_, [], n, ho, Nat.zero_le _, .nil⟩
        cases e : c.base.get? l with
        | none => rfl
        | some ob => have := F.kb _ _ e; rw [hl] at this; cases this
      · obtain ⟨a, vs, n', q, ll, r⟩ := F.ow p hp
        exact ⟨a, vs, n', hk _ _ q, ll, trs r⟩
    oa := List.pairwise_cons.mpr ⟨fun q hq e => by
      obtain ⟨_, vs, n', q', _⟩ := F.ow q hq
      (have e' : l = q.1 := e); (rw [← e', hl] at q'); (cases q'), F.oa⟩ }

theorem alloc_own {s : Shared} {Q : Value → Shared → Prop} (F : FR c σ s.heap ρ) (h : ∀ l s', Stp s s' → s.heap.get? l = none → s'.heap.get? l = some (lobj [] 0) → Q (.ref l) s') : wpAny (model P c.w) c.A (newList []) Q No s := by
  have hkk : Kp s.heap (s.heap.push (lobj [] 0)) := fun _ _ e => Heap.get?_push_of_some _ e
  exact wpAny_newObj_type (h _ _ ⟨_, s.toks, rfl, hkk⟩ (Heap.get?_none_of_le (Nat.le_refl _)) (Heap.get?_push_size _ rfl)) (by show 0 ≤ sizeLine; decide)

theorem eval_nil_list {pos : Pos} {s : Shared} {Q : Value → Shared → Prop} (F : FR c σ s.heap ρ) (h : ∀ l s', Stp s s' → s.heap.get? l = none → s'.heap.get? l = some (lobj [] 0) → Q (.ref l) s') :
    wpAny (model P c.w) c.A (eval (.List [] pos) c.env) Q No s := List_ (args_nil (alloc_own F h))

/-- found = [] -/
theorem exs_newlist {x : Str} {p p' pos : Pos} {rest : List Stmt} {d : D} (hx : St c x) (h : ∀ l, Exs c ((l, []) :: σ) ((x, .adr (.ref l)) :: ρ) rest (.ret d))
    (hs : swapsWith (.List [] p') (some (.Name x p)) pos.line c.env = pure false := by rfl) : Exs c σ ρ (.Assign [.Name x p] (.List [] p') pos :: rest) (.ret d) := fun s F =>
  wpAny_execs_cons (wpAny_Assign_Name (eval_nil_list F fun l s1 k1 hl ho => by
    have F1 : FR c ((l, []) :: σ) s1.heap ρ := F.own k1.kp hl ho
    refine store_ F1 (.adr _) hx fun s2 a2 F2 kb2 _ => ?_
    exact wpAny_mono (h l s2 F2) (fun fl s3 q => by
      obtain ⟨v, rfl, a3, r⟩ := q
      exact ⟨v, rfl, (k1.sa.trans a2).trans a3, r⟩) fun _ _ x => x) hs)

/-- x, y = ([], []) -/
theorem exs_newlist2 {x y : Str} {px py p1 p2 pos tpos vpos : Pos} {k k' : Nat} {rest : List Stmt} {d : D} (hx : St c x) (hy : St c y)
    (h : ∀ l l', Exs c ((l', []) :: (l, []) :: σ) ((x, .adr (.ref l)) :: (y, .adr (.ref l')) :: ρ) rest (.ret d))
    (hw : swappedStores [.Tuple [.Name x px, .Name y py] k tpos] (.Tuple [.List [] p1, .List [] p2] k' vpos) c.env = pure (some [x, y]))
    (hs : swapsWithSole [.Tuple [.Name x px, .Name y py] k tpos] (.Tuple [.List [] p1, .List [] p2] k' vpos) pos.line c.env = pure false := by rfl) :
    Exs c σ ρ (.Assign [.Tuple [.Name x px, .Name y py] k tpos] (.Tuple [.List [] p1, .List [] p2] k' vpos) pos :: rest) (.ret d) := fun s F => by
  refine wpAny_execs_cons (Assign_Tuple_swapped (Tuple_ (args_cons (eval_nil_list F fun l s1 k1 hl ho => args_cons (eval_nil_list (F.keeps k1.kp) fun l' s2 k2 hl' ho' => args_nil ?_)))) hs hw)
  have F1 : FR c ((l, []) :: σ) s1.heap ρ := F.own k1.kp hl ho
  have F2 : FR c ((l', []) :: (l, []) :: σ) s2.heap ρ := F1.own k2.kp hl' ho'
  refine alloc_tup F2 (ds := [.adr (.ref l), .adr (.ref l')]) (.cons (.adr _) (.cons (.adr _) .nil)) (by simp [Bd]) fun v s3 q => ?_
  obtain ⟨k3, o3⟩ := q
  cases o3 with
  | @tup t n vs _ hp hlen r =>
  cases r with
  | cons o1 r =>
  cases r with
  | cons o2 r =>
  cases r; cases o1; cases o2
  refine unpackItems_tuple (items := #[.ref l, .ref l']) F.ah ⟨_, hp.1, rfl, n, rfl⟩ fun h' he => ?_
  have hk := kp_ext he
  have F4 := (F2.keeps k3.kp).keeps hk
  refine stores_ [(y, .adr (.ref l')), (x, .adr (.ref l))] [.ref l', .ref l] ρ _ _ _ F4 (.cons (.adr _) (.cons (.adr _) .nil)) (fun p hp => ?_) (fun i n e => ?_) rfl fun s' a F' kb' => ?_
  · simp at hp; rcases hp with rfl | rfl
    · exact hy
    · exact hx
  · match i with
    | 0 => simp at e; subst e; exact ⟨_, rfl, fun v s Q q => wpAny_bindName q⟩
    | 1 => simp at e; subst e; exact ⟨_, rfl, fun v s Q q => wpAny_bindName q⟩
    | i + 2 => simp at e
  · exact wpAny_mono (h l l' s' F') (fun fl s5 q => by
      obtain ⟨v, rfl, a5, r⟩ := q
      exact ⟨v, rfl, ((((k1.sa.trans k2.sa).trans k3.sa).trans ⟨h', s3.toks, rfl⟩).trans a).trans a5, r⟩) fun _ _ x => x

/-- x, y = ([], 1) -/
theorem exs_newlist1 {x y : Str} {px py p1 p2 pos tpos vpos : Pos} {k k' kk : Nat} {i : Int} {rest : List Stmt} {d : D} (hx : St c x) (hy : St c y)
    (h : ∀ l, Exs c ((l, []) :: σ) ((x, .adr (.ref l)) :: (y, .int i) :: ρ) rest (.ret d))
    (hw : swappedStores [.Tuple [.Name x px, .Name y py] k tpos] (.Tuple [.List [] p1, .Constant (.int i) kk p2] k' vpos) c.env = pure (some [x, y]))
    (hs : swapsWithSole [.Tuple [.Name x px, .Name y py] k tpos] (.Tuple [.List [] p1, .Constant (.int i) kk p2] k' vpos) pos.line c.env = pure false := by rfl) :
    Exs c σ ρ (.Assign [.Tuple [.Name x px, .Name y py] k tpos] (.Tuple [.List [] p1, .Constant (.int i) kk p2] k' vpos) pos :: rest) (.ret d) := fun s F => by
  refine wpAny_execs_cons (Assign_Tuple_swapped (Tuple_ (args_cons (eval_nil_list F fun l s1 k1 hl ho => args_cons (wpAny_Constant_int (args_nil ?_))))) hs hw)
  have F1 : FR c ((l, []) :: σ) s1.heap ρ := F.own k1.kp hl ho
  have k2 : Stp s1 { s1 with toks := s1.toks + 1 } := Stp.tok _ _
  refine alloc_tup (s := { s1 with toks := s1.toks + 1 }) F1 (ds := [.adr (.ref l), .int i]) (.cons (.adr _) (.cons (.int _ _) .nil)) (by simp [Bd]) fun v s3 q => ?_
  obtain ⟨k3, o3⟩ := q
  cases o3 with
  | @tup t n vs _ hp hlen r =>
  cases r with
  | cons o1 r =>
  cases r with
  | cons o2 r =>
  cases r; cases o1
  cases o2 with
  | int _ u =>
  refine unpackItems_tuple (items := #[.ref l, .int i u]) F.ah ⟨_, hp.1, rfl, n, rfl⟩ fun h' he => ?_
  have hk := kp_ext he
  have F4 := (F1.keeps k3.kp).keeps hk
  refine stores_ [(y, .int i), (x, .adr (.ref l))] [.int i u, .ref l] ρ _ _ _ F4 (.cons (.int _ _) (.cons (.adr _) .nil)) (fun p hp => ?_) (fun i n e => ?_) rfl fun s' a F' kb' => ?_
  · simp at hp; rcases hp with rfl | rfl
    · exact hy
    · exact hx
  · match i with
    | 0 => simp at e; subst e; exact ⟨_, rfl, fun v s Q q => wpAny_bindName q⟩
    | 1 => simp at e; subst e; exact ⟨_, rfl, fun v s Q q => wpAny_bindName q⟩
    | i + 2 => simp at e
  · exact wpAny_mono (h l s' F') (fun fl s5 q => by
      obtain ⟨v, rfl, a5, r⟩ := q
      exact ⟨v, rfl, ((((k1.sa.trans k2.sa).trans k3.sa).trans ⟨h', s3.toks, rfl⟩).trans a).trans a5, r⟩) fun _ _ x => x

theorem set_map {σ : Sg} {i : Nat} {l : Addr} {ds es : List D} (h : σ[i]? = some (l, ds)) : (σ.set i (l, es)).map (·.1) = σ.map (·.1) := by
  apply List.ext_getElem?
  intro j
  rw [List.getElem?_map, List.getElem?_map, List.getElem?_set]
  by_cases hj : i = j
  · subst hj; rw [h]
    have : i < σ.length := (List.getElem?_eq_some_iff.mp h).1
    simp [this]
  · simp [hj]

/-- found.append(e) -/
theorem ex_append {x : Str} {px ap cp pos : Pos} {e : Expr} {l : Addr} {ds : List D} {d : D} {i : Nat} (hx : Tv c σ ρ (eval (.Name x px) c.env) (.adr (.ref l))) (hm : σ[i]? = some (l, ds)) (hl : ds.length < Bd) (h : Tv c σ ρ (eval e c.env) d)
    (he : eval (.Call (.Attribute (.Name x px) "append" ap) [e] [] cp) c.env = (do
      let ov ← eval (.Name x px) c.env
      standAt ap.atName
      let (f, first) ← holding [ov] (getMethod ov "append" (do return (← importBound (.Name x px) c.env).getD true))
      callWith cp f first (backTo cp (starEach [e] c.env)) []) := by rfl)
    (he' : starEach [e] c.env = [(false, eval e c.env)] := by rfl)
    (hi : interactive c.env = false := by rfl) (hs : swapsWith (.Call (.Attribute (.Name x px) "append" ap) [e] [] cp) none pos.line c.env = pure false := by rfl) :
    Ex1 c σ ρ (.Expr (.Call (.Attribute (.Name x px) "append" ap) [e] [] cp) pos) (.next (σ.set i (l, ds ++ [d])) ρ) := fun s F => by
  refine wpAny_Expr (MethodCall_ (tv_then hx F fun v s1 k1 F1 o1 => ?_) he) hi hs
  cases o1
  have hmem : (l, ds) ∈ σ := List.mem_of_getElem? hm
  obtain ⟨hb, vs, n, hp, hlen, r⟩ := F1.ow _ hmem
  refine Calls.getMethod_list_append hp rfl rfl ?_
  refine callWith_method1 (args_cons (tv_then h F1 fun va s2 k2 F2 o2 => args_nil ?_) he') he' rfl
  obtain ⟨hb, vs, n, hp, hlen, r⟩ := F2.ow _ hmem
  have hlt : vs.length < 4096 := by rw [r.length]; exact hl
  refine append_at (its := vs.toArray) (n := n) (x := va) hp (fun h' hs hnew => ?_) (by rw [List.size_toArray]; exact Nat.le_trans hlen (by decide))
  have hmap : (σ.set i (l, ds ++ [d])).map (·.1) = σ.map (·.1) := set_map hm
  have kp : ∀ b ob, b ≠ l → s2.heap.get? b = some ob → h'.get? b = some ob := hs.extBut
  have hML : MM c σ l := .inr ⟨_, hmem, rfl⟩
  have kb : Kb c σ s2.heap h' := fun a ob m e => kp a ob (fun q => m (.inr (.inr ⟨_, hmem, q.symm⟩))) e
  refine ⟨rfl, (k1.sa.trans k2.sa).trans ⟨h', s2.toks, rfl⟩, hmap, ?_, ((Kb.of_kp k1.kp).trans (.of_kp k2.kp)).trans kb⟩
  obtain ⟨m, hns, hv⟩ := F2.vars
  have hnl : c.env.locals ≠ l := fun q => ns_noseq hns _ _ _ (q ▸ hp) rfl
  have hcl : ∀ {kk : Addr} {v' : Option Value}, s2.heap.IsCell kk v' → kk ≠ l := fun hc q => cell_noseq hc _ _ _ (q ▸ hp) rfl
  exact { F2 with
    kb := fun b ob e => kp b ob (fun q => by rw [q] at e; rw [hb] at e; cases e) (F2.kb b ob e)
    vars := ⟨m, hns.sameBut hs hnl, fun y d' e => by
      rcases hv y d' e with ⟨a, v', b, q⟩ | ⟨a, kk, v', b, cc, q⟩
      · exact .inl ⟨a, v', b, q.kb F2 kb hmap⟩
      · exact .inr ⟨a, kk, v', b, cc.sameBut hs (hcl cc), q.kb F2 kb hmap⟩⟩
    cx := fun y kk e => let ⟨v', q⟩ := F2.cx y kk e; ⟨v', q.sameBut hs (hcl q)⟩
    ow := fun p hp' => by
      obtain ⟨j, hj⟩ := List.getElem?_of_mem hp'
      rw [List.getElem?_set] at hj
      by_cases hij : i = j
      · subst hij
        have : i < σ.length := (List.getElem?_eq_some_iff.mp hm).1
        rw [if_pos rfl, if_pos this] at hj
        cases hj
        refine ⟨hb, vs ++ [va], n + 1, by rw [hnew]; simp, by rw [List.length_append]; show vs.length + 1 ≤ 4096; omega, ?_⟩
        exact (r.append (.cons o2 .nil)).kb F2 kb hmap
      · rw [if_neg hij] at hj
        have hpm : p ∈ σ := List.mem_of_getElem? hj
        obtain ⟨a, vs', n', q, ll, r'⟩ := F2.ow p hpm
        refine ⟨a, vs', n', kp _ _ (fun e => hij ?_) q, ll, r'.kb F2 kb hmap⟩
        have h1 := (List.getElem?_eq_some_iff.mp hj)
        have h2 := (List.getElem?_eq_some_iff.mp hm)
        obtain ⟨l1, e1⟩ := h1
        obtain ⟨l2, e2⟩ := h2
        rcases Nat.lt_trichotomy i j with h | h | h
        · exact absurd (by rw [e1, e2]; exact e.symm) (List.pairwise_iff_getElem.mp F2.oa i j l2 l1 h)
        · exact h
        · exact absurd (by rw [e1, e2]; exact e) (List.pairwise_iff_getElem.mp F2.oa j i l1 l2 h)
    oa := by
      have h1 : (σ.map (·.1)).Pairwise (· ≠ ·) := List.pairwise_map.mpr F2.oa
      rw [← hmap] at h1
      exact List.pairwise_map.mp h1 }
end
end Mine
end

section
open PySem PySem.W PySem.Calls PyProof.Rows
set_option Elab.async false
set_option maxRecDepth 100000
set_option linter.unusedVariables false
namespace Mine

section
variable {c : Cx} {σ σ₁ σ₂ : Sg} {ρ ρ₁ ρ₂ : Rh} {o : Out}

/-! while -/
/-- the turns of a while, to its end -/
inductive Wl (c : Cx) (test : Expr) (body : List Stmt) : Sg → Rh → Sg → Rh → Prop
  | done {σ : Sg} {ρ : Rh} : Tb c σ ρ (isTrue test c.env (eval test c.env)) false → Wl c test body σ ρ σ ρ
  | step {σ σ₁ σ' : Sg} {ρ ρ₁ ρ' : Rh} : Tb c σ ρ (isTrue test c.env (eval test c.env)) true → Exs c σ ρ body (.next σ₁ ρ₁) → Wl c test body σ₁ ρ₁ σ' ρ' → Wl c test body σ ρ σ' ρ'
  | sub {σ σ' : Sg} {ρ ρ₁ ρ' : Rh} : (∀ x d, ρ₁.lookup x = some d → ρ.lookup x = some d) → Wl c test body σ ρ₁ σ' ρ' → Wl c test body σ ρ σ' ρ'

theorem wl_code {test : Expr} {body : List Stmt} {σ σ' : Sg} {ρ ρ' : Rh} (W : Wl c test body σ ρ σ' ρ') : ∀ s, FR c σ s.heap ρ →
    codeAny (model P c.w) c.A (.whileLoop test body [] c.env) (fun r s' => r = .ok .next ∧ Done c σ (.next σ' ρ') .next s s') s := by
  induction W with
  | @done σ ρ ht =>
    intro s F
    refine codeAny_of_tree ?_
    show wpAny _ c.A ((whileTurn test body [] c.env).onRaise (fun x => do noteFrame x c.env; theTreesLotGoes x)) _ _ s
    refine wpAny_noted ?_
    simp only [whileTurn]
    refine wpAny_bind (wpAny_mono (ht s F) (fun b s1 q => ?_) fun _ _ x => x.elim)
    obtain ⟨rfl, k1⟩ := q
    exact wpAny_bind (wpAny_execs_nil (wpAny_pure ⟨rfl, Done.beforeK k1 ⟨rfl, .refl _, rfl, F.keeps k1.kp, fun _ _ _ e => e⟩⟩))
  | @step σ σ₁ σ' ρ ρ₁ ρ' ht hb W ih =>
    intro s F
    refine codeAny_of_tree ?_
    show wpAny _ c.A ((whileTurn test body [] c.env).onRaise (fun x => do noteFrame x c.env; theTreesLotGoes x)) _ _ s
    refine wpAny_noted ?_
    simp only [whileTurn]
    refine wpAny_bind (wpAny_mono (ht s F) (fun b s1 q => ?_) fun _ _ x => x.elim)
    obtain ⟨rfl, k1⟩ := q
    refine wpAny_bind (wpAny_mono (hb s1 (F.keeps k1.kp)) (fun fl s2 d => ?_) fun _ _ x => x.elim)
    obtain ⟨rfl, a, e, F2, kb⟩ := d
    refine wpAny_pure ⟨rfl, codeAny_mono (ih s2 F2) fun r s3 q => ⟨q.1, (q.2.before e kb a).beforeK k1⟩⟩
  | sub hs W ih => intro s F; exact ih s (F.sub hs)

theorem ex_while {test : Expr} {body : List Stmt} {pos : Pos} {σ' : Sg} {ρ' : Rh} (W : Wl c test body σ ρ σ' ρ') : Ex1 c σ ρ (.While test body [] pos) (.next σ' ρ') := fun s F =>
  wpAny_While (codeAny_mono (wl_code W s F) fun r s' q => by obtain ⟨rfl, d⟩ := q; exact d)

/-! sources -/
def Src (c : Cx) (σ : Sg) (ρ : Rh) (target : Expr) (t : Sem Value) (ds : List D) : Prop := ds.length ≤ Bd ∧ ∀ s, FR c σ s.heap ρ → wpAny (model P c.w) c.A t (fun xv s1 => wpAny (model P c.w) c.A (pyIter xv) (fun it s2 => Stp s s2 ∧
  ∃ (I : Addr) (fp : List Addr) (Pv : Nat → Value → Prop) (St : Nat → Heap → Prop), it = .ref I ∧ Walks P c.w c.A I fp [I] ds.length Pv St ∧ St 0 s2.heap ∧ s.heap.get? I = none ∧ (∀ b ∈ fp, ∃ ob, s2.heap.get? b = some ob) ∧ (∀ b ∈ fp, ¬ Mt c σ b) ∧
    (∀ i v, Pv i v → ∀ d, ds[i]? = some d → Ok (Fz (MM c σ) s2.heap) v d) ∧
    (∀ i h, St i h → ∀ ob xs n, h.get? I = some ob → ob.data ≠ .seq xs n) ∧
    (∀ i (s : Shared) v (Q : Unit → Shared → Prop), St i s.heap → Q () s → wpAny (model P c.w) c.A (letOwnedTupleGo target it v) Q No s)) No s1) No s

theorem src_list {target : Expr} {t : Sem Value} {ds : List D} (h : Tv c σ ρ t (.lst ds)) (hl : ds.length ≤ Bd) (ht : (∃ x p, target = .Name x p) ∨ ∃ es k p, target = .Tuple es k p) : Src c σ ρ target t ds := ⟨hl, fun s F => tv_then h F fun v s1 k1 F1 o1 => by
  cases o1 with
  | @lst l n vs _ hp hlen r =>
  have hL : s1.heap.IsList l vs.toArray := ⟨_, hp.1, rfl, n, rfl⟩
  have hkk : Kp s1.heap (s1.heap.push { cls := .type "list_iterator", data := .fields #[.ref l, .int 0 0] }) := fun _ _ e => Heap.get?_push_of_some _ e
  have hI : s.heap.get? s1.heap.objs.size = none := by
    cases e : s.heap.get? s1.heap.objs.size with
    | none => rfl
    | some ob => exact absurd (Heap.lt_size (k1.kp _ _ e)) (Nat.lt_irrefl _)
  have hne : l ≠ s1.heap.objs.size := Nat.ne_of_lt (Heap.lt_size hp.1)
  have W := Walks.list (prog := P) (w := c.w) F.ah s1.heap.objs.size l hne vs.toArray
  have hz : vs.toArray.size = ds.length := by rw [List.size_toArray, r.length]
  rw [hz] at W
  refine wpAny_pyIter_list hL ⟨k1.trans ⟨_, s1.toks, rfl, hkk⟩, s1.heap.objs.size, _, _, _, rfl, W, ⟨⟨_, Heap.get?_push_size _ rfl, rfl, rfl⟩, hL.push _⟩, hI, ?_, ?_, ?_, ?_, ?_⟩
  · intro b hb
    simp at hb; rcases hb with rfl | rfl
    · exact ⟨_, Heap.get?_push_size _ rfl⟩
    · exact ⟨_, hkk _ _ hp.1⟩
  · intro b hb
    simp at hb; rcases hb with rfl | rfl
    · exact F1.not_mt (Heap.get?_none_of_le (Nat.le_refl _))
    · exact F1.frozen hp rfl
  · intro i v hv d hd
    obtain ⟨v', hv', o⟩ := r.get hd
    have : v = v' := by
      have hv2 : vs[i]? = some v := by simpa using hv
      rw [hv'] at hv2; exact (Option.some.inj hv2).symm
    subst this
    exact o.keeps hkk
  · intro i h st ob xs n' e q
    obtain ⟨ob', e', _, hd⟩ := st.1
    rw [e] at e'; cases e'; rw [q] at hd; cases hd
  · intro i s' v Q st hQ
    rcases ht with ⟨x, p, rfl⟩ | ⟨es, kk, p, rfl⟩
    · exact wpAny_pure hQ
    · cases v <;> first
        | exact wpAny_pure hQ
        | exact wpAny_letOwnedTupleGo_listiter st.1 hQ⟩

theorem src_tuple {x : Str} {p : Pos} {t : Sem Value} {ds : List D} (h : Tv c σ ρ t (.tup ds)) (hl : ds.length ≤ Bd) : Src c σ ρ (.Name x p) t ds := ⟨hl, fun s F => tv_then h F fun v s1 k1 F1 o1 => by
  cases o1 with
  | @tup l n vs _ hp hlen r =>
  have hL : s1.heap.IsTuple l vs.toArray := ⟨_, hp.1, rfl, n, rfl⟩
  have hkk : Kp s1.heap (s1.heap.push { cls := .type "tuple_iterator", data := .fields #[.ref l, .int 0 0] }) := fun _ _ e => Heap.get?_push_of_some _ e
  have hI : s.heap.get? s1.heap.objs.size = none := by
    cases e : s.heap.get? s1.heap.objs.size with
    | none => rfl
    | some ob => exact absurd (Heap.lt_size (k1.kp _ _ e)) (Nat.lt_irrefl _)
  have hne : l ≠ s1.heap.objs.size := Nat.ne_of_lt (Heap.lt_size hp.1)
  have W := Walks.tuple (prog := P) (w := c.w) F.ah s1.heap.objs.size l hne vs.toArray
  have hz : vs.toArray.size = ds.length := by rw [List.size_toArray, r.length]
  rw [hz] at W
  refine wpAny_pyIter_tuple hL ⟨k1.trans ⟨_, s1.toks, rfl, hkk⟩, s1.heap.objs.size, _, _, _, rfl, W, ⟨⟨_, Heap.get?_push_size _ rfl, rfl, rfl⟩, hL.push _⟩, hI, ?_, ?_, ?_, ?_, ?_⟩
  · intro b hb
    simp at hb; rcases hb with rfl | rfl
    · exact ⟨_, Heap.get?_push_size _ rfl⟩
    · exact ⟨_, hkk _ _ hp.1⟩
  · intro b hb
    simp at hb; rcases hb with rfl | rfl
    · exact F1.not_mt (Heap.get?_none_of_le (Nat.le_refl _))
    · exact F1.frozen hp rfl
  · intro i v hv d hd
    obtain ⟨v', hv', o⟩ := r.get hd
    have : v = v' := by
      have hv2 : vs[i]? = some v := by simpa using hv
      rw [hv'] at hv2; exact (Option.some.inj hv2).symm
    subst this
    exact o.keeps hkk
  · intro i h st ob xs n' e q
    obtain ⟨ob', e', _, hd⟩ := st.1
    rw [e] at e'; cases e'; rw [q] at hd; cases hd
  · intro i s' v Q st hQ
    exact wpAny_pure hQ⟩

def rng (a : Int) (n : Nat) : List D := (List.range n).map fun (i : Nat) => .int (a + (i : Int))
theorem rng_len {a : Int} {n : Nat} : (rng a n).length = n := by simp [rng]
theorem rng_get {a : Int} {n i : Nat} {d : D} (h : (rng a n)[i]? = some d) : d = .int (a + (i : Int)) := by
  simp only [rng, List.getElem?_map, Option.map_eq_some_iff] at h
  obtain ⟨j, hj, rfl⟩ := h
  obtain ⟨h1, h2⟩ := List.getElem?_eq_some_iff.mp hj
  rw [List.getElem_range] at h2
  rw [h2]

theorem iter_range {x : Str} {p : Pos} {s s1 : Shared} {r : Addr} {a b : Int} {t u v : Tok} (F : FR c σ s.heap ρ) (k1 : Stp s s1) (F1 : FR c σ s1.heap ρ) (hr : IsRange s1.heap r a b 1 t u v) (ha : -4096 ≤ a) (ha' : a ≤ 4096) (hb : -4096 ≤ b) (hb' : b ≤ 4096) :
    wpAny (model P c.w) c.A (pyIter (.ref r)) (fun it s2 => Stp s s2 ∧
  ∃ (I : Addr) (fp : List Addr) (Pv : Nat → Value → Prop) (St : Nat → Heap → Prop), it = .ref I ∧ Walks P c.w c.A I fp [I] (rng a (b - a).toNat).length Pv St ∧ St 0 s2.heap ∧ s.heap.get? I = none ∧ (∀ b ∈ fp, ∃ ob, s2.heap.get? b = some ob) ∧ (∀ b ∈ fp, ¬ Mt c σ b) ∧
    (∀ i v, Pv i v → ∀ d, (rng a (b - a).toNat)[i]? = some d → Ok (Fz (MM c σ) s2.heap) v d) ∧
    (∀ i h, St i h → ∀ ob xs n, h.get? I = some ob → ob.data ≠ .seq xs n) ∧
    (∀ i (s : Shared) v (Q : Unit → Shared → Prop), St i s.heap → Q () s → wpAny (model P c.w) c.A (letOwnedTupleGo (.Name x p) it v) Q No s)) No s1 := by
  have W := LCg.range_walks (prog := P) (w := c.w) (I := s1.heap.objs.size) F.ah a (b - a).toNat
  rw [← rng_len (a := a) (n := (b - a).toNat)] at W
  refine wpAny_pyIter_range hr (small_one (by omega) (by omega) (by omega) (by omega)) ⟨k1.trans ⟨_, s1.toks, rfl, fun _ _ e => Heap.get?_push_of_some _ e⟩, s1.heap.objs.size, _, _, _, rfl, W, ?_, ?_, ?_, ?_, ?_, ?_, ?_⟩
  · rw [rangeSize_nat]
    show Heap.get? _ _ = _
    rw [Heap.get?_push_size _ rfl]
    simp [rng_len]
  · cases e : s.heap.get? s1.heap.objs.size with
    | none => rfl
    | some ob => exact absurd (Heap.lt_size (k1.kp _ _ e)) (Nat.lt_irrefl _)
  · intro b hb
    simp at hb; subst hb
    exact ⟨_, Heap.get?_push_size _ rfl⟩
  · intro b hb
    simp at hb; subst hb
    exact F1.not_mt (Heap.get?_none_of_le (Nat.le_refl _))
  · intro i v hv d hd
    obtain ⟨t, rfl⟩ := hv
    rw [rng_get hd]; exact .int _ _
  · intro i h st ob xs n' e q
    have e' : h.get? s1.heap.objs.size = some _ := st
    rw [e] at e'; cases e'; cases q
  · intro i s' v Q st hQ
    exact wpAny_pure hQ

theorem src_range1 {x : Str} {p : Pos} {func e : Expr} {pos : Pos} {n : Int} (hf : Tv c σ ρ (eval func c.env) (.adr (.type "range"))) (h : Tv c σ ρ (eval e c.env) (.int n)) (h0 : -4096 ≤ n) (h1 : n ≤ 4096)
    (he : eval (.Call func [e] [] pos) c.env = (do callWith pos (← eval func c.env) [] (backTo pos (starEach [e] c.env)) (backToKw pos (keywordEach [] c.env))) := by rfl)
    (he' : starEach [e] c.env = (false, eval e c.env) :: starEach [] c.env := by rfl) : Src c σ ρ (.Name x p) (eval (.Call func [e] [] pos) c.env) (rng 0 n.toNat) := ⟨by rw [rng_len]; show n.toNat ≤ 4096; omega, fun s F => by
  refine Call_ (tv_then hf F fun v s1 k1 F1 o1 => ?_) he
  cases o1
  refine callWith_type1 (args_cons (tv_then h F1 fun va s2 k2 F2 o2 => args_nil ?_) he') he' rfl
  cases o2 with
  | int _ u =>
  refine call_range_1 ?_
  have k3 : Stp s2 { s2 with heap := s2.heap.push { cls := .type "range", data := .fields #[.int 0 s2.toks, .int n u, .int 1 (s2.toks + 1)] }, toks := s2.toks + 1 + 1 } := ⟨_, _, rfl, fun _ _ e => Heap.get?_push_of_some _ e⟩
  have := iter_range (x := x) (p := p) F ((k1.trans k2).trans k3) (F2.keeps k3.kp) (IsRange.new s2.heap 0 n 1 _ _ _) (by omega) (by omega) h0 h1
  rw [Int.sub_zero] at this
  exact this⟩
theorem src_range2 {x : Str} {p : Pos} {func e e2 : Expr} {pos : Pos} {a b : Int} (hf : Tv c σ ρ (eval func c.env) (.adr (.type "range"))) (h : Tv c σ ρ (eval e c.env) (.int a)) (h2 : Tv c σ ρ (eval e2 c.env) (.int b))
    (h0 : -2000 ≤ a) (h1 : a ≤ 2000) (h0' : -2000 ≤ b) (h1' : b ≤ 2000)
    (he : eval (.Call func [e, e2] [] pos) c.env = (do callWith pos (← eval func c.env) [] (backTo pos (starEach [e, e2] c.env)) (backToKw pos (keywordEach [] c.env))) := by rfl)
    (he' : starEach [e, e2] c.env = (false, eval e c.env) :: starEach [e2] c.env := by rfl)
    (he2 : starEach [e2] c.env = (false, eval e2 c.env) :: starEach [] c.env := by rfl) : Src c σ ρ (.Name x p) (eval (.Call func [e, e2] [] pos) c.env) (rng a (b - a).toNat) := ⟨by rw [rng_len]; show (b - a).toNat ≤ 4096; omega, fun s F => by
  refine Call_ (tv_then hf F fun v s1 k1 F1 o1 => ?_) he
  cases o1
  refine callWith_type1 (args_cons (tv_then h F1 fun va s2 k2 F2 o2 => args_cons (tv_then h2 F2 fun vb s3 k3 F3 o3 => args_nil ?_) he2) he') he' (by rw [he2]; rfl)
  cases o2 with
  | int _ u =>
  cases o3 with
  | int _ u' =>
  refine call_range_2 ?_
  have k4 : Stp s3 { s3 with heap := s3.heap.push { cls := .type "range", data := .fields #[.int a u, .int b u', .int 1 s3.toks] }, toks := s3.toks + 1 } := ⟨_, _, rfl, fun _ _ e => Heap.get?_push_of_some _ e⟩
  exact iter_range (x := x) (p := p) F (((k1.trans k2).trans k3).trans k4) (F3.keeps k4.kp) (IsRange.new s3.heap a b 1 _ _ _) (by omega) (by omega) (by omega) (by omega)⟩

/-! for -/
def As (c : Cx) (σ : Sg) (ρ : Rh) (target : Expr) (d : D) (ρ' : Rh) : Prop := ∀ (s : Shared) v (Q : Unit → Shared → Prop), FR c σ s.heap ρ → Ok (Fz (MM c σ) s.heap) v d →
  (∀ s', Sa s s' → FR c σ s'.heap ρ' → Kb c σ s.heap s'.heap → Q () s') → wpAny (model P c.w) c.A (assign target c.env v) Q No s
theorem as_name {x : Str} {p : Pos} {d : D} (hx : St c x) : As c σ ρ (.Name x p) d ((x, d) :: ρ) := fun s v Q F o k =>
  PyProof.Rows.assign_Name (store_ F o hx fun s' a F' kb _ => k s' a F' kb)
theorem as_pair {x y : Str} {px py p : Pos} {kk : Nat} {a b : D} (hx : St c x) (hy : St c y) : As c σ ρ (.Tuple [.Name x px, .Name y py] kk p) (.tup [a, b]) ((y, b) :: (x, a) :: ρ) := fun s v Q F o k => by
  cases o with
  | @tup t n vs _ hp hlen r =>
  refine assign_Tuple_tuple F.ah ⟨_, hp.1, rfl, n, rfl⟩ (by rw [List.size_toArray, r.length]; rfl) rfl fun h' he => ?_
  have hk := kp_ext he
  refine stores_ [(x, a), (y, b)] _ ρ _ _ _ (F.keeps hk) (by simpa using r.keeps hk) (fun p hp => ?_) (fun i n e => ?_) rfl fun s' a F' kb' => k s' (Sa.trans ⟨h', s.toks, rfl⟩ a) F' ((Kb.of_kp hk).trans kb')
  · simp at hp; rcases hp with rfl | rfl
    · exact hx
    · exact hy
  · match i with
    | 0 => simp at e; subst e; exact ⟨_, rfl, fun v s Q q => PyProof.Rows.assign_Name q⟩
    | 1 => simp at e; subst e; exact ⟨_, rfl, fun v s Q q => PyProof.Rows.assign_Name q⟩
    | i + 2 => simp at e

/-- the turns of a for, to its end -/
inductive Fl (c : Cx) (target : Expr) (body : List Stmt) : Sg → Rh → List D → Sg → Rh → Prop
  | nil {σ : Sg} {ρ : Rh} : Fl c target body σ ρ [] σ ρ
  | cons {σ σ₁ σ' : Sg} {ρ ρ₀ ρ₁ ρ' : Rh} {d : D} {ds : List D} : As c σ ρ target d ρ₀ → Exs c σ ρ₀ body (.next σ₁ ρ₁) → Fl c target body σ₁ ρ₁ ds σ' ρ' → Fl c target body σ ρ (d :: ds) σ' ρ'
  | sub {σ σ' : Sg} {ρ ρ₁ ρ' : Rh} {ds : List D} : (∀ x d, ρ₁.lookup x = some d → ρ.lookup x = some d) → Fl c target body σ ρ₁ ds σ' ρ' → Fl c target body σ ρ ds σ' ρ'

theorem drop_cons {ds : List D} {d : D} {r : List D} {i : Nat} (h : ds.drop i = d :: r) : ds[i]? = some d ∧ ds.drop (i + 1) = r ∧ i < ds.length := by
  have h1 : ds[i]? = some d := by
    have := congrArg (fun l => l[0]?) h
    simpa using this
  refine ⟨h1, ?_, (List.getElem?_eq_some_iff.mp h1).1⟩
  have : (ds.drop i).drop 1 = r := by rw [h]; rfl
  rwa [List.drop_drop] at this

theorem FR.butI {h h' : Heap} {I : Addr} (F : FR c σ h ρ) (hk : ∀ b ob, b ≠ I → h.get? b = some ob → h'.get? b = some ob) (hm : ¬ Mt c σ I) (hb : c.base.get? I = none) (hns : ∀ ob xs n, h.get? I = some ob → ob.data ≠ .seq xs n) :
    FR c σ h' ρ ∧ ∀ v d, Ok (Fz (MM c σ) h) v d → Ok (Fz (MM c σ) h') v d := by
  have tr : ∀ v d, Ok (Fz (MM c σ) h) v d → Ok (Fz (MM c σ) h') v d := fun v d x => x.mono' (fun a vs n q => ⟨hk a _ (fun e => hns _ _ _ (e ▸ q.1) rfl) q.1, q.2⟩) fun a vs n q => ⟨hk a _ (fun e => hns _ _ _ (e ▸ q.1) rfl) q.1, q.2⟩
  have trs : ∀ v d, Oks (Fz (MM c σ) h) v d → Oks (Fz (MM c σ) h') v d := fun v d x => x.mono' (fun a vs n q => ⟨hk a _ (fun e => hns _ _ _ (e ▸ q.1) rfl) q.1, q.2⟩) fun a vs n q => ⟨hk a _ (fun e => hns _ _ _ (e ▸ q.1) rfl) q.1, q.2⟩
  refine ⟨{ F with
    kb := fun b ob e => hk b ob (fun q => by rw [q, hb] at e; cases e) (F.kb b ob e)
    vars := ?_
    cx := fun y kk e => ?_
    ow := fun p hp => ?_ }, tr⟩
  · obtain ⟨m, hn, hv⟩ := F.vars
    refine ⟨m, ?_, fun x d e => ?_⟩
    · obtain ⟨o, es, ep, ho, r⟩ := hn
      exact ⟨o, es, ep, hk _ _ (fun q => hm (.inl q.symm)) ho, r⟩
    · rcases hv x d e with ⟨a, v', b, q⟩ | ⟨a, kk, v', b, cc, q⟩
      · exact .inl ⟨a, v', b, tr _ _ q⟩
      · obtain ⟨oc, ho, hd⟩ := cc
        exact .inr ⟨a, kk, v', b, ⟨oc, hk _ _ (fun q => hm (.inr (.inl ⟨x, q ▸ b⟩))) ho, hd⟩, tr _ _ q⟩
  · obtain ⟨v, oc, ho, hd⟩ := F.cx y kk e
    exact ⟨v, oc, hk _ _ (fun q => hm (.inr (.inl ⟨y, q ▸ e⟩))) ho, hd⟩
  · obtain ⟨a, vs, n, q, l, r⟩ := F.ow p hp
    exact ⟨a, vs, n, hk _ _ (fun e => hm (.inr (.inr ⟨p, hp, e⟩))) q, l, trs _ _ r⟩

theorem fl_code {target : Expr} {body : List Stmt} {I : Addr} {fp : List Addr} {Pv : Nat → Value → Prop} {St : Nat → Heap → Prop} {all : List D} (W : Walks P c.w c.A I fp [I] all.length Pv St)
    (hns : ∀ i h, St i h → ∀ ob xs n, h.get? I = some ob → ob.data ≠ .seq xs n)
    (hgo : ∀ i (s : Shared) v (Q : Unit → Shared → Prop), St i s.heap → Q () s → wpAny (model P c.w) c.A (letOwnedTupleGo target (.ref I) v) Q No s)
    {σ σ' : Sg} {ρ ρ' : Rh} {ds : List D} (L : Fl c target body σ ρ ds σ' ρ') : ∀ (i : Nat) (s : Shared), all.drop i = ds → i ≤ all.length → FR c σ s.heap ρ → St i s.heap → (∀ b ∈ fp, ¬ Mt c σ b) → c.base.get? I = none →
    (∀ j v, Pv j v → ∀ d, all[j]? = some d → Ok (Fz (MM c σ) s.heap) v d) →
    codeAny (model P c.w) c.A (.forLoop target (.ref I) body [] c.env) (fun r s' => r = .ok .next ∧ Sa s s' ∧ σ'.map (·.1) = σ.map (·.1) ∧ FR c σ' s'.heap ρ' ∧ (∀ a ob, a ≠ I → ¬ Mt c σ a → s.heap.get? a = some ob → s'.heap.get? a = some ob)) s := by
  have hIfp : I ∈ fp := W.sub I (by simp)
  induction L with
  | @nil σ ρ =>
    intro i s hd hile F st hmt hbI hok
    have hi : all.length ≤ i := by simpa using hd
    have hie : i = all.length := Nat.le_antisymm hile hi
    refine codeAny_of_tree ?_
    show wpAny _ c.A ((forTurn target (.ref I) body [] c.env).onRaise (fun x => do noteFrame x c.env; theTreesLotGoes x)) _ _ s
    refine wpAny_noted ?_
    simp only [forTurn]
    refine wpAny_bind (wpAny_standAt (wpAny_bind (wpAny_onRaise (W.done s _ _ (hie ▸ st) fun h' tk hk => ?_))))
    have F' := (F.butI (fun b ob hb e => hk b ob (by simpa using hb) e) (hmt I hIfp) hbI (hns i _ st)).1
    exact wpAny_pure ⟨rfl, codeAny_block (wpAny_execs_nil ⟨rfl, ⟨h', tk, rfl⟩, by first | rfl | trivial, F', fun a ob ha _ e => hk a ob (by simpa using ha) e⟩)⟩
  | @cons σ σ₁ σ' ρ ρ₀ ρ₁ ρ' d ds has hb L ih =>
    intro i s hd hile F st hmt hbI hok
    obtain ⟨hget, hdrop, hlt⟩ := drop_cons hd
    refine codeAny_of_tree ?_
    show wpAny _ c.A ((forTurn target (.ref I) body [] c.env).onRaise (fun x => do noteFrame x c.env; theTreesLotGoes x)) _ _ s
    refine wpAny_noted ?_
    simp only [forTurn]
    refine wpAny_bind (wpAny_standAt (wpAny_bind (wpAny_onRaise (W.item i s _ _ hlt st fun v h' tk hP st' hk => ?_))))
    have hk' : ∀ b ob, b ≠ I → s.heap.get? b = some ob → h'.get? b = some ob := fun b ob hb e => hk b ob (by simpa using hb) e
    obtain ⟨F1, tr1⟩ := F.butI hk' (hmt I hIfp) hbI (hns i _ st)
    refine wpAny_bind (wpAny_mono (hgo (i + 1) { s with heap := h', toks := tk } v (fun _ s' => s' = { s with heap := h', toks := tk }) st' rfl) (fun _ s1 e => ?_) fun _ _ x => x.elim)
    subst e
    refine wpAny_bind (wpAny_mono (has { s with heap := h', toks := tk } v (fun _ s' => Sa { s with heap := h', toks := tk } s' ∧ FR c σ s'.heap ρ₀ ∧ Kb c σ h' s'.heap) F1 (tr1 _ _ (hok i v hP d hget)) fun s' a b k => ⟨a, b, k⟩) (fun _ s2 q => ?_) fun _ _ x => x.elim)
    obtain ⟨a2, F2, kb2⟩ := q
    refine wpAny_bind (wpAny_mono (hb s2 F2) (fun fl s3 q => ?_) fun _ _ x => x.elim)
    obtain ⟨rfl, a3, hmap, F3, kb3⟩ := q
    have kb : Kb c σ h' s3.heap := kb2.trans kb3
    refine wpAny_pure ⟨rfl, codeAny_mono (ih (i + 1) s3 hdrop hlt F3 ?_ (fun b hbf m => hmt b hbf (m.of_map hmap)) hbI fun j v' hP' d' hg' => ((tr1 _ _ (hok j v' hP' d' hg')).kb F1 kb hmap)) fun r s4 q => ?_⟩
    · exact W.frame _ _ _ st' fun b hbf ob e => kb b ob (hmt b hbf) e
    · obtain ⟨rfl, a4, e4, F4, k4⟩ := q
      exact ⟨rfl, ((Sa.trans ⟨h', tk, rfl⟩ a2).trans a3).trans a4, e4.trans hmap, F4, fun a ob ha hm e => k4 a ob ha (fun m => hm (m.of_map hmap)) (kb a ob hm (hk' a ob ha e))⟩
  | @sub σ σ' ρ ρ₁ ρ' ds hs L ih =>
    intro i s hd hile F st hmt hbI hok
    exact ih i s hd hile (F.sub hs) st hmt hbI hok

theorem ex_for {target iter : Expr} {body : List Stmt} {pos : Pos} {ds : List D} {σ' : Sg} {ρ' : Rh} (hsrc : Src c σ ρ target (eval iter c.env) ds) (L : Fl c target body σ ρ ds σ' ρ')
    (hs : ∀ x, foldedSetIterable iter c.env x = pure x := by intro _; rfl) : Ex1 c σ ρ (.For target iter body [] pos) (.next σ' ρ') := fun s F => by
  refine wpAny_For (wpAny_mono (hsrc.2 s F) (fun xv s1 h1 => wpAny_mono h1 (fun it s2 q => ?_) fun _ _ x => x) fun _ _ x => x) hs
  obtain ⟨k, I, fp, Pv, St, rfl, W, st, hI, hlive, hmt, hok, hns, hgo⟩ := q
  have F2 := F.keeps k.kp
  have hbI : c.base.get? I = none := by
    cases e : c.base.get? I with
    | none => rfl
    | some ob => have := F.kb _ _ e; rw [hI] at this; cases this
  exact codeAny_mono (fl_code W hns hgo L 0 s2 (by simp) (Nat.zero_le _) F2 st hmt hbI hok) fun r s3 q => by
    obtain ⟨rfl, a3, e3, F3, k3⟩ := q
    exact ⟨rfl, k.sa.trans a3, e3, F3, fun a ob hm e => k3 a ob (fun q => by rw [q, hI] at e; cases e) hm (k.kp _ _ e)⟩
end
end Mine
end

section
open PySem PySem.W PySem.Calls PyProof.Rows
set_option Elab.async false
set_option maxRecDepth 100000
set_option linter.unusedVariables false
namespace Mine

/-- room for k calls more -/
structure Rm (A : Around) (k : Nat) : Prop where
  hh : A.handled = none
  dp : A.depth + k < recursionLimit
  un : A.units + 8 * k + 200 < cLine

theorem Rm.le {A : Around} {k j : Nat} (h : Rm A k) (hj : j ≤ k) : Rm A j := ⟨h.hh, by have := h.dp; omega, by have := h.un; omega⟩
theorem Rm.deeper {A : Around} {k : Nat} {env : Env} (h : Rm A (k + 1)) : Rm (A.deeper env) k :=
  ⟨h.hh, by have := h.dp; show A.depth + 1 + k < _; omega, by have := h.un; show A.units + 3 + 8 * k + 200 < _; omega⟩

/-- what a def of the text hands back upon given data -/
def Fn (W : Wd) (name : Str) (k : Nat) (args : List D) (d : D) : Prop :=
  ∃ f o fd, W.mg name = some (.ref f) ∧ W.g.get? f = some o ∧ o.data = .func fd ∧
    ∀ (A : Around) (M : Addr → Prop) (s : Shared) (vs : List Value), Rm A k → Kp W.g s.heap → (∀ a, M a → W.g.get? a = none ∧ ∃ ob, s.heap.get? a = some ob) → Oks (Fz M s.heap) vs args →
      wpAny (model P W.w) A (call (.ref f) vs) (Pst M s d) No s

section
variable {c : Cx} {σ : Sg} {ρ : Rh}

theorem tv_fn {nm : Str} {p pos : Pos} {e : Expr} {rest : List Expr} {k : Nat} {ds : List D} {d : D} (hF : Fn c.toWd nm k ds d) (hr : Rm c.A k) (ha : Ts c σ ρ (spliced (backTo pos (starEach (e :: rest) c.env))) ds)
    (hx : c.env.kindOf nm = some .globalImplicit := by rfl) (hd : (nm == ("__debug__" : Str)) = false := by decide +kernel)
    (he : eval (.Call (.Name nm p) (e :: rest) [] pos) c.env = (do callWith pos (← eval (.Name nm p) c.env) [] (backTo pos (starEach (e :: rest) c.env)) (backToKw pos (keywordEach [] c.env))) := by rfl)
    (he' : starEach (e :: rest) c.env = (false, eval e c.env) :: starEach rest c.env := by rfl) : Tv c σ ρ (eval (.Call (.Name nm p) (e :: rest) [] pos) c.env) d := by
  obtain ⟨f, o, fd, h1, h2, h3, h4⟩ := hF
  exact tv_calld (tv_global hx h1 (.adr _) hd) h2 h3 ha (fun s vs F os => h4 c.A (MM c σ) s vs hr F.kgh (fun a m => ⟨F.mg a m, F.live a m⟩) os) he he'
end

/-- a written global -/
theorem tv_gv {c : Cx} {σ : Sg} {ρ : Rh} (gd : Gd c.toWd) {x : Str} {pos : Pos} {d : D} (hm : (x, d) ∈ globs) (hx : c.env.kindOf x = some .globalImplicit := by rfl) (hd : (x == ("__debug__" : Str)) = false := by decide +kernel) : Tv c σ ρ (eval (.Name x pos) c.env) d := by
  obtain ⟨v, h1, h2⟩ := gd.gv _ hm
  exact tv_global hx h1 h2 hd
/-- a built-in's name -/
theorem tv_bn {c : Cx} {σ : Sg} {ρ : Rh} (gd : Gd c.toWd) {x : Str} {pos : Pos} {v : Value} (hm : x ∈ blts) (hv : bootBuiltins x = some v) (hx : c.env.kindOf x = some .globalImplicit := by rfl) (hn : x ≠ "__name__" := by decide +kernel) (hd : (x == ("__debug__" : Str)) = false := by decide +kernel) :
    Tv c σ ρ (eval (.Name x pos) c.env) (.adr v) := tv_builtin hx (gd.nb _ hm) hv hn hd

theorem bb_abs : bootBuiltins "abs" = some (.builtin "abs") := by decide +kernel
theorem bb_min : bootBuiltins "min" = some (.builtin "min") := by decide +kernel
theorem bb_max : bootBuiltins "max" = some (.builtin "max") := by decide +kernel
theorem bb_len : bootBuiltins "len" = some (.builtin "len") := by decide +kernel
theorem bb_range : bootBuiltins "range" = some (.type "range") := by decide +kernel
theorem bb_list : bootBuiltins "list" = some (.type "list") := by decide +kernel
theorem bb_tuple : bootBuiltins "tuple" = some (.type "tuple") := by decide +kernel
theorem bb_int : bootBuiltins "int" = some (.type "int") := by decide +kernel

abbrev gt (ρ : Rh) (x : Str) : Option D := ρ.lookup x
theorem lk0 {ρ : Rh} : ∀ (x : Str) d, ([] : Rh).lookup x = some d → ρ.lookup x = some d := fun x d h => by simp at h
theorem lk1 {ρ r : Rh} {n : Str} {e : D} (h : ρ.lookup n = some e) (hr : ∀ x d, r.lookup x = some d → ρ.lookup x = some d) : ∀ x d, ((n, e) :: r).lookup x = some d → ρ.lookup x = some d := fun x d q => by
  rw [lookup_put] at q
  by_cases hx : x = n
  · rw [if_pos hx] at q; cases q; rw [hx]; exact h
  · rw [if_neg hx] at q; exact hr x d q
theorem fn_b1 {n1 : Str} {name : Str} {params : Arguments} {body : List Stmt} {scope : Scope} {cd : Value} (h : ∀ (pm doc : Value) v, bindArgs (docDef name params body scope pm cd doc) ⟨[v], []⟩ = pure [(n1, v)]) :
    ∀ (pm doc : Value) vs, vs.length = [n1].length → bindArgs (docDef name params body scope pm cd doc) ⟨vs, []⟩ = pure ([n1].zip vs)
  | pm, doc, [v], _ => h pm doc v
theorem fn_b2 {n1 n2 : Str} {name : Str} {params : Arguments} {body : List Stmt} {scope : Scope} {cd : Value} (h : ∀ (pm doc : Value) v w, bindArgs (docDef name params body scope pm cd doc) ⟨[v, w], []⟩ = pure [(n1, v), (n2, w)]) :
    ∀ (pm doc : Value) vs, vs.length = [n1, n2].length → bindArgs (docDef name params body scope pm cd doc) ⟨vs, []⟩ = pure ([n1, n2].zip vs)
  | pm, doc, [v, w], _ => h pm doc v w
theorem fn_b3 {n1 n2 n3 : Str} {name : Str} {params : Arguments} {body : List Stmt} {scope : Scope} {cd : Value} (h : ∀ (pm doc : Value) v w x, bindArgs (docDef name params body scope pm cd doc) ⟨[v, w, x], []⟩ = pure [(n1, v), (n2, w), (n3, x)]) :
    ∀ (pm doc : Value) vs, vs.length = [n1, n2, n3].length → bindArgs (docDef name params body scope pm cd doc) ⟨vs, []⟩ = pure ([n1, n2, n3].zip vs)
  | pm, doc, [v, w, x], _ => h pm doc v w x
theorem fn_b4 {n1 n2 n3 n4 : Str} {name : Str} {params : Arguments} {body : List Stmt} {scope : Scope} {cd : Value} (h : ∀ (pm doc : Value) v w x y, bindArgs (docDef name params body scope pm cd doc) ⟨[v, w, x, y], []⟩ = pure [(n1, v), (n2, w), (n3, x), (n4, y)]) :
    ∀ (pm doc : Value) vs, vs.length = [n1, n2, n3, n4].length → bindArgs (docDef name params body scope pm cd doc) ⟨vs, []⟩ = pure ([n1, n2, n3, n4].zip vs)
  | pm, doc, [v, w, x, y], _ => h pm doc v w x y

theorem zip_lookup {φ : Hp} {x : Str} {d : D} : ∀ {nms : List Str} {vs : List Value} {ds : List D}, Oks φ vs ds → (nms.zip ds).lookup x = some d → ∃ v, (nms.zip vs).lookup x = some v ∧ Ok φ v d
  | [], _, _, _, h => by simp at h
  | n :: nms, [], [], .nil, h => by simp at h
  | n :: nms, v :: vs, e :: ds, .cons o r, h => by
    simp only [List.zip_cons_cons, List.lookup_cons] at h ⊢
    cases hb : x == n with
    | true => rw [hb] at h; cases h; exact ⟨v, rfl, o⟩
    | false => rw [hb] at h; exact zip_lookup r h

theorem lookup_zip_mem {α : Type} {x : Str} {v : α} : ∀ {nms : List Str} {vs : List α}, (nms.zip vs).lookup x = some v → x ∈ nms
  | [], _, h => by simp at h
  | n :: nms, [], h => by simp at h
  | n :: nms, w :: vs, h => by
    simp only [List.zip_cons_cons, List.lookup_cons] at h
    cases hb : x == n with
    | true => rw [eq_of_beq hb]; exact List.mem_cons_self
    | false => rw [hb] at h; exact List.mem_cons_of_mem _ (lookup_zip_mem h)

theorem bindL_other {kd : Str → Option NameKind} {x : Str} : ∀ {nms : List Str} {vs : List Value} {m : Str → Option Value}, x ∉ nms → bindL kd (nms.zip vs) m x = m x
  | [], _, m, _ => rfl
  | n :: nms, [], m, _ => rfl
  | n :: nms, v :: vs, m, h => by
    rw [List.mem_cons, not_or] at h
    show bindL kd (nms.zip vs) _ x = _
    rw [bindL_other h.2]
    split
    · simp [h.1]
    · rfl
theorem bindL_zip {kd : Str → Option NameKind} {x : Str} {v : Value} (hk : kd x = some .local) : ∀ {nms : List Str} {vs : List Value} {m : Str → Option Value}, nms.Nodup → (nms.zip vs).lookup x = some v → bindL kd (nms.zip vs) m x = some v
  | [], _, m, _, h => by simp at h
  | n :: nms, [], m, _, h => by simp at h
  | n :: nms, w :: vs, m, hn, h => by
    obtain ⟨h1, h2⟩ := List.nodup_cons.mp hn
    simp only [List.zip_cons_cons, List.lookup_cons] at h
    show bindL kd (nms.zip vs) _ x = _
    cases hb : x == n with
    | true =>
      rw [hb] at h; cases h
      obtain rfl := eq_of_beq hb
      rw [bindL_other h1, if_pos hk]; simp
    | false => rw [hb] at h; exact bindL_zip hk h2 h
theorem bindC_other {kd : Str → Option NameKind} {x : Str} : ∀ {nms : List Str} {vs : List Value} {m : Str → Option Value}, x ∉ nms → bindC kd (nms.zip vs) m x = m x
  | [], _, m, _ => rfl
  | n :: nms, [], m, _ => rfl
  | n :: nms, v :: vs, m, h => by
    rw [List.mem_cons, not_or] at h
    show bindC kd (nms.zip vs) _ x = _
    rw [bindC_other h.2]
    split
    · rfl
    · simp [h.1]
theorem bindC_zip {kd : Str → Option NameKind} {x : Str} {v : Value} (hk : kd x ≠ some .local) : ∀ {nms : List Str} {vs : List Value} {m : Str → Option Value}, nms.Nodup → (nms.zip vs).lookup x = some v → bindC kd (nms.zip vs) m x = some v
  | [], _, m, _, h => by simp at h
  | n :: nms, [], m, _, h => by simp at h
  | n :: nms, w :: vs, m, hn, h => by
    obtain ⟨h1, h2⟩ := List.nodup_cons.mp hn
    simp only [List.zip_cons_cons, List.lookup_cons] at h
    show bindC kd (nms.zip vs) _ x = _
    cases hb : x == n with
    | true =>
      rw [hb] at h; cases h
      obtain rfl := eq_of_beq hb
      rw [bindC_other h1, if_neg hk]; simp
    | false => rw [hb] at h; exact bindC_zip hk h2 h

theorem entry_fr {W : Wd} (gd : Gd W) {A : Around} {M : Addr → Prop} {s : Shared} {name : Str} {scope : Scope} {a : Addr} {cd : Value} {nms : List Str} {vs : List Value} {ds : List D} {h₁ : Heap}
    (hh : A.handled = none) (hk : Kp W.g s.heap) (hM : ∀ a, M a → W.g.get? a = none ∧ ∃ ob, s.heap.get? a = some ob) (os : Oks (Fz M s.heap) vs ds) (hnd : nms.Nodup) (hks : scope.kind = .function)
    (hkind : ∀ x ∈ nms, scope.names.lookup x = some .local ∨ (scope.names.lookup x = some .cell ∧ ((cellsFrom (s.heap.objs.size + 1) scope.names []).lookup x).isSome = true))
    (F : Fr s.heap s.heap.objs.size h₁ (bindL (envOfC name scope s.heap.objs.size a cd).kindOf (nms.zip vs) fun _ => none))
    (X : PyProof.Rows.Cl s.heap.objs.size (cellsFrom (s.heap.objs.size + 1) scope.names []) h₁ (bindC (envOfC name scope s.heap.objs.size a cd).kindOf (nms.zip vs) fun _ => none)) :
    FR ⟨W, A.deeper (envOfC name scope s.heap.objs.size a cd), s.heap, M, envOfC name scope s.heap.objs.size a cd⟩ [] h₁ (nms.zip ds) where
  gd := gd
  kg := hk
  kb := F.keep
  m0 := hM
  vars := ⟨_, F.ns, fun x d e => by
    obtain ⟨v, hv, o⟩ := zip_lookup os e
    have o' : Ok (Fz (MM ⟨W, A.deeper (envOfC name scope s.heap.objs.size a cd), s.heap, M, envOfC name scope s.heap.objs.size a cd⟩ []) h₁) v d := o.mono fun b ob q => ⟨F.keep b ob q.1, fun m => by
      rcases m with m | ⟨p, hp, _⟩
      · exact q.2 m
      · cases hp⟩
    rcases hkind x (lookup_zip_mem e) with hl | ⟨hl, hc⟩
    · exact .inl ⟨hl, v, bindL_zip hl hnd hv, o'⟩
    · obtain ⟨kk, hkk⟩ := Option.isSome_iff_exists.mp hc
      refine .inr ⟨.inl hl, kk, v, hkk, ?_, o'⟩
      have := X.cell x kk hkk
      rwa [bindC_zip (by show ¬ scope.names.lookup x = some .local; rw [hl]; decide) hnd hv] at this⟩
  bl := Heap.get?_none_of_le (Nat.le_refl _)
  bc := fun _ x k e => Heap.get?_none_of_le (Nat.le_of_lt (X.above x k (mem_of_lookup e)))
  cx := fun x k e => ⟨_, X.cell x k e⟩
  ca := X.apart
  ow := fun p hp => nomatch hp
  oa := .nil
  ek := hks
  eg := rfl
  eb := rfl
  ah := hh

theorem fn_of {W : Wd} (gd : Gd W) {name : Str} {params : Arguments} {body : List Stmt} {scope : Scope} {a : Addr} {cd : Value} (X : Fd W name params body scope a cd) {nms : List Str} {ds : List D} {d : D} {k : Nat}
    (hbind : ∀ (pm doc : Value) vs, vs.length = nms.length → bindArgs (docDef name params body scope pm cd doc) ⟨vs, []⟩ = pure (nms.zip vs)) (hlen : nms.length = ds.length) (hnd : nms.Nodup)
    (hkind : ∀ n, ∀ x ∈ nms, scope.names.lookup x = some .local ∨ (scope.names.lookup x = some .cell ∧ ((cellsFrom n scope.names []).lookup x).isSome = true))
    (h : ∀ (A : Around) (base : Heap) (M0 : Addr → Prop) (L : Addr), Rm A k → Exs ⟨W, A, base, M0, envOfC name scope L a cd⟩ [] (nms.zip ds) body (.ret d))
    (hco : scope.isCoroutine = false := by rfl) (hgen : scope.isGenerator = false := by rfl) (hks : scope.kind = .function := by rfl) : Fn W name (k + 1) ds d := by
  obtain ⟨o, pm, doc, ho, hd⟩ := X.ob
  refine ⟨a, o, _, X.mg, ho, hd, fun A M s vs hr hk hM os => ?_⟩
  have hvl : vs.length = nms.length := by rw [os.length, hlen]
  refine wpAny_call (call_cells (by have := hr.dp; omega) (hk _ _ ho) hd (gd.nolimit.keeps hk) (X.code.keeps hk) (hbind pm doc vs hvl) (fun x hx => hkind _ x.1 (List.of_mem_zip hx).1) (fun h₁ tk F Y => ?_) hco hgen hks)
  have FF := entry_fr gd (A := A) hr.hh hk hM os hnd hks (hkind _) F Y
  refine wpAny_mono (h _ s.heap M s.heap.objs.size hr.deeper { s with heap := h₁, toks := tk } FF) (fun fl s' q => ?_) fun _ _ x => x.elim
  obtain ⟨v, rfl, ⟨h', tk', rfl⟩, kp, o⟩ := q
  exact ⟨⟨_, _, rfl, kp⟩, o⟩
end Mine
end

section
open PySem PySem.W PySem.Calls PyProof.Rows
set_option Elab.async false
set_option maxRecDepth 100000
set_option linter.unusedVariables false
namespace Mine

section
variable {c : Cx} {σ σ₁ σ₂ : Sg} {ρ ρ₁ ρ₂ : Rh} {o : Out}

theorem FR.app {s : Shared} {h' : Heap} {l : Addr} {ds : List D} {d : D} {va : Value} {i n : Nat} {vs : List Value} (F2 : FR c σ s.heap ρ) (hm : σ[i]? = some (l, ds)) (hb : c.base.get? l = none) (hp : s.heap.get? l = some (lobj vs n))
    (r : Oks (Fz (MM c σ) s.heap) vs ds) (hlt : vs.length < 4096) (o2 : Ok (Fz (MM c σ) s.heap) va d) (hs : Heap.SameBut l s.heap h') (hnew : h'.get? l = some { cls := .type "list", data := .seq (vs.toArray.push va) (n + 1) }) :
    FR c (σ.set i (l, ds ++ [d])) h' ρ ∧ Kb c σ s.heap h' := by
  have hmem : (l, ds) ∈ σ := List.mem_of_getElem? hm
  have hmap : (σ.set i (l, ds ++ [d])).map (·.1) = σ.map (·.1) := set_map hm
  have kp : ∀ b ob, b ≠ l → s.heap.get? b = some ob → h'.get? b = some ob := hs.extBut
  have kb : Kb c σ s.heap h' := fun a ob m e => kp a ob (fun q => m (.inr (.inr ⟨_, hmem, q.symm⟩))) e
  refine ⟨?_, kb⟩
  obtain ⟨m, hns, hv⟩ := F2.vars
  have hnl : c.env.locals ≠ l := fun q => ns_noseq hns _ _ _ (q ▸ hp) rfl
  have hcl : ∀ {kk : Addr} {v' : Option Value}, s.heap.IsCell kk v' → kk ≠ l := fun hc q => cell_noseq hc _ _ _ (q ▸ hp) rfl
  exact { F2 with
    kb := fun b ob e => kp b ob (fun q => by rw [q] at e; rw [hb] at e; cases e) (F2.kb b ob e)
    vars := ⟨m, hns.sameBut hs hnl, fun y d' e => by
      rcases hv y d' e with ⟨a, v', b, q⟩ | ⟨a, kk, v', b, cc, q⟩
      · exact .inl ⟨a, v', b, q.kb F2 kb hmap⟩
      · exact .inr ⟨a, kk, v', b, cc.sameBut hs (hcl cc), q.kb F2 kb hmap⟩⟩
    cx := fun y kk e => let ⟨v', q⟩ := F2.cx y kk e; ⟨v', q.sameBut hs (hcl q)⟩
    ow := fun p hp' => by
      obtain ⟨j, hj⟩ := List.getElem?_of_mem hp'
      rw [List.getElem?_set] at hj
      by_cases hij : i = j
      · subst hij
        have : i < σ.length := (List.getElem?_eq_some_iff.mp hm).1
        rw [if_pos rfl, if_pos this] at hj
        cases hj
        refine ⟨hb, vs ++ [va], n + 1, by rw [hnew]; simp, by rw [List.length_append]; show vs.length + 1 ≤ 4096; omega, ?_⟩
        exact (r.append (.cons o2 .nil)).kb F2 kb hmap
      · rw [if_neg hij] at hj
        have hpm : p ∈ σ := List.mem_of_getElem? hj
        obtain ⟨a, vs', n', q, ll, r'⟩ := F2.ow p hpm
        refine ⟨a, vs', n', kp _ _ (fun e => hij ?_) q, ll, r'.kb F2 kb hmap⟩
        have h1 := (List.getElem?_eq_some_iff.mp hj)
        have h2 := (List.getElem?_eq_some_iff.mp hm)
        obtain ⟨l1, e1⟩ := h1
        obtain ⟨l2, e2⟩ := h2
        rcases Nat.lt_trichotomy i j with h | h | h
        · exact absurd (by rw [e1, e2]; exact e.symm) (List.pairwise_iff_getElem.mp F2.oa i j l2 l1 h)
        · exact h
        · exact absurd (by rw [e1, e2]; exact e) (List.pairwise_iff_getElem.mp F2.oa j i l1 l2 h)
    oa := by
      have h1 : (σ.map (·.1)).Pairwise (· ≠ ·) := List.pairwise_map.mpr F2.oa
      rw [← hmap] at h1
      exact List.pairwise_map.mp h1 }

/-- the turns of a comprehension, to its end -/
theorem cm_code {elt iter : Expr} {x : Str} {px : Pos} {scope : Scope} {pos : Pos} {I D₀ : Addr} {fp : List Addr} {Pv : Nat → Value → Prop} {St' : Nat → Heap → Prop} {all outs : List D}
    (W : Walks P c.w c.A I fp [I] all.length Pv St') (hlen : all.length = outs.length) (hle : outs.length ≤ Bd)
    (hns : ∀ i h, St' i h → ∀ ob xs n, h.get? I = some ob → ob.data ≠ .seq xs n)
    (hx : St c x) (hx0 : ρ.lookup x = none)
    (helt : ∀ (j : Nat) d o (ao : List D), all[j]? = some d → outs[j]? = some o → Tv c [(D₀, ao)] ((x, d) :: ρ) (eval elt c.env) o) :
    ∀ (k i : Nat) (s : Shared), i + k = all.length → FR c [(D₀, outs.take i)] s.heap ρ → St' i s.heap → (∀ b ∈ fp, ¬ Mt c [(D₀, [])] b) → c.base.get? I = none →
    (∀ j v, Pv j v → ∀ d, all[j]? = some d → Ok (Fz (MM c [(D₀, [])]) s.heap) v d) →
    codeAny (model P c.w) c.A (.compLoop (.ListComp elt [⟨.Name x px, iter, [], 0⟩] scope pos) 0 (.ref I) (.ref D₀) c.env) (fun r s' => r = .ok .next ∧ Sa s s' ∧ FR c [(D₀, outs)] s'.heap ρ) s := by
  have hIfp : I ∈ fp := W.sub I (by simp)
  have mt0 : ∀ (ao : List D) b, Mt c [(D₀, ao)] b → Mt c [(D₀, [])] b := fun ao b m => m.of_map (by simp)
  have mm0 : ∀ (ao : List D) b, MM c [(D₀, ao)] b → MM c [(D₀, [])] b := fun ao b m => MM.of_map (by simp) m
  have mm1 : ∀ (ao : List D) b, MM c [(D₀, [])] b → MM c [(D₀, ao)] b := fun ao b m => MM.of_map (by simp) m
  intro k
  induction k with
  | zero =>
    intro i s hi F st hmt hbI hok
    have hi' : i = all.length := by omega
    refine codeAny_of_tree ?_
    show wpAny _ c.A ((compTurn (.ListComp elt [⟨.Name x px, iter, [], 0⟩] scope pos) 0 (.ref I) (.ref D₀) c.env).onRaise (fun x => do noteFrame x c.env; theTreesLotGoes x)) _ _ s
    refine wpAny_noted ?_
    rw [compTurn_list1]
    refine wpAny_bind (wpAny_standAt (wpAny_bind (W.done s _ _ (hi' ▸ st) fun h' tk hk => ?_)))
    have F' := (F.butI (fun b ob hb e => hk b ob (by simpa using hb) e) (fun m => hmt I hIfp (mt0 _ _ m)) hbI (hns i _ st)).1
    rw [hi', hlen, List.take_length] at F'
    exact wpAny_pure ⟨rfl, ⟨h', tk, rfl⟩, F'⟩
  | succ k ih =>
    intro i s hi F st hmt hbI hok
    have hlt : i < all.length := by omega
    have hlt' : i < outs.length := by omega
    refine codeAny_of_tree ?_
    show wpAny _ c.A ((compTurn (.ListComp elt [⟨.Name x px, iter, [], 0⟩] scope pos) 0 (.ref I) (.ref D₀) c.env).onRaise (fun x => do noteFrame x c.env; theTreesLotGoes x)) _ _ s
    refine wpAny_noted ?_
    rw [compTurn_list1]
    refine wpAny_bind (wpAny_standAt (wpAny_bind (W.item i s _ _ hlt st fun v h' tk hP st' hk => ?_)))
    have hk' : ∀ b ob, b ≠ I → s.heap.get? b = some ob → h'.get? b = some ob := fun b ob hb e => hk b ob (by simpa using hb) e
    obtain ⟨F1, tr1⟩ := F.butI hk' (fun m => hmt I hIfp (mt0 _ _ m)) hbI (hns i _ st)
    have hget : all[i]? = some all[i] := List.getElem?_eq_getElem hlt
    have hgo : outs[i]? = some outs[i] := List.getElem?_eq_getElem hlt'
    refine wpAny_bind (wpAny_pure ?_)
    have ov : Ok (Fz (MM c [(D₀, outs.take i)]) h') v all[i] := tr1 _ _ ((hok i v hP _ hget).less fun a m => mm0 _ _ m)
    refine wpAny_bind (wpAny_mono (as_name hx { s with heap := h', toks := tk } v (fun _ s' => Sa { s with heap := h', toks := tk } s' ∧ FR c [(D₀, outs.take i)] s'.heap ((x, all[i]) :: ρ) ∧ Kb c [(D₀, outs.take i)] h' s'.heap) F1 ov fun s' a b k => ⟨a, b, k⟩) (fun _ s2 q => ?_) fun _ _ x => x.elim)
    obtain ⟨a2, F2, kb2⟩ := q
    refine wpAny_bind (wpAny_bind (wpAny_mono (helt i _ _ _ hget hgo s2 F2) (fun va s3 q => wpAny_bind ?_) fun _ _ x => x.elim))
    obtain ⟨k3, o3⟩ := q
    have F3 := F2.keeps k3.kp
    obtain ⟨hb, vs, n, hp, hvl, r⟩ := F3.ow _ (List.mem_singleton.mpr rfl)
    have hvl2 : vs.length < 4096 := by rw [r.length, List.length_take]; have : outs.length ≤ 4096 := hle; omega
    refine append_at (its := vs.toArray) (n := n) (x := va) hp (fun h4 hs4 hnew => ?_) (by rw [List.size_toArray]; exact Nat.le_trans (Nat.le_of_lt hvl2) (by decide))
    obtain ⟨F4, kb4⟩ := F3.app (i := 0) rfl hb hp r hvl2 o3 hs4 hnew
    have e4 : [(D₀, outs.take i)].set 0 (D₀, outs.take i ++ [outs[i]]) = [(D₀, outs.take (i + 1))] := by rw [List.take_add_one, hgo]; rfl
    rw [e4] at F4
    have F5 : FR c [(D₀, outs.take (i + 1))] h4 ρ := F4.sub fun y d e => by
      rw [lookup_put, if_neg (fun q => by rw [q, hx0] at e; cases e)]; exact e
    have kb : ∀ b ob, ¬ Mt c [(D₀, [])] b → h'.get? b = some ob → h4.get? b = some ob := fun b ob hm e =>
      kb4 b ob (fun m => hm (mt0 _ _ m)) (k3.kp b ob (kb2 b ob (fun m => hm (mt0 _ _ m)) e))
    refine wpAny_pure (wpAny_pure ⟨rfl, codeAny_mono (ih (i + 1) { s3 with heap := h4 } (by omega) F5 ?_ hmt hbI fun j v' hP' d' hg' => ?_) fun r s5 q => ?_⟩)
    · exact W.frame _ _ _ st' fun b hbf ob e => kb b ob (hmt b hbf) e
    · have q := tr1 _ _ ((hok j v' hP' d' hg').less fun a m => mm0 (outs.take i) _ m)
      refine q.mono' (fun a ws m z => ⟨kb a _ (fun m' => F1.frozen z rfl (m'.of_map (by simp))) z.1, fun m => z.2 (mm1 _ _ m)⟩) (fun a ws m z => ⟨kb a _ (fun m' => F1.frozen z rfl (m'.of_map (by simp))) z.1, fun m => z.2 (mm1 _ _ m)⟩)
    · obtain ⟨rfl, a5, F6⟩ := q
      exact ⟨rfl, (((Sa.trans ⟨h', tk, rfl⟩ a2).trans k3.sa).trans ⟨h4, s3.toks, rfl⟩).trans a5, F6⟩

/-! the closure of a comprehension -/
def clo (cells : List (Str × Addr)) : List (Str × NameKind) → List (Str × Addr) → List (Str × Addr)
  | [], acc => acc
  | (n, k) :: r, acc => if k = .free then clo cells r ((n, (cells.lookup n).getD 0) :: acc) else clo cells r acc
theorem closure_eq {sc : Scope} {env : Env} (h : ∀ p ∈ sc.names, p.2 = .free → (env.cells.lookup p.1).isSome = true) : closureFor sc env = pure (clo env.cells sc.names []) := by
  unfold closureFor
  have : ∀ (l : List (Str × NameKind)) (acc : List (Str × Addr)), (∀ p ∈ l, p.2 = .free → (env.cells.lookup p.1).isSome = true) →
      (bind (forIn l acc fun (x : Str × NameKind) (r : List (Str × Addr)) => (match x with
          | (name, kind) => (if (kind == NameKind.free) = true then (do
              let a ← cellOf env name
              pure (ForInStep.yield ((name, a) :: r)))
            else pure (ForInStep.yield r) : Sem _))) (fun r => pure r) : Sem _) = pure (clo env.cells l acc) := by
    intro l
    induction l with
    | nil => intro acc _; rfl
    | cons p r ih =>
      obtain ⟨n, k⟩ := p
      intro acc hl
      rw [List.forIn_cons]
      by_cases hk : k = .free
      · subst hk
        obtain ⟨a, ha⟩ := Option.isSome_iff_exists.mp (hl _ (.head _) rfl)
        have e := ih ((n, a) :: acc) fun p hp => hl p (.tail _ hp)
        have hc : cellOf env n = pure a := by unfold cellOf; rw [ha]
        simp only [clo, if_true, ha, Option.getD_some]
        rw [← e]
        simp only [hc]
        rfl
      · have e := ih acc fun p hp => hl p (.tail _ hp)
        have hb : (k == NameKind.free) = false := by simpa using hk
        simp only [clo, if_neg hk]
        rw [← e]
        simp only [hb]
        rfl
  exact this sc.names [] h
end
end Mine
end

section
open PySem PySem.W PySem.Calls PyProof.Rows
set_option Elab.async false
set_option maxRecDepth 100000
set_option linter.unusedVariables false
namespace Mine

theorem clo_other {cells : List (Str × Addr)} {y : Str} : ∀ {l : List (Str × NameKind)} {acc : List (Str × Addr)}, (∀ p ∈ l, p.2 = .free → p.1 ≠ y) → (clo cells l acc).lookup y = acc.lookup y
  | [], _, _ => rfl
  | (n, k) :: r, acc, h => by
    by_cases hk : k = .free
    · simp only [clo, if_pos hk]
      rw [clo_other fun p hp => h p (.tail _ hp)]
      have : (y == n) = false := by simpa using (h _ (.head _) hk).symm
      rw [List.lookup_cons, this]
    · simp only [clo, if_neg hk]
      exact clo_other fun p hp => h p (.tail _ hp)
theorem clo_mem {cells : List (Str × Addr)} {y : Str} : ∀ {l : List (Str × NameKind)} {acc : List (Str × Addr)}, (l.map (·.1)).Nodup → (y, .free) ∈ l → (clo cells l acc).lookup y = some ((cells.lookup y).getD 0)
  | [], _, _, h => nomatch h
  | (n, k) :: r, acc, hn, h => by
    rw [List.map_cons, List.nodup_cons] at hn
    rcases List.mem_cons.mp h with e | h
    · cases e
      simp only [clo, if_true]
      rw [clo_other fun p hp _ q => hn.1 (by rw [← q]; exact List.mem_map_of_mem (f := (·.1)) hp)]
      simp
    · by_cases hk : k = .free
      · simp only [clo, if_pos hk]; exact clo_mem hn.2 h
      · simp only [clo, if_neg hk]; exact clo_mem hn.2 h
theorem clo_in {cells : List (Str × Addr)} : ∀ {l : List (Str × NameKind)} {acc : List (Str × Addr)}, (∀ p ∈ l, p.2 = .free → (cells.lookup p.1).isSome = true) → (∀ p ∈ acc, cells.lookup p.1 = some p.2) →
    ∀ p ∈ clo cells l acc, cells.lookup p.1 = some p.2
  | [], _, _, ha => ha
  | (n, k) :: r, acc, h, ha => by
    by_cases hk : k = .free
    · simp only [clo, if_pos hk]
      refine clo_in (fun p hp => h p (.tail _ hp)) fun p hp => ?_
      rcases List.mem_cons.mp hp with rfl | hp
      · obtain ⟨a, e⟩ := Option.isSome_iff_exists.mp (h _ (.head _) hk)
        simp only at e ⊢
        rw [e]; rfl
      · exact ha p hp
    · simp only [clo, if_neg hk]
      exact clo_in (fun p hp => h p (.tail _ hp)) ha
theorem clo_names {cells : List (Str × Addr)} : ∀ {l : List (Str × NameKind)} {acc : List (Str × Addr)}, (l.map (·.1)).Nodup → (∀ p ∈ acc, p.1 ∉ l.map (·.1)) → acc.Pairwise (fun x y => x.1 ≠ y.1) →
    (clo cells l acc).Pairwise fun x y => x.1 ≠ y.1
  | [], _, _, _, h => h
  | (n, k) :: r, acc, hn, ha, hp => by
    rw [List.map_cons, List.nodup_cons] at hn
    have ha' : ∀ p ∈ acc, p.1 ∉ r.map (·.1) := fun p q e => ha p q (by rw [List.map_cons]; exact .tail _ e)
    by_cases hk : k = .free
    · simp only [clo, if_pos hk]
      refine clo_names hn.2 (fun p q => ?_) (List.pairwise_cons.mpr ⟨fun p q e => ha p q (by rw [List.map_cons]; simp only at e; rw [e]; exact List.mem_cons_self), hp⟩)
      rcases List.mem_cons.mp q with rfl | q
      · exact hn.1
      · exact ha' p q
    · simp only [clo, if_neg hk]
      exact clo_names hn.2 ha' hp

theorem relabel_lookup {env : Env} : ∀ {names : List (Str × NameKind)} {x : Str} {k : NameKind}, names.lookup x = some k →
    ∃ k', (names.map fun (n, k) => if (k == NameKind.free && env.scope.kind == .function && env.kindOf n == some .cell) then (n, NameKind.cell) else (n, k)).lookup x = some k' ∧ (k ≠ .free → k' = k) ∧ (k = .free → k' = .cell ∨ k' = .free)
  | [], x, k, h => by simp at h
  | (n, k₀) :: r, x, k, h => by
    have ih := @relabel_lookup env r x k
    show ∃ k', List.lookup x ((if (k₀ == NameKind.free && env.scope.kind == .function && env.kindOf n == some .cell) = true then (n, NameKind.cell) else (n, k₀)) :: _) = some k' ∧ _
    cases hx : x == n with
    | true =>
      simp only [List.lookup_cons, hx] at h
      cases h
      by_cases hc : (k₀ == NameKind.free && env.scope.kind == .function && env.kindOf n == some .cell) = true
      · rw [if_pos hc]
        simp only [List.lookup_cons, hx]
        refine ⟨_, rfl, fun q => ?_, fun _ => .inl rfl⟩
        simp only [Bool.and_eq_true, beq_iff_eq] at hc
        exact absurd hc.1.1 q
      · rw [if_neg hc]
        simp only [List.lookup_cons, hx]
        exact ⟨_, rfl, fun _ => rfl, fun q => .inr q⟩
    | false =>
      simp only [List.lookup_cons, hx] at h
      by_cases hc : (k₀ == NameKind.free && env.scope.kind == .function && env.kindOf n == some .cell) = true
      · rw [if_pos hc]; simp only [List.lookup_cons, hx]; exact ih h
      · rw [if_neg hc]; simp only [List.lookup_cons, hx]; exact ih h

/-- a comprehension's scope, plain -/
structure CompOk (sc : Scope) (x : Str) : Prop where
  kind : sc.kind = .function
  nocell : ∀ y ∈ sc.names, y.2 ≠ .cell
  loc : ∀ y ∈ sc.names, y.2 = .local → sc.names.lookup y.1 = some .local
  x : sc.names.lookup x = some .local
  nd : (sc.names.map (·.1)).Nodup

theorem mem_lookup_nodup {α : Type} {y : Str} {k : α} : ∀ {l : List (Str × α)}, (l.map (·.1)).Nodup → (y, k) ∈ l → l.lookup y = some k
  | [], _, h => nomatch h
  | (n, k') :: r, hn, h => by
    rw [List.map_cons, List.nodup_cons] at hn
    rcases List.mem_cons.mp h with e | h
    · cases e; simp
    · have : (y == n) = false := by
        have : y ≠ n := fun q => hn.1 (by rw [← q]; exact List.mem_map_of_mem (f := (·.1)) h)
        simpa using this
      rw [List.lookup_cons, this]; exact mem_lookup_nodup hn.2 h

section
variable {c : Cx} {σ : Sg} {ρ : Rh}

/-- the frame of a comprehension -/
abbrev inC (c : Cx) (σ : Sg) (sc : Scope) (base : Heap) (C : Addr) : Cx := ⟨c.toWd, c.A, base, MM c σ, compEnvC sc (clo c.env.cells sc.names []) C c.env⟩

theorem inner_fr {sc : Scope} {x : Str} {s : Shared} {h : Heap} {C D₀ : Addr} {n : Nat} {Rin : Rh} {m : Str → Option Value} (K : CompOk sc x) (F : FR c σ s.heap ρ) (hk : Kp s.heap h) (hC : s.heap.get? C = none) (hD : s.heap.get? D₀ = none)
    (hn : h.Ns C m) (ho : h.get? D₀ = some (lobj [] n)) (hfree : ∀ p ∈ sc.names, p.2 = .free → (c.env.cells.lookup p.1).isSome = true)
    (hR : ∀ y d, Rin.lookup y = some d → ρ.lookup y = some d ∧ (y, .free) ∈ sc.names ∧ c.env.kindOf y ≠ some .local) : FR (inC c σ sc s.heap C) [(D₀, [])] h Rin := by
  have cin : ∀ y k, (clo c.env.cells sc.names []).lookup y = some k → c.env.cells.lookup y = some k := fun y k e =>
    clo_in (acc := []) (fun p hp q => hfree p hp q) (fun p hp => nomatch hp) (y, k) (mem_of_lookup e)
  have tr : ∀ {v : Value} {d : D}, Ok (Fz (MM c σ) s.heap) v d → Ok (Fz (MM (inC c σ sc s.heap C) [(D₀, [])]) h) v d := fun x => x.mono fun a ob q => ⟨hk a ob q.1, fun mm => by
    rcases mm with mm | ⟨p, hp, rfl⟩
    · exact q.2 mm
    · rw [List.mem_singleton.mp hp] at q
      have := q.1; rw [hD] at this; cases this⟩
  exact {
    gd := F.gd
    kg := F.kgh
    kb := hk
    m0 := fun a mm => ⟨F.mg a mm, F.live a mm⟩
    vars := by
      obtain ⟨m₀, hns, hv⟩ := F.vars
      refine ⟨m, hn, fun y d e => ?_⟩
      obtain ⟨e1, e2, e3⟩ := hR y d e
      rcases hv y d e1 with ⟨a, _⟩ | ⟨a, k, v, b, cc, q⟩
      · exact absurd a e3
      · refine .inr ⟨?_, k, v, ?_, cc.keeps hk, tr q⟩
        · obtain ⟨k', h1, _, h3⟩ := relabel_lookup (env := c.env) (mem_lookup_nodup K.nd e2)
          rcases h3 rfl with rfl | rfl
          · exact .inl h1
          · exact .inr h1
        · show (clo c.env.cells sc.names []).lookup y = some k
          rw [clo_mem K.nd e2, b]; rfl
    bl := hC
    bc := fun q => by cases q
    cx := fun y k e => by
      obtain ⟨v, q⟩ := F.cx y k (cin y k e)
      exact ⟨v, q.keeps hk⟩
    ca := by
      have h1 : (clo c.env.cells sc.names []).Pairwise fun x y => x.1 ≠ y.1 := clo_names K.nd (fun p hp => nomatch hp) .nil
      have h2 := clo_in (cells := c.env.cells) (l := sc.names) (acc := []) (fun p hp q => hfree p hp q) (fun p hp => nomatch hp)
      refine h1.imp_of_mem fun {p q} hp hq hne e => hne ?_
      exact name_of_addr F.ca (mem_of_lookup (h2 p hp)) (e ▸ mem_of_lookup (h2 q hq))
    ow := fun p hp => by
      rw [List.mem_singleton.mp hp]
      exact ⟨hD, [], n, ho, Nat.zero_le _, .nil⟩
    oa := List.pairwise_singleton _ _
    ek := K.kind
    eg := F.eg
    eb := F.eb
    ah := F.ah }

theorem comp_block {elt iter : Expr} {x : Str} {px : Pos} {sc : Scope} {pos : Pos} {ds outs : List D} {Rin : Rh} {E : Value → Shared → Prop} {RR : Value → Addr → Result → Shared → Prop} {s s₂ : Shared} {I : Addr} {fp : List Addr} {Pv : Nat → Value → Prop} {St' : Nat → Heap → Prop}
    (K : CompOk sc x) (F : FR c σ s.heap ρ) (hfree : ∀ p ∈ sc.names, p.2 = .free → (c.env.cells.lookup p.1).isSome = true)
    (hR : ∀ y d, Rin.lookup y = some d → ρ.lookup y = some d ∧ (y, .free) ∈ sc.names ∧ c.env.kindOf y ≠ some .local) (hlen : ds.length = outs.length) (hle : outs.length ≤ Bd)
    (helt : ∀ (base : Heap) (C D₀ : Addr) (j : Nat) d o (ao : List D), ds[j]? = some d → outs[j]? = some o → Tv (inC c σ sc base C) [(D₀, ao)] ((x, d) :: Rin) (eval elt (compEnvC sc (clo c.env.cells sc.names []) C c.env)) o)
    (k : Stp s s₂) (W : Walks P c.w c.A I fp [I] ds.length Pv St') (st : St' 0 s₂.heap) (hI : s.heap.get? I = none) (hlive : ∀ b ∈ fp, ∃ ob, s₂.heap.get? b = some ob) (hmt : ∀ b ∈ fp, ¬ Mt c σ b)
    (hok : ∀ i v, Pv i v → ∀ d, ds[i]? = some d → Ok (Fz (MM c σ) s₂.heap) v d)
    (hns : ∀ i h, St' i h → ∀ ob xs n, h.get? I = some ob → ob.data ≠ .seq xs n)
    (hRR : ∀ D₀ C s' m', Stp s s' → s.heap.get? C = none → C ≠ D₀ → s'.heap.Ns C m' → Ok (Fz (MM c σ) s'.heap) (.ref D₀) (.lst outs) → RR (.ref D₀) C (.ok .next) s') :
    wpAny (model P c.w) c.A (newList []) (fun acc s₃ => wpAny (model P c.w) c.A (newFunctionEnv sc c.env.globals (clo c.env.cells sc.names []) [] c.env.qual none .none (some c.env)) (fun cenv s₄ =>
      codeAny (model P c.w) c.A (.compStart (.ListComp elt [⟨.Name x px, iter, [], 0⟩] sc pos) 0 (.ref I) acc { cenv with scope := relabel sc c.env }) (RR acc cenv.locals) s₄) E s₃) E s₂ := by
  refine wpAny_newObj_type (wpAny_newFunctionEnv K.nocell (by intro y hy; simp at hy) (fun h₁ hns₁ hsb₁ => ?_) K.kind)
  dsimp only at hns₁ hsb₁ ⊢
  generalize hH2 : s₂.heap.push { cls := .type "list", dict := none, data := .seq ([] : List Value).toArray } = H2 at hns₁ hsb₁ ⊢
  have hC : H2.objs.size = s₂.heap.objs.size + 1 := by rw [← hH2, Heap.size_push]
  have hDC : s₂.heap.objs.size ≠ H2.objs.size := by rw [hC]; exact Nat.ne_of_lt (Nat.lt_succ_self _)
  have below : ∀ b, b < s₂.heap.objs.size → b ≠ H2.objs.size ∧ b ≠ s₂.heap.objs.size := fun b hb => ⟨by rw [hC]; exact Nat.ne_of_lt (Nat.lt_succ_of_lt hb), Nat.ne_of_lt hb⟩
  have old : ∀ b o, s₂.heap.get? b = some o → h₁.get? b = some o := fun b o e => hsb₁.extBut b o (below b (Heap.lt_size e)).1 (Heap.get?_push_of_some _ (hH2 ▸ Heap.get?_push_of_some _ e))
  have hacc : h₁.get? s₂.heap.objs.size = some (lobj [] 0) := hsb₁.extBut _ _ hDC (Heap.get?_push_of_some _ (hH2 ▸ Heap.get?_push_size _ rfl))
  have fresh : ∀ a, s₂.heap.objs.size ≤ a → s.heap.get? a = none := fun a ha => by
    cases e : s.heap.get? a with
    | none => rfl
    | some o' => exact absurd (Heap.lt_size (k.kp _ _ e)) (Nat.not_lt.mpr ha)
  have hst₁ : St' 0 h₁ := W.frame _ _ _ st fun b _ o e => old b o e
  have hCf : s.heap.get? H2.objs.size = none := fresh _ (by rw [hC]; exact Nat.le_succ _)
  have F1 : FR (inC c σ sc s.heap H2.objs.size) [(s₂.heap.objs.size, [])] h₁ Rin := inner_fr K F (fun b o e => old b o (k.kp b o e)) hCf (fresh _ (Nat.le_refl _)) hns₁ hacc hfree hR
  have hcin : ∀ y kk, (clo c.env.cells sc.names []).lookup y = some kk → c.env.cells.lookup y = some kk := fun y kk e =>
    clo_in (acc := []) (fun p hp q => hfree p hp q) (fun p hp => nomatch hp) (y, kk) (mem_of_lookup e)
  have hmt' : ∀ b ∈ fp, ¬ Mt (inC c σ sc s.heap H2.objs.size) [(s₂.heap.objs.size, [])] b := fun b hb m => by
    obtain ⟨ob, e⟩ := hlive b hb
    have hlt := Heap.lt_size e
    rcases m with m | ⟨y, m⟩ | ⟨p, hp, m⟩
    · exact (below b hlt).1 m
    · exact hmt b hb (.inr (.inl ⟨y, hcin y b m⟩))
    · rw [List.mem_singleton.mp hp] at m
      exact (below b hlt).2 m.symm
  have hx0 : Rin.lookup x = none := by
    cases e : Rin.lookup x with
    | none => rfl
    | some d =>
      have := mem_lookup_nodup K.nd (hR x d e).2.1
      rw [K.x] at this; cases this
  have loop : ∀ s₃ : Shared, s₃ = { s₂ with heap := h₁, toks := s₂.toks + ([] : List (Str × Value)).length } →
      codeAny (model P c.w) c.A (.compLoop (.ListComp elt [⟨.Name x px, iter, [], 0⟩] sc pos) 0 (.ref I) (.ref s₂.heap.objs.size) (compEnvC sc (clo c.env.cells sc.names []) H2.objs.size c.env))
        (RR (.ref s₂.heap.objs.size) H2.objs.size) s₃ := by
    rintro s₃ rfl
    refine codeAny_mono (cm_code (c := inC c σ sc s.heap H2.objs.size) (ρ := Rin) W hlen hle hns (.inl (lookup_relabel_local K.x)) hx0 (fun j d o ao h1 h2 => helt s.heap H2.objs.size s₂.heap.objs.size j d o ao h1 h2) ds.length 0 _ (by omega) F1 hst₁ hmt' hI (fun j v hP d hd => ?_)) fun r s' q => ?_
    · refine (hok j v hP d hd).mono fun a ob q => ⟨old a ob q.1, fun mm => ?_⟩
      rcases mm with mm | ⟨p, hp, rfl⟩
      · exact q.2 mm
      · rw [List.mem_singleton.mp hp] at q
        exact absurd (Heap.lt_size q.1) (Nat.lt_irrefl _)
    · obtain ⟨rfl, a, F2⟩ := q
      obtain ⟨m', hn', _⟩ := F2.vars
      obtain ⟨_, vs, n, ho, hl, r⟩ := F2.ow _ (List.mem_singleton.mpr rfl)
      have st' : Stp s s' := by
        obtain ⟨h2, t2, rfl, _⟩ := k
        obtain ⟨h3, t3, rfl⟩ := a
        exact ⟨h3, t3, rfl, F2.kb⟩
      refine hRR _ _ s' m' st' hCf (Ne.symm hDC) hn' (.lst ⟨ho, fun mm => ?_⟩ hl (r.less fun a mm => .inl mm))
      obtain ⟨ob, e⟩ := F.live _ mm
      rw [fresh _ (Nat.le_refl _)] at e; cases e
  exact codeAny_compStart_list (loop _ rfl) (W.self 0 _ _ _ hst₁ (loop _ rfl))

theorem tv_comp {elt iter : Expr} {x : Str} {px : Pos} {sc : Scope} {pos : Pos} {ds outs : List D} {Rin : Rh} (K : CompOk sc x) (hfree : ∀ p ∈ sc.names, p.2 = .free → (c.env.cells.lookup p.1).isSome = true)
    (hR : ∀ y d, Rin.lookup y = some d → ρ.lookup y = some d ∧ (y, .free) ∈ sc.names ∧ c.env.kindOf y ≠ some .local) (hlen : ds.length = outs.length)
    (hsrc : Src c σ ρ (.Name x px) (eval iter c.env) ds)
    (helt : ∀ (base : Heap) (C D₀ : Addr) (j : Nat) d o (ao : List D), ds[j]? = some d → outs[j]? = some o → Tv (inC c σ sc base C) [(D₀, ao)] ((x, d) :: Rin) (eval elt (compEnvC sc (clo c.env.cells sc.names []) C c.env)) o)
    (hs : ∀ x, foldedSetIterable iter c.env x = pure x := by intro _; rfl) : Tv c σ ρ (eval (.ListComp elt [⟨.Name x px, iter, [], 0⟩] sc pos) c.env) (.lst outs) := fun s F => by
  rw [eval_ListComp]
  refine wpAny_comprehension_free (use := none) rfl hs (closure_eq hfree) K.kind K.loc (wpAny_mono (hsrc.2 s F) (fun xv s₁ h₁ => wpAny_mono h₁ (fun it s₂ h₂ => ?_) fun _ _ e => e) fun _ _ e => e)
  obtain ⟨k, I, fp, Pv, St', rfl, W, st, hI, hlive, hmt, hok, hns, hgo⟩ := h₂
  refine comp_block (RR := fun acc C => compPost (model P c.w) c.A No none (Pst (MM c σ) s (.lst outs)) acc C) K F hfree hR hlen (hlen ▸ hsrc.1) helt k W st hI hlive hmt hok hns fun D₀ C s' m' k' hC hne hn ho => ?_
  refine ⟨m', hn, fun h' hs' => ?_⟩
  refine ⟨?_, ok_but hs' (ns_noseq hn) ho⟩
  obtain ⟨h3, t3, rfl, kp⟩ := k'
  exact ⟨h', t3, rfl, fun b o e => hs'.extBut b o (fun q => by rw [q, hC] at e; cases e) (kp b o e)⟩

/-- y = [.. for ..] : stored before the comprehension's own variables go -/
theorem ex_comp {elt iter : Expr} {x y : Str} {px py : Pos} {sc : Scope} {pos spos : Pos} {ds outs : List D} {Rin : Rh} (K : CompOk sc x) (hfree : ∀ p ∈ sc.names, p.2 = .free → (c.env.cells.lookup p.1).isSome = true)
    (hR : ∀ y d, Rin.lookup y = some d → ρ.lookup y = some d ∧ (y, .free) ∈ sc.names ∧ c.env.kindOf y ≠ some .local) (hlen : ds.length = outs.length)
    (hsrc : Src c σ ρ (.Name x px) (eval iter c.env) ds)
    (helt : ∀ (base : Heap) (C D₀ : Addr) (j : Nat) d o (ao : List D), ds[j]? = some d → outs[j]? = some o → Tv (inC c σ sc base C) [(D₀, ao)] ((x, d) :: Rin) (eval elt (compEnvC sc (clo c.env.cells sc.names []) C c.env)) o)
    (hy : St c y)
    (hsw : swapsWith (.ListComp elt [⟨.Name x px, iter, [], 0⟩] sc pos) (some (.Name y py)) spos.line c.env = pure true)
    (hs : ∀ x, foldedSetIterable iter c.env x = pure x := by intro _; rfl) : Ex1 c σ ρ (.Assign [.Name y py] (.ListComp elt [⟨.Name x px, iter, [], 0⟩] sc pos) spos) (.next σ ((y, .lst outs) :: ρ)) := fun s F => by
  rw [exec_Assign_Name_used _ _ _ _ hsw]
  refine wpAny_bind (wpAny_standAt (wpAny_bind ?_))
  show wpAny _ c.A (do let _ ← comprehension (.ListComp elt [⟨.Name x px, iter, [], 0⟩] sc pos) sc c.env _ (newList []) false (eval iter c.env) (some (assign (.Name y py) c.env))) _ _ s
  refine wpAny_bind (wpAny_mono (wpAny_comprehension_free (use := some (assign (.Name y py) c.env)) (Q := fun _ s' => Done c σ (.next σ ((y, .lst outs) :: ρ)) .next s s') rfl hs (closure_eq hfree) K.kind K.loc
    (wpAny_mono (hsrc.2 s F) (fun xv s₁ h₁ => wpAny_mono h₁ (fun it s₂ h₂ => ?_) fun _ _ e => e) fun _ _ e => e)) (fun _ s' hq => wpAny_pure (wpAny_pure hq)) fun _ _ e => e)
  obtain ⟨k, I, fp, Pv, St', rfl, W, st, hI, hlive, hmt, hok, hns, hgo⟩ := h₂
  refine comp_block (RR := fun acc C => compPost (model P c.w) c.A No (some (assign (.Name y py) c.env)) (fun _ s' => Done c σ (.next σ ((y, .lst outs) :: ρ)) .next s s') acc C) K F hfree hR hlen (hlen ▸ hsrc.1) helt k W st hI hlive hmt hok hns fun D₀ C s' m' k' hC hne hn ho => ?_
  show wpAny _ c.A (assign (.Name y py) c.env (.ref D₀)) _ _ _
  have F' := F.keeps k'.kp
  have hCm : ¬ Mt c σ C := F.not_mt hC
  have hbC : c.base.get? C = none := by
    cases e : c.base.get? C with
    | none => rfl
    | some ob => have := F.kb _ _ e; rw [hC] at this; cases this
  refine as_name hy s' _ _ F' ho fun s2 a2 F2 kb2 => ?_
  have hn2 : s2.heap.Ns C m' := hn.at' fun o e => kb2 C o hCm e
  refine ⟨m', hn2, fun h' hs' => ?_⟩
  refine ⟨rfl, (k'.sa.trans a2).trans ⟨h', s2.toks, rfl⟩, rfl, (F2.butI (I := C) hs'.extBut hCm hbC (ns_noseq hn2)).1, fun a ob hm e => ?_⟩
  exact hs'.extBut a ob (fun q => by rw [q, hC] at e; cases e) (kb2 a ob hm (k'.kp a ob e))
end
end Mine
end

section
open PySem PySem.W PySem.Calls PyProof.Rows
set_option Elab.async false
set_option maxRecDepth 100000
set_option linter.unusedVariables false
noncomputable section
namespace Mine

/-! a small language of our own: the texts of the defs, read once -/
inductive E where
  | v (x : Str) (i : Nat) (p : Pos)
  | gl (x : Str) (i : Nat) (p : Pos)
  | ci (z : Int) (k : Nat) (p : Pos)
  | cs (x : Str) (i : Nat) (k : Nat) (p : Pos)
  | cn (k : Nat) (p : Pos)
  | bin (o : Operator) (a b : E) (p : Pos)
  | neg (a : E) (p : Pos)
  | cmp (o : CmpOp) (a b : E) (p : Pos)
  | and (l : List E) (p : Pos)
  | or (l : List E) (p : Pos)
  | tup (l : List E) (k : Nat) (p : Pos)
  | lst (l : List E) (p : Pos)
  | sub (a b : E) (p : Pos)
  | upto (a b : E) (q p : Pos)
  | frm (a b : E) (q p : Pos)
  | ite (c a b : E) (p : Pos)
  | bc (x : Str) (f : Nat) (q : Pos) (l : List E) (p : Pos)
  | fc (x : Str) (f : Nat) (q : Pos) (l : List E) (p : Pos)
  | comp (e : E) (x : Str) (q : Pos) (it : E) (sc : Scope) (caps : List (Str × Nat)) (p : Pos)
  | oth (e : Expr)

structure Vn where
  x : Str
  i : Nat
  p : Pos

inductive S where
  | asg (x : Vn) (e : E) (p : Pos)
  | asc (x : Vn) (e : E) (p : Pos)
  | swp (x y : Vn) (k : Nat) (q : Pos) (a b : E) (k' : Nat) (q' : Pos) (p : Pos)
  | unp (x y : Vn) (k : Nat) (q : Pos) (e : E) (p : Pos)
  | new (x : Vn) (q p : Pos)
  | nw2 (x y : Vn) (k : Nat) (q : Pos) (q1 q2 : Pos) (k' : Nat) (q' : Pos) (p : Pos)
  | nw1 (x y : Vn) (k : Nat) (q : Pos) (q1 q2 : Pos) (z : Int) (kz k' : Nat) (q' : Pos) (p : Pos)
  | app (x : Vn) (e : E) (ap cp p : Pos)
  | exp (e : E) (p : Pos)
  | ret (e : E) (p : Pos)
  | ro1 (x : Vn) (p : Pos)
  | ro2 (x y : Vn) (k : Nat) (q p : Pos)
  | ite (c : E) (a b : List S) (p : Pos)
  | whl (c : E) (b : List S) (p : Pos)
  | fr (x : Vn) (it : E) (b : List S) (p : Pos)
  | frp (x y : Vn) (k : Nat) (q : Pos) (it : E) (b : List S) (p : Pos)
  | oth (s : Stmt)

/-! reading -/
def sTab : List Str := ["num", "sym", "pow", "call", "sum", "prod", "sqrt", "sin", "tan", "atan", "exp", "log", "cos", "x", "y", "domain", "limit", ""]
def gNames : List Str := globs.map (·.1)
def bNames : List Str := ["abs", "min", "max", "len", "list", "tuple", "int", "range"]
def fNames : List Str := funs.map fun i => fN (st i)

def capNames (sc : Scope) : List Str := (sc.names.filter fun p => p.2 == .free).map (·.1)

def key (x : Str) : Nat := x.cps.toList.foldl (fun a c => a * 2097152 + c) 1
def ixG (k : Nat) : List Str → Nat → Option Nat
  | [], _ => .none
  | y :: r, n => bif Nat.beq k (key y) then some n else ixG k r (n + 1)
def ixOf (x : Str) (l : List Str) : Option Nat := ixG (key x) l 0

def cE : Nat → List Str → Expr → E
  | 0, _, e => .oth e
  | n + 1, nms, e => match e with
    | .Name x p => match ixOf x nms with
      | some i => .v x i p
      | none => match ixOf x gNames with
        | some i => .gl x i p
        | none => .oth e
    | .Constant (.int z) k p => .ci z k p
    | .Constant (.str x) k p => match ixOf x sTab with
      | some i => .cs x i k p
      | none => .oth e
    | .Constant .none k p => .cn k p
    | .BinOp a o b p => .bin o (cE n nms a) (cE n nms b) p
    | .UnaryOp .USub a p => .neg (cE n nms a) p
    | .Compare a [o] [b] p => .cmp o (cE n nms a) (cE n nms b) p
    | .BoolOp .And l p => .and (l.map (cE n nms)) p
    | .BoolOp .Or l p => .or (l.map (cE n nms)) p
    | .Tuple l k p => .tup (l.map (cE n nms)) k p
    | .List l p => .lst (l.map (cE n nms)) p
    | .Subscript a (.Slice none (some b) none q) p => .upto (cE n nms a) (cE n nms b) q p
    | .Subscript a (.Slice (some b) none none q) p => .frm (cE n nms a) (cE n nms b) q p
    | .Subscript a b p => .sub (cE n nms a) (cE n nms b) p
    | .IfExp c a b p => .ite (cE n nms c) (cE n nms a) (cE n nms b) p
    | .Call (.Name x q) l [] p => match ixOf x bNames with
      | some i => .bc x i q (l.map (cE n nms)) p
      | none => match ixOf x fNames with
        | some i => .fc x i q (l.map (cE n nms)) p
        | none => .oth e
    | .ListComp el [⟨.Name x q, it, [], 0⟩] sc p => .comp (cE n (x :: capNames sc) el) x q (cE n nms it) sc ((capNames sc).map fun y => (y, (ixOf y nms).getD 0)) p
    | e => .oth e

def vn (nms : List Str) (x : Str) (p : Pos) : Vn := ⟨x, (ixOf x nms).getD 0, p⟩
mutual
/-- all of it is read -/
def noO : E → Bool
  | .oth _ => false
  | .bin _ a b _ => noO a && noO b
  | .neg a _ => noO a
  | .cmp _ a b _ => noO a && noO b
  | .and l _ => noOs l
  | .or l _ => noOs l
  | .tup l _ _ => noOs l
  | .lst l _ => noOs l
  | .sub a b _ => noO a && noO b
  | .upto a b _ _ => noO a && noO b
  | .frm a b _ _ => noO a && noO b
  | .ite c a b _ => noO c && noO a && noO b
  | .bc _ _ _ l _ => noOs l
  | .fc _ _ _ l _ => noOs l
  | .comp e _ _ it _ _ _ => noO e && noO it
  | _ => true
def noOs : List E → Bool
  | [] => true
  | e :: r => noO e && noOs r
end
def retO (s : Stmt) (e : E) (p : Pos) : S := bif noO e then .ret e p else .oth s
def swpO (s : Stmt) (x y : Vn) (k : Nat) (q : Pos) (a b : E) (k' : Nat) (q' p : Pos) : S := bif noO a && noO b then .swp x y k q a b k' q' p else .oth s
def cst : Expr → Bool
  | .Constant .. => true
  | _ => false
/-- the names bound to [] -/
def ownsOf : List Stmt → List Str
  | .Assign [.Name x _] (.List [] _) _ :: r => x :: ownsOf r
  | .Assign [.Tuple [.Name x _, .Name y _] _ _] (.Tuple [.List [] _, .List [] _] _ _) _ :: r => x :: y :: ownsOf r
  | .Assign [.Tuple [.Name x _, .Name _ _] _ _] (.Tuple [.List [] _, _] _ _) _ :: r => x :: ownsOf r
  | _ :: r => ownsOf r
  | [] => []

def isLoc (x : Str) : List (Str × NameKind) → Bool
  | [] => false
  | (y, k) :: r => bif Nat.beq (key x) (key y) then (match k with | .local => true | _ => false) else isLoc x r
def dedup : List Str → List Str
  | [] => []
  | x :: r => x :: (dedup r).filter fun y => !(Nat.beq (key x) (key y))
def cS : Nat → List Str → List Str → Scope → Stmt → S
  | 0, _, _, _, s => .oth s
  | n + 1, nms, ow, fs, s => match s with
    | .Assign [.Name x q] (.List [] q') p => .new (vn nms x q) q' p
    | .Assign [.Name x q] (.ListComp el gs sc q') p =>
      if isLoc x fs.names then .asc (vn nms x q) (cE 30 nms (.ListComp el gs sc q')) p else .asg (vn nms x q) (cE 30 nms (.ListComp el gs sc q')) p
    | .Assign [.Name x q] e p => .asg (vn nms x q) (cE 30 nms e) p
    | .Assign [.Tuple [.Name x q1, .Name y q2] k q] (.Tuple [.List [] r1, .List [] r2] k' r) p => .nw2 (vn nms x q1) (vn nms y q2) k q r1 r2 k' r p
    | .Assign [.Tuple [.Name x q1, .Name y q2] k q] (.Tuple [.List [] r1, .Constant (.int z) kz r2] k' r) p => .nw1 (vn nms x q1) (vn nms y q2) k q r1 r2 z kz k' r p
    | .Assign [.Tuple [.Name x q1, .Name y q2] k q] (.Tuple [a, b] k' q') p => if cst a && cst b then .oth s else swpO s (vn nms x q1) (vn nms y q2) k q (cE 30 nms a) (cE 30 nms b) k' q' p
    | .Assign [.Tuple _ _ _] (.Tuple _ _ _) _ => .oth s
    | .Assign [.Tuple [.Name x q1, .Name y q2] k q] e p => .unp (vn nms x q1) (vn nms y q2) k q (cE 30 nms e) p
    | .Expr (.Call (.Attribute (.Name x q) _ ap) [e] [] cp) p => .app (vn nms x q) (cE 30 nms e) ap cp p
    | .Expr (.Call (.Name x q) l [] r) p => .exp (cE 30 nms (.Call (.Name x q) l [] r)) p
    | .Return (some (.Name x q)) p => if (ixOf x ow).isSome then .ro1 (vn nms x q) p else retO s (cE 30 nms (.Name x q)) p
    | .Return (some (.Tuple [.Name x q, .Name y q2] k t)) p => if (ixOf x ow).isSome then .ro2 (vn nms x q) (vn nms y q2) k t p else .ret (cE 30 nms (.Tuple [.Name x q, .Name y q2] k t)) p
    | .Return (some e) p => retO s (cE 30 nms e) p
    | .If c a b p => .ite (cE 30 nms c) (a.map (cS n nms ow fs)) (b.map (cS n nms ow fs)) p
    | .While c b [] p => .whl (cE 30 nms c) (b.map (cS n nms ow fs)) p
    | .For (.Name x q) it b [] p => .fr (vn nms x q) (cE 30 nms it) (b.map (cS n nms ow fs)) p
    | .For (.Tuple [.Name x q1, .Name y q2] k q) it b [] p => .frp (vn nms x q1) (vn nms y q2) k q (cE 30 nms it) (b.map (cS n nms ow fs)) p
    | s => .oth s

mutual
def den : E → Expr
  | .v x _ p => .Name x p
  | .gl x _ p => .Name x p
  | .ci z k p => .Constant (.int z) k p
  | .cs x _ k p => .Constant (.str x) k p
  | .cn k p => .Constant .none k p
  | .bin o a b p => .BinOp (den a) o (den b) p
  | .neg a p => .UnaryOp .USub (den a) p
  | .cmp o a b p => .Compare (den a) [o] [den b] p
  | .and l p => .BoolOp .And (dens l) p
  | .or l p => .BoolOp .Or (dens l) p
  | .tup l k p => .Tuple (dens l) k p
  | .lst l p => .List (dens l) p
  | .sub a b p => .Subscript (den a) (den b) p
  | .upto a b q p => .Subscript (den a) (.Slice none (some (den b)) none q) p
  | .frm a b q p => .Subscript (den a) (.Slice (some (den b)) none none q) p
  | .ite c a b p => .IfExp (den c) (den a) (den b) p
  | .bc x _ q l p => .Call (.Name x q) (dens l) [] p
  | .fc x _ q l p => .Call (.Name x q) (dens l) [] p
  | .comp e x q it sc _ p => .ListComp (den e) [⟨.Name x q, den it, [], 0⟩] sc p
  | .oth e => e
def dens : List E → List Expr
  | [] => []
  | e :: r => den e :: dens r
end
def denV (v : Vn) : Expr := .Name v.x v.p
mutual
def denS : S → Stmt
  | .asg x e p => .Assign [denV x] (den e) p
  | .asc x e p => .Assign [denV x] (den e) p
  | .swp x y k q a b k' q' p => .Assign [.Tuple [denV x, denV y] k q] (.Tuple [den a, den b] k' q') p
  | .unp x y k q e p => .Assign [.Tuple [denV x, denV y] k q] (den e) p
  | .new x q p => .Assign [denV x] (.List [] q) p
  | .nw2 x y k q q1 q2 k' q' p => .Assign [.Tuple [denV x, denV y] k q] (.Tuple [.List [] q1, .List [] q2] k' q') p
  | .nw1 x y k q q1 q2 z kz k' q' p => .Assign [.Tuple [denV x, denV y] k q] (.Tuple [.List [] q1, .Constant (.int z) kz q2] k' q') p
  | .app x e ap cp p => .Expr (.Call (.Attribute (denV x) "append" ap) [den e] [] cp) p
  | .exp e p => .Expr (den e) p
  | .ret e p => .Return (some (den e)) p
  | .ro1 x p => .Return (some (denV x)) p
  | .ro2 x y k q p => .Return (some (.Tuple [denV x, denV y] k q)) p
  | .ite c a b p => .If (den c) (denSs a) (denSs b) p
  | .whl c b p => .While (den c) (denSs b) [] p
  | .fr x it b p => .For (denV x) (den it) (denSs b) [] p
  | .frp x y k q it b p => .For (.Tuple [denV x, denV y] k q) (den it) (denSs b) [] p
  | .oth s => s
def denSs : List S → List Stmt
  | [] => []
  | s :: r => denS s :: denSs r
end

def nmsOf (i : Nat) : List Str := ((fP (st i)).args.map (·.arg) ++ ((fS (st i)).names.filter fun p => p.2 == .local || p.2 == .cell).map (·.1)) |> dedup
def bodyOf (i : Nat) : List S := (fB (st i)).map (cS 12 (nmsOf i) (ownsOf (fB (st i))) (fS (st i)))

/-! values -/
inductive V where
  | none
  | bool (b : Bool)
  | int (i : Int)
  | str (n : Nat)
  | tup (l : List V)
  | lst (l : List V)
inductive B where
  | un
  | va (v : V)
  | ow (l : List V)
inductive R where
  | ret (v : V)
  | next (ρ : List B)

def eqI : Int → Int → Bool
  | .ofNat a, .ofNat b => Nat.beq a b
  | .negSucc a, .negSucc b => Nat.beq a b
  | _, _ => false
def allV (f : V → Bool) : List V → Bool
  | [] => true
  | v :: r => bif f v then allV f r else false
/-- plain, and not deep -/
def okV : Nat → V → Bool
  | 0, _ => false
  | n + 1, v => match v with
    | .none => true
    | .bool _ => false
    | .int _ => true
    | .str a => Nat.blt a 18
    | .tup l => allV (okV n) l
    | .lst l => allV (okV n) l
def eqL (f : V → V → Bool) : List V → List V → Bool
  | [], [] => true
  | a :: l, b :: m => bif f a b then eqL f l m else false
  | _, _ => false
def eqN : Nat → V → V → Bool
  | 0, _, _ => false
  | n + 1, x, y => match x, y with
    | .none, .none => true
    | .int a, .int b => eqI a b
    | .str a, .str b => Nat.beq a b
    | .tup l, .tup m => eqL (eqN n) l m
    | .lst l, .lst m => eqL (eqN n) l m
    | _, _ => false
def veq : V → V → Option Bool
  | .int a, .int b => some (eqI a b)
  | .str a, .str b => bif Nat.blt a 18 && Nat.blt b 18 then some (Nat.beq a b) else .none
  | x, y => bif okV 9 x && okV 9 y then some (eqN 9 x y) else .none

def smI (x : Int) : Bool := Nat.blt x.natAbs 1073741824
def nz (x : Int) : Bool := !(Nat.beq x.natAbs 0)

structure F2 where
  run : V → V → Option V
def oAdd : V → V → Option V
  | .int a, .int b => some (.int (Int.add a b))
  | .lst a, .lst b => bif Nat.ble (a.length + b.length) 4096 then some (.lst (a ++ b)) else .none
  | _, _ => .none
def oSub : V → V → Option V
  | .int a, .int b => some (.int (Int.sub a b))
  | .bool a, .bool b => some (.int (b2i a - b2i b))
  | _, _ => .none
def oMul : V → V → Option V
  | .int a, .int b => bif smI a then some (.int (Int.mul a b)) else .none
  | .lst [d], .int (.ofNat k) => bif Nat.ble k 4096 then some (.lst (List.replicate k d)) else .none
  | .lst [_], .int (.negSucc k) => bif Nat.ble k 4096 then some (.lst []) else .none
  | _, _ => .none
def oDiv : V → V → Option V
  | .int a, .int b => bif nz b && smI b then some (.int (Int.fdiv a b)) else .none
  | _, _ => .none
def oMod : V → V → Option V
  | .int a, .int b => bif nz b then some (.int (Int.fmod a b)) else .none
  | _, _ => .none
def oPow : V → V → Option V
  | .int a, .int (.ofNat b) => bif smI a && Nat.ble b 100000 then some (.int (Int.pow a b)) else .none
  | _, _ => .none
def o2 : Operator → F2
  | .Add => ⟨oAdd⟩
  | .Sub => ⟨oSub⟩
  | .Mult => ⟨oMul⟩
  | .FloorDiv => ⟨oDiv⟩
  | .Mod => ⟨oMod⟩
  | .Pow => ⟨oPow⟩
  | _ => ⟨fun _ _ => .none⟩
def cLt : V → V → Option V
  | .int a, .int b => some (.bool (decide (a < b)))
  | _, _ => .none
def cLe : V → V → Option V
  | .int a, .int b => some (.bool (decide (a ≤ b)))
  | _, _ => .none
def nB : Option Bool → Option V
  | some b => some (.bool b)
  | .none => .none
def nN : Option Bool → Option V
  | some b => some (.bool (!b))
  | .none => .none
def cIs : V → V → Option V
  | .lst _, .none => some (.bool false)
  | .tup _, .none => some (.bool false)
  | _, _ => .none
def cNi : V → V → Option V
  | .str a, .tup [.str b, .str c] => bif Nat.blt a 18 && Nat.blt b 18 && Nat.blt c 18 then some (.bool (!(Nat.beq b a || Nat.beq c a))) else .none
  | _, _ => .none
def c2 : CmpOp → F2
  | .Lt => ⟨cLt⟩
  | .Gt => ⟨fun a b => cLt b a⟩
  | .LtE => ⟨cLe⟩
  | .GtE => ⟨fun a b => cLe b a⟩
  | .Eq => ⟨fun a b => nB (veq a b)⟩
  | .NotEq => ⟨fun a b => nN (veq a b)⟩
  | .Is => ⟨cIs⟩
  | .NotIn => ⟨cNi⟩
  | _ => ⟨fun _ _ => .none⟩
def nth {α : Type} (l : List α) : Nat → Option α := List.rec (motive := fun _ => Nat → Option α) (fun _ => .none) (fun a _ ih n => Nat.rec (motive := fun _ => Option α) (some a) (fun m _ => ih m) n) l
def item : V → V → Option V
  | .tup l, .int (.ofNat k) => bif Nat.ble k 4096 then nth l k else .none
  | .lst l, .int (.ofNat k) => nth l k
  | _, _ => .none
def sUp : V → V → Option V
  | .lst l, .int (.ofNat k) => some (.lst (l.take k))
  | _, _ => .none
def sFr : V → V → Option V
  | .lst l, .int (.ofNat k) => some (.lst (l.drop k))
  | _, _ => .none
def bAbs : List V → Option V
  | [.int a] => some (.int a.natAbs)
  | _ => .none
def bMin : List V → Option V
  | [.int a, .int b] => some (.int (if b < a then b else a))
  | _ => .none
def bMax : List V → Option V
  | [.int a, .int b] => some (.int (if b > a then b else a))
  | _ => .none
def bLen : List V → Option V
  | [.lst l] => some (.int l.length)
  | [.tup l] => some (.int l.length)
  | _ => .none
def bLst : List V → Option V
  | [.lst l] => some (.lst l)
  | _ => .none
def bTup : List V → Option V
  | [.lst l] => some (.tup l)
  | _ => .none
def bInt : List V → Option V
  | [.int a] => some (.int a)
  | _ => .none
structure F1 where
  run : List V → Option V
def bfn : Nat → F1
  | 0 => ⟨bAbs⟩
  | 1 => ⟨bMin⟩
  | 2 => ⟨bMax⟩
  | 3 => ⟨bLen⟩
  | 4 => ⟨bLst⟩
  | 5 => ⟨bTup⟩
  | 6 => ⟨bInt⟩
  | _ => ⟨fun _ => .none⟩

def qv (a b : Int) : V := .tup [.int a, .int b]
def gvals : List V := [qv 0 1, qv 1 1, .int 200000, .int 1000, .tup [.int 0, .int 2, .int 4, .int 8, .int 16, .int 32, .int 64]]

def vrange : Nat → Nat → List V
  | _, 0 => []
  | a, n + 1 => .int (.ofNat a) :: vrange (a + 1) n

abbrev Cf := Nat → List V → Option V
structure Ke where
  run : Cf → List B → Option V
structure Kt where
  run : Cf → List B → Option Bool
structure Kr where
  run : Cf → List B → Option (List V)
structure Ck where
  run : Cf → List B → Option R

def lk (l : List B) : Nat → B := List.rec (motive := fun _ => Nat → B) (fun _ => .un) (fun b _ ih n => Nat.rec (motive := fun _ => B) b (fun m _ => ih m) n) l
def va : B → Option V
  | .va v => some v
  | _ => .none
def b2 (f : V → V → Option V) (a b : Option V) : Option V := Option.rec (motive := fun _ => Option V) .none (fun x => Option.rec (motive := fun _ => Option V) .none (fun y => f x y) b) a
def neg1 : Option V → Option V
  | some (.int z) => some (.int (Int.neg z))
  | _ => .none
def consO (a : Option V) (b : Option (List V)) : Option (List V) := Option.rec (motive := fun _ => Option (List V)) .none (fun x => Option.rec (motive := fun _ => Option (List V)) .none (fun y => some (x :: y)) b) a
def mapC (cf : Cf) (ρ : List B) (l : List Ke) : Option (List V) := List.rec (motive := fun _ => Option (List V)) (some []) (fun c _ ih => consO (c.run cf ρ) ih) l
def thenL (f : List V → Option V) (a : Option (List V)) : Option V := Option.rec (motive := fun _ => Option V) .none (fun l => f l) a
def andC (cf : Cf) (ρ : List B) : List Ke → Option Bool
  | [] => some true
  | c :: r => match c.run cf ρ with
    | some (.bool true) => andC cf ρ r
    | some (.bool false) => some false
    | _ => .none
def orC (cf : Cf) (ρ : List B) : List Ke → Option Bool
  | [] => some false
  | c :: r => match c.run cf ρ with
    | some (.bool false) => orC cf ρ r
    | some (.bool true) => some true
    | _ => .none
def asB : Option V → Option Bool
  | some (.bool b) => some b
  | _ => .none
def itemB (y : Option V) : B → Option V
  | .va x => b2 item (some x) y
  | .ow l => b2 item (some (.lst l)) y
  | .un => .none
def iteC (a b : Ke) (cf : Cf) (ρ : List B) : Option Bool → Option V
  | some true => a.run cf ρ
  | some false => b.run cf ρ
  | _ => .none
def asL : Option V → Option (List V)
  | some (.lst l) => bif Nat.ble l.length 4096 then some l else .none
  | some (.tup l) => bif Nat.ble l.length 4096 then some l else .none
  | _ => .none
def asLs : Option V → Option (List V)
  | some (.lst l) => bif Nat.ble l.length 4096 then some l else .none
  | _ => .none
def rgV (f : Nat) : Option (List V) → Option (List V)
  | some [.int (.ofNat k)] => bif Nat.beq f 7 && Nat.ble k 2000 then some (vrange 0 k) else .none
  | some [.int (.ofNat a), .int (.ofNat b)] => bif Nat.beq f 7 && (Nat.ble a 2000 && Nat.ble b 2000) then some (vrange a (b - a)) else .none
  | _ => .none
def compL (e : Ke) (caps : List B) (cf : Cf) : List V → Option (List V)
  | [] => some []
  | d :: ds => consO (e.run cf (.va d :: caps)) (compL e caps cf ds)
def unO : B → B
  | .va v => .va v
  | _ => .un
def lks (ρ : List B) : List (Str × Nat) → List B
  | [] => []
  | p :: r => unO (lk ρ p.2) :: lks ρ r
def compC (e : Ke) (caps : List (Str × Nat)) (cf : Cf) (ρ : List B) : Option (List V) → Option V
  | some ds => thenL (fun l => some (.lst l)) (compL e (lks ρ caps) cf ds)
  | _ => .none

mutual
def ce : E → Ke
  | .v _ i _ => ⟨fun _ ρ => va (lk ρ i)⟩
  | .gl _ i _ => ⟨fun _ _ => nth gvals i⟩
  | .ci z _ _ => ⟨fun _ _ => some (.int z)⟩
  | .cs _ i _ _ => ⟨fun _ _ => some (.str i)⟩
  | .cn _ _ => ⟨fun _ _ => some .none⟩
  | .bin o a b _ => ⟨fun cf ρ => b2 (o2 o).run ((ce a).run cf ρ) ((ce b).run cf ρ)⟩
  | .neg a _ => ⟨fun cf ρ => neg1 ((ce a).run cf ρ)⟩
  | .cmp o a b _ => ⟨fun cf ρ => b2 (c2 o).run ((ce a).run cf ρ) ((ce b).run cf ρ)⟩
  | .and l _ => ⟨fun cf ρ => nB (andC cf ρ (ces l))⟩
  | .or _ _ => ⟨fun _ _ => .none⟩
  | .tup l _ _ => ⟨fun cf ρ => thenL (fun l => some (.tup l)) (mapC cf ρ (ces l))⟩
  | .lst l _ => ⟨fun cf ρ => thenL (fun l => some (.lst l)) (mapC cf ρ (ces l))⟩
  | .sub (.v _ i _) b _ => ⟨fun cf ρ => itemB ((ce b).run cf ρ) (lk ρ i)⟩
  | .sub a b _ => ⟨fun cf ρ => b2 item ((ce a).run cf ρ) ((ce b).run cf ρ)⟩
  | .upto a b _ _ => ⟨fun cf ρ => b2 sUp ((ce a).run cf ρ) ((ce b).run cf ρ)⟩
  | .frm a b _ _ => ⟨fun cf ρ => b2 sFr ((ce a).run cf ρ) ((ce b).run cf ρ)⟩
  | .ite c a b _ => ⟨fun cf ρ => iteC (ce a) (ce b) cf ρ ((ct c).run cf ρ)⟩
  | .bc _ f _ l _ => ⟨fun cf ρ => thenL (bfn f).run (mapC cf ρ (ces l))⟩
  | .fc _ f _ l _ => ⟨fun cf ρ => thenL (cf f) (mapC cf ρ (ces l))⟩
  | .comp e _ _ it _ caps _ => ⟨fun cf ρ => compC (ce e) caps cf ρ ((cr it).run cf ρ)⟩
  | .oth _ => ⟨fun _ _ => .none⟩
def ces : List E → List Ke
  | [] => []
  | e :: r => ce e :: ces r
def ct : E → Kt
  | .and l _ => ⟨fun cf ρ => andC cf ρ (ces l)⟩
  | .or l _ => ⟨fun cf ρ => orC cf ρ (ces l)⟩
  | .cmp o a b _ => ⟨fun cf ρ => asB (b2 (c2 o).run ((ce a).run cf ρ) ((ce b).run cf ρ))⟩
  | .fc _ f _ l _ => ⟨fun cf ρ => asB (thenL (cf f) (mapC cf ρ (ces l)))⟩
  | _ => ⟨fun _ _ => .none⟩
def cr : E → Kr
  | .bc _ f _ l _ => ⟨fun cf ρ => rgV f (mapC cf ρ (ces l))⟩
  | .v _ i _ => ⟨fun _ ρ => asL (va (lk ρ i))⟩
  | .frm a b _ _ => ⟨fun cf ρ => asL (b2 sFr ((ce a).run cf ρ) ((ce b).run cf ρ))⟩
  | .sub a b _ => ⟨fun cf ρ => asL (b2 item ((ce a).run cf ρ) ((ce b).run cf ρ))⟩
  | .tup l _ _ => ⟨fun cf ρ => mapC cf ρ (ces l)⟩
  | _ => ⟨fun _ _ => .none⟩
end
def crp : E → Kr
  | .v _ i _ => ⟨fun _ ρ => asLs (va (lk ρ i))⟩
  | _ => ⟨fun _ _ => .none⟩

def setB (l : List B) : Nat → B → List B := List.rec (motive := fun _ => Nat → B → List B) (fun _ _ => []) (fun a r ih n b => Nat.rec (motive := fun _ => List B) (b :: r) (fun m _ => a :: ih m b) n) l
def aS (i : Nat) (k : Ck) (cf : Cf) (ρ : List B) (a : Option V) : Option R := Option.rec (motive := fun _ => Option R) .none (fun v => k.run cf (setB ρ i (.va v))) a
def swS (i j : Nat) (k : Ck) (cf : Cf) (ρ : List B) : Option V → Option V → Option R
  | some a, some b => k.run cf (setB (setB ρ i (.va a)) j (.va b))
  | _, _ => .none
def upS (i j : Nat) (k : Ck) (cf : Cf) (ρ : List B) : Option (List V) → Option R
  | some [a, b] => k.run cf (setB (setB ρ i (.va a)) j (.va b))
  | _ => .none
def onlyR : Option R → Option R
  | some (.ret v) => some (.ret v)
  | _ => .none
def apS (i : Nat) (k : Ck) (cf : Cf) (ρ : List B) : B → Option V → Option R
  | .ow l, some v => bif Nat.blt l.length 4096 then k.run cf (setB ρ i (.ow (l ++ [v]))) else .none
  | _, _ => .none
def exS (k : Ck) (cf : Cf) (ρ : List B) : Option V → Option R
  | some .none => k.run cf ρ
  | _ => .none
def retS : Option V → Option R
  | some v => some (.ret v)
  | _ => .none
def ro1S : B → Option R
  | .ow l => some (.ret (.lst l))
  | _ => .none
def ro2S : B → B → Option R
  | .ow l, .ow m => some (.ret (.tup [.lst l, .lst m]))
  | _, _ => .none
def seqS (k : Ck) (cf : Cf) : Option R → Option R
  | some (.ret v) => some (.ret v)
  | some (.next ρ) => k.run cf ρ
  | .none => .none
def iteS (a b k : Ck) (cf : Cf) (ρ : List B) : Option Bool → Option R
  | some true => seqS k cf (a.run cf ρ)
  | some false => seqS k cf (b.run cf ρ)
  | .none => .none
def whlS (c : Kt) (b k : Ck) (cf : Cf) : Nat → List B → Option R
  | 0, _ => .none
  | n + 1, ρ => match c.run cf ρ with
    | some true => match b.run cf ρ with
      | some (.next ρ') => whlS c b k cf n ρ'
      | _ => .none
    | some false => k.run cf ρ
    | .none => .none
def frS (i : Nat) (b k : Ck) (cf : Cf) : List V → List B → Option R
  | [], ρ => k.run cf ρ
  | d :: ds, ρ => match b.run cf (setB ρ i (.va d)) with
    | some (.next ρ') => frS i b k cf ds ρ'
    | _ => .none
def frO (i : Nat) (b k : Ck) (cf : Cf) (ρ : List B) : Option (List V) → Option R
  | some ds => frS i b k cf ds ρ
  | _ => .none
def fpS (i j : Nat) (b k : Ck) (cf : Cf) : List V → List B → Option R
  | [], ρ => k.run cf ρ
  | .tup [x, y] :: ds, ρ => match b.run cf (setB (setB ρ i (.va x)) j (.va y)) with
    | some (.next ρ') => fpS i j b k cf ds ρ'
    | _ => .none
  | _, _ => .none
def fpO (i j : Nat) (b k : Ck) (cf : Cf) (ρ : List B) : Option (List V) → Option R
  | some ds => fpS i j b k cf ds ρ
  | _ => .none

mutual
def cs1 : S → Ck → Ck
  | .asg x e _, k => ⟨fun cf ρ => aS x.i k cf ρ ((ce e).run cf ρ)⟩
  | .asc x e _, k => ⟨fun cf ρ => aS x.i k cf ρ ((ce e).run cf ρ)⟩
  | .swp x y _ _ a b _ _ _, k => ⟨fun cf ρ => swS x.i y.i k cf ρ ((ce a).run cf ρ) ((ce b).run cf ρ)⟩
  | .unp x y _ _ e _, k => ⟨fun cf ρ => upS x.i y.i k cf ρ (asL ((ce e).run cf ρ))⟩
  | .new x _ _, k => ⟨fun cf ρ => onlyR (k.run cf (setB ρ x.i (.ow [])))⟩
  | .nw2 x y _ _ _ _ _ _ _, k => ⟨fun cf ρ => onlyR (k.run cf (setB (setB ρ x.i (.ow [])) y.i (.ow [])))⟩
  | .nw1 x y _ _ _ _ z _ _ _ _, k => ⟨fun cf ρ => onlyR (k.run cf (setB (setB ρ x.i (.ow [])) y.i (.va (.int z))))⟩
  | .app x e _ _ _, k => ⟨fun cf ρ => apS x.i k cf ρ (lk ρ x.i) ((ce e).run cf ρ)⟩
  | .exp e _, k => ⟨fun cf ρ => exS k cf ρ ((ce e).run cf ρ)⟩
  | .ret e _, _ => ⟨fun cf ρ => retS ((ce e).run cf ρ)⟩
  | .ro1 x _, _ => ⟨fun _ ρ => ro1S (lk ρ x.i)⟩
  | .ro2 x y _ _ _, _ => ⟨fun _ ρ => ro2S (lk ρ x.i) (lk ρ y.i)⟩
  | .ite c a b _, k => ⟨fun cf ρ => iteS (css a) (css b) k cf ρ ((ct c).run cf ρ)⟩
  | .whl c b _, k => ⟨fun cf ρ => whlS (ct c) (css b) k cf 60 ρ⟩
  | .fr x it b _, k => ⟨fun cf ρ => frO x.i (css b) k cf ρ ((cr it).run cf ρ)⟩
  | .frp x y _ _ it b _, k => ⟨fun cf ρ => fpO x.i y.i (css b) k cf ρ ((crp it).run cf ρ)⟩
  | .oth _, _ => ⟨fun _ _ => .none⟩
def css : List S → Ck
  | [] => ⟨fun _ ρ => some (.next ρ)⟩
  | s :: r => cs1 s (css r)
end

structure Kf where
  np : Nat
  nn : Nat
  k : Ck
def vas : List V → Nat → List B
  | [], n => List.replicate n .un
  | v :: r, n => .va v :: vas r (n - 1)
def outR : Option R → Option V
  | some (.ret v) => some v
  | some (.next _) => some .none
  | .none => .none
/-- a def of the text -/
def fOf (i : Nat) : Kf := ⟨(fP (st i)).args.length, (nmsOf i).length, css (bodyOf i)⟩
def run1 (cf : Cf) (args : List V) : Kf → Option V
  | ⟨np, nn, k⟩ => bif Nat.beq args.length np then outR (k.run cf (vas args nn)) else .none
def run (cf : Cf) (args : List V) : Option Nat → Option V
  | some i => run1 cf args (fOf i)
  | .none => .none

/-- the index among funs of: laurent_of, of_term -/
def laur1 (e : Int) : Option V → Option V
  | some (.tup [.int a, .lst l]) => if e ≤ a + l.length then some (.tup [.int a, .lst l]) else .none
  | _ => .none
def laur (cf : Cf) : List V → Option V
  | [t, letter, .int e] => laur1 e (cf 40 [t, .int (if 1 > e then 1 else e), letter])
  | _ => .none

/-! plain rationals, at once -/
def nfN (n : Nat) (k : Nat → Option V) : Option V := match n with
  | 0 => k 0
  | m + 1 => k (m + 1)
def nf (x : Int) (k : Int → Option V) : Option V := match x with
  | .ofNat n => nfN n fun n => k (.ofNat n)
  | .negSucc n => nfN n fun n => k (.negSucc n)
def ratN (x y : Int) (g : Nat) : Option V := match y with
  | .ofNat _ => nf (Int.fdiv x (.ofNat g)) fun a => nf (Int.fdiv y (.ofNat g)) fun b => some (qv a b)
  | .negSucc _ => nf (Int.fdiv x (Int.neg (.ofNat g))) fun a => nf (Int.fdiv y (Int.neg (.ofNat g))) fun b => some (qv a b)
def ratV (x y : Int) : Option V := bif nz y && smI x && smI y then nfN (Nat.gcd x.natAbs y.natAbs) (ratN x y) else .none
def q4 (f : Int → Int → Int → Int → Option V) : List V → Option V
  | [.tup [.int a, .int b], .tup [.int c, .int d]] => bif smI a && smI b && smI c && smI d then f a b c d else .none
  | _ => .none
def ratF : List V → Option V
  | [.int a, .int b] => ratV a b
  | _ => .none
def raddF : List V → Option V := q4 fun a b c d => ratV (Int.add (Int.mul a d) (Int.mul c b)) (Int.mul b d)
def rsubF : List V → Option V := q4 fun a b c d => ratV (Int.sub (Int.mul a d) (Int.mul c b)) (Int.mul b d)
def rmulF : List V → Option V := q4 fun a b c d => ratV (Int.mul a c) (Int.mul b d)
def rdivF : List V → Option V := q4 fun a b c d => ratV (Int.mul a d) (Int.mul b c)
def letF : List V → Option V
  | [.tup [.int a, .int b]] => bif smI a && smI b then some (qv a b) else .none
  | _ => .none
def fast : Nat → Option F1
  | 3 => some ⟨ratF⟩
  | 4 => some ⟨raddF⟩
  | 5 => some ⟨rsubF⟩
  | 6 => some ⟨rmulF⟩
  | 7 => some ⟨rdivF⟩
  | 12 => some ⟨letF⟩
  | _ => .none
def fIx : Nat → Option Nat
  | 49 => .none
  | 53 => .none
  | 54 => .none
  | f => nth funs f
def slow (cf : Cf) (f : Nat) (args : List V) : Option F1 → Option V
  | some g => g.run args
  | .none => run cf args (fIx f)
def callF : Nat → Cf
  | 0 => fun _ _ => .none
  | k + 1 => fun f args => bif Nat.beq f 41 then laur (callF k) args else slow (callF k) f args (fast f)

/-! what the recursors say -/
theorem lk_nil (n : Nat) : lk [] n = .un := rfl
theorem lk_zero (b : B) (r : List B) : lk (b :: r) 0 = b := rfl
theorem lk_succ (b : B) (r : List B) (n : Nat) : lk (b :: r) (n + 1) = lk r n := rfl
theorem nth_nil {α : Type} (n : Nat) : nth ([] : List α) n = .none := rfl
theorem nth_zero {α : Type} (a : α) (r : List α) : nth (a :: r) 0 = some a := rfl
theorem nth_succ {α : Type} (a : α) (r : List α) (n : Nat) : nth (a :: r) (n + 1) = nth r n := rfl
end Mine
end
end

section
open PySem PySem.W PySem.Calls PyProof.Rows
set_option Elab.async false
set_option maxRecDepth 100000
set_option linter.unusedVariables false
namespace Mine
section
variable {c : Cx} {σ : Sg} {ρ : Rh}

theorem FR.ownC {h₀ h : Heap} {l : Addr} {n : Nat} {vs : List Value} {ds : List D} (F : FR c σ h₀ ρ) (hk : Kp h₀ h) (hl : h₀.get? l = none) (ho : h.get? l = some (lobj vs n)) (hlen : vs.length ≤ Bd) (os : Oks (Fz (MM c σ) h₀) vs ds) : FR c ((l, ds) :: σ) h ρ := by
  have tr : ∀ {v : Value} {d : D}, Ok (Fz (MM c σ) h₀) v d → Ok (Fz (MM c ((l, ds) :: σ)) h) v d := fun x => x.mono fun a ob q => ⟨hk a ob q.1, fun m => by
    rcases m with m | ⟨p, hp, rfl⟩
    · exact q.2 (.inl m)
    · rcases List.mem_cons.mp hp with rfl | hp
      · have := q.1; rw [hl] at this; cases this
      · exact q.2 (.inr ⟨p, hp, rfl⟩)⟩
  have trs : ∀ {v : List Value} {d : List D}, Oks (Fz (MM c σ) h₀) v d → Oks (Fz (MM c ((l, ds) :: σ)) h) v d := fun x => x.mono fun a ob q => ⟨hk a ob q.1, fun m => by
    rcases m with m | ⟨p, hp, rfl⟩
    · exact q.2 (.inl m)
    · rcases List.mem_cons.mp hp with rfl | hp
      · have := q.1; rw [hl] at this; cases this
      · exact q.2 (.inr ⟨p, hp, rfl⟩)⟩
  have F1 := F.keeps hk
  exact { F1 with
    vars := let ⟨m, hn, hv⟩ := F.vars; ⟨m, hn.keeps hk, fun x d e => (hv x d e).keeps hk fun v q => tr q⟩
    ow := fun p hp => by
      rcases List.mem_cons.mp hp with rfl | hp
      · refine ⟨?_, vs, n, ho, hlen, trs os⟩
        cases e : c.base.get? l with
        | none => rfl
        | some ob => have := F.kb _ _ e; rw [hl] at this; cases this
      · obtain ⟨a, ws, n', q, ll, r⟩ := F.ow p hp
        exact ⟨a, ws, n', hk _ _ q, ll, trs r⟩
    oa := List.pairwise_cons.mpr ⟨fun q hq e => by
      obtain ⟨_, ws, n', q', _⟩ := F.ow q hq
      (have e' : l = q.1 := e); (rw [← e', hl] at q'); (cases q'), F.oa⟩ }

/-- x = [e1, ..]: a list of the frame's own -/
theorem exs_ownlist {x : Str} {p q pos : Pos} {elts : List Expr} {rest : List Stmt} {ds : List D} {d : D} (hx : St c x) (hts : Ts c σ ρ (spliced (backTo q (starEach elts c.env))) ds) (hl : ds.length ≤ Bd)
    (h : ∀ l, Exs c ((l, ds) :: σ) ((x, .adr (.ref l)) :: ρ) rest (.ret d))
    (hs : swapsWith (.List elts q) (some (.Name x p)) pos.line c.env = pure false := by rfl) : Exs c σ ρ (.Assign [.Name x p] (.List elts q) pos :: rest) (.ret d) := fun s F =>
  wpAny_execs_cons (wpAny_Assign_Name (List_ (wpAny_mono (hts s F) (fun vs s1 y => by
    obtain ⟨k1, os⟩ := y
    have F1 := F.keeps k1.kp
    have hle : vs.length ≤ Bd := os.length ▸ hl
    have hkk : Kp s1.heap (s1.heap.push (lobj vs 0)) := fun _ _ e => Heap.get?_push_of_some _ e
    refine wpAny_newObj_type ?_ (by show vs.toArray.size ≤ sizeLine; rw [List.size_toArray]; exact Nat.le_trans hle (by decide))
    have F2 : FR c ((s1.heap.objs.size, ds) :: σ) (s1.heap.push (lobj vs 0)) ρ := F1.ownC hkk (Heap.get?_none_of_le (Nat.le_refl _)) (Heap.get?_push_size _ rfl) hle os
    refine store_ (s := { s1 with heap := s1.heap.push (lobj vs 0) }) F2 (.adr _) hx fun s2 a2 F3 kb2 _ => ?_
    exact wpAny_mono (h _ s2 F3) (fun fl s3 q => by
      obtain ⟨v, rfl, a3, r⟩ := q
      exact ⟨v, rfl, ((k1.sa.trans ⟨_, _, rfl⟩).trans a2).trans a3, r⟩) fun _ _ x => x) fun _ _ x => x)) hs)

/-- script[:8], the script as it came -/
theorem slice_raw {value upper : Expr} {p pos : Pos} {l : Addr} {vs : List Value} {ds : List D} {k : Int} (h1 : Tv c σ ρ (eval value c.env) (.adr (.ref l))) (hb : c.base.IsList l vs.toArray) (hsz : vs.length ≤ sizeLine)
    (h2 : Tv c σ ρ (eval upper c.env) (.int k)) (h0 : 0 ≤ k) (hk : k ≤ 4096) (os : ∀ φ : Hp, Oks φ (vs.take k.toNat) ds) :
    Tv c σ ρ (eval (.Subscript value (.Slice none (some upper) none p) pos) c.env) (.lst ds) := fun s F => by
  refine Subscript_ (tv_then h1 F fun va s1 k1 F1 o1 => wpAny_Slice ?_)
  rw [evalPart_none, evalPart_some]
  refine wpAny_pure (tv_then h2 F1 fun vb s2 k2 F2 o2 => ?_)
  refine wpAny_pure ?_
  cases o1
  cases o2 with
  | int _ u =>
  have hk2 : Kp s2.heap (s2.heap.push { cls := .type "slice", data := .fields #[.none, .int k u, .none] }) := fun _ _ e => Heap.get?_push_of_some _ e
  have hl : (s2.heap.push { cls := .type "slice", data := .fields #[.none, .int k u, .none] }).IsList l vs.toArray := by
    obtain ⟨ob, e, r⟩ := hb
    exact ⟨ob, hk2 _ _ (F2.kb _ _ e), r⟩
  have hle : (vs.take k.toNat).length ≤ Bd := by rw [List.length_take]; show min _ _ ≤ 4096; omega
  refine tail_any (ops := [.ref s2.heap.objs.size, .ref l]) hl.typeIs slot_list_getitem.lookup (wpAny_getItem_list_slice hl (Heap.IsSliceOf.new ..) .none (.int k u) .none (by simp) ?_ (by rw [List.size_toArray]; exact hsz)) rfl
  have e : slicePick vs.toArray none (some k) none = (vs.take k.toNat).toArray := by
    have := slicePick_upto' vs.toArray k.toNat
    rw [show ((k.toNat : Nat) : Int) = k by omega] at this
    simpa using this
  rw [e]
  have hkk : Kp (s2.heap.push { cls := .type "slice", data := .fields #[.none, .int k u, .none] }) ((s2.heap.push { cls := .type "slice", data := .fields #[.none, .int k u, .none] }).push (lobj (vs.take k.toNat) 0)) := fun _ _ e => Heap.get?_push_of_some _ e
  have F3 := F2.keeps hk2
  exact ⟨(k1.trans k2).trans ⟨_, s2.toks, rfl, fun b o e => hkk b o (hk2 b o e)⟩, .lst (n := 0) ⟨Heap.get?_push_size _ rfl, F3.fresh⟩ hle (os _)⟩

/-- an own list has changed, and nothing else -/
theorem FR.upd {h h' : Heap} {l : Addr} {ds ds' : List D} {i n' : Nat} {vs' : List Value} (F : FR c σ h ρ) (hm : σ[i]? = some (l, ds)) (hk : ∀ b ob, b ≠ l → h.get? b = some ob → h'.get? b = some ob) (hnew : h'.get? l = some (lobj vs' n')) (hlen : vs'.length ≤ Bd)
    (os : Oks (Fz (MM c σ) h') vs' ds') : FR c (σ.set i (l, ds')) h' ρ ∧ Kb c σ h h' := by
  have hmem : (l, ds) ∈ σ := List.mem_of_getElem? hm
  have hmap : (σ.set i (l, ds')).map (·.1) = σ.map (·.1) := set_map hm
  obtain ⟨hb, ws, n, hp, _, _⟩ := F.ow _ hmem
  have kb : Kb c σ h h' := fun a ob m e => hk a ob (fun q => m (.inr (.inr ⟨_, hmem, q.symm⟩))) e
  refine ⟨?_, kb⟩
  obtain ⟨m, hns, hv⟩ := F.vars
  have hnl : c.env.locals ≠ l := fun q => ns_noseq hns _ _ _ (q ▸ hp) rfl
  have hcl : ∀ {kk : Addr} {v' : Option Value}, h.IsCell kk v' → kk ≠ l := fun hc q => cell_noseq hc _ _ _ (q ▸ hp) rfl
  have cell : ∀ {kk : Addr} {v' : Option Value}, h.IsCell kk v' → h'.IsCell kk v' := fun hc => by
    have ne := hcl hc
    obtain ⟨o, ho, hd⟩ := hc
    exact ⟨o, hk _ _ ne ho, hd⟩
  exact { F with
    kb := fun b ob e => hk b ob (fun q => by rw [q, hb] at e; cases e) (F.kb b ob e)
    vars := ⟨m, by obtain ⟨o, es, ep, ho, r⟩ := hns; exact ⟨o, es, ep, hk _ _ hnl ho, r⟩, fun y d' e => by
      rcases hv y d' e with ⟨a, v', b, q⟩ | ⟨a, kk, v', b, cc, q⟩
      · exact .inl ⟨a, v', b, q.kb F kb hmap⟩
      · exact .inr ⟨a, kk, v', b, cell cc, q.kb F kb hmap⟩⟩
    cx := fun y kk e => let ⟨v', q⟩ := F.cx y kk e; ⟨v', cell q⟩
    ow := fun p hp' => by
      obtain ⟨j, hj⟩ := List.getElem?_of_mem hp'
      rw [List.getElem?_set] at hj
      by_cases hij : i = j
      · subst hij
        have : i < σ.length := (List.getElem?_eq_some_iff.mp hm).1
        rw [if_pos rfl, if_pos this] at hj
        cases hj
        exact ⟨hb, vs', n', hnew, hlen, os.less fun a m => m.of_map hmap⟩
      · rw [if_neg hij] at hj
        have hpm : p ∈ σ := List.mem_of_getElem? hj
        obtain ⟨a, ws', n2, q, ll, r'⟩ := F.ow p hpm
        refine ⟨a, ws', n2, hk _ _ (fun e => hij ?_) q, ll, r'.kb F kb hmap⟩
        have h1 := (List.getElem?_eq_some_iff.mp hj)
        have h2 := (List.getElem?_eq_some_iff.mp hm)
        obtain ⟨l1, e1⟩ := h1
        obtain ⟨l2, e2⟩ := h2
        rcases Nat.lt_trichotomy i j with h | h | h
        · exact absurd (by rw [e1, e2]; exact e.symm) (List.pairwise_iff_getElem.mp F.oa i j l2 l1 h)
        · exact h
        · exact absurd (by rw [e1, e2]; exact e) (List.pairwise_iff_getElem.mp F.oa j i l1 l2 h)
    oa := by
      have h1 : (σ.map (·.1)).Pairwise (· ≠ ·) := List.pairwise_map.mpr F.oa
      rw [← hmap] at h1
      exact List.pairwise_map.mp h1 }
end
end Mine
end

section
open PySem PySem.W PySem.Calls PyProof.Rows
set_option Elab.async false
set_option maxRecDepth 100000
set_option linter.unusedVariables false
namespace Mine

theorem setitem_k {prog : Program} {w : World} {A : Around} {E : Value → Shared → Prop} {s : Shared} {l : Addr} {vs : List Value} {n : Nat} {k : Int} {t : Tok} {v : Value} {Q : Unit → Shared → Prop} (ho : s.heap.get? l = some (lobj vs n)) (h0 : 0 ≤ k) (hfit : k < 2 ^ 63) (hn : k < vs.toArray.size)
    (hQ : ∀ h' n', h'.get? l = some (lobj (vs.set k.toNat v) n') → Heap.SameBut l s.heap h' → Q () { s with heap := h' }) : wpAny (model prog w) A (setItem (.ref l) (.int k t) v) Q E s := by
  have hl : s.heap.IsList l vs.toArray := ⟨_, ho, rfl, n, rfl⟩
  have hob : ∃ n', Obj.mapSeq (·.setIfInBounds k.toNat v) (lobj vs n) = lobj (vs.set k.toNat v) n' := by
    refine ⟨?_, ?_⟩
    rotate_left
    · show ({ cls := .type "list", data := .seq (vs.toArray.setIfInBounds k.toNat v) _ } : Obj) = { cls := .type "list", data := .seq (vs.set k.toNat v).toArray _ }
      rw [List.setIfInBounds_toArray]
  obtain ⟨n', hn'⟩ := hob
  have hfin : (s.heap.update l (Obj.mapSeq (·.setIfInBounds k.toNat v))).get? l = some (lobj (vs.set k.toNat v) n') := by
    rw [Heap.get?_update_self _ ho (by rw [hn']; rfl), hn']
  clear hn'
  unfold setItem
  try with_reducible refine wpAny_holding ?_
  first | refine wpAny_bind (wpAny_pure ?_) | skip
  refine wpAny_bind (wpAny_sequenceKey hl.typeIs (by decide) ?_)
  refine wpAny_bind (wpAny_callSpecial?_slot (name := Str.ofString "__setitem__") hl.typeIs slot_list_setitem
    (wpAny_call_entry slot_list_setitem hl.typeIs entry_list_setitem ?_ (args_list_setitem _ _ _)))
  show wpAny _ _ (Builtin.List.listSubscript? (.int k t) >>= _) _ _ s
  refine wpAny_bind (wpAny_listSubscript_int (fitsIndex_of h0 hfit) ?_)
  clear hfit
  obtain ⟨j, rfl⟩ := Int.eq_ofNat_of_zero_le h0
  have hj : j < vs.toArray.size := by omega
  have hx' : vs.toArray[j]? = some vs.toArray[j] := Array.getElem?_eq_getElem hj
  show wpAny _ _ ((seqItemAt l j >>= fun r => pure (r.map (j, ·))) >>= _) _ _ s
  refine wpAny_bind (wpAny_bind (wpAny_seqItemAt ho rfl (wpAny_pure ?_)))
  rw [hx']
  show wpAny _ _ (setSeqItemAt l j v >>= _) _ _ s
  refine wpAny_bind (wpAny_setSeqItemAt ho rfl ?_)
  first
    | exact wpAny_bind (wpAny_pure (wpAny_pure ⟨.none, rfl, wpAny_pure (hQ _ _ hfin (Heap.SameBut.update ..))⟩))
    | exact wpAny_pure ⟨.none, rfl, wpAny_pure (hQ _ _ hfin (Heap.SameBut.update ..))⟩
theorem setitem_at {prog : Program} {w : World} {A : Around} {E : Value → Shared → Prop} {s : Shared} {l : Addr} {vs : List Value} {n j : Nat} {t : Tok} {v : Value} {Q : Unit → Shared → Prop} (ho : s.heap.get? l = some (lobj vs n)) (hj : j < vs.length) (hle : vs.length ≤ 4096)
    (hQ : ∀ h' n', h'.get? l = some (lobj (vs.set j v) n') → Heap.SameBut l s.heap h' → Q () { s with heap := h' }) : wpAny (model prog w) A (setItem (.ref l) (.int (j : Int) t) v) Q E s :=
  setitem_k ho (by omega) (by omega) (by rw [List.size_toArray]; omega) hQ

section
variable {c : Cx} {σ σ₁ σ' : Sg} {ρ ρ₁ : Rh}

theorem Oks.set {φ : Hp} {v : Value} {d : D} (h : Ok φ v d) : ∀ {vs : List Value} {ds : List D} (j : Nat), Oks φ vs ds → Oks φ (vs.set j v) (ds.set j d)
  | _, _, _, .nil => .nil
  | _, _, 0, .cons _ r => .cons h r
  | _, _, j + 1, .cons a r => .cons a (Oks.set h j r)

/-- x[j] = e, x a list of the frame's own -/
theorem ex_setitem {x : Str} {px pos' pos pk : Pos} {k j : Nat} {value : Expr} {l : Addr} {ds : List D} {d : D} {i : Nat} (hx : Tv c σ ρ (eval (.Name x px) c.env) (.adr (.ref l))) (hm : σ[i]? = some (l, ds)) (hj : j < ds.length) (h : Tv c σ ρ (eval value c.env) d)
    (hs : swapsWith value (some (.Subscript (.Name x px) (.Constant (.int (j : Int)) k pk) pos')) pos.line c.env = pure false := by rfl) :
    Ex1 c σ ρ (.Assign [.Subscript (.Name x px) (.Constant (.int (j : Int)) k pk) pos'] value pos) (.next (σ.set i (l, ds.set j d)) ρ) := fun s F => by
  refine wpAny_Assign_Subscript (tv_then h F fun v s1 k1 F1 o1 => tv_then hx F1 fun ov s2 k2 F2 o2 => ?_) hs
  cases o2
  refine tv_then tv_int F2 fun iv s3 k3 F3 o3 => ?_
  cases o3 with
  | int _ u =>
  obtain ⟨hb, vs, n, hp, hlen, r⟩ := F3.ow _ (List.mem_of_getElem? hm)
  refine setitem_at hp (by rw [r.length]; exact hj) hlen fun h' n' hnew hsb => ?_
  have hk : ∀ b ob, b ≠ l → s3.heap.get? b = some ob → h'.get? b = some ob := hsb.extBut
  have nb : ∀ a, a = l → MM c σ a := fun a e => by subst e; exact .inr ⟨_, List.mem_of_getElem? hm, rfl⟩
  have o1' : Ok (Fz (MM c σ) s3.heap) v d := (o1.keeps k2.kp).keeps k3.kp
  have os : Oks (Fz (MM c σ) h') (vs.set j v) (ds.set j d) := (Oks.set o1' j r).mono fun a ob q => ⟨hk a ob (fun e => q.2 (nb a e)) q.1, q.2⟩
  obtain ⟨F4, kb4⟩ := F3.upd hm hk hnew (by rw [List.length_set]; exact hlen) os
  exact ⟨rfl, ((k1.sa.trans k2.sa).trans k3.sa).trans ⟨h', s3.toks, rfl⟩, set_map hm, F4, ((Kb.of_kp k1.kp).trans (.of_kp k2.kp)).trans ((Kb.of_kp k3.kp).trans kb4)⟩

/-- a block that returns, its own lists still seen -/
def ExsR (c : Cx) (σ : Sg) (ρ : Rh) (ss : List Stmt) (d : D) (σ' : Sg) : Prop := ∀ s, FR c σ s.heap ρ → wpAny (model P c.w) c.A (execs ss c.env) (fun fl s' => ∃ v ρ', fl = .ret v ∧ Sa s s' ∧ Ok (Fz (MM c σ') s'.heap) v d ∧ FR c σ' s'.heap ρ') No s
theorem exsR_ret {e : Expr} {pos : Pos} {rest : List Stmt} {d : D} (h : Tv c σ ρ (eval e c.env) d) : ExsR c σ ρ (.Return (some e) pos :: rest) d σ := fun s F =>
  wpAny_execs_cons (wpAny_Return_some (tv_then h F fun v s1 k1 F1 o1 => ⟨v, ρ, rfl, k1.sa, o1, F1⟩))
theorem exsR_cons {st : Stmt} {rest : List Stmt} {d : D} (h1 : Ex1 c σ ρ st (.next σ₁ ρ₁)) (h2 : ExsR c σ₁ ρ₁ rest d σ') : ExsR c σ ρ (st :: rest) d σ' := fun s F =>
  wpAny_execs_cons (wpAny_mono (h1 s F) (fun fl s1 q => by
    obtain ⟨rfl, a1, e1, F1, kb1⟩ := q
    exact wpAny_mono (h2 s1 F1) (fun fl s2 q => by
      obtain ⟨v, ρ', rfl, a2, o, F2⟩ := q
      exact ⟨v, ρ', rfl, a1.trans a2, o, F2⟩) fun _ _ x => x) fun _ _ x => x)
theorem exsR_if_t {test : Expr} {body orelse : List Stmt} {pos : Pos} {rest : List Stmt} {d : D} (ht : Tb c σ ρ (isTrue test c.env (eval test c.env)) true) (hb : ExsR c σ ρ body d σ') : ExsR c σ ρ (.If test body orelse pos :: rest) d σ' := fun s F =>
  wpAny_execs_cons (wpAny_If (wpAny_mono (ht s F) (fun t s1 q => by
    obtain ⟨rfl, k1⟩ := q
    exact wpAny_mono (hb s1 (F.keeps k1.kp)) (fun fl s2 q => by
      obtain ⟨v, ρ', rfl, a2, o, F2⟩ := q
      exact ⟨v, ρ', rfl, k1.sa.trans a2, o, F2⟩) fun _ _ x => x) fun _ _ x => x))

/-- a list of the caller's, as the callee's own -/
theorem FR.hide {h : Heap} {P : Addr} {vs : List Value} {n : Nat} {ds : List D} (F : FR c [] h ρ) (hP : c.M0 P) (hb : c.base.get? P = some (lobj vs n)) (hl : vs.length ≤ Bd) (os : Oks (Fz c.M0 c.base) vs ds) :
    FR { c with base := c.base.hide P, M0 := fun a => c.M0 a ∧ a ≠ P } [(P, ds)] h ρ := by
  have mm : ∀ a, MM { c with base := c.base.hide P, M0 := fun a => c.M0 a ∧ a ≠ P } [(P, ds)] a → MM c [] a := fun a m => by
    rcases m with m | ⟨p, hp, rfl⟩
    · exact .inl m.1
    · rw [List.mem_singleton.mp hp]; exact .inl hP
  have hg : c.g.get? P = none := (F.m0 P hP).1
  exact {
    gd := F.gd
    kg := fun b o e => by
      have hne : b ≠ P := fun q => by rw [q, hg] at e; cases e
      show (c.base.hide P).get? b = some o
      rw [Heap.hide_ne _ hne]; exact F.kg b o e
    kb := fun b o e => F.kb b o (Heap.of_hide e)
    m0 := fun a m => by
      obtain ⟨o, e⟩ := (F.m0 a m.1).2
      exact ⟨(F.m0 a m.1).1, o, by show (c.base.hide P).get? a = some o; rw [Heap.hide_ne _ m.2]; exact e⟩
    vars := let ⟨m, hn, hv⟩ := F.vars; ⟨m, hn, fun x d e => (hv x d e).keeps (fun _ _ q => q) fun v q => q.less mm⟩
    bl := by
      show (c.base.hide P).get? _ = none
      cases e : (c.base.hide P).get? c.env.locals with
      | none => rfl
      | some o => have := Heap.of_hide e; rw [F.bl] at this; cases this
    bc := fun q x k e => by
      show (c.base.hide P).get? k = none
      cases e' : (c.base.hide P).get? k with
      | none => rfl
      | some o => have := Heap.of_hide e'; rw [F.bc q x k e] at this; cases this
    cx := F.cx
    ca := F.ca
    ow := fun p hp => by
      rw [List.mem_singleton.mp hp]
      refine ⟨Heap.hide_self _ _, vs, n, F.kb _ _ hb, hl, (os.keeps F.kb).less fun a m => ?_⟩
      rcases mm a m with m | ⟨p, hp, _⟩
      · exact m
      · cases hp
    oa := List.pairwise_singleton _ _
    ek := F.ek
    eg := F.eg
    eb := F.eb
    ah := F.ah }
end
end Mine
end

section
open PySem PySem.W PySem.Calls PyProof.Rows
set_option Elab.async false
set_option maxRecDepth 100000
set_option linter.unusedVariables false
noncomputable section
namespace Mine

/-! the data behind a value -/
def sN (n : Nat) : Str := match nth sTab n with
  | some x => x
  | .none => ⟨(List.replicate n 0).toArray⟩
mutual
def dV : V → D
  | .none => .none
  | .bool b => .bool b
  | .int i => .int i
  | .str n => .str (sN n)
  | .tup l => .tup (dVs l)
  | .lst l => .lst (dVs l)
def dVs : List V → List D
  | [] => []
  | v :: r => dV v :: dVs r
end

theorem dVs_map : ∀ l : List V, dVs l = l.map dV
  | [] => by rw [dVs]; rfl
  | v :: r => by rw [dVs, dVs_map r]; rfl
theorem dVs_len (l : List V) : (dVs l).length = l.length := by rw [dVs_map, List.length_map]
theorem dVs_app (l m : List V) : dVs (l ++ m) = dVs l ++ dVs m := by simp only [dVs_map, List.map_append]
theorem dVs_take (k : Nat) (l : List V) : dVs (l.take k) = (dVs l).take k := by simp only [dVs_map, List.map_take]
theorem dVs_drop (k : Nat) (l : List V) : dVs (l.drop k) = (dVs l).drop k := by simp only [dVs_map, List.map_drop]
theorem dVs_rep (k : Nat) (v : V) : dVs (List.replicate k v) = List.replicate k (dV v) := by simp only [dVs_map, List.map_replicate]
theorem nth_get {α : Type} : ∀ (l : List α) (n : Nat), nth l n = l[n]?
  | [], n => by rw [nth_nil]; rfl
  | a :: r, 0 => by rw [nth_zero]; rfl
  | a :: r, n + 1 => by rw [nth_succ, nth_get r n]; rfl
theorem dVs_nth {l : List V} {n : Nat} {v : V} (h : nth l n = some v) : (dVs l)[n]? = some (dV v) := by
  rw [nth_get] at h
  rw [dVs_map, List.getElem?_map, h]; rfl

mutual
theorem dV_noadr : ∀ v : V, noadr (dV v) = true
  | .none => by rw [dV]; rfl
  | .bool b => by rw [dV]; rfl
  | .int i => by rw [dV]; rfl
  | .str n => by rw [dV]; rfl
  | .tup l => by rw [dV, noadr]; exact dVs_noadr l
  | .lst l => by rw [dV, noadr]; exact dVs_noadr l
theorem dVs_noadr : ∀ l : List V, noadrs (dVs l) = true
  | [] => by rw [dVs]; rfl
  | v :: r => by rw [dVs, noadrs, dV_noadr v, dVs_noadr r]; rfl
end

/-! equality -/
theorem eqI_eq (a b : Int) : eqI a b = (a == b) := by
  rw [Bool.eq_iff_iff, beq_iff_eq]
  cases a with
  | ofNat a => cases b with
    | ofNat b => simp only [eqI, Nat.beq_eq]; exact ⟨fun h => by rw [h], fun h => by cases h; rfl⟩
    | negSucc b => simp [eqI]
  | negSucc a => cases b with
    | ofNat b => simp [eqI]
    | negSucc b => simp only [eqI, Nat.beq_eq]; exact ⟨fun h => by rw [h], fun h => by cases h; rfl⟩

theorem sN_inj18 : ∀ a : Fin 18, ∀ b : Fin 18, (sN a == sN b) = Nat.beq a b := by decide +kernel
theorem sN_beq {a b : Nat} (ha : Nat.blt a 18 = true) (hb : Nat.blt b 18 = true) : (sN a == sN b) = Nat.beq a b :=
  sN_inj18 ⟨a, by simpa using ha⟩ ⟨b, by simpa using hb⟩
theorem sN_ok18 : ∀ a : Fin 18, (PyData.str (sN a)).canLay0 = true := by decide +kernel
theorem sN_ok {a : Nat} (ha : Nat.blt a 18 = true) : (PyData.str (sN a)).canLay0 = true := sN_ok18 ⟨a, by simpa using ha⟩

theorem allV_mem {f : V → Bool} : ∀ {l : List V}, allV f l = true → ∀ v ∈ l, f v = true
  | [], _, v, h => nomatch h
  | a :: r, h, v, hv => by
    simp only [allV] at h
    cases hf : f a with
    | false => rw [hf] at h; cases h
    | true =>
      rw [hf] at h
      rcases List.mem_cons.mp hv with rfl | hv
      · exact hf
      · exact allV_mem h v hv

theorem pys_map : ∀ l : List D, pys l = l.map py
  | [] => by rw [pys]; rfl
  | v :: r => by rw [pys, pys_map r]; rfl

theorem okV_lay : ∀ (n : Nat) (v : V), okV n v = true → (py (dV v)).canLay0 = true
  | 0, v, h => by cases h
  | n + 1, .none, h => by rw [dV, py]; rfl
  | n + 1, .bool _, h => by cases h
  | n + 1, .int _, h => by rw [dV, py]; rfl
  | n + 1, .str a, h => by rw [dV, py]; exact sN_ok h
  | n + 1, .tup l, h => by
    rw [dV, py, PyData.canLay0]
    have : ∀ l : List V, (∀ v ∈ l, okV n v = true) → PyData.canLayAll0 (pys (dVs l)) = true := by
      intro l
      induction l with
      | nil => intro _; rw [dVs, pys]; rfl
      | cons a r ih => intro hh; rw [dVs, pys, PyData.canLayAll0, okV_lay n a (hh a (.head _)), ih fun v hv => hh v (.tail _ hv)]; rfl
    exact this l (allV_mem h)
  | n + 1, .lst l, h => by
    rw [dV, py, PyData.canLay0]
    have : ∀ l : List V, (∀ v ∈ l, okV n v = true) → PyData.canLayAll0 (pys (dVs l)) = true := by
      intro l
      induction l with
      | nil => intro _; rw [dVs, pys]; rfl
      | cons a r ih => intro hh; rw [dVs, pys, PyData.canLayAll0, okV_lay n a (hh a (.head _)), ih fun v hv => hh v (.tail _ hv)]; rfl
    exact this l (allV_mem h)

theorem okV_depth : ∀ (n : Nat) (v : V), okV n v = true → (py (dV v)).depth ≤ n
  | 0, v, h => by cases h
  | n + 1, .none, h => by rw [dV, py]; simp [PyData.depth]
  | n + 1, .bool _, h => by cases h
  | n + 1, .int _, h => by rw [dV, py]; simp [PyData.depth]
  | n + 1, .str a, h => by rw [dV, py]; simp [PyData.depth]
  | n + 1, .tup l, h => by
    rw [dV, py, PyData.depth]
    have : ∀ l : List V, (∀ v ∈ l, okV n v = true) → PyData.depthAll (pys (dVs l)) ≤ n := by
      intro l
      induction l with
      | nil => intro _; rw [dVs, pys]; simp [PyData.depthAll]
      | cons a r ih =>
        intro hh
        rw [dVs, pys, PyData.depthAll]
        have h1 := okV_depth n a (hh a (.head _))
        have h2 := ih fun v hv => hh v (.tail _ hv)
        omega
    have := this l (allV_mem h)
    omega
  | n + 1, .lst l, h => by
    rw [dV, py, PyData.depth]
    have : ∀ l : List V, (∀ v ∈ l, okV n v = true) → PyData.depthAll (pys (dVs l)) ≤ n := by
      intro l
      induction l with
      | nil => intro _; rw [dVs, pys]; simp [PyData.depthAll]
      | cons a r ih =>
        intro hh
        rw [dVs, pys, PyData.depthAll]
        have h1 := okV_depth n a (hh a (.head _))
        have h2 := ih fun v hv => hh v (.tail _ hv)
        omega
    have := this l (allV_mem h)
    omega

theorem eqL_eqv {n : Nat} (ih : ∀ x y, okV n x = true → okV n y = true → PyData.eqv (py (dV x)) (py (dV y)) = eqN n x y) :
    ∀ (l m : List V), (∀ v ∈ l, okV n v = true) → (∀ v ∈ m, okV n v = true) → PyData.eqvAll (pys (dVs l)) (pys (dVs m)) = eqL (eqN n) l m
  | [], [], _, _ => by rw [dVs, pys]; rfl
  | [], b :: m, _, _ => by rw [dVs, dVs, pys, pys]; rfl
  | a :: l, [], _, _ => by rw [dVs, dVs, pys, pys]; rfl
  | a :: l, b :: m, h1, h2 => by
    rw [dVs, dVs, pys, pys, PyData.eqvAll, ih a b (h1 a (.head _)) (h2 b (.head _)), eqL_eqv ih l m (fun v hv => h1 v (.tail _ hv)) fun v hv => h2 v (.tail _ hv)]
    rw [eqL]
    cases eqN n a b <;> rfl

theorem eqN_eqv : ∀ (n : Nat) (x y : V), okV n x = true → okV n y = true → PyData.eqv (py (dV x)) (py (dV y)) = eqN n x y
  | 0, x, y, h, _ => by cases h
  | n + 1, x, y, hx, hy => by
    cases x <;> cases y <;> simp only [dV, py] <;> first
      | (exfalso; cases hx; done)
      | (exfalso; cases hy; done)
      | rfl
      | (rw [PyData.eqv]; exact (eqI_eq _ _).symm)
      | (rw [PyData.eqv]; exact sN_beq hx hy)
      | (rw [PyData.eqv]; exact eqL_eqv (eqN_eqv n) _ _ (allV_mem hx) (allV_mem hy))
end Mine
end
end

section
open PySem PySem.W PySem.Calls PyProof.Rows
set_option Elab.async false
set_option maxRecDepth 100000
set_option linter.unusedVariables false
noncomputable section
namespace Mine

section
variable {c : Cx} {σ : Sg} {ρ : Rh}

theorem smI_of {x : Int} (h : smI x = true) : Sm x := by
  simp only [smI] at h
  show x.natAbs < 1073741824
  simpa using h
theorem nz_of {x : Int} (h : nz x = true) : x ≠ 0 := fun e => by subst e; cases h

theorem cond_some {α : Type} {b : Bool} {x v : α} (h : (bif b then some x else .none) = some v) : b = true ∧ x = v := by
  cases b with
  | true => exact ⟨rfl, Option.some.inj h⟩
  | false => cases h

theorem snd_add {x y v : V} (h : oAdd x y = some v) : Op2 c σ ρ (binaryOp .Add) (dV x) (dV y) (dV v) := by
  cases x <;> cases y <;> first
    | (cases h; done)
    | (cases h; exact op_add)
    | (obtain ⟨hl, rfl⟩ := cond_some h
       simp only [dV, dVs_app]
       exact op_addl (by rw [dVs_len, dVs_len]; show _ ≤ 4096; simpa using hl))
theorem snd_sub {x y v : V} (h : oSub x y = some v) : Op2 c σ ρ (binaryOp .Sub) (dV x) (dV y) (dV v) := by
  cases x <;> cases y <;> first
    | (cases h; done)
    | (cases h; exact op_sub)
    | (cases h; exact op_subb)
theorem snd_mul {x y v : V} (h : oMul x y = some v) : Op2 c σ ρ (binaryOp .Mult) (dV x) (dV y) (dV v) := by
  unfold oMul at h
  split at h
  · obtain ⟨hl, rfl⟩ := cond_some h
    exact op_mul (smI_of hl)
  · rename_i d k
    obtain ⟨hl, rfl⟩ := cond_some h
    have hk : k ≤ 4096 := Nat.le_of_ble_eq_true hl
    simp only [dV, dVs, dVs_rep]
    exact op_rep (c := c) (σ := σ) (ρ := ρ) (d := dV d) (k := .ofNat k) (by show -1000000 ≤ ((k : Nat) : Int); omega) (by show ((k : Nat) : Int) ≤ 4096; omega)
  · rename_i d k
    obtain ⟨hl, rfl⟩ := cond_some h
    have hk : k ≤ 4096 := Nat.le_of_ble_eq_true hl
    simp only [dV, dVs]
    exact op_rep (c := c) (σ := σ) (ρ := ρ) (d := dV d) (k := .negSucc k) (by omega) (by omega)
  · cases h
theorem snd_div {x y v : V} (h : oDiv x y = some v) : Op2 c σ ρ (binaryOp .FloorDiv) (dV x) (dV y) (dV v) := by
  cases x <;> cases y <;> first
    | (cases h; done)
    | (obtain ⟨hl, rfl⟩ := cond_some h
       simp only [Bool.and_eq_true] at hl
       exact op_div (nz_of hl.1) (smI_of hl.2))
theorem snd_mod {x y v : V} (h : oMod x y = some v) : Op2 c σ ρ (binaryOp .Mod) (dV x) (dV y) (dV v) := by
  cases x <;> cases y <;> first
    | (cases h; done)
    | (obtain ⟨hl, rfl⟩ := cond_some h
       exact op_mod (nz_of hl))
theorem snd_pow {x y v : V} (h : oPow x y = some v) : Op2 c σ ρ (binaryOp .Pow) (dV x) (dV y) (dV v) := by
  unfold oPow at h
  split at h
  · rename_i a b
    obtain ⟨hl, rfl⟩ := cond_some h
    simp only [Bool.and_eq_true] at hl
    have hk : b ≤ 100000 := Nat.le_of_ble_eq_true hl.2
    exact op_pow (c := c) (σ := σ) (ρ := ρ) (a := a) (b := .ofNat b) (smI_of hl.1) (by show 0 ≤ ((b : Nat) : Int); omega) (by show ((b : Nat) : Int) ≤ 1000000; omega)
  · cases h
theorem snd_o2 {o : Operator} {x y v : V} (h : (o2 o).run x y = some v) : Op2 c σ ρ (binaryOp o) (dV x) (dV y) (dV v) := by
  cases o <;> first
    | exact snd_add h
    | exact snd_sub h
    | exact snd_mul h
    | exact snd_div h
    | exact snd_mod h
    | exact snd_pow h
    | cases h

theorem snd_veq {x y : V} {b : Bool} (hu : c.A.units + 64 < cLine) (h : veq x y = some b) :
    Op2 c σ ρ (compareOp .Eq) (dV x) (dV y) (.bool b) ∧ Op2 c σ ρ (compareOp .NotEq) (dV x) (dV y) (.bool (!b)) := by
  unfold veq at h
  split at h
  · cases h
    rw [eqI_eq]
    exact ⟨op_eqi, op_nei⟩
  · obtain ⟨hl, rfl⟩ := cond_some h
    simp only [Bool.and_eq_true] at hl
    rw [← sN_beq hl.1 hl.2]
    exact ⟨op_eqs, op_nes⟩
  · obtain ⟨hl, rfl⟩ := cond_some h
    simp only [Bool.and_eq_true] at hl
    rw [← eqN_eqv 9 x y hl.1 hl.2]
    have ok : ∀ v : V, okV 9 v = true → cmpOk (dV v) = true := fun v hv => by
      rw [cmpOk, dV_noadr, SeqAt.shaped, okV_lay 9 v hv]
      have := okV_depth 9 v hv
      simp only [Bool.true_and, decide_eq_true_eq]
      omega
    exact ⟨op_eq hu (ok x hl.1) (ok y hl.2), op_ne hu (ok x hl.1) (ok y hl.2)⟩

theorem snd_lt {x y v : V} (h : cLt x y = some v) : ∃ b, v = .bool b ∧ Op2 c σ ρ (compareOp .Lt) (dV x) (dV y) (.bool b) ∧ Op2 c σ ρ (compareOp .Gt) (dV y) (dV x) (.bool b) := by
  cases x <;> cases y <;> first
    | (cases h; done)
    | (cases h; exact ⟨_, rfl, op_lt, op_gt⟩)
theorem snd_le {x y v : V} (h : cLe x y = some v) : ∃ b, v = .bool b ∧ Op2 c σ ρ (compareOp .LtE) (dV x) (dV y) (.bool b) ∧ Op2 c σ ρ (compareOp .GtE) (dV y) (dV x) (.bool b) := by
  cases x <;> cases y <;> first
    | (cases h; done)
    | (cases h; exact ⟨_, rfl, op_le, op_ge⟩)

theorem op_notin {x a b : Str} (hu : c.A.units + 64 < cLine) (hx : (PyData.str x).canLay0 = true) (ha : (PyData.str a).canLay0 = true) (hb : (PyData.str b).canLay0 = true) :
    Op2 c σ ρ (compareOp .NotIn) (.str x) (.tup [.str a, .str b]) (.bool (!(a == x || b == x))) := fun s va vb F oa ob => by
  obtain ⟨as, ra⟩ := oa.reads rfl
  obtain ⟨bs, rb⟩ := ob.reads rfl
  simp only [py, pys] at ra rb
  have h1 := Nat.min_le_right (PyData.depthAll [PyData.str a, .str b]) (PyData.str x).depth
  have h2 : (PyData.str x).depth ≤ 1 := by simp [PyData.depth]
  refine SeqAt.notIn_tuple_reads rb ra (by simp only [PyData.canLayAll0, ha, hb]; rfl) hx (by omega) ?_
  simp only [List.any_cons, List.any_nil, Bool.or_false, PyData.eqv]
  exact ⟨Stp.refl _, .bool _⟩

theorem snd_c2 {o : CmpOp} {x y v : V} (hu : c.A.units + 64 < cLine) (h : (c2 o).run x y = some v) : ∃ b, v = .bool b ∧ Op2 c σ ρ (compareOp o) (dV x) (dV y) (.bool b) := by
  cases o with
  | Lt => obtain ⟨b, h1, h2, _⟩ := snd_lt (c := c) (σ := σ) (ρ := ρ) h; exact ⟨b, h1, h2⟩
  | Gt => obtain ⟨b, h1, _, h2⟩ := snd_lt (c := c) (σ := σ) (ρ := ρ) h; exact ⟨b, h1, h2⟩
  | LtE => obtain ⟨b, h1, h2, _⟩ := snd_le (c := c) (σ := σ) (ρ := ρ) h; exact ⟨b, h1, h2⟩
  | GtE => obtain ⟨b, h1, _, h2⟩ := snd_le (c := c) (σ := σ) (ρ := ρ) h; exact ⟨b, h1, h2⟩
  | Eq =>
    have h' : nB (veq x y) = some v := h
    cases e : veq x y with
    | none => rw [e] at h'; cases h'
    | some b => rw [e] at h'; cases h'; exact ⟨b, rfl, (snd_veq hu e).1⟩
  | NotEq =>
    have h' : nN (veq x y) = some v := h
    cases e : veq x y with
    | none => rw [e] at h'; cases h'
    | some b => rw [e] at h'; cases h'; exact ⟨!b, rfl, (snd_veq hu e).2⟩
  | Is =>
    have h' : cIs x y = some v := h
    cases x <;> cases y <;> first
      | (cases h'; done)
      | (cases h'; exact ⟨_, rfl, op_is_none⟩)
      | (cases h'; exact ⟨_, rfl, op_is_none_t⟩)
  | NotIn =>
    have h' : cNi x y = some v := h
    unfold cNi at h'
    split at h'
    · rename_i a b d
      obtain ⟨hl, rfl⟩ := cond_some h'
      simp only [Bool.and_eq_true] at hl
      refine ⟨_, rfl, ?_⟩
      rw [← sN_beq hl.1.2 hl.1.1, ← sN_beq hl.2 hl.1.1]
      exact op_notin hu (sN_ok hl.1.1) (sN_ok hl.1.2) (sN_ok hl.2)
    · cases h'
  | IsNot => cases h
  | In => cases h

/-! built-ins -/
theorem rng_cons (a : Int) (n : Nat) : rng a (n + 1) = .int a :: rng (a + 1) n := by
  simp only [rng, List.range_succ_eq_map, List.map_cons, List.map_map]
  congr 1
  · simp
  · apply List.map_congr_left
    intro i _
    simp only [Function.comp]
    congr 1
    push_cast
    omega
theorem vrange_rng : ∀ (n a : Nat), dVs (vrange a n) = rng a n
  | 0, a => by rw [vrange, dVs]; rfl
  | n + 1, a => by
    rw [vrange, dVs, vrange_rng n (a + 1), rng_cons]
    rfl
end
end Mine
end
end

section
open PySem PySem.W PySem.Calls PyProof.Rows
set_option Elab.async false
set_option maxRecDepth 100000
set_option linter.unusedVariables false
set_option linter.unusedSimpArgs false
noncomputable section
namespace Mine

/-! what the texts have to be, for the small language to speak of them -/
def eqS (o : Option Str) (x : Str) : Bool := match o with
  | some y => decide (y = x)
  | .none => false
theorem eqS_of {o : Option Str} {x : Str} (h : eqS o x = true) : o = some x := by
  cases o with
  | none => cases h
  | some y => rw [of_decide_eq_true h]
def eqK (o : Option NameKind) (k : NameKind) : Bool := decide (o = some k)
def gname (ns : List (Str × NameKind)) (x : Str) : Bool := eqK (ns.lookup x) .globalImplicit && !(x == ("__debug__" : Str))
def lname (x : Str) : Bool := !(x == ("__debug__" : Str)) && !(x == ("__classdict__" : Str))
def compOkB (sc : Scope) (x : Str) : Bool :=
  decide (sc.kind = .function) && sc.names.all (fun y => decide (y.2 ≠ .cell)) && sc.names.all (fun y => !decide (y.2 = .local) || eqK (sc.names.lookup y.1) .local) && eqK (sc.names.lookup x) .local && decide (sc.names.map (·.1)).Nodup
theorem compOk_of {sc : Scope} {x : Str} (h : compOkB sc x = true) : CompOk sc x := by
  simp only [compOkB, Bool.and_eq_true, decide_eq_true_eq, List.all_eq_true, eqK] at h
  obtain ⟨⟨⟨⟨h1, h2⟩, h3⟩, h4⟩, h5⟩ := h
  exact ⟨h1, h2, fun y hy hl => by have := h3 y hy; rw [hl] at this; simpa using this, h4, h5⟩

mutual
def chk (nms : List Str) (ns : List (Str × NameKind)) : E → Bool
  | .v x i _ => eqS (nth nms i) x && lname x
  | .gl x i _ => eqS (nth gNames i) x && gname ns x
  | .ci .. => true
  | .cs x i _ _ => decide (sN i = x)
  | .cn .. => true
  | .bin _ a b _ => chk nms ns a && chk nms ns b
  | .neg a _ => chk nms ns a
  | .cmp _ a b _ => chk nms ns a && chk nms ns b
  | .and l _ => chks nms ns l && !l.isEmpty
  | .or l _ => chks nms ns l
  | .tup l _ _ => chks nms ns l && Nat.ble l.length 4096
  | .lst l _ => chks nms ns l && Nat.ble l.length 4096
  | .sub a b _ => chk nms ns a && chk nms ns b
  | .upto a b _ _ => chk nms ns a && chk nms ns b
  | .frm a b _ _ => chk nms ns a && chk nms ns b
  | .ite c a b _ => chk nms ns c && chk nms ns a && chk nms ns b
  | .bc x f _ l _ => eqS (nth bNames f) x && gname ns x && chks nms ns l && !l.isEmpty
  | .fc x f _ l _ => eqS (nth fNames f) x && gname ns x && chks nms ns l && !l.isEmpty
  | .comp e x _ it sc caps _ => chk nms ns it && chk (x :: caps.map (·.1)) sc.names e && compOkB sc x &&
      caps.all (fun p => eqS (nth nms p.2) p.1 && decide ((p.1, .free) ∈ sc.names)) && sc.names.all (fun p => !decide (p.2 = .free) || eqK (ns.lookup p.1) .cell || eqK (ns.lookup p.1) .free)
  | .oth _ => false
def chks (nms : List Str) (ns : List (Str × NameKind)) : List E → Bool
  | [] => true
  | e :: r => chk nms ns e && chks nms ns r
end

structure EnvOk (c : Cx) (ns : List (Str × NameKind)) : Prop where
  kd : ∀ x k, ns.lookup x = some k → ∃ k', c.env.kindOf x = some k' ∧ (k ≠ .free → k' = k) ∧ (k = .free → k' = .cell ∨ k' = .free)
  cl : ∀ x, ns.lookup x = some .cell ∨ ns.lookup x = some .free → (c.env.cells.lookup x).isSome = true

structure Rel (nms : List Str) (ρ : List B) (σ : Sg) (R : Rh) : Prop where
  va : ∀ i x v, nth nms i = some x → lk ρ i = .va v → R.lookup x = some (dV v)
  ow : ∃ α : Nat → Addr, (∀ i x l, nth nms i = some x → lk ρ i = .ow l → R.lookup x = some (.adr (.ref (α i))) ∧ (α i, dVs l) ∈ σ) ∧
    (∀ i j l m, lk ρ i = .ow l → lk ρ j = .ow m → α i = α j → i = j)

structure Calls (W : Wd) (cf : Cf) (K : Nat) : Prop where
  fn : ∀ f vs v, cf f vs = some v → ∃ i, nth funs f = some i ∧ Fn W (fN (st i)) K (dVs vs) (dV v)

/-- what holds of a part of the text -/
structure PE (W : Wd) (cf : Cf) (K : Nat) (e : E) (c : Cx) (nms : List Str) (ns : List (Str × NameKind)) (σ : Sg) (ρ : List B) (R : Rh) : Prop where
  tv : ∀ v, (ce e).run cf ρ = some v → Tv c σ R (eval (den e) c.env) (dV v)
  tb : ∀ b, (ce e).run cf ρ = some (.bool b) → Tb c σ R (isTrue (den e) c.env (eval (den e) c.env)) b
  tt : ∀ b, (ct e).run cf ρ = some b → Tb c σ R (isTrue (den e) c.env (eval (den e) c.env)) b
  sr : ∀ l, (cr e).run cf ρ = some l → ∀ x p, Src c σ R (.Name x p) (eval (den e) c.env) (dVs l)
  sp : ∀ l, (crp e).run cf ρ = some l → ∀ es k p, Src c σ R (.Tuple es k p) (eval (den e) c.env) (dVs l)

abbrev AllE (W : Wd) (cf : Cf) (K : Nat) (e : E) : Prop := ∀ c nms ns σ ρ R, c.toWd = W → Rm c.A K → chk nms ns e = true → EnvOk c ns → Rel nms ρ σ R → PE W cf K e c nms ns σ ρ R

theorem b2_of {f : V → V → Option V} {a b : Option V} {v : V} (h : b2 f a b = some v) : ∃ x y, a = some x ∧ b = some y ∧ f x y = some v := by
  cases a with
  | none => cases h
  | some x => cases b with
    | none => cases h
    | some y => exact ⟨x, y, rfl, rfl, h⟩
theorem thenL_of {f : List V → Option V} {a : Option (List V)} {v : V} (h : thenL f a = some v) : ∃ l, a = some l ∧ f l = some v := by
  cases a with
  | none => cases h
  | some l => exact ⟨l, rfl, h⟩
theorem va_of {b : B} {v : V} (h : va b = some v) : b = .va v := by
  cases b <;> cases h; rfl
theorem asB_of {o : Option V} {b : Bool} (h : asB o = some b) : o = some (.bool b) := by
  unfold asB at h
  split at h
  · cases h; rfl
  · cases h
theorem ces_map : ∀ l : List E, ces l = l.map ce
  | [] => by rw [ces]; rfl
  | e :: r => by rw [ces, ces_map r]; rfl
theorem dens_map : ∀ l : List E, dens l = l.map den
  | [] => by rw [dens]; rfl
  | e :: r => by rw [dens, dens_map r]; rfl

theorem star_den {nms : List Str} {ns : List (Str × NameKind)} {e : E} {rest : List Expr} {env : Env} (h : chk nms ns e = true) : starEach (den e :: rest) env = (false, eval (den e) env) :: starEach rest env := by
  cases e <;> first
    | rfl
    | (exfalso; simp [chk] at h; done)
theorem sub_den {nms : List Str} {ns : List (Str × NameKind)} {e : E} {t : Addr} {k : Int} {u : Tok} (h : chk nms ns e = true) : subscripted (den e) false (.ref t) (.int k u) = operate [.ref t, .int k u] (getItem (.ref t) (.int k u)) := by
  cases e <;> first
    | rfl
    | (exfalso; simp [chk] at h; done)
theorem fold_den {nms : List Str} {ns : List (Str × NameKind)} {e : E} {env : Env} {x : Value} (h : chk nms ns e = true) : foldedSetIterable (den e) env x = pure x := by
  cases e <;> first
    | rfl
    | (exfalso; simp [chk] at h; done)
theorem marks_den {nms : List Str} {ns : List (Str × NameKind)} {e : E} {o : CmpOp} (h : chk nms ns e = true) : behindInMarks o (den e) = false := by
  cases e <;> first
    | rfl
    | (exfalso; simp [chk] at h; done)

section
variable {W : Wd} {cf : Cf} {K : Nat} {c : Cx} {nms : List Str} {ns : List (Str × NameKind)} {σ : Sg} {ρ : List B} {R : Rh}

theorem nosr {e : E} (h : ∀ ρ, (cr e).run cf ρ = .none) : ∀ l, (cr e).run cf ρ = some l → ∀ x p, Src c σ R (.Name x p) (eval (den e) c.env) (dVs l) := fun l q => by rw [h] at q; cases q
theorem nosp {e : E} (h : ∀ ρ, (crp e).run cf ρ = .none) : ∀ l, (crp e).run cf ρ = some l → ∀ es k p, Src c σ R (.Tuple es k p) (eval (den e) c.env) (dVs l) := fun l q => by rw [h] at q; cases q
theorem nott {e : E} (h : ∀ ρ, (ct e).run cf ρ = .none) : ∀ b, (ct e).run cf ρ = some b → Tb c σ R (isTrue (den e) c.env (eval (den e) c.env)) b := fun l q => by rw [h] at q; cases q

/-- a value that is no comparison: its truth -/
theorem plain_tb {e : E} (hv : ∀ v, (ce e).run cf ρ = some v → Tv c σ R (eval (den e) c.env) (dV v)) (he : isTrue (den e) c.env (eval (den e) c.env) = (do let v ← eval (den e) c.env; standAt (den e).pos; holding [v] (truthy v))) :
    ∀ b, (ce e).run cf ρ = some (.bool b) → Tb c σ R (isTrue (den e) c.env (eval (den e) c.env)) b := fun b q => tb_plain (by have := hv _ q; rw [dV] at this; exact this) he

theorem pe_plain {e : E} (hv : ∀ v, (ce e).run cf ρ = some v → Tv c σ R (eval (den e) c.env) (dV v))
    (he : isTrue (den e) c.env (eval (den e) c.env) = (do let v ← eval (den e) c.env; standAt (den e).pos; holding [v] (truthy v)))
    (h1 : ∀ ρ, (ct e).run cf ρ = .none) (h2 : ∀ ρ, (cr e).run cf ρ = .none) (h3 : ∀ ρ, (crp e).run cf ρ = .none) : PE W cf K e c nms ns σ ρ R :=
  ⟨hv, plain_tb hv he, nott h1, nosr h2, nosp h3⟩

theorem ns_glob {x : Str} (O : EnvOk c ns) (h : eqK (ns.lookup x) .globalImplicit = true) : c.env.kindOf x = some .globalImplicit := by
  obtain ⟨k', h1, h2, _⟩ := O.kd x .globalImplicit (of_decide_eq_true h)
  rw [h1, h2 (by decide)]

theorem src_of_lst {e : E} {v : V} {l : List V} (hv : Tv c σ R (eval (den e) c.env) (dV v)) (h : asL (some v) = some l) (x : Str) (p : Pos) : Src c σ R (.Name x p) (eval (den e) c.env) (dVs l) := by
  unfold asL at h
  split at h
  · rename_i o m e
    cases e
    obtain ⟨hl, rfl⟩ := cond_some h
    rw [dV] at hv
    exact src_list hv (by rw [dVs_len]; exact Nat.le_of_ble_eq_true hl) (.inl ⟨_, _, rfl⟩)
  · rename_i o m e
    cases e
    obtain ⟨hl, rfl⟩ := cond_some h
    rw [dV] at hv
    exact src_tuple hv (by rw [dVs_len]; exact Nat.le_of_ble_eq_true hl)
  · cases h

theorem pe_v (x : Str) (i : Nat) (p : Pos) : AllE W cf K (.v x i p) := fun c nms ns σ ρ R hW hr hc O L => by
  simp only [chk, lname, Bool.and_eq_true, Bool.not_eq_true'] at hc
  have hv : ∀ v, (ce (.v x i p)).run cf ρ = some v → Tv c σ R (eval (den (.v x i p)) c.env) (dV v) := fun v h => by
    have h' : va (lk ρ i) = some v := h
    exact tv_name (L.va i x v (eqS_of hc.1) (va_of h')) hc.2.1 hc.2.2
  refine ⟨hv, plain_tb hv rfl, nott fun _ => rfl, fun l h y q => ?_, fun l h es k q => ?_⟩
  · have h' : asL (va (lk ρ i)) = some l := h
    cases e : va (lk ρ i) with
    | none => rw [e] at h'; cases h'
    | some v => rw [e] at h'; exact src_of_lst (hv v e) h' y q
  · have h' : asLs (va (lk ρ i)) = some l := h
    cases e : va (lk ρ i) with
    | none => rw [e] at h'; cases h'
    | some v =>
      rw [e] at h'
      unfold asLs at h'
      split at h'
      · rename_i o m e'
        cases e'
        obtain ⟨hl, rfl⟩ := cond_some h'
        have := hv _ e
        rw [dV] at this
        exact src_list this (by rw [dVs_len]; exact Nat.le_of_ble_eq_true hl) (.inr ⟨_, _, _, rfl⟩)
      · cases h'

theorem gv_mem : ∀ (i : Nat) (x : Str) (v : V), nth gNames i = some x → nth gvals i = some v → (x, dV v) ∈ globs
  | 0, x, v, h1, h2 => by cases h1; cases h2; simp [globs, dV, dVs, qd, qv]
  | 1, x, v, h1, h2 => by cases h1; cases h2; simp [globs, dV, dVs, qd, qv]
  | 2, x, v, h1, h2 => by cases h1; cases h2; simp [globs, dV, dVs, qd, qv]
  | 3, x, v, h1, h2 => by cases h1; cases h2; simp [globs, dV, dVs, qd, qv]
  | 4, x, v, h1, h2 => by cases h1; cases h2; simp [globs, dV, dVs, qd, qv]
  | n + 5, x, v, h1, h2 => by cases h1

theorem pe_gl (gd : Gd W) (x : Str) (i : Nat) (p : Pos) : AllE W cf K (.gl x i p) := fun c nms ns σ ρ R hW hr hc O L => by
  simp only [chk, gname, Bool.and_eq_true, Bool.not_eq_true'] at hc
  subst hW
  refine pe_plain (fun v h => ?_) rfl (fun _ => rfl) (fun _ => rfl) (fun _ => rfl)
  exact tv_gv gd (gv_mem i x v (eqS_of hc.1) h) (ns_glob O hc.2.1) hc.2.2

theorem pe_ci (z : Int) (k : Nat) (p : Pos) : AllE W cf K (.ci z k p) := fun c nms ns σ ρ R hW hr hc O L =>
  pe_plain (fun v h => by cases h; exact tv_int) rfl (fun _ => rfl) (fun _ => rfl) (fun _ => rfl)
theorem pe_cs (x : Str) (i k : Nat) (p : Pos) : AllE W cf K (.cs x i k p) := fun c nms ns σ ρ R hW hr hc O L =>
  pe_plain (fun v h => by
    have e : sN i = x := of_decide_eq_true (by simpa only [chk] using hc)
    cases h
    rw [dV, e]
    exact tv_str) rfl (fun _ => rfl) (fun _ => rfl) (fun _ => rfl)
theorem pe_cn (k : Nat) (p : Pos) : AllE W cf K (.cn k p) := fun c nms ns σ ρ R hW hr hc O L =>
  pe_plain (fun v h => by cases h; exact tv_none) rfl (fun _ => rfl) (fun _ => rfl) (fun _ => rfl)

theorem pe_bin {o : Operator} {a b : E} {p : Pos} (ha : AllE W cf K a) (hb : AllE W cf K b) : AllE W cf K (.bin o a b p) := fun c nms ns σ ρ R hW hr hc O L => by
  simp only [chk, Bool.and_eq_true] at hc
  refine pe_plain (fun v h => ?_) rfl (fun _ => rfl) (fun _ => rfl) (fun _ => rfl)
  obtain ⟨x, y, h1, h2, h3⟩ := b2_of (show b2 (o2 o).run ((ce a).run cf ρ) ((ce b).run cf ρ) = some v from h)
  exact tv_bin ((ha c nms ns σ ρ R hW hr hc.1 O L).tv x h1) ((hb c nms ns σ ρ R hW hr hc.2 O L).tv y h2) (snd_o2 h3)

theorem pe_neg {a : E} {p : Pos} (ha : AllE W cf K a) : AllE W cf K (.neg a p) := fun c nms ns σ ρ R hW hr hc O L => by
  simp only [chk] at hc
  refine pe_plain (fun v h => ?_) rfl (fun _ => rfl) (fun _ => rfl) (fun _ => rfl)
  have h' : neg1 ((ce a).run cf ρ) = some v := h
  cases e : (ce a).run cf ρ with
  | none => rw [e] at h'; cases h'
  | some x =>
    rw [e] at h'
    cases x <;> first
      | (cases h'; done)
      | (cases h'
         have := (ha c nms ns σ ρ R hW hr hc O L).tv _ e
         rw [dV] at this
         exact tv_un this op_neg)

theorem units_of (hr : Rm c.A K) : c.A.units + 64 < cLine := by have := hr.un; omega

theorem pe_cmp {o : CmpOp} {a b : E} {p : Pos} (ha : AllE W cf K a) (hb : AllE W cf K b) : AllE W cf K (.cmp o a b p) := fun c nms ns σ ρ R hW hr hc O L => by
  simp only [chk, Bool.and_eq_true] at hc
  have key : ∀ v, b2 (c2 o).run ((ce a).run cf ρ) ((ce b).run cf ρ) = some v → ∃ t, v = .bool t ∧ Tv c σ R (eval (den (.cmp o a b p)) c.env) (.bool t) ∧ Tb c σ R (isTrue (den (.cmp o a b p)) c.env (eval (den (.cmp o a b p)) c.env)) t := fun v h => by
    obtain ⟨x, y, h1, h2, h3⟩ := b2_of h
    obtain ⟨t, rfl, h4⟩ := snd_c2 (c := c) (σ := σ) (ρ := R) (units_of hr) h3
    have ta := (ha c nms ns σ ρ R hW hr hc.1 O L).tv x h1
    have tb := (hb c nms ns σ ρ R hW hr hc.2 O L).tv y h2
    exact ⟨t, rfl, tv_cmp ta tb h4 (marks_den hc.2), tb_cmp ta tb h4 (marks_den hc.2)⟩
  refine ⟨fun v h => ?_, fun t h => ?_, fun t h => ?_, nosr fun _ => rfl, nosp fun _ => rfl⟩
  · obtain ⟨t, rfl, h1, _⟩ := key v h; exact h1
  · obtain ⟨t', e, _, h1⟩ := key _ h; cases e; exact h1
  · obtain ⟨t', e, _, h1⟩ := key _ (asB_of h); cases e; exact h1

theorem seq_idx {n len : Nat} (h : n < len) : seqIndex? (.ofNat n) len = some n := by
  unfold seqIndex?
  have h1 : ¬ ((Int.ofNat n) < 0) := by show ¬ (((n : Nat) : Int) < 0); omega
  simp only [h1, if_false]
  have h2 : (decide (0 ≤ Int.ofNat n) && decide (Int.ofNat n < (len : Int))) = true := by
    simp only [Bool.and_eq_true, decide_eq_true_eq]
    exact ⟨by show 0 ≤ ((n : Nat) : Int); omega, by show ((n : Nat) : Int) < len; omega⟩
  rw [if_pos h2]; rfl

theorem snd_item {va sl : Expr} {x y v : V} (hs : ∀ t (k : Int) u, subscripted sl false (.ref t) (.int k u) = operate [.ref t, .int k u] (getItem (.ref t) (.int k u))) (h : item x y = some v) : Op2 c σ R (subscriptTail va sl) (dV x) (dV y) (dV v) := by
  unfold item at h
  split at h
  · rename_i l k
    cases hl : Nat.ble k 4096 with
    | false => rw [hl] at h; cases h
    | true =>
      rw [hl] at h
      have hk : k ≤ 4096 := Nat.le_of_ble_eq_true hl
      have hg := dVs_nth (show nth l k = some v from h)
      have hlt : k < (dVs l).length := (List.getElem?_eq_some_iff.mp hg).1
      simp only [dV]
      exact op_item_t (by show -1000000 ≤ ((k : Nat) : Int); omega) (by show ((k : Nat) : Int) ≤ 1000000; omega) (seq_idx hlt) hg (fun t u => hs t _ u)
  · rename_i l k
    have hg := dVs_nth (show nth l k = some v from h)
    simp only [dV]
    exact op_item_l (by show 0 ≤ ((k : Nat) : Int); omega) hg (fun t u => hs t _ u)
  · cases h

theorem sub_tv {a b : E} {p : Pos} (ha : AllE W cf K a) (hb : AllE W cf K b) (hW : c.toWd = W) (hr : Rm c.A K) (hca : chk nms ns a = true) (hcb : chk nms ns b = true) (O : EnvOk c ns) (L : Rel nms ρ σ R) {v : V}
    (h : b2 item ((ce a).run cf ρ) ((ce b).run cf ρ) = some v) : Tv c σ R (eval (.Subscript (den a) (den b) p) c.env) (dV v) := by
  obtain ⟨x, y, h1, h2, h3⟩ := b2_of h
  exact tv_sub ((ha c nms ns σ ρ R hW hr hca O L).tv x h1) ((hb c nms ns σ ρ R hW hr hcb O L).tv y h2) (snd_item (fun t k u => sub_den hcb) h3)

theorem pe_sub {a b : E} {p : Pos} (ha : AllE W cf K a) (hb : AllE W cf K b) : AllE W cf K (.sub a b p) := fun c nms ns σ ρ R hW hr hc O L => by
  simp only [chk, Bool.and_eq_true] at hc
  have hv : ∀ v, (ce (.sub a b p)).run cf ρ = some v → Tv c σ R (eval (den (.sub a b p)) c.env) (dV v) := fun v h => by
    by_cases hcase : ∃ x i q, a = .v x i q
    · obtain ⟨x, i, q, rfl⟩ := hcase
      have h' : itemB ((ce b).run cf ρ) (lk ρ i) = some v := h
      cases e : lk ρ i with
      | un => rw [e] at h'; cases h'
      | va w =>
        rw [e] at h'
        refine sub_tv ha hb hW hr hc.1 hc.2 O L (v := v) ?_
        show b2 item (va (lk ρ i)) _ = _
        rw [e]; exact h'
      | ow l =>
        rw [e] at h'
        obtain ⟨x', y, h1, h2, h3⟩ := b2_of (show b2 item (some (.lst l)) ((ce b).run cf ρ) = some v from h')
        cases h1
        have hc1 := hc.1
        simp only [chk, lname, Bool.and_eq_true, Bool.not_eq_true'] at hc1
        obtain ⟨α, hα, _⟩ := L.ow
        obtain ⟨hl, hm⟩ := hα i x l (eqS_of hc1.1) e
        unfold item at h3
        split at h3
        · rename_i e'; cases e'
        · rename_i l' k e' 
          cases e'
          have hg := dVs_nth (show nth l k = some v from h3)
          have tb := (hb c nms ns σ ρ R hW hr hc.2 O L).tv _ h2
          rw [dV] at tb
          exact tv_sub (tv_name hl hc1.2.1 hc1.2.2) tb (op_item_own hm (by show 0 ≤ ((k : Nat) : Int); omega) hg (fun t u => sub_den hc.2))
        · cases h3
    · refine sub_tv ha hb hW hr hc.1 hc.2 O L (v := v) ?_
      cases a <;> first
        | exact h
        | exact absurd ⟨_, _, _, rfl⟩ hcase
  refine ⟨hv, plain_tb hv rfl, nott fun _ => rfl, fun l h x q => ?_, nosp fun _ => rfl⟩
  have h' : asL (b2 item ((ce a).run cf ρ) ((ce b).run cf ρ)) = some l := h
  cases e : b2 item ((ce a).run cf ρ) ((ce b).run cf ρ) with
  | none => rw [e] at h'; cases h'
  | some v =>
    rw [e] at h'
    exact src_of_lst (e := .sub a b p) (sub_tv ha hb hW hr hc.1 hc.2 O L e) h' x q

theorem pe_upto {a b : E} {q p : Pos} (ha : AllE W cf K a) (hb : AllE W cf K b) : AllE W cf K (.upto a b q p) := fun c nms ns σ ρ R hW hr hc O L => by
  simp only [chk, Bool.and_eq_true] at hc
  refine pe_plain (fun v h => ?_) rfl (fun _ => rfl) (fun _ => rfl) (fun _ => rfl)
  obtain ⟨x, y, h1, h2, h3⟩ := b2_of (show b2 sUp ((ce a).run cf ρ) ((ce b).run cf ρ) = some v from h)
  have ta := (ha c nms ns σ ρ R hW hr hc.1 O L).tv x h1
  have tb := (hb c nms ns σ ρ R hW hr hc.2 O L).tv y h2
  unfold sUp at h3
  split at h3
  · rename_i l k
    cases h3
    simp only [dV] at ta tb ⊢
    rw [dVs_take]
    exact slice_to ta tb (by show 0 ≤ ((k : Nat) : Int); omega)
  · cases h3
theorem frm_tv {a b : E} {q p : Pos} (ha : AllE W cf K a) (hb : AllE W cf K b) (hW : c.toWd = W) (hr : Rm c.A K) (hca : chk nms ns a = true) (hcb : chk nms ns b = true) (O : EnvOk c ns) (L : Rel nms ρ σ R) {v : V}
    (h : b2 sFr ((ce a).run cf ρ) ((ce b).run cf ρ) = some v) : Tv c σ R (eval (den (.frm a b q p)) c.env) (dV v) := by
  obtain ⟨x, y, h1, h2, h3⟩ := b2_of h
  have ta := (ha c nms ns σ ρ R hW hr hca O L).tv x h1
  have tb := (hb c nms ns σ ρ R hW hr hcb O L).tv y h2
  unfold sFr at h3
  split at h3
  · rename_i l k
    cases h3
    simp only [dV] at ta tb ⊢
    rw [dVs_drop]
    exact slice_from ta tb (by show 0 ≤ ((k : Nat) : Int); omega)
  · cases h3
theorem pe_frm {a b : E} {q p : Pos} (ha : AllE W cf K a) (hb : AllE W cf K b) : AllE W cf K (.frm a b q p) := fun c nms ns σ ρ R hW hr hc O L => by
  simp only [chk, Bool.and_eq_true] at hc
  have hv : ∀ v, (ce (.frm a b q p)).run cf ρ = some v → Tv c σ R (eval (den (.frm a b q p)) c.env) (dV v) := fun v h => frm_tv ha hb hW hr hc.1 hc.2 O L h
  refine ⟨hv, plain_tb hv rfl, nott fun _ => rfl, fun l h x q' => ?_, nosp fun _ => rfl⟩
  have h' : asL (b2 sFr ((ce a).run cf ρ) ((ce b).run cf ρ)) = some l := h
  cases e : b2 sFr ((ce a).run cf ρ) ((ce b).run cf ρ) with
  | none => rw [e] at h'; cases h'
  | some v =>
    rw [e] at h'
    exact src_of_lst (e := .frm a b q p) (hv v e) h' x q'

theorem pe_ite {t a b : E} {p : Pos} (ht : AllE W cf K t) (ha : AllE W cf K a) (hb : AllE W cf K b) : AllE W cf K (.ite t a b p) := fun c nms ns σ ρ R hW hr hc O L => by
  simp only [chk, Bool.and_eq_true] at hc
  have key : ∀ v, (ce (.ite t a b p)).run cf ρ = some v → ((ct t).run cf ρ = some true ∧ (ce a).run cf ρ = some v) ∨ ((ct t).run cf ρ = some false ∧ (ce b).run cf ρ = some v) := fun v h => by
    have h' : iteC (ce a) (ce b) cf ρ ((ct t).run cf ρ) = some v := h
    cases e : (ct t).run cf ρ with
    | none => rw [e] at h'; cases h'
    | some d =>
      rw [e] at h'
      cases d with
      | true => exact .inl ⟨rfl, h'⟩
      | false => exact .inr ⟨rfl, h'⟩
  refine ⟨fun v h => ?_, fun d h => ?_, nott fun _ => rfl, nosr fun _ => rfl, nosp fun _ => rfl⟩
  · rcases key v h with ⟨e, h'⟩ | ⟨e, h'⟩
    · exact tv_if_t ((ht c nms ns σ ρ R hW hr hc.1.1 O L).tt _ e) ((ha c nms ns σ ρ R hW hr hc.1.2 O L).tv v h')
    · exact tv_if_f ((ht c nms ns σ ρ R hW hr hc.1.1 O L).tt _ e) ((hb c nms ns σ ρ R hW hr hc.2 O L).tv v h')
  · intro s F
    refine isTrue_IfExp ?_
    rcases key _ h with ⟨e, h'⟩ | ⟨e, h'⟩
    · refine wpAny_mono ((ht c nms ns σ ρ R hW hr hc.1.1 O L).tt _ e s F) (fun t' s1 q => ?_) fun _ _ x => x
      obtain ⟨rfl, k1⟩ := q
      exact wpAny_mono ((ha c nms ns σ ρ R hW hr hc.1.2 O L).tb d h' s1 (F.keeps k1.kp)) (fun b' s2 q => ⟨q.1, k1.trans q.2⟩) fun _ _ x => x
    · refine wpAny_mono ((ht c nms ns σ ρ R hW hr hc.1.1 O L).tt _ e s F) (fun t' s1 q => ?_) fun _ _ x => x
      obtain ⟨rfl, k1⟩ := q
      exact wpAny_mono ((hb c nms ns σ ρ R hW hr hc.2 O L).tb d h' s1 (F.keeps k1.kp)) (fun b' s2 q => ⟨q.1, k1.trans q.2⟩) fun _ _ x => x

/-! lists of parts -/
theorem ts_map : ∀ {l : List E} {vs : List V} {pos : Pos}, (∀ e ∈ l, AllE W cf K e) → c.toWd = W → Rm c.A K → chks nms ns l = true → EnvOk c ns → Rel nms ρ σ R → mapC cf ρ (ces l) = some vs →
    Ts c σ R (spliced (backTo pos (starEach (dens l) c.env))) (dVs vs)
  | [], vs, pos, _, hW, hr, hc, O, L, h => by
    rw [ces] at h; cases h
    rw [dens, dVs]; exact ts_nil
  | e :: r, vs, pos, hl, hW, hr, hc, O, L, h => by
    rw [chks, Bool.and_eq_true] at hc
    rw [ces] at h
    have h' : consO ((ce e).run cf ρ) (mapC cf ρ (ces r)) = some vs := h
    cases e1 : (ce e).run cf ρ with
    | none => rw [e1] at h'; cases h'
    | some x =>
      cases e2 : mapC cf ρ (ces r) with
      | none => rw [e1, e2] at h'; cases h'
      | some xs =>
        rw [e1, e2] at h'; cases h'
        rw [dens, dVs]
        exact ts_cons ((hl e (.head _) c nms ns σ ρ R hW hr hc.1 O L).tv x e1) (ts_map (fun e he => hl e (.tail _ he)) hW hr hc.2 O L e2) (star_den hc.1)
theorem mapC_len : ∀ {l : List E} {vs : List V}, mapC cf ρ (ces l) = some vs → vs.length = l.length
  | [], vs, h => by rw [ces] at h; cases h; rfl
  | e :: r, vs, h => by
    rw [ces] at h
    have h' : consO ((ce e).run cf ρ) (mapC cf ρ (ces r)) = some vs := h
    cases e1 : (ce e).run cf ρ with
    | none => rw [e1] at h'; cases h'
    | some x =>
      cases e2 : mapC cf ρ (ces r) with
      | none => rw [e1, e2] at h'; cases h'
      | some xs =>
        rw [e1, e2] at h'; cases h'
        rw [List.length_cons, List.length_cons, mapC_len e2]

theorem tup_tv {l : List E} {k : Nat} {p : Pos} {vs : List V} (hl : ∀ e ∈ l, AllE W cf K e) (hW : c.toWd = W) (hr : Rm c.A K) (hc : chk nms ns (.tup l k p) = true) (O : EnvOk c ns) (L : Rel nms ρ σ R) (h : mapC cf ρ (ces l) = some vs) :
    Tv c σ R (eval (den (.tup l k p)) c.env) (.tup (dVs vs)) := by
  simp only [chk, Bool.and_eq_true] at hc
  exact tv_tuple (ts_map hl hW hr hc.1 O L h) (by rw [dVs_len, mapC_len h]; exact Nat.le_of_ble_eq_true hc.2)
theorem pe_tup {l : List E} {k : Nat} {p : Pos} (hl : ∀ e ∈ l, AllE W cf K e) : AllE W cf K (.tup l k p) := fun c nms ns σ ρ R hW hr hc O L => by
  have hv : ∀ v, (ce (.tup l k p)).run cf ρ = some v → Tv c σ R (eval (den (.tup l k p)) c.env) (dV v) := fun v h => by
    obtain ⟨vs, h1, h2⟩ := thenL_of (show thenL (fun l => some (.tup l)) (mapC cf ρ (ces l)) = some v from h)
    cases h2
    rw [dV]; exact tup_tv hl hW hr hc O L h1
  refine ⟨hv, plain_tb hv rfl, nott fun _ => rfl, fun m h x q => ?_, nosp fun _ => rfl⟩
  have hc' := hc
  simp only [chk, Bool.and_eq_true] at hc'
  exact src_tuple (tup_tv hl hW hr hc O L h) (by rw [dVs_len, mapC_len h]; exact Nat.le_of_ble_eq_true hc'.2)
theorem pe_lst {l : List E} {p : Pos} (hl : ∀ e ∈ l, AllE W cf K e) : AllE W cf K (.lst l p) := fun c nms ns σ ρ R hW hr hc O L => by
  simp only [chk, Bool.and_eq_true] at hc
  refine pe_plain (fun v h => ?_) rfl (fun _ => rfl) (fun _ => rfl) (fun _ => rfl)
  obtain ⟨vs, h1, h2⟩ := thenL_of (show thenL (fun l => some (.lst l)) (mapC cf ρ (ces l)) = some v from h)
  cases h2
  rw [dV]
  exact tv_list (ts_map hl hW hr hc.1 O L h1) (by rw [dVs_len, mapC_len h1]; exact Nat.le_of_ble_eq_true hc.2)

theorem and_tb : ∀ {l : List E} {b : Bool} {p : Pos} {whole : Sem Value}, (∀ e ∈ l, AllE W cf K e) → c.toWd = W → Rm c.A K → chks nms ns l = true → EnvOk c ns → Rel nms ρ σ R → andC cf ρ (ces l) = some b →
    Tb c σ R (isTrue (.BoolOp .And (dens l) p) c.env whole) b
  | [], b, p, whole, _, hW, hr, hc, O, L, h => by
    rw [ces] at h; cases h
    rw [dens]; exact tb_and_nil
  | e :: r, b, p, whole, hl, hW, hr, hc, O, L, h => by
    rw [chks, Bool.and_eq_true] at hc
    rw [ces] at h
    rw [dens]
    simp only [andC] at h
    split at h
    · rename_i e1
      exact tb_and ((hl e (.head _) c nms ns σ ρ R hW hr hc.1 O L).tb true e1) (fun _ => and_tb (fun e he => hl e (.tail _ he)) hW hr hc.2 O L h) (fun q => by cases q)
    · rename_i e1
      cases h
      exact tb_and ((hl e (.head _) c nms ns σ ρ R hW hr hc.1 O L).tb false e1) (fun q => by cases q) (fun _ => rfl)
    · cases h
theorem or_tb : ∀ {l : List E} {b : Bool} {p : Pos} {whole : Sem Value}, (∀ e ∈ l, AllE W cf K e) → c.toWd = W → Rm c.A K → chks nms ns l = true → EnvOk c ns → Rel nms ρ σ R → orC cf ρ (ces l) = some b →
    Tb c σ R (isTrue (.BoolOp .Or (dens l) p) c.env whole) b
  | [], b, p, whole, _, hW, hr, hc, O, L, h => by
    rw [ces] at h; cases h
    rw [dens]; exact tb_or_nil
  | e :: r, b, p, whole, hl, hW, hr, hc, O, L, h => by
    rw [chks, Bool.and_eq_true] at hc
    rw [ces] at h
    rw [dens]
    simp only [orC] at h
    split at h
    · rename_i e1
      exact tb_or ((hl e (.head _) c nms ns σ ρ R hW hr hc.1 O L).tb false e1) (fun _ => or_tb (fun e he => hl e (.tail _ he)) hW hr hc.2 O L h) (fun q => by cases q)
    · rename_i e1
      cases h
      exact tb_or ((hl e (.head _) c nms ns σ ρ R hW hr hc.1 O L).tb true e1) (fun q => by cases q) (fun _ => rfl)
    · cases h
theorem and_tv : ∀ {l : List E} {b : Bool} {p : Pos}, (∀ e ∈ l, AllE W cf K e) → c.toWd = W → Rm c.A K → chks nms ns l = true → l.isEmpty = false → EnvOk c ns → Rel nms ρ σ R → andC cf ρ (ces l) = some b →
    Tv c σ R (eval (.BoolOp .And (dens l) p) c.env) (.bool b)
  | [], b, p, _, hW, hr, hc, hne, O, L, h => by cases hne
  | [e], b, p, hl, hW, hr, hc, _, O, L, h => by
    rw [chks, Bool.and_eq_true] at hc
    rw [ces, ces] at h
    rw [dens, dens]
    simp only [andC] at h
    refine tv_bool1 ?_
    split at h
    · rename_i e1
      cases h
      exact (hl e (.head _) c nms ns σ ρ R hW hr hc.1 O L).tv _ e1
    · rename_i e1
      cases h
      exact (hl e (.head _) c nms ns σ ρ R hW hr hc.1 O L).tv _ e1
    · cases h
  | e :: e' :: r, b, p, hl, hW, hr, hc, _, O, L, h => by
    rw [chks, Bool.and_eq_true] at hc
    rw [ces] at h
    rw [dens, dens]
    rw [andC] at h
    split at h
    · rename_i e1
      have := and_tv (l := e' :: r) (p := p) (fun e he => hl e (.tail _ he)) hW hr hc.2 rfl O L h
      rw [dens] at this
      exact tv_and (t := true) ((hl e (.head _) c nms ns σ ρ R hW hr hc.1 O L).tv _ e1) (fun _ => this) (fun q => by cases q)
    · rename_i e1
      cases h
      exact tv_and (t := false) ((hl e (.head _) c nms ns σ ρ R hW hr hc.1 O L).tv _ e1) (fun q => by cases q) (fun _ => rfl)
    · cases h

theorem pe_and {l : List E} {p : Pos} (hl : ∀ e ∈ l, AllE W cf K e) : AllE W cf K (.and l p) := fun c nms ns σ ρ R hW hr hc O L => by
  simp only [chk, Bool.and_eq_true, Bool.not_eq_true'] at hc
  have hb : ∀ v, (ce (.and l p)).run cf ρ = some v → ∃ b, v = .bool b ∧ andC cf ρ (ces l) = some b := fun v h => by
    have h' : nB (andC cf ρ (ces l)) = some v := h
    cases e : andC cf ρ (ces l) with
    | none => rw [e] at h'; cases h'
    | some b => rw [e] at h'; cases h'; exact ⟨b, rfl, rfl⟩
  refine ⟨fun v h => ?_, fun b h => ?_, fun b h => ?_, nosr fun _ => rfl, nosp fun _ => rfl⟩
  · obtain ⟨b, rfl, h1⟩ := hb v h; exact and_tv hl hW hr hc.1 hc.2 O L h1
  · obtain ⟨b', e, h1⟩ := hb _ h; cases e; exact and_tb hl hW hr hc.1 O L h1
  · exact and_tb hl hW hr hc.1 O L h
theorem pe_or {l : List E} {p : Pos} (hl : ∀ e ∈ l, AllE W cf K e) : AllE W cf K (.or l p) := fun c nms ns σ ρ R hW hr hc O L => by
  simp only [chk] at hc
  exact ⟨fun v h => (by cases h), fun b h => (by cases h), fun b h => or_tb hl hW hr hc O L h, nosr fun _ => rfl, nosp fun _ => rfl⟩

/-! calls -/
theorem fNames_nth : ∀ (l : List Nat) (f : Nat) (x : Str) (i : Nat), nth (l.map fun i => fN (st i)) f = some x → nth l f = some i → x = fN (st i)
  | [], f, x, i, h, _ => by cases h
  | a :: r, 0, x, i, h, q => by cases h; cases q; rfl
  | a :: r, f + 1, x, i, h, q => fNames_nth r f x i h q

theorem fc_tv (hcf : Calls W cf K) {x : Str} {f : Nat} {q : Pos} {l : List E} {p : Pos} (hl : ∀ e ∈ l, AllE W cf K e) (hW : c.toWd = W) (hr : Rm c.A K) (hc : chk nms ns (.fc x f q l p) = true) (O : EnvOk c ns) (L : Rel nms ρ σ R) {v : V}
    (h : thenL (cf f) (mapC cf ρ (ces l)) = some v) : Tv c σ R (eval (den (.fc x f q l p)) c.env) (dV v) := by
  simp only [chk, gname, Bool.and_eq_true, Bool.not_eq_true'] at hc
  obtain ⟨vs, h1, h2⟩ := thenL_of h
  obtain ⟨i, hi, F⟩ := hcf.fn f vs v h2
  have e := fNames_nth funs f x i (eqS_of hc.1.1.1) hi
  subst hW
  cases l with
  | nil => cases hc.2
  | cons a r =>
    have hcs := hc.1.2
    rw [chks, Bool.and_eq_true] at hcs
    have ts := ts_map (pos := p) hl rfl hr hc.1.2 O L h1
    rw [dens] at ts
    rw [den, dens]
    rw [← e] at F
    exact tv_fn F hr ts (ns_glob O hc.1.1.2.1) hc.1.1.2.2 rfl (star_den hcs.1)
theorem pe_fc (hcf : Calls W cf K) {x : Str} {f : Nat} {q : Pos} {l : List E} {p : Pos} (hl : ∀ e ∈ l, AllE W cf K e) : AllE W cf K (.fc x f q l p) := fun c nms ns σ ρ R hW hr hc O L => by
  have hv : ∀ v, (ce (.fc x f q l p)).run cf ρ = some v → Tv c σ R (eval (den (.fc x f q l p)) c.env) (dV v) := fun v h => fc_tv hcf hl hW hr hc O L h
  refine ⟨hv, plain_tb hv rfl, fun b h => ?_, nosr fun _ => rfl, nosp fun _ => rfl⟩
  exact plain_tb hv rfl b (asB_of (show asB (thenL (cf f) (mapC cf ρ (ces l))) = some b from h))
end
end Mine
end
end

section
open PySem PySem.W PySem.Calls PyProof.Rows
set_option Elab.async false
set_option maxRecDepth 100000
set_option linter.unusedVariables false
set_option linter.unusedSimpArgs false
noncomputable section
namespace Mine

section
variable {W : Wd} {cf : Cf} {K : Nat} {c : Cx} {nms : List Str} {ns : List (Str × NameKind)} {σ : Sg} {ρ : List B} {R : Rh}

/-! built-ins -/
theorem cl_absV {vs : List V} {v : V} (h : bAbs vs = some v) : Cl c σ R (.builtin "abs") (dVs vs) (dV v) := by
  unfold bAbs at h
  split at h
  · rename_i a
    cases h
    simp only [dV, dVs]
    have e : (a.natAbs : Int) = if a < 0 then -a else a := by split <;> omega
    rw [e]; exact cl_abs
  · cases h
theorem cl_minV {vs : List V} {v : V} (h : bMin vs = some v) : Cl c σ R (.builtin "min") (dVs vs) (dV v) := by
  unfold bMin at h
  split at h
  · cases h; exact cl_min
  · cases h
theorem cl_maxV {vs : List V} {v : V} (h : bMax vs = some v) : Cl c σ R (.builtin "max") (dVs vs) (dV v) := by
  unfold bMax at h
  split at h
  · cases h; exact cl_max
  · cases h
theorem cl_lenV {vs : List V} {v : V} (h : bLen vs = some v) : Cl c σ R (.builtin "len") (dVs vs) (dV v) := by
  unfold bLen at h
  split at h
  · cases h; simp only [dV, dVs]; rw [← dVs_len]; exact cl_len
  · cases h; simp only [dV, dVs]; rw [← dVs_len]; exact cl_len_t
  · cases h
theorem cl_lstV {vs : List V} {v : V} (h : bLst vs = some v) : Cl c σ R (.type "list") (dVs vs) (dV v) := by
  unfold bLst at h
  split at h
  · cases h; exact cl_list
  · cases h
theorem cl_tupV {vs : List V} {v : V} (h : bTup vs = some v) : Cl c σ R (.type "tuple") (dVs vs) (dV v) := by
  unfold bTup at h
  split at h
  · cases h; exact cl_tuple
  · cases h
theorem cl_intV {vs : List V} {v : V} (h : bInt vs = some v) : Cl c σ R (.type "int") (dVs vs) (dV v) := by
  unfold bInt at h
  split at h
  · cases h; exact cl_int
  · cases h

theorem call_b (gd : Gd W) {x : Str} {q p : Pos} {l : List E} {vs : List V} {d : D} {id : String} (hl : ∀ e ∈ l, AllE W cf K e) (hW : c.toWd = W) (hr : Rm c.A K) (hx : x ∈ blts) (hv : bootBuiltins x = some (.builtin id)) (hn : x ≠ "__name__")
    (hg : gname ns x = true) (hc : chks nms ns l = true) (hne : l.isEmpty = false) (O : EnvOk c ns) (L : Rel nms ρ σ R) (h : mapC cf ρ (ces l) = some vs) (hC : Cl c σ R (.builtin id) (dVs vs) d) :
    Tv c σ R (eval (.Call (.Name x q) (dens l) [] p) c.env) d := by
  simp only [gname, Bool.and_eq_true, Bool.not_eq_true'] at hg
  subst hW
  cases l with
  | nil => cases hne
  | cons a r =>
    have hcs := hc
    rw [chks, Bool.and_eq_true] at hcs
    have ts := ts_map (pos := p) hl rfl hr hc O L h
    rw [dens] at ts ⊢
    refine tv_callb (tv_bn gd hx hv (ns_glob O hg.1) hn hg.2) ts hC rfl (star_den hcs.1) ?_
    have : ∀ r : List E, chks nms ns r = true → (backTo p (starEach (dens r) c.env)).any (·.1) = false := by
      intro r hr
      have h2 : ∀ r : List E, chks nms ns r = true → (starEach (dens r) c.env).any (·.1) = false := by
        intro r
        induction r with
        | nil => intro _; rw [dens]; rfl
        | cons e r ih => intro hh; rw [chks, Bool.and_eq_true] at hh; rw [dens, star_den hh.1, List.any_cons, ih hh.2]; rfl
      have h3 : ∀ l : List (Bool × Sem Value), l.any (·.1) = false → (backTo p l).any (·.1) = false := by
        intro l hl
        unfold backTo
        first
          | (simpa using hl)
          | (rw [List.any_map]; exact hl)
          | (split <;> simpa using hl)
      exact h3 _ (h2 r hr)
    exact this r hcs.2
theorem call_t (gd : Gd W) {x : Str} {q p : Pos} {l : List E} {vs : List V} {d : D} {id : String} (hl : ∀ e ∈ l, AllE W cf K e) (hW : c.toWd = W) (hr : Rm c.A K) (hx : x ∈ blts) (hv : bootBuiltins x = some (.type id)) (hn : x ≠ "__name__")
    (hg : gname ns x = true) (hc : chks nms ns l = true) (hne : l.isEmpty = false) (O : EnvOk c ns) (L : Rel nms ρ σ R) (h : mapC cf ρ (ces l) = some vs) (hC : Cl c σ R (.type id) (dVs vs) d) :
    Tv c σ R (eval (.Call (.Name x q) (dens l) [] p) c.env) d := by
  simp only [gname, Bool.and_eq_true, Bool.not_eq_true'] at hg
  subst hW
  cases l with
  | nil => cases hne
  | cons a r =>
    have hcs := hc
    rw [chks, Bool.and_eq_true] at hcs
    have ts := ts_map (pos := p) hl rfl hr hc O L h
    rw [dens] at ts ⊢
    refine tv_callt (tv_bn gd hx hv (ns_glob O hg.1) hn hg.2) ts hC rfl (star_den hcs.1) ?_
    have : ∀ r : List E, chks nms ns r = true → (backTo p (starEach (dens r) c.env)).any (·.1) = false := by
      intro r hr
      have h2 : ∀ r : List E, chks nms ns r = true → (starEach (dens r) c.env).any (·.1) = false := by
        intro r
        induction r with
        | nil => intro _; rw [dens]; rfl
        | cons e r ih => intro hh; rw [chks, Bool.and_eq_true] at hh; rw [dens, star_den hh.1, List.any_cons, ih hh.2]; rfl
      have h3 : ∀ l : List (Bool × Sem Value), l.any (·.1) = false → (backTo p l).any (·.1) = false := by
        intro l hl
        unfold backTo
        first
          | (simpa using hl)
          | (rw [List.any_map]; exact hl)
          | (split <;> simpa using hl)
      exact h3 _ (h2 r hr)
    exact this r hcs.2

theorem bname (f : Nat) (x : Str) (h : nth bNames f = some x) : (f = 0 ∧ x = "abs") ∨ (f = 1 ∧ x = "min") ∨ (f = 2 ∧ x = "max") ∨ (f = 3 ∧ x = "len") ∨ (f = 4 ∧ x = "list") ∨ (f = 5 ∧ x = "tuple") ∨ (f = 6 ∧ x = "int") ∨ (f = 7 ∧ x = "range") := by
  match f with
  | 0 => cases h; exact .inl ⟨rfl, rfl⟩
  | 1 => cases h; exact .inr (.inl ⟨rfl, rfl⟩)
  | 2 => cases h; exact .inr (.inr (.inl ⟨rfl, rfl⟩))
  | 3 => cases h; exact .inr (.inr (.inr (.inl ⟨rfl, rfl⟩)))
  | 4 => cases h; exact .inr (.inr (.inr (.inr (.inl ⟨rfl, rfl⟩))))
  | 5 => cases h; exact .inr (.inr (.inr (.inr (.inr (.inl ⟨rfl, rfl⟩)))))
  | 6 => cases h; exact .inr (.inr (.inr (.inr (.inr (.inr (.inl ⟨rfl, rfl⟩))))))
  | 7 => cases h; exact .inr (.inr (.inr (.inr (.inr (.inr (.inr ⟨rfl, rfl⟩))))))
  | n + 8 => cases h

theorem bc_tv (gd : Gd W) {x : Str} {f : Nat} {q : Pos} {l : List E} {p : Pos} (hl : ∀ e ∈ l, AllE W cf K e) (hW : c.toWd = W) (hr : Rm c.A K) (hc : chk nms ns (.bc x f q l p) = true) (O : EnvOk c ns) (L : Rel nms ρ σ R) {v : V}
    (h : thenL (bfn f).run (mapC cf ρ (ces l)) = some v) : Tv c σ R (eval (den (.bc x f q l p)) c.env) (dV v) := by
  simp only [chk, Bool.and_eq_true, Bool.not_eq_true'] at hc
  obtain ⟨vs, h1, h2⟩ := thenL_of h
  have hx := bname f x (eqS_of hc.1.1.1)
  rw [den]
  rcases hx with ⟨rfl, rfl⟩ | ⟨rfl, rfl⟩ | ⟨rfl, rfl⟩ | ⟨rfl, rfl⟩ | ⟨rfl, rfl⟩ | ⟨rfl, rfl⟩ | ⟨rfl, rfl⟩ | ⟨rfl, rfl⟩
  · exact call_b gd hl hW hr (by decide +kernel) bb_abs (by decide +kernel) hc.1.1.2 hc.1.2 hc.2 O L h1 (cl_absV h2)
  · exact call_b gd hl hW hr (by decide +kernel) bb_min (by decide +kernel) hc.1.1.2 hc.1.2 hc.2 O L h1 (cl_minV h2)
  · exact call_b gd hl hW hr (by decide +kernel) bb_max (by decide +kernel) hc.1.1.2 hc.1.2 hc.2 O L h1 (cl_maxV h2)
  · exact call_b gd hl hW hr (by decide +kernel) bb_len (by decide +kernel) hc.1.1.2 hc.1.2 hc.2 O L h1 (cl_lenV h2)
  · exact call_t gd hl hW hr (by decide +kernel) bb_list (by decide +kernel) hc.1.1.2 hc.1.2 hc.2 O L h1 (cl_lstV h2)
  · exact call_t gd hl hW hr (by decide +kernel) bb_tuple (by decide +kernel) hc.1.1.2 hc.1.2 hc.2 O L h1 (cl_tupV h2)
  · exact call_t gd hl hW hr (by decide +kernel) bb_int (by decide +kernel) hc.1.1.2 hc.1.2 hc.2 O L h1 (cl_intV h2)
  · cases h2

theorem rgV_of {f : Nat} {o : Option (List V)} {l : List V} (h : rgV f o = some l) : f = 7 ∧ ((∃ k : Nat, o = some [.int (.ofNat k)] ∧ k ≤ 2000 ∧ l = vrange 0 k) ∨ ∃ a b : Nat, o = some [.int (.ofNat a), .int (.ofNat b)] ∧ a ≤ 2000 ∧ b ≤ 2000 ∧ l = vrange a (b - a)) := by
  unfold rgV at h
  split at h
  · rename_i k
    obtain ⟨hl, rfl⟩ := cond_some h
    rw [Bool.and_eq_true] at hl
    exact ⟨Nat.eq_of_beq_eq_true hl.1, .inl ⟨k, rfl, Nat.le_of_ble_eq_true hl.2, rfl⟩⟩
  · rename_i a b
    obtain ⟨hl, rfl⟩ := cond_some h
    rw [Bool.and_eq_true, Bool.and_eq_true] at hl
    exact ⟨Nat.eq_of_beq_eq_true hl.1, .inr ⟨a, b, rfl, Nat.le_of_ble_eq_true hl.2.1, Nat.le_of_ble_eq_true hl.2.2, rfl⟩⟩
  · cases h
theorem consO_of {o : Option V} {m : Option (List V)} {vs : List V} (h : consO o m = some vs) : ∃ x xs, o = some x ∧ m = some xs ∧ vs = x :: xs := by
  cases o with
  | none => cases h
  | some x => cases m with
    | none => cases h
    | some xs => cases h; exact ⟨x, xs, rfl, rfl, rfl⟩

theorem mapC_of {cf : Cf} {ρ : List B} {c : Ke} {r : List Ke} {vs : List V} (h : mapC cf ρ (c :: r) = some vs) : ∃ x xs, c.run cf ρ = some x ∧ mapC cf ρ r = some xs ∧ vs = x :: xs :=
  consO_of (show consO (c.run cf ρ) (mapC cf ρ r) = some vs from h)

theorem pe_bc (gd : Gd W) {x : Str} {f : Nat} {q : Pos} {l : List E} {p : Pos} (hl : ∀ e ∈ l, AllE W cf K e) : AllE W cf K (.bc x f q l p) := fun c nms ns σ ρ R hW hr hc O L => by
  have hv : ∀ v, (ce (.bc x f q l p)).run cf ρ = some v → Tv c σ R (eval (den (.bc x f q l p)) c.env) (dV v) := fun v h => bc_tv gd hl hW hr hc O L h
  refine ⟨hv, plain_tb hv rfl, nott fun _ => rfl, fun m h y r => ?_, nosp fun _ => rfl⟩
  have hc' := hc
  simp only [chk, gname, Bool.and_eq_true, Bool.not_eq_true'] at hc'
  obtain ⟨⟨⟨h1, h2⟩, h3⟩, h4⟩ := hc'
  have hx := bname f x (eqS_of h1)
  subst hW
  have tr := fun (hk : c.env.kindOf "range" = some .globalImplicit) (hd : (("range" : Str) == ("__debug__" : Str)) = false) => tv_bn (c := c) (σ := σ) (ρ := R) gd (x := "range") (pos := q) (by decide +kernel) bb_range hk (by decide +kernel) hd
  have hh := rgV_of (show rgV f (mapC cf ρ (ces l)) = some m from h)
  clear h
  obtain ⟨rfl, h⟩ := hh
  have hx' : x = "range" := by
    rcases hx with ⟨z, _⟩ | ⟨z, _⟩ | ⟨z, _⟩ | ⟨z, _⟩ | ⟨z, _⟩ | ⟨z, _⟩ | ⟨z, _⟩ | ⟨_, z⟩
    all_goals first
      | exact z
      | exact absurd z (by decide)
  subst hx'
  rcases h with ⟨k, h, hk, rfl⟩ | ⟨a, b, h, ha, hb, rfl⟩
  · match l, h, h3, hl with
    | [e], h, h3, hl =>
      rw [ces, ces] at h
      obtain ⟨_, _, e1, e2, e3⟩ := mapC_of h
      cases e3
      rw [chks, Bool.and_eq_true] at h3
      have te := (hl e (.head _) c nms ns σ ρ R rfl hr h3.1 O L).tv _ e1
      rw [dV] at te
      rw [vrange_rng, den, dens, dens]
      exact src_range1 (x := y) (p := r) (pos := p) (tr (ns_glob O h2.1) h2.2) te (by show -4096 ≤ ((k : Nat) : Int); omega) (by show ((k : Nat) : Int) ≤ 4096; omega) rfl (star_den h3.1)
    | [], h, h3, hl => rw [ces] at h; cases h
    | e :: e' :: rest, h, h3, hl => have := mapC_len h; simp at this
  · match l, h, h3, hl with
    | [e, e'], h, h3, hl =>
      rw [ces, ces, ces] at h
      obtain ⟨_, _, e1, e2, e3⟩ := mapC_of h
      cases e3
      obtain ⟨_, _, e4, e5, e6⟩ := mapC_of e2
      cases e6
      rw [chks, chks, Bool.and_eq_true, Bool.and_eq_true] at h3
      have te := (hl e (.head _) c nms ns σ ρ R rfl hr h3.1 O L).tv _ e1
      have te' := (hl e' (.tail _ (.head _)) c nms ns σ ρ R rfl hr h3.2.1 O L).tv _ e4
      rw [dV] at te te'
      rw [vrange_rng, den, dens, dens, dens]
      have := src_range2 (x := y) (p := r) (pos := p) (tr (ns_glob O h2.1) h2.2) te te' (by show -2000 ≤ ((a : Nat) : Int); omega) (by show ((a : Nat) : Int) ≤ 2000; omega) (by show -2000 ≤ ((b : Nat) : Int); omega) (by show ((b : Nat) : Int) ≤ 2000; omega) rfl (star_den h3.1) (star_den h3.2.1)
      have e : (Int.ofNat b - Int.ofNat a).toNat = b - a := by show (((b : Nat) : Int) - ((a : Nat) : Int)).toNat = _; omega
      rw [e] at this
      exact this
    | [], h, h3, hl => rw [ces] at h; cases h
    | [e], h, h3, hl => have := mapC_len h; simp at this
    | e :: e' :: e'' :: rest, h, h3, hl => have := mapC_len h; simp at this

/-! comprehensions -/
def capR (ρ : List B) : List (Str × Nat) → Rh
  | [] => []
  | p :: r => match lk ρ p.2 with
    | .va v => (p.1, dV v) :: capR ρ r
    | _ => capR ρ r
theorem capR_mem {y : Str} {d : D} : ∀ {caps : List (Str × Nat)}, (capR ρ caps).lookup y = some d → ∃ p ∈ caps, p.1 = y ∧ ∃ v, lk ρ p.2 = .va v ∧ d = dV v
  | [], h => by simp [capR] at h
  | p :: r, h => by
    rw [capR] at h
    cases e : lk ρ p.2 with
    | va v =>
      rw [e] at h
      simp only [lookup_put] at h
      by_cases hy : y = p.1
      · rw [if_pos hy] at h; cases h
        exact ⟨p, .head _, hy.symm, v, e, rfl⟩
      · rw [if_neg hy] at h
        obtain ⟨q, hq, z⟩ := capR_mem h
        exact ⟨q, .tail _ hq, z⟩
    | un => rw [e] at h; obtain ⟨q, hq, z⟩ := capR_mem h; exact ⟨q, .tail _ hq, z⟩
    | ow l => rw [e] at h; obtain ⟨q, hq, z⟩ := capR_mem h; exact ⟨q, .tail _ hq, z⟩
theorem capR_some {p : Str × Nat} {v : V} : ∀ {caps : List (Str × Nat)}, p ∈ caps → lk ρ p.2 = .va v → ∃ d, (capR ρ caps).lookup p.1 = some d
  | [], h, _ => nomatch h
  | q :: r, h, e => by
    rw [capR]
    rcases List.mem_cons.mp h with rfl | h
    · rw [e]; exact ⟨dV v, by simp⟩
    · obtain ⟨d, hd⟩ := capR_some h e
      cases e' : lk ρ q.2 with
      | va w =>
        simp only [lookup_put]
        by_cases hy : p.1 = q.1
        · exact ⟨_, if_pos hy⟩
        · exact ⟨d, by rw [if_neg hy]; exact hd⟩
      | un => exact ⟨d, hd⟩
      | ow l => exact ⟨d, hd⟩
theorem lks_nth : ∀ {caps : List (Str × Nat)} {i : Nat} {y : Str} {v : V}, nth (caps.map (·.1)) i = some y → lk (lks ρ caps) i = .va v → ∃ p ∈ caps, p.1 = y ∧ lk ρ p.2 = .va v
  | [], i, y, v, h, _ => by cases h
  | p :: r, 0, y, v, h, e => by
    cases h
    simp only [lks, lk_zero] at e
    refine ⟨p, .head _, rfl, ?_⟩
    cases e' : lk ρ p.2 with
    | va w => rw [e'] at e; exact e
    | un => rw [e'] at e; cases e
    | ow l => rw [e'] at e; cases e
  | p :: r, i + 1, y, v, h, e => by
    obtain ⟨q, hq, z⟩ := lks_nth (caps := r) (i := i) h e
    exact ⟨q, .tail _ hq, z⟩
theorem lks_ow : ∀ {caps : List (Str × Nat)} {i : Nat} {l : List V}, lk (lks ρ caps) i ≠ .ow l
  | [], i, l => by simp [lks, lk_nil]
  | p :: r, 0, l => by
    simp only [lks, lk_zero]
    cases lk ρ p.2 <;> simp [unO]
  | p :: r, i + 1, l => lks_ow (caps := r) (i := i)

theorem compL_len {e : Ke} {caps : List B} : ∀ {ds : List V} {vs : List V}, compL e caps cf ds = some vs → ds.length = vs.length
  | [], vs, h => by cases h; rfl
  | d :: ds, vs, h => by
    have h' : consO (e.run cf (.va d :: caps)) (compL e caps cf ds) = some vs := h
    cases e1 : e.run cf (.va d :: caps) with
    | none => rw [e1] at h'; cases h'
    | some x =>
      cases e2 : compL e caps cf ds with
      | none => rw [e1, e2] at h'; cases h'
      | some xs => rw [e1, e2] at h'; cases h'; rw [List.length_cons, List.length_cons, compL_len e2]
theorem compL_get {e : Ke} {caps : List B} : ∀ {ds : List V} {vs : List V} {j : Nat} {d o : V}, compL e caps cf ds = some vs → ds[j]? = some d → vs[j]? = some o → e.run cf (.va d :: caps) = some o
  | [], vs, j, d, o, h, hd, _ => by simp at hd
  | d' :: ds, vs, j, d, o, h, hd, ho => by
    have h' : consO (e.run cf (.va d' :: caps)) (compL e caps cf ds) = some vs := h
    cases e1 : e.run cf (.va d' :: caps) with
    | none => rw [e1] at h'; cases h'
    | some x =>
      cases e2 : compL e caps cf ds with
      | none => rw [e1, e2] at h'; cases h'
      | some xs =>
        rw [e1, e2] at h'; cases h'
        cases j with
        | zero => simp at hd ho; subst hd ho; exact e1
        | succ j => simp at hd ho; exact compL_get e2 hd ho

/-- all that a comprehension asks -/
structure CompIn (c : Cx) (σ : Sg) (R : Rh) (e : E) (x : Str) (it : E) (sc : Scope) (ds vs : List V) (Rin : Rh) : Prop where
  K : CompOk sc x
  hfree : ∀ p ∈ sc.names, p.2 = .free → (c.env.cells.lookup p.1).isSome = true
  hR : ∀ y d, Rin.lookup y = some d → R.lookup y = some d ∧ (y, .free) ∈ sc.names ∧ c.env.kindOf y ≠ some .local
  len : (dVs ds).length = (dVs vs).length
  src : ∀ p, Src c σ R (.Name x p) (eval (den it) c.env) (dVs ds)
  elt : ∀ (base : Heap) (C D₀ : Addr) (j : Nat) d o (ao : List D), (dVs ds)[j]? = some d → (dVs vs)[j]? = some o → Tv (inC c σ sc base C) [(D₀, ao)] ((x, d) :: Rin) (eval (den e) (compEnvC sc (clo c.env.cells sc.names []) C c.env)) o
  fs : ∀ v, foldedSetIterable (den it) c.env v = pure v

theorem comp_in {e : E} {x : Str} {q : Pos} {it : E} {sc : Scope} {caps : List (Str × Nat)} {p : Pos} (he : AllE W cf K e) (hit : AllE W cf K it) (hW : c.toWd = W) (hr : Rm c.A K) (hc : chk nms ns (.comp e x q it sc caps p) = true) (O : EnvOk c ns) (L : Rel nms ρ σ R)
    {v : V} (h : (ce (.comp e x q it sc caps p)).run cf ρ = some v) : ∃ ds vs, v = .lst vs ∧ CompIn c σ R e x it sc ds vs (capR ρ caps) := by
  simp only [chk, Bool.and_eq_true, List.all_eq_true, decide_eq_true_eq] at hc
  obtain ⟨⟨⟨⟨h1, h2⟩, h3⟩, h4⟩, h5⟩ := hc
  have h' : compC (ce e) caps cf ρ ((cr it).run cf ρ) = some v := h
  cases e1 : (cr it).run cf ρ with
  | none => rw [e1] at h'; cases h'
  | some ds =>
    rw [e1] at h'
    obtain ⟨vs, e2, e3⟩ := thenL_of (show thenL (fun l => some (.lst l)) (compL (ce e) (lks ρ caps) cf ds) = some v from h')
    cases e3
    have KK := compOk_of h3
    have hfree : ∀ p ∈ sc.names, p.2 = .free → (c.env.cells.lookup p.1).isSome = true := fun p hp hf => by
      have := h5 p hp
      simp only [Bool.or_eq_true, Bool.not_eq_true', decide_eq_false_iff_not, eqK, decide_eq_true_eq] at this
      rcases this with (h | h) | h
      · exact absurd hf h
      · exact O.cl _ (.inl h)
      · exact O.cl _ (.inr h)
    have hR : ∀ y d, (capR ρ caps).lookup y = some d → R.lookup y = some d ∧ (y, .free) ∈ sc.names ∧ c.env.kindOf y ≠ some .local := fun y d hy => by
      obtain ⟨p, hp, rfl, w, hw, rfl⟩ := capR_mem hy
      have hp4 := h4 p hp
      refine ⟨L.va p.2 p.1 w (eqS_of hp4.1) hw, hp4.2, ?_⟩
      have := h5 _ hp4.2
      simp only [Bool.or_eq_true, Bool.not_eq_true', decide_eq_false_iff_not, eqK, decide_eq_true_eq] at this
      rcases this with (h | h) | h
      · exact (h trivial).elim
      · obtain ⟨k', a1, a2, _⟩ := O.kd _ _ h
        rw [a1, a2 (by decide)]; decide
      · obtain ⟨k', a1, _, a3⟩ := O.kd _ _ h
        rw [a1]
        rcases a3 rfl with rfl | rfl <;> decide
    refine ⟨ds, vs, rfl, KK, hfree, hR, by rw [dVs_len, dVs_len, compL_len e2], fun p => (hit c nms ns σ ρ R hW hr h1 O L).sr ds e1 x p, fun base C D₀ j d o ao hd ho => ?_, fun v => fold_den h1⟩
    rw [dVs_map, List.getElem?_map, Option.map_eq_some_iff] at hd ho
    obtain ⟨d', hd', rfl⟩ := hd
    obtain ⟨o', ho', rfl⟩ := ho
    have run := compL_get e2 hd' ho'
    have O' : EnvOk (inC c σ sc base C) sc.names := ⟨fun y k hy => relabel_lookup (env := c.env) hy, fun y hy => by
      show ((clo c.env.cells sc.names []).lookup y).isSome = true
      rcases hy with hy | hy
      · exact absurd rfl (KK.nocell _ (mem_of_lookup hy))
      · rw [clo_mem KK.nd (mem_of_lookup hy)]; rfl⟩
    have L' : Rel (x :: caps.map (·.1)) (.va d' :: lks ρ caps) [(D₀, ao)] ((x, dV d') :: capR ρ caps) := by
      refine ⟨fun i y w hy hw => ?_, ⟨fun _ => 0, fun i y l hy hw => ?_, fun i j l m hi hj => ?_⟩⟩
      · cases i with
        | zero => cases hy; cases hw; simp
        | succ i =>
          obtain ⟨p, hp, rfl, hw'⟩ := lks_nth (caps := caps) (i := i) hy hw
          obtain ⟨d, hd⟩ := capR_some hp hw'
          have hp4 := h4 p hp
          have e5 := (hR _ _ hd).1
          rw [L.va p.2 p.1 w (eqS_of hp4.1) hw'] at e5
          cases e5
          rw [lookup_put, if_neg (fun q => by
            have := mem_lookup_nodup KK.nd hp4.2
            rw [q, KK.x] at this; cases this)]
          exact hd
      · cases i with
        | zero => cases hw
        | succ i => exact absurd hw lks_ow
      · cases i with
        | zero => cases hi
        | succ i => exact absurd hi lks_ow
    exact (he (inC c σ sc base C) _ sc.names _ _ _ hW hr h2 O' L').tv _ run

theorem pe_comp {e : E} {x : Str} {q : Pos} {it : E} {sc : Scope} {caps : List (Str × Nat)} {p : Pos} (he : AllE W cf K e) (hit : AllE W cf K it) : AllE W cf K (.comp e x q it sc caps p) := fun c nms ns σ ρ R hW hr hc O L => by
  refine pe_plain (fun v h => ?_) rfl (fun _ => rfl) (fun _ => rfl) (fun _ => rfl)
  obtain ⟨ds, vs, rfl, I⟩ := comp_in he hit hW hr hc O L h
  rw [dV, den]
  exact tv_comp I.K I.hfree I.hR I.len (I.src q) I.elt I.fs

theorem pe_oth (e : Expr) : AllE W cf K (.oth e) := fun c nms ns σ ρ R hW hr hc O L => by cases hc

theorem snd_e (gd : Gd W) (hcf : Calls W cf K) (e : E) : AllE W cf K e :=
  E.rec (motive_1 := fun e => AllE W cf K e) (motive_2 := fun l => ∀ e ∈ l, AllE W cf K e)
    pe_v (pe_gl gd) pe_ci pe_cs pe_cn
    (fun _ _ _ _ ha hb => pe_bin ha hb) (fun _ _ ha => pe_neg ha) (fun _ _ _ _ ha hb => pe_cmp ha hb)
    (fun _ _ hl => pe_and hl) (fun _ _ hl => pe_or hl) (fun _ _ _ hl => pe_tup hl) (fun _ _ hl => pe_lst hl)
    (fun _ _ _ ha hb => pe_sub ha hb) (fun _ _ _ _ ha hb => pe_upto ha hb) (fun _ _ _ _ ha hb => pe_frm ha hb)
    (fun _ _ _ _ hc ha hb => pe_ite hc ha hb) (fun _ _ _ _ _ hl => pe_bc gd hl) (fun _ _ _ _ _ hl => pe_fc hcf hl)
    (fun _ _ _ _ _ _ _ he hit => pe_comp he hit) pe_oth
    (fun _ h => nomatch h) (fun a r ha hr e he => by
      rcases List.mem_cons.mp he with rfl | he
      · exact ha
      · exact hr e he) e
end
end Mine
end
end

section
open PySem PySem.W PySem.Calls PyProof.Rows
set_option Elab.async false
set_option maxRecDepth 100000
set_option linter.unusedVariables false
set_option linter.unusedSimpArgs false
noncomputable section
namespace Mine

def starB : Expr → Bool
  | .Starred .. => true
  | _ => false
theorem star_chk {nms : List Str} {ns : List (Str × NameKind)} {e : E} (h : chk nms ns e = true) : starB (den e) = false := by
  cases e <;> first
    | rfl
    | (exfalso; simp [chk] at h; done)

theorem swapped2 {x y : Str} {px py : Pos} {k k' : Nat} {q q' : Pos} {a b : Expr} {env : Env} (hk : env.scope.kind = .function) (hx : env.kindOf x = some .local) (hy : env.kindOf y = some .local) (hl : py.line = px.line) (hne : x ≠ y)
    (h1 : starB a = false) (h2 : starB b = false) (hf : (foldedForSure 8 a && foldedForSure 8 b) = false) (hc : (constantsAlone 8 a && constantsAlone 8 b) = false) :
    swappedStores [.Tuple [.Name x px, .Name y py] k q] (.Tuple [a, b] k' q') env = pure (some [x, y]) := by
  have hb : env.blockKind = .function := by unfold Env.blockKind; rw [hk]; rfl
  have hst : ([a, b].any fun e => match e with | .Starred .. => true | _ => false) = false := by
    rw [List.any_cons, List.any_cons, List.any_nil]
    have : ∀ e : Expr, starB e = false → (match e with | .Starred .. => true | _ => false) = false := fun e he => by cases e <;> first | rfl | cases he
    rw [this a h1, this b h2]; rfl
  have hnm : ([Expr.Name x px, .Name y py].filterMap fun e => match e with | .Name id pos => if (env.kindOf id == some .local && pos.line == (([Expr.Name x px, .Name y py].head?.map (·.pos.line)).getD 0)) = true then some id else none | _ => none) = [x, y] := by
    have e0 : (([Expr.Name x px, .Name y py].head?.map (·.pos.line)).getD 0) = px.line := rfl
    rw [e0]
    simp [hx, hy, hl]
  have hd : ([x, y].eraseDups.length != [x, y].length) = false := by
    have e : [x, y].eraseDups = [x, y] := by
      rw [List.eraseDups_cons]
      have : (List.filter (fun b => !b == x) [y]) = [y] := by simp [Ne.symm hne]
      rw [this]; rfl
    rw [e]; rfl
  unfold swappedStores
  simp only [List.length_cons, List.length_nil, hb]
  have c1 : (!(0 + 1 + 1 == 2 || 0 + 1 + 1 == 3) || (0 + 1 + 1 != 0 + 1 + 1) || (ScopeKind.function != ScopeKind.function)) = false := by decide
  simp only [c1]
  have hf' : List.all [a, b] (foldedForSure 8) = false := by rw [List.all_cons, List.all_cons, List.all_nil, Bool.and_true]; exact hf
  have hc' : List.all [a, b] (constantsAlone 8) = false := by rw [List.all_cons, List.all_cons, List.all_nil, Bool.and_true]; exact hc
  generalize hL : List.filterMap _ [Expr.Name x px, Expr.Name y py] = L
  have hL2 : L = [x, y] := hL.symm.trans hnm
  subst hL2
  refine (if_neg (by decide)).trans ?_
  refine (if_neg (by rw [Bool.not_eq_true]; exact hst)).trans ?_
  refine (if_neg (by rw [hd]; simp)).trans ?_
  refine (if_neg (by rw [hf']; simp)).trans ?_
  exact (if_neg (by rw [hc']; simp)).trans rfl

/-! what the statements have to be -/
def isC : E → Bool
  | .comp .. => true
  | _ => false
def isT : E → Bool
  | .tup .. => true
  | _ => false
def stV (nms : List Str) (ns : List (Str × NameKind)) (x : Vn) : Bool := eqS (nth nms x.i) x.x && (eqK (ns.lookup x.x) .local || eqK (ns.lookup x.x) .cell) && lname x.x
def swB (ns : List (Str × NameKind)) (x y : Vn) (a b : Expr) : Bool :=
  eqK (ns.lookup x.x) .local && eqK (ns.lookup y.x) .local && decide (y.p.line = x.p.line) && decide (x.x ≠ y.x) && !(foldedForSure 8 a && foldedForSure 8 b) && !(constantsAlone 8 a && constantsAlone 8 b)
mutual
def chkS (nms : List Str) (ns : List (Str × NameKind)) : S → Bool
  | .asg x e _ => stV nms ns x && chk nms ns e && !isC e
  | .asc x e p => stV nms ns x && chk nms ns e && (match e with
      | .comp _ _ _ _ sc _ q => eqK (ns.lookup x.x) .local && decide (x.p.line = q.line) && !(sc.names.any fun y => y.1 == x.x && (y.2 == .local || y.2 == .cell))
      | _ => false)
  | .swp x y _ _ a b _ _ _ => stV nms ns x && stV nms ns y && chk nms ns a && chk nms ns b && swB ns x y (den a) (den b)
  | .unp x y _ _ e _ => stV nms ns x && stV nms ns y && chk nms ns e && !isT e
  | .new x _ _ => stV nms ns x
  | .nw2 x y _ _ q1 q2 _ _ _ => stV nms ns x && stV nms ns y && swB ns x y (.List [] q1) (.List [] q2)
  | .nw1 x y _ _ q1 q2 z kz _ _ _ => stV nms ns x && stV nms ns y && swB ns x y (.List [] q1) (.Constant (.int z) kz q2)
  | .app x e ap cp _ => stV nms ns x && chk nms ns e && decide (ap.endLine = cp.line)
  | .exp e _ => chk nms ns e && !isC e
  | .ret e _ => chk nms ns e
  | .ro1 x _ => stV nms ns x
  | .ro2 x y _ _ _ => stV nms ns x && stV nms ns y
  | .ite c a b _ => chk nms ns c && chkSs nms ns a && chkSs nms ns b
  | .whl c b _ => chk nms ns c && chkSs nms ns b
  | .fr x it b _ => stV nms ns x && chk nms ns it && chkSs nms ns b
  | .frp x y _ _ it b _ => stV nms ns x && stV nms ns y && chk nms ns it && chkSs nms ns b
  | .oth _ => true
def chkSs (nms : List Str) (ns : List (Str × NameKind)) : List S → Bool
  | [] => true
  | s :: r => chkS nms ns s && chkSs nms ns r
end
end Mine
end
end

section
open PySem PySem.W PySem.Calls PyProof.Rows
set_option Elab.async false
set_option maxRecDepth 100000
set_option linter.unusedVariables false
set_option linter.unusedSimpArgs false
noncomputable section
namespace Mine

theorem lk_set_ne {b : B} : ∀ {ρ : List B} {i j : Nat}, j ≠ i → lk (setB ρ i b) j = lk ρ j
  | [], _, _, _ => rfl
  | a :: r, 0, 0, h => absurd rfl h
  | a :: r, 0, j + 1, _ => rfl
  | a :: r, i + 1, 0, _ => rfl
  | a :: r, i + 1, j + 1, h => lk_set_ne (ρ := r) fun e => h (by rw [e])
theorem lk_set_eq {b : B} : ∀ {ρ : List B} {i : Nat}, lk (setB ρ i b) i = b ∨ lk (setB ρ i b) i = .un
  | [], _ => .inr rfl
  | a :: r, 0 => .inl rfl
  | a :: r, i + 1 => lk_set_eq (ρ := r)
theorem nth_mem {α : Type} {x : α} : ∀ {l : List α} {i : Nat}, nth l i = some x → x ∈ l
  | [], _, h => by cases h
  | a :: r, 0, h => by cases h; exact .head _
  | a :: r, i + 1, h => .tail _ (nth_mem (l := r) h)
theorem nth_inj {x : Str} : ∀ {l : List Str} {i j : Nat}, l.Nodup → nth l i = some x → nth l j = some x → i = j
  | [], _, _, _, h, _ => by cases h
  | a :: r, 0, 0, _, _, _ => rfl
  | a :: r, 0, j + 1, hn, h, k => by cases h; exact absurd (nth_mem (l := r) k) (List.nodup_cons.mp hn).1
  | a :: r, i + 1, 0, hn, h, k => by cases k; exact absurd (nth_mem (l := r) h) (List.nodup_cons.mp hn).1
  | a :: r, i + 1, j + 1, hn, h, k => by rw [nth_inj (l := r) (List.nodup_cons.mp hn).2 h k]

section
variable {nms : List Str} {ρ : List B} {σ : Sg} {R : Rh}
theorem ne_ix {i j : Nat} {x y : Str} (hnd : nms.Nodup) (hy : nth nms j = some y) (hx : nth nms i = some x) (hj : j ≠ i) : y ≠ x := fun e => by
  subst e; exact hj (nth_inj hnd hy hx)

theorem Rel.congr {R' : Rh} (L : Rel nms ρ σ R) (h : ∀ x, R'.lookup x = R.lookup x) : Rel nms ρ σ R' :=
  ⟨fun i x v a b => (h x).trans (L.va i x v a b), let ⟨α, h1, h2⟩ := L.ow; ⟨α, fun i x l a b => ⟨(h x).trans (h1 i x l a b).1, (h1 i x l a b).2⟩, h2⟩⟩
theorem put_swap {x y : Str} {a b : D} (h : x ≠ y) (z : Str) : List.lookup z ((x, a) :: (y, b) :: R) = List.lookup z ((y, b) :: (x, a) :: R) := by
  simp only [lookup_put]
  by_cases h1 : z = x
  · by_cases h2 : z = y
    · exact absurd (h1.symm.trans h2) h
    · simp [h1, h2, h]
  · by_cases h2 : z = y <;> simp [h1, h2, Ne.symm h]

theorem Rel.setv (hnd : nms.Nodup) {i : Nat} {x : Str} (hx : nth nms i = some x) (L : Rel nms ρ σ R) (v : V) : Rel nms (setB ρ i (.va v)) σ ((x, dV v) :: R) := by
  refine ⟨fun j y w hy hw => ?_, ?_⟩
  · by_cases hj : j = i
    · subst hj
      rw [hx] at hy; cases hy
      rcases lk_set_eq (ρ := ρ) (i := j) (b := .va v) with e | e
      · rw [e] at hw; cases hw; simp
      · rw [e] at hw; cases hw
    · rw [lk_set_ne hj] at hw
      rw [lookup_put, if_neg (ne_ix hnd hy hx hj)]
      exact L.va j y w hy hw
  · obtain ⟨α, h1, h2⟩ := L.ow
    have no : ∀ j l, lk (setB ρ i (.va v)) j = .ow l → j ≠ i ∧ lk ρ j = .ow l := fun j l e => by
      have : j ≠ i := fun q => by
        subst q
        rcases lk_set_eq (ρ := ρ) (i := j) (b := .va v) with e' | e' <;> rw [e'] at e <;> cases e
      exact ⟨this, by rwa [lk_set_ne this] at e⟩
    refine ⟨α, fun j y l hy hw => ?_, fun j j' l m hj hj' e => h2 j j' l m (no j l hj).2 (no j' m hj').2 e⟩
    obtain ⟨hne, hw⟩ := no j l hw
    obtain ⟨a, b⟩ := h1 j y l hy hw
    exact ⟨by rw [lookup_put, if_neg (ne_ix hnd hy hx hne)]; exact a, b⟩

theorem Rel.new (hnd : nms.Nodup) {i : Nat} {x : Str} (hx : nth nms i = some x) (L : Rel nms ρ σ R) {l : Addr} (hin : ∀ j m, lk ρ j = .ow m → ∃ y, nth nms j = some y) (hl : ∀ p ∈ σ, p.1 ≠ l) : Rel nms (setB ρ i (.ow [])) ((l, []) :: σ) ((x, .adr (.ref l)) :: R) := by
  obtain ⟨α, h1, h2⟩ := L.ow
  have no : ∀ j m, lk (setB ρ i (.ow [])) j = .ow m → (j = i ∧ m = []) ∨ (j ≠ i ∧ lk ρ j = .ow m) := fun j m e => by
    by_cases hj : j = i
    · subst hj
      rcases lk_set_eq (ρ := ρ) (i := j) (b := .ow []) with e' | e' <;> rw [e'] at e <;> cases e
      exact .inl ⟨rfl, rfl⟩
    · exact .inr ⟨hj, by rwa [lk_set_ne hj] at e⟩
  refine ⟨fun j y w hy hw => ?_, fun j => if j = i then l else α j, fun j y m hy hw => ?_, fun j j' m m' hj hj' e => ?_⟩
  · have hj : j ≠ i := fun q => by
      subst q
      rcases lk_set_eq (ρ := ρ) (i := j) (b := .ow []) with e' | e' <;> rw [e'] at hw <;> cases hw
    rw [lk_set_ne hj] at hw
    rw [lookup_put, if_neg (ne_ix hnd hy hx hj)]
    exact L.va j y w hy hw
  · rcases no j m hw with ⟨rfl, rfl⟩ | ⟨hj, hw⟩
    · rw [hx] at hy; cases hy
      simp only [if_true]
      exact ⟨by simp, by rw [dVs]; exact .head _⟩
    · simp only [if_neg hj]
      obtain ⟨a, b⟩ := h1 j y m hy hw
      exact ⟨by rw [lookup_put, if_neg (ne_ix hnd hy hx hj)]; exact a, .tail _ b⟩
  · have ne : ∀ j m, lk ρ j = .ow m → α j ≠ l := fun j m hm => by
      obtain ⟨y, hy⟩ := hin j m hm
      exact hl _ (h1 j y m hy hm).2
    rcases no j m hj with ⟨rfl, rfl⟩ | ⟨hn, hw⟩
    · rcases no j' m' hj' with ⟨rfl, rfl⟩ | ⟨hn', hw'⟩
      · rfl
      · simp only [if_true, if_neg hn'] at e
        exact absurd e.symm (ne _ _ hw')
    · rcases no j' m' hj' with ⟨rfl, rfl⟩ | ⟨hn', hw'⟩
      · simp only [if_true, if_neg hn] at e
        exact absurd e (ne _ _ hw)
      · simp only [if_neg hn, if_neg hn'] at e
        exact h2 j j' m m' hw hw' e

theorem Rel.app {i : Nat} {x : Str} (hx : nth nms i = some x) (L : Rel nms ρ σ R) {l : List V} {v : V} (hw : lk ρ i = .ow l) :
    ∃ (a : Addr) (k : Nat), R.lookup x = some (.adr (.ref a)) ∧ σ[k]? = some (a, dVs l) ∧ Rel nms (setB ρ i (.ow (l ++ [v]))) (σ.set k (a, dVs l ++ [dV v])) R := by
  obtain ⟨α, h1, h2⟩ := L.ow
  obtain ⟨hl, hm⟩ := h1 i x l hx hw
  obtain ⟨k, hk⟩ := List.getElem?_of_mem hm
  refine ⟨α i, k, hl, hk, fun j y w hy hv => ?_, α, fun j y m hy hv => ?_, fun j j' m m' hj hj' e => ?_⟩
  · have hj : j ≠ i := fun q => by
      subst q
      rcases lk_set_eq (ρ := ρ) (i := j) (b := .ow (l ++ [v])) with e' | e' <;> rw [e'] at hv <;> cases hv
    rw [lk_set_ne hj] at hv
    exact L.va j y w hy hv
  · by_cases hj : j = i
    · subst hj
      rw [hx] at hy; cases hy
      rcases lk_set_eq (ρ := ρ) (i := j) (b := .ow (l ++ [v])) with e' | e'
      · rw [e'] at hv; cases hv
        refine ⟨hl, ?_⟩
        rw [dVs_app, dVs, dVs]
        have hlt : k < σ.length := (List.getElem?_eq_some_iff.mp hk).1
        exact List.mem_of_getElem? (i := k) (by rw [List.getElem?_set_self hlt])
      · rw [e'] at hv; cases hv
    · rw [lk_set_ne hj] at hv
      obtain ⟨a, b⟩ := h1 j y m hy hv
      refine ⟨a, ?_⟩
      obtain ⟨k', hk'⟩ := List.getElem?_of_mem b
      have hne : k ≠ k' := fun q => by
        subst q
        rw [hk] at hk'
        have : α i = α j := congrArg Prod.fst (Option.some.inj hk')
        exact hj (h2 i j l m hw hv this).symm
      exact List.mem_of_getElem? (i := k') (by rw [List.getElem?_set_ne hne]; exact hk')
  · have no : ∀ j m, lk (setB ρ i (.ow (l ++ [v]))) j = .ow m → ∃ m', lk ρ j = .ow m' := fun j m e => by
      by_cases hj : j = i
      · subst hj; exact ⟨l, hw⟩
      · exact ⟨m, by rwa [lk_set_ne hj] at e⟩
    obtain ⟨n, hn⟩ := no j m hj
    obtain ⟨n', hn'⟩ := no j' m' hj'
    exact h2 j j' n n' hn hn' e
end

/-- a def's frame -/
structure FrOk (c : Cx) (nms : List Str) (ns : List (Str × NameKind)) : Prop extends EnvOk c ns where
  fk : c.env.scope.kind = .function
  fn : c.env.func.isSome = true
  nm : ∀ x, c.env.kindOf x = ns.lookup x
  nd : nms.Nodup

/-- no more places than names -/
abbrev Fit (nms : List Str) (ρ : List B) : Prop := ∀ j m, lk ρ j = .ow m → ∃ y, nth nms j = some y
theorem Fit.set {nms : List Str} {ρ : List B} (h : Fit nms ρ) {i : Nat} {x : Str} (hx : nth nms i = some x) {b : B} : Fit nms (setB ρ i b) := fun j m e => by
  by_cases hj : j = i
  · subst hj; exact ⟨x, hx⟩
  · exact h j m (by rwa [lk_set_ne hj] at e)

section
variable {W : Wd} {cf : Cf} {K : Nat} {c : Cx} {nms : List Str} {ns : List (Str × NameKind)}

theorem st_of {x : Vn} (O : FrOk c nms ns) (h : stV nms ns x = true) : St c x.x := by
  simp only [stV, Bool.and_eq_true, Bool.or_eq_true, eqK, decide_eq_true_eq] at h
  rcases h.1.2 with k | k
  · exact .inl ((O.nm _).trans k)
  · exact .inr ⟨(O.nm _).trans k, O.cl _ (.inl k), O.fn⟩
theorem nth_of {x : Vn} (h : stV nms ns x = true) : nth nms x.i = some x.x := by
  simp only [stV, Bool.and_eq_true] at h
  exact eqS_of h.1.1
theorem lname_of {x : Vn} (h : stV nms ns x = true) : (x.x == ("__debug__" : Str)) = false ∧ (x.x == ("__classdict__" : Str)) = false := by
  simp only [stV, lname, Bool.and_eq_true, Bool.not_eq_true'] at h
  exact h.2

/-- a part of a block says what the block does -/
def Snd (cf : Cf) (c : Cx) (nms : List Str) (k : Ck) (rs : List Stmt) : Prop := ∀ ρ σ R, Rel nms ρ σ R → Fit nms ρ →
  (∀ v, k.run cf ρ = some (.ret v) → Exs c σ R rs (.ret (dV v))) ∧ (∀ ρ', k.run cf ρ = some (.next ρ') → ∃ σ' R', Rel nms ρ' σ' R' ∧ Fit nms ρ' ∧ Exs c σ R rs (.next σ' R'))

theorem snd_then {k : Ck} {rs : List Stmt} {st : Stmt} (hk : Snd cf c nms k rs) (run : Cf → List B → Option R)
    (h : ∀ ρ σ R, Rel nms ρ σ R → Fit nms ρ → ∀ r, run cf ρ = some r → ∃ ρ1 σ1 R1, Rel nms ρ1 σ1 R1 ∧ Fit nms ρ1 ∧ Ex1 c σ R st (.next σ1 R1) ∧ k.run cf ρ1 = some r) : Snd cf c nms ⟨run⟩ (st :: rs) := fun ρ σ R L Z => by
  refine ⟨fun v e => ?_, fun ρ' e => ?_⟩
  · obtain ⟨ρ1, σ1, R1, L1, Z1, x, e1⟩ := h ρ σ R L Z _ e
    exact exs_cons x ((hk ρ1 σ1 R1 L1 Z1).1 v e1)
  · obtain ⟨ρ1, σ1, R1, L1, Z1, x, e1⟩ := h ρ σ R L Z _ e
    obtain ⟨σ', R', L', Z', y⟩ := (hk ρ1 σ1 R1 L1 Z1).2 ρ' e1
    exact ⟨σ', R', L', Z', exs_cons x y⟩

theorem snd_ret {rs : List Stmt} {st : Stmt} (run : Cf → List B → Option R) (h : ∀ ρ σ R, Rel nms ρ σ R → Fit nms ρ → ∀ r, run cf ρ = some r → ∃ v, r = .ret v ∧ Ex1 c σ R st (.ret (dV v))) : Snd cf c nms ⟨run⟩ (st :: rs) := fun ρ σ R L Z => by
  refine ⟨fun v e => ?_, fun ρ' e => ?_⟩
  · obtain ⟨w, e1, x⟩ := h ρ σ R L Z _ e
    cases e1; exact exs_ret x
  · obtain ⟨w, e1, x⟩ := h ρ σ R L Z _ e
    cases e1

theorem swF {e : E} {t : Option Expr} {n : Nat} {env : Env} (h : isC e = false) (hc : chk nms ns e = true) : swapsWith (den e) t n env = pure false := by
  cases e <;> first
    | rfl
    | (exfalso; cases h; done)
    | (exfalso; simp [chk] at hc; done)
theorem swT {e : E} {es : List Expr} {k n : Nat} {q : Pos} {env : Env} (hc : chk nms ns e = true) : swapsWithSole [.Tuple es k q] (den e) n env = pure false := by
  cases e <;> first
    | rfl
    | (exfalso; simp [chk] at hc; done)
theorem swN {e : E} {es : List Expr} {k : Nat} {q : Pos} {env : Env} (h : isT e = false) (hc : chk nms ns e = true) : swappedStores [.Tuple es k q] (den e) env = pure none := by
  cases e <;> first
    | rfl
    | (exfalso; cases h; done)
    | (exfalso; simp [chk] at hc; done)

theorem sk_asg (gd : Gd W) (hcf : Calls W cf K) (hW : c.toWd = W) (hr : Rm c.A K) (O : FrOk c nms ns) {x : Vn} {e : E} {p : Pos} {k : Ck} {rs : List Stmt} (hc : chkS nms ns (.asg x e p) = true) (hk : Snd cf c nms k rs) : Snd cf c nms (cs1 (.asg x e p) k) (denS (.asg x e p) :: rs) := by
  simp only [chkS, Bool.and_eq_true, Bool.not_eq_true'] at hc
  refine snd_then hk _ fun ρ σ R L Z r h => ?_
  have h' : aS x.i k cf ρ ((ce e).run cf ρ) = some r := h
  cases e1 : (ce e).run cf ρ with
  | none => rw [e1] at h'; cases h'
  | some v =>
    rw [e1] at h'
    exact ⟨_, σ, _, L.setv O.nd (nth_of hc.1.1) v, Z.set (nth_of hc.1.1), ex_assign ((snd_e gd hcf e c nms ns σ ρ R hW hr hc.1.2 O.toEnvOk L).tv v e1) (st_of O hc.1.1) (swF hc.2 hc.1.2), h'⟩

theorem sk_asc (gd : Gd W) (hcf : Calls W cf K) (hW : c.toWd = W) (hr : Rm c.A K) (O : FrOk c nms ns) {x : Vn} {e : E} {p : Pos} {k : Ck} {rs : List Stmt} (hc : chkS nms ns (.asc x e p) = true) (hk : Snd cf c nms k rs) : Snd cf c nms (cs1 (.asc x e p) k) (denS (.asc x e p) :: rs) := by
  simp only [chkS, Bool.and_eq_true] at hc
  refine snd_then hk _ fun ρ σ R L Z r h => ?_
  have h' : aS x.i k cf ρ ((ce e).run cf ρ) = some r := h
  cases e1 : (ce e).run cf ρ with
  | none => rw [e1] at h'; cases h'
  | some v =>
    rw [e1] at h'
    cases e with
    | comp el y q it sc caps pp =>
      have hc2 := hc.2
      simp only [Bool.and_eq_true, Bool.not_eq_true', decide_eq_true_eq, eqK] at hc2
      obtain ⟨ds, vs, rfl, I⟩ := comp_in (snd_e gd hcf el) (snd_e gd hcf it) hW hr hc.1.2 O.toEnvOk L e1
      refine ⟨_, σ, _, L.setv O.nd (nth_of hc.1.1) (.lst vs), Z.set (nth_of hc.1.1), ?_, h'⟩
      rw [dV]
      have hsw : swapsWith (.ListComp (den el) [⟨.Name y q, den it, [], 0⟩] sc pp) (some (.Name x.x x.p)) p.line c.env = pure true := by
        have e0 : swapsWith (.ListComp (den el) [⟨.Name y q, den it, [], 0⟩] sc pp) (some (.Name x.x x.p)) p.line c.env =
          pure (c.env.blockKind == .function && c.env.kindOf x.x == some .local && x.p.line == pp.line && !(sc.names.any fun y => y.1 == x.x && (y.2 == .local || y.2 == .cell))) := rfl
        rw [e0]
        have hb : c.env.blockKind = .function := by unfold Env.blockKind; rw [O.fk]; rfl
        rw [hb, O.nm, hc2.1.1, hc2.1.2, hc2.2]
        simp
      exact ex_comp I.K I.hfree I.hR I.len (I.src q) I.elt (st_of O hc.1.1) hsw I.fs
    | _ => cases hc.2

theorem sk_swp (gd : Gd W) (hcf : Calls W cf K) (hW : c.toWd = W) (hr : Rm c.A K) (O : FrOk c nms ns) {x y : Vn} {kk k' : Nat} {q q' p : Pos} {a b : E} {k : Ck} {rs : List Stmt} (hc : chkS nms ns (.swp x y kk q a b k' q' p) = true) (hk : Snd cf c nms k rs) :
    Snd cf c nms (cs1 (.swp x y kk q a b k' q' p) k) (denS (.swp x y kk q a b k' q' p) :: rs) := by
  simp only [chkS, swB, Bool.and_eq_true, Bool.not_eq_true', decide_eq_true_eq, eqK] at hc
  obtain ⟨⟨⟨⟨hx, hy⟩, ha⟩, hb⟩, ⟨⟨⟨⟨h1, h2⟩, h3⟩, h4⟩, h5⟩, h6⟩ := hc
  refine snd_then hk _ fun ρ σ R L Z r h => ?_
  have h' : swS x.i y.i k cf ρ ((ce a).run cf ρ) ((ce b).run cf ρ) = some r := h
  cases e1 : (ce a).run cf ρ with
  | none => rw [e1] at h'; cases h'
  | some v =>
    cases e2 : (ce b).run cf ρ with
    | none => rw [e1, e2] at h'; cases h'
    | some w =>
      rw [e1, e2] at h'
      have ta := (snd_e gd hcf a c nms ns σ ρ R hW hr ha O.toEnvOk L).tv v e1
      have tb := (snd_e gd hcf b c nms ns σ ρ R hW hr hb O.toEnvOk L).tv w e2
      refine ⟨_, σ, (x.x, dV v) :: (y.x, dV w) :: R, ((L.setv O.nd (nth_of hx) v).setv O.nd (nth_of hy) w).congr (put_swap h4), (Z.set (nth_of hx)).set (nth_of hy), ?_, h'⟩
      exact ex_swap2 (tv_tuple (ts_cons ta (ts_cons tb ts_nil (star_den hb)) (star_den ha))) (st_of O hx) (st_of O hy) (swapped2 O.fk ((O.nm _).trans h1) ((O.nm _).trans h2) h3 h4 (star_chk ha) (star_chk hb) h5 h6) rfl

theorem sk_unp (gd : Gd W) (hcf : Calls W cf K) (hW : c.toWd = W) (hr : Rm c.A K) (O : FrOk c nms ns) {x y : Vn} {kk : Nat} {q p : Pos} {e : E} {k : Ck} {rs : List Stmt} (hc : chkS nms ns (.unp x y kk q e p) = true) (hk : Snd cf c nms k rs) :
    Snd cf c nms (cs1 (.unp x y kk q e p) k) (denS (.unp x y kk q e p) :: rs) := by
  simp only [chkS, Bool.and_eq_true, Bool.not_eq_true'] at hc
  obtain ⟨⟨⟨hx, hy⟩, he⟩, ht⟩ := hc
  refine snd_then hk _ fun ρ σ R L Z r h => ?_
  have h' : upS x.i y.i k cf ρ (asL ((ce e).run cf ρ)) = some r := h
  cases e1 : (ce e).run cf ρ with
  | none => rw [e1] at h'; cases h'
  | some v =>
    rw [e1] at h'
    have te := (snd_e gd hcf e c nms ns σ ρ R hW hr he O.toEnvOk L).tv v e1
    cases e2 : asL (some v) with
    | none => rw [e2] at h'; cases h'
    | some l =>
      rw [e2] at h'
      rcases l with _ | ⟨a, _ | ⟨b, _ | ⟨d, r'⟩⟩⟩
      · cases h'
      · cases h'
      · refine ⟨_, σ, (y.x, dV b) :: (x.x, dV a) :: R, (L.setv O.nd (nth_of hx) a).setv O.nd (nth_of hy) b, (Z.set (nth_of hx)).set (nth_of hy), ?_, h'⟩
        unfold asL at e2
        split at e2
        · rename_i e3
          cases e3
          obtain ⟨_, e4⟩ := cond_some e2
          exact ex_unpack2l (by rw [e4] at te; simpa only [dV, dVs] using te) (st_of O hx) (st_of O hy) (swN ht he) (swT he)
        · rename_i e3
          cases e3
          obtain ⟨_, e4⟩ := cond_some e2
          exact ex_unpack2 (by rw [e4] at te; simpa only [dV, dVs] using te) (st_of O hx) (st_of O hy) (swN ht he) (swT he)
        · cases e2
      · cases h'

theorem sk_new (O : FrOk c nms ns) {x : Vn} {q p : Pos} {k : Ck} {rs : List Stmt} (hc : chkS nms ns (.new x q p) = true) (hk : Snd cf c nms k rs) : Snd cf c nms (cs1 (.new x q p) k) (denS (.new x q p) :: rs) := fun ρ σ R L Z => by
  simp only [chkS] at hc
  have key : ∀ r, (cs1 (.new x q p) k).run cf ρ = some r → ∃ v, r = .ret v ∧ k.run cf (setB ρ x.i (.ow [])) = some (.ret v) := fun r h => by
    have h' : onlyR (k.run cf (setB ρ x.i (.ow []))) = some r := h
    unfold onlyR at h'
    split at h'
    · rename_i e; cases h'; exact ⟨_, rfl, e⟩
    · cases h'
  refine ⟨fun v e => ?_, fun ρ' e => ?_⟩
  · obtain ⟨w, e1, e2⟩ := key _ e
    cases e1
    refine exs_newlist (st_of O hc) fun l s F => ?_
    exact (hk _ _ _ (L.new O.nd (nth_of hc) Z fun p hp e => (List.pairwise_cons.mp F.oa).1 p hp e.symm) (Z.set (nth_of hc))).1 v e2 s F
  · obtain ⟨w, e1, e2⟩ := key _ e
    cases e1

theorem sk_nw2 (O : FrOk c nms ns) {x y : Vn} {kk k' : Nat} {q q1 q2 q' p : Pos} {k : Ck} {rs : List Stmt} (hc : chkS nms ns (.nw2 x y kk q q1 q2 k' q' p) = true) (hk : Snd cf c nms k rs) :
    Snd cf c nms (cs1 (.nw2 x y kk q q1 q2 k' q' p) k) (denS (.nw2 x y kk q q1 q2 k' q' p) :: rs) := fun ρ σ R L Z => by
  simp only [chkS, swB, Bool.and_eq_true, Bool.not_eq_true', decide_eq_true_eq, eqK] at hc
  obtain ⟨⟨hx, hy⟩, ⟨⟨⟨⟨h1, h2⟩, h3⟩, h4⟩, h5⟩, h6⟩ := hc
  have key : ∀ r, (cs1 (.nw2 x y kk q q1 q2 k' q' p) k).run cf ρ = some r → ∃ v, r = .ret v ∧ k.run cf (setB (setB ρ x.i (.ow [])) y.i (.ow [])) = some (.ret v) := fun r h => by
    have h' : onlyR (k.run cf (setB (setB ρ x.i (.ow [])) y.i (.ow []))) = some r := h
    unfold onlyR at h'
    split at h'
    · rename_i e; cases h'; exact ⟨_, rfl, e⟩
    · cases h'
  refine ⟨fun v e => ?_, fun ρ' e => ?_⟩
  · obtain ⟨w, e1, e2⟩ := key _ e
    cases e1
    refine exs_newlist2 (st_of O hx) (st_of O hy) (fun l l' s F => ?_) (swapped2 O.fk ((O.nm _).trans h1) ((O.nm _).trans h2) h3 h4 rfl rfl h5 h6) rfl
    have p1 := List.pairwise_cons.mp F.oa
    have p2 := List.pairwise_cons.mp p1.2
    have L1 := L.new O.nd (nth_of hx) (l := l) Z fun p hp e => p2.1 p hp e.symm
    have L2 := L1.new O.nd (nth_of hy) (l := l') (Z.set (nth_of hx)) fun p hp e => p1.1 p hp e.symm
    exact (hk _ _ _ (L2.congr (put_swap h4)) ((Z.set (nth_of hx)).set (nth_of hy))).1 v e2 s F
  · obtain ⟨w, e1, e2⟩ := key _ e
    cases e1
theorem sk_nw1 (O : FrOk c nms ns) {x y : Vn} {kk k' kz : Nat} {z : Int} {q q1 q2 q' p : Pos} {k : Ck} {rs : List Stmt} (hc : chkS nms ns (.nw1 x y kk q q1 q2 z kz k' q' p) = true) (hk : Snd cf c nms k rs) :
    Snd cf c nms (cs1 (.nw1 x y kk q q1 q2 z kz k' q' p) k) (denS (.nw1 x y kk q q1 q2 z kz k' q' p) :: rs) := fun ρ σ R L Z => by
  simp only [chkS, swB, Bool.and_eq_true, Bool.not_eq_true', decide_eq_true_eq, eqK] at hc
  obtain ⟨⟨hx, hy⟩, ⟨⟨⟨⟨h1, h2⟩, h3⟩, h4⟩, h5⟩, h6⟩ := hc
  have key : ∀ r, (cs1 (.nw1 x y kk q q1 q2 z kz k' q' p) k).run cf ρ = some r → ∃ v, r = .ret v ∧ k.run cf (setB (setB ρ x.i (.ow [])) y.i (.va (.int z))) = some (.ret v) := fun r h => by
    have h' : onlyR (k.run cf (setB (setB ρ x.i (.ow [])) y.i (.va (.int z)))) = some r := h
    unfold onlyR at h'
    split at h'
    · rename_i e; cases h'; exact ⟨_, rfl, e⟩
    · cases h'
  refine ⟨fun v e => ?_, fun ρ' e => ?_⟩
  · obtain ⟨w, e1, e2⟩ := key _ e
    cases e1
    refine exs_newlist1 (st_of O hx) (st_of O hy) (fun l s F => ?_) (swapped2 O.fk ((O.nm _).trans h1) ((O.nm _).trans h2) h3 h4 rfl rfl h5 h6) rfl
    have p1 := List.pairwise_cons.mp F.oa
    have L1 := L.new O.nd (nth_of hx) (l := l) Z fun p hp e => p1.1 p hp e.symm
    have L2 := L1.setv O.nd (nth_of hy) (.int z)
    rw [dV] at L2
    exact (hk _ _ _ (L2.congr (put_swap h4)) ((Z.set (nth_of hx)).set (nth_of hy))).1 v e2 s F
  · obtain ⟨w, e1, e2⟩ := key _ e
    cases e1

theorem app_den {x : Str} {px ap cp : Pos} {e : E} {env : Env} (h : chk nms ns e = true) (hl : ap.endLine = cp.line) : eval (.Call (.Attribute (.Name x px) "append" ap) [den e] [] cp) env = (do
      let ov ← eval (.Name x px) env
      standAt ap.atName
      let (f, first) ← holding [ov] (getMethod ov "append" (do return (← importBound (.Name x px) env).getD true))
      callWith cp f first (backTo cp (starEach [den e] env)) []) := by
  have hs := star_den (rest := []) (env := env) h
  have hp : methodCallPos true (.Name x px) env ap cp = pure cp := by
    unfold methodCallPos
    rw [if_pos (by simp [hl])]
  have hm : ∀ ov, methodCall (.Name x px) "append" ap cp env ov 1 (backTo cp (starEach [den e] env)) [] = (do
      let (f, first) ← holding [ov] (getMethod ov "append" (do return (← importBound (.Name x px) env).getD true))
      callWith cp f first (backTo cp (starEach [den e] env)) []) := by
    intro ov
    unfold methodCall
    rw [hs]
    have e1 : methodCallForm 1 (backTo cp ((false, eval (den e) env) :: starEach [] env)) [] = true := rfl
    rw [e1, hp]
    rfl
  exact congrArg (fun (f : Value → Sem Value) => (do
      let ov ← eval (.Name x px) env
      standAt ap.atName
      f ov : Sem Value)) (funext hm)

theorem sk_app (gd : Gd W) (hcf : Calls W cf K) (hW : c.toWd = W) (hr : Rm c.A K) (O : FrOk c nms ns) {x : Vn} {e : E} {ap cp p : Pos} {k : Ck} {rs : List Stmt} (hc : chkS nms ns (.app x e ap cp p) = true) (hk : Snd cf c nms k rs) :
    Snd cf c nms (cs1 (.app x e ap cp p) k) (denS (.app x e ap cp p) :: rs) := by
  simp only [chkS, Bool.and_eq_true, decide_eq_true_eq] at hc
  obtain ⟨hc, hap⟩ := hc
  refine snd_then hk _ fun ρ σ R L Z r h => ?_
  have h' : apS x.i k cf ρ (lk ρ x.i) ((ce e).run cf ρ) = some r := h
  cases e1 : lk ρ x.i with
  | un => rw [e1] at h'; cases h'
  | va _ => rw [e1] at h'; cases h'
  | ow l =>
    cases e2 : (ce e).run cf ρ with
    | none => rw [e1, e2] at h'; cases h'
    | some v =>
      rw [e1, e2] at h'
      have h2 : (bif Nat.blt l.length 4096 then k.run cf (setB ρ x.i (.ow (l ++ [v]))) else .none) = some r := h'
      cases hb : Nat.blt l.length 4096 with
      | false => rw [hb] at h2; cases h2
      | true =>
        rw [hb] at h2
        obtain ⟨a, j, hl, hj, L1⟩ := L.app (nth_of hc.1) (v := v) e1
        have ln := lname_of hc.1
        have hlt : l.length < 4096 := by simpa using hb
        refine ⟨_, _, R, L1, Z.set (nth_of hc.1), ?_, h2⟩
        exact ex_append (tv_name hl ln.1 ln.2) hj (by rw [dVs_len]; exact hlt) ((snd_e gd hcf e c nms ns σ ρ R hW hr hc.2 O.toEnvOk L).tv v e2) (app_den hc.2 hap) (star_den hc.2) (by unfold interactive; rw [O.fk]; rfl) rfl

theorem sk_exp (gd : Gd W) (hcf : Calls W cf K) (hW : c.toWd = W) (hr : Rm c.A K) (O : FrOk c nms ns) {e : E} {p : Pos} {k : Ck} {rs : List Stmt} (hc : chkS nms ns (.exp e p) = true) (hk : Snd cf c nms k rs) : Snd cf c nms (cs1 (.exp e p) k) (denS (.exp e p) :: rs) := by
  simp only [chkS, Bool.and_eq_true, Bool.not_eq_true'] at hc
  refine snd_then hk _ fun ρ σ R L Z r h => ?_
  have h' : exS k cf ρ ((ce e).run cf ρ) = some r := h
  unfold exS at h'
  split at h'
  · rename_i e1
    have te := (snd_e gd hcf e c nms ns σ ρ R hW hr hc.1 O.toEnvOk L).tv _ e1
    refine ⟨ρ, σ, R, L, Z, fun s F => ?_, h'⟩
    refine wpAny_Expr (tv_then te F fun v s1 k1 F1 o1 => ?_) (by unfold interactive; rw [O.fk]; rfl) (swF hc.2 hc.1)
    rw [dV] at o1
    cases o1
    exact ⟨rfl, k1.sa, rfl, F1, .of_kp k1.kp⟩
  · cases h'

theorem sk_ret (gd : Gd W) (hcf : Calls W cf K) (hW : c.toWd = W) (hr : Rm c.A K) (O : FrOk c nms ns) {e : E} {p : Pos} {k : Ck} {rs : List Stmt} (hc : chkS nms ns (.ret e p) = true) : Snd cf c nms (cs1 (.ret e p) k) (denS (.ret e p) :: rs) := by
  simp only [chkS] at hc
  refine snd_ret _ fun ρ σ R L Z r h => ?_
  have h' : retS ((ce e).run cf ρ) = some r := h
  unfold retS at h'
  split at h'
  · rename_i v e1
    cases h'
    exact ⟨v, rfl, ex_return ((snd_e gd hcf e c nms ns σ ρ R hW hr hc O.toEnvOk L).tv _ e1) rs_same⟩
  · cases h'
theorem sk_ro1 (O : FrOk c nms ns) {x : Vn} {p : Pos} {k : Ck} {rs : List Stmt} (hc : chkS nms ns (.ro1 x p) = true) : Snd cf c nms (cs1 (.ro1 x p) k) (denS (.ro1 x p) :: rs) := by
  simp only [chkS] at hc
  refine snd_ret _ fun ρ σ R L Z r h => ?_
  have h' : ro1S (lk ρ x.i) = some r := h
  unfold ro1S at h'
  split at h'
  · rename_i l e1
    cases h'
    obtain ⟨α, h1, _⟩ := L.ow
    obtain ⟨a, b⟩ := h1 _ _ _ (nth_of hc) e1
    have ln := lname_of hc
    refine ⟨_, rfl, ?_⟩
    rw [dV]
    exact ex_return (tv_name a ln.1 ln.2) (rs_own b)
  · cases h'
theorem sk_ro2 (O : FrOk c nms ns) {x y : Vn} {kk : Nat} {q p : Pos} {k : Ck} {rs : List Stmt} (hc : chkS nms ns (.ro2 x y kk q p) = true) : Snd cf c nms (cs1 (.ro2 x y kk q p) k) (denS (.ro2 x y kk q p) :: rs) := by
  simp only [chkS, Bool.and_eq_true] at hc
  refine snd_ret _ fun ρ σ R L Z r h => ?_
  have h' : ro2S (lk ρ x.i) (lk ρ y.i) = some r := h
  unfold ro2S at h'
  split at h'
  · rename_i l m e1 e2
    cases h'
    obtain ⟨α, h1, _⟩ := L.ow
    obtain ⟨a, b⟩ := h1 _ _ _ (nth_of hc.1) e1
    obtain ⟨a', b'⟩ := h1 _ _ _ (nth_of hc.2) e2
    have ln := lname_of hc.1
    have ln' := lname_of hc.2
    refine ⟨_, rfl, ?_⟩
    simp only [dV, dVs]
    exact ex_return (tv_tuple (ts_cons (tv_name a ln.1 ln.2) (ts_cons (tv_name a' ln'.1 ln'.2) ts_nil))) (rs_own2 b b')
  · cases h'

theorem sk_ite (gd : Gd W) (hcf : Calls W cf K) (hW : c.toWd = W) (hr : Rm c.A K) (O : FrOk c nms ns) {t : E} {a b : List S} {p : Pos} {k : Ck} {rs : List Stmt} (hc : chk nms ns t = true) (ha : Snd cf c nms (css a) (denSs a)) (hb : Snd cf c nms (css b) (denSs b))
    (hk : Snd cf c nms k rs) : Snd cf c nms (cs1 (.ite t a b p) k) (denS (.ite t a b p) :: rs) := fun ρ σ R L Z => by
  have tt := (snd_e gd hcf t c nms ns σ ρ R hW hr hc O.toEnvOk L).tt
  have key : ∀ r, (cs1 (.ite t a b p) k).run cf ρ = some r → ((ct t).run cf ρ = some true ∧ seqS k cf ((css a).run cf ρ) = some r) ∨ ((ct t).run cf ρ = some false ∧ seqS k cf ((css b).run cf ρ) = some r) := fun r h => by
    have h' : iteS (css a) (css b) k cf ρ ((ct t).run cf ρ) = some r := h
    cases e : (ct t).run cf ρ with
    | none => rw [e] at h'; cases h'
    | some d =>
      rw [e] at h'
      cases d with
      | true => exact .inl ⟨rfl, h'⟩
      | false => exact .inr ⟨rfl, h'⟩
  have seq : ∀ {o : Option Mine.R} {r}, seqS k cf o = some r → (∃ v, o = some (.ret v) ∧ r = .ret v) ∨ ∃ ρ', o = some (.next ρ') ∧ k.run cf ρ' = some r := fun {o r} h => by
    unfold seqS at h
    split at h
    · cases h; exact .inl ⟨_, rfl, rfl⟩
    · exact .inr ⟨_, rfl, h⟩
    · cases h
  refine ⟨fun v e => ?_, fun ρ' e => ?_⟩
  · rcases key _ e with ⟨e1, e2⟩ | ⟨e1, e2⟩
    · rcases seq e2 with ⟨w, e3, e4⟩ | ⟨ρ1, e3, e4⟩
      · cases e4; exact exs_ret (ex_if_t (tt _ e1) ((ha ρ σ R L Z).1 v e3))
      · obtain ⟨σ1, R1, L1, Z1, x⟩ := (ha ρ σ R L Z).2 ρ1 e3
        exact exs_cons (ex_if_t (tt _ e1) x) ((hk ρ1 σ1 R1 L1 Z1).1 v e4)
    · rcases seq e2 with ⟨w, e3, e4⟩ | ⟨ρ1, e3, e4⟩
      · cases e4; exact exs_ret (ex_if_f (tt _ e1) ((hb ρ σ R L Z).1 v e3))
      · obtain ⟨σ1, R1, L1, Z1, x⟩ := (hb ρ σ R L Z).2 ρ1 e3
        exact exs_cons (ex_if_f (tt _ e1) x) ((hk ρ1 σ1 R1 L1 Z1).1 v e4)
  · rcases key _ e with ⟨e1, e2⟩ | ⟨e1, e2⟩
    · rcases seq e2 with ⟨w, e3, e4⟩ | ⟨ρ1, e3, e4⟩
      · cases e4
      · obtain ⟨σ1, R1, L1, Z1, x⟩ := (ha ρ σ R L Z).2 ρ1 e3
        obtain ⟨σ2, R2, L2, Z2, y⟩ := (hk ρ1 σ1 R1 L1 Z1).2 ρ' e4
        exact ⟨σ2, R2, L2, Z2, exs_cons (ex_if_t (tt _ e1) x) y⟩
    · rcases seq e2 with ⟨w, e3, e4⟩ | ⟨ρ1, e3, e4⟩
      · cases e4
      · obtain ⟨σ1, R1, L1, Z1, x⟩ := (hb ρ σ R L Z).2 ρ1 e3
        obtain ⟨σ2, R2, L2, Z2, y⟩ := (hk ρ1 σ1 R1 L1 Z1).2 ρ' e4
        exact ⟨σ2, R2, L2, Z2, exs_cons (ex_if_f (tt _ e1) x) y⟩

theorem whl_of (gd : Gd W) (hcf : Calls W cf K) (hW : c.toWd = W) (hr : Rm c.A K) (O : FrOk c nms ns) {t : E} {b : List S} {k : Ck} (hc : chk nms ns t = true) (hb : Snd cf c nms (css b) (denSs b)) :
    ∀ (n : Nat) ρ σ R r, Rel nms ρ σ R → Fit nms ρ → whlS (ct t) (css b) k cf n ρ = some r → ∃ ρ1 σ1 R1, Rel nms ρ1 σ1 R1 ∧ Fit nms ρ1 ∧ Wl c (den t) (denSs b) σ R σ1 R1 ∧ k.run cf ρ1 = some r
  | 0, ρ, σ, R, r, L, Z, h => by cases h
  | n + 1, ρ, σ, R, r, L, Z, h => by
    have tt := (snd_e gd hcf t c nms ns σ ρ R hW hr hc O.toEnvOk L).tt
    rw [whlS] at h
    split at h
    · rename_i e1
      split at h
      · rename_i ρ' e2
        obtain ⟨σ1, R1, L1, Z1, x⟩ := (hb ρ σ R L Z).2 ρ' e2
        obtain ⟨ρ2, σ2, R2, L2, Z2, w, e3⟩ := whl_of gd hcf hW hr O hc hb n ρ' σ1 R1 r L1 Z1 h
        exact ⟨ρ2, σ2, R2, L2, Z2, .step (tt _ e1) x w, e3⟩
      · cases h
    · rename_i e1
      exact ⟨ρ, σ, R, L, Z, .done (tt _ e1), h⟩
    · cases h
theorem sk_whl (gd : Gd W) (hcf : Calls W cf K) (hW : c.toWd = W) (hr : Rm c.A K) (O : FrOk c nms ns) {t : E} {b : List S} {p : Pos} {k : Ck} {rs : List Stmt} (hc : chk nms ns t = true) (hb : Snd cf c nms (css b) (denSs b))
    (hk : Snd cf c nms k rs) : Snd cf c nms (cs1 (.whl t b p) k) (denS (.whl t b p) :: rs) := by
  refine snd_then hk _ fun ρ σ R L Z r h => ?_
  obtain ⟨ρ1, σ1, R1, L1, Z1, w, e⟩ := whl_of gd hcf hW hr O hc hb 60 ρ σ R r L Z h
  exact ⟨ρ1, σ1, R1, L1, Z1, ex_while w, e⟩

theorem fr_of (O : FrOk c nms ns) {x : Vn} {b : List S} {k : Ck} (hx : stV nms ns x = true) (hb : Snd cf c nms (css b) (denSs b)) :
    ∀ (ds : List V) ρ σ R r, Rel nms ρ σ R → Fit nms ρ → frS x.i (css b) k cf ds ρ = some r → ∃ ρ1 σ1 R1, Rel nms ρ1 σ1 R1 ∧ Fit nms ρ1 ∧ Fl c (denV x) (denSs b) σ R (dVs ds) σ1 R1 ∧ k.run cf ρ1 = some r
  | [], ρ, σ, R, r, L, Z, h => ⟨ρ, σ, R, L, Z, by rw [dVs]; exact .nil, h⟩
  | d :: ds, ρ, σ, R, r, L, Z, h => by
    rw [frS] at h
    split at h
    · rename_i ρ' e2
      obtain ⟨σ1, R1, L1, Z1, y⟩ := (hb _ σ _ (L.setv O.nd (nth_of hx) d) (Z.set (nth_of hx))).2 ρ' e2
      obtain ⟨ρ2, σ2, R2, L2, Z2, w, e3⟩ := fr_of O hx hb ds ρ' σ1 R1 r L1 Z1 h
      exact ⟨ρ2, σ2, R2, L2, Z2, by rw [dVs]; exact .cons (as_name (st_of O hx)) y w, e3⟩
    · cases h
theorem sk_fr (gd : Gd W) (hcf : Calls W cf K) (hW : c.toWd = W) (hr : Rm c.A K) (O : FrOk c nms ns) {x : Vn} {it : E} {b : List S} {p : Pos} {k : Ck} {rs : List Stmt} (hx : stV nms ns x = true) (hc : chk nms ns it = true) (hb : Snd cf c nms (css b) (denSs b))
    (hk : Snd cf c nms k rs) : Snd cf c nms (cs1 (.fr x it b p) k) (denS (.fr x it b p) :: rs) := by
  refine snd_then hk _ fun ρ σ R L Z r h => ?_
  have h' : frO x.i (css b) k cf ρ ((cr it).run cf ρ) = some r := h
  cases e1 : (cr it).run cf ρ with
  | none => rw [e1] at h'; cases h'
  | some ds =>
    rw [e1] at h'
    obtain ⟨ρ1, σ1, R1, L1, Z1, w, e⟩ := fr_of O hx hb ds ρ σ R r L Z h'
    exact ⟨ρ1, σ1, R1, L1, Z1, ex_for ((snd_e gd hcf it c nms ns σ ρ R hW hr hc O.toEnvOk L).sr ds e1 x.x x.p) w (fun v => fold_den hc), e⟩

theorem fp_of (O : FrOk c nms ns) {x y : Vn} {kk : Nat} {q : Pos} {b : List S} {k : Ck} (hx : stV nms ns x = true) (hy : stV nms ns y = true) (hb : Snd cf c nms (css b) (denSs b)) :
    ∀ (ds : List V) ρ σ R r, Rel nms ρ σ R → Fit nms ρ → fpS x.i y.i (css b) k cf ds ρ = some r → ∃ ρ1 σ1 R1, Rel nms ρ1 σ1 R1 ∧ Fit nms ρ1 ∧ Fl c (.Tuple [denV x, denV y] kk q) (denSs b) σ R (dVs ds) σ1 R1 ∧ k.run cf ρ1 = some r
  | [], ρ, σ, R, r, L, Z, h => ⟨ρ, σ, R, L, Z, by rw [dVs]; exact .nil, h⟩
  | d :: ds, ρ, σ, R, r, L, Z, h => by
    unfold fpS at h
    split at h
    · rename_i e0; cases e0
    · rename_i a a' ds' e0
      cases e0
      split at h
      · rename_i ρ' e2
        obtain ⟨σ1, R1, L1, Z1, y'⟩ := (hb _ σ _ ((L.setv O.nd (nth_of hx) a).setv O.nd (nth_of hy) a') ((Z.set (nth_of hx)).set (nth_of hy))).2 ρ' e2
        obtain ⟨ρ2, σ2, R2, L2, Z2, w, e3⟩ := fp_of O hx hy hb ds ρ' σ1 R1 r L1 Z1 h
        exact ⟨ρ2, σ2, R2, L2, Z2, by simp only [dV, dVs]; exact .cons (as_pair (st_of O hx) (st_of O hy)) y' w, e3⟩
      · cases h
    · cases h
theorem sk_frp (gd : Gd W) (hcf : Calls W cf K) (hW : c.toWd = W) (hr : Rm c.A K) (O : FrOk c nms ns) {x y : Vn} {kk : Nat} {q : Pos} {it : E} {b : List S} {p : Pos} {k : Ck} {rs : List Stmt} (hx : stV nms ns x = true) (hy : stV nms ns y = true) (hc : chk nms ns it = true) (hb : Snd cf c nms (css b) (denSs b))
    (hk : Snd cf c nms k rs) : Snd cf c nms (cs1 (.frp x y kk q it b p) k) (denS (.frp x y kk q it b p) :: rs) := by
  refine snd_then hk _ fun ρ σ R L Z r h => ?_
  have h' : fpO x.i y.i (css b) k cf ρ ((crp it).run cf ρ) = some r := h
  cases e1 : (crp it).run cf ρ with
  | none => rw [e1] at h'; cases h'
  | some ds =>
    rw [e1] at h'
    obtain ⟨ρ1, σ1, R1, L1, Z1, w, e⟩ := fp_of (kk := kk) (q := q) O hx hy hb ds ρ σ R r L Z h'
    exact ⟨ρ1, σ1, R1, L1, Z1, ex_for ((snd_e gd hcf it c nms ns σ ρ R hW hr hc O.toEnvOk L).sp ds e1 _ kk q) w (fun v => fold_den hc), e⟩

theorem snd_s (gd : Gd W) (hcf : Calls W cf K) (hW : c.toWd = W) (hr : Rm c.A K) (O : FrOk c nms ns) (l : List S) : chkSs nms ns l = true → Snd cf c nms (css l) (denSs l) :=
  S.rec_1 (motive_1 := fun s => chkS nms ns s = true → ∀ k rs, Snd cf c nms k rs → Snd cf c nms (cs1 s k) (denS s :: rs)) (motive_2 := fun l => chkSs nms ns l = true → Snd cf c nms (css l) (denSs l))
    (fun _ _ _ hc _ _ hk => sk_asg gd hcf hW hr O hc hk) (fun _ _ _ hc _ _ hk => sk_asc gd hcf hW hr O hc hk)
    (fun _ _ _ _ _ _ _ _ _ hc _ _ hk => sk_swp gd hcf hW hr O hc hk) (fun _ _ _ _ _ _ hc _ _ hk => sk_unp gd hcf hW hr O hc hk)
    (fun _ _ _ hc _ _ hk => sk_new O hc hk) (fun _ _ _ _ _ _ _ _ _ hc _ _ hk => sk_nw2 O hc hk) (fun _ _ _ _ _ _ _ _ _ _ _ hc _ _ hk => sk_nw1 O hc hk)
    (fun _ _ _ _ _ hc _ _ hk => sk_app gd hcf hW hr O hc hk) (fun _ _ hc _ _ hk => sk_exp gd hcf hW hr O hc hk)
    (fun _ _ hc _ _ _ => sk_ret gd hcf hW hr O hc) (fun _ _ hc _ _ _ => sk_ro1 O hc) (fun _ _ _ _ _ hc _ _ _ => sk_ro2 O hc)
    (fun t a b p ha hb hc k rs hk => by
      simp only [chkS, Bool.and_eq_true] at hc
      exact sk_ite gd hcf hW hr O hc.1.1 (ha hc.1.2) (hb hc.2) hk)
    (fun t b p hb hc k rs hk => by
      simp only [chkS, Bool.and_eq_true] at hc
      exact sk_whl gd hcf hW hr O hc.1 (hb hc.2) hk)
    (fun x it b p hb hc k rs hk => by
      simp only [chkS, Bool.and_eq_true] at hc
      exact sk_fr gd hcf hW hr O hc.1.1 hc.1.2 (hb hc.2) hk)
    (fun x y kk q it b p hb hc k rs hk => by
      simp only [chkS, Bool.and_eq_true] at hc
      exact sk_frp gd hcf hW hr O hc.1.1.1 hc.1.1.2 hc.1.2 (hb hc.2) hk)
    (fun s _ k rs _ ρ σ R L Z => ⟨fun v e => (by cases e), fun ρ' e => (by cases e)⟩)
    (fun _ ρ σ R L Z => ⟨fun v e => (by cases e), fun ρ' e => by
      have e' : (css []).run cf ρ = some (.next ρ') := e
      rw [css] at e'
      cases e'
      exact ⟨σ, R, L, Z, by rw [denSs]; exact exs_nil⟩⟩)
    (fun s r hs hr' hc => by
      rw [chkSs, Bool.and_eq_true] at hc
      rw [css, denSs]
      exact hs hc.1 _ _ (hr' hc.2)) l
end
end Mine
end
end

section
open PySem PySem.W PySem.Calls PyProof.Rows
set_option Elab.async false
set_option maxRecDepth 100000
set_option linter.unusedVariables false
set_option linter.unusedSimpArgs false
noncomputable section
namespace Mine

theorem cells_acc {x : Str} : ∀ {l : List (Str × NameKind)} {n : Nat} {acc : List (Str × Addr)}, (acc.lookup x).isSome = true → ((cellsFrom n l acc).lookup x).isSome = true
  | [], _, _, h => h
  | (y, k) :: r, n, acc, h => by
    unfold cellsFrom
    split
    · refine cells_acc ?_
      rw [List.lookup_cons]
      cases x == y <;> first | rfl | exact h
    · exact cells_acc h
theorem cells_in {x : Str} : ∀ {l : List (Str × NameKind)} {n : Nat} {acc : List (Str × Addr)}, (x, .cell) ∈ l → ((cellsFrom n l acc).lookup x).isSome = true
  | [], _, _, h => nomatch h
  | (y, k) :: r, n, acc, h => by
    unfold cellsFrom
    rcases List.mem_cons.mp h with e | h
    · cases e
      rw [if_pos (by rfl)]
      refine cells_acc ?_
      simp
    · split
      · exact cells_in h
      · exact cells_in h

/-- fn_of, for a def that may also fall off its end -/
theorem fn_of2 {W : Wd} (gd : Gd W) {name : Str} {params : Arguments} {body : List Stmt} {scope : Scope} {a : Addr} {cd : Value} (X : Fd W name params body scope a cd) {nms : List Str} {ds : List D} {d : D} {k : Nat}
    (hbind : ∀ (pm doc : Value) vs, vs.length = nms.length → bindArgs (docDef name params body scope pm cd doc) ⟨vs, []⟩ = pure (nms.zip vs)) (hlen : nms.length = ds.length) (hnd : nms.Nodup)
    (hkind : ∀ n, ∀ x ∈ nms, scope.names.lookup x = some .local ∨ (scope.names.lookup x = some .cell ∧ ((cellsFrom n scope.names []).lookup x).isSome = true))
    (h : ∀ (A : Around) (base : Heap) (M0 : Addr → Prop) (L : Addr), Rm A k → Exs ⟨W, A, base, M0, envOfC name scope L a cd⟩ [] (nms.zip ds) body (.ret d) ∨ (d = .none ∧ ∃ σ' R', Exs ⟨W, A, base, M0, envOfC name scope L a cd⟩ [] (nms.zip ds) body (.next σ' R')))
    (hco : scope.isCoroutine = false) (hgen : scope.isGenerator = false) (hks : scope.kind = .function) : Fn W name (k + 1) ds d := by
  obtain ⟨o, pm, doc, ho, hd⟩ := X.ob
  refine ⟨a, o, _, X.mg, ho, hd, fun A M s vs hr hk hM os => ?_⟩
  have hvl : vs.length = nms.length := by rw [os.length, hlen]
  refine wpAny_call (call_cells (by have := hr.dp; omega) (hk _ _ ho) hd (gd.nolimit.keeps hk) (X.code.keeps hk) (hbind pm doc vs hvl) (fun x hx => hkind _ x.1 (List.of_mem_zip hx).1) (fun h₁ tk F Y => ?_) hco hgen hks)
  have FF := entry_fr gd (A := A) hr.hh hk hM os hnd hks (hkind _) F Y
  rcases h _ s.heap M s.heap.objs.size (hr.deeper (env := envOfC name scope s.heap.objs.size a cd)) with h | ⟨rfl, σ', R', h⟩
  · refine wpAny_mono (h { s with heap := h₁, toks := tk } FF) (fun fl s' q => ?_) fun _ _ x => x.elim
    obtain ⟨v, rfl, ⟨h', tk', rfl⟩, kp, o⟩ := q
    exact ⟨⟨_, _, rfl, kp⟩, o⟩
  · refine wpAny_mono (h { s with heap := h₁, toks := tk } FF) (fun fl s' q => ?_) fun _ _ x => x.elim
    obtain ⟨rfl, ⟨h', tk', rfl⟩, _, F', _⟩ := q
    exact ⟨⟨_, _, rfl, F'.kb⟩, .none⟩

def prm (i : Nat) : List Str := (fP (st i)).args.map (·.arg)
def goodF (i : Nat) : Bool :=
  chkSs (nmsOf i) (fS (st i)).names (bodyOf i) && decide (nmsOf i).Nodup && decide ((nmsOf i).take (prm i).length = prm i) &&
  (prm i).all (fun x => eqK ((fS (st i)).names.lookup x) .local || eqK ((fS (st i)).names.lookup x) .cell) &&
  (fS (st i)).names.all (fun p => !decide (p.2 = .free)) && !(fS (st i)).isCoroutine && !(fS (st i)).isGenerator && decide ((fS (st i)).kind = .function)

/-- the def number i: read as it stands -/
structure FOk (i : Nat) : Prop where
  den : denSs (bodyOf i) = fB (st i)
  good : goodF i = true
  bind : ∀ (cd pm doc : Value) vs, vs.length = (prm i).length → bindArgs (docDef (fN (st i)) (fP (st i)) (fB (st i)) (fS (st i)) pm cd doc) ⟨vs, []⟩ = pure ((prm i).zip vs)

theorem rel0 {nms : List Str} (hnd : nms.Nodup) : ∀ (ps : List Str) (vs : List V) (n : Nat), ps.length = vs.length → nms.take ps.length = ps → Rel nms (vas vs n) [] (ps.zip (dVs vs)) := fun ps vs n hl ht => by
  have un : ∀ (m j : Nat), lk (List.replicate m B.un) j = .un := fun m => by
    induction m with
    | zero => intro j; rfl
    | succ m ih => intro j; rw [List.replicate_succ]; cases j with | zero => rfl | succ j => exact ih j
  have key : ∀ (vs : List V) (n j : Nat), (∃ v, nth vs j = some v ∧ lk (vas vs n) j = .va v) ∨ (vs.length ≤ j ∧ lk (vas vs n) j = .un) := by
    intro vs
    induction vs with
    | nil => intro n j; exact .inr ⟨Nat.zero_le _, un n j⟩
    | cons v r ih =>
      intro n j
      cases j with
      | zero => exact .inl ⟨v, rfl, rfl⟩
      | succ j =>
        rcases ih (n - 1) j with ⟨w, a, b⟩ | ⟨a, b⟩
        · exact .inl ⟨w, a, b⟩
        · exact .inr ⟨Nat.succ_le_succ a, b⟩
  refine ⟨fun i x v hx hv => ?_, fun _ => 0, fun i x l hx hv => ?_, fun i j l m hi hj => ?_⟩
  · rcases key vs n i with ⟨w, a, b⟩ | ⟨a, b⟩
    · rw [b] at hv; cases hv
      have hlt : i < ps.length := by
        rw [nth_get] at a
        have := (List.getElem?_eq_some_iff.mp a).1
        omega
      have hpx : nth ps i = some x := by
        rw [nth_get] at hx ⊢
        rw [← ht, List.getElem?_take_of_lt hlt]; exact hx
      have hpn : ps.Nodup := by rw [← ht]; exact hnd.take
      have : ∀ (ps : List Str) (vs : List V) (i : Nat), ps.Nodup → nth ps i = some x → nth vs i = some v → (ps.zip (dVs vs)).lookup x = some (dV v) := by
        intro ps
        induction ps with
        | nil => intro vs i _ h _; cases h
        | cons p ps ih =>
          intro vs i hn h h'
          cases vs with
          | nil => cases h'
          | cons w vs =>
            rw [dVs, List.zip_cons_cons, lookup_put]
            cases i with
            | zero => cases h; cases h'; rw [if_pos rfl]
            | succ i =>
              have hne : x ≠ p := fun e => (List.nodup_cons.mp hn).1 (e ▸ nth_mem (l := ps) h)
              rw [if_neg hne]
              exact ih vs i (List.nodup_cons.mp hn).2 h h'
      exact this ps vs i hpn hpx a
    · rw [b] at hv; cases hv
  · rcases key vs n i with ⟨w, a, b⟩ | ⟨a, b⟩ <;> rw [b] at hv <;> cases hv
  · rcases key vs n i with ⟨w, a, b⟩ | ⟨a, b⟩ <;> rw [b] at hi <;> cases hi

theorem fit0 {nms : List Str} : ∀ (vs : List V) (n j : Nat) m, lk (vas vs n) j = .ow m → ∃ y, nth nms j = some y := fun vs n j m h => by
  exfalso
  have un : ∀ (m j : Nat), lk (List.replicate m B.un) j = .un := fun m => by
    induction m with
    | zero => intro j; rfl
    | succ m ih => intro j; rw [List.replicate_succ]; cases j with | zero => rfl | succ j => exact ih j
  induction vs generalizing n j with
  | nil => rw [vas, un] at h; cases h
  | cons v r ih => cases j with
    | zero => cases h
    | succ j => exact ih _ _ h

theorem fn_run {W : Wd} {cf : Cf} {K : Nat} (gd : Gd W) (hcf : Calls W cf K) {i : Nat} (hi : i ∈ funs) (X : FOk i) {args : List V} {v : V} (h : run1 cf args (fOf i) = some v) : Fn W (fN (st i)) (K + 1) (dVs args) (dV v) := by
  obtain ⟨a, cd, F⟩ := gd.fd i hi
  have hg := X.good
  simp only [goodF, Bool.and_eq_true, decide_eq_true_eq, Bool.not_eq_true'] at hg
  obtain ⟨⟨⟨⟨⟨⟨⟨h1, h2⟩, h3⟩, h4⟩, h5⟩, h6⟩, h7⟩, h8⟩ := hg
  have h' : (bif Nat.beq args.length (fP (st i)).args.length then outR ((css (bodyOf i)).run cf (vas args (nmsOf i).length)) else .none) = some v := h
  cases hb : Nat.beq args.length (fP (st i)).args.length with
  | false => rw [hb] at h'; cases h'
  | true =>
    rw [hb] at h'
    have h9 : outR ((css (bodyOf i)).run cf (vas args (nmsOf i).length)) = some v := h'
    have hl : (prm i).length = args.length := by rw [prm, List.length_map]; exact (Nat.eq_of_beq_eq_true hb).symm
    have hpn : (prm i).Nodup := by rw [← h3]; exact h2.take
    refine fn_of2 gd F (nms := prm i) (X.bind cd) (by rw [dVs_len]; exact hl) hpn (fun n x hx => ?_) (fun A base M0 L hr => ?_) h6 h7 h8
    · have := List.all_eq_true.mp h4 x hx
      simp only [Bool.or_eq_true, eqK, decide_eq_true_eq] at this
      rcases this with e | e
      · exact .inl e
      · exact .inr ⟨e, cells_in (mem_of_lookup e)⟩
    · have O : FrOk ⟨W, A, base, M0, envOfC (fN (st i)) (fS (st i)) L a cd⟩ (nmsOf i) (fS (st i)).names := {
        kd := fun x k hx => ⟨k, hx, fun _ => rfl, fun e => .inr e⟩
        cl := fun x hx => by
          rcases hx with e | e
          · exact cells_in (mem_of_lookup e)
          · have := List.all_eq_true.mp h5 _ (mem_of_lookup e)
            simp at this
        fk := h8
        fn := rfl
        nm := fun x => rfl
        nd := h2 }
      have S := snd_s gd hcf rfl hr O (bodyOf i) h1 (vas args (nmsOf i).length) [] _ (rel0 h2 (prm i) args _ hl h3) (fit0 args _)
      rw [X.den] at S
      unfold outR at h9
      split at h9
      · rename_i w e
        cases h9
        exact .inl (S.1 _ e)
      · rename_i ρ' e
        cases h9
        obtain ⟨σ', R', _, _, x⟩ := S.2 _ e
        exact .inr ⟨by rw [dV], σ', R', x⟩
      · cases h9

theorem Fn.le {W : Wd} {name : Str} {k j : Nat} {ds : List D} {d : D} (h : Fn W name k ds d) (hj : k ≤ j) : Fn W name j ds d := by
  obtain ⟨f, o, fd, h1, h2, h3, h4⟩ := h
  exact ⟨f, o, fd, h1, h2, h3, fun A M s vs hr => h4 A M s vs (hr.le hj)⟩

/-! the defs, one by one -/
theorem fok3 : FOk 3 := ⟨by rfl, by decide +kernel, fun cd pm doc => fn_b2 (fun _ _ _ _ => by rfl) pm doc⟩
end Mine
end
end

section
open PySem PySem.W PySem.Calls PyProof.Rows
set_option Elab.async false
set_option maxRecDepth 100000
set_option linter.unusedVariables false
namespace Mine
theorem fok4 : FOk 4 := ⟨by rfl, by decide +kernel, fun cd pm doc => fn_b1 (fun _ _ _ => by rfl) pm doc⟩
theorem fok5 : FOk 5 := ⟨by rfl, by decide +kernel, fun cd pm doc => fn_b2 (fun _ _ _ _ => by rfl) pm doc⟩
theorem fok10 : FOk 10 := ⟨by rfl, by decide +kernel, fun cd pm doc => fn_b2 (fun _ _ _ _ => by rfl) pm doc⟩
theorem fok11 : FOk 11 := ⟨by rfl, by decide +kernel, fun cd pm doc => fn_b2 (fun _ _ _ _ => by rfl) pm doc⟩
theorem fok12 : FOk 12 := ⟨by rfl, by decide +kernel, fun cd pm doc => fn_b2 (fun _ _ _ _ => by rfl) pm doc⟩
theorem fok13 : FOk 13 := ⟨by rfl, by decide +kernel, fun cd pm doc => fn_b2 (fun _ _ _ _ => by rfl) pm doc⟩
theorem fok14 : FOk 14 := ⟨by rfl, by decide +kernel, fun cd pm doc => fn_b2 (fun _ _ _ _ => by rfl) pm doc⟩
theorem fok16 : FOk 16 := ⟨by rfl, by decide +kernel, fun cd pm doc => fn_b2 (fun _ _ _ _ => by rfl) pm doc⟩
theorem fok17 : FOk 17 := ⟨by rfl, by decide +kernel, fun cd pm doc => fn_b1 (fun _ _ _ => by rfl) pm doc⟩
theorem fok18 : FOk 18 := ⟨by rfl, by decide +kernel, fun cd pm doc => fn_b2 (fun _ _ _ _ => by rfl) pm doc⟩
theorem fok20 : FOk 20 := ⟨by rfl, by decide +kernel, fun cd pm doc => fn_b2 (fun _ _ _ _ => by rfl) pm doc⟩
theorem fok21 : FOk 21 := ⟨by rfl, by decide +kernel, fun cd pm doc => fn_b1 (fun _ _ _ => by rfl) pm doc⟩
theorem fok22 : FOk 22 := ⟨by rfl, by decide +kernel, fun cd pm doc => fn_b2 (fun _ _ _ _ => by rfl) pm doc⟩
theorem fok23 : FOk 23 := ⟨by rfl, by decide +kernel, fun cd pm doc => fn_b2 (fun _ _ _ _ => by rfl) pm doc⟩
theorem fok24 : FOk 24 := ⟨by rfl, by decide +kernel, fun cd pm doc => fn_b3 (fun _ _ _ _ _ => by rfl) pm doc⟩
theorem fok25 : FOk 25 := ⟨by rfl, by decide +kernel, fun cd pm doc => fn_b2 (fun _ _ _ _ => by rfl) pm doc⟩
theorem fok26 : FOk 26 := ⟨by rfl, by decide +kernel, fun cd pm doc => fn_b1 (fun _ _ _ => by rfl) pm doc⟩
theorem fok27 : FOk 27 := ⟨by rfl, by decide +kernel, fun cd pm doc => fn_b1 (fun _ _ _ => by rfl) pm doc⟩
theorem fok28 : FOk 28 := ⟨by rfl, by decide +kernel, fun cd pm doc => fn_b1 (fun _ _ _ => by rfl) pm doc⟩
theorem fok29 : FOk 29 := ⟨by rfl, by decide +kernel, fun cd pm doc => fn_b2 (fun _ _ _ _ => by rfl) pm doc⟩
theorem fok30 : FOk 30 := ⟨by rfl, by decide +kernel, fun cd pm doc => fn_b1 (fun _ _ _ => by rfl) pm doc⟩
theorem fok31 : FOk 31 := ⟨by rfl, by decide +kernel, fun cd pm doc => fn_b1 (fun _ _ _ => by rfl) pm doc⟩
theorem fok32 : FOk 32 := ⟨by rfl, by decide +kernel, fun cd pm doc => fn_b1 (fun _ _ _ => by rfl) pm doc⟩
theorem fok33 : FOk 33 := ⟨by rfl, by decide +kernel, fun cd pm doc => fn_b1 (fun _ _ _ => by rfl) pm doc⟩
theorem fok36 : FOk 36 := ⟨by rfl, by decide +kernel, fun cd pm doc => fn_b2 (fun _ _ _ _ => by rfl) pm doc⟩
theorem fok37 : FOk 37 := ⟨by rfl, by decide +kernel, fun cd pm doc => fn_b2 (fun _ _ _ _ => by rfl) pm doc⟩
theorem fok40 : FOk 40 := ⟨by rfl, by decide +kernel, fun cd pm doc => fn_b2 (fun _ _ _ _ => by rfl) pm doc⟩
theorem fok41 : FOk 41 := ⟨by rfl, by decide +kernel, fun cd pm doc => fn_b2 (fun _ _ _ _ => by rfl) pm doc⟩
theorem fok42 : FOk 42 := ⟨by rfl, by decide +kernel, fun cd pm doc => fn_b2 (fun _ _ _ _ => by rfl) pm doc⟩
theorem fok43 : FOk 43 := ⟨by rfl, by decide +kernel, fun cd pm doc => fn_b1 (fun _ _ _ => by rfl) pm doc⟩
theorem fok44 : FOk 44 := ⟨by rfl, by decide +kernel, fun cd pm doc => fn_b1 (fun _ _ _ => by rfl) pm doc⟩
theorem fok45 : FOk 45 := ⟨by rfl, by decide +kernel, fun cd pm doc => fn_b2 (fun _ _ _ _ => by rfl) pm doc⟩
theorem fok46 : FOk 46 := ⟨by rfl, by decide +kernel, fun cd pm doc => fn_b2 (fun _ _ _ _ => by rfl) pm doc⟩
theorem fok49 : FOk 49 := ⟨by rfl, by decide +kernel, fun cd pm doc => fn_b2 (fun _ _ _ _ => by rfl) pm doc⟩
theorem fok50 : FOk 50 := ⟨by rfl, by decide +kernel, fun cd pm doc => fn_b2 (fun _ _ _ _ => by rfl) pm doc⟩
theorem fok51 : FOk 51 := ⟨by rfl, by decide +kernel, fun cd pm doc => fn_b3 (fun _ _ _ _ _ => by rfl) pm doc⟩
theorem fok52 : FOk 52 := ⟨by rfl, by decide +kernel, fun cd pm doc => fn_b2 (fun _ _ _ _ => by rfl) pm doc⟩
theorem fok53 : FOk 53 := ⟨by rfl, by decide +kernel, fun cd pm doc => fn_b4 (fun _ _ _ _ _ _ => by rfl) pm doc⟩
theorem fok54 : FOk 54 := ⟨by rfl, by decide +kernel, fun cd pm doc => fn_b2 (fun _ _ _ _ => by rfl) pm doc⟩
theorem fok55 : FOk 55 := ⟨by rfl, by decide +kernel, fun cd pm doc => fn_b3 (fun _ _ _ _ _ => by rfl) pm doc⟩
theorem fok57 : FOk 57 := ⟨by rfl, by decide +kernel, fun cd pm doc => fn_b4 (fun _ _ _ _ _ _ => by rfl) pm doc⟩
theorem fok61 : FOk 61 := ⟨by rfl, by decide +kernel, fun cd pm doc => fn_b2 (fun _ _ _ _ => by rfl) pm doc⟩
theorem fok62 : FOk 62 := ⟨by rfl, by decide +kernel, fun cd pm doc => fn_b1 (fun _ _ _ => by rfl) pm doc⟩
theorem fok63 : FOk 63 := ⟨by rfl, by decide +kernel, fun cd pm doc => fn_b1 (fun _ _ _ => by rfl) pm doc⟩
theorem fok64 : FOk 64 := ⟨by rfl, by decide +kernel, fun cd pm doc => fn_b1 (fun _ _ _ => by rfl) pm doc⟩
theorem fok65 : FOk 65 := ⟨by rfl, by decide +kernel, fun cd pm doc => fn_b2 (fun _ _ _ _ => by rfl) pm doc⟩
theorem fok66 : FOk 66 := ⟨by rfl, by decide +kernel, fun cd pm doc => fn_b2 (fun _ _ _ _ => by rfl) pm doc⟩
theorem fok69 : FOk 69 := ⟨by rfl, by decide +kernel, fun cd pm doc => fn_b3 (fun _ _ _ _ _ => by rfl) pm doc⟩
theorem fok70 : FOk 70 := ⟨by rfl, by decide +kernel, fun cd pm doc => fn_b4 (fun _ _ _ _ _ _ => by rfl) pm doc⟩
theorem fok71 : FOk 71 := ⟨by rfl, by decide +kernel, fun cd pm doc => fn_b2 (fun _ _ _ _ => by rfl) pm doc⟩
theorem fok_all (f i : Nat) (h : nth funs f = some i) (h1 : f ≠ 41) (h2 : f ≠ 49) (h3 : f ≠ 53) (h4 : f ≠ 54) : FOk i := by
  match f, h with
  | 0, h => cases h; exact fok3
  | 1, h => cases h; exact fok4
  | 2, h => cases h; exact fok5
  | 3, h => cases h; exact fok10
  | 4, h => cases h; exact fok11
  | 5, h => cases h; exact fok12
  | 6, h => cases h; exact fok13
  | 7, h => cases h; exact fok14
  | 8, h => cases h; exact fok16
  | 9, h => cases h; exact fok17
  | 10, h => cases h; exact fok18
  | 11, h => cases h; exact fok20
  | 12, h => cases h; exact fok21
  | 13, h => cases h; exact fok22
  | 14, h => cases h; exact fok23
  | 15, h => cases h; exact fok24
  | 16, h => cases h; exact fok25
  | 17, h => cases h; exact fok26
  | 18, h => cases h; exact fok27
  | 19, h => cases h; exact fok28
  | 20, h => cases h; exact fok29
  | 21, h => cases h; exact fok30
  | 22, h => cases h; exact fok31
  | 23, h => cases h; exact fok32
  | 24, h => cases h; exact fok33
  | 25, h => cases h; exact fok36
  | 26, h => cases h; exact fok37
  | 27, h => cases h; exact fok40
  | 28, h => cases h; exact fok41
  | 29, h => cases h; exact fok42
  | 30, h => cases h; exact fok43
  | 31, h => cases h; exact fok44
  | 32, h => cases h; exact fok45
  | 33, h => cases h; exact fok46
  | 34, h => cases h; exact fok49
  | 35, h => cases h; exact fok50
  | 36, h => cases h; exact fok51
  | 37, h => cases h; exact fok52
  | 38, h => cases h; exact fok53
  | 39, h => cases h; exact fok54
  | 40, h => cases h; exact fok55
  | 41, h => exact absurd rfl h1
  | 42, h => cases h; exact fok57
  | 43, h => cases h; exact fok61
  | 44, h => cases h; exact fok62
  | 45, h => cases h; exact fok63
  | 46, h => cases h; exact fok64
  | 47, h => cases h; exact fok65
  | 48, h => cases h; exact fok66
  | 49, h => exact absurd rfl h2
  | 50, h => cases h; exact fok69
  | 51, h => cases h; exact fok70
  | 52, h => cases h; exact fok71
  | 53, h => exact absurd rfl h3
  | 54, h => exact absurd rfl h4
  | n + 55, h => cases h
end Mine
end

section
open PySem PySem.W PySem.Calls PyProof.Rows
set_option Elab.async false
set_option maxRecDepth 100000
set_option linter.unusedVariables false
set_option linter.unusedSimpArgs false
set_option maxHeartbeats 2000000
namespace Mine
theorem gcd_loop {c : Cx} {σ : Sg} {test : Expr} {body : List Stmt}
    (ht : ∀ ρ (y : Int), gt ρ "b" = some (.int y) → Tb c σ ρ (isTrue test c.env (eval test c.env)) (y != 0))
    (hb : ∀ ρ (x y : Int), y ≠ 0 → gt ρ "a" = some (.int x) → gt ρ "b" = some (.int y) → Exs c σ ρ body (.next σ (("a", .int y) :: ("b", .int (x.fmod y)) :: ρ))) :
    ∀ (y x : Nat) (ρ : Rh), gt ρ "a" = some (.int x) → gt ρ "b" = some (.int y) → Wl c test body σ ρ σ [("a", .int (Nat.gcd x y)), ("b", .int 0)] := by
  intro y
  induction y using Nat.strongRecOn with
  | ind y ih =>
    intro x ρ hx hy
    by_cases h0 : y = 0
    · subst h0
      have := ht ρ _ hy
      refine .sub (ρ₁ := [("a", .int (Nat.gcd x 0)), ("b", .int 0)]) (lk1 (hx.trans (by simp)) (lk1 hy lk0)) (.done ?_)
      exact ht _ 0 rfl
    · have h1 := ht ρ _ hy
      have h2 := hb ρ _ _ (by omega) hx hy
      rw [show ((y : Int) != 0) = true by simpa using h0] at h1
      have e : ((x : Int).fmod y) = ((x % y : Nat) : Int) := by rw [Int.fmod_eq_emod_of_nonneg _ (by omega)]; rfl
      rw [e] at h2
      have := ih (x % y) (Nat.mod_lt _ (by omega)) y (("a", .int y) :: ("b", .int ((x % y : Nat) : Int)) :: ρ) rfl rfl
      refine .step h1 h2 ?_
      rwa [Nat.gcd_comm x y, Nat.gcd_rec y x, Nat.gcd_comm (x % y) y]

theorem gcd_fn {W : Wd} (gd : Gd W) (x y : Int) : Fn W "gcd" 1 [.int x, .int y] (.int (Int.gcd x y)) := by
  obtain ⟨a, cd, X⟩ := gd.fd 3 (by decide)
  refine fn_of (nms := ["a", "b"]) gd X (fn_b2 fun _ _ _ _ => by rfl) rfl (by decide +kernel) (by intro n; simp; constructor <;> exact Or.inl rfl) (fun A base M0 L hr => ?_)
  have ab : ∀ z : Int, (if z < 0 then -z else z) = (z.natAbs : Int) := fun z => by split <;> omega
  refine' exs_cons (ex_swap2 (x := "a") (y := "b") (tv_tuple (ts_cons (tv_callb (tv_bn gd (by decide +kernel) bb_abs) (ts_cons (tv_name rfl) ts_nil) cl_abs) (ts_cons (tv_callb (tv_bn gd (by decide +kernel) bb_abs) (ts_cons (tv_name rfl) ts_nil) cl_abs) ts_nil))) (.inl rfl) (.inl rfl)) ?_
  rw [ab, ab]
  refine' exs_cons (ex_while (gcd_loop (fun ρ y hy => tb_cmp (tv_name hy) tv_int op_nei) (fun ρ x y h0 hx hy => exs_cons (ex_swap2 (x := "a") (y := "b") (tv_tuple (ts_cons (tv_name hy) (ts_cons (tv_bin (tv_name hx) (tv_name hy) (op_mod h0)) ts_nil))) (.inl rfl) (.inl rfl)) exs_nil) y.natAbs x.natAbs _ rfl rfl)) ?_
  refine exs_ret (ex_return ?_ rs_same)

  exact tv_name rfl

/-! plain rationals -/
abbrev Q := Int × Int
def sm (x : Int) : Bool := decide (x.natAbs < 1073741824)
theorem sm_of {x : Int} (h : sm x = true) : Sm x := of_decide_eq_true h
def ratP (x y : Int) : Option Q :=
  if (y == 0 || !sm x || !sm y) = true then none
  else
    let g : Int := if 0 < y then (Int.gcd x y : Int) else 0 - (Int.gcd x y : Int)
    some (x.fdiv g, y.fdiv g)

theorem gcd_le {x y : Int} (h : y ≠ 0) : (Int.gcd x y) ≤ y.natAbs := Nat.gcd_le_right _ (by omega)
theorem gcd_pos {x y : Int} (h : y ≠ 0) : 0 < Int.gcd x y := Nat.gcd_pos_of_pos_right _ (by omega)

theorem rat_fn {W : Wd} (gd : Gd W) {x y : Int} {q : Q} (h : ratP x y = some q) : Fn W "rat" 2 [.int x, .int y] (qd q) := by
  obtain ⟨a, cd, X⟩ := gd.fd 10 (by decide)
  unfold ratP at h
  split at h
  · cases h
  rename_i hc
  simp only [Bool.or_eq_true, beq_iff_eq, Bool.not_eq_true', not_or, Bool.not_eq_false] at hc
  obtain ⟨⟨h0, h1⟩, h2⟩ := hc
  cases h
  have hp := gcd_pos (x := x) h0
  have hl := gcd_le (x := x) h0
  have s2 := sm_of h2
  refine fn_of (nms := ["top", "bottom"]) gd X (fn_b2 fun _ _ _ _ => by rfl) rfl (by decide +kernel) (by intro n; simp; constructor <;> exact Or.inl rfl) (fun A base M0 L hr => ?_)
  refine' exs_cons (ex_if_pass (c := ⟨W, A, base, M0, envOfC (fN (st 10)) (fS (st 10)) L a cd⟩) ?_) ?_
  · rw [show false = (y == 0) by simpa using h0]
    exact tb_cmp (tv_name rfl) tv_int op_eqi
  · by_cases hy : 0 < y
    · simp only [hy, if_true]
      refine' exs_cons (ex_assign (d := .int (Int.gcd x y : Int)) (tv_if_t ?_ ?_) (.inl rfl)) ?_
      · rw [show true = decide (0 < y) by simpa using hy]
        exact tb_cmp (tv_name rfl) tv_int op_gt
      · exact tv_fn (gcd_fn gd x y) (hr.le (by decide)) (ts_cons (tv_name rfl) (ts_cons (tv_name rfl) ts_nil))
      · exact exs_ret (ex_return (tv_tuple (ts_cons (tv_bin (tv_name rfl) (tv_name rfl) (op_div (by omega) (by show Int.natAbs _ < _; have : Int.natAbs y < _ := s2; omega))) (ts_cons (tv_bin (tv_name rfl) (tv_name rfl) (op_div (by omega) (by show Int.natAbs _ < _; have : Int.natAbs y < _ := s2; omega))) ts_nil))) rs_same)
    · simp only [hy, if_false]
      refine' exs_cons (ex_assign (d := .int (0 - (Int.gcd x y : Int))) (tv_if_f ?_ ?_) (.inl rfl)) ?_
      · rw [show false = decide (0 < y) by simpa using hy]
        exact tb_cmp (tv_name rfl) tv_int op_gt
      · exact tv_bin tv_int (tv_fn (gcd_fn gd x y) (hr.le (by decide)) (ts_cons (tv_name rfl) (ts_cons (tv_name rfl) ts_nil))) op_sub
      · exact exs_ret (ex_return (tv_tuple (ts_cons (tv_bin (tv_name rfl) (tv_name rfl) (op_div (by omega) (by show Int.natAbs _ < _; have : Int.natAbs y < _ := s2; omega))) (ts_cons (tv_bin (tv_name rfl) (tv_name rfl) (op_div (by omega) (by show Int.natAbs _ < _; have : Int.natAbs y < _ := s2; omega))) ts_nil))) rs_same)


/-! the fast ones -/
theorem nfN_eq (n : Nat) (k : Nat → Option V) : nfN n k = k n := by cases n <;> rfl
theorem nf_eq (x : Int) (k : Int → Option V) : nf x k = k x := by
  cases x with
  | ofNat n => exact nfN_eq n fun n => k (.ofNat n)
  | negSucc n => exact nfN_eq n fun n => k (.negSucc n)
theorem ratV_of {x y : Int} {v : V} (h : ratV x y = some v) : ∃ q, ratP x y = some q ∧ v = qv q.1 q.2 := by
  unfold ratV at h
  cases hb : nz y && smI x && smI y with
  | false => rw [hb] at h; cases h
  | true =>
    rw [hb] at h
    have h' : nfN (Nat.gcd x.natAbs y.natAbs) (ratN x y) = some v := h
    rw [nfN_eq] at h'
    simp only [Bool.and_eq_true] at hb
    have h0 : y ≠ 0 := nz_of hb.1.1
    have s1 : sm x = true := decide_eq_true (smI_of hb.1.2)
    have s2 : sm y = true := decide_eq_true (smI_of hb.2)
    have hc : (y == 0 || !sm x || !sm y) = false := by rw [s1, s2]; simpa using h0
    unfold ratP
    rw [if_neg (by rw [hc]; decide)]
    cases y with
    | ofNat n =>
      have hp : (0 : Int) < Int.ofNat n := by
        have : n ≠ 0 := fun e => h0 (by rw [e]; rfl)
        show (0 : Int) < ((n : Nat) : Int)
        omega
      simp only [if_pos hp]
      refine ⟨_, rfl, ?_⟩
      unfold ratN at h'
      simp only [nf_eq] at h'
      exact (Option.some.inj h').symm
    | negSucc n =>
      have hp : ¬ (0 : Int) < Int.negSucc n := by omega
      simp only [if_neg hp]
      refine ⟨_, rfl, ?_⟩
      unfold ratN at h'
      simp only [nf_eq] at h'
      have e : (0 - (Int.gcd x (Int.negSucc n) : Int)) = Int.neg (Int.ofNat (Nat.gcd x.natAbs (Int.negSucc n).natAbs)) := by
        rw [Int.zero_sub]; rfl
      rw [e]
      exact (Option.some.inj h').symm
theorem qv_qd (q : Q) : dV (qv q.1 q.2) = qd q := by simp only [qv, dV, dVs, qd]

section
variable {c : Cx} {σ : Sg} {ρ : Rh} {a b : Int}
theorem i0 {x : Str} {p q r : Pos} {k : Nat} (h : ρ.lookup x = some (.tup [.int a, .int b])) (hd : (x == ("__debug__" : Str)) = false := by decide +kernel) (hn : (x == ("__classdict__" : Str)) = false := by decide +kernel) :
    Tv c σ ρ (eval (.Subscript (.Name x p) (.Constant (.int 0) k q) r) c.env) (.int a) := tv_sub (tv_name h hd hn) tv_int (op_item_t (by decide) (by decide) rfl rfl)
theorem i1 {x : Str} {p q r : Pos} {k : Nat} (h : ρ.lookup x = some (.tup [.int a, .int b])) (hd : (x == ("__debug__" : Str)) = false := by decide +kernel) (hn : (x == ("__classdict__" : Str)) = false := by decide +kernel) :
    Tv c σ ρ (eval (.Subscript (.Name x p) (.Constant (.int 1) k q) r) c.env) (.int b) := tv_sub (tv_name h hd hn) tv_int (op_item_t (by decide) (by decide) rfl rfl)
end

theorem q4_of {f : Int → Int → Int → Int → Option V} {args : List V} {v : V} (h : q4 f args = some v) : ∃ a b c d, args = [qv a b, qv c d] ∧ Sm a ∧ Sm b ∧ Sm c ∧ Sm d ∧ f a b c d = some v := by
  unfold q4 at h
  split at h
  · rename_i a b c d
    cases hb : smI a && smI b && smI c && smI d with
    | false => rw [hb] at h; cases h
    | true =>
      rw [hb] at h
      simp only [Bool.and_eq_true] at hb
      exact ⟨a, b, c, d, rfl, smI_of hb.1.1.1, smI_of hb.1.1.2, smI_of hb.1.2, smI_of hb.2, h⟩
  · cases h

theorem rat_F {W : Wd} (gd : Gd W) {args : List V} {v : V} (h : ratF args = some v) : Fn W "rat" 2 (dVs args) (dV v) := by
  unfold ratF at h
  split at h
  · obtain ⟨q, h1, rfl⟩ := ratV_of h
    rw [qv_qd]
    simp only [dVs, dV]
    exact rat_fn gd h1
  · cases h
theorem radd_F {W : Wd} (gd : Gd W) {args : List V} {v : V} (h : raddF args = some v) : Fn W "radd" 3 (dVs args) (dV v) := by
  obtain ⟨a, b, c, d, rfl, sa, sb, sc, sd, h⟩ := q4_of h
  obtain ⟨q, h1, rfl⟩ := ratV_of h
  rw [qv_qd]
  simp only [dVs, dV, qv]
  obtain ⟨f, cd, X⟩ := gd.fd 11 (by decide)
  refine fn_of (nms := ["a", "b"]) gd X (fn_b2 fun _ _ _ _ => by rfl) rfl (by decide +kernel) (by intro n; simp; constructor <;> exact Or.inl rfl) (fun A base M0 L hr => ?_)
  exact exs_ret (ex_return (tv_fn (rat_fn gd h1) hr (ts_cons (tv_bin (tv_bin (i0 rfl) (i1 rfl) (op_mul sa)) (tv_bin (i0 rfl) (i1 rfl) (op_mul sc)) op_add) (ts_cons (tv_bin (i1 rfl) (i1 rfl) (op_mul sb)) ts_nil))) rs_same)
theorem rsub_F {W : Wd} (gd : Gd W) {args : List V} {v : V} (h : rsubF args = some v) : Fn W "rsub" 3 (dVs args) (dV v) := by
  obtain ⟨a, b, c, d, rfl, sa, sb, sc, sd, h⟩ := q4_of h
  obtain ⟨q, h1, rfl⟩ := ratV_of h
  rw [qv_qd]
  simp only [dVs, dV, qv]
  obtain ⟨f, cd, X⟩ := gd.fd 12 (by decide)
  refine fn_of (nms := ["a", "b"]) gd X (fn_b2 fun _ _ _ _ => by rfl) rfl (by decide +kernel) (by intro n; simp; constructor <;> exact Or.inl rfl) (fun A base M0 L hr => ?_)
  exact exs_ret (ex_return (tv_fn (rat_fn gd h1) hr (ts_cons (tv_bin (tv_bin (i0 rfl) (i1 rfl) (op_mul sa)) (tv_bin (i0 rfl) (i1 rfl) (op_mul sc)) op_sub) (ts_cons (tv_bin (i1 rfl) (i1 rfl) (op_mul sb)) ts_nil))) rs_same)
theorem rmul_F {W : Wd} (gd : Gd W) {args : List V} {v : V} (h : rmulF args = some v) : Fn W "rmul" 3 (dVs args) (dV v) := by
  obtain ⟨a, b, c, d, rfl, sa, sb, sc, sd, h⟩ := q4_of h
  obtain ⟨q, h1, rfl⟩ := ratV_of h
  rw [qv_qd]
  simp only [dVs, dV, qv]
  obtain ⟨f, cd, X⟩ := gd.fd 13 (by decide)
  refine fn_of (nms := ["a", "b"]) gd X (fn_b2 fun _ _ _ _ => by rfl) rfl (by decide +kernel) (by intro n; simp; constructor <;> exact Or.inl rfl) (fun A base M0 L hr => ?_)
  exact exs_ret (ex_return (tv_fn (rat_fn gd h1) hr (ts_cons (tv_bin (i0 rfl) (i0 rfl) (op_mul sa)) (ts_cons (tv_bin (i1 rfl) (i1 rfl) (op_mul sb)) ts_nil))) rs_same)
theorem rdiv_F {W : Wd} (gd : Gd W) {args : List V} {v : V} (h : rdivF args = some v) : Fn W "rdiv" 3 (dVs args) (dV v) := by
  obtain ⟨a, b, c, d, rfl, sa, sb, sc, sd, h⟩ := q4_of h
  obtain ⟨q, h1, rfl⟩ := ratV_of h
  rw [qv_qd]
  simp only [dVs, dV, qv]
  obtain ⟨f, cd, X⟩ := gd.fd 14 (by decide)
  refine fn_of (nms := ["a", "b"]) gd X (fn_b2 fun _ _ _ _ => by rfl) rfl (by decide +kernel) (by intro n; simp; constructor <;> exact Or.inl rfl) (fun A base M0 L hr => ?_)
  exact exs_ret (ex_return (tv_fn (rat_fn gd h1) hr (ts_cons (tv_bin (i0 rfl) (i1 rfl) (op_mul sa)) (ts_cons (tv_bin (i1 rfl) (i0 rfl) (op_mul sb)) ts_nil))) rs_same)
end Mine
end

section
open PySem PySem.W PySem.Calls PyProof.Rows
set_option Elab.async false
set_option maxRecDepth 100000
set_option linter.unusedVariables false
set_option linter.unusedSimpArgs false
set_option maxHeartbeats 2000000
namespace Mine

section
variable {c : Cx} {σ σ₁ σ₂ : Sg} {ρ ρ₀ ρ₁ ρ₂ : Rh} {o : Out}

/-- a for that returns in its first turn -/
theorem ex_for_ret {target iter : Expr} {body orelse : List Stmt} {pos : Pos} {d0 d : D} {ds : List D} (hsrc : Src c σ ρ target (eval iter c.env) (d0 :: ds)) (has : As c σ ρ target d0 ρ₀) (hb : Exs c σ ρ₀ body (.ret d))
    (hs : ∀ x, foldedSetIterable iter c.env x = pure x := by intro _; rfl) : Ex1 c σ ρ (.For target iter body orelse pos) (.ret d) := fun s F => by
  refine wpAny_For (wpAny_mono (hsrc.2 s F) (fun xv s1 h1 => wpAny_mono h1 (fun it s2 q => ?_) fun _ _ x => x) fun _ _ x => x) hs
  obtain ⟨k, I, fp, Pv, St', rfl, W, st, hI, hlive, hmt, hok, hns, hgo⟩ := q
  have F2 := F.keeps k.kp
  have hIfp : I ∈ fp := W.sub I (by simp)
  have hbI : c.base.get? I = none := by
    cases e : c.base.get? I with
    | none => rfl
    | some ob => have := F.kb _ _ e; rw [hI] at this; cases this
  refine codeAny_of_tree ?_
  show wpAny _ c.A ((forTurn target (.ref I) body orelse c.env).onRaise (fun x => do noteFrame x c.env; theTreesLotGoes x)) _ _ s2
  refine wpAny_noted ?_
  simp only [forTurn]
  refine wpAny_bind (wpAny_standAt (wpAny_bind (wpAny_onRaise (W.item 0 s2 _ _ (by simp) st fun v h' tk hP st' hk => ?_))))
  have hk' : ∀ b ob, b ≠ I → s2.heap.get? b = some ob → h'.get? b = some ob := fun b ob hb e => hk b ob (by simpa using hb) e
  obtain ⟨F1, tr1⟩ := F2.butI hk' (hmt I hIfp) hbI (hns 0 _ st)
  refine wpAny_bind (wpAny_mono (hgo 1 { s2 with heap := h', toks := tk } v (fun _ s' => s' = { s2 with heap := h', toks := tk }) st' rfl) (fun _ s3 e => ?_) fun _ _ x => x.elim)
  subst e
  refine wpAny_bind (wpAny_mono (has { s2 with heap := h', toks := tk } v (fun _ s' => Sa { s2 with heap := h', toks := tk } s' ∧ FR c σ s'.heap ρ₀) F1 (tr1 _ _ (hok 0 v hP d0 rfl)) fun s' a b k => ⟨a, b⟩) (fun _ s4 q => ?_) fun _ _ x => x.elim)
  obtain ⟨a4, F4⟩ := q
  refine wpAny_bind (wpAny_mono (hb s4 F4) (fun fl s5 q => ?_) fun _ _ x => x.elim)
  obtain ⟨w, rfl, a5, r⟩ := q
  exact wpAny_pure ⟨w, rfl, ((k.sa.trans ⟨h', tk, rfl⟩).trans a4).trans a5, r⟩

theorem ex_try_ret {body orelse : List Stmt} {h₀ : ExceptHandler} {hs : List ExceptHandler} {pos : Pos} {d : D} (hb : Exs c σ ρ body (.ret d)) : Ex1 c σ ρ (.Try body (h₀ :: hs) orelse [] pos) (.ret d) := fun s F =>
  wpAny_Try_except (wpAny_mono (hb s F) (fun fl s1 q => by
    obtain ⟨w, rfl, r⟩ := q
    exact ⟨w, rfl, r⟩) fun _ _ x => x.elim)
end

theorem op_geT {c : Cx} {σ : Sg} {ρ : Rh} {a b : Int} (h : b ≤ a) : Op2 c σ ρ (compareOp .GtE) (.int a) (.int b) (.bool true) := by
  have := op_ge (c := c) (σ := σ) (ρ := ρ) (a := a) (b := b)
  rwa [decide_eq_true h] at this

theorem laur_fn {W : Wd} (gd : Gd W) {K : Nat} {t letter : D} {e a : Int} {l : List D} (hF : Fn W "of_term" K [t, .int (if 1 > e then 1 else e), letter] (.tup [.int a, .lst l])) (hl : e ≤ a + l.length) : Fn W "laurent_of" (K + 1) [t, letter, .int e] (.tup [.int a, .lst l]) := by
  obtain ⟨f, cd, X⟩ := gd.fd 56 (by decide)
  refine fn_of (nms := ["t", "letter", "end"]) gd X (fn_b3 fun _ _ _ _ _ => by rfl) rfl (by decide +kernel) (by intro n; simp; exact ⟨Or.inl rfl, Or.inl rfl, Or.inl rfl⟩) (fun A base M0 L hr => ?_)
  have hF' : Fn W "of_term" K [t, .int ((if 1 > e then 1 else e) + 0), letter] (.tup [.int a, .lst l]) := by rw [Int.add_zero]; exact hF
  refine' exs_ret (ex_for_ret (c := ⟨W, A, base, M0, envOfC (fN (st 56)) (fS (st 56)) L f cd⟩) (d0 := .int 0) (ds := [.int 2, .int 4, .int 8, .int 16, .int 32, .int 64]) ?hs ?as ?hb)
  case hs => exact src_tuple (tv_gv gd (by simp [globs])) (by simp [Bd])
  case as => exact as_name (.inl rfl)
  case hb =>
    refine' exs_ret (ex_try_ret ?hc)
    refine' exs_cons (ex_assign (tv_fn hF' hr ?ha) (.inl rfl)) ?hd
    case ha => exact ts_cons (tv_name rfl) (ts_cons (tv_bin (tv_callb (tv_bn gd (by decide +kernel) bb_max) (ts_cons (tv_name rfl) (ts_cons tv_int ts_nil)) cl_max) (tv_name rfl) op_add) (ts_cons (tv_name rfl) ts_nil))
    refine' exs_ret (ex_if_t ?ht (exs_ret (ex_return (tv_name rfl) rs_same)))
    exact tb_cmp (tv_bin (tv_sub (tv_name rfl) tv_int (op_item_t (by decide) (by decide) rfl rfl)) (tv_callb (tv_bn gd (by decide +kernel) bb_len) (ts_cons (tv_sub (tv_name rfl) tv_int (op_item_t (by decide) (by decide) rfl rfl)) ts_nil) cl_len) op_add) (tv_name rfl) (op_geT hl)

theorem vast_fn {W : Wd} (gd : Gd W) {a b : Int} (ha : Sm a) (hb : Sm b) : Fn W "is_vast" 1 [.tup [.int a, .int b]] (.bool false) := by
  obtain ⟨f, cd, X⟩ := gd.fd 17 (by decide)
  refine fn_of (nms := ["a"]) gd X (fn_b1 fun _ _ _ => by rfl) rfl (by decide +kernel) (by intro n; simp; exact Or.inl rfl) (fun A base M0 L hr => ?_)
  refine' exs_cons (ex_assign (tv_callb (tv_bn gd (by decide +kernel) bb_max) (ts_cons (tv_callb (tv_bn gd (by decide +kernel) bb_abs) (ts_cons (i0 rfl) ts_nil) cl_abs) (ts_cons (i1 rfl) ts_nil)) cl_max) (.inl rfl)) ?_
  have hh : ∀ {c : Cx} {σ : Sg} {ρ : Rh}, Op2 c σ ρ (compareOp .GtE) (.int (if b > (if a < 0 then -a else a) then b else (if a < 0 then -a else a))) (.int ((2 : Int) ^ (64 : Int).toNat)) (.bool false) := fun {c σ ρ} => by
    have h := op_ge (c := c) (σ := σ) (ρ := ρ) (a := (if b > (if a < 0 then -a else a) then b else (if a < 0 then -a else a))) (b := (2 : Int) ^ (64 : Int).toNat)
    have e : ¬ ((2 : Int) ^ (64 : Int).toNat ≤ (if b > (if a < 0 then -a else a) then b else (if a < 0 then -a else a))) := by
      have e1 : (2 : Int) ^ (64 : Int).toNat = 18446744073709551616 := by decide
      rw [e1]
      have ha' : a.natAbs < 1073741824 := ha
      have hb' : b.natAbs < 1073741824 := hb
      split <;> split <;> omega
    rw [decide_eq_false e] at h
    exact h
  exact exs_ret (ex_return (tv_and (t := false) (tv_cmp (tv_name rfl) (tv_bin tv_int tv_int (op_pow (by decide) (by decide) (by decide))) hh) (fun q => by cases q) (fun _ => rfl)) rs_same)

theorem let_F {W : Wd} (gd : Gd W) {args : List V} {v : V} (h : letF args = some v) : Fn W "let" 2 (dVs args) (dV v) := by
  unfold letF at h
  split at h
  · rename_i a b
    obtain ⟨hl, rfl⟩ := cond_some h
    rw [Bool.and_eq_true] at hl
    simp only [dVs, dV, qv]
    obtain ⟨f, cd, X⟩ := gd.fd 21 (by decide)
    refine fn_of (nms := ["number"]) gd X (fn_b1 fun _ _ _ => by rfl) rfl (by decide +kernel) (by intro n; simp; exact Or.inl rfl) (fun A base M0 L hr => ?_)
    refine' exs_cons (ex_if_pass (c := ⟨W, A, base, M0, envOfC (fN (st 21)) (fS (st 21)) L f cd⟩) (tb_plain (tv_fn (vast_fn gd (smI_of hl.1) (smI_of hl.2)) hr (ts_cons (tv_name rfl) ts_nil)))) ?_
    exact exs_ret (ex_return (tv_name rfl) rs_same)
  · cases h

theorem laur_of {W : Wd} (gd : Gd W) {cf : Cf} {K : Nat} (hcf : Calls W cf K) {args : List V} {v : V} (h : laur cf args = some v) : Fn W "laurent_of" (K + 1) (dVs args) (dV v) := by
  unfold laur at h
  split at h
  · rename_i t letter e
    unfold laur1 at h
    split at h
    · rename_i a l e1
      split at h
      · rename_i hl
        cases h
        obtain ⟨i, hi, F⟩ := hcf.fn _ _ _ e1
        cases hi
        simp only [dVs, dV] at F ⊢
        exact laur_fn gd F (by rw [dVs_len]; exact hl)
      · cases h
    · cases h
  · cases h

theorem calls_F {W : Wd} (gd : Gd W) : ∀ k : Nat, Calls W (callF k) (k + 4)
  | 0 => ⟨fun f vs v h => by cases h⟩
  | k + 1 => ⟨fun f vs v h => by
      have ih := calls_F gd k
      have h' : (bif Nat.beq f 41 then laur (callF k) vs else slow (callF k) f vs (fast f)) = some v := h
      cases hb : Nat.beq f 41 with
      | true =>
        rw [hb] at h'
        have := Nat.eq_of_beq_eq_true hb
        subst this
        exact ⟨56, rfl, laur_of gd ih h'⟩
      | false =>
        rw [hb] at h'
        have hne : f ≠ 41 := fun e => by rw [e] at hb; cases hb
        have h2 : slow (callF k) f vs (fast f) = some v := h'
        unfold fast at h2
        split at h2
        · exact ⟨10, rfl, (rat_F gd h2).le (by omega)⟩
        · exact ⟨11, rfl, (radd_F gd h2).le (by omega)⟩
        · exact ⟨12, rfl, (rsub_F gd h2).le (by omega)⟩
        · exact ⟨13, rfl, (rmul_F gd h2).le (by omega)⟩
        · exact ⟨14, rfl, (rdiv_F gd h2).le (by omega)⟩
        · exact ⟨21, rfl, (let_F gd h2).le (by omega)⟩
        · have h3 : run (callF k) vs (fIx f) = some v := h2
          cases e : fIx f with
          | none => rw [e] at h3; cases h3
          | some i =>
            rw [e] at h3
            have hi : nth funs f = some i ∧ f ≠ 49 ∧ f ≠ 53 ∧ f ≠ 54 := by
              unfold fIx at e
              split at e
              · cases e
              · cases e
              · cases e
              · rename_i h1 h2 h3
                exact ⟨e, h1, h2, h3⟩
            have hm : i ∈ funs := nth_mem hi.1
            exact ⟨i, hi.1, fn_run gd ih hm (fok_all f i hi.1 hne hi.2.1 hi.2.2.1 hi.2.2.2) h3⟩⟩
end Mine
end

section
open PySem PySem.W PySem.Calls PyProof.Rows
set_option Elab.async false
set_option maxRecDepth 100000
set_option linter.unusedVariables false
set_option linter.unusedSimpArgs false
set_option maxHeartbeats 2000000
noncomputable section
namespace Mine

/-- what _law_draw hands back -/
def drawP (L : List Int) (spot : Nat) (n : Int) : Int := match L[spot]? with
  | some z => Int.fmod (if z < 0 then -z else z) n
  | .none => Int.fmod (5 * (spot : Int) + 1) n

abbrev poolD (L : List Int) (spot : Nat) : List D := [D.lst (L.map D.int), D.int (spot : Int)]

section
variable {c : Cx} {σ : Sg} {ρ : Rh} {a b : Int}
theorem op_ltT (h : a < b) : Op2 c σ ρ (compareOp .Lt) (.int a) (.int b) (.bool true) := by
  have := op_lt (c := c) (σ := σ) (ρ := ρ) (a := a) (b := b)
  rwa [decide_eq_true h] at this
theorem op_ltF (h : ¬ a < b) : Op2 c σ ρ (compareOp .Lt) (.int a) (.int b) (.bool false) := by
  have := op_lt (c := c) (σ := σ) (ρ := ρ) (a := a) (b := b)
  rwa [decide_eq_false h] at this
end

theorem draw_body {W : Wd} (gd : Gd W) {A : Around} {base : Heap} {M0 : Addr → Prop} {L f : Addr} {cd : Value} {P : Addr} {Ls : List Int} {spot : Nat} {n : Int} (hn : n ≠ 0) (hs : spot ≤ 1000) :
    ExsR ⟨W, A, base, M0, envOfC (fN (st 68)) (fS (st 68)) L f cd⟩ [(P, poolD Ls spot)] ((["pool", "many"] : List Str).zip [D.adr (.ref P), D.int n]) (fB (st 68)) (.int (drawP Ls spot n)) [(P, poolD Ls (spot + 1))] := by
  have e1 : ((spot + 1 : Nat) : Int) = (spot : Int) + 1 := by omega
  unfold poolD
  rw [e1]
  refine' exsR_cons (ex_assign (d := .int (spot : Int)) (tv_sub (tv_name rfl) tv_int (op_item_own (.head _) (by decide) rfl)) (.inl rfl)) ?_
  refine' exsR_cons (ex_setitem (i := 0) (j := 1) (d := .int ((spot : Int) + 1)) (tv_name rfl) rfl (by simp) (tv_bin (tv_name rfl) tv_int op_add)) ?_
  cases e : Ls[spot]? with
  | some z =>
    have hlt : spot < Ls.length := (List.getElem?_eq_some_iff.mp e).1
    have ed : drawP Ls spot n = Int.fmod (if z < 0 then -z else z) n := by unfold drawP; rw [e]
    rw [ed]
    refine' exsR_if_t ?ht (exsR_ret ?hv)
    case ht => exact tb_cmp (tv_name rfl) (tv_callb (tv_bn gd (by decide +kernel) bb_len) (ts_cons (tv_sub (tv_name rfl) tv_int (op_item_own (.head _) (by decide) rfl)) ts_nil) cl_len) (op_ltT (by rw [List.length_map]; omega))
    case hv => exact tv_bin (tv_callb (tv_bn gd (by decide +kernel) bb_abs) (ts_cons (tv_sub (tv_sub (tv_name rfl) tv_int (op_item_own (.head _) (by decide) rfl)) (tv_name rfl) (op_item_l (d := .int z) (by omega) (by rw [Int.toNat_natCast, List.getElem?_map, e]; rfl))) ts_nil) cl_abs) (tv_name rfl) (op_mod hn)
  | none =>
    have hlt : ¬ spot < Ls.length := by have := List.getElem?_eq_none_iff.mp e; omega
    have ed : drawP Ls spot n = Int.fmod (5 * (spot : Int) + 1) n := by unfold drawP; rw [e]
    rw [ed]
    refine' exsR_cons (ex_if_pass ?ht) (exsR_ret ?hv)
    case ht => exact tb_cmp (tv_name rfl) (tv_callb (tv_bn gd (by decide +kernel) bb_len) (ts_cons (tv_sub (tv_name rfl) tv_int (op_item_own (.head _) (by decide) rfl)) ts_nil) cl_len) (op_ltF (by rw [List.length_map]; omega))
    case hv => exact tv_bin (tv_bin (tv_bin tv_int (tv_name rfl) (op_mul (by decide))) tv_int op_add) (tv_name rfl) (op_mod hn)

/-- a call of _law_draw upon the frame's own pool -/
theorem draw_cl {W : Wd} (gd : Gd W) : ∃ f o fd, W.mg "_law_draw" = some (.ref f) ∧ W.g.get? f = some o ∧ o.data = .func fd ∧
    ∀ {c : Cx} {σ : Sg} {ρ : Rh} {i : Nat} {P : Addr} {Ls : List Int} {spot : Nat} {n : Int} (s : Shared) (vs : List Value), c.toWd = W → Rm c.A 1 → FR c σ s.heap ρ → σ[i]? = some (P, poolD Ls spot) → n ≠ 0 → spot ≤ 1000 →
      Oks (Fz (MM c σ) s.heap) vs [.adr (.ref P), .int n] →
      wpAny (model Mine.P c.w) c.A (call (.ref f) vs) (fun v s' => Sa s s' ∧ FR c (σ.set i (P, poolD Ls (spot + 1))) s'.heap ρ ∧ Kb c σ s.heap s'.heap ∧ Ok (Fz (MM c σ) s'.heap) v (.int (drawP Ls spot n))) No s := by
  obtain ⟨f, cd, X⟩ := gd.fd 68 (by decide)
  obtain ⟨o, pm, doc, ho, hd⟩ := X.ob
  refine ⟨f, o, _, X.mg, ho, hd, fun {c σ ρ i P Ls spot n} s vs hW hr F hm hn hs os => ?_⟩
  subst hW
  have hmem : (P, poolD Ls spot) ∈ σ := List.mem_of_getElem? hm
  have hvl : vs.length = 2 := os.length
  have hbind := fn_b2 (name := fN (st 68)) (params := fP (st 68)) (body := fB (st 68)) (scope := fS (st 68)) (cd := cd) (n1 := "pool") (n2 := "many") (fun _ _ _ _ => by rfl) pm doc vs hvl
  have hkind : ∀ m, ∀ x ∈ (["pool", "many"] : List Str), (fS (st 68)).names.lookup x = some .local ∨ ((fS (st 68)).names.lookup x = some .cell ∧ ((cellsFrom m (fS (st 68)).names []).lookup x).isSome = true) := by
    intro m; simp; constructor <;> exact Or.inl rfl
  refine wpAny_call (call_cells (by have := hr.dp; omega) (F.kgh _ _ ho) hd (gd.nolimit.keeps F.kgh) (X.code.keeps F.kgh) hbind (fun x hx => hkind _ x.1 (List.of_mem_zip hx).1) (fun h₁ tk Fr Y => ?_) rfl rfl rfl)
  have hM : ∀ a, MM c σ a → c.g.get? a = none ∧ ∃ ob, s.heap.get? a = some ob := fun a m => ⟨F.mg a m, F.live a m⟩
  have FF := entry_fr gd (A := c.A) hr.hh F.kgh hM os (by decide +kernel) rfl (hkind _) Fr Y
  obtain ⟨hb, ws, k, hp, hlen, r⟩ := F.ow _ hmem
  have F2 := FF.hide (P := P) (.inr ⟨_, hmem, rfl⟩) hp hlen r
  refine wpAny_mono (draw_body gd hn hs { s with heap := h₁, toks := tk } F2) (fun fl s' q => ?_) fun _ _ x => x.elim
  obtain ⟨v, ρ', rfl, ⟨h', tk', rfl⟩, o', F3⟩ := q
  have hk : ∀ b ob, b ≠ P → s.heap.get? b = some ob → h'.get? b = some ob := fun b ob hne e => F3.kb b ob (by
    show (s.heap.hide P).get? b = some ob
    rw [Heap.hide_ne _ hne]; exact e)
  obtain ⟨_, ws', k', hp', hlen', r'⟩ := F3.ow _ (List.mem_singleton.mpr rfl)
  have less : ∀ a, MM c σ a → MM { toWd := c.toWd, A := c.A.deeper (envOfC (fN (st 68)) (fS (st 68)) s.heap.objs.size f cd), base := s.heap.hide P, M0 := fun a => MM c σ a ∧ a ≠ P, env := envOfC (fN (st 68)) (fS (st 68)) s.heap.objs.size f cd } [(P, poolD Ls (spot + 1))] a := fun a m => by
    by_cases h : a = P
    · exact .inr ⟨_, List.mem_singleton.mpr rfl, h.symm⟩
    · exact .inl ⟨m, h⟩
  obtain ⟨F4, kb4⟩ := F.upd hm hk hp' hlen' (r'.less less)
  exact ⟨⟨h', tk', rfl⟩, F4, kb4, Ok.less o' less⟩
end Mine
end
end

section
open PySem PySem.W PySem.Calls PyProof.Rows
set_option Elab.async false
set_option maxRecDepth 100000
set_option linter.unusedVariables false
set_option linter.unusedSimpArgs false
set_option maxHeartbeats 2000000
namespace Mine

section
variable {c : Cx} {σ σ₁ σ₂ σ' : Sg} {ρ : Rh}

def TdQ (c : Cx) (σ : Sg) (ρ : Rh) (σ' : Sg) (s : Shared) (s' : Shared) : Prop := Sa s s' ∧ σ'.map (·.1) = σ.map (·.1) ∧ FR c σ' s'.heap ρ ∧ Kb c σ s.heap s'.heap
/-- an expression that may change the frame's own lists -/
def Td (c : Cx) (σ : Sg) (ρ : Rh) (t : Sem Value) (d : D) (σ' : Sg) : Prop := ∀ s, FR c σ s.heap ρ → wpAny (model P c.w) c.A t (fun v s' => TdQ c σ ρ σ' s s' ∧ Ok (Fz (MM c σ') s'.heap) v d) No s
def Tds (c : Cx) (σ : Sg) (ρ : Rh) (t : Sem (List Value)) (ds : List D) (σ' : Sg) : Prop := ∀ s, FR c σ s.heap ρ → wpAny (model P c.w) c.A t (fun v s' => TdQ c σ ρ σ' s s' ∧ Oks (Fz (MM c σ') s'.heap) v ds) No s

theorem TdQ.trans {s s₁ s₂ : Shared} (x : TdQ c σ ρ σ₁ s s₁) (y : TdQ c σ₁ ρ σ₂ s₁ s₂) : TdQ c σ ρ σ₂ s s₂ := ⟨x.1.trans y.1, y.2.1.trans x.2.1, y.2.2.1, x.2.2.2.trans (y.2.2.2.of_map x.2.1)⟩
theorem TdQ.of_stp {s s₁ : Shared} (F : FR c σ s.heap ρ) (k : Stp s s₁) : TdQ c σ ρ σ s s₁ := ⟨k.sa, rfl, F.keeps k.kp, .of_kp k.kp⟩
theorem TdQ.ok {s s₁ : Shared} (F : FR c σ s.heap ρ) (x : TdQ c σ ρ σ₁ s s₁) {v : Value} {d : D} (o : Ok (Fz (MM c σ) s.heap) v d) : Ok (Fz (MM c σ₁) s₁.heap) v d := o.kb F x.2.2.2 x.2.1

theorem td_tv {t : Sem Value} {d : D} (h : Tv c σ ρ t d) : Td c σ ρ t d σ := fun s F => wpAny_mono (h s F) (fun v s' q => ⟨.of_stp F q.1, q.2⟩) fun _ _ x => x
theorem td_bin {l r : Expr} {op : Operator} {pos : Pos} {a b d : D} (h1 : Td c σ ρ (eval l c.env) a σ₁) (h2 : Td c σ₁ ρ (eval r c.env) b σ₂) (ho : Op2 c σ₂ ρ (binaryOp op) a b d) : Td c σ ρ (eval (.BinOp l op r pos) c.env) d σ₂ := fun s F =>
  wpAny_BinOp (wpAny_mono (h1 s F) (fun va s1 q1 => wpAny_mono (h2 s1 q1.1.2.2.1) (fun vb s2 q2 =>
    wpAny_mono (ho s2 va vb q2.1.2.2.1 (q2.1.ok q1.1.2.2.1 q1.2) q2.2) (fun v s3 x => ⟨(q1.1.trans q2.1).trans (.of_stp q2.1.2.2.1 x.1), x.2⟩) fun _ _ x => x) fun _ _ x => x) fun _ _ x => x)
theorem td_sub {value slice : Expr} {pos : Pos} {a b d : D} (h1 : Td c σ ρ (eval value c.env) a σ₁) (h2 : Td c σ₁ ρ (eval slice c.env) b σ₂) (ho : Op2 c σ₂ ρ (subscriptTail value slice) a b d) : Td c σ ρ (eval (.Subscript value slice pos) c.env) d σ₂ := fun s F =>
  Subscript_ (wpAny_mono (h1 s F) (fun va s1 q1 => wpAny_mono (h2 s1 q1.1.2.2.1) (fun vb s2 q2 =>
    wpAny_mono (ho s2 va vb q2.1.2.2.1 (q2.1.ok q1.1.2.2.1 q1.2) q2.2) (fun v s3 x => ⟨(q1.1.trans q2.1).trans (.of_stp q2.1.2.2.1 x.1), x.2⟩) fun _ _ x => x) fun _ _ x => x) fun _ _ x => x)
theorem td_if_t {test body orelse : Expr} {pos : Pos} {d : D} (h : Tb c σ ρ (isTrue test c.env (eval test c.env)) true) (h1 : Td c σ ρ (eval body c.env) d σ') : Td c σ ρ (eval (.IfExp test body orelse pos) c.env) d σ' := fun s F =>
  IfExp_ (wpAny_mono (h s F) (fun t s1 q => by
    obtain ⟨rfl, k1⟩ := q
    exact wpAny_mono (h1 s1 (F.keeps k1.kp)) (fun v s2 x => ⟨(TdQ.of_stp F k1).trans x.1, x.2⟩) fun _ _ x => x) fun _ _ x => x)
theorem td_if_f {test body orelse : Expr} {pos : Pos} {d : D} (h : Tb c σ ρ (isTrue test c.env (eval test c.env)) false) (h1 : Td c σ ρ (eval orelse c.env) d σ') : Td c σ ρ (eval (.IfExp test body orelse pos) c.env) d σ' := fun s F =>
  IfExp_ (wpAny_mono (h s F) (fun t s1 q => by
    obtain ⟨rfl, k1⟩ := q
    exact wpAny_mono (h1 s1 (F.keeps k1.kp)) (fun v s2 x => ⟨(TdQ.of_stp F k1).trans x.1, x.2⟩) fun _ _ x => x) fun _ _ x => x)
theorem tds_nil {pos : Pos} : Tds c σ ρ (spliced (backTo pos (starEach [] c.env))) [] σ := fun s F => args_nil ⟨.of_stp F (.refl s), .nil⟩
theorem tds_cons {e : Expr} {rest : List Expr} {pos : Pos} {d : D} {ds : List D} (h1 : Td c σ ρ (eval e c.env) d σ₁) (h2 : Tds c σ₁ ρ (spliced (backTo pos (starEach rest c.env))) ds σ₂)
    (he : starEach (e :: rest) c.env = (false, eval e c.env) :: starEach rest c.env := by rfl) : Tds c σ ρ (spliced (backTo pos (starEach (e :: rest) c.env))) (d :: ds) σ₂ := fun s F =>
  args_cons (wpAny_mono (h1 s F) (fun v s1 q1 => wpAny_mono (h2 s1 q1.1.2.2.1) (fun vs s2 q2 => ⟨q1.1.trans q2.1, .cons (q2.1.ok q1.1.2.2.1 q1.2) q2.2⟩) fun _ _ x => x) fun _ _ x => x) he
theorem td_tuple {elts : List Expr} {k : Nat} {pos : Pos} {ds : List D} (h : Tds c σ ρ (spliced (backTo pos (starEach elts c.env))) ds σ') (hl : ds.length ≤ Bd := by simp [Bd]) : Td c σ ρ (eval (.Tuple elts k pos) c.env) (.tup ds) σ' := fun s F =>
  Tuple_ (wpAny_mono (h s F) (fun vs s1 x => alloc_tup x.1.2.2.1 x.2 (x.2.length ▸ hl) fun v s2 y => ⟨x.1.trans (.of_stp x.1.2.2.1 y.1), y.2⟩) fun _ _ x => x)

/-- _law_draw(pool, n) -/
theorem td_draw (gd : Gd c.toWd) (hr : Rm c.A 1) {x : Str} {p p1 p2 pos : Pos} {k i : Nat} {P' : Addr} {Ls : List Int} {spot : Nat} {n : Int} (hp : ρ.lookup x = some (.adr (.ref P'))) (hm : σ[i]? = some (P', poolD Ls spot)) (hn : n ≠ 0) (hs : spot ≤ 1000)
    (hx : c.env.kindOf "_law_draw" = some .globalImplicit := by rfl) (hd1 : (x == ("__debug__" : Str)) = false := by decide +kernel) (hd2 : (x == ("__classdict__" : Str)) = false := by decide +kernel) :
    Td c σ ρ (eval (.Call (.Name "_law_draw" p) [.Name x p1, .Constant (.int n) k p2] [] pos) c.env) (.int (drawP Ls spot n)) (σ.set i (P', poolD Ls (spot + 1))) := fun s F => by
  obtain ⟨f, o, fd, h1, h2, h3, h4⟩ := draw_cl gd
  refine Call_ (tv_then (tv_global hx h1 (.adr _) (by decide +kernel)) F fun v s1 k1 F1 o1 => ?_) rfl
  cases o1
  refine callWith_def h3 (wpAny_mono ((ts_cons (tv_name hp hd1 hd2) (ts_cons tv_int ts_nil)) s1 F1) (fun vs s2 y => ⟨(F1.keeps y.1.kp).kgh _ _ h2, ?_⟩) fun _ _ x => x) rfl
  have F2 := F1.keeps y.1.kp
  refine wpAny_mono (h4 s2 vs rfl hr F2 hm hn hs y.2) (fun v s3 q => ?_) fun _ _ x => x
  obtain ⟨a3, F3, kb3, o3⟩ := q
  have hmap : (σ.set i (P', poolD Ls (spot + 1))).map (·.1) = σ.map (·.1) := set_map hm
  exact ⟨⟨(k1.trans y.1).sa.trans a3, hmap, F3, (Kb.of_kp (k1.trans y.1).kp).trans kb3⟩, o3.less fun a m => m.of_map hmap⟩

theorem ex_assignd {x : Str} {p pos : Pos} {value : Expr} {d : D} (h : Td c σ ρ (eval value c.env) d σ') (hx : St c x) (hs : swapsWith value (some (.Name x p)) pos.line c.env = pure false := by rfl) : Ex1 c σ ρ (.Assign [.Name x p] value pos) (.next σ' ((x, d) :: ρ)) := fun s F =>
  wpAny_Assign_Name (wpAny_mono (h s F) (fun v s1 q => store_ q.1.2.2.1 q.2 hx fun s2 a2 F2 kb2 _ => ⟨rfl, q.1.1.trans a2, q.1.2.1, F2, q.1.2.2.2.trans (kb2.of_map q.1.2.1)⟩) fun _ _ x => x) hs

theorem ex_swapd {elts : List Expr} {k : Nat} {tpos pos : Pos} {value : Expr} {names : List Str} {ds : List D} (h : Td c σ ρ (eval value c.env) (.tup ds) σ')
    (hw : swappedStores [.Tuple elts k tpos] value c.env = pure (some names)) (hl : names.length = ds.length) (hx : ∀ n ∈ names, St c n)
    (hs : swapsWithSole [.Tuple elts k tpos] value pos.line c.env = pure false := by rfl) : Ex1 c σ ρ (.Assign [.Tuple elts k tpos] value pos) (.next σ' (puts (names.zip ds).reverse ρ)) := fun s F => by
  refine Assign_Tuple_swapped (wpAny_mono (h s F) (fun v s1 q => ?_) fun _ _ x => x) hs hw
  obtain ⟨⟨a1, e1, F1, kb1⟩, o1⟩ := q
  cases o1 with
  | @tup t n vs _ hp hlen r =>
  have hT : IsTup s1.heap t vs.toArray := ⟨_, hp.1, rfl, n, rfl⟩
  have e : names.length = vs.toArray.size := by rw [List.size_toArray, r.length, hl]
  rw [e]
  refine unpackItems_tuple F1.ah hT fun h' he => ?_
  have hk := kp_ext he
  have F2 : FR c σ' h' ρ := F1.keeps hk
  refine stores_ (names.zip ds).reverse _ ρ _ _ _ F2 ?_ (fun p hp => hx p.1 (List.of_mem_zip (List.mem_reverse.mp hp)).1) (fun i n e => ?_) (by simp [hl]) fun s' a F' kb' => ⟨rfl, (a1.trans ⟨h', s1.toks, rfl⟩).trans a, e1, F', kb1.trans (((Kb.of_kp hk).trans kb').of_map e1)⟩
  · have e2 : (names.zip ds).reverse.map (·.2) = ds.reverse := by
      rw [List.map_reverse, List.map_snd_zip (Nat.le_of_eq hl.symm)]
    rw [e2]
    have : ∀ {φ : Hp} {vs : List Value} {ds : List D}, Oks φ vs ds → Oks φ vs.reverse ds.reverse := fun {φ} {vs} {ds} x => by
      induction vs generalizing ds with
      | nil => cases x; exact .nil
      | cons v vs ih => cases x with | cons a b => rw [List.reverse_cons, List.reverse_cons]; exact (ih b).append (.cons a .nil)
    simpa using this (r.keeps hk)
  · have e2 : (names.zip ds).reverse.map (·.1) = names.reverse := by
      rw [List.map_reverse, List.map_fst_zip (Nat.le_of_eq hl)]
    rw [e2] at e
    exact ⟨bindName c.env n, by rw [List.getElem?_map, e]; rfl, fun v s Q q => wpAny_bindName q⟩
end
end Mine
end

section
open PySem PySem.W PySem.Calls PyProof.Rows
set_option Elab.async false
set_option maxRecDepth 100000
set_option linter.unusedVariables false
set_option linter.unusedSimpArgs false
set_option maxHeartbeats 4000000
noncomputable section
namespace Mine

theorem drawP_lo (L : List Int) (s : Nat) {n : Int} (hn : 0 < n) : 0 ≤ drawP L s n := by
  unfold drawP
  split <;> exact Int.fmod_nonneg_of_pos _ hn
theorem drawP_hi (L : List Int) (s : Nat) {n : Int} (hn : 0 < n) : drawP L s n < n := by
  unfold drawP
  split <;> exact Int.fmod_lt_of_pos _ hn

def menu (l : List Int) (k : Int) : Int := (l[k.toNat]?).getD 0
def d0 (L : List Int) : Int := drawP L 0 6
def d1 (L : List Int) : Int := menu [1, -1, 2, -2] (drawP L 1 4)
def d2 (L : List Int) : Int := 2 * drawP L 2 2 - 1
def d3 (L : List Int) : Int := menu [-1, 2, -3, 3] (drawP L 3 4)
def d4 (L : List Int) : Int := menu [1, -3, 3, -1] (drawP L 4 4)
def d5 (L : List Int) : Int := drawP L 5 4
def d6 (L : List Int) : Int := if d2 L = 1 then 4 - drawP L 6 2 else 3

def rhoPre (L : List Int) (P l : Addr) : Rh := ("order", .int (d6 L)) :: ("k", .int (d3 L)) :: ("place", .int (d4 L)) :: ("less", .int (d5 L)) :: ("kind", .int (d0 L)) :: ("c", .int (d1 L)) :: ("power", .int (d2 L)) :: ("pool", .adr (.ref P)) :: [("script", .adr (.ref l))]

theorem op_menu {c : Cx} {σ : Sg} {ρ : Rh} {value slice : Expr} {a b e f k : Int} (h0 : 0 ≤ k) (h1 : k < 4)
    (hs : ∀ t (k : Int) u, subscripted slice false (.ref t) (.int k u) = operate [.ref t, .int k u] (getItem (.ref t) (.int k u)) := by intro _ _ _; with_unfolding_all rfl) :
    Op2 c σ ρ (subscriptTail value slice) (.tup [.int a, .int b, .int e, .int f]) (.int k) (.int (menu [a, b, e, f] k)) := by
  have hc : k = 0 ∨ k = 1 ∨ k = 2 ∨ k = 3 := by omega
  rcases hc with rfl | rfl | rfl | rfl
  · exact op_item_t (by decide) (by decide) rfl rfl (fun t u => hs t _ u)
  · exact op_item_t (by decide) (by decide) rfl rfl (fun t u => hs t _ u)
  · exact op_item_t (by decide) (by decide) rfl rfl (fun t u => hs t _ u)
  · exact op_item_t (by decide) (by decide) rfl rfl (fun t u => hs t _ u)

theorem oks_ints {φ : Hp} : ∀ {vs : List Value} {ns : List Int}, vs.length = ns.length → (∀ (i : Nat) v n, vs[i]? = some v → ns[i]? = some n → ∃ t, v = Value.int n t) → Oks φ vs (ns.map D.int)
  | [], [], _, _ => .nil
  | v :: vs, n :: ns, hl, h => by
    obtain ⟨t, rfl⟩ := h 0 v n rfl rfl
    exact .cons (.int _ _) (oks_ints (by simpa using hl) fun i v n a b => h (i + 1) v n (by simpa using a) (by simpa using b))

/-- the law up to its draws -/
theorem law_pre {W : Wd} (gd : Gd W) {A : Around} (hr : Rm A 1) {base : Heap} {M0 : Addr → Prop} {La f l : Addr} {cd : Value} {vs : List Value} {ns : List Int} {d : D} (hb : base.IsList l vs.toArray) (hsz : vs.length ≤ sizeLine)
    (os : ∀ φ : Hp, Oks φ (vs.take 8) ((ns.take 8).map D.int))
    (h : ∀ P, Exs ⟨W, A, base, M0, envOfC (fN (st 73)) (fS (st 73)) La f cd⟩ [(P, poolD (ns.take 8) 7)] (rhoPre (ns.take 8) P l) ((fB (st 73)).drop 4) (.ret d) ∧
      Exs ⟨W, A, base, M0, envOfC (fN (st 73)) (fS (st 73)) La f cd⟩ [(P, poolD (ns.take 8) 6)] (rhoPre (ns.take 8) P l) ((fB (st 73)).drop 4) (.ret d)) :
    Exs ⟨W, A, base, M0, envOfC (fN (st 73)) (fS (st 73)) La f cd⟩ [] [("script", .adr (.ref l))] (fB (st 73)) (.ret d) := by
  generalize hL : ns.take 8 = L at *
  have hlen8 : L.length ≤ 8 := by rw [← hL, List.length_take]; omega
  refine' exs_ownlist (ds := poolD L 0) (.inl rfl) (ts_cons ?hcomp (ts_cons tv_int ts_nil)) (by simp [Bd]) fun P => ?_
  case hcomp =>
    refine tv_comp (c := ⟨W, A, base, M0, envOfC (fN (st 73)) (fS (st 73)) La f cd⟩) (ds := L.map D.int) (outs := L.map D.int) (Rin := []) (compOk_of (by decide +kernel)) (by intro p hp hf; simp at hp; rcases hp with rfl | rfl | rfl <;> cases hf) (by intro y d hy; simp at hy) rfl
      (src_list (slice_raw (k := 8) (tv_name rfl) hb hsz tv_int (by decide) (by decide) os) (by rw [List.length_map]; show _ ≤ 4096; omega) (.inl ⟨_, _, rfl⟩)) (fun bs C D₀ j dd oo ao hd ho => ?_)
    rw [hd] at ho
    cases ho
    rw [List.getElem?_map, Option.map_eq_some_iff] at hd
    obtain ⟨z, _, rfl⟩ := hd
    exact tv_callt (tv_bn gd (by decide +kernel) bb_int) (ts_cons (tv_name rfl) ts_nil) cl_int
  refine' exs_cons (ex_swapd (names := ["kind", "c", "power"]) (ds := [.int (d0 L), .int (d1 L), .int (d2 L)]) (td_tuple (tds_cons ?k1 (tds_cons ?k2 (tds_cons ?k3 tds_nil)))) (by rfl) rfl (by simp; exact ⟨.inl rfl, .inl rfl, .inl rfl⟩)) ?_
  case k1 => exact td_draw gd hr (i := 0) (spot := 0) rfl rfl (by decide) (by decide)
  case k2 => exact td_sub (td_tv (tv_tuple (ts_cons tv_int (ts_cons (tv_un tv_int op_neg) (ts_cons tv_int (ts_cons (tv_un tv_int op_neg) ts_nil)))))) (td_draw gd hr (i := 0) (spot := 1) rfl rfl (by decide) (by decide)) (op_menu (drawP_lo _ _ (by decide)) (drawP_hi _ _ (by decide)))
  case k3 => exact td_bin (td_bin (td_tv tv_int) (td_draw gd hr (i := 0) (spot := 2) rfl rfl (by decide) (by decide)) (op_mul (by decide))) (td_tv tv_int) op_sub
  refine' exs_cons (ex_swapd (names := ["k", "place", "less"]) (ds := [.int (d3 L), .int (d4 L), .int (d5 L)]) (td_tuple (tds_cons ?k4 (tds_cons ?k5 (tds_cons ?k6 tds_nil)))) (by rfl) rfl (by simp; exact ⟨.inl rfl, .inl rfl, .inl rfl⟩)) ?_
  case k4 => exact td_sub (td_tv (tv_tuple (ts_cons (tv_un tv_int op_neg) (ts_cons tv_int (ts_cons (tv_un tv_int op_neg) (ts_cons tv_int ts_nil)))))) (td_draw gd hr (i := 0) (spot := 3) rfl rfl (by decide) (by decide)) (op_menu (drawP_lo _ _ (by decide)) (drawP_hi _ _ (by decide)))
  case k5 => exact td_sub (td_tv (tv_tuple (ts_cons tv_int (ts_cons (tv_un tv_int op_neg) (ts_cons tv_int (ts_cons (tv_un tv_int op_neg) ts_nil)))))) (td_draw gd hr (i := 0) (spot := 4) rfl rfl (by decide) (by decide)) (op_menu (drawP_lo _ _ (by decide)) (drawP_hi _ _ (by decide)))
  case k6 => exact td_draw gd hr (i := 0) (spot := 5) rfl rfl (by decide) (by decide)
  by_cases hp : d2 L = 1
  · have h1 := (h P).1
    have e6 : d6 L = 4 - drawP L 6 2 := if_pos hp
    unfold rhoPre at h1
    rw [e6] at h1
    refine' exs_cons (ex_assignd (td_if_t ?k7 (td_bin (td_tv tv_int) (td_draw gd hr (i := 0) (spot := 6) rfl rfl (by decide) (by decide)) op_sub)) (.inl rfl)) h1
    have op1 : ∀ {σ ρ}, Op2 ⟨W, A, base, M0, envOfC (fN (st 73)) (fS (st 73)) La f cd⟩ σ ρ (compareOp .Eq) (.int (d2 L)) (.int 1) (.bool true) := fun {σ ρ} => by
      have := op_eqi (c := ⟨W, A, base, M0, envOfC (fN (st 73)) (fS (st 73)) La f cd⟩) (σ := σ) (ρ := ρ) (a := d2 L) (b := 1)
      rwa [show (d2 L == 1) = true by simpa using hp] at this
    exact tb_cmp (tv_name rfl) tv_int op1
  · have h1 := (h P).2
    have e6 : d6 L = 3 := if_neg hp
    unfold rhoPre at h1
    rw [e6] at h1
    refine' exs_cons (ex_assignd (td_if_f ?k8 (td_tv tv_int)) (.inl rfl)) h1
    have op1 : ∀ {σ ρ}, Op2 ⟨W, A, base, M0, envOfC (fN (st 73)) (fS (st 73)) La f cd⟩ σ ρ (compareOp .Eq) (.int (d2 L)) (.int 1) (.bool false) := fun {σ ρ} => by
      have := op_eqi (c := ⟨W, A, base, M0, envOfC (fN (st 73)) (fS (st 73)) La f cd⟩) (σ := σ) (ρ := ρ) (a := d2 L) (b := 1)
      rwa [show (d2 L == 1) = false by simpa using hp] at this
    exact tb_cmp (tv_name rfl) tv_int op1
end Mine
end
end

section
open PySem PySem.W PySem.Calls PyProof.Rows
set_option Elab.async false
set_option maxRecDepth 100000
set_option linter.unusedVariables false
set_option linter.unusedSimpArgs false
set_option maxHeartbeats 4000000
noncomputable section
namespace Mine

def lawS (i : Nat) : S := match nth (bodyOf 73) i with
  | some s => s
  | .none => .oth (.Pass ⟨0, 0, 0, 0⟩)
def eOf : S → E
  | .asg _ e _ => e
  | .asc _ e _ => e
  | .ite c _ _ _ => c
  | .ret (.and (e :: _) _) _ => e
  | _ => .cn 0 ⟨0, 0, 0, 0⟩
/-- the law's frame, of which only some names are asked: kind c power k place less order x row spread moved_leaf other -/
def rr (a b c d e f g h i j k l : B) : List B := [.un, .un, a, b, c, d, e, f, g, h, i, j, k, l]
abbrev cfL : Cf := callF 24
abbrev vi (z : Int) : B := .va (.int z)
def isF : Option Bool → Bool
  | some false => true
  | _ => false
def isT' : Option V → Bool
  | some (.bool true) => true
  | _ => false
def xV : Option V := (ce (eOf (lawS 4))).run cfL (rr .un .un .un .un .un .un .un .un .un .un .un .un)
def rowV (kd c p o : Int) (x : V) : Option V := (ce (eOf (lawS 5))).run cfL (rr (vi kd) (vi c) (vi p) .un .un .un (vi o) (.va x) .un .un .un .un)
def if1V (kd c p le o : Int) (x r : V) : Option Bool := (ct (eOf (lawS 6))).run cfL (rr (vi kd) (vi c) (vi p) .un .un (vi le) (vi o) (.va x) (.va r) .un .un .un)
def if2V (kd c p k o : Int) (x r : V) : Option Bool := (ct (eOf (lawS 7))).run cfL (rr (vi kd) (vi c) (vi p) (vi k) .un .un (vi o) (.va x) (.va r) .un .un .un)
def sprV (o : Int) (r : V) : Option V := (ce (eOf (lawS 8))).run cfL (rr .un .un .un .un .un .un (vi o) .un (.va r) .un .un .un)
def if3V (kd c p o : Int) (x sp : V) : Option Bool := (ct (eOf (lawS 9))).run cfL (rr (vi kd) (vi c) (vi p) .un .un .un (vi o) (.va x) .un (.va sp) .un .un)
def mvV (pl : Int) (x : V) : Option V := (ce (eOf (lawS 10))).run cfL (rr .un .un .un .un (vi pl) .un .un (.va x) .un .un .un .un)
def if4V (kd c p pl o : Int) (r ml : V) : Option Bool := (ct (eOf (lawS 11))).run cfL (rr (vi kd) (vi c) (vi p) .un (vi pl) .un (vi o) .un (.va r) .un (.va ml) .un)
def othV (kd c p : Int) : Option V := (ce (eOf (lawS 12))).run cfL (rr (vi kd) (vi c) (vi p) .un .un .un .un .un .un .un .un .un)
def endV (o : Int) (r ot : V) : Option V := (ce (eOf (lawS 13))).run cfL (rr .un .un .un .un .un .un (vi o) .un (.va r) .un .un (.va ot))

def allI (f : Int → Bool) : List Int → Bool
  | [] => true
  | z :: l => bif f z then allI f l else false
def fact2 (kd c p o : Int) (x r : V) : Bool :=
  allI (fun le => isF (if1V kd c p le o x r)) [0, 1, 2, 3] && allI (fun k => isF (if2V kd c p k o x r)) [-1, 2, -3, 3] &&
  (match sprV o r with
    | some sp => isF (if3V kd c p o x sp)
    | .none => false) &&
  allI (fun pl => match mvV pl x with
    | some ml => isF (if4V kd c p pl o r ml)
    | .none => false) [1, -3, 3, -1] &&
  (match othV kd c p with
    | some ot => isT' (endV o r ot)
    | .none => false)
def facts (kd c p o : Int) : Bool := match xV with
  | some x => match rowV kd c p o x with
    | some r => fact2 kd c p o x r
    | .none => false
  | .none => false
end Mine
end
end

section
open PySem PySem.W PySem.Calls PyProof.Rows
set_option Elab.async false
set_option maxRecDepth 100000
set_option linter.unusedVariables false
set_option linter.unusedSimpArgs false
set_option maxHeartbeats 4000000
namespace Mine

def RelL : List Str → List B → Rh → Prop
  | x :: xs, b :: bs, R => (match b with
    | .va v => R.lookup x = some (dV v)
    | .un => True
    | .ow _ => False) ∧ RelL xs bs R
  | _, [], _ => True
  | [], _ :: _, _ => False
theorem relL_rel {σ : Sg} {R : Rh} {xs : List Str} {bs : List B} (h : RelL xs bs R) : Rel xs bs σ R := by
  have key : ∀ (xs : List Str) (bs : List B), RelL xs bs R → (∀ i x v, nth xs i = some x → lk bs i = .va v → R.lookup x = some (dV v)) ∧ (∀ i l, lk bs i ≠ .ow l) := by
    intro xs
    induction xs with
    | nil =>
      intro bs h
      cases bs with
      | nil => exact ⟨fun i x v h => by (cases h), fun i l e => by (cases e)⟩
      | cons b bs => exact h.elim
    | cons y ys ih =>
      intro bs h
      cases bs with
      | nil => exact ⟨fun i x v _ e => by (cases e), fun i l e => by (cases e)⟩
      | cons b bs =>
        obtain ⟨h1, h2⟩ := h
        obtain ⟨k1, k2⟩ := ih bs h2
        refine ⟨fun i x v hx hv => ?_, fun i l e => ?_⟩
        · cases i with
          | zero => cases hx; cases b <;> simp only [lk_zero] at hv <;> cases hv; exact h1
          | succ i => exact k1 i x v hx hv
        · cases i with
          | zero => cases b <;> simp only [lk_zero] at e <;> cases e; exact h1.elim
          | succ i => exact k2 i l e
  obtain ⟨k1, k2⟩ := key xs bs h
  exact ⟨k1, fun _ => 0, fun i x l _ e => absurd e (k2 i l), fun i j l m e => absurd e (k2 i l)⟩
theorem nms73 : nmsOf 73 = (["script", "pool", "kind", "c", "power", "k", "place", "less", "order", "x", "row", "spread", "moved_leaf", "other"] : List Str) := by decide +kernel

section
variable {W : Wd} {cf : Cf} {K : Nat} {c : Cx} {nms : List Str} {ns : List (Str × NameKind)} {σ : Sg} {ρ : List B} {R : Rh} {o : Out} {rest : List Stmt}
theorem step_asg (gd : Gd W) (hcf : Calls W cf K) (hW : c.toWd = W) (hr : Rm c.A K) (O : FrOk c nms ns) {s : S} {x : Vn} {p : Pos} {v : V} (hs : s = .asg x (eOf s) p) (hc : chkS nms ns s = true) (L : Rel nms ρ σ R) (hv : (ce (eOf s)).run cf ρ = some v)
    (h : Exs c σ ((x.x, dV v) :: R) rest o) : Exs c σ R (denS s :: rest) o := by
  rw [hs] at hc ⊢
  simp only [chkS, Bool.and_eq_true, Bool.not_eq_true'] at hc
  exact exs_cons (ex_assign ((snd_e gd hcf (eOf s) c nms ns σ ρ R hW hr hc.1.2 O.toEnvOk L).tv v hv) (st_of O hc.1.1) (swF hc.2 hc.1.2)) h
theorem step_ite (gd : Gd W) (hcf : Calls W cf K) (hW : c.toWd = W) (hr : Rm c.A K) (O : FrOk c nms ns) {s : S} {a : List S} {p : Pos} (hs : s = .ite (eOf s) a [] p) (hc : chkS nms ns s = true) (L : Rel nms ρ σ R) (hv : isF ((ct (eOf s)).run cf ρ) = true)
    (h : Exs c σ R rest o) : Exs c σ R (denS s :: rest) o := by
  have e : (ct (eOf s)).run cf ρ = some false := by
    unfold isF at hv
    split at hv
    · rename_i e; exact e
    · cases hv
  rw [hs] at hc ⊢
  simp only [chkS, Bool.and_eq_true] at hc
  exact exs_cons (ex_if_pass ((snd_e gd hcf (eOf s) c nms ns σ ρ R hW hr hc.1.1 O.toEnvOk L).tt false e)) h
end

section
variable {W : Wd} {cf : Cf} {K : Nat} {c : Cx} {nms : List Str} {ns : List (Str × NameKind)} {σ : Sg} {ρ : List B} {R : Rh} {o : Out} {rest : List Stmt}
theorem step_asc (gd : Gd W) (hcf : Calls W cf K) (hW : c.toWd = W) (hr : Rm c.A K) (O : FrOk c nms ns) {s : S} {x : Vn} {p : Pos} {v : V} (hs : s = .asc x (eOf s) p) (hc : chkS nms ns s = true) (L : Rel nms ρ σ R) (hv : (ce (eOf s)).run cf ρ = some v)
    (h : Exs c σ ((x.x, dV v) :: R) rest o) : Exs c σ R (denS s :: rest) o := by
  rw [hs] at hc ⊢
  simp only [chkS, Bool.and_eq_true] at hc
  generalize eOf s = e at hc hv ⊢
  cases e with
  | comp el y q it sc caps pp =>
    have hc2 := hc.2
    simp only [Bool.and_eq_true, Bool.not_eq_true', decide_eq_true_eq, eqK] at hc2
    obtain ⟨ds, vs, rfl, I⟩ := comp_in (snd_e gd hcf el) (snd_e gd hcf it) hW hr hc.1.2 O.toEnvOk L hv
    refine exs_cons ?_ h
    rw [dV]
    have hsw : swapsWith (.ListComp (den el) [⟨.Name y q, den it, [], 0⟩] sc pp) (some (.Name x.x x.p)) p.line c.env = pure true := by
      have e0 : swapsWith (.ListComp (den el) [⟨.Name y q, den it, [], 0⟩] sc pp) (some (.Name x.x x.p)) p.line c.env =
        pure (c.env.blockKind == .function && c.env.kindOf x.x == some .local && x.p.line == pp.line && !(sc.names.any fun y => y.1 == x.x && (y.2 == .local || y.2 == .cell))) := rfl
      rw [e0]
      have hb : c.env.blockKind = .function := by unfold Env.blockKind; rw [O.fk]; rfl
      rw [hb, O.nm, hc2.1.1, hc2.1.2, hc2.2]
      simp
    exact ex_comp I.K I.hfree I.hR I.len (I.src q) I.elt (st_of O hc.1.1) hsw I.fs
  | _ => cases hc.2
end

theorem allI_mem {f : Int → Bool} {z : Int} : ∀ {l : List Int}, allI f l = true → z ∈ l → f z = true
  | [], _, h => nomatch h
  | a :: r, h, hz => by
    simp only [allI] at h
    cases ha : f a with
    | false => rw [ha] at h; cases h
    | true =>
      rw [ha] at h
      rcases List.mem_cons.mp hz with rfl | hz
      · exact ha
      · exact allI_mem h hz

end Mine
end

section
open PySem PySem.W PySem.Calls PyProof.Rows
set_option Elab.async false
set_option maxRecDepth 100000
set_option linter.unusedVariables false
namespace Mine

theorem dict_mapFields (f : Array Value → Array Value) (o : Obj) : (Obj.mapFields f o).dict = o.dict := by
  obtain ⟨c, d, dt, sl⟩ := o; cases dt <;> rfl

/-- the dict of the exception says kind = 'domain' -/
def KD (h : Heap) (dx : Addr) : Prop := ∃ m t, h.Ns dx m ∧ m "kind" = some (.str "domain" t)
theorem KD.slots {h h' : Heap} {dx : Addr} (x : KD h dx) (k : h.UpToSlots h') : KD h' dx := by
  obtain ⟨m, t, hn, hm⟩ := x; exact ⟨m, t, k.ns hn, hm⟩

/-- the exception, with its traceback -/
def XT (B : Heap) (e dx : Addr) (h : Heap) : Prop :=
  ∃ oe vs T oT ts, h.get? e = some oe ∧ oe.cls = .ref CA ∧ oe.dict = some dx ∧ oe.data = .fields vs ∧ vs[1]? = some (.ref T) ∧ B.get? T = none ∧ T ≠ e ∧ h.get? T = some oT ∧ oT.data = .fields ts ∧ 3 < ts.size
/-- the exception as it was made, no frame has seen it -/
def XN (e dx : Addr) (h : Heap) : Prop := ∃ oe vs, h.get? e = some oe ∧ oe.cls = .ref CA ∧ oe.dict = some dx ∧ oe.data = .fields vs ∧ vs[1]? = some .none

structure Xt (B : Heap) (l : List Env) (e dx : Addr) (h : Heap) : Prop where
  st : B.StaysIn h
  ne : B.get? e = none
  ff : h.FunFrames B l
  kd : KD h dx
  xt : XT B e dx h

/-- in flight -/
structure Xs (B : Heap) (l : List Env) (e dx : Addr) (h : Heap) : Prop where
  st : B.StaysIn h
  ne : B.get? e = none
  ff : h.FunFrames B l
  kd : KD h dx
  xe : XN e dx h ∨ XT B e dx h

theorem Xt.own {B : Heap} {l : List Env} {e dx : Addr} {h : Heap} (x : Xt B l e dx h) : Xs B l e dx h := ⟨x.st, x.ne, x.ff, x.kd, .inr x.xt⟩
theorem Xt.there {B : Heap} {l : List Env} {e dx : Addr} {h : Heap} (x : Xt B l e dx h) : ∃ oe vs, h.get? e = some oe ∧ oe.cls = .ref CA ∧ oe.dict = some dx ∧ oe.data = .fields vs := by
  obtain ⟨_, _, _, _, oe, vs, T, oT, ts, he, hc, hdi, hd, _⟩ := x; exact ⟨oe, vs, he, hc, hdi, hd⟩

section
variable {M : Model} {A : Around} {E : Value → Shared → Prop} {s : Shared}

theorem frameOf_same {env env' : Env} (h : env.frame = env'.frame) : PySem.frameOf env = PySem.frameOf env' := by unfold PySem.frameOf; rw [h]

theorem newEntryX {B : Heap} {env fe : Env} {outer : List Env} {L e dx : Addr} {oe : Obj} {vs : Array Value} {head : Value} {hadNext : Bool} {Q : Unit → Shared → Prop}
    (hfr : A.frames = some (fe :: outer)) (hl : s.heap.FunFrames B (fe :: outer)) (hf : env.frame = some L) (hfe : fe.frame = some L)
    (he : s.heap.get? e = some oe) (hkb : B.StaysIn s.heap) (hen : B.get? e = none) (hc : oe.cls = .ref CA) (hdi : oe.dict = some dx) (hd : oe.data = .fields vs) (hsz : 1 < vs.size) (hk : KD s.heap dx)
    (h : ∀ h', Xt B (fe :: outer) e dx h' → s.heap.UpToSlots h' → Q () { s with heap := h' }) :
    wpAny M A (do let a ← PySem.frameOf env; let pl ← entryPlaceOf L hadNext; let b ← EntryCells.newEntry head a .none (rawInt L) .none pl; setField (.ref e) 1 b) Q E s := by
  have hene : e ∉ (fe :: outer).filterMap (·.frame) := fun hm => by
    obtain ⟨_, o, ho, hnf⟩ := hl.mem hm
    rw [he] at ho; injection ho with ho; subst ho; exact hnf vs hd
  rw [frameOf_same (hf.trans hfe.symm)]
  refine wpAny_bind (wpAny_frameOf_fun hfr hl hfe fun h₁ hs₁ => ?_)
  refine wpAny_bind (wpAny_entryPlaceOf fun pl hpl => ?_)
  unfold EntryCells.newEntry newFields
  refine wpAny_bind (wpAny_newObj_type ?_ (hpl.sizeOk5 _ _ _ _ _))
  have he₁ : h₁.get? e = some oe := (hs₁.2.1 e hene).trans he
  have kb₁ : B.StaysIn h₁ := fun b o hbo => (hs₁.2.1 b fun hm => by rw [(hl.mem hm).1] at hbo; cases hbo).trans (hkb b o hbo)
  have he₂ := Heap.get?_push_of_some (h := h₁) { cls := .type "traceback", dict := none, data := .fields ([head, .ref L, .none, rawInt L, .none] ++ (if pl.isEmpty then List.replicate 6 Value.none else pl)).toArray } he₁
  refine wpAny_setField he₂ hd hsz ?_
  have hTe : h₁.objs.size ≠ e := Nat.ne_of_gt (Heap.lt_size he₁)
  have hd₃ := Obj.data_mapFields hd (·.setIfInBounds 1 (Value.ref h₁.objs.size))
  have he₃ := Heap.get?_update_self (Obj.mapFields (·.setIfInBounds 1 (Value.ref h₁.objs.size))) he₂ (Obj.isFreed_of_fields hd₃)
  have hT₃ := (Heap.get?_update_other (h₁.push { cls := .type "traceback", dict := none, data := .fields ([head, .ref L, .none, rawInt L, .none] ++ (if pl.isEmpty then List.replicate 6 Value.none else pl)).toArray })
    (Obj.mapFields (·.setIfInBounds 1 (Value.ref h₁.objs.size))) (Ne.symm hTe)).trans (Heap.get?_push_size h₁ rfl)
  have keep : ∀ b o, b ≠ e → h₁.get? b = some o →
      ((h₁.push { cls := .type "traceback", dict := none, data := .fields ([head, .ref L, .none, rawInt L, .none] ++ (if pl.isEmpty then List.replicate 6 Value.none else pl)).toArray }).update e (Obj.mapFields (·.setIfInBounds 1 (Value.ref h₁.objs.size)))).get? b = some o :=
    fun b o hbe hb => by
      rw [Heap.get?_update_other _ _ (Ne.symm hbe)]
      exact Heap.get?_push_of_some _ hb
  have noRecord : ∀ b o, s.heap.get? b = some o → (∀ vs, o.data ≠ .fields vs) → b ≠ e := fun b o hb hnf q => by
    rw [q, he] at hb; injection hb with hb; subst hb; exact hnf vs hd
  have ups : s.heap.UpToSlots ((h₁.push { cls := .type "traceback", dict := none, data := .fields ([head, .ref L, .none, rawInt L, .none] ++ (if pl.isEmpty then List.replicate 6 Value.none else pl)).toArray }).update e (Obj.mapFields (·.setIfInBounds 1 (Value.ref h₁.objs.size)))) := fun b o hb hnf => by
    obtain ⟨sl, hs⟩ := hs₁.2.2 b o hb
    exact ⟨sl, keep b _ (noRecord b o hb hnf) hs⟩
  have hf3 : (([head, .ref L, .none, rawInt L, .none] ++ (if pl.isEmpty then List.replicate 6 Value.none else pl)).toArray : Array Value)[3]? = some (rawInt L) := by
    first | (simp; done) | (rcases hpl with rfl | ⟨_, _, _, _, _, _, _, rfl⟩ <;> simp)
  refine h _ ⟨fun b o hbo => keep b o (fun q => by rw [q, hen] at hbo; cases hbo) (kb₁ b o hbo), hen, hl.of_keeps fun b o hb hnf => ?_, hk.slots ups, ?_⟩ ups
  · obtain ⟨sl, hs⟩ := hs₁.2.2 b o hb
    exact ⟨_, keep b _ (noRecord b o hb hnf) hs, rfl⟩
  · exact ⟨_, _, h₁.objs.size, _, _, he₃, (Obj.cls_mapFields _ _).trans hc, (dict_mapFields _ _).trans hdi, hd₃, by simp [hsz], kb₁.fresh, hTe, hT₃, rfl, (Array.getElem?_eq_some_iff.mp hf3).1⟩

/-- a cell of a record that is not the exception changes -/
theorem XT.other {B : Heap} {l : List Env} {e dx T : Addr} {x : Value} {oe oT : Obj} {vs ts : Array Value} {h : Heap} (hst : B.StaysIn h) (hne : B.get? e = none) (hff : h.FunFrames B l) (hkd : KD h dx)
    (he : h.get? e = some oe) (hc : oe.cls = .ref CA) (hdi : oe.dict = some dx) (hd : oe.data = .fields vs) (h1 : vs[1]? = some (.ref T)) (hnT : B.get? T = none) (hTe : T ≠ e) (hT : h.get? T = some oT) (hdT : oT.data = .fields ts) (h3 : 3 < ts.size) :
    Xt B l e dx (h.update T (Obj.mapFields (·.setIfInBounds 3 x))) ∧ h.UpToSlots (h.update T (Obj.mapFields (·.setIfInBounds 3 x))) := by
  have other : ∀ b, b ≠ T → (h.update T (Obj.mapFields (·.setIfInBounds 3 x))).get? b = h.get? b := fun b hb => Heap.get?_update_other _ _ (Ne.symm hb)
  have noRecord : ∀ b o, h.get? b = some o → (∀ vs, o.data ≠ .fields vs) → b ≠ T := fun b o hb hnf q => by
    rw [q, hT] at hb; injection hb with hb; subst hb; exact hnf ts hdT
  have ups : h.UpToSlots (h.update T (Obj.mapFields (·.setIfInBounds 3 x))) := fun b o hb hnf => ⟨o.slots, (other b (noRecord b o hb hnf)).trans hb⟩
  refine ⟨⟨fun b o hbo => (other b fun q => by rw [q, hnT] at hbo; cases hbo).trans (hst b o hbo), hne, hff.of_keeps fun b o hb hnf => ⟨o, (other b (noRecord b o hb hnf)).trans hb, rfl⟩, hkd.slots ups, ?_⟩, ups⟩
  exact ⟨oe, vs, T, _, _, (other e (Ne.symm hTe)).trans he, hc, hdi, hd, h1, hnT, hTe, Heap.get?_update_self _ hT (Obj.isFreed_of_fields (Obj.data_mapFields hdT _)), Obj.data_mapFields hdT _, by simp [h3]⟩

theorem noteX {B : Heap} {env fe : Env} {outer : List Env} {L e dx : Addr} {Q : Unit → Shared → Prop}
    (hfr : A.frames = some (fe :: outer)) (hf : env.frame = some L) (hfe : fe.frame = some L) (X : Xs B (fe :: outer) e dx s.heap)
    (h : ∀ h', Xt B (fe :: outer) e dx h' → s.heap.UpToSlots h' → Q () { s with heap := h' }) : wpAny M A (noteFrame (.ref e) env) Q E s := by
  obtain ⟨hkb, hen, hl, hk, hx⟩ := X
  unfold noteFrame
  simp only [hf]
  rcases hx with ⟨oe, vs, he, hc, hdi, hd, h1⟩ | ⟨oe, vs, T, oT, ts, he, hc, hdi, hd, h1, hnT, hTe, hT, hdT, h3⟩
  · refine wpAny_bind (wpAny_field he hd h1 ?_)
    rw [if_neg (by decide)]
    exact newEntryX hfr hl hf hfe he hkb hen hc hdi hd (Array.getElem?_eq_some_iff.mp h1).1 hk h
  · refine wpAny_bind (wpAny_field he hd h1 ?_)
    rw [if_pos (show (Value.ref T != Value.none) = true from by simp)]
    refine wpAny_bind (wpAny_field hT hdT (Array.getElem?_eq_getElem h3) ?_)
    by_cases hb : (ts[3] == rawInt L) = true
    · rw [if_pos hb]
      exact wpAny_pure (h s.heap ⟨hkb, hen, hl, hk, oe, vs, T, oT, ts, he, hc, hdi, hd, h1, hnT, hTe, hT, hdT, h3⟩ (.refl _))
    · rw [if_neg hb]
      refine wpAny_bind (wpAny_setField hT hdT h3 ?_)
      obtain ⟨Y, u⟩ := XT.other (x := .none) hkb hen hl hk he hc hdi hd h1 hnT hTe hT hdT h3
      have he' : (s.heap.update T (Obj.mapFields (·.setIfInBounds 3 Value.none))).get? e = some oe := (Heap.get?_update_other _ _ hTe).trans he
      exact newEntryX hfr Y.ff hf hfe he' Y.st hen hc hdi hd (Array.getElem?_eq_some_iff.mp h1).1 Y.kd fun h' x u' => h h' x (u.trans u')

theorem flightX {B : Heap} {l : List Env} {e dx : Addr} {f : Option Addr} {Q : Unit → Shared → Prop} (X : Xt B l e dx s.heap)
    (h : ∀ h', Xt B l e dx h' → s.heap.UpToSlots h' → Q () { s with heap := h' }) : wpAny M A (setFlight (.ref e) f) Q E s := by
  obtain ⟨hkb, hen, hl, hk, oe, vs, T, oT, ts, he, hc, hdi, hd, h1, hnT, hTe, hT, hdT, hsz3⟩ := X
  unfold setFlight
  refine wpAny_bind (wpAny_field he hd h1 ?_)
  rw [if_pos (show (Value.ref T != Value.none) = true from by simp)]
  obtain ⟨Y, u⟩ := XT.other (x := f.elim .none fun f => rawInt f) hkb hen hl hk he hc hdi hd h1 hnT hTe hT hdT hsz3
  exact wpAny_setField hT hdT hsz3 (h _ Y u)

theorem leaveX {B : Heap} {env : Env} {outer : List Env} {L e dx : Addr} {Q : Unit → Shared → Prop} (hfr : A.frames = some (env :: outer)) (hf : env.frame = some L) (X : Xs B (env :: outer) e dx s.heap)
    (h : ∀ h', Xt B outer e dx h' → s.heap.UpToSlots h' → Q () { s with heap := h' }) : wpAny M A (leaving env (.ref e)) Q E s := by
  unfold leaving
  refine wpAny_bind (noteX hfr hf hf X fun h₁ x₁ u₁ => flightX x₁ fun h₂ x₂ u₂ => h h₂ ⟨x₂.st, x₂.ne, x₂.ff.2.2, x₂.kd, x₂.xt⟩ (u₁.trans u₂))

theorem checkedX {B : Heap} {l : List Env} {e dx : Addr} {what : String} {f : Option Addr} {Q : Unit → Shared → Prop} (X : Xt B l e dx s.heap)
    (h : ∀ h', Xt B l e dx h' → s.heap.UpToSlots h' → Q () { s with heap := h' }) :
    wpAny M A (do
      if (← field (.ref e) 1) == .none then unsupported what
      setFlight (.ref e) f) Q E s := by
  obtain ⟨hkb, hen, hl, hk, oe, vs, T, oT, ts, he, hc, hdi, hd, h1, hnT, hTe, hT, hdT, h3⟩ := id X
  refine wpAny_bind (wpAny_field he hd h1 ?_)
  rw [if_neg (show ¬ ((Value.ref T == Value.none) = true) from by simp)]
  first
    | exact wpAny_bind (wpAny_pure (flightX X h))
    | exact flightX X h

theorem passX {α : Type} {B : Heap} {l : List Env} {e dx : Addr} {what : String} {env : Env} {Q : α → Shared → Prop} (X : Xt B l e dx s.heap)
    (h : ∀ h', Xt B l e dx h' → s.heap.UpToSlots h' → E (.ref e) { s with heap := h' }) : wpAny M A (PySem.passOn what (.ref e) env : Sem α) Q E s := by
  obtain ⟨hkb, hen, hl, hk, oe, vs, T, oT, ts, he, hc, hdi, hd, h1, hnT, hTe, hT, hdT, h3⟩ := id X
  unfold PySem.passOn
  refine wpAny_bind (wpAny_field he hd h1 ?_)
  rw [if_neg (show ¬ ((Value.ref T == Value.none) = true) from by simp)]
  first
    | exact wpAny_bind (wpAny_pure (wpAny_bind (flightX X fun h' x u => wpAny_throw (h h' x u))))
    | exact wpAny_bind (flightX X fun h' x u => wpAny_throw (h h' x u))
end
end Mine
end

section
open PySem PySem.W PySem.Calls PyProof.Rows
set_option Elab.async false
set_option maxRecDepth 100000
set_option linter.unusedVariables false
namespace Mine

/-- what an expression that raises leaves -/
def Rp (B : Heap) (l : List Env) (s : Shared) : Value → Shared → Prop := fun x s' => ∃ e dx, x = .ref e ∧ Sa s s' ∧ s.heap.get? dx = none ∧ s.heap.UpToSlots s'.heap ∧ Xs B l e dx s'.heap
/-- what a block that raises leaves -/
def Rq (base B : Heap) (l : List Env) (s : Shared) : Value → Shared → Prop := fun x s' => ∃ e dx, x = .ref e ∧ Sa s s' ∧ base.get? dx = none ∧ base.UpToSlots s'.heap ∧ Xs B l e dx s'.heap
abbrev NoQ {α : Type} : α → Shared → Prop := fun _ _ => False

theorem kp_none {h h' : Heap} {a : Addr} (k : Kp h h') (n : h'.get? a = none) : h.get? a = none := by
  cases e : h.get? a with
  | none => rfl
  | some o => have := k _ _ e; rw [n] at this; cases this
theorem Rp.before {B : Heap} {l : List Env} {s s1 s' : Shared} {x : Value} (k : Stp s s1) (h : Rp B l s1 x s') : Rp B l s x s' := by
  obtain ⟨e, dx, rfl, a, n, u, X⟩ := h
  exact ⟨e, dx, rfl, k.sa.trans a, kp_none k.kp n, (Heap.UpToSlots.of_keeps k.kp).trans u, X⟩
theorem Rp.q {base B : Heap} {l : List Env} {s s' : Shared} {x : Value} (h : Rp B l s x s') (k : Kp base s.heap) : Rq base B l s x s' := by
  obtain ⟨e, dx, rfl, a, n, u, X⟩ := h
  exact ⟨e, dx, rfl, a, kp_none k n, (Heap.UpToSlots.of_keeps k).trans u, X⟩
theorem Rq.before {base B : Heap} {l : List Env} {s s1 s' : Shared} {x : Value} (k : Sa s s1) (h : Rq base B l s1 x s') : Rq base B l s x s' := by
  obtain ⟨e, dx, rfl, a, X⟩ := h
  exact ⟨e, dx, rfl, k.trans a, X⟩

/-- the frames below, and the heap behind them all -/
structure Bk (B : Heap) (l : List Env) (L : Addr) (c : Cx) : Prop where
  fr : c.A.frames = some l
  hd : ∃ fe outer, l = fe :: outer ∧ fe.frame = some L
  ef : c.env.frame = some L
  gB : Kp c.g B
  lo : ∀ σ h ρ, FR c σ h ρ → h.FunFrames B l ∧ B.StaysIn h

section
variable {c : Cx} {σ σ₁ : Sg} {ρ ρ₁ : Rh} {B : Heap} {l : List Env} {L : Addr}

def Rz (c : Cx) (σ : Sg) (ρ : Rh) (B : Heap) (l : List Env) {α : Type} (t : Sem α) : Prop := ∀ s, FR c σ s.heap ρ → wpAny (model P c.w) c.A t NoQ (Rp B l s) s
def Rz1 (c : Cx) (σ : Sg) (ρ : Rh) (B : Heap) (l : List Env) (st : Stmt) : Prop := ∀ s, FR c σ s.heap ρ → wpAny (model P c.w) c.A (exec st c.env) NoQ (Rq c.base B l s) s
def Rzs (c : Cx) (σ : Sg) (ρ : Rh) (B : Heap) (l : List Env) (ss : List Stmt) : Prop := ∀ s, FR c σ s.heap ρ → wpAny (model P c.w) c.A (execs ss c.env) NoQ (Rq c.base B l s) s

theorem tv_thenE {t : Sem Value} {a : D} {Q : Value → Shared → Prop} {E : Value → Shared → Prop} {s : Shared} (h : Tv c σ ρ t a) (F : FR c σ s.heap ρ)
    (k : ∀ v s', Stp s s' → FR c σ s'.heap ρ → Ok (Fz (MM c σ) s'.heap) v a → Q v s') : wpAny (model P c.w) c.A t Q E s :=
  wpAny_mono (h s F) (fun v s' x => k v s' x.1 (F.keeps x.1.kp) x.2) fun _ _ x => x.elim

/-- a def of the text that raises upon given data -/
def FnR (W : Wd) (name : Str) (k : Nat) (args : List D) : Prop :=
  ∃ f o fd, W.mg name = some (.ref f) ∧ W.g.get? f = some o ∧ o.data = .func fd ∧
    ∀ (A : Around) (M : Addr → Prop) (s : Shared) (vs : List Value) (B : Heap) (l : List Env), Rm A k → A.frames = some l → Kp W.g B → B.StaysIn s.heap → s.heap.FunFrames B l → Kp W.g s.heap →
      (∀ a, M a → W.g.get? a = none ∧ ∃ ob, s.heap.get? a = some ob) → Oks (Fz M s.heap) vs args → wpAny (model P W.w) A (call (.ref f) vs) NoQ (Rp B l s) s

theorem FnR.le {W : Wd} {name : Str} {k j : Nat} {ds : List D} (h : FnR W name k ds) (hj : k ≤ j) : FnR W name j ds := by
  obtain ⟨f, o, fd, h1, h2, h3, h4⟩ := h
  exact ⟨f, o, fd, h1, h2, h3, fun A M s vs B l hr => h4 A M s vs B l (hr.le hj)⟩

theorem rz_fn {nm : Str} {p pos : Pos} {e : Expr} {rest : List Expr} {k : Nat} {ds : List D} (b : Bk B l L c) (hF : FnR c.toWd nm k ds) (hr : Rm c.A k) (ha : Ts c σ ρ (spliced (backTo pos (starEach (e :: rest) c.env))) ds)
    (hx : c.env.kindOf nm = some .globalImplicit := by rfl) (hd : (nm == ("__debug__" : Str)) = false := by decide +kernel)
    (he : eval (.Call (.Name nm p) (e :: rest) [] pos) c.env = (do callWith pos (← eval (.Name nm p) c.env) [] (backTo pos (starEach (e :: rest) c.env)) (backToKw pos (keywordEach [] c.env))) := by rfl)
    (he' : starEach (e :: rest) c.env = (false, eval e c.env) :: starEach rest c.env := by rfl) : Rz c σ ρ B l (eval (.Call (.Name nm p) (e :: rest) [] pos) c.env) := fun s F => by
  obtain ⟨f, o, fd, h1, h2, h3, h4⟩ := hF
  refine Call_ (tv_thenE (tv_global hx h1 (.adr _) hd) F fun v s1 k1 F1 o1 => ?_) he
  cases o1
  refine callWith_def h3 (wpAny_mono (ha s1 F1) (fun vs s2 q => ⟨q.1.kp f o (F1.kgh f o h2), ?_⟩) fun _ _ x => x.elim) he'
  have F2 := F1.keeps q.1.kp
  obtain ⟨x1, x2⟩ := b.lo _ _ _ F2
  exact wpAny_mono (h4 c.A (MM c σ) s2 vs B l hr b.fr b.gB x2 x1 F2.kgh (fun a m => ⟨F2.mg a m, F2.live a m⟩) q.2) (fun _ _ x => x.elim) fun x s' r => r.before (k1.trans q.1)

/-- an argument raises -/
theorem rz_arg {nm : Str} {p pos : Pos} {e : Expr} {rest : List Expr} {f : Addr} {o : Obj} {fd : FuncData} (h1 : c.mg nm = some (.ref f)) (h3 : o.data = .func fd)
    (ha : Rz c σ ρ B l (spliced (backTo pos (starEach (e :: rest) c.env))))
    (hx : c.env.kindOf nm = some .globalImplicit := by rfl) (hd : (nm == ("__debug__" : Str)) = false := by decide +kernel)
    (he : eval (.Call (.Name nm p) (e :: rest) [] pos) c.env = (do callWith pos (← eval (.Name nm p) c.env) [] (backTo pos (starEach (e :: rest) c.env)) (backToKw pos (keywordEach [] c.env))) := by rfl)
    (he' : starEach (e :: rest) c.env = (false, eval e c.env) :: starEach rest c.env := by rfl) : Rz c σ ρ B l (eval (.Call (.Name nm p) (e :: rest) [] pos) c.env) := fun s F => by
  refine Call_ (tv_thenE (tv_global hx h1 (.adr _) hd) F fun v s1 k1 F1 o1 => ?_) he
  cases o1
  exact callWith_def (o := o) h3 (wpAny_mono (ha s1 F1) (fun _ _ x => x.elim) fun x s' r => r.before k1) he'

theorem rz_args_here {e : Expr} {rest : List Expr} {pos : Pos} (h : Rz c σ ρ B l (eval e c.env))
    (he : starEach (e :: rest) c.env = (false, eval e c.env) :: starEach rest c.env := by rfl) : Rz c σ ρ B l (spliced (backTo pos (starEach (e :: rest) c.env))) := fun s F =>
  args_cons (wpAny_mono (h s F) (fun _ _ x => x.elim) fun _ _ x => x) he
theorem rz_args_next {e : Expr} {rest : List Expr} {pos : Pos} {d : D} (h : Tv c σ ρ (eval e c.env) d) (hr : Rz c σ ρ B l (spliced (backTo pos (starEach rest c.env))))
    (he : starEach (e :: rest) c.env = (false, eval e c.env) :: starEach rest c.env := by rfl) : Rz c σ ρ B l (spliced (backTo pos (starEach (e :: rest) c.env))) := fun s F =>
  args_cons (tv_thenE h F fun v s1 k1 F1 o1 => wpAny_mono (hr s1 F1) (fun _ _ x => x.elim) fun x s' r => r.before k1) he

theorem rz1_return {e : Expr} {pos : Pos} (h : Rz c σ ρ B l (eval e c.env)) : Rz1 c σ ρ B l (.Return (some e) pos) := fun s F =>
  wpAny_Return_some (wpAny_mono (h s F) (fun _ _ x => x.elim) fun _ _ x => x.q F.kb)
theorem rz1_assign {x : Str} {p pos : Pos} {value : Expr} (h : Rz c σ ρ B l (eval value c.env))
    (hs : swapsWith value (some (.Name x p)) pos.line c.env = pure false := by rfl) : Rz1 c σ ρ B l (.Assign [.Name x p] value pos) := fun s F =>
  wpAny_Assign_Name (wpAny_mono (h s F) (fun _ _ x => x.elim) fun _ _ x => x.q F.kb) hs
theorem rz1_if_t {test : Expr} {body orelse : List Stmt} {pos : Pos} (ht : Tb c σ ρ (isTrue test c.env (eval test c.env)) true) (hb : Rzs c σ ρ B l body) : Rz1 c σ ρ B l (.If test body orelse pos) := fun s F =>
  wpAny_If (wpAny_mono (ht s F) (fun t s1 q => by
    obtain ⟨rfl, k1⟩ := q
    exact wpAny_mono (hb s1 (F.keeps k1.kp)) (fun fl s2 d => d.elim) fun _ _ x => x.before k1.sa) fun _ _ x => x.elim)
theorem rzs_here {st : Stmt} {rest : List Stmt} (h : Rz1 c σ ρ B l st) : Rzs c σ ρ B l (st :: rest) := fun s F =>
  wpAny_execs_cons (wpAny_mono (h s F) (fun _ _ x => x.elim) fun _ _ x => x)
theorem rzs_cons {st : Stmt} {rest : List Stmt} (h1 : Ex1 c σ ρ st (.next σ₁ ρ₁)) (h2 : Rzs c σ₁ ρ₁ B l rest) : Rzs c σ ρ B l (st :: rest) := fun s F =>
  wpAny_execs_cons (wpAny_mono (h1 s F) (fun fl s' d => by
    obtain ⟨rfl, a, e, F1, k⟩ := d
    exact wpAny_mono (h2 s' F1) (fun fl s'' d' => d'.elim) fun _ _ x => x.before a) fun _ _ x => x.elim)

/-- the frames, seen from a def's body -/
theorem bk_body {W : Wd} {A : Around} {M : Addr → Prop} {s : Shared} {name : Str} {scope : Scope} {a : Addr} {cd : Value} (hfr : A.frames = some l) (gB : Kp W.g B) (hB : B.StaysIn s.heap) (hf : s.heap.FunFrames B l) (hks : scope.kind = .function) :
    Bk B (envOfC name scope s.heap.objs.size a cd :: l) s.heap.objs.size ⟨W, A.deeper (envOfC name scope s.heap.objs.size a cd), s.heap, M, envOfC name scope s.heap.objs.size a cd⟩ where
  fr := Around.frames_deeper hfr
  hd := ⟨_, _, rfl, rfl⟩
  ef := rfl
  gB := gB
  lo := fun σ h ρ F => by
    obtain ⟨m, hn, _⟩ := F.vars
    refine ⟨Heap.FunFrames.cons (by show scope.kind ≠ .module; rw [hks]; decide) rfl hn hB.fresh (hf.of_keeps fun b o e _ => ⟨o, F.kb b o e, rfl⟩), fun b o e => F.kb b o (hB b o e)⟩

theorem fnr_of {W : Wd} (gd : Gd W) {name : Str} {params : Arguments} {body : List Stmt} {scope : Scope} {a : Addr} {cd : Value} (X : Fd W name params body scope a cd) {nms : List Str} {ds : List D} {k : Nat}
    (hbind : ∀ (pm doc : Value) vs, vs.length = nms.length → bindArgs (docDef name params body scope pm cd doc) ⟨vs, []⟩ = pure (nms.zip vs)) (hlen : nms.length = ds.length) (hnd : nms.Nodup)
    (hkind : ∀ n, ∀ x ∈ nms, scope.names.lookup x = some .local ∨ (scope.names.lookup x = some .cell ∧ ((cellsFrom n scope.names []).lookup x).isSome = true))
    (h : ∀ (A : Around) (base : Heap) (M0 : Addr → Prop) (L : Addr) (B : Heap) (l : List Env), Rm A k → Bk B l L ⟨W, A, base, M0, envOfC name scope L a cd⟩ → Rzs ⟨W, A, base, M0, envOfC name scope L a cd⟩ [] (nms.zip ds) B l body)
    (hco : scope.isCoroutine = false := by rfl) (hgen : scope.isGenerator = false := by rfl) (hks : scope.kind = .function := by rfl) : FnR W name (k + 1) ds := by
  obtain ⟨o, pm, doc, ho, hd⟩ := X.ob
  refine ⟨a, o, _, X.mg, ho, hd, fun A M s vs B l hr hfr gB hB hf hk hM os => ?_⟩
  have hvl : vs.length = nms.length := by rw [os.length, hlen]
  have bk := bk_body (M := M) (name := name) (a := a) (cd := cd) hfr gB hB hf hks
  refine wpAny_call (call_cells (by have := hr.dp; omega) (hk _ _ ho) hd (gd.nolimit.keeps hk) (X.code.keeps hk) (hbind pm doc vs hvl) (fun x hx => hkind _ x.1 (List.of_mem_zip hx).1) (fun h₁ tk F Y => ?_) hco hgen hks)
  have FF := entry_fr gd (A := A) hr.hh hk hM os hnd hks (hkind _) F Y
  refine wpAny_mono (h _ s.heap M s.heap.objs.size _ _ hr.deeper bk { s with heap := h₁, toks := tk } FF) (fun fl s' q => q.elim) fun x s' q => ?_
  obtain ⟨e, dx, rfl, a', n, u, X'⟩ := q
  obtain ⟨h', tk', rfl⟩ := a'
  exact leaveX (Around.frames_deeper hfr) rfl X' fun h'' x'' u'' => ⟨e, dx, rfl, ⟨_, _, rfl⟩, n, u.trans u'', x''.own⟩
end
end Mine
end

section
open PySem PySem.W PySem.Calls PyProof.Rows
set_option Elab.async false
set_option maxRecDepth 100000
set_option linter.unusedVariables false
namespace Mine

theorem ff_same {B h h' : Heap} {C : Addr} (k : ∀ b o, b ≠ C → h.get? b = some o → h'.get? b = some o) : ∀ {l : List Env}, (∀ env ∈ l, env.frame = some C → ∃ o, h'.get? C = some o ∧ ∀ vs, o.data ≠ .fields vs) → h.FunFrames B l → h'.FunFrames B l
  | [], _, _ => trivial
  | env :: r, hC, ⟨hk, ⟨L, o, hf, hn, ho, hd⟩, hr⟩ => by
    refine ⟨hk, ?_, ff_same k (fun e he => hC e (.tail _ he)) hr⟩
    by_cases e : L = C
    · subst e
      obtain ⟨o', ho', hd'⟩ := hC env (.head _) hf
      exact ⟨L, o', hf, hn, ho', hd'⟩
    · exact ⟨L, o, hf, hn, k L o e ho, hd⟩
theorem ff_not {B h : Heap} {C : Addr} (hC : h.get? C = none) : ∀ {l : List Env}, h.FunFrames B l → ∀ env ∈ l, env.frame ≠ some C
  | [], _, _, hm => nomatch hm
  | env :: r, ⟨hk, ⟨L, o, hf, hn, ho, hd⟩, hr⟩, env', hm => by
    rcases List.mem_cons.mp hm with rfl | hm
    · rw [hf]; intro q; cases q; rw [hC] at ho; cases ho
    · exact ff_not hC hr env' hm

/-- a dict that is none of the exception's changes -/
theorem Xt.same {B h h' : Heap} {l : List Env} {e dx C : Addr} (X : Xt B l e dx h) (k : ∀ b o, b ≠ C → h.get? b = some o → h'.get? b = some o) (hB : B.get? C = none) (hd : dx ≠ C) (hn : ∀ o vs, h.get? C = some o → o.data ≠ .fields vs)
    (hC : ∀ env ∈ l, env.frame = some C → ∃ o, h'.get? C = some o ∧ ∀ vs, o.data ≠ .fields vs) : Xt B l e dx h' := by
  obtain ⟨hkb, hen, hl, ⟨m, t, hns, hm⟩, oe, vs, T, oT, ts, he, hc, hdi, hdd, h1, hnT, hTe, hT, hdT, h3⟩ := X
  have neC : ∀ {a : Addr} {o : Obj} {ws : Array Value}, h.get? a = some o → o.data = .fields ws → a ≠ C := fun ha hw q => hn _ _ (q ▸ ha) hw
  refine ⟨fun b o q => k b o (fun e => by rw [e, hB] at q; cases q) (hkb b o q), hen, ff_same k hC hl, ⟨m, t, ?_, hm⟩, oe, vs, T, oT, ts, k _ _ (neC he hdd) he, hc, hdi, hdd, h1, hnT, hTe, k _ _ (neC hT hdT) hT, hdT, h3⟩
  obtain ⟨o, es, ep, ho, r⟩ := hns
  exact ⟨o, es, ep, k _ _ hd ho, r⟩

section
variable {c : Cx} {σ σ₁ σ₂ : Sg} {ρ ρ₁ ρ₂ : Rh} {B : Heap} {l : List Env} {L : Addr}

theorem Bk.note (b : Bk B l L c) {E : Value → Shared → Prop} {s : Shared} {e dx : Addr} {Q : Unit → Shared → Prop} (X : Xs B l e dx s.heap) (h : ∀ h', Xt B l e dx h' → s.heap.UpToSlots h' → Q () { s with heap := h' }) :
    wpAny (model P c.w) c.A (noteFrame (.ref e) c.env) Q E s := by
  obtain ⟨fe, outer, rfl, hfe⟩ := b.hd
  exact noteX b.fr b.ef hfe X h

/-- the turns of a comprehension, to the one that raises -/
theorem cm_codeR {elt iter : Expr} {x : Str} {px : Pos} {scope : Scope} {pos : Pos} {I D₀ : Addr} {fp : List Addr} {Pv : Nat → Value → Prop} {St' : Nat → Heap → Prop} {all outs : List D} {bad : D} (b : Bk B l L c)
    (W : Walks P c.w c.A I fp [I] all.length Pv St') (hlen : all[outs.length]? = some bad) (hle : outs.length ≤ Bd)
    (hns : ∀ i h, St' i h → ∀ ob xs n, h.get? I = some ob → ob.data ≠ .seq xs n)
    (hx : St c x) (hx0 : ρ.lookup x = none)
    (helt : ∀ (j : Nat) d o (ao : List D), all[j]? = some d → outs[j]? = some o → Tv c [(D₀, ao)] ((x, d) :: ρ) (eval elt c.env) o)
    (hbad : ∀ (ao : List D), Rz c [(D₀, ao)] ((x, bad) :: ρ) B l (eval elt c.env)) :
    ∀ (k i : Nat) (s : Shared), i + k = outs.length → FR c [(D₀, outs.take i)] s.heap ρ → St' i s.heap → (∀ b ∈ fp, ¬ Mt c [(D₀, [])] b) → c.base.get? I = none →
    (∀ j v, Pv j v → ∀ d, all[j]? = some d → Ok (Fz (MM c [(D₀, [])]) s.heap) v d) →
    codeAny (model P c.w) c.A (.compLoop (.ListComp elt [⟨.Name x px, iter, [], 0⟩] scope pos) 0 (.ref I) (.ref D₀) c.env)
      (fun r s' => ∃ e dx m, r = .error (.ref e) ∧ Sa s s' ∧ c.base.get? dx = none ∧ dx ≠ c.env.locals ∧ c.base.UpToSlots s'.heap ∧ Xt B l e dx s'.heap ∧ s'.heap.Ns c.env.locals m) s := by
  have hIfp : I ∈ fp := W.sub I (by simp)
  have mt0 : ∀ (ao : List D) b, Mt c [(D₀, ao)] b → Mt c [(D₀, [])] b := fun ao b m => m.of_map (by simp)
  have mm0 : ∀ (ao : List D) b, MM c [(D₀, ao)] b → MM c [(D₀, [])] b := fun ao b m => MM.of_map (by simp) m
  have mm1 : ∀ (ao : List D) b, MM c [(D₀, [])] b → MM c [(D₀, ao)] b := fun ao b m => MM.of_map (by simp) m
  have hall : outs.length < all.length := (List.getElem?_eq_some_iff.mp hlen).1
  intro k
  induction k with
  | zero =>
    intro i s hi F st hmt hbI hok
    have hi' : i = outs.length := by omega
    subst hi'
    refine codeAny_of_tree ?_
    show wpAny _ c.A ((compTurn (.ListComp elt [⟨.Name x px, iter, [], 0⟩] scope pos) 0 (.ref I) (.ref D₀) c.env).onRaise (fun x => do noteFrame x c.env; theTreesLotGoes x)) _ _ s
    refine wpAny_noted ?_
    rw [compTurn_list1]
    refine wpAny_bind (wpAny_standAt (wpAny_bind (W.item outs.length s _ _ hall st fun v h' tk hP st' hk => ?_)))
    have hk' : ∀ b ob, b ≠ I → s.heap.get? b = some ob → h'.get? b = some ob := fun b ob hb e => hk b ob (by simpa using hb) e
    obtain ⟨F1, tr1⟩ := F.butI hk' (fun m => hmt I hIfp (mt0 _ _ m)) hbI (hns _ _ st)
    refine wpAny_bind (wpAny_pure ?_)
    have ov : Ok (Fz (MM c [(D₀, outs.take outs.length)]) h') v bad := tr1 _ _ ((hok _ v hP _ hlen).less fun a m => mm0 _ _ m)
    refine wpAny_bind (wpAny_mono (as_name hx { s with heap := h', toks := tk } v (fun _ s' => Sa { s with heap := h', toks := tk } s' ∧ FR c [(D₀, outs.take outs.length)] s'.heap ((x, bad) :: ρ)) F1 ov fun s' a b k => ⟨a, b⟩) (fun _ s2 q => ?_) fun _ _ x => x.elim)
    obtain ⟨a2, F2⟩ := q
    refine wpAny_bind (wpAny_bind (wpAny_mono (hbad _ s2 F2) (fun va s3 q => q.elim) fun y s3 q => ?_))
    obtain ⟨e, dx, rfl, a3, hdx, u3, X⟩ := q
    obtain ⟨m, hn, _⟩ := F2.vars
    refine b.note X fun h4 X4 u4 => ?_
    refine ⟨e, dx, m, rfl, ((Sa.trans ⟨h', tk, rfl⟩ a2).trans a3).trans ⟨h4, s3.toks, rfl⟩, kp_none F2.kb hdx, fun q => ?_, ((Heap.UpToSlots.of_keeps F2.kb).trans u3).trans u4, X4, (u3.trans u4).ns hn⟩
    obtain ⟨o, es, ep, ho, _⟩ := hn
    rw [q, ho] at hdx; cases hdx
  | succ k ih =>
    intro i s hi F st hmt hbI hok
    have hlt' : i < outs.length := by omega
    have hlt : i < all.length := by omega
    refine codeAny_of_tree ?_
    show wpAny _ c.A ((compTurn (.ListComp elt [⟨.Name x px, iter, [], 0⟩] scope pos) 0 (.ref I) (.ref D₀) c.env).onRaise (fun x => do noteFrame x c.env; theTreesLotGoes x)) _ _ s
    refine wpAny_noted ?_
    rw [compTurn_list1]
    refine wpAny_bind (wpAny_standAt (wpAny_bind (W.item i s _ _ hlt st fun v h' tk hP st' hk => ?_)))
    have hk' : ∀ b ob, b ≠ I → s.heap.get? b = some ob → h'.get? b = some ob := fun b ob hb e => hk b ob (by simpa using hb) e
    obtain ⟨F1, tr1⟩ := F.butI hk' (fun m => hmt I hIfp (mt0 _ _ m)) hbI (hns i _ st)
    have hget : all[i]? = some all[i] := List.getElem?_eq_getElem hlt
    have hgo : outs[i]? = some outs[i] := List.getElem?_eq_getElem hlt'
    refine wpAny_bind (wpAny_pure ?_)
    have ov : Ok (Fz (MM c [(D₀, outs.take i)]) h') v all[i] := tr1 _ _ ((hok i v hP _ hget).less fun a m => mm0 _ _ m)
    refine wpAny_bind (wpAny_mono (as_name hx { s with heap := h', toks := tk } v (fun _ s' => Sa { s with heap := h', toks := tk } s' ∧ FR c [(D₀, outs.take i)] s'.heap ((x, all[i]) :: ρ) ∧ Kb c [(D₀, outs.take i)] h' s'.heap) F1 ov fun s' a b k => ⟨a, b, k⟩) (fun _ s2 q => ?_) fun _ _ x => x.elim)
    obtain ⟨a2, F2, kb2⟩ := q
    refine wpAny_bind (wpAny_bind (wpAny_mono (helt i _ _ _ hget hgo s2 F2) (fun va s3 q => wpAny_bind ?_) fun _ _ x => x.elim))
    obtain ⟨k3, o3⟩ := q
    have F3 := F2.keeps k3.kp
    obtain ⟨hb, vs, n, hp, hvl, r⟩ := F3.ow _ (List.mem_singleton.mpr rfl)
    have hvl2 : vs.length < 4096 := by rw [r.length, List.length_take]; have : outs.length ≤ 4096 := hle; omega
    refine append_at (its := vs.toArray) (n := n) (x := va) hp (fun h4 hs4 hnew => ?_) (by rw [List.size_toArray]; exact Nat.le_trans (Nat.le_of_lt hvl2) (by decide))
    obtain ⟨F4, kb4⟩ := F3.app (i := 0) rfl hb hp r hvl2 o3 hs4 hnew
    have e4 : [(D₀, outs.take i)].set 0 (D₀, outs.take i ++ [outs[i]]) = [(D₀, outs.take (i + 1))] := by rw [List.take_add_one, hgo]; rfl
    rw [e4] at F4
    have F5 : FR c [(D₀, outs.take (i + 1))] h4 ρ := F4.sub fun y d e => by
      rw [lookup_put, if_neg (fun q => by rw [q, hx0] at e; cases e)]; exact e
    have kb : ∀ b ob, ¬ Mt c [(D₀, [])] b → h'.get? b = some ob → h4.get? b = some ob := fun b ob hm e =>
      kb4 b ob (fun m => hm (mt0 _ _ m)) (k3.kp b ob (kb2 b ob (fun m => hm (mt0 _ _ m)) e))
    refine wpAny_pure (wpAny_pure ⟨rfl, codeAny_mono (ih (i + 1) { s3 with heap := h4 } (by omega) F5 ?_ hmt hbI fun j v' hP' d' hg' => ?_) fun r s5 q => ?_⟩)
    · exact W.frame _ _ _ st' fun b hbf ob e => kb b ob (hmt b hbf) e
    · have q := tr1 _ _ ((hok j v' hP' d' hg').less fun a m => mm0 (outs.take i) _ m)
      refine q.mono' (fun a ws m z => ⟨kb a _ (fun m' => F1.frozen z rfl (m'.of_map (by simp))) z.1, fun m => z.2 (mm1 _ _ m)⟩) (fun a ws m z => ⟨kb a _ (fun m' => F1.frozen z rfl (m'.of_map (by simp))) z.1, fun m => z.2 (mm1 _ _ m)⟩)
    · obtain ⟨e, dx, m, rfl, a5, r5⟩ := q
      exact ⟨e, dx, m, rfl, (((Sa.trans ⟨h', tk, rfl⟩ a2).trans k3.sa).trans ⟨h4, s3.toks, rfl⟩).trans a5, r5⟩

theorem bk_comp {sc : Scope} {C : Addr} {h : Heap} (b : Bk B l L c) (F : FR c σ h ρ) : Bk B l L (inC c σ sc h C) where
  fr := b.fr
  hd := b.hd
  ef := b.ef
  gB := b.gB
  lo := fun σ' h' ρ' F' => by
    obtain ⟨x1, x2⟩ := b.lo _ _ _ F
    exact ⟨x1.of_keeps fun a o e _ => ⟨o, F'.kb a o e, rfl⟩, fun a o e => F'.kb a o (x2 a o e)⟩

theorem comp_blockR {elt iter : Expr} {x : Str} {px : Pos} {sc : Scope} {pos : Pos} {ds outs : List D} {bad : D} {Rin : Rh} {E : Value → Shared → Prop} {RR : Value → Addr → Result → Shared → Prop} {s s₂ : Shared} {I : Addr} {fp : List Addr} {Pv : Nat → Value → Prop} {St' : Nat → Heap → Prop}
    (bk : Bk B l L c) (K : CompOk sc x) (F : FR c σ s.heap ρ) (hfree : ∀ p ∈ sc.names, p.2 = .free → (c.env.cells.lookup p.1).isSome = true)
    (hR : ∀ y d, Rin.lookup y = some d → ρ.lookup y = some d ∧ (y, .free) ∈ sc.names ∧ c.env.kindOf y ≠ some .local) (hlen : ds[outs.length]? = some bad) (hle : outs.length ≤ Bd)
    (helt : ∀ (base : Heap) (C D₀ : Addr) (j : Nat) d o (ao : List D), ds[j]? = some d → outs[j]? = some o → Tv (inC c σ sc base C) [(D₀, ao)] ((x, d) :: Rin) (eval elt (compEnvC sc (clo c.env.cells sc.names []) C c.env)) o)
    (hbad : ∀ (base : Heap) (C D₀ : Addr) (ao : List D), Bk B l L (inC c σ sc base C) → Rz (inC c σ sc base C) [(D₀, ao)] ((x, bad) :: Rin) B l (eval elt (compEnvC sc (clo c.env.cells sc.names []) C c.env)))
    (k : Stp s s₂) (W : Walks P c.w c.A I fp [I] ds.length Pv St') (st : St' 0 s₂.heap) (hI : s.heap.get? I = none) (hlive : ∀ b ∈ fp, ∃ ob, s₂.heap.get? b = some ob) (hmt : ∀ b ∈ fp, ¬ Mt c σ b)
    (hok : ∀ i v, Pv i v → ∀ d, ds[i]? = some d → Ok (Fz (MM c σ) s₂.heap) v d)
    (hns : ∀ i h, St' i h → ∀ ob xs n, h.get? I = some ob → ob.data ≠ .seq xs n)
    (hRR : ∀ D₀ C s' e dx m', Sa s s' → s.heap.get? C = none → s.heap.get? dx = none → dx ≠ C → s.heap.UpToSlots s'.heap → s'.heap.Ns C m' → Xt B l e dx s'.heap → RR (.ref D₀) C (.error (.ref e)) s') :
    wpAny (model P c.w) c.A (newList []) (fun acc s₃ => wpAny (model P c.w) c.A (newFunctionEnv sc c.env.globals (clo c.env.cells sc.names []) [] c.env.qual none .none (some c.env)) (fun cenv s₄ =>
      codeAny (model P c.w) c.A (.compStart (.ListComp elt [⟨.Name x px, iter, [], 0⟩] sc pos) 0 (.ref I) acc { cenv with scope := relabel sc c.env }) (RR acc cenv.locals) s₄) E s₃) E s₂ := by
  refine wpAny_newObj_type (wpAny_newFunctionEnv K.nocell (by intro y hy; simp at hy) (fun h₁ hns₁ hsb₁ => ?_) K.kind)
  dsimp only at hns₁ hsb₁ ⊢
  generalize hH2 : s₂.heap.push { cls := .type "list", dict := none, data := .seq ([] : List Value).toArray } = H2 at hns₁ hsb₁ ⊢
  have hC : H2.objs.size = s₂.heap.objs.size + 1 := by rw [← hH2, Heap.size_push]
  have hDC : s₂.heap.objs.size ≠ H2.objs.size := by rw [hC]; exact Nat.ne_of_lt (Nat.lt_succ_self _)
  have below : ∀ b, b < s₂.heap.objs.size → b ≠ H2.objs.size ∧ b ≠ s₂.heap.objs.size := fun b hb => ⟨by rw [hC]; exact Nat.ne_of_lt (Nat.lt_succ_of_lt hb), Nat.ne_of_lt hb⟩
  have old : ∀ b o, s₂.heap.get? b = some o → h₁.get? b = some o := fun b o e => hsb₁.extBut b o (below b (Heap.lt_size e)).1 (Heap.get?_push_of_some _ (hH2 ▸ Heap.get?_push_of_some _ e))
  have hacc : h₁.get? s₂.heap.objs.size = some (lobj [] 0) := hsb₁.extBut _ _ hDC (Heap.get?_push_of_some _ (hH2 ▸ Heap.get?_push_size _ rfl))
  have fresh : ∀ a, s₂.heap.objs.size ≤ a → s.heap.get? a = none := fun a ha => by
    cases e : s.heap.get? a with
    | none => rfl
    | some o' => exact absurd (Heap.lt_size (k.kp _ _ e)) (Nat.not_lt.mpr ha)
  have hst₁ : St' 0 h₁ := W.frame _ _ _ st fun b _ o e => old b o e
  have hCf : s.heap.get? H2.objs.size = none := fresh _ (by rw [hC]; exact Nat.le_succ _)
  have F1 : FR (inC c σ sc s.heap H2.objs.size) [(s₂.heap.objs.size, [])] h₁ Rin := inner_fr K F (fun b o e => old b o (k.kp b o e)) hCf (fresh _ (Nat.le_refl _)) hns₁ hacc hfree hR
  have hcin : ∀ y kk, (clo c.env.cells sc.names []).lookup y = some kk → c.env.cells.lookup y = some kk := fun y kk e =>
    clo_in (acc := []) (fun p hp q => hfree p hp q) (fun p hp => nomatch hp) (y, kk) (mem_of_lookup e)
  have hmt' : ∀ b ∈ fp, ¬ Mt (inC c σ sc s.heap H2.objs.size) [(s₂.heap.objs.size, [])] b := fun b hb m => by
    obtain ⟨ob, e⟩ := hlive b hb
    have hlt := Heap.lt_size e
    rcases m with m | ⟨y, m⟩ | ⟨p, hp, m⟩
    · exact (below b hlt).1 m
    · exact hmt b hb (.inr (.inl ⟨y, hcin y b m⟩))
    · rw [List.mem_singleton.mp hp] at m
      exact (below b hlt).2 m.symm
  have hx0 : Rin.lookup x = none := by
    cases e : Rin.lookup x with
    | none => rfl
    | some d =>
      have := mem_lookup_nodup K.nd (hR x d e).2.1
      rw [K.x] at this; cases this
  have loop : ∀ s₃ : Shared, s₃ = { s₂ with heap := h₁, toks := s₂.toks + ([] : List (Str × Value)).length } →
      codeAny (model P c.w) c.A (.compLoop (.ListComp elt [⟨.Name x px, iter, [], 0⟩] sc pos) 0 (.ref I) (.ref s₂.heap.objs.size) (compEnvC sc (clo c.env.cells sc.names []) H2.objs.size c.env))
        (RR (.ref s₂.heap.objs.size) H2.objs.size) s₃ := by
    rintro s₃ rfl
    refine codeAny_mono (cm_codeR (c := inC c σ sc s.heap H2.objs.size) (ρ := Rin) (outs := outs) (bk_comp bk F) W hlen hle hns (.inl (lookup_relabel_local K.x)) hx0 (fun j d o ao h1 h2 => helt s.heap H2.objs.size s₂.heap.objs.size j d o ao h1 h2) (fun ao => hbad _ _ _ ao (bk_comp bk F)) outs.length 0 _ (by omega) F1 hst₁ hmt' hI (fun j v hP d hd => ?_)) fun r s' q => ?_
    · refine (hok j v hP d hd).mono fun a ob q => ⟨old a ob q.1, fun mm => ?_⟩
      rcases mm with mm | ⟨p, hp, rfl⟩
      · exact q.2 mm
      · rw [List.mem_singleton.mp hp] at q
        exact absurd (Heap.lt_size q.1) (Nat.lt_irrefl _)
    · obtain ⟨e, dx, m', rfl, a, hdx, hne, u, X, hn'⟩ := q
      have sa' : Sa s s' := by
        obtain ⟨h2, t2, rfl, _⟩ := k
        obtain ⟨h3, t3, rfl⟩ := a
        exact ⟨h3, t3, rfl⟩
      exact hRR _ _ s' e dx m' sa' hCf hdx hne u hn' X
  exact codeAny_compStart_list (loop _ rfl) (W.self 0 _ _ _ hst₁ (loop _ rfl))

/-- y = [.. for ..] raises -/
theorem rz1_comp {elt iter : Expr} {x y : Str} {px py : Pos} {sc : Scope} {pos spos : Pos} {ds outs : List D} {bad : D} {Rin : Rh} (bk : Bk B l L c) (K : CompOk sc x) (hfree : ∀ p ∈ sc.names, p.2 = .free → (c.env.cells.lookup p.1).isSome = true)
    (hR : ∀ y d, Rin.lookup y = some d → ρ.lookup y = some d ∧ (y, .free) ∈ sc.names ∧ c.env.kindOf y ≠ some .local) (hlen : ds[outs.length]? = some bad) (hle : outs.length ≤ Bd)
    (hsrc : Src c σ ρ (.Name x px) (eval iter c.env) ds)
    (helt : ∀ (base : Heap) (C D₀ : Addr) (j : Nat) d o (ao : List D), ds[j]? = some d → outs[j]? = some o → Tv (inC c σ sc base C) [(D₀, ao)] ((x, d) :: Rin) (eval elt (compEnvC sc (clo c.env.cells sc.names []) C c.env)) o)
    (hbad : ∀ (base : Heap) (C D₀ : Addr) (ao : List D), Bk B l L (inC c σ sc base C) → Rz (inC c σ sc base C) [(D₀, ao)] ((x, bad) :: Rin) B l (eval elt (compEnvC sc (clo c.env.cells sc.names []) C c.env)))
    (hsw : swapsWith (.ListComp elt [⟨.Name x px, iter, [], 0⟩] sc pos) (some (.Name y py)) spos.line c.env = pure true)
    (hs : ∀ x, foldedSetIterable iter c.env x = pure x := by intro _; rfl) : Rz1 c σ ρ B l (.Assign [.Name y py] (.ListComp elt [⟨.Name x px, iter, [], 0⟩] sc pos) spos) := fun s F => by
  rw [exec_Assign_Name_used _ _ _ _ hsw]
  refine wpAny_bind (wpAny_standAt (wpAny_bind ?_))
  show wpAny _ c.A (do let _ ← comprehension (.ListComp elt [⟨.Name x px, iter, [], 0⟩] sc pos) sc c.env _ (newList []) false (eval iter c.env) (some (assign (.Name y py) c.env))) _ _ s
  refine wpAny_bind (wpAny_mono (wpAny_comprehension_free (use := some (assign (.Name y py) c.env)) (Q := fun _ _ => False) rfl hs (closure_eq hfree) K.kind K.loc
    (wpAny_mono (hsrc.2 s F) (fun xv s₁ h₁ => wpAny_mono h₁ (fun it s₂ h₂ => ?_) fun _ _ e => e.elim) fun _ _ e => e.elim)) (fun _ s' hq => hq.elim) fun _ _ e => e)
  obtain ⟨k, I, fp, Pv, St', rfl, W, st, hI, hlive, hmt, hok, hns, hgo⟩ := h₂
  refine comp_blockR (RR := fun acc C => compPost (model P c.w) c.A (Rq c.base B l s) (some (assign (.Name y py) c.env)) (fun _ _ => False) acc C) bk K F hfree hR hlen hle helt hbad k W st hI hlive hmt hok hns fun D₀ C s' e dx m' a hC hdx hne u hn X => ?_
  refine ⟨m', hn, fun h' hs' cenv hcl => ?_⟩
  obtain ⟨x1, x2⟩ := bk.lo _ _ _ F
  have X' : Xt B l e dx h' := X.same hs'.extBut (kp_none x2 hC) hne (fun o vs ho q => by obtain ⟨o', es, ep, ho', hd', _⟩ := hn; rw [ho'] at ho; cases ho; rw [hd'] at q; cases q) fun env he q => absurd q (ff_not hC x1 env he)
  refine passX (s := { s' with heap := h' }) X' fun h'' X'' u'' => ?_
  obtain ⟨h3, t3, rfl⟩ := a
  refine ⟨e, dx, rfl, ⟨h'', t3, rfl⟩, kp_none F.kb hdx, fun b o hb hnf => ?_, X''.own⟩
  obtain ⟨sl, e1⟩ := u b o (F.kb b o hb) hnf
  obtain ⟨sl', e2⟩ := u'' b _ (hs'.extBut b _ (fun q => by have := F.kb b o hb; rw [q, hC] at this; cases this) e1) hnf
  exact ⟨sl', e2⟩
end
end Mine
end

section
open PySem PySem.W PySem.Calls PyProof.Rows
set_option Elab.async false
set_option maxRecDepth 100000
set_option linter.unusedVariables false
namespace Mine
open Builtin Builtin.ObjectAttr

theorem ga_slot : Slot "Exception" "__getattribute__" "BaseException.__getattribute__" :=
  .of (owner := "BaseException") (n := "__getattribute__") (by rw [typeLookup_type, builtinLookup_eq_fast]; kernel_rfl) (by decide +kernel) (by decide +kernel) (by decide +kernel)
    (by first | exact .inl (by decide +kernel) | exact .inr (by decide +kernel)) (by rw [isSubtype_type]; kernel_rfl)
theorem lkE_getattr : typeLookup (.type "Exception") "__getattr__" = pure none := by rw [typeLookup_type, builtinLookup_eq_fast]; kernel_rfl
theorem lkE_kind : typeLookup (.type "Exception") "kind" = pure none := by rw [typeLookup_type, builtinLookup_eq_fast]; kernel_rfl
theorem lkE_text : typeLookup (.type "Exception") "text" = pure none := by rw [typeLookup_type, builtinLookup_eq_fast]; kernel_rfl
theorem mroE : mroOf (.type "Exception") = pure bmE := by rw [mroOf_type]; kernel_rfl

section
variable {prog : Program} {w : World} {A : Around} {E : Value → Shared → Prop} {h : Heap} {g : Array GenState} {d : Drawn} {t : Nat} {os : OsState}
variable {nm q : Str} {x dx : Addr} {o : Obj} {vs : Array Value} {bs : List Value} {sn : List Str} {sub : List Value} {ab : Bool} {col : Option Bool} {dd : Option Addr} {k0 k1 k2 k3 k5 : Option Value} {newId : String}
  {mN mA : Str → Option Value} {v : Value}

theorem kind_entry {tk : Tok} {Q : Fin → Shared → Prop}
    (hC : h.get? CA = some (excClassObj nm q CA CN bs bmE true sn sub ab col dd k0 k1 k2 k3 k5 newId)) (hn : h.Ns CN mN) (hna : mN "kind" = none)
    (hx : h.get? x = some o) (hc : o.cls = .ref CA) (hd : o.data = .fields vs) (hdx : o.dict = some dx) (hns : h.Ns dx mA) (hv : mA "kind" = some v) (hq : Q (.done (.ret v)) ⟨h, g, d, t, os⟩) :
    wpAny (model prog w) A (Builtin.«object.__getattribute__» ⟨[.ref x, .str "kind" tk], []⟩) Q E ⟨h, g, d, t, os⟩ := by
  unfold Builtin.«object.__getattribute__»
  repeat (any_goals (first | assumption | (with_reducible refine wpAny_loadPart_at hx ?_; rw [hc]) | (with_reducible refine wpAny_typeLookup_exc hC hn mroE lkE_kind ?_; rw [hna]) | wp_step))
  rw [hd]
  show wpAny _ _ (instanceDict x false) _ _ _
  unfold instanceDict
  repeat (first | (with_reducible refine wpAny_loadPart_at hx ?_; rw [hc]) | with_reducible refine wpAny_loadPart_at hC ?_ | wp_step)
  rw [hdx]
  repeat (first | (with_reducible refine wpAny_nsGet hns ?_; rw [hv]) | wp_step)
  exact hq

theorem check_ga {M : Model} {nameV : Value} {Q : Unit → Shared → Prop} (hC : h.get? CA = some (excClassObj nm q CA CN bs bmE true sn sub ab col dd k0 k1 k2 k3 k5 newId))
    (hx : h.get? x = some o) (hc : o.cls = .ref CA) (hq : Q () ⟨h, g, d, t, os⟩) : wpAny M A (checkBuiltinCall "BaseException.__getattribute__" ⟨[.ref x, nameV], []⟩) Q E ⟨h, g, d, t, os⟩ := by
  have hk : builtinKind "BaseException.__getattribute__" = some .slot := by decide +kernel
  have hsplit : splitId "BaseException.__getattribute__" = some ("BaseException", "__getattribute__") := by decide +kernel
  have hcB : (Value.ref CA :: bmE).contains (.type "BaseException") = true := by decide
  have ha := F.args_bexc_ga (.ref x) nameV
  simp only [checkBuiltinCall, hk, hsplit]
  refine wpAny_bind ?_
  · unfold isInstance
    repeat (first | (with_reducible refine wpAny_loadPart_at hx ?_; rw [hc]) | (with_reducible refine wpAny_isSubtype_exc hC ?_; rw [hcB]) | wp_step)
    exact hq

theorem kind_attr {expr : Bool} {Q : Value → Shared → Prop}
    (hC : h.get? CA = some (excClassObj nm q CA CN bs bmE true sn sub ab col dd k0 k1 k2 k3 k5 newId)) (hn : h.Ns CN mN) (hna : mN "kind" = none) (hng : mN "__getattribute__" = none) (hnh : mN "__getattr__" = none)
    (hx : h.get? x = some o) (hc : o.cls = .ref CA) (hd : o.data = .fields vs) (hdx : o.dict = some dx) (hns : h.Ns dx mA) (hv : mA "kind" = some v) (hh : handedOut v = pure v) (hq : Q v ⟨h, g, d, t + 1, os⟩) :
    wpAny (model prog w) A (getAttr (.ref x) "kind" expr) Q E ⟨h, g, d, t, os⟩ := by
  have f3 := ga_slot.bind (.ref x)
  have hx0 : (expr && onTheHeap (Value.builtin "BaseException.__getattribute__")) = false := by cases expr <;> rfl
  have hx2 : (Value.builtin "BaseException.__getattribute__" == Value.builtin "object.__getattribute__") = false := by decide +kernel
  have hx1 : (onTheHeap (Value.ref CA) && Value.builtin "BaseException.__getattribute__" == Value.builtin "object.__getattribute__") = false := by rw [hx2]; rfl
  unfold getAttr getAttrBy
  repeat (any_goals (first | assumption | (with_reducible refine wpAny_loadPart_at hx ?_; rw [hc]) | (with_reducible refine wpAny_typeLookup_exc hC hn mroE ga_slot.lookup ?_; rw [hng]) | (with_reducible refine wpAny_typeLookup_exc hC hn mroE lkE_getattr ?_; rw [hnh]) | wp_step))
  refine codeAny_call_builtin ga_slot.plain F.entry_bexc_ga (check_ga hC hx hc (kind_entry hC hn hna hx hc hd hdx hns hv ?_))
  show wpAny _ _ (handedOut v) _ _ _
  rw [hh]
  exact wpAny_pure hq
end
end Mine
end

section
open PySem PySem.W PySem.Calls PyProof.Rows
set_option Elab.async false
set_option maxRecDepth 100000
set_option linter.unusedVariables false
namespace Mine
open Builtin Builtin.ObjectAttr

section
variable {prog : Program} {w : World} {A : Around} {E : Value → Shared → Prop} {h : Heap} {g : Array GenState} {d : Drawn} {t : Nat} {os : OsState}
variable {nm q : Str} {x : Addr} {o : Obj} {vs : Array Value} {bs : List Value} {sn : List Str} {sub : List Value} {ab : Bool} {col : Option Bool} {dd : Option Addr} {k0 k1 k2 k3 k5 : Option Value} {newId : String}
  {mN : Str → Option Value} {name : Str} {v : Value}

theorem first_entry {tk : Tok} {Q : Fin → Shared → Prop}
    (hC : h.get? CA = some (excClassObj nm q CA CN bs bmE true sn sub ab col dd k0 k1 k2 k3 k5 newId)) (hn : h.Ns CN mN) (hna : mN name = none)
    (hB : typeLookup (.type "Exception") name = pure none) (hx : h.get? x = some o) (hc : o.cls = .ref CA) (hd : o.data = .fields vs) (hdn : o.dict = none)
    (hq : ∀ h' tk', h'.get? x = some { o with dict := some h.objs.size } → h'.Ns1 h.objs.size (fun y => if y = name then some v else none) → (∀ b ob, b ≠ x → h.get? b = some ob → h'.get? b = some ob) → Q (.done (.ret .none)) ⟨h', g, d, tk', os⟩) :
    wpAny (model prog w) A (Builtin.«object.__setattr__» ⟨[.ref x, .str name tk, v], []⟩) Q E ⟨h, g, d, t, os⟩ := by
  have hpass := F.store_Exception.passes (.ref x)
  unfold Builtin.«object.__setattr__»
  repeat (first | rw [refuse_eq] | (rw [refuseLoop_ref, hpass]) | (with_reducible refine wpAny_loadPart_at hx ?_; rw [hc]) | with_reducible refine wpAny_mroOf_exc hC ?_ | (with_reducible refine wpAny_typeLookup_exc hC hn F.store_Exception.mro hB ?_; rw [hna]) | wp_step)
  rw [hdn, if_neg (by simp [typeHasDict])]
  split
  · rename_i hcd
    cases hcd
  split
  · rename_i c hcd
    rw [hd] at hcd; cases hcd
  · have hx₁ : (h.push { cls := .type "dict", data := .dict #[] }).get? x = some o := Heap.get?_push_of_some _ hx
    have hxs : x ≠ h.objs.size := Nat.ne_of_lt (Heap.lt_size hx)
    refine wpAny_bind (wpAny_alloc' (wpAny_bind (wpAny_update' hx₁ (wpAny_pure ?_))))
    have hgd : ((h.push { cls := .type "dict", data := .dict #[] }).update x fun o => { cls := o.cls, dict := some h.objs.size, data := o.data, slots := o.slots }).get? h.objs.size
        = some { cls := .type "dict", data := .dict #[] } :=
      (Heap.get?_update_ne _ _ _ _ hxs.symm).trans (Heap.get?_push_at rfl rfl)
    have hnd : ((h.push { cls := .type "dict", data := .dict #[] }).update x fun o => { cls := o.cls, dict := some h.objs.size, data := o.data, slots := o.slots }).Ns h.objs.size (fun _ => none) :=
      ⟨_, #[], _, hgd, rfl, fun e he => absurd he (by simp), fun _ => rfl⟩
    show wpAny _ _ (storeInDict h.objs.size (.str name tk) name v) _ _ _
    unfold storeInDict newKeyGuard
    refine wpAny_bind (wpAny_pure (wpAny_bind (wpAny_nsSet1 (Heap.Ns1.of_empty hnd) fun h' hn' hs => ?_)))
    obtain ⟨oD, esD, epD, hoD, hdD, hcD⟩ := hn'.count (Within.cons name v Within.nil)
    refine wpAny_bind (wpAny_lookBehind hoD (by rw [hdD]; exact pastItsLine_dict (Nat.le_trans hcD (by rw [List.length_cons, List.length_nil, sizeLine_eq]; omega))) ?_)
    wp_walk
    refine hq h' _ ?_ hn' fun b ob hbx hb => ?_
    · refine (hs.2 x hxs).trans (Heap.get?_update_self _ hx₁ ?_)
      have hfr := (Heap.get?_some_iff.mp hx).2
      obtain ⟨oc, od, odt, osl⟩ := o
      cases odt <;> first | rfl | exact hfr
    · exact (hs.2 b (Nat.ne_of_lt (Heap.lt_size hb))).trans ((Heap.get?_update_ne _ _ _ _ hbx).trans (Heap.get?_push_of_some _ hb))

theorem first_call {tk : Tok} {sa owner : String} {R : Result → Shared → Prop} (SF : StoreFacts "Exception" bmE sa owner)
    (hC : h.get? CA = some (excClassObj nm q CA CN bs bmE true sn sub ab col dd k0 k1 k2 k3 k5 newId)) (hn : h.Ns CN mN) (hna : mN name = none)
    (hB : typeLookup (.type "Exception") name = pure none) (hx : h.get? x = some o) (hc : o.cls = .ref CA) (hd : o.data = .fields vs) (hdn : o.dict = none)
    (hq : ∀ h' tk', h'.get? x = some { o with dict := some h.objs.size } → h'.Ns1 h.objs.size (fun y => if y = name then some v else none) → (∀ b ob, b ≠ x → h.get? b = some ob → h'.get? b = some ob) → R (.ok (.ret .none)) ⟨h', g, d, tk', os⟩) :
    codeAny (model prog w) A (.call (.builtin sa) ⟨[.ref x, .str name tk, v], []⟩) R ⟨h, g, d, t, os⟩ :=
  codeAny_call_builtin SF.slot.plain SF.entry (wpAny_check_sa SF hC hx hc (first_entry hC hn hna hB hx hc hd hdn hq))

theorem first_attr {sa owner : String} {Q : Unit → Shared → Prop} (SF : StoreFacts "Exception" bmE sa owner)
    (hC : h.get? CA = some (excClassObj nm q CA CN bs bmE true sn sub ab col dd k0 k1 k2 k3 k5 newId)) (hn : h.Ns CN mN) (hns : mN "__setattr__" = none) (hna : mN name = none)
    (hB : typeLookup (.type "Exception") name = pure none) (hx : h.get? x = some o) (hc : o.cls = .ref CA) (hd : o.data = .fields vs) (hdn : o.dict = none)
    (hq : ∀ h' tk', h'.get? x = some { o with dict := some h.objs.size } → h'.Ns1 h.objs.size (fun y => if y = name then some v else none) → (∀ b ob, b ≠ x → h.get? b = some ob → h'.get? b = some ob) → Q () ⟨h', g, d, tk', os⟩) :
    wpAny (model prog w) A (setAttr (.ref x) name v) Q E ⟨h, g, d, t, os⟩ := by
  have f3 := SF.slot.bind (.ref x)
  unfold setAttr callSpecial? specialOf
  repeat (any_goals (first | assumption | (with_reducible refine wpAny_loadPart_at hx ?_; rw [hc]) | (with_reducible refine wpAny_typeLookup_exc hC hn SF.mro SF.slot.lookup ?_; rw [hns]) | wp_step))
  refine first_call SF hC hn hna hB hx hc hd hdn fun h' tk' e1 e2 e3 => ?_
  repeat (any_goals (first | assumption | wp_step))
  exact hq h' tk' e1 e2 e3

theorem check_init_own {M : Model} {rest : List Value} {Q : Unit → Shared → Prop} (hC : h.get? CA = some (excClassObj nm q CA CN bs bmE true sn sub ab col dd k0 k1 k2 k3 k5 newId))
    (hx : h.get? x = some o) (hc : o.cls = .ref CA) (hq : Q () ⟨h, g, d, t, os⟩) : wpAny M A (checkBuiltinCall "Exception.__init__" ⟨.ref x :: rest, []⟩) Q E ⟨h, g, d, t, os⟩ := by
  have F := F.excCall_Exception
  have hshort := F.noStar
  have hcB : (Value.ref CA :: bmE).contains (.type "Exception") = true := by decide
  simp only [checkBuiltinCall, F.initKind, F.initSplit, F.initRow]
  unfold isInstance
  repeat (first | (with_reducible refine wpAny_loadPart_at hx ?_; rw [hc]) | (with_reducible refine wpAny_isSubtype_exc hC ?_; rw [hcB]) | wp_step)
  refine wpAny_onRaise ?_
  rw [show ∀ (a b : String) (n : Nat), Bind.check ⟨.positional, "*", "Exception", .self, [⟨"args", .varPos, false⟩]⟩ a b n (List.map (fun x => x.fst) ({ pos := Value.ref x :: rest } : Args).kw) = pure () from
    fun a b n => check_star_args _ _ _ _ _ _]
  exact wpAny_pure hq

theorem init_own {rest : List Value} {t0 : Addr} {Q : Value → Shared → Prop} (hC : h.get? CA = some (excClassObj nm q CA CN bs bmE true sn sub ab col dd k0 k1 k2 k3 k5 newId))
    (hx : h.get? x = some o) (hc : o.cls = .ref CA) (hd : o.data = .fields vs) (h0 : vs[0]? = some (.ref t0)) (hrest : rest.length ≤ sizeLine)
    (hq : Q .none ⟨(h.push { cls := .type "tuple", data := .seq rest.toArray }).update x (Obj.mapFields (·.setIfInBounds 0 (.ref h.objs.size))), g, d, t, os⟩) :
    wpAny (model prog w) A (call (.builtin "Exception.__init__") (.ref x :: rest)) Q E ⟨h, g, d, t, os⟩ := by
  refine wpAny_call (codeAny_call_builtin F.excCall_Exception.init.plain F.excCall_Exception.initEntry (check_init_own hC hx hc ?_))
  unfold Builtin.«BaseException.__init__»
  dsimp only
  rw [if_neg (by simp)]
  unfold newTuple Builtin.BaseException.bexcPut
  have hsz : 0 < vs.size := (Array.getElem?_eq_some_iff.mp h0).1
  have he₁ := Heap.get?_push_of_some (h := h) { cls := .type "tuple", data := .seq rest.toArray } hx
  refine wpAny_bind (wpAny_newObj_type (wpAny_bind (wpAny_bind (wpAny_field he₁ hd h0 (wpAny_bind (wpAny_setField he₁ hd hsz ?_))))) (by show rest.toArray.size ≤ sizeLine; rw [List.size_toArray]; exact hrest))
  exact wpAny_letGo (wpAny_pure hq)

theorem fcE : findCls [] (.type "Exception") (.type "type") "__init__" = some (.val (.builtin "Exception.__init__")) := by kernel_rfl
theorem method_exc {s : Shared} {L : Addr} {m : Str → Option Value} {pl : Sem Bool} {Q : Value × List Value → Shared → Prop} (hn : s.heap.Ns L m) (hq : Q (.builtin "Exception.__init__", []) { s with toks := s.toks + 1 }) :
    wpAny (model prog w) A (getMethod (.type "Exception") "__init__" pl) Q E s := by
  have F : Fr ⟨#[], s.heap.life⟩ L s.heap m := ⟨hn, fun b o e => (by simp [Heap.get?] at e), Nat.zero_le _⟩
  exact method_type (K := []) F (fun b o e => by cases e) (by first | rfl | kernel_rfl) (by decide +kernel) fcE (by decide +kernel) hq
end
end Mine
end

section
open PySem PySem.W PySem.Calls PyProof.Rows
set_option Elab.async false
set_option maxRecDepth 100000
set_option linter.unusedVariables false
namespace Mine

/-- the own exception class -/
structure Kx (W : Wd) : Prop where
  gl : W.mg "CasFail" = some (.ref CA)
  ne : W.mg "Exception" = none
  cls : ∃ nm q bs sn sub ab col dd k0 k1 k2 k3 k5, W.g.get? CA = some (excClassObj nm q CA CN bs bmE true sn sub ab col dd k0 k1 k2 k3 k5 "Exception.__new__")
  ns : ∃ mN, W.g.Ns CN mN ∧ mN "kind" = none ∧ mN "text" = none ∧ mN "__setattr__" = none ∧ mN "__getattribute__" = none ∧ mN "__getattr__" = none ∧
    ∃ fI oI fd, mN "__init__" = some (.ref fI) ∧ W.g.get? fI = some oI ∧ oI.cls = .type "function" ∧ oI.data = .func fd ∧ W.g.CodeRec fd.code fd.qualname ∧ fd.body = .stmts (fB iSt) ∧ fd.scope = fS iSt ∧ fd.closure = [] ∧ fd.globals = mainGlobals ∧ fd.builtins = builtinsNs ∧
      (∀ v1 v2 v3, bindArgs fd ⟨[v1, v2, v3], []⟩ = pure ([("self", v1), ("kind", v2), ("text", v3)] : List (Str × Value)))

theorem op_adds {c : Cx} {σ : Sg} {ρ : Rh} {x y : Str} (hx : x.length + y.length ≤ sizeLine) : Op2 c σ ρ (binaryOp .Add) (.str x) (.str y) (.str (x ++ y)) := fun s va vb F oa ob => by
  cases oa; cases ob
  exact add_str (fun t' tk => ⟨Stp.tok _ _, .str _ _⟩) hx

abbrev excO (t0 : Addr) (dx : Option Addr) : Obj := { cls := .ref CA, dict := dx, data := .fields #[.ref t0, .none, .none, .none, .bool false, .none] }
abbrev rhI (e : Addr) (tx : Str) : Rh := [("self", .adr (.ref e)), ("kind", .str "domain"), ("text", .str tx)]

theorem init_body {c : Cx} (kx : Kx c.toWd) {e t0 : Addr} {tx : Str} (htx : tx.length ≤ 1000) (hK : ∀ x, c.env.kindOf x = (fS iSt).names.lookup x) (hint : interactive c.env = false) (hme : ¬ Mt c [] e) (hbe : c.base.get? e = none) {s : Shared} (F : FR c [] s.heap (rhI e tx)) (he : s.heap.get? e = some (excO t0 none)) :
    wpAny (model P c.w) c.A (execs (fB iSt) c.env) (fun fl s' => fl = .next ∧ Sa s s' ∧ Kp c.base s'.heap ∧ ∃ t1 dx, s'.heap.get? e = some (excO t1 (some dx)) ∧ KD s'.heap dx ∧ c.base.get? dx = none) No s := by
  obtain ⟨nm, q, bs, sn, sub, ab, col, dd, k0, k1, k2, k3, k5, hcls⟩ := kx.cls
  obtain ⟨mN, hmN, hkd, htxt, hsa, hga, hgh, _⟩ := kx.ns
  have hb : fB iSt = [.Expr (.Call (.Attribute (.Name "Exception" ⟨5, 8, 5, 17⟩) "__init__" ⟨5, 8, 5, 26⟩) [.Name "self" ⟨5, 27, 5, 31⟩, .BinOp (.BinOp (.Name "kind" ⟨5, 33, 5, 37⟩) .Add (.Constant (.str ": ") 0 ⟨5, 40, 5, 44⟩) ⟨5, 33, 5, 44⟩) .Add (.Name "text" ⟨5, 47, 5, 51⟩) ⟨5, 33, 5, 51⟩] [] ⟨5, 8, 5, 52⟩) ⟨5, 8, 5, 52⟩,
      .Assign [.Attribute (.Name "self" ⟨6, 8, 6, 12⟩) "kind" ⟨6, 8, 6, 17⟩] (.Name "kind" ⟨6, 20, 6, 24⟩) ⟨6, 8, 6, 24⟩, .Assign [.Attribute (.Name "self" ⟨7, 8, 7, 12⟩) "text" ⟨7, 8, 7, 17⟩] (.Name "text" ⟨7, 20, 7, 24⟩) ⟨7, 8, 7, 24⟩] := by rfl
  rw [hb]
  have noF : ∀ {h : Heap} {t : Addr} {dx : Option Addr}, h.get? e = some (excO t dx) → ∀ ob xs n, h.get? e = some ob → ob.data ≠ .seq xs n := fun h1 ob xs n h2 q => by rw [h1] at h2; cases h2; cases q
  refine wpAny_execs_cons (wpAny_Expr (MethodCall_ (pl := do return (← importBound (.Name "Exception" ⟨5, 8, 5, 17⟩) c.env).getD true) (tv_thenE (tv_builtin (by rw [hK]; decide +kernel) kx.ne PyProof.Rows.Boot.«Exception») F fun v s1 k1 F1 o1 => ?_) (by rfl)) hint rfl)
  cases o1
  obtain ⟨m1, hn1, _⟩ := F1.vars
  refine method_exc hn1 ?_
  have F1' : FR c [] ({ s1 with toks := s1.toks + 1 } : Shared).heap (rhI e tx) := F1
  have hts : Ts c [] (rhI e tx) (spliced (backTo ⟨5, 8, 5, 52⟩ (starEach [.Name "self" ⟨5, 27, 5, 31⟩, .BinOp (.BinOp (.Name "kind" ⟨5, 33, 5, 37⟩) .Add (.Constant (.str ": ") 0 ⟨5, 40, 5, 44⟩) ⟨5, 33, 5, 44⟩) .Add (.Name "text" ⟨5, 47, 5, 51⟩) ⟨5, 33, 5, 51⟩] c.env))) [.adr (.ref e), .str (("domain" : Str) ++ (": " : Str) ++ tx)] :=
    ts_cons (tv_name rfl) (ts_cons (tv_bin (tv_bin (tv_name rfl) tv_str (op_adds (by decide +kernel))) (tv_name rfl) (op_adds (by
      have h8 : (("domain" : Str) ++ (": " : Str)).length = 8 := by decide +kernel
      rw [h8, sizeLine_eq]; omega))) ts_nil)
  refine PyProof.Rows.callWith_builtin1 (wpAny_mono (hts { s1 with toks := s1.toks + 1 } F1') (fun vs s2 q => ?_) fun _ _ x => x) rfl rfl
  obtain ⟨k2, os⟩ := q
  have F2 := F1'.keeps k2.kp
  cases os with
  | cons o1 os =>
  cases os with
  | cons o2 os =>
  cases os
  cases o1
  obtain ⟨s2h, s2g, s2d, s2t, s2o⟩ := s2
  have he2 : s2h.get? e = some (excO t0 none) := k2.kp _ _ (k1.kp _ _ he)
  refine init_own (F2.kgh _ _ hcls) he2 rfl rfl rfl (by simp; decide) ?_
  generalize hh3 : (s2h.push _).update e _ = h3
  have he3 : h3.get? e = some (excO s2h.objs.size none) := by
    rw [← hh3]; exact Heap.get?_update_self _ (Heap.get?_push_of_some _ he2) rfl
  have hk3 : ∀ b ob, b ≠ e → s2h.get? b = some ob → h3.get? b = some ob := fun b ob hne hb => by
    rw [← hh3, Heap.get?_update_other _ _ (Ne.symm hne)]; exact Heap.get?_push_of_some _ hb
  clear hh3
  obtain ⟨F3, tr3⟩ := F2.butI hk3 hme hbe (noF he2)
  have a3 : Sa s ⟨h3, s2g, s2d, s2t, s2o⟩ := ((k1.sa.trans ⟨_, _, rfl⟩).trans k2.sa).trans ⟨h3, s2t, rfl⟩
  generalize hs3 : (⟨h3, s2g, s2d, s2t, s2o⟩ : Shared) = s3 at a3
  have F3' : FR c [] s3.heap (rhI e tx) := by rw [← hs3]; exact F3
  have he3' : s3.heap.get? e = some (excO s2h.objs.size none) := by rw [← hs3]; exact he3
  refine wpAny_execs_cons (plainObj_wpAny_Assign_Attribute (tv_thenE (tv_name rfl) F3' fun v4 s4 k4 F4 o4 => tv_thenE (tv_name rfl) F4 fun v5 s5 k5 F5 o5 => ?_) rfl)
  cases o4 with
  | str _ u4 =>
  cases o5
  have k45 := k4.trans k5
  obtain ⟨s5h, s5g, s5d, s5t, s5o⟩ := s5
  have he5 : s5h.get? e = some (excO s2h.objs.size none) := k45.kp _ _ he3'
  refine first_attr PySem.F.store_Exception (F5.kgh _ _ hcls) (hmN.keeps F5.kgh) hsa hkd lkE_kind he5 rfl rfl rfl fun h6 tk6 he6 hn6 hk6 => ?_
  obtain ⟨F6, tr6⟩ := F5.butI hk6 hme hbe (noF he5)
  have hbd : c.base.get? s5h.objs.size = none := kp_none F5.kb (Heap.get?_none_of_le (Nat.le_refl _))
  have hed : e ≠ s5h.objs.size := Nat.ne_of_lt (Heap.lt_size he5)
  have a6 : Sa s ⟨h6, s5g, s5d, tk6, s5o⟩ := (a3.trans k45.sa).trans ⟨h6, tk6, rfl⟩
  generalize hs6 : (⟨h6, s5g, s5d, tk6, s5o⟩ : Shared) = s6 at a6
  have F6' : FR c [] s6.heap (rhI e tx) := by rw [← hs6]; exact F6
  have he6' : s6.heap.get? e = some (excO s2h.objs.size (some s5h.objs.size)) := by rw [← hs6]; exact he6
  have hn6' : s6.heap.Ns1 s5h.objs.size (fun y => if y = "kind" then some (.str "domain" u4) else none) := by rw [← hs6]; exact hn6
  refine wpAny_execs_cons (plainObj_wpAny_Assign_Attribute (tv_thenE (tv_name rfl) F6' fun v7 s7 k7 F7 o7 => tv_thenE (tv_name rfl) F7 fun v8 s8 k8 F8 o8 => ?_) rfl)
  cases o7 with
  | str _ u7 =>
  cases o8
  have k78 := k7.trans k8
  obtain ⟨s8h, s8g, s8d, s8t, s8o⟩ := s8
  have he8 : s8h.get? e = some (excO s2h.objs.size (some s5h.objs.size)) := k78.kp _ _ he6'
  have hn8 : s8h.Ns1 s5h.objs.size (fun y => if y = "kind" then some (.str "domain" u4) else none) := hn6'.at fun o ho => k78.kp _ _ ho
  have I8 : s8h.Inst e CA (fun y => if y = "kind" then some (.str "domain" u4) else none) := ⟨_, he8, rfl, (fun _ q => by cases q), .inr ⟨_, rfl, hed.symm, hn8⟩⟩
  have heC : e ≠ CA := fun hq => by
    have hq1 := F8.kgh _ _ hcls
    rw [← hq, he8] at hq1
    have h0 := congrArg Obj.data (Option.some.inj hq1)
    cases h0
  refine store_attr PySem.F.store_Exception (F8.kgh _ _ hcls) (hmN.keeps F8.kgh) hsa htxt lkE_text heC I8 (fun h9 tk9 I9 hk9 hsame => ?_) (ns := ["kind"]) ?_ (by decide)
  · have hs9 := hsame _ he8
    obtain ⟨⟨c9, d9, dt9, sl9⟩, he9, rfl, rfl, rfl, hd9⟩ := hs9
    have hd9' := hd9 _ rfl
    cases hd9'
    refine wpAny_execs_nil ⟨rfl, (a6.trans k78.sa).trans ⟨h9, tk9, rfl⟩, fun b o hb => hk9 b o (fun q => by rw [q, hbe] at hb; cases hb) (fun o₀ dx h1 h2 q => ?_) (F8.kb _ _ hb), _, _, he9, ?_, hbd⟩
    · rw [he8] at h1; cases h1; cases h2
      rw [q, hbd] at hb; cases hb
    · obtain ⟨o9, h1, _, _, h2⟩ := I9
      rw [he9] at h1; cases h1
      rcases h2 with ⟨h2, _⟩ | ⟨d, h2, _, h3⟩
      · cases h2
      · cases h2
        exact ⟨_, u4, h3.ns, (if_neg (by decide +kernel)).trans (if_pos rfl)⟩
  · exact Within.cons _ _ Within.nil

/-- the frame of the own __init__ -/
theorem init_fr {W : Wd} (gd : Gd W) {A : Around} {s : Shared} {fd : FuncData} {fI e : Addr} {tx : Str} {v1 v2 v3 : Value} {s₁ : Shared} (hh : A.handled = none) (hk : Kp W.g s.heap) (heg : W.g.get? e = none) (hel : ∃ ob, s.heap.get? e = some ob)
    (hsc : fd.scope = fS iSt) (hgl : fd.globals = mainGlobals) (hbl : fd.builtins = builtinsNs) (h1 : v1 = .ref e) (h2 : ∃ u, v2 = .str "domain" u) (h3 : ∃ u, v3 = .str tx u)
    (X : InCallC s (callEnvC fd s.heap.objs.size fI).locals (bindL (callEnvC fd s.heap.objs.size fI).kindOf ([("self", v1), ("kind", v2), ("text", v3)] : List (Str × Value)) fun _ => none) (callEnvC fd s.heap.objs.size fI).cells
      (bindC (callEnvC fd s.heap.objs.size fI).kindOf ([("self", v1), ("kind", v2), ("text", v3)] : List (Str × Value)) fun _ => none) s₁) :
    FR ⟨W, A, s.heap.hide e, fun _ => False, callEnvC fd s.heap.objs.size fI⟩ [] s₁.heap (rhI e tx) := by
  obtain ⟨u2, rfl⟩ := h2
  obtain ⟨u3, rfl⟩ := h3
  subst h1
  have hcl : (callEnvC fd s.heap.objs.size fI).cells = [] := by
    show cellsFrom _ fd.scope.names [] = []
    rw [hsc]; rfl
  have hK : ∀ x, (callEnvC fd s.heap.objs.size fI).kindOf x = (fS iSt).names.lookup x := fun x => by
    show fd.scope.names.lookup x = _; rw [hsc]
  have hbs : ∀ b o, (s.heap.hide e).get? b = some o → s.heap.get? b = some o := fun b o q => Heap.of_hide q
  exact {
    gd := gd
    kg := fun b o q => by
      have hne : b ≠ e := fun z => by rw [z, heg] at q; cases q
      show (s.heap.hide e).get? b = some o
      rw [Heap.hide_ne _ hne]; exact hk b o q
    kb := fun b o q => X.toInCall.keep b o (hbs b o q)
    m0 := fun _ q => q.elim
    vars := ⟨_, X.toInCall.ns, fun x d q => by
      have hl : ∀ y ∈ (["self", "kind", "text"] : List Str), (callEnvC fd s.heap.objs.size fI).kindOf y = some .local := fun y hy => by
        rw [hK]
        simp only [List.mem_cons, List.not_mem_nil, or_false] at hy
        rcases hy with rfl | rfl | rfl <;> decide +kernel
      have z := fun (y : Str) (v : Value) (hy : y ∈ (["self", "kind", "text"] : List Str)) (hv : (List.zip (["self", "kind", "text"] : List Str) [Value.ref e, .str "domain" u2, .str tx u3]).lookup y = some v) =>
        bindL_zip (kd := (callEnvC fd s.heap.objs.size fI).kindOf) (m := fun _ => none) (hl y hy) (by decide +kernel) hv
      have hx : x ∈ (["self", "kind", "text"] : List Str) := lookup_zip_mem (vs := [D.adr (.ref e), .str "domain", .str tx]) q
      refine .inl ⟨hl x hx, ?_⟩
      rw [rhI, lookup_put] at q
      by_cases e1 : x = "self"
      · subst e1; rw [if_pos rfl] at q; cases q
        exact ⟨_, z _ _ hx (by rfl), .adr _⟩
      · rw [if_neg e1, lookup_put] at q
        by_cases e2 : x = "kind"
        · subst e2; rw [if_pos rfl] at q; cases q
          exact ⟨_, z _ _ hx (by rfl), .str _ _⟩
        · rw [if_neg e2, lookup_put] at q
          by_cases e3 : x = "text"
          · subst e3; rw [if_pos rfl] at q; cases q
            exact ⟨_, z _ _ hx (by rfl), .str _ _⟩
          · rw [if_neg e3] at q; cases q⟩
    bl := by
      show (s.heap.hide e).get? s.heap.objs.size = none
      cases q : (s.heap.hide e).get? s.heap.objs.size with
      | none => rfl
      | some o => exact absurd (Heap.lt_size (hbs _ _ q)) (Nat.lt_irrefl _)
    bc := fun _ x k q => by
      have q' : (callEnvC fd s.heap.objs.size fI).cells.lookup x = some k := q
      rw [hcl] at q'; cases q'
    cx := fun x k q => by
      have q' : (callEnvC fd s.heap.objs.size fI).cells.lookup x = some k := q
      rw [hcl] at q'; cases q'
    ca := by
      show (callEnvC fd s.heap.objs.size fI).cells.Pairwise _
      rw [hcl]; exact .nil
    ow := fun p hp => nomatch hp
    oa := .nil
    ek := by show fd.scope.kind = _; rw [hsc]; rfl
    eg := hgl
    eb := hbl
    ah := hh }

theorem init_call {W : Wd} (gd : Gd W) (kx : Kx W) {A : Around} {s : Shared} {e t0 : Addr} {tx : Str} {u2 u3 : Tok} (hr : Rm A 1) (hk : Kp W.g s.heap) (heg : W.g.get? e = none) (he : s.heap.get? e = some (excO t0 none)) (htx : tx.length ≤ 1000) :
    ∃ mN fI oI, W.g.Ns CN mN ∧ mN "__init__" = some (.ref fI) ∧ W.g.get? fI = some oI ∧ oI.cls = .type "function" ∧ wpAny (model P W.w) A (call (.ref fI) [.ref e, .str "domain" u2, .str tx u3]) (fun r s' => r = .none ∧ Sa s s' ∧ Kp (s.heap.hide e) s'.heap ∧ ∃ t1 dx, s'.heap.get? e = some (excO t1 (some dx)) ∧ KD s'.heap dx ∧ (s.heap.hide e).get? dx = none) No s := by
  obtain ⟨mN, hmN, _, _, _, _, _, fI, oI, fd, hi, ho, hoc, hd, hcr, hbd, hsc, hclo, hgl, hbl, hbind⟩ := kx.ns
  refine ⟨mN, fI, oI, hmN, hi, ho, hoc, ?_⟩
  have hnm : (fS iSt).names.lookup ("self" : Str) = some NameKind.local ∧ (fS iSt).names.lookup ("kind" : Str) = some NameKind.local ∧ (fS iSt).names.lookup ("text" : Str) = some NameKind.local := by decide +kernel
  refine wpAny_call (codeAny_call_cells (by have := hr.dp; omega) (hk _ _ ho) hd (gd.nolimit.keeps hk) (hcr.keeps hk) hbd (hbind _ _ _) hclo (fun x hx => ?_) (fun s₁ X => ?_) (by rw [hsc]; rfl) (by rw [hsc]; rfl) (by rw [hsc]; rfl))
  · simp only [List.mem_cons, List.not_mem_nil, or_false] at hx
    rw [hsc]
    rcases hx with rfl | rfl | rfl
    · exact .inl hnm.1
    · exact .inl hnm.2.1
    · exact .inl hnm.2.2
  · have FF := init_fr (A := A.deeper (callEnvC fd s.heap.objs.size fI)) gd hr.hh hk heg ⟨_, he⟩ hsc hgl hbl rfl ⟨u2, rfl⟩ ⟨u3, rfl⟩ X
    obtain ⟨h₁, tk, rfl, hkk⟩ := X.done
    refine wpAny_mono (init_body (c := ⟨W, A.deeper (callEnvC fd s.heap.objs.size fI), s.heap.hide e, fun _ => False, callEnvC fd s.heap.objs.size fI⟩) kx htx (fun x => by show fd.scope.names.lookup x = _; rw [hsc]) ?_ ?_ (Heap.hide_self _ _) FF (hkk _ _ he)) (fun fl s' q => ?_) fun _ _ x => x.elim
    · show (fd.scope.kind == .module && _) = false
      rw [hsc]; rfl
    · rintro (m | ⟨x, m⟩ | ⟨p, hp, _⟩)
      · have m' : e = s.heap.objs.size := m
        exact absurd (Heap.lt_size he) (by rw [m']; exact Nat.lt_irrefl _)
      · have q' : (cellsFrom (s.heap.objs.size + 1) fd.scope.names []).lookup x = some e := m
        rw [hsc] at q'; cases q'
      · cases hp
    · obtain ⟨rfl, ⟨h', tk', rfl⟩, kp, t1, dx, x1, x2, x3⟩ := q
      exact ⟨rfl, ⟨_, _, rfl⟩, kp, t1, dx, x1, x2, x3⟩
end Mine
end

section
open PySem PySem.W PySem.Calls PyProof.Rows
set_option Elab.async false
set_option maxRecDepth 100000
set_option linter.unusedVariables false
namespace Mine

section
variable {M : Model} {A : Around} {E : Value → Shared → Prop} {env : Env}
variable {nm q : Str} {bs : List Value} {sn : List Str} {sub : List Value} {ab : Bool} {col : Option Bool} {dd : Option Addr} {k0 k1 k2 k3 k5 : Option Value} {newId : String}

theorem raise_made {s : Shared} {x : Sem Value} {Q : Flow → Shared → Prop} (hh : A.handled = none)
    (h : wpAny M A x (fun v s₁ => ∃ e t dx, v = .ref e ∧ s₁.heap.get? CA = some (excClassObj nm q CA CN bs bmE true sn sub ab col dd k0 k1 k2 k3 k5 newId) ∧
      s₁.heap.get? e = some (excO t (some dx)) ∧ E (.ref e) s₁) E s) :
    wpAny M A (raiseStmt env (some x) none) Q E s := by
  have hcB : (Value.ref CA :: bmE).contains (.type "BaseException") = true := by decide
  unfold raiseStmt
  refine wpAny_bind (wpAny_mono h (fun v s₁ h₁ => ?_) fun _ _ x => x)
  obtain ⟨e, t, dx, rfl, hC, he, hE⟩ := h₁
  obtain ⟨hp, g, d, tk, os⟩ := s₁
  repeat (first | with_reducible refine wpAny_loadPart_at he ?_ | with_reducible refine wpAny_loadPart_at hC ?_ | (with_reducible refine wpAny_isSubtype_exc hC ?_; rw [hcB]) | wp_step)
  exact wpAny_raiseNew_none hh hE
end

theorem tc_weight (rest : List Value) : (Code.builtin "type.__call__" ⟨.ref CA :: rest, []⟩).weight = 1 := by kernel_rfl
theorem tc_units (rest : List Value) : (Code.builtin "type.__call__" ⟨.ref CA :: rest, []⟩).cUnits = 1 := by kernel_rfl
theorem Rm.under {A : Around} {k : Nat} (h : Rm A (k + 1)) (rest : List Value) : Rm (A.under (.builtin "type.__call__" ⟨.ref CA :: rest, []⟩)) k :=
  ⟨h.hh, by have := h.dp; show A.depth + Code.weight _ + k < _; rw [tc_weight]; omega, by have := h.un; show A.units + Code.cUnits _ + 8 * k + 200 < _; rw [tc_units]; omega⟩

section
variable {c : Cx} {σ : Sg} {ρ : Rh} {B : Heap} {l : List Env} {L : Addr}
/-- raise CasFail('domain', ..) -/
theorem rz1_raise (b : Bk B l L c) (kx : Kx c.toWd) (hr : Rm c.A 2) {np cpos pos : Pos} {e1 : Expr} {rest : List Expr} {tx : Str} (htx : tx.length ≤ 1000)
    (ha : Ts c σ ρ (spliced (backTo cpos (starEach (e1 :: rest) c.env))) [.str "domain", .str tx])
    (hx : c.env.kindOf "CasFail" = some .globalImplicit := by rfl)
    (he' : starEach (e1 :: rest) c.env = (false, eval e1 c.env) :: starEach rest c.env := by rfl)
    (hplain : (backTo cpos (starEach (e1 :: rest) c.env)).any (·.1) = false := by rfl) :
    Rz1 c σ ρ B l (.Raise (some (.Call (.Name "CasFail" np) (e1 :: rest) [] cpos)) none pos) := fun s F => by
  obtain ⟨nm, q, bs, sn, sub, ab, col, dd, k0, k1, k2', k3, k5, hcls⟩ := kx.cls
  rw [arm_exec_Raise]
  have key : wpAny (model P c.w) c.A (eval (.Call (.Name "CasFail" np) (e1 :: rest) [] cpos) c.env) (fun v s₁ => ∃ e t dx, v = .ref e ∧ s₁.heap.get? CA = some (excClassObj nm q CA CN bs bmE true sn sub ab col dd k0 k1 k2' k3 k5 "Exception.__new__") ∧
      s₁.heap.get? e = some (excO t (some dx)) ∧ Rq c.base B l s (.ref e) s₁) (Rq c.base B l s) s := by
    refine Call_ (tv_thenE (tv_global hx kx.gl (.adr _) (by decide +kernel)) F fun v s1 k1' F1 o1 => ?_) rfl
    cases o1
    unfold callWith
    have h₁ : wpAny (model P c.w) c.A (evalArgs (.ref CA) true (backTo cpos (starEach (e1 :: rest) c.env)) []) (fun a s₂ => ∃ u1 u2, a = ⟨[.str "domain" u1, .str tx u2], []⟩ ∧ Stp s1 s₂) (Rq c.base B l s) s1 := by
      have h2 := ha s1 F1
      rw [he'] at h2 ⊢
      refine evalArgs_plain (wpAny_mono h2 (fun vs s2 q => ?_) fun _ _ x => x.elim)
      obtain ⟨k2, os⟩ := q
      cases os with
      | cons o1 os =>
      cases os with
      | cons o2 os =>
      cases os
      cases o1; cases o2
      exact ⟨_, _, rfl, k2⟩
    refine wpAny_bind (wpAny_holding (wpAny_mono h₁ (fun a s₂ h₂ => wpAny_bind (wpAny_standAt ?_)) fun _ _ x => x))
    obtain ⟨u1, u2, rfl, k2⟩ := h₂
    have F2 := F1.keeps k2.kp
    obtain ⟨hp, g, d, tk, os⟩ := s₂
    simp only [hplain]
    have hC2 : hp.get? CA = some (excClassObj nm q CA CN bs bmE true sn sub ab col dd k0 k1 k2' k3 k5 "Exception.__new__") := F2.kgh _ _ hcls
    refine wpAny_bind (wpAny_keeperOf_exc hC2 ?_)
    obtain ⟨mN, hmN, _, _, _, _, _, fI, oI, fd, hi, ho, hoc, _⟩ := id kx.ns
    refine wpAny_bind (wpAny_call_exc_init (hrest := by show 2 ≤ sizeLine; rw [sizeLine_eq]; omega) PySem.F.excBase_Exception hC2 (hmN.keeps F2.kgh) hi (F2.kgh _ _ ho) hoc fun h' e hm => ?_)
    obtain ⟨t0, he, htn, ht⟩ := hm.there
    have heg : c.g.get? e = none := kp_none F2.kgh hm.new
    obtain ⟨mN', fI', oI', hmN', hi', ho', hoc', hcall⟩ := init_call F.gd kx (A := c.A.under (.builtin "type.__call__" ⟨[.ref CA, .str "domain" u1, .str tx u2], []⟩)) (s := ⟨h', g, d, tk, os⟩) (e := e) (t0 := t0) (tx := tx) (u2 := u1) (u3 := u2) (hr.under _) (fun b o z => hm.keeps b o (F2.kgh b o z)) heg he htx
    have hff : fI' = fI := by
      obtain ⟨o1, es1, ep1, a1, a2, a3, a4⟩ := hmN
      obtain ⟨o2, es2, ep2, b1, b2, b3, b4⟩ := hmN'
      rw [a1] at b1; cases b1
      rw [a2] at b2; cases b2
      have z1 := (a4 "__init__").trans hi
      have z2 := (b4 "__init__").trans hi'
      rw [z1] at z2; cases z2; rfl
    subst hff
    refine wpAny_mono hcall (fun r s' z => ?_) fun _ _ x => x.elim
    obtain ⟨rfl, a', kp', t1, dx, he1, hkd, hdx⟩ := z
    refine ⟨rfl, wpAny_bind (wpAny_holding (wpAny_point (wpAny_pure ?_)))⟩
    have kH : ∀ {h0 : Heap}, Kp h0 hp → Kp h0 (h'.hide e) := fun k0 b o z => by
      have hne : b ≠ e := fun y => by have := k0 b o z; rw [y, hm.new] at this; cases this
      rw [Heap.hide_ne _ hne]; exact hm.keeps b o (k0 b o z)
    have kS : ∀ {h0 : Heap}, Kp h0 hp → Kp h0 s'.heap := fun k0 b o z => kp' b o (kH k0 b o z)
    obtain ⟨x1, x2⟩ := b.lo _ _ _ F2
    refine ⟨e, t1, dx, rfl, kS (fun _ _ z => z) _ _ hC2, he1, e, dx, rfl, ?_, kp_none (kH F2.kb) hdx, Heap.UpToSlots.of_keeps (kS F2.kb), kS x2, kp_none x2 hm.new, x1.of_keeps fun b o z _ => ⟨o, kS (fun _ _ y => y) b o z, rfl⟩, hkd, .inl ⟨_, _, he1, rfl, rfl, rfl, rfl⟩⟩
    exact ((k1'.sa.trans k2.sa).trans ⟨h', tk, rfl⟩).trans a'
  exact wpAny_bind (wpAny_standAt (raise_made F.ah (wpAny_bind (wpAny_mono key (fun v s₃ h₃ => wpAny_bind (wpAny_standAt (wpAny_pure h₃))) fun _ _ x => x))))
end
end Mine
end

section
open PySem PySem.W PySem.Calls PyProof.Rows
set_option Elab.async false
set_option maxRecDepth 100000
set_option linter.unusedVariables false
namespace Mine

section
variable {c : Cx} {σ : Sg} {ρ : Rh} {B : Heap} {l : List Env} {L : Addr}

/-- what a handler holds -/
structure Hs (c : Cx) (B : Heap) (l : List Env) (e dx : Addr) (h : Heap) : Prop where
  x : Xt B l e dx h
  u : c.base.UpToSlots h
  d : dx ≠ c.env.locals
  n : ∃ m, h.Ns c.env.locals m

theorem Bk.noteA (b : Bk B l L c) {A' : Around} (hA : A'.frames = c.A.frames) {E : Value → Shared → Prop} {s : Shared} {e dx : Addr} {Q : Unit → Shared → Prop} (X : Xs B l e dx s.heap) (h : ∀ h', Xt B l e dx h' → s.heap.UpToSlots h' → Q () { s with heap := h' }) :
    wpAny (model P c.w) A' (noteFrame (.ref e) c.env) Q E s := by
  obtain ⟨fe, outer, rfl, hfe⟩ := b.hd
  exact noteX (hA.trans b.fr) b.ef hfe X h

theorem Hs.slots {e dx : Addr} {h h' : Heap} (H : Hs c B l e dx h) (X : Xt B l e dx h') (u : h.UpToSlots h') : Hs c B l e dx h' := ⟨X, H.u.trans u, H.d, let ⟨m, hn⟩ := H.n; ⟨m, u.ns hn⟩⟩

/-- the frame's own dict changes -/
theorem Hs.own {e dx : Addr} {h h' : Heap} {m : Str → Option Value} (H : Hs c B l e dx h) (hb : c.base.get? c.env.locals = none) (hB : B.get? c.env.locals = none) (hs : Heap.SameBut c.env.locals h h') (hn : h'.Ns c.env.locals m) : Hs c B l e dx h' := by
  obtain ⟨X, u, d, m0, hn0⟩ := H
  refine ⟨X.same hs.extBut hB d (fun o vs ho q => ?_) fun env _ _ => ?_, fun b o ho hnf => ?_, d, m, hn⟩
  · obtain ⟨o', es, ep, ho', hd', _⟩ := hn0; rw [ho'] at ho; cases ho; rw [hd'] at q; cases q
  · obtain ⟨o', es, ep, ho', hd', _⟩ := hn; exact ⟨o', ho', fun vs q => by rw [hd'] at q; cases q⟩
  · obtain ⟨sl, e1⟩ := u b o ho hnf
    exact ⟨sl, hs.extBut b _ (fun q => by rw [q, hb] at ho; cases ho) e1⟩

/-- an expression raised in a try; the own class's handler takes it -/
theorem caught {RZ : Prop} {s : Shared} (b : Bk B l L c) (gd : Gd c.toWd) (kx : Kx c.toWd) (F : FR c σ s.heap ρ) (hL : c.env.locals = L) {n : Str} {np hp : Pos} {b₀ : Stmt} {suite : List Stmt} {Q G : Flow → Shared → Prop} {E : Value → Shared → Prop}
    (hl : c.env.kindOf n = some .local) (hcf : c.env.kindOf "CasFail" = some .globalImplicit)
    (hK : ∀ e dx s₄ m, Sa s s₄ → Hs c B l e dx s₄.heap → s₄.heap.Ns c.env.locals m → m n = some (.ref e) → wpAny (model P c.w) (c.A.mark (some (.ref e))) (execs (b₀ :: suite) c.env) G (fun x s₅ => RZ ∧ x = .ref e ∧ Sa s s₅ ∧ Hs c B l e dx s₅.heap) s₄)
    (hG : ∀ f s₅, G f s₅ → wpAny (model P c.w) c.A (do bindName c.env n .none; unbindBehindTheSuite c.env n hp) (fun _ s₆ => Q f s₆) E s₅)
    (hE : RZ → ∀ e dx s', Sa s s' → Hs c B l e dx s'.heap → c.base.get? dx = none → E (.ref e) s') {x : Value} {s₁ : Shared} (r : Rp B l s x s₁) :
    wpAny (model P c.w) c.A (noteFrame x c.env) (fun _ s₂ => wpAny (model P c.w) c.A (setFlight x none) (fun _ s₃ => wpAny (model P c.w) c.A (handleBy x c.env [.ExceptHandler (some (.Name "CasFail" np)) (some n) (b₀ :: suite) hp]) Q E s₃) E s₂) E s₁ := by
  obtain ⟨e, dx, rfl, a1, hdx, u1, X1⟩ := r
  obtain ⟨nm, q, bs, sn, sub, ab, col, dd, k0, k1, k2, k3, k5, hcls⟩ := kx.cls
  obtain ⟨m, hn, _⟩ := F.vars
  have hdl : dx ≠ c.env.locals := fun z => by obtain ⟨o, es, ep, ho, _⟩ := hn; rw [z, ho] at hdx; cases hdx
  have hBl : B.get? c.env.locals = none := by
    obtain ⟨fe, outer, rfl, hfe⟩ := b.hd
    obtain ⟨_, ⟨L', o, hf, hn', _⟩, _⟩ := (b.lo _ _ _ F).1
    rw [hL]; rw [hfe] at hf; cases hf; exact hn'
  have hbase : c.base.get? dx = none := kp_none F.kb hdx
  have H1 : ∀ {h : Heap}, Xt B l e dx h → s₁.heap.UpToSlots h → Hs c B l e dx h := fun X u => ⟨X, (Heap.UpToSlots.of_keeps F.kb).trans (u1.trans u), hdl, m, (u1.trans u).ns hn⟩
  have kC : ∀ {h : Heap}, Xt B l e dx h → Kp c.g h := fun X o ob z => X.st o ob (b.gB o ob z)
  have hhp : (c.env.scope.kind == .class || (c.env.scope.kind == .module && c.env.locals != c.env.globals)) = false := by rw [F.ek]; rfl
  have mk : (c.A.mark (some (.ref e))).frames = c.A.frames := rfl
  -- what leaves the suite by an exception
  have out : RZ → ∀ s', Sa s s' → Hs c B l e dx s'.heap → notedBy (model P c.w) (c.A.mark (some (.ref e))) c.env (cameBackBy (model P c.w) c.A c.env E) (.ref e) s' := fun rz s' a H =>
    b.noteA mk H.x.own fun h1 x1 v1 => checkedX (s := { s' with heap := h1 }) x1 fun h2 x2 v2 => hE rz e dx _ (a.trans ⟨h2, s'.toks, rfl⟩) (H.slots x2 (v1.trans v2)) hbase
  refine b.noteA rfl X1 fun h2 x2 u2 => flightX (s := { s₁ with heap := h2 }) x2 fun h3 x3 u3 => ?_
  have H3 := H1 x3 (u2.trans u3)
  refine wpAny_handleBy_cons (codeAny_handlers_test ?_) (by intro q; cases q)
  refine Name_function_global F.ek hcf (loadGlobal_global (by rw [F.eg]; exact F.gd.nsg.keeps (kC x3)) kx.gl ?_) (by decide)
  obtain ⟨oe, vs, he, hc, _⟩ := x3.there
  refine wpAny_excMatches_sub_self (kC x3 _ _ hcls) he hc (by decide) ?_
  show codeAny _ _ _ _ _
  refine codeAny_handlers_suite_as (flightX (s := { s₁ with heap := h3 }) x3 fun h4 x4 u4 => ?_)
  have H4 := H1 x4 ((u2.trans u3).trans u4)
  obtain ⟨m4, hn4⟩ := H4.n
  refine wpAny_storeName_local hl hn4 (fun h5 hn5 hs5 => ?_) hhp
  have H5 : Hs c B l e dx h5 := H4.own F.bl hBl hs5 hn5
  have a5 : Sa s { s₁ with heap := h5, toks := s₁.toks + 1 } := a1.trans ⟨h5, _, rfl⟩
  refine wpAny_mono (hK e dx _ _ a5 H5 hn5 (if_pos rfl)) (fun f s6 g => hG f s6 g) fun x s6 q => ?_
  obtain ⟨rz, rfl, a6, H6⟩ := q
  refine b.noteA mk H6.x.own fun h7 x7 u7 => ?_
  have H7 := H6.slots x7 u7
  obtain ⟨m7, hn7⟩ := H7.n
  refine wpAny_nameGoes hl hn7 hhp fun h8 m8 hn8 hs8 => ?_
  have H8 : Hs c B l e dx h8 := H7.own F.bl hBl hs8 hn8
  refine passX (s := { s6 with heap := h8, toks := s6.toks + 1 }) H8.x fun h9 x9 u9 => ?_
  exact out rz _ (a6.trans ⟨h9, _, rfl⟩) (H8.slots x9 u9)
end
end Mine
end

section
open PySem PySem.W PySem.Calls PyProof.Rows
set_option Elab.async false
set_option maxRecDepth 100000
set_option linter.unusedVariables false
namespace Mine

section
variable {M : Model} {A : Around} {E : Value → Shared → Prop} {env : Env} {B : Heap} {l : List Env} {e dx : Addr}
variable {nm q : Str} {bs : List Value} {sn : List Str} {sub : List Value} {ab : Bool} {col : Option Bool} {dd : Option Addr} {k0 k1 k2 k3 k5 : Option Value} {newId : String}

theorem raise_held {s : Shared} {x : Sem Value} {Q : Flow → Shared → Prop} (hh : A.handled = some (.ref e))
    (h : wpAny M A x (fun v s₁ => v = .ref e ∧ s₁.heap.get? CA = some (excClassObj nm q CA CN bs bmE true sn sub ab col dd k0 k1 k2 k3 k5 newId) ∧ Xt B l e dx s₁.heap ∧
      ∀ h', Xt B l e dx h' → s₁.heap.UpToSlots h' → E (.ref e) { s₁ with heap := h' }) E s) :
    wpAny M A (raiseStmt env (some x) none) Q E s := by
  have hcB : (Value.ref CA :: bmE).contains (.type "BaseException") = true := by decide
  unfold raiseStmt
  refine wpAny_bind (wpAny_mono h (fun v s₁ h₁ => ?_) fun _ _ x => x)
  obtain ⟨rfl, hC, X, hE⟩ := h₁
  obtain ⟨hst, hne, hff, hkd, oe, vs, T, oT, ts, he, hc, hdx, hd, h1, hnT, hTe, hT, hdT, h3⟩ := X
  obtain ⟨hp, g, d, tk, os⟩ := s₁
  repeat (first | (with_reducible refine wpAny_loadPart_at he ?_; rw [hc]) | with_reducible refine wpAny_loadPart_at hC ?_ | (with_reducible refine wpAny_isSubtype_exc hC ?_; rw [hcB]) | wp_step)
  rw [hd]
  refine wpAny_pure ?_
  rw [h1]
  refine wpAny_pure ?_
  rw [if_pos (show (Value.ref T != Value.none) = true from by simp)]
  obtain ⟨Y, u⟩ := XT.other (x := .none) hst hne hff hkd he hc hdx hd h1 hnT hTe hT hdT h3
  refine wpAny_setField hT hdT h3 ?_
  unfold raiseNew
  refine wpAny_bind (wpAny_handled ?_)
  rw [hh]
  dsimp only
  have hee : (Value.ref e != Value.ref e) = false := by simp
  first
    | (rw [if_neg (by rw [hee]; decide)]; first | exact wpAny_throw (hE _ Y u) | exact wpAny_bind (wpAny_pure (wpAny_throw (hE _ Y u))))
    | (simp only [hee, Bool.false_eq_true, if_false]; first | exact wpAny_throw (hE _ Y u) | exact wpAny_bind (wpAny_pure (wpAny_throw (hE _ Y u))))
end

section
variable {c : Cx} {σ : Sg} {ρ : Rh} {B : Heap} {l : List Env} {L : Addr} {e dx : Addr}

theorem name_held {A' : Around} {E : Value → Shared → Prop} {s : Shared} {m : Str → Option Value} {n : Str} {p : Pos} {v : Value} {Q : Value → Shared → Prop} (hk : c.env.scope.kind = .function) (hl : c.env.kindOf n = some .local) (hd : (n == ("__debug__" : Str)) = false)
    (hn : s.heap.Ns c.env.locals m) (hv : m n = some v) (h : Q v s) : wpAny (model P c.w) A' (eval (.Name n p) c.env) Q E s := wpAny_Name (wpAny_loadName_local hk hl hn hv h) hd

theorem kind_held {A' : Around} {E : Value → Shared → Prop} {s : Shared} {m : Str → Option Value} {n : Str} {p p2 : Pos} {Q : Value → Shared → Prop} (gB : Kp c.g B) (kx : Kx c.toWd) (hk : c.env.scope.kind = .function) (hl : c.env.kindOf n = some .local) (hd : (n == ("__debug__" : Str)) = false)
    (H : Hs c B l e dx s.heap) (hn : s.heap.Ns c.env.locals m) (hv : m n = some (.ref e)) (h : ∀ t tk, Q (.str "domain" t) { s with toks := tk }) : wpAny (model P c.w) A' (eval (.Attribute (.Name n p) "kind" p2) c.env) Q E s := by
  obtain ⟨nm, q, bs, sn, sub, ab, col, dd, k0, k1, k2, k3, k5, hcls⟩ := kx.cls
  obtain ⟨mN, hmN, hkd, htxt, hsa, hga, hgh, _⟩ := kx.ns
  have kC : Kp c.g s.heap := fun o ob z => H.x.st o ob (gB o ob z)
  obtain ⟨oe, vs, he, hc, hdx, hdt⟩ := H.x.there
  obtain ⟨mA, t, hnA, hvA⟩ := H.x.kd
  refine Attribute_name (name_held hk hl hd hn hv ?_)
  obtain ⟨hp, g, d, tk, os⟩ := s
  exact kind_attr (kC _ _ hcls) (hmN.keeps kC) hkd hga hgh he hc hdt hdx hnA hvA rfl (h _ _)

/-- except .. as e: if e.kind != 'limit': raise e -/
theorem suite_reraise {s : Shared} {m : Str → Option Value} {n : Str} {p1 p2 p3 p4 p5 p6 p7 : Pos} {k : Nat} {G : Flow → Shared → Prop} (gB : Kp c.g B) (kx : Kx c.toWd) (hk : c.env.scope.kind = .function) (hl : c.env.kindOf n = some .local) (hd : (n == ("__debug__" : Str)) = false)
    (hbl : c.base.get? c.env.locals = none) (H : Hs c B l e dx s.heap) (hn : s.heap.Ns c.env.locals m) (hv : m n = some (.ref e)) :
    wpAny (model P c.w) (c.A.mark (some (.ref e))) (execs [.If (.Compare (.Attribute (.Name n p1) "kind" p2) [.NotEq] [.Constant (.str "limit") k p3] p4) [.Raise (some (.Name n p5)) none p6] [] p7] c.env) G (fun x s₅ => x = .ref e ∧ Sa s s₅ ∧ Hs c B l e dx s₅.heap) s := by
  obtain ⟨nm, q, bs, sn, sub, ab, col, dd, k0, k1, k2, k3, k5, hcls⟩ := kx.cls
  refine wpAny_execs_cons (wpAny_If (wpAny_isTrue_Compare1 (kind_held gB kx hk hl hd H hn hv fun t tk => Constant_str (ne_str (wpAny_truthy_bool ?_))) rfl))
  rw [if_pos (by decide +kernel)]
  refine wpAny_execs_cons ?_
  rw [arm_exec_Raise]
  refine wpAny_bind (wpAny_standAt (raise_held (B := B) (l := l) (e := e) (dx := dx) rfl (wpAny_bind (name_held hk hl hd hn hv (wpAny_bind (wpAny_standAt (wpAny_pure ⟨rfl, H.x.st _ _ (gB _ _ hcls), H.x, fun h' X' u' => ⟨rfl, ⟨h', _, rfl⟩, H.slots X' u'⟩⟩)))))))
end
end Mine
end

section
open PySem PySem.W PySem.Calls PyProof.Rows
set_option Elab.async false
set_option maxRecDepth 100000
set_option linter.unusedVariables false
namespace Mine

section
variable {c : Cx} {σ : Sg} {ρ ρ₀ : Rh} {B : Heap} {l : List Env} {L : Addr}

theorem rz1_try (b : Bk B l L c) (gd : Gd c.toWd) (kx : Kx c.toWd) (hL : c.env.locals = L) {x n : Str} {px ps np p1 p2 p3 p4 p5 p6 p7 hp pos : Pos} {k : Nat} {value : Expr} {rest : List Stmt} (h : Rz c σ ρ B l (eval value c.env))
    (hl : c.env.kindOf n = some .local := by rfl) (hcf : c.env.kindOf "CasFail" = some .globalImplicit := by rfl) (hd : (n == ("__debug__" : Str)) = false := by decide +kernel)
    (hs : swapsWith value (some (.Name x px)) ps.line c.env = pure false := by rfl) :
    Rz1 c σ ρ B l (.Try (.Assign [.Name x px] value ps :: rest) [.ExceptHandler (some (.Name "CasFail" np)) (some n) [.If (.Compare (.Attribute (.Name n p1) "kind" p2) [.NotEq] [.Constant (.str "limit") k p3] p4) [.Raise (some (.Name n p5)) none p6] [] p7] hp] [] [] pos) := fun s F =>
  wpAny_Try_except (wpAny_execs_cons (wpAny_Assign_Name (wpAny_mono (h s F) (fun _ _ z => z.elim) fun y s1 r =>
    caught (RZ := True) (G := NoQ) b gd kx F hL hl hcf (fun e dx s₄ m a H hn hv => wpAny_mono (suite_reraise b.gB kx F.ek hl hd F.bl H hn hv) (fun _ _ z => z) fun x s₅ z => ⟨trivial, z.1, a.trans z.2.1, z.2.2⟩)
      (fun f s₅ z => z.elim) (fun _ e dx s' a H hdx => ⟨e, dx, rfl, a, hdx, H.u, H.x.own⟩) r) hs))

/-- a for whose first turn raises -/
theorem rz1_for (b : Bk B l L c) {target iter : Expr} {body orelse : List Stmt} {pos : Pos} {d0 : D} {ds : List D} (hsrc : Src c σ ρ target (eval iter c.env) (d0 :: ds)) (has : As c σ ρ target d0 ρ₀) (hb : Rzs c σ ρ₀ B l body)
    (hs : ∀ x, foldedSetIterable iter c.env x = pure x := by intro _; rfl) : Rz1 c σ ρ B l (.For target iter body orelse pos) := fun s F => by
  refine wpAny_For (wpAny_mono (hsrc.2 s F) (fun xv s1 h1 => wpAny_mono h1 (fun it s2 q => ?_) fun _ _ x => x.elim) fun _ _ x => x.elim) hs
  obtain ⟨k, I, fp, Pv, St', rfl, W, st, hI, hlive, hmt, hok, hns, hgo⟩ := q
  have F2 := F.keeps k.kp
  have hIfp : I ∈ fp := W.sub I (by simp)
  have hbI : c.base.get? I = none := kp_none F.kb hI
  refine codeAny_of_tree ?_
  show wpAny _ c.A ((forTurn target (.ref I) body orelse c.env).onRaise (fun x => do noteFrame x c.env; theTreesLotGoes x)) _ _ s2
  refine wpAny_noted ?_
  simp only [forTurn]
  refine wpAny_bind (wpAny_standAt (wpAny_bind (wpAny_onRaise (W.item 0 s2 _ _ (by simp) st fun v h' tk hP st' hk => ?_))))
  have hk' : ∀ b ob, b ≠ I → s2.heap.get? b = some ob → h'.get? b = some ob := fun b ob hb e => hk b ob (by simpa using hb) e
  obtain ⟨F1, tr1⟩ := F2.butI hk' (hmt I hIfp) hbI (hns 0 _ st)
  refine wpAny_bind (wpAny_mono (hgo 1 { s2 with heap := h', toks := tk } v (fun _ s' => s' = { s2 with heap := h', toks := tk }) st' rfl) (fun _ s3 e => ?_) fun _ _ x => x.elim)
  subst e
  refine wpAny_bind (wpAny_mono (has { s2 with heap := h', toks := tk } v (fun _ s' => Sa { s2 with heap := h', toks := tk } s' ∧ FR c σ s'.heap ρ₀) F1 (tr1 _ _ (hok 0 v hP d0 rfl)) fun s' a b k => ⟨a, b⟩) (fun _ s4 q => ?_) fun _ _ x => x.elim)
  obtain ⟨a4, F4⟩ := q
  refine wpAny_bind (wpAny_mono (hb s4 F4) (fun fl s5 q => q.elim) fun x s5 q => ?_)
  obtain ⟨e, dx, rfl, a5, hdx, u5, X5⟩ := q
  refine b.noteA rfl X5 fun h6 x6 u6 => checkedX (s := { s5 with heap := h6 }) x6 fun h7 x7 u7 => ?_
  exact ⟨e, dx, rfl, (((k.sa.trans ⟨h', tk, rfl⟩).trans a4).trans a5).trans ⟨h7, s5.toks, rfl⟩, hdx, (u5.trans u6).trans u7, x7.own⟩

/-- caught at last: except .. as caught: return caught.kind -/
theorem try_kind (b : Bk B l L c) (gd : Gd c.toWd) (kx : Kx c.toWd) (hL : c.env.locals = L) {n : Str} {ps np p1 p2 p3 hp pos : Pos} {value : Expr} {rest : List Stmt} (h : Rz c σ ρ B l (eval value c.env)) {s : Shared} (F : FR c σ s.heap ρ)
    (hl : c.env.kindOf n = some .local := by rfl) (hcf : c.env.kindOf "CasFail" = some .globalImplicit := by rfl) (hd : (n == ("__debug__" : Str)) = false := by decide +kernel)
    (hi : interactive c.env = false := by rfl) (hs : swapsWith value none ps.line c.env = pure false := by rfl) :
    wpAny (model P c.w) c.A (exec (.Try (.Expr value ps :: rest) [.ExceptHandler (some (.Name "CasFail" np)) (some n) [.Return (some (.Attribute (.Name n p1) "kind" p2)) p3] hp] [] [] pos) c.env)
      (fun fl s' => ∃ t, fl = .ret (.str "domain" t) ∧ Sa s s' ∧ c.base.UpToSlots s'.heap ∧ B.StaysIn s'.heap) No s := by
  have hhp : (c.env.scope.kind == .class || (c.env.scope.kind == .module && c.env.locals != c.env.globals)) = false := by rw [F.ek]; rfl
  have hBl : B.get? c.env.locals = none := by
    obtain ⟨fe, outer, rfl, hfe⟩ := b.hd
    obtain ⟨_, ⟨L', o, hf, hn', _⟩, _⟩ := (b.lo _ _ _ F).1
    rw [hL]; rw [hfe] at hf; cases hf; exact hn'
  refine wpAny_Try_except (wpAny_execs_cons (wpAny_Expr (wpAny_mono (h s F) (fun _ _ z => z.elim) fun y s1 r =>
    caught (RZ := False) (G := fun f s₅ => ∃ e dx t, f = .ret (.str "domain" t) ∧ Sa s s₅ ∧ Hs c B l e dx s₅.heap) b gd kx F hL hl hcf (fun e dx s₄ m a H hn hv => ?_) (fun f s₅ z => ?_) (fun z => z.elim) r) hi hs))
  · exact wpAny_execs_cons (wpAny_Return_some (kind_held b.gB kx F.ek hl hd H hn hv fun t tk => ⟨e, dx, t, rfl, a.trans ⟨s₄.heap, tk, rfl⟩, H⟩))
  · obtain ⟨e, dx, t, rfl, a, H⟩ := z
    obtain ⟨m, hn⟩ := H.n
    refine wpAny_nameGoes hl hn hhp fun h' m' hn' hs' => ?_
    have H' := H.own F.bl hBl hs' hn'
    exact ⟨t, rfl, a.trans ⟨h', _, rfl⟩, H'.u, H'.x.st⟩
end
end Mine
end

section
open PySem PySem.W PySem.Calls PyProof.Rows
set_option Elab.async false
set_option maxRecDepth 100000
set_option linter.unusedVariables false
set_option linter.unusedSimpArgs false
set_option maxHeartbeats 4000000
noncomputable section
namespace Mine

def bS (i j : Nat) : S := match nth (bodyOf i) j with
  | some s => s
  | .none => .oth (.Pass ⟨0, 0, 0, 0⟩)
def aOf : S → List S
  | .ite _ a _ _ => a
  | _ => []
def pOf : S → Pos
  | .ite _ _ _ p => p
  | .ret _ p => p
  | .asg _ _ p => p
  | .asc _ _ p => p
  | _ => ⟨0, 0, 0, 0⟩
def xOf : S → Vn
  | .asg x _ _ => x
  | .asc x _ _ => x
  | _ => ⟨"", 0, ⟨0, 0, 0, 0⟩⟩
/-- the expression of a statement, whole -/
def wOf : S → E
  | .asg _ e _ => e
  | .asc _ e _ => e
  | .ret e _ => e
  | .ite e _ _ _ => e
  | .exp e _ => e
  | _ => .cn 0 ⟨0, 0, 0, 0⟩
def isTb : Option Bool → Bool
  | some true => true
  | _ => false

section
variable {W : Wd} {cf : Cf} {K : Nat} {c : Cx} {nms : List Str} {ns : List (Str × NameKind)} {σ : Sg} {ρ : List B} {R : Rh} {B₀ : Heap} {l : List Env} {L : Addr} {rest : List Stmt}

theorem rz_step_f (gd : Gd W) (hcf : Calls W cf K) (hW : c.toWd = W) (hr : Rm c.A K) (O : FrOk c nms ns) {s : S} {a : List S} {p : Pos} (hs : s = .ite (eOf s) a [] p) (hc : chkS nms ns s = true) (Lr : Rel nms ρ σ R) (hv : isF ((ct (eOf s)).run cf ρ) = true)
    (h : Rzs c σ R B₀ l rest) : Rzs c σ R B₀ l (denS s :: rest) := by
  have e : (ct (eOf s)).run cf ρ = some false := by
    unfold isF at hv
    split at hv
    · rename_i e; exact e
    · cases hv
  rw [hs] at hc ⊢
  simp only [chkS, Bool.and_eq_true] at hc
  exact rzs_cons (ex_if_pass ((snd_e gd hcf (eOf s) c nms ns σ ρ R hW hr hc.1.1 O.toEnvOk Lr).tt false e)) h
theorem rz_step_t (gd : Gd W) (hcf : Calls W cf K) (hW : c.toWd = W) (hr : Rm c.A K) (O : FrOk c nms ns) {s : S} {a : List S} {p : Pos} (hs : s = .ite (eOf s) a [] p) (hc : chkS nms ns s = true) (Lr : Rel nms ρ σ R) (hv : isTb ((ct (eOf s)).run cf ρ) = true)
    (h : Rzs c σ R B₀ l (denSs a)) : Rzs c σ R B₀ l (denS s :: rest) := by
  have e : (ct (eOf s)).run cf ρ = some true := by
    unfold isTb at hv
    split at hv
    · rename_i e; exact e
    · cases hv
  rw [hs] at hc ⊢
  simp only [chkS, Bool.and_eq_true] at hc
  exact rzs_here (rz1_if_t ((snd_e gd hcf (eOf s) c nms ns σ ρ R hW hr hc.1.1 O.toEnvOk Lr).tt true e) h)

/-- a call whose callee raises -/
theorem rze_call (gd : Gd W) (hcf : Calls W cf K) (hW : c.toWd = W) {K' : Nat} (hr : Rm c.A K) (hr' : Rm c.A K') (b : Bk B₀ l L c) (O : EnvOk c ns) (Lr : Rel nms ρ σ R) {x : Str} {f i : Nat} {q p : Pos} {a : E} {r : List E} {vs : List V} (hc : chk nms ns (.fc x f q (a :: r) p) = true) (hi : nth funs f = some i)
    (F : FnR W (fN (st i)) K' (dVs vs)) (h1 : mapC cf ρ (ces (a :: r)) = some vs) : Rz c σ R B₀ l (eval (den (.fc x f q (a :: r) p)) c.env) := by
  simp only [chk, gname, Bool.and_eq_true, Bool.not_eq_true'] at hc
  have e := fNames_nth funs f x i (eqS_of hc.1.1.1) hi
  subst hW
  have hcs := hc.1.2
  rw [chks, Bool.and_eq_true] at hcs
  have ts := ts_map (pos := p) (fun e _ => snd_e gd hcf e) rfl hr hc.1.2 O Lr h1
  rw [dens] at ts
  rw [den, dens]
  rw [← e] at F
  exact rz_fn b F hr' ts (ns_glob O hc.1.1.2.1) hc.1.1.2.2 rfl (star_den hcs.1)

/-- a call whose first argument raises -/
theorem rze_arg0 (gd : Gd W) (hW : c.toWd = W) (O : EnvOk c ns) {x : Str} {f i : Nat} {q p : Pos} {a : E} {r : List E} (hc : chk nms ns (.fc x f q (a :: r) p) = true) (hi : nth funs f = some i)
    (h : Rz c σ R B₀ l (eval (den a) c.env)) : Rz c σ R B₀ l (eval (den (.fc x f q (a :: r) p)) c.env) := by
  simp only [chk, gname, Bool.and_eq_true, Bool.not_eq_true'] at hc
  have e := fNames_nth funs f x i (eqS_of hc.1.1.1) hi
  subst hW
  have hcs := hc.1.2
  rw [chks, Bool.and_eq_true] at hcs
  obtain ⟨fa, cd, X⟩ := gd.fd i (nth_mem hi)
  obtain ⟨o, pm, doc, ho, hd⟩ := X.ob
  rw [den, dens]
  have hm : c.mg x = some (.ref fa) := by rw [e]; exact X.mg
  exact rz_arg hm hd (rz_args_here h (star_den hcs.1)) (ns_glob O hc.1.1.2.1) hc.1.1.2.2 rfl (star_den hcs.1)

/-- a call whose second argument raises -/
theorem rze_arg1 (gd : Gd W) (hcf : Calls W cf K) (hW : c.toWd = W) (hr : Rm c.A K) (O : EnvOk c ns) (Lr : Rel nms ρ σ R) {x : Str} {f i : Nat} {q p : Pos} {a a2 : E} {r : List E} {v : V} (hc : chk nms ns (.fc x f q (a :: a2 :: r) p) = true) (hi : nth funs f = some i)
    (hv : (ce a).run cf ρ = some v) (h : Rz c σ R B₀ l (eval (den a2) c.env)) : Rz c σ R B₀ l (eval (den (.fc x f q (a :: a2 :: r) p)) c.env) := by
  simp only [chk, gname, Bool.and_eq_true, Bool.not_eq_true'] at hc
  have e := fNames_nth funs f x i (eqS_of hc.1.1.1) hi
  subst hW
  have hcs := hc.1.2
  rw [chks, Bool.and_eq_true, chks, Bool.and_eq_true] at hcs
  obtain ⟨fa, cd, X⟩ := gd.fd i (nth_mem hi)
  obtain ⟨o, pm, doc, ho, hd⟩ := X.ob
  rw [den, dens, dens]
  have hm : c.mg x = some (.ref fa) := by rw [e]; exact X.mg
  exact rz_arg hm hd (rz_args_next ((snd_e gd hcf a c nms ns σ ρ R rfl hr hcs.1 O Lr).tv v hv) (rz_args_here h (star_den hcs.2.1)) (star_den hcs.1)) (ns_glob O hc.1.1.2.1) hc.1.1.2.2 rfl (star_den hcs.1)

/-- a comprehension whose element raises behind the first few -/
theorem rz_step_comp (gd : Gd W) (hcf : Calls W cf K) (hW : c.toWd = W) (hr : Rm c.A K) (bk : Bk B₀ l L c) (O : FrOk c nms ns) {s : S} {x : Vn} {el : E} {y : Str} {q : Pos} {it : E} {sc : Scope} {caps : List (Str × Nat)} {pp p : Pos} (hs : s = .asc x (.comp el y q it sc caps pp) p) (hc : chkS nms ns s = true) (Lr : Rel nms ρ σ R)
    {ds outs : List V} {d : V} (hit : (cr it).run cf ρ = some ds) (hpre : ∀ (j : Nat) (d' o : V), ds[j]? = some d' → outs[j]? = some o → (ce el).run cf (.va d' :: lks ρ caps) = some o) (hd : ds[outs.length]? = some d) (hlen : outs.length ≤ Bd)
    (hbad : ∀ (c' : Cx) (σ' : Sg) (R' : Rh), c'.toWd = W → Rm c'.A K → c'.A = c.A → Bk B₀ l L c' → EnvOk c' sc.names → chk (y :: caps.map (·.1)) sc.names el = true → Rel (y :: caps.map (·.1)) (.va d :: lks ρ caps) σ' R' → Rz c' σ' R' B₀ l (eval (den el) c'.env)) :
    Rzs c σ R B₀ l (denS s :: rest) := by
  rw [hs] at hc ⊢
  simp only [chkS, Bool.and_eq_true] at hc
  have hc2 := hc.2
  simp only [Bool.and_eq_true, Bool.not_eq_true', decide_eq_true_eq, eqK] at hc2
  have hcc := hc.1.2
  simp only [chk, Bool.and_eq_true, List.all_eq_true, decide_eq_true_eq] at hcc
  obtain ⟨⟨⟨⟨h1, h2⟩, h3⟩, h4⟩, h5⟩ := hcc
  have KK := compOk_of h3
  have hfree : ∀ p ∈ sc.names, p.2 = .free → (c.env.cells.lookup p.1).isSome = true := fun p hp hf => by
    have := h5 p hp
    simp only [Bool.or_eq_true, Bool.not_eq_true', decide_eq_false_iff_not, eqK, decide_eq_true_eq] at this
    rcases this with (h | h) | h
    · exact absurd hf h
    · exact O.cl _ (.inl h)
    · exact O.cl _ (.inr h)
  have hR : ∀ y d, (capR ρ caps).lookup y = some d → R.lookup y = some d ∧ (y, .free) ∈ sc.names ∧ c.env.kindOf y ≠ some .local := fun y d hy => by
    obtain ⟨p, hp, rfl, w, hw, rfl⟩ := capR_mem hy
    have hp4 := h4 p hp
    refine ⟨Lr.va p.2 p.1 w (eqS_of hp4.1) hw, hp4.2, ?_⟩
    have := h5 _ hp4.2
    simp only [Bool.or_eq_true, Bool.not_eq_true', decide_eq_false_iff_not, eqK, decide_eq_true_eq] at this
    rcases this with (h | h) | h
    · exact (h trivial).elim
    · obtain ⟨k', a1, a2, _⟩ := O.kd _ _ h
      rw [a1, a2 (by decide)]; decide
    · obtain ⟨k', a1, _, a3⟩ := O.kd _ _ h
      rw [a1]
      rcases a3 rfl with rfl | rfl <;> decide
  have O' : ∀ (base : Heap) (C : Addr), EnvOk (inC c σ sc base C) sc.names := fun base C => ⟨fun y k hy => relabel_lookup (env := c.env) hy, fun y hy => by
    show ((clo c.env.cells sc.names []).lookup y).isSome = true
    rcases hy with hy | hy
    · exact absurd rfl (KK.nocell _ (mem_of_lookup hy))
    · rw [clo_mem KK.nd (mem_of_lookup hy)]; rfl⟩
  have L' : ∀ (d' : V) (D₀ : Addr) (ao : List D), Rel (y :: caps.map (·.1)) (.va d' :: lks ρ caps) [(D₀, ao)] ((y, dV d') :: capR ρ caps) := fun d' D₀ ao => by
    refine ⟨fun i y' w hy hw => ?_, ⟨fun _ => 0, fun i y l hy hw => ?_, fun i j l m hi hj => ?_⟩⟩
    · cases i with
      | zero => cases hy; cases hw; simp
      | succ i =>
        obtain ⟨p, hp, rfl, hw'⟩ := lks_nth (caps := caps) (i := i) hy hw
        obtain ⟨d, hd⟩ := capR_some hp hw'
        have hp4 := h4 p hp
        have e5 := (hR _ _ hd).1
        rw [Lr.va p.2 p.1 w (eqS_of hp4.1) hw'] at e5
        cases e5
        rw [lookup_put, if_neg (fun q => by
          have := mem_lookup_nodup KK.nd hp4.2
          rw [q, KK.x] at this; cases this)]
        exact hd
    · cases i with
      | zero => cases hw
      | succ i => exact absurd hw lks_ow
    · cases i with
      | zero => cases hi
      | succ i => exact absurd hi lks_ow
  have hsw : swapsWith (.ListComp (den el) [⟨.Name y q, den it, [], 0⟩] sc pp) (some (.Name x.x x.p)) p.line c.env = pure true := by
    have e0 : swapsWith (.ListComp (den el) [⟨.Name y q, den it, [], 0⟩] sc pp) (some (.Name x.x x.p)) p.line c.env =
      pure (c.env.blockKind == .function && c.env.kindOf x.x == some .local && x.p.line == pp.line && !(sc.names.any fun y => y.1 == x.x && (y.2 == .local || y.2 == .cell))) := rfl
    rw [e0]
    have hb : c.env.blockKind = .function := by unfold Env.blockKind; rw [O.fk]; rfl
    rw [hb, O.nm, hc2.1.1, hc2.1.2, hc2.2]
    simp
  refine rzs_here (rz1_comp (outs := dVs outs) (bad := dV d) (ds := dVs ds) (Rin := capR ρ caps) bk KK hfree hR ?_ (by rw [dVs_len]; exact hlen) ((snd_e gd hcf it c nms ns σ ρ R hW hr h1 O.toEnvOk Lr).sr ds hit y q) (fun base C D₀ j d₁ o ao hd₁ ho => ?_) (fun base C D₀ ao bk' => ?_) hsw (fun v => fold_den h1))
  · rw [dVs_len, dVs_map, List.getElem?_map, hd]; rfl
  · rw [dVs_map, List.getElem?_map, Option.map_eq_some_iff] at hd₁ ho
    obtain ⟨d', hd', rfl⟩ := hd₁
    obtain ⟨o', ho', rfl⟩ := ho
    exact (snd_e gd hcf el (inC c σ sc base C) _ sc.names _ _ _ hW hr h2 (O' base C) (L' d' D₀ ao)).tv _ (hpre j d' o' hd' ho')
  · exact hbad (inC c σ sc base C) _ _ hW hr rfl bk' (O' base C) h2 (L' d D₀ ao)

/-- a def that raises upon given data -/
theorem fnr_run (gd : Gd W) {i : Nat} (hi : i ∈ funs) (X : FOk i) {args : List V} (hb : Nat.beq args.length (fP (st i)).args.length = true)
    (h : ∀ (A : Around) (base : Heap) (M0 : Addr → Prop) (La a : Addr) (cd : Value) (B₀ : Heap) (l : List Env), Rm A K → Bk B₀ l La ⟨W, A, base, M0, envOfC (fN (st i)) (fS (st i)) La a cd⟩ → FrOk ⟨W, A, base, M0, envOfC (fN (st i)) (fS (st i)) La a cd⟩ (nmsOf i) (fS (st i)).names →
      Rel (nmsOf i) (vas args (nmsOf i).length) [] ((prm i).zip (dVs args)) → Rzs ⟨W, A, base, M0, envOfC (fN (st i)) (fS (st i)) La a cd⟩ [] ((prm i).zip (dVs args)) B₀ l (denSs (bodyOf i))) :
    FnR W (fN (st i)) (K + 1) (dVs args) := by
  obtain ⟨a, cd, F⟩ := gd.fd i hi
  have hg := X.good
  simp only [goodF, Bool.and_eq_true, decide_eq_true_eq, Bool.not_eq_true'] at hg
  obtain ⟨⟨⟨⟨⟨⟨⟨h1, h2⟩, h3⟩, h4⟩, h5⟩, h6⟩, h7⟩, h8⟩ := hg
  have hl : (prm i).length = args.length := by rw [prm, List.length_map]; exact (Nat.eq_of_beq_eq_true hb).symm
  have hpn : (prm i).Nodup := by rw [← h3]; exact h2.take
  refine fnr_of gd F (nms := prm i) (X.bind cd) (by rw [dVs_len]; exact hl) hpn (fun n x hx => ?_) (fun A base M0 La B₀ l hr bk => ?_) h6 h7 h8
  · have := List.all_eq_true.mp h4 x hx
    simp only [Bool.or_eq_true, eqK, decide_eq_true_eq] at this
    rcases this with e | e
    · exact .inl e
    · exact .inr ⟨e, cells_in (mem_of_lookup e)⟩
  · have O : FrOk ⟨W, A, base, M0, envOfC (fN (st i)) (fS (st i)) La a cd⟩ (nmsOf i) (fS (st i)).names := {
      kd := fun x k hx => ⟨k, hx, fun _ => rfl, fun e => .inr e⟩
      cl := fun x hx => by
        rcases hx with e | e
        · exact cells_in (mem_of_lookup e)
        · have := List.all_eq_true.mp h5 _ (mem_of_lookup e)
          simp at this
      fk := h8
      fn := rfl
      nm := fun x => rfl
      nd := h2 }
    have := h A base M0 La a cd B₀ l hr bk O (rel0 h2 (prm i) args _ hl h3)
    rw [X.den] at this
    exact this
end
end Mine
end
end

section
open PySem PySem.W PySem.Calls PyProof.Rows
set_option Elab.async false
set_option maxRecDepth 100000
set_option linter.unusedVariables false
set_option linter.unusedSimpArgs false
set_option maxHeartbeats 4000000
noncomputable section
namespace Mine

abbrev cf3 : Cf := callF 3
def letV : V := .tup [.str 13, .tup [.int 0, .lst [qv 0 1, qv 1 1]]]
def fcX : E → Str
  | .fc x _ _ _ _ => x
  | _ => ""
def fcF : E → Nat
  | .fc _ f _ _ _ => f
  | _ => 0
def fcQ : E → Pos
  | .fc _ _ q _ _ => q
  | _ => ⟨0, 0, 0, 0⟩
def fcL : E → List E
  | .fc _ _ _ l _ => l
  | _ => []
def fcP : E → Pos
  | .fc _ _ _ _ p => p
  | .comp _ _ _ _ _ _ p => p
  | _ => ⟨0, 0, 0, 0⟩
def hdE : List E → E
  | a :: _ => a
  | [] => .cn 0 ⟨0, 0, 0, 0⟩
def tlE : List E → List E
  | _ :: r => r
  | [] => []
def cmE : E → E
  | .comp e _ _ _ _ _ _ => e
  | e => e
def cmY : E → Str
  | .comp _ y _ _ _ _ _ => y
  | _ => ""
def cmQ : E → Pos
  | .comp _ _ q _ _ _ _ => q
  | _ => ⟨0, 0, 0, 0⟩
def cmI : E → E
  | .comp _ _ _ it _ _ _ => it
  | e => e
def cmS : E → Scope
  | .comp _ _ _ _ sc _ _ => sc
  | _ => default
def cmC : E → List (Str × Nat)
  | .comp _ _ _ _ _ caps _ => caps
  | _ => []
def hdS : List S → S
  | s :: _ => s
  | [] => .oth (.Pass ⟨0, 0, 0, 0⟩)

/-- a test of of_term, of of_power -/
def tT (j : Nat) (t : V) : Option Bool := (ct (eOf (bS 55 j))).run cf3 (vas [t, .int 2, letV] (nmsOf 55).length)
def pT (j : Nat) (b e : V) : Option Bool := (ct (eOf (bS 53 j))).run cf3 (vas [b, e, .int 2, letV] (nmsOf 53).length)
def symT (t : V) : Option Bool := (ct (eOf (hdS (aOf (bS 55 1))))).run cf3 (vas [t, .int 2, letV] (nmsOf 55).length)

def rzItems (f : V → Bool) : List V → Bool
  | [] => false
  | d :: r => bif f d then true else (match callF 3 40 [d, .int 2, letV] with
    | some _ => rzItems f r
    | .none => false)
def symB : V → Bool
  | .tup [.str 1, .str y] => Nat.blt y 18
  | _ => false
def powB (f : V → Bool) : V → Bool
  | .tup [_, b, e] => isF (pT 0 b e) && isF (pT 1 b e) && f b
  | _ => false
def callB (f : V → Bool) : V → Bool
  | .tup [_, _, .tup [a]] => f a
  | _ => false
abbrev w6 : E := wOf (bS 55 6)
abbrev rhoT (t : V) : List B := vas [t, .int 2, letV] (nmsOf 55).length
def seqB (f : V → Bool) (t : V) : Bool := match (cr (cmI w6)).run cf3 (rhoT t) with
  | some ds => rzItems f ds && Nat.ble ds.length 16
  | .none => false
/-- of_term raises upon this term, asked for two ratios of x -/
def rzB : Nat → V → Bool
  | 0, _ => false
  | n + 1, t => isF (tT 0 t) && ((symB t && isTb (tT 1 t) && isTb (symT t)) || (isF (tT 1 t) && ((isTb (tT 2 t) && powB (rzB n) t) || (isF (tT 2 t) && isF (tT 3 t) &&
      ((isTb (tT 4 t) && callB (rzB n) t) || (isF (tT 4 t) && isF (tT 5 t) && seqB (rzB n) t))))))

theorem rzItems_in {f : V → Bool} : ∀ {ds : List V}, rzItems f ds = true → ∃ (outs : List V) (d : V), ds[outs.length]? = some d ∧ f d = true ∧ ∀ (j : Nat) (d' o : V), ds[j]? = some d' → outs[j]? = some o → callF 3 40 [d', .int 2, letV] = some o
  | [], h => by cases h
  | d :: r, h => by
    simp only [rzItems] at h
    cases hf : f d with
    | true => exact ⟨[], d, rfl, hf, fun j d' o _ ho => by simp at ho⟩
    | false =>
      rw [hf] at h
      simp only [cond_false] at h
      split at h
      · rename_i v hv
        obtain ⟨outs, d₁, h1, h2, h3⟩ := rzItems_in h
        refine ⟨v :: outs, d₁, by simpa using h1, h2, fun j d' o hd ho => ?_⟩
        cases j with
        | zero => simp at hd ho; subst hd ho; exact hv
        | succ j => simp at hd ho; exact h3 j d' o hd ho
      · cases h

theorem sN_len : ∀ y, y < 18 → (sN y).length ≤ 100 := by decide +kernel

section
variable {W : Wd}

theorem power_rz (gd : Gd W) {k : Nat} (hk : 7 ≤ k) {b e : V} (h0 : isF (pT 0 b e) = true) (h1 : isF (pT 1 b e) = true) (F : FnR W "of_term" k (dVs [b, .int 2, letV])) : FnR W "of_power" (k + 1) (dVs [b, e, .int 2, letV]) := by
  refine fnr_run (i := 53) gd (by decide) fok53 rfl (fun A base M0 La a cd B₀ l hr bk O Lr => ?_)
  have hcf := calls_F gd 3
  have hr7 : Rm A 7 := hr.le hk
  have hb : denSs (bodyOf 53) = [denS (bS 53 0), denS (bS 53 1), denS (bS 53 2), denS (bS 53 3), denS (bS 53 4)] := by rfl
  rw [hb]
  refine rz_step_f gd hcf rfl hr7 O (s := bS 53 0) rfl (by decide +kernel) Lr h0 ?_
  refine rz_step_f gd hcf rfl hr7 O (s := bS 53 1) rfl (by decide +kernel) Lr h1 ?_
  have hs : bS 53 2 = .asg (xOf (bS 53 2)) (.fc (fcX (wOf (bS 53 2))) (fcF (wOf (bS 53 2))) (fcQ (wOf (bS 53 2))) (hdE (fcL (wOf (bS 53 2))) :: tlE (fcL (wOf (bS 53 2)))) (fcP (wOf (bS 53 2)))) (pOf (bS 53 2)) := by rfl
  have hc : chkS (nmsOf 53) (fS (st 53)).names (bS 53 2) = true := by decide +kernel
  rw [hs] at hc ⊢
  simp only [chkS, Bool.and_eq_true, Bool.not_eq_true'] at hc
  exact rzs_here (rz1_assign (rze_call gd hcf rfl hr7 hr bk O.toEnvOk Lr hc.1.2 (i := 55) (by decide +kernel) F (by kernel_rfl)) (swF hc.2 hc.1.2))
end
end Mine
end
end

section
open PySem PySem.W PySem.Calls PyProof.Rows
set_option Elab.async false
set_option maxRecDepth 100000
set_option linter.unusedVariables false
set_option linter.unusedSimpArgs false
set_option maxHeartbeats 4000000
noncomputable section
namespace Mine
section
variable {W : Wd}

theorem den55 : denSs (bodyOf 55) = [denS (bS 55 0), denS (bS 55 1), denS (bS 55 2), denS (bS 55 3), denS (bS 55 4), denS (bS 55 5), denS (bS 55 6), denS (bS 55 7), denS (bS 55 8), denS (bS 55 9), denS (bS 55 10)] := by rfl

theorem term_rz (gd : Gd W) (kx : Kx W) : ∀ (n : Nat) (t : V), rzB n t = true → FnR W "of_term" (2 * n + 10) (dVs [t, .int 2, letV])
  | 0, t, h => by cases h
  | n + 1, t, h => by
    have ih := term_rz gd kx n
    refine fnr_run (K := 2 * n + 11) (i := 55) gd (by decide) fok55 rfl (fun A base M0 La a cd B₀ l hr bk O Lr => ?_)
    have hcf := calls_F gd 3
    have hr7 : Rm A 7 := hr.le (by omega)
    rw [den55]
    simp only [rzB, Bool.and_eq_true, Bool.or_eq_true] at h
    obtain ⟨h0, h⟩ := h
    refine rz_step_f gd hcf rfl hr7 O (s := bS 55 0) rfl (by decide +kernel) Lr h0 ?_
    rcases h with ⟨⟨hs, h1⟩, h2⟩ | ⟨h1, h⟩
    · unfold symB at hs
      split at hs
      · rename_i y
        refine rz_step_t gd hcf rfl hr7 O (s := bS 55 1) (a := aOf (bS 55 1)) rfl (by decide +kernel) Lr h1 ?_
        have e1 : denSs (aOf (bS 55 1)) = denS (hdS (aOf (bS 55 1))) :: denSs (aOf (bS 55 1)).tail := by rfl
        rw [e1]
        refine rz_step_t gd hcf rfl hr7 O (s := hdS (aOf (bS 55 1))) (a := aOf (hdS (aOf (bS 55 1)))) rfl (by decide +kernel) Lr h2 ?_
        have e2 : ∃ p1 p2 p3 p4 p5 p6 p7 p8 k1 k2 k3 p9, denSs (aOf (hdS (aOf (bS 55 1)))) = [.Raise (some (.Call (.Name "CasFail" p1) [.Constant (.str "domain") k1 p2, .BinOp (.Constant (.str "another letter: ") k2 p3) .Add (.Subscript (.Name "t" p4) (.Constant (.int 1) k3 p5) p6) p7] [] p8)) none p9] := ⟨_, _, _, _, _, _, _, _, _, _, _, _, by rfl⟩
        obtain ⟨p1, p2, p3, p4, p5, p6, p7, p8, k1, k2, k3, p9, e2⟩ := e2
        rw [e2]
        have hlt := Nat.ble_eq.mp hs
        have hlen : (sN y).length ≤ 100 := sN_len y (by omega)
        have h16 : ("another letter: " : Str).length = 16 := by decide +kernel
        have ht : List.lookup ("t" : Str) ((prm 55).zip (dVs [.tup [.str 1, .str y], .int 2, letV])) = some (.tup [.str (sN 1), .str (sN y)]) := by
          have := Lr.va 0 "t" (.tup [.str 1, .str y]) (by decide +kernel) (by rfl)
          simpa only [dV, dVs] using this
        refine rzs_here (rz1_raise bk kx (hr.le (by omega)) (tx := ("another letter: " : Str) ++ sN y) (by rw [Str.length_append, h16]; omega) (ts_cons tv_str (ts_cons (tv_bin tv_str (tv_sub (tv_name ht) tv_int (op_item_t (by decide) (by decide) rfl rfl)) (op_adds (by rw [h16, sizeLine_eq]; omega))) ts_nil)))
      · cases hs
    · refine rz_step_f gd hcf rfl hr7 O (s := bS 55 1) rfl (by decide +kernel) Lr h1 ?_
      rcases h with ⟨h2, hp⟩ | ⟨⟨h2, h3⟩, h⟩
      · unfold powB at hp
        split at hp
        · rename_i k b e
          simp only [Bool.and_eq_true] at hp
          obtain ⟨⟨hp0, hp1⟩, hb⟩ := hp
          have F := power_rz gd (k := 2 * n + 10) (by omega) hp0 hp1 (ih b hb)
          refine rz_step_t gd hcf rfl hr7 O (s := bS 55 2) (a := aOf (bS 55 2)) rfl (by decide +kernel) Lr h2 ?_
          have e1 : denSs (aOf (bS 55 2)) = [.Return (some (den (.fc (fcX (wOf (hdS (aOf (bS 55 2))))) (fcF (wOf (hdS (aOf (bS 55 2))))) (fcQ (wOf (hdS (aOf (bS 55 2))))) (hdE (fcL (wOf (hdS (aOf (bS 55 2))))) :: tlE (fcL (wOf (hdS (aOf (bS 55 2)))))) (fcP (wOf (hdS (aOf (bS 55 2)))))))) (pOf (hdS (aOf (bS 55 2))))] := by rfl
          rw [e1]
          exact rzs_here (rz1_return (rze_call gd hcf rfl hr7 hr bk O.toEnvOk Lr (by decide +kernel) (i := 53) (by decide +kernel) F (by kernel_rfl)))
        · cases hp
      · refine rz_step_f gd hcf rfl hr7 O (s := bS 55 2) rfl (by decide +kernel) Lr h2 ?_
        refine rz_step_f gd hcf rfl hr7 O (s := bS 55 3) rfl (by decide +kernel) Lr h3 ?_
        rcases h with ⟨h4, hc⟩ | ⟨⟨h4, h5⟩, hq⟩
        · unfold callB at hc
          split at hc
          · rename_i k nm a'
            refine rz_step_t gd hcf rfl hr7 O (s := bS 55 4) (a := aOf (bS 55 4)) rfl (by decide +kernel) Lr h4 ?_
            let r4 : E := wOf (hdS (aOf (bS 55 4)))
            let a4 : E := hdE (tlE (fcL r4))
            have e1 : denSs (aOf (bS 55 4)) = [.Return (some (den (.fc (fcX r4) (fcF r4) (fcQ r4) (hdE (fcL r4) :: .fc (fcX a4) (fcF a4) (fcQ a4) (hdE (fcL a4) :: tlE (fcL a4)) (fcP a4) :: tlE (tlE (fcL r4))) (fcP r4)))) (pOf (hdS (aOf (bS 55 4))))] := by rfl
            rw [e1]
            have hch : chk (nmsOf 55) (fS (st 55)).names (.fc (fcX r4) (fcF r4) (fcQ r4) (hdE (fcL r4) :: .fc (fcX a4) (fcF a4) (fcQ a4) (hdE (fcL a4) :: tlE (fcL a4)) (fcP a4) :: tlE (tlE (fcL r4))) (fcP r4)) = true := by decide +kernel
            have hch2 : chk (nmsOf 55) (fS (st 55)).names (.fc (fcX a4) (fcF a4) (fcQ a4) (hdE (fcL a4) :: tlE (fcL a4)) (fcP a4)) = true := by decide +kernel
            exact rzs_here (rz1_return (rze_arg1 gd hcf rfl hr7 O.toEnvOk Lr hch (i := 51) (by decide +kernel) (v := nm) (by kernel_rfl)
              (rze_call gd hcf rfl hr7 (hr.le (by omega)) bk O.toEnvOk Lr hch2 (i := 55) (by decide +kernel) (ih a' hc) (by kernel_rfl))))
          · cases hc
        · unfold seqB at hq
          split at hq
          · rename_i ds hds
            simp only [Bool.and_eq_true] at hq
            obtain ⟨outs, d, g1, g2, g3⟩ := rzItems_in hq.1
            have hlen := Nat.ble_eq.mp hq.2
            have hol : outs.length < ds.length := (List.getElem?_eq_some_iff.mp g1).1
            refine rz_step_f gd hcf rfl hr7 O (s := bS 55 4) rfl (by decide +kernel) Lr h4 ?_
            refine rz_step_f gd hcf rfl hr7 O (s := bS 55 5) rfl (by decide +kernel) Lr h5 ?_
            let e6 : E := cmE w6
            have hs : bS 55 6 = .asc (xOf (bS 55 6)) (.comp (.fc (fcX e6) (fcF e6) (fcQ e6) (hdE (fcL e6) :: tlE (fcL e6)) (fcP e6)) (cmY w6) (cmQ w6) (cmI w6) (cmS w6) (cmC w6) (fcP w6)) (pOf (bS 55 6)) := by rfl
            refine rz_step_comp gd hcf rfl hr7 bk O hs (by decide +kernel) Lr (ds := ds) (outs := outs) (d := d) hds (fun j d' o hd ho => ?_) g1 (by show outs.length ≤ 4096; omega) (fun c' σ' R' hW' hr' hA' bk' O' hc' Lr' => ?_)
            · exact (show (ce (.fc (fcX e6) (fcF e6) (fcQ e6) (hdE (fcL e6) :: tlE (fcL e6)) (fcP e6))).run cf3 (.va d' :: lks (rhoT t) (cmC w6)) = callF 3 40 [d', .int 2, letV] from by kernel_rfl).trans (g3 j d' o hd ho)
            · exact rze_call gd hcf hW' hr' (hA' ▸ hr.le (by omega)) bk' O' Lr' hc' (i := 55) (by decide +kernel) (ih d g2) (by kernel_rfl)
          · cases hq
end
end Mine
end
end

section
open PySem PySem.W PySem.Calls PyProof.Rows
set_option Elab.async false
set_option maxRecDepth 100000
set_option linter.unusedVariables false
set_option linter.unusedSimpArgs false
set_option maxHeartbeats 4000000
noncomputable section
namespace Mine
section
variable {W : Wd}

theorem laurent_rz (gd : Gd W) (kx : Kx W) {K : Nat} {t : V} (hF : FnR W "of_term" K (dVs [t, .int 2, letV])) : FnR W "laurent_of" (K + 1) (dVs [t, letV, .int 2]) := by
  obtain ⟨f, cd, X⟩ := gd.fd 56 (by decide)
  have hF2 : FnR W "of_term" K [dV t, .int ((if (1 : Int) > 2 then 1 else 2) + 0), dV letV] := hF
  show FnR W "laurent_of" (K + 1) [dV t, dV letV, .int 2]
  refine fnr_of (nms := ["t", "letter", "end"]) gd X (fn_b3 fun _ _ _ _ _ => by rfl) rfl (by decide +kernel) (by intro n; simp; exact ⟨Or.inl rfl, Or.inl rfl, Or.inl rfl⟩) (fun A base M0 La B₀ l hr bk => ?_)
  refine' rzs_here (rz1_for (c := ⟨W, A, base, M0, envOfC (fN (st 56)) (fS (st 56)) La f cd⟩) bk (d0 := .int 0) (ds := [.int 2, .int 4, .int 8, .int 16, .int 32, .int 64]) ?hs ?as ?hb)
  case hs => exact src_tuple (tv_gv gd (by simp [globs])) (by simp [Bd])
  case as => exact as_name (.inl rfl)
  case hb =>
    refine' rzs_here (rz1_try bk gd kx rfl (rz_fn bk hF2 hr ?ha))
    case ha => exact ts_cons (tv_name rfl) (ts_cons (tv_bin (tv_callb (tv_bn gd (by decide +kernel) bb_max) (ts_cons (tv_name rfl) (ts_cons tv_int ts_nil)) cl_max) (tv_name rfl) op_add) (ts_cons (tv_name rfl) ts_nil))

abbrev w7 : E := wOf (bS 57 0)
abbrev a7 : E := hdE (fcL w7)
theorem series_rz (gd : Gd W) {K : Nat} (hK : 7 ≤ K) {t : V} (hF : FnR W "laurent_of" K (dVs [t, letV, .int 2])) : FnR W "series_of" (K + 1) (dVs [t, .str 13, qv 0 1, .int 2]) := by
  refine fnr_run (i := 57) gd (by decide) fok57 rfl (fun A base M0 La a cd B₀ l hr bk O Lr => ?_)
  have hcf := calls_F gd 3
  have hr7 : Rm A 7 := hr.le hK
  have hb : denSs (bodyOf 57) = denS (bS 57 0) :: denSs (bodyOf 57).tail := by rfl
  rw [hb]
  have hs : bS 57 0 = .asg (xOf (bS 57 0)) (.fc (fcX w7) (fcF w7) (fcQ w7) (.fc (fcX a7) (fcF a7) (fcQ a7) (hdE (fcL a7) :: tlE (fcL a7)) (fcP a7) :: tlE (fcL w7)) (fcP w7)) (pOf (bS 57 0)) := by rfl
  have hc : chkS (nmsOf 57) (fS (st 57)).names (bS 57 0) = true := by decide +kernel
  have hc2 : chk (nmsOf 57) (fS (st 57)).names (.fc (fcX a7) (fcF a7) (fcQ a7) (hdE (fcL a7) :: tlE (fcL a7)) (fcP a7)) = true := by decide +kernel
  rw [hs] at hc ⊢
  simp only [chkS, Bool.and_eq_true, Bool.not_eq_true'] at hc
  exact rzs_here (rz1_assign (rze_arg0 gd rfl O.toEnvOk hc.1.2 (i := (nth funs (fcF w7)).getD 0) (by decide +kernel) (rze_call gd hcf rfl hr7 hr bk O.toEnvOk Lr hc2 (i := 56) (by decide +kernel) hF (by kernel_rfl))) (swF hc.2 hc.1.2))

/-- a def of the text that hands back a written text, whatever it does to the frames below -/
def FnW (W : Wd) (name : Str) (k : Nat) (args : List D) (x : Str) : Prop :=
  ∃ f o fd, W.mg name = some (.ref f) ∧ W.g.get? f = some o ∧ o.data = .func fd ∧
    ∀ (A : Around) (M : Addr → Prop) (s : Shared) (vs : List Value) (B : Heap) (l : List Env), Rm A k → A.frames = some l → Kp W.g B → B.StaysIn s.heap → s.heap.FunFrames B l → Kp W.g s.heap →
      (∀ a, M a → W.g.get? a = none ∧ ∃ ob, s.heap.get? a = some ob) → Oks (Fz M s.heap) vs args → wpAny (model P W.w) A (call (.ref f) vs) (fun v s' => (∃ t, v = .str x t) ∧ Sa s s' ∧ B.StaysIn s'.heap) No s

theorem refused_w (gd : Gd W) (kx : Kx W) {K : Nat} {t : V} (hF : FnR W "series_of" K (dVs [t, .str 13, qv 0 1, .int 2])) : FnW W "_law_refused" (K + 1) [dV t] "domain" := by
  obtain ⟨a, cd, X⟩ := gd.fd 72 (by decide)
  obtain ⟨o, pm, doc, ho, hd⟩ := X.ob
  have hF2 : FnR W "series_of" K [dV t, .str "x", .tup [.int 0, .int 1], .int 2] := hF
  refine ⟨a, o, _, X.mg, ho, hd, fun A M s vs B l hr hfr gB hB hf hk hM os => ?_⟩
  have bk := bk_body (M := M) (name := fN (st 72)) (scope := fS (st 72)) (a := a) (cd := cd) hfr gB hB hf rfl
  have hvl : vs.length = (["t"] : List Str).length := by rw [os.length]; rfl
  have hkind : ∀ n, ∀ x ∈ (["t"] : List Str), (fS (st 72)).names.lookup x = some .local ∨ ((fS (st 72)).names.lookup x = some .cell ∧ ((cellsFrom n (fS (st 72)).names []).lookup x).isSome = true) := by intro n; simp; exact Or.inl rfl
  refine wpAny_call (call_cells (by have := hr.dp; omega) (hk _ _ ho) hd (gd.nolimit.keeps hk) (X.code.keeps hk) (fn_b1 (n1 := "t") (fun _ _ _ => by rfl) pm doc vs hvl) (fun x hx => hkind _ x.1 (List.of_mem_zip hx).1) (fun h₁ tk F Y => ?_) rfl rfl rfl)
  have FF := entry_fr gd (A := A) hr.hh hk hM os (by decide +kernel) rfl (hkind _) F Y
  have hts : Ts ⟨W, A.deeper (envOfC (fN (st 72)) (fS (st 72)) s.heap.objs.size a cd), s.heap, M, envOfC (fN (st 72)) (fS (st 72)) s.heap.objs.size a cd⟩ [] ((["t"] : List Str).zip [dV t]) (spliced (backTo ⟨344, 8, 344, 36⟩ (starEach [.Name "t" ⟨344, 18, 344, 19⟩, .Constant (.str "x") 0 ⟨344, 21, 344, 24⟩, .Tuple [.Constant (.int 0) 0 ⟨344, 27, 344, 28⟩, .Constant (.int 1) 0 ⟨344, 30, 344, 31⟩] 0 ⟨344, 26, 344, 32⟩, .Constant (.int 2) 0 ⟨344, 34, 344, 35⟩] (envOfC (fN (st 72)) (fS (st 72)) s.heap.objs.size a cd)))) [dV t, .str "x", .tup [.int 0, .int 1], .int 2] := by
    refine ts_cons (tv_name rfl) (ts_cons tv_str (ts_cons (tv_tuple (ts_cons tv_int (ts_cons tv_int ts_nil))) (ts_cons tv_int ts_nil)))
  refine wpAny_execs_cons (wpAny_mono (try_kind bk gd kx rfl (rz_fn bk hF2 hr.deeper hts) FF) (fun fl s' q => ?_) fun _ _ x => x.elim)
  obtain ⟨u, rfl, ⟨h', tk', rfl⟩, _, st'⟩ := q
  exact ⟨⟨u, rfl⟩, ⟨_, _, rfl⟩, st'⟩

theorem refused (gd : Gd W) (kx : Kx W) {t : V} (h : rzB 7 t = true) : FnW W "_law_refused" 28 [dV t] "domain" :=
  refused_w gd kx (K := 27) ((series_rz gd (K := 25) (by omega) (laurent_rz gd kx (K := 24) (term_rz gd kx 7 t h))).le (by omega))
end
end Mine
end
end

section
open PySem PySem.W PySem.Calls PyProof.Rows
set_option Elab.async false
set_option maxRecDepth 100000
set_option linter.unusedVariables false
set_option linter.unusedSimpArgs false
set_option maxHeartbeats 4000000
noncomputable section
namespace Mine

section
variable {c : Cx} {σ : Sg} {ρ : Rh} {l : List Env} {L : Addr}
/-- return e1 and f(..) == 'domain' -/
theorem ex_last {e1 : Expr} {nm : Str} {p1 p2 p3 p4 p5 p6 : Pos} {kk k : Nat} {e : Expr} {rest : List Expr} {ds : List D} (b : Bk c.base l L c) (h1 : Tv c σ ρ (eval e1 c.env) (.bool true)) (hF : FnW c.toWd nm k ds "domain") (hr : Rm c.A k)
    (ha : Ts c σ ρ (spliced (backTo p2 (starEach (e :: rest) c.env))) ds) (hx : c.env.kindOf nm = some .globalImplicit := by rfl) (hd : (nm == ("__debug__" : Str)) = false := by decide +kernel)
    (he : eval (.Call (.Name nm p1) (e :: rest) [] p2) c.env = (do callWith p2 (← eval (.Name nm p1) c.env) [] (backTo p2 (starEach (e :: rest) c.env)) (backToKw p2 (keywordEach [] c.env))) := by rfl)
    (he' : starEach (e :: rest) c.env = (false, eval e c.env) :: starEach rest c.env := by rfl) :
    Ex1 c σ ρ (.Return (some (.BoolOp .And [e1, .Compare (.Call (.Name nm p1) (e :: rest) [] p2) [.Eq] [.Constant (.str "domain") kk p3] p4] p5)) p6) (.ret (.bool true)) := fun s F => by
  obtain ⟨f, o, fd, g1, g2, g3, g4⟩ := hF
  refine wpAny_Return_some (BoolOp_and (tv_then h1 F fun v s1 k1 F1 o1 => ?_))
  cases o1
  refine wpAny_truthy_bool (BoolOp_one (wpAny_Compare1 (Call_ (tv_then (tv_global hx g1 (.adr _) hd) F1 fun v s2 k2 F2 o2 => ?_) he) rfl))
  cases o2
  refine callWith_def g3 (wpAny_mono (ha s2 F2) (fun vs s3 q => ⟨q.1.kp f o (F2.kgh f o g2), ?_⟩) fun _ _ x => x.elim) he'
  have F3 := F2.keeps q.1.kp
  obtain ⟨x1, x2⟩ := b.lo _ _ _ F3
  refine wpAny_mono (g4 c.A (MM c σ) s3 vs c.base l hr b.fr b.gB x2 x1 F3.kgh (fun a m => ⟨F3.mg a m, F3.live a m⟩) q.2) (fun v s4 z => ?_) fun _ _ x => x
  obtain ⟨⟨t, rfl⟩, a4, st4⟩ := z
  refine Constant_str (eq_str ?_)
  rw [show (("domain" : Str) == ("domain" : Str)) = true by decide +kernel]
  exact ⟨_, rfl, (((k1.sa.trans k2.sa).trans q.1.sa).trans a4).trans ⟨s4.heap, _, rfl⟩, st4, .bool true⟩
end
end Mine
end
end

section
open PySem PySem.W PySem.Calls PyProof.Rows
set_option Elab.async false
set_option maxRecDepth 100000
set_option linter.unusedVariables false
set_option linter.unusedSimpArgs false
set_option maxHeartbeats 4000000
noncomputable section
namespace Mine

def othOk (kd c p : Int) : Bool := match othV kd c p with
  | some ot => rzB 7 ot
  | .none => true

theorem law_tail {W : Wd} (gd : Gd W) (kx : Kx W) {A : Around} (hr : Rm A 28) {base : Heap} {M0 : Addr → Prop} {La f l : Addr} {cd : Value} {σ : Sg} {kd c p k pl le o : Int} {P : Addr}
    (hf : facts kd c p o = true) (hk : k ∈ [-1, 2, -3, (3 : Int)]) (hpl : pl ∈ [1, -3, 3, (-1 : Int)]) (hle : le ∈ [0, 1, 2, (3 : Int)])
    (hoth : othOk kd c p = true) {l' : List Env} (bk : Bk base l' La ⟨W, A, base, M0, envOfC (fN (st 73)) (fS (st 73)) La f cd⟩) :
    Exs ⟨W, A, base, M0, envOfC (fN (st 73)) (fS (st 73)) La f cd⟩ σ (("order", .int o) :: ("k", .int k) :: ("place", .int pl) :: ("less", .int le) :: ("kind", .int kd) :: ("c", .int c) :: ("power", .int p) :: ("pool", .adr (.ref P)) :: [("script", .adr (.ref l))]) ((fB (st 73)).drop 4) (.ret (.bool true)) := by
  have hcf := calls_F gd 24
  have O : FrOk ⟨W, A, base, M0, envOfC (fN (st 73)) (fS (st 73)) La f cd⟩ (nmsOf 73) (fS (st 73)).names := {
    kd := fun x k hx => ⟨k, hx, fun _ => rfl, fun e => .inr e⟩
    cl := fun x hx => by
      rcases hx with e | e
      · exact cells_in (mem_of_lookup e)
      · have h5 : (fS (st 73)).names.all (fun p => !decide (p.2 = .free)) = true := by decide +kernel
        have := List.all_eq_true.mp h5 _ (mem_of_lookup e)
        simp at this
    fk := rfl
    fn := rfl
    nm := fun x => rfl
    nd := by decide +kernel }
  unfold facts at hf
  split at hf
  · rename_i x hx
    split at hf
    · rename_i r hrow
      unfold fact2 at hf
      simp only [Bool.and_eq_true] at hf
      obtain ⟨⟨⟨⟨f1, f2⟩, f3⟩, f4⟩, f5⟩ := hf
      have g1 := allI_mem f1 hle
      have g2 := allI_mem f2 hk
      have g4 := allI_mem f4 hpl
      split at f3
      · rename_i sp hsp
        split at g4
        · rename_i ml hml
          split at f5
          · rename_i ot hot
            have hb : (fB (st 73)).drop 4 = [denS (lawS 4), denS (lawS 5), denS (lawS 6), denS (lawS 7), denS (lawS 8), denS (lawS 9), denS (lawS 10), denS (lawS 11), denS (lawS 12), denS (lawS 13)] := by rfl
            rw [hb]
            refine step_asg gd hcf rfl hr O (s := lawS 4) (x := ⟨"x", 9, _⟩) rfl (by decide +kernel) (ρ := (rr .un .un .un .un .un .un .un .un .un .un .un .un)) (relL_rel (by rw [nms73]; repeat' (first | exact trivial | exact rfl | refine ⟨?_, ?_⟩))) hx ?_
            refine step_asg gd hcf rfl hr O (s := lawS 5) (x := ⟨"row", 10, _⟩) rfl (by decide +kernel) (ρ := (rr (vi kd) (vi c) (vi p) .un .un .un (vi o) (.va x) .un .un .un .un)) (relL_rel (by rw [nms73]; repeat' (first | exact trivial | exact rfl | refine ⟨?_, ?_⟩))) hrow ?_
            refine step_ite gd hcf rfl hr O (s := lawS 6) rfl (by decide +kernel) (ρ := (rr (vi kd) (vi c) (vi p) .un .un (vi le) (vi o) (.va x) (.va r) .un .un .un)) (relL_rel (by rw [nms73]; repeat' (first | exact trivial | exact rfl | refine ⟨?_, ?_⟩))) g1 ?_
            refine step_ite gd hcf rfl hr O (s := lawS 7) rfl (by decide +kernel) (ρ := (rr (vi kd) (vi c) (vi p) (vi k) .un .un (vi o) (.va x) (.va r) .un .un .un)) (relL_rel (by rw [nms73]; repeat' (first | exact trivial | exact rfl | refine ⟨?_, ?_⟩))) g2 ?_
            refine step_asc gd hcf rfl hr O (s := lawS 8) (x := ⟨"spread", 11, _⟩) rfl (by decide +kernel) (ρ := (rr .un .un .un .un .un .un (vi o) .un (.va r) .un .un .un)) (relL_rel (by rw [nms73]; repeat' (first | exact trivial | exact rfl | refine ⟨?_, ?_⟩))) hsp ?_
            refine step_ite gd hcf rfl hr O (s := lawS 9) rfl (by decide +kernel) (ρ := (rr (vi kd) (vi c) (vi p) .un .un .un (vi o) (.va x) .un (.va sp) .un .un)) (relL_rel (by rw [nms73]; repeat' (first | exact trivial | exact rfl | refine ⟨?_, ?_⟩))) f3 ?_
            refine step_asg gd hcf rfl hr O (s := lawS 10) (x := ⟨"moved_leaf", 12, _⟩) rfl (by decide +kernel) (ρ := (rr .un .un .un .un (vi pl) .un .un (.va x) .un .un .un .un)) (relL_rel (by rw [nms73]; repeat' (first | exact trivial | exact rfl | refine ⟨?_, ?_⟩))) hml ?_
            refine step_ite gd hcf rfl hr O (s := lawS 11) rfl (by decide +kernel) (ρ := (rr (vi kd) (vi c) (vi p) .un (vi pl) .un (vi o) .un (.va r) .un (.va ml) .un)) (relL_rel (by rw [nms73]; repeat' (first | exact trivial | exact rfl | refine ⟨?_, ?_⟩))) g4 ?_
            refine step_asg gd hcf rfl hr O (s := lawS 12) (x := ⟨"other", 13, _⟩) rfl (by decide +kernel) (ρ := (rr (vi kd) (vi c) (vi p) .un .un .un .un .un .un .un .un .un)) (relL_rel (by rw [nms73]; repeat' (first | exact trivial | exact rfl | refine ⟨?_, ?_⟩))) hot ?_
            have e5 : endV o r ot = some (.bool true) := by
              unfold isT' at f5
              split at f5
              · rename_i e; exact e
              · cases f5
            have hz : rzB 7 ot = true := by
              unfold othOk at hoth
              rw [hot] at hoth; exact hoth
            refine exs_ret (ex_last (e1 := den (eOf (lawS 13))) bk ?_ (refused gd kx hz) hr (ts_cons (tv_name rfl) ts_nil))
            have hh : dV (.bool true) = .bool true := by rw [dV]
            rw [← hh]
            refine' (snd_e gd hcf (eOf (lawS 13)) ⟨W, A, base, M0, envOfC (fN (st 73)) (fS (st 73)) La f cd⟩ (nmsOf 73) (fS (st 73)).names σ (rr .un .un .un .un .un .un (vi o) .un (.va r) .un .un (.va ot)) _ rfl hr (by decide +kernel) O.toEnvOk ?rel).tv _ e5
            exact relL_rel (by rw [nms73]; repeat' (first | exact trivial | exact rfl | refine ⟨?_, ?_⟩))
          · cases f5
        · cases g4
      · cases f3
    · cases hf
  · cases hf
end Mine
end
end

section
open PySem PySem.W PySem.Calls PyProof.Rows
set_option Elab.async false
set_option maxRecDepth 100000
noncomputable section
namespace Mine

def facts3 (kd c : Int) : Bool := bif facts kd c 1 4 then (bif facts kd c 1 3 then facts kd c (-1) 3 else false) else false
theorem facts3_in {kd c : Int} (h : facts3 kd c = true) : facts kd c 1 4 = true ∧ facts kd c 1 3 = true ∧ facts kd c (-1) 3 = true := by
  unfold facts3 at h
  cases h1 : facts kd c 1 4 with
  | false => rw [h1] at h; cases h
  | true =>
    cases h2 : facts kd c 1 3 with
    | false => rw [h1, h2] at h; cases h
    | true => rw [h1, h2] at h; exact ⟨rfl, rfl, h⟩
theorem fa_0_1 : facts3 0 (1) = true := by decide +kernel
theorem fa_0_m1 : facts3 0 (-1) = true := by decide +kernel
theorem fa_0_2 : facts3 0 (2) = true := by decide +kernel
theorem fa_0_m2 : facts3 0 (-2) = true := by decide +kernel
theorem fa_1_1 : facts3 1 (1) = true := by decide +kernel
theorem fa_1_m1 : facts3 1 (-1) = true := by decide +kernel
theorem fa_1_2 : facts3 1 (2) = true := by decide +kernel
theorem fa_1_m2 : facts3 1 (-2) = true := by decide +kernel
theorem fa_2_1 : facts3 2 (1) = true := by decide +kernel
theorem fa_2_m1 : facts3 2 (-1) = true := by decide +kernel
theorem fa_2_2 : facts3 2 (2) = true := by decide +kernel
theorem fa_2_m2 : facts3 2 (-2) = true := by decide +kernel
theorem fa_3_1 : facts3 3 (1) = true := by decide +kernel
theorem fa_3_m1 : facts3 3 (-1) = true := by decide +kernel
theorem fa_3_2 : facts3 3 (2) = true := by decide +kernel
theorem fa_3_m2 : facts3 3 (-2) = true := by decide +kernel
theorem fa_4_1 : facts3 4 (1) = true := by decide +kernel
theorem fa_4_m1 : facts3 4 (-1) = true := by decide +kernel
theorem fa_4_2 : facts3 4 (2) = true := by decide +kernel
theorem fa_4_m2 : facts3 4 (-2) = true := by decide +kernel
theorem fa_5_1 : facts3 5 (1) = true := by decide +kernel
theorem fa_5_m1 : facts3 5 (-1) = true := by decide +kernel
theorem fa_5_2 : facts3 5 (2) = true := by decide +kernel
theorem fa_5_m2 : facts3 5 (-2) = true := by decide +kernel
theorem oth_all : allI (fun kd => allI (fun c => allI (fun p => othOk kd c p) [1, -1]) [1, -1, 2, -2]) [0, 1, 2, 3, 4, 5] = true := by decide +kernel

theorem facts_of {kd c : Int} (hk : kd ∈ [0, 1, 2, 3, 4, (5 : Int)]) (hc : c ∈ [1, -1, 2, (-2 : Int)]) : facts3 kd c = true := by
  simp only [List.mem_cons, List.not_mem_nil, or_false] at hk hc
  rcases hk with rfl | rfl | rfl | rfl | rfl | rfl
  · rcases hc with rfl | rfl | rfl | rfl
    · exact fa_0_1
    · exact fa_0_m1
    · exact fa_0_2
    · exact fa_0_m2
  · rcases hc with rfl | rfl | rfl | rfl
    · exact fa_1_1
    · exact fa_1_m1
    · exact fa_1_2
    · exact fa_1_m2
  · rcases hc with rfl | rfl | rfl | rfl
    · exact fa_2_1
    · exact fa_2_m1
    · exact fa_2_2
    · exact fa_2_m2
  · rcases hc with rfl | rfl | rfl | rfl
    · exact fa_3_1
    · exact fa_3_m1
    · exact fa_3_2
    · exact fa_3_m2
  · rcases hc with rfl | rfl | rfl | rfl
    · exact fa_4_1
    · exact fa_4_m1
    · exact fa_4_2
    · exact fa_4_m2
  · rcases hc with rfl | rfl | rfl | rfl
    · exact fa_5_1
    · exact fa_5_m1
    · exact fa_5_2
    · exact fa_5_m2

theorem menu_mem {a b e f k : Int} (h0 : 0 ≤ k) (h1 : k < 4) : menu [a, b, e, f] k ∈ [a, b, e, f] := by
  have hc : k = 0 ∨ k = 1 ∨ k = 2 ∨ k = 3 := by omega
  rcases hc with rfl | rfl | rfl | rfl
  · exact .head _
  · exact .tail _ (.head _)
  · exact .tail _ (.tail _ (.head _))
  · exact .tail _ (.tail _ (.tail _ (.head _)))
theorem d0_mem (L : List Int) : d0 L ∈ [0, 1, 2, 3, 4, (5 : Int)] := by
  have h1 := drawP_lo L 0 (n := 6) (by decide)
  have h2 := drawP_hi L 0 (n := 6) (by decide)
  simp only [List.mem_cons, List.not_mem_nil, or_false]
  unfold d0; omega
theorem d1_mem (L : List Int) : d1 L ∈ [1, -1, 2, (-2 : Int)] := menu_mem (drawP_lo L 1 (by decide)) (drawP_hi L 1 (by decide))
theorem d2_mem (L : List Int) : d2 L = 1 ∨ d2 L = -1 := by
  have h1 := drawP_lo L 2 (n := 2) (by decide)
  have h2 := drawP_hi L 2 (n := 2) (by decide)
  unfold d2; omega
theorem d3_mem (L : List Int) : d3 L ∈ [-1, 2, -3, (3 : Int)] := menu_mem (drawP_lo L 3 (by decide)) (drawP_hi L 3 (by decide))
theorem d4_mem (L : List Int) : d4 L ∈ [1, -3, 3, (-1 : Int)] := menu_mem (drawP_lo L 4 (by decide)) (drawP_hi L 4 (by decide))
theorem d5_mem (L : List Int) : d5 L ∈ [0, 1, 2, (3 : Int)] := by
  have h1 := drawP_lo L 5 (n := 4) (by decide)
  have h2 := drawP_hi L 5 (n := 4) (by decide)
  simp only [List.mem_cons, List.not_mem_nil, or_false]
  unfold d5; omega
theorem facts_draw (L : List Int) : facts (d0 L) (d1 L) (d2 L) (d6 L) = true := by
  obtain ⟨f1, f2, f3⟩ := facts3_in (facts_of (d0_mem L) (d1_mem L))
  rcases d2_mem L with h | h
  · have h1 := drawP_lo L 6 (n := 2) (by decide)
    have h2 := drawP_hi L 6 (n := 2) (by decide)
    have e : d6 L = 4 ∨ d6 L = 3 := by unfold d6; rw [if_pos h]; omega
    rw [h]
    rcases e with e | e <;> rw [e]
    · exact f1
    · exact f2
  · have e : d6 L = 3 := by unfold d6; rw [if_neg (by rw [h]; decide)]
    rw [h, e]; exact f3
theorem oth_draw (L : List Int) : othOk (d0 L) (d1 L) (d2 L) = true := by
  have h := allI_mem (allI_mem (allI_mem oth_all (d0_mem L)) (d1_mem L)) (z := d2 L) (by rcases d2_mem L with h | h <;> rw [h] <;> simp)
  exact h
end Mine
end
end

section
open PySem PySem.W PySem.Calls PyProof.Rows
set_option Elab.async false
set_option maxRecDepth 100000
set_option linter.unusedVariables false
noncomputable section
namespace Mine

theorem law_call {W : Wd} (gd : Gd W) (kx : Kx W) {A : Around} {s : Shared} (hg : W.g = s.heap) (hr : Rm A 30) (hfr : A.frames = some []) {l a : Addr} {vs : List Value} {ns : List Int} (hL : s.heap.IsList l vs.toArray) (hlen : vs.length = ns.length) (h63 : ns.length ≤ 63)
    (hI : ∀ (i : Nat) v n, vs[i]? = some v → ns[i]? = some n → ∃ t, v = Value.int n t) (hm : W.mg "law" = some (.ref a)) :
    codeAny (model P W.w) A (.call (.ref a) ⟨[.ref l], []⟩) (fun r s' => r = .ok (.ret (.bool true)) ∧ Sa s s' ∧ Kp s.heap s'.heap) s := by
  obtain ⟨a', cd, X⟩ := gd.fd 73 (by decide)
  obtain ⟨o, pm, doc, ho, hd⟩ := X.ob
  have haa : a' = a := by
    have h1 := X.mg
    rw [show fN (st 73) = "law" from by decide +kernel, hm] at h1
    cases h1; rfl
  subst haa
  have hk : Kp W.g s.heap := fun b o e => hg ▸ e
  have hM : ∀ a, (fun _ : Addr => False) a → W.g.get? a = none ∧ ∃ ob, s.heap.get? a = some ob := fun _ q => q.elim
  have hkind : ∀ n, ∀ x ∈ (["script"] : List Str), (fS (st 73)).names.lookup x = some .local ∨ ((fS (st 73)).names.lookup x = some .cell ∧ ((cellsFrom n (fS (st 73)).names []).lookup x).isSome = true) := by intro n; simp; exact Or.inl rfl
  have os : Oks (Fz (fun _ => False) s.heap) [.ref l] [.adr (.ref l)] := .cons (.adr _) .nil
  have bk := bk_body (W := W) (M := fun _ => False) (s := s) (B := s.heap) (name := fN (st 73)) (scope := fS (st 73)) (a := a') (cd := cd) hfr hk (fun _ _ e => e) trivial rfl
  refine call_cells (by have := hr.dp; omega) (hk _ _ ho) hd (gd.nolimit.keeps hk) (X.code.keeps hk) (fn_b1 (n1 := "script") (fun _ _ _ => by rfl) pm doc [.ref l] rfl) (fun x hx => hkind _ x.1 (List.of_mem_zip hx).1) (fun h₁ tk F Y => ?_) rfl rfl rfl
  have FF := entry_fr gd (A := A) hr.hh hk hM os (by decide +kernel) rfl (hkind _) F Y
  have hr29 : Rm (A.deeper (envOfC (fN (st 73)) (fS (st 73)) s.heap.objs.size a' cd)) 29 := hr.deeper
  have os8 : ∀ φ : Hp, Oks φ (vs.take 8) ((ns.take 8).map D.int) := fun φ => oks_ints (by rw [List.length_take, List.length_take, hlen]) fun i v n h1 h2 => by
    have hi : i < 8 := by
      have := (List.getElem?_eq_some_iff.mp h1).1
      rw [List.length_take] at this; omega
    rw [List.getElem?_take_of_lt hi] at h1 h2
    exact hI i v n h1 h2
  have body := law_pre gd (A := A.deeper (envOfC (fN (st 73)) (fS (st 73)) s.heap.objs.size a' cd)) (hr29.le (by omega)) (base := s.heap) (M0 := fun _ => False) (La := s.heap.objs.size) (f := a') (l := l) (cd := cd) (d := .bool true) hL (by rw [hlen, sizeLine_eq]; omega) os8
    (fun Pp => ⟨law_tail gd kx (hr29.le (by omega)) (facts_draw _) (d3_mem _) (d4_mem _) (d5_mem _) (oth_draw _) bk, law_tail gd kx (hr29.le (by omega)) (facts_draw _) (d3_mem _) (d4_mem _) (d5_mem _) (oth_draw _) bk⟩)
  refine wpAny_mono (body { s with heap := h₁, toks := tk } FF) (fun fl s' q => ?_) fun _ _ x => x.elim
  obtain ⟨v, rfl, ⟨h', tk', rfl⟩, kp, o⟩ := q
  cases o
  exact ⟨rfl, ⟨_, _, rfl⟩, kp⟩
end Mine
end
end

section
open PySem PySem.W PySem.Calls PyProof.Rows
set_option Elab.async false
set_option maxRecDepth 1000000
set_option linter.unusedVariables false
namespace Mine

def isDef : Stmt → Bool
  | .FunctionDef .. => true
  | _ => false
def defIx : List Nat := (List.range 75).filter fun i => isDef (st i)
theorem recs_eq : recsOf qV = defIx.map (fun i => (⟨fN (st i), fP (st i), fB (st i), fS (st i), (st i).pos⟩ : DefRec)) := by kernel_rfl
theorem funs_def : ∀ i ∈ funs, i ∈ defIx := by decide +kernel

theorem strKeys_of {es : Array DictEntry} (h : es.toList.all (fun e => isStrV e.key) = true) : StrKeys es := fun e he => by
  have := List.all_eq_true.mp h e (by simpa using he)
  cases hk : e.key with
  | str n t => exact ⟨n, t, rfl⟩
  | _ => rw [hk] at this; cases this

section
variable {w : World} {h : Heap} {loose : List Str} {mean : ExcName → Option Value} {mg mb : Str → Option Value}

theorem mg_top (T : Top qV loose mean mg mb h) (Y : HF h) : topN.map mg = topV := by
  obtain ⟨o, es, ep, h1, h2, h3, h4⟩ := T.g
  obtain ⟨o', es', ep', g1, g2, g3⟩ := Y.g
  rw [h1] at g1; cases g1
  rw [h2] at g2; cases g2
  rw [← g3]
  exact List.map_congr_left fun x _ => (h4 x).symm
theorem map_at {mg : Str → Option Value} : ∀ {ns : List Str} {vs : List (Option Value)} (i : Nat) (x : Str) (v : Option Value), ns.map mg = vs → ns[i]? = some x → vs[i]? = some v → mg x = v := fun i x v e h1 h2 => by
  rw [← e, List.getElem?_map, h1] at h2
  exact Option.some.inj h2

theorem gd_of (T : Top qV loose mean mg mb h) (Y : HF h) : Gd ⟨w, h, mg, mb⟩ where
  fd := fun i hi => by
    have hm : (⟨fN (st i), fP (st i), fB (st i), fS (st i), (st i).pos⟩ : DefRec) ∈ recsOf qV := by
      rw [recs_eq]; exact List.mem_map_of_mem (f := fun i => (⟨fN (st i), fP (st i), fB (st i), fS (st i), (st i).pos⟩ : DefRec)) (funs_def i hi)
    obtain ⟨a, o, pm, code, doc, h1, h2, h3, h4⟩ := T.fn _ hm
    exact ⟨a, code, h1, ⟨o, pm, doc, h2, h3⟩, h4⟩
  gv := fun p hp => by
    have M := mg_top T Y
    have fz : ∀ {a o}, h.get? a = some o → Fz (fun _ => False) h a o := fun e => ⟨e, fun q => q⟩
    simp only [globs, List.mem_cons, List.not_mem_nil, or_false] at hp
    rcases hp with rfl | rfl | rfl | rfl | rfl
    · exact ⟨.ref 56, map_at 2 _ _ M rfl rfl, .tup (vs := [.int 0 253, .int 1 254]) (n := 0) (fz Y.r0) (by decide) (.cons (.int _ _) (.cons (.int _ _) .nil))⟩
    · exact ⟨.ref 57, map_at 3 _ _ M rfl rfl, .tup (vs := [.int 1 256, .int 1 257]) (n := 0) (fz Y.r1) (by decide) (.cons (.int _ _) (.cons (.int _ _) .nil))⟩
    · exact ⟨.int 200000 259, map_at 4 _ _ M rfl rfl, .int _ _⟩
    · exact ⟨.int 1000 492, map_at 5 _ _ M rfl rfl, .int _ _⟩
    · exact ⟨.ref 284, map_at 6 _ _ M rfl rfl, .tup (vs := [.int 0 557, .int 2 558, .int 4 559, .int 8 560, .int 16 561, .int 32 562, .int 64 563]) (n := 0) (fz Y.mo) (by decide) (.cons (.int _ _) (.cons (.int _ _) (.cons (.int _ _) (.cons (.int _ _) (.cons (.int _ _) (.cons (.int _ _) (.cons (.int _ _) .nil)))))))⟩
  nb := fun x hx => by
    have M := mg_top T Y
    show mg x = none
    simp only [blts, List.mem_cons, List.not_mem_nil, or_false] at hx
    rcases hx with rfl | rfl | rfl | rfl | rfl | rfl | rfl | rfl
    · exact map_at 7 _ _ M rfl rfl
    · exact map_at 8 _ _ M rfl rfl
    · exact map_at 9 _ _ M rfl rfl
    · exact map_at 10 _ _ M rfl rfl
    · exact map_at 11 _ _ M rfl rfl
    · exact map_at 12 _ _ M rfl rfl
    · exact map_at 13 _ _ M rfl rfl
    · exact map_at 14 _ _ M rfl rfl
  nsg := T.g
  nsb := T.b
  nolimit := T.nolimit
  blt := T.builtins

theorem kx_of (T : Top qV loose mean mg mb h) (Y : HF h) : Kx ⟨w, h, mg, mb⟩ where
  gl := map_at 0 _ _ (mg_top T Y) rfl rfl
  ne := map_at 1 _ _ (mg_top T Y) rfl rfl
  cls := ⟨_, _, _, _, _, _, _, _, _, _, _, _, _, Y.c⟩
  ns := by
    obtain ⟨o, es, ep, g1, g2, g3, g4⟩ := Y.n
    obtain ⟨oI, i1, i2, i3⟩ := Y.i
    obtain ⟨ok, vs, k1, k2, k3⟩ := Y.k
    exact ⟨nsFind es, ⟨o, es, ep, g1, g2, strKeys_of g3, fun _ => rfl⟩, map_at 1 _ _ g4 rfl rfl, map_at 2 _ _ g4 rfl rfl, map_at 3 _ _ g4 rfl rfl, map_at 4 _ _ g4 rfl rfl, map_at 5 _ _ g4 rfl rfl,
      28, oI, fd28, map_at 0 _ _ g4 rfl rfl, i1, i2, i3, ⟨27, ok, vs, 202, rfl, k1, k2, k3⟩, rfl, rfl, rfl, rfl, rfl, fun _ _ _ => by rfl⟩
end

theorem ints_get : ∀ {vs : List Value} {ns : List Int}, IntsAre vs ns → ∀ (i : Nat) v n, vs[i]? = some v → ns[i]? = some n → ∃ t, v = Value.int n t
  | _, _, .nil, i, v, n, h, _ => by simp at h
  | _, _, .cons _ _ r, 0, v, n, h, h' => by
    simp at h h'; subst h h'; exact ⟨_, rfl⟩
  | _, _, .cons _ _ r, i + 1, v, n, h, h' => ints_get r i v n (by simpa using h) (by simpa using h')
end Mine
end

open PySem PySem.W PyProof.Rows
set_option Elab.async false
set_option maxRecDepth 100000
set_option maxHeartbeats 8000000
theorem PySem.Challenge.cw_sa0121_01_holds : PySem.Challenge.rw_sa0121_01.Holds := by
  refine holds_law Mine.said_V (fun said => ?_)
  refine PySem.W.holds_open (q := Mine.qV) (loose := []) (Xt := Mine.XtV) (XP := XL Mine.qV []) (Yf := Hook.obs Mine.hkV) (Ya := Hook.val Mine.hkV) (YP := Hook.says Mine.hkV) (N := 4450) ?hl (Hook.of Mine.hkV) (Hook.keeps Mine.hkV) (fun s e => xl_of s (Bool.and_eq_true_iff.mp e).1) XL.keeps (by rfl) (by rfl) (by rfl) (fun s e => recFacts_of (Bool.and_eq_true_iff.mp e).2) (by rfl) (by assumption) (by decide +kernel) ⟨rfl, rfl, rfl, rfl, rfl, by decide +kernel⟩ ?hw ?hc
  case hl => exact Mine.left_V
  case hw => w_witness2
  case hc =>
  intro w s₀ s₁ mg mb G Y fa o pm cd doc dV kV ho hd hcd hD hmg hg args vals as hpre hlay hrd hwl hlo
  refine Ground.open G ?_
  intro T B D TE TW
  wrow_args hpre hlay hrd hwl hlo
  all_goals (
    first | refine callC_kw (enter_call ?_) | refine enter_call ?_ | refine callC_kw (enter_callW ?_) | refine enter_callW ?_ | w_how)
  clear hcd
  have gd := Mine.gd_of (w := w) T Y
  have kx := Mine.kx_of (w := w) T Y
  rename IntsAre _ _ => hI
  rename s₁.heap.IsList _ _ => hL
  have hlen := hI.length
  refine codeAny_mono (Mine.law_call gd kx (A := callerA) rfl ⟨rfl, by decide +kernel, by decide +kernel⟩ rfl hL hI.length (by omega) (Mine.ints_get hI) hmg) fun r s' q => ?_
  obtain ⟨rfl, ⟨h', tk, rfl⟩, kp⟩ := q
  exact ⟨.inl ⟨.bool true, .bool true, [], rfl, fun cls => by rfl, .bool _, by first | kernel_rfl | decide | decide +kernel | (simp; done), fun _ => ⟨List.nodup_nil, fun _ z => nomatch z⟩⟩, .of_keep kp, rfl, .of_eq hg⟩
