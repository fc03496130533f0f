import PyProof.Rows.All
import Wide.All
import OpenK.AllK
import Wide.FinOn
import PyProof.AttrMissHeap
import KE.KDictOf
import PyProof.ZipIter
import PyProof.TupleIter
import KE.KLam
import PyProof.ExcArgsOwn
import PyProof.NsDelKeeps
import KE.KDictSum
import PyProof.EnumMake
import PyProof.Draws
import PyProof.RulesAssignMore
import Lean
import PySem.Challenge.RW_xw0165_01
set_option Elab.async false
set_option maxRecDepth 100000
set_option autoImplicit false
set_option linter.unusedVariables false
set_option linter.unusedSimpArgs false
set_option maxHeartbeats 8000000
set_option genInjectivity false
set_option genSizeOf false
namespace Mine
section
open PySem PySem.W PySem.Calls PyProof.Rows
section
def aRfl : Lean.Syntax := (Lean.Unhygienic.run `(Lean.Parser.Tactic.tacticSeq| rfl)).raw
def aDec : Lean.Syntax := (Lean.Unhygienic.run `(Lean.Parser.Tactic.tacticSeq| decide)).raw
def aDecK : Lean.Syntax := (Lean.Unhygienic.run `(Lean.Parser.Tactic.tacticSeq| decide +kernel)).raw
def aWu : Lean.Syntax := (Lean.Unhygienic.run `(Lean.Parser.Tactic.tacticSeq| with_unfolding_all rfl)).raw
def aIRfl : Lean.Syntax := (Lean.Unhygienic.run `(Lean.Parser.Tactic.tacticSeq| intro _; rfl)).raw
def aIIWu : Lean.Syntax := (Lean.Unhygienic.run `(Lean.Parser.Tactic.tacticSeq| intro _ _; with_unfolding_all rfl)).raw
def aFit : Lean.Syntax := (Lean.Unhygienic.run `(Lean.Parser.Tactic.tacticSeq| size_fits)).raw
theorem bleT {n m : Nat} (h : Nat.ble n m = true) : n ≤ m := Nat.le_of_ble_eq_true h
theorem clash {α : Type} {x : Option α} {a : α} {P : Prop} (h : x = none) (e : x = some a) : P := nomatch h.symm.trans e
inductive PV where
  | none | bool (b : Bool) | int (i : Int) | str (x : Str)
  | tup (l : List PV) | lst (l : List PV) | dct (l : List (Str × PV))
  | ins (C : Addr) (l : List (Str × PV))
  | adr (a : Addr) | ty (n : String) | bi (n : String)
  | src | put (p : PV) | lam (p : PV) | rng (n : Int) | raw (l : List Int)
theorem PV.strE (a b : Str) : (PV.str a = PV.str b) = (a = b) := propext ⟨fun h => by cases h; rfl, congrArg _⟩
theorem PV.intE (a b : Int) : (PV.int a = PV.int b) = (a = b) := propext ⟨fun h => by cases h; rfl, congrArg _⟩
structure CloK where
  name : Str
  qual : Str
  params : Arguments
  body : FuncBody
  scope : Scope
  x : Str
  pos : Pos
  tab : Addr
structure Gx where
  prog : Program
  w : World
  K : Frag
  p : Program
  loose : List Str
  mean : ExcName → Option Value
  mg : Str → Option Value
  mb : Str → Option Value
  gens : Array GenState
  drawn : Drawn
  os : OsState
  S : Option Addr
  M : List Addr
  kput : CloK
  klam : CloK
  flt : Addr
noncomputable def cloFd (k : CloK) (c cd : Addr) (pm ct : Value) : FuncData :=
  { name := k.name, qualname := k.qual, params := k.params, body := k.body, scope := k.scope, globals := mainGlobals, closure := [(k.x, c)], defaults := .none, kwdefaults := .none,
    doc := .none, pyModule := pm, annotations := none, code := .ref cd, closureTuple := ct, builtins := builtinsNs }
noncomputable abbrev tupOf (vs : Array Value) (n : Nat) : Obj := { cls := .type "tuple", data := .seq vs n }
noncomputable abbrev funOf (fd : FuncData) : Obj := { cls := .type "function", data := .func fd }
mutual
inductive VR (G : Gx) (V : Addr → Option Obj) : Value → PV → Prop
  | none : VR G V Value.none PV.none
  | bool (b : Bool) : VR G V (Value.bool b) (PV.bool b)
  | int (i : Int) (t : Tok) : VR G V (Value.int i t) (PV.int i)
  | str (x : Str) (t : Tok) : VR G V (Value.str x t) (PV.str x)
  | ty (n : String) : VR G V (Value.type n) (PV.ty n)
  | bi (n : String) : VR G V (Value.builtin n) (PV.bi n)
  | adr (a : Addr) : VR G V (Value.ref a) (PV.adr a)
  | src {S : Addr} : G.S = some S → VR G V (Value.ref S) PV.src
  | rng {r : Addr} {n : Int} {t u v : Tok} : V r = some { cls := .type "range", data := .fields #[.int 0 t, .int n u, .int 1 v] } → VR G V (Value.ref r) (PV.rng n)
  | raw {a : Addr} {o : Obj} {vs : List Value} {n : Nat} {l : List Int} : V a = some o → o.cls = .type "list" → o.data = .seq vs.toArray n → IntsAre vs l → VR G V (Value.ref a) (PV.raw l)
  | tup {a : Addr} {vs : List Value} {n : Nat} {l : List PV} : V a = some (tupOf vs.toArray n) → VRs G V vs l → VR G V (Value.ref a) (PV.tup l)
  | lst {a : Addr} {vs : List Value} {n : Nat} {l : List PV} : V a = some (listOf vs.toArray n) → VRs G V vs l → VR G V (Value.ref a) (PV.lst l)
  | dct {a : Addr} {es : List DictEntry} {n : Nat} {l : List (Str × PV)} : a ≠ sysModules → V a = some (dictOf es n) → VRd G V es l → VR G V (Value.ref a) (PV.dct l)
  | ins {x dx C : Addr} {o : Obj} {es : List DictEntry} {n : Nat} {l : List (Str × PV)} : V x = some o → o.cls = .ref C → o.dict = some dx → notCls o = true → V dx = some (dictOf es n) → VRd G V es l → VR G V (Value.ref x) (PV.ins C l)
  | put {f c cd : Addr} {pm ct v : Value} {oc ocd : Obj} {cvs : Array Value} {t : Tok} {q : PV} : V f = some (funOf (cloFd G.kput c cd pm ct)) → V c = some oc → oc.data = .cell (some v) →
      V cd = some ocd → ocd.data = .fields cvs → cvs[1]? = some (.str G.kput.qual t) → VR G V v q → VR G V (Value.ref f) (PV.put q)
  | lam {f c cd : Addr} {pm ct v : Value} {oc ocd : Obj} {cvs : Array Value} {t : Tok} {q : PV} : V f = some (funOf (cloFd G.klam c cd pm ct)) → V c = some oc → oc.data = .cell (some v) →
      V cd = some ocd → ocd.data = .fields cvs → cvs[1]? = some (.str G.klam.qual t) → VR G V v q → VR G V (Value.ref f) (PV.lam q)
inductive VRs (G : Gx) (V : Addr → Option Obj) : List Value → List PV → Prop
  | nil : VRs G V [] []
  | cons {v : Value} {vs : List Value} {q : PV} {l : List PV} : VR G V v q → VRs G V vs l → VRs G V (v :: vs) (q :: l)
inductive VRd (G : Gx) (V : Addr → Option Obj) : List DictEntry → List (Str × PV) → Prop
  | nil : VRd G V [] []
  | cons {e : DictEntry} {es : List DictEntry} {x : Str} {t : Tok} {q : PV} {l : List (Str × PV)} : e.key = .str x t → e.hash = PyData.keyHash G.w.params x → VR G V e.val q → VRd G V es l → VRd G V (e :: es) ((x, q) :: l)
end
noncomputable def VLe (V V' : Addr → Option Obj) : Prop := ∀ b o, V b = some o → V' b = some o
theorem VLe.trans {V V' V'' : Addr → Option Obj} (h : VLe V V') (h' : VLe V' V'') : VLe V V'' := fun b o e => h' b o (h b o e)
section
variable {G : Gx} {V : Addr → Option Obj}
noncomputable def VRi (G : Gx) (V : Addr → Option Obj) : PV → Value → Prop
  | .none, v => v = .none
  | .bool b, v => v = .bool b
  | .int i, v => ∃ t, v = .int i t
  | .str x, v => ∃ t, v = .str x t
  | .ty n, v => v = .type n
  | .bi n, v => v = .builtin n
  | .adr a, v => v = .ref a
  | .src, v => ∃ S, G.S = some S ∧ v = .ref S
  | .rng n, v => ∃ r t u w, V r = some { cls := .type "range", data := .fields #[.int 0 t, .int n u, .int 1 w] } ∧ v = .ref r
  | .raw l, v => ∃ a o vs n, V a = some o ∧ o.cls = .type "list" ∧ o.data = .seq (List.toArray vs) n ∧ IntsAre vs l ∧ v = .ref a
  | .tup l, v => ∃ a vs n, V a = some (tupOf (List.toArray vs) n) ∧ VRs G V vs l ∧ v = .ref a
  | .lst l, v => ∃ a vs n, V a = some (listOf (List.toArray vs) n) ∧ VRs G V vs l ∧ v = .ref a
  | .dct l, v => ∃ a es n, a ≠ sysModules ∧ V a = some (dictOf es n) ∧ VRd G V es l ∧ v = .ref a
  | .ins C l, v => ∃ x dx o es n, V x = some o ∧ o.cls = .ref C ∧ o.dict = some dx ∧ notCls o = true ∧ V dx = some (dictOf es n) ∧ VRd G V es l ∧ v = .ref x
  | .put q, v => ∃ f c cd pm ct w oc ocd cvs t, V f = some (funOf (cloFd G.kput c cd pm ct)) ∧ V c = some oc ∧ oc.data = .cell (some w) ∧ V cd = some ocd ∧ ocd.data = .fields cvs ∧ cvs[1]? = some (.str G.kput.qual t) ∧ VR G V w q ∧ v = .ref f
  | .lam q, v => ∃ f c cd pm ct w oc ocd cvs t, V f = some (funOf (cloFd G.klam c cd pm ct)) ∧ V c = some oc ∧ oc.data = .cell (some w) ∧ V cd = some ocd ∧ ocd.data = .fields cvs ∧ cvs[1]? = some (.str G.klam.qual t) ∧ VR G V w q ∧ v = .ref f
theorem VR.inv {v : Value} {q : PV} (r : VR G V v q) : VRi G V q v :=
  r.casesOn rfl (fun _ => rfl) (fun _ t => ⟨t, rfl⟩) (fun _ t => ⟨t, rfl⟩) (fun _ => rfl) (fun _ => rfl) (fun _ => rfl) (fun e => ⟨_, e, rfl⟩) (fun e => ⟨_, _, _, _, e, rfl⟩) (fun e a b d => ⟨_, _, _, _, e, a, b, d, rfl⟩) (fun e r => ⟨_, _, _, e, r, rfl⟩) (fun e r => ⟨_, _, _, e, r, rfl⟩)
    (fun a e r => ⟨_, _, _, a, e, r, rfl⟩) (fun a b d e f r => ⟨_, _, _, _, _, a, b, d, e, f, r, rfl⟩) (fun a b d e f g r => ⟨_, _, _, _, _, _, _, _, _, _, a, b, d, e, f, g, r, rfl⟩) (fun a b d e f g r => ⟨_, _, _, _, _, _, _, _, _, _, a, b, d, e, f, g, r, rfl⟩)
variable {P : Value → Prop} {v : Value}
@[elab_as_elim] theorem VR.ofNone (r : VR G V v .none) (k : P .none) : P v := by obtain rfl := r.inv; exact k
@[elab_as_elim] theorem VR.ofBool {b : Bool} (r : VR G V v (.bool b)) (k : P (.bool b)) : P v := by obtain rfl := r.inv; exact k
@[elab_as_elim] theorem VR.ofInt {i : Int} (r : VR G V v (.int i)) (k : ∀ t, P (.int i t)) : P v := by obtain ⟨t, rfl⟩ := r.inv; exact k t
@[elab_as_elim] theorem VR.ofStr {x : Str} (r : VR G V v (.str x)) (k : ∀ t, P (.str x t)) : P v := by obtain ⟨t, rfl⟩ := r.inv; exact k t
@[elab_as_elim] theorem VR.ofTy {n : String} (r : VR G V v (.ty n)) (k : P (.type n)) : P v := by obtain rfl := r.inv; exact k
@[elab_as_elim] theorem VR.ofBi {n : String} (r : VR G V v (.bi n)) (k : P (.builtin n)) : P v := by obtain rfl := r.inv; exact k
@[elab_as_elim] theorem VR.ofAdr {a : Addr} (r : VR G V v (.adr a)) (k : P (.ref a)) : P v := by obtain rfl := r.inv; exact k
@[elab_as_elim] theorem VR.ofSrc (r : VR G V v .src) (k : ∀ S, G.S = some S → P (.ref S)) : P v := by obtain ⟨S, e, rfl⟩ := r.inv; exact k S e
@[elab_as_elim] theorem VR.ofRng {n : Int} (r : VR G V v (.rng n)) (k : ∀ r t u w, V r = some { cls := .type "range", data := .fields #[.int 0 t, .int n u, .int 1 w] } → P (.ref r)) : P v := by obtain ⟨r1, t, u, w, e, rfl⟩ := r.inv; exact k r1 t u w e
@[elab_as_elim] theorem VR.ofRaw {l : List Int} (r : VR G V v (.raw l)) (k : ∀ a o vs n, V a = some o → o.cls = .type "list" → o.data = .seq (List.toArray vs) n → IntsAre vs l → P (.ref a)) : P v := by obtain ⟨a, o, vs, n, e1, e2, e3, e4, rfl⟩ := r.inv; exact k a o vs n e1 e2 e3 e4
@[elab_as_elim] theorem VR.ofTup {l : List PV} (r : VR G V v (.tup l)) (k : ∀ a vs n, V a = some (tupOf (List.toArray vs) n) → VRs G V vs l → P (.ref a)) : P v := by obtain ⟨a, vs, n, e, r1, rfl⟩ := r.inv; exact k a vs n e r1
@[elab_as_elim] theorem VR.ofLst {l : List PV} (r : VR G V v (.lst l)) (k : ∀ a vs n, V a = some (listOf (List.toArray vs) n) → VRs G V vs l → P (.ref a)) : P v := by obtain ⟨a, vs, n, e, r1, rfl⟩ := r.inv; exact k a vs n e r1
@[elab_as_elim] theorem VR.ofDct {l : List (Str × PV)} (r : VR G V v (.dct l)) (k : ∀ a es n, a ≠ sysModules → V a = some (dictOf es n) → VRd G V es l → P (.ref a)) : P v := by obtain ⟨a, es, n, e1, e2, r1, rfl⟩ := r.inv; exact k a es n e1 e2 r1
@[elab_as_elim] theorem VR.ofIns {C : Addr} {l : List (Str × PV)} (r : VR G V v (.ins C l)) (k : ∀ x dx o es n, V x = some o → o.cls = .ref C → o.dict = some dx → notCls o = true → V dx = some (dictOf es n) → VRd G V es l → P (.ref x)) : P v := by
  obtain ⟨x, dx, o, es, n, e1, e2, e3, e4, e5, r1, rfl⟩ := r.inv; exact k x dx o es n e1 e2 e3 e4 e5 r1
noncomputable def CloV (V : Addr → Option Obj) (k : CloK) (f : Addr) (w : Value) : Prop := ∃ c cd pm ct oc ocd cvs t, V f = some (funOf (cloFd k c cd pm ct)) ∧ V c = some oc ∧ oc.data = .cell (some w) ∧ V cd = some ocd ∧ ocd.data = .fields cvs ∧ cvs[1]? = some (.str k.qual t)
@[elab_as_elim] theorem VR.ofPut {q : PV} (r : VR G V v (.put q)) (k : ∀ f w, CloV V G.kput f w → VR G V w q → P (.ref f)) : P v := by
  obtain ⟨f, c, cd, pm, ct, w, oc, ocd, cvs, t, e1, e2, e3, e4, e5, e6, r1, rfl⟩ := r.inv; exact k f w ⟨c, cd, pm, ct, oc, ocd, cvs, t, e1, e2, e3, e4, e5, e6⟩ r1
@[elab_as_elim] theorem VR.ofLam {q : PV} (r : VR G V v (.lam q)) (k : ∀ f w, CloV V G.klam f w → VR G V w q → P (.ref f)) : P v := by
  obtain ⟨f, c, cd, pm, ct, w, oc, ocd, cvs, t, e1, e2, e3, e4, e5, e6, r1, rfl⟩ := r.inv; exact k f w ⟨c, cd, pm, ct, oc, ocd, cvs, t, e1, e2, e3, e4, e5, e6⟩ r1
theorem VRs.ind {P : List Value → List PV → Prop} (h0 : P [] []) (h1 : ∀ {v q vs l}, VR G V v q → VRs G V vs l → P vs l → P (v :: vs) (q :: l)) {vs : List Value} {l : List PV} (r : VRs G V vs l) : P vs l :=
  VRs.rec (motive_1 := fun _ _ _ => True) (motive_2 := fun vs l _ => P vs l) (motive_3 := fun _ _ _ => True) trivial (fun _ => trivial) (fun _ _ => trivial) (fun _ _ => trivial) (fun _ => trivial) (fun _ => trivial) (fun _ => trivial) (fun _ => trivial) (fun _ => trivial) (fun _ _ _ _ => trivial) (fun _ _ _ => trivial) (fun _ _ _ => trivial)
    (fun _ _ _ _ => trivial) (fun _ _ _ _ _ _ _ => trivial) (fun _ _ _ _ _ _ _ _ => trivial) (fun _ _ _ _ _ _ _ _ => trivial) h0 (fun r rs _ ih => h1 r rs ih) trivial (fun _ _ _ _ _ _ => trivial) r
theorem VRd.ind {P : List DictEntry → List (Str × PV) → Prop} (h0 : P [] []) (h1 : ∀ {e es x t q l}, DictEntry.key e = .str x t → e.hash = PyData.keyHash G.w.params x → VR G V e.val q → VRd G V es l → P es l → P (e :: es) ((x, q) :: l)) {es : List DictEntry} {l : List (Str × PV)} (r : VRd G V es l) : P es l :=
  VRd.rec (motive_1 := fun _ _ _ => True) (motive_2 := fun _ _ _ => True) (motive_3 := fun es l _ => P es l) trivial (fun _ => trivial) (fun _ _ => trivial) (fun _ _ => trivial) (fun _ => trivial) (fun _ => trivial) (fun _ => trivial) (fun _ => trivial) (fun _ => trivial) (fun _ _ _ _ => trivial) (fun _ _ _ => trivial) (fun _ _ _ => trivial)
    (fun _ _ _ _ => trivial) (fun _ _ _ _ _ _ _ => trivial) (fun _ _ _ _ _ _ _ _ => trivial) (fun _ _ _ _ _ _ _ _ => trivial) trivial (fun _ _ _ _ => trivial) h0 (fun a b r rs _ ih => h1 a b r rs ih) r
noncomputable def VRsi (G : Gx) (V : Addr → Option Obj) : List PV → List Value → Prop
  | [], vs => vs = []
  | q :: l, vs => ∃ v ws, VR G V v q ∧ VRs G V ws l ∧ vs = v :: ws
theorem VRs.inv {vs : List Value} {l : List PV} (r : VRs G V vs l) : VRsi G V l vs := r.ind (P := fun vs l => VRsi G V l vs) rfl fun r rs _ => ⟨_, _, r, rs, rfl⟩
@[elab_as_elim] theorem VRs.ofNil {P : List Value → Prop} {vs : List Value} (r : VRs G V vs []) (k : P []) : P vs := by obtain rfl := r.inv; exact k
@[elab_as_elim] theorem VRs.ofCons {P : List Value → Prop} {vs : List Value} {q : PV} {l : List PV} (r : VRs G V vs (q :: l)) (k : ∀ v ws, VR G V v q → VRs G V ws l → P (v :: ws)) : P vs := by obtain ⟨v, ws, a, b, rfl⟩ := r.inv; exact k v ws a b
@[elab_as_elim] theorem VRs.of1 {P : List Value → Prop} {vs : List Value} {q : PV} (r : VRs G V vs [q]) (k : ∀ v, VR G V v q → P [v]) : P vs := r.ofCons fun v ws a b => b.ofNil (P := fun ws => P (v :: ws)) (k v a)
@[elab_as_elim] theorem VRs.of2 {P : List Value → Prop} {vs : List Value} {q q' : PV} (r : VRs G V vs [q, q']) (k : ∀ v w, VR G V v q → VR G V w q' → P [v, w]) : P vs := r.ofCons fun v ws a b => b.of1 (P := fun ws => P (v :: ws)) fun w b => k v w a b
@[elab_as_elim] theorem VRs.of3 {P : List Value → Prop} {vs : List Value} {q q' q2 : PV} (r : VRs G V vs [q, q', q2]) (k : ∀ v w u, VR G V v q → VR G V w q' → VR G V u q2 → P [v, w, u]) : P vs := r.ofCons fun v ws a b => b.of2 (P := fun ws => P (v :: ws)) fun w u b d => k v w u a b d
end
theorem VR.mono {G : Gx} {V V' : Addr → Option Obj} (h : VLe V V') {v : Value} {q : PV} (r : VR G V v q) : VR G V' v q :=
  VR.rec (motive_1 := fun v q _ => VR G V' v q) (motive_2 := fun vs l _ => VRs G V' vs l) (motive_3 := fun es l _ => VRd G V' es l) .none .bool .int .str .ty .bi .adr .src (fun e => .rng (h _ _ e)) (fun e e1 e2 e3 => .raw (h _ _ e) e1 e2 e3) (fun e _ r => .tup (h _ _ e) r) (fun e _ r => .lst (h _ _ e) r)
    (fun ne e _ r => .dct ne (h _ _ e) r) (fun e e1 e2 e3 e' _ r => .ins (h _ _ e) e1 e2 e3 (h _ _ e') r) (fun e1 e2 e3 e4 e5 e6 _ r => .put (h _ _ e1) (h _ _ e2) e3 (h _ _ e4) e5 e6 r) (fun e1 e2 e3 e4 e5 e6 _ r => .lam (h _ _ e1) (h _ _ e2) e3 (h _ _ e4) e5 e6 r)
    .nil (fun _ _ r rs => .cons r rs) .nil (fun e1 e2 _ _ r rs => .cons e1 e2 r rs) r
theorem VRs.mono {G : Gx} {V V' : Addr → Option Obj} (h : VLe V V') {vs : List Value} {l : List PV} (r : VRs G V vs l) : VRs G V' vs l := r.ind .nil fun r _ rs => .cons (r.mono h) rs
theorem VRd.mono {G : Gx} {V V' : Addr → Option Obj} (h : VLe V V') {es : List DictEntry} {l : List (Str × PV)} (r : VRd G V es l) : VRd G V' es l := r.ind .nil fun a b r _ rs => .cons a b (r.mono h) rs
section
variable {G : Gx} {V : Addr → Option Obj}
theorem VRs.length {vs : List Value} {l : List PV} (r : VRs G V vs l) : vs.length = l.length := r.ind (P := fun vs l => vs.length = l.length) rfl fun _ _ e => congrArg (· + 1) e
theorem VRs.append {vs ws : List Value} {l k : List PV} (r : VRs G V vs l) (h : VRs G V ws k) : VRs G V (vs ++ ws) (l ++ k) := r.ind (P := fun vs l => VRs G V (vs ++ ws) (l ++ k)) h fun r _ rs => .cons r rs
theorem VRs.get {vs : List Value} {l : List PV} (r : VRs G V vs l) : ∀ {i : Nat} {q : PV}, l[i]? = some q → ∃ v, vs[i]? = some v ∧ VR G V v q :=
  r.ind (P := fun vs l => ∀ {i : Nat} {q : PV}, l[i]? = some q → ∃ v, vs[i]? = some v ∧ VR G V v q) (fun e => nomatch e) fun r _ ih i _ => i.casesOn (fun e => ⟨_, rfl, Option.some.inj e ▸ r⟩) fun _ e => ih e
end
noncomputable abbrev Gx.sh (G : Gx) (h : Heap) (tk : Nat) : Shared := ⟨h, G.gens, G.drawn, tk, G.os⟩
structure Cx where
  h₀ : Heap
  outer : List Env
  fr : List (Addr × (Str → Option Value))
  L : Addr
  env : Env
  fenv : Env
  dp : Nat
  un : Nat
  gd : Option (List Code)
  hid : Addr → Prop
  mf : Option (Str → Option Value)
  hdl : Option Value
noncomputable abbrev Cx.M (G : Gx) (c : Cx) : List Addr := c.fr.map (·.1) ++ G.M
noncomputable abbrev Cx.A (c : Cx) : Around := { handled := c.hdl, depth := c.dp, frames := some (c.fenv :: c.outer), guards := c.gd, units := c.un }
structure Cx.Ok (G : Gx) (c : Cx) : Prop where
  fro : c.outer.map (·.frame) = c.fr.map (fun p => some p.1)
  frk : ∀ e ∈ c.outer, e.scope.kind = .function
  X : G.K.In c.h₀
  T : Top G.p G.loose G.mean G.mg G.mb c.h₀
  kf : c.fenv.scope.kind = .function
  ff : c.fenv.frame = some c.L
  ke : c.env.scope.kind = .function
  ge : c.env.globals = mainGlobals
  be : c.env.builtins = builtinsNs
  fe : c.env.frame = some c.L
  hM : ∀ b ∈ c.M G, c.h₀.get? b = none
  hLM : c.L ∉ c.M G
  hS : ∀ S, G.S = some S → S ∈ G.M
  tM : G.kput.tab ∈ G.M ∧ G.klam.tab ∈ G.M
  hMh : ∀ b ∈ c.M G, c.hid b
  hLh : c.hid c.L
  kH : ∀ a o, G.K.lookup a = some o → ¬ c.hid a
  loc : c.mf = none → c.env.locals = c.L ∧ c.env = c.fenv
  locC : ∀ m, c.mf = some m → c.env.locals ≠ c.L ∧ c.env.locals ∉ c.M G ∧ c.hid c.env.locals ∧ c.h₀.get? c.env.locals = none
  cel : ∀ x ca, c.env.cells.lookup x = some ca → ca ∉ c.M G ∧ ca ≠ c.L
  apart : c.mf = none → c.env.cells.Pairwise fun x y => x.2 ≠ y.2
inductive WV where
  | v (q : PV)
  | md (d : Addr) (l : List (Str × PV))
inductive MK where
  | lst (a : Addr) (its : List PV)
  | wld (C x dx : Addr) (fl : List (Str × WV))
noncomputable def WV.own : WV → List Addr
  | .v _ => []
  | .md d _ => [d]
noncomputable def MK.own : MK → List Addr
  | .lst a _ => [a]
  | .wld _ _ _ fl => fl.flatMap fun p => p.2.own
noncomputable def MK.val : MK → Value
  | .lst a _ => .ref a
  | .wld _ x _ _ => .ref x
inductive WRd (G : Gx) (V : Addr → Option Obj) (h : Heap) : List DictEntry → List (Str × WV) → Prop
  | nil : WRd G V h [] []
  | v {e : DictEntry} {es : List DictEntry} {x : Str} {t : Tok} {q : PV} {l : List (Str × WV)} : e.key = .str x t → e.hash = PyData.keyHash G.w.params x → VR G V e.val q → WRd G V h es l → WRd G V h (e :: es) ((x, .v q) :: l)
  | md {e : DictEntry} {es es' : List DictEntry} {x : Str} {t : Tok} {n : Nat} {d : Addr} {l' : List (Str × PV)} {l : List (Str × WV)} : e.key = .str x t → e.hash = PyData.keyHash G.w.params x → e.val = .ref d → d ≠ sysModules →
      h.get? d = some (dictOf es' n) → VRd G V es' l' → WRd G V h es l → WRd G V h (e :: es) ((x, .md d l') :: l)
noncomputable def MkAt (G : Gx) (V : Addr → Option Obj) (h : Heap) : MK → Prop
  | .lst a its => ∃ vs n, h.get? a = some (listOf vs.toArray n) ∧ VRs G V vs its
  | .wld C x dx fl => V x = some (instObj C dx) ∧ ∃ es n, V dx = some (dictOf es n) ∧ WRd G V h es fl
theorem WRd.ind {G : Gx} {V : Addr → Option Obj} {h : Heap} {P : List DictEntry → List (Str × WV) → Prop} (h0 : P [] []) (h1 : ∀ {e es x t q l}, DictEntry.key e = .str x t → e.hash = PyData.keyHash G.w.params x → VR G V e.val q → WRd G V h es l → P es l → P (e :: es) ((x, .v q) :: l))
    (h2 : ∀ {e es es' x t n d l' l}, DictEntry.key e = .str x t → e.hash = PyData.keyHash G.w.params x → e.val = .ref d → d ≠ sysModules → h.get? d = some (dictOf es' n) → VRd G V es' l' → WRd G V h es l → P es l → P (e :: es) ((x, .md d l') :: l)) {es : List DictEntry} {l : List (Str × WV)} (r : WRd G V h es l) : P es l :=
  WRd.rec (motive := fun es l _ => P es l) h0 (fun a b r rs ih => h1 a b r rs ih) (fun a b d e f r rs ih => h2 a b d e f r rs ih) r
theorem WRd.mono {G : Gx} {V V' : Addr → Option Obj} {h h' : Heap} (k : VLe V V') {es : List DictEntry} {l : List (Str × WV)} (r : WRd G V h es l) : (∀ b ∈ l.flatMap (fun p => p.2.own), ∀ o, h.get? b = some o → h'.get? b = some o) → WRd G V' h' es l :=
  r.ind (P := fun es l => (∀ b ∈ l.flatMap (fun p => p.2.own), ∀ o, h.get? b = some o → h'.get? b = some o) → WRd G V' h' es l) (fun _ => .nil) (fun a b r _ ih f => .v a b (r.mono k) (ih fun b hb => f b (by rw [List.flatMap_cons]; exact List.mem_append_right _ hb)))
    fun a b d e g r _ ih f => .md a b d e (f _ (by rw [List.flatMap_cons]; exact List.mem_append_left _ (.head _)) _ g) (r.mono k) (ih fun b hb => f b (by rw [List.flatMap_cons]; exact List.mem_append_right _ hb))
theorem MkAt.mono {G : Gx} {V V' : Addr → Option Obj} {h h' : Heap} (k : VLe V V') {m : MK} : MkAt G V h m → (∀ b ∈ m.own, ∀ o, h.get? b = some o → h'.get? b = some o) → MkAt G V' h' m :=
  m.casesOn (fun a its ⟨vs, n, e, r⟩ f => ⟨vs, n, f a (.head _) _ e, r.mono k⟩) fun C x dx fl ⟨e1, es, n, e2, r⟩ f => ⟨k _ _ e1, es, n, k _ _ e2, r.mono k f⟩
inductive LV where
  | v (q : PV)
  | mut (k : MK)
structure AS where
  m : Str → Option Value
  ρ : List (Str × LV)
  hc : List Addr
noncomputable def Hid (c : Cx) (st : AS) (b : Addr) : Prop := c.hid b ∨ b ∈ st.hc ∨ ∃ x k, st.ρ.lookup x = some (.mut k) ∧ b ∈ k.own
noncomputable def view (H : Addr → Prop) (h : Heap) (b : Addr) : Option Obj := open Classical in if H b then none else h.get? b
theorem view_some {H : Addr → Prop} {h : Heap} {b : Addr} {o : Obj} : view H h b = some o ↔ ¬ H b ∧ h.get? b = some o := by
  unfold view
  by_cases q : H b
  · simp [q]
  · simp [q]
noncomputable def Own (G : Gx) (c : Cx) (st : AS) (b : Addr) : Prop := b ∈ c.M G ∨ b = c.L ∨ b = c.env.locals ∨ b ∈ st.hc ∨ ∃ x k, st.ρ.lookup x = some (.mut k) ∧ b ∈ k.own
structure KLe (G : Gx) (c : Cx) (st : AS) (h : Heap) (st' : AS) (h' : Heap) : Prop where
  keep : ∀ b o, ¬ Own G c st b → h.get? b = some o → h'.get? b = some o
  own : ∀ b, Own G c st' b → Own G c st b ∨ h.get? b = none
noncomputable abbrev VW (c : Cx) (st : AS) (h : Heap) : Addr → Option Obj := view (Hid c st) h
noncomputable def TabSt (M : List Addr) (h : Heap) (k : CloK) : Prop :=
  h.get? k.tab = some { cls := .none, data := .fields #[] } ∨
  ∃ c' oc vs t, h.get? k.tab = some { cls := .none, data := .fields #[rawInt k.pos.line, rawInt k.pos.col, .ref c'] } ∧ h.get? c' = some oc ∧ oc.data = .fields vs ∧ vs[1]? = some (.str k.qual t) ∧ c' ∉ M ∧ oc.cls = .type "code"
noncomputable def SrcOk (a b : Int) : Prop := 0 ≤ a ∧ a.natAbs.log2 < 2 ^ 25 ∧ 0 ≤ b ∧ b < 2 ^ 31
noncomputable def NotCode (o : Obj) : Prop := ∀ vs, o.data = .fields vs → o.cls ≠ .type "code"
theorem NotCode.ne {o : Obj} (h : o.cls ≠ .type "code") : NotCode o := fun _ _ => h
theorem NotCode.dic {o : Obj} {es : Array DictEntry} {n : Nat} (h : o.data = .dict es n) : NotCode o := fun vs e => by rw [h] at e; cases e
theorem NotCode.seq {o : Obj} {es : Array Value} {n : Nat} (h : o.data = .seq es n) : NotCode o := fun vs e => by rw [h] at e; cases e
theorem NotCode.cell {o : Obj} {v : Option Value} (h : o.data = .cell v) : NotCode o := fun vs e => by rw [h] at e; cases e
structure Glb (G : Gx) (fr : List (Addr × (Str → Option Value))) (h : Heap) : Prop where
  has : ∀ b ∈ G.M, ∃ o, h.get? b = some o ∧ NotCode o
  frs : ∀ p ∈ fr, h.Ns p.1 p.2
  src : ∀ S, G.S = some S → ∃ a b ta tb, h.IsList S #[.int a ta, .int b tb] ∧ SrcOk a b
  tput : TabSt G.M h G.kput
  tlam : TabSt G.M h G.klam
noncomputable def Bd (G : Gx) (c : Cx) (st : AS) (h : Heap) (x : Str) (q : PV) : Prop :=
  (c.env.kindOf x = some .local ∧ ∃ v, st.m x = some v ∧ VR G (VW c st h) v q) ∨
  ((c.env.kindOf x = some .cell ∨ c.env.kindOf x = some .free) ∧ ∃ ca v, c.env.cells.lookup x = some ca ∧ h.IsCell ca (some v) ∧ VR G (VW c st h) v q)
structure St (G : Gx) (c : Cx) (st : AS) (h : Heap) : Prop where
  F : Fr c.h₀ c.L h (c.mf.getD st.m)
  Nn : h.Ns c.env.locals st.m
  ρ : ∀ x q, st.ρ.lookup x = some (.v q) → Bd G c st h x q
  mu : ∀ x k, st.ρ.lookup x = some (.mut k) → c.env.kindOf x = some .local ∧ st.m x = some k.val ∧ (∀ b ∈ k.own, ¬ c.hid b ∧ b ∉ st.hc ∧ c.h₀.get? b = none) ∧ MkAt G (VW c st h) h k ∧ k.own.Nodup
  nd : ∀ x y k k', x ≠ y → st.ρ.lookup x = some (.mut k) → st.ρ.lookup y = some (.mut k') → ∀ b ∈ k.own, b ∉ k'.own
  occ' : ∀ b, Hid c st b → ∃ o, h.get? b = some o ∧ NotCode o
  cocc : ∀ x ca, c.env.cells.lookup x = some ca → ∃ o, h.get? ca = some o
  own : ∀ b ∈ st.hc, c.h₀.get? b = none ∧ b ∉ c.M G ∧ b ≠ c.L ∧ ∃ v, h.IsCell b v
  glb : Glb G c.fr h
theorem St.occ {G : Gx} {c : Cx} {st : AS} {h : Heap} (S : St G c st h) : ∀ b, Hid c st b → ∃ o, h.get? b = some o := fun b q => by
  obtain ⟨o, e, _⟩ := S.occ' b q; exact ⟨o, e⟩
theorem Glb.hasM' {G : Gx} {c : Cx} {h : Heap} (g : Glb G c.fr h) : ∀ b ∈ c.M G, ∃ o, h.get? b = some o ∧ NotCode o := fun b hb => by
  rcases List.mem_append.mp hb with q | q
  · obtain ⟨p, hp, rfl⟩ := List.mem_map.mp q
    obtain ⟨o, _, _, e, d, _⟩ := g.frs p hp
    exact ⟨o, e, .dic d⟩
  · exact g.has b q
theorem Glb.hasM {G : Gx} {c : Cx} {h : Heap} (g : Glb G c.fr h) : ∀ b ∈ c.M G, ∃ o, h.get? b = some o := fun b hb => by
  obtain ⟨o, e, _⟩ := g.hasM' b hb; exact ⟨o, e⟩
theorem mem_M {G : Gx} {c : Cx} {b : Addr} (h : b ∈ G.M) : b ∈ c.M G := List.mem_append_right _ h
noncomputable def But (wr : List Addr) (h h' : Heap) : Prop := (∀ b o, b ∉ wr → h.get? b = some o → h'.get? b = some o) ∧ ∀ b ∈ wr, ∃ o, h'.get? b = some o ∧ o.cls ≠ .type "code"
noncomputable def WO (wr : List Addr) (h : Heap) : Prop := ∀ b ∈ wr, ∃ o, h.get? b = some o ∧ o.cls ≠ .type "code"
noncomputable def withHid (c : Cx) (wr : List Addr) : Cx := { c with hid := fun b => c.hid b ∨ b ∈ wr }
structure WrOk (G : Gx) (c : Cx) (wr : List Addr) : Prop where
  hid : ∀ b ∈ wr, c.hid b
  M : ∀ b ∈ wr, b ∉ c.M G
  L : c.L ∉ wr
  loc : c.env.locals ∉ wr
  cel : ∀ x ca, c.env.cells.lookup x = some ca → ca ∉ wr
  h0 : ∀ b ∈ wr, c.h₀.get? b = none
noncomputable def ExnDat (G : Gx) (wr : List Addr) (e : Addr) (l : List (Str × PV)) (h : Heap) (md : Option Value) : Prop :=
  ∃ oe vs dx es n, dx ∈ wr ∧ dx ≠ e ∧ h.get? e = some oe ∧ oe.dict = some dx ∧ oe.data = .fields vs ∧ 2 ≤ vs.size ∧ oe.cls = .ref G.flt ∧ h.get? dx = some (dictOf es n) ∧ VRd G (fun _ => Option.none) es l ∧
    match md with
    | none => vs[1]? = some .none
    | some fl => ∃ T oT ts, vs[1]? = some (.ref T) ∧ T ∈ wr ∧ T ≠ e ∧ T ≠ dx ∧ h.get? T = some oT ∧ oT.data = .fields ts ∧ ts[3]? = some fl
theorem ExnDat.elim {G : Gx} {wr : List Addr} {e : Addr} {l : List (Str × PV)} {h : Heap} {md : Option Value} {P : Prop}
    (k : ∀ oe vs dx es n, dx ∈ wr → dx ≠ e → h.get? e = some oe → oe.dict = some dx → oe.data = .fields vs → 2 ≤ vs.size → oe.cls = .ref G.flt → h.get? dx = some (dictOf es n) → VRd G (fun _ => Option.none) es l →
      (match md with
      | none => vs[1]? = some .none
      | some fl => ∃ T oT ts, vs[1]? = some (.ref T) ∧ T ∈ wr ∧ T ≠ e ∧ T ≠ dx ∧ h.get? T = some oT ∧ oT.data = .fields ts ∧ ts[3]? = some fl) → P) (D : ExnDat G wr e l h md) : P :=
  let ⟨_, _, _, _, _, m1, m2, e1, e2, e3, e4, e5, e6, e7, e8⟩ := D
  k _ _ _ _ _ m1 m2 e1 e2 e3 e4 e5 e6 e7 e8
structure KW (G : Gx) (c : Cx) (wr : List Addr) (st : AS) (h : Heap) (st' : AS) (h' : Heap) : Prop where
  keep : ∀ b o, ¬ Own G c st b → b ∉ wr → h.get? b = some o → h'.get? b = some o
  own : ∀ b, Own G c st' b → Own G c st b ∨ h.get? b = none
structure Exn (G : Gx) (c : Cx) (st : AS) (h : Heap) (e : Addr) (l : List (Str × PV)) (h' : Heap) (wr : List Addr) (st' : AS) : Prop where
  mem : e ∈ wr
  S : St G (withHid c wr) st' h'
  W : WrOk G (withHid c wr) wr
  wo : WO wr h'
  nh : ∀ b ∈ wr, ¬ Hid c st' b
  kw : KW G c wr st h st' h'
  dat : ∃ md, ExnDat G wr e l h' md ∧ (md = none ∨ md = some .none ∨ md = some (rawInt c.L))
structure Step (G : Gx) (c : Cx) (st : AS) (h h' : Heap) : Prop where
  later : ∀ b o, b ∉ c.M G → b ≠ c.L → h.get? b = some o → h'.get? b = some o
  F : Fr c.h₀ c.L h' (c.mf.getD st.m)
  glb : Glb G c.fr h'
section
variable {G : Gx} {c : Cx} {st : AS} {h h' h'' : Heap}
theorem Step.trans (a : Step G c st h h') (b : Step G c st h' h'') : Step G c st h h'' :=
  ⟨fun x o n1 n2 e => b.later x o n1 n2 (a.later x o n1 n2 e), b.F, b.glb⟩
theorem St.refl (S : St G c st h) : Step G c st h h := ⟨fun _ _ _ _ e => e, S.F, S.glb⟩
theorem hid_of_M (O : Cx.Ok G c) {b : Addr} (hb : b ∈ c.M G) : Hid c st b := .inl (O.hMh b hb)
theorem Step.vle (O : Cx.Ok G c) (a : Step G c st h h') : VLe (VW c st h) (VW c st h') := fun b o e => by
  rw [view_some] at e ⊢
  exact ⟨e.1, a.later b o (fun q => e.1 (.inl (O.hMh b q))) (fun q => e.1 (.inl (q ▸ O.hLh))) e.2⟩
theorem St.step (O : Cx.Ok G c) (S : St G c st h) (a : Step G c st h h') : St G c st h' where
  F := a.F
  Nn := by
    cases e : c.mf with
    | none => rw [(O.loc e).1]; have := a.F.ns; rw [e] at this; exact this
    | some m₀ =>
      obtain ⟨n1, n2, n3, _⟩ := O.locC m₀ e
      obtain ⟨o, es, ep, x, r⟩ := S.Nn
      exact ⟨o, es, ep, a.later _ _ n2 n1 x, r⟩
  ρ := fun x q e => by
    rcases S.ρ x q e with ⟨k, v, e1, r⟩ | ⟨k, ca, v, e1, ⟨o, e2, e3⟩, r⟩
    · exact .inl ⟨k, v, e1, r.mono (a.vle O)⟩
    · exact .inr ⟨k, ca, v, e1, ⟨o, a.later _ _ (O.cel x ca e1).1 (O.cel x ca e1).2 e2, e3⟩, r.mono (a.vle O)⟩
  mu := fun x kk e => by
    obtain ⟨k, e1, e2, e3, e4⟩ := S.mu x kk e
    exact ⟨k, e1, e2, e3.mono (a.vle O) fun b hb o eb => a.later _ _ (fun q => (e2 b hb).1 (O.hMh b q)) (fun q => (e2 b hb).1 (q ▸ O.hLh)) eb, e4⟩
  nd := S.nd
  occ' := fun b q => by
    by_cases h1 : b ∈ c.M G
    · exact a.glb.hasM' b h1
    · by_cases h2 : b = c.L
      · obtain ⟨o, _, _, e, d, _⟩ := a.F.ns; exact ⟨o, h2 ▸ e, .dic d⟩
      · obtain ⟨o, e, n⟩ := S.occ' b q; exact ⟨o, a.later b o h1 h2 e, n⟩
  cocc := fun x ca e => by
    obtain ⟨o, q⟩ := S.cocc x ca e
    exact ⟨o, a.later _ _ (O.cel x ca e).1 (O.cel x ca e).2 q⟩
  own := fun b hb => by
    obtain ⟨e1, e2, e3, v, o, e4, e5⟩ := S.own b hb
    exact ⟨e1, e2, e3, v, o, a.later b o e2 e3 e4, e5⟩
  glb := a.glb
end
theorem KLe.refl (G : Gx) (c : Cx) (st : AS) (h : Heap) : KLe G c st h st h := ⟨fun _ _ _ e => e, fun _ e => .inl e⟩
theorem KLe.trans {G : Gx} {c : Cx} {st st' st'' : AS} {h h' h'' : Heap} (a : KLe G c st h st' h') (b : KLe G c st' h' st'' h'') : KLe G c st h st'' h'' :=
  ⟨fun x o n e => b.keep x o (fun q => (a.own x q).elim n fun z => by rw [e] at z; cases z) (a.keep x o n e), fun x q => by
    by_cases z : Own G c st x
    · exact .inl z
    · cases e : h.get? x with
      | none => exact .inr rfl
      | some o =>
        exfalso
        rcases b.own x q with w | w
        · rcases a.own x w with v | v
          · exact z v
          · rw [e] at v; cases v
        · have := a.keep x o z e
          exact clash w this⟩
theorem own_hid {G : Gx} {c : Cx} {st : AS} (O : Cx.Ok G c) {b : Addr} (q : Own G c st b) : Hid c st b := by
  rcases q with q | q | q | q | q
  · exact .inl (O.hMh b q)
  · exact .inl (q ▸ O.hLh)
  · cases e : c.mf with
    | none => exact .inl (q ▸ (O.loc e).1 ▸ O.hLh)
    | some m => exact .inl (q ▸ (O.locC m e).2.2.1)
  · exact .inr (.inl q)
  · exact .inr (.inr q)
theorem KLe.vle {G : Gx} {c : Cx} {st st' : AS} {h h' : Heap} (O : Cx.Ok G c) (a : KLe G c st h st' h') : VLe (VW c st h) (VW c st' h') := fun b o e => by
  rw [view_some] at e ⊢
  have n : ¬ Own G c st b := fun q => e.1 (own_hid O q)
  refine ⟨fun q => ?_, a.keep b o n e.2⟩
  rcases q with q | q | q
  · exact e.1 (.inl q)
  · rcases a.own b (.inr (.inr (.inr (.inl q)))) with z | z
    · exact n z
    · rw [e.2] at z; cases z
  · rcases a.own b (.inr (.inr (.inr (.inr q)))) with z | z
    · exact n z
    · rw [e.2] at z; cases z
theorem Step.kle {G : Gx} {c : Cx} {st : AS} {h h' : Heap} (a : Step G c st h h') : KLe G c st h st h' := ⟨fun b o n e => a.later b o (fun q => n (.inl q)) (fun q => n (.inr (.inl q))) e, fun _ e => .inl e⟩
section
variable (G : Gx) (c : Cx) (st : AS)
noncomputable def Tv (t : Sem Value) (Q : PV → Prop) : Prop := ∀ h tk, St G c st h → ∀ (Q' : Value → Shared → Prop) (E' : Value → Shared → Prop),
  (∀ v q h' tk', Step G c st h h' → VR G (VW c st h') v q → Q q → Q' v (G.sh h' tk')) → wpAny (model G.prog G.w) c.A t Q' E' (G.sh h tk)
noncomputable def Ev (e : Expr) (Q : PV → Prop) : Prop := Tv G c st (eval e c.env) Q
noncomputable def Tr (e : Expr) (Q : Bool → Prop) : Prop := ∀ h tk, St G c st h → ∀ (Q' : Bool → Shared → Prop) (E' : Value → Shared → Prop),
  (∀ b h' tk', Step G c st h h' → Q b → Q' b (G.sh h' tk')) → wpAny (model G.prog G.w) c.A (isTrue e c.env (eval e c.env)) Q' E' (G.sh h tk)
noncomputable def Op1 (f : Value → Sem Value) (a : PV) (Q : PV → Prop) : Prop := ∀ h tk va, St G c st h → VR G (VW c st h) va a → ∀ (Q' : Value → Shared → Prop) (E' : Value → Shared → Prop),
  (∀ v q h' tk', Step G c st h h' → VR G (VW c st h') v q → Q q → Q' v (G.sh h' tk')) → wpAny (model G.prog G.w) c.A (f va) Q' E' (G.sh h tk)
noncomputable def Op2 (f : Value → Value → Sem Value) (a b : PV) (Q : PV → Prop) : Prop := ∀ h tk va vb, St G c st h → VR G (VW c st h) va a → VR G (VW c st h) vb b → ∀ (Q' : Value → Shared → Prop) (E' : Value → Shared → Prop),
  (∀ v q h' tk', Step G c st h h' → VR G (VW c st h') v q → Q q → Q' v (G.sh h' tk')) → wpAny (model G.prog G.w) c.A (f va vb) Q' E' (G.sh h tk)
noncomputable def OpL (f : List Value → Sem Value) (as : List PV) (Q : PV → Prop) : Prop := ∀ h tk vs, St G c st h → VRs G (VW c st h) vs as → ∀ (Q' : Value → Shared → Prop) (E' : Value → Shared → Prop),
  (∀ v q h' tk', Step G c st h h' → VR G (VW c st h') v q → Q q → Q' v (G.sh h' tk')) → wpAny (model G.prog G.w) c.A (f vs) Q' E' (G.sh h tk)
noncomputable def Ex (s : Stmt) (N : AS → Prop) (R : PV → Prop) (X : List (Str × PV) → Prop) : Prop := ∀ h tk, St G c st h → ∀ (Q' : Flow → Shared → Prop) (E' : Value → Shared → Prop),
  (∀ st' h' tk', St G c st' h' → KLe G c st h st' h' → N st' → Q' .next (G.sh h' tk')) →
  (∀ v q st' h' tk', St G c st' h' → KLe G c st h st' h' → VR G (VW c st' h') v q → R q → Q' (.ret v) (G.sh h' tk')) →
  (∀ e l h' tk' wr st', Exn G c st h e l h' wr st' → X l → E' (.ref e) (G.sh h' tk')) →
  wpAny (model G.prog G.w) c.A (exec s c.env) Q' E' (G.sh h tk)
noncomputable def Exs (s : List Stmt) (N : AS → Prop) (R : PV → Prop) (X : List (Str × PV) → Prop) : Prop := ∀ h tk, St G c st h → ∀ (Q' : Flow → Shared → Prop) (E' : Value → Shared → Prop),
  (∀ st' h' tk', St G c st' h' → KLe G c st h st' h' → N st' → Q' .next (G.sh h' tk')) →
  (∀ v q st' h' tk', St G c st' h' → KLe G c st h st' h' → VR G (VW c st' h') v q → R q → Q' (.ret v) (G.sh h' tk')) →
  (∀ e l h' tk' wr st', Exn G c st h e l h' wr st' → X l → E' (.ref e) (G.sh h' tk')) →
  wpAny (model G.prog G.w) c.A (execs s c.env) Q' E' (G.sh h tk)
end
noncomputable def Cx.room (c : Cx) (n : Nat) : Prop := c.dp + n < 900 ∧ c.un + 8 * n + 200 < 9900 ∧ c.hdl = none
noncomputable def callL : List Value → Sem Value
  | [] => .unsupported "no callee"
  | f :: vs => call f vs []
noncomputable def Fn (G : Gx) (f : PV) (args : List PV) (n : Nat) (Q : PV → Prop) : Prop := ∀ c st, Cx.Ok G c → c.room n → OpL G c st callL (f :: args) Q
section
variable {G : Gx} {c : Cx} {st : AS}
theorem Tv.mono {t : Sem Value} {Q Q₂ : PV → Prop} (h : Tv G c st t Q) (k : ∀ q, Q q → Q₂ q) : Tv G c st t Q₂ := fun h₁ tk S Q' E' z => h h₁ tk S Q' E' fun v q h' tk' s r hq => z v q h' tk' s r (k q hq)
theorem Ev.mono {e : Expr} {Q Q₂ : PV → Prop} (h : Ev G c st e Q) (k : ∀ q, Q q → Q₂ q) : Ev G c st e Q₂ := Tv.mono h k
theorem Ev.const_int {i : Int} {k : Nat} {pos : Pos} {Q : PV → Prop} (q : Q (.int i)) : Ev G c st (.Constant (.int i) k pos) Q := fun h tk S Q' E' z =>
  wpAny_Constant_int (z _ _ _ _ S.refl (.int i tk) q)
theorem Ev.const_str {x : Str} {k : Nat} {pos : Pos} {Q : PV → Prop} (q : Q (.str x)) : Ev G c st (.Constant (.str x) k pos) Q := fun h tk S Q' E' z =>
  Constant_str (z _ _ _ _ S.refl (.str x tk) q)
theorem Ev.const_bool {b : Bool} {k : Nat} {pos : Pos} {Q : PV → Prop} (q : Q (.bool b)) : Ev G c st (.Constant (.bool b) k pos) Q := fun h tk S Q' E' z =>
  fun _ _ _ => z _ _ _ _ S.refl (.bool b) q
theorem Ev.const_none {k : Nat} {pos : Pos} {Q : PV → Prop} (q : Q .none) : Ev G c st (.Constant .none k pos) Q := fun h tk S Q' E' z =>
  fun _ _ _ => z _ _ _ _ S.refl .none q
theorem Ev.name (O : Cx.Ok G c) {x : Str} {pos : Pos} {q : PV} {Q : PV → Prop} (e : st.ρ.lookup x = some (.v q)) (hq : Q q) (hd : autoParam ((x == ("__debug__" : Str)) = false) aDec) (hn : autoParam ((x == ("__classdict__" : Str)) = false) aDec) :
    Ev G c st (.Name x pos) Q := fun h tk S Q' E' z => by
  rcases S.ρ x q e with ⟨k, v, e1, r⟩ | ⟨k, ca, v, e1, hc, r⟩
  · exact wpAny_Name (wpAny_loadName_local O.ke k S.Nn e1 (z _ _ _ _ S.refl r hq)) hd
  · rcases k with k | k
    · exact wpAny_Name (wpAny_loadName_cell O.ke k e1 hc (z _ _ _ _ S.refl r hq)) hd
    · exact wpAny_Name (wpAny_loadName_free O.ke k e1 hc (z _ _ _ _ S.refl r hq) hn) hd
theorem Ev.glob (O : Cx.Ok G c) {x : Str} {pos : Pos} {v : Value} {q : PV} {Q : PV → Prop} (hx : c.env.kindOf x = some .globalImplicit) (e : nsIn G.K mainGlobals x = some (some v)) (r : ∀ h, St G c st h → VR G (VW c st h) v q) (hq : Q q)
    (hd : autoParam ((x == ("__debug__" : Str)) = false) aDec) : Ev G c st (.Name x pos) Q := fun h tk S Q' E' z =>
  Name_function_global O.ke hx (loadGlobal_global (by rw [O.ge]; exact O.T.g.keeps S.F.keep) (mg_of O.X O.T.g e) (z _ _ _ _ S.refl (r h S) hq)) hd
theorem Ev.globb (O : Cx.Ok G c) {x : Str} {pos : Pos} {v : Value} {q : PV} {Q : PV → Prop} (hx : c.env.kindOf x = some .globalImplicit) (e : nsIn G.K mainGlobals x = some none) (hv : bootBuiltins x = some v) (hn : x ≠ "__name__")
    (r : ∀ V, VR G V v q) (hq : Q q) (hd : autoParam ((x == ("__debug__" : Str)) = false) aDec) : Ev G c st (.Name x pos) Q := fun h tk S Q' E' z =>
  Name_function_global O.ke hx (loadGlobal_builtin (by rw [O.ge]; exact O.T.g.keeps S.F.keep) (mg_none_of O.X O.T.g e) (by rw [O.be]; exact O.T.b.keeps S.F.keep) ((O.T.builtins x hn).trans hv) (z _ _ _ _ S.refl (r _) hq)) hd
theorem Ev.bin (O : Cx.Ok G c) {l r : Expr} {op : Operator} {pos : Pos} {Q : PV → Prop} (h : Ev G c st l fun a => Ev G c st r fun b => Op2 G c st (binaryOp op) a b Q) : Ev G c st (.BinOp l op r pos) Q := fun h₁ tk S Q' E' z =>
  wpAny_BinOp (h h₁ tk S _ _ fun va a h2 tk2 s2 r2 q2 => q2 h2 tk2 (S.step O s2) _ _ fun vb b h3 tk3 s3 r3 q3 =>
    q3 h3 tk3 va vb ((S.step O s2).step O s3) (r2.mono (s3.vle O)) r3 _ _ fun v q h4 tk4 s4 r4 q4 => z v q h4 tk4 ((s2.trans s3).trans s4) r4 q4)
theorem Ev.cmp (O : Cx.Ok G c) {l r : Expr} {op : CmpOp} {pos : Pos} {Q : PV → Prop} (h : Ev G c st l fun a => Ev G c st r fun b => Op2 G c st (compareOp op) a b Q) (hm : autoParam (behindInMarks op r = false) aRfl) :
    Ev G c st (.Compare l [op] [r] pos) Q := fun h₁ tk S Q' E' z =>
  wpAny_Compare1 (h h₁ tk S _ _ fun va a h2 tk2 s2 r2 q2 => q2 h2 tk2 (S.step O s2) _ _ fun vb b h3 tk3 s3 r3 q3 =>
    q3 h3 tk3 va vb ((S.step O s2).step O s3) (r2.mono (s3.vle O)) r3 _ _ fun v q h4 tk4 s4 r4 q4 => z v q h4 tk4 ((s2.trans s3).trans s4) r4 q4) hm
theorem Ev.un (O : Cx.Ok G c) {x : Expr} {op : UnaryOp} {pos : Pos} {Q : PV → Prop} (h : Ev G c st x fun a => Op1 G c st (unaryOp op) a Q) : Ev G c st (.UnaryOp op x pos) Q := fun h₁ tk S Q' E' z =>
  wpAny_UnaryOp (h h₁ tk S _ _ fun va a h2 tk2 s2 r2 q2 => q2 h2 tk2 va (S.step O s2) r2 _ _ fun v q h4 tk4 s4 r4 q4 => z v q h4 tk4 (s2.trans s4) r4 q4)
theorem Ev.ifexp (O : Cx.Ok G c) {t b o : Expr} {pos : Pos} {Q : PV → Prop} (h : Tr G c st t fun x => if x = true then Ev G c st b Q else Ev G c st o Q) : Ev G c st (.IfExp t b o pos) Q := fun h₁ tk S Q' E' z =>
  wpAny_IfExp (h h₁ tk S _ _ fun x h2 tk2 s2 q2 => by
    cases x with
    | true => exact q2 h2 tk2 (S.step O s2) _ _ fun v q h4 tk4 s4 r4 q4 => z v q h4 tk4 (s2.trans s4) r4 q4
    | false => exact q2 h2 tk2 (S.step O s2) _ _ fun v q h4 tk4 s4 r4 q4 => z v q h4 tk4 (s2.trans s4) r4 q4)
end
end
section
section
variable {G : Gx} {c : Cx} {st : AS} {h h' : Heap}
theorem Glb.keepD {L : Addr} {fr : List (Addr × (Str → Option Value))} (g : Glb G fr h) (hL : L ∉ fr.map (·.1) ++ G.M) (hd : ∃ o es n, h.get? L = some o ∧ o.data = .dict es n) (k : ∀ b o, b ≠ L → h.get? b = some o → h'.get? b = some o) : Glb G fr h' := by
  have nM : ∀ b ∈ G.M, b ≠ L := fun b hb q => hL (q ▸ List.mem_append_right _ hb)
  obtain ⟨oL, esL, epL, eL, dL⟩ := hd
  have tab : ∀ kk : CloK, TabSt G.M h kk → TabSt G.M h' kk := fun kk t => by
    rcases t with t | ⟨c', oc, vs, tt, e1, e2, e3, e4, e5⟩
    · refine .inl (k _ _ (fun q => ?_) t)
      rw [q, eL] at t; cases t; cases dL
    · refine .inr ⟨c', oc, vs, tt, k _ _ (fun q => ?_) e1, k _ _ (fun q => ?_) e2, e3, e4, e5⟩
      · rw [q, eL] at e1; cases e1; cases dL
      · rw [q, eL] at e2; cases e2; rw [dL] at e3; cases e3
  refine ⟨fun b hb => ?_, fun p hp => (g.frs p hp).at' fun o e => k _ o (fun q => hL (q ▸ List.mem_append_left _ (List.mem_map_of_mem hp))) e, fun S e => ?_, tab _ g.tput, tab _ g.tlam⟩
  · obtain ⟨o, e, n⟩ := g.has b hb; exact ⟨o, k b o (nM b hb) e, n⟩
  · obtain ⟨a, b, ta, tb, ⟨n, e1, ed⟩, r⟩ := g.src S e
    refine ⟨a, b, ta, tb, ⟨n, k _ _ (fun q => ?_) e1, ed⟩, r⟩
    rw [q, eL] at e1; cases e1
    obtain ⟨_, _, d'⟩ := ed; rw [dL] at d'; cases d'
theorem Glb.keep {L : Addr} {fr : List (Addr × (Str → Option Value))} (g : Glb G fr h) (hL : L ∉ fr.map (·.1) ++ G.M) (hd : ∃ m, h.Ns L m) (k : ∀ b o, b ≠ L → h.get? b = some o → h'.get? b = some o) : Glb G fr h' := g.keepD hL (hd.elim fun _ ⟨o, es, ep, e, d, _⟩ => ⟨o, es, ep, e, d⟩) k
theorem TabSt.all {M : List Addr} {kk : CloK} (t : TabSt M h kk) (k : ∀ b o, h.get? b = some o → h'.get? b = some o) : TabSt M h' kk := by
  rcases t with t | ⟨c', oc, vs, tt, e1, e2, e3, e4, e5⟩
  · exact .inl (k _ _ t)
  · exact .inr ⟨c', oc, vs, tt, k _ _ e1, k _ _ e2, e3, e4, e5⟩
theorem Glb.all {fr : List (Addr × (Str → Option Value))} (g : Glb G fr h) (k : ∀ b o, h.get? b = some o → h'.get? b = some o) : Glb G fr h' :=
  ⟨fun b hb => by obtain ⟨o, e, n⟩ := g.has b hb; exact ⟨o, k b o e, n⟩, fun p hp => (g.frs p hp).at' fun o e => k _ o e, fun S e => by obtain ⟨a, b, ta, tb, ⟨n, e1, ed⟩, r⟩ := g.src S e; exact ⟨a, b, ta, tb, ⟨n, k _ _ e1, ed⟩, r⟩, g.tput.all k, g.tlam.all k⟩
theorem St.keep (O : Cx.Ok G c) (S : St G c st h) (k : ∀ b o, b ≠ c.L → h.get? b = some o → h'.get? b = some o) (F : Fr c.h₀ c.L h' (c.mf.getD st.m)) : Step G c st h h' :=
  ⟨fun b o _ n e => k b o n e, F, S.glb.keep O.hLM ⟨_, S.F.ns⟩ k⟩
theorem St.keepAll (O : Cx.Ok G c) (S : St G c st h) (k : ∀ b o, h.get? b = some o → h'.get? b = some o) : Step G c st h h' := S.keep O (fun b o _ e => k b o e) (S.F.keeps k)
theorem St.push (O : Cx.Ok G c) (S : St G c st h) (o : Obj) : Step G c st h (h.push o) := S.keepAll O fun _ _ e => Heap.get?_push_of_some _ e
theorem ledger (h₀ h : Heap) (L : Addr) : ∃ news, News h₀ L h news ∧ ∀ b o, h.get? b = some o → b ≠ L → h₀.get? b = none → (b, o) ∈ news := by
  refine ⟨(List.range h.objs.size).filterMap (fun b => if b = L ∨ (h₀.get? b).isSome = true then none else (h.get? b).map fun o => (b, o)), fun p hp => ?_, fun b o e n1 n2 => ?_⟩
  · obtain ⟨b, _, hb⟩ := List.mem_filterMap.mp hp
    split at hb
    · cases hb
    · rename_i q
      obtain ⟨o, e, rfl⟩ := Option.map_eq_some_iff.mp hb
      refine ⟨e, fun z => q (.inl z), ?_⟩
      cases z : h₀.get? b with
      | none => rfl
      | some o' => exact absurd (.inr (by show (h₀.get? b).isSome = true; rw [z]; rfl)) q
  · refine List.mem_filterMap.mpr ⟨b, List.mem_range.mpr (Heap.lt_size e), ?_⟩
    rw [if_neg (by rintro (z | z); exact n1 z; rw [n2] at z; cases z), e]; rfl
theorem St.ofNews (O : Cx.Ok G c) (S : St G c st h) {news more : List (Addr × Obj)} (hl : ∀ b o, h.get? b = some o → b ≠ c.L → c.h₀.get? b = none → (b, o) ∈ news) (F : Fr c.h₀ c.L h' (c.mf.getD st.m)) (N : News c.h₀ c.L h' more)
    (hm : ∀ p ∈ news, p ∈ more) : Step G c st h h' := S.keep O (fun b o n e => by
  cases z : c.h₀.get? b with
  | none => exact (N _ (hm _ (hl b o e n z))).1
  | some o' =>
    have := S.F.keep b o' z
    rw [e] at this; cases this
    exact F.keep b o z) F
theorem St.new0 (S : St G c st h) {b : Addr} (e : h.get? b = none) : c.h₀.get? b = none := by
  cases z : c.h₀.get? b with
  | none => rfl
  | some o => have := S.F.keep b o z; exact clash e this
theorem kHid (O : Cx.Ok G c) (S : St G c st h) {a : Addr} {o : Obj} (e : G.K.lookup a = some o) : ¬ Hid c st a := fun q => by
  have e0 := O.X a o e
  rcases q with q | q | ⟨x, k, q1, q2⟩
  · exact O.kH a o e q
  · have := (S.own a q).1; rw [e0] at this; cases this
  · have := ((S.mu x k q1).2.2.1 a q2).2.2; rw [e0] at this; cases this
theorem fresh_hid (S : St G c st h) : ¬ Hid c st h.objs.size := fun q => by
  obtain ⟨o, e⟩ := S.occ _ q
  exact absurd (Heap.lt_size e) (Nat.lt_irrefl _)
theorem St.vnew (S : St G c st h) {o : Obj} (hf : o.isFreed = false) : VW c st (h.push o) h.objs.size = some o := view_some.mpr ⟨fresh_hid S, Heap.get?_push_size _ hf⟩
theorem VW.get {b : Addr} {o : Obj} (e : VW c st h b = some o) : h.get? b = some o := (view_some.mp e).2
theorem VW.old {b : Addr} {o : Obj} (e : VW c st h b = some o) : ¬ Hid c st b := (view_some.mp e).1
end
section
variable (G : Gx) (c : Cx) (st : AS)
noncomputable def Evs (as : List Expr) (Q : List PV → Prop) : Prop := ∀ pos h tk, St G c st h → ∀ (Q' : List Value → Shared → Prop) (E' : Value → Shared → Prop),
  (∀ vs qs h' tk', Step G c st h h' → VRs G (VW c st h') vs qs → Q qs → Q' vs (G.sh h' tk')) → wpAny (model G.prog G.w) c.A (spliced (backTo pos (starEach as c.env))) Q' E' (G.sh h tk)
end
section
variable {G : Gx} {c : Cx} {st : AS}
theorem Evs.nil {Q : List PV → Prop} (q : Q []) : Evs G c st [] Q := fun pos h tk S Q' E' z => spliced_nil (z _ _ _ _ S.refl .nil q)
theorem Evs.cons (O : Cx.Ok G c) {e : Expr} {rest : List Expr} {Q : List PV → Prop} (h : Ev G c st e fun a => Evs G c st rest fun as => Q (a :: as))
    (hne : autoParam (starEach (e :: rest) c.env = (false, eval e c.env) :: starEach rest c.env) aRfl) : Evs G c st (e :: rest) Q := fun pos h₁ tk S Q' E' z => by
  rw [hne]
  show wpAny _ _ (spliced ((false, eval e c.env) :: backTo pos (starEach rest c.env))) _ _ _
  exact spliced_cons (h h₁ tk S _ _ fun v a h2 tk2 s2 r2 q2 => q2 pos h2 tk2 (S.step O s2) _ _ fun vs as h3 tk3 s3 r3 q3 => z _ _ h3 tk3 (s2.trans s3) (.cons (r2.mono (s3.vle O)) r3) q3)
theorem VRs.sz {V : Addr → Option Obj} {vs : List Value} {qs : List PV} (r : VRs G V vs qs) (h : qs.length ≤ 16777216) : vs.length ≤ sizeLine := by rw [r.length, sizeLine_eq]; exact h
theorem Ev.tup (O : Cx.Ok G c) {as : List Expr} {k : Nat} {pos : Pos} {Q : PV → Prop} (h : Evs G c st as fun qs => qs.length ≤ 16777216 ∧ Q (.tup qs)) : Ev G c st (.Tuple as k pos) Q := fun h₁ tk S Q' E' z =>
  Tuple_ (h pos h₁ tk S _ _ fun vs qs h2 tk2 s2 r2 q2 => wpAny_newObj_type (z _ _ _ _ (s2.trans ((S.step O s2).push O _))
    (.tup (vs := vs) (n := 0) ((S.step O s2).vnew rfl) (r2.mono (((S.step O s2).push O _).vle O))) q2.2) (by show vs.toArray.size ≤ sizeLine; rw [List.size_toArray]; exact r2.sz q2.1))
theorem Ev.lst (O : Cx.Ok G c) {as : List Expr} {pos : Pos} {Q : PV → Prop} (h : Evs G c st as fun qs => qs.length ≤ 16777216 ∧ Q (.lst qs)) : Ev G c st (.List as pos) Q := fun h₁ tk S Q' E' z =>
  List_ (h pos h₁ tk S _ _ fun vs qs h2 tk2 s2 r2 q2 => wpAny_newObj_type (z _ _ _ _ (s2.trans ((S.step O s2).push O _))
    (.lst (vs := vs) (n := 0) ((S.step O s2).vnew rfl) (r2.mono (((S.step O s2).push O _).vle O))) q2.2) (by show vs.toArray.size ≤ sizeLine; rw [List.size_toArray]; exact r2.sz q2.1))
noncomputable def okF (G : Gx) : PV → Bool
  | .ty _ | .bi _ => true
  | .adr a => keepIn G.K (.ref a)
  | .put _ | .lam _ => true
  | _ => false
theorem CloV.fn {V : Addr → Option Obj} {k : CloK} {f : Addr} {w : Value} (h : CloV V k f w) : ∃ fd, V f = some (funOf fd) := by
  obtain ⟨c, cd, pm, ct, oc, ocd, cvs, t, e, _⟩ := h
  exact ⟨_, e⟩
theorem keeper (O : Cx.Ok G c) {h : Heap} (S : St G c st h) {v : Value} {f : PV} (r : VR G (VW c st h) v f) (e : okF G f = true) :
    ∃ k, (k = Keeper.frame ∨ k = Keeper.machine ∨ k = Keeper.boundFrame) ∧ Looks (model G.prog G.w) h (keeperOf v) k := by
  cases f with
  | ty n => exact r.ofTy ⟨.machine, .inr (.inl rfl), Looks.of_pure rfl⟩
  | bi n => exact r.ofBi ⟨.machine, .inr (.inl rfl), Looks.of_pure rfl⟩
  | adr a => exact r.ofAdr (keeps_K (K := G.K) (by exact e) h (O.X.keeps S.F.keep))
  | put q => exact r.ofPut fun f w hc _ => hc.fn.elim fun fd e1 => ⟨.frame, .inl rfl, (Looks.ld (part := none) (VW.get e1)).andThen .now⟩
  | lam q => exact r.ofLam fun f w hc _ => hc.fn.elim fun fd e1 => ⟨.frame, .inl rfl, (Looks.ld (part := none) (VW.get e1)).andThen .now⟩
  | _ => cases e
theorem eval_CallN (env : Env) (x : Str) (p : Pos) (as : List Expr) (pos : Pos) : eval (.Call (.Name x p) as [] pos) env = (do callWith pos (← eval (.Name x p) env) [] (backTo pos (starEach as env)) []) := rfl
theorem callWith_all {as : List Expr} {pos : Pos} {f : Value} {hh : Heap} {tk : Tok} {Q : Value → Shared → Prop} {E : Value → Shared → Prop} (hp : (backTo pos (starEach as c.env)).any (·.1) = false)
    (h : wpAny (model G.prog G.w) c.A (spliced (backTo pos (starEach as c.env))) (fun vs s₁ => (∃ k, (k = Keeper.frame ∨ k = Keeper.machine ∨ k = Keeper.boundFrame) ∧ Looks (model G.prog G.w) s₁.heap (keeperOf f) k) ∧ wpAny (model G.prog G.w) c.A (call f vs []) Q E s₁) E (G.sh hh tk)) :
    wpAny (model G.prog G.w) c.A (callWith pos f [] (backTo pos (starEach as c.env)) []) Q E (G.sh hh tk) := by
  refine callWith_of (P := fun hh => ∃ k, (k = Keeper.frame ∨ k = Keeper.machine ∨ k = Keeper.boundFrame) ∧ Looks (model G.prog G.w) hh (keeperOf f) k) (by rw [hp]; rfl) (fun _ p => p) ?_
  generalize he : backTo pos (starEach as c.env) = l at h hp ⊢
  cases l with
  | nil =>
    unfold evalArgs
    show wpAny _ _ (spliced [] >>= _) _ _ _
    refine wpAny_bind (wpAny_mono h (fun vs s₁ h₁ => wpAny_bind (wpAny_pure (wpAny_holding (wpAny_bind (wpAny_pure (wpAny_bind (wpAny_pure (wpAny_pure h₁)))))))) fun _ _ x => x)
  | cons a rest =>
    obtain ⟨b, x⟩ := a
    cases b with
    | true => simp at hp
    | false => exact evalArgs_plain h
theorem Ev.call (O : Cx.Ok G c) {x : Str} {p : Pos} {as : List Expr} {pos : Pos} {Q : PV → Prop} (h : Ev G c st (.Name x p) fun f => okF G f = true ∧ Evs G c st as fun qs => OpL G c st callL (f :: qs) Q)
    (hp : autoParam ((backTo pos (starEach as c.env)).any (·.1) = false) aRfl) : Ev G c st (.Call (.Name x p) as [] pos) Q := fun h₁ tk S Q' E' z => by
  show wpAny _ _ (eval _ _) _ _ _
  rw [eval_CallN]
  refine wpAny_bind (h h₁ tk S _ _ fun vf f h2 tk2 s2 r2 q2 => ?_)
  refine callWith_all hp (q2.2 pos h2 tk2 (S.step O s2) _ _ fun vs qs h3 tk3 s3 r3 q3 => ⟨keeper O ((S.step O s2).step O s3) (r2.mono (s3.vle O)) q2.1, ?_⟩)
  exact q3 h3 tk3 (vf :: vs) ((S.step O s2).step O s3) (.cons (r2.mono (s3.vle O)) r3) _ _ fun v q h4 tk4 s4 r4 q4 => z v q h4 tk4 ((s2.trans s3).trans s4) r4 q4
theorem OpL.fn (O : Cx.Ok G c) {f : PV} {qs : List PV} {n : Nat} {Q Q₂ : PV → Prop} (h : Fn G f qs n Q) (hr : c.room n) (k : ∀ q, Q q → Q₂ q) : OpL G c st callL (f :: qs) Q₂ := fun h₁ tk vs S r Q' E' z =>
  h c st O hr h₁ tk vs S r Q' E' fun v q h' tk' s' r' hq => z v q h' tk' s' r' (k q hq)
theorem Tr.cmp (O : Cx.Ok G c) {l r : Expr} {op : CmpOp} {pos : Pos} {Q : Bool → Prop} (h : Ev G c st l fun a => Ev G c st r fun b => Op2 G c st (compareOp op) a b fun q => ∃ t, q = .bool t ∧ Q t)
    (hm : autoParam (behindInMarks op r = false) aRfl) : Tr G c st (.Compare l [op] [r] pos) Q := fun h₁ tk S Q' E' z =>
  wpAny_isTrue_Compare1 (h h₁ tk S _ _ fun va a h2 tk2 s2 r2 q2 => q2 h2 tk2 (S.step O s2) _ _ fun vb b h3 tk3 s3 r3 q3 =>
    q3 h3 tk3 va vb ((S.step O s2).step O s3) (r2.mono (s3.vle O)) r3 _ _ fun v q h4 tk4 s4 r4 q4 => by
      obtain ⟨t, rfl, q5⟩ := q4
      exact r4.ofBool (wpAny_pure (z t h4 tk4 ((s2.trans s3).trans s4) q5))) hm
theorem Tr.not (O : Cx.Ok G c) {x : Expr} {pos : Pos} {Q : Bool → Prop} (h : Tr G c st x fun t => Q (!t)) : Tr G c st (.UnaryOp .Not x pos) Q := fun h₁ tk S Q' E' z =>
  isTrue_not (h h₁ tk S _ _ fun t h2 tk2 s2 q2 => z _ h2 tk2 s2 q2)
theorem Tr.plain (O : Cx.Ok G c) {e : Expr} {Q : Bool → Prop} (h : Ev G c st e fun q => ∃ t, q = .bool t ∧ Q t)
    (he : autoParam (∀ whole : Sem Value, isTrue e c.env whole = (do let v ← whole; standAt e.pos; holding [v] (truthy v))) aIRfl) : Tr G c st e Q := fun h₁ tk S Q' E' z =>
  isTrue_plain (h h₁ tk S _ _ fun v q h4 tk4 s4 r4 q4 => by
    obtain ⟨t, rfl, q5⟩ := q4
    exact r4.ofBool (wpAny_pure (z t h4 tk4 s4 q5))) (he _)
noncomputable def Trs (G : Gx) (c : Cx) (st : AS) (op : BoolOp) (es : List Expr) (Q : Bool → Prop) : Prop := ∀ h tk, St G c st h → ∀ (Q' : Bool → Shared → Prop) (E' : Value → Shared → Prop),
  (∀ b h' tk', Step G c st h h' → Q b → Q' b (G.sh h' tk')) → wpAny (model G.prog G.w) c.A (allTrue op es c.env) Q' E' (G.sh h tk)
theorem Trs.nil {op : BoolOp} {Q : Bool → Prop} (q : Q (op == .And)) : Trs G c st op [] Q := fun h tk S Q' E' z => wpAny_pure (z _ _ _ S.refl q)
theorem allTrue_cons (op : BoolOp) (x : Expr) (rest : List Expr) (env : Env) : allTrue op (x :: rest) env = (do
    match op, ← isTrue x env (eval x env) with
    | .And, false => pure false
    | .Or, true => pure true
    | _, _ => allTrue op rest env) := rfl
theorem Trs.and (O : Cx.Ok G c) {x : Expr} {rest : List Expr} {Q : Bool → Prop} (h : Tr G c st x fun t => if t = true then Trs G c st .And rest Q else Q false) : Trs G c st .And (x :: rest) Q := fun h₁ tk S Q' E' z => by
  rw [allTrue_cons]
  refine wpAny_bind (h h₁ tk S _ _ fun t h2 tk2 s2 q2 => ?_)
  cases t with
  | true => exact q2 h2 tk2 (S.step O s2) _ _ fun b h3 tk3 s3 q3 => z b h3 tk3 (s2.trans s3) q3
  | false => exact wpAny_pure (z false h2 tk2 s2 q2)
theorem Trs.or (O : Cx.Ok G c) {x : Expr} {rest : List Expr} {Q : Bool → Prop} (h : Tr G c st x fun t => if t = true then Q true else Trs G c st .Or rest Q) : Trs G c st .Or (x :: rest) Q := fun h₁ tk S Q' E' z => by
  rw [allTrue_cons]
  refine wpAny_bind (h h₁ tk S _ _ fun t h2 tk2 s2 q2 => ?_)
  cases t with
  | false => exact q2 h2 tk2 (S.step O s2) _ _ fun b h3 tk3 s3 q3 => z b h3 tk3 (s2.trans s3) q3
  | true => exact wpAny_pure (z true h2 tk2 s2 q2)
theorem Tr.bool {op : BoolOp} {es : List Expr} {pos : Pos} {Q : Bool → Prop} (h : Trs G c st op es Q) : Tr G c st (.BoolOp op es pos) Q := h
noncomputable def Evb (G : Gx) (c : Cx) (st : AS) (op : BoolOp) (es : List Expr) (Q : PV → Prop) : Prop := ∀ pos h tk, St G c st h → ∀ (Q' : Value → Shared → Prop) (E' : Value → Shared → Prop),
  (∀ v q h' tk', Step G c st h h' → VR G (VW c st h') v q → Q q → Q' v (G.sh h' tk')) → wpAny (model G.prog G.w) c.A (boolOp pos op (evalEach es c.env)) Q' E' (G.sh h tk)
theorem Evb.one {op : BoolOp} {e : Expr} {Q : PV → Prop} (h : Ev G c st e Q) : Evb G c st op [e] Q := fun pos h₁ tk S Q' E' z => h h₁ tk S Q' E' z
theorem Evb.cons (O : Cx.Ok G c) {op : BoolOp} {e e₂ : Expr} {rest : List Expr} {Q : PV → Prop} (h : Ev G c st e fun q => ∃ t, q = .bool t ∧ (if t = (op == .Or) then Q (.bool t) else Evb G c st op (e₂ :: rest) Q)) : Evb G c st op (e :: e₂ :: rest) Q := fun pos h₁ tk S Q' E' z => by
  show wpAny _ _ (do
    let v ← eval e c.env
    standAt pos
    let t ← holding [v] (truthy v)
    match op, t with
    | .And, false | .Or, true => pure v
    | _, _ => boolOp pos op (evalEach (e₂ :: rest) c.env)) _ _ _
  refine wpAny_bind (h h₁ tk S _ _ fun v q h2 tk2 s2 r2 q2 => ?_)
  obtain ⟨t, rfl, q3⟩ := q2
  refine r2.ofBool ?_
  refine wpAny_bind (wpAny_standAt (wpAny_bind (wpAny_holding (wpAny_pure ?_))))
  cases op <;> cases t <;> first | exact wpAny_pure (z _ _ h2 tk2 s2 (.bool _) q3) | exact q3 pos h2 tk2 (S.step O s2) _ _ fun v q h4 tk4 s4 r4 q4 => z v q h4 tk4 (s2.trans s4) r4 q4
theorem Ev.boolop {op : BoolOp} {es : List Expr} {pos : Pos} {Q : PV → Prop} (h : Evb G c st op es Q) : Ev G c st (.BoolOp op es pos) Q := h pos
end
end
section
section
variable {G : Gx} {c : Cx} {st : AS} {h h' : Heap}
theorem hid_with {wr : List Addr} {b : Addr} : Hid (withHid c wr) st b ↔ Hid c st b ∨ b ∈ wr := by
  unfold Hid withHid
  constructor
  · rintro ((q | q) | q)
    · exact .inl (.inl q)
    · exact .inr q
    · exact .inl (.inr q)
  · rintro ((q | q) | q)
    · exact .inl (.inl q)
    · exact .inr q
    · exact .inl (.inr q)
theorem Cx.Ok.with (O : Cx.Ok G c) (wr : List Addr) (h0 : ∀ b ∈ wr, c.h₀.get? b = none) : Cx.Ok G (withHid c wr) :=
  { fro := O.fro, frk := O.frk, X := O.X, T := O.T, kf := O.kf, ff := O.ff, ke := O.ke, ge := O.ge, be := O.be, fe := O.fe, hM := O.hM, hLM := O.hLM, hS := O.hS, tM := O.tM, hMh := fun b hb => .inl (O.hMh b hb), hLh := .inl O.hLh, kH := fun a o e q => q.elim (O.kH a o e) (fun q => by have := h0 a q; rw [O.X a o e] at this; cases this), loc := O.loc,
    locC := fun m e => ⟨(O.locC m e).1, (O.locC m e).2.1, .inl (O.locC m e).2.2.1, (O.locC m e).2.2.2⟩, cel := O.cel, apart := O.apart }
theorem St.hide' (O : Cx.Ok G c) (S : St G c st h) (s : Step G c st h h') {wr : List Addr} (hw : ∀ b ∈ wr, h.get? b = none) (hwo : ∀ b ∈ wr, ∃ o, h'.get? b = some o ∧ NotCode o) : St G (withHid c wr) st h' := by
  have S' := S.step O s
  have V : VLe (VW c st h) (VW (withHid c wr) st h') := fun b o e => by
    rw [view_some] at e ⊢
    refine ⟨fun q => ?_, (view_some.mp (s.vle O b o (view_some.mpr e))).2⟩
    rcases hid_with.mp q with q | q
    · exact e.1 q
    · rw [hw b q] at e; cases e.2
  refine { F := S'.F, Nn := S'.Nn, ρ := fun x q e => ?_, mu := fun x a e => ?_, nd := S'.nd, occ' := fun b q => ?_, cocc := S'.cocc, own := S'.own, glb := S'.glb }
  · rcases S.ρ x q e with ⟨k, v, e1, r⟩ | ⟨k, ca, v, e1, ⟨o, e2, e3⟩, r⟩
    · exact .inl ⟨k, v, e1, r.mono V⟩
    · exact .inr ⟨k, ca, v, e1, ⟨o, s.later _ _ (O.cel x ca e1).1 (O.cel x ca e1).2 e2, e3⟩, r.mono V⟩
  · obtain ⟨k, e1, e2, e3, e4⟩ := S.mu x a e
    refine ⟨k, e1, fun b hb => ⟨fun q => ?_, (e2 b hb).2⟩, e3.mono V fun b hb o eb => s.later _ _ (fun q => (e2 b hb).1 (O.hMh b q)) (fun q => (e2 b hb).1 (q ▸ O.hLh)) eb, e4⟩
    rcases q with q | q
    · exact (e2 b hb).1 q
    · obtain ⟨o, e6⟩ := S.occ b (.inr (.inr ⟨x, a, e, hb⟩)); rw [hw b q] at e6; cases e6
  · rcases hid_with.mp q with q | q
    · exact S'.occ' b q
    · exact hwo b q
theorem St.hide (O : Cx.Ok G c) (S : St G c st h) (s : Step G c st h h') {wr : List Addr} (hw : ∀ b ∈ wr, h.get? b = none) (hwo : WO wr h') : St G (withHid c wr) st h' := S.hide' O s hw fun b hb => by
  obtain ⟨o, e, n⟩ := hwo b hb; exact ⟨o, e, .ne n⟩
theorem St.unhide {wr : List Addr} (S : St G (withHid c wr) st h) : St G c st h := by
  have V : VLe (VW (withHid c wr) st h) (VW c st h) := fun b o e => by
    rw [view_some] at e ⊢
    exact ⟨fun q => e.1 (hid_with.mpr (.inl q)), e.2⟩
  refine { F := S.F, Nn := S.Nn, ρ := fun x q e => ?_, mu := fun x a e => ?_, nd := S.nd, occ' := fun b q => S.occ' b (hid_with.mpr (.inl q)), cocc := S.cocc, own := S.own, glb := S.glb }
  · rcases S.ρ x q e with ⟨k, v, e1, r⟩ | ⟨k, ca, v, e1, e2, r⟩
    · exact .inl ⟨k, v, e1, r.mono V⟩
    · exact .inr ⟨k, ca, v, e1, e2, r.mono V⟩
  · obtain ⟨k, e1, e2, e3, e4⟩ := S.mu x a e
    exact ⟨k, e1, fun b hb => ⟨fun q => (e2 b hb).1 (.inl q), (e2 b hb).2⟩, e3.mono V fun b hb o eb => eb, e4⟩
theorem WrOk.of (O : Cx.Ok G c) (S : St G c st h) {wr : List Addr} (hw : ∀ b ∈ wr, h.get? b = none) : WrOk G (withHid c wr) wr where
  hid := fun b hb => .inr hb
  M := fun b hb q => by obtain ⟨o, e⟩ := S.glb.hasM b q; rw [hw b hb] at e; cases e
  L := fun q => by obtain ⟨o, _, _, e, _⟩ := S.F.ns; rw [show h.get? c.L = none from hw _ q] at e; cases e
  loc := fun q => by obtain ⟨o, _, _, e, _⟩ := S.Nn; rw [show h.get? c.env.locals = none from hw _ q] at e; cases e
  cel := fun x ca e q => by obtain ⟨o, e⟩ := S.cocc x ca e; rw [hw _ q] at e; cases e
  h0 := fun b hb => by
    cases z : c.h₀.get? b with
    | none => exact z
    | some o => have := S.F.keep b o z; rw [hw b hb] at this; cases this
theorem St.wr (O : Cx.Ok G c) (S : St G c st h) {wr : List Addr} (W : WrOk G c wr) (w0 : WO wr h) (k : But wr h h') (hcell : ∀ b ∈ st.hc, b ∉ wr) : St G c st h' := by
  have V : VLe (VW c st h) (VW c st h') := fun b o e => by
    rw [view_some] at e ⊢
    exact ⟨e.1, k.1 b o (fun q => e.1 (.inl (W.hid b q))) e.2⟩
  have F' : Fr c.h₀ c.L h' (c.mf.getD st.m) := ⟨S.F.ns.at' (fun o e => k.1 _ o W.L e), fun b o e => k.1 b o (fun q => by rw [W.h0 b q] at e; cases e) (S.F.keep b o e), S.F.above⟩
  have Nn' : h'.Ns c.env.locals st.m := S.Nn.at' (fun o e => k.1 _ o W.loc e)
  refine { F := F', Nn := Nn', ρ := fun x q e => ?_, mu := fun x a e => ?_, nd := S.nd, occ' := fun b q => ?_, cocc := fun x ca e => ?_, own := fun b hb => ?_, glb := ?_ }
  · rcases S.ρ x q e with ⟨kk, v, e1, r⟩ | ⟨kk, ca, v, e1, ⟨o, e2, e3⟩, r⟩
    · exact .inl ⟨kk, v, e1, r.mono V⟩
    · exact .inr ⟨kk, ca, v, e1, ⟨o, k.1 _ _ (W.cel x ca e1) e2, e3⟩, r.mono V⟩
  · obtain ⟨kk, e1, e2, e3, e4⟩ := S.mu x a e
    exact ⟨kk, e1, e2, e3.mono V fun b hb o eb => k.1 _ _ (fun q => (e2 b hb).1 (W.hid b q)) eb, e4⟩
  · by_cases z : b ∈ wr
    · obtain ⟨o, e, n⟩ := k.2 b z; exact ⟨o, e, .ne n⟩
    · obtain ⟨o, e, n⟩ := S.occ' b q; exact ⟨o, k.1 b o z e, n⟩
  · obtain ⟨o, q⟩ := S.cocc x ca e; exact ⟨o, k.1 _ _ (W.cel x ca e) q⟩
  · obtain ⟨e1, e2, e3, v, o, e4, e5⟩ := S.own b hb
    exact ⟨e1, e2, e3, v, o, k.1 _ _ (hcell b hb) e4, e5⟩
  · have tab : ∀ kk : CloK, kk.tab ∈ G.M → TabSt G.M h kk → TabSt G.M h' kk := fun kk km t => by
      rcases t with t | ⟨c', oc, vs, tt, e1, e2, e3, e4, e5, e6⟩
      · exact .inl (k.1 _ _ (fun q => W.M _ q (mem_M km)) t)
      · refine .inr ⟨c', oc, vs, tt, k.1 _ _ (fun q => W.M _ q (mem_M km)) e1, k.1 _ _ (fun q => ?_) e2, e3, e4, e5, e6⟩
        obtain ⟨o, f1, f2⟩ := w0 _ q
        rw [e2] at f1; cases f1; exact f2 e6
    refine ⟨fun b hb => ?_, fun p hp => (S.glb.frs p hp).at' fun o e => k.1 _ o (fun q => W.M _ q (List.mem_append_left _ (List.mem_map_of_mem hp))) e, fun S' e => ?_, tab _ O.tM.1 S.glb.tput, tab _ O.tM.2 S.glb.tlam⟩
    · obtain ⟨o, e, n⟩ := S.glb.has b hb; exact ⟨o, k.1 b o (fun q => W.M b q (mem_M hb)) e, n⟩
    · obtain ⟨a, b, ta, tb, ⟨n, e1, ed⟩, r⟩ := S.glb.src S' e
      exact ⟨a, b, ta, tb, ⟨n, k.1 _ _ (fun q => W.M _ q (mem_M (O.hS S' e))) e1, ed⟩, r⟩
theorem St.wrEnd' (O : Cx.Ok G c) {wr : List Addr} (S : St G (withHid c wr) st h) (W : WrOk G (withHid c wr) wr) (w0 : ∀ b ∈ wr, ∀ o vs, h.get? b = some o → o.cls = .type "code" → o.data ≠ .fields vs) (hcw : ∀ b ∈ wr, ¬ Hid c st b) (k : ∀ b o, b ∉ wr → h.get? b = some o → h'.get? b = some o) : St G c st h' := by
  have V : VLe (VW (withHid c wr) st h) (VW c st h') := fun b o e => by
    rw [view_some] at e ⊢
    exact ⟨fun q => e.1 (hid_with.mpr (.inl q)), k b o (fun q => e.1 (.inl (W.hid b q))) e.2⟩
  have F' : Fr c.h₀ c.L h' (c.mf.getD st.m) := ⟨S.F.ns.at' (fun o e => k _ o W.L e), fun b o e => k b o (fun q => by have := W.h0 b q; rw [show c.h₀.get? b = none from this] at e; cases e) (S.F.keep b o e), S.F.above⟩
  have Nn' : h'.Ns c.env.locals st.m := S.Nn.at' (fun o e => k _ o W.loc e)
  refine { F := F', Nn := Nn', ρ := fun x q e => ?_, mu := fun x a e => ?_, nd := S.nd, occ' := fun b q => ?_, cocc := fun x ca e => ?_, own := fun b hb => ?_, glb := ?_ }
  · rcases S.ρ x q e with ⟨kk, v, e1, r⟩ | ⟨kk, ca, v, e1, ⟨o, e2, e3⟩, r⟩
    · exact .inl ⟨kk, v, e1, r.mono V⟩
    · exact .inr ⟨kk, ca, v, e1, ⟨o, k _ _ (W.cel x ca e1) e2, e3⟩, r.mono V⟩
  · obtain ⟨kk, e1, e2, e3, e4⟩ := S.mu x a e
    exact ⟨kk, e1, fun b hb => ⟨fun q => (e2 b hb).1 (.inl q), (e2 b hb).2⟩, e3.mono V fun b hb o eb => k _ _ (fun q => (e2 b hb).1 (W.hid b q)) eb, e4⟩
  · obtain ⟨o, e, n⟩ := S.occ' b (hid_with.mpr (.inl q))
    exact ⟨o, k b o (fun z => hcw b z q) e, n⟩
  · obtain ⟨o, q⟩ := S.cocc x ca e; exact ⟨o, k _ _ (W.cel x ca e) q⟩
  · obtain ⟨e1, e2, e3, v, o, e4, e5⟩ := S.own b hb
    exact ⟨e1, e2, e3, v, o, k _ _ (fun z => hcw b z (.inr (.inl hb))) e4, e5⟩
  · have tab : ∀ kk : CloK, kk.tab ∈ G.M → TabSt G.M h kk → TabSt G.M h' kk := fun kk km t => by
      rcases t with t | ⟨c', oc, vs, tt, e1, e2, e3, e4, e5, e6⟩
      · exact .inl (k _ _ (fun q => W.M _ q (mem_M km)) t)
      · refine .inr ⟨c', oc, vs, tt, k _ _ (fun q => W.M _ q (mem_M km)) e1, k _ _ (fun q => ?_) e2, e3, e4, e5, e6⟩
        exact w0 _ q _ _ e2 e6 e3
    refine ⟨fun b hb => ?_, fun p hp => (S.glb.frs p hp).at' fun o e => k _ o (fun q => W.M _ q (List.mem_append_left _ (List.mem_map_of_mem hp))) e, fun S' e => ?_, tab _ O.tM.1 S.glb.tput, tab _ O.tM.2 S.glb.tlam⟩
    · obtain ⟨o, e, n⟩ := S.glb.has b hb; exact ⟨o, k b o (fun q => W.M b q (mem_M hb)) e, n⟩
    · obtain ⟨a, b, ta, tb, ⟨n, e1, ed⟩, r⟩ := S.glb.src S' e
      exact ⟨a, b, ta, tb, ⟨n, k _ _ (fun q => W.M _ q (mem_M (O.hS S' e))) e1, ed⟩, r⟩
theorem St.wrEnd (O : Cx.Ok G c) {wr : List Addr} (S : St G (withHid c wr) st h) (W : WrOk G (withHid c wr) wr) (w0 : WO wr h) (hcw : ∀ b ∈ wr, ¬ Hid c st b) (k : ∀ b o, b ∉ wr → h.get? b = some o → h'.get? b = some o) : St G c st h' :=
  S.wrEnd' O W (fun b hb o vs e q _ => by
    obtain ⟨o', e', q'⟩ := w0 b hb
    rw [e] at e'; cases e'; exact q' q) hcw k
theorem KW.next {wr : List Addr} {st' st'' : AS} {h1 h2 h3 : Heap} (a : KW G c wr st h st' h1) (k : But wr h1 h2) (b : KLe G c st' h2 st'' h3) : KW G c wr st h st'' h3 := by
  refine ⟨fun x o n1 n2 e => b.keep x o (fun q => (a.own x q).elim n1 fun z => by rw [e] at z; cases z) (k.1 x o n2 (a.keep x o n1 n2 e)), fun x q => ?_⟩
  by_cases z : Own G c st x
  · exact .inl z
  · cases e : h.get? x with
    | none => exact .inr rfl
    | some o =>
      exfalso
      rcases b.own x q with w | w
      · rcases a.own x w with v | v
        · exact z v
        · rw [e] at v; cases v
      · by_cases xw : x ∈ wr
        · obtain ⟨o', f, _⟩ := k.2 x xw; exact clash w f
        · have := k.1 x o xw (a.keep x o z xw e); exact clash w this
theorem KW.vle (O : Cx.Ok G c) {wr : List Addr} {st' : AS} {h1 : Heap} (a : KW G (withHid c wr) wr st h st' h1) : VLe (view (fun b => Hid c st b ∨ b ∈ wr) h) (view (Hid (withHid c wr) st') h1) := fun b o e => by
  rw [view_some] at e ⊢
  have n : ¬ Own G (withHid c wr) st b := fun q => e.1 (.inl (own_hid (G := G) O q))
  refine ⟨fun q => ?_, a.keep b o n (fun q => e.1 (.inr q)) e.2⟩
  have no : Own G (withHid c wr) st' b → False := fun q => by
    rcases a.own b q with w | w
    · exact (n w).elim
    · rw [e.2] at w; cases w
  rcases q with q | q | q
  · rcases q with q | q
    · exact e.1 (.inl (.inl q))
    · exact e.1 (.inr q)
  · exact no (.inr (.inr (.inr (.inl q))))
  · exact no (.inr (.inr (.inr (.inr q))))
theorem KW.noOwn {wr : List Addr} {st' : AS} {h1 : Heap} (a : KW G c wr st h st' h1) (h0 : ∀ b ∈ wr, ¬ Own G c st b) (w : WO wr h) : ∀ b ∈ wr, ¬ Own G c st' b := fun b hb q => by
  rcases a.own b q with z | z
  · exact h0 b hb z
  · obtain ⟨o, e, _⟩ := w b hb; exact clash z e
theorem noOwn0 (O : Cx.Ok G c) (S : St G c st h) {wr : List Addr} (hw : ∀ b ∈ wr, h.get? b = none) : ∀ b ∈ wr, ¬ Own G c st b := fun b hb q => by
  have n := hw b hb
  rcases q with q | q | q | q | ⟨x, its, q⟩
  · obtain ⟨o, e⟩ := S.glb.hasM b q; exact clash n e
  · obtain ⟨o, _, _, e, _⟩ := S.F.ns; rw [q] at n; exact clash n e
  · obtain ⟨o, _, _, e, _⟩ := S.Nn; rw [q] at n; exact clash n e
  · obtain ⟨_, _, _, _, o, e, _⟩ := S.own b q; exact clash n e
  · obtain ⟨o, e⟩ := S.occ b (.inr (.inr ⟨x, its, q⟩)); exact clash n e
theorem VR.but {wr : List Addr} {H : Addr → Prop} {h1 : Heap} (k : But wr h h1) (hH : ∀ b ∈ wr, H b) {v : Value} {q : PV} (r : VR G (view H h) v q) : VR G (view H h1) v q := r.mono fun b o e => by
  rw [view_some] at e ⊢
  exact ⟨e.1, k.1 b o (fun q => e.1 (hH b q)) e.2⟩
end
end
section
theorem dict_mf (f : Array Value → Array Value) (o : Obj) : (Obj.mapFields f o).dict = o.dict := by
  obtain ⟨a, b, dt, d⟩ := o
  cases dt <;> rfl
theorem ns_slots {h h' : Heap} {L : Addr} {m : Str → Option Value} (n : h.Ns L m) (k : ∀ o, h.get? L = some o → ∃ sl, h'.get? L = some { o with slots := sl }) : h'.Ns L m := by
  obtain ⟨o, es, ep, e, d, r⟩ := n
  obtain ⟨sl, e'⟩ := k o e
  exact ⟨_, es, ep, e', d, r⟩
theorem funs {h base : Heap} (hb : ∀ b, base.get? b = none) : ∀ {outer : List Env} {fr : List (Addr × (Str → Option Value))}, outer.map (·.frame) = fr.map (fun p => some p.1) → (∀ e ∈ outer, e.scope.kind = .function) → (∀ p ∈ fr, h.Ns p.1 p.2) → h.FunFrames base outer
  | [], _, _, _, _ => trivial
  | env :: rest, [], e, _, _ => by simp at e
  | env :: rest, p :: fr, e, hk, hn => by
    simp only [List.map_cons, List.cons.injEq] at e
    obtain ⟨o, es, ep, ho, hd, _⟩ := hn p (.head _)
    exact ⟨by rw [hk env (.head _)]; decide, ⟨p.1, o, e.1, hb _, ho, fun vs q => by rw [hd] at q; cases q⟩, funs hb e.2 (fun x hx => hk x (.tail _ hx)) fun x hx => hn x (.tail _ hx)⟩
noncomputable abbrev noBase : Heap := { objs := #[] }
theorem noBase_get (b : Addr) : noBase.get? b = none := Heap.get?_none_of_le (Nat.zero_le _)
section
variable {G : Gx} {c : Cx} {st : AS} {h h' : Heap}
theorem St.funs (O : Cx.Ok G c) (S : St G c st h) : h.FunFrames noBase (c.fenv :: c.outer) := by
  obtain ⟨o, es, ep, e, d, _⟩ := S.F.ns
  exact ⟨by rw [O.kf]; decide, ⟨c.L, o, O.ff, noBase_get _, e, fun vs q => by rw [d] at q; cases q⟩, Mine.funs noBase_get O.fro O.frk S.glb.frs⟩
theorem frames_M (O : Cx.Ok G c) {b : Addr} (hb : b ∈ (c.fenv :: c.outer).filterMap (·.frame)) : b = c.L ∨ b ∈ c.fr.map (·.1) := by
  obtain ⟨env, he, hf⟩ := List.mem_filterMap.mp hb
  rcases List.mem_cons.mp he with rfl | he
  · rw [O.ff] at hf; exact .inl (Option.some.inj hf).symm
  · have : some b ∈ c.outer.map (·.frame) := List.mem_map.mpr ⟨env, he, hf⟩
    rw [O.fro] at this
    obtain ⟨p, hp, e⟩ := List.mem_map.mp this
    exact .inr (List.mem_map.mpr ⟨p, hp, Option.some.inj e⟩)
theorem St.slots (O : Cx.Ok G c) (S : St G c st h) (k : Heap.SlotsOnly ((c.fenv :: c.outer).filterMap (·.frame)) h h') : Step G c st h h' := by
  have dic : ∀ b o, b ∈ (c.fenv :: c.outer).filterMap (·.frame) → h.get? b = some o → ∃ es ep, o.data = .dict es ep := fun b o hb e => by
    rcases frames_M O hb with q | q
    · obtain ⟨o', es, ep, e', d, _⟩ := S.F.ns
      rw [q, e'] at e; cases e; exact ⟨es, ep, d⟩
    · obtain ⟨p, hp, rfl⟩ := List.mem_map.mp q
      obtain ⟨o', es, ep, e', d, _⟩ := S.glb.frs p hp
      rw [e'] at e; cases e; exact ⟨es, ep, d⟩
  have rcd : ∀ b o vs, h.get? b = some o → o.data = .fields vs → h'.get? b = some o := fun b o vs e d => (k.2.1 b fun q => by obtain ⟨es, ep, d'⟩ := dic b o q e; rw [d] at d'; cases d').trans e
  refine ⟨fun b o n1 n2 e => (k.2.1 b fun q => (frames_M O q).elim n2 fun z => n1 (List.mem_append_left _ z)).trans e, ⟨ns_slots S.F.ns fun o e => k.2.2 _ o e, fun b o e => (k.2.1 b fun q => ?_).trans (S.F.keep b o e), S.F.above⟩, ?_⟩
  · rcases frames_M O q with z | z
    · rw [z, Heap.get?_none_of_le S.F.above] at e; cases e
    · rw [O.hM b (List.mem_append_left _ z)] at e; cases e
  · have tab : ∀ kk : CloK, TabSt G.M h kk → TabSt G.M h' kk := fun kk t => by
      rcases t with t | ⟨c', oc, vs, tt, e1, e2, e3, e4, e5, e6⟩
      · exact .inl (rcd _ _ _ t rfl)
      · exact .inr ⟨c', oc, vs, tt, rcd _ _ _ e1 rfl, rcd _ _ _ e2 e3, e3, e4, e5, e6⟩
    refine ⟨fun b hb => by obtain ⟨o, e, n⟩ := S.glb.has b hb; obtain ⟨sl, e'⟩ := k.2.2 b o e; exact ⟨_, e', fun vs d => n vs d⟩, fun p hp => ns_slots (S.glb.frs p hp) fun o e => k.2.2 _ o e, fun S' e => ?_, tab _ S.glb.tput, tab _ S.glb.tlam⟩
    obtain ⟨a, b, ta, tb, ⟨n, e1, ed⟩, r⟩ := S.glb.src S' e
    refine ⟨a, b, ta, tb, ⟨n, (k.2.1 _ fun q => ?_).trans e1, ed⟩, r⟩
    obtain ⟨es, ep, d⟩ := dic _ _ q e1
    obtain ⟨_, _, d'⟩ := ed; rw [d] at d'; cases d'
theorem withHid_with (c : Cx) (a b : List Addr) : withHid (withHid c a) b = withHid c (a ++ b) := by
  unfold withHid
  congr 1
  funext x
  exact propext (by simp [or_assoc])
theorem WrOk.more (O : Cx.Ok G c) {wr : List Addr} (S : St G (withHid c wr) st h) (W : WrOk G (withHid c wr) wr) {T : Addr} (hT : h.get? T = none) : WrOk G (withHid c (wr ++ [T])) (wr ++ [T]) := by
  have WT : WrOk G (withHid (withHid c wr) [T]) [T] := WrOk.of (O.with wr W.h0) S (fun b hb => by rw [List.mem_singleton.mp hb]; exact hT)
  have two : ∀ {P : Addr → Prop}, (∀ b ∈ wr, P b) → (∀ b ∈ [T], P b) → ∀ b ∈ wr ++ [T], P b := fun h1 h2 b hb => (List.mem_append.mp hb).elim (h1 b) (h2 b)
  exact ⟨fun b hb => .inr hb, two W.M WT.M, fun q => (List.mem_append.mp q).elim W.L WT.L, fun q => (List.mem_append.mp q).elim W.loc WT.loc, fun x ca e q => (List.mem_append.mp q).elim (W.cel x ca e) (WT.cel x ca e), two W.h0 WT.h0⟩
theorem Step.fresh0 (s : Step G c st h h') {b : Addr} (e : h'.get? b = none) : h.get? b = none := by
  cases w : h.get? b with
  | none => rfl
  | some o =>
    by_cases n1 : b ∈ c.M G
    · obtain ⟨o', f⟩ := s.glb.hasM b n1; exact clash e f
    · by_cases n2 : b = c.L
      · obtain ⟨o', _, _, f, _⟩ := s.F.ns; rw [← n2, e] at f; cases f
      · have := s.later b o n1 n2 w; exact clash e this
theorem entry_exn (O : Cx.Ok G c) (hm : c.mf = none) {e : Addr} {l : List (Str × PV)} {h1 : Heap} {wr : List Addr} {st' : AS} (x : Exn G c st h e l h1 wr st') {tk : Nat} {head : Value} {b : Bool} {Q : Unit → Shared → Prop} {E : Value → Shared → Prop}
    (k : ∀ h2 wr', Exn G c st h e l h2 wr' st' → ExnDat G wr' e l h2 (some (rawInt c.L)) → (∀ b ∈ wr', b ∈ wr ∨ h1.get? b = none) → Q () (G.sh h2 tk)) :
    wpAny (model G.prog G.w) c.A (do let a ← frameOf c.env; let pl ← entryPlaceOf c.L b; let t ← EntryCells.newEntry head a .none (rawInt c.L) .none pl; setField (.ref e) 1 t) Q E (G.sh h1 tk) := by
  have O1 := O.with wr x.W.h0
  obtain ⟨hL, hE⟩ := O.loc hm
  obtain ⟨md, D0, _⟩ := x.dat
  refine D0.elim fun oe vs dx es n m1 m2 e1 e2 e3 e4 e5 e6 e7 _ => ?_
  refine wpAny_bind (wpAny_frameOf_fun (base := noBase) (L := c.L) (by rw [hE]) (by rw [hE]; exact St.funs (c := withHid c wr) O1 x.S) (by rw [hE]; exact O.ff) fun h₁ hs₁ => ?_)
  rw [hE] at hs₁
  have s1 := x.S.slots O1 hs₁
  have S1 := x.S.step O1 s1
  refine wpAny_bind (wpAny_entryPlaceOf fun pl hpl => ?_)
  unfold EntryCells.newEntry newFields
  refine wpAny_bind (wpAny_newObj_type ?_ (hpl.sizeOk5 _ _ _ _ _))
  generalize hoT : ({ cls := .type "traceback", dict := none, data := .fields ([head, .ref c.L, .none, rawInt c.L, .none] ++ (if pl.isEmpty then List.replicate 6 Value.none else pl)).toArray } : Obj) = oT
  have fT : oT.isFreed = false := by rw [← hoT]; rfl
  have nT : h₁.get? h₁.objs.size = none := Heap.get?_none_of_le (Nat.le_refl _)
  have S2 := S1.hide O1 (S1.push O1 oT) (wr := [h₁.objs.size]) (fun b hb => by rw [List.mem_singleton.mp hb]; exact nT) (fun b hb => by rw [List.mem_singleton.mp hb]; exact ⟨oT, Heap.get?_push_size _ fT, by rw [← hoT]; simp⟩)
  have rcd : ∀ b o vs, h1.get? b = some o → o.data = .fields vs → h₁.get? b = some o := fun b o vs e d => (hs₁.2.1 b fun q => by
    rcases frames_M O q with z | z
    · obtain ⟨o', es, ep, e', d', _⟩ := x.S.F.ns
      rw [z, show h1.get? c.L = _ from e'] at e; cases e; rw [d'] at d; cases d
    · obtain ⟨p, hp, rfl⟩ := List.mem_map.mp z
      obtain ⟨o', es, ep, e', d', _⟩ := x.S.glb.frs p hp
      rw [e'] at e; cases e; rw [d'] at d; cases d).trans e
  have he₁ := rcd e oe vs e1 e3
  have he₂ := Heap.get?_push_of_some oT he₁
  have nM : ∀ b ∈ wr, b ∉ c.M G ∧ b ≠ c.L := fun b hb => ⟨x.W.M b hb, fun q => x.W.L (q ▸ hb)⟩
  have hd1 : h₁.get? dx = some (dictOf es n) := s1.later dx _ (nM dx m1).1 (nM dx m1).2 e6
  have hd2 := Heap.get?_push_of_some oT hd1
  refine wpAny_setField he₂ e3 (Nat.lt_of_lt_of_le (by decide) e4) ?_
  have d3 := Obj.data_mapFields e3 (·.setIfInBounds 1 (Value.ref h₁.objs.size))
  have he₃ := Heap.get?_update_self (Obj.mapFields (·.setIfInBounds 1 (Value.ref h₁.objs.size))) he₂ (Obj.isFreed_of_fields d3)
  have hTe : e ≠ h₁.objs.size := Nat.ne_of_lt (Heap.lt_size he₁)
  have hTd : dx ≠ h₁.objs.size := Nat.ne_of_lt (Heap.lt_size hd1)
  have oth : ∀ b, b ≠ e → ((h₁.push oT).update e (Obj.mapFields (·.setIfInBounds 1 (Value.ref h₁.objs.size)))).get? b = (h₁.push oT).get? b := fun b hb => Heap.get?_update_other _ _ (Ne.symm hb)
  have hT₂ : (h₁.push oT).get? h₁.objs.size = some oT := Heap.get?_push_size _ fT
  have nw : ∀ b ∈ wr, ∃ o, h₁.get? b = some o ∧ o.cls ≠ .type "code" := fun b hb => by
    obtain ⟨o, q1, q2⟩ := x.wo b hb
    exact ⟨o, s1.later b o (nM b hb).1 (nM b hb).2 q1, q2⟩
  rw [withHid_with] at S2
  have W2 := x.W.more O S1 nT
  have wo2 : WO (wr ++ [h₁.objs.size]) (h₁.push oT) := fun b hb => by
    rcases List.mem_append.mp hb with q | q
    · obtain ⟨o, q1, q2⟩ := nw b q; exact ⟨o, Heap.get?_push_of_some _ q1, q2⟩
    · rw [List.mem_singleton.mp q]; exact ⟨oT, hT₂, by rw [← hoT]; simp⟩
  have bt : But (wr ++ [h₁.objs.size]) (h₁.push oT) ((h₁.push oT).update e (Obj.mapFields (·.setIfInBounds 1 (Value.ref h₁.objs.size)))) := by
    refine ⟨fun b o nb q => (oth b fun z => nb (z ▸ List.mem_append_left _ x.mem)).trans q, fun b hb => ?_⟩
    by_cases z : b = e
    · rw [z]; exact ⟨_, he₃, by rw [Obj.cls_mapFields, e5]; simp⟩
    · obtain ⟨o, q1, q2⟩ := wo2 b hb; exact ⟨o, (oth b z).trans q1, q2⟩
  have nh2 : ∀ b ∈ wr ++ [h₁.objs.size], ¬ Hid c st' b := fun b hb q => by
    rcases List.mem_append.mp hb with z | z
    · exact x.nh b z q
    · rw [List.mem_singleton.mp z] at q
      obtain ⟨o, w⟩ := S1.occ _ (hid_with.mpr (.inl q))
      exact clash nT w
  have S3 := S2.wr (O.with _ W2.h0) W2 wo2 bt (fun b hb q => nh2 b q (.inr (.inl hb)))
  have D : ExnDat G (wr ++ [h₁.objs.size]) e l ((h₁.push oT).update e (Obj.mapFields (·.setIfInBounds 1 (Value.ref h₁.objs.size)))) (some (rawInt c.L)) :=
    ⟨_, _, dx, es, n, List.mem_append_left _ m1, m2, he₃, (dict_mf _ _).trans e2, d3, by rw [Array.size_setIfInBounds]; exact e4, by rw [Obj.cls_mapFields]; exact e5, (oth dx m2).trans hd2, e7,
      h₁.objs.size, oT, _, by rw [Array.getElem?_setIfInBounds_self_of_lt (Nat.lt_of_lt_of_le (by decide) e4)], List.mem_append_right _ (.head _), Ne.symm hTe, Ne.symm hTd, (oth _ (Ne.symm hTe)).trans hT₂, by rw [← hoT], by first | (simp; done) | (rcases hpl with rfl | ⟨_, _, _, _, _, _, _, rfl⟩ <;> simp)⟩
  refine k _ _ ⟨List.mem_append_left _ x.mem, S3, W2, fun b hb => bt.2 b hb, nh2, ⟨fun b o n1 n2 q => ?_, x.kw.own⟩, _, D, .inr (.inr rfl)⟩ D (fun b hb => (List.mem_append.mp hb).imp id fun q => by
    rw [List.mem_singleton.mp q]
    cases w : h1.get? h₁.objs.size with
    | none => rfl
    | some o =>
      exfalso
      have := s1.fresh0 nT
      rw [w] at this; cases this)
  have n3 : b ∉ wr := fun z => n2 (List.mem_append_left _ z)
  have q1 := x.kw.keep b o n1 n3 q
  exact bt.1 b o n2 (Heap.get?_push_of_some _ (s1.later b o (fun z => n1 (.inl z)) (fun z => n1 (.inr (.inl z))) q1))
theorem note_exn' (O : Cx.Ok G c) (hm : c.mf = none) {e : Addr} {l : List (Str × PV)} {h1 : Heap} {wr : List Addr} {st' : AS} (x : Exn G c st h e l h1 wr st') {tk : Nat} {Q : Unit → Shared → Prop} {E : Value → Shared → Prop}
    (k : ∀ h2 wr', Exn G c st h e l h2 wr' st' → ExnDat G wr' e l h2 (some (rawInt c.L)) → (∀ b ∈ wr', b ∈ wr ∨ h1.get? b = none) → Q () (G.sh h2 tk)) :
    wpAny (model G.prog G.w) c.A (noteFrame (.ref e) c.env) Q E (G.sh h1 tk) := by
  obtain ⟨hL, hE⟩ := O.loc hm
  obtain ⟨md, D, hmd⟩ := x.dat
  unfold noteFrame
  simp only [O.fe]
  refine D.elim fun oe vs dx es n m1 m2 e1 e2 e3 e4 e5 e6 e7 e8 => ?_
  rcases hmd with rfl | rfl | rfl
  · refine wpAny_bind (wpAny_field e1 e3 e8 ?_)
    rw [if_neg (by decide)]
    exact entry_exn O hm x k
  · obtain ⟨T, oT, ts, f1, f2, f3, f4, f5, f6, f7⟩ := e8
    refine wpAny_bind (wpAny_field e1 e3 f1 ?_)
    rw [if_pos (show (Value.ref T != Value.none) = true from by simp)]
    refine wpAny_bind (wpAny_field f5 f6 f7 ?_)
    rw [if_neg (show ¬ ((Value.none == rawInt c.L) = true) from by simp [rawInt])]
    refine wpAny_bind (wpAny_setField f5 f6 (Array.getElem?_eq_some_iff.mp f7).1 ?_)
    have oth : ∀ b, b ≠ T → (h1.update T (Obj.mapFields (·.setIfInBounds 3 Value.none))).get? b = h1.get? b := fun b hb => Heap.get?_update_other _ _ (Ne.symm hb)
    have d3 := Obj.data_mapFields f6 (·.setIfInBounds 3 Value.none)
    have hT := Heap.get?_update_self (Obj.mapFields (·.setIfInBounds 3 Value.none)) f5 (Obj.isFreed_of_fields d3)
    have bt : But wr h1 (h1.update T (Obj.mapFields (·.setIfInBounds 3 Value.none))) := by
      refine ⟨fun b o nb q => (oth b fun z => nb (z ▸ f2)).trans q, fun b hb => ?_⟩
      by_cases z : b = T
      · rw [z]
        obtain ⟨o, q1, q2⟩ := x.wo T f2
        rw [f5] at q1; cases q1
        exact ⟨_, hT, by rw [Obj.cls_mapFields]; exact q2⟩
      · obtain ⟨o, q1, q2⟩ := x.wo b hb; exact ⟨o, (oth b z).trans q1, q2⟩
    refine entry_exn O hm (wr := wr) (st' := st') ⟨x.mem, x.S.wr (O.with _ x.W.h0) x.W x.wo bt (fun b hb q => x.nh b q (.inr (.inl hb))), x.W, bt.2, x.nh, ⟨fun b o n1 n2 q => bt.1 b o n2 (x.kw.keep b o n1 n2 q), x.kw.own⟩, some .none, ?_, .inr (.inl rfl)⟩ fun h2 wr' x2 D2 f2 => k h2 wr' x2 D2 fun b hb => (f2 b hb).imp id fun q => ?_
    rotate_left
    · by_cases z : b = T
      · exfalso
        rw [z, hT] at q; cases q
      · rw [oth b z] at q; exact q
    exact ⟨oe, vs, dx, es, n, m1, m2, (oth e (Ne.symm f3)).trans e1, e2, e3, e4, e5, (oth dx (Ne.symm f4)).trans e6, e7, T, _, _, f1, f2, f3, f4, hT, d3, by rw [Array.getElem?_setIfInBounds_self_of_lt (Array.getElem?_eq_some_iff.mp f7).1]⟩
  · obtain ⟨T, oT, ts, f1, f2, f3, f4, f5, f6, f7⟩ := e8
    refine wpAny_bind (wpAny_field e1 e3 f1 ?_)
    rw [if_pos (show (Value.ref T != Value.none) = true from by simp)]
    refine wpAny_bind (wpAny_field f5 f6 f7 ?_)
    rw [if_pos (show (rawInt c.L == rawInt c.L) = true from by simp [rawInt])]
    exact wpAny_pure (k h1 wr x D fun b hb => .inl hb)
theorem note_exn (O : Cx.Ok G c) (hm : c.mf = none) {e : Addr} {l : List (Str × PV)} {h1 : Heap} {wr : List Addr} {st' : AS} (x : Exn G c st h e l h1 wr st') {tk : Nat} {Q : Unit → Shared → Prop} {E : Value → Shared → Prop}
    (k : ∀ h2 wr', Exn G c st h e l h2 wr' st' → ExnDat G wr' e l h2 (some (rawInt c.L)) → Q () (G.sh h2 tk)) :
    wpAny (model G.prog G.w) c.A (noteFrame (.ref e) c.env) Q E (G.sh h1 tk) := note_exn' O hm x fun h2 wr' x2 D2 _ => k h2 wr' x2 D2
theorem land_exn (O : Cx.Ok G c) {e : Addr} {l : List (Str × PV)} {h1 : Heap} {wr : List Addr} {st' : AS} (x : Exn G c st h e l h1 wr st') {w₀ : Value} (D : ExnDat G wr e l h1 (some w₀)) (fl : Option Addr) (hfl : fl = none ∨ fl = some c.L) {tk : Nat} {Q : Unit → Shared → Prop} {E : Value → Shared → Prop}
    (k : ∀ h2, Exn G c st h e l h2 wr st' → ExnDat G wr e l h2 (some (fl.elim .none fun f => rawInt f)) → Q () (G.sh h2 tk)) :
    wpAny (model G.prog G.w) c.A (setFlight (.ref e) fl) Q E (G.sh h1 tk) := by
  refine D.elim fun oe vs dx es n m1 m2 e1 e2 e3 e4 e5 e6 e7 e8 => ?_
  obtain ⟨T, oT, ts, f1, f2, f3, f4, f5, f6, f7⟩ := e8
  unfold setFlight
  refine wpAny_bind (wpAny_field e1 e3 f1 ?_)
  rw [if_pos (show (Value.ref T != Value.none) = true from by simp)]
  refine wpAny_setField f5 f6 (Array.getElem?_eq_some_iff.mp f7).1 ?_
  generalize hw : (fl.elim Value.none fun f => rawInt f) = w
  have oth : ∀ b, b ≠ T → (h1.update T (Obj.mapFields (·.setIfInBounds 3 w))).get? b = h1.get? b := fun b hb => Heap.get?_update_other _ _ (Ne.symm hb)
  have d3 := Obj.data_mapFields f6 (·.setIfInBounds 3 w)
  have hT := Heap.get?_update_self (Obj.mapFields (·.setIfInBounds 3 w)) f5 (Obj.isFreed_of_fields d3)
  have bt : But wr h1 (h1.update T (Obj.mapFields (·.setIfInBounds 3 w))) := by
    refine ⟨fun b o nb q => (oth b fun z => nb (z ▸ f2)).trans q, fun b hb => ?_⟩
    by_cases z : b = T
    · rw [z]
      obtain ⟨o, q1, q2⟩ := x.wo T f2
      rw [f5] at q1; cases q1
      exact ⟨_, hT, by rw [Obj.cls_mapFields]; exact q2⟩
    · obtain ⟨o, q1, q2⟩ := x.wo b hb; exact ⟨o, (oth b z).trans q1, q2⟩
  have D' : ExnDat G wr e l (h1.update T (Obj.mapFields (·.setIfInBounds 3 w))) (some w) := ⟨oe, vs, dx, es, n, m1, m2, (oth e (Ne.symm f3)).trans e1, e2, e3, e4, e5, (oth dx (Ne.symm f4)).trans e6, e7, T, _, _, f1, f2, f3, f4, hT, d3, by rw [Array.getElem?_setIfInBounds_self_of_lt (Array.getElem?_eq_some_iff.mp f7).1]⟩
  refine k _ ⟨x.mem, x.S.wr (O.with _ x.W.h0) x.W x.wo bt (fun b hb q => x.nh b q (.inr (.inl hb))), x.W, bt.2, x.nh, ⟨fun b o n1 n2 q => bt.1 b o n2 (x.kw.keep b o n1 n2 q), x.kw.own⟩, some w, D', ?_⟩ (hw ▸ D')
  rcases hfl with rfl | rfl
  · exact .inr (.inl (by rw [← hw]; rfl))
  · exact .inr (.inr (by rw [← hw]; rfl))
theorem leave_exn (O : Cx.Ok G c) (hm : c.mf = none) {e : Addr} {l : List (Str × PV)} {h1 : Heap} {wr : List Addr} {st' : AS} (x : Exn G c st h e l h1 wr st') {tk : Nat} {Q : Unit → Shared → Prop} {E : Value → Shared → Prop}
    (k : ∀ h2 wr', Exn G c st h e l h2 wr' st' → ExnDat G wr' e l h2 (some .none) → Q () (G.sh h2 tk)) :
    wpAny (model G.prog G.w) c.A (leaving c.env (.ref e)) Q E (G.sh h1 tk) :=
  wpAny_bind (note_exn O hm x fun h2 wr' x2 D2 => land_exn O x2 D2 none (.inl rfl) fun h3 x3 D3 => k h3 wr' x3 D3)
end
end
section
noncomputable abbrev fcx (fd : FuncData) (f : Addr) (h₀ : Heap) (outer : List Env) (fr : List (Addr × (Str → Option Value))) (L dp un : Nat) (gd : Option (List Code)) (hid : Addr → Prop) : Cx :=
  { h₀ := h₀, outer := outer, fr := fr, L := L, env := callEnvC fd L f, fenv := callEnvC fd L f, dp := dp, un := un, gd := gd, hid := hid, mf := none, hdl := none }
theorem bindL_out {k : Str → Option NameKind} {x : Str} : ∀ {names : List Str} {vs : List Value} {m : Str → Option Value}, x ∉ names → bindL k (names.zip vs) m x = m x
  | [], _, _, _ => by simp [bindL]
  | y :: r, [], _, _ => by simp [bindL]
  | y :: r, v :: vs, m, h => by
    have h1 : x ≠ y := fun e => h (e ▸ .head _)
    rw [List.zip_cons_cons, bindL, bindL_out fun q => h (.tail _ q)]
    split <;> simp [h1]
theorem bindC_out {k : Str → Option NameKind} {x : Str} : ∀ {names : List Str} {vs : List Value} {m : Str → Option Value}, x ∉ names → bindC k (names.zip vs) m x = m x
  | [], _, _, _ => by simp [bindC]
  | y :: r, [], _, _ => by simp [bindC]
  | y :: r, v :: vs, m, h => by
    have h1 : x ≠ y := fun e => h (e ▸ .head _)
    rw [List.zip_cons_cons, bindC, bindC_out fun q => h (.tail _ q)]
    split <;> simp [h1]
theorem bind_at {G : Gx} {V : Addr → Option Obj} {k : Str → Option NameKind} {x : Str} {q : PV} {names : List Str} : ∀ {vs : List Value} {qs : List PV} {m mc : Str → Option Value}, names.Nodup → VRs G V vs qs → (names.zip (qs.map LV.v)).lookup x = some (.v q) →
    ∃ v, VR G V v q ∧ (k x = some .local → bindL k (names.zip vs) m x = some v) ∧ (k x ≠ some .local → bindC k (names.zip vs) mc x = some v) ∧ x ∈ names := by
  induction names with
  | nil => intro _ _ _ _ _ _ e; cases e
  | cons y r ih =>
    intro vs qs m mc hn rs e
    cases qs with
    | nil => cases e
    | cons q' l =>
      refine rs.ofCons fun v vs rv rs => ?_
      rw [List.map_cons, List.zip_cons_cons, List.lookup_cons] at e
      rw [List.zip_cons_cons, bindL, bindC]
      obtain ⟨n1, n2⟩ := List.nodup_cons.mp hn
      by_cases hy : x = y
      · subst hy
        rw [beq_self_eq_true] at e
        cases e
        refine ⟨v, rv, fun kl => ?_, fun kn => ?_, .head _⟩
        · rw [if_pos kl, bindL_out n1, if_pos rfl]
        · rw [if_neg kn, bindC_out n1, if_pos rfl]
      · rw [beq_eq_false_iff_ne.mpr hy] at e
        obtain ⟨v', r', h1, h2, h3⟩ := ih (m := if k y = some .local then fun z => if z = y then some v else m z else m) (mc := if k y = some .local then mc else fun z => if z = y then some v else mc z) n2 rs e
        exact ⟨v', r', h1, h2, .tail _ h3⟩
section
variable {G : Gx} {c : Cx} {st : AS} {h : Heap}
theorem ground (O : Cx.Ok G c) (S : St G c st h) : c.h₀.StaysIn (hideAll h (c.L :: c.M G)) := fun b o e => hideAll_get _ (S.F.keep b o e) fun q => by
  rcases List.mem_cons.mp q with q | q
  · rw [q, Heap.get?_none_of_le S.F.above] at e; cases e
  · rw [O.hM b q] at e; cases e
theorem Step.back (O : Cx.Ok G c) (S : St G c st h) {h' : Heap} {L' : Addr} {m' : Str → Option Value} (F' : Fr (hideAll h (c.L :: c.M G)) L' h' m') (g : Glb G ((c.L, c.mf.getD st.m) :: c.fr) h') : Step G c st h h' :=
  ⟨fun b o n n2 e => F'.keep b o (hideAll_get _ e fun q => (List.mem_cons.mp q).elim n2 n), ⟨g.frs _ (.head _), fun b o e => F'.keep b o (ground O S b o e), S.F.above⟩, ⟨g.has, fun p hp => g.frs p (.tail _ hp), g.src, g.tput, g.tlam⟩⟩
end
noncomputable def CallX (G : Gx) (c : Cx) (st : AS) (qs : List PV) (Q : PV → Prop) (X : List (Str × PV) → Prop) : Prop := ∀ h tk vs, St G c st h → VRs G (VW c st h) vs qs → ∀ (Q' : Value → Shared → Prop) (E' : Value → Shared → Prop),
  (∀ v q h' tk', Step G c st h h' → VR G (VW c st h') v q → Q q → Q' v (G.sh h' tk')) →
  (∀ e l h' tk' wr, Exn G c st h e l h' wr st → ExnDat G wr e l h' (some .none) → X l → (∀ b ∈ wr, h.get? b = none) → E' (.ref e) (G.sh h' tk')) → wpAny (model G.prog G.w) c.A (callL vs) Q' E' (G.sh h tk)
noncomputable def FnX (G : Gx) (f : PV) (args : List PV) (n : Nat) (Q : PV → Prop) (X : List (Str × PV) → Prop) : Prop := ∀ c st, Cx.Ok G c → c.room n → CallX G c st (f :: args) Q X
theorem FnX.fn {G : Gx} {f : PV} {args : List PV} {n : Nat} {Q : PV → Prop} (h : FnX G f args n Q fun _ => False) : Fn G f args n Q := fun c st O r h₁ tk vs S rs Q' E' z => h c st O r h₁ tk vs S rs Q' E' z fun _ _ _ _ _ _ _ x => x.elim
noncomputable abbrev icx (G : Gx) (fd : FuncData) (f : Addr) (c : Cx) (st : AS) (hh : Heap) : Cx := fcx fd f (hideAll hh (c.L :: c.M G)) (c.fenv :: c.outer) ((c.L, c.mf.getD st.m) :: c.fr) hh.objs.size (c.dp + 1) (c.un + 3) c.gd fun b => b = hh.objs.size ∨ Hid c st b
theorem call_core {G : Gx} {f : Addr} {fd : FuncData} {body : List Stmt} {names : List Str} {args : List PV} {n : Nat} {oc : Value} {od : Option Addr} {osl : Array (Option Value)}
    (ho : G.K.lookup f = some ⟨oc, od, .func fd, osl⟩) (hbody : fd.body = .stmts body) (hcd : codeIn G.K fd.code fd.qualname = true)
    (hbind : ∀ c st h tk vals, Cx.Ok G c → St G c st h → VRs G (VW c st h) vals args → BindsTo (G.sh h tk) fd ⟨vals, []⟩ (names.zip vals)) (hnd : names.Nodup)
    (hkind : (names.all fun y => fd.scope.names.lookup y == some .local || fd.scope.names.lookup y == some .cell) = true)
    (hcn : ((cellsFrom 0 fd.scope.names []).map (·.1)).Nodup) (hclo : fd.closure = []) (hgl : fd.globals = mainGlobals) (hbl : fd.builtins = builtinsNs)
    (hco : fd.scope.isCoroutine = false) (hgen : fd.scope.isGenerator = false) (hk : fd.scope.kind = .function) {c : Cx} {st : AS} (O : Cx.Ok G c) (hr : c.room (n + 1)) {hh : Heap} {tk : Nat} {vals : List Value} (S : St G c st hh) (rs : VRs G (VW c st hh) vals args) {Q' E' : Value → Shared → Prop}
    (K : ∀ m h₁ tk₁, Cx.Ok G (icx G fd f c st hh) → (icx G fd f c st hh).room n → (∀ b, hh.objs.size < b → ¬ (b = hh.objs.size ∨ Hid c st b)) →
      St G (icx G fd f c st hh) ⟨m, names.zip (args.map LV.v), (cellsFrom (hh.objs.size + 1) fd.scope.names []).map (·.2)⟩ h₁ → ∀ (Qg : Flow → Shared → Prop) (Eg : Value → Shared → Prop),
      (∀ v s', Q' v s' → Qg (.ret v) s') → (∀ s', Q' .none s' → Qg .next s') →
      (∀ e s', wpAny (model G.prog G.w) ({ handled := c.hdl, depth := c.dp + 1, frames := some ((icx G fd f c st hh).env :: c.fenv :: c.outer), guards := c.gd, units := c.un + 3 } : Around) (leaving (icx G fd f c st hh).env e) (fun _ s'' => E' e s'') (fun e' s'' => E' e' s'') s' → Eg e s') →
      wpAny (model G.prog G.w) (icx G fd f c st hh).A (execs body (icx G fd f c st hh).env) Qg Eg (G.sh h₁ tk₁)) :
    wpAny (model G.prog G.w) c.A (call (.ref f) vals []) Q' E' (G.sh hh tk) := by
  have sg := ground O S
  have XK := O.X.keeps S.F.keep
  have hkd : ∀ x ∈ names.zip vals, fd.scope.names.lookup x.1 = some .local ∨ (fd.scope.names.lookup x.1 = some .cell ∧ ((cellsFrom (hh.objs.size + 1) fd.scope.names []).lookup x.1).isSome = true) := fun x hx => by
    have := List.all_eq_true.mp hkind x.1 (List.of_mem_zip (a := x.1) (b := x.2) hx).1
    rcases Bool.or_eq_true_iff.mp this with q | q
    · exact .inl (by simpa using q)
    · have q' : fd.scope.names.lookup x.1 = some .cell := by simpa using q
      exact .inr ⟨q', cellsFrom_some _ _ _ (.inl q')⟩
  refine wpAny_call (codeAny_call_function (by show c.dp < recursionLimit; have := hr.1; show c.dp < 1000; omega) (XK _ _ ho) rfl hco hgen hbody (codeRec_of XK hcd) (hbind c st hh tk vals O S rs _ _ _ _ ?_))
  rw [hclo]
  refine wpAny_newFunctionEnv_cells hk hkd fun env' he s' x => ?_
  subst he
  have kk := x.toInCall.keep
  obtain ⟨h₁, tk₁, rfl, _⟩ := x.done
  dsimp only at kk
  have big : ∀ b o, hh.get? b = some o → b < hh.objs.size := fun b o e => Heap.lt_size e
  have cbig : ∀ y ca, (callEnvC fd hh.objs.size f).cells.lookup y = some ca → hh.objs.size < ca := fun y ca e => x.above y ca (mem_of_lookup e)
  have hidOcc : ∀ b, Hid c st b → b < hh.objs.size := fun b q => by obtain ⟨o, e⟩ := S.occ b q; exact big b o e
  let hid' : Addr → Prop := fun b => b = hh.objs.size ∨ Hid c st b
  have Mlt : ∀ b ∈ c.L :: c.M G, b < hh.objs.size := fun b hb => by
    rcases List.mem_cons.mp hb with rfl | hb
    · exact S.F.ns.lt
    · obtain ⟨o, e⟩ := S.glb.hasM b hb; exact big b o e
  have O' : Cx.Ok G (fcx fd f (hideAll hh (c.L :: c.M G)) (c.fenv :: c.outer) ((c.L, c.mf.getD st.m) :: c.fr) hh.objs.size (c.dp + 1) (c.un + 3) c.gd hid') :=
    { fro := by show (c.fenv :: c.outer).map _ = _; rw [List.map_cons, O.ff, O.fro]; rfl
      frk := fun e he => (List.mem_cons.mp he).elim (fun q => q ▸ O.kf) (O.frk e)
      X := O.X.keeps sg, T := O.T.keeps sg, kf := hk, ff := rfl, ke := hk, ge := hgl, be := hbl, fe := rfl
      hM := fun b hb => hideAll_none _ hb, hLM := fun q => Nat.lt_irrefl _ (Mlt _ q)
      hS := O.hS, tM := O.tM, hMh := fun b hb => .inr ((List.mem_cons.mp hb).elim (fun q => .inl (q ▸ O.hLh)) fun q => hid_of_M O q), hLh := .inl rfl
      kH := fun a o e q => q.elim (fun q => by have := Heap.lt_size (S.F.keep _ _ (O.X a o e)); rw [q] at this; exact Nat.lt_irrefl _ this) (kHid O S e)
      loc := fun _ => ⟨rfl, rfl⟩, locC := fun _ e => nomatch e
      cel := fun y ca e => ⟨fun q => Nat.lt_asymm (Mlt _ q) (cbig y ca e), Nat.ne_of_gt (cbig y ca e)⟩
      apart := fun _ => x.apart }
  have R' : (fcx fd f (hideAll hh (c.L :: c.M G)) (c.fenv :: c.outer) ((c.L, c.mf.getD st.m) :: c.fr) hh.objs.size (c.dp + 1) (c.un + 3) c.gd hid').room n := ⟨by have := hr.1; show c.dp + 1 + n < 900; omega, by have := hr.2.1; show c.un + 3 + 8 * n + 200 < 9900; omega, rfl⟩
  let c' : Cx := fcx fd f (hideAll hh (c.L :: c.M G)) (c.fenv :: c.outer) ((c.L, c.mf.getD st.m) :: c.fr) hh.objs.size (c.dp + 1) (c.un + 3) c.gd hid'
  let st' : AS := ⟨bindL (callEnvC fd hh.objs.size f).kindOf (names.zip vals) fun _ => none, names.zip (args.map LV.v), (cellsFrom (hh.objs.size + 1) fd.scope.names []).map (·.2)⟩
  have nomut : ∀ y k, st'.ρ.lookup y ≠ some (.mut k) := fun y k e => by
    have := mem_of_lookup e
    have := (List.of_mem_zip this).2
    obtain ⟨_, _, q⟩ := List.mem_map.mp this
    cases q
  have hcbig : ∀ b ∈ st'.hc, hh.objs.size < b := fun b hb => by
    obtain ⟨p, hp, rfl⟩ := List.mem_map.mp hb
    exact x.above p.1 p.2 hp
  have V0 : VLe (VW c st hh) (VW c' st' h₁) := fun b o e => by
    rw [view_some] at e ⊢
    have lt := big b o e.2
    refine ⟨?_, kk b o e.2⟩
    rintro (q | q | ⟨y, its, q⟩)
    · rcases q with q | q
      · exact Nat.lt_irrefl _ (q ▸ lt)
      · exact e.1 q
    · exact Nat.lt_asymm lt (hcbig b q)
    · exact nomut _ _ q.1
  have S' : St G c' st' h₁ :=
    { F := ⟨x.toInCall.ns, fun b o e => kk b o (of_hideAll _ e), Nat.le_of_eq (hideAll_size _ _)⟩
      Nn := x.toInCall.ns
      ρ := fun y q e => by
        obtain ⟨v, r, e1, e2, hy⟩ := bind_at (k := (callEnvC fd hh.objs.size f).kindOf) (m := fun _ => none) (mc := fun _ => none) hnd rs e
        have := List.all_eq_true.mp hkind y hy
        rcases Bool.or_eq_true_iff.mp this with z | z
        · have z' : fd.scope.names.lookup y = some .local := by simpa using z
          exact .inl ⟨z', v, e1 z', r.mono V0⟩
        · have z' : fd.scope.names.lookup y = some .cell := by simpa using z
          obtain ⟨ca, hca⟩ := Option.isSome_iff_exists.mp (cellsFrom_some (x := y) fd.scope.names (hh.objs.size + 1) [] (.inl z'))
          refine .inr ⟨.inl z', ca, v, hca, ?_, r.mono V0⟩
          have w := x.cell y ca hca
          have e2' := e2 (by show fd.scope.names.lookup y ≠ _; rw [z']; decide)
          exact Eq.mp (congrArg (fun t => h₁.IsCell ca t) e2') w
      mu := fun y b e => (nomut y b e).elim
      nd := fun y _ b _ _ e => (nomut y b e).elim
      occ' := fun b q => by
        rcases q with (q | q) | q | ⟨y, its, q⟩
        · obtain ⟨o, _, _, e, d, _⟩ := x.toInCall.ns
          exact ⟨o, by rw [q]; exact e, .dic d⟩
        · obtain ⟨o, e, n⟩ := S.occ' b q; exact ⟨o, kk b o e, n⟩
        · obtain ⟨p, hp, rfl⟩ := List.mem_map.mp q
          obtain ⟨o, e, d⟩ := x.cell p.1 p.2 (lookup_of_mem_nodup (cellsFrom_names fd.scope.names 0 (hh.objs.size + 1) [] [] rfl ▸ hcn) hp)
          exact ⟨o, e, .cell d⟩
        · exact (nomut _ _ q.1).elim
      cocc := fun y ca e => by
        obtain ⟨o, e1, _⟩ := x.cell y ca e
        exact ⟨o, e1⟩
      own := fun b hb => by
        refine ⟨Heap.get?_none_of_le (by rw [show (hideAll hh (c.L :: c.M G)).objs.size = hh.objs.size from hideAll_size _ _]; exact Nat.le_of_lt (hcbig b hb)), fun q => Nat.lt_asymm (Mlt _ q) (hcbig b hb), Nat.ne_of_gt (hcbig b hb), ?_⟩
        obtain ⟨p, hp, rfl⟩ := List.mem_map.mp hb
        exact ⟨_, x.cell p.1 p.2 (lookup_of_mem_nodup (cellsFrom_names fd.scope.names 0 (hh.objs.size + 1) [] [] rfl ▸ hcn) hp)⟩
      glb := by
        have := S.glb.all kk
        exact ⟨this.has, fun p hp => (List.mem_cons.mp hp).elim (fun q => q ▸ S.F.ns.keeps kk) (this.frs p), this.src, this.tput, this.tlam⟩ }
  refine ⟨((O.T.nolimit).keeps S.F.keep).keeps kk, codeAny_func ?_⟩
  show wpAny (model G.prog G.w) ({ handled := c.hdl, depth := c.dp + 1, frames := some (c'.env :: c.fenv :: c.outer), guards := c.gd, units := c.un + 3 } : Around) _ _ _ _
  rw [hr.2.2]
  exact K _ h₁ tk₁ O' R' (fun b lt q => q.elim (fun z => Nat.lt_irrefl _ (z ▸ lt)) fun z => Nat.lt_asymm lt (hidOcc b z)) S' _ _ (fun _ _ x => x) (fun _ x => x) (fun _ _ x => x)
theorem FnX.intro' {G : Gx} {f : Addr} {fd : FuncData} {body : List Stmt} {names : List Str} {args : List PV} {n : Nat} {Q : PV → Prop} {X : List (Str × PV) → Prop} {oc : Value} {od : Option Addr} {osl : Array (Option Value)}
    (ho : G.K.lookup f = some ⟨oc, od, .func fd, osl⟩) (hbody : fd.body = .stmts body) (hcd : codeIn G.K fd.code fd.qualname = true)
    (hbind : ∀ c st h tk vals, Cx.Ok G c → St G c st h → VRs G (VW c st h) vals args → BindsTo (G.sh h tk) fd ⟨vals, []⟩ (names.zip vals)) (hnd : names.Nodup)
    (hkind : (names.all fun y => fd.scope.names.lookup y == some .local || fd.scope.names.lookup y == some .cell) = true)
    (h : ∀ h₀ outer fr L dp un gd hid m, Cx.Ok G (fcx fd f h₀ outer fr L dp un gd hid) → (fcx fd f h₀ outer fr L dp un gd hid).room n → (∀ b, L < b → ¬ hid b) →
      Exs G (fcx fd f h₀ outer fr L dp un gd hid) ⟨m, names.zip (args.map LV.v), (cellsFrom (L + 1) fd.scope.names []).map (·.2)⟩ body (fun _ => Q .none) Q X)
    (hcn : ((cellsFrom 0 fd.scope.names []).map (·.1)).Nodup) (hclo : autoParam (fd.closure = []) aRfl) (hgl : autoParam (fd.globals = mainGlobals) aRfl) (hbl : autoParam (fd.builtins = builtinsNs) aRfl)
    (hco : autoParam (fd.scope.isCoroutine = false) aRfl) (hgen : autoParam (fd.scope.isGenerator = false) aRfl) (hk : autoParam (fd.scope.kind = .function) aRfl) : FnX G (.adr f) args (n + 1) Q X := by
  intro c st O hr hh tk vs S rs Q' E' z zx
  refine rs.ofCons fun vf vals rf rs => rf.ofAdr ?_
  show wpAny _ _ (call (.ref f) vals []) _ _ _
  refine call_core ho hbody hcd hbind hnd hkind hcn hclo hgl hbl hco hgen hk O hr S rs fun m h₁ tk₁ O' R' hL S' Qg Eg kr kn ke => ?_
  refine h _ _ _ _ _ _ _ _ m O' R' hL h₁ tk₁ S' _ _ (fun st'' h'' tk'' S'' v'' q'' => ?_) (fun v q st'' h'' tk'' S'' v'' r'' q'' => ?_) (fun e l h'' tk'' wr st'' x'' q'' => ?_)
  · exact kn _ (z .none .none h'' tk'' (Step.back O S S''.F S''.glb) .none q'')
  · refine kr _ _ (z v q h'' tk'' (Step.back O S S''.F S''.glb) (r''.mono fun b o e => ?_) q'')
    rw [view_some] at e ⊢
    exact ⟨fun y => e.1 (.inl (.inr y)), e.2⟩
  · refine ke _ _ ?_
    rw [hr.2.2]
    refine leave_exn (c := icx G fd f c st hh) O' rfl x'' fun h3 wr3 x3 D3 => ?_
    have fresh : ∀ b ∈ wr3, hh.get? b = none := fun b hb => by
      cases w : hh.get? b with
      | none => rfl
      | some o =>
        have e1 : (hideAll hh (c.L :: c.M G)).get? b = some o := hideAll_get _ w (x3.W.M b hb)
        have e0 : (hideAll hh (c.L :: c.M G)).get? b = none := x3.W.h0 b hb
        exact clash e0 e1
    have s3 := Step.back O S x3.S.F x3.S.glb
    refine zx e l h3 tk'' wr3 ⟨x3.mem, S.hide O s3 fresh x3.wo, WrOk.of O S fresh, x3.wo, fun b hb q => ?_, ⟨fun b o n1 _ e => s3.kle.keep b o n1 e, fun b q => .inl q⟩, _, D3, .inr (.inl rfl)⟩ D3 q'' fresh
    obtain ⟨o, w⟩ := S.occ b q
    rw [fresh b hb] at w; cases w
theorem FnX.intro {G : Gx} {f : Addr} {fd : FuncData} {body : List Stmt} {names : List Str} {args : List PV} {n : Nat} {Q : PV → Prop} {X : List (Str × PV) → Prop} {oc : Value} {od : Option Addr} {osl : Array (Option Value)}
    (ho : G.K.lookup f = some ⟨oc, od, .func fd, osl⟩) (hbody : fd.body = .stmts body) (hcd : codeIn G.K fd.code fd.qualname = true)
    (hbind : ∀ c st h tk vals, Cx.Ok G c → St G c st h → VRs G (VW c st h) vals args → BindsTo (G.sh h tk) fd ⟨vals, []⟩ (names.zip vals)) (hnd : names.Nodup)
    (hkind : (names.all fun y => fd.scope.names.lookup y == some .local || fd.scope.names.lookup y == some .cell) = true)
    (h : ∀ h₀ outer fr L dp un gd hid m, Cx.Ok G (fcx fd f h₀ outer fr L dp un gd hid) → (fcx fd f h₀ outer fr L dp un gd hid).room n →
      Exs G (fcx fd f h₀ outer fr L dp un gd hid) ⟨m, names.zip (args.map LV.v), (cellsFrom (L + 1) fd.scope.names []).map (·.2)⟩ body (fun _ => Q .none) Q X)
    (hcn : ((cellsFrom 0 fd.scope.names []).map (·.1)).Nodup) (hclo : autoParam (fd.closure = []) aRfl) (hgl : autoParam (fd.globals = mainGlobals) aRfl) (hbl : autoParam (fd.builtins = builtinsNs) aRfl)
    (hco : autoParam (fd.scope.isCoroutine = false) aRfl) (hgen : autoParam (fd.scope.isGenerator = false) aRfl) (hk : autoParam (fd.scope.kind = .function) aRfl) : FnX G (.adr f) args (n + 1) Q X :=
  FnX.intro' ho hbody hcd hbind hnd hkind (fun h₀ outer fr L dp un gd hid m O r _ => h h₀ outer fr L dp un gd hid m O r) hcn hclo hgl hbl hco hgen hk
theorem Fn.intro {G : Gx} {f : Addr} {fd : FuncData} {body : List Stmt} {names : List Str} {args : List PV} {n : Nat} {Q : PV → Prop} {oc : Value} {od : Option Addr} {osl : Array (Option Value)}
    (ho : G.K.lookup f = some ⟨oc, od, .func fd, osl⟩) (hbody : fd.body = .stmts body) (hcd : codeIn G.K fd.code fd.qualname = true)
    (hbind : ∀ c st h tk vals, Cx.Ok G c → St G c st h → VRs G (VW c st h) vals args → BindsTo (G.sh h tk) fd ⟨vals, []⟩ (names.zip vals)) (hnd : names.Nodup)
    (hkind : (names.all fun y => fd.scope.names.lookup y == some .local || fd.scope.names.lookup y == some .cell) = true)
    (h : ∀ h₀ outer fr L dp un gd hid m, Cx.Ok G (fcx fd f h₀ outer fr L dp un gd hid) → (fcx fd f h₀ outer fr L dp un gd hid).room n →
      Exs G (fcx fd f h₀ outer fr L dp un gd hid) ⟨m, names.zip (args.map LV.v), (cellsFrom (L + 1) fd.scope.names []).map (·.2)⟩ body (fun _ => Q .none) Q fun _ => False)
    (hcn : ((cellsFrom 0 fd.scope.names []).map (·.1)).Nodup) (hclo : autoParam (fd.closure = []) aRfl) (hgl : autoParam (fd.globals = mainGlobals) aRfl) (hbl : autoParam (fd.builtins = builtinsNs) aRfl)
    (hco : autoParam (fd.scope.isCoroutine = false) aRfl) (hgen : autoParam (fd.scope.isGenerator = false) aRfl) (hk : autoParam (fd.scope.kind = .function) aRfl) : Fn G (.adr f) args (n + 1) Q :=
  (FnX.intro ho hbody hcd hbind hnd hkind h hcn hclo hgl hbl hco hgen hk).fn
end
section
noncomputable abbrev AS.set (st : AS) (x : Str) (q : PV) (m' : Str → Option Value) : AS := ⟨m', (x, .v q) :: st.ρ, st.hc⟩
section
variable {G : Gx} {c : Cx} {st : AS} {h h' : Heap}
theorem hid_set {x : Str} {q : PV} {m' : Str → Option Value} {b : Addr} (e : Hid c (st.set x q m') b) : Hid c st b := by
  rcases e with e | e | ⟨y, its, e⟩
  · exact .inl e
  · exact .inr (.inl e)
  · refine .inr (.inr ⟨y, its, ?_, e.2⟩)
    have e := e.1
    rw [List.lookup_cons] at e
    split at e
    · cases e
    · exact e
theorem lookup_set_mut {x y : Str} {q : PV} {k : MK} (e : List.lookup y ((x, LV.v q) :: st.ρ) = some (.mut k)) : y ≠ x ∧ st.ρ.lookup y = some (.mut k) := by
  rw [List.lookup_cons] at e
  split at e
  · cases e
  · rename_i n
    exact ⟨by simpa using n, e⟩
theorem lookup_set_v {x y : Str} {q p : PV} (e : List.lookup y ((x, LV.v q) :: st.ρ) = some (.v p)) : (y = x ∧ p = q) ∨ (y ≠ x ∧ st.ρ.lookup y = some (.v p)) := by
  rw [List.lookup_cons] at e
  split at e
  · rename_i n; cases e; exact .inl ⟨by simpa using n, rfl⟩
  · rename_i n; exact .inr ⟨by simpa using n, e⟩
theorem own_set {x : Str} {q : PV} {m' : Str → Option Value} {b : Addr} (e : Own G c (st.set x q m') b) : Own G c st b := by
  rcases e with e | e | e | e | ⟨y, its, e⟩
  · exact .inl e
  · exact .inr (.inl e)
  · exact .inr (.inr (.inl e))
  · exact .inr (.inr (.inr (.inl e)))
  · exact .inr (.inr (.inr (.inr ⟨y, its, (lookup_set_mut e.1).2, e.2⟩)))
theorem kle_at {st' : AS} {d : Addr} (hs : Heap.SameBut d h h') (hd : Own G c st d) (hh : ∀ b, Own G c st' b → Own G c st b) : KLe G c st h st' h' :=
  ⟨fun b o n e => (hs.2 b fun q => n (q ▸ hd)).trans e, fun b q => .inl (hh b q)⟩
theorem St.put_local (O : Cx.Ok G c) (S : St G c st h) (hm : c.mf = none) {x : Str} {v : Value} {q : PV} {m' : Str → Option Value} (hx : c.env.kindOf x = some .local) (r : VR G (VW c st h) v q)
    (em : ∀ y, m' y = if y = x then some v else st.m y) (hn : h'.Ns c.env.locals m') (hs : Heap.SameBut c.env.locals h h') : St G c (st.set x q m') h' ∧ KLe G c st h (st.set x q m') h' := by
  have hL := (O.loc hm).1
  rw [hL] at hn hs
  have KV : KLe G c st h (st.set x q m') h' := kle_at (c := c) (st' := st.set x q m') hs (.inr (.inl rfl)) fun b => own_set
  have V := KV.vle O
  have ne : ∀ b, ¬ c.hid b → b ≠ c.L := fun b n e => n (e ▸ O.hLh)
  have F' : Fr c.h₀ c.L h' m' := by have := S.F; rw [hm] at this; exact this.set hn hs
  refine ⟨{ F := by rw [hm]; exact F', Nn := by rw [hL]; exact hn, ρ := fun y p e => ?_, mu := fun y kk e => ?_, nd := fun y z kk kk' n e e' => ?_, occ' := fun b e => ?_, cocc := fun y ca e => (by obtain ⟨o, q⟩ := S.cocc y ca e; exact ⟨o, (hs.2 ca (O.cel y ca e).2).trans q⟩), own := fun b hb => (by obtain ⟨e1, e2, e3, u, o, e4, e5⟩ := S.own b hb; exact ⟨e1, e2, e3, u, o, (hs.2 b e3).trans e4, e5⟩), glb := ?_ }, KV⟩
  · rcases lookup_set_v e with ⟨rfl, rfl⟩ | ⟨n, e⟩
    · exact .inl ⟨hx, v, by show m' y = _; rw [em, if_pos rfl], r.mono V⟩
    · rcases S.ρ y p e with ⟨k, u, e1, r1⟩ | ⟨k, ca, u, e1, ⟨o, e2, e3⟩, r1⟩
      · exact .inl ⟨k, u, by show m' y = _; rw [em, if_neg n]; exact e1, r1.mono V⟩
      · exact .inr ⟨k, ca, u, e1, ⟨o, (hs.2 ca (O.cel y ca e1).2).trans e2, e3⟩, r1.mono V⟩
  · obtain ⟨n, e⟩ := lookup_set_mut e
    obtain ⟨k, e1, e2, e3, e4⟩ := S.mu y kk e
    exact ⟨k, by show m' y = _; rw [em, if_neg n]; exact e1, e2, e3.mono V fun b hb o eb => (hs.2 b (ne b (e2 b hb).1)).trans eb, e4⟩
  · exact S.nd y z kk kk' n (lookup_set_mut e).2 (lookup_set_mut e').2
  · obtain ⟨o, e1, nc⟩ := S.occ' b (hid_set e)
    by_cases q : b = c.L
    · obtain ⟨o', _, _, e2, d, _⟩ := hn; exact ⟨o', q ▸ e2, .dic d⟩
    · exact ⟨o, (hs.2 b q).trans e1, nc⟩
  · exact S.glb.keep O.hLM ⟨_, S.F.ns⟩ fun b o n e => (hs.2 b n).trans e
theorem Glb.but {fr : List (Addr × (Str → Option Value))} (g : Glb G fr h) {d : Addr} (hd : d ∉ fr.map (·.1) ++ G.M) (k : ∀ b o, b ≠ d → h.get? b = some o → h'.get? b = some o) (nf : ∀ o vs, h.get? d = some o → o.data ≠ .fields vs) (nl : ∀ S, G.S = some S → S ≠ d) : Glb G fr h' := by
  have nM : ∀ b ∈ G.M, b ≠ d := fun b hb q => hd (q ▸ List.mem_append_right _ hb)
  have tab : ∀ kk : CloK, TabSt G.M h kk → TabSt G.M h' kk := fun kk t => by
    rcases t with t | ⟨c', oc, vs, tt, e1, e2, e3, e4, e5⟩
    · refine .inl (k _ _ (fun q => ?_) t)
      rw [q] at t; exact nf _ _ t rfl
    · refine .inr ⟨c', oc, vs, tt, k _ _ (fun q => ?_) e1, k _ _ (fun q => ?_) e2, e3, e4, e5⟩
      · rw [q] at e1; exact nf _ _ e1 rfl
      · rw [q] at e2; exact nf _ _ e2 e3
  refine ⟨fun b hb => ?_, fun p hp => (g.frs p hp).at' fun o e => k _ o (fun q => hd (q ▸ List.mem_append_left _ (List.mem_map_of_mem hp))) e, fun S e => ?_, tab _ g.tput, tab _ g.tlam⟩
  · obtain ⟨o, e, n⟩ := g.has b hb; exact ⟨o, k b o (nM b hb) e, n⟩
  · obtain ⟨a, b, ta, tb, ⟨n, e1, ed⟩, r⟩ := g.src S e
    exact ⟨a, b, ta, tb, ⟨n, k _ _ (nl S e) e1, ed⟩, r⟩
theorem St.put_cell (O : Cx.Ok G c) (S : St G c st h) (hm : c.mf = none) {x : Str} {v : Value} {q : PV} {ca : Addr} {v₀ : Option Value} (hx : c.env.kindOf x = some .cell) (hc : c.env.cells.lookup x = some ca) (hh : ca ∈ st.hc)
    (h0 : h.IsCell ca v₀) (r : VR G (VW c st h) v q) (hn : h'.IsCell ca (some v)) (hs : Heap.SameBut ca h h') : St G c (st.set x q st.m) h' ∧ KLe G c st h (st.set x q st.m) h' := by
  have KV : KLe G c st h (st.set x q st.m) h' := kle_at (c := c) (st' := st.set x q st.m) hs (.inr (.inr (.inr (.inl hh)))) fun b => own_set
  have V := KV.vle O
  obtain ⟨cM, cL⟩ := O.cel x ca hc
  obtain ⟨oc, ec, dc⟩ := h0
  have hL := (O.loc hm).1
  have c0 := (S.own ca hh).1
  have F : Fr c.h₀ c.L h st.m := by have := S.F; rwa [hm] at this
  have F' : Fr c.h₀ c.L h' st.m := ⟨F.ns.sameBut hs (Ne.symm cL), fun b o e => (hs.2 b fun q => by exact clash c0 (q ▸ e)).trans (F.keep b o e), F.above⟩
  refine ⟨{ F := by rw [hm]; exact F', Nn := by rw [hL]; exact F'.ns, ρ := fun y p e => ?_, mu := fun y kk e => ?_, nd := fun y z kk kk' n e e' => ?_, occ' := fun b e => ?_, cocc := fun y cb e => (by obtain ⟨o, q⟩ := S.cocc y cb e; by_cases z : cb = ca; exact (by obtain ⟨o', e2, _⟩ := hn; exact ⟨o', z ▸ e2⟩); exact ⟨o, (hs.2 cb z).trans q⟩), own := fun b hb => (by obtain ⟨e1, e2, e3, u, o, e4, e5⟩ := S.own b hb; exact ⟨e1, e2, e3, if z : b = ca then ⟨_, z ▸ hn⟩ else ⟨u, o, (hs.2 b z).trans e4, e5⟩⟩), glb := ?_ }, KV⟩
  · rcases lookup_set_v e with ⟨rfl, rfl⟩ | ⟨n, e⟩
    · exact .inr ⟨.inl hx, ca, v, hc, hn, r.mono V⟩
    · rcases S.ρ y p e with ⟨k, u, e1, r1⟩ | ⟨k, cb, u, e1, ⟨o, e2, e3⟩, r1⟩
      · exact .inl ⟨k, u, e1, r1.mono V⟩
      · refine .inr ⟨k, cb, u, e1, ⟨o, (hs.2 cb fun q => n ?_).trans e2, e3⟩, r1.mono V⟩
        exact name_of_addr (O.apart hm) (mem_of_lookup e1) (q ▸ mem_of_lookup hc)
  · obtain ⟨n, e⟩ := lookup_set_mut e
    obtain ⟨k, e1, e2, e3, e4⟩ := S.mu y kk e
    exact ⟨k, e1, e2, e3.mono V fun b hb o eb => (hs.2 b fun q => (e2 b hb).2.1 (q ▸ hh)).trans eb, e4⟩
  · exact S.nd y z kk kk' n (lookup_set_mut e).2 (lookup_set_mut e').2
  · obtain ⟨o, e1, nc⟩ := S.occ' b (hid_set e)
    by_cases q : b = ca
    · obtain ⟨o', e2, d⟩ := hn; exact ⟨o', q ▸ e2, .cell d⟩
    · exact ⟨o, (hs.2 b q).trans e1, nc⟩
  · exact S.glb.but cM (fun b o n e => (hs.2 b n).trans e) (fun o vs e d => by rw [ec] at e; cases e; rw [dc] at d; cases d) fun S' e q => cM (q ▸ mem_M (O.hS S' e))
end
section
variable {G : Gx} {c : Cx} {st : AS}
theorem Exn.pre {h h2 h3 : Heap} {st2 st3 : AS} {e : Addr} {l : List (Str × PV)} {wr : List Addr} (k : KLe G c st h st2 h2) (x : Exn G c st2 h2 e l h3 wr st3) : Exn G c st h e l h3 wr st3 :=
  ⟨x.mem, x.S, x.W, x.wo, x.nh, ⟨fun b o n1 n2 q => x.kw.keep b o (fun z => (k.own b z).elim n1 fun w => by rw [q] at w; cases w) n2 (k.keep b o n1 q), fun b q => by
    by_cases z : Own G c st b
    · exact .inl z
    · cases w : h.get? b with
      | none => exact .inr rfl
      | some o =>
        rcases x.kw.own b q with v | v
        · rcases k.own b v with u | u
          · exact (z u).elim
          · rw [w] at u; cases u
        · have := k.keep b o z w; exact clash v this⟩, x.dat⟩
theorem Exs.nil {N : AS → Prop} {R : PV → Prop} {X : List (Str × PV) → Prop} (q : N st) : Exs G c st [] N R X := fun h tk S Q' E' zn zr zx => wpAny_execs_nil (zn st h tk S (KLe.refl _ _ _ _) q)
theorem Exs.cons {s : Stmt} {rest : List Stmt} {N : AS → Prop} {R : PV → Prop} {X : List (Str × PV) → Prop} (h : Ex G c st s (fun st' => Exs G c st' rest N R X) R X) : Exs G c st (s :: rest) N R X := fun h₁ tk S Q' E' zn zr zx =>
  wpAny_execs_cons (h h₁ tk S _ _ (fun st' h2 tk2 S2 v2 q2 => q2 h2 tk2 S2 _ _ (fun st3 h3 tk3 S3 v3 q3 => zn st3 h3 tk3 S3 (v2.trans v3) q3) (fun v q st3 h3 tk3 S3 v3 r3 q3 => zr v q st3 h3 tk3 S3 (v2.trans v3) r3 q3) fun e l h3 tk3 wr st3 x q => zx e l h3 tk3 wr st3 (x.pre v2) q)
    (fun v q st3 h3 tk3 S3 v3 r3 q3 => zr v q st3 h3 tk3 S3 v3 r3 q3) zx)
theorem Ex.mono {s : Stmt} {N N₂ : AS → Prop} {R R₂ : PV → Prop} {X X₂ : List (Str × PV) → Prop} (h : Ex G c st s N R X) (kn : ∀ t, N t → N₂ t) (kr : ∀ q, R q → R₂ q) (kx : ∀ q, X q → X₂ q) : Ex G c st s N₂ R₂ X₂ := fun h₁ tk S Q' E' zn zr zx =>
  h h₁ tk S Q' E' (fun st' h2 tk2 S2 v2 q2 => zn st' h2 tk2 S2 v2 (kn _ q2)) (fun v q st3 h3 tk3 S3 v3 r3 q3 => zr v q st3 h3 tk3 S3 v3 r3 (kr _ q3)) fun e l h3 tk3 wr st3 x q => zx e l h3 tk3 wr st3 x (kx _ q)
theorem Exs.mono {s : List Stmt} {N N₂ : AS → Prop} {R R₂ : PV → Prop} {X X₂ : List (Str × PV) → Prop} (h : Exs G c st s N R X) (kn : ∀ t, N t → N₂ t) (kr : ∀ q, R q → R₂ q) (kx : ∀ q, X q → X₂ q) : Exs G c st s N₂ R₂ X₂ := fun h₁ tk S Q' E' zn zr zx =>
  h h₁ tk S Q' E' (fun st' h2 tk2 S2 v2 q2 => zn st' h2 tk2 S2 v2 (kn _ q2)) (fun v q st3 h3 tk3 S3 v3 r3 q3 => zr v q st3 h3 tk3 S3 v3 r3 (kr _ q3)) fun e l h3 tk3 wr st3 x q => zx e l h3 tk3 wr st3 x (kx _ q)
theorem Ex.ret (O : Cx.Ok G c) {e : Expr} {pos : Pos} {N : AS → Prop} {R : PV → Prop} {X : List (Str × PV) → Prop} (h : Ev G c st e R) : Ex G c st (.Return (some e) pos) N R X := fun h₁ tk S Q' E' zn zr zx =>
  wpAny_Return_some (h h₁ tk S _ _ fun v q h2 tk2 s2 r2 q2 => zr v q st h2 tk2 (S.step O s2) s2.kle r2 q2)
theorem Ex.if (O : Cx.Ok G c) {t : Expr} {b o : List Stmt} {pos : Pos} {N : AS → Prop} {R : PV → Prop} {X : List (Str × PV) → Prop} (h : Tr G c st t fun x => if x = true then Exs G c st b N R X else Exs G c st o N R X) : Ex G c st (.If t b o pos) N R X := fun h₁ tk S Q' E' zn zr zx =>
  wpAny_If (h h₁ tk S _ _ fun x h2 tk2 s2 q2 => by
    have v2 := s2.kle
    cases x with
    | true => exact q2 h2 tk2 (S.step O s2) _ _ (fun st3 h3 tk3 S3 v3 q3 => zn st3 h3 tk3 S3 (v2.trans v3) q3) (fun v q st3 h3 tk3 S3 v3 r3 q3 => zr v q st3 h3 tk3 S3 (v2.trans v3) r3 q3) fun e l h3 tk3 wr st3 x q => zx e l h3 tk3 wr st3 (x.pre v2) q
    | false => exact q2 h2 tk2 (S.step O s2) _ _ (fun st3 h3 tk3 S3 v3 q3 => zn st3 h3 tk3 S3 (v2.trans v3) q3) (fun v q st3 h3 tk3 S3 v3 r3 q3 => zr v q st3 h3 tk3 S3 (v2.trans v3) r3 q3) fun e l h3 tk3 wr st3 x q => zx e l h3 tk3 wr st3 (x.pre v2) q)
theorem St.put_comp (O : Cx.Ok G c) {h h' : Heap} (S : St G c st h) {m₀ : Str → Option Value} (hm : c.mf = some m₀) {x : Str} {v : Value} {q : PV} {m' : Str → Option Value} (hx : c.env.kindOf x = some .local) (r : VR G (VW c st h) v q)
    (em : ∀ y, m' y = if y = x then some v else st.m y) (hn : h'.Ns c.env.locals m') (hs : Heap.SameBut c.env.locals h h') : St G c (st.set x q m') h' ∧ KLe G c st h (st.set x q m') h' := by
  obtain ⟨lL, lM, lh, l0⟩ := O.locC m₀ hm
  have KV : KLe G c st h (st.set x q m') h' := kle_at (c := c) (st' := st.set x q m') hs (.inr (.inr (.inl rfl))) fun b => own_set
  have V := KV.vle O
  have cellNe : ∀ ca v, h.IsCell ca v → ca ≠ c.env.locals := fun ca v ⟨o, e, d⟩ q => by
    obtain ⟨o', es, ep, e', d', _⟩ := S.Nn
    rw [q, e'] at e; cases e; rw [d'] at d; cases d
  have F : Fr c.h₀ c.L h m₀ := by have := S.F; rwa [hm] at this
  have F' : Fr c.h₀ c.L h' m₀ := ⟨F.ns.sameBut hs (Ne.symm lL), fun b o e => (hs.2 b fun q => by exact clash l0 (q ▸ e)).trans (F.keep b o e), F.above⟩
  have occ' : ∀ b o, h.get? b = some o → ∃ o, h'.get? b = some o := fun b o e => by
    by_cases q : b = c.env.locals
    · obtain ⟨o', _, _, e', _⟩ := hn; exact ⟨o', q ▸ e'⟩
    · exact ⟨o, (hs.2 b q).trans e⟩
  refine ⟨{ F := by rw [hm]; exact F', Nn := hn, ρ := fun y p e => ?_, mu := fun y kk e => ?_, nd := fun y z kk kk' n e e' => ?_, occ' := fun b e => ?_, cocc := fun y ca e => (by obtain ⟨o, q⟩ := S.cocc y ca e; exact occ' _ _ q), own := fun b hb => (by obtain ⟨e1, e2, e3, u, o, e4, e5⟩ := S.own b hb; exact ⟨e1, e2, e3, u, o, (hs.2 b (cellNe b u ⟨o, e4, e5⟩)).trans e4, e5⟩), glb := ?_ }, KV⟩
  · rcases lookup_set_v e with ⟨rfl, rfl⟩ | ⟨n, e⟩
    · exact .inl ⟨hx, v, by show m' y = _; rw [em, if_pos rfl], r.mono V⟩
    · rcases S.ρ y p e with ⟨k, u, e1, r1⟩ | ⟨k, ca, u, e1, ⟨o, e2, e3⟩, r1⟩
      · exact .inl ⟨k, u, by show m' y = _; rw [em, if_neg n]; exact e1, r1.mono V⟩
      · exact .inr ⟨k, ca, u, e1, ⟨o, (hs.2 ca (cellNe ca _ ⟨o, e2, e3⟩)).trans e2, e3⟩, r1.mono V⟩
  · obtain ⟨n, e⟩ := lookup_set_mut e
    obtain ⟨k, e1, e2, e3, e4⟩ := S.mu y kk e
    exact ⟨k, by show m' y = _; rw [em, if_neg n]; exact e1, e2, e3.mono V fun b hb o eb => (hs.2 b fun q => (e2 b hb).1 (q ▸ lh)).trans eb, e4⟩
  · exact S.nd y z kk kk' n (lookup_set_mut e).2 (lookup_set_mut e').2
  · obtain ⟨o, e1, nc⟩ := S.occ' b (hid_set e)
    by_cases q : b = c.env.locals
    · obtain ⟨o', _, _, e', d, _⟩ := hn; exact ⟨o', q ▸ e', .dic d⟩
    · exact ⟨o, (hs.2 b q).trans e1, nc⟩
  · obtain ⟨oL, es, ep, eL, dL, _⟩ := S.Nn
    exact S.glb.but lM (fun b o n e => (hs.2 b n).trans e) (fun o vs e d => by rw [eL] at e; cases e; rw [dL] at d; cases d) fun S' e q => lM (q ▸ mem_M (O.hS S' e))
noncomputable def Stores (c : Cx) (st : AS) (x : Str) : Prop := c.env.kindOf x = some .local ∨ (c.mf = none ∧ c.env.kindOf x = some .cell ∧ ∃ ca, c.env.cells.lookup x = some ca ∧ ca ∈ st.hc)
theorem store_of (O : Cx.Ok G c) {x : Str} (hx : Stores c st x) {h : Heap} {tk : Nat} (S : St G c st h) {v : Value} {q : PV} (r : VR G (VW c st h) v q) {Q' : Unit → Shared → Prop} {E' : Value → Shared → Prop}
    (z : ∀ m' h' tk', St G c (st.set x q m') h' → KLe G c st h (st.set x q m') h' → Q' () (G.sh h' tk')) : wpAny (model G.prog G.w) c.A (storeName c.env x v) Q' E' (G.sh h tk) := by
  rcases hx with k | ⟨hm, k, ca, e1, e2⟩
  · refine wpAny_storeName_local k S.Nn (fun h' hn hs => ?_) (by rw [O.ke]; rfl)
    obtain ⟨a, b⟩ : _ ∧ _ := by
      cases hm : c.mf with
      | none => exact S.put_local O hm k r (m' := fun y => if y = x then some v else st.m y) (fun y => rfl) hn hs
      | some m₀ => exact S.put_comp O hm k r (m' := fun y => if y = x then some v else st.m y) (fun y => rfl) hn hs
    exact z _ h' _ a b
  · obtain ⟨_, _, _, v₀, e3⟩ := S.own ca e2
    refine wpAny_storeName_cell O.ke k e1 e3 fun h' hn hs => ?_
    obtain ⟨a, b⟩ := S.put_cell O hm k e1 e2 e3 r hn hs
    exact z _ h' _ a b
theorem Ex.assign (O : Cx.Ok G c) {x : Str} {xp : Pos} {e : Expr} {pos : Pos} {N : AS → Prop} {R : PV → Prop} {X : List (Str × PV) → Prop} (hx : Stores c st x) (h : Ev G c st e fun q => ∀ m', N (st.set x q m'))
    (hs : autoParam (swapsWith e (some (.Name x xp)) pos.line c.env = pure false) aRfl) : Ex G c st (.Assign [.Name x xp] e pos) N R X := fun h₁ tk S Q' E' zn zr zx =>
  wpAny_Assign_Name (h h₁ tk S _ _ fun v q h2 tk2 s2 r2 q2 => store_of O hx (S.step O s2) r2 fun m' h3 tk3 S3 v3 => zn _ h3 tk3 S3 (s2.kle.trans v3) (q2 m')) hs
end
end
section
mutual
noncomputable def PV.d : PV → PyData
  | .bool b => .bool b
  | .int i => .int i
  | .str x => .str x
  | .tup l => .tuple (PV.ds l)
  | .lst l => .list (PV.ds l)
  | .none => .none
  | .dct _ => .none
  | .ins _ _ => .none
  | .adr _ => .none
  | .ty _ => .none
  | .bi _ => .none
  | .src => .none
  | .rng _ => .none
  | .raw _ => .none
  | .put _ => .none
  | .lam _ => .none
noncomputable def PV.ds : List PV → List PyData
  | [] => []
  | q :: l => q.d :: PV.ds l
end
mutual
noncomputable def PV.isD : PV → Bool
  | .none | .bool _ | .int _ | .str _ => true
  | .tup l => PV.isDs l
  | .lst l => PV.isDs l
  | _ => false
noncomputable def PV.isDs : List PV → Bool
  | [] => true
  | q :: l => q.isD && PV.isDs l
end
theorem VR.reads {G : Gx} {V : Addr → Option Obj} {h : Heap} (k : ∀ b o, V b = some o → h.get? b = some o) {v : Value} {q : PV} (r : VR G V v q) : q.isD = true → ∃ as, Reads h v q.d as :=
  VR.rec (motive_1 := fun v q _ => q.isD = true → ∃ as, Reads h v q.d as) (motive_2 := fun vs l _ => PV.isDs l = true → ∃ as, ReadsAll h vs (PV.ds l) as) (motive_3 := fun _ _ _ => True)
    (fun _ => ⟨_, .none⟩) (fun b _ => ⟨_, .bool b⟩) (fun i t _ => ⟨_, .int i t⟩) (fun x t _ => ⟨_, .str x t⟩) (fun _ e => nomatch e) (fun _ e => nomatch e) (fun _ e => nomatch e) (fun _ e => nomatch e) (fun _ e => nomatch e) (fun _ _ _ _ e => nomatch e)
    (fun e _ ih hd => (ih hd).elim fun as q => ⟨as, reads_tuple_at (k _ _ e) rfl rfl (by simpa using q)⟩) (fun e _ ih hd => (ih hd).elim fun as q => ⟨_, reads_list_at (k _ _ e) rfl rfl (by simpa using q)⟩)
    (fun _ _ _ _ e => nomatch e) (fun _ _ _ _ _ _ _ e => nomatch e) (fun _ _ _ _ _ _ _ _ e => nomatch e) (fun _ _ _ _ _ _ _ _ e => nomatch e)
    (fun _ => ⟨_, .nil⟩) (fun _ _ ih ihs hd => (ih (Bool.and_eq_true_iff.mp hd).1).elim fun as q => (ihs (Bool.and_eq_true_iff.mp hd).2).elim fun bs q' => ⟨_, .cons q q'⟩) trivial (fun _ _ _ _ _ _ => trivial) r
noncomputable def PV.ok (q : PV) : Bool := q.isD && SeqAt.shaped q.d
mutual
noncomputable def PV.lay : PV → Bool
  | .none | .bool _ | .int _ => true
  | .str x => x.cps.toList.all fun c => decide (c < 0x110000)
  | .tup l => PV.lays l
  | .lst l => PV.lays l
  | _ => false
noncomputable def PV.lays : List PV → Bool
  | [] => true
  | q :: l => q.lay && PV.lays l
end
mutual
noncomputable def PV.dep : PV → Nat
  | .tup l => PV.deps l + 1
  | .lst l => PV.deps l + 1
  | _ => 0
noncomputable def PV.deps : List PV → Nat
  | [] => 0
  | q :: l => max q.dep (PV.deps l)
end
theorem PV.dS (x : Str) : (PV.str x).d = .str x := rfl
theorem PV.dT (l : List PV) : (PV.tup l).d = .tuple (PV.ds l) := rfl
theorem PV.dL (l : List PV) : (PV.lst l).d = .list (PV.ds l) := rfl
theorem PV.ds0 : PV.ds [] = [] := rfl
theorem PV.ds1 (q : PV) (l : List PV) : PV.ds (q :: l) = q.d :: PV.ds l := rfl
theorem PV.layS (x : Str) : (PV.str x).lay = x.cps.toList.all fun c => decide (c < 0x110000) := rfl
theorem PV.layT (l : List PV) : (PV.tup l).lay = PV.lays l := rfl
theorem PV.layL (l : List PV) : (PV.lst l).lay = PV.lays l := rfl
theorem PV.lays1 (q : PV) (l : List PV) : PV.lays (q :: l) = (q.lay && PV.lays l) := rfl
theorem PV.depS (x : Str) : (PV.str x).dep = 0 := rfl
theorem PV.depT (l : List PV) : (PV.tup l).dep = PV.deps l + 1 := rfl
theorem PV.depL (l : List PV) : (PV.lst l).dep = PV.deps l + 1 := rfl
theorem PV.deps1 (q : PV) (l : List PV) : PV.deps (q :: l) = max q.dep (PV.deps l) := rfl
theorem PV.lay_of (q : PV) : q.lay = true → q.isD = true ∧ q.d.canLay0 = true :=
  PV.rec (motive_1 := fun q => q.lay = true → q.isD = true ∧ q.d.canLay0 = true) (motive_2 := fun l => PV.lays l = true → PV.isDs l = true ∧ PyData.canLayAll0 (PV.ds l) = true) (motive_3 := fun _ => True) (motive_4 := fun _ => True)
    (fun _ => ⟨rfl, by rfl⟩) (fun _ _ => ⟨rfl, by rfl⟩) (fun _ _ => ⟨rfl, by rfl⟩) (fun x h => ⟨rfl, by
      rw [PV.layS] at h
      rw [PV.dS, PyData.canLay0]
      unfold PyData.strOk
      rw [← Array.all_toList]; exact h⟩) (fun l ih h => ih h) (fun l ih h => ih h) (fun _ _ h => nomatch h) (fun _ _ _ h => nomatch h) (fun _ h => nomatch h) (fun _ h => nomatch h) (fun _ h => nomatch h) (fun h => nomatch h) (fun _ _ h => nomatch h) (fun _ _ h => nomatch h) (fun _ h => nomatch h) (fun _ h => nomatch h)
    (fun _ => ⟨rfl, by rfl⟩) (fun q l h1 h2 h => have h := Bool.and_eq_true_iff.mp h; ⟨Bool.and_eq_true_iff.mpr ⟨(h1 h.1).1, (h2 h.2).1⟩, Bool.and_eq_true_iff.mpr ⟨(h1 h.1).2, (h2 h.2).2⟩⟩) trivial (fun _ _ _ _ => trivial) (fun _ _ _ => trivial) q
theorem PV.dep_eq (q : PV) : q.d.depth ≤ q.dep :=
  PV.rec (motive_1 := fun q => q.d.depth ≤ q.dep) (motive_2 := fun l => PyData.depthAll (PV.ds l) ≤ PV.deps l) (motive_3 := fun _ => True) (motive_4 := fun _ => True)
    (Nat.zero_le _) (fun _ => Nat.zero_le _) (fun _ => Nat.zero_le _) (fun _ => Nat.zero_le _) (fun l ih => Nat.succ_le_succ ih) (fun l ih => Nat.succ_le_succ ih) (fun _ _ => Nat.zero_le _) (fun _ _ _ => Nat.zero_le _) (fun _ => Nat.zero_le _) (fun _ => Nat.zero_le _) (fun _ => Nat.zero_le _) (Nat.zero_le _) (fun _ _ => Nat.zero_le _) (fun _ _ => Nat.zero_le _) (fun _ => Nat.zero_le _) (fun _ => Nat.zero_le _)
    (Nat.zero_le _) (fun q l h1 h2 => Nat.max_le.mpr ⟨Nat.le_trans h1 (Nat.le_max_left ..), Nat.le_trans h2 (Nat.le_max_right ..)⟩) trivial (fun _ _ _ _ => trivial) (fun _ _ _ => trivial) q
theorem PV.ok_of {q : PV} (h : (q.lay && Nat.ble q.dep 64) = true) : q.ok = true := by
  rw [Bool.and_eq_true] at h
  have h1 := PV.lay_of q h.1
  have h2 := PV.dep_eq q
  have h3 := bleT h.2
  unfold PV.ok SeqAt.shaped
  rw [h1.1, h1.2]
  simp; omega
section
variable {G : Gx} {c : Cx} {st : AS}
theorem Cx.room.u {n : Nat} (h : c.room n) : c.A.units + 65 < cLine := by
  have := h.2; show c.un + 65 < 9900; omega
theorem op_eq {n : Nat} (hr : c.room n) {a b : PV} {Q : PV → Prop} (ha : a.ok = true) (hb : b.ok = true) (q : Q (.bool (PyData.eqv a.d b.d))) : Op2 G c st (compareOp .Eq) a b Q := fun h tk va vb S ra rb Q' E' z => by
  obtain ⟨h1, h2⟩ := Bool.and_eq_true_iff.mp ha
  obtain ⟨h3, h4⟩ := Bool.and_eq_true_iff.mp hb
  obtain ⟨as, r1⟩ := ra.reads (fun _ _ => VW.get) h1
  obtain ⟨bs, r2⟩ := rb.reads (fun _ _ => VW.get) h3
  exact eq_dataH r1 r2 h2 h4 (by have := hr.u; omega) (z _ _ _ _ S.refl (.bool _) q)
theorem op_ne {n : Nat} (hr : c.room n) {a b : PV} {Q : PV → Prop} (ha : a.ok = true) (hb : b.ok = true) (q : Q (.bool (!PyData.eqv a.d b.d))) : Op2 G c st (compareOp .NotEq) a b Q := fun h tk va vb S ra rb Q' E' z => by
  obtain ⟨h1, h2⟩ := Bool.and_eq_true_iff.mp ha
  obtain ⟨h3, h4⟩ := Bool.and_eq_true_iff.mp hb
  obtain ⟨as, r1⟩ := ra.reads (fun _ _ => VW.get) h1
  obtain ⟨bs, r2⟩ := rb.reads (fun _ _ => VW.get) h3
  exact ne_dataH r1 r2 h2 h4 (by have := hr.u; omega) (z _ _ _ _ S.refl (.bool _) q)
theorem Op2.ints {f : Value → Value → Sem Value} {a b : Int} {p : PV} {Q : PV → Prop} (q : Q p) (k : ∀ h tk t u (Q' E' : Value → Shared → Prop), (∀ v tk', (∀ V, VR G V v p) → Q' v (G.sh h tk')) → wpAny (model G.prog G.w) c.A (f (.int a t) (.int b u)) Q' E' (G.sh h tk)) : Op2 G c st f (.int a) (.int b) Q :=
  fun h tk va vb S ra rb Q' E' z => ra.ofInt fun t => rb.ofInt fun u => k h tk t u Q' E' fun v tk' r => z v p h tk' S.refl (r _) q
theorem Op2.strs {f : Value → Value → Sem Value} {a b : Str} {p : PV} {Q : PV → Prop} (q : Q p) (k : ∀ h tk t u (Q' E' : Value → Shared → Prop), (∀ v tk', (∀ V, VR G V v p) → Q' v (G.sh h tk')) → wpAny (model G.prog G.w) c.A (f (.str a t) (.str b u)) Q' E' (G.sh h tk)) : Op2 G c st f (.str a) (.str b) Q :=
  fun h tk va vb S ra rb Q' E' z => ra.ofStr fun t => rb.ofStr fun u => k h tk t u Q' E' fun v tk' r => z v p h tk' S.refl (r _) q
theorem Op1.ofI {f : Value → Sem Value} {a : Int} {p : PV} {Q : PV → Prop} (q : Q p) (k : ∀ h tk t (Q' E' : Value → Shared → Prop), (∀ v tk', (∀ V, VR G V v p) → Q' v (G.sh h tk')) → wpAny (model G.prog G.w) c.A (f (.int a t)) Q' E' (G.sh h tk)) : Op1 G c st f (.int a) Q :=
  fun h tk va S ra Q' E' z => ra.ofInt fun t => k h tk t Q' E' fun v tk' r => z v p h tk' S.refl (r _) q
theorem Op1.ofB {f : Value → Sem Value} {a : Bool} {p : PV} {Q : PV → Prop} (q : Q p) (k : ∀ h tk (Q' E' : Value → Shared → Prop), (∀ v tk', (∀ V, VR G V v p) → Q' v (G.sh h tk')) → wpAny (model G.prog G.w) c.A (f (.bool a)) Q' E' (G.sh h tk)) : Op1 G c st f (.bool a) Q :=
  fun h tk va S ra Q' E' z => ra.ofBool (k h tk Q' E' fun v tk' r => z v p h tk' S.refl (r _) q)
theorem op_eq_int {a b : Int} {Q : PV → Prop} (q : Q (.bool (a == b))) : Op2 G c st (compareOp .Eq) (.int a) (.int b) Q := Op2.ints q fun h tk t u Q' E' z => eq_int (z _ _ fun _ => .bool _)
theorem op_eq_str {a b : Str} {Q : PV → Prop} (q : Q (.bool (a == b))) : Op2 G c st (compareOp .Eq) (.str a) (.str b) Q := Op2.strs q fun h tk t u Q' E' z => eq_str (z _ _ fun _ => .bool _)
theorem op_ne_str {a b : Str} {Q : PV → Prop} (q : Q (.bool (a != b))) : Op2 G c st (compareOp .NotEq) (.str a) (.str b) Q := Op2.strs q fun h tk t u Q' E' z => ne_str (z _ _ fun _ => .bool _)
theorem op_ne_int {a b : Int} {Q : PV → Prop} (q : Q (.bool (a != b))) : Op2 G c st (compareOp .NotEq) (.int a) (.int b) Q := Op2.ints q fun h tk t u Q' E' z => ne_int (z _ _ fun _ => .bool _)
theorem op_lt_int {a b : Int} {Q : PV → Prop} (q : Q (.bool (decide (a < b)))) : Op2 G c st (compareOp .Lt) (.int a) (.int b) Q := Op2.ints q fun h tk t u Q' E' z => lt_int (z _ _ fun _ => .bool _)
theorem op_gt_int {a b : Int} {Q : PV → Prop} (q : Q (.bool (decide (a > b)))) : Op2 G c st (compareOp .Gt) (.int a) (.int b) Q := Op2.ints q fun h tk t u Q' E' z => gt_int (z _ _ fun _ => .bool _)
theorem op_ge_int {a b : Int} {Q : PV → Prop} (q : Q (.bool (decide (a ≥ b)))) : Op2 G c st (compareOp .GtE) (.int a) (.int b) Q := Op2.ints q fun h tk t u Q' E' z => ge_int (z _ _ fun _ => .bool _)
theorem op_add_int {a b : Int} {Q : PV → Prop} (q : Q (.int (a + b))) : Op2 G c st (binaryOp .Add) (.int a) (.int b) Q := Op2.ints q fun h tk t u Q' E' z => add_int (z _ _ fun _ => .int _ _)
theorem op_sub_int {a b : Int} {Q : PV → Prop} (q : Q (.int (a - b))) : Op2 G c st (binaryOp .Sub) (.int a) (.int b) Q := Op2.ints q fun h tk t u Q' E' z => sub_int (z _ _ fun _ => .int _ _)
theorem op_mul_int {a b : Int} {Q : PV → Prop} (hm : IntMulOk a b) (q : Q (.int (a * b))) : Op2 G c st (binaryOp .Mult) (.int a) (.int b) Q := Op2.ints q fun h tk t u Q' E' z => mul_int (z _ _ fun _ => .int _ _) hm
theorem op_mod_int {a b : Int} {Q : PV → Prop} (hb : b ≠ 0) (q : Q (.int (a.fmod b))) : Op2 G c st (binaryOp .Mod) (.int a) (.int b) Q := Op2.ints q fun h tk t u Q' E' z => mod_int' hb (z _ _ fun _ => .int _ _)
theorem op_div_int {a b : Int} {Q : PV → Prop} (hb : b ≠ 0) (hp : Builtin.divisionGoesByPylong a b = false) (q : Q (.int (a.fdiv b))) : Op2 G c st (binaryOp .FloorDiv) (.int a) (.int b) Q := Op2.ints q fun h tk t u Q' E' z => floordiv_int hb (z _ _ fun _ => .int _ _) (.inl hp)
theorem op_neg_int {a : Int} {Q : PV → Prop} (q : Q (.int (-a))) : Op1 G c st (unaryOp .USub) (.int a) Q := Op1.ofI q fun h tk t Q' E' z => neg_int (z _ _ fun _ => .int _ _)
theorem op_not {b : Bool} {Q : PV → Prop} (q : Q (.bool (!b))) : Op1 G c st (unaryOp .Not) (.bool b) Q := Op1.ofB q fun h tk Q' E' z => not_of (wpAny_pure (z _ _ fun _ => .bool _))
theorem op_add_str {a b : Str} {Q : PV → Prop} (hl : a.length + b.length ≤ 16777216) (q : Q (.str (a ++ b))) : Op2 G c st (binaryOp .Add) (.str a) (.str b) Q := Op2.strs q fun h tk t u Q' E' z => add_str (fun t' tk' => z _ _ fun _ => .str _ _) (by rw [sizeLine_eq]; exact hl)
theorem op_add_lst (O : Cx.Ok G c) {a b : List PV} {Q : PV → Prop} (hl : a.length + b.length ≤ 16777216) (q : Q (.lst (a ++ b))) : Op2 G c st (binaryOp .Add) (.lst a) (.lst b) Q := fun h tk va vb S ra rb Q' E' z => by
      refine ra.ofLst fun la vs n e1 r1 => rb.ofLst fun lb ws n' e2 r2 => ?_
      obtain ⟨news, N, hall⟩ := ledger c.h₀ h c.L
      refine add_arrays S.F N ⟨_, VW.get e1, rfl, _, rfl⟩ ⟨_, VW.get e2, rfl, _, rfl⟩ (fun h' F' N' => ?_) (by rw [List.size_toArray, List.size_toArray, r1.length, r2.length, sizeLine_eq]; exact hl)
      have s := S.ofNews O hall F' N' fun p hp => .tail _ hp
      refine z _ _ h' _ s (.lst (n := 0) (vs := vs ++ ws) (view_some.mpr ⟨fresh_hid S, ?_⟩) ((r1.append r2).mono (s.vle O))) q
      have := (N' _ (.head _)).1
      simpa using this
theorem op_add_tup (O : Cx.Ok G c) {a b : List PV} {Q : PV → Prop} (hl : a.length + b.length ≤ 16777216) (q : Q (.tup (a ++ b))) : Op2 G c st (binaryOp .Add) (.tup a) (.tup b) Q := fun h tk va vb S ra rb Q' E' z => by
      refine ra.ofTup fun la vs n e1 r1 => rb.ofTup fun lb ws n' e2 r2 => ?_
      obtain ⟨news, N, hall⟩ := ledger c.h₀ h c.L
      have l1 := r1.length
      have l2 := r2.length
      refine add_tuples S.F N ⟨_, VW.get e1, rfl, _, rfl⟩ ⟨_, VW.get e2, rfl, _, rfl⟩ (fun e => ?_) (fun _ e => ?_) (fun _ _ h' F' N' => ?_) (by rw [l1, l2, sizeLine_eq]; exact hl)
      · subst e
        have : a = [] := List.eq_nil_of_length_eq_zero l1.symm
        subst this
        exact z _ _ h _ S.refl (.tup e2 r2) q
      · subst e
        have : b = [] := List.eq_nil_of_length_eq_zero l2.symm
        subst this
        exact z _ _ h _ S.refl (.tup e1 r1) (by rw [List.append_nil] at q; exact q)
      · have s := S.ofNews O hall F' N' fun p hp => .tail _ hp
        refine z _ _ h' _ s (.tup (n := 0) (vs := vs ++ ws) (view_some.mpr ⟨fresh_hid S, ?_⟩) ((r1.append r2).mono (s.vle O))) q
        have := (N' _ (.head _)).1
        simpa using this
noncomputable def PV.isNone : PV → Bool
  | .none => true
  | _ => false
theorem VR.isNone {V : Addr → Option Obj} {v : Value} {q : PV} (r : VR G V v q) : (v == .none) = q.isNone := VR.casesOn (motive_1 := fun v q _ => (v == .none) = q.isNone) r rfl (fun _ => rfl) (fun _ _ => rfl) (fun _ _ => rfl) (fun _ => rfl) (fun _ => rfl) (fun _ => rfl) (fun _ => rfl) (fun _ => rfl) (fun _ _ _ _ => rfl) (fun _ _ => rfl) (fun _ _ => rfl)
    (fun _ _ _ => rfl) (fun _ _ _ _ _ _ => rfl) (fun _ _ _ _ _ _ _ => rfl) (fun _ _ _ _ _ _ _ => rfl)
theorem op_is_none {a : PV} {Q : PV → Prop} (q : Q (.bool a.isNone)) : Op2 G c st (compareOp .Is) a .none Q := fun h tk va vb S ra rb Q' E' z => rb.ofNone (is_none (by rw [ra.isNone]; exact z _ _ _ _ S.refl (.bool _) q))
theorem op_is_not_none {a : PV} {Q : PV → Prop} (hd : a.isD = true) (q : Q (.bool (!a.isNone))) : Op2 G c st (compareOp .IsNot) a .none Q := fun h tk va vb S ra rb Q' E' z => rb.ofNone (isNot_none (by rw [ra.isNone]; exact z _ _ _ _ S.refl (.bool _) q))
theorem ok_d {q : PV} (h : q.ok = true) : q.isD = true ∧ q.d.canLay0 = true ∧ q.d.depth ≤ 64 := by
  obtain ⟨h1, h2⟩ := Bool.and_eq_true_iff.mp h
  obtain ⟨h3, h4⟩ := Bool.and_eq_true_iff.mp h2
  exact ⟨h1, h3, by simpa using h4⟩
theorem op_in_lst {n : Nat} (hr : c.room n) {x : PV} {l : List PV} {Q : PV → Prop} (hx : x.ok = true) (hl : (PV.lst l).ok = true) (q : Q (.bool ((PV.ds l).any fun y => y.eqv x.d))) : Op2 G c st (compareOp .In) x (.lst l) Q := fun h tk va vb S ra rb Q' E' z => by
  obtain ⟨h1, h2, h3⟩ := ok_d hx
  obtain ⟨h4, h5, h6⟩ := ok_d hl
  obtain ⟨as, r1⟩ := ra.reads (fun _ _ => VW.get) h1
  obtain ⟨bs, r2⟩ := rb.reads (fun _ _ => VW.get) h4
  rw [PV.dL] at r2 h5
  exact SeqAt.in_list_reads r2 r1 (by simpa [PyData.canLay0] using h5) h2 (by have := hr.u; have := Nat.min_le_right (PyData.depthAll (PV.ds l)) x.d.depth; omega) (z _ _ _ _ S.refl (.bool _) q)
theorem op_notIn_lst {n : Nat} (hr : c.room n) {x : PV} {l : List PV} {Q : PV → Prop} (hx : x.ok = true) (hl : (PV.lst l).ok = true) (q : Q (.bool (!(PV.ds l).any fun y => y.eqv x.d))) : Op2 G c st (compareOp .NotIn) x (.lst l) Q := fun h tk va vb S ra rb Q' E' z => by
  obtain ⟨h1, h2, h3⟩ := ok_d hx
  obtain ⟨h4, h5, h6⟩ := ok_d hl
  obtain ⟨as, r1⟩ := ra.reads (fun _ _ => VW.get) h1
  obtain ⟨bs, r2⟩ := rb.reads (fun _ _ => VW.get) h4
  rw [PV.dL] at r2 h5
  exact SeqAt.notIn_list_reads r2 r1 (by simpa [PyData.canLay0] using h5) h2 (by have := hr.u; have := Nat.min_le_right (PyData.depthAll (PV.ds l)) x.d.depth; omega) (z _ _ _ _ S.refl (.bool _) q)
theorem op_in_tup {n : Nat} (hr : c.room n) {x : PV} {l : List PV} {Q : PV → Prop} (hx : x.ok = true) (hl : (PV.tup l).ok = true) (q : Q (.bool ((PV.ds l).any fun y => y.eqv x.d))) : Op2 G c st (compareOp .In) x (.tup l) Q := fun h tk va vb S ra rb Q' E' z => by
  obtain ⟨h1, h2, h3⟩ := ok_d hx
  obtain ⟨h4, h5, h6⟩ := ok_d hl
  obtain ⟨as, r1⟩ := ra.reads (fun _ _ => VW.get) h1
  obtain ⟨bs, r2⟩ := rb.reads (fun _ _ => VW.get) h4
  rw [PV.dT] at r2 h5
  exact SeqAt.in_tuple_reads r2 r1 (by simpa [PyData.canLay0] using h5) h2 (by have := hr.u; have := Nat.min_le_right (PyData.depthAll (PV.ds l)) x.d.depth; omega) (z _ _ _ _ S.refl (.bool _) q)
theorem op_notIn_tup {n : Nat} (hr : c.room n) {x : PV} {l : List PV} {Q : PV → Prop} (hx : x.ok = true) (hl : (PV.tup l).ok = true) (q : Q (.bool (!(PV.ds l).any fun y => y.eqv x.d))) : Op2 G c st (compareOp .NotIn) x (.tup l) Q := fun h tk va vb S ra rb Q' E' z => by
  obtain ⟨h1, h2, h3⟩ := ok_d hx
  obtain ⟨h4, h5, h6⟩ := ok_d hl
  obtain ⟨as, r1⟩ := ra.reads (fun _ _ => VW.get) h1
  obtain ⟨bs, r2⟩ := rb.reads (fun _ _ => VW.get) h4
  rw [PV.dT] at r2 h5
  exact SeqAt.notIn_tuple_reads r2 r1 (by simpa [PyData.canLay0] using h5) h2 (by have := hr.u; have := Nat.min_le_right (PyData.depthAll (PV.ds l)) x.d.depth; omega) (z _ _ _ _ S.refl (.bool _) q)
theorem op_in_str {x y : Str} {Q : PV → Prop} (q : Q (.bool (!(Builtin.Str.occurrences x y 0 x.length 1).isEmpty))) : Op2 G c st (compareOp .In) (.str y) (.str x) Q := Op2.strs q fun h tk t u Q' E' z => PyProof.Rows.in_str (z _ _ fun _ => .bool _)
theorem str_beq_comm (x y : Str) : (x == y) = (y == x) := Bool.eq_iff_iff.mpr ⟨fun h => beq_iff_eq.mpr (beq_iff_eq.mp h).symm, fun h => beq_iff_eq.mpr (beq_iff_eq.mp h).symm⟩
theorem VRd.key {V : Addr → Option Obj} {es : List DictEntry} {l : List (Str × PV)} (r : VRd G V es l) : ∀ e ∈ es, ∃ x t, DictEntry.key e = .str x t ∧ e.hash = PyData.keyHash G.w.params x :=
  r.ind (P := fun es _ => ∀ e ∈ es, ∃ x t, DictEntry.key e = .str x t ∧ e.hash = PyData.keyHash G.w.params x) (fun _ h => nomatch h) fun a b _ _ ih => List.forall_mem_cons.mpr ⟨⟨_, _, a, b⟩, ih⟩
theorem VRd.find {V : Addr → Option Obj} {x : Str} {es : List DictEntry} {l : List (Str × PV)} (r : VRd G V es l) : (∀ q, l.lookup x = some q → ∃ e, es.find? (fun e => e.key.isStr x) = some e ∧ VR G V e.val q) ∧ (l.lookup x = none → es.find? (fun e => e.key.isStr x) = none) := by
  refine r.ind (P := fun es l => (∀ q, l.lookup x = some q → ∃ e, es.find? (fun e => e.key.isStr x) = some e ∧ VR G V e.val q) ∧ (l.lookup x = none → es.find? (fun e => e.key.isStr x) = none)) ⟨fun q e => (nomatch e), fun _ => rfl⟩ fun {e es y t p l} e1 e2 r rs ih => ?_
  have k : e.key.isStr x = (x == y) := by rw [e1]; exact str_beq_comm y x
  rw [List.lookup_cons, List.find?_cons, k]
  cases x == y with
  | true => exact ⟨fun q el => by cases el; exact ⟨e, rfl, r⟩, fun el => nomatch el⟩
  | false => exact ih
theorem VRd.map {h : Heap} {a : Addr} {es : List DictEntry} {n : Nat} {l : List (Str × PV)} (e : h.get? a = some (dictOf es n)) (r : VRd G (VW c st h) es l) :
    h.MapOf (strKind G.prog G.w) a (fun k => (es.find? fun e => e.key.isStr k).map (·.val)) :=
  ⟨_, es.toArray, n, e, ⟨rfl, rfl, rfl⟩, rfl, fun d hd => by
    obtain ⟨x, t, e1, e2⟩ := r.key d (Array.mem_toList_iff.mpr hd)
    exact ⟨x, by rw [e1]; exact strKind_is G.prog G.w x t, e2⟩, fun k => by
      unfold findBy
      rw [List.find?_toArray]
      have : (fun e : DictEntry => (strKind G.prog G.w).is k e.key) = fun e => e.key.isStr k := funext fun d => (isStr_of k d.key).symm
      rw [this]⟩
theorem VRd.findS {V : Addr → Option Obj} {x : Str} {es : List DictEntry} {l : List (Str × PV)} (r : VRd G V es l) : (es.find? fun e => e.key.isStr x).isSome = (l.lookup x).isSome := by
  have f := r.find (x := x)
  cases hl : l.lookup x with
  | none => rw [f.2 hl]; rfl
  | some p => obtain ⟨e, e1, _⟩ := f.1 p hl; rw [e1]; rfl
theorem op_in_dct (O : Cx.Ok G c) {x : Str} {l : List (Str × PV)} {Q : PV → Prop} (q : Q (.bool (l.lookup x).isSome)) : Op2 G c st (compareOp .In) (.str x) (.dct l) Q := fun h tk va vb S ra rb Q' E' z =>
  ra.ofStr fun t => rb.ofDct fun a es n ne e r => wpAny_in_of (strKind_is G.prog G.w x t) (beq_eq_false_iff_ne.mpr ne) (r.map (c := c) (st := st) (h := h) (VW.get e)) (by rw [Option.isSome_map, r.findS]; exact z _ _ _ _ S.refl (.bool _) q)
end
end
section
structure Itr (G : Gx) (A : Around) (target : Expr) (I : Addr) (wr : List Addr) (l : List PV) (V0 : Addr → Option Obj) (Sg : Nat → Heap → Prop) (Md : Nat → Value → Heap → Prop) : Prop where
  frame : ∀ i h h', Sg i h → (∀ b o, (b ∈ wr ∨ ∃ o', V0 b = some o') → h.get? b = some o → h'.get? b = some o) → Sg i h'
  item : ∀ i h tk q, l[i]? = some q → Sg i h → ∀ H : Addr → Prop, (∀ b, H b → ∃ o, h.get? b = some o) → (∀ b ∈ wr, H b) → VLe V0 (view H h) → ∀ (Q : Option Value → Shared → Prop) (E : Value → Shared → Prop),
    (∀ v h' tk', But wr h h' → VR G (view H h') v q → Md i v h' → Q (some v) (G.sh h' tk')) → wpAny (model G.prog G.w) A (pyNext (.ref I)) Q E (G.sh h tk)
  go : ∀ i v h tk, Md i v h → ∀ (Q : Unit → Shared → Prop) (E : Value → Shared → Prop), (∀ h' tk', But wr h h' → Sg (i + 1) h' → Q () (G.sh h' tk')) → wpAny (model G.prog G.w) A (letOwnedTupleGo target (.ref I) v) Q E (G.sh h tk)
  done : A.handled = none → ∀ h tk, Sg l.length h → ∀ (Q : Option Value → Shared → Prop) (E : Value → Shared → Prop), (∀ h' tk', (∀ b o, b ∉ wr → h.get? b = some o → h'.get? b = some o) → Q none (G.sh h' tk')) → wpAny (model G.prog G.w) A (pyNext (.ref I)) Q E (G.sh h tk)
  self : ∀ i h tk, Sg i h → ∀ (Q : Value → Shared → Prop) (E : Value → Shared → Prop), Q (.ref I) (G.sh h tk) → wpAny (model G.prog G.w) A (pyIter (.ref I)) Q E (G.sh h tk)
noncomputable def It (G : Gx) (c : Cx) (st : AS) (target iter : Expr) (Q : List PV → Prop) : Prop := ∀ h tk, St G c st h → ∀ (Q' : Value → Shared → Prop) (E' : Value → Shared → Prop),
  (∀ I wr l Sg Md h' tk', Step G c st h h' → (∀ b ∈ wr, h.get? b = none) → WO wr h' → Itr G c.A target I wr l (view (fun b => Hid c st b ∨ b ∈ wr) h') Sg Md → Sg 0 h' → Q l → Q' (.ref I) (G.sh h' tk')) →
  wpAny (model G.prog G.w) c.A (eval iter c.env) (fun x s₁ => wpAny (model G.prog G.w) c.A (pyIter x) Q' E' s₁) E' (G.sh h tk)
noncomputable def Asg (G : Gx) (c : Cx) (st : AS) (target : Expr) (q : PV) (K : AS → Prop) : Prop := ∀ h tk v, St G c st h → VR G (VW c st h) v q → ∀ (Q' : Unit → Shared → Prop) (E' : Value → Shared → Prop),
  (∀ st' h' tk', St G c st' h' → KLe G c st h st' h' → K st' → Q' () (G.sh h' tk')) → wpAny (model G.prog G.w) c.A (assign target c.env v) Q' E' (G.sh h tk)
noncomputable def ForR (G : Gx) (c : Cx) (target : Expr) (body : List Stmt) (N : AS → Prop) (R : PV → Prop) (X : List (Str × PV) → Prop) : List PV → AS → Prop
  | [], st => N st
  | q :: l, st => Asg G c st target q fun st1 => Exs G c st1 body (fun st2 => ForR G c target body N R X l st2) R X
section
variable {G : Gx} {c : Cx} {st : AS} {h h' : Heap}
theorem ExnDat.more {wr wr' : List Addr} {e : Addr} {l : List (Str × PV)} {md : Option Value} (D : ExnDat G wr e l h md) (k : ∀ b ∈ wr, b ∈ wr') : ExnDat G wr' e l h md := by
  refine D.elim fun oe vs dx es n m1 m2 e1 e2 e3 e4 e5 e6 e7 e8 => ?_
  refine ⟨oe, vs, dx, es, n, k _ m1, m2, e1, e2, e3, e4, e5, e6, e7, ?_⟩
  cases md with
  | none => exact e8
  | some fl =>
    obtain ⟨T, oT, ts, f1, f2, f3⟩ := e8
    exact ⟨T, oT, ts, f1, k _ f2, f3⟩
theorem KW.trans {wr wr' : List Addr} {st' st'' : AS} {h1 h2 : Heap} (a : KW G c wr st h st' h1) (w : WO wr h1) (b : KW G c wr' st' h1 st'' h2) : KW G c (wr ++ wr') st h st'' h2 :=
  ⟨fun x o n1 n2 e => b.keep x o (fun q => (a.own x q).elim n1 fun z => by rw [e] at z; cases z) (fun q => n2 (List.mem_append_right _ q)) (a.keep x o n1 (fun q => n2 (List.mem_append_left _ q)) e), fun x q => by
    by_cases z : Own G c st x
    · exact .inl z
    · cases e : h.get? x with
      | none => exact .inr rfl
      | some o =>
        exfalso
        rcases b.own x q with y | y
        · rcases a.own x y with v | v
          · exact z v
          · rw [e] at v; cases v
        · by_cases xw : x ∈ wr
          · obtain ⟨o', f, _⟩ := w x xw; exact clash y f
          · have := a.keep x o z xw e; exact clash y this⟩
theorem own_back {h₀ h1 : Heap} {st5 : AS} (s1 : Step G c st h₀ h1) (k : ∀ b, Own G c st5 b → Own G c st b ∨ h1.get? b = none) (b : Addr) (q : Own G c st5 b) : Own G c st b ∨ h₀.get? b = none := by
  rcases k b q with z | z
  · exact .inl z
  · by_cases w : Own G c st b
    · exact .inl w
    · cases e : h₀.get? b with
      | none => exact .inr rfl
      | some o => have := s1.kle.keep b o w e; exact clash z this
theorem Ex.for (O : Cx.Ok G c) (hm : c.mf = none) {target iter : Expr} {body : List Stmt} {pos : Pos} {N : AS → Prop} {R : PV → Prop} {X : List (Str × PV) → Prop}
    (hI : It G c st target iter fun l => ∀ wr, Cx.Ok G (withHid c wr) → ForR G (withHid c wr) target body N R X l st)
    (hs : autoParam (∀ x, foldedSetIterable iter c.env x = pure x) aIRfl) (hd : c.hdl = none ∨ ∀ t, ¬ N t := by exact .inl rfl) : Ex G c st (.For target iter body [] pos) N R X := fun h₀ tk₀ S Q' E' zn zr zx => by
  refine wpAny_For (hI h₀ tk₀ S _ E' fun I wr l Sg Md h1 tk1 s1 hw hwo W sg ql => ?_) hs
  have O' := O.with wr (WrOk.of O S hw).h0
  have S1 := S.hide O s1 hw hwo
  have WK := WrOk.of O S hw
  have n0 := noOwn0 O S hw
  refine codeAny_forLoop_any (fun k s' => ∃ h' tk' st' i, s' = G.sh h' tk' ∧ Sg i h' ∧ St G (withHid c wr) st' h' ∧ KW G (withHid c wr) wr st h1 st' h' ∧ ForR G (withHid c wr) target body N R X (l.drop i) st' ∧ WO wr h' ∧ i ≤ l.length ∧ k = l.length + 1 - i)
    ?_ (l.length + 1) ⟨h1, tk1, st, 0, rfl, sg, S1, ⟨fun _ _ _ _ e => e, fun _ e => .inl e⟩, ql wr O', hwo, Nat.zero_le _, rfl⟩
  rintro k s' ⟨h', tk', st', i, rfl, sg', S', K', FR, wo', hi, rfl⟩
  have no' := K'.noOwn n0 hwo
  have hc' : ∀ b ∈ st'.hc, b ∉ wr := fun b hb q => no' b q (.inr (.inr (.inr (.inl hb))))
  have hH : ∀ b ∈ wr, Hid (withHid c wr) st' b := fun b hb => .inl (.inr hb)
  by_cases hlt : i < l.length
  · have hq : l[i]? = some l[i] := List.getElem?_eq_getElem hlt
    rw [List.drop_eq_getElem_cons hlt] at FR
    refine W.item i h' tk' l[i] hq sg' (Hid (withHid c wr) st') S'.occ hH (K'.vle O) _ _ fun v h2 tk2 b2 r2 md => ?_
    refine W.go i v h2 tk2 md _ _ fun h3 tk3 b3 sg3 => ?_
    have S2 := S'.wr O' WK wo' b2 hc'
    have S3 := S2.wr O' WK b2.2 b3 hc'
    refine FR h3 tk3 v S3 (r2.but b3 hH) _ _ fun st4 h4 tk4 S4 k4 ex => ?_
    refine ex h4 tk4 S4 _ _ (fun st5 h5 tk5 S5 k5 n5 => ?_) (fun v q st5 h5 tk5 S5 k5 r5 q5 => ?_) (fun e lx h5 tk5 wrE st5 x5 q5 => ?_)
    · have k35 := k4.trans k5
      have b23 : But wr h' h3 := ⟨fun b o n e => b3.1 b o n (b2.1 b o n e), b3.2⟩
      refine ⟨l.length + 1 - (i + 1), by omega, h5, tk5, st5, i + 1, rfl, ?_, S5, K'.next b23 k35, n5, fun b hb => ?_, hlt, rfl⟩
      · refine W.frame _ _ _ sg3 fun b o hb e => ?_
        rcases hb with hb | ⟨o', hb⟩
        · exact k35.keep b o (no' b hb) e
        · have := (view_some.mp (K'.vle O b o' hb)).1
          exact k35.keep b o (fun q => this (own_hid O' q)) e
      · obtain ⟨o, e, q⟩ := b3.2 b hb
        exact ⟨o, k35.keep b o (no' b hb) e, q⟩
    · have k35 := k4.trans k5
      have b23 : But wr h' h3 := ⟨fun b o n e => b3.1 b o n (b2.1 b o n e), b3.2⟩
      have K5 := K'.next b23 k35
      refine zr v q st5 h5 tk5 S5.unhide ⟨fun b o n e => K5.keep b o n (fun z => by rw [hw b z] at e; cases e) (s1.kle.keep b o n e), own_back s1 K5.own⟩ (r5.mono fun b o e => ?_) q5
      · rw [view_some] at e ⊢
        exact ⟨fun y => e.1 (hid_with.mpr (.inl y)), e.2⟩
    · have b23 : But wr h' h3 := ⟨fun b o n e => b3.1 b o n (b2.1 b o n e), b3.2⟩
      have K4 : KW G (withHid c wr) wr st h1 st4 h4 := K'.next b23 k4
      have wo4 : WO wr h4 := fun b hb => by
        obtain ⟨o, e, q⟩ := b3.2 b hb
        exact ⟨o, k4.keep b o (no' b hb) e, q⟩
      have no4 := K4.noOwn n0 hwo
      have K5 : KW G (withHid c wr) (wr ++ wrE) st h1 st5 h5 := K4.trans wo4 x5.kw
      have no5 : ∀ b ∈ wr, ¬ Own G c st5 b := fun b hb q => by
        rcases K5.own b q with z | z
        · exact n0 b hb z
        · obtain ⟨o, e, _⟩ := hwo b hb; exact clash z e
      have X0 : Exn G c st h₀ e lx h5 (wr ++ wrE) st5 := by
        obtain ⟨md, D, hmd⟩ := x5.dat
        refine ⟨List.mem_append_right _ x5.mem, ?_, ⟨fun b hb => .inr hb, fun b hb => (List.mem_append.mp hb).elim (WK.M b) (x5.W.M b), fun q => (List.mem_append.mp q).elim WK.L x5.W.L, fun q => (List.mem_append.mp q).elim WK.loc x5.W.loc, fun x ca e q => (List.mem_append.mp q).elim (WK.cel x ca e) (x5.W.cel x ca e), fun b hb => (List.mem_append.mp hb).elim (WK.h0 b) (x5.W.h0 b)⟩, fun b hb => ?_, fun b hb q => ?_, ⟨fun b o n1 n2 e => ?_, fun b q => ?_⟩, md, D.more fun b hb => List.mem_append_right _ hb, hmd⟩
        · rw [← withHid_with]; exact x5.S
        · by_cases z : b ∈ wrE
          · exact x5.wo b z
          · rcases List.mem_append.mp hb with y | y
            · obtain ⟨o, e, q⟩ := wo4 b y
              exact ⟨o, x5.kw.keep b o (no4 b y) z e, q⟩
            · exact (z y).elim
        · rcases List.mem_append.mp hb with y | y
          · rcases q with q | q | q
            · obtain ⟨o, e⟩ := S.occ b (.inl q); rw [hw b y] at e; cases e
            · exact no5 b y (.inr (.inr (.inr (.inl q))))
            · exact no5 b y (.inr (.inr (.inr (.inr q))))
          · exact x5.nh b y (hid_with.mpr (.inl q))
        · exact K5.keep b o n1 n2 (s1.kle.keep b o n1 e)
        · exact own_back s1 K5.own b q
      show wpAny _ _ (noteFrame (.ref e) c.env) _ _ _
      refine note_exn O hm X0 fun h6 wr6 x6 D6 => ?_
      show wpAny _ _ (do
        if (← field (.ref e) 1) == .none then unsupported "frame.own-activation:exception-without-traceback"
        setFlight (.ref e) c.env.frame) _ _ _
      rw [O.fe]
      refine D6.elim fun oe vs dx es n m1 m2 e1 e2 e3 e4 e5 e6 e7 e8 => ?_
      obtain ⟨T, oT, ts, f1, f2⟩ := e8
      refine wpAny_bind (wpAny_field e1 e3 f1 ?_)
      rw [if_neg (show ¬ ((Value.ref T == Value.none) = true) from by simp)]
      exact land_exn O x6 D6 (some c.L) (.inr rfl) fun h7 x7 D7 => zx e lx h7 tk5 wr6 st5 x7 q5
  · have hin : i = l.length := by omega
    subst hin
    rw [List.drop_length] at FR
    rcases hd with hd | hd
    rotate_left
    · exact (hd _ FR).elim
    refine W.done hd h' tk' sg' _ _ fun h2 tk2 b2 => wpAny_execs_nil ?_
    have hcw : ∀ b ∈ wr, ¬ Hid c st' b := fun b hb q => by
      rcases q with q | q | q
      · obtain ⟨o, e⟩ := S.occ b (.inl q); rw [hw b hb] at e; cases e
      · exact no' b hb (.inr (.inr (.inr (.inl q))))
      · exact no' b hb (.inr (.inr (.inr (.inr q))))
    refine zn st' h2 tk2 (S'.wrEnd O WK wo' hcw b2) ⟨fun b o n e => ?_, fun b q => ?_⟩ FR
    · have n1 : b ∉ wr := fun z => by rw [hw b z] at e; cases e
      exact b2 b o n1 (K'.keep b o n n1 (s1.kle.keep b o n e))
    · exact own_back s1 K'.own b q
end
end
section
section
variable {G : Gx} {c : Cx} {st : AS} {h h' : Heap}
theorem letgo_it {A : Around} {target : Expr} {I : Addr} {n : String} {vs : Array Value} {v : Value} {h : Heap} {tk : Tok} {Q : Unit → Shared → Prop} {E : Value → Shared → Prop} (e : ∃ o, h.get? I = some o ∧ o.cls = .type n ∧ o.data = .fields vs)
    (hn : (["enumerate", "zip", "dict_itemiterator", "dict_reverseitemiterator", "odict_iterator", "itertools.zip_longest", "itertools.pairwise"] : List String).contains n = false) (q : Q () (G.sh h tk)) :
    wpAny (model G.prog G.w) A (letOwnedTupleGo target (.ref I) v) Q E (G.sh h tk) := by
  obtain ⟨⟨cls, dd, dt, sl⟩, e, rfl, rfl⟩ := e
  have go : ∀ a k ps, wpAny (model G.prog G.w) A (letOwnedTupleGo (.Tuple [] k ps) (.ref I) (.ref a)) Q E (G.sh h tk) := fun a k ps => by
    refine wpAny_bind (m := load I) (wpAny_load e ?_)
    dsimp only
    rw [hn, Bool.false_and]
    exact wpAny_pure q
  have no : wpAny (model G.prog G.w) A (pure ()) Q E (G.sh h tk) := wpAny_pure q
  have all : ∀ k ps, wpAny (model G.prog G.w) A (letOwnedTupleGo (.Tuple [] k ps) (.ref I) v) Q E (G.sh h tk) := fun k ps => by
    cases v with
    | ref a => exact go a k ps
    | _ => exact no
  cases target with
  | Tuple _ k ps => exact all k ps
  | List _ ps => exact all 0 ps
  | _ => exact no
theorem Itr.ofWalks {A : Around} {target : Expr} {I : Addr} {fp wr : List Addr} {n : Nat} {P : Nat → Value → Prop} {Sg : Nat → Heap → Prop} {l : List PV} {V0 : Addr → Option Obj} (W : Walks G.prog G.w A I fp wr n P Sg) (hn : n = l.length)
    (hfp : ∀ b ∈ fp, b ∈ wr ∨ ∃ o', V0 b = some o') (hP : ∀ i v q, l[i]? = some q → P i v → ∀ (H : Addr → Prop) (h : Heap), VLe V0 (view H h) → VR G (view H h) v q) (hwo : ∀ i h, Sg i h → WO wr h)
    (hgo : ∀ i v h tk (Q : Unit → Shared → Prop) (E : Value → Shared → Prop), Sg i h → Q () (G.sh h tk) → wpAny (model G.prog G.w) A (letOwnedTupleGo target (.ref I) v) Q E (G.sh h tk)) :
    Itr G A target I wr l V0 Sg (fun i v h => Sg (i + 1) h) where
  frame := fun i h h' s k => W.frame i h h' s fun b hb o e => k b o (hfp b hb) e
  item := fun i h tk q hq sg H hocc hH hv Q E k => by
    have hi : i < n := by rw [hn]; exact (List.getElem?_eq_some_iff.mp hq).1
    refine W.item i _ _ _ hi sg fun v h' tk' p sg' kk => ?_
    have b : But wr h h' := ⟨kk, hwo _ _ sg'⟩
    exact k v h' tk' b ((hP i v q hq p H h hv).but b hH) sg'
  go := fun i v h tk sg Q E k => hgo (i + 1) v h tk Q E sg (k h tk ⟨fun _ _ _ e => e, hwo _ _ sg⟩ sg)
  done := fun _ h tk sg Q E k => W.done _ _ _ (hn ▸ sg) fun h' tk' kk => k h' tk' kk
  self := fun i h tk sg Q E k => W.self i _ _ _ sg k
theorem view_new {wr : List Addr} {o : Obj} (hw : ∀ b ∈ wr, h.get? b = none) : VLe (VW c st h) (view (fun b => Hid c st b ∨ b ∈ wr) (h.push o)) := fun b p e => by
  rw [view_some] at e ⊢
  refine ⟨fun q => ?_, Heap.get?_push_of_some _ e.2⟩
  rcases q with q | q
  · exact e.1 q
  · rw [hw b q] at e; cases e.2
theorem new_none (h : Heap) : ∀ b ∈ [h.objs.size], h.get? b = none := fun b hb => by
  rw [List.mem_singleton.mp hb]; exact Heap.get?_none_of_le (Nat.le_refl _)
theorem It.seq (O : Cx.Ok G c) {target iter : Expr} {Q : List PV → Prop} (hE : Ev G c st iter fun q => ∃ l, (q = .lst l ∨ q = .tup l) ∧ Q l) (hh : autoParam (c.hdl = none) aRfl) : It G c st target iter Q := fun h tk S Q' E' z => by
  refine hE h tk S _ _ fun v q h1 tk1 s1 r1 q1 => ?_
  obtain ⟨l, rfl | rfl, ql⟩ := q1
  · refine r1.ofLst fun ax vs n e r => ?_
    · have S1 := S.step O s1
      refine wpAny_pyIter_list ⟨_, VW.get e, rfl, _, rfl⟩ ?_
      have hne : ax ≠ h1.objs.size := Nat.ne_of_lt (Heap.lt_size (VW.get e))
      have V := view_new (c := c) (st := st) (o := { cls := .type "list_iterator", data := .fields #[.ref ax, .int 0 0] }) (new_none h1)
      refine z h1.objs.size [h1.objs.size] l (fun i h => h.IsListIter h1.objs.size ax i ∧ h.IsList ax vs.toArray) _ _ tk1 (s1.trans (S1.push O _)) (fun b hb => ?_) ?_ (Itr.ofWalks (Walks.list hh h1.objs.size ax hne vs.toArray) (by rw [List.size_toArray]; exact r.length) ?_ ?_ ?_ ?_) ⟨⟨_, Heap.get?_push_size _ rfl, rfl, rfl⟩, _, Heap.get?_push_of_some _ (VW.get e), rfl, _, rfl⟩ ql
      · cases y : h.get? b with
        | none => rfl
        | some o =>
          exfalso
          have nM : b ∉ c.M G := fun q => by obtain ⟨o', f⟩ := s1.glb.hasM b q; rw [new_none h1 b hb] at f; cases f
          have nL : b ≠ c.L := fun q => by obtain ⟨o', _, _, f, _⟩ := s1.F.ns; rw [← q, new_none h1 b hb] at f; cases f
          have := s1.later b o nM nL y
          rw [new_none h1 b hb] at this; cases this
      · intro b hb; rw [List.mem_singleton.mp hb]; exact ⟨_, Heap.get?_push_size _ rfl, by simp⟩
      · intro b hb
        rcases List.mem_cons.mp hb with rfl | hb
        · exact .inl (.head _)
        · rw [List.mem_singleton.mp hb]; exact .inr ⟨_, V _ _ e⟩
      · intro i v q hq p H h hv
        obtain ⟨v', e1, r1⟩ := r.get hq
        have : v = v' := by have p' : vs.toArray[i]? = some v := p; rw [List.getElem?_toArray, e1] at p'; exact (Option.some.inj p').symm
        subst this
        exact r1.mono (V.trans hv)
      · intro i h sg b hb
        rw [List.mem_singleton.mp hb]
        obtain ⟨⟨o, e1, e2, _⟩, _⟩ := sg
        exact ⟨o, e1, by rw [e2]; simp⟩
      · intro i v h tk Q E sg q
        obtain ⟨o, e1, e2, e3⟩ := sg.1
        exact letgo_it ⟨o, e1, e2, e3⟩ (by decide) q
  · refine r1.ofTup fun ax vs n e r => ?_
    · have S1 := S.step O s1
      refine wpAny_pyIter_tuple ⟨_, VW.get e, rfl, _, rfl⟩ ?_
      have hne : ax ≠ h1.objs.size := Nat.ne_of_lt (Heap.lt_size (VW.get e))
      have V := view_new (c := c) (st := st) (o := { cls := .type "tuple_iterator", data := .fields #[.ref ax, .int 0 0] }) (new_none h1)
      refine z h1.objs.size [h1.objs.size] l (fun i h => h.IsTupleIter h1.objs.size ax i ∧ h.IsTuple ax vs.toArray) _ _ tk1 (s1.trans (S1.push O _)) (fun b hb => ?_) ?_ (Itr.ofWalks (Walks.tuple hh h1.objs.size ax hne vs.toArray) (by rw [List.size_toArray]; exact r.length) ?_ ?_ ?_ ?_) ⟨⟨_, Heap.get?_push_size _ rfl, rfl, rfl⟩, _, Heap.get?_push_of_some _ (VW.get e), rfl, _, rfl⟩ ql
      · cases y : h.get? b with
        | none => rfl
        | some o =>
          exfalso
          have nM : b ∉ c.M G := fun q => by obtain ⟨o', f⟩ := s1.glb.hasM b q; rw [new_none h1 b hb] at f; cases f
          have nL : b ≠ c.L := fun q => by obtain ⟨o', _, _, f, _⟩ := s1.F.ns; rw [← q, new_none h1 b hb] at f; cases f
          have := s1.later b o nM nL y
          rw [new_none h1 b hb] at this; cases this
      · intro b hb; rw [List.mem_singleton.mp hb]; exact ⟨_, Heap.get?_push_size _ rfl, by simp⟩
      · intro b hb
        rcases List.mem_cons.mp hb with rfl | hb
        · exact .inl (.head _)
        · rw [List.mem_singleton.mp hb]; exact .inr ⟨_, V _ _ e⟩
      · intro i v q hq p H h hv
        obtain ⟨v', e1, r1⟩ := r.get hq
        have : v = v' := by have p' : vs.toArray[i]? = some v := p; rw [List.getElem?_toArray, e1] at p'; exact (Option.some.inj p').symm
        subst this
        exact r1.mono (V.trans hv)
      · intro i h sg b hb
        rw [List.mem_singleton.mp hb]
        obtain ⟨⟨o, e1, e2, _⟩, _⟩ := sg
        exact ⟨o, e1, by rw [e2]; simp⟩
      · intro i v h tk Q E sg q
        obtain ⟨o, e1, e2, e3⟩ := sg.1
        exact letgo_it ⟨o, e1, e2, e3⟩ (by decide) q
end
end
section
noncomputable def Asgs (G : Gx) (c : Cx) (st : AS) (ts : List Expr) (qs : List PV) (K : AS → Prop) : Prop := ∀ h tk vs, St G c st h → VRs G (VW c st h) vs qs → ∀ (Q' : Unit → Shared → Prop) (E' : Value → Shared → Prop),
  (∀ st' h' tk', St G c st' h' → KLe G c st h st' h' → K st' → Q' () (G.sh h' tk')) → wpAny (model G.prog G.w) c.A (assignInOrder ((assignEach ts c.env).map (·.2)) vs) Q' E' (G.sh h tk)
section
variable {G : Gx} {c : Cx} {st : AS} {h h' : Heap}
theorem Asg.name (O : Cx.Ok G c) {x : Str} {xp : Pos} {q : PV} {K : AS → Prop} (hx : Stores c st x) (k : ∀ m', K (st.set x q m')) : Asg G c st (.Name x xp) q K := fun h tk v S r Q' E' z =>
  wpAny_assign_Name (store_of O hx S r fun m' h' tk' S' v' => z _ h' tk' S' v' (k m'))
theorem Asgs.nil {K : AS → Prop} (k : K st) : Asgs G c st [] [] K := fun h tk vs S rs Q' E' z => assignInOrder_nil (z st h tk S (KLe.refl _ _ _ _) k)
theorem Asgs.cons (O : Cx.Ok G c) {t : Expr} {ts : List Expr} {q : PV} {qs : List PV} {K : AS → Prop} (k : Asg G c st t q fun st1 => Asgs G c st1 ts qs K) (he : autoParam (assignEach (t :: ts) c.env = (false, assign t c.env) :: assignEach ts c.env) aRfl) : Asgs G c st (t :: ts) (q :: qs) K := fun h tk vs S rs Q' E' z => by
  refine rs.ofCons fun v vs r rs => ?_
  · rw [he]
    refine assignInOrder_cons (k h tk _ S r _ _ fun st1 h1 tk1 S1 k1 k2 => ?_)
    exact k2 h1 tk1 _ S1 (rs.mono (k1.vle O)) _ _ fun st2 h2 tk2 S2 k3 k4 => z st2 h2 tk2 S2 (k1.trans k3) k4
theorem Asg.tup (O : Cx.Ok G c) {ts : List Expr} {kk : Nat} {pos : Pos} {qs : List PV} {K : AS → Prop} (k : Asgs G c st ts qs K) (hn : autoParam ((assignEach ts c.env).length = qs.length) aRfl) (hstar : autoParam ((assignEach ts c.env).findIdx? (·.1) = none) aRfl) (hh : autoParam (c.hdl = none) aRfl) :
    Asg G c st (.Tuple ts kk pos) (.tup qs) K := fun h tk v S r Q' E' z => by
  refine r.ofTup fun a vs n e rs => ?_
  · refine wpAny_assign_Tuple hh ⟨_, VW.get e, rfl, _, rfl⟩ (by rw [hn, List.size_toArray, rs.length]) hstar fun h1 hx => ?_
    have s1 := S.keepAll (h' := h1) O fun b o eb => hx b o (Nat.ne_of_lt (Heap.lt_size eb)) eb
    exact k h1 tk vs (S.step O s1) (rs.mono (s1.vle O)) _ _ fun st2 h2 tk2 S2 k3 k4 => z st2 h2 tk2 S2 (s1.kle.trans k3) k4
end
end
section
noncomputable def closR (env : Env) : List (Str × NameKind) → List (Str × Addr) → List (Str × Addr)
  | [], cs => cs
  | p :: r, cs => closR env r (if p.2 == .free then (p.1, (env.cells.lookup p.1).getD 0) :: cs else cs)
noncomputable abbrev clos (scope : Scope) (env : Env) : List (Str × Addr) := closR env scope.names []
noncomputable def compOk (scope : Scope) (env : Env) : Bool :=
  scope.names.all fun p => (p.2 != .free || ((env.cells.lookup p.1).isSome && (env.kindOf p.1 == some .cell || env.kindOf p.1 == some .free))) && p.2 != .cell && (p.2 != .local || scope.names.lookup p.1 == some .local)
theorem closR1 {env : Env} {p : Str × NameKind} {r : List (Str × NameKind)} {cs : List (Str × Addr)} : closR env (p :: r) cs = closR env r (if p.2 == .free then (p.1, (env.cells.lookup p.1).getD 0) :: cs else cs) := rfl
theorem closR_for (env : Env) : ∀ (names : List (Str × NameKind)) (cs : List (Str × Addr)), (∀ p ∈ names, p.2 = .free → (env.cells.lookup p.1).isSome = true) →
    (forIn names cs fun (p : Str × NameKind) r => if (p.2 == .free) = true then do let y ← cellOf env p.1; pure (ForInStep.yield ((p.1, y) :: r)) else pure (ForInStep.yield r) : Sem (List (Str × Addr))) = pure (closR env names cs)
  | [], cs, _ => rfl
  | p :: r, cs, h => by
    rw [closR1]
    simp only [List.forIn_cons]
    by_cases hp : (p.2 == .free) = true
    · obtain ⟨ca, hca⟩ := Option.isSome_iff_exists.mp (h p (.head _) (beq_iff_eq.mp hp))
      rw [if_pos hp, if_pos hp]
      have e : cellOf env p.1 = pure ca := by unfold cellOf; rw [hca]
      rw [e, hca]
      exact closR_for env r ((p.1, ca) :: cs) fun x hx => h x (.tail _ hx)
    · rw [if_neg hp, if_neg hp]
      exact closR_for env r cs fun x hx => h x (.tail _ hx)
theorem closR_sub (env : Env) : ∀ (names : List (Str × NameKind)) (cs : List (Str × Addr)), (∀ p ∈ names, p.2 = .free → (env.cells.lookup p.1).isSome = true) → (∀ x ca, cs.lookup x = some ca → env.cells.lookup x = some ca) →
    ∀ x ca, (closR env names cs).lookup x = some ca → env.cells.lookup x = some ca
  | [], cs, _, h, x, ca, e => h x ca e
  | p :: r, cs, hs, h, x, ca, e => by
    refine closR_sub env r _ (fun q hq => hs q (.tail _ hq)) (fun y cb ey => ?_) x ca e
    split at ey
    · rename_i hp
      obtain ⟨cc, hcc⟩ := Option.isSome_iff_exists.mp (hs p (.head _) (beq_iff_eq.mp hp))
      rw [List.lookup_cons] at ey
      split at ey
      · rename_i hy
        rw [show y = p.1 from by simpa using hy, hcc]
        rw [hcc] at ey; exact ey
      · exact h y cb ey
    · exact h y cb ey
theorem closR_has (env : Env) : ∀ (names : List (Str × NameKind)) (cs : List (Str × Addr)) (x : Str), ((cs.lookup x).isSome = true ∨ (x, NameKind.free) ∈ names) → ((closR env names cs).lookup x).isSome = true
  | [], cs, x, h => by
    rcases h with h | h
    · exact h
    · cases h
  | p :: r, cs, x, h => by
    refine closR_has env r _ x ?_
    rcases h with h | h
    · left
      split
      · rw [List.lookup_cons]; split
        · rfl
        · exact h
      · exact h
    · rcases List.mem_cons.mp h with rfl | h
      · left; simp
      · exact .inr h
theorem closureFor_ok {scope : Scope} {env : Env} (h : compOk scope env = true) : closureFor scope env = pure (clos scope env) := by
  have hs : ∀ p ∈ scope.names, p.2 = .free → (env.cells.lookup p.1).isSome = true := fun p hp hf => by
    have := List.all_eq_true.mp h p hp
    rw [hf] at this
    simp only [bne_self_eq_false, Bool.false_or, Bool.and_eq_true] at this
    exact this.1.1.1
  unfold closureFor
  have := closR_for env scope.names [] hs
  simpa using this
theorem lookup_relabel_free {env : Env} : ∀ {names : List (Str × NameKind)} {x : Str}, names.lookup x = some .free →
    (names.map fun (n, k) => if (k == NameKind.free && env.scope.kind == .function && env.kindOf n == some .cell) then (n, NameKind.cell) else (n, k)).lookup x = some .cell ∨
    (names.map fun (n, k) => if (k == NameKind.free && env.scope.kind == .function && env.kindOf n == some .cell) then (n, NameKind.cell) else (n, k)).lookup x = some .free
  | [], _, h => by simp at h
  | (n, k) :: r, x, h => by
    have ih := @lookup_relabel_free env r x
    simp only [List.map_cons]
    rw [List.lookup_cons] at h
    cases hx : x == n with
    | true =>
      rw [hx] at h
      cases h
      by_cases hc : (NameKind.free == NameKind.free && env.scope.kind == .function && env.kindOf n == some .cell) = true
      · rw [if_pos hc]; left; simp [List.lookup_cons, hx]
      · rw [if_neg hc]; right; simp [List.lookup_cons, hx]
    | false =>
      rw [hx] at h
      by_cases hc : (k == NameKind.free && env.scope.kind == .function && env.kindOf n == some .cell) = true
      · rw [if_pos hc]; simp only [List.lookup_cons, hx]; exact ih h
      · rw [if_neg hc]; simp only [List.lookup_cons, hx]; exact ih h
theorem lookup_filter {β : Type} (f : Str → Bool) (x : Str) : ∀ (l : List (Str × β)), (l.filter fun p => f p.1).lookup x = if f x = true then l.lookup x else none
  | [] => by simp
  | p :: r => by
    have ih := lookup_filter f x r
    rw [List.filter_cons, List.lookup_cons]
    by_cases hp : f p.1 = true
    · rw [if_pos hp, List.lookup_cons, ih]
      by_cases hx : (x == p.1) = true
      · have : x = p.1 := by simpa using hx
        subst this; simp [hp]
      · rw [Bool.eq_false_iff.mpr hx]
    · rw [if_neg hp, ih]
      by_cases hx : (x == p.1) = true
      · have : x = p.1 := by simpa using hx
        rw [this, if_neg hp, if_neg hp]
      · rw [Bool.eq_false_iff.mpr hx]
noncomputable abbrev ccx (c : Cx) (st : AS) (scope : Scope) (C : Addr) (H : Addr → Prop) : Cx := { c with env := compEnvC scope (clos scope c.env) C c.env, hid := H, mf := some (c.mf.getD st.m) }
noncomputable abbrev ρfree (scope : Scope) (ρ : List (Str × LV)) : List (Str × LV) := ρ.filter fun p => scope.names.lookup p.1 == some .free
noncomputable def Hcomp (c : Cx) (st : AS) (wr : List Addr) (C D : Addr) (b : Addr) : Prop := Hid c st b ∨ b ∈ wr ∨ b = C ∨ b = D
section
variable {G : Gx} {c : Cx} {st : AS} {h h' : Heap}
theorem compOk_free {scope : Scope} {env : Env} (hok : compOk scope env = true) {x : Str} (e : scope.names.lookup x = some .free) : (env.cells.lookup x).isSome = true ∧ (env.kindOf x = some .cell ∨ env.kindOf x = some .free) := by
  have := List.all_eq_true.mp hok _ (mem_of_lookup e)
  simp only [bne_self_eq_false, Bool.false_or, Bool.and_eq_true, Bool.or_eq_true, beq_iff_eq] at this
  exact this.1.1
theorem compOk_clos {scope : Scope} {env : Env} (hok : compOk scope env = true) {x : Str} {ca : Addr} (e : (clos scope env).lookup x = some ca) : env.cells.lookup x = some ca :=
  closR_sub env scope.names [] (fun p hp hf => by
    have := List.all_eq_true.mp hok p hp
    rw [hf] at this
    simp only [bne_self_eq_false, Bool.false_or, Bool.and_eq_true] at this
    exact this.1.1.1) (fun x ca e => by simp at e) x ca e
theorem Cx.Ok.comp (O : Cx.Ok G c) (S : St G c st h) {scope : Scope} (hk : scope.kind = .function) (hok : compOk scope c.env = true) {C : Addr} {H : Addr → Prop} (hC : h.get? C = none) (hH : ∀ b, Hid c st b → H b) (hHC : H C) (hKH : ∀ a o, G.K.lookup a = some o → ¬ H a) : Cx.Ok G (ccx c st scope C H) where
  fro := O.fro
  frk := O.frk
  X := O.X
  T := O.T
  kf := O.kf
  ff := O.ff
  ke := hk
  ge := O.ge
  be := O.be
  fe := O.fe
  hM := O.hM
  hLM := O.hLM
  hS := O.hS
  tM := O.tM
  hMh := fun b hb => hH b (hid_of_M O hb)
  hLh := hH _ (.inl O.hLh)
  kH := hKH
  loc := fun e => nomatch e
  locC := fun m e => ⟨fun q => (by obtain ⟨o, _, _, w, _⟩ := S.F.ns; rw [← show C = c.L from q, hC] at w; cases w), fun q => (by obtain ⟨o, w⟩ := S.glb.hasM C q; exact clash hC w), hHC, by
    cases w : c.h₀.get? C with
    | none => exact w
    | some o => have := S.F.keep C o w; exact clash hC this⟩
  cel := fun x ca e => O.cel x ca (compOk_clos hok e)
  apart := fun e => nomatch e
theorem St.comp (O : Cx.Ok G c) (S : St G c st h) (s : Step G c st h h') {scope : Scope} (hok : compOk scope c.env = true) {C D : Addr} {wr : List Addr} {mC : Str → Option Value} (hC : h.get? C = none) (hD : h.get? D = none) (hw : ∀ b ∈ wr, h.get? b = none)
    (nC : h'.Ns C mC) (oD : ∃ o, h'.get? D = some o ∧ NotCode o) (hwo : WO wr h') : St G (ccx c st scope C (Hcomp c st wr C D)) ⟨mC, ρfree scope st.ρ, []⟩ h' := by
  have S' := S.step O s
  have lk : ∀ x q, (ρfree scope st.ρ).lookup x = some q → scope.names.lookup x = some .free ∧ st.ρ.lookup x = some q := fun x q e => by
    rw [lookup_filter (fun y => scope.names.lookup y == some .free)] at e
    split at e
    · rename_i hf; exact ⟨by simpa using hf, e⟩
    · cases e
  have nomut : ∀ x k, (ρfree scope st.ρ).lookup x ≠ some (.mut k) := fun x k e => by
    obtain ⟨e1, e2⟩ := lk x _ e
    have k := (S.mu x k e2).1
    rcases (compOk_free hok e1).2 with z | z <;> rw [k] at z <;> cases z
  have V : VLe (VW c st h) (VW (ccx c st scope C (Hcomp c st wr C D)) ⟨mC, ρfree scope st.ρ, []⟩ h') := fun b o e => by
    rw [view_some] at e ⊢
    refine ⟨fun q => ?_, (view_some.mp (s.vle O b o (view_some.mpr e))).2⟩
    rcases q with q | q | ⟨x, its, q⟩
    · rcases q with q | q | q | q
      · exact e.1 q
      · rw [hw b q] at e; cases e.2
      · rw [q, hC] at e; cases e.2
      · rw [q, hD] at e; cases e.2
    · cases q
    · exact nomut _ _ q.1
  refine { F := s.F, Nn := nC, ρ := fun x q e => ?_, mu := fun x k e => (nomut x k e).elim, nd := fun x y k k' _ e => (nomut x k e).elim, occ' := fun b q => ?_, cocc := fun x ca e => S'.cocc x ca (compOk_clos hok e), own := fun b hb => (nomatch hb), glb := s.glb }
  · obtain ⟨e1, e2⟩ := lk x _ e
    rcases S.ρ x q e2 with ⟨k, v, _, r⟩ | ⟨k, ca, v, e3, ⟨o, e4, e5⟩, r⟩
    · rcases (compOk_free hok e1).2 with z | z <;> rw [k] at z <;> cases z
    · refine .inr ⟨lookup_relabel_free e1, ca, v, ?_, ⟨o, s.later _ _ (O.cel x ca e3).1 (O.cel x ca e3).2 e4, e5⟩, r.mono V⟩
      obtain ⟨cb, hcb⟩ := Option.isSome_iff_exists.mp (closR_has c.env scope.names [] x (.inr (mem_of_lookup e1)))
      have := compOk_clos hok hcb
      rw [e3] at this; cases this
      exact hcb
  · rcases q with q | q | ⟨x, its, q⟩
    · rcases q with q | q | q | q
      · exact S'.occ' b q
      · obtain ⟨o, e, n⟩ := hwo b q; exact ⟨o, e, .ne n⟩
      · obtain ⟨o, _, _, e, d, _⟩ := nC; exact ⟨o, q ▸ e, .dic d⟩
      · rw [q]; exact oD
    · cases q
    · exact (nomut _ _ q.1).elim
end
noncomputable def Tsts (G : Gx) (c : Cx) (st : AS) : List Expr → (Bool → Prop) → Prop
  | [], Q => Q true
  | [t], Q => Tr G c st t Q
  | _ :: _ :: _, _ => False
noncomputable def CompR (G : Gx) (c : Cx) (ρ : List (Str × LV)) (target : Expr) (tests : List Expr) (elt : Expr) (K : List PV → Prop) : List PV → List PV → Prop
  | [], qs => K qs
  | q :: l, qs => ∀ m, Asg G c ⟨m, ρ, []⟩ target q fun st1 => Tsts G c st1 tests fun b => if b = true then Ev G c st1 elt fun r => CompR G c ρ target tests elt K l (qs ++ [r]) else CompR G c ρ target tests elt K l qs
theorem comp_loop {prog : Program} {w : World} {A : Around} {s : Shared} {elt target iter : Expr} {ifs : List Expr} {scope : Scope} {pos : Pos} {it acc : Value} {env : Env} {R : Result → Shared → Prop} (I : Nat → Shared → Prop)
    (turn : ∀ n s, I n s → wpAny (model prog w) A (pyNext it) (fun r s₁ => match r with
      | none => R (.ok .next) s₁
      | some v => wpAny (model prog w) A (letOwnedTupleGo target it v) (fun _ s₀ => wpAny (model prog w) A (assign target env v) (fun _ s₂ =>
          wpAny (model prog w) A (forIn ifs true fun c r => if r = true then do let ok ← isTrue c env (eval c env); pure (ForInStep.yield ok) else pure (ForInStep.yield r)) (fun ok s₃ =>
            if ok = true then wpAny (model prog w) A (eval elt env) (fun x s₄ =>
              wpAny (model prog w) A (call (.builtin "list.append") [acc, x]) (fun _ s₅ => ∃ m, m < n ∧ I m s₅) (notedBy (model prog w) A env fun e s' => R (.error e) s') s₄) (notedBy (model prog w) A env fun e s' => R (.error e) s') s₃
            else ∃ m, m < n ∧ I m s₃) (notedBy (model prog w) A env fun e s' => R (.error e) s') s₂)
          (notedBy (model prog w) A env fun e s' => R (.error e) s') s₀) (notedBy (model prog w) A env fun e s' => R (.error e) s') s₁) (notedBy (model prog w) A env fun e s' => R (.error e) s') s)
    (n : Nat) (h : I n s) : codeAny (model prog w) A (.compLoop (.ListComp elt [⟨target, iter, ifs, 0⟩] scope pos) 0 it acc env) R s := by
  refine codeAny_loop rfl I (fun n s hI => ?_) n h
  show wpAny _ A ((compTurn (.ListComp elt [⟨target, iter, ifs, 0⟩] scope pos) 0 it acc env).onRaise (fun x => do noteFrame x env; theTreesLotGoes x)) _ _ s
  refine wpAny_noted ?_
  rw [compTurn_list]
  refine wpAny_bind (wpAny_standAt (wpAny_bind (wpAny_mono (turn n s hI) (fun r s₁ h₁ => ?_) fun _ _ h' => h')))
  cases r with
  | none => exact wpAny_pure h₁
  | some v =>
    refine wpAny_bind (wpAny_mono h₁ (fun _ s₀ h₀' => ?_) fun _ _ h' => h')
    refine wpAny_bind (wpAny_mono h₀' (fun _ s₂ h₂ => wpAny_bind (wpAny_mono h₂ (fun ok s₃ h₃ => ?_) fun _ _ h' => h')) fun _ _ h' => h')
    cases ok with
    | false => exact wpAny_pure ⟨rfl, h₃⟩
    | true =>
      exact wpAny_bind (wpAny_bind (wpAny_mono h₃ (fun x s₄ h₄ => wpAny_bind (wpAny_mono h₄ (fun _ s₅ h₅ => wpAny_pure (wpAny_pure ⟨rfl, h₅⟩)) fun _ _ h' => h')) fun _ _ h' => h'))
end
section
section
variable {G : Gx} {c : Cx} {st : AS} {h h' : Heap}
theorem nomut_free (S : St G c st h) {scope : Scope} (hok : compOk scope c.env = true) : ∀ x k, (ρfree scope st.ρ).lookup x ≠ some (.mut k) := fun x k e => by
  rw [lookup_filter (fun y => scope.names.lookup y == some .free)] at e
  split at e
  · rename_i hf
    have e1 : scope.names.lookup x = some .free := by simpa using hf
    have k := (S.mu x k e).1
    rcases (compOk_free hok e1).2 with z | z <;> rw [k] at z <;> cases z
  · cases e
theorem Step.fresh (s : Step G c st h h') {b : Addr} (e : h'.get? b = none) : h.get? b = none := by
  cases w : h.get? b with
  | none => rfl
  | some o =>
    by_cases n1 : b ∈ c.M G
    · obtain ⟨o', f⟩ := s.glb.hasM b n1; exact clash e f
    · by_cases n2 : b = c.L
      · obtain ⟨o', _, _, f, _⟩ := s.F.ns; rw [← n2, e] at f; cases f
      · have := s.later b o n1 n2 w; exact clash e this
noncomputable def CompI (G : Gx) (c : Cx) (st : AS) (h h1 : Heap) (scope : Scope) (wr : List Addr) (C D : Addr) (l : List PV) (Sg : Nat → Heap → Prop) (target elt : Expr) (tests : List Expr) (K : List PV → Prop) (k : Nat) (s' : Shared) : Prop :=
  ∃ h' tk' i mC ys qs, s' = G.sh h' tk' ∧ i ≤ l.length ∧ k = l.length + 1 - i ∧ ys.length ≤ i ∧ Step G c st h h' ∧ h'.Ns C mC ∧ h'.get? D = some (listOf ys.toArray ys.length) ∧ VRs G (view (Hcomp c st wr C D) h') ys qs ∧ Sg i h' ∧ WO wr h' ∧
        VLe (view (fun b => Hid c st b ∨ b ∈ wr) h1) (view (Hcomp c st wr C D) h') ∧ CompR G (ccx c st scope C (Hcomp c st wr C D)) (ρfree scope st.ρ) target tests elt K (l.drop i) qs
noncomputable def KeptX (G : Gx) (c : Cx) (C : Addr) (h3 hx : Heap) : Prop := ∀ b o, b ∉ c.M G → b ≠ c.L → b ≠ C → h3.get? b = some o → hx.get? b = some o
theorem Tsts.walk {tests : List Expr} {Q : Bool → Prop} (e : Tsts G c st tests Q) {tk : Nat} (S : St G c st h) {Q' : Bool → Shared → Prop} {E' : Value → Shared → Prop} (z : ∀ b h' tk', Step G c st h h' → Q b → Q' b (G.sh h' tk')) :
    wpAny (model G.prog G.w) c.A (forIn tests true fun t r => if r = true then do let ok ← isTrue t c.env (eval t c.env); pure (ForInStep.yield ok) else pure (ForInStep.yield r)) Q' E' (G.sh h tk) := by
  cases tests with
  | nil => exact wpAny_tests_nil (z _ _ _ S.refl e)
  | cons t ts => cases ts with
    | nil => exact wpAny_tests_one (e h tk S _ _ z)
    | cons _ _ => exact e.elim
theorem comp_core (hdl : c.hdl = none) (O : Cx.Ok G c) (S : St G c st h) {target iter elt : Expr} {tests : List Expr} {scope : Scope} {pos : Pos} (hk : scope.kind = .function) (hok : compOk scope c.env = true) {I : Addr} {wr : List Addr} {l : List PV} {Sg : Nat → Heap → Prop} {Md : Nat → Value → Heap → Prop}
    {h1 : Heap} {tk1 : Nat} (s1 : Step G c st h h1) (hw : ∀ b ∈ wr, h.get? b = none) (hwo : WO wr h1) (W : Itr G c.A target I wr l (view (fun b => Hid c st b ∨ b ∈ wr) h1) Sg Md) (sg : Sg 0 h1) (hsz : l.length ≤ 16777216) {K : List PV → Prop}
    (R : ∀ C H, Cx.Ok G (ccx c st scope C H) → CompR G (ccx c st scope C H) (ρfree scope st.ρ) target tests elt K l [])
    {RR : Value → Addr → Result → Shared → Prop} {E : Value → Shared → Prop}
    (hRR : ∀ D C h2 tk2 mC ys qs, h.get? C = none → h.get? D = none → C ≠ D → Step G c st h h2 → h2.Ns C mC → h2.get? D = some (listOf ys.toArray ys.length) → VRs G (view (Hcomp c st wr C D) h2) ys qs → K qs → RR (.ref D) C (.ok .next) (G.sh h2 tk2)) :
    wpAny (model G.prog G.w) c.A (newList []) (fun acc s₃ => wpAny (model G.prog G.w) c.A (newFunctionEnv scope c.env.globals (clos scope c.env) [] c.env.qual none .none (some c.env)) (fun cenv s₄ =>
      codeAny (model G.prog G.w) c.A (.compStart (.ListComp elt [⟨target, iter, tests, 0⟩] scope pos) 0 (.ref I) acc { cenv with scope := relabel scope c.env }) (RR acc cenv.locals) s₄) E s₃) E (G.sh h1 tk1) := by
  have S1 := S.step O s1
  have hcell : ∀ y ∈ scope.names, y.2 ≠ .cell := fun y hy q => by
    have := List.all_eq_true.mp hok y hy
    rw [q] at this
    simp at this
  refine wpAny_newObj_type (wpAny_newFunctionEnv hcell (by intro y hy; simp at hy) (fun h₁ hns₁ hsb₁ => ?_) hk)
  dsimp only at hns₁ hsb₁ ⊢
  generalize hH2 : h1.push { cls := .type "list", dict := none, data := .seq ([] : List Value).toArray } = H2 at hns₁ hsb₁ ⊢
  generalize hCe : H2.objs.size = C at hns₁ hsb₁ ⊢
  generalize hDe : h1.objs.size = D at hns₁ hsb₁ ⊢
  have hC : C = D + 1 := by rw [← hCe, ← hH2, Heap.size_push, hDe]
  have hCD : C ≠ D := by rw [hC]; exact Nat.succ_ne_self _
  have below : ∀ b o, h1.get? b = some o → b ≠ C ∧ b ≠ D := fun b o e => by
    have : b < D := hDe ▸ Heap.lt_size e
    exact ⟨Nat.ne_of_lt (hC ▸ Nat.lt_succ_of_lt this), Nat.ne_of_lt this⟩
  have hC1 : h1.get? C = none := by cases w : h1.get? C with | none => rfl | some o => exact absurd rfl (below C o w).1
  have hD1 : h1.get? D = none := by cases w : h1.get? D with | none => rfl | some o => exact absurd rfl (below D o w).2
  have hC0 := s1.fresh hC1
  have hD0 := s1.fresh hD1
  have old : ∀ b o, h1.get? b = some o → h₁.get? b = some o := fun b o e => hsb₁.extBut b o (by exact (below b o e).1) (Heap.get?_push_of_some _ (hH2 ▸ Heap.get?_push_of_some _ e))
  have hacc : h₁.get? D = some (listOf ([] : List Value).toArray 0) := hsb₁.extBut _ _ (Ne.symm hCD) (Heap.get?_push_of_some _ (hH2 ▸ hDe ▸ Heap.get?_push_size _ rfl))
  have sA : Step G c st h h₁ := s1.trans (S1.keepAll O old)
  have wo₁ : WO wr h₁ := fun b hb => by obtain ⟨o, e, q⟩ := hwo b hb; exact ⟨o, old b o e, q⟩
  have wrCD : ∀ b ∈ wr, b ≠ C ∧ b ≠ D := fun b hb => by obtain ⟨o, e, _⟩ := hwo b hb; exact below b o e
  have notin : ∀ b, h.get? b = none → b ∉ c.M G ∧ b ≠ c.L := fun b e => ⟨fun q => (by obtain ⟨o, f⟩ := S.glb.hasM b q; exact clash e f), fun q => (by obtain ⟨o, _, _, f, _⟩ := S.F.ns; rw [← q, e] at f; cases f)⟩
  have V0 : VLe (view (fun b => Hid c st b ∨ b ∈ wr) h1) (view (Hcomp c st wr C D) h₁) := fun b o e => by
    rw [view_some] at e ⊢
    refine ⟨fun q => ?_, old b o e.2⟩
    rcases q with q | q | q | q
    · exact e.1 (.inl q)
    · exact e.1 (.inr q)
    · exact (below b o e.2).1 q
    · exact (below b o e.2).2 q
  let H := Hcomp c st wr C D
  let cc := ccx c st scope C H
  have O' : Cx.Ok G cc := O.comp S hk hok hC0 (fun b q => .inl q) (.inr (.inr (.inl rfl))) (fun a o e q => by
    have e1 := S.F.keep _ _ (O.X a o e)
    rcases q with q | q | q | q
    · exact kHid O S e q
    · rw [hw a q] at e1; cases e1
    · exact clash hC0 (q ▸ e1)
    · exact clash hD0 (q ▸ e1))
  have WK : WrOk G cc wr := ⟨fun b hb => .inr (.inl hb), fun b hb => (notin b (hw b hb)).1, fun q => (notin _ (hw _ q)).2 rfl, fun q => (wrCD C q).1 rfl, fun x ca e q => (by
    obtain ⟨o, f⟩ := S.cocc x ca (compOk_clos hok e); rw [hw ca q] at f; cases f), fun b hb => by
    cases w : c.h₀.get? b with
    | none => rfl
    | some o => have := S.F.keep b o w; rw [hw b hb] at this; cases this⟩
  have noOwn : ∀ m b, b ∉ c.M G → b ≠ c.L → b ≠ C → ¬ Own G cc ⟨m, ρfree scope st.ρ, []⟩ b := fun m b n1 n2 n3 q => by
    rcases q with q | q | q | q | ⟨x, its, q⟩
    · exact n1 q
    · exact n2 q
    · exact n3 q
    · cases q
    · exact nomut_free S hok _ _ q.1
  have loop : ∀ s₃ : Shared, s₃ = G.sh h₁ (tk1 + ([] : List (Str × Value)).length) →
      codeAny (model G.prog G.w) c.A (.compLoop (.ListComp elt [⟨target, iter, tests, 0⟩] scope pos) 0 (.ref I) (.ref D) cc.env) (RR (.ref D) C) s₃ := by
    rintro s₃ rfl
    refine comp_loop
      (CompI G c st h h1 scope wr C D l Sg target elt tests K) ?_ (l.length + 1)
      ⟨h₁, _, 0, _, [], [], rfl, Nat.zero_le _, rfl, Nat.le_refl _, sA, hns₁, hacc, .nil, W.frame 0 _ _ sg fun b o _ e => old b o e, wo₁, V0, R C H O'⟩
    rintro k s' ⟨h', tk', i, mC, ys, qs, rfl, hi, rfl, hyl, sB, nC, oD, rs, sg', wo', VB, CR⟩
    by_cases hlt : i < l.length
    · have hq : l[i]? = some l[i] := List.getElem?_eq_getElem hlt
      rw [List.drop_eq_getElem_cons hlt] at CR
      have S0 : St G cc ⟨mC, ρfree scope st.ρ, []⟩ h' := S.comp O sB hok hC0 hD0 hw nC ⟨_, oD, .seq rfl⟩ wo'
      have hH : ∀ b, H b → ∃ o, h'.get? b = some o := fun b q => S0.occ b (.inl q)
      refine W.item i h' tk' l[i] hq sg' H hH (fun b hb => .inr (.inl hb)) VB _ _ fun v h2 tk2 b2 r2 md => ?_
      refine W.go i v h2 tk2 md _ _ fun h3 tk3 b3 sg3 => ?_
      have Sb := S0.wr O' WK wo' b2 (fun b hb => nomatch hb)
      have Sc := Sb.wr O' WK b2.2 b3 (fun b hb => nomatch hb)
      have Vc : VLe (view H h2) (VW cc ⟨mC, ρfree scope st.ρ, []⟩ h3) := fun b o e => by
        rw [view_some] at e ⊢
        refine ⟨fun q => ?_, b3.1 b o (fun q => e.1 (.inr (.inl q))) e.2⟩
        rcases q with q | q | ⟨x, its, q⟩
        · exact e.1 q
        · cases q
        · exact nomut_free S hok _ _ q.1
      refine CR mC h3 tk3 v Sc (r2.mono Vc) _ _ fun st1 h4 tk4 S4 k4 ex => ?_
      have after : ∀ (hx : Heap) (tkx : Nat), Step G cc st1 h4 hx → KeptX G c C h3 hx ∧ St G cc st1 hx := fun hx tkx sx =>
        ⟨fun b o n1 n2 n3 e => sx.later b o n1 n2 (k4.keep b o (noOwn mC b n1 n2 n3) e), S4.step O' sx⟩
      have up3 : ∀ b o, b ∉ wr → h'.get? b = some o → h3.get? b = some o := fun b o n e => b3.1 b o n (b2.1 b o n e)
      have stepx : ∀ hx : Heap, KeptX G c C h3 hx → St G cc st1 hx → Step G c st h hx := fun hx kx Sx =>
        ⟨fun b o n1 n2 e => kx b o n1 n2 (fun q => by exact clash hC0 (q ▸ e)) (up3 b o (fun q => by rw [hw b q] at e; cases e) (sB.later b o n1 n2 e)), Sx.F, Sx.glb⟩
      have VH : ∀ hx : Heap, KeptX G c C h3 hx → VLe (view H h') (view H hx) := fun hx kx b o e => by
        rw [view_some] at e ⊢
        exact ⟨e.1, kx b o (fun q => e.1 (.inl (hid_of_M O q))) (fun q => e.1 (.inl (.inl (q ▸ O.hLh)))) (fun q => e.1 (.inr (.inr (.inl q)))) (up3 b o (fun q => e.1 (.inr (.inl q))) e.2)⟩
      have hDn : D ∉ c.M G ∧ D ≠ c.L := notin D hD0
      have Dx : ∀ hx : Heap, KeptX G c C h3 hx → hx.get? D = some (listOf ys.toArray ys.length) := fun hx kx =>
        kx D _ hDn.1 hDn.2 (Ne.symm hCD) (up3 D _ (fun q => (wrCD D q).2 rfl) oD)
      have wox : ∀ hx : Heap, KeptX G c C h3 hx → WO wr hx := fun hx kx b hb => by
        obtain ⟨o, e, q⟩ := b3.2 b hb
        exact ⟨o, kx b o (WK.M b hb) (fun z => WK.L (z ▸ hb)) (wrCD b hb).1 e, q⟩
      have sgx : ∀ hx : Heap, KeptX G c C h3 hx → Sg (i + 1) hx := fun hx kx => W.frame _ _ _ sg3 fun b o hb e => by
        rcases hb with hb | ⟨o', hb⟩
        · exact kx b o (WK.M b hb) (fun z => WK.L (z ▸ hb)) (wrCD b hb).1 e
        · have q := (view_some.mp (VB b o' hb)).1
          exact kx b o (fun z => q (.inl (hid_of_M O z))) (fun z => q (.inl (.inl (z ▸ O.hLh)))) (fun z => q (.inr (.inr (.inl z)))) e
      have fin : ∀ (b : Bool) (h5 : Heap) (tk5 : Nat), Step G cc st1 h4 h5 → (if b = true then Ev G cc st1 elt fun r => CompR G cc (ρfree scope st.ρ) target tests elt K (l.drop (i + 1)) (qs ++ [r]) else CompR G cc (ρfree scope st.ρ) target tests elt K (l.drop (i + 1)) qs) →
          (if b = true then wpAny (model G.prog G.w) c.A (eval elt cc.env) (fun x s₄ => wpAny (model G.prog G.w) c.A (call (.builtin "list.append") [.ref D, x]) (fun _ s₅ => ∃ m, m < l.length + 1 - i ∧
            CompI G c st h h1 scope wr C D l Sg target elt tests K m s₅) (notedBy (model G.prog G.w) c.A cc.env fun e s' => RR (.ref D) C (.error e) s') s₄) (notedBy (model G.prog G.w) c.A cc.env fun e s' => RR (.ref D) C (.error e) s') (G.sh h5 tk5)
           else ∃ m, m < l.length + 1 - i ∧ CompI G c st h h1 scope wr C D l Sg target elt tests K m (G.sh h5 tk5)) := fun b h5 tk5 s5 q5 => by
        obtain ⟨k5, S5⟩ := after h5 tk5 s5
        cases b with
        | false =>
          simp only [Bool.false_eq_true, if_false] at q5 ⊢
          exact ⟨l.length + 1 - (i + 1), by omega, h5, tk5, i + 1, st1.m, ys, qs, rfl, hlt, rfl, Nat.le_succ_of_le hyl, stepx h5 k5 S5, S5.Nn, Dx h5 k5, rs.mono (VH h5 k5), sgx h5 k5, wox h5 k5, VB.trans (VH h5 k5), q5⟩
        | true =>
          simp only [if_true] at q5 ⊢
          refine q5 h5 tk5 S5 _ _ fun y r h6 tk6 s6 r6 q6 => ?_
          obtain ⟨k6, S6⟩ := after h6 tk6 (s5.trans s6)
          refine append_at (hsz := by show ys.toArray.size ≤ sizeLine; rw [List.size_toArray, sizeLine_eq]; omega) (Dx h6 k6) fun h7 hs7 hD7 => ?_
          have st6 := stepx h6 k6 S6
          have V7 : VLe (view H h6) (view H h7) := fun b o e => by
            rw [view_some] at e ⊢
            exact ⟨e.1, hs7.extBut b o (fun q => e.1 (.inr (.inr (.inr q)))) e.2⟩
          have Vr : VLe (VW cc st1 h6) (view H h7) := fun b o e => by
            rw [view_some] at e ⊢
            exact ⟨fun q => e.1 (.inl q), hs7.extBut b o (fun q => e.1 (.inl (.inr (.inr (.inr q))))) e.2⟩
          have hD00 : c.h₀.get? D = none := by
            cases w : c.h₀.get? D with
            | none => rfl
            | some o => have := S.F.keep D o w; exact clash hD0 this
          refine ⟨l.length + 1 - (i + 1), by omega, h7, tk6, i + 1, st1.m, ys ++ [y], qs ++ [r], rfl, hlt, rfl, by rw [List.length_append, List.length_singleton]; exact Nat.succ_le_succ hyl, ?_, S6.Nn.sameBut hs7 hCD, ?_, ?_, ?_, fun b hb => ?_, (VB.trans (VH h6 k6)).trans V7, q6⟩
          · refine ⟨fun b o n1 n2 e => hs7.extBut b o (fun q => by exact clash hD0 (q ▸ e)) (st6.later b o n1 n2 e), st6.F.change hs7 hDn.2 hD00, st6.glb.but hDn.1 (fun b o n e => hs7.extBut b o n e) (fun o vs e d => by rw [Dx h6 k6] at e; cases e; cases d) fun S' e q => hDn.1 (q ▸ mem_M (O.hS S' e))⟩
          · exact hD7.trans (congrArg some (LCg.lst_snoc ys y))
          · exact ((rs.mono (VH h6 k6)).mono V7).append (.cons (r6.mono Vr) .nil)
          · refine W.frame _ _ _ (sgx h6 k6) fun b o hb e => ?_
            rcases hb with hb | ⟨o', hb⟩
            · exact hs7.extBut b o (wrCD b hb).2 e
            · have q := (view_some.mp (VB b o' hb)).1
              exact hs7.extBut b o (fun z => q (.inr (.inr (.inr z)))) e
          · obtain ⟨o, e, q⟩ := wox h6 k6 b hb
            exact ⟨o, hs7.extBut b o (wrCD b hb).2 e, q⟩
      exact ex.walk S4 fun b h5 tk5 s5 q5 => fin b h5 tk5 s5 q5
    · obtain rfl : i = l.length := Nat.le_antisymm hi (Nat.not_lt.mp hlt)
      rw [List.drop_length] at CR
      refine W.done hdl h' tk' sg' _ _ fun h2 tk2 b2 => ?_
      have SH := S.hide O sB hw wo'
      have S2 : St G c st h2 := St.wrEnd O SH (WrOk.of O S hw) wo' (fun b hb q => by obtain ⟨o, e⟩ := S.occ b q; rw [hw b hb] at e; cases e) b2
      refine hRR D C h2 tk2 mC ys qs hC0 hD0 hCD ⟨fun b o n1 n2 e => b2 b o (fun q => by rw [hw b q] at e; cases e) (sB.later b o n1 n2 e), S2.F, S2.glb⟩ (nC.at' fun o e => b2 _ o (fun q => (wrCD C q).1 rfl) e) (b2 D _ (fun q => (wrCD D q).2 rfl) oD) (rs.mono fun b o e => ?_) CR
      rw [view_some] at e ⊢
      exact ⟨e.1, b2 b o (fun q => e.1 (.inr (.inl q))) e.2⟩
  exact codeAny_compStart_list (loop _ rfl) (W.self 0 _ _ (W.frame 0 _ _ sg fun b o _ e => old b o e) _ _ (loop _ rfl))
end
end
section
section
variable {G : Gx} {c : Cx} {st : AS} {h h' : Heap}
theorem compOk_names {scope : Scope} {env : Env} (hok : compOk scope env = true) : ∀ x ∈ scope.names, x.2 = .local → scope.names.lookup x.1 = some .local := fun x hx hl => by
  have := List.all_eq_true.mp hok x hx
  rw [hl] at this
  simpa using this
theorem Ev.comp (O : Cx.Ok G c) {target iter elt : Expr} {tests : List Expr} {scope : Scope} {pos : Pos} {Q : PV → Prop}
    (hI : It G c st target iter fun l => l.length ≤ 16777216 ∧ ∀ C H, Cx.Ok G (ccx c st scope C H) → CompR G (ccx c st scope C H) (ρfree scope st.ρ) target tests elt (fun qs => Q (.lst qs)) l [])
    (hk : autoParam (scope.kind = .function) aRfl) (hok : autoParam (compOk scope c.env = true) aRfl) (hs : autoParam (∀ x, foldedSetIterable iter c.env x = pure x) aIRfl) (hd : autoParam (c.hdl = none) aRfl) : Ev G c st (.ListComp elt [⟨target, iter, tests, 0⟩] scope pos) Q := fun h₀ tk₀ S Q' E' z => by
  show wpAny _ _ (eval _ _) _ _ _
  rw [eval_ListComp]
  refine wpAny_comprehension_free (use := none) rfl hs (closureFor_ok hok) hk (compOk_names hok) ?_
  show wpAny _ _ (eval iter c.env) _ _ _
  refine hI h₀ tk₀ S _ E' fun I wr l Sg Md h1 tk1 s1 hw hwo W sg ql => ?_
  refine comp_core hd O S hk hok s1 hw hwo W sg ql.1 ql.2 (RR := fun acc C r s' => compPost (model G.prog G.w) c.A E' none Q' acc C r s') ?_
  intro D C h2 tk2 mC ys qs hC hD hCD s2 nC oD rs K
  have hDn : D ∉ c.M G ∧ D ≠ c.L := ⟨fun q => (by obtain ⟨o, f⟩ := S.glb.hasM D q; exact clash hD f), fun q => (by obtain ⟨o, _, _, f, _⟩ := S.F.ns; rw [← q, hD] at f; cases f)⟩
  have hCn : C ∉ c.M G ∧ C ≠ c.L := ⟨fun q => (by obtain ⟨o, f⟩ := S.glb.hasM C q; exact clash hC f), fun q => (by obtain ⟨o, _, _, f, _⟩ := S.F.ns; rw [← q, hC] at f; cases f)⟩
  refine ⟨mC, nC, fun h' hs' => ?_⟩
  have hC0 : c.h₀.get? C = none := by
    cases w : c.h₀.get? C with
    | none => rfl
    | some o => have := S.F.keep C o w; exact clash hC this
  obtain ⟨oC, es, ep, eC, dC, _⟩ := nC
  have s3 : Step G c st h₀ h' := ⟨fun b o n1 n2 e => hs'.extBut b o (fun q => by exact clash hC (q ▸ e)) (s2.later b o n1 n2 e), s2.F.change hs' hCn.2 hC0,
    s2.glb.but hCn.1 (fun b o n e => hs'.extBut b o n e) (fun o vs e d => by rw [eC] at e; cases e; rw [dC] at d; cases d) fun S' e q => hCn.1 (q ▸ mem_M (O.hS S' e))⟩
  refine z _ _ h' tk2 s3 (.lst (vs := ys) (view_some.mpr ⟨fun q => ?_, hs'.extBut _ _ (Ne.symm hCD) oD⟩) (rs.mono fun b o e => ?_)) K
  · obtain ⟨o, e⟩ := S.occ D q; exact clash hD e
  · rw [view_some] at e ⊢
    exact ⟨fun q => e.1 (.inl q), hs'.extBut b o (fun q => e.1 (.inr (.inr (.inl q)))) e.2⟩
theorem Ex.assignComp (O : Cx.Ok G c) (hm : c.mf = none) {y : Str} {yp : Pos} {target iter elt : Expr} {tests : List Expr} {scope : Scope} {pos spos : Pos} {N : AS → Prop} {R : PV → Prop} {X : List (Str × PV) → Prop} (hy : Stores c st y)
    (hI : It G c st target iter fun l => l.length ≤ 16777216 ∧ ∀ C H, Cx.Ok G (ccx c st scope C H) → CompR G (ccx c st scope C H) (ρfree scope st.ρ) target tests elt (fun qs => ∀ m', N (st.set y (.lst qs) m')) l [])
    (hsw : autoParam (swapsWith (.ListComp elt [⟨target, iter, tests, 0⟩] scope pos) (some (.Name y yp)) spos.line c.env = pure true) aRfl)
    (hk : autoParam (scope.kind = .function) aRfl) (hok : autoParam (compOk scope c.env = true) aRfl) (hs : autoParam (∀ x, foldedSetIterable iter c.env x = pure x) aIRfl) (hd : autoParam (c.hdl = none) aRfl) : Ex G c st (.Assign [.Name y yp] (.ListComp elt [⟨target, iter, tests, 0⟩] scope pos) spos) N R X := fun h₀ tk₀ S Q' E' zn zr zx => by
  rw [exec_Assign_Name_used _ _ _ _ hsw]
  refine wpAny_bind (wpAny_standAt (wpAny_bind ?_))
  show wpAny _ _ (do let _ ← comprehension (.ListComp elt [⟨target, iter, tests, 0⟩] scope pos) scope c.env _ (newList []) false (eval iter c.env) (some (PySem.assign (Expr.Name y yp) c.env))) _ _ _
  refine wpAny_bind (wpAny_mono (wpAny_comprehension_free (use := some (PySem.assign (Expr.Name y yp) c.env)) (Q := fun _ s' => Q' .next s') rfl hs (closureFor_ok hok) hk (compOk_names hok) ?_) (fun _ s' hq => wpAny_pure (wpAny_pure hq)) fun _ _ e => e)
  refine hI h₀ tk₀ S _ E' fun I wr l Sg Md h1 tk1 s1 hw hwo W sg ql => ?_
  refine comp_core hd O S hk hok s1 hw hwo W sg ql.1 ql.2 (RR := fun acc C r s' => compPost (model G.prog G.w) c.A E' (some (PySem.assign (Expr.Name y yp) c.env)) (fun _ s' => Q' .next s') acc C r s') ?_
  intro D C h2 tk2 mC ys qs hC hD hCD s2 nC oD rs K
  have hCn : C ∉ c.M G ∧ C ≠ c.L := ⟨fun q => (by obtain ⟨o, f⟩ := S.glb.hasM C q; exact clash hC f), fun q => (by obtain ⟨o, _, _, f, _⟩ := S.F.ns; rw [← q, hC] at f; cases f)⟩
  have one : ∀ b ∈ [C], h₀.get? b = none := fun b hb => by rw [List.mem_singleton.mp hb]; exact hC
  obtain ⟨oC, es, ep, eC, dC, nCr⟩ := nC
  have SH : St G (withHid c [C]) st h2 := S.hide' O s2 one fun b hb => by rw [List.mem_singleton.mp hb]; exact ⟨oC, eC, .dic dC⟩
  have WC : WrOk G (withHid c [C]) [C] := WrOk.of O S one
  have rD : VR G (VW (withHid c [C]) st h2) (.ref D) (.lst qs) := .lst (vs := ys) (view_some.mpr ⟨fun q => by
    rcases hid_with.mp q with q | q
    · obtain ⟨o, e⟩ := S.occ D q; exact clash hD e
    · exact hCD (List.mem_singleton.mp q).symm, oD⟩) (rs.mono fun b o e => by
    rw [view_some] at e ⊢
    refine ⟨fun q => e.1 ?_, e.2⟩
    rcases hid_with.mp q with q | q
    · exact .inl q
    · exact .inr (.inr (.inl (List.mem_singleton.mp q))))
  have hCc : C ≠ c.env.locals := fun q => by obtain ⟨o, _, _, e, _⟩ := S.Nn; rw [← q, hC] at e; cases e
  have nCh : ¬ Hid c st C := fun q => by obtain ⟨o, e⟩ := S.occ C q; exact clash hC e
  refine wpAny_assign_Name (store_of (O.with [C] fun b hb => S.new0 (by rw [List.mem_singleton.mp hb]; exact hC)) hy SH rD fun m' h3 tk3 S3 k3 => ?_)
  have e3 : h3.get? C = some oC := k3.keep C oC (fun q => by
    rcases q with q | q | q | q | q
    · exact hCn.1 q
    · exact hCn.2 q
    · exact hCc q
    · exact nCh (.inr (.inl q))
    · exact nCh (.inr (.inr q))) eC
  refine ⟨mC, ⟨oC, es, ep, e3, dC, nCr⟩, fun h4 hs4 => ?_⟩
  refine zn _ h4 tk3 (S3.wrEnd' O WC (fun b hb o vs e _ d => ?_) (fun b hb q => nCh ?_) fun b o n e => hs4.extBut b o (fun q => n (List.mem_singleton.mpr q)) e) ⟨fun b o n e => ?_, fun b q => ?_⟩ (K m')
  · rw [List.mem_singleton.mp hb, e3] at e; cases e; rw [dC] at d; cases d
  · rw [List.mem_singleton.mp hb] at q; exact hid_set q
  · have n1 : b ≠ C := fun q => by exact clash hC (q ▸ e)
    exact hs4.extBut b o n1 (k3.keep b o n (s2.kle.keep b o n e))
  · exact .inl (own_set q)
end
end
section
inductive Fl (P : PV → Option PV → Prop) : List PV → List PV → Prop
  | nil : Fl P [] []
  | some {q r : PV} {l rs : List PV} : P q (some r) → Fl P l rs → Fl P (q :: l) (r :: rs)
  | none {q : PV} {l rs : List PV} : P q none → Fl P l rs → Fl P (q :: l) rs
section
variable {G : Gx} {c : Cx} {st : AS} {h h' : Heap}
theorem ForR.cons {target : Expr} {body : List Stmt} {N : AS → Prop} {R : PV → Prop} {X : List (Str × PV) → Prop} {q : PV} {l : List PV} (k : Asg G c st target q fun st1 => Exs G c st1 body (fun st2 => ForR G c target body N R X l st2) R X) : ForR G c target body N R X (q :: l) st := k
theorem CompR.of {ρ : List (Str × LV)} {target elt : Expr} {tests : List Expr} {K : List PV → Prop} (P : PV → Option PV → Prop) : ∀ (l qs : List PV),
    (∀ q ∈ l, ∀ m (T : Option PV → Prop), (∀ o, P q o → T o) → Asg G c ⟨m, ρ, []⟩ target q fun st1 => Tsts G c st1 tests fun b => if b = true then Ev G c st1 elt fun r => T (.some r) else T .none) →
    (∀ rs, Fl P l rs → K (qs ++ rs)) → CompR G c ρ target tests elt K l qs
  | [], qs, _, k => by have := k [] .nil; rwa [List.append_nil] at this
  | q :: l, qs, hi, k => fun m => hi q (.head _) m (fun o => match o with | .some r => CompR G c ρ target tests elt K l (qs ++ [r]) | .none => CompR G c ρ target tests elt K l qs) fun o hp => by
    cases o with
    | some r =>
      refine CompR.of P l (qs ++ [r]) (fun x hx => hi x (.tail _ hx)) fun rs hr => ?_
      have := k (r :: rs) (.some hp hr)
      rwa [List.append_assoc, List.singleton_append]
    | none => exact CompR.of P l qs (fun x hx => hi x (.tail _ hx)) fun rs hr => k rs (.none hp hr)
theorem OpL.ty1 {f : List Value → Sem Value} {n : String} {a : PV} {Q : PV → Prop} (k : ∀ h tk v, St G c st h → VR G (VW c st h) v a → ∀ (Q' : Value → Shared → Prop) (E' : Value → Shared → Prop), (∀ v q h' tk', Step G c st h h' → VR G (VW c st h') v q → Q q → Q' v (G.sh h' tk')) → wpAny (model G.prog G.w) c.A (f [.type n, v]) Q' E' (G.sh h tk)) : OpL G c st f [.ty n, a] Q :=
  fun h tk vs S rs Q' E' z => rs.of2 fun v w r r' => r.ofTy (k h tk w S r' Q' E' z)
theorem OpL.bi1 {f : List Value → Sem Value} {n : String} {a : PV} {Q : PV → Prop} (k : ∀ h tk v, St G c st h → VR G (VW c st h) v a → ∀ (Q' : Value → Shared → Prop) (E' : Value → Shared → Prop), (∀ v q h' tk', Step G c st h h' → VR G (VW c st h') v q → Q q → Q' v (G.sh h' tk')) → wpAny (model G.prog G.w) c.A (f [.builtin n, v]) Q' E' (G.sh h tk)) : OpL G c st f [.bi n, a] Q :=
  fun h tk vs S rs Q' E' z => rs.of2 fun v w r r' => r.ofBi (k h tk w S r' Q' E' z)
theorem OpL.bi2 {f : List Value → Sem Value} {n : String} {a b : PV} {Q : PV → Prop} (k : ∀ h tk v w, St G c st h → VR G (VW c st h) v a → VR G (VW c st h) w b → ∀ (Q' : Value → Shared → Prop) (E' : Value → Shared → Prop), (∀ v q h' tk', Step G c st h h' → VR G (VW c st h') v q → Q q → Q' v (G.sh h' tk')) → wpAny (model G.prog G.w) c.A (f [.builtin n, v, w]) Q' E' (G.sh h tk)) : OpL G c st f [.bi n, a, b] Q :=
  fun h tk vs S rs Q' E' z => rs.of3 fun v w u r r' r2 => r.ofBi (k h tk w u S r' r2 Q' E' z)
theorem OpL.range (O : Cx.Ok G c) {n : Int} {Q : PV → Prop} (q : Q (.rng n)) : OpL G c st callL [.ty "range", .int n] Q := .ty1 fun h tk v S r Q' E' z => by
  refine r.ofInt fun t => ?_
  exact call_range_1 (z _ _ _ _ (S.push O _) (.rng (S.vnew rfl)) q)
theorem It.rng (O : Cx.Ok G c) {target iter : Expr} {Q : List PV → Prop} (hE : Ev G c st iter fun q => ∃ n : Nat, q = .rng n ∧ n ≤ 16777216 ∧ Q ((List.range n).map fun (i : Nat) => PV.int i)) (hh : autoParam (c.hdl = none) aRfl) : It G c st target iter Q := fun h tk S Q' E' z => by
  refine hE h tk S _ _ fun v q h1 tk1 s1 r1 q1 => ?_
  obtain ⟨n, rfl, hn, ql⟩ := q1
  refine r1.ofRng fun r t u w e => ?_
  · have S1 := S.step O s1
    have hsz : Builtin.Range.rangeSize 0 (n : Int) 1 = (n : Int) := by
      rw [rangeSize_nat]; omega
    refine wpAny_pyIter_range (VW.get e) ?_ ?_
    · unfold Builtin.Range.small; rw [hsz]; simp [Builtin.Range.rangeFitsLong]; omega
    · rw [hsz]
      have e0 : (h1.push { cls := .type "range_iterator", data := .fields #[rawInt 0, rawInt (n : Int), rawInt 1] }).get? h1.objs.size = some { cls := .type "range_iterator", data := .fields #[rawInt 0, rawInt (n : Int), rawInt 1] } := Heap.get?_push_size _ rfl
      refine z h1.objs.size [h1.objs.size] ((List.range n).map fun (i : Nat) => PV.int i) (fun i h => IsRangeIter h h1.objs.size (0 + (i : Nat) * 1) ((n : Int) - (i : Nat)) 1) _ _ tk1 (s1.trans (S1.push O _)) (fun b hb => s1.fresh (new_none h1 b hb)) ?_ (Itr.ofWalks (LCg.range_walks hh 0 n) (by simp) ?_ ?_ ?_ ?_) (by simpa using e0) ql
      · intro b hb; rw [List.mem_singleton.mp hb]; exact ⟨_, e0, by simp⟩
      · intro b hb; exact .inl hb
      · intro i v q hq p H h hv
        obtain ⟨t, rfl⟩ := p
        have hi : i < n := by have := (List.getElem?_eq_some_iff.mp hq).1; simpa using this
        rw [List.getElem?_map, List.getElem?_range hi] at hq
        simp at hq; subst hq; simpa using VR.int (G := G) (V := view H h) _ t
      · intro i h sg b hb
        rw [List.mem_singleton.mp hb]
        exact ⟨_, sg, by simp⟩
      · intro i v h tk Q E sg q
        exact letgo_it ⟨_, sg, rfl, rfl⟩ (by decide) q
noncomputable def OpSub (G : Gx) (c : Cx) (st : AS) (value slice : Expr) (a b : PV) (Q : PV → Prop) : Prop := Op2 G c st (subscriptTail value slice) a b Q
theorem Ev.sub (O : Cx.Ok G c) {value slice : Expr} {pos : Pos} {Q : PV → Prop} (h : Ev G c st value fun a => Ev G c st slice fun b => OpSub G c st value slice a b Q) : Ev G c st (.Subscript value slice pos) Q := fun h₁ tk S Q' E' z =>
  Subscript_ (h h₁ tk S _ _ fun va a h2 tk2 s2 r2 q2 => q2 h2 tk2 (S.step O s2) _ _ fun vb b h3 tk3 s3 r3 q3 =>
    q3 h3 tk3 va vb ((S.step O s2).step O s3) (r2.mono (s3.vle O)) r3 _ _ fun v q h4 tk4 s4 r4 q4 => z v q h4 tk4 ((s2.trans s3).trans s4) r4 q4)
theorem sub_tup {value slice : Expr} {l : List PV} {k : Int} {q : PV} {Q : PV → Prop} (h0 : 0 ≤ k) (hl : l.length ≤ 16777216) (hx : l[k.toNat]? = some q) (hq : Q q)
    (hs : autoParam (∀ t u, subscripted slice false (.ref t) (.int k u) = operate [.ref t, .int k u] (getItem (.ref t) (.int k u))) aIIWu) : OpSub G c st value slice (.tup l) (.int k) Q := fun h tk va vb S ra rb Q' E' z => by
  refine ra.ofTup fun a vs n e rs => rb.ofInt fun u => ?_
  ·
      obtain ⟨v, e1, r1⟩ := rs.get hx
      have lt := (List.getElem?_eq_some_iff.mp hx).1
      have ll := rs.length
      refine item_tupleT ⟨_, VW.get e, rfl, _, rfl⟩ (by omega) (by omega) (seqIndex_of h0 (by omega)) e1 (z _ _ _ _ S.refl r1 hq) (hs _ _)
theorem sub_lst {value slice : Expr} {l : List PV} {k : Int} {q : PV} {Q : PV → Prop} (h0 : 0 ≤ k) (hl : l.length ≤ 16777216) (hx : l[k.toNat]? = some q) (hq : Q q)
    (hs : autoParam (∀ t u, subscripted slice false (.ref t) (.int k u) = operate [.ref t, .int k u] (getItem (.ref t) (.int k u))) aIIWu) : OpSub G c st value slice (.lst l) (.int k) Q := fun h tk va vb S ra rb Q' E' z => by
  refine ra.ofLst fun a vs n e rs => rb.ofInt fun u => ?_
  ·
      obtain ⟨v, e1, r1⟩ := rs.get hx
      have lt := (List.getElem?_eq_some_iff.mp hx).1
      exact tail_any ⟨_, VW.get e, rfl⟩ PySem.slot_list_getitem.lookup (wpAny_getItem_list ⟨_, VW.get e, rfl, _, rfl⟩ h0 (by omega) (by simpa using e1) (z _ _ _ _ S.refl r1 hq)) (hs _ _)
theorem sub_dct {value slice : Expr} {l : List (Str × PV)} {x : Str} {q : PV} {Q : PV → Prop} (hx : l.lookup x = some q) (hq : Q q)
    (hs : autoParam (∀ t u, subscripted slice false (.ref t) (.str x u) = operate [.ref t, .str x u] (getItem (.ref t) (.str x u))) aIIWu) : OpSub G c st value slice (.dct l) (.str x) Q := fun h tk va vb S ra rb Q' E' z => by
  refine ra.ofDct fun a es n ne e rs => rb.ofStr fun u => ?_
  ·
      obtain ⟨e', e1, r1⟩ := rs.find.1 q hx
      exact tail_any ⟨_, VW.get e, rfl⟩ PySem.slot_dict_getitem.lookup (wpAny_getItem_of (strKind_is G.prog G.w x u) (rs.map (c := c) (st := st) (VW.get e)) (by rw [e1]; rfl) (z _ _ _ _ S.refl r1 hq)) (hs _ _)
theorem sub_raw {value slice : Expr} {l : List Int} {q : Int} {Q : PV → Prop} (hx : l[0]? = some q) (hq : Q (.int q))
    (hs : autoParam (∀ t u, subscripted slice false (.ref t) (.int 0 u) = operate [.ref t, .int 0 u] (getItem (.ref t) (.int 0 u))) aIIWu) : OpSub G c st value slice (.raw l) (.int 0) Q := fun h tk va vb S ra rb Q' E' z => by
  refine ra.ofRaw fun a o vs n e e1 e2 e3 => rb.ofInt fun u => ?_
  ·
      obtain ⟨t, e4⟩ := e3.get 0 _ hx
      exact tail_any ⟨_, VW.get e, e1⟩ PySem.slot_list_getitem.lookup (wpAny_getItem_list ⟨_, VW.get e, e1, _, e2⟩ (by decide) (by decide) (by simpa using e4) (z _ _ _ _ S.refl (.int _ _) hq)) (hs _ _)
theorem sub_src0 (O : Cx.Ok G c) {value slice : Expr} {Q : PV → Prop} (hq : ∀ a : Int, 0 ≤ a → a.natAbs.log2 < 2 ^ 25 → Q (.int a))
    (hs : autoParam (∀ t u, subscripted slice false (.ref t) (.int 0 u) = operate [.ref t, .int 0 u] (getItem (.ref t) (.int 0 u))) aIIWu) : OpSub G c st value slice .src (.int 0) Q := fun h tk va vb S ra rb Q' E' z => by
  refine ra.ofSrc fun sa e => rb.ofInt fun u => ?_
  ·
      obtain ⟨a, b, ta, tb, hl, o1, o2, o3, o4⟩ := S.glb.src _ e
      exact tail_any hl.typeIs PySem.slot_list_getitem.lookup (wpAny_getItem_list hl (by decide) (by decide) (by rfl) (z _ _ _ _ S.refl (.int _ _) (hq a o1 o2))) (hs _ _)
theorem sub_src1 (O : Cx.Ok G c) {value slice : Expr} {Q : PV → Prop} (hq : ∀ b : Int, 0 ≤ b → b < 2 ^ 31 → Q (.int b))
    (hs : autoParam (∀ t u, subscripted slice false (.ref t) (.int 1 u) = operate [.ref t, .int 1 u] (getItem (.ref t) (.int 1 u))) aIIWu) : OpSub G c st value slice .src (.int 1) Q := fun h tk va vb S ra rb Q' E' z => by
  refine ra.ofSrc fun sa e => rb.ofInt fun u => ?_
  ·
      obtain ⟨a, b, ta, tb, hl, o1, o2, o3, o4⟩ := S.glb.src _ e
      exact tail_any hl.typeIs PySem.slot_list_getitem.lookup (wpAny_getItem_list hl (by decide) (by decide) (by rfl) (z _ _ _ _ S.refl (.int _ _) (hq b o3 o4))) (hs _ _)
noncomputable def PV.noBi : PV → Bool
  | .bi _ => false
  | _ => true
noncomputable def attrOk (K : Frag) (C : Addr) (x : Str) : Bool := plainGet K C x && hasDictIn K C && (findIn K (.ref C) x == some none)
theorem VR.handed {V : Addr → Option Obj} {v : Value} {q : PV} (r : VR G V v q) (h : q.noBi = true) : handedIn v = true :=
  VR.casesOn (motive_1 := fun v q _ => q.noBi = true → handedIn v = true) r (fun _ => rfl) (fun _ _ => rfl) (fun _ _ _ => rfl) (fun _ _ _ => rfl) (fun _ _ => rfl) (fun _ e => nomatch e) (fun _ _ => rfl) (fun _ _ => rfl) (fun _ _ => rfl) (fun _ _ _ _ _ => rfl) (fun _ _ _ => rfl) (fun _ _ _ => rfl)
    (fun _ _ _ _ => rfl) (fun _ _ _ _ _ _ _ => rfl) (fun _ _ _ _ _ _ _ _ => rfl) (fun _ _ _ _ _ _ _ _ => rfl) h
theorem Ev.attr (O : Cx.Ok G c) {value : Expr} {x : Str} {pos : Pos} {Q : PV → Prop} (h : Ev G c st value fun q => ∃ C l v, q = .ins C l ∧ l.lookup x = some v ∧ attrOk G.K C x = true ∧ v.noBi = true ∧ Q v)
    (he : autoParam (eval (.Attribute value x pos) c.env = (do
      let o ← eval value c.env
      standAt pos.atName
      let r ← holding [o] (getAttr o x true)
      letTemporaryGo value o r
      pure r)) aWu) : Ev G c st (.Attribute value x pos) Q := fun h₁ tk S Q' E' z =>
  Attribute_any_ (h h₁ tk S _ _ fun va a h2 tk2 s2 r2 q2 => by
    obtain ⟨C, l, v, rfl, hl, ha, hb, hq⟩ := q2
    refine r2.ofIns fun x dx o es n e1 ec ed en e2 rs => ?_
    ·
      obtain ⟨e', e3, r3⟩ := rs.find.1 v hl
      have S2 := S.step O s2
      unfold attrOk at ha
      simp only [Bool.and_eq_true, beq_iff_eq] at ha
      obtain ⟨w, hw⟩ : ∃ w, w = e'.val := ⟨_, rfl⟩
      rw [← hw] at r3
      refine get_own S2.F O.X ⟨VW.get e1, ec, en, by rw [ed]; exact VW.get e2⟩ ha.1.1 ha.1.2 ha.2 rfl (by unfold getL; rw [e3, hw]) ?_ (z _ _ _ _ s2 r3 hq)
      exact r3.handed hb) he
noncomputable def PV.tyIs : PV → Option String
  | .lst _ => some "list"
  | .dct _ => some "dict"
  | .str _ => some "str"
  | .tup _ => some "tuple"
  | _ => Option.none
theorem VR.typeIs {v : Value} {q : PV} {T : String} {tk : Nat} (r : VR G (VW c st h) v q) (e : q.tyIs = some T) : (G.sh h tk).TypeIs v T ∧ ∀ a, v = .ref a → ∃ o, h.get? a = some o ∧ o.dict = Option.none := by
  cases q with
  | str x => cases e; exact r.ofStr fun t => ⟨rfl, fun a q => nomatch q⟩
  | tup l => cases e; exact r.ofTup fun b vs n e' _ => ⟨⟨_, VW.get e', rfl⟩, fun a q => by cases q; exact ⟨_, VW.get e', rfl⟩⟩
  | lst l => cases e; exact r.ofLst fun b vs n e' _ => ⟨⟨_, VW.get e', rfl⟩, fun a q => by cases q; exact ⟨_, VW.get e', rfl⟩⟩
  | dct l => cases e; exact r.ofDct fun b vs n _ e' _ => ⟨⟨_, VW.get e', rfl⟩, fun a q => by cases q; exact ⟨_, VW.get e', rfl⟩⟩
  | _ => cases e
noncomputable def callB (id : String) (vs : List Value) : Sem Value := call (.builtin id) vs
theorem Ev.meth (O : Cx.Ok G c) {o e : Expr} {rest : List Expr} {x : Str} {apos pos : Pos} {T id : String} {Q : PV → Prop} (pa : PlainAttrs T) (slot : Slot T x id) (hty : typeOf (.builtin id) = pure (.type "method_descriptor"))
    (h : Ev G c st o fun a => a.tyIs = some T ∧ Evs G c st (e :: rest) fun qs => OpL G c st (callB id) (a :: qs) Q) {pl : Sem Bool}
    (he : autoParam (eval (.Call (.Attribute o x apos) (e :: rest) [] pos) c.env = (do
      let ov ← eval o c.env
      standAt apos.atName
      let (f, first) ← holding [ov] (getMethod ov x pl)
      callWith pos f first (backTo pos (starEach (e :: rest) c.env)) [])) aRfl)
    (h1 : autoParam (starEach (e :: rest) c.env = (false, eval e c.env) :: starEach rest c.env) aRfl) (h2 : autoParam ((backTo pos (starEach rest c.env)).any (·.1) = false) aRfl) : Ev G c st (.Call (.Attribute o x apos) (e :: rest) [] pos) Q := fun h₁ tk S Q' E' z =>
  MethodCall_ (h h₁ tk S _ _ fun va a hh2 tk2 s2 r2 q2 => by
    obtain ⟨t1, t2⟩ := r2.typeIs (tk := tk2) q2.1
    refine getMethod_builtin t1 pa slot hty t2 ?_
    refine callWith_method1 (q2.2 pos hh2 tk2 (S.step O s2) _ _ fun vs qs h3 tk3 s3 r3 q3 => ?_) h1 h2
    exact q3 h3 tk3 (va :: vs) ((S.step O s2).step O s3) (.cons (r2.mono (s3.vle O)) r3) _ _ fun v q h4 tk4 s4 r4 q4 => z v q h4 tk4 ((s2.trans s3).trans s4) r4 q4) he
theorem VRd.getD {V : Addr → Option Obj} {es : List DictEntry} {l : List (Str × PV)} (r : VRd G V es l) {x : Str} {v : Value} {d : PV} (r3 : VR G V v d) : VR G V (((es.find? fun e => e.key.isStr x).map (·.val)).getD v) ((l.lookup x).getD d) := by
  have f := r.find (x := x)
  cases hl : l.lookup x with
  | none => rw [f.2 hl]; exact r3
  | some p => obtain ⟨e', e1, r'⟩ := f.1 p hl; rw [e1]; exact r'
theorem meth_dget {l : List (Str × PV)} {x : Str} {d : PV} {Q : PV → Prop} (hq : Q ((l.lookup x).getD d)) : OpL G c st (callB "dict.get") [.dct l, .str x, d] Q := fun h tk vs S rs Q' E' z =>
  rs.of3 fun v w u r1 r2 r3 => r1.ofDct fun a es n ne e r => r2.ofStr fun t =>
    call_meetsIn F.slot_dict_get ⟨_, VW.get e, rfl⟩ F.entry_dict_get (F.args_dict_get_3 _ _ _) (meets_dict_get_default (strKind G.prog G.w) _ (strKind_is G.prog G.w x t) (beq_eq_false_iff_ne.mpr ne) _) ⟨_, r.map (c := c) (st := st) (VW.get e), z _ _ _ _ S.refl (r.getD r3) hq⟩
theorem call_len_lst (O : Cx.Ok G c) {l : List PV} {Q : PV → Prop} (hl : l.length ≤ 16777216) (q : Q (.int l.length)) : OpL G c st callL [.bi "len", .lst l] Q := .bi1 fun h tk v S r' Q' E' z => by
  refine r'.ofLst fun a vs n e rr => ?_
  ·
        have ll := rr.length
        refine call_len_list ⟨_, VW.get e, rfl, _, rfl⟩ (by rw [List.size_toArray]; omega) (z _ _ _ _ S.refl ?_ q)
        rw [List.size_toArray, ll]; exact .int _ _
theorem call_len_tup (O : Cx.Ok G c) {l : List PV} {Q : PV → Prop} (hl : l.length ≤ 16777216) (q : Q (.int l.length)) : OpL G c st callL [.bi "len", .tup l] Q := .bi1 fun h tk v S r' Q' E' z => by
  refine r'.ofTup fun a vs n e rr => ?_
  ·
        have ll := rr.length
        refine PyProof.Rows.len_tuple ⟨_, VW.get e, rfl, _, rfl⟩ (by rw [List.size_toArray]; omega) (z _ _ _ _ S.refl ?_ q)
        rw [List.size_toArray, ll]; exact .int _ _
theorem call_len_raw (O : Cx.Ok G c) {l : List Int} {Q : PV → Prop} (hl : l.length ≤ 16777216) (q : Q (.int l.length)) : OpL G c st callL [.bi "len", .raw l] Q := .bi1 fun h tk v S r' Q' E' z => by
  refine r'.ofRaw fun a o vs n e e1 e2 e3 => ?_
  ·
        have ll := e3.length
        refine call_len_list ⟨_, VW.get e, e1, _, e2⟩ (by rw [List.size_toArray]; omega) (z _ _ _ _ S.refl ?_ q)
        rw [List.size_toArray, ll]; exact .int _ _
theorem call_tuple_lst (O : Cx.Ok G c) {l : List PV} {Q : PV → Prop} (hl : l.length ≤ 16777216) (q : Q (.tup l)) : OpL G c st callL [.ty "tuple", .lst l] Q := .ty1 fun h tk v S r' Q' E' z => by
  refine r'.ofLst fun a vs n e rr => ?_
  ·
        refine call_tuple_list ⟨_, VW.get e, rfl, _, rfl⟩ (fun h1 k1 => ?_) (by rw [List.size_toArray, sizeLine_eq, rr.length]; exact hl)
        have s1 := S.keepAll O k1
        have S1 := S.step O s1
        exact z _ _ _ _ (s1.trans (S1.push O _)) (.tup (vs := vs) (n := 0) (S1.vnew rfl) (rr.mono ((s1.trans (S1.push O _)).vle O))) q
theorem call_tuple_tup' (O : Cx.Ok G c) {l : List PV} {Q : PV → Prop} (q : Q (.tup l)) : OpL G c st callL [.ty "tuple", .tup l] Q := .ty1 fun h tk v S r' Q' E' z => by
  refine r'.ofTup fun a vs n e rr => ?_
  · exact call_tuple_tup ⟨_, VW.get e, rfl, _, rfl⟩ (z _ _ _ _ S.refl (.tup e rr) q)
theorem call_list_tup (O : Cx.Ok G c) {l : List PV} {Q : PV → Prop} (hl : l.length ≤ 16777216) (q : Q (.lst l)) : OpL G c st callL [.ty "list", .tup l] Q := .ty1 fun h tk v S r' Q' E' z => by
  refine r'.ofTup fun a vs n e rr => ?_
  ·
        refine call_list_seq a (.inr rfl) (VW.get e) rfl rfl (fun h1 c1 k1 hD => ?_) (by rw [List.size_toArray, sizeLine_eq, rr.length]; exact hl)
        have s1 := S.keepAll O k1
        exact z _ _ _ _ s1 (.lst (vs := vs) (view_some.mpr ⟨fresh_hid S, hD⟩) (rr.mono (s1.vle O))) q
theorem call_int_b {b : Bool} {Q : PV → Prop} (q : Q (.int (if b then 1 else 0))) : OpL G c st callL [.ty "int", .bool b] Q := .ty1 fun h tk v S r Q' E' z => r.ofBool (call_int_bool (z _ _ _ _ S.refl (.int _ _) q))
theorem call_str_i {a : Int} {Q : PV → Prop} (ha : a.natAbs.log2 < 1920) (q : Q (.str (toString a))) : OpL G c st callL [.ty "str", .int a] Q := .ty1 fun h tk v S r Q' E' z => r.ofInt fun t => PySem.P.str_of_int ha (z _ _ _ _ S.refl (.str _ _) q)
theorem call_isi_str {x : Str} {Q : PV → Prop} (q : Q (.bool true)) : OpL G c st callL [.bi "isinstance", .str x, .ty "str"] Q := .bi2 fun h tk v w S r r' Q' E' z => r.ofStr fun t => r'.ofTy (call_isinstance (isinstance_true (by rfl) (by rw [isSubtype_type]; kernel_rfl)) ⟨rfl, z _ _ _ _ S.refl (.bool _) q⟩)
end
end
section
noncomputable abbrev AS.put (st : AS) (x : Str) (k : MK) (m' : Str → Option Value) : AS := ⟨m', (x, .mut k) :: st.ρ, st.hc⟩
section
variable {G : Gx} {c : Cx} {st : AS} {h h' : Heap}
theorem lookup_put {x y : Str} {k : MK} {q : LV} (e : List.lookup y ((x, LV.mut k) :: st.ρ) = some q) : (y = x ∧ q = .mut k) ∨ (y ≠ x ∧ st.ρ.lookup y = some q) := by
  rw [List.lookup_cons] at e
  split at e
  · rename_i n; cases e; exact .inl ⟨by simpa using n, rfl⟩
  · rename_i n; exact .inr ⟨by simpa using n, e⟩
theorem VR.ofVal {V : Addr → Option Obj} (k : MK) : ∃ a, VR G V k.val (.adr a) := by
  cases k with
  | lst a its => exact ⟨a, .adr a⟩
  | wld C x dx fl => exact ⟨x, .adr x⟩
theorem St.adopt (O : Cx.Ok G c) (hm : c.mf = none) {k : MK} (S : St G (withHid c k.own) st h) (W : WrOk G (withHid c k.own) k.own) (nh : ∀ b ∈ k.own, ¬ Hid c st b) (hnd : k.own.Nodup) (hk : MkAt G (VW (withHid c k.own) st h) h k)
    {x : Str} {m' : Str → Option Value} (hx : c.env.kindOf x = some .local) (em : ∀ y, m' y = if y = x then some k.val else st.m y) (hn : h'.Ns c.env.locals m') (hs : Heap.SameBut c.env.locals h h') :
    St G c (st.put x k m') h' := by
  obtain ⟨a, ra⟩ := VR.ofVal (G := G) (V := VW (withHid c k.own) st h) k
  obtain ⟨P, PK⟩ := St.put_local (c := withHid c k.own) (O.with k.own W.h0) S hm hx ra em hn hs
  have hid1 : ∀ b, Hid c (st.put x k m') b → Hid (withHid c k.own) (st.set x (.adr a) m') b := fun b q => by
    rcases q with q | q | ⟨y, kk, e, q⟩
    · exact .inl (.inl q)
    · exact .inr (.inl q)
    · rcases lookup_put e with ⟨_, e'⟩ | ⟨n, e'⟩
      · cases e'; exact .inl (.inr q)
      · refine .inr (.inr ⟨y, kk, ?_, q⟩)
        show List.lookup y ((x, _) :: st.ρ) = _
        rw [List.lookup_cons, show (y == x) = false from by simpa using n]; exact e'
  have hid2 : ∀ b, Hid (withHid c k.own) (st.set x (.adr a) m') b → Hid c (st.put x k m') b := fun b q => by
    rcases q with (q | q) | q | ⟨y, kk, e, q⟩
    · exact .inl q
    · exact .inr (.inr ⟨x, k, by show List.lookup x ((x, _) :: st.ρ) = _; simp, q⟩)
    · exact .inr (.inl q)
    · obtain ⟨n, e'⟩ := lookup_set_mut e
      refine .inr (.inr ⟨y, kk, ?_, q⟩)
      show List.lookup y ((x, _) :: st.ρ) = _
      rw [List.lookup_cons, show (y == x) = false from by simpa using n]; exact e'
  have V : VLe (VW (withHid c k.own) (st.set x (.adr a) m') h') (VW c (st.put x k m') h') := fun b o e => by
    rw [view_some] at e ⊢
    exact ⟨fun q => e.1 (hid1 b q), e.2⟩
  have V0 : VLe (VW (withHid c k.own) st h) (VW c (st.put x k m') h') := (PK.vle (O.with k.own W.h0)).trans V
  have ne : ∀ b ∈ k.own, b ≠ c.env.locals := fun b hb q => W.loc (q ▸ hb)
  refine { F := P.F, Nn := P.Nn, ρ := fun y q e => ?_, mu := fun y kk e => ?_, nd := fun y z kk kk' n e e' => ?_, occ' := fun b q => P.occ' b (hid1 b q), cocc := P.cocc, own := P.own, glb := P.glb }
  · rcases lookup_put e with ⟨_, e'⟩ | ⟨n, e'⟩
    · cases e'
    · have e2 : (st.set x (.adr a) m').ρ.lookup y = some (.v q) := by
        show List.lookup y ((x, _) :: st.ρ) = _
        rw [List.lookup_cons, show (y == x) = false from by simpa using n]; exact e'
      rcases P.ρ y q e2 with ⟨kk, v, e1, r⟩ | ⟨kk, ca, v, e1, e2, r⟩
      · exact .inl ⟨kk, v, e1, r.mono V⟩
      · exact .inr ⟨kk, ca, v, e1, e2, r.mono V⟩
  · rcases lookup_put e with ⟨rfl, e'⟩ | ⟨n, e'⟩
    · cases e'
      exact ⟨hx, by show m' _ = _; rw [em, if_pos rfl], fun b hb => ⟨fun q => nh b hb (.inl q), fun q => nh b hb (.inr (.inl q)), W.h0 b hb⟩, hk.mono V0 fun b hb o eb => (hs.2 b (ne b hb)).trans eb, hnd⟩
    · have e2 : (st.set x (.adr a) m').ρ.lookup y = some (.mut kk) := by
        show List.lookup y ((x, _) :: st.ρ) = _
        rw [List.lookup_cons, show (y == x) = false from by simpa using n]; exact e'
      obtain ⟨q1, q2, q3, q4, q5⟩ := P.mu y kk e2
      exact ⟨q1, q2, fun b hb => ⟨fun q => (q3 b hb).1 (.inl q), (q3 b hb).2⟩, q4.mono V fun b hb o eb => eb, q5⟩
  · have other : ∀ y kk, y ≠ x → st.ρ.lookup y = some (.mut kk) → ∀ b ∈ kk.own, b ∉ k.own := fun y kk n e b hb hb' => nh b hb' (.inr (.inr ⟨y, kk, e, hb⟩))
    intro b hb hb'
    rcases lookup_put e with ⟨rfl, e1⟩ | ⟨n1, e1⟩
    · cases e1
      rcases lookup_put e' with ⟨rfl, e2⟩ | ⟨n2, e2⟩
      · exact n rfl
      · exact other z kk' n2 e2 b hb' hb
    · rcases lookup_put e' with ⟨rfl, e2⟩ | ⟨n2, e2⟩
      · cases e2; exact other y kk n1 e1 b hb hb'
      · exact S.nd y z kk kk' n e1 e2 b hb hb'
theorem WRd.dat {V : Addr → Option Obj} {es : List DictEntry} {l : List (Str × WV)} (r : WRd G V h es l) : ∀ b ∈ l.flatMap (fun p => p.2.own), ∃ es n, h.get? b = some (dictOf es n) :=
  r.ind (P := fun es l => ∀ b ∈ l.flatMap (fun p : Str × WV => p.2.own), ∃ es n, h.get? b = some (dictOf es n)) (fun _ hb => nomatch hb) (fun _ _ _ _ ih => ih) fun _ _ _ _ e _ _ ih b hb => (List.mem_cons.mp hb).elim (fun q => ⟨_, _, q ▸ e⟩) (ih b)
theorem MkAt.dat {V : Addr → Option Obj} {k : MK} : MkAt G V h k → ∀ b ∈ k.own, ∃ o, h.get? b = some o ∧ ((∃ vs n, o.data = .seq vs n) ∨ ∃ es n, o.data = .dict es n) :=
  k.casesOn (fun a its ⟨vs, n, e, _⟩ b hb => ⟨_, List.mem_singleton.mp hb ▸ e, .inl ⟨_, _, rfl⟩⟩) fun C x dx fl ⟨_, es, n, _, r⟩ b hb => (r.dat b hb).elim fun es ⟨n, e⟩ => ⟨_, e, .inr ⟨_, _, rfl⟩⟩
theorem St.upd (O : Cx.Ok G c) (S : St G c st h) {x : Str} {k k' : MK} (e : st.ρ.lookup x = some (.mut k)) (ho : k'.own = k.own) (hv : k'.val = k.val) (kp : ∀ b o, b ∉ k.own → h.get? b = some o → h'.get? b = some o) (hoc : ∀ b ∈ k.own, ∃ o, h'.get? b = some o)
    (hk : ∀ V, VLe (VW c st h) V → MkAt G V h' k') : St G c (st.put x k' st.m) h' ∧ KLe G c st h (st.put x k' st.m) h' := by
  obtain ⟨kx, vx, fx, ax, nx⟩ := S.mu x k e
  have dat := ax.dat
  have hid1 : ∀ b, Hid c (st.put x k' st.m) b → Hid c st b := fun b q => by
    rcases q with q | q | ⟨y, kk, e1, q⟩
    · exact .inl q
    · exact .inr (.inl q)
    · rcases lookup_put e1 with ⟨_, e'⟩ | ⟨n, e'⟩
      · cases e'; exact .inr (.inr ⟨x, k, e, ho ▸ q⟩)
      · exact .inr (.inr ⟨y, kk, e', q⟩)
  have nO : ∀ b, b ∈ k.own → Hid c st b := fun b hb => .inr (.inr ⟨x, k, e, hb⟩)
  have V : VLe (VW c st h) (VW c (st.put x k' st.m) h') := fun b o eb => by
    rw [view_some] at eb ⊢
    exact ⟨fun q => eb.1 (hid1 b q), kp b o (fun q => eb.1 (nO b q)) eb.2⟩
  have nM : ∀ b ∈ c.M G, b ∉ k.own := fun b hb q => (fx b q).1 (O.hMh b hb)
  have nL : c.L ∉ k.own := fun q => (fx _ q).1 O.hLh
  have nloc : c.env.locals ∉ k.own := fun q => by
    cases hm : c.mf with
    | none => exact nL ((O.loc hm).1 ▸ q)
    | some m₀ => exact (fx _ q).1 (O.locC m₀ hm).2.2.1
  have nf : ∀ o vs b, h.get? b = some o → o.data = .fields vs → b ∉ k.own := fun o vs b eb d q => by
    obtain ⟨o', e1, d'⟩ := dat b q
    rw [eb] at e1; cases e1
    rcases d' with ⟨_, _, d'⟩ | ⟨_, _, d'⟩ <;> rw [d] at d' <;> cases d'
  have ncell : ∀ ca v, h.IsCell ca v → ca ∉ k.own := fun ca v ⟨o, eb, d⟩ q => by
    obtain ⟨o', e1, d'⟩ := dat ca q
    rw [eb] at e1; cases e1
    rcases d' with ⟨_, _, d'⟩ | ⟨_, _, d'⟩ <;> rw [d] at d' <;> cases d'
  have all : ∀ b o, h.get? b = some o → ∃ o', h'.get? b = some o' := fun b o eb => by
    by_cases q : b ∈ k.own
    · exact hoc b q
    · exact ⟨o, kp b o q eb⟩
  refine ⟨{ F := ⟨S.F.ns.at' fun o eb => kp _ o nL eb, fun b o eb => kp b o (fun q => by rw [(fx b q).2.2] at eb; cases eb) (S.F.keep b o eb), S.F.above⟩, Nn := S.Nn.at' fun o eb => kp _ o nloc eb, ρ := fun y q ey => ?_, mu := fun y kk ey => ?_, nd := fun y z kk kk' n e1 e2 => ?_, occ' := fun b q => (by
    obtain ⟨o, eb, nc⟩ := S.occ' b (hid1 b q)
    by_cases z : b ∈ k.own
    · obtain ⟨o', e', d'⟩ := (hk _ V).dat b (ho ▸ z); exact ⟨o', e', d'.elim (fun ⟨_, _, d⟩ => .seq d) fun ⟨_, _, d⟩ => .dic d⟩
    · exact ⟨o, kp b o z eb, nc⟩), cocc := fun y ca ey => (by obtain ⟨o, eb⟩ := S.cocc y ca ey; exact all ca o eb), own := fun b hb => ?_, glb := ?_ }, fun b o n eb => kp b o (fun q => n (.inr (.inr (.inr (.inr ⟨x, k, e, q⟩))))) eb, fun b q => .inl ?_⟩
  · rcases lookup_put ey with ⟨_, e'⟩ | ⟨n, e'⟩
    · cases e'
    · rcases S.ρ y q e' with ⟨kk, v, e1, r⟩ | ⟨kk, ca, v, e1, ⟨o, e2, e3⟩, r⟩
      · exact .inl ⟨kk, v, e1, r.mono V⟩
      · exact .inr ⟨kk, ca, v, e1, ⟨o, kp _ _ (ncell ca _ ⟨o, e2, e3⟩) e2, e3⟩, r.mono V⟩
  · rcases lookup_put ey with ⟨rfl, e'⟩ | ⟨n, e'⟩
    · cases e'
      exact ⟨kx, by rw [hv]; exact vx, fun b hb => fx b (ho ▸ hb), hk _ V, ho ▸ nx⟩
    · obtain ⟨q1, q2, q3, q4, q5⟩ := S.mu y kk e'
      exact ⟨q1, q2, q3, q4.mono V fun b hb o eb => kp b o (S.nd y x kk k n e' e b hb) eb, q5⟩
  · intro b hb hb'
    rcases lookup_put e1 with ⟨rfl, e3⟩ | ⟨n1, e3⟩
    · cases e3
      rcases lookup_put e2 with ⟨rfl, e4⟩ | ⟨n2, e4⟩
      · exact n rfl
      · exact S.nd y z k kk' n e e4 b (ho ▸ hb) hb'
    · rcases lookup_put e2 with ⟨rfl, e4⟩ | ⟨n2, e4⟩
      · cases e4; exact S.nd y z kk k n e3 e b hb (ho ▸ hb')
      · exact S.nd y z kk kk' n e3 e4 b hb hb'
  · obtain ⟨e1, e2, e3, v, o, e4, e5⟩ := S.own b hb
    exact ⟨e1, e2, e3, v, o, kp _ _ (fun q => (fx b q).2.1 hb) e4, e5⟩
  · have tab : ∀ kk : CloK, TabSt G.M h kk → TabSt G.M h' kk := fun kk t => by
      rcases t with t | ⟨c', oc, vs, tt, e1, e2, e3, e4, e5, e6⟩
      · exact .inl (kp _ _ (nf _ _ _ t rfl) t)
      · exact .inr ⟨c', oc, vs, tt, kp _ _ (nf _ _ _ e1 rfl) e1, kp _ _ (nf _ _ _ e2 e3) e2, e3, e4, e5, e6⟩
    refine ⟨fun b hb => ?_, fun p hp => (S.glb.frs p hp).at' fun o eb => kp _ o (nM _ (List.mem_append_left _ (List.mem_map_of_mem hp))) eb, fun S' eS => ?_, tab _ S.glb.tput, tab _ S.glb.tlam⟩
    · obtain ⟨o, eb, n⟩ := S.glb.has b hb; exact ⟨o, kp b o (nM b (mem_M hb)) eb, n⟩
    · obtain ⟨a, b, ta, tb, ⟨n, e1, ed⟩, r⟩ := S.glb.src S' eS
      exact ⟨a, b, ta, tb, ⟨n, kp _ _ (nM _ (mem_M (O.hS S' eS))) e1, ed⟩, r⟩
  · rcases q with q | q | q | q | ⟨y, kk, e1, q⟩
    · exact .inl q
    · exact .inr (.inl q)
    · exact .inr (.inr (.inl q))
    · exact .inr (.inr (.inr (.inl q)))
    · rcases lookup_put e1 with ⟨_, e'⟩ | ⟨n, e'⟩
      · cases e'; exact .inr (.inr (.inr (.inr ⟨x, k, e, ho ▸ q⟩)))
      · exact .inr (.inr (.inr (.inr ⟨y, kk, e', q⟩)))
noncomputable def WV.pv : WV → PV
  | .v q => q
  | .md _ l => .dct l
noncomputable def MK.pv : MK → PV
  | .lst _ its => .lst its
  | .wld C _ _ fl => .ins C (fl.map fun p => (p.1, p.2.pv))
theorem WRd.pv {V : Addr → Option Obj} {es : List DictEntry} {l : List (Str × WV)} (r : WRd G V h es l) : (∀ b ∈ l.flatMap (fun p => p.2.own), ∀ o, h.get? b = some o → V b = some o) → VRd G V es (l.map fun p => (p.1, p.2.pv)) :=
  r.ind (P := fun es l => (∀ b ∈ l.flatMap (fun p : Str × WV => p.2.own), ∀ o, h.get? b = some o → V b = some o) → VRd G V es (l.map fun p : Str × WV => (p.1, p.2.pv))) (fun _ => .nil) (fun e1 e2 r _ ih f => .cons e1 e2 r (ih f))
    fun e1 e2 e3 e4 e5 r _ ih f => .cons e1 e2 (by rw [e3]; exact .dct e4 (f _ (.head _) _ e5) r) (ih fun b hb => f b (.tail _ hb))
theorem MkAt.pv {V : Addr → Option Obj} {k : MK} : MkAt G V h k → (∀ b ∈ k.own, ∀ o, h.get? b = some o → V b = some o) → VR G V k.val k.pv :=
  k.casesOn (fun a its ⟨vs, n, e, r⟩ f => .lst (f a (.head _) _ e) r) fun C x dx fl ⟨e1, es, n, e2, r⟩ f => .ins e1 rfl rfl rfl e2 (r.pv f)
theorem St.freeze (S : St G c st h) {x : Str} {k : MK} (e : st.ρ.lookup x = some (.mut k)) : St G c (st.set x k.pv st.m) h ∧ KLe G c st h (st.set x k.pv st.m) h := by
  obtain ⟨kx, vx, fx, ax, nx⟩ := S.mu x k e
  have hid1 : ∀ b, Hid c (st.set x k.pv st.m) b → Hid c st b := fun b q => hid_set q
  have V : VLe (VW c st h) (VW c (st.set x k.pv st.m) h) := fun b o eb => by
    rw [view_some] at eb ⊢
    exact ⟨fun q => eb.1 (hid1 b q), eb.2⟩
  refine ⟨{ F := S.F, Nn := S.Nn, ρ := fun y q ey => ?_, mu := fun y kk ey => ?_, nd := fun y z kk kk' n e1 e2 => S.nd y z kk kk' n (lookup_set_mut e1).2 (lookup_set_mut e2).2, occ' := fun b q => S.occ' b (hid1 b q), cocc := S.cocc, own := S.own, glb := S.glb }, fun b o n eb => eb, fun b q => .inl (own_set q)⟩
  · rcases lookup_set_v ey with ⟨rfl, rfl⟩ | ⟨n, e'⟩
    · refine .inl ⟨kx, _, vx, (ax.mono V fun b _ o eb => eb).pv fun b hb o eb => view_some.mpr ⟨fun q => ?_, eb⟩⟩
      rcases q with q | q | ⟨y, kk, e1, q⟩
      · exact (fx b hb).1 q
      · exact (fx b hb).2.1 q
      · obtain ⟨n, e2⟩ := lookup_set_mut e1
        exact S.nd y _ kk k n e2 e b q hb
    · rcases S.ρ y q e' with ⟨kk, v, e1, r⟩ | ⟨kk, ca, v, e1, e2, r⟩
      · exact .inl ⟨kk, v, e1, r.mono V⟩
      · exact .inr ⟨kk, ca, v, e1, e2, r.mono V⟩
  · obtain ⟨q1, q2, q3, q4, q5⟩ := S.mu y kk (lookup_set_mut ey).2
    exact ⟨q1, q2, q3, q4.mono V fun b _ o eb => eb, q5⟩
theorem Exs.freeze {stmts : List Stmt} {N : AS → Prop} {R : PV → Prop} {X : List (Str × PV) → Prop} {x : Str} {k : MK} (e : st.ρ.lookup x = some (.mut k)) (hh : Exs G c (st.set x k.pv st.m) stmts N R X) : Exs G c st stmts N R X := fun h tk S Q' E' zn zr zx => by
  obtain ⟨S', K'⟩ := S.freeze e
  exact hh h tk S' Q' E' (fun st2 h2 tk2 S2 k2 n2 => zn st2 h2 tk2 S2 (K'.trans k2) n2) (fun v q st2 h2 tk2 S2 k2 r2 q2 => zr v q st2 h2 tk2 S2 (K'.trans k2) r2 q2) fun e l h2 tk2 wr st2 x2 q2 => zx e l h2 tk2 wr st2 (x2.pre K') q2
end
end
section
noncomputable def EvK (G : Gx) (c : Cx) (st : AS) (e : Expr) (P : MK → Prop) : Prop := ∀ h tk, St G c st h → ∀ (Q' : Value → Shared → Prop) (E' : Value → Shared → Prop),
  (∀ k h' tk', St G (withHid c k.own) st h' → WrOk G (withHid c k.own) k.own → (∀ b ∈ k.own, ¬ Hid c st b ∧ h.get? b = none) → k.own.Nodup → MkAt G (VW (withHid c k.own) st h') h' k → (∀ b o, ¬ Own G c st b → h.get? b = some o → h'.get? b = some o) → P k → Q' k.val (G.sh h' tk')) →
  wpAny (model G.prog G.w) c.A (eval e c.env) Q' E' (G.sh h tk)
section
variable {G : Gx} {c : Cx} {st : AS} {h h' : Heap}
theorem EvK.of (O : Cx.Ok G c) (S : St G c st h) {k : MK} (s : Step G c st h h') (hf : ∀ b ∈ k.own, h.get? b = none) (ho : ∀ b ∈ k.own, ∃ o, h'.get? b = some o ∧ NotCode o) : St G (withHid c k.own) st h' ∧ WrOk G (withHid c k.own) k.own ∧ (∀ b ∈ k.own, ¬ Hid c st b ∧ h.get? b = none) ∧ (∀ b o, ¬ Own G c st b → h.get? b = some o → h'.get? b = some o) :=
  ⟨S.hide' O s hf ho, WrOk.of O S hf, fun b hb => ⟨fun q => (by obtain ⟨o, e⟩ := S.occ b q; rw [hf b hb] at e; cases e), hf b hb⟩, s.kle.keep⟩
theorem EvK.lst (O : Cx.Ok G c) {as : List Expr} {pos : Pos} {P : MK → Prop} (h : Evs G c st as fun qs => qs.length ≤ 16777216 ∧ ∀ a, P (.lst a qs)) : EvK G c st (.List as pos) P := fun h₁ tk S Q' E' z => by
  refine List_ (h pos h₁ tk S _ _ fun vs qs h2 tk2 s2 r2 q2 => wpAny_newObj_type ?_ (by show vs.toArray.size ≤ sizeLine; rw [List.size_toArray]; exact r2.sz q2.1))
  have S2 := S.step O s2
  have s3 := s2.trans (S2.push O ({ cls := .type "list", dict := none, data := .seq vs.toArray } : Obj))
  obtain ⟨e1, e2, e3, e4⟩ := EvK.of O S (k := .lst h2.objs.size qs) s3 (fun b hb => by rw [List.mem_singleton.mp hb]; exact s2.fresh (Heap.get?_none_of_le (Nat.le_refl _))) (fun b hb => by rw [List.mem_singleton.mp hb]; exact ⟨_, Heap.get?_push_size _ rfl, .seq rfl⟩)
  refine z (.lst h2.objs.size qs) _ _ e1 e2 e3 (by simp [MK.own]) ⟨vs, 0, Heap.get?_push_size _ rfl, r2.mono fun b o e => ?_⟩ e4 (q2.2 _)
  rw [view_some] at e ⊢
  refine ⟨fun q => ?_, Heap.get?_push_of_some _ e.2⟩
  rcases hid_with.mp q with q | q
  · exact e.1 q
  · rw [List.mem_singleton.mp q] at e; exact absurd (Heap.lt_size e.2) (Nat.lt_irrefl _)
theorem own_put {x : Str} {k : MK} {m' : Str → Option Value} {b : Addr} (q : Own G c (st.put x k m') b) : Own G c st b ∨ b ∈ k.own := by
  rcases q with q | q | q | q | ⟨y, kk, e1, q⟩
  · exact .inl (.inl q)
  · exact .inl (.inr (.inl q))
  · exact .inl (.inr (.inr (.inl q)))
  · exact .inl (.inr (.inr (.inr (.inl q))))
  · rcases lookup_put e1 with ⟨_, e'⟩ | ⟨n, e'⟩
    · cases e'; exact .inr q
    · exact .inl (.inr (.inr (.inr (.inr ⟨y, kk, e', q⟩))))
theorem Ex.assignK (O : Cx.Ok G c) (hm : c.mf = none) {x : Str} {xp : Pos} {e : Expr} {pos : Pos} {N : AS → Prop} {R : PV → Prop} {X : List (Str × PV) → Prop} (hx : c.env.kindOf x = some .local) (h : EvK G c st e fun k => ∀ m', N (st.put x k m'))
    (hs : autoParam (swapsWith e (some (.Name x xp)) pos.line c.env = pure false) aRfl) : Ex G c st (.Assign [.Name x xp] e pos) N R X := fun h₁ tk S Q' E' zn zr zx =>
  wpAny_Assign_Name (h h₁ tk S _ _ fun k h2 tk2 S2 W2 f2 n2 a2 k2 p2 => by
    refine wpAny_storeName_local hx S2.Nn (fun h3 hn hs3 => ?_) (by rw [O.ke]; rfl)
    have P := St.adopt (m' := fun y => if y = x then some k.val else st.m y) O hm S2 W2 (fun b hb => (f2 b hb).1) n2 a2 hx (fun y => rfl) hn hs3
    refine zn _ h3 _ P ⟨fun b o n eb => (hs3.2 b fun q => n (.inr (.inr (.inl q)))).trans (k2 b o n eb), fun b q => (own_put q).imp id fun q => (f2 b q).2⟩ (p2 _)) hs
theorem Ex.append (O : Cx.Ok G c) {x : Str} {xp ap cp pos : Pos} {e : Expr} {a : Addr} {its : List PV} {N : AS → Prop} {R : PV → Prop} {X : List (Str × PV) → Prop} (hl : st.ρ.lookup x = some (.mut (.lst a its))) (hlen : its.length ≤ 16777215)
    (h : Ev G c st e fun q => N (st.put x (.lst a (its ++ [q])) st.m)) (hd : autoParam ((x == ("__debug__" : Str)) = false) aDec) {pl : Sem Bool}
    (he : autoParam (eval (.Call (.Attribute (.Name x xp) (Str.ofString "append") ap) [e] [] cp) c.env = (do
      let ov ← eval (.Name x xp) c.env
      standAt ap.atName
      let (f, first) ← holding [ov] (getMethod ov (Str.ofString "append") pl)
      callWith cp f first (backTo cp (starEach [e] c.env)) [])) aRfl) (h1 : autoParam (starEach [e] c.env = (false, eval e c.env) :: starEach [] c.env) aRfl)
    (hi : autoParam (interactive c.env = false) aRfl) (hs : autoParam (swapsWith (.Call (.Attribute (.Name x xp) (Str.ofString "append") ap) [e] [] cp) none pos.line c.env = pure false) aRfl) :
    Ex G c st (.Expr (.Call (.Attribute (.Name x xp) (Str.ofString "append") ap) [e] [] cp) pos) N R X := fun h₁ tk S Q' E' zn zr zx => by
  obtain ⟨kx, vx, fx, ⟨vs, n, ea, ra⟩, nx⟩ := S.mu x _ hl
  refine wpAny_Expr (MethodCall_ (wpAny_Name (wpAny_loadName_local O.ke kx S.Nn vx ?_) hd) he) hi hs
  refine getMethod_builtin ⟨_, ea, rfl⟩ PySem.F.plainAttrs_list PySem.F.slot_list_append PySem.F.type_list_append (fun b q => by cases q; exact ⟨_, ea, rfl⟩) ?_
  have hv : Evs G c st [e] fun qs => ∃ q, qs = [q] ∧ N (st.put x (.lst a (its ++ [q])) st.m) := Evs.cons O (h.mono fun q hq => Evs.nil ⟨q, rfl, hq⟩) h1
  refine callWith_method1 (hv cp h₁ tk S _ _ fun ws qs h2 tk2 s2 r2 q2 => ?_) h1
  obtain ⟨q, rfl, hq⟩ := q2
  refine r2.of1 fun v rq => ?_
  · have S2 := S.step O s2
    obtain ⟨_, _, _, ⟨vs2, n2, ea2, ra2⟩, _⟩ := S2.mu x _ hl
    have ll := ra2.length
    refine append_at (hsz := by rw [List.size_toArray, ll, sizeLine_eq]; omega) ea2 fun h3 hs3 ha3 => ?_
    obtain ⟨P, K⟩ := S2.upd (h' := h3) (k' := .lst a (its ++ [q])) O hl rfl rfl (fun b o nb eb => hs3.extBut b o (fun q => nb (by rw [q]; exact .head _)) eb) (fun b hb => by rw [List.mem_singleton.mp hb]; exact ⟨_, ha3⟩) (fun V hV => ⟨vs2 ++ [_], n2 + 1, by rw [ha3, List.push_toArray], (ra2.mono hV).append (.cons (rq.mono hV) .nil)⟩)
    exact zn _ h3 _ P (s2.kle.trans K) hq
theorem Ex.extend (O : Cx.Ok G c) {x : Str} {xp ap cp pos : Pos} {e : Expr} {a : Addr} {its : List PV} {N : AS → Prop} {R : PV → Prop} {X : List (Str × PV) → Prop} (hl : st.ρ.lookup x = some (.mut (.lst a its)))
    (h : Ev G c st e fun q => ∃ l, q = .lst l ∧ its.length + l.length ≤ 16777216 ∧ N (st.put x (.lst a (its ++ l)) st.m)) (hd : autoParam ((x == ("__debug__" : Str)) = false) aDec) {pl : Sem Bool}
    (he : autoParam (eval (.Call (.Attribute (.Name x xp) (Str.ofString "extend") ap) [e] [] cp) c.env = (do
      let ov ← eval (.Name x xp) c.env
      standAt ap.atName
      let (f, first) ← holding [ov] (getMethod ov (Str.ofString "extend") pl)
      callWith cp f first (backTo cp (starEach [e] c.env)) [])) aRfl) (h1 : autoParam (starEach [e] c.env = (false, eval e c.env) :: starEach [] c.env) aRfl)
    (hi : autoParam (interactive c.env = false) aRfl) (hs : autoParam (swapsWith (.Call (.Attribute (.Name x xp) (Str.ofString "extend") ap) [e] [] cp) none pos.line c.env = pure false) aRfl) :
    Ex G c st (.Expr (.Call (.Attribute (.Name x xp) (Str.ofString "extend") ap) [e] [] cp) pos) N R X := fun h₁ tk S Q' E' zn zr zx => by
  obtain ⟨kx, vx, fx, ⟨vs, n, ea, ra⟩, nx⟩ := S.mu x _ hl
  refine wpAny_Expr (MethodCall_ (wpAny_Name (wpAny_loadName_local O.ke kx S.Nn vx ?_) hd) he) hi hs
  refine getMethod_builtin ⟨_, ea, rfl⟩ PySem.F.plainAttrs_list PySem.F.slot_list_extend PySem.F.type_list_extend (fun b q => by cases q; exact ⟨_, ea, rfl⟩) ?_
  have hv : Evs G c st [e] fun qs => ∃ l, qs = [.lst l] ∧ its.length + l.length ≤ 16777216 ∧ N (st.put x (.lst a (its ++ l)) st.m) := Evs.cons O (h.mono fun q ⟨l, e1, e2, e3⟩ => Evs.nil ⟨l, by rw [e1], e2, e3⟩) h1
  refine callWith_method1 (hv cp h₁ tk S _ _ fun ws qs h2 tk2 s2 r2 q2 => ?_) h1
  obtain ⟨l, rfl, hn, hq⟩ := q2
  refine r2.of1 fun v rq => rq.ofLst fun b ws nb eb rb => ?_
  · · have S2 := S.step O s2
      obtain ⟨_, _, _, ⟨vs2, n2, ea2, ra2⟩, _⟩ := S2.mu x _ hl
      have ll := ra2.length
      have lb := rb.length
      have hsz' : vs2.toArray.size + ws.toArray.size ≤ sizeLine := by rw [List.size_toArray, List.size_toArray, ll, lb, sizeLine_eq]; exact hn
      refine call_meets PySem.F.slot_list_extend ⟨_, ea2, rfl⟩ PySem.F.entry_list_extend (PySem.F.args_list_extend_2 _ _) (AutoSeq1.list_extend_list_list_0 a vs2.toArray n2 b ws.toArray nb (extend_door hsz') (Nat.le_trans (Nat.le_add_right _ _) hsz')) ⟨ea2, VW.get eb, ?_⟩
      have ha3 : (h2.update a (Obj.mapSeq fun x => x ++ ws.toArray)).get? a = some { cls := .type "list", data := .seq (vs2 ++ ws).toArray (if (vs2.toArray ++ ws.toArray).size == vs2.toArray.size then n2 else n2 + 1) } := by
        rw [Heap.get?_update_self _ ea2 (by rw [mapSeq_app]; rfl), mapSeq_app, List.append_toArray]
      have hs3 : Heap.SameBut a h2 (h2.update a (Obj.mapSeq fun x => x ++ ws.toArray)) := Heap.SameBut.update ..
      obtain ⟨P, K⟩ := S2.upd (k' := .lst a (its ++ l)) O hl rfl rfl (fun b o nb eb => hs3.extBut b o (fun q => nb (by rw [q]; exact .head _)) eb) (fun b hb => by rw [List.mem_singleton.mp hb]; exact ⟨_, ha3⟩) (fun V hV => ⟨vs2 ++ ws, _, ha3, (ra2.mono hV).append (rb.mono hV)⟩)
      exact zn _ _ _ P (s2.kle.trans K) hq
end
end
section
inductive Rhs where
  | nm (p : Str)
  | dic
  | lis
inductive InitB (env : Env) (self : Str) : List Stmt → List (Str × Rhs) → Prop
  | nil : InitB env self [] []
  | nm {f p : Str} {sp fp pp pos : Pos} {r : List Stmt} {l : List (Str × Rhs)} : (p == ("__debug__" : Str)) = false → env.kindOf p = some .local → InitB env self r l →
      InitB env self (.Assign [.Attribute (.Name self sp) f fp] (.Name p pp) pos :: r) ((f, .nm p) :: l)
  | dic {f : Str} {sp fp pp pos : Pos} {r : List Stmt} {l : List (Str × Rhs)} : InitB env self r l → InitB env self (.Assign [.Attribute (.Name self sp) f fp] (.Dict [] [] pp) pos :: r) ((f, .dic) :: l)
  | lis {f : Str} {sp fp pp pos : Pos} {r : List Stmt} {l : List (Str × Rhs)} : InitB env self r l → InitB env self (.Assign [.Attribute (.Name self sp) f fp] (.List [] pp) pos :: r) ((f, .lis) :: l)
inductive EsOf (w : World) : List DictEntry → List (Str × Value) → Prop
  | nil : EsOf w [] []
  | cons {x : Str} {t : Tok} {v : Value} {es : List DictEntry} {l : List (Str × Value)} : EsOf w es l → EsOf w (⟨PyData.keyHash w.params x, .str x t, v⟩ :: es) ((x, v) :: l)
theorem EsOf.ind {w : World} {P : List DictEntry → List (Str × Value) → Prop} (h0 : P [] []) (h1 : ∀ {x t v es l}, EsOf w es l → P es l → P (⟨PyData.keyHash w.params x, .str x t, v⟩ :: es) ((x, v) :: l)) {es : List DictEntry} {l : List (Str × Value)} (h : EsOf w es l) : P es l := EsOf.rec (motive := fun es l _ => P es l) h0 (fun h ih => h1 h ih) h
theorem EsOf.length {w : World} {es : List DictEntry} {l : List (Str × Value)} (h : EsOf w es l) : es.length = l.length := h.ind (P := fun es l => es.length = l.length) rfl fun _ e => congrArg (· + 1) e
theorem isStr_ne {x y : Str} {t : Tok} (n : x ≠ y) : (Value.str y t).isStr x = false := beq_eq_false_iff_ne.mpr (Ne.symm n)
theorem EsOf.get {w : World} {x : Str} {es : List DictEntry} {l : List (Str × Value)} (h : EsOf w es l) : x ∉ l.map (·.1) → es.find? (·.key.isStr x) = none ∧ es.any (·.refKey) = false :=
  h.ind (P := fun es l => x ∉ l.map (·.1) → es.find? (·.key.isStr x) = none ∧ es.any (·.refKey) = false) (fun _ => ⟨rfl, rfl⟩) fun {y t v es l} _ ih n => by
    obtain ⟨n1, n2⟩ := not_or.mp fun q => n (List.mem_cons.mpr q)
    obtain ⟨h1, h2⟩ := ih n2
    exact ⟨by rw [List.find?_cons]; dsimp only; rw [isStr_ne n1]; exact h1, by rw [List.any_cons, h2]; rfl⟩
theorem EsOf.put {w : World} {x : Str} {t : Tok} {v : Value} {es : List DictEntry} {l : List (Str × Value)} (h : EsOf w es l) : x ∉ l.map (·.1) → EsOf w (putL x (PyData.keyHash w.params x) (.str x t) v es) (l ++ [(x, v)]) :=
  h.ind (P := fun es l => x ∉ l.map (·.1) → EsOf w (putL x (PyData.keyHash w.params x) (.str x t) v es) (l ++ [(x, v)])) (fun _ => .cons .nil) fun {y t' v' es l} _ ih n => by
    obtain ⟨n1, n2⟩ := not_or.mp fun q => n (List.mem_cons.mpr q)
    unfold putL
    dsimp only
    rw [isStr_ne n1]
    exact .cons (ih n2)
noncomputable def FldOf (m : Str → Option Value) (news : List (Addr × Obj)) : Rhs → Value → Prop
  | .nm p, v => m p = some v
  | .dic, v => ∃ d, v = .ref d ∧ (d, emptyDict) ∈ news
  | .lis, v => ∃ d, v = .ref d ∧ (d, listOf #[] 0) ∈ news
inductive Flds (m : Str → Option Value) (news : List (Addr × Obj)) : List (Str × Rhs) → List (Str × Value) → Prop
  | nil : Flds m news [] []
  | cons {f : Str} {r : Rhs} {v : Value} {l : List (Str × Rhs)} {k : List (Str × Value)} : FldOf m news r v → Flds m news l k → Flds m news ((f, r) :: l) ((f, v) :: k)
theorem Flds.ind {m : Str → Option Value} {news : List (Addr × Obj)} {P : List (Str × Rhs) → List (Str × Value) → Prop} (h0 : P [] []) (h1 : ∀ {f r v l k}, FldOf m news r v → Flds m news l k → P l k → P ((f, r) :: l) ((f, v) :: k)) {l : List (Str × Rhs)} {k : List (Str × Value)} (h : Flds m news l k) : P l k := Flds.rec (motive := fun l k _ => P l k) h0 (fun a h ih => h1 a h ih) h
theorem Flds.names {m : Str → Option Value} {news : List (Addr × Obj)} {l : List (Str × Rhs)} {k : List (Str × Value)} (h : Flds m news l k) : k.map (·.1) = l.map (·.1) := h.ind (P := fun l k => k.map (·.1) = l.map (·.1)) rfl fun {f _ _ _ _} _ _ e => congrArg (f :: ·) e
theorem FldOf.mono {m : Str → Option Value} {news news' : List (Addr × Obj)} (k : ∀ p ∈ news, p ∈ news') {r : Rhs} {v : Value} : FldOf m news r v → FldOf m news' r v := r.casesOn (fun _ h => h) (fun ⟨d, e, h⟩ => ⟨d, e, k _ h⟩) fun ⟨d, e, h⟩ => ⟨d, e, k _ h⟩
theorem Flds.mono {m : Str → Option Value} {news news' : List (Addr × Obj)} (k : ∀ p ∈ news, p ∈ news') {l : List (Str × Rhs)} {kk : List (Str × Value)} (h : Flds m news l kk) : Flds m news' l kk := h.ind .nil fun h _ hs => .cons (h.mono k) hs
theorem Flds.snoc {m : Str → Option Value} {news : List (Addr × Obj)} {f : Str} {r : Rhs} {v : Value} (h : FldOf m news r v) {l : List (Str × Rhs)} {k : List (Str × Value)} (hs : Flds m news l k) : Flds m news (l ++ [(f, r)]) (k ++ [(f, v)]) := hs.ind (P := fun l k => Flds m news (l ++ [(f, r)]) (k ++ [(f, v)])) (.cons h .nil) fun h1 _ hs => .cons h1 hs
noncomputable def dad1 : Rhs → Value → List Addr
  | .dic, .ref d => [d]
  | _, _ => []
noncomputable def dads : List (Str × Rhs) → List (Str × Value) → List Addr
  | p :: l, q :: k => dad1 p.2 q.2 ++ dads l k
  | _, _ => []
theorem dads_snoc {f : Str} {r : Rhs} {v : Value} {l : List (Str × Rhs)} : ∀ {k : List (Str × Value)}, l.length = k.length → dads (l ++ [(f, r)]) (k ++ [(f, v)]) = dads l k ++ dad1 r v := by
  induction l with
  | nil => intro k h; cases k with
    | nil => exact List.append_nil _
    | cons _ _ => cases h
  | cons p l ih => intro k h; cases k with
    | nil => cases h
    | cons q k => exact (congrArg (dad1 p.2 q.2 ++ ·) (ih (Nat.succ.inj h))).trans (List.append_assoc ..).symm
theorem dads_snoc_other {f : Str} {r : Rhs} {v : Value} (hr : r ≠ .dic) {l : List (Str × Rhs)} {k : List (Str × Value)} (h : l.length = k.length) : dads (l ++ [(f, r)]) (k ++ [(f, v)]) = dads l k := by
  rw [dads_snoc h]
  cases r with
  | dic => exact (hr rfl).elim
  | _ => exact List.append_nil _
theorem dads_snoc_dic {f : Str} {d : Addr} {l : List (Str × Rhs)} {k : List (Str × Value)} (h : l.length = k.length) : dads (l ++ [(f, .dic)]) (k ++ [(f, .ref d)]) = dads l k ++ [d] := dads_snoc h
theorem Flds.length {m : Str → Option Value} {news : List (Addr × Obj)} {l : List (Str × Rhs)} {k : List (Str × Value)} (h : Flds m news l k) : l.length = k.length := h.ind (P := fun l k => l.length = k.length) rfl fun _ _ e => congrArg (· + 1) e
noncomputable def setOk (K : Frag) (C : Addr) (x : Str) : Bool := (takerIn K C x == some none)
noncomputable def clsOk (K : Frag) (C : Addr) : Bool := findIn K (.ref C) "__setattr__" == some (some (.builtin "object.__setattr__")) && plainOver K C && hasDictIn K C
theorem init_run {prog : Program} {w : World} {A : Around} {E : Value → Shared → Prop} {K : Frag} {C x dx L : Addr} {g : Heap} {m : Str → Option Value} {env : Env} {self : Str}
    (hk : env.scope.kind = .function) (hself : env.kindOf self = some .local) (hsd : (self == ("__debug__" : Str)) = false) (hloc : env.locals = L) (hms : m self = some (.ref x)) (X : K.In g) (hc : clsOk K C = true) (hx : g.get? x = some (instObj C dx))
    (hdx : dx ≠ L) (hg : g.get? dx = none) : ∀ (stmts : List Stmt) (l done : List (Str × Rhs)) (es : List DictEntry) (n : Nat) (fl : List (Str × Value)) (news : List (Addr × Obj)) (s : Shared),
    InitB env self stmts l → (l.all fun p => setOk K C p.1) = true → (∀ f p, (f, Rhs.nm p) ∈ l → ∃ v, m p = some v) → ((done ++ l).map (·.1)).Nodup → (done ++ l).length ≤ 900 → EsOf w es fl → Flds m news done fl → Fr g L s.heap m → News g L s.heap ((dx, dictOf es n) :: news) → (∀ p ∈ news, p.1 ≠ dx) → (∀ p ∈ news, L < p.1) → (news.map (·.1)).Nodup → ((dads done fl).Nodup ∧ ∀ d ∈ dads done fl, d ∈ news.map (·.1)) →
    ∀ (Q : Flow → Shared → Prop), (∀ h' tk es' n' fl' news', EsOf w es' fl' → Flds m news' (done ++ l) fl' → Fr g L h' m → News g L h' ((dx, dictOf es' n') :: news') → (∀ p ∈ news', p.1 ≠ dx) → (∀ p ∈ news', L < p.1) → (news'.map (·.1)).Nodup → (dads (done ++ l) fl').Nodup → Q .next { s with heap := h', toks := tk }) →
    wpAny (model prog w) A (execs stmts env) Q E s := by
  unfold clsOk at hc
  simp only [Bool.and_eq_true, beq_iff_eq] at hc
  obtain ⟨⟨hc1, hc2⟩, hc3⟩ := hc
  have one : ∀ (f : Str) (r : Rhs) (v : Value) (l done : List (Str × Rhs)) (es : List DictEntry) (n : Nat) (fl : List (Str × Value)) (news : List (Addr × Obj)) (s : Shared), setOk K C f = true → ((done ++ (f, r) :: l).map (·.1)).Nodup → (done ++ (f, r) :: l).length ≤ 900 →
      EsOf w es fl → Flds m news done fl → FldOf m news r v → Fr g L s.heap m → News g L s.heap ((dx, dictOf es n) :: news) → (∀ p ∈ news, p.1 ≠ dx) → ∀ (Q : Unit → Shared → Prop),
      (∀ h' es' n', EsOf w es' (fl ++ [(f, v)]) → Flds m news (done ++ [(f, r)]) (fl ++ [(f, v)]) → Fr g L h' m → News g L h' ((dx, dictOf es' n') :: news) → Q () { s with heap := h', toks := s.toks + 2 }) → wpAny (model prog w) A (setAttr (.ref x) f v) Q E s := by
    intro f r v l done es n fl news s hs hn hl he hf hv F N ha Q k
    have nf : f ∉ fl.map (·.1) := by
      rw [hf.names]
      rw [List.map_append, List.map_cons] at hn
      exact fun q => (List.nodup_append.mp hn).2.2 _ q _ (.head _) rfl
    obtain ⟨g1, g2⟩ := he.get nf
    have len : es.length ≤ 899 := by
      have h1 := he.length
      have h2 : fl.length = done.length := by have := congrArg List.length hf.names; simpa using this
      rw [List.length_append, List.length_cons] at hl
      omega
    have E' := he.put (t := s.toks + 1) (v := v) nf
    refine set_dict F X N ⟨F.keep x _ hx, rfl, rfl, (N _ (.head _)).1⟩ rfl hc1 hc2 (by unfold setOk at hs; exact beq_iff_eq.mp hs) hc3 (by unfold getL; rw [g1, g2]; rfl) rfl (.head ha) ?_ fun h' F' N' => k h' _ _ E' (hf.snoc hv) F' N'
    rw [E'.length, List.length_append, ← he.length, List.length_singleton]; omega
  intro stmts l done es n fl news s hB
  induction hB generalizing done es n fl news s with
  | nil =>
    intro _ _ _ _ he hf F N ha hb hnd hD Q k
    exact wpAny_execs_nil (k s.heap s.toks es n fl news he (by rw [List.append_nil]; exact hf) F N ha hb hnd (by rw [List.append_nil]; exact hD.1))
  | @nm f p sp fp pp pos r l hpd hpk _ ih =>
    intro hs hm hn hl he hf F N ha hb hnd hD Q k
    obtain ⟨v, hv⟩ := hm f p (.head _)
    rw [List.all_cons, Bool.and_eq_true] at hs
    have Fl : s.heap.Ns env.locals m := hloc ▸ F.ns
    refine wpAny_execs_cons (plainObj_wpAny_Assign_Attribute (wpAny_Name (wpAny_loadName_local hk hpk Fl hv (wpAny_Name (wpAny_loadName_local hk hself Fl hms ?_) hsd)) hpd))
    refine one f (.nm p) v l done es n fl news s hs.1 hn hl he hf hv F N ha _ fun h' es' n' he' hf' F' N' => ?_
    have e3 : done ++ (f, Rhs.nm p) :: l = (done ++ [(f, Rhs.nm p)]) ++ l := by simp
    exact ih (done ++ [(f, .nm p)]) es' n' _ news _ hs.2 (fun f' p' h' => hm f' p' (.tail _ h')) (e3 ▸ hn) (e3 ▸ hl) he' hf' F' N' ha hb hnd (by rw [dads_snoc_other (by simp) hf.length]; exact hD) Q fun h2 tk2 es2 n2 fl2 news2 a1 a2 a3 a4 a5 a6 a7 a8 => k h2 tk2 es2 n2 fl2 news2 a1 (e3 ▸ a2) a3 a4 a5 a6 a7 (e3 ▸ a8)
  | @dic f sp fp pp pos r l _ ih =>
    intro hs hm hn hl he hf F N ha hb hnd hD Q k
    rw [List.all_cons, Bool.and_eq_true] at hs
    refine wpAny_execs_cons (plainObj_wpAny_Assign_Attribute (wpAny_Dict_empty ?_))
    have F1 := F.push emptyDict
    have N1 := N.push F emptyDict
    have hd : s.heap.objs.size ≠ dx := Nat.ne_of_gt (Heap.lt_size (N _ (.head _)).1)
    have N2 : News g L (s.heap.push emptyDict) ((dx, dictOf es n) :: (s.heap.objs.size, emptyDict) :: news) := fun p hp => by
      rcases List.mem_cons.mp hp with rfl | hp
      · exact N1 _ (.tail _ (.head _))
      · rcases List.mem_cons.mp hp with rfl | hp
        · exact N1 _ (.head _)
        · exact N1 _ (.tail _ (.tail _ hp))
    have ha2 : ∀ p ∈ (s.heap.objs.size, emptyDict) :: news, p.1 ≠ dx := fun p hp => (List.mem_cons.mp hp).elim (fun e => e ▸ hd) (ha p)
    have hb2 : ∀ p ∈ (s.heap.objs.size, emptyDict) :: news, L < p.1 := fun p hp => (List.mem_cons.mp hp).elim (fun e => e ▸ F.ns.lt) (hb p)
    have Fl : (s.heap.push emptyDict).Ns env.locals m := hloc ▸ F1.ns
    refine wpAny_Name (wpAny_loadName_local hk hself Fl hms ?_) hsd
    refine one f .dic _ l done es n fl _ _ hs.1 hn hl he (hf.mono fun p hp => .tail _ hp) ⟨_, rfl, .head _⟩ F1 N2 ha2 _ fun h' es' n' he' hf' F' N' => ?_
    have e3 : done ++ (f, Rhs.dic) :: l = (done ++ [(f, Rhs.dic)]) ++ l := by simp
    have hnd2 : (((s.heap.objs.size, emptyDict) :: news).map (·.1)).Nodup := by
      rw [List.map_cons, List.nodup_cons]
      refine ⟨fun q => ?_, hnd⟩
      obtain ⟨p, hp, e⟩ := List.mem_map.mp q
      exact absurd (Heap.lt_size (N p (.tail _ hp)).1) (by rw [e]; exact Nat.lt_irrefl _)
    exact ih (done ++ [(f, .dic)]) es' n' _ _ _ hs.2 (fun f' p' h' => hm f' p' (.tail _ h')) (e3 ▸ hn) (e3 ▸ hl) he' hf' F' N' ha2 hb2 hnd2 (by
      rw [dads_snoc_dic hf.length]
      refine ⟨List.nodup_append.mpr ⟨hD.1, by simp, fun a ha' b hb' e => ?_⟩, fun d hd' => ?_⟩
      · rw [List.mem_singleton.mp hb'] at e
        rw [List.map_cons, List.nodup_cons] at hnd2
        exact hnd2.1 (e ▸ hD.2 a ha')
      · rcases List.mem_append.mp hd' with q | q
        · exact .tail _ (hD.2 d q)
        · rw [List.mem_singleton.mp q]; exact .head _) Q fun h2 tk2 es2 n2 fl2 news2 a1 a2 a3 a4 a5 a6 a7 a8 => k h2 tk2 es2 n2 fl2 news2 a1 (e3 ▸ a2) a3 a4 a5 a6 a7 (e3 ▸ a8)
  | @lis f sp fp pp pos r l _ ih =>
    intro hs hm hn hl he hf F N ha hb hnd hD Q k
    rw [List.all_cons, Bool.and_eq_true] at hs
    refine wpAny_execs_cons (plainObj_wpAny_Assign_Attribute (List_ (spliced_nil (wpAny_newObj_type ?_ (Nat.zero_le _)))))
    have F1 := F.push (listOf #[] 0)
    have N1 := N.push F (listOf #[] 0)
    have hd : s.heap.objs.size ≠ dx := Nat.ne_of_gt (Heap.lt_size (N _ (.head _)).1)
    have N2 : News g L (s.heap.push (listOf #[] 0)) ((dx, dictOf es n) :: (s.heap.objs.size, listOf #[] 0) :: news) := fun p hp => by
      rcases List.mem_cons.mp hp with rfl | hp
      · exact N1 _ (.tail _ (.head _))
      · rcases List.mem_cons.mp hp with rfl | hp
        · exact N1 _ (.head _)
        · exact N1 _ (.tail _ (.tail _ hp))
    have ha2 : ∀ p ∈ (s.heap.objs.size, listOf #[] 0) :: news, p.1 ≠ dx := fun p hp => (List.mem_cons.mp hp).elim (fun e => e ▸ hd) (ha p)
    have hb2 : ∀ p ∈ (s.heap.objs.size, listOf #[] 0) :: news, L < p.1 := fun p hp => (List.mem_cons.mp hp).elim (fun e => e ▸ F.ns.lt) (hb p)
    have Fl : (s.heap.push (listOf #[] 0)).Ns env.locals m := hloc ▸ F1.ns
    refine wpAny_Name (wpAny_loadName_local hk hself Fl hms ?_) hsd
    refine one f .lis _ l done es n fl _ _ hs.1 hn hl he (hf.mono fun p hp => .tail _ hp) ⟨_, rfl, .head _⟩ F1 N2 ha2 _ fun h' es' n' he' hf' F' N' => ?_
    have e3 : done ++ (f, Rhs.lis) :: l = (done ++ [(f, Rhs.lis)]) ++ l := by simp
    have hnd2 : (((s.heap.objs.size, listOf #[] 0) :: news).map (·.1)).Nodup := by
      rw [List.map_cons, List.nodup_cons]
      refine ⟨fun q => ?_, hnd⟩
      obtain ⟨p, hp, e⟩ := List.mem_map.mp q
      exact absurd (Heap.lt_size (N p (.tail _ hp)).1) (by rw [e]; exact Nat.lt_irrefl _)
    exact ih (done ++ [(f, .lis)]) es' n' _ _ _ hs.2 (fun f' p' h' => hm f' p' (.tail _ h')) (e3 ▸ hn) (e3 ▸ hl) he' hf' F' N' ha2 hb2 hnd2 (by
      rw [dads_snoc_other (by simp) hf.length]
      exact ⟨hD.1, fun d hd' => .tail _ (hD.2 d hd')⟩) Q fun h2 tk2 es2 n2 fl2 news2 a1 a2 a3 a4 a5 a6 a7 a8 => k h2 tk2 es2 n2 fl2 news2 a1 (e3 ▸ a2) a3 a4 a5 a6 a7 (e3 ▸ a8)
end
section
theorem bindL_mem {k : Str → Option NameKind} {y : Str} {v : Value} : ∀ {names : List Str} {vs : List Value} {m : Str → Option Value}, names.Nodup → (∀ x ∈ names, k x = some .local) → (y, v) ∈ names.zip vs → bindL k (names.zip vs) m y = some v
  | [], _, _, _, _, h => by simp at h
  | x :: r, [], _, _, _, h => by simp at h
  | x :: r, u :: vs, m, hn, hk, h => by
    obtain ⟨n1, n2⟩ := List.nodup_cons.mp hn
    rw [List.zip_cons_cons, bindL, if_pos (hk x (.head _))]
    rw [List.zip_cons_cons] at h
    rcases List.mem_cons.mp h with e | h
    · cases e
      rw [bindL_out n1]; simp
    · exact bindL_mem n2 (fun z hz => hk z (.tail _ hz)) h
section
variable {G : Gx} {c : Cx} {st : AS} {h h' : Heap}
theorem cls_raw (O : Cx.Ok G c) (S : St G c st h) {n : Nat} (hr : c.room n) {C fI : Addr} {fd : FuncData} {body : List Stmt} {self : Str} {names : List Str} {l : List (Str × Rhs)} {oc : Value} {od : Option Addr} {osl : Array (Option Value)} {vs : List Value} {vals : List Value} {tk : Nat}
    (hm : makesIn G.K C = true) (hi : findIn G.K (.ref C) "__init__" = some (some (.ref fI))) (hf : typeIn G.K (.ref fI) = some (.type "function")) (ho : G.K.lookup fI = some ⟨oc, od, .func fd, osl⟩) (hbody : fd.body = .stmts body) (hcd : codeIn G.K fd.code fd.qualname = true)
    (hbind : ∀ x hh tk, G.K.In hh → BindsTo (G.sh hh tk) fd ⟨.ref x :: vs, []⟩ ((self :: names).zip (.ref x :: vals))) (hlen : names.length = vals.length) (hnd : (self :: names).Nodup)
    (hkind : ((self :: names).all fun y => fd.scope.names.lookup y == some .local) = true) (hnc : cellsFrom 0 fd.scope.names [] = []) (hsd : (self == ("__debug__" : Str)) = false)
    (hB : ∀ L, InitB (callEnvC fd L fI) self body l) (hc : clsOk G.K C = true) (hs : (l.all fun p => setOk G.K C p.1) = true) (hpn : ∀ f p, (f, Rhs.nm p) ∈ l → p ∈ names) (hln : (l.map (·.1)).Nodup) (hll : l.length ≤ 900)
    (hclo : fd.closure = []) (hgl : fd.globals = mainGlobals) (hbl : fd.builtins = builtinsNs) (hco : fd.scope.isCoroutine = false) (hgen : fd.scope.isGenerator = false) (hk : fd.scope.kind = .function)
    {Q' : Value → Shared → Prop} {E' : Value → Shared → Prop}
    (k : ∀ x dx h' tk' es n fl news (m : Str → Option Value), (∀ b o, h.get? b = some o → h'.get? b = some o) → h.get? x = none → h.get? dx = none → x ≠ dx → h'.get? x = some (instObj C dx) → h'.get? dx = some (dictOf es n) → EsOf G.w es fl → Flds m news l fl → (∀ y v, (y, v) ∈ names.zip vals → m y = some v) →
      (∀ p ∈ news, h'.get? p.1 = some p.2 ∧ h.get? p.1 = none ∧ p.1 ≠ dx ∧ p.1 ≠ x ∧ h.objs.size < p.1) → (news.map (·.1)).Nodup → (dads l fl).Nodup → Q' (.ref x) (G.sh h' tk')) :
    wpAny (model G.prog G.w) c.A (call (.ref C) vs []) Q' E' (G.sh h tk) := by
  have XK := O.X.keeps S.F.keep
  refine wpAny_call (make_core (makes_of XK hm) (looks_findIn XK hi) (fun self => bind_fn XK self hf) (.inl rfl) ?_)
  generalize hdx : h.objs.size = dx
  generalize hh2 : (h.push emptyDict).push (instObj C dx) = h2
  have up : ∀ b o, h.get? b = some o → h2.get? b = some o := fun b o e => hh2 ▸ Heap.get?_push_of_some _ (Heap.get?_push_of_some _ e)
  have ex : h2.get? (dx + 1) = some (instObj C dx) := by
    have := Heap.get?_push_size (h := h.push emptyDict) (o := instObj C dx) rfl
    rw [Heap.size_push, hdx, hh2] at this; exact this
  have ed : h2.get? dx = some emptyDict := by
    have := Heap.get?_push_of_some (instObj C dx) (Heap.get?_push_size (h := h) (o := emptyDict) rfl)
    rw [hdx, hh2] at this; exact this
  have n1 : h.get? (dx + 1) = none := Heap.get?_none_of_le (hdx ▸ Nat.le_succ _)
  have n2 : h.get? dx = none := Heap.get?_none_of_le (hdx ▸ Nat.le_refl _)
  have X2 := XK.keeps up
  refine codeAny_call_function (by rw [depth_under_kw]; show c.dp + 1 < 1000; have := hr.1; omega) (X2 _ _ ho) rfl hco hgen hbody (codeRec_of X2 hcd) (hbind (dx + 1) h2 tk X2 _ _ _ _ ?_)
  rw [hclo]
  refine wpAny_newFunctionEnv_cells hk (fun y hy => .inl ?_) fun env' he s' x => ?_
  · have := List.all_eq_true.mp hkind y.1 (List.of_mem_zip (a := y.1) (b := y.2) hy).1
    simpa using this
  subst he
  have kk := x.toInCall.keep
  obtain ⟨h₁, tk₁, rfl, _⟩ := x.done
  dsimp only at kk
  refine ⟨((O.T.nolimit).keeps S.F.keep).keeps (fun b o e => kk b o (up b o e)), codeAny_func ?_⟩
  have cell0 : cellsFrom (h2.objs.size + 1) fd.scope.names [] = [] := by
    have := cellsFrom_names fd.scope.names 0 (h2.objs.size + 1) [] [] rfl
    rw [hnc] at this
    cases q : cellsFrom (h2.objs.size + 1) fd.scope.names [] with
    | nil => rfl
    | cons a b => rw [q] at this; cases this
  have ns1 := x.toInCall.ns
  have hkind' : ∀ y ∈ self :: names, fd.scope.names.lookup y = some .local := fun y hy => by
    have := List.all_eq_true.mp hkind y hy
    simpa using this
  generalize hL : h2.objs.size = L at *
  have mval : ∀ y v, (y, v) ∈ (self :: names).zip (.ref (dx + 1) :: vals) → bindL (callEnvC fd L fI).kindOf ((self :: names).zip (.ref (dx + 1) :: vals)) (fun _ => none) y = some v := fun y v hy => bindL_mem hnd (fun z hz => hkind' z hz) hy
  have hms := mval self (.ref (dx + 1)) (by rw [List.zip_cons_cons]; exact .head _)
  have dxL : dx ≠ L := hL ▸ Nat.ne_of_lt (Heap.lt_size ed)
  have F : Fr (hideAll h2 [dx]) L h₁ (bindL (callEnvC fd L fI).kindOf ((self :: names).zip (.ref (dx + 1) :: vals)) fun _ => none) := ⟨ns1, fun b o e => kk b o (of_hideAll _ e), by rw [hideAll_size, hL]; exact Nat.le_refl _⟩
  have N : News (hideAll h2 [dx]) L h₁ [(dx, dictOf [] 0)] := fun p hp => by
    rw [List.mem_singleton.mp hp]
    exact ⟨kk _ _ ed, dxL, hideAll_none _ (.head _)⟩
  have Xg : G.K.In (hideAll h2 [dx]) := XK.keeps fun b o e => hideAll_get _ (up b o e) fun q => by rw [List.mem_singleton.mp q, n2] at e; cases e
  have xg : (hideAll h2 [dx]).get? (dx + 1) = some (instObj C dx) := hideAll_get _ ex fun q => absurd (List.mem_singleton.mp q) (Nat.succ_ne_self _)
  refine init_run (env := callEnvC fd L fI) (x := dx + 1) (dx := dx) (g := hideAll h2 [dx]) hk (hkind' self (.head _)) hsd rfl hms Xg hc xg dxL (hideAll_none _ (.head _)) body l [] [] 0 [] [] (G.sh h₁ tk₁) (hB L) hs (fun f p hp => ?_) (by simpa using hln) (by simpa using hll) .nil .nil F N (fun _ hp => nomatch hp) (fun _ hp => nomatch hp) .nil ⟨.nil, fun _ h => nomatch h⟩ _ fun h3 tk3 es n3 fl news e1 e2 F3 N3 a3 b3 d3 D3 => ?_
  · have hp' := hpn f p hp
    obtain ⟨i, hi, e⟩ := List.getElem_of_mem hp'
    have hi2 : i < vals.length := hlen ▸ hi
    refine ⟨vals[i], mval p _ ?_⟩
    rw [List.zip_cons_cons]
    refine .tail _ ?_
    have : (names.zip vals)[i]? = some (p, vals[i]) := by simp [List.getElem?_zip_eq_some, List.getElem?_eq_getElem hi, List.getElem?_eq_getElem hi2, e]
    exact List.mem_of_getElem? this
  · show _ ∧ _
    refine ⟨rfl, k (dx + 1) dx h3 tk3 es n3 fl news _ (fun b o e => F3.keep b o (hideAll_get _ (up b o e) fun q => by rw [List.mem_singleton.mp q, n2] at e; cases e)) n1 n2 (Nat.succ_ne_self _) (F3.keep _ _ xg) (N3 _ (.head _)).1 e1 (by simpa using e2) (fun y v hy => mval y v (by rw [List.zip_cons_cons]; exact .tail _ hy)) (fun p hp => ?_) d3 (by simpa using D3)⟩
    obtain ⟨q1, q2, q3⟩ := N3 p (.tail _ hp)
    refine ⟨q1, ?_, a3 p hp, fun q => (by rw [q, xg] at q3; cases q3), ?_⟩
    rotate_left
    · have := b3 p hp
      have l2 : dx < L := hL ▸ Heap.lt_size ed
      rw [hdx]; exact Nat.lt_trans l2 this
    cases w : h.get? p.1 with
    | none => rfl
    | some o =>
      rw [hideAll_get [dx] (up _ o w) fun q => a3 p hp (List.mem_singleton.mp q)] at q3
      cases q3
noncomputable def rv (z : List (Str × PV)) : Rhs → PV
  | .nm p => (z.lookup p).getD .none
  | .dic => .dct []
  | .lis => .lst []
theorem zip_rel {V : Addr → Option Obj} {p : Str} {names : List Str} : ∀ {vals : List Value} {pqs : List PV}, VRs G V vals pqs → names.length = vals.length → p ∈ names → ∃ v q, (p, v) ∈ names.zip vals ∧ (names.zip pqs).lookup p = some q ∧ VR G V v q := by
  induction names with
  | nil => intro _ _ _ _ h; cases h
  | cons x r ih =>
    intro vals pqs rs hl h
    cases pqs with
    | nil => rw [rs.length] at hl; cases hl
    | cons q l =>
      revert hl
      refine rs.ofCons fun v vs rv rs hl => ?_
      by_cases hx : p = x
      · subst hx
        exact ⟨v, q, .head _, by rw [List.zip_cons_cons, List.lookup_cons, beq_self_eq_true], rv⟩
      · obtain ⟨v', q', h1, h2, h3⟩ := ih rs (Nat.succ.inj hl) ((List.mem_cons.mp h).resolve_left hx)
        exact ⟨v', q', .tail _ h1, by rw [List.zip_cons_cons, List.lookup_cons, beq_eq_false_iff_ne.mpr hx]; exact h2, h3⟩
theorem Flds.both {w : World} {m : Str → Option Value} {news : List (Addr × Obj)} {P : List DictEntry → List (Str × Rhs) → List (Str × Value) → Prop} (h0 : P [] [] []) (h1 : ∀ {f t r v es l k}, FldOf m news r v → EsOf w es k → Flds m news l k → P es l k → P (⟨PyData.keyHash w.params f, .str f t, v⟩ :: es) ((f, r) :: l) ((f, v) :: k))
    {l : List (Str × Rhs)} {k : List (Str × Value)} (hf : Flds m news l k) {es : List DictEntry} (he : EsOf w es k) : P es l k := by
  have inv : ∀ {es k}, EsOf w es k → (k = [] → es = []) ∧ ∀ f v k', k = (f, v) :: k' → ∃ t es', es = ⟨PyData.keyHash w.params f, .str f t, v⟩ :: es' ∧ EsOf w es' k' := fun he =>
    he.ind (P := fun es k => (k = [] → es = []) ∧ ∀ f v k', k = (f, v) :: k' → ∃ t es', es = ⟨PyData.keyHash w.params f, .str f t, v⟩ :: es' ∧ EsOf w es' k') ⟨fun _ => rfl, fun _ _ _ e => (nomatch e)⟩ fun h _ => ⟨fun e => (nomatch e), fun f v k' e => by cases e; exact ⟨_, _, rfl, h⟩⟩
  revert es
  refine hf.ind (P := fun l k => ∀ {es}, EsOf w es k → P es l k) (fun he => ?_) fun a hf ih es he => ?_
  · rw [(inv he).1 rfl]; exact h0
  · obtain ⟨t, es', rfl, he'⟩ := (inv he).2 _ _ _ rfl
    exact h1 a he' hf (ih he')
theorem flds_vrd {V : Addr → Option Obj} {names : List Str} {vals : List Value} {pqs : List PV} {m : Str → Option Value} {news : List (Addr × Obj)} (rs : VRs G V vals pqs) (hlen : names.length = vals.length) (hm : ∀ y v, (y, v) ∈ names.zip vals → m y = some v)
    (hN : ∀ p ∈ news, V p.1 = some p.2 ∧ p.1 ≠ sysModules) {es : List DictEntry} {fl : List (Str × Value)} {l : List (Str × Rhs)} (he : EsOf G.w es fl) (hf : Flds m news l fl) : (∀ f p, (f, Rhs.nm p) ∈ l → p ∈ names) → VRd G V es (l.map fun p => (p.1, rv (names.zip pqs) p.2)) := by
  refine hf.both (P := fun es l _ => (∀ f p, (f, Rhs.nm p) ∈ l → p ∈ names) → VRd G V es (l.map fun p : Str × Rhs => (p.1, rv (names.zip pqs) p.2))) (fun _ => .nil) (fun {f t r v es l k} hf _ _ ih hp => .cons rfl rfl ?_ (ih fun f p h => hp f p (.tail _ h))) he
  cases r with
  | nm p =>
    obtain ⟨v', q, h1, h2, h3⟩ := zip_rel rs hlen (hp _ p (.head _))
    have := (hm _ _ h1).symm.trans hf
    cases this
    show VR G V _ (((names.zip pqs).lookup p).getD .none)
    rw [h2]; exact h3
  | dic =>
    obtain ⟨d, e, h⟩ := hf
    dsimp only; rw [e]
    exact .dct (es := []) (n := 0) (hN _ h).2 (hN _ h).1 .nil
  | lis =>
    obtain ⟨d, e, h⟩ := hf
    dsimp only; rw [e]
    exact .lst (vs := []) (n := 0) (hN _ h).1 .nil
theorem OpL.cls (O : Cx.Ok G c) {n : Nat} (hr : c.room n) {C fI : Addr} {fd : FuncData} {body : List Stmt} {self : Str} {names : List Str} {l : List (Str × Rhs)} {oc : Value} {od : Option Addr} {osl : Array (Option Value)} {qs dqs : List PV} {ds : List Value} {Q : PV → Prop}
    (hm : makesIn G.K C = true) (hi : findIn G.K (.ref C) "__init__" = some (some (.ref fI))) (hf : typeIn G.K (.ref fI) = some (.type "function")) (ho : G.K.lookup fI = some ⟨oc, od, .func fd, osl⟩) (hbody : fd.body = .stmts body) (hcd : codeIn G.K fd.code fd.qualname = true)
    (hds : ∀ V, VRs G V ds dqs) (hbind : ∀ x hh tk vs, G.K.In hh → vs.length = qs.length → BindsTo (G.sh hh tk) fd ⟨.ref x :: vs, []⟩ ((self :: names).zip (.ref x :: (vs ++ ds)))) (hlen : names.length = qs.length + dqs.length) (hnd : (self :: names).Nodup)
    (hkind : ((self :: names).all fun y => fd.scope.names.lookup y == some .local) = true) (hnc : cellsFrom 0 fd.scope.names [] = []) (hsd : (self == ("__debug__" : Str)) = false)
    (hB : ∀ L, InitB (callEnvC fd L fI) self body l) (hc : clsOk G.K C = true) (hs : (l.all fun p => setOk G.K C p.1) = true) (hpn : ∀ f p, (f, Rhs.nm p) ∈ l → p ∈ names) (hln : (l.map (·.1)).Nodup) (hll : l.length ≤ 900)
    {kb : Addr} {ko : Obj} (hkb : G.K.lookup kb = some ko) (hks : sysModules < kb) (hq : Q (.ins C (l.map fun p => (p.1, rv (names.zip (qs ++ dqs)) p.2))))
    (hclo : autoParam (fd.closure = []) aRfl) (hgl : autoParam (fd.globals = mainGlobals) aRfl) (hbl : autoParam (fd.builtins = builtinsNs) aRfl) (hco : autoParam (fd.scope.isCoroutine = false) aRfl) (hgen : autoParam (fd.scope.isGenerator = false) aRfl) (hk : autoParam (fd.scope.kind = .function) aRfl) :
    OpL G c st callL (.adr C :: qs) Q := fun h tk vs' S rs Q' E' z => by
  refine rs.ofCons fun vC vs rC rs => rC.ofAdr ?_
  · have ll := rs.length
    have ld := (hds (fun _ => none)).length
    show wpAny _ _ (call (.ref C) vs []) _ _ _
    refine cls_raw O S hr (vals := vs ++ ds) hm hi hf ho hbody hcd (fun x hh tk X => hbind x hh tk vs X ll) (by rw [List.length_append, hlen, ll, ld]) hnd hkind hnc hsd hB hc hs hpn hln hll hclo hgl hbl hco hgen hk fun x dx h' tk' es n' fl news m k fx fd' nx ex ed he hfl hmm hN hnd' hD' => ?_
    have s := S.keepAll O k
    have nh : ∀ b, h.get? b = none → ¬ Hid c st b := fun b e q => by obtain ⟨o, w⟩ := S.occ b q; exact clash e w
    have XK := O.X.keeps S.F.keep
    refine z _ _ h' tk' s (.ins (view_some.mpr ⟨nh x fx, ex⟩) rfl rfl rfl (view_some.mpr ⟨nh dx fd', ed⟩) (flds_vrd ((rs.mono (s.vle O)).append (hds _)) (by rw [List.length_append, hlen, ll, ld]) hmm (fun p hp => ?_) he hfl hpn)) hq
    obtain ⟨q1, q2, q3, q4, q5⟩ := hN p hp
    exact ⟨view_some.mpr ⟨nh _ q2, q1⟩, fun q => by
      have := Heap.lt_size (XK _ _ hkb)
      rw [q] at q5; exact absurd (Nat.lt_trans (Nat.lt_trans hks this) q5) (Nat.lt_irrefl _)⟩
end
end
section
noncomputable def wv1 (z : List (Str × PV)) : Rhs → List Addr → WV × List Addr
  | .nm p, ds => (.v ((z.lookup p).getD .none), ds)
  | .lis, ds => (.v (.lst []), ds)
  | .dic, d :: ds => (.md d [], ds)
  | .dic, [] => (.md 0 [], [])
noncomputable def wvl (z : List (Str × PV)) : List (Str × Rhs) → List Addr → List (Str × WV)
  | p :: l, ds => (p.1, (wv1 z p.2 ds).1) :: wvl z l (wv1 z p.2 ds).2
  | [], _ => []
section
variable {G : Gx} {c : Cx} {st : AS} {h h' : Heap}
theorem own_wvl {z : List (Str × PV)} {m : Str → Option Value} {news : List (Addr × Obj)} {l : List (Str × Rhs)} {fl : List (Str × Value)} (h : Flds m news l fl) : (wvl z l (dads l fl)).flatMap (fun p => p.2.own) = dads l fl := by
  refine h.ind (P := fun l fl => (wvl z l (dads l fl)).flatMap (fun p : Str × WV => p.2.own) = dads l fl) rfl fun {f r v l k} hf _ ih => ?_
  cases r with
  | nm p => exact ih
  | lis => exact ih
  | dic => obtain ⟨d, rfl, _⟩ := hf; exact congrArg (d :: ·) ih
theorem dads_mem {m : Str → Option Value} {news : List (Addr × Obj)} {l : List (Str × Rhs)} {fl : List (Str × Value)} (h : Flds m news l fl) : ∀ d ∈ dads l fl, (d, emptyDict) ∈ news := by
  refine h.ind (P := fun l fl => ∀ d ∈ dads l fl, (d, emptyDict) ∈ news) (fun _ h => nomatch h) fun {f r v l k} hf _ ih => ?_
  cases r with
  | nm p => exact ih
  | lis => exact ih
  | dic => obtain ⟨d, rfl, h⟩ := hf; exact List.forall_mem_cons.mpr ⟨h, ih⟩
theorem wvl_rd {V : Addr → Option Obj} {names : List Str} {vals : List Value} {pqs : List PV} {m : Str → Option Value} {news : List (Addr × Obj)} (rs : VRs G V vals pqs) (hlen : names.length = vals.length) (hm : ∀ y v, (y, v) ∈ names.zip vals → m y = some v)
    (hL : ∀ p ∈ news, p.2 = listOf #[] 0 → V p.1 = some p.2) (hN : ∀ p ∈ news, h.get? p.1 = some p.2 ∧ p.1 ≠ sysModules) {es : List DictEntry} {fl : List (Str × Value)} {l : List (Str × Rhs)} (he : EsOf G.w es fl) (hf : Flds m news l fl) : (∀ f p, (f, Rhs.nm p) ∈ l → p ∈ names) → WRd G V h es (wvl (names.zip pqs) l (dads l fl)) := by
  refine hf.both (P := fun es l fl => (∀ f p, (f, Rhs.nm p) ∈ l → p ∈ names) → WRd G V h es (wvl (names.zip pqs) l (dads l fl))) (fun _ => .nil) (fun {f t r v es l k} hf _ _ ih hp => ?_) he
  have ih := ih fun f p h => hp f p (.tail _ h)
  cases r with
  | nm p =>
    obtain ⟨v', q, h1, h2, h3⟩ := zip_rel rs hlen (hp _ p (.head _))
    have := (hm _ _ h1).symm.trans hf
    cases this
    exact .v rfl rfl (by rw [h2]; exact h3) ih
  | lis =>
    obtain ⟨d, rfl, h⟩ := hf
    exact .v rfl rfl (.lst (vs := []) (n := 0) (hL _ h rfl) .nil) ih
  | dic =>
    obtain ⟨d, rfl, h⟩ := hf
    exact .md (es' := []) (n := 0) rfl rfl rfl (hN _ h).2 (hN _ h).1 .nil ih
theorem EvK.cls (O : Cx.Ok G c) {n : Nat} (hr : c.room n) {C fI : Addr} {fd : FuncData} {body : List Stmt} {self : Str} {names : List Str} {l : List (Str × Rhs)} {oc : Value} {od : Option Addr} {osl : Array (Option Value)} {x : Str} {xp pos : Pos} {as : List Expr} {P : MK → Prop}
    (hm : makesIn G.K C = true) (hi : findIn G.K (.ref C) "__init__" = some (some (.ref fI))) (hf : typeIn G.K (.ref fI) = some (.type "function")) (ho : G.K.lookup fI = some ⟨oc, od, .func fd, osl⟩) (hbody : fd.body = .stmts body) (hcd : codeIn G.K fd.code fd.qualname = true)
    (hbind : ∀ x hh tk vs, G.K.In hh → vs.length = names.length → BindsTo (G.sh hh tk) fd ⟨.ref x :: vs, []⟩ ((self :: names).zip (.ref x :: vs))) (hnd : (self :: names).Nodup)
    (hkind : ((self :: names).all fun y => fd.scope.names.lookup y == some .local) = true) (hnc : cellsFrom 0 fd.scope.names [] = []) (hsd : (self == ("__debug__" : Str)) = false)
    (hB : ∀ L, InitB (callEnvC fd L fI) self body l) (hc : clsOk G.K C = true) (hs : (l.all fun p => setOk G.K C p.1) = true) (hpn : ∀ f p, (f, Rhs.nm p) ∈ l → p ∈ names) (hln : (l.map (·.1)).Nodup) (hll : l.length ≤ 900)
    {kb : Addr} {ko : Obj} (hkb : G.K.lookup kb = some ko) (hks : sysModules < kb) (hx : Ev G c st (.Name x xp) fun f => f = .adr C) (hok : okF G (.adr C) = true)
    (hq : Evs G c st as fun qs => names.length = qs.length ∧ ∀ x dx ds, P (.wld C x dx (wvl (names.zip qs) l ds)))
    (hp : autoParam ((backTo pos (starEach as c.env)).any (·.1) = false) aRfl)
    (hclo : autoParam (fd.closure = []) aRfl) (hgl : autoParam (fd.globals = mainGlobals) aRfl) (hbl : autoParam (fd.builtins = builtinsNs) aRfl) (hco : autoParam (fd.scope.isCoroutine = false) aRfl) (hgen : autoParam (fd.scope.isGenerator = false) aRfl) (hk : autoParam (fd.scope.kind = .function) aRfl) :
    EvK G c st (.Call (.Name x xp) as [] pos) P := fun h₁ tk S Q' E' z => by
  show wpAny _ _ (eval _ _) _ _ _
  rw [eval_CallN]
  refine wpAny_bind (hx h₁ tk S _ _ fun vf f h2 tk2 s2 r2 q2 => ?_)
  subst q2
  have : vf = .ref C := r2.inv
  subst this
  refine callWith_all hp (hq pos h2 tk2 (S.step O s2) _ _ fun vs qs h3 tk3 s3 r3 q3 => ⟨keeper O ((S.step O s2).step O s3) (r2.mono (s3.vle O)) hok, ?_⟩)
  have S3 := (S.step O s2).step O s3
  have ll := r3.length
  refine cls_raw O S3 hr (vals := vs) hm hi hf ho hbody hcd (fun x hh tk X => hbind x hh tk vs X (by rw [ll]; exact q3.1.symm)) (by rw [ll]; exact q3.1) hnd hkind hnc hsd hB hc hs hpn hln hll hclo hgl hbl hco hgen hk fun x dx h' tk' es n' fl news m k fx fd' nx ex ed he hfl hmm hN hnd' hD' => ?_
  have s4 := S3.keepAll O k
  have s := (s2.trans s3).trans s4
  have XK := O.X.keeps S3.F.keep
  have own : (MK.wld C x dx (wvl (names.zip qs) l (dads l fl))).own = dads l fl := own_wvl hfl
  have inN := dads_mem hfl
  have fr3 : ∀ b ∈ (MK.wld C x dx (wvl (names.zip qs) l (dads l fl))).own, h3.get? b = none := fun b hb => by
    rw [own] at hb
    exact (hN _ (inN b hb)).2.1
  have fr : ∀ b ∈ (MK.wld C x dx (wvl (names.zip qs) l (dads l fl))).own, h₁.get? b = none := fun b hb => (s2.trans s3).fresh (fr3 b hb)
  obtain ⟨e1, e2, e3, e4⟩ := EvK.of O S (k := .wld C x dx (wvl (names.zip qs) l (dads l fl))) s fr (fun b hb => by
    rw [own] at hb
    exact ⟨_, (hN _ (inN b hb)).1, .dic rfl⟩)
  have vis : ∀ b o, h3.get? b = none → b ∉ dads l fl → h'.get? b = some o → VW (withHid c (MK.wld C x dx (wvl (names.zip qs) l (dads l fl))).own) st h' b = some o := fun b o f1 f2 f3 => view_some.mpr ⟨fun q => by
    rcases hid_with.mp q with q | q
    · obtain ⟨o', w⟩ := S3.occ b q; exact clash f1 w
    · rw [own] at q; exact f2 q, f3⟩
  have VV : VLe (VW c st h3) (VW (withHid c (MK.wld C x dx (wvl (names.zip qs) l (dads l fl))).own) st h') := fun b o e => by
    rw [view_some] at e ⊢
    refine ⟨fun q => ?_, k b o e.2⟩
    rcases hid_with.mp q with q | q
    · exact e.1 q
    · rw [fr3 b q] at e; cases e.2
  have sys : ∀ p ∈ news, p.1 ≠ sysModules := fun p hp q => by
    obtain ⟨q1, q2, q3, q4, q5⟩ := hN p hp
    have := Heap.lt_size (XK _ _ hkb)
    rw [q] at q5; exact absurd (Nat.lt_trans (Nat.lt_trans hks this) q5) (Nat.lt_irrefl _)
  refine z _ h' tk' e1 e2 e3 (by rw [own]; exact hD') ⟨vis x _ fx (fun q => (hN _ (inN x q)).2.2.2.1 rfl) ex, es, n', vis dx _ fd' (fun q => (hN _ (inN dx q)).2.2.1 rfl) ed, ?_⟩ e4 (q3.2 x dx _)
  refine wvl_rd (r3.mono VV) (by rw [ll]; exact q3.1) hmm (fun p hp e => vis p.1 _ (hN p hp).2.1 (fun q => ?_) (hN p hp).1) (fun p hp => ⟨(hN p hp).1, sys p hp⟩) he hfl hpn
  have h1 := (hN _ (inN p.1 q)).1
  rw [show h'.get? p.1 = some p.2 from (hN p hp).1, e] at h1
  have := congrArg Obj.cls (Option.some.inj h1)
  simp at this
end
end
section
noncomputable def BindsR (G : Gx) (c : Cx) : List Str → List PV → AS → (AS → Prop) → Prop
  | [], [], st, K => K st
  | x :: xs, q :: qs, st, K => Stores c st x ∧ ∀ m', BindsR G c xs qs (st.set x q m') K
  | _, _, _, _ => False
section
variable {G : Gx} {c : Cx} {st : AS} {h h' : Heap}
theorem VRs.reverse {V : Addr → Option Obj} {vs : List Value} {qs : List PV} (r : VRs G V vs qs) : VRs G V vs.reverse qs.reverse :=
  r.ind (P := fun vs qs => VRs G V vs.reverse qs.reverse) .nil fun r _ ih => by rw [List.reverse_cons, List.reverse_cons]; exact ih.append (.cons r .nil)
theorem bindsR (O : Cx.Ok G c) {K : AS → Prop} (xs : List Str) : ∀ (qs : List PV) (st : AS) (h : Heap) (tk : Nat) (vs : List Value), St G c st h → VRs G (VW c st h) vs qs → BindsR G c xs qs st K → ∀ (Q' : Unit → Shared → Prop) (E' : Value → Shared → Prop),
    (∀ st' h' tk', St G c st' h' → KLe G c st h st' h' → K st' → Q' () (G.sh h' tk')) → wpAny (model G.prog G.w) c.A (assignInOrder (xs.map fun n => bindName c.env n) vs) Q' E' (G.sh h tk) := by
  induction xs with
  | nil =>
    intro qs st h tk vs S rs k Q' E' z
    cases qs with
    | nil => exact assignInOrder_nil (z st h tk S (KLe.refl _ _ _ _) k)
    | cons _ _ => exact k.elim
  | cons x xs ih =>
    intro qs st h tk vs S rs k Q' E' z
    cases qs with
    | nil => exact k.elim
    | cons q qs =>
      refine rs.ofCons fun v vs r rs => ?_
      refine assignInOrder_cons (bindName_ (store_of O k.1 S r fun m' h1 tk1 S1 k1 => ?_))
      exact ih qs _ h1 tk1 _ S1 (rs.mono (k1.vle O)) (k.2 m') Q' E' fun st2 h2 tk2 S2 k2 kk => z st2 h2 tk2 S2 (k1.trans k2) kk
theorem Ex.assignT (O : Cx.Ok G c) {elts : List Expr} {kk : Nat} {tpos : Pos} {value : Expr} {pos : Pos} {names : List Str} {N : AS → Prop} {R : PV → Prop} {X : List (Str × PV) → Prop}
    (h : Ev G c st value fun q => ∃ qs, q = .tup qs ∧ qs.length = names.length ∧ BindsR G c names.reverse qs.reverse st N) (hs : autoParam (swapsWithSole [.Tuple elts kk tpos] value pos.line c.env = pure false) aRfl)
    (hw : autoParam (swappedStores [.Tuple elts kk tpos] value c.env = pure (some names)) aRfl) (hh : autoParam (c.hdl = none) aRfl) : Ex G c st (.Assign [.Tuple elts kk tpos] value pos) N R X := fun h₁ tk S Q' E' zn zr zx =>
  Assign_Tuple_swapped (h h₁ tk S _ _ fun v q h2 tk2 s2 r2 q2 => by
    obtain ⟨qs, rfl, ql, qb⟩ := q2
    refine r2.ofTup fun a vs n e rs => ?_
    · have ll := rs.length
      rw [show names.length = vs.toArray.size from by rw [List.size_toArray, ll, ql]]
      refine unpackItems_tuple hh ⟨_, VW.get e, rfl, _, rfl⟩ fun h3 he3 => ?_
      have S2 := S.step O s2
      have s3 := S2.keepAll (h' := h3) O fun b o eb => he3 b o (Nat.ne_of_lt (Heap.lt_size eb)) eb
      exact bindsR O _ _ st h3 tk2 _ (S2.step O s3) ((rs.mono (s3.vle O)).reverse) qb _ _ fun st4 h4 tk4 S4 k4 kk => zn st4 h4 tk4 S4 ((s2.trans s3).kle.trans k4) kk) hs hw
theorem Ex.assignKV (O : Cx.Ok G c) (hm : c.mf = none) {e1 e2 : Expr} {ek : Nat} {epos tpos pos : Pos} {elts : List Expr} {kk : Nat} {x y : Str} {N : AS → Prop} {R : PV → Prop} {X : List (Str × PV) → Prop} (hx : c.env.kindOf x = some .local) (hy : c.env.kindOf y = some .local) (hxy : y ≠ x)
    (h : EvK G c st e1 fun k => ∀ (O' : Cx.Ok G (withHid c k.own)), Ev G (withHid c k.own) st e2 fun q => ∀ m1 m2, N ((st.set y q m1).put x k m2))
    (hs : autoParam (swapsWithSole [.Tuple elts kk tpos] (.Tuple [e1, e2] ek epos) pos.line c.env = pure false) aRfl) (hw : autoParam (swappedStores [.Tuple elts kk tpos] (.Tuple [e1, e2] ek epos) c.env = pure (some [x, y])) aRfl) (hh : autoParam (c.hdl = none) aRfl)
    (h1 : autoParam (starEach [e1, e2] c.env = [(false, eval e1 c.env), (false, eval e2 c.env)]) aRfl) : Ex G c st (.Assign [.Tuple elts kk tpos] (.Tuple [e1, e2] ek epos) pos) N R X := fun h₁ tk S Q' E' zn zr zx => by
  refine Assign_Tuple_swapped ?_ hs hw
  refine Tuple_ ?_
  rw [h1]
  show wpAny _ _ (spliced ((false, eval e1 c.env) :: backTo epos [(false, eval e2 c.env)])) _ _ _
  refine spliced_cons (h h₁ tk S _ _ fun k h2 tk2 S2 W2 f2 n2 a2 k2 p2 => ?_)
  have Ok := O.with k.own W2.h0
  show wpAny _ _ (spliced ((false, eval e2 c.env) :: backTo epos [])) _ _ _
  refine spliced_cons (p2 Ok h2 tk2 S2 _ _ fun v q h3 tk3 s3 r3 q3 => spliced_nil (wpAny_newObj_type ?_ (by show 2 ≤ sizeLine; rw [sizeLine_eq]; decide)))
  have S3 := S2.step Ok s3
  let oT : Obj := { cls := .type "tuple", data := .seq #[k.val, v] }
  have s4 : Step G (withHid c k.own) st h3 (h3.push oT) := S3.push Ok oT
  have S4 := S3.step Ok s4
  refine unpackItems_tuple (items := #[k.val, v]) hh ⟨oT, Heap.get?_push_size _ rfl, rfl, _, rfl⟩ fun h5 he5 => ?_
  have s5 := S4.keepAll (h' := h5) Ok fun b o eb => he5 b o (Nat.ne_of_lt (Heap.lt_size eb)) eb
  have S5 := S4.step Ok s5
  have s35 := (s3.trans s4).trans s5
  show wpAny _ _ (assignInOrder [bindName c.env y, bindName c.env x] [v, k.val]) _ _ _
  refine assignInOrder_cons (bindName_ (store_of (c := withHid c k.own) Ok (.inl hy) S5 (r3.mono ((s4.trans s5).vle Ok)) fun m1 h6 tk6 S6 k6 => ?_))
  refine assignInOrder_cons (bindName_ ?_)
  refine wpAny_storeName_local hx S6.Nn (fun h7 hn hs7 => ?_) (by rw [O.ke]; rfl)
  have keepOwn : ∀ b ∈ k.own, ∀ o, h2.get? b = some o → h6.get? b = some o := fun b hb o eb => by
    refine k6.keep b o (fun q => ?_) (s35.later b o (W2.M b hb) (fun q => W2.L (q ▸ hb)) eb)
    rcases q with q | q | q | q | ⟨z, kz, q, q'⟩
    · exact W2.M b hb q
    · exact W2.L (q ▸ hb)
    · exact W2.loc (q ▸ hb)
    · exact (f2 b hb).1 (.inr (.inl q))
    · exact (f2 b hb).1 (.inr (.inr ⟨z, kz, q, q'⟩))
  have P := St.adopt (k := k) (st := st.set y q m1) (m' := fun z => if z = x then some k.val else (st.set y q m1).m z) O hm S6 W2 (fun b hb qq => (f2 b hb).1 (hid_set qq)) n2 (a2.mono ((s35.vle Ok).trans (k6.vle Ok)) keepOwn) hx (fun z => rfl) hn hs7
  refine assignInOrder_nil (zn _ h7 _ P ⟨fun b o n eb => ?_, fun b qq => ?_⟩ (q3 m1 _))
  · have n' : ¬ Own G (withHid c k.own) st b := n
    exact (hs7.2 b fun z => n (.inr (.inr (.inl z)))).trans (k6.keep b o n' (s35.kle.keep b o n' (k2 b o n eb)))
  · rcases own_put qq with z | z
    · exact .inl (own_set z)
    · exact .inr (f2 b z).2
theorem St.srcSet (O : Cx.Ok G c) (S : St G c st h) {Sa : Addr} (hS : G.S = some Sa) {a b : Int} {ta tb : Tok} (hl : h'.IsList Sa #[.int a ta, .int b tb]) (ok : SrcOk a b) (hs : Heap.SameBut Sa h h') : Step G c st h h' := by
  have nM := mem_M (c := c) (O.hS _ hS)
  have nL : c.L ≠ Sa := fun q => O.hLM (q ▸ nM)
  obtain ⟨a0, b0, ta0, tb0, ⟨o0, e0, c0, n0, d0⟩, _⟩ := S.glb.src _ hS
  have nf : ∀ (o : Obj) (vs : Array Value) (x : Addr), h.get? x = some o → o.data = .fields vs → x ≠ Sa := fun o vs x e d q => by
    rw [q, e0] at e; cases e; rw [d0] at d; cases d
  refine ⟨fun x o n1 _ e => hs.extBut x o (fun q => n1 (q ▸ nM)) e, S.F.change hs (Ne.symm nL) (O.hM _ nM), ?_⟩
  have tab : ∀ kk : CloK, TabSt G.M h kk → TabSt G.M h' kk := fun kk t => by
    rcases t with t | ⟨c', oc, vs, tt, e1, e2, e3, e4, e5, e6⟩
    · exact .inl (hs.extBut _ _ (nf _ _ _ t rfl) t)
    · exact .inr ⟨c', oc, vs, tt, hs.extBut _ _ (nf _ _ _ e1 rfl) e1, hs.extBut _ _ (nf _ _ _ e2 e3) e2, e3, e4, e5, e6⟩
  refine ⟨fun x hx => ?_, fun p hp => (S.glb.frs p hp).at' fun o e => hs.extBut _ o (fun q => ?_) e, fun S' e => ?_, tab _ S.glb.tput, tab _ S.glb.tlam⟩
  · by_cases q : x = Sa
    · obtain ⟨o, e, _, _, d⟩ := hl; exact ⟨o, q ▸ e, .seq d⟩
    · obtain ⟨o, e, n⟩ := S.glb.has x hx; exact ⟨o, hs.extBut x o q e, n⟩
  · obtain ⟨o1, es, ep, e1, d1, _⟩ := S.glb.frs p hp
    rw [q, e0] at e1; cases e1; rw [d0] at d1; cases d1
  · rw [hS] at e; cases e
    exact ⟨a, b, ta, tb, hl, ok⟩
theorem Ex.srcSet (O : Cx.Ok G c) {x : Str} {xp spos pos : Pos} {k : Int} {ck : Nat} {kpos : Pos} {value : Expr} {N : AS → Prop} {R : PV → Prop} {X : List (Str × PV) → Prop} (hk : k = 0 ∨ k = 1)
    (h : Ev G c st value fun q => ∃ v, q = .int v ∧ (k = 0 → 0 ≤ v ∧ v.natAbs.log2 < 2 ^ 25) ∧ (k = 1 → 0 ≤ v ∧ v < 2 ^ 31) ∧ Ev G c st (.Name x xp) fun s => s = .src ∧ N st)
    (hs : autoParam (swapsWith value (some (.Subscript (.Name x xp) (.Constant (.int k) ck kpos) spos)) pos.line c.env = pure false) aRfl) : Ex G c st (.Assign [.Subscript (.Name x xp) (.Constant (.int k) ck kpos) spos] value pos) N R X := fun h₁ tk S Q' E' zn zr zx =>
  wpAny_Assign_Subscript (h h₁ tk S _ _ fun v q h2 tk2 s2 r2 q2 => by
    obtain ⟨i, rfl, k0, k1, q3⟩ := q2
    have S2 := S.step O s2
    refine q3 h2 tk2 S2 _ _ fun vs sq h3 tk3 s3 r3 q4 => ?_
    obtain ⟨rfl, hN⟩ := q4
    have S3 := S2.step O s3
    refine r3.ofSrc fun Sa hS => r2.ofInt fun t => ?_
    · · obtain ⟨a, b, ta, tb, hl, ok⟩ := S3.glb.src _ hS
        refine wpAny_Constant_int (wpAny_setItem_list hl (by rcases hk with rfl | rfl <;> decide) (by rcases hk with rfl | rfl <;> decide) (by rcases hk with rfl | rfl <;> simp) fun h4 hl4 hs4 => ?_)
        have fin : ∀ a' b' ta' tb', h4.IsList Sa #[.int a' ta', .int b' tb'] → SrcOk a' b' → Q' .next (G.sh h4 (tk3 + 1)) := fun a' b' ta' tb' hl' ok' => by
          have s4 := S3.srcSet O hS hl' ok' hs4
          exact zn st h4 _ (S3.step O s4) (((s2.trans s3).trans s4).kle) hN
        obtain ⟨o1, o2, o3, o4⟩ := ok
        rcases hk with rfl | rfl
        · exact fin i b t tb hl4 ⟨(k0 rfl).1, (k0 rfl).2, o3, o4⟩
        · exact fin a i ta t hl4 ⟨o1, o2, (k1 rfl).1, (k1 rfl).2⟩) hs
end
end
section
inductive KVR (G : Gx) (V : Addr → Option Obj) : List (Str × Value) → List (Str × PV) → Prop
  | nil : KVR G V [] []
  | cons {x : Str} {v : Value} {q : PV} {k : List (Str × Value)} {l : List (Str × PV)} : VR G V v q → KVR G V k l → KVR G V ((x, v) :: k) ((x, q) :: l)
noncomputable def putPV (l : List (Str × PV)) (x : Str) (q : PV) : List (Str × PV) := if l.any (fun p => decide (p.1 = x)) then l.map (fun p => if p.1 = x then (p.1, q) else p) else l ++ [(x, q)]
section
variable {G : Gx} {c : Cx} {st : AS} {h h' : Heap} {V : Addr → Option Obj}
theorem KVR.ind {P : List (Str × Value) → List (Str × PV) → Prop} (h0 : P [] []) (h1 : ∀ {x v q k l}, VR G V v q → KVR G V k l → P k l → P ((x, v) :: k) ((x, q) :: l)) {k : List (Str × Value)} {l : List (Str × PV)} (h : KVR G V k l) : P k l := KVR.rec (motive := fun k l _ => P k l) h0 (fun r rs ih => h1 r rs ih) h
theorem KVR.mono {V' : Addr → Option Obj} (k : VLe V V') {kvs : List (Str × Value)} {l : List (Str × PV)} (h : KVR G V kvs l) : KVR G V' kvs l := h.ind .nil fun r _ rs => .cons (r.mono k) rs
theorem KVR.keys {kvs : List (Str × Value)} {l : List (Str × PV)} (h : KVR G V kvs l) : kvs.map (·.1) = l.map (·.1) := h.ind (P := fun k l => k.map (·.1) = l.map (·.1)) rfl fun {x _ _ _ _} _ _ e => congrArg (x :: ·) e
theorem KVR.length {kvs : List (Str × Value)} {l : List (Str × PV)} (h : KVR G V kvs l) : kvs.length = l.length := by
  have := congrArg List.length h.keys; simpa using this
theorem KVR.any {x : Str} {kvs : List (Str × Value)} {l : List (Str × PV)} (h : KVR G V kvs l) : kvs.any (fun p => decide (p.1 = x)) = l.any (fun p => decide (p.1 = x)) := h.ind (P := fun k l => k.any (fun p => decide (p.1 = x)) = l.any (fun p => decide (p.1 = x))) rfl fun {y _ _ _ _} _ _ e => congrArg (decide (y = x) || ·) e
theorem KVR.map {x : Str} {v : Value} {q : PV} (r0 : VR G V v q) {kvs : List (Str × Value)} {l : List (Str × PV)} (h : KVR G V kvs l) : KVR G V (kvs.map fun p => if p.1 = x then (p.1, v) else p) (l.map fun p => if p.1 = x then (p.1, q) else p) :=
  h.ind (P := fun kvs l => KVR G V (kvs.map fun p => if p.1 = x then (p.1, v) else p) (l.map fun p => if p.1 = x then (p.1, q) else p)) .nil fun {y _ _ _ _} r _ ih => by
    rw [List.map_cons, List.map_cons]
    by_cases e : y = x
    · rw [if_pos e, if_pos e]; exact .cons r0 ih
    · rw [if_neg e, if_neg e]; exact .cons r ih
theorem KVR.snoc {x : Str} {v : Value} {q : PV} (r0 : VR G V v q) {kvs : List (Str × Value)} {l : List (Str × PV)} (h : KVR G V kvs l) : KVR G V (kvs ++ [(x, v)]) (l ++ [(x, q)]) := h.ind (P := fun kvs l => KVR G V (kvs ++ [(x, v)]) (l ++ [(x, q)])) (.cons r0 .nil) fun r _ ih => .cons r ih
theorem KVR.stored {x : Str} {v : Value} {q : PV} (r0 : VR G V v q) {kvs : List (Str × Value)} {l : List (Str × PV)} (h : KVR G V kvs l) : KVR G V (stored kvs x v) (putPV l x q) := by
  unfold PySem.stored putPV
  rw [h.any]
  split
  · exact h.map r0
  · exact h.snoc r0
theorem VRd.pairs {es : List DictEntry} {l : List (Str × PV)} (r : VRd G V es l) : ∃ kvs, Pairs (strKind G.prog G.w) es kvs ∧ KVR G V kvs l :=
  r.ind (P := fun es l => ∃ kvs, Pairs (strKind G.prog G.w) es kvs ∧ KVR G V kvs l) ⟨[], .nil, .nil⟩ fun {e es x t q l} e1 e2 r _ ⟨kvs, h1, h2⟩ => ⟨(x, e.val) :: kvs, .cons (by rw [e1]; exact strKind_is G.prog G.w x t) rfl h1, .cons r h2⟩
theorem VRd.dict {a : Addr} {es : List DictEntry} {n : Nat} {l : List (Str × PV)} (e : h.get? a = some (dictOf es n)) (r : VRd G V es l) (hn : (l.map (·.1)).Nodup) : ∃ kvs, h.DictOf (strKind G.prog G.w) a kvs ∧ KVR G V kvs l := by
  obtain ⟨kvs, h1, h2⟩ := r.pairs
  exact ⟨kvs, ⟨_, es.toArray, n, e, ⟨rfl, rfl, rfl⟩, rfl, fun d hd => by
    obtain ⟨x, t, e1, e2⟩ := r.key d (Array.mem_toList_iff.mpr hd)
    exact ⟨x, by rw [e1]; exact strKind_is G.prog G.w x t, e2⟩, h1, by rw [h2.keys]; exact hn⟩, h2⟩
theorem KVR.inv {k : List (Str × Value)} {l : List (Str × PV)} (h : KVR G V k l) : ∀ x v k', k = (x, v) :: k' → ∃ q l', l = (x, q) :: l' ∧ VR G V v q ∧ KVR G V k' l' := h.ind (P := fun k l => ∀ x v k', k = (x, v) :: k' → ∃ q l', l = (x, q) :: l' ∧ VR G V v q ∧ KVR G V k' l') (fun _ _ _ e => nomatch e) fun r rs _ x v k' e => by cases e; exact ⟨_, _, rfl, r, rs⟩
theorem KVR.inv0 {l : List (Str × PV)} (h : KVR G V [] l) : l = [] := List.eq_nil_of_map_eq_nil h.keys.symm
theorem vrd_of {es : List DictEntry} {kvs : List (Str × Value)} (p : Pairs (strKind G.prog G.w) es kvs) : ∀ {l : List (Str × PV)}, (∀ d ∈ es, ∃ k, (strKind G.prog G.w).is k d.key = true ∧ d.hash = (strKind G.prog G.w).hash k) → KVR G V kvs l → VRd G V es l := by
  refine Pairs.rec (motive := fun es kvs _ => ∀ {l : List (Str × PV)}, (∀ d ∈ es, ∃ k, (strKind G.prog G.w).is k d.key = true ∧ d.hash = (strKind G.prog G.w).hash k) → KVR G V kvs l → VRd G V es l) (fun _ h => by rw [h.inv0]; exact .nil) ?_ p
  rintro e ⟨x, v⟩ es kvs h1 h2 hs ih l hk h
  obtain ⟨q, l', rfl, r, rs⟩ := h.inv _ _ _ rfl
  obtain ⟨t, et⟩ := Value.isStrOf_shape h1
  obtain ⟨k, k1, k2⟩ := hk e (.head _)
  obtain ⟨t', et'⟩ := Value.isStrOf_shape k1
  rw [et] at et'
  injection et' with ek
  subst ek
  exact .cons et k2 (by rw [h2]; exact r) (ih (fun d hd => hk d (.tail _ hd)) rs)
theorem DictOf.back {a : Addr} {kvs : List (Str × Value)} {l : List (Str × PV)} (D : h.DictOf (strKind G.prog G.w) a kvs) (r : KVR G V kvs l) : ∃ es n, h.get? a = some (dictOf es n) ∧ VRd G V es l := by
  obtain ⟨o, es, ep, e, ⟨x1, x2, x3⟩, d, hk, hp, _⟩ := D
  obtain ⟨cls, dct, dat, sl⟩ := o
  dsimp only at x1 x2 x3 d
  subst x1 x2 x3 d
  refine ⟨es.toList, ep, by rw [e], vrd_of hp (fun d hd => ?_) r⟩
  exact hk d (Array.mem_toList_iff.mp hd)
noncomputable def updW : List (Str × WV) → Str → WV → List (Str × WV)
  | [], _, _ => []
  | p :: r, f, w => if (f == p.1) = true then (p.1, w) :: r else p :: updW r f w
theorem updW1 {p : Str × WV} {r : List (Str × WV)} {f : Str} {w : WV} : updW (p :: r) f w = if (f == p.1) = true then (p.1, w) :: r else p :: updW r f w := rfl
theorem updW_own {f : Str} {d : Addr} {l l2 : List (Str × PV)} : ∀ {fl : List (Str × WV)}, fl.lookup f = some (.md d l) → (updW fl f (.md d l2)).flatMap (fun p => p.2.own) = fl.flatMap fun p => p.2.own
  | [], e => by simp at e
  | p :: r, e => by
    rw [List.lookup_cons] at e
    rw [updW1]
    by_cases hp : (f == p.1) = true
    · rw [hp] at e
      rw [if_pos hp, List.flatMap_cons, List.flatMap_cons]
      have e' : p.2 = .md d l := Option.some.inj e
      rw [e']; rfl
    · rw [if_neg hp, List.flatMap_cons, List.flatMap_cons]
      rw [Bool.eq_false_iff.mpr hp] at e
      rw [updW_own e]
theorem WRd.find {f : Str} {d : Addr} {l : List (Str × PV)} {es : List DictEntry} {fl : List (Str × WV)} (r : WRd G V h es fl) : fl.lookup f = some (.md d l) → ∃ e es' n, es.find? (fun e => e.key.isStr f) = some e ∧ e.val = .ref d ∧ d ≠ sysModules ∧ h.get? d = some (dictOf es' n) ∧ VRd G V es' l := by
  refine r.ind (P := fun es fl => fl.lookup f = some (.md d l) → ∃ e es' n, es.find? (fun e => e.key.isStr f) = some e ∧ e.val = .ref d ∧ d ≠ sysModules ∧ h.get? d = some (dictOf es' n) ∧ VRd G V es' l) (fun e => nomatch e) (fun {e es y t q l} e1 e2 r rs ih => ?_) (fun {e es es' y t n d l' l} e1 e2 e3 e4 e5 r rs ih => ?_)
  · have k : e.key.isStr f = (f == y) := by rw [e1]; exact str_beq_comm y f
    rw [List.lookup_cons, List.find?_cons, k]
    cases f == y with
    | true => exact fun el => nomatch el
    | false => exact ih
  · have k : e.key.isStr f = (f == y) := by rw [e1]; exact str_beq_comm y f
    rw [List.lookup_cons, List.find?_cons, k]
    cases f == y with
    | true => exact fun el => by cases el; exact ⟨e, _, _, rfl, e3, e4, e5, r⟩
    | false => exact ih
theorem WRd.upd {V' : Addr → Option Obj} {f : Str} {d : Addr} {l l2 : List (Str × PV)} {es2 : List DictEntry} {n2 : Nat} (kV : VLe V V') (kh : ∀ b o, b ≠ d → h.get? b = some o → h'.get? b = some o) (e2 : h'.get? d = some (dictOf es2 n2)) (r2 : VRd G V' es2 l2)
    {es : List DictEntry} {fl : List (Str × WV)} (r : WRd G V h es fl) : fl.lookup f = some (.md d l) → (fl.flatMap fun p => p.2.own).Nodup → WRd G V' h' es (updW fl f (.md d l2)) := by
  refine r.ind (P := fun es fl => fl.lookup f = some (.md d l) → (fl.flatMap fun p : Str × WV => p.2.own).Nodup → WRd G V' h' es (updW fl f (.md d l2))) (fun e => nomatch e) (fun {e es y t q l} e1 e3 r rs ih el hn => ?_) (fun {e es es' y t n d' l' l} e1 e3 e4 e5 e6 r rs ih el hn => ?_)
  · rw [List.lookup_cons] at el
    rw [updW1]
    dsimp only
    cases hx : f == y with
    | true => rw [hx] at el; cases el
    | false =>
      rw [hx] at el
      rw [if_neg (by decide)]
      exact .v e1 e3 (r.mono kV) (ih el hn)
  · rw [List.lookup_cons] at el
    have hn' := List.nodup_cons.mp hn
    rw [updW1]
    dsimp only
    cases hx : f == y with
    | true =>
      rw [hx] at el; cases el
      rw [if_pos rfl]
      exact .md e1 e3 e4 e5 e2 r2 (rs.mono kV fun b hb o eb => kh b o (fun q => hn'.1 (q ▸ hb)) eb)
    | false =>
      rw [hx] at el
      rw [if_neg (by decide)]
      exact .md e1 e3 e4 e5 (kh _ _ (fun q => hn'.1 (q ▸ List.mem_flatMap.mpr ⟨(f, .md d _), mem_of_lookup el, .head _⟩)) e6) (r.mono kV) (ih el hn'.2)
theorem Ex.wset (O : Cx.Ok G c) {x f : Str} {xp fp spos pos : Pos} {key value : Expr} {C a dx d : Addr} {fl : List (Str × WV)} {l : List (Str × PV)} {N : AS → Prop} {R : PV → Prop} {X : List (Str × PV) → Prop} (hl : st.ρ.lookup x = some (.mut (.wld C a dx fl))) (hf : fl.lookup f = some (.md d l)) (hn : (l.map (·.1)).Nodup) (hsz : l.length ≤ 16777215)
    (ha : attrOk G.K C f = true) (h : Ev G c st value fun q => Ev G c st key fun kq => ∃ s, kq = .str s ∧ N (st.put x (.wld C a dx (updW fl f (.md d (putPV l s q)))) st.m)) (hd : autoParam ((x == ("__debug__" : Str)) = false) aDec)
    (he : autoParam (eval (.Attribute (.Name x xp) f fp) c.env = (do
      let o ← eval (.Name x xp) c.env
      standAt fp.atName
      let r ← holding [o] (getAttr o f true)
      letTemporaryGo (.Name x xp) o r
      pure r)) aWu)
    (hs : autoParam (swapsWith value (some (.Subscript (.Attribute (.Name x xp) f fp) key spos)) pos.line c.env = pure false) aRfl) : Ex G c st (.Assign [.Subscript (.Attribute (.Name x xp) f fp) key spos] value pos) N R X := fun h₁ tk S Q' E' zn zr zx =>
  wpAny_Assign_Subscript (h h₁ tk S _ _ fun v q h2 tk2 s2 r2 q2 => by
    have S2 := S.step O s2
    obtain ⟨kx, vx, fx, ⟨ex, es, n, ed, rw0⟩, nx⟩ := S2.mu x _ hl
    refine Attribute_any_ (wpAny_Name (wpAny_loadName_local O.ke kx S2.Nn vx ?_) hd) he
    obtain ⟨e', es', n', g1, g2, g3, g4, g5⟩ := rw0.find hf
    unfold attrOk at ha
    simp only [Bool.and_eq_true, beq_iff_eq] at ha
    refine get_own S2.F O.X ⟨VW.get ex, rfl, rfl, VW.get ed⟩ ha.1.1 ha.1.2 ha.2 rfl (show getL f es = some (some (.ref d)) from by unfold getL; rw [g1]; dsimp only; rw [g2]) rfl ?_
    refine q2 h2 _ S2 _ _ fun kv kq h3 tk3 s3 r3 q3 => ?_
    obtain ⟨s, rfl, hN⟩ := q3
    have S3 := S2.step O s3
    obtain ⟨_, _, fx3, ⟨ex3, es3, n3, ed3, rw3⟩, nx3⟩ := S3.mu x _ hl
    obtain ⟨e3, es4, n4, g1', g2', g3', g4', g5'⟩ := rw3.find hf
    refine r3.ofStr fun t => ?_
    · obtain ⟨kvs, D, KV⟩ := g5'.dict g4' hn
      refine wpAny_setItem_pairs (knd := strKind G.prog G.w) (strKind_is G.prog G.w s t) D (fun h4 D4 hs4 => ?_) (by rw [KV.length, sizeLine_eq]; omega)
      have rv := r2.mono (s3.vle O)
      obtain ⟨es5, n5, e5, r5⟩ := DictOf.back (l := putPV l s q) D4 (KV.stored rv)
      have dm : d ∈ (MK.wld C a dx fl).own := List.mem_flatMap.mpr ⟨(f, .md d l), mem_of_lookup hf, .head _⟩
      obtain ⟨P, K⟩ := S3.upd (h' := h4) (k' := .wld C a dx (updW fl f (.md d (putPV l s q)))) O hl (updW_own hf) rfl (fun b o nb eb => hs4.extBut b o (fun qq => nb (qq ▸ dm)) eb) (fun b hb => by
        by_cases qq : b = d
        · rw [qq]; exact ⟨_, e5⟩
        · obtain ⟨o, eb⟩ := S3.occ b (.inr (.inr ⟨x, _, hl, hb⟩)); exact ⟨o, hs4.extBut b o qq eb⟩)
        (fun V hV => ⟨hV _ _ ex3, es3, n3, hV _ _ ed3, rw3.upd hV (fun b o nb eb => hs4.extBut b o nb eb) e5 (r5.mono hV) hf nx3⟩)
      exact zn _ h4 _ P (((s2.trans s3).kle).trans K) hN) hs
end
end
section
section
variable {G : Gx} {c : Cx} {st : AS} {h h' : Heap}
theorem VRs.take {V : Addr → Option Obj} (k : Nat) {vs : List Value} {l : List PV} (r : VRs G V vs l) : VRs G V (vs.take k) (l.take k) := by
  revert k
  exact r.ind (P := fun vs l => ∀ k, VRs G V (vs.take k) (l.take k)) (fun k => by rw [List.take_nil, List.take_nil]; exact .nil) fun r _ ih k => k.casesOn .nil fun k => .cons r (ih k)
theorem Ev.upto (O : Cx.Ok G c) {value upper : Expr} {sp pos : Pos} {Q : PV → Prop} (h : Ev G c st value fun a => ∃ l, a = .lst l ∧ l.length ≤ 16777216 ∧ Ev G c st upper fun b => ∃ k : Nat, b = .int k ∧ k ≤ l.length ∧ Q (.lst (l.take k)))
    (hs : ∀ o i, ∃ ops, subscripted (.Slice none (some upper) none sp) false o i = operate ops (getItem o i) := by intro o i; exact ⟨_, rfl⟩) : Ev G c st (.Subscript value (.Slice none (some upper) none sp) pos) Q := fun h₁ tk S Q' E' z => by
  refine Subscript_ (h h₁ tk S _ _ fun va a h2 tk2 s2 r2 q2 => ?_)
  obtain ⟨l, rfl, hl, q3⟩ := q2
  have S2 := S.step O s2
  refine wpAny_Slice ?_
  refine evalPart_none_step ?_
  refine evalPart_some_step (q3 h2 tk2 S2 _ _ fun vb b h3 tk3 s3 r3 q4 => ?_)
  obtain ⟨k, rfl, hk, hq⟩ := q4
  have S3 := S2.step O s3
  refine evalPart_none_step ?_
  have rl := r2.mono (s3.vle O)
  refine r3.ofInt fun t => rl.ofLst fun a vs n e rr => ?_
  · · have ll := rr.length
      have s4 := S3.push O ({ cls := .type "slice", data := .fields #[.none, .int k t, .none] } : Obj)
      have S4 := S3.step O s4
      have s5 := S4.push O ({ cls := .type "list", data := .seq (vs.take k).toArray } : Obj)
      have hL : Heap.IsList h3 a vs.toArray := ⟨_, VW.get e, rfl, _, rfl⟩
      obtain ⟨ops, ho⟩ := hs (.ref a) (.ref h3.objs.size)
      refine tail_any (T := "list") ⟨_, Heap.get?_push_of_some _ (VW.get e), rfl⟩ PySem.slot_list_getitem.lookup (wpAny_getItem_list_slice (hL.push _) (Heap.IsSliceOf.new ..) .none (.int k t) .none (by simp) ?_ (by rw [List.size_toArray, ll, sizeLine_eq]; exact hl)) ho
      rw [slicePick_upto vs.toArray k (by rw [List.size_toArray, ll]; exact hk)]
      refine z _ _ _ _ (((s2.trans s3).trans s4).trans s5) (.lst (vs := vs.take k) (n := 0) (S4.vnew rfl) ((rr.take k).mono ((s4.trans s5).vle O))) hq
theorem VRs.strs {V : Addr → Option Obj} {ys : List Str} : ∀ {vs : List Value}, VRs G V vs (ys.map PV.str) → StrsAre vs ys := by
  induction ys with
  | nil => exact fun h => h.ofNil .nil
  | cons y ys ih => exact fun h => h.ofCons fun v vs r rs => r.ofStr (P := fun v => StrsAre (v :: vs) (y :: ys)) fun t => .cons _ _ (ih rs)
theorem meth_count {ys : List Str} {k : Str} {Q : PV → Prop} (hq : Q (.int (PySem.Spec.countIn (.str k) (ys.map PyData.str)))) : OpL G c st (callB "list.count") [.lst (ys.map PV.str), .str k] Q := fun h tk vs S rs Q' E' z =>
  rs.of2 fun v w r1 r2 => r1.ofLst fun a ws n e r => r2.ofStr fun t => count_list_strs ⟨_, VW.get e, rfl, _, rfl⟩ r.strs (z _ _ _ _ S.refl (.int _ _) hq)
theorem meth_join {sep : Str} {ys : List Str} {Q : PV → Prop} (hok : (ys.map (·.length)).sum + ys.length * sep.length ≤ 16777216) (hq : Q (.str (Txt.join sep ys))) : OpL G c st (callB "str.join") [.str sep, .lst (ys.map PV.str)] Q := fun h tk vs S rs Q' E' z =>
  rs.of2 fun v w r1 r2 => r1.ofStr fun t => r2.ofLst fun a ws n e r => join_list ⟨_, VW.get e, rfl, _, rfl⟩ (by simpa using r.strs) hok fun t' k => z _ _ _ _ S.refl (.str _ _) hq
end
end
section
noncomputable def numbered : List PV → List PV := fun l => l.zipIdx.map fun p => .tup [.int (p.2 : Int), p.1]
theorem numbered_get {l : List PV} {i : Nat} {q : PV} (e : (numbered l)[i]? = some q) : ∃ r, l[i]? = some r ∧ q = .tup [.int (i : Int), r] := by
  unfold numbered at e
  rw [List.getElem?_map, List.getElem?_zipIdx] at e
  cases h : l[i]? with
  | none => rw [h] at e; simp at e
  | some r => rw [h] at e; simp at e; exact ⟨r, rfl, e.symm⟩
section
variable {G : Gx} {c : Cx} {st : AS} {h h' : Heap}
theorem It.enum (O : Cx.Ok G c) {elts : List Expr} {kk : Nat} {tpos : Pos} {x : Str} {xp pos : Pos} {e : Expr} {Q : List PV → Prop} (hx : Ev G c st (.Name x xp) fun f => f = .ty "enumerate") (hE : Evs G c st [e] fun qs => ∃ l, qs = [.lst l] ∧ Q (numbered l))
    (hp : autoParam ((backTo pos (starEach [e] c.env)).any (·.1) = false) aRfl) (hh : autoParam (c.hdl = none) aRfl) : It G c st (.Tuple elts kk tpos) (.Call (.Name x xp) [e] [] pos) Q := fun h₁ tk S Q' E' z => by
  rw [eval_CallN]
  refine wpAny_bind (hx h₁ tk S _ _ fun vf f h2 tk2 s2 r2 q2 => ?_)
  subst q2
  have : vf = .type "enumerate" := r2.inv
  subst this
  refine callWith_all hp (hE pos h2 tk2 (S.step O s2) _ _ fun vs qs h3 tk3 s3 r3 q3 => ⟨⟨.machine, .inr (.inl rfl), Looks.of_pure rfl⟩, ?_⟩)
  obtain ⟨l, rfl, hq⟩ := q3
  refine r3.of1 fun v rl => rl.ofLst fun a ws n el rr => ?_
  · · have S3 := (S.step O s2).step O s3
      have hL : Heap.IsList h3 a ws.toArray := ⟨_, VW.get el, rfl, _, rfl⟩
      refine call_enumerate_list hL fun h4 he hi hz k4 => ?_
      have s4 := S3.keepAll O k4
      have alt := Heap.lt_size (VW.get el)
      have hae : a ≠ h3.objs.size + 1 := Nat.ne_of_lt (Nat.lt_succ_of_lt alt)
      have hai : a ≠ h3.objs.size := Nat.ne_of_lt alt
      have hei : h3.objs.size + 1 ≠ h3.objs.size := Nat.succ_ne_self _
      have W := WalksT.enumerate (prog := G.prog) (w := G.w) (A := c.A) hh (h3.objs.size + 1) h3.objs.size a hei hae hai ws.toArray
      have n3 : ∀ b ∈ [h3.objs.size + 1, h3.objs.size], h3.get? b = none := fun b hb => Heap.get?_none_of_le (by simp at hb; rcases hb with rfl | rfl; exact Nat.le_succ _; exact Nat.le_refl _)
      have fr : ∀ b ∈ [h3.objs.size + 1, h3.objs.size], h₁.get? b = none := fun b hb => (s2.trans s3).fresh (n3 b hb)
      have hL4 : Heap.IsList h4 a ws.toArray := hL.at fun o e => k4 _ o e
      have V0a : view (fun b => Hid c st b ∨ b ∈ [h3.objs.size + 1, h3.objs.size]) h4 a = some (listOf ws.toArray n) := view_some.mpr ⟨fun q => q.elim (VW.old el) fun q => (by simp at q; rcases q with q | q; exact hae q; exact hai q), k4 _ _ (VW.get el)⟩
      have wo : ∀ (i : Nat) (h : Heap), (∃ old, IsEnum h (h3.objs.size + 1) h3.objs.size i old) ∧ h.IsListIter h3.objs.size a i ∧ h.IsList a ws.toArray → WO [h3.objs.size + 1, h3.objs.size] h := fun i h s b hb => by
        obtain ⟨⟨old, e1⟩, ⟨o2, e2, e3, _⟩, _⟩ := s
        simp at hb
        rcases hb with rfl | rfl
        · exact ⟨_, e1, by simp⟩
        · exact ⟨o2, e2, by rw [e3]; simp⟩
      refine W.self 0 _ _ _ ⟨⟨_, he⟩, hi, hL4⟩ ?_
      refine z (h3.objs.size + 1) [h3.objs.size + 1, h3.objs.size] (numbered l) (fun (i : Nat) h => (∃ old, IsEnum h (h3.objs.size + 1) h3.objs.size i old) ∧ h.IsListIter h3.objs.size a i ∧ h.IsList a ws.toArray)
        (fun i v h => ∃ x T, v = .ref T ∧ IsEnumOut h (h3.objs.size + 1) h3.objs.size ((i : Int) + 1) x T ∧ h.IsListIter h3.objs.size a (i + 1) ∧ h.IsList a ws.toArray) h4 tk3 ((s2.trans s3).trans s4) fr (wo 0 h4 ⟨⟨_, he⟩, hi, hL4⟩) ?_ ⟨⟨_, he⟩, hi, hL4⟩ hq
      refine ⟨fun i g g' s k => ?_, fun i g tkg q hq s H hocc hH hV Q E k => ?_, fun i v g tkg md Q E k => ?_, fun _ g tkg s Q E k => ?_, fun i g tkg s Q E k => W.self i _ _ _ s k⟩
      · exact W.frame i g g' s fun b hb o e => k b o (by
          simp at hb
          rcases hb with rfl | rfl | rfl
          · exact .inl (.head _)
          · exact .inl (.tail _ (.head _))
          · exact .inr ⟨_, V0a⟩) e
      · obtain ⟨r, er, rfl⟩ := numbered_get hq
        obtain ⟨⟨old, e1⟩, e2, e3⟩ := s
        obtain ⟨v, ev, rv⟩ := rr.get er
        refine wpAny_pyNext_enum_item e1 e2 e3 (x := v) (by simpa using ev) hei fun g' o1 o2 o3 o4 o5 => ?_
        have b : But [h3.objs.size + 1, h3.objs.size] g g' := ⟨fun b o nb e => o5 b o (fun q => nb (q ▸ .head _)) (fun q => nb (q ▸ .tail _ (.head _))) e, fun b hb => by
          simp at hb
          rcases hb with rfl | rfl
          · exact ⟨_, o1, by simp⟩
          · obtain ⟨o, q1, q2, _⟩ := o2; exact ⟨o, q1, by rw [q2]; simp⟩⟩
        have VV : VLe (VW c st h3) (view H g) := (VLe.trans (fun b o e => by
          rw [view_some] at e ⊢
          refine ⟨fun q => q.elim e.1 fun q => ?_, k4 _ _ e.2⟩
          rw [n3 b q] at e; cases e.2) hV)
        refine k (.ref g.objs.size) g' (tkg + 1) b (.tup (vs := [.int (i : Int) tkg, v]) (n := 0) (view_some.mpr ⟨fun q => ?_, o3⟩) (.cons (.int _ _) (.cons ((rv.mono VV).but b hH) .nil))) ⟨v, g.objs.size, rfl, o1, o2, e3.at fun o e => o5 a o hae hai e⟩
        obtain ⟨o, e⟩ := hocc _ q
        exact absurd (Heap.lt_size e) (Nat.lt_irrefl _)
      · obtain ⟨x, T, rfl, m1, m2, m3⟩ := md
        refine wpAny_letOwnedTupleGo_enum m1 fun g' e1 e2 => k g' tkg ⟨fun b o nb e => e2.extBut b o (fun q => nb (q ▸ .head _)) e, fun b hb => ?_⟩ ⟨⟨x, by simpa using e1⟩, m2.at fun o e => e2.extBut _ o (Ne.symm hei) e, m3.at fun o e => e2.extBut _ o hae e⟩
        simp at hb
        rcases hb with rfl | rfl
        · exact ⟨_, e1, by simp⟩
        · obtain ⟨o, q1, q2, _⟩ := m2; exact ⟨o, e2.extBut _ o (Ne.symm hei) q1, by rw [q2]; simp⟩
      · have hl : (numbered l).length = ws.toArray.size := by simp [numbered, rr.length]
        rw [hl] at s
        exact W.done _ _ _ s fun g' tk' kk => k g' tk' kk
end
end
section
section
variable {G : Gx} {c : Cx} {st : AS} {h h' : Heap}
theorem KVR.get {V : Addr → Option Obj} {kvs : List (Str × Value)} {l : List (Str × PV)} (h : KVR G V kvs l) : ∀ {i : Nat} {p : Str × PV}, l[i]? = some p → ∃ v, kvs[i]? = some (p.1, v) ∧ VR G V v p.2 :=
  h.ind (P := fun kvs l => ∀ {i : Nat} {p : Str × PV}, l[i]? = some p → ∃ v, kvs[i]? = some (p.1, v) ∧ VR G V v p.2) (fun e => nomatch e) fun r _ ih i p => i.casesOn (fun e => by cases Option.some.inj e; exact ⟨_, rfl, r⟩) fun _ e => ih e
theorem It.keys (O : Cx.Ok G c) {target iter : Expr} {Q : List PV → Prop} (hE : Ev G c st iter fun q => ∃ l, q = .dct l ∧ (l.map (·.1)).Nodup ∧ Q (l.map fun p => .str p.1)) (hh : autoParam (c.hdl = none) aRfl) : It G c st target iter Q := fun h tk S Q' E' z => by
  refine hE h tk S _ _ fun v q h1 tk1 s1 r1 q1 => ?_
  obtain ⟨l, rfl, hn, ql⟩ := q1
  refine r1.ofDct fun d es n ne e r => ?_
  · have S1 := S.step O s1
    obtain ⟨kvs, D, KV⟩ := VRd.dict (G := G) (VW.get e) r hn
    obtain ⟨o, es', ep, g1, g2⟩ := D
    have D1 : h1.DictAt (strKind G.prog G.w) d kvs ep := ⟨o, es', g1, g2⟩
    have hne : d ≠ h1.objs.size := Nat.ne_of_lt (Heap.lt_size (VW.get e))
    refine wpAny_pyIter_dict (beq_eq_false_iff_ne.mpr ne) D1 ?_
    have V := view_new (c := c) (st := st) (o := { cls := .type "dict_keyiterator", data := .fields #[.ref d, .int 0 0, .int kvs.length 0, .int ep 0] }) (new_none h1)
    have e0 := Heap.get?_push_size h1 (o := { cls := .type "dict_keyiterator", data := .fields #[.ref d, .int 0 0, .int kvs.length 0, .int ep 0] }) rfl
    refine z h1.objs.size [h1.objs.size] (l.map fun p => .str p.1) (fun i h => h.IsKeyIter h1.objs.size d i kvs.length ep ∧ h.DictAt (strKind G.prog G.w) d kvs ep) _ _ tk1 (s1.trans (S1.push O _)) (fun b hb => s1.fresh (new_none h1 b hb)) ?_ (Itr.ofWalks (Walks.dictKeys hh h1.objs.size d hne kvs ep) (by rw [List.length_map]; exact KV.length) ?_ ?_ ?_ ?_) ⟨⟨_, e0, rfl, rfl⟩, D1.at' fun o eo => Heap.get?_push_of_some _ eo⟩ ql
    · intro b hb; rw [List.mem_singleton.mp hb]; exact ⟨_, e0, by simp⟩
    · intro b hb
      rcases List.mem_cons.mp hb with rfl | hb
      · exact .inl (.head _)
      · rw [List.mem_singleton.mp hb]; exact .inr ⟨_, V _ _ e⟩
    · intro i v q hq p H h hv
      obtain ⟨k, x, hk, hi⟩ := p
      rw [List.getElem?_map] at hq
      cases hl : l[i]? with
      | none => rw [hl] at hq; cases hq
      | some p =>
        rw [hl] at hq; cases hq
        obtain ⟨v', hv', _⟩ := KV.get hl
        rw [hk] at hv'
        have hk2 : k = p.1 := by cases hv'; rfl
        obtain ⟨t, rfl⟩ := Value.isStrOf_shape hi
        rw [hk2]; exact .str _ _
    · intro i h sg b hb
      rw [List.mem_singleton.mp hb]
      obtain ⟨⟨o, e1, e2, _⟩, _⟩ := sg
      exact ⟨o, e1, by rw [e2]; simp⟩
    · intro i v h tk Q E sg q
      obtain ⟨o, e1, e2, e3⟩ := sg.1
      exact letgo_it ⟨o, e1, e2, e3⟩ (by decide) q
theorem Ev.dict0 (O : Cx.Ok G c) {pos : Pos} {Q : PV → Prop} (hb : ∀ h, St G c st h → sysModules < h.objs.size) (q : Q (.dct [])) : Ev G c st (.Dict [] [] pos) Q := fun h tk S Q' E' z =>
  wpAny_Dict_empty (z _ _ _ _ (S.push O _) (.dct (es := []) (n := 0) (fun q => absurd (hb h S) (by rw [q]; exact Nat.lt_irrefl _)) (S.vnew rfl) .nil) q)
end
end
end
section
open PySem
theorem miss_list {prog : Program} {w : World} {A : Around} {E : Value → Shared → Prop} {s : Shared} {a : Addr} {xs : Array Value} {k : Nat} {sl : Array (Option Value)} {name : Str} {Q : Option Value → Shared → Prop}
    (hx : s.heap.get? a = some { cls := .type "list", dict := none, data := .seq xs k, slots := sl }) (hmiss : typeLookup (.type "list") name = pure none) (hname : (["__module__", "__name__", "__qualname__", "__doc__", "__annotations__"] : List Str).contains name = false) (hA : A.handled = none)
    (h : ∀ h' tk, (∀ b o, s.heap.get? b = some o → h'.get? b = some o) → Q none { s with heap := h', toks := tk }) (hsz : autoParam (name.length + 100 ≤ sizeLine) aFit) :
    wpAny (model prog w) A (getAttr? (.ref a) name) Q E s := by
  obtain ⟨hp, g, d, tk, os⟩ := s
  have hT : ∀ tk', (⟨hp, g, d, tk', os⟩ : Shared).TypeIs (.ref a) "list" := fun _ => ⟨_, hx, rfl⟩
  have f1 := sub_AttributeError
  have f3 := F.slot_list_getattribute.lookup
  have f4 := F.slot_list_getattribute.bind (.ref a)
  have f5 := am_list_getattr_none
  unfold getAttr? getAttrBy? getAttrBy
  repeat (any_goals (first | assumption | exact hT _ | ((with_reducible show wpAny _ _ (call (Value.builtin "list.__getattribute__") _ _) _ _ _); refine call_meets F.slot_list_getattribute (hT _) am_entry_list_getattribute (F.args_list_getattribute_2 _ _) (meets_getattribute_miss_list a xs k sl name _ hmiss hname hsz) ⟨hx, hA, fun h' tk' e hx' => ?_⟩) | wp_step))
  obtain ⟨t', u', he⟩ := hx'.there
  show wpAny _ _ (getattributeRaised _ _ _ _ _ _ _) _ _ _
  unfold getattributeRaised
  repeat (any_goals (first | assumption | wp_step))
  exact h _ _ hx'.of.keeps
end
section
open PySem PySem.W PySem.Calls PyProof.Rows
section
inductive PairsAt (h : Heap) : List Value → List (Str × Value) → Prop
  | nil : PairsAt h [] []
  | cons {T : Addr} {k : Str} {t : Tok} {v : Value} {n : Nat} {ws : List Value} {ps : List (Str × Value)} : h.get? T = some (tupOf [.str k t, v].toArray n) → PairsAt h ws ps → PairsAt h (.ref T :: ws) ((k, v) :: ps)
theorem PairsAt.keep {h h' : Heap} {d : Addr} (kp : ∀ b o, b ≠ d → h.get? b = some o → h'.get? b = some o) (hd : ∀ T t n k v, h.get? T = some (tupOf [.str k t, v].toArray n) → T ≠ d) {ws : List Value} {ps : List (Str × Value)} (p : PairsAt h ws ps) : PairsAt h' ws ps :=
  PairsAt.rec (motive := fun ws ps _ => PairsAt h' ws ps) .nil (fun e _ r => .cons (kp _ _ (hd _ _ _ _ _ e) e) r) p
noncomputable def storeAll (acc : List (Str × Value)) (ps : List (Str × Value)) : List (Str × Value) := ps.foldl (fun a p => stored a p.1 p.2) acc
theorem entry_upd : entryFor table "dict.update.loop" = some Builtin.«dict.update.loop» := entryFor_of_tree (by kernel_rfl)
theorem plain_upd : plainId "dict.update.loop" = true := by decide +kernel
theorem stored_len (acc : List (Str × Value)) (k : Str) (v : Value) : (stored acc k v).length ≤ acc.length + 1 := by
  unfold stored
  split
  · simp
  · simp
theorem upd_loop {prog : Program} {w : World} {A : Around} {d I a : Addr} {ws : List Value} (hh : A.handled = none) (hdI : d ≠ I) (hda : d ≠ a) (hIa : a ≠ I) : ∀ (ps : List (Str × Value)) (i : Nat) (acc : List (Str × Value)) (s : Shared) (R : Result → Shared → Prop), i + ps.length = ws.length → PairsAt s.heap (ws.drop i) ps →
    s.heap.IsListIter I a i → s.heap.IsList a ws.toArray → s.heap.DictOf (strKind prog w) d acc → acc.length + ps.length ≤ 16777216 →
    (∀ h' tk, h'.DictOf (strKind prog w) d (storeAll acc ps) → (∀ b o, b ≠ d → b ≠ I → s.heap.get? b = some o → h'.get? b = some o) → R (.ok (.ret .none)) { s with heap := h', toks := tk }) →
    codeAny (model prog w) A (.builtin "dict.update.loop" ⟨[.ref d, .ref I, rawInt i, .none], []⟩) R s
  | [], i, acc, s, R, hi, hp, hit, hl, hD, hz, k => by
    refine codeAny_builtin entry_upd ?_
    rw [Around.under_plainId plain_upd]
    unfold Builtin.«dict.update.loop»
    show wpAny _ _ (pyNext (.ref I) >>= _) _ _ _
    refine wpAny_bind (wpAny_pyNext_list_end (A := A.in1) hh hit hl (by simp at hi; simp [hi]) fun h' he => ?_)
    show wpAny _ _ (Builtin.Dict.addKeywords d [] >>= _) _ _ _
    refine wpAny_bind (wpAny_pure (wpAny_pure ?_))
    exact k h' _ (hD.extBut he hdI) fun b o _ n e => he b o n e
  | (key, v) :: ps, i, acc, s, R, hi, hp, hit, hl, hD, hz, k => by
    refine codeAny_builtin entry_upd ?_
    rw [Around.under_plainId plain_upd]
    unfold Builtin.«dict.update.loop»
    generalize hw : ws.drop i = wd at hp
    cases hp with
    | @cons T _ t _ n ws' _ e r =>
      have w0 : ws[i]? = some (.ref T) := by
        have := congrArg (fun l : List Value => l[0]?) hw
        simpa using this
      have w1 : ws.drop (i + 1) = ws' := by
        have := congrArg List.tail hw
        simpa using this
      show wpAny _ _ (pyNext (.ref I) >>= _) _ _ _
      refine wpAny_bind (wpAny_pyNext_list_item hit hl (by simpa using w0) fun h1 hit1 hs1 => ?_)
      have notI : ∀ T t n k v, s.heap.get? T = some (tupOf [.str k t, v].toArray n) → T ≠ I := fun T t n k v e q => by
        obtain ⟨o, e1, e2, _⟩ := hit
        rw [q, e1] at e; cases e; simp at e2
      have e1 : h1.get? T = some (tupOf [.str key t, v].toArray n) := hs1.extBut _ _ (notI _ _ _ _ _ e) e
      have D1 : h1.DictOf (strKind prog w) d acc := hD.extBut hs1.extBut hdI
      refine wpAny_bind (wpAny_holding (wpAny_bind (wpAny_tryCatch ?_)))
      unfold Builtin.Dict.pairItems
      refine wpAny_bind (wpAny_typeOf (T := "tuple") ⟨_, e1, rfl⟩ ?_)
      rw [if_pos (by decide)]
      refine wpAny_bind (wpAny_seqItems e1 rfl (wpAny_pure ?_))
      show wpAny _ _ (holding [.str key t, v] (dictSet d (.str key t) v)) _ _ _
      refine wpAny_holding (wpAny_dictSet_pairs (knd := strKind prog w) (strKind_is prog w key t) D1 (fun h2 D2 hs2 => ?_) (by rw [sizeLine_eq]; simp at hz; omega))
      refine wpAny_pure ⟨plainId_quiet plain_upd _, ?_⟩
      have notd : ∀ T t n k v, h1.get? T = some (tupOf [.str k t, v].toArray n) → T ≠ d := fun T t n k v e q => by
        obtain ⟨o, _, _, e1, ⟨e2, _⟩, _⟩ := D1
        rw [q, e1] at e; cases e; simp at e2
      have r1 := (r.keep (h' := h1) (d := I) (fun b o nb eb => hs1.extBut b o nb eb) notI).keep (h' := h2) (d := d) (fun b o nb eb => hs2.extBut b o nb eb) notd
      refine upd_loop hh hdI hda hIa ps (i + 1) (stored acc key v) _ R (by simp at hi ⊢; omega) (w1 ▸ r1) (hit1.at fun o eo => hs2.extBut _ o (Ne.symm hdI) eo) ((hl.at fun o eo => hs1.extBut _ o hIa eo).at fun o eo => hs2.extBut _ o (Ne.symm hda) eo) D2 (by have := stored_len acc key v; simp at hz; omega) fun h3 tk D3 k3 => k h3 tk D3 fun b o n1 n2 eb => k3 b o n1 n2 (hs2.extBut b o n1 (hs1.extBut b o n2 eb))
theorem keys_miss_list : typeLookup (.type "list") "keys" = pure none := by rw [typeLookup_type, builtinLookup_eq_fast]; kernel_rfl
theorem call_dict_pairs {prog : Program} {w : World} {A : Around} {E : Value → Shared → Prop} {s : Shared} {a : Addr} {ws : List Value} {n : Nat} {ps : List (Str × Value)} {Q : Value → Shared → Prop} (hh : A.handled = none) (ha : s.heap.get? a = some (listOf ws.toArray n)) (hp : PairsAt s.heap ws ps) (hlen : ps.length = ws.length) (hz : ps.length ≤ 16777216)
    (h : ∀ h' tk, h'.DictOf (strKind prog w) s.heap.objs.size (storeAll [] ps) → (∀ b o, s.heap.get? b = some o → h'.get? b = some o) → Q (.ref s.heap.objs.size) { s with heap := h', toks := tk }) :
    wpAny (model prog w) A (call (.type "dict") [.ref a]) Q E s := by
  refine callType_codes (Q₁ := fun obj s₁ => obj = .ref s.heap.objs.size ∧ s₁ = { s with heap := s.heap.push { cls := .type "dict", data := .dict #[] } }) PySem.F.kt_called_dict (PySem.F.kt_typeCall_dict_1 _) PySem.F.entry_dict_init (PySem.kt_code_dict_new _ ⟨rfl, rfl⟩) ?_
  rintro obj s₁ ⟨rfl, rfl⟩
  have hnew : (s.heap.push { cls := .type "dict", data := .dict #[] }).DictOf (strKind prog w) s.heap.objs.size [] := Heap.DictOf.new s.heap
  have lt := Heap.lt_size ha
  have ha1 := Heap.get?_push_of_some ({ cls := .type "dict", data := .dict #[] } : Obj) ha
  refine ⟨hnew.typeIs, PySem.F.args_dict_init_2 _ _, ?_⟩
  unfold Builtin.«dict.__init__»
  refine wpAny_bind ?_
  unfold Builtin.Dict.selfAndRest
  refine wpAny_bind (wpAny_notOrdered_dict hnew.typeIs ?_)
  show wpAny _ _ (pure (s.heap.objs.size, [Value.ref a])) _ _ _
  refine wpAny_pure ?_
  show wpAny _ _ (Builtin.Dict.updateFrom "dict.__init__" s.heap.objs.size (.ref a) [] .none) _ _ _
  unfold Builtin.Dict.updateFrom
  refine wpAny_bind (wpAny_typeOf (T := "list") ⟨_, ha1, rfl⟩ ?_)
  rw [if_pos (by decide)]
  refine wpAny_bind (miss_list ha1 keys_miss_list (by decide) hh (fun h2 tk k2 => ?_))
  rw [if_pos (by rfl)]
  refine wpAny_bind (wpAny_rule ?_)
  have ha2 := k2 _ _ ha1
  refine wpAny_bind (wpAny_pyIter_list ⟨_, ha2, rfl, _, rfl⟩ ?_)
  refine wpAny_bind (wpAny_pure ?_)
  refine wpAny_pure ⟨plainId_quiet plain_upd _, ?_⟩
  have k3 : ∀ b o, s.heap.get? b = some o → (h2.push { cls := Value.type "list_iterator", data := Data.fields #[Value.ref a, Value.int 0 0] }).get? b = some o := fun b o e => Heap.get?_push_of_some _ (k2 _ _ (Heap.get?_push_of_some _ e))
  have D2 : (h2.push { cls := Value.type "list_iterator", data := Data.fields #[Value.ref a, Value.int 0 0] }).DictOf (strKind prog w) s.heap.objs.size [] := (hnew.keep k2).push _
  have ha3 := k3 _ _ ha
  have aI : a ≠ h2.objs.size := Nat.ne_of_lt (Heap.lt_size ha2)
  have dI : s.heap.objs.size ≠ h2.objs.size := by
    have : (s.heap.push { cls := .type "dict", data := .dict #[] }).get? s.heap.objs.size = some { cls := .type "dict", data := .dict #[] } := Heap.get?_push_size _ rfl
    exact Nat.ne_of_lt (Heap.lt_size (k2 _ _ this))
  have notOld : ∀ T t n k v, s.heap.get? T = some (tupOf [.str k t, v].toArray n) → T ≠ s.heap.objs.size := fun T t n k v e => Nat.ne_of_lt (Heap.lt_size e)
  have hp3 := hp.keep (d := s.heap.objs.size) (h' := h2.push { cls := Value.type "list_iterator", data := Data.fields #[Value.ref a, Value.int 0 0] }) (fun b o _ e => k3 b o e) notOld
  refine upd_loop (A := A.in1) (ws := ws) (s := { s with heap := h2.push { cls := Value.type "list_iterator", data := Data.fields #[Value.ref a, Value.int 0 0] }, toks := tk }) hh dI (Nat.ne_of_gt lt) aI ps 0 [] _ (by simp [hlen]) (by simpa using hp3) ⟨_, Heap.get?_push_size _ rfl, rfl, rfl⟩ ⟨_, ha3, rfl, _, rfl⟩ D2 (by simpa using hz) fun h4 tk4 D4 k4 => ?_
  refine ⟨rfl, h h4 tk4 D4 fun b o e => k4 b o (Nat.ne_of_lt (Heap.lt_size e)) ?_ (k3 b o e)⟩
  exact Nat.ne_of_lt (Heap.lt_size (k2 _ _ (Heap.get?_push_of_some _ e)))
end
section
inductive PrP : List PV → List (Str × PV) → Prop
  | nil : PrP [] []
  | cons {x : Str} {q : PV} {l : List PV} {ps : List (Str × PV)} : PrP l ps → PrP (.tup [.str x, q] :: l) ((x, q) :: ps)
noncomputable def putAll (acc ps : List (Str × PV)) : List (Str × PV) := ps.foldl (fun a p => putPV a p.1 p.2) acc
theorem PrP.ind {P : List PV → List (Str × PV) → Prop} (h0 : P [] []) (h1 : ∀ {x q l ps}, PrP l ps → P l ps → P (.tup [.str x, q] :: l) ((x, q) :: ps)) {l : List PV} {ps : List (Str × PV)} (h : PrP l ps) : P l ps := PrP.rec (motive := fun l ps _ => P l ps) h0 (fun h ih => h1 h ih) h
theorem PrP.length {l : List PV} {ps : List (Str × PV)} (h : PrP l ps) : l.length = ps.length := h.ind (P := fun l ps => l.length = ps.length) rfl fun _ e => congrArg (· + 1) e
theorem PrP.map {α : Type} (f : α → Str) (g : α → PV) : ∀ (xs : List α), PrP (xs.map fun x => .tup [.str (f x), g x]) (xs.map fun x => (f x, g x))
  | [] => .nil
  | x :: xs => .cons (PrP.map f g xs)
section
variable {G : Gx} {c : Cx} {st : AS} {h h' : Heap} {V : Addr → Option Obj}
theorem KVR.storedAll {kvs : List (Str × Value)} {ps : List (Str × PV)} (h : KVR G V kvs ps) : ∀ {acc : List (Str × Value)} {l : List (Str × PV)}, KVR G V acc l → KVR G V (storeAll acc kvs) (putAll l ps) :=
  h.ind (P := fun kvs ps => ∀ {acc : List (Str × Value)} {l : List (Str × PV)}, KVR G V acc l → KVR G V (storeAll acc kvs) (putAll l ps)) (fun a => a) fun r _ ih _ _ a => ih (a.stored r)
theorem pairsAt_of {l : List PV} {ps : List (Str × PV)} (p : PrP l ps) : ∀ {ws : List Value}, VRs G (VW c st h) ws l → ∃ kvs, PairsAt h ws kvs ∧ KVR G (VW c st h) kvs ps :=
  p.ind (P := fun l ps => ∀ {ws : List Value}, VRs G (VW c st h) ws l → ∃ kvs, PairsAt h ws kvs ∧ KVR G (VW c st h) kvs ps) (fun r => r.ofNil ⟨[], .nil, .nil⟩) fun {x q l ps} _ ih ws r => r.ofCons fun v ws r rs => by
    obtain ⟨kvs, P, K⟩ := ih rs
    exact r.ofTup (P := fun v => ∃ kvs, PairsAt h (v :: ws) kvs ∧ KVR G (VW c st h) kvs ((x, q) :: ps)) fun a vs n e rr => by
      revert e
      exact rr.of2 fun v1 v2 r1 r2 => r1.ofStr fun t e => ⟨_, .cons (VW.get e) P, .cons r2 K⟩
theorem call_dict_lst (O : Cx.Ok G c) {l : List PV} {ps : List (Str × PV)} {Q : PV → Prop} (hp : PrP l ps) (hl : l.length ≤ 16777216) (hb : ∀ h, St G c st h → sysModules < h.objs.size) (hh : c.hdl = none) (q : Q (.dct (putAll [] ps))) : OpL G c st callL [.ty "dict", .lst l] Q := .ty1 fun h tk v S r' Q' E' z => by
  refine r'.ofLst fun a vs n e rr => ?_
  · · · obtain ⟨kvs, P, KV⟩ := pairsAt_of hp rr
        have len : kvs.length = vs.length := by rw [KV.length, ← hp.length, rr.length]
        refine call_dict_pairs hh (VW.get e) P len (by rw [len, rr.length]; exact hl) (fun h1 tk1 D k1 => ?_)
        have s1 := S.keepAll O k1
        obtain ⟨es, n', e1, r1⟩ := DictOf.back D ((KV.mono (s1.vle O)).storedAll .nil)
        exact z _ _ _ _ s1 (.dct (fun q => absurd (hb h S) (by rw [← q]; exact Nat.lt_irrefl _)) (view_some.mpr ⟨fresh_hid S, e1⟩) r1) q
end
end
end
section
open PySem
theorem mm0 {a : Addr} {l : List Addr} : a ∈ a :: l := .head _
theorem mm1 {a b : Addr} {l : List Addr} : a ∈ b :: a :: l := .tail _ mm0
theorem mm2 {a b c : Addr} {l : List Addr} : a ∈ b :: c :: a :: l := .tail _ mm1
theorem mm3 {a b c d : Addr} {l : List Addr} : a ∈ b :: c :: d :: a :: l := .tail _ mm2
theorem mm4 {a b c d e : Addr} {l : List Addr} : a ∈ b :: c :: d :: e :: a :: l := .tail _ mm3
theorem mm5 {a b c d e f : Addr} {l : List Addr} : a ∈ b :: c :: d :: e :: f :: a :: l := .tail _ mm4
theorem mm6 {a b c d e f g : Addr} {l : List Addr} : a ∈ b :: c :: d :: e :: f :: g :: a :: l := .tail _ mm5
theorem nn0 {x a : Addr} {l : List Addr} (n : x ∉ a :: l) : x ≠ a := fun q => n (q ▸ mm0)
theorem nn1 {x a b : Addr} {l : List Addr} (n : x ∉ a :: b :: l) : x ≠ b := fun q => n (q ▸ mm1)
theorem nn2 {x a b c : Addr} {l : List Addr} (n : x ∉ a :: b :: c :: l) : x ≠ c := fun q => n (q ▸ mm2)
theorem nn3 {x a b c d : Addr} {l : List Addr} (n : x ∉ a :: b :: c :: d :: l) : x ≠ d := fun q => n (q ▸ mm3)
theorem memC {P : Addr → Prop} {a : Addr} {l : List Addr} (h : P a) (hl : ∀ x ∈ l, P x) : ∀ x ∈ a :: l, P x := List.forall_mem_cons.mpr ⟨h, hl⟩
theorem memN {P : Addr → Prop} : ∀ x ∈ ([] : List Addr), P x := fun _ h => nomatch h
theorem mem4 {P : Addr → Prop} {a b c d : Addr} (h1 : P a) (h2 : P b) (h3 : P c) (h4 : P d) : ∀ x ∈ [a, b, c, d], P x := memC h1 (memC h2 (memC h3 (memC h4 memN)))
theorem mem5 {P : Addr → Prop} {a b c d e : Addr} (h1 : P a) (h2 : P b) (h3 : P c) (h4 : P d) (h5 : P e) : ∀ x ∈ [a, b, c, d, e], P x := memC h1 (mem4 h2 h3 h4 h5)
theorem mem7 {P : Addr → Prop} {a b c d e f g : Addr} (h1 : P a) (h2 : P b) (h3 : P c) (h4 : P d) (h5 : P e) (h6 : P f) (h7 : P g) : ∀ x ∈ [a, b, c, d, e, f, g], P x := memC h1 (memC h2 (mem5 h3 h4 h5 h6 h7))
noncomputable def sqT : Bool → String
  | true => "tuple"
  | false => "list"
noncomputable def sqI : Bool → String
  | true => "tuple_iterator"
  | false => "list_iterator"
noncomputable def SqIt (h : Heap) (b : Bool) (it l : Addr) (i : Nat) : Prop := ∃ o, h.get? it = some o ∧ o.cls = .type (sqI b) ∧ o.data = .fields #[.ref l, .int i 0]
noncomputable def SqOf (h : Heap) (b : Bool) (l : Addr) (xs : Array Value) : Prop := ∃ o, h.get? l = some o ∧ o.cls = .type (sqT b) ∧ ∃ n, o.data = .seq xs n
theorem SqIt.at {h h' : Heap} {b : Bool} {it l : Addr} {i : Nat} (x : SqIt h b it l i) (k : ∀ o, h.get? it = some o → h'.get? it = some o) : SqIt h' b it l i := let ⟨o, e, r⟩ := x; ⟨o, k o e, r⟩
theorem SqOf.at {h h' : Heap} {b : Bool} {l : Addr} {xs : Array Value} (x : SqOf h b l xs) (k : ∀ o, h.get? l = some o → h'.get? l = some o) : SqOf h' b l xs := let ⟨o, e, r⟩ := x; ⟨o, k o e, r⟩
section
variable {prog : Program} {w : World} {A : Around} {E : Value → Shared → Prop} {s : Shared}
theorem sq_iter {b : Bool} {l : Addr} {xs : Array Value} {Q : Value → Shared → Prop} (h : SqOf s.heap b l xs) (hQ : Q (.ref s.heap.objs.size) { s with heap := s.heap.push { cls := .type (sqI b), data := .fields #[.ref l, .int 0 0] } }) :
    wpAny (model prog w) A (pyIter (.ref l)) Q E s := by
  cases b with
  | true => exact wpAny_pyIter_tuple h hQ
  | false => exact wpAny_pyIter_list h hQ
theorem sq_nextOf_item {b : Bool} {it l : Addr} {i : Nat} {xs : Array Value} {x : Value} {Q : Value → Shared → Prop} (hit : SqIt s.heap b it l i) (hl : SqOf s.heap b l xs) (hx : xs[i]? = some x)
    (hQ : ∀ h', SqIt h' b it l (i + 1) → Heap.SameBut it s.heap h' → Q x { s with heap := h' }) : wpAny (model prog w) A (Builtin.SmallTypes.nextOf (.ref it)) Q E s := by
  cases b with
  | false => exact wpAny_nextOf_list_item hit hl hx hQ
  | true =>
    have hit' : s.heap.IsTupleIter it l i := hit
    obtain ⟨o, ho, hc, hd⟩ := id hit
    obtain ⟨ol, hol, _, nl, hdl⟩ := hl
    unfold Builtin.SmallTypes.nextOf
    refine wpAny_bind (wpAny_callSpecial?_slot (name := Str.ofString "__next__") hit'.typeIs F.slot_tuple_iterator_next
      (wpAny_call_entry F.slot_tuple_iterator_next hit'.typeIs F.entry_tuple_iterator_next ?_ (F.args_tuple_iterator_next_1 _)))
    show wpAny _ _ (field (.ref it) 0 >>= _) _ _ s
    refine wpAny_bind (wpAny_field ho hd (x := .ref l) rfl ?_)
    show wpAny _ _ (if (Value.ref l == Value.none) = true then _ else _) _ _ s
    rw [if_neg (show ¬ ((Value.ref l == Value.none) = true) from Bool.false_ne_true)]
    show wpAny _ _ (field (.ref it) 1 >>= _) _ _ s
    refine wpAny_bind (wpAny_field ho hd (x := .int i 0) rfl ?_)
    show wpAny _ _ (seqItems? (.ref l) >>= _) _ _ s
    refine wpAny_bind (wpAny_seqItems hol hdl ?_)
    simp only [Int.toNat_natCast, hx]
    refine wpAny_bind (wpAny_setField ho hd (by simp) (wpAny_pure ⟨x, rfl, wpAny_pure (hQ _ ?_ (Heap.SameBut.update ..))⟩))
    exact ⟨_, Heap.get?_update_self _ ho (Obj.isFreed_of_fields (Obj.data_mapFields hd _)), (Obj.cls_mapFields ..).trans hc, by
      rw [Obj.data_mapFields hd]; simp [rawInt]⟩
theorem sq_nextOf_end {b : Bool} {it l : Addr} {i : Nat} {xs : Array Value} {Q : Value → Shared → Prop} (hh : A.handled = none) (hit : SqIt s.heap b it l i) (hl : SqOf s.heap b l xs) (hx : xs[i]? = none)
    (hE : ∀ h' e, Heap.ExtBut it s.heap h' → (∃ o, h'.get? e = some o ∧ o.cls = .type "StopIteration") → E (.ref e) { s with heap := h' }) : wpAny (model prog w) A (Builtin.SmallTypes.nextOf (.ref it)) Q E s := by
  cases b with
  | false => exact wpAny_nextOf_list_end hh hit hl hx hE
  | true =>
    have hit' : s.heap.IsTupleIter it l i := hit
    obtain ⟨o, ho, hc, hd⟩ := id hit
    obtain ⟨ol, hol, _, nl, hdl⟩ := hl
    unfold Builtin.SmallTypes.nextOf
    refine wpAny_bind (wpAny_callSpecial?_slot (name := Str.ofString "__next__") hit'.typeIs F.slot_tuple_iterator_next
      (wpAny_call_entry F.slot_tuple_iterator_next hit'.typeIs F.entry_tuple_iterator_next ?_ (F.args_tuple_iterator_next_1 _)))
    show wpAny _ _ (field (.ref it) 0 >>= _) _ _ s
    refine wpAny_bind (wpAny_field ho hd (x := .ref l) rfl ?_)
    show wpAny _ _ (if (Value.ref l == Value.none) = true then _ else _) _ _ s
    rw [if_neg (show ¬ ((Value.ref l == Value.none) = true) from Bool.false_ne_true)]
    show wpAny _ _ (field (.ref it) 1 >>= _) _ _ s
    refine wpAny_bind (wpAny_field ho hd (x := .int i 0) rfl ?_)
    show wpAny _ _ (seqItems? (.ref l) >>= _) _ _ s
    refine wpAny_bind (wpAny_seqItems hol hdl ?_)
    simp only [Int.toNat_natCast, hx]
    refine wpAny_bind (wpAny_rule (wpAny_bind (wpAny_setField ho hd (by simp) ?_)))
    show wpAny _ _ (newExc (.type "StopIteration") [] >>= _) _ _ _
    refine wpAny_bind ?_
    simp only [newExc, newTuple]
    refine wpAny_bind (wpAny_newObj_type ?_ (by size_fits))
    refine wpAny_bind (m := firstArgMember _ _) (wpAny_of_eq (a := Value.none) (by first | rfl | (simp only [firstArgMember]; rfl)) ?_)
    refine wpAny_newObj_type ?_ (by size_fits)
    refine wpAny_bind (m := handled) (wpAny_handled ?_)
    first | rw [show A.in1.handled = none from hh] | rw [hh]
    refine wpAny_bind (wpAny_pure (wpAny_throw ?_))
    exact hE _ _ (((Heap.SameBut.update ..).extBut.push _).push _) ⟨_, Heap.get?_push_size _ rfl, rfl⟩
structure ZipSt (h : Heap) (z TI TO i1 i2 l1 l2 : Addr) (b1 b2 : Bool) (k : Nat) (xs ys : Array Value) (f0 : Value) (f1 : Bool) : Prop where
  zr : h.get? z = some { cls := .type "zip", dict := none, data := .fields #[f0, .bool f1, .bool false, .ref TI, .ref TO], slots := #[] }
  TI : IsPair h TI (.ref i1) (.ref i2)
  TO : ∃ a b, IsPair h TO a b
  i1 : SqIt h b1 i1 l1 k
  i2 : SqIt h b2 i2 l2 k
  l1 : SqOf h b1 l1 xs
  l2 : SqOf h b2 l2 ys
variable {z TI TO i1 i2 l1 l2 : Addr} {b1 b2 : Bool} {k : Nat} {xs ys : Array Value} {x y : Value}
theorem ZipSt.at {h h' : Heap} {f0 : Value} {f1 : Bool} (Z : ZipSt h z TI TO i1 i2 l1 l2 b1 b2 k xs ys f0 f1) (kp : ∀ b ∈ [z, TI, TO, i1, i2, l1, l2], ∀ o, h.get? b = some o → h'.get? b = some o) : ZipSt h' z TI TO i1 i2 l1 l2 b1 b2 k xs ys f0 f1 := by
  obtain ⟨a, b, e⟩ := Z.TO
  exact ⟨kp _ mm0 _ Z.zr, kp _ mm1 _ Z.TI, ⟨a, b, kp _ mm2 _ e⟩, Z.i1.at (kp _ mm3), Z.i2.at (kp _ mm4), Z.l1.at (kp _ mm5), Z.l2.at (kp _ mm6)⟩
theorem zipG_next_free {Q : Value → Shared → Prop} (D : ZipApart z TI TO i1 i2 l1 l2) (Z : ZipSt s.heap z TI TO i1 i2 l1 l2 b1 b2 k xs ys .none false) (hx : xs[k]? = some x) (hy : ys[k]? = some y)
    (hQ : ∀ h', ZipSt h' z TI TO i1 i2 l1 l2 b1 b2 (k + 1) xs ys (rawInt s.heap.objs.size) false → IsPair h' s.heap.objs.size x y →
      (∀ c o, c ≠ z → c ≠ TO → c ≠ i1 → c ≠ i2 → s.heap.get? c = some o → h'.get? c = some o) → Q (.ref s.heap.objs.size) { s with heap := h' }) :
    wpAny (model prog w) A (Builtin.«zip.__next__» ⟨[.ref z], []⟩) (fun fin s' => ∃ v, fin = .done (.ret v) ∧ Q v s') E s := by
  obtain ⟨hz, hTI, ⟨a, b, hTO⟩, h1, h2, hl1, hl2⟩ := Z
  show wpAny _ _ (field (.ref z) 2 >>= _) _ _ _
  refine wpAny_bind (wpAny_field hz rfl (x := .bool false) rfl ?_)
  show wpAny _ _ (field (.ref z) 3 >>= _) _ _ _
  refine wpAny_bind (wpAny_field hz rfl (x := .ref TI) rfl ?_)
  refine wpAny_bind (wpAny_seqItems hTI rfl ?_)
  show wpAny _ _ (Builtin.SmallTypes.ownedTupleIsFree (.ref z) >>= _) _ _ _
  refine wpAny_bind ?_
  unfold Builtin.SmallTypes.ownedTupleIsFree
  refine wpAny_bind (wpAny_field hz rfl (x := .none) rfl (wpAny_pure ?_))
  simp only [if_true]
  refine wpAny_bind (wpAny_rule ?_)
  refine wpAny_bind (wpAny_field hz rfl (x := .ref TO) rfl ?_)
  refine wpAny_bind (wpAny_setField_rec hz (by simp) fun h₁ hz₁ hs₁ => ?_)
  replace hz₁ : IsZip h₁ z TI TO .ellipsis := hz₁
  refine wpAny_bind ?_
  simp only [List.zipIdx_cons, List.zipIdx_nil, List.forIn_cons, List.forIn_nil]
  refine wpAny_bind (wpAny_bind (wpAny_onRaise ?_))
  show wpAny _ _ (Builtin.SmallTypes.nextOf (.ref i1) >>= _) _ _ _
  refine wpAny_bind (sq_nextOf_item (h1.at fun o e => hs₁.extBut _ _ D.i1z e) (hl1.at fun o e => hs₁.extBut _ _ D.l1z e) hx fun h₂ h1₂ hs₂ => wpAny_pure ?_)
  have hTO₂ : IsPair h₂ TO a b := hs₂.extBut _ _ D.TOi1 (hs₁.extBut _ _ D.TOz hTO)
  refine wpAny_bind (wpAny_seqItems hTO₂ rfl ?_)
  refine wpAny_bind (wpAny_updateSeq_pair hTO₂ fun h₃ hTO₃ hs₃ => ?_)
  replace hTO₃ : IsPair h₃ TO x b := hTO₃
  refine wpAny_bind (wpAny_letGo (wpAny_pure ?_))
  refine wpAny_bind (wpAny_bind (wpAny_onRaise ?_))
  show wpAny _ _ (Builtin.SmallTypes.nextOf (.ref i2) >>= _) _ _ _
  have up3 : ∀ c o, c ≠ z → c ≠ i1 → c ≠ TO → s.heap.get? c = some o → h₃.get? c = some o := fun c o c1 c2 c3 e => hs₃.extBut _ _ c3 (hs₂.extBut _ _ c2 (hs₁.extBut _ _ c1 e))
  refine wpAny_bind (sq_nextOf_item (h2.at fun o e => up3 _ o D.i2z D.i12.symm D.TOi2.symm e) (hl2.at fun o e => up3 _ o D.l2z D.l2i1 D.l2TO e) hy fun h₄ h2₄ hs₄ => wpAny_pure ?_)
  have hTO₄ : IsPair h₄ TO x b := hs₄.extBut _ _ D.TOi2 hTO₃
  refine wpAny_bind (wpAny_seqItems hTO₄ rfl ?_)
  refine wpAny_bind (wpAny_updateSeq_pair hTO₄ fun h₅ hTO₅ hs₅ => ?_)
  replace hTO₅ : IsPair h₅ TO x y := hTO₅
  refine wpAny_bind (wpAny_letGo (wpAny_pure (wpAny_pure ?_)))
  refine wpAny_bind (wpAny_seqItems hTO₅ rfl ?_)
  refine wpAny_bind (wpAny_newTuple ?_)
  have hsz : h₅.objs.size = s.heap.objs.size := by rw [hs₅.1, hs₄.1, hs₃.1, hs₂.1, hs₁.1]
  have hz₅ : IsZip h₅ z TI TO .ellipsis := hs₅.extBut _ _ D.TOz.symm (hs₄.extBut _ _ D.i2z.symm (hs₃.extBut _ _ D.TOz.symm (hs₂.extBut _ _ D.i1z.symm hz₁)))
  have hk₅ : ∀ c o, c ≠ z → c ≠ TO → c ≠ i1 → c ≠ i2 → s.heap.get? c = some o → h₅.get? c = some o := fun c o c1 c2 c3 c4 e => hs₅.extBut _ _ c2 (hs₄.extBut _ _ c4 (up3 c o c1 c3 c2 e))
  have h1₅ : SqIt h₅ b1 i1 l1 (k + 1) := h1₂.at fun o e => hs₅.extBut _ _ D.TOi1.symm (hs₄.extBut _ _ D.i12 (hs₃.extBut _ _ D.TOi1.symm e))
  have h2₅ : SqIt h₅ b2 i2 l2 (k + 1) := h2₄.at fun o e => hs₅.extBut _ _ D.TOi2.symm e
  have hzlt : z < h₅.objs.size := Heap.lt_size hz₅
  show wpAny _ _ (Builtin.SmallTypes.ownedTupleHandOut (.ref z) (.ref h₅.objs.size) >>= _) _ _ _
  refine wpAny_bind ?_
  unfold Builtin.SmallTypes.ownedTupleHandOut
  have hz₆ : IsZip (h₅.push { cls := .type "tuple", data := .seq #[x, y] }) z TI TO .ellipsis := Heap.get?_push_of_some _ hz₅
  refine wpAny_bind (wpAny_setField_rec hz₆ (by simp) fun h₇ hz₇ hs₇ => ?_)
  replace hz₇ : IsZip h₇ z TI TO (rawInt h₅.objs.size) := hz₇
  refine wpAny_setField_rec hz₇ (by simp) fun h₈ hz₈ hs₈ => ?_
  replace hz₈ : IsZip h₈ z TI TO (rawInt h₅.objs.size) := hz₈
  have up : ∀ c o, c ≠ z → h₅.get? c = some o → h₈.get? c = some o := fun c o c1 e => hs₈.extBut _ _ c1 (hs₇.extBut _ _ c1 (Heap.get?_push_of_some _ e))
  have hT₈ : IsPair h₈ h₅.objs.size x y := hs₈.extBut _ _ (Nat.ne_of_gt hzlt) (hs₇.extBut _ _ (Nat.ne_of_gt hzlt) (Heap.get?_push_size _ rfl))
  rw [hsz] at hz₈ hT₈
  refine wpAny_pure ⟨_, rfl, ?_⟩
  show Q (.ref h₅.objs.size) _
  rw [hsz]
  exact hQ h₈ ⟨hz₈, up _ _ D.TIz (hk₅ _ _ D.TIz D.TITO D.TIi1 D.TIi2 hTI), ⟨_, _, up _ _ D.TOz hTO₅⟩, h1₅.at fun o e => up _ o D.i1z e, h2₅.at fun o e => up _ o D.i2z e,
    hl1.at fun o e => up _ o D.l1z (hk₅ _ _ D.l1z D.l1TO D.l1i1 D.l1i2 e), hl2.at fun o e => up _ o D.l2z (hk₅ _ _ D.l2z D.l2TO D.l2i1 D.l2i2 e)⟩ hT₈ fun c o c1 c2 c3 c4 e => up c o c1 (hk₅ c o c1 c2 c3 c4 e)
theorem wpAny_lia {M : Model} {a : Addr} {Q : Option Obj → Shared → Prop} (h : Q (s.heap.get? a) s) : wpAny M A (loadIfAlive a) Q E s := fun Γ p _ => by
  unfold loadIfAlive
  rw [Sem.wp_loadIfAlive]
  exact h
theorem owned_held {T : Addr} {f1 : Bool} {oT : Obj} {Q : Bool → Shared → Prop} (D : ZipApart z TI TO i1 i2 l1 l2) (Z : ZipSt s.heap z TI TO i1 i2 l1 l2 b1 b2 k xs ys (rawInt T) f1) (hT : s.heap.get? T = some oT)
    (h : ∀ h', ZipSt h' z TI TO i1 i2 l1 l2 b1 b2 k xs ys (rawInt T) true → Heap.SameBut z s.heap h' → Q false { s with heap := h' }) : wpAny (model prog w) A (Builtin.SmallTypes.ownedTupleIsFree (.ref z)) Q E s := by
  obtain ⟨hz, hTI, ⟨a, b, hTO⟩, h1, h2, hl1, hl2⟩ := id Z
  unfold Builtin.SmallTypes.ownedTupleIsFree
  refine wpAny_bind (wpAny_field hz rfl (x := rawInt T) rfl ?_)
  unfold rawInt
  dsimp only
  refine wpAny_bind (wpAny_lia ?_)
  rw [Int.toNat_natCast, hT]
  simp only [Option.isNone_some, Bool.false_eq_true, if_false]
  refine wpAny_bind (wpAny_field hz rfl (x := .bool f1) rfl ?_)
  cases f1 with
  | true =>
    rw [if_neg (by decide)]
    exact wpAny_pure (h s.heap Z (Heap.SameBut.refl ..))
  | false =>
    rw [if_pos (by decide)]
    refine wpAny_bind (wpAny_setField_rec hz (by simp) fun h₁ hz₁ hs₁ => wpAny_pure (h h₁ ⟨hz₁, hs₁.extBut _ _ D.TIz hTI, ⟨a, b, hs₁.extBut _ _ D.TOz hTO⟩, h1.at fun o e => hs₁.extBut _ _ D.i1z e, h2.at fun o e => hs₁.extBut _ _ D.i2z e, hl1.at fun o e => hs₁.extBut _ _ D.l1z e, hl2.at fun o e => hs₁.extBut _ _ D.l2z e⟩ hs₁))
theorem zipG_next_held {T : Addr} {f1 : Bool} {oT : Obj} {Q : Value → Shared → Prop} (D : ZipApart z TI TO i1 i2 l1 l2) (Z : ZipSt s.heap z TI TO i1 i2 l1 l2 b1 b2 k xs ys (rawInt T) f1) (hT : s.heap.get? T = some oT) (hx : xs[k]? = some x) (hy : ys[k]? = some y)
    (hQ : ∀ h' q, ZipSt h' z TI TO i1 i2 l1 l2 b1 b2 (k + 1) xs ys (rawInt T) true → IsPair h' q x y → s.heap.get? q = none →
      (∀ c o, c ≠ z → c ≠ TO → c ≠ i1 → c ≠ i2 → s.heap.get? c = some o → h'.get? c = some o) → Q (.ref q) { s with heap := h' }) :
    wpAny (model prog w) A (Builtin.«zip.__next__» ⟨[.ref z], []⟩) (fun fin s' => ∃ v, fin = .done (.ret v) ∧ Q v s') E s := by
  obtain ⟨hz, hTI, ⟨a, b, hTO⟩, h1, h2, hl1, hl2⟩ := id Z
  show wpAny _ _ (field (.ref z) 2 >>= _) _ _ _
  refine wpAny_bind (wpAny_field hz rfl (x := .bool false) rfl ?_)
  show wpAny _ _ (field (.ref z) 3 >>= _) _ _ _
  refine wpAny_bind (wpAny_field hz rfl (x := .ref TI) rfl ?_)
  refine wpAny_bind (wpAny_seqItems hTI rfl ?_)
  show wpAny _ _ (Builtin.SmallTypes.ownedTupleIsFree (.ref z) >>= _) _ _ _
  refine wpAny_bind (owned_held D Z hT fun h₁ Z₁ hs₁ => ?_)
  simp only [Bool.false_eq_true, if_false]
  obtain ⟨hz₁, hTI₁, ⟨a₁, b₁, hTO₁⟩, h1₁, h2₁, hl1₁, hl2₁⟩ := Z₁
  rw [← Array.forIn_toList]
  simp only [List.forIn_cons, List.forIn_nil]
  refine wpAny_bind (wpAny_bind (wpAny_bind (wpAny_holding ?_)))
  show wpAny _ _ (Builtin.SmallTypes.nextOf (.ref i1) >>= _) _ _ _
  refine wpAny_bind (sq_nextOf_item h1₁ hl1₁ hx fun h₂ h1₂ hs₂ => wpAny_pure (wpAny_pure ?_))
  refine wpAny_bind (wpAny_bind (wpAny_holding ?_))
  show wpAny _ _ (Builtin.SmallTypes.nextOf (.ref i2) >>= _) _ _ _
  refine wpAny_bind (sq_nextOf_item (h2₁.at fun o e => hs₂.extBut _ _ D.i12.symm e) (hl2₁.at fun o e => hs₂.extBut _ _ D.l2i1 e) hy fun h₃ h2₃ hs₃ => wpAny_pure (wpAny_pure (wpAny_pure ?_)))
  show wpAny _ _ (newTuple [x, y] >>= _) _ _ _
  refine wpAny_bind (wpAny_newTuple ?_)
  refine wpAny_pure ⟨_, rfl, ?_⟩
  have up : ∀ c o, c ≠ i1 → c ≠ i2 → h₁.get? c = some o → (h₃.push { cls := .type "tuple", data := .seq #[x, y] }).get? c = some o := fun c o c1 c2 e => Heap.get?_push_of_some _ (hs₃.extBut _ _ c2 (hs₂.extBut _ _ c1 e))
  have hsz : h₃.objs.size = s.heap.objs.size := by rw [hs₃.1, hs₂.1, hs₁.1]
  refine hQ _ _ ⟨up _ _ D.i1z.symm D.i2z.symm hz₁, up _ _ D.TIi1 D.TIi2 hTI₁, ⟨_, _, up _ _ D.TOi1 D.TOi2 hTO₁⟩, h1₂.at fun o e => Heap.get?_push_of_some _ (hs₃.extBut _ _ D.i12 e), h2₃.at fun o e => Heap.get?_push_of_some _ e,
    hl1₁.at fun o e => up _ o D.l1i1 D.l1i2 e, hl2₁.at fun o e => up _ o D.l2i1 D.l2i2 e⟩ (Heap.get?_push_size _ rfl) (Heap.get?_none_of_le (by rw [hsz]; exact Nat.le_refl _)) fun c o c1 _ c3 c4 e => up c o c3 c4 (hs₁.extBut _ _ c1 e)
theorem zipG_end_free {Q : Fin → Shared → Prop} (hh : A.handled = none) (D : ZipApart z TI TO i1 i2 l1 l2) (Z : ZipSt s.heap z TI TO i1 i2 l1 l2 b1 b2 k xs ys .none false) (hend : xs[k]? = none ∨ ys[k]? = none)
    (hE : ∀ h' e, (∀ c o, c ≠ z → c ≠ TO → c ≠ i1 → c ≠ i2 → s.heap.get? c = some o → h'.get? c = some o) → (∃ o, h'.get? e = some o ∧ o.cls = .type "StopIteration") → E (.ref e) { s with heap := h' }) :
    wpAny (model prog w) A (Builtin.«zip.__next__» ⟨[.ref z], []⟩) Q E s := by
  obtain ⟨hz, hTI, ⟨a, b, hTO⟩, h1, h2, hl1, hl2⟩ := Z
  show wpAny _ _ (field (.ref z) 2 >>= _) _ _ _
  refine wpAny_bind (wpAny_field hz rfl (x := .bool false) rfl ?_)
  show wpAny _ _ (field (.ref z) 3 >>= _) _ _ _
  refine wpAny_bind (wpAny_field hz rfl (x := .ref TI) rfl ?_)
  refine wpAny_bind (wpAny_seqItems hTI rfl ?_)
  show wpAny _ _ (Builtin.SmallTypes.ownedTupleIsFree (.ref z) >>= _) _ _ _
  refine wpAny_bind ?_
  unfold Builtin.SmallTypes.ownedTupleIsFree
  refine wpAny_bind (wpAny_field hz rfl (x := .none) rfl (wpAny_pure ?_))
  simp only [if_true]
  refine wpAny_bind (wpAny_rule ?_)
  refine wpAny_bind (wpAny_field hz rfl (x := .ref TO) rfl ?_)
  refine wpAny_bind (wpAny_setField_rec hz (by simp) fun h₁ hz₁ hs₁ => ?_)
  replace hz₁ : IsZip h₁ z TI TO .ellipsis := hz₁
  refine wpAny_bind ?_
  simp only [List.zipIdx_cons, List.zipIdx_nil, List.forIn_cons, List.forIn_nil]
  refine wpAny_bind (wpAny_bind (wpAny_onRaise ?_))
  show wpAny _ _ (Builtin.SmallTypes.nextOf (.ref i1) >>= _) _ _ _
  cases hx : xs[k]? with
  | none =>
    refine wpAny_bind (sq_nextOf_end hh (h1.at fun o e => hs₁.extBut _ _ D.i1z e) (hl1.at fun o e => hs₁.extBut _ _ D.l1z e) hx fun h₂ e hs₂ he => ?_)
    obtain ⟨oe, hoe, hce⟩ := he
    have hz₂ : IsZip h₂ z TI TO .ellipsis := hs₂ _ _ D.i1z.symm hz₁
    have hez : e ≠ z := fun x => by subst x; rw [hz₂] at hoe; cases hoe; simp at hce
    refine wpAny_setField_rec hz₂ (by simp) fun h₃ _ hs₃ => hE h₃ e (fun c o c1 _ c3 _ x => hs₃.extBut _ _ c1 (hs₂ _ _ c3 (hs₁.extBut _ _ c1 x))) ⟨oe, hs₃.extBut _ _ hez hoe, hce⟩
  | some x =>
    have hy : ys[k]? = none := by rcases hend with h | h; rw [hx] at h; cases h; exact h
    refine wpAny_bind (sq_nextOf_item (h1.at fun o e => hs₁.extBut _ _ D.i1z e) (hl1.at fun o e => hs₁.extBut _ _ D.l1z e) hx fun h₂ h1₂ hs₂ => wpAny_pure ?_)
    have hTO₂ : IsPair h₂ TO a b := hs₂.extBut _ _ D.TOi1 (hs₁.extBut _ _ D.TOz hTO)
    refine wpAny_bind (wpAny_seqItems hTO₂ rfl ?_)
    refine wpAny_bind (wpAny_updateSeq_pair hTO₂ fun h₃ hTO₃ hs₃ => ?_)
    refine wpAny_bind (wpAny_letGo (wpAny_pure ?_))
    refine wpAny_bind (wpAny_bind (wpAny_onRaise ?_))
    show wpAny _ _ (Builtin.SmallTypes.nextOf (.ref i2) >>= _) _ _ _
    have up3 : ∀ c o, c ≠ z → c ≠ i1 → c ≠ TO → s.heap.get? c = some o → h₃.get? c = some o := fun c o c1 c2 c3 e => hs₃.extBut _ _ c3 (hs₂.extBut _ _ c2 (hs₁.extBut _ _ c1 e))
    refine wpAny_bind (sq_nextOf_end hh (h2.at fun o e => up3 _ o D.i2z D.i12.symm D.TOi2.symm e) (hl2.at fun o e => up3 _ o D.l2z D.l2i1 D.l2TO e) hy fun h₄ e hs₄ he => ?_)
    obtain ⟨oe, hoe, hce⟩ := he
    have hz₄ : IsZip h₄ z TI TO .ellipsis := hs₄ _ _ D.i2z.symm (hs₃.extBut _ _ D.TOz.symm (hs₂.extBut _ _ D.i1z.symm hz₁))
    have hez : e ≠ z := fun x => by subst x; rw [hz₄] at hoe; cases hoe; simp at hce
    refine wpAny_setField_rec hz₄ (by simp) fun h₅ _ hs₅ => hE h₅ e (fun c o c1 c2 c3 c4 x => hs₅.extBut _ _ c1 (hs₄ _ _ c4 (up3 c o c1 c3 c2 x))) ⟨oe, hs₅.extBut _ _ hez hoe, hce⟩
theorem zipG_end_held {T : Addr} {f1 : Bool} {oT : Obj} {Q : Fin → Shared → Prop} (hh : A.handled = none) (D : ZipApart z TI TO i1 i2 l1 l2) (Z : ZipSt s.heap z TI TO i1 i2 l1 l2 b1 b2 k xs ys (rawInt T) f1) (hT : s.heap.get? T = some oT) (hend : xs[k]? = none ∨ ys[k]? = none)
    (hE : ∀ h' e, (∀ c o, c ≠ z → c ≠ TO → c ≠ i1 → c ≠ i2 → s.heap.get? c = some o → h'.get? c = some o) → (∃ o, h'.get? e = some o ∧ o.cls = .type "StopIteration") → E (.ref e) { s with heap := h' }) :
    wpAny (model prog w) A (Builtin.«zip.__next__» ⟨[.ref z], []⟩) Q E s := by
  obtain ⟨hz, hTI, ⟨a, b, hTO⟩, h1, h2, hl1, hl2⟩ := id Z
  show wpAny _ _ (field (.ref z) 2 >>= _) _ _ _
  refine wpAny_bind (wpAny_field hz rfl (x := .bool false) rfl ?_)
  show wpAny _ _ (field (.ref z) 3 >>= _) _ _ _
  refine wpAny_bind (wpAny_field hz rfl (x := .ref TI) rfl ?_)
  refine wpAny_bind (wpAny_seqItems hTI rfl ?_)
  show wpAny _ _ (Builtin.SmallTypes.ownedTupleIsFree (.ref z) >>= _) _ _ _
  refine wpAny_bind (owned_held D Z hT fun h₁ Z₁ hs₁ => ?_)
  simp only [Bool.false_eq_true, if_false]
  obtain ⟨hz₁, hTI₁, ⟨a₁, b₁, hTO₁⟩, h1₁, h2₁, hl1₁, hl2₁⟩ := Z₁
  rw [← Array.forIn_toList]
  simp only [List.forIn_cons, List.forIn_nil]
  refine wpAny_bind (wpAny_bind (wpAny_bind (wpAny_holding ?_)))
  show wpAny _ _ (Builtin.SmallTypes.nextOf (.ref i1) >>= _) _ _ _
  cases hx : xs[k]? with
  | none => exact wpAny_bind (sq_nextOf_end hh h1₁ hl1₁ hx fun h₂ e hs₂ he => hE h₂ e (fun c o c1 _ c3 _ x => hs₂ _ _ c3 (hs₁.extBut _ _ c1 x)) he)
  | some x =>
    have hy : ys[k]? = none := by rcases hend with h | h; rw [hx] at h; cases h; exact h
    refine wpAny_bind (sq_nextOf_item h1₁ hl1₁ hx fun h₂ h1₂ hs₂ => wpAny_pure (wpAny_pure ?_))
    refine wpAny_bind (wpAny_bind (wpAny_holding ?_))
    show wpAny _ _ (Builtin.SmallTypes.nextOf (.ref i2) >>= _) _ _ _
    exact wpAny_bind (sq_nextOf_end hh (h2₁.at fun o e => hs₂.extBut _ _ D.i12.symm e) (hl2₁.at fun o e => hs₂.extBut _ _ D.l2i1 e) hy fun h₃ e hs₃ he => hE h₃ e (fun c o c1 _ c3 c4 x => hs₃ _ _ c4 (hs₂.extBut _ _ c3 (hs₁.extBut _ _ c1 x))) he)
noncomputable def Owned (h : Heap) (f0 : Value) (f1 : Bool) : Prop := (f0 = .none ∧ f1 = false) ∨ ∃ T oT, f0 = rawInt ((T : Nat) : Int) ∧ h.get? T = some oT
theorem zipG_item {f0 : Value} {f1 : Bool} {Q : Option Value → Shared → Prop} (D : ZipApart z TI TO i1 i2 l1 l2) (Z : ZipSt s.heap z TI TO i1 i2 l1 l2 b1 b2 k xs ys f0 f1) (hO : Owned s.heap f0 f1) (hx : xs[k]? = some x) (hy : ys[k]? = some y)
    (hQ : ∀ (h' : Heap) (q : Addr) (f0' : Value) (f1' : Bool), ZipSt h' z TI TO i1 i2 l1 l2 b1 b2 (k + 1) xs ys f0' f1' → Owned h' f0' f1' → (f0 = .none → f0' = rawInt ((q : Nat) : Int) ∧ f1' = false) → IsPair h' q x y → s.heap.get? q = none →
      (∀ c o, c ≠ z → c ≠ TO → c ≠ i1 → c ≠ i2 → s.heap.get? c = some o → h'.get? c = some o) → Q (some (.ref q)) { s with heap := h' }) :
    wpAny (model prog w) A (pyNext (.ref z)) Q E s := by
  have hT : s.TypeIs (.ref z) "zip" := ⟨_, Z.zr, rfl⟩
  unfold pyNext
  refine wpAny_bind (wpAny_attempt (wpAny_callSpecial?_slot (name := Str.ofString "__next__") hT F.slot_zip_next (wpAny_call_entry F.slot_zip_next hT F.entry_zip_next ?_ (F.args_zip_next_1 _))))
  rcases hO with ⟨rfl, rfl⟩ | ⟨T, oT, rfl, eT⟩
  · exact zipG_next_free D Z hx hy fun h' Z' hq kp => wpAny_pure (hQ h' _ _ _ Z' (.inr ⟨_, _, rfl, hq⟩) (fun _ => ⟨rfl, rfl⟩) hq (Heap.get?_none_of_le (Nat.le_refl _)) kp)
  · have nz : T ≠ z ∨ T = z := (Decidable.em (T = z)).symm
    refine zipG_next_held D Z eT hx hy fun h' q Z' hq fq kp => wpAny_pure (hQ h' q _ _ Z' (.inr ?_) (fun q => by simp [rawInt] at q) hq fq kp)
    by_cases c1 : T = z
    · exact ⟨T, _, rfl, by rw [c1]; exact Z'.zr⟩
    · by_cases c2 : T = TO
      · obtain ⟨a, b, e⟩ := Z'.TO; exact ⟨T, _, rfl, by rw [c2]; exact e⟩
      · by_cases c3 : T = i1
        · obtain ⟨o, e, _⟩ := Z'.i1; exact ⟨T, _, rfl, by rw [c3]; exact e⟩
        · by_cases c4 : T = i2
          · obtain ⟨o, e, _⟩ := Z'.i2; exact ⟨T, _, rfl, by rw [c4]; exact e⟩
          · exact ⟨T, _, rfl, kp T oT c1 c2 c3 c4 eT⟩
theorem zipG_end {f0 : Value} {f1 : Bool} {Q : Option Value → Shared → Prop} (hh : A.handled = none) (D : ZipApart z TI TO i1 i2 l1 l2) (Z : ZipSt s.heap z TI TO i1 i2 l1 l2 b1 b2 k xs ys f0 f1) (hO : Owned s.heap f0 f1) (hend : xs[k]? = none ∨ ys[k]? = none)
    (hQ : ∀ h', (∀ c o, c ≠ z → c ≠ TO → c ≠ i1 → c ≠ i2 → s.heap.get? c = some o → h'.get? c = some o) → Q none { s with heap := h' }) : wpAny (model prog w) A (pyNext (.ref z)) Q E s := by
  have hT : s.TypeIs (.ref z) "zip" := ⟨_, Z.zr, rfl⟩
  unfold pyNext
  refine wpAny_bind (wpAny_attempt (wpAny_callSpecial?_slot (name := Str.ofString "__next__") hT F.slot_zip_next (wpAny_call_entry F.slot_zip_next hT F.entry_zip_next ?_ (F.args_zip_next_1 _))))
  have fin : ∀ h' e, (∀ c o, c ≠ z → c ≠ TO → c ≠ i1 → c ≠ i2 → s.heap.get? c = some o → h'.get? c = some o) → (∃ o, h'.get? e = some o ∧ o.cls = .type "StopIteration") →
      wpAny (model prog w) A (do if (← isInstance (.ref e) (.type "StopIteration")) then pure none else throw (.ref e)) Q E { s with heap := h' } := fun h' e hk he => by
    obtain ⟨o, ho, hc⟩ := he
    exact wpAny_bind (wpAny_isInstance (T := "StopIteration") (b := true) ⟨o, ho, hc⟩ isSubtype_stop (wpAny_pure (hQ _ hk)))
  rcases hO with ⟨rfl, rfl⟩ | ⟨T, oT, rfl, eT⟩
  · exact zipG_end_free hh D Z hend fun h' e hk he => fin h' e hk he
  · exact zipG_end_held hh D Z eT hend fun h' e hk he => fin h' e hk he
end
theorem ci_zip_new (b1 b2 : Bool) (l1 l2 : Addr) (xs ys : Array Value) :
    Meets (Builtin.«zip.__new__» ⟨[.type "zip", .ref l1, .ref l2], []⟩) (fun _ R s => SqOf s.heap b1 l1 xs ∧ SqOf s.heap b2 l2 ys ∧
      ∀ h', ZipSt h' (s.heap.objs.size + 4) (s.heap.objs.size + 2) (s.heap.objs.size + 3) s.heap.objs.size (s.heap.objs.size + 1) l1 l2 b1 b2 0 xs ys .none false → (∀ c o, s.heap.get? c = some o → h'.get? c = some o) →
      R (.ok (.ret (.ref (s.heap.objs.size + 4)))) { s with heap := h' }) :=
  .of_wp fun prog w A R s h => by
    obtain ⟨hp, g, d, tk, os⟩ := s; obtain ⟨hl1, hl2, h⟩ := h
    have hsub := sub_zip
    have hL1 : SqOf (Shared.heap ⟨hp, g, d, tk, os⟩) b1 l1 xs := hl1
    have hL2 : SqOf (Shared.heap ⟨hp.push { cls := .type (sqI b1), data := .fields #[.ref l1, .int 0 0] }, g, d, tk, os⟩) b2 l2 ys := hl2.at fun o e => Heap.get?_push_of_some _ e
    wp_walk using sq_iter hL1, sq_iter hL2
    refine ⟨_, rfl, ?_⟩
    let o1 : Obj := { cls := .type (sqI b1), data := .fields #[.ref l1, .int 0 0] }
    let o2 : Obj := { cls := .type (sqI b2), data := .fields #[.ref l2, .int 0 0] }
    let o3 : Obj := { cls := .type "tuple", data := .seq #[.ref hp.objs.size, .ref (hp.push o1).objs.size] }
    let o4 : Obj := { cls := .type "tuple", data := .seq #[.none, .none] }
    let H4 := (((hp.push o1).push o2).push o3).push o4
    let o5 : Obj := { cls := .type "zip", data := .fields #[.none, .bool false, .bool false, .ref ((hp.push o1).push o2).objs.size, .ref (((hp.push o1).push o2).push o3).objs.size] }
    show R (.ok (.ret (.ref H4.objs.size))) ⟨H4.push o5, g, d, tk, os⟩
    have z1 : (hp.push o1).objs.size = hp.objs.size + 1 := Heap.size_push ..
    have z2 : ((hp.push o1).push o2).objs.size = hp.objs.size + 2 := by rw [Heap.size_push, z1]
    have z3 : (((hp.push o1).push o2).push o3).objs.size = hp.objs.size + 3 := by rw [Heap.size_push, z2]
    have z4 : H4.objs.size = hp.objs.size + 4 := by show ((((hp.push o1).push o2).push o3).push o4).objs.size = _; rw [Heap.size_push, z3]
    have g5 : (H4.push o5).get? H4.objs.size = some o5 := Heap.get?_push_size _ rfl
    have g4 : (H4.push o5).get? (((hp.push o1).push o2).push o3).objs.size = some o4 := Heap.get?_push_of_some _ (Heap.get?_push_size _ rfl)
    have g3 : (H4.push o5).get? ((hp.push o1).push o2).objs.size = some o3 := Heap.get?_push_of_some _ (Heap.get?_push_of_some _ (Heap.get?_push_size _ rfl))
    have g2 : (H4.push o5).get? (hp.push o1).objs.size = some o2 := Heap.get?_push_of_some _ (Heap.get?_push_of_some _ (Heap.get?_push_of_some _ (Heap.get?_push_size _ rfl)))
    have g1 : (H4.push o5).get? hp.objs.size = some o1 := Heap.get?_push_of_some _ (Heap.get?_push_of_some _ (Heap.get?_push_of_some _ (Heap.get?_push_of_some _ (Heap.get?_push_size _ rfl))))
    have up : ∀ c o, hp.get? c = some o → (H4.push o5).get? c = some o := fun c o e => Heap.get?_push_of_some _ (Heap.get?_push_of_some _ (Heap.get?_push_of_some _ (Heap.get?_push_of_some _ (Heap.get?_push_of_some _ e))))
    rw [z4] at g5
    rw [z3] at g4
    rw [z2] at g3
    rw [z1] at g2
    have e5 : o5 = { cls := .type "zip", dict := none, data := .fields #[.none, .bool false, .bool false, .ref (hp.objs.size + 2), .ref (hp.objs.size + 3)], slots := #[] } := by show ({ cls := .type "zip", data := _ } : Obj) = _; rw [z2, z3]
    have e3 : o3 = { cls := .type "tuple", data := .seq #[.ref hp.objs.size, .ref (hp.objs.size + 1)] } := by show ({ cls := .type "tuple", data := _ } : Obj) = _; rw [z1]
    rw [z4]
    exact h (H4.push o5) ⟨by rw [g5, e5], by rw [IsPair, g3, e3], ⟨_, _, g4⟩, ⟨_, g1, rfl, rfl⟩, ⟨_, g2, rfl, rfl⟩, hl1.at (up _), hl2.at (up _)⟩ up
section
variable {prog : Program} {w : World} {A : Around} {E : Value → Shared → Prop} {s : Shared}
theorem call_zipG {b1 b2 : Bool} {l1 l2 : Addr} {xs ys : Array Value} {Q : Value → Shared → Prop} (hl1 : SqOf s.heap b1 l1 xs) (hl2 : SqOf s.heap b2 l2 ys)
    (h : ∀ h', ZipSt h' (s.heap.objs.size + 4) (s.heap.objs.size + 2) (s.heap.objs.size + 3) s.heap.objs.size (s.heap.objs.size + 1) l1 l2 b1 b2 0 xs ys .none false → (∀ c o, s.heap.get? c = some o → h'.get? c = some o) →
      Q (.ref (s.heap.objs.size + 4)) { s with heap := h' }) : wpAny (model prog w) A (call (.type "zip") [.ref l1, .ref l2]) Q E s :=
  callType_new F.called_zip (by decide) (F.typeCall_zip_2 _ _) (F.newCall_zip_2 _ _) (fun obj => F.args_object_init_3 obj _ _) F.entry_zip_new
    (ci_zip_new b1 b2 l1 l2 xs ys) ⟨hl1, hl2, fun h' Z k => by
      show _ ∧ _
      exact ⟨⟨_, Z.zr, rfl⟩, h h' Z k⟩⟩
theorem apart5 {n l1 l2 : Nat} (h1 : l1 < n) (h2 : l2 < n) : ZipApart (n + 4 : Nat) (n + 2 : Nat) (n + 3 : Nat) n (n + 1 : Nat) l1 l2 := by
  constructor <;> (show ¬ ((_ : Nat) = _); omega)
end
end
section
open PySem
theorem zip_getattr_none : typeLookup (.type "zip") "__getattr__" = pure none := by rw [typeLookup_type, builtinLookup_eq_fast]; kernel_rfl
theorem zip_entry_ga : entryFor table "zip.__getattribute__" = some Builtin.«object.__getattribute__» :=
  entryFor_alias (id' := "object.__getattribute__") (by kernel_rfl) (by decide +kernel) (by decide +kernel) (by kernel_rfl)
theorem keys_miss_zip : typeLookup (.type "zip") "keys" = pure none := by rw [typeLookup_type, builtinLookup_eq_fast]; kernel_rfl
theorem ci_miss_zip (a : Addr) (vs : Array Value) (sl : Array (Option Value)) (name : Str) (u : Tok) (hmiss : typeLookup (.type "zip") name = pure none) (hname : (["__module__", "__name__", "__qualname__", "__doc__", "__annotations__"] : List Str).contains name = false) (hsz : autoParam (name.length + 100 ≤ sizeLine) aFit) :
    Meets (Builtin.«object.__getattribute__» ⟨[.ref a, .str name u], []⟩) (fun A R s => s.heap.get? a = some { cls := .type "zip", dict := none, data := .fields vs, slots := sl } ∧ raisesAttr (.ref a) name A R s) :=
  Meets.of_wp fun prog w A R s hs => by
    obtain ⟨hp, g, d, tk, os⟩ := s
    obtain ⟨hx, hs⟩ := hs
    have hT : (⟨hp, g, d, tk, os⟩ : Shared).TypeIs (.ref a) "zip" := ⟨_, hx, rfl⟩
    unfold Builtin.«object.__getattribute__»
    repeat (any_goals (first | assumption | wp_step))
    rw [if_neg (ne_true_of_eq_false hname)]
    repeat (any_goals (first | assumption | wp_step))
    exact wpAny_raiseAttrError hs.1 hs.2 (attrMsg_fits (by decide +kernel) hsz)
theorem miss_zip {prog : Program} {w : World} {A : Around} {E : Value → Shared → Prop} {s : Shared} {a : Addr} {vs : Array Value} {sl : Array (Option Value)} {name : Str} {Q : Option Value → Shared → Prop}
    (hx : s.heap.get? a = some { cls := .type "zip", dict := none, data := .fields vs, slots := sl }) (hmiss : typeLookup (.type "zip") name = pure none) (hname : (["__module__", "__name__", "__qualname__", "__doc__", "__annotations__"] : List Str).contains name = false) (hA : A.handled = none)
    (h : ∀ h' tk, (∀ b o, s.heap.get? b = some o → h'.get? b = some o) → Q none { s with heap := h', toks := tk }) (hsz : autoParam (name.length + 100 ≤ sizeLine) aFit) :
    wpAny (model prog w) A (getAttr? (.ref a) name) Q E s := by
  obtain ⟨hp, g, d, tk, os⟩ := s
  have hT : ∀ tk', (⟨hp, g, d, tk', os⟩ : Shared).TypeIs (.ref a) "zip" := fun _ => ⟨_, hx, rfl⟩
  have f1 := sub_AttributeError
  have f3 := F.slot_zip_getattribute.lookup
  have f4 := F.slot_zip_getattribute.bind (.ref a)
  have f5 := zip_getattr_none
  unfold getAttr? getAttrBy? getAttrBy
  repeat (any_goals (first | assumption | exact hT _ | ((with_reducible show wpAny _ _ (call (Value.builtin "zip.__getattribute__") _ _) _ _ _); refine call_meets F.slot_zip_getattribute (hT _) zip_entry_ga (F.args_zip_getattribute_2 _ _) (ci_miss_zip a vs sl name _ hmiss hname hsz) ⟨hx, hA, fun h' tk' e hx' => ?_⟩) | wp_step))
  obtain ⟨t', u', he⟩ := hx'.there
  show wpAny _ _ (getattributeRaised _ _ _ _ _ _ _) _ _ _
  unfold getattributeRaised
  repeat (any_goals (first | assumption | wp_step))
  exact h _ _ hx'.of.keeps
open PySem.W PySem.Calls PyProof.Rows
inductive ZP : List Value → List Value → List (Str × Value) → Prop
  | nil1 {b : List Value} : ZP [] b []
  | nil2 {a : List Value} : ZP a [] []
  | cons {k : Str} {t : Tok} {v : Value} {a b : List Value} {ps : List (Str × Value)} : ZP a b ps → ZP (.str k t :: a) (v :: b) ((k, v) :: ps)
theorem zupd_loop {prog : Program} {w : World} {A : Around} {d z TI TO i1 i2 l1 l2 : Addr} {b1 b2 : Bool} {ws us : List Value} (hh : A.handled = none) (D : ZipApart z TI TO i1 i2 l1 l2) (hd : d ≠ z ∧ d ≠ TI ∧ d ≠ TO ∧ d ≠ i1 ∧ d ≠ i2 ∧ d ≠ l1 ∧ d ≠ l2) : ∀ (ps : List (Str × Value)) (i : Nat) (acc : List (Str × Value)) (f0 : Value) (f1 : Bool) (s : Shared) (R : Result → Shared → Prop), ZP (ws.drop i) (us.drop i) ps →
    ZipSt s.heap z TI TO i1 i2 l1 l2 b1 b2 i ws.toArray us.toArray f0 f1 → Owned s.heap f0 f1 → s.heap.DictOf (strKind prog w) d acc → acc.length + ps.length ≤ 16777216 →
    (∀ h' tk, h'.DictOf (strKind prog w) d (storeAll acc ps) → (∀ b o, b ≠ d → b ≠ z → b ≠ TO → b ≠ i1 → b ≠ i2 → s.heap.get? b = some o → h'.get? b = some o) → R (.ok (.ret .none)) { s with heap := h', toks := tk }) →
    codeAny (model prog w) A (.builtin "dict.update.loop" ⟨[.ref d, .ref z, rawInt i, .none], []⟩) R s
  | [], i, acc, f0, f1, s, R, hp, Z, hO, hD, hz, k => by
    refine codeAny_builtin entry_upd ?_
    rw [Around.under_plainId plain_upd]
    unfold Builtin.«dict.update.loop»
    have hend : ws.toArray[i]? = none ∨ us.toArray[i]? = none := by
      generalize hw : ws.drop i = a at hp
      generalize hu : us.drop i = b at hp
      cases hp with
      | nil1 => left; have := congrArg (fun l : List Value => l[0]?) hw; simpa using this
      | nil2 => right; have := congrArg (fun l : List Value => l[0]?) hu; simpa using this
    show wpAny _ _ (pyNext (.ref z) >>= _) _ _ _
    refine wpAny_bind (zipG_end (A := A.in1) hh D Z hO hend fun h' he => ?_)
    show wpAny _ _ (Builtin.Dict.addKeywords d [] >>= _) _ _ _
    refine wpAny_bind (wpAny_pure (wpAny_pure ?_))
    obtain ⟨d1, d2, d3, d4, d5, d6, d7⟩ := hd
    exact k h' _ (hD.at fun o e => he d o d1 d3 d4 d5 e) fun b o n1 n2 n3 n4 n5 e => he b o n2 n3 n4 n5 e
  | (key, v) :: ps, i, acc, f0, f1, s, R, hp, Z, hO, hD, hz, k => by
    refine codeAny_builtin entry_upd ?_
    rw [Around.under_plainId plain_upd]
    unfold Builtin.«dict.update.loop»
    obtain ⟨d1, d2, d3, d4, d5, d6, d7⟩ := id hd
    generalize hw : ws.drop i = wd at hp
    generalize hu : us.drop i = ud at hp
    cases hp with
    | @cons _ t _ wr ur _ r =>
      have w0 : ws[i]? = some (.str key t) := by
        have := congrArg (fun l : List Value => l[0]?) hw
        simpa using this
      have w1 : ws.drop (i + 1) = wr := by
        have := congrArg List.tail hw
        simpa using this
      have u0 : us[i]? = some v := by
        have := congrArg (fun l : List Value => l[0]?) hu
        simpa using this
      have u1 : us.drop (i + 1) = ur := by
        have := congrArg List.tail hu
        simpa using this
      show wpAny _ _ (pyNext (.ref z) >>= _) _ _ _
      refine wpAny_bind (zipG_item (A := A.in1) D Z hO (x := .str key t) (y := v) (by simpa using w0) (by simpa using u0) fun h1 q f0' f1' Z1 hO1 _ hq fq kp1 => ?_)
      have D1 : h1.DictOf (strKind prog w) d acc := hD.at fun o e => kp1 d o d1 d3 d4 d5 e
      refine wpAny_bind (wpAny_holding (wpAny_bind (wpAny_tryCatch ?_)))
      unfold Builtin.Dict.pairItems
      refine wpAny_bind (wpAny_typeOf (T := "tuple") ⟨_, hq, rfl⟩ ?_)
      rw [if_pos (by decide)]
      refine wpAny_bind (wpAny_seqItems hq rfl (wpAny_pure ?_))
      show wpAny _ _ (holding [.str key t, v] (dictSet d (.str key t) v)) _ _ _
      refine wpAny_holding (wpAny_dictSet_pairs (knd := strKind prog w) (strKind_is prog w key t) D1 (fun h2 D2 hs2 => ?_) (by rw [sizeLine_eq]; simp at hz; omega))
      refine wpAny_pure ⟨plainId_quiet plain_upd _, ?_⟩
      have Z2 := Z1.at (h' := h2) fun b hb o e => hs2.extBut b o (by
        simp at hb
        rcases hb with rfl | rfl | rfl | rfl | rfl | rfl | rfl
        · exact Ne.symm d1
        · exact Ne.symm d2
        · exact Ne.symm d3
        · exact Ne.symm d4
        · exact Ne.symm d5
        · exact Ne.symm d6
        · exact Ne.symm d7) e
      have hO2 : Owned h2 f0' f1' := by
        rcases hO1 with h | ⟨T, oT, e1, e2⟩
        · exact .inl h
        · by_cases hTd : T = d
          · obtain ⟨o, _, _, e3, _⟩ := D2; exact .inr ⟨T, o, e1, by rw [hTd]; exact e3⟩
          · exact .inr ⟨T, oT, e1, hs2.extBut _ _ hTd e2⟩
      refine zupd_loop hh D hd ps (i + 1) (stored acc key v) f0' f1' _ R (w1 ▸ u1 ▸ r) Z2 hO2 D2 (by have := stored_len acc key v; simp at hz; omega) fun h3 tk D3 k3 => k h3 tk D3 fun b o n1 n2 n3 n4 n5 eb => k3 b o n1 n2 n3 n4 n5 (hs2.extBut b o n1 (kp1 b o n2 n3 n4 n5 eb))
theorem call_dict_zip {prog : Program} {w : World} {A : Around} {E : Value → Shared → Prop} {s : Shared} {z TI TO i1 i2 l1 l2 : Addr} {b1 b2 : Bool} {ws us : List Value} {ps : List (Str × Value)} {Q : Value → Shared → Prop} (hh : A.handled = none) (D : ZipApart z TI TO i1 i2 l1 l2) (Z : ZipSt s.heap z TI TO i1 i2 l1 l2 b1 b2 0 ws.toArray us.toArray .none false)
    (hp : ZP ws us ps) (hz : ps.length ≤ 16777216)
    (h : ∀ h' tk, h'.DictOf (strKind prog w) s.heap.objs.size (storeAll [] ps) → (∀ b o, b ≠ z → b ≠ TO → b ≠ i1 → b ≠ i2 → s.heap.get? b = some o → h'.get? b = some o) → Q (.ref s.heap.objs.size) { s with heap := h', toks := tk }) :
    wpAny (model prog w) A (call (.type "dict") [.ref z]) Q E s := by
  refine callType_codes (Q₁ := fun obj s₁ => obj = .ref s.heap.objs.size ∧ s₁ = { s with heap := s.heap.push { cls := .type "dict", data := .dict #[] } }) PySem.F.kt_called_dict (PySem.F.kt_typeCall_dict_1 _) PySem.F.entry_dict_init (PySem.kt_code_dict_new _ ⟨rfl, rfl⟩) ?_
  rintro obj s₁ ⟨rfl, rfl⟩
  have hnew : (s.heap.push { cls := .type "dict", data := .dict #[] }).DictOf (strKind prog w) s.heap.objs.size [] := Heap.DictOf.new s.heap
  have Z1 := Z.at (h' := s.heap.push { cls := .type "dict", data := .dict #[] }) fun b _ o e => Heap.get?_push_of_some _ e
  refine ⟨hnew.typeIs, PySem.F.args_dict_init_2 _ _, ?_⟩
  unfold Builtin.«dict.__init__»
  refine wpAny_bind ?_
  unfold Builtin.Dict.selfAndRest
  refine wpAny_bind (wpAny_notOrdered_dict hnew.typeIs ?_)
  show wpAny _ _ (pure (s.heap.objs.size, [Value.ref z])) _ _ _
  refine wpAny_pure ?_
  show wpAny _ _ (Builtin.Dict.updateFrom "dict.__init__" s.heap.objs.size (.ref z) [] .none) _ _ _
  unfold Builtin.Dict.updateFrom
  refine wpAny_bind (wpAny_typeOf (T := "zip") ⟨_, Z1.zr, rfl⟩ ?_)
  rw [if_pos (by decide)]
  refine wpAny_bind (miss_zip Z1.zr keys_miss_zip (by decide) hh (fun h2 tk k2 => ?_))
  rw [if_pos (by rfl)]
  refine wpAny_bind (wpAny_rule ?_)
  have Z2 := Z1.at (h' := h2) fun b _ o e => k2 b o e
  refine wpAny_bind (wpAny_pyIter_zip (s := ⟨h2, _, _, _, _⟩) Z2.zr ?_)
  refine wpAny_bind (wpAny_pure ?_)
  refine wpAny_pure ⟨plainId_quiet plain_upd _, ?_⟩
  have lt : ∀ b o, s.heap.get? b = some o → s.heap.objs.size ≠ b := fun b o e => Nat.ne_of_gt (Heap.lt_size e)
  obtain ⟨zr, zTI, ⟨_, _, zTO⟩, ⟨_, z1, _⟩, ⟨_, z2, _⟩, ⟨_, z3, _⟩, ⟨_, z4, _⟩⟩ := id Z
  refine zupd_loop (A := A.in1) (ws := ws) (us := us) (s := { s with heap := h2, toks := tk }) hh D ⟨lt _ _ zr, lt _ _ zTI, lt _ _ zTO, lt _ _ z1, lt _ _ z2, lt _ _ z3, lt _ _ z4⟩ ps 0 [] .none false _ (by simpa using hp) Z2 (.inl ⟨rfl, rfl⟩) (hnew.keep k2) (by simpa using hz) fun h4 tk4 D4 k4 => ?_
  exact ⟨rfl, h h4 tk4 D4 fun b o n2 n3 n4 n5 e => k4 b o (fun q => lt b o e q.symm) n2 n3 n4 n5 (k2 _ _ (Heap.get?_push_of_some _ e))⟩
end
section
open PySem PySem.W PySem.Calls PyProof.Rows
section
noncomputable abbrev pcx (k : CloK) (ca cd f : Addr) (h₀ : Heap) (outer : List Env) (fr : List (Addr × (Str → Option Value))) (L dp un : Nat) (gd : Option (List Code)) (hid : Addr → Prop) : Cx :=
  { h₀ := h₀, outer := outer, fr := fr, L := L, env := newEnv k.scope L mainGlobals [(k.x, ca)] (k.qual ++ ".<locals>.") (some f) (.ref cd) none builtinsNs,
    fenv := newEnv k.scope L mainGlobals [(k.x, ca)] (k.qual ++ ".<locals>.") (some f) (.ref cd) none builtinsNs, dp := dp, un := un, gd := gd, hid := hid, mf := none, hdl := none }
theorem Fn.put {G : Gx} {y : Str} {a q : PV} {n : Nat} {body : List Stmt} {Q : PV → Prop} (hbody : G.kput.body = .stmts body)
    (hbind : ∀ c cd pm ct s v, BindsTo s (cloFd G.kput c cd pm ct) ⟨[v], []⟩ [(y, v)]) (hy : G.kput.scope.names.lookup y = some .local) (hx : G.kput.scope.names.lookup G.kput.x = some .free) (hcell : ∀ p ∈ G.kput.scope.names, p.2 ≠ .cell)
    (hco : G.kput.scope.isCoroutine = false) (hgen : G.kput.scope.isGenerator = false) (hk : G.kput.scope.kind = .function)
    (h : ∀ ca cd f h₀ outer fr L dp un gd hid m, Cx.Ok G (pcx G.kput ca cd f h₀ outer fr L dp un gd hid) → (pcx G.kput ca cd f h₀ outer fr L dp un gd hid).room n →
      Exs G (pcx G.kput ca cd f h₀ outer fr L dp un gd hid) ⟨m, [(y, .v a), (G.kput.x, .v q)], []⟩ body (fun _ => Q .none) Q fun _ => False) : Fn G (.put q) [a] (n + 1) Q := by
  intro c st O hr hh tk vs S rs Q' E' z
  refine rs.of2 fun vf va rf ra => rf.ofPut fun f v hcv rq => ?_
  obtain ⟨ca, cd, pm, ct, oc, ocd, cvs, t, ef, ec, dc, ed, dd, dn⟩ := hcv
  · · · show wpAny _ _ (call (.ref f) [va] []) _ _ _
        have sg := ground O S
        have big : ∀ b o, hh.get? b = some o → b < hh.objs.size := fun b o e => Heap.lt_size e
        refine wpAny_call (codeAny_call_function (by show c.dp < recursionLimit; have := hr.1; show c.dp < 1000; omega) (VW.get ef) rfl hco hgen hbody ⟨cd, ocd, cvs, t, rfl, VW.get ed, dd, dn⟩ (hbind ca cd pm ct _ va _ _ _ _ ?_))
        refine wpAny_newFunctionEnv hcell (fun p hp => by rw [List.mem_singleton.mp hp]; exact hy) (fun h₁ hns hsb => ?_) hk
        dsimp only at hns hsb
        have kk : ∀ b o, hh.get? b = some o → h₁.get? b = some o := fun b o e => hsb.extBut b o (Nat.ne_of_lt (big b o e)) (Heap.get?_push_of_some _ e)
        have hidOcc : ∀ b, Hid c st b → b < hh.objs.size := fun b q => by obtain ⟨o, e⟩ := S.occ b q; exact big b o e
        let hid' : Addr → Prop := fun b => b = hh.objs.size ∨ Hid c st b
        have Mlt : ∀ b ∈ c.L :: c.M G, b < hh.objs.size := fun b hb => by
          rcases List.mem_cons.mp hb with rfl | hb
          · exact S.F.ns.lt
          · obtain ⟨o, e⟩ := S.glb.hasM b hb; exact big b o e
        have caM : ca ∉ c.L :: c.M G := fun q => VW.old ec (by
          rcases List.mem_cons.mp q with rfl | q
          · exact .inl O.hLh
          · exact hid_of_M O q)
        have calt := big ca oc (VW.get ec)
        let c' : Cx := pcx G.kput ca cd f (hideAll hh (c.L :: c.M G)) (c.fenv :: c.outer) ((c.L, c.mf.getD st.m) :: c.fr) hh.objs.size (c.dp + 1) (c.un + 3) c.gd hid'
        have cel : ∀ x cb, c'.env.cells.lookup x = some cb → cb = ca := fun x cb e => by
          have e : List.lookup x [(G.kput.x, ca)] = some cb := e
          rw [List.lookup_cons] at e
          split at e
          · exact (Option.some.inj e).symm
          · simp at e
        have O' : Cx.Ok G c' :=
          { fro := by show (c.fenv :: c.outer).map _ = _; rw [List.map_cons, O.ff, O.fro]; rfl
            frk := fun e he => (List.mem_cons.mp he).elim (fun q => q ▸ O.kf) (O.frk e)
            X := O.X.keeps sg, T := O.T.keeps sg, kf := hk, ff := rfl, ke := hk, ge := rfl, be := rfl, fe := rfl
            hM := fun b hb => hideAll_none _ hb, hLM := fun q => Nat.lt_irrefl _ (Mlt _ q)
            hS := O.hS, tM := O.tM, hMh := fun b hb => .inr ((List.mem_cons.mp hb).elim (fun q => .inl (q ▸ O.hLh)) fun q => hid_of_M O q), hLh := .inl rfl
            kH := fun a o e q => q.elim (fun q => by have := Heap.lt_size (S.F.keep _ _ (O.X a o e)); rw [q] at this; exact Nat.lt_irrefl _ this) (kHid O S e)
            loc := fun _ => ⟨rfl, rfl⟩, locC := fun _ e => nomatch e
            cel := fun x cb e => by rw [cel x cb e]; exact ⟨caM, Nat.ne_of_lt calt⟩
            apart := fun _ => by show List.Pairwise _ [(G.kput.x, ca)]; simp }
        have R' : c'.room n := ⟨by have := hr.1; show c.dp + 1 + n < 900; omega, by have := hr.2.1; show c.un + 3 + 8 * n + 200 < 9900; omega, rfl⟩
        let m' : Str → Option Value := fun x => [(y, va)].reverse.lookup x
        let st' : AS := ⟨m', [(y, .v a), (G.kput.x, .v q)], []⟩
        have nomut : ∀ z k, st'.ρ.lookup z ≠ some (.mut k) := fun z k e => by
          have e : List.lookup z [(y, LV.v a), (G.kput.x, LV.v q)] = some (.mut k) := e
          rw [List.lookup_cons] at e
          split at e
          · cases e
          · rw [List.lookup_cons] at e
            split at e
            · cases e
            · simp at e
        have V0 : VLe (VW c st hh) (VW c' st' h₁) := fun b o e => by
          rw [view_some] at e ⊢
          have lt := big b o e.2
          refine ⟨?_, kk b o e.2⟩
          rintro (q | q | ⟨y, its, q⟩)
          · rcases q with q | q
            · exact Nat.lt_irrefl _ (q ▸ lt)
            · exact e.1 q
          · cases q
          · exact nomut _ _ q.1
        have hyx : y ≠ G.kput.x := fun q => by rw [q, hx] at hy; cases hy
        have S' : St G c' st' h₁ :=
          { F := ⟨hns, fun b o e => kk b o (of_hideAll _ e), Nat.le_of_eq (hideAll_size _ _)⟩
            Nn := hns
            ρ := fun x p e => by
              have e : List.lookup x [(y, LV.v a), (G.kput.x, LV.v q)] = some (.v p) := e
              rw [List.lookup_cons] at e
              split at e
              · rename_i hxy
                cases e
                have : x = y := by simpa using hxy
                subst this
                exact .inl ⟨hy, va, by show [(x, va)].reverse.lookup x = _; simp, ra.mono V0⟩
              · rw [List.lookup_cons] at e
                split at e
                · rename_i hxy
                  cases e
                  have : x = G.kput.x := by simpa using hxy
                  subst this
                  refine .inr ⟨.inr hx, ca, v, ?_, ⟨oc, kk _ _ (VW.get ec), dc⟩, rq.mono V0⟩
                  show List.lookup G.kput.x [(G.kput.x, ca)] = _
                  simp
                · simp at e
            mu := fun x b e => (nomut x b e).elim
            nd := fun x _ b _ _ e => (nomut x b e).elim
            occ' := fun b q => by
              rcases q with (q | q) | q | ⟨x, its, q⟩
              · obtain ⟨o, _, _, e, d, _⟩ := hns
                exact ⟨o, by rw [q]; exact e, .dic d⟩
              · obtain ⟨o, e, n⟩ := S.occ' b q; exact ⟨o, kk b o e, n⟩
              · cases q
              · exact (nomut _ _ q.1).elim
            cocc := fun x cb e => by rw [cel x cb e]; exact ⟨oc, kk _ _ (VW.get ec)⟩
            own := fun b hb => nomatch hb
            glb := by
              have := S.glb.all kk
              exact ⟨this.has, fun p hp => (List.mem_cons.mp hp).elim (fun q => q ▸ S.F.ns.keeps kk) (this.frs p), this.src, this.tput, this.tlam⟩ }
        refine ⟨((O.T.nolimit).keeps S.F.keep).keeps kk, codeAny_func ?_⟩
        show wpAny (model G.prog G.w) ({ handled := c.hdl, depth := c.dp + 1, frames := some (c'.env :: c.fenv :: c.outer), guards := c.gd, units := c.un + 3 } : Around) _ _ _ _
        rw [hr.2.2]
        refine h ca cd f _ _ _ _ _ _ _ hid' m' O' R' h₁ _ S' _ _ (fun st'' h'' tk'' S'' v'' q'' => ?_) (fun v q st'' h'' tk'' S'' v'' r'' q'' => ?_) (fun e l h'' tk'' wr st'' x'' q'' => q''.elim)
        · exact z .none .none h'' tk'' (Step.back O S S''.F S''.glb) .none q''
        · refine z v q h'' tk'' (Step.back O S S''.F S''.glb) (r''.mono fun b o e => ?_) q''
          rw [view_some] at e ⊢
          exact ⟨fun y => e.1 (.inl (.inr y)), e.2⟩
end
section
noncomputable def noDoc : FuncBody → Bool
  | .stmts b => (docOf b).isNone
  | .expr _ => true
section
variable {M : Model} {A : Around} {E : Value → Shared → Prop} {s : Shared} {env : Env} {c P ca : Addr} {ps : Array Value} {firstLine : Nat} {mg : Str → Option Value} {Q : Value → Shared → Prop} {k : CloK}
theorem mkTail (hcl : closureFor k.scope env = pure [(k.x, ca)]) (hge0 : env.globals = mainGlobals) (hg : s.heap.Ns mainGlobals mg) (hcode : env.code = .ref c) (C : CodeHd s.heap c P) (hP : s.heap.get? P = some (tabObj ps)) (ht : TriplesOk ps.toList) (hdoc : noDoc k.body = true)
    (hnf : codeAmong k.pos ps.toList = none) (hgP : mainGlobals ≠ P) (hb : s.heap.BuiltinsAt mg P)
    (h : ∀ c' ctv h' tk, Heap.ExtBut P s.heap h' → s.heap.objs.size ≤ c' → c' < h'.objs.size → (∃ oc vs t, h'.get? c' = some oc ∧ oc.cls = .type "code" ∧ oc.data = .fields vs ∧ vs[1]? = some (.str k.qual t)) → h'.get? P = some (tabObj (ps ++ #[rawInt k.pos.line, rawInt k.pos.col, .ref c'])) →
      Q (.ref h'.objs.size) { s with heap := h'.push (funOf (cloFd k ca c' ((mg "__name__").getD .none) ctv)), toks := tk }) :
    wpAny M A (makeFunction k.name k.qual k.params k.body k.scope env [] [] [] k.pos firstLine) Q E s := by
  rw [makeFunction_eq]
  simp only [List.zip_nil_right, List.filterMap_nil, List.isEmpty_nil, if_true, pure_bind]
  obtain ⟨bm, ob, hbm, hne0, _, hneP, hbo, hcls, hdict, hdata⟩ := hb
  unfold makeTail
  rw [hcl, hge0]
  refine wpAny_bind (wpAny_pure ?_)
  simp only [List.isEmpty_cons, Bool.false_eq_true, if_false]
  refine wpAny_bind (wpAny_newTextTuple ?_)
  refine wpAny_bind (wpAny_functionCodeX hcode ((C.keeps fun b o e => Heap.get?_push_of_some _ e).code (Heap.get?_push_of_some _ hP) ht) ((C.keeps fun b o e => Heap.get?_push_of_some _ e).tab (Heap.get?_push_of_some _ hP)) hnf fun c' h' tk hx hge hlt _ hrec htb hnew => ?_)
  have hg' := (hg.push _).extBut hx hgP
  have hx' : Heap.ExtBut P s.heap h' := fun b o hb' e => hx b o hb' (Heap.get?_push_of_some _ e)
  have hge' : s.heap.objs.size ≤ c' := Nat.le_trans (by rw [Heap.size_push]; omega) hge
  refine wpAny_bind (wpAny_builtinsFor hg' hbm hne0 (hx' _ _ hneP hbo) hcls hdict hdata ?_)
  refine wpAny_bind (wpAny_nsGet hg' ?_)
  have hrec' : ∃ oc vs t, h'.get? c' = some oc ∧ oc.cls = .type "code" ∧ oc.data = .fields vs ∧ vs[1]? = some (.str k.qual t) := by
    obtain ⟨c2, oc, vs, t, e2, e3, e4, e5⟩ := hrec
    cases e2
    obtain ⟨P', _, _, ⟨⟨o, vs', f1, f2, f3, _⟩, _⟩⟩ := hnew
    rw [e3] at f1; cases f1
    exact ⟨oc, vs, t, e3, f2, e4, e5⟩
  split
  · rename_i b hb
    rw [hb] at hdoc
    have hd : docOf b = none := Option.isNone_iff_eq_none.mp hdoc
    rw [hd]
    exact wpAny_bind (wpAny_pure (wpAny_newObj_type (h c' _ h' tk hx' hge' hlt hrec' htb.2) (by size_fits)))
  · exact wpAny_bind (wpAny_pure (wpAny_newObj_type (h c' _ h' tk hx' hge' hlt hrec' htb.2) (by size_fits)))
theorem mkTailHit {cv : Addr} (hcl : closureFor k.scope env = pure [(k.x, ca)]) (hge0 : env.globals = mainGlobals) (hg : s.heap.Ns mainGlobals mg) (hcode : env.code = .ref c) (C : CodeHd s.heap c P) (hP : s.heap.get? P = some (tabObj ps)) (ht : TriplesOk ps.toList) (hdoc : noDoc k.body = true)
    (hf : codeAmong k.pos ps.toList = some (.ref cv)) (hb : s.heap.BuiltinsAt mg P)
    (h : ∀ (ctv : Value) (h' : Heap) (tk : Tok), (∀ b o, s.heap.get? b = some o → h'.get? b = some o) → s.heap.objs.size ≤ h'.objs.size →
      Q (.ref h'.objs.size) { s with heap := h'.push (funOf (cloFd k ca cv ((mg "__name__").getD .none) ctv)), toks := tk }) :
    wpAny M A (makeFunction k.name k.qual k.params k.body k.scope env [] [] [] k.pos firstLine) Q E s := by
  rw [makeFunction_eq]
  simp only [List.zip_nil_right, List.filterMap_nil, List.isEmpty_nil, if_true, pure_bind]
  obtain ⟨bm, ob, hbm, hne0, _, hneP, hbo, hcls, hdict, hdata⟩ := hb
  unfold makeTail
  rw [hcl, hge0]
  refine wpAny_bind (wpAny_pure ?_)
  simp only [List.isEmpty_cons, Bool.false_eq_true, if_false]
  refine wpAny_bind (wpAny_newTextTuple ?_)
  refine wpAny_bind (wpAny_functionCode_hit hcode ((C.keeps fun b o e => Heap.get?_push_of_some _ e).code (Heap.get?_push_of_some _ hP) ht) hf ?_)
  refine wpAny_bind (wpAny_builtinsFor (hg.push _) hbm hne0 (Heap.get?_push_of_some _ hbo) hcls hdict hdata ?_)
  refine wpAny_bind (wpAny_nsGet (hg.push _) ?_)
  have hsz : ∀ oT : Obj, s.heap.objs.size ≤ (s.heap.push oT).objs.size := fun oT => by rw [Heap.size_push]; omega
  split
  · rename_i b hb
    rw [hb] at hdoc
    have hd : docOf b = none := Option.isNone_iff_eq_none.mp hdoc
    rw [hd]
    exact wpAny_bind (wpAny_pure (wpAny_newObj_type (h _ _ s.toks (fun b o e => Heap.get?_push_of_some _ e) (hsz _)) (by size_fits)))
  · exact wpAny_bind (wpAny_pure (wpAny_newObj_type (h _ _ s.toks (fun b o e => Heap.get?_push_of_some _ e) (hsz _)) (by size_fits)))
end
section
variable {G : Gx} {c : Cx} {st : AS} {h : Heap}
theorem tab_apart (O : Cx.Ok G c) (S : St G c st h) {P : Addr} (hP : P ∈ G.M) {ps : Array Value} (e : h.get? P = some (tabObj ps)) : P ≠ c.L ∧ (∀ S', G.S = some S' → S' ≠ P) ∧ (∀ p ∈ c.fr, p.1 ≠ P) ∧ c.h₀.get? P = none ∧ mainGlobals ≠ P := by
  have hPM := mem_M (c := c) hP
  refine ⟨fun q => O.hLM (q ▸ hPM), fun S' eS q => ?_, fun p hp q => ?_, O.hM _ hPM, fun q => ?_⟩
  · obtain ⟨a, b, ta, tb, ⟨o, e1, _, _, d⟩, _⟩ := S.glb.src _ eS
    rw [q, e] at e1; cases e1; cases d
  · obtain ⟨o, es, ep, e1, d, _⟩ := S.glb.frs p hp
    rw [q, e] at e1; cases e1; cases d
  · obtain ⟨o, es, ep, e1, d, _⟩ := O.T.g
    have := O.hM _ hPM
    rw [← q, e1] at this; cases this
theorem mkClo (O : Cx.Ok G c) (S : St G c st h) {k : CloK} (hk : k = G.kput ∨ k = G.klam) (hne : G.kput.tab ≠ G.klam.tab) {cc ca : Addr} (hcode : c.env.code = .ref cc) (C : codeHdIn G.K cc k.tab = true) (hcl : closureFor k.scope c.env = pure [(k.x, ca)]) (hdoc : noDoc k.body = true)
    {fl : Nat} {tk : Nat} {Q : Value → Shared → Prop} {E : Value → Shared → Prop}
    (post : ∀ f cd pm ct h' tk', Step G c st h h' → h.get? f = none → h'.get? f = some (funOf (cloFd k ca cd pm ct)) → (∃ oc cvs t, h'.get? cd = some oc ∧ ¬ Hid c st cd ∧ oc.data = .fields cvs ∧ cvs[1]? = some (.str k.qual t)) → Q (.ref f) (G.sh h' tk')) :
    wpAny (model G.prog G.w) c.A (makeFunction k.name k.qual k.params k.body k.scope c.env [] [] [] k.pos fl) Q E (G.sh h tk) := by
  have T := O.T.keeps S.F.keep
  have CH := codeHd_of_K (O.X.keeps S.F.keep) C
  have hkM : k.tab ∈ G.M := by rcases hk with rfl | rfl; exact O.tM.1; exact O.tM.2
  have tabk : TabSt G.M h k := by rcases hk with rfl | rfl; exact S.glb.tput; exact S.glb.tlam
  obtain ⟨bm, ob, b1, b2, b3, b4, b5, b6⟩ := T.bmain
  have hbG : bm ≠ mainGlobals := fun q => by
    obtain ⟨o, es, ep, e, hd, _⟩ := T.g
    rw [q, e] at b3; cases b3; rw [hd] at b6; cases b6
  have hkMc := mem_M (c := c) hkM
  rcases tabk with t | ⟨c', oc, vs, tt, e1, e2, e3, e4, e5, e6⟩
  · obtain ⟨pL, pS, pF, p0, pG⟩ := tab_apart O S hkM (ps := #[]) t
    have hbP : bm ≠ k.tab := fun q => by rw [q, t] at b3; cases b3; cases b4
    refine mkTail (ps := #[]) hcl O.ge T.g hcode CH t trivial hdoc rfl pG ⟨bm, ob, b1, b2, hbG, hbP, b3, b4, b5, b6⟩ fun c' ctv h' tk' hx hge hlt hrec htb => ?_
    obtain ⟨oc, vs, t', r1, r2, r3, r4⟩ := hrec
    have kp : ∀ b o, b ≠ k.tab → h.get? b = some o → (h'.push (funOf (cloFd k ca c' ((G.mg "__name__").getD .none) ctv))).get? b = some o := fun b o nb eb => Heap.get?_push_of_some _ (hx b o nb eb)
    have nP : ∀ b o vs, h.get? b = some o → o.data = .fields vs → o.cls = .type "code" → b ≠ k.tab := fun b o vs eb d cc q => by
      rw [q, t] at eb; cases eb; cases cc
    have fresh' : h.get? h'.objs.size = none := by
      cases w : h.get? h'.objs.size with
      | none => rfl
      | some o => exact absurd (Nat.lt_of_lt_of_le (Heap.lt_size w) (Nat.le_trans hge (Nat.le_of_lt hlt))) (Nat.lt_irrefl _)
    have freshc : h.get? c' = none := Heap.get?_none_of_le hge
    have cM : c' ∉ G.M := fun q => by obtain ⟨o, e, _⟩ := S.glb.has c' q; exact clash freshc e
    have tabN : (h'.push (funOf (cloFd k ca c' ((G.mg "__name__").getD .none) ctv))).get? k.tab = some (tabObj #[rawInt k.pos.line, rawInt k.pos.col, .ref c']) := Heap.get?_push_of_some _ htb
    have tabk' : TabSt G.M (h'.push (funOf (cloFd k ca c' ((G.mg "__name__").getD .none) ctv))) k := .inr ⟨c', oc, vs, t', tabN, Heap.get?_push_of_some _ r1, r3, r4, cM, r2⟩
    have other : ∀ kk : CloK, kk.tab ≠ k.tab → TabSt G.M h kk → TabSt G.M (h'.push (funOf (cloFd k ca c' ((G.mg "__name__").getD .none) ctv))) kk := fun kk ne q => by
      rcases q with q | ⟨c2, o2, v2, t2, f1, f2, f3, f4, f5, f6⟩
      · exact .inl (kp _ _ ne q)
      · exact .inr ⟨c2, o2, v2, t2, kp _ _ ne f1, kp _ _ (nP _ _ _ f2 f3 f6) f2, f3, f4, f5, f6⟩
    have s : Step G c st h (h'.push (funOf (cloFd k ca c' ((G.mg "__name__").getD .none) ctv))) := by
      refine ⟨fun b o n1 _ eb => kp b o (fun q => n1 (q ▸ hkMc)) eb, ⟨S.F.ns.at' fun o e => kp _ o (Ne.symm pL) e, fun b o eb => kp b o (fun q => by exact clash p0 (q ▸ eb)) (S.F.keep b o eb), S.F.above⟩, fun b hb => ?_, fun p hp => (S.glb.frs p hp).at' fun o e => kp _ o (pF p hp) e, fun S' eS => ?_, ?_, ?_⟩
      · by_cases q : b = k.tab
        · exact ⟨_, q ▸ tabN, .ne (by simp)⟩
        · obtain ⟨o, e, n⟩ := S.glb.has b hb; exact ⟨o, kp b o q e, n⟩
      · obtain ⟨a, b, ta, tb, ⟨n, f1, fd⟩, r⟩ := S.glb.src S' eS
        exact ⟨a, b, ta, tb, ⟨n, kp _ _ (pS S' eS) f1, fd⟩, r⟩
      · rcases hk with rfl | rfl
        · exact tabk'
        · exact other _ hne S.glb.tput
      · rcases hk with rfl | rfl
        · exact other _ (Ne.symm hne) S.glb.tlam
        · exact tabk'
    exact post h'.objs.size c' _ ctv _ tk' s fresh' (Heap.get?_push_size _ rfl) ⟨oc, vs, t', Heap.get?_push_of_some _ r1, fun q => (by obtain ⟨o, e⟩ := S.occ _ q; exact clash freshc e), r3, r4⟩
  · obtain ⟨pL, pS, pF, p0, pG⟩ := tab_apart O S hkM (ps := #[rawInt k.pos.line, rawInt k.pos.col, .ref c']) e1
    have hbP : bm ≠ k.tab := fun q => by rw [q, e1] at b3; cases b3; cases b4
    refine mkTailHit (cv := c') (ps := #[rawInt k.pos.line, rawInt k.pos.col, .ref c']) hcl O.ge T.g hcode CH e1 trivial hdoc (by simp [codeAmong, rawInt]) ⟨bm, ob, b1, b2, hbG, hbP, b3, b4, b5, b6⟩ fun ctv h' tk' kp hsz => ?_
    have s := S.keepAll (h' := h'.push (funOf (cloFd k ca c' ((G.mg "__name__").getD .none) ctv))) O fun b o e => Heap.get?_push_of_some _ (kp b o e)
    refine post h'.objs.size c' _ ctv _ tk' s ?_ (Heap.get?_push_size _ rfl) ⟨oc, vs, tt, Heap.get?_push_of_some _ (kp _ _ e2), fun q => ?_, e3, e4⟩
    · cases w : h.get? h'.objs.size with
      | none => rfl
      | some o => exact absurd (Nat.lt_of_lt_of_le (Heap.lt_size w) hsz) (Nat.lt_irrefl _)
    · obtain ⟨o, e, n⟩ := S.occ' _ q
      rw [e2] at e; cases e
      exact n vs e3 e6
end
end
end
section
open PySem PySem.W PyProof.Rows
structure Kept.{u} {α : Sort u} (H : α) : Prop where
theorem kept.{u} {R : Prop} {α : Sort u} (H : α) (r : R) : R := (fun _ : Kept H => r) ⟨⟩
theorem aside {ty : Prop} (R : Prop) (_ : True) (c : ty) (_ : R → R) : ty := c
section
local macro_rules | `(tactic| o_law) => `(tactic| (refine aside PySem.Challenge.rw_xw0165_01.row.Holds ?hw ?hc fun r => ?hr; rotate_left; rotate_left))
local macro_rules | `(tactic| o_head $H) => `(tactic| exact kept $H (by assumption))
local macro_rules | `(tactic| w_witness2) => `(tactic| exact trivial)
open_top hp for PySem.Challenge.rw_xw0165_01
end
end
section
open PySem PySem.W PySem.Calls PyProof.Rows
section
theorem ite_t {b : Bool} {P Q : Prop} (h : b = true) (p : P) : if b = true then P else Q := by rw [if_pos h]; exact p
theorem ite_f {b : Bool} {P Q : Prop} (h : b = false) (p : Q) : if b = true then P else Q := by rw [if_neg (by rw [h]; decide)]; exact p
theorem Cx.room.le {c : Cx} {n m : Nat} (r : c.room n) (h : m ≤ n) : c.room m := ⟨by have := r.1; omega, by have := r.2.1; omega, r.2.2⟩
theorem Fn.le {G : Gx} {f : PV} {args : List PV} {n m : Nat} {Q : PV → Prop} (h : Fn G f args n Q) (k : n ≤ m) : Fn G f args m Q := fun c st O r => h c st O (r.le k)
theorem nsIn_of {G : Gx} {K' : Frag} (hK : G.K = K') {x : Str} {v : Option (Option Value)} (h : nsIn K' mainGlobals x = v) : nsIn G.K mainGlobals x = v := hK ▸ h
theorem okF_of {G : Gx} {K' : Frag} (hK : G.K = K') {a : Addr} (h : keepIn K' (.ref a) = true) : okF G (.adr a) = true := by show keepIn G.K (.ref a) = true; rw [hK]; exact h
noncomputable abbrev S' (x : String) : PV := .str (Str.ofString x)
noncomputable abbrev tByte : PV := .tup [S' "int", S' "u8"]
noncomputable abbrev tUnit : PV := .tup [S' "tuple", .tup []]
noncomputable abbrev tBool : PV := .tup [S' "bool"]
noncomputable abbrev tPar (n : Str) : PV := .tup [S' "param", .str n]
noncomputable abbrev tBox (q : PV) : PV := .tup [S' "box", q]
noncomputable abbrev tArr (q : PV) (k : Int) : PV := .tup [S' "array", q, .int k]
noncomputable abbrev tRef (r : PV) (b : Bool) (q : PV) : PV := .tup [S' "ref", r, .bool b, q]
noncomputable abbrev tAdt (p : Str) (rs ps : List PV) : PV := .tup [S' "adt", .str p, .tup rs, .tup ps]
end
section
theorem arityS {n : Nat} {P : List Value → Prop} (h : ∀ a vals, vals.length = n → P (a :: vals)) (vals : List Value) (e : vals.length = n + 1) : P vals := by
  cases vals with
  | nil => cases e
  | cons a vals => exact h a vals (Nat.succ.inj e)
theorem arity0 {P : List Value → Prop} (h : P []) (vals : List Value) (e : vals.length = 0) : P vals := List.eq_nil_of_length_eq_zero e ▸ h
theorem arity1 {P : List Value → Prop} (h : ∀ a, P [a]) : ∀ vals, vals.length = 1 → P vals := arityS fun a => arity0 (P := fun l => P (a :: l)) (h a)
theorem arity2 {P : List Value → Prop} (h : ∀ a b, P [a, b]) : ∀ vals, vals.length = 2 → P vals := arityS fun a => arity1 (P := fun l => P (a :: l)) (h a)
theorem arity3 {P : List Value → Prop} (h : ∀ a b c, P [a, b, c]) : ∀ vals, vals.length = 3 → P vals := arityS fun a => arity2 (P := fun l => P (a :: l)) (h a)
theorem arity4 {P : List Value → Prop} (h : ∀ a b c d, P [a, b, c, d]) : ∀ vals, vals.length = 4 → P vals := arityS fun a => arity3 (P := fun l => P (a :: l)) (h a)
theorem arity5 {P : List Value → Prop} (h : ∀ a b c d e, P [a, b, c, d, e]) : ∀ vals, vals.length = 5 → P vals := arityS fun a => arity4 (P := fun l => P (a :: l)) (h a)
theorem arity8 {P : List Value → Prop} (h : ∀ a b c d e f g i, P [a, b, c, d, e, f, g, i]) : ∀ vals, vals.length = 8 → P vals := arityS fun a => arityS (P := fun l => P (a :: l)) fun b => arityS (P := fun l => P (a :: b :: l)) fun c => arity5 (P := fun l => P (a :: b :: c :: l)) (h a b c)
noncomputable def nmIn (names : List Str) : Rhs → Bool
  | .nm p => names.contains p
  | _ => true
noncomputable def clsB (P : Params) (C fI : Addr) (fd : FuncData) (names : List Str) (l : List (Str × Rhs)) : Bool :=
  makesIn (hp.heap_1 P) C && typeIn (hp.heap_1 P) (.ref fI) == some (.type "function") && codeIn (hp.heap_1 P) fd.code fd.qualname &&
  decide (Str.ofString "self" :: names).Nodup && ((Str.ofString "self" :: names).all fun y => fd.scope.names.lookup y == some .local) && (cellsFrom 0 fd.scope.names []).isEmpty && clsOk (hp.heap_1 P) C && (l.all fun p => setOk (hp.heap_1 P) C p.1) && (l.all fun p => nmIn names p.2) && decide (l.map (·.1)).Nodup &&
  fd.closure.isEmpty && (fd.globals == mainGlobals) && (fd.builtins == builtinsNs) && !fd.scope.isCoroutine && !fd.scope.isGenerator && (fd.scope.kind == .function) && Nat.ble l.length 900 && ((hp.heap_1 P).lookup 21).isSome
theorem OpL.clsN {G : Gx} (hK : G.K = hp.heap_1 G.w.params) {c : Cx} {st : AS} (O : Cx.Ok G c) {n : Nat} (hr : c.room n) {C fI : Addr} {fd : FuncData} {body : List Stmt} {names : List Str} {l : List (Str × Rhs)} {oc : Value} {od : Option Addr} {osl : Array (Option Value)} {qs dqs : List PV} {ds : List Value} {Q : PV → Prop}
    (hi : findIn (hp.heap_1 G.w.params) (.ref C) "__init__" = some (some (.ref fI))) (ho : (hp.heap_1 G.w.params).lookup fI = some ⟨oc, od, .func fd, osl⟩) (hbody : fd.body = .stmts body) (hok : clsB G.w.params C fI fd names l = true) (hds : ∀ V, VRs G V ds dqs) (hbind : ∀ x hh tk vs, G.K.In hh → vs.length = qs.length → BindsTo (G.sh hh tk) fd ⟨.ref x :: vs, []⟩ ((Str.ofString "self" :: names).zip (.ref x :: (vs ++ ds))))
    (hlen : names.length = qs.length + dqs.length) (hB : ∀ L, InitB (callEnvC fd L fI) (Str.ofString "self") body l) (hq : Q (.ins C (l.map fun p => (p.1, rv (names.zip (qs ++ dqs)) p.2)))) : OpL G c st callL (.adr C :: qs) Q := by
  unfold clsB at hok
  simp only [Bool.and_eq_true, decide_eq_true_eq, Bool.not_eq_true', beq_iff_eq, List.isEmpty_iff] at hok
  obtain ⟨⟨⟨⟨⟨⟨⟨⟨⟨⟨⟨⟨⟨⟨⟨⟨⟨h1, h3⟩, h4⟩, h5⟩, h6⟩, h7⟩, h8⟩, h9⟩, h10⟩, h11⟩, h12⟩, h13⟩, h14⟩, h15⟩, h16⟩, h17⟩, h18⟩, h19⟩ := hok
  obtain ⟨ko, hko⟩ := Option.isSome_iff_exists.mp h19
  exact OpL.cls O hr (self := Str.ofString "self") (by rw [hK]; exact h1) (by rw [hK]; exact hi) (by rw [hK]; exact h3) (by rw [hK]; exact ho) hbody (by rw [hK]; exact h4) hds hbind hlen h5 (List.all_eq_true.mpr fun y hy => by simpa using List.all_eq_true.mp h6 y hy) h7 (by decide) hB (by rw [hK]; exact h8) (by rw [hK]; exact h9)
    (fun f p h => by have := List.all_eq_true.mp h10 _ h; exact List.contains_iff_mem.mp this) h11 (bleT h18) (kb := 21) (by rw [hK]; exact hko) (by decide) hq h12 h13 h14 h15 h16 h17
theorem c_adt {G : Gx} (hK : G.K = hp.heap_1 G.w.params) {c : Cx} {st : AS} (O : Cx.Ok G c) {n : Nat} (hr : c.room n) {a0 a1 a2 a3 a4 : PV} {Q : PV → Prop}
    (hq : Q (.ins 209 [(Str.ofString "path", a0), (Str.ofString "module", .str (Str.ofString "")), (Str.ofString "regions", a1), (Str.ofString "params", a2), (Str.ofString "variants", a3), (Str.ofString "publics", .adr 198), (Str.ofString "is_enum", a4)])) : OpL G c st callL [.adr 209, a0, a1, a2, a3, a4] Q :=
  OpL.clsN hK O hr (C := 209) (fI := _) (names := ["path", "regions", "params", "variants", "is_enum", "module", "publics"].map Str.ofString) (dqs := [.str (Str.ofString ""), .adr 198]) (ds := [.str (Str.ofString "") 432, .ref 198]) (l := [(Str.ofString "path", .nm (Str.ofString "path")), (Str.ofString "module", .nm (Str.ofString "module")), (Str.ofString "regions", .nm (Str.ofString "regions")), (Str.ofString "params", .nm (Str.ofString "params")), (Str.ofString "variants", .nm (Str.ofString "variants")), (Str.ofString "publics", .nm (Str.ofString "publics")), (Str.ofString "is_enum", .nm (Str.ofString "is_enum"))])
    (by rfl) (by rfl) (by rfl) (by rfl) (fun V => .cons (.str _ _) (.cons (.adr _) .nil)) (fun x hh tk vs X hl => arity5 (P := fun vs => BindsTo (G.sh hh tk) _ ⟨.ref x :: vs, []⟩ (_ :: List.zip _ (vs ++ _))) (fun _ _ _ _ _ => binds_K X rfl (by rw [hK]; rfl) rfl rfl rfl) vs hl) (by rfl) (by intro L; repeat (first | exact .nil | refine .nm (by rfl) (by rfl) ?_)) hq
theorem c_sig {G : Gx} (hK : G.K = hp.heap_1 G.w.params) {c : Cx} {st : AS} (O : Cx.Ok G c) {n : Nat} (hr : c.room n) {a0 a1 a2 a3 a4 a5 a6 a7 : PV} {Q : PV → Prop}
    (hq : Q (.ins 230 [(Str.ofString "path", a0), (Str.ofString "regions", a1), (Str.ofString "params", a2), (Str.ofString "own", a3), (Str.ofString "inputs", a4), (Str.ofString "output", a5), (Str.ofString "self_kind", a6), (Str.ofString "has_body", a7)])) : OpL G c st callL [.adr 230, a0, a1, a2, a3, a4, a5, a6, a7] Q :=
  OpL.clsN hK O hr (C := 230) (fI := _) (names := ["path", "regions", "params", "own", "inputs", "output", "self_kind", "has_body"].map Str.ofString) (dqs := []) (ds := []) (l := [(Str.ofString "path", .nm (Str.ofString "path")), (Str.ofString "regions", .nm (Str.ofString "regions")), (Str.ofString "params", .nm (Str.ofString "params")), (Str.ofString "own", .nm (Str.ofString "own")), (Str.ofString "inputs", .nm (Str.ofString "inputs")), (Str.ofString "output", .nm (Str.ofString "output")), (Str.ofString "self_kind", .nm (Str.ofString "self_kind")), (Str.ofString "has_body", .nm (Str.ofString "has_body"))])
    (by rfl) (by rfl) (by rfl) (by rfl) (fun V => .nil) (fun x hh tk vs _ hl => arity8 (P := fun vs => BindsTo (G.sh hh tk) _ ⟨.ref x :: vs, []⟩ (_ :: List.zip _ (vs ++ []))) (fun _ _ _ _ _ _ _ _ => .of_eq rfl) vs hl) (by rfl) (by intro L; repeat (first | exact .nil | refine .nm (by rfl) (by rfl) ?_)) hq
theorem c_trait {G : Gx} (hK : G.K = hp.heap_1 G.w.params) {c : Cx} {st : AS} (O : Cx.Ok G c) {n : Nat} (hr : c.room n) {a0 a1 a2 a3 : PV} {Q : PV → Prop}
    (hq : Q (.ins 251 [(Str.ofString "path", a0), (Str.ofString "params", a1), (Str.ofString "methods", a2), (Str.ofString "defaults", a3)])) : OpL G c st callL [.adr 251, a0, a1, a2, a3] Q :=
  OpL.clsN hK O hr (C := 251) (fI := _) (names := ["path", "params", "methods", "defaults"].map Str.ofString) (dqs := []) (ds := []) (l := [(Str.ofString "path", .nm (Str.ofString "path")), (Str.ofString "params", .nm (Str.ofString "params")), (Str.ofString "methods", .nm (Str.ofString "methods")), (Str.ofString "defaults", .nm (Str.ofString "defaults"))])
    (by rfl) (by rfl) (by rfl) (by rfl) (fun V => .nil) (fun x hh tk vs _ hl => arity4 (P := fun vs => BindsTo (G.sh hh tk) _ ⟨.ref x :: vs, []⟩ (_ :: List.zip _ (vs ++ []))) (fun _ _ _ _ => .of_eq rfl) vs hl) (by rfl) (by intro L; repeat (first | exact .nil | refine .nm (by rfl) (by rfl) ?_)) hq
theorem c_impl {G : Gx} (hK : G.K = hp.heap_1 G.w.params) {c : Cx} {st : AS} (O : Cx.Ok G c) {n : Nat} (hr : c.room n) {a0 a1 a2 a3 a4 a5 a6 a7 : PV} {Q : PV → Prop}
    (hq : Q (.ins 273 [(Str.ofString "number", a0), (Str.ofString "regions", a1), (Str.ofString "params", a2), (Str.ofString "trait", a3), (Str.ofString "trait_args", a4), (Str.ofString "self_type", a5), (Str.ofString "methods", a6), (Str.ofString "spot", a7)])) : OpL G c st callL [.adr 273, a0, a1, a2, a3, a4, a5, a6, a7] Q :=
  OpL.clsN hK O hr (C := 273) (fI := _) (names := ["number", "regions", "params", "trait", "trait_args", "self_type", "methods", "spot"].map Str.ofString) (dqs := []) (ds := []) (l := [(Str.ofString "number", .nm (Str.ofString "number")), (Str.ofString "regions", .nm (Str.ofString "regions")), (Str.ofString "params", .nm (Str.ofString "params")), (Str.ofString "trait", .nm (Str.ofString "trait")), (Str.ofString "trait_args", .nm (Str.ofString "trait_args")), (Str.ofString "self_type", .nm (Str.ofString "self_type")), (Str.ofString "methods", .nm (Str.ofString "methods")), (Str.ofString "spot", .nm (Str.ofString "spot"))])
    (by rfl) (by rfl) (by rfl) (by rfl) (fun V => .nil) (fun x hh tk vs X hl => arity8 (P := fun vs => BindsTo (G.sh hh tk) _ ⟨.ref x :: vs, []⟩ (_ :: List.zip _ (vs ++ []))) (fun _ _ _ _ _ _ _ _ => binds_K X rfl (by rw [hK]; rfl) rfl rfl rfl) vs hl) (by rfl) (by intro L; repeat (first | exact .nil | refine .nm (by rfl) (by rfl) ?_)) hq
theorem c_ren {G : Gx} (hK : G.K = hp.heap_1 G.w.params) {c : Cx} {st : AS} (O : Cx.Ok G c) {n : Nat} (hr : c.room n) {a0 : PV} {Q : PV → Prop}
    (hq : Q (.ins 174 [(Str.ofString "known", a0), (Str.ofString "found", .dct [])])) : OpL G c st callL [.adr 174, a0] Q :=
  OpL.clsN hK O hr (C := 174) (fI := _) (names := ["known"].map Str.ofString) (dqs := []) (ds := []) (l := [(Str.ofString "known", .nm (Str.ofString "known")), (Str.ofString "found", .dic)])
    (by rfl) (by rfl) (by rfl) (by rfl) (fun V => .nil) (fun x hh tk vs _ hl => arity1 (P := fun vs => BindsTo (G.sh hh tk) _ ⟨.ref x :: vs, []⟩ (_ :: List.zip _ (vs ++ []))) (fun _ => .of_eq rfl) vs hl) (by rfl) (by intro L; repeat (first | exact .nil | refine .nm (by rfl) (by rfl) ?_ | refine .dic ?_)) hq
end
section
theorem k52 (P : Params) : ∃ nm q N bs sn sub ab col dd k0 k1 k2 k3 k5, (hp.heap_1 P).lookup 52 = some (excClassObj nm q 52 N bs [.ref 39, .type "Exception", .type "BaseException", .type "object"] true sn sub ab col dd k0 k1 k2 k3 k5 "Exception.__new__") :=
  ⟨_, _, _, _, _, _, _, _, _, _, _, _, _, _, rfl⟩
structure ExcK (K : Frag) (C : Addr) (bm : List Value) : Prop where
  obj : ∃ nm q N bs sn sub ab col dd k0 k1 k2 k3 k5, K.lookup C = some (excClassObj nm q C N bs bm true sn sub ab col dd k0 k1 k2 k3 k5 "Exception.__new__")
  hasB : bm.contains (.type "Exception") = true
  hasBase : bm.contains (.type "BaseException") = true
  noAttr : bm.contains (.type "AttributeError") = false
  noName : bm.contains (.type "NameError") = false
theorem ExcK.elim {K : Frag} {C : Addr} {bm : List Value} (Y : ExcK K C bm) {P : Prop} (k : ∀ nm q N bs sn sub ab col dd k0 k1 k2 k3 k5, K.lookup C = some (excClassObj nm q C N bs bm true sn sub ab col dd k0 k1 k2 k3 k5 "Exception.__new__") → P) : P :=
  let ⟨_, _, _, _, _, _, _, _, _, _, _, _, _, _, hk⟩ := Y.obj
  k _ _ _ _ _ _ _ _ _ _ _ _ _ _ hk
section
variable {prog : Program} {w : World} {A : Around} {E : Value → Shared → Prop} {h : Heap} {g : Array GenState} {d : Drawn} {t : Nat} {os : OsState} {K : Frag} {C : Addr} {bm : List Value}
theorem exc_check (X : K.In h) (Y : ExcK K C bm) {rest : List Value} {Q : Unit → Shared → Prop} (hq : Q () ⟨h, g, d, t, os⟩) :
    wpAny (model prog w) A (checkBuiltinCall "Exception.__new__" ⟨.ref C :: rest, []⟩) Q E ⟨h, g, d, t, os⟩ := by
  refine Y.elim fun nm q N bs sn sub ab col dd k0 k1 k2 k3 k5 hk => ?_
  have hC := X _ _ hk
  have F := PySem.F.excBase_Exception
  have hcont : (Value.ref C :: bm).contains (.type "Exception") = true := by rw [List.contains_cons, Y.hasB, Bool.or_true]
  have hstar := F.noStar
  simp only [checkBuiltinCall, F.newKind, F.newSplit, F.newRow]
  repeat (first | refine wpAny_loadPart_at hC ?_ | (refine wpAny_isSubtype_exc hC ?_; rw [hcont]) | refine wpAny_staticBase_exc hC ?_ | refine wpAny_madeBy_exc hC ?_ | simp only [bne_self_eq_false, Bool.false_eq_true, if_false] | wp_step)
  exact hq
theorem exc_new (X : K.In h) (Y : ExcK K C bm) {R : Result → Shared → Prop} {rest : List Value}
    (hq : R (.ok (.ret (.ref (h.objs.size + 1)))) ⟨(h.push { cls := .type "tuple", data := .seq rest.toArray }).push
      { cls := .ref C, data := .fields #[.ref h.objs.size, .none, .none, .none, .bool false, .none] }, g, d, t, os⟩) (hrest : rest.length ≤ sizeLine) :
    codeAny (model prog w) A (.builtin "Exception.__new__" ⟨.ref C :: rest, []⟩) R ⟨h, g, d, t, os⟩ := by
  refine Y.elim fun nm q N bs sn sub ab col dd k0 k1 k2 k3 k5 hk => ?_
  have hC := X _ _ hk
  have F := PySem.F.excBase_Exception
  have hends := F.ends
  have hcB : (Value.ref C :: bm).contains (.type "Exception") = true := by rw [List.contains_cons, Y.hasB, Bool.or_true]
  have hcA : (Value.ref C :: bm).contains (.type "AttributeError") = false := by rw [List.contains_cons, Y.noAttr]; rfl
  have hcN : (Value.ref C :: bm).contains (.type "NameError") = false := by rw [List.contains_cons, Y.noName]; rfl
  refine codeAny_builtinAt F.entry ?_
  unfold Builtin.«BaseException.__new__»
  refine PySem.wpAt_bind ?_
  show PySem.wpAt _ _ _ (stack >>= _) _ _ _
  refine PySem.wpAt_bind (PySem.wpAt_stack fun p below => PySem.wpAt_of_wpAny ?_)
  wp_walk
  refine PySem.wpAt_of_wpAny ?_
  rw [F.owner]
  repeat (first | with_reducible refine wpAny_madeHere_exc F.canon hC ?_ | with_reducible refine wpAny_loadPart_at hC ?_ | (with_reducible refine wpAny_isSubtype_exc hC ?_; first | rw [hcB] | rw [hcA] | rw [hcN]) | wp_step)
  show R _ _
  rw [Heap.size_push]
  exact hq
theorem exc_call (X : K.In h) (Y : ExcK K C bm) {rest : List Value} {fI : Addr} {Q : Value → Shared → Prop} (hi : findIn K (.ref C) "__init__" = some (some (.ref fI))) (hf : typeIn K (.ref fI) = some (.type "function"))
    (hq : ∀ h' e, Heap.MadeExcOf h h' e (.ref C) rest → h.objs.size < e →
      wpAny (model prog w) (A.under (.builtin "type.__call__" ⟨.ref C :: rest, []⟩)) (call (.ref fI) (.ref e :: rest)) (fun r s' => r = .none ∧ Q (.ref e) s') E ⟨h', g, d, t, os⟩) (hrest : rest.length ≤ sizeLine) :
    wpAny (model prog w) A (call (.ref C) rest) Q E ⟨h, g, d, t, os⟩ := by
  refine Y.elim fun nm q N bs sn sub ab col dd k0 k1 k2 k3 k5 hk => ?_
  have hC := X _ _ hk
  have F := PySem.F.excBase_Exception
  have f1 := tc_lookup
  have f2 := tc_bind (.ref C)
  have hT : (⟨h, g, d, t, os⟩ : Shared).TypeIs (.ref C) "type" := ⟨_, hC, rfl⟩
  refine wpAny_call (codeAny_of_tree ?_)
  show wpAny _ _ (callAny (.ref C) _) _ _ _
  repeat (any_goals (first | assumption | with_reducible refine wpAny_loadPart_at hC ?_ | wp_step))
  refine ⟨rfl, ?_⟩
  refine codeAny_call_builtin_at (Code.quiet_builtin _ (by decide +kernel)) entry_typeCall (wpAny_check_type_call_sub hC ?_)
  unfold Builtin.«type.__call__»
  repeat (first | with_reducible refine wpAny_loadPart_at hC ?_ | with_reducible refine wpAny_madeBy_exc hC ?_ | wp_step)
  refine codeAny_call_builtin_code (Code.quiet_builtin _ F.quiet) (exc_check X Y ?_)
  refine exc_new X Y ?_ hrest
  show wpAny _ _ _ _ _ _
  have up : ∀ b o, h.get? b = some o → ((h.push { cls := .type "tuple", data := .seq rest.toArray }).push { cls := .ref C, data := .fields #[.ref h.objs.size, .none, .none, .none, .bool false, .none] }).get? b = some o :=
    fun b o e => Heap.get?_push_of_some _ (Heap.get?_push_of_some _ e)
  have X₁ := X.keeps up
  have hC₁ := up _ _ hC
  have hget : ((h.push { cls := .type "tuple", data := .seq rest.toArray }).push
      { cls := .ref C, data := .fields #[.ref h.objs.size, .none, .none, .none, .bool false, .none] }).get? (h.objs.size + 1) = some
      { cls := .ref C, data := .fields #[.ref h.objs.size, .none, .none, .none, .bool false, .none] } := by heap_get
  have hcC : (Value.ref C :: bm).contains (.ref C) = true := by simp
  unfold isInstance
  repeat (first | with_reducible refine wpAny_loadPart_at hget ?_ | (with_reducible refine wpAny_isSubtype_exc hC₁ ?_; rw [hcC]) | wp_step)
  show wpAny _ _ (isSubtype (.ref C) (.ref C)) _ _ _
  refine wpAny_isSubtype_exc hC₁ ?_
  rw [hcC]
  repeat (first | with_reducible refine wpAny_loadPart_at hget ?_ | wp_step)
  show wpAny _ _ (typeLookup (.ref C) _) _ _ _
  refine (looks_findIn X₁ hi).here ?_
  refine wpAny_holding (wpAny_bind ((bind_fn X₁ _ hf).here ?_))
  refine wpAny_bind (wpAny_mono (hq _ (h.objs.size + 1) ⟨up, Heap.get?_none_of_le (Nat.le_succ _), h.objs.size, hget, Heap.get?_none_of_le (Nat.le_refl _), ?_⟩ (Nat.lt_succ_self _)) (fun r s' hr => ?_) fun _ _ x => x)
  · exact Heap.get?_push_of_some _ (Heap.get?_push_at rfl rfl)
  · obtain ⟨rfl, hQ⟩ := hr
    wp_walk
    exact hQ
end
end
section
structure ExcS (K : Frag) (C : Addr) (bm : List Value) : Prop extends ExcK K C bm where
  setA : findIn K (.ref C) "__setattr__" = some (some (.builtin "object.__setattr__"))
  pass : ∀ self, refuseLoop self "__setattr__" bm = pure ()
  hasObj : bm.contains (.type "object") = true
theorem ExcK.cls {K : Frag} {C : Addr} {bm : List Value} (Y : ExcK K C bm) : ∃ cd, clsIn K C = some cd ∧ cd.mro = .ref C :: bm ∧ cd.hasDict = true := by
  refine Y.elim fun nm q N bs sn sub ab col dd k0 k1 k2 k3 k5 hk => ?_
  exact ⟨{ name := nm, bases := bs, mro := .ref C :: bm, ns := N, qualname := q, hasDict := true, slotNames := sn, subclasses := sub, abstract := ab, collection := col, hasDel := false }, by unfold clsIn; rw [hk], rfl, rfl⟩
section
variable {prog : Program} {w : World} {A : Around} {E : Value → Shared → Prop} {h : Heap} {g : Array GenState} {d : Drawn} {t : Nat} {os : OsState} {K : Frag} {C : Addr} {bm : List Value}
theorem put_dict {dx : Addr} {es : List DictEntry} {n : Nat} {fl : List (Str × Value)} {name : Str} {v : Value} {tk : Tok} {Q : Fin → Shared → Prop} (D : h.get? dx = some (dictOf es n)) (he : EsOf w es fl) (hn : name ∉ fl.map (·.1)) (hz : es.length ≤ 900)
    (k : ∀ h' tk' es' n', h'.get? dx = some (dictOf es' n') → EsOf w es' (fl ++ [(name, v)]) → Heap.SameBut dx h h' → Q (.done (.ret .none)) ⟨h', g, d, tk', os⟩) :
    wpAny (model prog w) A (Builtin.ObjectAttr.storeInDict dx (.str name tk) name v) Q E ⟨h, g, d, t, os⟩ := by
  obtain ⟨g1, g2⟩ := he.get hn
  have E' := he.put (t := t) (v := v) hn
  unfold Builtin.ObjectAttr.storeInDict Builtin.ObjectAttr.newKeyGuard
  refine wpAny_bind (wpAny_pure (wpAny_bind ?_))
  unfold nsSet
  refine wpAny_bind (wpAny_bind (wpAny_askSetting (wpAny_pure (wpAny_bind (wpAny_mkText (wpAny_bind (wpAny_loadPart D ?_)))))))
  dsimp only
  have c : (!es.toArray.any (·.key.isStr name) && es.toArray.any (·.refKey)) = false := by
    rw [← Array.any_toList, ← Array.any_toList]
    dsimp only
    rw [g2, Bool.and_false]
  rw [aRefKeyMayBeTheName_at, c]
  refine wpAny_updatePart D ?_
  have hx := Heap.get?_update_self (Obj.putName name (PyData.keyHash w.params name) (.str name t) v) D (by rw [putName_dict]; rfl)
  rw [putName_dict] at hx
  have len : es.length ≤ 900 := hz
  refine wpAny_bind (wpAny_lookBehind hx (pastItsLine_dict (by
    rw [List.size_toArray, sizeLine_eq, E'.length, List.length_append, ← he.length, List.length_singleton]; omega)) ?_)
  refine wpAny_pure ?_
  exact k _ _ _ _ hx E' ⟨by simp, fun b hb => Heap.get?_update_other _ _ (Ne.symm hb)⟩
theorem exc_open (X : K.In h) (Y : ExcS K C bm) {e : Addr} {oe : Obj} {vs : Array Value} {name : Str} {v : Value} {Q : Unit → Shared → Prop} (he : h.get? e = some oe) (hc : oe.cls = .ref C) (hd : oe.data = .fields vs) (ht : findIn K (.ref C) name = some none)
    (k : wpAny (model prog w) A.in1 (Builtin.ObjectAttr.storeInOwnDict (.ref e) (.ref C) (.str name t) name v false)
      (fun fin s' => match fin with | .done (.ret _) => Q () s' | _ => False) (fun e s' => E e s') ⟨h, g, d, t + 1, os⟩) : wpAny (model prog w) A (setAttr (.ref e) name v) Q E ⟨h, g, d, t, os⟩ := by
  obtain ⟨cd, hcd, hm, hD⟩ := Y.cls
  have SF := PySem.F.store_object
  have ty : Looks (model prog w) h (typeOf (.ref e)) (.ref C) := by
    have := (Looks.ld (M := model prog w) (part := none) he).andThen (f := fun o => pure o.cls) .now
    rw [hc] at this; exact this
  have ne : cd.mro.isEmpty = false := by rw [hm]; rfl
  refine wpAny_bind (wpAny_mkText (wpAny_bind (wpAny_bind (wpAny_bind (ty _ _ _ _ (fun _ _ e => e) (looks_findIn X Y.setA _ _ _ _ (fun _ _ e => e) (wpAny_holding ?_)))))))
  rw [PySem.F.store_object.slot.bind]
  refine wpAny_bind (wpAny_pure (wpAny_bind (wpAny_call ?_)))
  have sub : Looks (model prog w) h (isInstance (.ref e) (.type "object")) true := ty.andThen (looks_mroIn X (by unfold mroIn; rw [hcd, Option.bind_some, if_neg (by rw [ne]; decide), hm]; rw [List.contains_cons, Y.hasObj, Bool.or_true]))
  refine codeAny_call_builtin SF.slot.plain SF.entry (@check_slot (model prog w) _ _ ⟨h, g, d, t + 1, os⟩ "object.__setattr__" "object" "__setattr__" (.ref e) [.str name t, v] [] _ SF.kind SF.split sub (SF.args (.ref e) (.str name t) v) ?_)
  have hmro : Looks (model prog w) h (mroOf (.ref C)) cd.mro := (looks_clsIn X hcd).andThen .now
  show wpAny _ _ (Builtin.«object.__setattr__» ⟨[.ref e, .str name t, v], []⟩) _ _ _
  rw [osa_eq, refuse_eq]
  refine wpAny_bind (wpAny_bind (ty.here (wpAny_bind (hmro.here ?_))))
  rw [hm, refuseLoop_ref, Y.pass]
  refine wpAny_pure (wpAny_bind (ty.here (wpAny_bind ((looks_findIn X ht).here ?_))))
  refine wpAny_bind (wpAny_pure ?_)
  refine wpAny_mono k (fun fin s' z => ?_) fun _ _ z => z
  rcases fin with (_ | _ | _ | _) | _ <;> first | exact z.elim | exact wpAny_pure (wpAny_pure z)
theorem exc_set1 (X : K.In h) (Y : ExcS K C bm) {e dx : Addr} {oe : Obj} {vs : Array Value} {name : Str} {v : Value} {es : List DictEntry} {n : Nat} {fl : List (Str × Value)} {Q : Unit → Shared → Prop} (he : h.get? e = some oe) (hc : oe.cls = .ref C) (hd : oe.data = .fields vs) (ht : findIn K (.ref C) name = some none)
    (hdx : oe.dict = some dx) (D : h.get? dx = some (dictOf es n)) (Es : EsOf w es fl) (hn : name ∉ fl.map (·.1)) (hz : es.length ≤ 900)
    (k : ∀ h' tk' es' n', h'.get? dx = some (dictOf es' n') → EsOf w es' (fl ++ [(name, v)]) → Heap.SameBut dx h h' → Q () ⟨h', g, d, tk', os⟩) : wpAny (model prog w) A (setAttr (.ref e) name v) Q E ⟨h, g, d, t, os⟩ := by
  obtain ⟨cd, hcd, hm, hD⟩ := Y.cls
  refine exc_open X Y he hc hd ht ?_
  obtain ⟨oc, od, oda, osl⟩ := oe
  dsimp only at hc hd hdx
  subst hc hd hdx
  refine wpAny_bind (wpAny_pure (wpAny_bind (wpAny_bind (wpAny_loadPart he (wpAny_bind ((looks_clsIn X hcd).here ?_))))))
  rw [hD]
  refine wpAny_pure (a := some dx) ?_
  exact put_dict D Es hn hz k
theorem exc_set0 (X : K.In h) (Y : ExcS K C bm) {e : Addr} {oe : Obj} {vs : Array Value} {name : Str} {v : Value} {Q : Unit → Shared → Prop} (he : h.get? e = some oe) (hc : oe.cls = .ref C) (hd : oe.data = .fields vs) (ht : findIn K (.ref C) name = some none)
    (hdx : oe.dict = none)
    (k : ∀ h' tk' es' n', h'.get? e = some { oe with dict := some h.objs.size } → h'.get? h.objs.size = some (dictOf es' n') → EsOf w es' [(name, v)] → (∀ b o, b ≠ e → h.get? b = some o → h'.get? b = some o) → Q () ⟨h', g, d, tk', os⟩) : wpAny (model prog w) A (setAttr (.ref e) name v) Q E ⟨h, g, d, t, os⟩ := by
  obtain ⟨cd, hcd, hm, hD⟩ := Y.cls
  refine exc_open X Y he hc hd ht ?_
  obtain ⟨oc, od, oda, osl⟩ := oe
  dsimp only at hc hd hdx
  subst hc hd hdx
  refine wpAny_bind (wpAny_pure (wpAny_bind (wpAny_bind (wpAny_loadPart he (wpAny_bind ((looks_clsIn X hcd).here ?_))))))
  rw [hD]
  have he1 := Heap.get?_push_of_some ({ cls := .type "dict", data := .dict #[] } : Obj) he
  have ne : e ≠ h.objs.size := Nat.ne_of_lt (Heap.lt_size he)
  refine wpAny_bind (wpAny_alloc (wpAny_bind (wpAny_update he1 (wpAny_pure ?_))))
  have hg : ((h.push ({ cls := .type "dict", data := .dict #[] } : Obj)).update e fun o => { o with dict := some h.objs.size }).get? h.objs.size = some (dictOf [] 0) := (Heap.get?_update_other _ _ ne).trans (Heap.get?_push_size _ rfl)
  have hx := Heap.get?_update_self (fun o : Obj => { o with dict := some h.objs.size }) he1 rfl
  refine put_dict (fl := []) hg .nil (by simp) (by simp) fun h' tk' es' n' e1 e2 e3 => k h' tk' es' n' ((e3.2 _ ne).trans hx) e1 e2 fun b o nb eb => ?_
  have lb : b ≠ h.objs.size := Nat.ne_of_lt (Heap.lt_size eb)
  exact (e3.2 _ lb).trans ((Heap.get?_update_other _ _ (Ne.symm nb)).trans (Heap.get?_push_of_some _ eb))
end
end
section
theorem find_exc (K : Frag) : findCls K (.type "Exception") (.type "type") (PySem.Str.ofString "__init__") = some (.val (.builtin "Exception.__init__")) := by rfl
section
variable {prog : Program} {w : World} {A : Around} {E : Value → Shared → Prop} {s : Shared} {K : Frag}
theorem getm_exc {pl : Sem Bool} {Q : Value × List Value → Shared → Prop} (X : K.In s.heap) (h : Q (.builtin "Exception.__init__", []) { s with toks := s.toks + 1 }) :
    wpAny (model prog w) A (getMethod (.type "Exception") (PySem.Str.ofString "__init__") pl) Q E s := by
  have hstub : opaqueClassAbove (.type "Exception") = pure none := by unfold opaqueClassAbove; dsimp only; rw [show Manifest.isStub "Exception" = false by decide +kernel]; rfl
  have ht : typeOf (.type "Exception") = pure (.type "type") := by first | rfl | kernel_rfl
  have L0 : Looks (model prog w) s.heap (typeOf (.type "Exception")) (.type "type") := Looks.of_pure ht
  have hg : findIn K (.type "type") "__getattribute__" = some (some (.builtin "type.__getattribute__")) := type_tga
  unfold getMethod specialOf
  refine wpAny_bind (wpAny_bind (L0.here ((looks_findIn X hg).here ?_)))
  dsimp only
  rw [if_pos canon_tga]
  refine wpAny_bind (wpAny_mono (Q := fun v => Q (v, [])) (E := E) ?_ (fun _ _ z => wpAny_pure z) fun _ _ z => z)
  have LO : Looks (model prog w) s.heap (opaqueClassAbove (.type "Exception")) none := Looks.of_pure hstub
  refine cls_open X LO L0 hg (looks_hook X (r := none) (by rfl)) (by show subIn K _ _ = _; rfl) (find_exc K) ?_
  exact wpAny_pure (by show wpAny _ _ (handedOut (.builtin "Exception.__init__")) _ _ _; rw [handedOut_of (by decide)]; exact wpAny_pure h)
end
section
variable {prog : Program} {w : World} {A : Around} {E : Value → Shared → Prop} {h : Heap} {g : Array GenState} {d : Drawn} {t : Nat} {os : OsState} {K : Frag} {C : Addr} {bm : List Value}
theorem exc_init (X : K.In h) (Y : ExcK K C bm) {e T₀ : Addr} {v : Value} {Q : Value → Shared → Prop} (he : h.get? e = some { cls := .ref C, data := .fields #[.ref T₀, .none, .none, .none, .bool false, .none] })
    (k : ∀ h', h'.get? e = some { cls := .ref C, data := .fields #[.ref h.objs.size, .none, .none, .none, .bool false, .none] } → (∀ b o, b ≠ e → h.get? b = some o → h'.get? b = some o) → (∃ o, h'.get? h.objs.size = some o ∧ o.cls = .type "tuple") → Q .none ⟨h', g, d, t, os⟩) :
    wpAny (model prog w) A (call (.builtin "Exception.__init__") [.ref e, v]) Q E ⟨h, g, d, t, os⟩ := by
  refine Y.elim fun nm q N bs sn sub ab col dd k0 k1 k2 k3 k5 hk => ?_
  have hC := X _ _ hk
  have F := PySem.F.excBase_Exception
  have hcB : (Value.ref C :: bm).contains (.type "Exception") = true := by rw [List.contains_cons, Y.hasB, Bool.or_true]
  have hshort := F.noStar
  refine wpAny_call (codeAny_call_builtin F.init.plain F.initEntry ?_)
  simp only [checkBuiltinCall, F.initKind, F.initSplit, F.initRow]
  repeat (first | (with_reducible refine wpAny_loadPart_at he ?_) | with_reducible refine wpAny_loadPart_at hC ?_ | (with_reducible refine wpAny_isSubtype_exc hC ?_; rw [hcB]) | wp_step)
  have he1 := Heap.get?_push_of_some ({ cls := .type "tuple", data := .seq #[v] } : Obj) he
  have ne : e ≠ h.objs.size := Nat.ne_of_lt (Heap.lt_size he)
  refine k _ ?_ (fun b o nb eb => (Heap.get?_update_other _ _ (Ne.symm nb)).trans (Heap.get?_push_of_some _ eb)) ⟨_, (Heap.get?_update_other _ _ ne).trans (Heap.get?_push_size _ rfl), rfl⟩
  have := Heap.get?_update_self (Obj.mapFields fun x => x.setIfInBounds 0 (Value.ref h.objs.size)) he1 (by rfl)
  exact this
end
section
variable {G : Gx} {c : Cx} {st : AS} {h : Heap}
theorem fault_call (O : Cx.Ok G c) (S : St G c st h) (hr : c.room 3) {C fI : Addr} {bm : List Value} {fd : FuncData} {oc : Value} {od : Option Addr} {osl : Array (Option Value)} {v1 v2 : Value} {tk : Nat} {self x1 x2 : Str} {p1 p2 p3 p4 p5 p6 p7 p8 p9 p10 p11 p12 p13 p14 : Pos}
    (Y : ExcS G.K C bm) (hi : findIn G.K (.ref C) "__init__" = some (some (.ref fI))) (hf : typeIn G.K (.ref fI) = some (.type "function")) (ho : G.K.lookup fI = some ⟨oc, od, .func fd, osl⟩)
    (hbody : fd.body = .stmts [.Expr (.Call (.Attribute (.Name (Str.ofString "Exception") p1) (Str.ofString "__init__") p2) [.Name self p3, .Name x1 p4] [] p5) p6, .Assign [.Attribute (.Name self p7) x1 p8] (.Name x1 p9) p10, .Assign [.Attribute (.Name self p11) x2 p12] (.Name x2 p13) p14])
    (hcd : codeIn G.K fd.code fd.qualname = true) (hbind : ∀ x hh tk, G.K.In hh → BindsTo (G.sh hh tk) fd ⟨[.ref x, v1, v2], []⟩ ([self, x1, x2].zip [.ref x, v1, v2]))
    (hnd : [self, x1, x2].Nodup) (hkind : ([self, x1, x2].all fun y => fd.scope.names.lookup y == some .local) = true) (hnc : cellsFrom 0 fd.scope.names [] = [])
    (hsd : (self == ("__debug__" : Str)) = false) (hsd1 : (x1 == ("__debug__" : Str)) = false) (hsd2 : (x2 == ("__debug__" : Str)) = false) (hx : fd.scope.names.lookup (Str.ofString "Exception") = some NameKind.globalImplicit) (hmg : nsIn G.K mainGlobals (Str.ofString "Exception") = some none)
    (t1 : findIn G.K (.ref C) x1 = some none) (t2 : findIn G.K (.ref C) x2 = some none)
    (hec : ∀ L, ∃ pl, eval (.Call (.Attribute (.Name (Str.ofString "Exception") p1) (Str.ofString "__init__") p2) [.Name self p3, .Name x1 p4] [] p5) (callEnvC fd L fI) = (do
      let ov ← eval (.Name (Str.ofString "Exception") p1) (callEnvC fd L fI)
      standAt p2.atName
      let (f, first) ← holding [ov] (getMethod ov (Str.ofString "__init__") pl)
      callWith p5 f first (backTo p5 (starEach [.Name self p3, .Name x1 p4] (callEnvC fd L fI))) []))
    (hin : ∀ L, interactive (callEnvC fd L fI) = false) (hsw : ∀ L, swapsWith (.Call (.Attribute (.Name (Str.ofString "Exception") p1) (Str.ofString "__init__") p2) [.Name self p3, .Name x1 p4] [] p5) none p6.line (callEnvC fd L fI) = pure false)
    (hs1 : ∀ L, swapsWith (.Name x1 p9) (some (.Attribute (.Name self p7) x1 p8)) p10.line (callEnvC fd L fI) = pure false) (hs2 : ∀ L, swapsWith (.Name x2 p13) (some (.Attribute (.Name self p11) x2 p12)) p14.line (callEnvC fd L fI) = pure false)
    (hclo : fd.closure = []) (hgl : fd.globals = mainGlobals) (hbl : fd.builtins = builtinsNs) (hco : fd.scope.isCoroutine = false) (hgen : fd.scope.isGenerator = false) (hk : fd.scope.kind = .function)
    {Q' : Value → Shared → Prop} {E' : Value → Shared → Prop}
    (k : ∀ e T dx h' tk' es n, (∀ b o, h.get? b = some o → h'.get? b = some o) → h.get? e = none → h.get? dx = none → dx ≠ e → h'.get? e = some { cls := .ref C, dict := some dx, data := .fields #[.ref T, .none, .none, .none, .bool false, .none] } →
      h'.get? dx = some (dictOf es n) → EsOf G.w es [(x1, v1), (x2, v2)] → Q' (.ref e) (G.sh h' tk')) :
    wpAny (model G.prog G.w) c.A (call (.ref C) [v1, v2]) Q' E' (G.sh h tk) := by
  have XK := O.X.keeps S.F.keep
  refine exc_call XK Y.toExcK hi hf (fun h1 e M lt => ?_) (by rw [sizeLine_eq]; show 2 ≤ _; decide)
  obtain ⟨up, e0, T₀, e1, _, _⟩ := M
  have X1 := XK.keeps up
  refine wpAny_call (codeAny_call_function (by rw [depth_under_kw]; show c.dp + 1 < 1000; have := hr.1; omega) (X1 _ _ ho) rfl hco hgen hbody (codeRec_of X1 hcd) (hbind e h1 tk X1 _ _ _ _ ?_))
  rw [hclo]
  refine wpAny_newFunctionEnv_cells hk (fun y hy => .inl ?_) fun env' he s' x => ?_
  · have := List.all_eq_true.mp hkind y.1 (List.of_mem_zip (a := y.1) (b := y.2) hy).1
    simpa using this
  subst he
  have kk := x.toInCall.keep
  obtain ⟨h₁, tk₁, rfl, _⟩ := x.done
  dsimp only at kk
  refine ⟨((O.T.nolimit).keeps S.F.keep).keeps (fun b o e => kk b o (up b o e)), codeAny_func ?_⟩
  have ns1 := x.toInCall.ns
  have hkind' : ∀ y ∈ [self, x1, x2], fd.scope.names.lookup y = some .local := fun y hy => by
    have := List.all_eq_true.mp hkind y hy
    simpa using this
  generalize hL : h1.objs.size = L at *
  have mval : ∀ y v, (y, v) ∈ [self, x1, x2].zip [.ref e, v1, v2] → bindL (callEnvC fd L fI).kindOf ([self, x1, x2].zip [.ref e, v1, v2]) (fun _ => none) y = some v := fun y v hy => bindL_mem hnd (fun z hz => hkind' z hz) hy
  have n1 : h₁.Ns L (bindL (callEnvC fd L fI).kindOf ([self, x1, x2].zip [.ref e, v1, v2]) (fun _ => none)) := ns1
  have ms := mval self (.ref e) (by simp)
  have m1 := mval x1 v1 (by simp)
  have m2 := mval x2 v2 (by simp)
  have k0 := hkind' self (by simp)
  have k1 := hkind' x1 (by simp)
  have k2 := hkind' x2 (by simp)
  generalize hm : bindL (callEnvC fd L fI).kindOf ([self, x1, x2].zip [.ref e, v1, v2]) (fun _ => none) = m at *
  have upb : ∀ b o, h.get? b = some o → h₁.get? b = some o := fun b o eb => kk b o (up b o eb)
  have eL : e ≠ L := hL ▸ Nat.ne_of_lt (Heap.lt_size e1)
  have e2 := kk _ _ e1
  have hke : (callEnvC fd L fI).scope.kind = .function := hk
  have T := O.T.keeps S.F.keep
  obtain ⟨pl, hec⟩ := hec L
  refine wpAny_execs_cons (wpAny_Expr (MethodCall_ (Name_function_global (env := callEnvC fd L fI) hke hx (loadGlobal_builtin (by show h₁.Ns fd.globals _; rw [hgl]; exact T.g.keeps upb) (mg_none_of XK T.g hmg) (by show h₁.Ns fd.builtins _; rw [hbl]; exact T.b.keeps upb) ((T.builtins _ (by decide)).trans (by decide +kernel)) (v := .type "Exception") ?_) (by decide)) hec) (hin L) (hsw L))
  refine getm_exc (K := G.K) (XK.keeps upb) ?_
  refine callWith_method1 ?_
  show wpAny _ _ (spliced ((false, eval (.Name self p3) (callEnvC fd L fI)) :: backTo p5 [(false, eval (.Name x1 p4) (callEnvC fd L fI))])) _ _ _
  refine spliced_cons (wpAny_Name (wpAny_loadName_local hke k0 n1 ms ?_) hsd)
  show wpAny _ _ (spliced ((false, eval (.Name x1 p4) (callEnvC fd L fI)) :: backTo p5 [])) _ _ _
  refine spliced_cons (wpAny_Name (wpAny_loadName_local hke k1 n1 m1 ?_) hsd1)
  refine spliced_nil ?_
  show wpAny _ _ (call (.builtin "Exception.__init__") [.ref e, v1]) _ _ _
  refine exc_init (XK.keeps upb) Y.toExcK e2 fun h3 e3 b3 _ => ?_
  show wpAny _ _ _ _ _ _
  have n3 : h3.Ns L m := by
    obtain ⟨o, es, ep, q1, q2⟩ := n1
    exact ⟨o, es, ep, b3 _ _ (Ne.symm eL) q1, q2⟩
  have X3 : G.K.In h3 := XK.keeps fun b o eb => b3 b o (fun q => by exact clash e0 (q ▸ eb)) (upb b o eb)
  refine wpAny_execs_cons (plainObj_wpAny_Assign_Attribute (wpAny_Name (wpAny_loadName_local hke k1 n3 m1 (wpAny_Name (wpAny_loadName_local hke k0 n3 ms ?_) hsd)) hsd1) (hs1 L))
  refine exc_set0 X3 Y e3 rfl rfl t1 rfl fun h4 tk4 es4 n4 e4 d4 E4 b4 => ?_
  have n4' : h4.Ns L m := by
    obtain ⟨o, es, ep, q1, q2⟩ := n3
    exact ⟨o, es, ep, b4 _ _ (Ne.symm eL) q1, q2⟩
  have X4 : G.K.In h4 := XK.keeps fun b o eb => b4 b o (fun q => by exact clash e0 (q ▸ eb)) (b3 b o (fun q => by exact clash e0 (q ▸ eb)) (upb b o eb))
  refine wpAny_execs_cons (plainObj_wpAny_Assign_Attribute (wpAny_Name (wpAny_loadName_local hke k2 n4' m2 (wpAny_Name (wpAny_loadName_local hke k0 n4' ms ?_) hsd)) hsd2) (hs2 L))
  have nx : x2 ∉ [(x1, v1)].map (·.1) := by
    have := hnd
    simp only [List.nodup_cons, List.mem_cons, List.not_mem_nil, or_false, not_or] at this
    simpa using fun q => this.2.1 q.symm
  refine exc_set1 X4 Y e4 rfl rfl t2 rfl d4 E4 nx (by rw [E4.length]; simp) fun h5 tk5 es5 n5 d5 E5 b5 => ?_
  have lt3 := Heap.lt_size e3
  have ne5 : e ≠ h3.objs.size := Nat.ne_of_lt lt3
  refine wpAny_execs_nil ?_
  refine ⟨rfl, k e _ h3.objs.size h5 tk5 es5 n5 (fun b o eb => ?_) e0 ?_ (Ne.symm ne5) ((b5.2 _ ne5).trans e4) d5 E5⟩
  · have lb : b ≠ e := fun q => by exact clash e0 (q ▸ eb)
    have l3 := b3 b o lb (upb b o eb)
    exact (b5.2 b (Nat.ne_of_lt (Heap.lt_size l3))).trans (b4 b o lb l3)
  · cases w : h.get? h3.objs.size with
    | none => rfl
    | some o =>
      have lb : h3.objs.size ≠ e := Ne.symm ne5
      have := b3 _ o lb (upb _ o w)
      exact absurd (Heap.lt_size this) (Nat.lt_irrefl _)
end
end
section
section
variable {M : Model} {A : Around} {E : Value → Shared → Prop} {env : Env} {K : Frag} {C : Addr} {bm : List Value}
theorem raise_made {s : Shared} {x : Sem Value} {Q : Flow → Shared → Prop} (Y : ExcK K C bm) (hh : A.handled = none)
    (h : wpAny M A x (fun v s₁ => ∃ e dx T, v = .ref e ∧ K.In s₁.heap ∧
      s₁.heap.get? e = some { cls := .ref C, dict := some dx, data := .fields #[.ref T, .none, .none, .none, .bool false, .none] } ∧ E (.ref e) s₁) E s) :
    wpAny M A (raiseStmt env (some x) none) Q E s := by
  refine Y.elim fun nm q N bs sn sub ab col dd k0 k1 k2 k3 k5 hk => ?_
  have hcB : (Value.ref C :: bm).contains (.type "BaseException") = true := by rw [List.contains_cons, Y.hasBase, Bool.or_true]
  unfold raiseStmt
  refine wpAny_bind (wpAny_mono h (fun v s₁ h₁ => ?_) fun _ _ x => x)
  obtain ⟨e, dx, T, rfl, X, he, hE⟩ := h₁
  have hC := X _ _ hk
  obtain ⟨hp, g, d, tk, os⟩ := s₁
  repeat (first | with_reducible refine wpAny_loadPart_at he ?_ | with_reducible refine wpAny_loadPart_at hC ?_ | (with_reducible refine wpAny_isSubtype_exc hC ?_; rw [hcB]) | wp_step)
  exact wpAny_raiseNew_none hh hE
end
section
variable {G : Gx} {c : Cx} {st : AS}
theorem S52 (P : Params) : ExcS (hp.heap_1 P) 52 [.ref 39, .type "Exception", .type "BaseException", .type "object"] where
  obj := k52 P
  hasB := by decide
  hasBase := by decide
  noAttr := by decide
  noName := by decide
  setA := by rfl
  pass := fun self => by rw [refuseLoop_ref]; exact PySem.F.store_Exception.passes self
  hasObj := by decide
theorem fault52 {h : Heap} (hK : G.K = hp.heap_1 G.w.params) (O : Cx.Ok G c) (S : St G c st h) (hr : c.room 3) {v1 v2 : Value} {tk : Nat} {Q' : Value → Shared → Prop} {E' : Value → Shared → Prop}
    (k : ∀ e T dx h' tk' es n, (∀ b o, h.get? b = some o → h'.get? b = some o) → h.get? e = none → h.get? dx = none → dx ≠ e → h'.get? e = some { cls := .ref 52, dict := some dx, data := .fields #[.ref T, .none, .none, .none, .bool false, .none] } →
      h'.get? dx = some (dictOf es n) → EsOf G.w es [(Str.ofString "message", v1), (Str.ofString "spot", v2)] → Q' (.ref e) (G.sh h' tk')) :
    wpAny (model G.prog G.w) c.A (call (.ref 52) [v1, v2]) Q' E' (G.sh h tk) := by
  refine fault_call O S hr (C := 52) (fI := 36) (self := Str.ofString "self") (x1 := Str.ofString "message") (x2 := Str.ofString "spot") (bm := [.ref 39, .type "Exception", .type "BaseException", .type "object"]) (by rw [hK]; exact S52 _) (by rw [hK]; rfl) (by rw [hK]; rfl) (by rw [hK]; rfl) (by rfl) (by rw [hK]; rfl) ?_
    (by decide) (by rfl) (by rfl) (by decide) (by decide) (by decide) (by rfl) (by rw [hK]; rfl) (by rw [hK]; rfl) (by rw [hK]; rfl) (fun L => ⟨_, by rfl⟩) (fun L => by rfl) (fun L => by rfl) (fun L => by rfl) (fun L => by rfl) rfl rfl rfl rfl rfl rfl k
  intro x hh tk X
  first | exact .of_eq rfl | exact binds_K X rfl (by rw [hK]; rfl) rfl rfl rfl
theorem Exn.made (O : Cx.Ok G c) {h h' : Heap} (S : St G c st h) (hC : G.flt = 52) {e T dx : Addr} {es : List DictEntry} {n : Nat} {x : Str} {i : Int} {t u : Tok} (k : ∀ b o, h.get? b = some o → h'.get? b = some o) (f1 : h.get? e = none) (f2 : h.get? dx = none) (ne : dx ≠ e)
    (he : h'.get? e = some { cls := .ref 52, dict := some dx, data := .fields #[.ref T, .none, .none, .none, .bool false, .none] }) (hd : h'.get? dx = some (dictOf es n)) (hE : EsOf G.w es [(Str.ofString "message", .str x t), (Str.ofString "spot", .int i u)]) :
    Exn G c st h e [(Str.ofString "message", .str x), (Str.ofString "spot", .int i)] h' [e, dx] st := by
  have s := S.keepAll O k
  have fresh : ∀ b ∈ [e, dx], h.get? b = none := fun b hb => by
    rcases List.mem_cons.mp hb with rfl | hb
    · exact f1
    · rw [List.mem_singleton.mp hb]; exact f2
  have wo : WO [e, dx] h' := fun b hb => by
    rcases List.mem_cons.mp hb with rfl | hb
    · exact ⟨_, he, by simp⟩
    · rw [List.mem_singleton.mp hb]; exact ⟨_, hd, by simp⟩
  refine ⟨.head _, S.hide O s fresh wo, WrOk.of O S fresh, wo, fun b hb q => ?_, ⟨fun b o n1 _ e => s.kle.keep b o n1 e, fun b q => .inl q⟩, none, ⟨_, _, dx, es, n, by simp, ne, he, rfl, rfl, by simp, by rw [hC], hd, ?_, rfl⟩, .inl rfl⟩
  · obtain ⟨o, w⟩ := S.occ b q; rw [fresh b hb] at w; cases w
  · have conv : ∀ {es fl}, EsOf G.w es fl → ∀ l, (fl = [] → l = []) → VRs G (fun _ => Option.none) (fl.map (·.2)) (l.map (·.2)) → fl.map (·.1) = l.map (·.1) → VRd G (fun _ => Option.none) es l := fun he =>
      he.ind (P := fun es fl => ∀ l, (fl = [] → l = []) → VRs G (fun _ => Option.none) (fl.map (·.2)) (l.map (·.2)) → fl.map (·.1) = l.map (·.1) → VRd G (fun _ => Option.none) es l) (fun l h _ _ => by rw [h rfl]; exact .nil) fun {x t v es fl} _ ih l _ rs hn => by
        cases l with
        | nil => cases hn
        | cons p l =>
          obtain ⟨h1, h2⟩ := List.cons.inj hn
          cases h1
          obtain ⟨v', ws, r, rs, e⟩ := rs.inv
          cases e
          exact .cons rfl rfl r (ih l (fun e => by subst e; cases l with | nil => rfl | cons _ _ => cases h2) rs h2)
    exact conv hE _ (fun e => nomatch e) (.cons (.str _ _) (.cons (.int _ _) .nil)) rfl
theorem Ex.raise (hK : G.K = hp.heap_1 G.w.params) (hC : G.flt = 52) (O : Cx.Ok G c) (hr : c.room 3) {x : Str} {np cpos pos : Pos} {as : List Expr} {N : AS → Prop} {R : PV → Prop} {X : List (Str × PV) → Prop}
    (hx : Ev G c st (.Name x np) fun f => f = .adr 52) (hq : Evs G c st as fun qs => ∃ m i, qs = [.str m, .int i] ∧ X [(Str.ofString "message", .str m), (Str.ofString "spot", .int i)]) (hp : autoParam ((backTo cpos (starEach as c.env)).any (·.1) = false) aRfl) :
    Ex G c st (.Raise (some (.Call (.Name x np) as [] cpos)) none pos) N R X := fun h tk S Q' E' zn zr zx => by
  rw [arm_exec_Raise]
  refine wpAny_bind (wpAny_standAt ?_)
  have Y := S52 G.w.params
  rw [← hK] at Y
  refine raise_made Y.toExcK hr.2.2 ?_
  show wpAny _ _ (eval (.Call (.Name x np) as [] cpos) c.env >>= fun v => standAt pos >>= fun _ => pure v) _ _ _
  rw [eval_CallN]
  refine wpAny_bind (wpAny_bind (hx h tk S _ _ fun vf f h2 tk2 s2 r2 q2 => ?_))
  subst q2
  have : vf = .ref 52 := r2.inv
  subst this
  refine callWith_all hp (hq cpos h2 tk2 (S.step O s2) _ _ fun vs qs h3 tk3 s3 r3 q3 => ⟨keeper O ((S.step O s2).step O s3) (r2.mono (s3.vle O)) (okF_of hK (by rfl)), ?_⟩)
  obtain ⟨m, i, rfl, hX⟩ := q3
  have S3 := (S.step O s2).step O s3
  refine r3.of2 fun va vb ra rb => ra.ofStr fun ta => rb.ofInt fun tb => ?_
  · · refine fault52 hK O S3 hr fun e T dx h' tk' es n k f1 f2 ne he hd hE => ?_
      refine wpAny_bind (wpAny_standAt (wpAny_pure ⟨e, dx, T, rfl, (O.X.keeps S3.F.keep).keeps k, he, ?_⟩))
      exact zx e _ h' tk' [e, dx] st ((Exn.made O S3 hC k f1 f2 ne he hd hE).pre (s2.trans s3).kle) hX
end
end
section
theorem slot_bga : Slot "Exception" "__getattribute__" "BaseException.__getattribute__" :=
  .of (owner := "BaseException") (n := "__getattribute__") (by rw [typeLookup_type, builtinLookup_eq_fast]; kernel_rfl) (by decide +kernel) (by decide +kernel) (by decide +kernel)
    (by first | exact .inl (by decide +kernel) | exact .inr (by decide +kernel)) (by rw [isSubtype_type]; kernel_rfl)
section
variable {prog : Program} {w : World} {A : Around} {E : Value → Shared → Prop} {s : Shared} {K : Frag} {C : Addr} {bm : List Value}
theorem exc_get (X : K.In s.heap) (Y : ExcK K C bm) {e : Addr} {oe od : Obj} {dx : Addr} {name : Str} {v : Value} {expr : Bool} {Q : Value → Shared → Prop} (he : s.heap.get? e = some oe) (hc : oe.cls = .ref C) (hd : notCls oe = true) (hdx : oe.dict = some dx) (D : s.heap.get? dx = some od)
    (hga : findIn K (.ref C) "__getattribute__" = some (some (.builtin "BaseException.__getattribute__"))) (hgt : findIn K (.ref C) "__getattr__" = some none) (hf : findObj K C (some od) name = some (.value v)) (hv : handedIn v = true) (k : Q v { s with toks := s.toks + 1 }) :
    wpAny (model prog w) A (getAttr (.ref e) name expr) Q E s := by
  obtain ⟨hh, g, d, t, os⟩ := s
  dsimp only at X he D
  obtain ⟨oc, odd, oda, osl⟩ := oe
  dsimp only at hc hdx
  subst hc hdx
  have I : W.InstAt hh e ⟨.ref C, some dx, oda, osl⟩ C (some od) := ⟨he, rfl, hd, D⟩
  have L0 := I.type (M := model prog w)
  have L1 := looks_findIn (M := model prog w) X hga
  have L2 := looks_findIn (M := model prog w) X hgt
  obtain ⟨cd, hcd, hm, hD⟩ := Y.cls
  have ne : cd.mro.isEmpty = false := by rw [hm]; rfl
  have sub : Looks (model prog w) hh (isInstance (.ref e) (.type "BaseException")) true := L0.andThen (looks_mroIn X (by unfold mroIn; rw [hcd, Option.bind_some, if_neg (by rw [ne]; decide), hm]; rw [List.contains_cons, Y.hasBase, Bool.or_true]))
  unfold getAttr getAttrBy
  refine wpAny_bind (wpAny_mkText (wpAny_holding (wpAny_bind (L0.at (wpAny_bind (L1.at ?_))))))
  dsimp only
  rw [show (onTheHeap (.ref C) && Value.builtin "BaseException.__getattribute__" == Value.builtin "object.__getattribute__") = false from by rw [show (Value.builtin "BaseException.__getattribute__" == Value.builtin "object.__getattribute__") = false from by decide +kernel, Bool.and_false], if_neg (by decide)]
  have LH : Looks (model prog w) hh (hookBefore (.ref C)) none := looks_hook X (by rw [if_pos (by rfl)]; exact hgt)
  refine wpAny_bind (LH.at (wpAny_bind (wpAny_attempt (wpAny_holding ?_))))
  unfold callGetattribute
  rw [show (expr && onTheHeap (Value.builtin "BaseException.__getattribute__")) = false from Bool.and_false _, if_neg (by decide)]
  unfold boundAndCalled
  rw [slot_bga.bind]
  refine wpAny_bind (wpAny_pure ?_)
  show wpAny _ _ (call (.builtin "BaseException.__getattribute__") [.ref e, .str name t]) _ _ _
  refine wpAny_call (codeAny_call_builtin slot_bga.plain PySem.F.entry_bexc_ga (@check_slot (model prog w) _ _ _ "BaseException.__getattribute__" "BaseException" "__getattribute__" (.ref e) [.str name t] [] _ (by decide +kernel) (by decide +kernel) sub (PySem.F.args_bexc_ga (.ref e) (.str name t)) ?_))
  have L3 := looks_find (M := model prog w) X I hf
  refine wpAny_bind (wpAny_pure (wpAny_bind (wpAny_pure (wpAny_bind (L0.at (wpAny_bind (L3.at ?_)))))))
  refine wpAny_pure ?_
  show wpAny _ _ (handedOut v) _ _ _
  rw [handedOut_of hv]; exact wpAny_pure k
end
end
section
noncomputable abbrev hcx (c : Cx) (e : Option Value) : Cx := { c with hdl := e }
section
variable {G : Gx} {c : Cx} {st : AS} {h h' : Heap} {x : Option Value}
theorem Cx.Ok.hcx (O : Cx.Ok G c) : Cx.Ok G (hcx c x) := ⟨O.fro, O.frk, O.X, O.T, O.kf, O.ff, O.ke, O.ge, O.be, O.fe, O.hM, O.hLM, O.hS, O.tM, O.hMh, O.hLh, O.kH, O.loc, O.locC, O.cel, O.apart⟩
theorem St.hcx (S : St G c st h) : St G (hcx c x) st h := ⟨S.F, S.Nn, S.ρ, S.mu, S.nd, S.occ', S.cocc, S.own, S.glb⟩
theorem St.unhcx (S : St G (Mine.hcx c x) st h) : St G c st h := ⟨S.F, S.Nn, S.ρ, S.mu, S.nd, S.occ', S.cocc, S.own, S.glb⟩
theorem KLe.unhcx {st' : AS} (S : KLe G (Mine.hcx c x) st h st' h') : KLe G c st h st' h' := ⟨S.keep, S.own⟩
theorem Step.unhcx (S : Step G (Mine.hcx c x) st h h') : Step G c st h h' := ⟨S.later, S.F, S.glb⟩
theorem Exn.hcx {e : Addr} {l : List (Str × PV)} {wr : List Addr} {st' : AS} (S : Exn G c st h e l h' wr st') : Exn G (Mine.hcx c x) st h e l h' wr st' :=
  ⟨S.mem, ⟨S.S.F, S.S.Nn, S.S.ρ, S.S.mu, S.S.nd, S.S.occ', S.S.cocc, S.S.own, S.S.glb⟩, ⟨S.W.hid, S.W.M, S.W.L, S.W.loc, S.W.cel, S.W.h0⟩, S.wo, S.nh, ⟨S.kw.keep, S.kw.own⟩, S.dat⟩
theorem ExnDat.step {wr : List Addr} {e : Addr} {l : List (Str × PV)} {md : Option Value} (D : ExnDat G wr e l h md) (he : e ∈ wr) (k : ∀ b ∈ wr, ∀ o, h.get? b = some o → h'.get? b = some o) : ExnDat G wr e l h' md := by
  refine D.elim fun oe vs dx es n m1 m2 e1 e2 e3 e4 e5 e6 e7 e8 => ?_
  refine ⟨oe, vs, dx, es, n, m1, m2, k _ he _ e1, e2, e3, e4, e5, k _ m1 _ e6, e7, ?_⟩
  cases md with
  | none => exact e8
  | some fl =>
    obtain ⟨T, oT, ts, f1, f2, f3, f4, f5, f6⟩ := e8
    exact ⟨T, oT, ts, f1, f2, f3, f4, k _ f2 _ f5, f6⟩
theorem Exn.step {e : Addr} {l : List (Str × PV)} {wr : List Addr} {st' : AS} {h2 : Heap} (O : Cx.Ok G c) (X : Exn G c st h e l h' wr st') (s : Step G (withHid c wr) st' h' h2) : Exn G c st h e l h2 wr st' := by
  have kp : ∀ b ∈ wr, ∀ o, h'.get? b = some o → h2.get? b = some o := fun b hb o eb => s.later b o (X.W.M b hb) (fun q => X.W.L (q ▸ hb)) eb
  refine ⟨X.mem, X.S.step (O.with _ X.W.h0) s, X.W, fun b hb => ?_, X.nh, ⟨fun b o n1 n2 eb => ?_, X.kw.own⟩, ?_⟩
  · obtain ⟨o, e1, e2⟩ := X.wo b hb; exact ⟨o, kp b hb o e1, e2⟩
  · exact s.later b o (fun q => n1 (.inl q)) (fun q => n1 (.inr (.inl q))) (X.kw.keep b o n1 n2 eb)
  · obtain ⟨md, D, hmd⟩ := X.dat
    exact ⟨md, D.step X.mem kp, hmd⟩
theorem St.wipe (O : Cx.Ok G c) (S : St G c st h) (hm : c.mf = none) {m' : Str → Option Value} (hn : h'.Ns c.env.locals m') (hs : Heap.SameBut c.env.locals h h') : St G c ⟨m', [], st.hc⟩ h' ∧ KLe G c st h ⟨m', [], st.hc⟩ h' := by
  have hL := (O.loc hm).1
  rw [hL] at hn hs
  have F' : Fr c.h₀ c.L h' m' := by have := S.F; rw [hm] at this; exact this.set hn hs
  have KV : KLe G c st h ⟨m', [], st.hc⟩ h' := kle_at (c := c) hs (.inr (.inl rfl)) fun b q => by
    rcases q with q | q | q | q | ⟨y, its, q⟩
    · exact .inl q
    · exact .inr (.inl q)
    · exact .inr (.inr (.inl q))
    · exact .inr (.inr (.inr (.inl q)))
    · simp at q
  refine ⟨{ F := by rw [hm]; exact F', Nn := by rw [hL]; exact hn, ρ := fun y p e => by simp at e, mu := fun y kk e => by simp at e, nd := fun y z kk kk' n e e' => by simp at e, occ' := fun b e => ?_, cocc := fun y ca e => (by obtain ⟨o, q⟩ := S.cocc y ca e; exact ⟨o, (hs.2 ca (O.cel y ca e).2).trans q⟩), own := fun b hb => (by obtain ⟨e1, e2, e3, u, o, e4, e5⟩ := S.own b hb; exact ⟨e1, e2, e3, u, o, (hs.2 b e3).trans e4, e5⟩), glb := S.glb.keep O.hLM ⟨_, S.F.ns⟩ fun b o n e => (hs.2 b n).trans e }, KV⟩
  have e' : Hid c st b := by
    rcases e with q | q | ⟨y, its, q⟩
    · exact .inl q
    · exact .inr (.inl q)
    · simp at q
  obtain ⟨o, e1, nc⟩ := S.occ' b e'
  by_cases q : b = c.L
  · obtain ⟨o', _, _, e2, d, _⟩ := hn; exact ⟨o', q ▸ e2, .dic d⟩
  · exact ⟨o, (hs.2 b q).trans e1, nc⟩
end
section
variable {prog : Program} {w : World} {A : Around} {E : Value → Shared → Prop} {s : Shared} {K : Frag} {C : Addr} {bm : List Value}
theorem exc_match (X : K.In s.heap) (Y : ExcK K C bm) {e : Addr} {oe : Obj} {Q : Bool → Shared → Prop} (he : s.heap.get? e = some oe) (hc : oe.cls = .ref C) (k : Q true s) : wpAny (model prog w) A (excMatches (.ref e) (.ref C)) Q E s := by
  refine Y.elim fun nm q N bs sn sub ab col dd k0 k1 k2 k3 k5 hk => ?_
  have hC := X _ _ hk
  have hcB : (Value.ref C :: bm).contains (.type "BaseException") = true := by rw [List.contains_cons, Y.hasBase, Bool.or_true]
  have hcC : (Value.ref C :: bm).contains (.ref C) = true := by simp
  have f1 := tc_notTuple
  obtain ⟨hp, g, d, tk, os⟩ := s
  obtain ⟨oc, odd, oda, osl⟩ := oe
  dsimp only at hc he hC
  subst hc
  unfold excMatches
  repeat (first | with_reducible refine wpAny_loadPart_at he ?_ | with_reducible refine wpAny_loadPart_at hC ?_ | (with_reducible refine wpAny_isSubtype_exc hC ?_; first | rw [hcB] | rw [hcC]) | wp_step)
  exact k
end
section
variable {G : Gx} {c : Cx} {st : AS}
variable {h h' : Heap}
theorem Ex.tryCall (hK : G.K = hp.heap_1 G.w.params) (hC : G.flt = 52) (O : Cx.Ok G c) (hm : c.mf = none) {f n tx : Str} {fp cpos ep tp hpos pos : Pos} {as : List Expr} {b₀ : Stmt} {suite : List Stmt} {N : AS → Prop} {R : PV → Prop} {X XX : List (Str × PV) → Prop}
    (hl : c.env.kindOf n = some .local) (htx : c.env.kindOf tx = some .globalImplicit) (hg : nsIn G.K mainGlobals tx = some (some (.ref 52)))
    (h : Ev G c st (.Name f fp) fun fv => okF G fv = true ∧ Evs G c st as fun qs => CallX G c st (fv :: qs) (fun q => q = .none ∧ N st) XX)
    (hh : ∀ e l, XX l → ∀ m', Exs G (hcx c (some (.ref e))) (st.set n (.ins 52 l) m') (b₀ :: suite) (fun _ => False) R fun _ => False)
    (hp : autoParam ((backTo cpos (starEach as c.env)).any (·.1) = false) aRfl) (hd : autoParam ((tx == ("__debug__" : Str)) = false) aDec) (hi : autoParam (interactive c.env = false) aRfl) (hs : autoParam (swapsWith (.Call (.Name f fp) as [] cpos) none ep.line c.env = pure false) aRfl) :
    Ex G c st (.Try [.Expr (.Call (.Name f fp) as [] cpos) ep] [.ExceptHandler (some (.Name tx tp)) (some n) (b₀ :: suite) hpos] [] [] pos) N R X := fun h₀ tk S Q' E' zn zr zx => by
  have Y := S52 G.w.params
  rw [← hK] at Y
  refine wpAny_Try_except (wpAny_execs_cons (wpAny_Expr ?_ hi hs))
  show wpAny _ _ (eval (.Call (.Name f fp) as [] cpos) c.env) _ _ _
  rw [eval_CallN]
  refine wpAny_bind (h h₀ tk S _ _ fun vf fv h2 tk2 s2 r2 q2 => ?_)
  refine callWith_all hp (q2.2 cpos h2 tk2 (S.step O s2) _ _ fun vs qs h3 tk3 s3 r3 q3 => ⟨keeper O ((S.step O s2).step O s3) (r2.mono (s3.vle O)) q2.1, ?_⟩)
  have S3 := (S.step O s2).step O s3
  have s03 := s2.trans s3
  refine q3 h3 tk3 (vf :: vs) S3 (.cons (r2.mono (s3.vle O)) r3) _ _ (fun v q h4 tk4 s4 r4 q4 => ?_) (fun e l h4 tk4 wr x4 D4 hX fr4 => ?_)
  · obtain ⟨rfl, hn⟩ := q4
    refine r4.ofNone ?_
    exact wpAny_execs_nil (wpAny_execs_nil (zn st h4 tk4 (S3.step O s4) (s03.trans s4).kle hn))
  · refine note_exn' O hm x4 fun h5 wr5 x5 D5 fr5 => ?_
    refine land_exn O x5 D5 none (.inl rfl) fun h6 x6 D6 => ?_
    have fresh : ∀ b ∈ wr5, h3.get? b = none := fun b hb => by
      rcases fr5 b hb with q | q
      · exact fr4 b q
      · cases w : h3.get? b with
        | none => rfl
        | some o =>
          exfalso
          by_cases ow : Own G c st b
          · obtain ⟨o', w'⟩ := x4.S.occ b (hid_with.mpr (.inl (own_hid O ow))); exact clash q w'
          · by_cases ww : b ∈ wr
            · rw [fr4 b ww] at w; cases w
            · have := x4.kw.keep b o ow ww w; exact clash q this
    refine wpAny_handleBy_cons (codeAny_handlers_test ?_) (by intro q; cases q)
    have O1 : Cx.Ok G (hcx (withHid c wr5) (some (.ref e))) := (O.with wr5 x6.W.h0).hcx
    refine Ev.glob (c := hcx (withHid c wr5) (some (.ref e))) (Q := fun q => q = .adr 52) O1 htx hg (fun _ _ => .adr 52) rfl hd h6 tk4 x6.S.hcx _ _ fun v q h7 tk7 s7 r7 q7 => ?_
    subst q7
    have : v = .ref 52 := r7.inv
    subst this
    have x7 := x6.step O s7.unhcx
    have D7 := D6.step x6.mem fun b hb o eb => s7.later b o (x6.W.M b hb) (fun q => x6.W.L (q ▸ hb)) eb
    refine D7.elim fun oe vs' dx es nn m1 m2 e1 e2 e3 e4 e5 e6 e7 e8 => ?_
    have X7 : G.K.In h7 := O.X.keeps (show ∀ b o, c.h₀.get? b = some o → h7.get? b = some o from x7.S.F.keep)
    refine exc_match X7 Y.toExcK e1 (by rw [e5, hC]) ?_
    show codeAny _ _ _ _ _
    refine codeAny_handlers_suite_as ?_
    refine land_exn (c := hcx c (some (.ref e))) O.hcx x7.hcx D7 none (.inl rfl) fun h8 x8 D8 => ?_
    have S8 : St G (hcx c (some (.ref e))) st h8 := x8.S.unhide
    refine D8.elim fun oe vs' dx es nn m1 m2 e1 e2 e3 e4 e5 e6 e7 e8 => ?_
    have rv : VR G (VW (hcx c (some (.ref e))) st h8) (.ref e) (.ins 52 l) := .ins (view_some.mpr ⟨x8.nh e x8.mem, e1⟩) (by rw [e5, hC]) e2 (by unfold notCls; rw [e3]) (view_some.mpr ⟨x8.nh dx m1, e6⟩) (e7.mono fun b o q => by cases q)
    have K8 : KLe G c st h3 st h8 := ⟨fun b o n1 q => x8.kw.keep b o n1 (fun z => by rw [fresh b z] at q; cases q) q, x8.kw.own⟩
    refine store_of (c := hcx c (some (.ref e))) O.hcx (.inl hl) S8 rv fun m9 h9 tk9 S9 K9 => ?_
    refine hh e l hX m9 h9 tk9 S9 _ _ (fun _ _ _ _ _ z => z.elim) (fun v q st10 h10 tk10 S10 K10 r10 q10 => ?_) fun _ _ _ _ _ _ _ z => z.elim
    have S10' := S10.unhcx
    refine wpAny_nameGoes_keeps hl S10'.Nn (by rw [O.ke]; rfl) fun h11 v11 hn11 hs11 => ?_
    obtain ⟨S11, K11⟩ := S10'.wipe O hm hn11 hs11
    refine zr v q _ h11 _ S11 (s03.kle.trans (K8.trans (K9.unhcx.trans (K10.unhcx.trans K11)))) (r10.mono fun b o eb => ?_) q10
    rw [view_some] at eb ⊢
    refine ⟨fun q => ?_, K11.keep b o (fun q => eb.1 (own_hid O.hcx q)) eb.2⟩
    rcases q with q | q | ⟨y, its, q⟩
    · exact eb.1 (.inl q)
    · exact eb.1 (.inr (.inl q))
    · simp at q
end
end
section
section
variable {G : Gx} {c : Cx} {st : AS}
theorem Ev.attrX (hK : G.K = hp.heap_1 G.w.params) (O : Cx.Ok G c) {value : Expr} {x : Str} {pos : Pos} {Q : PV → Prop} (h : Ev G c st value fun q => ∃ l v, q = .ins 52 l ∧ l.lookup x = some v ∧ findIn G.K (.ref 52) x = some none ∧ v.noBi = true ∧ Q v)
    (he : autoParam (eval (.Attribute value x pos) c.env = (do
      let o ← eval value c.env
      standAt pos.atName
      let r ← holding [o] (getAttr o x true)
      letTemporaryGo value o r
      pure r)) aWu) : Ev G c st (.Attribute value x pos) Q := fun h₁ tk S Q' E' z =>
  Attribute_any_ (h h₁ tk S _ _ fun va a h2 tk2 s2 r2 q2 => by
    obtain ⟨l, v, rfl, hl, ha, hb, hq⟩ := q2
    refine r2.ofIns fun xa dx o es n e1 ec ed en e2 rs => ?_
    · obtain ⟨e', e3, r3⟩ := rs.find.1 v hl
      have S2 := S.step O s2
      obtain ⟨w, hw⟩ : ∃ w, w = e'.val := ⟨_, rfl⟩
      rw [← hw] at r3
      have Y := S52 G.w.params
      rw [← hK] at Y
      have hD : hasDictIn G.K 52 = true := by rw [hK]; rfl
      refine exc_get (O.X.keeps S2.F.keep) Y.toExcK (VW.get e1) ec en ed (VW.get e2) (by rw [hK]; rfl) (by rw [hK]; rfl) (findObj_own hD ha rfl (by rw [lookIn_dict]; show getL x _ = _; unfold getL; rw [e3, hw])) ?_ (z _ _ _ _ s2 r3 hq)
      exact r3.handed hb) he
theorem It.lstH (O : Cx.Ok G c) {target iter : Expr} {Q : List PV → Prop} (hE : Ev G c st iter fun q => ∃ l, q = .lst l ∧ Q l) : It G c st target iter Q := fun h tk S Q' E' z => by
  refine hE h tk S _ _ fun v q h1 tk1 s1 r1 q1 => ?_
  obtain ⟨l, rfl, ql⟩ := q1
  refine r1.ofLst fun ax vs n e r => ?_
  · have S1 := S.step O s1
    refine wpAny_pyIter_list ⟨_, VW.get e, rfl, _, rfl⟩ ?_
    have hne : ax ≠ h1.objs.size := Nat.ne_of_lt (Heap.lt_size (VW.get e))
    have V := view_new (c := c) (st := st) (o := { cls := .type "list_iterator", data := .fields #[.ref ax, .int 0 0] }) (new_none h1)
    have wo : ∀ (i : Nat) h, h.IsListIter h1.objs.size ax i ∧ h.IsList ax vs.toArray → WO [h1.objs.size] h := fun i h sg b hb => by
      rw [List.mem_singleton.mp hb]
      obtain ⟨⟨o, e1, e2, _⟩, _⟩ := sg
      exact ⟨o, e1, by rw [e2]; simp⟩
    have V0a := V _ _ e
    refine z h1.objs.size [h1.objs.size] l (fun i h => h.IsListIter h1.objs.size ax i ∧ h.IsList ax vs.toArray) (fun i v h => h.IsListIter h1.objs.size ax (i + 1) ∧ h.IsList ax vs.toArray) _ tk1 (s1.trans (S1.push O _)) (fun b hb => s1.fresh (new_none h1 b hb)) ?_ ?_ ⟨⟨_, Heap.get?_push_size _ rfl, rfl, rfl⟩, _, Heap.get?_push_of_some _ (VW.get e), rfl, _, rfl⟩ ql
    · intro b hb; rw [List.mem_singleton.mp hb]; exact ⟨_, Heap.get?_push_size _ rfl, by simp⟩
    · refine ⟨fun i g g' s k => ⟨s.1.at fun o e => k _ o (.inl (.head _)) e, s.2.at fun o e => k ax o (.inr ⟨_, V0a⟩) e⟩, fun i g tkg q hq s H hocc hH hV Q E k => ?_, fun i v g tkg md Q E k => ?_, fun hd g tkg s Q E k => ?_, fun i g tkg s Q E k => wpAny_pyIter_listiter s.1 k⟩
      · obtain ⟨v, ev, rv⟩ := r.get hq
        refine wpAny_pyNext_list_item s.1 s.2 (x := v) (by simpa using ev) fun g' hit' hs' => ?_
        have b : But [h1.objs.size] g g' := ⟨fun b o nb e => hs'.extBut b o (fun q => nb (q ▸ .head _)) e, wo (i + 1) g' ⟨hit', s.2.at fun o e => hs'.extBut ax o hne e⟩⟩
        exact k v g' tkg b ((rv.mono (V.trans hV)).but b hH) ⟨hit', s.2.at fun o e => hs'.extBut ax o hne e⟩
      · obtain ⟨o, e1, e2, e3⟩ := md.1
        exact letgo_it ⟨o, e1, e2, e3⟩ (by decide) (k g tkg ⟨fun _ _ _ e => e, wo _ g md⟩ md)
      · exact wpAny_pyNext_list_end hd s.1 s.2 (by simp [r.length]) fun g' he' => k g' tkg fun b o hb e => he' b o (fun h => hb (by simp [h])) e
end
end
section
section
variable {G : Gx} {c : Cx} {st : AS} {h : Heap}
theorem St.less (S : St G c st h) {hc' : List Addr} (hs : ∀ b ∈ hc', b ∈ st.hc) : St G c ⟨st.m, st.ρ, hc'⟩ h ∧ KLe G c st h ⟨st.m, st.ρ, hc'⟩ h := by
  have hid1 : ∀ b, Hid c ⟨st.m, st.ρ, hc'⟩ b → Hid c st b := fun b q => by
    rcases q with q | q | q
    · exact .inl q
    · exact .inr (.inl (hs b q))
    · exact .inr (.inr q)
  have V : VLe (VW c st h) (VW c ⟨st.m, st.ρ, hc'⟩ h) := fun b o eb => by
    rw [view_some] at eb ⊢
    exact ⟨fun q => eb.1 (hid1 b q), eb.2⟩
  refine ⟨{ F := S.F, Nn := S.Nn, ρ := fun y q ey => ?_, mu := fun y kk ey => ?_, nd := S.nd, occ' := fun b q => S.occ' b (hid1 b q), cocc := S.cocc, own := fun b hb => S.own b (hs b hb), glb := S.glb }, fun b o n eb => eb, fun b q => .inl ?_⟩
  · rcases S.ρ y q ey with ⟨kk, v, e1, r⟩ | ⟨kk, ca, v, e1, e2, r⟩
    · exact .inl ⟨kk, v, e1, r.mono V⟩
    · exact .inr ⟨kk, ca, v, e1, e2, r.mono V⟩
  · obtain ⟨k, e1, e2, e3, e4⟩ := S.mu y kk ey
    exact ⟨k, e1, fun b hb => ⟨(e2 b hb).1, fun q => (e2 b hb).2.1 (hs b q), (e2 b hb).2.2⟩, e3.mono V fun b hb o eb => eb, e4⟩
  · rcases q with q | q | q | q | q
    · exact .inl q
    · exact .inr (.inl q)
    · exact .inr (.inr (.inl q))
    · exact .inr (.inr (.inr (.inl (hs b q))))
    · exact .inr (.inr (.inr (.inr q)))
theorem Ex.defPut (O : Cx.Ok G c) {name : Str} {params : Arguments} {body : List Stmt} {scope : Scope} {pos : Pos} {x : Str} {q : PV} {cc ca tab : Addr} {N : AS → Prop} {R : PV → Prop} {X : List (Str × PV) → Prop}
    (hkp : G.kput = ⟨name, qualnameIn c.env name name, params, .stmts body, scope, x, pos, tab⟩) (hne : G.kput.tab ≠ G.klam.tab) (hcode : c.env.code = .ref cc) (C : codeHdIn G.K cc tab = true) (hcl : closureFor scope c.env = pure [(x, ca)]) (hdoc : noDoc (.stmts body) = true)
    (hx : st.ρ.lookup x = some (.v q)) (hk : c.env.kindOf x = some .cell) (hca : c.env.cells.lookup x = some ca) (hmem : ca ∈ st.hc) (hnh : ¬ c.hid ca)
    (hs : Stores c ⟨st.m, st.ρ, st.hc.filter fun b => !(b == ca)⟩ name) (hN : ∀ m', N (AS.set ⟨st.m, st.ρ, st.hc.filter fun b => !(b == ca)⟩ name (.put q) m'))
    (hd0 : autoParam (params.defaults = []) aRfl) (hk0 : autoParam (params.kw_defaults = []) aRfl) (ha : autoParam (annTrees params none c.env = []) aRfl) :
    Ex G c st (.FunctionDef name params body [] none [] scope none name pos) N R X := fun h₀ tk S Q' E' zn zr zx => by
  refine nestDef_K hd0 hk0 ha ?_
  obtain ⟨S1, K1⟩ := S.less (hc' := st.hc.filter fun b => !(b == ca)) fun b hb => (List.mem_filter.mp hb).1
  have := mkClo (c := c) O S1 (k := G.kput) (.inl rfl) hne hcode (by rw [hkp]; exact C) (by rw [hkp]; exact hcl) (by rw [hkp]; exact hdoc) (fl := pos.line) (tk := tk) (Q := fun v s' => wpAny (model G.prog G.w) c.A (storeName c.env name v) (fun _ s'' => Q' .next s'') E' s') (E := E') fun f cd pm ct h' tk' s fn ef hcd => ?_
  · rw [hkp] at this; exact this
  have S2 := S1.step O s
  obtain ⟨oc, cvs, t, k1, k2, k3, k4⟩ := hcd
  have nca : ¬ Hid c ⟨st.m, st.ρ, st.hc.filter fun b => !(b == ca)⟩ ca := by
    rintro (z | z | ⟨y, k, z1, z2⟩)
    · exact hnh z
    · have := (List.mem_filter.mp z).2; simp at this
    · exact ((S.mu y k z1).2.2.1 ca z2).2.1 hmem
  have rv : VR G (VW c ⟨st.m, st.ρ, st.hc.filter fun b => !(b == ca)⟩ h') (.ref f) (.put q) := by
    rcases S2.ρ x q hx with ⟨z, _⟩ | ⟨_, cb, v, z1, ⟨o, z2, z3⟩, r⟩
    · rw [hk] at z; cases z
    · rw [hca] at z1; cases z1
      refine .put (c := ca) (cd := cd) (pm := pm) (ct := ct) (v := v) (view_some.mpr ⟨fun z => ?_, ?_⟩) (view_some.mpr ⟨nca, z2⟩) z3 (view_some.mpr ⟨k2, k1⟩) k3 (by rw [hkp] at k4 ⊢; exact k4) r
      · obtain ⟨o, w⟩ := S1.occ _ z; exact clash fn w
      · rw [ef, hkp]
  exact store_of O hs S2 rv fun m' h3 tk3 S3 K3 => zn _ h3 tk3 S3 (K1.trans (s.kle.trans K3)) (hN m')
theorem Ev.lam (O : Cx.Ok G c) {params : Arguments} {body : Expr} {scope : Scope} {pos : Pos} {x : Str} {cc ca tab : Addr} {Q : PV → Prop}
    (hkp : G.klam = ⟨"<lambda>", c.env.qual ++ "<lambda>", params, .expr body, scope, x, pos, tab⟩) (hne : G.kput.tab ≠ G.klam.tab) (hcode : c.env.code = .ref cc) (C : codeHdIn G.K cc tab = true) (hcl : closureFor scope c.env = pure [(x, ca)])
    (hq : ∀ f, Q (.adr f)) (hdef : autoParam (defaultsOf params c.env = ([], [])) aRfl) : Ev G c st (.Lambda params body scope pos) Q := fun h₀ tk S Q' E' z => by
  refine kla_eval hdef ?_
  have := mkClo (c := c) O S (k := G.klam) (.inr rfl) hne hcode (by rw [hkp]; exact C) (by rw [hkp]; exact hcl) (by rw [hkp]; rfl) (fl := pos.line) (tk := tk) (Q := Q') (E := E') fun f cd pm ct h' tk' s fn ef hcd => z _ _ h' tk' s (.adr f) (hq f)
  rw [hkp] at this; exact this
end
end
section
noncomputable def zipped (l1 l2 : List PV) : List PV := (l1.zip l2).map fun p => .tup [p.1, p.2]
theorem zipped_get {l1 l2 : List PV} {i : Nat} {q : PV} (e : (zipped l1 l2)[i]? = some q) : ∃ a b, l1[i]? = some a ∧ l2[i]? = some b ∧ q = .tup [a, b] := by
  unfold zipped at e
  rw [List.getElem?_map] at e
  obtain ⟨p, hp, rfl⟩ := Option.map_eq_some_iff.mp e
  obtain ⟨h1, h2⟩ := List.getElem?_zip_eq_some.mp hp
  exact ⟨_, _, h1, h2, rfl⟩
noncomputable def SeqP (q : PV) (l : List PV) : Prop := q = .lst l ∨ q = .tup l
theorem VR.sq {G : Gx} {V : Addr → Option Obj} {hh : Heap} {v : Value} {q : PV} {l : List PV} (r : VR G V v q) (h : SeqP q l) (hV : ∀ b o, V b = some o → hh.get? b = some o) : ∃ b a ws, v = .ref a ∧ SqOf hh b a ws.toArray ∧ (∃ o, V a = some o) ∧ VRs G V ws l := by
  rcases h with rfl | rfl
  · exact r.ofLst fun a vs n e rs => ⟨false, _, _, rfl, ⟨_, hV _ _ e, rfl, _, rfl⟩, ⟨_, e⟩, rs⟩
  · exact r.ofTup fun a vs n e rs => ⟨true, _, _, rfl, ⟨_, hV _ _ e, rfl, _, rfl⟩, ⟨_, e⟩, rs⟩
section
variable {G : Gx} {c : Cx} {st : AS}
theorem zip_made (O : Cx.Ok G c) {h : Heap} {tk : Nat} (S : St G c st h) {va vb : Value} {a b : PV} {l1 l2 : List PV} (ra : VR G (VW c st h) va a) (rb : VR G (VW c st h) vb b) (ha : SeqP a l1) (hb : SeqP b l2) {Q : Value → Shared → Prop} {E : Value → Shared → Prop}
    (k : ∀ z TI TO i1 i2 x1 x2 b1 b2 ws us h', ZipApart z TI TO i1 i2 x1 x2 → ZipSt h' z TI TO i1 i2 x1 x2 b1 b2 0 ws.toArray us.toArray .none false → VRs G (VW c st h) ws l1 → VRs G (VW c st h) us l2 → (∃ o, VW c st h x1 = some o) → (∃ o, VW c st h x2 = some o) →
      (∀ d ∈ [z, TI, TO, i1, i2], h.get? d = none) → (∀ d o, h.get? d = some o → h'.get? d = some o) → Q (.ref z) (G.sh h' tk)) :
    wpAny (model G.prog G.w) c.A (call (.type "zip") [va, vb]) Q E (G.sh h tk) := by
  obtain ⟨b1, x1, ws, rfl, s1, ⟨o1, e1⟩, r1⟩ := ra.sq (hh := h) ha fun _ _ => VW.get
  obtain ⟨b2, x2, us, rfl, s2, ⟨o2, e2⟩, r2⟩ := rb.sq (hh := h) hb fun _ _ => VW.get
  refine call_zipG s1 s2 fun h' Z kp => ?_
  exact k _ _ _ _ _ x1 x2 b1 b2 ws us h' (apart5 (Heap.lt_size (VW.get e1)) (Heap.lt_size (VW.get e2))) Z r1 r2 ⟨o1, e1⟩ ⟨o2, e2⟩ (mem5 (P := fun d => h.get? d = none) (Heap.get?_none_of_le (Nat.le_add_right _ 4)) (Heap.get?_none_of_le (Nat.le_add_right _ 2)) (Heap.get?_none_of_le (Nat.le_add_right _ 3)) (Heap.get?_none_of_le (Nat.le_refl _)) (Heap.get?_none_of_le (Nat.le_add_right _ 1))) kp
theorem It.zip (O : Cx.Ok G c) {elts : List Expr} {kk : Nat} {tpos : Pos} {x : Str} {xp pos : Pos} {e1 e2 : Expr} {Q : List PV → Prop} (hx : Ev G c st (.Name x xp) fun f => f = .ty "zip") (hE : Evs G c st [e1, e2] fun qs => ∃ a b l1 l2, qs = [a, b] ∧ SeqP a l1 ∧ SeqP b l2 ∧ Q (zipped l1 l2))
    (hp : autoParam ((backTo pos (starEach [e1, e2] c.env)).any (·.1) = false) aRfl) : It G c st (.Tuple elts kk tpos) (.Call (.Name x xp) [e1, e2] [] pos) Q := fun h₁ tk S Q' E' z => by
  rw [eval_CallN]
  refine wpAny_bind (hx h₁ tk S _ _ fun vf f h2 tk2 s2 r2 q2 => ?_)
  subst q2
  have : vf = .type "zip" := r2.inv
  subst this
  refine callWith_all hp (hE pos h2 tk2 (S.step O s2) _ _ fun vs qs h3 tk3 s3 r3 q3 => ⟨⟨.machine, .inr (.inl rfl), Looks.of_pure rfl⟩, ?_⟩)
  obtain ⟨a, b, l1, l2, rfl, ha, hb, hq⟩ := q3
  refine r3.of2 fun va vb ra rb => ?_
  · · have S3 := (S.step O s2).step O s3
      refine zip_made O S3 ra rb ha hb fun Z TI TO i1 i2 x1 x2 b1 b2 ws us h4 D ZS r1 r2 hv1 hv2 fr k4 => ?_
      have s4 := S3.keepAll O k4
      have n3 : ∀ b ∈ [Z, TO, i1, i2], h3.get? b = none := mem4 (fr _ mm0) (fr _ mm2) (fr _ mm3) (fr _ mm4)
      have fr1 : ∀ b ∈ [Z, TO, i1, i2], h₁.get? b = none := fun b hb => (s2.trans s3).fresh (n3 b hb)
      have wo : ∀ (i : Nat) (h : Heap) (f0 : Value) (f1 : Bool), ZipSt h Z TI TO i1 i2 x1 x2 b1 b2 i ws.toArray us.toArray f0 f1 → WO [Z, TO, i1, i2] h := fun i h f0 f1 s => mem4 (P := fun b => ∃ o, h.get? b = some o ∧ o.cls ≠ .type "code") ⟨_, s.zr, by simp⟩ (s.TO.elim fun _ e => e.elim fun _ e => ⟨_, e, by simp⟩) (s.i1.elim fun o e => ⟨o, e.1, by rw [e.2.1]; cases b1 <;> simp [sqI]⟩) (s.i2.elim fun o e => ⟨o, e.1, by rw [e.2.1]; cases b2 <;> simp [sqI]⟩)
      have vis : ∀ d, (∃ o, VW c st h3 d = some o) → ∃ o, view (fun b => Hid c st b ∨ b ∈ [Z, TO, i1, i2]) h4 d = some o := fun d ⟨o, e⟩ => ⟨o, view_some.mpr ⟨fun q => q.elim (VW.old e) fun q => (by have := n3 d q; rw [VW.get e] at this; cases this), k4 _ _ (VW.get e)⟩⟩
      have visTI : ∃ o, view (fun b => Hid c st b ∨ b ∈ [Z, TO, i1, i2]) h4 TI = some o := ⟨_, view_some.mpr ⟨fun q => by
        rcases q with q | q
        · obtain ⟨o, e⟩ := S3.occ _ q
          have := fr TI mm1
          rw [e] at this; cases this
        · exact mem4 (P := fun b => TI = b → False) D.TIz D.TITO D.TIi1 D.TIi2 TI q rfl, ZS.TI⟩⟩
      refine wpAny_pyIter_zip (s := ⟨h4, _, _, _, _⟩) ZS.zr ?_
      refine z Z [Z, TO, i1, i2] (zipped l1 l2) (fun (i : Nat) h => ZipSt h Z TI TO i1 i2 x1 x2 b1 b2 i ws.toArray us.toArray .none false)
        (fun i v h => ∃ T : Addr, v = .ref T ∧ ZipSt h Z TI TO i1 i2 x1 x2 b1 b2 (i + 1) ws.toArray us.toArray (rawInt ((T : Nat) : Int)) false) h4 tk3 ((s2.trans s3).trans s4) fr1 (wo 0 h4 _ _ ZS) ?_ ZS hq
      refine ⟨fun i g g' s k => ?_, fun i g tkg q hq s H hocc hH hV Q E k => ?_, fun i v g tkg md Q E k => ?_, fun hd g tkg s Q E k => ?_, fun i g tkg s Q E k => ?_⟩
      · exact s.at fun b hb o e => k b o (mem7 (P := fun b => b ∈ [Z, TO, i1, i2] ∨ ∃ o, view (fun b => Hid c st b ∨ b ∈ [Z, TO, i1, i2]) h4 b = some o) (.inl mm0) (.inr visTI) (.inl mm1) (.inl mm2) (.inl mm3) (.inr (vis _ hv1)) (.inr (vis _ hv2)) b hb) e
      · obtain ⟨p, r, ep, er, rfl⟩ := zipped_get hq
        obtain ⟨vp, evp, rvp⟩ := r1.get ep
        obtain ⟨vr, evr, rvr⟩ := r2.get er
        refine zipG_item D s (.inl ⟨rfl, rfl⟩) (x := vp) (y := vr) (by simpa using evp) (by simpa using evr) fun g' T f0' f1' s' _ hf hT fT kp => ?_
        obtain ⟨rfl, rfl⟩ := hf rfl
        have b : But [Z, TO, i1, i2] g g' := ⟨fun b o nb e => kp b o (nn0 nb) (nn1 nb) (nn2 nb) (nn3 nb) e, wo _ _ _ _ s'⟩
        have VV : VLe (VW c st h3) (view H g) := VLe.trans (fun b o e => by
          rw [view_some] at e ⊢
          refine ⟨fun q => q.elim e.1 fun q => ?_, k4 _ _ e.2⟩
          rw [n3 b q] at e; cases e.2) hV
        refine k (.ref T) g' tkg b (.tup (vs := [vp, vr]) (n := 0) (view_some.mpr ⟨fun q => ?_, hT⟩) (.cons ((rvp.mono VV).but b hH) (.cons ((rvr.mono VV).but b hH) .nil))) ⟨T, rfl, s'⟩
        obtain ⟨o, e⟩ := hocc _ q
        exact clash fT e
      · obtain ⟨T, rfl, m⟩ := md
        obtain ⟨ta, tb, te⟩ := m.TO
        refine wpAny_letOwnedTupleGo_zip m.zr fun g' e1 e2 => ?_
        have m' : ZipSt g' Z TI TO i1 i2 x1 x2 b1 b2 (i + 1) ws.toArray us.toArray .none false :=
          ⟨e1, e2.extBut _ _ D.TIz m.TI, ⟨ta, tb, e2.extBut _ _ D.TOz te⟩, m.i1.at fun o e => e2.extBut _ _ D.i1z e, m.i2.at fun o e => e2.extBut _ _ D.i2z e, m.l1.at fun o e => e2.extBut _ _ D.l1z e, m.l2.at fun o e => e2.extBut _ _ D.l2z e⟩
        exact k g' tkg ⟨fun b o nb e => e2.extBut b o (nn0 nb) e, wo _ _ _ _ m'⟩ m'
      · refine zipG_end hd D s (.inl ⟨rfl, rfl⟩) ?_ fun g' he => k g' tkg fun b o hb e => he b o (nn0 hb) (nn1 hb) (nn2 hb) (nn3 hb) e
        have hl : (zipped l1 l2).length = min ws.length us.length := by simp [zipped, r1.length, r2.length]
        rw [hl]
        rcases Nat.le_total ws.length us.length with h | h
        · left; rw [Nat.min_eq_left h]; simp
        · right; rw [Nat.min_eq_right h]; simp
      · exact wpAny_pyIter_zip (s := ⟨g, _, _, _, _⟩) s.zr k
end
end
section
inductive ZPV : List PV → List PV → List (Str × PV) → Prop
  | nil1 {b : List PV} : ZPV [] b []
  | nil2 {a : List PV} : ZPV a [] []
  | cons {k : Str} {q : PV} {a b : List PV} {ps : List (Str × PV)} : ZPV a b ps → ZPV (.str k :: a) (q :: b) ((k, q) :: ps)
theorem ZPV.vals {G : Gx} {V : Addr → Option Obj} {l1 l2 : List PV} {ps : List (Str × PV)} (z : ZPV l1 l2 ps) : ∀ {ws us : List Value}, VRs G V ws l1 → VRs G V us l2 → ∃ kvs, ZP ws us kvs ∧ KVR G V kvs ps :=
  ZPV.rec (motive := fun l1 l2 ps _ => ∀ {ws us : List Value}, VRs G V ws l1 → VRs G V us l2 → ∃ kvs, ZP ws us kvs ∧ KVR G V kvs ps) (fun r _ => r.ofNil ⟨[], .nil1, .nil⟩) (fun _ r => r.ofNil ⟨[], .nil2, .nil⟩)
    (fun _ ih ws us r r' => r.ofCons fun v ws r rs => r'.ofCons fun u us r' rs' => (ih rs rs').elim fun kvs h => r.ofStr (P := fun v => ∃ kvs, ZP (v :: ws) (u :: us) kvs ∧ KVR G V kvs _) fun t => ⟨_, .cons h.1, .cons r' h.2⟩) z
section
variable {G : Gx} {c : Cx} {st : AS}
theorem Ev.dictzip (O : Cx.Ok G c) {d zz : Str} {dp zp p1 p2 : Pos} {e1 e2 : Expr} {Q : PV → Prop} (hb : ∀ h, St G c st h → sysModules < h.objs.size) (hx : Ev G c st (.Name d dp) fun f => f = .ty "dict") (hz : Ev G c st (.Name zz zp) fun f => f = .ty "zip")
    (hE : Evs G c st [e1, e2] fun qs => ∃ a b l1 l2 ps, qs = [a, b] ∧ SeqP a l1 ∧ SeqP b l2 ∧ ZPV l1 l2 ps ∧ ps.length ≤ 16777216 ∧ Q (.dct (putAll [] ps)))
    (hp : autoParam ((backTo p2 (starEach [e1, e2] c.env)).any (·.1) = false) aRfl) (hp1 : autoParam (starEach [.Call (.Name zz zp) [e1, e2] [] p2] c.env = [(false, eval (.Call (.Name zz zp) [e1, e2] [] p2) c.env)]) aRfl) (hd : autoParam (c.hdl = none) aRfl) : Ev G c st (.Call (.Name d dp) [.Call (.Name zz zp) [e1, e2] [] p2] [] p1) Q := fun h₁ tk S Q' E' z => by
  show wpAny _ _ (eval _ _) _ _ _
  rw [eval_CallN]
  refine wpAny_bind (hx h₁ tk S _ _ fun vf f h2 tk2 s2 r2 q2 => ?_)
  subst q2
  have : vf = .type "dict" := r2.inv
  subst this
  have S2 := S.step O s2
  refine callWith_all (by rw [hp1]; rfl) ?_
  rw [hp1]
  refine spliced_cons ?_
  rw [eval_CallN]
  refine wpAny_bind (hz h2 tk2 S2 _ _ fun vz fz h3 tk3 s3 r3 q3 => ?_)
  subst q3
  have : vz = .type "zip" := r3.inv
  subst this
  refine callWith_all hp (hE p2 h3 tk3 (S2.step O s3) _ _ fun vs qs h4 tk4 s4 r4 q4 => ⟨⟨.machine, .inr (.inl rfl), Looks.of_pure rfl⟩, ?_⟩)
  obtain ⟨a, b, l1, l2, ps, rfl, ha, hb', hzp, hlen, hq⟩ := q4
  have S4 := (S2.step O s3).step O s4
  refine r4.of2 fun va vb ra rb => ?_
  · · refine zip_made O S4 ra rb ha hb' fun Z TI TO i1 i2 x1 x2 b1 b2 ws us h5 D ZS w1 w2 hv1 hv2 fr k5 => ?_
      refine spliced_nil ⟨⟨.machine, .inr (.inl rfl), Looks.of_pure rfl⟩, ?_⟩
      have s5 := S4.keepAll O k5
      have S5 := S4.step O s5
      obtain ⟨kvs, hzp', KV⟩ := hzp.vals w1 w2
      refine call_dict_zip (s := ⟨h5, _, _, _, _⟩) hd D ZS hzp' (by rw [KV.length]; exact hlen) fun h6 tk6 D6 k6 => ?_
      have kk : ∀ b o, h4.get? b = some o → h6.get? b = some o := fun b o e => k6 b o (fun q => by have := fr b (by simp [q]); rw [e] at this; cases this) (fun q => by have := fr b (by simp [q]); rw [e] at this; cases this) (fun q => by have := fr b (by simp [q]); rw [e] at this; cases this) (fun q => by have := fr b (by simp [q]); rw [e] at this; cases this) (k5 _ _ e)
      have s6 := S4.keepAll O kk
      obtain ⟨es, n', e6, r6⟩ := DictOf.back D6 ((KV.mono (s6.vle O)).storedAll .nil)
      have fresh5 : h4.get? h5.objs.size = none := by
        cases w : h4.get? h5.objs.size with
        | none => rfl
        | some o => exact absurd (Heap.lt_size (k5 _ _ w)) (Nat.lt_irrefl _)
      refine z _ _ h6 tk6 (((s2.trans s3).trans s4).trans s6) (.dct (fun q => ?_) (view_some.mpr ⟨fun q => ?_, e6⟩) r6) hq
      · exact absurd (hb h5 S5) (by rw [q]; exact Nat.lt_irrefl _)
      · obtain ⟨o, w⟩ := S4.occ _ q; exact clash fresh5 w
end
end
section
section
variable {G : Gx} {c : Cx} {st : AS} {h h' : Heap}
theorem Ev.dict1 (O : Cx.Ok G c) {x : Str} {e : Expr} {k : Nat} {p1 pos : Pos} {Q : PV → Prop} (hb : ∀ h, St G c st h → sysModules < h.objs.size) (hE : ∀ wr, Cx.Ok G (withHid c wr) → Ev G (withHid c wr) st e fun q => Q (.dct [(x, q)])) : Ev G c st (.Dict [some (.Constant (.str x) k p1)] [e] pos) Q := fun h tk S Q' E' z => by
  refine wpAny_Dict_any rfl rfl (by simp) (by simp) ?_
  have hfr : ∀ b o, h.get? b = some o → b ≠ h.objs.size := fun b o e => Nat.ne_of_lt (Heap.lt_size e)
  have hw : ∀ b ∈ [h.objs.size], h.get? b = none := fun b hb => by
    rw [List.mem_singleton.mp hb]
    cases e : h.get? h.objs.size with
    | none => rfl
    | some o => exact absurd (Heap.lt_size e) (Nat.lt_irrefl _)
  have s1 := S.push O { cls := .type "dict", data := .dict #[] }
  have e0 : (h.push { cls := .type "dict", data := .dict #[] }).get? h.objs.size = some { cls := .type "dict", data := .dict #[] } := Heap.get?_push_size _ rfl
  have S1 := S.hide O s1 hw (fun b hb => by rw [List.mem_singleton.mp hb]; exact ⟨_, e0, by simp⟩)
  have O' := O.with [h.objs.size] fun b hb => S.new0 (hw b hb)
  refine pairTrees_cons_walk ?_
  refine (Ev.const_str (c := withHid c [h.objs.size]) (Q := fun q => q = .str x) rfl) _ tk S1 _ _ fun vk qk h2 tk2 s2 rk ek => ?_
  subst ek
  refine hE _ O' _ _ (S1.step O' s2) _ _ fun v q h3 tk3 s3 r3 q3 => ?_
  refine pairTrees_nil_walk ?_
  have hnew : (h.push { cls := .type "dict", data := .dict #[] }).DictOf (strKind G.prog G.w) h.objs.size [] := Heap.DictOf.new h
  have hM : h.objs.size ∉ c.M G := fun q => fresh_hid S (hid_of_M O q)
  have hL : h.objs.size ≠ c.L := fun q => fresh_hid S (.inl (q ▸ O.hLh))
  have s23 := s2.trans s3
  have S3 := (S1.step O' s2).step O' s3
  have D3 : h3.DictOf (strKind G.prog G.w) h.objs.size [] := by
    obtain ⟨o, es, ep, ho, r⟩ := hnew
    exact ⟨o, es, ep, s23.later _ _ hM hL ho, r⟩
  refine rk.ofStr fun t => ?_
  · show wpAny _ _ (PySem.storeAll _ _) _ _ _
    unfold PySem.storeAll
    rw [List.forIn_cons]
    refine wpAny_bind (wpAny_bind (wpAny_dictSet_pairs (knd := strKind G.prog G.w) (strKind_is G.prog G.w x t) D3 (fun h4 D4 hs4 => ?_)))
    refine wpAny_pure ?_
    dsimp only
    rw [List.forIn_nil]
    refine wpAny_pure ?_
    have later3 : ∀ b o, b ∉ c.M G → b ≠ c.L → h.get? b = some o → h3.get? b = some o := fun b o n1 n2 e => s23.later b o n1 n2 (s1.later b o n1 n2 e)
    have s4 : Step G c st h h4 := by
      refine ⟨fun b o n1 n2 e => hs4.extBut b o (hfr b o e) (later3 b o n1 n2 e), ⟨S3.F.ns.extBut hs4.extBut (fun q => hL q.symm), fun b o e => hs4.extBut b o (hfr b o (S.F.keep b o e)) (S3.F.keep b o e), S3.F.above⟩, ?_⟩
      obtain ⟨o, es, ep, ho, hc, hd, _⟩ := D3
      exact S3.glb.keepD hM ⟨o, es, ep, ho, hd⟩ fun b o n e => hs4.extBut b o n e
    have rr : VR G (VW c st h4) v q := r3.mono fun b o e => by
      have e' := view_some.mp e
      exact view_some.mpr ⟨fun q => e'.1 (hid_with.mpr (.inl q)), hs4.extBut b o (fun q => e'.1 (hid_with.mpr (.inr (q ▸ .head _)))) e'.2⟩
    obtain ⟨es, n, e4, r4⟩ := DictOf.back (G := G) (V := VW c st h4) (l := [(x, q)]) D4 (KVR.stored (x := x) rr (kvs := []) (l := []) .nil)
    exact z _ _ h4 _ s4 (.dct (fun q => absurd (hb h S) (by rw [← q]; exact Nat.lt_irrefl _)) (view_some.mpr ⟨fresh_hid S, e4⟩) r4) q3
end
end
section
section
variable {G : Gx} {c : Cx} {st : AS} {h h' : Heap}
theorem strs_vrs {V : Addr → Option Obj} {vs : List Value} {ss : List Str} (h : StrsAre vs ss) : VRs G V vs (ss.map PV.str) := StrsAre.rec (motive := fun vs ss _ => VRs G V vs (ss.map PV.str)) .nil (fun y t {_ _} _ r => .cons (.str y t) r) h
theorem strs_of {kvs : List (Str × Value)} : ∀ {vs : List Value} {ss : List Str}, vs.length = ss.length → (∀ (j : Nat) (v : Value), vs[j]? = some v → ∃ x t, v = Value.str x t ∧ ss[j]? = some x) → StrsAre vs ss
  | [], [], _, _ => .nil
  | [], _ :: _, e, _ => by simp at e
  | _ :: _, [], e, _ => by simp at e
  | v :: vs, y :: ss, e, f => by
    obtain ⟨x, t, rfl, e2⟩ := f 0 v rfl
    simp at e2; subst e2
    exact .cons _ t (strs_of (kvs := kvs) (by simpa using e) fun j v hj => f (j + 1) v (by simpa using hj))
theorem call_sorted_dct (O : Cx.Ok G c) {l : List (Str × PV)} {Q : PV → Prop} (hn : (l.map (·.1)).Nodup) (h64 : l.length < 64) (hh : c.hdl = none) (q : ∀ ss : List Str, ss.Perm (l.map (·.1)) → Q (.lst (ss.map PV.str))) : OpL G c st callL [.bi "sorted", .dct l] Q := .bi1 fun h tk v S r' Q' E' z => by
  refine r'.ofDct fun d es n ne e r => ?_
  · · · obtain ⟨kvs, D, KV⟩ := VRd.dict (G := G) (VW.get e) r hn
        obtain ⟨o, es', ep, g1, g2⟩ := D
        have D1 : h.DictAt (strKind G.prog G.w) d kvs ep := ⟨o, es', g1, g2⟩
        obtain ⟨news, N, hall⟩ := ledger c.h₀ h c.L
        have hkl : kvs.length = l.length := KV.length
        refine kdu_sorted (kdl_dict (knd := strKind G.prog G.w) (kvs := kvs) (ep := ep) (beq_eq_false_iff_ne.mpr ne)) hh S.F N D1 (by rw [hkl, sizeLine_eq]; omega) fun B h1 tk1 vs F1 N1 lB hl hv => ?_
        have hS : StrsAre vs (l.map (·.1)) := strs_of (kvs := kvs) (by rw [hl, hkl, List.length_map]) fun j v ej => by
          obtain ⟨k, x, hk, hi⟩ := hv j v ej
          obtain ⟨t, rfl⟩ := Value.isStrOf_shape hi
          have hjl : j < l.length := by
            have := (List.getElem?_eq_some_iff.mp ej).1
            omega
          obtain ⟨v', hv', _⟩ := KV.get (List.getElem?_eq_getElem hjl)
          rw [hk] at hv'; cases hv'
          exact ⟨_, t, rfl, by simp [hjl]⟩
        have hoB : h1.get? B = some (seqObj "list" vs.toArray 0) := (N1 _ (.head _)).1
        have hB := (N1 _ (.head _)).2
        refine wpAny_call_entry slot_list_sort ⟨_, hoB, rfl⟩ entry_list_sort (list_sort_treeK strKind_oneLt hoB hS.keysOf (fun v₁ v₂ rest e => keyKind_strs (by rw [← e]; exact hS)) (by rw [hl, hkl]; exact h64) fun st' a1 a2 => ⟨_, rfl, ?_⟩) (args_list_sort _)
        obtain ⟨ss, b1, b2, b3⟩ := sorted_out_str hS a1 a2
        obtain ⟨e2, he2⟩ := sortedHeap_at (h := h1) (out := (arrOf st').map (·.2)) hoB
        have old : ∀ b o, b ≠ B → h1.get? b = some o → (sortedHeap h1 B vs ((arrOf st').map (·.2))).get? b = some o := fun b o nb eb => by
          rw [sortedHeap_old nb (Heap.lt_size eb)]; exact eb
        have hLB : c.L ≠ B := fun q => hB.1 q.symm
        have h0B : ∀ b o, c.h₀.get? b = some o → b ≠ B := fun b o eb q => by exact clash hB.2 (q ▸ eb)
        have s1 := S.ofNews O hall F1 N1 fun p hp => .tail _ hp
        have keep0 : ∀ b o, h.get? b = some o → b ≠ B := fun b o eb => by
          by_cases q1 : b = c.L
          · rw [q1]; exact hLB
          · cases z0 : c.h₀.get? b with
            | some o' => exact h0B b o' z0
            | none => exact Nat.ne_of_lt (lB _ (hall b o eb q1 z0))
        have hBh : ¬ Hid c st B := fun q => by
          obtain ⟨o, eb⟩ := S.occ _ q
          exact keep0 _ _ eb rfl
        have s2 : Step G c st h (sortedHeap h1 B vs ((arrOf st').map (·.2))) := S.keep O (fun b o nb eb => old b o (keep0 b o eb) (by
          cases z0 : c.h₀.get? b with
          | some o' => have := S.F.keep b o' z0; rw [eb] at this; cases this; exact F1.keep b o z0
          | none => exact (N1 _ (.tail _ (hall b o eb nb z0))).1)) ⟨F1.ns.at' (fun o eb => old _ o hLB eb), fun b o eb => old b o (h0B b o eb) (F1.keep b o eb), F1.above⟩
        refine z _ (.lst (ss.map PV.str)) _ tk1 s2 (.lst (n := e2) (vs := ((arrOf st').map (·.2)).toList) (view_some.mpr ⟨hBh, ?_⟩) (strs_vrs b1)) (q ss b2)
        rw [Array.toArray_toList]; exact he2
theorem op_notIn_dct (O : Cx.Ok G c) {x : Str} {l : List (Str × PV)} {Q : PV → Prop} (q : Q (.bool (!(l.lookup x).isSome))) : Op2 G c st (compareOp .NotIn) (.str x) (.dct l) Q := fun h tk va vb S ra rb Q' E' z =>
  ra.ofStr fun t => rb.ofDct fun a es n ne e r => wpAny_notIn_of (strKind_is G.prog G.w x t) (beq_eq_false_iff_ne.mpr ne) (r.map (c := c) (st := st) (h := h) (VW.get e)) (by rw [Option.isSome_map, r.findS]; exact z _ _ _ _ S.refl (.bool _) q)
theorem VRs.rep {V : Addr → Option Obj} {vs : List Value} {l : List PV} (r : VRs G V vs l) : ∀ k : Nat, VRs G V (List.replicate k vs).flatten (List.replicate k l).flatten
  | 0 => .nil
  | k + 1 => by rw [List.replicate_succ, List.replicate_succ, List.flatten_cons, List.flatten_cons]; exact r.append (r.rep k)
theorem op_mul_lst (O : Cx.Ok G c) {l : List PV} {k : Nat} {Q : PV → Prop} (h0 : l ≠ []) (hk : k ≤ 100) (hl : l.length ≤ 1000) (q : Q (.lst (List.replicate k l).flatten)) : Op2 G c st (binaryOp .Mult) (.lst l) (.int k) Q := fun h tk va vb S ra rb Q' E' z => by
  refine ra.ofLst fun a vs n e r => rb.ofInt fun t => ?_
  · · obtain ⟨news, N, hall⟩ := ledger c.h₀ h c.L
      have ll := r.length
      refine mul_list S.F N (VW.get e) (by omega) (by omega) (by rw [List.size_toArray, ll]; have : l.length * k ≤ 1000 * 100 := Nat.mul_le_mul hl hk; simp; omega) fun h' F' N' => ?_
      have s := S.ofNews O hall F' N' fun p hp => .tail _ hp
      have e1 := (N' _ (.head _)).1
      have hne : vs.toArray.isEmpty = false := by
        cases vs with
        | nil => exact absurd (List.eq_nil_of_length_eq_zero ll.symm) h0
        | cons v vs => rfl
      rw [hne] at e1
      simp only [Bool.false_eq_true, if_false, listMul_foldl, Int.toNat_natCast] at e1
      refine z _ _ h' _ s (.lst (n := 0) (vs := (List.replicate k vs).flatten) (view_some.mpr ⟨fresh_hid S, ?_⟩) ((r.rep k).mono (s.vle O))) q
      simpa using e1
theorem call_max (O : Cx.Ok G c) {a b : Int} {Q : PV → Prop} (hh : c.hdl = none) (q : Q (.int (if b > a then b else a))) : OpL G c st callL [.bi "max", .int a, .int b] Q := .bi2 fun h tk v w S r1 r2 Q' E' z => by
  refine r1.ofInt fun t => r2.ofInt fun u => max_two_ints hh fun h' tk' k => ?_
  split
  · rename_i g; rw [if_pos g] at q; exact z _ _ h' tk' (S.keepAll O k) (.int _ _) q
  · rename_i g; rw [if_neg g] at q; exact z _ _ h' tk' (S.keepAll O k) (.int _ _) q
theorem op_pow {a n : Int} {Q : PV → Prop} (hn : 0 ≤ n) (hn2 : n ≤ 1000000) (ha : a.natAbs < 2 ^ 64) (q : Q (.int (a ^ n.toNat))) : Op2 G c st (binaryOp .Pow) (.int a) (.int n) Q := .ints q fun h tk t u Q' E' z => pow_int_small hn hn2 ha (z _ _ fun _ => .int _ _)
end
end
section
structure Less (st0 st : AS) : Prop where
  m : st0.m = st.m
  hc : st0.hc = st.hc
  ρ : ∀ x q, st0.ρ.lookup x = some q → st.ρ.lookup x = some q
theorem Less.refl (st : AS) : Less st st := ⟨rfl, rfl, fun _ _ e => e⟩
section
variable {G : Gx} {c : Cx} {st st0 : AS} {h h' : Heap} {N : AS → Prop} {R : PV → Prop} {X : List (Str × PV) → Prop}
theorem Less.hid (l : Less st0 st) {b : Addr} (q : Hid c st0 b) : Hid c st b := by
  rcases q with q | q | ⟨x, k, e, q⟩
  · exact .inl q
  · exact .inr (.inl (l.hc ▸ q))
  · exact .inr (.inr ⟨x, k, l.ρ _ _ e, q⟩)
theorem Less.own (l : Less st0 st) {b : Addr} (q : Own G c st0 b) : Own G c st b := by
  rcases q with q | q | q | q | ⟨x, k, e, q⟩
  · exact .inl q
  · exact .inr (.inl q)
  · exact .inr (.inr (.inl q))
  · exact .inr (.inr (.inr (.inl (l.hc ▸ q))))
  · exact .inr (.inr (.inr (.inr ⟨x, k, l.ρ _ _ e, q⟩)))
theorem St.lessen (l : Less st0 st) (S : St G c st h) : St G c st0 h := by
  have V : VLe (VW c st h) (VW c st0 h) := fun b o eb => by
    rw [view_some] at eb ⊢
    exact ⟨fun q => eb.1 (l.hid q), eb.2⟩
  obtain ⟨m0, ρ0, hc0⟩ := st0
  obtain ⟨m1, ρ1, hc1⟩ := st
  obtain ⟨l1, l2, l3⟩ := id l
  cases l1; cases l2
  refine { F := S.F, Nn := S.Nn, ρ := fun y q ey => ?_, mu := fun y kk ey => ?_, nd := fun x y k k' n e1 e2 => S.nd x y k k' n (l3 _ _ e1) (l3 _ _ e2), occ' := fun b q => S.occ' b (l.hid q), cocc := S.cocc, own := S.own, glb := S.glb }
  · rcases S.ρ y q (l3 _ _ ey) with ⟨kk, v, e1, r⟩ | ⟨kk, ca, v, e1, e2, r⟩
    · exact .inl ⟨kk, v, e1, r.mono V⟩
    · exact .inr ⟨kk, ca, v, e1, e2, r.mono V⟩
  · obtain ⟨k, e1, e2, e3, e4⟩ := S.mu y kk (l3 _ _ ey)
    exact ⟨k, e1, e2, e3.mono V fun b hb o eb => eb, e4⟩
theorem KLe.lessen {st' : AS} (l : Less st0 st) (k : KLe G c st0 h st' h') : KLe G c st h st' h' :=
  ⟨fun b o n e => k.keep b o (fun q => n (l.own q)) e, fun b q => (k.own b q).imp l.own id⟩
theorem Exn.lessen {st' : AS} {e : Addr} {fl : List (Str × PV)} {wr : List Addr} (l : Less st0 st) (x : Exn G c st0 h e fl h' wr st') : Exn G c st h e fl h' wr st' :=
  { mem := x.mem, S := x.S, W := x.W, wo := x.wo, nh := x.nh, kw := ⟨fun b o n1 n2 e => x.kw.keep b o (fun q => n1 (l.own q)) n2 e, fun b q => (x.kw.own b q).imp l.own id⟩, dat := x.dat }
theorem Exs.lessen {s : List Stmt} (l : Less st0 st) (e : Exs G c st0 s N R X) : Exs G c st s N R X := fun h tk S Q' E' zn zr zx =>
  e h tk (S.lessen l) Q' E' (fun st' h' tk' S' K' n => zn st' h' tk' S' (K'.lessen l) n) (fun v q st' h' tk' S' K' r n => zr v q st' h' tk' S' (K'.lessen l) r n) (fun e fl h' tk' wr st' x y => zx e fl h' tk' wr st' (x.lessen l) y)
theorem Asg.lessen {target : Expr} {q : PV} {K : AS → Prop} (l : Less st0 st) (e : Asg G c st0 target q K) : Asg G c st target q K := fun h tk v S r Q' E' z =>
  e h tk v (S.lessen l) (r.mono fun b o eb => by rw [view_some] at eb ⊢; exact ⟨fun q => eb.1 (l.hid q), eb.2⟩) Q' E' fun st' h' tk' S' K' k => z st' h' tk' S' (K'.lessen l) k
theorem Asg.mono {target : Expr} {q : PV} {K K' : AS → Prop} (e : Asg G c st target q K) (f : ∀ st, K st → K' st) : Asg G c st target q K' := fun h tk v S r Q' E' z => e h tk v S r Q' E' fun st' h' tk' S' k n => z st' h' tk' S' k (f _ n)
theorem ForR.inv {target : Expr} {body : List Stmt} {P : List PV → AS → Prop} (hi : ∀ q l st, P (q :: l) st → Asg G c st target q fun st1 => Exs G c st1 body (fun st2 => ∃ st3, Less st3 st2 ∧ P l st3) R X)
    (hN : ∀ st st', P [] st' → Less st' st → N st) : ∀ (l : List PV) (st : AS), (∃ st0, Less st0 st ∧ P l st0) → ForR G c target body N R X l st
  | [], st, ⟨st0, l0, p⟩ => hN st st0 p l0
  | q :: l, st, ⟨st0, l0, p⟩ => ((hi q l st0 p).lessen l0).mono fun st1 e => e.mono (fun st2 ⟨st3, l3, p3⟩ => ForR.inv hi hN l st2 ⟨st3, l3, p3⟩) (fun _ r => r) (fun _ x => x)
end
end
section
inductive Fa2 {α β : Type} (P : α → β → Prop) : List α → List β → Prop
  | nil : Fa2 P [] []
  | cons {a : α} {b : β} {l : List α} {k : List β} : P a b → Fa2 P l k → Fa2 P (a :: l) (b :: k)
theorem Fa2.length {α β : Type} {P : α → β → Prop} {l : List α} {k : List β} (h : Fa2 P l k) : l.length = k.length := by
  induction h with
  | nil => rfl
  | cons _ _ ih => exact congrArg (· + 1) ih
theorem Fa2.map {α β : Type} {P : β → α → Prop} {f : α → β} : ∀ {l : List α}, (∀ x ∈ l, P (f x) x) → Fa2 P (l.map f) l
  | [], _ => .nil
  | x :: l, h => .cons (h x (.head _)) (Fa2.map fun y hy => h y (.tail _ hy))
section
variable {G : Gx} {c : Cx} {st : AS}
theorem Tsts.mono {ts : List Expr} {Q Q' : Bool → Prop} (e : Tsts G c st ts Q) (f : ∀ b, Q b → Q' b) : Tsts G c st ts Q' := by
  cases ts with
  | nil => exact f _ e
  | cons t r => cases r with
    | nil => exact fun h tk S Q2 E2 z => e h tk S Q2 E2 fun b h' tk' s qb => z b h' tk' s (f _ qb)
    | cons t2 r => exact e
theorem CompR.zip2 {α : Type} {ρ : List (Str × LV)} {target elt : Expr} {tests : List Expr} {K : List PV → Prop} {P : PV → α → Prop} {g : α → PV}
    (hi : ∀ q x, P q x → ∀ m (T : PV → Prop), T (g x) → Asg G c ⟨m, ρ, []⟩ target q fun st1 => Tsts G c st1 tests fun b => if b = true then Ev G c st1 elt T else False) {l : List PV} {xs : List α} (r : Fa2 P l xs) : ∀ {qs : List PV}, K (qs ++ xs.map g) → CompR G c ρ target tests elt K l qs :=
  Fa2.rec (P := P) (motive := fun l xs _ => ∀ {qs : List PV}, K (qs ++ xs.map g) → CompR G c ρ target tests elt K l qs) (fun {qs} k => by rw [List.map_nil, List.append_nil] at k; exact k) (fun {q x l xs} p _ ih qs k m => by
    have e := hi _ _ p m (fun r => CompR G c ρ target tests elt K l (qs ++ [r])) (ih (by rw [List.map_cons] at k; rwa [List.append_assoc, List.singleton_append]))
    refine e.mono fun st1 e => Tsts.mono e fun b hb => ?_
    cases b with
    | true => exact hb
    | false => exact hb.elim) r
theorem CompR.zip {α : Type} {ρ : List (Str × LV)} {target elt : Expr} {tests : List Expr} {K : List PV → Prop} {P : PV → α → Prop} {g : α → PV}
    (hi : ∀ q x, P q x → ∀ m (T : PV → Prop), T (g x) → Asg G c ⟨m, ρ, []⟩ target q fun st1 => Tsts G c st1 tests fun b => if b = true then Ev G c st1 elt T else False) {l : List PV} {xs : List α} (h : Fa2 P l xs) (k : K (xs.map g)) : CompR G c ρ target tests elt K l [] :=
  CompR.zip2 hi h k
end
end
section
section
variable {G : Gx} {c : Cx} {st : AS}
theorem CompR.filt {α : Type} {ρ : List (Str × LV)} {target elt : Expr} {tests : List Expr} {K : List PV → Prop} {f g : α → PV} {p : α → Bool} : ∀ {xs : List α} {qs : List PV},
    (∀ x ∈ xs, ∀ m (T : PV → Prop) (Z : Prop), (p x = true → T (g x)) → (p x = false → Z) → Asg G c ⟨m, ρ, []⟩ target (f x) fun st1 => Tsts G c st1 tests fun b => if b = true then Ev G c st1 elt T else Z) →
    K (qs ++ (xs.filter p).map g) → CompR G c ρ target tests elt K (xs.map f) qs
  | [], qs, _, k => by rw [List.filter_nil, List.map_nil, List.append_nil] at k; exact k
  | x :: xs, qs, hi, k => fun m => by
    refine hi x (.head _) m (fun r => CompR G c ρ target tests elt K (xs.map f) (qs ++ [r])) (CompR G c ρ target tests elt K (xs.map f) qs) (fun e => ?_) (fun e => ?_)
    · refine CompR.filt (fun y hy => hi y (.tail _ hy)) ?_
      rw [List.filter_cons, if_pos e, List.map_cons] at k
      rwa [List.append_assoc, List.singleton_append]
    · refine CompR.filt (fun y hy => hi y (.tail _ hy)) ?_
      rw [List.filter_cons, if_neg (by rw [e]; simp)] at k
      exact k
theorem CompR.filt0 {α : Type} {ρ : List (Str × LV)} {target elt : Expr} {tests : List Expr} {K : List PV → Prop} {f g : α → PV} (p : α → Bool) {xs : List α}
    (hi : ∀ x ∈ xs, ∀ m (T : PV → Prop) (Z : Prop), (p x = true → T (g x)) → (p x = false → Z) → Asg G c ⟨m, ρ, []⟩ target (f x) fun st1 => Tsts G c st1 tests fun b => if b = true then Ev G c st1 elt T else Z)
    (k : K ((xs.filter p).map g)) : CompR G c ρ target tests elt K (xs.map f) [] := CompR.filt hi k
theorem Tr.mono {e : Expr} {Q Q' : Bool → Prop} (h : Tr G c st e Q) (f : ∀ b, Q b → Q' b) : Tr G c st e Q' := fun h₁ tk S Q2 E2 z => h h₁ tk S Q2 E2 fun b h' tk' s q => z b h' tk' s (f _ q)
theorem Tr.eq {e : Expr} {Q : Bool → Prop} (b : Bool) (h : Tr G c st e fun t => t = b) (q : Q b) : Tr G c st e Q := h.mono fun t e => e ▸ q
theorem Ev.eq {e : Expr} {Q : PV → Prop} (v : PV) (h : Ev G c st e fun t => t = v) (q : Q v) : Ev G c st e Q := h.mono fun t e => e ▸ q
theorem ite_tb {b p : Bool} {A B : Prop} (e : b = p) (h1 : p = true → A) (h2 : p = false → B) : if b = true then A else B := by
  subst e
  cases b with
  | true => rw [if_pos rfl]; exact h1 rfl
  | false => rw [if_neg (by simp)]; exact h2 rfl
theorem ds_map (l : List Str) : PV.ds (l.map PV.str) = l.map PyData.str := by
  induction l with
  | nil => rfl
  | cons x l ih => rw [List.map_cons, PV.ds1, ih, List.map_cons]; rfl
theorem any_strs (l : List Str) (x : Str) : ((PV.ds (l.map PV.str)).any fun y => y.eqv (PV.str x).d) = l.contains x := by
  rw [ds_map]
  induction l with
  | nil => rfl
  | cons y l ih =>
    rw [List.map_cons, List.any_cons, ih, List.contains_cons]
    have : PyData.eqv (.str y) (PV.str x).d = (y == x) := by simp [PV.dS, PyData.eqv]
    rw [this, str_beq_comm]
theorem PV.lays_strs : ∀ {l : List Str}, (∀ x ∈ l, (PV.str x).lay = true) → PV.lays (l.map PV.str) = true
  | [], _ => rfl
  | x :: l, h => by rw [List.map_cons, PV.lays1, h x (.head _), PV.lays_strs fun y hy => h y (.tail _ hy)]; rfl
theorem PV.deps_strs : ∀ (l : List Str), PV.deps (l.map PV.str) = 0
  | [] => rfl
  | x :: l => by rw [List.map_cons, PV.deps1, PV.deps_strs l]; rfl
theorem PV.ok_strs {l : List Str} (h : ∀ x ∈ l, (PV.str x).lay = true) : (PV.lst (l.map PV.str)).ok = true := PV.ok_of (by
  rw [PV.layL, PV.lays_strs h, PV.depL, PV.deps_strs]; rfl)
theorem PV.ok_tups {l : List Str} (h : ∀ x ∈ l, (PV.str x).lay = true) : (PV.tup (l.map PV.str)).ok = true := PV.ok_of (by
  rw [PV.layT, PV.lays_strs h, PV.depT, PV.deps_strs]; rfl)
theorem PV.ok_str {x : Str} (h : (PV.str x).lay = true) : (PV.str x).ok = true := PV.ok_of (by rw [h]; rfl)
theorem ne_nil_strs (l : List Str) : (!PyData.eqv (PV.lst (l.map PV.str)).d (PV.lst []).d) = !l.isEmpty := by
  cases l with
  | nil => rfl
  | cons x l => simp [PV.dL, PV.dT, PV.ds0, PV.ds1, PyData.eqv, PyData.eqvAll]
end
end
section
theorem bigH {G : Gx} {c : Cx} {st : AS} (hK : G.K = hp.heap_1 G.w.params) (O : Cx.Ok G c) : ∀ h, St G c st h → sysModules < h.objs.size := fun h S => by
  have : ∃ o, G.K.lookup 393 = some o := by rw [hK]; exact ⟨_, rfl⟩
  obtain ⟨o, e⟩ := this
  have := Heap.lt_size (S.F.keep _ _ (O.X 393 o e))
  exact Nat.lt_trans (by decide) this
end
section
noncomputable def notStar : Expr → Bool
  | .Starred .. => false
  | _ => true
theorem posName (x : Str) (p : Pos) : Expr.pos (.Name x p) = p := rfl
theorem swapped3 {x y z : Str} {xp yp zp tpos epos : Pos} {kk ek : Nat} {vs : List Expr} {env : Env} (hb : (env.blockKind != .function) = false) (hv : vs.length = 3) (hs : vs.all notStar = true)
    (hx : (env.kindOf x == some .local) = true) (hy : (env.kindOf y == some .local) = true) (hz : (env.kindOf z == some .local) = true) (ly : (yp.line == xp.line) = true) (lz : (zp.line == xp.line) = true) (hne : [x, y, z].eraseDups.length = 3)
    (hf : vs.all (foldedForSure 8) = false) (hc : vs.all (constantsAlone 8) = false) : swappedStores [.Tuple [.Name x xp, .Name y yp, .Name z zp] kk tpos] (.Tuple vs ek epos) env = pure (some [x, y, z]) := by
  unfold swappedStores
  simp only [List.length_cons, List.length_nil, hv, hb, hf, hc, List.filterMap_cons, List.filterMap_nil, hx, hy, hz, ly, lz, List.head?_cons, Option.map_some, Option.getD_some, posName, beq_self_eq_true, Bool.and_self, if_true, hne]
  rw [if_neg (by decide), if_neg, if_neg (by decide), if_neg (by simp), if_neg (by simp)]
  intro h
  obtain ⟨v, hv, e⟩ := List.any_eq_true.mp h
  have := List.all_eq_true.mp hs v hv
  cases v with
  | Starred _ _ => cases this
  | _ => cases e
theorem swapped2 {x y : Str} {xp yp tpos epos : Pos} {kk ek : Nat} {vs : List Expr} {env : Env} (hb : (env.blockKind != .function) = false) (hv : vs.length = 2) (hs : vs.all notStar = true)
    (hx : (env.kindOf x == some .local) = true) (hy : (env.kindOf y == some .local) = true) (ly : (yp.line == xp.line) = true) (hne : [x, y].eraseDups.length = 2)
    (hf : vs.all (foldedForSure 8) = false) (hc : vs.all (constantsAlone 8) = false) : swappedStores [.Tuple [.Name x xp, .Name y yp] kk tpos] (.Tuple vs ek epos) env = pure (some [x, y]) := by
  unfold swappedStores
  simp only [List.length_cons, List.length_nil, hv, hb, hf, hc, List.filterMap_cons, List.filterMap_nil, hx, hy, ly, List.head?_cons, Option.map_some, Option.getD_some, posName, beq_self_eq_true, Bool.and_self, if_true, hne]
  rw [if_neg (by decide), if_neg, if_neg (by decide), if_neg (by simp), if_neg (by simp)]
  intro h
  obtain ⟨v, hv, e⟩ := List.any_eq_true.mp h
  have := List.all_eq_true.mp hs v hv
  cases v with
  | Starred _ _ => cases this
  | _ => cases e
section
variable {G : Gx} {c : Cx} {st : AS}
theorem BindsR.two {x y : Str} {p q : PV} {K : AS → Prop} (hy : Stores c st y) (hx : ∀ m', Stores c (st.set y q m') x) (k : ∀ m1 m2, K ((st.set y q m1).set x p m2)) : BindsR G c [x, y].reverse [p, q].reverse st K :=
  ⟨hy, fun m1 => ⟨hx m1, fun m2 => k m1 m2⟩⟩
theorem BindsR.three {x y z : Str} {p q r : PV} {K : AS → Prop} (hz : Stores c st z) (hy : ∀ m1, Stores c (st.set z r m1) y) (hx : ∀ m1 m2, Stores c ((st.set z r m1).set y q m2) x) (k : ∀ m1 m2 m3, K (((st.set z r m1).set y q m2).set x p m3)) : BindsR G c [x, y, z].reverse [p, q, r].reverse st K :=
  ⟨hz, fun m1 => ⟨hy m1, fun m2 => ⟨hx m1 m2, fun m3 => k m1 m2 m3⟩⟩⟩
theorem Ex.assignT2 (O : Cx.Ok G c) {x y : Str} {xp yp : Pos} {kk ek : Nat} {tpos epos : Pos} {vs : List Expr} {pos : Pos} {N : AS → Prop} {R : PV → Prop} {X : List (Str × PV) → Prop}
    (hy : Stores c st y) (hx : ∀ q m', Stores c (st.set y q m') x)
    (h : Ev G c st (.Tuple vs ek epos) fun v => ∃ p q, v = .tup [p, q] ∧ ∀ m1 m2, N ((st.set y q m1).set x p m2)) (hs : autoParam (swapsWithSole [.Tuple [.Name x xp, .Name y yp] kk tpos] (.Tuple vs ek epos) pos.line c.env = pure false) aRfl)
    (w1 : autoParam ((c.env.blockKind != .function) = false) aRfl) (w2 : autoParam (vs.length = 2) aRfl) (w3 : autoParam (vs.all notStar = true) aRfl) (w4 : autoParam ((c.env.kindOf x == some .local) = true) aRfl) (w5 : autoParam ((c.env.kindOf y == some .local) = true) aRfl) (w6 : autoParam ((yp.line == xp.line) = true) aRfl)
    (w7 : autoParam ([x, y].eraseDups.length = 2) aDecK) (w8 : autoParam (vs.all (foldedForSure 8) = false) aRfl) (w9 : autoParam (vs.all (constantsAlone 8) = false) aRfl) (hh : autoParam (c.hdl = none) aRfl) : Ex G c st (.Assign [.Tuple [.Name x xp, .Name y yp] kk tpos] (.Tuple vs ek epos) pos) N R X :=
  Ex.assignT O (names := [x, y]) (h.mono fun v ⟨p, q, e, k⟩ => ⟨[p, q], e, rfl, BindsR.two hy (hx q) k⟩) hs (swapped2 w1 w2 w3 w4 w5 w6 w7 w8 w9) hh
theorem Ex.assignT3 (O : Cx.Ok G c) {x y z : Str} {xp yp zp : Pos} {kk ek : Nat} {tpos epos : Pos} {vs : List Expr} {pos : Pos} {N : AS → Prop} {R : PV → Prop} {X : List (Str × PV) → Prop}
    (hz : Stores c st z) (hy : ∀ r m', Stores c (st.set z r m') y) (hx : ∀ r m1 q m2, Stores c ((st.set z r m1).set y q m2) x)
    (h : Ev G c st (.Tuple vs ek epos) fun v => ∃ p q r, v = .tup [p, q, r] ∧ ∀ m1 m2 m3, N (((st.set z r m1).set y q m2).set x p m3)) (hs : autoParam (swapsWithSole [.Tuple [.Name x xp, .Name y yp, .Name z zp] kk tpos] (.Tuple vs ek epos) pos.line c.env = pure false) aRfl)
    (w1 : autoParam ((c.env.blockKind != .function) = false) aRfl) (w2 : autoParam (vs.length = 3) aRfl) (w3 : autoParam (vs.all notStar = true) aRfl) (w4 : autoParam ((c.env.kindOf x == some .local) = true) aRfl) (w5 : autoParam ((c.env.kindOf y == some .local) = true) aRfl) (w5' : (c.env.kindOf z == some .local) = true := by rfl) (w6 : autoParam ((yp.line == xp.line) = true) aRfl)
    (w6' : (zp.line == xp.line) = true := by rfl) (w7 : autoParam ([x, y, z].eraseDups.length = 3) aDecK) (w8 : autoParam (vs.all (foldedForSure 8) = false) aRfl) (w9 : autoParam (vs.all (constantsAlone 8) = false) aRfl) (hh : autoParam (c.hdl = none) aRfl) : Ex G c st (.Assign [.Tuple [.Name x xp, .Name y yp, .Name z zp] kk tpos] (.Tuple vs ek epos) pos) N R X :=
  Ex.assignT O (names := [x, y, z]) (h.mono fun v ⟨p, q, r, e, k⟩ => ⟨[p, q, r], e, rfl, BindsR.three hz (hy r) (hx r · q ·) k⟩) hs (swapped3 w1 w2 w3 w4 w5 w5' w6 w6' w7 w8 w9) hh
end
end
section
section
variable {G : Gx} {c : Cx} {st : AS}
theorem Ev.byte (hK : G.K = hp.heap_1 G.w.params) (O : Cx.Ok G c) {pos : Pos} {Q : PV → Prop} (hx : c.env.kindOf (Str.ofString "_law_byte") = some .globalImplicit) (hq : Q tByte) : Ev G c st (.Name (Str.ofString "_law_byte") pos) Q := by
  have e : ∃ t1 t2 n, G.K.lookup 328 = some (tupOf [Value.str (Str.ofString "int") t1, .str (Str.ofString "u8") t2].toArray n) := by rw [hK]; exact ⟨_, _, _, rfl⟩
  obtain ⟨t1, t2, n, ho⟩ := e
  exact Ev.glob O hx (nsIn_of hK (by rfl)) (fun h S => .tup (view_some.mpr ⟨kHid O S ho, S.F.keep _ _ (O.X _ _ ho)⟩) (.cons (.str _ _) (.cons (.str _ _) .nil))) hq
end
end
end
section
open PySem
open Sem (wp)
open AutoSeq1 (wpAny_loadPart')
theorem meets_enumerate_newT (l : Addr) (items : Array Value) (n : Nat) (dct : Option Addr) (sl : Array (Option Value)) :
    Meets (Builtin.«enumerate.__new__» ⟨[.type "enumerate", .ref l], []⟩) (fun _ R s => s.heap.get? l = some { cls := .type "tuple", data := .seq items n, dict := dct, slots := sl } ∧
      R (.ok (.ret (.ref (s.heap.push { cls := .type "tuple_iterator", data := .fields #[.ref l, .int 0 0] }).objs.size)))
        { s with heap := (s.heap.push { cls := .type "tuple_iterator", data := .fields #[.ref l, .int 0 0] }).push { cls := .type "enumerate", data := .fields #[.none, .bool false, .ref s.heap.objs.size, rawInt 0, .none, .none] } }) :=
  .of_wp fun prog w A R s h => by
    obtain ⟨hp, g, d, tk, os⟩ := s; obtain ⟨hl, h⟩ := h
    have hsub := sub_enumerate
    have hL : Heap.IsTuple (Shared.heap ⟨hp, g, d, tk, os⟩) l items := ⟨_, hl, rfl, n, rfl⟩
    wp_walk using wpAny_loadPart' hl
    refine wpAny_stack_any fun st => wpAny_pure ?_
    split
    · rename_i c _ _ _ _ _
      cases (c == Value.type "enumerate")
      · wp_walk using wpAny_loadPart' hl, wpAny_pyIter_tuple hL
        exact ⟨_, rfl, h⟩
      · wp_walk using wpAny_loadPart' hl, wpAny_pyIter_tuple hL
        exact ⟨_, rfl, h⟩
    · wp_walk using wpAny_loadPart' hl, wpAny_pyIter_tuple hL
      exact ⟨_, rfl, h⟩
section
variable {prog : Program} {w : World} {A : Around} {E : Value → Shared → Prop} {s : Shared}
theorem call_enumerate_tuple {l : Addr} {items : Array Value} {Q : Value → Shared → Prop} (hL : s.heap.IsTuple l items)
    (h : ∀ h', IsEnum h' (s.heap.objs.size + 1) s.heap.objs.size 0 .none → SqIt h' true s.heap.objs.size l 0 → h'.objs.size = s.heap.objs.size + 2 →
      (∀ b o, s.heap.get? b = some o → h'.get? b = some o) → Q (.ref (s.heap.objs.size + 1)) { s with heap := h' }) :
    wpAny (model prog w) A (call (.type "enumerate") [.ref l]) Q E s := by
  obtain ⟨⟨c, dct, dt, sl⟩, hl, hc, n, hd⟩ := hL
  replace hc : c = .type "tuple" := hc
  replace hd : dt = .seq items n := hd
  subst hc hd
  refine callType_new F.called_enumerate (by decide) (F.typeCall_enumerate_1 _) (F.newCall_enumerate_1 _) (fun obj => F.args_object_init_2 obj _) F.entry_enumerate_new
    (meets_enumerate_newT l items n dct sl) ⟨hl, ?_⟩
  have hz : (s.heap.push { cls := .type "tuple_iterator", data := .fields #[.ref l, .int 0 0] }).objs.size = s.heap.objs.size + 1 := Heap.size_push ..
  show _ ∧ _
  rw [hz]
  have he : IsEnum ((s.heap.push { cls := .type "tuple_iterator", data := .fields #[.ref l, .int 0 0] }).push
      { cls := .type "enumerate", data := .fields #[.none, .bool false, .ref s.heap.objs.size, rawInt 0, .none, .none] }) (s.heap.objs.size + 1) s.heap.objs.size 0 .none := by
    have := Heap.get?_push_size (s.heap.push { cls := .type "tuple_iterator", data := .fields #[.ref l, .int 0 0] })
      (o := { cls := .type "enumerate", data := .fields #[.none, .bool false, .ref s.heap.objs.size, rawInt 0, .none, .none] }) rfl
    rw [hz] at this; exact this
  refine ⟨⟨_, he, rfl⟩, h _ he ⟨_, Heap.get?_push_of_some _ (Heap.get?_push_size _ rfl), rfl, rfl⟩ (by rw [Heap.size_push, hz]) fun b o x => Heap.get?_push_of_some _ (Heap.get?_push_of_some _ x)⟩
end
theorem Draws.none {prog : Program} {w : World} {A : Around} (hh : A.handled = none) (it l : Addr) (hne : l ≠ it) :
    PySem.Draws prog w A it [it, l] 0 (fun i v => False) (fun i h => SqIt h true it l 0 ∧ SqOf h true l #[]) where
  live := fun _ _ st => let ⟨o, ho, _⟩ := st.1; ⟨o, ho⟩
  frame := fun _ _ _ st hk => ⟨st.1.at fun o e => hk it (by simp) o e, st.2.at fun o e => hk l (by simp) o e⟩
  item := fun i s Q E hi st hQ => absurd hi (Nat.not_lt_zero _)
  done := fun s Q E st hE => sq_nextOf_end hh st.1 st.2 (by simp) hE
section
open PySem.W PySem.Calls PyProof.Rows
variable {G : Gx} {c : Cx} {st : AS} {h h' : Heap}
theorem It.enum0 (O : Cx.Ok G c) {elts : List Expr} {kk : Nat} {tpos : Pos} {x : Str} {xp pos : Pos} {e : Expr} {Q : List PV → Prop} (hx : Ev G c st (.Name x xp) fun f => f = .ty "enumerate") (hE : Evs G c st [e] fun qs => qs = [.tup []] ∧ Q [])
    (hp : autoParam ((backTo pos (starEach [e] c.env)).any (·.1) = false) aRfl) (hh : autoParam (c.hdl = none) aRfl) : It G c st (.Tuple elts kk tpos) (.Call (.Name x xp) [e] [] pos) Q := fun h₁ tk S Q' E' z => by
  rw [eval_CallN]
  refine wpAny_bind (hx h₁ tk S _ _ fun vf f h2 tk2 s2 r2 q2 => ?_)
  subst q2
  have : vf = .type "enumerate" := r2.inv
  subst this
  refine callWith_all hp (hE pos h2 tk2 (S.step O s2) _ _ fun vs qs h3 tk3 s3 r3 q3 => ⟨⟨.machine, .inr (.inl rfl), Looks.of_pure rfl⟩, ?_⟩)
  obtain ⟨rfl, hq⟩ := q3
  refine r3.of1 fun v rl => rl.ofTup fun a vs n el rr => ?_
  · · revert el
      refine rr.ofNil fun el => ?_
      have S3 := (S.step O s2).step O s3
      have hL : Heap.IsTuple h3 a #[] := ⟨_, VW.get el, rfl, _, rfl⟩
      refine call_enumerate_tuple hL fun h4 he hi hz k4 => ?_
      have s4 := S3.keepAll O k4
      have alt := Heap.lt_size (VW.get el)
      have hae : a ≠ h3.objs.size + 1 := Nat.ne_of_lt (Nat.lt_succ_of_lt alt)
      have hai : a ≠ h3.objs.size := Nat.ne_of_lt alt
      have hei : h3.objs.size + 1 ≠ h3.objs.size := Nat.succ_ne_self _
      have W := WalksT.enumerateD (Draws.none (prog := G.prog) (w := G.w) (A := c.A.in1) hh h3.objs.size a hai) (h3.objs.size + 1) hei (by simp; exact fun q => hae q.symm) (.head _)
      have n3 : ∀ b ∈ [h3.objs.size + 1, h3.objs.size], h3.get? b = none := fun b hb => Heap.get?_none_of_le (by simp at hb; rcases hb with rfl | rfl; exact Nat.le_succ _; exact Nat.le_refl _)
      have fr : ∀ b ∈ [h3.objs.size + 1, h3.objs.size], h₁.get? b = none := fun b hb => (s2.trans s3).fresh (n3 b hb)
      have hL4 : SqOf h4 true a #[] := ⟨_, k4 _ _ (VW.get el), rfl, _, rfl⟩
      have V0a : view (fun b => Hid c st b ∨ b ∈ [h3.objs.size + 1, h3.objs.size]) h4 a = some (tupOf #[] n) := view_some.mpr ⟨fun q => q.elim (VW.old el) fun q => (by simp at q; rcases q with q | q; exact hae q; exact hai q), k4 _ _ (VW.get el)⟩
      have st0 : (∃ old, IsEnum h4 (h3.objs.size + 1) h3.objs.size 0 old) ∧ SqIt h4 true h3.objs.size a 0 ∧ SqOf h4 true a #[] := ⟨⟨_, he⟩, hi, hL4⟩
      have wo : WO [h3.objs.size + 1, h3.objs.size] h4 := fun b hb => by
        obtain ⟨o2, e2, e3, _⟩ := hi
        simp at hb
        rcases hb with rfl | rfl
        · exact ⟨_, he, by simp⟩
        · exact ⟨o2, e2, by rw [e3]; simp [sqI]⟩
      refine W.self 0 _ _ _ st0 ?_
      refine z (h3.objs.size + 1) [h3.objs.size + 1, h3.objs.size] [] (fun (i : Nat) h => (∃ old, IsEnum h (h3.objs.size + 1) h3.objs.size i old) ∧ SqIt h true h3.objs.size a 0 ∧ SqOf h true a #[])
        (fun i v h => False) h4 tk3 ((s2.trans s3).trans s4) fr wo ?_ st0 hq
      refine ⟨fun i g g' s k => ?_, fun i g tkg q hq => by simp at hq, fun i v g tkg md => md.elim, fun _ g tkg s Q E k => W.done _ _ _ s fun g' tk' kk => k g' tk' kk, fun i g tkg s Q E k => W.self i _ _ _ s k⟩
      exact W.frame i g g' s fun b hb o e => k b o (by
          simp at hb
          rcases hb with rfl | rfl | rfl
          · exact .inl (.head _)
          · exact .inl (.tail _ (.head _))
          · exact .inr ⟨_, V0a⟩) e
end
end
section
open PySem PySem.W PySem.Calls PyProof.Rows
section
noncomputable def lamP : Arguments := { posonlyargs := [], args := [{ arg := Str.ofString "region", annotation := none, pos := ⟨163, 44, 163, 50⟩ }], vararg := none, kwonlyargs := [], kw_defaults := [], kwarg := none, defaults := [] }
noncomputable def lamB : Expr := .IfExp (.Compare (.Name (Str.ofString "region") ⟨163, 71, 163, 77⟩) [.In] [.Attribute (.Name (Str.ofString "wanted") ⟨163, 81, 163, 87⟩) (Str.ofString "regions") ⟨163, 81, 163, 95⟩] ⟨163, 71, 163, 95⟩)
  (.Tuple [.Constant (.str (Str.ofString "own")) 0 ⟨163, 53, 163, 58⟩, .Name (Str.ofString "region") ⟨163, 60, 163, 66⟩] 0 ⟨163, 52, 163, 67⟩) (.Name (Str.ofString "region") ⟨163, 101, 163, 107⟩) ⟨163, 52, 163, 107⟩
noncomputable def lamS : Scope := { kind := .function, names := [(Str.ofString "region", .local), (Str.ofString "wanted", .free)], isGenerator := false, isCoroutine := false, more := [] }
noncomputable def lamK : CloK := ⟨Str.ofString "<lambda>", Str.ofString "is_like.<locals>.<lambda>", lamP, .expr lamB, lamS, Str.ofString "wanted", ⟨163, 37, 163, 107⟩, 180⟩
noncomputable def putP : Arguments := { posonlyargs := [], args := [{ arg := Str.ofString "region", annotation := none, pos := ⟨112, 15, 112, 21⟩ }], vararg := none, kwonlyargs := [], kw_defaults := [], kwarg := none, defaults := [] }
noncomputable def putB : List Stmt := [.Return (some (.Call (.Attribute (.Name (Str.ofString "regions") ⟨113, 15, 113, 22⟩) (Str.ofString "get") ⟨113, 15, 113, 26⟩) [.Name (Str.ofString "region") ⟨113, 27, 113, 33⟩, .Name (Str.ofString "region") ⟨113, 35, 113, 41⟩] [] ⟨113, 15, 113, 42⟩)) ⟨113, 8, 113, 42⟩]
noncomputable def putS : Scope := { kind := .function, names := [(Str.ofString "region", .local), (Str.ofString "regions", .free)], isGenerator := false, isCoroutine := false, more := [] }
noncomputable def putK : CloK := ⟨Str.ofString "put_in", Str.ofString "fields_of.<locals>.put_in", putP, .stmts putB, putS, Str.ofString "regions", ⟨112, 4, 113, 42⟩, 125⟩
end
section
section
variable {G : Gx} {c : Cx} {st : AS}
theorem Ex.assignP (O : Cx.Ok G c) {elts : List Expr} {kk : Nat} {tpos : Pos} {value : Expr} {pos : Pos} {N : AS → Prop} {R : PV → Prop} {X : List (Str × PV) → Prop}
    (h : Ev G c st value fun v => Asg G c st (.Tuple elts kk tpos) v N) (hs : autoParam (swapsWithSole [.Tuple elts kk tpos] value pos.line c.env = pure false) aRfl) (hw : autoParam (swappedStores [.Tuple elts kk tpos] value c.env = pure none) aRfl)
    (he : autoParam ((assignEach [.Tuple elts kk tpos] c.env).map (·.2) = [PySem.assign (.Tuple elts kk tpos) c.env]) aRfl) : Ex G c st (.Assign [.Tuple elts kk tpos] value pos) N R X := fun h₁ tk S Q' E' zn zr zx => by
  refine wpAny_Assign_stores (h h₁ tk S _ _ fun v q h2 tk2 s2 r2 q2 => ?_) hs hw
  rw [he]
  have S2 := S.step O s2
  exact q2 h2 tk2 v S2 r2 _ _ fun st' h3 tk3 S3 k3 n3 => zn st' h3 tk3 S3 (s2.kle.trans k3) n3
end
end
section
noncomputable def CallS (G : Gx) (c : Cx) (st : AS) (qs : List PV) (Q : Int → Int → Prop) : Prop := ∀ h tk vs, St G c st h → VRs G (VW c st h) vs qs → ∀ (Q' : Value → Shared → Prop) (E' : Value → Shared → Prop),
  (∀ Sa a b ta tb h' tk', Step G c st h h' → h.get? Sa = none → h'.IsList Sa #[.int a ta, .int b tb] → Q a b → Q' (.ref Sa) (G.sh h' tk')) → wpAny (model G.prog G.w) c.A (callL vs) Q' E' (G.sh h tk)
noncomputable def FnS (G : Gx) (f : PV) (args : List PV) (n : Nat) (Q : Int → Int → Prop) : Prop := ∀ c st, Cx.Ok G c → c.room n → CallS G c st (f :: args) Q
noncomputable def ExsS (G : Gx) (c : Cx) (st : AS) (s : List Stmt) (Q : Int → Int → Prop) : Prop := ∀ h tk, St G c st h → ∀ (Q' : Flow → Shared → Prop) (E' : Value → Shared → Prop),
  (∀ Sa a b ta tb st' h' tk', St G c st' h' → c.h₀.get? Sa = none → Sa ∉ c.M G → h'.IsList Sa #[.int a ta, .int b tb] → Q a b → Q' (.ret (.ref Sa)) (G.sh h' tk')) → wpAny (model G.prog G.w) c.A (execs s c.env) Q' E' (G.sh h tk)
theorem ExsS.cons {G : Gx} {c : Cx} {st : AS} {s : Stmt} {rest : List Stmt} {Q : Int → Int → Prop} (h : Ex G c st s (fun st1 => ExsS G c st1 rest Q) (fun _ => False) fun _ => False) : ExsS G c st (s :: rest) Q := fun h₁ tk S Q' E' z =>
  wpAny_execs_cons (h h₁ tk S _ _ (fun st' h2 tk2 S2 v2 q2 => q2 h2 tk2 S2 _ _ z) (fun v q st3 h3 tk3 S3 v3 r3 q3 => q3.elim) fun e l h3 tk3 wr st3 x q => q.elim)
theorem ExsS.ret {G : Gx} {c : Cx} {st : AS} {e : Expr} {pos : Pos} {rest : List Stmt} {Q : Int → Int → Prop} (h : EvK G c st e fun k => ∃ S a b, k = .lst S [.int a, .int b] ∧ Q a b) : ExsS G c st (.Return (some e) pos :: rest) Q := fun h₁ tk S Q' E' z =>
  wpAny_execs_cons (wpAny_Return_some (h h₁ tk S _ _ fun k h2 tk2 S2 W2 f2 n2 a2 k2 p2 => by
    obtain ⟨Sa, a, b, rfl, q⟩ := p2
    obtain ⟨vs, n, e1, r1⟩ := a2
    revert e1
    refine r1.of2 fun v w r1 r2 => r1.ofInt fun t => r2.ofInt fun u e1 => ?_
    · · exact z Sa a b _ _ st h2 tk2 S2.unhide (W2.h0 _ (.head _)) (W2.M _ (.head _)) ⟨_, e1, rfl, n, rfl⟩ q))
theorem FnS.intro {G : Gx} {f : Addr} {fd : FuncData} {body : List Stmt} {names : List Str} {args : List PV} {n : Nat} {Q : Int → Int → Prop} {oc : Value} {od : Option Addr} {osl : Array (Option Value)}
    (ho : G.K.lookup f = some ⟨oc, od, .func fd, osl⟩) (hbody : fd.body = .stmts body) (hcd : codeIn G.K fd.code fd.qualname = true)
    (hbind : ∀ c st h tk vals, Cx.Ok G c → St G c st h → VRs G (VW c st h) vals args → BindsTo (G.sh h tk) fd ⟨vals, []⟩ (names.zip vals)) (hnd : names.Nodup)
    (hkind : (names.all fun y => fd.scope.names.lookup y == some .local || fd.scope.names.lookup y == some .cell) = true)
    (h : ∀ h₀ outer fr L dp un gd hid m, Cx.Ok G (fcx fd f h₀ outer fr L dp un gd hid) → (fcx fd f h₀ outer fr L dp un gd hid).room n →
      ExsS G (fcx fd f h₀ outer fr L dp un gd hid) ⟨m, names.zip (args.map LV.v), (cellsFrom (L + 1) fd.scope.names []).map (·.2)⟩ body Q)
    (hcn : ((cellsFrom 0 fd.scope.names []).map (·.1)).Nodup) (hclo : autoParam (fd.closure = []) aRfl) (hgl : autoParam (fd.globals = mainGlobals) aRfl) (hbl : autoParam (fd.builtins = builtinsNs) aRfl)
    (hco : autoParam (fd.scope.isCoroutine = false) aRfl) (hgen : autoParam (fd.scope.isGenerator = false) aRfl) (hk : autoParam (fd.scope.kind = .function) aRfl) : FnS G (.adr f) args (n + 1) Q := by
  intro c st O hr hh tk vs S rs Q' E' z
  refine rs.ofCons fun vf vals rf rs => rf.ofAdr ?_
  show wpAny _ _ (call (.ref f) vals []) _ _ _
  refine call_core ho hbody hcd hbind hnd hkind hcn hclo hgl hbl hco hgen hk O hr S rs fun m h₁ tk₁ O' R' hL S' Qg Eg kr kn ke => ?_
  refine h _ _ _ _ _ _ _ _ m O' R' h₁ tk₁ S' _ _ fun Sa a b ta tb st'' h'' tk'' S'' e0 eM hl q'' => ?_
  refine kr _ _ (z Sa a b ta tb h'' tk'' (Step.back O S S''.F S''.glb) ?_ hl q'')
  cases w : hh.get? Sa with
  | none => rfl
  | some o =>
    exfalso
    have e1 : (hideAll hh (c.L :: c.M G)).get? Sa = some o := hideAll_get _ w eM
    rw [show (hideAll hh (c.L :: c.M G)).get? Sa = none from e0] at e1
    cases e1
end
section
noncomputable abbrev withS (G : Gx) (Sa : Addr) : Gx := { G with S := some Sa, M := Sa :: G.M }
theorem toS_ok {G : Gx} {c : Cx} {st : AS} {h : Heap} {Sa : Addr} {x : Str} {m' : Str → Option Value} (O : Cx.Ok G c) (S : St G c ⟨m', (x, .v (.adr Sa)) :: st.ρ, []⟩ h) (hm : c.mf = none) (hcel : c.env.cells = []) (hx : c.env.kindOf x = some .local)
    {a b : Int} {ta tb : Tok} (hl : h.IsList Sa #[.int a ta, .int b tb]) (ok : SrcOk a b) (e0 : c.h₀.get? Sa = none) (eM : Sa ∉ c.M G) : Cx.Ok (withS G Sa) (withHid c [Sa]) ∧ St (withS G Sa) (withHid c [Sa]) ⟨m', [(x, .v .src)], []⟩ h := by
  obtain ⟨oS, eS, cS, nS, dS⟩ := hl
  have hL : c.L ≠ Sa := fun q => by
    obtain ⟨o, es, n, e, d, _⟩ := S.F.ns
    rw [q, eS] at e; cases e; rw [dS] at d; cases d
  have inM : ∀ {d : Addr}, d ∈ (withHid c [Sa]).M (withS G Sa) ↔ d ∈ c.M G ∨ d = Sa := fun {d} => by
    show d ∈ c.fr.map (·.1) ++ (Sa :: G.M) ↔ d ∈ c.fr.map (·.1) ++ G.M ∨ _
    simp only [List.mem_append, List.mem_cons]
    constructor
    · rintro (q | q | q)
      · exact .inl (.inl q)
      · exact .inr q
      · exact .inl (.inr q)
    · rintro ((q | q) | q)
      · exact .inl q
      · exact .inr (.inr q)
      · exact .inr (.inl q)
  refine ⟨?_, ?_⟩
  · exact { fro := O.fro, frk := O.frk, X := O.X, T := O.T, kf := O.kf, ff := O.ff, ke := O.ke, ge := O.ge, be := O.be, fe := O.fe
            hM := fun d hd => (inM.mp hd).elim (O.hM d) fun q => q ▸ e0
            hLM := fun q => (inM.mp q).elim O.hLM hL
            hS := fun S' e => by cases e; exact .head _
            tM := ⟨.tail _ O.tM.1, .tail _ O.tM.2⟩
            hMh := fun d hd => (inM.mp hd).elim (fun q => .inl (O.hMh d q)) fun q => .inr (q ▸ .head _)
            hLh := .inl O.hLh
            kH := fun a o e q => q.elim (O.kH a o e) fun q => by
              have := O.X a o e
              rw [List.mem_singleton.mp q, e0] at this; cases this
            loc := O.loc, locC := fun m e => by rw [show c.mf = some m from e] at hm; cases hm
            cel := fun y ca e => by rw [show (withHid c [Sa]).env.cells = [] from hcel] at e; cases e
            apart := O.apart }
  · refine { F := S.F, Nn := S.Nn, ρ := fun y q e => ?_, mu := fun y k e => ?_, nd := fun y _ k _ _ e => ?_, occ' := fun d q => ?_, cocc := S.cocc, own := fun d hd => (nomatch hd), glb := ?_ }
    · by_cases hy : (y == x) = true
      · have := beq_iff_eq.mp hy; subst this
        rw [List.lookup_cons, hy] at e
        cases e
        rcases S.ρ y (.adr Sa) (by rw [List.lookup_cons, hy]) with ⟨k, v, e1, r⟩ | ⟨k, _⟩
        · cases r.inv
          exact .inl ⟨hx, _, e1, .src rfl⟩
        · rw [hx] at k; rcases k with k | k <;> cases k
      · rw [List.lookup_cons, Bool.eq_false_iff.mpr hy] at e; cases e
    · by_cases hy : (y == x) = true
      · rw [List.lookup_cons, hy] at e; cases e
      · rw [List.lookup_cons, Bool.eq_false_iff.mpr hy] at e; cases e
    · by_cases hy : (y == x) = true
      · rw [List.lookup_cons, hy] at e; cases e
      · rw [List.lookup_cons, Bool.eq_false_iff.mpr hy] at e; cases e
    · rcases q with (q | q) | q | ⟨y, k, e, _⟩
      · exact S.occ' d (.inl q)
      · rw [List.mem_singleton.mp q]; exact ⟨oS, eS, .seq dS⟩
      · cases q
      · by_cases hy : (y == x) = true
        · rw [List.lookup_cons, hy] at e; cases e
        · rw [List.lookup_cons, Bool.eq_false_iff.mpr hy] at e; cases e
    · have tab : ∀ k : CloK, TabSt G.M h k → TabSt (Sa :: G.M) h k := fun k t => by
        rcases t with t | ⟨c', oc, vs, t, e1, e2, e3, e4, e5, e6⟩
        · exact .inl t
        · refine .inr ⟨c', oc, vs, t, e1, e2, e3, e4, fun q => ?_, e6⟩
          rcases List.mem_cons.mp q with q | q
          · rw [q, eS] at e2; cases e2; rw [dS] at e3; cases e3
          · exact e5 q
      exact { has := fun d hd => by
                rcases List.mem_cons.mp hd with q | q
                · rw [q]; exact ⟨oS, eS, .seq dS⟩
                · exact S.glb.has d q
              frs := S.glb.frs
              src := fun S' e => by cases e; exact ⟨a, b, ta, tb, ⟨oS, eS, cS, nS, dS⟩, ok⟩
              tput := tab _ S.glb.tput, tlam := tab _ S.glb.tlam }
noncomputable def Run (G : Gx) (c : Cx) (st : AS) (s : List Stmt) (G2 : Gx → Prop) (R : PV → Prop) : Prop := ∀ h tk, St G c st h → ∀ (Q' : Flow → Shared → Prop) (E' : Value → Shared → Prop),
  (∀ G' c' st' v q h' tk', G2 G' → G'.kput = G.kput → G'.klam = G.klam → c'.h₀ = c.h₀ → St G' c' st' h' → VR G' (VW c' st' h') v q → R q → Q' (.ret v) (G.sh h' tk')) → wpAny (model G.prog G.w) c.A (execs s c.env) Q' E' (G.sh h tk)
theorem Run.cons {G : Gx} {c : Cx} {st : AS} {s : Stmt} {rest : List Stmt} {G2 : Gx → Prop} {R : PV → Prop} (h : Ex G c st s (fun st1 => Run G c st1 rest G2 R) (fun _ => False) fun _ => False) : Run G c st (s :: rest) G2 R := fun h₁ tk S Q' E' z =>
  wpAny_execs_cons (h h₁ tk S _ _ (fun st' h2 tk2 S2 v2 q2 => q2 h2 tk2 S2 _ _ z) (fun v q st3 h3 tk3 S3 v3 r3 q3 => q3.elim) fun e l h3 tk3 wr st3 x q => q.elim)
theorem Run.src {G : Gx} {c : Cx} {st : AS} {rest : List Stmt} {R : PV → Prop} (O : Cx.Ok G c) (hm : c.mf = none) (hcel : c.env.cells = []) (hhc : st.hc = []) {x y : Str} {xp yp cpos pos : Pos} {as : List Expr} {n : Nat} (hr : c.room n) (hx : c.env.kindOf x = some .local)
    {Q : Int → Int → Prop} (hQ : ∀ a b, Q a b → SrcOk a b)
    (h : Ev G c st (.Name y yp) fun f => okF G f = true ∧ Evs G c st as fun qs => FnS G f qs n Q)
    (k : ∀ Sa m', Cx.Ok (withS G Sa) (withHid c [Sa]) → Exs (withS G Sa) (withHid c [Sa]) ⟨m', [(x, .v .src)], []⟩ rest (fun _ => False) R fun _ => False)
    (hp : autoParam ((backTo cpos (starEach as c.env)).any (·.1) = false) aRfl)
    (hs : autoParam (swapsWith (.Call (.Name y yp) as [] cpos) (some (.Name x xp)) pos.line c.env = pure false) aRfl) :
    Run G c st (.Assign [.Name x xp] (.Call (.Name y yp) as [] cpos) pos :: rest) (fun G' => ∃ Sa, G' = withS G Sa) R := fun h₁ tk S Q' E' z => by
  obtain ⟨m0, ρ0, hc0⟩ := st
  cases hhc
  refine wpAny_execs_cons (wpAny_Assign_Name ?_ hs)
  rw [eval_CallN]
  refine wpAny_bind (h h₁ tk S _ _ fun vf f h2 tk2 s2 r2 q2 => ?_)
  refine callWith_all hp (q2.2 cpos h2 tk2 (S.step O s2) _ _ fun vs qs h3 tk3 s3 r3 q3 => ⟨keeper O ((S.step O s2).step O s3) (r2.mono (s3.vle O)) q2.1, ?_⟩)
  have S3 := (S.step O s2).step O s3
  refine q3 c _ O hr h3 tk3 (vf :: vs) S3 (.cons (r2.mono (s3.vle O)) r3) _ _ fun Sa a b ta tb h4 tk4 s4 e4 hl q4 => ?_
  have S4 := S3.step O s4
  have eM : Sa ∉ c.M G := fun q => by obtain ⟨o, e⟩ := S3.glb.hasM Sa q; exact clash e4 e
  have eL : Sa ≠ c.L := fun q => by obtain ⟨o, _, _, e, _⟩ := S3.F.ns; rw [← q, e4] at e; cases e
  refine store_of O (.inl hx) S4 (q := .adr Sa) (.adr Sa) fun m' h5 tk5 S5 k5 => ?_
  have hl5 : h5.IsList Sa #[.int a ta, .int b tb] := by
    obtain ⟨o, e, r⟩ := hl
    refine ⟨o, k5.keep Sa o (fun q => ?_) e, r⟩
    rcases q with q | q | q | q | ⟨y, k, e, q⟩
    · exact eM q
    · exact eL q
    · exact eL (q.trans (O.loc hm).1)
    · cases q
    · obtain ⟨_, _, e2, e3, _⟩ := S3.mu y k e
      obtain ⟨o, e5⟩ := S3.occ Sa (.inr (.inr ⟨y, k, e, q⟩))
      exact clash e4 e5
  obtain ⟨O', S'⟩ := toS_ok (st := ⟨m0, ρ0, []⟩) O S5 hm hcel hx hl5 (hQ a b q4) (S3.new0 e4) eM
  exact k Sa m' O' h5 tk5 S' _ _ (fun _ _ _ _ _ n => n.elim) (fun v q st' h' tk' S6 k6 r6 q6 => z (withS G Sa) (withHid c [Sa]) st' v q h' tk' ⟨Sa, rfl⟩ rfl rfl rfl S6 r6 q6) fun _ _ _ _ _ _ _ x => x.elim
end
section
noncomputable abbrev sigOf (p own sk : PV) (l : List PV) : PV := .ins 230 [(Str.ofString "path", p), (Str.ofString "regions", .tup []), (Str.ofString "params", .tup []), (Str.ofString "own", .tup []), (Str.ofString "inputs", .tup (own :: l)), (Str.ofString "output", tUnit), (Str.ofString "self_kind", sk), (Str.ofString "has_body", .bool true)]
end
section
noncomputable section
structure AT where
  ρ : List (Str × LV)
  hc : List Addr
noncomputable abbrev AT.at (s : AT) (m : Str → Option Value) : AS := ⟨m, s.ρ, s.hc⟩
noncomputable def AT.set (s : AT) (x : Str) (q : PV) : AT := ⟨(x, .v q) :: s.ρ, s.hc⟩
noncomputable def AT.put (s : AT) (x : Str) (k : MK) : AT := ⟨(x, .mut k) :: s.ρ, s.hc⟩
structure WX where
  G : Gx
  c : Cx
  n : Nat
noncomputable abbrev WX.K (w : WX) : Frag := hp.heap_1 w.G.w.params
structure WX.Ok (w : WX) : Prop where
  O : Cx.Ok w.G w.c
  r : w.c.room w.n
  k : w.G.K = hp.heap_1 w.G.w.params
noncomputable def okb (q : PV) : Bool := q.lay && Nat.ble q.dep 64
noncomputable def okl (l : List PV) : Bool := Nat.ble l.length 16777216
noncomputable def evalL (g : Expr → Option PV) : List Expr → Option (List PV)
  | [] => some []
  | e :: es => match g e with
    | some q => match evalL g es with
      | some qs => some (q :: qs)
      | none => none
    | none => none
noncomputable def exK (e : Expr) : Nat := match e with
  | .Name _ _ => 1
  | .Subscript _ _ _ => 2
  | .Attribute _ _ _ => 3
  | .Constant _ _ _ => 4
  | .Call _ _ _ _ => 5
  | .Starred _ _ => 6
  | _ => 0
noncomputable def notStarE (e : Expr) : Bool := Nat.ble (exK e) 5
noncomputable def or2 {α : Type} (a b : Option α) : Option α := match a with
  | some x => some x
  | none => b
noncomputable def with1 {α β : Type} (a : Option α) (f : α → Option β) : Option β := match a with
  | some x => f x
  | none => none
noncomputable def with2 {α β γ : Type} (a : Option α) (b : Option β) (f : α → β → Option γ) : Option γ := with1 a fun x => with1 b fun y => f x y
noncomputable def guardP (b : Bool) (v : Option PV) : Option PV := if b = true then v else none
noncomputable def attrE (e : Expr) : Bool := Nat.ble 1 (exK e) && Nat.ble (exK e) 3
noncomputable def gvR (v : Value) : Option PV := match v with
  | .ref a => some (.adr a)
  | _ => none
noncomputable def gvB (v : Value) : Option PV := match v with
  | .type n => some (.ty n)
  | .builtin n => some (.bi n)
  | _ => none
noncomputable def globV (w : WX) (x : Str) : Option PV := with1 (nsIn w.K mainGlobals x) fun o => Option.casesOn (motive := fun _ => Option PV) o (guardP (!(x == Str.ofString "__name__")) (with1 (bootBuiltins x) gvB)) gvR
noncomputable def globP (w : WX) (x : Str) : Option PV := guardP (w.c.env.kindOf x == some .globalImplicit) (if (x == Str.ofString "_law_byte") = true then some tByte else globV w x)
noncomputable def asInt (q : PV) : Option Int := PV.casesOn (motive_1 := fun _ => Option Int) q none (fun _ => none) some (fun _ => none) (fun _ => none) (fun _ => none) (fun _ => none) (fun _ _ => none) (fun _ => none) (fun _ => none) (fun _ => none) none (fun _ => none) (fun _ => none) (fun _ => none) (fun _ => none)
noncomputable def asStr (q : PV) : Option Str := PV.casesOn (motive_1 := fun _ => Option Str) q none (fun _ => none) (fun _ => none) some (fun _ => none) (fun _ => none) (fun _ => none) (fun _ _ => none) (fun _ => none) (fun _ => none) (fun _ => none) none (fun _ => none) (fun _ => none) (fun _ => none) (fun _ => none)
noncomputable def asBool (q : PV) : Option Bool := PV.casesOn (motive_1 := fun _ => Option Bool) q none some (fun _ => none) (fun _ => none) (fun _ => none) (fun _ => none) (fun _ => none) (fun _ _ => none) (fun _ => none) (fun _ => none) (fun _ => none) none (fun _ => none) (fun _ => none) (fun _ => none) (fun _ => none)
noncomputable def asTup (q : PV) : Option (List PV) := PV.casesOn (motive_1 := fun _ => Option (List PV)) q none (fun _ => none) (fun _ => none) (fun _ => none) some (fun _ => none) (fun _ => none) (fun _ _ => none) (fun _ => none) (fun _ => none) (fun _ => none) none (fun _ => none) (fun _ => none) (fun _ => none) (fun _ => none)
noncomputable def asLst (q : PV) : Option (List PV) := PV.casesOn (motive_1 := fun _ => Option (List PV)) q none (fun _ => none) (fun _ => none) (fun _ => none) (fun _ => none) some (fun _ => none) (fun _ _ => none) (fun _ => none) (fun _ => none) (fun _ => none) none (fun _ => none) (fun _ => none) (fun _ => none) (fun _ => none)
noncomputable def asDct (q : PV) : Option (List (Str × PV)) := PV.casesOn (motive_1 := fun _ => Option (List (Str × PV))) q none (fun _ => none) (fun _ => none) (fun _ => none) (fun _ => none) (fun _ => none) some (fun _ _ => none) (fun _ => none) (fun _ => none) (fun _ => none) none (fun _ => none) (fun _ => none) (fun _ => none) (fun _ => none)
noncomputable def asIns (q : PV) : Option (Addr × List (Str × PV)) := PV.casesOn (motive_1 := fun _ => Option (Addr × List (Str × PV))) q none (fun _ => none) (fun _ => none) (fun _ => none) (fun _ => none) (fun _ => none) (fun _ => none) (fun C l => some (C, l)) (fun _ => none) (fun _ => none) (fun _ => none) none (fun _ => none) (fun _ => none) (fun _ => none) (fun _ => none)
noncomputable def subV (a b : PV) : Option PV := or2 (with2 (asTup a) (asInt b) fun l k => guardP (okl l && decide (0 ≤ k)) l[k.toNat]?)
  (or2 (with2 (asLst a) (asInt b) fun l k => guardP (okl l && decide (0 ≤ k)) l[k.toNat]?) (with2 (asDct a) (asStr b) fun l x => l.lookup x))
noncomputable def idxE (e : Expr) : Bool := Nat.ble 1 (exK e) && Nat.ble (exK e) 5
noncomputable def subP (sl : Expr) (a b : PV) : Option PV := guardP (idxE sl) (subV a b)
noncomputable def addP (a b : PV) : Option PV := or2 (with2 (asInt a) (asInt b) fun i j => some (.int (i + j)))
  (or2 (with2 (asLst a) (asLst b) fun l k => guardP (Nat.ble (l.length + k.length) 16777216) (some (.lst (l ++ k)))) (with2 (asTup a) (asTup b) fun l k => guardP (Nat.ble (l.length + k.length) 16777216) (some (.tup (l ++ k)))))
noncomputable def binP (op : Operator) (a b : PV) : Option PV := match op with
  | .Add => addP a b
  | .Sub => with2 (asInt a) (asInt b) fun i j => some (.int (i - j))
  | _ => none
noncomputable def notP (o : Option PV) : Option PV := with1 o fun q => with1 (asBool q) fun b => some (.bool (!b))
noncomputable def eqP (a b : PV) : Option PV := or2 (with2 (asStr a) (asStr b) fun x y => some (.bool (x == y)))
  (or2 (with2 (asInt a) (asInt b) fun x y => some (.bool (x == y))) (guardP (okb a && okb b) (some (.bool (PyData.eqv a.d b.d)))))
noncomputable def inP (a b : PV) : Option PV := or2 (with1 (asTup b) fun l => guardP (okb a && okb (.tup l)) (some (.bool ((PV.ds l).any fun y => y.eqv a.d))))
  (or2 (with1 (asLst b) fun l => guardP (okb a && okb (.lst l)) (some (.bool ((PV.ds l).any fun y => y.eqv a.d)))) (with2 (asDct b) (asStr a) fun l x => some (.bool (l.lookup x).isSome)))
noncomputable def isP (a b : PV) : Option PV := guardP b.isNone (some (.bool a.isNone))
noncomputable def cmpP (op : CmpOp) (a b : PV) : Option PV := match op with
  | .Eq => eqP a b
  | .NotEq => notP (eqP a b)
  | .Is => isP a b
  | .IsNot => guardP a.isD (notP (isP a b))
  | .Lt => with2 (asInt a) (asInt b) fun i j => some (.bool (decide (i < j)))
  | .Gt => with2 (asInt a) (asInt b) fun i j => some (.bool (decide (i > j)))
  | .GtE => with2 (asInt a) (asInt b) fun i j => some (.bool (decide (i ≥ j)))
  | .In => inP a b
  | .NotIn => notP (inP a b)
  | _ => none
noncomputable def boolP (g : Expr → Option PV) (op : BoolOp) : List Expr → Option PV
  | [] => none
  | [e] => g e
  | e :: e2 :: es => with1 (g e) fun q => with1 (asBool q) fun b => if b = (op == .Or) then some (.bool b) else boolP g op (e2 :: es)
noncomputable def attrP (w : WX) (C : Addr) (l : List (Str × PV)) (x : Str) : Option PV := with1 (l.lookup x) fun q => guardP q.noBi
  (if attrOk w.K C x = true then some q else guardP (C == 52 && (findIn w.K (.ref 52) x == some none)) (some q))
noncomputable def constP : Const → Option PV
  | .int i => some (.int i)
  | .str x => some (.str x)
  | .bool b => some (.bool b)
  | .none => some .none
  | _ => none
noncomputable def nameP (w : WX) (ρ : List (Str × LV)) (x : Str) : Option PV := guardP (!(x == Str.ofString "__debug__" || x == Str.ofString "__classdict__")) (match ρ.lookup x with
  | some (.v q) => some q
  | some (.mut _) => none
  | none => globP w x)
noncomputable def unP (op : UnaryOp) (q : PV) : Option PV := match op with
  | .Not => with1 (asBool q) fun b => some (.bool (!b))
  | .USub => with1 (asInt q) fun i => some (.int (-i))
  | _ => none
noncomputable def cmpL (g : Expr → Option PV) (l : Expr) (ops : List CmpOp) (rs : List Expr) : Option PV := match ops, rs with
  | [op], [r] => guardP (!behindInMarks op r) (with2 (g l) (g r) fun a b => cmpP op a b)
  | _, _ => none
noncomputable def emptyL {α : Type} : List α → Bool
  | [] => true
  | _ => false
noncomputable def evalP (w : WX) (ρ : List (Str × LV)) : Nat → Expr → Option PV
  | 0, _ => none
  | f + 1, e => match e with
    | .Constant c _ _ => constP c
    | .Name x _ => nameP w ρ x
    | .Subscript v sl _ => with2 (evalP w ρ f v) (evalP w ρ f sl) fun a b => subP sl a b
    | .Tuple es _ _ => guardP (es.all notStarE) (with1 (evalL (evalP w ρ f) es) fun qs => guardP (okl qs) (some (.tup qs)))
    | .List es _ => guardP (es.all notStarE) (with1 (evalL (evalP w ρ f) es) fun qs => guardP (okl qs) (some (.lst qs)))
    | .Attribute v x _ => guardP (attrE v) (with1 (evalP w ρ f v) fun q => with1 (asIns q) fun p => attrP w p.1 p.2 x)
    | .BinOp l op r _ => with2 (evalP w ρ f l) (evalP w ρ f r) fun a b => binP op a b
    | .Compare l ops rs _ => cmpL (evalP w ρ f) l ops rs
    | .UnaryOp op e _ => with1 (evalP w ρ f e) fun q => unP op q
    | .BoolOp op es _ => boolP (evalP w ρ f) op es
    | .Dict ks vs _ => guardP (emptyL ks && emptyL vs) (some (.dct []))
    | _ => none
section
variable {w : WX} {s : AT} {m : Str → Option Value}
theorem no1 {α : Type} {x : α} {P : Prop} (h : none = some x) : P := nomatch h
theorem noF {P : Prop} (h : false = true) : P := nomatch h
theorem okb_ok {q : PV} (h : okb q = true) : q.ok = true := PV.ok_of h
theorem okl_le {l : List PV} (h : okl l = true) : l.length ≤ 16777216 := bleT h
theorem guard_ok {p : Bool} {a : Option PV} {v : PV} (h : guardP p a = some v) : p = true ∧ a = some v := by
  cases p with
  | true => exact ⟨rfl, h⟩
  | false => exact no1 (x := v) h
theorem with1_ok {α β : Type} {a : Option α} {f : α → Option β} {v : β} (h : with1 a f = some v) : ∃ x, a = some x ∧ f x = some v := by
  cases a with
  | none => exact no1 h
  | some x => exact ⟨x, rfl, h⟩
theorem with2_ok {α β γ : Type} {a : Option α} {b : Option β} {f : α → β → Option γ} {v : γ} (h : with2 a b f = some v) : ∃ x y, a = some x ∧ b = some y ∧ f x y = some v := by
  obtain ⟨x, e1, h⟩ := with1_ok h
  obtain ⟨y, e2, h⟩ := with1_ok h
  exact ⟨x, y, e1, e2, h⟩
theorem or2_ok {α : Type} {a b : Option α} {v : α} (h : or2 a b = some v) : a = some v ∨ b = some v := by
  cases a with
  | none => exact .inr h
  | some x => exact .inl h
theorem asInt_ok {q : PV} {i : Int} : asInt q = some i → q = .int i := PV.casesOn (motive_1 := fun q => asInt q = some i → q = .int i) q no1 (fun _ => no1) (fun _ e => congrArg PV.int (Option.some.inj e)) (fun _ => no1) (fun _ => no1) (fun _ => no1) (fun _ => no1) (fun _ _ => no1) (fun _ => no1) (fun _ => no1) (fun _ => no1) no1 (fun _ => no1) (fun _ => no1) (fun _ => no1) (fun _ => no1)
theorem asStr_ok {q : PV} {i : Str} : asStr q = some i → q = .str i := PV.casesOn (motive_1 := fun q => asStr q = some i → q = .str i) q no1 (fun _ => no1) (fun _ => no1) (fun _ e => congrArg PV.str (Option.some.inj e)) (fun _ => no1) (fun _ => no1) (fun _ => no1) (fun _ _ => no1) (fun _ => no1) (fun _ => no1) (fun _ => no1) no1 (fun _ => no1) (fun _ => no1) (fun _ => no1) (fun _ => no1)
theorem asBool_ok {q : PV} {i : Bool} : asBool q = some i → q = .bool i := PV.casesOn (motive_1 := fun q => asBool q = some i → q = .bool i) q no1 (fun _ e => congrArg PV.bool (Option.some.inj e)) (fun _ => no1) (fun _ => no1) (fun _ => no1) (fun _ => no1) (fun _ => no1) (fun _ _ => no1) (fun _ => no1) (fun _ => no1) (fun _ => no1) no1 (fun _ => no1) (fun _ => no1) (fun _ => no1) (fun _ => no1)
theorem asTup_ok {q : PV} {i : List PV} : asTup q = some i → q = .tup i := PV.casesOn (motive_1 := fun q => asTup q = some i → q = .tup i) q no1 (fun _ => no1) (fun _ => no1) (fun _ => no1) (fun _ e => congrArg PV.tup (Option.some.inj e)) (fun _ => no1) (fun _ => no1) (fun _ _ => no1) (fun _ => no1) (fun _ => no1) (fun _ => no1) no1 (fun _ => no1) (fun _ => no1) (fun _ => no1) (fun _ => no1)
theorem asLst_ok {q : PV} {i : List PV} : asLst q = some i → q = .lst i := PV.casesOn (motive_1 := fun q => asLst q = some i → q = .lst i) q no1 (fun _ => no1) (fun _ => no1) (fun _ => no1) (fun _ => no1) (fun _ e => congrArg PV.lst (Option.some.inj e)) (fun _ => no1) (fun _ _ => no1) (fun _ => no1) (fun _ => no1) (fun _ => no1) no1 (fun _ => no1) (fun _ => no1) (fun _ => no1) (fun _ => no1)
theorem asDct_ok {q : PV} {i : List (Str × PV)} : asDct q = some i → q = .dct i := PV.casesOn (motive_1 := fun q => asDct q = some i → q = .dct i) q no1 (fun _ => no1) (fun _ => no1) (fun _ => no1) (fun _ => no1) (fun _ => no1) (fun _ e => congrArg PV.dct (Option.some.inj e)) (fun _ _ => no1) (fun _ => no1) (fun _ => no1) (fun _ => no1) no1 (fun _ => no1) (fun _ => no1) (fun _ => no1) (fun _ => no1)
theorem asIns_ok {q : PV} {i : Addr × List (Str × PV)} : asIns q = some i → q = .ins i.1 i.2 := PV.casesOn (motive_1 := fun q => asIns q = some i → q = .ins i.1 i.2) q no1 (fun _ => no1) (fun _ => no1) (fun _ => no1) (fun _ => no1) (fun _ => no1) (fun _ => no1) (fun _ _ e => congrArg (fun p : Addr × List (Str × PV) => PV.ins p.1 p.2) (Option.some.inj e)) (fun _ => no1) (fun _ => no1) (fun _ => no1) no1 (fun _ => no1) (fun _ => no1) (fun _ => no1) (fun _ => no1)
theorem isNone_ok {q : PV} : q.isNone = true → q = .none := PV.casesOn (motive_1 := fun q => q.isNone = true → q = .none) q (fun _ => rfl) (fun _ => noF) (fun _ => noF) (fun _ => noF) (fun _ => noF) (fun _ => noF) (fun _ => noF) (fun _ _ => noF) (fun _ => noF) (fun _ => noF) (fun _ => noF) noF (fun _ => noF) (fun _ => noF) (fun _ => noF) (fun _ => noF)
def StarS (e : Expr) : Prop := ∀ es env, starEach (e :: es) env = (false, eval e env) :: starEach es env
theorem starEach_cons {e : Expr} (h : notStarE e = true) : StarS e := by
  cases e with
  | Starred _ _ => exact noF h
  | _ => exact fun _ _ => rfl
theorem evalL_ok {g : Expr → Option PV} (hw : w.Ok) (hg : ∀ e v, g e = some v → ∀ Q : PV → Prop, Q v → Ev w.G w.c (s.at m) e Q) : ∀ (es : List Expr) (vs : List PV), es.all notStarE = true → evalL g es = some vs → ∀ Q : List PV → Prop, Q vs → Evs w.G w.c (s.at m) es Q
  | [], vs, _, h, Q, q => by cases h; exact Evs.nil q
  | e :: es, vs, hn, h, Q, q => by
    rw [List.all_cons, Bool.and_eq_true] at hn
    have h : (match g e with
      | some q => match evalL g es with
        | some qs => some (q :: qs)
        | none => none
      | none => none) = some vs := h
    cases h1 : g e with
    | none => rw [h1] at h; exact no1 h
    | some a =>
      cases h2 : evalL g es with
      | none => rw [h1, h2] at h; exact no1 h
      | some as =>
        rw [h1, h2] at h
        cases h
        exact Evs.cons hw.O (hg e a h1 _ (evalL_ok hw hg es as hn.2 h2 _ q)) (starEach_cons hn.1 _ _)
def IdxS (sl : Expr) : Prop := ∀ o i : Value, subscripted sl false o i = operate [o, i] (getItem o i)
theorem idxE_ok {sl : Expr} (h : idxE sl = true) : IdxS sl := by
  cases sl with
  | Constant _ _ _ => exact fun _ _ => rfl
  | Name _ _ => exact fun _ _ => rfl
  | Subscript _ _ _ => exact fun _ _ => rfl
  | Call _ _ _ _ => exact fun _ _ => rfl
  | Attribute _ _ _ => exact fun _ _ => rfl
  | _ => exact noF h
theorem subP_ok {value sl : Expr} {a b v : PV} (h : subP sl a b = some v) {Q : PV → Prop} (q : Q v) : OpSub w.G w.c (s.at m) value sl a b Q := by
  obtain ⟨h0, h⟩ := guard_ok h
  have hs := idxE_ok h0
  rcases or2_ok h with h | h
  · obtain ⟨l, k, e1, e2, h⟩ := with2_ok h
    obtain ⟨h1, h2⟩ := guard_ok h
    cases asTup_ok e1; cases asInt_ok e2
    rw [Bool.and_eq_true] at h1
    exact sub_tup (of_decide_eq_true h1.2) (okl_le h1.1) h2 q (fun _ _ => hs _ _)
  · rcases or2_ok h with h | h
    · obtain ⟨l, k, e1, e2, h⟩ := with2_ok h
      obtain ⟨h1, h2⟩ := guard_ok h
      cases asLst_ok e1; cases asInt_ok e2
      rw [Bool.and_eq_true] at h1
      exact sub_lst (of_decide_eq_true h1.2) (okl_le h1.1) h2 q (fun _ _ => hs _ _)
    · obtain ⟨l, x, e1, e2, h⟩ := with2_ok h
      cases asDct_ok e1; cases asStr_ok e2
      exact sub_dct h q (fun _ _ => hs _ _)
theorem gvR_ok {v : Value} {q : PV} (h : gvR v = some q) : ∃ a, v = .ref a ∧ q = .adr a := by
  cases v with
  | ref a => exact ⟨a, rfl, (Option.some.inj h).symm⟩
  | _ => exact no1 h
theorem gvB_ok {v : Value} {q : PV} (h : gvB v = some q) : (∃ n, v = .type n ∧ q = .ty n) ∨ ∃ n, v = .builtin n ∧ q = .bi n := by
  cases v with
  | type n => exact .inl ⟨n, rfl, (Option.some.inj h).symm⟩
  | builtin n => exact .inr ⟨n, rfl, (Option.some.inj h).symm⟩
  | _ => exact no1 h
theorem globP_ok (hw : w.Ok) {x : Str} {pos : Pos} {v : PV} (hd : (x == ("__debug__" : Str)) = false) (h : globP w x = some v) {Q : PV → Prop} (q : Q v) : Ev w.G w.c (s.at m) (.Name x pos) Q := by
  obtain ⟨h1, h2⟩ := guard_ok h
  have hk : w.c.env.kindOf x = some .globalImplicit := by simpa using h1
  clear h h1
  by_cases hb : (x == Str.ofString "_law_byte") = true
  · rw [if_pos hb] at h2
    have := beq_iff_eq.mp hb
    subst this
    cases h2
    exact Ev.byte hw.k hw.O hk q
  · rw [if_neg hb] at h2
    obtain ⟨o, e, h2⟩ := with1_ok h2
    cases o with
    | some u =>
      obtain ⟨a, rfl, rfl⟩ := gvR_ok h2
      exact Ev.glob hw.O hk (hw.k ▸ e) (fun _ _ => .adr _) q hd
    | none =>
      obtain ⟨hn, h3⟩ := guard_ok h2
      have hn : x ≠ Str.ofString "__name__" := fun z => by
        rw [z, show (Str.ofString "__name__" == Str.ofString "__name__") = true from beq_self_eq_true _] at hn; exact noF hn
      obtain ⟨u, eb, h3⟩ := with1_ok h3
      rcases gvB_ok h3 with ⟨n, rfl, rfl⟩ | ⟨n, rfl, rfl⟩
      · exact Ev.globb hw.O hk (hw.k ▸ e) eb hn (fun _ => .ty _) q hd
      · exact Ev.globb hw.O hk (hw.k ▸ e) eb hn (fun _ => .bi _) q hd
theorem addP_ok (hw : w.Ok) {a b v : PV} (h : addP a b = some v) {Q : PV → Prop} (q : Q v) : Op2 w.G w.c (s.at m) (binaryOp .Add) a b Q := by
  rcases or2_ok h with h | h
  · obtain ⟨i, j, e1, e2, h⟩ := with2_ok h
    cases asInt_ok e1; cases asInt_ok e2; cases h; exact op_add_int q
  · rcases or2_ok h with h | h
    · obtain ⟨i, j, e1, e2, h⟩ := with2_ok h
      obtain ⟨h1, h2⟩ := guard_ok h
      cases asLst_ok e1; cases asLst_ok e2; cases h2; exact op_add_lst hw.O (bleT h1) q
    · obtain ⟨i, j, e1, e2, h⟩ := with2_ok h
      obtain ⟨h1, h2⟩ := guard_ok h
      cases asTup_ok e1; cases asTup_ok e2; cases h2; exact op_add_tup hw.O (bleT h1) q
theorem binP_ok (hw : w.Ok) {op : Operator} {a b v : PV} (h : binP op a b = some v) {Q : PV → Prop} (q : Q v) : Op2 w.G w.c (s.at m) (binaryOp op) a b Q := by
  cases op with
  | Add => exact addP_ok hw h q
  | Sub =>
    obtain ⟨i, j, e1, e2, h⟩ := with2_ok h
    cases asInt_ok e1; cases asInt_ok e2; cases h
    exact op_sub_int q
  | _ => exact no1 h
theorem notP_ok {o : Option PV} {v : PV} (h : notP o = some v) : ∃ b, o = some (.bool b) ∧ v = .bool (!b) := by
  obtain ⟨q, e1, h⟩ := with1_ok h
  obtain ⟨b, e2, h⟩ := with1_ok h
  cases asBool_ok e2; cases h
  exact ⟨b, e1, rfl⟩
theorem eqP_ok (hw : w.Ok) {a b v : PV} (h : eqP a b = some v) : (∀ Q : PV → Prop, Q v → Op2 w.G w.c (s.at m) (compareOp .Eq) a b Q) ∧ ∀ t, v = .bool t → ∀ Q : PV → Prop, Q (.bool (!t)) → Op2 w.G w.c (s.at m) (compareOp .NotEq) a b Q := by
  rcases or2_ok h with h | h
  · obtain ⟨x, y, e1, e2, h⟩ := with2_ok h
    cases asStr_ok e1; cases asStr_ok e2; cases h
    exact ⟨fun Q q => op_eq_str q, fun t e Q q => by cases e; exact op_ne_str q⟩
  · rcases or2_ok h with h | h
    · obtain ⟨x, y, e1, e2, h⟩ := with2_ok h
      cases asInt_ok e1; cases asInt_ok e2; cases h
      exact ⟨fun Q q => op_eq_int q, fun t e Q q => by cases e; exact op_ne_int q⟩
    · obtain ⟨h1, h2⟩ := guard_ok h
      rw [Bool.and_eq_true] at h1
      cases h2
      exact ⟨fun Q q => op_eq hw.r (okb_ok h1.1) (okb_ok h1.2) q, fun t e Q q => by cases e; exact op_ne hw.r (okb_ok h1.1) (okb_ok h1.2) q⟩
theorem inP_ok (hw : w.Ok) {a b v : PV} (h : inP a b = some v) : (∀ Q : PV → Prop, Q v → Op2 w.G w.c (s.at m) (compareOp .In) a b Q) ∧ ∀ t, v = .bool t → ∀ Q : PV → Prop, Q (.bool (!t)) → Op2 w.G w.c (s.at m) (compareOp .NotIn) a b Q := by
  rcases or2_ok h with h | h
  · obtain ⟨l, e1, h⟩ := with1_ok h
    obtain ⟨h1, h2⟩ := guard_ok h
    rw [Bool.and_eq_true] at h1
    cases asTup_ok e1; cases h2
    exact ⟨fun Q q => op_in_tup hw.r (okb_ok h1.1) (okb_ok h1.2) q, fun t e Q q => by cases e; exact op_notIn_tup hw.r (okb_ok h1.1) (okb_ok h1.2) q⟩
  · rcases or2_ok h with h | h
    · obtain ⟨l, e1, h⟩ := with1_ok h
      obtain ⟨h1, h2⟩ := guard_ok h
      rw [Bool.and_eq_true] at h1
      cases asLst_ok e1; cases h2
      exact ⟨fun Q q => op_in_lst hw.r (okb_ok h1.1) (okb_ok h1.2) q, fun t e Q q => by cases e; exact op_notIn_lst hw.r (okb_ok h1.1) (okb_ok h1.2) q⟩
    · obtain ⟨l, x, e1, e2, h⟩ := with2_ok h
      cases asDct_ok e1; cases asStr_ok e2; cases h
      exact ⟨fun Q q => op_in_dct hw.O q, fun t e Q q => by cases e; exact op_notIn_dct hw.O q⟩
theorem cmpP_ok (hw : w.Ok) {op : CmpOp} {a b v : PV} (h : cmpP op a b = some v) {Q : PV → Prop} (q : Q v) : Op2 w.G w.c (s.at m) (compareOp op) a b Q := by
  cases op with
  | Eq => exact (eqP_ok hw h).1 Q q
  | NotEq => obtain ⟨t, e, rfl⟩ := notP_ok h; exact (eqP_ok hw e).2 t rfl Q q
  | Is => obtain ⟨e, h⟩ := guard_ok h; cases isNone_ok e; cases h; exact op_is_none q
  | IsNot =>
    obtain ⟨h1, h2⟩ := guard_ok h
    obtain ⟨t, e, rfl⟩ := notP_ok h2
    obtain ⟨e3, h3⟩ := guard_ok e
    clear h h2 e
    cases isNone_ok e3; cases h3
    exact op_is_not_none h1 q
  | Lt => obtain ⟨i, j, e1, e2, h⟩ := with2_ok h; cases asInt_ok e1; cases asInt_ok e2; cases h; exact op_lt_int q
  | Gt => obtain ⟨i, j, e1, e2, h⟩ := with2_ok h; cases asInt_ok e1; cases asInt_ok e2; cases h; exact op_gt_int q
  | GtE => obtain ⟨i, j, e1, e2, h⟩ := with2_ok h; cases asInt_ok e1; cases asInt_ok e2; cases h; exact op_ge_int q
  | In => exact (inP_ok hw h).1 Q q
  | NotIn => obtain ⟨t, e, rfl⟩ := notP_ok h; exact (inP_ok hw e).2 t rfl Q q
  | _ => exact no1 h
end
end
end
section
noncomputable section
variable {w : WX} {s : AT} {m : Str → Option Value}
theorem nameP_ok (hw : w.Ok) {x : Str} {pos : Pos} {v : PV} (h : nameP w s.ρ x = some v) {Q : PV → Prop} (q : Q v) : Ev w.G w.c (s.at m) (.Name x pos) Q := by
  obtain ⟨h1, h2⟩ := guard_ok h
  have hd : (x == Str.ofString "__debug__") = false ∧ (x == Str.ofString "__classdict__") = false := by simpa using h1
  clear h h1
  cases e : s.ρ.lookup x with
  | none => rw [e] at h2; exact globP_ok hw hd.1 h2 q
  | some l => cases l with
    | v u => rw [e] at h2; cases h2; exact Ev.name hw.O e q hd.1 hd.2
    | «mut» k => rw [e] at h2; exact no1 h2
theorem constP_ok {c : Const} {k : Nat} {pos : Pos} {v : PV} (h : constP c = some v) {Q : PV → Prop} (q : Q v) : Ev w.G w.c (s.at m) (.Constant c k pos) Q := by
  cases c with
  | int i => cases h; exact Ev.const_int q
  | str x => cases h; exact Ev.const_str q
  | bool b => cases h; exact Ev.const_bool q
  | none => cases h; exact Ev.const_none q
  | _ => exact no1 h
def AttrS (e : Expr) : Prop := (∃ a b, e = .Name a b) ∨ (∃ a b c, e = .Subscript a b c) ∨ ∃ a b c, e = .Attribute a b c
theorem attrS {e : Expr} (h : attrE e = true) : AttrS e := by
  cases e with
  | Name _ _ => exact .inl ⟨_, _, rfl⟩
  | Subscript _ _ _ => exact .inr (.inl ⟨_, _, _, rfl⟩)
  | Attribute _ _ _ => exact .inr (.inr ⟨_, _, _, rfl⟩)
  | _ => exact noF h
theorem attrP_ok (hw : w.Ok) {e : Expr} {x : Str} {pos : Pos} {C : Addr} {l : List (Str × PV)} {v : PV} (ha0 : attrE e = true) (h : attrP w C l x = some v) {Q : PV → Prop} (q : Q v) (he : Ev w.G w.c (s.at m) e fun u => u = .ins C l) : Ev w.G w.c (s.at m) (.Attribute e x pos) Q := by
  have heq : eval (.Attribute e x pos) w.c.env = (do
      let o ← eval e w.c.env
      standAt pos.atName
      let r ← holding [o] (getAttr o x true)
      letTemporaryGo e o r
      pure r) := by
    rcases attrS ha0 with ⟨_, _, rfl⟩ | ⟨_, _, _, rfl⟩ | ⟨_, _, _, rfl⟩ <;> rfl
  obtain ⟨u, e1, h2⟩ := with1_ok h
  obtain ⟨hb, h3⟩ := guard_ok h2
  clear h h2
  by_cases ha : attrOk w.K C x = true
  · rw [if_pos ha] at h3
    cases h3
    exact Ev.attr hw.O (he.mono fun u e => ⟨C, l, v, e, e1, by rw [hw.k]; exact ha, hb, q⟩) heq
  · rw [if_neg ha] at h3
    obtain ⟨h4, h5⟩ := guard_ok h3
    cases h5
    rw [Bool.and_eq_true] at h4
    have hC : C = 52 := by simpa using h4.1
    subst hC
    exact Ev.attrX hw.k hw.O (he.mono fun u e => ⟨l, v, e, e1, by rw [hw.k]; simpa using h4.2, hb, q⟩) heq
theorem boolP_ok (hw : w.Ok) {g : Expr → Option PV} (hg : ∀ e v, g e = some v → ∀ Q : PV → Prop, Q v → Ev w.G w.c (s.at m) e Q) {op : BoolOp} : ∀ (es : List Expr) (v : PV), boolP g op es = some v → ∀ Q : PV → Prop, Q v → Evb w.G w.c (s.at m) op es Q
  | [], v, h, Q, q => no1 h
  | [e], v, h, Q, q => Evb.one (hg e v h Q q)
  | e :: e2 :: es, v, h, Q, q => by
    have h1 : (with1 (g e) fun q => with1 (asBool q) fun b => if b = (op == .Or) then some (.bool b) else boolP g op (e2 :: es)) = some v := h
    obtain ⟨u, e1, h2⟩ := with1_ok h1
    obtain ⟨b, e3, h3⟩ := with1_ok h2
    clear h h1 h2
    cases asBool_ok e3
    refine Evb.cons hw.O (hg e _ e1 _ ⟨b, rfl, ?_⟩)
    by_cases z : b = (op == .Or)
    · rw [if_pos z] at h3 ⊢; cases h3; exact q
    · rw [if_neg z] at h3 ⊢; exact boolP_ok hw hg (e2 :: es) v h3 Q q
theorem cmpL_some {g : Expr → Option PV} {l : Expr} {ops : List CmpOp} {rs : List Expr} {v : PV} (h : cmpL g l ops rs = some v) : ∃ op r, ops = [op] ∧ rs = [r] ∧ guardP (!behindInMarks op r) (with2 (g l) (g r) fun a b => cmpP op a b) = some v := by
  cases ops with
  | nil => exact no1 h
  | cons op ops => cases ops with
    | cons _ _ => exact no1 h
    | nil => cases rs with
      | nil => exact no1 h
      | cons r rs => cases rs with
        | cons _ _ => exact no1 h
        | nil => exact ⟨op, r, rfl, rfl, h⟩
theorem evalP_ok (hw : w.Ok) : ∀ (f : Nat) (e : Expr) (v : PV), evalP w s.ρ f e = some v → ∀ Q : PV → Prop, Q v → Ev w.G w.c (s.at m) e Q
  | 0, e, v, h, Q, q => no1 h
  | f + 1, e, v, h, Q, q => by
    have ih := evalP_ok hw f
    cases e with
    | Constant c k pos => exact constP_ok h q
    | Name x pos => exact nameP_ok hw h q
    | Subscript value sl pos =>
      obtain ⟨a, b, e1, e2, h⟩ := with2_ok h
      exact Ev.sub hw.O (ih _ _ e1 _ (ih _ _ e2 _ (subP_ok h q)))
    | Tuple es k pos =>
      obtain ⟨h1, h⟩ := guard_ok h
      obtain ⟨qs, e1, h⟩ := with1_ok h
      obtain ⟨h2, h⟩ := guard_ok h
      cases h
      exact Ev.tup hw.O (evalL_ok hw ih es qs h1 e1 _ ⟨okl_le h2, q⟩)
    | List es pos =>
      obtain ⟨h1, h⟩ := guard_ok h
      obtain ⟨qs, e1, h⟩ := with1_ok h
      obtain ⟨h2, h⟩ := guard_ok h
      cases h
      exact Ev.lst hw.O (evalL_ok hw ih es qs h1 e1 _ ⟨okl_le h2, q⟩)
    | Attribute value x pos =>
      obtain ⟨h0, h⟩ := guard_ok h
      obtain ⟨u, e1, h⟩ := with1_ok h
      obtain ⟨p, e2, h⟩ := with1_ok h
      cases asIns_ok e2
      exact attrP_ok hw h0 h q (ih _ _ e1 _ rfl)
    | BinOp l op r pos =>
      obtain ⟨a, b, e1, e2, h⟩ := with2_ok h
      exact Ev.bin hw.O (ih _ _ e1 _ (ih _ _ e2 _ (binP_ok hw h q)))
    | Compare l ops rs pos =>
      have h : cmpL (evalP w s.ρ f) l ops rs = some v := h
      rcases cmpL_some h with ⟨op, r, rfl, rfl, h⟩
      · obtain ⟨h1, h⟩ := guard_ok h
        obtain ⟨a, b, e1, e2, h⟩ := with2_ok h
        exact Ev.cmp hw.O (ih _ _ e1 _ (ih _ _ e2 _ (cmpP_ok hw h q))) (by simpa using h1)
    | UnaryOp op e pos =>
      obtain ⟨a, e1, h⟩ := with1_ok h
      refine Ev.un hw.O (ih _ _ e1 _ ?_)
      cases op with
      | Not => obtain ⟨b, e2, h⟩ := with1_ok h; cases asBool_ok e2; cases h; exact op_not q
      | USub => obtain ⟨b, e2, h⟩ := with1_ok h; cases asInt_ok e2; cases h; exact op_neg_int q
      | _ => exact no1 h
    | BoolOp op es pos => exact Ev.boolop (boolP_ok hw ih es v h Q q)
    | Dict ks vs pos =>
      obtain ⟨h1, h⟩ := guard_ok h
      cases h
      cases ks with
      | cons _ _ => exact noF h1
      | nil => cases vs with
        | cons _ _ => exact noF h1
        | nil => exact Ev.dict0 hw.O (bigH hw.k hw.O) q
    | _ => exact no1 h
end
end
section
noncomputable section
noncomputable def testL (g : Expr → Option Bool) (op : BoolOp) : List Expr → Option Bool
  | [] => some (op == .And)
  | e :: es => with1 (g e) fun b => if b = (op == .Or) then some b else testL g op es
noncomputable def testP (w : WX) (ρ : List (Str × LV)) : Nat → Expr → Option Bool
  | 0, _ => none
  | f + 1, e => match e with
    | .Compare l ops rs _ => with1 (cmpL (evalP w ρ f) l ops rs) asBool
    | .UnaryOp op e _ => match op with
      | .Not => with1 (testP w ρ f e) fun b => some (!b)
      | _ => none
    | .BoolOp op es _ => testL (testP w ρ f) op es
    | .Name x _ => with1 (nameP w ρ x) asBool
    | _ => none
noncomputable abbrev fuel : Nat := 24
@[irreducible] noncomputable def EvT (w : WX) (s : AT) (e : Expr) (Q : PV → Prop) : Prop := w.Ok → ∀ m, Ev w.G w.c (s.at m) e Q
@[irreducible] noncomputable def EvsT (w : WX) (s : AT) (es : List Expr) (Q : List PV → Prop) : Prop := w.Ok → ∀ m, Evs w.G w.c (s.at m) es Q
@[irreducible] noncomputable def EvbT (w : WX) (s : AT) (op : BoolOp) (es : List Expr) (Q : PV → Prop) : Prop := w.Ok → ∀ m, Evb w.G w.c (s.at m) op es Q
@[irreducible] noncomputable def TrT (w : WX) (s : AT) (e : Expr) (Q : Bool → Prop) : Prop := w.Ok → ∀ m, Tr w.G w.c (s.at m) e Q
@[irreducible] noncomputable def TrsT (w : WX) (s : AT) (op : BoolOp) (es : List Expr) (Q : Bool → Prop) : Prop := w.Ok → ∀ m, Trs w.G w.c (s.at m) op es Q
@[irreducible] noncomputable def Op2T (w : WX) (s : AT) (f : Value → Value → Sem Value) (a b : PV) (Q : PV → Prop) : Prop := w.Ok → ∀ m, Op2 w.G w.c (s.at m) f a b Q
@[irreducible] noncomputable def SubT (w : WX) (s : AT) (v sl : Expr) (a b : PV) (Q : PV → Prop) : Prop := w.Ok → ∀ m, OpSub w.G w.c (s.at m) v sl a b Q
@[irreducible] noncomputable def OpLT (w : WX) (s : AT) (f : List Value → Sem Value) (as : List PV) (Q : PV → Prop) : Prop := w.Ok → ∀ m, OpL w.G w.c (s.at m) f as Q
@[irreducible] noncomputable def ItT (w : WX) (s : AT) (t i : Expr) (Q : List PV → Prop) : Prop := w.Ok → ∀ m, It w.G w.c (s.at m) t i Q
@[irreducible] noncomputable def ExsT (w : WX) (s : AT) (st : List Stmt) (N : AT → Prop) (R : PV → Prop) (X : List (Str × PV) → Prop) : Prop := w.Ok → ∀ m, Exs w.G w.c (s.at m) st (fun a => N ⟨a.ρ, a.hc⟩) R X
@[irreducible] noncomputable def AsgT (w : WX) (s : AT) (t : Expr) (q : PV) (K : AT → Prop) : Prop := w.Ok → ∀ m, Asg w.G w.c (s.at m) t q fun a => K ⟨a.ρ, a.hc⟩
@[irreducible] noncomputable def AsgsT (w : WX) (s : AT) (t : List Expr) (q : List PV) (K : AT → Prop) : Prop := w.Ok → ∀ m, Asgs w.G w.c (s.at m) t q fun a => K ⟨a.ρ, a.hc⟩
@[irreducible] noncomputable def ForT (w : WX) (t : Expr) (b : List Stmt) (N : AT → Prop) (R : PV → Prop) (X : List (Str × PV) → Prop) (l : List PV) (s : AT) : Prop := w.Ok → ∀ m, ForR w.G w.c t b (fun a => N ⟨a.ρ, a.hc⟩) R X l (s.at m)
@[irreducible] noncomputable def CompT (w : WX) (ρ : List (Str × LV)) (t : Expr) (ts : List Expr) (e : Expr) (K : List PV → Prop) (l qs : List PV) : Prop := w.Ok → CompR w.G w.c ρ t ts e K l qs
@[irreducible] noncomputable def EvKT (w : WX) (s : AT) (e : Expr) (P : MK → Prop) : Prop := w.Ok → ∀ m, EvK w.G w.c (s.at m) e P
section
variable {w : WX} {s : AT} {m : Str → Option Value}
theorem EvT.i {e : Expr} {Q : PV → Prop} (h : w.Ok → ∀ m, Ev w.G w.c (s.at m) e Q) : EvT w s e Q := by unfold EvT; exact h
theorem EvT.e {e : Expr} {Q : PV → Prop} (h : EvT w s e Q) (hw : w.Ok) (m) : Ev w.G w.c (s.at m) e Q := by unfold EvT at h; exact h hw m
theorem EvsT.i {e : List Expr} {Q : List PV → Prop} (h : w.Ok → ∀ m, Evs w.G w.c (s.at m) e Q) : EvsT w s e Q := by unfold EvsT; exact h
theorem EvsT.e {e : List Expr} {Q : List PV → Prop} (h : EvsT w s e Q) (hw : w.Ok) (m) : Evs w.G w.c (s.at m) e Q := by unfold EvsT at h; exact h hw m
theorem EvbT.i {op : BoolOp} {e : List Expr} {Q : PV → Prop} (h : w.Ok → ∀ m, Evb w.G w.c (s.at m) op e Q) : EvbT w s op e Q := by unfold EvbT; exact h
theorem EvbT.e {op : BoolOp} {e : List Expr} {Q : PV → Prop} (h : EvbT w s op e Q) (hw : w.Ok) (m) : Evb w.G w.c (s.at m) op e Q := by unfold EvbT at h; exact h hw m
theorem TrT.i {e : Expr} {Q : Bool → Prop} (h : w.Ok → ∀ m, Tr w.G w.c (s.at m) e Q) : TrT w s e Q := by unfold TrT; exact h
theorem TrT.e {e : Expr} {Q : Bool → Prop} (h : TrT w s e Q) (hw : w.Ok) (m) : Tr w.G w.c (s.at m) e Q := by unfold TrT at h; exact h hw m
theorem TrsT.i {op : BoolOp} {e : List Expr} {Q : Bool → Prop} (h : w.Ok → ∀ m, Trs w.G w.c (s.at m) op e Q) : TrsT w s op e Q := by unfold TrsT; exact h
theorem TrsT.e {op : BoolOp} {e : List Expr} {Q : Bool → Prop} (h : TrsT w s op e Q) (hw : w.Ok) (m) : Trs w.G w.c (s.at m) op e Q := by unfold TrsT at h; exact h hw m
theorem Op2T.i {f : Value → Value → Sem Value} {a b : PV} {Q : PV → Prop} (h : w.Ok → ∀ m, Op2 w.G w.c (s.at m) f a b Q) : Op2T w s f a b Q := by unfold Op2T; exact h
theorem Op2T.e {f : Value → Value → Sem Value} {a b : PV} {Q : PV → Prop} (h : Op2T w s f a b Q) (hw : w.Ok) (m) : Op2 w.G w.c (s.at m) f a b Q := by unfold Op2T at h; exact h hw m
theorem SubT.i {v sl : Expr} {a b : PV} {Q : PV → Prop} (h : w.Ok → ∀ m, OpSub w.G w.c (s.at m) v sl a b Q) : SubT w s v sl a b Q := by unfold SubT; exact h
theorem SubT.e {v sl : Expr} {a b : PV} {Q : PV → Prop} (h : SubT w s v sl a b Q) (hw : w.Ok) (m) : OpSub w.G w.c (s.at m) v sl a b Q := by unfold SubT at h; exact h hw m
theorem OpLT.i {f : List Value → Sem Value} {as : List PV} {Q : PV → Prop} (h : w.Ok → ∀ m, OpL w.G w.c (s.at m) f as Q) : OpLT w s f as Q := by unfold OpLT; exact h
theorem OpLT.e {f : List Value → Sem Value} {as : List PV} {Q : PV → Prop} (h : OpLT w s f as Q) (hw : w.Ok) (m) : OpL w.G w.c (s.at m) f as Q := by unfold OpLT at h; exact h hw m
theorem ItT.i {t i : Expr} {Q : List PV → Prop} (h : w.Ok → ∀ m, It w.G w.c (s.at m) t i Q) : ItT w s t i Q := by unfold ItT; exact h
theorem ItT.e {t i : Expr} {Q : List PV → Prop} (h : ItT w s t i Q) (hw : w.Ok) (m) : It w.G w.c (s.at m) t i Q := by unfold ItT at h; exact h hw m
theorem ExsT.i {t : List Stmt} {N : AT → Prop} {R : PV → Prop} {X : List (Str × PV) → Prop} (h : w.Ok → ∀ m, Exs w.G w.c (s.at m) t (fun a => N ⟨a.ρ, a.hc⟩) R X) : ExsT w s t N R X := by unfold ExsT; exact h
theorem ExsT.e {t : List Stmt} {N : AT → Prop} {R : PV → Prop} {X : List (Str × PV) → Prop} (h : ExsT w s t N R X) (hw : w.Ok) (m) : Exs w.G w.c (s.at m) t (fun a => N ⟨a.ρ, a.hc⟩) R X := by unfold ExsT at h; exact h hw m
theorem AsgT.i {t : Expr} {q : PV} {K : AT → Prop} (h : w.Ok → ∀ m, Asg w.G w.c (s.at m) t q fun a => K ⟨a.ρ, a.hc⟩) : AsgT w s t q K := by unfold AsgT; exact h
theorem AsgT.e {t : Expr} {q : PV} {K : AT → Prop} (h : AsgT w s t q K) (hw : w.Ok) (m) : Asg w.G w.c (s.at m) t q fun a => K ⟨a.ρ, a.hc⟩ := by unfold AsgT at h; exact h hw m
theorem AsgsT.i {t : List Expr} {q : List PV} {K : AT → Prop} (h : w.Ok → ∀ m, Asgs w.G w.c (s.at m) t q fun a => K ⟨a.ρ, a.hc⟩) : AsgsT w s t q K := by unfold AsgsT; exact h
theorem AsgsT.e {t : List Expr} {q : List PV} {K : AT → Prop} (h : AsgsT w s t q K) (hw : w.Ok) (m) : Asgs w.G w.c (s.at m) t q fun a => K ⟨a.ρ, a.hc⟩ := by unfold AsgsT at h; exact h hw m
theorem ForT.i {t : Expr} {b : List Stmt} {N : AT → Prop} {R : PV → Prop} {X : List (Str × PV) → Prop} {l : List PV} (h : w.Ok → ∀ m, ForR w.G w.c t b (fun a => N ⟨a.ρ, a.hc⟩) R X l (s.at m)) : ForT w t b N R X l s := by unfold ForT; exact h
theorem ForT.e {t : Expr} {b : List Stmt} {N : AT → Prop} {R : PV → Prop} {X : List (Str × PV) → Prop} {l : List PV} (h : ForT w t b N R X l s) (hw : w.Ok) (m) : ForR w.G w.c t b (fun a => N ⟨a.ρ, a.hc⟩) R X l (s.at m) := by unfold ForT at h; exact h hw m
theorem CompT.i {ρ : List (Str × LV)} {t : Expr} {ts : List Expr} {e : Expr} {K : List PV → Prop} {l qs : List PV} (h : w.Ok → CompR w.G w.c ρ t ts e K l qs) : CompT w ρ t ts e K l qs := by unfold CompT; exact h
theorem CompT.e {ρ : List (Str × LV)} {t : Expr} {ts : List Expr} {e : Expr} {K : List PV → Prop} {l qs : List PV} (h : CompT w ρ t ts e K l qs) (hw : w.Ok) : CompR w.G w.c ρ t ts e K l qs := by unfold CompT at h; exact h hw
theorem EvKT.i {e : Expr} {P : MK → Prop} (h : w.Ok → ∀ m, EvK w.G w.c (s.at m) e P) : EvKT w s e P := by unfold EvKT; exact h
theorem EvKT.e {e : Expr} {P : MK → Prop} (h : EvKT w s e P) (hw : w.Ok) (m) : EvK w.G w.c (s.at m) e P := by unfold EvKT at h; exact h hw m
end
end
end
section
noncomputable section
variable {w : WX} {s : AT} {m : Str → Option Value}
section
variable {G : Gx} {c : Cx} {st : AS}
theorem Evs.mono {es : List Expr} {Q Q2 : List PV → Prop} (h : Evs G c st es Q) (k : ∀ q, Q q → Q2 q) : Evs G c st es Q2 := fun pos h1 tk S Q' E' z => h pos h1 tk S Q' E' fun v q h' tk' s' r hq => z v q h' tk' s' r (k q hq)
theorem ForR.mono {t : Expr} {b : List Stmt} {N N2 : AS → Prop} {R : PV → Prop} {X : List (Str × PV) → Prop} (k : ∀ a, N a → N2 a) : ∀ {l : List PV} {st : AS}, ForR G c t b N R X l st → ForR G c t b N2 R X l st
  | [], st, h => k st h
  | q :: l, st, h => Asg.mono h fun st1 h => Exs.mono h (fun st2 h => ForR.mono k h) (fun _ h => h) fun _ h => h
end
theorem ite_both {b : Bool} {A B A' B' : Prop} (h : if b = true then A else B) (ha : A → A') (hb : B → B') : if b = true then A' else B' := by
  cases b with
  | true => rw [if_pos rfl] at h ⊢; exact ha h
  | false => rw [if_neg (by decide)] at h ⊢; exact hb h
theorem cmpL_ok (hw : w.Ok) {f : Nat} {l : Expr} {ops : List CmpOp} {rs : List Expr} {pos : Pos} {v : PV} (h : cmpL (evalP w s.ρ f) l ops rs = some v) : ∃ op r a b, ops = [op] ∧ rs = [r] ∧ behindInMarks op r = false ∧ evalP w s.ρ f l = some a ∧ evalP w s.ρ f r = some b ∧ cmpP op a b = some v := by
  obtain ⟨op, r, rfl, rfl, h⟩ := cmpL_some h
  obtain ⟨h1, h⟩ := guard_ok h
  obtain ⟨a, b, e1, e2, h⟩ := with2_ok h
  exact ⟨op, r, a, b, rfl, rfl, by simpa using h1, e1, e2, h⟩
theorem testL_ok (hw : w.Ok) {g : Expr → Option Bool} (hg : ∀ e b, g e = some b → ∀ Q : Bool → Prop, Q b → Tr w.G w.c (s.at m) e Q) {op : BoolOp} : ∀ (es : List Expr) (b : Bool), testL g op es = some b → ∀ Q : Bool → Prop, Q b → Trs w.G w.c (s.at m) op es Q
  | [], b, h, Q, q => by
    cases h; exact Trs.nil q
  | e :: es, b, h, Q, q => by
    obtain ⟨t, e1, h2⟩ := with1_ok h
    cases op with
    | And => cases t with
      | true => exact Trs.and hw.O (hg e true e1 _ (by rw [if_pos rfl]; exact testL_ok hw hg es b h2 Q q))
      | false => cases h2; exact Trs.and hw.O (hg e false e1 _ (by rw [if_neg (by decide)]; exact q))
    | Or => cases t with
      | true => cases h2; exact Trs.or hw.O (hg e true e1 _ (by rw [if_pos rfl]; exact q))
      | false => exact Trs.or hw.O (hg e false e1 _ (by rw [if_neg (by decide)]; exact testL_ok hw hg es b h2 Q q))
theorem testP_ok (hw : w.Ok) : ∀ (f : Nat) (e : Expr) (b : Bool), testP w s.ρ f e = some b → ∀ Q : Bool → Prop, Q b → Tr w.G w.c (s.at m) e Q
  | 0, e, b, h, Q, q => no1 h
  | f + 1, e, b, h, Q, q => by
    cases e with
    | Compare l ops rs pos =>
      obtain ⟨v, e1, h2⟩ := with1_ok h
      obtain ⟨op, r, x, y, rfl, rfl, h3, e2, e3, h4⟩ := cmpL_ok (pos := pos) hw e1
      cases asBool_ok h2
      exact Tr.cmp hw.O (evalP_ok hw _ _ _ e2 _ (evalP_ok hw _ _ _ e3 _ (cmpP_ok hw h4 ⟨b, rfl, q⟩))) h3
    | UnaryOp op e pos => cases op with
      | Not =>
        obtain ⟨t, e1, h2⟩ := with1_ok h
        cases h2
        exact Tr.not hw.O (testP_ok hw f e t e1 _ q)
      | _ => exact no1 h
    | BoolOp op es pos => exact Tr.bool (testL_ok hw (testP_ok hw f) es b h Q q)
    | Name x pos =>
      obtain ⟨v, e1, h2⟩ := with1_ok h
      cases asBool_ok h2
      exact Tr.plain hw.O (nameP_ok hw e1 ⟨b, rfl, q⟩)
    | _ => exact no1 h
noncomputable def okFT (P : Params) : PV → Bool
  | .ty _ => true
  | .bi _ => true
  | .put _ => true
  | .lam _ => true
  | .adr a => keepIn (hp.heap_1 P) (.ref a)
  | _ => false
theorem okFT_ok (hw : w.Ok) {f : PV} (h : okFT w.G.w.params f = true) : okF w.G f = true := by
  cases f with
  | adr a => show keepIn w.G.K (.ref a) = true; rw [hw.k]; exact h
  | ty n => rfl
  | bi n => rfl
  | put p => rfl
  | lam p => rfl
  | _ => exact noF h
section
variable {Q : PV → Prop} {e v sl l r : Expr} {pos : Pos}
theorem EvT.val {q : PV} (h : evalP w s.ρ fuel e = some q) (k : Q q) : EvT w s e Q := .i fun hw m => evalP_ok hw fuel e q h Q k
theorem EvT.mono {Q2 : PV → Prop} (h : EvT w s e Q) (k : ∀ q, Q q → Q2 q) : EvT w s e Q2 := .i fun hw m => (h.e hw m).mono k
theorem EvT.eq (q : PV) (h : EvT w s e fun t => t = q) (k : Q q) : EvT w s e Q := .i fun hw m => Ev.eq q (h.e hw m) k
theorem EvT.sub (h : EvT w s v fun a => EvT w s sl fun b => SubT w s v sl a b Q) : EvT w s (.Subscript v sl pos) Q := .i fun hw m => Ev.sub hw.O ((h.e hw m).mono fun a h => (h.e hw m).mono fun b h => h.e hw m)
theorem EvT.tup {as : List Expr} {k : Nat} (h : EvsT w s as fun qs => qs.length ≤ 16777216 ∧ Q (.tup qs)) : EvT w s (.Tuple as k pos) Q := .i fun hw m => Ev.tup hw.O (h.e hw m)
theorem EvT.lst {as : List Expr} (h : EvsT w s as fun qs => qs.length ≤ 16777216 ∧ Q (.lst qs)) : EvT w s (.List as pos) Q := .i fun hw m => Ev.lst hw.O (h.e hw m)
theorem EvT.ifexp {t b o : Expr} (h : TrT w s t fun x => if x = true then EvT w s b Q else EvT w s o Q) : EvT w s (.IfExp t b o pos) Q := .i fun hw m =>
  Ev.ifexp hw.O ((h.e hw m).mono fun x h => ite_both h (fun h => h.e hw m) fun h => h.e hw m)
theorem EvT.ifT {t b o : Expr} (h : testP w s.ρ fuel t = some true) (k : EvT w s b Q) : EvT w s (.IfExp t b o pos) Q := .i fun hw m =>
  Ev.ifexp hw.O (testP_ok hw fuel t true h _ (by rw [if_pos rfl]; exact k.e hw m))
theorem EvT.ifF {t b o : Expr} (h : testP w s.ρ fuel t = some false) (k : EvT w s o Q) : EvT w s (.IfExp t b o pos) Q := .i fun hw m =>
  Ev.ifexp hw.O (testP_ok hw fuel t false h _ (by rw [if_neg (by decide)]; exact k.e hw m))
theorem EvT.bin {op : Operator} (h : EvT w s l fun a => EvT w s r fun b => Op2T w s (binaryOp op) a b Q) : EvT w s (.BinOp l op r pos) Q := .i fun hw m => Ev.bin hw.O ((h.e hw m).mono fun a h => (h.e hw m).mono fun b h => h.e hw m)
theorem EvT.cmp {op : CmpOp} (h : EvT w s l fun a => EvT w s r fun b => Op2T w s (compareOp op) a b Q) (hm : autoParam (behindInMarks op r = false) aRfl) : EvT w s (.Compare l [op] [r] pos) Q := .i fun hw m => Ev.cmp hw.O ((h.e hw m).mono fun a h => (h.e hw m).mono fun b h => h.e hw m) hm
theorem EvT.boolop {op : BoolOp} {es : List Expr} (h : EvbT w s op es Q) : EvT w s (.BoolOp op es pos) Q := .i fun hw m => Ev.boolop (h.e hw m)
theorem EvT.call {x : Str} {p : Pos} {as : List Expr} {f : PV} (hf : evalP w s.ρ fuel (.Name x p) = some f) (hk : okFT w.G.w.params f = true) (h : EvsT w s as fun qs => OpLT w s callL (f :: qs) Q) (hp : autoParam ((backTo pos (starEach as w.c.env)).any (·.1) = false) aRfl) : EvT w s (.Call (.Name x p) as [] pos) Q := .i fun hw m =>
  Ev.call hw.O (evalP_ok hw fuel _ f hf _ ⟨okFT_ok hw hk, (EvsT.e h hw m).mono fun qs h => h.e hw m⟩) hp
end
end
end
section
noncomputable section
variable {w : WX} {s : AT} {m : Str → Option Value}
noncomputable def WX.hide (w : WX) (wr : List Addr) : WX := ⟨w.G, withHid w.c wr, w.n⟩
structure CP where
  m : Str → Option Value
  C : Addr
  H : Addr → Prop
noncomputable def WX.comp (w : WX) (s : AT) (scope : Scope) (p : CP) : WX := ⟨w.G, ccx w.c (s.at p.m) scope p.C p.H, w.n⟩
theorem WX.Ok.hide (hw : w.Ok) {wr : List Addr} (O : Cx.Ok w.G (withHid w.c wr)) : (w.hide wr).Ok := ⟨O, hw.r, hw.k⟩
theorem WX.Ok.comp (hw : w.Ok) {scope : Scope} {p : CP} (O : Cx.Ok w.G (ccx w.c (s.at p.m) scope p.C p.H)) : (w.comp s scope p).Ok := ⟨O, hw.r, hw.k⟩
section
variable {Q : PV → Prop} {e v sl l r : Expr} {pos : Pos}
theorem EvT.comp {target iter elt : Expr} {tests : List Expr} {scope : Scope}
    (hI : ItT w s target iter fun l => l.length ≤ 16777216 ∧ ∀ p, CompT (w.comp s scope p) (ρfree scope s.ρ) target tests elt (fun qs => Q (.lst qs)) l [])
    (hk : autoParam (scope.kind = .function) aRfl) (hok : autoParam (compOk scope w.c.env = true) aRfl) (hs : autoParam (∀ x, foldedSetIterable iter w.c.env x = pure x) aIRfl) : EvT w s (.ListComp elt [⟨target, iter, tests, 0⟩] scope pos) Q := .i fun hw m =>
  Ev.comp hw.O (fun h tk S Q' E' z => hI.e hw m h tk S Q' E' fun I wr l Sg Md h' tk' a b d e f hq => z I wr l Sg Md h' tk' a b d e f ⟨hq.1, fun C H O => (hq.2 ⟨m, C, H⟩).e (hw.comp O)⟩) hk hok hs hw.r.2.2
theorem EvT.upto {value upper : Expr} {sp : Pos} (h : EvT w s value fun a => ∃ l, a = .lst l ∧ l.length ≤ 16777216 ∧ EvT w s upper fun b => ∃ k : Nat, b = .int k ∧ k ≤ l.length ∧ Q (.lst (l.take k))) : EvT w s (.Subscript value (.Slice none (some upper) none sp) pos) Q := .i fun hw m =>
  Ev.upto hw.O ((h.e hw m).mono fun a ⟨l, e1, e2, h⟩ => ⟨l, e1, e2, h.e hw m⟩)
theorem EvT.dict1 {x : Str} {k : Nat} {p1 : Pos} (h : ∀ wr, EvT (w.hide wr) s e fun q => Q (.dct [(x, q)])) : EvT w s (.Dict [some (.Constant (.str x) k p1)] [e] pos) Q := .i fun hw m =>
  Ev.dict1 hw.O (bigH hw.k hw.O) fun wr O => (h wr).e (hw.hide O) m
theorem EvT.dictzip {d zz : Str} {dp zp p1 p2 : Pos} {e1 e2 : Expr} (hx : evalP w s.ρ fuel (.Name d dp) = some (.ty "dict")) (hz : evalP w s.ρ fuel (.Name zz zp) = some (.ty "zip"))
    (h : EvsT w s [e1, e2] fun qs => ∃ a b l1 l2 ps, qs = [a, b] ∧ SeqP a l1 ∧ SeqP b l2 ∧ ZPV l1 l2 ps ∧ ps.length ≤ 16777216 ∧ Q (.dct (putAll [] ps)))
    (h1 : autoParam (((backTo p2 (starEach [e1, e2] w.c.env)).any fun x => x.1) = false) aRfl) (h2 : autoParam (starEach [.Call (.Name zz zp) [e1, e2] [] p2] w.c.env = [(false, eval (.Call (.Name zz zp) [e1, e2] [] p2) w.c.env)]) aRfl) :
    EvT w s (.Call (.Name d dp) [.Call (.Name zz zp) [e1, e2] [] p2] [] p1) Q := .i fun hw m =>
  Ev.dictzip hw.O (bigH hw.k hw.O) (evalP_ok hw fuel _ _ hx _ rfl) (evalP_ok hw fuel _ _ hz _ rfl) (h.e hw m) h1 h2 hw.r.2.2
theorem EvT.meth {o e : Expr} {rest : List Expr} {x : Str} {apos pos : Pos} {T id : String} {Q : PV → Prop} (pa : PlainAttrs T) (slot : Slot T x id) (hty : typeOf (.builtin id) = pure (.type "method_descriptor"))
    (h : EvT w s o fun a => a.tyIs = some T ∧ EvsT w s (e :: rest) fun qs => OpLT w s (callB id) (a :: qs) Q) {pl : Sem Bool}
    (he : autoParam (eval (.Call (.Attribute o x apos) (e :: rest) [] pos) w.c.env = (do
      let ov ← eval o w.c.env
      standAt apos.atName
      let (f, first) ← holding [ov] (getMethod ov x pl)
      callWith pos f first (backTo pos (starEach (e :: rest) w.c.env)) [])) aRfl) (h1 : autoParam (starEach (e :: rest) w.c.env = (false, eval e w.c.env) :: starEach rest w.c.env) aRfl)
    (hp : autoParam ((backTo pos (starEach rest w.c.env)).any (·.1) = false) aRfl) : EvT w s (.Call (.Attribute o x apos) (e :: rest) [] pos) Q := .i fun hw m =>
  Ev.meth hw.O pa slot hty ((h.e hw m).mono fun a ⟨h2, h3⟩ => ⟨h2, (EvsT.e h3 hw m).mono fun qs h => h.e hw m⟩) he h1 hp
theorem EvT.attr {x : Str} (h : EvT w s e fun q => ∃ C l v, q = .ins C l ∧ l.lookup x = some v ∧ attrOk w.K C x = true ∧ v.noBi = true ∧ Q v)
    (he : autoParam (eval (.Attribute e x pos) w.c.env = (do
      let o ← eval e w.c.env
      standAt pos.atName
      let r ← holding [o] (getAttr o x true)
      letTemporaryGo e o r
      pure r)) aRfl) : EvT w s (.Attribute e x pos) Q := .i fun hw m => Ev.attr hw.O ((h.e hw m).mono fun q ⟨C, l, v, a, b, c, d⟩ => ⟨C, l, v, a, b, by rw [hw.k]; exact c, d⟩) he
end
theorem EvsT.val {es : List Expr} {qs : List PV} {Q : List PV → Prop} (hs : es.all notStarE = true) (h : evalL (evalP w s.ρ fuel) es = some qs) (q : Q qs) : EvsT w s es Q := .i fun hw m => evalL_ok hw (evalP_ok hw fuel) es qs hs h Q q
theorem EvsT.nil {Q : List PV → Prop} (q : Q []) : EvsT w s [] Q := .i fun hw m => Evs.nil q
theorem EvsT.cons {e : Expr} {es : List Expr} {Q : List PV → Prop} (hs : notStarE e = true) (h : EvT w s e fun a => EvsT w s es fun as => Q (a :: as)) : EvsT w s (e :: es) Q := .i fun hw m => Evs.cons hw.O ((h.e hw m).mono fun a h => h.e hw m) (starEach_cons hs _ _)
theorem EvbT.one {op : BoolOp} {e : Expr} {Q : PV → Prop} (h : EvT w s e Q) : EvbT w s op [e] Q := .i fun hw m => Evb.one (h.e hw m)
theorem EvbT.cons {op : BoolOp} {e e2 : Expr} {es : List Expr} {Q : PV → Prop} (h : EvT w s e fun q => ∃ t, q = .bool t ∧ if t = (op == .Or) then Q (.bool t) else EvbT w s op (e2 :: es) Q) : EvbT w s op (e :: e2 :: es) Q := .i fun hw m =>
  Evb.cons hw.O ((h.e hw m).mono fun q ⟨t, e, h⟩ => ⟨t, e, by
    by_cases z : t = (op == .Or)
    · rw [if_pos z] at h ⊢; exact h
    · rw [if_neg z] at h ⊢; exact h.e hw m⟩)
section
variable {Q : Bool → Prop} {e l r : Expr} {pos : Pos}
theorem TrT.val {b : Bool} (h : testP w s.ρ fuel e = some b) (q : Q b) : TrT w s e Q := .i fun hw m => testP_ok hw fuel e b h Q q
theorem TrT.mono {Q2 : Bool → Prop} (h : TrT w s e Q) (k : ∀ b, Q b → Q2 b) : TrT w s e Q2 := .i fun hw m => (h.e hw m).mono k
theorem TrT.eq (b : Bool) (h : TrT w s e fun t => t = b) (q : Q b) : TrT w s e Q := .i fun hw m => Tr.eq b (h.e hw m) q
theorem TrT.cmp {op : CmpOp} (h : EvT w s l fun a => EvT w s r fun b => Op2T w s (compareOp op) a b fun q => ∃ t, q = .bool t ∧ Q t) (hm : autoParam (behindInMarks op r = false) aRfl) : TrT w s (.Compare l [op] [r] pos) Q := .i fun hw m =>
  Tr.cmp hw.O ((h.e hw m).mono fun a h => (h.e hw m).mono fun b h => h.e hw m) hm
theorem TrT.not (h : TrT w s e fun t => Q (!t)) : TrT w s (.UnaryOp .Not e pos) Q := .i fun hw m => Tr.not hw.O (h.e hw m)
theorem TrT.bool {op : BoolOp} {es : List Expr} (h : TrsT w s op es Q) : TrT w s (.BoolOp op es pos) Q := .i fun hw m => Tr.bool (h.e hw m)
theorem TrT.plain (h : EvT w s e fun q => ∃ t, q = .bool t ∧ Q t) (he : autoParam (∀ whole : Sem Value, isTrue e w.c.env whole = (do let v ← whole; standAt e.pos; holding [v] (truthy v))) aIRfl) : TrT w s e Q := .i fun hw m => Tr.plain hw.O (h.e hw m) he
theorem TrsT.nil {op : BoolOp} (q : Q (op == .And)) : TrsT w s op [] Q := .i fun hw m => Trs.nil q
theorem TrsT.and {es : List Expr} (h : TrT w s e fun t => if t = true then TrsT w s .And es Q else Q false) : TrsT w s .And (e :: es) Q := .i fun hw m => Trs.and hw.O ((h.e hw m).mono fun t h => ite_both h (fun h => h.e hw m) fun h => h)
theorem TrsT.or {es : List Expr} (h : TrT w s e fun t => if t = true then Q true else TrsT w s .Or es Q) : TrsT w s .Or (e :: es) Q := .i fun hw m => Trs.or hw.O ((h.e hw m).mono fun t h => ite_both h (fun h => h) fun h => h.e hw m)
end
section
variable {Q : PV → Prop}
theorem SubT.val {v sl : Expr} {a b q : PV} (h : subP sl a b = some q) (k : Q q) : SubT w s v sl a b Q := .i fun hw m => subP_ok h k
theorem SubT.lst {v sl : Expr} {l : List PV} {k : Int} {q : PV} (hi : idxE sl = true) (h0 : 0 ≤ k) (hl : l.length ≤ 16777216) (hx : l[k.toNat]? = some q) (hq : Q q) : SubT w s v sl (.lst l) (.int k) Q := .i fun hw m => sub_lst h0 hl hx hq (fun _ _ => idxE_ok hi _ _)
theorem SubT.tup {v sl : Expr} {l : List PV} {k : Int} {q : PV} (hi : idxE sl = true) (h0 : 0 ≤ k) (hl : l.length ≤ 16777216) (hx : l[k.toNat]? = some q) (hq : Q q) : SubT w s v sl (.tup l) (.int k) Q := .i fun hw m => sub_tup h0 hl hx hq (fun _ _ => idxE_ok hi _ _)
theorem SubT.dct {v sl : Expr} {l : List (Str × PV)} {x : Str} {q : PV} (hi : idxE sl = true) (hx : l.lookup x = some q) (hq : Q q) : SubT w s v sl (.dct l) (.str x) Q := .i fun hw m => sub_dct hx hq (fun _ _ => idxE_ok hi _ _)
theorem Op2T.bin {op : Operator} {a b q : PV} (h : binP op a b = some q) (k : Q q) : Op2T w s (binaryOp op) a b Q := .i fun hw m => binP_ok hw h k
theorem Op2T.cmp {op : CmpOp} {a b q : PV} (h : cmpP op a b = some q) (k : Q q) : Op2T w s (compareOp op) a b Q := .i fun hw m => cmpP_ok hw h k
theorem Op2T.add_str {a b : Str} (hl : a.length + b.length ≤ 16777216) (q : Q (.str (a ++ b))) : Op2T w s (binaryOp .Add) (.str a) (.str b) Q := .i fun hw m => op_add_str hl q
theorem Op2T.add_lst {a b : List PV} (hl : a.length + b.length ≤ 16777216) (q : Q (.lst (a ++ b))) : Op2T w s (binaryOp .Add) (.lst a) (.lst b) Q := .i fun hw m => op_add_lst hw.O hl q
theorem Op2T.add_tup {a b : List PV} (hl : a.length + b.length ≤ 16777216) (q : Q (.tup (a ++ b))) : Op2T w s (binaryOp .Add) (.tup a) (.tup b) Q := .i fun hw m => op_add_tup hw.O hl q
theorem Op2T.mul_lst {l : List PV} {k : Nat} (h0 : l ≠ []) (h1 : k ≤ 100) (h2 : l.length ≤ 1000) (q : Q (.lst (List.replicate k l).flatten)) : Op2T w s (binaryOp .Mult) (.lst l) (.int k) Q := .i fun hw m => op_mul_lst hw.O h0 h1 h2 q
theorem Op2T.eq {a b : PV} (ha : a.ok = true) (hb : b.ok = true) (q : Q (.bool (PyData.eqv a.d b.d))) : Op2T w s (compareOp .Eq) a b Q := .i fun hw m => op_eq hw.r ha hb q
theorem Op2T.ne {a b : PV} (ha : a.ok = true) (hb : b.ok = true) (q : Q (.bool (!PyData.eqv a.d b.d))) : Op2T w s (compareOp .NotEq) a b Q := .i fun hw m => op_ne hw.r ha hb q
theorem Op2T.notIn_lst {x : PV} {l : List PV} (hx : x.ok = true) (hl : (PV.lst l).ok = true) (q : Q (.bool (!(PV.ds l).any fun y => y.eqv x.d))) : Op2T w s (compareOp .NotIn) x (.lst l) Q := .i fun hw m => op_notIn_lst hw.r hx hl q
theorem Op2T.in_tup {x : PV} {l : List PV} (hx : x.ok = true) (hl : (PV.tup l).ok = true) (q : Q (.bool ((PV.ds l).any fun y => y.eqv x.d))) : Op2T w s (compareOp .In) x (.tup l) Q := .i fun hw m => op_in_tup hw.r hx hl q
theorem OpLT.fn {f : PV} {qs : List PV} {k : Nat} {P : PV → Prop} (h : Fn w.G f qs k P) (hn : k ≤ w.n) (q : ∀ r, P r → Q r) : OpLT w s callL (f :: qs) Q := .i fun hw m => OpL.fn hw.O h (hw.r.le hn) q
theorem OpLT.fnE {f : PV} {qs : List PV} {k : Nat} {v : PV} (h : Fn w.G f qs k fun r => r = v) (hn : k ≤ w.n) (q : Q v) : OpLT w s callL (f :: qs) Q := .i fun hw m => OpL.fn hw.O h (hw.r.le hn) fun r e => e ▸ q
theorem OpLT.rng {n : Int} (q : Q (.rng n)) : OpLT w s callL [.ty "range", .int n] Q := .i fun hw m => OpL.range hw.O q
theorem OpLT.len_lst {l : List PV} (hl : l.length ≤ 16777216) (q : Q (.int l.length)) : OpLT w s callL [.bi "len", .lst l] Q := .i fun hw m => call_len_lst hw.O hl q
theorem OpLT.len_tup {l : List PV} (hl : l.length ≤ 16777216) (q : Q (.int l.length)) : OpLT w s callL [.bi "len", .tup l] Q := .i fun hw m => call_len_tup hw.O hl q
theorem OpLT.len_raw {l : List Int} (hl : l.length ≤ 16777216) (q : Q (.int l.length)) : OpLT w s callL [.bi "len", .raw l] Q := .i fun hw m => call_len_raw hw.O hl q
theorem OpLT.tup_lst {l : List PV} (hl : l.length ≤ 16777216) (q : Q (.tup l)) : OpLT w s callL [.ty "tuple", .lst l] Q := .i fun hw m => call_tuple_lst hw.O hl q
theorem OpLT.tup_tup {l : List PV} (q : Q (.tup l)) : OpLT w s callL [.ty "tuple", .tup l] Q := .i fun hw m => call_tuple_tup' hw.O q
theorem OpLT.lst_tup {l : List PV} (hl : l.length ≤ 16777216) (q : Q (.lst l)) : OpLT w s callL [.ty "list", .tup l] Q := .i fun hw m => call_list_tup hw.O hl q
theorem OpLT.int_b {b : Bool} (q : Q (.int (if b then 1 else 0))) : OpLT w s callL [.ty "int", .bool b] Q := .i fun hw m => call_int_b q
theorem OpLT.isi_str {x : Str} (q : Q (.bool true)) : OpLT w s callL [.bi "isinstance", .str x, .ty "str"] Q := .i fun hw m => call_isi_str q
theorem OpLT.max {a b : Int} (q : Q (.int (if b > a then b else a))) : OpLT w s callL [.bi "max", .int a, .int b] Q := .i fun hw m => call_max hw.O hw.r.2.2 q
theorem OpLT.dict {l : List PV} {ps : List (Str × PV)} (hp : PrP l ps) (hl : l.length ≤ 16777216) (q : Q (.dct (putAll [] ps))) : OpLT w s callL [.ty "dict", .lst l] Q := .i fun hw m => call_dict_lst hw.O hp hl (bigH hw.k hw.O) hw.r.2.2 q
theorem OpLT.sorted {l : List (Str × PV)} (hn : (l.map fun x => x.1).Nodup) (hl : l.length < 64) (q : ∀ ss : List Str, ss.Perm (l.map fun x => x.1) → Q (.lst (ss.map PV.str))) : OpLT w s callL [.bi "sorted", .dct l] Q := .i fun hw m => call_sorted_dct hw.O hn hl hw.r.2.2 q
theorem OpLT.dget {l : List (Str × PV)} {x : Str} {d : PV} (q : Q ((l.lookup x).getD d)) : OpLT w s (callB "dict.get") [.dct l, .str x, d] Q := .i fun hw m => meth_dget q
theorem OpLT.count {ys : List Str} {k : Str} (q : Q (.int (PySem.Spec.countIn (.str k) (ys.map PyData.str)))) : OpLT w s (callB "list.count") [.lst (ys.map PV.str), .str k] Q := .i fun hw m => meth_count q
theorem OpLT.join {sep : Str} {ys : List Str} (hl : (ys.map fun x => x.length).sum + ys.length * sep.length ≤ 16777216) (q : Q (.str (Txt.join sep ys))) : OpLT w s (callB "str.join") [.str sep, .lst (ys.map PV.str)] Q := .i fun hw m => meth_join hl q
theorem OpLT.adt {a0 a1 a2 a3 a4 : PV} (q : Q (.ins 209 [(Str.ofString "path", a0), (Str.ofString "module", .str (Str.ofString "")), (Str.ofString "regions", a1), (Str.ofString "params", a2), (Str.ofString "variants", a3), (Str.ofString "publics", .adr 198), (Str.ofString "is_enum", a4)])) : OpLT w s callL [.adr 209, a0, a1, a2, a3, a4] Q := .i fun hw m => c_adt hw.k hw.O hw.r q
theorem OpLT.ren {a0 : PV} (q : Q (.ins 174 [(Str.ofString "known", a0), (Str.ofString "found", .dct [])])) : OpLT w s callL [.adr 174, a0] Q := .i fun hw m => c_ren hw.k hw.O hw.r q
theorem OpLT.sig {a0 a1 a2 a3 a4 a5 a6 a7 : PV} (q : Q (.ins 230 [(Str.ofString "path", a0), (Str.ofString "regions", a1), (Str.ofString "params", a2), (Str.ofString "own", a3), (Str.ofString "inputs", a4), (Str.ofString "output", a5), (Str.ofString "self_kind", a6), (Str.ofString "has_body", a7)])) : OpLT w s callL [.adr 230, a0, a1, a2, a3, a4, a5, a6, a7] Q := .i fun hw m => c_sig hw.k hw.O hw.r q
theorem OpLT.trait {a0 a1 a2 a3 : PV} (q : Q (.ins 251 [(Str.ofString "path", a0), (Str.ofString "params", a1), (Str.ofString "methods", a2), (Str.ofString "defaults", a3)])) : OpLT w s callL [.adr 251, a0, a1, a2, a3] Q := .i fun hw m => c_trait hw.k hw.O hw.r q
theorem OpLT.impl {a0 a1 a2 a3 a4 a5 a6 a7 : PV} (q : Q (.ins 273 [(Str.ofString "number", a0), (Str.ofString "regions", a1), (Str.ofString "params", a2), (Str.ofString "trait", a3), (Str.ofString "trait_args", a4), (Str.ofString "self_type", a5), (Str.ofString "methods", a6), (Str.ofString "spot", a7)])) : OpLT w s callL [.adr 273, a0, a1, a2, a3, a4, a5, a6, a7] Q := .i fun hw m => c_impl hw.k hw.O hw.r q
end
end
end
section
noncomputable section
variable {w : WX} {s : AT} {m : Str → Option Value}
theorem It.mono {G : Gx} {c : Cx} {st : AS} {t i : Expr} {Q Q2 : List PV → Prop} (h : It G c st t i Q) (k : ∀ l, Q l → Q2 l) : It G c st t i Q2 := fun h1 tk S Q' E' z => h h1 tk S Q' E' fun I wr l Sg Md h' tk' a b d e f hq => z I wr l Sg Md h' tk' a b d e f (k l hq)
section
variable {Q : List PV → Prop} {t i : Expr}
theorem ItT.rng (h : EvT w s i fun q => ∃ n : Nat, q = .rng n ∧ n ≤ 16777216 ∧ Q ((List.range n).map fun (i : Nat) => PV.int i)) : ItT w s t i Q := .i fun hw m => It.rng hw.O (h.e hw m) hw.r.2.2
theorem ItT.seq (h : EvT w s i fun q => ∃ l, (q = .lst l ∨ q = .tup l) ∧ Q l) : ItT w s t i Q := .i fun hw m => It.seq hw.O (h.e hw m) hw.r.2.2
theorem ItT.lstV {l : List PV} (h : evalP w s.ρ fuel i = some (.lst l)) (q : Q l) : ItT w s t i Q := .i fun hw m => It.seq hw.O (evalP_ok hw fuel i _ h _ ⟨l, .inl rfl, q⟩) hw.r.2.2
theorem ItT.tupV {l : List PV} (h : evalP w s.ρ fuel i = some (.tup l)) (q : Q l) : ItT w s t i Q := .i fun hw m => It.seq hw.O (evalP_ok hw fuel i _ h _ ⟨l, .inr rfl, q⟩) hw.r.2.2
theorem ItT.keysV {l : List (Str × PV)} (h : evalP w s.ρ fuel i = some (.dct l)) (hn : (l.map fun x => x.1).Nodup) (q : Q (l.map fun p => .str p.1)) : ItT w s t i Q := .i fun hw m => It.keys hw.O (evalP_ok hw fuel i _ h _ ⟨l, rfl, hn, q⟩) hw.r.2.2
theorem ItT.enumV {elts : List Expr} {kk : Nat} {tpos : Pos} {x : Str} {xp pos : Pos} {e : Expr} {l : List PV} (hx : evalP w s.ρ fuel (.Name x xp) = some (.ty "enumerate")) (h : evalP w s.ρ fuel e = some (.lst l)) (hs : notStarE e = true) (q : Q (numbered l)) (hp : autoParam ((backTo pos (starEach [e] w.c.env)).any (·.1) = false) aRfl) :
    ItT w s (.Tuple elts kk tpos) (.Call (.Name x xp) [e] [] pos) Q := .i fun hw m => It.enum hw.O (evalP_ok hw fuel _ _ hx _ rfl) (Evs.cons hw.O (evalP_ok hw fuel e _ h _ (Evs.nil ⟨l, rfl, q⟩)) (starEach_cons hs _ _)) hp hw.r.2.2
theorem ItT.enum0V {elts : List Expr} {kk : Nat} {tpos : Pos} {x : Str} {xp pos : Pos} {e : Expr} (hx : evalP w s.ρ fuel (.Name x xp) = some (.ty "enumerate")) (h : evalP w s.ρ fuel e = some (.tup [])) (hs : notStarE e = true) (q : Q []) (hp : autoParam ((backTo pos (starEach [e] w.c.env)).any (·.1) = false) aRfl) :
    ItT w s (.Tuple elts kk tpos) (.Call (.Name x xp) [e] [] pos) Q := .i fun hw m => It.enum0 hw.O (evalP_ok hw fuel _ _ hx _ rfl) (Evs.cons hw.O (evalP_ok hw fuel e _ h _ (Evs.nil ⟨rfl, q⟩)) (starEach_cons hs _ _)) hp hw.r.2.2
theorem ItT.zip {elts : List Expr} {kk : Nat} {tpos : Pos} {x : Str} {xp pos : Pos} {e1 e2 : Expr} (hx : evalP w s.ρ fuel (.Name x xp) = some (.ty "zip")) (h : EvsT w s [e1, e2] fun qs => ∃ a b l1 l2, qs = [a, b] ∧ SeqP a l1 ∧ SeqP b l2 ∧ Q (zipped l1 l2))
    (hp : autoParam ((backTo pos (starEach [e1, e2] w.c.env)).any (·.1) = false) aRfl) : ItT w s (.Tuple elts kk tpos) (.Call (.Name x xp) [e1, e2] [] pos) Q := .i fun hw m => It.zip hw.O (evalP_ok hw fuel _ _ hx _ rfl) (h.e hw m) hp
end
noncomputable def StoresT (w : WX) (s : AT) (x : Str) : Prop := Stores w.c (s.at fun _ => none) x
theorem AsgT.name {x : Str} {xp : Pos} {q : PV} {K : AT → Prop} (hx : StoresT w s x) (k : K (s.set x q)) : AsgT w s (.Name x xp) q K := .i fun hw m => Asg.name hw.O hx fun m' => k
theorem AsgT.tup {ts : List Expr} {kk : Nat} {pos : Pos} {qs : List PV} {K : AT → Prop} (k : AsgsT w s ts qs K) (hn : autoParam ((assignEach ts w.c.env).length = qs.length) aRfl) (hstar : autoParam ((assignEach ts w.c.env).findIdx? (·.1) = none) aRfl) : AsgT w s (.Tuple ts kk pos) (.tup qs) K := .i fun hw m => Asg.tup hw.O (k.e hw m) hn hstar hw.r.2.2
theorem AsgsT.nil {K : AT → Prop} (k : K s) : AsgsT w s [] [] K := .i fun hw m => Asgs.nil k
theorem AsgsT.name {x : Str} {xp : Pos} {ts : List Expr} {q : PV} {qs : List PV} {K : AT → Prop} (hx : StoresT w s x) (k : AsgsT w (s.set x q) ts qs K) (he : autoParam (assignEach (.Name x xp :: ts) w.c.env = (false, assign (.Name x xp) w.c.env) :: assignEach ts w.c.env) aRfl) : AsgsT w s (.Name x xp :: ts) (q :: qs) K := .i fun hw m =>
  Asgs.cons hw.O (Asg.name hw.O hx fun m' => k.e hw m') he
noncomputable def LessT (s0 s : AT) : Prop := s0.hc = s.hc ∧ ∀ x q, s0.ρ.lookup x = some q → s.ρ.lookup x = some q
theorem LessT.refl (s : AT) : LessT s s := ⟨rfl, fun _ _ e => e⟩
theorem LessT.at {s0 s : AT} (h : LessT s0 s) (m) : Less (s0.at m) (s.at m) := ⟨rfl, h.1, h.2⟩
theorem lookup_inT {β : Type} {y : Str} {q : β} : ∀ {l : List (Str × β)}, l.lookup y = some q → ∃ p ∈ l, p.1 = y
  | [], e => by cases e
  | p :: l, e => by
    rw [List.lookup_cons] at e
    by_cases h : (y == p.1) = true
    · exact ⟨p, .head _, (beq_iff_eq.mp h).symm⟩
    · rw [Bool.eq_false_iff.mpr h] at e
      obtain ⟨r, hr, er⟩ := lookup_inT e
      exact ⟨r, .tail _ hr, er⟩
theorem LessT.top {ρ1 : List (Str × LV)} {hc : List Addr} (top top' : List (Str × LV)) (h1 : ∀ p ∈ top', top.lookup p.1 = top'.lookup p.1) (h2 : ∀ p ∈ top, (top'.lookup p.1).isSome = true ∨ ρ1.lookup p.1 = none) : LessT ⟨top' ++ ρ1, hc⟩ ⟨top ++ ρ1, hc⟩ := ⟨rfl, fun y q ey => by
  have ey : (top' ++ ρ1).lookup y = some q := ey
  show (top ++ ρ1).lookup y = some q
  rw [List.lookup_append] at ey ⊢
  cases e1 : top'.lookup y with
  | some q' =>
    obtain ⟨p, hp, rfl⟩ := lookup_inT e1
    rw [e1] at ey
    rw [h1 p hp, e1]; exact ey
  | none =>
    rw [e1, Option.none_or] at ey
    cases e2 : top.lookup y with
    | none => rw [Option.none_or]; exact ey
    | some q2 =>
      obtain ⟨p, hp, rfl⟩ := lookup_inT e2
      rcases h2 p hp with h | h
      · rw [e1] at h; cases h
      · exact clash h ey⟩
noncomputable def lessB (top top' : List (Str × LV)) (ρ1 : List (Str × LV)) : Bool := top.all fun p => (top'.lookup p.1).isSome || (ρ1.lookup p.1).isNone
theorem CompR.mono {G : Gx} {c : Cx} {ρ : List (Str × LV)} {t : Expr} {ts : List Expr} {e : Expr} {K K2 : List PV → Prop} (k : ∀ l, K l → K2 l) : ∀ {l qs : List PV}, CompR G c ρ t ts e K l qs → CompR G c ρ t ts e K2 l qs
  | [], qs, h => k qs h
  | q :: l, qs, h => fun m => (h m).mono fun st h => Tsts.mono h fun b h => ite_both h (fun h => h.mono fun r h => CompR.mono k h) fun h => CompR.mono k h
section
variable {N : AT → Prop} {R : PV → Prop} {X : List (Str × PV) → Prop} {rest b : List Stmt} {t : Expr}
theorem ExsT.lessen {s0 : AT} (l : LessT s0 s) (h : ExsT w s0 rest N R X) : ExsT w s rest N R X := .i fun hw m => Exs.lessen (l.at m) (h.e hw m)
theorem ForT.nil (k : N s) : ForT w t b N R X [] s := .i fun hw m => k
theorem ForT.cons {q : PV} {l : List PV} (k : AsgT w s t q fun s1 => ExsT w s1 b (fun s2 => ForT w t b N R X l s2) R X) : ForT w t b N R X (q :: l) s := .i fun hw m =>
  ForR.cons ((k.e hw m).mono fun st1 h => (h.e hw st1.m).mono (fun st2 h => h.e hw st2.m) (fun _ h => h) fun _ h => h)
theorem ForT.loop {w0 : WX} {P : List PV → AT → Prop} (hi : ∀ q l s, P (q :: l) s → AsgT w s t q fun s1 => ExsT w s1 b (fun s2 => ∃ s3, LessT s3 s2 ∧ P l s3) R X) (hN : ∀ s, P [] s → ExsT w0 s rest N R X) {l : List PV} {s : AT} (h : P l s) :
    ForT w t b (fun s1 => ExsT w0 s1 rest N R X) R X l s := .i fun hw m =>
  ForR.inv (P := fun l st => P l ⟨st.ρ, st.hc⟩) (fun q l st h => ((hi q l _ h).e hw st.m).mono fun st1 h => (h.e hw st1.m).mono (fun st2 ⟨s3, l3, p3⟩ => ⟨s3.at st2.m, l3.at st2.m, p3⟩) (fun _ h => h) fun _ h => h)
    (fun st st' p l => ExsT.lessen ⟨l.hc, l.ρ⟩ (hN _ p)) l (s.at m) ⟨_, Less.refl _, h⟩
section
variable {e : Expr} {pos : Pos}
theorem ExsT.nil (k : N s) : ExsT w s [] N R X := .i fun hw m => Exs.nil k
theorem ExsT.ret (h : EvT w s e R) : ExsT w s (.Return (some e) pos :: rest) N R X := .i fun hw m => Exs.cons (Ex.ret hw.O (h.e hw m))
theorem ExsT.retV {q : PV} (h : evalP w s.ρ fuel e = some q) (k : R q) : ExsT w s (.Return (some e) pos :: rest) N R X := .ret (.val h k)
theorem ExsT.if {o : List Stmt} (h : TrT w s t fun x => if x = true then ExsT w s b (fun s1 => ExsT w s1 rest N R X) R X else ExsT w s o (fun s1 => ExsT w s1 rest N R X) R X) : ExsT w s (.If t b o pos :: rest) N R X := .i fun hw m =>
  Exs.cons (Ex.if hw.O ((h.e hw m).mono fun x h => ite_both h (fun h => (h.e hw m).mono (fun st h => h.e hw st.m) (fun _ h => h) fun _ h => h) fun h => (h.e hw m).mono (fun st h => h.e hw st.m) (fun _ h => h) fun _ h => h))
theorem ExsT.ifT {o : List Stmt} (h : testP w s.ρ fuel t = some true) (k : ExsT w s b (fun s1 => ExsT w s1 rest N R X) R X) : ExsT w s (.If t b o pos :: rest) N R X := .if (.val h (by rw [if_pos rfl]; exact k))
theorem ExsT.ifF {o : List Stmt} (h : testP w s.ρ fuel t = some false) (k : ExsT w s o (fun s1 => ExsT w s1 rest N R X) R X) : ExsT w s (.If t b o pos :: rest) N R X := .if (.val h (by rw [if_neg (by decide)]; exact k))
theorem ExsT.ifN (h : testP w s.ρ fuel t = some false) (k : ExsT w s rest N R X) : ExsT w s (.If t b [] pos :: rest) N R X := .ifF h (.nil k)
theorem ExsT.asg {x : Str} {xp : Pos} (hx : StoresT w s x) (h : EvT w s e fun q => ExsT w (s.set x q) rest N R X) (hs : autoParam (swapsWith e (some (.Name x xp)) pos.line w.c.env = pure false) aRfl) : ExsT w s (.Assign [.Name x xp] e pos :: rest) N R X := .i fun hw m =>
  Exs.cons (Ex.assign hw.O hx ((h.e hw m).mono fun q h m' => h.e hw m') hs)
theorem ExsT.asgV {x : Str} {xp : Pos} {q : PV} (hx : StoresT w s x) (h : evalP w s.ρ fuel e = some q) (k : ExsT w (s.set x q) rest N R X) (hs : autoParam (swapsWith e (some (.Name x xp)) pos.line w.c.env = pure false) aRfl) : ExsT w s (.Assign [.Name x xp] e pos :: rest) N R X := .asg hx (.val h k) hs
theorem ExsT.asgComp {y : Str} {yp : Pos} {target iter elt : Expr} {tests : List Expr} {scope : Scope} {spos : Pos} (hy : StoresT w s y)
    (hI : ItT w s target iter fun l => l.length ≤ 16777216 ∧ ∀ p, CompT (w.comp s scope p) (ρfree scope s.ρ) target tests elt (fun qs => ExsT w (s.set y (.lst qs)) rest N R X) l [])
    (hsw : autoParam (swapsWith (.ListComp elt [⟨target, iter, tests, 0⟩] scope pos) (some (.Name y yp)) spos.line w.c.env = pure true) aRfl) (hm : autoParam (w.c.mf = none) aRfl)
    (hk : autoParam (scope.kind = .function) aRfl) (hok : autoParam (compOk scope w.c.env = true) aRfl) (hs : autoParam (∀ x, foldedSetIterable iter w.c.env x = pure x) aIRfl) : ExsT w s (.Assign [.Name y yp] (.ListComp elt [⟨target, iter, tests, 0⟩] scope pos) spos :: rest) N R X := .i fun hw m =>
  Exs.cons (Ex.assignComp hw.O hm hy ((hI.e hw m).mono fun l h => ⟨h.1, fun C H O => (CompT.e (h.2 ⟨m, C, H⟩) (hw.comp O)).mono fun qs h m' => h.e hw m'⟩) hsw hk hok hs hw.r.2.2)
theorem ExsT.for {i : Expr} (h : ItT w s t i fun l => ∀ wr, ForT (w.hide wr) t b (fun s1 => ExsT w s1 rest N R X) R X l s) (hm : autoParam (w.c.mf = none) aRfl) (hs : autoParam (∀ x, foldedSetIterable i w.c.env x = pure x) aIRfl) : ExsT w s (.For t i b [] pos :: rest) N R X := .i fun hw m =>
  Exs.cons (Ex.for hw.O hm ((h.e hw m).mono fun l h wr O => ForR.mono (fun st h => h.e hw st.m) ((h wr).e (hw.hide O) m)) hs (.inl hw.r.2.2))
end
end
end
end
section
noncomputable section
variable {w : WX} {s : AT} {m : Str → Option Value}
@[irreducible] noncomputable def TstT (w : WX) (s : AT) (ts : List Expr) (Q : Bool → Prop) : Prop := w.Ok → ∀ m, Tsts w.G w.c (s.at m) ts Q
theorem TstT.i {ts : List Expr} {Q : Bool → Prop} (h : w.Ok → ∀ m, Tsts w.G w.c (s.at m) ts Q) : TstT w s ts Q := by unfold TstT; exact h
theorem TstT.e {ts : List Expr} {Q : Bool → Prop} (h : TstT w s ts Q) (hw : w.Ok) (m) : Tsts w.G w.c (s.at m) ts Q := by unfold TstT at h; exact h hw m
theorem TstT.nil {Q : Bool → Prop} (q : Q true) : TstT w s [] Q := .i fun hw m => q
theorem TstT.one {t : Expr} {Q : Bool → Prop} (h : TrT w s t Q) : TstT w s [t] Q := .i fun hw m => h.e hw m
@[irreducible] noncomputable def TurnT (w : WX) (ρ : List (Str × LV)) (t : Expr) (ts : List Expr) (e : Expr) (q : PV) (T : PV → Prop) (Z : Prop) : Prop := AsgT w ⟨ρ, []⟩ t q fun s1 => TstT w s1 ts fun b => if b = true then EvT w s1 e T else Z
theorem TurnT.i {ρ : List (Str × LV)} {t e : Expr} {ts : List Expr} {q : PV} {T : PV → Prop} {Z : Prop} (h : AsgT w ⟨ρ, []⟩ t q fun s1 => TstT w s1 ts fun b => if b = true then EvT w s1 e T else Z) : TurnT w ρ t ts e q T Z := by unfold TurnT; exact h
theorem TurnT.e {ρ : List (Str × LV)} {t e : Expr} {ts : List Expr} {q : PV} {T : PV → Prop} {Z : Prop} (h : TurnT w ρ t ts e q T Z) (hw : w.Ok) (m : Str → Option Value) : Asg w.G w.c ⟨m, ρ, []⟩ t q fun st1 => Tsts w.G w.c st1 ts fun b => if b = true then Ev w.G w.c st1 e T else Z := by
  unfold TurnT at h
  exact (h.e hw m).mono fun st h => (h.e hw st.m).mono fun b h => ite_both h (fun h => h.e hw st.m) fun h => h
theorem TurnT.all {ρ : List (Str × LV)} {t e : Expr} {q : PV} {T : PV → Prop} {Z : Prop} (h : AsgT w ⟨ρ, []⟩ t q fun s1 => EvT w s1 e T) : TurnT w ρ t [] e q T Z := .i (.i fun hw m => (h.e hw m).mono fun st h => (TstT.nil (by rw [if_pos rfl]; exact h)))
section
variable {ρ : List (Str × LV)} {t e : Expr} {ts : List Expr} {K : List PV → Prop}
theorem CompT.nil {qs : List PV} (k : K qs) : CompT w ρ t ts e K [] qs := .i fun hw => k
theorem CompT.cons {q : PV} {l qs : List PV} (h : TurnT w ρ t ts e q (fun r => CompT w ρ t ts e K l (qs ++ [r])) (CompT w ρ t ts e K l qs)) : CompT w ρ t ts e K (q :: l) qs := .i fun hw m =>
  (h.e hw m).mono fun st h => Tsts.mono h fun b h => ite_both h (fun h => h.mono fun r h => h.e hw) fun h => h.e hw
theorem CompT.of (P : PV → Option PV → Prop) {l : List PV} (hi : ∀ q ∈ l, ∀ T : Option PV → Prop, (∀ o, P q o → T o) → TurnT w ρ t ts e q (fun r => T (some r)) (T none)) (k : ∀ rs, Fl P l rs → K rs) : CompT w ρ t ts e K l [] := .i fun hw =>
  CompR.of P l [] (fun q hq m T hT => (hi q hq T hT).e hw m) fun rs h => k rs h
theorem CompT.zip {α : Type} {P : PV → α → Prop} {g : α → PV} (hi : ∀ q x, P q x → ∀ T : PV → Prop, T (g x) → TurnT w ρ t ts e q T False) {l : List PV} {xs : List α} (h : Fa2 P l xs) (k : K (xs.map g)) : CompT w ρ t ts e K l [] := .i fun hw =>
  CompR.zip (fun q x hq m T hT => (hi q x hq T hT).e hw m) h k
theorem CompT.map {α : Type} {f g : α → PV} {xs : List α} (hi : ∀ x ∈ xs, ∀ T : PV → Prop, T (g x) → TurnT w ρ t ts e (f x) T False) (k : K (xs.map g)) : CompT w ρ t ts e K (xs.map f) [] :=
  CompT.zip (P := fun q x => q = f x ∧ x ∈ xs) (fun q x hq T hT => by obtain ⟨rfl, hx⟩ := hq; exact hi x hx T hT) (Fa2.map fun x hx => ⟨rfl, hx⟩) k
theorem CompT.filt {α : Type} {f g : α → PV} (p : α → Bool) {xs : List α} (hi : ∀ x ∈ xs, ∀ (T : PV → Prop) (Z : Prop), (p x = true → T (g x)) → (p x = false → Z) → TurnT w ρ t ts e (f x) T Z) (k : K ((xs.filter p).map g)) : CompT w ρ t ts e K (xs.map f) [] := .i fun hw =>
  CompR.filt0 p (fun x hx m T Z hT hZ => (hi x hx T Z hT hZ).e hw m) k
end
section
variable {N : AT → Prop} {R : PV → Prop} {X : List (Str × PV) → Prop} {rest b : List Stmt} {e : Expr} {pos : Pos}
theorem ExsT.asgT2 {x y : Str} {xp yp : Pos} {kk ek : Nat} {tpos epos : Pos} {vs : List Expr} (hy : StoresT w s y) (hx : StoresT w s x)
    (h : EvT w s (.Tuple vs ek epos) fun v => ∃ p q, v = .tup [p, q] ∧ ExsT w ((s.set y q).set x p) rest N R X) (hs : autoParam (swapsWithSole [.Tuple [.Name x xp, .Name y yp] kk tpos] (.Tuple vs ek epos) pos.line w.c.env = pure false) aRfl)
    (w1 : autoParam ((w.c.env.blockKind != .function) = false) aRfl) (w2 : autoParam (vs.length = 2) aRfl) (w3 : autoParam (vs.all notStar = true) aRfl) (w4 : autoParam ((w.c.env.kindOf x == some .local) = true) aRfl) (w5 : autoParam ((w.c.env.kindOf y == some .local) = true) aRfl) (w6 : autoParam ((yp.line == xp.line) = true) aRfl)
    (w7 : autoParam ([x, y].eraseDups.length = 2) aDecK) (w8 : autoParam (vs.all (foldedForSure 8) = false) aRfl) (w9 : autoParam (vs.all (constantsAlone 8) = false) aRfl) : ExsT w s (.Assign [.Tuple [.Name x xp, .Name y yp] kk tpos] (.Tuple vs ek epos) pos :: rest) N R X := .i fun hw m =>
  Exs.cons (Ex.assignT2 hw.O hy (fun _ _ => hx) ((h.e hw m).mono fun v ⟨p, q, e, h⟩ => ⟨p, q, e, fun m1 m2 => h.e hw m2⟩) hs w1 w2 w3 w4 w5 w6 w7 w8 w9 hw.r.2.2)
theorem ExsT.asgT3 {x y z : Str} {xp yp zp : Pos} {kk ek : Nat} {tpos epos : Pos} {vs : List Expr} (hz : StoresT w s z) (hy : StoresT w s y) (hx : StoresT w s x)
    (h : EvT w s (.Tuple vs ek epos) fun v => ∃ p q r, v = .tup [p, q, r] ∧ ExsT w (((s.set z r).set y q).set x p) rest N R X) (hs : autoParam (swapsWithSole [.Tuple [.Name x xp, .Name y yp, .Name z zp] kk tpos] (.Tuple vs ek epos) pos.line w.c.env = pure false) aRfl)
    (w1 : autoParam ((w.c.env.blockKind != .function) = false) aRfl) (w2 : autoParam (vs.length = 3) aRfl) (w3 : autoParam (vs.all notStar = true) aRfl) (w4 : autoParam ((w.c.env.kindOf x == some .local) = true) aRfl) (w5 : autoParam ((w.c.env.kindOf y == some .local) = true) aRfl) (w5' : (w.c.env.kindOf z == some .local) = true := by rfl) (w6 : autoParam ((yp.line == xp.line) = true) aRfl)
    (w6' : (zp.line == xp.line) = true := by rfl) (w7 : autoParam ([x, y, z].eraseDups.length = 3) aDecK) (w8 : autoParam (vs.all (foldedForSure 8) = false) aRfl) (w9 : autoParam (vs.all (constantsAlone 8) = false) aRfl) : ExsT w s (.Assign [.Tuple [.Name x xp, .Name y yp, .Name z zp] kk tpos] (.Tuple vs ek epos) pos :: rest) N R X := .i fun hw m =>
  Exs.cons (Ex.assignT3 hw.O hz (fun _ _ => hy) (fun _ _ _ _ => hx) ((h.e hw m).mono fun v ⟨p, q, r, e, h⟩ => ⟨p, q, r, e, fun m1 m2 m3 => h.e hw m3⟩) hs w1 w2 w3 w4 w5 w5' w6 w6' w7 w8 w9 hw.r.2.2)
theorem ExsT.asgP {elts : List Expr} {kk : Nat} {tpos : Pos} (h : EvT w s e fun v => AsgT w s (.Tuple elts kk tpos) v fun s1 => ExsT w s1 rest N R X) (hs : autoParam (swapsWithSole [.Tuple elts kk tpos] e pos.line w.c.env = pure false) aRfl) (hw' : swappedStores [.Tuple elts kk tpos] e w.c.env = pure none := by rfl)
    (he : autoParam ((assignEach [.Tuple elts kk tpos] w.c.env).map (·.2) = [PySem.assign (.Tuple elts kk tpos) w.c.env]) aRfl) : ExsT w s (.Assign [.Tuple elts kk tpos] e pos :: rest) N R X := .i fun hw m =>
  Exs.cons (Ex.assignP hw.O ((h.e hw m).mono fun v h => (h.e hw m).mono fun st h => h.e hw st.m) hs hw' he)
theorem ExsT.asgK {x : Str} {xp : Pos} (hx : w.c.env.kindOf x = some .local) (h : EvKT w s e fun k => ExsT w (s.put x k) rest N R X) (hm : autoParam (w.c.mf = none) aRfl) (hs : autoParam (swapsWith e (some (.Name x xp)) pos.line w.c.env = pure false) aRfl) : ExsT w s (.Assign [.Name x xp] e pos :: rest) N R X := .i fun hw m =>
  Exs.cons (Ex.assignK hw.O hm hx (fun h1 tk S Q' E' z => h.e hw m h1 tk S Q' E' fun k h' tk' a b c d e f hq => z k h' tk' a b c d e f fun m' => hq.e hw m') hs)
theorem ExsT.asgKV {e1 e2 : Expr} {ek : Nat} {epos tpos : Pos} {elts : List Expr} {kk : Nat} {x y : Str} (hx : w.c.env.kindOf x = some .local) (hy : w.c.env.kindOf y = some .local) (hxy : y ≠ x)
    (h : EvKT w s e1 fun k => EvT (w.hide k.own) s e2 fun q => ExsT w ((s.set y q).put x k) rest N R X) (hm : autoParam (w.c.mf = none) aRfl) (hs : autoParam (swapsWithSole [.Tuple elts kk tpos] (.Tuple [e1, e2] ek epos) pos.line w.c.env = pure false) aRfl) (hw' : swappedStores [.Tuple elts kk tpos] (.Tuple [e1, e2] ek epos) w.c.env = pure (some [x, y]) := by rfl)
    (h1 : autoParam (starEach [e1, e2] w.c.env = [(false, eval e1 w.c.env), (false, eval e2 w.c.env)]) aRfl) : ExsT w s (.Assign [.Tuple elts kk tpos] (.Tuple [e1, e2] ek epos) pos :: rest) N R X := .i fun hw m =>
  Exs.cons (Ex.assignKV hw.O hm hx hy hxy (fun h1 tk S Q' E' z => h.e hw m h1 tk S Q' E' fun k h' tk' a b c d e f hq => z k h' tk' a b c d e f fun O => (hq.e (hw.hide O) m).mono fun q h m1 m2 => h.e hw m2) hs hw' hw.r.2.2 h1)
theorem EvKT.lst {as : List Expr} {P : MK → Prop} (h : EvsT w s as fun qs => qs.length ≤ 16777216 ∧ ∀ a, P (.lst a qs)) : EvKT w s (.List as pos) P := .i fun hw m => EvK.lst hw.O (h.e hw m)
theorem ExsT.append {x : Str} {xp ap cp : Pos} {a : Addr} {its : List PV} (hl : s.ρ.lookup x = some (.mut (.lst a its))) (hlen : its.length ≤ 16777215) (h : EvT w s e fun q => ExsT w (s.put x (.lst a (its ++ [q]))) rest N R X) (hd : autoParam ((x == ("__debug__" : Str)) = false) aDec) {pl : Sem Bool}
    (he : autoParam (eval (.Call (.Attribute (.Name x xp) (Str.ofString "append") ap) [e] [] cp) w.c.env = (do
      let ov ← eval (.Name x xp) w.c.env
      standAt ap.atName
      let (f, first) ← holding [ov] (getMethod ov (Str.ofString "append") pl)
      callWith cp f first (backTo cp (starEach [e] w.c.env)) [])) aRfl) (h1 : autoParam (starEach [e] w.c.env = (false, eval e w.c.env) :: starEach [] w.c.env) aRfl)
    (hi : autoParam (interactive w.c.env = false) aRfl) (hs : autoParam (swapsWith (.Call (.Attribute (.Name x xp) (Str.ofString "append") ap) [e] [] cp) none pos.line w.c.env = pure false) aRfl) : ExsT w s (.Expr (.Call (.Attribute (.Name x xp) (Str.ofString "append") ap) [e] [] cp) pos :: rest) N R X := .i fun hw m =>
  Exs.cons (Ex.append hw.O hl hlen ((h.e hw m).mono fun q h => h.e hw m) hd he h1 hi hs)
theorem ExsT.extend {x : Str} {xp ap cp : Pos} {a : Addr} {its : List PV} (hl : s.ρ.lookup x = some (.mut (.lst a its))) (h : EvT w s e fun q => ∃ l, q = .lst l ∧ its.length + l.length ≤ 16777216 ∧ ExsT w (s.put x (.lst a (its ++ l))) rest N R X) (hd : autoParam ((x == ("__debug__" : Str)) = false) aDec) {pl : Sem Bool}
    (he : autoParam (eval (.Call (.Attribute (.Name x xp) (Str.ofString "extend") ap) [e] [] cp) w.c.env = (do
      let ov ← eval (.Name x xp) w.c.env
      standAt ap.atName
      let (f, first) ← holding [ov] (getMethod ov (Str.ofString "extend") pl)
      callWith cp f first (backTo cp (starEach [e] w.c.env)) [])) aRfl) (h1 : autoParam (starEach [e] w.c.env = (false, eval e w.c.env) :: starEach [] w.c.env) aRfl)
    (hi : autoParam (interactive w.c.env = false) aRfl) (hs : autoParam (swapsWith (.Call (.Attribute (.Name x xp) (Str.ofString "extend") ap) [e] [] cp) none pos.line w.c.env = pure false) aRfl) : ExsT w s (.Expr (.Call (.Attribute (.Name x xp) (Str.ofString "extend") ap) [e] [] cp) pos :: rest) N R X := .i fun hw m =>
  Exs.cons (Ex.extend hw.O hl ((h.e hw m).mono fun q ⟨l, e1, e2, h⟩ => ⟨l, e1, e2, h.e hw m⟩) hd he h1 hi hs)
theorem ExsT.freeze {x : Str} {k : MK} (hl : s.ρ.lookup x = some (.mut k)) (h : ExsT w (s.set x k.pv) rest N R X) : ExsT w s rest N R X := .i fun hw m => Exs.freeze (st := s.at m) hl (h.e hw m)
theorem ExsT.raise (hC : w.G.flt = 52) (hn : 3 ≤ w.n) {x : Str} {np cpos : Pos} {as : List Expr} (hx : evalP w s.ρ fuel (.Name x np) = some (.adr 52)) (hq : EvsT w s as fun qs => ∃ m i, qs = [.str m, .int i] ∧ X [(Str.ofString "message", .str m), (Str.ofString "spot", .int i)]) (hp : autoParam ((backTo cpos (starEach as w.c.env)).any (·.1) = false) aRfl) :
    ExsT w s (.Raise (some (.Call (.Name x np) as [] cpos)) none pos :: rest) N R X := .i fun hw m => Exs.cons (Ex.raise hw.k hC hw.O (hw.r.le hn) (evalP_ok hw fuel _ _ hx _ rfl) (hq.e hw m) hp)
theorem ExsT.mono {N2 : AT → Prop} (h : ExsT w s rest N R X) (k : ∀ s, N s → N2 s) : ExsT w s rest N2 R X := .i fun hw m => (h.e hw m).mono (fun st h => k _ h) (fun _ h => h) fun _ h => h
theorem ExsT.ifVia (x : Str) (P : PV → Prop) {u : LV} {tl : List (Str × LV)} {hc : List Addr} {t : Expr} {o : List Stmt} (hst : s = ⟨(x, u) :: tl, hc⟩)
    (h1 : TrT w s t fun y => if y = true then ExsT w s b (fun s1 => ∃ v, LessT ⟨(x, .v v) :: tl, hc⟩ s1 ∧ P v) R X else ExsT w s o (fun s1 => ∃ v, LessT ⟨(x, .v v) :: tl, hc⟩ s1 ∧ P v) R X) (h2 : ∀ v, P v → ExsT w ⟨(x, .v v) :: tl, hc⟩ rest N R X) : ExsT w s (.If t b o pos :: rest) N R X :=
  have k : ∀ s1, (∃ v, LessT ⟨(x, .v v) :: tl, hc⟩ s1 ∧ P v) → ExsT w s1 rest N R X := fun s1 ⟨v, hl, hp⟩ => ExsT.lessen hl (h2 v hp)
  ExsT.if (h1.mono fun y h => ite_both h (fun h => h.mono k) fun h => h.mono k)
end
end
end
section
noncomputable section
structure FP where
  h₀ : Heap
  outer : List Env
  fr : List (Addr × (Str → Option Value))
  L : Addr
  dp : Nat
  un : Nat
  gd : Option (List Code)
  hid : Addr → Prop
noncomputable def WX.fn (G : Gx) (n : Nat) (fd : FuncData) (f : Addr) (p : FP) : WX := ⟨G, fcx fd f p.h₀ p.outer p.fr p.L p.dp p.un p.gd p.hid, n⟩
noncomputable def AT.fn (fd : FuncData) (names : List Str) (args : List PV) (p : FP) : AT := ⟨names.zip (args.map LV.v), (cellsFrom (p.L + 1) fd.scope.names []).map (·.2)⟩
noncomputable def fnOk (P : Params) (fd : FuncData) (names : List Str) : Bool :=
  codeIn (hp.heap_1 P) fd.code fd.qualname && decide names.Nodup && (names.all fun y => fd.scope.names.lookup y == some .local || fd.scope.names.lookup y == some .cell) && decide ((cellsFrom 0 fd.scope.names []).map (·.1)).Nodup &&
  fd.closure.isEmpty && (fd.globals == mainGlobals) && (fd.builtins == builtinsNs) && !fd.scope.isCoroutine && !fd.scope.isGenerator && (fd.scope.kind == .function)
theorem FnX.introT {G : Gx} {f : Addr} {fd : FuncData} {body : List Stmt} {names : List Str} {args : List PV} {n : Nat} {Q : PV → Prop} {X : List (Str × PV) → Prop} {oc : Value} {od : Option Addr} {osl : Array (Option Value)} (hK : G.K = hp.heap_1 G.w.params)
    (ho : (hp.heap_1 G.w.params).lookup f = some ⟨oc, od, .func fd, osl⟩) (hbody : fd.body = .stmts body) (hb : ∀ vals : List Value, vals.length = args.length → bindArgs fd ⟨vals, []⟩ = pure (names.zip vals)) (hok : fnOk G.w.params fd names = true)
    (h : ∀ p : FP, (∀ b, p.L < b → ¬ p.hid b) → ExsT (WX.fn G n fd f p) (AT.fn fd names args p) body (fun _ => Q .none) Q X) : FnX G (.adr f) args (n + 1) Q X := by
  unfold fnOk at hok
  simp only [Bool.and_eq_true, decide_eq_true_eq, Bool.not_eq_true', beq_iff_eq, List.isEmpty_iff] at hok
  obtain ⟨⟨⟨⟨⟨⟨⟨⟨⟨h1, h2⟩, h3⟩, h4⟩, h5⟩, h6⟩, h7⟩, h8⟩, h9⟩, h10⟩ := hok
  refine FnX.intro' (by rw [hK]; exact ho) hbody (by rw [hK]; exact h1) (fun c st hh tk vals O S rs => .of_eq (hb vals rs.length)) h2 h3 (fun h₀ outer fr L dp un gd hid m O r hnh => ?_) h4 h5 h6 h7 h8 h9 h10
  exact (h ⟨h₀, outer, fr, L, dp, un, gd, hid⟩ hnh).e ⟨O, r, hK⟩ m
theorem Fn.introT {G : Gx} {f : Addr} {fd : FuncData} {body : List Stmt} {names : List Str} {args : List PV} {n : Nat} {Q : PV → Prop} {oc : Value} {od : Option Addr} {osl : Array (Option Value)} (hK : G.K = hp.heap_1 G.w.params)
    (ho : (hp.heap_1 G.w.params).lookup f = some ⟨oc, od, .func fd, osl⟩) (hbody : fd.body = .stmts body) (hb : ∀ vals : List Value, vals.length = args.length → bindArgs fd ⟨vals, []⟩ = pure (names.zip vals)) (hok : fnOk G.w.params fd names = true)
    (h : ∀ p : FP, ExsT (WX.fn G n fd f p) (AT.fn fd names args p) body (fun _ => Q .none) Q fun _ => False) : Fn G (.adr f) args (n + 1) Q := (FnX.introT hK ho hbody hb hok fun p _ => h p).fn
end
end
section
noncomputable section
variable {w : WX} {s : AT} {m : Str → Option Value}
section
variable {Q : PV → Prop} {e v sl l r : Expr} {pos : Pos}
theorem EvT.attrD {x : Str} {C : Addr} {l : List (Str × PV)} {q : PV} (hv : evalP w s.ρ fuel e = some (.ins C l)) (hx : l.lookup x = some q) (hc : attrOk w.K C x = true) (hb : q.noBi = true) (k : Q q)
    (he : autoParam (eval (.Attribute e x pos) w.c.env = (do
      let o ← eval e w.c.env
      standAt pos.atName
      let r ← holding [o] (getAttr o x true)
      letTemporaryGo e o r
      pure r)) aRfl) : EvT w s (.Attribute e x pos) Q := .attr (.val hv ⟨C, l, q, rfl, hx, hc, hb, k⟩) he
end
end
end
section
noncomputable abbrev tS : PV := tAdt (Str.ofString "S") [] []
end
section
theorem log2_le_of {a b k : Nat} (h : a ≤ b) (hb : b.log2 < k) : a.log2 < k := by
  by_cases ha : a = 0
  · subst ha; rw [Nat.log2_zero]; exact Nat.lt_of_le_of_lt (Nat.zero_le _) hb
  · have hb0 : b ≠ 0 := fun q => ha (by omega)
    exact (Nat.log2_lt ha).mpr (Nat.lt_of_le_of_lt h ((Nat.log2_lt hb0).mp hb))
theorem bits_small {a : Int} (h0 : 0 ≤ a) (h1 : a < 2 ^ 31) : Builtin.Int.intBits a ≤ 64 := by
  have : a.natAbs.log2 < 32 := log2_le_of (b := 2 ^ 31) (by omega) (by decide)
  unfold Builtin.Int.intBits
  split <;> omega
theorem f_take {G : Gx} (hK : G.K = hp.heap_1 G.w.params) {top : Int} (h0 : 0 < top) (h1 : top ≤ 100) : Fn G (.adr 320) [.src, .int top] 1 (fun r => ∃ i : Nat, r = .int i ∧ (i : Int) < top) := by
  refine Fn.intro (names := [Str.ofString "source", Str.ofString "top"]) (by rw [hK]; rfl) (by rfl) (by rw [hK]; rfl) ?_ (by decide) (by rfl) ?_ (by decide)
  · rintro c st h tk _ O S (_ | ⟨_, (_ | ⟨_, (_ | _)⟩)⟩); exact .of_eq rfl
  · intro h₀ outer fr L dp un gd hid m O r
    have fin : ∀ b : Int, ∃ i : Nat, PV.int (b.fmod top) = .int i ∧ (i : Int) < top := fun b => by
      have e1 := Int.fmod_nonneg_of_pos b h0
      have e2 := Int.fmod_lt_of_pos b h0
      exact ⟨(b.fmod top).toNat, by rw [Int.toNat_of_nonneg e1], by rw [Int.toNat_of_nonneg e1]; exact e2⟩
    refine Exs.cons (Ex.if O (Tr.cmp O (Ev.sub O (Ev.name O (by rfl) (Ev.const_int (sub_src0 O fun a a0 a1 => Ev.const_int (op_gt_int ⟨_, rfl, ?_⟩)))))))
    by_cases ha : a > 0
    · refine ite_t (decide_eq_true ha) ?_
      refine Exs.cons (Ex.assign O (.inl (by rfl)) (Ev.bin O (Ev.sub O (Ev.name O (by rfl) (Ev.const_int (sub_src0 O fun b b0 b1 => Ev.name O (by rfl) (op_mod_int (by omega) fun m' => ?_)))))))
      refine Exs.cons (Ex.srcSet O (.inl rfl) (Ev.bin O (Ev.sub O (Ev.name O (by rfl) (Ev.const_int (sub_src0 O fun d d0 d1 => Ev.name O (by rfl) (op_div_int (by omega) (PyProof.noPylong_small (by omega)) ⟨_, rfl, fun _ => ?_, fun q => by simp at q, Ev.name O (by rfl) ⟨rfl, ?_⟩⟩)))))))
      · have e1 : 0 ≤ d.fdiv top := Int.fdiv_nonneg d0 (by omega)
        refine ⟨e1, log2_le_of ?_ d1⟩
        have : d.fdiv top ≤ d := by
          rw [Int.fdiv_eq_ediv_of_nonneg d (by omega)]
          exact Int.ediv_le_self _ d0
        omega
      · exact Exs.cons (Ex.ret O (Ev.name O (by rfl) (fin b)))
    · refine ite_f (decide_eq_false ha) (Exs.nil ?_)
      refine Exs.cons (Ex.srcSet O (.inr rfl) (Ev.bin O (Ev.bin O (Ev.bin O (Ev.sub O (Ev.name O (by rfl) (Ev.const_int (sub_src1 O fun b b0 b1 => Ev.const_int (op_mul_int (.of_right (by decide)) (Ev.const_int (op_add_int (Ev.const_int (op_mod_int (by decide) ⟨_, rfl, fun q => by simp at q, fun _ => ?_, Ev.name O (by rfl) ⟨rfl, ?_⟩⟩)))))))))))))
      · have e1 := Int.fmod_nonneg_of_pos (b * 39373 + 7) (b := 2147483647) (by decide)
        have e2 := Int.fmod_lt_of_pos (b * 39373 + 7) (b := 2147483647) (by decide)
        exact ⟨e1, by omega⟩
      · refine Exs.cons (Ex.ret O (Ev.bin O (Ev.bin O (Ev.bin O (Ev.bin O (Ev.sub O (Ev.name O (by rfl) (Ev.const_int (sub_src1 O fun x x0 x1 => Ev.sub O (Ev.name O (by rfl) (Ev.const_int (sub_src1 O fun y y0 y1 => op_mul_int (.of_left (bits_small x0 x1)) (Ev.const_int (op_mod_int (by decide) (Ev.const_int (op_div_int (by decide) (PyProof.noPylong_small (by decide)) (Ev.name O (by rfl) (op_mod_int (by omega) (fin _)))))))))))))))))))
end
section
noncomputable def adtText (p : Str) (l : List Str) : Str := p ++ (if l.isEmpty = true then Str.ofString "" else Str.ofString "<" ++ Txt.join (Str.ofString ", ") l ++ Str.ofString ">")
theorem join_len {sep : Str} {l : List Str} {k : Nat} (hs : sep.length ≤ 4) (hl : ∀ x ∈ l, x.length ≤ k) : (Txt.join sep l).length ≤ l.length * (k + 4) := by
  show (Builtin.Str.glued sep l).length ≤ _
  rw [StrLaws.glued_eq_join]
  cases l with
  | nil => show (Str.empty).length ≤ _; simp [Str.empty, Str.length]
  | cons a l =>
    rw [len_join_cons]
    have h1 : l.length * sep.length ≤ l.length * 4 := Nat.mul_le_mul_left _ hs
    have h2 : ∀ l : List Str, (∀ x ∈ l, x.length ≤ k) → (l.map (·.length)).sum ≤ l.length * k := fun l => by
      induction l with
      | nil => intro _; simp
      | cons y l ih => intro hl; have := ih fun x hx => hl x (.tail _ hx); have := hl y (.head _); simp only [List.map_cons, List.sum_cons, List.length_cons, Nat.add_mul]; omega
    have h3 := h2 _ hl
    simp only [List.length_cons, Nat.add_mul, Nat.mul_add] at h3 ⊢
    omega
theorem sum_le {k : Nat} : ∀ l : List Str, (∀ x ∈ l, x.length ≤ k) → (l.map (·.length)).sum ≤ l.length * k
  | [], _ => by simp
  | y :: l, hl => by have := sum_le l fun x hx => hl x (.tail _ hx); have := hl y (.head _); simp only [List.map_cons, List.sum_cons, List.length_cons, Nat.add_mul]; omega
end
section
inductive DT where
  | par (n : Str) | box (n : Str) | byte
noncomputable abbrev DT.pv : DT → PV
  | .par n => tPar n
  | .box n => tBox (tPar n)
  | .byte => tByte
noncomputable def DT.isPar : DT → Bool
  | .par _ => true
  | _ => false
noncomputable def DT.nm : DT → Str
  | .par n => n
  | .box n => n
  | .byte => Str.ofString "u8"
noncomputable def DT.txt : DT → Str
  | .par n => n
  | .box n => Str.ofString "Box<" ++ n ++ Str.ofString ">"
  | .byte => Str.ofString "u8"
noncomputable def uniq (l : List Str) : Nat := ((List.range l.length).filter fun i => !(l.take i).contains (l.getD i Str.empty)).length
noncomputable def badDrop (rs known : List Str) (ts : List DT) (ps : List (Str × List Str)) : Bool :=
  let ns := (ts.filter DT.isPar).map DT.nm
  let rg := rs.filter fun x => known.contains x
  !(decide ((ns.length : Int) = ts.length) && decide ((rg.length : Int) = rs.length)) || decide ((uniq ns : Int) < ns.length) || decide ((uniq rg : Int) < rg.length) || ps.any fun p => decide (p.2.length > 0)
noncomputable abbrev implRow (num : PV) (known : List Str) (ps : List (Str × List Str)) (tr ta T ms sp : PV) : PV :=
  .ins 273 [(Str.ofString "number", num), (Str.ofString "regions", .tup (known.map PV.str)), (Str.ofString "params", .lst (ps.map fun p => .tup [.str p.1, .tup (p.2.map PV.str)])), (Str.ofString "trait", tr), (Str.ofString "trait_args", ta), (Str.ofString "self_type", T), (Str.ofString "methods", ms), (Str.ofString "spot", sp)]
theorem getD_lay {ns : List Str} (h : ∀ x ∈ ns, (PV.str x).lay = true) {i : Nat} (hi : i < ns.length) : (PV.str (ns.getD i Str.empty)).lay = true := h _ (by simp [hi])
theorem Fa2.map2 {α β γ : Type} {P : β → γ → Prop} {f : α → β} {g : α → γ} : ∀ {l : List α}, (∀ x ∈ l, P (f x) (g x)) → Fa2 P (l.map f) (l.map g)
  | [], _ => .nil
  | x :: l, h => .cons (h x (.head _)) (Fa2.map2 fun y hy => h y (.tail _ hy))
theorem lay_append {a b : Str} (ha : (PV.str a).lay = true) (hb : (PV.str b).lay = true) : (PV.str (a ++ b)).lay = true := by
  rw [PV.layS] at ha hb ⊢
  show ((a.cps ++ b.cps).toList.all _) = true
  rw [Array.toList_append, List.all_append, ha, hb]; rfl
theorem DT.txt_ok {t : DT} (h : t.nm.length ≤ 90) (h2 : (PV.str t.nm).lay = true) : t.txt.length ≤ 100 ∧ (PV.str t.txt).lay = true := by
  cases t with
  | par n => exact ⟨Nat.le_trans h (by decide), h2⟩
  | box n =>
    have e1 : (Str.ofString "Box<").length = 4 := by rfl
    have e2 : (Str.ofString ">").length = 1 := by rfl
    have h' : n.length ≤ 90 := h
    exact ⟨by show (Str.ofString "Box<" ++ n ++ Str.ofString ">").length ≤ 100; rw [Str.length_append, Str.length_append]; omega, lay_append (lay_append (by rfl) h2) (by rfl)⟩
  | byte => exact ⟨by decide, by rfl⟩
theorem adtText_len {l : List Str} (h : l.length ≤ 20) (hx : ∀ x ∈ l, x.length ≤ 100) : (adtText (Str.ofString "S") l).length ≤ 10000 := by
  unfold adtText
  have e1 : (Str.ofString "<").length = 1 := by rfl
  have e2 : (Str.ofString ">").length = 1 := by rfl
  have e3 : (Str.ofString "S").length = 1 := by rfl
  have e4 : (Str.ofString "").length = 0 := by rfl
  have hj := join_len (sep := Str.ofString ", ") (by decide) hx
  rw [Str.length_append]
  split
  · omega
  · rw [Str.length_append, Str.length_append]; omega
theorem filter_isEmpty {α : Type} (p : α → Bool) : ∀ l : List α, (l.filter p).isEmpty = !l.any p
  | [] => rfl
  | x :: l => by
    rw [List.filter_cons, List.any_cons]
    cases p x with
    | true => rfl
    | false => rw [if_neg (by simp), filter_isEmpty p l]; rfl
end
section
noncomputable def hasW (m w : Str) : Bool := !(Builtin.Str.occurrences m w 0 m.length 1).isEmpty
noncomputable abbrev w0 : Str := Str.ofString "has no method"
noncomputable abbrev w1 : Str := Str.ofString "is not as"
noncomputable abbrev w2 : Str := Str.ofString "is missing"
noncomputable abbrev w3 : Str := Str.ofString "structs and enums"
noncomputable abbrev w4 : Str := Str.ofString "all of a type"
noncomputable def heardOf (m : Str) (sp : Int) : PV :=
  if hasW m w0 = true then .tup [.int sp, .str w0] else if hasW m w1 = true then .tup [.int sp, .str w1] else if hasW m w2 = true then .tup [.int sp, .str w2]
  else if hasW m w3 = true then .tup [.int sp, .str w3] else if hasW m w4 = true then .tup [.int sp, .str w4] else .tup [.int sp, .str m]
noncomputable def anyW (m : Str) : Bool := hasW m w0 || hasW m w1 || hasW m w2 || hasW m w3 || hasW m w4
theorem CallX.mono {G : Gx} {c : Cx} {st : AS} {qs : List PV} {Q Q2 : PV → Prop} {X : List (Str × PV) → Prop} (h : CallX G c st qs Q X) (k : ∀ q, Q q → Q2 q) : CallX G c st qs Q2 X := fun h₁ tk vs S rs Q' E' z zx => h h₁ tk vs S rs Q' E' (fun v q h' tk' s r hq => z v q h' tk' s r (k q hq)) zx
noncomputable def heardL (m : Str) (sp : Int) : List Str → PV
  | [] => .tup [.int sp, .str m]
  | w :: ws => if hasW m w = true then .tup [.int sp, .str w] else heardL m sp ws
theorem heardL1 {m w : Str} {sp : Int} {ws : List Str} : heardL m sp (w :: ws) = if hasW m w = true then .tup [.int sp, .str w] else heardL m sp ws := rfl
theorem heard_loop {G : Gx} (hK : G.K = hp.heap_1 G.w.params) {c : Cx} (O : Cx.Ok G c) (hk : c.env.kindOf (Str.ofString "word") = some .local) {msg : Str} {sp : Int} {R : PV → Prop} {X : List (Str × PV) → Prop} {p0 p1 p2 p3 p4 p5 p6 p7 p8 p9 p10 : Pos} {k : Nat} :
    ∀ (ws : List Str) (st : AS), st.ρ.lookup (Str.ofString "fault") = some (.v (.ins 52 [(Str.ofString "message", .str msg), (Str.ofString "spot", .int sp)])) → (ws.any fun w => hasW msg w) = true → R (heardL msg sp ws) →
    ForR G c (.Name (Str.ofString "word") p0) [.If (.Compare (.Name (Str.ofString "word") p1) [.In] [.Attribute (.Name (Str.ofString "fault") p2) (Str.ofString "message") p3] p4) [.Return (some (.Tuple [.Attribute (.Name (Str.ofString "fault") p5) (Str.ofString "spot") p6, .Name (Str.ofString "word") p7] k p8)) p9] [] p10] (fun _ => False) R X (ws.map PV.str) st
  | [], _, _, h, _ => nomatch h
  | w :: ws, st, hl, h, hR => ForR.cons (Asg.name O (.inl hk) fun m' => by
    have hf : (st.set (Str.ofString "word") (.str w) m').ρ.lookup (Str.ofString "fault") = some (.v (.ins 52 [(Str.ofString "message", .str msg), (Str.ofString "spot", .int sp)])) := hl
    refine Exs.cons (Ex.if O (Tr.cmp O (Ev.name O (by rfl) (Ev.attrX hK O (Ev.name O hf ⟨_, _, rfl, by rfl, by rw [hK]; rfl, by rfl, op_in_str ⟨_, rfl, ite_tb (p := hasW msg w) rfl (fun e => ?_) (fun e => ?_)⟩⟩)))))
    · rw [heardL1, if_pos e] at hR
      exact Exs.cons (Ex.ret O (Ev.tup O (Evs.cons O (Ev.attrX hK O (Ev.name O hf ⟨_, _, rfl, by rfl, by rw [hK]; rfl, by rfl, Evs.cons O (Ev.name O (by rfl) (Evs.nil ⟨bleT (by rfl), hR⟩))⟩)))))
    · have e' : hasW msg w ≠ true := by rw [e]; decide
      rw [heardL1, if_neg e'] at hR
      rw [List.any_cons, e, Bool.false_or] at h
      exact Exs.nil (Exs.nil (heard_loop hK O hk ws _ hf h hR)))
theorem f_heard {G : Gx} (hK : G.K = hp.heap_1 G.w.params) (hC : G.flt = 52) {f row w : PV} {n : Nat} {A : Prop} {B : List (Str × PV) → Prop} (hf : okF G f = true) (h : FnX G f [row, w] n (fun r => r = .none ∧ A) B) (hB : ∀ l, B l → ∃ m sp, l = [(Str.ofString "message", .str m), (Str.ofString "spot", .int sp)] ∧ anyW m = true) :
    Fn G (.adr 347) [f, row, w] (n + 1) (fun r => (r = .none ∧ A) ∨ ∃ m sp, B [(Str.ofString "message", .str m), (Str.ofString "spot", .int sp)] ∧ r = heardOf m sp) := by
  refine Fn.introT (names := [Str.ofString "check", Str.ofString "row", Str.ofString "world"]) hK (by rfl) (by rfl) (arity3 fun _ _ _ => rfl) (by rfl) fun p => .i fun hw m => ?_
  refine Exs.cons (Ex.tryCall (XX := B) hK hC hw.O rfl (by rfl) (by rfl) (nsIn_of hK (by rfl)) (Ev.name hw.O (by rfl) ⟨hf, ?_⟩) ?_)
  · exact evalL_ok hw (evalP_ok hw fuel) _ [row, w] rfl (by rfl) _ (CallX.mono (h _ _ hw.O (hw.r.le (Nat.le_refl _))) fun q hq => ⟨hq.1, Exs.cons (Ex.ret hw.O (Ev.const_none (.inl ⟨rfl, hq.2⟩)))⟩)
  · intro e l hl m'
    obtain ⟨msg, sp, rfl, hW⟩ := hB l hl
    have O' := hw.O.hcx (x := some (.ref e))
    refine Exs.cons (Ex.mono (N := fun _ => False) ?_ (fun _ h => h.elim) (fun _ h => h) (fun _ h => h))
    refine Ex.for O' rfl (It.lstH O' (Ev.lst O' ?_)) (hd := .inr fun _ h => h)
    refine Evs.cons O' (Ev.const_str (Evs.cons O' (Ev.const_str (Evs.cons O' (Ev.const_str (Evs.cons O' (Ev.const_str (Evs.cons O' (Ev.const_str (Evs.nil ⟨by decide, _, rfl, fun wr O2 => heard_loop hK O2 (by rfl) [w0, w1, w2, w3, w4] _ (by rfl) ?_ (.inr ⟨msg, sp, hl, rfl⟩)⟩))))))))))
    simpa [anyW, Bool.or_assoc] using hW
end
section
theorem hasW_iff (m w : Str) : hasW m w = true ↔ ∃ i, i + w.length ≤ m.length ∧ Builtin.Str.subAt m w i = true := StrLaws.found_iff m w
theorem subAt_iff (m w : Str) (i : Nat) (h : i + w.length ≤ m.length) : Builtin.Str.subAt m w i = true ↔ (m.cps.toList.drop i).take w.length = w.cps.toList := by
  unfold Builtin.Str.subAt
  rw [beq_iff_eq, ← Array.toList_inj, Array.toList_extract, List.extract_eq_take_drop]
  have : i + w.length - i = w.length := by omega
  rw [this]
theorem hasW_append {p t w : Str} (h : hasW p w = true) : hasW (p ++ t) w = true := by
  obtain ⟨i, h1, h2⟩ := (hasW_iff p w).mp h
  have h3 : i + w.length ≤ (p ++ t).length := by rw [Str.length_append]; omega
  refine (hasW_iff _ w).mpr ⟨i, h3, (subAt_iff _ w i h3).mpr ?_⟩
  have h4 := (subAt_iff p w i h1).mp h2
  show ((p.cps ++ t.cps).toList.drop i).take w.length = _
  have hp : p.cps.toList.length = p.length := by simp [Str.length]
  rw [Array.toList_append, List.drop_append_of_le_length (by omega), List.take_append_of_le_length (by rw [List.length_drop]; omega)]
  exact h4
theorem hasW_head {p t w : Str} {z : Nat} {w' : List Nat} (hw : w.cps.toList = w' ++ [z]) (ht : z ∉ t.cps.toList) (h : hasW p w = false) : hasW (p ++ t) w = false := by
  cases e : hasW (p ++ t) w with
  | false => rfl
  | true =>
    exfalso
    obtain ⟨i, h1, h2⟩ := (hasW_iff _ w).mp e
    have h3 := (subAt_iff _ w i h1).mp h2
    have wl : w.length = w'.length + 1 := by
      have := congrArg List.length hw
      simpa [Str.length] using this
    have e1 : (p ++ t).cps.toList = p.cps.toList ++ t.cps.toList := by
      show (p.cps ++ t.cps).toList = _
      rw [Array.toList_append]
    have pl : p.cps.toList.length = p.length := by simp [Str.length]
    rw [e1] at h3
    have hz : (p.cps.toList ++ t.cps.toList)[i + w'.length]? = some z := by
      have := congrArg (fun l : List Nat => l[w'.length]?) h3
      rw [List.getElem?_take_of_lt (by omega), List.getElem?_drop, hw] at this
      simpa using this
    by_cases hi : i + w.length ≤ p.length
    · have : hasW p w = true := (hasW_iff p w).mpr ⟨i, hi, (subAt_iff p w i hi).mpr (by
        rw [List.drop_append_of_le_length (by omega), List.take_append_of_le_length (by rw [List.length_drop]; omega)] at h3
        exact h3)⟩
      rw [h] at this; cases this
    · rw [List.getElem?_append_right (by omega)] at hz
      exact ht (List.mem_of_getElem? hz)
end
section
noncomputable def dropMsg (rs : List Str) (ts : List DT) : Str := Str.ofString "an impl of Drop is of all of a type: " ++ adtText (Str.ofString "S") (rs ++ ts.map DT.txt)
noncomputable def dropRes (rs known : List Str) (ts : List DT) (ps : List (Str × List Str)) : PV := if badDrop rs known ts ps = true then heardOf (dropMsg rs ts) 21 else .none
theorem drop_any (rs : List Str) (ts : List DT) : anyW (dropMsg rs ts) = true := by
  have : hasW (Str.ofString "an impl of Drop is of all of a type: ") w4 = true := by decide +kernel
  unfold anyW dropMsg
  rw [hasW_append this]; simp
noncomputable def dropRes0 : PV := heardOf (Str.ofString "Drop is told of structs and enums alone") 21
end
section
theorem Fn.mono {G : Gx} {f : PV} {args : List PV} {n : Nat} {Q Q2 : PV → Prop} (h : Fn G f args n Q) (k : ∀ q, Q q → Q2 q) : Fn G f args n Q2 := fun c st O r h₁ tk vs S rs Q' E' z => h c st O r h₁ tk vs S rs Q' E' fun v q h' tk' s r hq => z v q h' tk' s r (k q hq)
theorem dropRes_none {rs known : List Str} {ts : List DT} {ps : List (Str × List Str)} (h : badDrop rs known ts ps = false) : dropRes rs known ts ps = .none := by
  unfold dropRes; rw [h]; rfl
theorem dropRes_all {rs known : List Str} {ts : List DT} {ps : List (Str × List Str)} (h : badDrop rs known ts ps = true) (h0 : hasW (dropMsg rs ts) w0 = false) (h1 : hasW (dropMsg rs ts) w1 = false) (h2 : hasW (dropMsg rs ts) w2 = false) (h3 : hasW (dropMsg rs ts) w3 = false) :
    dropRes rs known ts ps = .tup [.int 21, .str w4] := by
  have := drop_any rs ts
  unfold anyW at this
  rw [h0, h1, h2, h3] at this
  have h4 : hasW (dropMsg rs ts) w4 = true := by simpa using this
  unfold dropRes heardOf
  rw [h, h0, h1, h2, h3, h4]; rfl
noncomputable abbrev sA : Str := Str.ofString "A"
noncomputable abbrev sB : Str := Str.ofString "B"
noncomputable abbrev ra : Str := Str.ofString "'a"
noncomputable abbrev rb : Str := Str.ofString "'b"
noncomputable abbrev noB : List (Str × List Str) := [(sA, []), (sB, [])]
end
section
noncomputable abbrev traitQ (ms df : PV) : PV := .ins 251 [(Str.ofString "path", .str (Str.ofString "Q")), (Str.ofString "params", .tup []), (Str.ofString "methods", ms), (Str.ofString "defaults", df)]
noncomputable abbrev implQ (ms : PV) : PV := .ins 273 [(Str.ofString "number", .int 0), (Str.ofString "regions", .tup []), (Str.ofString "params", .lst []), (Str.ofString "trait", .str (Str.ofString "Q")), (Str.ofString "trait_args", .tup []), (Str.ofString "self_type", tS), (Str.ofString "methods", ms), (Str.ofString "spot", .int 34)]
end
section
noncomputable abbrev sV : PV := .str (Str.ofString "value")
noncomputable abbrev sigW (x : Str) : PV := sigOf (.str (Str.ofString "Q::" ++ x)) (tPar (Str.ofString "Self")) sV [tByte]
noncomputable abbrev tOf : Bool → PV
  | true => tByte
  | false => tBool
noncomputable abbrev sigI (x : Str) (b : Bool) : PV := sigOf (.str (Str.ofString "impl::" ++ x)) tS sV [tOf b]
noncomputable def missMsg (names bodies has : List Str) : List Str → Option Str
  | [] => none
  | x :: l => if has.contains x = false ∧ bodies.contains x = false then some (Str.ofString "the method " ++ x ++ Str.ofString " of " ++ Str.ofString "Q" ++ Str.ofString " is missing") else missMsg names bodies has l
noncomputable def methMsg (names bodies has : List Str) : List (Str × Bool) → Option Str
  | [] => missMsg names bodies has names
  | (x, b) :: l => if names.contains x = false then some (Str.ofString "Q" ++ Str.ofString " has no method " ++ x)
    else if b = false then some (Str.ofString "the method " ++ x ++ Str.ofString " is not as " ++ Str.ofString "Q" ++ Str.ofString " tells it") else methMsg names bodies has l
theorem miss0 {names bodies has : List Str} : missMsg names bodies has [] = none := rfl
theorem miss1 {names bodies has l : List Str} {x : Str} : missMsg names bodies has (x :: l) = if has.contains x = false ∧ bodies.contains x = false then some (Str.ofString "the method " ++ x ++ Str.ofString " of " ++ Str.ofString "Q" ++ Str.ofString " is missing") else missMsg names bodies has l := rfl
theorem meth0 {names bodies has : List Str} : methMsg names bodies has [] = missMsg names bodies has names := rfl
theorem meth1 {names bodies has : List Str} {l : List (Str × Bool)} {x : Str} {b : Bool} : methMsg names bodies has ((x, b) :: l) = if names.contains x = false then some (Str.ofString "Q" ++ Str.ofString " has no method " ++ x)
    else if b = false then some (Str.ofString "the method " ++ x ++ Str.ofString " is not as " ++ Str.ofString "Q" ++ Str.ofString " tells it") else methMsg names bodies has l := rfl
noncomputable abbrev methD (names : List Str) : PV := .dct (names.map fun x => (x, sigW x))
noncomputable abbrev bodyD (bodies : List Str) : PV := .dct (bodies.map fun x => (x, .str (Str.ofString "Q::" ++ x)))
noncomputable abbrev toldD (rows : List (Str × Bool)) : PV := .dct (rows.map fun p => (p.1, .str (Str.ofString "impl::" ++ p.1)))
noncomputable abbrev sigsL (rows : List (Str × Bool)) : List (Str × PV) := rows.map fun p => (Str.ofString "impl::" ++ p.1, sigI p.1 p.2)
theorem lookup_map {β : Type} (g : Str → β) (x : Str) : ∀ l : List Str, (l.map fun y => (y, g y)).lookup x = if l.contains x = true then some (g x) else none
  | [] => rfl
  | y :: l => by
    rw [List.map_cons, List.lookup_cons, List.contains_cons]
    by_cases h : (x == y) = true
    · rw [h]; have : x = y := beq_iff_eq.mp h; subst this; simp
    · rw [Bool.eq_false_iff.mpr h]; simp only [Bool.false_or]; exact lookup_map g x l
theorem lookup_nd {α : Type} (k : α → Str) (g : α → PV) : ∀ {l : List α} {p : α}, (l.map k).Nodup → p ∈ l → (l.map fun p => (k p, g p)).lookup (k p) = some (g p)
  | [], p, _, h => by cases h
  | q :: l, p, hn, h => by
    rw [List.map_cons, List.lookup_cons]
    rw [List.map_cons, List.nodup_cons] at hn
    by_cases e : (k p == k q) = true
    · rw [e]
      rcases List.mem_cons.mp h with rfl | h
      · rfl
      · exact absurd (List.mem_map.mpr ⟨p, h, beq_iff_eq.mp e⟩) hn.1
    · rw [Bool.eq_false_iff.mpr e]
      rcases List.mem_cons.mp h with rfl | h
      · exact absurd (beq_iff_eq.mpr rfl) e
      · exact lookup_nd k g hn.2 h
theorem str_append_inj {a x y : Str} (h : a ++ x = a ++ y) : x = y := by
  have : a.cps ++ x.cps = a.cps ++ y.cps := congrArg Str.cps h
  have h2 : a.cps.toList ++ x.cps.toList = a.cps.toList ++ y.cps.toList := by rw [← Array.toList_append, ← Array.toList_append, this]
  have h3 := List.append_cancel_left h2
  cases x; cases y; congr 1
  exact Array.toList_inj.mp h3
theorem nodup_pre {rows : List (Str × Bool)} (a : Str) (h : (rows.map (·.1)).Nodup) : (rows.map fun p => a ++ p.1).Nodup := by
  induction rows with
  | nil => exact List.nodup_nil
  | cons p l ih =>
    rw [List.map_cons, List.nodup_cons] at h ⊢
    refine ⟨fun q => h.1 ?_, ih h.2⟩
    obtain ⟨r, hr, e⟩ := List.mem_map.mp q
    exact List.mem_map.mpr ⟨r, hr, str_append_inj e⟩
theorem lookup_some {g : Str × Bool → PV} (x : Str) : ∀ l : List (Str × Bool), ((l.map fun p => (p.1, g p)).lookup x).isSome = (l.map (·.1)).contains x
  | [] => rfl
  | p :: l => by
    rw [List.map_cons, List.lookup_cons, List.map_cons, List.contains_cons]
    by_cases h : (x == p.1) = true
    · rw [h]; rfl
    · rw [Bool.eq_false_iff.mpr h, Bool.false_or]; exact lookup_some x l
end
section
noncomputable abbrev worldF (d1 d2 d3 d4 d5 d6 : Addr) (A S T : List (Str × PV)) : List (Str × WV) :=
  [(Str.ofString "modules", .v .none), (Str.ofString "adts", .md d1 A), (Str.ofString "variants", .md d2 []), (Str.ofString "sigs", .md d3 S), (Str.ofString "traits", .md d4 T), (Str.ofString "impls", .v (.lst [])), (Str.ofString "consts", .md d5 []), (Str.ofString "bodies", .md d6 [])]
theorem k_world {G : Gx} (hK : G.K = hp.heap_1 G.w.params) {c : Cx} {st : AS} (O : Cx.Ok G c) {n : Nat} (hr : c.room n) {xp pos cp : Pos} {k : Nat} {P : MK → Prop} (hx : Ev G c st (.Name (Str.ofString "World") xp) fun f => f = .adr 302)
    (hq : ∀ x dx d1 d2 d3 d4 d5 d6, P (.wld 302 x dx (worldF d1 d2 d3 d4 d5 d6 [] [] []))) :
    EvK G c st (.Call (.Name (Str.ofString "World") xp) [.Constant .none k cp] [] pos) P := by
  refine EvK.cls O hr (C := 302) (self := Str.ofString "self") (names := ["modules"].map Str.ofString)
    (l := [(Str.ofString "modules", .nm (Str.ofString "modules")), (Str.ofString "adts", .dic), (Str.ofString "variants", .dic), (Str.ofString "sigs", .dic), (Str.ofString "traits", .dic), (Str.ofString "impls", .lis), (Str.ofString "consts", .dic), (Str.ofString "bodies", .dic)])
    (by rw [hK]; rfl) (by rw [hK]; rfl) (by rw [hK]; rfl) (by rw [hK]; rfl) (by rfl) (by rw [hK]; rfl) ?_ (by decide) (by rfl) (by rfl) (by decide)
    (by intro L; repeat (first | exact .nil | refine .nm (by decide) (by rfl) ?_ | refine .dic ?_ | refine .lis ?_)) (by rw [hK]; rfl) (by rw [hK]; rfl) ?_ (by decide) (by decide) (kb := 21) (by rw [hK]; rfl) (by decide) hx (okF_of hK (by rfl)) ?_
  · exact fun x hh tk vs X hl => arity1 (P := fun vs => BindsTo (G.sh hh tk) _ ⟨.ref x :: vs, []⟩ (_ :: List.zip _ vs)) (fun _ => by first | exact .of_eq rfl | exact binds_K X rfl (by rw [hK]; rfl) rfl rfl rfl) vs hl
  · exact fun f p h => List.contains_iff_mem.mp (List.all_eq_true.mp (show (List.all _ fun p : Str × Rhs => nmIn (["modules"].map Str.ofString) p.2) = true by rfl) _ h)
  · refine Evs.cons O (Ev.const_none (Evs.nil ⟨rfl, fun x dx ds => ?_⟩))
    rcases ds with _ | ⟨d1, _ | ⟨d2, _ | ⟨d3, _ | ⟨d4, _ | ⟨d5, _ | ⟨d6, ds⟩⟩⟩⟩⟩⟩ <;> exact hq _ _ _ _ _ _ _ _
theorem putPV_new {l : List (Str × PV)} {x : Str} {q : PV} (h : x ∉ l.map (·.1)) : putPV l x q = l ++ [(x, q)] := by
  unfold putPV
  rw [if_neg]
  intro e
  obtain ⟨p, hp, e⟩ := List.any_eq_true.mp e
  exact h (List.mem_map.mpr ⟨p, hp, of_decide_eq_true e⟩)
theorem putAll_nd : ∀ {ps acc : List (Str × PV)}, ((acc ++ ps).map (·.1)).Nodup → putAll acc ps = acc ++ ps
  | [], acc, _ => by simp [putAll]
  | p :: ps, acc, h => by
    have h1 : p.1 ∉ acc.map (·.1) := fun q => by
      rw [List.map_append, List.nodup_append] at h
      exact h.2.2 _ q _ (by simp) rfl
    have e : putAll acc (p :: ps) = putAll (putPV acc p.1 p.2) ps := rfl
    rw [e, putPV_new h1, putAll_nd (by rw [List.append_assoc]; exact h), List.append_assoc]; rfl
end
section
theorem m_none {names bodies : List Str} {rows : List (Str × Bool)} {r : PV} (hm : methMsg names bodies (rows.map (·.1)) rows = none) (h : (methMsg names bodies (rows.map (·.1)) rows = none ∧ r = .none) ∨ ∃ m, methMsg names bodies (rows.map (·.1)) rows = some m ∧ r = heardOf m 34) : r = .none := by
  rcases h with h | ⟨m, h, _⟩
  · exact h.2
  · exact clash hm h
theorem m_some {names bodies : List Str} {rows : List (Str × Bool)} {r v : PV} {M : Str} (hm : methMsg names bodies (rows.map (·.1)) rows = some M) (hv : heardOf M 34 = v) (h : (methMsg names bodies (rows.map (·.1)) rows = none ∧ r = .none) ∨ ∃ m, methMsg names bodies (rows.map (·.1)) rows = some m ∧ r = heardOf m 34) : r = v := by
  rcases h with h | ⟨m, h, e⟩
  · rw [hm] at h; cases h.1
  · rw [hm] at h; cases h; exact e.trans hv
theorem any_none {o : Option Str} (h : o = none) : ∀ m, o = some m → anyW m = true := fun m e => by exact clash h e
theorem any_some {o : Option Str} {M : Str} (h : o = some M) (a : anyW M = true) : ∀ m, o = some m → anyW m = true := fun m e => by rw [h] at e; cases e; exact a
theorem heard0 {m : Str} {sp : Int} (h : hasW m w0 = true) : heardOf m sp = .tup [.int sp, .str w0] := by unfold heardOf; rw [if_pos h]
theorem heard1 {m : Str} {sp : Int} (h0 : hasW m w0 = false) (h : hasW m w1 = true) : heardOf m sp = .tup [.int sp, .str w1] := by unfold heardOf; rw [if_neg (by rw [h0]; simp), if_pos h]
theorem heard2 {m : Str} {sp : Int} (h0 : hasW m w0 = false) (h1 : hasW m w1 = false) (h : hasW m w2 = true) : heardOf m sp = .tup [.int sp, .str w2] := by unfold heardOf; rw [if_neg (by rw [h0]; simp), if_neg (by rw [h1]; simp), if_pos h]
noncomputable abbrev sf : Str := Str.ofString "f"
noncomputable abbrev sg : Str := Str.ofString "g"
end
section
inductive Fld (T R : List (Str × PV)) : PV → PV → Prop
  | byte : Fld T R tByte tByte
  | unit : Fld T R tUnit tUnit
  | par {n : Str} {v : PV} : T.lookup n = some v → Fld T R (tPar n) v
  | box {n : Str} {v : PV} : T.lookup n = some v → Fld T R (tBox (tPar n)) (tBox v)
  | arr {n : Str} {v : PV} : T.lookup n = some v → Fld T R (tArr (tPar n) 2) (tArr v 2)
  | ref {r : Str} {l : PV} : R.lookup r = some l → Fld T R (tRef (.str r) true tByte) (tRef l true tByte)
  | adt {r : Str} {l : PV} : R.lookup r = some l → Fld T R (tAdt (Str.ofString "R") [.str r] []) (tAdt (Str.ofString "R") [l] [])
end
section
noncomputable abbrev adtT (rs ns vs : PV) (e : PV) : PV := .ins 209 [(Str.ofString "path", .str (Str.ofString "m::T")), (Str.ofString "module", .str (Str.ofString "")), (Str.ofString "regions", rs), (Str.ofString "params", ns), (Str.ofString "variants", vs), (Str.ofString "publics", .adr 198), (Str.ofString "is_enum", e)]
theorem ZPV.strs : ∀ {ns : List Str} {vs : List PV}, ns.length = vs.length → ZPV (ns.map PV.str) vs (ns.zip vs)
  | [], [], _ => .nil1
  | n :: ns, v :: vs, h => .cons (ZPV.strs (by simpa using h))
  | [], _ :: _, h => by simp at h
  | _ :: _, [], h => by simp at h
end
section
noncomputable abbrev Fs := List (Str × PV × PV)
noncomputable abbrev varPV (v : PV × PV × Fs) : PV := .tup [v.1, v.2.1, .lst (v.2.2.map fun f => .tup [.str f.1, f.2.1])]
theorem flat_len : ∀ (l : List (PV × PV × Fs)), (∀ v ∈ l, v.2.2.length ≤ 10) → (l.flatMap fun v => v.2.2.map fun f => f.2.2).length ≤ l.length * 10
  | [], _ => by simp
  | v :: l, h => by
    have h1 := h v (.head _)
    have h2 := flat_len l fun w hw => h w (.tail _ hw)
    rw [List.flatMap_cons, List.length_append, List.length_map, List.length_cons]; omega
end
section
noncomputable abbrev Pick (T R : List (Str × PV)) (its : List PV) : Prop := ∀ q ∈ its, ∃ o p, q = .tup [o, p] ∧ Fld T R o p
theorem less_gen {m4 : Str → Option Value} {W : Str} {w0 : LV} {k : LV} {ρ1 : List (Str × LV)} {hc : List Addr} {P : AS → Prop} : ∀ (ex : List (Str × LV)), (∀ p ∈ ex, ρ1.lookup p.1 = none) → P ⟨m4, (W, k) :: ρ1, hc⟩ →
    ∃ st3, Less st3 ⟨m4, (W, k) :: (ex ++ (W, w0) :: ρ1), hc⟩ ∧ P st3 := fun ex hex h =>
  ⟨⟨m4, (W, k) :: ρ1, hc⟩, ⟨rfl, rfl, fun y q ey => by
    have ey : List.lookup y ((W, k) :: ρ1) = some q := ey
    show List.lookup y ((W, k) :: (ex ++ (W, w0) :: ρ1)) = some q
    rw [List.lookup_cons] at ey ⊢
    by_cases hw : (y == W) = true
    · rw [hw] at ey ⊢; exact ey
    · rw [Bool.eq_false_iff.mpr hw] at ey ⊢
      have ey : List.lookup y ρ1 = some q := ey
      show List.lookup y (ex ++ (W, w0) :: ρ1) = some q
      clear h
      induction ex with
      | nil =>
        show List.lookup y ((W, w0) :: ρ1) = some q
        rw [List.lookup_cons, Bool.eq_false_iff.mpr hw]; exact ey
      | cons p ex ih =>
        show List.lookup y (p :: (ex ++ (W, w0) :: ρ1)) = some q
        have h2 : (y == p.1) = false := Bool.eq_false_iff.mpr fun e => by have := beq_iff_eq.mp e; have h3 := hex p (.head _); rw [← this, ey] at h3; cases h3
        obtain ⟨p1, p2⟩ := p
        rw [List.lookup_cons, h2]
        exact ih fun p hp => hex p (.tail _ hp)⟩, h⟩
end
section
theorem eqv_ok {q : PV} (h : q.ok = true) : PyData.eqv q.d q.d = true := PySem.SeqAt.eqv_refl _ (ok_d h).2.1
theorem lays_all : ∀ {l : List PV}, (∀ q ∈ l, q.lay = true) → PV.lays l = true
  | [], _ => rfl
  | q :: l, h => by rw [PV.lays1, h q (.head _), lays_all fun x hx => h x (.tail _ hx)]; rfl
theorem deps_all {n : Nat} : ∀ {l : List PV}, (∀ q ∈ l, q.dep ≤ n) → PV.deps l ≤ n
  | [], _ => Nat.zero_le _
  | q :: l, h => by rw [PV.deps1]; exact Nat.max_le.mpr ⟨h q (.head _), deps_all fun x hx => h x (.tail _ hx)⟩
theorem PV.ok_lst {l : List PV} (h : ∀ q ∈ l, q.lay = true ∧ q.dep ≤ 20) : (PV.lst l).ok = true := PV.ok_of (by
  rw [PV.layL, lays_all fun q hq => (h q hq).1, Bool.true_and, PV.depL]
  exact Nat.ble_eq_true_of_le (Nat.le_trans (Nat.succ_le_succ (deps_all fun q hq => (h q hq).2)) (by decide)))
noncomputable abbrev PutV (v : PV) : Prop := v ∈ [tBool, tBox tByte, tPar (Str.ofString "B")]
noncomputable abbrev LedV (l : PV) : Prop := l ∈ [PV.none, .str (Str.ofString "'static"), .str (Str.ofString "'z"), .int 4]
theorem PutV.ok {v : PV} (h : PutV v) : v.lay = true ∧ v.dep ≤ 5 := by
  simp only [PutV, List.mem_cons, List.not_mem_nil, or_false] at h
  rcases h with rfl | rfl | rfl <;> exact ⟨by decide +kernel, by decide +kernel⟩
theorem LedV.ok {v : PV} (h : LedV v) : v.lay = true ∧ v.dep ≤ 5 := by
  simp only [LedV, List.mem_cons, List.not_mem_nil, or_false] at h
  rcases h with rfl | rfl | rfl | rfl <;> exact ⟨by decide +kernel, by decide +kernel⟩
theorem lay_tupn {n : Nat} {l : List PV} (h : ∀ q ∈ l, q.lay = true ∧ q.dep ≤ n) : (PV.tup l).lay = true ∧ (PV.tup l).dep ≤ n + 1 :=
  ⟨(by rw [PV.layT]; exact lays_all fun q hq => (h q hq).1), (by rw [PV.depT]; exact Nat.succ_le_succ (deps_all (n := n) fun q hq => (h q hq).2))⟩
theorem lay_str {x : String} (h : autoParam ((S' x).lay = true) aDecK) : (S' x).lay = true ∧ (S' x).dep ≤ 10 := ⟨h, Nat.zero_le _⟩
theorem Fld.ok {T R : List (Str × PV)} (hT : ∀ n v, T.lookup n = some v → PutV v) (hR : ∀ n v, R.lookup n = some v → LedV v) {o p : PV} (h : Fld T R o p) : p.lay = true ∧ p.dep ≤ 20 := by
  have up : ∀ {v : PV}, v.lay = true ∧ v.dep ≤ 5 → v.lay = true ∧ v.dep ≤ 10 := fun h => ⟨h.1, by omega⟩
  have up2 : ∀ {v : PV}, v.lay = true ∧ v.dep ≤ 11 → v.lay = true ∧ v.dep ≤ 20 := fun h => ⟨h.1, by omega⟩
  cases h with
  | byte => exact ⟨by decide +kernel, by decide +kernel⟩
  | unit => exact ⟨by decide +kernel, by decide +kernel⟩
  | par e => have := (hT _ _ e).ok; exact ⟨this.1, by omega⟩
  | box e =>
    have := up (hT _ _ e).ok
    refine up2 (lay_tupn (n := 10) fun q hq => ?_)
    simp only [List.mem_cons, List.not_mem_nil, or_false] at hq
    rcases hq with rfl | rfl
    · exact lay_str
    · exact this
  | arr e =>
    have := up (hT _ _ e).ok
    refine up2 (lay_tupn (n := 10) fun q hq => ?_)
    simp only [List.mem_cons, List.not_mem_nil, or_false] at hq
    rcases hq with rfl | rfl | rfl
    · exact lay_str
    · exact this
    · exact ⟨by decide +kernel, by decide +kernel⟩
  | ref e =>
    have := up (hR _ _ e).ok
    refine up2 (lay_tupn (n := 10) fun q hq => ?_)
    simp only [List.mem_cons, List.not_mem_nil, or_false] at hq
    rcases hq with rfl | rfl | rfl | rfl
    · exact lay_str
    · exact this
    · exact ⟨by decide +kernel, by decide +kernel⟩
    · exact ⟨by decide +kernel, by decide +kernel⟩
  | adt e =>
    have := (hR _ _ e).ok
    refine up2 (lay_tupn (n := 10) fun q hq => ?_)
    simp only [List.mem_cons, List.not_mem_nil, or_false] at hq
    rcases hq with rfl | rfl | rfl | rfl
    · exact lay_str
    · exact ⟨by decide +kernel, by decide +kernel⟩
    · have h2 := lay_tupn (n := 5) (l := [_]) fun q hq => by rw [List.mem_singleton.mp hq]; exact this
      exact ⟨h2.1, by omega⟩
    · exact ⟨by decide +kernel, by decide +kernel⟩
theorem Fl.xs {α : Type} {g : α → PV} {S : PV → α → Prop} {P : PV → Option PV → Prop} {l rs : List PV} (h : Fl P l rs) : (∀ q ∈ l, ∀ o, P q o → ∃ x, o = Option.some (g x) ∧ S q x) → ∃ xs : List α, xs.length = l.length ∧ rs = xs.map g ∧ Fa2 S l xs := by
  induction h with
  | nil => exact fun _ => ⟨[], rfl, rfl, .nil⟩
  | some p _ ih =>
    intro hP
    obtain ⟨x, e, s⟩ := hP _ (.head _) _ p
    obtain ⟨xs, h1, h2, h3⟩ := ih fun q hq => hP q (.tail _ hq)
    exact ⟨x :: xs, congrArg (· + 1) h1, by rw [h2, Option.some.inj e]; rfl, .cons s h3⟩
  | none p _ _ =>
    intro hP
    obtain ⟨x, e, _⟩ := hP _ (.head _) _ p
    cases e
theorem Fa2.right {α : Type} {S : PV → α → Prop} {T : α → Prop} (hS : ∀ q x, S q x → T x) {l : List PV} {xs : List α} (h : Fa2 S l xs) : ∀ x ∈ xs, T x := by
  induction h with
  | nil => exact fun _ h => nomatch h
  | cons s _ ih => exact List.forall_mem_cons.mpr ⟨hS _ _ s, ih⟩
theorem Fl.inv {P : PV → Option PV → Prop} {q : PV} {l rs : List PV} (h : Fl P (q :: l) rs) : (∃ r rs', rs = r :: rs' ∧ P q (Option.some r) ∧ Fl P l rs') ∨ (P q Option.none ∧ Fl P l rs) := by
  cases h with
  | some p h => exact .inl ⟨_, _, rfl, p, h⟩
  | none p h => exact .inr ⟨p, h⟩
theorem zip_fs (xs : List (Str × PV)) : (xs.map (·.1)).zip (xs.map (·.2)) = xs := by
  induction xs with
  | nil => rfl
  | cons x xs ih => exact congrArg (x :: ·) ih
theorem fl_zip {P : PV → Prop} {ns : List Str} {rs : List PV} (h : Fl (fun q o => ∃ n v, q = .str n ∧ o = some (.tup [.str n, v]) ∧ P v) (ns.map PV.str) rs) : ∃ vs : List PV, ns.length = vs.length ∧ rs = (ns.zip vs).map (fun p => .tup [.str p.1, p.2]) ∧ ∀ v ∈ vs, P v := by
  obtain ⟨xs, h1, h2, h3⟩ := h.xs (α := Str × PV) (g := fun p => .tup [.str p.1, p.2]) (S := fun q p => q = .str p.1 ∧ P p.2) fun q _ o ⟨n, v, e1, e2, hv⟩ => ⟨(n, v), e2, e1, hv⟩
  have key : ∀ {ns : List Str} {xs : List (Str × PV)}, Fa2 (fun q p => q = PV.str p.1 ∧ P p.2) (ns.map PV.str) xs → ns = xs.map (·.1) := fun {ns xs} => by
    induction ns generalizing xs with
    | nil => intro h; cases h; rfl
    | cons n ns ih => intro h; cases h with | cons s h => rw [List.map_cons, ← ih h]; cases s.1; rfl
  have e := key h3
  refine ⟨xs.map (·.2), by rw [e, List.length_map, List.length_map], ?_, fun v hv => ?_⟩
  · rw [h2, e, zip_fs]
  · obtain ⟨p, hp, rfl⟩ := List.mem_map.mp hv
    exact h3.right (T := fun p => P p.2) (fun _ _ s => s.2) p hp
theorem lookup_zip {P : PV → Prop} {n : Str} {v : PV} : ∀ {ns : List Str} {vs : List PV}, (∀ v ∈ vs, P v) → (ns.zip vs).lookup n = some v → P v
  | [], _, _, e => by simp at e
  | _ :: _, [], _, e => by simp at e
  | m :: ns, w :: vs, h, e => by
    rw [List.zip_cons_cons, List.lookup_cons] at e
    by_cases q : (n == m) = true
    · rw [q] at e; cases e; exact h _ (.head _)
    · rw [Bool.eq_false_iff.mpr q] at e; exact lookup_zip (fun v hv => h v (.tail _ hv)) e
theorem map_fst_str {ns : List Str} {vs : List PV} (h : ns.length = vs.length) : ns.map PV.str = (ns.zip vs).map (fun p => PV.str p.1) := by
  show _ = (ns.zip vs).map (PV.str ∘ Prod.fst)
  rw [← List.map_map, List.map_fst_zip (by omega)]
theorem map_snd_zip {ns : List Str} {vs : List PV} (h : ns.length = vs.length) : (ns.zip vs).map (fun p => p.2) = vs := List.map_snd_zip (by omega)
noncomputable def numF (fs : List (PV × PV)) : Fs := fs.zipIdx.map fun x => (toString (x.2 : Int), x.1.1, x.1.2)
theorem numF_length (fs : List (PV × PV)) : (numF fs).length = fs.length := by simp [numF]
theorem numF_snd (fs : List (PV × PV)) : (numF fs).map (fun f => f.2.2) = fs.map (fun f => f.2) := by
  unfold numF
  rw [List.map_map]
  show fs.zipIdx.map ((fun f : PV × PV => f.2) ∘ Prod.fst) = _
  rw [← List.map_map, List.zipIdx_map_fst]
theorem numF_mem {fs : List (PV × PV)} {P : PV → PV → Prop} (h : ∀ f ∈ fs, P f.1 f.2) : ∀ f ∈ numF fs, P f.2.1 f.2.2 := fun f hf => by
  obtain ⟨x, hx, rfl⟩ := List.mem_map.mp hf
  exact h x.1 (List.fst_mem_of_mem_zipIdx hx)
theorem str_len_small : ∀ i : Nat, i < 20 → (toString (i : Int) : Str).length ≤ 10 := by decide +kernel
theorem CompR.num {α : Type} {G : Gx} {c : Cx} {ρ : List (Str × LV)} {target elt : Expr} {tests : List Expr} {K : List PV → Prop} {f : α → PV} {g : α → Nat → PV} {l : List α}
    (hi : ∀ x i, x ∈ l → i < l.length → ∀ m (T : PV → Prop), T (g x i) → Asg G c ⟨m, ρ, []⟩ target (.tup [.int (i : Int), f x]) fun st1 => Tsts G c st1 tests fun b => if b = true then Ev G c st1 elt T else False) (k : K (l.zipIdx.map fun p => g p.1 p.2)) : CompR G c ρ target tests elt K (numbered (l.map f)) [] := by
  have e : numbered (l.map f) = l.zipIdx.map fun p => .tup [.int (p.2 : Int), f p.1] := by
    unfold numbered
    rw [List.zipIdx_map, List.map_map]
    rfl
  rw [e]
  exact CompR.zip (P := fun t (p : α × Nat) => t = .tup [.int (p.2 : Int), f p.1] ∧ p.1 ∈ l ∧ p.2 < l.length) (g := fun p => g p.1 p.2) (fun q x hq m T hT => by
    obtain ⟨rfl, h1, h2⟩ := hq
    exact hi x.1 x.2 h1 h2 m T hT) (Fa2.map fun p hp => ⟨rfl, List.fst_mem_of_mem_zipIdx hp, List.snd_lt_of_mem_zipIdx hp⟩) k
theorem numF_rows (fs : List (PV × PV)) : (fs.zipIdx.map fun p => PV.tup [.str (toString (p.2 : Int)), p.1.1]) = (numF fs).map fun f => .tup [.str f.1, f.2.1] := by
  unfold numF
  rw [List.map_map]; rfl
theorem call_str_n {G : Gx} {c : Cx} {st : AS} {n : Nat} {Q : PV → Prop} (h : n < 20) (q : Q (.str (toString (n : Int)))) : OpL G c st callL [.ty "str", .int (n : Int)] Q :=
  call_str_i ((show ∀ n : Nat, n < 20 → ((n : Int).natAbs).log2 < 1920 by decide +kernel) n h) q
end
section
noncomputable abbrev adtR : PV := .ins 209 [(Str.ofString "path", .str (Str.ofString "R")), (Str.ofString "module", .str (Str.ofString "")), (Str.ofString "regions", .tup [.str (Str.ofString "'r")]), (Str.ofString "params", .tup []), (Str.ofString "variants", .lst [.tup [.str (Str.ofString "R"), .str (Str.ofString "unit"), .lst []]]), (Str.ofString "publics", .adr 198), (Str.ofString "is_enum", .bool false)]
noncomputable abbrev worldA (nsR nsT : List Str) (vars : List (PV × PV × Fs)) (e : Bool) : List (Str × PV) := [(Str.ofString "R", adtR), (Str.ofString "m::T", adtT (.tup (nsR.map PV.str)) (.tup (nsT.map PV.str)) (.lst (vars.map varPV)) (.bool e))]
theorem take2 (a b : Str) {i : Nat} (h : (i : Int) < 3) : ∃ ns : List Str, List.take i [PV.str a, PV.str b] = ns.map PV.str ∧ (ns = [] ∨ ns = [a] ∨ ns = [a, b]) := by
  match i, h with
  | 0, _ => exact ⟨[], rfl, .inl rfl⟩
  | 1, _ => exact ⟨[a], rfl, .inr (.inl rfl)⟩
  | 2, _ => exact ⟨[a, b], rfl, .inr (.inr rfl)⟩
  | n + 3, h => exact absurd h (by omega)
end
section
noncomputable abbrev sh : Str := Str.ofString "h"
noncomputable abbrev sk : Str := Str.ofString "k"
theorem take3 (a b c : Str) {i : Nat} (h : (i : Int) < 4) : ∃ ns : List Str, List.take i [PV.str a, PV.str b, PV.str c] = ns.map PV.str ∧ (ns = [] ∨ ns = [a] ∨ ns = [a, b] ∨ ns = [a, b, c]) := by
  match i, h with
  | 0, _ => exact ⟨[], rfl, .inl rfl⟩
  | 1, _ => exact ⟨[a], rfl, .inr (.inl rfl)⟩
  | 2, _ => exact ⟨[a, b], rfl, .inr (.inr (.inl rfl))⟩
  | 3, _ => exact ⟨[a, b, c], rfl, .inr (.inr (.inr rfl))⟩
  | n + 4, h => exact absurd h (by omega)
theorem fl_sub {ns : List Str} : ∀ {rs : List PV}, Fl (fun q o => ∃ n, q = .str n ∧ (o = none ∨ o = some (.str n))) (ns.map PV.str) rs → ∃ bs : List Str, rs = bs.map PV.str ∧ bs.Sublist ns := by
  induction ns with
  | nil => intro rs h; cases h; exact ⟨[], rfl, .slnil⟩
  | cons n ns ih =>
    intro rs h
    rcases h.inv with ⟨r, rs', rfl, ⟨m, e1, e2⟩, h⟩ | ⟨_, h⟩
    · obtain ⟨bs, h1, h2⟩ := ih h
      cases e1
      rcases e2 with e2 | e2
      · cases e2
      · cases e2; exact ⟨n :: bs, by rw [h1]; rfl, h2.cons_cons n⟩
    · obtain ⟨bs, h1, h2⟩ := ih h
      exact ⟨bs, h1, h2.cons n⟩
noncomputable abbrev rowPV (p : Str × Bool) : PV := .tup [.str p.1, .bool p.2]
theorem fl_rows {ns : List Str} : ∀ {rs : List PV}, Fl (fun q o => ∃ n, q = .str n ∧ (o = none ∨ ∃ b, o = some (.tup [.str n, .bool b]))) (ns.map PV.str) rs → ∃ rows : List (Str × Bool), rs = rows.map rowPV ∧ (rows.map (·.1)).Sublist ns := by
  induction ns with
  | nil => intro rs h; cases h; exact ⟨[], rfl, .slnil⟩
  | cons n ns ih =>
    intro rs h
    rcases h.inv with ⟨r, rs', rfl, ⟨m, e1, e2⟩, h⟩ | ⟨_, h⟩
    · obtain ⟨bs, h1, h2⟩ := ih h
      cases e1
      rcases e2 with e2 | ⟨b, e2⟩
      · cases e2
      · cases e2; exact ⟨(n, b) :: bs, by rw [h1]; rfl, h2.cons_cons n⟩
    · obtain ⟨bs, h1, h2⟩ := ih h
      exact ⟨bs, h1, h2.cons n⟩
noncomputable def dstep (d : Option Bool) (p : Str × Bool) : Option Bool := match d with
  | some x => some x
  | none => if (p.1 == sk) = true then some false else if p.2 = false then some true else none
noncomputable def dpv : Option Bool → PV
  | none => .none
  | some false => .tup [.int 34, .str w0]
  | some true => .tup [.int 34, .str w1]
noncomputable def dueOf (names bodies has : List Str) (d : Option Bool) : PV := match d with
  | some b => dpv (some b)
  | none => if (names.filter fun x => !(has ++ bodies).contains x).isEmpty = false then .tup [.int 34, .str w2] else .none
theorem dfold_some (b : Bool) : ∀ rows : List (Str × Bool), rows.foldl dstep (some b) = some b
  | [] => rfl
  | _ :: rows => dfold_some b rows
theorem said0 : ∀ x ∈ [sf, sg, sh, sk], heardOf (Str.ofString "Q" ++ Str.ofString " has no method " ++ x) 34 = .tup [.int 34, .str w0] ∧ anyW (Str.ofString "Q" ++ Str.ofString " has no method " ++ x) = true := fun x hx => by
  have h : hasW (Str.ofString "Q" ++ Str.ofString " has no method " ++ x) w0 = true := hasW_append (by decide +kernel)
  exact ⟨heard0 h, by unfold anyW; rw [h]; rfl⟩
theorem said1 : ∀ x ∈ [sf, sg, sh, sk], heardOf (Str.ofString "the method " ++ x ++ Str.ofString " is not as " ++ Str.ofString "Q" ++ Str.ofString " tells it") 34 = .tup [.int 34, .str w1] ∧ anyW (Str.ofString "the method " ++ x ++ Str.ofString " is not as " ++ Str.ofString "Q" ++ Str.ofString " tells it") = true := fun x hx => by
  simp only [List.mem_cons, List.not_mem_nil, or_false] at hx
  rcases hx with rfl | rfl | rfl | rfl <;> exact ⟨heard1 (by decide +kernel) (by decide +kernel), by decide +kernel⟩
theorem said2 : ∀ x ∈ [sf, sg, sh, sk], heardOf (Str.ofString "the method " ++ x ++ Str.ofString " of " ++ Str.ofString "Q" ++ Str.ofString " is missing") 34 = .tup [.int 34, .str w2] ∧ anyW (Str.ofString "the method " ++ x ++ Str.ofString " of " ++ Str.ofString "Q" ++ Str.ofString " is missing") = true := fun x hx => by
  simp only [List.mem_cons, List.not_mem_nil, or_false] at hx
  rcases hx with rfl | rfl | rfl | rfl <;> exact ⟨heard2 (by decide +kernel) (by decide +kernel) (by decide +kernel), by decide +kernel⟩
theorem miss_law {names bodies has : List Str} : ∀ (l : List Str), (∀ x ∈ l, x ∈ [sf, sg, sh, sk]) → ∀ r : PV, ((missMsg names bodies has l = none ∧ r = .none) ∨ ∃ m, missMsg names bodies has l = some m ∧ r = heardOf m 34) → r = (if (l.filter fun x => !(has ++ bodies).contains x).isEmpty = false then .tup [.int 34, .str w2] else .none) ∧ ∀ m, missMsg names bodies has l = some m → anyW m = true
  | [], _, r, h => by
    rcases h with ⟨_, h⟩ | ⟨m, h, _⟩
    · exact ⟨by rw [h]; rfl, fun m e => by cases e⟩
    · cases h
  | x :: l, hx, r, h => by
    have hx0 := hx x (.head _)
    rw [miss1] at h ⊢
    by_cases q : has.contains x = false ∧ bodies.contains x = false
    · rw [if_pos q] at h ⊢
      rcases h with ⟨h, _⟩ | ⟨m, h, e⟩
      · cases h
      · have h := Option.some.inj h
        subst h
        refine ⟨?_, fun m e => by have e := Option.some.inj e; subst e; exact (said2 x hx0).2⟩
        have hc : (has ++ bodies).contains x = false := by
          simp only [List.contains_eq_mem, List.mem_append, decide_eq_false_iff_not] at q ⊢
          exact fun z => z.elim q.1 q.2
        rw [e, (said2 x hx0).1, List.filter_cons, hc]; rfl
    · rw [if_neg q] at h ⊢
      have := miss_law l (fun y hy => hx y (.tail _ hy)) r h
      have hc : (has ++ bodies).contains x = true := by
        simp only [List.contains_eq_mem, List.mem_append, decide_eq_false_iff_not, decide_eq_true_eq] at q ⊢
        by_cases z : x ∈ has
        · exact .inl z
        · exact .inr (Classical.byContradiction fun w => q ⟨z, w⟩)
      rw [List.filter_cons, hc]
      exact this
theorem meth_law {names bodies has : List Str} (hk : sk ∉ names) (hn : ∀ x ∈ names, x ∈ [sf, sg, sh, sk]) : ∀ (rows : List (Str × Bool)), (∀ p ∈ rows, p.1 = sk ∨ p.1 ∈ names) → ∀ r : PV, ((methMsg names bodies has rows = none ∧ r = .none) ∨ ∃ m, methMsg names bodies has rows = some m ∧ r = heardOf m 34) → r = dueOf names bodies has (rows.foldl dstep none)
  | [], _, r, h => by
    rw [meth0] at h
    exact (miss_law names hn r h).1
  | (x, b) :: rows, hp, r, h => by
    have hx := hp (x, b) (.head _)
    rw [meth1] at h
    rw [List.foldl_cons]
    by_cases q : x = sk
    · subst q
      rw [if_pos (by rw [List.contains_eq_mem, decide_eq_false_iff_not]; exact hk)] at h
      rcases h with ⟨h, _⟩ | ⟨m, h, e⟩
      · cases h
      · have h := Option.some.inj h
        subst h
        rw [e, (said0 sk (by simp)).1, show dstep none (sk, b) = some false from by rw [dstep, if_pos (by rfl)], dfold_some]; rfl
    · have hxn : x ∈ names := hx.resolve_left q
      rw [if_neg (by rw [List.contains_eq_mem, decide_eq_false_iff_not]; exact fun z => z hxn)] at h
      have q' : ¬ (x == sk) = true := fun z => q (beq_iff_eq.mp z)
      by_cases qb : b = false
      · rw [if_pos qb] at h
        rcases h with ⟨h, _⟩ | ⟨m, h, e⟩
        · cases h
        · have h := Option.some.inj h
          subst h
          rw [e, (said1 x (hn x hxn)).1, show dstep none (x, b) = some true from by rw [dstep, if_neg q', if_pos qb], dfold_some]; rfl
      · rw [if_neg qb] at h
        rw [show dstep none (x, b) = none from by rw [dstep, if_neg q', if_neg qb]]
        exact meth_law hk hn rows (fun p h => hp p (.tail _ h)) r h
theorem meth_any {names bodies has : List Str} (hn : ∀ x ∈ names, x ∈ [sf, sg, sh, sk]) : ∀ (rows : List (Str × Bool)), (∀ p ∈ rows, p.1 = sk ∨ p.1 ∈ names) → ∀ m, methMsg names bodies has rows = some m → anyW m = true
  | [], _, m, h => by
    rw [meth0] at h
    exact (miss_law names hn (heardOf m 34) (.inr ⟨m, h, rfl⟩)).2 m h
  | (x, b) :: rows, hp, m, h => by
    have hx : x ∈ [sf, sg, sh, sk] := (hp (x, b) (.head _)).elim (fun q => by have q : x = sk := q; rw [q]; simp) (hn x)
    rw [meth1] at h
    by_cases c : names.contains x = false
    · rw [if_pos c] at h
      rw [← Option.some.inj h]; exact (said0 x hx).2
    · rw [if_neg c] at h
      by_cases c : b = false
      · rw [if_pos c] at h
        rw [← Option.some.inj h]; exact (said1 x hx).2
      · rw [if_neg c] at h
        exact meth_any hn rows (fun p h => hp p (.tail _ h)) m h
theorem dueOf_none {names bodies has : List Str} (h : (names.filter fun x => !(has ++ bodies).contains x).isEmpty = true) : dueOf names bodies has none = .none := by
  show (if _ = false then _ else _) = _
  rw [if_neg (by rw [h]; simp)]
theorem dueOf_miss {names bodies has : List Str} (h : (names.filter fun x => !(has ++ bodies).contains x).isEmpty = false) : dueOf names bodies has none = .tup [.int 34, .str w2] := by
  show (if _ = false then _ else _) = _
  rw [if_pos h]
theorem dueOf_ok (names bodies has : List Str) (d : Option Bool) : (dueOf names bodies has d).ok = true := by
  cases d with
  | none =>
    cases h : (names.filter fun x => !(has ++ bodies).contains x).isEmpty with
    | true => rw [dueOf_none h]; rfl
    | false => rw [dueOf_miss h]; decide +kernel
  | some b =>
    show (dpv (some b)).ok = true
    cases b <;> decide +kernel
theorem str_lay {x : Str} (h : x ∈ [sf, sg, sh, sk]) : (PV.str x).lay = true ∧ x.length ≤ 100 := by
  simp only [List.mem_cons, List.not_mem_nil, or_false] at h
  rcases h with rfl | rfl | rfl | rfl <;> exact ⟨by decide +kernel, by decide +kernel⟩
end
section
noncomputable def Hole (z : Nat) (x : Str) : Prop := z ∉ x.cps.toList
theorem Hole.app {z : Nat} {a b : Str} (ha : Hole z a) (hb : Hole z b) : Hole z (a ++ b) := fun q => by
  have q : z ∈ (a.cps ++ b.cps).toList := q
  rw [Array.toList_append, List.mem_append] at q
  exact q.elim ha hb
theorem Hole.nil {z : Nat} : Hole z Str.empty := fun q => by cases q
theorem Hole.join0 {z : Nat} {sep : Str} (hs : Hole z sep) : ∀ (l : List Str), (∀ x ∈ l, Hole z x) → Hole z (Str.join sep l)
  | [], _ => Hole.nil
  | [x], h => h x (.head _)
  | x :: y :: r, h => ((h x (.head _)).app hs).app (Hole.join0 hs (y :: r) fun w hw => h w (.tail _ hw))
theorem Hole.join {z : Nat} {sep : Str} (hs : Hole z sep) {l : List Str} (h : ∀ x ∈ l, Hole z x) : Hole z (Txt.join sep l) := by
  show Hole z (Builtin.Str.glued sep l)
  rw [StrLaws.glued_eq_join]
  exact Hole.join0 hs l h
theorem Hole.adt {z : Nat} (h0 : Hole z (Str.ofString "S")) (h1 : Hole z (Str.ofString "<")) (h2 : Hole z (Str.ofString ">")) (h3 : Hole z (Str.ofString ", ")) {l : List Str} (h : ∀ x ∈ l, Hole z x) : Hole z (adtText (Str.ofString "S") l) := by
  unfold adtText
  refine h0.app ?_
  split
  · have : (Str.ofString "").cps.toList = [] := by decide +kernel
    unfold Hole; rw [this]; simp
  · exact (h1.app (Hole.join h3 h)).app h2
noncomputable abbrev rc : Str := Str.ofString "'c"
noncomputable abbrev sC : Str := Str.ofString "C"
noncomputable abbrev Reg (x : Str) : Prop := x ∈ [ra, rb, rc]
noncomputable abbrev Nam (x : Str) : Prop := x ∈ [sA, sB, sC]
theorem hole_txt {z : Nat} (hz : z = 100 ∨ z = 115 ∨ z = 103) {rs : List Str} {ts : List DT} (hr : ∀ x ∈ rs, Reg x) (ht : ∀ t ∈ ts, ∃ n, Nam n ∧ (t = .par n ∨ t = .box n)) : Hole z (adtText (Str.ofString "S") (rs ++ ts.map DT.txt)) := by
  have hn : ∀ n, Nam n → Hole z n := fun n h => by
    simp only [Nam, List.mem_cons, List.not_mem_nil, or_false] at h
    unfold Hole
    rcases hz with rfl | rfl | rfl <;> rcases h with rfl | rfl | rfl <;> decide +kernel
  have h4 : Hole z (Str.ofString "Box<") := by unfold Hole; rcases hz with rfl | rfl | rfl <;> decide +kernel
  have h2 : Hole z (Str.ofString ">") := by unfold Hole; rcases hz with rfl | rfl | rfl <;> decide +kernel
  refine Hole.adt ?_ ?_ h2 ?_ fun x hx => ?_
  · unfold Hole; rcases hz with rfl | rfl | rfl <;> decide +kernel
  · unfold Hole; rcases hz with rfl | rfl | rfl <;> decide +kernel
  · unfold Hole; rcases hz with rfl | rfl | rfl <;> decide +kernel
  · rcases List.mem_append.mp hx with hx | hx
    · have h := hr x hx
      simp only [Reg, List.mem_cons, List.not_mem_nil, or_false] at h
      unfold Hole
      rcases hz with rfl | rfl | rfl <;> rcases h with rfl | rfl | rfl <;> decide +kernel
    · obtain ⟨t, ht1, rfl⟩ := List.mem_map.mp hx
      obtain ⟨n, hn1, rfl | rfl⟩ := ht t ht1
      · exact hn n hn1
      · exact (h4.app (hn n hn1)).app h2
theorem drop_words {rs : List Str} {ts : List DT} (hr : ∀ x ∈ rs, Reg x) (ht : ∀ t ∈ ts, ∃ n, Nam n ∧ (t = .par n ∨ t = .box n)) : hasW (dropMsg rs ts) w0 = false ∧ hasW (dropMsg rs ts) w1 = false ∧ hasW (dropMsg rs ts) w2 = false ∧ hasW (dropMsg rs ts) w3 = false := by
  unfold dropMsg
  exact ⟨hasW_head (z := 100) (w' := w0.cps.toList.dropLast) (by decide +kernel) (hole_txt (.inl rfl) hr ht) (by decide +kernel),
    hasW_head (z := 115) (w' := w1.cps.toList.dropLast) (by decide +kernel) (hole_txt (.inr (.inl rfl)) hr ht) (by decide +kernel),
    hasW_head (z := 103) (w' := w2.cps.toList.dropLast) (by decide +kernel) (hole_txt (.inr (.inr rfl)) hr ht) (by decide +kernel),
    hasW_head (z := 115) (w' := w3.cps.toList.dropLast) (by decide +kernel) (hole_txt (.inr (.inl rfl)) hr ht) (by decide +kernel)⟩
noncomputable def cnt (l : List Str) (x : Str) : Int := PySem.Spec.countIn (.str x) (l.map PyData.str)
noncomputable def dup (l : List Str) : Bool := !(l.filter fun x => decide (cnt l x > 1)).isEmpty
noncomputable def isR (rs ns known : List Str) (ts : List DT) (ps : List (Str × List Str)) : Bool :=
  !dup rs && !dup ns && (rs.filter fun x => !known.contains x).isEmpty && (ts.filter fun t => !t.isPar).isEmpty && (ps.filter fun p => decide (p.2.length > 0)).isEmpty
noncomputable def allL (l : List Str) : List (List Str) := [] :: (l.map fun x => [x]) ++ l.flatMap fun x => l.map fun y => [x, y]
theorem mem_allL {l rs : List Str} (h : ∀ x ∈ rs, x ∈ l) (hl : rs.length ≤ 2) : rs ∈ allL l := by
  unfold allL
  match rs, h, hl with
  | [], _, _ => exact List.mem_append_left _ (.head _)
  | [x], h, _ => exact List.mem_append_left _ (.tail _ (List.mem_map.mpr ⟨x, h x (.head _), rfl⟩))
  | [x, y], h, _ => exact List.mem_append_right _ (List.mem_flatMap.mpr ⟨x, h x (.head _), List.mem_map.mpr ⟨y, h y (.tail _ (.head _)), rfl⟩⟩)
  | _ :: _ :: _ :: r, _, hl => simp only [List.length_cons] at hl; omega
theorem dup_uniq {l rs : List Str} (hl : l = [ra, rb, rc] ∨ l = [sA, sB, sC]) (h : rs ∈ allL l) : decide ((uniq rs : Int) < rs.length) = dup rs := by
  rcases hl with rfl | rfl
  · exact (show ∀ rs ∈ allL [ra, rb, rc], decide ((uniq rs : Int) < rs.length) = dup rs by decide +kernel) rs h
  · exact (show ∀ rs ∈ allL [sA, sB, sC], decide ((uniq rs : Int) < rs.length) = dup rs by decide +kernel) rs h
theorem filter_none {α : Type} (p : α → Bool) : ∀ l : List α, (l.filter fun x => !p x).isEmpty = decide ((l.filter p).length = l.length)
  | [] => rfl
  | x :: l => by
    have h1 := filter_none p l
    have h2 := List.length_filter_le p l
    cases e : p x with
    | true =>
      rw [List.filter_cons, if_neg (by rw [e]; simp), List.filter_cons, if_pos e, h1, List.length_cons, List.length_cons]
      exact decide_eq_decide.mpr (by omega)
    | false =>
      rw [List.filter_cons, if_pos (by rw [e]; rfl), List.filter_cons, if_neg (by rw [e]; simp), List.length_cons]
      exact (decide_eq_false (by omega)).symm
theorem filter_all {α : Type} {p : α → Bool} : ∀ {l : List α}, (l.filter p).length = l.length → l.filter p = l
  | [], _ => rfl
  | x :: l, h => by
    have h2 := List.length_filter_le p l
    cases e : p x with
    | true =>
      rw [List.filter_cons, if_pos e] at h ⊢
      rw [filter_all (by simpa using h)]
    | false =>
      rw [List.filter_cons, if_neg (by rw [e]; simp), List.length_cons] at h
      omega
theorem any_filter {α : Type} (p : α → Bool) : ∀ l : List α, (l.filter p).isEmpty = !l.any p
  | [] => rfl
  | x :: l => by
    cases e : p x with
    | true => rw [List.filter_cons, if_pos e, List.any_cons, e]; rfl
    | false => rw [List.filter_cons, if_neg (by rw [e]; simp), List.any_cons, e, any_filter p l]; rfl
theorem bad_isR {rs known : List Str} {ts : List DT} {ps : List (Str × List Str)} (hr : ∀ x ∈ rs, Reg x) (ht : ∀ t ∈ ts, Nam t.nm) (hl : rs.length ≤ 2 ∧ ts.length ≤ 2) : badDrop rs known ts ps = !isR rs (ts.map DT.nm) known ts ps := by
  unfold badDrop isR
  rw [filter_none, filter_none, any_filter]
  by_cases e1 : (ts.filter DT.isPar).length = ts.length
  · by_cases e2 : (rs.filter fun x => known.contains x).length = rs.length
    · rw [filter_all e1, filter_all e2]
      have h1 := dup_uniq (.inl rfl) (mem_allL (l := [ra, rb, rc]) hr hl.1)
      have h2 := dup_uniq (.inr rfl) (mem_allL (l := [sA, sB, sC]) (rs := ts.map DT.nm) (fun x hx => by obtain ⟨t, h, rfl⟩ := List.mem_map.mp hx; exact ht t h) (by rw [List.length_map]; exact hl.2))
      dsimp only
      rw [h1, h2]
      simp only [List.length_map, decide_true, Bool.and_true, Bool.not_true, Bool.false_or]
      cases dup rs <;> cases dup (ts.map DT.nm) <;> cases ps.any fun p => decide (p.2.length > 0) <;> rfl
    · rw [decide_eq_false e2]
      have : decide (((rs.filter fun x => known.contains x).length : Int) = rs.length) = false := decide_eq_false (by omega)
      simp only [this, Bool.and_false, Bool.false_and, Bool.not_false, Bool.true_or]
  · rw [decide_eq_false e1]
    have : decide (((((ts.filter DT.isPar).map DT.nm)).length : Int) = ts.length) = false := decide_eq_false (by rw [List.length_map]; omega)
    simp only [this, Bool.and_false, Bool.false_and, Bool.not_false, Bool.true_or]
noncomputable def dueDrop (b : Bool) : PV := if b = true then .none else .tup [.int 21, .str w4]
theorem drop_law {rs known : List Str} {ts : List DT} {ps : List (Str × List Str)} (hr : ∀ x ∈ rs, Reg x) (ht : ∀ t ∈ ts, ∃ n, Nam n ∧ (t = .par n ∨ t = .box n)) (hl : rs.length ≤ 2 ∧ ts.length ≤ 2) : dropRes rs known ts ps = dueDrop (isR rs (ts.map DT.nm) known ts ps) := by
  have hb := bad_isR (known := known) (ps := ps) hr (fun t h => by obtain ⟨n, hn, rfl | rfl⟩ := ht t h <;> exact hn) hl
  cases e : isR rs (ts.map DT.nm) known ts ps with
  | true => rw [e] at hb; rw [dropRes_none hb]; rfl
  | false =>
    rw [e] at hb
    obtain ⟨h0, h1, h2, h3⟩ := drop_words hr ht
    rw [dropRes_all hb h0 h1 h2 h3]; rfl
theorem dueDrop_ok (b : Bool) : (dueDrop b).ok = true := by cases b <;> decide +kernel
end
section
noncomputable abbrev boundPV (p : Str × List Str) : PV := .tup [.str p.1, .tup (p.2.map PV.str)]
theorem rep_c {i : Nat} (h : (i : Int) < 2) : ∃ kn : List Str, (List.replicate i [PV.str rc]).flatten = kn.map PV.str ∧ (kn = [] ∨ kn = [rc]) := by
  match i, h with
  | 0, _ => exact ⟨[], rfl, .inl rfl⟩
  | 1, _ => exact ⟨[rc], rfl, .inr rfl⟩
  | n + 2, h => exact absurd h (by omega)
theorem ne_nil_l (l : List PV) : (!PyData.eqv (PV.lst l).d (PV.lst []).d) = !l.isEmpty := by
  cases l with
  | nil => rfl
  | cons x l => simp [PV.dL, PV.dT, PV.ds0, PV.ds1, PyData.eqv, PyData.eqvAll]
theorem ne_nil_t (l : List PV) : (!PyData.eqv (PV.tup l).d (PV.tup []).d) = !l.isEmpty := by
  cases l with
  | nil => rfl
  | cons x l => simp [PV.dL, PV.dT, PV.ds0, PV.ds1, PyData.eqv, PyData.eqvAll]
theorem abc_lay {x : Str} (h : Reg x ∨ Nam x) : (PV.str x).lay = true ∧ x.length ≤ 90 := by
  rcases h with h | h
  · simp only [Reg, List.mem_cons, List.not_mem_nil, or_false] at h
    rcases h with rfl | rfl | rfl <;> exact ⟨by decide +kernel, by decide +kernel⟩
  · simp only [Nam, List.mem_cons, List.not_mem_nil, or_false] at h
    rcases h with rfl | rfl | rfl <;> exact ⟨by decide +kernel, by decide +kernel⟩
theorem dt_ok {t : DT} (h : ∃ n, Nam n ∧ (t = .par n ∨ t = .box n)) : t.pv.lay = true ∧ t.pv.dep ≤ 20 := by
  obtain ⟨n, hn, h⟩ := h
  simp only [Nam, List.mem_cons, List.not_mem_nil, or_false] at hn
  rcases h with rfl | rfl <;> rcases hn with rfl | rfl | rfl <;> exact ⟨by decide +kernel, by decide +kernel⟩
theorem known_reg {kn : List Str} (h : kn = [] ∨ kn = [rc]) : ∀ x ∈ [ra, rb] ++ kn, Reg x := by
  rcases h with rfl | rfl
  · exact (show ∀ x ∈ [ra, rb] ++ ([] : List Str), x ∈ [ra, rb, rc] by decide +kernel)
  · exact (show ∀ x ∈ [ra, rb] ++ [rc], x ∈ [ra, rb, rc] by decide +kernel)
end
section
noncomputable abbrev nm (x : String) (a b c d : Nat) : Expr := .Name (Str.ofString x) ⟨a, b, c, d⟩
noncomputable def lawB : List Stmt :=
  [.If (.BoolOp .Or [.UnaryOp .Not (.Call (nm "_law_methods_told" 343 11 343 28) [] [] ⟨343, 11, 343, 30⟩) ⟨343, 7, 343, 30⟩, .UnaryOp .Not (.Call (nm "_law_drops_told" 343 38 343 53) [] [] ⟨343, 38, 343, 55⟩) ⟨343, 34, 343, 55⟩] ⟨343, 7, 343, 55⟩)
    [.Return (some (.Constant (.bool false) 0 ⟨344, 15, 344, 20⟩)) ⟨344, 8, 344, 20⟩] [] ⟨343, 4, 344, 20⟩,
   .Assign [nm "source" 345 4 345 10] (.Call (nm "_law_pool" 345 13 345 22) [nm "script" 345 23 345 29] [] ⟨345, 13, 345, 30⟩) ⟨345, 4, 345, 30⟩,
   .Return (some (.BoolOp .And [.Call (nm "_law_types_right" 346 11 346 27) [nm "source" 346 28 346 34] [] ⟨346, 11, 346, 35⟩, .Call (nm "_law_drop_right" 346 40 346 55) [nm "source" 346 56 346 62] [] ⟨346, 40, 346, 63⟩, .Call (nm "_law_methods_right" 346 68 346 86) [nm "source" 346 87 346 93] [] ⟨346, 68, 346, 94⟩] ⟨346, 11, 346, 94⟩)) ⟨346, 4, 346, 94⟩]
noncomputable def lawS : Scope := { kind := .function, names := [(Str.ofString "script", .local), (Str.ofString "source", .local), (Str.ofString "_law_methods_told", .globalImplicit), (Str.ofString "_law_drops_told", .globalImplicit), (Str.ofString "_law_pool", .globalImplicit), (Str.ofString "_law_types_right", .globalImplicit), (Str.ofString "_law_drop_right", .globalImplicit), (Str.ofString "_law_methods_right", .globalImplicit)], isGenerator := false, isCoroutine := false }
noncomputable abbrev lcx (h₀ : Heap) (L fa : Addr) (cd : Value) (dp un : Nat) (gd : Option (List Code)) (hid : Addr → Prop) : Cx :=
  { h₀ := h₀, outer := [], fr := [], L := L, env := envOf (Str.ofString "law") lawS L fa cd, fenv := envOf (Str.ofString "law") lawS L fa cd, dp := dp, un := un, gd := gd, hid := hid, mf := none, hdl := none }
theorem lay_log {l : List Int} (h : (PyData.list (l.map PyData.int)).layable0 = true) : ∀ x ∈ l, x.natAbs.log2 < 2 ^ 25 := fun x hx => by
  unfold PyData.layable0 at h
  simp only [Bool.and_eq_true, decide_eq_true_eq] at h
  have h2 := h.2
  rw [PyData.weight] at h2
  have key : ∀ l : List Int, x ∈ l → x.natAbs.log2 ≤ PyData.weightAll (l.map PyData.int) := fun l => by
    induction l with
    | nil => intro h; cases h
    | cons y l ih =>
      intro h
      rw [List.map_cons, PyData.weightAll]
      rcases List.mem_cons.mp h with rfl | h
      · rw [PyData.weight]
        split
        · rename_i e
          have : x = 0 := beq_iff_eq.mp e
          subst this
          exact Nat.zero_le _
        · omega
      · have := ih h
        omega
  have := key l hx
  exact Nat.lt_of_le_of_lt (Nat.le_trans this h2) (by decide)
end
section
noncomputable section
variable {w : WX} {s : AT} {m : Str → Option Value}
section
variable {Q : PV → Prop} {pos : Pos} {N : AT → Prop} {R : PV → Prop} {X : List (Str × PV) → Prop} {rest b : List Stmt} {t : Expr}
theorem EvT.lam {params : Arguments} {body : Expr} {scope : Scope} {x : Str} {cc ca tab : Addr} (hL : w.G.klam = lamK) (hP : w.G.kput = putK) (hkp : lamK = ⟨"<lambda>", w.c.env.qual ++ "<lambda>", params, .expr body, scope, x, pos, tab⟩)
    (hcode : w.c.env.code = .ref cc) (C : codeHdIn w.K cc tab = true) (hcl : closureFor scope w.c.env = pure [(x, ca)]) (hq : ∀ f, Q (.adr f)) (hdef : autoParam (defaultsOf params w.c.env = ([], [])) aRfl) : EvT w s (.Lambda params body scope pos) Q := .i fun hw m =>
  Ev.lam hw.O (hL.trans hkp) (by rw [hP, hL]; decide) hcode (hw.k ▸ C) hcl hq hdef
theorem ForT.zcons {p q : PV} {l1 l2 : List PV} (k : AsgT w s t (.tup [p, q]) fun s1 => ExsT w s1 b (fun s2 => ForT w t b N R X (zipped l1 l2) s2) R X) : ForT w t b N R X (zipped (p :: l1) (q :: l2)) s := ForT.cons k
theorem ForT.znil (k : N s) : ForT w t b N R X (zipped [] []) s := ForT.nil k
theorem EvKT.world {xp cp : Pos} {k : Nat} {P : MK → Prop} (hx : evalP w s.ρ fuel (.Name (Str.ofString "World") xp) = some (.adr 302)) (hq : ∀ x dx d1 d2 d3 d4 d5 d6, P (.wld 302 x dx (worldF d1 d2 d3 d4 d5 d6 [] [] []))) : EvKT w s (.Call (.Name (Str.ofString "World") xp) [.Constant .none k cp] [] pos) P := .i fun hw m =>
  k_world hw.k hw.O hw.r (evalP_ok hw fuel _ _ hx _ rfl) hq
theorem ExsT.wset {x f : Str} {xp fp spos : Pos} {key value : Expr} {C a dx d : Addr} {fl : List (Str × WV)} {l : List (Str × PV)} (hl : s.ρ.lookup x = some (.mut (.wld C a dx fl))) (hf : fl.lookup f = some (.md d l)) (hn : (l.map (·.1)).Nodup) (hsz : l.length ≤ 16777215)
    (ha : attrOk w.K C f = true) (h : EvT w s value fun q => EvT w s key fun kq => ∃ t, kq = .str t ∧ ExsT w (s.put x (.wld C a dx (updW fl f (.md d (putPV l t q))))) rest N R X) (hd : autoParam ((x == ("__debug__" : Str)) = false) aDec)
    (he : autoParam (eval (.Attribute (.Name x xp) f fp) w.c.env = (do
      let o ← eval (.Name x xp) w.c.env
      standAt fp.atName
      let r ← holding [o] (getAttr o f true)
      letTemporaryGo (.Name x xp) o r
      pure r)) aWu)
    (hs : autoParam (swapsWith value (some (.Subscript (.Attribute (.Name x xp) f fp) key spos)) pos.line w.c.env = pure false) aRfl) : ExsT w s (.Assign [.Subscript (.Attribute (.Name x xp) f fp) key spos] value pos :: rest) N R X := .i fun hw m =>
  Exs.cons (Ex.wset hw.O hl hf hn hsz (by rw [hw.k]; exact ha) ((h.e hw m).mono fun q h => (h.e hw m).mono fun kq ⟨t, e, h⟩ => ⟨t, e, h.e hw m⟩) hd he hs)
end
end
end
section
noncomputable section
variable {w : WX} {s : AT} {m : Str → Option Value}
theorem ExsT.defPut {N : AT → Prop} {R : PV → Prop} {X : List (Str × PV) → Prop} {rest body : List Stmt} {name : Str} {params : Arguments} {scope : Scope} {pos : Pos} {x : Str} {q : PV} {cc ca tab : Addr} (hL : w.G.klam = lamK) (hP : w.G.kput = putK)
    (hkp : putK = ⟨name, qualnameIn w.c.env name name, params, .stmts body, scope, x, pos, tab⟩) (hcode : w.c.env.code = .ref cc) (C : codeHdIn w.K cc tab = true) (hcl : closureFor scope w.c.env = pure [(x, ca)]) (hdoc : noDoc (.stmts body) = true)
    (hx : s.ρ.lookup x = some (.v q)) (hk : w.c.env.kindOf x = some .cell) (hca : w.c.env.cells.lookup x = some ca) (hmem : ca ∈ s.hc) (hnh : ¬ w.c.hid ca)
    (hs : StoresT w ⟨s.ρ, s.hc.filter fun b => !(b == ca)⟩ name) (hN : ExsT w (AT.set ⟨s.ρ, s.hc.filter fun b => !(b == ca)⟩ name (.put q)) rest N R X)
    (hd0 : autoParam (params.defaults = []) aRfl) (hk0 : autoParam (params.kw_defaults = []) aRfl) (ha : autoParam (annTrees params none w.c.env = []) aRfl) : ExsT w s (.FunctionDef name params body [] none [] scope none name pos :: rest) N R X := .i fun hw m =>
  Exs.cons (Ex.defPut hw.O (hP.trans hkp) (by rw [hP, hL]; decide) hcode (hw.k ▸ C) hcl hdoc hx hk hca hmem hnh hs (fun m' => hN.e hw m') hd0 hk0 ha)
end
end
section
noncomputable section
variable {w : WX} {s : AT} {m : Str → Option Value}
theorem CompT.num {α : Type} {ρ : List (Str × LV)} {t e : Expr} {ts : List Expr} {K : List PV → Prop} {f : α → PV} {g : α → Nat → PV} {l : List α}
    (hi : ∀ x i, x ∈ l → i < l.length → ∀ T : PV → Prop, T (g x i) → TurnT w ρ t ts e (.tup [.int (i : Int), f x]) T False) (k : K (l.zipIdx.map fun p => g p.1 p.2)) : CompT w ρ t ts e K (numbered (l.map f)) [] := .i fun hw =>
  CompR.num (fun x i hx hlt m T hT => (hi x i hx hlt T hT).e hw m) k
theorem OpLT.str_n {n : Nat} {Q : PV → Prop} (h : n < 20) (q : Q (.str (toString (n : Int)))) : OpLT w s callL [.ty "str", .int (n : Int)] Q := .i fun hw m => call_str_n h q
end
end
section
theorem OpLT.take {w : WX} {s : AT} {f : PV} {qs : List PV} {k : Nat} {top : Int} {Q : PV → Prop} (h : Fn w.G f qs k fun r => ∃ i : Nat, r = .int i ∧ (i : Int) < top) (hn : k ≤ w.n) (q : ∀ i : Nat, (i : Int) < top → Q (.int i)) : OpLT w s callL (f :: qs) Q := .fn h hn fun r h => h.elim fun i h => h.1 ▸ q i h.2
theorem EvT.upto2 {w : WX} {s : AT} {a b : Str} {value upper : Expr} {sp pos : Pos} {Q : PV → Prop} (hv : evalP w s.ρ fuel value = some (.lst [.str a, .str b])) (h : EvT w s upper fun q => ∃ i : Nat, q = .int i ∧ (i : Int) < 3) (k : ∀ ns : List Str, (ns = [] ∨ ns = [a] ∨ ns = [a, b]) → Q (.lst (ns.map PV.str))) :
    EvT w s (.Subscript value (.Slice none (some upper) none sp) pos) Q := .upto (.val hv ⟨_, rfl, bleT (by rfl), h.mono fun q h => by
    obtain ⟨i, e, hi⟩ := h
    obtain ⟨ns, h1, h2⟩ := take2 a b hi
    exact ⟨i, e, by show i ≤ 2; omega, by rw [h1]; exact k ns h2⟩⟩)
theorem EvT.upto3 {w : WX} {s : AT} {a b c : Str} {value upper : Expr} {sp pos : Pos} {Q : PV → Prop} (hv : evalP w s.ρ fuel value = some (.lst [.str a, .str b, .str c])) (h : EvT w s upper fun q => ∃ i : Nat, q = .int i ∧ (i : Int) < 4) (k : ∀ ns : List Str, (ns = [] ∨ ns = [a] ∨ ns = [a, b] ∨ ns = [a, b, c]) → Q (.lst (ns.map PV.str))) :
    EvT w s (.Subscript value (.Slice none (some upper) none sp) pos) Q := .upto (.val hv ⟨_, rfl, bleT (by rfl), h.mono fun q h => by
    obtain ⟨i, e, hi⟩ := h
    obtain ⟨ns, h1, h2⟩ := take3 a b c hi
    exact ⟨i, e, by show i ≤ 3; omega, by rw [h1]; exact k ns h2⟩⟩)
theorem CompT.xs {α : Type} {g : α → PV} {S : PV → α → Prop} {w : WX} {ρ : List (Str × LV)} {t e : Expr} {ts : List Expr} {K : List PV → Prop} {l : List PV} (hi : ∀ q ∈ l, ∀ (T : PV → Prop) (Z : Prop), (∀ x, S q x → T (g x)) → TurnT w ρ t ts e q T Z) (k : ∀ xs : List α, xs.length = l.length → Fa2 S l xs → K (xs.map g)) : CompT w ρ t ts e K l [] :=
  CompT.of (fun q o => ∃ x, o = some (g x) ∧ S q x) (fun q hq T hT => hi q hq _ _ fun x s => hT _ ⟨x, rfl, s⟩) fun rs h => by
    obtain ⟨xs, h1, h2, h3⟩ := h.xs (g := g) (S := S) fun _ _ _ p => p
    subst h2
    exact k xs h1 h3
theorem CompT.zipS {P : PV → Prop} {ns : List Str} {w : WX} {ρ : List (Str × LV)} {t e : Expr} {ts : List Expr} {K : List PV → Prop} (hi : ∀ (n : Str) (T : PV → Prop) (Z : Prop), (∀ v, P v → T (.tup [.str n, v])) → TurnT w ρ t ts e (.str n) T Z)
    (k : ∀ vs : List PV, ns.length = vs.length → (∀ v ∈ vs, P v) → K ((ns.zip vs).map fun p => .tup [.str p.1, p.2])) : CompT w ρ t ts e K (ns.map PV.str) [] :=
  CompT.of (fun q o => ∃ n v, q = .str n ∧ o = some (.tup [.str n, v]) ∧ P v) (fun q hq T hT => by
    obtain ⟨n, _, rfl⟩ := List.mem_map.mp hq
    exact hi n _ _ fun v hv => hT _ ⟨n, v, rfl, rfl, hv⟩) fun rs hr => by
    obtain ⟨vs, h1, h2, h3⟩ := fl_zip hr
    subst h2
    exact k vs h1 h3
noncomputable def same (top : List (Str × LV)) : List (Str × LV) → Prop
  | [] => True
  | p :: l => top.lookup p.1 = some p.2 ∧ same top l
theorem same_mem {top : List (Str × LV)} : ∀ {l : List (Str × LV)}, same top l → ∀ x q, l.lookup x = some q → top.lookup x = some q
  | [], _, _, _, e => by cases e
  | p :: l, h, x, q, e => by
    rw [List.lookup_cons] at e
    by_cases hx : (x == p.1) = true
    · rw [hx] at e; cases e; rw [beq_iff_eq.mp hx]; exact h.1
    · rw [Bool.eq_false_iff.mpr hx] at e; exact same_mem h.2 x q e
theorem LessT.tp {ρ1 : List (Str × LV)} {hc : List Addr} (top top' : List (Str × LV)) (h1 : same top top') (h2 : lessB top top' ρ1 = true) : LessT ⟨top' ++ ρ1, hc⟩ ⟨top ++ ρ1, hc⟩ := ⟨rfl, fun y q ey => by
  have ey : (top' ++ ρ1).lookup y = some q := ey
  show (top ++ ρ1).lookup y = some q
  rw [List.lookup_append] at ey ⊢
  cases e1 : top'.lookup y with
  | some q' => rw [same_mem h1 y q' e1]; rw [e1] at ey; exact ey
  | none =>
    rw [e1, Option.none_or] at ey
    cases e2 : top.lookup y with
    | none => rw [Option.none_or]; exact ey
    | some q2 =>
      obtain ⟨p, hp, rfl⟩ := lookup_inT e2
      have h := List.all_eq_true.mp h2 p hp
      rw [e1, ey] at h
      cases h⟩
end
section
section
variable {G : Gx}
theorem g_parts (hK : G.K = hp.heap_1 G.w.params) {t : PV} {l : List PV}
    (ht : (∃ n, t = tPar n ∧ l = []) ∨ (t = tByte ∧ l = []) ∨ (t = tBool ∧ l = []) ∨ (t = tUnit ∧ l = []) ∨ (∃ q, t = tBox q ∧ l = [q]) ∨ (∃ q k, t = tArr q k ∧ l = [q]) ∨ (∃ r b q, t = tRef r b q ∧ l = [q]) ∨ (∃ p rs ps, t = tAdt p rs ps ∧ l = ps)) :
    Fn G (.adr 73) [t] 1 (fun r => r = .tup l) := by
  refine Fn.introT (names := [Str.ofString "told"]) hK (by rfl) (by rfl) (arity1 fun _ => rfl) (by rfl) fun p => ?_
  rcases ht with ⟨n, rfl, rfl⟩ | ⟨rfl, rfl⟩ | ⟨rfl, rfl⟩ | ⟨rfl, rfl⟩ | ⟨q, rfl, rfl⟩ | ⟨q, k, rfl, rfl⟩ | ⟨r, b, q, rfl, rfl⟩ | ⟨p, rs, ps, rfl, rfl⟩
  · refine ExsT.asgV ?_ rfl ?_; (· exact .inl (by rfl))
    refine ExsT.ifN rfl ?_
    refine ExsT.ifN rfl ?_
    refine ExsT.ifN rfl ?_
    refine ExsT.ret ?_
    refine EvT.ifF rfl ?_
    refine EvT.val rfl ?_
    with_reducible rfl
  · refine ExsT.asgV ?_ rfl ?_; (· exact .inl (by rfl))
    refine ExsT.ifN rfl ?_
    refine ExsT.ifN rfl ?_
    refine ExsT.ifN rfl ?_
    refine ExsT.ret ?_
    refine EvT.ifF rfl ?_
    refine EvT.val rfl ?_
    with_reducible rfl
  · refine ExsT.asgV ?_ rfl ?_; (· exact .inl (by rfl))
    refine ExsT.ifN rfl ?_
    refine ExsT.ifN rfl ?_
    refine ExsT.ifN rfl ?_
    refine ExsT.ret ?_
    refine EvT.ifF rfl ?_
    refine EvT.val rfl ?_
    with_reducible rfl
  · refine ExsT.asgV ?_ rfl ?_; (· exact .inl (by rfl))
    refine ExsT.ifN rfl ?_
    refine ExsT.ifN rfl ?_
    refine ExsT.ifT rfl ?_
    refine ExsT.retV rfl ?_
    with_reducible rfl
  · refine ExsT.asgV ?_ rfl ?_; (· exact .inl (by rfl))
    refine ExsT.ifN rfl ?_
    refine ExsT.ifT rfl ?_
    refine ExsT.retV rfl ?_
    with_reducible rfl
  · refine ExsT.asgV ?_ rfl ?_; (· exact .inl (by rfl))
    refine ExsT.ifN rfl ?_
    refine ExsT.ifT rfl ?_
    refine ExsT.retV rfl ?_
    with_reducible rfl
  · refine ExsT.asgV ?_ rfl ?_; (· exact .inl (by rfl))
    refine ExsT.ifT rfl ?_
    refine ExsT.retV rfl ?_
    with_reducible rfl
  · refine ExsT.asgV ?_ rfl ?_; (· exact .inl (by rfl))
    refine ExsT.ifN rfl ?_
    refine ExsT.ifN rfl ?_
    refine ExsT.ifN rfl ?_
    refine ExsT.ret ?_
    refine EvT.ifT rfl ?_
    refine EvT.val rfl ?_
    with_reducible rfl
theorem g_rebuilt (hK : G.K = hp.heap_1 G.w.params) {t u : PV} {l : List PV}
    (ht : (∃ n, t = tPar n ∧ u = t) ∨ (t = tByte ∧ u = t) ∨ (t = tBool ∧ u = t) ∨ (t = tUnit ∧ l = [] ∧ u = t) ∨ (∃ q q', t = tBox q ∧ l = [q'] ∧ u = tBox q') ∨ (∃ q q' k, t = tArr q k ∧ l = [q'] ∧ u = tArr q' k) ∨ (∃ r b q q', t = tRef r b q ∧ l = [q'] ∧ u = tRef r b q') ∨ (∃ p rs, t = tAdt p rs [] ∧ l = [] ∧ u = t)) :
    Fn G (.adr 80) [t, .lst l] 1 (fun r => r = u) := by
  refine Fn.introT (names := [Str.ofString "told", Str.ofString "parts"]) hK (by rfl) (by rfl) (arity2 fun _ _ => rfl) (by rfl) fun p => ?_
  rcases ht with ⟨n, rfl, rfl⟩ | ⟨rfl, rfl⟩ | ⟨rfl, rfl⟩ | ⟨rfl, rfl, rfl⟩ | ⟨q, q', rfl, rfl, rfl⟩ | ⟨q, q', k, rfl, rfl, rfl⟩ | ⟨r, b, q, q', rfl, rfl, rfl⟩ | ⟨p, rs, rfl, rfl, rfl⟩
  · refine ExsT.asgV ?_ rfl ?_; (· exact .inl (by rfl))
    refine ExsT.ifN rfl ?_
    refine ExsT.ifN rfl ?_
    refine ExsT.ifN rfl ?_
    refine ExsT.ifN rfl ?_
    refine ExsT.ret ?_
    refine EvT.ifF rfl ?_
    refine EvT.val rfl ?_
    with_reducible rfl
  · refine ExsT.asgV ?_ rfl ?_; (· exact .inl (by rfl))
    refine ExsT.ifN rfl ?_
    refine ExsT.ifN rfl ?_
    refine ExsT.ifN rfl ?_
    refine ExsT.ifN rfl ?_
    refine ExsT.ret ?_
    refine EvT.ifF rfl ?_
    refine EvT.val rfl ?_
    with_reducible rfl
  · refine ExsT.asgV ?_ rfl ?_; (· exact .inl (by rfl))
    refine ExsT.ifN rfl ?_
    refine ExsT.ifN rfl ?_
    refine ExsT.ifN rfl ?_
    refine ExsT.ifN rfl ?_
    refine ExsT.ret ?_
    refine EvT.ifF rfl ?_
    refine EvT.val rfl ?_
    with_reducible rfl
  · refine ExsT.asgV ?_ rfl ?_; (· exact .inl (by rfl))
    refine ExsT.ifN rfl ?_
    refine ExsT.ifN rfl ?_
    refine ExsT.ifN rfl ?_
    refine ExsT.ifT rfl ?_
    refine ExsT.ret ?_
    refine EvT.tup ?_
    refine EvsT.cons rfl ?_
    refine EvT.val rfl ?_
    refine EvsT.cons rfl ?_
    refine EvT.call rfl (by rfl) ?_
    refine EvsT.val rfl rfl ?_
    refine OpLT.tup_lst ?_ ?_; (· exact bleT (by rfl))
    refine EvsT.nil ?_
    refine ⟨?_, ?_⟩; (· exact bleT (by rfl))
    with_reducible rfl
  · refine ExsT.asgV ?_ rfl ?_; (· exact .inl (by rfl))
    refine ExsT.ifN rfl ?_
    refine ExsT.ifT rfl ?_
    refine ExsT.retV rfl ?_
    with_reducible rfl
  · refine ExsT.asgV ?_ rfl ?_; (· exact .inl (by rfl))
    refine ExsT.ifN rfl ?_
    refine ExsT.ifN rfl ?_
    refine ExsT.ifT rfl ?_
    refine ExsT.retV rfl ?_
    with_reducible rfl
  · refine ExsT.asgV ?_ rfl ?_; (· exact .inl (by rfl))
    refine ExsT.ifT rfl ?_
    refine ExsT.retV rfl ?_
    with_reducible rfl
  · refine ExsT.asgV ?_ rfl ?_; (· exact .inl (by rfl))
    refine ExsT.ifN rfl ?_
    refine ExsT.ifN rfl ?_
    refine ExsT.ifN rfl ?_
    refine ExsT.ifN rfl ?_
    refine ExsT.ret ?_
    refine EvT.ifT rfl ?_
    refine EvT.tup ?_
    refine EvsT.cons rfl ?_
    refine EvT.val rfl ?_
    refine EvsT.cons rfl ?_
    refine EvT.val rfl ?_
    refine EvsT.cons rfl ?_
    refine EvT.val rfl ?_
    refine EvsT.cons rfl ?_
    refine EvT.call rfl (by rfl) ?_
    refine EvsT.val rfl rfl ?_
    refine OpLT.tup_lst ?_ ?_; (· exact bleT (by rfl))
    refine EvsT.nil ?_
    refine ⟨?_, ?_⟩; (· exact bleT (by rfl))
    with_reducible rfl
end
end
section
section
variable {G : Gx}
noncomputable abbrev GLeaf (t : PV) : Prop := (∃ n, t = tPar n) ∨ (t = tByte) ∨ (t = tBool) ∨ (t = tUnit)
theorem gleaf_parts (hK : G.K = hp.heap_1 G.w.params) {t : PV} (ht : GLeaf t) : Fn G (.adr 73) [t] 1 (fun r => r = .tup []) :=
  g_parts hK (by rcases ht with ⟨n, rfl⟩ | rfl | rfl | rfl; exact .inl ⟨n, rfl, rfl⟩; exact .inr (.inl ⟨rfl, rfl⟩); exact .inr (.inr (.inl ⟨rfl, rfl⟩)); exact .inr (.inr (.inr (.inl ⟨rfl, rfl⟩))))
theorem gleaf_rebuilt (hK : G.K = hp.heap_1 G.w.params) {t : PV} (ht : GLeaf t) : Fn G (.adr 80) [t, .lst []] 1 (fun r => r = t) :=
  g_rebuilt hK (by rcases ht with ⟨n, rfl⟩ | rfl | rfl | rfl; exact .inl ⟨n, rfl, rfl⟩; exact .inr (.inl ⟨rfl, rfl⟩); exact .inr (.inr (.inl ⟨rfl, rfl⟩)); exact .inr (.inr (.inr (.inl ⟨rfl, rfl, rfl⟩))))
theorem gb_parts (hK : G.K = hp.heap_1 G.w.params) {q : PV} : Fn G (.adr 73) [tBox q] 1 (fun r => r = .tup [q]) := g_parts hK (.inr (.inr (.inr (.inr (.inl ⟨q, rfl, rfl⟩)))))
theorem ga_parts (hK : G.K = hp.heap_1 G.w.params) {q : PV} {k : Int} : Fn G (.adr 73) [tArr q k] 1 (fun r => r = .tup [q]) := g_parts hK (.inr (.inr (.inr (.inr (.inr (.inl ⟨q, k, rfl, rfl⟩))))))
theorem gr_parts (hK : G.K = hp.heap_1 G.w.params) {r q : PV} {b : Bool} : Fn G (.adr 73) [tRef r b q] 1 (fun r => r = .tup [q]) := g_parts hK (.inr (.inr (.inr (.inr (.inr (.inr (.inl ⟨r, b, q, rfl, rfl⟩)))))))
theorem gd_parts (hK : G.K = hp.heap_1 G.w.params) {p : Str} {rs ps : List PV} : Fn G (.adr 73) [tAdt p rs ps] 1 (fun r => r = .tup ps) := g_parts hK (.inr (.inr (.inr (.inr (.inr (.inr (.inr ⟨p, rs, ps, rfl, rfl⟩)))))))
theorem gb_rebuilt (hK : G.K = hp.heap_1 G.w.params) {q q' : PV} : Fn G (.adr 80) [tBox q, .lst [q']] 1 (fun r => r = tBox q') := g_rebuilt hK (.inr (.inr (.inr (.inr (.inl ⟨q, q', rfl, rfl, rfl⟩)))))
theorem ga_rebuilt (hK : G.K = hp.heap_1 G.w.params) {q q' : PV} {k : Int} : Fn G (.adr 80) [tArr q k, .lst [q']] 1 (fun r => r = tArr q' k) := g_rebuilt hK (.inr (.inr (.inr (.inr (.inr (.inl ⟨q, q', k, rfl, rfl, rfl⟩))))))
theorem gr_rebuilt (hK : G.K = hp.heap_1 G.w.params) {r q q' : PV} {b : Bool} : Fn G (.adr 80) [tRef r b q, .lst [q']] 1 (fun x => x = tRef r b q') := g_rebuilt hK (.inr (.inr (.inr (.inr (.inr (.inr (.inl ⟨r, b, q, q', rfl, rfl, rfl⟩)))))))
theorem gd_rebuilt (hK : G.K = hp.heap_1 G.w.params) {p : Str} {rs : List PV} : Fn G (.adr 80) [tAdt p rs [], .lst []] 1 (fun x => x = tAdt p rs []) := g_rebuilt hK (.inr (.inr (.inr (.inr (.inr (.inr (.inr ⟨p, rs, rfl, rfl, rfl⟩)))))))
theorem g_with0 (hK : G.K = hp.heap_1 G.w.params) {f : PV} (hf : okFT G.w.params f = true) {t : PV} (ht : GLeaf t) : Fn G (.adr 90) [t, f] 3 (fun r => r = t) := by
  have hp := gleaf_parts hK ht
  have hr := gleaf_rebuilt hK ht
  refine Fn.introT (names := [Str.ofString "told", Str.ofString "change"]) hK (by rfl) (by rfl) (arity2 fun _ _ => rfl) (by rfl) fun p => ?_
  rcases ht with ⟨n, rfl⟩ | rfl | rfl | rfl
  · refine ExsT.ifF rfl ?_
    refine ExsT.ifN rfl ?_
    refine ExsT.nil ?_
    refine ExsT.ret ?_
    refine EvT.call rfl (by rfl) ?_
    refine EvsT.cons rfl ?_
    refine EvT.val rfl ?_
    refine EvsT.cons rfl ?_
    refine EvT.comp ?_
    refine ItT.seq ?_
    refine EvT.call rfl (by rfl) ?_
    refine EvsT.val rfl rfl ?_
    refine OpLT.fnE (by assumption) (bleT (by rfl)) ?_
    refine ⟨_, .inr rfl, ?_⟩
    refine ⟨?_, fun p => ?_⟩; (· exact bleT (by rfl))
    refine CompT.nil ?_
    refine EvsT.nil ?_
    refine OpLT.fnE (by assumption) (bleT (by rfl)) ?_
    with_reducible rfl
  · refine ExsT.ifF rfl ?_
    refine ExsT.ifN rfl ?_
    refine ExsT.nil ?_
    refine ExsT.ret ?_
    refine EvT.call rfl (by rfl) ?_
    refine EvsT.cons rfl ?_
    refine EvT.val rfl ?_
    refine EvsT.cons rfl ?_
    refine EvT.comp ?_
    refine ItT.seq ?_
    refine EvT.call rfl (by rfl) ?_
    refine EvsT.val rfl rfl ?_
    refine OpLT.fnE (by assumption) (bleT (by rfl)) ?_
    refine ⟨_, .inr rfl, ?_⟩
    refine ⟨?_, fun p => ?_⟩; (· exact bleT (by rfl))
    refine CompT.nil ?_
    refine EvsT.nil ?_
    refine OpLT.fnE (by assumption) (bleT (by rfl)) ?_
    with_reducible rfl
  · refine ExsT.ifF rfl ?_
    refine ExsT.ifN rfl ?_
    refine ExsT.nil ?_
    refine ExsT.ret ?_
    refine EvT.call rfl (by rfl) ?_
    refine EvsT.cons rfl ?_
    refine EvT.val rfl ?_
    refine EvsT.cons rfl ?_
    refine EvT.comp ?_
    refine ItT.seq ?_
    refine EvT.call rfl (by rfl) ?_
    refine EvsT.val rfl rfl ?_
    refine OpLT.fnE (by assumption) (bleT (by rfl)) ?_
    refine ⟨_, .inr rfl, ?_⟩
    refine ⟨?_, fun p => ?_⟩; (· exact bleT (by rfl))
    refine CompT.nil ?_
    refine EvsT.nil ?_
    refine OpLT.fnE (by assumption) (bleT (by rfl)) ?_
    with_reducible rfl
  · refine ExsT.ifF rfl ?_
    refine ExsT.ifN rfl ?_
    refine ExsT.nil ?_
    refine ExsT.ret ?_
    refine EvT.call rfl (by rfl) ?_
    refine EvsT.cons rfl ?_
    refine EvT.val rfl ?_
    refine EvsT.cons rfl ?_
    refine EvT.comp ?_
    refine ItT.seq ?_
    refine EvT.call rfl (by rfl) ?_
    refine EvsT.val rfl rfl ?_
    refine OpLT.fnE (by assumption) (bleT (by rfl)) ?_
    refine ⟨_, .inr rfl, ?_⟩
    refine ⟨?_, fun p => ?_⟩; (· exact bleT (by rfl))
    refine CompT.nil ?_
    refine EvsT.nil ?_
    refine OpLT.fnE (by assumption) (bleT (by rfl)) ?_
    with_reducible rfl
theorem g_with1 (hK : G.K = hp.heap_1 G.w.params) {f : PV} (hf : okFT G.w.params f = true) {t u : PV}
    (ht : (∃ q, t = tBox q ∧ GLeaf q ∧ u = t) ∨ (∃ q k, t = tArr q k ∧ GLeaf q ∧ u = t) ∨ (∃ r r' b q, t = tRef r b q ∧ GLeaf q ∧ Fn G f [r] 3 (fun x => x = r') ∧ u = tRef r' b q) ∨
      (∃ p, t = tAdt p [] [] ∧ u = t) ∨ (∃ p r r', t = tAdt p [r] [] ∧ Fn G f [r] 3 (fun x => x = r') ∧ u = tAdt p [r'] [])) : Fn G (.adr 90) [t, f] 5 (fun r => r = u) := by
  refine Fn.introT (names := [Str.ofString "told", Str.ofString "change"]) hK (by rfl) (by rfl) (arity2 fun _ _ => rfl) (by rfl) fun p => ?_
  rcases ht with ⟨q, rfl, lf, rfl⟩ | ⟨q, k, rfl, lf, rfl⟩ | ⟨r, r', b, q, rfl, lf, hc, rfl⟩ | ⟨p, rfl, rfl⟩ | ⟨p, r, r', rfl, hc, rfl⟩
  · have h1 := gb_parts hK (q := q)
    have h2 := g_with0 hK hf lf
    have h3 := gb_rebuilt hK (q := q) (q' := q)
    refine ExsT.ifF rfl ?_
    refine ExsT.ifN rfl ?_
    refine ExsT.nil ?_
    refine ExsT.ret ?_
    refine EvT.call rfl (by rfl) ?_
    refine EvsT.cons rfl ?_
    refine EvT.val rfl ?_
    refine EvsT.cons rfl ?_
    refine EvT.comp ?_
    refine ItT.seq ?_
    refine EvT.call rfl (by rfl) ?_
    refine EvsT.val rfl rfl ?_
    refine OpLT.fnE (by assumption) (bleT (by rfl)) ?_
    refine ⟨_, .inr rfl, ?_⟩
    refine ⟨?_, fun p => ?_⟩; (· exact bleT (by rfl))
    refine CompT.cons ?_
    refine TurnT.all ?_
    refine AsgT.name ?_ ?_; (· exact .inl (by rfl))
    refine EvT.call rfl (by rfl) ?_
    refine EvsT.val rfl rfl ?_
    refine OpLT.fnE (by assumption) (bleT (by rfl)) ?_
    refine CompT.nil ?_
    refine EvsT.nil ?_
    refine OpLT.fnE (by assumption) (bleT (by rfl)) ?_
    with_reducible rfl
  · have h1 := ga_parts hK (q := q) (k := k)
    have h2 := g_with0 hK hf lf
    have h3 := ga_rebuilt hK (q := q) (q' := q) (k := k)
    refine ExsT.ifF rfl ?_
    refine ExsT.ifN rfl ?_
    refine ExsT.nil ?_
    refine ExsT.ret ?_
    refine EvT.call rfl (by rfl) ?_
    refine EvsT.cons rfl ?_
    refine EvT.val rfl ?_
    refine EvsT.cons rfl ?_
    refine EvT.comp ?_
    refine ItT.seq ?_
    refine EvT.call rfl (by rfl) ?_
    refine EvsT.val rfl rfl ?_
    refine OpLT.fnE (by assumption) (bleT (by rfl)) ?_
    refine ⟨_, .inr rfl, ?_⟩
    refine ⟨?_, fun p => ?_⟩; (· exact bleT (by rfl))
    refine CompT.cons ?_
    refine TurnT.all ?_
    refine AsgT.name ?_ ?_; (· exact .inl (by rfl))
    refine EvT.call rfl (by rfl) ?_
    refine EvsT.val rfl rfl ?_
    refine OpLT.fnE (by assumption) (bleT (by rfl)) ?_
    refine CompT.nil ?_
    refine EvsT.nil ?_
    refine OpLT.fnE (by assumption) (bleT (by rfl)) ?_
    with_reducible rfl
  · have h1 := gr_parts hK (r := r') (b := b) (q := q)
    have h2 := g_with0 hK hf lf
    have h3 := gr_rebuilt hK (r := r') (b := b) (q := q) (q' := q)
    refine ExsT.ifT rfl ?_
    refine ExsT.asg ?_ ?_; (· exact .inl (by rfl))
    refine EvT.tup ?_
    refine EvsT.cons rfl ?_
    refine EvT.val rfl ?_
    refine EvsT.cons rfl ?_
    refine EvT.call rfl (by assumption) ?_
    refine EvsT.val rfl rfl ?_
    refine OpLT.fnE (by assumption) (bleT (by rfl)) ?_
    refine EvsT.val rfl rfl ?_
    refine ⟨?_, ?_⟩; (· exact bleT (by rfl))
    refine ExsT.nil ?_
    refine ExsT.ret ?_
    refine EvT.call rfl (by rfl) ?_
    refine EvsT.cons rfl ?_
    refine EvT.val rfl ?_
    refine EvsT.cons rfl ?_
    refine EvT.comp ?_
    refine ItT.seq ?_
    refine EvT.call rfl (by rfl) ?_
    refine EvsT.val rfl rfl ?_
    refine OpLT.fnE (by assumption) (bleT (by rfl)) ?_
    refine ⟨_, .inr rfl, ?_⟩
    refine ⟨?_, fun p => ?_⟩; (· exact bleT (by rfl))
    refine CompT.cons ?_
    refine TurnT.all ?_
    refine AsgT.name ?_ ?_; (· exact .inl (by rfl))
    refine EvT.call rfl (by rfl) ?_
    refine EvsT.val rfl rfl ?_
    refine OpLT.fnE (by assumption) (bleT (by rfl)) ?_
    refine CompT.nil ?_
    refine EvsT.nil ?_
    refine OpLT.fnE (by assumption) (bleT (by rfl)) ?_
    with_reducible rfl
  · have h1 := gd_parts hK (p := p) (rs := []) (ps := [])
    have h3 := gd_rebuilt hK (p := p) (rs := [])
    refine ExsT.ifF rfl ?_
    refine ExsT.ifT rfl ?_
    refine ExsT.asg ?_ ?_; (· exact .inl (by rfl))
    refine EvT.tup ?_
    refine EvsT.cons rfl ?_
    refine EvT.val rfl ?_
    refine EvsT.cons rfl ?_
    refine EvT.val rfl ?_
    refine EvsT.cons rfl ?_
    refine EvT.call rfl (by rfl) ?_
    refine EvsT.cons rfl ?_
    refine EvT.comp ?_
    refine ItT.tupV rfl ?_
    refine ⟨?_, fun p => ?_⟩; (· exact bleT (by rfl))
    refine CompT.nil ?_
    refine EvsT.nil ?_
    refine OpLT.tup_lst ?_ ?_; (· exact bleT (by rfl))
    refine EvsT.val rfl rfl ?_
    refine ⟨?_, ?_⟩; (· exact bleT (by rfl))
    refine ExsT.nil ?_
    refine ExsT.nil ?_
    refine ExsT.ret ?_
    refine EvT.call rfl (by rfl) ?_
    refine EvsT.cons rfl ?_
    refine EvT.val rfl ?_
    refine EvsT.cons rfl ?_
    refine EvT.comp ?_
    refine ItT.seq ?_
    refine EvT.call rfl (by rfl) ?_
    refine EvsT.val rfl rfl ?_
    refine OpLT.fnE (by assumption) (bleT (by rfl)) ?_
    refine ⟨_, .inr rfl, ?_⟩
    refine ⟨?_, fun p => ?_⟩; (· exact bleT (by rfl))
    refine CompT.nil ?_
    refine EvsT.nil ?_
    refine OpLT.fnE (by assumption) (bleT (by rfl)) ?_
    with_reducible rfl
  · have h1 := gd_parts hK (p := p) (rs := [r']) (ps := [])
    have h3 := gd_rebuilt hK (p := p) (rs := [r'])
    refine ExsT.ifF rfl ?_
    refine ExsT.ifT rfl ?_
    refine ExsT.asg ?_ ?_; (· exact .inl (by rfl))
    refine EvT.tup ?_
    refine EvsT.cons rfl ?_
    refine EvT.val rfl ?_
    refine EvsT.cons rfl ?_
    refine EvT.val rfl ?_
    refine EvsT.cons rfl ?_
    refine EvT.call rfl (by rfl) ?_
    refine EvsT.cons rfl ?_
    refine EvT.comp ?_
    refine ItT.tupV rfl ?_
    refine ⟨?_, fun p => ?_⟩; (· exact bleT (by rfl))
    refine CompT.cons ?_
    refine TurnT.all ?_
    refine AsgT.name ?_ ?_; (· exact .inl (by rfl))
    refine EvT.call rfl (by assumption) ?_
    refine EvsT.val rfl rfl ?_
    refine OpLT.fnE (by assumption) (bleT (by rfl)) ?_
    refine CompT.nil ?_
    refine EvsT.nil ?_
    refine OpLT.tup_lst ?_ ?_; (· exact bleT (by rfl))
    refine EvsT.val rfl rfl ?_
    refine ⟨?_, ?_⟩; (· exact bleT (by rfl))
    refine ExsT.nil ?_
    refine ExsT.nil ?_
    refine ExsT.ret ?_
    refine EvT.call rfl (by rfl) ?_
    refine EvsT.cons rfl ?_
    refine EvT.val rfl ?_
    refine EvsT.cons rfl ?_
    refine EvT.comp ?_
    refine ItT.seq ?_
    refine EvT.call rfl (by rfl) ?_
    refine EvsT.val rfl rfl ?_
    refine OpLT.fnE (by assumption) (bleT (by rfl)) ?_
    refine ⟨_, .inr rfl, ?_⟩
    refine ⟨?_, fun p => ?_⟩; (· exact bleT (by rfl))
    refine CompT.nil ?_
    refine EvsT.nil ?_
    refine OpLT.fnE (by assumption) (bleT (by rfl)) ?_
    with_reducible rfl
noncomputable abbrev GLeafS (tb : List (Str × PV)) (q q' : PV) : Prop := (∃ n, q = tPar n ∧ q' = (tb.lookup n).getD (tPar n)) ∨ (q = tByte ∧ q' = q) ∨ (q = tBool ∧ q' = q) ∨ (q = tUnit ∧ q' = q)
theorem g_subst0 (hK : G.K = hp.heap_1 G.w.params) {tb : List (Str × PV)} {t u : PV} (ht : GLeafS tb t u) : Fn G (.adr 85) [t, .dct tb] 3 (fun r => r = u) := by
  have hp (t) := gleaf_parts hK (t := t)
  have hr (t) := gleaf_rebuilt hK (t := t)
  refine Fn.introT (names := [Str.ofString "told", Str.ofString "table"]) hK (by rfl) (by rfl) (arity2 fun _ _ => rfl) (by rfl) fun p => ?_
  rcases ht with ⟨n, rfl, rfl⟩ | ⟨rfl, rfl⟩ | ⟨rfl, rfl⟩ | ⟨rfl, rfl⟩
  · refine ExsT.ifT rfl ?_
    refine ExsT.ret ?_
    refine EvT.meth PySem.F.plainAttrs_dict PySem.F.slot_dict_get PySem.F.type_dict_get (EvT.val rfl ⟨rfl, ?_⟩)
    refine EvsT.val rfl rfl ?_
    refine OpLT.dget ?_
    with_reducible rfl
  · have h1 := hp tByte (.inr (.inl rfl)); have h2 := hr tByte (.inr (.inl rfl)); (refine ExsT.ifN rfl ?_; refine ExsT.ret ?_; refine EvT.call rfl (by rfl) ?_; refine EvsT.cons rfl ?_; refine EvT.val rfl ?_; refine EvsT.cons rfl ?_; refine EvT.comp ?_; refine ItT.seq ?_; refine EvT.call rfl (by rfl) ?_; refine EvsT.val rfl rfl ?_; refine OpLT.fnE (by assumption) (bleT (by rfl)) ?_; refine ⟨_, .inr rfl, ?_⟩; refine ⟨?_, fun p => ?_⟩; (· exact bleT (by rfl)); refine CompT.nil ?_; refine EvsT.nil ?_; refine OpLT.fnE (by assumption) (bleT (by rfl)) ?_; with_reducible rfl)
  · have h1 := hp tBool (.inr (.inr (.inl rfl))); have h2 := hr tBool (.inr (.inr (.inl rfl))); (refine ExsT.ifN rfl ?_; refine ExsT.ret ?_; refine EvT.call rfl (by rfl) ?_; refine EvsT.cons rfl ?_; refine EvT.val rfl ?_; refine EvsT.cons rfl ?_; refine EvT.comp ?_; refine ItT.seq ?_; refine EvT.call rfl (by rfl) ?_; refine EvsT.val rfl rfl ?_; refine OpLT.fnE (by assumption) (bleT (by rfl)) ?_; refine ⟨_, .inr rfl, ?_⟩; refine ⟨?_, fun p => ?_⟩; (· exact bleT (by rfl)); refine CompT.nil ?_; refine EvsT.nil ?_; refine OpLT.fnE (by assumption) (bleT (by rfl)) ?_; with_reducible rfl)
  · have h1 := hp tUnit (.inr (.inr (.inr rfl))); have h2 := hr tUnit (.inr (.inr (.inr rfl))); (refine ExsT.ifN rfl ?_; refine ExsT.ret ?_; refine EvT.call rfl (by rfl) ?_; refine EvsT.cons rfl ?_; refine EvT.val rfl ?_; refine EvsT.cons rfl ?_; refine EvT.comp ?_; refine ItT.seq ?_; refine EvT.call rfl (by rfl) ?_; refine EvsT.val rfl rfl ?_; refine OpLT.fnE (by assumption) (bleT (by rfl)) ?_; refine ⟨_, .inr rfl, ?_⟩; refine ⟨?_, fun p => ?_⟩; (· exact bleT (by rfl)); refine CompT.nil ?_; refine EvsT.nil ?_; refine OpLT.fnE (by assumption) (bleT (by rfl)) ?_; with_reducible rfl)
theorem g_subst1 (hK : G.K = hp.heap_1 G.w.params) {tb : List (Str × PV)} {t u : PV}
    (ht : (∃ q q', t = tBox q ∧ GLeafS tb q q' ∧ u = tBox q') ∨ (∃ q q' k, t = tArr q k ∧ GLeafS tb q q' ∧ u = tArr q' k) ∨ (∃ r b q q', t = tRef r b q ∧ GLeafS tb q q' ∧ u = tRef r b q') ∨ (∃ p rs, t = tAdt p rs [] ∧ u = t)) : Fn G (.adr 85) [t, .dct tb] 5 (fun r => r = u) := by
  refine Fn.introT (names := [Str.ofString "told", Str.ofString "table"]) hK (by rfl) (by rfl) (arity2 fun _ _ => rfl) (by rfl) fun p => ?_
  rcases ht with ⟨q, q', rfl, lf, rfl⟩ | ⟨q, q', k, rfl, lf, rfl⟩ | ⟨r', b, q, q', rfl, lf, rfl⟩ | ⟨p, rs, rfl, rfl⟩
  · have h1 := gb_parts hK (q := q)
    have h2 := g_subst0 hK lf
    have h3 := gb_rebuilt hK (q := q) (q' := q')
    refine ExsT.ifN rfl ?_
    refine ExsT.ret ?_
    refine EvT.call rfl (by rfl) ?_
    refine EvsT.cons rfl ?_
    refine EvT.val rfl ?_
    refine EvsT.cons rfl ?_
    refine EvT.comp ?_
    refine ItT.seq ?_
    refine EvT.call rfl (by rfl) ?_
    refine EvsT.val rfl rfl ?_
    refine OpLT.fnE (by assumption) (bleT (by rfl)) ?_
    refine ⟨_, .inr rfl, ?_⟩
    refine ⟨?_, fun p => ?_⟩; (· exact bleT (by rfl))
    refine CompT.cons ?_
    refine TurnT.all ?_
    refine AsgT.name ?_ ?_; (· exact .inl (by rfl))
    refine EvT.call rfl (by rfl) ?_
    refine EvsT.val rfl rfl ?_
    refine OpLT.fnE (by assumption) (bleT (by rfl)) ?_
    refine CompT.nil ?_
    refine EvsT.nil ?_
    refine OpLT.fnE (by assumption) (bleT (by rfl)) ?_
    with_reducible rfl
  · have h1 := ga_parts hK (q := q) (k := k)
    have h2 := g_subst0 hK lf
    have h3 := ga_rebuilt hK (q := q) (q' := q') (k := k)
    refine ExsT.ifN rfl ?_
    refine ExsT.ret ?_
    refine EvT.call rfl (by rfl) ?_
    refine EvsT.cons rfl ?_
    refine EvT.val rfl ?_
    refine EvsT.cons rfl ?_
    refine EvT.comp ?_
    refine ItT.seq ?_
    refine EvT.call rfl (by rfl) ?_
    refine EvsT.val rfl rfl ?_
    refine OpLT.fnE (by assumption) (bleT (by rfl)) ?_
    refine ⟨_, .inr rfl, ?_⟩
    refine ⟨?_, fun p => ?_⟩; (· exact bleT (by rfl))
    refine CompT.cons ?_
    refine TurnT.all ?_
    refine AsgT.name ?_ ?_; (· exact .inl (by rfl))
    refine EvT.call rfl (by rfl) ?_
    refine EvsT.val rfl rfl ?_
    refine OpLT.fnE (by assumption) (bleT (by rfl)) ?_
    refine CompT.nil ?_
    refine EvsT.nil ?_
    refine OpLT.fnE (by assumption) (bleT (by rfl)) ?_
    with_reducible rfl
  · have h1 := gr_parts hK (r := r') (b := b) (q := q)
    have h2 := g_subst0 hK lf
    have h3 := gr_rebuilt hK (r := r') (b := b) (q := q) (q' := q')
    refine ExsT.ifN rfl ?_
    refine ExsT.ret ?_
    refine EvT.call rfl (by rfl) ?_
    refine EvsT.cons rfl ?_
    refine EvT.val rfl ?_
    refine EvsT.cons rfl ?_
    refine EvT.comp ?_
    refine ItT.seq ?_
    refine EvT.call rfl (by rfl) ?_
    refine EvsT.val rfl rfl ?_
    refine OpLT.fnE (by assumption) (bleT (by rfl)) ?_
    refine ⟨_, .inr rfl, ?_⟩
    refine ⟨?_, fun p => ?_⟩; (· exact bleT (by rfl))
    refine CompT.cons ?_
    refine TurnT.all ?_
    refine AsgT.name ?_ ?_; (· exact .inl (by rfl))
    refine EvT.call rfl (by rfl) ?_
    refine EvsT.val rfl rfl ?_
    refine OpLT.fnE (by assumption) (bleT (by rfl)) ?_
    refine CompT.nil ?_
    refine EvsT.nil ?_
    refine OpLT.fnE (by assumption) (bleT (by rfl)) ?_
    with_reducible rfl
  · have h1 := gd_parts hK (p := p) (rs := rs) (ps := [])
    have h3 := gd_rebuilt hK (p := p) (rs := rs)
    refine ExsT.ifN rfl ?_
    refine ExsT.ret ?_
    refine EvT.call rfl (by rfl) ?_
    refine EvsT.cons rfl ?_
    refine EvT.val rfl ?_
    refine EvsT.cons rfl ?_
    refine EvT.comp ?_
    refine ItT.seq ?_
    refine EvT.call rfl (by rfl) ?_
    refine EvsT.val rfl rfl ?_
    refine OpLT.fnE (by assumption) (bleT (by rfl)) ?_
    refine ⟨_, .inr rfl, ?_⟩
    refine ⟨?_, fun p => ?_⟩; (· exact bleT (by rfl))
    refine CompT.nil ?_
    refine EvsT.nil ?_
    refine OpLT.fnE (by assumption) (bleT (by rfl)) ?_
    with_reducible rfl
theorem g_erased (hK : G.K = hp.heap_1 G.w.params) {t : PV} (ht : t = tS ∨ t = tByte ∨ t = tBool ∨ t = tUnit) : Fn G (.adr 104) [t] 6 (fun r => r = t) := by
  have ok : okFT G.w.params (.adr 97) = true := by rfl
  have h1 := g_with1 hK ok (t := tS) (u := tS) (.inr (.inr (.inr (.inl ⟨_, rfl, rfl⟩))))
  have h0 (t) := g_with0 hK ok (t := t)
  have h2 := h0 tByte (.inr (.inl rfl))
  have h3 := h0 tBool (.inr (.inr (.inl rfl)))
  have h4 := h0 tUnit (.inr (.inr (.inr rfl)))
  refine Fn.introT (names := [Str.ofString "told"]) hK (by rfl) (by rfl) (arity1 fun _ => rfl) (by rfl) fun p => ?_
  rcases ht with rfl | rfl | rfl | rfl
  · refine ExsT.ret ?_
    refine EvT.call rfl (by rfl) ?_
    refine EvsT.val rfl rfl ?_
    refine OpLT.fnE (by assumption) (bleT (by rfl)) ?_
    with_reducible rfl
  · refine ExsT.ret ?_
    refine EvT.call rfl (by rfl) ?_
    refine EvsT.val rfl rfl ?_
    refine OpLT.fnE (by assumption) (bleT (by rfl)) ?_
    with_reducible rfl
  · refine ExsT.ret ?_
    refine EvT.call rfl (by rfl) ?_
    refine EvsT.val rfl rfl ?_
    refine OpLT.fnE (by assumption) (bleT (by rfl)) ?_
    with_reducible rfl
  · refine ExsT.ret ?_
    refine EvT.call rfl (by rfl) ?_
    refine EvsT.val rfl rfl ?_
    refine OpLT.fnE (by assumption) (bleT (by rfl)) ?_
    with_reducible rfl
theorem g_turned (hK : G.K = hp.heap_1 G.w.params) {f t : PV} (ht : (∃ n, t = tPar n) ∨ t = tByte ∨ t = tUnit) : Fn G (.adr 66) [t, f] 2 (fun r => r = t) := by
  refine Fn.introT (names := [Str.ofString "told", Str.ofString "turn"]) hK (by rfl) (by rfl) (arity2 fun _ _ => rfl) (by rfl) fun p => ?_
  rcases ht with ⟨n, rfl⟩ | rfl | rfl
  · refine ExsT.asgV ?_ rfl ?_; (· exact .inl (by rfl))
    refine ExsT.ifN rfl ?_
    refine ExsT.ifN rfl ?_
    refine ExsT.ifN rfl ?_
    refine ExsT.ifN rfl ?_
    refine ExsT.ifN rfl ?_
    refine ExsT.retV rfl ?_
    with_reducible rfl
  · refine ExsT.asgV ?_ rfl ?_; (· exact .inl (by rfl))
    refine ExsT.ifN rfl ?_
    refine ExsT.ifN rfl ?_
    refine ExsT.ifN rfl ?_
    refine ExsT.ifN rfl ?_
    refine ExsT.ifN rfl ?_
    refine ExsT.retV rfl ?_
    with_reducible rfl
  · refine ExsT.asgV ?_ rfl ?_; (· exact .inl (by rfl))
    refine ExsT.ifN rfl ?_
    refine ExsT.ifN rfl ?_
    refine ExsT.ifN rfl ?_
    refine ExsT.ifT rfl ?_
    refine ExsT.ret ?_
    refine EvT.tup ?_
    refine EvsT.cons rfl ?_
    refine EvT.val rfl ?_
    refine EvsT.cons rfl ?_
    refine EvT.call rfl (by rfl) ?_
    refine EvsT.cons rfl ?_
    refine EvT.comp ?_
    refine ItT.tupV rfl ?_
    refine ⟨?_, fun p => ?_⟩; (· exact bleT (by rfl))
    refine CompT.nil ?_
    refine EvsT.nil ?_
    refine OpLT.tup_lst ?_ ?_; (· exact bleT (by rfl))
    refine EvsT.nil ?_
    refine ⟨?_, ?_⟩; (· exact bleT (by rfl))
    with_reducible rfl
end
end
section
section
variable {G : Gx}
theorem g_regs (hK : G.K = hp.heap_1 G.w.params) {t : PV} (ht : t = tS ∨ t = tByte ∨ t = tBool ∨ t = tUnit) : Fn G (.adr 61) [t] 2 (fun r => r = .lst []) := by
  refine Fn.introT (names := [Str.ofString "told"]) hK (by rfl) (by rfl) (arity1 fun _ => rfl) (by rfl) fun p => ?_
  rcases ht with rfl | rfl | rfl | rfl
  · refine ExsT.asgV ?_ rfl ?_; (· exact .inl (by rfl))
    refine ExsT.ifN rfl ?_
    refine ExsT.ifN rfl ?_
    refine ExsT.asg ?_ ?_; (· exact .inl (by rfl))
    refine EvT.ifF rfl ?_
    refine EvT.ifT rfl ?_
    refine EvT.val rfl ?_
    refine ExsT.asg ?_ ?_; (· exact .inl (by rfl))
    refine EvT.ifT rfl ?_
    refine EvT.call rfl (by rfl) ?_
    refine EvsT.val rfl rfl ?_
    refine OpLT.lst_tup ?_ ?_; (· exact bleT (by rfl))
    refine ExsT.for ?_
    refine ItT.tupV rfl ?_
    with_reducible intro wr
    refine ForT.nil ?_
    refine ExsT.retV rfl ?_
    with_reducible rfl
  · refine ExsT.asgV ?_ rfl ?_; (· exact .inl (by rfl))
    refine ExsT.ifN rfl ?_
    refine ExsT.ifN rfl ?_
    refine ExsT.asg ?_ ?_; (· exact .inl (by rfl))
    refine EvT.ifF rfl ?_
    refine EvT.ifF rfl ?_
    refine EvT.val rfl ?_
    refine ExsT.asg ?_ ?_; (· exact .inl (by rfl))
    refine EvT.ifF rfl ?_
    refine EvT.val rfl ?_
    refine ExsT.for ?_
    refine ItT.tupV rfl ?_
    with_reducible intro wr
    refine ForT.nil ?_
    refine ExsT.retV rfl ?_
    with_reducible rfl
  · refine ExsT.asgV ?_ rfl ?_; (· exact .inl (by rfl))
    refine ExsT.ifN rfl ?_
    refine ExsT.ifN rfl ?_
    refine ExsT.asg ?_ ?_; (· exact .inl (by rfl))
    refine EvT.ifF rfl ?_
    refine EvT.ifF rfl ?_
    refine EvT.val rfl ?_
    refine ExsT.asg ?_ ?_; (· exact .inl (by rfl))
    refine EvT.ifF rfl ?_
    refine EvT.val rfl ?_
    refine ExsT.for ?_
    refine ItT.tupV rfl ?_
    with_reducible intro wr
    refine ForT.nil ?_
    refine ExsT.retV rfl ?_
    with_reducible rfl
  · refine ExsT.asgV ?_ rfl ?_; (· exact .inl (by rfl))
    refine ExsT.ifN rfl ?_
    refine ExsT.ifN rfl ?_
    refine ExsT.asg ?_ ?_; (· exact .inl (by rfl))
    refine EvT.ifT rfl ?_
    refine EvT.val rfl ?_
    refine ExsT.asg ?_ ?_; (· exact .inl (by rfl))
    refine EvT.ifF rfl ?_
    refine EvT.val rfl ?_
    refine ExsT.for ?_
    refine ItT.tupV rfl ?_
    with_reducible intro wr
    refine ForT.nil ?_
    refine ExsT.retV rfl ?_
    with_reducible rfl
theorem g_rtext (hK : G.K = hp.heap_1 G.w.params) {x : Str} : Fn G (.adr 111) [.str x] 2 (fun r => r = .str x) := by
  refine Fn.introT (names := [Str.ofString "region"]) hK (by rfl) (by rfl) (arity1 fun _ => rfl) (by rfl) fun p => ?_
  refine ExsT.ifN rfl ?_
  refine ExsT.ret ?_
  refine EvT.ifexp ?_
  refine TrT.plain ?_
  refine EvT.call rfl (by rfl) ?_
  refine EvsT.val rfl rfl ?_
  refine OpLT.isi_str ?_
  refine ⟨_, rfl, ?_⟩
  refine ite_t rfl ?_
  refine EvT.val rfl ?_
  with_reducible rfl
theorem g_one (hK : G.K = hp.heap_1 G.w.params) {l : List PV} (h0 : 0 < l.length) (h1 : l.length ≤ 100) : Fn G (.adr 327) [.src, .lst l] 3 (fun r => r ∈ l) := by
  have ht := f_take hK (top := l.length) (by omega) (by omega)
  refine Fn.introT (names := [Str.ofString "source", Str.ofString "things"]) hK (by rfl) (by rfl) (arity2 fun _ _ => rfl) (by rfl) fun p => ?_
  refine ExsT.ret (EvT.sub (EvT.val rfl (EvT.call rfl rfl (EvsT.cons rfl (EvT.val rfl (EvsT.cons rfl (EvT.call rfl rfl (EvsT.val rfl rfl (OpLT.len_lst (by omega) (EvsT.nil (OpLT.fn ht (bleT rfl) ?_)))))))))))
  rintro _ ⟨i, rfl, hi⟩
  have hi' : i < l.length := by omega
  exact SubT.lst rfl (by omega) (by omega) (q := l[i]) (by simpa using List.getElem?_eq_getElem hi') (List.getElem_mem hi')
theorem g_told_types (hK : G.K = hp.heap_1 G.w.params) {a b c d o k e : PV} {l : List PV} (hl : l.length ≤ 100) (ho : o.noBi = true) : Fn G (.adr 150) [.ins 230 [(Str.ofString "path", a), (Str.ofString "regions", b), (Str.ofString "params", c), (Str.ofString "own", d), (Str.ofString "inputs", .tup l), (Str.ofString "output", o), (Str.ofString "self_kind", k), (Str.ofString "has_body", e)]] 1 (fun r => r = .tup (l ++ [o])) := by
  refine Fn.introT (names := [Str.ofString "sig"]) hK (by rfl) (by rfl) (arity1 fun _ => rfl) (by rfl) fun p => ?_
  refine ExsT.ret (EvT.bin (EvT.call rfl rfl (EvsT.val rfl rfl (OpLT.tup_tup (EvT.tup (EvsT.cons rfl (EvT.attrD rfl rfl rfl ho (EvsT.nil ⟨bleT rfl, Op2T.add_tup ?_ rfl⟩))))))))
  simp only [List.length_cons, List.length_nil]; omega
theorem g_whole (hK : G.K = hp.heap_1 G.w.params) {p : Str} {A : List (Str × PV)} {rs : List PV} {ns : List Str} {vars e m : PV} {W : List (Str × PV)} (hA : A.lookup p = some (.ins 209 [(Str.ofString "path", .str p), (Str.ofString "module", m), (Str.ofString "regions", .tup rs), (Str.ofString "params", .tup (ns.map PV.str)), (Str.ofString "variants", vars), (Str.ofString "publics", .adr 198), (Str.ofString "is_enum", e)]))
    (hW : W.lookup (Str.ofString "adts") = some (.dct A)) (hr : rs.length ≤ 100) (hn : ns.length ≤ 100) : Fn G (.adr 133) [.str p, .ins 302 W] 1 (fun r => r = tAdt p rs (ns.map tPar)) := by
  refine Fn.introT (names := [Str.ofString "path", Str.ofString "world"]) hK (by rfl) (by rfl) (arity2 fun _ _ => rfl) (by rfl) fun z => ?_
  refine ExsT.asg (.inl rfl) (EvT.sub (EvT.attrD rfl hW rfl rfl (EvT.val rfl (SubT.dct rfl hA ?_))))
  refine ExsT.ret ?_
  refine EvT.tup ?_
  refine EvsT.cons rfl ?_
  refine EvT.val rfl ?_
  refine EvsT.cons rfl ?_
  refine EvT.val rfl ?_
  refine EvsT.cons rfl ?_
  refine EvT.call rfl (by rfl) ?_
  refine EvsT.val rfl rfl ?_
  refine OpLT.tup_tup ?_
  refine EvsT.cons rfl ?_
  refine EvT.call rfl (by rfl) ?_
  refine EvsT.cons rfl ?_
  refine EvT.comp ?_
  refine ItT.tupV rfl ?_
  refine ⟨?_, fun p => ?_⟩; (· (simp only [List.length_map, List.length_append, List.length_take, List.length_cons, List.length_nil, List.length_range]; omega))
  refine CompT.map (f := PV.str) (g := tPar) (fun x hx T hT => ?_) ?_
  · refine TurnT.all ?_
    refine AsgT.name ?_ ?_; (· exact .inl (by rfl))
    refine EvT.val rfl ?_
    exact hT
  · refine EvsT.nil ?_
    refine OpLT.tup_lst ?_ ?_; (· (simp only [List.length_map, List.length_append, List.length_take, List.length_cons, List.length_nil, List.length_range]; omega))
    refine EvsT.nil ?_
    refine ⟨?_, ?_⟩; (· exact bleT (by rfl))
    with_reducible rfl
theorem g_field_rows (hK : G.K = hp.heap_1 G.w.params) {p : Str} {i : Nat} {A : List (Str × PV)} {vs : List PV} {V : PV} (hV : V = .tup vs ∨ V = .lst vs) {rs ns m e r0 r1 rs' d0 d1 : PV} {W : List (Str × PV)} (hA : A.lookup p = some (.ins 209 [(Str.ofString "path", .str p), (Str.ofString "module", m), (Str.ofString "regions", rs), (Str.ofString "params", ns), (Str.ofString "variants", V), (Str.ofString "publics", .adr 198), (Str.ofString "is_enum", e)]))
    (hW : W.lookup (Str.ofString "adts") = some (.dct A)) (hl : vs.length ≤ 16777216) (hi : vs[i]? = some (.tup [d0, d1, r0])) : Fn G (.adr 123) [.tup [.str (Str.ofString "adt"), .str p, r1, rs'], .int i, .ins 302 W] 1 (fun r => r = r0) := by
  refine Fn.introT (names := [Str.ofString "told", Str.ofString "variant", Str.ofString "world"]) hK (by rfl) (by rfl) (arity3 fun _ _ _ => rfl) (by rfl) fun z => ?_
  rcases hV with rfl | rfl
  · exact ExsT.ret (EvT.sub (EvT.sub (EvT.attr (EvT.sub (EvT.attrD rfl hW rfl rfl (EvT.val rfl (SubT.dct rfl hA ⟨_, _, _, rfl, rfl, rfl, rfl, EvT.val rfl (SubT.tup rfl (by omega) hl hi (EvT.val rfl (SubT.val rfl rfl)))⟩)))))))
  · exact ExsT.ret (EvT.sub (EvT.sub (EvT.attr (EvT.sub (EvT.attrD rfl hW rfl rfl (EvT.val rfl (SubT.dct rfl hA ⟨_, _, _, rfl, rfl, rfl, rfl, EvT.val rfl (SubT.lst rfl (by omega) hl hi (EvT.val rfl (SubT.val rfl rfl)))⟩)))))))
theorem g_text_leaf (hK : G.K = hp.heap_1 G.w.params) {t : PV} {x : Str} (ht : (t = tPar x) ∨ (t = tByte ∧ x = Str.ofString "u8") ∨ (t = tBool ∧ x = Str.ofString "bool")) : Fn G (.adr 116) [t] 2 (fun r => r = .str x) := by
  refine Fn.introT (names := [Str.ofString "told"]) hK (by rfl) (by rfl) (arity1 fun _ => rfl) (by rfl) fun p => ?_
  rcases ht with rfl | ⟨rfl, rfl⟩ | ⟨rfl, rfl⟩
  · refine ExsT.asgV ?_ rfl ?_; (· exact .inl (by rfl))
    refine ExsT.ifT rfl ?_
    refine ExsT.retV rfl ?_
    with_reducible rfl
  · refine ExsT.asgV ?_ rfl ?_; (· exact .inl (by rfl))
    refine ExsT.ifT rfl ?_
    refine ExsT.retV rfl ?_
    with_reducible rfl
  · refine ExsT.asgV ?_ rfl ?_; (· exact .inl (by rfl))
    refine ExsT.ifN rfl ?_
    refine ExsT.ifT rfl ?_
    refine ExsT.retV rfl ?_
    with_reducible rfl
theorem g_text_box (hK : G.K = hp.heap_1 G.w.params) {t : PV} {x : Str} (hx : x.length ≤ 100) (ht : (t = tPar x) ∨ (t = tByte ∧ x = Str.ofString "u8") ∨ (t = tBool ∧ x = Str.ofString "bool")) : Fn G (.adr 116) [tBox t] 4 (fun r => r = .str (Str.ofString "Box<" ++ x ++ Str.ofString ">")) := by
  have h1 := gb_parts hK (q := t)
  have h2 := g_text_leaf hK ht
  refine Fn.introT (names := [Str.ofString "told"]) hK (by rfl) (by rfl) (arity1 fun _ => rfl) (by rfl) fun p => ?_
  have e4 : (Str.ofString "Box<").length = 4 := by rfl
  have e1 : (Str.ofString ">").length = 1 := by rfl
  have e5 : (Str.ofString "Box<" ++ x).length = 4 + x.length := by rw [Str.length_append, e4]
  refine ExsT.asgV ?_ rfl ?_; (· exact .inl (by rfl))
  refine ExsT.ifN rfl ?_
  refine ExsT.ifN rfl ?_
  refine ExsT.ifN rfl ?_
  refine ExsT.ifN rfl ?_
  refine ExsT.asgComp ?_ ?_; (· exact .inl (by rfl))
  refine ItT.seq ?_
  refine EvT.call rfl (by rfl) ?_
  refine EvsT.val rfl rfl ?_
  refine OpLT.fnE (by assumption) (bleT (by rfl)) ?_
  refine ⟨_, .inr rfl, ?_⟩
  refine ⟨?_, fun p => ?_⟩; (· exact bleT (by rfl))
  refine CompT.cons ?_
  refine TurnT.all ?_
  refine AsgT.name ?_ ?_; (· exact .inl (by rfl))
  refine EvT.call rfl (by rfl) ?_
  refine EvsT.val rfl rfl ?_
  refine OpLT.fnE (by assumption) (bleT (by rfl)) ?_
  refine CompT.nil ?_
  refine ExsT.ifN rfl ?_
  refine ExsT.ifT rfl ?_
  refine ExsT.ret ?_
  refine EvT.bin ?_
  refine EvT.bin ?_
  refine EvT.val rfl ?_
  refine EvT.val rfl ?_
  refine Op2T.add_str ?_ ?_; (· omega)
  refine EvT.val rfl ?_
  refine Op2T.add_str ?_ ?_; (· omega)
  with_reducible rfl
end
end
section
section
variable {G : Gx}
theorem g_text_adt (hK : G.K = hp.heap_1 G.w.params) {rs xs : List Str} {ps : List PV} (hr : rs.length ≤ 10) (hp : ps.length ≤ 10) (hrs : ∀ x ∈ rs, x.length ≤ 100 ∧ (PV.str x).lay = true) (hxs : ∀ x ∈ xs, x.length ≤ 100 ∧ (PV.str x).lay = true) (hps : Fa2 (fun t x => Fn G (.adr 116) [t] 4 fun r => r = .str x) ps xs) : Fn G (.adr 116) [tAdt (Str.ofString "S") (rs.map PV.str) ps] 6 (fun r => r = .str (adtText (Str.ofString "S") (rs ++ xs))) := by
  have h1 := gd_parts hK (p := Str.ofString "S") (rs := rs.map PV.str) (ps := ps)
  have hlx : xs.length = ps.length := hps.length.symm
  have h3 (x) := g_rtext hK (x := x)
  refine Fn.introT (names := [Str.ofString "told"]) hK (by rfl) (by rfl) (arity1 fun _ => rfl) (by rfl) fun p => ?_
  refine ExsT.asgV ?_ rfl ?_; (· exact .inl (by rfl))
  refine ExsT.ifN rfl ?_
  refine ExsT.ifN rfl ?_
  refine ExsT.ifN rfl ?_
  refine ExsT.ifN rfl ?_
  refine ExsT.asgComp ?_ ?_; (· exact .inl (by rfl))
  refine ItT.seq ?_
  refine EvT.call rfl (by rfl) ?_
  refine EvsT.val rfl rfl ?_
  refine OpLT.fnE (by assumption) (bleT (by rfl)) ?_
  refine ⟨_, .inr rfl, ?_⟩
  refine ⟨?_, fun p => ?_⟩; (· omega)
  refine CompT.zip (P := fun t x => Fn G (.adr 116) [t] 4 fun r => r = .str x) (g := PV.str) (fun q x h2 T hT => ?_) hps ?_
  · refine TurnT.all ?_
    refine AsgT.name ?_ ?_; (· exact .inl (by rfl))
    refine EvT.call rfl (by rfl) ?_
    refine EvsT.val rfl rfl ?_
    refine OpLT.fnE (by assumption) (bleT (by rfl)) ?_
    exact hT
  · refine ExsT.ifN rfl ?_
    refine ExsT.ifN rfl ?_
    refine ExsT.ifN rfl ?_
    refine ExsT.ifN rfl ?_
    refine ExsT.asg ?_ ?_; (· exact .inl (by rfl))
    refine EvT.bin ?_
    refine EvT.comp ?_
    refine ItT.tupV rfl ?_
    refine ⟨?_, fun p => ?_⟩; (· (simp only [List.length_map, List.length_append, List.length_take, List.length_cons, List.length_nil, List.length_range]; omega))
    refine CompT.map (f := PV.str) (g := PV.str) (fun x hx T hT => ?_) ?_
    · have h3 := g_rtext hK (x := x)
      refine TurnT.i ?_
      refine AsgT.name ?_ ?_; (· exact .inl (by rfl))
      refine TstT.one ?_
      refine TrT.val rfl ?_
      refine ite_t rfl ?_
      refine EvT.call rfl (by rfl) ?_
      refine EvsT.val rfl rfl ?_
      refine OpLT.fnE (by assumption) (bleT (by rfl)) ?_
      exact hT
    · refine EvT.val rfl ?_
      refine Op2T.add_lst ?_ ?_; (· (simp only [List.length_map, List.length_append, List.length_take, List.length_cons, List.length_nil, List.length_range]; omega))
      refine ExsT.ret ?_
      refine EvT.bin ?_
      refine EvT.val rfl ?_
      refine EvT.ifexp ?_
      refine TrT.cmp ?_
      refine EvT.val rfl ?_
      refine EvT.val rfl ?_
      have e0 : rs.map PV.str ++ xs.map PV.str = (rs ++ xs).map PV.str := (List.map_append ..).symm
      rw [e0]
      have hall : ∀ x ∈ rs ++ xs, x.length ≤ 100 ∧ (PV.str x).lay = true := fun x hx => (List.mem_append.mp hx).elim (hrs x) (hxs x)
      have hl : (rs ++ xs).length ≤ 20 := by rw [List.length_append]; omega
      refine Op2T.ne (PV.ok_strs fun x hx => (hall x hx).2) (PV.ok_of (by rfl)) ⟨_, rfl, ?_⟩
      rw [ne_nil_strs]
      unfold adtText
      cases he : (rs ++ xs).isEmpty with
      | true =>
        refine ite_f rfl ?_
        refine EvT.val rfl ?_
        refine Op2T.add_str ?_ ?_; (· exact bleT (by rfl))
        rfl
      | false =>
        have hs := sum_le (k := 100) (rs ++ xs) fun x hx => (hall x hx).1
        have hj := join_len (sep := Str.ofString ", ") (by decide) fun x hx => (hall x hx).1
        have e1 : (Str.ofString "<").length = 1 := by rfl
        have e2 : (Str.ofString ">").length = 1 := by rfl
        have e3 : (Str.ofString "S").length = 1 := by rfl
        have e4 : (Str.ofString ", ").length = 2 := by rfl
        refine ite_t rfl ?_
        refine EvT.bin ?_
        refine EvT.bin ?_
        refine EvT.val rfl ?_
        refine EvT.meth PySem.F.plainAttrs_str PySem.F.slot_str_join PySem.F.type_str_join (EvT.val rfl ⟨rfl, ?_⟩)
        refine EvsT.val rfl rfl ?_
        refine OpLT.join (by rw [e4]; omega) ?_
        refine Op2T.add_str ?_ ?_; (· omega)
        refine EvT.val rfl ?_
        refine Op2T.add_str ?_ ?_; (· (simp only [Str.length_append]; omega))
        refine Op2T.add_str ?_ ?_; (· (simp only [Str.length_append]; omega))
        rfl
theorem sub_strsT {w : WX} {s : AT} {value slice : Expr} {ns : List Str} {i : Nat} {Q : PV → Prop} (hs : idxE slice = true) (hl : ns.length ≤ 10) (hi : i < ns.length) (hq : Q (.str (ns.getD i Str.empty))) : SubT w s value slice (.lst (ns.map PV.str)) (.int i) Q :=
  SubT.lst hs (by omega) (by rw [List.length_map]; omega) (by rw [Int.toNat_natCast, List.getElem?_map, List.getElem?_eq_getElem hi]; simp [hi]) hq
theorem g_text_dt (hK : G.K = hp.heap_1 G.w.params) {t : DT} (h : t.nm.length ≤ 90) : Fn G (.adr 116) [t.pv] 4 fun r => r = .str t.txt := by
  cases t with
  | par n => exact (g_text_leaf hK (.inl rfl)).le (by decide)
  | box n => exact g_text_box hK (Nat.le_trans h (by decide)) (.inl rfl)
  | byte => exact (g_text_leaf hK (.inr (.inl ⟨rfl, rfl⟩))).le (by decide)
theorem uniq_turn {w : WX} {ρ : List (Str × LV)} {t e : Expr} {ts : List Expr} {ns : List Str} {K : List PV → Prop} (hns : ∀ x ∈ ns, (PV.str x).lay = true) (hnl : ns.length ≤ 10)
    (h : ∀ i : Nat, i < ns.length → ∀ (T : PV → Prop) (Z : Prop), (∀ b, b = (!(ns.take i).contains (ns.getD i Str.empty)) → if b = true then T (.int i) else Z) → TurnT w ρ t ts e (.int i) T Z) (k : ∀ qs, qs.length ≤ 10 → (qs.length : Int) = uniq ns → K qs) :
    CompT w ρ t ts e K ((List.range ns.length).map fun i : Nat => PV.int i) [] :=
  CompT.filt (fun i => !(ns.take i).contains (ns.getD i Str.empty)) (f := fun i : Nat => PV.int i) (g := fun i : Nat => PV.int i)
    (fun i hi T Z hT hZ => h i (List.mem_range.mp hi) T Z fun b e => ite_tb e hT hZ)
    (k _ (by rw [List.length_map]; exact Nat.le_trans (List.length_filter_le _ _) (by rw [List.length_range]; exact hnl)) (by rw [List.length_map]; rfl))
theorem g_check_drop (hK : G.K = hp.heap_1 G.w.params) (hC : G.flt = 52) {rs known : List Str} {ts : List DT} {ps : List (Str × List Str)} {num tr ta ms w : PV} {sp : Int} (hl : rs.length ≤ 10 ∧ ts.length ≤ 10 ∧ ps.length ≤ 10 ∧ known.length ≤ 10)
    (hrs : ∀ x ∈ rs, x.length ≤ 100 ∧ (PV.str x).lay = true) (hkn : ∀ x ∈ known, (PV.str x).lay = true) (hts : ∀ t ∈ ts, t.nm.length ≤ 90 ∧ (PV.str t.nm).lay = true) (hps : ∀ p ∈ ps, p.2.length ≤ 10 ∧ (PV.str p.1).lay = true) :
    FnX G (.adr 143) [implRow num known ps tr ta (tAdt (Str.ofString "S") (rs.map PV.str) (ts.map DT.pv)) ms (.int sp), w] 10 (fun r => r = .none ∧ badDrop rs known ts ps = false)
      (fun l => badDrop rs known ts ps = true ∧ l = [(Str.ofString "message", .str (Str.ofString "an impl of Drop is of all of a type: " ++ adtText (Str.ofString "S") (rs ++ ts.map DT.txt))), (Str.ofString "spot", .int sp)]) := by
  have htx : ∀ t ∈ ts, t.txt.length ≤ 100 ∧ (PV.str t.txt).lay = true := fun t ht => DT.txt_ok (hts t ht).1 (hts t ht).2
  have htt := g_text_adt hK (rs := rs) (xs := ts.map DT.txt) (ps := ts.map DT.pv) hl.1 (by rw [List.length_map]; exact hl.2.1) hrs (fun x hx => by
    obtain ⟨t, ht, rfl⟩ := List.mem_map.mp hx; exact htx t ht) (Fa2.map2 fun t ht => g_text_dt hK (hts t ht).1)
  have hlen : (adtText (Str.ofString "S") (rs ++ ts.map DT.txt)).length ≤ 10000 := adtText_len (by rw [List.length_append, List.length_map]; omega) fun x hx => by
    rcases List.mem_append.mp hx with hx | hx
    · exact (hrs x hx).1
    · obtain ⟨t, ht, rfl⟩ := List.mem_map.mp hx; exact (htx t ht).1
  have e6 : (Str.ofString "an impl of Drop is of all of a type: ").length = 37 := by decide +kernel
  refine FnX.introT (names := [Str.ofString "row", Str.ofString "world"]) hK (by rfl) (by rfl) (arity2 fun _ _ => rfl) (by rfl) fun p _ => ?_
  refine ExsT.asgV ?_ rfl ?_; (· exact .inl (by rfl))
  refine ExsT.ifN rfl ?_
  refine ExsT.asg ?_ ?_; (· exact .inr ⟨rfl, by rfl, _, by rfl, .tail _ (.head _)⟩)
  refine EvT.comp ?_
  refine ItT.tupV rfl ?_
  refine ⟨?_, fun p => ?_⟩; (· (simp only [List.length_map, List.length_append, List.length_take, List.length_cons, List.length_nil, List.length_range]; omega))
  refine CompT.filt DT.isPar (f := DT.pv) (g := fun d => PV.str d.nm) (fun t ht T Z hT hZ => ?_) ?_
  · cases t
    · refine TurnT.i ?_
      refine AsgT.name ?_ ?_; (· exact .inl (by rfl))
      refine TstT.one ?_
      refine TrT.val rfl ?_
      refine ite_t rfl ?_
      refine EvT.val rfl ?_
      exact hT rfl
    · refine TurnT.i ?_
      refine AsgT.name ?_ ?_; (· exact .inl (by rfl))
      refine TstT.one ?_
      refine TrT.val rfl ?_
      refine ite_f rfl ?_
      exact hZ rfl
    · refine TurnT.i ?_
      refine AsgT.name ?_ ?_; (· exact .inl (by rfl))
      refine TstT.one ?_
      refine TrT.val rfl ?_
      refine ite_f rfl ?_
      exact hZ rfl
  refine ExsT.asg ?_ ?_; (· exact .inr ⟨rfl, by rfl, _, by rfl, .head _⟩)
  refine EvT.comp ?_
  refine ItT.tupV rfl ?_
  refine ⟨?_, fun p => ?_⟩; (· (simp only [List.length_map, List.length_append, List.length_take, List.length_cons, List.length_nil, List.length_range]; omega))
  refine CompT.filt (fun x => known.contains x) (f := PV.str) (g := PV.str) (fun x hx T Z hT hZ => ?_) ?_
  · refine TurnT.i ?_
    refine AsgT.name ?_ ?_; (· exact .inl (by rfl))
    refine TstT.one ?_
    refine TrT.cmp ?_
    refine EvT.val rfl ?_
    refine EvT.val rfl ?_
    refine Op2T.in_tup (PV.ok_str (hrs x hx).2) (PV.ok_tups hkn) ⟨_, rfl, ite_tb (any_strs known x) (fun e => ?_) hZ⟩
    refine EvT.val rfl ?_
    exact hT e
  have e1 : ((ts.filter DT.isPar).map fun d => PV.str d.nm) = ((ts.filter DT.isPar).map DT.nm).map PV.str := by rw [List.map_map]; rfl
  rw [e1]
  have hns : ∀ x ∈ (ts.filter DT.isPar).map DT.nm, (PV.str x).lay = true := fun x hx => by
    obtain ⟨t, ht, rfl⟩ := List.mem_map.mp hx
    exact (hts t (List.mem_filter.mp ht).1).2
  have hrg : ∀ x ∈ rs.filter (fun x => known.contains x), (PV.str x).lay = true := fun x hx => (hrs x (List.mem_filter.mp hx).1).2
  have hnl : ((ts.filter DT.isPar).map DT.nm).length ≤ 10 := by rw [List.length_map]; exact Nat.le_trans (List.length_filter_le _ _) hl.2.1
  have hrl : (rs.filter (fun x => known.contains x)).length ≤ 10 := Nat.le_trans (List.length_filter_le _ _) hl.1
  generalize hens : (ts.filter DT.isPar).map DT.nm = ns at hns hnl
  generalize herg : rs.filter (fun x => known.contains x) = rg at hrg hrl
  have hbad : badDrop rs known ts ps = (!(decide ((ns.length : Int) = ts.length) && decide ((rg.length : Int) = rs.length)) || decide ((uniq ns : Int) < ns.length) || decide ((uniq rg : Int) < rg.length) || ps.any fun p => decide (p.2.length > 0)) := by
    subst hens herg; rfl
  clear hens herg e1
  refine ExsT.asg (.inl rfl) (EvT.eq (.bool (decide ((ns.length : Int) = ts.length) && decide ((rg.length : Int) = rs.length))) ?_ ?_)
  · refine EvT.boolop (EvbT.cons ?_)
    refine EvT.cmp ?_
    refine EvT.call rfl (by rfl) ?_
    refine EvsT.val rfl rfl ?_
    refine OpLT.len_lst ?_ ?_; (· (simp only [List.length_map, List.length_append, List.length_take, List.length_cons, List.length_nil, List.length_range]; omega))
    refine EvT.call rfl (by rfl) ?_
    refine EvsT.val rfl rfl ?_
    refine OpLT.len_tup ?_ ?_; (· (simp only [List.length_map, List.length_append, List.length_take, List.length_cons, List.length_nil, List.length_range]; omega))
    refine Op2T.cmp rfl ?_
    refine ⟨_, rfl, ?_⟩
    rw [List.length_map, List.length_map]
    by_cases q1 : (ns.length : Int) = ts.length
    · rw [if_neg (by rw [beq_iff_eq.mpr q1]; decide), decide_eq_true q1, Bool.true_and]
      refine EvbT.one ?_
      refine EvT.cmp ?_
      refine EvT.call rfl (by rfl) ?_
      refine EvsT.val rfl rfl ?_
      refine OpLT.len_lst ?_ ?_; (· (simp only [List.length_map, List.length_append, List.length_take, List.length_cons, List.length_nil, List.length_range]; omega))
      refine EvT.call rfl (by rfl) ?_
      refine EvsT.val rfl rfl ?_
      refine OpLT.len_tup ?_ ?_; (· (simp only [List.length_map, List.length_append, List.length_take, List.length_cons, List.length_nil, List.length_range]; omega))
      refine Op2T.cmp rfl ?_
      rw [List.length_map, List.length_map]
      rfl
    · rw [if_pos (by rw [beq_eq_false_iff_ne.mpr q1]; rfl), decide_eq_false q1, Bool.false_and, beq_eq_false_iff_ne.mpr q1]
  have hU : ∀ ns : List Str, ns.length ≤ 10 → (∀ x ∈ ns, (PV.str x).lay = true) → ∀ i : Nat, i < ns.length → (PV.str (ns.getD i Str.empty)).ok = true ∧ (PV.lst ((ns.take i).map PV.str)).ok = true := fun ns hl h i hi => ⟨PV.ok_str (getD_lay h hi), PV.ok_strs fun x hx => h x (List.mem_of_mem_take hx)⟩
  refine ExsT.asgComp ?_ ?_; (· exact .inl (by rfl))
  refine ItT.rng ?_
  refine EvT.call rfl (by rfl) ?_
  refine EvsT.cons rfl ?_
  refine EvT.call rfl (by rfl) ?_
  refine EvsT.val rfl rfl ?_
  refine OpLT.len_lst ?_ ?_; (· (simp only [List.length_map, List.length_append, List.length_take, List.length_cons, List.length_nil, List.length_range]; omega))
  refine EvsT.nil ?_
  refine OpLT.rng ?_
  refine ⟨_, rfl, ?_, ?_⟩; (· (simp only [List.length_map, List.length_append, List.length_take, List.length_cons, List.length_nil, List.length_range]; omega))
  refine ⟨?_, fun p => ?_⟩; (· (simp only [List.length_map, List.length_append, List.length_take, List.length_cons, List.length_nil, List.length_range]; omega))
  rw [List.length_map]
  refine uniq_turn hns hnl (fun i hi T Z hT => ?_) fun ql hq1 hq2 => ?_
  · refine TurnT.i ?_
    refine AsgT.name ?_ ?_; (· exact .inl (by rfl))
    refine TstT.one ?_
    refine TrT.cmp ?_
    refine EvT.sub ?_
    refine EvT.val rfl ?_
    refine EvT.val rfl ?_
    refine sub_strsT rfl hnl hi ?_
    refine EvT.upto (EvT.val rfl ⟨_, rfl, by rw [List.length_map]; omega, EvT.val rfl ⟨i, rfl, by rw [List.length_map]; omega, ?_⟩⟩)
    rw [← List.map_take]
    refine Op2T.notIn_lst (hU _ hnl hns i hi).1 (hU _ hnl hns i hi).2 ⟨_, rfl, ?_⟩
    rw [any_strs]
    exact ite_tb rfl (fun e => EvT.val rfl ((by simpa only [if_pos] using hT _ e.symm))) (fun e => by simpa only [if_neg, Bool.false_eq_true, if_false] using hT _ e.symm)
  refine ExsT.asgComp ?_ ?_; (· exact .inl (by rfl))
  refine ItT.rng ?_
  refine EvT.call rfl (by rfl) ?_
  refine EvsT.cons rfl ?_
  refine EvT.call rfl (by rfl) ?_
  refine EvsT.val rfl rfl ?_
  refine OpLT.len_lst ?_ ?_; (· (simp only [List.length_map, List.length_append, List.length_take, List.length_cons, List.length_nil, List.length_range]; omega))
  refine EvsT.nil ?_
  refine OpLT.rng ?_
  refine ⟨_, rfl, ?_, ?_⟩; (· (simp only [List.length_map, List.length_append, List.length_take, List.length_cons, List.length_nil, List.length_range]; omega))
  refine ⟨?_, fun p => ?_⟩; (· (simp only [List.length_map, List.length_append, List.length_take, List.length_cons, List.length_nil, List.length_range]; omega))
  rw [List.length_map]
  refine uniq_turn hrg hrl (fun i hi T Z hT => ?_) fun qr hr1 hr2 => ?_
  · refine TurnT.i ?_
    refine AsgT.name ?_ ?_; (· exact .inl (by rfl))
    refine TstT.one ?_
    refine TrT.cmp ?_
    refine EvT.sub ?_
    refine EvT.val rfl ?_
    refine EvT.val rfl ?_
    refine sub_strsT rfl hrl hi ?_
    refine EvT.upto (EvT.val rfl ⟨_, rfl, by rw [List.length_map]; omega, EvT.val rfl ⟨i, rfl, by rw [List.length_map]; omega, ?_⟩⟩)
    rw [← List.map_take]
    refine Op2T.notIn_lst (hU _ hrl hrg i hi).1 (hU _ hrl hrg i hi).2 ⟨_, rfl, ?_⟩
    rw [any_strs]
    exact ite_tb rfl (fun e => EvT.val rfl ((by simpa only [if_pos] using hT _ e.symm))) (fun e => by simpa only [if_neg, Bool.false_eq_true, if_false] using hT _ e.symm)
  refine ExsT.asg ?_ ?_; (· exact .inl (by rfl))
  refine EvT.cmp ?_
  refine EvT.comp ?_
  refine ItT.lstV rfl ?_
  refine ⟨?_, fun p => ?_⟩; (· (simp only [List.length_map, List.length_append, List.length_take, List.length_cons, List.length_nil, List.length_range]; omega))
  refine CompT.filt (fun p => decide (p.2.length > 0)) (f := fun p : Str × List Str => .tup [.str p.1, .tup (p.2.map PV.str)]) (g := fun p : Str × List Str => .str p.1) (fun p hp T Z hT hZ => ?_) ?_
  · have hp2 := (hps p hp).1
    refine TurnT.i ?_
    refine AsgT.tup ?_
    refine AsgsT.name ?_ ?_; (· exact .inl (by rfl))
    refine AsgsT.name ?_ ?_; (· exact .inl (by rfl))
    refine AsgsT.nil ?_
    refine TstT.one ?_
    refine TrT.cmp ?_
    refine EvT.call rfl (by rfl) ?_
    refine EvsT.val rfl rfl ?_
    refine OpLT.len_tup ?_ ?_; (· (simp only [List.length_map, List.length_append, List.length_take, List.length_cons, List.length_nil, List.length_range]; omega))
    refine EvT.val rfl ?_
    refine Op2T.cmp rfl ?_
    refine ⟨_, rfl, ?_⟩
    refine ite_tb (by rw [List.length_map]; exact decide_eq_decide.mpr (by omega)) (fun e => ?_) hZ
    refine EvT.val rfl ?_
    exact hT e
  have e2 : ((ps.filter fun p => decide (p.2.length > 0)).map fun p => PV.str p.1) = ((ps.filter fun p => decide (p.2.length > 0)).map fun p => p.1).map PV.str := by rw [List.map_map]; rfl
  rw [e2]
  have hn3 : ∀ x ∈ (ps.filter fun p => decide (p.2.length > 0)).map (fun p => p.1), (PV.str x).lay = true := fun x hx => by
    obtain ⟨p, hp, rfl⟩ := List.mem_map.mp hx
    exact (hps p (List.mem_filter.mp hp).1).2
  refine EvT.val rfl ?_
  refine Op2T.ne (PV.ok_strs hn3) (PV.ok_of (by rfl)) ?_
  rw [ne_nil_strs, List.isEmpty_map, filter_isEmpty, Bool.not_not]
  generalize hany : (ps.any fun p => decide (p.2.length > 0)) = any at hbad
  refine ExsT.if (TrT.eq (badDrop rs known ts ps) (TrT.bool (TrsT.or ?_)) (ite_tb rfl (fun e => ?_) fun e => ?_))
  · refine TrT.val rfl (ite_tb rfl (fun e => ?_) fun e => ?_)
    · rw [hbad, e]; rfl
    rw [hbad, e]
    refine TrsT.or ?_
    refine TrT.cmp ?_
    refine EvT.call rfl (by rfl) ?_
    refine EvsT.val rfl rfl ?_
    refine OpLT.len_lst ?_ ?_; (· omega)
    refine EvT.call rfl (by rfl) ?_
    refine EvsT.val rfl rfl ?_
    refine OpLT.len_lst ?_ ?_; (· (simp only [List.length_map, List.length_append, List.length_take, List.length_cons, List.length_nil, List.length_range]; omega))
    refine Op2T.cmp rfl ?_
    refine ⟨_, rfl, ?_⟩
    refine ite_tb (by rw [hq2, List.length_map]) (fun e => ?_) fun e => ?_
    · rw [e]; rfl
    rw [e]
    refine TrsT.or ?_
    refine TrT.cmp ?_
    refine EvT.call rfl (by rfl) ?_
    refine EvsT.val rfl rfl ?_
    refine OpLT.len_lst ?_ ?_; (· omega)
    refine EvT.call rfl (by rfl) ?_
    refine EvsT.val rfl rfl ?_
    refine OpLT.len_lst ?_ ?_; (· (simp only [List.length_map, List.length_append, List.length_take, List.length_cons, List.length_nil, List.length_range]; omega))
    refine Op2T.cmp rfl ?_
    refine ⟨_, rfl, ?_⟩
    refine ite_tb (by rw [hr2, List.length_map]) (fun e => ?_) fun e => ?_
    · rw [e]; rfl
    rw [e]
    refine TrsT.or ?_
    refine TrT.val rfl ?_
    cases any
    · refine ite_f rfl ?_
      refine TrsT.nil ?_
      rfl
    · refine ite_t rfl ?_
      rfl
  · refine ExsT.raise hC (bleT (by rfl)) rfl ?_
    refine EvsT.cons rfl ?_
    refine EvT.bin ?_
    refine EvT.val rfl ?_
    refine EvT.call rfl (by rfl) ?_
    refine EvsT.val rfl rfl ?_
    refine OpLT.fnE (by assumption) (bleT (by rfl)) ?_
    refine Op2T.add_str ?_ ?_; (· omega)
    refine EvsT.val rfl rfl ?_
    exact ⟨_, _, rfl, e, rfl⟩
  refine ExsT.nil ?_
  refine ExsT.nil ?_
  exact ⟨rfl, e⟩
theorem g_check_drop0 (hK : G.K = hp.heap_1 G.w.params) (hC : G.flt = 52) {known : List Str} {ps : List (Str × List Str)} {num tr ta ms w : PV} {sp : Int} :
    FnX G (.adr 143) [implRow num known ps tr ta tByte ms (.int sp), w] 10 (fun r => False)
      (fun l => l = [(Str.ofString "message", .str (Str.ofString "Drop is told of structs and enums alone")), (Str.ofString "spot", .int sp)]) := by
  refine FnX.introT (names := [Str.ofString "row", Str.ofString "world"]) hK (by rfl) (by rfl) (arity2 fun _ _ => rfl) (by rfl) fun p _ => ?_
  refine ExsT.asgV ?_ rfl ?_; (· exact .inl (by rfl))
  refine ExsT.ifT rfl ?_
  refine ExsT.raise hC (bleT (by rfl)) rfl ?_
  refine EvsT.val rfl rfl ?_
  exact ⟨_, _, rfl, rfl⟩
end
end
section
section
variable {G : Gx}
theorem g_law_drop (hK : G.K = hp.heap_1 G.w.params) (hC : G.flt = 52) {rs known : List Str} {ts : List DT} {ps : List (Str × List Str)} (hl : rs.length ≤ 10 ∧ ts.length ≤ 10 ∧ ps.length ≤ 10 ∧ known.length ≤ 10)
    (hrs : ∀ x ∈ rs, x.length ≤ 100 ∧ (PV.str x).lay = true) (hkn : ∀ x ∈ known, (PV.str x).lay = true) (hts : ∀ t ∈ ts, t.nm.length ≤ 90 ∧ (PV.str t.nm).lay = true) (hps : ∀ p ∈ ps, p.2.length ≤ 10 ∧ (PV.str p.1).lay = true) :
    Fn G (.adr 354) [tAdt (Str.ofString "S") (rs.map PV.str) (ts.map DT.pv), .lst (known.map PV.str), .lst (ps.map fun p => .tup [.str p.1, .tup (p.2.map PV.str)])] 12 (fun r => r = dropRes rs known ts ps) := by
  have h1 := f_heard (f := .adr 143) (A := badDrop rs known ts ps = false) hK hC (okF_of hK (by rfl)) (g_check_drop (num := .int 0) (tr := .str (Str.ofString "Drop")) (ta := .tup []) (ms := .dct []) (w := .none) (sp := 21) hK hC hl hrs hkn hts hps) (fun l h => ⟨_, _, h.2, drop_any rs ts⟩)
  refine Fn.introT (names := [Str.ofString "told", Str.ofString "regions", Str.ofString "params"]) hK (by rfl) (by rfl) (arity3 fun _ _ _ => rfl) (by rfl) fun p => ?_
  have hkl := hl.2.2.2
  refine ExsT.asg ?_ ?_; (· exact .inl (by rfl))
  refine EvT.call rfl (by rfl) ?_
  refine EvsT.cons rfl ?_
  refine EvT.val rfl ?_
  refine EvsT.cons rfl ?_
  refine EvT.call rfl (by rfl) ?_
  refine EvsT.val rfl rfl ?_
  refine OpLT.tup_lst ?_ ?_; (· (simp only [List.length_map, List.length_append, List.length_take, List.length_cons, List.length_nil, List.length_range]; omega))
  refine EvsT.val rfl rfl ?_
  refine OpLT.impl ?_
  refine ExsT.ret ?_
  refine EvT.call rfl (by rfl) ?_
  refine EvsT.val rfl rfl ?_
  refine OpLT.fn h1 (bleT (by rfl)) fun q hq => ?_
  rcases hq with ⟨rfl, hA⟩ | ⟨m, sp, ⟨hb, e⟩, rfl⟩
  · unfold dropRes; rw [hA]; rfl
  · unfold dropRes; rw [if_pos hb]
    simp only [List.cons.injEq, Prod.mk.injEq, PV.strE, PV.intE, true_and, and_true] at e
    rw [e.1, e.2]; rfl
theorem g_law_drop0 (hK : G.K = hp.heap_1 G.w.params) (hC : G.flt = 52) : Fn G (.adr 354) [tByte, .lst [], .lst []] 12 (fun r => r = dropRes0) := by
  have h1 := f_heard (f := .adr 143) (A := False) hK hC (okF_of hK (by rfl)) (n := 10) (row := implRow (.int 0) [] [] (.str (Str.ofString "Drop")) (.tup []) tByte (.dct []) (.int 21)) (w := .none) (fun c st O r h tk vs S rs Q' E' z zx => g_check_drop0 (known := []) (ps := []) (num := .int 0) (tr := .str (Str.ofString "Drop")) (ta := .tup []) (ms := .dct []) (w := .none) (sp := 21) hK hC c st O r h tk vs S rs Q' E' (fun v q h' tk' s r hq => hq.elim) zx) (fun l h => ⟨Str.ofString "Drop is told of structs and enums alone", 21, h, by decide +kernel⟩)
  refine Fn.introT (names := [Str.ofString "told", Str.ofString "regions", Str.ofString "params"]) hK (by rfl) (by rfl) (arity3 fun _ _ _ => rfl) (by rfl) fun p => ?_
  refine ExsT.asg ?_ ?_; (· exact .inl (by rfl))
  refine EvT.call rfl (by rfl) ?_
  refine EvsT.cons rfl ?_
  refine EvT.val rfl ?_
  refine EvsT.cons rfl ?_
  refine EvT.call rfl (by rfl) ?_
  refine EvsT.val rfl rfl ?_
  refine OpLT.tup_lst ?_ ?_; (· exact bleT (by rfl))
  refine EvsT.val rfl rfl ?_
  refine OpLT.impl ?_
  refine ExsT.ret ?_
  refine EvT.call rfl (by rfl) ?_
  refine EvsT.val rfl rfl ?_
  refine OpLT.fn h1 (bleT (by rfl)) fun q hq => ?_
  rcases hq with ⟨_, hA⟩ | ⟨m, sp, e, rfl⟩
  · exact hA.elim
  · simp only [List.cons.injEq, Prod.mk.injEq, PV.strE, PV.intE, true_and, and_true] at e
    rw [e.1, e.2]; rfl
theorem gd_none (hK : G.K = hp.heap_1 G.w.params) (hC : G.flt = 52) {rs known : List Str} {ts : List DT} {ps : List (Str × List Str)} (hb : badDrop rs known ts ps = false) (hl : rs.length ≤ 10 ∧ ts.length ≤ 10 ∧ ps.length ≤ 10 ∧ known.length ≤ 10)
    (hrs : ∀ x ∈ rs, x.length ≤ 100 ∧ (PV.str x).lay = true) (hkn : ∀ x ∈ known, (PV.str x).lay = true) (hts : ∀ t ∈ ts, t.nm.length ≤ 90 ∧ (PV.str t.nm).lay = true) (hps : ∀ p ∈ ps, p.2.length ≤ 10 ∧ (PV.str p.1).lay = true) :
    Fn G (.adr 354) [tAdt (Str.ofString "S") (rs.map PV.str) (ts.map DT.pv), .lst (known.map PV.str), .lst (ps.map fun p => .tup [.str p.1, .tup (p.2.map PV.str)])] 12 (fun r => r = .none) :=
  (g_law_drop hK hC hl hrs hkn hts hps).mono fun q e => e.trans (dropRes_none hb)
theorem gd_all (hK : G.K = hp.heap_1 G.w.params) (hC : G.flt = 52) {rs known : List Str} {ts : List DT} {ps : List (Str × List Str)} (hb : badDrop rs known ts ps = true) (h0 : hasW (dropMsg rs ts) w0 = false) (h1 : hasW (dropMsg rs ts) w1 = false) (h2 : hasW (dropMsg rs ts) w2 = false) (h3 : hasW (dropMsg rs ts) w3 = false) (hl : rs.length ≤ 10 ∧ ts.length ≤ 10 ∧ ps.length ≤ 10 ∧ known.length ≤ 10)
    (hrs : ∀ x ∈ rs, x.length ≤ 100 ∧ (PV.str x).lay = true) (hkn : ∀ x ∈ known, (PV.str x).lay = true) (hts : ∀ t ∈ ts, t.nm.length ≤ 90 ∧ (PV.str t.nm).lay = true) (hps : ∀ p ∈ ps, p.2.length ≤ 10 ∧ (PV.str p.1).lay = true) :
    Fn G (.adr 354) [tAdt (Str.ofString "S") (rs.map PV.str) (ts.map DT.pv), .lst (known.map PV.str), .lst (ps.map fun p => .tup [.str p.1, .tup (p.2.map PV.str)])] 12 (fun r => r = .tup [.int 21, .str w4]) :=
  (g_law_drop hK hC hl hrs hkn hts hps).mono fun q e => e.trans (dropRes_all hb h0 h1 h2 h3)
theorem g_drops_told (hK : G.K = hp.heap_1 G.w.params) (hC : G.flt = 52) : Fn G (.adr 359) [] 13 (fun r => r = .bool true) := by
  refine Fn.introT (names := []) hK (by rfl) (by rfl) (arity0 rfl) (by rfl) fun p => ?_
  refine ExsT.asgT3 ?_ ?_ ?_ ?_; (· exact .inl (by rfl)); (· exact .inl (by rfl)); (· exact .inl (by rfl))
  refine EvT.val rfl ?_
  refine ⟨_, _, _, rfl, ?_⟩
  refine ExsT.asgT2 ?_ ?_ ?_; (· exact .inl (by rfl)); (· exact .inl (by rfl))
  refine EvT.val rfl ?_
  refine ⟨_, _, rfl, ?_⟩
  refine ExsT.asgV ?_ rfl ?_; (· exact .inl (by rfl))
  refine ExsT.ret ?_
  refine EvT.cmp ?_
  refine EvT.comp ?_
  refine ItT.lstV rfl ?_
  refine ⟨?_, fun p => ?_⟩; (· exact bleT (by rfl))
  refine CompT.cons ?_
  refine TurnT.i ?_
  refine AsgT.name ?_ ?_; (· exact .inl (by rfl))
  refine TstT.one ?_
  refine TrT.cmp ?_
  refine EvT.call rfl (by rfl) ?_
  refine EvsT.val rfl rfl ?_
  refine OpLT.fnE (gd_none (rs := [ra, rb]) (known := [ra, rb]) (ts := [.par sA, .par sB]) (ps := noB) hK hC (by decide +kernel) (by decide) (by decide) (by decide) (by decide) (by decide)) (bleT (by rfl)) ?_
  refine EvT.val rfl ?_
  refine Op2T.cmp rfl ?_
  refine ⟨_, rfl, ?_⟩
  refine ite_f rfl ?_
  refine CompT.cons ?_
  refine TurnT.i ?_
  refine AsgT.name ?_ ?_; (· exact .inl (by rfl))
  refine TstT.one ?_
  refine TrT.cmp ?_
  refine EvT.call rfl (by rfl) ?_
  refine EvsT.val rfl rfl ?_
  refine OpLT.fnE ((g_law_drop0 hK hC).mono (Q2 := fun r => r = .tup [.int 21, .str w3]) (fun q e => e.trans (by
    unfold dropRes0 heardOf
    rw [if_neg (by decide +kernel), if_neg (by decide +kernel), if_neg (by decide +kernel), if_pos (by decide +kernel)]))) (bleT (by rfl)) ?_
  refine EvT.val rfl ?_
  refine Op2T.cmp rfl ?_
  refine ⟨_, rfl, ?_⟩
  refine ite_f rfl ?_
  refine CompT.cons ?_
  refine TurnT.i ?_
  refine AsgT.name ?_ ?_; (· exact .inl (by rfl))
  refine TstT.one ?_
  refine TrT.cmp ?_
  refine EvT.call rfl (by rfl) ?_
  refine EvsT.val rfl rfl ?_
  refine OpLT.fnE (gd_all (rs := []) (known := []) (ts := [.par sA, .par sA]) (ps := noB) hK hC (by decide +kernel) (by decide +kernel) (by decide +kernel) (by decide +kernel) (by decide +kernel) (by decide) (by decide) (by decide) (by decide) (by decide)) (bleT (by rfl)) ?_
  refine EvT.val rfl ?_
  refine Op2T.cmp rfl ?_
  refine ⟨_, rfl, ?_⟩
  refine ite_f rfl ?_
  refine CompT.cons ?_
  refine TurnT.i ?_
  refine AsgT.name ?_ ?_; (· exact .inl (by rfl))
  refine TstT.one ?_
  refine TrT.cmp ?_
  refine EvT.call rfl (by rfl) ?_
  refine EvsT.val rfl rfl ?_
  refine OpLT.fnE (gd_all (rs := []) (known := []) (ts := [.par sA, .byte]) (ps := noB) hK hC (by decide +kernel) (by decide +kernel) (by decide +kernel) (by decide +kernel) (by decide +kernel) (by decide) (by decide) (by decide) (by decide) (by decide)) (bleT (by rfl)) ?_
  refine EvT.val rfl ?_
  refine Op2T.cmp rfl ?_
  refine ⟨_, rfl, ?_⟩
  refine ite_f rfl ?_
  refine CompT.cons ?_
  refine TurnT.i ?_
  refine AsgT.name ?_ ?_; (· exact .inl (by rfl))
  refine TstT.one ?_
  refine TrT.cmp ?_
  refine EvT.call rfl (by rfl) ?_
  refine EvsT.val rfl rfl ?_
  refine OpLT.fnE (gd_all (rs := [ra, ra]) (known := [ra]) (ts := []) (ps := []) hK hC (by decide +kernel) (by decide +kernel) (by decide +kernel) (by decide +kernel) (by decide +kernel) (by decide) (by decide) (by decide) (by decide) (by decide)) (bleT (by rfl)) ?_
  refine EvT.val rfl ?_
  refine Op2T.cmp rfl ?_
  refine ⟨_, rfl, ?_⟩
  refine ite_f rfl ?_
  refine CompT.cons ?_
  refine TurnT.i ?_
  refine AsgT.name ?_ ?_; (· exact .inl (by rfl))
  refine TstT.one ?_
  refine TrT.cmp ?_
  refine EvT.call rfl (by rfl) ?_
  refine EvsT.val rfl rfl ?_
  refine OpLT.fnE (gd_all (rs := [Str.ofString "'static"]) (known := [ra]) (ts := []) (ps := []) hK hC (by decide +kernel) (by decide +kernel) (by decide +kernel) (by decide +kernel) (by decide +kernel) (by decide) (by decide) (by decide) (by decide) (by decide)) (bleT (by rfl)) ?_
  refine EvT.val rfl ?_
  refine Op2T.cmp rfl ?_
  refine ⟨_, rfl, ?_⟩
  refine ite_f rfl ?_
  refine CompT.cons ?_
  refine TurnT.i ?_
  refine AsgT.name ?_ ?_; (· exact .inl (by rfl))
  refine TstT.one ?_
  refine TrT.cmp ?_
  refine EvT.call rfl (by rfl) ?_
  refine EvsT.val rfl rfl ?_
  refine OpLT.fnE (gd_all (rs := []) (known := []) (ts := [.par sA, .par sB]) (ps := [(sA, [Str.ofString "Q"]), (sB, [])]) hK hC (by decide +kernel) (by decide +kernel) (by decide +kernel) (by decide +kernel) (by decide +kernel) (by decide) (by decide) (by decide) (by decide) (by decide)) (bleT (by rfl)) ?_
  refine EvT.val rfl ?_
  refine Op2T.cmp rfl ?_
  refine ⟨_, rfl, ?_⟩
  refine ite_f rfl ?_
  refine CompT.cons ?_
  refine TurnT.i ?_
  refine AsgT.name ?_ ?_; (· exact .inl (by rfl))
  refine TstT.one ?_
  refine TrT.cmp ?_
  refine EvT.call rfl (by rfl) ?_
  refine EvsT.val rfl rfl ?_
  refine OpLT.fnE (gd_none (rs := []) (known := []) (ts := []) (ps := []) hK hC (by decide +kernel) (by decide) (by decide) (by decide) (by decide) (by decide)) (bleT (by rfl)) ?_
  refine EvT.val rfl ?_
  refine Op2T.cmp rfl ?_
  refine ⟨_, rfl, ?_⟩
  refine ite_f rfl ?_
  refine CompT.nil ?_
  refine EvT.val rfl ?_
  refine Op2T.cmp rfl ?_
  rfl
end
end
section
section
variable {G : Gx}
theorem g_law_sig (hK : G.K = hp.heap_1 G.w.params) {p own sk q : PV} : Fn G (.adr 371) [p, own, sk, .lst [q]] 8 (fun r => r = sigOf p own sk [q]) := by
  refine Fn.introT (names := [Str.ofString "path", Str.ofString "own", Str.ofString "self_kind", Str.ofString "inputs"]) hK (by rfl) (by rfl) (arity4 fun _ _ _ _ => rfl) (by rfl) fun p => ?_
  refine ExsT.ret ?_
  refine EvT.call rfl (by rfl) ?_
  refine EvsT.cons rfl ?_
  refine EvT.val rfl ?_
  refine EvsT.cons rfl ?_
  refine EvT.val rfl ?_
  refine EvsT.cons rfl ?_
  refine EvT.val rfl ?_
  refine EvsT.cons rfl ?_
  refine EvT.val rfl ?_
  refine EvsT.cons rfl ?_
  refine EvT.bin ?_
  refine EvT.val rfl ?_
  refine EvT.call rfl (by rfl) ?_
  refine EvsT.val rfl rfl ?_
  refine OpLT.tup_lst ?_ ?_; (· exact bleT (by rfl))
  refine Op2T.bin rfl ?_
  refine EvsT.val rfl rfl ?_
  refine OpLT.sig ?_
  rfl
theorem g_is_like (hK : G.K = hp.heap_1 G.w.params) (hL : G.klam = lamK) (hP : G.kput = putK) {ms df ms2 p1 p2 t : PV} {b : Bool} (ht : (t = tByte ∧ b = true) ∨ (t = tBool ∧ b = false)) :
    Fn G (.adr 183) [traitQ ms df, sigOf p1 (tPar (Str.ofString "Self")) (.str (Str.ofString "value")) [tByte], implQ ms2, sigOf p2 tS (.str (Str.ofString "value")) [t]] 12 (fun r => r = .bool b) := by
  have hTT1 := g_told_types hK (a := p1) (b := .tup []) (c := .tup []) (d := .tup []) (l := [tPar (Str.ofString "Self"), tByte]) (o := tUnit) (k := .str (Str.ofString "value")) (e := .bool true) (by decide) (by rfl) |>.mono (Q2 := fun r => r = .tup [tPar (Str.ofString "Self"), tByte, tUnit]) (fun q e => e)
  have hTT2 := g_told_types hK (a := p2) (b := .tup []) (c := .tup []) (d := .tup []) (l := [tS, t]) (o := tUnit) (k := .str (Str.ofString "value")) (e := .bool true) (bleT (by rfl)) (by rfl) |>.mono (Q2 := fun r => r = .tup [tS, t, tUnit]) (fun q e => e)
  have hU (t u) := g_subst0 hK (tb := [(Str.ofString "Self", tS)]) (t := t) (u := u)
  have hE (t) := g_erased hK (t := t)
  have hR (t) := g_regs hK (t := t)
  have hS1 := hU (tPar (Str.ofString "Self")) tS (.inl ⟨_, rfl, rfl⟩)
  have hS2 := hU tByte tByte (.inr (.inl ⟨rfl, rfl⟩))
  have hS3 := hU tUnit tUnit (.inr (.inr (.inr ⟨rfl, rfl⟩)))
  have hE1 := hE tS (.inl rfl)
  have hE2 := hE tByte (.inr (.inl rfl))
  have hE3 := hE tUnit (.inr (.inr (.inr rfl)))
  have hE4 := hE tBool (.inr (.inr (.inl rfl)))
  have hR1 := hR tS (.inl rfl)
  have hR2 := hR tByte (.inr (.inl rfl))
  have hR3 := hR tUnit (.inr (.inr (.inr rfl)))
  refine Fn.introT (names := [Str.ofString "trait", Str.ofString "wanted", Str.ofString "row", Str.ofString "told"]) hK (by rfl) (by rfl) (arity4 fun _ _ _ _ => rfl) (by rfl) fun p => ?_
  refine ExsT.if ?_
  refine TrT.bool ?_
  refine TrsT.or ?_
  refine TrT.val rfl ?_
  refine ite_f rfl ?_
  refine TrsT.or ?_
  refine TrT.cmp ?_
  refine EvT.call rfl (by rfl) ?_
  refine EvsT.val rfl rfl ?_
  refine OpLT.len_tup ?_ ?_; (· exact bleT (by rfl))
  refine EvT.call rfl (by rfl) ?_
  refine EvsT.val rfl rfl ?_
  refine OpLT.len_tup ?_ ?_; (· exact bleT (by rfl))
  refine Op2T.cmp rfl ?_
  refine ⟨_, rfl, ?_⟩
  refine ite_f rfl ?_
  refine TrsT.nil ?_
  refine ite_f rfl ?_
  refine ExsT.nil ?_
  refine ExsT.if ?_
  refine TrT.cmp ?_
  refine EvT.call rfl (by rfl) ?_
  refine EvsT.val rfl rfl ?_
  refine OpLT.len_tup ?_ ?_; (· exact bleT (by rfl))
  refine EvT.call rfl (by rfl) ?_
  refine EvsT.val rfl rfl ?_
  refine OpLT.len_tup ?_ ?_; (· exact bleT (by rfl))
  refine Op2T.cmp rfl ?_
  refine ⟨_, rfl, ?_⟩
  refine ite_f rfl ?_
  refine ExsT.nil ?_
  refine ExsT.for ?_
  refine ItT.zip rfl ?_
  refine EvsT.val rfl rfl ?_
  refine ⟨_, _, _, _, rfl, (by first | exact .tup _ | exact .lst _ | exact .inl rfl | exact .inr rfl), (by first | exact .tup _ | exact .lst _ | exact .inl rfl | exact .inr rfl), ?_⟩
  with_reducible intro wr
  refine ForT.znil ?_
  refine ExsT.asg ?_ ?_; (· exact .inl (by rfl))
  refine EvT.dict1 fun wr => ?_
  refine EvT.val rfl ?_
  refine ExsT.for ?_
  refine ItT.enum0V rfl rfl rfl ?_
  with_reducible intro wr
  refine ForT.nil ?_
  refine ExsT.for ?_
  refine ItT.enum0V rfl rfl rfl ?_
  with_reducible intro wr
  refine ForT.nil ?_
  refine ExsT.asg ?_ ?_; (· exact .inl (by rfl))
  refine EvT.call rfl (by rfl) ?_
  refine EvsT.cons rfl ?_
  refine EvT.comp ?_
  refine ItT.tupV rfl ?_
  refine ⟨?_, fun p => ?_⟩; (· exact bleT (by rfl))
  refine CompT.nil ?_
  refine EvsT.nil ?_
  refine OpLT.ren ?_
  refine ExsT.for ?_
  refine ItT.zip rfl ?_
  refine EvsT.cons rfl ?_
  refine EvT.call rfl (by rfl) ?_
  refine EvsT.val rfl rfl ?_
  refine OpLT.fnE (by assumption) (bleT (by rfl)) ?_
  refine EvsT.cons rfl ?_
  refine EvT.call rfl (by rfl) ?_
  refine EvsT.val rfl rfl ?_
  refine OpLT.fnE (by assumption) (bleT (by rfl)) ?_
  refine EvsT.nil ?_
  refine ⟨_, _, _, _, rfl, (by first | exact .tup _ | exact .lst _ | exact .inl rfl | exact .inr rfl), (by first | exact .tup _ | exact .lst _ | exact .inl rfl | exact .inr rfl), ?_⟩
  with_reducible intro wr
  refine ForT.zcons ?_
  refine AsgT.tup ?_
  refine AsgsT.name ?_ ?_; (· exact .inl (by rfl))
  refine AsgsT.name ?_ ?_; (· exact .inl (by rfl))
  refine AsgsT.nil ?_
  refine ExsT.asg ?_ ?_; (· exact .inl (by rfl))
  refine EvT.call rfl (by rfl) ?_
  refine EvsT.cons rfl ?_
  refine EvT.val rfl ?_
  refine EvsT.cons rfl ?_
  refine EvT.lam (by assumption) (by assumption) rfl rfl (by rfl) rfl fun f => ?_
  refine EvsT.nil ?_
  refine OpLT.fnE (g_turned hK (.inl ⟨_, rfl⟩)) (bleT (by rfl)) ?_
  refine ExsT.asg ?_ ?_; (· exact .inl (by rfl))
  refine EvT.call rfl (by rfl) ?_
  refine EvsT.val rfl rfl ?_
  refine OpLT.fnE (by assumption) (bleT (by rfl)) ?_
  refine ExsT.if ?_
  refine TrT.cmp ?_
  refine EvT.call rfl (by rfl) ?_
  refine EvsT.val rfl rfl ?_
  refine OpLT.fnE (by assumption) (bleT (by rfl)) ?_
  refine EvT.call rfl (by rfl) ?_
  refine EvsT.val rfl rfl ?_
  refine OpLT.fnE (by assumption) (bleT (by rfl)) ?_
  refine Op2T.cmp rfl ?_
  refine ⟨_, rfl, ?_⟩
  refine ite_f rfl ?_
  refine ExsT.nil ?_
  refine ExsT.for ?_
  refine ItT.zip rfl ?_
  refine EvsT.cons rfl ?_
  refine EvT.call rfl (by rfl) ?_
  refine EvsT.val rfl rfl ?_
  refine OpLT.fnE (by assumption) (bleT (by rfl)) ?_
  refine EvsT.cons rfl ?_
  refine EvT.call rfl (by rfl) ?_
  refine EvsT.val rfl rfl ?_
  refine OpLT.fnE (by assumption) (bleT (by rfl)) ?_
  refine EvsT.nil ?_
  refine ⟨_, _, _, _, rfl, (by first | exact .tup _ | exact .lst _ | exact .inl rfl | exact .inr rfl), (by first | exact .tup _ | exact .lst _ | exact .inl rfl | exact .inr rfl), ?_⟩
  with_reducible intro wr
  refine ForT.znil ?_
  refine ExsT.nil ?_
  refine ForT.zcons ?_
  refine AsgT.tup ?_
  refine AsgsT.name ?_ ?_; (· exact .inl (by rfl))
  refine AsgsT.name ?_ ?_; (· exact .inl (by rfl))
  refine AsgsT.nil ?_
  refine ExsT.asg ?_ ?_; (· exact .inl (by rfl))
  refine EvT.call rfl (by rfl) ?_
  refine EvsT.cons rfl ?_
  refine EvT.val rfl ?_
  refine EvsT.cons rfl ?_
  refine EvT.lam (by assumption) (by assumption) rfl rfl (by rfl) rfl fun f => ?_
  refine EvsT.nil ?_
  refine OpLT.fnE (g_turned hK (.inr (.inl rfl))) (bleT (by rfl)) ?_
  rcases ht with ⟨rfl, rfl⟩ | ⟨rfl, rfl⟩
  · refine ExsT.asg ?_ ?_; (· exact .inl (by rfl))
    refine EvT.call rfl (by rfl) ?_
    refine EvsT.val rfl rfl ?_
    refine OpLT.fnE (by assumption) (bleT (by rfl)) ?_
    refine ExsT.if ?_
    refine TrT.cmp ?_
    refine EvT.call rfl (by rfl) ?_
    refine EvsT.val rfl rfl ?_
    refine OpLT.fnE (by assumption) (bleT (by rfl)) ?_
    refine EvT.call rfl (by rfl) ?_
    refine EvsT.val rfl rfl ?_
    refine OpLT.fnE (by assumption) (bleT (by rfl)) ?_
    refine Op2T.cmp rfl ?_
    refine ⟨_, rfl, ?_⟩
    refine ite_f rfl ?_
    refine ExsT.nil ?_
    refine ExsT.for ?_
    refine ItT.zip rfl ?_
    refine EvsT.cons rfl ?_
    refine EvT.call rfl (by rfl) ?_
    refine EvsT.val rfl rfl ?_
    refine OpLT.fnE (by assumption) (bleT (by rfl)) ?_
    refine EvsT.cons rfl ?_
    refine EvT.call rfl (by rfl) ?_
    refine EvsT.val rfl rfl ?_
    refine OpLT.fnE (by assumption) (bleT (by rfl)) ?_
    refine EvsT.nil ?_
    refine ⟨_, _, _, _, rfl, (by first | exact .tup _ | exact .lst _ | exact .inl rfl | exact .inr rfl), (by first | exact .tup _ | exact .lst _ | exact .inl rfl | exact .inr rfl), ?_⟩
    with_reducible intro wr
    refine ForT.znil ?_
    refine ExsT.nil ?_
    refine ForT.zcons ?_
    refine AsgT.tup ?_
    refine AsgsT.name ?_ ?_; (· exact .inl (by rfl))
    refine AsgsT.name ?_ ?_; (· exact .inl (by rfl))
    refine AsgsT.nil ?_
    refine ExsT.asg ?_ ?_; (· exact .inl (by rfl))
    refine EvT.call rfl (by rfl) ?_
    refine EvsT.cons rfl ?_
    refine EvT.val rfl ?_
    refine EvsT.cons rfl ?_
    refine EvT.lam (by assumption) (by assumption) rfl rfl (by rfl) rfl fun f => ?_
    refine EvsT.nil ?_
    refine OpLT.fnE (g_turned hK (.inr (.inr rfl))) (bleT (by rfl)) ?_
    refine ExsT.asg ?_ ?_; (· exact .inl (by rfl))
    refine EvT.call rfl (by rfl) ?_
    refine EvsT.val rfl rfl ?_
    refine OpLT.fnE (by assumption) (bleT (by rfl)) ?_
    refine ExsT.if ?_
    refine TrT.cmp ?_
    refine EvT.call rfl (by rfl) ?_
    refine EvsT.val rfl rfl ?_
    refine OpLT.fnE (by assumption) (bleT (by rfl)) ?_
    refine EvT.call rfl (by rfl) ?_
    refine EvsT.val rfl rfl ?_
    refine OpLT.fnE (by assumption) (bleT (by rfl)) ?_
    refine Op2T.cmp rfl ?_
    refine ⟨_, rfl, ?_⟩
    refine ite_f rfl ?_
    refine ExsT.nil ?_
    refine ExsT.for ?_
    refine ItT.zip rfl ?_
    refine EvsT.cons rfl ?_
    refine EvT.call rfl (by rfl) ?_
    refine EvsT.val rfl rfl ?_
    refine OpLT.fnE (by assumption) (bleT (by rfl)) ?_
    refine EvsT.cons rfl ?_
    refine EvT.call rfl (by rfl) ?_
    refine EvsT.val rfl rfl ?_
    refine OpLT.fnE (by assumption) (bleT (by rfl)) ?_
    refine EvsT.nil ?_
    refine ⟨_, _, _, _, rfl, (by first | exact .tup _ | exact .lst _ | exact .inl rfl | exact .inr rfl), (by first | exact .tup _ | exact .lst _ | exact .inl rfl | exact .inr rfl), ?_⟩
    with_reducible intro wr
    refine ForT.znil ?_
    refine ExsT.nil ?_
    refine ForT.znil ?_
    refine ExsT.retV rfl ?_
    with_reducible rfl
  · refine ExsT.asg ?_ ?_; (· exact .inl (by rfl))
    refine EvT.call rfl (by rfl) ?_
    refine EvsT.val rfl rfl ?_
    refine OpLT.fnE (by assumption) (bleT (by rfl)) ?_
    refine ExsT.if ?_
    refine TrT.cmp ?_
    refine EvT.call rfl (by rfl) ?_
    refine EvsT.val rfl rfl ?_
    refine OpLT.fnE (by assumption) (bleT (by rfl)) ?_
    refine EvT.call rfl (by rfl) ?_
    refine EvsT.val rfl rfl ?_
    refine OpLT.fnE (by assumption) (bleT (by rfl)) ?_
    refine Op2T.cmp rfl ?_
    refine ⟨_, rfl, ?_⟩
    refine ite_t rfl ?_
    refine ExsT.retV rfl ?_
    with_reducible rfl
end
end
section
theorem LessT.set {s : AT} {x : Str} {q : PV} (hx : s.ρ.lookup x = none) : LessT s (s.set x q) := ⟨rfl, fun y u ey => by
  show List.lookup y ((x, _) :: s.ρ) = _
  rw [List.lookup_cons]
  by_cases hy : (y == x) = true
  · rw [beq_iff_eq.mp hy, hx] at ey; cases ey
  · rw [Bool.eq_false_iff.mpr hy]; exact ey⟩
theorem less_setT {s : AT} {x : Str} {q : PV} {P : AT → Prop} (hx : s.ρ.lookup x = none) (h : P s) : ∃ s3, LessT s3 (s.set x q) ∧ P s3 := ⟨s, LessT.set hx, h⟩
section
variable {G : Gx}
theorem g_check_methods (hK : G.K = hp.heap_1 G.w.params) (hC : G.flt = 52) (hL : G.klam = lamK) (hP : G.kput = putK) {names bodies : List Str} {rows : List (Str × Bool)} {W : List (Str × PV)}
    (hn : names.length ≤ 10 ∧ bodies.length ≤ 10 ∧ rows.length ≤ 10) (hx : (∀ x ∈ names, x.length ≤ 100) ∧ ∀ p ∈ rows, p.1.length ≤ 100) (hnd : names.Nodup ∧ (rows.map (·.1)).Nodup)
    (hW1 : W.lookup (Str.ofString "traits") = some (.dct [(Str.ofString "Q", traitQ (methD names) (bodyD bodies))])) (hW2 : W.lookup (Str.ofString "sigs") = some (.dct (sigsL rows))) :
    FnX G (.adr 190) [implQ (toldD rows), .ins 302 W] 14 (fun r => r = .none ∧ methMsg names bodies (rows.map (·.1)) rows = none)
      (fun l => ∃ m, methMsg names bodies (rows.map (·.1)) rows = some m ∧ l = [(Str.ofString "message", .str m), (Str.ofString "spot", .int 34)]) := by
  have e8 : (Str.ofString "Q").length = 1 := by rfl
  have e9 : (Str.ofString " has no method ").length = 15 := by decide +kernel
  have e10 : (Str.ofString "the method ").length = 11 := by decide +kernel
  have e11 : (Str.ofString " is not as ").length = 11 := by decide +kernel
  have e12 : (Str.ofString " tells it").length = 9 := by decide +kernel
  have e13 : (Str.ofString " of ").length = 4 := by decide +kernel
  have e14 : (Str.ofString " is missing").length = 11 := by decide +kernel
  refine FnX.introT (names := [Str.ofString "row", Str.ofString "world"]) hK (by rfl) (by rfl) (arity2 fun _ _ => rfl) (by rfl) fun p _ => ?_
  refine ExsT.asg (.inl rfl) (EvT.sub (EvT.attrD rfl hW1 rfl rfl (EvT.val rfl (SubT.val rfl ?_))))
  refine ExsT.for (ItT.keysV rfl (by rw [List.map_map]; exact hnd.2) fun wr => ?_)
  rw [List.map_map]
  refine ForT.loop (P := fun l st => ∃ suf, st = _ ∧ l = suf.map (fun p : Str × Bool => PV.str p.1) ∧ (∀ p ∈ suf, p ∈ rows) ∧ methMsg names bodies (rows.map (·.1)) suf = methMsg names bodies (rows.map (·.1)) rows) ?_ ?_ ⟨rows, rfl, rfl, fun _ h => h, rfl⟩
  · rintro q l st ⟨suf, rfl, e, hs, hm⟩
    cases suf with
    | nil => cases e
    | cons p suf =>
      obtain ⟨x, b⟩ := p
      simp only [List.map_cons, List.cons.injEq] at e
      obtain ⟨rfl, rfl⟩ := e
      have hmem := hs _ (.head _)
      have hxl : x.length ≤ 100 := hx.2 _ hmem
      have l1 : (rows.map fun p => (p.1, PV.str (Str.ofString "impl::" ++ p.1))).lookup x = some (.str (Str.ofString "impl::" ++ x)) := lookup_nd (fun p : Str × Bool => p.1) (fun p => PV.str (Str.ofString "impl::" ++ p.1)) hnd.2 hmem
      have l2 : (sigsL rows).lookup (Str.ofString "impl::" ++ x) = some (sigI x b) := lookup_nd (fun p : Str × Bool => Str.ofString "impl::" ++ p.1) (fun p => sigI p.1 p.2) (nodup_pre _ hnd.2) hmem
      have ll := lookup_map sigW x names
      refine AsgT.name ?_ ?_; (· exact .inl (by rfl))
      refine ExsT.if ?_
      refine TrT.val rfl ?_
      refine ite_tb (p := !names.contains x) (by rw [ll]; cases names.contains x <;> rfl) (fun e1 => ?_) (fun e1 => ?_)
      · refine ExsT.raise hC (bleT (by rfl)) rfl ?_
        refine EvsT.cons rfl ?_
        refine EvT.bin ?_
        refine EvT.bin ?_
        refine EvT.val rfl ?_
        refine EvT.val rfl ?_
        refine Op2T.add_str ?_ ?_; (· exact bleT (by rfl))
        refine EvT.val rfl ?_
        refine Op2T.add_str ?_ ?_; (· (simp only [Str.length_append]; omega))
        refine EvsT.val rfl rfl ?_
        refine ⟨_, _, rfl, _, ?_, rfl⟩
        rw [← hm, meth1, if_pos (by simpa using e1)]
      · have hc : names.contains x = true := by simpa using e1
        rw [hc, if_pos rfl] at ll
        have h3 := g_is_like hK hL hP (ms := methD names) (df := bodyD bodies) (ms2 := toldD rows) (p1 := .str (Str.ofString "Q::" ++ x)) (p2 := .str (Str.ofString "impl::" ++ x)) (t := tOf b) (b := b) (by cases b; exact .inr ⟨rfl, rfl⟩; exact .inl ⟨rfl, rfl⟩)
        refine ExsT.nil ?_
        refine ExsT.if ?_
        refine TrT.not ?_
        refine TrT.plain ?_
        refine EvT.call rfl (by rfl) ?_
        refine EvsT.cons rfl ?_
        refine EvT.val rfl ?_
        refine EvsT.cons rfl ?_
        refine EvT.sub ?_
        refine EvT.val rfl ?_
        refine EvT.val rfl ?_
        refine SubT.dct rfl (by assumption) ?_
        refine EvsT.cons rfl ?_
        refine EvT.val rfl ?_
        refine EvsT.cons rfl ?_
        refine EvT.sub ?_
        refine EvT.attrD rfl (by assumption) rfl rfl ?_
        refine EvT.sub ?_
        refine EvT.val rfl ?_
        refine EvT.val rfl ?_
        refine SubT.dct rfl (by assumption) ?_
        refine SubT.dct rfl (by assumption) ?_
        refine EvsT.nil ?_
        refine OpLT.fnE (by assumption) (bleT (by rfl)) ?_
        refine ⟨_, rfl, ?_⟩
        refine ite_tb (p := !b) rfl (fun e2 => ?_) (fun e2 => ?_)
        · refine ExsT.raise hC (bleT (by rfl)) rfl ?_
          refine EvsT.cons rfl ?_
          refine EvT.bin ?_
          refine EvT.bin ?_
          refine EvT.bin ?_
          refine EvT.bin ?_
          refine EvT.val rfl ?_
          refine EvT.val rfl ?_
          refine Op2T.add_str ?_ ?_; (· omega)
          refine EvT.val rfl ?_
          refine Op2T.add_str ?_ ?_; (· (simp only [Str.length_append]; omega))
          refine EvT.val rfl ?_
          refine Op2T.add_str ?_ ?_; (· (simp only [Str.length_append]; omega))
          refine EvT.val rfl ?_
          refine Op2T.add_str ?_ ?_; (· (simp only [Str.length_append]; omega))
          refine EvsT.val rfl rfl ?_
          refine ⟨_, _, rfl, _, ?_, rfl⟩
          rw [← hm, meth1, if_neg (by rw [hc]; simp), if_pos (by simpa using e2)]
        · refine ExsT.nil ?_
          refine ExsT.nil ?_
          refine less_setT (by rfl) ⟨suf, rfl, rfl, fun p hp => hs p (.tail _ hp), ?_⟩
          rw [← hm]
          exact (by rw [meth1, if_neg (by rw [hc]; simp), if_neg (by simpa using e2)])
  · rintro st ⟨suf, rfl, e, hs, hm⟩
    have hsuf : suf = [] := by cases suf with | nil => rfl | cons p l => cases e
    subst hsuf
    rw [meth0] at hm
    refine ExsT.for (ItT.keysV rfl (by rw [List.map_map, show ((fun x : Str × PV => x.1) ∘ fun x => (x, sigW x)) = id from rfl, List.map_id]; exact hnd.1) fun wr => ?_)
    rw [List.map_map]
    refine ForT.loop (P := fun l st => ∃ suf, st = _ ∧ l = suf.map (fun x : Str => PV.str x) ∧ (∀ p ∈ suf, p ∈ names) ∧ missMsg names bodies (rows.map (·.1)) suf = methMsg names bodies (rows.map (·.1)) rows) ?_ ?_ ⟨names, rfl, rfl, fun _ h => h, hm⟩
    · rintro q l st ⟨suf, rfl, e, hs, hm⟩
      cases suf with
      | nil => cases e
      | cons x suf =>
        simp only [List.map_cons, List.cons.injEq] at e
        obtain ⟨rfl, rfl⟩ := e
        have hxl : x.length ≤ 100 := hx.1 _ (hs _ (.head _))
        refine AsgT.name ?_ ?_; (· exact .inl (by rfl))
        refine ExsT.if ?_
        refine TrT.bool ?_
        refine TrsT.and ?_
        refine TrT.val rfl ?_
        refine ite_tb (p := !(rows.map (·.1)).contains x) (by rw [lookup_some]) (fun e1 => ?_) (fun e1 => ?_)
        · refine TrsT.and ?_
          refine TrT.val rfl ?_
          refine ite_tb (p := !bodies.contains x) (by rw [lookup_map (fun x => PV.str (Str.ofString "Q::" ++ x)) x bodies]; cases bodies.contains x <;> rfl) (fun e2 => ?_) (fun e2 => ?_)
          · refine TrsT.nil ?_
            refine ite_t rfl ?_
            refine ExsT.raise hC (bleT (by rfl)) rfl ?_
            refine EvsT.cons rfl ?_
            refine EvT.bin ?_
            refine EvT.bin ?_
            refine EvT.bin ?_
            refine EvT.bin ?_
            refine EvT.val rfl ?_
            refine EvT.val rfl ?_
            refine Op2T.add_str ?_ ?_; (· omega)
            refine EvT.val rfl ?_
            refine Op2T.add_str ?_ ?_; (· (simp only [Str.length_append]; omega))
            refine EvT.val rfl ?_
            refine Op2T.add_str ?_ ?_; (· (simp only [Str.length_append]; omega))
            refine EvT.val rfl ?_
            refine Op2T.add_str ?_ ?_; (· (simp only [Str.length_append]; omega))
            refine EvsT.val rfl rfl ?_
            refine ⟨_, _, rfl, _, ?_, rfl⟩
            rw [← hm, miss1, if_pos ⟨by simpa using e1, by simpa using e2⟩]
          · refine ite_f rfl ?_
            refine ExsT.nil ?_
            refine ExsT.nil ?_
            refine less_setT (by rfl) ⟨suf, rfl, rfl, fun p hp => hs p (.tail _ hp), ?_⟩
            rw [← hm]
            exact (by rw [miss1, if_neg (fun q => by rw [q.2] at e2; cases e2)])
        · refine ite_f rfl ?_
          refine ExsT.nil ?_
          refine ExsT.nil ?_
          refine less_setT (by rfl) ⟨suf, rfl, rfl, fun p hp => hs p (.tail _ hp), ?_⟩
          rw [← hm]
          exact (by rw [miss1, if_neg (fun q => by rw [q.1] at e1; cases e1)])
    · rintro st ⟨suf, rfl, e, hs, hm⟩
      have hsuf : suf = [] := by cases suf with | nil => rfl | cons p l => cases e
      subst hsuf
      rw [miss0] at hm
      refine ExsT.nil ?_
      exact ⟨rfl, hm.symm⟩
end
end
section
theorem less_putT {W n a : Str} {w0 : LV} {qn qa : PV} {k : MK} {ρ1 : List (Str × LV)} {hc : List Addr} {P : AT → Prop} (hn : ρ1.lookup n = none) (ha : ρ1.lookup a = none) (h : P ⟨(W, .mut k) :: ρ1, hc⟩) :
    ∃ s3, LessT s3 (AT.put (AT.set (AT.set ⟨(W, w0) :: ρ1, hc⟩ n qn) a qa) W k) ∧ P s3 :=
  ⟨_, LessT.top (ρ1 := ρ1) (hc := hc) [(W, .mut k), (a, .v qa), (n, .v qn), (W, w0)] [(W, .mut k)] (by simp) (fun p hp => by
    simp only [List.mem_cons, List.not_mem_nil, or_false] at hp
    rcases hp with rfl | rfl | rfl | rfl
    · exact .inl (by simp)
    · exact .inr ha
    · exact .inr hn
    · exact .inl (by simp)), h⟩
theorem OpLT.dictM {w : WX} {s : AT} {α : Type} (k : α → Str) (g : α → PV) {l : List α} {Q : PV → Prop} (hn : (l.map k).Nodup) (hl : l.length ≤ 1000) (q : Q (.dct (l.map fun p => (k p, g p)))) : OpLT w s callL [.ty "dict", .lst (l.map fun p => .tup [.str (k p), g p])] Q :=
  OpLT.dict (PrP.map k g l) (by rw [List.length_map]; omega) (by
    rw [putAll_nd (by rw [List.nil_append, List.map_map]; exact hn), List.nil_append]; exact q)
section
variable {G : Gx}
theorem g_law_methods (hK : G.K = hp.heap_1 G.w.params) (hC : G.flt = 52) (hL : G.klam = lamK) (hP : G.kput = putK) {names bodies : List Str} {rows : List (Str × Bool)} 
    (hn : names.length ≤ 10 ∧ bodies.length ≤ 10 ∧ rows.length ≤ 10) (hx : (∀ x ∈ names, x.length ≤ 100) ∧ (∀ p ∈ rows, p.1.length ≤ 100) ∧ ∀ x ∈ bodies, x.length ≤ 100) (hnd : names.Nodup ∧ (rows.map (·.1)).Nodup ∧ bodies.Nodup)
    (hany : ∀ m, methMsg names bodies (rows.map (·.1)) rows = some m → anyW m = true) :
    Fn G (.adr 376) [.lst (names.map PV.str), .lst (bodies.map PV.str), .lst (rows.map fun p => .tup [.str p.1, .bool p.2])] 20 (fun r => (methMsg names bodies (rows.map (·.1)) rows = none ∧ r = .none) ∨ ∃ m, methMsg names bodies (rows.map (·.1)) rows = some m ∧ r = heardOf m 34) := by
  have e3 : (Str.ofString "Q::").length = 3 := by rfl
  have e6 : (Str.ofString "impl::").length = 6 := by rfl
  have hI (l : List Str) : l.map (fun x => x) = l := List.map_id _
  refine Fn.introT (names := [Str.ofString "names", Str.ofString "bodies", Str.ofString "rows"]) hK (by rfl) (by rfl) (arity3 fun _ _ _ => rfl) (by rfl) fun p => ?_
  refine ExsT.asgKV (x := Str.ofString "world") (y := Str.ofString "S") rfl rfl (by decide) (EvKT.world rfl fun x dx d1 d2 d3 d4 d5 d6 => ?_)
  refine EvT.val rfl ?_
  refine ExsT.asg ?_ ?_; (· exact .inl (by rfl))
  refine EvT.call rfl (by rfl) ?_
  refine EvsT.cons rfl ?_
  refine EvT.comp ?_
  refine ItT.lstV rfl ?_
  refine ⟨?_, fun p => ?_⟩; (· (simp only [List.length_map, List.length_append, List.length_take, List.length_cons, List.length_nil, List.length_range]; omega))
  refine CompT.map (f := PV.str) (g := fun x => .tup [.str x, sigW x]) (fun x hxn T hT => ?_) ?_
  · have hxl : x.length ≤ 100 := hx.1 _ hxn
    have h1 := g_law_sig hK (p := .str (Str.ofString "Q::" ++ x)) (own := tPar (Str.ofString "Self")) (sk := sV) (q := tByte)
    refine TurnT.all ?_
    refine AsgT.name ?_ ?_; (· exact .inl (by rfl))
    refine EvT.tup ?_
    refine EvsT.cons rfl ?_
    refine EvT.val rfl ?_
    refine EvsT.cons rfl ?_
    refine EvT.call rfl (by rfl) ?_
    refine EvsT.cons rfl ?_
    refine EvT.bin ?_
    refine EvT.val rfl ?_
    refine EvT.val rfl ?_
    refine Op2T.add_str ?_ ?_; (· omega)
    refine EvsT.val rfl rfl ?_
    refine OpLT.fnE (by assumption) (bleT (by rfl)) ?_
    refine EvsT.nil ?_
    refine ⟨?_, ?_⟩; (· exact bleT (by rfl))
    exact hT
  refine EvsT.nil ?_
  refine OpLT.dictM (fun x => x) (fun x => sigW x) (by rw [hI]; exact hnd.1) (by omega) ?_
  refine ExsT.wset (x := Str.ofString "world") (f := Str.ofString "traits") (C := 302) (a := x) (dx := dx) (fl := worldF d1 d2 d3 d4 d5 d6 [] [] []) (d := d4) (l := []) rfl rfl List.nodup_nil (by decide) rfl ?_
  refine EvT.call rfl (by rfl) ?_
  refine EvsT.cons rfl ?_
  refine EvT.val rfl ?_
  refine EvsT.cons rfl ?_
  refine EvT.val rfl ?_
  refine EvsT.cons rfl ?_
  refine EvT.val rfl ?_
  refine EvsT.cons rfl ?_
  refine EvT.call rfl (by rfl) ?_
  refine EvsT.cons rfl ?_
  refine EvT.comp ?_
  refine ItT.lstV rfl ?_
  refine ⟨?_, fun p => ?_⟩; (· (simp only [List.length_map, List.length_append, List.length_take, List.length_cons, List.length_nil, List.length_range]; omega))
  refine CompT.map (f := PV.str) (g := fun x => .tup [.str x, .str (Str.ofString "Q::" ++ x)]) (fun x hxn T hT => ?_) ?_
  · have hxl : x.length ≤ 100 := hx.2.2 _ hxn
    refine TurnT.all ?_
    refine AsgT.name ?_ ?_; (· exact .inl (by rfl))
    refine EvT.tup ?_
    refine EvsT.cons rfl ?_
    refine EvT.val rfl ?_
    refine EvsT.cons rfl ?_
    refine EvT.bin ?_
    refine EvT.val rfl ?_
    refine EvT.val rfl ?_
    refine Op2T.add_str ?_ ?_; (· omega)
    refine EvsT.nil ?_
    refine ⟨?_, ?_⟩; (· exact bleT (by rfl))
    exact hT
  refine EvsT.nil ?_
  refine OpLT.dictM (fun x => x) (fun x => PV.str (Str.ofString "Q::" ++ x)) (by rw [hI]; exact hnd.2.2) (by omega) ?_
  refine EvsT.nil ?_
  refine OpLT.trait ?_
  refine EvT.val rfl ?_
  refine ⟨_, rfl, ?_⟩
  refine ExsT.for ?_
  refine ItT.lstV rfl ?_
  with_reducible intro wr
  refine ForT.loop (P := fun l st => ∃ suf pre, st = ⟨(Str.ofString "world", .mut (.wld 302 x dx (worldF d1 d2 d3 d4 d5 d6 [] (sigsL pre) [(Str.ofString "Q", traitQ (methD names) (bodyD bodies))]))) :: _, _⟩ ∧ l = suf.map (fun p : Str × Bool => PV.tup [.str p.1, .bool p.2]) ∧ rows = pre ++ suf) ?_ ?_ ⟨rows, [], rfl, rfl, rfl⟩
  · rintro q l st ⟨suf, pre, rfl, e, hr⟩
    cases suf with
    | nil => cases e
    | cons p suf =>
      obtain ⟨x1, b⟩ := p
      simp only [List.map_cons, List.cons.injEq] at e
      obtain ⟨rfl, rfl⟩ := e
      have hxl : x1.length ≤ 100 := hx.2.1 (x1, b) (by rw [hr]; simp)
      have h1 := g_law_sig hK (p := .str (Str.ofString "impl::" ++ x1)) (own := tS) (sk := sV) (q := tOf b)
      have hnew : (Str.ofString "impl::" ++ x1) ∉ (sigsL pre).map (·.1) := fun q => by
        obtain ⟨r, hr1, e2⟩ := List.mem_map.mp q
        obtain ⟨p, hp, rfl⟩ := List.mem_map.mp hr1
        have e3 := str_append_inj e2
        have hn2 := hnd.2.1
        rw [hr, List.map_append, List.nodup_append] at hn2
        exact hn2.2.2 _ (List.mem_map.mpr ⟨p, hp, rfl⟩) x1 (by simp) e3
      have hndp : ((sigsL pre).map (·.1)).Nodup := by
        have hn2 := hnd.2.1
        rw [hr, List.map_append, List.nodup_append] at hn2
        rw [List.map_map]
        exact nodup_pre _ hn2.1
      have hlp : pre.length ≤ 10 := by have := congrArg List.length hr; simp at this; omega
      have eput : putPV (sigsL pre) (Str.ofString "impl::" ++ x1) (sigI x1 b) = sigsL (pre ++ [(x1, b)]) := by rw [putPV_new hnew]; exact (List.map_append (l₁ := pre) (l₂ := [(x1, b)])).symm
      refine AsgT.tup ?_
      refine AsgsT.name ?_ ?_; (· exact .inl (by rfl))
      refine AsgsT.name ?_ ?_; (· exact .inl (by rfl))
      refine AsgsT.nil ?_
      refine ExsT.wset (x := Str.ofString "world") (f := Str.ofString "sigs") (C := 302) (a := x) (dx := dx) (fl := worldF d1 d2 d3 d4 d5 d6 [] (sigsL pre) [(Str.ofString "Q", traitQ (methD names) (bodyD bodies))]) (d := d3) (l := sigsL pre) rfl rfl hndp (by rw [List.length_map]; omega) rfl ?_
      cases b
      · refine EvT.call rfl (by rfl) ?_
        refine EvsT.cons rfl ?_
        refine EvT.bin ?_
        refine EvT.val rfl ?_
        refine EvT.val rfl ?_
        refine Op2T.add_str ?_ ?_; (· omega)
        refine EvsT.cons rfl ?_
        refine EvT.val rfl ?_
        refine EvsT.cons rfl ?_
        refine EvT.val rfl ?_
        refine EvsT.cons rfl ?_
        refine EvT.lst ?_
        refine EvsT.cons rfl ?_
        refine EvT.ifF rfl ?_
        refine EvT.val rfl ?_
        refine EvsT.nil ?_
        refine ⟨?_, ?_⟩; (· exact bleT (by rfl))
        refine EvsT.nil ?_
        refine OpLT.fnE (by assumption) (bleT (by rfl)) ?_
        refine EvT.bin ?_
        refine EvT.val rfl ?_
        refine EvT.val rfl ?_
        refine Op2T.add_str ?_ ?_; (· omega)
        refine ⟨_, rfl, ?_⟩
        refine ExsT.nil ?_
        exact less_putT (by rfl) (by rfl) ⟨suf, pre ++ [(x1, _)], congrArg (fun Z => AT.mk ((Str.ofString "world", LV.mut (MK.wld 302 x dx (worldF d1 d2 d3 d4 d5 d6 [] Z [(Str.ofString "Q", traitQ (methD names) (bodyD bodies))]))) :: _) _) eput, rfl, by rw [hr, List.append_assoc]; rfl⟩
      · refine EvT.call rfl (by rfl) ?_
        refine EvsT.cons rfl ?_
        refine EvT.bin ?_
        refine EvT.val rfl ?_
        refine EvT.val rfl ?_
        refine Op2T.add_str ?_ ?_; (· omega)
        refine EvsT.cons rfl ?_
        refine EvT.val rfl ?_
        refine EvsT.cons rfl ?_
        refine EvT.val rfl ?_
        refine EvsT.cons rfl ?_
        refine EvT.lst ?_
        refine EvsT.cons rfl ?_
        refine EvT.ifT rfl ?_
        refine EvT.val rfl ?_
        refine EvsT.nil ?_
        refine ⟨?_, ?_⟩; (· exact bleT (by rfl))
        refine EvsT.nil ?_
        refine OpLT.fnE (by assumption) (bleT (by rfl)) ?_
        refine EvT.bin ?_
        refine EvT.val rfl ?_
        refine EvT.val rfl ?_
        refine Op2T.add_str ?_ ?_; (· omega)
        refine ⟨_, rfl, ?_⟩
        refine ExsT.nil ?_
        exact less_putT (by rfl) (by rfl) ⟨suf, pre ++ [(x1, _)], congrArg (fun Z => AT.mk ((Str.ofString "world", LV.mut (MK.wld 302 x dx (worldF d1 d2 d3 d4 d5 d6 [] Z [(Str.ofString "Q", traitQ (methD names) (bodyD bodies))]))) :: _) _) eput, rfl, by rw [hr, List.append_assoc]; rfl⟩
  · rintro st ⟨suf, pre, rfl, e, hr⟩
    have hsuf : suf = [] := by cases suf with | nil => rfl | cons p l => cases e
    subst hsuf
    rw [List.append_nil] at hr
    subst hr
    refine ExsT.asg ?_ ?_; (· exact .inl (by rfl))
    refine EvT.call rfl (by rfl) ?_
    refine EvsT.cons rfl ?_
    refine EvT.comp ?_
    refine ItT.lstV rfl ?_
    refine ⟨?_, fun p => ?_⟩; (· (simp only [List.length_map, List.length_append, List.length_take, List.length_cons, List.length_nil, List.length_range]; omega))
    refine CompT.map (f := fun p : Str × Bool => PV.tup [.str p.1, .bool p.2]) (g := fun p => .tup [.str p.1, .str (Str.ofString "impl::" ++ p.1)]) (fun p hxn T hT => ?_) ?_
    · have hxl : p.1.length ≤ 100 := hx.2.1 _ hxn
      refine TurnT.all ?_
      refine AsgT.tup ?_
      refine AsgsT.name ?_ ?_; (· exact .inl (by rfl))
      refine AsgsT.name ?_ ?_; (· exact .inl (by rfl))
      refine AsgsT.nil ?_
      refine EvT.tup ?_
      refine EvsT.cons rfl ?_
      refine EvT.val rfl ?_
      refine EvsT.cons rfl ?_
      refine EvT.bin ?_
      refine EvT.val rfl ?_
      refine EvT.val rfl ?_
      refine Op2T.add_str ?_ ?_; (· omega)
      refine EvsT.nil ?_
      refine ⟨?_, ?_⟩; (· exact bleT (by rfl))
      exact hT
    refine EvsT.nil ?_
    refine OpLT.dictM (fun p : Str × Bool => p.1) (fun p => PV.str (Str.ofString "impl::" ++ p.1)) hnd.2.1 (by omega) ?_
    refine ExsT.freeze (x := Str.ofString "world") (k := .wld 302 x dx (worldF d1 d2 d3 d4 d5 d6 [] (sigsL rows) [(Str.ofString "Q", traitQ (methD names) (bodyD bodies))])) rfl ?_
    have hcm := g_check_methods hK hC hL hP (names := names) (bodies := bodies) (rows := rows) (W := (worldF d1 d2 d3 d4 d5 d6 [] (sigsL rows) [(Str.ofString "Q", traitQ (methD names) (bodyD bodies))]).map fun p => (p.1, p.2.pv)) hn ⟨hx.1, hx.2.1⟩ ⟨hnd.1, hnd.2.1⟩ (by rfl) (by rfl)
    have hh := f_heard (A := methMsg names bodies (rows.map (·.1)) rows = none) hK hC (okF_of hK (by rfl)) hcm (fun l ⟨m, h, e⟩ => ⟨m, 34, e, hany m h⟩)
    refine ExsT.ret ?_
    refine EvT.call rfl (by rfl) ?_
    refine EvsT.cons rfl ?_
    refine EvT.val rfl ?_
    refine EvsT.cons rfl ?_
    refine EvT.call rfl (by rfl) ?_
    refine EvsT.val rfl rfl ?_
    refine OpLT.impl ?_
    refine EvsT.val rfl rfl ?_
    refine OpLT.fn hh (bleT (by rfl)) fun q hq => ?_
    rcases hq with h | ⟨m, sp, ⟨m1, hm1, e⟩, rfl⟩
    · exact .inl ⟨h.2, h.1⟩
    · simp only [List.cons.injEq, Prod.mk.injEq, PV.strE, PV.intE, true_and, and_true] at e
      exact .inr ⟨m1, hm1, by rw [e.1, e.2]⟩
end
end
section
theorem gm_none {G : Gx} (hK : G.K = hp.heap_1 G.w.params) (hC : G.flt = 52) (hL : G.klam = lamK) (hP : G.kput = putK) {names bodies : List Str} {rows : List (Str × Bool)} (r : methMsg names bodies (rows.map (·.1)) rows = none)
    (hn : names.length ≤ 10 ∧ bodies.length ≤ 10 ∧ rows.length ≤ 10) (hx : (∀ x ∈ names, x.length ≤ 100) ∧ (∀ p ∈ rows, p.1.length ≤ 100) ∧ ∀ x ∈ bodies, x.length ≤ 100) (hnd : names.Nodup ∧ (rows.map (·.1)).Nodup ∧ bodies.Nodup) :
    Fn G (.adr 376) [.lst (names.map PV.str), .lst (bodies.map PV.str), .lst (rows.map fun p => .tup [.str p.1, .bool p.2])] 20 (fun r => r = .none) := (g_law_methods hK hC hL hP hn hx hnd (any_none r)).mono fun q h => m_none r h
theorem gm_some {G : Gx} (hK : G.K = hp.heap_1 G.w.params) (hC : G.flt = 52) (hL : G.klam = lamK) (hP : G.kput = putK) {names bodies : List Str} {rows : List (Str × Bool)} {M : Str} {v : PV} (r : methMsg names bodies (rows.map (·.1)) rows = some M) (ha : anyW M = true) (hv : heardOf M 34 = v)
    (hn : names.length ≤ 10 ∧ bodies.length ≤ 10 ∧ rows.length ≤ 10) (hx : (∀ x ∈ names, x.length ≤ 100) ∧ (∀ p ∈ rows, p.1.length ≤ 100) ∧ ∀ x ∈ bodies, x.length ≤ 100) (hnd : names.Nodup ∧ (rows.map (·.1)).Nodup ∧ bodies.Nodup) :
    Fn G (.adr 376) [.lst (names.map PV.str), .lst (bodies.map PV.str), .lst (rows.map fun p => .tup [.str p.1, .bool p.2])] 20 (fun r => r = v) := (g_law_methods hK hC hL hP hn hx hnd (any_some r ha)).mono fun q h => m_some r hv h
theorem g_methods_told {G : Gx} (hK : G.K = hp.heap_1 G.w.params) (hC : G.flt = 52) (hL : G.klam = lamK) (hP : G.kput = putK) : Fn G (.adr 381) [] 21 (fun r => r = .bool true) := by
  refine Fn.introT (names := []) hK (by rfl) (by rfl) (arity0 rfl) (by rfl) fun p => ?_
  refine ExsT.asgV ?_ rfl ?_; (· exact .inl (by rfl))
  refine ExsT.ret ?_
  refine EvT.cmp ?_
  refine EvT.comp ?_
  refine ItT.lstV rfl ?_
  refine ⟨?_, fun p => ?_⟩; (· exact bleT (by rfl))
  refine CompT.cons ?_
  refine TurnT.i ?_
  refine AsgT.name ?_ ?_; (· exact .inl (by rfl))
  refine TstT.one ?_
  refine TrT.cmp ?_
  refine EvT.call rfl (by rfl) ?_
  refine EvsT.val rfl rfl ?_
  refine OpLT.fnE (gm_none (names := [sf]) (bodies := []) (rows := [(sf, true)]) hK hC hL hP (by decide +kernel) (by decide) (by decide) (by decide)) (bleT (by rfl)) ?_
  refine EvT.val rfl ?_
  refine Op2T.cmp rfl ?_
  refine ⟨_, rfl, ?_⟩
  refine ite_f rfl ?_
  refine CompT.cons ?_
  refine TurnT.i ?_
  refine AsgT.name ?_ ?_; (· exact .inl (by rfl))
  refine TstT.one ?_
  refine TrT.cmp ?_
  refine EvT.call rfl (by rfl) ?_
  refine EvsT.val rfl rfl ?_
  refine OpLT.fnE (gm_none (names := [sf]) (bodies := [sf]) (rows := []) hK hC hL hP (by decide +kernel) (by decide) (by decide) (by decide)) (bleT (by rfl)) ?_
  refine EvT.val rfl ?_
  refine Op2T.cmp rfl ?_
  refine ⟨_, rfl, ?_⟩
  refine ite_f rfl ?_
  refine CompT.cons ?_
  refine TurnT.i ?_
  refine AsgT.name ?_ ?_; (· exact .inl (by rfl))
  refine TstT.one ?_
  refine TrT.cmp ?_
  refine EvT.call rfl (by rfl) ?_
  refine EvsT.val rfl rfl ?_
  refine OpLT.fnE (gm_some (names := [sf]) (bodies := []) (rows := []) (M := Str.ofString "the method f of Q is missing") hK hC hL hP (by decide +kernel) (by decide +kernel) (heard2 (by decide +kernel) (by decide +kernel) (by decide +kernel)) (by decide) (by decide) (by decide)) (bleT (by rfl)) ?_
  refine EvT.val rfl ?_
  refine Op2T.cmp rfl ?_
  refine ⟨_, rfl, ?_⟩
  refine ite_f rfl ?_
  refine CompT.cons ?_
  refine TurnT.i ?_
  refine AsgT.name ?_ ?_; (· exact .inl (by rfl))
  refine TstT.one ?_
  refine TrT.cmp ?_
  refine EvT.call rfl (by rfl) ?_
  refine EvsT.val rfl rfl ?_
  refine OpLT.fnE (gm_some (names := [sf]) (bodies := []) (rows := [(sf, false)]) (M := Str.ofString "the method f is not as Q tells it") hK hC hL hP (by decide +kernel) (by decide +kernel) (heard1 (by decide +kernel) (by decide +kernel)) (by decide) (by decide) (by decide)) (bleT (by rfl)) ?_
  refine EvT.val rfl ?_
  refine Op2T.cmp rfl ?_
  refine ⟨_, rfl, ?_⟩
  refine ite_f rfl ?_
  refine CompT.cons ?_
  refine TurnT.i ?_
  refine AsgT.name ?_ ?_; (· exact .inl (by rfl))
  refine TstT.one ?_
  refine TrT.cmp ?_
  refine EvT.call rfl (by rfl) ?_
  refine EvsT.val rfl rfl ?_
  refine OpLT.fnE (gm_some (names := [sf]) (bodies := []) (rows := [(sf, true), (sg, true)]) (M := Str.ofString "Q has no method g") hK hC hL hP (by decide +kernel) (by decide +kernel) (heard0 (by decide +kernel)) (by decide) (by decide) (by decide)) (bleT (by rfl)) ?_
  refine EvT.val rfl ?_
  refine Op2T.cmp rfl ?_
  refine ⟨_, rfl, ?_⟩
  refine ite_f rfl ?_
  refine CompT.cons ?_
  refine TurnT.i ?_
  refine AsgT.name ?_ ?_; (· exact .inl (by rfl))
  refine TstT.one ?_
  refine TrT.cmp ?_
  refine EvT.call rfl (by rfl) ?_
  refine EvsT.val rfl rfl ?_
  refine OpLT.fnE (gm_none (names := []) (bodies := []) (rows := []) hK hC hL hP (by decide +kernel) (by decide) (by decide) (by decide)) (bleT (by rfl)) ?_
  refine EvT.val rfl ?_
  refine Op2T.cmp rfl ?_
  refine ⟨_, rfl, ?_⟩
  refine ite_f rfl ?_
  refine CompT.cons ?_
  refine TurnT.i ?_
  refine AsgT.name ?_ ?_; (· exact .inl (by rfl))
  refine TstT.one ?_
  refine TrT.cmp ?_
  refine EvT.call rfl (by rfl) ?_
  refine EvsT.val rfl rfl ?_
  refine OpLT.fnE (gm_some (names := [sf, sg]) (bodies := []) (rows := [(sg, false)]) (M := Str.ofString "the method g is not as Q tells it") hK hC hL hP (by decide +kernel) (by decide +kernel) (heard1 (by decide +kernel) (by decide +kernel)) (by decide) (by decide) (by decide)) (bleT (by rfl)) ?_
  refine EvT.val rfl ?_
  refine Op2T.cmp rfl ?_
  refine ⟨_, rfl, ?_⟩
  refine ite_f rfl ?_
  refine CompT.nil ?_
  refine EvT.val rfl ?_
  refine Op2T.cmp rfl ?_
  rfl
end
section
section
variable {G : Gx}
theorem g_put (hK : G.K = hp.heap_1 G.w.params) (hP : G.kput = putK) {rg : List (Str × PV)} {x : Str} : Fn G (.put (.dct rg)) [.str x] 2 (fun r => r = (rg.lookup x).getD (.str x)) := by
  refine Fn.put (y := Str.ofString "region") (body := putB) (by rw [hP]; rfl) ?_ (by rw [hP]; rfl) (by rw [hP]; rfl) (by rw [hP]; decide) (by rw [hP]; rfl) (by rw [hP]; rfl) (by rw [hP]; rfl) ?_
  · intro c cd pm ct s v
    rw [hP]; exact .of_eq rfl
  · rw [hP]
    intro ca cd f h₀ outer fr L dp un gd hid m O r
    refine ExsT.e (N := fun _ => _) (w := ⟨G, pcx putK ca cd f h₀ outer fr L dp un gd hid, 1⟩) (s := ⟨[(Str.ofString "region", .v (.str x)), (putK.x, .v (.dct rg))], []⟩) ?_ ⟨O, r, hK⟩ m
    unfold putB
    refine ExsT.ret ?_
    refine EvT.meth PySem.F.plainAttrs_dict PySem.F.slot_dict_get PySem.F.type_dict_get (EvT.val rfl ⟨rfl, ?_⟩)
    refine EvsT.val rfl rfl ?_
    refine OpLT.dget ?_
    with_reducible rfl
theorem Fld.fnsT (hK : G.K = hp.heap_1 G.w.params) (hP : G.kput = putK) {T R : List (Str × PV)} {o p : PV} (h : Fld T R o p) : ∃ u, Fn G (.adr 90) [o, .put (.dct R)] 5 (fun r => r = u) ∧ Fn G (.adr 85) [u, .dct T] 5 (fun r => r = p) := by
  have w0 (t : PV) (h : GLeaf t) : Fn G (.adr 90) [t, .put (.dct R)] 5 (fun r => r = t) := (g_with0 hK rfl h).le (by decide)
  have s0 (t u : PV) (h : GLeafS T t u) : Fn G (.adr 85) [t, .dct T] 5 (fun r => r = u) := (g_subst0 hK h).le (by decide)
  have pl (r : Str) (l : PV) (e : R.lookup r = some l) : Fn G (.put (.dct R)) [.str r] 3 (fun q => q = l) := ((g_put hK hP).le (by decide)).mono (fun q h => by rw [h, e]; rfl)
  have ls (n : Str) (v : PV) (e : T.lookup n = some v) : GLeafS T (tPar n) v := .inl ⟨_, rfl, by rw [e]; rfl⟩
  cases h with
  | byte => exact ⟨tByte, w0 _ (.inr (.inl rfl)), s0 _ _ (.inr (.inl ⟨rfl, rfl⟩))⟩
  | unit => exact ⟨tUnit, w0 _ (.inr (.inr (.inr rfl))), s0 _ _ (.inr (.inr (.inr ⟨rfl, rfl⟩)))⟩
  | par e => exact ⟨_, w0 _ (.inl ⟨_, rfl⟩), s0 _ _ (ls _ _ e)⟩
  | box e => exact ⟨_, g_with1 hK rfl (.inl ⟨_, rfl, .inl ⟨_, rfl⟩, rfl⟩), g_subst1 hK (.inl ⟨_, _, rfl, ls _ _ e, rfl⟩)⟩
  | arr e => exact ⟨_, g_with1 hK rfl (.inr (.inl ⟨_, _, rfl, .inl ⟨_, rfl⟩, rfl⟩)), g_subst1 hK (.inr (.inl ⟨_, _, _, rfl, ls _ _ e, rfl⟩))⟩
  | ref e => exact ⟨_, g_with1 hK rfl (.inr (.inr (.inl ⟨_, _, _, _, rfl, .inr (.inl rfl), pl _ _ e, rfl⟩))), g_subst1 hK (.inr (.inr (.inl ⟨_, _, _, _, rfl, .inr (.inl ⟨rfl, rfl⟩), rfl⟩)))⟩
  | adt e => exact ⟨_, g_with1 hK rfl (.inr (.inr (.inr (.inr ⟨_, _, _, rfl, pl _ _ e, rfl⟩)))), g_subst1 hK (.inr (.inr (.inr ⟨_, _, rfl, rfl⟩)))⟩
theorem g_fields_of (hK : G.K = hp.heap_1 G.w.params) (hL : G.klam = lamK) (hP : G.kput = putK) {nsT nsR : List Str} {vsT vsR : List PV} (hT : nsT.length = vsT.length ∧ nsT.length ≤ 10 ∧ nsT.Nodup) (hR : nsR.length = vsR.length ∧ nsR.length ≤ 10 ∧ nsR.Nodup)
    {A W : List (Str × PV)} {vars : List PV} {e d0 d1 : PV} {i : Nat} {fs : List (Str × PV × PV)}
    (hA : A.lookup (Str.ofString "m::T") = some (adtT (.tup (nsR.map PV.str)) (.tup (nsT.map PV.str)) (.lst vars) e)) (hW : W.lookup (Str.ofString "adts") = some (.dct A)) (hl : vars.length ≤ 10)
    (hi : vars[i]? = some (.tup [d0, d1, .lst (fs.map fun f => .tup [.str f.1, f.2.1])])) (hfl : fs.length ≤ 10) (hfs : ∀ f ∈ fs, Fld (nsT.zip vsT) (nsR.zip vsR) f.2.1 f.2.2) :
    Fn G (.adr 128) [tAdt (Str.ofString "m::T") vsR vsT, .int i, .ins 302 W] 10 (fun r => r = .lst (fs.map fun f => .tup [.str f.1, f.2.2])) := by
  have hrows := g_field_rows hK (.inr rfl) (r1 := .tup vsR) (rs' := .tup vsT) hA hW (by omega) hi
  refine FnX.fn (FnX.introT (names := [Str.ofString "told", Str.ofString "variant", Str.ofString "world"]) hK (by rfl) (by rfl) (arity3 fun _ _ _ => rfl) (by rfl) fun p hnh => ?_)
  refine ExsT.ifN rfl ?_
  refine ExsT.ifN rfl ?_
  refine ExsT.asg ?_ ?_; (· exact .inl (by rfl))
  refine EvT.sub ?_
  refine EvT.attrD rfl (by assumption) rfl rfl ?_
  refine EvT.val rfl ?_
  refine SubT.dct rfl (by assumption) ?_
  refine ExsT.asg ?_ ?_; (· exact .inr ⟨rfl, by rfl, _, by rfl, .tail _ (.tail _ (.head _))⟩)
  refine EvT.dictzip rfl rfl ?_
  refine EvsT.val rfl rfl ?_
  refine ⟨_, _, _, _, nsT.zip vsT, rfl, .inr rfl, .inr rfl, ZPV.strs hT.1, by rw [List.length_zip]; omega, ?_⟩
  rw [putAll_nd (by rw [List.nil_append, List.map_fst_zip (by omega)]; exact hT.2.2), List.nil_append]
  refine ExsT.asg ?_ ?_; (· exact .inr ⟨rfl, by rfl, _, by rfl, .head _⟩)
  refine EvT.dictzip rfl rfl ?_
  refine EvsT.val rfl rfl ?_
  refine ⟨_, _, _, _, nsR.zip vsR, rfl, .inr rfl, .inr rfl, ZPV.strs hR.1, by rw [List.length_zip]; omega, ?_⟩
  rw [putAll_nd (by rw [List.nil_append, List.map_fst_zip (by omega)]; exact hR.2.2), List.nil_append]
  refine ExsT.defPut (x := Str.ofString "regions") (q := .dct (nsR.zip vsR)) (cc := 127) (tab := 125) (ca := p.L + 3) hL hP rfl rfl rfl rfl rfl rfl rfl rfl ?_ (hnh (p.L + 3) (Nat.lt_add_of_pos_right (Nat.succ_pos 2))) ?_ ?_
  · first | exact .head _ | exact .tail _ (.head _) | exact .tail _ (.tail _ (.head _))
  · exact .inr ⟨rfl, by rfl, _, by rfl, List.mem_filter.mpr ⟨by first | exact .head _ | exact .tail _ (.head _) | exact .tail _ (.tail _ (.head _)), by simp⟩⟩
  refine ExsT.ret ?_
  refine EvT.comp ?_
  refine ItT.seq ?_
  refine EvT.call rfl (by rfl) ?_
  refine EvsT.val rfl rfl ?_
  refine OpLT.fnE (by assumption) (bleT (by rfl)) ?_
  refine ⟨_, .inl rfl, ?_⟩
  refine ⟨?_, fun p => ?_⟩; (· (simp only [List.length_map, List.length_append, List.length_take, List.length_cons, List.length_nil, List.length_range]; omega))
  refine CompT.zip (P := fun t (f : Str × PV × PV) => t = PV.tup [.str f.1, f.2.1] ∧ f ∈ fs) (g := fun f => .tup [.str f.1, f.2.2]) (fun q f hq T hT' => ?_) (Fa2.map fun f hf => ⟨rfl, hf⟩) ?_
  · obtain ⟨rfl, hf⟩ := hq
    obtain ⟨u, h1, h2⟩ := (hfs f hf).fnsT hK hP
    refine TurnT.all ?_
    refine AsgT.tup ?_
    refine AsgsT.name ?_ ?_; (· exact .inl (by rfl))
    refine AsgsT.name ?_ ?_; (· exact .inl (by rfl))
    refine AsgsT.nil ?_
    refine EvT.tup ?_
    refine EvsT.cons rfl ?_
    refine EvT.val rfl ?_
    refine EvsT.cons rfl ?_
    refine EvT.call rfl (by rfl) ?_
    refine EvsT.cons rfl ?_
    refine EvT.call rfl (by rfl) ?_
    refine EvsT.val rfl rfl ?_
    refine OpLT.fnE (by assumption) (bleT (by rfl)) ?_
    refine EvsT.val rfl rfl ?_
    refine OpLT.fnE (by assumption) (bleT (by rfl)) ?_
    refine EvsT.nil ?_
    refine ⟨?_, ?_⟩; (· exact bleT (by rfl))
    exact hT'
  · with_reducible rfl
end
end
section
theorem less_put1T {W n : Str} {w0 : LV} {qn : PV} {k : MK} {ρ1 : List (Str × LV)} {hc : List Addr} {P : AT → Prop} (hn : ρ1.lookup n = none) (h : P ⟨(W, .mut k) :: ρ1, hc⟩) :
    ∃ s3, LessT s3 (AT.put (AT.set ⟨(W, w0) :: ρ1, hc⟩ n qn) W k) ∧ P s3 :=
  ⟨_, LessT.top (ρ1 := ρ1) (hc := hc) [(W, .mut k), (n, .v qn), (W, w0)] [(W, .mut k)] (by simp) (fun p hp => by
    simp only [List.mem_cons, List.not_mem_nil, or_false] at hp
    rcases hp with rfl | rfl | rfl
    · exact .inl (by simp)
    · exact .inr hn
    · exact .inl (by simp)), h⟩
section
variable {G : Gx}
theorem g_field_types (hK : G.K = hp.heap_1 G.w.params) (hL : G.klam = lamK) (hP : G.kput = putK) {nsT nsR : List Str} {vsT vsR : List PV} (hT : nsT.length = vsT.length ∧ nsT.length ≤ 10 ∧ nsT.Nodup) (hR : nsR.length = vsR.length ∧ nsR.length ≤ 10 ∧ nsR.Nodup)
    {A W : List (Str × PV)} {vars : List (PV × PV × Fs)} {e : PV}
    (hA : A.lookup (Str.ofString "m::T") = some (adtT (.tup (nsR.map PV.str)) (.tup (nsT.map PV.str)) (.lst (vars.map varPV)) e)) (hW : W.lookup (Str.ofString "adts") = some (.dct A)) (hl : vars.length ≤ 10)
    (hfl : ∀ v ∈ vars, v.2.2.length ≤ 10) (hfs : ∀ v ∈ vars, ∀ f ∈ v.2.2, Fld (nsT.zip vsT) (nsR.zip vsR) f.2.1 f.2.2) :
    Fn G (.adr 138) [tAdt (Str.ofString "m::T") vsR vsT, .ins 302 W] 12 (fun r => r = .lst (vars.flatMap fun v => v.2.2.map fun f => f.2.2)) := by
  refine Fn.introT (names := [Str.ofString "told", Str.ofString "world"]) hK (by rfl) (by rfl) (arity2 fun _ _ => rfl) (by rfl) fun p => ?_
  refine ExsT.asgK rfl (EvKT.lst (EvsT.nil ⟨by decide, fun a => ?_⟩))
  refine ExsT.for ?_
  refine ItT.rng ?_
  refine EvT.call rfl (by rfl) ?_
  refine EvsT.cons rfl ?_
  refine EvT.call rfl (by rfl) ?_
  refine EvsT.cons rfl ?_
  refine EvT.attr ?_
  refine EvT.sub ?_
  refine EvT.attrD rfl (by assumption) rfl rfl ?_
  refine EvT.val rfl ?_
  refine SubT.dct rfl (by assumption) ?_
  refine ⟨_, _, _, rfl, by first | assumption | rfl, by rfl, by first | assumption | rfl, ?_⟩
  refine EvsT.nil ?_
  refine OpLT.len_lst ?_ ?_; (· (simp only [List.length_map, List.length_append, List.length_take, List.length_cons, List.length_nil, List.length_range]; omega))
  refine EvsT.nil ?_
  refine OpLT.rng ?_
  refine ⟨_, rfl, ?_, ?_⟩; (· (simp only [List.length_map, List.length_append, List.length_take, List.length_cons, List.length_nil, List.length_range]; omega))
  with_reducible intro wr
  rw [List.length_map, List.range_eq_range']
  refine ForT.loop (P := fun l st => ∃ pre suf, st = ⟨(Str.ofString "found", .mut (.lst a (pre.flatMap fun v : PV × PV × Fs => v.2.2.map fun f => f.2.2))) :: _, _⟩ ∧ l = (List.range' pre.length suf.length).map (fun i : Nat => PV.int i) ∧ vars = pre ++ suf) ?_ ?_ ⟨[], vars, rfl, rfl, rfl⟩
  · rintro q l st ⟨pre, suf, rfl, e, hv⟩
    cases suf with
    | nil => cases e
    | cons v suf =>
      simp only [List.length_cons, List.range'_succ, List.map_cons, List.cons.injEq] at e
      obtain ⟨rfl, rfl⟩ := e
      have hmem : v ∈ vars := by rw [hv]; simp
      have hff := g_fields_of hK hL hP hT hR (i := pre.length) (fs := v.2.2) (d0 := v.1) (d1 := v.2.1) hA hW (by rw [List.length_map]; exact hl) (by rw [hv]; simp) (hfl v hmem) (hfs v hmem)
      have hvl := hfl v hmem
      have hfp := flat_len pre fun w hw => hfl w (by rw [hv]; exact List.mem_append_left _ hw)
      have hpl : pre.length ≤ 10 := by have := congrArg List.length hv; rw [List.length_append] at this; omega
      refine AsgT.name ?_ ?_; (· exact .inl (by rfl))
      refine ExsT.extend (x := Str.ofString "found") (a := a) (its := pre.flatMap fun v : PV × PV × Fs => v.2.2.map fun f => f.2.2) rfl ?_
      refine EvT.comp ?_
      refine ItT.seq ?_
      refine EvT.call rfl (by rfl) ?_
      refine EvsT.val rfl rfl ?_
      refine OpLT.fnE (by assumption) (bleT (by rfl)) ?_
      refine ⟨_, .inl rfl, ?_⟩
      refine ⟨?_, fun p => ?_⟩; (· (simp only [List.length_map, List.length_append, List.length_take, List.length_cons, List.length_nil, List.length_range]; omega))
      refine CompT.zip (P := fun t (f : Str × PV × PV) => t = PV.tup [.str f.1, f.2.2] ∧ f ∈ v.2.2) (g := fun f => f.2.2) (fun q f hq T hT' => ?_) (Fa2.map fun f hf => ⟨rfl, hf⟩) ?_
      · obtain ⟨rfl, hf⟩ := hq
        refine TurnT.all ?_
        refine AsgT.tup ?_
        refine AsgsT.name ?_ ?_; (· exact .inl (by rfl))
        refine AsgsT.name ?_ ?_; (· exact .inl (by rfl))
        refine AsgsT.nil ?_
        refine EvT.val rfl ?_
        exact hT'
      · refine ⟨_, rfl, by rw [List.length_map]; omega, ?_⟩
        refine ExsT.nil ?_
        exact less_put1T (by rfl) ⟨pre ++ [v], suf, congrArg (fun Z => AT.mk ((Str.ofString "found", LV.mut (MK.lst a Z)) :: _) _) (by rw [List.flatMap_append, List.flatMap_cons, List.flatMap_nil, List.append_nil]), by rw [List.length_append]; rfl, by rw [hv, List.append_assoc]; rfl⟩
  · rintro st ⟨pre, suf, rfl, e, hv⟩
    have hsuf : suf = [] := by cases suf with | nil => rfl | cons p l => simp [List.range'_succ] at e
    subst hsuf
    rw [List.append_nil] at hv
    subst hv
    refine ExsT.freeze (x := Str.ofString "found") rfl ?_
    refine ExsT.retV rfl ?_
    rfl
end
end
section
theorem less_genT {W : Str} {w0 : LV} {k : LV} {ρ1 : List (Str × LV)} {hc : List Addr} {P : AT → Prop} (ex : List (Str × LV)) (hex : ∀ p ∈ ex, ρ1.lookup p.1 = none) (h : P ⟨(W, k) :: ρ1, hc⟩) :
    ∃ s3, LessT s3 ⟨(W, k) :: (ex ++ (W, w0) :: ρ1), hc⟩ ∧ P s3 :=
  let ⟨st3, l, p⟩ := less_gen (m4 := fun _ => none) (W := W) (w0 := w0) (k := k) (ρ1 := ρ1) (hc := hc) (P := fun a => P ⟨a.ρ, a.hc⟩) ex hex h
  ⟨⟨st3.ρ, st3.hc⟩, ⟨l.hc, l.ρ⟩, p⟩
section
variable {G : Gx}
theorem g_law_field (hK : G.K = hp.heap_1 G.w.params) {T R : List (Str × PV)} (hT : T.length ≤ 10 ∧ (T.map (·.1)).Nodup) (hR : R.length ≤ 10 ∧ (R.map (·.1)).Nodup) :
    Fn G (.adr 335) [.src, .dct T, .dct R] 6 (fun r => ∃ o p, r = .tup [o, p] ∧ Fld T R o p) := by
  have hs0 : ∀ (D : List (Str × PV)) (ss : List Str), (D.map (·.1)).Nodup → ss.Perm (D.map (·.1)) → ∀ x ∈ ss, ∃ v, D.lookup x = some v := fun D ss hD hp x hx => by
    obtain ⟨p, hp1, rfl⟩ := List.mem_map.mp (hp.mem_iff.mp hx)
    exact ⟨p.2, lookup_nd (fun p : Str × PV => p.1) (fun p => p.2) hD hp1 |> fun h => by simpa using h⟩
  refine Fn.introT (names := [Str.ofString "source", Str.ofString "types", Str.ofString "regions"]) hK (by rfl) (by rfl) (arity3 fun _ _ _ => rfl) (by rfl) fun p => ?_
  refine ExsT.asgK rfl (EvKT.lst (EvsT.val rfl rfl ⟨bleT (by rfl), fun a => ?_⟩))
  refine ExsT.for ?_
  refine ItT.seq ?_
  refine EvT.call rfl (by rfl) ?_
  refine EvsT.val rfl rfl ?_
  refine OpLT.sorted hT.2 (by omega) fun ss hp => ⟨_, .inl rfl, fun wr => ?_⟩
  have hsl : ss.length ≤ 10 := by rw [hp.length_eq, List.length_map]; exact hT.1
  refine ForT.loop (P := fun l st => ∃ its suf, st = ⟨(Str.ofString "some", .mut (.lst a its)) :: _, _⟩ ∧ l = suf.map PV.str ∧ (∀ x ∈ suf, ∃ v, T.lookup x = some v) ∧ Pick T R its ∧ its.length + 3 * suf.length ≤ 40 ∧ its ≠ []) ?_ ?_ ⟨_, ss, rfl, rfl, hs0 T ss hT.2 hp, ?_, by simp; omega, by simp⟩
  · rintro q l st ⟨its, suf, rfl, e, hv, hpk, hlen, hne⟩
    cases suf with
    | nil => cases e
    | cons x suf =>
      simp only [List.map_cons, List.cons.injEq] at e
      obtain ⟨rfl, rfl⟩ := e
      obtain ⟨v, hxv⟩ := hv x (.head _)
      refine AsgT.name ?_ ?_; (· exact .inl (by rfl))
      refine ExsT.asgT2 ?_ ?_ ?_; (· exact .inl (by rfl)); (· exact .inl (by rfl))
      refine EvT.tup ?_
      refine EvsT.cons rfl ?_
      refine EvT.val rfl ?_
      refine EvsT.cons rfl ?_
      refine EvT.sub ?_
      refine EvT.val rfl ?_
      refine EvT.val rfl ?_
      refine SubT.dct rfl (by assumption) ?_
      refine EvsT.nil ?_
      refine ⟨?_, ?_⟩; (· exact bleT (by rfl))
      refine ⟨_, _, rfl, ?_⟩
      refine ExsT.extend (x := Str.ofString "some") (a := a) (its := its) rfl ?_
      refine EvT.val rfl ?_
      refine ⟨_, rfl, ?_⟩
      refine ⟨?_, ?_⟩; (· (simp only [List.length_map, List.length_append, List.length_take, List.length_cons, List.length_nil, List.length_range]; omega))
      refine ExsT.nil ?_
      refine less_genT [(Str.ofString "own", .v _), (Str.ofString "put", .v _), (Str.ofString "name", .v _)] (List.forall_mem_cons.mpr ⟨by rfl, List.forall_mem_cons.mpr ⟨by rfl, List.forall_mem_cons.mpr ⟨by rfl, fun _ h => (nomatch h)⟩⟩⟩) ⟨_, suf, rfl, rfl, fun y hy => hv y (.tail _ hy), ?_, ?_, ?_⟩
      · intro q hq
        rcases List.mem_append.mp hq with hq | hq
        · exact hpk q hq
        · simp only [List.mem_cons, List.not_mem_nil, or_false] at hq
          rcases hq with rfl | rfl | rfl
          · exact ⟨_, _, rfl, .par hxv⟩
          · exact ⟨_, _, rfl, .box hxv⟩
          · exact ⟨_, _, rfl, .arr hxv⟩
      · simp only [List.length_append, List.length_cons, List.length_nil] at hlen ⊢; omega
      · simp
  · rintro st ⟨its, suf, rfl, e, hv, hpk, hlen, hne⟩
    have hsuf : suf = [] := by cases suf with | nil => rfl | cons p l => cases e
    subst hsuf
    refine ExsT.for ?_
    refine ItT.seq ?_
    refine EvT.call rfl (by rfl) ?_
    refine EvsT.val rfl rfl ?_
    refine OpLT.sorted hR.2 (by omega) fun ss hp => ⟨_, .inl rfl, fun wr => ?_⟩
    have hsl1 : ss.length ≤ 10 := by rw [hp.length_eq, List.length_map]; exact hR.1
    refine ForT.loop (P := fun l st => ∃ its suf, st = ⟨(Str.ofString "some", .mut (.lst a its)) :: _, _⟩ ∧ l = suf.map PV.str ∧ (∀ x ∈ suf, ∃ v, R.lookup x = some v) ∧ Pick T R its ∧ its.length + 2 * suf.length ≤ 80 ∧ its ≠ []) ?_ ?_ ⟨its, ss, rfl, rfl, hs0 R ss hR.2 hp, hpk, by simp at hlen; omega, hne⟩
    · rintro q l st ⟨its, suf, rfl, e, hv, hpk, hlen, hne⟩
      cases suf with
      | nil => cases e
      | cons x suf =>
        simp only [List.map_cons, List.cons.injEq] at e
        obtain ⟨rfl, rfl⟩ := e
        obtain ⟨v, hxv⟩ := hv x (.head _)
        simp only [List.length_cons] at hlen
        refine AsgT.name ?_ ?_; (· exact .inl (by rfl))
        refine ExsT.append (x := Str.ofString "some") (a := a) (its := its) rfl (by omega) ?_
        refine EvT.tup ?_
        refine EvsT.cons rfl ?_
        refine EvT.val rfl ?_
        refine EvsT.cons rfl ?_
        refine EvT.tup ?_
        refine EvsT.cons rfl ?_
        refine EvT.val rfl ?_
        refine EvsT.cons rfl ?_
        refine EvT.sub ?_
        refine EvT.val rfl ?_
        refine EvT.val rfl ?_
        refine SubT.dct rfl (by assumption) ?_
        refine EvsT.val rfl rfl ?_
        refine ⟨?_, ?_⟩; (· exact bleT (by rfl))
        refine EvsT.nil ?_
        refine ⟨?_, ?_⟩; (· exact bleT (by rfl))
        refine ExsT.append (x := Str.ofString "some") (a := a) (its := its ++ [.tup [tRef (.str x) true tByte, tRef v true tByte]]) rfl (by rw [List.length_append, List.length_cons, List.length_nil]; omega) ?_
        refine EvT.tup ?_
        refine EvsT.cons rfl ?_
        refine EvT.val rfl ?_
        refine EvsT.cons rfl ?_
        refine EvT.tup ?_
        refine EvsT.cons rfl ?_
        refine EvT.val rfl ?_
        refine EvsT.cons rfl ?_
        refine EvT.val rfl ?_
        refine EvsT.cons rfl ?_
        refine EvT.tup ?_
        refine EvsT.cons rfl ?_
        refine EvT.sub ?_
        refine EvT.val rfl ?_
        refine EvT.val rfl ?_
        refine SubT.dct rfl (by assumption) ?_
        refine EvsT.nil ?_
        refine ⟨?_, ?_⟩; (· exact bleT (by rfl))
        refine EvsT.val rfl rfl ?_
        refine ⟨?_, ?_⟩; (· exact bleT (by rfl))
        refine EvsT.nil ?_
        refine ⟨?_, ?_⟩; (· exact bleT (by rfl))
        refine ExsT.nil ?_
        refine less_genT [(Str.ofString "some", _), (Str.ofString "name", .v _)] (List.forall_mem_cons.mpr ⟨by rfl, List.forall_mem_cons.mpr ⟨by rfl, fun _ h => (nomatch h)⟩⟩) ⟨_, suf, rfl, rfl, fun y hy => hv y (.tail _ hy), ?_, ?_, ?_⟩
        · intro q hq
          rcases List.mem_append.mp hq with hq | hq
          · rcases List.mem_append.mp hq with hq | hq
            · exact hpk q hq
            · rw [List.mem_singleton.mp hq]; exact ⟨_, _, rfl, .ref hxv⟩
          · rw [List.mem_singleton.mp hq]; exact ⟨_, _, rfl, .adt hxv⟩
        · simp only [List.length_append, List.length_cons, List.length_nil] at hlen ⊢; omega
        · simp
    · rintro st ⟨its, suf, rfl, e, hv, hpk, hlen, hne⟩
      have hsuf : suf = [] := by cases suf with | nil => rfl | cons p l => cases e
      subst hsuf
      refine ExsT.freeze (x := Str.ofString "some") rfl ?_
      have h1 := (g_one hK (l := its) (List.length_pos_iff.mpr hne) (by simp at hlen; omega)).mono (Q2 := fun r => ∃ o p, r = .tup [o, p] ∧ Fld T R o p) fun q hq => hpk q hq
      refine ExsT.ret ?_
      refine EvT.call rfl (by rfl) ?_
      refine EvsT.val rfl rfl ?_
      exact OpLT.fn h1 (bleT (by rfl)) fun q hq => hq
  · intro q hq
    simp only [List.mem_cons, List.not_mem_nil, or_false] at hq
    rcases hq with rfl | rfl
    · exact ⟨_, _, rfl, .byte⟩
    · exact ⟨_, _, rfl, .unit⟩
end
end
section
theorem OpLT.dictZ {w : WX} {s : AT} {ns : List Str} {vs : List PV} {Q : PV → Prop} (hn : ns.Nodup) (h : ns.length = vs.length) (hl : ns.length ≤ 1000) (q : Q (.dct (ns.zip vs))) : OpLT w s callL [.ty "dict", .lst ((ns.zip vs).map fun p => .tup [.str p.1, p.2])] Q :=
  OpLT.dictM (fun p : Str × PV => p.1) (fun p => p.2) (by rw [show List.map (fun p : Str × PV => p.1) (ns.zip vs) = ns from List.map_fst_zip (by omega)]; exact hn) (by rw [List.length_zip]; omega)
    (by rw [show (List.map (fun p : Str × PV => (p.1, p.2)) (ns.zip vs)) = ns.zip vs from List.map_id _]; exact q)
theorem lookup_zipT {ns : List Str} {vs : List PV} (hn : ns.Nodup) (h : ns.length = vs.length) : ∀ p ∈ ns.zip vs, (ns.zip vs).lookup p.1 = some p.2 := fun p hp => by
  have := lookup_nd (fun p : Str × PV => p.1) (fun p => p.2) (by rw [show List.map (fun p : Str × PV => p.1) (ns.zip vs) = ns from List.map_fst_zip (by omega)]; exact hn) hp
  rwa [show List.map (fun p : Str × PV => (p.1, p.2)) (ns.zip vs) = ns.zip vs from List.map_id _] at this
theorem as2T {hc : List Addr} {W D : Str} {av : Addr} {V V' U U' : List PV} {ρ1 : List (Str × LV)} (e1 : V = V') (e2 : U = U') : AT.mk ([(W, .mut (.lst av V)), (D, .v (.lst U))] ++ ρ1) hc = AT.mk ((W, .mut (.lst av V')) :: (D, .v (.lst U')) :: ρ1) hc := by subst e1; subst e2; rfl
section
variable {G : Gx}
theorem g_types_right (hK : G.K = hp.heap_1 G.w.params) (hL : G.klam = lamK) (hP : G.kput = putK) : Fn G (.adr 340) [.src] 20 (fun r => r = .bool true) := by
  have ht2 := f_take hK (top := 2) (by decide) (by decide)
  have ht3 := f_take hK (top := 3) (by decide) (by decide)
  have ht4 := f_take hK (top := 4) (by decide) (by decide)
  refine Fn.introT (names := [Str.ofString "source"]) hK (by rfl) (by rfl) (arity1 fun _ => rfl) (by rfl) fun p => ?_
  refine ExsT.asgKV (x := Str.ofString "world") (y := Str.ofString "is_several") rfl rfl (by decide) (EvKT.world rfl fun x dx d1 d2 d3 d4 d5 d6 => ?_)
  refine EvT.cmp ?_
  refine EvT.call rfl (by rfl) ?_
  refine EvsT.val rfl rfl ?_
  refine OpLT.take ht2 (bleT (by rfl)) fun i0 hi0 => ?_
  refine EvT.val rfl ?_
  refine Op2T.cmp rfl ?_
  refine ExsT.asgT2 ?_ ?_ ?_; (· exact .inl (by rfl)); (· exact .inl (by rfl))
  refine EvT.tup ?_
  refine EvsT.cons rfl ?_
  refine EvT.upto2 (a := sA) (b := sB) rfl (EvT.call rfl (by rfl) (EvsT.val rfl rfl (OpLT.fn ht3 (bleT (by rfl)) fun _ h => h))) fun nsT hcT => ?_
  refine EvsT.cons rfl ?_
  refine EvT.upto2 (a := ra) (b := rb) rfl (EvT.call rfl (by rfl) (EvsT.val rfl rfl (OpLT.fn ht3 (bleT (by rfl)) fun _ h => h))) fun nsR hcR => ?_
  have hlT : nsT.length ≤ 2 ∧ nsT.Nodup := by rcases hcT with rfl | rfl | rfl <;> exact ⟨by decide, by decide +kernel⟩
  have hlR : nsR.length ≤ 2 ∧ nsR.Nodup := by rcases hcR with rfl | rfl | rfl <;> exact ⟨by decide, by decide +kernel⟩
  refine EvsT.nil ?_
  refine ⟨?_, ?_⟩; (· exact bleT (by rfl))
  refine ⟨_, _, rfl, ?_⟩
  refine ExsT.asg ?_ ?_; (· exact .inr ⟨rfl, by rfl, _, by rfl, .tail _ (.head _)⟩)
  refine EvT.call rfl (by rfl) ?_
  refine EvsT.cons rfl ?_
  refine EvT.comp ?_
  refine ItT.lstV rfl ?_
  refine ⟨?_, fun p => ?_⟩; (· (simp only [List.length_map, List.length_append, List.length_take, List.length_cons, List.length_nil, List.length_range]; omega))
  refine CompT.zipS (P := PutV) (fun n T Z hT => ?_) fun vsT hvT hPT => ?_
  · refine TurnT.all ?_
    refine AsgT.name ?_ ?_; (· exact .inl (by rfl))
    refine EvT.tup ?_
    refine EvsT.cons rfl ?_
    refine EvT.val rfl ?_
    refine EvsT.cons rfl ?_
    refine EvT.call rfl (by rfl) ?_
    refine EvsT.val rfl rfl ?_
    refine OpLT.fn (g_one hK (l := [tBool, tBox tByte, tPar sB]) (by decide) (by decide)) (bleT (by rfl)) fun v hv => ?_
    refine EvsT.nil ?_
    refine ⟨?_, ?_⟩; (· exact bleT (by rfl))
    exact hT v hv
  refine EvsT.nil ?_
  refine OpLT.dictZ hlT.2 hvT (by omega) ?_
  refine ExsT.asg ?_ ?_; (· exact .inr ⟨rfl, by rfl, _, by rfl, .head _⟩)
  refine EvT.call rfl (by rfl) ?_
  refine EvsT.cons rfl ?_
  refine EvT.comp ?_
  refine ItT.lstV rfl ?_
  refine ⟨?_, fun p => ?_⟩; (· (simp only [List.length_map, List.length_append, List.length_take, List.length_cons, List.length_nil, List.length_range]; omega))
  refine CompT.zipS (P := LedV) (fun n T Z hT => ?_) fun vsR hvR hPR => ?_
  · refine TurnT.all ?_
    refine AsgT.name ?_ ?_; (· exact .inl (by rfl))
    refine EvT.tup ?_
    refine EvsT.cons rfl ?_
    refine EvT.val rfl ?_
    refine EvsT.cons rfl ?_
    refine EvT.call rfl (by rfl) ?_
    refine EvsT.val rfl rfl ?_
    refine OpLT.fn (g_one hK (l := [.none, .str (Str.ofString "'static"), .str (Str.ofString "'z"), .int 4]) (by decide) (by decide)) (bleT (by rfl)) fun v hv => ?_
    refine EvsT.nil ?_
    refine ⟨?_, ?_⟩; (· exact bleT (by rfl))
    exact hT v hv
  refine EvsT.nil ?_
  refine OpLT.dictZ hlR.2 hvR (by omega) ?_
  refine ExsT.asgKV (x := Str.ofString "variants") (y := Str.ofString "due") rfl rfl (by decide) (EvKT.lst (EvsT.nil ⟨by decide, fun av => EvT.val rfl ?_⟩))
  refine ExsT.for (ItT.rng (EvT.call rfl rfl (EvsT.cons rfl (EvT.mono (Q := fun q => ∃ n : Nat, q = .int n ∧ n ≤ 2) ?_ ?_))))
  · refine EvT.ifexp ?_
    refine TrT.val rfl ?_
    refine ite_tb (p := ((i0 : Int) == 0)) rfl (fun _ => ?_) (fun _ => ?_)
    · refine EvT.call rfl (by rfl) ?_
      refine EvsT.val rfl rfl ?_
      refine OpLT.take ht3 (bleT (by rfl)) fun i3 hi3 => ?_
      exact ⟨i3, rfl, by omega⟩
    · exact EvT.val rfl ⟨1, rfl, by decide⟩
  rintro _ ⟨nv, rfl, hnv⟩
  refine EvsT.nil ?_
  refine OpLT.rng ?_
  refine ⟨_, rfl, ?_, ?_⟩; (· omega)
  with_reducible intro wr
  rw [List.range_eq_range']
  have hlz : (nsT.zip vsT).length ≤ 10 ∧ (nsR.zip vsR).length ≤ 10 := by rw [List.length_zip, List.length_zip]; omega
  have hfield := g_law_field hK (T := nsT.zip vsT) (R := nsR.zip vsR) ⟨hlz.1, by rw [List.map_fst_zip (by omega)]; exact hlT.2⟩ ⟨hlz.2, by rw [List.map_fst_zip (by omega)]; exact hlR.2⟩
  refine ForT.loop (P := fun l st => ∃ (vars : List (PV × PV × Fs)) (k : Nat), st = ⟨(Str.ofString "variants", .mut (.lst av (vars.map varPV))) :: (Str.ofString "due", .v (.lst (vars.flatMap fun v : PV × PV × Fs => v.2.2.map fun f => f.2.2))) :: _, _⟩ ∧ l = (List.range' vars.length k).map (fun i : Nat => PV.int i) ∧ vars.length + k ≤ 2 ∧ ∀ v ∈ vars, v.2.2.length ≤ 3 ∧ ∀ f ∈ v.2.2, Fld (nsT.zip vsT) (nsR.zip vsR) f.2.1 f.2.2) ?_ ?_ ⟨[], nv, rfl, rfl, by simpa using hnv, fun v h => (nomatch h)⟩
  · rintro q l st ⟨vars, k, rfl, e, hk, hg⟩
    cases k with
    | zero => cases e
    | succ k =>
      simp only [List.range'_succ, List.map_cons, List.cons.injEq] at e
      obtain ⟨rfl, rfl⟩ := e
      have hsl := str_len_small vars.length (by omega)
      have e1 : (Str.ofString "v").length = 1 := by rfl
      have hfp := flat_len vars fun w hw => Nat.le_trans (hg w hw).1 (by decide)
      refine AsgT.name ?_ ?_; (· exact .inl (by rfl))
      refine ExsT.asgComp ?_ ?_; (· exact .inl (by rfl))
      refine ItT.rng ?_
      refine EvT.call rfl (by rfl) ?_
      refine EvsT.cons rfl ?_
      refine EvT.call rfl (by rfl) ?_
      refine EvsT.val rfl rfl ?_
      refine OpLT.take ht4 (bleT (by rfl)) fun i4 hi4 => ?_
      refine EvsT.nil ?_
      refine OpLT.rng ?_
      refine ⟨_, rfl, ?_, ?_⟩; (· omega)
      refine ⟨?_, fun p => ?_⟩; (· (simp only [List.length_map, List.length_append, List.length_take, List.length_cons, List.length_nil, List.length_range]; omega))
      refine CompT.xs (g := fun f : PV × PV => .tup [f.1, f.2]) (S := fun _ f => Fld (nsT.zip vsT) (nsR.zip vsR) f.1 f.2) (fun q hq T Z hT => ?_) fun fs hfl hr => ?_
      · refine TurnT.all ?_
        refine AsgT.name ?_ ?_; (· exact .inl (by rfl))
        refine EvT.call rfl (by rfl) ?_
        refine EvsT.val rfl rfl ?_
        refine OpLT.fn hfield (bleT (by rfl)) ?_
        rintro _ ⟨o, p, rfl, hf⟩
        exact hT (o, p) hf
      have hfs : ∀ f ∈ fs, Fld (nsT.zip vsT) (nsR.zip vsR) f.1 f.2 := hr.right (T := fun f : PV × PV => Fld (nsT.zip vsT) (nsR.zip vsR) f.1 f.2) fun _ _ s => s
      rw [List.length_map, List.length_range] at hfl
      refine ExsT.append (x := Str.ofString "variants") (a := av) (its := vars.map varPV) rfl (by rw [List.length_map]; omega) ?_
      refine EvT.tup ?_
      refine EvsT.cons rfl ?_
      refine EvT.bin ?_
      refine EvT.val rfl ?_
      refine EvT.call rfl (by rfl) ?_
      refine EvsT.val rfl rfl ?_
      refine OpLT.str_n (by omega) ?_
      refine Op2T.add_str ?_ ?_; (· omega)
      refine EvsT.cons rfl ?_
      refine EvT.val rfl ?_
      refine EvsT.cons rfl ?_
      refine EvT.comp ?_
      refine ItT.enumV rfl rfl rfl ?_
      refine ⟨by simp only [numbered, List.length_map, List.length_zipIdx]; omega, fun p => ?_⟩
      refine CompT.num (f := fun f : PV × PV => .tup [f.1, f.2]) (g := fun f i => .tup [.str (toString (i : Int)), f.1]) (fun f i hf hi T hT => ?_) ?_
      · refine TurnT.all ?_
        refine AsgT.tup ?_
        refine AsgsT.name ?_ ?_; (· exact .inl (by rfl))
        refine AsgsT.name ?_ ?_; (· exact .inl (by rfl))
        refine AsgsT.nil ?_
        refine EvT.tup ?_
        refine EvsT.cons rfl ?_
        refine EvT.call rfl (by rfl) ?_
        refine EvsT.val rfl rfl ?_
        refine OpLT.str_n (by omega) ?_
        refine EvsT.val rfl rfl ?_
        refine ⟨?_, ?_⟩; (· exact bleT (by rfl))
        exact hT
      rw [numF_rows]
      refine EvsT.nil ?_
      refine ⟨?_, ?_⟩; (· exact bleT (by rfl))
      refine ExsT.asg ?_ ?_; (· exact .inl (by rfl))
      refine EvT.bin ?_
      refine EvT.val rfl ?_
      refine EvT.comp ?_
      refine ItT.lstV rfl ?_
      refine ⟨?_, fun p => ?_⟩; (· (simp only [List.length_map, List.length_append, List.length_take, List.length_cons, List.length_nil, List.length_range]; omega))
      refine CompT.zip (P := fun t (f : PV × PV) => t = .tup [f.1, f.2]) (g := fun f => f.2) (fun q f hq T hT => ?_) (Fa2.map fun f hf => rfl) ?_
      · subst hq
        refine TurnT.all ?_
        refine AsgT.name ?_ ?_; (· exact .inl (by rfl))
        refine EvT.val rfl ?_
        exact hT
      refine Op2T.add_lst ?_ ?_; (· (simp only [List.length_map, List.length_append, List.length_take, List.length_cons, List.length_nil, List.length_range]; omega))
      refine ExsT.nil ?_
      have eV : (vars ++ [(PV.str (Str.ofString "v" ++ toString (vars.length : Int)), S' "tuple", numF fs)]).map varPV = vars.map varPV ++ [varPV (PV.str (Str.ofString "v" ++ toString (vars.length : Int)), S' "tuple", numF fs)] := List.map_append
      have eD : (vars ++ [(PV.str (Str.ofString "v" ++ toString (vars.length : Int)), S' "tuple", numF fs)]).flatMap (fun v : PV × PV × Fs => v.2.2.map fun f => f.2.2) = (vars.flatMap fun v : PV × PV × Fs => v.2.2.map fun f => f.2.2) ++ fs.map (fun f => f.2) := by
        rw [List.flatMap_append, List.flatMap_cons, List.flatMap_nil, List.append_nil, numF_snd]
      refine ⟨_, LessT.top [(Str.ofString "due", .v _), (Str.ofString "variants", .mut _), (Str.ofString "rows", .v _), (Str.ofString "at", .v _), (Str.ofString "variants", .mut _), (Str.ofString "due", .v _)]
        [(Str.ofString "variants", .mut (.lst av (vars.map varPV ++ [varPV (PV.str (Str.ofString "v" ++ toString (vars.length : Int)), S' "tuple", numF fs)]))), (Str.ofString "due", .v (.lst ((vars.flatMap fun v : PV × PV × Fs => v.2.2.map fun f => f.2.2) ++ fs.map (fun f => f.2))))] ?h1 ?h2,
        vars ++ [(PV.str (Str.ofString "v" ++ toString (vars.length : Int)), S' "tuple", numF fs)], k, as2T eV.symm eD.symm, ?h4, ?h5, ?h6⟩
      case h1 => exact List.forall_mem_cons.mpr ⟨by rfl, List.forall_mem_cons.mpr ⟨by rfl, fun _ h => (nomatch h)⟩⟩
      case h2 => exact List.forall_mem_cons.mpr ⟨.inl (by rfl), List.forall_mem_cons.mpr ⟨.inl (by rfl), List.forall_mem_cons.mpr ⟨.inr (by rfl), List.forall_mem_cons.mpr ⟨.inr (by rfl), List.forall_mem_cons.mpr ⟨.inl (by rfl), List.forall_mem_cons.mpr ⟨.inl (by rfl), fun _ h => (nomatch h)⟩⟩⟩⟩⟩⟩
      case h4 => rw [List.length_append]; rfl
      case h5 => rw [List.length_append, List.length_cons, List.length_nil]; omega
      case h6 =>
        intro v hv
        rcases List.mem_append.mp hv with hv | hv
        · exact hg v hv
        · rw [List.mem_singleton.mp hv]
          exact ⟨by show (numF fs).length ≤ 3; rw [numF_length]; omega, numF_mem hfs⟩
  · rintro st ⟨vars, k, rfl, e, hk, hg⟩
    have hvl : vars.length ≤ 2 := by omega
    clear e hk
    refine ExsT.wset (x := Str.ofString "world") (f := Str.ofString "adts") (C := 302) (a := x) (dx := dx) (fl := worldF d1 d2 d3 d4 d5 d6 [] [] []) (d := d1) (l := []) rfl rfl List.nodup_nil (by decide) (by rfl) ?_
    refine EvT.call rfl (by rfl) ?_
    refine EvsT.val rfl rfl ?_
    refine OpLT.adt ?_
    refine EvT.val rfl ?_
    refine ⟨_, rfl, ?_⟩
    refine ExsT.freeze (x := Str.ofString "variants") (k := .lst av (vars.map varPV)) rfl ?_
    refine ExsT.wset (x := Str.ofString "world") (f := Str.ofString "adts") (C := 302) (a := x) (dx := dx) (fl := worldF d1 d2 d3 d4 d5 d6 [(Str.ofString "R", adtR)] [] []) (d := d1) (l := [(Str.ofString "R", adtR)]) rfl rfl (List.nodup_cons.mpr ⟨by simp, List.nodup_nil⟩) (by decide) (by rfl) ?_
    refine EvT.call rfl (by rfl) ?_
    refine EvsT.cons rfl ?_
    refine EvT.val rfl ?_
    refine EvsT.cons rfl ?_
    refine EvT.call rfl (by rfl) ?_
    refine EvsT.val rfl rfl ?_
    refine OpLT.tup_lst ?_ ?_; (· (simp only [List.length_map, List.length_append, List.length_take, List.length_cons, List.length_nil, List.length_range]; omega))
    refine EvsT.cons rfl ?_
    refine EvT.call rfl (by rfl) ?_
    refine EvsT.val rfl rfl ?_
    refine OpLT.tup_lst ?_ ?_; (· (simp only [List.length_map, List.length_append, List.length_take, List.length_cons, List.length_nil, List.length_range]; omega))
    refine EvsT.val rfl rfl ?_
    refine OpLT.adt ?_
    refine EvT.val rfl ?_
    refine ⟨_, rfl, ?_⟩
    refine ExsT.freeze (x := Str.ofString "world") (k := .wld 302 x dx (worldF d1 d2 d3 d4 d5 d6 (worldA nsR nsT vars ((i0 : Int) == 0)) [] [])) rfl ?_
    have hwh := g_whole hK (p := Str.ofString "m::T") (A := worldA nsR nsT vars ((i0 : Int) == 0)) (rs := nsR.map PV.str) (ns := nsT) (W := (worldF d1 d2 d3 d4 d5 d6 (worldA nsR nsT vars ((i0 : Int) == 0)) [] []).map fun p => (p.1, p.2.pv)) (by rfl) (by rfl) (by rw [List.length_map]; omega) (by omega)
    have hft := g_field_types hK hL hP (vsT := vsT) (vsR := vsR) ⟨hvT, by omega, hlT.2⟩ ⟨hvR, by omega, hlR.2⟩ (A := worldA nsR nsT vars ((i0 : Int) == 0)) (vars := vars) (W := (worldF d1 d2 d3 d4 d5 d6 (worldA nsR nsT vars ((i0 : Int) == 0)) [] []).map fun p => (p.1, p.2.pv)) (by rfl) (by rfl) (by omega) (fun v hv => Nat.le_trans (hg v hv).1 (by decide)) (fun v hv => (hg v hv).2)
    have hok1 : (tAdt (Str.ofString "m::T") (nsR.map PV.str) (nsT.map tPar)).ok = true := by
      rcases hcR with rfl | rfl | rfl <;> rcases hcT with rfl | rfl | rfl <;> decide +kernel
    have hok2 : (PV.lst (vars.flatMap fun v : PV × PV × Fs => v.2.2.map fun f => f.2.2)).ok = true := PV.ok_lst fun q hq => by
      obtain ⟨v, hv, hq⟩ := List.mem_flatMap.mp hq
      obtain ⟨f, hf, rfl⟩ := List.mem_map.mp hq
      exact ((hg v hv).2 f hf).ok (fun n v h => lookup_zip hPT h) (fun n v h => lookup_zip hPR h)
    have hlkT := lookup_zipT hlT.2 hvT
    have hlkR := lookup_zipT hlR.2 hvR
    refine ExsT.asg ?_ ?_; (· exact .inl (by rfl))
    refine EvT.call rfl (by rfl) ?_
    refine EvsT.cons rfl ?_
    refine EvT.comp ?_
    refine ItT.lstV rfl ?_
    refine ⟨?_, fun p => ?_⟩; (· (simp only [List.length_map, List.length_append, List.length_take, List.length_cons, List.length_nil, List.length_range]; omega))
    refine CompT.zip (P := fun t n => t = PV.str n) (g := tPar) (fun q n hq T hT => ?_) (Fa2.map fun n hn => rfl) ?_
    · subst hq
      refine TurnT.all ?_
      refine AsgT.name ?_ ?_; (· exact .inl (by rfl))
      refine EvT.val rfl ?_
      exact hT
    refine EvsT.nil ?_
    refine OpLT.tup_lst ?_ ?_; (· (simp only [List.length_map, List.length_append, List.length_take, List.length_cons, List.length_nil, List.length_range]; omega))
    refine ExsT.if ?_
    refine TrT.cmp ?_
    refine EvT.call rfl (by rfl) ?_
    refine EvsT.val rfl rfl ?_
    refine OpLT.fnE (by assumption) (bleT (by rfl)) ?_
    refine EvT.tup ?_
    refine EvsT.cons rfl ?_
    refine EvT.val rfl ?_
    refine EvsT.cons rfl ?_
    refine EvT.val rfl ?_
    refine EvsT.cons rfl ?_
    refine EvT.call rfl (by rfl) ?_
    refine EvsT.val rfl rfl ?_
    refine OpLT.tup_lst ?_ ?_; (· (simp only [List.length_map, List.length_append, List.length_take, List.length_cons, List.length_nil, List.length_range]; omega))
    refine EvsT.val rfl rfl ?_
    refine ⟨?_, ?_⟩; (· exact bleT (by rfl))
    refine Op2T.ne hok1 hok1 ⟨_, rfl, ite_tb (p := false) (by rw [eqv_ok hok1]; rfl) (fun e => nomatch e) (fun _ => ?_)⟩
    refine ExsT.nil ?_
    refine ExsT.asg ?_ ?_; (· exact .inl (by rfl))
    refine EvT.tup ?_
    refine EvsT.cons rfl ?_
    refine EvT.val rfl ?_
    refine EvsT.cons rfl ?_
    refine EvT.val rfl ?_
    refine EvsT.cons rfl ?_
    refine EvT.call rfl (by rfl) ?_
    refine EvsT.cons rfl ?_
    refine EvT.comp ?_
    refine ItT.lstV rfl ?_
    refine ⟨?_, fun p => ?_⟩; (· (simp only [List.length_map, List.length_append, List.length_take, List.length_cons, List.length_nil, List.length_range]; omega))
    refine CompT.zip (xs := nsR.zip vsR) (P := fun t p => t = .str p.1 ∧ p ∈ nsR.zip vsR) (g := fun p => p.2) (fun q p hq T hT => ?_) (by rw [map_fst_str hvR]; exact Fa2.map fun p hp => ⟨rfl, hp⟩) ?_
    · obtain ⟨rfl, hp⟩ := hq
      have hlk := hlkR p hp
      refine TurnT.all ?_
      refine AsgT.name ?_ ?_; (· exact .inl (by rfl))
      refine EvT.sub ?_
      refine EvT.val rfl ?_
      refine EvT.val rfl ?_
      refine SubT.dct rfl (by assumption) ?_
      exact hT
    rw [map_snd_zip hvR]
    refine EvsT.nil ?_
    refine OpLT.tup_lst ?_ ?_; (· omega)
    refine EvsT.cons rfl ?_
    refine EvT.call rfl (by rfl) ?_
    refine EvsT.cons rfl ?_
    refine EvT.comp ?_
    refine ItT.lstV rfl ?_
    refine ⟨?_, fun p => ?_⟩; (· (simp only [List.length_map, List.length_append, List.length_take, List.length_cons, List.length_nil, List.length_range]; omega))
    refine CompT.zip (xs := nsT.zip vsT) (P := fun t p => t = .str p.1 ∧ p ∈ nsT.zip vsT) (g := fun p => p.2) (fun q p hq T hT => ?_) (by rw [map_fst_str hvT]; exact Fa2.map fun p hp => ⟨rfl, hp⟩) ?_
    · obtain ⟨rfl, hp⟩ := hq
      have hlk := hlkT p hp
      refine TurnT.all ?_
      refine AsgT.name ?_ ?_; (· exact .inl (by rfl))
      refine EvT.sub ?_
      refine EvT.val rfl ?_
      refine EvT.val rfl ?_
      refine SubT.dct rfl (by assumption) ?_
      exact hT
    rw [map_snd_zip hvT]
    refine EvsT.nil ?_
    refine OpLT.tup_lst ?_ ?_; (· omega)
    refine EvsT.nil ?_
    refine ⟨?_, ?_⟩; (· exact bleT (by rfl))
    refine ExsT.ret ?_
    refine EvT.cmp ?_
    refine EvT.call rfl (by rfl) ?_
    refine EvsT.val rfl rfl ?_
    refine OpLT.fnE (by assumption) (bleT (by rfl)) ?_
    refine EvT.val rfl ?_
    refine Op2T.eq hok2 hok2 (by rw [eqv_ok hok2])
end
end
section
theorem as3T {hc : List Addr} {W D : Str} {V : LV} {U U' : PV} {ρ1 : List (Str × LV)} (e : U = U') : AT.mk ([(W, V), (D, .v U)] ++ ρ1) hc = AT.mk ((W, V) :: (D, .v U') :: ρ1) hc := by subst e; rfl
section
variable {G : Gx}
theorem g_methods_right (hK : G.K = hp.heap_1 G.w.params) (hC : G.flt = 52) (hL : G.klam = lamK) (hP : G.kput = putK) : Fn G (.adr 386) [.src] 22 (fun r => r = .bool true) := by
  have ht3 := f_take hK (top := 3) (by decide) (by decide)
  have ht4 := f_take hK (top := 4) (by decide) (by decide)
  refine Fn.introT (names := [Str.ofString "source"]) hK (by rfl) (by rfl) (arity1 fun _ => rfl) (by rfl) fun p => ?_
  refine ExsT.asg ?_ ?_; (· exact .inl (by rfl))
  refine EvT.upto3 (a := sf) (b := sg) (c := sh) rfl (EvT.call rfl (by rfl) (EvsT.val rfl rfl (OpLT.fn ht4 (bleT (by rfl)) fun _ h => h))) fun ns hcn => ?_
  have hln : ns.length ≤ 3 ∧ ns.Nodup ∧ sk ∉ ns ∧ (∀ x ∈ ns, x ∈ [sf, sg, sh, sk]) := by rcases hcn with rfl | rfl | rfl | rfl <;> exact ⟨by decide, by decide +kernel, by decide +kernel, by decide +kernel⟩
  refine ExsT.asg ?_ ?_; (· exact .inr ⟨rfl, by rfl, _, by rfl, .tail _ (.head _)⟩)
  refine EvT.comp ?_
  refine ItT.lstV rfl ?_
  refine ⟨?_, fun p => ?_⟩; (· (simp only [List.length_map, List.length_append, List.length_take, List.length_cons, List.length_nil, List.length_range]; omega))
  refine CompT.of (fun q o => ∃ n, q = .str n ∧ (o = none ∨ o = some (.str n))) (fun q hq T hT => ?_) fun rs hr => ?_
  · obtain ⟨n, _, rfl⟩ := List.mem_map.mp hq
    refine TurnT.i ?_
    refine AsgT.name ?_ ?_; (· exact .inl (by rfl))
    refine TstT.one ?_
    refine TrT.cmp ?_
    refine EvT.call rfl (by rfl) ?_
    refine EvsT.val rfl rfl ?_
    refine OpLT.take ht3 (bleT (by rfl)) fun i hi => ?_
    refine EvT.val rfl ?_
    refine Op2T.cmp rfl ?_
    refine ⟨_, rfl, ?_⟩
    refine ite_tb rfl (fun _ => ?_) (fun _ => hT _ ⟨n, rfl, .inl rfl⟩)
    refine EvT.val rfl ?_
    exact hT _ ⟨n, rfl, .inr rfl⟩
  obtain ⟨bs, rfl, hbs⟩ := fl_sub hr
  refine ExsT.asgComp ?_ ?_; (· exact .inl (by rfl))
  refine ItT.lstV rfl ?_
  refine ⟨?_, fun p => ?_⟩; (· (simp only [List.length_map, List.length_append, List.length_take, List.length_cons, List.length_nil, List.length_range]; omega))
  refine CompT.of (fun q o => ∃ n, q = .str n ∧ (o = none ∨ ∃ b, o = some (.tup [.str n, .bool b]))) (fun q hq T hT => ?_) fun rs hr => ?_
  · obtain ⟨n, _, rfl⟩ := List.mem_map.mp hq
    refine TurnT.i ?_
    refine AsgT.name ?_ ?_; (· exact .inl (by rfl))
    refine TstT.one ?_
    refine TrT.cmp ?_
    refine EvT.call rfl (by rfl) ?_
    refine EvsT.val rfl rfl ?_
    refine OpLT.take ht4 (bleT (by rfl)) fun i hi => ?_
    refine EvT.val rfl ?_
    refine Op2T.cmp rfl ?_
    refine ⟨_, rfl, ?_⟩
    refine ite_tb rfl (fun _ => ?_) (fun _ => hT _ ⟨n, rfl, .inl rfl⟩)
    refine EvT.tup ?_
    refine EvsT.cons rfl ?_
    refine EvT.val rfl ?_
    refine EvsT.cons rfl ?_
    refine EvT.cmp ?_
    refine EvT.call rfl (by rfl) ?_
    refine EvsT.val rfl rfl ?_
    refine OpLT.take ht4 (bleT (by rfl)) fun i' hi' => ?_
    refine EvT.val rfl ?_
    refine Op2T.cmp rfl ?_
    refine EvsT.nil ?_
    refine ⟨?_, ?_⟩; (· exact bleT (by rfl))
    exact hT _ ⟨n, rfl, .inr ⟨_, rfl⟩⟩
  obtain ⟨rows0, rfl, hrows⟩ := fl_rows hr
  refine ExsT.ifVia (Str.ofString "rows") (fun v => ∃ rows : List (Str × Bool), v = .lst (rows.map rowPV) ∧ rows.length ≤ 4 ∧ (rows.map (·.1)).Nodup ∧ ∀ p ∈ rows, p.1 = sk ∨ p.1 ∈ ns) rfl ?bA ?bB
  case bA =>
    have hrn : (rows0.map (·.1)).Nodup := hln.2.1.sublist hrows
    have hrl : rows0.length ≤ 3 := by have := hrows.length_le; rw [List.length_map] at this; omega
    have hrm : ∀ p ∈ rows0, p.1 = sk ∨ p.1 ∈ ns := fun p hp => .inr (hrows.subset (List.mem_map.mpr ⟨p, hp, rfl⟩))
    refine TrT.cmp ?_
    refine EvT.call rfl (by rfl) ?_
    refine EvsT.val rfl rfl ?_
    refine OpLT.take ht4 (bleT (by rfl)) fun i' hi' => ?_
    refine EvT.val rfl ?_
    refine Op2T.cmp rfl ?_
    refine ⟨_, rfl, ?_⟩
    refine ite_tb rfl (fun _ => ?_) (fun _ => ?_)
    · refine ExsT.asg ?_ ?_; (· exact .inl (by rfl))
      refine EvT.bin ?_
      refine EvT.val rfl ?_
      refine EvT.val rfl ?_
      refine Op2T.add_lst ?_ ?_; (· (simp only [List.length_map, List.length_append, List.length_take, List.length_cons, List.length_nil, List.length_range]; omega))
      refine ExsT.nil ?_
      refine ⟨_, LessT.tp [(Str.ofString "rows", .v _), (Str.ofString "rows", .v _)] [(Str.ofString "rows", .v (.lst (((sk, true) :: rows0).map rowPV)))] ⟨rfl, trivial⟩ rfl, (sk, true) :: rows0, rfl, ?x3, ?x4, ?x5⟩
      case x3 => simp only [List.length_cons]; omega
      case x4 =>
        refine List.nodup_cons.mpr ⟨fun q => ?_, hrn⟩
        exact hln.2.2.1 (hrows.subset q)
      case x5 => exact List.forall_mem_cons.mpr ⟨.inl rfl, hrm⟩
    · refine ExsT.nil ?_
      exact ⟨_, LessT.refl _, rows0, rfl, by omega, hrn, hrm⟩
  rintro _ ⟨rows, rfl, hrl, hrn, hrm⟩
  have hro : ∀ x ∈ rows.map (·.1), x ∈ [sf, sg, sh, sk] := fun x hx => by
    obtain ⟨p, hp, rfl⟩ := List.mem_map.mp hx
    exact (hrm p hp).elim (fun q => by rw [q]; simp) (hln.2.2.2 _)
  have hbo : ∀ x ∈ bs, x ∈ [sf, sg, sh, sk] := fun x hx => hln.2.2.2 x (hbs.subset hx)
  have hbl : bs.length ≤ 3 := Nat.le_trans hbs.length_le hln.1
  refine ExsT.asgP ?_
  refine EvT.tup ?_
  refine EvsT.cons rfl ?_
  refine EvT.val rfl ?_
  refine EvsT.cons rfl ?_
  refine EvT.comp ?_
  refine ItT.lstV rfl ?_
  refine ⟨?_, fun p => ?_⟩; (· (simp only [List.length_map, List.length_append, List.length_take, List.length_cons, List.length_nil, List.length_range]; omega))
  refine CompT.zip (P := fun t p => t = rowPV p) (g := fun p => .str p.1) (fun q p hq T hT => ?_) (Fa2.map fun p hp => rfl) ?_
  · subst hq
    refine TurnT.all ?_
    refine AsgT.tup ?_
    refine AsgsT.name ?_ ?_; (· exact .inl (by rfl))
    refine AsgsT.name ?_ ?_; (· exact .inl (by rfl))
    refine AsgsT.nil ?_
    refine EvT.val rfl ?_
    exact hT
  rw [show (rows.map fun p => PV.str p.1) = (rows.map (·.1)).map PV.str from by rw [List.map_map]; rfl]
  refine EvsT.nil ?_
  refine ⟨?_, ?_⟩; (· exact bleT (by rfl))
  refine AsgT.tup ?_
  refine AsgsT.name ?_ ?_; (· exact .inl (by rfl))
  refine AsgsT.name ?_ ?_; (· exact .inr ⟨rfl, by rfl, _, by rfl, .head _⟩)
  refine AsgsT.nil ?_
  refine ExsT.for ?_
  refine ItT.lstV rfl ?_
  with_reducible intro wr
  refine ForT.loop (P := fun l st => ∃ (pre suf : List (Str × Bool)), st = ⟨(Str.ofString "has", .v (.lst ((rows.map (·.1)).map PV.str))) :: (Str.ofString "due", .v (dpv (pre.foldl dstep none))) :: _, _⟩ ∧ l = suf.map rowPV ∧ rows = pre ++ suf) ?_ ?_ ⟨[], rows, rfl, rfl, rfl⟩
  · rintro q l st ⟨pre, suf, rfl, e, hr⟩
    cases suf with
    | nil => cases e
    | cons p suf =>
      obtain ⟨x, b⟩ := p
      simp only [List.map_cons, List.cons.injEq] at e
      obtain ⟨rfl, rfl⟩ := e
      have hfold : (pre ++ [(x, b)]).foldl dstep none = dstep (pre.foldl dstep none) (x, b) := by rw [List.foldl_append]; rfl
      have hr2 : rows = (pre ++ [(x, b)]) ++ suf := by rw [hr, List.append_assoc]; rfl
      generalize pre.foldl dstep none = d at hfold
      rcases d with _ | (_ | _)
      · refine AsgT.tup ?_
        refine AsgsT.name ?_ ?_; (· exact .inl (by rfl))
        refine AsgsT.name ?_ ?_; (· exact .inl (by rfl))
        refine AsgsT.nil ?_
        refine ExsT.if ?_
        refine TrT.bool ?_
        refine TrsT.and ?_
        refine TrT.val rfl ?_
        refine ite_t rfl ?_
        refine TrsT.and ?_
        refine TrT.val rfl ?_
        refine ite_tb (p := (x == sk)) rfl (fun e1 => ?_) (fun e1 => ?_)
        · have hf := hfold.trans (show dstep none (x, b) = some false by rw [dstep, if_pos e1])
          refine TrsT.nil ?_
          refine ite_t rfl ?_
          refine ExsT.asgV ?_ rfl ?_; (· exact .inl (by rfl))
          refine ExsT.nil ?_
          refine ExsT.ifN rfl ?_
          refine ExsT.nil ?_
          exact ⟨_, LessT.tp [(Str.ofString "due", .v _), (Str.ofString "is_alike", .v _), (Str.ofString "name", .v _), (Str.ofString "has", .v _), (Str.ofString "due", .v _)] [(Str.ofString "has", .v _), (Str.ofString "due", .v (dpv (some false)))] ⟨rfl, rfl, trivial⟩ rfl, pre ++ [_], suf, as3T (congrArg dpv hf.symm), rfl, hr2⟩
        · cases b with
          | false =>
            have hf := hfold.trans (show dstep none (x, false) = some true by rw [dstep, if_neg (by rw [e1]; simp), if_pos rfl])
            refine ite_f rfl ?_
            refine ExsT.nil ?_
            refine ExsT.ifT rfl ?_
            refine ExsT.asgV ?_ rfl ?_; (· exact .inl (by rfl))
            refine ExsT.nil ?_
            refine ExsT.nil ?_
            exact ⟨_, LessT.tp [(Str.ofString "due", .v _), (Str.ofString "is_alike", .v _), (Str.ofString "name", .v _), (Str.ofString "has", .v _), (Str.ofString "due", .v _)] [(Str.ofString "has", .v _), (Str.ofString "due", .v (dpv (some true)))] ⟨rfl, rfl, trivial⟩ rfl, pre ++ [_], suf, as3T (congrArg dpv hf.symm), rfl, hr2⟩
          | true =>
            have hf := hfold.trans (show dstep none (x, true) = none by rw [dstep, if_neg (by rw [e1]; simp), if_neg (by simp)])
            refine ite_f rfl ?_
            refine ExsT.nil ?_
            refine ExsT.ifN rfl ?_
            refine ExsT.nil ?_
            exact ⟨_, LessT.tp [(Str.ofString "is_alike", .v _), (Str.ofString "name", .v _), (Str.ofString "has", .v _), (Str.ofString "due", .v _)] [(Str.ofString "has", .v _), (Str.ofString "due", .v (dpv none))] ⟨rfl, rfl, trivial⟩ rfl, pre ++ [_], suf, as3T (congrArg dpv hf.symm), rfl, hr2⟩
      · have hf := hfold.trans (show dstep (some false) (x, b) = some false from rfl)
        refine AsgT.tup ?_
        refine AsgsT.name ?_ ?_; (· exact .inl (by rfl))
        refine AsgsT.name ?_ ?_; (· exact .inl (by rfl))
        refine AsgsT.nil ?_
        refine ExsT.ifN rfl ?_
        refine ExsT.ifN rfl ?_
        refine ExsT.nil ?_
        exact ⟨_, LessT.tp [(Str.ofString "is_alike", .v _), (Str.ofString "name", .v _), (Str.ofString "has", .v _), (Str.ofString "due", .v _)] [(Str.ofString "has", .v _), (Str.ofString "due", .v (dpv (some false)))] ⟨rfl, rfl, trivial⟩ rfl, pre ++ [_], suf, as3T (congrArg dpv hf.symm), rfl, hr2⟩
      · have hf := hfold.trans (show dstep (some true) (x, b) = some true from rfl)
        refine AsgT.tup ?_
        refine AsgsT.name ?_ ?_; (· exact .inl (by rfl))
        refine AsgsT.name ?_ ?_; (· exact .inl (by rfl))
        refine AsgsT.nil ?_
        refine ExsT.ifN rfl ?_
        refine ExsT.ifN rfl ?_
        refine ExsT.nil ?_
        exact ⟨_, LessT.tp [(Str.ofString "is_alike", .v _), (Str.ofString "name", .v _), (Str.ofString "has", .v _), (Str.ofString "due", .v _)] [(Str.ofString "has", .v _), (Str.ofString "due", .v (dpv (some true)))] ⟨rfl, rfl, trivial⟩ rfl, pre ++ [_], suf, as3T (congrArg dpv hf.symm), rfl, hr2⟩
  · rintro st ⟨pre, suf, rfl, e, hr⟩
    have hsuf : suf = [] := by cases suf with | nil => rfl | cons p l => cases e
    subst hsuf
    rw [List.append_nil] at hr
    subst hr
    refine ExsT.lessen (LessT.tp [(Str.ofString "has", .v _), (Str.ofString "due", .v _)] [(Str.ofString "due", .v (dpv (rows.foldl dstep none))), (Str.ofString "has", .v (.lst ((rows.map (·.1)).map PV.str)))] ⟨rfl, rfl, trivial⟩ rfl) ?_
    clear e
    generalize hd : rows.foldl dstep none = d
    refine ExsT.ifVia (Str.ofString "due") (fun v => v = dueOf ns bs (rows.map (·.1)) d) rfl ?dA ?dB
    case dA =>
      have hlf : (ns.filter fun x => !(rows.map (·.1) ++ bs).contains x).length ≤ 10 := Nat.le_trans (List.length_filter_le _ _) (by omega)
      have hrl2 : (rows.map (·.1)).length ≤ 4 := by rw [List.length_map]; exact hrl
      rcases d with _ | (_ | _)
      · refine TrT.bool ?_
        refine TrsT.and ?_
        refine TrT.val rfl ?_
        refine ite_t rfl ?_
        refine TrsT.and ?_
        refine TrT.cmp ?_
        refine EvT.comp ?_
        refine ItT.lstV rfl ?_
        refine ⟨?_, fun p => ?_⟩; (· (simp only [List.length_map, List.length_append, List.length_take, List.length_cons, List.length_nil, List.length_range]; omega))
        refine CompT.filt (fun x => !(rows.map (·.1) ++ bs).contains x) (f := PV.str) (g := PV.str) (fun x hx T Z hT hZ => ?_) ?_
        · refine TurnT.i ?_
          refine AsgT.name ?_ ?_; (· exact .inl (by rfl))
          refine TstT.one ?_
          refine TrT.cmp ?_
          refine EvT.val rfl ?_
          refine EvT.bin ?_
          refine EvT.val rfl ?_
          refine EvT.val rfl ?_
          refine Op2T.add_lst ?_ ?_; (· (simp only [List.length_map, List.length_append, List.length_take, List.length_cons, List.length_nil, List.length_range]; omega))
          rw [← List.map_append]
          refine Op2T.notIn_lst (PV.ok_str (str_lay (hln.2.2.2 x hx)).1) (PV.ok_strs fun y hy => (str_lay ((List.mem_append.mp hy).elim (hro y) (hbo y))).1) ⟨_, rfl, ?_⟩
          refine ite_tb (congrArg Bool.not (any_strs _ _)) (fun e => ?_) hZ
          refine EvT.val rfl ?_
          exact hT e
        · refine EvT.val rfl ?_
          refine Op2T.ne (PV.ok_strs fun y hy => (str_lay (hln.2.2.2 y (List.mem_filter.mp hy).1)).1) (PV.ok_of (by rfl)) ?_
          rw [ne_nil_strs]
          refine ⟨_, rfl, ite_tb rfl (fun e1 => ?_) (fun e1 => ?_)⟩
          · refine TrsT.nil ?_
            refine ite_t rfl ?_
            refine ExsT.asgV ?_ rfl ?_; (· exact .inl (by rfl))
            refine ExsT.nil ?_
            exact ⟨_, LessT.tp [(Str.ofString "due", .v _), (Str.ofString "due", .v _)] [(Str.ofString "due", .v (.tup [.int 34, .str w2]))] ⟨rfl, trivial⟩ rfl, (dueOf_miss (by simpa using e1)).symm⟩
          · refine ite_f rfl ?_
            refine ExsT.nil ?_
            exact ⟨_, LessT.refl _, (dueOf_none (by simpa using e1)).symm⟩
      · refine TrT.val rfl ?_
        refine ite_f rfl ?_
        refine ExsT.nil ?_
        exact ⟨_, LessT.refl _, rfl⟩
      · refine TrT.val rfl ?_
        refine ite_f rfl ?_
        refine ExsT.nil ?_
        exact ⟨_, LessT.refl _, rfl⟩
    rintro _ rfl
    have hlm := (g_law_methods hK hC hL hP (names := ns) (bodies := bs) (rows := rows) ⟨by omega, by omega, by omega⟩ ⟨fun x hx => (str_lay (hln.2.2.2 x hx)).2, fun p hp => (str_lay (hro p.1 (List.mem_map.mpr ⟨p, hp, rfl⟩))).2, fun x hx => (str_lay (hbo x hx)).2⟩ ⟨hln.2.1, hrn, hln.2.1.sublist hbs⟩ (meth_any hln.2.2.2 rows hrm)).mono (Q2 := fun q => q = dueOf ns bs (rows.map (·.1)) d) (fun q h => by
      have := meth_law (has := rows.map (·.1)) hln.2.2.1 hln.2.2.2 rows hrm q h
      rw [hd] at this; exact this)
    refine ExsT.ret ?_
    refine EvT.cmp ?_
    refine EvT.call rfl (by rfl) ?_
    refine EvsT.val rfl rfl ?_
    refine OpLT.fnE (by assumption) (bleT (by rfl)) ?_
    refine EvT.val rfl ?_
    refine Op2T.eq (dueOf_ok _ _ _ _) (dueOf_ok _ _ _ _) (by rw [eqv_ok (dueOf_ok _ _ _ _)])
end
end
section
theorem as1T {hc : List Addr} {W : Str} {V V' : LV} {ρ1 : List (Str × LV)} (e : V = V') : AT.mk ([(W, V)] ++ ρ1) hc = AT.mk ((W, V') :: ρ1) hc := by subst e; rfl
section
variable {G : Gx}
theorem g_drop_right (hK : G.K = hp.heap_1 G.w.params) (hC : G.flt = 52) : Fn G (.adr 364) [.src] 14 (fun r => r = .bool true) := by
  have ht2 := f_take hK (top := 2) (by decide) (by decide)
  have ht3 := f_take hK (top := 3) (by decide) (by decide)
  refine Fn.introT (names := [Str.ofString "source"]) hK (by rfl) (by rfl) (arity1 fun _ => rfl) (by rfl) fun p => ?_
  refine ExsT.asgComp ?_ ?_; (· exact .inl (by rfl))
  refine ItT.rng ?_
  refine EvT.call rfl (by rfl) ?_
  refine EvsT.cons rfl ?_
  refine EvT.call rfl (by rfl) ?_
  refine EvsT.val rfl rfl ?_
  refine OpLT.take ht3 (bleT (by rfl)) fun i1 hi1 => ?_
  refine EvsT.nil ?_
  refine OpLT.rng ?_
  refine ⟨_, rfl, ?_, ?_⟩; (· omega)
  refine ⟨?_, fun p => ?_⟩; (· (simp only [List.length_map, List.length_append, List.length_take, List.length_cons, List.length_nil, List.length_range]; omega))
  refine CompT.xs (g := PV.str) (S := fun _ x => x ∈ [ra, rb, rc]) (fun q hq T Z hT => ?_) fun rs hrl hr => ?_
  · refine TurnT.all ?_
    refine AsgT.name ?_ ?_; (· exact .inl (by rfl))
    refine EvT.call rfl (by rfl) ?_
    refine EvsT.val rfl rfl ?_
    refine OpLT.fn (g_one hK (l := [ra, rb, rc].map PV.str) (by decide) (by decide)) (bleT (by rfl)) fun v hv => ?_
    obtain ⟨x, hx, rfl⟩ := List.mem_map.mp hv
    exact hT x hx
  have hrs : ∀ x ∈ rs, x ∈ [ra, rb, rc] := hr.right (T := fun x => x ∈ [ra, rb, rc]) fun _ _ s => s
  rw [List.length_map, List.length_range] at hrl
  clear hr
  refine ExsT.asgComp ?_ ?_; (· exact .inl (by rfl))
  refine ItT.rng ?_
  refine EvT.call rfl (by rfl) ?_
  refine EvsT.cons rfl ?_
  refine EvT.call rfl (by rfl) ?_
  refine EvsT.val rfl rfl ?_
  refine OpLT.take ht3 (bleT (by rfl)) fun i2 hi2 => ?_
  refine EvsT.nil ?_
  refine OpLT.rng ?_
  refine ⟨_, rfl, ?_, ?_⟩; (· omega)
  refine ⟨?_, fun p => ?_⟩; (· (simp only [List.length_map, List.length_append, List.length_take, List.length_cons, List.length_nil, List.length_range]; omega))
  refine CompT.xs (g := PV.str) (S := fun _ x => x ∈ [sA, sB, sC]) (fun q hq T Z hT => ?_) fun ns hnl hn => ?_
  · refine TurnT.all ?_
    refine AsgT.name ?_ ?_; (· exact .inl (by rfl))
    refine EvT.call rfl (by rfl) ?_
    refine EvsT.val rfl rfl ?_
    refine OpLT.fn (g_one hK (l := [sA, sB, sC].map PV.str) (by decide) (by decide)) (bleT (by rfl)) fun v hv => ?_
    obtain ⟨x, hx, rfl⟩ := List.mem_map.mp hv
    exact hT x hx
  have hns : ∀ x ∈ ns, x ∈ [sA, sB, sC] := hn.right (T := fun x => x ∈ [sA, sB, sC]) fun _ _ s => s
  rw [List.length_map, List.length_range] at hnl
  clear hn
  refine ExsT.asgK rfl (EvKT.lst (EvsT.nil ⟨by decide, fun a => ?_⟩))
  refine ExsT.for ?_
  refine ItT.lstV rfl ?_
  with_reducible intro wr
  refine ForT.loop (P := fun l st => ∃ (pre : List DT) (suf : List Str), st = ⟨(Str.ofString "types", .mut (.lst a (pre.map DT.pv))) :: _, _⟩ ∧ l = suf.map PV.str ∧ ns = pre.map DT.nm ++ suf ∧ ∀ t ∈ pre, ∃ n, Nam n ∧ (t = .par n ∨ t = .box n)) ?_ ?_ ⟨[], ns, rfl, rfl, rfl, fun _ h => (nomatch h)⟩
  · rintro q l st ⟨pre, suf, rfl, e, hr, hp⟩
    cases suf with
    | nil => cases e
    | cons x suf =>
      simp only [List.map_cons, List.cons.injEq] at e
      obtain ⟨rfl, rfl⟩ := e
      have hpl : pre.length ≤ 2 := by have := congrArg List.length hr; rw [List.length_append, List.length_map] at this; omega
      refine AsgT.name ?_ ?_; (· exact .inl (by rfl))
      refine ExsT.asgV ?_ rfl ?_; (· exact .inl (by rfl))
      refine ExsT.append (x := Str.ofString "types") (a := a) (its := pre.map DT.pv) rfl (by rw [List.length_map]; omega) ?_
      refine EvT.call rfl (by rfl) ?_
      refine EvsT.val rfl rfl ?_
      refine OpLT.fn (g_one hK (l := [tPar x, tPar x, tPar x, tBox (tPar x)]) (by simp) (by simp)) (bleT (by rfl)) fun v hv => ?_
      refine ExsT.nil ?_
      obtain ⟨t, rfl, htn, hto⟩ : ∃ t : DT, v = t.pv ∧ t.nm = x ∧ (t = .par x ∨ t = .box x) := by
        simp only [List.mem_cons, List.not_mem_nil, or_false] at hv
        rcases hv with rfl | rfl | rfl | rfl
        · exact ⟨.par x, rfl, rfl, .inl rfl⟩
        · exact ⟨.par x, rfl, rfl, .inl rfl⟩
        · exact ⟨.par x, rfl, rfl, .inl rfl⟩
        · exact ⟨.box x, rfl, rfl, .inr rfl⟩
      refine ⟨_, LessT.tp [(Str.ofString "types", .mut _), (Str.ofString "own", .v _), (Str.ofString "name", .v _), (Str.ofString "types", .mut _)] [(Str.ofString "types", .mut (.lst a (pre.map DT.pv ++ [t.pv])))] ⟨rfl, trivial⟩ rfl, pre ++ [t], suf, as1T (by rw [List.map_append]; rfl), rfl, ?y4, ?y5⟩
      case y4 => rw [hr, List.map_append, List.append_assoc]; show _ = _ ++ (t.nm :: suf); rw [htn]
      case y5 =>
        intro w hw
        rcases List.mem_append.mp hw with hw | hw
        · exact hp w hw
        · rw [List.mem_singleton.mp hw]
          exact ⟨x, hns x (by rw [hr]; simp), hto⟩
  rintro st ⟨ts, suf, rfl, e, hr, ht⟩
  have hsuf : suf = [] := by cases suf with | nil => rfl | cons p l => cases e
  subst hsuf
  rw [List.append_nil] at hr
  clear e
  have htl : ts.length ≤ 2 := by have := congrArg List.length hr; rw [List.length_map] at this; omega
  refine ExsT.freeze (x := Str.ofString "types") (k := .lst a (ts.map DT.pv)) rfl ?_
  refine ExsT.asg ?_ ?_; (· exact .inr ⟨rfl, by rfl, _, by rfl, .tail _ (.head _)⟩)
  refine EvT.bin ?_
  refine EvT.val rfl ?_
  refine EvT.bin ?_
  refine EvT.val rfl ?_
  refine EvT.call rfl (by rfl) ?_
  refine EvsT.val rfl rfl ?_
  refine OpLT.take ht2 (bleT (by rfl)) fun i3 hi3 => ?_
  refine Op2T.mul_lst (by simp) (by omega) (by decide) ?_
  obtain ⟨kn, hkn, hkc⟩ := rep_c hi3
  rw [hkn]
  have hkl : kn.length ≤ 1 := by rcases hkc with rfl | rfl <;> decide
  refine Op2T.add_lst ?_ ?_; (· (simp only [List.length_map, List.length_append, List.length_take, List.length_cons, List.length_nil, List.length_range]; omega))
  refine ExsT.asgComp ?_ ?_; (· exact .inl (by rfl))
  refine ItT.lstV rfl ?_
  refine ⟨?_, fun p => ?_⟩; (· exact bleT (by rfl))
  refine CompT.xs (g := boundPV) (S := fun q p => p.1 ∈ [sA, sB, sC] ∧ p.2 ∈ [([] : List Str), [Str.ofString "Q"]]) (fun q hq T Z hT => ?_) fun ps hpl hps => ?_
  · obtain ⟨n, hnm, rfl⟩ := List.mem_map.mp (show q ∈ [sA, sB, sC].map PV.str from hq)
    refine TurnT.all ?_
    refine AsgT.name ?_ ?_; (· exact .inl (by rfl))
    refine EvT.tup ?_
    refine EvsT.cons rfl ?_
    refine EvT.val rfl ?_
    refine EvsT.cons rfl ?_
    refine EvT.call rfl (by rfl) ?_
    refine EvsT.val rfl rfl ?_
    refine OpLT.fn (g_one hK (l := [.tup [], .tup [], .tup [], .tup [S' "Q"]]) (by decide) (by decide)) (bleT (by rfl)) fun v hv => ?_
    obtain ⟨b, hb, rfl⟩ : ∃ b : List Str, b ∈ [([] : List Str), [Str.ofString "Q"]] ∧ v = .tup (b.map PV.str) := by
      simp only [List.mem_cons, List.not_mem_nil, or_false] at hv
      rcases hv with rfl | rfl | rfl | rfl
      · exact ⟨[], by simp, rfl⟩
      · exact ⟨[], by simp, rfl⟩
      · exact ⟨[], by simp, rfl⟩
      · exact ⟨[Str.ofString "Q"], by simp, rfl⟩
    refine EvsT.nil ?_
    refine ⟨?_, ?_⟩; (· exact bleT (by rfl))
    exact hT (n, b) ⟨hnm, hb⟩
  have hpb : ∀ p ∈ ps, p.1 ∈ [sA, sB, sC] ∧ p.2 ∈ [([] : List Str), [Str.ofString "Q"]] := hps.right (T := fun p : Str × List Str => p.1 ∈ [sA, sB, sC] ∧ p.2 ∈ [([] : List Str), [Str.ofString "Q"]]) fun _ _ s => s
  have hp3 : ps.length = 3 := hpl
  have hrx : ∀ x ∈ rs, (PV.str x).lay = true := fun x hx => (abc_lay (.inl (hrs x hx))).1
  have hnx : ∀ x ∈ ns, (PV.str x).lay = true := fun x hx => (abc_lay (.inr (hns x hx))).1
  have hkx : ∀ x ∈ [ra, rb] ++ kn, (PV.str x).lay = true := fun x hx => (abc_lay (.inl (known_reg hkc x hx))).1
  refine ExsT.asgV ?_ rfl ?_; (· exact .inl (by rfl))
  refine ExsT.for ?_
  refine ItT.lstV rfl ?_
  with_reducible intro wr
  refine ForT.loop (P := fun l st => ∃ (pre suf : List (List Str)), st = ⟨(Str.ofString "is_right", .v (.bool (pre.all fun l => !dup l))) :: _, _⟩ ∧ l = suf.map (fun l => PV.lst (l.map PV.str)) ∧ [rs, ns] = pre ++ suf) ?_ ?_ ⟨[], [rs, ns], rfl, rfl, rfl⟩
  · rintro q l st ⟨pre, suf, rfl, e, hpre⟩
    cases suf with
    | nil => cases e
    | cons y suf =>
      simp only [List.map_cons, List.cons.injEq] at e
      obtain ⟨rfl, rfl⟩ := e
      have hy : y = rs ∨ y = ns := by
        have : y ∈ [rs, ns] := by rw [hpre]; simp
        simpa using this
      have hyl : y.length ≤ 2 := by rcases hy with rfl | rfl <;> omega
      have hyx : ∀ x ∈ y, (PV.str x).lay = true := by rcases hy with rfl | rfl; exact hrx; exact hnx
      have hyf : (y.filter fun x => decide (cnt y x > 1)).length ≤ 10 := Nat.le_trans (List.length_filter_le _ _) (by omega)
      refine AsgT.name ?_ ?_; (· exact .inr ⟨rfl, by rfl, _, by rfl, .head _⟩)
      refine ExsT.if ?_
      refine TrT.cmp ?_
      refine EvT.comp ?_
      refine ItT.lstV rfl ?_
      refine ⟨?_, fun p => ?_⟩; (· (simp only [List.length_map, List.length_append, List.length_take, List.length_cons, List.length_nil, List.length_range]; omega))
      refine CompT.filt (fun x => decide (cnt y x > 1)) (f := PV.str) (g := PV.str) (fun x hx T Z hT hZ => ?_) ?_
      · refine TurnT.i ?_
        refine AsgT.name ?_ ?_; (· exact .inl (by rfl))
        refine TstT.one ?_
        refine TrT.cmp ?_
        refine EvT.meth PySem.F.plainAttrs_list PySem.F.slot_list_count PySem.F.type_list_count (EvT.val rfl ⟨rfl, ?_⟩)
        refine EvsT.val rfl rfl ?_
        refine OpLT.count ?_
        refine EvT.val rfl ?_
        refine Op2T.cmp rfl ?_
        refine ⟨_, rfl, ?_⟩
        refine ite_tb rfl (fun e => ?_) hZ
        refine EvT.val rfl ?_
        exact hT e
      · refine EvT.val rfl ?_
        refine Op2T.ne (PV.ok_strs fun x hx => hyx x (List.mem_filter.mp hx).1) (PV.ok_of (by rfl)) ?_
        rw [ne_nil_strs]
        refine ⟨_, rfl, ite_tb (p := dup y) rfl (fun e1 => ?_) (fun e1 => ?_)⟩
        · refine ExsT.asgV ?_ rfl ?_; (· exact .inl (by rfl))
          refine ExsT.nil ?_
          refine ExsT.nil ?_
          exact ⟨_, LessT.tp [(Str.ofString "is_right", .v _), (Str.ofString "some", .v _), (Str.ofString "is_right", .v _)] [(Str.ofString "is_right", .v (.bool false))] ⟨rfl, trivial⟩ rfl, pre ++ [y], suf, as1T (by rw [List.all_append]; simp [e1]), rfl, by rw [hpre, List.append_assoc]; rfl⟩
        · refine ExsT.nil ?_
          refine ExsT.nil ?_
          exact ⟨_, LessT.tp [(Str.ofString "some", .v _), (Str.ofString "is_right", .v _)] [(Str.ofString "is_right", .v (.bool (pre.all fun l => !dup l)))] ⟨rfl, trivial⟩ rfl, pre ++ [y], suf, as1T (by rw [List.all_append]; simp [e1]), rfl, by rw [hpre, List.append_assoc]; rfl⟩
  rintro st ⟨pre, suf, rfl, e, hpre⟩
  have hsuf : suf = [] := by cases suf with | nil => rfl | cons p l => cases e
  subst hsuf
  rw [List.append_nil] at hpre
  subst hpre
  clear e
  have hb0 : ([rs, ns].all fun l => !dup l) = (!dup rs && !dup ns) := by simp
  rw [hb0]
  have hf1 : (rs.filter fun x => !([ra, rb] ++ kn).contains x).length ≤ 10 := Nat.le_trans (List.length_filter_le _ _) (by omega)
  have hf2 : (ts.filter fun t => !t.isPar).length ≤ 10 := Nat.le_trans (List.length_filter_le _ _) (by omega)
  have hf3 : (ps.filter fun p => decide (p.2.length > 0)).length ≤ 10 := Nat.le_trans (List.length_filter_le _ _) (by rw [hpl]; decide)
  refine ExsT.ifVia (Str.ofString "is_right") (fun v => v = .bool ((!dup rs && !dup ns) && (rs.filter fun x => !([ra, rb] ++ kn).contains x).isEmpty)) rfl ?dA ?_
  case dA =>
    refine TrT.cmp ?_
    refine EvT.comp ?_
    refine ItT.lstV rfl ?_
    refine ⟨?_, fun p => ?_⟩; (· (simp only [List.length_map, List.length_append, List.length_take, List.length_cons, List.length_nil, List.length_range]; omega))
    refine CompT.filt (fun x => !([ra, rb] ++ kn).contains x) (f := PV.str) (g := PV.str) (fun x hx T Z hT hZ => ?_) ?_
    · refine TurnT.i ?_
      refine AsgT.name ?_ ?_; (· exact .inl (by rfl))
      refine TstT.one ?_
      refine TrT.cmp ?_
      refine EvT.val rfl ?_
      refine EvT.val rfl ?_
      refine Op2T.notIn_lst (l := ([ra, rb] ++ kn).map PV.str) (PV.ok_str (hrx x hx)) (PV.ok_strs hkx) ?_
      refine ⟨_, rfl, ?_⟩
      refine ite_tb (congrArg Bool.not (any_strs _ _)) (fun e => ?_) hZ
      refine EvT.val rfl ?_
      exact hT e
    · refine EvT.val rfl ?_
      refine Op2T.ne (PV.ok_strs fun x hx => hrx x (List.mem_filter.mp hx).1) (PV.ok_of (by rfl)) ?_
      rw [ne_nil_strs]
      refine ⟨_, rfl, ite_tb rfl (fun e1 => ?_) (fun e1 => ?_)⟩
      · refine ExsT.asgV ?_ rfl ?_; (· exact .inl (by rfl))
        refine ExsT.nil ?_
        exact ⟨_, LessT.tp [(Str.ofString "is_right", .v _), (Str.ofString "is_right", .v _)] [(Str.ofString "is_right", .v (.bool false))] ⟨rfl, trivial⟩ rfl, by rw [show (rs.filter fun x => !([ra, rb] ++ kn).contains x).isEmpty = false by simpa using e1, Bool.and_false]⟩
      · refine ExsT.nil ?_
        exact ⟨_, LessT.refl _, by rw [show (rs.filter fun x => !([ra, rb] ++ kn).contains x).isEmpty = true by simpa using e1, Bool.and_true]⟩
  rintro _ rfl
  generalize hb1 : ((!dup rs && !dup ns) && (rs.filter fun x => !([ra, rb] ++ kn).contains x).isEmpty) = b1
  refine ExsT.ifVia (Str.ofString "is_right") (fun v => v = .bool (b1 && (ts.filter fun t => !t.isPar).isEmpty)) rfl ?eA ?_
  case eA =>
    refine TrT.cmp ?_
    refine EvT.comp ?_
    refine ItT.lstV rfl ?_
    refine ⟨?_, fun p => ?_⟩; (· (simp only [List.length_map, List.length_append, List.length_take, List.length_cons, List.length_nil, List.length_range]; omega))
    refine CompT.filt (fun t => !t.isPar) (f := DT.pv) (g := DT.pv) (fun t hti T Z hT hZ => ?_) ?_
    · obtain ⟨n, hn, rfl | rfl⟩ := ht t hti
      · refine TurnT.i ?_
        refine AsgT.name ?_ ?_; (· exact .inl (by rfl))
        refine TstT.one ?_
        refine TrT.val rfl ?_
        refine ite_f rfl ?_
        exact hZ rfl
      · refine TurnT.i ?_
        refine AsgT.name ?_ ?_; (· exact .inl (by rfl))
        refine TstT.one ?_
        refine TrT.val rfl ?_
        refine ite_t rfl ?_
        refine EvT.val rfl ?_
        exact hT rfl
    · refine EvT.val rfl ?_
      refine Op2T.ne (PV.ok_lst fun q hq => by obtain ⟨t, h1, rfl⟩ := List.mem_map.mp hq; exact dt_ok (ht t (List.mem_filter.mp h1).1)) (PV.ok_of (by rfl)) ?_
      rw [ne_nil_l, List.isEmpty_map]
      refine ⟨_, rfl, ite_tb rfl (fun e1 => ?_) (fun e1 => ?_)⟩
      · refine ExsT.asgV ?_ rfl ?_; (· exact .inl (by rfl))
        refine ExsT.nil ?_
        exact ⟨_, LessT.tp [(Str.ofString "is_right", .v _), (Str.ofString "is_right", .v _)] [(Str.ofString "is_right", .v (.bool false))] ⟨rfl, trivial⟩ rfl, by rw [show (ts.filter fun t => !t.isPar).isEmpty = false by simpa using e1, Bool.and_false]⟩
      · refine ExsT.nil ?_
        exact ⟨_, LessT.refl _, by rw [show (ts.filter fun t => !t.isPar).isEmpty = true by simpa using e1, Bool.and_true]⟩
  rintro _ rfl
  generalize hb2 : (b1 && (ts.filter fun t => !t.isPar).isEmpty) = b2
  refine ExsT.ifVia (Str.ofString "is_right") (fun v => v = .bool (b2 && (ps.filter fun p => decide (p.2.length > 0)).isEmpty)) rfl ?gA ?_
  case gA =>
    refine TrT.cmp ?_
    refine EvT.comp ?_
    refine ItT.lstV rfl ?_
    refine ⟨?_, fun p => ?_⟩; (· (simp only [List.length_map, List.length_append, List.length_take, List.length_cons, List.length_nil, List.length_range]; omega))
    refine CompT.filt (fun p => decide (p.2.length > 0)) (f := boundPV) (g := fun p => .tup (p.2.map PV.str)) (fun p hp T Z hT hZ => ?_) ?_
    · have hpk : (PV.tup (p.2.map PV.str)).ok = true := by
        have := (hpb p hp).2
        simp only [List.mem_cons, List.not_mem_nil, or_false] at this
        rcases this with h | h <;> rw [h] <;> decide +kernel
      refine TurnT.i ?_
      refine AsgT.tup ?_
      refine AsgsT.name ?_ ?_; (· exact .inl (by rfl))
      refine AsgsT.name ?_ ?_; (· exact .inl (by rfl))
      refine AsgsT.nil ?_
      refine TstT.one ?_
      refine TrT.cmp ?_
      refine EvT.val rfl ?_
      refine EvT.val rfl ?_
      refine Op2T.ne hpk (PV.ok_of (by rfl)) ?_
      rw [ne_nil_t]
      refine ⟨_, rfl, ite_tb (by rw [List.isEmpty_map]; cases p.2 <;> rfl) (fun e => ?_) hZ⟩
      refine EvT.val rfl ?_
      exact hT e
    · refine EvT.val rfl ?_
      refine Op2T.ne (PV.ok_lst fun q hq => by
        obtain ⟨p, h1, rfl⟩ := List.mem_map.mp hq
        have := (hpb p (List.mem_filter.mp h1).1).2
        simp only [List.mem_cons, List.not_mem_nil, or_false] at this
        rcases this with h | h <;> rw [h] <;> exact ⟨by decide +kernel, by decide +kernel⟩) (PV.ok_of (by rfl)) ?_
      rw [ne_nil_l, List.isEmpty_map]
      refine ⟨_, rfl, ite_tb rfl (fun e1 => ?_) (fun e1 => ?_)⟩
      · refine ExsT.asgV ?_ rfl ?_; (· exact .inl (by rfl))
        refine ExsT.nil ?_
        exact ⟨_, LessT.tp [(Str.ofString "is_right", .v _), (Str.ofString "is_right", .v _)] [(Str.ofString "is_right", .v (.bool false))] ⟨rfl, trivial⟩ rfl, by rw [show (ps.filter fun p => decide (p.2.length > 0)).isEmpty = false by simpa using e1, Bool.and_false]⟩
      · refine ExsT.nil ?_
        exact ⟨_, LessT.refl _, by rw [show (ps.filter fun p => decide (p.2.length > 0)).isEmpty = true by simpa using e1, Bool.and_true]⟩
  rintro _ rfl
  have hb3 : (b2 && (ps.filter fun p => decide (p.2.length > 0)).isEmpty) = isR rs (ts.map DT.nm) ([ra, rb] ++ kn) ts ps := by rw [← hb2, ← hb1, hr]; rfl
  rw [hb3]
  have hld := (g_law_drop (rs := rs) (known := [ra, rb] ++ kn) (ts := ts) (ps := ps) hK hC ⟨by omega, by omega, by rw [hpl]; decide, by simp; omega⟩ (fun x hx => ⟨Nat.le_trans (abc_lay (.inl (hrs x hx))).2 (by decide), hrx x hx⟩) hkx
    (fun t h => by obtain ⟨n, hn, rfl | rfl⟩ := ht t h <;> exact ⟨(abc_lay (.inr hn)).2, (abc_lay (.inr hn)).1⟩)
    (fun p hp => ⟨by have := (hpb p hp).2; simp only [List.mem_cons, List.not_mem_nil, or_false] at this; rcases this with h | h <;> rw [h] <;> decide, (abc_lay (.inr (hpb p hp).1)).1⟩)).mono (Q2 := fun r => r = dueDrop (isR rs (ts.map DT.nm) ([ra, rb] ++ kn) ts ps)) (fun q h => h.trans (drop_law hrs ht ⟨by omega, htl⟩))
  generalize isR rs (ts.map DT.nm) ([ra, rb] ++ kn) ts ps = b3 at hld
  refine ExsT.asg ?_ ?_; (· exact .inl (by rfl))
  refine EvT.tup ?_
  refine EvsT.cons rfl ?_
  refine EvT.val rfl ?_
  refine EvsT.cons rfl ?_
  refine EvT.val rfl ?_
  refine EvsT.cons rfl ?_
  refine EvT.call rfl (by rfl) ?_
  refine EvsT.val rfl rfl ?_
  refine OpLT.tup_lst ?_ ?_; (· (simp only [List.length_map, List.length_append, List.length_take, List.length_cons, List.length_nil, List.length_range]; omega))
  refine EvsT.cons rfl ?_
  refine EvT.call rfl (by rfl) ?_
  refine EvsT.val rfl rfl ?_
  refine OpLT.tup_lst (l := ts.map DT.pv) (by rw [List.length_map]; omega) ?_
  refine EvsT.nil ?_
  refine ⟨?_, ?_⟩; (· exact bleT (by rfl))
  refine ExsT.ret ?_
  refine EvT.cmp ?_
  refine EvT.call rfl (by rfl) ?_
  refine EvsT.val rfl rfl ?_
  refine OpLT.fnE (by assumption) (bleT (by rfl)) ?_
  refine EvT.eq (dueDrop b3) ?_ ?_
  · cases b3
    · refine EvT.ifF rfl ?_
      refine EvT.val rfl ?_
      rfl
    · refine EvT.ifT rfl ?_
      refine EvT.val rfl ?_
      rfl
  · exact Op2T.eq (dueDrop_ok _) (dueDrop_ok _) (by rw [eqv_ok (dueDrop_ok _)])
end
end
section
noncomputable section
@[irreducible] noncomputable def ExsST (w : WX) (s : AT) (t : List Stmt) (Q : Int → Int → Prop) : Prop := w.Ok → ∀ m, ExsS w.G w.c (s.at m) t Q
section
variable {w : WX} {s : AT} {t : List Stmt} {Q : Int → Int → Prop}
theorem ExsST.i (h : w.Ok → ∀ m, ExsS w.G w.c (s.at m) t Q) : ExsST w s t Q := by unfold ExsST; exact h
theorem ExsST.e (h : ExsST w s t Q) (hw : w.Ok) (m) : ExsS w.G w.c (s.at m) t Q := by unfold ExsST at h; exact h hw m
theorem ExsST.asg {x : Str} {xp pos : Pos} {e : Expr} {rest : List Stmt} (hx : StoresT w s x) (h : EvT w s e fun q => ExsST w (s.set x q) rest Q) (hs : autoParam (swapsWith e (some (.Name x xp)) pos.line w.c.env = pure false) aRfl) : ExsST w s (.Assign [.Name x xp] e pos :: rest) Q := .i fun hw m =>
  ExsS.cons (Ex.assign hw.O hx ((h.e hw m).mono fun q h m' => h.e hw m') hs)
theorem ExsST.ret {es : List Expr} {ep pos : Pos} {rest : List Stmt} (h : EvsT w s es fun qs => ∃ a b, qs = [.int a, .int b] ∧ Q a b) : ExsST w s (.Return (some (.List es ep)) pos :: rest) Q := .i fun hw m =>
  ExsS.ret (EvK.lst hw.O ((h.e hw m).mono fun qs ⟨a, b, e, q⟩ => ⟨by subst e; exact bleT rfl, fun S => ⟨S, a, b, by subst e; rfl, q⟩⟩))
theorem FnS.introT {G : Gx} {f : Addr} {fd : FuncData} {body : List Stmt} {names : List Str} {args : List PV} {n : Nat} {oc : Value} {od : Option Addr} {osl : Array (Option Value)} (hK : G.K = hp.heap_1 G.w.params)
    (ho : (hp.heap_1 G.w.params).lookup f = some ⟨oc, od, .func fd, osl⟩) (hbody : fd.body = .stmts body) (hb : ∀ vals : List Value, vals.length = args.length → bindArgs fd ⟨vals, []⟩ = pure (names.zip vals)) (hok : fnOk G.w.params fd names = true)
    (h : ∀ p : FP, ExsST (WX.fn G n fd f p) (AT.fn fd names args p) body Q) : FnS G (.adr f) args (n + 1) Q := by
  unfold fnOk at hok
  simp only [Bool.and_eq_true, decide_eq_true_eq, Bool.not_eq_true', beq_iff_eq, List.isEmpty_iff] at hok
  obtain ⟨⟨⟨⟨⟨⟨⟨⟨⟨h1, h2⟩, h3⟩, h4⟩, h5⟩, h6⟩, h7⟩, h8⟩, h9⟩, h10⟩ := hok
  refine FnS.intro (by rw [hK]; exact ho) hbody (by rw [hK]; exact h1) (fun c st hh tk vals O S rs => .of_eq (hb vals rs.length)) h2 h3 (fun h₀ outer fr L dp un gd hid m O r => ?_) h4 h5 h6 h7 h8 h9 h10
  exact (h ⟨h₀, outer, fr, L, dp, un, gd, hid⟩).e ⟨O, r, hK⟩ m
end
theorem Run.ifN {w : WX} {s : AT} {m : Str → Option Value} {t : Expr} {b rest : List Stmt} {pos : Pos} {G2 : Gx → Prop} {R : PV → Prop} (hw : w.Ok) (h : TrT w s t fun x => x = false) (k : Run w.G w.c (s.at m) rest G2 R) : Run w.G w.c (s.at m) (.If t b [] pos :: rest) G2 R :=
  Run.cons (Ex.if hw.O ((h.e hw m).mono fun x e => by subst e; rw [if_neg (by decide)]; exact Exs.nil k))
theorem Op2T.mul_int {w : WX} {s : AT} {a b : Int} {Q : PV → Prop} (hm : IntMulOk a b) (q : Q (.int (a * b))) : Op2T w s (binaryOp .Mult) (.int a) (.int b) Q := .i fun hw m => op_mul_int hm q
theorem Op2T.mod_int {w : WX} {s : AT} {a b : Int} {Q : PV → Prop} (hb : b ≠ 0) (q : Q (.int (a.fmod b))) : Op2T w s (binaryOp .Mod) (.int a) (.int b) Q := .i fun hw m => op_mod_int hb q
theorem Op2T.pow {w : WX} {s : AT} {a n : Int} {Q : PV → Prop} (hn : 0 ≤ n) (hn2 : n ≤ 1000000) (ha : a.natAbs < 2 ^ 64) (q : Q (.int (a ^ n.toNat))) : Op2T w s (binaryOp .Pow) (.int a) (.int n) Q := .i fun hw m => op_pow hn hn2 ha q
theorem SubT.raw0 {w : WX} {s : AT} {v sl : Expr} {l : List Int} {a : Int} {Q : PV → Prop} (hi : idxE sl = true) (hx : l[0]? = some a) (hq : Q (.int a)) : SubT w s v sl (.raw l) (.int 0) Q := .i fun hw m => sub_raw hx hq (fun _ _ => idxE_ok hi _ _)
end
end
section
section
variable {G : Gx}
theorem g_pool (hK : G.K = hp.heap_1 G.w.params) {l : List Int} (hl : l.length ≤ 1000) (hb : ∀ a ∈ l, a.natAbs.log2 < 2 ^ 25) : FnS G (.adr 313) [.raw l] 3 SrcOk := by
  refine FnS.introT (names := [Str.ofString "script"]) hK (by rfl) (by rfl) (arity1 fun _ => rfl) (by rfl) fun p => ?_
  refine ExsST.asg (.inl rfl) (EvT.mono (Q := fun q => ∃ a : Int, q = .int a ∧ a.natAbs.log2 < 2 ^ 25) ?_ ?_)
  · refine EvT.ifexp (TrT.cmp (EvT.call rfl rfl (EvsT.val rfl rfl (OpLT.len_raw (by omega) (EvT.val rfl (Op2T.cmp rfl ⟨_, rfl, ite_tb rfl (fun e => ?_) (fun e => ?_)⟩))))))
    · cases l with
      | nil => simp at e
      | cons a l => exact EvT.sub (EvT.val rfl (EvT.val rfl (SubT.raw0 rfl rfl ⟨a, rfl, hb a (.head _)⟩)))
    · exact EvT.val rfl ⟨0, rfl, by decide⟩
  rintro _ ⟨a, rfl, ha⟩
  refine ExsST.asg (.inl rfl) (EvT.call rfl rfl (EvsT.val rfl rfl (OpLT.max ?_)))
  have hg : 0 ≤ (if -1 - a > a then -1 - a else a) ∧ (if -1 - a > a then -1 - a else a).natAbs.log2 < 2 ^ 25 := by
    split
    · exact ⟨by omega, log2_le_of (b := a.natAbs) (by omega) ha⟩
    · exact ⟨by omega, ha⟩
  generalize (if -1 - a > a then -1 - a else a) = g at hg
  have e1 := Int.fmod_nonneg_of_pos ((g.fmod 2147483629 + 17) * 48271) (b := 2147483647) (by decide)
  have e2 := Int.fmod_lt_of_pos ((g.fmod 2147483629 + 17) * 48271) (b := 2147483647) (by decide)
  refine ExsST.ret (EvsT.cons rfl ?_)
  refine EvT.bin ?_
  refine EvT.val rfl ?_
  refine EvT.call rfl (by rfl) ?_
  refine EvsT.cons rfl ?_
  refine EvT.cmp ?_
  refine EvT.val rfl ?_
  refine EvT.bin ?_
  refine EvT.val rfl ?_
  refine EvT.val rfl ?_
  refine Op2T.pow (by decide) (by decide) (by decide) ?_
  refine Op2T.cmp rfl ?_
  refine EvsT.nil ?_
  refine OpLT.int_b (Op2T.mul_int (.of_right (by split <;> decide)) ?_)
  refine EvsT.cons rfl ?_
  refine EvT.bin ?_
  refine EvT.bin ?_
  refine EvT.bin ?_
  refine EvT.bin ?_
  refine EvT.val rfl ?_
  refine EvT.val rfl ?_
  refine Op2T.mod_int (by decide) ?_
  refine EvT.val rfl ?_
  refine Op2T.bin rfl ?_
  refine EvT.val rfl ?_
  refine Op2T.mul_int (.of_right (by decide)) ?_
  refine EvT.val rfl ?_
  refine Op2T.mod_int (by decide) ?_
  refine EvsT.nil ⟨_, _, rfl, ?_⟩
  refine ⟨?_, ?_, e1, by omega⟩
  · split
    · rw [Int.mul_one]; exact hg.1
    · simp
  · split
    · rw [Int.mul_one]; exact hg.2
    · simp
end
end
section
theorem g_law_run {G : Gx} (hK : G.K = hp.heap_1 G.w.params) (hC : G.flt = 52) (hL : G.klam = lamK) (hP : G.kput = putK) {h₀ : Heap} {L fa : Addr} {cd : Value} {dp un : Nat} {gd : Option (List Code)} {hid : Addr → Prop} {m : Str → Option Value} {l : List Int} (hl : l.length ≤ 1000) (hb : ∀ a ∈ l, a.natAbs.log2 < 2 ^ 25)
    (O : Cx.Ok G (lcx h₀ L fa cd dp un gd hid)) (r : (lcx h₀ L fa cd dp un gd hid).room 40) :
    Run G (lcx h₀ L fa cd dp un gd hid) ⟨m, [(Str.ofString "script", .v (.raw l))], []⟩ lawB (fun G' => ∃ Sa, G' = withS G Sa) (fun q => q = .bool true) := by
  have h1 := g_methods_told hK hC hL hP
  have h2 := g_drops_told hK hC
  have hw : WX.Ok ⟨G, lcx h₀ L fa cd dp un gd hid, 40⟩ := ⟨O, r, hK⟩
  unfold lawB
  refine Run.ifN (w := ⟨G, lcx h₀ L fa cd dp un gd hid, 40⟩) (s := ⟨[(Str.ofString "script", .v (.raw l))], []⟩) hw ?_ ?_
  · refine TrT.bool ?_
    refine TrsT.or ?_
    refine TrT.not ?_
    refine TrT.plain ?_
    refine EvT.call rfl (by rfl) ?_
    refine EvsT.nil ?_
    refine OpLT.fnE (by assumption) (bleT (by rfl)) ?_
    refine ⟨_, rfl, ?_⟩
    refine ite_f rfl ?_
    refine TrsT.or ?_
    refine TrT.not ?_
    refine TrT.plain ?_
    refine EvT.call rfl (by rfl) ?_
    refine EvsT.nil ?_
    refine OpLT.fnE (by assumption) (bleT (by rfl)) ?_
    refine ⟨_, rfl, ?_⟩
    refine ite_f rfl ?_
    refine TrsT.nil ?_
    rfl
  refine Run.src (n := 3) (Q := SrcOk) O rfl rfl rfl (Cx.room.le r (by decide)) (by rfl) (fun _ _ h => h)
    (evalP_ok (s := ⟨[(Str.ofString "script", .v (.raw l))], []⟩) hw fuel _ (.adr 313) (by rfl) _ ⟨okFT_ok hw (by rfl), evalL_ok (s := ⟨[(Str.ofString "script", .v (.raw l))], []⟩) hw (evalP_ok hw fuel) _ [.raw l] rfl (by rfl) _ (g_pool hK hl hb)⟩) fun Sa m' O' => ?_
  have h3 := g_types_right (G := withS G Sa) hK hL hP
  have h4 := g_drop_right (G := withS G Sa) hK hC
  have h5 := g_methods_right (G := withS G Sa) hK hC hL hP
  refine ExsT.e (w := ⟨withS G Sa, withHid (lcx h₀ L fa cd dp un gd hid) [Sa], 40⟩) (s := ⟨[(Str.ofString "source", .v .src)], []⟩) (N := fun _ => False) (.ret (.boolop (.cons ?_))) ⟨O', r, hK⟩ m'
  refine EvT.call rfl (by rfl) ?_
  refine EvsT.val rfl rfl ?_
  refine OpLT.fnE (by assumption) (bleT (by rfl)) ?_
  refine ⟨_, rfl, ?_⟩
  rw [if_neg (by decide)]
  refine .cons ?_
  refine EvT.call rfl (by rfl) ?_
  refine EvsT.val rfl rfl ?_
  refine OpLT.fnE (by assumption) (bleT (by rfl)) ?_
  refine ⟨_, rfl, ?_⟩
  rw [if_neg (by decide)]
  refine .one ?_
  refine EvT.call rfl (by rfl) ?_
  refine EvsT.val rfl rfl ?_
  refine OpLT.fnE (by assumption) (bleT (by rfl)) ?_
  with_reducible rfl
theorem g_law_join {p : Program} {w : World} {A : Around} {loose : List Str} {mean : ExcName → Option Value} {mg mb : Str → Option Value} {h₀ h₁ : Heap} {L fa a : Addr} {cd : Value} {vs : List Value} {l : List Int} {gens : Array GenState} {drawn : Drawn} {tk : Nat} {os : OsState}
    {Q : Flow → Shared → Prop} {E : Value → Shared → Prop} (X : (hp.heap_1 w.params).In h₀) (T : Top topProg loose mean mg mb h₀) (F : Fr h₀ L h₁ fun x => List.lookup x [(Str.ofString "script", Value.ref a)].reverse)
    (N : News h₀ L h₁ [(180, tabObj #[]), (125, tabObj #[])]) (H : h₀.IsList a vs.toArray) (I : IntsAre vs l) (hl : l.length ≤ 63) (hb : ∀ x ∈ l, x.natAbs.log2 < 2 ^ 25)
    (hA : ∃ dp un gd, A = { handled := none, depth := dp, frames := some [envOf (Str.ofString "law") lawS L fa cd], guards := gd, units := un } ∧ dp + 40 < 900 ∧ un + 8 * 40 + 200 < 9900)
    (z : ∀ h' tk' L' m', Fr h₀ L' h' m' → GrownAll [(182, 180), (127, 125)] h' → Q (.ret (.bool true)) ⟨h', gens, drawn, tk', os⟩) :
    wpAny (model p w) A (execs lawB (envOf (Str.ofString "law") lawS L fa cd)) Q E ⟨h₁, gens, drawn, tk, os⟩ := by
  obtain ⟨dp, un, gd, rfl, hd1, hu1⟩ := hA
  have n1 := N _ (.head _)
  have n2 := N _ (.tail _ (.head _))
  have hLn : h₀.get? L = none := Heap.get?_none_of_le F.above
  let G : Gx := { prog := p, w := w, K := hp.heap_1 w.params, p := topProg, loose := loose, mean := mean, mg := mg, mb := mb, gens := gens, drawn := drawn, os := os, S := none, M := [180, 125], kput := putK, klam := lamK, flt := 52 }
  let c : Cx := lcx h₀ L fa cd dp un gd fun b => b = L ∨ b = 180 ∨ b = 125
  have hm : ∀ b ∈ ([180, 125] : List Addr), b = 180 ∨ b = 125 := fun b hb => by simpa using hb
  have O : Cx.Ok G c :=
    { fro := rfl, frk := fun e he => (nomatch he), X := X, T := T, kf := rfl, ff := rfl, ke := rfl, ge := rfl, be := rfl, fe := rfl
      hM := fun b hb => by rcases hm b hb with rfl | rfl; exact n1.2.2; exact n2.2.2
      hLM := fun q => by rcases hm L q with q | q; exact n1.2.1 q.symm; exact n2.2.1 q.symm
      hS := fun S e => (nomatch e), tM := ⟨.tail _ (.head _), .head _⟩
      hMh := fun b hb => .inr (hm b hb), hLh := .inl rfl
      kH := fun b o e q => by
        have e := X b o e
        rcases q with rfl | rfl | rfl
        · rw [hLn] at e; cases e
        · rw [n1.2.2] at e; cases e
        · rw [n2.2.2] at e; cases e
      loc := fun _ => ⟨rfl, rfl⟩, locC := fun _ e => (nomatch e), cel := fun _ _ e => (nomatch e), apart := fun _ => .nil }
  have Sc : St G c ⟨fun x => List.lookup x [(Str.ofString "script", Value.ref a)].reverse, [(Str.ofString "script", .v (.raw l))], []⟩ h₁ := by
    obtain ⟨o, eo, ec, n, ed⟩ := H
    have one : ∀ y q, List.lookup y [(Str.ofString "script", LV.v (.raw l))] = some q → y = Str.ofString "script" ∧ q = .v (.raw l) := fun y q e => by
      rw [List.lookup_cons] at e
      by_cases hy : (y == Str.ofString "script") = true
      · rw [hy] at e; cases e; exact ⟨beq_iff_eq.mp hy, rfl⟩
      · rw [Bool.eq_false_iff.mpr hy] at e; cases e
    have nh : ¬ Hid c ⟨fun x => List.lookup x [(Str.ofString "script", Value.ref a)].reverse, [(Str.ofString "script", .v (.raw l))], []⟩ a := fun q => by
      rcases q with (rfl | rfl | rfl) | q | ⟨y, k, e, _⟩
      · rw [hLn] at eo; cases eo
      · rw [n1.2.2] at eo; cases eo
      · rw [n2.2.2] at eo; cases eo
      · cases q
      · cases (one y _ e).2
    exact
      { F := F, Nn := F.ns
        ρ := fun y q e => by
          obtain ⟨rfl, e2⟩ := one y _ e
          cases e2
          exact .inl ⟨by rfl, .ref a, by rfl, .raw (view_some.mpr ⟨nh, F.keep _ _ eo⟩) ec ed I⟩
        mu := fun y k e => by cases (one y _ e).2
        nd := fun y _ k _ _ e => by cases (one y _ e).2
        occ' := fun b q => by
          rcases q with (rfl | rfl | rfl) | q | ⟨y, k, e, _⟩
          · obtain ⟨o, _, _, e, d, _⟩ := F.ns
            exact ⟨o, e, .dic d⟩
          · exact ⟨_, n1.1, .ne (by simp)⟩
          · exact ⟨_, n2.1, .ne (by simp)⟩
          · cases q
          · cases (one y _ e).2
        cocc := fun _ _ e => (nomatch e)
        own := fun _ e => (nomatch e)
        glb :=
          { has := fun b hb => by
              rcases hm b hb with rfl | rfl
              · exact ⟨_, n1.1, .ne (by simp)⟩
              · exact ⟨_, n2.1, .ne (by simp)⟩
            frs := fun _ e => (nomatch e), src := fun S e => (nomatch e), tput := .inl n2.1, tlam := .inl n1.1 } }
  have R := g_law_run (G := G) (m := fun x => List.lookup x [(Str.ofString "script", Value.ref a)].reverse) rfl rfl rfl rfl (by omega) hb O ⟨hd1, hu1, rfl⟩
  refine R h₁ tk Sc Q E fun G' c' st' v q h' tk' hG hp hl' hc S' rv hq => ?_
  subst hq
  cases rv
  have grown : ∀ (M : List Addr) (k : CloK), TabSt M h' k → GrownAt k.tab h' := fun M k t => by
    rcases t with t | ⟨c1, _, _, _, t, _⟩
    · exact ⟨_, t⟩
    · exact ⟨_, t⟩
  have g1 := grown _ _ S'.glb.tlam
  have g2 := grown _ _ S'.glb.tput
  rw [hl'] at g1
  rw [hp] at g2
  have F' := S'.F
  rw [hc] at F'
  exact z h' tk' _ _ F' ⟨g1, g2, trivial⟩
end
end
open PySem PySem.W PyProof.Rows
namespace main
theorem tw16952715711813285254:True:=⟨⟩
theorem tw13590572293223372214:True:=⟨⟩
theorem tw18332899500509843999:True:=⟨⟩
theorem tw8729708805864041840:True:=⟨⟩
theorem tw16008252555379753968:True:=⟨⟩
theorem tw9561784451562097942:True:=⟨⟩
theorem tw8905464785575363620:True:=⟨⟩
theorem tw1236483940969888574:True:=⟨⟩
theorem tw9272984997812220495:True:=⟨⟩
theorem tw104360540948158410:True:=⟨⟩
theorem tw15806524323241146399:True:=⟨⟩
theorem tw9976160756891316704:True:=⟨⟩
theorem tw14061640607465278742:True:=⟨⟩
theorem tw8930851030842425676:True:=⟨⟩
theorem tw5571399437266216444:True:=⟨⟩
theorem tw3234112476842188716:True:=⟨⟩
theorem tw330327031418712150:True:=⟨⟩
theorem tw1504049600530537962:True:=⟨⟩
theorem tw6511744376749373798:True:=⟨⟩
theorem tw5372645768047454471:True:=⟨⟩
theorem tw4544244032028310869:True:=⟨⟩
theorem tw4605139254293405059:True:=⟨⟩
theorem tw9376575566392132001:True:=⟨⟩
theorem tw9483120023164983764:True:=⟨⟩
theorem tw18063282731904131703:True:=⟨⟩
theorem tw6886502059237256666:True:=⟨⟩
theorem tw11261727412033496967:True:=⟨⟩
theorem tw11785714552879321826:True:=⟨⟩
theorem tw1157997071576566072:True:=⟨⟩
theorem tw15984706205718930553:True:=⟨⟩
theorem tw9265829497004654079:True:=⟨⟩
theorem tw9508770018378322450:True:=⟨⟩
theorem tw13503263706703578961:True:=⟨⟩
theorem tw4261964983698606537:True:=⟨⟩
theorem tw16049902774474827687:True:=⟨⟩
theorem tw17272174723667511238:True:=⟨⟩
theorem tw14027531716089632829:True:=⟨⟩
theorem tw8557395850702784662:True:=⟨⟩
theorem tw17958375852430007124:True:=⟨⟩
theorem tw15595112118272840620:True:=⟨⟩
theorem tw9190990891756207365:True:=⟨⟩
theorem tw10625486282989778954:True:=⟨⟩
theorem tw6361450105264607166:True:=⟨⟩
theorem tw12922898485456448571:True:=⟨⟩
theorem tw12839114828313443825:True:=⟨⟩
theorem tw17679725944135375923:True:=⟨⟩
theorem tw3549514262204291990:True:=⟨⟩
theorem tw33456957511925785:True:=⟨⟩
theorem tw3796207824708393856:True:=⟨⟩
theorem tw10234815189450012239:True:=⟨⟩
theorem tw8467378866343419333:True:=⟨⟩
theorem tw9498315638749924794:True:=⟨⟩
theorem tw15467891735981029475:True:=⟨⟩
theorem tw6785657489111691699:True:=⟨⟩
theorem tw11544348965984651327:True:=⟨⟩
theorem tw12518504611687188807:True:=⟨⟩
theorem tw7699798408344515789:True:=⟨⟩
theorem tw2007339730380871907:True:=⟨⟩
theorem tw14439473939278146460:True:=⟨⟩
theorem tw7268301785047649679:True:=⟨⟩
theorem tw3299218664060906527:True:=⟨⟩
theorem tw2538046985915079169:True:=⟨⟩
theorem tw18421580907717582127:True:=⟨⟩
theorem tw15491723280356408159:True:=⟨⟩
theorem tw11554813239044494598:True:=⟨⟩
theorem tw12455012482086183272:True:=⟨⟩
theorem tw14161005256144132680:True:=⟨⟩
theorem tw2190695567426971638:True:=⟨⟩
theorem tw3454311308915712629:True:=⟨⟩
theorem tw4452170602077327944:True:=⟨⟩
theorem tw66260789543402106:True:=⟨⟩
theorem tw3562595001068472590:True:=⟨⟩
theorem tw4026956272090484662:True:=⟨⟩
theorem tw6801380410627298636:True:=⟨⟩
theorem tw1777545030009416734:True:=⟨⟩
theorem tw5396188567872606041:True:=⟨⟩
theorem tw5243159528196176124:True:=⟨⟩
theorem tw16480584520131690045:True:=⟨⟩
theorem tw7113585516715319716:True:=⟨⟩
theorem tw6334894449686545209:True:=⟨⟩
theorem tw5871769198996169552:True:=⟨⟩
theorem tw17450470499104002142:True:=⟨⟩
theorem tw12872379398031375081:True:=⟨⟩
theorem tw8652556701797213591:True:=⟨⟩
theorem tw12057704586751987240:True:=⟨⟩
theorem tw7237411587787531456:True:=⟨⟩
theorem tw9670510015898674028:True:=⟨⟩
theorem tw2524017781993486291:True:=⟨⟩
theorem tw10177057350305019805:True:=⟨⟩
theorem tw16965079339398995527:True:=⟨⟩
theorem tw8466321980469482115:True:=⟨⟩
theorem tw8228058824784995430:True:=⟨⟩
theorem tw12298629886278197574:True:=⟨⟩
theorem tw2729793432009153956:True:=⟨⟩
theorem tw17510229520200029679:True:=⟨⟩
theorem tw15465920861327815835:True:=⟨⟩
theorem tw11003572833241299968:True:=⟨⟩
theorem tw2852251193174398662:True:=⟨⟩
theorem tw8947760058931562597:True:=⟨⟩
theorem tw6385024630547198690:True:=⟨⟩
theorem tw16193401482309157537:True:=⟨⟩
theorem tw15734200111481486640:True:=⟨⟩
theorem tw15079240505294077160:True:=⟨⟩
theorem tw13402765919934010277:True:=⟨⟩
theorem tw11710404883906591787:True:=⟨⟩
theorem tw10391951854915411234:True:=⟨⟩
theorem tw14722489848711283861:True:=⟨⟩
theorem tw9274054859765456524:True:=⟨⟩
theorem tw4324958949535026087:True:=⟨⟩
theorem tw13777938177461255882:True:=⟨⟩
theorem tw1439166485080882:True:=⟨⟩
theorem tw6660377722381337597:True:=⟨⟩
theorem tw2921621734765799159:True:=⟨⟩
theorem tw9069182735580402390:True:=⟨⟩
theorem tw17462418898991402826:True:=⟨⟩
theorem tw10896356407431480244:True:=⟨⟩
theorem tw4333880214566435006:True:=⟨⟩
theorem tw3466206800631347469:True:=⟨⟩
theorem tw17236958762192778904:True:=⟨⟩
theorem tw1826329307503635854:True:=⟨⟩
theorem tw16187894506366716058:True:=⟨⟩
theorem tw11752208632293872130:True:=⟨⟩
theorem tw2583023086579268501:True:=⟨⟩
theorem tw17292155258170135553:True:=⟨⟩
theorem tw9925469786538053656:True:=⟨⟩
theorem tw16832360635688203351:True:=⟨⟩
theorem tw15803610866087392283:True:=⟨⟩
theorem tw4775608329324902142:True:=⟨⟩
theorem tw6162249291895867263:True:=⟨⟩
theorem tw2238316416991798583:True:=⟨⟩
theorem tw15624239662980076321:True:=⟨⟩
theorem tw1099256609624015869:True:=⟨⟩
theorem tw10877679251791092727:True:=⟨⟩
theorem tw6696893160125735727:True:=⟨⟩
theorem tw1270039299266317192:True:=⟨⟩
theorem tw13724616953566380437:True:=⟨⟩
theorem tw6877560268529008848:True:=⟨⟩
theorem tw5102693214775723256:True:=⟨⟩
theorem tw3557749057250611081:True:=⟨⟩
theorem tw13693970394777133609:True:=⟨⟩
theorem tw1306636233014830658:True:=⟨⟩
theorem tw52199770228462824:True:=⟨⟩
theorem tw15737690656516749961:True:=⟨⟩
theorem tw15017983477296125989:True:=⟨⟩
theorem tw14759895335926876869:True:=⟨⟩
theorem tw3895269109785688166:True:=⟨⟩
theorem tw11156056980113079860:True:=⟨⟩
theorem tw9291868230625655718:True:=⟨⟩
theorem tw16826212616301561204:True:=⟨⟩
theorem tw17746312530584657310:True:=⟨⟩
theorem tw17072948054180375157:True:=⟨⟩
theorem tw11536415461529073906:True:=⟨⟩
theorem tw7305734831934611935:True:=⟨⟩
theorem tw8969516679715200132:True:=⟨⟩
theorem tw7498016965555768351:True:=⟨⟩
theorem tw11671088710105625516:True:=⟨⟩
theorem tw10792193633378309170:True:=⟨⟩
theorem tw9381682351294752495:True:=⟨⟩
theorem tw8785732689226369382:True:=⟨⟩
theorem tw2961873367106011192:True:=⟨⟩
theorem tw10114013102757674387:True:=⟨⟩
theorem tw2566753976717531306:True:=⟨⟩
theorem tw10444660934056057700:True:=⟨⟩
theorem tw6053611964639427726:True:=⟨⟩
theorem tw6112859857366181021:True:=⟨⟩
theorem tw6910295442248876197:True:=⟨⟩
theorem tw2406621943657119228:True:=⟨⟩
theorem tw10825838108423173272:True:=⟨⟩
theorem tw1587290215689348708:True:=⟨⟩
theorem tw9391614825396419720:True:=⟨⟩
theorem tw12361340156312767134:True:=⟨⟩
theorem tw12205347405646519318:True:=⟨⟩
theorem tw15643365686152983790:True:=⟨⟩
theorem tw18190005008629794160:True:=⟨⟩
theorem tw15270170921892066516:True:=⟨⟩
theorem tw2724176850512262202:True:=⟨⟩
theorem tw14106445559736802775:True:=⟨⟩
theorem tw15109750227778091905:True:=⟨⟩
theorem tw1524199478861865191:True:=⟨⟩
theorem tw14907226015203709474:True:=⟨⟩
theorem tw18403998269306519403:True:=⟨⟩
theorem tw1714950047550659301:True:=⟨⟩
theorem tw2287757881348798766:True:=⟨⟩
theorem tw7186131708394509389:True:=⟨⟩
theorem tw3137596982192898869:True:=⟨⟩
theorem tw2433702464844828792:True:=⟨⟩
theorem tw18431692314602308842:True:=⟨⟩
theorem tw6075091234017535682:True:=⟨⟩
theorem tw17402982504261768225:True:=⟨⟩
theorem tw1615956725737779560:True:=⟨⟩
theorem tw17052023290607921161:True:=⟨⟩
theorem tw17297283025540448806:True:=⟨⟩
theorem tw16572128252103988241:True:=⟨⟩
theorem tw16922381011570985944:True:=⟨⟩
theorem tw6222487380544312443:True:=⟨⟩
theorem tw221546546901971840:True:=⟨⟩
theorem tw9848185148710128376:True:=⟨⟩
theorem tw11101190512080308003:True:=⟨⟩
theorem tw12431561837914552411:True:=⟨⟩
theorem tw13642826006792871662:True:=⟨⟩
theorem tw9302470337196694018:True:=⟨⟩
theorem tw16923884221124529275:True:=⟨⟩
theorem tw17091655785135471103:True:=⟨⟩
theorem tw8440099810896429113:True:=⟨⟩
theorem tw10707853282979444102:True:=⟨⟩
theorem tw11595355409239048105:True:=⟨⟩
theorem tw765107192605250810:True:=⟨⟩
theorem tw17336282652733537790:True:=⟨⟩
theorem tw4500915450034043215:True:=⟨⟩
theorem tw15291350002106194427:True:=⟨⟩
theorem tw10094358506670053839:True:=⟨⟩
theorem tw15972721012048371443:True:=⟨⟩
theorem tw7293298908176781663:True:=⟨⟩
theorem tw9268297945177815525:True:=⟨⟩
theorem tw2759098988195820126:True:=⟨⟩
theorem tw496104068507293265:True:=⟨⟩
theorem tw16798622893749714585:True:=⟨⟩
theorem tw12927740378394474205:True:=⟨⟩
theorem tw10159738436595150677:True:=⟨⟩
theorem tw3779293765908593550:True:=⟨⟩
theorem tw13876859957761632879:True:=⟨⟩
theorem tw2629084897520917108:True:=⟨⟩
theorem tw4681395471914393968:True:=⟨⟩
theorem tw4039676971129161736:True:=⟨⟩
theorem tw2647654807098235363:True:=⟨⟩
theorem tw15554039934745177238:True:=⟨⟩
theorem tw16320729459185622934:True:=⟨⟩
theorem tw15365013842991253249:True:=⟨⟩
theorem tw10450603732522932521:True:=⟨⟩
theorem tw10140136200207757160:True:=⟨⟩
theorem tw12885673836220544336:True:=⟨⟩
theorem tw3045742163950154196:True:=⟨⟩
theorem tw750237026923860459:True:=⟨⟩
theorem tw12431731261707249289:True:=⟨⟩
theorem tw4458048076830672230:True:=⟨⟩
theorem tw12273490649430754879:True:=⟨⟩
theorem tw16629339528299215175:True:=⟨⟩
theorem tw832900586485598795:True:=⟨⟩
theorem tw4990475226369331113:True:=⟨⟩
theorem tw14788915703135433725:True:=⟨⟩
theorem tw3627144658338631552:True:=⟨⟩
theorem tw12830023432997658123:True:=⟨⟩
theorem tw2496676261509829067:True:=⟨⟩
theorem tw18284262389922463811:True:=⟨⟩
theorem tw16656740534632174751:True:=⟨⟩
theorem tw7173623326730630234:True:=⟨⟩
theorem tw1277820614484962519:True:=⟨⟩
theorem tw11646826074482590764:True:=⟨⟩
theorem tw3829396358689915599:True:=⟨⟩
theorem tw6044114016751833949:True:=⟨⟩
theorem tw18302796317244248524:True:=⟨⟩
theorem tw2195194259037543316:True:=⟨⟩
theorem tw13962693860625380366:True:=⟨⟩
theorem tw31828345220925962:True:=⟨⟩
theorem tw17737603089517620647:True:=⟨⟩
theorem tw9155575984036265788:True:=⟨⟩
theorem tw12343854547171428336:True:=⟨⟩
theorem tw834873547066669988:True:=⟨⟩
theorem tw6862492499505807319:True:=⟨⟩
theorem tw10642606787283503386:True:=⟨⟩
theorem tw8663697691656813868:True:=⟨⟩
theorem tw14539993770535171780:True:=⟨⟩
theorem tw4900431672193113347:True:=⟨⟩
theorem tw11181722664286889309:True:=⟨⟩
theorem tw9682133043923132273:True:=⟨⟩
theorem tw5995161000843957690:True:=⟨⟩
theorem tw16035907590883218939:True:=⟨⟩
end main
set_option Elab.async true in
theorem main : PySem.Challenge.rw_xw0165_01.Holds := by
  w_on
  o_law
  k_head
  (case hw => w_witness2)
  k_go0
  refine g_law_join (by assumption) (by assumption) (by assumption) (by assumption) (by assumption) (by assumption) (by omega) (lay_log (by assumption)) ⟨_, _, _, rfl, by decide, by decide⟩ ?_
  intro h' tk' L' m' F' g
  refine ⟨goodW_bool F' (by assumption) (raisesW_false fun _ h => (nomatch h)) (postW_of (X := true) (by rfl) (by show WTm.value _ (WTm.eq .res (.lit (.bool true))) _ = _; simp [WTm.value, PySem.W.same]) rfl), g⟩
end Mine
theorem PySem.Challenge.cw_xw0165_01_holds : PySem.Challenge.rw_xw0165_01.Holds :=
  Mine.main
