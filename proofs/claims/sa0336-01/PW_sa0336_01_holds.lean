import PyProof.Rows.All
import Wide.All
import OpenK.AllK
import Wide.FinOn
import KE.KBits
import PySem.Challenge.RW_sa0336_01
set_option Elab.async false
set_option maxRecDepth 100000
set_option linter.unusedVariables false
set_option linter.unusedSimpArgs false
set_option genSizeOf false
set_option compiler.extract_closed false
namespace Mine
open PySem PySem.W PySem.Calls PySem.Spec PyProof.Rows

/-! the scripts of parameters that are found -/
def seqS (xs : Array Lean.Syntax) : Lean.Syntax := .node .none ``Lean.Parser.Tactic.tacticSeq #[.node .none ``Lean.Parser.Tactic.tacticSeq1Indented #[.node .none `null xs]]
def rflT : Lean.Syntax := .node .none ``Lean.Parser.Tactic.tacticRfl #[.atom .none "rfl"]
def holeT : Lean.Syntax := .node .none ``Lean.Parser.Term.hole #[.atom .none "_"]
def introT (xs : Array Lean.Syntax) : Lean.Syntax := .node .none ``Lean.Parser.Tactic.intro #[.atom .none "intro", .node .none `null xs]
def rflS : Lean.Syntax := seqS #[rflT]
def introS : Lean.Syntax := seqS #[introT #[holeT], .atom .none ";", rflT]
def intro2S : Lean.Syntax := seqS #[introT #[holeT, holeT], .atom .none ";", rflT]
def wuaS : Lean.Syntax := seqS #[.node .none ``Lean.Parser.Tactic.withUnfoldingAll #[.atom .none "with_unfolding_all", seqS #[rflT]]]
def exactS : Lean.Syntax := seqS #[.node .none ``Lean.Parser.Tactic.exact #[.atom .none "exact", .ident .none "rfl".toRawSubstring `rfl []]]


/-- abstract values: ints without their tokens, objects by handle -/
inductive AV where
  | none
  | bool (b : Bool)
  | int (i : Int)
  | str (x : Str)
  | obj (h : Nat)
  | val (v : Value)

theorem noSome {α : Type} {x : Option α} {o : α} {P : Prop} (h : x = none) (e : x = some o) : P := absurd (h.symm.trans e) (by simp)
theorem ss {α : Type} {z : Option α} {x y : α} (h : z = some x) (k : z = some y) : x = y := Option.some.inj (h.symm.trans k)
theorem gl {α : Type} {r : List α} {i : Nat} {a : α} (e : r[i]? = some a) : i < r.length := (List.getElem?_eq_some_iff.mp e).1

noncomputable def VR (r : List Addr) (v : AV) (u : Value) : Prop := match v with
  | .none => u = .none
  | .bool b => u = .bool b
  | .int i => ∃ t, u = .int i t
  | .str x => ∃ t, u = .str x t
  | .obj h => ∃ a, r[h]? = some a ∧ u = .ref a
  | .val w => u = w
theorem VR.none {r : List Addr} : VR r .none .none := rfl
theorem VR.bool {r : List Addr} (b : Bool) : VR r (.bool b) (.bool b) := rfl
theorem VR.int {r : List Addr} (i : Int) (t : Tok) : VR r (.int i) (.int i t) := ⟨t, rfl⟩
theorem VR.str {r : List Addr} (x : Str) (t : Tok) : VR r (.str x) (.str x t) := ⟨t, rfl⟩
theorem VR.obj {r : List Addr} (h : Nat) (a : Addr) (e : r[h]? = some a) : VR r (.obj h) (.ref a) := ⟨a, e, rfl⟩
theorem VR.val {r : List Addr} (v : Value) : VR r (.val v) v := rfl

noncomputable def VRs (r : List Addr) : List AV → List Value → Prop
  | [], us => us = []
  | v :: vs, us => ∃ u t, us = u :: t ∧ VR r v u ∧ VRs r vs t
theorem VRs.nil {r : List Addr} : VRs r [] [] := rfl
theorem VRs.cons {r : List Addr} {v : AV} {u : Value} {vs : List AV} {us : List Value} (h : VR r v u) (t : VRs r vs us) : VRs r (v :: vs) (u :: us) := ⟨u, us, rfl, h, t⟩

structure FnS where
  name : Str
  qual : Str
  params : Arguments
  body : List Stmt
  scope : Scope
  pm : Value

/-- one abstract object, one address -/
inductive AO where
  | list (xs : List AV)
  | tup (xs : List AV)
  | cell (v : Option AV)
  | fixed (o : Obj)
  | inst (C : Addr) (d : Nat)
  | ndict (ks : List Str) (xs : List AV)
  | idict (es : List (Int × AV))
  | code (qual : Str)
  | clo (S : FnS) (ci : Nat) (cs : List (Str × Nat))
  | tab

noncomputable def isPre (r r' : List Addr) : Prop := ∃ t, r' = r ++ t
theorem isPre.refl (r : List Addr) : isPre r r := ⟨[], (List.append_nil r).symm⟩
theorem isPre.trans {a b c : List Addr} (x : isPre a b) (y : isPre b c) : isPre a c := by
  obtain ⟨t, rfl⟩ := x; obtain ⟨u, rfl⟩ := y; exact ⟨t ++ u, List.append_assoc ..⟩
theorem isPre.get {r r' : List Addr} (x : isPre r r') {i : Nat} {a : Addr} (h : r[i]? = some a) : r'[i]? = some a := by
  obtain ⟨t, rfl⟩ := x
  exact (List.getElem?_append_left (gl h)).trans h
theorem isPre.mem {r r' : List Addr} (x : isPre r r') {a : Addr} (h : a ∈ r) : a ∈ r' := by
  obtain ⟨t, rfl⟩ := x; exact List.mem_append_left _ h

/-! what speaks of handles below n alone; moved from r to r' -/
noncomputable def LowV (n : Nat) (v : AV) : Prop := match v with
  | .obj h => h < n
  | _ => True
noncomputable def Mv (n : Nat) (r r' : List Addr) : Prop := ∀ (h : Nat) (x : Addr), h < n → r[h]? = some x → r'[h]? = some x
section
variable {n : Nat} {r r' : List Addr}
theorem VR.low {v : AV} {u : Value} (k : VR r v u) : LowV r.length v := by
  cases v with
  | obj h => obtain ⟨a, e, _⟩ := k; exact gl e
  | _ => trivial
theorem VR.to {v : AV} {u : Value} (m : Mv n r r') (l : LowV n v) (k : VR r v u) : VR r' v u := by
  cases v with
  | obj h => obtain ⟨a, e, q⟩ := k; exact ⟨a, m h a l e, q⟩
  | _ => exact k
theorem VRs.low {vs : List AV} {us : List Value} (k : VRs r vs us) : ∀ v ∈ vs, LowV r.length v := by
  induction vs generalizing us with
  | nil => exact fun _ h => nomatch h
  | cons v vs ih =>
    obtain ⟨u, t, _, p, q⟩ := k
    exact List.forall_mem_cons.mpr ⟨p.low, ih q⟩
theorem VRs.to {vs : List AV} {us : List Value} (m : Mv n r r') (l : ∀ v ∈ vs, LowV n v) (k : VRs r vs us) : VRs r' vs us := by
  induction vs generalizing us with
  | nil => exact k
  | cons v vs ih =>
    obtain ⟨u, t, e, p, q⟩ := k
    have l := List.forall_mem_cons.mp l
    exact ⟨u, t, e, p.to m l.1, ih l.2 q⟩
theorem isPre.mv (x : isPre r r') : Mv n r r' := fun _ _ _ e => x.get e
theorem VR.mono (x : isPre r r') {v : AV} {u : Value} (h : VR r v u) : VR r' v u := h.to x.mv h.low
theorem VRs.mono (x : isPre r r') {vs : List AV} {us : List Value} (h : VRs r vs us) : VRs r' vs us := h.to x.mv h.low
theorem VRs.length {vs : List AV} {us : List Value} (k : VRs r vs us) : us.length = vs.length := by
  induction vs generalizing us with
  | nil => exact congrArg List.length k
  | cons v vs ih => obtain ⟨u, t, rfl, _, q⟩ := k; exact congrArg (· + 1) (ih q)
theorem VRs.get {vs : List AV} {us : List Value} (k : VRs r vs us) {i : Nat} {v : AV} (h : vs[i]? = some v) : ∃ u, us[i]? = some u ∧ VR r v u := by
  induction vs generalizing us i with
  | nil => exact noSome rfl h
  | cons w vs ih =>
    obtain ⟨u, t, rfl, p, q⟩ := k
    cases i with
    | zero => obtain rfl : w = v := Option.some.inj h; exact ⟨u, rfl, p⟩
    | succ i => exact ih q h
theorem VRs.append {vs ws : List AV} {us xs : List Value} (k : VRs r vs us) (l : VRs r ws xs) : VRs r (vs ++ ws) (us ++ xs) := by
  induction vs generalizing us with
  | nil => obtain rfl : us = [] := k; exact l
  | cons v vs ih => obtain ⟨u, t, rfl, p, q⟩ := k; exact .cons p (ih q)
theorem VRs.set {v : AV} {u : Value} (h : VR r v u) {vs : List AV} {us : List Value} (k : VRs r vs us) (i : Nat) : VRs r (vs.set i v) (us.set i u) := by
  induction vs generalizing us i with
  | nil => obtain rfl : us = [] := k; exact .nil
  | cons w vs ih =>
    obtain ⟨x, t, rfl, p, q⟩ := k
    cases i with
    | zero => exact .cons h q
    | succ i => exact .cons p (ih q i)
theorem VRs.drop {vs : List AV} {us : List Value} (k : VRs r vs us) (i : Nat) : VRs r (vs.drop i) (us.drop i) := by
  induction vs generalizing us i with
  | nil => obtain rfl : us = [] := k; cases i <;> exact .nil
  | cons w vs ih =>
    obtain ⟨x, t, rfl, p, q⟩ := k
    cases i with
    | zero => exact .cons p q
    | succ i => exact ih q i
theorem VRs.take {vs : List AV} {us : List Value} (k : VRs r vs us) (i : Nat) : VRs r (vs.take i) (us.take i) := by
  induction vs generalizing us i with
  | nil => obtain rfl : us = [] := k; cases i <;> exact .nil
  | cons w vs ih =>
    obtain ⟨x, t, rfl, p, q⟩ := k
    cases i with
    | zero => exact .nil
    | succ i => exact .cons p (ih q i)

/-- a cut of entries for names -/
noncomputable def NR (r : List Addr) (hash : Str → Int) : List Str → List AV → List DictEntry → Prop
  | [], vs, es => vs = [] ∧ es = []
  | k :: ks, vs, es => ∃ v ws t u fs, vs = v :: ws ∧ es = ⟨hash k, .str k t, u⟩ :: fs ∧ VR r v u ∧ NR r hash ks ws fs
theorem NR.nil {hash : Str → Int} : NR r hash [] [] [] := ⟨rfl, rfl⟩
theorem NR.cons {hash : Str → Int} {k : Str} {v : AV} {t : Tok} {u : Value} {ks : List Str} {vs : List AV} {es : List DictEntry} (h : VR r v u) (n : NR r hash ks vs es) : NR r hash (k :: ks) (v :: vs) (⟨hash k, .str k t, u⟩ :: es) := ⟨v, vs, t, u, es, rfl, rfl, h, n⟩
theorem NR.low {hash : Str → Int} {ks : List Str} {vs : List AV} {es : List DictEntry} (k : NR r hash ks vs es) : ∀ v ∈ vs, LowV r.length v := by
  induction ks generalizing vs es with
  | nil => rw [k.1]; exact fun _ h => nomatch h
  | cons x ks ih => obtain ⟨v, ws, t, u, fs, rfl, _, p, q⟩ := k; exact List.forall_mem_cons.mpr ⟨p.low, ih q⟩
theorem NR.to {hash : Str → Int} {ks : List Str} {vs : List AV} {es : List DictEntry} (m : Mv n r r') (l : ∀ v ∈ vs, LowV n v) (k : NR r hash ks vs es) : NR r' hash ks vs es := by
  induction ks generalizing vs es with
  | nil => exact k
  | cons x ks ih =>
    obtain ⟨v, ws, t, u, fs, rfl, e, p, q⟩ := k
    have l := List.forall_mem_cons.mp l
    exact ⟨v, ws, t, u, fs, rfl, e, p.to m l.1, ih l.2 q⟩

noncomputable def DR (r : List Addr) : List (Int × AV) → List (Int × Value) → Prop
  | [], us => us = []
  | p :: vs, us => ∃ u t, us = (p.1, u) :: t ∧ VR r p.2 u ∧ DR r vs t
theorem DR.nil : DR r [] [] := rfl
theorem DR.cons {k : Int} {v : AV} {u : Value} {vs : List (Int × AV)} {us : List (Int × Value)} (h : VR r v u) (t : DR r vs us) : DR r ((k, v) :: vs) ((k, u) :: us) := ⟨u, us, rfl, h, t⟩
theorem DR.low {vs : List (Int × AV)} {us : List (Int × Value)} (k : DR r vs us) : ∀ p ∈ vs, LowV r.length p.2 := by
  induction vs generalizing us with
  | nil => exact fun _ h => nomatch h
  | cons v vs ih => obtain ⟨u, t, _, p, q⟩ := k; exact List.forall_mem_cons.mpr ⟨p.low, ih q⟩
theorem DR.to {vs : List (Int × AV)} {us : List (Int × Value)} (m : Mv n r r') (l : ∀ p ∈ vs, LowV n p.2) (k : DR r vs us) : DR r' vs us := by
  induction vs generalizing us with
  | nil => exact k
  | cons v vs ih =>
    obtain ⟨u, t, e, p, q⟩ := k
    have l := List.forall_mem_cons.mp l
    exact ⟨u, t, e, p.to m l.1, ih l.2 q⟩

noncomputable def PR (r : List Addr) : List (Str × Nat) → List (Str × Addr) → Prop
  | [], as => as = []
  | p :: cs, as => ∃ c t, as = (p.1, c) :: t ∧ r[p.2]? = some c ∧ PR r cs t
theorem PR.nil : PR r [] [] := rfl
theorem PR.cons {x : Str} {i : Nat} {c : Addr} {cs : List (Str × Nat)} {as : List (Str × Addr)} (e : r[i]? = some c) (t : PR r cs as) : PR r ((x, i) :: cs) ((x, c) :: as) := ⟨c, as, rfl, e, t⟩
theorem PR.low {vs : List (Str × Nat)} {us : List (Str × Addr)} (k : PR r vs us) : ∀ p ∈ vs, p.2 < r.length := by
  induction vs generalizing us with
  | nil => exact fun _ h => nomatch h
  | cons v vs ih => obtain ⟨u, t, _, p, q⟩ := k; exact List.forall_mem_cons.mpr ⟨gl p, ih q⟩
theorem PR.to {vs : List (Str × Nat)} {us : List (Str × Addr)} (m : Mv n r r') (l : ∀ p ∈ vs, p.2 < n) (k : PR r vs us) : PR r' vs us := by
  induction vs generalizing us with
  | nil => exact k
  | cons v vs ih =>
    obtain ⟨u, t, e, p, q⟩ := k
    have l := List.forall_mem_cons.mp l
    exact ⟨u, t, e, m _ _ l.1 p, ih l.2 q⟩
theorem PR.mono (x : isPre r r') {vs : List (Str × Nat)} {us : List (Str × Addr)} (h : PR r vs us) : PR r' vs us := h.to x.mv h.low
end

/-- the program-wide facts -/
structure Cx where
  prog : Program
  w : World
  base : Heap
  mg : Str → Option Value
  mb : Str → Option Value
  K : Frag
  hg : base.Ns mainGlobals mg
  hb : base.Ns builtinsNs mb
  hlim : base.NoLimit
  hK : K.In base

noncomputable def OR (C : Cx) (r : List Addr) (v : AO) (o : Obj) : Prop := match v with
  | .list xs => ∃ us n, o = listOf us.toArray n ∧ VRs r xs us ∧ xs.length ≤ sizeLine
  | .tup xs => ∃ us, o = { cls := .type "tuple", data := .seq us.toArray } ∧ VRs r xs us
  | .cell none => o.data = .cell none
  | .cell (some v) => ∃ u, o.data = .cell (some u) ∧ VR r v u
  | .fixed o' => o = o'
  | .inst K d => ∃ a, r[d]? = some a ∧ o = instObj K a
  | .ndict ks xs => ∃ es n, NR r (PyData.keyHash C.w.params) ks xs es ∧ o = dictOf es n
  | .idict es => ∃ us, DR r es us ∧ o.IsDictOf (intKind C.prog C.w) us
  | .code qual => ∃ vs t, o.data = .fields vs ∧ vs[1]? = some (.str qual t)
  | .clo S ci cs => ∃ c as doc ctv, r[ci]? = some c ∧ PR r cs as ∧ o = fnMade S.name S.qual S.params S.body S.scope as doc S.pm c ctv
  | .tab => ∃ ps, o = tabObj ps
noncomputable def LowO (n : Nat) (v : AO) : Prop := match v with
  | .list xs => ∀ v ∈ xs, LowV n v
  | .tup xs => ∀ v ∈ xs, LowV n v
  | .cell (some v) => LowV n v
  | .inst _ d => d < n
  | .ndict _ xs => ∀ v ∈ xs, LowV n v
  | .idict es => ∀ p ∈ es, LowV n p.2
  | .clo _ ci cs => ci < n ∧ ∀ p ∈ cs, p.2 < n
  | _ => True
section
variable {C : Cx} {r r' : List Addr}
theorem OR.list (xs : List AV) (us : List Value) (n : Nat) (h : VRs r xs us) (b : xs.length ≤ sizeLine) : OR C r (.list xs) (listOf us.toArray n) := ⟨us, n, rfl, h, b⟩
theorem OR.tup (xs : List AV) (us : List Value) (h : VRs r xs us) : OR C r (.tup xs) { cls := .type "tuple", data := .seq us.toArray } := ⟨us, rfl, h⟩
theorem OR.cellN (o : Obj) (h : o.data = .cell none) : OR C r (.cell none) o := h
theorem OR.cellS (o : Obj) (v : AV) (u : Value) (h : o.data = .cell (some u)) (k : VR r v u) : OR C r (.cell (some v)) o := ⟨u, h, k⟩
theorem OR.inst (K : Addr) (d : Nat) (a : Addr) (h : r[d]? = some a) : OR C r (.inst K d) (instObj K a) := ⟨a, h, rfl⟩
theorem OR.ndict (ks : List Str) (xs : List AV) (es : List DictEntry) (n : Nat) (h : NR r (PyData.keyHash C.w.params) ks xs es) : OR C r (.ndict ks xs) (dictOf es n) := ⟨es, n, h, rfl⟩
theorem OR.idict (es : List (Int × AV)) (us : List (Int × Value)) (o : Obj) (h : DR r es us) (k : o.IsDictOf (intKind C.prog C.w) us) : OR C r (.idict es) o := ⟨us, h, k⟩
theorem OR.code (qual : Str) (o : Obj) (vs : Array Value) (t : Tok) (h : o.data = .fields vs) (k : vs[1]? = some (.str qual t)) : OR C r (.code qual) o := ⟨vs, t, h, k⟩
theorem OR.clo (S : FnS) (ci : Nat) (cs : List (Str × Nat)) (c : Addr) (as : List (Str × Addr)) (doc ctv : Value) (h : r[ci]? = some c) (k : PR r cs as) : OR C r (.clo S ci cs) (fnMade S.name S.qual S.params S.body S.scope as doc S.pm c ctv) := ⟨c, as, doc, ctv, h, k, rfl⟩
theorem OR.low {a : AO} {o : Obj} (k : OR C r a o) : LowO r.length a := by
  cases a with
  | list => obtain ⟨_, _, _, k, _⟩ := k; exact k.low
  | tup => obtain ⟨_, _, k⟩ := k; exact k.low
  | cell v => cases v with
    | none => trivial
    | some v => obtain ⟨_, _, k⟩ := k; exact k.low
  | inst => obtain ⟨_, k, _⟩ := k; exact gl k
  | ndict => obtain ⟨_, _, k, _⟩ := k; exact k.low
  | idict => obtain ⟨_, k, _⟩ := k; exact k.low
  | clo => obtain ⟨_, _, _, _, h, k, _⟩ := k; exact ⟨gl h, k.low⟩
  | _ => trivial
theorem OR.to {n : Nat} {a : AO} {o : Obj} (m : Mv n r r') (l : LowO n a) (k : OR C r a o) : OR C r' a o := by
  cases a with
  | list => obtain ⟨us, n, e, k, b⟩ := k; exact ⟨us, n, e, k.to m l, b⟩
  | tup => obtain ⟨us, e, k⟩ := k; exact ⟨us, e, k.to m l⟩
  | cell v => cases v with
    | none => exact k
    | some v => obtain ⟨u, e, k⟩ := k; exact ⟨u, e, k.to m l⟩
  | inst => obtain ⟨a, h, e⟩ := k; exact ⟨a, m _ _ l h, e⟩
  | ndict => obtain ⟨es, n, k, e⟩ := k; exact ⟨es, n, k.to m l, e⟩
  | idict => obtain ⟨us, k, e⟩ := k; exact ⟨us, k.to m l, e⟩
  | clo => obtain ⟨c, as, doc, ctv, h, k, e⟩ := k; exact ⟨c, as, doc, ctv, m _ _ l.1 h, k.to m l.2, e⟩
  | _ => exact k
theorem OR.mono (x : isPre r r') {a : AO} {o : Obj} (h : OR C r a o) : OR C r' a o := h.to x.mv h.low
end

/-- the heap part of the state -/
structure Hp (C : Cx) (r : List Addr) (H : List AO) (h : Heap) : Prop where
  keep : ∀ b o, C.base.get? b = some o → h.get? b = some o
  off : ∀ x ∈ r, C.base.get? x = none
  nd : r.Nodup
  len : r.length = H.length
  lo : ∀ x ∈ r, sysModules < x
  obj : ∀ (i : Nat) (ao : AO), H[i]? = some ao → ∃ x o, r[i]? = some x ∧ h.get? x = some o ∧ OR C r ao o

structure Act where
  env : Env
  T : List Str
  G : List (Str × Value)
  ch : List (Str × Nat)

structure Act.Ok (C : Cx) (a : Act) : Prop where
  kind : a.env.scope.kind = .function
  glob : a.env.globals = mainGlobals
  blt : a.env.builtins = builtinsNs
  loc : ∀ x ∈ a.T, a.env.kindOf x = some .local
  nd : a.T.Nodup
  dbg : ∀ x ∈ a.T, (x == ("__debug__" : Str)) = false
  gl : ∀ x v, (x, v) ∈ a.G → a.env.kindOf x = some .globalImplicit ∧ (x == ("__debug__" : Str)) = false ∧ (C.mg x = some v ∨ (C.mg x = none ∧ C.mb x = some v))
  cl : ∀ x i, (x, i) ∈ a.ch → (x == ("__debug__" : Str)) = false ∧ (a.env.kindOf x = some .cell ∨ (a.env.kindOf x = some .free ∧ (x == ("__classdict__" : Str)) = false))

/-- the names that are told stand in the namespace at L -/
noncomputable def NsR (T : List Str) (r : List Addr) (F : List (Option AV)) (h : Heap) (L : Addr) : Prop := ∃ m, h.Ns L m ∧ ∀ (i : Nat) (x : Str) (v : AV), T[i]? = some x → F[i]? = some (some v) → ∃ u, m x = some u ∧ VR r v u
structure St (C : Cx) (a : Act) (r : List Addr) (F : List (Option AV)) (H : List AO) (h : Heap) : Prop where
  hp : Hp C r H h
  ok : a.Ok C
  offL : C.base.get? a.env.locals = none
  nL : a.env.locals ∉ r
  ns : NsR a.T r F h a.env.locals
  cells : ∀ x i, (x, i) ∈ a.ch → ∃ c, a.env.cells.lookup x = some c ∧ r[i]? = some c

structure Ext (L : Option Addr) (r : List Addr) (h : Heap) (r' : List Addr) (h' : Heap) : Prop where
  pre : isPre r r'
  keep : ∀ b o, h.get? b = some o → b ∉ r → some b ≠ L → h'.get? b = some o
  live : ∀ b o, h.get? b = some o → ∃ o', h'.get? b = some o'
  fresh : ∀ x ∈ r', x ∈ r ∨ h.get? x = none

theorem none_back {h h' : Heap} (live : ∀ b o, h.get? b = some o → ∃ o', h'.get? b = some o') {x : Addr} (e : h'.get? x = none) : h.get? x = none := by
  cases q : h.get? x with
  | none => rfl
  | some o => obtain ⟨o', e'⟩ := live x o q; exact noSome e e'
theorem not_in {r r' : List Addr} {h : Heap} (fresh : ∀ x ∈ r', x ∈ r ∨ h.get? x = none) {b : Addr} {o : Obj} (e : h.get? b = some o) (hb : b ∉ r) : b ∉ r' := fun q => (fresh b q).elim hb fun q => noSome q e
theorem fresh_trans {r r' r'' : List Addr} {h h' : Heap} (live : ∀ b o, h.get? b = some o → ∃ o', h'.get? b = some o') (f : ∀ x ∈ r', x ∈ r ∨ h.get? x = none) (g : ∀ x ∈ r'', x ∈ r' ∨ h'.get? x = none) : ∀ x ∈ r'', x ∈ r ∨ h.get? x = none :=
  fun z hz => (g z hz).elim (f z) fun q => .inr (none_back live q)
theorem live_trans {h h' h'' : Heap} (a : ∀ b o, h.get? b = some o → ∃ o', h'.get? b = some o') (c : ∀ b o, h'.get? b = some o → ∃ o', h''.get? b = some o') : ∀ b o, h.get? b = some o → ∃ o', h''.get? b = some o' := fun b o e => let ⟨o', e'⟩ := a b o e; c b o' e'

theorem Ext.refl (L : Option Addr) (r : List Addr) (h : Heap) : Ext L r h r h :=
  ⟨isPre.refl r, fun _ _ e _ _ => e, fun _ o e => ⟨o, e⟩, fun _ e => .inl e⟩
theorem Ext.trans {L : Option Addr} {r r' r'' : List Addr} {h h' h'' : Heap} (x : Ext L r h r' h') (y : Ext L r' h' r'' h'') : Ext L r h r'' h'' :=
  ⟨x.pre.trans y.pre, fun b o e hb hL => y.keep b o (x.keep b o e hb hL) (not_in x.fresh e hb) hL, live_trans x.live y.live, fresh_trans x.live x.fresh y.fresh⟩
theorem Ext.ofNone {L : Option Addr} {r r' : List Addr} {h h' : Heap} (x : Ext none r h r' h') : Ext L r h r' h' :=
  ⟨x.pre, fun b o e hb _ => x.keep b o e hb nofun, x.live, x.fresh⟩

theorem get?_size_none (h : Heap) : h.get? h.objs.size = none := by
  cases e : h.get? h.objs.size with
  | none => rfl
  | some o => exact absurd (Heap.lt_size e) (Nat.lt_irrefl _)

theorem NsR.keeps {T : List Str} {r r' : List Addr} {F : List (Option AV)} {h h' : Heap} {L : Addr} (s : NsR T r F h L) (x : isPre r r') (k : ∀ o, h.get? L = some o → h'.get? L = some o) : NsR T r' F h' L :=
  let ⟨m, ⟨o, es, ep, ho, q⟩, hm⟩ := s
  ⟨m, ⟨o, es, ep, k o ho, q⟩, fun i y v h1 h2 => let ⟨u, e, k⟩ := hm i y v h1 h2; ⟨u, e, k.mono x⟩⟩
theorem NsR.here {T : List Str} {r : List Addr} {F : List (Option AV)} {h : Heap} {L : Addr} (s : NsR T r F h L) : ∃ o, h.get? L = some o := let ⟨_, ⟨o, _, _, ho, _⟩, _⟩ := s; ⟨o, ho⟩

/-- the frame after something that kept all but the tracked objects -/
theorem St.after {C : Cx} {a : Act} {r r' : List Addr} {F : List (Option AV)} {H H' : List AO} {h h' : Heap} (s : St C a r F H h) (x : Ext none r h r' h') (hp : Hp C r' H' h') : St C a r' F H' h' :=
  ⟨hp, s.ok, s.offL, let ⟨_, ho⟩ := s.ns.here; not_in x.fresh ho s.nL, s.ns.keeps x.pre fun o ho => x.keep _ o ho s.nL nofun, fun y i hy => let ⟨c, e, k⟩ := s.cells y i hy; ⟨c, e, x.pre.get k⟩⟩

theorem Hp.lt {C : Cx} {r : List Addr} {H : List AO} {h : Heap} (s : Hp C r H h) {x : Addr} (hx : x ∈ r) : ∃ o, h.get? x = some o := by
  obtain ⟨i, hi⟩ := List.getElem?_of_mem hx
  obtain ⟨y, o', e1, e2, _⟩ := s.obj i _ (List.getElem?_eq_getElem (s.len ▸ gl hi))
  obtain rfl := ss hi e1
  exact ⟨o', e2⟩
theorem Hp.at {C : Cx} {r : List Addr} {H : List AO} {h : Heap} (s : Hp C r H h) {i : Nat} {ao : AO} {x : Addr} (hi : H[i]? = some ao) (hx : r[i]? = some x) : ∃ o, h.get? x = some o ∧ OR C r ao o := by
  obtain ⟨y, o, e1, e2, e3⟩ := s.obj i _ hi
  obtain rfl := ss hx e1
  exact ⟨o, e2, e3⟩
theorem Hp.not {C : Cx} {r : List Addr} {H : List AO} {h : Heap} (s : Hp C r H h) {x : Addr} (e : h.get? x = none) : x ∉ r := fun q => let ⟨_, e'⟩ := s.lt q; noSome e e'
theorem Hp.base {C : Cx} {r : List Addr} {H : List AO} {h : Heap} (s : Hp C r H h) {x : Addr} (e : h.get? x = none) : C.base.get? x = none := none_back (fun b o q => ⟨o, s.keep b o q⟩) e

/-- nothing tracked is turned -/
theorem Hp.still {C : Cx} {r : List Addr} {H : List AO} {h h' : Heap} (s : Hp C r H h) (k : ∀ b o, h.get? b = some o → h'.get? b = some o) : Ext none r h r h' ∧ Hp C r H h' :=
  ⟨⟨isPre.refl r, fun b o e _ _ => k b o e, fun b o e => ⟨o, k b o e⟩, fun _ e => .inl e⟩,
   ⟨fun b o e => k b o (s.keep b o e), s.off, s.nd, s.len, s.lo, fun i a e => let ⟨x, o, e1, e2, e3⟩ := s.obj i a e; ⟨x, o, e1, k x o e2, e3⟩⟩⟩

theorem last_case {α : Type} {H : List α} {a b : α} {i : Nat} (e : (H ++ [a])[i]? = some b) : H[i]? = some b ∨ (i = H.length ∧ b = a) := by
  rcases Nat.lt_or_ge i H.length with hi | hi
  · exact .inl ((List.getElem?_append_left hi).symm.trans e)
  · have hl := gl e
    rw [List.length_append, List.length_singleton] at hl
    obtain rfl : i = H.length := Nat.le_antisymm (Nat.lt_succ_iff.mp hl) hi
    exact .inr ⟨rfl, (Option.some.inj (List.getElem?_concat_length.symm.trans e)).symm⟩
theorem mem_snoc {α : Type} {r : List α} {x y : α} (h : x ∈ r ++ [y]) : x ∈ r ∨ x = y := (List.mem_append.mp h).imp_right List.mem_singleton.mp
theorem last_get {α : Type} {r : List α} {y : α} {n : Nat} (h : r.length = n) : (r ++ [y])[n]? = some y := h ▸ List.getElem?_concat_length

/-- an object is told as well, which stood untold -/
theorem Hp.adopt {C : Cx} {r : List Addr} {H : List AO} {h : Heap} (s : Hp C r H h) {ao : AO} {o : Obj} {y : Addr} (k : OR C (r ++ [y]) ao o) (hlo : sysModules < y) (hy : y ∉ r) (hb : C.base.get? y = none) (ho : h.get? y = some o) : Hp C (r ++ [y]) (H ++ [ao]) h := by
  have pre : isPre r (r ++ [y]) := ⟨_, rfl⟩
  refine ⟨s.keep, fun x hx => (mem_snoc hx).elim (s.off x) (fun e => e ▸ hb), List.nodup_append.mpr ⟨s.nd, List.pairwise_singleton .., fun x hx z hz q => hy (List.mem_singleton.mp hz ▸ q ▸ hx)⟩, by rw [List.length_append, List.length_append, s.len]; rfl, fun x hx => (mem_snoc hx).elim (s.lo x) (fun e => e ▸ hlo), fun i a' e => ?_⟩
  rcases last_case e with e | ⟨rfl, rfl⟩
  · obtain ⟨x, o', e1, e2, e3⟩ := s.obj i a' e
    exact ⟨x, o', pre.get e1, e2, e3.mono pre⟩
  · exact ⟨y, o, last_get s.len, ho, k⟩

/-- a new object, at an address that was free -/
theorem Hp.push {C : Cx} {r : List Addr} {H : List AO} {h h' : Heap} (s : Hp C r H h) {ao : AO} {o : Obj} {y : Addr} (k : OR C (r ++ [y]) ao o) (hlo : sysModules < y) (hy : h.get? y = none)
    (ho : h'.get? y = some o) (hk : ∀ b o, h.get? b = some o → h'.get? b = some o) :
    Ext none r h (r ++ [y]) h' ∧ Hp C (r ++ [y]) (H ++ [ao]) h' :=
  ⟨⟨⟨_, rfl⟩, fun b o' e _ _ => hk b o' e, fun b o' e => ⟨o', hk b o' e⟩, fun x hx => (mem_snoc hx).imp_right fun (e : x = y) => (congrArg h.get? e).trans hy⟩, (s.still hk).2.adopt k hlo (s.not hy) (s.base hy) ho⟩

theorem Hp.alloc {C : Cx} {r : List Addr} {H : List AO} {h : Heap} (s : Hp C r H h) {ao : AO} {o : Obj} (k : OR C r ao o) (hf : o.isFreed = false) :
    Ext none r h (r ++ [h.objs.size]) (h.push o) ∧ Hp C (r ++ [h.objs.size]) (H ++ [ao]) (h.push o) :=
  s.push (k.mono ⟨_, rfl⟩) (modules_low (C.hlim.keeps s.keep)) (get?_size_none h) (Heap.get?_push_size _ hf) fun _ _ e => Heap.get?_push_of_some _ e

/-- a tracked object is turned -/
theorem Hp.turn {C : Cx} {r : List Addr} {H : List AO} {h h' : Heap} (s : Hp C r H h) {i : Nat} {x : Addr} {ao : AO} {o : Obj} (hi : r[i]? = some x) (k : OR C r ao o)
    (ho : h'.get? x = some o) (hk : ∀ b o, b ≠ x → h.get? b = some o → h'.get? b = some o) :
    Ext none r h r h' ∧ Hp C r (H.set i ao) h' := by
  have hx : x ∈ r := List.mem_of_getElem? hi
  refine ⟨⟨isPre.refl r, fun b o' e hb _ => hk b o' (fun q => hb (q ▸ hx)) e, fun b o' e => ?_, fun _ e => .inl e⟩, ⟨fun b o' e => hk b o' (fun q => noSome (s.off x hx) (q ▸ e)) (s.keep b o' e), s.off, s.nd, s.len.trans (List.length_set ..).symm, s.lo, fun j a' e => ?_⟩⟩
  · by_cases q : b = x
    · exact ⟨o, q ▸ ho⟩
    · exact ⟨o', hk b o' q e⟩
  · by_cases q : i = j
    · subst q
      obtain rfl := ss (List.getElem?_set_self (s.len ▸ gl hi)) e
      exact ⟨x, o, hi, ho, k⟩
    · rw [List.getElem?_set_ne q] at e
      obtain ⟨y, o', e1, e2, e3⟩ := s.obj j a' e
      refine ⟨y, o', e1, hk y o' (fun z => q ?_) e2, e3⟩
      subst z
      exact (List.getElem?_inj (gl hi) s.nd).mp (hi.trans e1.symm)

end Mine
namespace Mine
open PySem PySem.W PySem.Calls PySem.Spec PyProof.Rows

noncomputable abbrev sh (s : Shared) (h : Heap) (tk : Nat) : Shared := { s with heap := h, toks := tk }

structure Room (n : Nat) (A : Around) : Prop where
  gd : A.guards = some []
  hh : A.handled = none
  depth : A.depth + n < recursionLimit
  units : A.units + 10 * n + 40 < cLine

theorem Room.le {n m : Nat} {A : Around} (h : Room n A) (k : m ≤ n) : Room m A := ⟨h.gd, h.hh, Nat.lt_of_le_of_lt (Nat.add_le_add_left k _) h.depth, Nat.lt_of_le_of_lt (Nat.add_le_add_right (Nat.add_le_add_left (Nat.mul_le_mul_left _ k) _) _) h.units⟩
theorem Room.deeper {n : Nat} {A : Around} (h : Room (n + 1) A) (env : Env) : Room n (A.deeper env) :=
  ⟨h.gd, h.hh, by have := h.depth; simp only [Around.deeper]; lia, by have := h.units; simp only [Around.deeper]; lia⟩
theorem Room.d0 {n : Nat} {A : Around} (h : Room (n + 1) A) : A.depth < recursionLimit := Nat.lt_of_le_of_lt (Nat.le_add_right _ _) h.depth

/-- what is asked behind a tree that leaves the tracked state (F', H') -/
noncomputable def After {α : Type} (C : Cx) (a : Act) (r : List Addr) (s : Shared) (F' : List (Option AV)) (H' : List AO) (P : List Addr → α → Prop) (Q : α → Shared → Prop) : Prop :=
  ∀ u r' h' tk', Ext (some a.env.locals) r s.heap r' h' → P r' u → St C a r' F' H' h' → Q u (sh s h' tk')

/-- a tree (of any kind) run in the frame a: from (F, H) it gives what P says and leaves (F', H') -/
noncomputable def Sm {α : Type} (C : Cx) (n : Nat) (a : Act) (t : Sem α) (F : List (Option AV)) (H : List AO) (P : List Addr → α → Prop) (F' : List (Option AV)) (H' : List AO) : Prop :=
  ∀ A, Room n A → ∀ r s (Q : α → Shared → Prop) (E : Value → Shared → Prop), St C a r F H s.heap → After C a r s F' H' P Q → wpAny (model C.prog C.w) A t Q E s

noncomputable abbrev EvalTo (C : Cx) (n : Nat) (a : Act) (e : Expr) (F : List (Option AV)) (H : List AO) (v : AV) (H' : List AO) : Prop :=
  Sm C n a (eval e a.env) F H (fun r u => VR r v u) F H'

/-- a test -/
noncomputable abbrev TestTo (C : Cx) (n : Nat) (a : Act) (e : Expr) (F : List (Option AV)) (H : List AO) (b : Bool) (H' : List AO) : Prop :=
  Sm C n a (isTrue e a.env (eval e a.env)) F H (fun _ u => u = b) F H'

inductive AFlow where
  | next
  | ret (v : AV)
noncomputable def FlR (r : List Addr) (f : AFlow) (u : Flow) : Prop := match f with
  | .next => u = .next
  | .ret v => ∃ w, u = .ret w ∧ VR r v w
theorem FlR.next {r : List Addr} : FlR r .next .next := rfl
theorem FlR.ret {r : List Addr} {v : AV} {u : Value} (h : VR r v u) : FlR r (.ret v) (.ret u) := ⟨u, rfl, h⟩

/-- as Ext, but of the tracked objects only the first m need stay where they are -/
structure ExtM (m : Nat) (L : Option Addr) (r : List Addr) (h : Heap) (r' : List Addr) (h' : Heap) : Prop where
  pre : Mv m r r'
  keep : ∀ b o, h.get? b = some o → b ∉ r → some b ≠ L → h'.get? b = some o
  live : ∀ b o, h.get? b = some o → ∃ o', h'.get? b = some o'
  fresh : ∀ x ∈ r', x ∈ r ∨ h.get? x = none
theorem Ext.toM {m : Nat} {L : Option Addr} {r r' : List Addr} {h h' : Heap} (x : Ext L r h r' h') : ExtM m L r h r' h' := ⟨x.pre.mv, x.keep, x.live, x.fresh⟩
theorem ExtM.trans {m : Nat} {L : Option Addr} {r r' r'' : List Addr} {h h' h'' : Heap} (x : ExtM m L r h r' h') (y : ExtM m L r' h' r'' h'') : ExtM m L r h r'' h'' :=
  ⟨fun i z hi e => y.pre i z hi (x.pre i z hi e), fun b o e hb hL => y.keep b o (x.keep b o e hb hL) (not_in x.fresh e hb) hL, live_trans x.live y.live, fresh_trans x.live x.fresh y.fresh⟩
theorem ExtM.le {m k : Nat} {L : Option Addr} {r r' : List Addr} {h h' : Heap} (x : ExtM m L r h r' h') (hk : k ≤ m) : ExtM k L r h r' h' := ⟨fun i y hi e => x.pre i y (Nat.lt_of_lt_of_le hi hk) e, x.keep, x.live, x.fresh⟩

noncomputable def AfterM (C : Cx) (a : Act) (m : Nat) (r : List Addr) (s : Shared) (f : AFlow) (F' : List (Option AV)) (H' : List AO) (Q : Flow → Shared → Prop) : Prop :=
  ∀ u r' h' tk', ExtM m (some a.env.locals) r s.heap r' h' → FlR r' f u → St C a r' F' H' h' → Q u (sh s h' tk')

/-- a statement's tree: behind it the objects from m on may be others -/
noncomputable def Xm (C : Cx) (n : Nat) (a : Act) (m : Nat) (t : Sem Flow) (F : List (Option AV)) (H : List AO) (f : AFlow) (F' : List (Option AV)) (H' : List AO) : Prop :=
  ∀ A, Room n A → ∀ r s (Q : Flow → Shared → Prop) (E : Value → Shared → Prop), St C a r F H s.heap → AfterM C a m r s f F' H' Q → wpAny (model C.prog C.w) A t Q E s

noncomputable abbrev ExecTo (C : Cx) (n : Nat) (a : Act) (m : Nat) (x : Stmt) (F : List (Option AV)) (H : List AO) (f : AFlow) (F' : List (Option AV)) (H' : List AO) : Prop := Xm C n a m (exec x a.env) F H f F' H'
noncomputable abbrev ExecsTo (C : Cx) (n : Nat) (a : Act) (m : Nat) (x : List Stmt) (F : List (Option AV)) (H : List AO) (f : AFlow) (F' : List (Option AV)) (H' : List AO) : Prop := Xm C n a m (execs x a.env) F H f F' H'

/-- what is asked behind a call, out of no frame -/
noncomputable def AfterC (C : Cx) (r : List Addr) (s : Shared) (v : AV) (H' : List AO) (Q : Value → Shared → Prop) : Prop :=
  ∀ u r' h' tk', Ext none r s.heap r' h' → VR r' v u → Hp C r' H' h' → Q u (sh s h' tk')
noncomputable def CallTo (C : Cx) (n : Nat) (f : Value) (args : List AV) (H : List AO) (v : AV) (H' : List AO) : Prop :=
  ∀ A, Room n A → ∀ r s us (Q : Value → Shared → Prop) (E : Value → Shared → Prop), Hp C r H s.heap → VRs r args us → AfterC C r s v H' Q → wpAny (model C.prog C.w) A (call f us) Q E s

section
variable {C : Cx} {n : Nat} {a : Act} {F F' F₁ F₂ : List (Option AV)} {H H' H₁ H₂ : List AO}

theorem After.self {α : Type} {r : List Addr} {s : Shared} {P : List Addr → α → Prop} {Q : α → Shared → Prop} (k : After C a r s F H P Q) (st : St C a r F H s.heap) {u : α} (p : P r u) (tk : Nat) : Q u { s with toks := tk } :=
  k u r s.heap tk (Ext.refl ..) p st
theorem After.then {α : Type} {r r₁ : List Addr} {s : Shared} {h₁ : Heap} {tk₁ : Nat} {P : List Addr → α → Prop} {Q : α → Shared → Prop} (k : After C a r s F' H' P Q)
    (x : Ext (some a.env.locals) r s.heap r₁ h₁) : After C a r₁ (sh s h₁ tk₁) F' H' P Q :=
  fun u r' h' tk' x' p st => k u r' h' tk' (x.trans x') p st

theorem AfterM.then {m : Nat} {f : AFlow} {r r₁ : List Addr} {s : Shared} {h₁ : Heap} {tk₁ : Nat} {Q : Flow → Shared → Prop} (k : AfterM C a m r s f F' H' Q)
    (x : ExtM m (some a.env.locals) r s.heap r₁ h₁) : AfterM C a m r₁ (sh s h₁ tk₁) f F' H' Q :=
  fun u r' h' tk' x' p st => k u r' h' tk' (x.trans x') p st
theorem AfterM.self {m : Nat} {f : AFlow} {r : List Addr} {s : Shared} {Q : Flow → Shared → Prop} (k : AfterM C a m r s f F H Q) (st : St C a r F H s.heap) {u : Flow} (p : FlR r f u) (tk : Nat) : Q u { s with toks := tk } :=
  k u r s.heap tk (Ext.refl ..).toM p st

theorem Sm.le {α : Type} {t : Sem α} {P : List Addr → α → Prop} {m : Nat} (h : Sm C n a t F H P F' H') (k : n ≤ m) : Sm C m a t F H P F' H' :=
  fun A hA => h A (hA.le k)
theorem CallTo.le {f : Value} {args : List AV} {v : AV} {m : Nat} (h : CallTo C n f args H v H') (k : n ≤ m) : CallTo C m f args H v H' :=
  fun A hA => h A (hA.le k)

/-! what a value is, by its abstract one -/
section
variable {e : Expr} {A : Around} {r : List Addr} {s : Shared} {Q : Value → Shared → Prop} {E : Value → Shared → Prop}
theorem EvalTo.int {x : Int} (h : EvalTo C n a e F H (.int x) H') (hA : Room n A) (st : St C a r F H s.heap) (k : ∀ t r' h' tk', Ext (some a.env.locals) r s.heap r' h' → St C a r' F H' h' → Q (.int x t) (sh s h' tk')) : wpAny (model C.prog C.w) A (eval e a.env) Q E s :=
  h A hA r s Q E st fun u r' h' tk' x p st' => by obtain ⟨t, rfl⟩ := p; exact k t r' h' tk' x st'
theorem EvalTo.obj {i : Nat} (h : EvalTo C n a e F H (.obj i) H') (hA : Room n A) (st : St C a r F H s.heap) (k : ∀ y r' h' tk', r'[i]? = some y → Ext (some a.env.locals) r s.heap r' h' → St C a r' F H' h' → Q (.ref y) (sh s h' tk')) : wpAny (model C.prog C.w) A (eval e a.env) Q E s :=
  h A hA r s Q E st fun u r' h' tk' x p st' => by obtain ⟨y, ey, rfl⟩ := p; exact k y r' h' tk' ey x st'
theorem EvalTo.str {x : Str} (h : EvalTo C n a e F H (.str x) H') (hA : Room n A) (st : St C a r F H s.heap) (k : ∀ t r' h' tk', Ext (some a.env.locals) r s.heap r' h' → St C a r' F H' h' → Q (.str x t) (sh s h' tk')) : wpAny (model C.prog C.w) A (eval e a.env) Q E s :=
  h A hA r s Q E st fun u r' h' tk' x p st' => by obtain ⟨t, rfl⟩ := p; exact k t r' h' tk' x st'
theorem EvalTo.bool {b : Bool} (h : EvalTo C n a e F H (.bool b) H') (hA : Room n A) (st : St C a r F H s.heap) (k : ∀ r' h' tk', Ext (some a.env.locals) r s.heap r' h' → St C a r' F H' h' → Q (.bool b) (sh s h' tk')) : wpAny (model C.prog C.w) A (eval e a.env) Q E s :=
  h A hA r s Q E st fun u r' h' tk' x p st' => by obtain rfl : u = .bool b := p; exact k r' h' tk' x st'
theorem EvalTo.val {v : Value} (h : EvalTo C n a e F H (.val v) H') (hA : Room n A) (st : St C a r F H s.heap) (k : ∀ r' h' tk', Ext (some a.env.locals) r s.heap r' h' → St C a r' F H' h' → Q v (sh s h' tk')) : wpAny (model C.prog C.w) A (eval e a.env) Q E s :=
  h A hA r s Q E st fun u r' h' tk' x p st' => by obtain rfl : u = v := p; exact k r' h' tk' x st'
theorem EvalTo.none (h : EvalTo C n a e F H .none H') (hA : Room n A) (st : St C a r F H s.heap) (k : ∀ r' h' tk', Ext (some a.env.locals) r s.heap r' h' → St C a r' F H' h' → Q .none (sh s h' tk')) : wpAny (model C.prog C.w) A (eval e a.env) Q E s :=
  h A hA r s Q E st fun u r' h' tk' x p st' => by obtain rfl : u = .none := p; exact k r' h' tk' x st'
theorem TestTo.go {b : Bool} {Q : Bool → Shared → Prop} (h : TestTo C n a e F H b H') (hA : Room n A) (st : St C a r F H s.heap) (k : ∀ r' h' tk', Ext (some a.env.locals) r s.heap r' h' → St C a r' F H' h' → Q b (sh s h' tk')) : wpAny (model C.prog C.w) A (isTrue e a.env (eval e a.env)) Q E s :=
  h A hA r s Q E st fun u r' h' tk' x p st' => by obtain rfl : u = b := p; exact k r' h' tk' x st'
theorem Xm.next {m : Nat} {t : Sem Flow} {Q : Flow → Shared → Prop} (h : Xm C n a m t F H .next F' H') (hA : Room n A) (st : St C a r F H s.heap) (k : ∀ r' h' tk', ExtM m (some a.env.locals) r s.heap r' h' → St C a r' F' H' h' → Q .next (sh s h' tk')) : wpAny (model C.prog C.w) A t Q E s :=
  h A hA r s Q E st fun u r' h' tk' x p st' => by obtain rfl : u = .next := p; exact k r' h' tk' x st'
theorem Xm.ret {m : Nat} {v : AV} {t : Sem Flow} {Q : Flow → Shared → Prop} (h : Xm C n a m t F H (.ret v) F' H') (hA : Room n A) (st : St C a r F H s.heap) (k : ∀ u r' h' tk', ExtM m (some a.env.locals) r s.heap r' h' → VR r' v u → St C a r' F' H' h' → Q (.ret u) (sh s h' tk')) : wpAny (model C.prog C.w) A t Q E s :=
  h A hA r s Q E st fun u r' h' tk' x p st' => by obtain ⟨w, rfl, q⟩ := p; exact k w r' h' tk' x q st'
end

/-! names and literals -/
inductive At : List Str → Str → Nat → Prop
  | here {x : Str} {T : List Str} : At (x :: T) x 0
  | there {x y : Str} {T : List Str} {i : Nat} (h : At T x i) : At (y :: T) x (i + 1)
theorem At.get {T : List Str} {x : Str} {i : Nat} (h : At T x i) : T[i]? = some x := by
  induction h with
  | here => rfl
  | there _ ih => exact ih

theorem ev_local {x : Str} {pos : Pos} {v : AV} (i : Nat) (hi : At a.T x i) (hv : F[i]? = some (some v)) : EvalTo C n a (.Name x pos) F H v H := by
  intro A hA r s Q E st k
  obtain ⟨m, hn, hm⟩ := st.ns
  obtain ⟨u, e, p⟩ := hm i x v hi.get hv
  have hx : x ∈ a.T := List.mem_of_getElem? hi.get
  exact wpAny_Name (wpAny_loadName_local st.ok.kind (st.ok.loc x hx) hn e (k.self st p s.toks)) (st.ok.dbg x hx)

theorem ld_global {x : Str} {v : Value} (hx : (x, v) ∈ a.G) : Sm C n a (eval (.Name x pos) a.env) F H (fun _ u => u = v) F H := by
  intro A hA r s Q E st k
  obtain ⟨h1, h2, h3⟩ := st.ok.gl x v hx
  refine Name_function_global st.ok.kind h1 ?_ h2
  rcases h3 with h3 | ⟨h3, h4⟩
  · exact loadGlobal_global (by rw [st.ok.glob]; exact C.hg.keeps st.hp.keep) h3 (k.self st rfl s.toks)
  · exact loadGlobal_builtin (by rw [st.ok.glob]; exact C.hg.keeps st.hp.keep) h3 (by rw [st.ok.blt]; exact C.hb.keeps st.hp.keep) h4 (k.self st rfl s.toks)
theorem ev_global {x : Str} {pos : Pos} {v : Value} (hx : (x, v) ∈ a.G) : EvalTo C n a (.Name x pos) F H (.val v) H := ld_global hx

theorem cell_at {r : List Addr} {h : Heap} (st : St C a r F H h) {x : Str} {i : Nat} {w : Option AV} (hi : (x, i) ∈ a.ch) (hv : H[i]? = some (.cell w)) : ∃ c o, a.env.cells.lookup x = some c ∧ r[i]? = some c ∧ h.get? c = some o ∧ OR C r (.cell w) o :=
  let ⟨c, e1, e2⟩ := st.cells x i hi
  let ⟨o, e4, e5⟩ := st.hp.at hv e2
  ⟨c, o, e1, e2, e4, e5⟩
theorem ev_cell {x : Str} {pos : Pos} {v : AV} (i : Nat) (hi : (x, i) ∈ a.ch) (hv : H[i]? = some (.cell (some v))) : EvalTo C n a (.Name x pos) F H v H := by
  intro A hA r s Q E st k
  obtain ⟨c, o, e1, _, e4, u, hd, p⟩ := cell_at st hi hv
  obtain ⟨hd', hk⟩ := st.ok.cl x i hi
  refine wpAny_Name ?_ hd'
  rcases hk with hk | ⟨hk, hc⟩
  · exact wpAny_loadName_cell st.ok.kind hk e1 ⟨o, e4, hd⟩ (k.self st p s.toks)
  · exact wpAny_loadName_free st.ok.kind hk e1 ⟨o, e4, hd⟩ (k.self st p s.toks) hc

theorem ev_int {i : Int} {q : Nat} {pos : Pos} : EvalTo C n a (.Constant (.int i) q pos) F H (.int i) H :=
  fun _ _ _ s _ _ st k => wpAny_Constant_int (k.self st (.int i s.toks) _)
theorem ev_bool {b : Bool} {q : Nat} {pos : Pos} : EvalTo C n a (.Constant (.bool b) q pos) F H (.bool b) H :=
  fun _ _ _ s _ _ st k => wpAny_Constant_bool (k.self st (.bool b) s.toks)

/-! operators on ints -/
noncomputable def IOp (op : Operator) (x y z : Int) : Prop := match op with
  | .Add => x + y = z
  | .Sub => x - y = z
  | .Mult => (x.natAbs < 2 ^ 64 ∧ y.natAbs < 2 ^ 64) ∧ x * y = z
  | .FloorDiv => (0 < y ∧ y < 1073741824) ∧ x / y = z
  | .Mod => 0 < y ∧ x % y = z
  | .Pow => (x.natAbs < 2 ^ 64 ∧ 0 ≤ y ∧ y ≤ 1000000) ∧ x ^ y.toNat = z
  | .LShift => (x.natAbs < 2 ^ 64 ∧ 0 ≤ y ∧ y ≤ 1000000) ∧ x * 2 ^ y.toNat = z
  | .RShift => 0 ≤ y ∧ x / 2 ^ y.toNat = z
  | .BitAnd => Builtin.bitAnd x y = z
  | .BitOr => Builtin.bitOr x y = z
  | _ => False
theorem IOp.add (x y : Int) : IOp .Add x y (x + y) := rfl
theorem IOp.sub (x y : Int) : IOp .Sub x y (x - y) := rfl
theorem IOp.mul (x y : Int) (h : x.natAbs < 2 ^ 64) (k : y.natAbs < 2 ^ 64) : IOp .Mult x y (x * y) := ⟨⟨h, k⟩, rfl⟩
theorem IOp.div (x y : Int) (h : 0 < y) (k : y < 1073741824) : IOp .FloorDiv x y (x / y) := ⟨⟨h, k⟩, rfl⟩
theorem IOp.mod (x y : Int) (h : 0 < y) : IOp .Mod x y (x % y) := ⟨h, rfl⟩
theorem IOp.pow (x y : Int) (h : x.natAbs < 2 ^ 64) (k : 0 ≤ y) (l : y ≤ 1000000) : IOp .Pow x y (x ^ y.toNat) := ⟨⟨h, k, l⟩, rfl⟩
theorem IOp.shl (x y : Int) (h : x.natAbs < 2 ^ 64) (k : 0 ≤ y) (l : y ≤ 1000000) : IOp .LShift x y (x * 2 ^ y.toNat) := ⟨⟨h, k, l⟩, rfl⟩
theorem IOp.shr (x y : Int) (k : 0 ≤ y) : IOp .RShift x y (x / 2 ^ y.toNat) := ⟨k, rfl⟩
theorem IOp.and (x y : Int) : IOp .BitAnd x y (Builtin.bitAnd x y) := rfl
theorem IOp.or (x y : Int) : IOp .BitOr x y (Builtin.bitOr x y) := rfl

theorem mulOk {x y : Int} (h : x.natAbs < 2 ^ 64) (k : y.natAbs < 2 ^ 64) : IntMulOk x y := by
  mul_fits
theorem fdiv_e {x y z : Int} (h : 0 ≤ y) (e : x / y = z) : x.fdiv y = z := (Int.fdiv_eq_ediv_of_nonneg _ h).trans e
theorem fmod_e {x y z : Int} (h : 0 ≤ y) (e : x % y = z) : x.fmod y = z := (Int.fmod_eq_emod_of_nonneg _ h).trans e
theorem noP {y : Int} (h : 0 < y) (k : y < 1073741824) : y.natAbs < 1073741824 := by lia
theorem p2nn {y : Nat} : (0 : Int) ≤ 2 ^ y := Int.le_of_lt (Int.pow_pos (by decide))

theorem IOp.bin {op : Operator} {x y z : Int} (h : IOp op x y z) {A : Around} {t u : Tok} {Q : Value → Shared → Prop} {E : Value → Shared → Prop} {s : Shared}
    (q : Q (.int z s.toks) { s with toks := s.toks + 1 }) : wpAny (model C.prog C.w) A (binaryOp op (.int x t) (.int y u)) Q E s := by
  cases op with
  | Add => obtain rfl : x + y = z := h; exact add_int q
  | Sub => obtain rfl : x - y = z := h; exact sub_int q
  | Mult => obtain ⟨⟨h, k⟩, rfl⟩ := h; exact mul_int q (mulOk h k)
  | FloorDiv => obtain ⟨⟨h, k⟩, e⟩ := h; exact floordiv_int (hp := .inl (PyProof.noPylong_small (noP h k))) (Int.ne_of_gt h) (by rw [fdiv_e (Int.le_of_lt h) e]; exact q)
  | Mod => obtain ⟨h, e⟩ := h; exact mod_int' (Int.ne_of_gt h) (by rw [fmod_e (Int.le_of_lt h) e]; exact q)
  | Pow => obtain ⟨⟨h, k, l⟩, rfl⟩ := h; exact pow_int_small k l h q
  | LShift => obtain ⟨⟨h, k, l⟩, rfl⟩ := h; exact lshift_int_small k l h q
  | RShift => obtain ⟨k, e⟩ := h; exact rshift_int k (by rw [fdiv_e p2nn e]; exact q)
  | BitAnd => obtain rfl : Builtin.bitAnd x y = z := h; exact and_int q
  | BitOr => obtain rfl : Builtin.bitOr x y = z := h; exact or_int q
  | _ => exact False.elim h
theorem IOp.aug {op : Operator} {x y z : Int} (h : IOp op x y z) {A : Around} {t u : Tok} {Q : Value → Shared → Prop} {E : Value → Shared → Prop} {s : Shared}
    (q : Q (.int z s.toks) { s with toks := s.toks + 1 }) : wpAny (model C.prog C.w) A (inplaceOp op (.int x t) (.int y u)) Q E s := by
  cases op with
  | Add => obtain rfl : x + y = z := h; exact iadd_int q
  | Sub => obtain rfl : x - y = z := h; exact isub_int q
  | Mult => obtain ⟨⟨h, k⟩, rfl⟩ := h; exact imul_int q (mulOk h k)
  | FloorDiv => obtain ⟨⟨h, k⟩, e⟩ := h; exact ifloordiv_int (hp := .inl (PyProof.noPylong_small (noP h k))) (Int.ne_of_gt h) (by rw [fdiv_e (Int.le_of_lt h) e]; exact q)
  | Mod => obtain ⟨h, e⟩ := h; exact imod_int (Int.ne_of_gt h) (by rw [fmod_e (Int.le_of_lt h) e]; exact q)
  | Pow => obtain ⟨⟨h, k, l⟩, rfl⟩ := h; exact ipow_int_small k l h q
  | LShift => obtain ⟨⟨h, k, l⟩, rfl⟩ := h; exact ilshift_int_small k l h q
  | RShift => obtain ⟨k, e⟩ := h; exact irshift_int k (by rw [fdiv_e p2nn e]; exact q)
  | BitAnd => obtain rfl : Builtin.bitAnd x y = z := h; exact iand_int q
  | BitOr => obtain rfl : Builtin.bitOr x y = z := h; exact ior_int q
  | _ => exact False.elim h

theorem ev_bin {op : Operator} {l e : Expr} {pos : Pos} {x y z : Int} (hl : EvalTo C n a l F H (.int x) H₁) (hr : EvalTo C n a e F H₁ (.int y) H₂) (hop : IOp op x y z) :
    EvalTo C n a (.BinOp l op e pos) F H (.int z) H₂ := fun A hA r s Q E st k =>
  wpAny_BinOp (hl.int hA st fun t r₁ h₁ tk₁ x₁ st₁ => hr.int hA st₁ fun t' r₂ h₂ tk₂ x₂ st₂ => hop.bin (k _ r₂ h₂ _ (x₁.trans x₂) (.int ..) st₂))

theorem ev_neg {e : Expr} {pos : Pos} {x : Int} (h : EvalTo C n a e F H (.int x) H₁) : EvalTo C n a (.UnaryOp .USub e pos) F H (.int (-x)) H₁ := fun A hA r s Q E st k =>
  wpAny_UnaryOp (h.int hA st fun t r₁ h₁ tk₁ x₁ st₁ => neg_int (k _ r₁ h₁ _ x₁ (.int ..) st₁))

noncomputable def COp (op : CmpOp) (x y : Int) (b : Bool) : Prop := match op with
  | .Lt => decide (x < y) = b
  | .LtE => decide (x ≤ y) = b
  | .Gt => decide (y < x) = b
  | .GtE => decide (y ≤ x) = b
  | .Eq => (x == y) = b
  | .NotEq => (x != y) = b
  | _ => False
theorem COp.lt (x y : Int) : COp .Lt x y (decide (x < y)) := rfl
theorem COp.le (x y : Int) : COp .LtE x y (decide (x ≤ y)) := rfl
theorem COp.gt (x y : Int) : COp .Gt x y (decide (y < x)) := rfl
theorem COp.ge (x y : Int) : COp .GtE x y (decide (y ≤ x)) := rfl
theorem COp.eq (x y : Int) : COp .Eq x y (x == y) := rfl
theorem COp.ne (x y : Int) : COp .NotEq x y (x != y) := rfl
theorem COp.run {op : CmpOp} {x y : Int} {b : Bool} (h : COp op x y b) {A : Around} {t u : Tok} {Q : Value → Shared → Prop} {E : Value → Shared → Prop} {s : Shared}
    (q : Q (.bool b) s) : wpAny (model C.prog C.w) A (compareOp op (.int x t) (.int y u)) Q E s := by
  cases op with
  | Lt => obtain rfl : decide (x < y) = b := h; exact lt_int q
  | LtE => obtain rfl : decide (x ≤ y) = b := h; exact le_int q
  | Gt => obtain rfl : decide (y < x) = b := h; exact gt_int q
  | GtE => obtain rfl : decide (y ≤ x) = b := h; exact ge_int q
  | Eq => obtain rfl : (x == y) = b := h; exact eq_int q
  | NotEq => obtain rfl : (x != y) = b := h; exact ne_int q
  | _ => exact False.elim h

end
end Mine
namespace Mine
open PySem PySem.W PySem.Calls PySem.Spec PyProof.Rows

/-- an argument without a star -/
noncomputable abbrev StarIs (a : Act) (e : Expr) (rest : List Expr) : Prop := starEach (e :: rest) a.env = (false, eval e a.env) :: starEach rest a.env
noncomputable abbrev ArgsTo (C : Cx) (n : Nat) (a : Act) (pos : Pos) (es : List Expr) (F : List (Option AV)) (H : List AO) (vs : List AV) (H' : List AO) : Prop :=
  Sm C n a (spliced (backTo pos (starEach es a.env))) F H (fun r us => VRs r vs us) F H'

section
variable {C : Cx} {n : Nat} {a : Act} {F F' F₁ F₂ : List (Option AV)} {H H' H₀ H₁ H₂ : List AO}

/-! tests -/
theorem test_cmp {op : CmpOp} {l e : Expr} {pos : Pos} {x y : Int} {b : Bool} (hl : EvalTo C n a l F H (.int x) H₁) (hr : EvalTo C n a e F H₁ (.int y) H₂) (hop : COp op x y b)
    (hm : autoParam (behindInMarks op e = false) wuaS) : TestTo C n a (.Compare l [op] [e] pos) F H b H₂ := fun A hA r s Q E st k =>
  wpAny_isTrue_Compare1 (hl.int hA st fun t r₁ h₁ tk₁ x₁ st₁ => hr.int hA st₁ fun t' r₂ h₂ tk₂ x₂ st₂ => hop.run (wpAny_truthy_bool (k _ r₂ h₂ _ (x₁.trans x₂) rfl st₂))) hm
theorem test_and_nil {pos : Pos} : TestTo C n a (.BoolOp .And [] pos) F H true H :=
  fun A hA r s Q E st k => isTrue_and_nil (k.self st rfl s.toks)
theorem test_or_nil {pos : Pos} : TestTo C n a (.BoolOp .Or [] pos) F H false H :=
  fun A hA r s Q E st k => isTrue_or_nil (k.self st rfl s.toks)
theorem test_and_f {x : Expr} {rest : List Expr} {pos : Pos} (h : TestTo C n a x F H false H₁) : TestTo C n a (.BoolOp .And (x :: rest) pos) F H false H₁ := fun A hA r s Q E st k =>
  isTrue_and (h.go hA st fun r₁ h₁ tk₁ x₁ st₁ => k _ r₁ h₁ _ x₁ rfl st₁)
theorem test_and_t {x : Expr} {rest : List Expr} {pos : Pos} {b : Bool} (h : TestTo C n a x F H true H₁) (h' : TestTo C n a (.BoolOp .And rest pos) F H₁ b H₂) : TestTo C n a (.BoolOp .And (x :: rest) pos) F H b H₂ := fun A hA r s Q E st k =>
  isTrue_and (h.go hA st fun r₁ h₁ tk₁ x₁ st₁ => h' A hA r₁ _ _ _ st₁ (k.then x₁))
theorem test_or_f {x : Expr} {rest : List Expr} {pos : Pos} {b : Bool} (h : TestTo C n a x F H false H₁) (h' : TestTo C n a (.BoolOp .Or rest pos) F H₁ b H₂) : TestTo C n a (.BoolOp .Or (x :: rest) pos) F H b H₂ := fun A hA r s Q E st k =>
  isTrue_or (h.go hA st fun r₁ h₁ tk₁ x₁ st₁ => h' A hA r₁ _ _ _ st₁ (k.then x₁))
theorem test_not {x : Expr} {pos : Pos} {b : Bool} (h : TestTo C n a x F H b H₁) : TestTo C n a (.UnaryOp .Not x pos) F H (!b) H₁ := fun A hA r s Q E st k =>
  isTrue_not (h.go hA st fun r₁ h₁ tk₁ x₁ st₁ => k _ r₁ h₁ _ x₁ rfl st₁)

/-! values by tests -/
theorem ev_cmp {op : CmpOp} {l e : Expr} {pos : Pos} {x y : Int} {b : Bool} (hl : EvalTo C n a l F H (.int x) H₁) (hr : EvalTo C n a e F H₁ (.int y) H₂) (hop : COp op x y b)
    (hm : autoParam (behindInMarks op e = false) wuaS) : EvalTo C n a (.Compare l [op] [e] pos) F H (.bool b) H₂ := fun A hA r s Q E st k =>
  wpAny_Compare1 (hl.int hA st fun t r₁ h₁ tk₁ x₁ st₁ => hr.int hA st₁ fun t' r₂ h₂ tk₂ x₂ st₂ => hop.run (k _ r₂ h₂ _ (x₁.trans x₂) (.bool _) st₂)) hm
theorem ev_or_f {x y : Expr} {pos : Pos} {v : AV} (h : EvalTo C n a x F H (.bool false) H₁) (h' : EvalTo C n a y F H₁ v H₂) : EvalTo C n a (.BoolOp .Or [x, y] pos) F H v H₂ := fun A hA r s Q E st k =>
  wpAny_Or2 (h.bool hA st fun r₁ h₁ tk₁ x₁ st₁ => wpAny_truthy_bool (h' A hA r₁ _ _ _ st₁ (k.then x₁)))
theorem ev_if_t {c x y : Expr} {pos : Pos} {v : AV} (h : TestTo C n a c F H true H₁) (h' : EvalTo C n a x F H₁ v H₂) : EvalTo C n a (.IfExp c x y pos) F H v H₂ := fun A hA r s Q E st k =>
  wpAny_IfExp (h.go hA st fun r₁ h₁ tk₁ x₁ st₁ => h' A hA r₁ _ _ _ st₁ (k.then x₁))
theorem ev_if_f {c x y : Expr} {pos : Pos} {v : AV} (h : TestTo C n a c F H false H₁) (h' : EvalTo C n a y F H₁ v H₂) : EvalTo C n a (.IfExp c x y pos) F H v H₂ := fun A hA r s Q E st k =>
  wpAny_IfExp (h.go hA st fun r₁ h₁ tk₁ x₁ st₁ => h' A hA r₁ _ _ _ st₁ (k.then x₁))

/-! calls -/
theorem args_nil' {pos : Pos} : ArgsTo C n a pos [] F H [] H := fun A hA r s Q E st k => args_nil (k.self st .nil s.toks)
theorem args_cons' {pos : Pos} {e : Expr} {rest : List Expr} {v : AV} {vs : List AV} (h : EvalTo C n a e F H v H₁) (h' : ArgsTo C n a pos rest F H₁ vs H₂)
    (he : autoParam (StarIs a e rest) rflS) : ArgsTo C n a pos (e :: rest) F H (v :: vs) H₂ := fun A hA r s Q E st k =>
  args_cons (h A hA r s _ _ st fun u r₁ h₁ tk₁ x₁ p₁ st₁ => h' A hA r₁ _ _ _ st₁ fun us r₂ h₂ tk₂ x₂ p₂ st₂ => k _ r₂ h₂ _ (x₁.trans x₂) (.cons (p₁.mono x₂.pre) p₂) st₂) he

theorem call_here {f : Value} {vs : List AV} {v : AV} (hc : CallTo C n f vs H₁ v H₂) {A : Around} (hA : Room n A) {r : List Addr} {s : Shared} {us : List Value} (hus : VRs r vs us) {Q : Value → Shared → Prop} {E : Value → Shared → Prop}
    (st : St C a r F H₁ s.heap) (k : After C a r s F H₂ (fun r u => VR r v u) Q) : wpAny (model C.prog C.w) A (call f us) Q E s :=
  hc A hA r s us _ _ st.hp hus fun u r' h' tk' x p hp => k u r' h' tk' x.ofNone p (st.after x hp)

/-- how a call without stars is evaluated -/
noncomputable abbrev CallIs (a : Act) (g e : Expr) (rest : List Expr) (pos : Pos) : Prop := eval (.Call g (e :: rest) [] pos) a.env = (do callWith pos (← eval g a.env) [] (backTo pos (starEach (e :: rest) a.env)) (backToKw pos (keywordEach [] a.env)))
theorem ev_call {g : Expr} {e : Expr} {rest : List Expr} {pos : Pos} {f : Value} {vs : List AV} {v : AV} (hf : EvalTo C n a g F H (.val f) H₀) (ha : ArgsTo C n a pos (e :: rest) F H₀ vs H₁) (hc : CallTo C n f vs H₁ v H₂)
    (hk : keepIn C.K f = true)
    (he : autoParam (CallIs a g e rest pos) rflS)
    (hs : autoParam (StarIs a e rest) rflS) (hplain : autoParam ((backTo pos (starEach rest a.env)).any (·.1) = false) rflS) :
    EvalTo C n a (.Call g (e :: rest) [] pos) F H v H₂ := fun A hA r s Q E st k =>
  Call_ (hf.val hA st fun r₁ h₁ tk₁ x₁ st₁ => callWith_K (C.hK) hk (ha A hA r₁ _ _ _ st₁ fun us r₂ h₂ tk₂ x₂ p₂ st₂ => ⟨C.hK.keeps st₂.hp.keep, call_here hc hA p₂ st₂ (k.then (x₁.trans x₂))⟩) hs hplain) he

theorem ev_call_builtin {g : Expr} {e : Expr} {rest : List Expr} {pos : Pos} {id : String} {vs : List AV} {v : AV} (hf : EvalTo C n a g F H (.val (.builtin id)) H₀) (ha : ArgsTo C n a pos (e :: rest) F H₀ vs H₁) (hc : CallTo C n (.builtin id) vs H₁ v H₂)
    (he : autoParam (CallIs a g e rest pos) rflS)
    (hs : autoParam (StarIs a e rest) rflS) (hplain : autoParam ((backTo pos (starEach rest a.env)).any (·.1) = false) rflS) :
    EvalTo C n a (.Call g (e :: rest) [] pos) F H v H₂ := fun A hA r s Q E st k =>
  Call_ (hf.val hA st fun r₁ h₁ tk₁ x₁ st₁ => PyProof.Rows.callWith_builtin1 (ha A hA r₁ _ _ _ st₁ fun us r₂ h₂ tk₂ x₂ p₂ st₂ => call_here hc hA p₂ st₂ (k.then (x₁.trans x₂))) hs hplain) he

theorem ev_call_type {g : Expr} {e : Expr} {rest : List Expr} {pos : Pos} {id : String} {vs : List AV} {v : AV} (hf : EvalTo C n a g F H (.val (.type id)) H₀) (ha : ArgsTo C n a pos (e :: rest) F H₀ vs H₁) (hc : CallTo C n (.type id) vs H₁ v H₂)
    (he : autoParam (CallIs a g e rest pos) rflS)
    (hs : autoParam (StarIs a e rest) rflS) (hplain : autoParam ((backTo pos (starEach rest a.env)).any (·.1) = false) rflS) :
    EvalTo C n a (.Call g (e :: rest) [] pos) F H v H₂ := fun A hA r s Q E st k =>
  Call_ (hf.val hA st fun r₁ h₁ tk₁ x₁ st₁ => PyProof.Rows.callWith_type1 (ha A hA r₁ _ _ _ st₁ fun us r₂ h₂ tk₂ x₂ p₂ st₂ => call_here hc hA p₂ st₂ (k.then (x₁.trans x₂))) hs hplain) he

/-! displays -/
theorem small_line {k : Nat} (h : k ≤ 4096) : k ≤ sizeLine := Nat.le_trans h (Nat.le_of_ble_eq_true rfl)
/-- behind a new object -/
theorem After.new {r r₁ : List Addr} {s : Shared} {h₁ : Heap} {tk : Nat} {Q : Value → Shared → Prop} {o : Obj} {ao : AO} (k : After C a r s F (H ++ [ao]) (fun r u => VR r (.obj H.length) u) Q) (x : Ext (some a.env.locals) r s.heap r₁ h₁) (st : St C a r₁ F H h₁) (ho : OR C r₁ ao o) (hf : autoParam (o.isFreed = false) rflS) :
    Q (.ref h₁.objs.size) (sh s (h₁.push o) tk) :=
  let ⟨x₂, hp⟩ := st.hp.alloc ho hf
  k _ _ _ _ (x.trans x₂.ofNone) (.obj _ _ (last_get st.hp.len)) (st.after x₂ hp)
theorem ev_list {es : List Expr} {pos : Pos} {vs : List AV} (h : ArgsTo C n a pos es F H vs H₁) (hl : vs.length ≤ 4096) : EvalTo C n a (.List es pos) F H (.obj H₁.length) (H₁ ++ [.list vs]) := fun A hA r s Q E st k =>
  wpAny_List (h A hA r s _ _ st fun us r₁ h₁ tk₁ x₁ p₁ st₁ => ⟨p₁.length ▸ small_line hl, k.new x₁ st₁ (.list vs us 0 p₁ (small_line hl))⟩)
theorem ev_tuple {es : List Expr} {q : Nat} {pos : Pos} {vs : List AV} (h : ArgsTo C n a pos es F H vs H₁) (hl : vs.length ≤ 4096) : EvalTo C n a (.Tuple es q pos) F H (.obj H₁.length) (H₁ ++ [.tup vs]) := fun A hA r s Q E st k =>
  wpAny_Tuple (h A hA r s _ _ st fun us r₁ h₁ tk₁ x₁ p₁ st₁ => ⟨p₁.length ▸ small_line hl, k.new x₁ st₁ (.tup vs us p₁)⟩)

/-! items and cuts of lists -/
theorem Hp.list {C : Cx} {r : List Addr} {H : List AO} {h : Heap} (s : Hp C r H h) {i : Nat} {x : Addr} {xs : List AV} (hi : H[i]? = some (.list xs)) (hx : r[i]? = some x) :
    ∃ us k, VRs r xs us ∧ xs.length ≤ sizeLine ∧ h.get? x = some (listOf us.toArray k) := by
  obtain ⟨o, e2, us, k, rfl, p, b⟩ := s.at hi hx
  exact ⟨us, k, p, b, e2⟩
/-- the list itself -/
theorem Hp.isList {C : Cx} {r : List Addr} {H : List AO} {h : Heap} (s : Hp C r H h) {i : Nat} {x : Addr} {xs : List AV} (hi : H[i]? = some (.list xs)) (hx : r[i]? = some x) :
    ∃ us, VRs r xs us ∧ us.toArray.size = xs.length ∧ xs.length ≤ sizeLine ∧ h.IsList x us.toArray := by
  obtain ⟨us, k, p, b, e2⟩ := s.list hi hx
  exact ⟨us, p, List.size_toArray.trans p.length, b, _, e2, rfl, k, rfl⟩

theorem item_small {i : Int} {k : Nat} (h0 : 0 ≤ i) (h : i.toNat < k) (hl : k ≤ sizeLine) : i < 2 ^ 63 := by
  have : sizeLine = 16777216 := rfl
  lia
theorem ev_item {e j : Expr} {pos : Pos} {h : Nat} {i : Int} {xs : List AV} {v : AV} (he : EvalTo C n a e F H (.obj h) H₁) (hj : EvalTo C n a j F H₁ (.int i) H₂) (hx : H₂[h]? = some (.list xs)) (h0 : 0 ≤ i) (hv : xs[i.toNat]? = some v)
    (hb : autoParam (∀ o k, subscripted j false o k = operate [o, k] (getItem o k)) intro2S) : EvalTo C n a (.Subscript e j pos) F H v H₂ := fun A hA r s Q E st k =>
  Subscript_ (he.obj hA st fun y r₁ h₁ tk₁ ey x₁ st₁ => hj.int hA st₁ fun t r₂ h₂ tk₂ x₂ st₂ => by
    obtain ⟨us, p, z, b, hl⟩ := st₂.hp.isList hx (x₂.pre.get ey)
    obtain ⟨w, ew, pw⟩ := p.get hv
    exact tail_any (s := sh s h₂ tk₂) hl.typeIs slot_list_getitem.lookup (wpAny_getItem_list hl h0 (item_small h0 (gl hv) b) (List.getElem?_toArray.trans ew) (k _ r₂ h₂ _ (x₁.trans x₂) pw st₂)) (hb _ _))

end
end Mine
namespace Mine
open PySem PySem.W PySem.Calls PySem.Spec PyProof.Rows

/-- F' knows no more than F -/
noncomputable def FSub (F' F : List (Option AV)) : Prop := ∀ (i : Nat) (v : AV), F'[i]? = some (some v) → F[i]? = some (some v)

section
variable {C : Cx} {n m : Nat} {a : Act} {F F' F₁ F₂ : List (Option AV)} {H H' H₀ H₁ H₂ : List AO}

theorem St.weak {r : List Addr} {h : Heap} (s : St C a r F H h) (k : FSub F' F) : St C a r F' H h :=
  ⟨s.hp, s.ok, s.offL, s.nL, s.ns.imp fun m h => ⟨h.1, fun i x v h1 h2 => h.2 i x v h1 (k i v h2)⟩, s.cells⟩

theorem Xm.weakPost {m : Nat} {f : AFlow} {t : Sem Flow} (h : Xm C n a m t F H f F₁ H₁) (k : FSub F' F₁) : Xm C n a m t F H f F' H₁ :=
  fun A hA r s Q E st q => h A hA r s Q E st fun u r' h' tk' x p st' => q u r' h' tk' x p (st'.weak k)
theorem Xm.more {m k : Nat} {f : AFlow} {t : Sem Flow} (h : Xm C n a m t F H f F₁ H₁) (hk : k ≤ m) : Xm C n a k t F H f F₁ H₁ :=
  fun A hA r s Q E st q => h A hA r s Q E st fun u r' h' tk' x p st' => q u r' h' tk' (x.le hk) p st'

/-! names stored -/
theorem NsR.put {T : List Str} {r : List Addr} {m : Str → Option Value} {h' : Heap} {L : Addr} {x : Str} {u : Value} {v : AV} {i : Nat} (hnd : T.Nodup) (hi : T[i]? = some x) (p : VR r v u)
    (hm : ∀ (i : Nat) (x : Str) (v : AV), T[i]? = some x → F[i]? = some (some v) → ∃ u, m x = some u ∧ VR r v u) (hn : h'.Ns L (fun y => if y = x then some u else m y)) : NsR T r (F.set i (some v)) h' L := by
  refine ⟨_, hn, fun j y w h1 h2 => ?_⟩
  by_cases q : i = j
  · subst q
    obtain rfl := ss hi h1
    have hl := gl h2
    rw [List.length_set] at hl
    obtain rfl := Option.some.inj (ss (List.getElem?_set_self hl) h2)
    exact ⟨u, if_pos rfl, p⟩
  · rw [List.getElem?_set_ne q] at h2
    obtain ⟨w', e, k⟩ := hm j y w h1 h2
    refine ⟨w', (if_neg fun z => q ?_).trans e, k⟩
    subst z
    exact (List.getElem?_inj (gl hi) hnd).mp (hi.trans h1.symm)
theorem St.store {r : List Addr} {h h' : Heap} {F' : List (Option AV)} (s : St C a r F H h) (hn : NsR a.T r F' h' a.env.locals) (hs : Heap.SameBut a.env.locals h h') :
    Ext (some a.env.locals) r h r h' ∧ St C a r F' H h' := by
  have hk : ∀ b o, h.get? b = some o → b ≠ a.env.locals → h'.get? b = some o := fun b o e q => (hs.2 b q).trans e
  refine ⟨⟨isPre.refl r, fun b o e _ q => hk b o e (fun z => q (congrArg some z)), fun b o e => ?_, fun _ e => .inl e⟩, ⟨⟨fun b o e => hk b o (s.hp.keep b o e) fun q => noSome s.offL (q ▸ e), s.hp.off, s.hp.nd, s.hp.len, s.hp.lo, fun j ao e => ?_⟩, s.ok, s.offL, s.nL, hn, s.cells⟩⟩
  · by_cases q : b = a.env.locals
    · exact q ▸ hn.here
    · exact ⟨o, hk b o e q⟩
  · obtain ⟨y, o, e1, e2, e3⟩ := s.hp.obj j ao e
    exact ⟨y, o, e1, hk y o e2 fun q => s.nL (q ▸ List.mem_of_getElem? e1), e3⟩

theorem noClass (ok : a.Ok C) : (a.env.scope.kind == .class || (a.env.scope.kind == .module && a.env.locals != a.env.globals)) = false := by
  rw [ok.kind]; rfl

theorem store_local {x : Str} {v : AV} {i : Nat} (hi : a.T[i]? = some x) {A : Around} {r : List Addr} {s : Shared} {u : Value} {Q : Unit → Shared → Prop} {E : Value → Shared → Prop} (st : St C a r F H s.heap) (p : VR r v u)
    (k : ∀ h' tk', Ext (some a.env.locals) r s.heap r h' → St C a r (F.set i (some v)) H h' → Q () (sh s h' tk')) : wpAny (model C.prog C.w) A (storeName a.env x u) Q E s := by
  obtain ⟨m, hn, hm⟩ := st.ns
  refine wpAny_storeName_local (st.ok.loc x (List.mem_of_getElem? hi)) hn (fun h' hn' hs => ?_) (noClass st.ok)
  have z := st.store (NsR.put st.ok.nd hi p hm hn') hs
  exact k h' _ z.1 z.2

theorem store_cell {x : Str} {v : AV} {i : Nat} {w₀ : Option AV} (hi : (x, i) ∈ a.ch) (hc : a.env.kindOf x = some .cell) (h0 : H[i]? = some (.cell w₀)) {A : Around} {r : List Addr} {s : Shared} {u : Value} {Q : Unit → Shared → Prop} {E : Value → Shared → Prop} (st : St C a r F H s.heap) (p : VR r v u)
    (k : ∀ h' tk', Ext (some a.env.locals) r s.heap r h' → St C a r F (H.set i (.cell (some v))) h' → Q () (sh s h' tk')) : wpAny (model C.prog C.w) A (storeName a.env x u) Q E s := by
  obtain ⟨c, o, e1, e2, e4, e5⟩ := cell_at st hi h0
  have hv₀ : ∃ v₀, o.data = .cell v₀ := by
    cases w₀ with
    | none => exact ⟨_, e5⟩
    | some w => exact e5.elim fun u h => ⟨_, h.1⟩
  obtain ⟨v₀, hv₀⟩ := hv₀
  refine wpAny_storeName_cell st.ok.kind hc e1 ⟨o, e4, hv₀⟩ fun h' hv hs => ?_
  obtain ⟨o', ho', hd'⟩ := hv
  have z := st.hp.turn (ao := .cell (some v)) e2 (.cellS o' v u hd' p) ho' fun b o hb e => hs.extBut b o hb e
  exact k h' _ z.1.ofNone (st.after z.1 z.2)

theorem ex_assign {x : Str} {p pos : Pos} {e : Expr} {v : AV} (i : Nat) (hi : At a.T x i) (h : EvalTo C n a e F H v H₁) (hs : autoParam (swapsWith e (some (.Name x p)) pos.line a.env = pure false) rflS) :
    ExecTo C n a m (.Assign [.Name x p] e pos) F H .next (F.set i (some v)) H₁ := fun A hA r s Q E st k =>
  wpAny_Assign_Name (h A hA r s _ _ st fun u r₁ h₁ tk₁ x₁ p₁ st₁ => store_local hi.get (s := sh s h₁ tk₁) st₁ p₁ fun h' tk' x' st' => k _ _ _ _ (x₁.trans x').toM .next st') hs

theorem ex_assign_cell {x : Str} {p pos : Pos} {e : Expr} {v : AV} {w₀ : Option AV} (i : Nat) (hi : (x, i) ∈ a.ch) (hc : a.env.kindOf x = some .cell) (h : EvalTo C n a e F H v H₁) (h0 : H₁[i]? = some (.cell w₀)) (hs : autoParam (swapsWith e (some (.Name x p)) pos.line a.env = pure false) rflS) :
    ExecTo C n a m (.Assign [.Name x p] e pos) F H .next F (H₁.set i (.cell (some v))) := fun A hA r s Q E st k =>
  wpAny_Assign_Name (h A hA r s _ _ st fun u r₁ h₁ tk₁ x₁ p₁ st₁ => store_cell hi hc h0 (s := sh s h₁ tk₁) st₁ p₁ fun h' tk' x' st' => k _ _ _ _ (x₁.trans x').toM .next st') hs

theorem ex_aug {x : Str} {p pos : Pos} {op : Operator} {e : Expr} {y z w : Int} (i : Nat) (hi : At a.T x i) (hv : F[i]? = some (some (.int y))) (h : EvalTo C n a e F H (.int z) H₁) (hop : IOp op y z w) :
    ExecTo C n a m (.AugAssign (.Name x p) op e pos) F H .next (F.set i (some (.int w))) H₁ := by
  intro A hA r s Q E st k
  obtain ⟨m, hn, hm⟩ := st.ns
  obtain ⟨u, eu, t, rfl⟩ := hm i x _ hi.get hv
  exact wpAny_AugAssign_Name (wpAny_loadName_local st.ok.kind (st.ok.loc x (List.mem_of_getElem? hi.get)) hn eu
    (h.int hA st fun t' r₁ h₁ tk₁ x₁ st₁ => hop.aug (store_local hi.get (s := sh s h₁ (tk₁ + 1)) st₁ (.int w tk₁) fun h' tk' x' st' => k _ _ _ _ (x₁.trans x').toM .next st')))

theorem ex_return {e : Expr} {pos : Pos} {v : AV} (h : EvalTo C n a e F H v H₁) : ExecTo C n a m (.Return (some e) pos) F H (.ret v) F H₁ := fun A hA r s Q E st k =>
  wpAny_Return_some (h A hA r s _ _ st fun u r₁ h₁ tk₁ x₁ p₁ st₁ => k _ _ _ _ x₁.toM (.ret p₁) st₁)

theorem ex_if {c : Expr} {y z : List Stmt} {pos : Pos} {b : Bool} {f : AFlow} (hc : TestTo C n a c F H b H₁) (h : ExecsTo C n a m (if b then y else z) F H₁ f F₂ H₂) : ExecTo C n a m (.If c y z pos) F H f F₂ H₂ := fun A hA r s Q E st k =>
  wpAny_If (hc.go hA st fun r₁ h₁ tk₁ x₁ st₁ => by cases b <;> exact h A hA r₁ _ _ _ st₁ (k.then x₁.toM))

theorem exs_nil : ExecsTo C n a m [] F H .next F H := fun A hA r s Q E st k => wpAny_execs_nil (k.self st .next s.toks)
theorem exs_cons {x : Stmt} {rest : List Stmt} {f : AFlow} (h : ExecTo C n a m x F H .next F₁ H₁) (h' : ExecsTo C n a m rest F₁ H₁ f F₂ H₂) : ExecsTo C n a m (x :: rest) F H f F₂ H₂ := fun A hA r s Q E st k =>
  wpAny_execs_cons (h.next hA st fun r₁ h₁ tk₁ x₁ st₁ => h' A hA r₁ _ _ _ st₁ (k.then x₁))
theorem exs_ret {x : Stmt} {rest : List Stmt} {v : AV} (h : ExecTo C n a m x F H (.ret v) F₁ H₁) : ExecsTo C n a m (x :: rest) F H (.ret v) F₁ H₁ := fun A hA r s Q E st k =>
  wpAny_execs_cons (h.ret hA st fun u r₁ h₁ tk₁ x₁ p₁ st₁ => k _ _ _ _ x₁ (.ret p₁) st₁)

end

/-! while -/
noncomputable def WhileN (C : Cx) (n : Nat) (a : Act) (m : Nat) (c : Expr) (body : List Stmt) : Nat → List (Option AV) → List AO → AFlow → List (Option AV) → List AO → Prop
  | 0, F, H, f, F', H' => TestTo C n a c F H false H' ∧ f = .next ∧ F' = F
  | k + 1, F, H, f, F', H' => ∃ H₁ F₂ H₂, TestTo C n a c F H true H₁ ∧ ExecsTo C n a m body F H₁ .next F₂ H₂ ∧ WhileN C n a m c body k F₂ H₂ f F' H'
noncomputable def WhileTo (C : Cx) (n : Nat) (a : Act) (m : Nat) (c : Expr) (body : List Stmt) (F : List (Option AV)) (H : List AO) (f : AFlow) (F' : List (Option AV)) (H' : List AO) : Prop := ∃ k, WhileN C n a m c body k F H f F' H'

/-- where a loop stands behind i turns -/
structure LoopAt (C : Cx) (a : Act) (m : Nat) (own : List Addr) (W : Nat → Heap → Prop) (r : List Addr) (h₀ : Heap) (i : Nat) (r₁ : List Addr) (F : List (Option AV)) (H : List AO) (h : Heap) : Prop where
  pre : Mv m r r₁
  keep : ∀ b o, h₀.get? b = some o → b ∉ r → b ∉ own → b ≠ a.env.locals → h.get? b = some o
  live : ∀ b o, h₀.get? b = some o → ∃ o', h.get? b = some o'
  fresh : ∀ x ∈ r₁, x ∈ r ∨ h₀.get? x = none
  st : St C a r₁ F H h
  w : W i h

section
variable {C : Cx} {n m : Nat} {a : Act} {F F' F₁ F₂ : List (Option AV)} {H H' H₀ H₁ H₂ : List AO}

theorem WhileTo.stop {c : Expr} {body : List Stmt} (h : TestTo C n a c F H false H') : WhileTo C n a m c body F H .next F H' := ⟨0, h, rfl, rfl⟩
theorem WhileTo.turn {c : Expr} {body : List Stmt} {f : AFlow} (h : TestTo C n a c F H true H₁) (b : ExecsTo C n a m body F H₁ .next F₂ H₂) (w : WhileTo C n a m c body F₂ H₂ f F' H') : WhileTo C n a m c body F H f F' H' :=
  w.elim fun k w => ⟨k + 1, _, _, _, h, b, w⟩

inductive WhJ (C : Cx) (n : Nat) (a : Act) (m : Nat) (c : Expr) (body : List Stmt) (f : AFlow) (F' : List (Option AV)) (H' : List AO) (r : List Addr) (s : Shared) : Nat → Shared → Prop
  | mk (N : Nat) (F₁ : List (Option AV)) (H₁ : List AO) (r₁ : List Addr) (h₁ : Heap) (tk₁ : Nat) (W : WhileN C n a m c body N F₁ H₁ f F' H') (x : ExtM m (some a.env.locals) r s.heap r₁ h₁) (st : St C a r₁ F₁ H₁ h₁) : WhJ C n a m c body f F' H' r s N (sh s h₁ tk₁)
theorem ex_while {c : Expr} {body : List Stmt} {pos : Pos} {f : AFlow} (W : WhileTo C n a m c body F H f F' H') : ExecTo C n a m (.While c body [] pos) F H f F' H' := by
  intro A hA r s Q E st k
  obtain ⟨N, W⟩ := W
  refine wpAny_While (codeAny_whileLoop (WhJ C n a m c body f F' H' r s) ?_ N (.mk N F H r s.heap s.toks W (Ext.refl ..).toM st))
  intro N s' J
  cases J with | mk F₁ H₁ r₁ h₁ tk₁ W x₁ st₁
  cases N with
  | zero =>
    refine W.1.go hA st₁ fun r₂ h₂ tk₂ x₂ st₂ => wpAny_execs_nil ?_
    obtain ⟨_, rfl, rfl⟩ := W
    exact k _ _ _ _ (x₁.trans x₂.toM) .next st₂
  | succ N =>
    obtain ⟨H₂, F₃, H₃, h, b, w⟩ := W
    exact h.go hA st₁ fun r₂ h₂ tk₂ x₂ st₂ => b.next hA st₂ fun r₃ h₃ tk₃ x₃ st₃ => ⟨_, Nat.lt_succ_self _, .mk N _ _ r₃ h₃ tk₃ w (x₁.trans (x₂.toM.trans x₃)) st₃⟩

/-! for -/
/-- an iterator that the loop alone holds: own its objects, one entry of gs a turn: what the turn binds -/
structure Turns (C : Cx) (n : Nat) (a : Act) (m : Nat) (target : Expr) (it : Value) (r₀ : List Addr) (own : List Addr) (gs : List (List (Option AV) → List (Option AV))) (Inv : List AO → Prop) (W : Nat → Heap → Prop) : Prop where
  frame : ∀ i h h', W i h → (∀ b ∈ own, ∀ o, h.get? b = some o → h'.get? b = some o) → W i h'
  live : ∀ i h, W i h → ∀ b ∈ own, ∃ o, h.get? b = some o
  item : ∀ A, Room n A → ∀ (i : Nat) (g : List (Option AV) → List (Option AV)) (r : List Addr) (F : List (Option AV)) (H : List AO) (s : Shared) (Q : Unit → Shared → Prop) (E : Value → Shared → Prop), Mv m r₀ r → gs[i]? = some g → W i s.heap → St C a r F H s.heap → (∀ b ∈ own, b ∉ r ∧ b ≠ a.env.locals ∧ C.base.get? b = none) → Inv H →
    (∀ h' tk', (∀ b o, s.heap.get? b = some o → b ∉ r → b ∉ own → b ≠ a.env.locals → h'.get? b = some o) → (∀ b o, s.heap.get? b = some o → ∃ o', h'.get? b = some o') → W (i + 1) h' → St C a r (g F) H h' → Q () (sh s h' tk')) →
    wpAny (model C.prog C.w) A (pyNext it) (fun o s₁ => match o with | none => False | some v => wpAny (model C.prog C.w) A (letOwnedTupleGo target it v) (fun _ s₂ => wpAny (model C.prog C.w) A (assign target a.env v) Q E s₂) E s₁) E s
  done : ∀ A, Room n A → ∀ (r : List Addr) (F : List (Option AV)) (H : List AO) (s : Shared) (Q : Option Value → Shared → Prop) (E : Value → Shared → Prop), Mv m r₀ r → W gs.length s.heap → St C a r F H s.heap → (∀ b ∈ own, b ∉ r ∧ b ≠ a.env.locals ∧ C.base.get? b = none) → Inv H →
    (∀ h' tk', (∀ b o, s.heap.get? b = some o → b ∉ own → h'.get? b = some o) → St C a r F H h' → Q none (sh s h' tk')) → wpAny (model C.prog C.w) A (pyNext it) Q E s

section
variable {target : Expr} {it : Value} {r₀ own : List Addr} {gs : List (List (Option AV) → List (Option AV))} {Inv : List AO → Prop} {W : Nat → Heap → Prop} {h₀ : Heap} {i : Nat} {r r₁ : List Addr}
/-- one turn, its item's part -/
theorem Turns.step (T : Turns C n a m target it r own gs Inv W) {A : Around} (hA : Room n A) {g : List (Option AV) → List (Option AV)} {s : Shared} {Q : Unit → Shared → Prop} {Q₀ : Option Value → Shared → Prop} {E : Value → Shared → Prop} (l : LoopAt C a m own W r h₀ i r₁ F H s.heap)
    (ho : ∀ b ∈ own, b ∉ r ∧ b ≠ a.env.locals ∧ C.base.get? b = none) (ho' : ∀ b ∈ own, ∃ o, h₀.get? b = some o) (hg : gs[i]? = some g) (hI : Inv H)
    (hQ : ∀ v s₁, wpAny (model C.prog C.w) A (letOwnedTupleGo target it v) (fun _ s₂ => wpAny (model C.prog C.w) A (assign target a.env v) Q E s₂) E s₁ → Q₀ (some v) s₁)
    (k : ∀ h₂ tk₂, St C a r₁ (g F) H h₂ → (∀ r₃ F₂ H₂ h₃, ExtM m (some a.env.locals) r₁ h₂ r₃ h₃ → St C a r₃ F₂ H₂ h₃ → LoopAt C a m own W r h₀ (i + 1) r₃ F₂ H₂ h₃) → Q () (sh s h₂ tk₂)) :
    wpAny (model C.prog C.w) A (pyNext it) Q₀ E s := by
  have ho₁ : ∀ b ∈ own, b ∉ r₁ ∧ b ≠ a.env.locals ∧ C.base.get? b = none := fun b hb => ⟨(ho' b hb).elim fun o e => not_in l.fresh e (ho b hb).1, (ho b hb).2⟩
  refine wpAny_mono (T.item A hA i g r₁ F H s Q E l.pre hg l.w l.st ho₁ hI fun h₂ tk₂ keep live w st => ?_) (fun o s₁ h => ?_) fun _ _ h => h
  · refine k h₂ tk₂ st fun r₃ F₂ H₂ h₃ x st' => ⟨fun j y hj e => x.pre j y hj (l.pre j y hj e), fun b o e hb hbo hbL => ?_, live_trans l.live (live_trans live x.live), fresh_trans l.live l.fresh (fresh_trans live (fun _ q => .inl q) x.fresh), st',
      T.frame _ _ _ w fun b hb o e => x.keep b o e (ho₁ b hb).1 fun z => (ho₁ b hb).2.1 (Option.some.inj z)⟩
    have hb₁ := not_in l.fresh e hb
    exact x.keep b o (keep b o (l.keep b o e hb hbo hbL) hb₁ hbo hbL) hb₁ fun z => hbL (Option.some.inj z)
  · cases o with
    | none => exact False.elim h
    | some v => exact hQ v s₁ h
/-- behind the last turn -/
theorem Turns.end (T : Turns C n a m target it r own gs Inv W) {A : Around} (hA : Room n A) {s : Shared} {Q : Option Value → Shared → Prop} {E : Value → Shared → Prop} (l : LoopAt C a m own W r h₀ gs.length r₁ F H s.heap)
    (ho : ∀ b ∈ own, b ∉ r ∧ b ≠ a.env.locals ∧ C.base.get? b = none) (ho' : ∀ b ∈ own, ∃ o, h₀.get? b = some o) (hI : Inv H)
    (k : ∀ h' tk', Mv m r r₁ → (∀ b o, h₀.get? b = some o → b ∉ r → b ∉ own → b ≠ a.env.locals → h'.get? b = some o) → (∀ b o, h₀.get? b = some o → b ∉ own → ∃ o', h'.get? b = some o') → (∀ x ∈ r₁, x ∈ r ∨ h₀.get? x = none) → St C a r₁ F H h' → Q none (sh s h' tk')) :
    wpAny (model C.prog C.w) A (pyNext it) Q E s :=
  T.done A hA r₁ F H s Q E l.pre l.w l.st (fun b hb => ⟨(ho' b hb).elim fun o e => not_in l.fresh e (ho b hb).1, (ho b hb).2⟩) hI fun h' tk' keep st =>
    k h' tk' l.pre (fun b o e hb hbo hbL => keep b o (l.keep b o e hb hbo hbL) hbo) (fun b o e hbo => (l.live b o e).elim fun o₁ e₁ => ⟨o₁, keep b o₁ e₁ hbo⟩) l.fresh st
theorem LoopAt.zero {h : Heap} (st : St C a r F H h) (w : W 0 h) : LoopAt C a m own W r h 0 r F H h := ⟨fun _ _ _ e => e, fun _ _ e _ _ _ => e, fun _ o e => ⟨o, e⟩, fun _ e => .inl e, st, w⟩
end

noncomputable def ForTo (C : Cx) (n : Nat) (a : Act) (m : Nat) (body : List Stmt) (Inv : List AO → Prop) : List (List (Option AV) → List (Option AV)) → List (Option AV) → List AO → AFlow → List (Option AV) → List AO → Prop
  | [], F, H, f, F', H' => Inv H ∧ f = .next ∧ F' = F ∧ H' = H
  | g :: gs, F, H, f, F', H' => Inv H ∧ ((∃ F₁ H₁, ExecsTo C n a m body (g F) H .next F₁ H₁ ∧ ForTo C n a m body Inv gs F₁ H₁ f F' H') ∨ ∃ v, f = .ret v ∧ ExecsTo C n a m body (g F) H (.ret v) F' H')
theorem ForTo.nil {body : List Stmt} {Inv : List AO → Prop} (i : Inv H) : ForTo C n a m body Inv [] F H .next F H := ⟨i, rfl, rfl, rfl⟩
theorem ForTo.step {body : List Stmt} {Inv : List AO → Prop} {g : List (Option AV) → List (Option AV)} {gs : List (List (Option AV) → List (Option AV))} {f : AFlow} (i : Inv H) (b : ExecsTo C n a m body (g F) H .next F₁ H₁) (k : ForTo C n a m body Inv gs F₁ H₁ f F' H') : ForTo C n a m body Inv (g :: gs) F H f F' H' := ⟨i, .inl ⟨F₁, H₁, b, k⟩⟩
theorem ForTo.ret {body : List Stmt} {Inv : List AO → Prop} {g : List (Option AV) → List (Option AV)} {gs : List (List (Option AV) → List (Option AV))} {v : AV} (i : Inv H) (b : ExecsTo C n a m body (g F) H (.ret v) F₁ H₁) : ForTo C n a m body Inv (g :: gs) F H (.ret v) F₁ H₁ := ⟨i, .inr ⟨v, rfl, b⟩⟩

theorem drop_cons_at {α : Type} {l t : List α} {x : α} {i : Nat} (e : l.drop i = x :: t) : l[i]? = some x ∧ l.drop (i + 1) = t := by
  constructor
  · have := congrArg (·[0]?) e
    simpa using this
  · rw [← List.drop_drop, e]; rfl

inductive ForJ (C : Cx) (n : Nat) (a : Act) (m : Nat) (body : List Stmt) (own : List Addr) (gs : List (List (Option AV) → List (Option AV))) (Inv : List AO → Prop) (W : Nat → Heap → Prop) (f : AFlow) (F' : List (Option AV)) (H' : List AO) (r : List Addr) (s : Shared) : Nat → Shared → Prop
  | mk (i : Nat) (gs' : List (List (Option AV) → List (Option AV))) (F₁ : List (Option AV)) (H₁ : List AO) (r₁ : List Addr) (h₁ : Heap) (tk₁ : Nat) (hi : i ≤ gs.length) (hd : gs.drop i = gs') (L : ForTo C n a m body Inv gs' F₁ H₁ f F' H') (l : LoopAt C a m own W r s.heap i r₁ F₁ H₁ h₁) : ForJ C n a m body own gs Inv W f F' H' r s gs'.length (sh s h₁ tk₁)
theorem for_code {target : Expr} {it : Value} {body : List Stmt} {own : List Addr} {gs : List (List (Option AV) → List (Option AV))} {Inv : List AO → Prop} {W : Nat → Heap → Prop} {f : AFlow} {r : List Addr} (T : Turns C n a m target it r own gs Inv W)
    (L : ForTo C n a m body Inv gs F H f F' H') {A : Around} (hA : Room n A) {R : Result → Shared → Prop} {s : Shared} (st : St C a r F H s.heap) (hw : W 0 s.heap) (ho : ∀ b ∈ own, b ∉ r ∧ b ≠ a.env.locals ∧ C.base.get? b = none)
    (k : ∀ u r' h' tk', Mv m r r' → (∀ b o, s.heap.get? b = some o → b ∉ r → b ∉ own → b ≠ a.env.locals → h'.get? b = some o) → (∀ b o, s.heap.get? b = some o → b ∉ own → ∃ o', h'.get? b = some o') → (∀ x ∈ r', x ∈ r ∨ s.heap.get? x = none) → FlR r' f u → St C a r' F' H' h' → R (.ok u) (sh s h' tk')) :
    codeAny (model C.prog C.w) A (.forLoop target it body [] a.env) R s := by
  have ho' := T.live 0 _ hw
  refine codeAny_forLoop_any (ForJ C n a m body own gs Inv W f F' H' r s) ?_ gs.length (.mk 0 gs F H r s.heap s.toks (Nat.zero_le _) rfl L (.zero st hw))
  intro M s' J
  cases J with | mk i gs' F₁ H₁ r₁ h₁ tk₁ hi hd L l
  cases gs' with
  | nil =>
    have l : LoopAt C a m own W r s.heap gs.length r₁ F₁ H₁ h₁ := Nat.le_antisymm hi (List.drop_eq_nil_iff.mp hd) ▸ l
    refine T.end hA l ho ho' L.1 fun h₂ tk₂ pre keep live fresh st₂ => wpAny_execs_nil ?_
    obtain ⟨_, rfl, rfl, rfl⟩ := L
    exact k _ r₁ h₂ tk₂ pre keep live fresh .next st₂
  | cons g gs' =>
    have hd' := drop_cons_at hd
    refine T.step hA l ho ho' hd'.1 L.1 (fun _ _ h => h) fun h₂ tk₂ st₂ nx => ?_
    rcases L.2 with ⟨F₂, H₂, b, L⟩ | ⟨v, rfl, b⟩
    · exact b.next hA st₂ fun r₃ h₃ tk₃ x₃ st₃ => ⟨_, Nat.lt_succ_self _, .mk (i + 1) gs' _ _ r₃ h₃ tk₃ (gl hd'.1) hd'.2 L (nx _ _ _ _ x₃ st₃)⟩
    · exact b.ret hA st₂ fun u r₃ h₃ tk₃ x₃ p₃ st₃ => by
        have z := nx _ _ _ _ x₃ st₃
        exact k _ r₃ h₃ tk₃ z.pre z.keep (fun b o e _ => z.live b o e) z.fresh (.ret p₃) z.st
end
end Mine
namespace Mine
open PySem PySem.W PySem.Calls PySem.Spec PyProof.Rows

section
variable {C : Cx} {n m : Nat} {a : Act} {F F' F₁ F₂ : List (Option AV)} {H H' H₀ H₁ H₂ : List AO}

theorem get?_push_none (h : Heap) (o : Obj) : h.get? (h.push o).objs.size = none := none_back (fun b o' e => ⟨o', Heap.get?_push_of_some o e⟩) (get?_size_none _)

/-- the state behind a turn of an iterator of the loop's own -/
theorem St.still {r : List Addr} {h h' : Heap} (s : St C a r F H h) {own : List Addr} (ho : ∀ b ∈ own, b ∉ r ∧ b ≠ a.env.locals ∧ C.base.get? b = none)
    (k : ∀ b o, h.get? b = some o → b ∉ own → h'.get? b = some o) : St C a r F H h' :=
  ⟨⟨fun b o e => k b o (s.hp.keep b o e) fun q => noSome (ho b q).2.2 e, s.hp.off, s.hp.nd, s.hp.len, s.hp.lo, fun i ao e => (s.hp.obj i ao e).imp fun x h => h.imp fun o h => ⟨h.1, k x o h.2.1 fun q => (ho x q).1 (List.mem_of_getElem? h.1), h.2.2⟩⟩,
    s.ok, s.offL, s.nL, s.ns.keeps (isPre.refl r) fun o e => k _ o e fun z => (ho _ z).2.1 rfl, s.cells⟩

theorem St.own_new {r : List Addr} {h : Heap} (s : St C a r F H h) {b : Addr} (e : h.get? b = none) : b ∉ r ∧ b ≠ a.env.locals ∧ C.base.get? b = none :=
  ⟨s.hp.not e, fun q => s.ns.here.elim fun _ e' => noSome e (q ▸ e'), s.hp.base e⟩

theorem not_one {b I : Addr} (h : b ∉ [I]) : b ≠ I := fun q => h (q ▸ List.mem_singleton.mpr rfl)
theorem one_own {h h' : Heap} {I : Addr} (k : Heap.SameBut I h h') : ∀ b o, h.get? b = some o → b ∉ [I] → h'.get? b = some o := fun b o e hb => k.extBut b o (not_one hb) e
/-- behind a store into the frame, an iterator at I alone being turned before -/
theorem Ext.turn {r : List Addr} {L : Addr} {h h₁ h₂ : Heap} (x : Ext (some L) r h₁ r h₂) {own : List Addr} (k : ∀ b o, h.get? b = some o → b ∉ own → h₁.get? b = some o) (lv : ∀ b ∈ own, ∃ o, h₁.get? b = some o) :
    (∀ b o, h.get? b = some o → b ∉ r → b ∉ own → b ≠ L → h₂.get? b = some o) ∧ ∀ b o, h.get? b = some o → ∃ o', h₂.get? b = some o' :=
  ⟨fun b o e hr hb hL => x.keep b o (k b o e hb) hr fun q => hL (Option.some.inj q), fun b o e => by
    by_cases hb : b ∈ own
    · exact (lv b hb).elim fun o' e' => x.live b o' e'
    · exact x.live b o (k b o e hb)⟩
theorem Ext.at {r : List Addr} {L : Addr} {h₁ h₂ : Heap} (x : Ext (some L) r h₁ r h₂) {I : Addr} (hI : I ∉ r ∧ I ≠ L) {o : Obj} (e : h₁.get? I = some o) : h₂.get? I = some o := x.keep I o e hI.1 fun q => hI.2 (Option.some.inj q)

/-! over a range -/
theorem next_at (s₀ d : Int) (j : Nat) : s₀ + (j : Int) * d + d = s₀ + ((j + 1 : Nat) : Int) * d := by push_cast; rw [Int.add_mul, Int.one_mul, Int.add_assoc]
theorem left_at (N : Int) (j : Nat) : N - (j : Int) - 1 = N - ((j + 1 : Nat) : Int) := by push_cast; lia
theorem map_range_get {α : Type} {N j : Nat} {f : Nat → α} {g : α} (h : ((List.range N).map f)[j]? = some g) : j < N ∧ f j = g := by
  have hj := gl h
  rw [List.length_map, List.length_range] at hj
  rw [List.getElem?_map, List.getElem?_range hj] at h
  exact ⟨hj, Option.some.inj h⟩
theorem pos_left {N j : Nat} (h : j < N) : (0 : Int) < (N : Int) - (j : Int) := by lia
theorem none_left {N : Nat} : (N : Int) - (N : Int) ≤ 0 := Int.le_of_eq (Int.sub_self _)
theorem turns_range {x : Str} {p : Pos} {i : Nat} (hi : a.T[i]? = some x) (I : Addr) (s₀ d : Int) (N : Nat) {r₀ : List Addr} :
    Turns C n a m (.Name x p) (.ref I) r₀ [I] ((List.range N).map fun j F => F.set i (some (.int (s₀ + (j : Nat) * d)))) (fun _ => True)
      (fun j h => IsRangeIter h I (s₀ + (j : Nat) * d) ((N : Int) - (j : Nat)) d) where
  frame := fun _ _ _ w k => k I (.head _) _ w
  live := fun _ _ w b hb => ⟨_, List.mem_singleton.mp hb ▸ w⟩
  item := fun A hA j g r F H s Q E _ hg hw st ho _ k => by
    obtain ⟨hj, rfl⟩ := map_range_get hg
    have hoI := ho I (.head _)
    refine wpAny_pyNext_range_item hw (pos_left hj) fun h₁ hit₁ hs₁ => ?_
    show wpAny _ _ (pure ()) _ _ _
    refine wpAny_pure (wpAny_assign_Name (store_local hi (s := sh s h₁ (s.toks + 1)) (st.still ho (one_own hs₁)) (.int _ s.toks) fun h₂ tk₂ x₂ st₂ => ?_))
    have z := x₂.turn (one_own hs₁) fun b hb => ⟨_, List.mem_singleton.mp hb ▸ hit₁⟩
    rw [next_at, left_at] at hit₁
    exact k h₂ tk₂ z.1 z.2 (x₂.at ⟨hoI.1, hoI.2.1⟩ hit₁) st₂
  done := fun A hA r F H s Q E _ hw st ho _ k => by
    rw [List.length_map, List.length_range] at hw
    refine wpAny_pyNext_range_end hA.hh hw none_left fun h₁ he₁ => ?_
    have kk : ∀ b o, s.heap.get? b = some o → b ∉ [I] → h₁.get? b = some o := fun b o e hb => he₁ b o (not_one hb) e
    exact k h₁ s.toks kk (st.still ho kk)

/-- a for over an iterator that was made for it: own stands at addresses that were free -/
theorem for_run {target : Expr} {body : List Stmt} {f : AFlow} {A : Around} (hA : Room n A) {r : List Addr} {s s₁ : Shared} {Q : Flow → Shared → Prop} {E : Value → Shared → Prop} {it : Value} {own : List Addr}
    {gs : List (List (Option AV) → List (Option AV))} {Inv : List AO → Prop} {W : Nat → Heap → Prop}
    (T : Turns C n a m target it r own gs Inv W) (L : ForTo C n a m body Inv gs F H f F' H') (st : St C a r F H s.heap)
    (hs : ∃ h tk, s₁ = { s with heap := h, toks := tk }) (hk : ∀ b o, s.heap.get? b = some o → s₁.heap.get? b = some o) (hw : W 0 s₁.heap) (hown : ∀ b ∈ own, s.heap.get? b = none)
    (k : AfterM C a m r s f F' H' Q) :
    codeAny (model C.prog C.w) A (.forLoop target it body [] a.env) (fun r s' => match r with | .ok f => Q f s' | .error e => cameBackBy (model C.prog C.w) A a.env E e s') s₁ := by
  obtain ⟨h, tk, rfl⟩ := hs
  refine for_code T L hA (s := sh s h tk) (st.after (Hp.still st.hp hk).1 (Hp.still st.hp hk).2) hw (fun b hb => st.own_new (hown b hb)) fun u r' h' tk' pre keep live fresh p st' => ?_
  have nown : ∀ b o, s.heap.get? b = some o → b ∉ own := fun b o e q => noSome (hown b q) e
  exact k u r' h' tk' ⟨pre, fun b o e hb hL => keep b o (hk b o e) hb (nown b o e) fun q => hL (congrArg some q), fun b o e => live b o (hk b o e) (nown b o e), fun x hx => (fresh x hx).imp_right fun q => none_back (fun b o e => ⟨o, hk b o e⟩) q⟩ p st'

noncomputable def rangeBinds (i : Nat) (s₀ d : Int) (N : Nat) : List (List (Option AV) → List (Option AV)) := (List.range N).map fun j F => F.set i (some (.int (s₀ + (j : Nat) * d)))

theorem size_nat (k : Int) : Builtin.Range.rangeSize 0 k 1 = ((k.toNat : Nat) : Int) := by rw [rangeSize_one]; split <;> lia
theorem size_down (k : Nat) : Builtin.Range.rangeSize ((k : Int) - 1) (-1) (-1) = ((k : Nat) : Int) := by
  unfold Builtin.Range.rangeSize
  rw [if_neg (by decide)]
  split
  · rw [show (-(-1) : Int) = 1 from rfl, Int.ediv_one]; lia
  · lia
theorem small_down {k : Nat} (hk : k < 2 ^ 62) : Builtin.Range.small ((k : Int) - 1) (-1) (-1) = true := by
  unfold Builtin.Range.small
  rw [size_down]
  simp only [Builtin.Range.rangeFitsLong, Bool.and_eq_true, Bool.or_eq_true, decide_eq_true_eq, beq_iff_eq]
  refine ⟨⟨⟨⟨by lia, by decide⟩, by decide⟩, by lia⟩, .inr ?_⟩
  rw [if_neg (by decide)]; decide
theorem range_start {h : Heap} {I : Addr} {s₀ d : Int} {N : Nat} (e : h.get? I = some { cls := .type "range_iterator", data := .fields #[rawInt s₀, rawInt (N : Int), rawInt d] }) : IsRangeIter h I (s₀ + ((0 : Nat) : Int) * d) ((N : Int) - ((0 : Nat) : Int)) d := by
  rw [Int.natCast_zero, Int.zero_mul, Int.add_zero, Int.sub_zero]; exact e

theorem ex_for_range1 {x g : Str} {px pg pc pos : Pos} {e : Expr} {body : List Stmt} {k : Int} {f : AFlow} (i : Nat) (hi : At a.T x i) (hg : (g, Value.type "range") ∈ a.G) (he : EvalTo C n a e F H (.int k) H₁) (hk : k < 2 ^ 62) (hk' : -(2 ^ 62) ≤ k)
    (L : ForTo C n a m body (fun _ => True) (rangeBinds i 0 1 k.toNat) F H₁ f F' H')
    (hc : autoParam (CallIs a (.Name g pg) e [] pc) rflS)
    (hs : autoParam (StarIs a e []) rflS)
    (hf : autoParam (∀ x, foldedSetIterable (.Call (.Name g pg) [e] [] pc) a.env x = pure x) introS) :
    ExecTo C n a m (.For (.Name x px) (.Call (.Name g pg) [e] [] pc) body [] pos) F H f F' H' := by
  intro A hA r s Q E st q
  refine wpAny_For (Call_ ((ev_global hg).val hA st fun r₀ h₀ tk₀ x₀ st₀ => PyProof.Rows.callWith_type1 (PyProof.Rows.args_cons (he.int hA st₀ fun t r₁ h₁ tk₁ x₁ st₁ => PyProof.Rows.args_nil (call_range_1 ?_)) hs) hs rfl) hc) hf
  refine wpAny_pyIter_range (IsRange.new ..) (small_one (by decide) (by decide) hk' hk) ?_
  rw [size_nat k]
  exact for_run hA (turns_range hi.get _ 0 1 k.toNat) L st₁ (s := sh s h₁ tk₁) ⟨_, _, rfl⟩ (fun b o e => Heap.get?_push_of_some _ (Heap.get?_push_of_some _ e))
    (range_start (Heap.get?_push_size (h₁.push { cls := .type "range", data := .fields #[.int 0 tk₁, .int k t, .int 1 (tk₁ + 1)] }) rfl)) (fun b hb => List.mem_singleton.mp hb ▸ get?_push_none h₁ _) (q.then (x₀.trans x₁).toM)

/-- range(n - 1, -1, -1) -/
theorem ex_for_down {x g : Str} {px pg pc pos : Pos} {e₁ e₂ e₃ : Expr} {body : List Stmt} {k : Nat} {f : AFlow} (i : Nat) (hi : At a.T x i) (hg : (g, Value.type "range") ∈ a.G)
    (he₁ : EvalTo C n a e₁ F H (.int ((k : Int) - 1)) H) (he₂ : EvalTo C n a e₂ F H (.int (-1)) H) (he₃ : EvalTo C n a e₃ F H (.int (-1)) H) (hk : k < 2 ^ 62)
    (L : ForTo C n a m body (fun _ => True) (rangeBinds i ((k : Int) - 1) (-1) k) F H f F' H')
    (hc : autoParam (CallIs a (.Name g pg) e₁ [e₂, e₃] pc) rflS)
    (hs₁ : autoParam (StarIs a e₁ [e₂, e₃]) rflS) (hs₂ : autoParam (StarIs a e₂ [e₃]) rflS) (hs₃ : autoParam (StarIs a e₃ []) rflS)
    (hpl : autoParam ((backTo pc (starEach [e₂, e₃] a.env)).any (·.1) = false) rflS)
    (hf : autoParam (∀ x, foldedSetIterable (.Call (.Name g pg) [e₁, e₂, e₃] [] pc) a.env x = pure x) introS) :
    ExecTo C n a m (.For (.Name x px) (.Call (.Name g pg) [e₁, e₂, e₃] [] pc) body [] pos) F H f F' H' := by
  intro A hA r s Q E st q
  refine wpAny_For (Call_ ((ev_global hg).val hA st fun r₀ h₀ tk₀ x₀ st₀ => PyProof.Rows.callWith_type1 (PyProof.Rows.args_cons (he₁.int hA st₀ fun t₁ r₁ h₁ tk₁ x₁ st₁ => PyProof.Rows.args_cons (he₂.int hA st₁ fun t₂ r₂ h₂ tk₂ x₂ st₂ =>
    PyProof.Rows.args_cons (he₃.int hA st₂ fun t₃ r₃ h₃ tk₃ x₃ st₃ => PyProof.Rows.args_nil (call_range_3 (by decide) ?_ (.inl (PyProof.noPylong_small (by decide))))) hs₃) hs₂) hs₁) hs₁ hpl) hc) hf
  refine wpAny_pyIter_range (IsRange.new ..) (small_down hk) ?_
  rw [size_down]
  exact for_run hA (turns_range hi.get _ ((k : Int) - 1) (-1) k) L st₃ (s := sh s h₃ tk₃) ⟨_, _, rfl⟩ (fun b o e => Heap.get?_push_of_some _ (Heap.get?_push_of_some _ e))
    (range_start (Heap.get?_push_size (h₃.push { cls := .type "range", data := .fields #[.int ((k : Int) - 1) t₁, .int (-1) t₂, .int (-1) t₃] }) rfl)) (fun b hb => List.mem_singleton.mp hb ▸ get?_push_none h₃ _) (q.then (x₀.trans (x₁.trans (x₂.trans x₃))).toM)

/-! over a list -/
noncomputable def listBinds (i : Nat) (xs : List AV) : List (List (Option AV) → List (Option AV)) := xs.map fun v F => F.set i (some v)

theorem map_get {α β : Type} {xs : List α} {f : α → β} {j : Nat} {g : β} (h : (xs.map f)[j]? = some g) : ∃ v, xs[j]? = some v ∧ f v = g := by
  rw [List.getElem?_map] at h
  exact Option.map_eq_some_iff.mp h
theorem turns_list {x : Str} {p : Pos} {i : Nat} (hi : a.T[i]? = some x) (I : Addr) (j₀ : Nat) (ax : Addr) (xs : List AV) (r₀ : List Addr) (hj : j₀ < m) (hax : r₀[j₀]? = some ax) :
    Turns C n a m (.Name x p) (.ref I) r₀ [I] (listBinds i xs) (fun H => H[j₀]? = some (.list xs)) (fun j h => h.IsListIter I ax j) where
  frame := fun _ _ _ w k => w.at fun o e => k I (.head _) o e
  live := fun _ _ w b hb => List.mem_singleton.mp hb ▸ w.imp fun _ h => h.1
  item := fun A hA j g r F H s Q E pre hg hw st ho hI k => by
    obtain ⟨v, hv, rfl⟩ := map_get hg
    obtain ⟨us, p, _, _, hl⟩ := st.hp.isList hI (pre _ _ hj hax)
    obtain ⟨u, eu, pu⟩ := p.get hv
    have hoI := ho I (.head _)
    refine wpAny_pyNext_list_item hw hl (List.getElem?_toArray.trans eu) fun h₁ hit₁ hs₁ => ?_
    show wpAny _ _ (pure ()) _ _ _
    refine wpAny_pure (wpAny_assign_Name (store_local hi (s := sh s h₁ s.toks) (st.still ho (one_own hs₁)) pu fun h₂ tk₂ x₂ st₂ => ?_))
    have z := x₂.turn (one_own hs₁) fun b hb => List.mem_singleton.mp hb ▸ hit₁.imp fun _ h => h.1
    exact k h₂ tk₂ z.1 z.2 (hit₁.at fun o e => x₂.at ⟨hoI.1, hoI.2.1⟩ e) st₂
  done := fun A hA r F H s Q E pre hw st ho hI k => by
    rw [listBinds, List.length_map] at hw
    obtain ⟨us, _, z, _, hl⟩ := st.hp.isList hI (pre _ _ hj hax)
    refine wpAny_pyNext_list_end hA.hh hw hl (Array.getElem?_eq_none (Nat.le_of_eq z)) fun h₁ he₁ => ?_
    have kk : ∀ b o, s.heap.get? b = some o → b ∉ [I] → h₁.get? b = some o := fun b o e hb => he₁ b o (not_one hb) e
    exact k h₁ s.toks kk (st.still ho kk)

theorem ex_for_list {x : Str} {px pos : Pos} {iter : Expr} {body : List Stmt} {j : Nat} {xs : List AV} {f : AFlow} (i : Nat) (hm : j < m) (hi : At a.T x i) (he : EvalTo C n a iter F H (.obj j) H₁) (hj : H₁[j]? = some (.list xs))
    (L : ForTo C n a m body (fun H => H[j]? = some (.list xs)) (listBinds i xs) F H₁ f F' H')
    (hf : autoParam (∀ x, foldedSetIterable iter a.env x = pure x) introS) : ExecTo C n a m (.For (.Name x px) iter body [] pos) F H f F' H' := by
  intro A hA r s Q E st q
  refine wpAny_For (he.obj hA st fun ax r₁ h₁ tk₁ eax x₁ st₁ => ?_) hf
  obtain ⟨us, _, _, _, hl⟩ := st₁.hp.isList hj eax
  exact wpAny_pyIter_list hl (for_run hA (turns_list hi.get _ j ax xs r₁ hm eax) L st₁ (s := sh s h₁ tk₁) ⟨_, _, rfl⟩ (fun b o e => Heap.get?_push_of_some _ e) ⟨_, Heap.get?_push_size _ rfl, rfl, rfl⟩ (fun b hb => List.mem_singleton.mp hb ▸ get?_size_none h₁) (q.then x₁.toM))

end
end Mine
namespace Mine
open PySem PySem.W PySem.Calls PySem.Spec PyProof.Rows

section
variable {C : Cx} {n m : Nat} {a : Act} {F F' F₁ F₂ : List (Option AV)} {H H' H₀ H₁ H₂ : List AO}

/-! over enumerate of a list -/
noncomputable def enumBinds (i j : Nat) (xs : List AV) : List (List (Option AV) → List (Option AV)) := xs.zipIdx.map fun p F => (F.set i (some (.int (p.2 : Nat)))).set j (some p.1)

theorem enumBinds_at {i j : Nat} {xs : List AV} {M : Nat} {g : List (Option AV) → List (Option AV)} (h : (enumBinds i j xs)[M]? = some g) : ∃ v, xs[M]? = some v ∧ g = fun F => (F.set i (some (.int (M : Nat)))).set j (some v) := by
  obtain ⟨p, hp, rfl⟩ := map_get h
  rw [List.getElem?_zipIdx] at hp
  obtain ⟨v, hv, rfl⟩ := Option.map_eq_some_iff.mp hp
  exact ⟨v, hv, by simp only [Nat.zero_add]⟩
theorem two_ne {b e I : Addr} (h : b ∉ [e, I]) : b ≠ e ∧ b ≠ I := ⟨fun q => h (q ▸ .head _), fun q => h (q ▸ .tail _ (.head _))⟩
theorem turns_enum {x y : Str} {px py pt : Pos} {q : Nat} {i j : Nat} (hi : a.T[i]? = some x) (hj : a.T[j]? = some y) (e I : Addr) (hne : e ≠ I) (j₀ : Nat) (ax : Addr) (xs : List AV) (r₀ : List Addr) (hm : j₀ < m) (hax : r₀[j₀]? = some ax) :
    Turns C n a m (.Tuple [.Name x px, .Name y py] q pt) (.ref e) r₀ [e, I] (enumBinds i j xs) (fun H => H[j₀]? = some (.list xs)) (fun k h => (∃ old, IsEnum h e I (k : Nat) old) ∧ h.IsListIter I ax k) where
  frame := fun _ _ _ w k => ⟨w.1.imp fun old h => k e (.head _) _ h, w.2.at fun o h => k I (.tail _ (.head _)) o h⟩
  live := fun _ _ w => List.forall_mem_cons.mpr ⟨w.1.elim fun old h => ⟨_, h⟩, List.forall_mem_cons.mpr ⟨w.2.imp fun _ h => h.1, fun _ h => nomatch h⟩⟩
  item := fun A hA M g r F H s Q E pre hg hw st ho hI k => by
    obtain ⟨v, hv, rfl⟩ := enumBinds_at hg
    obtain ⟨us, p, _, _, hl⟩ := st.hp.isList hI (pre _ _ hm hax)
    obtain ⟨u, eu, pu⟩ := p.get hv
    obtain ⟨old, hen⟩ := hw.1
    have hoe := ho e (.head _)
    have hoI := ho I (.tail _ (.head _))
    have he_lt : e < s.heap.objs.size := Heap.lt_size hen
    have hI_lt : I < s.heap.objs.size := hw.2.elim fun o z => Heap.lt_size z.1
    refine wpAny_pyNext_enum_item hen hw.2 hl (List.getElem?_toArray.trans eu) hne fun h₁ heo hit₁ ht₁ hz₁ hk₁ => ?_
    refine wpAny_letOwnedTupleGo_enum (s := sh s h₁ (s.toks + 1)) heo fun h₂ he₂ hs₂ => ?_
    replace hs₂ : Heap.SameBut e h₁ h₂ := hs₂
    have ht₂ : h₂.IsTuple s.heap.objs.size #[.int M s.toks, u] := ⟨_, (hs₂.2 _ (Nat.ne_of_gt he_lt)).trans ht₁, rfl, _, rfl⟩
    refine wpAny_assign_Tuple hA.hh ht₂ rfl rfl fun h₃ hx₃ => ?_
    have hz₂ : h₂.objs.size = s.heap.objs.size + 1 := hs₂.1.trans hz₁
    have old₃ : ∀ {b o}, b < s.heap.objs.size → h₂.get? b = some o → h₃.get? b = some o := fun {b o} hb z => hx₃ b o (hz₂ ▸ Nat.ne_of_lt (Nat.lt_succ_of_lt hb)) z
    have up₁ : ∀ b o, s.heap.get? b = some o → b ∉ [e, I] → h₃.get? b = some o := fun b o z hb => old₃ (Heap.lt_size z) (hs₂.extBut b o (two_ne hb).1 (hk₁ b o (two_ne hb).1 (two_ne hb).2 z))
    have he₃ : IsEnum h₃ e I ((M : Int) + 1) u := old₃ he_lt he₂
    have hit₃ : h₃.IsListIter I ax (M + 1) := (hit₁.extBut hs₂.extBut (Ne.symm hne)).at fun o z => old₃ hI_lt z
    show wpAny _ A (do holding [u] (assign (.Name x px) a.env (.int M s.toks)); do holding [] (assign (.Name y py) a.env u); pure ()) _ _ _
    refine wpAny_bind (wpAny_holding (wpAny_assign_Name (store_local hi (s := sh s h₃ (s.toks + 1)) (st.still ho up₁) (.int (M : Nat) s.toks) fun h₄ tk₄ x₄ st₄ => ?_)))
    refine wpAny_bind (wpAny_holding (wpAny_assign_Name (store_local hj (s := sh s h₄ tk₄) st₄ pu fun h₅ tk₅ x₅ st₅ => wpAny_pure ?_)))
    have x : Ext (some a.env.locals) r h₃ r h₅ := x₄.trans x₅
    have z := x.turn up₁ (List.forall_mem_cons.mpr ⟨⟨_, he₃⟩, List.forall_mem_cons.mpr ⟨hit₃.imp fun _ h => h.1, fun _ h => nomatch h⟩⟩)
    exact k h₅ tk₅ z.1 z.2 ⟨⟨u, x.at ⟨hoe.1, hoe.2.1⟩ he₃⟩, hit₃.at fun o z => x.at ⟨hoI.1, hoI.2.1⟩ z⟩ st₅
  done := fun A hA r F H s Q E pre hw st ho hI k => by
    rw [enumBinds, List.length_map, List.length_zipIdx] at hw
    obtain ⟨us, _, z, _, hl⟩ := st.hp.isList hI (pre _ _ hm hax)
    obtain ⟨old, hen⟩ := hw.1
    refine wpAny_pyNext_enum_end hA.hh hen hw.2 hl (Array.getElem?_eq_none (Nat.le_of_eq z)) fun h₁ he₁ => ?_
    have kk : ∀ b o, s.heap.get? b = some o → b ∉ [e, I] → h₁.get? b = some o := fun b o z hb => he₁ b o (two_ne hb).2 z
    exact k h₁ s.toks kk (st.still ho kk)

theorem beyond_none (h : Heap) {b : Addr} (hb : h.objs.size ≤ b) : h.get? b = none := Heap.get?_none_of_le hb
theorem two_new (h : Heap) : ∀ b ∈ [h.objs.size + 1, h.objs.size], h.get? b = none := List.forall_mem_cons.mpr ⟨beyond_none h (Nat.le_succ _), List.forall_mem_cons.mpr ⟨beyond_none h (Nat.le_refl _), fun _ h => nomatch h⟩⟩
theorem ex_for_enum {x y g : Str} {px py pt pg pc pos : Pos} {q : Nat} {e : Expr} {body : List Stmt} {j₀ : Nat} {xs : List AV} {f : AFlow} (i j : Nat) (hm : j₀ < m) (hi : At a.T x i) (hj : At a.T y j) (hg : (g, Value.type "enumerate") ∈ a.G)
    (he : EvalTo C n a e F H (.obj j₀) H₁) (hl : H₁[j₀]? = some (.list xs))
    (L : ForTo C n a m body (fun H => H[j₀]? = some (.list xs)) (enumBinds i j xs) F H₁ f F' H')
    (hc : autoParam (CallIs a (.Name g pg) e [] pc) rflS)
    (hs : autoParam (StarIs a e []) rflS)
    (hf : autoParam (∀ x, foldedSetIterable (.Call (.Name g pg) [e] [] pc) a.env x = pure x) introS) :
    ExecTo C n a m (.For (.Tuple [.Name x px, .Name y py] q pt) (.Call (.Name g pg) [e] [] pc) body [] pos) F H f F' H' := by
  intro A hA r s Q E st k
  refine wpAny_For (Call_ ((ev_global hg).val hA st fun r₀ h₀ tk₀ x₀ st₀ => PyProof.Rows.callWith_type1 (PyProof.Rows.args_cons (he.obj hA st₀ fun ax r₁ h₁ tk₁ eax x₁ st₁ => PyProof.Rows.args_nil ?_) hs) hs rfl) hc) hf
  obtain ⟨us, _, _, _, hx⟩ := st₁.hp.isList hl eax
  refine call_enumerate_list (s := sh s h₁ tk₁) hx fun h₂ hen hit hz hk => wpAny_pyIter_enum hen ?_
  exact for_run hA (turns_enum hi.get hj.get (h₁.objs.size + 1) h₁.objs.size (Nat.succ_ne_self _) j₀ ax xs r₁ hm eax) L st₁ (s := sh s h₁ tk₁) ⟨_, _, rfl⟩ hk ⟨⟨_, hen⟩, hit⟩ (two_new h₁) (k.then (x₀.trans x₁).toM)

/-! cuts, sums, products of lists, items stored -/
theorem sizeLine_16 : sizeLine = 16777216 := rfl

theorem part_none {p : Option Expr} (h : p = none) : Sm C n a (evalPart p a.env) F H (fun _ v => IsPart v none) F H := by
  subst h
  exact fun A hA r s Q E st k => wpAny_pure (k.self st .none s.toks)
theorem part_some {p : Expr} {x : Int} (h : EvalTo C n a p F H (.int x) H₁) : Sm C n a (evalPart (some p) a.env) F H (fun _ v => IsPart v (some x)) F H₁ :=
  fun A hA r s Q E st k => h.int hA st fun t r₁ h₁ tk₁ x₁ st₁ => k _ r₁ h₁ tk₁ x₁ (.int _ t) st₁

theorem ev_cut {e : Expr} {lo hi : Option Expr} {p pos : Pos} {h : Nat} {xs ys : List AV} {l u : Option Int} (he : EvalTo C n a e F H (.obj h) H₁)
    (hl : Sm C n a (evalPart lo a.env) F H₁ (fun _ v => IsPart v l) F H₂) (hu : Sm C n a (evalPart hi a.env) F H₂ (fun _ v => IsPart v u) F H') (hx : H'[h]? = some (.list xs))
    (hp : ∀ (r : List Addr) (us : List Value), VRs r xs us → ∃ ws : List Value, slicePick us.toArray l u none = ws.toArray ∧ VRs r ys ws) (hlen : ys.length ≤ xs.length)
    (ht : autoParam (∀ o r, letTemporaryGo e o r = pure ()) intro2S) :
    EvalTo C n a (.Subscript e (.Slice lo hi none p) pos) F H (.obj H'.length) (H' ++ [.list ys]) := by
  intro A hA r s Q E st k
  refine wpAny_Subscript_Slice (T := "list") slot_list_getitem.lookup (he.obj hA st fun y r₁ h₁ tk₁ ey x₁ st₁ => wpAny_Slice (hl A hA r₁ _ _ _ st₁ fun v₂ r₂ h₂ tk₂ x₂ p₂ st₂ => hu A hA r₂ _ _ _ st₂ fun v₃ r₃ h₃ tk₃ x₃ p₃ st₃ => wpAny_pure ?_)) ht
  obtain ⟨us, pp, z, b, hL⟩ := st₃.hp.isList hx (x₃.pre.get (x₂.pre.get ey))
  obtain ⟨ws, ew, pw⟩ := hp r₃ us pp
  have hL := hL.push { cls := .type "slice", data := .fields #[v₂, v₃, .none] }
  have hS := Hp.still st₃.hp (h' := h₃.push { cls := .type "slice", data := .fields #[v₂, v₃, .none] }) fun _ _ z => Heap.get?_push_of_some _ z
  refine ⟨hL.typeIs, wpAny_getItem_list_slice (s := sh s _ tk₃) hL (Heap.IsSliceOf.new ..) p₂ p₃ .none (by decide) ?_ (z ▸ b)⟩
  rw [ew]
  exact k.new (x₁.trans (x₂.trans (x₃.trans hS.1.ofNone))) (st₃.after hS.1 hS.2) (.list ys ws 0 pw (Nat.le_trans hlen b))

theorem ev_cut_to {e t : Expr} {p pos : Pos} {h : Nat} {xs : List AV} {x : Nat} (he : EvalTo C n a e F H (.obj h) H₁) (hu : EvalTo C n a t F H₁ (.int x) H') (hx : H'[h]? = some (.list xs))
    (ht : autoParam (∀ o r, letTemporaryGo e o r = pure ()) intro2S) :
    EvalTo C n a (.Subscript e (.Slice none (some t) none p) pos) F H (.obj H'.length) (H' ++ [.list (xs.take x)]) :=
  ev_cut he (part_none rfl) (part_some hu) hx (fun r us p => ⟨us.take x, by rw [slicePick_upto'], p.take x⟩) (by simp; lia) ht
theorem ev_cut_from {e t : Expr} {p pos : Pos} {h : Nat} {xs : List AV} {x : Nat} (he : EvalTo C n a e F H (.obj h) H₁) (hu : EvalTo C n a t F H₁ (.int x) H') (hx : H'[h]? = some (.list xs))
    (ht : autoParam (∀ o r, letTemporaryGo e o r = pure ()) intro2S) :
    EvalTo C n a (.Subscript e (.Slice (some t) none none p) pos) F H (.obj H'.length) (H' ++ [.list (xs.drop x)]) :=
  ev_cut he (part_some hu) (part_none rfl) hx (fun r us p => ⟨us.drop x, by rw [slicePick_from'], p.drop x⟩) (by simp) ht

theorem ev_cat {l e : Expr} {pos : Pos} {i j : Nat} {xs ys : List AV} (hl : EvalTo C n a l F H (.obj i) H₁) (hr : EvalTo C n a e F H₁ (.obj j) H₂) (hi : H₂[i]? = some (.list xs)) (hj : H₂[j]? = some (.list ys)) (hz : xs.length + ys.length ≤ 4096) :
    EvalTo C n a (.BinOp l .Add e pos) F H (.obj H₂.length) (H₂ ++ [.list (xs ++ ys)]) := by
  intro A hA r s Q E st k
  refine wpAny_BinOp (hl.obj hA st fun y r₁ h₁ tk₁ ey x₁ st₁ => hr.obj hA st₁ fun z r₂ h₂ tk₂ ez x₂ st₂ => ?_)
  obtain ⟨us, q, pu, _, ho⟩ := st₂.hp.list hi (x₂.pre.get ey)
  obtain ⟨ws, q', pw, _, ho'⟩ := st₂.hp.list hj ez
  have hsz : us.toArray.size + ws.toArray.size ≤ sizeLine := by
    rw [List.size_toArray, List.size_toArray, pu.length, pw.length]; exact small_line hz
  refine concat_meets (s := sh s h₂ tk₂) ⟨_, ho, rfl⟩ ⟨_, ho', rfl⟩ noFill_list_add seq_list_add PySem.F.slot_list_add PySem.F.entry_list_add (PySem.F.args_list_add_2 _ _)
    (list_addW y z us.toArray ws.toArray q q' none none #[] #[] hsz) ⟨ho, ho', ?_⟩
  rw [List.append_toArray]
  exact k.new (x₁.trans x₂) st₂ (.list (xs ++ ys) (us ++ ws) 0 (pu.append pw) (small_line (List.length_append ▸ hz)))

theorem flat_one (u : Value) (m : Nat) (p : List Value) : List.foldl (fun x1 x2 => x1 ++ x2) p.toArray (List.replicate m (#[u] : Array Value)) = (p ++ List.replicate m u).toArray := by
  induction m generalizing p with
  | zero => rw [List.replicate_zero, List.replicate_zero, List.append_nil]; rfl
  | succ m ih =>
    rw [List.replicate_succ, List.foldl_cons, show p.toArray ++ #[u] = (p ++ [u]).toArray from List.append_toArray .., ih, List.append_assoc]
    rfl
theorem VRs.rep {r : List Addr} {v : AV} {u : Value} (h : VR r v u) (m : Nat) : VRs r (List.replicate m v) (List.replicate m u) := by
  induction m with
  | zero => exact .nil
  | succ m ih => exact .cons h ih

theorem rep_fits {x : Int} (hz : x ≤ 4096) (hz' : -4096 ≤ x) : ¬(!Builtin.List.listFitsIndex x) = true := by simp [Builtin.List.listFitsIndex]; lia
theorem rep_size {w : Value} {x : Int} (hz : x ≤ 4096) (hz' : -4096 ≤ x) : ¬([w].toArray : Array Value).size * x.toNat > (2 ^ 63 - 1) / 8 := by rw [show ([w].toArray : Array Value).size = 1 from rfl]; lia
theorem rep_line {w : Value} {x : Int} (hz : x ≤ 4096) (hz' : -4096 ≤ x) : ¬Builtin.List.listTooLong (([w].toArray : Array Value).size * x.toNat) = true := by simp [Builtin.List.listTooLong, sizeLine]; lia
/-- [v] * k -/
theorem ev_rep {l e : Expr} {pos : Pos} {i : Nat} {v : AV} {x : Int} (hl : EvalTo C n a l F H (.obj i) H₁) (hr : EvalTo C n a e F H₁ (.int x) H₂) (hi : H₂[i]? = some (.list [v])) (hz : x ≤ 4096) (hz' : -4096 ≤ x) :
    EvalTo C n a (.BinOp l .Mult e pos) F H (.obj H₂.length) (H₂ ++ [.list (List.replicate x.toNat v)]) := by
  intro A hA r s Q E st k
  refine wpAny_BinOp (hl.obj hA st fun y r₁ h₁ tk₁ ey x₁ st₁ => hr.int hA st₁ fun t r₂ h₂ tk₂ x₂ st₂ => ?_)
  obtain ⟨us, q, ⟨w, _, rfl, pw, rfl⟩, b, ho⟩ := st₂.hp.list hi (x₂.pre.get ey)
  refine wpAny_binaryOp_repeat_ref (s := sh s h₂ tk₂) (T := "list") (U := "int") (by decide) ⟨_, ho, rfl⟩ (fun s' => typeIs_int s' x t) noFill_list_mul PySem.F.fills_int_mul PySem.F.slot_int_rmul repeat_list PySem.F.slot_int_index.lookup
    (call_meets PySem.F.slot_int_rmul (typeIs_int _ x t) PySem.F.entry_int_rmul (PySem.F.args_int_rmul_2 _ _) (int___rmul___int_list x t y [w].toArray q)
      ⟨ho, rfl, ⟨_, ho, rfl⟩, call_meets PySem.F.slot_list_mul ⟨_, ho, rfl⟩ PySem.F.entry_list_mul (PySem.F.args_list_mul_2 _ _)
        (AutoListH.list___mul___list_int_3 y [w].toArray q x t (rep_fits hz hz') (rep_size hz hz') (rep_line hz hz'))
        ⟨ho, ?_⟩⟩)
  show Q _ _
  rw [show (if ([w].toArray).isEmpty = true then 0 else x.toNat) = x.toNat from rfl, show List.foldl (fun x1 x2 => x1 ++ x2) #[] (List.replicate x.toNat [w].toArray) = (List.replicate x.toNat w).toArray from flat_one w x.toNat []]
  exact k.new (x₁.trans x₂) st₂ (.list (List.replicate x.toNat v) (List.replicate x.toNat w) 0 (VRs.rep pw _) (small_line (List.length_replicate ▸ Int.toNat_le.mpr hz)))

theorem set_small {i : Int} {k : Nat} (h1 : i < (k : Int)) (b : k ≤ sizeLine) : i < 2 ^ 63 := by
  have : sizeLine = 16777216 := rfl
  lia
/-- xs[i] = v -/
theorem ex_setitem {o j e : Expr} {p pos : Pos} {h : Nat} {i : Int} {xs : List AV} {v : AV} (he : EvalTo C n a e F H v H₁) (ho : EvalTo C n a o F H₁ (.obj h) H₂) (hj : EvalTo C n a j F H₂ (.int i) H') (hx : H'[h]? = some (.list xs)) (h0 : 0 ≤ i) (h1 : i < xs.length)
    (hs : autoParam (swapsWith e (some (.Subscript o j p)) pos.line a.env = pure false) rflS) :
    ExecTo C n a m (.Assign [.Subscript o j p] e pos) F H .next F (H'.set h (.list (xs.set i.toNat v))) := by
  intro A hA r s Q E st k
  refine wpAny_Assign_Subscript (he A hA r s _ _ st fun u r₁ h₁ tk₁ x₁ p₁ st₁ => ho.obj hA st₁ fun y r₂ h₂ tk₂ ey x₂ st₂ => hj.int hA st₂ fun t r₃ h₃ tk₃ x₃ st₃ => ?_) hs
  obtain ⟨us, q, pu, b, hy⟩ := st₃.hp.list hx (x₃.pre.get ey)
  refine ki_setAt (s := sh s h₃ tk₃) hy h0 (set_small h1 b) (by rw [List.size_toArray, pu.length]; exact h1) ?_
  have hnew : (h₃.update y (Obj.mapSeq (·.setIfInBounds i.toNat u))).get? y = some (listOf (us.set i.toNat u).toArray q) := by
    rw [Heap.get?_update_self _ hy rfl]
    simp [Obj.mapSeq]
  have z := st₃.hp.turn (x₃.pre.get ey) (.list (xs.set i.toNat v) (us.set i.toNat u) q (VRs.set ((p₁.mono x₂.pre).mono x₃.pre) pu _) ((List.length_set ..).symm ▸ b)) hnew fun b o hb e => (Heap.SameBut.update h₃ y _).extBut b o hb e
  exact k _ _ _ _ (x₁.trans (x₂.trans (x₃.trans z.1.ofNone))).toM .next (st₃.after z.1 z.2)

/-- xs.append(v) -/
theorem ex_append {x : Str} {px pa pc pos : Pos} {e : Expr} {h : Nat} {xs : List AV} {v : AV} (ho : EvalTo C n a (.Name x px) F H (.obj h) H) (he : EvalTo C n a e F H v H₁) (hx0 : H[h]? = some (.list xs)) (hx : H₁[h]? = some (.list xs)) (h1 : xs.length < 4096)
    (hline : autoParam ((pa.endLine == pc.line) = true) rflS)
    (hst : autoParam (StarIs a e []) rflS)
    (hs : autoParam (swapsWith (.Call (.Attribute (.Name x px) "append" pa) [e] [] pc) none pos.line a.env = pure false) rflS) :
    ExecTo C n a m (.Expr (.Call (.Attribute (.Name x px) "append" pa) [e] [] pc) pos) F H .next F (H₁.set h (.list (xs ++ [v]))) := by
  intro A hA r s Q E st k
  have htr : backTo pc (starEach [e] a.env) = [(false, eval e a.env)] := by rw [hst]; rfl
  refine wpAny_Expr (wpAny_Call_append rfl (by rw [htr]; rfl) hline htr (ho.obj hA st fun y r₁ h₁ tk₁ ey x₁ st₁ => ?_)) (by unfold interactive; rw [st.ok.kind]; rfl) hs
  obtain ⟨us, q, pu, b, hy⟩ := st₁.hp.list hx0 ey
  refine ⟨y, us.toArray, rfl, ⟨_, q, hy, rfl, rfl, rfl⟩, he A hA r₁ _ _ _ st₁ fun u₂ r₂ h₂ tk₂ x₂ p₂ st₂ => ?_⟩
  obtain ⟨us', q', pu', b', hy'⟩ := st₂.hp.list hx (x₂.pre.get ey)
  refine append_at (s := sh s h₂ tk₂) hy' (fun h₃ hs₃ hg => ?_) (by rw [List.size_toArray, pu'.length]; exact b')
  have z := st₂.hp.turn (x₂.pre.get ey) (.list (xs ++ [v]) (us' ++ [u₂]) (q' + 1) (pu'.append (.cons p₂ .nil)) (small_line (by rw [List.length_append]; exact h1))) (hg.trans (by simp)) fun b o hb e => hs₃.extBut b o hb e
  exact k _ _ _ _ (x₁.trans (x₂.trans z.1.ofNone)).toM .next (st₂.after z.1 z.2)

end
end Mine
namespace Mine
open PySem PySem.W PySem.Calls PySem.Spec PyProof.Rows

noncomputable def AFlow.val : AFlow → AV
  | .next => .none
  | .ret v => v

/-- a block that ends a def: what the def gives back, what is left of the heap -/
noncomputable def RunsTo (C : Cx) (n : Nat) (a : Act) (m : Nat) (x : List Stmt) (F : List (Option AV)) (H : List AO) (v : AV) (H' : List AO) : Prop := ∃ F' fl, AFlow.val fl = v ∧ ExecsTo C n a m x F H fl F' H'

theorem runs_nil {C : Cx} {n m : Nat} {a : Act} {F : List (Option AV)} {H : List AO} : RunsTo C n a m [] F H .none H := ⟨F, .next, rfl, exs_nil⟩
theorem runs_cons {C : Cx} {n m : Nat} {a : Act} {x : Stmt} {rest : List Stmt} {F F₁ : List (Option AV)} {H H₁ H' : List AO} {v : AV} (h : ExecTo C n a m x F H .next F₁ H₁) (k : RunsTo C n a m rest F₁ H₁ v H') : RunsTo C n a m (x :: rest) F H v H' :=
  let ⟨F', fl, e, k⟩ := k; ⟨F', fl, e, exs_cons h k⟩
theorem runs_ret {C : Cx} {n m : Nat} {a : Act} {x : Stmt} {rest : List Stmt} {F F₁ : List (Option AV)} {H H' : List AO} {v : AV} (h : ExecTo C n a m x F H (.ret v) F₁ H') : RunsTo C n a m (x :: rest) F H v H' := ⟨F₁, .ret v, rfl, exs_ret h⟩
theorem runs_return {C : Cx} {n m : Nat} {a : Act} {e : Expr} {pos : Pos} {rest : List Stmt} {F : List (Option AV)} {H H' : List AO} {v : AV} (h : EvalTo C n a e F H v H') : RunsTo C n a m (.Return (some e) pos :: rest) F H v H' := runs_ret (ex_return h)
theorem runs_if_t {C : Cx} {n m : Nat} {a : Act} {c : Expr} {y z rest : List Stmt} {pos : Pos} {F F₁ : List (Option AV)} {H H₁ H' : List AO} {v : AV} (h : TestTo C n a c F H true H₁) (k : ExecsTo C n a m y F H₁ (.ret v) F₁ H') : RunsTo C n a m (.If c y z pos :: rest) F H v H' :=
  runs_ret (ex_if h k)
theorem runs_if_f {C : Cx} {n m : Nat} {a : Act} {c : Expr} {y rest : List Stmt} {pos : Pos} {F : List (Option AV)} {H H₁ H' : List AO} {v : AV} (h : TestTo C n a c F H false H₁) (k : RunsTo C n a m rest F H₁ v H') : RunsTo C n a m (.If c y [] pos :: rest) F H v H' :=
  runs_cons (ex_if h exs_nil) k

theorem RunsTo.go {C : Cx} {n m : Nat} {a : Act} {x : List Stmt} {F : List (Option AV)} {H H' : List AO} {v : AV} (h : RunsTo C n a m x F H v H') {A : Around} (hA : Room n A) {r : List Addr} {s : Shared} {Q : Flow → Shared → Prop} {E : Value → Shared → Prop} (st : St C a r F H s.heap)
    (k : ∀ f u r' h' tk', f = .ret u ∨ (f = .next ∧ u = .none) → ExtM m (some a.env.locals) r s.heap r' h' → VR r' v u → Hp C r' H' h' → Q f (sh s h' tk')) : wpAny (model C.prog C.w) A (execs x a.env) Q E s := by
  obtain ⟨F', fl, rfl, h⟩ := h
  cases fl with
  | next => exact h.next hA st fun r' h' tk' x st' => k _ .none r' h' tk' (.inr ⟨rfl, rfl⟩) x .none st'.hp
  | ret v => exact h.ret hA st fun u r' h' tk' x p st' => k _ u r' h' tk' (.inl rfl) x p st'.hp

theorem isPre_of {r r' : List Addr} (h : ∀ (i : Nat) (x : Addr), r[i]? = some x → r'[i]? = some x) : isPre r r' := by
  refine ⟨r'.drop r.length, List.ext_getElem? fun i => ?_⟩
  rcases Nat.lt_or_ge i r.length with hi | hi
  · rw [List.getElem?_append_left hi, List.getElem?_eq_getElem hi]
    exact h i _ (List.getElem?_eq_getElem hi)
  · rw [List.getElem?_append_right hi, List.getElem?_drop, Nat.add_sub_cancel' hi]

theorem lookup_nd {β : Type} : ∀ {cs : List (Str × β)} {x : Str} {u : β}, (cs.map (·.1)).Nodup → (x, u) ∈ cs → cs.lookup x = some u
  | (y, c) :: cs, x, u, hnd, hm => by
    rw [List.map_cons, List.nodup_cons] at hnd
    rcases List.mem_cons.mp hm with e | hm
    · cases e; simp
    · have hne : x ≠ y := fun e => hnd.1 (e ▸ List.mem_map.mpr ⟨(x, u), hm, rfl⟩)
      rw [List.lookup_cons, beq_eq_false_iff_ne.mpr hne]
      exact lookup_nd hnd.2 hm

theorem zip_fst : ∀ (T : List Str) (us : List Value), (T.zip us).map (·.1) = T.take us.length
  | [], us => by simp
  | t :: T, [] => by simp
  | t :: T, u :: us => by simp [zip_fst T us]

theorem zip_lookup {T : List Str} {us : List Value} {i : Nat} {x : Str} {u : Value} (hnd : T.Nodup) (hT : T[i]? = some x) (hu : us[i]? = some u) : (T.zip us).reverse.lookup x = some u := by
  have hm : (x, u) ∈ T.zip us := by
    refine List.mem_of_getElem? (i := i) ?_
    rw [List.getElem?_zip_eq_some]
    exact ⟨hT, hu⟩
  have hk : ((T.zip us).reverse.map (·.1)).Nodup := by
    rw [List.map_reverse]
    rw [zip_fst]
    unfold List.Nodup
    rw [List.pairwise_reverse]
    exact (hnd.sublist (List.take_sublist _ _)).imp fun h => Ne.symm h
  exact lookup_nd hk (List.mem_reverse.mpr hm)

/-- v' is v, its handle told anew: the new i is the old σ[i] -/
noncomputable def RenV (σ : List Nat) (v w : AV) : Prop := match v with
  | .obj i => ∃ j, σ[i]? = some j ∧ w = .obj j
  | v => w = v
theorem RenV.none {σ : List Nat} : RenV σ .none .none := rfl
theorem RenV.bool {σ : List Nat} (b : Bool) : RenV σ (.bool b) (.bool b) := rfl
theorem RenV.int {σ : List Nat} (i : Int) : RenV σ (.int i) (.int i) := rfl
theorem RenV.str {σ : List Nat} (x : Str) : RenV σ (.str x) (.str x) := rfl
theorem RenV.val {σ : List Nat} (v : Value) : RenV σ (.val v) (.val v) := rfl
theorem RenV.obj {σ : List Nat} {i j : Nat} (h : σ[i]? = some j) : RenV σ (.obj i) (.obj j) := ⟨j, h, rfl⟩

/-- the objects of H speak of H's objects alone -/
noncomputable def Low (H : List AO) : Prop := ∀ o ∈ H, LowO H.length o
theorem Hp.low {C : Cx} {r : List Addr} {H : List AO} {h : Heap} (s : Hp C r H h) : Low H := fun ao e => by
  obtain ⟨i, e⟩ := List.getElem?_of_mem e
  obtain ⟨x, o, _, _, k⟩ := s.obj i ao e
  exact s.len ▸ k.low

section
variable {C : Cx} {n : Nat} {H H' : List AO} {r : List Addr}

/-- the frame of a call -/
theorem frame_new {a : Act} {F : List (Option AV)} {h h₀ : Heap} (hp : Hp C r H h) (hk : ∀ b o, h.get? b = some o → h₀.get? b = some o) (hL : h.get? a.env.locals = none) (ok : a.Ok C) (hns : NsR a.T r F h₀ a.env.locals)
    (hc : ∀ x i, (x, i) ∈ a.ch → ∃ c, a.env.cells.lookup x = some c ∧ r[i]? = some c) : St C a r F H h₀ := ⟨(hp.still hk).2, ok, hp.base hL, hp.not hL, hns, hc⟩
theorem ext_out {h h₀ h' : Heap} {L : Addr} {r' : List Addr} (hp : Hp C r H h) (hk : ∀ b o, h.get? b = some o → h₀.get? b = some o) (hL : h.get? L = none) (x : ExtM H.length (some L) r h₀ r' h') : Ext none r h r' h' :=
  ⟨isPre_of fun i y e => x.pre i y (hp.len ▸ gl e) e, fun b o e hb _ => x.keep b o (hk b o e) hb fun q => noSome hL (Option.some.inj q ▸ e), fun b o e => x.live b o (hk b o e), fun y hy => (x.fresh y hy).imp_right (none_back fun b o e => ⟨o, hk b o e⟩)⟩
theorem args_in {T : List Str} {vs : List AV} {us : List Value} {k : Nat} (hnd : T.Nodup) (hus : VRs r vs us) (i : Nat) (x : Str) (v : AV) (h1 : T[i]? = some x) (h2 : (vs.map some ++ List.replicate k none)[i]? = some (some v)) : ∃ u, (T.zip us).reverse.lookup x = some u ∧ VR r v u := by
  rcases Nat.lt_or_ge i (vs.map some).length with hi | hi
  · rw [List.getElem?_append_left hi, List.getElem?_map] at h2
    obtain ⟨w, hv, e⟩ := Option.map_eq_some_iff.mp h2
    obtain rfl := Option.some.inj e
    obtain ⟨u, eu, pu⟩ := hus.get hv
    exact ⟨u, zip_lookup hnd h1 eu, pu⟩
  · rw [List.getElem?_append_right hi] at h2
    exact absurd (List.mem_replicate.mp (List.mem_of_getElem? h2)).2 (by simp)

/-- a call, as code -/
noncomputable def CodeTo (C : Cx) (n : Nat) (f : Value) (args : List AV) (H : List AO) (v : AV) (H' : List AO) : Prop :=
  ∀ A, Room n A → ∀ r s us (R : Result → Shared → Prop), Hp C r H s.heap → VRs r args us → AfterC C r s v H' (fun u s' => R (.ok (.ret u)) s') → codeAny (model C.prog C.w) A (.call f ⟨us, []⟩) R s
theorem CodeTo.call {f : Value} {args : List AV} {v : AV} (h : CodeTo C n f args H v H') : CallTo C n f args H v H' := fun A hA r s us Q E hp hus k => wpAny_call (h A hA r s us _ hp hus k)

/-- the names of a def's scope -/
structure ScOk (C : Cx) (scope : Scope) (T : List Str) (G : List (Str × Value)) (cs : List Str) (kind : NameKind) : Prop where
  hT : ∀ x ∈ T, scope.names.lookup x = some .local ∧ (x == ("__debug__" : Str)) = false
  hnd : T.Nodup
  hG : ∀ p ∈ G, scope.names.lookup p.1 = some .globalImplicit ∧ (p.1 == ("__debug__" : Str)) = false ∧ (C.mg p.1 = some p.2 ∨ (C.mg p.1 = none ∧ C.mb p.1 = some p.2))
  hcs : ∀ x ∈ cs, (x == ("__debug__" : Str)) = false ∧ scope.names.lookup x = some kind ∧ (kind = .cell ∨ (kind = .free ∧ (x == ("__classdict__" : Str)) = false))
  hco : scope.isCoroutine = false
  hgen : scope.isGenerator = false
  hk : scope.kind = .function
theorem ScOk.act {scope : Scope} {T : List Str} {G : List (Str × Value)} {ch : List (Str × Nat)} {kind : NameKind} (o : ScOk C scope T G (ch.map (·.1)) kind) (q : Str) (L f : Addr) (cdv : Value) (as : List (Str × Addr)) : Act.Ok C { env := envX q scope L f cdv as, T := T, G := G, ch := ch } :=
  ⟨o.hk, rfl, rfl, fun x hx => (o.hT x hx).1, o.hnd, fun x hx => (o.hT x hx).2, fun x v hx => o.hG (x, v) hx, fun x i hx => by
    have h := o.hcs x (List.mem_map_of_mem (f := (·.1)) hx)
    refine ⟨h.1, h.2.2.imp (fun e => ?_) fun e => ⟨?_, e.2⟩⟩
    · rw [← e]; exact h.2.1
    · rw [← e.1]; exact h.2.1⟩

/-- a def of the text, no cells of its own -/
theorem code_enter {f : Addr} {name qual : Str} {params : Arguments} {body : List Stmt} {scope : Scope} {dV kV doc pm cdv ct oc : Value} {an od : Option Addr} {osl : Array (Option Value)} {T : List Str} {G : List (Str × Value)} {vs : List AV} {v : AV}
    (hl : C.K.lookup f = some ⟨oc, od, .func (fnX name qual params body scope [] dV kV doc pm an cdv ct), osl⟩) (hcd : codeIn C.K cdv qual = true)
    (hb : ∀ us : List Value, us.length = vs.length → bindArgs (fnX name qual params body scope [] dV kV doc pm an cdv ct) ⟨us, []⟩ = pure (T.zip us))
    (o : ScOk C scope T G [] .cell) (hcell : ∀ x ∈ scope.names, x.2 ≠ .cell)
    (run : Low H → ∀ L, RunsTo C n { env := envX qual scope L f cdv [], T := T, G := G, ch := [] } H.length body (vs.map some ++ List.replicate (T.length - vs.length) none) H v H') :
    CodeTo C (n + 1) (.ref f) vs H v H' := by
  intro A hA r s us R hp hus k
  have hKs := C.hK.keeps hp.keep
  refine codeAny_call_def (fd := fnX name qual params body scope [] dV kV doc pm an cdv ct) (body := body) (binds := T.zip us) hA.d0 (hKs _ _ hl) rfl (C.hlim.keeps hp.keep) (codeRec_of hKs hcd) rfl
    (BindsTo.of_eq (hb us hus.length)) hcell (fun x hx => (o.hT x.1 (List.of_mem_zip hx).1).1) (fun h₀ hns hkeep => ?_) o.hco o.hgen o.hk
  have hL := get?_size_none s.heap
  have st : St C { env := envX qual scope s.heap.objs.size f cdv [], T := T, G := G, ch := [] } r (vs.map some ++ List.replicate (T.length - vs.length) none) H h₀ := frame_new hp hkeep hL (o.act (ch := []) ..) ⟨_, hns, args_in o.hnd hus⟩ (fun _ _ h => nomatch h)
  refine (run hp.low s.heap.objs.size).go (hA.deeper _) (s := sh s h₀ (s.toks + (T.zip us).length)) st fun f' u r' h' tk' hf x p hp' => ?_
  have z := k u r' h' tk' (ext_out hp hkeep hL x) p hp'
  rcases hf with rfl | ⟨rfl, rfl⟩ <;> exact z

/-! len -/
theorem VRs.one {v : AV} {us : List Value} (h : VRs r [v] us) : ∃ u, us = [u] ∧ VR r v u := by
  obtain ⟨u, _, rfl, p, rfl⟩ := h
  exact ⟨u, rfl, p⟩
theorem len_call {h : Nat} {xs : List AV} (hx : H[h]? = some (.list xs)) : CallTo C n (.builtin "len") [.obj h] H (.int xs.length) H := by
  intro A hA r s us Q E hp hus k
  obtain ⟨_, rfl, y, ey, rfl⟩ := hus.one
  obtain ⟨ws, _, z, b, hl⟩ := hp.isList hx ey
  refine call_len_list hl (z.symm ▸ by have q : sizeLine = 16777216 := rfl; lia) ?_
  rw [z]
  exact k _ r s.heap _ (Ext.refl ..) (.int _ _) hp
end
end Mine
namespace Mine
open PySem PySem.W PySem.Calls PySem.Spec PyProof.Rows

noncomputable abbrev il (ns : List Int) : AO := .list (ns.map .int)

inductive InG : List (Str × Value) → Str → Value → Prop
  | here {x : Str} {v : Value} {G : List (Str × Value)} : InG ((x, v) :: G) x v
  | there {x : Str} {v : Value} {p : Str × Value} {G : List (Str × Value)} (h : InG G x v) : InG (p :: G) x v
theorem InG.mem {G : List (Str × Value)} {x : Str} {v : Value} (h : InG G x v) : (x, v) ∈ G := by
  induction h with
  | here => exact .head _
  | there _ ih => exact .tail _ ih

theorem FSub.nil : FSub [] [] := fun i v h => by simp at h
theorem FSub.refl (F : List (Option AV)) : FSub F F := fun _ _ h => h
theorem FSub.keep {x : Option AV} {F F' : List (Option AV)} (h : FSub F F') : FSub (x :: F) (x :: F') := fun i v k => by
  cases i with
  | zero => simpa using k
  | succ i => simp only [List.getElem?_cons_succ] at k ⊢; exact h i v k
theorem FSub.drop {x : Option AV} {F F' : List (Option AV)} (h : FSub F F') : FSub (none :: F) (x :: F') := fun i v k => by
  cases i with
  | zero => simp at k
  | succ i => simp only [List.getElem?_cons_succ] at k ⊢; exact h i v k
theorem FSub.int {x y : Int} {F F' : List (Option AV)} (e : x = y) (h : FSub F F') : FSub (some (.int x) :: F) (some (.int y) :: F') := by subst e; exact h.keep
theorem FSub.val {x y : Option AV} {F F' : List (Option AV)} (e : x = y) (h : FSub F F') : FSub (x :: F) (y :: F') := by subst e; exact h.keep

theorem hp_last {H : List AO} {x : AO} : (H ++ [x])[H.length]? = some x := by simp
theorem hp_old {H t : List AO} {h : Nat} {x : AO} (e : H[h]? = some x) : (H ++ t)[h]? = some x := by
  rw [List.getElem?_append_left (List.getElem?_eq_some_iff.mp e).1]; exact e
theorem hp_set_last {H : List AO} {x y : AO} : (H ++ [x]).set H.length y = H ++ [y] := by simp
theorem hp_lt {H : List AO} {h : Nat} {x : AO} (e : H[h]? = some x) : h < H.length := (List.getElem?_eq_some_iff.mp e).1
theorem hp_same {H : List AO} {h : Nat} {x y : AO} (e : H[h]? = some x) : (H.set h y)[h]? = some y := by
  rw [List.getElem?_set_self (hp_lt e)]
theorem hp_ne {H : List AO} {h k : Nat} {x y : AO} (n : k ≠ h) (e : H[h]? = some x) : (H.set k y)[h]? = some x := by
  rw [List.getElem?_set_ne n]; exact e

section
variable {C : Cx} {n m : Nat} {a : Act} {F F' F₁ F₂ : List (Option AV)} {H H' H₀ H₁ H₂ : List AO}

theorem Sm.testEq {t : Sem Bool} {b b' : Bool} (h : Sm C n a t F H (fun _ u => u = b) F' H') (e : b = b') : Sm C n a t F H (fun _ u => u = b') F' H' := e ▸ h
theorem Sm.valEq {t : Sem Value} {b b' : Bool} (h : Sm C n a t F H (fun r u => VR r (.bool b) u) F' H') (e : b = b') : Sm C n a t F H (fun r u => VR r (.bool b') u) F' H' := e ▸ h
theorem Sm.intEq {t : Sem Value} {b b' : Int} (h : Sm C n a t F H (fun r u => VR r (.int b) u) F' H') (e : b = b') : Sm C n a t F H (fun r u => VR r (.int b') u) F' H' := e ▸ h
theorem Sm.eqF {α : Type} {t : Sem α} {P : List Addr → α → Prop} (h : Sm C n a t F H P F₁ H₁) (e : F₁ = F') : Sm C n a t F H P F' H₁ := e ▸ h
theorem Sm.eqH {α : Type} {t : Sem α} {P : List Addr → α → Prop} (h : Sm C n a t F H P F₁ H₁) (e : H₁ = H') : Sm C n a t F H P F₁ H' := e ▸ h
theorem Sm.eq2 {α : Type} {t : Sem α} {P : List Addr → α → Prop} (h : Sm C n a t F H P F₁ H₁) (e : F₁ = F') (e' : H₁ = H') : Sm C n a t F H P F' H' := e ▸ e' ▸ h

theorem len_call_il {h : Nat} {ns : List Int} (hx : H[h]? = some (il ns)) : CallTo C n (.builtin "len") [.obj h] H (.int (ns.length : Nat)) H := by
  have := len_call (C := C) (n := n) hx
  rwa [List.length_map] at this

theorem ev_name_g {x : Str} {pos : Pos} {v : Value} (hx : InG a.G x v) : EvalTo C n a (.Name x pos) F H (.val v) H := ev_global hx.mem

theorem getD_get {ns : List Int} {i : Nat} (h : i < ns.length) : (ns.map AV.int)[i]? = some (.int (ns.getD i 0)) := by
  rw [List.getElem?_map, List.getElem?_eq_getElem h]
  simp [List.getD, List.getElem?_eq_getElem h]

theorem ev_item_il {e j : Expr} {pos : Pos} {h : Nat} {i : Int} {ns : List Int} (he : EvalTo C n a e F H (.obj h) H₁) (hj : EvalTo C n a j F H₁ (.int i) H₂) (hx : H₂[h]? = some (il ns)) (h0 : 0 ≤ i) (h1 : i < ns.length)
    (hb : autoParam (∀ o k, subscripted j false o k = operate [o, k] (getItem o k)) intro2S) : EvalTo C n a (.Subscript e j pos) F H (.int (ns.getD i.toNat 0)) H₂ :=
  ev_item he hj hx h0 (getD_get (by lia)) hb

theorem ex_append_il {x : Str} {px pa pc pos : Pos} {e : Expr} {ns : List Int} {v : Int} (ho : EvalTo C n a (.Name x px) F (H ++ [il ns]) (.obj H.length) (H ++ [il ns])) (he : EvalTo C n a e F (H ++ [il ns]) (.int v) (H ++ [il ns])) (h1 : ns.length < 4096)
    (hline : autoParam ((pa.endLine == pc.line) = true) rflS)
    (hst : autoParam (StarIs a e []) rflS)
    (hs : autoParam (swapsWith (.Call (.Attribute (.Name x px) "append" pa) [e] [] pc) none pos.line a.env = pure false) rflS) :
    ExecTo C n a m (.Expr (.Call (.Attribute (.Name x px) "append" pa) [e] [] pc) pos) F (H ++ [il ns]) .next F (H ++ [il (ns ++ [v])]) := by
  have := ex_append (m := m) (pos := pos) ho he hp_last hp_last (by simpa using h1) hline hst hs
  rw [hp_set_last] at this
  have e : il (ns ++ [v]) = .list (ns.map .int ++ [.int v]) := by simp [il]
  rw [e]
  exact this

theorem ex_setitem_il {o j e : Expr} {p pos : Pos} {h : Nat} {i : Int} {ns : List Int} {v : Int} (he : EvalTo C n a e F H (.int v) H₁) (ho : EvalTo C n a o F H₁ (.obj h) H₂) (hj : EvalTo C n a j F H₂ (.int i) H') (hx : H'[h]? = some (il ns)) (h0 : 0 ≤ i) (h1 : i < ns.length)
    (hs : autoParam (swapsWith e (some (.Subscript o j p)) pos.line a.env = pure false) rflS) :
    ExecTo C n a m (.Assign [.Subscript o j p] e pos) F H .next F (H'.set h (il (ns.set i.toNat v))) := by
  have := ex_setitem (m := m) (pos := pos) he ho hj hx h0 (by simpa using h1) hs
  unfold il
  rw [List.map_set]
  exact this

theorem while_ind {c : Expr} {body : List Stmt} {f : AFlow} (S R : Nat → List (Option AV)) (HS HR : Nat → List AO) (N : Nat) (h0 : WhileTo C n a m c body (S 0) (HS 0) f (R 0) (HR 0))
    (hs : ∀ k, k < N → WhileTo C n a m c body (S k) (HS k) f (R k) (HR k) → WhileTo C n a m c body (S (k + 1)) (HS (k + 1)) f (R (k + 1)) (HR (k + 1))) : WhileTo C n a m c body (S N) (HS N) f (R N) (HR N) := by
  induction N with
  | zero => exact h0
  | succ N ih => exact hs N (Nat.lt_succ_self _) (ih fun k hk => hs k (Nat.lt_succ_of_lt hk))

/-- a while by a measure -/
theorem while_meas {ι : Type} {c : Expr} {body : List Stmt} {f : AFlow} (S R : ι → List (Option AV)) (HS HR : ι → List AO) (ms : ι → Nat)
    (hs : ∀ i, (∀ j, ms j < ms i → WhileTo C n a m c body (S j) (HS j) f (R j) (HR j)) → WhileTo C n a m c body (S i) (HS i) f (R i) (HR i)) (i : ι) : WhileTo C n a m c body (S i) (HS i) f (R i) (HR i) := by
  have all : ∀ k, ∀ i, ms i < k → WhileTo C n a m c body (S i) (HS i) f (R i) (HR i) := by
    intro k
    induction k with
    | zero => intro i h; exact absurd h (Nat.not_lt_zero _)
    | succ k ih => exact fun i h => hs i fun j hj => ih j (by lia)
  exact all _ i (Nat.lt_succ_self _)

/-- all turns of a for go through -/
theorem for_all {body : List Stmt} {Inv : List AO → Prop} (gs : List (List (Option AV) → List (Option AV))) (S : Nat → List (Option AV)) (Hs : Nat → List AO) (hI : ∀ j, j ≤ gs.length → Inv (Hs j))
    (hb : ∀ j g, gs[j]? = some g → ∃ F₁, ExecsTo C n a m body (g (S j)) (Hs j) .next F₁ (Hs (j + 1)) ∧ FSub (S (j + 1)) F₁) : ForTo C n a m body Inv gs (S 0) (Hs 0) .next (S gs.length) (Hs gs.length) := by
  induction gs generalizing S Hs with
  | nil => exact .nil (hI 0 (Nat.le_refl _))
  | cons g gs ih =>
    obtain ⟨F₁, h1, h2⟩ := hb 0 g rfl
    refine .step (hI 0 (Nat.zero_le _)) (h1.weakPost h2) ?_
    exact ih (fun j => S (j + 1)) (fun j => Hs (j + 1)) (fun j hj => hI (j + 1) (Nat.succ_le_succ hj)) fun j g hg => hb (j + 1) g (by simpa using hg)

theorem rangeBinds_len {i : Nat} {s d : Int} {N : Nat} : (rangeBinds i s d N).length = N := by simp [rangeBinds]
theorem rangeBinds_get {i : Nat} {s d : Int} {N j : Nat} (h : j < N) : (rangeBinds i s d N)[j]? = some fun F => F.set i (some (.int (s + (j : Nat) * d))) := by
  simp [rangeBinds, h]
theorem rangeBinds_get' {i : Nat} {s d : Int} {N j : Nat} {g : List (Option AV) → List (Option AV)} (h : (rangeBinds i s d N)[j]? = some g) : j < N ∧ g = fun F => F.set i (some (.int (s + (j : Nat) * d))) := by
  have hj : j < N := by
    have := (List.getElem?_eq_some_iff.mp h).1
    simpa [rangeBinds] using this
  rw [rangeBinds_get hj] at h
  exact ⟨hj, (Option.some.inj h).symm⟩

theorem for_range_all {body : List Stmt} {i : Nat} {s d : Int} (N : Nat) (S : Nat → List (Option AV)) (Hs : Nat → List AO)
    (hb : ∀ j, j < N → ∃ F₁, ExecsTo C n a m body ((S j).set i (some (.int (s + (j : Nat) * d)))) (Hs j) .next F₁ (Hs (j + 1)) ∧ FSub (S (j + 1)) F₁) : ForTo C n a m body (fun _ => True) (rangeBinds i s d N) (S 0) (Hs 0) .next (S N) (Hs N) := by
  have := for_all (C := C) (n := n) (m := m) (a := a) (body := body) (Inv := fun _ => True) (rangeBinds i s d N) S Hs (fun _ _ => trivial) fun j g hg => by
    obtain ⟨hj, rfl⟩ := rangeBinds_get' hg
    exact hb j hj
  rwa [rangeBinds_len] at this

theorem for_range0_all {body : List Stmt} {i : Nat} (N : Nat) (S : Nat → List (Option AV)) (Hs : Nat → List AO)
    (hb : ∀ j, j < N → ∃ F₁, ExecsTo C n a m body ((S j).set i (some (.int (j : Nat)))) (Hs j) .next F₁ (Hs (j + 1)) ∧ FSub (S (j + 1)) F₁) : ForTo C n a m body (fun _ => True) (rangeBinds i 0 1 N) (S 0) (Hs 0) .next (S N) (Hs N) :=
  for_range_all N S Hs fun j hj => by
    have e : (0 : Int) + (j : Nat) * 1 = (j : Nat) := by lia
    rw [e]
    exact hb j hj

theorem listBinds_get' {i : Nat} {ns : List Int} {j : Nat} {g : List (Option AV) → List (Option AV)} (h : (listBinds i (ns.map .int))[j]? = some g) : j < ns.length ∧ g = fun F => F.set i (some (.int (ns.getD j 0))) := by
  have hj : j < ns.length := by
    have := (List.getElem?_eq_some_iff.mp h).1
    simpa [listBinds] using this
  refine ⟨hj, ?_⟩
  unfold listBinds at h
  rw [List.getElem?_map, getD_get hj] at h
  exact (Option.some.inj h).symm
theorem for_list_all {body : List Stmt} {i k : Nat} (ns : List Int) (S : Nat → List (Option AV)) (Hs : Nat → List AO) (hI : ∀ j, j ≤ ns.length → (Hs j)[k]? = some (il ns))
    (hb : ∀ j, j < ns.length → ∃ F₁, ExecsTo C n a m body ((S j).set i (some (.int (ns.getD j 0)))) (Hs j) .next F₁ (Hs (j + 1)) ∧ FSub (S (j + 1)) F₁) :
    ForTo C n a m body (fun H => H[k]? = some (il ns)) (listBinds i (ns.map .int)) (S 0) (Hs 0) .next (S ns.length) (Hs ns.length) := by
  have hl : (listBinds i (ns.map .int)).length = ns.length := by simp [listBinds]
  have := for_all (C := C) (n := n) (m := m) (a := a) (body := body) (Inv := fun H => H[k]? = some (il ns)) (listBinds i (ns.map .int)) S Hs (fun j hj => hI j (hl ▸ hj)) fun j g hg => by
    obtain ⟨hj, rfl⟩ := listBinds_get' hg
    exact hb j hj
  rwa [hl] at this

theorem enumBinds_get' {i k : Nat} {ns : List Int} {j : Nat} {g : List (Option AV) → List (Option AV)} (h : (enumBinds i k (ns.map .int))[j]? = some g) : j < ns.length ∧ g = fun F => (F.set i (some (.int (j : Nat)))).set k (some (.int (ns.getD j 0))) := by
  have hj : j < ns.length := by
    have := (List.getElem?_eq_some_iff.mp h).1
    simpa [enumBinds] using this
  refine ⟨hj, ?_⟩
  unfold enumBinds at h
  rw [List.getElem?_map, List.getElem?_zipIdx, getD_get hj] at h
  simp only [Option.map_some, Nat.zero_add] at h
  exact (Option.some.inj h).symm
theorem for_enum_all {body : List Stmt} {i k q : Nat} (ns : List Int) (S : Nat → List (Option AV)) (Hs : Nat → List AO) (hI : ∀ j, j ≤ ns.length → (Hs j)[q]? = some (il ns))
    (hb : ∀ j, j < ns.length → ∃ F₁, ExecsTo C n a m body (((S j).set i (some (.int (j : Nat)))).set k (some (.int (ns.getD j 0)))) (Hs j) .next F₁ (Hs (j + 1)) ∧ FSub (S (j + 1)) F₁) :
    ForTo C n a m body (fun H => H[q]? = some (il ns)) (enumBinds i k (ns.map .int)) (S 0) (Hs 0) .next (S ns.length) (Hs ns.length) := by
  have hl : (enumBinds i k (ns.map .int)).length = ns.length := by simp [enumBinds]
  have := for_all (C := C) (n := n) (m := m) (a := a) (body := body) (Inv := fun H => H[q]? = some (il ns)) (enumBinds i k (ns.map .int)) S Hs (fun j hj => hI j (hl ▸ hj)) fun j g hg => by
    obtain ⟨hj, rfl⟩ := enumBinds_get' hg
    exact hb j hj
  rwa [hl] at this

/-- for x in range(e): all turns go through -/
theorem ex_range {x g : Str} {px pg pc pos : Pos} {e : Expr} {body : List Stmt} (i : Nat) (N : Nat) (S : Nat → List (Option AV)) (Hs : Nat → List AO) (hi : At a.T x i) (hg : InG a.G g (.type "range")) (he : EvalTo C n a e (S 0) (Hs 0) (.int (N : Nat)) (Hs 0)) (hk : N < 4096)
    (hb : ∀ j, j < N → ∃ F₁, ExecsTo C n a m body ((S j).set i (some (.int (j : Nat)))) (Hs j) .next F₁ (Hs (j + 1)) ∧ FSub (S (j + 1)) F₁)
    (hc : autoParam (CallIs a (.Name g pg) e [] pc) rflS)
    (hs : autoParam (StarIs a e []) rflS)
    (hf : autoParam (∀ x, foldedSetIterable (.Call (.Name g pg) [e] [] pc) a.env x = pure x) introS) :
    ExecTo C n a m (.For (.Name x px) (.Call (.Name g pg) [e] [] pc) body [] pos) (S 0) (Hs 0) .next (S N) (Hs N) :=
  ex_for_range1 i hi hg.mem he (by lia) (by lia) (by rw [Int.toNat_natCast]; exact for_range0_all N S Hs hb) hc hs hf

/-- for x in xs, a list of ints that the loop does not turn -/
theorem ex_each {x : Str} {px pos : Pos} {iter : Expr} {body : List Stmt} {k : Nat} (i : Nat) (ns : List Int) (S : Nat → List (Option AV)) (Hs : Nat → List AO) (hm : k < m) (hi : At a.T x i) (he : EvalTo C n a iter (S 0) (Hs 0) (.obj k) (Hs 0)) (hI : ∀ j, j ≤ ns.length → (Hs j)[k]? = some (il ns))
    (hb : ∀ j, j < ns.length → ∃ F₁, ExecsTo C n a m body ((S j).set i (some (.int (ns.getD j 0)))) (Hs j) .next F₁ (Hs (j + 1)) ∧ FSub (S (j + 1)) F₁)
    (hf : autoParam (∀ x, foldedSetIterable iter a.env x = pure x) introS) : ExecTo C n a m (.For (.Name x px) iter body [] pos) (S 0) (Hs 0) .next (S ns.length) (Hs ns.length) :=
  ex_for_list i hm hi he (hI 0 (Nat.zero_le _)) (for_list_all ns S Hs hI hb) hf

/-- for i, x in enumerate(xs) -/
theorem ex_enum {x y g : Str} {px py pt pg pc pos : Pos} {q : Nat} {e : Expr} {body : List Stmt} {k : Nat} (i l : Nat) (ns : List Int) (S : Nat → List (Option AV)) (Hs : Nat → List AO) (hm : k < m) (hi : At a.T x i) (hl : At a.T y l) (hg : InG a.G g (.type "enumerate"))
    (he : EvalTo C n a e (S 0) (Hs 0) (.obj k) (Hs 0)) (hI : ∀ j, j ≤ ns.length → (Hs j)[k]? = some (il ns))
    (hb : ∀ j, j < ns.length → ∃ F₁, ExecsTo C n a m body (((S j).set i (some (.int (j : Nat)))).set l (some (.int (ns.getD j 0)))) (Hs j) .next F₁ (Hs (j + 1)) ∧ FSub (S (j + 1)) F₁)
    (hc : autoParam (CallIs a (.Name g pg) e [] pc) rflS)
    (hs : autoParam (StarIs a e []) rflS)
    (hf : autoParam (∀ x, foldedSetIterable (.Call (.Name g pg) [e] [] pc) a.env x = pure x) introS) :
    ExecTo C n a m (.For (.Tuple [.Name x px, .Name y py] q pt) (.Call (.Name g pg) [e] [] pc) body [] pos) (S 0) (Hs 0) .next (S ns.length) (Hs ns.length) :=
  ex_for_enum i l hm hi hl hg.mem he (hI 0 (Nat.zero_le _)) (for_enum_all ns S Hs hI hb) hc hs hf

theorem ev_rep_il {l e : Expr} {pos : Pos} {i : Nat} {z : Int} {k : Nat} (hl : EvalTo C n a l F H (.obj i) H₁) (hr : EvalTo C n a e F H₁ (.int (k : Nat)) H₂) (hi : H₂[i]? = some (il [z])) (hz : k ≤ 4096) :
    EvalTo C n a (.BinOp l .Mult e pos) F H (.obj H₂.length) (H₂ ++ [il (List.replicate k z)]) := by
  have := ev_rep (pos := pos) hl hr (v := .int z) hi (by lia) (by lia)
  rw [Int.toNat_natCast] at this
  have e1 : il (List.replicate k z) = .list (List.replicate k (.int z)) := by simp [il]
  rw [e1]
  exact this
theorem ev_cat_il {l e : Expr} {pos : Pos} {i j : Nat} {xs ys : List Int} (hl : EvalTo C n a l F H (.obj i) H₁) (hr : EvalTo C n a e F H₁ (.obj j) H₂) (hi : H₂[i]? = some (il xs)) (hj : H₂[j]? = some (il ys)) (hz : xs.length + ys.length ≤ 4096) :
    EvalTo C n a (.BinOp l .Add e pos) F H (.obj H₂.length) (H₂ ++ [il (xs ++ ys)]) := by
  have := ev_cat (pos := pos) hl hr hi hj (by simpa using hz)
  have e1 : il (xs ++ ys) = .list (xs.map .int ++ ys.map .int) := by simp [il]
  rw [e1]
  exact this
end
end Mine
namespace Mine
open PySem PySem.W PySem.Calls PySem.Spec PyProof.Rows

noncomputable def newR (σ : List Nat) (r : List Addr) : List Addr := σ.map fun j => r.getD j 0

theorem newR_get {σ : List Nat} {r : List Addr} {i j : Nat} {x : Addr} (h : σ[i]? = some j) (e : r[j]? = some x) : (newR σ r)[i]? = some x := by
  unfold newR
  rw [List.getElem?_map, h]
  simp [List.getD, e]
theorem RenV.vr {σ : List Nat} {r : List Addr} {v w : AV} {u : Value} (h : RenV σ v w) (k : VR r w u) : VR (newR σ r) v u := by
  cases v with
  | obj h' => obtain ⟨j, e, rfl⟩ := h; obtain ⟨a, ea, q⟩ := k; exact ⟨a, newR_get e ea, q⟩
  | _ => obtain rfl : w = _ := h; exact k

/-- what may be told anew -/
structure Gc (m : Nat) (ch : List (Str × Nat)) (σ : List Nat) (F H : _) (F' : List (Option AV)) (H' : List AO) : Prop where
  len : σ.length = H'.length
  nd : σ.Nodup
  lt : ∀ j ∈ σ, j < List.length (α := AO) H
  id : ∀ i, i < m → i < List.length (α := AO) H → σ[i]? = some i
  ch : ∀ p ∈ ch, p.2 < m
  fr : ∀ (i : Nat) (v : AV), F'[i]? = some (some v) → ∃ w, (F : List (Option AV))[i]? = some (some w) ∧ RenV σ v w
  hp : ∀ (i : Nat) (o : AO), H'[i]? = some o → ∃ j, σ[i]? = some j ∧ H[j]? = some o ∧ LowO m o

theorem getD_mem {r : List Addr} {j : Nat} (h : j < r.length) : r[j]? = some (r.getD j 0) := by
  rw [List.getD_eq_getElem?_getD, List.getElem?_eq_getElem h]; rfl
theorem newR_nd {σ : List Nat} {r : List Addr} (hr : r.Nodup) (hs : σ.Nodup) (hl : ∀ j ∈ σ, j < r.length) : (newR σ r).Nodup :=
  List.pairwise_map.mpr (List.Pairwise.imp_of_mem (fun {x y} hx hy hne e => hne ((List.getElem?_inj (hl x hx) hr).mp ((getD_mem (hl x hx)).trans (e ▸ (getD_mem (hl y hy)).symm)))) hs)
theorem newR_mem {σ : List Nat} {r : List Addr} (hl : ∀ j ∈ σ, j < r.length) {x : Addr} (h : x ∈ newR σ r) : x ∈ r := by
  obtain ⟨j, hj, rfl⟩ := List.mem_map.mp h
  exact List.mem_of_getElem? (getD_mem (hl j hj))

section
variable {C : Cx} {n m : Nat} {a : Act} {F F' F₁ F₂ : List (Option AV)} {H H' H₀ H₁ H₂ : List AO}

theorem Gc.lt' {ch : List (Str × Nat)} {σ : List Nat} {r : List Addr} {h : Heap} (g : Gc m ch σ F H F' H') (s : Hp C r H h) : ∀ j ∈ σ, j < r.length := fun j hj => s.len ▸ g.lt j hj
theorem Gc.mv {ch : List (Str × Nat)} {σ : List Nat} {r : List Addr} {h : Heap} (g : Gc m ch σ F H F' H') (s : Hp C r H h) : Mv m r (newR σ r) := fun i x hi e => newR_get (g.id i hi (s.len ▸ gl e)) e
theorem Gc.hpOk {ch : List (Str × Nat)} {σ : List Nat} {r : List Addr} {h : Heap} (g : Gc m ch σ F H F' H') (s : Hp C r H h) : Hp C (newR σ r) H' h :=
  ⟨s.keep, fun x hx => s.off x (newR_mem (g.lt' s) hx), newR_nd s.nd g.nd (g.lt' s), (List.length_map _).trans g.len, fun x hx => s.lo x (newR_mem (g.lt' s) hx), fun i o e =>
    let ⟨j, e1, e2, k⟩ := g.hp i o e
    let ⟨x, ob, e3, e4, e5⟩ := s.obj j o e2
    ⟨x, ob, newR_get e1 e3, e4, e5.to (g.mv s) k⟩⟩

theorem Gc.st {σ : List Nat} {r : List Addr} {h : Heap} (g : Gc m a.ch σ F H F' H') (s : St C a r F H h) : St C a (newR σ r) F' H' h :=
  ⟨g.hpOk s.hp, s.ok, s.offL, fun q => s.nL (newR_mem (g.lt' s.hp) q), let ⟨mm, hn, hv⟩ := s.ns; ⟨mm, hn, fun i x v h1 h2 => let ⟨w, e1, k⟩ := g.fr i v h2; let ⟨u, e2, p⟩ := hv i x w h1 e1; ⟨u, e2, k.vr p⟩⟩,
   fun x i hx => let ⟨c, e1, e2⟩ := s.cells x i hx; ⟨c, e1, g.mv s.hp i c (g.ch (x, i) hx) e2⟩⟩

theorem Gc.ext {ch : List (Str × Nat)} {σ : List Nat} {L : Option Addr} {r r' : List Addr} {h h' : Heap} (g : Gc m ch σ F H F' H') (hp : Hp C r' H h') (x : ExtM m L r h r' h') : ExtM m L r h (newR σ r') h' :=
  ⟨fun i y hi e => g.mv hp i y hi (x.pre i y hi e), x.keep, x.live, fun y hy => x.fresh y (newR_mem (g.lt' hp) hy)⟩

/-- behind a statement the tracked objects may be told anew -/
theorem Xm.gc {t : Sem Flow} (h : Xm C n a m t F H .next F₁ H₁) (σ : List Nat) (g : Gc m a.ch σ F₁ H₁ F' H') (hm : m ≤ H₁.length) : Xm C n a m t F H .next F' H' :=
  fun A hA r s Q E st k => h.next hA st fun r' h' tk' x st' => k _ _ h' tk' (g.ext st'.hp x) .next (g.st st')

theorem RunsTo.gc {x : List Stmt} {v w : AV} (h : RunsTo C n a m x F H w H₁) (σ : List Nat) (g : Gc m a.ch σ [] H₁ [] H') (hm : m ≤ H₁.length) (hv : RenV σ v w) : RunsTo C n a m x F H v H' := by
  obtain ⟨F₁, fl, e, h⟩ := h
  have g' : Gc m a.ch σ F₁ H₁ [] H' := ⟨g.len, g.nd, g.lt, g.id, g.ch, fun i v e => noSome rfl e, g.hp⟩
  cases fl with
  | next =>
    obtain rfl : AV.none = w := e
    obtain rfl : v = .none := by
      cases v with
      | none => rfl
      | obj => obtain ⟨_, _, e⟩ := hv; exact nomatch e
      | _ => exact nomatch (show AV.none = _ from hv)
    exact ⟨[], .next, rfl, h.gc σ g' hm⟩
  | ret w' =>
    obtain rfl : w' = w := e
    exact ⟨[], .ret v, rfl, fun A hA r s Q E st k => h.ret hA st fun u r' h' tk' x p st' => k _ _ h' tk' (g'.ext st'.hp x) (.ret (hv.vr p)) (g'.st st')⟩

/-! ready-made -/
noncomputable def RenF (σ : List Nat) (F' F : List (Option AV)) : Prop := ∀ (i : Nat) (v : AV), F'[i]? = some (some v) → ∃ w, F[i]? = some (some w) ∧ RenV σ v w
theorem RenF.nil {σ : List Nat} : RenF σ [] [] := fun _ _ e => noSome rfl e
theorem RenF.skip {σ : List Nat} {x : Option AV} {F' F : List (Option AV)} (t : RenF σ F' F) : RenF σ (Option.none :: F') (x :: F) := fun i v e => by
  cases i with
  | zero => exact absurd e nofun
  | succ i => exact t i v e
theorem RenF.keep {σ : List Nat} {v w : AV} {F' F : List (Option AV)} (h : RenV σ v w) (t : RenF σ F' F) : RenF σ (Option.some v :: F') (Option.some w :: F) := fun i u e => by
  cases i with
  | zero => obtain rfl : v = u := Option.some.inj (Option.some.inj e); exact ⟨_, rfl, h⟩
  | succ i => exact t i u e

theorem LowO.il {n : Nat} (ns : List Int) : LowO n (il ns) := fun v hv => by
  obtain ⟨i, _, rfl⟩ := List.mem_map.mp hv
  trivial
theorem Low.set {H : List AO} (l : Low H) (h : Nat) {o : AO} (ho : LowO H.length o) : Low (H.set h o) := fun o' e => by
  rw [List.length_set]
  rcases List.mem_or_eq_of_mem_set e with e | rfl
  · exact l _ e
  · exact ho
theorem Low.setIl {H : List AO} (l : Low H) (h : Nat) (ns : List Int) : Low (H.set h (il ns)) := l.set h (.il ns)

theorem LowV.up {n m : Nat} {v : AV} (h : LowV n v) (k : n ≤ m) : LowV m v := by
  cases v with
  | obj => exact Nat.lt_of_lt_of_le h k
  | _ => trivial
theorem LowO.up {n m : Nat} {o : AO} (h : LowO n o) (k : n ≤ m) : LowO m o := by
  cases o with
  | list => exact fun v e => (h v e).up k
  | tup => exact fun v e => (h v e).up k
  | cell v => cases v with
    | none => trivial
    | some v => exact LowV.up h k
  | inst => exact Nat.lt_of_lt_of_le h k
  | ndict => exact fun v e => (h v e).up k
  | idict => exact fun v e => (h v e).up k
  | clo => exact ⟨Nat.lt_of_lt_of_le h.1 k, fun v e => Nat.lt_of_lt_of_le (h.2 v e) k⟩
  | _ => trivial
theorem Low.push {H : List AO} (l : Low H) {o : AO} (ho : LowO H.length o) : Low (H ++ [o]) := fun o' e => by
  rw [List.length_append]
  rcases mem_snoc e with e | rfl
  · exact (l o' e).up (Nat.le_add_right ..)
  · exact ho.up (Nat.le_add_right ..)

noncomputable def lastσ (b t : Nat) : List Nat := List.range b ++ [b + t]
theorem lastσ_old {b t i : Nat} (h : i < b) : (lastσ b t)[i]? = some i := by
  unfold lastσ
  rw [List.getElem?_append_left (by simpa using h), List.getElem?_range h]
theorem lastσ_new {b t : Nat} : (lastσ b t)[b]? = some (b + t) := by
  unfold lastσ
  simp
theorem dropσ_old {b i : Nat} (h : i < b) : (List.range b)[i]? = some i := List.getElem?_range h

/-- of what was made one list alone is kept -/
theorem gc_pick {B t t' : List AO} {ns : List Int} {F F' : List (Option AV)} {ch : List (Str × Nat)} (l : Low B) (hch : ∀ p ∈ ch, p.2 < B.length) (hf : RenF (lastσ B.length t.length) F' F) : Gc B.length ch (lastσ B.length t.length) F (B ++ t ++ il ns :: t') F' (B ++ [il ns]) where
  len := by simp [lastσ]
  nd := List.nodup_append.mpr ⟨List.nodup_range, List.pairwise_singleton .., fun x hx y hy e => Nat.not_lt.mpr (Nat.le_add_right _ _) (List.mem_singleton.mp hy ▸ e ▸ List.mem_range.mp hx)⟩
  lt := fun j hj => by
    rw [List.length_append, List.length_append]
    rcases mem_snoc hj with h | rfl
    · exact Nat.lt_of_lt_of_le (List.mem_range.mp h) (Nat.le_trans (Nat.le_add_right ..) (Nat.le_add_right ..))
    · exact Nat.lt_add_of_pos_right (Nat.succ_pos _)
  id := fun i hi _ => lastσ_old hi
  ch := hch
  fr := hf
  hp := fun i o e => by
    rcases last_case e with e | ⟨rfl, rfl⟩
    · exact ⟨i, lastσ_old (gl e), hp_old (hp_old e), l o (List.mem_of_getElem? e)⟩
    · refine ⟨_, lastσ_new, ?_, .il ns⟩
      rw [← List.length_append]
      exact (List.getElem?_append_right (Nat.le_refl _)).trans (by rw [Nat.sub_self]; rfl)

/-- nothing of what was made is kept -/
theorem gc_drop {B t : List AO} {F F' : List (Option AV)} {ch : List (Str × Nat)} (l : Low B) (hch : ∀ p ∈ ch, p.2 < B.length) (hf : RenF (List.range B.length) F' F) : Gc B.length ch (List.range B.length) F (B ++ t) F' B where
  len := List.length_range
  nd := List.nodup_range
  lt := fun j hj => by
    rw [List.length_append]
    exact Nat.lt_of_lt_of_le (List.mem_range.mp hj) (Nat.le_add_right ..)
  id := fun i hi _ => dropσ_old hi
  ch := hch
  fr := hf
  hp := fun i o e => ⟨i, dropσ_old (gl e), hp_old e, l o (List.mem_of_getElem? e)⟩

theorem RenV.low {σ : List Nat} {h b : Nat} (hh : h < b) (hs : ∀ i, i < b → σ[i]? = some i) : RenV σ (.obj h) (.obj h) := .obj (hs h hh)

/-- a def's end: of all that it made the list that it gives back is kept -/
theorem runs_last {x : List Stmt} {B t : List AO} {ns : List Int} {b : Nat} (h : RunsTo C n a b x F H (.obj (B.length + t.length)) (B ++ t ++ [il ns])) (hb : B.length = b) (l : Low B) (hch : a.ch = []) : RunsTo C n a b x F H (.obj B.length) (B ++ [il ns]) := by
  subst hb
  exact h.gc _ (gc_pick (t' := []) l (by rw [hch]; exact fun _ h => nomatch h) .nil) (by simp) (.obj lastσ_new)
theorem runs_drop {x : List Stmt} {B t : List AO} {v : AV} {b : Nat} (h : RunsTo C n a b x F H v (B ++ t)) (hb : B.length = b) (l : Low B) (hch : a.ch = []) (hv : RenV (List.range B.length) v v) : RunsTo C n a b x F H v B := by
  subst hb
  exact h.gc _ (gc_drop l (by rw [hch]; exact fun _ h => nomatch h) .nil) (by simp) hv

end
end Mine
namespace Mine
open PySem PySem.W PySem.Calls PySem.Spec PyProof.Rows

section
variable {C : Cx} {n m : Nat} {a : Act} {F F' F₁ F₂ : List (Option AV)} {H H' H₀ H₁ H₂ : List AO}

theorem Hp.tupAt {C : Cx} {r : List Addr} {H : List AO} {h : Heap} (s : Hp C r H h) {i : Nat} {x : Addr} {xs : List AV} (hi : H[i]? = some (.tup xs)) (hx : r[i]? = some x) :
    ∃ us, VRs r xs us ∧ h.get? x = some { cls := .type "tuple", data := .seq us.toArray } := by
  obtain ⟨_, e2, us, rfl, p⟩ := s.at hi hx
  exact ⟨us, p, e2⟩

/-- x, y = (.., ..) -/
theorem ex_pair {x y : Str} {px py tp pos vp : Pos} {q q' : Nat} {e₁ e₂ : Expr} {v₁ v₂ : AV} (i j : Nat) (hi : At a.T x i) (hj : At a.T y j) (h₁ : EvalTo C n a e₁ F H v₁ H₁) (h₂ : EvalTo C n a e₂ F H₁ v₂ H₂)
    (hst₁ : autoParam (StarIs a e₁ [e₂]) rflS) (hst₂ : autoParam (StarIs a e₂ []) rflS)
    (hw : autoParam (swappedStores [.Tuple [.Name x px, .Name y py] q tp] (.Tuple [e₁, e₂] q' vp) a.env = pure (some [x, y])) rflS) :
    ExecTo C n a m (.Assign [.Tuple [.Name x px, .Name y py] q tp] (.Tuple [e₁, e₂] q' vp) pos) F H .next ((F.set j (some v₂)).set i (some v₁)) (H₂ ++ [.tup [v₁, v₂]]) := by
  intro A hA r s Q E st k
  have ht : EvalTo C n a (.Tuple [e₁, e₂] q' vp) F H (.obj H₂.length) (H₂ ++ [.tup [v₁, v₂]]) := ev_tuple (args_cons' h₁ (args_cons' h₂ args_nil' hst₂) hst₁) (Nat.le_of_ble_eq_true rfl)
  refine Assign_Tuple_swapped (ht.obj hA st fun t r₁ h₁' tk₁ et x₁ st₁ => ?_) rfl hw
  obtain ⟨_, ⟨u₁, _, rfl, p1, u₂, _, rfl, p2, rfl⟩, ho⟩ := st₁.hp.tupAt hp_last et
  refine wpAny_unpackItems_tuple (s := sh s h₁' tk₁) (items := #[u₁, u₂]) hA.hh ⟨_, ho, rfl, _, rfl⟩ fun h' hx => ?_
  have y₂ := Hp.still st₁.hp fun b o e => hx b o (Nat.ne_of_lt (Heap.lt_size e)) e
  refine wpAny_bind (wpAny_holding (wpAny_bindName (store_local hj.get (s := sh s h' tk₁) (st₁.after y₂.1 y₂.2) p2 fun h₃ tk₃ x₃ st₃ => ?_)))
  exact wpAny_bind (wpAny_holding (wpAny_bindName (store_local hi.get (s := sh s h₃ tk₃) st₃ p1 fun h₄ tk₄ x₄ st₄ => wpAny_pure (k _ _ _ _ (x₁.trans (y₂.1.ofNone.trans (x₃.trans x₄))).toM .next st₄))))

/-- x, y, z = (.., .., ..) -/
theorem ex_three {x y z : Str} {px py pz tp pos vp : Pos} {q q' : Nat} {e₁ e₂ e₃ : Expr} {v₁ v₂ v₃ : AV} (i j l : Nat) (hi : At a.T x i) (hj : At a.T y j) (hl : At a.T z l) (h₁ : EvalTo C n a e₁ F H v₁ H₀) (h₂ : EvalTo C n a e₂ F H₀ v₂ H₁) (h₃ : EvalTo C n a e₃ F H₁ v₃ H₂)
    (hst₁ : autoParam (StarIs a e₁ [e₂, e₃]) rflS) (hst₂ : autoParam (StarIs a e₂ [e₃]) rflS) (hst₃ : autoParam (StarIs a e₃ []) rflS)
    (hw : autoParam (swappedStores [.Tuple [.Name x px, .Name y py, .Name z pz] q tp] (.Tuple [e₁, e₂, e₃] q' vp) a.env = pure (some [x, y, z])) rflS) :
    ExecTo C n a m (.Assign [.Tuple [.Name x px, .Name y py, .Name z pz] q tp] (.Tuple [e₁, e₂, e₃] q' vp) pos) F H .next (((F.set l (some v₃)).set j (some v₂)).set i (some v₁)) (H₂ ++ [.tup [v₁, v₂, v₃]]) := by
  intro A hA r s Q E st k
  have ht : EvalTo C n a (.Tuple [e₁, e₂, e₃] q' vp) F H (.obj H₂.length) (H₂ ++ [.tup [v₁, v₂, v₃]]) := ev_tuple (args_cons' h₁ (args_cons' h₂ (args_cons' h₃ args_nil' hst₃) hst₂) hst₁) (Nat.le_of_ble_eq_true rfl)
  refine Assign_Tuple_swapped (ht.obj hA st fun t r₁ h₁' tk₁ et x₁ st₁ => ?_) rfl hw
  obtain ⟨_, ⟨u₁, _, rfl, p1, u₂, _, rfl, p2, u₃, _, rfl, p3, rfl⟩, ho⟩ := st₁.hp.tupAt hp_last et
  refine wpAny_unpackItems_tuple (s := sh s h₁' tk₁) (items := #[u₁, u₂, u₃]) hA.hh ⟨_, ho, rfl, _, rfl⟩ fun h' hx => ?_
  have y₂ := Hp.still st₁.hp fun b o e => hx b o (Nat.ne_of_lt (Heap.lt_size e)) e
  refine wpAny_bind (wpAny_holding (wpAny_bindName (store_local hl.get (s := sh s h' tk₁) (st₁.after y₂.1 y₂.2) p3 fun h₃ tk₃ x₃ st₃ => ?_)))
  refine wpAny_bind (wpAny_holding (wpAny_bindName (store_local hj.get (s := sh s h₃ tk₃) st₃ p2 fun h₄ tk₄ x₄ st₄ => ?_)))
  exact wpAny_bind (wpAny_holding (wpAny_bindName (store_local hi.get (s := sh s h₄ tk₄) st₄ p1 fun h₅ tk₅ x₅ st₅ => wpAny_pure (k _ _ _ _ (x₁.trans (y₂.1.ofNone.trans (x₃.trans (x₄.trans x₅)))).toM .next st₅))))

/-- the first of k - 1, .., 0 at which r has something to give back -/
noncomputable def hitDown {β : Type} (r : Nat → Option β) : Nat → Option β
  | 0 => none
  | k + 1 => match r k with
    | some v => some v
    | none => hitDown r k

theorem hitDown_none {β : Type} {r : Nat → Option β} {k : Nat} (h : r k = none) : hitDown r (k + 1) = hitDown r k := by rw [hitDown, h]
theorem hitDown_some {β : Type} {r : Nat → Option β} {k : Nat} {v : β} (h : r k = some v) : hitDown r (k + 1) = some v := by rw [hitDown, h]
theorem down_eq (k j : Nat) : ((k + 1 : Nat) : Int) - 1 + ((j + 1 : Nat) : Int) * -1 = (k : Int) - 1 + (j : Int) * -1 := by lia
theorem down_zero (k : Nat) : ((k + 1 : Nat) : Int) - 1 + ((0 : Nat) : Int) * -1 = (k : Int) := by lia
theorem rangeBinds_down {i k : Nat} : rangeBinds i (((k + 1 : Nat) : Int) - 1) (-1) (k + 1) = (fun F => F.set i (some (.int (k : Nat)))) :: rangeBinds i ((k : Int) - 1) (-1) k := by
  unfold rangeBinds
  rw [List.range_succ_eq_map, List.map_cons, List.map_map]
  refine List.cons_eq_cons.mpr ⟨?_, List.map_congr_left fun j _ => ?_⟩
  · funext F
    exact congrArg (fun x => F.set i (some (.int x))) (down_zero k)
  · funext F
    exact congrArg (fun x => F.set i (some (.int x))) (down_eq k j)

theorem for_down {i : Nat} {body : List Stmt} {S : List (Option AV)} (r : Nat → Option AV) (N : Nat) (hb : ∀ k, k < N → (r k = none → ∃ F₁, ExecsTo C n a m body (S.set i (some (.int (k : Nat)))) H .next F₁ H ∧ FSub S F₁) ∧ (∀ v, r k = some v → ∃ F₁, ExecsTo C n a m body (S.set i (some (.int (k : Nat)))) H (.ret v) F₁ H)) :
    (hitDown r N = none → ForTo C n a m body (fun _ => True) (rangeBinds i ((N : Int) - 1) (-1) N) S H .next S H) ∧ (∀ v, hitDown r N = some v → ∃ F', ForTo C n a m body (fun _ => True) (rangeBinds i ((N : Int) - 1) (-1) N) S H (.ret v) F' H) := by
  induction N with
  | zero => exact ⟨fun _ => ForTo.nil trivial, fun v h => nomatch h⟩
  | succ N ih =>
    have ih := ih fun k hk => hb k (Nat.lt_succ_of_lt hk)
    have h := hb N (Nat.lt_succ_self _)
    rw [rangeBinds_down]
    cases hr : r N with
    | none =>
      obtain ⟨F₁, h1, h2⟩ := h.1 hr
      rw [hitDown_none hr]
      exact ⟨fun e => ForTo.step trivial (h1.weakPost h2) (ih.1 e), fun v e => let ⟨F', q⟩ := ih.2 v e; ⟨F', ForTo.step trivial (h1.weakPost h2) q⟩⟩
    | some v =>
      obtain ⟨F₁, h1⟩ := h.2 v hr
      rw [hitDown_some hr]
      exact ⟨fun e => (nomatch e), fun v' e => ⟨F₁, ForTo.ret trivial (Option.some.inj e ▸ h1)⟩⟩

theorem runs_for_down {x g : Str} {px pg pc pos : Pos} {e₁ e₂ e₃ : Expr} {body rest : List Stmt} (N : Nat) (i : Nat) (r : Nat → Option AV) {v : AV} (hi : At a.T x i) (hg : InG a.G g (.type "range"))
    (he₁ : EvalTo C n a e₁ F H (.int ((N : Int) - 1)) H) (he₂ : EvalTo C n a e₂ F H (.int (-1)) H) (he₃ : EvalTo C n a e₃ F H (.int (-1)) H) (hN : N < 2 ^ 62)
    (hb : ∀ k, k < N → (r k = none → ∃ F₁, ExecsTo C n a m body (F.set i (some (.int (k : Nat)))) H .next F₁ H ∧ FSub F F₁) ∧ (∀ v, r k = some v → ∃ F₁, ExecsTo C n a m body (F.set i (some (.int (k : Nat)))) H (.ret v) F₁ H))
    (h0 : hitDown r N = none → RunsTo C n a m rest F H v H) (h1 : ∀ u, hitDown r N = some u → u = v)
    (hc : autoParam (CallIs a (.Name g pg) e₁ [e₂, e₃] pc) rflS)
    (hs₁ : autoParam (StarIs a e₁ [e₂, e₃]) rflS) (hs₂ : autoParam (StarIs a e₂ [e₃]) rflS) (hs₃ : autoParam (StarIs a e₃ []) rflS)
    (hpl : autoParam ((backTo pc (starEach [e₂, e₃] a.env)).any (·.1) = false) rflS)
    (hf : autoParam (∀ x, foldedSetIterable (.Call (.Name g pg) [e₁, e₂, e₃] [] pc) a.env x = pure x) introS) :
    RunsTo C n a m (.For (.Name x px) (.Call (.Name g pg) [e₁, e₂, e₃] [] pc) body [] pos :: rest) F H v H := by
  have L := for_down (i := i) (S := F) r N hb
  cases e : hitDown r N with
  | none => exact runs_cons (ex_for_down i hi hg.mem he₁ he₂ he₃ hN (L.1 e) hc hs₁ hs₂ hs₃ hpl hf) (h0 e)
  | some u =>
    obtain ⟨F', q⟩ := L.2 u e
    have := h1 u e
    subst this
    exact runs_ret (ex_for_down i hi hg.mem he₁ he₂ he₃ hN q hc hs₁ hs₂ hs₃ hpl hf)

/-- the last list alone is kept -/
theorem runs_keep {x : List Stmt} {B H₁ : List AO} {ns : List Int} {v : AV} {b : Nat} (t : List AO) (h : RunsTo C n a b x F H v H₁) (hv : v = .obj (B.length + t.length)) (hH : H₁ = B ++ t ++ [il ns]) (hb : B.length = b) (l : Low B) (hch : a.ch = []) : RunsTo C n a b x F H (.obj B.length) (B ++ [il ns]) := by
  subst hv hH
  exact runs_last h hb l hch

theorem Xm.pick {t : Sem Flow} {B H₁ : List AO} {ns : List Int} {b : Nat} (u u' : List AO) (h : Xm C n a b t F H .next F₁ H₁) (hH : H₁ = B ++ u ++ il ns :: u') (hb : B.length = b) (l : Low B) (hch : a.ch = []) (hf : RenF (lastσ B.length u.length) F' F₁) : Xm C n a b t F H .next F' (B ++ [il ns]) := by
  subst hH hb
  exact h.gc _ (gc_pick l (by rw [hch]; exact fun _ h => nomatch h) hf) (by simp)
theorem Xm.drop {t : Sem Flow} {B H₁ : List AO} {b : Nat} (u : List AO) (h : Xm C n a b t F H .next F₁ H₁) (hH : H₁ = B ++ u) (hb : B.length = b) (l : Low B) (hch : a.ch = []) (hf : RenF (List.range B.length) F' F₁) : Xm C n a b t F H .next F' B := by
  subst hH hb
  exact h.gc _ (gc_drop l (by rw [hch]; exact fun _ h => nomatch h) hf) (by simp)

end
end Mine
namespace Mine
open PySem PySem.W PySem.Calls PySem.Spec PyProof.Rows

inductive KV : List Str → List AV → Str → AV → Prop
  | here {k : Str} {v : AV} {ks : List Str} {vs : List AV} : KV (k :: ks) (v :: vs) k v
  | there {k k' : Str} {v v' : AV} {ks : List Str} {vs : List AV} (hne : (k' == k) = false) (h : KV ks vs k v) : KV (k' :: ks) (v' :: vs) k v

theorem NR.find {r : List Addr} {hash : Str → Int} {ks : List Str} {vs : List AV} {k : Str} {v : AV} (h : KV ks vs k v) {es : List DictEntry} (hN : NR r hash ks vs es) : ∃ u, getL k es = some (some u) ∧ VR r v u := by
  induction h generalizing es with
  | @here k =>
    obtain ⟨v, ws, t, u, fs, e, rfl, p, q⟩ := hN
    obtain ⟨rfl, rfl⟩ := List.cons.inj e
    refine ⟨u, ?_, p⟩
    have : (Value.str k t).isStr k = true := beq_self_eq_true k
    rw [getL, List.find?_cons_of_pos (p := fun x : DictEntry => x.key.isStr k) (a := ⟨hash k, .str k t, u⟩) this]
  | @there _ k' _ _ _ _ hne _ ih =>
    obtain ⟨v, ws, t, u, fs, e, rfl, p, q⟩ := hN
    obtain ⟨rfl, rfl⟩ := List.cons.inj e
    obtain ⟨u', e, pv⟩ := ih q
    refine ⟨u', Eq.trans ?_ e, pv⟩
    rw [getL, getL, List.find?_cons_of_neg (p := fun x : DictEntry => x.key.isStr _) (a := ⟨hash k', .str k' t, u⟩) (by rw [show (Value.str k' t).isStr _ = false from hne]; exact Bool.false_ne_true)]
    rfl
section
variable {r : List Addr} {hash : Str → Int} {ks : List Str} {vs : List AV} {es : List DictEntry}
theorem NR.noRef (h : NR r hash ks vs es) : es.any (·.refKey) = false := by
  induction ks generalizing vs es with
  | nil => rw [h.2]; rfl
  | cons k ks ih => obtain ⟨v, ws, t, u, fs, rfl, rfl, p, q⟩ := h; have := ih q; exact this
theorem NR.putNew {k : Str} {t : Tok} {u : Value} (h : NR r hash ks vs es) (hk : ∀ x ∈ ks, (x == k) = false) : putL k (hash k) (.str k t) u es = es ++ [⟨hash k, .str k t, u⟩] := by
  induction ks generalizing vs es with
  | nil => rw [h.2]; rfl
  | cons k' ks ih =>
    obtain ⟨v, ws, t', u', fs, rfl, rfl, p, q⟩ := h
    have hk := List.forall_mem_cons.mp hk
    rw [putL, if_neg (by rw [show (Value.str k' t').isStr k = false from hk.1]; exact Bool.false_ne_true), ih q hk.2]
    rfl
theorem NR.snoc {k : Str} {t : Tok} {v : AV} {u : Value} (p : VR r v u) (h : NR r hash ks vs es) : NR r hash (ks ++ [k]) (vs ++ [v]) (es ++ [⟨hash k, .str k t, u⟩]) := by
  induction ks generalizing vs es with
  | nil => obtain ⟨rfl, rfl⟩ := h; exact NR.cons p .nil
  | cons k' ks ih => obtain ⟨v, ws, t', u', fs, rfl, rfl, p, q⟩ := h; exact NR.cons p (ih q)
theorem NR.length (h : NR r hash ks vs es) : es.length = ks.length := by
  induction ks generalizing vs es with
  | nil => rw [h.2]; rfl
  | cons k ks ih => obtain ⟨v, ws, t, u, fs, rfl, rfl, p, q⟩ := h; exact congrArg (· + 1) (ih q)
end

structure ClsK (K : Frag) (Ck fI : Addr) : Prop where
  get : plainGet K Ck "x" = true
  dct : hasDictIn K Ck = true
  over : plainOver K Ck = true
  set : findIn K (.ref Ck) "__setattr__" = some (some (.builtin "object.__setattr__"))
  made : makesIn K Ck = true
  init : findIn K (.ref Ck) "__init__" = some (some (.ref fI))
  fn : typeIn K (.ref fI) = some (.type "function")

section
variable {C : Cx} {n m : Nat} {a : Act} {F F' F₁ F₂ : List (Option AV)} {H H' H₀ H₁ H₂ : List AO}

theorem Hp.inst {r : List Addr} {h : Heap} (s : Hp C r H h) {i d : Nat} {x Ck : Addr} {ks : List Str} {xs : List AV} (hi : H[i]? = some (.inst Ck d)) (hd : H[d]? = some (.ndict ks xs)) (hx : r[i]? = some x) :
    ∃ dx es q, r[d]? = some dx ∧ PySem.W.InstAt h x (instObj Ck dx) Ck (some (dictOf es q)) ∧ h.get? dx = some (dictOf es q) ∧ NR r (PyData.keyHash C.w.params) ks xs es := by
  obtain ⟨_, e2, dx, edx, rfl⟩ := s.at hi hx
  obtain ⟨_, f2, es, q, k, rfl⟩ := s.at hd edx
  exact ⟨dx, es, q, edx, ⟨e2, rfl, rfl, f2⟩, f2, k⟩

theorem ev_attr {e : Expr} {name : Str} {pos : Pos} {h d : Nat} {Ck fI : Addr} {ks : List Str} {xs : List AV} {v : AV} (Y : ClsK C.K Ck fI) (he : EvalTo C n a e F H (.obj h) H₁) (hi : H₁[h]? = some (.inst Ck d)) (hd : H₁[d]? = some (.ndict ks xs)) (hl : KV ks xs name v)
    (hn : findIn C.K (.ref Ck) name = some none) (hv : ∀ u, v ≠ .val u)
    (hE : autoParam (eval (.Attribute e name pos) a.env = (do
      let o ← eval e a.env
      standAt pos.atName
      let r ← holding [o] (getAttr o name true)
      letTemporaryGo e o r
      pure r)) wuaS) : EvalTo C n a (.Attribute e name pos) F H v H₁ := by
  intro A hA r s Q E st k
  refine Attribute_any_ (he.obj hA st fun x r₁ h₁ tk₁ ex x₁ st₁ => ?_) hE
  obtain ⟨dx, es, q, edx, I, e2, hN⟩ := st₁.hp.inst hi hd ex
  obtain ⟨u, hu, pu⟩ := hN.find hl
  have hh : handedIn u = true := by
    cases v with
    | val => exact absurd rfl (hv _)
    | none => obtain rfl : u = .none := pu; rfl
    | bool => obtain rfl : u = .bool _ := pu; rfl
    | _ => obtain ⟨_, h⟩ := pu; first | (obtain rfl := h; rfl) | (obtain ⟨_, rfl⟩ := h; rfl)
  exact get_value (s := sh s h₁ tk₁) (C.hK.keeps st₁.hp.keep) I (plainGet_of Y.get).1 (findObj_own Y.dct hn rfl hu) hh (k _ r₁ h₁ _ x₁ pu st₁)

theorem ex_setattr {o value : Expr} {attr : Str} {pos' pos : Pos} {h d : Nat} {Ck fI : Addr} {ks : List Str} {xs : List AV} {v : AV} (Y : ClsK C.K Ck fI) (he : EvalTo C n a value F H v H₁) (ho : EvalTo C n a o F H₁ (.obj h) H₂) (hi : H₂[h]? = some (.inst Ck d)) (hd : H₂[d]? = some (.ndict ks xs))
    (hnew : ∀ x ∈ ks, (x == attr) = false) (hn : findIn C.K (.ref Ck) attr = some none) (hsz : ks.length ≤ 100)
    (hs : autoParam (swapsWith value (some (.Attribute o attr pos')) pos.line a.env = pure false) rflS) :
    ExecTo C n a m (.Assign [.Attribute o attr pos'] value pos) F H .next F (H₂.set d (.ndict (ks ++ [attr]) (xs ++ [v]))) := by
  intro A hA r s Q E st k
  refine plainObj_wpAny_Assign_Attribute (he A hA r s _ _ st fun u r₁ h₁ tk₁ x₁ p₁ st₁ => ho.obj hA st₁ fun x r₂ h₂ tk₂ ex x₂ st₂ => ?_) hs
  obtain ⟨dx, es, q, edx, I, e2, hN⟩ := st₂.hp.inst hi hd ex
  have X := C.hK.keeps st₂.hp.keep
  obtain ⟨cd, hc, hd'⟩ := any_some Y.dct
  refine set_plain (s := sh s h₂ tk₂) X I Y.set (osa_open X I Y.over (by unfold takerIn; rw [hn]; rfl) fun b => ?_)
  dsimp only
  refine wpAny_bind (wpAny_pure (wpAny_bind (wpAny_bind (wpAny_loadPart I.1 (wpAny_bind ((looks_clsIn X hc).here ?_))))))
  rw [hd']
  refine wpAny_pure (a := some dx) (wpAny_bind (wpAny_pure (wpAny_bind ?_)))
  unfold nsSet
  refine wpAny_bind (wpAny_bind (wpAny_askSetting (wpAny_pure (wpAny_bind (wpAny_mkText (wpAny_bind (wpAny_loadPart e2 ?_)))))))
  dsimp only
  have c : (!es.toArray.any (·.key.isStr attr) && es.toArray.any (·.refKey)) = false := by
    rw [List.any_toArray, List.any_toArray, hN.noRef, Bool.and_false]
  rw [aRefKeyMayBeTheName_at, c]
  refine wpAny_updatePart e2 ?_
  have D' : (h₂.update dx (Obj.putName attr (PyData.keyHash C.w.params attr) (.str attr (tk₂ + 1)) u)).get? dx = some (dictOf (es ++ [⟨PyData.keyHash C.w.params attr, .str attr (tk₂ + 1), u⟩]) (putN attr es q)) := by
    rw [Heap.get?_update_self _ e2 (by rw [putName_dict]; rfl), putName_dict, hN.putNew hnew]
  refine wpAny_bind (wpAny_lookBehind D' (pastItsLine_dict (by rw [List.size_toArray, List.length_append, hN.length]; exact Nat.le_trans (Nat.succ_le_succ hsz) (Nat.le_of_ble_eq_true rfl))) (wpAny_pure ?_))
  have y₅ := st₂.hp.turn edx (OR.ndict (ks ++ [attr]) (xs ++ [v]) _ (putN attr es q) (hN.snoc (t := tk₂ + 1) (p₁.mono x₂.pre))) D' fun b o hb e => (Heap.SameBut.update h₂ dx _).extBut b o hb e
  exact k _ _ _ _ (x₁.trans (x₂.trans y₅.1.ofNone)).toM .next (st₂.after y₅.1 y₅.2)

theorem Room.make {A : Around} {us : List Value} {K : Addr} (hA : Room (n + 1) A) : Room n (A.under (.builtin "type.__call__" ⟨.ref K :: us, []⟩)) :=
  ⟨by show pushGuards [] A.guards = some []; exact hA.gd, hA.hh, by have := hA.depth; rw [depth_under_make]; lia, by have := hA.units; rw [units_under_make]; lia⟩

theorem call_cls {Ck fI : Addr} {vs : List AV} (Y : ClsK C.K Ck fI) (init : CodeTo C n (.ref fI) (.obj (H.length + 1) :: vs) (H ++ [.ndict [] []] ++ [.inst Ck H.length]) .none H') : CallTo C (n + 1) (.ref Ck) vs H (.obj (H.length + 1)) H' := by
  intro A hA r s us Q E hp hus k
  have X := C.hK.keeps hp.keep
  obtain ⟨h, g, d, t, os⟩ := s
  refine wpAny_call (make_core (makes_of X Y.made) (looks_findIn X Y.init) (fun self => bind_fn X self Y.fn) (.inl rfl) ?_)
  have y₁ := hp.alloc (ao := .ndict [] []) (o := emptyDict) (OR.ndict [] [] [] 0 .nil) rfl
  have y₂ := y₁.2.alloc (ao := .inst Ck H.length) (o := instObj Ck h.objs.size) (OR.inst Ck H.length _ (last_get hp.len)) rfl
  have ei : (r ++ [h.objs.size] ++ [(h.push emptyDict).objs.size])[H.length + 1]? = some (h.objs.size + 1) := by
    rw [show (h.push emptyDict).objs.size = h.objs.size + 1 from Heap.size_push ..]
    exact last_get (by rw [List.length_append, hp.len]; rfl)
  have x₁₂ := y₁.1.trans y₂.1
  refine init _ hA.make _ _ _ _ y₂.2 (.cons (.obj _ _ ei) (hus.mono x₁₂.pre)) fun u r' h' tk' x p hp' => ?_
  obtain rfl : u = .none := p
  exact ⟨rfl, k _ r' h' tk' (x₁₂.trans x) (.obj _ _ (x.pre.get ei)) hp'⟩
end
end Mine
namespace Mine
open PySem PySem.W PySem.Calls PySem.Spec PyProof.Rows

theorem VRs.intsAre {r : List Addr} {ns : List Int} {us : List Value} (h : VRs r (ns.map .int) us) : IntsAre us ns := by
  induction ns generalizing us with
  | nil => obtain rfl : us = [] := h; exact .nil
  | cons n ns ih => obtain ⟨_, t, rfl, ⟨y, rfl⟩, q⟩ := h; exact .cons _ y (ih q)

noncomputable def EOp (op : CmpOp) (x y : List Int) (b : Bool) : Prop := (op = .Eq ∧ b = decide (x = y)) ∨ (op = .NotEq ∧ b = !decide (x = y))
theorem EOp.eq (x y : List Int) : EOp .Eq x y (decide (x = y)) := .inl ⟨rfl, rfl⟩
theorem EOp.ne (x y : List Int) : EOp .NotEq x y (!decide (x = y)) := .inr ⟨rfl, rfl⟩
theorem EOp.run {op : CmpOp} {x y : List Int} {b : Bool} (h : EOp op x y b) {M : Program} {w : World} {A : Around} {Q : Value → Shared → Prop} {E : Value → Shared → Prop} {s : Shared} {p q : Addr} {vs us : List Value}
    (hl : s.heap.IsList p vs.toArray) (hi : IntsAre vs x) (hl' : s.heap.IsList q us.toArray) (hi' : IntsAre us y) (hu : A.units + 64 < cLine) (k : Q (.bool b) s) : wpAny (model M w) A (compareOp op (.ref p) (.ref q)) Q E s := by
  rcases h with ⟨rfl, rfl⟩ | ⟨rfl, rfl⟩
  · exact eq_intsK hl hi hl' hi' hu k
  · exact ne_intsK hl hi hl' hi' hu k

section
variable {C : Cx} {n m : Nat} {a : Act} {F F' F₁ F₂ : List (Option AV)} {H H' H₀ H₁ H₂ : List AO}

theorem Hp.ints {r : List Addr} {h : Heap} (s : Hp C r H h) {i : Nat} {x : Addr} {ns : List Int} (hi : H[i]? = some (il ns)) (hx : r[i]? = some x) : ∃ us : List Value, h.IsList x us.toArray ∧ IntsAre us ns := by
  obtain ⟨us, c, p, b, e⟩ := s.list (xs := ns.map .int) hi hx
  exact ⟨us, ⟨_, e, rfl, c, rfl⟩, p.intsAre⟩

theorem Room.u64 {A : Around} (hn : 3 ≤ n) (hA : Room n A) : A.units + 64 < cLine := by
  have := hA.units
  lia
theorem eqL {op : CmpOp} {l e : Expr} {i j : Nat} {x y : List Int} {b : Bool} (hn : 3 ≤ n) (hl : EvalTo C n a l F H (.obj i) H₁) (hr : EvalTo C n a e F H₁ (.obj j) H₂) (hi : H₂[i]? = some (il x)) (hj : H₂[j]? = some (il y)) (hop : EOp op x y b)
    {A : Around} {r : List Addr} {s : Shared} {Q : Value → Shared → Prop} {E : Value → Shared → Prop} (hA : Room n A) (st : St C a r F H s.heap) (k : ∀ r' h' tk', Ext (some a.env.locals) r s.heap r' h' → St C a r' F H₂ h' → Q (.bool b) (sh s h' tk')) :
    wpAny (model C.prog C.w) A (eval l a.env) (fun u s' => wpAny (model C.prog C.w) A (eval e a.env) (fun u' s' => wpAny (model C.prog C.w) A (compareOp op u u') Q E s') E s') E s :=
  hl.obj hA st fun p r₁ h₁ tk₁ ep x₁ st₁ => hr.obj hA st₁ fun q r₂ h₂ tk₂ eq x₂ st₂ =>
    let ⟨us, hus, ius⟩ := st₂.hp.ints hi (x₂.pre.get ep)
    let ⟨vs, hvs, ivs⟩ := st₂.hp.ints hj eq
    hop.run (s := sh s h₂ tk₂) hus ius hvs ivs (hA.u64 hn) (k r₂ h₂ _ (x₁.trans x₂) st₂)
theorem test_eqL {op : CmpOp} {l e : Expr} {pos : Pos} {i j : Nat} {x y : List Int} {b : Bool} (hn : 3 ≤ n) (hl : EvalTo C n a l F H (.obj i) H₁) (hr : EvalTo C n a e F H₁ (.obj j) H₂) (hi : H₂[i]? = some (il x)) (hj : H₂[j]? = some (il y)) (hop : EOp op x y b)
    (hm : autoParam (behindInMarks op e = false) wuaS) : TestTo C n a (.Compare l [op] [e] pos) F H b H₂ :=
  fun A hA r s Q E st k => wpAny_isTrue_Compare1 (eqL hn hl hr hi hj hop hA st fun r' h' tk' x st' => wpAny_truthy_bool (k _ r' h' tk' x rfl st')) hm
theorem ev_eqL {op : CmpOp} {l e : Expr} {pos : Pos} {i j : Nat} {x y : List Int} {b : Bool} (hn : 3 ≤ n) (hl : EvalTo C n a l F H (.obj i) H₁) (hr : EvalTo C n a e F H₁ (.obj j) H₂) (hi : H₂[i]? = some (il x)) (hj : H₂[j]? = some (il y)) (hop : EOp op x y b)
    (hm : autoParam (behindInMarks op e = false) wuaS) : EvalTo C n a (.Compare l [op] [e] pos) F H (.bool b) H₂ :=
  fun A hA r s Q E st k => wpAny_Compare1 (eqL hn hl hr hi hj hop hA st fun r' h' tk' x st' => k _ r' h' tk' x (.bool b) st') hm
end
end Mine
namespace Mine
open PySem PySem.W PySem.Calls PySem.Spec PyProof.Rows

section
variable {C : Cx} {n m : Nat} {a b : Act} {F F' F₁ F₂ : List (Option AV)} {H H' H₀ H₁ H₂ : List AO}

noncomputable def TestsTo (C : Cx) (n : Nat) (b : Act) (ifs : List Expr) (F : List (Option AV)) (H : List AO) (ok : Bool) (H' : List AO) : Prop :=
  match ifs with
  | [] => ok = true ∧ H' = H
  | [c] => TestTo C n b c F H ok H'
  | _ => False

noncomputable abbrev Tests (ifs : List Expr) (env : Env) : Sem Bool := forIn ifs true fun c r => if r = true then do let ok ← isTrue c env (eval c env); pure (ForInStep.yield ok) else pure (ForInStep.yield r)

/-- how (F', H') may be told where (F, H) stands -/
noncomputable def Told (C : Cx) (b : Act) (m : Nat) (F : List (Option AV)) (H : List AO) (F' : List (Option AV)) (H' : List AO) : Prop := ∀ r r' h h', ExtM m (some b.env.locals) r h r' h' → St C b r' F H h' → ∃ r'', ExtM m (some b.env.locals) r h r'' h' ∧ St C b r'' F' H' h'
noncomputable def CompTurn (C : Cx) (n : Nat) (b : Act) (m : Nat) (ifs : List Expr) (elt : Expr) (d : Nat) (F : List (Option AV)) (H : List AO) (F' : List (Option AV)) (H' : List AO) : Prop :=
  (TestsTo C n b ifs F H false H' ∧ FSub F' F) ∨ ∃ H₀ H₁ v xs, TestsTo C n b ifs F H true H₀ ∧ EvalTo C n b elt F H₀ v H₁ ∧ H₁[d]? = some (.list xs) ∧ xs.length < 4096 ∧ Told C b m F (H₁.set d (.list (xs ++ [v]))) F' H'
theorem CompTurn.take {ifs : List Expr} {elt : Expr} {d : Nat} {v : AV} {xs : List AV} {σ : List Nat} (ht : TestsTo C n b ifs F H true H₀) (he : EvalTo C n b elt F H₀ v H₁) (hd : H₁[d]? = some (.list xs)) (hz : xs.length < 4096)
    (g : Gc m b.ch σ F (H₁.set d (.list (xs ++ [v]))) F' H') (hm : m ≤ H₁.length) : CompTurn C n b m ifs elt d F H F' H' := .inr ⟨H₀, H₁, v, xs, ht, he, hd, hz, fun _ _ _ _ x st => ⟨_, g.ext st.hp x, g.st st⟩⟩
theorem CompTurn.plain {ifs : List Expr} {elt : Expr} {d : Nat} {v : AV} {xs : List AV} (ht : TestsTo C n b ifs F H true H₀) (he : EvalTo C n b elt F H₀ v H₁) (hd : H₁[d]? = some (.list xs)) (hz : xs.length < 4096) (hF : FSub F' F) : CompTurn C n b m ifs elt d F H F' (H₁.set d (.list (xs ++ [v]))) :=
  .inr ⟨H₀, H₁, v, xs, ht, he, hd, hz, fun _ _ _ _ x st => ⟨_, x, st.weak hF⟩⟩
theorem CompTurn.skip {ifs : List Expr} {elt : Expr} {d : Nat} (ht : TestsTo C n b ifs F H false H') (hF : FSub F' F) : CompTurn C n b m ifs elt d F H F' H' := .inl ⟨ht, hF⟩

theorem tests_run {ifs : List Expr} {ok : Bool} (h : TestsTo C n b ifs F H ok H') {A : Around} (hA : Room n A) {r : List Addr} {s : Shared} {Q : Bool → Shared → Prop} {E : Value → Shared → Prop} (st : St C b r F H s.heap) (k : ∀ r' h' tk', Ext (some b.env.locals) r s.heap r' h' → St C b r' F H' h' → Q ok (sh s h' tk')) :
    wpAny (model C.prog C.w) A (Tests ifs b.env) Q E s := by
  unfold TestsTo at h
  split at h
  · obtain ⟨rfl, rfl⟩ := h
    exact wpAny_tests_nil (k r s.heap s.toks (Ext.refl ..) st)
  · exact wpAny_tests_one (h.go hA st k)
  · exact h.elim

theorem list_append_up {prog : Program} {w : World} {A : Around} {E : Value → Shared → Prop} {s : Shared} {l : Addr} {items : Array Value} {x : Value} {Q : Value → Shared → Prop} (hl : s.heap.IsList l items)
    (hQ : Q .none { s with heap := s.heap.update l (Obj.mapSeq (·.push x)) }) (hsz : items.size ≤ sizeLine) :
    wpAny (model prog w) A (call (.builtin "list.append") [.ref l, x]) Q E s := by
  obtain ⟨o, ho, hc, n, hd⟩ := id hl
  refine wpAny_call_entry slot_list_append hl.typeIs entry_list_append ?_ (args_list_append _ _)
  show wpAny _ _ (updateSeq l (·.push x) >>= fun _ => ret .none) _ _ s
  exact wpAny_bind (wpAny_updateSeq ho hd (wpAny_pure ⟨.none, rfl, hQ⟩))

theorem comp_turn {ifs : List Expr} {elt : Expr} {d : Nat} {D : Addr} (h : CompTurn C n b m ifs elt d F H F' H') {A : Around} (hA : Room n A) {r : List Addr} {s : Shared} {Q : Shared → Prop} {E : Value → Shared → Prop} (st : St C b r F H s.heap) (hD : r[d]? = some D)
    (k : ∀ r' h' tk', ExtM m (some b.env.locals) r s.heap r' h' → St C b r' F' H' h' → Q (sh s h' tk')) :
    wpAny (model C.prog C.w) A (Tests ifs b.env) (fun ok s₃ =>
      if ok = true then wpAny (model C.prog C.w) A (eval elt b.env) (fun x s₄ => wpAny (model C.prog C.w) A (call (.builtin "list.append") [.ref D, x]) (fun _ s₅ => Q s₅) E s₄) E s₃ else Q s₃) E s := by
  rcases h with ⟨ht, hF⟩ | ⟨H₀, H₁, v, xs, ht, he, hd, hz, hT⟩
  · refine tests_run ht hA st fun r₁ h₁ tk₁ x₁ st₁ => ?_
    rw [if_neg Bool.false_ne_true]
    exact k _ _ _ x₁.toM (st₁.weak hF)
  · refine tests_run ht hA st fun r₁ h₁ tk₁ x₁ st₁ => ?_
    rw [if_pos rfl]
    refine he A hA r₁ _ _ _ st₁ fun u r₂ h₂ tk₂ x₂ p₂ st₂ => ?_
    have hD₂ := x₂.pre.get (x₁.pre.get hD)
    obtain ⟨us, q, pu, bz, ho⟩ := st₂.hp.list hd hD₂
    have hz' : xs.length + 1 ≤ sizeLine := Nat.le_trans hz (Nat.le_of_ble_eq_true rfl)
    refine list_append_up (s := sh s h₂ tk₂) ⟨_, ho, rfl, q, rfl⟩ ?_ (Nat.le_of_lt (by rw [List.size_toArray, pu.length]; exact hz'))
    have hnew : (h₂.update D (Obj.mapSeq (·.push u))).get? D = some (listOf (us ++ [u]).toArray (q + 1)) := by
      rw [Heap.get?_update_self _ ho rfl]
      simp [Obj.mapSeq]
    have y := st₂.hp.turn hD₂ (OR.list (xs ++ [v]) (us ++ [u]) (q + 1) (pu.append (.cons p₂ .nil)) (by rw [List.length_append]; exact hz')) hnew fun b o hb e => (Heap.SameBut.update h₂ D _).extBut b o hb e
    obtain ⟨r₃, x₃, st₃⟩ := hT _ _ _ _ (x₁.trans (x₂.trans y.1.ofNone)).toM (st₂.after y.1 y.2)
    exact k _ _ _ x₃ st₃

/-- a comprehension's turns -/
noncomputable def CompTo (C : Cx) (n : Nat) (b : Act) (m : Nat) (ifs : List Expr) (elt : Expr) (d : Nat) (Inv : List AO → Prop) : List (List (Option AV) → List (Option AV)) → List (Option AV) → List AO → List (Option AV) → List AO → Prop
  | [], F, H, F', H' => Inv H ∧ F' = F ∧ H' = H
  | g :: gs, F, H, F', H' => Inv H ∧ ∃ F₁ H₁, CompTurn C n b m ifs elt d (g F) H F₁ H₁ ∧ CompTo C n b m ifs elt d Inv gs F₁ H₁ F' H'
theorem CompTo.nil {ifs : List Expr} {elt : Expr} {d : Nat} {Inv : List AO → Prop} (i : Inv H) : CompTo C n b m ifs elt d Inv [] F H F H := ⟨i, rfl, rfl⟩
theorem CompTo.step {ifs : List Expr} {elt : Expr} {d : Nat} {Inv : List AO → Prop} {g : List (Option AV) → List (Option AV)} {gs : List (List (Option AV) → List (Option AV))} (i : Inv H) (t : CompTurn C n b m ifs elt d (g F) H F₁ H₁) (k : CompTo C n b m ifs elt d Inv gs F₁ H₁ F' H') : CompTo C n b m ifs elt d Inv (g :: gs) F H F' H' := ⟨i, F₁, H₁, t, k⟩

theorem compLoop_any {prog : Program} {w : World} {A : Around} {R : Result → Shared → Prop} {s : Shared} {elt target iter : Expr} {ifs : List Expr} {scope : Scope} {pos : Pos} {it acc : Value} {env : Env} (I : Nat → Shared → Prop)
    (turn : ∀ n s, I n s → wpAny (model prog w) A (pyNext it) (fun r s₁ => match r with
      | none => R (.ok .next) s₁
      | some v => wpAny (model prog w) A (letOwnedTupleGo target it v) (fun _ s₁' => wpAny (model prog w) A (assign target env v) (fun _ s₂ =>
          wpAny (model prog w) A (Tests ifs env) (fun ok s₃ =>
            if ok = true then wpAny (model prog w) A (eval elt env) (fun x s₄ =>
              wpAny (model prog w) A (call (.builtin "list.append") [acc, x]) (fun _ s₅ => ∃ m, m < n ∧ I m s₅) (notedBy (model prog w) A env fun e s' => R (.error e) s') s₄) (notedBy (model prog w) A env fun e s' => R (.error e) s') s₃
            else ∃ m, m < n ∧ I m s₃) (notedBy (model prog w) A env fun e s' => R (.error e) s') s₂) (notedBy (model prog w) A env fun e s' => R (.error e) s') s₁') (notedBy (model prog w) A env fun e s' => R (.error e) s') s₁) (notedBy (model prog w) A env fun e s' => R (.error e) s') s)
    (n : Nat) (h : I n s) :
    codeAny (model prog w) A (.compLoop (.ListComp elt [⟨target, iter, ifs, 0⟩] scope pos) 0 it acc env) R s := by
  refine codeAny_loop rfl I (fun n s hI => ?_) n h
  show wpAny _ A ((compTurn (.ListComp elt [⟨target, iter, ifs, 0⟩] scope pos) 0 it acc env).onRaise (fun x => do noteFrame x env; theTreesLotGoes x)) _ _ s
  refine wpAny_noted ?_
  rw [compTurn_list]
  refine wpAny_bind (wpAny_standAt (wpAny_bind (wpAny_mono (turn n s hI) (fun r s₁ h₁ => ?_) fun _ _ h' => h')))
  cases r with
  | none => exact wpAny_pure h₁
  | some v =>
    refine wpAny_bind (wpAny_mono h₁ (fun _ s₁' h₁' => ?_) fun _ _ h' => h')
    refine wpAny_bind (wpAny_mono h₁' (fun _ s₂ h₂ => wpAny_bind (wpAny_mono h₂ (fun ok s₃ h₃ => ?_) fun _ _ h' => h')) fun _ _ h' => h')
    cases ok with
    | false => exact wpAny_pure ⟨rfl, h₃⟩
    | true =>
      exact wpAny_bind (wpAny_bind (wpAny_mono h₃ (fun x s₄ h₄ => wpAny_bind (wpAny_mono h₄ (fun _ s₅ h₅ => wpAny_pure (wpAny_pure ⟨rfl, h₅⟩)) fun _ _ h' => h')) fun _ _ h' => h'))

inductive CompJ (C : Cx) (n : Nat) (b : Act) (m : Nat) (ifs : List Expr) (elt : Expr) (d : Nat) (own : List Addr) (gs : List (List (Option AV) → List (Option AV))) (Inv : List AO → Prop) (W : Nat → Heap → Prop) (F' : List (Option AV)) (H' : List AO) (r : List Addr) (s : Shared) : Nat → Shared → Prop
  | mk (i : Nat) (gs' : List (List (Option AV) → List (Option AV))) (F₁ : List (Option AV)) (H₁ : List AO) (r₁ : List Addr) (h₁ : Heap) (tk₁ : Nat) (hi : i ≤ gs.length) (hd : gs.drop i = gs') (L : CompTo C n b m ifs elt d Inv gs' F₁ H₁ F' H') (l : LoopAt C b m own W r s.heap i r₁ F₁ H₁ h₁) : CompJ C n b m ifs elt d own gs Inv W F' H' r s gs'.length (sh s h₁ tk₁)
theorem comp_code {target iter elt : Expr} {ifs : List Expr} {scope : Scope} {pos : Pos} {it : Value} {own : List Addr} {gs : List (List (Option AV) → List (Option AV))} {Inv : List AO → Prop} {W : Nat → Heap → Prop} {d : Nat} {D : Addr} {r : List Addr} (T : Turns C n b m target it r own gs Inv W)
    (L : CompTo C n b m ifs elt d Inv gs F H F' H') (hdm : d < m) (hD : r[d]? = some D) {A : Around} (hA : Room n A) {R : Result → Shared → Prop} {s : Shared} (st : St C b r F H s.heap) (hw : W 0 s.heap) (ho : ∀ x ∈ own, x ∉ r ∧ x ≠ b.env.locals ∧ C.base.get? x = none)
    (k : ∀ r' h' tk', Mv m r r' → (∀ y o, s.heap.get? y = some o → y ∉ r → y ∉ own → y ≠ b.env.locals → h'.get? y = some o) → (∀ y o, s.heap.get? y = some o → y ∉ own → ∃ o', h'.get? y = some o') → (∀ x ∈ r', x ∈ r ∨ s.heap.get? x = none) → St C b r' F' H' h' → R (.ok .next) (sh s h' tk')) :
    codeAny (model C.prog C.w) A (.compLoop (.ListComp elt [⟨target, iter, ifs, 0⟩] scope pos) 0 it (.ref D) b.env) R s := by
  have ho' := T.live 0 _ hw
  refine compLoop_any (CompJ C n b m ifs elt d own gs Inv W F' H' r s) ?_ gs.length (.mk 0 gs F H r s.heap s.toks (Nat.zero_le _) rfl L (.zero st hw))
  intro M s' J
  cases J with | mk i gs' F₁ H₁ r₁ h₁ tk₁ hi hd L l
  cases gs' with
  | nil =>
    have l : LoopAt C b m own W r s.heap gs.length r₁ F₁ H₁ h₁ := Nat.le_antisymm hi (List.drop_eq_nil_iff.mp hd) ▸ l
    refine T.end hA l ho ho' L.1 fun h₂ tk₂ pre keep live fresh st₂ => ?_
    obtain ⟨_, rfl, rfl⟩ := L
    exact k r₁ h₂ tk₂ pre keep live fresh st₂
  | cons g gs' =>
    have hd' := drop_cons_at hd
    obtain ⟨hI, F₂, H₂, t, L⟩ := L
    refine T.step hA l ho ho' hd'.1 hI (fun _ _ h => h) fun h₂ tk₂ st₂ nx => ?_
    exact comp_turn t hA st₂ (l.pre d D hdm hD) fun r₃ h₃ tk₃ x₃ st₃ => ⟨_, Nat.lt_succ_self _, .mk (i + 1) gs' _ _ r₃ h₃ tk₃ (gl hd'.1) hd'.2 L (nx _ _ _ _ x₃ st₃)⟩
end
end Mine
namespace Mine
open PySem PySem.W PySem.Calls PySem.Spec PyProof.Rows

@[reducible] noncomputable def cAct (a : Act) (scope : Scope) (cl : List (Str × Addr)) (T : List Str) (G : List (Str × Value)) (ch : List (Str × Nat)) (L : Addr) : Act := { env := compEnvC scope cl L a.env, T := T, G := G, ch := ch }

theorem ext_but {r r' : List Addr} {h h' h'' : Heap} {L : Addr} {l : Option Addr} (x : Ext l r h r' h') (LN : h.get? L = none) (s : Heap.SameBut L h' h'') : Ext l r h r' h'' :=
  have ne : ∀ b o, h.get? b = some o → b ≠ L := fun b o e q => noSome LN (q ▸ e)
  ⟨x.pre, fun b o e hb hl => s.extBut b o (ne b o e) (x.keep b o e hb hl), fun b o e => let ⟨o', e'⟩ := x.live b o e; ⟨o', s.extBut b o' (ne b o e) e'⟩, x.fresh⟩

section
variable {C : Cx} {n m : Nat} {a b : Act} {F F' F₁ F₂ : List (Option AV)} {H H' H₀ H₁ H₂ : List AO}

theorem comp_core {scope : Scope} {cl : List (Str × Addr)} {T : List Str} {G : List (Str × Value)} {ch : List (Str × Nat)} {target iter elt : Expr} {ifs : List Expr} {pos : Pos} {it : Value} {own : List Addr} {gs : List (List (Option AV) → List (Option AV))} {Inv : List AO → Prop} {W : Nat → Heap → Prop}
    (hcell : ∀ x ∈ scope.names, x.2 ≠ .cell) (hkind : scope.kind = .function) (ok : ∀ L, (cAct a scope cl T G ch L).Ok C) (hch : ∀ p ∈ ch, p ∈ a.ch ∧ cl.lookup p.1 = a.env.cells.lookup p.1)
    {r : List Addr} {s s₁ : Shared} {use : Option (Value → Sem Unit)} {Q : Value → Shared → Prop} {E : Value → Shared → Prop} {A : Around}
    (TU : ∀ L r₀, isPre r r₀ → Turns C n (cAct a scope cl T G ch L) (H.length + 1) target it r₀ own gs Inv W)
    (self : ∀ (s : Shared) (Q : Value → Shared → Prop) (E : Value → Shared → Prop), W 0 s.heap → Q it s → wpAny (model C.prog C.w) A (pyIter it) Q E s)
    (LC : ∀ L, CompTo C n (cAct a scope cl T G ch L) (H.length + 1) ifs elt H.length Inv gs (List.replicate T.length none) (H ++ [.list []]) F' H')
    (hA : Room n A) (st : St C a r F H s.heap) (hs : ∃ h tk, s₁ = sh s h tk) (hk : ∀ y o, s.heap.get? y = some o → s₁.heap.get? y = some o) (hw : W 0 s₁.heap) (hown : ∀ y ∈ own, s.heap.get? y = none)
    (k : ∀ D L r' h' tk', s.heap.get? L = none → (L ∉ r' ∧ L ≠ a.env.locals ∧ C.base.get? L = none) → Ext none r s.heap r' h' → r'[H.length]? = some D → (∃ mm, h'.Ns L mm) → St C a r' F H' h' → compPost (model C.prog C.w) A E use Q (.ref D) L (.ok .next) (sh s h' tk')) :
    wpAny (model C.prog C.w) A (newList []) (fun acc s₃ => wpAny (model C.prog C.w) A (newFunctionEnv scope a.env.globals cl [] a.env.qual none .none (some a.env)) (fun cenv s₄ =>
      codeAny (model C.prog C.w) A (.compStart (.ListComp elt [⟨target, iter, ifs, 0⟩] scope pos) 0 it acc { cenv with scope := relabel scope a.env }) (compPost (model C.prog C.w) A E use Q acc cenv.locals) s₄) E s₃) E s₁ := by
  obtain ⟨h, tk, rfl⟩ := hs
  have y₁ := Hp.still st.hp hk
  refine wpAny_newObj_type (wpAny_newFunctionEnv hcell (fun _ hy => nomatch hy) (fun h₁ hns₁ hsb₁ => ?_) hkind)
  dsimp only at hns₁ hsb₁ ⊢
  have y₂ := y₁.2.alloc (ao := .list []) (o := { cls := .type "list", dict := none, data := .seq ([] : List Value).toArray }) (OR.list [] [] 0 .nil (Nat.zero_le _)) rfl
  generalize h.push { cls := .type "list", dict := none, data := .seq ([] : List Value).toArray } = H2 at hns₁ hsb₁ y₂ ⊢
  have LN := get?_size_none H2
  generalize H2.objs.size = L at hns₁ hsb₁ LN ⊢
  generalize h.objs.size = D at y₂ ⊢
  have k₁ : ∀ y o, H2.get? y = some o → h₁.get? y = some o := fun y o e => hsb₁.extBut y o (fun q => noSome LN (q ▸ e)) (Heap.get?_push_of_some _ e)
  have y₃ := Hp.still y₂.2 k₁
  have x₃ : Ext none r s.heap (r ++ [D]) h₁ := y₁.1.trans (y₂.1.trans y₃.1)
  have LN' : s.heap.get? L = none := none_back (y₁.1.trans y₂.1).live LN
  have eD : (r ++ [D])[H.length]? = some D := last_get st.hp.len
  have stc : St C (cAct a scope cl T G ch L) (r ++ [D]) (List.replicate T.length none) (H ++ [.list []]) h₁ :=
    ⟨y₃.2, ok L, y₂.2.base LN, y₂.2.not LN, ⟨_, hns₁, fun i x v _ h2 => absurd (List.mem_replicate.mp (List.mem_of_getElem? h2)).2 nofun⟩, fun x i hx =>
      let ⟨hm, hl⟩ := hch (x, i) hx
      let ⟨c, e1, e2⟩ := st.cells x i hm
      ⟨c, hl.trans e1, isPre.get ⟨_, rfl⟩ e2⟩⟩
  have own0 : ∀ y ∈ own, ∃ o, h.get? y = some o := (TU L r (isPre.refl r)).live 0 _ hw
  have ho : ∀ y ∈ own, y ∉ r ++ [D] ∧ y ≠ L ∧ C.base.get? y = none := fun y hy =>
    have z := st.own_new (hown y hy)
    (own0 y hy).elim fun o e => ⟨not_in y₂.1.fresh e z.1, fun q => (y₂.1.live y o e).elim fun _ e' => noSome LN (q ▸ e'), z.2.2⟩
  have kh : ∀ y o, h.get? y = some o → y ∉ r → h₁.get? y = some o := fun y o e hy => (y₂.1.trans y₃.1).keep y o e hy nofun
  have hw₁ : W 0 h₁ := (TU L r (isPre.refl r)).frame _ _ _ hw fun y hy o e => kh y o e (st.own_new (hown y hy)).1
  have loop : codeAny (model C.prog C.w) A (.compLoop (.ListComp elt [⟨target, iter, ifs, 0⟩] scope pos) 0 it (.ref D) (cAct a scope cl T G ch L).env) (compPost (model C.prog C.w) A E use Q (.ref D) L) (sh s h₁ (tk + ([] : List (Str × Value)).length)) := by
    refine comp_code (TU L _ ⟨_, rfl⟩) (LC L) (Nat.lt_succ_self _) eD hA stc hw₁ ho fun r' h' tk' pre keep live fresh stc' => ?_
    have ne : ∀ y o, s.heap.get? y = some o → y ≠ L ∧ y ∉ own := fun y o e => ⟨fun q => noSome LN' (q ▸ e), fun q => noSome (hown y q) e⟩
    have x : Ext none r s.heap r' h' :=
      ⟨isPre_of fun i y e => pre i y (Nat.lt_succ_of_lt (st.hp.len ▸ gl e)) (isPre.get ⟨_, rfl⟩ e), fun y o e hy _ => keep y o (x₃.keep y o e hy nofun) (not_in x₃.fresh e hy) (ne y o e).2 (ne y o e).1,
        fun y o e => (x₃.live y o e).elim fun o' e' => live y o' e' (ne y o e).2, fresh_trans x₃.live x₃.fresh fresh⟩
    exact k D L r' h' tk' LN' ⟨stc'.nL, (st.own_new LN').2.1, y₂.2.base LN⟩ x (pre _ _ (Nat.lt_succ_self _) eD) (stc'.ns.imp fun _ z => z.1) (st.after x stc'.hp)
  exact codeAny_compStart_list loop (self _ _ _ hw₁ loop)

theorem comp_run {scope : Scope} {cl : List (Str × Addr)} {T : List Str} {G : List (Str × Value)} {ch : List (Str × Nat)} {target iter elt : Expr} {ifs : List Expr} {pos : Pos} {it : Value} {own : List Addr} {gs : List (List (Option AV) → List (Option AV))} {Inv : List AO → Prop} {W : Nat → Heap → Prop}
    (hcell : ∀ x ∈ scope.names, x.2 ≠ .cell) (hkind : scope.kind = .function) (ok : ∀ L, (cAct a scope cl T G ch L).Ok C) (hch : ∀ p ∈ ch, p ∈ a.ch ∧ cl.lookup p.1 = a.env.cells.lookup p.1)
    {r : List Addr} {s s₁ : Shared} {Q : Value → Shared → Prop} {E : Value → Shared → Prop} {A : Around}
    (TU : ∀ L r₀, isPre r r₀ → Turns C n (cAct a scope cl T G ch L) (H.length + 1) target it r₀ own gs Inv W)
    (self : ∀ (s : Shared) (Q : Value → Shared → Prop) (E : Value → Shared → Prop), W 0 s.heap → Q it s → wpAny (model C.prog C.w) A (pyIter it) Q E s)
    (LC : ∀ L, CompTo C n (cAct a scope cl T G ch L) (H.length + 1) ifs elt H.length Inv gs (List.replicate T.length none) (H ++ [.list []]) F' H')
    (hA : Room n A) (st : St C a r F H s.heap) (hs : ∃ h tk, s₁ = sh s h tk) (hk : ∀ y o, s.heap.get? y = some o → s₁.heap.get? y = some o) (hw : W 0 s₁.heap) (hown : ∀ y ∈ own, s.heap.get? y = none)
    (k : After C a r s F H' (fun r u => VR r (.obj H.length) u) Q) :
    wpAny (model C.prog C.w) A (newList []) (fun acc s₃ => wpAny (model C.prog C.w) A (newFunctionEnv scope a.env.globals cl [] a.env.qual none .none (some a.env)) (fun cenv s₄ =>
      codeAny (model C.prog C.w) A (.compStart (.ListComp elt [⟨target, iter, ifs, 0⟩] scope pos) 0 it acc { cenv with scope := relabel scope a.env }) (compPost (model C.prog C.w) A E none Q acc cenv.locals) s₄) E s₃) E s₁ :=
  comp_core hcell hkind ok hch TU self LC hA st hs hk hw hown fun D L r' h' tk' LN hL x eD ⟨mm, hn⟩ st' =>
    ⟨mm, hn, fun h'' z => k (.ref D) r' h'' tk' (ext_but x LN z).ofNone (.obj _ _ eD) (st'.still (own := [L]) (fun y hy => (List.mem_singleton.mp hy) ▸ hL) (one_own z))⟩

/-- a comprehension that is stored straight into a local of the outer frame -/
theorem comp_run_use {y : Str} {py : Pos} {i : Nat} (hy : a.T[i]? = some y) {scope : Scope} {cl : List (Str × Addr)} {T : List Str} {G : List (Str × Value)} {ch : List (Str × Nat)} {target iter elt : Expr} {ifs : List Expr} {pos : Pos} {it : Value} {own : List Addr} {gs : List (List (Option AV) → List (Option AV))} {Inv : List AO → Prop} {W : Nat → Heap → Prop}
    (hcell : ∀ x ∈ scope.names, x.2 ≠ .cell) (hkind : scope.kind = .function) (ok : ∀ L, (cAct a scope cl T G ch L).Ok C) (hch : ∀ p ∈ ch, p ∈ a.ch ∧ cl.lookup p.1 = a.env.cells.lookup p.1)
    {r : List Addr} {s s₁ : Shared} {Q : Flow → Shared → Prop} {E : Value → Shared → Prop} {A : Around}
    (TU : ∀ L r₀, isPre r r₀ → Turns C n (cAct a scope cl T G ch L) (H.length + 1) target it r₀ own gs Inv W)
    (self : ∀ (s : Shared) (Q : Value → Shared → Prop) (E : Value → Shared → Prop), W 0 s.heap → Q it s → wpAny (model C.prog C.w) A (pyIter it) Q E s)
    (LC : ∀ L, CompTo C n (cAct a scope cl T G ch L) (H.length + 1) ifs elt H.length Inv gs (List.replicate T.length none) (H ++ [.list []]) F' H')
    (hA : Room n A) (st : St C a r F H s.heap) (hs : ∃ h tk, s₁ = sh s h tk) (hk : ∀ y o, s.heap.get? y = some o → s₁.heap.get? y = some o) (hw : W 0 s₁.heap) (hown : ∀ y ∈ own, s.heap.get? y = none)
    (k : ∀ r' h' tk', Ext (some a.env.locals) r s.heap r' h' → St C a r' (F.set i (some (.obj H.length))) H' h' → Q .next (sh s h' tk')) :
    wpAny (model C.prog C.w) A (newList []) (fun acc s₃ => wpAny (model C.prog C.w) A (newFunctionEnv scope a.env.globals cl [] a.env.qual none .none (some a.env)) (fun cenv s₄ =>
      codeAny (model C.prog C.w) A (.compStart (.ListComp elt [⟨target, iter, ifs, 0⟩] scope pos) 0 it acc { cenv with scope := relabel scope a.env }) (compPost (model C.prog C.w) A E (some (assign (.Name y py) a.env)) (fun _ s' => Q .next s') acc cenv.locals) s₄) E s₃) E s₁ := by
  refine comp_core hcell hkind ok hch TU self LC hA st hs hk hw hown fun D L r' h' tk' LN hL x eD hn st' => ?_
  obtain ⟨mm, o, es, ep, e, q⟩ := hn
  refine wpAny_assign_Name (store_local hy (s := sh s h' tk') st' (.obj _ _ eD) fun h₂ tk₂ xs st₂ => ?_)
  exact ⟨mm, ⟨o, es, ep, xs.keep _ o e hL.1 (fun z => hL.2.1 (Option.some.inj z)), q⟩, fun h'' z => k r' h'' tk₂ (ext_but (x.ofNone.trans xs) LN z) (st₂.still (own := [L]) (fun y hy => (List.mem_singleton.mp hy) ▸ hL) (one_own z))⟩
end
end Mine
namespace Mine
open PySem PySem.W PySem.Calls PySem.Spec PyProof.Rows

noncomputable def compOk (sc : Scope) (T : List Str) (G : List (Str × Value)) (ch : List (Str × Nat)) : Bool :=
  sc.kind == .function && T.all (fun x => sc.names.lookup x == some .local && !(x == ("__debug__" : Str))) && decide T.Nodup && G.all (fun p => sc.names.lookup p.1 == some .globalImplicit && !(p.1 == ("__debug__" : Str))) &&
  ch.all (fun p => !(p.1 == ("__debug__" : Str)) && (sc.names.lookup p.1 == some .cell || (sc.names.lookup p.1 == some .free && !(p.1 == ("__classdict__" : Str)))))
noncomputable def scopeOk (sc : Scope) : Bool := sc.kind == .function && sc.names.all (fun p => p.2 != .cell) && sc.names.all (fun p => p.2 != .local || sc.names.lookup p.1 == some .local)

section
variable {C : Cx} {n m : Nat} {a b : Act} {F F' F₁ F₂ : List (Option AV)} {H H' H₀ H₁ H₂ : List AO}

theorem cAct_ok {scope : Scope} {cl : List (Str × Addr)} {T : List Str} {G : List (Str × Value)} {ch : List (Str × Nat)} (oa : a.Ok C) (ok : compOk (relabel scope a.env) T G ch = true) (hG : ∀ p ∈ G, C.mg p.1 = some p.2 ∨ (C.mg p.1 = none ∧ C.mb p.1 = some p.2)) (L : Addr) : (cAct a scope cl T G ch L).Ok C := by
  unfold compOk at ok
  simp only [Bool.and_eq_true, List.all_eq_true, decide_eq_true_eq, beq_iff_eq, Bool.not_eq_true', Bool.or_eq_true] at ok
  obtain ⟨⟨⟨⟨hk, hT⟩, hnd⟩, hg⟩, hc⟩ := ok
  refine ⟨hk, oa.glob, oa.blt, fun x hx => (hT x hx).1, hnd, fun x hx => (hT x hx).2, fun x v hx => ⟨(hg (x, v) hx).1, (hg (x, v) hx).2, hG (x, v) hx⟩, fun x i hx => ⟨(hc (x, i) hx).1, (hc (x, i) hx).2⟩⟩

theorem scope_ok {sc : Scope} (h : scopeOk sc = true) : sc.kind = .function ∧ (∀ x ∈ sc.names, x.2 ≠ .cell) ∧ (∀ x ∈ sc.names, x.2 = .local → sc.names.lookup x.1 = some .local) := by
  unfold scopeOk at h
  simp only [Bool.and_eq_true, List.all_eq_true, beq_iff_eq, bne_iff_ne, ne_eq, Bool.or_eq_true] at h
  obtain ⟨⟨h1, h2⟩, h3⟩ := h
  exact ⟨h1, fun x hx => h2 x hx, fun x hx e => (h3 x hx).resolve_left fun q => q e⟩

/-- [elt for x in range(e)] -/
theorem ev_comp_range {x g : Str} {px pg pc pos : Pos} {e elt : Expr} {ifs : List Expr} {scope : Scope} {k : Int} (cl : List (Str × Addr)) (T : List Str) (G : List (Str × Value)) (ch : List (Str × Nat)) (i : Nat) (hi : At T x i) (hg : InG a.G g (.type "range")) (he : EvalTo C n a e F H (.int k) H₁) (hk : k < 2 ^ 62) (hk' : -(2 ^ 62) ≤ k)
    (hsc : scopeOk scope = true) (hok : compOk (relabel scope a.env) T G ch = true) (hG : ∀ p ∈ G, C.mg p.1 = some p.2 ∨ (C.mg p.1 = none ∧ C.mb p.1 = some p.2)) (hclos : closureFor scope a.env = pure cl) (hch : ∀ p ∈ ch, p ∈ a.ch ∧ cl.lookup p.1 = a.env.cells.lookup p.1)
    (LC : ∀ L, CompTo C n (cAct a scope cl T G ch L) (H₁.length + 1) ifs elt H₁.length (fun _ => True) (rangeBinds i 0 1 k.toNat) (List.replicate T.length none) (H₁ ++ [.list []]) F' H')
    (hc : autoParam (CallIs a (.Name g pg) e [] pc) rflS)
    (hs : autoParam (StarIs a e []) rflS)
    (hf : autoParam (∀ x, foldedSetIterable (.Call (.Name g pg) [e] [] pc) a.env x = pure x) introS) :
    EvalTo C n a (.ListComp elt [⟨.Name x px, .Call (.Name g pg) [e] [] pc, ifs, 0⟩] scope pos) F H (.obj H₁.length) H' := by
  intro A hA r s Q E st q
  obtain ⟨hk1, hk2, hk3⟩ := scope_ok hsc
  rw [eval_ListComp]
  refine wpAny_comprehension_free rfl hf hclos hk1 hk3 (Call_ ((ev_global hg.mem).val hA st fun r₀ h₀ tk₀ x₀ st₀ => PyProof.Rows.callWith_type1 (PyProof.Rows.args_cons (he.int hA st₀ fun t r₁ h₁ tk₁ x₁ st₁ => PyProof.Rows.args_nil (call_range_1 ?_)) hs) hs rfl) hc)
  refine wpAny_pyIter_range (IsRange.new ..) (small_one (by decide) (by decide) hk' hk) ?_
  rw [size_nat k]
  exact comp_run (s := sh s h₁ tk₁) hk2 hk1 (cAct_ok st.ok hok hG) hch (fun L r₀ _ => turns_range hi.get _ 0 1 k.toNat) (fun s Q E w h => wpAny_pyIter_rangeiter w h) LC hA st₁ ⟨_, _, rfl⟩ (fun b o e => Heap.get?_push_of_some _ (Heap.get?_push_of_some _ e))
    (range_start (Heap.get?_push_size (h₁.push { cls := .type "range", data := .fields #[.int 0 tk₁, .int k t, .int 1 (tk₁ + 1)] }) rfl)) (fun b hb => List.mem_singleton.mp hb ▸ get?_push_none h₁ _) (q.then (x₀.trans x₁))

/-- y = [elt for x in range(e)] on one line -/
theorem ex_assign_comp_range {x y g : Str} {px py pg pc pos spos : Pos} {e elt : Expr} {ifs : List Expr} {scope : Scope} {k : Int} (j : Nat) (hj : At a.T y j) (cl : List (Str × Addr)) (T : List Str) (G : List (Str × Value)) (ch : List (Str × Nat)) (i : Nat) (hi : At T x i) (hg : InG a.G g (.type "range")) (he : EvalTo C n a e F H (.int k) H₁) (hk : k < 2 ^ 62) (hk' : -(2 ^ 62) ≤ k)
    (hsc : scopeOk scope = true) (hok : compOk (relabel scope a.env) T G ch = true) (hG : ∀ p ∈ G, C.mg p.1 = some p.2 ∨ (C.mg p.1 = none ∧ C.mb p.1 = some p.2)) (hclos : closureFor scope a.env = pure cl) (hch : ∀ p ∈ ch, p ∈ a.ch ∧ cl.lookup p.1 = a.env.cells.lookup p.1)
    (LC : ∀ L, CompTo C n (cAct a scope cl T G ch L) (H₁.length + 1) ifs elt H₁.length (fun _ => True) (rangeBinds i 0 1 k.toNat) (List.replicate T.length none) (H₁ ++ [.list []]) F' H')
    (hsw : autoParam (swapsWith (.ListComp elt [⟨.Name x px, .Call (.Name g pg) [e] [] pc, ifs, 0⟩] scope pos) (some (.Name y py)) spos.line a.env = pure true) rflS)
    (hc : autoParam (CallIs a (.Name g pg) e [] pc) rflS)
    (hs : autoParam (StarIs a e []) rflS)
    (hf : autoParam (∀ x, foldedSetIterable (.Call (.Name g pg) [e] [] pc) a.env x = pure x) introS) :
    ExecTo C n a m (.Assign [.Name y py] (.ListComp elt [⟨.Name x px, .Call (.Name g pg) [e] [] pc, ifs, 0⟩] scope pos) spos) F H .next (F.set j (some (.obj H₁.length))) H' := by
  intro A hA r s Q E st q
  obtain ⟨hk1, hk2, hk3⟩ := scope_ok hsc
  rw [exec_Assign_Name_used _ _ _ _ hsw]
  refine wpAny_bind (wpAny_standAt (wpAny_bind ?_))
  show wpAny _ A (do let _ ← comprehension (.ListComp elt [⟨.Name x px, .Call (.Name g pg) [e] [] pc, ifs, 0⟩] scope pos) scope a.env _ (newList []) false (eval (.Call (.Name g pg) [e] [] pc) a.env) (some (assign (.Name y py) a.env))) _ _ s
  refine wpAny_bind (wpAny_mono (wpAny_comprehension_free (use := some (assign (.Name y py) a.env)) (Q := fun _ s' => Q .next s') rfl hf hclos hk1 hk3
    (Call_ ((ev_global hg.mem).val hA st fun r₀ h₀ tk₀ x₀ st₀ => PyProof.Rows.callWith_type1 (PyProof.Rows.args_cons (he.int hA st₀ fun t r₁ h₁ tk₁ x₁ st₁ => PyProof.Rows.args_nil (call_range_1 ?_)) hs) hs rfl) hc)) (fun _ s' hq => wpAny_pure (wpAny_pure hq)) fun _ _ e => e)
  refine wpAny_pyIter_range (IsRange.new ..) (small_one (by decide) (by decide) hk' hk) ?_
  rw [size_nat k]
  exact comp_run_use (s := sh s h₁ tk₁) hj.get hk2 hk1 (cAct_ok st.ok hok hG) hch (fun L r₀ _ => turns_range hi.get _ 0 1 k.toNat) (fun s Q E w h => wpAny_pyIter_rangeiter w h) LC hA st₁ ⟨_, _, rfl⟩ (fun b o e => Heap.get?_push_of_some _ (Heap.get?_push_of_some _ e))
    (range_start (Heap.get?_push_size (h₁.push { cls := .type "range", data := .fields #[.int 0 tk₁, .int k t, .int 1 (tk₁ + 1)] }) rfl)) (fun b hb => List.mem_singleton.mp hb ▸ get?_push_none h₁ _) (fun r' h' tk' x' st' => q _ _ _ _ (x₀.trans (x₁.trans x')).toM .next st')

/-- [elt for x in xs] -/
theorem ev_comp_list {x : Str} {px pos : Pos} {iter elt : Expr} {ifs : List Expr} {scope : Scope} {j : Nat} {xs : List AV} (cl : List (Str × Addr)) (T : List Str) (G : List (Str × Value)) (ch : List (Str × Nat)) (i : Nat) (hi : At T x i) (he : EvalTo C n a iter F H (.obj j) H₁) (hj : H₁[j]? = some (.list xs))
    (hsc : scopeOk scope = true) (hok : compOk (relabel scope a.env) T G ch = true) (hG : ∀ p ∈ G, C.mg p.1 = some p.2 ∨ (C.mg p.1 = none ∧ C.mb p.1 = some p.2)) (hclos : closureFor scope a.env = pure cl) (hch : ∀ p ∈ ch, p ∈ a.ch ∧ cl.lookup p.1 = a.env.cells.lookup p.1)
    (LC : ∀ L, CompTo C n (cAct a scope cl T G ch L) (H₁.length + 1) ifs elt H₁.length (fun H => H[j]? = some (.list xs)) (listBinds i xs) (List.replicate T.length none) (H₁ ++ [.list []]) F' H')
    (hf : autoParam (∀ x, foldedSetIterable iter a.env x = pure x) introS) :
    EvalTo C n a (.ListComp elt [⟨.Name x px, iter, ifs, 0⟩] scope pos) F H (.obj H₁.length) H' := by
  intro A hA r s Q E st q
  obtain ⟨hk1, hk2, hk3⟩ := scope_ok hsc
  rw [eval_ListComp]
  refine wpAny_comprehension_free rfl hf hclos hk1 hk3 (he.obj hA st fun ax r₁ h₁ tk₁ eax x₁ st₁ => ?_)
  obtain ⟨us, _, _, _, hx⟩ := st₁.hp.isList hj eax
  refine wpAny_pyIter_list hx ?_
  exact comp_run (s := sh s h₁ tk₁) hk2 hk1 (cAct_ok st.ok hok hG) hch (fun L r₀ hr => turns_list hi.get _ j ax xs r₀ (Nat.lt_succ_of_lt (hp_lt hj)) (hr.get eax)) (fun s Q E w h => wpAny_pyIter_listiter w h) LC hA st₁ ⟨_, _, rfl⟩ (fun b o e => Heap.get?_push_of_some _ e)
    ⟨_, Heap.get?_push_size _ rfl, rfl, rfl⟩ (fun b hb => List.mem_singleton.mp hb ▸ get?_size_none h₁) (q.then x₁)

/-- [elt for x, y in enumerate(xs)] -/
theorem ev_comp_enum {x y g : Str} {px py pt pg pc pos : Pos} {qt : Nat} {e elt : Expr} {ifs : List Expr} {scope : Scope} {j : Nat} {xs : List AV} (cl : List (Str × Addr)) (T : List Str) (G : List (Str × Value)) (ch : List (Str × Nat)) (i l : Nat) (hi : At T x i) (hl : At T y l) (hg : InG a.G g (.type "enumerate"))
    (he : EvalTo C n a e F H (.obj j) H₁) (hj : H₁[j]? = some (.list xs))
    (hsc : scopeOk scope = true) (hok : compOk (relabel scope a.env) T G ch = true) (hG : ∀ p ∈ G, C.mg p.1 = some p.2 ∨ (C.mg p.1 = none ∧ C.mb p.1 = some p.2)) (hclos : closureFor scope a.env = pure cl) (hch : ∀ p ∈ ch, p ∈ a.ch ∧ cl.lookup p.1 = a.env.cells.lookup p.1)
    (LC : ∀ L, CompTo C n (cAct a scope cl T G ch L) (H₁.length + 1) ifs elt H₁.length (fun H => H[j]? = some (.list xs)) (enumBinds i l xs) (List.replicate T.length none) (H₁ ++ [.list []]) F' H')
    (hc : autoParam (CallIs a (.Name g pg) e [] pc) rflS)
    (hs : autoParam (StarIs a e []) rflS)
    (hf : autoParam (∀ x, foldedSetIterable (.Call (.Name g pg) [e] [] pc) a.env x = pure x) introS) :
    EvalTo C n a (.ListComp elt [⟨.Tuple [.Name x px, .Name y py] qt pt, .Call (.Name g pg) [e] [] pc, ifs, 0⟩] scope pos) F H (.obj H₁.length) H' := by
  intro A hA r s Q E st k
  obtain ⟨hk1, hk2, hk3⟩ := scope_ok hsc
  rw [eval_ListComp]
  refine wpAny_comprehension_free rfl hf hclos hk1 hk3 (Call_ ((ev_global hg.mem).val hA st fun r₀ h₀ tk₀ x₀ st₀ => PyProof.Rows.callWith_type1 (PyProof.Rows.args_cons (he.obj hA st₀ fun ax r₁ h₁ tk₁ eax x₁ st₁ => PyProof.Rows.args_nil ?_) hs) hs rfl) hc)
  obtain ⟨us, _, _, _, hx⟩ := st₁.hp.isList hj eax
  refine call_enumerate_list (s := sh s h₁ tk₁) hx fun h₂ hen hit hz hk => wpAny_pyIter_enum hen ?_
  exact comp_run (s := sh s h₁ tk₁) hk2 hk1 (cAct_ok st.ok hok hG) hch (fun L r₀ hr => turns_enum hi.get hl.get (h₁.objs.size + 1) h₁.objs.size (Nat.succ_ne_self _) j ax xs r₀ (Nat.lt_succ_of_lt (hp_lt hj)) (hr.get eax)) (fun s Q E w h => w.1.elim fun _ w => wpAny_pyIter_enum w h) LC hA st₁ ⟨_, _, rfl⟩ hk ⟨⟨_, hen⟩, hit⟩ (two_new h₁) (k.then (x₀.trans x₁))
end
end Mine
namespace Mine
open PySem PySem.W PySem.Calls PySem.Spec PyProof.Rows

section
variable {C : Cx} {n m : Nat} {a b : Act} {F F' F₁ F₂ : List (Option AV)} {H H' H₀ H₁ H₂ t : List AO}

/-- behind a call nothing of what was made is kept -/
theorem CallTo.drop {f : Value} {args : List AV} {v : AV} (h : CallTo C n f args H v (H ++ t)) (hv : RenV (List.range H.length) v v) : CallTo C n f args H v H := fun A hA r s us Q E hp hus k =>
  have g : Gc H.length [] (List.range H.length) ([] : List (Option AV)) (H ++ t) [] H := gc_drop hp.low (fun _ h => nomatch h) .nil
  h A hA r s us Q E hp hus fun u r' h' tk' x p hp' =>
    k u (newR (List.range H.length) r') h' tk' ⟨isPre_of fun i y e => g.mv hp' i y (hp.len ▸ gl e) (x.pre.get e), x.keep, x.live, fun y hy => x.fresh y (newR_mem (g.lt' hp') hy)⟩ (hv.vr p) (g.hpOk hp')

/-- behind a call that laid its frame at L -/
theorem ext_call {r r₁ r' : List Addr} {h h₁ h' : Heap} {L : Addr} (x₁ : Ext none r h r₁ h₁) (LN : h.get? L = none) (hm : r.length ≤ m) (x : ExtM m (some L) r₁ h₁ r' h') : Ext none r h r' h' :=
  ⟨isPre_of fun i y e => x.pre i y (Nat.lt_of_lt_of_le (gl e) hm) (x₁.pre.get e), fun b o e hb _ => x.keep b o (x₁.keep b o e hb nofun) (not_in x₁.fresh e hb) fun q => noSome LN (Option.some.inj q ▸ e),
    live_trans x₁.live x.live, fresh_trans x₁.live x₁.fresh x.fresh⟩

/-- a def whose second parameter is a cell -/
theorem call_enter_cell {f : Addr} {name qual : Str} {params : Arguments} {body : List Stmt} {scope : Scope} {dV kV doc pm cdv ct oc : Value} {an od : Option Addr} {osl : Array (Option Value)} {T : List Str} {G : List (Str × Value)} {p c : Str} {v₁ v₂ v : AV}
    (hl : C.K.lookup f = some ⟨oc, od, .func (fnX name qual params body scope [] dV kV doc pm an cdv ct), osl⟩) (hcd : codeIn C.K cdv qual = true)
    (hb : ∀ u₁ u₂ : Value, bindArgs (fnX name qual params body scope [] dV kV doc pm an cdv ct) ⟨[u₁, u₂], []⟩ = pure [(p, u₁), (c, u₂)])
    (hcs : ∀ L, cellsFrom L scope.names [] = [(c, L)]) (hT0 : T[0]? = some p) (o : ScOk C scope T G [c] .cell)
    (run : Low (H ++ [.cell (some v₂)]) → ∀ L, RunsTo C n { env := envX qual scope L f cdv [(c, L + 1)], T := T, G := G, ch := [(c, H.length)] } (H.length + 1) body (some v₁ :: List.replicate (T.length - 1) none) (H ++ [.cell (some v₂)]) v H') :
    CallTo C (n + 1) (.ref f) [v₁, v₂] H v H' := by
  intro A hA r s us Q E hpp hus k
  obtain ⟨u₁, _, rfl, p₁, u₂, _, rfl, p₂, rfl⟩ := hus
  have hKs := C.hK.keeps hpp.keep
  have hp := (o.hT p (List.mem_of_getElem? hT0)).1
  have hc := (o.hcs c (.head _)).2.1
  refine wpAny_call (codeAny_call_cells (fd := fnX name qual params body scope [] dV kV doc pm an cdv ct) (body := body) (binds := [(p, u₁), (c, u₂)]) hA.d0 (hKs _ _ hl) rfl (C.hlim.keeps hpp.keep) (codeRec_of hKs hcd) rfl
    (hb u₁ u₂) rfl (List.forall_mem_cons.mpr ⟨.inl hp, List.forall_mem_cons.mpr ⟨.inr ⟨hc, by show (List.lookup c (cellsFrom _ scope.names [])).isSome = true; rw [hcs, List.lookup_cons_self]; rfl⟩, fun _ h => nomatch h⟩⟩) (fun s₁ x₀ => ?_) o.hco o.hgen o.hk)
  have ee : callEnvC (fnX name qual params body scope [] dV kV doc pm an cdv ct) s.heap.objs.size f = envX qual scope s.heap.objs.size f cdv [(c, s.heap.objs.size + 1)] := by
    unfold callEnvC
    rw [show (fnX name qual params body scope [] dV kV doc pm an cdv ct).scope = scope from rfl, hcs]
    rfl
  rw [ee] at x₀ ⊢
  obtain ⟨⟨⟨h₁, tk₁, rfl⟩, hns, hkeep, hfr⟩, hcell, _, _⟩ := x₀
  have LN := get?_size_none s.heap
  have CN : s.heap.get? (s.heap.objs.size + 1) = none := Heap.get?_none_of_le (Nat.le_succ _)
  have lo := modules_low (C.hlim.keeps hpp.keep)
  generalize s.heap.objs.size = L at *
  obtain ⟨oC, hoC, hdC⟩ := hcell c (L + 1) List.lookup_cons_self
  have k1 : (envX qual scope L f cdv [(c, L + 1)]).kindOf p = some .local := hp
  have k2 : ¬ (envX qual scope L f cdv [(c, L + 1)]).kindOf c = some .local := fun q => nomatch hc.symm.trans q
  have eC : bindC (envX qual scope L f cdv [(c, L + 1)]).kindOf [(p, u₁), (c, u₂)] (fun _ => none) c = some u₂ := by
    simp only [bindC, if_pos k1, if_neg k2, if_true]
  have eL : bindL (envX qual scope L f cdv [(c, L + 1)]).kindOf [(p, u₁), (c, u₂)] (fun _ => none) p = some u₁ := by
    simp only [bindL, if_pos k1, if_neg k2, if_true]
  rw [eC] at hdC
  have y₁ := hpp.push (ao := .cell (some v₂)) (o := oC) (y := L + 1) (OR.cellS oC v₂ u₂ hdC (p₂.mono ⟨_, rfl⟩)) (Nat.lt_succ_of_lt lo) CN hoC hkeep
  have st : St C { env := envX qual scope L f cdv [(c, L + 1)], T := T, G := G, ch := [(c, H.length)] } (r ++ [L + 1]) (some v₁ :: List.replicate (T.length - 1) none) (H ++ [.cell (some v₂)]) h₁ :=
    ⟨y₁.2, o.act (ch := [(c, H.length)]) .., hpp.base LN, fun q => (mem_snoc q).elim (hpp.not LN) (Nat.ne_of_lt (Nat.lt_succ_self _)), ⟨_, hns, fun i x v h1 h2 => by
      cases i with
      | zero =>
        obtain rfl := Option.some.inj (Option.some.inj h2)
        obtain rfl := Option.some.inj (hT0.symm.trans h1)
        exact ⟨u₁, eL, p₁.mono y₁.1.pre⟩
      | succ i => exact absurd (List.mem_replicate.mp (List.mem_of_getElem? (i := i) h2)).2 nofun⟩, fun x i hx => by
      obtain ⟨rfl, rfl⟩ := Prod.mk.inj (List.mem_singleton.mp hx)
      exact ⟨L + 1, List.lookup_cons_self, last_get hpp.len⟩⟩
  refine (run y₁.2.low L).go (hA.deeper _) (s := sh s h₁ tk₁) st fun f' u r' h' tk' hf x p hp' => ?_
  have z := k u r' h' tk' (ext_call y₁.1 LN (hpp.len ▸ Nat.le_succ _) x) p hp'
  rcases hf with rfl | ⟨rfl, rfl⟩ <;> exact z
end
end Mine
namespace Mine
open PySem PySem.W PySem.Calls PySem.Spec PyProof.Rows

section
variable {C : Cx} {n m : Nat} {a b : Act} {F F' F₁ F₂ : List (Option AV)} {H H' H₀ H₁ H₂ t : List AO}

theorem sum_call {h : Nat} {ns : List Int} (hx : H[h]? = some (il ns)) : CallTo C n (.builtin "sum") [.obj h] H (.int ns.sum) H := by
  intro A hA r s us Q E hp hus k
  obtain ⟨_, rfl, y, ey, rfl⟩ := hus.one
  obtain ⟨ws, hl, hi⟩ := hp.ints hx ey
  obtain ⟨xs, exs⟩ := hi.allInts.items
  rw [exs] at hl
  refine sum_intListG hA.hh hl fun h' tk t' hk => ?_
  have e : preSum (numAt xs) xs.size = ns.sum := by
    rw [preSum_eq, List.take_of_length_le (by simp), ← nums_intItems, ← exs]
    rw [show ws.toArray.toList = ws from rfl, hi.numsOf]
  rw [e]
  have y := Hp.still hp hk
  exact k _ r h' _ y.1 (.int _ _) y.2

theorem abs_call {i : Int} : CallTo C n (.builtin "abs") [.int i] H (.int (if i < 0 then -i else i)) H := fun A hA r s us Q E hp hus k => by
  obtain ⟨_, rfl, t, rfl⟩ := hus.one
  exact call_abs_int fun u tk => k _ r s.heap _ (Ext.refl ..) (.int _ _) hp
theorem int_call {i : Int} : CallTo C n (.type "int") [.int i] H (.int i) H := fun A hA r s us Q E hp hus k => by
  obtain ⟨_, rfl, t, rfl⟩ := hus.one
  exact call_int_int (k _ r s.heap _ (Ext.refl ..) (.int _ _) hp)
end
end Mine
namespace Mine
open PySem PySem.W PySem.Calls PySem.Spec PyProof.Rows

noncomputable def valAt (es : List (Int × AV)) (k : Int) : Option AV := (es.find? fun p => decide (p.1 = k)).map (·.2)

theorem valAt_cons (k' k : Int) (v : AV) (es : List (Int × AV)) : valAt ((k', v) :: es) k = if k' = k then some v else valAt es k := by
  unfold valAt
  rw [List.find?_cons]
  by_cases q : k' = k
  · rw [if_pos q, show decide (k' = k) = true from decide_eq_true q]; rfl
  · rw [if_neg q, show decide (k' = k) = false from decide_eq_false q]
theorem valueAt_cons (k' k : Int) (v : Value) (es : List (Int × Value)) : valueAt ((k', v) :: es) k = if k' = k then some v else valueAt es k := by
  unfold valueAt
  rw [List.find?_cons]
  by_cases q : k' = k
  · rw [if_pos q, show decide (k' = k) = true from decide_eq_true q]; rfl
  · rw [if_neg q, show decide (k' = k) = false from decide_eq_false q]
section
variable {r : List Addr} {es : List (Int × AV)} {us : List (Int × Value)}
theorem DR.find (h : DR r es us) (k : Int) : (∀ v, valAt es k = some v → ∃ u, valueAt us k = some u ∧ VR r v u) ∧ (valAt es k = none → valueAt us k = none) := by
  induction es generalizing us with
  | nil => obtain rfl : us = [] := h; exact ⟨fun v h => (nomatch h), fun _ => rfl⟩
  | cons p es ih =>
    obtain ⟨u, t, rfl, p1, q⟩ := h
    obtain ⟨k', v⟩ := p
    rw [valAt_cons, valueAt_cons]
    by_cases e : k' = k
    · rw [if_pos e, if_pos e]
      exact ⟨fun v' e' => ⟨u, rfl, Option.some.inj e' ▸ p1⟩, fun e' => nomatch e'⟩
    · rw [if_neg e, if_neg e]
      exact ih q
theorem DR.length (h : DR r es us) : us.length = es.length := by
  induction es generalizing us with
  | nil => obtain rfl : us = [] := h; rfl
  | cons p es ih => obtain ⟨u, t, rfl, _, q⟩ := h; exact congrArg (· + 1) (ih q)
theorem DR.snoc {k : Int} {v : AV} {u : Value} (p : VR r v u) (h : DR r es us) : DR r (es ++ [(k, v)]) (us ++ [(k, u)]) := by
  induction es generalizing us with
  | nil => obtain rfl : us = [] := h; exact DR.cons p .nil
  | cons _ es ih => obtain ⟨_, t, rfl, p', q⟩ := h; exact DR.cons p' (ih q)
theorem DR.get (h : DR r es us) {i : Nat} {k : Int} {u : Value} (e : us[i]? = some (k, u)) : ∃ v, es[i]? = some (k, v) ∧ VR r v u := by
  induction es generalizing us i with
  | nil => obtain rfl : us = [] := h; exact noSome rfl e
  | cons p es ih =>
    obtain ⟨u', t, rfl, p', q⟩ := h
    cases i with
    | zero => obtain ⟨rfl, rfl⟩ := Prod.mk.inj (Option.some.inj e); exact ⟨_, rfl, p'⟩
    | succ i => exact ih q e
end
theorem stored_new {us : List (Int × Value)} {k : Int} {u : Value} (h : valueAt us k = none) : stored us k u = us ++ [(k, u)] := by
  unfold stored
  rw [if_neg]
  intro q
  unfold valueAt at h
  obtain ⟨p, hp, e⟩ := List.any_eq_true.mp q
  cases z : us.find? (fun kv => decide (kv.1 = k)) with
  | none => exact absurd e (by simpa using List.find?_eq_none.mp z p hp)
  | some y => rw [z] at h; cases h

section
variable {C : Cx} {n m : Nat} {a b : Act} {F F' F₁ F₂ : List (Option AV)} {H H' H₀ H₁ H₂ t : List AO}

theorem Hp.idict {r : List Addr} {h : Heap} (s : Hp C r H h) {i : Nat} {x : Addr} {es : List (Int × AV)} (hi : H[i]? = some (.idict es)) (hx : r[i]? = some x) :
    ∃ us, DR r es us ∧ h.DictOf (intKind C.prog C.w) x us ∧ (x == sysModules) = false := by
  obtain ⟨o, e2, us, k, q⟩ := s.at hi hx
  exact ⟨us, k, Heap.dictOf_iff.mpr ⟨o, e2, q⟩, beq_eq_false_iff_ne.mpr (Nat.ne_of_gt (s.lo x (List.mem_of_getElem? hx)))⟩

theorem ev_dict0 {pos : Pos} : EvalTo C n a (.Dict [] [] pos) F H (.obj H.length) (H ++ [.idict []]) := by
  intro A hA r s Q E st k
  refine wpAny_Dict_empty ?_
  obtain ⟨o, ho, hd⟩ := Heap.dictOf_iff.mp (Heap.DictOf.new (knd := intKind C.prog C.w) s.heap)
  obtain rfl := ss (Heap.get?_push_size _ rfl) ho
  have y := st.hp.alloc (ao := .idict []) (OR.idict [] [] _ .nil hd) rfl
  exact k _ _ _ _ y.1.ofNone (.obj _ _ (last_get st.hp.len)) (st.after y.1 y.2)
noncomputable def DOp (op : CmpOp) (x b : Bool) : Prop := (op = .In ∧ b = x) ∨ (op = .NotIn ∧ b = !x)
theorem DOp.in (x : Bool) : DOp .In x x := .inl ⟨rfl, rfl⟩
theorem DOp.notIn (x : Bool) : DOp .NotIn x (!x) := .inr ⟨rfl, rfl⟩

theorem test_dict {op : CmpOp} {l e : Expr} {pos : Pos} {k : Int} {d : Nat} {es : List (Int × AV)} {b : Bool} (hl : EvalTo C n a l F H (.int k) H₁) (hr : EvalTo C n a e F H₁ (.obj d) H₂) (hd : H₂[d]? = some (.idict es)) (hop : DOp op (valAt es k).isSome b)
    (hm : autoParam (behindInMarks op e = false) wuaS) : TestTo C n a (.Compare l [op] [e] pos) F H b H₂ := by
  intro A hA r s Q E st q
  refine wpAny_isTrue_Compare1 (hl.int hA st fun t r₁ h₁ tk₁ x₁ st₁ => hr.obj hA st₁ fun x r₂ h₂ tk₂ ex x₂ st₂ => ?_) hm
  obtain ⟨us, hdr, hD, lo⟩ := st₂.hp.idict hd ex
  have e : (valueAt us k).isSome = (valAt es k).isSome := by
    have f := hdr.find k
    cases z : valAt es k with
    | none => rw [f.2 z]; rfl
    | some v => obtain ⟨u, hu, _⟩ := f.1 v z; rw [hu]; rfl
  rw [← e] at hop
  have fin := fun tk => q b r₂ h₂ tk (x₁.trans x₂) rfl st₂
  rcases hop with ⟨rfl, rfl⟩ | ⟨rfl, rfl⟩
  · exact wpAny_in_of (s := sh s h₂ tk₂) (knd := intKind C.prog C.w) (k := k) (by simp [intKind, Value.isInt]) lo hD.mapOf (wpAny_truthy_bool (fin _))
  · exact wpAny_notIn_of (s := sh s h₂ tk₂) (knd := intKind C.prog C.w) (k := k) (by simp [intKind, Value.isInt]) lo hD.mapOf (wpAny_truthy_bool (fin _))

theorem ev_itemD {e j : Expr} {pos : Pos} {d : Nat} {k : Int} {es : List (Int × AV)} {v : AV} (he : EvalTo C n a e F H (.obj d) H₁) (hj : EvalTo C n a j F H₁ (.int k) H₂) (hd : H₂[d]? = some (.idict es)) (hv : valAt es k = some v)
    (hb : autoParam (∀ o k, subscripted j false o k = operate [o, k] (getItem o k)) intro2S) : EvalTo C n a (.Subscript e j pos) F H v H₂ := by
  intro A hA r s Q E st q
  refine Subscript_ (he.obj hA st fun y r₁ h₁ tk₁ ey x₁ st₁ => hj.int hA st₁ fun t r₂ h₂ tk₂ x₂ st₂ => ?_)
  obtain ⟨us, hdr, hD, lo⟩ := st₂.hp.idict hd (x₂.pre.get ey)
  obtain ⟨u, hu, pu⟩ := (hdr.find k).1 v hv
  have hD' : (sh s h₂ tk₂).heap.DictOf (intKind C.prog C.w) y us := hD
  exact tail_any (s := sh s h₂ tk₂) hD'.typeIs slot_dict_getitem.lookup (wpAny_getItem_of (knd := intKind C.prog C.w) (k := k) (by simp [intKind, Value.isInt]) hD'.mapOf hu (q _ r₂ h₂ _ (x₁.trans x₂) pu st₂)) (hb _ _)

theorem ex_setitemD {o j e : Expr} {p pos : Pos} {d : Nat} {k : Int} {es : List (Int × AV)} {v : AV} (he : EvalTo C n a e F H v H₁) (ho : EvalTo C n a o F H₁ (.obj d) H₂) (hj : EvalTo C n a j F H₂ (.int k) H') (hd : H'[d]? = some (.idict es)) (hnew : valAt es k = none) (hz : es.length ≤ 4096)
    (hs : autoParam (swapsWith e (some (.Subscript o j p)) pos.line a.env = pure false) rflS) :
    ExecTo C n a m (.Assign [.Subscript o j p] e pos) F H .next F (H'.set d (.idict (es ++ [(k, v)]))) := by
  intro A hA r s Q E st q
  refine wpAny_Assign_Subscript (he A hA r s _ _ st fun u r₁ h₁ tk₁ x₁ p₁ st₁ => ho.obj hA st₁ fun y r₂ h₂ tk₂ ey x₂ st₂ => hj.int hA st₂ fun t r₃ h₃ tk₃ x₃ st₃ => ?_) hs
  have ey₃ := x₃.pre.get ey
  obtain ⟨us, hdr, hD, lo⟩ := st₃.hp.idict hd ey₃
  refine wpAny_setItem_pairs (s := sh s h₃ tk₃) (knd := intKind C.prog C.w) (k := k) (by simp [intKind, Value.isInt]) hD (fun h' hD' hs' => ?_) (by rw [hdr.length]; have : sizeLine = 16777216 := rfl; lia)
  rw [stored_new ((hdr.find k).2 hnew)] at hD'
  obtain ⟨o', ho', hd'⟩ := Heap.dictOf_iff.mp hD'
  have y₅ := st₃.hp.turn ey₃ (OR.idict (es ++ [(k, v)]) _ o' (hdr.snoc ((p₁.mono x₂.pre).mono x₃.pre)) hd') ho' fun b o hb e => hs'.extBut b o hb e
  exact q _ _ _ _ (x₁.trans (x₂.trans (x₃.trans y₅.1.ofNone))).toM .next (st₃.after y₅.1 y₅.2)

theorem len_callD {d : Nat} {es : List (Int × AV)} (hd : H[d]? = some (.idict es)) (hz : es.length ≤ 4096) : CallTo C n (.builtin "len") [.obj d] H (.int es.length) H := by
  intro A hA r s us Q E hp hus k
  obtain ⟨_, rfl, y, ey, rfl⟩ := hus.one
  obtain ⟨ws, hdr, hD, lo⟩ := hp.idict hd ey
  refine call_len_dict lo hD (by rw [hdr.length]; lia) ?_
  rw [hdr.length]
  exact k _ r s.heap _ (Ext.refl ..) (.int _ _) hp
end
end Mine
namespace Mine
open PySem PySem.W PySem.Calls PySem.Spec PyProof.Rows

/-- a call of a function that stands in the heap as an object of ours -/
noncomputable def CallO (C : Cx) (n : Nat) (f : AV) (args : List AV) (H : List AO) (v : AV) (H' : List AO) : Prop :=
  ∀ A, Room n A → ∀ r s fu us (Q : Value → Shared → Prop) (E : Value → Shared → Prop), Hp C r H s.heap → VR r f fu → VRs r args us → AfterC C r s v H' Q → wpAny (model C.prog C.w) A (call fu us) Q E s
theorem CallO.le {C : Cx} {n m : Nat} {f : AV} {args : List AV} {H H' : List AO} {v : AV} (h : CallO C n f args H v H') (k : n ≤ m) : CallO C m f args H v H' := fun A hA => h A (hA.le k)

section
variable {C : Cx} {n m : Nat} {a b : Act} {F F' F₁ F₂ : List (Option AV)} {H H' H₀ H₁ H₂ t : List AO}

theorem PR.cells {r : List Addr} {cs : List (Str × Nat)} {as : List (Str × Addr)} (h : PR r cs as) (hn : (cs.map (·.1)).Nodup) (x : Str) (i : Nat) (hx : (x, i) ∈ cs) : ∃ c, as.lookup x = some c ∧ r[i]? = some c := by
  induction cs generalizing as with
  | nil => exact nomatch hx
  | cons p cs ih =>
    obtain ⟨c, t, rfl, e, q⟩ := h
    have hn' := List.nodup_cons.mp hn
    rcases List.mem_cons.mp hx with rfl | hx
    · exact ⟨c, List.lookup_cons_self, e⟩
    · obtain ⟨c', h1, h2⟩ := ih q hn'.2 hx
      refine ⟨c', ?_, h2⟩
      rw [List.lookup_cons, beq_eq_false_iff_ne.mpr fun (z : x = p.1) => hn'.1 (show p.1 ∈ cs.map (·.1) by rw [← z]; exact List.mem_map_of_mem (f := (·.1)) hx)]
      exact h1

theorem Hp.clo {r : List Addr} {h : Heap} (s : Hp C r H h) {i : Nat} {x : Addr} {S : FnS} {ci : Nat} {cs : List (Str × Nat)} (hi : H[i]? = some (.clo S ci cs)) (hx : r[i]? = some x) :
    ∃ c as doc ctv, r[ci]? = some c ∧ PR r cs as ∧ h.get? x = some (fnMade S.name S.qual S.params S.body S.scope as doc S.pm c ctv) := by
  obtain ⟨_, e2, c, as, doc, ctv, h, k, rfl⟩ := s.at hi hx
  exact ⟨c, as, doc, ctv, h, k, e2⟩
theorem Hp.codeRec {r : List Addr} {h : Heap} (s : Hp C r H h) {i : Nat} {x : Addr} {q : Str} (hi : H[i]? = some (.code q)) (hx : r[i]? = some x) : h.CodeRec (.ref x) q := by
  obtain ⟨o, e2, vs, t, hd, hv⟩ := s.at hi hx
  exact ⟨_, o, vs, t, rfl, e2, hd, hv⟩

theorem call_clo {hf ci : Nat} {S : FnS} {cs : List (Str × Nat)} {T : List Str} {G : List (Str × Value)} {vs : List AV} {v : AV} (hfo : H[hf]? = some (.clo S ci cs)) (hci : H[ci]? = some (.code S.qual))
    (hb : ∀ as doc ctv c (us : List Value), us.length = vs.length → bindArgs (fnX S.name S.qual S.params S.body S.scope as .none .none doc S.pm none (.ref c) ctv) ⟨us, []⟩ = pure (T.zip us))
    (o : ScOk C S.scope T G (cs.map (·.1)) .free) (hcn : (cs.map (·.1)).Nodup) (hcell : ∀ x ∈ S.scope.names, x.2 ≠ .cell)
    (run : Low H → ∀ L f c as, RunsTo C n { env := envX S.qual S.scope L f (.ref c) as, T := T, G := G, ch := cs } H.length S.body (vs.map some ++ List.replicate (T.length - vs.length) none) H v H') :
    CallO C (n + 1) (.obj hf) vs H v H' := by
  intro A hA r s fu us Q E hp hfu hus k
  obtain ⟨f, ef, rfl⟩ := hfu
  obtain ⟨c, as, doc, ctv, ec, hpr, hfn⟩ := hp.clo hfo ef
  refine wpAny_call (codeAny_call_def (fd := fnX S.name S.qual S.params S.body S.scope as .none .none doc S.pm none (.ref c) ctv) (body := S.body) (binds := T.zip us) hA.d0 hfn rfl (C.hlim.keeps hp.keep) (hp.codeRec hci ec) rfl
    (BindsTo.of_eq (hb as doc ctv c us hus.length)) hcell (fun x hx => (o.hT x.1 (List.of_mem_zip hx).1).1) (fun h₀ hns hkeep => ?_) o.hco o.hgen o.hk)
  have hL := get?_size_none s.heap
  have st : St C { env := envX S.qual S.scope s.heap.objs.size f (.ref c) as, T := T, G := G, ch := cs } r (vs.map some ++ List.replicate (T.length - vs.length) none) H h₀ := frame_new hp hkeep hL (o.act ..) ⟨_, hns, args_in o.hnd hus⟩ (hpr.cells hcn)
  refine (run hp.low s.heap.objs.size f c as).go (hA.deeper _) (s := sh s h₀ (s.toks + (T.zip us).length)) st fun f' u r' h' tk' hf x p hp' => ?_
  have z := k u r' h' tk' (ext_out hp hkeep hL x) p hp'
  rcases hf with rfl | ⟨rfl, rfl⟩ <;> exact z

theorem ev_call_obj {g : Expr} {e : Expr} {rest : List Expr} {pos : Pos} {hf ci : Nat} {S : FnS} {cs : List (Str × Nat)} {vs : List AV} {v : AV} (hg : EvalTo C n a g F H (.obj hf) H₀) (ha : ArgsTo C n a pos (e :: rest) F H₀ vs H₁) (h0 : H₀[hf]? = some (.clo S ci cs)) (h1 : H₁[hf]? = some (.clo S ci cs)) (hc : CallO C n (.obj hf) vs H₁ v H₂)
    (he : autoParam (eval (.Call g (e :: rest) [] pos) a.env = (do callWith pos (← eval g a.env) [] (backTo pos (starEach (e :: rest) a.env)) (backToKw pos (keywordEach [] a.env)))) rflS)
    (hs : autoParam (StarIs a e rest) rflS) (hplain : autoParam ((backTo pos (starEach rest a.env)).any (·.1) = false) rflS) :
    EvalTo C n a (.Call g (e :: rest) [] pos) F H v H₂ := by
  intro A hA r s Q E st k
  refine Call_ (hg.obj hA st fun f r₁ h₁ tk₁ ef x₁ st₁ => ?_) he
  obtain ⟨c, as, doc, ctv, _, _, hfn⟩ := st₁.hp.clo h0 ef
  refine callWith_F (s := sh s h₁ tk₁) ⟨_, _, _, _, hfn⟩ (ha A hA r₁ _ _ _ st₁ fun us r₂ h₂ tk₂ x₂ p₂ st₂ => ?_) hs hplain
  obtain ⟨c, as, doc, ctv, _, _, hfn₂⟩ := st₂.hp.clo h1 (x₂.pre.get ef)
  exact ⟨⟨_, _, _, _, hfn₂⟩, hc A hA r₂ _ _ us Q E st₂.hp (.obj _ _ (x₂.pre.get ef)) p₂ fun u r' h' tk' x p hp => (k.then (x₁.trans x₂)) u r' h' tk' x.ofNone p (st₂.after x hp)⟩

/-- a def in a def: of the tables the law's own one grows -/
theorem def_step {A : Around} {r : List Addr} {s : Shared} {Q : Flow → Shared → Prop} {E : Value → Shared → Prop} {name : Str} {params : Arguments} {body : List Stmt} {scope : Scope} {pos : Pos} {c P : Addr} {ps : Array Value} {clos : List (Str × Addr)} {cs : List (Str × Nat)} {i : Nat} {w₀ : Option AV}
    (st : St C a r F H s.heap) (hcode : a.env.code = .ref c) (hC : CodeHd C.base c P) (hP : s.heap.get? P = some (tabObj ps)) (hPr : P ∉ r) (hPL : P ≠ a.env.locals) (hPb : C.base.get? P = none) (hgP : mainGlobals ≠ P)
    (hbu : ∀ h : Heap, (∀ b o, C.base.get? b = some o → h.get? b = some o) → h.BuiltinsAt C.mg P) (ht : TriplesOk ps.toList) (hnf : codeAmong pos ps.toList = none)
    (hcl : closureFor scope a.env = pure clos) (hpr : PR r cs clos) (hd0 : params.defaults = []) (hk0 : params.kw_defaults = []) (han : annTrees params none a.env = [])
    (hi : (name, i) ∈ a.ch) (hkc : a.env.kindOf name = some .cell) (h0 : H[i]? = some (.cell w₀))
    (k : ∀ r' h' tk' ps', St C a r' F ((H ++ [AO.code (qualnameIn a.env name name)] ++ [AO.clo ⟨name, qualnameIn a.env name name, params, body, scope, (C.mg "__name__").getD .none⟩ H.length cs]).set i (.cell (some (.obj (H.length + 1))))) h' →
      (∀ (j : Nat) (x : Addr), r[j]? = some x → r'[j]? = some x) → h'.get? P = some (tabObj ps') → P ∉ r' → Q .next (sh s h' tk')) :
    wpAny (model C.prog C.w) A (exec (.FunctionDef name params body [] none [] scope none name pos) a.env) Q E s := by
  refine nestDef_K hd0 hk0 han ?_
  refine makeFunction_K (mg := C.mg) hcl st.ok.glob (C.hg.keeps st.hp.keep) hcode (hC.keeps st.hp.keep) hP ht hnf hgP (hbu _ st.hp.keep) fun c' ctv doc h' tk hx hge hlt hrec htb => ?_
  obtain ⟨c₂, oc, vs, t, e2, hoc, hd, hv⟩ := hrec
  obtain rfl := Value.ref.inj e2
  have st₁ : St C a r F H h' := st.still (own := [P]) (fun y hy => (List.mem_singleton.mp hy) ▸ ⟨hPr, hPL, hPb⟩) fun y o e hy => hx y o (not_one hy) e
  have cN : s.heap.get? c' = none := Heap.get?_none_of_le hge
  have z := st.own_new cN
  have hp₂ : Hp C (r ++ [c']) (H ++ [.code (qualnameIn a.env name name)]) h' := st₁.hp.adopt (OR.code _ oc vs t hd hv) (Nat.lt_of_lt_of_le (modules_low (C.hlim.keeps st.hp.keep)) hge) z.1 z.2.2 hoc
  have y₃ := hp₂.alloc (ao := .clo ⟨name, qualnameIn a.env name name, params, body, scope, (C.mg "__name__").getD .none⟩ H.length cs) (o := fnMade name (qualnameIn a.env name name) params body scope clos doc ((C.mg "__name__").getD .none) c' ctv)
    (OR.clo ⟨name, qualnameIn a.env name name, params, body, scope, (C.mg "__name__").getD .none⟩ H.length cs c' clos doc ctv (last_get st.hp.len) (hpr.mono ⟨_, rfl⟩)) rfl
  have st₂ : St C a (r ++ [c']) F (H ++ [.code (qualnameIn a.env name name)]) h' :=
    ⟨hp₂, st₁.ok, st₁.offL, fun q => (mem_snoc q).elim st.nL fun q => z.2.1 q.symm, st₁.ns.keeps ⟨_, rfl⟩ fun _ e => e, fun x i hx => let ⟨c, e, q⟩ := st₁.cells x i hx; ⟨c, e, isPre.get ⟨_, rfl⟩ q⟩⟩
  have ef : (r ++ [c'] ++ [h'.objs.size])[H.length + 1]? = some h'.objs.size := last_get (by rw [List.length_append, st.hp.len]; rfl)
  refine store_cell hi hkc (hp_old (hp_old h0)) (s := sh s _ tk) (st₂.after y₃.1 y₃.2) (v := .obj (H.length + 1)) (.obj _ _ ef) fun h₄ tk₄ x₄ st₄ => ?_
  have hPn : P ∉ r ++ [c'] ++ [h'.objs.size] := fun q => (mem_snoc q).elim (fun q => (mem_snoc q).elim hPr fun q => noSome cN (q ▸ hP)) fun q => noSome (get?_size_none h') (q ▸ htb)
  exact k _ h₄ tk₄ _ st₄ (fun j x e => isPre.get ⟨_, rfl⟩ (isPre.get ⟨_, rfl⟩ e)) (x₄.keep P _ (Heap.get?_push_of_some _ htb) hPn (fun q => hPL (Option.some.inj q))) hPn
end
end Mine
namespace Mine
open PySem PySem.W PySem.Calls PySem.Spec PyProof.Rows

section
variable {C : Cx} {n m : Nat} {a b : Act} {F F' F₁ F₂ : List (Option AV)} {H H' H₀ H₁ H₂ t : List AO}

theorem isTrue_chain2 {M : Model} {A : Around} {E : Value → Shared → Prop} {s : Shared} {env : Env} {l e₁ e₂ : Expr} {op₁ op₂ : CmpOp} {pos : Pos} {x : Sem Value} {Q : Bool → Shared → Prop}
    (h : wpAny M A (eval l env) (fun u s₁ => wpAny M A (eval e₁ env) (fun v s₂ => wpAny M A (compareOp op₁ u v) (fun c s₃ => wpAny M A (truthy c) (fun b s₄ => if b = true then wpAny M A (eval e₂ env) (fun w s₅ => wpAny M A (compareOp op₂ v w) (fun c' s₆ => wpAny M A (truthy c') Q E s₆) E s₅) E s₄ else Q false s₄) E s₃) E s₂) E s₁) E s)
    (hm : autoParam (behindInMarks op₂ e₂ = false) wuaS) : wpAny M A (isTrue (.Compare l [op₁, op₂] [e₁, e₂] pos) env x) Q E s := by
  have e : isTrue (.Compare l [op₁, op₂] [e₁, e₂] pos) env x = (do testChain pos (← eval l env) [op₁, op₂] [eval e₁ env, markedBehindIn op₂ e₂ (eval e₂ env)]) := rfl
  rw [e, markedBehindIn_of_false hm]
  refine wpAny_bind (wpAny_mono h (fun u s₁ h₁ => ?_) fun _ _ q => q)
  unfold testChain
  refine wpAny_bind (wpAny_holding (wpAny_mono h₁ (fun v s₂ h₂ => wpAny_bind (wpAny_standAt (wpAny_bind (wpAny_holding (wpAny_mono h₂ (fun c s₃ h₃ => ?_) fun _ _ q => q))))) fun _ _ q => q))
  refine wpAny_bind (wpAny_release (wpAny_bind (wpAny_holding (wpAny_mono h₃ (fun b s₄ h₄ => ?_) fun _ _ q => q))))
  cases b with
  | false => exact wpAny_pure h₄
  | true =>
    rw [if_pos rfl] at h₄ ⊢
    unfold testChain
    refine wpAny_bind (wpAny_holding (wpAny_mono h₄ (fun w s₅ h₅ => wpAny_bind (wpAny_standAt ?_)) fun _ _ q => q))
    exact wpAny_bind (wpAny_operate' (wpAny_mono h₅ (fun c' s₆ h₆ => wpAny_holding h₆) fun _ _ q => q))

theorem test_chain {op₁ op₂ : CmpOp} {l e₁ e₂ : Expr} {pos : Pos} {x y z : Int} {b₂ : Bool} (hl : EvalTo C n a l F H (.int x) H₀) (h₁ : EvalTo C n a e₁ F H₀ (.int y) H₁) (h₂ : EvalTo C n a e₂ F H₁ (.int z) H₂) (o₁ : COp op₁ x y true) (o₂ : COp op₂ y z b₂)
    (hm : autoParam (behindInMarks op₂ e₂ = false) wuaS) : TestTo C n a (.Compare l [op₁, op₂] [e₁, e₂] pos) F H b₂ H₂ := by
  intro A hA r s Q E st k
  refine isTrue_chain2 (hl.int hA st fun t r₁ h₁' tk₁ x₁ st₁ => h₁.int hA st₁ fun t' r₂ h₂' tk₂ x₂ st₂ => o₁.run (wpAny_truthy_bool ?_)) hm
  rw [if_pos rfl]
  exact h₂.int hA st₂ fun t'' r₃ h₃ tk₃ x₃ st₃ => o₂.run (wpAny_truthy_bool (k _ r₃ h₃ _ (x₁.trans (x₂.trans x₃)) rfl st₃))
theorem test_chain_f {op₁ op₂ : CmpOp} {l e₁ e₂ : Expr} {pos : Pos} {x y : Int} (hl : EvalTo C n a l F H (.int x) H₀) (h₁ : EvalTo C n a e₁ F H₀ (.int y) H₁) (o₁ : COp op₁ x y false)
    (hm : autoParam (behindInMarks op₂ e₂ = false) wuaS) : TestTo C n a (.Compare l [op₁, op₂] [e₁, e₂] pos) F H false H₁ := by
  intro A hA r s Q E st k
  refine isTrue_chain2 (hl.int hA st fun t r₁ h₁' tk₁ x₁ st₁ => h₁.int hA st₁ fun t' r₂ h₂' tk₂ x₂ st₂ => o₁.run (wpAny_truthy_bool ?_)) hm
  rw [if_neg Bool.false_ne_true]
  exact k _ r₂ h₂' _ (x₁.trans x₂) rfl st₂
end
end Mine
namespace Mine
open PySem PySem.W PySem.Calls PySem.Spec PyProof.Rows PySem.SeqAt

noncomputable def bl (bs : List Bool) : AO := .list (bs.map .bool)
noncomputable def ilD (ns : List Int) : PyData := .list (ns.map PyData.int)
noncomputable def toldD (ms os qs : List Int) (mi : Int) : PyData := .tuple [ilD ms, .int mi, ilD os, ilD qs]

section
variable {C : Cx} {n m : Nat} {a b : Act} {F F' F₁ F₂ : List (Option AV)} {H H' H₀ H₁ H₂ t : List AO}

theorem Hp.readsIl {r : List Addr} {h : Heap} (s : Hp C r H h) {i : Nat} {x : Addr} {ns : List Int} (hi : H[i]? = some (il ns)) (hx : r[i]? = some x) : Reads h (.ref x) (ilD ns) [x] := by
  obtain ⟨us, hl, hI⟩ := s.ints hi hx
  exact reads_of_ints hl hI

theorem repr_call {t k o q : Nat} {ms os qs : List Int} {mi : Int} (ht : H[t]? = some (.tup [.obj k, .int mi, .obj o, .obj q])) (hk : H[k]? = some (il ms)) (ho : H[o]? = some (il os)) (hq : H[q]? = some (il qs))
    (hs : (toldD ms os qs mi).showable = true) (hnd : (toldD ms os qs mi).hasDict = false) (hz : (toldD ms os qs mi).shown.length ≤ sizeLine) (hn : 3 ≤ n) (hdp : (toldD ms os qs mi).depth ≤ 40) :
    CallTo C n (.builtin "repr") [.obj t] H (.str (toldD ms os qs mi).shown) H := by
  intro A hA r s us Q E hp hus kk
  obtain ⟨_, rfl, y, ey, rfl⟩ := hus.one
  obtain ⟨_, ⟨_, _, rfl, ⟨a1, e1, rfl⟩, _, _, rfl, ⟨t2, rfl⟩, _, _, rfl, ⟨a3, e3, rfl⟩, _, _, rfl, ⟨a4, e4, rfl⟩, rfl⟩, he⟩ := hp.tupAt ht ey
  have R : Reads s.heap (.ref y) (toldD ms os qs mi) _ := Reads.tuple he rfl rfl (ReadsAll.cons (hp.readsIl hk e1) (ReadsAll.cons (Reads.int mi t2) (ReadsAll.cons (hp.readsIl ho e3) (ReadsAll.cons (hp.readsIl hq e4) ReadsAll.nil))))
  have hu := hA.units
  refine repr_of_reads' R hs (PyData.noDict_hsm hnd) hA.gd (by lia) (fun _ _ e => e) (fun h' u tk hk' => ?_) hz
  have x := Hp.still hp hk'
  exact kk _ r h' _ x.1 (.str _ _) x.2

theorem ev_eq_str {l e : Expr} {pos : Pos} {x y : Str} (hl : EvalTo C n a l F H (.str x) H₁) (hr : EvalTo C n a e F H₁ (.str y) H₂)
    (hm : autoParam (behindInMarks .Eq e = false) wuaS) : EvalTo C n a (.Compare l [.Eq] [e] pos) F H (.bool (x == y)) H₂ := fun A hA r s Q E st k =>
  wpAny_Compare1 (hl.str hA st fun t r₁ h₁ tk₁ x₁ st₁ => hr.str hA st₁ fun t' r₂ h₂ tk₂ x₂ st₂ => PyProof.Rows.eq_str (k _ r₂ h₂ _ (x₁.trans x₂) (.bool _) st₂)) hm

theorem test_ne_bool {l e : Expr} {pos : Pos} {x y : Bool} (hn : 3 ≤ n) (hl : EvalTo C n a l F H (.bool x) H₁) (hr : EvalTo C n a e F H₁ (.bool y) H₂)
    (hm : autoParam (behindInMarks .NotEq e = false) wuaS) : TestTo C n a (.Compare l [.NotEq] [e] pos) F H (x != y) H₂ := by
  intro A hA r s Q E st k
  refine wpAny_isTrue_Compare1 (hl.bool hA st fun r₁ h₁ tk₁ x₁ st₁ => hr.bool hA st₁ fun r₂ h₂ tk₂ x₂ st₂ => ?_) hm
  have e : (!PySem.Spec.same (.bool x) (.bool y)) = (x != y) := by cases x <;> cases y <;> rfl
  have hu := hA.u64 hn
  refine ne_dataH_same (Reads.bool x) (Reads.bool y) (by cases x <;> rfl) (by cases y <;> rfl) (by lia) (by cases x <;> cases y <;> rfl) ?_
  rw [e]
  exact wpAny_truthy_bool (k _ r₂ h₂ _ (x₁.trans x₂) rfl st₂)

theorem reads_bools {r : List Addr} {h : Heap} {bs : List Bool} {us : List Value} (k : VRs r (bs.map .bool) us) : ReadsAll h us (bs.map PyData.bool) [] := by
  induction bs generalizing us with
  | nil => obtain rfl : us = [] := k; exact .nil
  | cons b bs ih => obtain ⟨_, t, rfl, rfl, q⟩ := k; exact ReadsAll.cons (as := []) (Reads.bool b) (ih q)
theorem lay_bools (bs : List Bool) : PyData.canLayAll0 (bs.map PyData.bool) = true := by
  induction bs with
  | nil => rfl
  | cons b bs ih => rw [List.map_cons, PyData.canLayAll0, ih]; rfl
theorem ev_in_bools {l e : Expr} {pos : Pos} {d : Nat} {bs : List Bool} (hn : 3 ≤ n) (hl : EvalTo C n a l F H (.bool true) H₁) (hr : EvalTo C n a e F H₁ (.obj d) H₂) (hd : H₂[d]? = some (bl bs))
    (hm : autoParam (behindInMarks .In e = false) wuaS) : EvalTo C n a (.Compare l [.In] [e] pos) F H (.bool (bs.any id)) H₂ := by
  intro A hA r s Q E st k
  refine wpAny_Compare1 (hl.bool hA st fun r₁ h₁ tk₁ x₁ st₁ => hr.obj hA st₁ fun x r₂ h₂ tk₂ ex x₂ st₂ => ?_) hm
  obtain ⟨us, q, pu, b, ho⟩ := st₂.hp.list (xs := bs.map .bool) hd ex
  have R : Reads h₂ (.ref x) (.list (bs.map PyData.bool)) [x] := Reads.list ho rfl rfl (reads_bools pu)
  have hu := hA.u64 hn
  refine in_list_reads (s := sh s h₂ tk₂) R (Reads.bool true) (lay_bools bs) rfl (by
    have : min (PyData.depthAll (bs.map PyData.bool)) (PyData.depth (.bool true)) ≤ PyData.depth (.bool true) := Nat.min_le_right _ _
    have e : PyData.depth (.bool true) ≤ 1 := by decide
    lia) ?_
  have e : ((bs.map PyData.bool).any fun y => PyData.eqv y (.bool true)) = bs.any id := by
    rw [List.any_map]
    exact congrArg (bs.any ·) (funext fun b => by cases b <;> rfl)
  rw [e]
  exact k _ r₂ h₂ _ (x₁.trans x₂) (.bool _) st₂

theorem ints_len {vs : List Value} {ns : List Int} (h : IntsAre vs ns) : vs.length = ns.length := by
  induction h with
  | nil => rfl
  | cons _ _ _ ih => exact congrArg (· + 1) ih
theorem ints_take {r : List Addr} {vs : List Value} {ns : List Int} (h : IntsAre vs ns) (k : Nat) : VRs r ((ns.take k).map .int) (vs.take k) := by
  induction h generalizing k with
  | nil => cases k <;> exact .nil
  | cons i t _ ih =>
    cases k with
    | zero => exact .nil
    | succ k => exact .cons (.int _ _) (ih k)
/-- script[:k], script a list of the base heap -/
theorem ev_cut_base {e t : Expr} {p pos : Pos} {ax : Addr} {vs : List Value} {ns : List Int} {x : Nat} (hb : C.base.IsList ax vs.toArray) (hI : IntsAre vs ns) (hn : ns.length < 4096) (he : EvalTo C n a e F H (.val (.ref ax)) H₁) (hu : EvalTo C n a t F H₁ (.int x) H')
    (ht : autoParam (∀ o r, letTemporaryGo e o r = pure ()) intro2S) :
    EvalTo C n a (.Subscript e (.Slice none (some t) none p) pos) F H (.obj H'.length) (H' ++ [il (ns.take x)]) := by
  intro A hA r s Q E st k
  refine wpAny_Subscript_Slice (T := "list") slot_list_getitem.lookup (he.val hA st fun r₁ h₁ tk₁ x₁ st₁ => wpAny_Slice (part_none rfl A hA r₁ _ _ _ st₁ fun v₂ r₂ h₂ tk₂ x₂ p₂ st₂ => part_some hu A hA r₂ _ _ _ st₂ fun v₃ r₃ h₃ tk₃ x₃ p₃ st₃ => wpAny_pure ?_)) ht
  have hL : (h₃.push { cls := .type "slice", data := .fields #[v₂, v₃, .none] }).IsList ax vs.toArray := Heap.IsList.push (hb.imp fun o e => ⟨st₃.hp.keep _ _ e.1, e.2⟩) _
  have hS := Hp.still st₃.hp (h' := h₃.push { cls := .type "slice", data := .fields #[v₂, v₃, .none] }) fun _ _ z => Heap.get?_push_of_some _ z
  refine ⟨hL.typeIs, wpAny_getItem_list_slice (s := sh s (h₃.push { cls := .type "slice", data := .fields #[v₂, v₃, .none] }) tk₃) hL (Heap.IsSliceOf.new ..) p₂ p₃ .none (by decide) ?_ (by rw [List.size_toArray, ints_len hI]; have hz : sizeLine = 16777216 := rfl; lia)⟩
  rw [slicePick_upto']
  have y₅ := hS.2.alloc (ao := il (ns.take x)) (OR.list ((ns.take x).map .int) (vs.take x) 0 (ints_take hI x) (by rw [List.length_map, List.length_take]; have hz : sizeLine = 16777216 := rfl; lia)) rfl
  exact k _ _ _ _ (x₁.trans (x₂.trans (x₃.trans (hS.1.ofNone.trans y₅.1.ofNone)))) (.obj _ _ (last_get st₃.hp.len)) (st₃.after (hS.1.trans y₅.1) y₅.2)

theorem ints_from {r : List Addr} (us : List Value) (j₀ : Nat) (h : ∀ j v, us[j]? = some v → ∃ t, v = Value.int (((j₀ + j : Nat) : Int)) t) : VRs r ((List.range' j₀ us.length).map fun (j : Nat) => AV.int (j : Int)) us := by
  induction us generalizing j₀ with
  | nil => exact .nil
  | cons u us ih =>
    obtain ⟨t, rfl⟩ := h 0 u rfl
    exact .cons (.int _ _) (ih (j₀ + 1) fun j v e => (h (j + 1) v e).imp fun t e' => by rw [Nat.add_assoc, Nat.add_comm 1 j]; exact e')
/-- list(range(e)) -/
theorem ev_list_range {g g' : Str} {pg pg' pc pc' : Pos} {e : Expr} {k : Nat} (hg : InG a.G g (.type "list")) (hg' : InG a.G g' (.type "range")) (he : EvalTo C n a e F H (.int (k : Nat)) H₁) (hk : k < 4096)
    (hc : autoParam (CallIs a (.Name g pg) (.Call (.Name g' pg') [e] [] pc') [] pc) rflS)
    (hs : autoParam (starEach [.Call (.Name g' pg') [e] [] pc'] a.env = (false, eval (.Call (.Name g' pg') [e] [] pc') a.env) :: starEach [] a.env) rflS)
    (hc' : autoParam (CallIs a (.Name g' pg') e [] pc') rflS)
    (hs' : autoParam (StarIs a e []) rflS) :
    EvalTo C n a (.Call (.Name g pg) [.Call (.Name g' pg') [e] [] pc'] [] pc) F H (.obj H₁.length) (H₁ ++ [il ((List.range k).map fun (j : Nat) => (j : Int))]) := by
  intro A hA r s Q E st q
  refine Call_ ((ev_global hg.mem).val hA st fun r₀ h₀ tk₀ x₀ st₀ => PyProof.Rows.callWith_type1 (PyProof.Rows.args_cons (Call_ ((ev_global hg'.mem).val hA st₀ fun r₁ h₁ tk₁ x₁ st₁ =>
    PyProof.Rows.callWith_type1 (PyProof.Rows.args_cons (he.int hA st₁ fun t r₂ h₂ tk₂ x₂ st₂ => PyProof.Rows.args_nil (call_range_1 (PyProof.Rows.args_nil ?_))) hs') hs' rfl) hc') hs) hs rfl) hc
  have b1 : (k : Int) < 2 ^ 62 := by lia
  refine call_list_range hA.hh (IsRange.new ..) (small_one (by decide) (by decide) (by lia) b1) (size_nat k) (by lia) fun h' tk acc' c' hk' hS hit => ?_
  have y₃ := Hp.still st₂.hp (h' := h₂.push { cls := .type "range", data := .fields #[.int 0 tk₂, .int (k : Int) t, .int 1 (tk₂ + 1)] }) fun _ _ z => Heap.get?_push_of_some _ z
  have hlen : acc'.toList.length = k := by have := hit.1; simpa using this
  have hv : ∀ r : List Addr, VRs r (((List.range k).map fun (j : Nat) => (j : Int)).map AV.int) acc'.toList := fun r => by
    have := ints_from (r := r) acc'.toList 0 (fun j v e => by
      obtain ⟨t, e'⟩ := hit.2 j v (by simpa using e)
      have z : ((0 + j : Nat) : Int) = 0 + (j : Int) * 1 := by lia
      exact ⟨t, by rw [z]; exact e'⟩)
    rw [hlen] at this
    rw [List.map_map, List.range_eq_range']
    exact this
  have y₄ := y₃.2.push (ao := il ((List.range k).map fun (j : Nat) => (j : Int))) (o := { cls := .type "list", dict := none, data := .seq acc' c', slots := #[] }) (OR.list _ acc'.toList c' (hv _) (by rw [List.length_map, List.length_map, List.length_range]; have hz : sizeLine = 16777216 := rfl; lia)) (modules_low (C.hlim.keeps y₃.2.keep)) (get?_size_none _) hS hk'
  exact q _ _ _ _ (x₀.trans (x₁.trans (x₂.trans (y₃.1.ofNone.trans y₄.1.ofNone)))) (.obj _ _ (last_get st₂.hp.len)) (st₂.after (y₃.1.trans y₄.1) y₄.2)
end
end Mine
namespace Mine
open PySem PySem.W PySem.Calls PySem.Spec PyProof.Rows PySem.SeqAt

theorem plain_contains_iter : plainId "proto.contains_iter" = true := by decide +kernel
theorem entry_contains_iter : entryFor table "proto.contains_iter" = some Builtin.«proto.contains_iter» := entryFor_of_fast (by kernel_rfl)
theorem values_no_contains : typeLookup (.type "dict_values") (Str.ofString "__contains__") = pure none := by rw [typeLookup_type, builtinLookup_eq_fast]; kernel_rfl

/-- one of val i, .., val (n - 1) is k -/
noncomputable def anyFrom (val : Nat → Int) (k : Int) (n : Nat) : Nat → Bool
  | 0 => false
  | m + 1 => (val (n - (m + 1)) == k) || anyFrom val k n m

section
variable {prog : Program} {w : World} {A : Around} {R : Result → Shared → Prop} {I : Addr} {fp wr : List Addr} {n : Nat} {P : Nat → Value → Prop} {St : Nat → Heap → Prop}
theorem codeAny_contains_iter (W : Walks prog w A.in1 I fp wr n P St) (val : Nat → Int) (hval : ∀ i v, P i v → ∃ t, v = .int (val i) t) (k : Int) (t : Tok) :
    ∀ (m i : Nat) (s : Shared), n - i = m → i ≤ n → St i s.heap →
    (∀ h' tk, (∀ b o, b ∉ wr → s.heap.get? b = some o → h'.get? b = some o) → R (.ok (.ret (.bool (anyFrom val k n m)))) { s with heap := h', toks := tk }) →
    codeAny (model prog w) A (.builtin "proto.contains_iter" ⟨[.ref I, .int k t], []⟩) R s := by
  intro m
  induction m with
  | zero =>
    intro i s hm hi hst hR
    have hin : i = n := by lia
    subst hin
    refine codeAny_builtin entry_contains_iter ?_
    rw [Around.under_plainId plain_contains_iter _]
    show wpAny _ A.in1 (pyNext (.ref I) >>= _) _ _ s
    refine wpAny_bind (W.done s _ _ hst fun h' tk hk => ?_)
    exact wpAny_bind (wpAny_rule (wpAny_pure (hR h' tk hk)))
  | succ m ih =>
    intro i s hm hi hst hR
    have hlt : i < n := by lia
    have hidx : n - (m + 1) = i := by lia
    refine codeAny_builtin entry_contains_iter ?_
    rw [Around.under_plainId plain_contains_iter _]
    show wpAny _ A.in1 (pyNext (.ref I) >>= _) _ _ s
    refine wpAny_bind (W.item i s _ _ hlt hst fun v h' tk hP hst' hk => ?_)
    obtain ⟨t', rfl⟩ := hval i v hP
    refine wpAny_bind (wpAny_eqBool_int ?_)
    unfold anyFrom at hR
    rw [hidx] at hR
    cases hb : (val i == k) with
    | true =>
      rw [hb, Bool.true_or] at hR
      exact wpAny_bind (wpAny_rule (wpAny_pure (hR h' tk hk)))
    | false =>
      rw [hb, Bool.false_or] at hR
      refine wpAny_pure ⟨plainId_quiet plain_contains_iter _, ih (i + 1) _ (by lia) hlt hst' fun h'' tk'' hk'' => ?_⟩
      exact hR h'' tk'' fun b o hbw e => hk'' b o hbw (hk b o hbw e)
end

theorem beq_comm' (a b : Int) : (a == b) = (b == a) := by
  by_cases h : a = b
  · rw [h]
  · rw [beq_eq_false_iff_ne.mpr h, beq_eq_false_iff_ne.mpr (fun e => h e.symm)]
theorem anyFrom_eq (k : Int) (fs : List (Int × Int)) (n m : Nat) (val : Nat → Int) (h1 : m ≤ n) (h2 : fs.length = m) (h3 : ∀ j, j < m → val (n - m + j) = (fs.getD j (0, 0)).2) : anyFrom val k n m = (fs.map (·.2)).contains k := by
  induction fs generalizing m with
  | nil => subst h2; rfl
  | cons f fs ih =>
    obtain rfl : m = fs.length + 1 := h2.symm
    have ih := ih fs.length (Nat.le_of_succ_le h1) rfl fun j hj => by
      have e := h3 (j + 1) (Nat.succ_lt_succ hj)
      rw [show n - (fs.length + 1) + (j + 1) = n - fs.length + j by lia] at e
      exact e
    rw [List.map_cons, List.contains_cons, ← ih, anyFrom, show val (n - (fs.length + 1)) = f.2 from h3 0 (Nat.succ_pos _), beq_comm']

@[reducible] noncomputable def fD (fs : List (Int × Int)) : AO := .idict (fs.map fun p => (p.1, AV.int p.2))

section
variable {C : Cx} {n m : Nat} {a b : Act} {F F' F₁ F₂ : List (Option AV)} {H H' H₀ H₁ H₂ t : List AO}

theorem test_in_values {l o : Expr} {apos pc pos : Pos} {k : Int} {d : Nat} {fs : List (Int × Int)} {pl : Sem Bool} (hl : EvalTo C n a l F H (.int k) H₁) (ho : EvalTo C n a o F H₁ (.obj d) H₂) (hd : H₂[d]? = some (fD fs))
    (he : autoParam (eval (.Call (.Attribute o "values" apos) [] [] pc) a.env = (do
      let ov ← eval o a.env
      standAt apos.atName
      let (f, first) ← holding [ov] (getMethod ov "values" pl)
      callWith pc f first (backTo pc (starEach [] a.env)) [])) rflS)
    (hm : autoParam (behindInMarks .In (.Call (.Attribute o "values" apos) [] [] pc) = false) wuaS) :
    TestTo C n a (.Compare l [.In] [.Call (.Attribute o "values" apos) [] [] pc] pos) F H ((fs.map (·.2)).contains k) H₂ := by
  intro A hA r s Q E st q
  refine wpAny_isTrue_Compare1 (hl.int hA st fun t r₁ h₁ tk₁ x₁ st₁ => MethodCall_ (pl := pl) (ho.obj hA st₁ fun x r₂ h₂ tk₂ ex x₂ st₂ => ?_) he) hm
  obtain ⟨us, hdr, hD, lo⟩ := st₂.hp.idict hd ex
  have hD' : (sh s h₂ tk₂).heap.DictOf (intKind C.prog C.w) x us := hD
  refine getMethod_builtin hD'.typeIs PySem.F.plainAttrs_dict PySem.F.slot_dict_values PySem.F.type_dict_values hD'.mapOf.noDict (callWith_builtin rfl (evalArgs_nil3 ?_))
  refine call_meetsIn PySem.F.slot_dict_values hD'.typeIs PySem.F.entry_dict_values (PySem.F.args_dict_values_1 _) (meets_dict_values (intKind C.prog C.w) x lo) ⟨⟨us, hD'⟩, ?_⟩
  show wpAny _ _ (compareOp .In (.int k t) (.ref h₂.objs.size)) _ _ _
  have hv₀ := Heap.get?_push_size h₂ (o := { cls := .type "dict_values", data := .fields #[.ref x] }) rfl
  have k₃ : ∀ b o, h₂.get? b = some o → (h₂.push { cls := .type "dict_values", data := .fields #[.ref x] }).get? b = some o := fun _ _ e => Heap.get?_push_of_some _ e
  obtain ⟨ep, hat₀⟩ := hD.dictAt
  have hat : (h₂.push { cls := .type "dict_values", data := .fields #[.ref x] }).DictAt (intKind C.prog C.w) x us ep := hat₀.push _
  generalize h₂.objs.size = V at hv₀ ⊢
  generalize h₂.push { cls := .type "dict_values", data := .fields #[.ref x] } = h₃ at hv₀ k₃ hat ⊢
  have hv : h₃.IsValuesView V x := ⟨_, hv₀, rfl, rfl⟩
  have hv' : (sh s h₃ tk₂).TypeIs (.ref V) "dict_values" := hv.typeIs (s := sh s h₃ tk₂)
  show wpAny _ _ (do return Value.bool (← contains (.ref V) (.int k t))) _ _ (sh s h₃ tk₂)
  refine wpAny_bind ?_
  unfold contains
  refine wpAny_holding ?_
  rw [stdlibNamesSay?_of_typeIs hv']
  refine wpAny_bind (wpAny_specialOf hv' values_no_contains ?_)
  show wpAny _ _ (if ((none : Option Value) == some Value.none) = true then _ else _) _ _ _
  rw [if_neg (by decide)]
  refine wpAny_bind (wpAny_callSpecialUnlessNone?_none hv' values_no_contains (wpAny_bind (wpAny_rule (wpAny_bind (wpAny_tryCatch (wpAny_pyIter_values (s := sh s h₃ tk₂) hv hat ?_))))))
  have hit₀ := Heap.get?_push_size h₃ (o := { cls := .type "dict_valueiterator", data := .fields #[.ref x, .int 0 0, .int us.length 0, .int ep 0] }) rfl
  have hat' : (h₃.push { cls := .type "dict_valueiterator", data := .fields #[.ref x, .int 0 0, .int us.length 0, .int ep 0] }).DictAt (intKind C.prog C.w) x us ep := hat.push _
  have k₄ : ∀ b o, h₃.get? b = some o → (h₃.push { cls := .type "dict_valueiterator", data := .fields #[.ref x, .int 0 0, .int us.length 0, .int ep 0] }).get? b = some o := fun _ _ e => Heap.get?_push_of_some _ e
  have IN := get?_size_none h₃
  have xI : x ≠ h₃.objs.size := Nat.ne_of_lt hat.lt_size
  generalize h₃.objs.size = I at hit₀ IN xI ⊢
  generalize h₃.push { cls := .type "dict_valueiterator", data := .fields #[.ref x, .int 0 0, .int us.length 0, .int ep 0] } = h₄ at hit₀ hat' k₄ ⊢
  have hlen : us.length = fs.length := hdr.length.trans (List.length_map _)
  refine wpAny_bind (wpAny_runValue (codeAny_contains_iter (Walks.dictValues (A := A.in1) hA.hh I x xI us ep) (fun i => (fs.getD i (0, 0)).2) (fun i v hP => ?_) k t us.length 0 (sh s h₄ tk₂) (Nat.sub_zero _) (Nat.zero_le _) ⟨⟨_, hit₀, rfl, rfl⟩, hat'⟩ fun h' tk hk => wpAny_pure (wpAny_pure (wpAny_truthy_bool ?_))))
  · obtain ⟨kk, hu⟩ := hP
    obtain ⟨v', e1, e2⟩ := hdr.get hu
    obtain ⟨p, e, z⟩ := map_get e1
    obtain ⟨_, rfl⟩ := Prod.mk.inj z
    obtain ⟨t', rfl⟩ := e2
    exact ⟨t', by rw [List.getD_eq_getElem?_getD, e]; rfl⟩
  · rw [anyFrom_eq k fs us.length us.length _ (Nat.le_refl _) hlen.symm fun j hj => by rw [Nat.sub_self, Nat.zero_add]]
    have y₅ := Hp.still st₂.hp (h' := h') fun b o e => hk b o (fun q => noSome IN (List.mem_singleton.mp q ▸ k₃ b o e)) (k₄ b o (k₃ b o e))
    exact q _ r₂ h' _ (x₁.trans (x₂.trans y₅.1.ofNone)) rfl (st₂.after y₅.1 y₅.2)
end
end Mine
namespace Mine
open PySem PySem.W PySem.Calls PySem.Spec PyProof.Rows

section
variable {C : Cx} {n m : Nat} {a b : Act} {F F' F₁ F₂ : List (Option AV)} {H H' H₀ H₁ H₂ H₃ t : List AO}

theorem Xm.dropC {t : Sem Flow} {B H₁ : List AO} {b : Nat} (u : List AO) (h : Xm C n a b t F H .next F₁ H₁) (hH : H₁ = B ++ u) (hb : B.length = b) (l : Low B) (hch : ∀ p ∈ a.ch, p.2 < b) (hf : RenF (List.range B.length) F' F₁) : Xm C n a b t F H .next F' B := by
  subst hH hb
  exact h.gc _ (gc_drop l hch hf) (by simp)
theorem Xm.pickC {t : Sem Flow} {B H₁ : List AO} {ns : List Int} {b : Nat} (u u' : List AO) (h : Xm C n a b t F H .next F₁ H₁) (hH : H₁ = B ++ u ++ il ns :: u') (hb : B.length = b) (l : Low B) (hch : ∀ p ∈ a.ch, p.2 < b) (hf : RenF (lastσ B.length u.length) F' F₁) : Xm C n a b t F H .next F' (B ++ [il ns]) := by
  subst hH hb
  exact h.gc _ (gc_pick l hch hf) (by simp)

theorem LowO.fD {n : Nat} (fs : List (Int × Int)) : LowO n (fD fs) := fun p hp => by
  obtain ⟨q, _, rfl⟩ := List.mem_map.mp hp
  trivial
theorem Low.setD {H : List AO} (l : Low H) (h : Nat) (fs : List (Int × Int)) : Low (H.set h (fD fs)) := l.set h (.fD fs)
/-- a name is bound: a local or a cell -/
noncomputable def Put (a : Act) (x : Str) (v : AV) (F : List (Option AV)) (H : List AO) (F' : List (Option AV)) (H' : List AO) : Prop :=
  (∃ i, At a.T x i ∧ F' = F.set i (some v) ∧ H' = H) ∨ ∃ i w₀, (x, i) ∈ a.ch ∧ a.env.kindOf x = some .cell ∧ H[i]? = some (.cell w₀) ∧ F' = F ∧ H' = H.set i (.cell (some v))
theorem Put.loc {x : Str} {v : AV} (i : Nat) (hi : At a.T x i) : Put a x v F H (F.set i (some v)) H := .inl ⟨i, hi, rfl, rfl⟩
theorem Put.cell {x : Str} {v : AV} (i : Nat) {w₀ : Option AV} (hi : (x, i) ∈ a.ch) (hc : a.env.kindOf x = some .cell) (h0 : H[i]? = some (.cell w₀)) : Put a x v F H F (H.set i (.cell (some v))) := .inr ⟨i, w₀, hi, hc, h0, rfl, rfl⟩

theorem Put.run {x : Str} {v : AV} (p : Put a x v F H F' H') {A : Around} {r : List Addr} {s : Shared} {u : Value} {Q : Unit → Shared → Prop} {E : Value → Shared → Prop} (st : St C a r F H s.heap) (q : VR r v u)
    (k : ∀ h' tk', Ext (some a.env.locals) r s.heap r h' → St C a r F' H' h' → Q () (sh s h' tk')) : wpAny (model C.prog C.w) A (storeName a.env x u) Q E s := by
  rcases p with ⟨i, hi, rfl, rfl⟩ | ⟨i, w₀, hi, hc, h0, rfl, rfl⟩
  · exact store_local hi.get st q k
  · exact store_cell hi hc h0 st q k

/-- x, y = (.., ..), not both names locals -/
theorem ex_pair' {x y : Str} {px py tp pos vp : Pos} {q q' : Nat} {e₁ e₂ : Expr} {v₁ v₂ : AV} (h₁ : EvalTo C n a e₁ F H v₁ H₁) (h₂ : EvalTo C n a e₂ F H₁ v₂ H₂) (hx : Put a x v₁ F (H₂ ++ [.tup [v₁, v₂]]) F₁ H₃) (hy : Put a y v₂ F₁ H₃ F' H')
    (hst₁ : autoParam (StarIs a e₁ [e₂]) rflS) (hst₂ : autoParam (StarIs a e₂ []) rflS)
    (hsw : autoParam (swapsWithSole [.Tuple [.Name x px, .Name y py] q tp] (.Tuple [e₁, e₂] q' vp) pos.line a.env = pure false) rflS)
    (hw : autoParam (swappedStores [.Tuple [.Name x px, .Name y py] q tp] (.Tuple [e₁, e₂] q' vp) a.env = pure none) rflS) :
    ExecTo C n a m (.Assign [.Tuple [.Name x px, .Name y py] q tp] (.Tuple [e₁, e₂] q' vp) pos) F H .next F' H' := by
  intro A hA r s Q E st k
  have ht : EvalTo C n a (.Tuple [e₁, e₂] q' vp) F H (.obj H₂.length) (H₂ ++ [.tup [v₁, v₂]]) := ev_tuple (args_cons' h₁ (args_cons' h₂ args_nil' hst₂) hst₁) (Nat.le_of_ble_eq_true rfl)
  refine Assign_Tuple (ht.obj hA st fun t r₁ h₁' tk₁ et x₁ st₁ => ?_) hsw hw
  obtain ⟨_, ⟨u₁, _, rfl, p1, u₂, _, rfl, p2, rfl⟩, ho⟩ := st₁.hp.tupAt hp_last et
  refine wpAny_assign_Tuple (s := sh s h₁' tk₁) hA.hh (items := #[u₁, u₂]) ⟨_, ho, rfl, _, rfl⟩ rfl rfl fun h' hx' => ?_
  have y₂ := Hp.still st₁.hp (h' := h') fun b o e => hx' b o (Nat.ne_of_lt (Heap.lt_size e)) e
  show wpAny _ A (do holding [u₂] (assign (.Name x px) a.env u₁); do holding [] (assign (.Name y py) a.env u₂); pure ()) _ _ _
  refine wpAny_bind (wpAny_holding (wpAny_assign_Name (hx.run (s := sh s h' tk₁) (st₁.after y₂.1 y₂.2) p1 fun h₃ tk₃ x₃ st₃ => ?_)))
  exact wpAny_bind (wpAny_holding (wpAny_assign_Name (hy.run (s := sh s h₃ tk₃) st₃ p2 fun h₄ tk₄ x₄ st₄ => wpAny_pure (k _ _ _ _ (x₁.trans (y₂.1.ofNone.trans (x₃.trans x₄))).toM .next st₄))))
end
end Mine
namespace Mine
open PySem PySem.W PySem.Calls PySem.Spec PyProof.Rows

section
variable {C : Cx} {n m : Nat} {a b : Act} {F F' F₁ F₂ : List (Option AV)} {H H' H₀ H₁ H₂ : List AO}

end
end Mine
namespace Mine
open PySem PySem.W PySem.Calls PySem.Spec PyProof.Rows

/-- a def of the program's text, by its place -/
noncomputable def stmtAt (i : Nat) : Option Stmt := PySem.Challenge.pw_sa0336_01.main.body[i]?
noncomputable def fnD (qual : Str → Str) (pm cdv : Value) (s : Option Stmt) : Data := match s with
  | some (.FunctionDef name params body _ _ _ scope _ _ _) => .func (fnX name (qual name) params body scope [] .none .none .none pm none cdv .none)
  | _ => .plain
noncomputable def fnO (f i : Nat) (pm cdv : Value) : Nat × Obj := (f, { cls := .type "function", data := fnD (fun x => x) pm cdv (stmtAt i) })
/-- the one def of a class -/
noncomputable def inCls (s : Option Stmt) (j : Nat) : Option Stmt := match s with
  | some (.ClassDef _ _ _ body _ _ _ _ _ _ _) => body[j]?
  | _ => none
noncomputable def fnI (f : Nat) (pm cdv : Value) : Nat × Obj := (f, { cls := .type "function", data := fnD (fun _ => "Montgomery.__init__") pm cdv (inCls (stmtAt 13) 0) })
noncomputable def KK (P : Params) : Frag := [(3, { cls := Value.type "dict", data := Data.dict #[{ hash := PyData.keyHash P (Str.ofString "__name__"), key := Value.str (Str.ofString "__name__") 165, val := Value.str (Str.ofString "law_sa0336_01") 473 }, { hash := PyData.keyHash P (Str.ofString "__doc__"), key := Value.str (Str.ofString "__doc__") 166, val := Value.none }, { hash := PyData.keyHash P (Str.ofString "__package__"), key := Value.str (Str.ofString "__package__") 167, val := Value.none }, { hash := PyData.keyHash P (Str.ofString "__loader__"), key := Value.str (Str.ofString "__loader__") 168, val := Value.builtin "__main__.__loader__#opaque" }, { hash := PyData.keyHash P (Str.ofString "__spec__"), key := Value.str (Str.ofString "__spec__") 169, val := Value.none }, { hash := PyData.keyHash P (Str.ofString "__annotations__"), key := Value.str (Str.ofString "__annotations__") 170, val := Value.ref 6 }, { hash := PyData.keyHash P (Str.ofString "__builtins__"), key := Value.str (Str.ofString "__builtins__") 171, val := Value.ref 4 }, { hash := PyData.keyHash P (Str.ofString "__file__"), key := Value.str (Str.ofString "__file__") 173, val := Value.str (Str.ofString "/claim/cut.py") 172 }, { hash := PyData.keyHash P (Str.ofString "__cached__"), key := Value.str (Str.ofString "__cached__") 174, val := Value.none }, { hash := PyData.keyHash P (Str.ofString "GmpError"), key := Value.str (Str.ofString "GmpError") 208, val := Value.ref 24 }, { hash := PyData.keyHash P (Str.ofString "NoInverse"), key := Value.str (Str.ofString "NoInverse") 224, val := Value.ref 37 }, { hash := PyData.keyHash P (Str.ofString "OutOfRange"), key := Value.str (Str.ofString "OutOfRange") 240, val := Value.ref 49 }, { hash := PyData.keyHash P (Str.ofString "normal"), key := Value.str (Str.ofString "normal") 248, val := Value.ref 58 }, { hash := PyData.keyHash P (Str.ofString "is_even"), key := Value.str (Str.ofString "is_even") 255, val := Value.ref 65 }, { hash := PyData.keyHash P (Str.ofString "compare"), key := Value.str (Str.ofString "compare") 264, val := Value.ref 72 }, { hash := PyData.keyHash P (Str.ofString "sub"), key := Value.str (Str.ofString "sub") 278, val := Value.ref 79 }, { hash := PyData.keyHash P (Str.ofString "lifted"), key := Value.str (Str.ofString "lifted") 286, val := Value.ref 86 }, { hash := PyData.keyHash P (Str.ofString "shift_left"), key := Value.str (Str.ofString "shift_left") 301, val := Value.ref 93 }, { hash := PyData.keyHash P (Str.ofString "inverse_limb"), key := Value.str (Str.ofString "inverse_limb") 314, val := Value.ref 100 }, { hash := PyData.keyHash P (Str.ofString "Montgomery"), key := Value.str (Str.ofString "Montgomery") 351, val := Value.ref 117 }, { hash := PyData.keyHash P (Str.ofString "doubled_rest"), key := Value.str (Str.ofString "doubled_rest") 361, val := Value.ref 128 }, { hash := PyData.keyHash P (Str.ofString "mont_make"), key := Value.str (Str.ofString "mont_make") 372, val := Value.ref 135 }, { hash := PyData.keyHash P (Str.ofString "add_row"), key := Value.str (Str.ofString "add_row") 386, val := Value.ref 142 }, { hash := PyData.keyHash P (Str.ofString "taken_once"), key := Value.str (Str.ofString "taken_once") 395, val := Value.ref 149 }, { hash := PyData.keyHash P (Str.ofString "redc"), key := Value.str (Str.ofString "redc") 409, val := Value.ref 156 }, { hash := PyData.keyHash P (Str.ofString "to_mont"), key := Value.str (Str.ofString "to_mont") 419, val := Value.ref 163 }, { hash := PyData.keyHash P (Str.ofString "from_mont"), key := Value.str (Str.ofString "from_mont") 428, val := Value.ref 170 }, { hash := PyData.keyHash P (Str.ofString "mont_mul"), key := Value.str (Str.ofString "mont_mul") 439, val := Value.ref 177 }, { hash := PyData.keyHash P (Str.ofString "mont_rows"), key := Value.str (Str.ofString "mont_rows") 454, val := Value.ref 184 }, { hash := PyData.keyHash P (Str.ofString "mul_school"), key := Value.str (Str.ofString "mul_school") 472, val := Value.ref 191 }, { hash := PyData.keyHash P (Str.ofString "_law_rolled"), key := Value.str (Str.ofString "_law_rolled") 482, val := Value.ref 198 }, { hash := PyData.keyHash P (Str.ofString "_law_limbs"), key := Value.str (Str.ofString "_law_limbs") 491, val := Value.ref 205 }, { hash := PyData.keyHash P (Str.ofString "_law_number"), key := Value.str (Str.ofString "_law_number") 497, val := Value.ref 210 }, { hash := PyData.keyHash P (Str.ofString "_law_divisor"), key := Value.str (Str.ofString "_law_divisor") 505, val := Value.ref 217 }, { hash := PyData.keyHash P (Str.ofString "law"), key := Value.str (Str.ofString "law") 511, val := Value.ref 222 }] 35 }),
  (57, { cls := Value.type "code", data := Data.fields #[Value.str (Str.ofString "normal") 241, Value.str (Str.ofString "normal") 242, Value.str (Str.ofString "/claim/cut.py") 243, Value.int 8 0, Value.int 1 0, Value.int 0 0, Value.int 0 0, Value.int 3 0, Value.ref 52, Value.bool true, Value.int 181 0, Value.ref 53, Value.none, Value.ref 54, Value.ref 55, Value.ref 56, Value.int 246 0, Value.int 8 0, Value.str (Str.ofString "/claim/cut.py") 247] }),
  fnO 58 4 (Value.str (Str.ofString "gmp.limbs") 187) (Value.ref 57),
  (64, { cls := Value.type "code", data := Data.fields #[Value.str (Str.ofString "is_even") 249, Value.str (Str.ofString "is_even") 250, Value.str (Str.ofString "/claim/cut.py") 251, Value.int 13 0, Value.int 1 0, Value.int 0 0, Value.int 0 0, Value.int 3 0, Value.ref 59, Value.bool true, Value.int 181 0, Value.ref 60, Value.none, Value.ref 61, Value.ref 62, Value.ref 63, Value.int 253 0, Value.int 13 0, Value.str (Str.ofString "/claim/cut.py") 254] }),
  fnO 65 5 (Value.str (Str.ofString "gmp.limbs") 187) (Value.ref 64),
  (71, { cls := Value.type "code", data := Data.fields #[Value.str (Str.ofString "compare") 256, Value.str (Str.ofString "compare") 257, Value.str (Str.ofString "/claim/cut.py") 258, Value.int 15 0, Value.int 2 0, Value.int 0 0, Value.int 0 0, Value.int 3 0, Value.ref 66, Value.bool true, Value.int 181 0, Value.ref 67, Value.none, Value.ref 68, Value.ref 69, Value.ref 70, Value.int 262 0, Value.int 15 0, Value.str (Str.ofString "/claim/cut.py") 263] }),
  fnO 72 6 (Value.str (Str.ofString "gmp.limbs") 187) (Value.ref 71),
  (78, { cls := Value.type "code", data := Data.fields #[Value.str (Str.ofString "sub") 265, Value.str (Str.ofString "sub") 266, Value.str (Str.ofString "/claim/cut.py") 267, Value.int 22 0, Value.int 3 0, Value.int 0 0, Value.int 0 0, Value.int 3 0, Value.ref 73, Value.bool true, Value.int 181 0, Value.ref 74, Value.none, Value.ref 75, Value.ref 76, Value.ref 77, Value.int 276 0, Value.int 22 0, Value.str (Str.ofString "/claim/cut.py") 277] }),
  fnO 79 7 (Value.str (Str.ofString "gmp.limbs") 187) (Value.ref 78),
  (85, { cls := Value.type "code", data := Data.fields #[Value.str (Str.ofString "lifted") 279, Value.str (Str.ofString "lifted") 280, Value.str (Str.ofString "/claim/cut.py") 281, Value.int 31 0, Value.int 2 0, Value.int 0 0, Value.int 0 0, Value.int 3 0, Value.ref 80, Value.bool true, Value.int 181 0, Value.ref 81, Value.none, Value.ref 82, Value.ref 83, Value.ref 84, Value.int 284 0, Value.int 31 0, Value.str (Str.ofString "/claim/cut.py") 285] }),
  fnO 86 8 (Value.str (Str.ofString "gmp.limbs") 187) (Value.ref 85),
  (92, { cls := Value.type "code", data := Data.fields #[Value.str (Str.ofString "shift_left") 287, Value.str (Str.ofString "shift_left") 288, Value.str (Str.ofString "/claim/cut.py") 289, Value.int 33 0, Value.int 3 0, Value.int 0 0, Value.int 0 0, Value.int 3 0, Value.ref 87, Value.bool true, Value.int 181 0, Value.ref 88, Value.none, Value.ref 89, Value.ref 90, Value.ref 91, Value.int 299 0, Value.int 33 0, Value.str (Str.ofString "/claim/cut.py") 300] }),
  fnO 93 9 (Value.str (Str.ofString "gmp.limbs") 187) (Value.ref 92),
  (99, { cls := Value.type "code", data := Data.fields #[Value.str (Str.ofString "inverse_limb") 304, Value.str (Str.ofString "inverse_limb") 305, Value.str (Str.ofString "/claim/cut.py") 306, Value.int 46 0, Value.int 2 0, Value.int 0 0, Value.int 0 0, Value.int 3 0, Value.ref 94, Value.bool true, Value.int 181 0, Value.ref 95, Value.none, Value.ref 96, Value.ref 97, Value.ref 98, Value.int 312 0, Value.int 46 0, Value.str (Str.ofString "/claim/cut.py") 313] }),
  fnO 100 11 (Value.str (Str.ofString "gmp.hensel") 302) (Value.ref 99),
  (113, { cls := Value.type "code", data := Data.fields #[Value.str (Str.ofString "__init__") 329, Value.str (Str.ofString "Montgomery.__init__") 330, Value.str (Str.ofString "/claim/cut.py") 331, Value.int 58 0, Value.int 5 0, Value.int 0 0, Value.int 0 0, Value.int 3 0, Value.ref 108, Value.bool true, Value.int 181 0, Value.ref 109, Value.none, Value.ref 110, Value.ref 111, Value.ref 112, Value.int 337 0, Value.int 58 0, Value.str (Str.ofString "/claim/cut.py") 338] }),
  fnI 114 (Value.str (Str.ofString "gmp.reduce") 315) (Value.ref 113),
  (116, { cls := Value.type "dict", data := Data.dict #[{ hash := PyData.keyHash P (Str.ofString "__module__"), key := Value.str (Str.ofString "__module__") 324, val := Value.str (Str.ofString "gmp.reduce") 315 }, { hash := PyData.keyHash P (Str.ofString "__firstlineno__"), key := Value.str (Str.ofString "__firstlineno__") 328, val := Value.int 56 327 }, { hash := PyData.keyHash P (Str.ofString "__init__"), key := Value.str (Str.ofString "__init__") 339, val := Value.ref 114 }, { hash := PyData.keyHash P (Str.ofString "__static_attributes__"), key := Value.str (Str.ofString "__static_attributes__") 344, val := Value.ref 115 }, { hash := PyData.keyHash P (Str.ofString "__dict__"), key := Value.str (Str.ofString "__dict__") 346, val := Value.ref 118 }, { hash := PyData.keyHash P (Str.ofString "__weakref__"), key := Value.str (Str.ofString "__weakref__") 348, val := Value.ref 119 }, { hash := PyData.keyHash P (Str.ofString "__doc__"), key := Value.str (Str.ofString "__doc__") 349, val := Value.none }] 4 }),
  (117, { cls := Value.type "type", data := Data.cls { name := Str.ofString "Montgomery", bases := [Value.type "object"], mro := [Value.ref 117, Value.type "object"], ns := 116, qualname := Str.ofString "Montgomery" }, slots := #[none, none, some (Value.str (Str.ofString "Montgomery") 317), some (Value.str (Str.ofString "Montgomery") 325), some (Value.builtin "object.__new__"), some (Value.bool true)] }),
  (127, { cls := Value.type "code", data := Data.fields #[Value.str (Str.ofString "doubled_rest") 352, Value.str (Str.ofString "doubled_rest") 353, Value.str (Str.ofString "/claim/cut.py") 354, Value.int 63 0, Value.int 3 0, Value.int 0 0, Value.int 0 0, Value.int 3 0, Value.ref 122, Value.bool true, Value.int 181 0, Value.ref 123, Value.none, Value.ref 124, Value.ref 125, Value.ref 126, Value.int 359 0, Value.int 63 0, Value.str (Str.ofString "/claim/cut.py") 360] }),
  fnO 128 14 (Value.str (Str.ofString "gmp.reduce") 315) (Value.ref 127),
  (134, { cls := Value.type "code", data := Data.fields #[Value.str (Str.ofString "mont_make") 362, Value.str (Str.ofString "mont_make") 363, Value.str (Str.ofString "/claim/cut.py") 364, Value.int 66 0, Value.int 2 0, Value.int 0 0, Value.int 0 0, Value.int 3 0, Value.ref 129, Value.bool true, Value.int 181 0, Value.ref 130, Value.none, Value.ref 131, Value.ref 132, Value.ref 133, Value.int 370 0, Value.int 66 0, Value.str (Str.ofString "/claim/cut.py") 371] }),
  fnO 135 15 (Value.str (Str.ofString "gmp.reduce") 315) (Value.ref 134),
  (141, { cls := Value.type "code", data := Data.fields #[Value.str (Str.ofString "add_row") 373, Value.str (Str.ofString "add_row") 374, Value.str (Str.ofString "/claim/cut.py") 375, Value.int 76 0, Value.int 5 0, Value.int 0 0, Value.int 0 0, Value.int 3 0, Value.ref 136, Value.bool true, Value.int 181 0, Value.ref 137, Value.none, Value.ref 138, Value.ref 139, Value.ref 140, Value.int 384 0, Value.int 76 0, Value.str (Str.ofString "/claim/cut.py") 385] }),
  fnO 142 16 (Value.str (Str.ofString "gmp.reduce") 315) (Value.ref 141),
  (148, { cls := Value.type "code", data := Data.fields #[Value.str (Str.ofString "taken_once") 387, Value.str (Str.ofString "taken_once") 388, Value.str (Str.ofString "/claim/cut.py") 389, Value.int 88 0, Value.int 3 0, Value.int 0 0, Value.int 0 0, Value.int 3 0, Value.ref 143, Value.bool true, Value.int 181 0, Value.ref 144, Value.none, Value.ref 145, Value.ref 146, Value.ref 147, Value.int 393 0, Value.int 88 0, Value.str (Str.ofString "/claim/cut.py") 394] }),
  fnO 149 17 (Value.str (Str.ofString "gmp.reduce") 315) (Value.ref 148),
  (155, { cls := Value.type "code", data := Data.fields #[Value.str (Str.ofString "redc") 396, Value.str (Str.ofString "redc") 397, Value.str (Str.ofString "/claim/cut.py") 398, Value.int 90 0, Value.int 3 0, Value.int 0 0, Value.int 0 0, Value.int 3 0, Value.ref 150, Value.bool true, Value.int 181 0, Value.ref 151, Value.none, Value.ref 152, Value.ref 153, Value.ref 154, Value.int 407 0, Value.int 90 0, Value.str (Str.ofString "/claim/cut.py") 408] }),
  fnO 156 18 (Value.str (Str.ofString "gmp.reduce") 315) (Value.ref 155),
  (162, { cls := Value.type "code", data := Data.fields #[Value.str (Str.ofString "to_mont") 410, Value.str (Str.ofString "to_mont") 411, Value.str (Str.ofString "/claim/cut.py") 412, Value.int 99 0, Value.int 4 0, Value.int 0 0, Value.int 0 0, Value.int 3 0, Value.ref 157, Value.bool true, Value.int 181 0, Value.ref 158, Value.none, Value.ref 159, Value.ref 160, Value.ref 161, Value.int 417 0, Value.int 99 0, Value.str (Str.ofString "/claim/cut.py") 418] }),
  fnO 163 19 (Value.str (Str.ofString "gmp.reduce") 315) (Value.ref 162),
  (169, { cls := Value.type "code", data := Data.fields #[Value.str (Str.ofString "from_mont") 420, Value.str (Str.ofString "from_mont") 421, Value.str (Str.ofString "/claim/cut.py") 422, Value.int 103 0, Value.int 3 0, Value.int 0 0, Value.int 0 0, Value.int 3 0, Value.ref 164, Value.bool true, Value.int 181 0, Value.ref 165, Value.none, Value.ref 166, Value.ref 167, Value.ref 168, Value.int 426 0, Value.int 103 0, Value.str (Str.ofString "/claim/cut.py") 427] }),
  fnO 170 20 (Value.str (Str.ofString "gmp.reduce") 315) (Value.ref 169),
  (176, { cls := Value.type "code", data := Data.fields #[Value.str (Str.ofString "mont_mul") 429, Value.str (Str.ofString "mont_mul") 430, Value.str (Str.ofString "/claim/cut.py") 431, Value.int 105 0, Value.int 5 0, Value.int 0 0, Value.int 0 0, Value.int 3 0, Value.ref 171, Value.bool true, Value.int 181 0, Value.ref 172, Value.none, Value.ref 173, Value.ref 174, Value.ref 175, Value.int 437 0, Value.int 105 0, Value.str (Str.ofString "/claim/cut.py") 438] }),
  fnO 177 21 (Value.str (Str.ofString "gmp.reduce") 315) (Value.ref 176),
  (183, { cls := Value.type "code", data := Data.fields #[Value.str (Str.ofString "mont_rows") 440, Value.str (Str.ofString "mont_rows") 441, Value.str (Str.ofString "/claim/cut.py") 442, Value.int 107 0, Value.int 4 0, Value.int 0 0, Value.int 0 0, Value.int 3 0, Value.ref 178, Value.bool true, Value.int 181 0, Value.ref 179, Value.none, Value.ref 180, Value.ref 181, Value.ref 182, Value.int 452 0, Value.int 107 0, Value.str (Str.ofString "/claim/cut.py") 453] }),
  fnO 184 22 (Value.str (Str.ofString "gmp.reduce") 315) (Value.ref 183),
  (190, { cls := Value.type "code", data := Data.fields #[Value.str (Str.ofString "mul_school") 457, Value.str (Str.ofString "mul_school") 458, Value.str (Str.ofString "/claim/cut.py") 459, Value.int 117 0, Value.int 3 0, Value.int 0 0, Value.int 0 0, Value.int 3 0, Value.ref 185, Value.bool true, Value.int 181 0, Value.ref 186, Value.none, Value.ref 187, Value.ref 188, Value.ref 189, Value.int 470 0, Value.int 117 0, Value.str (Str.ofString "/claim/cut.py") 471] }),
  fnO 191 24 (Value.str (Str.ofString "gmp.school") 455) (Value.ref 190),
  (197, { cls := Value.type "code", data := Data.fields #[Value.str (Str.ofString "_law_rolled") 475, Value.str (Str.ofString "_law_rolled") 476, Value.str (Str.ofString "/claim/cut.py") 477, Value.int 128 0, Value.int 2 0, Value.int 0 0, Value.int 0 0, Value.int 3 0, Value.ref 192, Value.bool true, Value.int 181 0, Value.ref 193, Value.none, Value.ref 194, Value.ref 195, Value.ref 196, Value.int 480 0, Value.int 128 0, Value.str (Str.ofString "/claim/cut.py") 481] }),
  fnO 198 26 (Value.str (Str.ofString "law_sa0336_01") 473) (Value.ref 197),
  (204, { cls := Value.type "code", data := Data.fields #[Value.str (Str.ofString "_law_limbs") 483, Value.str (Str.ofString "_law_limbs") 484, Value.str (Str.ofString "/claim/cut.py") 485, Value.int 133 0, Value.int 2 0, Value.int 0 0, Value.int 0 0, Value.int 3 0, Value.ref 199, Value.bool true, Value.int 181 0, Value.ref 200, Value.none, Value.ref 201, Value.ref 202, Value.ref 203, Value.int 489 0, Value.int 133 0, Value.str (Str.ofString "/claim/cut.py") 490] }),
  fnO 205 27 (Value.str (Str.ofString "law_sa0336_01") 473) (Value.ref 204),
  (209, { cls := Value.type "code", data := Data.fields #[Value.str (Str.ofString "_law_number") 492, Value.str (Str.ofString "_law_number") 493, Value.str (Str.ofString "/claim/cut.py") 494, Value.int 139 0, Value.int 2 0, Value.int 0 0, Value.int 0 0, Value.int 3 0, Value.ref 206, Value.bool true, Value.int 181 0, Value.ref 207, Value.none, Value.none, Value.none, Value.ref 208, Value.int 495 0, Value.int 139 0, Value.str (Str.ofString "/claim/cut.py") 496] }),
  fnO 210 28 (Value.str (Str.ofString "law_sa0336_01") 473) (Value.ref 209),
  (216, { cls := Value.type "code", data := Data.fields #[Value.str (Str.ofString "_law_divisor") 498, Value.str (Str.ofString "_law_divisor") 499, Value.str (Str.ofString "/claim/cut.py") 500, Value.int 141 0, Value.int 2 0, Value.int 0 0, Value.int 0 0, Value.int 3 0, Value.ref 211, Value.bool true, Value.int 181 0, Value.ref 212, Value.none, Value.ref 213, Value.ref 214, Value.ref 215, Value.int 503 0, Value.int 141 0, Value.str (Str.ofString "/claim/cut.py") 504] }),
  fnO 217 29 (Value.str (Str.ofString "law_sa0336_01") 473) (Value.ref 216),
  (221, { cls := Value.type "code", data := Data.fields #[Value.str (Str.ofString "law") 506, Value.str (Str.ofString "law") 507, Value.str (Str.ofString "/claim/cut.py") 508, Value.int 145 0, Value.int 1 0, Value.int 0 0, Value.int 0 0, Value.int 3 0, Value.ref 218, Value.bool true, Value.int 181 0, Value.ref 219, Value.none, Value.none, Value.none, Value.ref 220, Value.int 509 0, Value.int 145 0, Value.str (Str.ofString "/claim/cut.py") 510] }),
  fnO 222 30 (Value.str (Str.ofString "law_sa0336_01") 473) (Value.ref 221)]
end Mine
namespace Mine
open PySem PySem.W PySem.Calls PySem.Spec PyProof.Rows

noncomputable def GT : List (Str × Value) := [("len", .builtin "len"), ("range", .type "range"), ("enumerate", .type "enumerate"), ("abs", .builtin "abs"), ("int", .type "int"), ("sum", .builtin "sum"), ("list", .type "list"), ("repr", .builtin "repr"),
  ("normal", .ref 58), ("is_even", .ref 65), ("compare", .ref 72), ("sub", .ref 79), ("lifted", .ref 86), ("shift_left", .ref 93), ("inverse_limb", .ref 100), ("Montgomery", .ref 117), ("doubled_rest", .ref 128), ("mont_make", .ref 135),
  ("add_row", .ref 142), ("taken_once", .ref 149), ("redc", .ref 156), ("to_mont", .ref 163), ("from_mont", .ref 170), ("mont_mul", .ref 177), ("mont_rows", .ref 184), ("mul_school", .ref 191),
  ("_law_rolled", .ref 198), ("_law_limbs", .ref 205), ("_law_number", .ref 210), ("_law_divisor", .ref 217)]

structure PK (C : Cx) : Prop where
  k : C.K = KK C.w.params
  gl : ∀ p ∈ GT, C.mg p.1 = some p.2 ∨ (C.mg p.1 = none ∧ C.mb p.1 = some p.2)

theorem keep_of {C : Cx} (hC : PK C) {f : Value} (h : keepIn (KK C.w.params) f = true) : keepIn C.K f = true := by rw [hC.k]; exact h

noncomputable def scTest (scope : Scope) (T : List Str) (G : List (Str × Value)) (cs : List Str) (kind : NameKind) : Bool :=
  T.all (fun x => scope.names.lookup x == some .local && !(x == ("__debug__" : Str))) && decide T.Nodup &&
  G.all (fun p => scope.names.lookup p.1 == some .globalImplicit && !(p.1 == ("__debug__" : Str)) && GT.contains p) &&
  cs.all (fun x => !(x == ("__debug__" : Str)) && scope.names.lookup x == some kind && !(x == ("__classdict__" : Str))) && !scope.isCoroutine && !scope.isGenerator && scope.kind == .function
theorem PK.sc {C : Cx} (hC : PK C) {scope : Scope} {T : List Str} {G : List (Str × Value)} {cs : List Str} {kind : NameKind} (ok : scTest scope T G cs kind = true) (hk : kind = .cell ∨ kind = .free) : ScOk C scope T G cs kind := by
  unfold scTest at ok
  simp only [Bool.and_eq_true, List.all_eq_true, decide_eq_true_eq, beq_iff_eq, Bool.not_eq_true'] at ok
  obtain ⟨⟨⟨⟨⟨⟨hT, hnd⟩, hG⟩, hcs⟩, hco⟩, hgen⟩, hk'⟩ := ok
  exact ⟨hT, hnd, fun p hp => let ⟨h, h3⟩ := hG p hp; ⟨h.1, h.2, hC.gl p (List.contains_iff_mem.mp h3)⟩, fun x hx => let ⟨h, h3⟩ := hcs x hx; ⟨h.1, h.2, hk.imp id fun e => ⟨e, h3⟩⟩, hco, hgen, hk'⟩

noncomputable def fnOk (scope : Scope) (T : List Str) (G : List (Str × Value)) : Bool := scTest scope T G [] .cell && scope.names.all (fun p => p.2 != .cell)
theorem no_cell {scope : Scope} (h : scope.names.all (fun p => p.2 != .cell) = true) : ∀ x ∈ scope.names, x.2 ≠ .cell := fun x hx => by simpa using List.all_eq_true.mp h x hx

/-- the binding of as many values as there are names -/
theorem bind1 {f : FuncData} {T : List Str} {v : AV} (h : ∀ u, bindArgs f ⟨[u], []⟩ = pure (T.zip [u])) (us : List Value) (e : us.length = [v].length) : bindArgs f ⟨us, []⟩ = pure (T.zip us) := by
  obtain ⟨u, rfl⟩ := List.length_eq_one_iff.mp e
  exact h u
theorem len_cons {us : List Value} {k : Nat} (e : us.length = k + 1) : ∃ u t, us = u :: t ∧ t.length = k := by
  cases us with
  | nil => exact nomatch e
  | cons u t => exact ⟨u, t, rfl, Nat.succ.inj e⟩
theorem bind2 {f : FuncData} {T : List Str} {v v' : AV} (h : ∀ u u', bindArgs f ⟨[u, u'], []⟩ = pure (T.zip [u, u'])) (us : List Value) (e : us.length = [v, v'].length) : bindArgs f ⟨us, []⟩ = pure (T.zip us) := by
  obtain ⟨u, t, rfl, e1⟩ := len_cons e
  obtain ⟨u', rfl⟩ := List.length_eq_one_iff.mp e1
  exact h u u'
theorem bind3 {f : FuncData} {T : List Str} {v v' v'' : AV} (h : ∀ u u' u'', bindArgs f ⟨[u, u', u''], []⟩ = pure (T.zip [u, u', u''])) (us : List Value) (e : us.length = [v, v', v''].length) : bindArgs f ⟨us, []⟩ = pure (T.zip us) := by
  obtain ⟨u, t, rfl, e1⟩ := len_cons e
  obtain ⟨u', t', rfl, e2⟩ := len_cons e1
  obtain ⟨u'', rfl⟩ := List.length_eq_one_iff.mp e2
  exact h u u' u''
theorem bind4 {f : FuncData} {T : List Str} {v v' v'' v₃ : AV} (h : ∀ u u' u'' u₃, bindArgs f ⟨[u, u', u'', u₃], []⟩ = pure (T.zip [u, u', u'', u₃])) (us : List Value) (e : us.length = [v, v', v'', v₃].length) : bindArgs f ⟨us, []⟩ = pure (T.zip us) := by
  obtain ⟨u, t, rfl, e1⟩ := len_cons e
  obtain ⟨u', t', rfl, e2⟩ := len_cons e1
  obtain ⟨u'', t'', rfl, e3⟩ := len_cons e2
  obtain ⟨u₃, rfl⟩ := List.length_eq_one_iff.mp e3
  exact h u u' u'' u₃
theorem bind5 {f : FuncData} {T : List Str} {v v' v'' v₃ v₄ : AV} (h : ∀ u u' u'' u₃ u₄, bindArgs f ⟨[u, u', u'', u₃, u₄], []⟩ = pure (T.zip [u, u', u'', u₃, u₄])) (us : List Value) (e : us.length = [v, v', v'', v₃, v₄].length) : bindArgs f ⟨us, []⟩ = pure (T.zip us) := by
  obtain ⟨u, t, rfl, e1⟩ := len_cons e
  obtain ⟨u', t', rfl, e2⟩ := len_cons e1
  obtain ⟨u'', t'', rfl, e3⟩ := len_cons e2
  obtain ⟨u₃, t₃, rfl, e4⟩ := len_cons e3
  obtain ⟨u₄, rfl⟩ := List.length_eq_one_iff.mp e4
  exact h u u' u'' u₃ u₄

theorem code_def {C : Cx} (hC : PK C) {n : Nat} {H H' : List AO} {f : Addr} {name qual : Str} {params : Arguments} {body : List Stmt} {scope : Scope} {dV kV doc pm cdv ct oc : Value} {an od : Option Addr} {osl : Array (Option Value)} (T : List Str) (G : List (Str × Value)) {vs : List AV} {v : AV}
    (run : Low H → ∀ L, RunsTo C n { env := envX qual scope L f cdv [], T := T, G := G, ch := [] } H.length body (vs.map some ++ List.replicate (T.length - vs.length) none) H v H')
    (hl : autoParam ((KK C.w.params).lookup f = some ⟨oc, od, .func (fnX name qual params body scope [] dV kV doc pm an cdv ct), osl⟩) exactS) (hcd : autoParam (codeIn (KK C.w.params) cdv qual = true) exactS)
    (ok : fnOk scope T G = true := by decide +kernel)
    (hb : ∀ us : List Value, us.length = vs.length → bindArgs (fnX name qual params body scope [] dV kV doc pm an cdv ct) ⟨us, []⟩ = pure (T.zip us) := by first | exact bind1 fun _ => rfl | exact bind2 fun _ _ => rfl | exact bind3 fun _ _ _ => rfl | exact bind4 fun _ _ _ _ => rfl | exact bind5 fun _ _ _ _ _ => rfl) :
    CodeTo C (n + 1) (.ref f) vs H v H' :=
  have k := Bool.and_eq_true_iff.mp ok
  code_enter (by rw [hC.k]; exact hl) (by rw [hC.k]; exact hcd) hb (hC.sc k.1 (.inl rfl)) (no_cell k.2) run

theorem call_def {C : Cx} (hC : PK C) {n : Nat} {H H' : List AO} {f : Addr} {name qual : Str} {params : Arguments} {body : List Stmt} {scope : Scope} {dV kV doc pm cdv ct oc : Value} {an od : Option Addr} {osl : Array (Option Value)} (T : List Str) (G : List (Str × Value)) {vs : List AV} {v : AV}
    (run : Low H → ∀ L, RunsTo C n { env := envX qual scope L f cdv [], T := T, G := G, ch := [] } H.length body (vs.map some ++ List.replicate (T.length - vs.length) none) H v H')
    (hl : autoParam ((KK C.w.params).lookup f = some ⟨oc, od, .func (fnX name qual params body scope [] dV kV doc pm an cdv ct), osl⟩) exactS) (hcd : autoParam (codeIn (KK C.w.params) cdv qual = true) exactS)
    (ok : fnOk scope T G = true := by decide +kernel)
    (hb : ∀ us : List Value, us.length = vs.length → bindArgs (fnX name qual params body scope [] dV kV doc pm an cdv ct) ⟨us, []⟩ = pure (T.zip us) := by first | exact bind1 fun _ => rfl | exact bind2 fun _ _ => rfl | exact bind3 fun _ _ _ => rfl | exact bind4 fun _ _ _ _ => rfl | exact bind5 fun _ _ _ _ _ => rfl) :
    CallTo C (n + 1) (.ref f) vs H v H' := (code_def hC T G run hl hcd ok hb).call


local macro_rules | `(tactic| walk_at "m_at") => `(tactic| first | (with_reducible first | exact At.here | exact At.there At.here | exact At.there (At.there At.here) | (refine' At.there ?q; (case q => walk_at "m_at"))) | fail "m_at")
local macro_rules | `(tactic| walk_at "m_mem") => `(tactic| first | (with_reducible first | exact InG.here | exact InG.there InG.here | (refine' InG.there ?q; (case q => walk_at "m_mem"))) | fail "m_mem")
local macro_rules | `(tactic| walk_at "m_side") => `(tactic| first | assumption | omega | fail "m_side")
local macro_rules | `(tactic| walk_at "m_hp") => `(tactic| first | assumption | exact hp_last | exact hp_old (by assumption) | (simp only [hp_last]; done) | fail "m_hp")
local macro_rules | `(tactic| walk_at "m_iop") => `(tactic| first
  | with_reducible exact IOp.add _ _
  | with_reducible exact IOp.sub _ _
  | with_reducible exact IOp.and _ _
  | with_reducible exact IOp.or _ _
  | (with_reducible refine IOp.mul _ _ ?_ ?_ <;> walk_at "m_side")
  | (with_reducible refine IOp.div _ _ ?_ ?_ <;> walk_at "m_side")
  | (with_reducible refine IOp.mod _ _ ?_ <;> walk_at "m_side")
  | (with_reducible refine IOp.shr _ _ ?_ <;> walk_at "m_side")
  | (with_reducible refine IOp.shl _ _ ?_ ?_ ?_ <;> walk_at "m_side")
  | (with_reducible refine IOp.pow _ _ ?_ ?_ ?_ <;> walk_at "m_side") | fail "m_iop")
local macro_rules | `(tactic| walk_at "m_cop") => `(tactic| first | (with_reducible first | exact COp.lt _ _ | exact COp.le _ _ | exact COp.gt _ _ | exact COp.ge _ _ | exact COp.eq _ _ | exact COp.ne _ _) | fail "m_cop")
local macro_rules | `(tactic| walk_at "m_args") => `(tactic| first
  | with_reducible exact args_nil'
  | ((with_reducible refine' args_cons' ?q1 ?q2 rfl); (case q1 => walk_at "m_ev"); (case q2 => walk_at "m_args")) | fail "m_args")
local macro_rules | `(tactic| walk_at "m_ev") => `(tactic| first
  | ((with_reducible refine' ev_cat_il ?q1 ?q2 ?q3 ?q4 ?q5); (case q1 => walk_at "m_ev"); (case q2 => walk_at "m_ev"); (case q3 => walk_at "m_hp"); (case q4 => walk_at "m_hp"); (case q5 => walk_at "m_len"))
  | ((with_reducible refine' ev_rep_il ?q1 ?q2 ?q3 ?q4); (case q1 => walk_at "m_ev"); (case q2 => walk_at "m_ev"); (case q3 => walk_at "m_hp"); (case q4 => walk_at "m_side")) | fail "m_ev")
local macro_rules | `(tactic| walk_at "m_len") => `(tactic| first | omega | (simp only [List.length_append, List.length_replicate, List.length_cons, List.length_nil]; omega) | fail "m_len")
local macro_rules | `(tactic| walk_at "m_ev") => `(tactic| first
  | ((with_reducible refine' ev_local _ ?q1 ?q2); (case q1 => walk_at "m_at"); (case q2 => exact rfl))
  | with_reducible exact ev_int
  | with_reducible exact ev_bool
  | ((with_reducible refine' ev_name_g ?q1); (case q1 => walk_at "m_mem"))
  | ((with_reducible refine' ev_bin ?q1 ?q2 ?q3); (case q1 => walk_at "m_ev"); (case q2 => walk_at "m_ev"); (case q3 => walk_at "m_iop"))
  | ((with_reducible refine' ev_neg ?q1); (case q1 => walk_at "m_ev"))
  | ((with_reducible refine' ev_item_il ?q1 ?q2 ?q3 ?q4 ?q5 ?q6); (case q6 => intro _ _; rfl); (case q1 => walk_at "m_ev"); (case q2 => walk_at "m_ev"); (case q3 => walk_at "m_hp"); (case q4 => walk_at "m_side"); (case q5 => walk_at "m_side"))
  | ((with_reducible refine' ev_call_builtin ?q1 ?q2 ?q3 rfl rfl rfl); (case q1 => walk_at "m_ev"); (case q2 => walk_at "m_args"); (case q3 => walk_at "m_call")) | fail "m_ev")
local macro_rules | `(tactic| walk_at "m_call") => `(tactic| first | (((with_reducible refine' len_call_il ?q1); (case q1 => walk_at "m_hp"))) | fail "m_call")
local macro_rules | `(tactic| walk_at "m_test") => `(tactic| first
  | ((with_reducible refine' test_cmp ?q1 ?q2 ?q3 ?q4); (case q4 => with_unfolding_all rfl); (case q1 => walk_at "m_ev"); (case q2 => walk_at "m_ev"); (case q3 => walk_at "m_cop")) | fail "m_test")
local macro_rules | `(tactic| walk_at "m_beq") => `(tactic| first
  | rfl
  | assumption
  | (simp only [decide_eq_true_eq, decide_eq_false_iff_not, beq_iff_eq, bne_iff_ne, ne_eq, beq_eq_false_iff_ne, bne_eq_false_iff_eq]; omega)
  | (simp; done)
  | (simp; omega)
  | (simp_all; done) | fail "m_beq")
local macro_rules | `(tactic| walk_at "m_tb") => `(tactic| first | (((refine' Sm.testEq ?q1 ?q2); (case q1 => walk_at "m_test"); (case q2 => walk_at "m_beq"))) | fail "m_tb")
local macro_rules | `(tactic| walk_at "m_ev") => `(tactic| first
  | ((with_reducible refine' ev_cut_to ?q1 ?q2 ?q3 ?q6); (case q6 => intro _ _; rfl); (case q1 => walk_at "m_ev"); (case q2 => walk_at "m_ev"); (case q3 => walk_at "m_hp"))
  | ((with_reducible refine' ev_cut_from ?q1 ?q2 ?q3 ?q6); (case q6 => intro _ _; rfl); (case q1 => walk_at "m_ev"); (case q2 => walk_at "m_ev"); (case q3 => walk_at "m_hp")) | fail "m_ev")
local macro_rules | `(tactic| walk_at "m_ev") => `(tactic| first
  | ((with_reducible refine' ev_list ?q1 ?q2); (case q1 => walk_at "m_args"); (case q2 => exact Nat.le_of_ble_eq_true rfl)) | fail "m_ev")
local macro_rules | `(tactic| walk_at "m_test") => `(tactic| first
  | ((with_reducible refine' test_and_t ?q1 ?q2); (case q1 => walk_at "m_tb"); (case q2 => walk_at "m_test"))
  | with_reducible exact test_and_nil
  | with_reducible exact test_or_nil | fail "m_test")
local macro_rules | `(tactic| walk_at "m_ev") => `(tactic| first
  | ((with_reducible refine' ev_cmp ?q1 ?q2 ?q3 ?q4); (case q4 => with_unfolding_all rfl); (case q1 => walk_at "m_ev"); (case q2 => walk_at "m_ev"); (case q3 => walk_at "m_cop")) | fail "m_ev")
local macro_rules | `(tactic| walk_at "m_vb") => `(tactic| first | (((refine' Sm.valEq ?q1 ?q2); (case q1 => walk_at "m_ev"); (case q2 => walk_at "m_beq"))) | fail "m_vb")
local macro_rules | `(tactic| walk_at "m_t1") => `(tactic| first | (((refine' Sm.testEq ?q1 ?q2); (case q1 => walk_at "m_test"))) | fail "m_t1")
local macro_rules | `(tactic| walk_at "m_v1") => `(tactic| first | (((refine' Sm.valEq ?q1 ?q2); (case q1 => walk_at "m_ev"))) | fail "m_v1")
local macro_rules | `(tactic| walk_at "m_i1") => `(tactic| first | (((refine' Sm.intEq ?q1 ?q2); (case q1 => walk_at "m_ev"))) | fail "m_i1")
local macro_rules | `(tactic| walk_at "m_ev") => `(tactic| first
  | ((with_reducible refine' ev_call ?q1 ?q2 ?q3 ?q4 rfl rfl rfl); (case q1 => walk_at "m_ev"); (case q2 => walk_at "m_args"); (case q3 => walk_at "m_call"); (case q4 => exact keep_of (by assumption) rfl)) | fail "m_ev")
local macro_rules | `(tactic| walk_at "m_le") => `(tactic| first | (exact Nat.le_of_ble_eq_true rfl) | fail "m_le")
local macro_rules | `(tactic| walk_at "m_ev") => `(tactic| first
  | ((with_reducible refine' ev_if_t ?q1 ?q2); (case q1 => walk_at "m_tb"); (case q2 => walk_at "m_ev"))
  | ((with_reducible refine' ev_if_f ?q1 ?q2); (case q1 => walk_at "m_tb"); (case q2 => walk_at "m_ev")) | fail "m_ev")
/-- without the noughts at its end: how many are left of the first k -/
noncomputable def cutN (ns : List Int) : Nat → Nat
  | 0 => 0
  | k + 1 => if ns.getD k 0 = 0 then cutN ns k else k + 1
noncomputable def norm (ns : List Int) : List Int := ns.take (cutN ns ns.length)

theorem normal_ok {C : Cx} (hC : PK C) {H : List AO} {h : Nat} {ns : List Int} (hx : H[h]? = some (il ns)) :
    CallTo C 3 (.ref 58) [.obj h] H (.obj H.length) (H ++ [il (norm ns)]) := by
  refine' call_def hC ["a", "end"] [("len", .builtin "len")] (fun low L => ?_)
  refine' runs_cons (ex_assign 1 ?i1 ?e1) ?_
  case i1 => walk_at "m_at"
  case e1 => walk_at "m_ev"
  refine' runs_cons (ex_while (while_ind (fun k => [some (.obj h), some (.int (k : Nat))]) (fun k => [some (.obj h), some (.int (cutN ns k : Nat))]) (fun _ => H) (fun _ => H) ns.length ?_ ?_)) ?_
  · exact .stop (test_and_f (by walk_at "m_tb"))
  · intro k hk ih
    have e1 : (((k + 1 : Nat) : Int) - 1).toNat = k := by lia
    by_cases h0 : ns.getD k 0 = 0
    · refine' .turn (test_and_t ?g1 (test_and_t ?g2 test_and_nil)) ?g3 ?g4
      case g1 => walk_at "m_tb"
      case g2 => walk_at "m_t1"; rw [e1, h0]; rfl
      case g3 =>
        refine' exs_cons (ex_aug 1 ?i1 rfl ?e1 (IOp.sub _ _)) exs_nil
        case i1 => walk_at "m_at"
        case e1 => walk_at "m_ev"
      case g4 =>
        have e3 : cutN ns (k + 1) = cutN ns k := by simp only [cutN, if_pos h0]
        have e2 : ((k + 1 : Nat) : Int) - 1 = (k : Nat) := by lia
        rw [e3, e2]
        exact ih
    · have : cutN ns (k + 1) = k + 1 := by simp only [cutN, if_neg h0]
      rw [this]
      refine' .stop (test_and_t ?g1 (test_and_f ?g2))
      case g1 => walk_at "m_tb"
      case g2 => walk_at "m_t1"; rw [e1]; simpa using h0
  · refine' runs_return (Sm.eqH ?g1 ?g2)
    case g1 => walk_at "m_ev"
    case g2 => simp [norm, il, List.map_take]

theorem is_even_ok {C : Cx} (hC : PK C) {H : List AO} {h : Nat} {ns : List Int} (hx : H[h]? = some (il ns)) (h0 : 0 < ns.length) (h1 : Builtin.bitAnd (ns.getD 0 0) 1 ≠ 0) :
    CallTo C 3 (.ref 65) [.obj h] H (.bool false) H := by
  refine' call_def hC ["a"] [("len", .builtin "len")] (fun low L => ?_)
  refine' runs_return (ev_or_f ?g1 ?g2)
  case g1 => walk_at "m_vb"
  case g2 =>
    walk_at "m_v1"
    simpa using h1

/-- -1, 0, 1 by the first k limbs -/
noncomputable def cmpF (as bs : List Int) : Nat → Int
  | 0 => 0
  | k + 1 => if as.getD k 0 = bs.getD k 0 then cmpF as bs k else if as.getD k 0 < bs.getD k 0 then -1 else 1
noncomputable def cmpL (as bs : List Int) : Int := if as.length = bs.length then cmpF as bs as.length else if as.length < bs.length then -1 else 1

set_option maxHeartbeats 1000000 in
theorem compare_ok {C : Cx} (hC : PK C) {H : List AO} {h k : Nat} {as bs : List Int} (hx : H[h]? = some (il as)) (hy : H[k]? = some (il bs)) (hn : as.length < 4096) :
    CallTo C 3 (.ref 72) [.obj h, .obj k] H (.int (cmpL as bs)) H := by
  refine' call_def hC ["a", "b", "at"] [("len", .builtin "len"), ("range", .type "range")] (fun low L => ?_)
  change RunsTo _ _ _ _ _ [some (.obj h), some (.obj k), none] _ _ _
  by_cases hl : as.length = bs.length
  · refine' runs_if_f ?g1 ?_
    case g1 => walk_at "m_tb"
    have e0 : cmpL as bs = cmpF as bs as.length := by simp only [cmpL, if_pos hl]
    rw [e0]
    have hit : ∀ k, hitDown (fun k => if as.getD k 0 = bs.getD k 0 then none else some (AV.int (if as.getD k 0 < bs.getD k 0 then -1 else 1))) k = none ∧ cmpF as bs k = 0 ∨
        hitDown (fun k => if as.getD k 0 = bs.getD k 0 then none else some (AV.int (if as.getD k 0 < bs.getD k 0 then -1 else 1))) k = some (.int (cmpF as bs k)) := by
      intro k
      induction k with
      | zero => exact .inl ⟨rfl, rfl⟩
      | succ k ih =>
        by_cases q : as.getD k 0 = bs.getD k 0
        · simpa only [hitDown, cmpF, if_pos q] using ih
        · exact .inr (by simp only [hitDown, cmpF, if_neg q])
    refine' runs_for_down as.length 2 (fun k => if as.getD k 0 = bs.getD k 0 then none else some (AV.int (if as.getD k 0 < bs.getD k 0 then -1 else 1))) ?i1 ?i2 ?e1 ?e2 ?e3 (by lia) ?hb ?h0 ?h1
    case i1 => walk_at "m_at"
    case i2 => walk_at "m_mem"
    case e1 => walk_at "m_ev"
    case e2 => walk_at "m_ev"
    case e3 => walk_at "m_ev"
    case h1 =>
      intro u e
      rcases hit as.length with ⟨q, _⟩ | q
      · rw [q] at e; cases e
      · rw [q] at e; exact (Option.some.inj e).symm
    case h0 =>
      intro e
      rcases hit as.length with ⟨_, q⟩ | q
      · rw [q]; exact runs_return ev_int
      · rw [q] at e; cases e
    case hb =>
      intro j hj
      refine ⟨fun e => ⟨[some (.obj h), some (.obj k), some (.int (j : Nat))], ?g1, FSub.keep (FSub.keep (FSub.drop .nil))⟩, fun v e => ?g2⟩
      case g1 =>
        have q : as.getD j 0 = bs.getD j 0 := by
          false_or_by_contra; rename_i q; rw [if_neg q] at e; cases e
        refine' exs_cons (ex_if (b := false) ?q1 exs_nil) exs_nil
        case q1 => walk_at "m_t1"; simpa using q
      case g2 =>
        by_cases q : as.getD j 0 = bs.getD j 0
        · rw [if_pos q] at e; cases e
        · rw [if_neg q] at e
          obtain rfl := Option.some.inj e
          refine ⟨_, exs_ret (ex_if (H₁ := H) (b := true) ?q1 (exs_ret (ex_return ?q2)))⟩
          case q1 => walk_at "m_t1"; simpa using q
          case q2 =>
            by_cases z : as.getD j 0 < bs.getD j 0
            · rw [if_pos z]
              refine' ev_if_t ?q1 ?q2
              case q1 => walk_at "m_t1"; simpa using z
              case q2 => walk_at "m_ev"
            · rw [if_neg z]
              refine' ev_if_f ?q1 ?q2
              case q1 => walk_at "m_t1"; simpa using z
              case q2 => walk_at "m_ev"
  · by_cases hlt : as.length < bs.length
    · have e0 : cmpL as bs = -1 := by simp only [cmpL, if_neg hl, if_pos hlt]
      rw [e0]
      refine' runs_if_t ?g1 (exs_ret (ex_return (ev_if_t ?g2 ?g3)))
      case g1 => walk_at "m_tb"
      case g2 => walk_at "m_tb"
      case g3 => walk_at "m_ev"
    · have e0 : cmpL as bs = 1 := by simp only [cmpL, if_neg hl, if_neg hlt]
      rw [e0]
      refine' runs_if_t ?g1 (exs_ret (ex_return (ev_if_f ?g2 ?g3)))
      case g1 => walk_at "m_tb"
      case g2 => walk_at "m_tb"
      case g3 => walk_at "m_ev"

local macro_rules | `(tactic| walk_at "m_call") => `(tactic| first | (((with_reducible refine' CallTo.le (normal_ok ?q0 ?q1) ?q4); (case q0 => assumption); (case q1 => walk_at "m_hp"); (case q4 => walk_at "m_le"))) | fail "m_call")
local macro_rules | `(tactic| walk_at "m_call") => `(tactic| first | (((with_reducible refine' CallTo.le (is_even_ok ?q0 ?q1 ?q2 ?q3) ?q4); (case q0 => assumption); (case q1 => walk_at "m_hp"); (case q2 => walk_at "m_side"); (case q3 => walk_at "m_side"); (case q4 => walk_at "m_le"))) | fail "m_call")
local macro_rules | `(tactic| walk_at "m_call") => `(tactic| first | (((with_reducible refine' CallTo.le (compare_ok ?q0 ?q1 ?q2 ?q3) ?q4); (case q0 => assumption); (case q1 => walk_at "m_hp"); (case q2 => walk_at "m_hp"); (case q3 => walk_at "m_side"); (case q4 => walk_at "m_le"))) | fail "m_call")
noncomputable def subF (as bs : List Int) (w : Nat) : Nat → List Int × Int
  | 0 => ([], 0)
  | k + 1 => ((subF as bs w k).1 ++ [if as.getD k 0 - (subF as bs w k).2 - bs.getD k 0 < 0 then as.getD k 0 - (subF as bs w k).2 - bs.getD k 0 + 2 ^ w else as.getD k 0 - (subF as bs w k).2 - bs.getD k 0], if as.getD k 0 - (subF as bs w k).2 - bs.getD k 0 < 0 then 1 else 0)
noncomputable def subL (as bs : List Int) (w : Nat) : List Int := norm (subF as bs w as.length).1
theorem subF_len (as bs : List Int) (w : Nat) : ∀ k, (subF as bs w k).1.length = k
  | 0 => rfl
  | k + 1 => by simp [subF, subF_len as bs w k]

set_option maxHeartbeats 1000000 in
theorem sub_ok {C : Cx} (hC : PK C) {H : List AO} {h k : Nat} {as bs : List Int} {w : Nat} (hx : H[h]? = some (il as)) (hy : H[k]? = some (il bs)) (hn : as.length < 4096) (hw : w ≤ 60) (hge : ¬ cmpL as bs < 0) :
    CallTo C 6 (.ref 79) [.obj h, .obj k, .int (w : Nat)] H (.obj H.length) (H ++ [il (subL as bs w)]) := by
  refine' call_def hC ["a", "b", "w", "found", "borrow", "base", "at", "limb"] [("len", .builtin "len"), ("range", .type "range"), ("compare", .ref 72), ("normal", .ref 58)] (fun low L => ?_)
  change RunsTo _ _ _ _ _ [some (.obj h), some (.obj k), some (.int (w : Nat)), none, none, none, none, none] _ _ _
  have lh := hp_lt hx
  have lk := hp_lt hy
  refine' runs_if_f ?g1 ?_
  case g1 =>
    refine' Sm.testEq ?a1 ?a2
    case a1 =>
      refine' test_cmp ?b1 ?b2 ?b3
      case b1 =>
        refine' ev_call ?c1 ?c2 ?c3 ?c4 rfl rfl rfl
        case c1 => walk_at "m_ev"
        case c2 => walk_at "m_args"
        case c3 => walk_at "m_call"
        case c4 => exact keep_of (by assumption) rfl
      case b2 => walk_at "m_ev"
      case b3 => walk_at "m_cop"
    case a2 => simpa using hge
  refine' runs_cons (F₁ := [some (.obj h), some (.obj k), some (.int (w : Nat)), some (.obj H.length), some (.int 0), some (.int (2 ^ w)), none, none]) (H₁ := H ++ [il []]) ?st ?_
  case st =>
    refine' Xm.pick (ns := []) [] [_] ?ex ?hH rfl low rfl ?hf
    case ex =>
      refine' ex_three 3 4 5 ?i1 ?i2 ?i3 ?e1 ?e2 ?e3
      case i1 => walk_at "m_at"
      case i2 => walk_at "m_at"
      case i3 => walk_at "m_at"
      case e1 => walk_at "m_ev"
      case e2 => walk_at "m_ev"
      case e3 => walk_at "m_i1"; (show _ = (2 : Int) ^ w); simp
    case hH => simp [il]; rfl
    case hf => exact .keep (.obj (lastσ_old lh)) (.keep (.obj (lastσ_old lk)) (.keep (.int _) (.keep (.obj lastσ_new) (.keep (.int _) (.keep (.int _) (.skip (.skip .nil)))))))
  refine' runs_cons (F₁ := [some (.obj h), some (.obj k), some (.int (w : Nat)), some (.obj H.length), some (.int (subF as bs w as.length).2), some (.int (2 ^ w)), none, none]) (H₁ := H ++ [il (subF as bs w as.length).1]) ?lp ?_
  case lp =>
    refine' ex_range 6 as.length (fun j => [some (.obj h), some (.obj k), some (.int (w : Nat)), some (.obj H.length), some (.int (subF as bs w j).2), some (.int (2 ^ w)), none, none]) (fun j => H ++ [il (subF as bs w j).1]) ?i1 ?i2 ?e1 hn ?hb
    case i1 => walk_at "m_at"
    case i2 => walk_at "m_mem"
    case e1 => walk_at "m_ev"
    case hb =>
      intro j hj
      have hx' : (H ++ [il (subF as bs w j).1])[h]? = some (il as) := hp_old hx
      have hy' : (H ++ [il (subF as bs w j).1])[k]? = some (il bs) := hp_old hy
      refine ⟨[some (.obj h), some (.obj k), some (.int (w : Nat)), some (.obj H.length), some (.int (subF as bs w (j + 1)).2), some (.int (2 ^ w)), some (.int (j : Nat)), some (.int (as.getD j 0 - (subF as bs w j).2 - bs.getD j 0))], ?_, .keep (.keep (.keep (.keep (.keep (.keep (.drop (.drop .nil)))))))⟩
      refine' exs_cons (ex_assign 7 ?i1 (v := .int (as.getD j 0 - (subF as bs w j).2 - bs.getD j 0)) ?e1) ?_
      case i1 => walk_at "m_at"
      case e1 =>
        by_cases q : j < bs.length
        · walk_at "m_i1"; simp
        · have e : bs.getD j 0 = 0 := by simp [List.getD, List.getElem?_eq_none (Nat.not_lt.mp q)]
          rw [e]; walk_at "m_i1"; simp
      refine' exs_cons (ex_assign 4 ?i1 (v := .int (subF as bs w (j + 1)).2) ?e1) ?_
      case i1 => walk_at "m_at"
      case e1 =>
        by_cases q : as.getD j 0 - (subF as bs w j).2 - bs.getD j 0 < 0
        · walk_at "m_i1"; simp only [subF, if_pos q]
        · walk_at "m_i1"; simp only [subF, if_neg q]
      refine' exs_cons (ex_append_il ?o1 ?e1 ?l1) exs_nil
      case o1 => walk_at "m_ev"
      case l1 => rw [subF_len]; lia
      case e1 =>
        by_cases q : as.getD j 0 - (subF as bs w j).2 - bs.getD j 0 < 0
        · walk_at "m_i1"; rw [if_pos q]
        · walk_at "m_i1"; rw [if_neg q]
  refine' runs_keep [il (subF as bs w as.length).1] (runs_return ?rt) ?hv ?hH rfl low rfl
  case rt => walk_at "m_ev"
  case hv => simp
  case hH => simp [subL]

local macro_rules | `(tactic| walk_at "m_call") => `(tactic| first | ((with_reducible refine' CallTo.le (sub_ok ?q0 ?q1 ?q2 ?q3 ?q5 ?q6) ?q4); (case q0 => assumption); (case q1 => walk_at "m_hp"); (case q2 => walk_at "m_hp"); (case q3 => walk_at "m_side"); (case q4 => walk_at "m_le"); (case q5 => walk_at "m_side"); (case q6 => walk_at "m_side")) | fail "m_call")
theorem lifted_ok {C : Cx} (hC : PK C) {H : List AO} {h : Nat} {ns : List Int} {k : Nat} (hx : H[h]? = some (il ns)) (hn : ns.length < 1000) (hk : k < 1000) (h0 : 0 < ns.length) :
    CallTo C 3 (.ref 86) [.obj h, .int (k : Nat)] H (.obj H.length) (H ++ [il (List.replicate k 0 ++ ns)]) := by
  refine' call_def hC ["a", "spot"] [("len", .builtin "len")] (fun low L => ?_)
  change RunsTo _ _ _ _ _ [some (.obj h), some (.int (k : Nat))] _ _ _
  refine' runs_keep [il [0], il (List.replicate k 0)] (runs_return (ev_if_t ?t1 ?rt)) ?hv ?hH rfl low rfl
  case t1 => walk_at "m_tb"
  case rt =>
    refine' ev_cat_il ?q1 ?q2 ?q3 ?q4 ?q5
    case q1 => walk_at "m_ev"
    case q2 => walk_at "m_ev"
    case q3 => exact hp_last
    case q4 => rw [List.append_assoc]; exact hp_old hx
    case q5 => simp; lia
  case hv => simp
  case hH => simp [il]

noncomputable def shF (ns : List Int) (w few : Nat) (m0 : List Int) : Nat → List Int × Int
  | 0 => (m0, 0)
  | k + 1 => ((shF ns w few m0 k).1 ++ [bitAnd (bitOr (shF ns w few m0 k).2 (ns.getD k 0 * 2 ^ few)) (2 ^ w - 1)], bitOr (shF ns w few m0 k).2 (ns.getD k 0 * 2 ^ few) / 2 ^ w)
noncomputable def shlL (ns : List Int) (w : Nat) : List Int :=
  if ns.length = 0 then [] else if 0 < (shF ns w 1 [] ns.length).2 then (shF ns w 1 [] ns.length).1 ++ [(shF ns w 1 [] ns.length).2] else (shF ns w 1 [] ns.length).1

theorem shF_len (ns : List Int) (w few : Nat) : ∀ k, (shF ns w few [] k).1.length = k
  | 0 => rfl
  | k + 1 => by simp [shF, shF_len ns w few k]

set_option maxHeartbeats 1000000 in
theorem shift_left_ok {C : Cx} (hC : PK C) {H : List AO} {h : Nat} {ns : List Int} {w : Nat} (hx : H[h]? = some (il ns)) (hn : ns.length < 1000) (hw : 2 ≤ w) (hw' : w ≤ 60) (hb : ∀ j, j < ns.length → (ns.getD j 0).natAbs < 2 ^ 64) :
    CallTo C 3 (.ref 93) [.obj h, .int 1, .int (w : Nat)] H (.obj H.length) (H ++ [il (shlL ns w)]) := by
  refine' call_def hC ["a", "n", "w", "spots", "few", "found", "carry", "mask", "one"] [("len", .builtin "len")] (fun low L => ?_)
  change RunsTo _ _ _ _ _ [some (.obj h), some (.int 1), some (.int (w : Nat)), none, none, none, none, none, none] _ _ _
  have lh := hp_lt hx
  by_cases q0 : ns.length = 0
  · have e0 : shlL ns w = [] := by unfold shlL; rw [if_pos q0]
    rw [e0]
    refine' runs_if_t ?t1 (exs_ret (ex_return ?rt))
    case t1 => walk_at "m_tb"
    case rt => exact ev_list args_nil' (Nat.zero_le _)
  refine' runs_if_f ?t1 ?_
  case t1 => walk_at "m_tb"
  refine' runs_cons (F₁ := [some (.obj h), some (.int 1), some (.int (w : Nat)), some (.int ((0 : Nat) : Int)), some (.int 1), none, none, none, none]) (H₁ := H) ?st ?_
  case st =>
    refine' Xm.drop [_] ?ex ?hH rfl low rfl ?hf
    case ex =>
      refine' ex_pair (v₁ := .int ((0 : Nat) : Int)) (v₂ := .int 1) 3 4 ?i1 ?i2 ?e1 ?e2
      case i1 => walk_at "m_at"
      case i2 => walk_at "m_at"
      case e1 => walk_at "m_i1"; exact Int.ediv_eq_zero_of_lt (by lia) (by lia)
      case e2 => walk_at "m_i1"; exact Int.emod_eq_of_lt (by lia) (by lia)
    case hH => rfl
    case hf => exact .keep (.obj (dropσ_old lh)) (.keep (.int _) (.keep (.int _) (.keep (.int _) (.keep (.int _) (.skip (.skip (.skip (.skip .nil))))))))
  refine' runs_cons (F₁ := [some (.obj h), some (.int 1), some (.int (w : Nat)), some (.int ((0 : Nat) : Int)), some (.int 1), some (.obj H.length), some (.int 0), some (.int (2 ^ w - 1)), none]) (H₁ := H ++ [il []]) ?st ?_
  case st =>
    refine' Xm.pick (ns := []) [il [0]] [_] ?ex ?hH rfl low rfl ?hf
    case ex =>
      refine' ex_three (v₂ := .int 0) (v₃ := .int (2 ^ w - 1)) 5 6 7 ?i1 ?i2 ?i3 ?e1 ?e2 ?e3
      case i1 => walk_at "m_at"
      case i2 => walk_at "m_at"
      case i3 => walk_at "m_at"
      case e1 => walk_at "m_ev"
      case e2 => walk_at "m_ev"
      case e3 => walk_at "m_i1"; (show _ = (2 : Int) ^ w - 1); simp
    case hH => simp [il]; rfl
    case hf =>
      refine' .keep (.obj (lastσ_old lh)) (.keep (.int _) (.keep (.int _) (.keep (.int _) (.keep (.int _) (.keep (.obj ?_) (.keep (.int _) (.keep (.int _) (.skip .nil))))))))
      rw [List.length_append]; exact lastσ_new
  refine' runs_cons (F₁ := [some (.obj h), some (.int 1), some (.int (w : Nat)), some (.int ((0 : Nat) : Int)), some (.int 1), some (.obj H.length), some (.int (shF ns w 1 [] ns.length).2), some (.int (2 ^ w - 1)), none]) (H₁ := H ++ [il (shF ns w 1 [] ns.length).1]) ?lp ?_
  case lp =>
    refine' ex_each 8 ns (fun j => [some (.obj h), some (.int 1), some (.int (w : Nat)), some (.int ((0 : Nat) : Int)), some (.int 1), some (.obj H.length), some (.int (shF ns w 1 [] j).2), some (.int (2 ^ w - 1)), none]) (fun j => H ++ [il (shF ns w 1 [] j).1]) lh ?i1 ?e1 (fun j _ => hp_old hx) ?hb
    case i1 => walk_at "m_at"
    case e1 => walk_at "m_ev"
    case hb =>
      intro j hj
      have hb' := hb j hj
      refine ⟨[some (.obj h), some (.int 1), some (.int (w : Nat)), some (.int ((0 : Nat) : Int)), some (.int 1), some (.obj H.length), some (.int (shF ns w 1 [] (j + 1)).2), some (.int (2 ^ w - 1)), some (.int (ns.getD j 0))], ?_, .keep (.keep (.keep (.keep (.keep (.keep (.keep (.keep (.drop .nil))))))))⟩
      refine' exs_cons (ex_aug 6 ?i1 rfl ?e1 (w := bitOr (shF ns w 1 [] j).2 (ns.getD j 0 * 2 ^ 1)) ?o1) ?_
      case i1 => walk_at "m_at"
      case e1 => walk_at "m_ev"
      case o1 => exact IOp.or _ _
      refine' exs_cons (ex_append_il ?o1 ?e1 ?l1) ?_
      case o1 => walk_at "m_ev"
      case e1 => walk_at "m_ev"
      case l1 => rw [shF_len]; lia
      refine' exs_cons (ex_aug 6 ?i1 rfl ?e1 (z := (w : Nat)) (w := (shF ns w 1 [] (j + 1)).2) ?o1) exs_nil
      case i1 => walk_at "m_at"
      case e1 =>
        refine' Sm.eqH ?z1 ?z2
        case z1 => walk_at "m_ev"
        case z2 => rfl
      case o1 => exact IOp.shr _ _ (by lia)
  by_cases q1 : 0 < (shF ns w 1 [] ns.length).2
  · have e1 : shlL ns w = (shF ns w 1 [] ns.length).1 ++ [(shF ns w 1 [] ns.length).2] := by unfold shlL; rw [if_neg q0, if_pos q1]
    rw [e1]
    refine' runs_cons (ex_if (b := true) ?t1 (exs_cons (ex_append_il ?o1 ?e1 ?l1) exs_nil)) (runs_return ?rt)
    case t1 => walk_at "m_tb"
    case o1 => walk_at "m_ev"
    case e1 => walk_at "m_ev"
    case l1 => rw [shF_len]; lia
    case rt => walk_at "m_ev"
  · have e1 : shlL ns w = (shF ns w 1 [] ns.length).1 := by unfold shlL; rw [if_neg q0, if_neg q1]
    rw [e1]
    refine' runs_cons (ex_if (b := false) ?t1 exs_nil) (runs_return ?rt)
    case t1 => walk_at "m_tb"
    case rt => walk_at "m_ev"

noncomputable def invStep (d : Int) (w : Nat) (f : Int) : Int := f * ((2 - d * f) % 2 ^ w) % 2 ^ w
noncomputable def invL (d : Int) (w : Nat) : Int := if w ≤ 3 then d % 2 ^ w else if w ≤ 6 then invStep d w (d % 2 ^ w) else invStep d w (invStep d w (d % 2 ^ w))

theorem pow_le12 {w : Nat} (h : w ≤ 12) : (2 : Int) ^ w ≤ 4096 := by
  have : (2 : Nat) ^ w ≤ 2 ^ 12 := Nat.pow_le_pow_right (by decide) h
  exact_mod_cast this
theorem pow_pos2 {w : Nat} : (0 : Int) < 2 ^ w := Int.pow_pos (by decide)
theorem mod_bd {x : Int} {w : Nat} : 0 ≤ x % 2 ^ w ∧ x % 2 ^ w < 2 ^ w := ⟨Int.emod_nonneg _ (Int.ne_of_gt pow_pos2), Int.emod_lt_of_pos _ pow_pos2⟩
theorem nab_of {x : Int} {w : Nat} (hw : w ≤ 12) (h : 0 ≤ x ∧ x < 2 ^ w) : x.natAbs < 2 ^ 64 := by
  have := pow_le12 hw
  lia

noncomputable def sureL (w : Nat) : Int := if w ≤ 3 then 3 else if w ≤ 6 then 6 else 12
theorem while_inv {C : Cx} {n m : Nat} {a : Act} {H : List AO} {c : Expr} {body : List Stmt} (S : Int → Int → List (Option AV)) (d : Int) (w : Nat) (hw : w ≤ 12)
    (ht : ∀ f s : Int, s < w → TestTo C n a c (S f s) H true H) (hf : ∀ f s : Int, w ≤ s → TestTo C n a c (S f s) H false H)
    (turn : ∀ f s : Int, (0 ≤ f ∧ f < 2 ^ w) → (0 ≤ s ∧ s < 100) → ExecsTo C n a m body (S f s) H .next (S (invStep d w f) (2 * s)) H) :
    WhileTo C n a m c body (S (d % 2 ^ w) 3) H .next (S (invL d w) (sureL w)) H := by
  have b0 := @mod_bd d w
  have b1 : 0 ≤ invStep d w (d % 2 ^ w) ∧ invStep d w (d % 2 ^ w) < 2 ^ w := mod_bd
  by_cases q3 : w ≤ 3
  · have e : invL d w = d % 2 ^ w := by unfold invL; rw [if_pos q3]
    have e' : sureL w = 3 := by unfold sureL; rw [if_pos q3]
    rw [e, e']
    exact .stop (hf _ _ (by lia))
  by_cases q6 : w ≤ 6
  · have e : invL d w = invStep d w (d % 2 ^ w) := by unfold invL; rw [if_neg q3, if_pos q6]
    have e' : sureL w = 6 := by unfold sureL; rw [if_neg q3, if_pos q6]
    rw [e, e']
    exact .turn (ht _ _ (by lia)) (turn _ _ b0 (by decide)) (.stop (hf _ _ (by lia)))
  · have e : invL d w = invStep d w (invStep d w (d % 2 ^ w)) := by unfold invL; rw [if_neg q3, if_neg q6]
    have e' : sureL w = 12 := by unfold sureL; rw [if_neg q3, if_neg q6]
    rw [e, e']
    exact .turn (ht _ _ (by lia)) (turn _ _ b0 (by decide)) (.turn (ht _ _ (by lia)) (turn _ _ b1 (by decide)) (.stop (hf _ _ (by lia))))

set_option maxHeartbeats 1000000 in
theorem inverse_limb_ok {C : Cx} (hC : PK C) {H : List AO} {d : Int} {w : Nat} (hd : 0 ≤ d ∧ d < 2 ^ w) (ho : d % 2 ≠ 0) (hw : w ≤ 12) :
    CallTo C 3 (.ref 100) [.int d, .int (w : Nat)] H (.int (invL d w)) H := by
  refine' call_def hC ["d", "w", "whole", "found", "sure"] [] (fun low L => ?_)
  change RunsTo _ _ _ _ _ [some (.int d), some (.int (w : Nat)), none, none, none] _ _ _
  have hp := @pow_pos2 w
  have hd1 := nab_of hw hd
  refine' runs_if_f ?t1 ?_
  case t1 => walk_at "m_tb"
  refine' runs_cons (F₁ := [some (.int d), some (.int (w : Nat)), some (.int (2 ^ w)), none, none]) (H₁ := H) (ex_assign 2 ?i1 ?e1) ?_
  case i1 => walk_at "m_at"
  case e1 => walk_at "m_i1"; simp
  refine' runs_cons (F₁ := [some (.int d), some (.int (w : Nat)), some (.int (2 ^ w)), some (.int (d % 2 ^ w)), some (.int 3)]) (H₁ := H) ?st ?_
  case st =>
    refine' Xm.drop [_] ?ex ?hH rfl low rfl ?hf
    case ex =>
      refine' ex_pair (v₁ := .int (d % 2 ^ w)) (v₂ := .int 3) 3 4 ?i1 ?i2 ?e1 ?e2
      case i1 => walk_at "m_at"
      case i2 => walk_at "m_at"
      case e1 => walk_at "m_ev"
      case e2 => walk_at "m_ev"
    case hH => rfl
    case hf => exact .keep (.int _) (.keep (.int _) (.keep (.int _) (.keep (.int _) (.keep (.int _) .nil))))
  refine' runs_cons (F₁ := [some (.int d), some (.int (w : Nat)), some (.int (2 ^ w)), some (.int (invL d w)), some (.int (sureL w))]) (H₁ := H) (ex_while ?go) (runs_return ?rt)
  case rt => walk_at "m_ev"
  case go =>
    refine' while_inv (fun f s => [some (.int d), some (.int (w : Nat)), some (.int (2 ^ w)), some (.int f), some (.int s)]) d w hw ?ht ?hf ?turn
    case ht => intro f s hs; walk_at "m_tb"
    case hf => intro f s hs; walk_at "m_tb"
    case turn =>
      intro f s hf hs
      have hf1 := nab_of hw hf
      have hm1 := nab_of hw (@mod_bd (2 - d * f) w)
      refine' exs_cons (ex_assign 3 ?i1 (v := .int (invStep d w f)) ?e1) (exs_cons (ex_assign 4 ?i2 (v := .int (2 * s)) ?e2) exs_nil)
      case i1 => walk_at "m_at"
      case i2 => walk_at "m_at"
      case e1 => walk_at "m_i1"; rfl
      case e2 => walk_at "m_ev"

local macro_rules | `(tactic| walk_at "m_call") => `(tactic| first | ((with_reducible refine' CallTo.le (shift_left_ok ?q0 ?q1 ?q2 ?q3 ?q5 ?q6) ?q4); (case q0 => assumption); (case q1 => walk_at "m_hp"); (case q2 => walk_at "m_side"); (case q3 => walk_at "m_side"); (case q4 => walk_at "m_le"); (case q5 => walk_at "m_side"); (case q6 => walk_at "m_side")) | fail "m_call")
local macro_rules | `(tactic| walk_at "m_call") => `(tactic| first | ((with_reducible refine' CallTo.le (inverse_limb_ok ?q0 ?q1 ?q2 ?q3) ?q4); (case q0 => assumption); (case q1 => walk_at "m_side"); (case q2 => walk_at "m_side"); (case q3 => walk_at "m_side"); (case q4 => walk_at "m_le")) | fail "m_call")
noncomputable def dblL (as ms : List Int) (w : Nat) : List Int := if 0 ≤ cmpL (shlL as w) ms then subL (shlL as w) ms w else shlL as w
theorem shlL_len (as : List Int) (w : Nat) : (shlL as w).length ≤ as.length + 1 := by
  unfold shlL
  split
  · simp
  · split
    · simp [shF_len]
    · simp [shF_len]

set_option maxHeartbeats 1000000 in
theorem doubled_rest_ok {C : Cx} (hC : PK C) {H : List AO} {h k : Nat} {as ms : List Int} {w : Nat} (hx : H[h]? = some (il as)) (hy : H[k]? = some (il ms)) (hn : as.length < 900) (hn' : ms.length < 1000) (hw : 2 ≤ w) (hw' : w ≤ 60) (hb : ∀ j, j < as.length → (as.getD j 0).natAbs < 2 ^ 64) :
    CallTo C 7 (.ref 128) [.obj h, .obj k, .int (w : Nat)] H (.obj H.length) (H ++ [il (dblL as ms w)]) := by
  refine' call_def hC ["a", "m", "w", "found"] [("shift_left", .ref 93), ("sub", .ref 79), ("compare", .ref 72)] (fun low L => ?_)
  change RunsTo _ _ _ _ _ [some (.obj h), some (.obj k), some (.int (w : Nat)), none] _ _ _
  have lh := hp_lt hx
  have lk := hp_lt hy
  have hl := shlL_len as w
  have hn1 : as.length < 1000 := by lia
  have hn2 : (shlL as w).length < 4096 := by lia
  refine' runs_cons (F₁ := [some (.obj h), some (.obj k), some (.int (w : Nat)), some (.obj H.length)]) (H₁ := H ++ [il (shlL as w)]) (ex_assign 3 ?i1 ?e1) ?_
  case i1 => walk_at "m_at"
  case e1 => walk_at "m_ev"
  by_cases q : 0 ≤ cmpL (shlL as w) ms
  · have e : dblL as ms w = subL (shlL as w) ms w := by unfold dblL; rw [if_pos q]
    have q' : ¬ cmpL (shlL as w) ms < 0 := by lia
    rw [e]
    refine' runs_keep [il (shlL as w)] (runs_return ?rt) ?hv ?hH rfl low rfl
    case rt => walk_at "m_ev"
    case hv => simp
    case hH => simp
  · have e : dblL as ms w = shlL as w := by unfold dblL; rw [if_neg q]
    rw [e]
    refine' runs_return ?rt
    case rt => walk_at "m_ev"

noncomputable def onceL (as ms : List Int) (w : Nat) : List Int := if 0 ≤ cmpL as ms then subL as ms w else as
set_option maxHeartbeats 1000000 in
theorem taken_once_sub {C : Cx} (hC : PK C) {H : List AO} {h k : Nat} {as ms : List Int} {w : Nat} (hx : H[h]? = some (il as)) (hy : H[k]? = some (il ms)) (hn : as.length < 1000) (hn' : ms.length < 1000) (hw' : w ≤ 60) (q : 0 ≤ cmpL as ms) :
    CallTo C 7 (.ref 149) [.obj h, .obj k, .int (w : Nat)] H (.obj H.length) (H ++ [il (onceL as ms w)]) := by
  refine' call_def hC ["a", "m", "w"] [("sub", .ref 79), ("compare", .ref 72)] (fun low L => ?_)
  change RunsTo _ _ _ _ _ [some (.obj h), some (.obj k), some (.int (w : Nat))] _ _ _
  have e : onceL as ms w = subL as ms w := by unfold onceL; rw [if_pos q]
  have q' : ¬ cmpL as ms < 0 := by lia
  have hn2 : as.length < 4096 := by lia
  rw [e]
  refine' runs_return ?rt
  case rt => walk_at "m_ev"
set_option maxHeartbeats 1000000 in
theorem taken_once_same {C : Cx} (hC : PK C) {H : List AO} {h k : Nat} {as ms : List Int} {w : Nat} (hx : H[h]? = some (il as)) (hy : H[k]? = some (il ms)) (hn : as.length < 1000) (hn' : ms.length < 1000) (q : ¬ 0 ≤ cmpL as ms) :
    CallTo C 7 (.ref 149) [.obj h, .obj k, .int (w : Nat)] H (.obj h) H := by
  refine' call_def hC ["a", "m", "w"] [("sub", .ref 79), ("compare", .ref 72)] (fun low L => ?_)
  change RunsTo _ _ _ _ _ [some (.obj h), some (.obj k), some (.int (w : Nat))] _ _ _
  refine' runs_return ?rt
  case rt => walk_at "m_ev"

theorem Xm.eqH {C : Cx} {n m : Nat} {a : Act} {t : Sem Flow} {F F' : List (Option AV)} {H H₁ H' : List AO} {f : AFlow} (h : Xm C n a m t F H f F' H₁) (e : H₁ = H') : Xm C n a m t F H f F' H' := e ▸ h
theorem Xm.preH {C : Cx} {n m : Nat} {a : Act} {t : Sem Flow} {F F' : List (Option AV)} {H H₁ H' : List AO} {f : AFlow} (h : Xm C n a m t F H₁ f F' H') (e : H = H₁) : Xm C n a m t F H f F' H' := e ▸ h
theorem set_self_il {H : List AO} {h : Nat} {x : AO} (e : H[h]? = some x) : H = H.set h x := by
  have hl := hp_lt e
  rw [List.getElem?_eq_getElem hl] at e
  have e' := Option.some.inj e
  rw [← e', List.set_getElem_self]

noncomputable def rowF (rest ms : List Int) (limb : Int) (at' w : Nat) : Nat → List Int × Int
  | 0 => (rest, 0)
  | k + 1 => ((rowF rest ms limb at' w k).1.set (at' + k) (bitAnd ((rowF rest ms limb at' w k).2 + ((rowF rest ms limb at' w k).1.getD (at' + k) 0 + ms.getD k 0 * limb)) (2 ^ w - 1)), ((rowF rest ms limb at' w k).2 + ((rowF rest ms limb at' w k).1.getD (at' + k) 0 + ms.getD k 0 * limb)) / 2 ^ w)
theorem rowF_len (rest ms : List Int) (limb : Int) (at' w : Nat) : ∀ k, (rowF rest ms limb at' w k).1.length = rest.length
  | 0 => rfl
  | k + 1 => by simp [rowF, rowF_len rest ms limb at' w k]

inductive Prp (w : Nat) : List Int → Int → Nat → List Int → Int → Nat → Prop
  | stop {rest : List Int} {c : Int} {i : Nat} (h : ¬ 0 < c) : Prp w rest c i rest c i
  | go {rest rest' : List Int} {c c' : Int} {i i' : Nat} (h : 0 < c) (hi : i < rest.length) (k : Prp w (rest.set i (bitAnd (c + rest.getD i 0) (2 ^ w - 1))) ((c + rest.getD i 0) / 2 ^ w) (i + 1) rest' c' i') : Prp w rest c i rest' c' i'

theorem while_prp {C : Cx} {n m : Nat} {a : Act} {H : List AO} {h : Nat} {w : Nat} {c : Expr} {body : List Stmt} (S : Int → Nat → List (Option AV))
    (ht : ∀ rest x i, 0 < x → TestTo C n a c (S x i) (H.set h (il rest)) true (H.set h (il rest)))
    (hf : ∀ rest x i, ¬ 0 < x → TestTo C n a c (S x i) (H.set h (il rest)) false (H.set h (il rest)))
    (turn : ∀ rest (x : Int) (i : Nat), i < rest.length → ExecsTo C n a m body (S x i) (H.set h (il rest)) .next (S ((x + rest.getD i 0) / 2 ^ w) (i + 1)) (H.set h (il (rest.set i (bitAnd (x + rest.getD i 0) (2 ^ w - 1))))))
    {rest rest' : List Int} {x x' : Int} {i i' : Nat} (p : Prp w rest x i rest' x' i') :
    WhileTo C n a m c body (S x i) (H.set h (il rest)) .next (S x' i') (H.set h (il rest')) := by
  induction p with
  | stop q => exact .stop (hf _ _ _ q)
  | go q hi _ ih => exact .turn (ht _ _ _ q) (turn _ _ _ hi) ih

set_option maxHeartbeats 2000000 in
theorem add_row_ok {C : Cx} (hC : PK C) {H : List AO} {h k : Nat} {rest ms rest' : List Int} {limb c' : Int} {w at' i' : Nat} (hx : H[h]? = some (il rest)) (hy : H[k]? = some (il ms)) (hne : h ≠ k) (hr : at' + ms.length ≤ rest.length)
    (hb : ∀ j, j < ms.length → (ms.getD j 0).natAbs < 2 ^ 64) (hl : limb.natAbs < 2 ^ 64) (hw : w ≤ 60)
    (hp : Prp w (rowF rest ms limb at' w ms.length).1 (rowF rest ms limb at' w ms.length).2 (at' + ms.length) rest' c' i') :
    CallTo C 3 (.ref 142) [.obj h, .obj k, .int limb, .int (at' : Nat), .int (w : Nat)] H .none (H.set h (il rest')) := by
  refine' call_def hC ["rest", "m", "limb", "at", "w", "carry", "mask", "one"] [] (fun low L => ?_)
  change RunsTo _ _ _ _ _ [some (.obj h), some (.obj k), some (.int limb), some (.int (at' : Nat)), some (.int (w : Nat)), none, none, none] _ _ _
  have lh := hp_lt hx
  have lk := hp_lt hy
  refine' runs_cons (F₁ := [some (.obj h), some (.obj k), some (.int limb), some (.int (at' : Nat)), some (.int (w : Nat)), some (.int 0), some (.int (2 ^ w - 1)), none]) (H₁ := H) ?st ?_
  case st =>
    refine' Xm.drop [_] ?ex ?hH rfl low rfl ?hf
    case ex =>
      refine' ex_pair (v₁ := .int 0) (v₂ := .int (2 ^ w - 1)) 5 6 ?i1 ?i2 ?e1 ?e2
      case i1 => walk_at "m_at"
      case i2 => walk_at "m_at"
      case e1 => walk_at "m_ev"
      case e2 => walk_at "m_i1"; (show _ = (2 : Int) ^ w - 1); simp
    case hH => rfl
    case hf => exact .keep (.obj (dropσ_old lh)) (.keep (.obj (dropσ_old lk)) (.keep (.int _) (.keep (.int _) (.keep (.int _) (.keep (.int _) (.keep (.int _) (.skip .nil)))))))
  refine' runs_cons (F₁ := [some (.obj h), some (.obj k), some (.int limb), some (.int ((at' + ms.length : Nat) : Int)), some (.int (w : Nat)), some (.int (rowF rest ms limb at' w ms.length).2), some (.int (2 ^ w - 1)), none]) (H₁ := H.set h (il (rowF rest ms limb at' w ms.length).1)) ?lp ?_
  case lp =>
    refine' Xm.preH ?lp2 (set_self_il hx)
    case lp2 =>
      refine' ex_each 7 ms (fun j => [some (.obj h), some (.obj k), some (.int limb), some (.int ((at' + j : Nat) : Int)), some (.int (w : Nat)), some (.int (rowF rest ms limb at' w j).2), some (.int (2 ^ w - 1)), none]) (fun j => H.set h (il (rowF rest ms limb at' w j).1)) lk ?i1 ?e1 (fun j _ => hp_ne hne hy) ?hb
      case i1 => walk_at "m_at"
      case e1 => walk_at "m_ev"
      case hb =>
        intro j hj
        have hb' := hb j hj
        have hx' : (H.set h (il (rowF rest ms limb at' w j).1))[h]? = some (il (rowF rest ms limb at' w j).1) := hp_same hx
        have hlen := rowF_len rest ms limb at' w j
        have hlt : (((at' + j : Nat) : Int)) < ((rowF rest ms limb at' w j).1.length : Nat) := by rw [hlen]; lia
        refine ⟨[some (.obj h), some (.obj k), some (.int limb), some (.int ((at' + (j + 1) : Nat) : Int)), some (.int (w : Nat)), some (.int (rowF rest ms limb at' w (j + 1)).2), some (.int (2 ^ w - 1)), some (.int (ms.getD j 0))], ?_, .keep (.keep (.keep (.keep (.keep (.keep (.keep (.drop .nil)))))))⟩
        refine' exs_cons (ex_aug 5 ?i1 rfl ?e1 (z := (rowF rest ms limb at' w j).1.getD (at' + j) 0 + ms.getD j 0 * limb) (IOp.add _ _)) ?_
        case i1 => walk_at "m_at"
        case e1 => walk_at "m_i1"; rfl
        refine' exs_cons (ex_setitem_il ?e1 ?e2 ?e3 ?hx ?h0 ?h1) ?_
        case e1 => walk_at "m_ev"
        case e2 => walk_at "m_ev"
        case e3 => walk_at "m_ev"
        case hx => exact hx'
        case h0 => exact Int.natCast_nonneg _
        case h1 => exact hlt
        refine' exs_cons (ex_aug 5 ?i1 rfl ?e1 (z := (w : Nat)) (w := (rowF rest ms limb at' w (j + 1)).2) ?o1) ?_
        case i1 => walk_at "m_at"
        case e1 => walk_at "m_ev"
        case o1 => exact IOp.shr _ _ (by lia)
        refine' exs_cons (ex_aug 3 ?i1 rfl ?e1 (z := 1) (w := ((at' + (j + 1) : Nat) : Int)) ?o1) ?_
        case i1 => walk_at "m_at"
        case e1 => walk_at "m_ev"
        case o1 =>
          have e : ((at' + (j + 1) : Nat) : Int) = ((at' + j : Nat) : Int) + 1 := by push_cast; lia
          rw [e]; exact IOp.add _ _
        have e : H.set h (il (rowF rest ms limb at' w (j + 1)).1) = (H.set h (il (rowF rest ms limb at' w j).1)).set h (il ((rowF rest ms limb at' w j).1.set (((at' + j : Nat) : Int)).toNat (bitAnd ((rowF rest ms limb at' w j).2 + ((rowF rest ms limb at' w j).1.getD (at' + j) 0 + ms.getD j 0 * limb)) (2 ^ w - 1)))) := by
          rw [List.set_set, Int.toNat_natCast]; rfl
        show ExecsTo _ _ _ _ _ _ _ _ _ (H.set h (il (rowF rest ms limb at' w (j + 1)).1))
        rw [e]
        exact exs_nil
  refine' runs_cons (F₁ := [some (.obj h), some (.obj k), some (.int limb), some (.int (i' : Nat)), some (.int (w : Nat)), some (.int c'), some (.int (2 ^ w - 1)), none]) (H₁ := H.set h (il rest')) (ex_while ?go) runs_nil
  case go =>
    refine' while_prp (fun x i => [some (.obj h), some (.obj k), some (.int limb), some (.int (i : Nat)), some (.int (w : Nat)), some (.int x), some (.int (2 ^ w - 1)), none]) ?ht ?hf ?turn hp
    case ht => intro rest x i hs; walk_at "m_tb"
    case hf => intro rest x i hs; walk_at "m_tb"
    case turn =>
      intro rest x i hi
      have hx' : (H.set h (il rest))[h]? = some (il rest) := hp_same hx
      have hlt : ((i : Nat) : Int) < (rest.length : Nat) := by lia
      refine' exs_cons (ex_aug 5 ?i1 rfl ?e1 (z := rest.getD i 0) (IOp.add _ _)) ?_
      case i1 => walk_at "m_at"
      case e1 => walk_at "m_i1"; rfl
      refine' exs_cons (ex_setitem_il ?e1 ?e2 ?e3 ?hx ?h0 ?h1) ?_
      case e1 => walk_at "m_ev"
      case e2 => walk_at "m_ev"
      case e3 => walk_at "m_ev"
      case hx => exact hx'
      case h0 => exact Int.natCast_nonneg _
      case h1 => exact hlt
      refine' exs_cons (ex_aug 5 ?i1 rfl ?e1 (z := (w : Nat)) (w := (x + rest.getD i 0) / 2 ^ w) ?o1) ?_
      case i1 => walk_at "m_at"
      case e1 => walk_at "m_ev"
      case o1 => exact IOp.shr _ _ (by lia)
      refine' exs_cons (ex_aug 3 ?i1 rfl ?e1 (z := 1) (w := ((i + 1 : Nat) : Int)) ?o1) ?_
      case i1 => walk_at "m_at"
      case e1 => walk_at "m_ev"
      case o1 => exact IOp.add _ _
      have e : H.set h (il (rest.set i (bitAnd (x + rest.getD i 0) (2 ^ w - 1)))) = (H.set h (il rest)).set h (il (rest.set ((i : Nat) : Int).toNat (bitAnd (x + rest.getD i 0) (2 ^ w - 1)))) := by
        rw [List.set_set, Int.toNat_natCast]
      rw [e]
      exact exs_nil

local macro_rules | `(tactic| walk_at "m_call") => `(tactic| first | ((with_reducible refine' CallTo.le (doubled_rest_ok ?q0 ?q1 ?q2 ?q3 ?q5 ?q6 ?q7 ?q8) ?q4); (case q0 => assumption); (case q1 => walk_at "m_hp"); (case q2 => walk_at "m_hp"); (case q3 => walk_at "m_side"); (case q4 => walk_at "m_le"); (case q5 => walk_at "m_side"); (case q6 => walk_at "m_side"); (case q7 => walk_at "m_side"); (case q8 => walk_at "m_side")) | fail "m_call")
theorem test_val {C : Cx} {n : Nat} {a : Act} {F : List (Option AV)} {H H₁ : List AO} {e : Expr} {b : Bool} (h : EvalTo C n a e F H (.bool b) H₁)
    (he : autoParam (isTrue e a.env (eval e a.env) = (do let v ← eval e a.env; standAt e.pos; holding [v] (truthy v))) rflS) : TestTo C n a e F H b H₁ := fun A hA r s Q E st k =>
  isTrue_plain (h.bool hA st fun r₁ h₁ tk₁ x₁ st₁ => wpAny_truthy_bool (k _ r₁ h₁ _ x₁ rfl st₁)) he
theorem clsK {C : Cx} (hC : PK C) : ClsK C.K 117 114 where
  get := by rw [hC.k]; rfl
  dct := by rw [hC.k]; rfl
  over := by rw [hC.k]; rfl
  set := by rw [hC.k]; rfl
  made := by rw [hC.k]; rfl
  init := by rw [hC.k]; rfl
  fn := by rw [hC.k]; rfl
@[reducible] noncomputable def mNames : List Str := ["modulus", "minus", "one", "square"]
theorem noAttr {C : Cx} (hC : PK C) {x : Str} (h : findIn (KK C.w.params) (.ref 117) x = some none) : findIn C.K (.ref 117) x = some none := by rw [hC.k]; exact h

theorem hp_two {B : List AO} {x y : AO} : (B ++ [x] ++ [y])[B.length]? = some x := by simp
theorem hp_two' {B : List AO} {x y : AO} : (B ++ [x] ++ [y])[B.length + 1]? = some y := by simp
theorem set_two {B : List AO} {x y z : AO} : (B ++ [x] ++ [y]).set B.length z = B ++ [z] ++ [y] := by simp

set_option maxHeartbeats 1000000 in
theorem init_ok {C : Cx} (hC : PK C) {H : List AO} {v₁ v₂ v₃ v₄ : AV} :
    CodeTo C 1 (.ref 114) (.obj (H.length + 1) :: [v₁, v₂, v₃, v₄]) (H ++ [.ndict [] []] ++ [.inst 117 H.length]) .none (H ++ [.ndict mNames [v₁, v₂, v₃, v₄]] ++ [.inst 117 H.length]) := by
  refine' code_def hC ["self", "modulus", "minus", "one", "square"] [] (fun low L => ?_)
  change RunsTo _ _ _ _ _ [some (.obj (H.length + 1)), some v₁, some v₂, some v₃, some v₄] _ _ _
  refine' runs_cons (H₁ := H ++ [.ndict ["modulus"] [v₁]] ++ [.inst 117 H.length]) ?s1 (runs_cons (H₁ := H ++ [.ndict ["modulus", "minus"] [v₁, v₂]] ++ [.inst 117 H.length]) ?s2 (runs_cons (H₁ := H ++ [.ndict ["modulus", "minus", "one"] [v₁, v₂, v₃]] ++ [.inst 117 H.length]) ?s3 (runs_cons (H₁ := H ++ [.ndict mNames [v₁, v₂, v₃, v₄]] ++ [.inst 117 H.length]) ?s4 runs_nil)))
  case s1 =>
    refine' Xm.eqH (ex_setattr (clsK hC) ?e1 ?e2 hp_two' hp_two ?hn (noAttr hC rfl) ?hz) ?hH
    case e1 => walk_at "m_ev"
    case e2 => walk_at "m_ev"
    case hn => decide
    case hz => decide
    case hH => rw [set_two]; rfl
  case s2 =>
    refine' Xm.eqH (ex_setattr (clsK hC) ?e1 ?e2 hp_two' hp_two ?hn (noAttr hC rfl) ?hz) ?hH
    case e1 => walk_at "m_ev"
    case e2 => walk_at "m_ev"
    case hn => decide
    case hz => decide
    case hH => rw [set_two]; rfl
  case s3 =>
    refine' Xm.eqH (ex_setattr (clsK hC) ?e1 ?e2 hp_two' hp_two ?hn (noAttr hC rfl) ?hz) ?hH
    case e1 => walk_at "m_ev"
    case e2 => walk_at "m_ev"
    case hn => decide
    case hz => decide
    case hH => rw [set_two]; rfl
  case s4 =>
    refine' Xm.eqH (ex_setattr (clsK hC) ?e1 ?e2 hp_two' hp_two ?hn (noAttr hC rfl) ?hz) ?hH
    case e1 => walk_at "m_ev"
    case e2 => walk_at "m_ev"
    case hn => decide
    case hz => decide
    case hH => rw [set_two]; rfl

theorem montgomery_ok {C : Cx} (hC : PK C) {H : List AO} {v₁ v₂ v₃ v₄ : AV} :
    CallTo C 2 (.ref 117) [v₁, v₂, v₃, v₄] H (.obj (H.length + 1)) (H ++ [.ndict mNames [v₁, v₂, v₃, v₄]] ++ [.inst 117 H.length]) := call_cls (clsK hC) (init_ok hC)

theorem Low.push_il {H : List AO} (l : Low H) (ns : List Int) : Low (H ++ [il ns]) := l.push (.il ns)

noncomputable def Fine (ns : List Int) : Prop := ns.length < 900 ∧ ∀ j, j < ns.length → (ns.getD j 0).natAbs < 2 ^ 64
noncomputable def dblN (ms : List Int) (w : Nat) (x : List Int) : Nat → List Int
  | 0 => x
  | j + 1 => dblL (dblN ms w x j) ms w
noncomputable def one0 (ms : List Int) : List Int := if ms = [1] then [] else [1]
noncomputable def makeOne (ms : List Int) (w : Nat) : List Int := dblN ms w (one0 ms) (ms.length * w)
noncomputable def makeSq (ms : List Int) (w : Nat) : List Int := dblN ms w (makeOne ms w) (ms.length * w)
noncomputable def makeMinus (ms : List Int) (w : Nat) : Int := bitAnd (-(invL (ms.getD 0 0) w)) (2 ^ w - 1)

noncomputable def sqF (b : Nat) : Nat → Option AV
  | 0 => some (.obj b)
  | _ + 1 => some (.obj (b + 1))
noncomputable def sqH (H : List AO) (ms : List Int) (w : Nat) (x : List Int) : Nat → List AO
  | 0 => H ++ [il x]
  | j + 1 => H ++ [il x] ++ [il (dblN ms w x (j + 1))]

set_option maxHeartbeats 4000000 in
theorem mont_make_ok {C : Cx} (hC : PK C) {H : List AO} {k : Nat} {ms : List Int} {w : Nat} (hx : H[k]? = some (il ms)) (h0 : 0 < ms.length) (hn : ms.length < 100) (hev : Builtin.bitAnd (ms.getD 0 0) 1 ≠ 0) (hw : 2 ≤ w) (hw' : w ≤ 12)
    (hd : 0 ≤ ms.getD 0 0 ∧ ms.getD 0 0 < 2 ^ w) (ho : ms.getD 0 0 % 2 ≠ 0) (f1 : ∀ j, j < ms.length * w → Fine (dblN ms w (one0 ms) j)) (f2 : ∀ j, j < ms.length * w → Fine (dblN ms w (makeOne ms w) j)) :
    CallTo C 9 (.ref 135) [.obj k, .int (w : Nat)] H (.obj (H.length + 3)) (H ++ [il (makeOne ms w)] ++ [il (makeSq ms w)] ++ [.ndict mNames [.obj k, .int (makeMinus ms w), .obj H.length, .obj (H.length + 1)]] ++ [.inst 117 (H.length + 2)]) := by
  refine' call_def hC ["m", "w", "one", "turn", "square"] [("is_even", .ref 65), ("len", .builtin "len"), ("range", .type "range"), ("doubled_rest", .ref 128), ("Montgomery", .ref 117), ("inverse_limb", .ref 100)] (fun low L => ?_)
  change RunsTo _ _ _ _ _ [some (.obj k), some (.int (w : Nat)), none, none, none] _ _ _
  have lk := hp_lt hx
  have hmw : ms.length * w ≤ 100 * 12 := Nat.mul_le_mul (by lia) hw'
  have hmw0 : 0 < ms.length * w := Nat.mul_pos h0 (by lia)
  refine' runs_if_f ?t1 ?_
  case t1 =>
    refine' test_val ?e1
    case e1 =>
      refine' ev_call ?c1 ?c2 ?c3 ?c4 rfl rfl rfl
      case c1 => walk_at "m_ev"
      case c2 => walk_at "m_args"
      case c3 => exact (is_even_ok hC hx h0 hev).le (Nat.le_of_ble_eq_true rfl)
      case c4 => exact keep_of hC rfl
  refine' runs_cons (F₁ := [some (.obj k), some (.int (w : Nat)), some (.obj H.length), none, none]) (H₁ := H ++ [il (one0 ms)]) ?st ?_
  case st =>
    refine' Xm.pick (H₁ := H ++ [il [1]] ++ [il (one0 ms)]) (ns := one0 ms) [il [1]] [] (ex_assign (v := .obj (H.length + 1)) 2 ?i1 ?e1) ?hH rfl low rfl ?hf
    case i1 => walk_at "m_at"
    case e1 =>
      by_cases q : ms = [1]
      · refine' ev_if_t ?t1 ?r1
        case t1 =>
          refine' Sm.testEq (test_eqL (x := ms) (y := [1]) (Nat.le_of_ble_eq_true rfl) ?a1 ?a2 ?a3 ?a4 (EOp.eq _ _)) ?a5
          case a1 => walk_at "m_ev"
          case a2 => walk_at "m_ev"
          case a3 => exact hp_old hx
          case a4 => exact hp_last
          case a5 => simpa using q
        case r1 =>
          have e : (H ++ [AO.list [.int 1]]).length = H.length + 1 := by simp
          have e' : one0 ms = [] := by unfold one0; rw [if_pos q]
          rw [← e, e']
          refine' Sm.eqH ?z1 ?z2
          case z1 => walk_at "m_ev"
          case z2 => rfl
      · refine' ev_if_f ?t1 ?r1
        case t1 =>
          refine' Sm.testEq (test_eqL (x := ms) (y := [1]) (Nat.le_of_ble_eq_true rfl) ?a1 ?a2 ?a3 ?a4 (EOp.eq _ _)) ?a5
          case a1 => walk_at "m_ev"
          case a2 => walk_at "m_ev"
          case a3 => exact hp_old hx
          case a4 => exact hp_last
          case a5 => simpa using q
        case r1 =>
          have e : (H ++ [AO.list [.int 1]]).length = H.length + 1 := by simp
          have e' : one0 ms = [1] := by unfold one0; rw [if_neg q]
          rw [← e, e']
          refine' Sm.eqH ?z1 ?z2
          case z1 => walk_at "m_ev"
          case z2 => rfl
    case hH => rfl
    case hf => exact .keep (.obj (lastσ_old lk)) (.keep (.int _) (.keep (.obj lastσ_new) (.skip (.skip .nil))))
  refine' runs_cons (F₁ := [some (.obj k), some (.int (w : Nat)), some (.obj H.length), none, none]) (H₁ := H ++ [il (makeOne ms w)]) ?lp ?_
  case lp =>
    refine' ex_range 3 (ms.length * w) (fun j => [some (.obj k), some (.int (w : Nat)), some (.obj H.length), none, none]) (fun j => H ++ [il (dblN ms w (one0 ms) j)]) ?i1 ?i2 ?e1 (by lia) ?hb
    case i1 => walk_at "m_at"
    case i2 => walk_at "m_mem"
    case e1 => walk_at "m_i1"; exact (Int.natCast_mul _ _).symm
    case hb =>
      intro j hj
      have fj := f1 j hj
      have hx' : (H ++ [il (dblN ms w (one0 ms) j)])[k]? = some (il ms) := hp_old hx
      refine ⟨[some (.obj k), some (.int (w : Nat)), some (.obj H.length), some (.int (j : Nat)), none], ?_, .keep (.keep (.keep (.drop (.keep .nil))))⟩
      refine' exs_cons ?st exs_nil
      case st =>
        refine' Xm.pick [il (dblN ms w (one0 ms) j)] [] (ex_assign 2 ?i1 ?e1) ?hH rfl low rfl ?hf
        case i1 => walk_at "m_at"
        case e1 =>
          refine' ev_call ?c1 ?c2 ?c3 ?c4 rfl rfl rfl
          case c1 => walk_at "m_ev"
          case c2 => walk_at "m_args"
          case c3 => exact (doubled_rest_ok hC hp_last hx' fj.1 (by lia) hw (by lia) fj.2).le (Nat.le_of_ble_eq_true rfl)
          case c4 => exact keep_of hC rfl
        case hH => rfl
        case hf =>
          refine' .keep (.obj (lastσ_old lk)) (.keep (.int _) (.keep (.obj ?_) (.keep (.int _) (.skip .nil))))
          rw [List.length_append]; exact lastσ_new
  refine' runs_cons (F₁ := [some (.obj k), some (.int (w : Nat)), some (.obj H.length), none, some (.obj H.length)]) (H₁ := H ++ [il (makeOne ms w)]) (ex_assign 4 ?i1 ?e1) ?_
  case i1 => walk_at "m_at"
  case e1 => walk_at "m_ev"
  refine' runs_cons (F₁ := [some (.obj k), some (.int (w : Nat)), some (.obj H.length), none, some (.obj (H.length + 1))]) (H₁ := H ++ [il (makeOne ms w)] ++ [il (makeSq ms w)]) ?lp ?_
  case lp =>
    have e1 : some (AV.obj (H.length + 1)) = sqF H.length (ms.length * w) := by
      obtain ⟨q, hq⟩ : ∃ q, ms.length * w = q + 1 := ⟨ms.length * w - 1, by lia⟩
      rw [hq]; rfl
    have e2 : H ++ [il (makeOne ms w)] ++ [il (makeSq ms w)] = sqH H ms w (makeOne ms w) (ms.length * w) := by
      unfold makeSq
      obtain ⟨q, hq⟩ : ∃ q, ms.length * w = q + 1 := ⟨ms.length * w - 1, by lia⟩
      rw [hq]; rfl
    rw [e1, e2]
    refine' ex_range 3 (ms.length * w) (fun j => [some (.obj k), some (.int (w : Nat)), some (.obj H.length), none, sqF H.length j]) (fun j => sqH H ms w (makeOne ms w) j) ?i1 ?i2 ?e1 (by lia) ?hb
    case i1 => walk_at "m_at"
    case i2 => walk_at "m_mem"
    case e1 =>
      show EvalTo _ _ _ _ [some (.obj k), some (.int (w : Nat)), some (.obj H.length), none, some (.obj H.length)] (H ++ [il (makeOne ms w)]) (.int ((ms.length * w : Nat) : Int)) (H ++ [il (makeOne ms w)])
      have hx' : (H ++ [il (makeOne ms w)])[k]? = some (il ms) := hp_old hx
      walk_at "m_i1"; exact (Int.natCast_mul _ _).symm
    case hb =>
      intro j hj
      have fj := f2 j hj
      cases j with
      | zero =>
        have hx' : (H ++ [il (makeOne ms w)])[k]? = some (il ms) := hp_old hx
        refine ⟨[some (.obj k), some (.int (w : Nat)), some (.obj H.length), some (.int ((0 : Nat) : Int)), some (.obj (H.length + 1))], ?_, .keep (.keep (.keep (.drop (.keep .nil))))⟩
        show ExecsTo _ _ _ _ _ [some (.obj k), some (.int (w : Nat)), some (.obj H.length), some (.int ((0 : Nat) : Int)), some (.obj H.length)] (H ++ [il (makeOne ms w)]) _ _ (H ++ [il (makeOne ms w)] ++ [il (dblL (makeOne ms w) ms w)])
        refine' exs_cons ?st exs_nil
        case st =>
          refine' ex_assign 4 ?i1 ?e1
          case i1 => walk_at "m_at"
          case e1 =>
            have e : (H ++ [il (makeOne ms w)]).length = H.length + 1 := by simp
            rw [← e]
            refine' ev_call ?c1 ?c2 ?c3 ?c4 rfl rfl rfl
            case c1 => walk_at "m_ev"
            case c2 => walk_at "m_args"
            case c3 => exact (doubled_rest_ok hC hp_last hx' fj.1 (by lia) hw (by lia) fj.2).le (Nat.le_of_ble_eq_true rfl)
            case c4 => exact keep_of hC rfl
      | succ j =>
        have hx' : (H ++ [il (makeOne ms w)] ++ [il (dblN ms w (makeOne ms w) (j + 1))])[k]? = some (il ms) := by rw [List.append_assoc]; exact hp_old hx
        have hl : (H ++ [il (makeOne ms w)]).length = H.length + 1 := by simp
        refine ⟨[some (.obj k), some (.int (w : Nat)), some (.obj H.length), some (.int ((j + 1 : Nat) : Int)), some (.obj (H.length + 1))], ?_, .keep (.keep (.keep (.drop (.keep .nil))))⟩
        show ExecsTo _ _ _ _ _ [some (.obj k), some (.int (w : Nat)), some (.obj H.length), some (.int ((j + 1 : Nat) : Int)), some (.obj (H.length + 1))] (H ++ [il (makeOne ms w)] ++ [il (dblN ms w (makeOne ms w) (j + 1))]) _ _ (H ++ [il (makeOne ms w)] ++ [il (dblL (dblN ms w (makeOne ms w) (j + 1)) ms w)])
        refine' exs_cons ?st exs_nil
        case st =>
          refine' Xm.more (m := H.length + 1) (Xm.pick [il (dblN ms w (makeOne ms w) (j + 1))] [] (ex_assign 4 ?i1 ?e1) ?hH hl (low.push_il _) rfl ?hf) (Nat.le_succ _)
          case i1 => walk_at "m_at"
          case e1 =>
            refine' ev_call ?c1 ?c2 ?c3 ?c4 rfl rfl rfl
            case c1 => walk_at "m_ev"
            case c2 => walk_at "m_args"
            case c3 =>
              rw [← hl]
              exact (doubled_rest_ok hC hp_last hx' fj.1 (by lia) hw (by lia) fj.2).le (Nat.le_of_ble_eq_true rfl)
            case c4 => exact keep_of hC rfl
          case hH => rfl
          case hf =>
            refine' .keep (.obj (lastσ_old (by rw [hl]; lia))) (.keep (.int _) (.keep (.obj (lastσ_old (by rw [hl]; lia))) (.keep (.int _) (.keep (.obj ?_) .nil))))
            have e : (H ++ [il (makeOne ms w)] ++ [il (dblN ms w (makeOne ms w) (j + 1))]).length = (H ++ [il (makeOne ms w)]).length + [il (dblN ms w (makeOne ms w) (j + 1))].length := List.length_append
            rw [← hl, e]; exact lastσ_new
  refine' runs_return ?rt
  case rt =>
    have hx' : (H ++ [il (makeOne ms w)] ++ [il (makeSq ms w)])[k]? = some (il ms) := by rw [List.append_assoc]; exact hp_old hx
    have hl : (H ++ [il (makeOne ms w)] ++ [il (makeSq ms w)]).length = H.length + 2 := by simp
    refine' ev_call (vs := [.obj k, .int (makeMinus ms w), .obj H.length, .obj (H.length + 1)]) ?c1 ?c2 ?c3 ?c4 rfl rfl rfl
    case c1 =>
      refine' ev_name_g ?q1
      case q1 => walk_at "m_mem"
    case c4 => exact keep_of hC rfl
    case c3 =>
      have := (montgomery_ok hC (H := H ++ [il (makeOne ms w)] ++ [il (makeSq ms w)]) (v₁ := .obj k) (v₂ := .int (makeMinus ms w)) (v₃ := .obj H.length) (v₄ := .obj (H.length + 1))).le (m := 8) (Nat.le_of_ble_eq_true rfl)
      rw [hl] at this
      exact this
    case c2 =>
      refine' args_cons' ?a1 (args_cons' ?a2 (args_cons' ?a3 (args_cons' ?a4 args_nil' rfl) rfl) rfl) rfl
      case a1 => walk_at "m_ev"
      case a2 =>
        refine' Sm.intEq (ev_bin (ev_neg ?n1) ?n2 (IOp.and _ _)) ?n3
        case n1 =>
          refine' ev_call (vs := [.int (ms.getD 0 0), .int (w : Nat)]) ?d1 ?d2 ?d3 ?d4 rfl rfl rfl
          case d1 => walk_at "m_ev"
          case d2 =>
            refine' args_cons' ?f1 (args_cons' ?f2 args_nil' rfl) rfl
            case f1 => walk_at "m_i1"; rfl
            case f2 => walk_at "m_ev"
          case d3 => exact (inverse_limb_ok hC hd ho hw').le (Nat.le_of_ble_eq_true rfl)
          case d4 => exact keep_of hC rfl
        case n2 => walk_at "m_ev"
        case n3 => unfold makeMinus; simp; rfl
      case a3 => walk_at "m_ev"
      case a4 => walk_at "m_ev"
theorem ev_cut_from_il {C : Cx} {n : Nat} {a : Act} {F : List (Option AV)} {H H₁ H' : List AO} {e t : Expr} {p pos : Pos} {h : Nat} {ns : List Int} {x : Nat} (he : EvalTo C n a e F H (.obj h) H₁) (hu : EvalTo C n a t F H₁ (.int x) H') (hx : H'[h]? = some (il ns))
    (ht : ∀ o r, letTemporaryGo e o r = pure () := by intro _ _; rfl) :
    EvalTo C n a (.Subscript e (.Slice (some t) none none p) pos) F H (.obj H'.length) (H' ++ [il (ns.drop x)]) := by
  have := ev_cut_from (p := p) (pos := pos) he hu hx ht
  rw [← List.map_drop] at this
  exact this
local macro_rules | `(tactic| walk_at "m_hp") => `(tactic| first | assumption | with_reducible exact hp_last | ((with_reducible refine' hp_old ?q); (case q => walk_at "m_hp")) | fail "m_hp")
local macro_rules | `(tactic| walk_at "m_kv") => `(tactic| first | with_reducible exact KV.here | ((with_reducible refine' KV.there ?q1 ?q2); (case q1 => rfl); (case q2 => walk_at "m_kv")) | fail "m_kv")
local macro_rules | `(tactic| walk_at "m_ev") => `(tactic| first
  | ((with_reducible refine' ev_attr (clsK ?q0) ?q1 ?q2 ?q3 ?q4 (noAttr ?q5 rfl) ?q6); (case q0 => assumption); (case q5 => assumption); (case q1 => walk_at "m_ev"); (case q2 => walk_at "m_hp"); (case q3 => walk_at "m_hp"); (case q4 => walk_at "m_kv"); (case q6 => nofun)) | fail "m_ev")
local macro_rules | `(tactic| walk_at "m_ev") => `(tactic| first
  | ((with_reducible refine' ev_cut_from_il ?q1 ?q2 ?q3 ?q6); (case q6 => intro _ _; rfl); (case q1 => walk_at "m_ev"); (case q2 => walk_at "m_ev"); (case q3 => walk_at "m_hp")) | fail "m_ev")
theorem ex_expr_none {C : Cx} {n m : Nat} {a : Act} {F : List (Option AV)} {H H₁ : List AO} {e : Expr} {pos : Pos} (h : EvalTo C n a e F H .none H₁) (hs : autoParam (swapsWith e none pos.line a.env = pure false) rflS) : ExecTo C n a m (.Expr e pos) F H .next F H₁ := fun A hA r s Q E st k =>
  wpAny_Expr (h.none hA st fun r₁ h₁ tk₁ x₁ st₁ => k _ _ _ _ x₁.toM .next st₁) (by unfold interactive; rw [st.ok.kind]; rfl) hs
noncomputable def propL (w : Nat) : Nat → List Int → Int → Nat → List Int × Int × Nat
  | 0, r, c, i => (r, c, i)
  | f + 1, r, c, i => if 0 < c then propL w f (r.set i (bitAnd (c + r.getD i 0) (2 ^ w - 1))) ((c + r.getD i 0) / 2 ^ w) (i + 1) else (r, c, i)
theorem propL_ge (w : Nat) : ∀ f r c i, i ≤ (propL w f r c i).2.2
  | 0, r, c, i => Nat.le_refl _
  | f + 1, r, c, i => by
    unfold propL
    split
    · exact Nat.le_trans (Nat.le_succ i) (propL_ge w f _ _ _)
    · exact Nat.le_refl _
theorem prp_of (w : Nat) : ∀ f r c i, (propL w f r c i).2.1 ≤ 0 → (propL w f r c i).2.2 ≤ r.length → Prp w r c i (propL w f r c i).1 (propL w f r c i).2.1 (propL w f r c i).2.2
  | 0, r, c, i, h1, h2 => .stop (by unfold propL at h1; simp at h1; lia)
  | f + 1, r, c, i, h1, h2 => by
    by_cases q : 0 < c
    · have e : propL w (f + 1) r c i = propL w f (r.set i (bitAnd (c + r.getD i 0) (2 ^ w - 1))) ((c + r.getD i 0) / 2 ^ w) (i + 1) := by
        rw [propL, if_pos q]
      rw [e] at h1 h2 ⊢
      have hge := propL_ge w f (r.set i (bitAnd (c + r.getD i 0) (2 ^ w - 1))) ((c + r.getD i 0) / 2 ^ w) (i + 1)
      exact .go q (by lia) (prp_of w f _ _ _ h1 (by rw [List.length_set]; exact h2))
    · have e : propL w (f + 1) r c i = (r, c, i) := by rw [propL, if_neg q]
      rw [e]
      exact .stop q
theorem propL_len (w : Nat) : ∀ f r c i, (propL w f r c i).1.length = r.length
  | 0, r, c, i => rfl
  | f + 1, r, c, i => by
    unfold propL
    split
    · rw [propL_len w f]; simp
    · rfl

noncomputable def rowP (rest ms : List Int) (limb : Int) (at' w : Nat) : List Int × Int × Nat := propL w (rest.length + 1) (rowF rest ms limb at' w ms.length).1 (rowF rest ms limb at' w ms.length).2 (at' + ms.length)
noncomputable def rowL (rest ms : List Int) (limb : Int) (at' w : Nat) : List Int := (rowP rest ms limb at' w).1
structure RowOk (rest ms : List Int) (limb : Int) (at' w : Nat) : Prop where
  c : (rowP rest ms limb at' w).2.1 ≤ 0
  i : (rowP rest ms limb at' w).2.2 ≤ rest.length
  l : limb.natAbs < 2 ^ 64
  r : at' + ms.length ≤ rest.length
theorem rowL_len (rest ms : List Int) (limb : Int) (at' w : Nat) : (rowL rest ms limb at' w).length = rest.length := by
  unfold rowL rowP
  rw [propL_len, rowF_len]
theorem add_row_ok' {C : Cx} (hC : PK C) {H : List AO} {h k : Nat} {rest ms : List Int} {limb : Int} {w at' : Nat} (hx : H[h]? = some (il rest)) (hy : H[k]? = some (il ms)) (hne : h ≠ k)
    (hb : Fine ms) (hw : w ≤ 60) (ok : RowOk rest ms limb at' w) :
    CallTo C 3 (.ref 142) [.obj h, .obj k, .int limb, .int (at' : Nat), .int (w : Nat)] H .none (H.set h (il (rowL rest ms limb at' w))) :=
  add_row_ok hC hx hy hne ok.r hb.2 ok.l hw (prp_of w _ _ _ _ ok.c (by rw [rowF_len]; exact ok.i))

noncomputable def redQ (r : List Int) (mi : Int) (w j : Nat) : Int := bitAnd (r.getD j 0 * mi) (2 ^ w - 1)
noncomputable def redF (as ms : List Int) (mi : Int) (w : Nat) : Nat → List Int
  | 0 => as ++ List.replicate (2 * ms.length + 1 - as.length) 0
  | j + 1 => rowL (redF as ms mi w j) ms (redQ (redF as ms mi w j) mi w j) j w
noncomputable def redL (as ms : List Int) (mi : Int) (w : Nat) : List Int := onceL (norm ((redF as ms mi w ms.length).drop ms.length)) ms w

structure RedOk (as ms : List Int) (mi : Int) (w : Nat) : Prop where
  fm : Fine ms
  m0 : 0 < ms.length
  m1 : ms.length < 100
  bm : mi.natAbs < 2 ^ 64
  ba : as.length ≤ 2 * ms.length + 1
  lt : cmpL as (List.replicate ms.length 0 ++ ms) < 0
  bw : w ≤ 60
  row : ∀ j, j < ms.length → RowOk (redF as ms mi w j) ms (redQ (redF as ms mi w j) mi w j) j w ∧ ((redF as ms mi w j).getD j 0).natAbs < 2 ^ 64
  len : (norm ((redF as ms mi w ms.length).drop ms.length)).length < 1000

structure IsTold (H : List AO) (t d k o q : Nat) (ms os qs : List Int) (mi : Int) : Prop where
  t : H[t]? = some (.inst 117 d)
  d : H[d]? = some (.ndict mNames [.obj k, .int mi, .obj o, .obj q])
  k : H[k]? = some (il ms)
  o : H[o]? = some (il os)
  q : H[q]? = some (il qs)

theorem redF_len (as ms : List Int) (mi : Int) (w : Nat) (h : as.length ≤ 2 * ms.length + 1) : ∀ j, (redF as ms mi w j).length = 2 * ms.length + 1
  | 0 => by simp [redF]; lia
  | j + 1 => by simp [redF, rowL_len, redF_len as ms mi w h j]

set_option maxHeartbeats 4000000 in
theorem redc_ok {C : Cx} (hC : PK C) {H : List AO} {h t d k o q : Nat} {as ms os qs : List Int} {mi : Int} {w : Nat} (hx : H[h]? = some (il as)) (T : IsTold H t d k o q ms os qs mi) (ok : RedOk as ms mi w) :
    CallTo C 9 (.ref 156) [.obj h, .obj t, .int (w : Nat)] H (.obj H.length) (H ++ [il (redL as ms mi w)]) := by
  refine' call_def hC ["a", "told", "w", "m", "size", "rest", "mask", "at"] [("len", .builtin "len"), ("range", .type "range"), ("compare", .ref 72), ("lifted", .ref 86), ("add_row", .ref 142), ("taken_once", .ref 149), ("normal", .ref 58)] (fun low L => ?_)
  change RunsTo _ _ _ _ _ [some (.obj h), some (.obj t), some (.int (w : Nat)), none, none, none, none, none] _ _ _
  have hT := T.t
  have hD := T.d
  have hK := T.k
  have lh := hp_lt hx
  have lt := hp_lt hT
  have lk := hp_lt hK
  have hw := ok.bw
  have hm0 := ok.m0
  have hm1 := ok.m1
  have ha := ok.ba
  refine' runs_cons (F₁ := [some (.obj h), some (.obj t), some (.int (w : Nat)), some (.obj k), none, none, none, none]) (H₁ := H) (ex_assign 3 ?i1 ?e1) ?_
  case i1 => walk_at "m_at"
  case e1 => walk_at "m_ev"
  refine' runs_cons (F₁ := [some (.obj h), some (.obj t), some (.int (w : Nat)), some (.obj k), some (.int (ms.length : Nat)), none, none, none]) (H₁ := H) (ex_assign 4 ?i1 ?e1) ?_
  case i1 => walk_at "m_at"
  case e1 => walk_at "m_ev"
  refine' runs_if_f (H₁ := H ++ [il (List.replicate ms.length 0 ++ ms)]) ?t1 ?_
  case t1 =>
    refine' Sm.testEq (test_cmp ?c1 ?c2 ?c3) ?c4
    case c1 =>
      refine' ev_call (vs := [.obj h, .obj H.length]) ?d1 ?d2 ?d3 ?d4 rfl rfl rfl
      case d1 => walk_at "m_ev"
      case d2 =>
        refine' args_cons' ?f1 (args_cons' ?f2 args_nil' rfl) rfl
        case f1 => walk_at "m_ev"
        case f2 =>
          refine' ev_call (vs := [.obj k, .int (ms.length : Nat)]) ?g1 ?g2 ?g3 ?g4 rfl rfl rfl
          case g1 => walk_at "m_ev"
          case g2 => walk_at "m_args"
          case g3 => exact (lifted_ok hC hK (by lia) (by lia) hm0).le (Nat.le_of_ble_eq_true rfl)
          case g4 => exact keep_of hC rfl
      case d3 => exact (compare_ok hC (hp_old hx) hp_last (by lia)).le (Nat.le_of_ble_eq_true rfl)
      case d4 => exact keep_of hC rfl
    case c2 => walk_at "m_ev"
    case c3 => walk_at "m_cop"
    case c4 => have := ok.lt; simp only [decide_eq_false_iff_not]; lia
  refine' runs_cons (F₁ := [some (.obj h), some (.obj t), some (.int (w : Nat)), some (.obj k), some (.int (ms.length : Nat)), some (.obj H.length), some (.int (2 ^ w - 1)), none]) (H₁ := H ++ [il (redF as ms mi w 0)]) ?st ?_
  case st =>
    refine' Xm.pick [il (List.replicate ms.length 0 ++ ms), il [0], il (List.replicate (2 * ms.length + 1 - as.length) 0)] [_] ?ex ?hH rfl low rfl ?hf
    case ex =>
      refine' ex_pair (v₁ := .obj (H.length + 3)) (v₂ := .int (2 ^ w - 1)) 5 6 ?i1 ?i2 ?e1 ?e2
      case i1 => walk_at "m_at"
      case i2 => walk_at "m_at"
      case e1 =>
        have e : (H ++ [il (List.replicate ms.length 0 ++ ms)] ++ [il [0]] ++ [il (List.replicate (2 * ms.length + 1 - as.length) 0)]).length = H.length + 3 := by simp
        rw [← e]
        refine' ev_cat_il ?q1 ?q2 ?q3 ?q4 ?q5
        case q1 => walk_at "m_ev"
        case q2 =>
          refine' ev_rep_il ?r1 ?r2 ?r3 ?r4
          case r1 =>
            refine' Sm.eqH (H' := H ++ [il (List.replicate ms.length 0 ++ ms)] ++ [il [0]]) ?z1 ?z2
            case z1 => walk_at "m_ev"
            case z2 => rfl
          case r2 => walk_at "m_i1"; lia
          case r3 => exact hp_last
          case r4 => lia
        case q3 => rw [List.append_assoc, List.append_assoc]; exact hp_old hx
        case q4 => exact hp_last
        case q5 => simp; lia
      case e2 => walk_at "m_i1"; (show _ = (2 : Int) ^ w - 1); simp
    case hH => simp [redF]; rfl
    case hf =>
      refine' .keep (.obj (lastσ_old lh)) (.keep (.obj (lastσ_old lt)) (.keep (.int _) (.keep (.obj (lastσ_old lk)) (.keep (.int _) (.keep (.obj ?_) (.keep (.int _) (.skip .nil)))))))
      exact lastσ_new
  refine' runs_cons (F₁ := [some (.obj h), some (.obj t), some (.int (w : Nat)), some (.obj k), some (.int (ms.length : Nat)), some (.obj H.length), some (.int (2 ^ w - 1)), none]) (H₁ := H ++ [il (redF as ms mi w ms.length)]) ?lp ?_
  case lp =>
    refine' ex_range 7 ms.length (fun j => [some (.obj h), some (.obj t), some (.int (w : Nat)), some (.obj k), some (.int (ms.length : Nat)), some (.obj H.length), some (.int (2 ^ w - 1)), none]) (fun j => H ++ [il (redF as ms mi w j)]) ?i1 ?i2 ?e1 (by lia) ?hb
    case i1 => walk_at "m_at"
    case i2 => walk_at "m_mem"
    case e1 => walk_at "m_ev"
    case hb =>
      intro j hj
      obtain ⟨rok, rb⟩ := ok.row j hj
      have hlen := redF_len as ms mi w ha j
      have hmi := ok.bm
      have hT' : (H ++ [il (redF as ms mi w j)])[t]? = some (.inst 117 d) := hp_old hT
      have hD' : (H ++ [il (redF as ms mi w j)])[d]? = some (.ndict mNames [.obj k, .int mi, .obj o, .obj q]) := hp_old hD
      refine ⟨[some (.obj h), some (.obj t), some (.int (w : Nat)), some (.obj k), some (.int (ms.length : Nat)), some (.obj H.length), some (.int (2 ^ w - 1)), some (.int (j : Nat))], ?_, .keep (.keep (.keep (.keep (.keep (.keep (.keep (.drop .nil)))))))⟩
      refine' exs_cons ?st exs_nil
      case st =>
        refine' Xm.eqH (ex_expr_none ?e1) ?hH
        case e1 =>
          refine' ev_call (vs := [.obj H.length, .obj k, .int (redQ (redF as ms mi w j) mi w j), .int (j : Nat), .int (w : Nat)]) ?c1 ?c2 ?c3 ?c4 rfl rfl rfl
          case c1 => walk_at "m_ev"
          case c2 =>
            refine' args_cons' ?f1 (args_cons' ?f2 (args_cons' ?f3 (args_cons' ?f4 (args_cons' ?f5 args_nil' rfl) rfl) rfl) rfl) rfl
            case f1 => walk_at "m_ev"
            case f2 => walk_at "m_ev"
            case f3 =>
              refine' Sm.intEq (ev_bin (x := (redF as ms mi w j).getD j 0 * mi) (ev_bin (x := (redF as ms mi w j).getD j 0) (y := mi) ?n1 ?n2 (IOp.mul _ _ ?n3 ?n4)) ?n5 (IOp.and _ _)) ?n6
              case n1 =>
                refine' Sm.intEq (ev_item_il (ns := redF as ms mi w j) (i := (j : Nat)) ?o1 ?o2 hp_last ?o4 ?o5) ?o6
                case o1 => walk_at "m_ev"
                case o2 => walk_at "m_ev"
                case o4 => lia
                case o5 => lia
                case o6 => rfl
              case n2 => walk_at "m_ev"
              case n3 => exact rb
              case n4 => exact hmi
              case n5 => walk_at "m_ev"
              case n6 => rfl
            case f4 => walk_at "m_ev"
            case f5 => walk_at "m_ev"
          case c3 => exact (add_row_ok' hC hp_last (hp_old hK) (by lia) ok.fm hw rok).le (Nat.le_of_ble_eq_true rfl)
          case c4 => exact keep_of hC rfl
        case hH => rw [hp_set_last]; rfl
  by_cases qc : 0 ≤ cmpL (norm ((redF as ms mi w ms.length).drop ms.length)) ms
  · refine' runs_keep [il (redF as ms mi w ms.length), il ((redF as ms mi w ms.length).drop ms.length), il (norm ((redF as ms mi w ms.length).drop ms.length))] (runs_return ?rt) ?hv ?hH rfl low rfl
    case rt =>
      refine' ev_call (vs := [.obj (H.length + 2), .obj k, .int (w : Nat)]) ?c1 ?c2 ?c3 ?c4 rfl rfl rfl
      case c1 => walk_at "m_ev"
      case c2 =>
        refine' args_cons' ?f1 (args_cons' ?f2 (args_cons' ?f3 args_nil' rfl) rfl) rfl
        case f1 =>
          have e : (H ++ [il (redF as ms mi w ms.length)] ++ [il ((redF as ms mi w ms.length).drop ms.length)]).length = H.length + 2 := by simp
          rw [← e]
          walk_at "m_ev"
        case f2 => walk_at "m_ev"
        case f3 => walk_at "m_ev"
      case c3 =>
        have e : (H ++ [il (redF as ms mi w ms.length)] ++ [il ((redF as ms mi w ms.length).drop ms.length)]).length = H.length + 2 := by simp
        rw [← e]
        exact (taken_once_sub hC hp_last (hp_old (hp_old (hp_old hK))) ok.len (by lia) hw qc).le (Nat.le_of_ble_eq_true rfl)
      case c4 => exact keep_of hC rfl
    case hv => simp
    case hH => simp [redL]
  · have eL : redL as ms mi w = norm ((redF as ms mi w ms.length).drop ms.length) := by unfold redL onceL; rw [if_neg qc]
    rw [eL]
    refine' runs_keep [il (redF as ms mi w ms.length), il ((redF as ms mi w ms.length).drop ms.length)] (runs_return ?rt) ?hv ?hH rfl low rfl
    case rt =>
      refine' ev_call (vs := [.obj (H.length + 2), .obj k, .int (w : Nat)]) ?c1 ?c2 ?c3 ?c4 rfl rfl rfl
      case c1 => walk_at "m_ev"
      case c2 =>
        refine' args_cons' ?f1 (args_cons' ?f2 (args_cons' ?f3 args_nil' rfl) rfl) rfl
        case f1 =>
          have e : (H ++ [il (redF as ms mi w ms.length)] ++ [il ((redF as ms mi w ms.length).drop ms.length)]).length = H.length + 2 := by simp
          rw [← e]
          walk_at "m_ev"
        case f2 => walk_at "m_ev"
        case f3 => walk_at "m_ev"
      case c3 =>
        have e : (H ++ [il (redF as ms mi w ms.length)] ++ [il ((redF as ms mi w ms.length).drop ms.length)]).length = H.length + 2 := by simp
        rw [← e]
        exact (taken_once_same hC hp_last (hp_old (hp_old (hp_old hK))) ok.len (by lia) qc).le (Nat.le_of_ble_eq_true rfl)
      case c4 => exact keep_of hC rfl
    case hv => simp
    case hH => simp

noncomputable def schoolF (as bs : List Int) (w : Nat) : Nat → List Int
  | 0 => List.replicate (as.length + bs.length) 0
  | j + 1 => (rowF (schoolF as bs w j) bs (as.getD j 0) j w bs.length).1.set (j + bs.length) (rowF (schoolF as bs w j) bs (as.getD j 0) j w bs.length).2
noncomputable def schoolL (as bs : List Int) (w : Nat) : List Int := norm (schoolF as bs w as.length)
theorem schoolF_len (as bs : List Int) (w : Nat) : ∀ j, (schoolF as bs w j).length = as.length + bs.length
  | 0 => by simp [schoolF]
  | j + 1 => by simp [schoolF, rowF_len, schoolF_len as bs w j]

set_option maxHeartbeats 4000000 in
theorem mul_school_ok {C : Cx} (hC : PK C) {H : List AO} {h k : Nat} {as bs : List Int} {w : Nat} (hx : H[h]? = some (il as)) (hy : H[k]? = some (il bs)) (fa : Fine as) (fb : Fine bs) (hw : w ≤ 60) :
    CallTo C 6 (.ref 191) [.obj h, .obj k, .int (w : Nat)] H (.obj H.length) (H ++ [il (schoolL as bs w)]) := by
  refine' call_def hC ["a", "b", "w", "found", "mask", "at", "limb", "carry", "spot", "other"] [("len", .builtin "len"), ("enumerate", .type "enumerate"), ("normal", .ref 58)] (fun low L => ?_)
  change RunsTo _ _ _ _ _ [some (.obj h), some (.obj k), some (.int (w : Nat)), none, none, none, none, none, none, none] _ _ _
  have lh := hp_lt hx
  have lk := hp_lt hy
  have la := fa.1
  have lb := fb.1
  refine' runs_cons (F₁ := [some (.obj h), some (.obj k), some (.int (w : Nat)), some (.obj H.length), some (.int (2 ^ w - 1)), none, none, none, none, none]) (H₁ := H ++ [il (schoolF as bs w 0)]) ?st ?_
  case st =>
    refine' Xm.pick [il [0]] [_] ?ex ?hH rfl low rfl ?hf
    case ex =>
      refine' ex_pair (v₁ := .obj (H.length + 1)) (v₂ := .int (2 ^ w - 1)) 3 4 ?i1 ?i2 ?e1 ?e2
      case i1 => walk_at "m_at"
      case i2 => walk_at "m_at"
      case e1 =>
        have e : (H ++ [il [0]]).length = H.length + 1 := by simp
        rw [← e]
        refine' ev_rep_il (z := 0) (k := as.length + bs.length) ?r1 ?r2 hp_last ?r4
        case r1 =>
          refine' Sm.eqH (H' := H ++ [il [0]]) ?z1 ?z2
          case z1 => walk_at "m_ev"
          case z2 => rfl
        case r2 => walk_at "m_i1"; lia
        case r4 => lia
      case e2 => walk_at "m_i1"; (show _ = (2 : Int) ^ w - 1); simp
    case hH => simp [schoolF]; rfl
    case hf =>
      refine' .keep (.obj (lastσ_old lh)) (.keep (.obj (lastσ_old lk)) (.keep (.int _) (.keep (.obj ?_) (.keep (.int _) (.skip (.skip (.skip (.skip (.skip .nil)))))))))
      exact lastσ_new
  refine' runs_cons (F₁ := [some (.obj h), some (.obj k), some (.int (w : Nat)), some (.obj H.length), some (.int (2 ^ w - 1)), none, none, none, none, none]) (H₁ := H ++ [il (schoolF as bs w as.length)]) ?lp ?_
  case lp =>
    refine' ex_enum 5 6 as (fun j => [some (.obj h), some (.obj k), some (.int (w : Nat)), some (.obj H.length), some (.int (2 ^ w - 1)), none, none, none, none, none]) (fun j => H ++ [il (schoolF as bs w j)]) lh ?i1 ?i2 ?i3 ?e1 (fun j _ => hp_old hx) ?hb
    case i1 => walk_at "m_at"
    case i2 => walk_at "m_at"
    case i3 => walk_at "m_mem"
    case e1 => walk_at "m_ev"
    case hb =>
      intro j hj
      have hja := fa.2 j hj
      have hlen := schoolF_len as bs w j
      have hlr := rowF_len (schoolF as bs w j) bs (as.getD j 0) j w
      have hy' : (H ++ [il (schoolF as bs w j)])[k]? = some (il bs) := hp_old hy
      refine ⟨[some (.obj h), some (.obj k), some (.int (w : Nat)), some (.obj H.length), some (.int (2 ^ w - 1)), some (.int (j : Nat)), some (.int (as.getD j 0)), some (.int (rowF (schoolF as bs w j) bs (as.getD j 0) j w bs.length).2), none, none], ?_, .keep (.keep (.keep (.keep (.keep (.drop (.drop (.drop (.keep (.keep .nil)))))))))⟩
      refine' exs_cons (F₁ := [some (.obj h), some (.obj k), some (.int (w : Nat)), some (.obj H.length), some (.int (2 ^ w - 1)), some (.int (j : Nat)), some (.int (as.getD j 0)), some (.int 0), none, none]) (H₁ := H ++ [il (schoolF as bs w j)]) (ex_assign 7 ?i1 ?e1) ?_
      case i1 => walk_at "m_at"
      case e1 => walk_at "m_ev"
      refine' exs_cons (F₁ := [some (.obj h), some (.obj k), some (.int (w : Nat)), some (.obj H.length), some (.int (2 ^ w - 1)), some (.int (j : Nat)), some (.int (as.getD j 0)), some (.int (rowF (schoolF as bs w j) bs (as.getD j 0) j w bs.length).2), none, none]) (H₁ := H ++ [il (rowF (schoolF as bs w j) bs (as.getD j 0) j w bs.length).1]) ?lp ?_
      case lp =>
        refine' ex_enum 8 9 bs (fun i => [some (.obj h), some (.obj k), some (.int (w : Nat)), some (.obj H.length), some (.int (2 ^ w - 1)), some (.int (j : Nat)), some (.int (as.getD j 0)), some (.int (rowF (schoolF as bs w j) bs (as.getD j 0) j w i).2), none, none]) (fun i => H ++ [il (rowF (schoolF as bs w j) bs (as.getD j 0) j w i).1]) lk ?i1 ?i2 ?i3 ?e1 (fun i _ => hp_old hy) ?hb
        case i1 => walk_at "m_at"
        case i2 => walk_at "m_at"
        case i3 => walk_at "m_mem"
        case e1 => walk_at "m_ev"
        case hb =>
          intro i hi
          have hib := fb.2 i hi
          have hlri := hlr i
          have hlt : ((j + i : Nat) : Int) < ((rowF (schoolF as bs w j) bs (as.getD j 0) j w i).1.length : Nat) := by rw [hlri, hlen]; lia
          refine ⟨[some (.obj h), some (.obj k), some (.int (w : Nat)), some (.obj H.length), some (.int (2 ^ w - 1)), some (.int (j : Nat)), some (.int (as.getD j 0)), some (.int (rowF (schoolF as bs w j) bs (as.getD j 0) j w (i + 1)).2), some (.int (i : Nat)), some (.int (bs.getD i 0))], ?_, .keep (.keep (.keep (.keep (.keep (.keep (.keep (.keep (.drop (.drop .nil)))))))))⟩
          refine' exs_cons (ex_aug 7 ?i1 rfl ?e1 (z := (rowF (schoolF as bs w j) bs (as.getD j 0) j w i).1.getD (j + i) 0 + bs.getD i 0 * as.getD j 0) (IOp.add _ _)) ?_
          case i1 => walk_at "m_at"
          case e1 =>
            refine' Sm.intEq (ev_bin (x := (rowF (schoolF as bs w j) bs (as.getD j 0) j w i).1.getD (j + i) 0) ?n1 ?n2 (IOp.add _ _)) ?n3
            case n1 =>
              refine' Sm.intEq (ev_item_il (ns := (rowF (schoolF as bs w j) bs (as.getD j 0) j w i).1) (i := ((j + i : Nat) : Int)) ?o1 ?o2 hp_last ?o4 hlt) ?o6
              case o1 => walk_at "m_ev"
              case o2 => walk_at "m_i1"; lia
              case o4 => lia
              case o6 => rfl
            case n2 => walk_at "m_ev"
            case n3 => rw [Int.mul_comm]
          refine' exs_cons (ex_setitem_il (i := ((j + i : Nat) : Int)) ?e1 ?e2 ?e3 hp_last ?h0 hlt) ?_
          case e1 => walk_at "m_ev"
          case e2 => walk_at "m_ev"
          case e3 => walk_at "m_i1"; lia
          case h0 => exact Int.natCast_nonneg _
          refine' exs_cons (ex_aug 7 ?i1 rfl ?e1 (z := (w : Nat)) (w := (rowF (schoolF as bs w j) bs (as.getD j 0) j w (i + 1)).2) ?o1) ?_
          case i1 => walk_at "m_at"
          case e1 => walk_at "m_ev"
          case o1 => exact IOp.shr _ _ (by lia)
          rw [hp_set_last]
          exact exs_nil
      refine' exs_cons (Xm.eqH (ex_setitem_il (i := ((j + bs.length : Nat) : Int)) ?e1 ?e2 ?e3 hp_last ?h0 ?h1) ?hH) exs_nil
      case e1 => walk_at "m_ev"
      case e2 => walk_at "m_ev"
      case e3 =>
        have hy'' : (H ++ [il (rowF (schoolF as bs w j) bs (as.getD j 0) j w bs.length).1])[k]? = some (il bs) := hp_old hy
        walk_at "m_i1"; lia
      case h0 => exact Int.natCast_nonneg _
      case h1 => rw [hlr, hlen]; lia
      case hH => rw [hp_set_last]; rfl
  refine' runs_keep [il (schoolF as bs w as.length)] (runs_return ?rt) ?hv ?hH rfl low rfl
  case rt => walk_at "m_ev"
  case hv => simp
  case hH => simp [schoolL]

theorem IsTold.old {H : List AO} {t d k o q : Nat} {ms os qs : List Int} {mi : Int} (T : IsTold H t d k o q ms os qs mi) (u : List AO) : IsTold (H ++ u) t d k o q ms os qs mi :=
  ⟨hp_old T.t, hp_old T.d, hp_old T.k, hp_old T.o, hp_old T.q⟩

set_option maxHeartbeats 1000000 in
theorem from_mont_ok {C : Cx} (hC : PK C) {H : List AO} {h t d k o q : Nat} {as ms os qs : List Int} {mi : Int} {w : Nat} (hx : H[h]? = some (il as)) (T : IsTold H t d k o q ms os qs mi) (ok : RedOk as ms mi w) :
    CallTo C 10 (.ref 170) [.obj h, .obj t, .int (w : Nat)] H (.obj H.length) (H ++ [il (redL as ms mi w)]) := by
  refine' call_def hC ["a", "told", "w"] [("redc", .ref 156)] (fun low L => ?_)
  change RunsTo _ _ _ _ _ [some (.obj h), some (.obj t), some (.int (w : Nat))] _ _ _
  refine' runs_return (ev_call (vs := [.obj h, .obj t, .int (w : Nat)]) ?c1 ?c2 ?c3 ?c4 rfl rfl rfl)
  case c1 => walk_at "m_ev"
  case c2 => walk_at "m_args"
  case c3 => exact redc_ok hC hx T ok
  case c4 => exact keep_of hC rfl

set_option maxHeartbeats 1000000 in
theorem mont_mul_ok {C : Cx} (hC : PK C) {H : List AO} {h h' t d k o q : Nat} {as bs ms os qs : List Int} {mi : Int} {w : Nat} (hx : H[h]? = some (il as)) (hy : H[h']? = some (il bs)) (fa : Fine as) (fb : Fine bs) (T : IsTold H t d k o q ms os qs mi) (ok : RedOk (schoolL as bs w) ms mi w) :
    CallTo C 10 (.ref 177) [.obj h, .obj h', .obj t, .int (w : Nat), .val (.ref 191)] H (.obj H.length) (H ++ [il (redL (schoolL as bs w) ms mi w)]) := by
  refine' call_def hC ["a", "b", "told", "w", "mul"] [("redc", .ref 156)] (fun low L => ?_)
  change RunsTo _ _ _ _ _ [some (.obj h), some (.obj h'), some (.obj t), some (.int (w : Nat)), some (.val (.ref 191))] _ _ _
  refine' runs_keep [il (schoolL as bs w)] (runs_return (ev_call (vs := [.obj H.length, .obj t, .int (w : Nat)]) ?c1 ?c2 ?c3 ?c4 rfl rfl rfl)) ?hv ?hH rfl low rfl
  case c1 => walk_at "m_ev"
  case c2 =>
    refine' args_cons' ?f1 (args_cons' ?f2 (args_cons' ?f3 args_nil' rfl) rfl) rfl
    case f1 =>
      refine' ev_call (vs := [.obj h, .obj h', .int (w : Nat)]) ?d1 ?d2 ?d3 ?d4 rfl rfl rfl
      case d1 => walk_at "m_ev"
      case d2 => walk_at "m_args"
      case d3 => exact (mul_school_ok hC hx hy fa fb ok.bw).le (Nat.le_of_ble_eq_true rfl)
      case d4 => exact keep_of hC rfl
    case f2 => walk_at "m_ev"
    case f3 => walk_at "m_ev"
  case c3 => exact redc_ok hC hp_last (T.old _) ok
  case c4 => exact keep_of hC rfl
  case hv => simp
  case hH => simp

set_option maxHeartbeats 1000000 in
theorem to_mont_ok {C : Cx} (hC : PK C) {H : List AO} {h t d k o q : Nat} {as ms os qs : List Int} {mi : Int} {w : Nat} (hx : H[h]? = some (il as)) (fa : Fine as) (fq : Fine qs) (hlt : cmpL as ms < 0) (T : IsTold H t d k o q ms os qs mi) (ok : RedOk (schoolL as qs w) ms mi w) :
    CallTo C 10 (.ref 163) [.obj h, .obj t, .int (w : Nat), .val (.ref 191)] H (.obj H.length) (H ++ [il (redL (schoolL as qs w) ms mi w)]) := by
  refine' call_def hC ["a", "told", "w", "mul"] [("redc", .ref 156), ("compare", .ref 72)] (fun low L => ?_)
  change RunsTo _ _ _ _ _ [some (.obj h), some (.obj t), some (.int (w : Nat)), some (.val (.ref 191))] _ _ _
  have hT := T.t
  have hD := T.d
  have hK := T.k
  have hQ := T.q
  have ln := fa.1
  refine' runs_if_f (H₁ := H) ?t1 ?_
  case t1 =>
    refine' Sm.testEq (test_cmp ?c1 ?c2 ?c3) ?c4
    case c1 =>
      refine' ev_call (vs := [.obj h, .obj k]) ?d1 ?d2 ?d3 ?d4 rfl rfl rfl
      case d1 => walk_at "m_ev"
      case d2 =>
        refine' args_cons' ?f1 (args_cons' ?f2 args_nil' rfl) rfl
        case f1 => walk_at "m_ev"
        case f2 => walk_at "m_ev"
      case d3 => exact (compare_ok hC hx hK (by lia)).le (Nat.le_of_ble_eq_true rfl)
      case d4 => exact keep_of hC rfl
    case c2 => walk_at "m_ev"
    case c3 => walk_at "m_cop"
    case c4 => simp only [decide_eq_false_iff_not]; lia
  refine' runs_keep [il (schoolL as qs w)] (runs_return (ev_call (vs := [.obj H.length, .obj t, .int (w : Nat)]) ?c1 ?c2 ?c3 ?c4 rfl rfl rfl)) ?hv ?hH rfl low rfl
  case c1 => walk_at "m_ev"
  case c2 =>
    refine' args_cons' ?f1 (args_cons' ?f2 (args_cons' ?f3 args_nil' rfl) rfl) rfl
    case f1 =>
      refine' ev_call (vs := [.obj h, .obj q, .int (w : Nat)]) ?d1 ?d2 ?d3 ?d4 rfl rfl rfl
      case d1 => walk_at "m_ev"
      case d2 =>
        refine' args_cons' ?g1 (args_cons' ?g2 (args_cons' ?g3 args_nil' rfl) rfl) rfl
        case g1 => walk_at "m_ev"
        case g2 => walk_at "m_ev"
        case g3 => walk_at "m_ev"
      case d3 => exact (mul_school_ok hC hx hQ fa fq ok.bw).le (Nat.le_of_ble_eq_true rfl)
      case d4 => exact keep_of hC rfl
    case f2 => walk_at "m_ev"
    case f3 => walk_at "m_ev"
  case c3 => exact redc_ok hC hp_last (T.old _) ok
  case c4 => exact keep_of hC rfl
  case hv => simp
  case hH => simp

noncomputable def rowsA (as bs ms : List Int) (mi : Int) (w j : Nat) (r : List Int) : List Int := rowL r bs (as.getD j 0) 0 w
noncomputable def rowsS (as bs ms : List Int) (mi : Int) (w j : Nat) (r : List Int) : List Int := (rowL (rowsA as bs ms mi w j r) ms (redQ (rowsA as bs ms mi w j r) mi w 0) 0 w).drop 1 ++ [0]
noncomputable def rowsF (as bs ms : List Int) (mi : Int) (w : Nat) : Nat → List Int
  | 0 => List.replicate (ms.length + 2) 0
  | j + 1 => rowsS as bs ms mi w j (rowsF as bs ms mi w j)
noncomputable def rowsL (as bs ms : List Int) (mi : Int) (w : Nat) : List Int := onceL (norm (rowsF as bs ms mi w ms.length)) ms w
structure RowsOk (as bs ms : List Int) (mi : Int) (w : Nat) : Prop where
  fb : Fine bs
  fm : Fine ms
  m0 : 0 < ms.length
  m1 : ms.length < 100
  bm : mi.natAbs < 2 ^ 64
  bw : w ≤ 60
  row : ∀ j, j < ms.length → RowOk (rowsF as bs ms mi w j) bs (as.getD j 0) 0 w ∧ RowOk (rowsA as bs ms mi w j (rowsF as bs ms mi w j)) ms (redQ (rowsA as bs ms mi w j (rowsF as bs ms mi w j)) mi w 0) 0 w ∧ ((rowsA as bs ms mi w j (rowsF as bs ms mi w j)).getD 0 0).natAbs < 2 ^ 64
  len : (norm (rowsF as bs ms mi w ms.length)).length < 1000
theorem rowsA_len (as bs ms : List Int) (mi : Int) (w j : Nat) (r : List Int) : (rowsA as bs ms mi w j r).length = r.length := rowL_len _ _ _ _ _
theorem rowsF_len (as bs ms : List Int) (mi : Int) (w : Nat) : ∀ j, (rowsF as bs ms mi w j).length = ms.length + 2
  | 0 => by simp [rowsF]
  | j + 1 => by simp [rowsF, rowsS, rowL_len, rowsA_len, rowsF_len as bs ms mi w j]

set_option maxHeartbeats 4000000 in
theorem mont_rows_ok {C : Cx} (hC : PK C) {H : List AO} {h h' t d k o q : Nat} {as bs ms os qs : List Int} {mi : Int} {w : Nat} (hx : H[h]? = some (il as)) (hy : H[h']? = some (il bs)) (T : IsTold H t d k o q ms os qs mi) (ok : RowsOk as bs ms mi w) :
    CallTo C 9 (.ref 184) [.obj h, .obj h', .obj t, .int (w : Nat)] H (.obj H.length) (H ++ [il (rowsL as bs ms mi w)]) := by
  refine' call_def hC ["a", "b", "told", "w", "m", "size", "mask", "rest", "at"] [("len", .builtin "len"), ("range", .type "range"), ("add_row", .ref 142), ("taken_once", .ref 149), ("normal", .ref 58)] (fun low L => ?_)
  change RunsTo _ _ _ _ _ [some (.obj h), some (.obj h'), some (.obj t), some (.int (w : Nat)), none, none, none, none, none] _ _ _
  have hT := T.t
  have hD := T.d
  have hK := T.k
  have lh := hp_lt hx
  have lh' := hp_lt hy
  have lt := hp_lt hT
  have lk := hp_lt hK
  have hw := ok.bw
  have hm0 := ok.m0
  have hm1 := ok.m1
  have hmi := ok.bm
  refine' runs_cons (F₁ := [some (.obj h), some (.obj h'), some (.obj t), some (.int (w : Nat)), some (.obj k), none, none, none, none]) (H₁ := H) (ex_assign 4 ?i1 ?e1) ?_
  case i1 => walk_at "m_at"
  case e1 => walk_at "m_ev"
  refine' runs_cons (F₁ := [some (.obj h), some (.obj h'), some (.obj t), some (.int (w : Nat)), some (.obj k), some (.int (ms.length : Nat)), some (.int (2 ^ w - 1)), none, none]) (H₁ := H) ?st ?_
  case st =>
    refine' Xm.drop [_] ?ex ?hH rfl low rfl ?hf
    case ex =>
      refine' ex_pair (v₁ := .int (ms.length : Nat)) (v₂ := .int (2 ^ w - 1)) 5 6 ?i1 ?i2 ?e1 ?e2
      case i1 => walk_at "m_at"
      case i2 => walk_at "m_at"
      case e1 => walk_at "m_ev"
      case e2 => walk_at "m_i1"; (show _ = (2 : Int) ^ w - 1); simp
    case hH => rfl
    case hf => exact .keep (.obj (dropσ_old lh)) (.keep (.obj (dropσ_old lh')) (.keep (.obj (dropσ_old lt)) (.keep (.int _) (.keep (.obj (dropσ_old lk)) (.keep (.int _) (.keep (.int _) (.skip (.skip .nil))))))))
  refine' runs_cons (F₁ := [some (.obj h), some (.obj h'), some (.obj t), some (.int (w : Nat)), some (.obj k), some (.int (ms.length : Nat)), some (.int (2 ^ w - 1)), some (.obj H.length), none]) (H₁ := H ++ [il (rowsF as bs ms mi w 0)]) ?st ?_
  case st =>
    refine' Xm.pick [il [0]] [] ?ex ?hH rfl low rfl ?hf
    case ex =>
      refine' ex_assign (v := .obj (H.length + 1)) 7 ?i1 ?e1
      case i1 => walk_at "m_at"
      case e1 =>
        have e : (H ++ [il [0]]).length = H.length + 1 := by simp
        rw [← e]
        refine' ev_rep_il (z := 0) (k := ms.length + 2) ?r1 ?r2 hp_last ?r4
        case r1 =>
          refine' Sm.eqH (H' := H ++ [il [0]]) ?z1 ?z2
          case z1 => walk_at "m_ev"
          case z2 => rfl
        case r2 => walk_at "m_i1"; lia
        case r4 => lia
    case hH => rfl
    case hf =>
      refine' .keep (.obj (lastσ_old lh)) (.keep (.obj (lastσ_old lh')) (.keep (.obj (lastσ_old lt)) (.keep (.int _) (.keep (.obj (lastσ_old lk)) (.keep (.int _) (.keep (.int _) (.keep (.obj ?_) (.skip .nil))))))))
      exact lastσ_new
  refine' runs_cons (F₁ := [some (.obj h), some (.obj h'), some (.obj t), some (.int (w : Nat)), some (.obj k), some (.int (ms.length : Nat)), some (.int (2 ^ w - 1)), some (.obj H.length), none]) (H₁ := H ++ [il (rowsF as bs ms mi w ms.length)]) ?lp ?_
  case lp =>
    refine' ex_range 8 ms.length (fun j => [some (.obj h), some (.obj h'), some (.obj t), some (.int (w : Nat)), some (.obj k), some (.int (ms.length : Nat)), some (.int (2 ^ w - 1)), some (.obj H.length), none]) (fun j => H ++ [il (rowsF as bs ms mi w j)]) ?i1 ?i2 ?e1 (by lia) ?hb
    case i1 => walk_at "m_at"
    case i2 => walk_at "m_mem"
    case e1 => walk_at "m_ev"
    case hb =>
      intro j hj
      obtain ⟨rok, rok', rb⟩ := ok.row j hj
      have hlen := rowsF_len as bs ms mi w j
      have hlA := rowsA_len as bs ms mi w j (rowsF as bs ms mi w j)
      generalize hr : rowsF as bs ms mi w j = r at rok rok' rb hlen hlA
      generalize hrA : rowsA as bs ms mi w j r = rA at rok' rb hlA
      refine ⟨[some (.obj h), some (.obj h'), some (.obj t), some (.int (w : Nat)), some (.obj k), some (.int (ms.length : Nat)), some (.int (2 ^ w - 1)), some (.obj H.length), some (.int (j : Nat))], ?_, .keep (.keep (.keep (.keep (.keep (.keep (.keep (.keep (.drop .nil))))))))⟩
      have hs : rowsF as bs ms mi w (j + 1) = (rowL rA ms (redQ rA mi w 0) 0 w).drop 1 ++ [0] := by
        show rowsS as bs ms mi w j (rowsF as bs ms mi w j) = _
        unfold rowsS
        rw [hr, hrA]
      show ExecsTo _ _ _ _ _ _ (H ++ [il r]) _ _ (H ++ [il (rowsF as bs ms mi w (j + 1))])
      rw [hs]
      refine' exs_cons (F₁ := [some (.obj h), some (.obj h'), some (.obj t), some (.int (w : Nat)), some (.obj k), some (.int (ms.length : Nat)), some (.int (2 ^ w - 1)), some (.obj H.length), some (.int (j : Nat))]) (H₁ := H ++ [il rA]) ?st1 ?_
      case st1 =>
        refine' Xm.eqH (ex_expr_none ?e1) ?hH
        case e1 =>
          refine' ev_call (vs := [.obj H.length, .obj h', .int (as.getD j 0), .int ((0 : Nat) : Int), .int (w : Nat)]) ?c1 ?c2 ?c3 ?c4 rfl rfl rfl
          case c1 => walk_at "m_ev"
          case c2 =>
            refine' args_cons' ?f1 (args_cons' ?f2 (args_cons' ?f3 (args_cons' ?f4 (args_cons' ?f5 args_nil' rfl) rfl) rfl) rfl) rfl
            case f1 => walk_at "m_ev"
            case f2 => walk_at "m_ev"
            case f3 =>
              by_cases q : j < as.length
              · walk_at "m_i1"; rfl
              · have e : as.getD j 0 = 0 := by simp [List.getD, List.getElem?_eq_none (Nat.not_lt.mp q)]
                rw [e]; walk_at "m_i1"; rfl
            case f4 => walk_at "m_i1"; rfl
            case f5 => walk_at "m_ev"
          case c3 => exact (add_row_ok' hC hp_last (hp_old hy) (by lia) ok.fb hw rok).le (Nat.le_of_ble_eq_true rfl)
          case c4 => exact keep_of hC rfl
        case hH => rw [hp_set_last, ← hrA]; rfl
      refine' exs_cons (F₁ := [some (.obj h), some (.obj h'), some (.obj t), some (.int (w : Nat)), some (.obj k), some (.int (ms.length : Nat)), some (.int (2 ^ w - 1)), some (.obj H.length), some (.int (j : Nat))]) (H₁ := H ++ [il (rowL rA ms (redQ rA mi w 0) 0 w)]) ?st1 ?_
      case st1 =>
        have hT' : (H ++ [il rA])[t]? = some (.inst 117 d) := hp_old hT
        have hD' : (H ++ [il rA])[d]? = some (.ndict mNames [.obj k, .int mi, .obj o, .obj q]) := hp_old hD
        refine' Xm.eqH (ex_expr_none ?e1) ?hH
        case e1 =>
          refine' ev_call (vs := [.obj H.length, .obj k, .int (redQ rA mi w 0), .int ((0 : Nat) : Int), .int (w : Nat)]) ?c1 ?c2 ?c3 ?c4 rfl rfl rfl
          case c1 => walk_at "m_ev"
          case c2 =>
            refine' args_cons' ?f1 (args_cons' ?f2 (args_cons' ?f3 (args_cons' ?f4 (args_cons' ?f5 args_nil' rfl) rfl) rfl) rfl) rfl
            case f1 => walk_at "m_ev"
            case f2 => walk_at "m_ev"
            case f3 =>
              refine' Sm.intEq (ev_bin (x := rA.getD 0 0 * mi) (ev_bin (x := rA.getD 0 0) (y := mi) ?n1 ?n2 (IOp.mul _ _ ?n3 ?n4)) ?n5 (IOp.and _ _)) ?n6
              case n1 =>
                refine' Sm.intEq (ev_item_il (ns := rA) (i := 0) ?o1 ?o2 hp_last ?o4 ?o5) ?o6
                case o1 => walk_at "m_ev"
                case o2 => walk_at "m_ev"
                case o4 => lia
                case o5 => lia
                case o6 => rfl
              case n2 => walk_at "m_ev"
              case n3 => exact rb
              case n4 => exact hmi
              case n5 => walk_at "m_ev"
              case n6 => rfl
            case f4 => walk_at "m_i1"; rfl
            case f5 => walk_at "m_ev"
          case c3 => exact (add_row_ok' hC hp_last (hp_old hK) (by lia) ok.fm hw rok').le (Nat.le_of_ble_eq_true rfl)
          case c4 => exact keep_of hC rfl
        case hH => rw [hp_set_last]
      refine' exs_cons ?st2 exs_nil
      case st2 =>
        refine' Xm.pick [il (rowL rA ms (redQ rA mi w 0) 0 w), il ((rowL rA ms (redQ rA mi w 0) 0 w).drop 1), il [0]] [] (ex_assign (v := .obj (H.length + 3)) 7 ?i1 ?e1) ?hH rfl low rfl ?hf
        case i1 => walk_at "m_at"
        case e1 =>
          have e : (H ++ [il (rowL rA ms (redQ rA mi w 0) 0 w)] ++ [il ((rowL rA ms (redQ rA mi w 0) 0 w).drop 1)] ++ [il [0]]).length = H.length + 3 := by simp
          rw [← e]
          refine' ev_cat_il (xs := (rowL rA ms (redQ rA mi w 0) 0 w).drop 1) (ys := [0]) ?q1 ?q2 ?q3 hp_last ?q5
          case q1 =>
            refine' ev_cut_from_il (x := 1) ?u1 ?u2 hp_last
            case u1 => walk_at "m_ev"
            case u2 => exact ev_int
          case q2 =>
            refine' Sm.eqH (H' := H ++ [il (rowL rA ms (redQ rA mi w 0) 0 w)] ++ [il ((rowL rA ms (redQ rA mi w 0) 0 w).drop 1)] ++ [il [0]]) ?z1 ?z2
            case z1 => walk_at "m_ev"
            case z2 => rfl
          case q3 => exact hp_old hp_last
          case q5 => simp [rowL_len]; lia
        case hH => simp
        case hf =>
          refine' .keep (.obj (lastσ_old lh)) (.keep (.obj (lastσ_old lh')) (.keep (.obj (lastσ_old lt)) (.keep (.int _) (.keep (.obj (lastσ_old lk)) (.keep (.int _) (.keep (.int _) (.keep (.obj ?_) (.keep (.int _) .nil))))))))
          exact lastσ_new
  by_cases qc : 0 ≤ cmpL (norm (rowsF as bs ms mi w ms.length)) ms
  · refine' runs_keep [il (rowsF as bs ms mi w ms.length), il (norm (rowsF as bs ms mi w ms.length))] (runs_return ?rt) ?hv ?hH rfl low rfl
    case rt =>
      refine' ev_call (vs := [.obj (H.length + 1), .obj k, .int (w : Nat)]) ?c1 ?c2 ?c3 ?c4 rfl rfl rfl
      case c1 => walk_at "m_ev"
      case c2 =>
        refine' args_cons' ?f1 (args_cons' ?f2 (args_cons' ?f3 args_nil' rfl) rfl) rfl
        case f1 =>
          have e : (H ++ [il (rowsF as bs ms mi w ms.length)]).length = H.length + 1 := by simp
          rw [← e]
          walk_at "m_ev"
        case f2 => walk_at "m_ev"
        case f3 => walk_at "m_ev"
      case c3 =>
        have e : (H ++ [il (rowsF as bs ms mi w ms.length)]).length = H.length + 1 := by simp
        rw [← e]
        exact (taken_once_sub hC hp_last (hp_old (hp_old hK)) ok.len (by lia) hw qc).le (Nat.le_of_ble_eq_true rfl)
      case c4 => exact keep_of hC rfl
    case hv => simp
    case hH => simp [rowsL]
  · have eL : rowsL as bs ms mi w = norm (rowsF as bs ms mi w ms.length) := by unfold rowsL onceL; rw [if_neg qc]
    rw [eL]
    refine' runs_keep [il (rowsF as bs ms mi w ms.length)] (runs_return ?rt) ?hv ?hH rfl low rfl
    case rt =>
      refine' ev_call (vs := [.obj (H.length + 1), .obj k, .int (w : Nat)]) ?c1 ?c2 ?c3 ?c4 rfl rfl rfl
      case c1 => walk_at "m_ev"
      case c2 =>
        refine' args_cons' ?f1 (args_cons' ?f2 (args_cons' ?f3 args_nil' rfl) rfl) rfl
        case f1 =>
          have e : (H ++ [il (rowsF as bs ms mi w ms.length)]).length = H.length + 1 := by simp
          rw [← e]
          walk_at "m_ev"
        case f2 => walk_at "m_ev"
        case f3 => walk_at "m_ev"
      case c3 =>
        have e : (H ++ [il (rowsF as bs ms mi w ms.length)]).length = H.length + 1 := by simp
        rw [← e]
        exact (taken_once_same hC hp_last (hp_old (hp_old hK)) ok.len (by lia) qc).le (Nat.le_of_ble_eq_true rfl)
      case c4 => exact keep_of hC rfl
    case hv => simp
    case hH => simp

local macro_rules | `(tactic| walk_at "m_in") => `(tactic| first | exact List.Mem.head _ | exact List.Mem.tail _ (List.Mem.head _) | (refine' List.Mem.tail _ ?q; (case q => walk_at "m_in")) | fail "m_in")
local macro_rules | `(tactic| walk_at "m_ev") => `(tactic| first
  | ((with_reducible refine' ev_cell _ ?q1 ?q2); (case q1 => walk_at "m_in"); (case q2 => walk_at "m_hp")) | fail "m_ev")
noncomputable def rolledV (ds : List Int) (k : Nat) (many : Int) : Int := if k + 1 ≤ ds.length then ds.getD k 0 % many else (5 * ((k + 1 : Nat) : Int) + ((k + 1 : Nat) : Int) / 4 + 2) % many
@[reducible] noncomputable def cupO (k dl : Nat) : AO := .list [.int (k : Nat), .obj dl]

set_option maxHeartbeats 1000000 in
theorem rolled_ok {C : Cx} (hC : PK C) {H : List AO} {c dl k : Nat} {ds : List Int} {many : Int} (hx : H[c]? = some (cupO k dl)) (hd : H[dl]? = some (il ds)) (hne : c ≠ dl) (hm : 0 < many) (hk : k < 1000000) :
    CallTo C 3 (.ref 198) [.obj c, .int many] H (.int (rolledV ds k many)) (H.set c (cupO (k + 1) dl)) := by
  refine' call_def hC ["cup", "many"] [("len", .builtin "len")] (fun low L => ?_)
  change RunsTo _ _ _ _ _ [some (.obj c), some (.int many)] _ _ _
  refine' runs_cons (F₁ := [some (.obj c), some (.int many)]) (H₁ := H.set c (cupO (k + 1) dl)) ?st ?_
  case st =>
    refine' Xm.eqH (ex_setitem (v := .int ((k + 1 : Nat) : Int)) (i := 0) ?e1 ?e2 ?e3 hx ?h0 ?h1) ?hH
    case e1 =>
      refine' ev_bin (x := (k : Nat)) (y := 1) ?n1 ?n2 ?n3
      case n1 =>
        refine' ev_item (i := 0) ?o1 ?o2 hx ?o4 rfl
        case o1 => walk_at "m_ev"
        case o2 => walk_at "m_ev"
        case o4 => lia
      case n2 => walk_at "m_ev"
      case n3 => exact IOp.add _ _
    case e2 => walk_at "m_ev"
    case e3 => walk_at "m_ev"
    case h0 => lia
    case h1 => (show (0 : Int) < ((2 : Nat) : Int)); decide
    case hH => rfl
  have hx' : (H.set c (cupO (k + 1) dl))[c]? = some (cupO (k + 1) dl) := hp_same hx
  have hd' : (H.set c (cupO (k + 1) dl))[dl]? = some (il ds) := hp_ne hne hd
  have item0 : ∀ {a : Act} {n : Nat} {F : List (Option AV)} {e j : Expr} {pos : Pos}, EvalTo C n a e F (H.set c (cupO (k + 1) dl)) (.obj c) (H.set c (cupO (k + 1) dl)) → EvalTo C n a j F (H.set c (cupO (k + 1) dl)) (.int 0) (H.set c (cupO (k + 1) dl)) → (∀ o k, subscripted j false o k = operate [o, k] (getItem o k)) →
      EvalTo C n a (.Subscript e j pos) F (H.set c (cupO (k + 1) dl)) (.int ((k + 1 : Nat) : Int)) (H.set c (cupO (k + 1) dl)) := fun h1 h2 h3 => ev_item h1 h2 hx' (by lia) rfl h3
  have item1 : ∀ {a : Act} {n : Nat} {F : List (Option AV)} {e j : Expr} {pos : Pos}, EvalTo C n a e F (H.set c (cupO (k + 1) dl)) (.obj c) (H.set c (cupO (k + 1) dl)) → EvalTo C n a j F (H.set c (cupO (k + 1) dl)) (.int 1) (H.set c (cupO (k + 1) dl)) → (∀ o k, subscripted j false o k = operate [o, k] (getItem o k)) →
      EvalTo C n a (.Subscript e j pos) F (H.set c (cupO (k + 1) dl)) (.obj dl) (H.set c (cupO (k + 1) dl)) := fun h1 h2 h3 => ev_item h1 h2 hx' (by lia) rfl h3
  by_cases q : k + 1 ≤ ds.length
  · have e : rolledV ds k many = ds.getD k 0 % many := by unfold rolledV; rw [if_pos q]
    rw [e]
    refine' runs_if_t (H₁ := H.set c (cupO (k + 1) dl)) ?t1 (exs_ret (ex_return ?rt))
    case t1 =>
      refine' Sm.testEq (test_cmp (x := ((k + 1 : Nat) : Int)) (y := (ds.length : Nat)) ?c1 ?c2 (COp.le _ _)) ?c4
      case c1 =>
        refine' item0 ?o1 ?o2 ?o3
        case o3 => intro _ _; rfl
        case o1 => walk_at "m_ev"
        case o2 => walk_at "m_ev"
      case c2 =>
        refine' ev_call_builtin (vs := [.obj dl]) ?d1 ?d2 ?d3 rfl rfl rfl
        case d1 => walk_at "m_ev"
        case d2 =>
          refine' args_cons' ?f1 args_nil' rfl
          case f1 =>
            refine' item1 ?o1 ?o2 ?o3
            case o3 => intro _ _; rfl
            case o1 => walk_at "m_ev"
            case o2 => walk_at "m_ev"
        case d3 => exact len_call_il hd'
      case c4 => simp only [decide_eq_true_eq]; lia
    case rt =>
      refine' ev_bin (x := ds.getD k 0) (y := many) ?n1 ?n2 (IOp.mod _ _ hm)
      case n1 =>
        refine' Sm.intEq (ev_item_il (ns := ds) (i := ((k + 1 : Nat) : Int) - 1) ?o1 ?o2 hd' ?o4 ?o5) ?o6
        case o1 =>
          refine' item1 ?u1 ?u2 ?u3
          case u3 => intro _ _; rfl
          case u1 => walk_at "m_ev"
          case u2 => walk_at "m_ev"
        case o2 =>
          refine' ev_bin (x := ((k + 1 : Nat) : Int)) (y := 1) ?v1 ?v2 (IOp.sub _ _)
          case v1 =>
            refine' item0 ?u1 ?u2 ?u3
            case u3 => intro _ _; rfl
            case u1 => walk_at "m_ev"
            case u2 => walk_at "m_ev"
          case v2 => walk_at "m_ev"
        case o4 => lia
        case o5 => lia
        case o6 => congr 1; lia
      case n2 => walk_at "m_ev"
  · have e : rolledV ds k many = (5 * ((k + 1 : Nat) : Int) + ((k + 1 : Nat) : Int) / 4 + 2) % many := by unfold rolledV; rw [if_neg q]
    rw [e]
    refine' runs_if_f (H₁ := H.set c (cupO (k + 1) dl)) ?t1 (runs_return ?rt)
    case t1 =>
      refine' Sm.testEq (test_cmp (x := ((k + 1 : Nat) : Int)) (y := (ds.length : Nat)) ?c1 ?c2 (COp.le _ _)) ?c4
      case c1 =>
        refine' item0 ?o1 ?o2 ?o3
        case o3 => intro _ _; rfl
        case o1 => walk_at "m_ev"
        case o2 => walk_at "m_ev"
      case c2 =>
        refine' ev_call_builtin (vs := [.obj dl]) ?d1 ?d2 ?d3 rfl rfl rfl
        case d1 => walk_at "m_ev"
        case d2 =>
          refine' args_cons' ?f1 args_nil' rfl
          case f1 =>
            refine' item1 ?o1 ?o2 ?o3
            case o3 => intro _ _; rfl
            case o1 => walk_at "m_ev"
            case o2 => walk_at "m_ev"
        case d3 => exact len_call_il hd'
      case c4 => simp only [decide_eq_false_iff_not]; lia
    case rt =>
      refine' ev_bin (x := 5 * ((k + 1 : Nat) : Int) + ((k + 1 : Nat) : Int) / 4 + 2) (y := many) ?n1 ?n2 (IOp.mod _ _ hm)
      case n2 => walk_at "m_ev"
      case n1 =>
        refine' ev_bin (x := 5 * ((k + 1 : Nat) : Int) + ((k + 1 : Nat) : Int) / 4) (y := 2) (ev_bin (x := 5 * ((k + 1 : Nat) : Int)) (y := ((k + 1 : Nat) : Int) / 4) (ev_bin (x := 5) (y := ((k + 1 : Nat) : Int)) ?v1 ?v2 (IOp.mul _ _ ?v3 ?v4)) (ev_bin (x := ((k + 1 : Nat) : Int)) (y := 4) ?w1 ?w2 (IOp.div _ _ ?w3 ?w4)) (IOp.add _ _)) ?v5 (IOp.add _ _)
        case v1 => walk_at "m_ev"
        case v2 =>
          refine' item0 ?u1 ?u2 ?u3
          case u3 => intro _ _; rfl
          case u1 => walk_at "m_ev"
          case u2 => walk_at "m_ev"
        case v3 => lia
        case v4 => lia
        case w1 =>
          refine' item0 ?u1 ?u2 ?u3
          case u3 => intro _ _; rfl
          case u1 => walk_at "m_ev"
          case u2 => walk_at "m_ev"
        case w2 => walk_at "m_ev"
        case w3 => lia
        case w4 => lia
        case v5 => walk_at "m_ev"

noncomputable def limbsF (w : Nat) : Nat → Int → List Int
  | 0, _ => []
  | f + 1, x => if 0 < x then x % 2 ^ w :: limbsF w f (x / 2 ^ w) else []
noncomputable def limbsE (w : Nat) : Nat → Int → Int
  | 0, x => x
  | f + 1, x => if 0 < x then limbsE w f (x / 2 ^ w) else x
noncomputable def limbs (w : Nat) (x : Int) : List Int := limbsF w x.toNat x
theorem limbsF_len (w : Nat) : ∀ f x, (limbsF w f x).length ≤ f
  | 0, _ => Nat.le_refl _
  | f + 1, x => by
    unfold limbsF
    split
    · have := limbsF_len w f (x / 2 ^ w); simp; lia
    · simp

theorem while_limbs {C : Cx} {n m : Nat} {a : Act} {H : List AO} {w : Nat} (h1 : 1 ≤ w) {c : Expr} {body : List Stmt} (S : Int → List (Option AV))
    (ht : ∀ x ns, 0 < x → TestTo C n a c (S x) (H ++ [il ns]) true (H ++ [il ns]))
    (hf : ∀ x ns, ¬ 0 < x → TestTo C n a c (S x) (H ++ [il ns]) false (H ++ [il ns]))
    (turn : ∀ x ns, 0 < x → ns.length < 4096 → ExecsTo C n a m body (S x) (H ++ [il ns]) .next (S (x / 2 ^ w)) (H ++ [il (ns ++ [x % 2 ^ w])])) :
    ∀ f x ns, x.toNat ≤ f → ns.length + f < 4096 → WhileTo C n a m c body (S x) (H ++ [il ns]) .next (S (limbsE w f x)) (H ++ [il (ns ++ limbsF w f x)])
  | 0, x, ns, hx, hl => by
    have e : ns ++ limbsF w 0 x = ns := by simp [limbsF]
    rw [e]
    exact .stop (hf _ _ (by lia))
  | f + 1, x, ns, hx, hl => by
    by_cases q : 0 < x
    · have e : ns ++ limbsF w (f + 1) x = (ns ++ [x % 2 ^ w]) ++ limbsF w f (x / 2 ^ w) := by rw [limbsF, if_pos q]; simp
      have e' : limbsE w (f + 1) x = limbsE w f (x / 2 ^ w) := by rw [limbsE, if_pos q]
      rw [e, e']
      have hlt : x / 2 ^ w < x := by
        have h2 : (2 : Int) ≤ 2 ^ w := by
          have : (2 : Nat) ^ 1 ≤ 2 ^ w := Nat.pow_le_pow_right (by decide) h1
          exact_mod_cast this
        have h3 := Int.mul_le_mul_of_nonneg_left h2 (show (0 : Int) ≤ x by lia)
        exact Int.ediv_lt_of_lt_mul (by lia) (by lia)
      exact .turn (ht _ _ q) (turn _ _ q (by lia)) (while_limbs h1 S ht hf turn f _ _ (by lia) (by simp; lia))
    · have e : ns ++ limbsF w (f + 1) x = ns := by rw [limbsF, if_neg q]; simp
      have e' : limbsE w (f + 1) x = x := by rw [limbsE, if_neg q]
      rw [e, e']
      exact .stop (hf _ _ q)

set_option maxHeartbeats 1000000 in
theorem law_limbs_ok {C : Cx} (hC : PK C) {H : List AO} {x : Int} {w : Nat} (h1 : 1 ≤ w) (hw : w ≤ 12) (hx : x < 4000) :
    CallTo C 3 (.ref 205) [.int x, .int (w : Nat)] H (.obj H.length) (H ++ [il (limbs w x)]) := by
  refine' call_def hC ["number", "w", "found"] [] (fun low L => ?_)
  change RunsTo _ _ _ _ _ [some (.int x), some (.int (w : Nat)), none] _ _ _
  have hp := @pow_pos2 w
  have hp' := pow_le12 hw
  refine' runs_cons (F₁ := [some (.int x), some (.int (w : Nat)), some (.obj H.length)]) (H₁ := H ++ [il []]) ?st ?_
  case st =>
    refine' Xm.eqH (ex_assign 2 ?i1 ?e1) ?hH
    case i1 => walk_at "m_at"
    case e1 => walk_at "m_ev"
    case hH => rfl
  refine' runs_cons (F₁ := [some (.int (limbsE w x.toNat x)), some (.int (w : Nat)), some (.obj H.length)]) (H₁ := H ++ [il (limbs w x)]) (ex_while ?go) (runs_return ?rt)
  case rt => walk_at "m_ev"
  case go =>
    have e : limbs w x = [] ++ limbsF w x.toNat x := by simp [limbs]
    rw [e]
    refine' while_limbs h1 (fun x => [some (.int x), some (.int (w : Nat)), some (.obj H.length)]) ?ht ?hf ?turn x.toNat x [] (Nat.le_refl _) ?hl
    case ht => intro x ns hs; walk_at "m_tb"
    case hf => intro x ns hs; walk_at "m_tb"
    case hl => simp; lia
    case turn =>
      intro x ns hs hl
      refine' exs_cons (ex_append_il ?o1 ?e1 hl) (exs_cons (ex_assign 0 ?i2 (v := .int (x / 2 ^ w)) ?e2) exs_nil)
      case o1 => walk_at "m_ev"
      case e1 =>
        refine' ev_bin (x := x) (y := 2 ^ w) ?n1 ?n2 (IOp.mod _ _ hp)
        case n1 => walk_at "m_ev"
        case n2 => walk_at "m_i1"; simp
      case i2 => walk_at "m_at"
      case e2 =>
        refine' ev_bin (x := x) (y := 2 ^ w) ?n1 ?n2 (IOp.div _ _ hp ?n3)
        case n1 => walk_at "m_ev"
        case n2 => walk_at "m_i1"; simp
        case n3 => lia

noncomputable def gcdF : Nat → Int → Int → Int
  | 0, a, _ => a
  | f + 1, a, b => if 0 < b then gcdF f b (a % b) else a
noncomputable def gcdE : Nat → Int → Int → Int
  | 0, _, b => b
  | f + 1, a, b => if 0 < b then gcdE f b (a % b) else b
theorem while_gcd {C : Cx} {n m : Nat} {a : Act} {H : List AO} {c : Expr} {body : List Stmt} (S : Int → Int → List (Option AV))
    (ht : ∀ x y, 0 < y → TestTo C n a c (S x y) H true H) (hf : ∀ x y, ¬ 0 < y → TestTo C n a c (S x y) H false H)
    (turn : ∀ x y, 0 < y → ExecsTo C n a m body (S x y) H .next (S y (x % y)) H) :
    ∀ f x y, y.toNat ≤ f → WhileTo C n a m c body (S x y) H .next (S (gcdF f x y) (gcdE f x y)) H
  | 0, x, y, h => .stop (hf _ _ (by lia))
  | f + 1, x, y, h => by
    by_cases q : 0 < y
    · have e : gcdF (f + 1) x y = gcdF f y (x % y) := by rw [gcdF, if_pos q]
      have e' : gcdE (f + 1) x y = gcdE f y (x % y) := by rw [gcdE, if_pos q]
      rw [e, e']
      have := Int.emod_lt_of_pos x q
      have := Int.emod_nonneg x (Int.ne_of_gt q)
      exact .turn (ht _ _ q) (turn _ _ q) (while_gcd S ht hf turn f _ _ (by lia))
    · have e : gcdF (f + 1) x y = x := by rw [gcdF, if_neg q]
      have e' : gcdE (f + 1) x y = y := by rw [gcdE, if_neg q]
      rw [e, e']
      exact .stop (hf _ _ q)

noncomputable def gcdL (x y : Int) : Int := gcdF y.toNat x y
set_option maxHeartbeats 1000000 in
theorem law_divisor_ok {C : Cx} (hC : PK C) {H : List AO} {x y : Int} : CallTo C 3 (.ref 217) [.int x, .int y] H (.int (gcdL x y)) H := by
  refine' call_def hC ["one", "other"] [] (fun low L => ?_)
  change RunsTo _ _ _ _ _ [some (.int x), some (.int y)] _ _ _
  refine' runs_cons (F₁ := [some (.int (gcdF y.toNat x y)), some (.int (gcdE y.toNat x y))]) (H₁ := H) (ex_while ?go) (runs_return ?rt)
  case rt => walk_at "m_ev"
  case go =>
    refine' while_gcd (fun x y => [some (.int x), some (.int y)]) ?ht ?hf ?turn y.toNat x y (Nat.le_refl _)
    case ht => intro x y hs; walk_at "m_tb"
    case hf => intro x y hs; walk_at "m_tb"
    case turn =>
      intro x y hs
      refine' exs_cons ?st exs_nil
      case st =>
        refine' Xm.drop [_] ?ex ?hH rfl low rfl ?hf
        case ex =>
          refine' ex_pair (v₁ := .int y) (v₂ := .int (x % y)) 0 1 ?i1 ?i2 ?e1 ?e2
          case i1 => walk_at "m_at"
          case i2 => walk_at "m_at"
          case e1 => walk_at "m_ev"
          case e2 => walk_at "m_ev"
        case hH => rfl
        case hf => exact .keep (.int _) (.keep (.int _) .nil)

noncomputable def numT (w : Nat) (ns : List Int) : Nat → List Int
  | 0 => []
  | k + 1 => numT w ns k ++ [ns.getD k 0 * 2 ^ (w * k)]
theorem numT_len (w : Nat) (ns : List Int) : ∀ k, (numT w ns k).length = k
  | 0 => rfl
  | k + 1 => by simp [numT, numT_len w ns k]
noncomputable def numL (w : Nat) (ns : List Int) : Int := (numT w ns ns.length).sum

theorem comp_all {C : Cx} {n m : Nat} {b : Act} {ifs : List Expr} {elt : Expr} {d : Nat} {Inv : List AO → Prop} (gs : List (List (Option AV) → List (Option AV))) (S : Nat → List (Option AV)) (Hs : Nat → List AO) (hI : ∀ j, j ≤ gs.length → Inv (Hs j))
    (hb : ∀ j g, gs[j]? = some g → CompTurn C n b m ifs elt d (g (S j)) (Hs j) (S (j + 1)) (Hs (j + 1))) : CompTo C n b m ifs elt d Inv gs (S 0) (Hs 0) (S gs.length) (Hs gs.length) := by
  induction gs generalizing S Hs with
  | nil => exact .nil (hI 0 (Nat.le_refl _))
  | cons g gs ih =>
    refine .step (hI 0 (Nat.zero_le _)) (hb 0 g rfl) ?_
    exact ih (fun j => S (j + 1)) (fun j => Hs (j + 1)) (fun j hj => hI (j + 1) (Nat.succ_le_succ hj)) fun j g hg => hb (j + 1) g (by simpa using hg)
theorem CompTurn.eqH {C : Cx} {n m : Nat} {b : Act} {ifs : List Expr} {elt : Expr} {d : Nat} {F F' : List (Option AV)} {H H₁ H' : List AO} (h : CompTurn C n b m ifs elt d F H F' H₁) (e : H₁ = H') : CompTurn C n b m ifs elt d F H F' H' := e ▸ h

theorem gl_of {C : Cx} (hC : PK C) {G : List (Str × Value)} (h : G.all (fun p => GT.contains p) = true) : ∀ p ∈ G, C.mg p.1 = some p.2 ∨ (C.mg p.1 = none ∧ C.mb p.1 = some p.2) := fun p hp =>
  hC.gl p (List.contains_iff_mem.mp (List.all_eq_true.mp h p hp))

theorem call_def_cell {C : Cx} (hC : PK C) {n : Nat} {H H' : List AO} {f : Addr} {name qual : Str} {params : Arguments} {body : List Stmt} {scope : Scope} {dV kV doc pm cdv ct oc : Value} {an od : Option Addr} {osl : Array (Option Value)} (T : List Str) (G : List (Str × Value)) (p c : Str) {v₁ v₂ v : AV}
    (run : Low (H ++ [.cell (some v₂)]) → ∀ L, RunsTo C n { env := envX qual scope L f cdv [(c, L + 1)], T := T, G := G, ch := [(c, H.length)] } (H.length + 1) body (some v₁ :: List.replicate (T.length - 1) none) (H ++ [.cell (some v₂)]) v H')
    (hl : autoParam ((KK C.w.params).lookup f = some ⟨oc, od, .func (fnX name qual params body scope [] dV kV doc pm an cdv ct), osl⟩) exactS) (hcd : autoParam (codeIn (KK C.w.params) cdv qual = true) exactS)
    (hb : autoParam (∀ u₁ u₂ : Value, bindArgs (fnX name qual params body scope [] dV kV doc pm an cdv ct) ⟨[u₁, u₂], []⟩ = pure [(p, u₁), (c, u₂)]) intro2S)
    (hcs : autoParam (∀ L, cellsFrom L scope.names [] = [(c, L)]) introS) (hT0 : autoParam (T[0]? = some p) exactS)
    (ok : scTest scope T G [c] .cell = true := by decide +kernel) :
    CallTo C (n + 1) (.ref f) [v₁, v₂] H v H' :=
  call_enter_cell (by rw [hC.k]; exact hl) (by rw [hC.k]; exact hcd) hb hcs hT0 (hC.sc ok (.inl rfl)) run

section
variable {C : Cx} {n m : Nat} {b : Act} {ifs : List Expr} {elt : Expr} {d : Nat}
theorem comp_enum_all {i k q : Nat} (ns : List Int) (S : Nat → List (Option AV)) (Hs : Nat → List AO) (hI : ∀ j, j ≤ ns.length → (Hs j)[q]? = some (il ns))
    (hb : ∀ j, j < ns.length → CompTurn C n b m ifs elt d (((S j).set i (some (.int (j : Nat)))).set k (some (.int (ns.getD j 0)))) (Hs j) (S (j + 1)) (Hs (j + 1))) :
    CompTo C n b m ifs elt d (fun H => H[q]? = some (il ns)) (enumBinds i k (ns.map .int)) (S 0) (Hs 0) (S ns.length) (Hs ns.length) := by
  have hl : (enumBinds i k (ns.map .int)).length = ns.length := by simp [enumBinds]
  have := comp_all (C := C) (n := n) (m := m) (b := b) (ifs := ifs) (elt := elt) (d := d) (Inv := fun H => H[q]? = some (il ns)) (enumBinds i k (ns.map .int)) S Hs (fun j hj => hI j (hl ▸ hj)) fun j g hg => by
    obtain ⟨hj, rfl⟩ := enumBinds_get' hg
    exact hb j hj
  rwa [hl] at this
theorem comp_list_all {i q : Nat} (ns : List Int) (S : Nat → List (Option AV)) (Hs : Nat → List AO) (hI : ∀ j, j ≤ ns.length → (Hs j)[q]? = some (il ns))
    (hb : ∀ j, j < ns.length → CompTurn C n b m ifs elt d ((S j).set i (some (.int (ns.getD j 0)))) (Hs j) (S (j + 1)) (Hs (j + 1))) :
    CompTo C n b m ifs elt d (fun H => H[q]? = some (il ns)) (listBinds i (ns.map .int)) (S 0) (Hs 0) (S ns.length) (Hs ns.length) := by
  have hl : (listBinds i (ns.map .int)).length = ns.length := by simp [listBinds]
  have := comp_all (C := C) (n := n) (m := m) (b := b) (ifs := ifs) (elt := elt) (d := d) (Inv := fun H => H[q]? = some (il ns)) (listBinds i (ns.map .int)) S Hs (fun j hj => hI j (hl ▸ hj)) fun j g hg => by
    obtain ⟨hj, rfl⟩ := listBinds_get' hg
    exact hb j hj
  rwa [hl] at this
theorem comp_range_all {i : Nat} (N : Nat) (S : Nat → List (Option AV)) (Hs : Nat → List AO)
    (hb : ∀ j, j < N → CompTurn C n b m ifs elt d ((S j).set i (some (.int (j : Nat)))) (Hs j) (S (j + 1)) (Hs (j + 1))) :
    CompTo C n b m ifs elt d (fun _ => True) (rangeBinds i 0 1 N) (S 0) (Hs 0) (S N) (Hs N) := by
  have := comp_all (C := C) (n := n) (m := m) (b := b) (ifs := ifs) (elt := elt) (d := d) (Inv := fun _ => True) (rangeBinds i 0 1 N) S Hs (fun _ _ => trivial) fun j g hg => by
    obtain ⟨hj, rfl⟩ := rangeBinds_get' hg
    have e : (0 : Int) + (j : Nat) * 1 = (j : Nat) := by lia
    rw [e]
    exact hb j hj
  rwa [rangeBinds_len] at this
end

set_option maxHeartbeats 1000000 in
theorem law_number_ok {C : Cx} (hC : PK C) {H : List AO} {h : Nat} {ns : List Int} {w : Nat} (hx : H[h]? = some (il ns)) (hb : ∀ j, j < ns.length → (ns.getD j 0).natAbs < 2 ^ 64) (hw : w * ns.length ≤ 60) (hw' : w ≤ 60) (hn : ns.length < 1000) :
    CallTo C 4 (.ref 210) [.obj h, .int (w : Nat)] H (.int (numL w ns)) H := by
  refine' CallTo.drop (t := [AO.cell (some (.int (w : Nat))), il (numT w ns ns.length)]) ?cc (.int _)
  refine' call_def_cell hC ["row"] [("sum", .builtin "sum"), ("enumerate", .type "enumerate")] "row" "w" (fun low L => ?_)
  change RunsTo _ _ _ _ _ [some (.obj h)] _ _ _
  have lh := hp_lt hx
  have hx' : (H ++ [AO.cell (some (.int (w : Nat)))])[h]? = some (il ns) := hp_old hx
  have e1 : (H ++ [AO.cell (some (.int (w : Nat)))]).length = H.length + 1 := by simp
  have e2 : H ++ [AO.cell (some (.int (w : Nat))), il (numT w ns ns.length)] = H ++ [AO.cell (some (.int (w : Nat)))] ++ [il (numT w ns ns.length)] := by simp
  rw [e2]
  refine' runs_return (ev_call_builtin (vs := [.obj (H.length + 1)]) ?c1 ?c2 ?c3 rfl rfl rfl)
  case c1 => walk_at "m_ev"
  case c2 =>
    refine' args_cons' ?f1 args_nil' rfl
    case f1 =>
      rw [← e1]
      refine' ev_comp_enum (xs := ns.map .int) (F' := [none, none]) [("w", L + 1)] ["at", "limb"] [] [("w", H.length)] 0 1 ?i1 ?i2 ?i3 ?e1 hx' rfl rfl (fun _ h => nomatch h) rfl ?hch ?LC
      case i1 => walk_at "m_at"
      case i2 => walk_at "m_at"
      case i3 => walk_at "m_mem"
      case e1 => walk_at "m_ev"
      case hch => intro p hp; cases List.mem_singleton.mp hp; exact ⟨.head _, rfl⟩
      case LC =>
        intro L'
        refine' comp_enum_all ns (fun _ => [none, none]) (fun j => H ++ [AO.cell (some (.int (w : Nat)))] ++ [il (numT w ns j)]) (fun j _ => hp_old hx') ?hb
        intro j hj
        have hbj := hb j hj
        have hwj : w * j ≤ 60 := Nat.le_trans (Nat.mul_le_mul_left w (Nat.le_of_lt hj)) hw
        have hpw : ((2 : Int) ^ (w * j)).natAbs < 2 ^ 64 := by
          have : (2 : Nat) ^ (w * j) ≤ 2 ^ 60 := Nat.pow_le_pow_right (by decide) hwj
          rw [Int.natAbs_pow]
          exact Nat.lt_of_le_of_lt this (by decide)
        have hcl : (H ++ [AO.cell (some (.int (w : Nat)))])[H.length]? = some (.cell (some (.int (w : Nat)))) := hp_last
        refine' CompTurn.eqH (CompTurn.plain (xs := (numT w ns j).map .int) (v := .int (ns.getD j 0 * 2 ^ (w * j))) (H₀ := H ++ [AO.cell (some (.int (w : Nat)))] ++ [il (numT w ns j)]) ⟨rfl, rfl⟩ ?he hp_last ?hz (.drop (.drop .nil))) ?hH
        case he =>
          refine' ev_bin (x := ns.getD j 0) (y := 2 ^ (w * j)) ?n1 ?n2 (IOp.mul _ _ hbj hpw)
          case n1 => walk_at "m_ev"
          case n2 =>
            refine' Sm.intEq (ev_bin (x := 2) (y := ((w * j : Nat) : Int)) ?p1 ?p2 (IOp.pow _ _ ?p3 ?p4 ?p5)) ?p6
            case p1 => walk_at "m_ev"
            case p2 =>
              refine' Sm.intEq (ev_bin (x := (w : Nat)) (y := (j : Nat)) ?q1 ?q2 (IOp.mul _ _ ?q3 ?q4)) ?q5
              case q1 => walk_at "m_ev"
              case q2 => walk_at "m_ev"
              case q3 => lia
              case q4 => lia
              case q5 => exact (Int.natCast_mul _ _).symm
            case p3 => decide
            case p4 => lia
            case p5 => lia
            case p6 => rfl
        case hz => rw [List.length_map, numT_len]; lia
        case hH => rw [hp_set_last]; simp [il, numT]
  case c3 =>
    rw [← e1]
    exact sum_call hp_last

noncomputable def lawBody (K : Frag) : List Stmt := match K.lookup 222 with
  | some ⟨_, _, .func fd, _⟩ => (match fd.body with | .stmts b => b | _ => [])
  | _ => []
noncomputable def IsForm (K : Frag) (q : Str) (S : FnS) : Prop := ∃ pos, (lawBody K)[4]? = some (.FunctionDef S.name S.params S.body [] none [] S.scope none S.name pos) ∧ S.qual = q

noncomputable def cloOk (scope : Scope) (T : List Str) (G : List (Str × Value)) (cs : List Str) : Bool := scTest scope T G cs .free && scope.names.all (fun p => p.2 != .cell) && decide cs.Nodup

theorem form_def {C : Cx} (hC : PK C) {n : Nat} {H H' : List AO} {q name : Str} {params : Arguments} {body : List Stmt} {scope : Scope} {pos : Pos} {hf ci : Nat} (T : List Str) (G : List (Str × Value)) (cs : List (Str × Nat)) {vs : List AV} {v : AV}
    (run : Low H → ∀ L f c as, RunsTo C n { env := envX q scope L f (.ref c) as, T := T, G := G, ch := cs } H.length body (vs.map some ++ List.replicate (T.length - vs.length) none) H v H')
    (hS : autoParam ((lawBody (KK C.w.params))[4]? = some (.FunctionDef name params body [] none [] scope none name pos)) exactS)
    (ok : cloOk scope T G (cs.map (·.1)) = true := by decide +kernel)
    (hb : ∀ (pm : Value) as doc ctv c (us : List Value), us.length = vs.length → bindArgs (fnX name q params body scope as .none .none doc pm none (.ref c) ctv) ⟨us, []⟩ = pure (T.zip us) := by first | exact fun _ _ _ _ _ => bind1 fun _ => rfl | exact fun _ _ _ _ _ => bind2 fun _ _ => rfl)
    (S : FnS) (hI : IsForm C.K q S) (hfo : H[hf]? = some (.clo S ci cs)) (hci : H[ci]? = some (.code q)) : CallO C (n + 1) (.obj hf) vs H v H' := by
  obtain ⟨pos', e1, rfl⟩ := hI
  rw [hC.k, hS] at e1
  obtain ⟨a1, a2, a3, a4, a5, a6, a7, a8⟩ := Stmt.FunctionDef.inj (Option.some.inj e1)
  obtain ⟨n1, q1, p1, b1, s1, m1⟩ := S
  dsimp only at a1 a2 a3 a7
  subst a1 a2 a3 a7
  have k := Bool.and_eq_true_iff.mp ok
  have k' := Bool.and_eq_true_iff.mp k.1
  exact call_clo hfo hci (hb m1) (hC.sc k'.1 (.inr rfl)) (of_decide_eq_true k.2) (no_cell k'.2) run

/-- what form_of knows -/
structure FormIn (C : Cx) (H : List AO) (w : Nat) (ms os qs : List Int) (mi : Int) (t d k o q fd : Nat) (fs : List (Int × Int)) : Prop where
  w : H[0]? = some (.cell (some (.int (w : Nat))))
  told : H[1]? = some (.cell (some (.obj t)))
  forms : H[2]? = some (.cell (some (.obj fd)))
  dict : H[fd]? = some (fD fs)
  T : IsTold H t d k o q ms os qs mi

noncomputable def formV (w : Nat) (ms qs : List Int) (mi : Int) (x : Int) : Int := numL w (redL (schoolL (limbs w x) qs w) ms mi w)
structure FormOk (w : Nat) (ms qs : List Int) (mi : Int) (x : Int) : Prop where
  w1 : 1 ≤ w
  w12 : w ≤ 12
  x4 : x < 4000
  lim : Fine (limbs w x)
  fq : Fine qs
  lt : cmpL (limbs w x) ms < 0
  red : RedOk (schoolL (limbs w x) qs w) ms mi w
  out : Fine (redL (schoolL (limbs w x) qs w) ms mi w)
  outw : w * (redL (schoolL (limbs w x) qs w) ms mi w).length ≤ 60
noncomputable def addF (f : Int → Int) (fs : List (Int × Int)) (x : Int) : List (Int × Int) := if (fs.map (·.1)).contains x then fs else fs ++ [(x, f x)]

theorem valAt_fD (fs : List (Int × Int)) (f : Int → Int) (hf : ∀ p ∈ fs, p.2 = f p.1) (x : Int) : valAt (fs.map fun p => (p.1, AV.int p.2)) x = if (fs.map (·.1)).contains x then some (.int (f x)) else none := by
  induction fs with
  | nil => rfl
  | cons p fs ih =>
    have h1 := hf p (by simp)
    have h2 := ih fun q hq => hf q (by simp [hq])
    unfold valAt at h2 ⊢
    by_cases e : p.1 = x
    · subst e
      simp [h1]
    · have e' : (x == p.1) = false := beq_eq_false_iff_ne.mpr (fun z => e z.symm)
      simp only [List.map_cons, List.find?_cons, e, decide_false, List.contains_cons, e', Bool.false_or]
      exact h2

set_option maxHeartbeats 2000000 in
theorem form_of_ok {C : Cx} (hC : PK C) {H : List AO} {hf ci : Nat} {S : FnS} {qn : Str} {w : Nat} {ms os qs : List Int} {mi x : Int} {t d k o q fd : Nat} {fs : List (Int × Int)} (hI : IsForm C.K qn S) (hfo : H[hf]? = some (.clo S ci [("w", 0), ("told", 1), ("forms", 2)])) (hci : H[ci]? = some (.code qn))
    (I : FormIn C H w ms os qs mi t d k o q fd fs) (ok : FormOk w ms qs mi x) (hfs : ∀ p ∈ fs, p.2 = formV w ms qs mi p.1) (hz : fs.length ≤ 4000) (h7 : 7 ≤ H.length) :
    CallO C 12 (.obj hf) [.int x] H (.int (formV w ms qs mi x)) (H.set fd (fD (addF (formV w ms qs mi) fs x))) := by
  have hw := I.w
  have ht := I.told
  have hfm := I.forms
  have hd := I.dict
  have w1 := ok.w1
  have w12 := ok.w12
  have x4 := ok.x4
  have lfd := hp_lt hd
  refine' form_def hC ["rest"] [("_law_number", .ref 210), ("to_mont", .ref 163), ("_law_limbs", .ref 205), ("mul_school", .ref 191)] [("w", 0), ("told", 1), ("forms", 2)] (fun low L f c as => ?_) (S := S) (hI := hI) (hfo := hfo) (hci := hci)
  change RunsTo _ _ _ _ _ [some (.int x)] _ _ _
  have vx := valAt_fD fs (formV w ms qs mi) hfs x
  by_cases qx : (fs.map (·.1)).contains x = true
  · rw [if_pos qx] at vx
    have e : addF (formV w ms qs mi) fs x = fs := by unfold addF; rw [if_pos qx]
    rw [e, ← set_self_il hd]
    refine' runs_if_f ?t1 (runs_return ?rt)
    case t1 =>
      refine' Sm.testEq (test_dict ?a1 ?a2 hd (DOp.notIn _)) ?a3
      case a1 => walk_at "m_ev"
      case a2 => walk_at "m_ev"
      case a3 => rw [vx]; rfl
    case rt =>
      refine' ev_itemD ?a1 ?a2 hd vx
      case a1 => walk_at "m_ev"
      case a2 => walk_at "m_ev"
  · rw [if_neg qx] at vx
    have e : addF (formV w ms qs mi) fs x = fs ++ [(x, formV w ms qs mi x)] := by unfold addF; rw [if_neg qx]
    rw [e]
    refine' runs_cons (F₁ := [some (.int x)]) (H₁ := H.set fd (fD (fs ++ [(x, formV w ms qs mi x)]))) ?st (runs_return ?rt)
    case st =>
      refine' Xm.dropC [il (limbs w x), il (redL (schoolL (limbs w x) qs w) ms mi w)] (ex_if (b := true) ?t1 (exs_cons ?sx exs_nil)) ?hH (by simp) (low.setD _ _) ?hch ?hf
      case t1 =>
        refine' Sm.testEq (test_dict ?a1 ?a2 hd (DOp.notIn _)) ?a3
        case a1 => walk_at "m_ev"
        case a2 => walk_at "m_ev"
        case a3 => rw [vx]; rfl
      case sx =>
        refine' ex_setitemD (v := .int (formV w ms qs mi x)) (H₁ := H ++ [il (limbs w x)] ++ [il (redL (schoolL (limbs w x) qs w) ms mi w)]) (H₂ := H ++ [il (limbs w x)] ++ [il (redL (schoolL (limbs w x) qs w) ms mi w)]) ?e1 ?e2 ?e3 (hp_old (hp_old hd)) vx (by rw [List.length_map]; lia)
        case e1 =>
          refine' ev_call (vs := [.obj (H.length + 1), .int (w : Nat)]) ?c1 ?c2 ?c3 ?c4 rfl rfl rfl
          case c1 => walk_at "m_ev"
          case c2 =>
            refine' args_cons' ?f1 (args_cons' ?f2 args_nil' rfl) rfl
            case f1 =>
              have e : (H ++ [il (limbs w x)]).length = H.length + 1 := by simp
              rw [← e]
              refine' ev_call (vs := [.obj H.length, .obj t, .int (w : Nat), .val (.ref 191)]) ?d1 ?d2 ?d3 ?d4 rfl rfl rfl
              case d1 => walk_at "m_ev"
              case d2 =>
                refine' args_cons' ?g1 (args_cons' ?g2 (args_cons' ?g3 (args_cons' ?g4 args_nil' rfl) rfl) rfl) rfl
                case g1 =>
                  refine' ev_call (vs := [.int x, .int (w : Nat)]) ?h1 ?h2 ?h3 ?h4 rfl rfl rfl
                  case h1 => walk_at "m_ev"
                  case h2 => walk_at "m_args"
                  case h3 => exact (law_limbs_ok hC w1 w12 x4).le (Nat.le_of_ble_eq_true rfl)
                  case h4 => exact keep_of hC rfl
                case g2 => walk_at "m_ev"
                case g3 => walk_at "m_ev"
                case g4 => walk_at "m_ev"
              case d3 => exact (to_mont_ok hC hp_last ok.lim ok.fq ok.lt (I.T.old _) ok.red).le (Nat.le_of_ble_eq_true rfl)
              case d4 => exact keep_of hC rfl
            case f2 => walk_at "m_ev"
          case c3 =>
            have e : (H ++ [il (limbs w x)]).length = H.length + 1 := by simp
            have h1 := ok.out.1
            rw [← e]
            exact (law_number_ok hC hp_last ok.out.2 ok.outw (by lia) (by lia)).le (Nat.le_of_ble_eq_true rfl)
          case c4 => exact keep_of hC rfl
        case e2 => walk_at "m_ev"
        case e3 => walk_at "m_ev"
      case hH =>
        rw [List.set_append_left _ _ (by simp; lia), List.set_append_left _ _ lfd]
        simp [fD]
      case hch =>
        intro p hp
        have : p = (Str.ofString "w", 0) ∨ p = (Str.ofString "told", 1) ∨ p = (Str.ofString "forms", 2) := by simpa using hp
        rcases this with rfl | rfl | rfl <;> (show _ < H.length; lia)
      case hf => exact .keep (.int _) .nil
    case rt =>
      have hfm' : (H.set fd (fD (fs ++ [(x, formV w ms qs mi x)])))[2]? = some (.cell (some (.obj fd))) := by
        refine hp_ne (fun e => ?_) hfm
        rw [e, hfm] at hd; cases hd
      have hd' : (H.set fd (fD (fs ++ [(x, formV w ms qs mi x)])))[fd]? = some (fD (fs ++ [(x, formV w ms qs mi x)])) := hp_same hd
      refine' ev_itemD ?a1 ?a2 hd' ?a3
      case a1 => walk_at "m_ev"
      case a2 => walk_at "m_ev"
      case a3 =>
        rw [valAt_fD _ (formV w ms qs mi) (fun p hp => by
          rcases List.mem_append.mp hp with h | h
          · exact hfs p h
          · rw [List.mem_singleton.mp h]) x, if_pos (by simp)]

noncomputable def lawScope (K : Frag) : Scope := match K.lookup 222 with
  | some ⟨_, _, .func fd, _⟩ => fd.scope
  | _ => { kind := .function, names := [], isGenerator := false, isCoroutine := false }
@[reducible] noncomputable def lawCells (c0 c1 c2 c3 c4 c5 c6 : Addr) : List (Str × Addr) := [("w", c0), ("told", c1), ("forms", c2), ("row", c3), ("form_of", c4), ("m", c5), ("cup", c6)]
@[reducible] noncomputable def lawCh : List (Str × Nat) := [("w", 0), ("told", 1), ("forms", 2), ("row", 3), ("form_of", 4), ("m", 5), ("cup", 6)]
@[reducible] noncomputable def lawT : List Str := ["script", "kept", "rests", "rest", "form", "turn", "one", "other", "rows", "due", "chosen", "answers"]
@[reducible] noncomputable def lawG : List (Str × Value) := [("len", .builtin "len"), ("range", .type "range"), ("list", .type "list"), ("repr", .builtin "repr"), ("_law_rolled", .ref 198), ("_law_limbs", .ref 205), ("_law_number", .ref 210), ("_law_divisor", .ref 217), ("mont_make", .ref 135), ("from_mont", .ref 170), ("mont_mul", .ref 177), ("mont_rows", .ref 184), ("mul_school", .ref 191)]
@[reducible] noncomputable def lawAct (sc : Scope) (L fa c0 c1 c2 c3 c4 c5 c6 : Addr) : Act := { env := envX "law" sc L fa (.ref 221) (lawCells c0 c1 c2 c3 c4 c5 c6), T := lawT, G := lawG, ch := lawCh }

theorem law_lit {C : Cx} {n m a b : Nat} {L fa c0 c1 c2 c3 c4 c5 c6 : Addr} {F F' : List (Option AV)} {H H' : List AO} {f : AFlow} {name qual : Str} {params : Arguments} {body : List Stmt} {scope : Scope} {dV kV doc pm cdv ct oc : Value} {an od : Option Addr} {osl : Array (Option Value)}
    (run : ExecsTo C n (lawAct scope L fa c0 c1 c2 c3 c4 c5 c6) m ((body.drop a).take b) F H f F' H')
    (hl : autoParam ((KK C.w.params).lookup 222 = some ⟨oc, od, .func (fnX name qual params body scope [] dV kV doc pm an cdv ct), osl⟩) exactS) :
    ExecsTo C n (lawAct (lawScope (KK C.w.params)) L fa c0 c1 c2 c3 c4 c5 c6) m (((lawBody (KK C.w.params)).drop a).take b) F H f F' H' := by
  have e1 : lawBody (KK C.w.params) = body := by unfold lawBody; rw [hl]
  have e2 : lawScope (KK C.w.params) = scope := by unfold lawScope; rw [hl]
  rw [e1, e2]
  exact run

@[reducible] noncomputable def cellsH (vw vt vf vr vo vm vc : Option AV) : List AO := [.cell vw, .cell vt, .cell vf, .cell vr, .cell vo, .cell vm, .cell vc]
noncomputable def absL (ns : List Int) : List Int := (ns.take 24).map fun i => if i < 0 then -i else i

theorem takeStep (f : Int → Int) (ms : List Int) (j : Nat) (hj : j < ms.length) : (((ms.map f).take j).map AV.int ++ [AV.int (f (ms.getD j 0))]) = ((ms.map f).take (j + 1)).map AV.int := by
  have hg : ms[j]? = some (ms.getD j 0) := by simp [List.getD, List.getElem?_eq_getElem hj]
  rw [List.take_add_one, List.getElem?_map, hg]
  simp

set_option maxHeartbeats 4000000 in
theorem law_s1 {C : Cx} (hC : PK C) {L fa c0 c1 c2 c3 c4 c5 c6 ax : Addr} {vs : List Value} {ns : List Int} (hb : C.base.IsList ax vs.toArray) (hI : IntsAre vs ns) (hn : ns.length < 4000) :
    ExecsTo C 20 (lawAct (lawScope (KK C.w.params)) L fa c0 c1 c2 c3 c4 c5 c6) 7 (((lawBody (KK C.w.params)).drop 0).take 1) (some (.val (.ref ax)) :: List.replicate 11 none) (cellsH none none none none none none none)
      .next (some (.val (.ref ax)) :: List.replicate 11 none) (cellsH none none none none none none (some (.obj 9)) ++ [il (ns.take 24)] ++ [il (absL ns)] ++ [cupO 0 8]) := by
  refine' law_lit ?run
  case run =>
    refine' exs_cons ?st exs_nil
    case st =>
      refine' Xm.eqH (ex_assign_cell (v := .obj 9) (w₀ := none) (H₁ := cellsH none none none none none none none ++ [il (ns.take 24)] ++ [il (absL ns)] ++ [cupO 0 8]) 6 ?i1 rfl ?e1 rfl) rfl
      case i1 => walk_at "m_in"
      case e1 =>
        refine' ev_list (vs := [.int ((0 : Nat) : Int), .obj 8]) (H₁ := cellsH none none none none none none none ++ [il (ns.take 24)] ++ [il (absL ns)]) ?a1 (by decide)
        case a1 =>
          refine' args_cons' ?f1 (args_cons' ?f2 args_nil' rfl) rfl
          case f1 => walk_at "m_i1"; rfl
          case f2 =>
            refine' ev_comp_list (j := 7) (xs := (ns.take 24).map .int) (H₁ := cellsH none none none none none none none ++ [il (ns.take 24)]) (F' := [none]) [] ["die"] [("abs", .builtin "abs"), ("int", .type "int")] [] 0 ?i1 ?e1 hp_last rfl rfl (gl_of hC (by decide +kernel)) rfl (fun _ h => nomatch h) ?LC
            case i1 => walk_at "m_at"
            case e1 =>
              refine' ev_cut_base hb hI (by lia) ?u1 ?u2
              case u1 => walk_at "m_ev"
              case u2 => exact ev_int
            case LC =>
              intro L'
              have hlen : (ns.take 24).length ≤ 24 := by rw [List.length_take]; exact Nat.min_le_left _ _
              have hfin : absL ns = (((ns.take 24).map fun i => if i < 0 then -i else i).take (ns.take 24).length) := by
                rw [List.take_of_length_le (by simp)]; rfl
              rw [hfin]
              refine' comp_list_all (ns.take 24) (fun _ => [none]) (fun j => cellsH none none none none none none none ++ [il (ns.take 24)] ++ [il (((ns.take 24).map fun i => if i < 0 then -i else i).take j)]) (fun j _ => rfl) ?hb
              intro j hj
              refine' CompTurn.eqH (CompTurn.plain (xs := (((ns.take 24).map fun i => if i < 0 then -i else i).take j).map .int) (v := .int (if (ns.take 24).getD j 0 < 0 then -(ns.take 24).getD j 0 else (ns.take 24).getD j 0)) (H₀ := cellsH none none none none none none none ++ [il (ns.take 24)] ++ [il (((ns.take 24).map fun i => if i < 0 then -i else i).take j)]) ⟨rfl, rfl⟩ ?he hp_last ?hz (.drop .nil)) ?hH
              case he =>
                refine' ev_call_builtin (vs := [.int ((ns.take 24).getD j 0)]) ?c1 ?c2 ?c3 rfl rfl rfl
                case c1 => walk_at "m_ev"
                case c2 =>
                  refine' args_cons' ?g1 args_nil' rfl
                  case g1 =>
                    refine' ev_call_type (vs := [.int ((ns.take 24).getD j 0)]) ?d1 ?d2 ?d3 rfl rfl rfl
                    case d1 => walk_at "m_ev"
                    case d2 => walk_at "m_args"
                    case d3 => exact int_call
                case c3 => exact abs_call
              case hz => rw [List.length_map, List.length_take]; lia
              case hH =>
                rw [hp_set_last]
                exact congrArg (fun z => cellsH none none none none none none none ++ [il (ns.take 24)] ++ [AO.list z]) (takeStep (fun i => if i < 0 then -i else i) (ns.take 24) j hj)

@[reducible] noncomputable def lawH1 (ns : List Int) : List AO := cellsH none none none none none none (some (.obj 9)) ++ [il (ns.take 24)] ++ [il (absL ns)] ++ [cupO 0 8]
@[reducible] noncomputable def lawH2 (ns : List Int) (w m : Nat) : List AO := cellsH (some (.int (w : Nat))) none none none none (some (.int (m : Nat))) (some (.obj 9)) ++ [il (ns.take 24)] ++ [il (absL ns)] ++ [cupO 2 8] ++ [.tup [.int (w : Nat), .int (m : Nat)]]
@[reducible] noncomputable def lawF (ax : Addr) : List (Option AV) := some (.val (.ref ax)) :: List.replicate 11 none

set_option maxHeartbeats 4000000 in
theorem law_s2 {C : Cx} (hC : PK C) {L fa c0 c1 c2 c3 c4 c5 c6 ax : Addr} {ns : List Int} {w m : Nat} (hw : (w : Int) = 2 + rolledV (absL ns) 0 6) (hm : (m : Int) = 1 + 2 * rolledV (absL ns) 1 32) (hm' : m < 1000) :
    ExecsTo C 20 (lawAct (lawScope (KK C.w.params)) L fa c0 c1 c2 c3 c4 c5 c6) 7 (((lawBody (KK C.w.params)).drop 1).take 1) (lawF ax) (lawH1 ns) .next (lawF ax) (lawH2 ns w m) := by
  refine' law_lit ?run
  case run =>
    refine' exs_cons ?st exs_nil
    case st =>
      refine' Xm.eqH (ex_pair' (v₁ := .int (w : Nat)) (v₂ := .int (m : Nat)) (H₁ := (lawH1 ns).set 9 (cupO 1 8)) (H₂ := ((lawH1 ns).set 9 (cupO 1 8)).set 9 (cupO 2 8)) ?e1 ?e2 (Put.cell 0 (w₀ := none) ?i1 rfl rfl) (Put.cell 5 (w₀ := none) ?i2 rfl rfl)) rfl
      case i1 => walk_at "m_in"
      case i2 => walk_at "m_in"
      case e1 =>
        refine' Sm.intEq (ev_bin (x := 2) (y := rolledV (absL ns) 0 6) ?n1 ?n2 (IOp.add _ _)) hw.symm
        case n1 => walk_at "m_ev"
        case n2 =>
          refine' ev_call (vs := [.obj 9, .int 6]) ?c1 ?c2 ?c3 ?c4 rfl rfl rfl
          case c1 => walk_at "m_ev"
          case c2 =>
            refine' args_cons' ?f1 (args_cons' ?f2 args_nil' rfl) rfl
            case f1 => exact ev_cell 6 (by walk_at "m_in") rfl
            case f2 => walk_at "m_ev"
          case c3 => exact (rolled_ok hC (k := 0) (dl := 8) (ds := absL ns) rfl rfl (by decide) (by decide) (by decide)).le (Nat.le_of_ble_eq_true rfl)
          case c4 => exact keep_of hC rfl
      case e2 =>
        refine' Sm.intEq (ev_bin (x := 1) (y := 2 * rolledV (absL ns) 1 32) ?n1 ?n2 (IOp.add _ _)) hm.symm
        case n1 => walk_at "m_ev"
        case n2 =>
          refine' ev_bin (x := 2) (y := rolledV (absL ns) 1 32) ?n3 ?n4 (IOp.mul _ _ (by decide) (by lia))
          case n3 => walk_at "m_ev"
          case n4 =>
            refine' ev_call (vs := [.obj 9, .int 32]) ?c1 ?c2 ?c3 ?c4 rfl rfl rfl
            case c1 => walk_at "m_ev"
            case c2 =>
              refine' args_cons' ?f1 (args_cons' ?f2 args_nil' rfl) rfl
              case f1 => exact ev_cell 6 (by walk_at "m_in") rfl
              case f2 => walk_at "m_ev"
            case c3 => exact (rolled_ok hC (k := 1) (dl := 8) (ds := absL ns) rfl rfl (by decide) (by decide) (by decide)).le (Nat.le_of_ble_eq_true rfl)
            case c4 => exact keep_of hC rfl

structure MakeOk (ms : List Int) (w : Nat) : Prop where
  m0 : 0 < ms.length
  m1 : ms.length < 100
  ev : Builtin.bitAnd (ms.getD 0 0) 1 ≠ 0
  w2 : 2 ≤ w
  w12 : w ≤ 12
  d : 0 ≤ ms.getD 0 0 ∧ ms.getD 0 0 < 2 ^ w
  o : ms.getD 0 0 % 2 ≠ 0
  f1 : ∀ j, j < ms.length * w → Fine (dblN ms w (one0 ms) j)
  f2 : ∀ j, j < ms.length * w → Fine (dblN ms w (makeOne ms w) j)

@[reducible] noncomputable def lawX (ns : List Int) (w m : Nat) (ms os qs : List Int) (mi : Int) : List AO :=
  [il (ns.take 24), il (absL ns), cupO 2 8, .tup [.int (w : Nat), .int (m : Nat)], il ms, il os, il qs, .ndict mNames [.obj 11, .int mi, .obj 12, .obj 13], .inst 117 14]
@[reducible] noncomputable def lawH3 (ns : List Int) (w m : Nat) (ms os qs : List Int) (mi : Int) : List AO :=
  cellsH (some (.int (w : Nat))) (some (.obj 15)) none none none (some (.int (m : Nat))) (some (.obj 9)) ++ lawX ns w m ms os qs mi

set_option maxHeartbeats 4000000 in
theorem law_s3 {C : Cx} (hC : PK C) {L fa c0 c1 c2 c3 c4 c5 c6 ax : Addr} {ns : List Int} {w m : Nat} {ms : List Int} (hms : limbs w m = ms) (hm : m < 4000) (ok : MakeOk ms w) :
    ExecsTo C 20 (lawAct (lawScope (KK C.w.params)) L fa c0 c1 c2 c3 c4 c5 c6) 7 (((lawBody (KK C.w.params)).drop 2).take 1) (lawF ax) (lawH2 ns w m) .next (lawF ax) (lawH3 ns w m ms (makeOne ms w) (makeSq ms w) (makeMinus ms w)) := by
  have w2 := ok.w2
  have w12 := ok.w12
  refine' law_lit ?run
  case run =>
    refine' exs_cons ?st exs_nil
    case st =>
      refine' Xm.eqH (ex_assign_cell (v := .obj 15) (w₀ := none) (H₁ := lawH2 ns w m ++ [il ms] ++ [il (makeOne ms w)] ++ [il (makeSq ms w)] ++ [.ndict mNames [.obj 11, .int (makeMinus ms w), .obj 12, .obj 13]] ++ [.inst 117 14]) 1 ?i1 rfl ?e1 rfl) rfl
      case i1 => walk_at "m_in"
      case e1 =>
        refine' ev_call (vs := [.obj 11, .int (w : Nat)]) (H₁ := lawH2 ns w m ++ [il ms]) ?c1 ?c2 ?c3 ?c4 rfl rfl rfl
        case c1 => walk_at "m_ev"
        case c2 =>
          refine' args_cons' (H₁ := lawH2 ns w m ++ [il ms]) ?f1 (args_cons' ?f2 args_nil' rfl) rfl
          case f1 =>
            refine' ev_call (vs := [.int (m : Nat), .int (w : Nat)]) (H₁ := lawH2 ns w m) ?d1 ?d2 ?d3 ?d4 rfl rfl rfl
            case d1 => walk_at "m_ev"
            case d2 =>
              refine' args_cons' ?g1 (args_cons' ?g2 args_nil' rfl) rfl
              case g1 => exact ev_cell 5 (by walk_at "m_in") rfl
              case g2 => exact ev_cell 0 (by walk_at "m_in") rfl
            case d3 =>
              rw [← hms]
              exact (law_limbs_ok hC (H := lawH2 ns w m) (x := (m : Nat)) (w := w) (by lia) w12 (by lia)).le (Nat.le_of_ble_eq_true rfl)
            case d4 => exact keep_of hC rfl
          case f2 => exact ev_cell 0 (by walk_at "m_in") rfl
        case c3 => exact (mont_make_ok hC (H := lawH2 ns w m ++ [il ms]) (k := 11) rfl ok.m0 ok.m1 ok.ev w2 w12 ok.d ok.o ok.f1 ok.f2).le (Nat.le_of_ble_eq_true rfl)
        case c4 => exact keep_of hC rfl

structure ShowOk (ms os qs : List Int) (mi : Int) : Prop where
  s : (toldD ms os qs mi).showable = true
  d : (toldD ms os qs mi).hasDict = false
  z : (toldD ms os qs mi).shown.length ≤ sizeLine
  p : (toldD ms os qs mi).depth ≤ 40

@[reducible] noncomputable def lawF4 (ax : Addr) (S : Str) : List (Option AV) := some (.val (.ref ax)) :: some (.str S) :: List.replicate 10 none
@[reducible] noncomputable def lawH4 (ns : List Int) (w m : Nat) (ms os qs : List Int) (mi : Int) (S : Str) : List AO :=
  cellsH (some (.int (w : Nat))) (some (.obj 15)) (some (.obj 17)) none none (some (.int (m : Nat))) (some (.obj 9)) ++ lawX ns w m ms os qs mi ++ [.tup [.obj 11, .int mi, .obj 12, .obj 13]] ++ [fD []] ++ [.tup [.str S, .obj 17]]

set_option maxHeartbeats 4000000 in
theorem law_s4 {C : Cx} (hC : PK C) {L fa c0 c1 c2 c3 c4 c5 c6 ax : Addr} {ns : List Int} {w m : Nat} {ms os qs : List Int} {mi : Int} (ok : ShowOk ms os qs mi) :
    ExecsTo C 20 (lawAct (lawScope (KK C.w.params)) L fa c0 c1 c2 c3 c4 c5 c6) 7 (((lawBody (KK C.w.params)).drop 3).take 1) (lawF ax) (lawH3 ns w m ms os qs mi) .next (lawF4 ax (toldD ms os qs mi).shown) (lawH4 ns w m ms os qs mi (toldD ms os qs mi).shown) := by
  refine' law_lit ?run
  case run =>
    refine' exs_cons ?st exs_nil
    case st =>
      refine' Xm.eqH (ex_pair' (v₁ := .str (toldD ms os qs mi).shown) (v₂ := .obj 17) (H₁ := lawH3 ns w m ms os qs mi ++ [.tup [.obj 11, .int mi, .obj 12, .obj 13]]) (H₂ := lawH3 ns w m ms os qs mi ++ [.tup [.obj 11, .int mi, .obj 12, .obj 13]] ++ [fD []]) ?e1 ?e2 (Put.loc 1 ?i2) (Put.cell 2 (w₀ := none) ?i1 rfl rfl)) rfl
      case i1 => walk_at "m_in"
      case i2 => walk_at "m_at"
      case e2 => exact ev_dict0
      case e1 =>
        have hI : (lawH3 ns w m ms os qs mi)[15]? = some (.inst 117 14) := rfl
        have hD : (lawH3 ns w m ms os qs mi)[14]? = some (.ndict mNames [.obj 11, .int mi, .obj 12, .obj 13]) := rfl
        refine' ev_call_builtin (vs := [.obj 16]) (H₁ := lawH3 ns w m ms os qs mi ++ [.tup [.obj 11, .int mi, .obj 12, .obj 13]]) ?c1 ?c2 ?c3 rfl rfl rfl
        case c1 => walk_at "m_ev"
        case c2 =>
          refine' args_cons' ?f1 args_nil' rfl
          case f1 =>
            refine' ev_tuple (vs := [.obj 11, .int mi, .obj 12, .obj 13]) (H₁ := lawH3 ns w m ms os qs mi) ?a1 (Nat.le_of_ble_eq_true rfl)
            case a1 =>
              refine' args_cons' (H₁ := lawH3 ns w m ms os qs mi) ?g1 (args_cons' (H₁ := lawH3 ns w m ms os qs mi) ?g2 (args_cons' (H₁ := lawH3 ns w m ms os qs mi) ?g3 (args_cons' (H₁ := lawH3 ns w m ms os qs mi) ?g4 args_nil' rfl) rfl) rfl) rfl
              case g1 =>
                refine' ev_attr (h := 15) (d := 14) (clsK hC) (ev_cell 1 ?i9 rfl) hI hD ?k9 (noAttr hC rfl) nofun
                case i9 => walk_at "m_in"
                case k9 => walk_at "m_kv"
              case g2 =>
                refine' ev_attr (h := 15) (d := 14) (clsK hC) (ev_cell 1 ?i9 rfl) hI hD ?k9 (noAttr hC rfl) nofun
                case i9 => walk_at "m_in"
                case k9 => walk_at "m_kv"
              case g3 =>
                refine' ev_attr (h := 15) (d := 14) (clsK hC) (ev_cell 1 ?i9 rfl) hI hD ?k9 (noAttr hC rfl) nofun
                case i9 => walk_at "m_in"
                case k9 => walk_at "m_kv"
              case g4 =>
                refine' ev_attr (h := 15) (d := 14) (clsK hC) (ev_cell 1 ?i9 rfl) hI hD ?k9 (noAttr hC rfl) nofun
                case i9 => walk_at "m_in"
                case k9 => walk_at "m_kv"
        case c3 => exact repr_call (k := 11) (o := 12) (q := 13) hp_last rfl rfl rfl ok.s ok.d ok.z (by decide) ok.p

@[reducible] noncomputable def lawS (ns : List Int) (w m k : Nat) (ms os qs : List Int) (mi : Int) (S q : Str) (Sf : FnS) (fs : List (Int × Int)) (row : Option AV) : List AO :=
  cellsH (some (.int (w : Nat))) (some (.obj 15)) (some (.obj 17)) row (some (.obj 20)) (some (.int (m : Nat))) (some (.obj 9)) ++
  [il (ns.take 24), il (absL ns), cupO k 8, .tup [.int (w : Nat), .int (m : Nat)], il ms, il os, il qs, .ndict mNames [.obj 11, .int mi, .obj 12, .obj 13], .inst 117 14, .tup [.obj 11, .int mi, .obj 12, .obj 13], fD fs, .tup [.str S, .obj 17], .code q, .clo Sf 19 [("w", 0), ("told", 1), ("forms", 2)]]
noncomputable def drawsL (ds : List Int) (k : Nat) (m : Int) (j : Nat) : List Int := (List.range j).map fun i => rolledV ds (k + i) m
noncomputable def restsL (ds : List Int) (m : Nat) : List Int := if m ≤ 13 then (List.range m).map fun (j : Nat) => (j : Int) else drawsL ds 2 m 6
noncomputable def restsK (m : Nat) : Nat := if m ≤ 13 then 2 else 8

theorem allCons {p : AO → Prop} {o : AO} {H : List AO} (h : p o) (t : ∀ x ∈ H, p x) : ∀ x ∈ o :: H, p x := fun x hx => by
  rcases List.mem_cons.mp hx with rfl | hx
  · exact h
  · exact t x hx
theorem allNil {p : AO → Prop} : ∀ x ∈ ([] : List AO), p x := fun _ h => nomatch h

theorem low2 {n : Nat} {a b : AV} (ha : LowV n a) (hb : LowV n b) : ∀ v ∈ [a, b], LowV n v := List.forall_mem_cons.mpr ⟨ha, List.forall_mem_cons.mpr ⟨hb, fun _ h => nomatch h⟩⟩
theorem low4 {n : Nat} {a b c d : AV} (ha : LowV n a) (hb : LowV n b) (hc : LowV n c) (hd : LowV n d) : ∀ v ∈ [a, b, c, d], LowV n v := List.forall_mem_cons.mpr ⟨ha, List.forall_mem_cons.mpr ⟨hb, low2 hc hd⟩⟩
theorem lawS_lowN {ns : List Int} {w m k n : Nat} {ms os qs : List Int} {mi : Int} {S q : Str} {Sf : FnS} {fs : List (Int × Int)} {row : Option AV} (hn : 22 ≤ n) (hr : LowO n (.cell row)) : ∀ o ∈ lawS ns w m k ms os qs mi S q Sf fs row, LowO n o := by
  have lt : ∀ i, i < 22 → i < n := fun i h => Nat.lt_of_lt_of_le h hn
  have h11 := lt 11 (by decide)
  have h12 := lt 12 (by decide)
  have h13 := lt 13 (by decide)
  have h17 := lt 17 (by decide)
  exact allCons trivial (allCons (lt 15 (by decide)) (allCons h17 (allCons hr (allCons (lt 20 (by decide)) (allCons trivial (allCons (lt 9 (by decide)) (allCons (.il _) (allCons (.il _) (allCons (low2 trivial (lt 8 (by decide))) (allCons (low2 trivial trivial) (allCons (.il _) (allCons (.il _) (allCons (.il _)
    (allCons (low4 h11 trivial h12 h13) (allCons (lt 14 (by decide)) (allCons (low4 h11 trivial h12 h13) (allCons (.fD fs) (allCons (low2 trivial h17) (allCons trivial (allCons ⟨lt 19 (by decide), List.forall_mem_cons.mpr ⟨lt 0 (by decide), List.forall_mem_cons.mpr ⟨lt 1 (by decide), List.forall_mem_cons.mpr ⟨lt 2 (by decide), fun _ h => nomatch h⟩⟩⟩⟩ allNil))))))))))))))))))))
theorem lawS_low {ns : List Int} {w m k : Nat} {ms os qs : List Int} {mi : Int} {S q : Str} {Sf : FnS} {fs : List (Int × Int)} {rs : List Int} : Low (lawS ns w m k ms os qs mi S q Sf fs none ++ [il rs]) := fun o h =>
  (List.mem_append.mp h).elim (lawS_lowN (row := none) (n := 22) (Nat.le_refl _) trivial o) (allCons (.il _) allNil o)

@[reducible] noncomputable def lawF6 (ax : Addr) (S : Str) : List (Option AV) := some (.val (.ref ax)) :: some (.str S) :: some (.obj 21) :: List.replicate 9 none

set_option maxHeartbeats 4000000 in
theorem law_s6 {C : Cx} (hC : PK C) {L fa c0 c1 c2 c3 c4 c5 c6 ax : Addr} {ns : List Int} {w m : Nat} {ms os qs : List Int} {mi : Int} {S q : Str} {Sf : FnS} (hm0 : 0 < m) (hm : m < 1000) :
    ExecsTo C 20 (lawAct (lawScope (KK C.w.params)) L fa c0 c1 c2 c3 c4 c5 c6) 7 (((lawBody (KK C.w.params)).drop 5).take 1) (lawF4 ax S) (lawS ns w m 2 ms os qs mi S q Sf [] none) .next (lawF6 ax S) (lawS ns w m (restsK m) ms os qs mi S q Sf [] none ++ [il (restsL (absL ns) m)]) := by
  refine' law_lit ?run
  case run =>
    refine' exs_cons ?st exs_nil
    case st =>
      refine' ex_assign (v := .obj 21) 2 ?i1 ?e1
      case i1 => walk_at "m_at"
      case e1 =>
        by_cases q13 : m ≤ 13
        · have e1 : restsK m = 2 := by unfold restsK; rw [if_pos q13]
          have e2 : restsL (absL ns) m = (List.range m).map fun (j : Nat) => (j : Int) := by unfold restsL; rw [if_pos q13]
          rw [e1, e2]
          refine' ev_if_t (H₁ := lawS ns w m 2 ms os qs mi S q Sf [] none) ?t1 ?r1
          case t1 =>
            refine' Sm.testEq (test_cmp (x := (m : Nat)) (y := 13) ?a1 ?a2 (COp.le _ _)) ?a3
            case a1 => exact ev_cell 5 (by walk_at "m_in") rfl
            case a2 => walk_at "m_ev"
            case a3 => simp only [decide_eq_true_eq]; lia
          case r1 =>
            refine' ev_list_range (k := m) (H₁ := lawS ns w m 2 ms os qs mi S q Sf [] none) ?b1 ?b2 ?b3 (by lia)
            case b1 => walk_at "m_mem"
            case b2 => walk_at "m_mem"
            case b3 => exact ev_cell 5 (by walk_at "m_in") rfl
        · have e1 : restsK m = 8 := by unfold restsK; rw [if_neg q13]
          have e2 : restsL (absL ns) m = drawsL (absL ns) 2 m 6 := by unfold restsL; rw [if_neg q13]
          rw [e1, e2]
          refine' ev_if_f (H₁ := lawS ns w m 2 ms os qs mi S q Sf [] none) ?t1 ?r1
          case t1 =>
            refine' Sm.testEq (test_cmp (x := (m : Nat)) (y := 13) ?a1 ?a2 (COp.le _ _)) ?a3
            case a1 => exact ev_cell 5 (by walk_at "m_in") rfl
            case a2 => walk_at "m_ev"
            case a3 => simp only [decide_eq_false_iff_not]; lia
          case r1 =>
            refine' ev_comp_range (k := 6) (H₁ := lawS ns w m 2 ms os qs mi S q Sf [] none) (F' := [none]) [("m", c5), ("cup", c6)] ["turn"] [("_law_rolled", .ref 198)] [("cup", 6), ("m", 5)] 0 ?b1 ?b2 ?b3 (by decide) (by decide) rfl rfl (gl_of hC (by decide +kernel)) rfl ?hch ?LC
            case b1 => walk_at "m_at"
            case b2 => walk_at "m_mem"
            case b3 => walk_at "m_ev"
            case hch =>
              intro p hp
              have : p = (Str.ofString "cup", 6) ∨ p = (Str.ofString "m", 5) := by simpa using hp
              rcases this with rfl | rfl
              · exact ⟨by walk_at "m_in", rfl⟩
              · exact ⟨by walk_at "m_in", rfl⟩
            case LC =>
              intro L'
              refine' comp_range_all 6 (fun _ => [none]) (fun j => lawS ns w m (2 + j) ms os qs mi S q Sf [] none ++ [il (drawsL (absL ns) 2 m j)]) ?hb
              intro j hj
              have hmi : (0 : Int) < (m : Nat) := by lia
              refine' CompTurn.eqH (CompTurn.plain (xs := (drawsL (absL ns) 2 m j).map .int) (v := .int (rolledV (absL ns) (2 + j) m)) (H₀ := lawS ns w m (2 + j) ms os qs mi S q Sf [] none ++ [il (drawsL (absL ns) 2 m j)]) (H₁ := lawS ns w m (2 + j + 1) ms os qs mi S q Sf [] none ++ [il (drawsL (absL ns) 2 m j)]) ⟨rfl, rfl⟩ ?he rfl ?hz (.drop .nil)) ?hH
              case he =>
                refine' ev_call (vs := [.obj 9, .int (m : Nat)]) (H₁ := lawS ns w m (2 + j) ms os qs mi S q Sf [] none ++ [il (drawsL (absL ns) 2 m j)]) ?c1 ?c2 ?c3 ?c4 rfl rfl rfl
                case c1 => walk_at "m_ev"
                case c2 =>
                  refine' args_cons' (H₁ := lawS ns w m (2 + j) ms os qs mi S q Sf [] none ++ [il (drawsL (absL ns) 2 m j)]) ?f1 (args_cons' ?f2 args_nil' rfl) rfl
                  case f1 => exact ev_cell 6 (by walk_at "m_in") rfl
                  case f2 => exact ev_cell 5 (by walk_at "m_in") rfl
                case c3 => exact (rolled_ok hC (H := lawS ns w m (2 + j) ms os qs mi S q Sf [] none ++ [il (drawsL (absL ns) 2 m j)]) (c := 9) (k := 2 + j) (dl := 8) (ds := absL ns) rfl rfl (by decide) hmi (by lia)).le (Nat.le_of_ble_eq_true rfl)
                case c4 => exact keep_of hC rfl
              case hz => unfold drawsL; simp; lia
              case hH =>
                have e : drawsL (absL ns) 2 m (j + 1) = drawsL (absL ns) 2 m j ++ [rolledV (absL ns) (2 + j) m] := by unfold drawsL; rw [List.range_succ, List.map_append]; rfl
                rw [e]
                show _ = lawS ns w m (2 + j + 1) ms os qs mi S q Sf [] none ++ [il (drawsL (absL ns) 2 m j ++ [rolledV (absL ns) (2 + j) m])]
                simp [il]

noncomputable def addAll (f : Int → Int) (fs : List (Int × Int)) (xs : List Int) : List (Int × Int) := xs.foldl (addF f) fs
theorem addF_inv {f : Int → Int} {fs : List (Int × Int)} (h : ∀ p ∈ fs, p.2 = f p.1) (x : Int) : ∀ p ∈ addF f fs x, p.2 = f p.1 := by
  unfold addF
  split
  · exact h
  · intro p hp
    rcases List.mem_append.mp hp with q | q
    · exact h p q
    · rw [List.mem_singleton.mp q]
theorem addF_len (f : Int → Int) (fs : List (Int × Int)) (x : Int) : (addF f fs x).length ≤ fs.length + 1 := by
  unfold addF
  split
  · lia
  · simp
theorem addAll_inv {f : Int → Int} : ∀ (xs : List Int) {fs : List (Int × Int)}, (∀ p ∈ fs, p.2 = f p.1) → ∀ p ∈ addAll f fs xs, p.2 = f p.1
  | [], _, h => h
  | x :: xs, _, h => addAll_inv xs (addF_inv h x)
theorem addAll_len (f : Int → Int) : ∀ (xs : List Int) (fs : List (Int × Int)), (addAll f fs xs).length ≤ fs.length + xs.length
  | [], fs => by simp [addAll]
  | x :: xs, fs => by
    have h1 := addAll_len f xs (addF f fs x)
    have h2 := addF_len f fs x
    show (addAll f (addF f fs x) xs).length ≤ _
    simp only [List.length_cons]; lia
theorem addAll_snoc (f : Int → Int) (fs : List (Int × Int)) (xs : List Int) (x : Int) : addAll f fs (xs ++ [x]) = addF f (addAll f fs xs) x := by
  unfold addAll; rw [List.foldl_append]; rfl

structure BackOk (w : Nat) (ms : List Int) (mi y x : Int) : Prop where
  red : RedOk (limbs w y) ms mi w
  out : Fine (redL (limbs w y) ms mi w)
  outw : w * (redL (limbs w y) ms mi w).length ≤ 60
  eq : numL w (redL (limbs w y) ms mi w) = x

/-- what is known of w and m -/
structure LawOk (w m : Nat) (ms os qs : List Int) (mi : Int) : Prop where
  w1 : 1 ≤ w
  w12 : w ≤ 12
  m0 : 0 < m
  m1 : m < 1000
  form : ∀ x : Int, 0 ≤ x → x < m → FormOk w ms qs mi x
  fb : ∀ x : Int, 0 ≤ x → x < m → 0 ≤ formV w ms qs mi x ∧ formV w ms qs mi x < m
  back : ∀ x : Int, 0 ≤ x → x < m → BackOk w ms mi (formV w ms qs mi x) x

section
variable {C : Cx}

/-- form_of(e) in the law's frame or in a comprehension of it -/
theorem ev_form {a : Act} (hC : PK C) {ns : List Int} {w m k : Nat} {ms os qs : List Int} {mi : Int} {S q : Str} {Sf : FnS} {fs : List (Int × Int)} {row : Option AV} {t : List AO} {F : List (Option AV)} {x : Int} {e : Expr} {pg pos : Pos}
    (hI : IsForm C.K q Sf) (hq : Sf.qual = q) (ok : FormOk w ms qs mi x) (hfs : ∀ p ∈ fs, p.2 = formV w ms qs mi p.1) (hz : fs.length ≤ 4000) (hch : (("form_of" : Str), 4) ∈ a.ch)
    (he : EvalTo C 15 a e F (lawS ns w m k ms os qs mi S q Sf fs row ++ t) (.int x) (lawS ns w m k ms os qs mi S q Sf fs row ++ t))
    (hc : autoParam (CallIs a (.Name "form_of" pg) e [] pos) rflS)
    (hs : autoParam (StarIs a e []) rflS) :
    EvalTo C 15 a (.Call (.Name "form_of" pg) [e] [] pos) F (lawS ns w m k ms os qs mi S q Sf fs row ++ t) (.int (formV w ms qs mi x)) (lawS ns w m k ms os qs mi S q Sf (addF (formV w ms qs mi) fs x) row ++ t) := by
  have hclo : (lawS ns w m k ms os qs mi S q Sf fs row ++ t)[20]? = some (.clo Sf 19 [("w", 0), ("told", 1), ("forms", 2)]) := rfl
  have I : FormIn C (lawS ns w m k ms os qs mi S q Sf fs row ++ t) w ms os qs mi 15 14 11 12 13 17 fs := ⟨rfl, rfl, rfl, rfl, ⟨rfl, rfl, rfl, rfl, rfl⟩⟩
  have h := (form_of_ok hC (hf := 20) (ci := 19) hI hclo rfl I ok hfs hz (by simp)).le (m := 15) (Nat.le_of_ble_eq_true rfl)
  refine ev_call_obj (ev_cell 4 hch rfl) (args_cons' he args_nil' hs) hclo hclo ?_ hc hs rfl
  exact h

set_option maxHeartbeats 4000000 in
theorem law_s7 (hC : PK C) {L fa c0 c1 c2 c3 c4 c5 c6 ax : Addr} {ns : List Int} {w m k : Nat} {ms os qs : List Int} {mi : Int} {S q : Str} {Sf : FnS} {rs : List Int} (hI : IsForm C.K q Sf) (hq : Sf.qual = q) (ok : LawOk w m ms os qs mi) (hr : ∀ x ∈ rs, 0 ≤ x ∧ x < m) (hrl : rs.length ≤ 100) :
    ExecsTo C 15 (lawAct (lawScope (KK C.w.params)) L fa c0 c1 c2 c3 c4 c5 c6) 22 (((lawBody (KK C.w.params)).drop 6).take 1) (lawF6 ax S) (lawS ns w m k ms os qs mi S q Sf [] none ++ [il rs]) .next (lawF6 ax S) (lawS ns w m k ms os qs mi S q Sf (addAll (formV w ms qs mi) [] rs) none ++ [il rs]) := by
  refine' law_lit ?run
  case run =>
    refine' exs_cons ?st exs_nil
    case st =>
      have e0 : addAll (formV w ms qs mi) [] rs = addAll (formV w ms qs mi) [] (rs.take rs.length) := by rw [List.take_length]
      rw [e0]
      refine' ex_each (k := 21) 3 rs (fun j => lawF6 ax S) (fun j => lawS ns w m k ms os qs mi S q Sf (addAll (formV w ms qs mi) [] (rs.take j)) none ++ [il rs]) (by decide) ?i1 ?e1 (fun j _ => rfl) ?hb
      case i1 => walk_at "m_at"
      case e1 => walk_at "m_ev"
      case hb =>
        intro j hj
        obtain ⟨x, hx⟩ : ∃ x, rs.getD j 0 = x := ⟨_, rfl⟩
        have hxm : x ∈ rs := by
          rw [← hx]
          simp [List.getD, List.getElem?_eq_getElem hj]
        obtain ⟨hx0, hx1⟩ := hr x hxm
        have hfs := addAll_inv (f := formV w ms qs mi) (rs.take j) (fs := []) (fun _ h => nomatch h)
        have hlen := addAll_len (formV w ms qs mi) (rs.take j) []
        have htl : (rs.take j).length ≤ rs.length := by rw [List.length_take]; exact Nat.min_le_right _ _
        have estep : addAll (formV w ms qs mi) [] (rs.take (j + 1)) = addF (formV w ms qs mi) (addAll (formV w ms qs mi) [] (rs.take j)) x := by
          rw [← addAll_snoc, ← hx, List.take_add_one]
          simp [List.getD, List.getElem?_eq_getElem hj]
        obtain ⟨y, hy⟩ : ∃ y, formV w ms qs mi x = y := ⟨_, rfl⟩
        have fb := ok.fb x hx0 hx1
        have bk := ok.back x hx0 hx1
        rw [hy] at fb bk
        have m1 := ok.m1
        have w1 := ok.w1
        have w12 := ok.w12
        rw [hx]
        show ∃ F₁, ExecsTo _ _ _ _ _ _ _ _ _ (lawS ns w m k ms os qs mi S q Sf (addAll (formV w ms qs mi) [] (rs.take (j + 1))) none ++ [il rs]) ∧ _
        rw [estep]
        generalize hfsG : addAll (formV w ms qs mi) [] (rs.take j) = fs at hfs hlen
        refine ⟨[some (.val (.ref ax)), some (.str S), some (.obj 21), some (.int x), some (.int y), none, none, none, none, none, none, none], ?_, .keep (.keep (.keep (.drop (.drop (.keep (.keep (.keep (.keep (.keep (.keep (.keep .nil)))))))))))⟩
        show ExecsTo _ _ _ _ _ [some (.val (.ref ax)), some (.str S), some (.obj 21), some (.int x), none, none, none, none, none, none, none, none] (lawS ns w m k ms os qs mi S q Sf fs none ++ [il rs]) _ _ _
        refine' exs_cons (F₁ := [some (.val (.ref ax)), some (.str S), some (.obj 21), some (.int x), some (.int y), none, none, none, none, none, none, none]) (H₁ := lawS ns w m k ms os qs mi S q Sf (addF (formV w ms qs mi) fs x) none ++ [il rs]) (ex_assign (v := .int y) 4 ?i1 ?e1) ?_
        case i1 => walk_at "m_at"
        case e1 =>
          rw [← hy]
          refine' ev_form hC hI hq (ok.form x hx0 hx1) hfs (by simp at hlen; lia) ?h1 ?h2
          case h1 => walk_at "m_in"
          case h2 => walk_at "m_ev"
        generalize addF (formV w ms qs mi) fs x = fs'
        refine' exs_cons ?st exs_nil
        case st =>
          refine' Xm.dropC [il (limbs w y), il (redL (limbs w y) ms mi w)] (ex_if (b := false) ?t1 exs_nil) ?hH rfl lawS_low ?hch ?hf
          case hH => rfl
          case hch =>
            intro p hp
            have : ∀ p ∈ lawCh, p.2 < 22 := by decide
            exact this p hp
          case hf => exact .keep (.val _) (.keep (.str _) (.keep (.obj (dropσ_old (show 21 < 22 from by decide))) (.keep (.int _) (.keep (.int _) (.skip (.skip (.skip (.skip (.skip (.skip (.skip .nil)))))))))))
          case t1 =>
            refine' test_or_f (H₁ := lawS ns w m k ms os qs mi S q Sf fs' none ++ [il rs]) (Sm.testEq (test_not (b := true) ?n1) rfl) (test_or_f (H₁ := lawS ns w m k ms os qs mi S q Sf fs' none ++ [il rs] ++ [il (limbs w y)] ++ [il (redL (limbs w y) ms mi w)]) ?n2 test_or_nil)
            case n1 =>
              refine' Sm.testEq (test_chain (x := 0) (y := y) (z := (m : Nat)) ?a1 ?a2 ?a3 ?a4 (COp.lt _ _)) ?a5
              case a1 => walk_at "m_ev"
              case a2 => walk_at "m_ev"
              case a3 => exact ev_cell 5 (by walk_at "m_in") rfl
              case a4 =>
                have := COp.le 0 y
                rwa [decide_eq_true fb.1] at this
              case a5 => exact decide_eq_true fb.2
            case n2 =>
              refine' Sm.testEq (test_cmp (x := x) (y := x) ?a1 ?a2 (COp.ne _ _)) ?a3
              case a3 => simp
              case a2 => walk_at "m_ev"
              case a1 =>
                refine' ev_call (vs := [.obj 23, .int (w : Nat)]) ?c1 ?c2 ?c3 ?c4 rfl rfl rfl
                case c1 => walk_at "m_ev"
                case c2 =>
                  refine' args_cons' (H₁ := lawS ns w m k ms os qs mi S q Sf fs' none ++ [il rs] ++ [il (limbs w y)] ++ [il (redL (limbs w y) ms mi w)]) ?f1 (args_cons' ?f2 args_nil' rfl) rfl
                  case f2 => exact ev_cell 0 (by walk_at "m_in") rfl
                  case f1 =>
                    refine' ev_call (vs := [.obj 22, .obj 15, .int (w : Nat)]) (H₁ := lawS ns w m k ms os qs mi S q Sf fs' none ++ [il rs] ++ [il (limbs w y)]) ?d1 ?d2 ?d3 ?d4 rfl rfl rfl
                    case d1 => walk_at "m_ev"
                    case d2 =>
                      refine' args_cons' (H₁ := lawS ns w m k ms os qs mi S q Sf fs' none ++ [il rs] ++ [il (limbs w y)]) ?g1 (args_cons' ?g2 (args_cons' ?g3 args_nil' rfl) rfl) rfl
                      case g2 => exact ev_cell 1 (by walk_at "m_in") rfl
                      case g3 => exact ev_cell 0 (by walk_at "m_in") rfl
                      case g1 =>
                        refine' ev_call (vs := [.int y, .int (w : Nat)]) (H₁ := lawS ns w m k ms os qs mi S q Sf fs' none ++ [il rs]) ?h1 ?h2 ?h3 ?h4 rfl rfl rfl
                        case h1 => walk_at "m_ev"
                        case h2 =>
                          refine' args_cons' (H₁ := lawS ns w m k ms os qs mi S q Sf fs' none ++ [il rs]) ?k1 (args_cons' ?k2 args_nil' rfl) rfl
                          case k1 => walk_at "m_ev"
                          case k2 => exact ev_cell 0 (by walk_at "m_in") rfl
                        case h3 => exact (law_limbs_ok hC (H := lawS ns w m k ms os qs mi S q Sf fs' none ++ [il rs]) w1 w12 (by lia)).le (Nat.le_of_ble_eq_true rfl)
                        case h4 => exact keep_of hC rfl
                    case d3 => exact (from_mont_ok hC (H := lawS ns w m k ms os qs mi S q Sf fs' none ++ [il rs] ++ [il (limbs w y)]) (h := 22) (t := 15) (d := 14) (k := 11) (o := 12) (q := 13) (os := os) (qs := qs) rfl ⟨rfl, rfl, rfl, rfl, rfl⟩ bk.red).le (Nat.le_of_ble_eq_true rfl)
                    case d4 => exact keep_of hC rfl
                case c3 =>
                  have hl := bk.out.1
                  rw [← bk.eq]
                  exact (law_number_ok hC (H := lawS ns w m k ms os qs mi S q Sf fs' none ++ [il rs] ++ [il (limbs w y)] ++ [il (redL (limbs w y) ms mi w)]) (h := 23) rfl bk.out.2 bk.outw (by lia) (by lia)).le (Nat.le_of_ble_eq_true rfl)
                case c4 => exact keep_of hC rfl
end

structure PairOk (w m : Nat) (ms qs : List Int) (mi a b : Int) : Prop where
  add : (formV w ms qs mi a + formV w ms qs mi b) % m = formV w ms qs mi ((a + b) % m)
  fa : Fine (limbs w (formV w ms qs mi a))
  fb : Fine (limbs w (formV w ms qs mi b))
  mul : RedOk (schoolL (limbs w (formV w ms qs mi a)) (limbs w (formV w ms qs mi b)) w) ms mi w
  mulE : redL (schoolL (limbs w (formV w ms qs mi a)) (limbs w (formV w ms qs mi b)) w) ms mi w = limbs w (formV w ms qs mi (a * b % m))
  rows : RowsOk (limbs w (formV w ms qs mi a)) (limbs w (formV w ms qs mi b)) ms mi w
  rowsE : rowsL (limbs w (formV w ms qs mi a)) (limbs w (formV w ms qs mi b)) ms mi w = limbs w (formV w ms qs mi (a * b % m))

noncomputable def pairFs (f : Int → Int) (m : Int) (fs : List (Int × Int)) (a b : Int) : List (Int × Int) := addF f (addF f (addF f (addF f (addF f (addF f fs a) b) ((a + b) % m)) a) b) (a * b % m)
noncomputable def loopFs (f : Int → Int) (ds : List Int) (m : Int) (k : Nat) (fs : List (Int × Int)) : Nat → List (Int × Int)
  | 0 => fs
  | j + 1 => pairFs f m (loopFs f ds m k fs j) (rolledV ds (k + 2 * j) m) (rolledV ds (k + 2 * j + 1) m)
theorem loopFs_inv {f : Int → Int} {ds : List Int} {m : Int} {k : Nat} {fs : List (Int × Int)} (h : ∀ p ∈ fs, p.2 = f p.1) : ∀ j, ∀ p ∈ loopFs f ds m k fs j, p.2 = f p.1
  | 0 => h
  | j + 1 => addF_inv (addF_inv (addF_inv (addF_inv (addF_inv (addF_inv (loopFs_inv h j) _) _) _) _) _) _
theorem loopFs_len (f : Int → Int) (ds : List Int) (m : Int) (k : Nat) (fs : List (Int × Int)) : ∀ j, (loopFs f ds m k fs j).length ≤ fs.length + 6 * j
  | 0 => by simp [loopFs]
  | j + 1 => by
    have ih := loopFs_len f ds m k fs j
    have s : ∀ (fs : List (Int × Int)) x, (addF f fs x).length ≤ fs.length + 1 := addF_len f
    show (pairFs f m _ _ _).length ≤ _
    unfold pairFs
    have := s (addF f (addF f (addF f (addF f (addF f (loopFs f ds m k fs j) (rolledV ds (k + 2 * j) m)) (rolledV ds (k + 2 * j + 1) m)) ((rolledV ds (k + 2 * j) m + rolledV ds (k + 2 * j + 1) m) % m)) (rolledV ds (k + 2 * j) m)) (rolledV ds (k + 2 * j + 1) m)) (rolledV ds (k + 2 * j) m * rolledV ds (k + 2 * j + 1) m % m)
    have := s (addF f (addF f (addF f (addF f (loopFs f ds m k fs j) (rolledV ds (k + 2 * j) m)) (rolledV ds (k + 2 * j + 1) m)) ((rolledV ds (k + 2 * j) m + rolledV ds (k + 2 * j + 1) m) % m)) (rolledV ds (k + 2 * j) m)) (rolledV ds (k + 2 * j + 1) m)
    have := s (addF f (addF f (addF f (loopFs f ds m k fs j) (rolledV ds (k + 2 * j) m)) (rolledV ds (k + 2 * j + 1) m)) ((rolledV ds (k + 2 * j) m + rolledV ds (k + 2 * j + 1) m) % m)) (rolledV ds (k + 2 * j) m)
    have := s (addF f (addF f (loopFs f ds m k fs j) (rolledV ds (k + 2 * j) m)) (rolledV ds (k + 2 * j + 1) m)) ((rolledV ds (k + 2 * j) m + rolledV ds (k + 2 * j + 1) m) % m)
    have := s (addF f (loopFs f ds m k fs j) (rolledV ds (k + 2 * j) m)) (rolledV ds (k + 2 * j + 1) m)
    have := s (loopFs f ds m k fs j) (rolledV ds (k + 2 * j) m)
    lia
theorem rolled_range (ds : List Int) (k : Nat) {m : Int} (hm : 0 < m) : 0 ≤ rolledV ds k m ∧ rolledV ds k m < m := by
  unfold rolledV
  split
  · exact ⟨Int.emod_nonneg _ (Int.ne_of_gt hm), Int.emod_lt_of_pos _ hm⟩
  · exact ⟨Int.emod_nonneg _ (Int.ne_of_gt hm), Int.emod_lt_of_pos _ hm⟩

section
variable {C : Cx}
set_option maxHeartbeats 8000000 in
theorem law_s8 (hC : PK C) {L fa c0 c1 c2 c3 c4 c5 c6 ax : Addr} {ns : List Int} {w m k : Nat} {ms os qs : List Int} {mi : Int} {S q : Str} {Sf : FnS} {rs : List Int} {fs : List (Int × Int)} (hI : IsForm C.K q Sf) (hq : Sf.qual = q) (ok : LawOk w m ms os qs mi) (pk : ∀ a b : Int, 0 ≤ a → a < m → 0 ≤ b → b < m → PairOk w m ms qs mi a b)
    (hk : k < 900) (hfs : ∀ p ∈ fs, p.2 = formV w ms qs mi p.1) (hz : fs.length ≤ 2000) :
    ExecsTo C 15 (lawAct (lawScope (KK C.w.params)) L fa c0 c1 c2 c3 c4 c5 c6) 22 (((lawBody (KK C.w.params)).drop 7).take 1) (lawF6 ax S) (lawS ns w m k ms os qs mi S q Sf fs none ++ [il rs]) .next (lawF6 ax S) (lawS ns w m (k + 2 * 6) ms os qs mi S q Sf (loopFs (formV w ms qs mi) (absL ns) m k fs 6) none ++ [il rs]) := by
  refine' law_lit ?run
  case run =>
    refine' exs_cons ?st exs_nil
    case st =>
      refine' ex_range 5 6 (fun j => lawF6 ax S) (fun j => lawS ns w m (k + 2 * j) ms os qs mi S q Sf (loopFs (formV w ms qs mi) (absL ns) m k fs j) none ++ [il rs]) ?i1 ?i2 ?e1 (by decide) ?hb
      case i1 => walk_at "m_at"
      case i2 => walk_at "m_mem"
      case e1 => walk_at "m_i1"; rfl
      case hb =>
        intro j hj
        have m0 := ok.m0
        have m1 := ok.m1
        have w1 := ok.w1
        have w12 := ok.w12
        have hmi : (0 : Int) < (m : Nat) := by lia
        have hfsj := loopFs_inv (f := formV w ms qs mi) (ds := absL ns) (m := (m : Nat)) (k := k) hfs j
        have hzj := loopFs_len (formV w ms qs mi) (absL ns) (m : Nat) k fs j
        obtain ⟨kj, hkj⟩ : ∃ kj, k + 2 * j = kj := ⟨_, rfl⟩
        have hk2 : k + 2 * (j + 1) = kj + 2 := by lia
        obtain ⟨a, ha⟩ : ∃ a, rolledV (absL ns) kj (m : Nat) = a := ⟨_, rfl⟩
        obtain ⟨b, hb⟩ : ∃ b, rolledV (absL ns) (kj + 1) (m : Nat) = b := ⟨_, rfl⟩
        have ra := rolled_range (absL ns) kj hmi
        have rb := rolled_range (absL ns) (kj + 1) hmi
        rw [ha] at ra
        rw [hb] at rb
        have p := pk a b ra.1 ra.2 rb.1 rb.2
        have rs1 : 0 ≤ (a + b) % (m : Int) ∧ (a + b) % (m : Int) < (m : Nat) := ⟨Int.emod_nonneg _ (Int.ne_of_gt hmi), Int.emod_lt_of_pos _ hmi⟩
        have rs2 : 0 ≤ a * b % (m : Int) ∧ a * b % (m : Int) < (m : Nat) := ⟨Int.emod_nonneg _ (Int.ne_of_gt hmi), Int.emod_lt_of_pos _ hmi⟩
        have estep : loopFs (formV w ms qs mi) (absL ns) m k fs (j + 1) = pairFs (formV w ms qs mi) m (loopFs (formV w ms qs mi) (absL ns) m k fs j) a b := by
          show pairFs _ _ _ _ _ = _
          rw [hkj, ha, hb]
        show ∃ F₁, ExecsTo _ _ _ _ _ _ (lawS ns w m (k + 2 * j) ms os qs mi S q Sf (loopFs (formV w ms qs mi) (absL ns) m k fs j) none ++ [il rs]) _ _ (lawS ns w m (k + 2 * (j + 1)) ms os qs mi S q Sf (loopFs (formV w ms qs mi) (absL ns) m k fs (j + 1)) none ++ [il rs]) ∧ _
        rw [estep, hk2, hkj]
        generalize loopFs (formV w ms qs mi) (absL ns) m k fs j = f0 at hfsj hzj
        have l0 : f0.length ≤ 3000 := by lia
        obtain ⟨f, hf⟩ : ∃ f, formV w ms qs mi = f := ⟨_, rfl⟩
        have i1 := addF_inv hfsj a
        have z1 := addF_len (formV w ms qs mi) f0 a
        have i2 := addF_inv i1 b
        have z2 := addF_len (formV w ms qs mi) (addF (formV w ms qs mi) f0 a) b
        have i3 := addF_inv i2 ((a + b) % (m : Int))
        have z3 := addF_len (formV w ms qs mi) (addF (formV w ms qs mi) (addF (formV w ms qs mi) f0 a) b) ((a + b) % (m : Int))
        have i4 := addF_inv i3 a
        have z4 := addF_len (formV w ms qs mi) (addF (formV w ms qs mi) (addF (formV w ms qs mi) (addF (formV w ms qs mi) f0 a) b) ((a + b) % (m : Int))) a
        have i5 := addF_inv i4 b
        have z5 := addF_len (formV w ms qs mi) (addF (formV w ms qs mi) (addF (formV w ms qs mi) (addF (formV w ms qs mi) (addF (formV w ms qs mi) f0 a) b) ((a + b) % (m : Int))) a) b
        unfold pairFs
        generalize hg1 : addF (formV w ms qs mi) f0 a = f1 at *
        generalize hg2 : addF (formV w ms qs mi) f1 b = f2 at *
        generalize hg3 : addF (formV w ms qs mi) f2 ((a + b) % (m : Int)) = f3 at *
        generalize hg4 : addF (formV w ms qs mi) f3 a = f4 at *
        generalize hg5 : addF (formV w ms qs mi) f4 b = f5 at *
        generalize hg6 : addF (formV w ms qs mi) f5 (a * b % (m : Int)) = f6 at *
        refine ⟨[some (.val (.ref ax)), some (.str S), some (.obj 21), none, none, none, none, none, none, none, none, none], ?_, .keep (.keep (.keep (.keep (.keep (.keep (.keep (.keep (.keep (.keep (.keep (.keep .nil)))))))))))⟩
        refine' exs_cons (F₁ := [some (.val (.ref ax)), some (.str S), some (.obj 21), none, none, none, some (.int a), some (.int b), none, none, none, none]) (H₁ := lawS ns w m (kj + 2) ms os qs mi S q Sf f0 none ++ [il rs, .tup [.int a, .int b]]) ?s1 ?_
        case s1 =>
          refine' Xm.weakPost (Xm.eqH (ex_pair (v₁ := .int a) (v₂ := .int b) (H₁ := lawS ns w m (kj + 1) ms os qs mi S q Sf f0 none ++ [il rs]) (H₂ := lawS ns w m (kj + 2) ms os qs mi S q Sf f0 none ++ [il rs]) 6 7 ?i1 ?i2 ?e1 ?e2) rfl) ?fs
          case i1 => walk_at "m_at"
          case i2 => walk_at "m_at"
          case fs => exact .keep (.keep (.keep (.keep (.keep (.drop (.keep (.keep (.keep (.keep (.keep (.keep .nil)))))))))))
          case e1 =>
            refine' ev_call (vs := [.obj 9, .int (m : Nat)]) (H₁ := lawS ns w m kj ms os qs mi S q Sf f0 none ++ [il rs]) ?c1 ?c2 ?c3 ?c4 rfl rfl rfl
            case c1 => walk_at "m_ev"
            case c2 =>
              refine' args_cons' (H₁ := lawS ns w m kj ms os qs mi S q Sf f0 none ++ [il rs]) ?f1 (args_cons' ?f2 args_nil' rfl) rfl
              case f1 => exact ev_cell 6 (by walk_at "m_in") rfl
              case f2 => exact ev_cell 5 (by walk_at "m_in") rfl
            case c3 =>
              rw [← ha]
              exact (rolled_ok hC (H := lawS ns w m kj ms os qs mi S q Sf f0 none ++ [il rs]) (c := 9) (k := kj) (dl := 8) (ds := absL ns) rfl rfl (by decide) hmi (by lia)).le (Nat.le_of_ble_eq_true rfl)
            case c4 => exact keep_of hC rfl
          case e2 =>
            refine' ev_call (vs := [.obj 9, .int (m : Nat)]) (H₁ := lawS ns w m (kj + 1) ms os qs mi S q Sf f0 none ++ [il rs]) ?c1 ?c2 ?c3 ?c4 rfl rfl rfl
            case c1 => walk_at "m_ev"
            case c2 =>
              refine' args_cons' (H₁ := lawS ns w m (kj + 1) ms os qs mi S q Sf f0 none ++ [il rs]) ?f1 (args_cons' ?f2 args_nil' rfl) rfl
              case f1 => exact ev_cell 6 (by walk_at "m_in") rfl
              case f2 => exact ev_cell 5 (by walk_at "m_in") rfl
            case c3 =>
              rw [← hb]
              exact (rolled_ok hC (H := lawS ns w m (kj + 1) ms os qs mi S q Sf f0 none ++ [il rs]) (c := 9) (k := kj + 1) (dl := 8) (ds := absL ns) rfl rfl (by decide) hmi (by lia)).le (Nat.le_of_ble_eq_true rfl)
            case c4 => exact keep_of hC rfl
        have fka := ok.fb a ra.1 ra.2
        have fkb := ok.fb b rb.1 rb.2
        have fkd := ok.fb _ rs2.1 rs2.2
        refine' exs_cons (F₁ := [some (.val (.ref ax)), some (.str S), some (.obj 21), none, none, none, some (.int a), some (.int b), none, none, none, none]) (H₁ := lawS ns w m (kj + 2) ms os qs mi S q Sf f3 none ++ [il rs, .tup [.int a, .int b]]) (ex_if (b := false) (H₁ := lawS ns w m (kj + 2) ms os qs mi S q Sf f3 none ++ [il rs, .tup [.int a, .int b]]) ?t1 exs_nil) ?_
        case t1 =>
          refine' Sm.testEq (test_cmp (x := (formV w ms qs mi a + formV w ms qs mi b) % m) (y := formV w ms qs mi ((a + b) % m)) (H₁ := lawS ns w m (kj + 2) ms os qs mi S q Sf f2 none ++ [il rs, .tup [.int a, .int b]]) ?a1 ?a2 (COp.ne _ _)) ?a3
          case a3 => rw [p.add]; simp
          case a1 =>
            refine' ev_bin (x := formV w ms qs mi a + formV w ms qs mi b) (y := (m : Nat)) (H₁ := lawS ns w m (kj + 2) ms os qs mi S q Sf f2 none ++ [il rs, .tup [.int a, .int b]]) (ev_bin (H₁ := lawS ns w m (kj + 2) ms os qs mi S q Sf f1 none ++ [il rs, .tup [.int a, .int b]]) ?b1 ?b2 (IOp.add _ _)) ?b3 (IOp.mod _ _ hmi)
            case b1 =>
              rw [← hg1]
              refine' ev_form hC hI hq (ok.form _ ra.1 ra.2) hfsj (by lia) ?h1 ?h2
              case h1 => walk_at "m_in"
              case h2 => walk_at "m_ev"
            case b2 =>
              rw [← hg2]
              refine' ev_form hC hI hq (ok.form _ rb.1 rb.2) i1 (by lia) ?h1 ?h2
              case h1 => walk_at "m_in"
              case h2 => walk_at "m_ev"
            case b3 => exact ev_cell 5 (by walk_at "m_in") rfl
          case a2 =>
            rw [← hg3]
            refine' ev_form hC hI hq (ok.form _ rs1.1 rs1.2) i2 (by lia) ?h1 ?h2
            case h1 => walk_at "m_in"
            case h2 =>
              refine' ev_bin (x := a + b) (y := (m : Nat)) (ev_bin ?b1 ?b2 (IOp.add _ _)) ?b3 (IOp.mod _ _ hmi)
              case b1 => walk_at "m_ev"
              case b2 => walk_at "m_ev"
              case b3 => exact ev_cell 5 (by walk_at "m_in") rfl
        refine' exs_cons (F₁ := [some (.val (.ref ax)), some (.str S), some (.obj 21), none, none, none, some (.int a), some (.int b), some (.obj 25), none, none, none]) (H₁ := lawS ns w m (kj + 2) ms os qs mi S q Sf f5 none ++ [il rs, .tup [.int a, .int b], il (limbs w (formV w ms qs mi a)), il (limbs w (formV w ms qs mi b)), .list [.obj 23, .obj 24]]) ?s3 ?_
        case s3 =>
          refine' Xm.eqH (ex_assign (v := .obj 25) (H₁ := lawS ns w m (kj + 2) ms os qs mi S q Sf f5 none ++ [il rs, .tup [.int a, .int b], il (limbs w (formV w ms qs mi a)), il (limbs w (formV w ms qs mi b))] ++ [.list [.obj 23, .obj 24]]) 8 ?i1 ?e1) rfl
          case i1 => walk_at "m_at"
          case e1 =>
            refine' ev_list (vs := [.obj 23, .obj 24]) (H₁ := lawS ns w m (kj + 2) ms os qs mi S q Sf f5 none ++ [il rs, .tup [.int a, .int b], il (limbs w (formV w ms qs mi a)), il (limbs w (formV w ms qs mi b))]) ?a1 (by decide)
            case a1 =>
              refine' args_cons' (H₁ := lawS ns w m (kj + 2) ms os qs mi S q Sf f4 none ++ [il rs, .tup [.int a, .int b], il (limbs w (formV w ms qs mi a))]) ?f1 (args_cons' (H₁ := lawS ns w m (kj + 2) ms os qs mi S q Sf f5 none ++ [il rs, .tup [.int a, .int b], il (limbs w (formV w ms qs mi a)), il (limbs w (formV w ms qs mi b))]) ?f2 args_nil' rfl) rfl
              case f1 =>
                refine' Sm.eqH (ev_call (vs := [.int (formV w ms qs mi a), .int (w : Nat)]) (H₁ := lawS ns w m (kj + 2) ms os qs mi S q Sf f4 none ++ [il rs, .tup [.int a, .int b]]) (H₂ := lawS ns w m (kj + 2) ms os qs mi S q Sf f4 none ++ [il rs, .tup [.int a, .int b]] ++ [il (limbs w (formV w ms qs mi a))]) ?c1 ?c2 ?c3 ?c4 rfl rfl rfl) rfl
                case c1 => walk_at "m_ev"
                case c2 =>
                  refine' args_cons' (H₁ := lawS ns w m (kj + 2) ms os qs mi S q Sf f4 none ++ [il rs, .tup [.int a, .int b]]) ?g1 (args_cons' ?g2 args_nil' rfl) rfl
                  case g2 => exact ev_cell 0 (by walk_at "m_in") rfl
                  case g1 =>
                    rw [← hg4]
                    refine' ev_form hC hI hq (ok.form _ ra.1 ra.2) i3 (by lia) ?h1 ?h2
                    case h1 => walk_at "m_in"
                    case h2 => walk_at "m_ev"
                case c3 => exact (law_limbs_ok hC (H := lawS ns w m (kj + 2) ms os qs mi S q Sf f4 none ++ [il rs, .tup [.int a, .int b]]) w1 w12 (by lia)).le (Nat.le_of_ble_eq_true rfl)
                case c4 => exact keep_of hC rfl
              case f2 =>
                refine' Sm.eqH (ev_call (vs := [.int (formV w ms qs mi b), .int (w : Nat)]) (H₁ := lawS ns w m (kj + 2) ms os qs mi S q Sf f5 none ++ [il rs, .tup [.int a, .int b], il (limbs w (formV w ms qs mi a))]) (H₂ := lawS ns w m (kj + 2) ms os qs mi S q Sf f5 none ++ [il rs, .tup [.int a, .int b], il (limbs w (formV w ms qs mi a))] ++ [il (limbs w (formV w ms qs mi b))]) ?c1 ?c2 ?c3 ?c4 rfl rfl rfl) rfl
                case c1 => walk_at "m_ev"
                case c2 =>
                  refine' args_cons' (H₁ := lawS ns w m (kj + 2) ms os qs mi S q Sf f5 none ++ [il rs, .tup [.int a, .int b], il (limbs w (formV w ms qs mi a))]) ?g1 (args_cons' ?g2 args_nil' rfl) rfl
                  case g2 => exact ev_cell 0 (by walk_at "m_in") rfl
                  case g1 =>
                    rw [← hg5]
                    refine' ev_form hC hI hq (ok.form _ rb.1 rb.2) i4 (by lia) ?h1 ?h2
                    case h1 => walk_at "m_in"
                    case h2 => walk_at "m_ev"
                case c3 => exact (law_limbs_ok hC (H := lawS ns w m (kj + 2) ms os qs mi S q Sf f5 none ++ [il rs, .tup [.int a, .int b], il (limbs w (formV w ms qs mi a))]) w1 w12 (by lia)).le (Nat.le_of_ble_eq_true rfl)
                case c4 => exact keep_of hC rfl
        refine' exs_cons (F₁ := [some (.val (.ref ax)), some (.str S), some (.obj 21), none, none, none, some (.int a), some (.int b), some (.obj 25), some (.obj 26), none, none]) (H₁ := lawS ns w m (kj + 2) ms os qs mi S q Sf f6 none ++ [il rs, .tup [.int a, .int b], il (limbs w (formV w ms qs mi a)), il (limbs w (formV w ms qs mi b)), .list [.obj 23, .obj 24], il (limbs w (formV w ms qs mi (a * b % (m : Int))))]) ?s4 ?_
        case s4 =>
          refine' Xm.eqH (ex_assign (v := .obj 26) (H₁ := lawS ns w m (kj + 2) ms os qs mi S q Sf f6 none ++ [il rs, .tup [.int a, .int b], il (limbs w (formV w ms qs mi a)), il (limbs w (formV w ms qs mi b)), .list [.obj 23, .obj 24]] ++ [il (limbs w (formV w ms qs mi (a * b % (m : Int))))]) 9 ?i1 ?e1) rfl
          case i1 => walk_at "m_at"
          case e1 =>
            refine' ev_call (vs := [.int (formV w ms qs mi (a * b % (m : Int))), .int (w : Nat)]) (H₁ := lawS ns w m (kj + 2) ms os qs mi S q Sf f6 none ++ [il rs, .tup [.int a, .int b], il (limbs w (formV w ms qs mi a)), il (limbs w (formV w ms qs mi b)), .list [.obj 23, .obj 24]]) ?c1 ?c2 ?c3 ?c4 rfl rfl rfl
            case c1 => walk_at "m_ev"
            case c2 =>
              refine' args_cons' (H₁ := lawS ns w m (kj + 2) ms os qs mi S q Sf f6 none ++ [il rs, .tup [.int a, .int b], il (limbs w (formV w ms qs mi a)), il (limbs w (formV w ms qs mi b)), .list [.obj 23, .obj 24]]) ?g1 (args_cons' ?g2 args_nil' rfl) rfl
              case g2 => exact ev_cell 0 (by walk_at "m_in") rfl
              case g1 =>
                rw [← hg6]
                refine' ev_form hC hI hq (ok.form _ rs2.1 rs2.2) i5 (by lia) ?h1 ?h2
                case h1 => walk_at "m_in"
                case h2 =>
                  refine' ev_bin (x := a * b) (y := (m : Nat)) (ev_bin ?b1 ?b2 (IOp.mul _ _ (by lia) (by lia))) ?b3 (IOp.mod _ _ hmi)
                  case b1 => walk_at "m_ev"
                  case b2 => walk_at "m_ev"
                  case b3 => exact ev_cell 5 (by walk_at "m_in") rfl
            case c3 => exact (law_limbs_ok hC (H := lawS ns w m (kj + 2) ms os qs mi S q Sf f6 none ++ [il rs, .tup [.int a, .int b], il (limbs w (formV w ms qs mi a)), il (limbs w (formV w ms qs mi b)), .list [.obj 23, .obj 24]]) w1 w12 (by lia)).le (Nat.le_of_ble_eq_true rfl)
            case c4 => exact keep_of hC rfl
        generalize hf6 : f6 = fz
        refine' exs_cons ?st exs_nil
        case st =>
          refine' Xm.dropC [.tup [.int a, .int b], il (limbs w (formV w ms qs mi a)), il (limbs w (formV w ms qs mi b)), .list [.obj 23, .obj 24], il (limbs w (formV w ms qs mi (a * b % (m : Int)))), il (limbs w (formV w ms qs mi (a * b % (m : Int)))), il (limbs w (formV w ms qs mi (a * b % (m : Int))))] (ex_if (b := false) (H₁ := lawS ns w m (kj + 2) ms os qs mi S q Sf fz none ++ [il rs, .tup [.int a, .int b], il (limbs w (formV w ms qs mi a)), il (limbs w (formV w ms qs mi b)), .list [.obj 23, .obj 24], il (limbs w (formV w ms qs mi (a * b % (m : Int))))] ++ [il (limbs w (formV w ms qs mi (a * b % (m : Int))))] ++ [il (limbs w (formV w ms qs mi (a * b % (m : Int))))]) ?t1 exs_nil) ?hH rfl lawS_low ?hch ?hf
          case hH => rfl
          case hch =>
            intro p hp
            have : ∀ p ∈ lawCh, p.2 < 22 := by decide
            exact this p hp
          case hf => exact .keep (.val _) (.keep (.str _) (.keep (.obj (dropσ_old (show 21 < 22 from by decide))) (.skip (.skip (.skip (.skip (.skip (.skip (.skip (.skip (.skip .nil)))))))))))
          case t1 =>
            refine' test_or_f (H₁ := lawS ns w m (kj + 2) ms os qs mi S q Sf fz none ++ [il rs, .tup [.int a, .int b], il (limbs w (formV w ms qs mi a)), il (limbs w (formV w ms qs mi b)), .list [.obj 23, .obj 24], il (limbs w (formV w ms qs mi (a * b % (m : Int))))] ++ [il (limbs w (formV w ms qs mi (a * b % (m : Int))))]) ?u1 (test_or_f (H₁ := lawS ns w m (kj + 2) ms os qs mi S q Sf fz none ++ [il rs, .tup [.int a, .int b], il (limbs w (formV w ms qs mi a)), il (limbs w (formV w ms qs mi b)), .list [.obj 23, .obj 24], il (limbs w (formV w ms qs mi (a * b % (m : Int))))] ++ [il (limbs w (formV w ms qs mi (a * b % (m : Int))))] ++ [il (limbs w (formV w ms qs mi (a * b % (m : Int))))]) ?u2 test_or_nil)
            case u1 =>
              refine' Sm.testEq (test_eqL (i := 27) (j := 26) (x := limbs w (formV w ms qs mi (a * b % (m : Int)))) (y := limbs w (formV w ms qs mi (a * b % (m : Int)))) (H₁ := lawS ns w m (kj + 2) ms os qs mi S q Sf fz none ++ [il rs, .tup [.int a, .int b], il (limbs w (formV w ms qs mi a)), il (limbs w (formV w ms qs mi b)), .list [.obj 23, .obj 24], il (limbs w (formV w ms qs mi (a * b % (m : Int))))] ++ [il (limbs w (formV w ms qs mi (a * b % (m : Int))))]) (by decide) ?e1 ?e2 rfl rfl (EOp.ne _ _)) (by simp)
              case e2 => walk_at "m_ev"
              case e1 =>
                refine' ev_call (vs := [.obj 23, .obj 24, .obj 15, .int (w : Nat), .val (.ref 191)]) (H₁ := lawS ns w m (kj + 2) ms os qs mi S q Sf fz none ++ [il rs, .tup [.int a, .int b], il (limbs w (formV w ms qs mi a)), il (limbs w (formV w ms qs mi b)), .list [.obj 23, .obj 24], il (limbs w (formV w ms qs mi (a * b % (m : Int))))]) ?c1 ?c2 ?c3 ?c4 rfl rfl rfl
                case c1 => walk_at "m_ev"
                case c2 =>
                  refine' args_cons' (H₁ := lawS ns w m (kj + 2) ms os qs mi S q Sf fz none ++ [il rs, .tup [.int a, .int b], il (limbs w (formV w ms qs mi a)), il (limbs w (formV w ms qs mi b)), .list [.obj 23, .obj 24], il (limbs w (formV w ms qs mi (a * b % (m : Int))))]) ?g1 (args_cons' (H₁ := lawS ns w m (kj + 2) ms os qs mi S q Sf fz none ++ [il rs, .tup [.int a, .int b], il (limbs w (formV w ms qs mi a)), il (limbs w (formV w ms qs mi b)), .list [.obj 23, .obj 24], il (limbs w (formV w ms qs mi (a * b % (m : Int))))]) ?g2 (args_cons' (H₁ := lawS ns w m (kj + 2) ms os qs mi S q Sf fz none ++ [il rs, .tup [.int a, .int b], il (limbs w (formV w ms qs mi a)), il (limbs w (formV w ms qs mi b)), .list [.obj 23, .obj 24], il (limbs w (formV w ms qs mi (a * b % (m : Int))))]) ?g3 (args_cons' (H₁ := lawS ns w m (kj + 2) ms os qs mi S q Sf fz none ++ [il rs, .tup [.int a, .int b], il (limbs w (formV w ms qs mi a)), il (limbs w (formV w ms qs mi b)), .list [.obj 23, .obj 24], il (limbs w (formV w ms qs mi (a * b % (m : Int))))]) ?g4 (args_cons' ?g5 args_nil' rfl) rfl) rfl) rfl) rfl
                  case g1 =>
                    refine' ev_item (h := 25) (i := 0) (xs := [.obj 23, .obj 24]) (H₁ := lawS ns w m (kj + 2) ms os qs mi S q Sf fz none ++ [il rs, .tup [.int a, .int b], il (limbs w (formV w ms qs mi a)), il (limbs w (formV w ms qs mi b)), .list [.obj 23, .obj 24], il (limbs w (formV w ms qs mi (a * b % (m : Int))))]) ?o1 ?o2 rfl (by decide) rfl
                    case o1 => walk_at "m_ev"
                    case o2 => walk_at "m_ev"
                  case g2 =>
                    refine' ev_item (h := 25) (i := 1) (xs := [.obj 23, .obj 24]) (H₁ := lawS ns w m (kj + 2) ms os qs mi S q Sf fz none ++ [il rs, .tup [.int a, .int b], il (limbs w (formV w ms qs mi a)), il (limbs w (formV w ms qs mi b)), .list [.obj 23, .obj 24], il (limbs w (formV w ms qs mi (a * b % (m : Int))))]) ?o1 ?o2 rfl (by decide) rfl
                    case o1 => walk_at "m_ev"
                    case o2 => walk_at "m_ev"
                  case g3 => exact ev_cell 1 (by walk_at "m_in") rfl
                  case g4 => exact ev_cell 0 (by walk_at "m_in") rfl
                  case g5 => walk_at "m_ev"
                case c3 =>
                  have h := mont_mul_ok hC (H := lawS ns w m (kj + 2) ms os qs mi S q Sf fz none ++ [il rs, .tup [.int a, .int b], il (limbs w (formV w ms qs mi a)), il (limbs w (formV w ms qs mi b)), .list [.obj 23, .obj 24], il (limbs w (formV w ms qs mi (a * b % (m : Int))))]) (h := 23) (h' := 24) (t := 15) (d := 14) (k := 11) (o := 12) (q := 13) (os := os) (qs := qs) rfl rfl p.fa p.fb ⟨rfl, rfl, rfl, rfl, rfl⟩ p.mul
                  rw [p.mulE] at h
                  exact h.le (Nat.le_of_ble_eq_true rfl)
                case c4 => exact keep_of hC rfl
            case u2 =>
              refine' Sm.testEq (test_eqL (i := 28) (j := 26) (x := limbs w (formV w ms qs mi (a * b % (m : Int)))) (y := limbs w (formV w ms qs mi (a * b % (m : Int)))) (H₁ := lawS ns w m (kj + 2) ms os qs mi S q Sf fz none ++ [il rs, .tup [.int a, .int b], il (limbs w (formV w ms qs mi a)), il (limbs w (formV w ms qs mi b)), .list [.obj 23, .obj 24], il (limbs w (formV w ms qs mi (a * b % (m : Int))))] ++ [il (limbs w (formV w ms qs mi (a * b % (m : Int))))] ++ [il (limbs w (formV w ms qs mi (a * b % (m : Int))))]) (by decide) ?e1 ?e2 rfl rfl (EOp.ne _ _)) (by simp)
              case e2 => walk_at "m_ev"
              case e1 =>
                refine' ev_call (vs := [.obj 23, .obj 24, .obj 15, .int (w : Nat)]) (H₁ := lawS ns w m (kj + 2) ms os qs mi S q Sf fz none ++ [il rs, .tup [.int a, .int b], il (limbs w (formV w ms qs mi a)), il (limbs w (formV w ms qs mi b)), .list [.obj 23, .obj 24], il (limbs w (formV w ms qs mi (a * b % (m : Int))))] ++ [il (limbs w (formV w ms qs mi (a * b % (m : Int))))]) ?c1 ?c2 ?c3 ?c4 rfl rfl rfl
                case c1 => walk_at "m_ev"
                case c2 =>
                  refine' args_cons' (H₁ := lawS ns w m (kj + 2) ms os qs mi S q Sf fz none ++ [il rs, .tup [.int a, .int b], il (limbs w (formV w ms qs mi a)), il (limbs w (formV w ms qs mi b)), .list [.obj 23, .obj 24], il (limbs w (formV w ms qs mi (a * b % (m : Int))))] ++ [il (limbs w (formV w ms qs mi (a * b % (m : Int))))]) ?g1 (args_cons' (H₁ := lawS ns w m (kj + 2) ms os qs mi S q Sf fz none ++ [il rs, .tup [.int a, .int b], il (limbs w (formV w ms qs mi a)), il (limbs w (formV w ms qs mi b)), .list [.obj 23, .obj 24], il (limbs w (formV w ms qs mi (a * b % (m : Int))))] ++ [il (limbs w (formV w ms qs mi (a * b % (m : Int))))]) ?g2 (args_cons' (H₁ := lawS ns w m (kj + 2) ms os qs mi S q Sf fz none ++ [il rs, .tup [.int a, .int b], il (limbs w (formV w ms qs mi a)), il (limbs w (formV w ms qs mi b)), .list [.obj 23, .obj 24], il (limbs w (formV w ms qs mi (a * b % (m : Int))))] ++ [il (limbs w (formV w ms qs mi (a * b % (m : Int))))]) ?g3 (args_cons' ?g4 args_nil' rfl) rfl) rfl) rfl
                  case g1 =>
                    refine' ev_item (h := 25) (i := 0) (xs := [.obj 23, .obj 24]) (H₁ := lawS ns w m (kj + 2) ms os qs mi S q Sf fz none ++ [il rs, .tup [.int a, .int b], il (limbs w (formV w ms qs mi a)), il (limbs w (formV w ms qs mi b)), .list [.obj 23, .obj 24], il (limbs w (formV w ms qs mi (a * b % (m : Int))))] ++ [il (limbs w (formV w ms qs mi (a * b % (m : Int))))]) ?o1 ?o2 rfl (by decide) rfl
                    case o1 => walk_at "m_ev"
                    case o2 => walk_at "m_ev"
                  case g2 =>
                    refine' ev_item (h := 25) (i := 1) (xs := [.obj 23, .obj 24]) (H₁ := lawS ns w m (kj + 2) ms os qs mi S q Sf fz none ++ [il rs, .tup [.int a, .int b], il (limbs w (formV w ms qs mi a)), il (limbs w (formV w ms qs mi b)), .list [.obj 23, .obj 24], il (limbs w (formV w ms qs mi (a * b % (m : Int))))] ++ [il (limbs w (formV w ms qs mi (a * b % (m : Int))))]) ?o1 ?o2 rfl (by decide) rfl
                    case o1 => walk_at "m_ev"
                    case o2 => walk_at "m_ev"
                  case g3 => exact ev_cell 1 (by walk_at "m_in") rfl
                  case g4 => exact ev_cell 0 (by walk_at "m_in") rfl
                case c3 =>
                  have h := mont_rows_ok hC (H := lawS ns w m (kj + 2) ms os qs mi S q Sf fz none ++ [il rs, .tup [.int a, .int b], il (limbs w (formV w ms qs mi a)), il (limbs w (formV w ms qs mi b)), .list [.obj 23, .obj 24], il (limbs w (formV w ms qs mi (a * b % (m : Int))))] ++ [il (limbs w (formV w ms qs mi (a * b % (m : Int))))]) (h := 23) (h' := 24) (t := 15) (d := 14) (k := 11) (o := 12) (q := 13) (os := os) (qs := qs) rfl rfl ⟨rfl, rfl, rfl, rfl, rfl⟩ p.rows
                  rw [p.rowsE] at h
                  exact h.le (Nat.le_of_ble_eq_true rfl)
                case c4 => exact keep_of hC rfl
end

noncomputable def inVals (fs : List (Int × Int)) (y : Nat) : Bool := (fs.map (·.2)).contains (y : Int)
noncomputable def valsL (fs : List (Int × Int)) (j : Nat) : List Int := ((List.range j).filter (inVals fs)).map fun (y : Nat) => (y : Int)
theorem valsL_succ (fs : List (Int × Int)) (j : Nat) : valsL fs (j + 1) = if inVals fs j then valsL fs j ++ [(j : Int)] else valsL fs j := by
  unfold valsL
  rw [List.range_succ, List.filter_append]
  cases h : inVals fs j <;> simp [h]
theorem valsL_len (fs : List (Int × Int)) (j : Nat) : (valsL fs j).length ≤ j := by
  unfold valsL
  rw [List.length_map]
  exact Nat.le_trans (List.length_filter_le _ _) (by simp)

section
variable {C : Cx}
set_option maxHeartbeats 8000000 in
theorem law_s9 (hC : PK C) {L fa c0 c1 c2 c3 c4 c5 c6 ax : Addr} {ns : List Int} {w m k : Nat} {ms os qs : List Int} {mi : Int} {S q : Str} {Sf : FnS} {rs : List Int} {fs : List (Int × Int)} (hm : m < 1000) (hz : fs.length ≤ 4000) (hcnt : (fs.length : Int) = ((valsL fs m).length : Nat)) :
    ExecsTo C 15 (lawAct (lawScope (KK C.w.params)) L fa c0 c1 c2 c3 c4 c5 c6) 22 (((lawBody (KK C.w.params)).drop 8).take 1) (lawF6 ax S) (lawS ns w m k ms os qs mi S q Sf fs none ++ [il rs]) .next (lawF6 ax S) (lawS ns w m k ms os qs mi S q Sf fs none ++ [il rs]) := by
  refine' law_lit ?run
  case run =>
    refine' exs_cons ?st exs_nil
    case st =>
      refine' Xm.dropC [il (valsL fs m)] (ex_if (b := false) (H₁ := lawS ns w m k ms os qs mi S q Sf fs none ++ [il rs] ++ [il (valsL fs m)]) ?t1 exs_nil) ?hH rfl lawS_low ?hch ?hf
      case hH => rfl
      case hch =>
        intro p hp
        have : ∀ p ∈ lawCh, p.2 < 22 := by decide
        exact this p hp
      case hf => exact .keep (.val _) (.keep (.str _) (.keep (.obj (dropσ_old (show 21 < 22 from by decide))) (.skip (.skip (.skip (.skip (.skip (.skip (.skip (.skip (.skip .nil)))))))))))
      case t1 =>
        refine' Sm.testEq (test_cmp (x := (fs.length : Nat)) (y := ((valsL fs m).length : Nat)) (H₁ := lawS ns w m k ms os qs mi S q Sf fs none ++ [il rs]) ?a1 ?a2 (COp.ne _ _)) ?a3
        case a3 => rw [hcnt]; simp
        case a1 =>
          refine' Sm.intEq (ev_call_builtin (vs := [.obj 17]) (v := .int (((fs.map fun p => (p.1, AV.int p.2)).length : Nat) : Int)) (H₁ := lawS ns w m k ms os qs mi S q Sf fs none ++ [il rs]) ?c1 ?c2 ?c3 rfl rfl rfl) (by simp)
          case c1 => walk_at "m_ev"
          case c2 =>
            refine' args_cons' ?g1 args_nil' rfl
            case g1 => exact ev_cell 2 (by walk_at "m_in") rfl
          case c3 => exact len_callD rfl (by rw [List.length_map]; lia)
        case a2 =>
          refine' ev_call_builtin (vs := [.obj 22]) (H₁ := lawS ns w m k ms os qs mi S q Sf fs none ++ [il rs] ++ [il (valsL fs m)]) ?c1 ?c2 ?c3 rfl rfl rfl
          case c1 => walk_at "m_ev"
          case c3 => exact len_call_il rfl
          case c2 =>
            refine' args_cons' ?g1 args_nil' rfl
            case g1 =>
              refine' ev_comp_range (k := (m : Nat)) (H₁ := lawS ns w m k ms os qs mi S q Sf fs none ++ [il rs]) (F' := [none]) [("forms", c2)] ["form"] [] [("forms", 2)] 0 ?b1 ?b2 ?b3 (by lia) (by lia) rfl rfl (fun _ h => nomatch h) rfl ?hch ?LC
              case b1 => walk_at "m_at"
              case b2 => walk_at "m_mem"
              case b3 => exact ev_cell 5 (by walk_at "m_in") rfl
              case hch =>
                intro p hp
                cases List.mem_singleton.mp hp
                exact ⟨by walk_at "m_in", rfl⟩
              case LC =>
                intro L'
                rw [Int.toNat_natCast]
                refine' comp_range_all m (fun _ => [none]) (fun j => lawS ns w m k ms os qs mi S q Sf fs none ++ [il rs] ++ [il (valsL fs j)]) ?hb
                intro j hj
                have hl := valsL_len fs j
                show CompTurn _ _ _ _ _ _ _ _ _ _ (lawS ns w m k ms os qs mi S q Sf fs none ++ [il rs] ++ [il (valsL fs (j + 1))])
                rw [valsL_succ]
                cases hv : inVals fs j with
                | true =>
                  rw [if_pos rfl]
                  refine' CompTurn.eqH (CompTurn.plain (xs := (valsL fs j).map .int) (v := .int (j : Nat)) (H₀ := lawS ns w m k ms os qs mi S q Sf fs none ++ [il rs] ++ [il (valsL fs j)]) (H₁ := lawS ns w m k ms os qs mi S q Sf fs none ++ [il rs] ++ [il (valsL fs j)]) ?ht ?he rfl ?hz (.drop .nil)) ?hH
                  case ht =>
                    refine' Sm.testEq (test_in_values (fs := fs) (k := (j : Nat)) (d := 17) ?x1 ?x2 rfl) hv
                    case x1 => walk_at "m_ev"
                    case x2 => exact ev_cell 2 (.head _) rfl
                  case he => walk_at "m_ev"
                  case hz => rw [List.length_map]; lia
                  case hH =>
                    have e : AO.list ((valsL fs j).map AV.int ++ [AV.int (j : Nat)]) = il (valsL fs j ++ [(j : Int)]) := by simp [il]
                    rw [e]; rfl
                | false =>
                  rw [if_neg (by decide)]
                  refine' CompTurn.skip ?ht2 (.drop .nil)
                  case ht2 =>
                    refine' Sm.testEq (test_in_values (fs := fs) (k := (j : Nat)) (d := 17) ?y1 ?y2 rfl) hv
                    case y1 => walk_at "m_ev"
                    case y2 => exact ev_cell 2 (.head _) rfl
end

section
variable {C : Cx}
set_option maxHeartbeats 8000000 in
theorem law_s10 (hC : PK C) {L fa c0 c1 c2 c3 c4 c5 c6 ax : Addr} {ns : List Int} {w m k : Nat} {ms os qs : List Int} {mi : Int} {S q : Str} {Sf : FnS} {rs : List Int} {fs : List (Int × Int)} (hI : IsForm C.K q Sf) (hq : Sf.qual = q) (ok : LawOk w m ms os qs mi) (hfs : ∀ p ∈ fs, p.2 = formV w ms qs mi p.1) (hz : fs.length ≤ 4000)
    (fo : Fine os) (fow : w * os.length ≤ 60) (hone : formV w ms qs mi (1 % (m : Int)) = numL w os) :
    ExecsTo C 15 (lawAct (lawScope (KK C.w.params)) L fa c0 c1 c2 c3 c4 c5 c6) 22 (((lawBody (KK C.w.params)).drop 9).take 1) (lawF6 ax S) (lawS ns w m k ms os qs mi S q Sf fs none ++ [il rs]) .next (lawF6 ax S) (lawS ns w m k ms os qs mi S q Sf (addF (formV w ms qs mi) fs (1 % (m : Int))) none ++ [il rs]) := by
  have m0 := ok.m0
  have w12 := ok.w12
  have hmi : (0 : Int) < (m : Nat) := by lia
  have r1 : 0 ≤ 1 % (m : Int) ∧ 1 % (m : Int) < (m : Nat) := ⟨Int.emod_nonneg _ (Int.ne_of_gt hmi), Int.emod_lt_of_pos _ hmi⟩
  have hl := fo.1
  refine' law_lit ?run
  case run =>
    refine' exs_cons (ex_if (b := false) (H₁ := lawS ns w m k ms os qs mi S q Sf (addF (formV w ms qs mi) fs (1 % (m : Int))) none ++ [il rs]) ?t1 exs_nil) exs_nil
    case t1 =>
      refine' Sm.testEq (test_cmp (x := formV w ms qs mi (1 % (m : Int))) (y := numL w os) (H₁ := lawS ns w m k ms os qs mi S q Sf (addF (formV w ms qs mi) fs (1 % (m : Int))) none ++ [il rs]) ?a1 ?a2 (COp.ne _ _)) ?a3
      case a3 => rw [hone]; simp
      case a1 =>
        refine' ev_form hC hI hq (ok.form _ r1.1 r1.2) hfs (by lia) ?h1 ?h2
        case h1 => walk_at "m_in"
        case h2 =>
          refine' ev_bin (x := 1) (y := (m : Nat)) ?b1 ?b2 (IOp.mod _ _ hmi)
          case b1 => walk_at "m_ev"
          case b2 => exact ev_cell 5 (by walk_at "m_in") rfl
      case a2 =>
        generalize addF (formV w ms qs mi) fs (1 % (m : Int)) = f1
        have hI' : (lawS ns w m k ms os qs mi S q Sf f1 none ++ [il rs])[15]? = some (.inst 117 14) := rfl
        have hD' : (lawS ns w m k ms os qs mi S q Sf f1 none ++ [il rs])[14]? = some (.ndict mNames [.obj 11, .int mi, .obj 12, .obj 13]) := rfl
        refine' ev_call (vs := [.obj 12, .int (w : Nat)]) (H₁ := lawS ns w m k ms os qs mi S q Sf f1 none ++ [il rs]) ?c1 ?c2 ?c3 ?c4 rfl rfl rfl
        case c1 => walk_at "m_ev"
        case c2 =>
          refine' args_cons' (H₁ := lawS ns w m k ms os qs mi S q Sf f1 none ++ [il rs]) ?g1 (args_cons' ?g2 args_nil' rfl) rfl
          case g2 => exact ev_cell 0 (by walk_at "m_in") rfl
          case g1 =>
            refine' ev_attr (h := 15) (d := 14) (clsK hC) (ev_cell 1 ?i9 rfl) hI' hD' ?k9 (noAttr hC rfl) nofun
            case i9 => walk_at "m_in"
            case k9 => walk_at "m_kv"
        case c3 => exact (law_number_ok hC (H := lawS ns w m k ms os qs mi S q Sf f1 none ++ [il rs]) (h := 12) rfl fo.2 fow (by lia) (by lia)).le (Nat.le_of_ble_eq_true rfl)
        case c4 => exact keep_of hC rfl
end

section
variable {C : Cx}
set_option maxHeartbeats 8000000 in
theorem law_s12 (hC : PK C) {L fa c0 c1 c2 c3 c4 c5 c6 ax : Addr} {ns : List Int} {w m k : Nat} {ms os qs : List Int} {mi : Int} {S q : Str} {Sf : FnS} {fs : List (Int × Int)} {row : Option AV} {t : List AO} {F : List (Option AV)} (ok : ShowOk ms os qs mi) (hF : F[1]? = some (some (.str (toldD ms os qs mi).shown))) :
    ∃ H', ExecsTo C 15 (lawAct (lawScope (KK C.w.params)) L fa c0 c1 c2 c3 c4 c5 c6) 7 (((lawBody (KK C.w.params)).drop 11).take 1) F (lawS ns w m k ms os qs mi S q Sf fs row ++ t) (.ret (.bool true)) F H' := by
  refine ⟨lawS ns w m k ms os qs mi S q Sf fs row ++ t ++ [.tup [.obj 11, .int mi, .obj 12, .obj 13]], ?_⟩
  refine' law_lit ?run
  case run =>
    refine' exs_ret (ex_return ?rt)
    case rt =>
      have hI : (lawS ns w m k ms os qs mi S q Sf fs row ++ t)[15]? = some (.inst 117 14) := rfl
      have hD : (lawS ns w m k ms os qs mi S q Sf fs row ++ t)[14]? = some (.ndict mNames [.obj 11, .int mi, .obj 12, .obj 13]) := rfl
      refine' Sm.valEq (ev_eq_str (x := (toldD ms os qs mi).shown) (y := (toldD ms os qs mi).shown) ?e1 ?e2) (by simp)
      case e2 =>
        refine' ev_local 1 ?i1 hF
        case i1 => walk_at "m_at"
      case e1 =>
        refine' ev_call_builtin (vs := [.obj (lawS ns w m k ms os qs mi S q Sf fs row ++ t).length]) (H₁ := lawS ns w m k ms os qs mi S q Sf fs row ++ t ++ [.tup [.obj 11, .int mi, .obj 12, .obj 13]]) ?c1 ?c2 ?c3 rfl rfl rfl
        case c1 => walk_at "m_ev"
        case c2 =>
          refine' args_cons' ?f1 args_nil' rfl
          case f1 =>
            refine' ev_tuple (vs := [.obj 11, .int mi, .obj 12, .obj 13]) (H₁ := lawS ns w m k ms os qs mi S q Sf fs row ++ t) ?a1 (Nat.le_of_ble_eq_true rfl)
            case a1 =>
              refine' args_cons' (H₁ := lawS ns w m k ms os qs mi S q Sf fs row ++ t) ?g1 (args_cons' (H₁ := lawS ns w m k ms os qs mi S q Sf fs row ++ t) ?g2 (args_cons' (H₁ := lawS ns w m k ms os qs mi S q Sf fs row ++ t) ?g3 (args_cons' (H₁ := lawS ns w m k ms os qs mi S q Sf fs row ++ t) ?g4 args_nil' rfl) rfl) rfl) rfl
              case g1 =>
                refine' ev_attr (h := 15) (d := 14) (clsK hC) (ev_cell 1 ?i9 rfl) hI hD ?k9 (noAttr hC rfl) nofun
                case i9 => walk_at "m_in"
                case k9 => walk_at "m_kv"
              case g2 =>
                refine' ev_attr (h := 15) (d := 14) (clsK hC) (ev_cell 1 ?i9 rfl) hI hD ?k9 (noAttr hC rfl) nofun
                case i9 => walk_at "m_in"
                case k9 => walk_at "m_kv"
              case g3 =>
                refine' ev_attr (h := 15) (d := 14) (clsK hC) (ev_cell 1 ?i9 rfl) hI hD ?k9 (noAttr hC rfl) nofun
                case i9 => walk_at "m_in"
                case k9 => walk_at "m_kv"
              case g4 =>
                refine' ev_attr (h := 15) (d := 14) (clsK hC) (ev_cell 1 ?i9 rfl) hI hD ?k9 (noAttr hC rfl) nofun
                case i9 => walk_at "m_in"
                case k9 => walk_at "m_kv"
        case c3 => exact repr_call (k := 11) (o := 12) (q := 13) hp_last rfl rfl rfl ok.s ok.d ok.z (by decide) ok.p
end

section
variable {C : Cx}
set_option maxHeartbeats 8000000 in
theorem law_s11_skip (hC : PK C) {L fa c0 c1 c2 c3 c4 c5 c6 ax : Addr} {ns : List Int} {w m k : Nat} {ms os qs : List Int} {mi : Int} {S q : Str} {Sf : FnS} {rs : List Int} {fs : List (Int × Int)} (hm : m = 1 ∨ 13 < m) :
    ExecsTo C 15 (lawAct (lawScope (KK C.w.params)) L fa c0 c1 c2 c3 c4 c5 c6) 22 (((lawBody (KK C.w.params)).drop 10).take 1) (lawF6 ax S) (lawS ns w m k ms os qs mi S q Sf fs none ++ [il rs]) .next (lawF6 ax S) (lawS ns w m k ms os qs mi S q Sf fs none ++ [il rs]) := by
  refine' law_lit ?run
  case run =>
    refine' exs_cons (ex_if (b := false) (H₁ := lawS ns w m k ms os qs mi S q Sf fs none ++ [il rs]) ?t1 exs_nil) exs_nil
    case t1 =>
      rcases hm with hm | hm
      · refine' test_chain_f (x := 1) (y := (m : Nat)) (H₁ := lawS ns w m k ms os qs mi S q Sf fs none ++ [il rs]) ?a1 ?a2 ?a4
        case a1 => walk_at "m_ev"
        case a2 => exact ev_cell 5 (by walk_at "m_in") rfl
        case a4 =>
          have := COp.lt 1 (m : Int)
          rwa [decide_eq_false (by lia)] at this
      · refine' Sm.testEq (test_chain (x := 1) (y := (m : Nat)) (z := 13) (H₁ := lawS ns w m k ms os qs mi S q Sf fs none ++ [il rs]) ?b1 ?b2 ?b3 ?b4 (COp.le _ _)) ?b5
        case b1 => walk_at "m_ev"
        case b2 => exact ev_cell 5 (by walk_at "m_in") rfl
        case b3 => walk_at "m_ev"
        case b4 =>
          have := COp.lt 1 (m : Int)
          rwa [decide_eq_true (by lia)] at this
        case b5 => exact decide_eq_false (by lia)
end

theorem LowO.bools {n : Nat} (bs : List Bool) : LowO n (bl bs) := fun v hv => by
  obtain ⟨i, _, rfl⟩ := List.mem_map.mp hv
  trivial
theorem lawS_low2 {ns : List Int} {w m k : Nat} {ms os qs : List Int} {mi : Int} {S q : Str} {Sf : FnS} {fs : List (Int × Int)} {rs R : List Int} {bs : List Bool} : Low (lawS ns w m k ms os qs mi S q Sf fs (some (.obj 22)) ++ [il rs, il R, bl bs]) := fun o h =>
  (List.mem_append.mp h).elim (lawS_lowN (row := some (.obj 22)) (n := 24) (by decide) (show 22 < 24 by decide) o) (allCons (.il _) (allCons (.il _) (allCons (.bools _) allNil)) o)

noncomputable def ansL (w : Nat) (ms os qs : List Int) (mi c : Int) (j : Nat) : List Bool := (List.range j).map fun (y : Nat) => decide (redL (schoolL (limbs w (formV w ms qs mi c)) (limbs w (formV w ms qs mi (y : Int))) w) ms mi w = os)
noncomputable def rangeFs (f : Int → Int) (fs : List (Int × Int)) (j : Nat) : List (Int × Int) := addAll f fs ((List.range j).map fun (y : Nat) => (y : Int))
theorem rangeFs_succ (f : Int → Int) (fs : List (Int × Int)) (j : Nat) : rangeFs f fs (j + 1) = addF f (rangeFs f fs j) (j : Int) := by
  unfold rangeFs
  rw [List.range_succ, List.map_append]
  exact addAll_snoc f fs _ _

section
variable {C : Cx}
set_option maxHeartbeats 8000000 in
theorem law_s11_go (hC : PK C) {L fa c0 c1 c2 c3 c4 c5 c6 ax : Addr} {ns : List Int} {w m k : Nat} {ms os qs : List Int} {mi c : Int} {S q : Str} {Sf : FnS} {rs : List Int} {fs : List (Int × Int)} (hI : IsForm C.K q Sf) (hq : Sf.qual = q) (ok : LawOk w m ms os qs mi) (pk : ∀ a b : Int, 0 ≤ a → a < m → 0 ≤ b → b < m → PairOk w m ms qs mi a b)
    (hc : rolledV (absL ns) k m = c) (hk : k < 1000) (hfs : ∀ p ∈ fs, p.2 = formV w ms qs mi p.1) (hz : fs.length ≤ 3000) (h1 : 1 < m) (h13 : m ≤ 13) (hans : (ansL w ms os qs mi c m).any id = (gcdL m c == 1)) :
    ∃ F' H', F'[1]? = some (some (.str S)) ∧ ExecsTo C 15 (lawAct (lawScope (KK C.w.params)) L fa c0 c1 c2 c3 c4 c5 c6) 22 (((lawBody (KK C.w.params)).drop 10).take 1) (lawF6 ax S) (lawS ns w m k ms os qs mi S q Sf fs none ++ [il rs]) .next F' H' ∧
      ∃ k' fs' row t, H' = lawS ns w m k' ms os qs mi S q Sf fs' row ++ t := by
  have m0 := ok.m0
  have m1 := ok.m1
  have w1 := ok.w1
  have w12 := ok.w12
  have hmi : (0 : Int) < (m : Nat) := by lia
  have rc := rolled_range (absL ns) k hmi
  rw [hc] at rc
  have fkc := ok.fb c rc.1 rc.2
  have i1 := addF_inv hfs c
  have z1 := addF_len (formV w ms qs mi) fs c
  obtain ⟨f1, hf1⟩ : ∃ f1, addF (formV w ms qs mi) fs c = f1 := ⟨_, rfl⟩
  rw [hf1] at i1 z1
  refine ⟨[some (.val (.ref ax)), some (.str S), some (.obj 21), none, none, none, none, none, none, none, some (.int c), some (.obj 23)], lawS ns w m (k + 1) ms os qs mi S q Sf (rangeFs (formV w ms qs mi) f1 m) (some (.obj 22)) ++ [il rs, il (limbs w (formV w ms qs mi c)), bl (ansL w ms os qs mi c m)], rfl, ?_, _, _, _, _, rfl⟩
  refine' law_lit ?run
  case run =>
    refine' exs_cons (ex_if (b := true) (H₁ := lawS ns w m k ms os qs mi S q Sf fs none ++ [il rs]) ?t1 ?body) exs_nil
    case t1 =>
      refine' Sm.testEq (test_chain (x := 1) (y := (m : Nat)) (z := 13) (H₁ := lawS ns w m k ms os qs mi S q Sf fs none ++ [il rs]) ?b1 ?b2 ?b3 ?b4 (COp.le _ _)) ?b5
      case b1 => walk_at "m_ev"
      case b2 => exact ev_cell 5 (by walk_at "m_in") rfl
      case b3 => walk_at "m_ev"
      case b4 =>
        have := COp.lt 1 (m : Int)
        rwa [decide_eq_true (by lia)] at this
      case b5 => exact decide_eq_true (by lia)
    case body =>
      show ExecsTo _ _ _ _ _ (lawF6 ax S) (lawS ns w m k ms os qs mi S q Sf fs none ++ [il rs]) _ _ _
      refine' exs_cons (F₁ := [some (.val (.ref ax)), some (.str S), some (.obj 21), none, none, none, none, none, none, none, some (.int c), none]) (H₁ := lawS ns w m (k + 1) ms os qs mi S q Sf fs none ++ [il rs]) (ex_assign (v := .int c) 10 ?i1 ?e1) ?_
      case i1 => walk_at "m_at"
      case e1 =>
        refine' ev_call (vs := [.obj 9, .int (m : Nat)]) (H₁ := lawS ns w m k ms os qs mi S q Sf fs none ++ [il rs]) ?c1 ?c2 ?c3 ?c4 rfl rfl rfl
        case c1 => walk_at "m_ev"
        case c2 =>
          refine' args_cons' (H₁ := lawS ns w m k ms os qs mi S q Sf fs none ++ [il rs]) ?f1 (args_cons' ?f2 args_nil' rfl) rfl
          case f1 => exact ev_cell 6 (by walk_at "m_in") rfl
          case f2 => exact ev_cell 5 (by walk_at "m_in") rfl
        case c3 =>
          have h := rolled_ok hC (H := lawS ns w m k ms os qs mi S q Sf fs none ++ [il rs]) (c := 9) (k := k) (dl := 8) (ds := absL ns) (many := (m : Nat)) rfl rfl (by decide) hmi (by lia)
          rw [hc] at h
          exact h.le (Nat.le_of_ble_eq_true rfl)
        case c4 => exact keep_of hC rfl
      refine' exs_cons (F₁ := [some (.val (.ref ax)), some (.str S), some (.obj 21), none, none, none, none, none, none, none, some (.int c), none]) (H₁ := lawS ns w m (k + 1) ms os qs mi S q Sf f1 (some (.obj 22)) ++ [il rs, il (limbs w (formV w ms qs mi c))]) ?s2 ?_
      case s2 =>
        refine' Xm.eqH (ex_assign_cell (v := .obj 22) (w₀ := none) (H₁ := lawS ns w m (k + 1) ms os qs mi S q Sf f1 none ++ [il rs] ++ [il (limbs w (formV w ms qs mi c))]) 3 ?i1 rfl ?e1 rfl) rfl
        case i1 => walk_at "m_in"
        case e1 =>
          refine' ev_call (vs := [.int (formV w ms qs mi c), .int (w : Nat)]) (H₁ := lawS ns w m (k + 1) ms os qs mi S q Sf f1 none ++ [il rs]) ?c1 ?c2 ?c3 ?c4 rfl rfl rfl
          case c1 => walk_at "m_ev"
          case c2 =>
            refine' args_cons' (H₁ := lawS ns w m (k + 1) ms os qs mi S q Sf f1 none ++ [il rs]) ?g1 (args_cons' ?g2 args_nil' rfl) rfl
            case g2 => exact ev_cell 0 (by walk_at "m_in") rfl
            case g1 =>
              rw [← hf1]
              refine' ev_form hC hI hq (ok.form _ rc.1 rc.2) hfs (by lia) ?h1 ?h2
              case h1 => walk_at "m_in"
              case h2 => walk_at "m_ev"
          case c3 => exact (law_limbs_ok hC (H := lawS ns w m (k + 1) ms os qs mi S q Sf f1 none ++ [il rs]) w1 w12 (by lia)).le (Nat.le_of_ble_eq_true rfl)
          case c4 => exact keep_of hC rfl
      have z2 : f1.length ≤ 3001 := by lia
      refine' exs_cons (F₁ := [some (.val (.ref ax)), some (.str S), some (.obj 21), none, none, none, none, none, none, none, some (.int c), some (.obj 23)]) (H₁ := lawS ns w m (k + 1) ms os qs mi S q Sf (rangeFs (formV w ms qs mi) f1 m) (some (.obj 22)) ++ [il rs, il (limbs w (formV w ms qs mi c)), bl (ansL w ms os qs mi c m)]) ?s3 ?_
      case s3 =>
        refine' ex_assign_comp_range 11 ?j1 (k := (m : Nat)) (H₁ := lawS ns w m (k + 1) ms os qs mi S q Sf (f1) (some (.obj 22)) ++ [il rs, il (limbs w (formV w ms qs mi c))]) (F' := [none]) _ ["rest"] [("mont_mul", .ref 177), ("_law_limbs", .ref 205), ("mul_school", .ref 191)] [("row", 3), ("form_of", 4), ("w", 0), ("told", 1)] 0 ?b1 ?b2 ?b3 (by lia) (by lia) rfl rfl (gl_of hC (by decide +kernel)) rfl ?hch ?LC
        case j1 => walk_at "m_at"
        case b1 => walk_at "m_at"
        case b2 => walk_at "m_mem"
        case b3 => exact ev_cell 5 (by walk_at "m_in") rfl
        case hch =>
          intro p hp
          have : p = (Str.ofString "row", 3) ∨ p = (Str.ofString "form_of", 4) ∨ p = (Str.ofString "w", 0) ∨ p = (Str.ofString "told", 1) := by simpa using hp
          rcases this with rfl | rfl | rfl | rfl
          · exact ⟨by walk_at "m_in", rfl⟩
          · exact ⟨by walk_at "m_in", rfl⟩
          · exact ⟨by walk_at "m_in", rfl⟩
          · exact ⟨by walk_at "m_in", rfl⟩
        case LC =>
          intro L'
          rw [Int.toNat_natCast]
          refine' comp_range_all m (fun _ => [none]) (fun j => lawS ns w m (k + 1) ms os qs mi S q Sf (rangeFs (formV w ms qs mi) f1 j) (some (.obj 22)) ++ [il rs, il (limbs w (formV w ms qs mi c)), bl (ansL w ms os qs mi c j)]) ?hb
          intro j hj
          have rj : (0 : Int) ≤ (j : Nat) ∧ ((j : Nat) : Int) < (m : Nat) := by lia
          have pj := pk c (j : Nat) rc.1 rc.2 rj.1 rj.2
          have fj := ok.fb (j : Nat) rj.1 rj.2
          have hinv := addAll_inv (f := formV w ms qs mi) ((List.range j).map fun (y : Nat) => (y : Int)) i1
          have hlen := addAll_len (formV w ms qs mi) ((List.range j).map fun (y : Nat) => (y : Int)) f1
          rw [List.length_map, List.length_range] at hlen
          have hal : (ansL w ms os qs mi c j).length = j := by unfold ansL; rw [List.length_map, List.length_range]
          have ea : ansL w ms os qs mi c (j + 1) = ansL w ms os qs mi c j ++ [decide (redL (schoolL (limbs w (formV w ms qs mi c)) (limbs w (formV w ms qs mi (j : Nat))) w) ms mi w = os)] := by unfold ansL; rw [List.range_succ, List.map_append]; rfl
          show CompTurn _ _ _ _ _ _ _ [some (.int (j : Nat))] _ [none] (lawS ns w m (k + 1) ms os qs mi S q Sf (rangeFs (formV w ms qs mi) f1 (j + 1)) (some (.obj 22)) ++ [il rs, il (limbs w (formV w ms qs mi c)), bl (ansL w ms os qs mi c (j + 1))])
          rw [rangeFs_succ, ea]
          show CompTurn _ _ _ _ _ _ _ [some (.int (j : Nat))] (lawS ns w m (k + 1) ms os qs mi S q Sf (rangeFs (formV w ms qs mi) f1 j) (some (.obj 22)) ++ [il rs, il (limbs w (formV w ms qs mi c)), bl (ansL w ms os qs mi c j)]) [none] _
          change ∀ p ∈ rangeFs (formV w ms qs mi) f1 j, _ at hinv
          change (rangeFs (formV w ms qs mi) f1 j).length ≤ _ at hlen
          generalize rangeFs (formV w ms qs mi) f1 j = fj0 at hinv hlen
          generalize ansL w ms os qs mi c j = bs at hal
          generalize hg : addF (formV w ms qs mi) fj0 (j : Nat) = fj1
          generalize hP : redL (schoolL (limbs w (formV w ms qs mi c)) (limbs w (formV w ms qs mi (j : Nat))) w) ms mi w = P
          refine' CompTurn.take (xs := bs.map .bool) (v := .bool (decide (P = os))) (σ := List.range 24) (H₀ := lawS ns w m (k + 1) ms os qs mi S q Sf fj0 (some (.obj 22)) ++ [il rs, il (limbs w (formV w ms qs mi c)), bl bs]) (H₁ := lawS ns w m (k + 1) ms os qs mi S q Sf fj1 (some (.obj 22)) ++ [il rs, il (limbs w (formV w ms qs mi c)), bl bs, il (limbs w (formV w ms qs mi (j : Nat))), il P]) ⟨rfl, rfl⟩ ?he rfl ?hz ?hg ?hm
          case hz => rw [List.length_map]; lia
          case hm => exact Nat.le_of_ble_eq_true rfl
          case hg =>
            have e : AO.list (bs.map AV.bool ++ [AV.bool (decide (P = os))]) = bl (bs ++ [decide (P = os)]) := by simp [bl]
            rw [e]
            refine' gc_drop (B := lawS ns w m (k + 1) ms os qs mi S q Sf fj1 (some (.obj 22)) ++ [il rs, il (limbs w (formV w ms qs mi c)), bl (bs ++ [decide (P = os)])]) (t := [il (limbs w (formV w ms qs mi (j : Nat))), il P]) lawS_low2 ?hch2 (.skip .nil)
            case hch2 =>
              intro p hp
              have h4 : ∀ p ∈ ([("row", 3), ("form_of", 4), ("w", 0), ("told", 1)] : List (Str × Nat)), p.2 < 24 := by decide
              exact h4 p hp
          case he =>
            have hI' : (lawS ns w m (k + 1) ms os qs mi S q Sf fj1 (some (.obj 22)) ++ [il rs, il (limbs w (formV w ms qs mi c)), bl bs, il (limbs w (formV w ms qs mi (j : Nat))), il P])[15]? = some (.inst 117 14) := rfl
            have hD' : (lawS ns w m (k + 1) ms os qs mi S q Sf fj1 (some (.obj 22)) ++ [il rs, il (limbs w (formV w ms qs mi c)), bl bs, il (limbs w (formV w ms qs mi (j : Nat))), il P])[14]? = some (.ndict mNames [.obj 11, .int mi, .obj 12, .obj 13]) := rfl
            refine' ev_eqL (i := 25) (j := 12) (x := P) (y := os) (H₁ := lawS ns w m (k + 1) ms os qs mi S q Sf fj1 (some (.obj 22)) ++ [il rs, il (limbs w (formV w ms qs mi c)), bl bs, il (limbs w (formV w ms qs mi (j : Nat))), il P]) (by decide) ?e1 ?e2 rfl rfl (EOp.eq _ _)
            case e2 =>
              refine' ev_attr (h := 15) (d := 14) (clsK hC) (ev_cell 1 ?i9 rfl) hI' hD' ?k9 (noAttr hC rfl) nofun
              case i9 => walk_at "m_in"
              case k9 => walk_at "m_kv"
            case e1 =>
              refine' Sm.eqH (ev_call (vs := [.obj 22, .obj 24, .obj 15, .int (w : Nat), .val (.ref 191)]) (H₁ := lawS ns w m (k + 1) ms os qs mi S q Sf fj1 (some (.obj 22)) ++ [il rs, il (limbs w (formV w ms qs mi c)), bl bs, il (limbs w (formV w ms qs mi (j : Nat)))]) (H₂ := lawS ns w m (k + 1) ms os qs mi S q Sf fj1 (some (.obj 22)) ++ [il rs, il (limbs w (formV w ms qs mi c)), bl bs, il (limbs w (formV w ms qs mi (j : Nat)))] ++ [il P]) ?c1 ?c2 ?c3 ?c4 rfl rfl rfl) rfl
              case c1 => walk_at "m_ev"
              case c4 => exact keep_of hC rfl
              case c3 =>
                have h := mont_mul_ok hC (H := lawS ns w m (k + 1) ms os qs mi S q Sf fj1 (some (.obj 22)) ++ [il rs, il (limbs w (formV w ms qs mi c)), bl bs, il (limbs w (formV w ms qs mi (j : Nat)))]) (h := 22) (h' := 24) (t := 15) (d := 14) (k := 11) (o := 12) (q := 13) (os := os) (qs := qs) rfl rfl pj.fa pj.fb ⟨rfl, rfl, rfl, rfl, rfl⟩ pj.mul
                rw [hP] at h
                exact h.le (Nat.le_of_ble_eq_true rfl)
              case c2 =>
                refine' args_cons' (H₁ := lawS ns w m (k + 1) ms os qs mi S q Sf fj0 (some (.obj 22)) ++ [il rs, il (limbs w (formV w ms qs mi c)), bl bs]) ?g1 (args_cons' (H₁ := lawS ns w m (k + 1) ms os qs mi S q Sf fj1 (some (.obj 22)) ++ [il rs, il (limbs w (formV w ms qs mi c)), bl bs, il (limbs w (formV w ms qs mi (j : Nat)))]) ?g2 (args_cons' (H₁ := lawS ns w m (k + 1) ms os qs mi S q Sf fj1 (some (.obj 22)) ++ [il rs, il (limbs w (formV w ms qs mi c)), bl bs, il (limbs w (formV w ms qs mi (j : Nat)))]) ?g3 (args_cons' (H₁ := lawS ns w m (k + 1) ms os qs mi S q Sf fj1 (some (.obj 22)) ++ [il rs, il (limbs w (formV w ms qs mi c)), bl bs, il (limbs w (formV w ms qs mi (j : Nat)))]) ?g4 (args_cons' ?g5 args_nil' rfl) rfl) rfl) rfl) rfl
                case g1 => exact ev_cell 3 (by walk_at "m_in") rfl
                case g3 => exact ev_cell 1 (by walk_at "m_in") rfl
                case g4 => exact ev_cell 0 (by walk_at "m_in") rfl
                case g5 => walk_at "m_ev"
                case g2 =>
                  refine' Sm.eqH (ev_call (vs := [.int (formV w ms qs mi (j : Nat)), .int (w : Nat)]) (H₁ := lawS ns w m (k + 1) ms os qs mi S q Sf fj1 (some (.obj 22)) ++ [il rs, il (limbs w (formV w ms qs mi c)), bl bs]) (H₂ := lawS ns w m (k + 1) ms os qs mi S q Sf fj1 (some (.obj 22)) ++ [il rs, il (limbs w (formV w ms qs mi c)), bl bs] ++ [il (limbs w (formV w ms qs mi (j : Nat)))]) ?d1 ?d2 ?d3 ?d4 rfl rfl rfl) rfl
                  case d1 => walk_at "m_ev"
                  case d4 => exact keep_of hC rfl
                  case d3 => exact (law_limbs_ok hC (H := lawS ns w m (k + 1) ms os qs mi S q Sf fj1 (some (.obj 22)) ++ [il rs, il (limbs w (formV w ms qs mi c)), bl bs]) w1 w12 (by lia)).le (Nat.le_of_ble_eq_true rfl)
                  case d2 =>
                    refine' args_cons' (H₁ := lawS ns w m (k + 1) ms os qs mi S q Sf fj1 (some (.obj 22)) ++ [il rs, il (limbs w (formV w ms qs mi c)), bl bs]) ?h1 (args_cons' ?h2 args_nil' rfl) rfl
                    case h2 => exact ev_cell 0 (by walk_at "m_in") rfl
                    case h1 =>
                      rw [← hg]
                      refine' ev_form hC hI hq (ok.form _ rj.1 rj.2) hinv (by lia) ?x1 ?x2
                      case x1 => walk_at "m_in"
                      case x2 => walk_at "m_ev"
      refine' exs_cons ?s4 exs_nil
      case s4 =>
        refine' ex_if (b := false) (H₁ := lawS ns w m (k + 1) ms os qs mi S q Sf (rangeFs (formV w ms qs mi) f1 m) (some (.obj 22)) ++ [il rs, il (limbs w (formV w ms qs mi c)), bl (ansL w ms os qs mi c m)]) ?t2 exs_nil
        case t2 =>
          generalize rangeFs (formV w ms qs mi) f1 m = f2
          refine' Sm.testEq (test_ne_bool (x := (ansL w ms os qs mi c m).any id) (y := gcdL m c == 1) (H₁ := lawS ns w m (k + 1) ms os qs mi S q Sf f2 (some (.obj 22)) ++ [il rs, il (limbs w (formV w ms qs mi c)), bl (ansL w ms os qs mi c m)]) (by decide) ?u1 ?u2) ?u3
          case u3 => rw [hans]; simp
          case u1 =>
            refine' ev_in_bools (d := 23) (by decide) ?v1 ?v2 rfl
            case v1 => walk_at "m_ev"
            case v2 => walk_at "m_ev"
          case u2 =>
            refine' ev_cmp (x := gcdL m c) (y := 1) (H₁ := lawS ns w m (k + 1) ms os qs mi S q Sf f2 (some (.obj 22)) ++ [il rs, il (limbs w (formV w ms qs mi c)), bl (ansL w ms os qs mi c m)]) ?v1 ?v2 (COp.eq _ _)
            case v2 => walk_at "m_ev"
            case v1 =>
              refine' ev_call (vs := [.int (m : Nat), .int c]) (H₁ := lawS ns w m (k + 1) ms os qs mi S q Sf f2 (some (.obj 22)) ++ [il rs, il (limbs w (formV w ms qs mi c)), bl (ansL w ms os qs mi c m)]) ?c1 ?c2 ?c3 ?c4 rfl rfl rfl
              case c1 => walk_at "m_ev"
              case c4 => exact keep_of hC rfl
              case c2 =>
                refine' args_cons' (H₁ := lawS ns w m (k + 1) ms os qs mi S q Sf f2 (some (.obj 22)) ++ [il rs, il (limbs w (formV w ms qs mi c)), bl (ansL w ms os qs mi c m)]) ?f1 (args_cons' ?f2 args_nil' rfl) rfl
                case f1 => exact ev_cell 5 (by walk_at "m_in") rfl
                case f2 => walk_at "m_ev"
              case c3 => exact (law_divisor_ok hC).le (Nat.le_of_ble_eq_true rfl)
end

/-! numbers behind limbs -/
noncomputable def V (B : Int) : List Int → Int
  | [] => 0
  | x :: xs => x + B * V B xs
noncomputable def Dg (B : Int) (ns : List Int) : Prop := ∀ x ∈ ns, 0 ≤ x ∧ x < B
noncomputable def Can (B : Int) : List Int → Prop
  | [] => True
  | x :: xs => (0 ≤ x ∧ x < B) ∧ Can B xs ∧ (xs = [] → x ≠ 0)

section
variable {B : Int}
theorem Dg.nil : Dg B [] := fun _ h => nomatch h
theorem Dg.cons {x : Int} {xs : List Int} (h : 0 ≤ x ∧ x < B) (t : Dg B xs) : Dg B (x :: xs) := fun y hy => by
  rcases List.mem_cons.mp hy with rfl | hy
  · exact h
  · exact t y hy
theorem Dg.head {x : Int} {xs : List Int} (h : Dg B (x :: xs)) : 0 ≤ x ∧ x < B := h x (.head _)
theorem Dg.tail {x : Int} {xs : List Int} (h : Dg B (x :: xs)) : Dg B xs := fun y hy => h y (.tail _ hy)
theorem Dg.append {xs ys : List Int} (h : Dg B xs) (k : Dg B ys) : Dg B (xs ++ ys) := fun y hy => by
  rcases List.mem_append.mp hy with hy | hy
  · exact h y hy
  · exact k y hy
theorem Dg.left {xs ys : List Int} (h : Dg B (xs ++ ys)) : Dg B xs := fun y hy => h y (List.mem_append_left _ hy)
theorem Dg.zeros (h : 0 < B) (k : Nat) : Dg B (List.replicate k 0) := fun y hy => by
  rw [(List.mem_replicate.mp hy).2]; exact ⟨Int.le_refl _, h⟩
theorem Dg.set {xs : List Int} {x : Int} (h : Dg B xs) (hx : 0 ≤ x ∧ x < B) (i : Nat) : Dg B (xs.set i x) := fun y hy => by
  rcases List.mem_or_eq_of_mem_set hy with hy | rfl
  · exact h y hy
  · exact hx
theorem Dg.take {xs : List Int} (h : Dg B xs) (k : Nat) : Dg B (xs.take k) := fun y hy => h y (List.mem_of_mem_take hy)
theorem Dg.drop {xs : List Int} (h : Dg B xs) (k : Nat) : Dg B (xs.drop k) := fun y hy => h y (List.mem_of_mem_drop hy)
theorem Dg.get {xs : List Int} (h : Dg B xs) (hB : 0 < B) (j : Nat) : 0 ≤ xs.getD j 0 ∧ xs.getD j 0 < B := by
  by_cases q : j < xs.length
  · have : xs.getD j 0 = xs[j] := by simp [List.getD, q]
    rw [this]; exact h _ (List.getElem_mem q)
  · have : xs.getD j 0 = 0 := by simp [List.getD, List.getElem?_eq_none (Nat.not_lt.mp q)]
    rw [this]; exact ⟨Int.le_refl _, hB⟩
theorem Can.dg : ∀ {ns : List Int}, Can B ns → Dg B ns
  | [], _ => .nil
  | _ :: _, h => .cons h.1 h.2.1.dg

theorem powLe {B : Int} (hB : 1 ≤ B) {i j : Nat} (h : i ≤ j) : B ^ i ≤ B ^ j := by
  obtain ⟨k, rfl⟩ := Nat.le.dest h
  induction k with
  | zero => exact Int.le_refl _
  | succ k ih =>
    have h1 := ih (Nat.le_add_right _ _)
    rw [← Nat.add_assoc, Int.pow_succ]
    have h0 : 0 < B ^ (i + k) := Int.pow_pos (by lia)
    have := Int.mul_le_mul_of_nonneg_left hB (Int.le_of_lt h0)
    lia
theorem getD_lt {ns : List Int} {k : Nat} (h : k < ns.length) : ns.getD k 0 = ns[k] := by
  rw [List.getD, List.getElem?_eq_getElem h]; rfl
theorem getD_ge {ns : List Int} {k : Nat} (h : ns.length ≤ k) : ns.getD k 0 = 0 := by
  rw [List.getD, List.getElem?_eq_none h]; rfl

theorem V_append : ∀ (xs ys : List Int), V B (xs ++ ys) = V B xs + B ^ xs.length * V B ys
  | [], ys => by simp [V]
  | x :: xs, ys => by
    rw [List.cons_append, V, V, V_append xs ys, List.length_cons, Int.pow_succ]
    grind
theorem V_zeros : ∀ k, V B (List.replicate k 0) = 0
  | 0 => rfl
  | k + 1 => by rw [List.replicate_succ, V, V_zeros k]; simp
theorem V_one (x : Int) : V B [x] = x := by simp [V]
theorem V_nonneg (hB : 0 < B) : ∀ {ns : List Int}, Dg B ns → 0 ≤ V B ns
  | [], _ => Int.le_refl _
  | x :: xs, h => by
    have h1 := V_nonneg hB h.tail
    have h2 := h.head
    have h3 := Int.mul_nonneg (Int.le_of_lt hB) h1
    rw [V]; lia
theorem V_lt (hB : 0 < B) : ∀ {ns : List Int}, Dg B ns → V B ns < B ^ ns.length
  | [], _ => by simp [V]
  | x :: xs, h => by
    have h1 := V_lt hB h.tail
    have h2 := h.head
    have h3 := Int.mul_le_mul_of_nonneg_left (show V B xs + 1 ≤ B ^ xs.length from h1) (Int.le_of_lt hB)
    rw [V, List.length_cons, Int.pow_succ]
    rw [Int.mul_add] at h3
    have h4 := Int.mul_comm (B ^ xs.length) B
    lia
theorem V_set (x : Int) : ∀ {ns : List Int} {i : Nat}, i < ns.length → V B (ns.set i x) = V B ns + (x - ns.getD i 0) * B ^ i
  | [], i, h => nomatch h
  | y :: ys, 0, h => by simp [V]; lia
  | y :: ys, i + 1, h => by
    have ih := V_set x (ns := ys) (i := i) (by simpa using h)
    rw [List.set_cons_succ, V, V, ih, Int.pow_succ]
    have : (y :: ys).getD (i + 1) 0 = ys.getD i 0 := by simp [List.getD]
    rw [this]
    grind

theorem divB (hB : 0 < B) {x y : Int} (h : 0 ≤ x ∧ x < B) : (x + B * y) / B = y ∧ (x + B * y) % B = x := by
  constructor
  · rw [Int.add_mul_ediv_left _ _ (Int.ne_of_gt hB), Int.ediv_eq_zero_of_lt h.1 h.2]; lia
  · rw [Int.add_mul_emod_self_left, Int.emod_eq_of_lt h.1 h.2]

theorem V_drop (hB : 0 < B) : ∀ {ns : List Int}, Dg B ns → ∀ j, V B (ns.drop j) = V B ns / B ^ j
  | ns, h, 0 => by simp
  | [], h, j + 1 => by simp [V]
  | x :: xs, h, j + 1 => by
    rw [List.drop_succ_cons, V_drop hB h.tail j, V, Int.pow_succ, Int.mul_comm (B ^ j) B, ← Int.ediv_ediv_of_nonneg (Int.le_of_lt hB), (divB hB h.head).1]
theorem V_digit (hB : 0 < B) : ∀ {ns : List Int}, Dg B ns → ∀ j, ns.getD j 0 = V B ns / B ^ j % B
  | [], h, j => by simp [V]
  | x :: xs, h, 0 => by
    have : (x :: xs).getD 0 0 = x := rfl
    rw [this, Int.pow_zero, Int.ediv_one, V, (divB hB h.head).2]
  | x :: xs, h, j + 1 => by
    have : (x :: xs).getD (j + 1) 0 = xs.getD j 0 := by simp [List.getD]
    rw [this, V_digit hB h.tail j, V, Int.pow_succ, Int.mul_comm (B ^ j) B, ← Int.ediv_ediv_of_nonneg (Int.le_of_lt hB), (divB hB h.head).1]

/-! told one way only -/
theorem Can.pos (hB : 0 < B) : ∀ {ns : List Int}, Can B ns → ns ≠ [] → 0 < V B ns
  | [], _, h => absurd rfl h
  | [x], h, _ => by
    have h1 := h.1
    have h2 := h.2.2 rfl
    rw [V_one]; lia
  | x :: y :: ys, h, _ => by
    have h1 := h.1
    have ih := Can.pos hB h.2.1 (by simp)
    rw [V]
    have := Int.mul_pos hB ih
    lia
theorem Can.uniq (hB : 0 < B) : ∀ {xs ys : List Int}, Can B xs → Can B ys → V B xs = V B ys → xs = ys
  | [], [], _, _, _ => rfl
  | [], y :: ys, _, k, e => by have := k.pos hB (by simp); rw [← e] at this; exact absurd this (by simp [V])
  | x :: xs, [], h, _, e => by have := h.pos hB (by simp); rw [e] at this; exact absurd this (by simp [V])
  | x :: xs, y :: ys, h, k, e => by
    rw [V, V] at e
    have e1 := divB hB (y := V B xs) h.1
    have e2 := divB hB (y := V B ys) k.1
    rw [e] at e1
    have ex : x = y := e1.2.symm.trans e2.2
    have ev : V B xs = V B ys := e1.1.symm.trans e2.1
    rw [ex, Can.uniq hB h.2.1 k.2.1 ev]
theorem can_of_ge (hB : 0 < B) : ∀ {ns : List Int}, Dg B ns → (∀ k, ns.length = k + 1 → B ^ k ≤ V B ns) → Can B ns
  | [], _, _ => trivial
  | [x], h, k => by
    have := k 0 rfl
    rw [V_one] at this
    exact ⟨h.head, trivial, fun _ => by simp at this; lia⟩
  | x :: y :: ys, h, k => by
    refine ⟨h.head, can_of_ge hB h.tail fun j hj => ?_, fun e => nomatch e⟩
    have h1 := k (j + 1) (by rw [List.length_cons, hj])
    rw [V, Int.pow_succ] at h1
    have h2 := h.head
    refine Int.not_lt.mp fun q => ?_
    have h3 := Int.mul_le_mul_of_nonneg_left (show V B (y :: ys) + 1 ≤ B ^ j from q) (Int.le_of_lt hB)
    rw [Int.mul_add] at h3
    have h4 := Int.mul_comm (B ^ j) B
    lia
theorem Can.ge (hB : 0 < B) : ∀ {ns : List Int}, Can B ns → ∀ k, ns.length = k + 1 → B ^ k ≤ V B ns
  | [], _, k, h => nomatch h
  | [x], h, k, e => by
    have : k = 0 := by simpa using e.symm
    subst this
    have h1 := h.1
    have h2 := h.2.2 rfl
    rw [V_one]; simp; lia
  | x :: y :: ys, h, k, e => by
    obtain ⟨j, rfl⟩ : ∃ j, k = j + 1 := ⟨ys.length, by simpa using e.symm⟩
    have ih := Can.ge hB h.2.1 j (by simpa using e)
    have h1 := h.1
    rw [V, Int.pow_succ]
    have h3 := Int.mul_le_mul_of_nonneg_left ih (Int.le_of_lt hB)
    have h4 := Int.mul_comm (B ^ j) B
    lia
theorem Can.zeros {ns : List Int} (hB : 0 < B) (h : Can B ns) (hn : ns ≠ []) : ∀ k, Can B (List.replicate k 0 ++ ns)
  | 0 => h
  | k + 1 => ⟨⟨Int.le_refl _, hB⟩, Can.zeros hB h hn k, fun e => absurd e (by simp [hn])⟩
theorem Can.len_le (hB : 2 ≤ B) {xs ys : List Int} (h : Can B xs) (k : Dg B ys) (e : V B xs ≤ V B ys) : xs.length ≤ ys.length := by
  refine Nat.not_lt.mp fun q => ?_
  obtain ⟨j, hj⟩ : ∃ j, xs.length = j + 1 := ⟨xs.length - 1, by lia⟩
  have h1 := h.ge (by lia) j hj
  have h2 := V_lt (by lia) k
  have h3 : B ^ ys.length ≤ B ^ j := powLe (by lia) (by lia)
  lia
end

theorem limbsF_can {w : Nat} (hw : 1 ≤ w) : ∀ f x, 0 ≤ x → x.toNat ≤ f → Can (2 ^ w) (limbsF w f x) ∧ V (2 ^ w) (limbsF w f x) = x
  | 0, x, h0, hf => by
    have : x = 0 := by lia
    subst this
    exact ⟨trivial, rfl⟩
  | f + 1, x, h0, hf => by
    have hp := @pow_pos2 w
    unfold limbsF
    by_cases q : 0 < x
    · rw [if_pos q]
      have h1 : 0 ≤ x / 2 ^ w := Int.ediv_nonneg h0 (Int.le_of_lt hp)
      have h2 : x / 2 ^ w < x := Int.ediv_lt_self_of_pos_of_ne_one q (by
        have : (2 : Int) ^ 1 ≤ 2 ^ w := powLe (by decide) hw
        lia) |> fun h => h
      obtain ⟨c, e⟩ := limbsF_can hw f (x / 2 ^ w) h1 (by lia)
      have em := Int.emod_add_mul_ediv x (2 ^ w)
      refine ⟨⟨⟨Int.emod_nonneg _ (Int.ne_of_gt hp), Int.emod_lt_of_pos _ hp⟩, c, fun hn => ?_⟩, ?_⟩
      · rw [hn] at e
        intro hz
        have e0 : x / 2 ^ w = 0 := e.symm
        rw [hz, e0] at em
        lia
      · rw [V, e]; exact em
    · rw [if_neg q]
      have : x = 0 := by lia
      subst this
      exact ⟨trivial, rfl⟩
theorem limbs_can {w : Nat} (hw : 1 ≤ w) {x : Int} (h : 0 ≤ x) : Can (2 ^ w) (limbs w x) := (limbsF_can hw _ x h (Nat.le_refl _)).1
theorem limbs_V {w : Nat} (hw : 1 ≤ w) {x : Int} (h : 0 ≤ x) : V (2 ^ w) (limbs w x) = x := (limbsF_can hw _ x h (Nat.le_refl _)).2
theorem can_limbs {w : Nat} (hw : 1 ≤ w) {ns : List Int} {x : Int} (h : Can (2 ^ w) ns) (e : V (2 ^ w) ns = x) : ns = limbs w x := by
  have h0 : 0 ≤ x := by rw [← e]; exact V_nonneg pow_pos2 h.dg
  exact h.uniq pow_pos2 (limbs_can hw h0) (e.trans (limbs_V hw h0).symm)

theorem norm_can {B : Int} (hB : 0 < B) {ns : List Int} (h : Dg B ns) : Can B (norm ns) ∧ V B (norm ns) = V B ns := by
  have key : ∀ k, k ≤ ns.length → Can B (ns.take (cutN ns k)) ∧ V B (ns.take (cutN ns k)) = V B (ns.take k) := by
    intro k
    induction k with
    | zero => intro _; simp [cutN, Can]
    | succ k ih =>
      intro hk
      have hd : ns.getD k 0 = ns[k] := getD_lt hk
      have ht : ns.take (k + 1) = ns.take k ++ [ns[k]] := List.take_succ_eq_append_getElem hk
      unfold cutN
      by_cases q : ns.getD k 0 = 0
      · rw [if_pos q]
        obtain ⟨h1, h2⟩ := ih (by lia)
        refine ⟨h1, h2.trans ?_⟩
        rw [ht, V_append, V_one, ← hd, q]; simp
      · rw [if_neg q]
        refine ⟨can_of_ge hB (h.take _) fun j hj => ?_, rfl⟩
        rw [List.length_take] at hj
        have hjk : j = k := by lia
        subst hjk
        rw [ht, V_append, V_one]
        have h1 := V_nonneg hB (h.take j)
        have h2 := (h.get hB j)
        rw [hd] at h2 q
        have hl : (ns.take j).length = j := by rw [List.length_take]; lia
        rw [hl]
        have h3 := Int.mul_le_mul_of_nonneg_left (show 1 ≤ ns[j] by lia) (Int.le_of_lt (Int.pow_pos (n := B) (m := j) hB))
        lia
  have := key ns.length (Nat.le_refl _)
  rw [List.take_length] at this
  exact this
theorem norm_limbs {w : Nat} (hw : 1 ≤ w) {ns : List Int} {x : Int} (h : Dg (2 ^ w) ns) (e : V (2 ^ w) ns = x) : norm ns = limbs w x :=
  can_limbs hw (norm_can pow_pos2 h).1 ((norm_can pow_pos2 h).2.trans e)

theorem ring1 (v a b c P B x y : Int) (h : v - c * P = a - b) : v + P * (x - c - y + B) - 1 * (P * B) = a + x * P - (b + y * P) := by grind
theorem ring2 (v a b c P B x y : Int) (h : v - c * P = a - b) : v + P * (x - c - y) - 0 * (P * B) = a + x * P - (b + y * P) := by grind
theorem ring3 (v a c P B x d r : Int) (h : v + c * P = 2 * a) (e : r + B * d = c + 2 * x) : v + P * r + d * (P * B) = 2 * (a + x * P) := by grind
theorem ring4 (x y : Int) : 2 * (y * x) = y * 2 * x := by grind
/-- the number of the first k limbs -/
noncomputable def S (B : Int) (ns : List Int) : Nat → Int
  | 0 => 0
  | k + 1 => S B ns k + ns.getD k 0 * B ^ k
section
variable {B : Int}
theorem S_take (ns : List Int) : ∀ k, S B ns k = V B (ns.take k)
  | 0 => by simp [S, V]
  | k + 1 => by
    rw [S, S_take ns k]
    by_cases q : k < ns.length
    · rw [List.take_succ_eq_append_getElem q, V_append, V_one, getD_lt q, List.length_take, Nat.min_eq_left (Nat.le_of_lt q), Int.mul_comm]
    · rw [getD_ge (Nat.not_lt.mp q), List.take_of_length_le (Nat.not_lt.mp q), List.take_of_length_le (by lia)]
      lia
theorem S_V {ns : List Int} {k : Nat} (h : ns.length ≤ k) : S B ns k = V B ns := by rw [S_take, List.take_of_length_le h]
theorem S_nonneg (hB : 0 < B) {ns : List Int} (h : Dg B ns) (k : Nat) : 0 ≤ S B ns k := by rw [S_take]; exact V_nonneg hB (h.take k)
theorem S_lt (hB : 0 < B) {ns : List Int} (h : Dg B ns) (k : Nat) : S B ns k < B ^ k := by
  rw [S_take]
  have h1 := V_lt hB (h.take k)
  have h2 : B ^ (ns.take k).length ≤ B ^ k := powLe (by lia) (by rw [List.length_take]; exact Nat.min_le_left _ _)
  lia

theorem cmpF_spec (hB : 0 < B) {as bs : List Int} (ha : Dg B as) (hb : Dg B bs) : ∀ k, cmpF as bs k < 0 ↔ S B as k < S B bs k
  | 0 => by simp [cmpF, S]
  | k + 1 => by
    have ih := cmpF_spec hB ha hb k
    unfold cmpF
    rw [S, S]
    have a1 := S_nonneg hB ha k
    have a2 := S_lt hB ha k
    have b1 := S_nonneg hB hb k
    have b2 := S_lt hB hb k
    have hp : 0 < B ^ k := Int.pow_pos hB
    generalize as.getD k 0 = x
    generalize bs.getD k 0 = y
    generalize S B as k = p at *
    generalize S B bs k = q at *
    generalize B ^ k = P at *
    by_cases e : x = y
    · rw [if_pos e, ih, e]; lia
    · rw [if_neg e]
      by_cases l : x < y
      · rw [if_pos l]
        have := Int.mul_le_mul_of_nonneg_right (show x + 1 ≤ y from l) (Int.le_of_lt hp)
        rw [Int.add_mul] at this
        constructor
        · intro _; lia
        · intro _; decide
      · rw [if_neg l]
        have := Int.mul_le_mul_of_nonneg_right (show y + 1 ≤ x by lia) (Int.le_of_lt hp)
        rw [Int.add_mul] at this
        constructor
        · intro h; exact absurd h (by decide)
        · intro h; lia
theorem cmpL_spec (hB : 2 ≤ B) {as bs : List Int} (ha : Can B as) (hb : Can B bs) : cmpL as bs < 0 ↔ V B as < V B bs := by
  unfold cmpL
  by_cases e : as.length = bs.length
  · rw [if_pos e, cmpF_spec (by lia) ha.dg hb.dg, S_V (Nat.le_refl _), S_V (by lia)]
  · rw [if_neg e]
    by_cases l : as.length < bs.length
    · rw [if_pos l]
      have : ¬ V B bs ≤ V B as := fun q => by have := hb.len_le hB ha.dg q; lia
      constructor
      · intro _; lia
      · intro _; decide
    · rw [if_neg l]
      have : ¬ V B as ≤ V B bs := fun q => by have := ha.len_le hB hb.dg q; lia
      constructor
      · intro h; exact absurd h (by decide)
      · intro h; lia
end

section
variable {w : Nat}
theorem two_le (hw : 1 ≤ w) : (2 : Int) ≤ 2 ^ w := by
  have : (2 : Int) ^ 1 ≤ 2 ^ w := powLe (by decide) hw
  lia
theorem subF_spec (hw : 1 ≤ w) {as bs : List Int} (ha : Dg (2 ^ w) as) (hb : Dg (2 ^ w) bs) : ∀ k, Dg (2 ^ w) (subF as bs w k).1 ∧ (0 ≤ (subF as bs w k).2 ∧ (subF as bs w k).2 ≤ 1) ∧ V (2 ^ w) (subF as bs w k).1 - (subF as bs w k).2 * (2 ^ w) ^ k = S (2 ^ w) as k - S (2 ^ w) bs k
  | 0 => ⟨.nil, by simp [subF], by simp [subF, V, S]⟩
  | k + 1 => by
    obtain ⟨h1, h2, h3⟩ := subF_spec hw ha hb k
    have hB := two_le hw
    have hl := subF_len as bs w k
    have ak := ha.get (by lia) k
    have bk := hb.get (by lia) k
    rw [subF]
    rw [S, S, Int.pow_succ]
    generalize subF as bs w k = s at *
    obtain ⟨f, c⟩ := s
    dsimp only at *
    generalize as.getD k 0 = x at *
    generalize bs.getD k 0 = y at *
    rw [V_append, V_one, hl]
    generalize (2 : Int) ^ w = B at *
    generalize B ^ k = P at *
    by_cases q : x - c - y < 0
    · rw [if_pos q, if_pos q]
      exact ⟨h1.append (.cons (by lia) .nil), by decide, ring1 _ _ _ _ _ _ _ _ h3⟩
    · rw [if_neg q, if_neg q]
      exact ⟨h1.append (.cons (by lia) .nil), by decide, ring2 _ _ _ _ _ _ _ _ h3⟩
theorem subL_spec (hw : 1 ≤ w) {as bs : List Int} (ha : Can (2 ^ w) as) (hb : Can (2 ^ w) bs) (h : V (2 ^ w) bs ≤ V (2 ^ w) as) : subL as bs w = limbs w (V (2 ^ w) as - V (2 ^ w) bs) := by
  have hB := two_le hw
  obtain ⟨h1, h2, h3⟩ := subF_spec hw ha.dg hb.dg as.length
  have hl := hb.len_le hB ha.dg h
  rw [S_V (Nat.le_refl _), S_V hl] at h3
  have hlt := V_lt (by lia) h1
  rw [subF_len] at hlt
  unfold subL
  refine norm_limbs hw h1 ?_
  generalize (subF as bs w as.length).2 = c at *
  have : c = 0 ∨ c = 1 := by lia
  rcases this with rfl | rfl
  · lia
  · lia

theorem bitOr_step {c x : Int} (h : 0 ≤ c ∧ c ≤ 1) : Builtin.bitOr c (x * 2 ^ 1) = c + 2 * x := by
  have e : x * 2 ^ 1 = 2 * x := by lia
  rw [e, bitOr_and]
  have : c = 0 ∨ c = 1 := by lia
  rcases this with rfl | rfl
  · have : Builtin.bitAnd 0 (2 * x) = 0 := by have := bitAnd_range (2 * x) (y := 0) (by decide); rw [bitAnd_comm]; lia
    lia
  · rw [bitAnd_m1']; lia
theorem mask_mod (x : Int) : Builtin.bitAnd x (2 ^ w - 1) = x % 2 ^ w := kbt_mask x w
theorem shF_spec (hw : 1 ≤ w) {as : List Int} (ha : Dg (2 ^ w) as) : ∀ k, Dg (2 ^ w) (shF as w 1 [] k).1 ∧ (0 ≤ (shF as w 1 [] k).2 ∧ (shF as w 1 [] k).2 ≤ 1) ∧ V (2 ^ w) (shF as w 1 [] k).1 + (shF as w 1 [] k).2 * (2 ^ w) ^ k = 2 * S (2 ^ w) as k
  | 0 => ⟨.nil, by simp [shF], by simp [shF, V, S]⟩
  | k + 1 => by
    obtain ⟨h1, h2, h3⟩ := shF_spec hw ha k
    have hB := two_le hw
    have hl := shF_len as w 1 k
    have ak := ha.get (by lia) k
    rw [shF, S, Int.pow_succ (2 ^ w) k]
    generalize shF as w 1 [] k = s at *
    obtain ⟨f, c⟩ := s
    dsimp only at *
    generalize as.getD k 0 = x at *
    have e1 : bitOr c (x * 2 ^ 1) = c + 2 * x := bitOr_step h2
    rw [e1]
    have e2 : bitAnd (c + 2 * x) (2 ^ w - 1) = (c + 2 * x) % 2 ^ w := mask_mod _
    rw [e2, V_append, V_one, hl]
    have hm := @mod_bd (c + 2 * x) w
    have he := Int.emod_add_mul_ediv (c + 2 * x) (2 ^ w)
    generalize (2 : Int) ^ w = B at *
    generalize B ^ k = P at *
    have hd0 : 0 ≤ (c + 2 * x) / B := Int.ediv_nonneg (by lia) (by lia)
    have hd1 : (c + 2 * x) / B < 2 := Int.ediv_lt_of_lt_mul (by lia) (by lia)
    refine ⟨h1.append (.cons hm .nil), by lia, ?_⟩
    exact ring3 _ _ _ _ _ _ _ _ h3 he
theorem shlL_spec (hw : 1 ≤ w) {as : List Int} (ha : Can (2 ^ w) as) : shlL as w = limbs w (2 * V (2 ^ w) as) := by
  have hB := two_le hw
  obtain ⟨h1, h2, h3⟩ := shF_spec hw ha.dg as.length
  have hl := shF_len as w 1 as.length
  rw [S_V (Nat.le_refl _)] at h3
  unfold shlL
  by_cases q0 : as.length = 0
  · rw [if_pos q0]
    have : as = [] := List.length_eq_zero_iff.mp q0
    subst this
    rfl
  rw [if_neg q0]
  obtain ⟨j, hj⟩ : ∃ j, as.length = j + 1 := ⟨as.length - 1, by lia⟩
  have hge := ha.ge (by lia) j hj
  have hp : 0 < ((2 : Int) ^ w) ^ j := Int.pow_pos (by lia)
  have hp' : 0 < ((2 : Int) ^ w) ^ as.length := Int.pow_pos (by lia)
  have h0 := V_nonneg (by lia) h1
  generalize shF as w 1 [] as.length = s at *
  obtain ⟨f, c⟩ := s
  dsimp only at *
  by_cases q : 0 < c
  · rw [if_pos q]
    have hc : c = 1 := by lia
    subst hc
    refine can_limbs hw (can_of_ge (by lia) (h1.append (.cons (by lia) .nil)) fun k hk => ?_) ?_
    · rw [List.length_append, List.length_singleton, hl] at hk
      have : k = as.length := by lia
      subst this
      rw [V_append, V_one, hl]; lia
    · rw [V_append, V_one, hl]; lia
  · rw [if_neg q]
    have hc : c = 0 := by lia
    subst hc
    refine can_limbs hw (can_of_ge (by lia) h1 fun k hk => ?_) (by lia)
    have : k = j := by lia
    subst this
    lia

theorem dblL_spec (hw : 1 ≤ w) {x m : Int} (hx : 0 ≤ x ∧ x < m) : dblL (limbs w x) (limbs w m) w = limbs w (2 * x % m) := by
  have hB := two_le hw
  have cx := limbs_can hw hx.1
  have cm := limbs_can hw (show 0 ≤ m by lia)
  have e2 := shlL_spec hw cx
  rw [limbs_V hw hx.1] at e2
  have c2 := limbs_can hw (show 0 ≤ 2 * x by lia)
  unfold dblL
  rw [e2]
  have hc := cmpL_spec hB c2 cm
  rw [limbs_V hw (by lia), limbs_V hw (by lia)] at hc
  by_cases q : 0 ≤ cmpL (limbs w (2 * x)) (limbs w m)
  · rw [if_pos q]
    have : m ≤ 2 * x := by
      have : ¬ 2 * x < m := fun z => by have := hc.mpr z; lia
      lia
    rw [subL_spec hw c2 cm (by rw [limbs_V hw (by lia), limbs_V hw (by lia)]; exact this), limbs_V hw (by lia), limbs_V hw (by lia)]
    congr 1
    have e : 2 * x = (2 * x - m) + m * 1 := by lia
    rw [e, Int.add_mul_emod_self_left, Int.emod_eq_of_lt (by lia) (by lia)]
    lia
  · rw [if_neg q]
    have : 2 * x < m := hc.mp (by lia)
    rw [Int.emod_eq_of_lt (by lia) this]
theorem dblN_spec (hw : 1 ≤ w) {x m : Int} (hx : 0 ≤ x ∧ x < m) : ∀ j, dblN (limbs w m) w (limbs w x) j = limbs w (2 ^ j * x % m)
  | 0 => by simp [dblN, Int.emod_eq_of_lt hx.1 hx.2]
  | j + 1 => by
    rw [dblN, dblN_spec hw hx j, dblL_spec hw ⟨Int.emod_nonneg _ (by lia), Int.emod_lt_of_pos _ (by lia)⟩]
    congr 1
    rw [Int.mul_emod 2 (2 ^ j * x % m) m, Int.emod_emod_of_dvd _ (Int.dvd_refl m), ← Int.mul_emod, Int.pow_succ]
    rw [ring4]
end

theorem getD_set_ne {ns : List Int} {i j : Nat} {x : Int} (h : i ≠ j) : (ns.set i x).getD j 0 = ns.getD j 0 := by
  rw [List.getD, List.getD, List.getElem?_set_ne h]
theorem ring5 (v c P u l A s m x t r d B K : Int) (h : v + c * P = u + l * A * s) (hP : P = A * K) (e : r + B * d = t) (ht : t = c + (x + m * l)) : v + (r - x) * P + d * (P * B) = u + l * A * (s + m * K) := by
  subst hP ht
  grind
theorem ring6 (v c P x t r d B : Int) (e : r + B * d = t) (ht : t = c + x) : v + (r - x) * P + d * (P * B) = v + c * P := by
  subst ht
  grind
section
variable {w : Nat}
theorem prod_lt {x y B : Int} (hx : 0 ≤ x ∧ x < B) (hy : 0 ≤ y ∧ y < B) : 0 ≤ x * y ∧ x * y ≤ (B - 1) * (B - 1) :=
  ⟨Int.mul_nonneg hx.1 hy.1, Int.mul_le_mul (by lia) (by lia) hy.1 (by lia)⟩
theorem rowF_spec (hw : 1 ≤ w) {rest ms : List Int} {limb : Int} {a : Nat} (hr : Dg (2 ^ w) rest) (hm : Dg (2 ^ w) ms) (hl : 0 ≤ limb ∧ limb < 2 ^ w) : ∀ k, a + k ≤ rest.length →
    Dg (2 ^ w) (rowF rest ms limb a w k).1 ∧ (0 ≤ (rowF rest ms limb a w k).2 ∧ (rowF rest ms limb a w k).2 < 2 ^ w) ∧ V (2 ^ w) (rowF rest ms limb a w k).1 + (rowF rest ms limb a w k).2 * (2 ^ w) ^ (a + k) = V (2 ^ w) rest + limb * (2 ^ w) ^ a * S (2 ^ w) ms k ∧
    (∀ i, a + k ≤ i → (rowF rest ms limb a w k).1.getD i 0 = rest.getD i 0)
  | 0, _ => ⟨hr, ⟨Int.le_refl _, pow_pos2⟩, by simp [rowF, S], fun _ _ => rfl⟩
  | k + 1, hk => by
    obtain ⟨h1, h2, h3, h4⟩ := rowF_spec (a := a) hw hr hm hl k (by lia)
    have hB := two_le hw
    have hlen := rowF_len rest ms limb a w k
    have mk := hm.get (by lia) k
    rw [rowF, S, ← Nat.add_assoc, Int.pow_succ (2 ^ w) (a + k)]
    generalize rowF rest ms limb a w k = s at *
    obtain ⟨r, c⟩ := s
    dsimp only at *
    have rk := h1.get (by lia) (a + k)
    have e2 : bitAnd (c + (r.getD (a + k) 0 + ms.getD k 0 * limb)) (2 ^ w - 1) = (c + (r.getD (a + k) 0 + ms.getD k 0 * limb)) % 2 ^ w := mask_mod _
    rw [e2]
    have hm1 := @mod_bd (c + (r.getD (a + k) 0 + ms.getD k 0 * limb)) w
    have he := Int.emod_add_mul_ediv (c + (r.getD (a + k) 0 + ms.getD k 0 * limb)) (2 ^ w)
    have hset := V_set (B := 2 ^ w) ((c + (r.getD (a + k) 0 + ms.getD k 0 * limb)) % 2 ^ w) (ns := r) (i := a + k) (by lia)
    have hdg := h1.set hm1 (a + k)
    have hpw : ((2 : Int) ^ w) ^ (a + k) = (2 ^ w) ^ a * (2 ^ w) ^ k := Int.pow_add _ _ _
    have pb := prod_lt mk hl
    refine ⟨hdg, ?_, ?_, fun i hi => ?_⟩
    · have hd0 : 0 ≤ (c + (r.getD (a + k) 0 + ms.getD k 0 * limb)) / 2 ^ w := Int.ediv_nonneg (by lia) (by lia)
      refine ⟨hd0, Int.ediv_lt_of_lt_mul (by lia) ?_⟩
      generalize ms.getD k 0 * limb = pr at *
      generalize (2 : Int) ^ w = B at *
      have : (B - 1) * (B - 1) = B * B - 2 * B + 1 := by grind
      lia
    · rw [hset]
      exact ring5 _ _ _ _ _ _ _ _ _ _ _ _ _ _ h3 hpw he rfl
    · rw [getD_set_ne (by lia)]
      exact h4 i (by lia)

theorem propL_spec (hw : 1 ≤ w) : ∀ (f : Nat) (r : List Int) (c : Int) (i : Nat), Dg (2 ^ w) r → 0 ≤ c → i ≤ r.length → r.length - i < f → V (2 ^ w) r + c * (2 ^ w) ^ i < (2 ^ w) ^ r.length →
    Dg (2 ^ w) (propL w f r c i).1 ∧ V (2 ^ w) (propL w f r c i).1 = V (2 ^ w) r + c * (2 ^ w) ^ i ∧ (propL w f r c i).2.1 ≤ 0 ∧ (propL w f r c i).2.2 ≤ r.length
  | 0, r, c, i, _, _, _, hf, _ => absurd hf (Nat.not_lt_zero _)
  | f + 1, r, c, i, hr, hc, hi, hf, hlt => by
    have hB := two_le hw
    rw [propL]
    by_cases q : 0 < c
    · rw [if_pos q]
      have hil : i < r.length := by
        refine Nat.lt_of_le_of_ne hi fun e => ?_
        have h0 := V_nonneg (by lia) hr
        have h1 : 0 < ((2 : Int) ^ w) ^ r.length := Int.pow_pos (by lia)
        rw [e] at hlt
        have := Int.mul_le_mul_of_nonneg_right (show 1 ≤ c from q) (Int.le_of_lt h1)
        lia
      have rk := hr.get (by lia) i
      have e2 : bitAnd (c + r.getD i 0) (2 ^ w - 1) = (c + r.getD i 0) % 2 ^ w := mask_mod _
      rw [e2]
      have hm1 := @mod_bd (c + r.getD i 0) w
      have he := Int.emod_add_mul_ediv (c + r.getD i 0) (2 ^ w)
      have hset := V_set (B := 2 ^ w) ((c + r.getD i 0) % 2 ^ w) (ns := r) (i := i) hil
      have hd0 : 0 ≤ (c + r.getD i 0) / 2 ^ w := Int.ediv_nonneg (by lia) (by lia)
      have key : V (2 ^ w) (r.set i ((c + r.getD i 0) % 2 ^ w)) + (c + r.getD i 0) / 2 ^ w * (2 ^ w) ^ (i + 1) = V (2 ^ w) r + c * (2 ^ w) ^ i := by
        rw [hset, Int.pow_succ]
        exact ring6 _ _ _ _ _ _ _ _ he rfl
      have ih := propL_spec hw f (r.set i ((c + r.getD i 0) % 2 ^ w)) ((c + r.getD i 0) / 2 ^ w) (i + 1) (hr.set hm1 i) hd0 (by rw [List.length_set]; lia) (by rw [List.length_set]; lia) (by rw [key, List.length_set]; exact hlt)
      rw [key, List.length_set] at ih
      exact ih
    · rw [if_neg q]
      have : c = 0 := by lia
      subst this
      exact ⟨hr, by simp, Int.le_refl _, hi⟩

theorem natAbs_small {x : Int} {B : Int} (h : 0 ≤ x ∧ x < B) (hB : B ≤ 4096) : x.natAbs < 2 ^ 64 := by lia
theorem rowL_spec (hw : 1 ≤ w) (hw' : w ≤ 12) {rest ms : List Int} {limb : Int} {a : Nat} (hr : Dg (2 ^ w) rest) (hm : Dg (2 ^ w) ms) (hl : 0 ≤ limb ∧ limb < 2 ^ w) (hlen : a + ms.length ≤ rest.length) (hlt : V (2 ^ w) rest + limb * (2 ^ w) ^ a * V (2 ^ w) ms < (2 ^ w) ^ rest.length) :
    RowOk rest ms limb a w ∧ Dg (2 ^ w) (rowL rest ms limb a w) ∧ V (2 ^ w) (rowL rest ms limb a w) = V (2 ^ w) rest + limb * (2 ^ w) ^ a * V (2 ^ w) ms := by
  obtain ⟨h1, h2, h3, _⟩ := rowF_spec hw hr hm hl ms.length hlen
  rw [S_V (Nat.le_refl _)] at h3
  have hle := rowF_len rest ms limb a w ms.length
  have p := propL_spec hw (rest.length + 1) (rowF rest ms limb a w ms.length).1 (rowF rest ms limb a w ms.length).2 (a + ms.length) h1 h2.1 (by lia) (by lia) (by rw [h3, hle]; exact hlt)
  rw [h3, hle] at p
  exact ⟨⟨p.2.2.1, p.2.2.2, natAbs_small hl (pow_le12 hw'), hlen⟩, p.1, p.2.1⟩
end

theorem ring7 (B e r g d mm mi q u : Int) (h1 : r * mi = B * d + q) (h2 : u = B * e + r) (h3 : mm * mi + 1 = B * g) : u + q * mm = B * (e + r * g - d * mm) := by grind
theorem red_dvd {u mm mi B : Int} (h : (mm * mi + 1) % B = 0) : ∃ z, u + ((u % B) * mi % B) * mm = B * z := by
  have h1 := Int.emod_add_mul_ediv (u % B * mi) B
  have h2 := Int.emod_add_mul_ediv u B
  have h3 := Int.emod_add_mul_ediv (mm * mi + 1) B
  rw [h, Int.zero_add] at h3
  exact ⟨_, ring7 B (u / B) (u % B) _ _ mm mi _ u (by rw [Int.add_comm]; exact h1.symm) (by rw [Int.add_comm]; exact h2.symm) h3.symm⟩
theorem powLt {B : Int} (hB : 1 ≤ B) {i j : Nat} (h : B ^ i < B ^ j) : i < j := Nat.not_le.mp fun q => by have := powLe hB q; lia

/-- an odd modulus, told by its limbs -/
structure Mo (w : Nat) (mm mi : Int) : Prop where
  w2 : 2 ≤ w
  w12 : w ≤ 12
  m0 : 0 < mm
  m1 : mm < 100
  bm : 0 ≤ mi ∧ mi < 2 ^ w
  inv : (mm * mi + 1) % 2 ^ w = 0

section
variable {w : Nat} {mm mi : Int}
theorem limbs_len {x : Int} : (limbs w x).length ≤ x.toNat := limbsF_len w _ x
theorem fine_of (hw : w ≤ 12) {ns : List Int} (h : Dg (2 ^ w) ns) (hl : ns.length < 900) : Fine ns := ⟨hl, fun j _ => natAbs_small (h.get pow_pos2 j) (pow_le12 hw)⟩
theorem limbs_fine (hw : 1 ≤ w) (hw' : w ≤ 12) {x : Int} (h : 0 ≤ x) (hx : x < 900) : Fine (limbs w x) := fine_of hw' (limbs_can hw h).dg (by have := @limbs_len w x; lia)
theorem Mo.ne (M : Mo w mm mi) : limbs w mm ≠ [] := fun e => by
  have := limbs_V (w := w) (by have := M.w2; lia) (Int.le_of_lt M.m0)
  rw [e] at this
  have := M.m0
  simp [V] at *
  lia
theorem Mo.n0 (M : Mo w mm mi) : 0 < (limbs w mm).length := List.length_pos_iff.mpr M.ne
theorem Mo.n1 (M : Mo w mm mi) : (limbs w mm).length < 100 := by
  have := @limbs_len w mm
  have := M.m1
  lia
theorem Mo.can (M : Mo w mm mi) : Can (2 ^ w) (limbs w mm) := limbs_can (by have := M.w2; lia) (Int.le_of_lt M.m0)
theorem Mo.v (M : Mo w mm mi) : V (2 ^ w) (limbs w mm) = mm := limbs_V (by have := M.w2; lia) (Int.le_of_lt M.m0)
theorem Mo.lt (M : Mo w mm mi) : mm < (2 ^ w) ^ (limbs w mm).length := by
  have := V_lt pow_pos2 M.can.dg
  rw [M.v] at this
  exact this

theorem onceL_spec (hw : 1 ≤ w) {x m : Int} (hx : 0 ≤ x ∧ x < 2 * m) : onceL (limbs w x) (limbs w m) w = limbs w (x % m) := by
  have hB := two_le hw
  have cm := limbs_can hw (show 0 ≤ m by lia)
  have c2 := limbs_can hw hx.1
  unfold onceL
  have hc := cmpL_spec hB c2 cm
  rw [limbs_V hw (by lia), limbs_V hw (by lia)] at hc
  by_cases q : 0 ≤ cmpL (limbs w x) (limbs w m)
  · rw [if_pos q]
    have : m ≤ x := by
      have : ¬ x < m := fun z => by have := hc.mpr z; lia
      lia
    rw [subL_spec hw c2 cm (by rw [limbs_V hw (by lia), limbs_V hw (by lia)]; exact this), limbs_V hw (by lia), limbs_V hw (by lia)]
    congr 1
    have e : x = (x - m) + m * 1 := by lia
    rw [e, Int.add_mul_emod_self_left, Int.emod_eq_of_lt (by lia) (by lia)]
    lia
  · rw [if_neg q]
    have : x < m := hc.mp (by lia)
    rw [Int.emod_eq_of_lt (by lia) this]

theorem redQ_eq {r : List Int} (h : Dg (2 ^ w) r) (j : Nat) : redQ r mi w j = (V (2 ^ w) r / (2 ^ w) ^ j % 2 ^ w) * mi % 2 ^ w := by
  unfold redQ
  rw [← V_digit pow_pos2 h j]
  exact mask_mod _

theorem ring8 (Q q P m a v : Int) (h : v = a + Q * m) : v + q * P * m = a + (Q + q * P) * m := by grind
theorem ring9 (Q q P m a v u : Int) (h : v = P * u) : v + q * P * m = P * (u + q * m) := by grind
theorem redF_spec (M : Mo w mm mi) {as : List Int} (ha : Can (2 ^ w) as) (hlt : V (2 ^ w) as < (2 ^ w) ^ (limbs w mm).length * mm) (hba : as.length ≤ 2 * (limbs w mm).length + 1) : ∀ j, j ≤ (limbs w mm).length →
    Dg (2 ^ w) (redF as (limbs w mm) mi w j) ∧ (∃ Q, 0 ≤ Q ∧ Q < (2 ^ w) ^ j ∧ V (2 ^ w) (redF as (limbs w mm) mi w j) = V (2 ^ w) as + Q * mm) ∧ (∃ u, V (2 ^ w) (redF as (limbs w mm) mi w j) = (2 ^ w) ^ j * u) ∧
    (∀ i, i < j → RowOk (redF as (limbs w mm) mi w i) (limbs w mm) (redQ (redF as (limbs w mm) mi w i) mi w i) i w ∧ ((redF as (limbs w mm) mi w i).getD i 0).natAbs < 2 ^ 64)
  | 0, _ => by
    have hB := two_le (show 1 ≤ w by have := M.w2; lia)
    refine ⟨ha.dg.append (.zeros (by lia) _), ⟨0, Int.le_refl _, by simp, ?_⟩, ⟨_, by simp; rfl⟩, fun i hi => absurd hi (Nat.not_lt_zero _)⟩
    rw [redF, V_append, V_zeros]; simp
  | j + 1, hj => by
    have hw : 1 ≤ w := by have := M.w2; lia
    have hB := two_le hw
    obtain ⟨h1, ⟨Q, q0, q1, hQ⟩, ⟨u, hu⟩, hrow⟩ := redF_spec M ha hlt hba j (by lia)
    have hlen := redF_len as (limbs w mm) mi w hba j
    have eq := redQ_eq (mi := mi) h1 j
    have hpj : 0 < ((2 : Int) ^ w) ^ j := Int.pow_pos (by lia)
    have eu : V (2 ^ w) (redF as (limbs w mm) mi w j) / (2 ^ w) ^ j = u := by rw [hu]; exact Int.mul_ediv_cancel_left _ (Int.ne_of_gt hpj)
    rw [eu] at eq
    obtain ⟨z, hz⟩ := red_dvd (u := u) M.inv
    rw [← eq] at hz
    have hq : 0 ≤ redQ (redF as (limbs w mm) mi w j) mi w j ∧ redQ (redF as (limbs w mm) mi w j) mi w j < 2 ^ w := by rw [eq]; exact mod_bd
    have hdig := h1.get pow_pos2 j
    have hpw : ((2 : Int) ^ w) ^ (j + 1) = (2 ^ w) ^ j * 2 ^ w := Int.pow_succ _ _
    have hle : ((2 : Int) ^ w) ^ (j + 1) ≤ (2 ^ w) ^ (limbs w mm).length := powLe (by lia) hj
    have e8 := ring8 Q (redQ (redF as (limbs w mm) mi w j) mi w j) ((2 ^ w) ^ j) mm _ _ hQ
    have e9 := ring9 Q (redQ (redF as (limbs w mm) mi w j) mi w j) ((2 ^ w) ^ j) mm (V (2 ^ w) as) _ u hu
    have Q1 : Q + redQ (redF as (limbs w mm) mi w j) mi w j * (2 ^ w) ^ j < (2 ^ w) ^ (j + 1) := by
      have := Int.mul_le_mul_of_nonneg_right (show redQ (redF as (limbs w mm) mi w j) mi w j + 1 ≤ 2 ^ w from hq.2) (Int.le_of_lt hpj)
      rw [Int.add_mul] at this
      have := Int.mul_comm (2 ^ w) (((2 : Int) ^ w) ^ j)
      lia
    have Q0 : 0 ≤ Q + redQ (redF as (limbs w mm) mi w j) mi w j * (2 ^ w) ^ j := by
      have := Int.mul_nonneg hq.1 (Int.le_of_lt hpj)
      lia
    have hfit : V (2 ^ w) as + (Q + redQ (redF as (limbs w mm) mi w j) mi w j * (2 ^ w) ^ j) * mm < (2 ^ w) ^ (2 * (limbs w mm).length + 1) := by
      have h3 : (Q + redQ (redF as (limbs w mm) mi w j) mi w j * (2 ^ w) ^ j) * mm ≤ (2 ^ w) ^ (limbs w mm).length * mm := Int.mul_le_mul_of_nonneg_right (by lia) (Int.le_of_lt M.m0)
      have h4 : ((2 : Int) ^ w) ^ (limbs w mm).length * mm ≤ (2 ^ w) ^ (limbs w mm).length * (2 ^ w) ^ (limbs w mm).length := Int.mul_le_mul_of_nonneg_left (Int.le_of_lt M.lt) (Int.le_of_lt (Int.pow_pos (by lia)))
      have h5 : ((2 : Int) ^ w) ^ (2 * (limbs w mm).length + 1) = (2 ^ w) ^ (limbs w mm).length * (2 ^ w) ^ (limbs w mm).length * 2 ^ w := by rw [Int.pow_succ, Nat.two_mul, Int.pow_add]
      have h6 : 0 < ((2 : Int) ^ w) ^ (limbs w mm).length * (2 ^ w) ^ (limbs w mm).length := Int.mul_pos (Int.pow_pos (by lia)) (Int.pow_pos (by lia))
      have h7 := Int.mul_le_mul_of_nonneg_left hB (Int.le_of_lt h6)
      lia
    have R := rowL_spec hw M.w12 (a := j) h1 M.can.dg hq (by lia) (by rw [M.v, hlen, e8]; exact hfit)
    rw [M.v] at R
    refine ⟨R.2.1, ⟨_, Q0, Q1, R.2.2.trans e8⟩, ⟨z, ?_⟩, fun i hi => ?_⟩
    · rw [redF, R.2.2, e9, hz, hpw]
      exact (Int.mul_assoc _ _ _).symm
    · by_cases e : i = j
      · subst e
        exact ⟨R.1, natAbs_small hdig (pow_le12 M.w12)⟩
      · exact hrow i (by lia)

theorem mod_of_mul {T P a Q m : Int} (h : T * P = a + Q * m) : (T % m * P) % m = a % m := by
  rw [Int.mul_emod, Int.emod_emod_of_dvd _ (Int.dvd_refl m), ← Int.mul_emod, h, Int.add_mul_emod_self_right]

theorem redL_spec (M : Mo w mm mi) {as : List Int} (ha : Can (2 ^ w) as) (hlt : V (2 ^ w) as < (2 ^ w) ^ (limbs w mm).length * mm) :
    RedOk as (limbs w mm) mi w ∧ ∃ z, redL as (limbs w mm) mi w = limbs w z ∧ (0 ≤ z ∧ z < mm) ∧ (z * (2 ^ w) ^ (limbs w mm).length) % mm = V (2 ^ w) as % mm := by
  have hw : 1 ≤ w := by have := M.w2; lia
  have hB := two_le hw
  have hn0 := M.n0
  have hn1 := M.n1
  have hpn : 0 < ((2 : Int) ^ w) ^ (limbs w mm).length := Int.pow_pos (by lia)
  have hba : as.length ≤ 2 * (limbs w mm).length := by
    refine Nat.not_lt.mp fun q => ?_
    obtain ⟨k, hk⟩ : ∃ k, as.length = k + 1 := ⟨as.length - 1, by lia⟩
    have h1 := ha.ge (by lia) k hk
    have h4 : ((2 : Int) ^ w) ^ (limbs w mm).length * mm ≤ (2 ^ w) ^ (limbs w mm).length * (2 ^ w) ^ (limbs w mm).length := Int.mul_le_mul_of_nonneg_left (Int.le_of_lt M.lt) (Int.le_of_lt hpn)
    have h5 : ((2 : Int) ^ w) ^ (2 * (limbs w mm).length) = (2 ^ w) ^ (limbs w mm).length * (2 ^ w) ^ (limbs w mm).length := by rw [Nat.two_mul, Int.pow_add]
    have := powLt (B := 2 ^ w) (by lia) (i := k) (j := 2 * (limbs w mm).length) (by lia)
    lia
  obtain ⟨h1, ⟨Q, q0, q1, hQ⟩, ⟨u, hu⟩, hrow⟩ := redF_spec M ha hlt (by lia) (limbs w mm).length (Nat.le_refl _)
  have hlen := redF_len as (limbs w mm) mi w (by lia) (limbs w mm).length
  have hvd : V (2 ^ w) ((redF as (limbs w mm) mi w (limbs w mm).length).drop (limbs w mm).length) = u := by
    rw [V_drop (by lia) h1, hu]; exact Int.mul_ediv_cancel_left _ (Int.ne_of_gt hpn)
  have hnorm := norm_limbs hw (h1.drop (limbs w mm).length) hvd
  have hu0 : 0 ≤ u := by rw [← hvd]; exact V_nonneg (by lia) (h1.drop _)
  have hu1 : u < 2 * mm := by
    refine Int.not_le.mp fun q => ?_
    have h3 := Int.mul_le_mul_of_nonneg_left q (Int.le_of_lt hpn)
    have h4 : Q * mm ≤ (2 ^ w) ^ (limbs w mm).length * mm := Int.mul_le_mul_of_nonneg_right (by lia) (Int.le_of_lt M.m0)
    have h5 : ((2 : Int) ^ w) ^ (limbs w mm).length * (2 * mm) = 2 * ((2 ^ w) ^ (limbs w mm).length * mm) := by grind
    lia
  refine ⟨⟨fine_of M.w12 M.can.dg (by lia), hn0, hn1, natAbs_small M.bm (pow_le12 M.w12), by lia, ?_, by have := M.w12; lia, hrow, ?_⟩, u % mm, ?_, ⟨Int.emod_nonneg _ (Int.ne_of_gt M.m0), Int.emod_lt_of_pos _ M.m0⟩, ?_⟩
  · refine (cmpL_spec hB ha (Can.zeros (by lia) M.can M.ne _)).mpr ?_
    rw [V_append, V_zeros, List.length_replicate, M.v]; lia
  · have : (norm ((redF as (limbs w mm) mi w (limbs w mm).length).drop (limbs w mm).length)).length ≤ ((redF as (limbs w mm) mi w (limbs w mm).length).drop (limbs w mm).length).length := by unfold norm; rw [List.length_take]; exact Nat.min_le_right _ _
    rw [List.length_drop, hlen] at this
    lia
  · unfold redL
    rw [hnorm]
    exact onceL_spec hw ⟨hu0, hu1⟩
  · refine mod_of_mul (Q := Q) ?_
    rw [Int.mul_comm, ← hu, hQ]
end

theorem ring10 (v c P f x A b s : Int) (h : v + c * P = f + x * A * b) (hf : f = s * b) : v + (c - 0) * P = (s + x * A) * b := by grind
theorem ring11 (y al vr x b q mm A B s z : Int) (h : B * y = al + q * mm) (ha : al = vr + x * 1 * b) (hv : vr * A = s * b + z * mm) : y * (A * B) = (s + x * A) * b + (z + q * A) * mm := by
  have : y * (A * B) = (B * y) * A := by grind
  rw [this, h, ha]
  have : (vr + x * 1 * b + q * mm) * A = vr * A + x * A * b + q * A * mm := by grind
  rw [this, hv]
  grind

section
variable {w : Nat} {mm mi : Int}
theorem schoolF_spec (hw : 1 ≤ w) {as bs : List Int} (ha : Dg (2 ^ w) as) (hb : Dg (2 ^ w) bs) : ∀ j, j ≤ as.length → Dg (2 ^ w) (schoolF as bs w j) ∧ V (2 ^ w) (schoolF as bs w j) = S (2 ^ w) as j * V (2 ^ w) bs
  | 0, _ => ⟨.zeros pow_pos2 _, by rw [schoolF, V_zeros]; simp [S]⟩
  | j + 1, hj => by
    have hB := two_le hw
    obtain ⟨h1, h2⟩ := schoolF_spec hw ha hb j (by lia)
    have hlen := schoolF_len as bs w j
    have aj := ha.get (by lia) j
    obtain ⟨r1, r2, r3, r4⟩ := rowF_spec (a := j) hw h1 hb aj bs.length (by lia)
    have hrl := rowF_len (schoolF as bs w j) bs (as.getD j 0) j w bs.length
    rw [S_V (Nat.le_refl _)] at r3
    have hz : (rowF (schoolF as bs w j) bs (as.getD j 0) j w bs.length).1.getD (j + bs.length) 0 = 0 := by
      rw [r4 _ (Nat.le_refl _), V_digit (by lia) h1, h2]
      have s0 := S_nonneg (by lia) ha j
      have s1 := S_lt (by lia) ha j
      have b0 := V_nonneg (by lia) hb
      have b1 := V_lt (by lia) hb
      have : S (2 ^ w) as j * V (2 ^ w) bs < (2 ^ w) ^ (j + bs.length) := by
        rw [Int.pow_add]
        have h3 : S (2 ^ w) as j * V (2 ^ w) bs ≤ (2 ^ w) ^ j * V (2 ^ w) bs := Int.mul_le_mul_of_nonneg_right (Int.le_of_lt s1) b0
        have h4 : ((2 : Int) ^ w) ^ j * V (2 ^ w) bs < (2 ^ w) ^ j * (2 ^ w) ^ bs.length := Int.mul_lt_mul_of_pos_left b1 (Int.pow_pos (by lia))
        lia
      rw [Int.ediv_eq_zero_of_lt (Int.mul_nonneg s0 b0) this]
      rfl
    rw [schoolF]
    refine ⟨r1.set r2 _, ?_⟩
    rw [V_set _ (by lia), hz, S]
    exact ring10 _ _ _ _ _ _ _ _ r3 h2
theorem schoolL_spec (hw : 1 ≤ w) {as bs : List Int} (ha : Dg (2 ^ w) as) (hb : Dg (2 ^ w) bs) : schoolL as bs w = limbs w (V (2 ^ w) as * V (2 ^ w) bs) := by
  obtain ⟨h1, h2⟩ := schoolF_spec hw ha hb as.length (Nat.le_refl _)
  rw [S_V (Nat.le_refl _)] at h2
  exact norm_limbs hw h1 h2

theorem rowsF_spec (M : Mo w mm mi) {as bs : List Int} (ha : Dg (2 ^ w) as) (hb : Can (2 ^ w) bs) (hbm : V (2 ^ w) bs < mm) : ∀ j, j ≤ (limbs w mm).length →
    Dg (2 ^ w) (rowsF as bs (limbs w mm) mi w j) ∧ V (2 ^ w) (rowsF as bs (limbs w mm) mi w j) < V (2 ^ w) bs + mm ∧ (∃ z, V (2 ^ w) (rowsF as bs (limbs w mm) mi w j) * (2 ^ w) ^ j = S (2 ^ w) as j * V (2 ^ w) bs + z * mm) ∧
    (∀ i, i < j → RowOk (rowsF as bs (limbs w mm) mi w i) bs (as.getD i 0) 0 w ∧ RowOk (rowsA as bs (limbs w mm) mi w i (rowsF as bs (limbs w mm) mi w i)) (limbs w mm) (redQ (rowsA as bs (limbs w mm) mi w i (rowsF as bs (limbs w mm) mi w i)) mi w 0) 0 w ∧ ((rowsA as bs (limbs w mm) mi w i (rowsF as bs (limbs w mm) mi w i)).getD 0 0).natAbs < 2 ^ 64)
  | 0, _ => by
    have hw : 1 ≤ w := by have := M.w2; lia
    have b0 := V_nonneg pow_pos2 hb.dg
    have m0 := M.m0
    refine ⟨.zeros pow_pos2 _, by rw [rowsF, V_zeros]; lia, ⟨0, by rw [rowsF, V_zeros]; simp [S]⟩, fun i hi => absurd hi (Nat.not_lt_zero _)⟩
  | j + 1, hj => by
    have hw : 1 ≤ w := by have := M.w2; lia
    have hB := two_le hw
    have m0 := M.m0
    have b0 := V_nonneg pow_pos2 hb.dg
    obtain ⟨h1, h2, ⟨z, h3⟩, h4⟩ := rowsF_spec M ha hb hbm j (by lia)
    have hlen := rowsF_len as bs (limbs w mm) mi w j
    have aj := ha.get (by lia) j
    have hbl : bs.length ≤ (limbs w mm).length := hb.len_le hB M.can.dg (by rw [M.v]; lia)
    have hP : ((2 : Int) ^ w) ^ ((limbs w mm).length + 2) = (2 ^ w) ^ (limbs w mm).length * (2 ^ w * 2 ^ w) := by rw [Int.pow_add]; congr 1; rw [Int.pow_succ, Int.pow_succ, Int.pow_zero, Int.one_mul]
    have hmP := M.lt
    have hbig : 2 ^ w * (2 * mm) < ((2 : Int) ^ w) ^ ((limbs w mm).length + 2) := by
      rw [hP]
      have e1 : (2 : Int) ^ w * (2 * mm) ≤ 2 ^ w * (2 ^ w * mm) := Int.mul_le_mul_of_nonneg_left (Int.mul_le_mul_of_nonneg_right hB (by lia)) (by lia)
      have e2 : mm * (2 ^ w * 2 ^ w) < (2 ^ w) ^ (limbs w mm).length * (2 ^ w * 2 ^ w) := Int.mul_lt_mul_of_pos_right hmP (Int.mul_pos (by lia) (by lia))
      have e3 : (2 : Int) ^ w * (2 ^ w * mm) = mm * (2 ^ w * 2 ^ w) := by grind
      lia
    have v0 := V_nonneg pow_pos2 h1
    have xb : as.getD j 0 * V (2 ^ w) bs ≤ (2 ^ w - 1) * V (2 ^ w) bs := Int.mul_le_mul_of_nonneg_right (by lia) b0
    have xb' : (2 ^ w - 1) * V (2 ^ w) bs = 2 ^ w * V (2 ^ w) bs - V (2 ^ w) bs := by grind
    have bm2 : 2 ^ w * (V (2 ^ w) bs + mm) ≤ 2 ^ w * (2 * mm) := Int.mul_le_mul_of_nonneg_left (by lia) (by lia)
    have bm3 : (2 : Int) ^ w * (V (2 ^ w) bs + mm) = 2 ^ w * V (2 ^ w) bs + 2 ^ w * mm := Int.mul_add _ _ _
    have bm4 : mm ≤ 2 ^ w * mm := by have := Int.mul_le_mul_of_nonneg_right (show (1 : Int) ≤ 2 ^ w by lia) (Int.le_of_lt m0); lia
    have e1 : as.getD j 0 * (2 ^ w) ^ 0 * V (2 ^ w) bs = as.getD j 0 * V (2 ^ w) bs := by rw [Int.pow_zero, Int.mul_one]
    have R1 := rowL_spec hw M.w12 (a := 0) h1 hb.dg aj (by lia) (by rw [hlen, e1]; lia)
    obtain ⟨R1o, A1, A2⟩ := R1
    have hAlen := rowsA_len as bs (limbs w mm) mi w j (rowsF as bs (limbs w mm) mi w j)
    change Dg (2 ^ w) (rowsA as bs (limbs w mm) mi w j (rowsF as bs (limbs w mm) mi w j)) at A1
    change V (2 ^ w) (rowsA as bs (limbs w mm) mi w j (rowsF as bs (limbs w mm) mi w j)) = _ at A2
    rw [rowsF, rowsS]
    have h4' : ∀ P : Nat → Prop, (∀ i, i < j → P i) → P j → ∀ i, i < j + 1 → P i := fun P a b i hi => by
      by_cases e : i = j
      · subst e; exact b
      · exact a i (by lia)
    have hAd := A1.get pow_pos2 0
    have eq := redQ_eq (mi := mi) A1 0
    rw [Int.pow_zero, Int.ediv_one] at eq
    obtain ⟨y, hy⟩ := red_dvd (u := V (2 ^ w) (rowsA as bs (limbs w mm) mi w j (rowsF as bs (limbs w mm) mi w j))) M.inv
    rw [← eq] at hy
    have hq : 0 ≤ redQ (rowsA as bs (limbs w mm) mi w j (rowsF as bs (limbs w mm) mi w j)) mi w 0 ∧ redQ (rowsA as bs (limbs w mm) mi w j (rowsF as bs (limbs w mm) mi w j)) mi w 0 < 2 ^ w := by rw [eq]; exact mod_bd
    have qm : redQ (rowsA as bs (limbs w mm) mi w j (rowsF as bs (limbs w mm) mi w j)) mi w 0 * mm ≤ (2 ^ w - 1) * mm := Int.mul_le_mul_of_nonneg_right (by lia) (by lia)
    have qm' : (2 ^ w - 1) * mm = 2 ^ w * mm - mm := by grind
    have ax := Int.mul_nonneg aj.1 b0
    have qx := Int.mul_nonneg hq.1 (Int.le_of_lt m0)
    have e2 : redQ (rowsA as bs (limbs w mm) mi w j (rowsF as bs (limbs w mm) mi w j)) mi w 0 * (2 ^ w) ^ 0 * mm = redQ (rowsA as bs (limbs w mm) mi w j (rowsF as bs (limbs w mm) mi w j)) mi w 0 * mm := by rw [Int.pow_zero, Int.mul_one]
    rw [e1] at A2
    have R2 := rowL_spec hw M.w12 (a := 0) (limb := redQ (rowsA as bs (limbs w mm) mi w j (rowsF as bs (limbs w mm) mi w j)) mi w 0) A1 M.can.dg hq (by lia) (by rw [hAlen, hlen, M.v, e2]; lia)
    rw [M.v, e2, hy] at R2
    obtain ⟨R2o, C1, C2⟩ := R2
    have hvd : V (2 ^ w) ((rowL (rowsA as bs (limbs w mm) mi w j (rowsF as bs (limbs w mm) mi w j)) (limbs w mm) (redQ (rowsA as bs (limbs w mm) mi w j (rowsF as bs (limbs w mm) mi w j)) mi w 0) 0 w).drop 1 ++ [0]) = y := by
      rw [V_append, V_one, V_drop pow_pos2 C1, C2, Int.mul_zero, Int.pow_succ, Int.pow_zero, Int.one_mul, Int.mul_ediv_cancel_left _ (Int.ne_of_gt pow_pos2)]; lia
    refine ⟨(C1.drop 1).append (.cons (by lia) .nil), ?_, ?_, h4' _ h4 ⟨R1o, R2o, natAbs_small hAd (pow_le12 M.w12)⟩⟩
    · rw [hvd]
      refine Int.not_le.mp fun q => ?_
      have := Int.mul_le_mul_of_nonneg_left q (show (0 : Int) ≤ 2 ^ w by lia)
      lia
    · rw [hvd, Int.pow_succ, S]
      exact ⟨_, ring11 _ _ _ _ _ _ _ _ _ _ _ hy.symm (by rw [A2, Int.mul_one]) h3⟩

theorem rowsL_spec (M : Mo w mm mi) {as bs : List Int} (ha : Can (2 ^ w) as) (ham : V (2 ^ w) as < mm) (hb : Can (2 ^ w) bs) (hbm : V (2 ^ w) bs < mm) :
    RowsOk as bs (limbs w mm) mi w ∧ ∃ z, rowsL as bs (limbs w mm) mi w = limbs w z ∧ (0 ≤ z ∧ z < mm) ∧ (z * (2 ^ w) ^ (limbs w mm).length) % mm = (V (2 ^ w) as * V (2 ^ w) bs) % mm := by
  have hw : 1 ≤ w := by have := M.w2; lia
  have hB := two_le hw
  have hn0 := M.n0
  have hn1 := M.n1
  obtain ⟨h1, h2, ⟨z, h3⟩, h4⟩ := rowsF_spec M ha.dg hb hbm (limbs w mm).length (Nat.le_refl _)
  have hlen := rowsF_len as bs (limbs w mm) mi w (limbs w mm).length
  have hal : as.length ≤ (limbs w mm).length := ha.len_le hB M.can.dg (by rw [M.v]; lia)
  have hbl : bs.length ≤ (limbs w mm).length := hb.len_le hB M.can.dg (by rw [M.v]; lia)
  rw [S_V hal] at h3
  have v0 := V_nonneg pow_pos2 h1
  refine ⟨⟨fine_of M.w12 hb.dg (by lia), fine_of M.w12 M.can.dg (by lia), hn0, hn1, natAbs_small M.bm (pow_le12 M.w12), by have := M.w12; lia, h4, ?_⟩, _, ?_, ⟨Int.emod_nonneg _ (Int.ne_of_gt M.m0), Int.emod_lt_of_pos _ M.m0⟩, mod_of_mul h3⟩
  · have : (norm (rowsF as bs (limbs w mm) mi w (limbs w mm).length)).length ≤ (rowsF as bs (limbs w mm) mi w (limbs w mm).length).length := by unfold norm; rw [List.length_take]; exact Nat.min_le_right _ _
    lia
  · unfold rowsL
    rw [norm_limbs hw h1 rfl]
    exact onceL_spec hw ⟨v0, by lia⟩
end

theorem sum_snoc (xs : List Int) (x : Int) : (xs ++ [x]).sum = xs.sum + x := by simp [List.sum_append]
theorem numT_S (w : Nat) (ns : List Int) : ∀ k, (numT w ns k).sum = S (2 ^ w) ns k
  | 0 => rfl
  | k + 1 => by
    rw [numT, sum_snoc, numT_S w ns k, S, ← Int.pow_mul]
theorem numL_V (w : Nat) (ns : List Int) : numL w ns = V (2 ^ w) ns := by rw [numL, numT_S, S_V (Nat.le_refl _)]
theorem numL_limbs {w : Nat} (hw : 1 ≤ w) {x : Int} (h : 0 ≤ x) : numL w (limbs w x) = x := by rw [numL_V, limbs_V hw h]

theorem cancel2 {m y : Int} (ho : m % 2 = 1) (h : m ∣ 2 * y) : m ∣ y := by
  obtain ⟨c, hc⟩ := h
  obtain ⟨h', hh⟩ : ∃ h', m = 2 * h' + 1 := ⟨m / 2, by lia⟩
  subst hh
  refine ⟨y - h' * c, ?_⟩
  have e1 : c = 2 * (y - h' * c) := by grind
  have e2 : 2 * y = (2 * h' + 1) * (2 * (y - h' * c)) := by rw [← e1]; exact hc
  have e3 : (2 * h' + 1) * (2 * (y - h' * c)) = 2 * ((2 * h' + 1) * (y - h' * c)) := by grind
  omega
theorem cancelP {m y : Int} (ho : m % 2 = 1) : ∀ k : Nat, m ∣ y * 2 ^ k → m ∣ y
  | 0, h => by simpa using h
  | k + 1, h => by
    refine cancelP ho k (cancel2 ho ?_)
    have e : y * 2 ^ (k + 1) = 2 * (y * 2 ^ k) := by rw [Int.pow_succ]; grind
    rw [← e]; exact h
theorem cancelR {m x y : Int} (ho : m % 2 = 1) {w n : Nat} (h : (x * (2 ^ w) ^ n) % m = (y * (2 ^ w) ^ n) % m) : x % m = y % m := by
  have h1 := Int.emod_emod_of_dvd
  have h2 : m ∣ (x - y) * 2 ^ (w * n) := by
    rw [Int.pow_mul, Int.sub_mul]
    exact Int.dvd_of_emod_eq_zero (Int.emod_eq_emod_iff_emod_sub_eq_zero.mp h)
  exact Int.emod_eq_emod_iff_emod_sub_eq_zero.mpr (Int.emod_eq_zero_of_dvd (cancelP ho _ h2))

/-- w and m as the law draws them -/
structure Wm (w m : Nat) : Prop where
  w2 : 2 ≤ w
  w7 : w ≤ 7
  m0 : 0 < m
  m1 : m < 64
  mo : m % 2 = 1

theorem minus_all : ∀ w : Fin 6, ∀ k : Fin 32, (0 ≤ makeMinus (limbs (w.val + 2) ((2 * k.val + 1 : Nat) : Int)) (w.val + 2) ∧ makeMinus (limbs (w.val + 2) ((2 * k.val + 1 : Nat) : Int)) (w.val + 2) < 2 ^ (w.val + 2)) ∧ (((2 * k.val + 1 : Nat) : Int) * makeMinus (limbs (w.val + 2) ((2 * k.val + 1 : Nat) : Int)) (w.val + 2) + 1) % 2 ^ (w.val + 2) = 0 := by decide +kernel

section
variable {w m : Nat}
@[reducible] noncomputable def mS (w m : Nat) : List Int := limbs w (m : Int)
@[reducible] noncomputable def mI (w m : Nat) : Int := makeMinus (mS w m) w
@[reducible] noncomputable def mR (w m : Nat) : Int := (2 ^ w) ^ (mS w m).length
theorem Wm.mo' (W : Wm w m) : Mo w (m : Int) (mI w m) := by
  have h := minus_all ⟨w - 2, by have := W.w2; have := W.w7; lia⟩ ⟨m / 2, by have := W.m1; lia⟩
  have e1 : w - 2 + 2 = w := by have := W.w2; lia
  have e2 : 2 * (m / 2) + 1 = m := by have := W.mo; lia
  dsimp only at h
  rw [e1, e2] at h
  exact ⟨W.w2, by have := W.w7; lia, by have := W.m0; lia, by have := W.m1; lia, h.1, h.2⟩
theorem Wm.odd (W : Wm w m) : (m : Int) % 2 = 1 := by have := W.mo; lia

theorem limbs_zero : limbs w 0 = [] := rfl
theorem limbs_one (hw : 1 ≤ w) : limbs w 1 = [1] := (can_limbs hw (show Can (2 ^ w) [1] from ⟨⟨by decide, by have := two_le hw; lia⟩, trivial, fun _ => by decide⟩) (V_one 1)).symm
theorem one0_eq (W : Wm w m) : one0 (mS w m) = limbs w (1 % (m : Int)) := by
  have hw : 1 ≤ w := by have := W.w2; lia
  unfold one0
  by_cases q : m = 1
  · subst q
    rw [if_pos (show mS w 1 = [1] from limbs_one hw)]
    rfl
  · have hne : mS w m ≠ [1] := fun e => by
      have h1 := limbs_V hw (show (0 : Int) ≤ (m : Int) by lia)
      have e' : limbs w (m : Int) = [1] := e
      rw [e', V_one] at h1
      lia
    rw [if_neg hne, Int.emod_eq_of_lt (by decide) (by have := W.m0; lia), limbs_one hw]
theorem mod_lt (W : Wm w m) (x : Int) : 0 ≤ x % (m : Int) ∧ x % (m : Int) < (m : Int) := by
  have : (0 : Int) < m := by have := W.m0; lia
  exact ⟨Int.emod_nonneg _ (Int.ne_of_gt this), Int.emod_lt_of_pos _ this⟩
theorem mR_eq : (2 : Int) ^ ((mS w m).length * w) = mR w m := by rw [Nat.mul_comm, Int.pow_mul]
theorem mul_mod (x y m : Int) : x * (y % m) % m = x * y % m := by
  rw [Int.mul_emod, Int.emod_emod_of_dvd _ (Int.dvd_refl m), ← Int.mul_emod]
theorem mod_mul (x y m : Int) : x % m * y % m = x * y % m := by
  rw [Int.mul_emod, Int.emod_emod_of_dvd _ (Int.dvd_refl m), ← Int.mul_emod]
theorem makeOne_eq (W : Wm w m) : makeOne (mS w m) w = limbs w (mR w m % m) := by
  have hw : 1 ≤ w := by have := W.w2; lia
  unfold makeOne
  rw [one0_eq W, dblN_spec hw (mod_lt W 1), mR_eq, mul_mod, Int.mul_one]
theorem makeSq_eq (W : Wm w m) : makeSq (mS w m) w = limbs w (mR w m * mR w m % m) := by
  have hw : 1 ≤ w := by have := W.w2; lia
  unfold makeSq
  rw [makeOne_eq W, dblN_spec hw (mod_lt W _), mR_eq, mul_mod]

theorem len_small (W : Wm w m) {x : Int} (h : 0 ≤ x ∧ x < 64) : w * (limbs w x).length ≤ 60 := by
  have hw : 1 ≤ w := by have := W.w2; lia
  have h7 := W.w7
  rcases Nat.eq_zero_or_pos (limbs w x).length with e | e
  · rw [e]; simp
  · obtain ⟨k, hk⟩ : ∃ k, (limbs w x).length = k + 1 := ⟨(limbs w x).length - 1, by lia⟩
    have h1 := (limbs_can hw h.1).ge pow_pos2 k hk
    rw [limbs_V hw h.1, ← Int.pow_mul] at h1
    have h2 : (2 : Int) ^ (w * k) < 2 ^ 6 := by have : (2 : Int) ^ 6 = 64 := by decide
                                                lia
    have := powLt (by decide) h2
    rw [hk, Nat.mul_add]
    lia

noncomputable def Ff (w m : Nat) (x : Int) : Int := x * mR w m % (m : Int)
theorem Ff_lt (W : Wm w m) (x : Int) : 0 ≤ Ff w m x ∧ Ff w m x < (m : Int) := mod_lt W _
theorem mR_gt (W : Wm w m) : (m : Int) < mR w m := W.mo'.lt
theorem prod_ok (W : Wm w m) {x y : Int} (hx : 0 ≤ x ∧ x < (m : Int)) (hy : 0 ≤ y ∧ y < (m : Int)) : 0 ≤ x * y ∧ x * y < mR w m * (m : Int) := by
  have h1 := Int.mul_le_mul_of_nonneg_left (Int.le_of_lt hy.2) hx.1
  have h2 := Int.mul_lt_mul_of_pos_right (show x < mR w m by have := mR_gt W; lia) (show (0 : Int) < m by have := W.m0; lia)
  exact ⟨Int.mul_nonneg hx.1 hy.1, by lia⟩

/-- one reduction of a number a below R * m -/
theorem red_of (W : Wm w m) {a z' : Int} (h0 : 0 ≤ a) (h1 : a < mR w m * (m : Int)) (hz : a % (m : Int) = (z' * mR w m) % (m : Int)) :
    RedOk (limbs w a) (mS w m) (mI w m) w ∧ redL (limbs w a) (mS w m) (mI w m) w = limbs w (z' % m) := by
  have hw : 1 ≤ w := by have := W.w2; lia
  obtain ⟨ok, z, e1, e2, e3⟩ := redL_spec W.mo' (limbs_can hw h0) (by rw [limbs_V hw h0]; exact h1)
  refine ⟨ok, e1.trans (congrArg (limbs w) ?_)⟩
  rw [limbs_V hw h0, hz] at e3
  have := cancelR W.odd e3
  rw [Int.emod_eq_of_lt e2.1 e2.2] at this
  exact this
theorem rows_of (W : Wm w m) {x y z' : Int} (hx : 0 ≤ x ∧ x < (m : Int)) (hy : 0 ≤ y ∧ y < (m : Int)) (hz : (x * y) % (m : Int) = (z' * mR w m) % (m : Int)) :
    RowsOk (limbs w x) (limbs w y) (mS w m) (mI w m) w ∧ rowsL (limbs w x) (limbs w y) (mS w m) (mI w m) w = limbs w (z' % m) := by
  have hw : 1 ≤ w := by have := W.w2; lia
  obtain ⟨ok, z, e1, e2, e3⟩ := rowsL_spec W.mo' (limbs_can hw hx.1) (by rw [limbs_V hw hx.1]; exact hx.2) (limbs_can hw hy.1) (by rw [limbs_V hw hy.1]; exact hy.2)
  refine ⟨ok, e1.trans (congrArg (limbs w) ?_)⟩
  rw [limbs_V hw hx.1, limbs_V hw hy.1, hz] at e3
  have := cancelR W.odd e3
  rw [Int.emod_eq_of_lt e2.1 e2.2] at this
  exact this

@[reducible] noncomputable def mO (w m : Nat) : List Int := makeOne (mS w m) w
@[reducible] noncomputable def mQ (w m : Nat) : List Int := makeSq (mS w m) w
theorem form_of_eq (W : Wm w m) {x : Int} (hx : 0 ≤ x ∧ x < (m : Int)) : RedOk (schoolL (limbs w x) (mQ w m) w) (mS w m) (mI w m) w ∧ redL (schoolL (limbs w x) (mQ w m) w) (mS w m) (mI w m) w = limbs w (Ff w m x) := by
  have hw : 1 ≤ w := by have := W.w2; lia
  have q := mod_lt W (mR w m * mR w m)
  rw [mQ, makeSq_eq W, schoolL_spec hw (limbs_can hw hx.1).dg (limbs_can hw q.1).dg, limbs_V hw hx.1, limbs_V hw q.1]
  have p := prod_ok W hx q
  refine red_of W (z' := x * mR w m) p.1 p.2 ?_
  rw [mul_mod, Int.mul_assoc]
theorem formV_eq (W : Wm w m) {x : Int} (hx : 0 ≤ x ∧ x < (m : Int)) : formV w (mS w m) (mQ w m) (mI w m) x = Ff w m x := by
  have hw : 1 ≤ w := by have := W.w2; lia
  rw [formV, (form_of_eq W hx).2, numL_limbs hw (Ff_lt W x).1]
theorem fine64 (W : Wm w m) {x : Int} (hx : 0 ≤ x ∧ x < (m : Int)) : Fine (limbs w x) := limbs_fine (by have := W.w2; lia) (by have := W.w7; lia) hx.1 (by have := W.m1; lia)

theorem law_ok (W : Wm w m) : LawOk w m (mS w m) (mO w m) (mQ w m) (mI w m) where
  w1 := by have := W.w2; lia
  w12 := by have := W.w7; lia
  m0 := W.m0
  m1 := by have := W.m1; lia
  form := fun x h0 h1 => by
    have hw : 1 ≤ w := by have := W.w2; lia
    have m1 := W.m1
    have f := form_of_eq W ⟨h0, h1⟩
    have fl := Ff_lt W x
    refine ⟨hw, by have := W.w7; lia, by lia, fine64 W ⟨h0, h1⟩, by rw [mQ, makeSq_eq W]; exact fine64 W (mod_lt W _), ?_, f.1, by rw [f.2]; exact fine64 W fl, by rw [f.2]; exact len_small W ⟨fl.1, by lia⟩⟩
    refine (cmpL_spec (two_le hw) (limbs_can hw h0) (limbs_can hw (by lia))).mpr ?_
    rw [limbs_V hw h0, limbs_V hw (by lia)]; exact h1
  fb := fun x h0 h1 => by rw [formV_eq W ⟨h0, h1⟩]; exact Ff_lt W x
  back := fun x h0 h1 => by
    have hw : 1 ≤ w := by have := W.w2; lia
    have m1 := W.m1
    have fl := Ff_lt W x
    rw [formV_eq W ⟨h0, h1⟩]
    have hlt : Ff w m x < mR w m * (m : Int) := by
      have h3 := Int.mul_le_mul_of_nonneg_right (show (1 : Int) ≤ mR w m by have := mR_gt W; lia) (show (0 : Int) ≤ m by lia)
      lia
    have r := red_of W (a := Ff w m x) (z' := x) fl.1 hlt (Int.emod_emod_of_dvd _ (Int.dvd_refl _))
    rw [Int.emod_eq_of_lt h0 h1] at r
    exact ⟨r.1, by rw [r.2]; exact fine64 W ⟨h0, h1⟩, by rw [r.2]; exact len_small W ⟨h0, by lia⟩, by rw [r.2, numL_limbs hw h0]⟩

theorem ring12 (a b R : Int) : a * R * (b * R) = a * b * R * R := by grind
theorem pair_ok (W : Wm w m) (a b : Int) (ha0 : 0 ≤ a) (ha1 : a < (m : Int)) (hb0 : 0 ≤ b) (hb1 : b < (m : Int)) : PairOk w m (mS w m) (mQ w m) (mI w m) a b := by
  have hw : 1 ≤ w := by have := W.w2; lia
  have fa := Ff_lt W a
  have fb := Ff_lt W b
  have ea := formV_eq W ⟨ha0, ha1⟩
  have eb := formV_eq W ⟨hb0, hb1⟩
  have es := formV_eq W (mod_lt W (a + b))
  have ep := formV_eq W (mod_lt W (a * b))
  have emul : Ff w m (a * b % m) = (a * b * mR w m) % (m : Int) := by unfold Ff; rw [mod_mul]
  have key : (Ff w m a * Ff w m b) % (m : Int) = (a * b * mR w m * mR w m) % (m : Int) := by
    unfold Ff
    rw [mul_mod, mod_mul, ring12]
  have e3 : schoolL (limbs w (Ff w m a)) (limbs w (Ff w m b)) w = limbs w (Ff w m a * Ff w m b) := by rw [schoolL_spec hw (limbs_can hw fa.1).dg (limbs_can hw fb.1).dg, limbs_V hw fa.1, limbs_V hw fb.1]
  have p := prod_ok W fa fb
  have r := red_of W p.1 p.2 key
  have rw' := rows_of W fa fb key
  refine ⟨?_, ?_, ?_, ?_, ?_, ?_, ?_⟩
  · rw [ea, eb, es]
    unfold Ff
    rw [mod_mul, Int.add_mul, ← Int.add_emod]
  · rw [ea]; exact fine64 W fa
  · rw [eb]; exact fine64 W fb
  · rw [ea, eb, e3]; exact r.1
  · rw [ea, eb, e3, ep, r.2, emul]
  · rw [ea, eb]; exact rw'.1
  · rw [ea, eb, ep, rw'.2, emul]

theorem one_ok (W : Wm w m) : formV w (mS w m) (mQ w m) (mI w m) (1 % (m : Int)) = numL w (mO w m) := by
  have hw : 1 ≤ w := by have := W.w2; lia
  rw [formV_eq W (mod_lt W 1), mO, makeOne_eq W, numL_limbs hw (mod_lt W _).1]
  unfold Ff
  rw [mod_mul, Int.one_mul]
theorem mO_fine (W : Wm w m) : Fine (mO w m) := by rw [mO, makeOne_eq W]; exact fine64 W (mod_lt W _)
theorem mO_len (W : Wm w m) : w * (mO w m).length ≤ 60 := by
  rw [mO, makeOne_eq W]
  have := mod_lt W (mR w m)
  have := W.m1
  exact len_small W ⟨(mod_lt W _).1, by lia⟩

theorem first_all : ∀ w : Fin 6, ∀ k : Fin 32, Builtin.bitAnd ((mS (w.val + 2) (2 * k.val + 1)).getD 0 0) 1 ≠ 0 ∧ (mS (w.val + 2) (2 * k.val + 1)).getD 0 0 % 2 ≠ 0 := by decide +kernel
theorem make_ok (W : Wm w m) : MakeOk (mS w m) w := by
  have hw : 1 ≤ w := by have := W.w2; lia
  have h := first_all ⟨w - 2, by have := W.w2; have := W.w7; lia⟩ ⟨m / 2, by have := W.m1; lia⟩
  have e1 : w - 2 + 2 = w := by have := W.w2; lia
  have e2 : 2 * (m / 2) + 1 = m := by have := W.mo; lia
  dsimp only at h
  rw [e1, e2] at h
  have M := W.mo'
  refine ⟨M.n0, M.n1, h.1, W.w2, by have := W.w7; lia, M.can.dg.get pow_pos2 0, h.2, fun j _ => ?_, fun j _ => ?_⟩
  · rw [one0_eq W, dblN_spec hw (mod_lt W _)]
    exact fine64 W (mod_lt W _)
  · rw [makeOne_eq W, dblN_spec hw (mod_lt W _)]
    exact fine64 W (mod_lt W _)
end

theorem short_all : ∀ n : Fin 128, (PyData.shown (.int ((n.val : Nat) : Int))).length ≤ 13 := by decide +kernel
theorem short_int {x : Int} (h : 0 ≤ x ∧ x < 128) : (PyData.shown (.int x)).length ≤ 13 := by
  have := short_all ⟨x.toNat, by lia⟩
  dsimp only at this
  rwa [Int.toNat_of_nonneg h.1] at this
theorem log_small {x : Int} (h : 0 ≤ x ∧ x < 128) : x.natAbs.log2 ≤ 7 := by
  by_cases q : x.natAbs = 0
  · rw [q]; decide
  · have := (Nat.log2_lt q (k := 7)).mpr (by lia)
    lia
theorem ints_show : ∀ (xs : List Int), (∀ x ∈ xs, 0 ≤ x ∧ x < 128) → PyData.showableAll (xs.map PyData.int) = true ∧ PyData.hasDictAll (xs.map PyData.int) = false ∧ PyData.depthAll (xs.map PyData.int) = 0 ∧ PyData.weightAll (xs.map PyData.int) ≤ 10 * xs.length ∧ PyData.canLayAll0 (xs.map PyData.int) = true ∧ PyData.intsShortAll 13 (xs.map PyData.int) = true
  | [], _ => ⟨rfl, rfl, rfl, by simp [PyData.weightAll], rfl, rfl⟩
  | x :: xs, h => by
    obtain ⟨h1, h2, h3, h4, h5, h6⟩ := ints_show xs fun y hy => h y (.tail _ hy)
    have hx := h x (.head _)
    have hl := log_small hx
    have hs := short_int hx
    refine ⟨?_, ?_, ?_, ?_, ?_, ?_⟩
    · simp only [List.map_cons, PyData.showableAll, PyData.showable, h1, Bool.and_true, decide_eq_true_eq]; lia
    · simp only [List.map_cons, PyData.hasDictAll, PyData.hasDict, h2, Bool.or_self]
    · simp only [List.map_cons, PyData.depthAll, PyData.depth, h3, Nat.max_self]
    · simp only [List.map_cons, PyData.weightAll, PyData.weight, List.length_cons]
      split <;> lia
    · simp only [List.map_cons, PyData.canLayAll0, PyData.canLay0, h5, Bool.and_self]
    · simp only [List.map_cons, PyData.intsShortAll, PyData.intsShort, h6, Bool.and_true, decide_eq_true_eq]; exact hs

theorem show_of {ms os qs : List Int} {mi : Int} (h1 : ∀ x ∈ ms, 0 ≤ x ∧ x < 128) (h2 : ∀ x ∈ os, 0 ≤ x ∧ x < 128) (h3 : ∀ x ∈ qs, 0 ≤ x ∧ x < 128) (h4 : 0 ≤ mi ∧ mi < 128) (l1 : ms.length ≤ 100) (l2 : os.length ≤ 100) (l3 : qs.length ≤ 100) : ShowOk ms os qs mi := by
  obtain ⟨a1, a2, a3, a4, a5, a6⟩ := ints_show ms h1
  obtain ⟨b1, b2, b3, b4, b5, b6⟩ := ints_show os h2
  obtain ⟨c1, c2, c3, c4, c5, c6⟩ := ints_show qs h3
  have hl := log_small h4
  have hs := short_int h4
  have dep : (toldD ms os qs mi).depth = 2 := by simp only [toldD, ilD, PyData.depth, PyData.depthAll, a3, b3, c3]; decide
  refine ⟨?_, ?_, ?_, ?_⟩
  · simp only [toldD, ilD, PyData.showable, PyData.showableAll, a1, b1, c1, Bool.true_and, Bool.and_true, decide_eq_true_eq]; lia
  · simp only [toldD, ilD, PyData.hasDict, PyData.hasDictAll, a2, b2, c2, Bool.or_self]
  · have := PyProof.Rows.shown_le13 (d := toldD ms os qs mi) (by
      unfold PyData.layable0
      rw [dep]
      simp only [toldD, ilD, PyData.canLay0, PyData.canLayAll0, a5, b5, c5, PyData.weight, PyData.weightAll, Bool.and_self, Bool.true_and, Bool.and_eq_true, decide_eq_true_eq]
      refine ⟨by decide, ?_⟩
      have e : (2 : Nat) ^ 20 = 1048576 := by decide
      rw [e]
      split <;> lia) (by
      simp only [toldD, ilD, PyData.intsShort, PyData.intsShortAll, a6, b6, c6, Bool.true_and, Bool.and_true, decide_eq_true_eq]; exact hs)
    have hz : sizeLine = 16777216 := rfl
    lia
  · rw [dep]; decide

section
variable {w m : Nat}
theorem dg128 (W : Wm w m) {x : Int} (h : 0 ≤ x) : ∀ y ∈ limbs w x, 0 ≤ y ∧ y < 128 := fun y hy => by
  have h1 := (limbs_can (show 1 ≤ w by have := W.w2; lia) h).dg y hy
  have : (2 : Int) ^ w ≤ 2 ^ 7 := powLe (by decide) W.w7
  have e : (2 : Int) ^ 7 = 128 := by decide
  lia
theorem len64 (W : Wm w m) {x : Int} (h : 0 ≤ x ∧ x < (m : Int)) : (limbs w x).length ≤ 100 := by
  have := @limbs_len w x
  have := W.m1
  lia
theorem show_ok (W : Wm w m) : ShowOk (mS w m) (mO w m) (mQ w m) (mI w m) := by
  have M := W.mo'
  have e7 : (2 : Int) ^ w ≤ 2 ^ 7 := powLe (by decide) W.w7
  have e : (2 : Int) ^ 7 = 128 := by decide
  rw [mO, mQ, makeOne_eq W, makeSq_eq W]
  have := M.bm
  refine show_of (dg128 W (by lia)) (dg128 W (mod_lt W _).1) (dg128 W (mod_lt W _).1) (by lia) (by have := M.n1; show (limbs w (m : Int)).length ≤ 100; lia) (len64 W (mod_lt W _)) (len64 W (mod_lt W _))

/-! how many forms there are -/
structure Kx (m : Nat) (fs : List (Int × Int)) : Prop where
  nd : (fs.map (·.1)).Nodup
  rg : ∀ p ∈ fs, 0 ≤ p.1 ∧ p.1 < (m : Int)
theorem Kx.nil {m : Nat} : Kx m [] := ⟨by simp, fun _ h => nomatch h⟩
theorem Kx.add {m : Nat} {f : Int → Int} {fs : List (Int × Int)} (h : Kx m fs) {x : Int} (hx : 0 ≤ x ∧ x < (m : Int)) : Kx m (addF f fs x) := by
  unfold addF
  split
  · exact h
  · rename_i q
    refine ⟨?_, fun p hp => ?_⟩
    · rw [List.map_append]
      refine List.nodup_append.mpr ⟨h.nd, by simp, fun a ha b hb => ?_⟩
      have hb' : b = x := by simpa using hb
      rw [hb']
      intro e
      subst e
      exact q (by simpa [List.contains_iff_mem] using ha)
    · rcases List.mem_append.mp hp with hp | hp
      · exact h.rg p hp
      · rw [List.mem_singleton.mp hp]; exact hx
theorem Kx.all {m : Nat} {f : Int → Int} : ∀ (xs : List Int) {fs : List (Int × Int)}, Kx m fs → (∀ x ∈ xs, 0 ≤ x ∧ x < (m : Int)) → Kx m (addAll f fs xs)
  | [], _, h, _ => h
  | x :: xs, _, h, k => Kx.all xs (h.add (k x (.head _))) fun y hy => k y (.tail _ hy)
theorem Kx.loop {m : Nat} {f : Int → Int} {ds : List Int} {k : Nat} {fs : List (Int × Int)} (hm : 0 < m) (h : Kx m fs) : ∀ j, Kx m (loopFs f ds m k fs j)
  | 0 => h
  | j + 1 => by
    have hm' : (0 : Int) < (m : Int) := by lia
    have ih := Kx.loop (f := f) (ds := ds) (k := k) hm h j
    have r1 := rolled_range ds (k + 2 * j) hm'
    have r2 := rolled_range ds (k + 2 * j + 1) hm'
    have md : ∀ x : Int, 0 ≤ x % (m : Int) ∧ x % (m : Int) < (m : Int) := fun x => ⟨Int.emod_nonneg _ (Int.ne_of_gt hm'), Int.emod_lt_of_pos _ hm'⟩
    exact (((((ih.add r1).add r2).add (md _)).add r1).add r2).add (md _)

theorem filter_one : ∀ (l : List Nat) (p : Nat → Bool) (v : Nat), l.Nodup → v ∈ l → p v = false → (l.filter fun y => y == v || p y).length = (l.filter p).length + 1
  | [], _, _, _, h, _ => nomatch h
  | a :: l, p, v, hn, h, hp => by
    have hn' := List.nodup_cons.mp hn
    by_cases e : a = v
    · subst e
      have h1 : (l.filter fun y => y == a || p y) = l.filter p := List.filter_congr fun y hy => by
        have : (y == a) = false := beq_eq_false_iff_ne.mpr fun z => hn'.1 (z ▸ hy)
        rw [this, Bool.false_or]
      rw [List.filter_cons, List.filter_cons, hp, h1]
      simp
    · have hv : v ∈ l := by
        rcases List.mem_cons.mp h with h | h
        · exact absurd h.symm e
        · exact h
      have ih := filter_one l p v hn'.2 hv hp
      have e' : (a == v) = false := beq_eq_false_iff_ne.mpr e
      rw [List.filter_cons, List.filter_cons, e', Bool.false_or]
      split
      · simp only [List.length_cons]; lia
      · exact ih
theorem count_vals {m : Nat} : ∀ (fs : List (Int × Int)), (fs.map (·.2)).Nodup → (∀ p ∈ fs, 0 ≤ p.2 ∧ p.2 < (m : Int)) → ((List.range m).filter (inVals fs)).length = fs.length
  | [], _, _ => by
    have : (List.range m).filter (inVals []) = [] := List.filter_eq_nil_iff.mpr fun y _ => by simp [inVals]
    rw [this]; rfl
  | p :: fs, hn, hr => by
    have hn' := List.nodup_cons.mp hn
    have ih := count_vals fs hn'.2 fun q hq => hr q (.tail _ hq)
    have h0 := hr p (.head _)
    have e : inVals (p :: fs) = fun y => y == p.2.toNat || inVals fs y := by
      funext y
      unfold inVals
      rw [List.map_cons, List.contains_cons]
      congr 1
      by_cases q : (y : Int) = p.2
      · have : y = p.2.toNat := by lia
        rw [beq_iff_eq.mpr q, beq_iff_eq.mpr this]
      · have : y ≠ p.2.toNat := by lia
        rw [beq_eq_false_iff_ne.mpr q, beq_eq_false_iff_ne.mpr this]
    rw [e, filter_one _ _ _ List.nodup_range (List.mem_range.mpr (by lia)) ?_, ih]
    · rfl
    · unfold inVals
      rw [Int.toNat_of_nonneg h0.1]
      cases h : (fs.map (·.2)).contains p.2 with
      | false => rfl
      | true => exact absurd (List.contains_iff_mem.mp h) hn'.1

theorem Ff_inj (W : Wm w m) {x y : Int} (hx : 0 ≤ x ∧ x < (m : Int)) (hy : 0 ≤ y ∧ y < (m : Int)) (h : Ff w m x = Ff w m y) : x = y := by
  have := cancelR W.odd h
  rwa [Int.emod_eq_of_lt hx.1 hx.2, Int.emod_eq_of_lt hy.1 hy.2] at this
theorem cnt_ok (W : Wm w m) {fs : List (Int × Int)} (K : Kx m fs) (hf : ∀ p ∈ fs, p.2 = formV w (mS w m) (mQ w m) (mI w m) p.1) : (fs.length : Int) = ((valsL fs m).length : Nat) := by
  have hv : ∀ p ∈ fs, p.2 = Ff w m p.1 := fun p hp => (hf p hp).trans (formV_eq W (K.rg p hp))
  have nd : ∀ gs : List (Int × Int), (gs.map (·.1)).Nodup → (∀ p ∈ gs, (0 ≤ p.1 ∧ p.1 < (m : Int)) ∧ p.2 = Ff w m p.1) → (gs.map (·.2)).Nodup := by
    intro gs
    induction gs with
    | nil => intro _ _; simp
    | cons g gs ih =>
      intro h1 h2
      have h1' := List.nodup_cons.mp h1
      refine List.nodup_cons.mpr ⟨fun hm => ?_, ih h1'.2 fun p hp => h2 p (.tail _ hp)⟩
      obtain ⟨p, hp, e⟩ := List.mem_map.mp hm
      have a := h2 g (.head _)
      have b := h2 p (.tail _ hp)
      have : p.1 = g.1 := Ff_inj W b.1 a.1 (by rw [← b.2, ← a.2]; exact e)
      exact h1'.1 (by show g.1 ∈ _; rw [← this]; exact List.mem_map_of_mem (f := (·.1)) hp)
  have hc := count_vals (m := m) fs (nd fs K.nd fun p hp => ⟨K.rg p hp, hv p hp⟩) fun p hp => by rw [hv p hp]; exact Ff_lt W _
  unfold valsL
  rw [List.length_map, hc]

/-! which rests have a form that makes it one -/
theorem gcd_all : ∀ m : Fin 14, ∀ c : Fin 14, 1 < m.val → c.val < m.val → ((List.range m.val).any fun y => decide ((((c.val : Nat) : Int) * ((y : Nat) : Int)) % ((m.val : Nat) : Int) = 1 % ((m.val : Nat) : Int))) = (gcdL ((m.val : Nat) : Int) ((c.val : Nat) : Int) == 1) := by decide +kernel
theorem ans_ok (W : Wm w m) {c : Int} (hc : 0 ≤ c ∧ c < (m : Int)) (h1 : 1 < m) (h13 : m ≤ 13) : (ansL w (mS w m) (mO w m) (mQ w m) (mI w m) c m).any id = (gcdL m c == 1) := by
  have hw : 1 ≤ w := by have := W.w2; lia
  have hg := gcd_all ⟨m, by lia⟩ ⟨c.toNat, by lia⟩ h1 (by show c.toNat < m; lia)
  dsimp only at hg
  rw [Int.toNat_of_nonneg hc.1] at hg
  rw [← hg]
  unfold ansL
  rw [List.any_map]
  have : ∀ l : List Nat, (∀ y ∈ l, y < m) → l.any (id ∘ fun (y : Nat) => decide (redL (schoolL (limbs w (formV w (mS w m) (mQ w m) (mI w m) c)) (limbs w (formV w (mS w m) (mQ w m) (mI w m) (y : Int))) w) (mS w m) (mI w m) w = mO w m)) = l.any fun (y : Nat) => decide ((c * (y : Int)) % (m : Int) = 1 % (m : Int)) := by
    intro l
    induction l with
    | nil => intro _; rfl
    | cons y l ih =>
      intro h
      have hy := h y (.head _)
      have p := pair_ok W c (y : Int) hc.1 hc.2 (by lia) (by lia)
      have hr := mod_lt W (mR w m)
      rw [List.any_cons, List.any_cons, ih fun z hz => h z (.tail _ hz)]
      congr 1
      simp only [Function.comp, id]
      rw [p.mulE, formV_eq W (mod_lt W _), mO, makeOne_eq W]
      refine decide_eq_decide.mpr ⟨fun e => ?_, fun e => ?_⟩
      · have e2 := congrArg (V (2 ^ w)) e
        rw [limbs_V hw (Ff_lt W _).1, limbs_V hw hr.1] at e2
        unfold Ff at e2
        rw [mod_mul] at e2
        refine cancelR W.odd (w := w) (n := (mS w m).length) ?_
        rw [Int.one_mul]
        exact e2
      · congr 1
        unfold Ff
        rw [e, mod_mul, Int.one_mul]
  exact this _ fun y hy => List.mem_range.mp hy

theorem rests_ok {m : Nat} (hm : 0 < m) (h64 : m < 64) (ds : List Int) : (∀ x ∈ restsL ds m, 0 ≤ x ∧ x < (m : Int)) ∧ (restsL ds m).length ≤ 100 := by
  unfold restsL
  split
  · refine ⟨fun x hx => ?_, by rw [List.length_map, List.length_range]; lia⟩
    obtain ⟨j, hj, rfl⟩ := List.mem_map.mp hx
    have := List.mem_range.mp hj
    lia
  · refine ⟨fun x hx => ?_, by unfold drawsL; rw [List.length_map, List.length_range]; decide⟩
    obtain ⟨j, hj, rfl⟩ := List.mem_map.mp hx
    exact rolled_range _ _ (by lia)
end

theorem drawn (ds : List Int) : ∃ w m : Nat, Wm w m ∧ (w : Int) = 2 + rolledV ds 0 6 ∧ (m : Int) = 1 + 2 * rolledV ds 1 32 := by
  have h1 := rolled_range ds 0 (m := 6) (by decide)
  have h2 := rolled_range ds 1 (m := 32) (by decide)
  refine ⟨(2 + rolledV ds 0 6).toNat, (1 + 2 * rolledV ds 1 32).toNat, ⟨by lia, by lia, by lia, by lia, by lia⟩, by lia, by lia⟩

theorem execs_append (xs ys : List Stmt) (env : Env) : execs (xs ++ ys) env = (do match ← execs xs env with | .next => execs ys env | f => pure f) := by
  induction xs with
  | nil => rfl
  | cons x xs ih =>
    rw [List.cons_append, execs_cons, execs_cons, bind_assoc]
    refine congrArg (_ >>= ·) (funext fun f => ?_)
    cases f with
    | next => exact ih
    | _ => rfl
section
variable {C : Cx} {n m : Nat} {a : Act} {F F₁ : List (Option AV)} {H H₁ : List AO} {A : Around} {r : List Addr} {s : Shared} {Q : Flow → Shared → Prop} {E : Value → Shared → Prop} {l : List Stmt}
theorem seq_split (i : Nat) : l.drop i = (l.drop i).take 1 ++ l.drop (i + 1) := by
  rw [← List.drop_drop, List.take_append_drop]
/-- one statement of a text -/
theorem seq_at (i : Nat) (h : ExecsTo C n a m ((l.drop i).take 1) F H .next F₁ H₁) (hA : Room n A) (st : St C a r F H s.heap)
    (k : ∀ r' h' tk', ExtM m (some a.env.locals) r s.heap r' h' → St C a r' F₁ H₁ h' → wpAny (model C.prog C.w) A (execs (l.drop (i + 1)) a.env) Q E (sh s h' tk')) : wpAny (model C.prog C.w) A (execs (l.drop i) a.env) Q E s := by
  rw [seq_split, execs_append]
  exact wpAny_bind (Xm.next h hA st k)
theorem seq_def (i : Nat) (h : wpAny (model C.prog C.w) A (execs ((l.drop i).take 1) a.env) (fun f s' => f = .next ∧ wpAny (model C.prog C.w) A (execs (l.drop (i + 1)) a.env) Q E s') E s) : wpAny (model C.prog C.w) A (execs (l.drop i) a.env) Q E s := by
  rw [seq_split, execs_append]
  refine wpAny_bind (wpAny_mono h (fun f s' q => ?_) fun _ _ q => q)
  obtain ⟨rfl, q⟩ := q
  exact q
theorem seq_ret (i : Nat) {v : AV} (h : ExecsTo C n a m ((l.drop i).take 1) F H (.ret v) F₁ H₁) (hA : Room n A) (st : St C a r F H s.heap)
    (k : ∀ u r' h' tk', ExtM m (some a.env.locals) r s.heap r' h' → VR r' v u → St C a r' F₁ H₁ h' → Q (.ret u) (sh s h' tk')) : wpAny (model C.prog C.w) A (execs (l.drop i) a.env) Q E s := by
  rw [seq_split, execs_append]
  exact wpAny_bind (Xm.ret h hA st fun u r' h' tk' x p st' => wpAny_pure (k u r' h' tk' x p st'))
end
theorem one_at {α : Type} {l : List α} {i : Nat} {x : α} (h : l[i]? = some x) : (l.drop i).take 1 = [x] := by
  obtain ⟨hi, e⟩ := List.getElem?_eq_some_iff.mp h
  rw [List.drop_eq_getElem_cons hi, e]
  rfl

/-- the def's statement, its parts by unification -/
theorem def_at {C : Cx} {L fa c0 c1 c2 c3 c4 c5 c6 P : Addr} {A : Around} {r : List Addr} {s : Shared} {Q : Flow → Shared → Prop} {E : Value → Shared → Prop} {F : List (Option AV)} {ns : List Int} {w m : Nat} {ms os qs : List Int} {mi : Int} {S : Str}
    {nameL qualL : Str} {paramsL : Arguments} {bodyL : List Stmt} {scopeL : Scope} {dV kV doc pm cdv ct oc : Value} {an od : Option Addr} {osl : Array (Option Value)}
    (hk : C.K = KK C.w.params)
    (hl : autoParam ((KK C.w.params).lookup 222 = some ⟨oc, od, .func (fnX nameL qualL paramsL bodyL scopeL [] dV kV doc pm an cdv ct), osl⟩) exactS)
    {name : Str} {params : Arguments} {body : List Stmt} {scope : Scope} {pos : Pos} (hb : autoParam (bodyL[4]? = some (.FunctionDef name params body [] none [] scope none name pos)) exactS)
    (hn : autoParam (name = ("form_of" : Str)) rflS) (hcl : autoParam (closureFor scope (lawAct scopeL L fa c0 c1 c2 c3 c4 c5 c6).env = pure ([("w", c0), ("told", c1), ("forms", c2)] : List (Str × Addr))) rflS) (hd0 : autoParam (params.defaults = []) rflS) (hk0 : autoParam (params.kw_defaults = []) rflS) (han : autoParam (annTrees params none (lawAct scopeL L fa c0 c1 c2 c3 c4 c5 c6).env = []) rflS)
    (hkc : autoParam ((lawAct scopeL L fa c0 c1 c2 c3 c4 c5 c6).env.kindOf "form_of" = some .cell) rflS)
    (st : St C (lawAct (lawScope (KK C.w.params)) L fa c0 c1 c2 c3 c4 c5 c6) r F (lawH4 ns w m ms os qs mi S) s.heap) (hC : CodeHd C.base 221 P) (hP : s.heap.get? P = some (tabObj #[])) (hPr : P ∉ r) (hPL : P ≠ L) (hPb : C.base.get? P = none) (hgP : mainGlobals ≠ P)
    (hbu : ∀ h : Heap, (∀ b o, C.base.get? b = some o → h.get? b = some o) → h.BuiltinsAt C.mg P)
    (k : ∀ q Sf r' h' tk' ps', IsForm C.K q Sf → Sf.qual = q → St C (lawAct (lawScope (KK C.w.params)) L fa c0 c1 c2 c3 c4 c5 c6) r' F (lawS ns w m 2 ms os qs mi S q Sf [] none) h' → h'.get? P = some (tabObj ps') → P ∉ r' → Q .next (sh s h' tk')) :
    wpAny (model C.prog C.w) A (execs (((lawBody (KK C.w.params)).drop 4).take 1) (lawAct (lawScope (KK C.w.params)) L fa c0 c1 c2 c3 c4 c5 c6).env) Q E s := by
  have e1 : lawBody (KK C.w.params) = bodyL := by unfold lawBody; rw [hl]
  have e2 : lawScope (KK C.w.params) = scopeL := by unfold lawScope; rw [hl]
  rw [e1, e2, one_at hb]
  rw [e2] at st k
  subst hn
  refine wpAny_execs_cons ?_
  have g0 : ∀ (x : Str) (i : Nat) (c : Addr), (x, i) ∈ lawCh → (lawCells c0 c1 c2 c3 c4 c5 c6).lookup x = some c → r[i]? = some c := fun x i c h1 h2 => by
    obtain ⟨c', e3, e4⟩ := st.cells x i h1
    exact ss h2 e3 ▸ e4
  have hpr : PR r [("w", 0), ("told", 1), ("forms", 2)] [("w", c0), ("told", c1), ("forms", c2)] := by
    refine .cons (g0 "w" 0 c0 ?_ rfl) (.cons (g0 "told" 1 c1 ?_ rfl) (.cons (g0 "forms" 2 c2 ?_ rfl) .nil))
    · walk_at "m_in"
    · walk_at "m_in"
    · walk_at "m_in"
  refine def_step (c := 221) (P := P) (ps := #[]) (i := 4) (w₀ := none) (cs := [("w", 0), ("told", 1), ("forms", 2)]) st rfl hC hP hPr hPL hPb hgP hbu trivial rfl hcl hpr hd0 hk0 han ?hi hkc rfl ?kk
  case hi => walk_at "m_in"
  case kk =>
    intro r' h' tk' ps' st' hpre hP' hPr'
    show wpAny _ _ (execs [] _) _ _ _
    refine wpAny_execs_nil ?_
    refine k _ ⟨_, _, params, body, scope, _⟩ r' h' tk' ps' ⟨pos, ?_, rfl⟩ rfl st' hP' hPr'
    rw [hk, e1]
    exact hb

section
variable {C : Cx}
set_option maxHeartbeats 4000000 in
theorem law_end (hC : PK C) {L fa c0 c1 c2 c3 c4 c5 c6 P : Addr} {ns : List Int} {A : Around} (hA : Room 15 A) (hPL : P ≠ L) {s : Shared} {Q : Flow → Shared → Prop} {E : Value → Shared → Prop}
    (k : ∀ h' tk', (∀ b o, C.base.get? b = some o → h'.get? b = some o) → GrownAt P h' → Q (.ret (.bool true)) (sh s h' tk')) {w m : Nat} (W : Wm w m) {q : Str} {Sf : FnS} {ps : Array Value} {F : List (Option AV)} {k' : Nat} {fs : List (Int × Int)} {row : Option AV} {t : List AO} {r : List Addr}
    (hF1 : F[1]? = some (some (.str (toldD (mS w m) (mO w m) (mQ w m) (mI w m)).shown))) (st : St C (lawAct (lawScope (KK C.w.params)) L fa c0 c1 c2 c3 c4 c5 c6) r F (lawS ns w m k' (mS w m) (mO w m) (mQ w m) (mI w m) (toldD (mS w m) (mO w m) (mQ w m) (mI w m)).shown q Sf fs row ++ t) s.heap)
    (hP : s.heap.get? P = some (tabObj ps)) (hPr : P ∉ r) : wpAny (model C.prog C.w) A (execs ((lawBody (KK C.w.params)).drop 11) (lawAct (lawScope (KK C.w.params)) L fa c0 c1 c2 c3 c4 c5 c6).env) Q E s := by
  obtain ⟨H', h12⟩ := law_s12 (C := C) hC (ax := 0) (L := L) (fa := fa) (c0 := c0) (c1 := c1) (c2 := c2) (c3 := c3) (c4 := c4) (c5 := c5) (c6 := c6) (ns := ns) (k := k') (q := q) (Sf := Sf) (fs := fs) (row := row) (t := t) (show_ok W) hF1
  refine seq_ret 11 h12 hA st fun u r' h' tk' x p st' => ?_
  obtain rfl : u = .bool true := p
  exact k h' tk' st'.hp.keep ⟨_, x.keep P _ hP hPr (fun z => hPL (Option.some.inj z))⟩

set_option maxHeartbeats 4000000 in
theorem law_rest (hC : PK C) {L fa c0 c1 c2 c3 c4 c5 c6 ax P : Addr} {ns : List Int} {A : Around} (hA : Room 20 A) (hPL : P ≠ L) {s₀ : Shared} {Q : Flow → Shared → Prop} {E : Value → Shared → Prop}
    (k : ∀ h' tk', (∀ b o, C.base.get? b = some o → h'.get? b = some o) → GrownAt P h' → Q (.ret (.bool true)) (sh s₀ h' tk')) {w m : Nat} (W : Wm w m) {fs0 : List (Int × Int)} (hfs : fs0 = []) {q : Str} {Sf : FnS} {ps : Array Value} {r5 : List Addr} {h5 : Heap} {tk5 : Nat} (hF : IsForm C.K q Sf) (hq : Sf.qual = q)
    (st5 : St C (lawAct (lawScope (KK C.w.params)) L fa c0 c1 c2 c3 c4 c5 c6) r5 (lawF4 ax (toldD (mS w m) (mO w m) (mQ w m) (mI w m)).shown) (lawS ns w m 2 (mS w m) (mO w m) (mQ w m) (mI w m) (toldD (mS w m) (mO w m) (mQ w m) (mI w m)).shown q Sf fs0 none) h5)
    (P5 : h5.get? P = some (tabObj ps)) (R5 : P ∉ r5) : wpAny (model C.prog C.w) A (execs ((lawBody (KK C.w.params)).drop 5) (lawAct (lawScope (KK C.w.params)) L fa c0 c1 c2 c3 c4 c5 c6).env) Q E (sh s₀ h5 tk5) := by
  subst hfs
  have m1 := W.m1
  have m0 := W.m0
  have ok := law_ok W
  have hA15 : Room 15 A := hA.le (by decide)
  have step : ∀ {r r' : List Addr} {h h' : Heap} {k : Nat} {o : Obj}, h.get? P = some o → P ∉ r → ExtM k (some L) r h r' h' → h'.get? P = some o ∧ P ∉ r' := fun e hr x =>
    ⟨x.keep P _ e hr (fun z => hPL (Option.some.inj z)), not_in x.fresh e hr⟩
  refine seq_at 5 (s := sh s₀ h5 tk5) (law_s6 hC m0 (by lia)) hA st5 fun r6 h6 tk6 x6 st6 => ?_
  have y6 := step P5 R5 x6
  have hr := rests_ok m0 m1 (absL ns)
  refine seq_at 6 (s := sh s₀ h6 tk6) (law_s7 hC hF hq ok hr.1 hr.2) hA15 st6 fun r7 h7 tk7 x7 st7 => ?_
  have y7 := step y6.1 y6.2 x7
  have hk8 : restsK m < 900 := by unfold restsK; split <;> lia
  have f7 := addAll_inv (f := formV w (mS w m) (mQ w m) (mI w m)) (restsL (absL ns) m) (fs := []) (fun _ h => nomatch h)
  have l7 := addAll_len (formV w (mS w m) (mQ w m) (mI w m)) (restsL (absL ns) m) []
  have K7 := Kx.all (f := formV w (mS w m) (mQ w m) (mI w m)) (restsL (absL ns) m) (Kx.nil (m := m)) hr.1
  have l7' : (addAll (formV w (mS w m) (mQ w m) (mI w m)) [] (restsL (absL ns) m)).length ≤ 900 := by have := hr.2; simp at l7; lia
  refine seq_at 7 (s := sh s₀ h7 tk7) (law_s8 hC hF hq ok (pair_ok W) hk8 f7 (by lia)) hA15 st7 fun r8 h8 tk8 x8 st8 => ?_
  have y8 := step y7.1 y7.2 x8
  have f8 := loopFs_inv (f := formV w (mS w m) (mQ w m) (mI w m)) (ds := absL ns) (m := (m : Int)) (k := restsK m) f7 6
  have l8 := loopFs_len (formV w (mS w m) (mQ w m) (mI w m)) (absL ns) (m : Int) (restsK m) (addAll (formV w (mS w m) (mQ w m) (mI w m)) [] (restsL (absL ns) m)) 6
  have K8 := Kx.loop (f := formV w (mS w m) (mQ w m) (mI w m)) (ds := absL ns) (k := restsK m) m0 K7 6
  generalize loopFs (formV w (mS w m) (mQ w m) (mI w m)) (absL ns) (m : Int) (restsK m) (addAll (formV w (mS w m) (mQ w m) (mI w m)) [] (restsL (absL ns) m)) 6 = fs8 at *
  have l8' : fs8.length ≤ 1000 := by lia
  refine seq_at 8 (s := sh s₀ h8 tk8) (law_s9 hC (by lia) (by lia) (cnt_ok W K8 f8)) hA15 st8 fun r9 h9 tk9 x9 st9 => ?_
  have y9 := step y8.1 y8.2 x9
  refine seq_at 9 (s := sh s₀ h9 tk9) (law_s10 hC hF hq ok f8 (by lia) (mO_fine W) (mO_len W) (one_ok W)) hA15 st9 fun r10 h10 tk10 x10 st10 => ?_
  have y10 := step y9.1 y9.2 x10
  by_cases hm : 1 < m ∧ m ≤ 13
  · have f10 := addF_inv f8 (1 % (m : Int))
    have l10 := addF_len (formV w (mS w m) (mQ w m) (mI w m)) fs8 (1 % (m : Int))
    obtain ⟨F', H', hF1, hex, k', fs', row, t, rfl⟩ := law_s11_go (C := C) hC (L := L) (fa := fa) (c0 := c0) (c1 := c1) (c2 := c2) (c3 := c3) (c4 := c4) (c5 := c5) (c6 := c6) (ax := ax) (ns := ns) (w := w) (m := m) (k := restsK m + 2 * 6) (S := (toldD (mS w m) (mO w m) (mQ w m) (mI w m)).shown) (rs := restsL (absL ns) m) hF hq ok (pair_ok W) (c := rolledV (absL ns) (restsK m + 2 * 6) m) rfl (by lia) f10 (by lia) hm.1 hm.2 (ans_ok W (rolled_range _ _ (by lia)) hm.1 hm.2)
    exact seq_at 10 (s := sh s₀ h10 tk10) hex hA15 st10 fun r11 h11 tk11 x11 st11 => have y11 := step y10.1 y10.2 x11; law_end hC hA15 hPL k W hF1 (s := sh s₀ h11 tk11) st11 y11.1 y11.2
  · exact seq_at 10 (s := sh s₀ h10 tk10) (law_s11_skip hC (by lia)) hA15 st10 fun r11 h11 tk11 x11 st11 => have y11 := step y10.1 y10.2 x11; law_end hC hA15 hPL k W rfl (s := sh s₀ h11 tk11) st11 y11.1 y11.2

set_option maxHeartbeats 4000000 in
theorem law_run (hC : PK C) {L fa c0 c1 c2 c3 c4 c5 c6 ax P : Addr} {vs : List Value} {ns : List Int} (hb : C.base.IsList ax vs.toArray) (hI : IntsAre vs ns) (hn : ns.length < 4000) {A : Around} (hA : Room 20 A) {r : List Addr} {s : Shared} {Q : Flow → Shared → Prop} {E : Value → Shared → Prop}
    (st : St C (lawAct (lawScope (KK C.w.params)) L fa c0 c1 c2 c3 c4 c5 c6) r (lawF ax) (cellsH none none none none none none none) s.heap) (hcode : CodeHd C.base 221 P) (hP : s.heap.get? P = some (tabObj #[])) (hPr : P ∉ r) (hPL : P ≠ L) (hPb : C.base.get? P = none) (hgP : mainGlobals ≠ P)
    (hbu : ∀ h : Heap, (∀ b o, C.base.get? b = some o → h.get? b = some o) → h.BuiltinsAt C.mg P)
    (k : ∀ h' tk', (∀ b o, C.base.get? b = some o → h'.get? b = some o) → GrownAt P h' → Q (.ret (.bool true)) (sh s h' tk')) :
    wpAny (model C.prog C.w) A (execs (lawBody (KK C.w.params)) (lawAct (lawScope (KK C.w.params)) L fa c0 c1 c2 c3 c4 c5 c6).env) Q E s := by
  obtain ⟨w, m, W, ew, em⟩ := drawn (absL ns)
  have m1 := W.m1
  have m0 := W.m0
  have ok := law_ok W
  have sh1 := show_ok W
  have hA15 : Room 15 A := hA.le (by decide)
  have step : ∀ {r r' : List Addr} {h h' : Heap} {k : Nat} {o : Obj}, h.get? P = some o → P ∉ r → ExtM k (some L) r h r' h' → h'.get? P = some o ∧ P ∉ r' := fun e hr x =>
    ⟨x.keep P _ e hr (fun z => hPL (Option.some.inj z)), not_in x.fresh e hr⟩
  change wpAny _ A (execs ((lawBody (KK C.w.params)).drop 0) _) _ _ _
  refine seq_at 0 (law_s1 hC hb hI hn) hA st fun r1 h1 tk1 x1 st1 => ?_
  have y1 := step hP hPr x1
  refine seq_at 1 (s := sh s h1 tk1) (law_s2 hC ew em (by lia)) hA st1 fun r2 h2 tk2 x2 st2 => ?_
  have y2 := step y1.1 y1.2 x2
  refine seq_at 2 (s := sh s h2 tk2) (law_s3 hC (ms := mS w m) rfl (by lia) (make_ok W)) hA st2 fun r3 h3 tk3 x3 st3 => ?_
  have y3 := step y2.1 y2.2 x3
  refine seq_at 3 (s := sh s h3 tk3) (law_s4 hC sh1) hA st3 fun r4 h4 tk4 x4 st4 => ?_
  have y4 := step y3.1 y3.2 x4
  refine seq_def 4 (def_at (s := sh s h4 tk4) hC.k (st := st4) (hC := hcode) (hP := y4.1) (hPr := y4.2) (hPL := hPL) (hPb := hPb) (hgP := hgP) (hbu := hbu) (k := fun q Sf r5 h5 tk5 ps5 hF hq st5 P5 R5 => ⟨rfl, ?_⟩))
  exact law_rest hC hA hPL k W rfl hF hq st5 P5 R5
end

theorem allP {α : Type} {p : α → Prop} {o : α} {H : List α} (h : p o) (t : ∀ x ∈ H, p x) : ∀ x ∈ o :: H, p x := fun x hx => by
  rcases List.mem_cons.mp hx with rfl | hx
  · exact h
  · exact t x hx
theorem allE {α : Type} {p : α → Prop} : ∀ x ∈ ([] : List α), p x := fun _ h => nomatch h

theorem c_nd (L : Nat) : ([L + 1 + 1 + 1 + 1 + 1 + 1 + 1, L + 1 + 1 + 1 + 1 + 1 + 1, L + 1 + 1 + 1 + 1 + 1, L + 1 + 1 + 1 + 1, L + 1 + 1 + 1, L + 1 + 1, L + 1] : List Nat).Nodup := by
  simp only [List.nodup_cons, List.mem_cons, List.not_mem_nil, or_false, not_false_eq_true, List.nodup_nil, and_true, not_or]; lia
theorem c_low (L k : Nat) (h : k < L) : ∀ x ∈ ([L + 1 + 1 + 1 + 1 + 1 + 1 + 1, L + 1 + 1 + 1 + 1 + 1 + 1, L + 1 + 1 + 1 + 1 + 1, L + 1 + 1 + 1 + 1, L + 1 + 1 + 1, L + 1 + 1, L + 1] : List Nat), k < x := allP (by lia) (allP (by lia) (allP (by lia) (allP (by lia) (allP (by lia) (allP (by lia) (allP (by lia) allE))))))
theorem c_L (L : Nat) : L ∉ ([L + 1 + 1 + 1 + 1 + 1 + 1 + 1, L + 1 + 1 + 1 + 1 + 1 + 1, L + 1 + 1 + 1 + 1 + 1, L + 1 + 1 + 1 + 1, L + 1 + 1 + 1, L + 1 + 1, L + 1] : List Nat) := by
  simp only [List.mem_cons, List.not_mem_nil, or_false, not_or]; lia
theorem c_P (L P : Nat) (h : P < L) : P ∉ ([L + 1 + 1 + 1 + 1 + 1 + 1 + 1, L + 1 + 1 + 1 + 1 + 1 + 1, L + 1 + 1 + 1 + 1 + 1, L + 1 + 1 + 1 + 1, L + 1 + 1 + 1, L + 1 + 1, L + 1] : List Nat) := by
  simp only [List.mem_cons, List.not_mem_nil, or_false, not_or]; lia

noncomputable def lawOkB (scope : Scope) : Bool :=
  lawT.all (fun x => scope.names.lookup x == some .local && !(x == ("__debug__" : Str))) && decide lawT.Nodup &&
  lawG.all (fun p => scope.names.lookup p.1 == some .globalImplicit && !(p.1 == ("__debug__" : Str)) && GT.contains p) &&
  lawCh.all (fun p => !(p.1 == ("__debug__" : Str)) && scope.names.lookup p.1 == some .cell) && scope.kind == .function

section
variable {prog : Program} {w : World} {base : Heap} {mg mb : Str → Option Value} {p : Program} {loose : List Str} {mean : ExcName → Option Value}
theorem gl_own (T : Top p loose mean mg mb base) (X : (KK w.params).In base) {x : Str} {v : Value} (e : nsIn (KK w.params) mainGlobals x = some (some v)) : mg x = some v ∨ (mg x = none ∧ mb x = some v) := .inl (mg_of X T.g e)
theorem gl_boot (T : Top p loose mean mg mb base) (X : (KK w.params).In base) {x : Str} {v : Value} (e : nsIn (KK w.params) mainGlobals x = some none) (hv : bootBuiltins x = some v) (hn : x ≠ "__name__") : mg x = some v ∨ (mg x = none ∧ mb x = some v) :=
  .inr ⟨mg_none_of X T.g e, (T.builtins x hn).trans hv⟩
set_option maxHeartbeats 4000000 in
theorem gl_all (T : Top p loose mean mg mb base) (X : (KK w.params).In base) : ∀ q ∈ GT, mg q.1 = some q.2 ∨ (mg q.1 = none ∧ mb q.1 = some q.2) := by
  unfold GT
  repeat' (first
    | exact allE
    | (refine allP (gl_own T X rfl) ?_)
    | (refine allP (gl_boot T X rfl (by dsimp only; boot_fast) (by decide)) ?_))

set_option maxHeartbeats 4000000 in
theorem law_top (T : Top p loose mean mg mb base) (X : (KK w.params).In base) {L fa ax : Addr} {h₁ : Heap} {mm : Str → Option Value} (F : Fr base L h₁ mm) (hm : mm "script" = some (.ref ax)) {o0 o1 o2 o3 o4 o5 o6 : Obj}
    (N : News base L h₁ [(L + 1 + 1 + 1 + 1 + 1 + 1 + 1, o0), (L + 1 + 1 + 1 + 1 + 1 + 1, o1), (L + 1 + 1 + 1 + 1 + 1, o2), (L + 1 + 1 + 1 + 1, o3), (L + 1 + 1 + 1, o4), (L + 1 + 1, o5), (L + 1, o6), (219, tabObj #[])])
    (d0 : o0.data = .cell none) (d1 : o1.data = .cell none) (d2 : o2.data = .cell none) (d3 : o3.data = .cell none) (d4 : o4.data = .cell none) (d5 : o5.data = .cell none) (d6 : o6.data = .cell none)
    {vs : List Value} {ns : List Int} (hl : base.IsList ax vs.toArray) (hI : IntsAre vs ns) (hn : ns.length < 4000) (hC : CodeHd base 221 219) (l0 : 219 < L) {A : Around} (hA : Room 20 A) {s : Shared} (hs : s.heap = h₁) {Q : Flow → Shared → Prop} {E : Value → Shared → Prop}
    (k : ∀ h' tk', (∀ b o, base.get? b = some o → h'.get? b = some o) → GrownAt 219 h' → Q (.ret (.bool true)) { s with heap := h', toks := tk' })
    {nameL qualL : Str} {paramsL : Arguments} {bodyL : List Stmt} {scopeL : Scope} {dV kV doc pm cdv ct oc : Value} {an od : Option Addr} {osl : Array (Option Value)}
    (hl2 : autoParam ((KK w.params).lookup 222 = some ⟨oc, od, .func (fnX nameL qualL paramsL bodyL scopeL [] dV kV doc pm an cdv ct), osl⟩) exactS) (ok : lawOkB scopeL = true := by decide +kernel) :
    wpAny (model prog w) A (execs bodyL (envX "law" scopeL L fa (.ref 221) (lawCells (L + 1 + 1 + 1 + 1 + 1 + 1 + 1) (L + 1 + 1 + 1 + 1 + 1 + 1) (L + 1 + 1 + 1 + 1 + 1) (L + 1 + 1 + 1 + 1) (L + 1 + 1 + 1) (L + 1 + 1) (L + 1)))) Q E s := by
  subst hs
  have hlim := T.nolimit
  obtain ⟨C, hCx⟩ : ∃ C : Cx, C = { prog := prog, w := w, base := base, mg := mg, mb := mb, K := KK w.params, hg := T.g, hb := T.b, hlim := hlim, hK := X } := ⟨_, rfl⟩
  have pk : PK C := by subst hCx; exact ⟨rfl, gl_all T X⟩
  have e1 : lawBody (KK w.params) = bodyL := by unfold lawBody; rw [hl2]
  have e2 : lawScope (KK w.params) = scopeL := by unfold lawScope; rw [hl2]
  have cp : C.prog = prog := by rw [hCx]
  have cw : C.w = w := by rw [hCx]
  have cb : C.base = base := by rw [hCx]
  have cg : C.mg = mg := by rw [hCx]
  have lowL : sysModules < L := Nat.lt_of_lt_of_le (modules_low hlim) F.above
  have n0 := N (L + 1 + 1 + 1 + 1 + 1 + 1 + 1, o0) (by repeat (first | exact .head _ | refine .tail _ ?_))
  have n1 := N (L + 1 + 1 + 1 + 1 + 1 + 1, o1) (by repeat (first | exact .head _ | refine .tail _ ?_))
  have n2 := N (L + 1 + 1 + 1 + 1 + 1, o2) (by repeat (first | exact .head _ | refine .tail _ ?_))
  have n3 := N (L + 1 + 1 + 1 + 1, o3) (by repeat (first | exact .head _ | refine .tail _ ?_))
  have n4 := N (L + 1 + 1 + 1, o4) (by repeat (first | exact .head _ | refine .tail _ ?_))
  have n5 := N (L + 1 + 1, o5) (by repeat (first | exact .head _ | refine .tail _ ?_))
  have n6 := N (L + 1, o6) (by repeat (first | exact .head _ | refine .tail _ ?_))
  have nP := N (219, tabObj #[]) (by repeat (first | exact .head _ | refine .tail _ ?_))
  have nL : base.get? L = none := Heap.get?_none_of_le F.above
  unfold lawOkB at ok
  simp only [Bool.and_eq_true, List.all_eq_true, decide_eq_true_eq, beq_iff_eq, Bool.not_eq_true', bne_iff_ne, ne_eq] at ok
  obtain ⟨⟨⟨⟨hT, hnd⟩, hG⟩, hcs⟩, hk⟩ := ok
  have hp : Hp C [L + 1 + 1 + 1 + 1 + 1 + 1 + 1, L + 1 + 1 + 1 + 1 + 1 + 1, L + 1 + 1 + 1 + 1 + 1, L + 1 + 1 + 1 + 1, L + 1 + 1 + 1, L + 1 + 1, L + 1] (cellsH none none none none none none none) s.heap := by
    refine ⟨by rw [cb]; exact F.keep, ?_, ?_, rfl, ?_, ?_⟩
    · rw [cb]
      exact allP n0.2.2 (allP n1.2.2 (allP n2.2.2 (allP n3.2.2 (allP n4.2.2 (allP n5.2.2 (allP n6.2.2 allE))))))
    · exact c_nd L
    · exact c_low L _ lowL
    · intro i ao e
      match i, e with
      | 0, e => cases e; exact ⟨_, _, rfl, n0.1, .cellN _ d0⟩
      | 1, e => cases e; exact ⟨_, _, rfl, n1.1, .cellN _ d1⟩
      | 2, e => cases e; exact ⟨_, _, rfl, n2.1, .cellN _ d2⟩
      | 3, e => cases e; exact ⟨_, _, rfl, n3.1, .cellN _ d3⟩
      | 4, e => cases e; exact ⟨_, _, rfl, n4.1, .cellN _ d4⟩
      | 5, e => cases e; exact ⟨_, _, rfl, n5.1, .cellN _ d5⟩
      | 6, e => cases e; exact ⟨_, _, rfl, n6.1, .cellN _ d6⟩
      | i + 7, e => cases e
  have st : St C (lawAct scopeL L fa (L + 1 + 1 + 1 + 1 + 1 + 1 + 1) (L + 1 + 1 + 1 + 1 + 1 + 1) (L + 1 + 1 + 1 + 1 + 1) (L + 1 + 1 + 1 + 1) (L + 1 + 1 + 1) (L + 1 + 1) (L + 1)) [L + 1 + 1 + 1 + 1 + 1 + 1 + 1, L + 1 + 1 + 1 + 1 + 1 + 1, L + 1 + 1 + 1 + 1 + 1, L + 1 + 1 + 1 + 1, L + 1 + 1 + 1, L + 1 + 1, L + 1] (lawF ax) (cellsH none none none none none none none) s.heap := by
    refine ⟨hp, ⟨hk, rfl, rfl, fun x hx => (hT x hx).1, hnd, fun x hx => (hT x hx).2, fun x v hx => ?_, fun x i hx => ?_⟩, by rw [cb]; exact nL, ?_, ⟨_, F.ns, fun i x v h1 h2 => ?_⟩, fun x i hx => ?_⟩
    · obtain ⟨⟨a1, a2⟩, a3⟩ := hG (x, v) hx
      exact ⟨a1, a2, pk.gl (x, v) (List.contains_iff_mem.mp a3)⟩
    · obtain ⟨a1, a2⟩ := hcs (x, i) hx
      exact ⟨a1, .inl a2⟩
    · exact c_L L
    · match i, h2 with
      | 0, h2 =>
        have hx : x = "script" := (Option.some.inj h1).symm
        have hv : v = .val (.ref ax) := (Option.some.inj (Option.some.inj h2)).symm
        subst hx hv
        exact ⟨_, hm, .val _⟩
      | i + 1, h2 =>
        have h2' : (List.replicate 11 (none : Option AV))[i]? = some (some v) := h2
        rw [List.getElem?_replicate] at h2'
        split at h2' <;> cases h2'
    · have : ∀ p ∈ lawCh, (lawCells (L + 1 + 1 + 1 + 1 + 1 + 1 + 1) (L + 1 + 1 + 1 + 1 + 1 + 1) (L + 1 + 1 + 1 + 1 + 1) (L + 1 + 1 + 1 + 1) (L + 1 + 1 + 1) (L + 1 + 1) (L + 1)).lookup p.1 = [L + 1 + 1 + 1 + 1 + 1 + 1 + 1, L + 1 + 1 + 1 + 1 + 1 + 1, L + 1 + 1 + 1 + 1 + 1, L + 1 + 1 + 1 + 1, L + 1 + 1 + 1, L + 1 + 1, L + 1][p.2]? := allP rfl (allP rfl (allP rfl (allP rfl (allP rfl (allP rfl (allP rfl allE))))))
      have h7 : ∀ p ∈ lawCh, p.2 < 7 := by decide
      have hlt := h7 (x, i) hx
      have e := this (x, i) hx
      have hget : [L + 1 + 1 + 1 + 1 + 1 + 1 + 1, L + 1 + 1 + 1 + 1 + 1 + 1, L + 1 + 1 + 1 + 1 + 1, L + 1 + 1 + 1 + 1, L + 1 + 1 + 1, L + 1 + 1, L + 1][i]? = some ([L + 1 + 1 + 1 + 1 + 1 + 1 + 1, L + 1 + 1 + 1 + 1 + 1 + 1, L + 1 + 1 + 1 + 1 + 1, L + 1 + 1 + 1 + 1, L + 1 + 1 + 1, L + 1 + 1, L + 1][i]'hlt) := List.getElem?_eq_getElem hlt
      exact ⟨_, e.trans hget, hget⟩
  have run := law_run (C := C) pk (L := L) (fa := fa) (ax := ax) (P := 219) (vs := vs) (ns := ns) (by rw [cb]; exact hl) hI hn hA (s := s) (Q := Q) (E := E) (by rw [cw, e2]; exact st) (by rw [cb]; exact hC) nP.1 (c_P L 219 l0) (Nat.ne_of_lt l0) (by rw [cb]; exact nP.2.2) ?hgP ?hbu (by rw [cb]; exact k)
  case hgP =>
    intro q
    obtain ⟨o, es, ep, e, hd, _⟩ := T.g
    have := F.keep _ _ e
    rw [q, nP.1] at this; cases this; cases hd
  case hbu =>
    intro h hh
    rw [cb] at hh
    rw [cg]
    obtain ⟨bm, ob, b1, b2, b3, b4, b5, b6⟩ := T.bmain
    have hbP : bm ≠ 219 := fun q => by
      have e := F.keep _ _ b3
      rw [q, nP.1] at e; cases e; cases b4
    have hbG : bm ≠ mainGlobals := fun q => by
      obtain ⟨o, es, ep, e, hd, _⟩ := T.g
      rw [q, e] at b3; cases b3; rw [hd] at b6; cases b6
    exact ⟨bm, ob, b1, b2, hbG, hbP, hh _ _ b3, b4, b5, b6⟩
  rw [cp, cw, e1, e2] at run
  exact run
end
set_option maxHeartbeats 0

/-- what of the heap is kept -/
noncomputable def hk : Hook := kHook KK [3, 57, 58, 64, 65, 71, 72, 78, 79, 85, 86, 92, 93, 99, 100, 113, 114, 116, 117, 127, 128, 134, 135, 141, 142, 148, 149, 155, 156, 162, 163, 169, 170, 176, 177, 183, 184, 190, 191, 197, 198, 204, 205, 209, 210, 216, 217, 221, 222] (fun _ => by kernel_rfl)
noncomputable abbrev rw' : RowW := PySem.Challenge.rw_sa0336_01.row.toRowW
noncomputable abbrev pg : Program := PySem.Challenge.pw_sa0336_01
/-- the defs and classes of the text -/
noncomputable def vw : Program := view rw'.prog [1, 2, 3, 4, 5, 6, 7, 8, 9, 11, 13, 14, 15, 16, 17, 18, 19, 20, 21, 22, 24, 26, 27, 28, 29, 30]
noncomputable abbrev p0 : Pos := ⟨0, 0, 0, 0⟩
noncomputable abbrev stT (t : BT) (n k : Nat) (os : OsState) : SharedT := { tree := t, n := n, life := {}, gens := ⟨[]⟩, drawn := {}, toks := k, os := os }
noncomputable abbrev stH (h : Heap) (k : Nat) (os : OsState) : Shared := { heap := h, gens := ⟨[]⟩, drawn := {}, toks := k, os := os }
noncomputable def hEnv : Env := { scope := pg.main.scope, locals := mainNs, globals := mainNs, cells := [], code := .ref 13, frame := some 14 }
noncomputable abbrev hCode : Code := .body (behindTheImports pg) hEnv
/-- a def's body as its code object keeps it -/
noncomputable def fnB (d : Data) : Data := match d with
  | .func f => .func { f with globals := 0, builtins := 0 }
  | d => d
noncomputable def o43 (P : Params) : Obj := { cls := Value.type "tuple", data := Data.seq #[] }
noncomputable def o44 (P : Params) : Obj := { cls := Value.none, data := Data.fields #[] }
noncomputable def o45 (P : Params) : Obj := { cls := Value.type "code", data := Data.fields #[Value.str (Str.ofString "<module>") 182, Value.str (Str.ofString "<module>") 183, Value.str (Str.ofString "/claim/cut.py") 184, Value.int 1 0, Value.int 0 0, Value.int 0 0, Value.int 0 0, Value.int 0 0, Value.ref 11, Value.bool false, Value.int 181 0, Value.ref 12, Value.none, Value.none, Value.none, Value.none, Value.int 185 0, Value.int 1 0, Value.str (Str.ofString "/claim/cut.py") 186] }
noncomputable def o46 (P : Params) : Obj := { cls := Value.type "frame", slots := #[some (Value.ref 13), some (Value.ref 3), some (Value.ref 3), none, some (Value.str (Str.ofString "__main__") 164), none, some (Value.ref 0)] }
noncomputable def o49 (P : Params) : Obj := { cls := Value.none, data := Data.dict #[{ hash := PyData.keyHash P (Str.ofString "type.__subclasses__.Exception.0"), key := Value.str (Str.ofString "type.__subclasses__.Exception.0") 205, val := Value.int 24 0 }, { hash := PyData.keyHash P (Str.ofString "type.__subclasses__.Exception.n"), key := Value.str (Str.ofString "type.__subclasses__.Exception.n") 206, val := Value.int 1 0 }] 2 }
noncomputable def o50 (P : Params) : Obj := { cls := Value.type "dict", data := Data.dict #[{ hash := PyData.keyHash P (Str.ofString "__name__"), key := Value.str (Str.ofString "__name__") 165, val := Value.str (Str.ofString "gmp.limbs") 187 }, { hash := PyData.keyHash P (Str.ofString "__doc__"), key := Value.str (Str.ofString "__doc__") 166, val := Value.none }, { hash := PyData.keyHash P (Str.ofString "__package__"), key := Value.str (Str.ofString "__package__") 167, val := Value.none }, { hash := PyData.keyHash P (Str.ofString "__loader__"), key := Value.str (Str.ofString "__loader__") 168, val := Value.builtin "__main__.__loader__#opaque" }, { hash := PyData.keyHash P (Str.ofString "__spec__"), key := Value.str (Str.ofString "__spec__") 169, val := Value.none }, { hash := PyData.keyHash P (Str.ofString "__annotations__"), key := Value.str (Str.ofString "__annotations__") 170, val := Value.ref 6 }, { hash := PyData.keyHash P (Str.ofString "__builtins__"), key := Value.str (Str.ofString "__builtins__") 171, val := Value.ref 4 }, { hash := PyData.keyHash P (Str.ofString "__file__"), key := Value.str (Str.ofString "__file__") 173, val := Value.str (Str.ofString "/claim/cut.py") 172 }, { hash := PyData.keyHash P (Str.ofString "__cached__"), key := Value.str (Str.ofString "__cached__") 174, val := Value.none }, { hash := PyData.keyHash P (Str.ofString "GmpError"), key := Value.str (Str.ofString "GmpError") 208, val := Value.ref 24 }] 10 }
noncomputable def o51 (P : Params) : Obj := { cls := Value.none, data := Data.fields #[Value.int 2 0, Value.int 0 0, Value.ref 20] }
noncomputable def o52 (P : Params) : Obj := { cls := Value.type "tuple", data := Data.seq #[Value.type "Exception"] }
noncomputable def o53 (P : Params) : Obj := { cls := Value.type "builtin_function_or_method", data := Data.fields #[Value.builtin "type.__prepare__", Value.type "type"] }
noncomputable def o54 (P : Params) : Obj := { cls := Value.type "dict", data := Data.dict #[{ hash := PyData.keyHash P (Str.ofString "__module__"), key := Value.str (Str.ofString "__module__") 196, val := Value.str (Str.ofString "gmp.limbs") 187 }, { hash := PyData.keyHash P (Str.ofString "__qualname__"), key := Value.str (Str.ofString "__qualname__") 198, val := Value.str (Str.ofString "GmpError") 197 }, { hash := PyData.keyHash P (Str.ofString "__firstlineno__"), key := Value.str (Str.ofString "__firstlineno__") 200, val := Value.int 2 199 }, { hash := PyData.keyHash P (Str.ofString "__static_attributes__"), key := Value.str (Str.ofString "__static_attributes__") 201, val := Value.ref 22 }] 4 }
noncomputable def o55 (P : Params) : Obj := { cls := Value.type "tuple", data := Data.seq #[] }
noncomputable def o56 (P : Params) : Obj := { cls := Value.none, data := Data.fields #[] }
noncomputable def o57 (P : Params) : Obj := { cls := Value.type "code", data := Data.fields #[Value.str (Str.ofString "GmpError") 191, Value.str (Str.ofString "GmpError") 192, Value.str (Str.ofString "/claim/cut.py") 193, Value.int 2 0, Value.int 0 0, Value.int 0 0, Value.int 0 0, Value.int 0 0, Value.ref 18, Value.bool false, Value.int 181 0, Value.ref 19, Value.none, Value.none, Value.none, Value.none, Value.int 194 0, Value.int 2 0, Value.str (Str.ofString "/claim/cut.py") 195] }
noncomputable def o58 (P : Params) : Obj := { cls := Value.type "frame", slots := #[some (Value.ref 20), some (Value.ref 3), some (Value.ref 17), none, some (Value.str (Str.ofString "gmp.limbs") 187), none, some (Value.ref 0)] }
noncomputable def o59 (P : Params) : Obj := { cls := Value.type "tuple", data := Data.seq #[] }
noncomputable def o60 (P : Params) : Obj := { cls := Value.type "dict", data := Data.dict #[{ hash := PyData.keyHash P (Str.ofString "__module__"), key := Value.str (Str.ofString "__module__") 196, val := Value.str (Str.ofString "gmp.limbs") 187 }, { hash := PyData.keyHash P (Str.ofString "__firstlineno__"), key := Value.str (Str.ofString "__firstlineno__") 200, val := Value.int 2 199 }, { hash := PyData.keyHash P (Str.ofString "__static_attributes__"), key := Value.str (Str.ofString "__static_attributes__") 201, val := Value.ref 22 }, { hash := PyData.keyHash P (Str.ofString "__weakref__"), key := Value.str (Str.ofString "__weakref__") 203, val := Value.ref 25 }, { hash := PyData.keyHash P (Str.ofString "__doc__"), key := Value.str (Str.ofString "__doc__") 204, val := Value.none }] 3 }
noncomputable def o61 (P : Params) : Obj := { cls := Value.type "type", data := Data.cls { name := Str.ofString "GmpError", bases := [Value.type "Exception"], mro := [Value.ref 24, Value.type "Exception", Value.type "BaseException", Value.type "object"], ns := 23, qualname := Str.ofString "GmpError" }, slots := #[some (Value.ref 15), none, some (Value.str (Str.ofString "GmpError") 189), some (Value.str (Str.ofString "GmpError") 197), some (Value.builtin "Exception.__new__"), some (Value.bool true)] }
noncomputable def o62 (P : Params) : Obj := { cls := Value.type "getset_descriptor", data := Data.fields #[Value.str (Str.ofString "__weakref__") 202, Value.ref 24, Value.builtin "ExceptionGroup.__weakref__", Value.none] }
noncomputable def o63 (P : Params) : Obj := { cls := Value.type "super", data := Data.fields #[Value.ref 24, Value.ref 24, Value.ref 24] }
noncomputable def o64 (P : Params) : Obj := { cls := Value.type "builtin_function_or_method", data := Data.fields #[Value.builtin "object.__init_subclass__", Value.ref 24] }
noncomputable def o65 (P : Params) : Obj := { cls := Value.type "dict", data := Data.dict #[{ hash := PyData.keyHash P (Str.ofString "__name__"), key := Value.str (Str.ofString "__name__") 165, val := Value.str (Str.ofString "gmp.limbs") 187 }, { hash := PyData.keyHash P (Str.ofString "__doc__"), key := Value.str (Str.ofString "__doc__") 166, val := Value.none }, { hash := PyData.keyHash P (Str.ofString "__package__"), key := Value.str (Str.ofString "__package__") 167, val := Value.none }, { hash := PyData.keyHash P (Str.ofString "__loader__"), key := Value.str (Str.ofString "__loader__") 168, val := Value.builtin "__main__.__loader__#opaque" }, { hash := PyData.keyHash P (Str.ofString "__spec__"), key := Value.str (Str.ofString "__spec__") 169, val := Value.none }, { hash := PyData.keyHash P (Str.ofString "__annotations__"), key := Value.str (Str.ofString "__annotations__") 170, val := Value.ref 6 }, { hash := PyData.keyHash P (Str.ofString "__builtins__"), key := Value.str (Str.ofString "__builtins__") 171, val := Value.ref 4 }, { hash := PyData.keyHash P (Str.ofString "__file__"), key := Value.str (Str.ofString "__file__") 173, val := Value.str (Str.ofString "/claim/cut.py") 172 }, { hash := PyData.keyHash P (Str.ofString "__cached__"), key := Value.str (Str.ofString "__cached__") 174, val := Value.none }, { hash := PyData.keyHash P (Str.ofString "GmpError"), key := Value.str (Str.ofString "GmpError") 208, val := Value.ref 24 }, { hash := PyData.keyHash P (Str.ofString "NoInverse"), key := Value.str (Str.ofString "NoInverse") 224, val := Value.ref 37 }] 11 }
noncomputable def o66 (P : Params) : Obj := { cls := Value.none, data := Data.fields #[Value.int 2 0, Value.int 0 0, Value.ref 20, Value.int 4 0, Value.int 0 0, Value.ref 33] }
noncomputable def o67 (P : Params) : Obj := { cls := Value.type "type", data := Data.cls { name := Str.ofString "GmpError", bases := [Value.type "Exception"], mro := [Value.ref 24, Value.type "Exception", Value.type "BaseException", Value.type "object"], ns := 23, qualname := Str.ofString "GmpError", subclasses := [Value.ref 37] }, slots := #[some (Value.ref 15), none, some (Value.str (Str.ofString "GmpError") 189), some (Value.str (Str.ofString "GmpError") 197), some (Value.builtin "Exception.__new__"), some (Value.bool true)] }
noncomputable def o68 (P : Params) : Obj := { cls := Value.type "tuple", data := Data.seq #[Value.ref 24] }
noncomputable def o69 (P : Params) : Obj := { cls := Value.type "builtin_function_or_method", data := Data.fields #[Value.builtin "type.__prepare__", Value.type "type"] }
noncomputable def o70 (P : Params) : Obj := { cls := Value.type "dict", data := Data.dict #[{ hash := PyData.keyHash P (Str.ofString "__module__"), key := Value.str (Str.ofString "__module__") 216, val := Value.str (Str.ofString "gmp.limbs") 187 }, { hash := PyData.keyHash P (Str.ofString "__qualname__"), key := Value.str (Str.ofString "__qualname__") 218, val := Value.str (Str.ofString "NoInverse") 217 }, { hash := PyData.keyHash P (Str.ofString "__firstlineno__"), key := Value.str (Str.ofString "__firstlineno__") 220, val := Value.int 4 219 }, { hash := PyData.keyHash P (Str.ofString "__static_attributes__"), key := Value.str (Str.ofString "__static_attributes__") 221, val := Value.ref 35 }] 4 }
noncomputable def o71 (P : Params) : Obj := { cls := Value.type "tuple", data := Data.seq #[] }
noncomputable def o72 (P : Params) : Obj := { cls := Value.none, data := Data.fields #[] }
noncomputable def o73 (P : Params) : Obj := { cls := Value.type "code", data := Data.fields #[Value.str (Str.ofString "NoInverse") 211, Value.str (Str.ofString "NoInverse") 212, Value.str (Str.ofString "/claim/cut.py") 213, Value.int 4 0, Value.int 0 0, Value.int 0 0, Value.int 0 0, Value.int 0 0, Value.ref 31, Value.bool false, Value.int 181 0, Value.ref 32, Value.none, Value.none, Value.none, Value.none, Value.int 214 0, Value.int 4 0, Value.str (Str.ofString "/claim/cut.py") 215] }
noncomputable def o74 (P : Params) : Obj := { cls := Value.type "frame", slots := #[some (Value.ref 33), some (Value.ref 3), some (Value.ref 30), none, some (Value.str (Str.ofString "gmp.limbs") 187), none, some (Value.ref 0)] }
noncomputable def o75 (P : Params) : Obj := { cls := Value.type "tuple", data := Data.seq #[] }
noncomputable def o76 (P : Params) : Obj := { cls := Value.type "dict", data := Data.dict #[{ hash := PyData.keyHash P (Str.ofString "__module__"), key := Value.str (Str.ofString "__module__") 216, val := Value.str (Str.ofString "gmp.limbs") 187 }, { hash := PyData.keyHash P (Str.ofString "__firstlineno__"), key := Value.str (Str.ofString "__firstlineno__") 220, val := Value.int 4 219 }, { hash := PyData.keyHash P (Str.ofString "__static_attributes__"), key := Value.str (Str.ofString "__static_attributes__") 221, val := Value.ref 35 }, { hash := PyData.keyHash P (Str.ofString "__doc__"), key := Value.str (Str.ofString "__doc__") 222, val := Value.none }] 2 }
noncomputable def o77 (P : Params) : Obj := { cls := Value.type "type", data := Data.cls { name := Str.ofString "NoInverse", bases := [Value.ref 24], mro := [Value.ref 37, Value.ref 24, Value.type "Exception", Value.type "BaseException", Value.type "object"], ns := 36, qualname := Str.ofString "NoInverse" }, slots := #[some (Value.ref 28), none, some (Value.str (Str.ofString "NoInverse") 209), some (Value.str (Str.ofString "NoInverse") 217), some (Value.builtin "Exception.__new__"), some (Value.bool true)] }
noncomputable def o78 (P : Params) : Obj := { cls := Value.type "super", data := Data.fields #[Value.ref 37, Value.ref 37, Value.ref 37] }
noncomputable def o79 (P : Params) : Obj := { cls := Value.type "builtin_function_or_method", data := Data.fields #[Value.builtin "object.__init_subclass__", Value.ref 37] }
noncomputable def o80 (P : Params) : Obj := { cls := Value.type "dict", data := Data.dict #[{ hash := PyData.keyHash P (Str.ofString "__name__"), key := Value.str (Str.ofString "__name__") 165, val := Value.str (Str.ofString "gmp.limbs") 187 }, { hash := PyData.keyHash P (Str.ofString "__doc__"), key := Value.str (Str.ofString "__doc__") 166, val := Value.none }, { hash := PyData.keyHash P (Str.ofString "__package__"), key := Value.str (Str.ofString "__package__") 167, val := Value.none }, { hash := PyData.keyHash P (Str.ofString "__loader__"), key := Value.str (Str.ofString "__loader__") 168, val := Value.builtin "__main__.__loader__#opaque" }, { hash := PyData.keyHash P (Str.ofString "__spec__"), key := Value.str (Str.ofString "__spec__") 169, val := Value.none }, { hash := PyData.keyHash P (Str.ofString "__annotations__"), key := Value.str (Str.ofString "__annotations__") 170, val := Value.ref 6 }, { hash := PyData.keyHash P (Str.ofString "__builtins__"), key := Value.str (Str.ofString "__builtins__") 171, val := Value.ref 4 }, { hash := PyData.keyHash P (Str.ofString "__file__"), key := Value.str (Str.ofString "__file__") 173, val := Value.str (Str.ofString "/claim/cut.py") 172 }, { hash := PyData.keyHash P (Str.ofString "__cached__"), key := Value.str (Str.ofString "__cached__") 174, val := Value.none }, { hash := PyData.keyHash P (Str.ofString "GmpError"), key := Value.str (Str.ofString "GmpError") 208, val := Value.ref 24 }, { hash := PyData.keyHash P (Str.ofString "NoInverse"), key := Value.str (Str.ofString "NoInverse") 224, val := Value.ref 37 }, { hash := PyData.keyHash P (Str.ofString "OutOfRange"), key := Value.str (Str.ofString "OutOfRange") 240, val := Value.ref 49 }, { hash := PyData.keyHash P (Str.ofString "normal"), key := Value.str (Str.ofString "normal") 248, val := Value.ref 58 }, { hash := PyData.keyHash P (Str.ofString "is_even"), key := Value.str (Str.ofString "is_even") 255, val := Value.ref 65 }, { hash := PyData.keyHash P (Str.ofString "compare"), key := Value.str (Str.ofString "compare") 264, val := Value.ref 72 }, { hash := PyData.keyHash P (Str.ofString "sub"), key := Value.str (Str.ofString "sub") 278, val := Value.ref 79 }, { hash := PyData.keyHash P (Str.ofString "lifted"), key := Value.str (Str.ofString "lifted") 286, val := Value.ref 86 }] 17 }
noncomputable def o81 (P : Params) : Obj := { cls := Value.none, data := Data.fields #[Value.int 2 0, Value.int 0 0, Value.ref 20, Value.int 4 0, Value.int 0 0, Value.ref 33, Value.int 6 0, Value.int 0 0, Value.ref 45, Value.int 8 0, Value.int 0 0, Value.ref 57, Value.int 13 0, Value.int 0 0, Value.ref 64, Value.int 15 0, Value.int 0 0, Value.ref 71, Value.int 22 0, Value.int 0 0, Value.ref 78, Value.int 31 0, Value.int 0 0, Value.ref 85] }
noncomputable def o82 (P : Params) : Obj := { cls := Value.type "type", data := Data.cls { name := Str.ofString "GmpError", bases := [Value.type "Exception"], mro := [Value.ref 24, Value.type "Exception", Value.type "BaseException", Value.type "object"], ns := 23, qualname := Str.ofString "GmpError", subclasses := [Value.ref 37, Value.ref 49] }, slots := #[some (Value.ref 15), none, some (Value.str (Str.ofString "GmpError") 189), some (Value.str (Str.ofString "GmpError") 197), some (Value.builtin "Exception.__new__"), some (Value.bool true)] }
noncomputable def o83 (P : Params) : Obj := { cls := Value.type "tuple", data := Data.seq #[Value.ref 24] }
noncomputable def o84 (P : Params) : Obj := { cls := Value.type "builtin_function_or_method", data := Data.fields #[Value.builtin "type.__prepare__", Value.type "type"] }
noncomputable def o85 (P : Params) : Obj := { cls := Value.type "dict", data := Data.dict #[{ hash := PyData.keyHash P (Str.ofString "__module__"), key := Value.str (Str.ofString "__module__") 232, val := Value.str (Str.ofString "gmp.limbs") 187 }, { hash := PyData.keyHash P (Str.ofString "__qualname__"), key := Value.str (Str.ofString "__qualname__") 234, val := Value.str (Str.ofString "OutOfRange") 233 }, { hash := PyData.keyHash P (Str.ofString "__firstlineno__"), key := Value.str (Str.ofString "__firstlineno__") 236, val := Value.int 6 235 }, { hash := PyData.keyHash P (Str.ofString "__static_attributes__"), key := Value.str (Str.ofString "__static_attributes__") 237, val := Value.ref 47 }] 4 }
noncomputable def o86 (P : Params) : Obj := { cls := Value.type "tuple", data := Data.seq #[] }
noncomputable def o87 (P : Params) : Obj := { cls := Value.none, data := Data.fields #[] }
noncomputable def o88 (P : Params) : Obj := { cls := Value.type "code", data := Data.fields #[Value.str (Str.ofString "OutOfRange") 227, Value.str (Str.ofString "OutOfRange") 228, Value.str (Str.ofString "/claim/cut.py") 229, Value.int 6 0, Value.int 0 0, Value.int 0 0, Value.int 0 0, Value.int 0 0, Value.ref 43, Value.bool false, Value.int 181 0, Value.ref 44, Value.none, Value.none, Value.none, Value.none, Value.int 230 0, Value.int 6 0, Value.str (Str.ofString "/claim/cut.py") 231] }
noncomputable def o89 (P : Params) : Obj := { cls := Value.type "frame", slots := #[some (Value.ref 45), some (Value.ref 3), some (Value.ref 42), none, some (Value.str (Str.ofString "gmp.limbs") 187), none, some (Value.ref 0)] }
noncomputable def o90 (P : Params) : Obj := { cls := Value.type "tuple", data := Data.seq #[] }
noncomputable def o91 (P : Params) : Obj := { cls := Value.type "dict", data := Data.dict #[{ hash := PyData.keyHash P (Str.ofString "__module__"), key := Value.str (Str.ofString "__module__") 232, val := Value.str (Str.ofString "gmp.limbs") 187 }, { hash := PyData.keyHash P (Str.ofString "__firstlineno__"), key := Value.str (Str.ofString "__firstlineno__") 236, val := Value.int 6 235 }, { hash := PyData.keyHash P (Str.ofString "__static_attributes__"), key := Value.str (Str.ofString "__static_attributes__") 237, val := Value.ref 47 }, { hash := PyData.keyHash P (Str.ofString "__doc__"), key := Value.str (Str.ofString "__doc__") 238, val := Value.none }] 2 }
noncomputable def o92 (P : Params) : Obj := { cls := Value.type "type", data := Data.cls { name := Str.ofString "OutOfRange", bases := [Value.ref 24], mro := [Value.ref 49, Value.ref 24, Value.type "Exception", Value.type "BaseException", Value.type "object"], ns := 48, qualname := Str.ofString "OutOfRange" }, slots := #[some (Value.ref 40), none, some (Value.str (Str.ofString "OutOfRange") 225), some (Value.str (Str.ofString "OutOfRange") 233), some (Value.builtin "Exception.__new__"), some (Value.bool true)] }
noncomputable def o93 (P : Params) : Obj := { cls := Value.type "super", data := Data.fields #[Value.ref 49, Value.ref 49, Value.ref 49] }
noncomputable def o94 (P : Params) : Obj := { cls := Value.type "builtin_function_or_method", data := Data.fields #[Value.builtin "object.__init_subclass__", Value.ref 49] }
noncomputable def o95 (P : Params) : Obj := { cls := Value.type "tuple", data := Data.seq #[] }
noncomputable def o96 (P : Params) : Obj := { cls := Value.none, data := Data.fields #[] }
noncomputable def o97 (P : Params) : Obj := { cls := Value.type "tuple", data := Data.seq #[Value.str (Str.ofString "a") 244, Value.str (Str.ofString "end") 245] }
noncomputable def o98 (P : Params) : Obj := { cls := Value.type "tuple", data := Data.seq #[] }
noncomputable def o99 (P : Params) : Obj := { cls := Value.none, data := fnB <| fnD (fun x => x) (Value.none) (Value.none) (stmtAt 4) }
noncomputable def o100 (P : Params) : Obj := { cls := Value.type "code", data := Data.fields #[Value.str (Str.ofString "normal") 241, Value.str (Str.ofString "normal") 242, Value.str (Str.ofString "/claim/cut.py") 243, Value.int 8 0, Value.int 1 0, Value.int 0 0, Value.int 0 0, Value.int 3 0, Value.ref 52, Value.bool true, Value.int 181 0, Value.ref 53, Value.none, Value.ref 54, Value.ref 55, Value.ref 56, Value.int 246 0, Value.int 8 0, Value.str (Str.ofString "/claim/cut.py") 247] }
noncomputable def o101 (P : Params) : Obj := { cls := Value.type "function", data := fnD (fun x => x) (Value.str (Str.ofString "gmp.limbs") 187) (Value.ref 57) (stmtAt 4) }
noncomputable def o102 (P : Params) : Obj := { cls := Value.type "tuple", data := Data.seq #[] }
noncomputable def o103 (P : Params) : Obj := { cls := Value.none, data := Data.fields #[] }
noncomputable def o104 (P : Params) : Obj := { cls := Value.type "tuple", data := Data.seq #[Value.str (Str.ofString "a") 252] }
noncomputable def o105 (P : Params) : Obj := { cls := Value.type "tuple", data := Data.seq #[] }
noncomputable def o106 (P : Params) : Obj := { cls := Value.none, data := fnB <| fnD (fun x => x) (Value.none) (Value.none) (stmtAt 5) }
noncomputable def o107 (P : Params) : Obj := { cls := Value.type "code", data := Data.fields #[Value.str (Str.ofString "is_even") 249, Value.str (Str.ofString "is_even") 250, Value.str (Str.ofString "/claim/cut.py") 251, Value.int 13 0, Value.int 1 0, Value.int 0 0, Value.int 0 0, Value.int 3 0, Value.ref 59, Value.bool true, Value.int 181 0, Value.ref 60, Value.none, Value.ref 61, Value.ref 62, Value.ref 63, Value.int 253 0, Value.int 13 0, Value.str (Str.ofString "/claim/cut.py") 254] }
noncomputable def o108 (P : Params) : Obj := { cls := Value.type "function", data := fnD (fun x => x) (Value.str (Str.ofString "gmp.limbs") 187) (Value.ref 64) (stmtAt 5) }
noncomputable def o109 (P : Params) : Obj := { cls := Value.type "tuple", data := Data.seq #[] }
noncomputable def o110 (P : Params) : Obj := { cls := Value.none, data := Data.fields #[] }
noncomputable def o111 (P : Params) : Obj := { cls := Value.type "tuple", data := Data.seq #[Value.str (Str.ofString "a") 259, Value.str (Str.ofString "b") 260, Value.str (Str.ofString "at") 261] }
noncomputable def o112 (P : Params) : Obj := { cls := Value.type "tuple", data := Data.seq #[] }
noncomputable def o113 (P : Params) : Obj := { cls := Value.none, data := fnB <| fnD (fun x => x) (Value.none) (Value.none) (stmtAt 6) }
noncomputable def o114 (P : Params) : Obj := { cls := Value.type "code", data := Data.fields #[Value.str (Str.ofString "compare") 256, Value.str (Str.ofString "compare") 257, Value.str (Str.ofString "/claim/cut.py") 258, Value.int 15 0, Value.int 2 0, Value.int 0 0, Value.int 0 0, Value.int 3 0, Value.ref 66, Value.bool true, Value.int 181 0, Value.ref 67, Value.none, Value.ref 68, Value.ref 69, Value.ref 70, Value.int 262 0, Value.int 15 0, Value.str (Str.ofString "/claim/cut.py") 263] }
noncomputable def o115 (P : Params) : Obj := { cls := Value.type "function", data := fnD (fun x => x) (Value.str (Str.ofString "gmp.limbs") 187) (Value.ref 71) (stmtAt 6) }
noncomputable def o116 (P : Params) : Obj := { cls := Value.type "tuple", data := Data.seq #[] }
noncomputable def o117 (P : Params) : Obj := { cls := Value.none, data := Data.fields #[] }
noncomputable def o118 (P : Params) : Obj := { cls := Value.type "tuple", data := Data.seq #[Value.str (Str.ofString "a") 268, Value.str (Str.ofString "b") 269, Value.str (Str.ofString "w") 270, Value.str (Str.ofString "found") 271, Value.str (Str.ofString "borrow") 272, Value.str (Str.ofString "base") 273, Value.str (Str.ofString "at") 274, Value.str (Str.ofString "limb") 275] }
noncomputable def o119 (P : Params) : Obj := { cls := Value.type "tuple", data := Data.seq #[] }
noncomputable def o120 (P : Params) : Obj := { cls := Value.none, data := fnB <| fnD (fun x => x) (Value.none) (Value.none) (stmtAt 7) }
noncomputable def o121 (P : Params) : Obj := { cls := Value.type "code", data := Data.fields #[Value.str (Str.ofString "sub") 265, Value.str (Str.ofString "sub") 266, Value.str (Str.ofString "/claim/cut.py") 267, Value.int 22 0, Value.int 3 0, Value.int 0 0, Value.int 0 0, Value.int 3 0, Value.ref 73, Value.bool true, Value.int 181 0, Value.ref 74, Value.none, Value.ref 75, Value.ref 76, Value.ref 77, Value.int 276 0, Value.int 22 0, Value.str (Str.ofString "/claim/cut.py") 277] }
noncomputable def o122 (P : Params) : Obj := { cls := Value.type "function", data := fnD (fun x => x) (Value.str (Str.ofString "gmp.limbs") 187) (Value.ref 78) (stmtAt 7) }
noncomputable def o123 (P : Params) : Obj := { cls := Value.type "tuple", data := Data.seq #[] }
noncomputable def o124 (P : Params) : Obj := { cls := Value.none, data := Data.fields #[] }
noncomputable def o125 (P : Params) : Obj := { cls := Value.type "tuple", data := Data.seq #[Value.str (Str.ofString "a") 282, Value.str (Str.ofString "spot") 283] }
noncomputable def o126 (P : Params) : Obj := { cls := Value.type "tuple", data := Data.seq #[] }
noncomputable def o127 (P : Params) : Obj := { cls := Value.none, data := fnB <| fnD (fun x => x) (Value.none) (Value.none) (stmtAt 8) }
noncomputable def o128 (P : Params) : Obj := { cls := Value.type "code", data := Data.fields #[Value.str (Str.ofString "lifted") 279, Value.str (Str.ofString "lifted") 280, Value.str (Str.ofString "/claim/cut.py") 281, Value.int 31 0, Value.int 2 0, Value.int 0 0, Value.int 0 0, Value.int 3 0, Value.ref 80, Value.bool true, Value.int 181 0, Value.ref 81, Value.none, Value.ref 82, Value.ref 83, Value.ref 84, Value.int 284 0, Value.int 31 0, Value.str (Str.ofString "/claim/cut.py") 285] }
noncomputable def o129 (P : Params) : Obj := { cls := Value.type "function", data := fnD (fun x => x) (Value.str (Str.ofString "gmp.limbs") 187) (Value.ref 85) (stmtAt 8) }
noncomputable def o130 (P : Params) : Obj := { cls := Value.type "dict", data := Data.dict #[{ hash := PyData.keyHash P (Str.ofString "__name__"), key := Value.str (Str.ofString "__name__") 165, val := Value.str (Str.ofString "gmp.reduce") 315 }, { hash := PyData.keyHash P (Str.ofString "__doc__"), key := Value.str (Str.ofString "__doc__") 166, val := Value.none }, { hash := PyData.keyHash P (Str.ofString "__package__"), key := Value.str (Str.ofString "__package__") 167, val := Value.none }, { hash := PyData.keyHash P (Str.ofString "__loader__"), key := Value.str (Str.ofString "__loader__") 168, val := Value.builtin "__main__.__loader__#opaque" }, { hash := PyData.keyHash P (Str.ofString "__spec__"), key := Value.str (Str.ofString "__spec__") 169, val := Value.none }, { hash := PyData.keyHash P (Str.ofString "__annotations__"), key := Value.str (Str.ofString "__annotations__") 170, val := Value.ref 6 }, { hash := PyData.keyHash P (Str.ofString "__builtins__"), key := Value.str (Str.ofString "__builtins__") 171, val := Value.ref 4 }, { hash := PyData.keyHash P (Str.ofString "__file__"), key := Value.str (Str.ofString "__file__") 173, val := Value.str (Str.ofString "/claim/cut.py") 172 }, { hash := PyData.keyHash P (Str.ofString "__cached__"), key := Value.str (Str.ofString "__cached__") 174, val := Value.none }, { hash := PyData.keyHash P (Str.ofString "GmpError"), key := Value.str (Str.ofString "GmpError") 208, val := Value.ref 24 }, { hash := PyData.keyHash P (Str.ofString "NoInverse"), key := Value.str (Str.ofString "NoInverse") 224, val := Value.ref 37 }, { hash := PyData.keyHash P (Str.ofString "OutOfRange"), key := Value.str (Str.ofString "OutOfRange") 240, val := Value.ref 49 }, { hash := PyData.keyHash P (Str.ofString "normal"), key := Value.str (Str.ofString "normal") 248, val := Value.ref 58 }, { hash := PyData.keyHash P (Str.ofString "is_even"), key := Value.str (Str.ofString "is_even") 255, val := Value.ref 65 }, { hash := PyData.keyHash P (Str.ofString "compare"), key := Value.str (Str.ofString "compare") 264, val := Value.ref 72 }, { hash := PyData.keyHash P (Str.ofString "sub"), key := Value.str (Str.ofString "sub") 278, val := Value.ref 79 }, { hash := PyData.keyHash P (Str.ofString "lifted"), key := Value.str (Str.ofString "lifted") 286, val := Value.ref 86 }, { hash := PyData.keyHash P (Str.ofString "shift_left"), key := Value.str (Str.ofString "shift_left") 301, val := Value.ref 93 }, { hash := PyData.keyHash P (Str.ofString "inverse_limb"), key := Value.str (Str.ofString "inverse_limb") 314, val := Value.ref 100 }, { hash := PyData.keyHash P (Str.ofString "Montgomery"), key := Value.str (Str.ofString "Montgomery") 351, val := Value.ref 117 }, { hash := PyData.keyHash P (Str.ofString "doubled_rest"), key := Value.str (Str.ofString "doubled_rest") 361, val := Value.ref 128 }, { hash := PyData.keyHash P (Str.ofString "mont_make"), key := Value.str (Str.ofString "mont_make") 372, val := Value.ref 135 }] 22 }
noncomputable def o131 (P : Params) : Obj := { cls := Value.none, data := Data.fields #[Value.int 2 0, Value.int 0 0, Value.ref 20, Value.int 4 0, Value.int 0 0, Value.ref 33, Value.int 6 0, Value.int 0 0, Value.ref 45, Value.int 8 0, Value.int 0 0, Value.ref 57, Value.int 13 0, Value.int 0 0, Value.ref 64, Value.int 15 0, Value.int 0 0, Value.ref 71, Value.int 22 0, Value.int 0 0, Value.ref 78, Value.int 31 0, Value.int 0 0, Value.ref 85, Value.int 33 0, Value.int 0 0, Value.ref 92, Value.int 46 0, Value.int 0 0, Value.ref 99, Value.int 56 0, Value.int 0 0, Value.ref 106, Value.int 63 0, Value.int 0 0, Value.ref 127, Value.int 66 0, Value.int 0 0, Value.ref 134] }
noncomputable def o132 (P : Params) : Obj := { cls := Value.type "tuple", data := Data.seq #[] }
noncomputable def o133 (P : Params) : Obj := { cls := Value.none, data := Data.fields #[] }
noncomputable def o134 (P : Params) : Obj := { cls := Value.type "tuple", data := Data.seq #[Value.str (Str.ofString "a") 290, Value.str (Str.ofString "n") 291, Value.str (Str.ofString "w") 292, Value.str (Str.ofString "spots") 293, Value.str (Str.ofString "few") 294, Value.str (Str.ofString "found") 295, Value.str (Str.ofString "carry") 296, Value.str (Str.ofString "mask") 297, Value.str (Str.ofString "one") 298] }
noncomputable def o135 (P : Params) : Obj := { cls := Value.type "tuple", data := Data.seq #[] }
noncomputable def o136 (P : Params) : Obj := { cls := Value.none, data := fnB <| fnD (fun x => x) (Value.none) (Value.none) (stmtAt 9) }
noncomputable def o137 (P : Params) : Obj := { cls := Value.type "code", data := Data.fields #[Value.str (Str.ofString "shift_left") 287, Value.str (Str.ofString "shift_left") 288, Value.str (Str.ofString "/claim/cut.py") 289, Value.int 33 0, Value.int 3 0, Value.int 0 0, Value.int 0 0, Value.int 3 0, Value.ref 87, Value.bool true, Value.int 181 0, Value.ref 88, Value.none, Value.ref 89, Value.ref 90, Value.ref 91, Value.int 299 0, Value.int 33 0, Value.str (Str.ofString "/claim/cut.py") 300] }
noncomputable def o138 (P : Params) : Obj := { cls := Value.type "function", data := fnD (fun x => x) (Value.str (Str.ofString "gmp.limbs") 187) (Value.ref 92) (stmtAt 9) }
noncomputable def o139 (P : Params) : Obj := { cls := Value.type "tuple", data := Data.seq #[] }
noncomputable def o140 (P : Params) : Obj := { cls := Value.none, data := Data.fields #[] }
noncomputable def o141 (P : Params) : Obj := { cls := Value.type "tuple", data := Data.seq #[Value.str (Str.ofString "d") 307, Value.str (Str.ofString "w") 308, Value.str (Str.ofString "whole") 309, Value.str (Str.ofString "found") 310, Value.str (Str.ofString "sure") 311] }
noncomputable def o142 (P : Params) : Obj := { cls := Value.type "tuple", data := Data.seq #[] }
noncomputable def o143 (P : Params) : Obj := { cls := Value.none, data := fnB <| fnD (fun x => x) (Value.none) (Value.none) (stmtAt 11) }
noncomputable def o144 (P : Params) : Obj := { cls := Value.type "code", data := Data.fields #[Value.str (Str.ofString "inverse_limb") 304, Value.str (Str.ofString "inverse_limb") 305, Value.str (Str.ofString "/claim/cut.py") 306, Value.int 46 0, Value.int 2 0, Value.int 0 0, Value.int 0 0, Value.int 3 0, Value.ref 94, Value.bool true, Value.int 181 0, Value.ref 95, Value.none, Value.ref 96, Value.ref 97, Value.ref 98, Value.int 312 0, Value.int 46 0, Value.str (Str.ofString "/claim/cut.py") 313] }
noncomputable def o145 (P : Params) : Obj := { cls := Value.type "function", data := fnD (fun x => x) (Value.str (Str.ofString "gmp.hensel") 302) (Value.ref 99) (stmtAt 11) }
noncomputable def o146 (P : Params) : Obj := { cls := Value.type "tuple", data := Data.seq #[] }
noncomputable def o147 (P : Params) : Obj := { cls := Value.type "builtin_function_or_method", data := Data.fields #[Value.builtin "type.__prepare__", Value.type "type"] }
noncomputable def o148 (P : Params) : Obj := { cls := Value.type "dict", data := Data.dict #[{ hash := PyData.keyHash P (Str.ofString "__module__"), key := Value.str (Str.ofString "__module__") 324, val := Value.str (Str.ofString "gmp.reduce") 315 }, { hash := PyData.keyHash P (Str.ofString "__qualname__"), key := Value.str (Str.ofString "__qualname__") 326, val := Value.str (Str.ofString "Montgomery") 325 }, { hash := PyData.keyHash P (Str.ofString "__firstlineno__"), key := Value.str (Str.ofString "__firstlineno__") 328, val := Value.int 56 327 }, { hash := PyData.keyHash P (Str.ofString "__init__"), key := Value.str (Str.ofString "__init__") 339, val := Value.ref 114 }, { hash := PyData.keyHash P (Str.ofString "__static_attributes__"), key := Value.str (Str.ofString "__static_attributes__") 344, val := Value.ref 115 }] 5 }
noncomputable def o149 (P : Params) : Obj := { cls := Value.type "tuple", data := Data.seq #[] }
noncomputable def o150 (P : Params) : Obj := { cls := Value.none, data := Data.fields #[Value.int 58 0, Value.int 4 0, Value.ref 113] }
noncomputable def o151 (P : Params) : Obj := { cls := Value.type "code", data := Data.fields #[Value.str (Str.ofString "Montgomery") 319, Value.str (Str.ofString "Montgomery") 320, Value.str (Str.ofString "/claim/cut.py") 321, Value.int 56 0, Value.int 0 0, Value.int 0 0, Value.int 0 0, Value.int 0 0, Value.ref 104, Value.bool false, Value.int 181 0, Value.ref 105, Value.none, Value.none, Value.none, Value.none, Value.int 322 0, Value.int 56 0, Value.str (Str.ofString "/claim/cut.py") 323] }
noncomputable def o152 (P : Params) : Obj := { cls := Value.type "frame", slots := #[some (Value.ref 106), some (Value.ref 3), some (Value.ref 103), none, some (Value.str (Str.ofString "gmp.reduce") 315), none, some (Value.ref 0)] }
noncomputable def o153 (P : Params) : Obj := { cls := Value.type "tuple", data := Data.seq #[] }
noncomputable def o154 (P : Params) : Obj := { cls := Value.none, data := Data.fields #[] }
noncomputable def o155 (P : Params) : Obj := { cls := Value.type "tuple", data := Data.seq #[Value.str (Str.ofString "self") 332, Value.str (Str.ofString "modulus") 333, Value.str (Str.ofString "minus") 334, Value.str (Str.ofString "one") 335, Value.str (Str.ofString "square") 336] }
noncomputable def o156 (P : Params) : Obj := { cls := Value.type "tuple", data := Data.seq #[] }
noncomputable def o157 (P : Params) : Obj := { cls := Value.none, data := fnB <| fnD (fun _ => Str.ofString "Montgomery.__init__") (Value.none) (Value.none) (inCls (stmtAt 13) 0) }
noncomputable def o158 (P : Params) : Obj := { cls := Value.type "code", data := Data.fields #[Value.str (Str.ofString "__init__") 329, Value.str (Str.ofString "Montgomery.__init__") 330, Value.str (Str.ofString "/claim/cut.py") 331, Value.int 58 0, Value.int 5 0, Value.int 0 0, Value.int 0 0, Value.int 3 0, Value.ref 108, Value.bool true, Value.int 181 0, Value.ref 109, Value.none, Value.ref 110, Value.ref 111, Value.ref 112, Value.int 337 0, Value.int 58 0, Value.str (Str.ofString "/claim/cut.py") 338] }
noncomputable def o159 (P : Params) : Obj := { cls := Value.type "function", data := fnD (fun _ => Str.ofString "Montgomery.__init__") (Value.str (Str.ofString "gmp.reduce") 315) (Value.ref 113) (inCls (stmtAt 13) 0) }
noncomputable def o160 (P : Params) : Obj := { cls := Value.type "tuple", data := Data.seq #[Value.str (Str.ofString "minus") 340, Value.str (Str.ofString "modulus") 341, Value.str (Str.ofString "one") 342, Value.str (Str.ofString "square") 343] }
noncomputable def o161 (P : Params) : Obj := { cls := Value.type "dict", data := Data.dict #[{ hash := PyData.keyHash P (Str.ofString "__module__"), key := Value.str (Str.ofString "__module__") 324, val := Value.str (Str.ofString "gmp.reduce") 315 }, { hash := PyData.keyHash P (Str.ofString "__firstlineno__"), key := Value.str (Str.ofString "__firstlineno__") 328, val := Value.int 56 327 }, { hash := PyData.keyHash P (Str.ofString "__init__"), key := Value.str (Str.ofString "__init__") 339, val := Value.ref 114 }, { hash := PyData.keyHash P (Str.ofString "__static_attributes__"), key := Value.str (Str.ofString "__static_attributes__") 344, val := Value.ref 115 }, { hash := PyData.keyHash P (Str.ofString "__dict__"), key := Value.str (Str.ofString "__dict__") 346, val := Value.ref 118 }, { hash := PyData.keyHash P (Str.ofString "__weakref__"), key := Value.str (Str.ofString "__weakref__") 348, val := Value.ref 119 }, { hash := PyData.keyHash P (Str.ofString "__doc__"), key := Value.str (Str.ofString "__doc__") 349, val := Value.none }] 4 }
noncomputable def o162 (P : Params) : Obj := { cls := Value.type "type", data := Data.cls { name := Str.ofString "Montgomery", bases := [Value.type "object"], mro := [Value.ref 117, Value.type "object"], ns := 116, qualname := Str.ofString "Montgomery" }, slots := #[none, none, some (Value.str (Str.ofString "Montgomery") 317), some (Value.str (Str.ofString "Montgomery") 325), some (Value.builtin "object.__new__"), some (Value.bool true)] }
noncomputable def o163 (P : Params) : Obj := { cls := Value.type "getset_descriptor", data := Data.fields #[Value.str (Str.ofString "__dict__") 345, Value.ref 117, Value.builtin "function.__dict__", Value.builtin "function.__dict__#set"] }
noncomputable def o164 (P : Params) : Obj := { cls := Value.type "getset_descriptor", data := Data.fields #[Value.str (Str.ofString "__weakref__") 347, Value.ref 117, Value.builtin "ExceptionGroup.__weakref__", Value.none] }
noncomputable def o165 (P : Params) : Obj := { cls := Value.type "super", data := Data.fields #[Value.ref 117, Value.ref 117, Value.ref 117] }
noncomputable def o166 (P : Params) : Obj := { cls := Value.type "builtin_function_or_method", data := Data.fields #[Value.builtin "object.__init_subclass__", Value.ref 117] }
noncomputable def o167 (P : Params) : Obj := { cls := Value.type "tuple", data := Data.seq #[] }
noncomputable def o168 (P : Params) : Obj := { cls := Value.none, data := Data.fields #[] }
noncomputable def o169 (P : Params) : Obj := { cls := Value.type "tuple", data := Data.seq #[Value.str (Str.ofString "a") 355, Value.str (Str.ofString "m") 356, Value.str (Str.ofString "w") 357, Value.str (Str.ofString "found") 358] }
noncomputable def o170 (P : Params) : Obj := { cls := Value.type "tuple", data := Data.seq #[] }
noncomputable def o171 (P : Params) : Obj := { cls := Value.none, data := fnB <| fnD (fun x => x) (Value.none) (Value.none) (stmtAt 14) }
noncomputable def o172 (P : Params) : Obj := { cls := Value.type "code", data := Data.fields #[Value.str (Str.ofString "doubled_rest") 352, Value.str (Str.ofString "doubled_rest") 353, Value.str (Str.ofString "/claim/cut.py") 354, Value.int 63 0, Value.int 3 0, Value.int 0 0, Value.int 0 0, Value.int 3 0, Value.ref 122, Value.bool true, Value.int 181 0, Value.ref 123, Value.none, Value.ref 124, Value.ref 125, Value.ref 126, Value.int 359 0, Value.int 63 0, Value.str (Str.ofString "/claim/cut.py") 360] }
noncomputable def o173 (P : Params) : Obj := { cls := Value.type "function", data := fnD (fun x => x) (Value.str (Str.ofString "gmp.reduce") 315) (Value.ref 127) (stmtAt 14) }
noncomputable def o174 (P : Params) : Obj := { cls := Value.type "tuple", data := Data.seq #[] }
noncomputable def o175 (P : Params) : Obj := { cls := Value.none, data := Data.fields #[] }
noncomputable def o176 (P : Params) : Obj := { cls := Value.type "tuple", data := Data.seq #[Value.str (Str.ofString "m") 365, Value.str (Str.ofString "w") 366, Value.str (Str.ofString "one") 367, Value.str (Str.ofString "turn") 368, Value.str (Str.ofString "square") 369] }
noncomputable def o177 (P : Params) : Obj := { cls := Value.type "tuple", data := Data.seq #[] }
noncomputable def o178 (P : Params) : Obj := { cls := Value.none, data := fnB <| fnD (fun x => x) (Value.none) (Value.none) (stmtAt 15) }
noncomputable def o179 (P : Params) : Obj := { cls := Value.type "code", data := Data.fields #[Value.str (Str.ofString "mont_make") 362, Value.str (Str.ofString "mont_make") 363, Value.str (Str.ofString "/claim/cut.py") 364, Value.int 66 0, Value.int 2 0, Value.int 0 0, Value.int 0 0, Value.int 3 0, Value.ref 129, Value.bool true, Value.int 181 0, Value.ref 130, Value.none, Value.ref 131, Value.ref 132, Value.ref 133, Value.int 370 0, Value.int 66 0, Value.str (Str.ofString "/claim/cut.py") 371] }
noncomputable def o180 (P : Params) : Obj := { cls := Value.type "function", data := fnD (fun x => x) (Value.str (Str.ofString "gmp.reduce") 315) (Value.ref 134) (stmtAt 15) }
noncomputable def o181 (P : Params) : Obj := { cls := Value.type "dict", data := Data.dict #[{ hash := PyData.keyHash P (Str.ofString "__name__"), key := Value.str (Str.ofString "__name__") 165, val := Value.str (Str.ofString "law_sa0336_01") 473 }, { hash := PyData.keyHash P (Str.ofString "__doc__"), key := Value.str (Str.ofString "__doc__") 166, val := Value.none }, { hash := PyData.keyHash P (Str.ofString "__package__"), key := Value.str (Str.ofString "__package__") 167, val := Value.none }, { hash := PyData.keyHash P (Str.ofString "__loader__"), key := Value.str (Str.ofString "__loader__") 168, val := Value.builtin "__main__.__loader__#opaque" }, { hash := PyData.keyHash P (Str.ofString "__spec__"), key := Value.str (Str.ofString "__spec__") 169, val := Value.none }, { hash := PyData.keyHash P (Str.ofString "__annotations__"), key := Value.str (Str.ofString "__annotations__") 170, val := Value.ref 6 }, { hash := PyData.keyHash P (Str.ofString "__builtins__"), key := Value.str (Str.ofString "__builtins__") 171, val := Value.ref 4 }, { hash := PyData.keyHash P (Str.ofString "__file__"), key := Value.str (Str.ofString "__file__") 173, val := Value.str (Str.ofString "/claim/cut.py") 172 }, { hash := PyData.keyHash P (Str.ofString "__cached__"), key := Value.str (Str.ofString "__cached__") 174, val := Value.none }, { hash := PyData.keyHash P (Str.ofString "GmpError"), key := Value.str (Str.ofString "GmpError") 208, val := Value.ref 24 }, { hash := PyData.keyHash P (Str.ofString "NoInverse"), key := Value.str (Str.ofString "NoInverse") 224, val := Value.ref 37 }, { hash := PyData.keyHash P (Str.ofString "OutOfRange"), key := Value.str (Str.ofString "OutOfRange") 240, val := Value.ref 49 }, { hash := PyData.keyHash P (Str.ofString "normal"), key := Value.str (Str.ofString "normal") 248, val := Value.ref 58 }, { hash := PyData.keyHash P (Str.ofString "is_even"), key := Value.str (Str.ofString "is_even") 255, val := Value.ref 65 }, { hash := PyData.keyHash P (Str.ofString "compare"), key := Value.str (Str.ofString "compare") 264, val := Value.ref 72 }, { hash := PyData.keyHash P (Str.ofString "sub"), key := Value.str (Str.ofString "sub") 278, val := Value.ref 79 }, { hash := PyData.keyHash P (Str.ofString "lifted"), key := Value.str (Str.ofString "lifted") 286, val := Value.ref 86 }, { hash := PyData.keyHash P (Str.ofString "shift_left"), key := Value.str (Str.ofString "shift_left") 301, val := Value.ref 93 }, { hash := PyData.keyHash P (Str.ofString "inverse_limb"), key := Value.str (Str.ofString "inverse_limb") 314, val := Value.ref 100 }, { hash := PyData.keyHash P (Str.ofString "Montgomery"), key := Value.str (Str.ofString "Montgomery") 351, val := Value.ref 117 }, { hash := PyData.keyHash P (Str.ofString "doubled_rest"), key := Value.str (Str.ofString "doubled_rest") 361, val := Value.ref 128 }, { hash := PyData.keyHash P (Str.ofString "mont_make"), key := Value.str (Str.ofString "mont_make") 372, val := Value.ref 135 }, { hash := PyData.keyHash P (Str.ofString "add_row"), key := Value.str (Str.ofString "add_row") 386, val := Value.ref 142 }, { hash := PyData.keyHash P (Str.ofString "taken_once"), key := Value.str (Str.ofString "taken_once") 395, val := Value.ref 149 }, { hash := PyData.keyHash P (Str.ofString "redc"), key := Value.str (Str.ofString "redc") 409, val := Value.ref 156 }, { hash := PyData.keyHash P (Str.ofString "to_mont"), key := Value.str (Str.ofString "to_mont") 419, val := Value.ref 163 }, { hash := PyData.keyHash P (Str.ofString "from_mont"), key := Value.str (Str.ofString "from_mont") 428, val := Value.ref 170 }, { hash := PyData.keyHash P (Str.ofString "mont_mul"), key := Value.str (Str.ofString "mont_mul") 439, val := Value.ref 177 }, { hash := PyData.keyHash P (Str.ofString "mont_rows"), key := Value.str (Str.ofString "mont_rows") 454, val := Value.ref 184 }, { hash := PyData.keyHash P (Str.ofString "mul_school"), key := Value.str (Str.ofString "mul_school") 472, val := Value.ref 191 }, { hash := PyData.keyHash P (Str.ofString "_law_rolled"), key := Value.str (Str.ofString "_law_rolled") 482, val := Value.ref 198 }, { hash := PyData.keyHash P (Str.ofString "_law_limbs"), key := Value.str (Str.ofString "_law_limbs") 491, val := Value.ref 205 }, { hash := PyData.keyHash P (Str.ofString "_law_number"), key := Value.str (Str.ofString "_law_number") 497, val := Value.ref 210 }] 33 }
noncomputable def o182 (P : Params) : Obj := { cls := Value.none, data := Data.fields #[Value.int 2 0, Value.int 0 0, Value.ref 20, Value.int 4 0, Value.int 0 0, Value.ref 33, Value.int 6 0, Value.int 0 0, Value.ref 45, Value.int 8 0, Value.int 0 0, Value.ref 57, Value.int 13 0, Value.int 0 0, Value.ref 64, Value.int 15 0, Value.int 0 0, Value.ref 71, Value.int 22 0, Value.int 0 0, Value.ref 78, Value.int 31 0, Value.int 0 0, Value.ref 85, Value.int 33 0, Value.int 0 0, Value.ref 92, Value.int 46 0, Value.int 0 0, Value.ref 99, Value.int 56 0, Value.int 0 0, Value.ref 106, Value.int 63 0, Value.int 0 0, Value.ref 127, Value.int 66 0, Value.int 0 0, Value.ref 134, Value.int 76 0, Value.int 0 0, Value.ref 141, Value.int 88 0, Value.int 0 0, Value.ref 148, Value.int 90 0, Value.int 0 0, Value.ref 155, Value.int 99 0, Value.int 0 0, Value.ref 162, Value.int 103 0, Value.int 0 0, Value.ref 169, Value.int 105 0, Value.int 0 0, Value.ref 176, Value.int 107 0, Value.int 0 0, Value.ref 183, Value.int 117 0, Value.int 0 0, Value.ref 190, Value.int 128 0, Value.int 0 0, Value.ref 197, Value.int 133 0, Value.int 0 0, Value.ref 204, Value.int 139 0, Value.int 0 0, Value.ref 209] }
noncomputable def o183 (P : Params) : Obj := { cls := Value.type "tuple", data := Data.seq #[] }
noncomputable def o184 (P : Params) : Obj := { cls := Value.none, data := Data.fields #[] }
noncomputable def o185 (P : Params) : Obj := { cls := Value.type "tuple", data := Data.seq #[Value.str (Str.ofString "rest") 376, Value.str (Str.ofString "m") 377, Value.str (Str.ofString "limb") 378, Value.str (Str.ofString "at") 379, Value.str (Str.ofString "w") 380, Value.str (Str.ofString "carry") 381, Value.str (Str.ofString "mask") 382, Value.str (Str.ofString "one") 383] }
noncomputable def o186 (P : Params) : Obj := { cls := Value.type "tuple", data := Data.seq #[] }
noncomputable def o187 (P : Params) : Obj := { cls := Value.none, data := fnB <| fnD (fun x => x) (Value.none) (Value.none) (stmtAt 16) }
noncomputable def o188 (P : Params) : Obj := { cls := Value.type "code", data := Data.fields #[Value.str (Str.ofString "add_row") 373, Value.str (Str.ofString "add_row") 374, Value.str (Str.ofString "/claim/cut.py") 375, Value.int 76 0, Value.int 5 0, Value.int 0 0, Value.int 0 0, Value.int 3 0, Value.ref 136, Value.bool true, Value.int 181 0, Value.ref 137, Value.none, Value.ref 138, Value.ref 139, Value.ref 140, Value.int 384 0, Value.int 76 0, Value.str (Str.ofString "/claim/cut.py") 385] }
noncomputable def o189 (P : Params) : Obj := { cls := Value.type "function", data := fnD (fun x => x) (Value.str (Str.ofString "gmp.reduce") 315) (Value.ref 141) (stmtAt 16) }
noncomputable def o190 (P : Params) : Obj := { cls := Value.type "tuple", data := Data.seq #[] }
noncomputable def o191 (P : Params) : Obj := { cls := Value.none, data := Data.fields #[] }
noncomputable def o192 (P : Params) : Obj := { cls := Value.type "tuple", data := Data.seq #[Value.str (Str.ofString "a") 390, Value.str (Str.ofString "m") 391, Value.str (Str.ofString "w") 392] }
noncomputable def o193 (P : Params) : Obj := { cls := Value.type "tuple", data := Data.seq #[] }
noncomputable def o194 (P : Params) : Obj := { cls := Value.none, data := fnB <| fnD (fun x => x) (Value.none) (Value.none) (stmtAt 17) }
noncomputable def o195 (P : Params) : Obj := { cls := Value.type "code", data := Data.fields #[Value.str (Str.ofString "taken_once") 387, Value.str (Str.ofString "taken_once") 388, Value.str (Str.ofString "/claim/cut.py") 389, Value.int 88 0, Value.int 3 0, Value.int 0 0, Value.int 0 0, Value.int 3 0, Value.ref 143, Value.bool true, Value.int 181 0, Value.ref 144, Value.none, Value.ref 145, Value.ref 146, Value.ref 147, Value.int 393 0, Value.int 88 0, Value.str (Str.ofString "/claim/cut.py") 394] }
noncomputable def o196 (P : Params) : Obj := { cls := Value.type "function", data := fnD (fun x => x) (Value.str (Str.ofString "gmp.reduce") 315) (Value.ref 148) (stmtAt 17) }
noncomputable def o197 (P : Params) : Obj := { cls := Value.type "tuple", data := Data.seq #[] }
noncomputable def o198 (P : Params) : Obj := { cls := Value.none, data := Data.fields #[] }
noncomputable def o199 (P : Params) : Obj := { cls := Value.type "tuple", data := Data.seq #[Value.str (Str.ofString "a") 399, Value.str (Str.ofString "told") 400, Value.str (Str.ofString "w") 401, Value.str (Str.ofString "m") 402, Value.str (Str.ofString "size") 403, Value.str (Str.ofString "rest") 404, Value.str (Str.ofString "mask") 405, Value.str (Str.ofString "at") 406] }
noncomputable def o200 (P : Params) : Obj := { cls := Value.type "tuple", data := Data.seq #[] }
noncomputable def o201 (P : Params) : Obj := { cls := Value.none, data := fnB <| fnD (fun x => x) (Value.none) (Value.none) (stmtAt 18) }
noncomputable def o202 (P : Params) : Obj := { cls := Value.type "code", data := Data.fields #[Value.str (Str.ofString "redc") 396, Value.str (Str.ofString "redc") 397, Value.str (Str.ofString "/claim/cut.py") 398, Value.int 90 0, Value.int 3 0, Value.int 0 0, Value.int 0 0, Value.int 3 0, Value.ref 150, Value.bool true, Value.int 181 0, Value.ref 151, Value.none, Value.ref 152, Value.ref 153, Value.ref 154, Value.int 407 0, Value.int 90 0, Value.str (Str.ofString "/claim/cut.py") 408] }
noncomputable def o203 (P : Params) : Obj := { cls := Value.type "function", data := fnD (fun x => x) (Value.str (Str.ofString "gmp.reduce") 315) (Value.ref 155) (stmtAt 18) }
noncomputable def o204 (P : Params) : Obj := { cls := Value.type "tuple", data := Data.seq #[] }
noncomputable def o205 (P : Params) : Obj := { cls := Value.none, data := Data.fields #[] }
noncomputable def o206 (P : Params) : Obj := { cls := Value.type "tuple", data := Data.seq #[Value.str (Str.ofString "a") 413, Value.str (Str.ofString "told") 414, Value.str (Str.ofString "w") 415, Value.str (Str.ofString "mul") 416] }
noncomputable def o207 (P : Params) : Obj := { cls := Value.type "tuple", data := Data.seq #[] }
noncomputable def o208 (P : Params) : Obj := { cls := Value.none, data := fnB <| fnD (fun x => x) (Value.none) (Value.none) (stmtAt 19) }
noncomputable def o209 (P : Params) : Obj := { cls := Value.type "code", data := Data.fields #[Value.str (Str.ofString "to_mont") 410, Value.str (Str.ofString "to_mont") 411, Value.str (Str.ofString "/claim/cut.py") 412, Value.int 99 0, Value.int 4 0, Value.int 0 0, Value.int 0 0, Value.int 3 0, Value.ref 157, Value.bool true, Value.int 181 0, Value.ref 158, Value.none, Value.ref 159, Value.ref 160, Value.ref 161, Value.int 417 0, Value.int 99 0, Value.str (Str.ofString "/claim/cut.py") 418] }
noncomputable def o210 (P : Params) : Obj := { cls := Value.type "function", data := fnD (fun x => x) (Value.str (Str.ofString "gmp.reduce") 315) (Value.ref 162) (stmtAt 19) }
noncomputable def o211 (P : Params) : Obj := { cls := Value.type "tuple", data := Data.seq #[] }
noncomputable def o212 (P : Params) : Obj := { cls := Value.none, data := Data.fields #[] }
noncomputable def o213 (P : Params) : Obj := { cls := Value.type "tuple", data := Data.seq #[Value.str (Str.ofString "a") 423, Value.str (Str.ofString "told") 424, Value.str (Str.ofString "w") 425] }
noncomputable def o214 (P : Params) : Obj := { cls := Value.type "tuple", data := Data.seq #[] }
noncomputable def o215 (P : Params) : Obj := { cls := Value.none, data := fnB <| fnD (fun x => x) (Value.none) (Value.none) (stmtAt 20) }
noncomputable def o216 (P : Params) : Obj := { cls := Value.type "code", data := Data.fields #[Value.str (Str.ofString "from_mont") 420, Value.str (Str.ofString "from_mont") 421, Value.str (Str.ofString "/claim/cut.py") 422, Value.int 103 0, Value.int 3 0, Value.int 0 0, Value.int 0 0, Value.int 3 0, Value.ref 164, Value.bool true, Value.int 181 0, Value.ref 165, Value.none, Value.ref 166, Value.ref 167, Value.ref 168, Value.int 426 0, Value.int 103 0, Value.str (Str.ofString "/claim/cut.py") 427] }
noncomputable def o217 (P : Params) : Obj := { cls := Value.type "function", data := fnD (fun x => x) (Value.str (Str.ofString "gmp.reduce") 315) (Value.ref 169) (stmtAt 20) }
noncomputable def o218 (P : Params) : Obj := { cls := Value.type "tuple", data := Data.seq #[] }
noncomputable def o219 (P : Params) : Obj := { cls := Value.none, data := Data.fields #[] }
noncomputable def o220 (P : Params) : Obj := { cls := Value.type "tuple", data := Data.seq #[Value.str (Str.ofString "a") 432, Value.str (Str.ofString "b") 433, Value.str (Str.ofString "told") 434, Value.str (Str.ofString "w") 435, Value.str (Str.ofString "mul") 436] }
noncomputable def o221 (P : Params) : Obj := { cls := Value.type "tuple", data := Data.seq #[] }
noncomputable def o222 (P : Params) : Obj := { cls := Value.none, data := fnB <| fnD (fun x => x) (Value.none) (Value.none) (stmtAt 21) }
noncomputable def o223 (P : Params) : Obj := { cls := Value.type "code", data := Data.fields #[Value.str (Str.ofString "mont_mul") 429, Value.str (Str.ofString "mont_mul") 430, Value.str (Str.ofString "/claim/cut.py") 431, Value.int 105 0, Value.int 5 0, Value.int 0 0, Value.int 0 0, Value.int 3 0, Value.ref 171, Value.bool true, Value.int 181 0, Value.ref 172, Value.none, Value.ref 173, Value.ref 174, Value.ref 175, Value.int 437 0, Value.int 105 0, Value.str (Str.ofString "/claim/cut.py") 438] }
noncomputable def o224 (P : Params) : Obj := { cls := Value.type "function", data := fnD (fun x => x) (Value.str (Str.ofString "gmp.reduce") 315) (Value.ref 176) (stmtAt 21) }
noncomputable def o225 (P : Params) : Obj := { cls := Value.type "tuple", data := Data.seq #[] }
noncomputable def o226 (P : Params) : Obj := { cls := Value.none, data := Data.fields #[] }
noncomputable def o227 (P : Params) : Obj := { cls := Value.type "tuple", data := Data.seq #[Value.str (Str.ofString "a") 443, Value.str (Str.ofString "b") 444, Value.str (Str.ofString "told") 445, Value.str (Str.ofString "w") 446, Value.str (Str.ofString "m") 447, Value.str (Str.ofString "size") 448, Value.str (Str.ofString "mask") 449, Value.str (Str.ofString "rest") 450, Value.str (Str.ofString "at") 451] }
noncomputable def o228 (P : Params) : Obj := { cls := Value.type "tuple", data := Data.seq #[] }
noncomputable def o229 (P : Params) : Obj := { cls := Value.none, data := fnB <| fnD (fun x => x) (Value.none) (Value.none) (stmtAt 22) }
noncomputable def o230 (P : Params) : Obj := { cls := Value.type "code", data := Data.fields #[Value.str (Str.ofString "mont_rows") 440, Value.str (Str.ofString "mont_rows") 441, Value.str (Str.ofString "/claim/cut.py") 442, Value.int 107 0, Value.int 4 0, Value.int 0 0, Value.int 0 0, Value.int 3 0, Value.ref 178, Value.bool true, Value.int 181 0, Value.ref 179, Value.none, Value.ref 180, Value.ref 181, Value.ref 182, Value.int 452 0, Value.int 107 0, Value.str (Str.ofString "/claim/cut.py") 453] }
noncomputable def o231 (P : Params) : Obj := { cls := Value.type "function", data := fnD (fun x => x) (Value.str (Str.ofString "gmp.reduce") 315) (Value.ref 183) (stmtAt 22) }
noncomputable def o232 (P : Params) : Obj := { cls := Value.type "tuple", data := Data.seq #[] }
noncomputable def o233 (P : Params) : Obj := { cls := Value.none, data := Data.fields #[] }
noncomputable def o234 (P : Params) : Obj := { cls := Value.type "tuple", data := Data.seq #[Value.str (Str.ofString "a") 460, Value.str (Str.ofString "b") 461, Value.str (Str.ofString "w") 462, Value.str (Str.ofString "found") 463, Value.str (Str.ofString "mask") 464, Value.str (Str.ofString "at") 465, Value.str (Str.ofString "limb") 466, Value.str (Str.ofString "carry") 467, Value.str (Str.ofString "spot") 468, Value.str (Str.ofString "other") 469] }
noncomputable def o235 (P : Params) : Obj := { cls := Value.type "tuple", data := Data.seq #[] }
noncomputable def o236 (P : Params) : Obj := { cls := Value.none, data := fnB <| fnD (fun x => x) (Value.none) (Value.none) (stmtAt 24) }
noncomputable def o237 (P : Params) : Obj := { cls := Value.type "code", data := Data.fields #[Value.str (Str.ofString "mul_school") 457, Value.str (Str.ofString "mul_school") 458, Value.str (Str.ofString "/claim/cut.py") 459, Value.int 117 0, Value.int 3 0, Value.int 0 0, Value.int 0 0, Value.int 3 0, Value.ref 185, Value.bool true, Value.int 181 0, Value.ref 186, Value.none, Value.ref 187, Value.ref 188, Value.ref 189, Value.int 470 0, Value.int 117 0, Value.str (Str.ofString "/claim/cut.py") 471] }
noncomputable def o238 (P : Params) : Obj := { cls := Value.type "function", data := fnD (fun x => x) (Value.str (Str.ofString "gmp.school") 455) (Value.ref 190) (stmtAt 24) }
noncomputable def o239 (P : Params) : Obj := { cls := Value.type "tuple", data := Data.seq #[] }
noncomputable def o240 (P : Params) : Obj := { cls := Value.none, data := Data.fields #[] }
noncomputable def o241 (P : Params) : Obj := { cls := Value.type "tuple", data := Data.seq #[Value.str (Str.ofString "cup") 478, Value.str (Str.ofString "many") 479] }
noncomputable def o242 (P : Params) : Obj := { cls := Value.type "tuple", data := Data.seq #[] }
noncomputable def o243 (P : Params) : Obj := { cls := Value.none, data := fnB <| fnD (fun x => x) (Value.none) (Value.none) (stmtAt 26) }
noncomputable def o244 (P : Params) : Obj := { cls := Value.type "code", data := Data.fields #[Value.str (Str.ofString "_law_rolled") 475, Value.str (Str.ofString "_law_rolled") 476, Value.str (Str.ofString "/claim/cut.py") 477, Value.int 128 0, Value.int 2 0, Value.int 0 0, Value.int 0 0, Value.int 3 0, Value.ref 192, Value.bool true, Value.int 181 0, Value.ref 193, Value.none, Value.ref 194, Value.ref 195, Value.ref 196, Value.int 480 0, Value.int 128 0, Value.str (Str.ofString "/claim/cut.py") 481] }
noncomputable def o245 (P : Params) : Obj := { cls := Value.type "function", data := fnD (fun x => x) (Value.str (Str.ofString "law_sa0336_01") 473) (Value.ref 197) (stmtAt 26) }
noncomputable def o246 (P : Params) : Obj := { cls := Value.type "tuple", data := Data.seq #[] }
noncomputable def o247 (P : Params) : Obj := { cls := Value.none, data := Data.fields #[] }
noncomputable def o248 (P : Params) : Obj := { cls := Value.type "tuple", data := Data.seq #[Value.str (Str.ofString "number") 486, Value.str (Str.ofString "w") 487, Value.str (Str.ofString "found") 488] }
noncomputable def o249 (P : Params) : Obj := { cls := Value.type "tuple", data := Data.seq #[] }
noncomputable def o250 (P : Params) : Obj := { cls := Value.none, data := fnB <| fnD (fun x => x) (Value.none) (Value.none) (stmtAt 27) }
noncomputable def o251 (P : Params) : Obj := { cls := Value.type "code", data := Data.fields #[Value.str (Str.ofString "_law_limbs") 483, Value.str (Str.ofString "_law_limbs") 484, Value.str (Str.ofString "/claim/cut.py") 485, Value.int 133 0, Value.int 2 0, Value.int 0 0, Value.int 0 0, Value.int 3 0, Value.ref 199, Value.bool true, Value.int 181 0, Value.ref 200, Value.none, Value.ref 201, Value.ref 202, Value.ref 203, Value.int 489 0, Value.int 133 0, Value.str (Str.ofString "/claim/cut.py") 490] }
noncomputable def o252 (P : Params) : Obj := { cls := Value.type "function", data := fnD (fun x => x) (Value.str (Str.ofString "law_sa0336_01") 473) (Value.ref 204) (stmtAt 27) }
noncomputable def o253 (P : Params) : Obj := { cls := Value.type "tuple", data := Data.seq #[] }
noncomputable def o254 (P : Params) : Obj := { cls := Value.none, data := Data.fields #[] }
noncomputable def o255 (P : Params) : Obj := { cls := Value.none, data := fnB <| fnD (fun x => x) (Value.none) (Value.none) (stmtAt 28) }
noncomputable def o256 (P : Params) : Obj := { cls := Value.type "code", data := Data.fields #[Value.str (Str.ofString "_law_number") 492, Value.str (Str.ofString "_law_number") 493, Value.str (Str.ofString "/claim/cut.py") 494, Value.int 139 0, Value.int 2 0, Value.int 0 0, Value.int 0 0, Value.int 3 0, Value.ref 206, Value.bool true, Value.int 181 0, Value.ref 207, Value.none, Value.none, Value.none, Value.ref 208, Value.int 495 0, Value.int 139 0, Value.str (Str.ofString "/claim/cut.py") 496] }
noncomputable def o257 (P : Params) : Obj := { cls := Value.type "function", data := fnD (fun x => x) (Value.str (Str.ofString "law_sa0336_01") 473) (Value.ref 209) (stmtAt 28) }
noncomputable def o258 (P : Params) : Obj := { cls := Value.type "dict", data := Data.dict #[{ hash := PyData.keyHash P (Str.ofString "__name__"), key := Value.str (Str.ofString "__name__") 165, val := Value.str (Str.ofString "law_sa0336_01") 473 }, { hash := PyData.keyHash P (Str.ofString "__doc__"), key := Value.str (Str.ofString "__doc__") 166, val := Value.none }, { hash := PyData.keyHash P (Str.ofString "__package__"), key := Value.str (Str.ofString "__package__") 167, val := Value.none }, { hash := PyData.keyHash P (Str.ofString "__loader__"), key := Value.str (Str.ofString "__loader__") 168, val := Value.builtin "__main__.__loader__#opaque" }, { hash := PyData.keyHash P (Str.ofString "__spec__"), key := Value.str (Str.ofString "__spec__") 169, val := Value.none }, { hash := PyData.keyHash P (Str.ofString "__annotations__"), key := Value.str (Str.ofString "__annotations__") 170, val := Value.ref 6 }, { hash := PyData.keyHash P (Str.ofString "__builtins__"), key := Value.str (Str.ofString "__builtins__") 171, val := Value.ref 4 }, { hash := PyData.keyHash P (Str.ofString "__file__"), key := Value.str (Str.ofString "__file__") 173, val := Value.str (Str.ofString "/claim/cut.py") 172 }, { hash := PyData.keyHash P (Str.ofString "__cached__"), key := Value.str (Str.ofString "__cached__") 174, val := Value.none }, { hash := PyData.keyHash P (Str.ofString "GmpError"), key := Value.str (Str.ofString "GmpError") 208, val := Value.ref 24 }, { hash := PyData.keyHash P (Str.ofString "NoInverse"), key := Value.str (Str.ofString "NoInverse") 224, val := Value.ref 37 }, { hash := PyData.keyHash P (Str.ofString "OutOfRange"), key := Value.str (Str.ofString "OutOfRange") 240, val := Value.ref 49 }, { hash := PyData.keyHash P (Str.ofString "normal"), key := Value.str (Str.ofString "normal") 248, val := Value.ref 58 }, { hash := PyData.keyHash P (Str.ofString "is_even"), key := Value.str (Str.ofString "is_even") 255, val := Value.ref 65 }, { hash := PyData.keyHash P (Str.ofString "compare"), key := Value.str (Str.ofString "compare") 264, val := Value.ref 72 }, { hash := PyData.keyHash P (Str.ofString "sub"), key := Value.str (Str.ofString "sub") 278, val := Value.ref 79 }, { hash := PyData.keyHash P (Str.ofString "lifted"), key := Value.str (Str.ofString "lifted") 286, val := Value.ref 86 }, { hash := PyData.keyHash P (Str.ofString "shift_left"), key := Value.str (Str.ofString "shift_left") 301, val := Value.ref 93 }, { hash := PyData.keyHash P (Str.ofString "inverse_limb"), key := Value.str (Str.ofString "inverse_limb") 314, val := Value.ref 100 }, { hash := PyData.keyHash P (Str.ofString "Montgomery"), key := Value.str (Str.ofString "Montgomery") 351, val := Value.ref 117 }, { hash := PyData.keyHash P (Str.ofString "doubled_rest"), key := Value.str (Str.ofString "doubled_rest") 361, val := Value.ref 128 }, { hash := PyData.keyHash P (Str.ofString "mont_make"), key := Value.str (Str.ofString "mont_make") 372, val := Value.ref 135 }, { hash := PyData.keyHash P (Str.ofString "add_row"), key := Value.str (Str.ofString "add_row") 386, val := Value.ref 142 }, { hash := PyData.keyHash P (Str.ofString "taken_once"), key := Value.str (Str.ofString "taken_once") 395, val := Value.ref 149 }, { hash := PyData.keyHash P (Str.ofString "redc"), key := Value.str (Str.ofString "redc") 409, val := Value.ref 156 }, { hash := PyData.keyHash P (Str.ofString "to_mont"), key := Value.str (Str.ofString "to_mont") 419, val := Value.ref 163 }, { hash := PyData.keyHash P (Str.ofString "from_mont"), key := Value.str (Str.ofString "from_mont") 428, val := Value.ref 170 }, { hash := PyData.keyHash P (Str.ofString "mont_mul"), key := Value.str (Str.ofString "mont_mul") 439, val := Value.ref 177 }, { hash := PyData.keyHash P (Str.ofString "mont_rows"), key := Value.str (Str.ofString "mont_rows") 454, val := Value.ref 184 }, { hash := PyData.keyHash P (Str.ofString "mul_school"), key := Value.str (Str.ofString "mul_school") 472, val := Value.ref 191 }, { hash := PyData.keyHash P (Str.ofString "_law_rolled"), key := Value.str (Str.ofString "_law_rolled") 482, val := Value.ref 198 }, { hash := PyData.keyHash P (Str.ofString "_law_limbs"), key := Value.str (Str.ofString "_law_limbs") 491, val := Value.ref 205 }, { hash := PyData.keyHash P (Str.ofString "_law_number"), key := Value.str (Str.ofString "_law_number") 497, val := Value.ref 210 }, { hash := PyData.keyHash P (Str.ofString "_law_divisor"), key := Value.str (Str.ofString "_law_divisor") 505, val := Value.ref 217 }, { hash := PyData.keyHash P (Str.ofString "law"), key := Value.str (Str.ofString "law") 511, val := Value.ref 222 }] 35 }
noncomputable def o259 (P : Params) : Obj := { cls := Value.none, data := Data.fields #[Value.int 2 0, Value.int 0 0, Value.ref 20, Value.int 4 0, Value.int 0 0, Value.ref 33, Value.int 6 0, Value.int 0 0, Value.ref 45, Value.int 8 0, Value.int 0 0, Value.ref 57, Value.int 13 0, Value.int 0 0, Value.ref 64, Value.int 15 0, Value.int 0 0, Value.ref 71, Value.int 22 0, Value.int 0 0, Value.ref 78, Value.int 31 0, Value.int 0 0, Value.ref 85, Value.int 33 0, Value.int 0 0, Value.ref 92, Value.int 46 0, Value.int 0 0, Value.ref 99, Value.int 56 0, Value.int 0 0, Value.ref 106, Value.int 63 0, Value.int 0 0, Value.ref 127, Value.int 66 0, Value.int 0 0, Value.ref 134, Value.int 76 0, Value.int 0 0, Value.ref 141, Value.int 88 0, Value.int 0 0, Value.ref 148, Value.int 90 0, Value.int 0 0, Value.ref 155, Value.int 99 0, Value.int 0 0, Value.ref 162, Value.int 103 0, Value.int 0 0, Value.ref 169, Value.int 105 0, Value.int 0 0, Value.ref 176, Value.int 107 0, Value.int 0 0, Value.ref 183, Value.int 117 0, Value.int 0 0, Value.ref 190, Value.int 128 0, Value.int 0 0, Value.ref 197, Value.int 133 0, Value.int 0 0, Value.ref 204, Value.int 139 0, Value.int 0 0, Value.ref 209, Value.int 141 0, Value.int 0 0, Value.ref 216, Value.int 145 0, Value.int 0 0, Value.ref 221] }
noncomputable def o260 (P : Params) : Obj := { cls := Value.type "tuple", data := Data.seq #[] }
noncomputable def o261 (P : Params) : Obj := { cls := Value.none, data := Data.fields #[] }
noncomputable def o262 (P : Params) : Obj := { cls := Value.type "tuple", data := Data.seq #[Value.str (Str.ofString "one") 501, Value.str (Str.ofString "other") 502] }
noncomputable def o263 (P : Params) : Obj := { cls := Value.type "tuple", data := Data.seq #[] }
noncomputable def o264 (P : Params) : Obj := { cls := Value.none, data := fnB <| fnD (fun x => x) (Value.none) (Value.none) (stmtAt 29) }
noncomputable def o265 (P : Params) : Obj := { cls := Value.type "code", data := Data.fields #[Value.str (Str.ofString "_law_divisor") 498, Value.str (Str.ofString "_law_divisor") 499, Value.str (Str.ofString "/claim/cut.py") 500, Value.int 141 0, Value.int 2 0, Value.int 0 0, Value.int 0 0, Value.int 3 0, Value.ref 211, Value.bool true, Value.int 181 0, Value.ref 212, Value.none, Value.ref 213, Value.ref 214, Value.ref 215, Value.int 503 0, Value.int 141 0, Value.str (Str.ofString "/claim/cut.py") 504] }
noncomputable def o266 (P : Params) : Obj := { cls := Value.type "function", data := fnD (fun x => x) (Value.str (Str.ofString "law_sa0336_01") 473) (Value.ref 216) (stmtAt 29) }
noncomputable def o267 (P : Params) : Obj := { cls := Value.type "tuple", data := Data.seq #[] }
noncomputable def o268 (P : Params) : Obj := { cls := Value.none, data := Data.fields #[] }
noncomputable def o269 (P : Params) : Obj := { cls := Value.none, data := fnB <| fnD (fun x => x) (Value.none) (Value.none) (stmtAt 30) }
noncomputable def o270 (P : Params) : Obj := { cls := Value.type "code", data := Data.fields #[Value.str (Str.ofString "law") 506, Value.str (Str.ofString "law") 507, Value.str (Str.ofString "/claim/cut.py") 508, Value.int 145 0, Value.int 1 0, Value.int 0 0, Value.int 0 0, Value.int 3 0, Value.ref 218, Value.bool true, Value.int 181 0, Value.ref 219, Value.none, Value.none, Value.none, Value.ref 220, Value.int 509 0, Value.int 145 0, Value.str (Str.ofString "/claim/cut.py") 510] }
noncomputable def o271 (P : Params) : Obj := { cls := Value.type "function", data := fnD (fun x => x) (Value.str (Str.ofString "law_sa0336_01") 473) (Value.ref 221) (stmtAt 30) }
noncomputable def hT0 (P : Params) : BT := .node (boot_o_0 P) (.node (boot_o_1 P) (.node (boot_o_3 P) (.node (boot_o_7 P) .nil .nil) (.node (o43 P) .nil .nil)) (.node (boot_o_5 P) (.node (boot_o_9 P) .nil .nil) (.node (o45 P) .nil .nil))) (.node (boot_o_2 P) (.node (boot_o_4 P) (.node (boot_o_8 P) .nil .nil) (.node (o44 P) .nil .nil)) (.node (boot_o_6 P) (.node (boot_o_10 P) .nil .nil) (.node (o46 P) .nil .nil)))
noncomputable def hT1 (P : Params) : BT := .node (boot_o_0 P) (.node (boot_o_1 P) (.node (o50 P) (.node (boot_o_7 P) (.node (o52 P) .nil .nil) (.node (o60 P) .nil .nil)) (.node (o43 P) (.node (o56 P) .nil .nil) (.node (o64 P) .nil .nil))) (.node (boot_o_5 P) (.node (boot_o_9 P) (.node (o54 P) .nil .nil) (.node (o62 P) .nil .nil)) (.node (o45 P) (.node (o58 P) .nil .nil) .nil))) (.node (o49 P) (.node (boot_o_4 P) (.node (boot_o_8 P) (.node (o53 P) .nil .nil) (.node (o61 P) .nil .nil)) (.node (o51 P) (.node (o57 P) .nil .nil) .nil)) (.node (boot_o_6 P) (.node (boot_o_10 P) (.node (o55 P) .nil .nil) (.node (o63 P) .nil .nil)) (.node (o46 P) (.node (o59 P) .nil .nil) .nil)))
noncomputable def hT2 (P : Params) : BT := .node (boot_o_0 P) (.node (boot_o_1 P) (.node (o65 P) (.node (boot_o_7 P) (.node (o52 P) (.node (o71 P) .nil .nil) .nil) (.node (o60 P) (.node (o79 P) .nil .nil) .nil)) (.node (o43 P) (.node (o56 P) (.node (o75 P) .nil .nil) .nil) (.node (o64 P) .nil .nil))) (.node (boot_o_5 P) (.node (boot_o_9 P) (.node (o54 P) (.node (o73 P) .nil .nil) .nil) (.node (o62 P) .nil .nil)) (.node (o45 P) (.node (o58 P) (.node (o77 P) .nil .nil) .nil) (.node (o69 P) .nil .nil)))) (.node (o49 P) (.node (boot_o_4 P) (.node (boot_o_8 P) (.node (o53 P) (.node (o72 P) .nil .nil) .nil) (.node (o67 P) .nil .nil)) (.node (o66 P) (.node (o57 P) (.node (o76 P) .nil .nil) .nil) (.node (o68 P) .nil .nil))) (.node (boot_o_6 P) (.node (boot_o_10 P) (.node (o55 P) (.node (o74 P) .nil .nil) .nil) (.node (o63 P) .nil .nil)) (.node (o46 P) (.node (o59 P) (.node (o78 P) .nil .nil) .nil) (.node (o70 P) .nil .nil))))
noncomputable def hT3 (P : Params) : BT := .node (boot_o_0 P) (.node (boot_o_1 P) (.node (o80 P) (.node (boot_o_7 P) (.node (o52 P) (.node (o71 P) (.node (o106 P) .nil .nil) .nil) (.node (o90 P) (.node (o122 P) .nil .nil) .nil)) (.node (o60 P) (.node (o79 P) (.node (o114 P) .nil .nil) .nil) (.node (o98 P) .nil .nil))) (.node (o43 P) (.node (o56 P) (.node (o75 P) (.node (o110 P) .nil .nil) .nil) (.node (o94 P) (.node (o126 P) .nil .nil) .nil)) (.node (o64 P) (.node (o86 P) (.node (o118 P) .nil .nil) .nil) (.node (o102 P) .nil .nil)))) (.node (boot_o_5 P) (.node (boot_o_9 P) (.node (o54 P) (.node (o73 P) (.node (o108 P) .nil .nil) .nil) (.node (o92 P) (.node (o124 P) .nil .nil) .nil)) (.node (o62 P) (.node (o84 P) (.node (o116 P) .nil .nil) .nil) (.node (o100 P) .nil .nil))) (.node (o45 P) (.node (o58 P) (.node (o77 P) (.node (o112 P) .nil .nil) .nil) (.node (o96 P) (.node (o128 P) .nil .nil) .nil)) (.node (o69 P) (.node (o88 P) (.node (o120 P) .nil .nil) .nil) (.node (o104 P) .nil .nil))))) (.node (o49 P) (.node (boot_o_4 P) (.node (boot_o_8 P) (.node (o53 P) (.node (o72 P) (.node (o107 P) .nil .nil) .nil) (.node (o91 P) (.node (o123 P) .nil .nil) .nil)) (.node (o82 P) (.node (o83 P) (.node (o115 P) .nil .nil) .nil) (.node (o99 P) .nil .nil))) (.node (o81 P) (.node (o57 P) (.node (o76 P) (.node (o111 P) .nil .nil) .nil) (.node (o95 P) (.node (o127 P) .nil .nil) .nil)) (.node (o68 P) (.node (o87 P) (.node (o119 P) .nil .nil) .nil) (.node (o103 P) .nil .nil)))) (.node (boot_o_6 P) (.node (boot_o_10 P) (.node (o55 P) (.node (o74 P) (.node (o109 P) .nil .nil) .nil) (.node (o93 P) (.node (o125 P) .nil .nil) .nil)) (.node (o63 P) (.node (o85 P) (.node (o117 P) .nil .nil) .nil) (.node (o101 P) .nil .nil))) (.node (o46 P) (.node (o59 P) (.node (o78 P) (.node (o113 P) .nil .nil) .nil) (.node (o97 P) (.node (o129 P) .nil .nil) .nil)) (.node (o70 P) (.node (o89 P) (.node (o121 P) .nil .nil) .nil) (.node (o105 P) .nil .nil)))))
noncomputable def hT4 (P : Params) : BT := .node (boot_o_0 P) (.node (boot_o_1 P) (.node (o130 P) (.node (boot_o_7 P) (.node (o52 P) (.node (o71 P) (.node (o106 P) (.node (o172 P) .nil .nil) .nil) (.node (o140 P) .nil .nil)) (.node (o90 P) (.node (o122 P) .nil .nil) (.node (o156 P) .nil .nil))) (.node (o60 P) (.node (o79 P) (.node (o114 P) (.node (o180 P) .nil .nil) .nil) (.node (o148 P) .nil .nil)) (.node (o98 P) (.node (o132 P) .nil .nil) (.node (o164 P) .nil .nil)))) (.node (o43 P) (.node (o56 P) (.node (o75 P) (.node (o110 P) (.node (o176 P) .nil .nil) .nil) (.node (o144 P) .nil .nil)) (.node (o94 P) (.node (o126 P) .nil .nil) (.node (o160 P) .nil .nil))) (.node (o64 P) (.node (o86 P) (.node (o118 P) .nil .nil) (.node (o152 P) .nil .nil)) (.node (o102 P) (.node (o136 P) .nil .nil) (.node (o168 P) .nil .nil))))) (.node (boot_o_5 P) (.node (boot_o_9 P) (.node (o54 P) (.node (o73 P) (.node (o108 P) (.node (o174 P) .nil .nil) .nil) (.node (o142 P) .nil .nil)) (.node (o92 P) (.node (o124 P) .nil .nil) (.node (o158 P) .nil .nil))) (.node (o62 P) (.node (o84 P) (.node (o116 P) .nil .nil) (.node (o150 P) .nil .nil)) (.node (o100 P) (.node (o134 P) .nil .nil) (.node (o166 P) .nil .nil)))) (.node (o45 P) (.node (o58 P) (.node (o77 P) (.node (o112 P) (.node (o178 P) .nil .nil) .nil) (.node (o146 P) .nil .nil)) (.node (o96 P) (.node (o128 P) .nil .nil) (.node (o162 P) .nil .nil))) (.node (o69 P) (.node (o88 P) (.node (o120 P) .nil .nil) (.node (o154 P) .nil .nil)) (.node (o104 P) (.node (o138 P) .nil .nil) (.node (o170 P) .nil .nil)))))) (.node (o49 P) (.node (boot_o_4 P) (.node (boot_o_8 P) (.node (o53 P) (.node (o72 P) (.node (o107 P) (.node (o173 P) .nil .nil) .nil) (.node (o141 P) .nil .nil)) (.node (o91 P) (.node (o123 P) .nil .nil) (.node (o157 P) .nil .nil))) (.node (o82 P) (.node (o83 P) (.node (o115 P) .nil .nil) (.node (o149 P) .nil .nil)) (.node (o99 P) (.node (o133 P) .nil .nil) (.node (o165 P) .nil .nil)))) (.node (o131 P) (.node (o57 P) (.node (o76 P) (.node (o111 P) (.node (o177 P) .nil .nil) .nil) (.node (o145 P) .nil .nil)) (.node (o95 P) (.node (o127 P) .nil .nil) (.node (o161 P) .nil .nil))) (.node (o68 P) (.node (o87 P) (.node (o119 P) .nil .nil) (.node (o153 P) .nil .nil)) (.node (o103 P) (.node (o137 P) .nil .nil) (.node (o169 P) .nil .nil))))) (.node (boot_o_6 P) (.node (boot_o_10 P) (.node (o55 P) (.node (o74 P) (.node (o109 P) (.node (o175 P) .nil .nil) .nil) (.node (o143 P) .nil .nil)) (.node (o93 P) (.node (o125 P) .nil .nil) (.node (o159 P) .nil .nil))) (.node (o63 P) (.node (o85 P) (.node (o117 P) .nil .nil) (.node (o151 P) .nil .nil)) (.node (o101 P) (.node (o135 P) .nil .nil) (.node (o167 P) .nil .nil)))) (.node (o46 P) (.node (o59 P) (.node (o78 P) (.node (o113 P) (.node (o179 P) .nil .nil) .nil) (.node (o147 P) .nil .nil)) (.node (o97 P) (.node (o129 P) .nil .nil) (.node (o163 P) .nil .nil))) (.node (o70 P) (.node (o89 P) (.node (o121 P) .nil .nil) (.node (o155 P) .nil .nil)) (.node (o105 P) (.node (o139 P) .nil .nil) (.node (o171 P) .nil .nil))))))
noncomputable def hT5 (P : Params) : BT := .node (boot_o_0 P) (.node (boot_o_1 P) (.node (o181 P) (.node (boot_o_7 P) (.node (o52 P) (.node (o71 P) (.node (o106 P) (.node (o172 P) .nil .nil) (.node (o238 P) .nil .nil)) (.node (o140 P) (.node (o206 P) .nil .nil) .nil)) (.node (o90 P) (.node (o122 P) (.node (o190 P) .nil .nil) (.node (o254 P) .nil .nil)) (.node (o156 P) (.node (o222 P) .nil .nil) .nil))) (.node (o60 P) (.node (o79 P) (.node (o114 P) (.node (o180 P) .nil .nil) (.node (o246 P) .nil .nil)) (.node (o148 P) (.node (o214 P) .nil .nil) .nil)) (.node (o98 P) (.node (o132 P) (.node (o198 P) .nil .nil) .nil) (.node (o164 P) (.node (o230 P) .nil .nil) .nil)))) (.node (o43 P) (.node (o56 P) (.node (o75 P) (.node (o110 P) (.node (o176 P) .nil .nil) (.node (o242 P) .nil .nil)) (.node (o144 P) (.node (o210 P) .nil .nil) .nil)) (.node (o94 P) (.node (o126 P) (.node (o194 P) .nil .nil) .nil) (.node (o160 P) (.node (o226 P) .nil .nil) .nil))) (.node (o64 P) (.node (o86 P) (.node (o118 P) (.node (o186 P) .nil .nil) (.node (o250 P) .nil .nil)) (.node (o152 P) (.node (o218 P) .nil .nil) .nil)) (.node (o102 P) (.node (o136 P) (.node (o202 P) .nil .nil) .nil) (.node (o168 P) (.node (o234 P) .nil .nil) .nil))))) (.node (boot_o_5 P) (.node (boot_o_9 P) (.node (o54 P) (.node (o73 P) (.node (o108 P) (.node (o174 P) .nil .nil) (.node (o240 P) .nil .nil)) (.node (o142 P) (.node (o208 P) .nil .nil) .nil)) (.node (o92 P) (.node (o124 P) (.node (o192 P) .nil .nil) (.node (o256 P) .nil .nil)) (.node (o158 P) (.node (o224 P) .nil .nil) .nil))) (.node (o62 P) (.node (o84 P) (.node (o116 P) (.node (o184 P) .nil .nil) (.node (o248 P) .nil .nil)) (.node (o150 P) (.node (o216 P) .nil .nil) .nil)) (.node (o100 P) (.node (o134 P) (.node (o200 P) .nil .nil) .nil) (.node (o166 P) (.node (o232 P) .nil .nil) .nil)))) (.node (o45 P) (.node (o58 P) (.node (o77 P) (.node (o112 P) (.node (o178 P) .nil .nil) (.node (o244 P) .nil .nil)) (.node (o146 P) (.node (o212 P) .nil .nil) .nil)) (.node (o96 P) (.node (o128 P) (.node (o196 P) .nil .nil) .nil) (.node (o162 P) (.node (o228 P) .nil .nil) .nil))) (.node (o69 P) (.node (o88 P) (.node (o120 P) (.node (o188 P) .nil .nil) (.node (o252 P) .nil .nil)) (.node (o154 P) (.node (o220 P) .nil .nil) .nil)) (.node (o104 P) (.node (o138 P) (.node (o204 P) .nil .nil) .nil) (.node (o170 P) (.node (o236 P) .nil .nil) .nil)))))) (.node (o49 P) (.node (boot_o_4 P) (.node (boot_o_8 P) (.node (o53 P) (.node (o72 P) (.node (o107 P) (.node (o173 P) .nil .nil) (.node (o239 P) .nil .nil)) (.node (o141 P) (.node (o207 P) .nil .nil) .nil)) (.node (o91 P) (.node (o123 P) (.node (o191 P) .nil .nil) (.node (o255 P) .nil .nil)) (.node (o157 P) (.node (o223 P) .nil .nil) .nil))) (.node (o82 P) (.node (o83 P) (.node (o115 P) (.node (o183 P) .nil .nil) (.node (o247 P) .nil .nil)) (.node (o149 P) (.node (o215 P) .nil .nil) .nil)) (.node (o99 P) (.node (o133 P) (.node (o199 P) .nil .nil) .nil) (.node (o165 P) (.node (o231 P) .nil .nil) .nil)))) (.node (o182 P) (.node (o57 P) (.node (o76 P) (.node (o111 P) (.node (o177 P) .nil .nil) (.node (o243 P) .nil .nil)) (.node (o145 P) (.node (o211 P) .nil .nil) .nil)) (.node (o95 P) (.node (o127 P) (.node (o195 P) .nil .nil) .nil) (.node (o161 P) (.node (o227 P) .nil .nil) .nil))) (.node (o68 P) (.node (o87 P) (.node (o119 P) (.node (o187 P) .nil .nil) (.node (o251 P) .nil .nil)) (.node (o153 P) (.node (o219 P) .nil .nil) .nil)) (.node (o103 P) (.node (o137 P) (.node (o203 P) .nil .nil) .nil) (.node (o169 P) (.node (o235 P) .nil .nil) .nil))))) (.node (boot_o_6 P) (.node (boot_o_10 P) (.node (o55 P) (.node (o74 P) (.node (o109 P) (.node (o175 P) .nil .nil) (.node (o241 P) .nil .nil)) (.node (o143 P) (.node (o209 P) .nil .nil) .nil)) (.node (o93 P) (.node (o125 P) (.node (o193 P) .nil .nil) (.node (o257 P) .nil .nil)) (.node (o159 P) (.node (o225 P) .nil .nil) .nil))) (.node (o63 P) (.node (o85 P) (.node (o117 P) (.node (o185 P) .nil .nil) (.node (o249 P) .nil .nil)) (.node (o151 P) (.node (o217 P) .nil .nil) .nil)) (.node (o101 P) (.node (o135 P) (.node (o201 P) .nil .nil) .nil) (.node (o167 P) (.node (o233 P) .nil .nil) .nil)))) (.node (o46 P) (.node (o59 P) (.node (o78 P) (.node (o113 P) (.node (o179 P) .nil .nil) (.node (o245 P) .nil .nil)) (.node (o147 P) (.node (o213 P) .nil .nil) .nil)) (.node (o97 P) (.node (o129 P) (.node (o197 P) .nil .nil) .nil) (.node (o163 P) (.node (o229 P) .nil .nil) .nil))) (.node (o70 P) (.node (o89 P) (.node (o121 P) (.node (o189 P) .nil .nil) (.node (o253 P) .nil .nil)) (.node (o155 P) (.node (o221 P) .nil .nil) .nil)) (.node (o105 P) (.node (o139 P) (.node (o205 P) .nil .nil) .nil) (.node (o171 P) (.node (o237 P) .nil .nil) .nil))))))
noncomputable def hT6 (P : Params) : BT := .node (boot_o_0 P) (.node (boot_o_1 P) (.node (o258 P) (.node (boot_o_7 P) (.node (o52 P) (.node (o71 P) (.node (o106 P) (.node (o172 P) .nil .nil) (.node (o238 P) .nil .nil)) (.node (o140 P) (.node (o206 P) .nil .nil) .nil)) (.node (o90 P) (.node (o122 P) (.node (o190 P) .nil .nil) (.node (o254 P) .nil .nil)) (.node (o156 P) (.node (o222 P) .nil .nil) .nil))) (.node (o60 P) (.node (o79 P) (.node (o114 P) (.node (o180 P) .nil .nil) (.node (o246 P) .nil .nil)) (.node (o148 P) (.node (o214 P) .nil .nil) .nil)) (.node (o98 P) (.node (o132 P) (.node (o198 P) .nil .nil) (.node (o264 P) .nil .nil)) (.node (o164 P) (.node (o230 P) .nil .nil) .nil)))) (.node (o43 P) (.node (o56 P) (.node (o75 P) (.node (o110 P) (.node (o176 P) .nil .nil) (.node (o242 P) .nil .nil)) (.node (o144 P) (.node (o210 P) .nil .nil) .nil)) (.node (o94 P) (.node (o126 P) (.node (o194 P) .nil .nil) (.node (o260 P) .nil .nil)) (.node (o160 P) (.node (o226 P) .nil .nil) .nil))) (.node (o64 P) (.node (o86 P) (.node (o118 P) (.node (o186 P) .nil .nil) (.node (o250 P) .nil .nil)) (.node (o152 P) (.node (o218 P) .nil .nil) .nil)) (.node (o102 P) (.node (o136 P) (.node (o202 P) .nil .nil) (.node (o268 P) .nil .nil)) (.node (o168 P) (.node (o234 P) .nil .nil) .nil))))) (.node (boot_o_5 P) (.node (boot_o_9 P) (.node (o54 P) (.node (o73 P) (.node (o108 P) (.node (o174 P) .nil .nil) (.node (o240 P) .nil .nil)) (.node (o142 P) (.node (o208 P) .nil .nil) .nil)) (.node (o92 P) (.node (o124 P) (.node (o192 P) .nil .nil) (.node (o256 P) .nil .nil)) (.node (o158 P) (.node (o224 P) .nil .nil) .nil))) (.node (o62 P) (.node (o84 P) (.node (o116 P) (.node (o184 P) .nil .nil) (.node (o248 P) .nil .nil)) (.node (o150 P) (.node (o216 P) .nil .nil) .nil)) (.node (o100 P) (.node (o134 P) (.node (o200 P) .nil .nil) (.node (o266 P) .nil .nil)) (.node (o166 P) (.node (o232 P) .nil .nil) .nil)))) (.node (o45 P) (.node (o58 P) (.node (o77 P) (.node (o112 P) (.node (o178 P) .nil .nil) (.node (o244 P) .nil .nil)) (.node (o146 P) (.node (o212 P) .nil .nil) .nil)) (.node (o96 P) (.node (o128 P) (.node (o196 P) .nil .nil) (.node (o262 P) .nil .nil)) (.node (o162 P) (.node (o228 P) .nil .nil) .nil))) (.node (o69 P) (.node (o88 P) (.node (o120 P) (.node (o188 P) .nil .nil) (.node (o252 P) .nil .nil)) (.node (o154 P) (.node (o220 P) .nil .nil) .nil)) (.node (o104 P) (.node (o138 P) (.node (o204 P) .nil .nil) (.node (o270 P) .nil .nil)) (.node (o170 P) (.node (o236 P) .nil .nil) .nil)))))) (.node (o49 P) (.node (boot_o_4 P) (.node (boot_o_8 P) (.node (o53 P) (.node (o72 P) (.node (o107 P) (.node (o173 P) .nil .nil) (.node (o239 P) .nil .nil)) (.node (o141 P) (.node (o207 P) .nil .nil) .nil)) (.node (o91 P) (.node (o123 P) (.node (o191 P) .nil .nil) (.node (o255 P) .nil .nil)) (.node (o157 P) (.node (o223 P) .nil .nil) .nil))) (.node (o82 P) (.node (o83 P) (.node (o115 P) (.node (o183 P) .nil .nil) (.node (o247 P) .nil .nil)) (.node (o149 P) (.node (o215 P) .nil .nil) .nil)) (.node (o99 P) (.node (o133 P) (.node (o199 P) .nil .nil) (.node (o265 P) .nil .nil)) (.node (o165 P) (.node (o231 P) .nil .nil) .nil)))) (.node (o259 P) (.node (o57 P) (.node (o76 P) (.node (o111 P) (.node (o177 P) .nil .nil) (.node (o243 P) .nil .nil)) (.node (o145 P) (.node (o211 P) .nil .nil) .nil)) (.node (o95 P) (.node (o127 P) (.node (o195 P) .nil .nil) (.node (o261 P) .nil .nil)) (.node (o161 P) (.node (o227 P) .nil .nil) .nil))) (.node (o68 P) (.node (o87 P) (.node (o119 P) (.node (o187 P) .nil .nil) (.node (o251 P) .nil .nil)) (.node (o153 P) (.node (o219 P) .nil .nil) .nil)) (.node (o103 P) (.node (o137 P) (.node (o203 P) .nil .nil) (.node (o269 P) .nil .nil)) (.node (o169 P) (.node (o235 P) .nil .nil) .nil))))) (.node (boot_o_6 P) (.node (boot_o_10 P) (.node (o55 P) (.node (o74 P) (.node (o109 P) (.node (o175 P) .nil .nil) (.node (o241 P) .nil .nil)) (.node (o143 P) (.node (o209 P) .nil .nil) .nil)) (.node (o93 P) (.node (o125 P) (.node (o193 P) .nil .nil) (.node (o257 P) .nil .nil)) (.node (o159 P) (.node (o225 P) .nil .nil) .nil))) (.node (o63 P) (.node (o85 P) (.node (o117 P) (.node (o185 P) .nil .nil) (.node (o249 P) .nil .nil)) (.node (o151 P) (.node (o217 P) .nil .nil) .nil)) (.node (o101 P) (.node (o135 P) (.node (o201 P) .nil .nil) (.node (o267 P) .nil .nil)) (.node (o167 P) (.node (o233 P) .nil .nil) .nil)))) (.node (o46 P) (.node (o59 P) (.node (o78 P) (.node (o113 P) (.node (o179 P) .nil .nil) (.node (o245 P) .nil .nil)) (.node (o147 P) (.node (o213 P) .nil .nil) .nil)) (.node (o97 P) (.node (o129 P) (.node (o197 P) .nil .nil) (.node (o263 P) .nil .nil)) (.node (o163 P) (.node (o229 P) .nil .nil) .nil))) (.node (o70 P) (.node (o89 P) (.node (o121 P) (.node (o189 P) .nil .nil) (.node (o253 P) .nil .nil)) (.node (o155 P) (.node (o221 P) .nil .nil) .nil)) (.node (o105 P) (.node (o139 P) (.node (o205 P) .nil .nil) (.node (o271 P) .nil .nil)) (.node (o171 P) (.node (o237 P) .nil .nil) .nil))))))
noncomputable def hH0 (P : Params) : Heap := { objs := { toList := [boot_o_0 P, boot_o_1 P, boot_o_2 P, boot_o_3 P, boot_o_4 P, boot_o_5 P, boot_o_6 P, boot_o_7 P, boot_o_8 P, boot_o_9 P, boot_o_10 P, o43 P, o44 P, o45 P, o46 P] } }
noncomputable def hH1 (P : Params) : Heap := { objs := { toList := [boot_o_0 P, boot_o_1 P, o49 P, o258 P, boot_o_4 P, boot_o_5 P, boot_o_6 P, boot_o_7 P, boot_o_8 P, boot_o_9 P, boot_o_10 P, o43 P, o259 P, o45 P, o46 P, o52 P, o53 P, o54 P, o55 P, o56 P, o57 P, o58 P, o59 P, o60 P, o82 P, o62 P, o63 P, o64 P, o68 P, o69 P, o70 P, o71 P, o72 P, o73 P, o74 P, o75 P, o76 P, o77 P, o78 P, o79 P, o83 P, o84 P, o85 P, o86 P, o87 P, o88 P, o89 P, o90 P, o91 P, o92 P, o93 P, o94 P, o95 P, o96 P, o97 P, o98 P, o99 P, o100 P, o101 P, o102 P, o103 P, o104 P, o105 P, o106 P, o107 P, o108 P, o109 P, o110 P, o111 P, o112 P, o113 P, o114 P, o115 P, o116 P, o117 P, o118 P, o119 P, o120 P, o121 P, o122 P, o123 P, o124 P, o125 P, o126 P, o127 P, o128 P, o129 P, o132 P, o133 P, o134 P, o135 P, o136 P, o137 P, o138 P, o139 P, o140 P, o141 P, o142 P, o143 P, o144 P, o145 P, o146 P, o147 P, o148 P, o149 P, o150 P, o151 P, o152 P, o153 P, o154 P, o155 P, o156 P, o157 P, o158 P, o159 P, o160 P, o161 P, o162 P, o163 P, o164 P, o165 P, o166 P, o167 P, o168 P, o169 P, o170 P, o171 P, o172 P, o173 P, o174 P, o175 P, o176 P, o177 P, o178 P, o179 P, o180 P, o183 P, o184 P, o185 P, o186 P, o187 P, o188 P, o189 P, o190 P, o191 P, o192 P, o193 P, o194 P, o195 P, o196 P, o197 P, o198 P, o199 P, o200 P, o201 P, o202 P, o203 P, o204 P, o205 P, o206 P, o207 P, o208 P, o209 P, o210 P, o211 P, o212 P, o213 P, o214 P, o215 P, o216 P, o217 P, o218 P, o219 P, o220 P, o221 P, o222 P, o223 P, o224 P, o225 P, o226 P, o227 P, o228 P, o229 P, o230 P, o231 P, o232 P, o233 P, o234 P, o235 P, o236 P, o237 P, o238 P, o239 P, o240 P, o241 P, o242 P, o243 P, o244 P, o245 P, o246 P, o247 P, o248 P, o249 P, o250 P, o251 P, o252 P, o253 P, o254 P, o255 P, o256 P, o257 P, o260 P, o261 P, o262 P, o263 P, o264 P, o265 P, o266 P, o267 P, o268 P, o269 P, o270 P, o271 P] } }
noncomputable def hS1 : List Stmt := (pg.main.body.drop 0).take 2
noncomputable def hS2 : List Stmt := (pg.main.body.drop 2).take 1
noncomputable def hS3 : List Stmt := (pg.main.body.drop 3).take 6
noncomputable def hS4 : List Stmt := (pg.main.body.drop 9).take 7
noncomputable def hS5 : List Stmt := (pg.main.body.drop 16).take 13
noncomputable def hS6 : List Stmt := (pg.main.body.drop 29).take 2
theorem head_p1 (w : World) (os : OsState) : segRunT treeTable pg w 11 (some (.ref 6)) 1 206 (stT (hT0 w.params) 15 187 os) (piecesOf hS1 hEnv hCode ⟨0, 0, 0, 0⟩ [topFrame p0]) = some (.next, stT (hT1 w.params) 28 209 os, hCode, ⟨2, 0, 3, 8⟩) := by
  rw [PySem.W.Fast.te10110043849684766642, PySem.W.Fast.te14364793385576792824]; kernel_rfl
theorem head_p2 (w : World) (os : OsState) : segRunT treeTable pg w 11 (some (.ref 6)) 1 214 (stT (hT1 w.params) 28 209 os) (piecesOf hS2 hEnv hCode ⟨2, 0, 3, 8⟩ [topFrame p0]) = some (.next, stT (hT2 w.params) 40 225 os, hCode, ⟨4, 0, 5, 8⟩) := by
  rw [PySem.W.Fast.te10110043849684766642, PySem.W.Fast.te14364793385576792824]; kernel_rfl
theorem head_p3 (w : World) (os : OsState) : segRunT treeTable pg w 11 (some (.ref 6)) 1 370 (stT (hT2 w.params) 40 225 os) (piecesOf hS3 hEnv hCode ⟨4, 0, 5, 8⟩ [topFrame p0]) = some (.next, stT (hT3 w.params) 87 287 os, hCode, ⟨31, 0, 32, 47⟩) := by
  rw [PySem.W.Fast.te10110043849684766642, PySem.W.Fast.te14364793385576792824]; kernel_rfl
theorem head_p4 (w : World) (os : OsState) : segRunT treeTable pg w 11 (some (.ref 6)) 1 382 (stT (hT3 w.params) 87 287 os) (piecesOf hS4 hEnv hCode ⟨31, 0, 32, 47⟩ [topFrame p0]) = some (.next, stT (hT4 w.params) 136 373 os, hCode, ⟨66, 0, 75, 76⟩) := by
  rw [PySem.W.Fast.te10110043849684766642, PySem.W.Fast.te14364793385576792824]; kernel_rfl
theorem head_p5 (w : World) (os : OsState) : segRunT treeTable pg w 11 (some (.ref 6)) 1 380 (stT (hT4 w.params) 136 373 os) (piecesOf hS5 hEnv hCode ⟨66, 0, 75, 76⟩ [topFrame p0]) = some (.next, stT (hT5 w.params) 211 498 os, hCode, ⟨139, 0, 140, 69⟩) := by
  rw [PySem.W.Fast.te10110043849684766642, PySem.W.Fast.te14364793385576792824]; kernel_rfl
theorem head_p6 (w : World) (os : OsState) : segRunT treeTable pg w 11 (some (.ref 6)) 1 57 (stT (hT5 w.params) 211 498 os) (piecesOf hS6 hEnv hCode ⟨139, 0, 140, 69⟩ [topFrame p0]) = some (.next, stT (hT6 w.params) 223 512 os, hCode, ⟨145, 0, 178, 74⟩) := by
  rw [PySem.W.Fast.te10110043849684766642, PySem.W.Fast.te14364793385576792824]; kernel_rfl
theorem head_pre (w : World) (os : OsState) : topGo treeTable pg w 11 (some (.ref 6)) 12 ⟨boot_heap w.params, ⟨[]⟩, boot_drawn, boot_toks, os⟩ (topStub pg) = some (stH (hH0 w.params) 187 os, ⟨denote treeTable hCode, hCode, p0, [topFrame p0]⟩) := by
  rw [PySem.W.Fast.te15667345088766844465, PySem.W.Fast.te11892475500146522536, PySem.W.Fast.te14364793385576792824]; kernel_rfl
theorem head_block (w : World) (os : OsState) : segRun treeTable pg w 11 (some (.ref 6)) 1 1 (stH (hH0 w.params) 187 os) (blockOf (behindTheImports pg) hEnv hCode p0 [topFrame p0]) = some (.next, (stT (hT0 w.params) 15 187 os).abs, hCode, p0) := by
  rw [PySem.W.Fast.te14374325043358763698, PySem.W.Fast.te14364793385576792824]; kernel_rfl
theorem head_fin (w : World) (os : OsState) : topRun treeTable pg w 11 (some (.ref 6)) 2 (stT (hT6 w.params) 223 512 os).abs ⟨doneF .next, hCode, ⟨145, 0, 178, 74⟩, [topFrame p0]⟩ = some (stH (hH1 w.params) 512 os) := by
  rw [PySem.W.Fast.te14082659384304107361, PySem.W.Fast.te14364793385576792824]; kernel_rfl
theorem head_parts (c : Code) : restOf (behindTheImports pg) hEnv c p0 [topFrame p0] = restOf (hS1 ++ (hS2 ++ (hS3 ++ (hS4 ++ (hS5 ++ (hS6 ++ [])))))) hEnv c p0 [topFrame p0] :=
  congrArg (fun l => restOf l hEnv c p0 [topFrame p0]) (by kernel_rfl)
theorem head_chain (w : World) (os : OsState) : topRun treeTable pg w 11 (some (.ref 6)) (Nat.add 12 (Nat.add 1 (Nat.add 206 (Nat.add 214 (Nat.add 370 (Nat.add 382 (Nat.add 380 (Nat.add 57 2)))))))) ⟨boot_heap w.params, ⟨[]⟩, boot_drawn, boot_toks, os⟩ (topStub pg) = some (stH (hH1 w.params) 512 os) := by
  refine go_top (head_pre w os) ?_
  refine piece_block (head_block w os) ?_
  rw [head_parts hCode]
  refine piece_app (segRun_of (head_p1 w os)) ?_
  refine piece_app (segRun_of (head_p2 w os)) ?_
  refine piece_app (segRun_of (head_p3 w os)) ?_
  refine piece_app (segRun_of (head_p4 w os)) ?_
  refine piece_app (segRun_of (head_p5 w os)) ?_
  refine piece_app (segRun_of (head_p6 w os)) ?_
  exact head_fin w os
theorem head_opening : opening pg = plainProg pg.main.scope.names := by kernel_rfl
theorem head_fence (s : Shared) : fenceModules? pg s = some s := by kernel_rfl
theorem head_size (w : World) : ((boot_heap w.params).isNs mainGlobals && (⟨[]⟩ : Array GenState).size == 0, (boot_heap w.params).objs.size, (boot_heap w.params).nsMap mainGlobals "__annotations__") = (true, 11, some (.ref 6)) := by kernel_rfl
theorem look_a (w : World) (os : OsState) : (staticsOk (importedModules pg.main.body) (boot_heap w.params) (hH1 w.params) && namesBound pg (hH1 w.params) && gensDone (stH (hH1 w.params) 512 os) && laidKept (boot_heap w.params) (hH1 w.params)) = true := by kernel_rfl
theorem look_b (w : World) (os : OsState) : openSeen vw [] (importedModules pg.main.body) (fun s => xlAt vw [] s && recOk rw'.records s) true (stH (hH1 w.params) 512 os) = openGood vw [] := by kernel_rfl
theorem look_c (w : World) (os : OsState) : hk.obs (stH (hH1 w.params) 512 os) = hk.val w := by kernel_rfl
theorem head_run : LeftO pg vw [] (fun s => xlAt vw [] s && recOk rw'.records s) hk.obs hk.val 3332 :=
  LeftO.of_pieces (boot_open head_opening (by decide) head_fence) head_size head_chain (by decide) fun w => funext fun os => looks_pair (look_a w os) (looks_pair (look_b w os) (look_c w os))
theorem head_said (h : PySem.Challenge.rw_sa0336_01.row.wellSaid = true → PySem.Challenge.rw_sa0336_01.row.Holds) : PySem.Challenge.rw_sa0336_01.Holds := by
  o_law
  exact h (by assumption)
end Mine

open PySem PySem.W PyProof.Rows
set_option maxRecDepth 100000 in
set_option maxHeartbeats 8000000 in
theorem PySem.Challenge.cw_sa0336_01_holds : PySem.Challenge.rw_sa0336_01.Holds := by
  w_on
  refine Mine.head_said fun said => ?_
  refine holds_open (q := Mine.vw) (loose := []) (Xt := fun s => xlAt Mine.vw [] s && recOk Mine.rw'.records s) (XP := XL Mine.vw []) (Yf := Hook.obs Mine.hk) (Ya := Hook.val Mine.hk) (YP := Hook.says Mine.hk) (N := 3332) Mine.head_run (Hook.of Mine.hk) (Hook.keeps Mine.hk) (fun s e => xl_of s (Bool.and_eq_true_iff.mp e).1) XL.keeps (by rfl) (by rfl) (by rfl) (fun s e => recFacts_of (Bool.and_eq_true_iff.mp e).2) (by rfl) said (by decide +kernel) ⟨rfl, rfl, rfl, rfl, rfl, by decide +kernel⟩ ?hw ?hc
  (case hw => w_witness2)
  delta Mine.hk
  intro w s₀ s₁ mg mb G Y fa o pm cd doc dV kV ho hd hcd hD hmg hg args vals as hpre hlay hrd hwl hlo
  have KX := kIn_of Y
  have X := (Ground.X G).1
  have V := (Ground.X G).2
  refine Ground.open G ?_
  intro T B D TE TW
  try (refine guard_noD D (by decide +kernel) ?_; clear D)
  have hT9 : TabsAt ([(221, 219)] : List (Addr × Addr)) _ := List.forall_mem_cons.mpr ⟨tab_of (x := PySem.Str.ofString "law") (c := 221) (P := 219) T KX rfl (by kernel_rfl), fun _ h => nomatch h⟩
  have he9 : cd = PySem.Value.ref 221 := law_code (x := PySem.Str.ofString "law") (c := 221) (P := 219) KX (Top.g T) (by kernel_rfl) hmg ho hd
  subst he9
  clear hmg
  wrow_args hpre hlay hrd hwl hlo
  all_goals (
    first | refine callC_kw (enter_call ?_) | refine enter_call ?_
    w_top on
    kn_posts
    w_call any ho hd hcd hD T F
    clear hd
    kn_ghosts F T
    k_drop
    skip)
  (all_goals try k_fold)
  rename Top _ _ _ _ _ _ => T'
  rename Fr _ _ _ _ => F'
  rename News _ _ _ _ => N'
  rename Frag.In _ _ => X'
  rename IntsAre _ _ => hI'
  rename_i hgg o0 o1 o2 o3 o4 o5 o6 d0 d1 d2 d3 d4 d5 d6 X0 K' l0
  refine' Mine.law_top T' X' F' ?zm N' ?z0 ?z1 ?z2 ?z3 ?z4 ?z5 ?z6 lifted hI' ?zn codeHd l0 ?zA rfl ?zk
  case zm => rfl
  case z0 => exact d0
  case z1 => exact d1
  case z2 => exact d2
  case z3 => exact d3
  case z4 => exact d4
  case z5 => exact d5
  case z6 => exact d6
  case zn => omega
  case zA => exact Mine.Room.deeper ⟨rfl, rfl, by decide, by decide⟩ _
  case zk =>
    intro h' tk' keep gr
    refine' ⟨⟨.inl ⟨.bool true, .bool true, [], rfl, raisesW_false ?yn, .bool true, ?yp, unshared_nil⟩, keep, rfl, ?yg⟩, gr, trivial⟩
    case yg => assumption
    case yn => wrow_none_raised
    case yp =>
      refine' postW_of ?ys ?yv ?ye
      case ys => o_shape
      case yv => wtm_val
      case ye => w_fin
