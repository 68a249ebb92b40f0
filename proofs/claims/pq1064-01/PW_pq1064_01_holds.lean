import PyProof.Rows.All
import PyProof.ExcAttrAll.Exception
import OpenK.KWalk
import Open.Pieces
import KE.KDictSum
import KE.KEqDat
import KE.KSetDisp
import KE.KSortTup
import Wide.FinOn
import OpenK.AllK
import Wide.All
import PySem.Challenge.RW_pq1064_01
set_option Elab.async false
set_option tactic.hygienic false
set_option linter.unusedVariables false
set_option linter.unusedSectionVars false
set_option linter.unusedSimpArgs false
set_option maxRecDepth 100000
open PySem PySem.W PyProof.Rows
open PySem.Str (ofString)
namespace Mine
open Lean.Parser.Tactic in
def rfl0S : Lean.Syntax := Lean.Unhygienic.run `(tacticSeq| rfl)
open Lean.Parser.Tactic in
def rflS : Lean.Syntax := Lean.Unhygienic.run `(tacticSeq| k_dflt exact rfl)
open Lean.Parser.Tactic in
def dciS : Lean.Syntax := Lean.Unhygienic.run `(tacticSeq| k_dflt decide)
open Lean.Parser.Tactic in
def rfi0S : Lean.Syntax := Lean.Unhygienic.run `(tacticSeq| intros; rfl)
open Lean.Parser.Tactic in
def rfiS : Lean.Syntax := Lean.Unhygienic.run `(tacticSeq| k_dflt (intros; exact rfl))
noncomputable abbrev tupOf (its : Array Value) (n : Nat) : Obj := { cls := .type "tuple", data := .seq its n }
inductive Key where
 | str (x : Str) | int (i : Int) | tS (l : List Str) | tI (l : List Int)
 deriving DecidableEq, Inhabited
inductive Fla where
 | S | I | T | J
 deriving DecidableEq, Inhabited
noncomputable def Key.fl : Key → Fla
 | .str _ => .S
 | .int _ => .I
 | .tS _ => .T
 | .tI _ => .J
inductive PV where
 | none | bool (b : Bool) | int (i : Int) | str (x : Str)
 | tup (xs : List PV) | lst (xs : List PV) | dct (f : Fla) (kvs : List (Key × PV)) | obj (c : Addr) (kvs : List (Key × PV))
 | val (v : Value)
 deriving Inhabited
noncomputable def Key.pv : Key → PV
 | .str x => .str x
 | .int i => .int i
 | .tS l => .tup (l.map .str)
 | .tI l => .tup (l.map .int)
inductive V where
 | t (d : PV) | ref (i : Nat)
 deriving Inhabited
inductive AO where
 | lst (xs : List V) | dct (f : Fla) (kvs : List (Key × V)) | inst (c : Addr) (k : Nat) | frz (d : PV) | exc (c : Addr) (k : Option Nat)
 deriving Inhabited
noncomputable abbrev Sto := Nat → Option AO
noncomputable def upd (σ : Sto) (i : Nat) (ao : AO) : Sto := fun j => if j = i then some ao else σ j
def Sto.le (σ' σ : Sto) : Prop := ∀ i ao, σ' i = some ao → σ i = some ao
theorem upd_self (σ : Sto) (i : Nat) (ao : AO) : upd σ i ao i = some ao := if_pos rfl
theorem upd_ne (σ : Sto) {i j : Nat} (ao : AO) (h : j ≠ i) : upd σ i ao j = σ j := if_neg h
noncomputable def AO.live : AO → Bool
 | .frz _ => false
 | _ => true
inductive All2 {α β : Type} (R : α → β → Prop) : List α → List β → Prop
 | nil : All2 R [] []
 | cons {a : α} {b : β} {l : List α} {m : List β} : R a b → All2 R l m → All2 R (a :: l) (b :: m)
section
variable {α β : Type} {R R' : α → β → Prop}
theorem All2.mono (h : ∀ a b, R a b → R' a b) {l : List α} {m : List β} (x : All2 R l m) : All2 R' l m := by
 induction x with
 | nil => exact .nil
 | cons x _ ih => exact .cons (h _ _ x) ih
theorem All2.length {l : List α} {m : List β} (x : All2 R l m) : l.length = m.length := by
 induction x with
 | nil => rfl
 | cons x _ ih => exact congrArg (· + 1) ih
theorem All2.append {l l' : List α} {m m' : List β} (x : All2 R l m) (y : All2 R l' m') : All2 R (l ++ l') (m ++ m') := by
 induction x with
 | nil => exact y
 | cons x _ ih => exact .cons x ih
theorem All2.get {l : List α} {m : List β} (x : All2 R l m) (i : Nat) (b : β) (h : m[i]? = some b) : ∃ a, l[i]? = some a ∧ R a b := by
 induction x generalizing i with
 | nil => cases h
 | cons x _ ih => cases i with
  | zero => cases h; exact ⟨_, rfl, x⟩
  | succ i => exact ih i h
theorem All2.get' {l : List α} {m : List β} (x : All2 R l m) (i : Nat) (a : α) (h : l[i]? = some a) : ∃ b, m[i]? = some b ∧ R a b := by
 induction x generalizing i with
 | nil => cases h
 | cons x _ ih => cases i with
  | zero => cases h; exact ⟨_, rfl, x⟩
  | succ i => exact ih i h
theorem All2.set {l : List α} {m : List β} (x : All2 R l m) (i : Nat) {a : α} {b : β} (q : R a b) : All2 R (l.set i a) (m.set i b) := by
 induction x generalizing i with
 | nil => exact .nil
 | cons x r ih => cases i with
  | zero => exact .cons q r
  | succ i => exact .cons x (ih i)
theorem All2.mapR {γ : Type} {f : γ → β} {l : List α} {m : List γ} (x : All2 (fun a c => R a (f c)) l m) : All2 R l (m.map f) := by
 induction x with
 | nil => exact .nil
 | cons x _ ih => exact .cons x ih
def All2I (R : α → β → Prop) (l : List α) : List β → Prop
 | [] => l = []
 | b :: m => ∃ a k, l = a :: k ∧ R a b ∧ All2 R k m
theorem All2.inv {l : List α} {m : List β} (h : All2 R l m) : All2I R l m := by
 cases h with
 | nil => rfl
 | cons x r => exact ⟨_, _, rfl, x, r⟩
theorem All2.unmapR {γ : Type} {f : γ → β} {m : List γ} {l : List α} (x : All2 R l (m.map f)) : All2 (fun a c => R a (f c)) l m := by
 induction m generalizing l with
 | nil => exact (show l = [] from x.inv) ▸ .nil
 | cons c m ih =>
  obtain ⟨a, k, rfl, r, q⟩ := x.inv
  exact .cons r (ih q)
def All2J (R : α → β → Prop) (m : List β) : List α → Prop
 | [] => m = []
 | a :: l => ∃ b k, m = b :: k ∧ R a b ∧ All2 R l k
theorem All2.invL {l : List α} {m : List β} (h : All2 R l m) : All2J R m l := by
 cases h with
 | nil => rfl
 | cons x r => exact ⟨_, _, rfl, x, r⟩
theorem All2.inv1 {b : β} {l : List α} (h : All2 R l [b]) : ∃ a, l = [a] ∧ R a b :=
 Exists.elim h.inv fun a h => Exists.elim h fun k h => ⟨a, h.1.trans (congrArg (a :: ·) h.2.2.inv), h.2.1⟩
theorem All2.inv2 {b c : β} {l : List α} (h : All2 R l [b, c]) : ∃ a a', l = [a, a'] ∧ R a b ∧ R a' c :=
 Exists.elim h.inv fun a h => Exists.elim h fun k h => Exists.elim h.2.2.inv1 fun a' q => ⟨a, a', h.1.trans (congrArg (a :: ·) q.1), h.2.1, q.2⟩
theorem All2.inv3 {b c d : β} {l : List α} (h : All2 R l [b, c, d]) : ∃ a a' a'', l = [a, a', a''] ∧ R a b ∧ R a' c ∧ R a'' d :=
 Exists.elim h.inv fun a h => Exists.elim h fun k h => Exists.elim h.2.2.inv2 fun a' q => Exists.elim q fun a'' q => ⟨a, a', a'', h.1.trans (congrArg (a :: ·) q.1), h.2.1, q.2⟩
theorem All2.erase {l : List α} {m : List β} (x : All2 R l m) (i : Nat) : All2 R (l.eraseIdx i) (m.eraseIdx i) := by
 induction x generalizing i with
 | nil => exact .nil
 | cons x r ih => cases i with
  | zero => exact r
  | succ i => exact .cons x (ih i)
end
section
variable (prog : Program) (w : World)
noncomputable def hashKey : Key → Int
 | .str x => hashStr w x
 | .int i => hashInt i
 | .tS l => tupleKeyHash (strKind prog w) l
 | .tI l => tupleKeyHash (intKind prog w) l
def RepKey (g : Heap) : Key → Value → Prop
 | .str x, v => ∃ t, v = .str x t
 | .int i, v => ∃ t, v = .int i t
 | .tS l, v => ∃ a vs n, v = .ref a ∧ g.get? a = some (tupOf vs n) ∧ ItemsAre (strKind prog w) l vs.toList
 | .tI l, v => ∃ a vs n, v = .ref a ∧ g.get? a = some (tupOf vs n) ∧ ItemsAre (intKind prog w) l vs.toList
def KeysOk (f : Fla) {α : Type} (kvs : List (Key × α)) : Prop := (∀ p ∈ kvs, p.1.fl = f) ∧ (kvs.map (·.1)).Nodup
mutual
inductive Rep (g : Heap) : Value → PV → Prop
 | none : Rep g .none .none
 | bool (b : Bool) : Rep g (.bool b) (.bool b)
 | int (i : Int) (t : Tok) : Rep g (.int i t) (.int i)
 | str (x : Str) (t : Tok) : Rep g (.str x t) (.str x)
 | tup {a : Addr} {vs : Array Value} {n : Nat} {xs : List PV} : g.get? a = some (tupOf vs n) → RepAll g vs.toList xs → Rep g (.ref a) (.tup xs)
 | lst {a : Addr} {vs : Array Value} {n : Nat} {xs : List PV} : g.get? a = some (listOf vs n) → RepAll g vs.toList xs → Rep g (.ref a) (.lst xs)
 | dct {a : Addr} {es : List DictEntry} {n : Nat} {f : Fla} {kvs : List (Key × PV)} : (a == sysModules) = false → g.get? a = some (dictOf es n) → KeysOk f kvs → RepKvs g es kvs → Rep g (.ref a) (.dct f kvs)
 | obj {a dx c : Addr} {es : List DictEntry} {n : Nat} {kvs : List (Key × PV)} : g.get? a = some (instObj c dx) → g.get? dx = some (dictOf es n) → KeysOk .S kvs → RepKvs g es kvs → Rep g (.ref a) (.obj c kvs)
 | val (v : Value) : Rep g v (.val v)
inductive RepAll (g : Heap) : List Value → List PV → Prop
 | nil : RepAll g [] []
 | cons {v : Value} {vs : List Value} {d : PV} {ds : List PV} : Rep g v d → RepAll g vs ds → RepAll g (v :: vs) (d :: ds)
inductive RepKvs (g : Heap) : List DictEntry → List (Key × PV) → Prop
 | nil : RepKvs g [] []
 | cons {e : DictEntry} {es : List DictEntry} {k : Key} {v : PV} {kvs : List (Key × PV)} : RepKey prog w g k e.key → e.hash = hashKey prog w k → Rep g e.val v → RepKvs g es kvs → RepKvs g (e :: es) ((k, v) :: kvs)
end
def RepI (g : Heap) (v : Value) : PV → Prop
 | .none => v = .none
 | .bool b => v = .bool b
 | .int i => ∃ t, v = .int i t
 | .str x => ∃ t, v = .str x t
 | .tup xs => ∃ a vs n, v = .ref a ∧ g.get? a = some (tupOf vs n) ∧ RepAll prog w g vs.toList xs
 | .lst xs => ∃ a vs n, v = .ref a ∧ g.get? a = some (listOf vs n) ∧ RepAll prog w g vs.toList xs
 | .dct f kvs => ∃ a es n, v = .ref a ∧ (a == sysModules) = false ∧ g.get? a = some (dictOf es n) ∧ KeysOk f kvs ∧ RepKvs prog w g es kvs
 | .obj c kvs => ∃ a dx es n, v = .ref a ∧ g.get? a = some (instObj c dx) ∧ g.get? dx = some (dictOf es n) ∧ KeysOk .S kvs ∧ RepKvs prog w g es kvs
 | .val u => v = u
variable {prog w} in
theorem Rep.inv {g : Heap} {v : Value} {d : PV} (h : Rep prog w g v d) : RepI prog w g v d := by
 cases h with
 | int | str => exact ⟨_, rfl⟩
 | tup a b | lst a b => exact ⟨_, _, _, rfl, a, b⟩
 | dct a b c d => exact ⟨_, _, _, rfl, a, b, c, d⟩
 | obj a b c d => exact ⟨_, _, _, _, rfl, a, b, c, d⟩
 | _ => rfl
def HeapLe (g g' : Heap) : Prop := ∀ b o, g.get? b = some o → g'.get? b = some o
variable {prog w}
theorem HeapLe.refl (g : Heap) : HeapLe g g := fun z' z' h => h
theorem HeapLe.trans {a b c : Heap} (x : HeapLe a b) (y : HeapLe b c) : HeapLe a c := fun z' z' h => y _ _ (x _ _ h)
theorem IsTupleKey.mono {K : Type} [DecidableEq K] {knd : KeyKind prog w K} {g g' : Heap} (G : HeapLe g g') {l : List K} {a : Addr} (h : IsTupleKey knd g l a) : IsTupleKey knd g' l a :=
 let ⟨o, items, n, x, r⟩ := h; ⟨o, items, n, G _ _ x, r⟩
theorem RepKey.mono {g g' : Heap} (G : HeapLe g g') {k : Key} {v : Value} (h : RepKey prog w g k v) : RepKey prog w g' k v := by
 cases k with
 | str _ => exact h
 | int _ => exact h
 | tS _ => obtain ⟨a, vs, n, e, h, r⟩ := h; exact ⟨a, vs, n, e, G _ _ h, r⟩
 | tI _ => obtain ⟨a, vs, n, e, h, r⟩ := h; exact ⟨a, vs, n, e, G _ _ h, r⟩
theorem Rep.mono {g g' : Heap} (G : HeapLe g g') {v : Value} {d : PV} (h : Rep prog w g v d) : Rep prog w g' v d :=
 Rep.rec (motive_1 := fun v d z' => Rep prog w g' v d) (motive_2 := fun vs ds z' => RepAll prog w g' vs ds) (motive_3 := fun es kvs z' => RepKvs prog w g' es kvs) .none .bool .int .str (fun h z' r => .tup (G _ _ h) r) (fun h z' r => .lst (G _ _ h) r) (fun z h k z' r => .dct z (G _ _ h) k r) (fun h k q z' r => .obj (G _ _ h) (G _ _ k) q r) .val .nil (fun z' z' a b => .cons a b) .nil (fun h e z' z' a b => .cons (h.mono G) e a b) h
theorem RepAll.all2 {g : Heap} {v : List Value} {d : List PV} (h : RepAll prog w g v d) : All2 (Rep prog w g) v d :=
 RepAll.rec (motive_1 := fun z' z' z' => True) (motive_2 := fun vs ds z' => All2 (Rep prog w g) vs ds) (motive_3 := fun z' z' z' => True) trivial (fun z' => trivial) (fun z' z' => trivial) (fun z' z' => trivial) (fun z' z' z' => trivial) (fun z' z' z' => trivial) (fun z' z' z' z' z' => trivial) (fun z' z' z' z' z' => trivial) (fun z' => trivial) .nil (fun h z' z' r => .cons h r) trivial (fun z' z' z' z' z' z' => trivial) h
theorem All2.rep {g : Heap} {v : List Value} {d : List PV} (h : All2 (Rep prog w g) v d) : RepAll prog w g v d := by
 induction h with
 | nil => exact .nil
 | cons h _ ih => exact .cons h ih
theorem RepAll.mono {g g' : Heap} (G : HeapLe g g') {v : List Value} {d : List PV} (h : RepAll prog w g v d) : RepAll prog w g' v d := (h.all2.mono fun z' z' r => r.mono G).rep
def RepE (g : Heap) (e : DictEntry) (p : Key × PV) : Prop := RepKey prog w g p.1 e.key ∧ e.hash = hashKey prog w p.1 ∧ Rep prog w g e.val p.2
theorem RepKvs.all2 {g : Heap} {v : List DictEntry} {d : List (Key × PV)} (h : RepKvs prog w g v d) : All2 (RepE (prog := prog) (w := w) g) v d :=
 RepKvs.rec (motive_1 := fun z' z' z' => True) (motive_2 := fun z' z' z' => True) (motive_3 := fun vs ds z' => All2 (RepE (prog := prog) (w := w) g) vs ds) trivial (fun z' => trivial) (fun z' z' => trivial) (fun z' z' => trivial) (fun z' z' z' => trivial) (fun z' z' z' => trivial) (fun z' z' z' z' z' => trivial) (fun z' z' z' z' z' => trivial) (fun z' => trivial) trivial (fun z' z' z' z' => trivial) .nil (fun h e k z' z' r => .cons ⟨h, e, k⟩ r) h
theorem All2.repKvs {g : Heap} {v : List DictEntry} {d : List (Key × PV)} (h : All2 (RepE (prog := prog) (w := w) g) v d) : RepKvs prog w g v d := by
 induction h with
 | nil => exact .nil
 | cons h _ ih => exact .cons h.1 h.2.1 h.2.2 ih
theorem RepKvs.mono {g g' : Heap} (G : HeapLe g g') {v : List DictEntry} {d : List (Key × PV)} (h : RepKvs prog w g v d) : RepKvs prog w g' v d := (h.all2.mono fun z' z' r => ⟨r.1.mono G, r.2.1, r.2.2.mono G⟩).repKvs
variable (prog w)
def RepV (ν : List Addr) (g : Heap) (v : Value) : V → Prop
 | .t d => Rep prog w g v d
 | .ref i => ∃ a, v = .ref a ∧ ν[i]? = some a
def RepVE (ν : List Addr) (g : Heap) (e : DictEntry) (p : Key × V) : Prop := RepKey prog w g p.1 e.key ∧ e.hash = hashKey prog w p.1 ∧ RepV prog w ν g e.val p.2
def ORep (ν : List Addr) (g : Heap) (a : Addr) (o : Obj) : AO → Prop
 | .lst xs => ∃ vs n, o = listOf vs n ∧ All2 (RepV prog w ν g) vs.toList xs
 | .dct f kvs => (a == sysModules) = false ∧ ∃ es n, o = dictOf es n ∧ KeysOk f kvs ∧ All2 (RepVE prog w ν g) es kvs
 | .inst c k => ∃ dx, ν[k]? = some dx ∧ o = instObj c dx
 | .frz d => Rep prog w g (.ref a) d
 | .exc c k => ∃ vs t, o = { cls := .ref c, dict := t, data := .fields vs } ∧ vs[1]? = some .none ∧ (match k with | none => t = none | some k => ∃ dx, t = some dx ∧ ν[k]? = some dx)
variable {prog w}
structure Grows (ν : List Addr) (g : Heap) (ν' : List Addr) (g' : Heap) : Prop where
 gg : HeapLe g g'
 nn : ∀ (i : Nat) (a : Addr), ν[i]? = some a → ν'[i]? = some a
theorem RepV.mono {ν ν' : List Addr} {g g' : Heap} (G : Grows ν g ν' g') {v : Value} {x : V} (h : RepV prog w ν g v x) : RepV prog w ν' g' v x := by
 cases x with
 | t _ => exact Rep.mono G.gg h
 | ref _ => obtain ⟨a, e, h⟩ := h; exact ⟨a, e, G.nn _ _ h⟩
theorem RepVE.mono {ν ν' : List Addr} {g g' : Heap} (G : Grows ν g ν' g') {e : DictEntry} {p : Key × V} (h : RepVE prog w ν g e p) : RepVE prog w ν' g' e p := ⟨h.1.mono G.gg, h.2.1, h.2.2.mono G⟩
theorem ORep.mono {ν ν' : List Addr} {g g' : Heap} (G : Grows ν g ν' g') {a : Addr} {o : Obj} {ao : AO} (h : ORep prog w ν g a o ao) : ORep prog w ν' g' a o ao := by
 cases ao with
 | lst _ => obtain ⟨vs, n, e, r⟩ := h; exact ⟨vs, n, e, r.mono fun z' z' h => h.mono G⟩
 | dct _ _ => obtain ⟨z, vs, n, e, k, r⟩ := h; exact ⟨z, vs, n, e, k, r.mono fun z' z' h => h.mono G⟩
 | inst _ _ => obtain ⟨dx, e, r⟩ := h; exact ⟨dx, G.nn _ _ e, r⟩
 | frz _ => exact Rep.mono G.gg h
 | exc _ k => cases k with
  | none => exact h
  | some _ => obtain ⟨vs, t, e, h, dx, z, q⟩ := h; exact ⟨vs, t, e, h, dx, z, G.nn _ _ q⟩
end
structure Rest (r s : Shared) : Prop where
 gens : s.gens = r.gens
 drawn : s.drawn = r.drawn
 os : s.os = r.os
theorem Rest.refl (s : Shared) : Rest s s := ⟨rfl, rfl, rfl⟩
theorem Rest.trans {a b c : Shared} (x : Rest a b) (y : Rest b c) : Rest a c := ⟨y.gens.trans x.gens, y.drawn.trans x.drawn, y.os.trans x.os⟩
structure Base where
 P : Heap → Prop
 mono : ∀ g g', HeapLe g g' → P g → P g'
 low : ∀ h, P h → sysModules < h.objs.size
structure Sat (prog : Program) (w : World) (B : Base) (σ : Sto) (ν : List Addr) (g : Heap) (s : Shared) : Prop where
 base : B.P g
 sub : HeapLe g s.heap
 held : ∀ a ∈ ν, ∃ o, s.heap.get? a = some o
 nd : ν.Nodup
 dom : ∀ i ao, σ i = some ao → ∃ a, ν[i]? = some a
 off : ∀ (i : Nat) (a : Addr) (ao : AO), ν[i]? = some a → σ i = some ao → ao.live = true → g.get? a = none
 own : ∀ (i : Nat) (a : Addr) (ao : AO), ν[i]? = some a → σ i = some ao → ∃ o, s.heap.get? a = some o ∧ ORep prog w ν g a o ao
structure Same (o o' : Obj) : Prop where
 cls : o'.cls = o.cls
 dict : o'.dict = o.dict
 data : o'.data = o.data
 ex : (∀ es n, o.data ≠ .dict es n) → o' = o
theorem Same.refl (o : Obj) : Same o o := ⟨rfl, rfl, rfl, fun z' => rfl⟩
theorem Same.trans {a b c : Obj} (x : Same a b) (y : Same b c) : Same a c := ⟨y.cls.trans x.cls, y.dict.trans x.dict, y.data.trans x.data, fun h => by
 have e := x.ex h
 subst e
 exact y.ex h⟩
def Obj.noF (o : Obj) : Prop := ∃ es n, o.data = .dict es n
structure Step (X : List Addr) (ν : List Addr) (g : Heap) (s : Shared) (ν' : List Addr) (g' : Heap) (s' : Shared) : Prop where
 keep : ∀ b o, s.heap.get? b = some o → b ∉ ν → b ∉ X → ∃ o', s'.heap.get? b = some o' ∧ Same o o'
 nf : ∀ b o, s.heap.get? b = some o → b ∉ ν → Obj.noF o → ∃ o', s'.heap.get? b = some o' ∧ Obj.noF o'
 grow : HeapLe g g'
 newg : ∀ b o, g'.get? b = some o → g.get? b = some o ∨ b ∈ ν ∨ s.heap.get? b = none
 pre : ν <+: ν'
 newν : ∀ b, b ∈ ν' → b ∈ ν ∨ s.heap.get? b = none
 stay : ∀ b, s'.heap.get? b = none → s.heap.get? b = none
 rest : Rest s s'
theorem Step.refl (X ν : List Addr) (g : Heap) (s : Shared) : Step X ν g s ν g s :=
 ⟨fun z' o h z' z' => ⟨o, h, .refl o⟩, fun z' o h z' z => ⟨o, h, z⟩, fun z' z' h => h, fun z' z' h => .inl h, List.prefix_refl _, fun z' h => .inl h, fun z' h => h, .refl s⟩
theorem Step.trans' {X Y ν ν' ν'' : List Addr} {g g' g'' : Heap} {s s' s'' : Shared} (x : Step X ν g s ν' g' s') (y : Step Y ν' g' s' ν'' g'' s'') (hY : ∀ b ∈ Y, b ∈ X ∨ s.heap.get? b = none) : Step X ν g s ν'' g'' s'' := by
 have nu : ∀ b, b ∈ ν' ∨ s'.heap.get? b = none → b ∈ ν ∨ s.heap.get? b = none := fun b h => h.elim (x.newν b) fun h => .inr (x.stay b h)
 refine ⟨fun b o h hb hX => ?_, fun b o h hb z => ?_, fun b o h => y.grow b o (x.grow b o h), fun b o h => ?_, x.pre.trans y.pre, fun b h => nu b (y.newν b h), fun b h => x.stay b (y.stay b h), x.rest.trans y.rest⟩
 ·obtain ⟨o₁, h₁, e₁⟩ := x.keep b o h hb hX
  obtain ⟨o₂, h₂, e₂⟩ := y.keep b o₁ h₁ (fun q => (x.newν b q).elim hb fun q => by rw [h] at q; cases q) (fun q => (hY b q).elim hX fun q => by rw [h] at q; cases q)
  exact ⟨o₂, h₂, e₁.trans e₂⟩
 ·obtain ⟨o₁, h₁, e₁⟩ := x.nf b o h hb z
  exact y.nf b o₁ h₁ (fun q => (x.newν b q).elim hb fun q => by rw [h] at q; cases q) e₁
 ·rcases y.newg b o h with q | q
  ·rcases x.newg b o q with q | q
   ·exact .inl q
   ·exact .inr q
  ·exact .inr (nu b q)
theorem Step.trans {X ν ν' ν'' : List Addr} {g g' g'' : Heap} {s s' s'' : Shared} (x : Step X ν g s ν' g' s') (y : Step X ν' g' s' ν'' g'' s'') : Step X ν g s ν'' g'' s'' := x.trans' y fun z' h => .inl h
theorem Step.weak {X Y ν ν' : List Addr} {g g' : Heap} {s s' : Shared} (x : Step X ν g s ν' g' s') (h : ∀ b ∈ X, b ∈ Y) : Step Y ν g s ν' g' s' :=
 ⟨fun b o e hb hX => x.keep b o e hb fun q => hX (h b q), x.nf, x.grow, x.newg, x.pre, x.newν, x.stay, x.rest⟩
theorem Step.any {Y ν ν' : List Addr} {g g' : Heap} {s s' : Shared} (x : Step [] ν g s ν' g' s') : Step Y ν g s ν' g' s' := x.weak fun z' h => (nomatch h)
theorem prefix_get {α : Type} {l l' : List α} (h : l <+: l') : ∀ (i : Nat) (a : α), l[i]? = some a → l'[i]? = some a := fun i a e => by
 obtain ⟨t, rfl⟩ := h
 obtain ⟨hi, _⟩ := List.getElem?_eq_some_iff.mp e
 rw [List.getElem?_append_left hi]; exact e
theorem Step.grows {X ν ν' : List Addr} {g g' : Heap} {s s' : Shared} (x : Step X ν g s ν' g' s') : Grows ν g ν' g' := ⟨x.grow, fun i a h => prefix_get x.pre i a h⟩
theorem Step.offg {X ν ν' : List Addr} {g g' : Heap} {s s' : Shared} (x : Step X ν g s ν' g' s') {b : Addr} {o : Obj} (h : s.heap.get? b = some o) (hn : b ∉ ν) (hg : g.get? b = none) : b ∉ ν' ∧ g'.get? b = none := by
 refine ⟨fun q => ?_, ?_⟩
 ·rcases x.newν b q with q | q
  ·exact hn q
  ·rw [h] at q; cases q
 ·cases e : g'.get? b with
  | none => rfl
  | some o' =>
   rcases x.newg b o' e with q | q | q
   ·rw [hg] at q; cases q
   ·exact absurd q hn
   ·rw [h] at q; cases q
section
variable {prog : Program} {w : World} {X ν ν' : List Addr} {g g' : Heap} {s s' : Shared}
theorem Step.rep (x : Step X ν g s ν' g' s') {v : Value} {d : V} (r : RepV prog w ν g v d) : RepV prog w ν' g' v d := r.mono x.grows
theorem Step.reps (x : Step X ν g s ν' g' s') {v : List Value} {d : List V} (r : All2 (RepV prog w ν g) v d) : All2 (RepV prog w ν' g') v d := r.mono fun z' z' h => h.mono x.grows
end
section
variable {prog : Program} {w : World} {B : Base} {σ σ' : Sto} {ν : List Addr} {g : Heap} {s s' : Shared}
theorem Sat.low (S : Sat prog w B σ ν g s) : (s.heap.objs.size == sysModules) = false := by
 have := B.low _ (B.mono _ _ S.sub S.base)
 exact beq_eq_false_iff_ne.mpr (Nat.ne_of_gt this)
theorem Sat.le (S : Sat prog w B σ ν g s) (h : Sto.le σ' σ) : Sat prog w B σ' ν g s :=
 ⟨S.base, S.sub, S.held, S.nd, fun i ao e => S.dom i ao (h i ao e), fun i a ao h1 h2 => S.off i a ao h1 (h i ao h2), fun i a ao h1 h2 => S.own i a ao h1 (h i ao h2)⟩
theorem Sat.toks (S : Sat prog w B σ ν g s) (h : s'.heap = s.heap) : Sat prog w B σ ν g s' :=
 ⟨S.base, by rw [h]; exact S.sub, by rw [h]; exact S.held, S.nd, S.dom, S.off, by rw [h]; exact S.own⟩
theorem Step.toks {X : List Addr} (h : s'.heap = s.heap) (r : Rest s s') : Step X ν g s ν g s' :=
 ⟨fun b o e z' z' => ⟨o, by rw [h]; exact e, .refl o⟩, fun b o e z' z => ⟨o, by rw [h]; exact e, z⟩, fun z' z' e => e, fun z' z' e => .inl e, List.prefix_refl _, fun z' h => .inl h, fun b e => by rw [← h]; exact e, r⟩
noncomputable def cut (h : Heap) (keep : Addr → Bool) : Heap := hideAll h ((List.range h.objs.size).filter fun b => !keep b)
theorem cut_get {h : Heap} {keep : Addr → Bool} {b : Addr} {o : Obj} : (cut h keep).get? b = some o ↔ h.get? b = some o ∧ keep b = true := by
 constructor
 ·intro e
  have e' := of_hideAll _ e
  refine ⟨e', ?_⟩
  cases q : keep b with
  | true => rfl
  | false =>
   exfalso
   have : b ∈ (List.range h.objs.size).filter fun b => !keep b := List.mem_filter.mpr ⟨List.mem_range.mpr (Heap.lt_size e'), by rw [q]; rfl⟩
   rw [cut, hideAll_none _ this] at e; cases e
 ·rintro ⟨e, k⟩
  exact hideAll_get _ e fun q => by
   have := (List.mem_filter.mp q).2
   rw [k] at this; cases this
noncomputable def gOf (h g : Heap) (F : List Addr) : Heap := cut h fun b => (g.get? b).isSome || F.contains b
theorem gOf_get {h g : Heap} {F : List Addr} (sub : HeapLe g h) {b : Addr} {o : Obj} : (gOf h g F).get? b = some o ↔ g.get? b = some o ∨ (b ∈ F ∧ h.get? b = some o) := by
 unfold gOf
 rw [cut_get]
 constructor
 ·rintro ⟨e, k⟩
  rcases Bool.or_eq_true_iff.mp k with k | k
  ·obtain ⟨o', q⟩ := Option.isSome_iff_exists.mp k
   have := sub b o' q
   rw [e] at this; cases this
   exact .inl q
  ·exact .inr ⟨by simpa using k, e⟩
 ·rintro (e | ⟨k, e⟩)
  ·exact ⟨sub b o e, by rw [e]; rfl⟩
  ·exact ⟨e, by simp [k]⟩
theorem get?_size (h : Heap) : h.get? h.objs.size = none := by
 cases q : h.get? h.objs.size with
 | none => rfl
 | some o => exact absurd (Heap.lt_size q) (Nat.lt_irrefl _)
theorem get?_push_none {h : Heap} {o : Obj} {b : Addr} (e : (h.push o).get? b = none) : h.get? b = none := by
 cases z : h.get? b with
 | none => rfl
 | some o'' => rw [Heap.get?_push_of_some o z] at e; cases e
theorem Sat.ext {h' : Heap} (S : Sat prog w B σ ν g s) (k : HeapLe s.heap h') {t : Nat} : Sat prog w B σ ν g { s with heap := h', toks := t } :=
 ⟨S.base, S.sub.trans k, fun a ha => let ⟨o, ho⟩ := S.held a ha; ⟨o, k _ _ ho⟩, S.nd, S.dom, S.off, fun i a ao h1 h2 => let ⟨o, ho, r⟩ := S.own i a ao h1 h2; ⟨o, k _ _ ho, r⟩⟩
theorem Step.ext {X : List Addr} {h' : Heap} (k : HeapLe s.heap h') {t : Nat} : Step X ν g s ν g { s with heap := h', toks := t } :=
 ⟨fun z' o e z' z' => ⟨o, k _ _ e, .refl o⟩, fun z' o e z' z => ⟨o, k _ _ e, z⟩, fun z' z' e => e, fun z' z' e => .inl e, List.prefix_refl _, fun z' h => .inl h,
  fun b e => (by cases z : s.heap.get? b with | none => rfl | some o => (have q := k _ _ z; rw [show h'.get? b = none from e] at q; cases q)), ⟨rfl, rfl, rfl⟩⟩
theorem Sat.push (S : Sat prog w B σ ν g s) (o : Obj) {t : Nat} : Sat prog w B σ ν g { s with heap := s.heap.push o, toks := t } := S.ext fun z' z' e => Heap.get?_push_of_some _ e
theorem Step.push {X : List Addr} (o : Obj) {t : Nat} : Step X ν g s ν g { s with heap := s.heap.push o, toks := t } := .ext fun z' z' e => Heap.get?_push_of_some _ e
theorem Sat.freeze (S : Sat prog w B σ ν g s) (F : List Addr) {σ' : Sto} (hlive : ∀ a ∈ F, a ∈ ν ∨ g.get? a = none ∨ (∃ o, g.get? a = some o))
  (h1 : ∀ i ao, σ' i = some ao → ao.live = true → σ i = some ao ∧ ∀ a, ν[i]? = some a → a ∉ F)
  (h2 : ∀ i d, σ' i = some (.frz d) → σ i = some (.frz d) ∨ ∃ a, ν[i]? = some a ∧ ∀ g', HeapLe g g' → (∀ b o, b ∈ F → s.heap.get? b = some o → g'.get? b = some o) → Rep prog w g' (.ref a) d) :
  ∃ g', HeapLe g g' ∧ (∀ b o, g'.get? b = some o ↔ g.get? b = some o ∨ (b ∈ F ∧ s.heap.get? b = some o)) ∧ Sat prog w B σ' ν g' s := by
 have G := fun (b : Addr) (o : Obj) => gOf_get (F := F) S.sub (b := b) (o := o)
 have gr : HeapLe g (gOf s.heap g F) := fun b o e => (G b o).mpr (.inl e)
 refine ⟨gOf s.heap g F, gr, G, ⟨B.mono _ _ gr S.base, fun b o e => ?_, S.held, S.nd, fun i ao e => ?_, fun i a ao ha e hl => ?_, fun i a ao ha e => ?_⟩⟩
 ·rcases (G b o).mp e with q | ⟨_, q⟩
  ·exact S.sub b o q
  ·exact q
 ·cases hl : ao.live with
  | true => exact S.dom i ao (h1 i ao e hl).1
  | false =>
   cases ao with
   | frz d => exact (h2 i d e).elim (fun q => S.dom i _ q) fun ⟨a, q, _⟩ => ⟨a, q⟩
   | _ => cases hl
 ·obtain ⟨e', hn⟩ := h1 i ao e hl
  cases z : (gOf s.heap g F).get? a with
  | none => rfl
  | some o =>
   rcases (G a o).mp z with q | ⟨q, _⟩
   ·rw [S.off i a ao ha e' hl] at q; cases q
   ·exact absurd q (hn a ha)
 ·cases hl : ao.live with
  | true =>
   obtain ⟨o, ho, r⟩ := S.own i a ao ha (h1 i ao e hl).1
   exact ⟨o, ho, r.mono ⟨gr, fun z' z' h => h⟩⟩
  | false =>
   cases ao with
   | frz d =>
    obtain ⟨o, ho⟩ := S.held a (List.mem_of_getElem? ha)
    refine ⟨o, ho, ?_⟩
    rcases h2 i d e with q | ⟨a', q, r⟩
    ·obtain ⟨_, _, r⟩ := S.own i a _ ha q
     exact Rep.mono gr r
    ·rw [ha] at q; cases q
     exact r _ gr fun b o hb ho => (G b o).mpr (.inr ⟨hb, ho⟩)
   | _ => cases hl
theorem Step.freeze {g' : Heap} (gr : HeapLe g g') (hn : ∀ b o, g'.get? b = some o → g.get? b = some o ∨ b ∈ ν) {X : List Addr} : Step X ν g s ν g' s :=
 ⟨fun z' o h z' z' => ⟨o, h, .refl o⟩, fun z' o h z' z => ⟨o, h, z⟩, gr, fun b o e => (hn b o e).imp id .inl, List.prefix_refl _, fun z' h => .inl h, fun z' h => h, .refl s⟩
theorem Sat.allocF (S : Sat prog w B σ ν g s) (o : Obj) (hf : o.isFreed = false) {t : Nat} : ∃ g', Step [] ν g s ν g' { s with heap := s.heap.push o, toks := t } ∧ Sat prog w B σ ν g' { s with heap := s.heap.push o, toks := t } ∧ g'.get? s.heap.objs.size = some o := by
 have S₁ := S.push o (t := t)
 have st : Step [] ν g s ν g { s with heap := s.heap.push o, toks := t } := .push o
 obtain ⟨g', gr, G, S'⟩ := S₁.freeze [s.heap.objs.size] (σ' := σ) (fun a ha => by
   cases q : g.get? a with
   | none => exact .inr (.inl rfl)
   | some o => exact .inr (.inr ⟨o, rfl⟩)) (fun i ao e hl => ⟨e, fun a ha q => by
   obtain rfl := List.mem_singleton.mp q
   obtain ⟨o'', ho⟩ := S.held _ (List.mem_of_getElem? ha)
   rw [get?_size] at ho; cases ho⟩) (fun i d e => .inl e)
 refine ⟨g', ⟨st.keep, st.nf, gr, fun b o' e => ?_, st.pre, st.newν, st.stay, st.rest⟩, S', (G _ _).mpr (.inr ⟨.head _, Heap.get?_push_size _ hf⟩)⟩
 rcases (G b o').mp e with q | ⟨q, _⟩
 ·exact .inl q
 ·obtain rfl := List.mem_singleton.mp q
  exact .inr (.inr (get?_size _))
theorem Sat.fresh (S : Sat prog w B σ ν g s) : σ ν.length = none := by
 cases q : σ ν.length with
 | none => rfl
 | some ao =>
  obtain ⟨a, ha⟩ := S.dom _ _ q
  have := (List.getElem?_eq_some_iff.mp ha).1
  exact absurd this (Nat.lt_irrefl _)
set_option tactic.hygienic true in
theorem Sat.allocO (S : Sat prog w B σ ν g s) (o : Obj) (hf : o.isFreed = false) {ao : AO} (hr : ORep prog w (ν ++ [s.heap.objs.size]) g s.heap.objs.size o ao) {t : Nat} :
  Step [] ν g s (ν ++ [s.heap.objs.size]) g { s with heap := s.heap.push o, toks := t } ∧ Sat prog w B (upd σ ν.length ao) (ν ++ [s.heap.objs.size]) g { s with heap := s.heap.push o, toks := t } := by
 have gr : Grows ν g (ν ++ [s.heap.objs.size]) g := ⟨fun z' z' e => e, fun i a h => prefix_get (List.prefix_append _ _) i a h⟩
 have new : s.heap.objs.size ∉ ν := fun q => by obtain ⟨o', ho⟩ := S.held _ q; rw [get?_size] at ho; cases ho
 have cs : ∀ (i : Nat) (a : Addr) (a' : AO), (ν ++ [s.heap.objs.size])[i]? = some a → upd σ ν.length ao i = some a' → (ν[i]? = some a ∧ σ i = some a') ∨ (a = s.heap.objs.size ∧ a' = ao) := fun i a a' h1 h2 => by
  unfold upd at h2
  split at h2
  ·rename_i hi
   subst hi
   cases h2
   right
   refine ⟨?_, rfl⟩
   simpa using h1.symm
  ·left
   obtain ⟨b, hb⟩ := S.dom _ _ h2
   have := prefix_get (List.prefix_append ν [s.heap.objs.size]) i b hb
   rw [h1] at this; cases this
   exact ⟨hb, h2⟩
 refine ⟨⟨fun z' o e z' z' => ⟨o, Heap.get?_push_of_some _ e, .refl o⟩, fun z' o e z' z => ⟨o, Heap.get?_push_of_some _ e, z⟩, fun z' z' e => e, fun z' z' e => .inl e, List.prefix_append _ _, fun b h => ?_, fun z' e => get?_push_none e, ⟨rfl, rfl, rfl⟩⟩, ⟨S.base, fun b o' e => Heap.get?_push_of_some _ (S.sub b o' e), fun a ha => ?_, ?_, fun i a' e => ?_, fun i a a' h1 h2 hl' => ?_, fun i a a' h1 h2 => ?_⟩⟩
 ·rcases List.mem_append.mp h with h | h
  ·exact .inl h
  ·obtain rfl := List.mem_singleton.mp h
   exact .inr (get?_size _)
 ·rcases List.mem_append.mp ha with h | h
  ·obtain ⟨o', ho⟩ := S.held _ h; exact ⟨o', Heap.get?_push_of_some _ ho⟩
  ·obtain rfl := List.mem_singleton.mp h
   exact ⟨o, Heap.get?_push_size _ hf⟩
 ·rw [List.nodup_append]
  exact ⟨S.nd, by simp, fun a ha b hb e => new (by obtain rfl := List.mem_singleton.mp hb; exact e ▸ ha)⟩
 ·unfold upd at e
  split at e
  ·rename_i hi
   subst hi
   exact ⟨s.heap.objs.size, by simp⟩
  ·obtain ⟨b, hb⟩ := S.dom _ _ e
   exact ⟨b, prefix_get (List.prefix_append _ _) i b hb⟩
 ·rcases cs i a a' h1 h2 with ⟨q1, q2⟩ | ⟨rfl, rfl⟩
  ·exact S.off i a a' q1 q2 hl'
  ·cases z : g.get? s.heap.objs.size with
   | none => rfl
   | some o' => have := S.sub _ _ z; rw [get?_size] at this; cases this
 ·rcases cs i a a' h1 h2 with ⟨q1, q2⟩ | ⟨rfl, rfl⟩
  ·obtain ⟨o', ho, r⟩ := S.own i a a' q1 q2
   exact ⟨o', Heap.get?_push_of_some _ ho, r.mono gr⟩
  ·exact ⟨o, Heap.get?_push_size _ hf, hr⟩
theorem Sat.setO (S : Sat prog w B σ ν g s) {i : Nat} {a : Addr} {ao ao' : AO} {h' : Heap} {o' : Obj} {t : Nat} (ha : ν[i]? = some a) (hi : σ i = some ao) (hl : ao.live = true) (hs : Heap.SameBut a s.heap h') (ho : h'.get? a = some o') (hr : ORep prog w ν g a o' ao') :
  Step [] ν g s ν g { s with heap := h', toks := t } ∧ Sat prog w B (upd σ i ao') ν g { s with heap := h', toks := t } := by
 have am : a ∈ ν := List.mem_of_getElem? ha
 have ga := S.off i a ao ha hi hl
 have hne : ∀ (j : Nat) (b : Addr), ν[j]? = some b → j ≠ i → b ≠ a := fun j b hj hji e => by
  subst e
  exact hji ((List.getElem?_inj (List.getElem?_eq_some_iff.mp hj).1 S.nd).mp (hj.trans ha.symm))
 refine ⟨⟨fun b o e hb z' => ⟨o, (hs.2 b fun q => hb (q ▸ am)).trans e, .refl o⟩, fun b o e hb z => ⟨o, (hs.2 b fun q => hb (q ▸ am)).trans e, z⟩, fun z' z' e => e, fun z' z' e => .inl e, List.prefix_refl _, fun z' h => .inl h, fun b e => ?_, ⟨rfl, rfl, rfl⟩⟩, ⟨S.base, fun b o e => (hs.2 b fun q => by rw [q, ga] at e; cases e).trans (S.sub b o e), fun b hb => ?_, S.nd, fun j b e => ?_, fun j b bo h1 h2 hl' => ?_, fun j b bo h1 h2 => ?_⟩⟩
 ·by_cases q : b = a
  ·subst q; rw [ho] at e; cases e
  ·rw [← hs.2 b q]; exact e
 ·by_cases q : b = a
  ·subst q; exact ⟨o', ho⟩
  ·obtain ⟨ob, hob⟩ := S.held b hb
   exact ⟨ob, (hs.2 b q).trans hob⟩
 ·by_cases q : j = i
  ·subst q; exact ⟨a, ha⟩
  ·rw [upd_ne _ _ q] at e; exact S.dom _ _ e
 ·by_cases q : j = i
  ·subst q; rw [ha] at h1; cases h1; exact ga
  ·rw [upd_ne _ _ q] at h2
   exact S.off j b bo h1 h2 hl'
 ·by_cases q : j = i
  ·subst q
   rw [ha] at h1; cases h1
   rw [upd_self] at h2
   cases h2
   exact ⟨o', ho, hr⟩
  ·rw [upd_ne _ _ q] at h2
   obtain ⟨ob, hb, r⟩ := S.own j b bo h1 h2
   exact ⟨ob, (hs.2 b (hne j b h1 q)).trans hb, r⟩
end
noncomputable abbrev Rho := List (Str × V)
noncomputable def put : Rho → Str → V → Rho
 | [], x, d => [(x, d)]
 | p :: r, x, d => if p.1 == x then (x, d) :: r else p :: put r x d
theorem put_cons (p : Str × V) (r : Rho) (x : Str) (d : V) : put (p :: r) x d = if p.1 == x then (x, d) :: r else p :: put r x d := rfl
theorem lk_cons {α β : Type} [BEq α] [LawfulBEq α] [DecidableEq α] (p : α × β) (r : List (α × β)) (y : α) : (p :: r).lookup y = if y = p.1 then some p.2 else r.lookup y := by
 rw [List.lookup_cons]
 by_cases h : y = p.1
 ·rw [if_pos h, beq_iff_eq.mpr h]
 ·rw [if_neg h, beq_eq_false_iff_ne.mpr h]
theorem lookup_put (ρ : Rho) (x y : Str) (d : V) : (put ρ x d).lookup y = if y = x then some d else ρ.lookup y := by
 induction ρ with
 | nil => exact lk_cons (x, d) [] y
 | cons p r ih =>
  rw [put_cons, lk_cons]
  by_cases q : p.1 = x
  ·rw [if_pos (beq_iff_eq.mpr q), lk_cons, q]
   by_cases h : y = x
   ·rw [if_pos h, if_pos h]
   ·rw [if_neg h, if_neg h, if_neg h]
  ·rw [if_neg fun e => q (beq_iff_eq.mp e), lk_cons, ih]
   by_cases h : y = p.1
   ·rw [if_pos h, if_pos h, if_neg fun e => q (h.symm.trans e)]
   ·rw [if_neg h, if_neg h]
structure Cx where
 prog : Program
 w : World
 B : Base
def TBk (σ : Sto) (ν : List Addr) (g h : Heap) (i : Nat) (vs : Array Value) (must : Bool) : Prop :=
 (must = false ∧ vs[1]? = some .none) ∨ ∃ j T oT ts, vs[1]? = some (.ref T) ∧ j ≠ i ∧ ν[j]? = some T ∧ σ j = none ∧ g.get? T = none ∧ h.get? T = some oT ∧ oT.data = .fields ts ∧ 3 < ts.size
inductive XRep (must : Bool) (σ : Sto) (ν : List Addr) (g h : Heap) (v : Value) (code why : Str) : Prop
 | mk (i : Nat) (a : Addr) (k : Nat) (dx : Addr) (o : Obj) (vs : Array Value) (kvs : List (Key × V)) : v = .ref a → ν[i]? = some a → σ i = none → g.get? a = none → ν[k]? = some dx → σ k = some (.dct .S kvs) → kvs.lookup (.str (ofString "code")) = some (.t (.str code)) → kvs.lookup (.str (ofString "why")) = some (.t (.str why)) →
  h.get? a = some o → o.cls = .ref 82 → o.dict = some dx → o.data = .fields vs → TBk σ ν g h i vs must → XRep must σ ν g h v code why
inductive Fl where
 | next | brk | cont | ret (d : V) | exc (code why : Str)
structure FrameOK (prog : Program) (w : World) (env : Env) (ρ : Rho) (ν : List Addr) (g : Heap) (h : Heap) : Prop where
 kind : env.scope.kind = .function
 glb : env.globals = mainGlobals
 blt : env.builtins = builtinsNs
 loc : ∃ m, h.Ns env.locals m ∧ ∀ x d, ρ.lookup x = some d → env.kindOf x = some .local → ∃ v, m x = some v ∧ RepV prog w ν g v d
 cel : ∀ x d, ρ.lookup x = some d → (env.kindOf x = some .cell ∨ env.kindOf x = some .free) → ∃ c v, env.cells.lookup x = some c ∧ h.IsCell c (some v) ∧ RepV prog w ν g v d
 has : ∀ x, env.kindOf x = some .cell → ∃ c ov, env.cells.lookup x = some c ∧ h.IsCell c ov
 offL : env.locals ∉ ν ∧ g.get? env.locals = none
 offC : ∀ x c, env.cells.lookup x = some c → c ∉ ν ∧ g.get? c = none ∧ c ≠ env.locals ∧ ∃ o, h.get? c = some o
 injC : ∀ x y c, env.cells.lookup x = some c → env.cells.lookup y = some c → x = y
noncomputable def frA (env : Env) : List Addr := env.locals :: env.cells.filterMap fun p => env.cells.lookup p.1
theorem mem_frA {env : Env} {x : Str} {c : Addr} (h : env.cells.lookup x = some c) : c ∈ frA env :=
 List.mem_cons_of_mem _ (List.mem_filterMap.mpr ⟨(x, c), PySem.mem_of_lookup h, h⟩)
theorem frA_mem {env : Env} {b : Addr} (h : b ∈ frA env) : b = env.locals ∨ ∃ x, env.cells.lookup x = some b := by
 rcases List.mem_cons.mp h with h | h
 ·exact .inl h
 ·obtain ⟨p, _, e⟩ := List.mem_filterMap.mp h; exact .inr ⟨p.1, e⟩
theorem FrameOK.step {prog : Program} {w : World} {env : Env} {ρ : Rho} {ν ν' : List Addr} {g g' : Heap} {s s' : Shared} (F : FrameOK prog w env ρ ν g s.heap) (st : Step [] ν g s ν' g' s') : FrameOK prog w env ρ ν' g' s'.heap := by
 have kp : ∀ b o, s.heap.get? b = some o → b ∉ ν → ∃ o', s'.heap.get? b = some o' ∧ Same o o' := fun b o e hb => st.keep b o e hb (fun q => nomatch q)
 refine ⟨F.kind, F.glb, F.blt, ?_, fun x d hx hk => ?_, fun x hk => ?_, ?_, fun x c hc => ?_, F.injC⟩
 ·obtain ⟨m, hn, hm⟩ := F.loc
  obtain ⟨o, es, ep, ho, hd, r⟩ := hn
  obtain ⟨o', ho', q⟩ := kp _ _ ho F.offL.1
  refine ⟨m, ⟨o', es, ep, ho', q.data.trans hd, r⟩, fun x d hx hk => ?_⟩
  obtain ⟨v, hv, hr⟩ := hm x d hx hk
  exact ⟨v, hv, st.rep hr⟩
 ·obtain ⟨c, v, h1, ⟨o, ho, hd⟩, hr⟩ := F.cel x d hx hk
  obtain ⟨o', ho', q⟩ := kp _ _ ho (F.offC x c h1).1
  exact ⟨c, v, h1, ⟨o', ho', q.data.trans hd⟩, st.rep hr⟩
 ·obtain ⟨c, ov, h1, ⟨o, ho, hd⟩⟩ := F.has x hk
  obtain ⟨o', ho', q⟩ := kp _ _ ho (F.offC x c h1).1
  exact ⟨c, ov, h1, o', ho', q.data.trans hd⟩
 ·obtain ⟨m, ⟨o, es, ep, ho, r⟩, hm⟩ := F.loc
  exact st.offg ho F.offL.1 F.offL.2
 ·obtain ⟨a, b, c', o, ho⟩ := F.offC x c hc
  obtain ⟨z1, z2⟩ := st.offg ho a b
  obtain ⟨o', ho', q⟩ := kp _ _ ho a
  exact ⟨z1, z2, c', o', ho'⟩
theorem FrameOK.less {prog : Program} {w : World} {env : Env} {ρ ρ' : Rho} {ν : List Addr} {g h : Heap} (F : FrameOK prog w env ρ ν g h) (le : ∀ x d, ρ'.lookup x = some d → ρ.lookup x = some d) : FrameOK prog w env ρ' ν g h :=
 ⟨F.kind, F.glb, F.blt, let ⟨m, a, b⟩ := F.loc; ⟨m, a, fun x d hx hk => b x d (le x d hx) hk⟩, fun x d hx hk => F.cel x d (le x d hx) hk, F.has, F.offL, F.offC, F.injC⟩
def FrL (l : List Env) (ν : List Addr) (g h : Heap) : Prop :=
 ∀ env ∈ l, env.scope.kind ≠ .module ∧ ∃ L, env.frame = some L ∧ L ∉ ν ∧ g.get? L = none ∧ ∃ o, h.get? L = some o ∧ Obj.noF o
structure AOK (n : Nat) (A : Around) (ν : List Addr) (g h : Heap) : Prop where
 hd : A.handled = none
 dp : A.depth + n < recursionLimit
 un : A.units + 4 * n + 200 < cLine
 fr : ∃ l, A.frames = some l ∧ FrL l ν g h
section
variable {n m : Nat} {A : Around} {ν : List Addr} {g h : Heap}
theorem AOK.less (x : AOK n A ν g h) (le : m ≤ n) : AOK m A ν g h := ⟨x.hd, Nat.lt_of_le_of_lt (Nat.add_le_add_left le _) x.dp, Nat.lt_of_le_of_lt (by lia) x.un, x.fr⟩
theorem AOK.room (x : AOK n A ν g h) : A.depth < recursionLimit := Nat.lt_of_le_of_lt (Nat.le_add_right _ _) x.dp
theorem AOK.units (x : AOK n A ν g h) : A.units + 200 < cLine := Nat.lt_of_le_of_lt (by lia) x.un
theorem FrL.step {l : List Env} {X ν' : List Addr} {g' : Heap} {s s' : Shared} (x : FrL l ν g s.heap) (st : Step X ν g s ν' g' s') : FrL l ν' g' s'.heap := fun env he => by
 obtain ⟨hk, L, h1, h2, h3, o, ho, hn⟩ := x env he
 obtain ⟨o', ho', hn'⟩ := st.nf L o ho h2 hn
 exact ⟨hk, L, h1, (st.offg ho h2 h3).1, (st.offg ho h2 h3).2, o', ho', hn'⟩
theorem AOK.step {X ν' : List Addr} {g' : Heap} {s s' : Shared} (x : AOK n A ν g s.heap) (st : Step X ν g s ν' g' s') : AOK n A ν' g' s'.heap := ⟨x.hd, x.dp, x.un, let ⟨l, a, b⟩ := x.fr; ⟨l, a, b.step st⟩⟩
end
abbrev Fal : Value → Shared → Prop := fun z' z' => False
section
variable (Γ : Cx)
inductive PostV (X ν : List Addr) (g : Heap) (s : Shared) (Q : V → Sto → Prop) (v : Value) (s' : Shared) : Prop
 | mk (ν' : List Addr) (g' : Heap) (σ' : Sto) (d : V) : Step X ν g s ν' g' s' → Sat Γ.prog Γ.w Γ.B σ' ν' g' s' → RepV Γ.prog Γ.w ν' g' v d → Q d σ' → PostV X ν g s Q v s'
inductive PostVs (X ν : List Addr) (g : Heap) (s : Shared) (Q : List V → Sto → Prop) (vs : List Value) (s' : Shared) : Prop
 | mk (ν' : List Addr) (g' : Heap) (σ' : Sto) (ds : List V) : Step X ν g s ν' g' s' → Sat Γ.prog Γ.w Γ.B σ' ν' g' s' → All2 (RepV Γ.prog Γ.w ν' g') vs ds → Q ds σ' → PostVs X ν g s Q vs s'
inductive PostP {α : Type} (X ν : List Addr) (g : Heap) (s : Shared) (Q : α → Sto → Prop) (b : α) (s' : Shared) : Prop
 | mk (ν' : List Addr) (g' : Heap) (σ' : Sto) : Step X ν g s ν' g' s' → Sat Γ.prog Γ.w Γ.B σ' ν' g' s' → Q b σ' → PostP X ν g s Q b s'
end
section
variable {Γ : Cx}
theorem PostV.trans {X Y ν ν₁ : List Addr} {g g₁ : Heap} {s s₁ : Shared} {Q : V → Sto → Prop} (st : Step X ν g s ν₁ g₁ s₁) (hY : ∀ b ∈ Y, b ∈ X ∨ s.heap.get? b = none) {v : Value} {s' : Shared} (h : PostV Γ Y ν₁ g₁ s₁ Q v s') : PostV Γ X ν g s Q v s' := by
 obtain ⟨ν', g', σ', d, a, b, e, f⟩ := h; exact ⟨ν', g', σ', d, st.trans' a hY, b, e, f⟩
theorem PostP.trans {α : Type} {X Y ν ν₁ : List Addr} {g g₁ : Heap} {s s₁ : Shared} {Q : α → Sto → Prop} (st : Step X ν g s ν₁ g₁ s₁) (hY : ∀ b ∈ Y, b ∈ X ∨ s.heap.get? b = none) {v : α} {s' : Shared} (h : PostP Γ Y ν₁ g₁ s₁ Q v s') : PostP Γ X ν g s Q v s' := by
 obtain ⟨ν', g', σ', a, b, e⟩ := h; exact ⟨ν', g', σ', st.trans' a hY, b, e⟩
theorem PostV.tr {X ν ν₁ : List Addr} {g g₁ : Heap} {s s₁ : Shared} {Q : V → Sto → Prop} {v : Value} {s' : Shared} (h : PostV Γ X ν₁ g₁ s₁ Q v s') (st : Step X ν g s ν₁ g₁ s₁) : PostV Γ X ν g s Q v s' := PostV.trans st (fun z' h => .inl h) h
theorem PostP.tr {α : Type} {X ν ν₁ : List Addr} {g g₁ : Heap} {s s₁ : Shared} {Q : α → Sto → Prop} {v : α} {s' : Shared} (h : PostP Γ X ν₁ g₁ s₁ Q v s') (st : Step X ν g s ν₁ g₁ s₁) : PostP Γ X ν g s Q v s' := PostP.trans st (fun z' h => .inl h) h
theorem PostV.mono {X ν : List Addr} {g : Heap} {s : Shared} {Q Q' : V → Sto → Prop} (h : ∀ d σ, Q d σ → Q' d σ) {v : Value} {s' : Shared} (p : PostV Γ X ν g s Q v s') : PostV Γ X ν g s Q' v s' := by
 obtain ⟨ν', g', σ', d, a, b, e, f⟩ := p; exact ⟨ν', g', σ', d, a, b, e, h _ _ f⟩
theorem seqV {A : Around} {s : Shared} {ν : List Addr} {g : Heap} {t : Sem Value} {Q₁ : V → Sto → Prop} {k : Value → Shared → Prop}
  (h : wpAny (model Γ.prog Γ.w) A t (PostV Γ [] ν g s Q₁) Fal s)
  (hk : ∀ v s₁ ν₁ g₁ σ₁ d, Step [] ν g s ν₁ g₁ s₁ → Sat Γ.prog Γ.w Γ.B σ₁ ν₁ g₁ s₁ → RepV Γ.prog Γ.w ν₁ g₁ v d → Q₁ d σ₁ → k v s₁) {E : Value → Shared → Prop} : wpAny (model Γ.prog Γ.w) A t k E s :=
 wpAny_mono h (fun v s₁ ⟨ν₁, g₁, σ₁, d, st, S, r, q⟩ => hk v s₁ ν₁ g₁ σ₁ d st S r q) fun z' z' x => x.elim
theorem seqVs {A : Around} {s : Shared} {ν : List Addr} {g : Heap} {t : Sem (List Value)} {Q₁ : List V → Sto → Prop} {k : List Value → Shared → Prop}
  (h : wpAny (model Γ.prog Γ.w) A t (PostVs Γ [] ν g s Q₁) Fal s)
  (hk : ∀ v s₁ ν₁ g₁ σ₁ d, Step [] ν g s ν₁ g₁ s₁ → Sat Γ.prog Γ.w Γ.B σ₁ ν₁ g₁ s₁ → All2 (RepV Γ.prog Γ.w ν₁ g₁) v d → Q₁ d σ₁ → k v s₁) {E : Value → Shared → Prop} : wpAny (model Γ.prog Γ.w) A t k E s :=
 wpAny_mono h (fun v s₁ ⟨ν₁, g₁, σ₁, d, st, S, r, q⟩ => hk v s₁ ν₁ g₁ σ₁ d st S r q) fun z' z' x => x.elim
theorem seqP {α : Type} {A : Around} {s : Shared} {X ν : List Addr} {g : Heap} {t : Sem α} {Q₁ : α → Sto → Prop} {k : α → Shared → Prop}
  (h : wpAny (model Γ.prog Γ.w) A t (PostP Γ X ν g s Q₁) Fal s)
  (hk : ∀ v s₁ ν₁ g₁ σ₁, Step X ν g s ν₁ g₁ s₁ → Sat Γ.prog Γ.w Γ.B σ₁ ν₁ g₁ s₁ → Q₁ v σ₁ → k v s₁) {E : Value → Shared → Prop} : wpAny (model Γ.prog Γ.w) A t k E s :=
 wpAny_mono h (fun v s₁ ⟨ν₁, g₁, σ₁, st, S, q⟩ => hk v s₁ ν₁ g₁ σ₁ st S q) fun z' z' x => x.elim
end
section
variable (Γ : Cx)
def WE (n : Nat) (env : Env) (e : Expr) (ρ : Rho) (σ : Sto) (Q : V → Sto → Prop) : Prop :=
 ∀ A s ν g, AOK n A ν g s.heap → FrameOK Γ.prog Γ.w env ρ ν g s.heap → Sat Γ.prog Γ.w Γ.B σ ν g s → wpAny (model Γ.prog Γ.w) A (eval e env) (PostV Γ [] ν g s Q) Fal s
def WT (n : Nat) (env : Env) (e : Expr) (ρ : Rho) (σ : Sto) (Q : Bool → Sto → Prop) : Prop :=
 ∀ A s ν g, AOK n A ν g s.heap → FrameOK Γ.prog Γ.w env ρ ν g s.heap → Sat Γ.prog Γ.w Γ.B σ ν g s → wpAny (model Γ.prog Γ.w) A (isTrue e env (eval e env)) (PostP Γ [] ν g s Q) Fal s
def WEs (n : Nat) (env : Env) (pos : Pos) (es : List Expr) (ρ : Rho) (σ : Sto) (Q : List V → Sto → Prop) : Prop :=
 ∀ A s ν g, AOK n A ν g s.heap → FrameOK Γ.prog Γ.w env ρ ν g s.heap → Sat Γ.prog Γ.w Γ.B σ ν g s → wpAny (model Γ.prog Γ.w) A (spliced (backTo pos (starEach es env))) (PostVs Γ [] ν g s Q) Fal s
abbrev FlQ (Q : Fl → Rho → Sto → Prop) (ν' : List Addr) (g' : Heap) (σ' : Sto) (ρ' : Rho) (f : Flow) : Prop := match f with
  | .next => Q .next ρ' σ'
  | .brk => Q .brk ρ' σ'
  | .cont => Q .cont ρ' σ'
  | .ret v => ∃ d, RepV Γ.prog Γ.w ν' g' v d ∧ Q (.ret d) ρ' σ'
inductive PostS (env : Env) (ν : List Addr) (g : Heap) (s : Shared) (Q : Fl → Rho → Sto → Prop) (f : Flow) (s' : Shared) : Prop
 | mk (ν' : List Addr) (g' : Heap) (σ' : Sto) (ρ' : Rho) : Step (frA env) ν g s ν' g' s' → FrameOK Γ.prog Γ.w env ρ' ν' g' s'.heap → Sat Γ.prog Γ.w Γ.B σ' ν' g' s' → FlQ Γ Q ν' g' σ' ρ' f → PostS env ν g s Q f s'
inductive PostX (env : Env) (ν : List Addr) (g : Heap) (s : Shared) (Q : Fl → Rho → Sto → Prop) (e : Value) (s' : Shared) : Prop
 | mk (ν' : List Addr) (g' : Heap) (σ' : Sto) (ρ' : Rho) (code why : Str) : Step (frA env) ν g s ν' g' s' → FrameOK Γ.prog Γ.w env ρ' ν' g' s'.heap → Sat Γ.prog Γ.w Γ.B σ' ν' g' s' → XRep false σ' ν' g' s'.heap e code why → Q (.exc code why) ρ' σ' → PostX env ν g s Q e s'
def WS (n : Nat) (env : Env) (st : Stmt) (ρ : Rho) (σ : Sto) (Q : Fl → Rho → Sto → Prop) : Prop :=
 ∀ A s ν g, AOK n A ν g s.heap → (∃ o, A.frames = some (env :: o)) → FrameOK Γ.prog Γ.w env ρ ν g s.heap → Sat Γ.prog Γ.w Γ.B σ ν g s → wpAny (model Γ.prog Γ.w) A (exec st env) (PostS Γ env ν g s Q) (PostX Γ env ν g s Q) s
def WB (n : Nat) (env : Env) (sts : List Stmt) (ρ : Rho) (σ : Sto) (Q : Fl → Rho → Sto → Prop) : Prop :=
 ∀ A s ν g, AOK n A ν g s.heap → (∃ o, A.frames = some (env :: o)) → FrameOK Γ.prog Γ.w env ρ ν g s.heap → Sat Γ.prog Γ.w Γ.B σ ν g s → wpAny (model Γ.prog Γ.w) A (execs sts env) (PostS Γ env ν g s Q) (PostX Γ env ν g s Q) s
end
section
variable {Γ : Cx} {n : Nat} {env : Env} {ρ : Rho} {σ : Sto}
theorem PostS.trans {ν ν₁ : List Addr} {g g₁ : Heap} {s s₁ : Shared} {Q : Fl → Rho → Sto → Prop} (st : Step (frA env) ν g s ν₁ g₁ s₁) {f : Flow} {s' : Shared} (h : PostS Γ env ν₁ g₁ s₁ Q f s') : PostS Γ env ν g s Q f s' := by
 obtain ⟨ν', g', σ', ρ', a, b, d, e⟩ := h; exact ⟨ν', g', σ', ρ', st.trans a, b, d, e⟩
theorem PostX.trans {ν ν₁ : List Addr} {g g₁ : Heap} {s s₁ : Shared} {Q : Fl → Rho → Sto → Prop} (st : Step (frA env) ν g s ν₁ g₁ s₁) {f : Value} {s' : Shared} (h : PostX Γ env ν₁ g₁ s₁ Q f s') : PostX Γ env ν g s Q f s' := by
 obtain ⟨ν', g', σ', ρ', c1, c2, a, b, d, e, k⟩ := h; exact ⟨ν', g', σ', ρ', c1, c2, st.trans a, b, d, e, k⟩
theorem WB.nil {Q : Fl → Rho → Sto → Prop} (h : Q .next ρ σ) : WB Γ n env [] ρ σ Q := fun A s ν g hA hT F S =>
 wpAny_execs_nil ⟨ν, g, σ, ρ, .refl .., F, S, h⟩
abbrev seqQ (Γ : Cx) (n : Nat) (env : Env) (rest : List Stmt) (Q : Fl → Rho → Sto → Prop) (f : Fl) (ρ' : Rho) (σ' : Sto) : Prop := match f with | .next => WB Γ n env rest ρ' σ' Q | f => Q f ρ' σ'
theorem WB.cons {st : Stmt} {rest : List Stmt} {Q : Fl → Rho → Sto → Prop}
  (h : let r := ρ; let Q1 := seqQ Γ n env rest Q; WS Γ n env st r σ Q1) : WB Γ n env (st :: rest) ρ σ Q := fun A s ν g hA hT F S => by
 refine wpAny_execs_cons (wpAny_mono (h A s ν g hA hT F S) (fun f s' hp => ?_) fun e s' hp => ?_)
 ·obtain ⟨ν', g', σ', ρ', st', F', S', q⟩ := hp
  cases f with
  | next => exact wpAny_mono (q A s' ν' g' (hA.step st') hT F' S') (fun z' z' x => x.trans st') fun z' z' x => x.trans st'
  | brk => exact ⟨ν', g', σ', ρ', st', F', S', q⟩
  | cont => exact ⟨ν', g', σ', ρ', st', F', S', q⟩
  | ret v => exact ⟨ν', g', σ', ρ', st', F', S', q⟩
 ·obtain ⟨ν', g', σ', ρ', c1, c2, st', F', S', x, q⟩ := hp
  exact ⟨ν', g', σ', ρ', c1, c2, st', F', S', x, q⟩
theorem WB.consQ {st : Stmt} {rest : List Stmt} {Q : Fl → Rho → Sto → Prop} (noR : True)
  (h : let r := (); let Q1 := seqQ Γ n env rest Q; WS Γ n env st ρ σ Q1) : WB Γ n env (st :: rest) ρ σ Q := WB.cons h
theorem Sto.le_refl (σ : Sto) : Sto.le σ σ := fun z' z' h => h
theorem WB.le {sts : List Stmt} {σ' : Sto} {Q : Fl → Rho → Sto → Prop} (hl : Sto.le σ' σ) (h : WB Γ n env sts ρ σ' Q) : WB Γ n env sts ρ σ Q := fun A s ν g hA hT F S => h A s ν g hA hT F (S.le hl)
theorem WB.less {sts : List Stmt} {ρ' : Rho} {Q : Fl → Rho → Sto → Prop} (le : ∀ x d, ρ'.lookup x = some d → ρ.lookup x = some d) (h : WB Γ n env sts ρ' σ Q) : WB Γ n env sts ρ σ Q := fun A s ν g hA hT F S => h A s ν g hA hT (F.less le) S
theorem WB.mono {sts : List Stmt} {Q Q' : Fl → Rho → Sto → Prop} (h : WB Γ n env sts ρ σ Q) (hq : ∀ f ρ σ, Q f ρ σ → Q' f ρ σ) : WB Γ n env sts ρ σ Q' := fun A s ν g hA hT F S =>
 wpAny_mono (h A s ν g hA hT F S) (fun f s' ⟨ν', g', σ', ρ', a, b, d, e⟩ => ⟨ν', g', σ', ρ', a, b, d, by cases f with | next => exact hq _ _ _ e | brk => exact hq _ _ _ e | cont => exact hq _ _ _ e | ret v => obtain ⟨d, r, q⟩ := e; exact ⟨d, r, hq _ _ _ q⟩⟩)
  fun e s' ⟨ν', g', σ', ρ', c1, c2, x2, x3, x4, x5, x6⟩ => ⟨ν', g', σ', ρ', c1, c2, x2, x3, x4, x5, hq _ _ _ x6⟩
theorem WS.mono {st : Stmt} {Q Q' : Fl → Rho → Sto → Prop} (h : WS Γ n env st ρ σ Q) (hq : ∀ f ρ σ, Q f ρ σ → Q' f ρ σ) : WS Γ n env st ρ σ Q' := fun A s ν g hA hT F S =>
 wpAny_mono (h A s ν g hA hT F S) (fun f s' ⟨ν', g', σ', ρ', a, b, d, e⟩ => ⟨ν', g', σ', ρ', a, b, d, by cases f with | next => exact hq _ _ _ e | brk => exact hq _ _ _ e | cont => exact hq _ _ _ e | ret v => obtain ⟨d, r, q⟩ := e; exact ⟨d, r, hq _ _ _ q⟩⟩)
  fun e s' ⟨ν', g', σ', ρ', c1, c2, x2, x3, x4, x5, x6⟩ => ⟨ν', g', σ', ρ', c1, c2, x2, x3, x4, x5, hq _ _ _ x6⟩
theorem WE.mono {e : Expr} {Q Q' : V → Sto → Prop} (h : WE Γ n env e ρ σ Q) (hq : ∀ d σ, Q d σ → Q' d σ) : WE Γ n env e ρ σ Q' := fun A s ν g hA F S =>
 wpAny_mono (h A s ν g hA F S) (fun z' z' x => x.mono hq) fun z' z' x => x
end
section
variable {Γ : Cx} {n : Nat} {env : Env} {ρ : Rho} {σ : Sto}
def WV2 (Γ : Cx) (n : Nat) (a b : V) (t : Value → Value → Sem Value) (σ : Sto) (Q : V → Sto → Prop) : Prop :=
 ∀ A s ν g x y, AOK n A ν g s.heap → Sat Γ.prog Γ.w Γ.B σ ν g s → RepV Γ.prog Γ.w ν g x a → RepV Γ.prog Γ.w ν g y b → wpAny (model Γ.prog Γ.w) A (t x y) (PostV Γ [] ν g s Q) Fal s
theorem WE.int {i : Int} {k : Nat} {p : Pos} {Q : V → Sto → Prop} (h : Q (.t (.int i)) σ) : WE Γ n env (.Constant (.int i) k p) ρ σ Q := fun A s ν g z' z' S =>
 wpAny_Constant_int ⟨ν, g, σ, .t _, .toks rfl ⟨rfl, rfl, rfl⟩, S.toks rfl, Rep.int _ _, h⟩
theorem WE.str {x : Str} {k : Nat} {p : Pos} {Q : V → Sto → Prop} (h : Q (.t (.str x)) σ) : WE Γ n env (.Constant (.str x) k p) ρ σ Q := fun A s ν g z' z' S =>
 Calls.Constant_str ⟨ν, g, σ, .t _, .toks rfl ⟨rfl, rfl, rfl⟩, S.toks rfl, Rep.str _ _, h⟩
theorem WE.bool {b : Bool} {k : Nat} {p : Pos} {Q : V → Sto → Prop} (h : Q (.t (.bool b)) σ) : WE Γ n env (.Constant (.bool b) k p) ρ σ Q := fun A s ν g z' z' S =>
 fun z' z' z' => ⟨ν, g, σ, .t _, .refl .., S, Rep.bool _, h⟩
theorem WE.none {k : Nat} {p : Pos} {Q : V → Sto → Prop} (h : Q (.t .none) σ) : WE Γ n env (.Constant .none k p) ρ σ Q := fun A s ν g z' z' S =>
 fun z' z' z' => ⟨ν, g, σ, .t _, .refl .., S, Rep.none, h⟩
theorem WE.name {x : Str} {p : Pos} {d : V} {Q : V → Sto → Prop} (hx : ρ.lookup x = some d) (hk : env.kindOf x = some .local ∨ env.kindOf x = some .cell ∨ env.kindOf x = some .free) (hd : (x == ("__debug__" : Str)) = false) (hc : (x == ("__classdict__" : Str)) = false)
  (h : Q d σ) : WE Γ n env (.Name x p) ρ σ Q := fun A s ν g z' F S => by
 rcases hk with hk | hk | hk
 ·obtain ⟨m, hn, hm⟩ := F.loc
  obtain ⟨v, hv, hr⟩ := hm x d hx hk
  exact wpAny_Name (wpAny_loadName_local F.kind hk hn hv ⟨ν, g, σ, d, .refl .., S, hr, h⟩) hd
 ·obtain ⟨c, v, h1, h2, hr⟩ := F.cel x d hx (.inl hk)
  exact wpAny_Name (wpAny_loadName_cell F.kind hk h1 h2 ⟨ν, g, σ, d, .refl .., S, hr, h⟩) hd
 ·obtain ⟨c, v, h1, h2, hr⟩ := F.cel x d hx (.inr hk)
  exact wpAny_Name (wpAny_loadName_free F.kind hk h1 h2 ⟨ν, g, σ, d, .refl .., S, hr, h⟩ hc) hd
theorem WE.binop {l r : Expr} {op : Operator} {p : Pos} {Q : V → Sto → Prop}
  (h : WE Γ n env l ρ σ fun a σ₁ => WE Γ n env r ρ σ₁ fun b σ₂ => WV2 Γ n a b (binaryOp op) σ₂ Q) : WE Γ n env (.BinOp l op r p) ρ σ Q := fun A s ν g hA F S => by
 refine wpAny_BinOp (seqV (h A s ν g hA F S) fun a s₁ ν₁ g₁ σ₁ d₁ st₁ S₁ r₁ q₁ => seqV (q₁ A s₁ ν₁ g₁ (hA.step st₁) (F.step st₁) S₁) fun b s₂ ν₂ g₂ σ₂ d₂ st₂ S₂ r₂ q₂ => ?_)
 exact wpAny_mono (q₂ A s₂ ν₂ g₂ a b (hA.step (st₁.trans st₂)) S₂ (st₂.rep r₁) r₂) (fun v s' x => x.tr (st₁.trans st₂)) fun z' z' x => x
theorem FrameOK.storeL {ν : List Addr} {g h h' : Heap} (F : FrameOK Γ.prog Γ.w env ρ ν g h) {x : Str} {v : Value} {d : V} (hk : env.kindOf x = some .local) (r : RepV Γ.prog Γ.w ν g v d) {m : Str → Option Value}
  (hm : ∀ x d, ρ.lookup x = some d → env.kindOf x = some .local → ∃ v, m x = some v ∧ RepV Γ.prog Γ.w ν g v d) (hn : h'.Ns env.locals fun y => if y = x then some v else m y) (hs : Heap.SameBut env.locals h h') : FrameOK Γ.prog Γ.w env (put ρ x d) ν g h' := by
 refine ⟨F.kind, F.glb, F.blt, ⟨_, hn, fun y e hy hky => ?_⟩, fun y e hy hky => ?_, fun y hky => ?_, F.offL, fun y c hc => ?_, F.injC⟩
 ·rw [lookup_put] at hy
  by_cases q : y = x
  ·rw [if_pos q] at hy ⊢; cases hy; exact ⟨v, rfl, r⟩
  ·rw [if_neg q] at hy ⊢; exact hm y e hy hky
 ·rw [lookup_put] at hy
  have q : ¬ y = x := fun q => by subst q; rw [hk] at hky; rcases hky with z | z <;> cases z
  rw [if_neg q] at hy
  obtain ⟨c, u, h1, ⟨o, ho, hd⟩, hr⟩ := F.cel y e hy hky
  exact ⟨c, u, h1, ⟨o, (hs.2 c (F.offC y c h1).2.2.1).trans ho, hd⟩, hr⟩
 ·obtain ⟨c, ov, h1, ⟨o, ho, hd⟩⟩ := F.has y hky
  exact ⟨c, ov, h1, o, (hs.2 c (F.offC y c h1).2.2.1).trans ho, hd⟩
 ·obtain ⟨a, b, c', o, ho⟩ := F.offC y c hc
  exact ⟨a, b, c', o, (hs.2 c c').trans ho⟩
theorem FrameOK.storeC {ν : List Addr} {g h h' : Heap} (F : FrameOK Γ.prog Γ.w env ρ ν g h) {x : Str} {c : Addr} {v : Value} {d : V} (hk : env.kindOf x = some .cell) (hc : env.cells.lookup x = some c) (r : RepV Γ.prog Γ.w ν g v d)
  (hn : h'.IsCell c (some v)) (hs : Heap.SameBut c h h') : FrameOK Γ.prog Γ.w env (put ρ x d) ν g h' := by
 have off := F.offC x c hc
 refine ⟨F.kind, F.glb, F.blt, ?_, fun y e hy hky => ?_, fun y hky => ?_, F.offL, fun y c' hc' => ?_, F.injC⟩
 ·obtain ⟨m, hm, hv⟩ := F.loc
  refine ⟨m, hm.sameBut hs off.2.2.1.symm, fun y e hy hky => ?_⟩
  rw [lookup_put] at hy
  have q : ¬ y = x := fun q => by subst q; rw [hk] at hky; cases hky
  rw [if_neg q] at hy
  exact hv y e hy hky
 ·rw [lookup_put] at hy
  by_cases q : y = x
  ·subst q
   rw [if_pos rfl] at hy; cases hy
   exact ⟨c, v, hc, hn, r⟩
  ·rw [if_neg q] at hy
   obtain ⟨c', u, h1, ⟨o, ho, hd⟩, hr⟩ := F.cel y e hy hky
   have ne : c' ≠ c := fun z => q (F.injC y x c' h1 (z ▸ hc))
   exact ⟨c', u, h1, ⟨o, (hs.2 c' ne).trans ho, hd⟩, hr⟩
 ·by_cases q : y = x
  ·subst q; exact ⟨c, _, hc, hn⟩
  ·obtain ⟨c', ov, h1, ⟨o, ho, hd⟩⟩ := F.has y hky
   have ne : c' ≠ c := fun z => q (F.injC y x c' h1 (z ▸ hc))
   exact ⟨c', ov, h1, o, (hs.2 c' ne).trans ho, hd⟩
 ·obtain ⟨a, b, e, o, ho⟩ := F.offC y c' hc'
  by_cases q : c' = c
  ·subst q; obtain ⟨oc, hoc, _⟩ := hn; exact ⟨a, b, e, oc, hoc⟩
  ·exact ⟨a, b, e, o, (hs.2 c' q).trans ho⟩
theorem Sat.off1 {ν : List Addr} {g : Heap} {s : Shared} {h' : Heap} {a : Addr} {t : Nat} (S : Sat Γ.prog Γ.w Γ.B σ ν g s) (ha : a ∉ ν) (hg : g.get? a = none) (hs : Heap.SameBut a s.heap h') (hst : ∃ o, h'.get? a = some o ∧ ((∀ o₀, s.heap.get? a = some o₀ → Obj.noF o₀ → Obj.noF o))) :
  Sat Γ.prog Γ.w Γ.B σ ν g { s with heap := h', toks := t } ∧ Step [a] ν g s ν g { s with heap := h', toks := t } := by
 refine ⟨⟨S.base, fun b o e => (hs.2 b fun q => by rw [q, hg] at e; cases e).trans (S.sub b o e), fun b hb => let ⟨o, ho⟩ := S.held b hb; ⟨o, (hs.2 b fun q => ha (q ▸ hb)).trans ho⟩, S.nd, S.dom, S.off, fun i b ao h1 h2 => ?_⟩,
  ⟨fun b o e hb hX => ⟨o, (hs.2 b fun q => hX (q ▸ .head _)).trans e, .refl o⟩, fun b o e hb z => ?_, fun z' z' e => e, fun z' z' e => .inl e, List.prefix_refl _, fun z' h => .inl h, fun b e => ?_, ⟨rfl, rfl, rfl⟩⟩⟩
 ·obtain ⟨o, ho, r⟩ := S.own i b ao h1 h2
  exact ⟨o, (hs.2 b fun q => ha (q ▸ List.mem_of_getElem? h1)).trans ho, r⟩
 ·by_cases q : b = a
  ·subst q; obtain ⟨o', ho', hn⟩ := hst; exact ⟨o', ho', hn o e z⟩
  ·exact ⟨o, (hs.2 b q).trans e, z⟩
 ·by_cases q : b = a
  ·subst q; obtain ⟨o, ho, _⟩ := hst; rw [ho] at e; cases e
  ·rw [← hs.2 b q]; exact e
theorem store_ok {ν : List Addr} {g : Heap} {s : Shared} {A : Around} {x : Str} {v : Value} {d : V} {E : Value → Shared → Prop} (F : FrameOK Γ.prog Γ.w env ρ ν g s.heap) (S : Sat Γ.prog Γ.w Γ.B σ ν g s) (hk : env.kindOf x = some .local ∨ env.kindOf x = some .cell) (r : RepV Γ.prog Γ.w ν g v d)
  {K : Unit → Shared → Prop} (k : ∀ s', Step (frA env) ν g s ν g s' → FrameOK Γ.prog Γ.w env (put ρ x d) ν g s'.heap → Sat Γ.prog Γ.w Γ.B σ ν g s' → K () s') : wpAny (model Γ.prog Γ.w) A (storeName env x v) K E s := by
 rcases hk with hk | hk
 ·obtain ⟨m, hn, hm⟩ := F.loc
  refine wpAny_storeName_local hk hn (fun h' hn' hs => ?_) (by rw [F.kind]; rfl)
  obtain ⟨S', st⟩ := S.off1 (t := s.toks + 1) F.offL.1 F.offL.2 hs (let ⟨o, _, _, ho, hd, _⟩ := hn'; ⟨o, ho, fun z' z' z' => ⟨_, _, hd⟩⟩)
  exact k _ (st.weak fun b hb => by obtain rfl := List.mem_singleton.mp hb; exact .head _) (F.storeL hk r hm hn' hs) S'
 ·obtain ⟨c, ov, hc, hcell⟩ := F.has x hk
  have off := F.offC x c hc
  refine wpAny_storeName_cell F.kind hk hc hcell fun h' hn' hs => ?_
  obtain ⟨S', st⟩ := S.off1 (t := s.toks) off.1 off.2.1 hs (let ⟨o, ho, hd⟩ := hn'; ⟨o, ho, fun o₀ e₀ ⟨es, m, q⟩ => by obtain ⟨o₁, ho₁, hd₁⟩ := hcell; rw [ho₁] at e₀; cases e₀; rw [hd₁] at q; cases q⟩)
  exact k _ (st.weak fun b hb => by obtain rfl := List.mem_singleton.mp hb; exact mem_frA hc) (F.storeC hk hc r hn' hs) S'
theorem WS.assign {x : Str} {px p : Pos} {e : Expr} {Q : Fl → Rho → Sto → Prop} (hk : env.kindOf x = some .local ∨ env.kindOf x = some .cell) (hsw : ∀ env, swapsWith e (some (.Name x px)) p.line env = pure false)
  (h : WE Γ n env e ρ σ fun d σ' => Q .next (put ρ x d) σ') : WS Γ n env (.Assign [.Name x px] e p) ρ σ Q := fun A s ν g hA hT F S => by
 refine wpAny_Assign_Name (seqV (h A s ν g hA F S) fun v s₁ ν₁ g₁ σ₁ d st₁ S₁ r q => ?_) (hsw env)
 exact store_ok (F.step st₁) S₁ hk r fun s' st F' S' => ⟨ν₁, g₁, σ₁, _, st₁.any.trans st, F', S', q⟩
theorem WS.ret {e : Expr} {p : Pos} {Q : Fl → Rho → Sto → Prop} (h : WE Γ n env e ρ σ fun d σ' => Q (.ret d) ρ σ') : WS Γ n env (.Return (some e) p) ρ σ Q := fun A s ν g hA hT F S =>
 wpAny_Return_some (seqV (h A s ν g hA F S) fun v s₁ ν₁ g₁ σ₁ d st₁ S₁ r q => ⟨ν₁, g₁, σ₁, ρ, st₁.any, F.step st₁, S₁, d, r, q⟩)
theorem WS.expr {e : Expr} {p : Pos} {Q : Fl → Rho → Sto → Prop} (hsw : ∀ env : Env, env.scope.kind = .function → swapsWith e none p.line env = pure false) (h : WE Γ n env e ρ σ fun z' σ' => Q .next ρ σ') : WS Γ n env (.Expr e p) ρ σ Q := fun A s ν g hA hT F S =>
 wpAny_Expr_any (seqV (h A s ν g hA F S) fun v s₁ ν₁ g₁ σ₁ d st₁ S₁ r q => ⟨ν₁, g₁, σ₁, ρ, st₁.any, F.step st₁, S₁, q⟩) (by unfold interactive; rw [F.kind]; rfl) (hsw env F.kind)
theorem WS.if_ {t : Expr} {b o : List Stmt} {p : Pos} {Q : Fl → Rho → Sto → Prop} (h : WT Γ n env t ρ σ fun c σ' => match c with | true => WB Γ n env b ρ σ' Q | false => WB Γ n env o ρ σ' Q) :
  WS Γ n env (.If t b o p) ρ σ Q := fun A s ν g hA hT F S => by
 refine wpAny_If (seqP (h A s ν g hA F S) fun c s₁ ν₁ g₁ σ₁ st₁ S₁ q => ?_)
 cases c with
 | true => rw [if_pos rfl]; exact wpAny_mono (q A s₁ ν₁ g₁ (hA.step st₁) hT (F.step st₁) S₁) (fun z' z' x => x.trans st₁.any) fun z' z' x => x.trans st₁.any
 | false => rw [if_neg Bool.false_ne_true]; exact wpAny_mono (q A s₁ ν₁ g₁ (hA.step st₁) hT (F.step st₁) S₁) (fun z' z' x => x.trans st₁.any) fun z' z' x => x.trans st₁.any
theorem WE.ifexp {t b o : Expr} {p : Pos} {Q : V → Sto → Prop} (h : WT Γ n env t ρ σ fun c σ' => match c with | true => WE Γ n env b ρ σ' Q | false => WE Γ n env o ρ σ' Q) :
  WE Γ n env (.IfExp t b o p) ρ σ Q := fun A s ν g hA F S => by
 refine wpAny_IfExp (seqP (h A s ν g hA F S) fun c s₁ ν₁ g₁ σ₁ st₁ S₁ q => ?_)
 cases c with
 | true => rw [if_pos rfl]; exact wpAny_mono (q A s₁ ν₁ g₁ (hA.step st₁) (F.step st₁) S₁) (fun z' z' x => x.tr st₁) fun z' z' x => x
 | false => rw [if_neg Bool.false_ne_true]; exact wpAny_mono (q A s₁ ν₁ g₁ (hA.step st₁) (F.step st₁) S₁) (fun z' z' x => x.tr st₁) fun z' z' x => x
inductive BoolQ (Q : Bool → Sto → Prop) (d : V) (σ : Sto) : Prop
 | mk (b : Bool) : d = .t (.bool b) → Q b σ → BoolQ Q d σ
theorem WT.cmp {l r : Expr} {op : CmpOp} {p : Pos} {Q : Bool → Sto → Prop} (hb : behindInMarks op r = false)
  (h : WE Γ n env l ρ σ fun a σ₁ => WE Γ n env r ρ σ₁ fun b σ₂ => WV2 Γ n a b (compareOp op) σ₂ (BoolQ Q)) :
  WT Γ n env (.Compare l [op] [r] p) ρ σ Q := fun A s ν g hA F S => by
 refine wpAny_isTrue_Compare1 (seqV (h A s ν g hA F S) fun a s₁ ν₁ g₁ σ₁ d₁ st₁ S₁ r₁ q₁ => seqV (q₁ A s₁ ν₁ g₁ (hA.step st₁) (F.step st₁) S₁) fun b s₂ ν₂ g₂ σ₂ d₂ st₂ S₂ r₂ q₂ => ?_) hb
 refine seqV (q₂ A s₂ ν₂ g₂ a b (hA.step (st₁.trans st₂)) S₂ (st₂.rep r₁) r₂) fun c s₃ ν₃ g₃ σ₃ d₃ st₃ S₃ r₃ q₃ => ?_
 obtain ⟨c', rfl, q⟩ := q₃
 obtain rfl : c = .bool c' := Rep.inv r₃
 exact wpAny_truthy_bool ⟨ν₃, g₃, σ₃, (st₁.trans st₂).trans st₃, S₃, q⟩
theorem WE.cmp {l r : Expr} {op : CmpOp} {p : Pos} {Q : V → Sto → Prop} (hb : behindInMarks op r = false)
  (h : WE Γ n env l ρ σ fun a σ₁ => WE Γ n env r ρ σ₁ fun b σ₂ => WV2 Γ n a b (compareOp op) σ₂ Q) :
  WE Γ n env (.Compare l [op] [r] p) ρ σ Q := fun A s ν g hA F S => by
 refine wpAny_Compare1 (seqV (h A s ν g hA F S) fun a s₁ ν₁ g₁ σ₁ d₁ st₁ S₁ r₁ q₁ => seqV (q₁ A s₁ ν₁ g₁ (hA.step st₁) (F.step st₁) S₁) fun b s₂ ν₂ g₂ σ₂ d₂ st₂ S₂ r₂ q₂ => ?_) hb
 exact wpAny_mono (q₂ A s₂ ν₂ g₂ a b (hA.step (st₁.trans st₂)) S₂ (st₂.rep r₁) r₂) (fun v s' x => x.tr (st₁.trans st₂)) fun z' z' x => x
theorem WT.not {x : Expr} {p : Pos} {Q : Bool → Sto → Prop} (h : WT Γ n env x ρ σ fun c σ' => Q (!c) σ') : WT Γ n env (.UnaryOp .Not x p) ρ σ Q := fun A s ν g hA F S =>
 wpAny_isTrue_Not (seqP (h A s ν g hA F S) fun c s₁ ν₁ g₁ σ₁ st₁ S₁ q => ⟨ν₁, g₁, σ₁, st₁, S₁, q⟩)
theorem WT.val {e : Expr} {Q : Bool → Sto → Prop} (hs : ∀ env whole, isTrue e env whole = (do let v ← whole; standAt e.pos; holding [v] (truthy v))) (h : WE Γ n env e ρ σ (BoolQ Q)) :
  WT Γ n env e ρ σ Q := fun A s ν g hA F S => by
 refine wpAny_isTrue_value (seqV (h A s ν g hA F S) fun v s₁ ν₁ g₁ σ₁ d st₁ S₁ r q => ?_) (hs _ _)
 obtain ⟨c, rfl, q⟩ := q
 obtain rfl : v = .bool c := Rep.inv r
 exact wpAny_truthy_bool ⟨ν₁, g₁, σ₁, st₁, S₁, q⟩
def WTs (Γ : Cx) (n : Nat) (env : Env) (op : BoolOp) (es : List Expr) (ρ : Rho) (σ : Sto) (Q : Bool → Sto → Prop) : Prop :=
 ∀ A s ν g, AOK n A ν g s.heap → FrameOK Γ.prog Γ.w env ρ ν g s.heap → Sat Γ.prog Γ.w Γ.B σ ν g s → wpAny (model Γ.prog Γ.w) A (allTrue op es env) (PostP Γ [] ν g s Q) Fal s
theorem WT.boolop {op : BoolOp} {es : List Expr} {p : Pos} {Q : Bool → Sto → Prop} (h : WTs Γ n env op es ρ σ Q) : WT Γ n env (.BoolOp op es p) ρ σ Q := fun A s ν g hA F S =>
 wpAny_isTrue_BoolOp (h A s ν g hA F S)
theorem WTs.and_nil {Q : Bool → Sto → Prop} (h : Q true σ) : WTs Γ n env .And [] ρ σ Q := fun A s ν g hA F S => wpAny_allTrue_And_nil ⟨ν, g, σ, .refl .., S, h⟩
theorem WTs.or_nil {Q : Bool → Sto → Prop} (h : Q false σ) : WTs Γ n env .Or [] ρ σ Q := fun A s ν g hA F S => wpAny_allTrue_Or_nil ⟨ν, g, σ, .refl .., S, h⟩
theorem WTs.and_cons {e : Expr} {es : List Expr} {Q : Bool → Sto → Prop} (h : WT Γ n env e ρ σ fun c σ' => match c with | true => WTs Γ n env .And es ρ σ' Q | false => Q false σ') : WTs Γ n env .And (e :: es) ρ σ Q := fun A s ν g hA F S => by
 refine wpAny_allTrue_And_cons (seqP (h A s ν g hA F S) fun c s₁ ν₁ g₁ σ₁ st₁ S₁ q => ?_)
 cases c with
 | true => rw [if_pos rfl]; exact wpAny_mono (q A s₁ ν₁ g₁ (hA.step st₁) (F.step st₁) S₁) (fun z' z' x => x.tr st₁) fun z' z' x => x
 | false => rw [if_neg Bool.false_ne_true]; exact ⟨ν₁, g₁, σ₁, st₁, S₁, q⟩
theorem WTs.or_cons {e : Expr} {es : List Expr} {Q : Bool → Sto → Prop} (h : WT Γ n env e ρ σ fun c σ' => match c with | false => WTs Γ n env .Or es ρ σ' Q | true => Q true σ') : WTs Γ n env .Or (e :: es) ρ σ Q := fun A s ν g hA F S => by
 refine wpAny_allTrue_Or_cons (seqP (h A s ν g hA F S) fun c s₁ ν₁ g₁ σ₁ st₁ S₁ q => ?_)
 cases c with
 | false => rw [if_neg Bool.false_ne_true]; exact wpAny_mono (q A s₁ ν₁ g₁ (hA.step st₁) (F.step st₁) S₁) (fun z' z' x => x.tr st₁) fun z' z' x => x
 | true => rw [if_pos rfl]; exact ⟨ν₁, g₁, σ₁, st₁, S₁, q⟩
end
set_option tactic.hygienic true in
theorem cellsFrom_has : ∀ (names : List (Str × NameKind)) (n : Nat) (acc : List (Str × Addr)) (x : Str), ((∃ c, acc.lookup x = some c) ∨ (x, NameKind.cell) ∈ names) → ∃ c, (cellsFrom n names acc).lookup x = some c
 | [], n, acc, x, h => h.elim id fun q => (nomatch q)
 | (y, k) :: r, n, acc, x, h => by
  unfold cellsFrom
  have step : ∀ acc' : List (Str × Addr), (∃ c, acc.lookup x = some c) ∨ (x, NameKind.cell) ∈ (y, k) :: r → ((∃ c, acc.lookup x = some c) → ∃ c, acc'.lookup x = some c) → ((x, NameKind.cell) = (y, k) → ∃ c, acc'.lookup x = some c) → (∃ c, acc'.lookup x = some c) ∨ (x, NameKind.cell) ∈ r := fun acc' h h1 h2 => by
   rcases h with h | h
   ·exact .inl (h1 h)
   ·rcases List.mem_cons.mp h with h | h
    ·exact .inl (h2 h)
    ·exact .inr h
  split
  ·rename_i hk
   refine cellsFrom_has r _ _ x (step _ h (fun ⟨c, hc⟩ => ?_) fun q => ?_)
   ·rw [List.lookup_cons]; cases x == y <;> simp [hc]
   ·cases q; exact ⟨n, by simp⟩
  ·rename_i hk
   refine cellsFrom_has r _ _ x (step _ h id fun q => ?_)
   cases q; exact absurd rfl hk
theorem mem_of_lookup_kind {names : List (Str × NameKind)} {x : Str} {k : NameKind} (h : names.lookup x = some k) : (x, k) ∈ names := PySem.mem_of_lookup h
theorem cellsFrom_lookup {names : List (Str × NameKind)} {n : Nat} {x : Str} (h : names.lookup x = some .cell) : ∃ c, (cellsFrom n names []).lookup x = some c := cellsFrom_has names n [] x (.inr (mem_of_lookup_kind h))
def RepB (prog : Program) (w : World) (ν : List Addr) (g : Heap) (p : Str × Value) (q : Str × V) : Prop := p.1 = q.1 ∧ RepV prog w ν g p.2 q.2
section
variable {prog : Program} {w : World} {ν : List Addr} {g : Heap} {kindOf : Str → Option NameKind}
theorem bindL_pass : ∀ (binds : List (Str × Value)) (m : Str → Option Value) (x : Str), (∀ p ∈ binds, p.1 ≠ x) → bindL kindOf binds m x = m x
 | [], m, x, _ => rfl
 | (y, v) :: r, m, x, h => by
  unfold bindL
  rw [bindL_pass r _ x fun p hp => h p (.tail _ hp)]
  split
  ·exact if_neg (Ne.symm (h (y, v) (.head _)))
  ·rfl
theorem bindC_pass : ∀ (binds : List (Str × Value)) (m : Str → Option Value) (x : Str), (∀ p ∈ binds, p.1 ≠ x) → bindC kindOf binds m x = m x
 | [], m, x, _ => rfl
 | (y, v) :: r, m, x, h => by
  unfold bindC
  rw [bindC_pass r _ x fun p hp => h p (.tail _ hp)]
  split
  ·rfl
  ·exact if_neg (Ne.symm (h (y, v) (.head _)))
theorem repB_mem {b : List (Str × Value)} {ρ : Rho} {p : Str × Value} (t : All2 (RepB prog w ν g) b ρ) (hp : p ∈ b) : p.1 ∈ ρ.map (·.1) := by
 induction t with
 | nil => cases hp
 | cons q _ ih =>
  rcases List.mem_cons.mp hp with rfl | hp
  ·rw [q.1]; exact .head _
  ·exact .tail _ (ih hp)
theorem bindL_at {binds : List (Str × Value)} {ρ : Rho} (hb : All2 (RepB prog w ν g) binds ρ) (hn : (ρ.map (·.1)).Nodup) (m : Str → Option Value) (x : Str) (d : V) (h : ρ.lookup x = some d) (hk : kindOf x = some .local) : ∃ v, bindL kindOf binds m x = some v ∧ RepV prog w ν g v d := by
 induction hb generalizing m with
 | nil => cases h
 | @cons p q r ρ hp t ih =>
  obtain ⟨y, v⟩ := p
  obtain ⟨z, e⟩ := q
  obtain ⟨h1, h2⟩ := hp
  dsimp only at h1 h2; subst h1
  rw [List.map_cons, List.nodup_cons] at hn
  rw [List.lookup_cons] at h
  unfold bindL
  by_cases q : x = y
  ·subst q
   simp only [beq_self_eq_true, Option.some.injEq] at h
   subst h
   refine ⟨v, ?_, h2⟩
   rw [bindL_pass r _ x fun p hp e => hn.1 ?_, if_pos hk]
   ·exact if_pos rfl
   ·exact e ▸ repB_mem t hp
  ·have : (x == y) = false := by simpa using q
   simp only [this] at h
   exact ih hn.2 _ h
theorem bindC_at {binds : List (Str × Value)} {ρ : Rho} (hb : All2 (RepB prog w ν g) binds ρ) (hn : (ρ.map (·.1)).Nodup) (m : Str → Option Value) (x : Str) (d : V) (h : ρ.lookup x = some d) (hk : kindOf x ≠ some .local) : ∃ v, bindC kindOf binds m x = some v ∧ RepV prog w ν g v d := by
 induction hb generalizing m with
 | nil => cases h
 | @cons p q r ρ hp t ih =>
  obtain ⟨y, v⟩ := p
  obtain ⟨z, e⟩ := q
  obtain ⟨h1, h2⟩ := hp
  dsimp only at h1 h2; subst h1
  rw [List.map_cons, List.nodup_cons] at hn
  rw [List.lookup_cons] at h
  unfold bindC
  by_cases q : x = y
  ·subst q
   simp only [beq_self_eq_true, Option.some.injEq] at h
   subst h
   refine ⟨v, ?_, h2⟩
   rw [bindC_pass r _ x fun p hp e => hn.1 ?_, if_neg hk]
   ·exact if_pos rfl
   ·exact e ▸ repB_mem t hp
  ·have : (x == y) = false := by simpa using q
   simp only [this] at h
   exact ih hn.2 _ h
theorem RepB.names {binds : List (Str × Value)} {ρ : Rho} (t : All2 (RepB prog w ν g) binds ρ) {p : Str × Value} (hp : p ∈ binds) : ∃ q ∈ ρ, q.1 = p.1 := by
 induction t with
 | nil => cases hp
 | cons q _ ih =>
  rcases List.mem_cons.mp hp with rfl | hp
  ·exact ⟨_, .head _, q.1.symm⟩
  ·obtain ⟨z, hz, e⟩ := ih hp; exact ⟨z, .tail _ hz, e⟩
end
structure HasFn (Γ : Cx) (a : Addr) (fd : FuncData) : Prop where
 at_ : ∀ h, Γ.B.P h → ∃ o, h.get? a = some o ∧ o.cls = .type "function" ∧ o.dict = none ∧ o.data = .func fd
 lim : ∀ h, Γ.B.P h → h.NoLimit
 code : ∀ h, Γ.B.P h → h.CodeRec fd.code fd.qualname
def WC (Γ : Cx) (n : Nat) (f : Value) (ds : List V) (σ : Sto) (Q : V → Sto → Prop) : Prop :=
 ∀ A s ν g xs, AOK n A ν g s.heap → Sat Γ.prog Γ.w Γ.B σ ν g s → All2 (RepV Γ.prog Γ.w ν g) xs ds → wpAny (model Γ.prog Γ.w) A (call f xs) (PostV Γ [] ν g s Q) Fal s
def WCc (Γ : Cx) (n : Nat) (f : Value) (ds : List V) (σ : Sto) (Q : V → Sto → Prop) : Prop :=
 ∀ A s ν g xs, AOK n A ν g s.heap → Sat Γ.prog Γ.w Γ.B σ ν g s → All2 (RepV Γ.prog Γ.w ν g) xs ds → codeAny (model Γ.prog Γ.w) A (.call f ⟨xs, []⟩) (fun r s' => match r with | .ok (.ret v) => PostV Γ [] ν g s Q v s' | _ => False) s
inductive PostXC (Γ : Cx) (ν : List Addr) (g : Heap) (s : Shared) (X : Str → Str → Sto → Prop) (e : Value) (s' : Shared) : Prop
 | mk (ν' : List Addr) (g' : Heap) (σ' : Sto) (code why : Str) : Step [] ν g s ν' g' s' → Sat Γ.prog Γ.w Γ.B σ' ν' g' s' → XRep false σ' ν' g' s'.heap e code why → X code why σ' → PostXC Γ ν g s X e s'
def WCX (Γ : Cx) (n : Nat) (f : Value) (ds : List V) (σ : Sto) (Q : V → Sto → Prop) (X : Str → Str → Sto → Prop) : Prop :=
 ∀ A s ν g xs, AOK n A ν g s.heap → Sat Γ.prog Γ.w Γ.B σ ν g s → All2 (RepV Γ.prog Γ.w ν g) xs ds → wpAny (model Γ.prog Γ.w) A (call f xs) (PostV Γ [] ν g s Q) (PostXC Γ ν g s X) s
def Binds (Γ : Cx) (fd : FuncData) (ds : List V) (ρ : Rho) : Prop :=
 ∀ ν g s xs, Γ.B.P s.heap → Γ.B.P g → All2 (RepV Γ.prog Γ.w ν g) xs ds → ∃ binds, BindsTo s fd ⟨xs, []⟩ binds ∧ All2 (RepB Γ.prog Γ.w ν g) binds ρ
noncomputable abbrev fenv (fd : FuncData) (L a : Addr) : Env := newEnv fd.scope L fd.globals (cellsFrom (L + 1) fd.scope.names []) (fd.qualname ++ ".<locals>.") (some a) fd.code none fd.builtins
def envIs (fd : FuncData) (a : Addr) (env : Env) : Prop := ∃ L, env = fenv fd L a
section
variable {Γ : Cx} {n : Nat} {σ : Sto}
theorem AOK.deeper {A : Around} {ν : List Addr} {g h : Heap} {env : Env} (x : AOK (n + 1) A ν g h) (hk : env.scope.kind ≠ .module) (hf : ∃ L, env.frame = some L ∧ L ∉ ν ∧ g.get? L = none ∧ ∃ o, h.get? L = some o ∧ Obj.noF o) : AOK n (A.deeper env) ν g h := by
 refine ⟨x.hd, ?_, ?_, ?_⟩
 ·have := x.dp; show A.depth + 1 + n < _; lia
 ·have := x.un; show A.units + 3 + 4 * n + 200 < _; lia
 ·obtain ⟨l, hl, hr⟩ := x.fr
  refine ⟨env :: l, by show A.frames.map _ = _; rw [hl]; rfl, fun e he => ?_⟩
  rcases List.mem_cons.mp he with rfl | he
  ·exact ⟨hk, hf⟩
  ·exact hr e he
theorem frame_new {fd : FuncData} {a : Addr} {ν : List Addr} {g : Heap} {s s' : Shared} {ρ : Rho} {binds : List (Str × Value)} {env : Env}
  (S : Sat Γ.prog Γ.w Γ.B σ ν g s) (he : env = fenv fd s.heap.objs.size a)
  (x : InCallC s env.locals (bindL env.kindOf binds fun z' => none) env.cells (bindC env.kindOf binds fun z' => none) s')
  (hb : All2 (RepB Γ.prog Γ.w ν g) binds ρ) (hn : (ρ.map (·.1)).Nodup) (hg : fd.globals = mainGlobals) (hbt : fd.builtins = builtinsNs) (hk : fd.scope.kind = .function) (hkind : ∀ p ∈ ρ, fd.scope.names.lookup p.1 = some .local ∨ fd.scope.names.lookup p.1 = some .cell) :
  FrameOK Γ.prog Γ.w env ρ ν g s'.heap ∧ (∀ b ∈ frA env, s.heap.get? b = none) ∧ ∃ h' tk, s' = { s with heap := h', toks := tk } ∧ HeapLe s.heap h' := by
 have hcells : env.cells = cellsFrom (s.heap.objs.size + 1) fd.scope.names [] := by subst he; rfl
 have hloc : env.locals = s.heap.objs.size := by subst he; rfl
 have hsc : env.scope = fd.scope := by subst he; rfl
 have hlook : ∀ y c, env.cells.lookup y = some c → s.heap.get? c = none ∧ c ≠ env.locals := fun y c hc => by
  have q := x.above y c (PySem.mem_of_lookup hc)
  refine ⟨?_, Nat.ne_of_gt q⟩
  cases z : s.heap.get? c with
  | none => rfl
  | some o => have := Heap.lt_size z; rw [hloc] at q; exact absurd this (Nat.not_lt.mpr (Nat.le_of_lt q))
 have hL : s.heap.get? env.locals = none := by rw [hloc]; exact get?_size _
 have off : ∀ b, s.heap.get? b = none → b ∉ ν ∧ g.get? b = none := fun b hb => by
  refine ⟨fun q => ?_, ?_⟩
  ·obtain ⟨o, ho⟩ := S.held b q; rw [hb] at ho; cases ho
  ·cases z : g.get? b with
   | none => rfl
   | some o => rw [S.sub _ _ z] at hb; cases hb
 refine ⟨⟨by rw [hsc]; exact hk, by subst he; exact hg, by subst he; exact hbt, ⟨_, x.toInCall.ns, fun y d hy hky => bindL_at hb hn _ y d hy hky⟩, fun y d hy hky => ?_, fun y hky => ?_, off _ hL, fun y c hc => ?_, fun y z c h1 h2 => ?_⟩, fun b hb => ?_, ?_⟩
 ·rcases hky with hky | hky
  ·have hky' : fd.scope.names.lookup y = some .cell := by rw [← hsc]; exact hky
   obtain ⟨c, hc⟩ := cellsFrom_lookup (n := s.heap.objs.size + 1) hky'
   rw [← hcells] at hc
   obtain ⟨v, hv, hr⟩ := bindC_at (kindOf := env.kindOf) hb hn (fun z' => none) y d hy (by rw [hky]; decide)
   exact ⟨c, v, hc, hv ▸ x.cell y c hc, hr⟩
  ·have hky' : fd.scope.names.lookup y = some .free := by rw [← hsc]; exact hky
   rcases hkind _ (PySem.mem_of_lookup hy) with q | q <;> (dsimp only at q; rw [hky'] at q; cases q)
 ·have hky' : fd.scope.names.lookup y = some .cell := by rw [← hsc]; exact hky
  obtain ⟨c, hc⟩ := cellsFrom_lookup (n := s.heap.objs.size + 1) hky'
  rw [← hcells] at hc
  exact ⟨c, _, hc, x.cell y c hc⟩
 ·obtain ⟨h1, h2⟩ := hlook y c hc
  obtain ⟨o, ho, _⟩ := x.cell y c hc
  exact ⟨(off c h1).1, (off c h1).2, h2, o, ho⟩
 ·exact name_of_addr x.apart (PySem.mem_of_lookup h1) (PySem.mem_of_lookup h2)
 ·rcases frA_mem hb with rfl | ⟨y, hy⟩
  ·exact hL
  ·exact (hlook y b hy).1
 ·obtain ⟨h', tk, e⟩ := x.toInCall.same
  exact ⟨h', tk, e, by have := x.toInCall.keep; rw [e] at this; exact this⟩
abbrev retM (Q : V → Sto → Prop) (fl : Fl) (σ : Sto) : Prop := match fl with
 | .ret d => Q d σ
 | .next => Q (.t .none) σ
 | _ => False
inductive retQ (Q : V → Sto → Prop) (fl : Fl) (ρ : Rho) (σ' : Sto) : Prop
 | mk (σ'' : Sto) : Sto.le σ'' σ' → retM Q fl σ'' → retQ Q fl ρ σ'
theorem WCc.fn {a : Addr} {fd : FuncData} {body : List Stmt} {ds : List V} {ρ : Rho} {Q : V → Sto → Prop} (H : HasFn Γ a fd) (hbody : fd.body = .stmts body) (hb : Binds Γ fd ds ρ)
  (h : ∀ env, envIs fd a env → WB Γ n env body ρ σ (retQ Q))
  (hn : (ρ.map (·.1)).Nodup := by decide) (hkind : ∀ p ∈ ρ, fd.scope.names.lookup p.1 = some .local ∨ fd.scope.names.lookup p.1 = some .cell := by decide)
  (hg : autoParam (fd.globals = mainGlobals) rfl0S) (hbt : autoParam (fd.builtins = builtinsNs) rfl0S) (hco : autoParam (fd.scope.isCoroutine = false) rfl0S) (hgen : autoParam (fd.scope.isGenerator = false) rfl0S) (hk : autoParam (fd.scope.kind = .function) rfl0S) (hclo : autoParam (fd.closure = []) rfl0S) :
  WCc Γ (n + 1) (.ref a) ds σ Q := fun A s ν g xs hA S r => by
 have hP : Γ.B.P s.heap := Γ.B.mono _ _ S.sub S.base
 obtain ⟨binds, hbi, hbr⟩ := hb ν g s xs hP S.base r
 obtain ⟨o, ho, hoc, hod, hdata⟩ := H.at_ _ hP
 have hlim := H.lim _ hP
 refine codeAny_call_function hA.room ho hdata hco hgen hbody (H.code _ hP) (hbi _ _ _ _ ?_)
 rw [hclo]
 refine wpAny_newFunctionEnv_cells hk (fun x hx => ?_) fun env he s' x => ?_
 ·obtain ⟨q, hq, e⟩ := RepB.names hbr hx
  rw [← e]
  rcases hkind q hq with z | z
  ·exact .inl z
  ·exact .inr ⟨z, by obtain ⟨c, hc⟩ := cellsFrom_lookup (n := s.heap.objs.size + 1) z; rw [hc]; rfl⟩
 obtain ⟨F, fresh, h', tk, rfl, hle⟩ := frame_new S (fd := fd) (a := a) he x hbr hn hg hbt hk hkind
 have S' := S.ext hle (t := tk)
 have st : Step [] ν g s ν g { s with heap := h', toks := tk } := .ext hle
 have hfr : env.frame = some env.locals := by subst he; rfl
 have hA' : AOK n (A.deeper env) ν g h' := (hA.step st).deeper (by rw [F.kind]; decide) ⟨env.locals, hfr, F.offL.1, F.offL.2, by
  obtain ⟨o, es, ep, ho, hd, _⟩ := x.toInCall.ns
  exact ⟨o, ho, _, _, hd⟩⟩
 refine ⟨hlim.keeps hle, codeAny_func (wpAny_mono (h env ⟨_, he⟩ (A.deeper env) _ ν g hA' ?_ F S') (fun f s₂ hp => ?_) fun e s₂ hp => ?_)⟩
 ·obtain ⟨l, hl, _⟩ := hA.fr
  exact ⟨l, by show A.frames.map _ = _; rw [hl]; rfl⟩
 ·obtain ⟨ν', g', σ', ρ', st', F', S₂, q⟩ := hp
  have st₂ : Step [] ν g s ν' g' s₂ := st.trans' st' fun b hb => .inr (fresh b hb)
  cases f with
  | next => obtain ⟨σ'', hl, q⟩ := q; exact ⟨ν', g', σ'', .t .none, st₂, S₂.le hl, Rep.none, q⟩
  | brk => obtain ⟨_, _, q⟩ := q; exact q.elim
  | cont => obtain ⟨_, _, q⟩ := q; exact q.elim
  | ret v => obtain ⟨d, r, σ'', hl, q⟩ := q; exact ⟨ν', g', σ'', d, st₂, S₂.le hl, r, q⟩
 ·obtain ⟨_, _, _, _, _, _, _, _, _, _, _, _, q⟩ := hp
  exact q.elim
theorem WCc.wc {f : Value} {ds : List V} {Q : V → Sto → Prop} (h : WCc Γ n f ds σ Q) : WC Γ n f ds σ Q := fun A s ν g xs hA S r =>
 wpAny_call (codeAny_mono (h A s ν g xs hA S r) fun r s' hr => by
  rcases r with e | (v | _ | _ | _) <;> first | exact hr | exact hr.elim)
end
def GlobV (Γ : Cx) (x : Str) (v : Value) : Prop := ∀ h, Γ.B.P h → ∃ mg, h.Ns mainGlobals mg ∧ (mg x = some v ∨ (mg x = none ∧ ∃ mb, h.Ns builtinsNs mb ∧ mb x = some v))
def Callee (Γ : Cx) (f : Value) : Prop := ∀ h, Γ.B.P h → ∃ k, (k = Keeper.frame ∨ k = Keeper.machine ∨ k = Keeper.boundFrame) ∧ Looks (model Γ.prog Γ.w) h (keeperOf f) k
section
variable {Γ : Cx} {n : Nat} {env : Env} {ρ : Rho} {σ : Sto}
theorem glob_any {A : Around} {E : Value → Shared → Prop} {s : Shared} {ν : List Addr} {g : Heap} {x : Str} {p : Pos} {v : Value} {Q : Value → Shared → Prop} (F : FrameOK Γ.prog Γ.w env ρ ν g s.heap) (S : Sat Γ.prog Γ.w Γ.B σ ν g s)
  (hk : env.kindOf x = some .globalImplicit) (hg : GlobV Γ x v) (hd : (x == ("__debug__" : Str)) = false) (h : Q v s) : wpAny (model Γ.prog Γ.w) A (eval (.Name x p) env) Q E s := by
 obtain ⟨mg, h1, h2⟩ := hg _ (Γ.B.mono _ _ S.sub S.base)
 refine Calls.Name_function_global F.kind hk ?_ hd
 rcases h2 with h2 | ⟨h2, mb, h3, h4⟩
 ·exact Calls.loadGlobal_global (by rw [F.glb]; exact h1) h2 h
 ·exact Calls.loadGlobal_builtin (by rw [F.glb]; exact h1) h2 (by rw [F.blt]; exact h3) h4 h
theorem WE.glob {x : Str} {p : Pos} {v : Value} {Q : V → Sto → Prop} (hg : GlobV Γ x v) (h : Q (.t (.val v)) σ) (hk : autoParam (env.kindOf x = some .globalImplicit) rfl0S) (hd : autoParam ((x == ("__debug__" : Str)) = false) rfl0S) :
  WE Γ n env (.Name x p) ρ σ Q := fun A s ν g hA F S =>
 glob_any F S hk hg hd ⟨ν, g, σ, .t (.val v), .refl .., S, Rep.val v, h⟩
theorem WEs.nil {pos : Pos} {Q : List V → Sto → Prop} (h : Q [] σ) : WEs Γ n env pos [] ρ σ Q := fun A s ν g hA F S =>
 args_nil ⟨ν, g, σ, [], .refl .., S, .nil, h⟩
theorem WEs.cons {pos : Pos} {e : Expr} {es : List Expr} {Q : List V → Sto → Prop} (h : WE Γ n env e ρ σ fun d σ₁ => WEs Γ n env pos es ρ σ₁ fun ds σ₂ => Q (d :: ds) σ₂)
  (he : autoParam (starEach (e :: es) env = (false, eval e env) :: starEach es env) rfl0S) : WEs Γ n env pos (e :: es) ρ σ Q := fun A s ν g hA F S =>
 args_cons (seqV (h A s ν g hA F S) fun v s₁ ν₁ g₁ σ₁ d st₁ S₁ r₁ q₁ => wpAny_mono (q₁ A s₁ ν₁ g₁ (hA.step st₁) (F.step st₁) S₁)
  (fun vs s₂ ⟨ν₂, g₂, σ₂, ds, st₂, S₂, r₂, q₂⟩ => ⟨ν₂, g₂, σ₂, d :: ds, st₁.trans st₂, S₂, .cons (st₂.rep r₁) r₂, q₂⟩) fun z' z' x => x) he
theorem WE.call {x : Str} {p pos : Pos} {e : Expr} {es : List Expr} {f : Value} {Q : V → Sto → Prop} (hg : GlobV Γ x f) (hc : Callee Γ f)
  (h : WEs Γ n env pos (e :: es) ρ σ fun ds σ' => WC Γ n f ds σ' Q)
  (hk : autoParam (env.kindOf x = some .globalImplicit) rfl0S) (hd : autoParam ((x == ("__debug__" : Str)) = false) rfl0S)
  (hplain : autoParam ((backTo pos (starEach es env)).any (·.1) = false) rfl0S) (hs : autoParam (starEach (e :: es) env = (false, eval e env) :: starEach es env) rfl0S)
  (he : autoParam (eval (.Call (.Name x p) (e :: es) [] pos) env = (do callWith pos (← eval (.Name x p) env) [] (backTo pos (starEach (e :: es) env)) (backToKw pos (keywordEach [] env)))) rfl0S) :
  WE Γ n env (.Call (.Name x p) (e :: es) [] pos) ρ σ Q := fun A s ν g hA F S => by
 refine Call_ (glob_any F S hk hg hd ?_) he
 have h₀ := h A s ν g hA F S
 rw [hs] at h₀ ⊢
 refine callWith_of (P := Γ.B.P) (by show ((false || (backTo pos (starEach es env)).any (·.1)) || false) = false; rw [hplain]; rfl) (fun h hP => hc h hP) (Calls.evalArgs_plain ?_)
 refine seqVs h₀ fun vs s₁ ν₁ g₁ σ₁ ds st₁ S₁ r₁ q₁ => ⟨Γ.B.mono _ _ S₁.sub S₁.base, ?_⟩
 exact wpAny_mono (q₁ A s₁ ν₁ g₁ vs (hA.step st₁) S₁ r₁) (fun v s₂ x => x.tr st₁) fun z' z' x => x.elim
theorem WE.call0 {x : Str} {p pos : Pos} {f : Value} {Q : V → Sto → Prop} (hg : GlobV Γ x f) (hc : Callee Γ f)
  (h : WC Γ n f [] σ Q)
  (hk : autoParam (env.kindOf x = some .globalImplicit) rfl0S) (hd : autoParam ((x == ("__debug__" : Str)) = false) rfl0S)
  (he : autoParam (eval (.Call (.Name x p) [] [] pos) env = (do callWith pos (← eval (.Name x p) env) [] (backTo pos (starEach [] env)) (backToKw pos (keywordEach [] env)))) rfl0S) :
  WE Γ n env (.Call (.Name x p) [] [] pos) ρ σ Q := fun A s ν g hA F S => by
 refine Call_ (glob_any F S hk hg hd ?_) he
 refine callWith_of (P := Γ.B.P) rfl (fun h hP => hc h hP) (evalArgs_nil3 ⟨Γ.B.mono _ _ S.sub S.base, ?_⟩)
 exact wpAny_mono (h A s ν g [] hA S .nil) (fun v s₂ x => x) fun z' z' x => x.elim
theorem repV_ts {ν : List Addr} {g : Heap} {vs : List Value} {ds : List PV} (h : All2 (RepV Γ.prog Γ.w ν g) vs (ds.map .t)) : RepAll Γ.prog Γ.w g vs ds := All2.rep (All2.unmapR (R := RepV Γ.prog Γ.w ν g) (f := .t) h)
theorem ts_repV {ν : List Addr} {g : Heap} {vs : List Value} {ds : List PV} (h : RepAll Γ.prog Γ.w g vs ds) : All2 (RepV Γ.prog Γ.w ν g) vs (ds.map .t) := All2.mapR (R := RepV Γ.prog Γ.w ν g) (f := .t) h.all2
end
section
variable {Γ : Cx} {n : Nat} {env : Env} {ρ : Rho} {σ : Sto} {ν : List Addr} {g : Heap} {s : Shared}
theorem Rep.int_inv {v : Value} {i : Int} (h : Rep Γ.prog Γ.w g v (.int i)) : ∃ t, v = .int i t := h.inv
theorem Rep.str_inv {v : Value} {x : Str} (h : Rep Γ.prog Γ.w g v (.str x)) : ∃ t, v = .str x t := h.inv
theorem Rep.bool_inv {v : Value} {b : Bool} (h : Rep Γ.prog Γ.w g v (.bool b)) : v = .bool b := h.inv
theorem Rep.none_inv {v : Value} (h : Rep Γ.prog Γ.w g v .none) : v = .none := h.inv
theorem Rep.tup_inv {v : Value} {xs : List PV} (h : Rep Γ.prog Γ.w g v (.tup xs)) : ∃ a vs n, v = .ref a ∧ g.get? a = some (tupOf vs n) ∧ RepAll Γ.prog Γ.w g vs.toList xs := h.inv
theorem Rep.lst_inv {v : Value} {xs : List PV} (h : Rep Γ.prog Γ.w g v (.lst xs)) : ∃ a vs n, v = .ref a ∧ g.get? a = some (listOf vs n) ∧ RepAll Γ.prog Γ.w g vs.toList xs := h.inv
theorem postI {i : Int} {t : Tok} {k : Nat} {Q : V → Sto → Prop} (S : Sat Γ.prog Γ.w Γ.B σ ν g s) (h : Q (.t (.int i)) σ) : PostV Γ [] ν g s Q (.int i t) { s with toks := k } :=
 ⟨ν, g, σ, .t (.int i), .toks rfl ⟨rfl, rfl, rfl⟩, S.toks rfl, Rep.int _ _, h⟩
theorem postS {x : Str} {t : Tok} {k : Nat} {Q : V → Sto → Prop} (S : Sat Γ.prog Γ.w Γ.B σ ν g s) (h : Q (.t (.str x)) σ) : PostV Γ [] ν g s Q (.str x t) { s with toks := k } :=
 ⟨ν, g, σ, .t (.str x), .toks rfl ⟨rfl, rfl, rfl⟩, S.toks rfl, Rep.str _ _, h⟩
theorem postB {b : Bool} {Q : V → Sto → Prop} (S : Sat Γ.prog Γ.w Γ.B σ ν g s) (h : Q (.t (.bool b)) σ) : PostV Γ [] ν g s Q (.bool b) s :=
 ⟨ν, g, σ, .t (.bool b), .refl .., S, Rep.bool _, h⟩
theorem v_add {a b : Int} {Q : V → Sto → Prop} (h : Q (.t (.int (a + b))) σ) : WV2 Γ n (.t (.int a)) (.t (.int b)) (binaryOp .Add) σ Q := fun A s ν g x y hA S r1 r2 => by
 obtain ⟨t, rfl⟩ := Rep.int_inv r1; obtain ⟨u, rfl⟩ := Rep.int_inv r2; exact PyProof.Rows.add_int (postI S h)
theorem v_sub {a b : Int} {Q : V → Sto → Prop} (h : Q (.t (.int (a - b))) σ) : WV2 Γ n (.t (.int a)) (.t (.int b)) (binaryOp .Sub) σ Q := fun A s ν g x y hA S r1 r2 => by
 obtain ⟨t, rfl⟩ := Rep.int_inv r1; obtain ⟨u, rfl⟩ := Rep.int_inv r2; exact PyProof.Rows.sub_int (postI S h)
theorem v_mul {a b : Int} {Q : V → Sto → Prop} (hm : IntMulOk a b) (h : Q (.t (.int (a * b))) σ) : WV2 Γ n (.t (.int a)) (.t (.int b)) (binaryOp .Mult) σ Q := fun A s ν g x y hA S r1 r2 => by
 obtain ⟨t, rfl⟩ := Rep.int_inv r1; obtain ⟨u, rfl⟩ := Rep.int_inv r2; exact PyProof.Rows.mul_int (postI S h) hm
theorem v_mod {a b : Int} {Q : V → Sto → Prop} (hb : b ≠ 0) (h : Q (.t (.int (a.fmod b))) σ) : WV2 Γ n (.t (.int a)) (.t (.int b)) (binaryOp .Mod) σ Q := fun A s ν g x y hA S r1 r2 => by
 obtain ⟨t, rfl⟩ := Rep.int_inv r1; obtain ⟨u, rfl⟩ := Rep.int_inv r2; exact PyProof.Rows.mod_int' hb (postI S h)
theorem v_fdiv {a b : Int} {Q : V → Sto → Prop} (hb : b ≠ 0) (hs : b.natAbs < 1073741824) (h : Q (.t (.int (a.fdiv b))) σ) : WV2 Γ n (.t (.int a)) (.t (.int b)) (binaryOp .FloorDiv) σ Q := fun A s ν g x y hA S r1 r2 => by
 obtain ⟨t, rfl⟩ := Rep.int_inv r1; obtain ⟨u, rfl⟩ := Rep.int_inv r2; exact PyProof.Rows.floordiv_int hb (postI S h) (.inl (PyProof.noPylong_small hs))
theorem v_or {a b : Int} {Q : V → Sto → Prop} (h : Q (.t (.int (Builtin.bitOr a b))) σ) : WV2 Γ n (.t (.int a)) (.t (.int b)) (binaryOp .BitOr) σ Q := fun A s ν g x y hA S r1 r2 => by
 obtain ⟨t, rfl⟩ := Rep.int_inv r1; obtain ⟨u, rfl⟩ := Rep.int_inv r2; exact PyProof.Rows.or_int (postI S h)
theorem v_pow {a b : Int} {Q : V → Sto → Prop} (hn : 0 ≤ b) (hsz : (Builtin.Int.intBits a : Int) * b ≤ 2 ^ 27) (h : Q (.t (.int (a ^ b.toNat))) σ) : WV2 Γ n (.t (.int a)) (.t (.int b)) (binaryOp .Pow) σ Q := fun A s ν g x y hA S r1 r2 => by
 obtain ⟨t, rfl⟩ := Rep.int_inv r1; obtain ⟨u, rfl⟩ := Rep.int_inv r2; exact PyProof.Rows.pow_int hn hsz (postI S h)
theorem v_eq {a b : Int} {Q : V → Sto → Prop} (h : Q (.t (.bool (a == b))) σ) : WV2 Γ n (.t (.int a)) (.t (.int b)) (compareOp .Eq) σ Q := fun A s ν g x y hA S r1 r2 => by
 obtain ⟨t, rfl⟩ := Rep.int_inv r1; obtain ⟨u, rfl⟩ := Rep.int_inv r2; exact P.eq_int (postB S h)
theorem v_ne {a b : Int} {Q : V → Sto → Prop} (h : Q (.t (.bool (a != b))) σ) : WV2 Γ n (.t (.int a)) (.t (.int b)) (compareOp .NotEq) σ Q := fun A s ν g x y hA S r1 r2 => by
 obtain ⟨t, rfl⟩ := Rep.int_inv r1; obtain ⟨u, rfl⟩ := Rep.int_inv r2; exact P.ne_int (postB S h)
theorem v_lt {a b : Int} {Q : V → Sto → Prop} (h : Q (.t (.bool (decide (a < b)))) σ) : WV2 Γ n (.t (.int a)) (.t (.int b)) (compareOp .Lt) σ Q := fun A s ν g x y hA S r1 r2 => by
 obtain ⟨t, rfl⟩ := Rep.int_inv r1; obtain ⟨u, rfl⟩ := Rep.int_inv r2; exact P.lt_int (postB S h)
theorem v_le {a b : Int} {Q : V → Sto → Prop} (h : Q (.t (.bool (decide (a ≤ b)))) σ) : WV2 Γ n (.t (.int a)) (.t (.int b)) (compareOp .LtE) σ Q := fun A s ν g x y hA S r1 r2 => by
 obtain ⟨t, rfl⟩ := Rep.int_inv r1; obtain ⟨u, rfl⟩ := Rep.int_inv r2; exact P.le_int (postB S h)
theorem v_gt {a b : Int} {Q : V → Sto → Prop} (h : Q (.t (.bool (decide (b < a)))) σ) : WV2 Γ n (.t (.int a)) (.t (.int b)) (compareOp .Gt) σ Q := fun A s ν g x y hA S r1 r2 => by
 obtain ⟨t, rfl⟩ := Rep.int_inv r1; obtain ⟨u, rfl⟩ := Rep.int_inv r2; exact P.gt_int (postB S h)
theorem v_ge {a b : Int} {Q : V → Sto → Prop} (h : Q (.t (.bool (decide (b ≤ a)))) σ) : WV2 Γ n (.t (.int a)) (.t (.int b)) (compareOp .GtE) σ Q := fun A s ν g x y hA S r1 r2 => by
 obtain ⟨t, rfl⟩ := Rep.int_inv r1; obtain ⟨u, rfl⟩ := Rep.int_inv r2; exact P.ge_int (postB S h)
theorem v_eqS {a b : Str} {Q : V → Sto → Prop} (h : Q (.t (.bool (a == b))) σ) : WV2 Γ n (.t (.str a)) (.t (.str b)) (compareOp .Eq) σ Q := fun A s ν g x y hA S r1 r2 => by
 obtain ⟨t, rfl⟩ := Rep.str_inv r1; obtain ⟨u, rfl⟩ := Rep.str_inv r2; exact PyProof.Rows.eq_str (postB S h)
theorem v_eqF {a b : Str} {Q : Bool → Sto → Prop} (h : Q false σ) (e : autoParam ((a == b) = false) rflS) : WV2 Γ n (.t (.str a)) (.t (.str b)) (compareOp .Eq) σ (BoolQ Q) := v_eqS ⟨false, by rw [e], h⟩
theorem v_eqT {a b : Str} {Q : Bool → Sto → Prop} (h : Q true σ) (e : autoParam ((a == b) = true) rflS) : WV2 Γ n (.t (.str a)) (.t (.str b)) (compareOp .Eq) σ (BoolQ Q) := v_eqS ⟨true, by rw [e], h⟩
theorem v_neS {a b : Str} {Q : V → Sto → Prop} (h : Q (.t (.bool (a != b))) σ) : WV2 Γ n (.t (.str a)) (.t (.str b)) (compareOp .NotEq) σ Q := fun A s ν g x y hA S r1 r2 => by
 obtain ⟨t, rfl⟩ := Rep.str_inv r1; obtain ⟨u, rfl⟩ := Rep.str_inv r2; exact PyProof.Rows.ne_str (postB S h)
theorem v_addS {a b : Str} {Q : V → Sto → Prop} (h : Q (.t (.str (a ++ b))) σ) (hsz : a.length + b.length ≤ sizeLine) : WV2 Γ n (.t (.str a)) (.t (.str b)) (binaryOp .Add) σ Q := fun A s ν g x y hA S r1 r2 => by
 obtain ⟨t, rfl⟩ := Rep.str_inv r1; obtain ⟨u, rfl⟩ := Rep.str_inv r2; exact PyProof.Rows.add_str (fun t' tk => postS S h) hsz
noncomputable def PV.isNone : PV → Bool
 | .none => true
 | _ => false
theorem Rep.isNone {v : Value} {d : PV} (hd : ∀ u, d ≠ .val u) (h : Rep Γ.prog Γ.w g v d) : (v == .none) = d.isNone := by
 replace h := h.inv
 cases d with
 | val => exact absurd rfl (hd _)
 | int | str => exact Exists.elim h fun t e => e ▸ rfl
 | tup | lst => exact Exists.elim h fun a h => Exists.elim h fun b h => Exists.elim h fun c h => h.1 ▸ rfl
 | dct => exact Exists.elim h fun a h => Exists.elim h fun b h => Exists.elim h fun c h => h.1 ▸ rfl
 | obj => exact Exists.elim h fun a h => Exists.elim h fun b h => Exists.elim h fun c h => Exists.elim h fun d h => h.1 ▸ rfl
 | _ => obtain rfl := h; rfl
theorem v_is {d : PV} {Q : V → Sto → Prop} (hd : ∀ u, d ≠ .val u) (h : Q (.t (.bool d.isNone)) σ) : WV2 Γ n (.t d) (.t .none) (compareOp .Is) σ Q := fun A s ν g x y hA S r1 r2 => by
 obtain rfl := Rep.none_inv r2; exact PySem.is_none (by rw [Rep.isNone hd r1]; exact postB S h)
theorem v_isnot {d : PV} {Q : V → Sto → Prop} (hd : ∀ u, d ≠ .val u) (h : Q (.t (.bool (!d.isNone))) σ) : WV2 Γ n (.t d) (.t .none) (compareOp .IsNot) σ Q := fun A s ν g x y hA S r1 r2 => by
 obtain rfl := Rep.none_inv r2; exact PySem.isNot_none (by rw [Rep.isNone hd r1]; exact postB S h)
theorem WE.neg {e : Expr} {p : Pos} {Q : V → Sto → Prop} (h : WE Γ n env e ρ σ fun d σ₁ => ∃ i, d = .t (.int i) ∧ Q (.t (.int (-i))) σ₁) : WE Γ n env (.UnaryOp .USub e p) ρ σ Q := fun A s ν g hA F S =>
 wpAny_UnaryOp (seqV (h A s ν g hA F S) fun v s₁ ν₁ g₁ σ₁ d st₁ S₁ r q => by
  obtain ⟨i, rfl, q⟩ := q
  obtain ⟨t, rfl⟩ := Rep.int_inv r
  exact P.neg_int (PostV.tr (postI S₁ q) st₁))
theorem postF {o : Obj} {a : Addr} {d : PV} {t : Nat} {Q : V → Sto → Prop} (S : Sat Γ.prog Γ.w Γ.B σ ν g s) (hf : o.isFreed = false) (ha : a = s.heap.objs.size) (hr : ∀ g', HeapLe g g' → g'.get? s.heap.objs.size = some o → Rep Γ.prog Γ.w g' (.ref s.heap.objs.size) d) (h : Q (.t d) σ) :
  PostV Γ [] ν g s Q (.ref a) { s with heap := s.heap.push o, toks := t } := by
 subst ha
 obtain ⟨g', st, S', hg⟩ := S.allocF o hf (t := t)
 exact ⟨ν, g', σ, .t d, st, S', hr g' st.grow hg, h⟩
theorem postO {o : Obj} {a : Addr} {ao : AO} {t : Nat} {Q : V → Sto → Prop} (S : Sat Γ.prog Γ.w Γ.B σ ν g s) (hf : o.isFreed = false) (ha : a = s.heap.objs.size)
  (hr : ∀ ν', Grows ν g ν' g → ORep Γ.prog Γ.w ν' g s.heap.objs.size o ao) (h : ∀ i, σ i = Option.none → Q (.ref i) (upd σ i ao)) :
  PostV Γ [] ν g s Q (.ref a) { s with heap := s.heap.push o, toks := t } := by
 subst ha
 obtain ⟨st, S'⟩ := S.allocO o hf (hr _ ⟨HeapLe.refl _, fun i a h => prefix_get (List.prefix_append _ _) i a h⟩) (t := t)
 exact ⟨_, g, _, .ref ν.length, st, S', ⟨s.heap.objs.size, rfl, by simp⟩, h _ S.fresh⟩
theorem WE.tuple {es : List Expr} {k : Nat} {pos : Pos} {Q : V → Sto → Prop} (h : WEs Γ n env pos es ρ σ fun ds σ₁ => ∃ xs, ds = xs.map .t ∧ xs.length ≤ 1000 ∧ Q (.t (.tup xs)) σ₁) : WE Γ n env (.Tuple es k pos) ρ σ Q := fun A s ν g hA F S => by
 refine wpAny_Tuple (seqVs (h A s ν g hA F S) fun vs s₁ ν₁ g₁ σ₁ ds st₁ S₁ r q => ?_)
 obtain ⟨xs, rfl, hx, q⟩ := q
 have hl : vs.length = xs.length := by rw [r.length, List.length_map]
 refine ⟨by rw [hl, sizeLine_eq]; lia, PostV.tr (postF S₁ rfl rfl (fun g' hg ho => ?_) q) st₁⟩
 exact .tup ho (RepAll.mono hg (by simpa using repV_ts r))
theorem WE.listF {es : List Expr} {pos : Pos} {Q : V → Sto → Prop} (h : WEs Γ n env pos es ρ σ fun ds σ₁ => ∃ xs, ds = xs.map .t ∧ xs.length ≤ 1000 ∧ Q (.t (.lst xs)) σ₁) : WE Γ n env (.List es pos) ρ σ Q := fun A s ν g hA F S => by
 refine wpAny_List (seqVs (h A s ν g hA F S) fun vs s₁ ν₁ g₁ σ₁ ds st₁ S₁ r q => ?_)
 obtain ⟨xs, rfl, hx, q⟩ := q
 have hl : vs.length = xs.length := by rw [r.length, List.length_map]
 refine ⟨by rw [hl, sizeLine_eq]; lia, PostV.tr (postF S₁ rfl rfl (fun g' hg ho => ?_) q) st₁⟩
 exact .lst ho (RepAll.mono hg (by simpa using repV_ts r))
theorem WE.list {es : List Expr} {pos : Pos} {Q : V → Sto → Prop} (h : WEs Γ n env pos es ρ σ fun ds σ₁ => ds.length ≤ 1000 ∧ ∀ i, σ₁ i = Option.none → Q (.ref i) (upd σ₁ i (.lst ds))) : WE Γ n env (.List es pos) ρ σ Q := fun A s ν g hA F S => by
 refine wpAny_List (seqVs (h A s ν g hA F S) fun vs s₁ ν₁ g₁ σ₁ ds st₁ S₁ r q => ?_)
 obtain ⟨hx, q⟩ := q
 have hl : vs.length = ds.length := r.length
 refine ⟨by rw [hl, sizeLine_eq]; lia, PostV.tr (postO S₁ rfl rfl (fun ν' gr => ?_) q) st₁⟩
 exact ⟨vs.toArray, 0, rfl, by simpa using r.mono fun z' z' h => h.mono gr⟩
theorem WE.dict0 {pos : Pos} {f : Fla} {Q : V → Sto → Prop} (h : ∀ i, σ i = Option.none → Q (.ref i) (upd σ i (.dct f []))) : WE Γ n env (.Dict [] [] pos) ρ σ Q := fun A s ν g hA F S => by
 refine wpAny_Dict_empty ?_
 exact postO (ao := .dct f []) S rfl rfl (fun ν' gr => ⟨S.low, [], 0, rfl, ⟨fun p h => absurd h (List.not_mem_nil), by simp⟩, .nil⟩) h
theorem WE.dictF {pos : Pos} (f : Fla) {Q : V → Sto → Prop} (h : Q (.t (.dct f [])) σ) : WE Γ n env (.Dict [] [] pos) ρ σ Q := fun A s ν g hA F S => by
 refine wpAny_Dict_empty ?_
 exact postF (d := .dct f []) S rfl rfl (fun g' hg ho => .dct (es := []) S.low ho ⟨fun p h => absurd h (List.not_mem_nil), by simp⟩ .nil) h
end
def LstV (σ : Sto) (v : V) (xs : List V) : Prop := match v with
 | .t (.lst ds) => xs = ds.map .t
 | .ref i => σ i = some (.lst xs)
 | _ => False
section
variable {Γ : Cx} {n : Nat} {env : Env} {ρ : Rho} {σ : Sto} {ν : List Addr} {g : Heap} {s : Shared}
theorem LstV.at_ {v : V} {xs : List V} {x : Value} (h : LstV σ v xs) (S : Sat Γ.prog Γ.w Γ.B σ ν g s) (r : RepV Γ.prog Γ.w ν g x v) :
  ∃ a vs k, x = .ref a ∧ s.heap.get? a = some (listOf vs k) ∧ All2 (RepV Γ.prog Γ.w ν g) vs.toList xs := by
 cases v with
 | t d =>
  cases d with
  | lst ds =>
   obtain ⟨a, vs, k, e, hg, hr⟩ := Rep.lst_inv r
   exact ⟨a, vs, k, e, S.sub _ _ hg, by rw [show xs = ds.map .t from h]; exact ts_repV hr⟩
  | _ => exact h.elim
 | ref i =>
  obtain ⟨a, e, ha⟩ := r
  obtain ⟨o, ho, vs, k, e2, hr⟩ := S.own i a _ ha h
  exact ⟨a, vs, k, e, by rw [ho, e2], hr⟩
def WG (Γ : Cx) (n : Nat) (o i : V) (σ : Sto) (Q : V → Sto → Prop) : Prop :=
 ∀ A s ν g x y, AOK n A ν g s.heap → Sat Γ.prog Γ.w Γ.B σ ν g s → RepV Γ.prog Γ.w ν g x o → RepV Γ.prog Γ.w ν g y i →
  (∃ T id, s.TypeIs x T ∧ typeLookup (.type T) "__getitem__" = pure (some (.builtin id))) ∧ wpAny (model Γ.prog Γ.w) A (getItem x y) (PostV Γ [] ν g s Q) Fal s
theorem WE.sub {value slice : Expr} {pos : Pos} {Q : V → Sto → Prop} (h : WE Γ n env value ρ σ fun o σ₁ => WE Γ n env slice ρ σ₁ fun i σ₂ => WG Γ n o i σ₂ Q)
  (hs : autoParam (∀ o i, subscripted slice false o i = operate [o, i] (getItem o i)) rfi0S) : WE Γ n env (.Subscript value slice pos) ρ σ Q := fun A s ν g hA F S => by
 refine Subscript_ (seqV (h A s ν g hA F S) fun o s₁ ν₁ g₁ σ₁ d₁ st₁ S₁ r₁ q₁ => seqV (q₁ A s₁ ν₁ g₁ (hA.step st₁) (F.step st₁) S₁) fun i s₂ ν₂ g₂ σ₂ d₂ st₂ S₂ r₂ q₂ => ?_)
 obtain ⟨⟨T, id, hT, hl⟩, hg⟩ := q₂ A s₂ ν₂ g₂ o i (hA.step (st₁.trans st₂)) S₂ (st₂.rep r₁) r₂
 exact wpAny_mono (tail_any (E := Fal) hT hl hg (hs o i)) (fun v s' x => x.tr (st₁.trans st₂)) fun z' z' x => x.elim
theorem postR {v : Value} {d : V} {k : Nat} {Q : V → Sto → Prop} (S : Sat Γ.prog Γ.w Γ.B σ ν g s) (r : RepV Γ.prog Γ.w ν g v d) (h : Q d σ) : PostV Γ [] ν g s Q v { s with toks := k } :=
 ⟨ν, g, σ, d, .toks rfl ⟨rfl, rfl, rfl⟩, S.toks rfl, r, h⟩
theorem g_lst {v : V} {k : Int} {xs : List V} {d : V} {Q : V → Sto → Prop} (hl : LstV σ v xs) (h0 : 0 ≤ k) (hk : k < 9223372036854775808) (hx : xs[k.toNat]? = some d) (h : Q d σ) : WG Γ n v (.t (.int k)) σ Q := fun A s ν g x y hA S r1 r2 => by
 obtain ⟨a, vs, m, rfl, ho, hr⟩ := hl.at_ S r1
 obtain ⟨t, rfl⟩ := Rep.int_inv r2
 obtain ⟨u, hu, ru⟩ := hr.get _ _ hx
 refine ⟨⟨"list", _, ⟨_, ho, rfl⟩, slot_list_getitem.lookup⟩, ?_⟩
 exact wpAny_getItem_list ⟨_, ho, rfl, m, rfl⟩ h0 hk (by simpa using hu) (postR (k := s.toks) S ru h)
theorem g_tup {k : Int} {xs : List PV} {d : PV} {Q : V → Sto → Prop} (h0 : 0 ≤ k) (hk : k < 9223372036854775808) (hx : xs[k.toNat]? = some d) (h : Q (.t d) σ) : WG Γ n (.t (.tup xs)) (.t (.int k)) σ Q := fun A s ν g x y hA S r1 r2 => by
 obtain ⟨a, vs, m, rfl, hg, hr⟩ := Rep.tup_inv r1
 have ho := S.sub _ _ hg
 obtain ⟨t, rfl⟩ := Rep.int_inv r2
 obtain ⟨u, hu, ru⟩ := hr.all2.get _ _ hx
 have hlt : k.toNat < vs.size := by have := (List.getElem?_eq_some_iff.mp hu).1; simpa using this
 refine ⟨⟨"tuple", _, ⟨_, ho, rfl⟩, slot_tuple_getitem.lookup⟩, ?_⟩
 exact P.getItem_tuple ho (by lia) hk (seqIndex_of h0 (by lia)) (by simpa using hu) (postR (k := s.toks) S (d := .t d) ru h)
theorem g_tupA {k : Int} {xs : List PV} {d : PV} {Q : V → Sto → Prop} (h : Q (.t d) σ) (h0 : autoParam (0 ≤ k) dciS) (hk : autoParam (k < 9223372036854775808) dciS) (hx : autoParam (xs[k.toNat]? = some d) rflS) : WG Γ n (.t (.tup xs)) (.t (.int k)) σ Q := g_tup h0 hk hx h
theorem w_len_lst {v : V} {xs : List V} {Q : V → Sto → Prop} (hl : LstV σ v xs) (hf : xs.length < 9223372036854775808) (h : Q (.t (.int xs.length)) σ) : WC Γ n (.builtin "len") [v] σ Q := fun A s ν g ys hA S r => by
 obtain ⟨y₁, rfl, r1⟩ := r.inv1
 obtain ⟨a, vs, m, rfl, ho, hr⟩ := hl.at_ S r1
 have e : vs.size = xs.length := by have := hr.length; simpa using this
 exact PySem.Calls.call_len_list ⟨_, ho, rfl, m, rfl⟩ (by lia) (by rw [e]; exact postI S h)
theorem w_len_tup {xs : List PV} {Q : V → Sto → Prop} (hf : xs.length < 9223372036854775808) (h : Q (.t (.int xs.length)) σ) : WC Γ n (.builtin "len") [.t (.tup xs)] σ Q := fun A s ν g ys hA S r => by
 obtain ⟨y₁, rfl, r1⟩ := r.inv1
 obtain ⟨a, vs, m, rfl, hg, hr⟩ := Rep.tup_inv r1
 have e : vs.size = xs.length := by have := hr.all2.length; simpa using this
 exact PyProof.Rows.len_tuple ⟨_, S.sub _ _ hg, rfl, m, rfl⟩ (by lia) (by rw [e]; exact postI S h)
theorem v_addL {a b : V} {xs ys : List PV} {Q : V → Sto → Prop} (ha : LstV σ a (xs.map .t)) (hb : LstV σ b (ys.map .t)) (hz : xs.length + ys.length ≤ 10000) (h : Q (.t (.lst (xs ++ ys))) σ) : WV2 Γ n a b (binaryOp .Add) σ Q := fun A s ν g x y hA S r1 r2 => by
 obtain ⟨a₁, vs, m, rfl, ho, hr⟩ := ha.at_ S r1
 obtain ⟨b₁, ws, k, rfl, ho', hr'⟩ := hb.at_ S r2
 have e1 : vs.size = xs.length := by have := hr.length; simpa using this
 have e2 : ws.size = ys.length := by have := hr'.length; simpa using this
 refine P.add_list ho ho' (postF (t := s.toks) S rfl rfl (fun g' hg ho => .lst ho ?_) h) (by rw [sizeLine_eq]; lia)
 have := (repV_ts hr).all2.append (repV_ts hr').all2
 exact RepAll.mono hg (by simpa using All2.rep this)
theorem v_addT {xs ys : List PV} {Q : V → Sto → Prop} (hz : xs.length + ys.length ≤ 10000) (h : Q (.t (.tup (xs ++ ys))) σ) : WV2 Γ n (.t (.tup xs)) (.t (.tup ys)) (binaryOp .Add) σ Q := fun A s ν g x y hA S r1 r2 => by
 obtain ⟨a₁, vs, m, rfl, hg1, hr⟩ := Rep.tup_inv r1
 obtain ⟨b₁, ws, k, rfl, hg2, hr'⟩ := Rep.tup_inv r2
 have ho := S.sub _ _ hg1
 have ho' := S.sub _ _ hg2
 have e1 : vs.size = xs.length := by have := hr.all2.length; simpa using this
 have e2 : ws.size = ys.length := by have := hr'.all2.length; simpa using this
 by_cases hv : vs.isEmpty = true
 ·have hx : xs = [] := List.eq_nil_of_length_eq_zero (by have : vs.size = 0 := (by simpa using hv); lia)
  subst hx
  exact concat_meets ⟨_, ho, rfl⟩ ⟨_, ho', rfl⟩ noFill_tuple_add seq_tuple_add PySem.F.slot_tuple_add PySem.F.entry_tuple_add (PySem.F.args_tuple_add_2 _ _) (tuple_addW0 a₁ b₁ vs ws m k none none #[] #[] hv) ⟨ho, ho', postR (k := s.toks) S r2 h⟩
 ·by_cases hw : ws.isEmpty = true
  ·have hx : ys = [] := List.eq_nil_of_length_eq_zero (by have : ws.size = 0 := (by simpa using hw); lia)
   subst hx
   rw [List.append_nil] at h
   exact concat_meets ⟨_, ho, rfl⟩ ⟨_, ho', rfl⟩ noFill_tuple_add seq_tuple_add PySem.F.slot_tuple_add PySem.F.entry_tuple_add (PySem.F.args_tuple_add_2 _ _) (tuple_addW1 a₁ b₁ vs ws m k none none #[] #[] hv hw) ⟨ho, ho', postR (k := s.toks) S r1 h⟩
  ·refine P.add_tuple ho ho' hv hw (postF (t := s.toks) S rfl rfl (fun g' hg ho => .tup ho ?_) h) (by rw [sizeLine_eq]; lia)
   have := hr.all2.append hr'.all2
   exact RepAll.mono hg (by simpa using All2.rep this)
end
noncomputable def okF (t : Bool) (f : PV → Bool) : PV → Bool
 | .none => true
 | .int _ => true
 | .str x => PyData.strOk x
 | .tup xs => t && xs.all f
 | .lst xs => t && xs.all f
 | _ => false
noncomputable def PV.ok (n : Nat) : PV → Bool := match n with
 | 0 => okF false fun z' => false
 | n + 1 => okF true (PV.ok n)
noncomputable def PV.oks (n : Nat) (l : List PV) : Bool := l.all (PV.ok n)
noncomputable def toF (f : PV → Dat) : PV → Dat
 | .int i => .int i
 | .str x => .str x
 | .tup xs => .tuple (xs.map f)
 | .lst xs => .list (xs.map f)
 | _ => .none
noncomputable def PV.toD (n : Nat) : PV → Dat := match n with
 | 0 => toF fun z' => .none
 | n + 1 => toF (PV.toD n)
noncomputable def ofF (f : Dat → PV) : Dat → PV
 | .int i => .int i
 | .str x => .str x
 | .tuple xs => .tup (xs.map f)
 | .list xs => .lst (xs.map f)
 | _ => .none
noncomputable def PV.ofD (n : Nat) : Dat → PV := match n with
 | 0 => ofF fun z' => .none
 | n + 1 => ofF (PV.ofD n)
theorem ok_backs {n : Nat} {xs : List PV} (ih : ∀ d, PV.ok n d = true → PV.ofD n (PV.toD n d) = d ∧ kqdOk n (PV.toD n d) = true) (h : PV.oks n xs = true) : (xs.map (PV.toD n)).map (PV.ofD n) = xs ∧ (xs.map (PV.toD n)).all (kqdOk n) = true := by
 have a := List.all_eq_true.mp h
 rw [List.map_map, List.all_map]
 exact ⟨(List.map_congr_left fun x hx => (ih x (a x hx)).1).trans (List.map_id _), List.all_eq_true.mpr fun x hx => (ih x (a x hx)).2⟩
theorem ok_back (n : Nat) (d : PV) (h : PV.ok n d = true) : PV.ofD n (PV.toD n d) = d ∧ kqdOk n (PV.toD n d) = true := by
 induction n generalizing d with
 | zero => cases d with
  | none | int => exact ⟨rfl, rfl⟩
  | str x => exact ⟨rfl, h⟩
  | _ => cases h
 | succ n ih => cases d with
  | none | int => exact ⟨rfl, rfl⟩
  | str x => exact ⟨rfl, h⟩
  | tup xs => exact ⟨congrArg PV.tup (ok_backs ih h).1, (ok_backs ih h).2⟩
  | lst xs => exact ⟨congrArg PV.lst (ok_backs ih h).1, (ok_backs ih h).2⟩
  | _ => cases h
noncomputable def PV.dat (n : Nat) (d : PV) : PyData := kqdP (PV.toD n d)
noncomputable def PV.dats (n : Nat) (l : List PV) : List PyData := l.map (PV.dat n)
theorem dats_eq (n : Nat) (l : List PV) : kqdPs (l.map (PV.toD n)) = PV.dats n l := by
 induction l with
 | nil => rfl
 | cons d l ih => exact congrArg (PV.dat n d :: ·) ih
section
variable {Γ : Cx} {n : Nat} {env : Env} {ρ : Rho} {σ : Sto} {ν : List Addr} {g : Heap} {s : Shared}
theorem reads_alls {g : Heap} {n : Nat} (ih : ∀ (v : Value) (d : PV), Rep Γ.prog Γ.w g v d → PV.ok n d = true → ∃ as, Reads g v (d.dat n) as) {v : List Value} {d : List PV} (r : All2 (Rep Γ.prog Γ.w g) v d) (h : PV.oks n d = true) : ∃ as, ReadsAll g v (PV.dats n d) as := by
 have a := List.all_eq_true.mp h
 clear h
 induction r with
 | nil => exact ⟨_, .nil⟩
 | cons r _ hi =>
  obtain ⟨as, q⟩ := ih _ _ r (a _ (.head _))
  obtain ⟨bs, p⟩ := hi fun x hx => a x (.tail _ hx)
  exact ⟨_, .cons q p⟩
theorem reads_of {g : Heap} {v : Value} {d : PV} (k : Nat) (hr : Rep Γ.prog Γ.w g v d) (hk : PV.ok k d = true) : ∃ as, Reads g v (d.dat k) as := by
 have flat : ∀ {t f q} {v : Value} {d : PV}, Rep Γ.prog Γ.w g v d → okF t f d = true → (∀ xs, d ≠ .tup xs) → (∀ xs, d ≠ .lst xs) → ∃ as, Reads g v (kqdP (toF q d)) as := fun {t f q v d} r h h1 h2 => by
  replace r := r.inv
  cases d with
  | none => obtain rfl := r; exact ⟨_, .none⟩
  | int i => obtain ⟨t, rfl⟩ := r; exact ⟨_, .int i t⟩
  | str x => obtain ⟨t, rfl⟩ := r; exact ⟨_, .str x t⟩
  | tup xs => exact absurd rfl (h1 xs)
  | lst xs => exact absurd rfl (h2 xs)
  | _ => cases h
 induction k generalizing v d with
 | zero => exact flat hr hk (fun xs e => by subst e; cases hk) (fun xs e => by subst e; cases hk)
 | succ k ih =>
  cases d with
  | tup xs =>
   obtain ⟨a, vs, n, rfl, hg, r⟩ := hr.inv
   obtain ⟨as, q⟩ := reads_alls (fun v d => ih) r.all2 hk
   rw [← dats_eq] at q
   exact ⟨_, .tuple hg rfl rfl q⟩
  | lst xs =>
   obtain ⟨a, vs, n, rfl, hg, r⟩ := hr.inv
   obtain ⟨as, q⟩ := reads_alls (fun v d => ih) r.all2 hk
   rw [← dats_eq] at q
   exact ⟨_, .list hg rfl rfl q⟩
  | _ => exact flat hr hk (fun xs e => nomatch e) (fun xs e => nomatch e)
theorem reads_all {g : Heap} {v : List Value} {d : List PV} (k : Nat) (r : RepAll Γ.prog Γ.w g v d) (h : PV.oks k d = true) : ∃ as, ReadsAll g v (PV.dats k d) as := reads_alls (fun v d => reads_of k) r.all2 h
theorem dat_lay (k : Nat) (d : PV) (h : PV.ok k d = true) : (d.dat k).canLay0 = true ∧ (d.dat k).depth ≤ k := kqd_lay k _ (ok_back k d h).2
theorem dats_lay (k : Nat) (d : List PV) (h : PV.oks k d = true) : PyData.canLayAll0 (PV.dats k d) = true ∧ PyData.depthAll (PV.dats k d) ≤ k + 1 := by
 have l := kqd_lay (k + 1) (.list (d.map (PV.toD k))) (ok_backs (ok_back k) h).2
 rw [kqdP, dats_eq] at l
 refine ⟨l.1, Nat.le_trans ?_ l.2⟩
 show _ ≤ PyData.depth (.list _)
 unfold PyData.depth
 lia
theorem eqv_iff (k : Nat) (a b : PV) (ha : PV.ok k a = true) (hb : PV.ok k b = true) : PyData.eqv (a.dat k) (b.dat k) = true ↔ a = b :=
 (kqd_eqv k _ _ k (ok_back k a ha).2 (ok_back k b hb).2).trans ⟨fun e => (ok_back k a ha).1.symm.trans ((congrArg (PV.ofD k) e).trans (ok_back k b hb).1), fun e => e ▸ rfl⟩
theorem shaped_of {k : Nat} {d : PV} (h : PV.ok k d = true) (hk : k ≤ 64) : SeqAt.shaped (d.dat k) = true := by
 have := dat_lay k d h
 unfold SeqAt.shaped; rw [this.1, Bool.true_and]; exact decide_eq_true (Nat.le_trans this.2 (by lia))
theorem not_iff {c : Bool} {p : Prop} (h : c = true ↔ p) : (!c) = true ↔ ¬ p := by rw [← h]; cases c <;> decide
theorem AOK.units64 {A : Around} {h : Heap} (x : AOK n A ν g h) : A.units + 64 < cLine := by have := x.units; lia
theorem v_neD (k : Nat) {a b : PV} {Q : V → Sto → Prop} (ha : PV.ok k a = true) (hb : PV.ok k b = true) (h : ∀ c : Bool, (c = true ↔ a ≠ b) → Q (.t (.bool c)) σ) (hk : k ≤ 20 := by decide) : WV2 Γ n (.t a) (.t b) (compareOp .NotEq) σ Q := fun A s ν g x y hA S r1 r2 => by
 obtain ⟨as, q1⟩ := reads_of k (Rep.mono S.sub r1) ha
 obtain ⟨bs, q2⟩ := reads_of k (Rep.mono S.sub r2) hb
 refine PyProof.Rows.ne_dataH q1 q2 (shaped_of ha (by lia)) (shaped_of hb (by lia)) hA.units64 (postB S (h _ (not_iff (eqv_iff k a b ha hb))))
theorem lst_reads {v : V} {xs : List PV} {x : Value} {k : Nat} (h : LstV σ v (xs.map .t)) (S : Sat Γ.prog Γ.w Γ.B σ ν g s) (r : RepV Γ.prog Γ.w ν g x v) (hx : PV.oks k xs = true) : ∃ as, Reads s.heap x (.list (PV.dats k xs)) as := by
 obtain ⟨a, vs, m, rfl, ho, hr⟩ := h.at_ S r
 obtain ⟨as, q⟩ := reads_all k (RepAll.mono S.sub (repV_ts hr)) hx
 exact ⟨_, .list ho rfl rfl q⟩
theorem any_iff {k : Nat} {d : PV} (hd : PV.ok k d = true) {xs : List PV} (h : PV.oks k xs = true) : ((PV.dats k xs).any fun y => PyData.eqv y (d.dat k)) = true ↔ d ∈ xs := by
 unfold PV.dats
 rw [List.any_map, List.any_eq_true]
 exact ⟨fun ⟨x, hx, e⟩ => (eqv_iff k x d (List.all_eq_true.mp h x hx) hd).mp e ▸ hx, fun hx => ⟨d, hx, (eqv_iff k d d hd hd).mpr rfl⟩⟩
theorem v_notin (k : Nat) {v : V} {d : PV} {xs : List PV} {Q : V → Sto → Prop} (hl : LstV σ v (xs.map .t)) (hd : PV.ok k d = true) (hx : PV.oks k xs = true) (h : ∀ c : Bool, (c = true ↔ d ∉ xs) → Q (.t (.bool c)) σ) (hk : k ≤ 20 := by decide) : WV2 Γ n (.t d) v (compareOp .NotIn) σ Q := fun A s ν g x y hA S r1 r2 => by
 obtain ⟨as, q1⟩ := reads_of k (Rep.mono S.sub r1) hd
 obtain ⟨bs, q2⟩ := lst_reads hl S r2 hx
 refine SeqAt.notIn_list_reads q2 q1 (dats_lay k xs hx).1 (dat_lay k d hd).1 (by have := hA.units; have := (dat_lay k d hd).2; have := Nat.min_le_right (PyData.depthAll (PV.dats k xs)) (d.dat k).depth; lia) (postB S (h _ (not_iff (any_iff hd hx))))
theorem tup_reads {xs : List PV} {x : Value} {k : Nat} (S : Sat Γ.prog Γ.w Γ.B σ ν g s) (r : Rep Γ.prog Γ.w g x (.tup xs)) (hx : PV.oks k xs = true) : ∃ as, Reads s.heap x (.tuple (PV.dats k xs)) as := by
 obtain ⟨a, vs, m, rfl, ho, hr⟩ := Rep.tup_inv r
 obtain ⟨as, q⟩ := reads_all k (RepAll.mono S.sub hr) hx
 exact ⟨_, .tuple (S.sub _ _ ho) rfl rfl q⟩
theorem v_inT (k : Nat) {d : PV} {xs : List PV} {Q : V → Sto → Prop} (hd : PV.ok k d = true) (hx : PV.oks k xs = true) (h : ∀ c : Bool, (c = true ↔ d ∈ xs) → Q (.t (.bool c)) σ) (hk : k ≤ 20 := by decide) : WV2 Γ n (.t d) (.t (.tup xs)) (compareOp .In) σ Q := fun A s ν g x y hA S r1 r2 => by
 obtain ⟨as, q1⟩ := reads_of k (Rep.mono S.sub r1) hd
 obtain ⟨bs, q2⟩ := tup_reads S r2 hx
 exact SeqAt.in_tuple_reads q2 q1 (dats_lay k xs hx).1 (dat_lay k d hd).1 (by have := hA.units; have := (dat_lay k d hd).2; have := Nat.min_le_right (PyData.depthAll (PV.dats k xs)) (d.dat k).depth; lia) (postB S (h _ (any_iff hd hx)))
theorem v_notinT (k : Nat) {d : PV} {xs : List PV} {Q : V → Sto → Prop} (hd : PV.ok k d = true) (hx : PV.oks k xs = true) (h : ∀ c : Bool, (c = true ↔ d ∉ xs) → Q (.t (.bool c)) σ) (hk : k ≤ 20 := by decide) : WV2 Γ n (.t d) (.t (.tup xs)) (compareOp .NotIn) σ Q := fun A s ν g x y hA S r1 r2 => by
 obtain ⟨as, q1⟩ := reads_of k (Rep.mono S.sub r1) hd
 obtain ⟨bs, q2⟩ := tup_reads S r2 hx
 refine SeqAt.notIn_tuple_reads q2 q1 (dats_lay k xs hx).1 (dat_lay k d hd).1 (by have := hA.units; have := (dat_lay k d hd).2; have := Nat.min_le_right (PyData.depthAll (PV.dats k xs)) (d.dat k).depth; lia) (postB S (h _ (not_iff (any_iff hd hx))))
end
def DctV (σ : Sto) (v : V) (f : Fla) (kvs : List (Key × V)) : Prop := match v with
 | .t (.dct f' ds) => f' = f ∧ kvs = ds.map fun p => (p.1, .t p.2)
 | .ref i => σ i = some (.dct f kvs)
 | _ => False
section
variable {Γ : Cx} {n : Nat} {env : Env} {ρ : Rho} {σ : Sto} {ν : List Addr} {g : Heap} {s : Shared}
theorem kvs_repV {ν : List Addr} {g : Heap} {es : List DictEntry} {ds : List (Key × PV)} (h : RepKvs Γ.prog Γ.w g es ds) : All2 (RepVE Γ.prog Γ.w ν g) es (ds.map fun p => (p.1, .t p.2)) := All2.mapR (R := RepVE Γ.prog Γ.w ν g) (f := fun p : Key × PV => (p.1, V.t p.2)) h.all2
theorem KeysOk.map {f : Fla} {α β : Type} {ds : List (Key × α)} {F : Key × α → Key × β} (hF : ∀ p, (F p).1 = p.1) (h : KeysOk f ds) : KeysOk f (ds.map F) := by
 refine ⟨fun p hp => ?_, ?_⟩
 ·obtain ⟨q, hq, rfl⟩ := List.mem_map.mp hp
  rw [hF]; exact h.1 q hq
 ·rw [List.map_map]
  have : ((fun x : Key × β => x.1) ∘ F) = fun x => x.1 := funext hF
  rw [this]; exact h.2
theorem DctV.at_ {v : V} {f : Fla} {kvs : List (Key × V)} {x : Value} (h : DctV σ v f kvs) (S : Sat Γ.prog Γ.w Γ.B σ ν g s) (r : RepV Γ.prog Γ.w ν g x v) :
  ∃ a es k, x = .ref a ∧ (a == sysModules) = false ∧ s.heap.get? a = some (dictOf es k) ∧ KeysOk f kvs ∧ All2 (RepVE Γ.prog Γ.w ν g) es kvs := by
 cases v with
 | t d =>
  cases d with
  | dct f' ds =>
   obtain ⟨rfl, rfl⟩ := h
   obtain ⟨a, es, k, e, z, hg, hk, hr⟩ := Rep.inv r
   exact ⟨a, es, k, e, z, S.sub _ _ hg, hk.map fun z' => rfl, kvs_repV hr⟩
  | _ => exact h.elim
 | ref i =>
  obtain ⟨a, e, ha⟩ := r
  obtain ⟨o, ho, z, es, k, e2, hk, hr⟩ := S.own i a _ ha h
  exact ⟨a, es, k, e, z, by rw [ho, e2], hk, hr⟩
theorem itemsAre_strs {g : Heap} {vs : List Value} {l : List Str} (h : RepAll Γ.prog Γ.w g vs (l.map .str)) : ItemsAre (strKind Γ.prog Γ.w) l vs := by
 replace h := h.all2.unmapR
 induction h with
 | nil => exact .nil
 | cons h _ ih => obtain ⟨t, rfl⟩ := Rep.str_inv h; exact .cons (strKind_is ..) ih
theorem itemsAre_ints {g : Heap} {vs : List Value} {l : List Int} (h : RepAll Γ.prog Γ.w g vs (l.map .int)) : ItemsAre (intKind Γ.prog Γ.w) l vs := by
 replace h := h.all2.unmapR
 induction h with
 | nil => exact .nil
 | cons h _ ih => obtain ⟨t, rfl⟩ := Rep.int_inv h; exact .cons (intKind_is ..) ih
theorem RepKey.of {v : Value} {k : Key} (h : Rep Γ.prog Γ.w g v k.pv) : RepKey Γ.prog Γ.w g k v := by
 cases k with
 | str _ => exact Rep.str_inv h
 | int _ => exact Rep.int_inv h
 | tS _ => obtain ⟨a, vs, m, e, hg, hr⟩ := Rep.tup_inv h; exact ⟨a, vs, m, e, hg, itemsAre_strs hr⟩
 | tI _ => obtain ⟨a, vs, m, e, hg, hr⟩ := Rep.tup_inv h; exact ⟨a, vs, m, e, hg, itemsAre_ints hr⟩
section
variable {A : Around} {E : Value → Shared → Prop}
theorem k_hash {k : Key} {key : Value} {Q : Int → Shared → Prop} (hu : A.units + 8 < cLine) (r : RepKey Γ.prog Γ.w g k key) (sub : HeapLe g s.heap) (h : ∀ t, Q (hashKey Γ.prog Γ.w k) { s with toks := t }) :
  wpAny (model Γ.prog Γ.w) A (pyHash key) Q E s := by
 cases k with
 | str x => obtain ⟨t, rfl⟩ := r; exact wpAny_pyHash_str (h _)
 | int i => obtain ⟨t, rfl⟩ := r; exact wpAny_pyHash_int (h _)
 | tS l => obtain ⟨a, vs, m, rfl, q, z⟩ := r; exact wpAny_pyHash_tuple (knd := strKind Γ.prog Γ.w) (by lia) ⟨_, vs, m, sub _ _ q, rfl, rfl, z⟩ (h _)
 | tI l => obtain ⟨a, vs, m, rfl, q, z⟩ := r; exact wpAny_pyHash_tuple (knd := intKind Γ.prog Γ.w) (by lia) ⟨_, vs, m, sub _ _ q, rfl, rfl, z⟩ (h _)
theorem find_val {K : Type} [DecidableEq K] {knd : KeyKind Γ.prog Γ.w K} {emb : K → Key} {fl : Fla} (hfl : ∀ k, k.fl = fl → ∃ x, k = emb x) (hinj : ∀ x y, emb x = emb y → x = y)
  (his : ∀ x v, RepKey Γ.prog Γ.w g (emb x) v → knd.is x v = true) (hh : ∀ x, hashKey Γ.prog Γ.w (emb x) = knd.hash x)
  {d : Addr} {es : List DictEntry} {m : Nat} {kvs : List (Key × V)} {x : K} {key : Value} {Q : Option Nat → Shared → Prop}
  (ho : s.heap.get? d = some (dictOf es m)) (hk : KeysOk fl kvs) (hr : All2 (RepVE Γ.prog Γ.w ν g) es kvs) (r : RepKey Γ.prog Γ.w g (emb x) key)
  (h1 : ∀ j v, kvs[j]? = some (emb x, v) → Q (some j) s) (h2 : emb x ∉ kvs.map (·.1) → Q none s) : wpAny (model Γ.prog Γ.w) A (dictFind d key (hashKey Γ.prog Γ.w (emb x))) Q E s := by
 rw [hh]
 refine wpAny_dictFind_of (his x key r) ho rfl (fun e he => ?_) ?_
 ·obtain ⟨j, hj⟩ := List.getElem?_of_mem (by simpa using he)
  obtain ⟨p, hp, q1, q2, q3⟩ := hr.get' j e hj
  obtain ⟨y, hy⟩ := hfl p.1 (hk.1 p (List.mem_of_getElem? hp))
  exact ⟨y, his y _ (hy ▸ q1), by rw [q2, hy, hh]⟩
 ·cases hi : es.toArray.findIdx? fun e => knd.is x e.key with
  | none =>
   refine h2 fun hm => ?_
   obtain ⟨p, hp, e⟩ := List.mem_map.mp hm
   obtain ⟨j, hj⟩ := List.getElem?_of_mem hp
   obtain ⟨en, hen, q1, _⟩ := hr.get j p hj
   have := Array.findIdx?_eq_none_iff.mp hi en (by simpa using List.mem_of_getElem? hen)
   rw [his x en.key (e ▸ q1)] at this; cases this
  | some j =>
   obtain ⟨hlt, hp, _⟩ := Array.findIdx?_eq_some_iff_getElem.mp hi
   obtain ⟨p, hp', q1, _⟩ := hr.get' j (es.toArray[j]) (by simp at hlt; simp [hlt])
   obtain ⟨y, hy⟩ := hfl p.1 (hk.1 p (List.mem_of_getElem? hp'))
   have : y = x := knd.inj _ _ _ (his y _ (hy ▸ q1)) hp
   subst this
   exact h1 j p.2 (by rw [hp', ← hy])
theorem heap_rows {K : Type} [DecidableEq K] {knd : KeyKind Γ.prog Γ.w K} {emb : List K → Key} {fl : Fla} (hfl : ∀ k, k.fl = fl → ∃ x, k = emb x)
  (his : ∀ x v, RepKey Γ.prog Γ.w g (emb x) v → ∃ a, v = .ref a ∧ IsTupleKey knd g x a) (hh : ∀ x, hashKey Γ.prog Γ.w (emb x) = tupleKeyHash knd x) :
  ∀ {es : List DictEntry} {kvs : List (Key × V)}, (∀ p ∈ kvs, p.1.fl = fl) → All2 (RepVE Γ.prog Γ.w ν g) es kvs → ∃ xs : List (List K × Addr × Value), es = xs.map (entryOfKey (tupleKind knd)) ∧ kvs.map (·.1) = xs.map (fun x => emb x.1) ∧ ∀ x ∈ xs, IsTupleKey knd g x.1 x.2.1
 | _, _, _, .nil => ⟨[], rfl, rfl, fun z' h => absurd h List.not_mem_nil⟩
 | e :: es, p :: kvs, hf, .cons ⟨q1, q2, q3⟩ r => by
  obtain ⟨xs, e1, e2, e3⟩ := heap_rows hfl his hh (fun p hp => hf p (.tail _ hp)) r
  obtain ⟨y, hy⟩ := hfl p.1 (hf p (.head _))
  obtain ⟨a, ha, ht⟩ := his y _ (hy ▸ q1)
  refine ⟨(y, a, e.val) :: xs, ?_, ?_, fun x hx => ?_⟩
  ·rw [List.map_cons, ← e1]
   congr 1
   obtain ⟨eh, ek, ev⟩ := e
   dsimp only at q2 ha
   subst ha
   rw [hy, hh] at q2
   subst q2; rfl
  ·rw [List.map_cons, List.map_cons, e2, hy]
  ·rcases List.mem_cons.mp hx with rfl | hx
   ·exact ht
   ·exact e3 x hx
theorem find_heap {K : Type} [DecidableEq K] {knd : KeyKind Γ.prog Γ.w K} {emb : List K → Key} {fl : Fla} (hfl : ∀ k, k.fl = fl → ∃ x, k = emb x) (hinj : ∀ x y, emb x = emb y → x = y)
  (his : ∀ x v, RepKey Γ.prog Γ.w g (emb x) v → ∃ a, v = .ref a ∧ IsTupleKey knd g x a) (hh : ∀ x, hashKey Γ.prog Γ.w (emb x) = tupleKeyHash knd x)
  {d : Addr} {es : List DictEntry} {m : Nat} {kvs : List (Key × V)} {x : List K} {key : Value} {Q : Option Nat → Shared → Prop} (hu : A.units + 8 < cLine) (sub : HeapLe g s.heap)
  (ho : s.heap.get? d = some (dictOf es m)) (hk : KeysOk fl kvs) (hr : All2 (RepVE Γ.prog Γ.w ν g) es kvs) (r : RepKey Γ.prog Γ.w g (emb x) key)
  (h1 : ∀ j v, kvs[j]? = some (emb x, v) → Q (some j) s) (h2 : emb x ∉ kvs.map (·.1) → Q none s) : wpAny (model Γ.prog Γ.w) A (dictFind d key (hashKey Γ.prog Γ.w (emb x))) Q E s := by
 rw [hh]
 obtain ⟨a, rfl, ht⟩ := his x key r
 obtain ⟨xs, e1, e2, e3⟩ := heap_rows hfl his hh hk.1 hr
 have hnd : (xs.map (·.1)).Nodup := by
  have := hk.2
  rw [e2] at this
  have q : xs.map (fun x => emb x.1) = (xs.map (·.1)).map emb := by rw [List.map_map]; rfl
  rw [q] at this
  exact List.Pairwise.of_map emb (fun a b h e => h (congrArg emb e)) this
 refine wpAny_dictFind_heap (knd := tupleKind knd) (xs := xs) (show A.units < cLine by lia) (IsTupleKey.mono sub ht) ho rfl (by simpa using e1) (fun x hx => IsTupleKey.mono sub (e3 x hx)) hnd (fun hno => h2 fun hm => ?_) (fun j p hj => ?_)
 ·rw [e2] at hm
  obtain ⟨y, hy, e⟩ := List.mem_map.mp hm
  obtain ⟨j, hj⟩ := List.getElem?_of_mem hy
  obtain ⟨y1, y2⟩ := y
  have : y1 = x := hinj _ _ e
  subst this
  exact hno j y2 hj
 ·have : (kvs.map (·.1))[j]? = some (emb x) := by rw [e2, List.getElem?_map, hj]; rfl
  rw [List.getElem?_map] at this
  cases q : kvs[j]? with
  | none => rw [q] at this; cases this
  | some p' =>
   rw [q] at this
   obtain ⟨p1, p2⟩ := p'
   simp at this
   subst this
   exact h1 j p2 q
theorem k_find {f : Fla} {d : Addr} {es : List DictEntry} {m : Nat} {kvs : List (Key × V)} {k : Key} {key : Value} {Q : Option Nat → Shared → Prop} (hu : A.units + 8 < cLine) (sub : HeapLe g s.heap)
  (ho : s.heap.get? d = some (dictOf es m)) (hk : KeysOk f kvs) (hr : All2 (RepVE Γ.prog Γ.w ν g) es kvs) (r : RepKey Γ.prog Γ.w g k key) (hf : k.fl = f)
  (h1 : ∀ j v, kvs[j]? = some (k, v) → Q (some j) s) (h2 : k ∉ kvs.map (·.1) → Q none s) : wpAny (model Γ.prog Γ.w) A (dictFind d key (hashKey Γ.prog Γ.w k)) Q E s := by
 cases k with
 | str x => exact find_val (emb := .str) (knd := strKind Γ.prog Γ.w) (fl := f) (fun k h => by subst hf; cases k <;> first | exact ⟨_, rfl⟩ | cases h) (fun z' z' e => by cases e; rfl) (fun x v ⟨t, e⟩ => by subst e; exact strKind_is ..) (fun z' => rfl) ho hk hr r h1 h2
 | int x => exact find_val (emb := .int) (knd := intKind Γ.prog Γ.w) (fl := f) (fun k h => by subst hf; cases k <;> first | exact ⟨_, rfl⟩ | cases h) (fun z' z' e => by cases e; rfl) (fun x v ⟨t, e⟩ => by subst e; exact intKind_is ..) (fun z' => rfl) ho hk hr r h1 h2
 | tS l => exact find_heap (emb := .tS) (knd := strKind Γ.prog Γ.w) (fl := f) (fun k h => by subst hf; cases k <;> first | exact ⟨_, rfl⟩ | cases h) (fun z' z' e => by cases e; rfl) (fun x v ⟨a, vs, m, e, q, z⟩ => ⟨a, e, _, vs, m, q, rfl, rfl, z⟩) (fun z' => rfl) hu sub ho hk hr r h1 h2
 | tI l => exact find_heap (emb := .tI) (knd := intKind Γ.prog Γ.w) (fl := f) (fun k h => by subst hf; cases k <;> first | exact ⟨_, rfl⟩ | cases h) (fun z' z' e => by cases e; rfl) (fun x v ⟨a, vs, m, e, q, z⟩ => ⟨a, e, _, vs, m, q, rfl, rfl, z⟩) (fun z' => rfl) hu sub ho hk hr r h1 h2
end
end
section
variable {α : Type}
noncomputable def kput (kvs : List (Key × α)) (k : Key) (v : α) : List (Key × α) := match kvs with
 | [] => [(k, v)]
 | p :: r => if p.1 = k then (p.1, v) :: r else p :: kput r k v
noncomputable def kdel (kvs : List (Key × α)) (k : Key) : List (Key × α) := match kvs with
 | [] => []
 | p :: r => if p.1 = k then r else p :: kdel r k
theorem kput_cons (p : Key × α) (r : List (Key × α)) (k : Key) (v : α) : kput (p :: r) k v = if p.1 = k then (p.1, v) :: r else p :: kput r k v := rfl
theorem kdel_cons (p : Key × α) (r : List (Key × α)) (k : Key) : kdel (p :: r) k = if p.1 = k then r else p :: kdel r k := rfl
theorem lookup_of_get {kvs : List (Key × α)} (hn : (kvs.map (·.1)).Nodup) {j : Nat} {k : Key} {v : α} (h : kvs[j]? = some (k, v)) : kvs.lookup k = some v := by
 induction kvs generalizing j with
 | nil => cases h
 | cons p r ih =>
  rw [List.map_cons, List.nodup_cons] at hn
  rw [lk_cons]
  cases j with
  | zero => obtain rfl : p = (k, v) := Option.some.inj h; exact if_pos rfl
  | succ j => rw [if_neg fun e : k = p.1 => hn.1 (e ▸ List.mem_map.mpr ⟨(k, v), List.mem_of_getElem? (i := j) h, rfl⟩)]; exact ih hn.2 h
theorem lookup_none {kvs : List (Key × α)} {k : Key} (h : k ∉ kvs.map (·.1)) : kvs.lookup k = none := by
 induction kvs with
 | nil => rfl
 | cons p r ih =>
  rw [lk_cons, if_neg fun e : k = p.1 => h (e ▸ .head _)]
  exact ih fun m => h (.tail _ m)
theorem mem_of_lookup_some {kvs : List (Key × α)} {k : Key} {v : α} (h : kvs.lookup k = some v) : (k, v) ∈ kvs := by
 induction kvs with
 | nil => cases h
 | cons p r ih =>
  rw [lk_cons] at h
  by_cases q : k = p.1
  ·rw [if_pos q] at h; subst q; exact Option.some.inj h ▸ .head _
  ·rw [if_neg q] at h; exact .tail _ (ih h)
theorem lookup_mapV {β : Type} (g : α → β) (kvs : List (Key × α)) (k : Key) : (kvs.map fun p => (p.1, g p.2)).lookup k = (kvs.lookup k).map g := by
 induction kvs with
 | nil => rfl
 | cons p r ih =>
  rw [List.map_cons, lk_cons, lk_cons, ih]
  split <;> rfl
theorem kput_keys (kvs : List (Key × α)) (k : Key) (v : α) : (kput kvs k v).map (·.1) = if k ∈ kvs.map (·.1) then kvs.map (·.1) else kvs.map (·.1) ++ [k] := by
 induction kvs with
 | nil => exact (if_neg List.not_mem_nil).symm
 | cons p r ih =>
  rw [kput_cons, List.map_cons]
  by_cases h : p.1 = k
  ·rw [if_pos h, if_pos (h ▸ .head _)]; rfl
  ·rw [if_neg h, List.map_cons, ih]
   by_cases q : k ∈ r.map (·.1)
   ·rw [if_pos q, if_pos (.tail _ q)]
   ·rw [if_neg q, if_neg fun m => (List.mem_cons.mp m).elim (fun e => h e.symm) q]; rfl
theorem kput_mem {kvs : List (Key × α)} {k : Key} {v : α} {p : Key × α} (h : p ∈ kput kvs k v) : p.1 = k ∨ p.1 ∈ kvs.map (·.1) := by
 have hm : p.1 ∈ (kput kvs k v).map (·.1) := List.mem_map.mpr ⟨p, h, rfl⟩
 rw [kput_keys] at hm
 by_cases q : k ∈ kvs.map (·.1)
 ·rw [if_pos q] at hm; exact .inr hm
 ·rw [if_neg q] at hm; exact (List.mem_append.mp hm).symm.imp List.mem_singleton.mp id
theorem kput_nodup {kvs : List (Key × α)} (h : (kvs.map (·.1)).Nodup) (k : Key) (v : α) : ((kput kvs k v).map (·.1)).Nodup := by
 rw [kput_keys]
 by_cases q : k ∈ kvs.map (·.1)
 ·rw [if_pos q]; exact h
 ·rw [if_neg q, List.nodup_append]
  exact ⟨h, List.nodup_cons.mpr ⟨List.not_mem_nil, .nil⟩, fun a ha b hb e => q (List.mem_singleton.mp hb ▸ e ▸ ha)⟩
theorem kput_ok {f : Fla} {kvs : List (Key × α)} {k : Key} {v : α} (h : KeysOk f kvs) (hk : k.fl = f) : KeysOk f (kput kvs k v) :=
 ⟨fun p hp => (kput_mem hp).elim (fun e => e ▸ hk) fun m => by obtain ⟨q, hq, e⟩ := List.mem_map.mp m; exact e ▸ h.1 q hq, kput_nodup h.2 k v⟩
theorem kput_at {kvs : List (Key × α)} (hn : (kvs.map (·.1)).Nodup) {j : Nat} {k : Key} {v v' : α} (h : kvs[j]? = some (k, v)) : kput kvs k v' = kvs.set j (k, v') := by
 induction kvs generalizing j with
 | nil => cases h
 | cons p r ih =>
  rw [List.map_cons, List.nodup_cons] at hn
  rw [kput_cons]
  cases j with
  | zero => obtain rfl : p = (k, v) := Option.some.inj h; exact if_pos rfl
  | succ j => rw [if_neg fun e : p.1 = k => hn.1 (e ▸ List.mem_map.mpr ⟨(k, v), List.mem_of_getElem? (i := j) h, rfl⟩), List.set_cons_succ, ih hn.2 h]
theorem kput_new {kvs : List (Key × α)} {k : Key} {v : α} (h : k ∉ kvs.map (·.1)) : kput kvs k v = kvs ++ [(k, v)] := by
 induction kvs with
 | nil => rfl
 | cons p r ih =>
  rw [kput_cons, if_neg fun e : p.1 = k => h (e ▸ .head _), ih fun m => h (.tail _ m)]; rfl
theorem kdel_at {kvs : List (Key × α)} (hn : (kvs.map (·.1)).Nodup) {j : Nat} {k : Key} {v : α} (h : kvs[j]? = some (k, v)) : kdel kvs k = kvs.eraseIdx j := by
 induction kvs generalizing j with
 | nil => cases h
 | cons p r ih =>
  rw [List.map_cons, List.nodup_cons] at hn
  rw [kdel_cons]
  cases j with
  | zero => obtain rfl : p = (k, v) := Option.some.inj h; exact if_pos rfl
  | succ j => rw [if_neg fun e : p.1 = k => hn.1 (e ▸ List.mem_map.mpr ⟨(k, v), List.mem_of_getElem? (i := j) h, rfl⟩), List.eraseIdx_cons_succ, ih hn.2 h]
theorem kdel_sub (kvs : List (Key × α)) (k : Key) : (kdel kvs k).Sublist kvs := by
 induction kvs with
 | nil => exact .slnil
 | cons p r ih =>
  rw [kdel_cons]
  split
  ·exact .cons _ (List.Sublist.refl _)
  ·exact .cons_cons _ ih
theorem modify_set {f : α → α} {a : α} (l : List α) (j : Nat) (h : l[j]? = some a) : l.modify j f = l.set j (f a) := by
 induction l generalizing j with
 | nil => cases h
 | cons x l ih => cases j with
  | zero => cases h; rfl
  | succ j => exact congrArg (x :: ·) (ih j h)
theorem kput_length (kvs : List (Key × α)) (k : Key) (v : α) : (kput kvs k v).length ≤ kvs.length + 1 := by
 induction kvs with
 | nil => exact Nat.le_refl _
 | cons p r ih =>
  rw [kput_cons]
  split
  ·exact Nat.le_succ _
  ·exact Nat.succ_le_succ ih
end
section
variable {Γ : Cx} {n : Nat} {env : Env} {ρ : Rho} {σ : Sto} {ν : List Addr} {g : Heap} {s : Shared} {A : Around} {E : Value → Shared → Prop}
 {f : Fla} {d : Addr} {es : List DictEntry} {m : Nat} {kvs : List (Key × V)} {k : Key} {key : Value}
structure DAt (Γ : Cx) (ν : List Addr) (g : Heap) (s : Shared) (f : Fla) (d : Addr) (es : List DictEntry) (m : Nat) (kvs : List (Key × V)) (k : Key) (key : Value) (A : Around) : Prop where
 hu : A.units + 8 < cLine
 sub : HeapLe g s.heap
 ho : s.heap.get? d = some (dictOf es m)
 hk : KeysOk f kvs
 hr : All2 (RepVE Γ.prog Γ.w ν g) es kvs
 r : RepKey Γ.prog Γ.w g k key
 hf : k.fl = f
 hs : (d == sysModules) = false
theorem DAt.in1 (x : DAt Γ ν g s f d es m kvs k key A) (h : A.units + 20 < cLine) : DAt Γ ν g s f d es m kvs k key A.in1 := ⟨by show A.units + 1 + 8 < _; lia, x.sub, x.ho, x.hk, x.hr, x.r, x.hf, x.hs⟩
theorem DAt.find (x : DAt Γ ν g s f d es m kvs k key A) {Q : Option Nat → Shared → Prop} (h1 : ∀ t j v, kvs[j]? = some (k, v) → Q (some j) { s with toks := t }) (h2 : ∀ t, k ∉ kvs.map (·.1) → Q none { s with toks := t }) :
  wpAny (model Γ.prog Γ.w) A (pyHash key) (fun h s' => wpAny (model Γ.prog Γ.w) A (dictFind d key h) Q E s') E s :=
 k_hash x.hu x.r x.sub fun t => k_find (s := { s with toks := t }) x.hu x.sub x.ho x.hk x.hr x.r x.hf (h1 t) (h2 t)
theorem DAt.get (x : DAt Γ ν g s f d es m kvs k key A) {Q : Option Value → Shared → Prop} (h1 : ∀ t v y, kvs.lookup k = some y → RepV Γ.prog Γ.w ν g v y → Q (some v) { s with toks := t }) (h2 : ∀ t, kvs.lookup k = none → Q none { s with toks := t }) :
  wpAny (model Γ.prog Γ.w) A (dictGet d key) Q E s := by
 unfold dictGet
 refine wpAny_holding ?_
 refine wpAny_bind (wpAny_mono (x.find (Q := fun r s' => ∃ t, s' = { s with toks := t } ∧ ((∃ j v, r = some j ∧ kvs[j]? = some (k, v)) ∨ (r = none ∧ k ∉ kvs.map (·.1)))) (fun t j v h => ⟨t, rfl, .inl ⟨j, v, rfl, h⟩⟩) fun t h => ⟨t, rfl, .inr ⟨rfl, h⟩⟩) (fun h s' h' => wpAny_bind (wpAny_mono h' (fun r s'' h'' => ?_) fun z' z' e => e)) fun z' z' e => e)
 obtain ⟨t, rfl, ⟨j, v, rfl, hj⟩ | ⟨rfl, hn⟩⟩ := h''
 ·obtain ⟨e, he, hre⟩ := x.hr.get j (k, v) hj
  refine wpAny_bind (wpAny_dictEntries (s := { s with toks := t }) x.ho rfl (wpAny_pure ?_))
  have : es.toArray[j]? = some e := by simpa using he
  rw [this]
  exact h1 t e.val v (lookup_of_get x.hk.2 hj) hre.2.2
 ·exact wpAny_pure (h2 t (lookup_none hn))
theorem DAt.set (x : DAt Γ ν g s f d es m kvs k key A) {v : Value} {y : V} (ry : RepV Γ.prog Γ.w ν g v y) (hz : kvs.length ≤ 100000) {Q : Unit → Shared → Prop}
  (h : ∀ t h' es' m', Heap.SameBut d s.heap h' → h'.get? d = some (dictOf es' m') → All2 (RepVE Γ.prog Γ.w ν g) es' (kput kvs k y) → Q () { s with heap := h', toks := t }) :
  wpAny (model Γ.prog Γ.w) A (dictSet d key v) Q E s := by
 have hz' : es.toArray.size ≤ sizeLine := by have := x.hr.length; rw [sizeLine_eq]; simp; lia
 unfold dictSet
 refine wpAny_holding ?_
 refine wpAny_bind (k_hash x.hu x.r x.sub fun t => ?_)
 unfold dictSetHashed
 refine wpAny_holding ?_
 refine wpAny_bind (k_find (s := { s with toks := t }) x.hu x.sub x.ho x.hk x.hr x.r x.hf (fun j v₀ hj => ?_) fun hn => ?_)
 ·refine wpAny_bind (wpAny_rule (wpAny_bind (wpAny_updateDict (s := { s with toks := t }) x.ho rfl (wpAny_point ?_))))
  obtain ⟨e, he, hre⟩ := x.hr.get j (k, v₀) hj
  have q : (es.toArray.modify j fun e => { e with val := v }) = (es.set j { e with val := v }).toArray := by
   apply Array.toList_inj.mp
   obtain ⟨hlt, rfl⟩ := List.getElem?_eq_some_iff.mp he
   simpa using modify_set (f := fun e : DictEntry => { e with val := v }) es j (List.getElem?_eq_getElem hlt)
  refine h t _ (es.set j { e with val := v }) m (Heap.SameBut.update ..) ?_ ?_
  ·rw [Heap.get?_update_self _ x.ho rfl]
   show some (Obj.mapDict _ _) = _
   unfold Obj.mapDict
   dsimp only
   rw [q]
  ·rw [kput_at x.hk.2 hj]
   exact x.hr.set j ⟨hre.1, hre.2.1, ry⟩
 ·refine wpAny_bind (wpAny_rule (wpAny_updateDictKeys (hz := hz') (s := { s with toks := t }) x.ho rfl ?_))
  refine h t _ (es ++ [⟨hashKey Γ.prog Γ.w k, key, v⟩]) (m + 1) (Heap.SameBut.update ..) ?_ ?_
  ·rw [Heap.get?_update_self _ x.ho rfl]
   show some (Obj.mapDictKeys _ _) = _
   unfold Obj.mapDictKeys
   dsimp only
   simp
  ·rw [kput_new hn]
   exact x.hr.append (.cons ⟨x.r, rfl, ry⟩ .nil)
theorem DAt.takeOut (x : DAt Γ ν g s f d es m kvs k key A) (hin : k ∈ kvs.map (·.1)) (hz : kvs.length ≤ 100000) {Q : Option DictEntry → Shared → Prop}
  (h : ∀ t h' e es' m', Heap.SameBut d s.heap h' → h'.get? d = some (dictOf es' m') → All2 (RepVE Γ.prog Γ.w ν g) es' (kdel kvs k) → Q (some e) { s with heap := h', toks := t }) :
  wpAny (model Γ.prog Γ.w) A (Builtin.Dict.takeOut d key) Q E s := by
 have hz' : es.toArray.size ≤ sizeLine := by have := x.hr.length; rw [sizeLine_eq]; simp; lia
 unfold Builtin.Dict.takeOut
 refine wpAny_holding ?_
 refine wpAny_bind (k_hash x.hu x.r x.sub fun t => ?_)
 refine wpAny_bind (k_find (s := { s with toks := t }) x.hu x.sub x.ho x.hk x.hr x.r x.hf (fun j v₀ hj => ?_) fun hn => absurd hin hn)
 obtain ⟨e, he, hre⟩ := x.hr.get j (k, v₀) hj
 refine wpAny_bind (wpAny_dictEntries (s := { s with toks := t }) x.ho rfl ?_)
 have he' : es.toArray[j]? = some e := by simpa using he
 rw [he']
 refine wpAny_bind (wpAny_updateDictKeys (hz := hz') (s := { s with toks := t }) x.ho rfl (wpAny_pure ?_))
 refine h t _ e (es.eraseIdx j) (m + 1) (Heap.SameBut.update ..) ?_ ?_
 ·rw [Heap.get?_update_self _ x.ho rfl]
  show some (Obj.mapDictKeys _ _) = _
  unfold Obj.mapDictKeys
  dsimp only
  have : es.toArray.eraseIdxIfInBounds j = (es.eraseIdx j).toArray := by
   apply Array.toList_inj.mp
   simp
  rw [this]
 ·rw [kdel_at x.hk.2 hj]
  exact x.hr.erase j
end
section
variable {Γ : Cx} {n : Nat} {env : Env} {ρ : Rho} {σ : Sto} {ν : List Addr} {g : Heap} {s : Shared} {A : Around}
theorem DctV.dat {o : V} {f : Fla} {kvs : List (Key × V)} {k : Key} {x key : Value} (hd : DctV σ o f kvs) (S : Sat Γ.prog Γ.w Γ.B σ ν g s) (hA : AOK n A ν g s.heap) (r : RepV Γ.prog Γ.w ν g x o) (rk : RepV Γ.prog Γ.w ν g key (.t k.pv)) (hf : k.fl = f) :
  ∃ a es m, x = .ref a ∧ DAt Γ ν g s f a es m kvs k key A := by
 obtain ⟨a, es, m, rfl, z, ho, hk, hr⟩ := hd.at_ S r
 exact ⟨a, es, m, rfl, ⟨by have := hA.units; lia, S.sub, ho, hk, hr, RepKey.of rk, hf, z⟩⟩
theorem dtype {a : Addr} {es : List DictEntry} {m : Nat} (ho : s.heap.get? a = some (dictOf es m)) : s.TypeIs (.ref a) "dict" := ⟨_, ho, rfl⟩
theorem AOK.u20 (hA : AOK n A ν g s.heap) : A.units + 20 < cLine := by have := hA.units; lia
theorem g_dct {o : V} {f : Fla} {kvs : List (Key × V)} (k : Key) {y : V} {Q : V → Sto → Prop} (hd : DctV σ o f kvs) (hf : k.fl = f) (hl : kvs.lookup k = some y) (h : Q y σ) : WG Γ n o (.t k.pv) σ Q := fun A s ν g x key hA S r1 r2 => by
 obtain ⟨a, es, m, rfl, D⟩ := hd.dat S hA r1 r2 hf
 have hT := dtype D.ho
 refine ⟨⟨"dict", _, hT, slot_dict_getitem.lookup⟩, ?_⟩
 unfold getItem
 refine wpAny_holding ?_
 refine wpAny_bind (wpAny_sequenceKey hT (by decide) ?_)
 refine wpAny_bind (wpAny_callSpecial?_slot (name := ofString "__getitem__") hT slot_dict_getitem
  (wpAny_call_entry slot_dict_getitem hT entry_dict_getitem ?_ (args_dict_getitem _ _)))
 show wpAny _ _ (dictGet a key >>= _) _ _ s
 refine wpAny_bind ((D.in1 hA.u20).get (fun t v y' hy rv => ?_) fun t hn => ?_)
 ·rw [hl] at hy; cases hy
  exact wpAny_pure ⟨v, rfl, wpAny_pure (postR (k := t) S rv h)⟩
 ·rw [hl] at hn; cases hn
theorem contains_d {o : V} {f : Fla} {kvs : List (Key × V)} {k : Key} {x key : Value} {Q : Bool → Shared → Prop} {E : Value → Shared → Prop} (hd : DctV σ o f kvs) (S : Sat Γ.prog Γ.w Γ.B σ ν g s) (hA : AOK n A ν g s.heap) (r : RepV Γ.prog Γ.w ν g x o) (rk : RepV Γ.prog Γ.w ν g key (.t k.pv)) (hf : k.fl = f)
  (h : ∀ t, Q (kvs.lookup k).isSome { s with toks := t }) : wpAny (model Γ.prog Γ.w) A (contains x key) Q E s := by
 obtain ⟨a, es, m, rfl, D⟩ := hd.dat S hA r rk hf
 have hT := dtype D.ho
 unfold contains
 refine wpAny_holding ?_
 refine wpAny_bind (wpAny_specialOf hT slot_dict_contains.lookup ?_)
 show wpAny _ _ (if (some (Value.builtin "dict.__contains__") == some Value.none) = true then _ else _) _ E s
 rw [if_neg (by rw [beq_builtin_none]; exact Bool.false_ne_true)]
 refine wpAny_bind (wpAny_callSpecialUnlessNone?_slot (name := ofString "__contains__") hT slot_dict_contains
  (wpAny_call_entry slot_dict_contains hT entry_dict_contains ?_ (args_dict_contains _ _)))
 show wpAny _ _ (dictGet a key >>= _) _ _ s
 refine wpAny_bind ((D.in1 hA.u20).get (fun t v y' hy rv => ?_) fun t hn => ?_)
 ·show wpAny _ _ (ret (.bool true)) _ _ _
  have := h t; rw [hy] at this
  exact wpAny_pure ⟨_, rfl, wpAny_truthy_bool this⟩
 ·show wpAny _ _ (Builtin.Dict.pendingKey? a key >>= _) _ _ _
  have := h t; rw [hn] at this
  exact wpAny_bind (wpAny_pendingKey_other D.hs (wpAny_pure ⟨_, rfl, wpAny_truthy_bool this⟩))
theorem postBt {b : Bool} {t : Nat} {Q : V → Sto → Prop} (S : Sat Γ.prog Γ.w Γ.B σ ν g s) (h : Q (.t (.bool b)) σ) : PostV Γ [] ν g s Q (.bool b) { s with toks := t } :=
 ⟨ν, g, σ, .t (.bool b), .toks rfl ⟨rfl, rfl, rfl⟩, S.toks rfl, Rep.bool _, h⟩
theorem v_inD {o : V} {f : Fla} {kvs : List (Key × V)} (k : Key) {Q : V → Sto → Prop} (hd : DctV σ o f kvs) (hf : k.fl = f) (h : Q (.t (.bool (kvs.lookup k).isSome)) σ) : WV2 Γ n (.t k.pv) o (compareOp .In) σ Q := fun A s ν g key x hA S r1 r2 => by
 show wpAny _ _ (do return Value.bool (← contains x key)) _ _ s
 exact wpAny_bind (contains_d hd S hA r2 r1 hf fun t => wpAny_pure (postBt S h))
theorem v_notinD {o : V} {f : Fla} {kvs : List (Key × V)} (k : Key) {Q : V → Sto → Prop} (hd : DctV σ o f kvs) (hf : k.fl = f) (h : Q (.t (.bool (!(kvs.lookup k).isSome))) σ) : WV2 Γ n (.t k.pv) o (compareOp .NotIn) σ Q := fun A s ν g key x hA S r1 r2 => by
 show wpAny _ _ (do return Value.bool (!(← contains x key))) _ _ s
 exact wpAny_bind (contains_d hd S hA r2 r1 hf fun t => wpAny_pure (postBt S h))
theorem w_get1 {o : V} {f : Fla} {kvs : List (Key × V)} (k : Key) {Q : V → Sto → Prop} (hd : DctV σ o f kvs) (hf : k.fl = f) (h : Q ((kvs.lookup k).getD (.t .none)) σ) : WC Γ n (.builtin "dict.get") [o, .t k.pv] σ Q := fun A s ν g ys hA S r => by
 obtain ⟨x, key, rfl, r1, r2⟩ := r.inv2
 obtain ⟨a, es, m, rfl, D⟩ := hd.dat S hA r1 r2 hf
 refine wpAny_call_entry PySem.F.slot_dict_get (dtype D.ho) PySem.F.entry_dict_get ?_ (PySem.F.args_dict_get_2 _ _)
 show wpAny _ _ (dictGet a key >>= _) _ _ s
 refine wpAny_bind ((D.in1 hA.u20).get (fun t v y' hy rv => ?_) fun t hn => ?_)
 ·rw [hy] at h
  exact wpAny_pure ⟨v, rfl, postR (k := t) S rv h⟩
 ·rw [hn] at h
  show wpAny _ _ (Builtin.Dict.missed a key >>= _) _ _ _
  exact wpAny_bind (wpAny_missed_other D.hs (wpAny_pure ⟨.none, rfl, postR (k := t) S (d := .t .none) Rep.none h⟩))
theorem w_get2 {o e : V} {f : Fla} {kvs : List (Key × V)} (k : Key) {Q : V → Sto → Prop} (hd : DctV σ o f kvs) (hf : k.fl = f) (h : Q ((kvs.lookup k).getD e) σ) : WC Γ n (.builtin "dict.get") [o, .t k.pv, e] σ Q := fun A s ν g ys hA S r => by
 obtain ⟨x, key, z, rfl, r1, r2, r3⟩ := r.inv3
 obtain ⟨a, es, m, rfl, D⟩ := hd.dat S hA r1 r2 hf
 refine wpAny_call_entry PySem.F.slot_dict_get (dtype D.ho) PySem.F.entry_dict_get ?_ (PySem.F.args_dict_get_3 _ _ _)
 show wpAny _ _ (dictGet a key >>= _) _ _ s
 refine wpAny_bind ((D.in1 hA.u20).get (fun t v y' hy rv => ?_) fun t hn => ?_)
 ·rw [hy] at h
  exact wpAny_pure ⟨v, rfl, postR (k := t) S rv h⟩
 ·rw [hn] at h
  show wpAny _ _ (Builtin.Dict.missed a key >>= _) _ _ _
  exact wpAny_bind (wpAny_missed_other D.hs (wpAny_pure ⟨z, rfl, postR (k := t) S r3 h⟩))
theorem w_len_dct {o : V} {f : Fla} {kvs : List (Key × V)} {Q : V → Sto → Prop} (hd : DctV σ o f kvs) (hz : kvs.length < 1000000) (h : Q (.t (.int kvs.length)) σ) : WC Γ n (.builtin "len") [o] σ Q := fun A s ν g ys hA S r => by
 obtain ⟨x, rfl, r1⟩ := r.inv1
 obtain ⟨a, es, m, rfl, z, ho, hk, hr⟩ := hd.at_ S r1
 have hT := dtype ho
 have e : es.length = kvs.length := hr.length
 refine PySem.Calls.call_function_entry kind_len plain_len entry_len (args_len1 _) ?_
 unfold Builtin.«len»
 refine wpAny_bind (m := oneArg "len" _) (wpAny_pure ?_)
 refine wpAny_bind (m := callSpecial? (.ref a) (ofString "__len__")) (wpAny_callSpecial?_slot (name := ofString "__len__") hT PySem.F.slot_dict_len
  (wpAny_call_entry PySem.F.slot_dict_len hT PySem.F.entry_dict_len ?_ (PySem.F.args_dict_len_1 _)))
 show wpAny _ _ (dictSize a >>= _) _ _ s
 unfold dictSize
 refine wpAny_bind (wpAny_bind (wpAny_dictEntries ho rfl (wpAny_pure ?_)))
 show wpAny _ _ (Builtin.Dict.pendingCount a >>= _) _ _ s
 refine wpAny_bind (wpAny_pendingCount_other z ?_)
 refine wpAny_bind (wpAny_mkInt (wpAny_pure ⟨_, rfl, ?_⟩))
 have e' : es.toArray.size = kvs.length := by simpa using e
 rw [Nat.add_zero, e']
 show wpAny _ _ _ _ _ { s with toks := s.toks + 1 }
 refine wpAny_bind (wpAny_holding (wpAny_pure ?_))
 refine wpAny_bind (wpAny_letGo ?_)
 show wpAny _ _ (if ((kvs.length : Nat) : Int) < 0 then _ else _) _ _ _
 rw [if_neg (by lia)]
 show wpAny _ _ (if ((kvs.length : Nat) : Int) ≥ 2 ^ 63 then _ else _) _ _ _
 rw [if_neg (by lia)]
 exact wpAny_bind (wpAny_mkInt (wpAny_pure ⟨_, rfl, postI S h⟩))
def WSt (Γ : Cx) (n : Nat) (o i v : V) (σ : Sto) (Q : Sto → Prop) : Prop :=
 ∀ A s ν g x y z, AOK n A ν g s.heap → Sat Γ.prog Γ.w Γ.B σ ν g s → RepV Γ.prog Γ.w ν g x o → RepV Γ.prog Γ.w ν g y i → RepV Γ.prog Γ.w ν g z v →
  wpAny (model Γ.prog Γ.w) A (setItem x y z) (PostP Γ [] ν g s (fun z' => Q)) Fal s
theorem s_dct {i : Nat} {f : Fla} {kvs : List (Key × V)} (k : Key) {v : V} {Q : Sto → Prop} (hd : σ i = some (.dct f kvs)) (hf : k.fl = f) (hz : kvs.length ≤ 100000) (h : Q (upd σ i (.dct f (kput kvs k v)))) : WSt Γ n (.ref i) (.t k.pv) v σ Q := fun A s ν g x key z hA S r1 r2 r3 => by
 obtain ⟨a, es, m, rfl, D⟩ := DctV.dat (o := .ref i) hd S hA r1 r2 hf
 have hT := dtype D.ho
 obtain ⟨_, e, ha⟩ := r1; cases e
 unfold setItem
 refine wpAny_holding ?_
 refine wpAny_bind (wpAny_sequenceKey hT (by decide) ?_)
 refine wpAny_bind (wpAny_callSpecial?_slot (name := ofString "__setitem__") hT slot_dict_setitem
  (wpAny_call_entry slot_dict_setitem hT entry_dict_setitem ?_ (args_dict_setitem _ _ _)))
 show wpAny _ _ (Builtin.Dict.notOrdered "__setitem__" ⟨[.ref a, key, z], []⟩ >>= _) _ _ s
 refine wpAny_bind (wpAny_notOrdered_dict hT ?_)
 show wpAny _ _ (dictSet a key z >>= _) _ _ s
 refine wpAny_bind ((D.in1 hA.u20).set r3 hz fun t h' es' m' hs ho' hr' => wpAny_pure ⟨.none, rfl, wpAny_pure ?_⟩)
 obtain ⟨st, S'⟩ := S.setO (t := t) (ao' := .dct f (kput kvs k v)) ha hd rfl hs ho' ⟨D.hs, es', m', rfl, kput_ok D.hk hf, hr'⟩
 exact ⟨ν, g, _, st, S', h⟩
theorem s_lst {i : Nat} {j : Int} {xs : List V} {v : V} {Q : Sto → Prop} (hl : σ i = some (.lst xs)) (h0 : 0 ≤ j) (hj : j < xs.length) (hz : xs.length ≤ 100000) (h : Q (upd σ i (.lst (xs.set j.toNat v)))) : WSt Γ n (.ref i) (.t (.int j)) v σ Q := fun A s ν g x y z hA S r1 r2 r3 => by
 obtain ⟨t, rfl⟩ := Rep.int_inv r2
 obtain ⟨a, rfl, ha⟩ := r1
 obtain ⟨o, ho, vs, m, rfl, hr⟩ := S.own i a _ ha hl
 have e : vs.size = xs.length := by have := hr.length; simpa using this
 have hT : s.TypeIs (.ref a) "list" := ⟨_, ho, rfl⟩
 unfold setItem
 refine wpAny_holding ?_
 refine wpAny_bind (wpAny_sequenceKey hT (by decide) ?_)
 refine wpAny_bind (wpAny_callSpecial?_slot (name := ofString "__setitem__") hT slot_list_setitem
  (wpAny_call_entry slot_list_setitem hT entry_list_setitem ?_ (args_list_setitem _ _ _)))
 show wpAny _ _ (Builtin.List.listSubscript? (.int j t) >>= _) _ _ s
 refine wpAny_bind (wpAny_listSubscript_int (fitsIndex_of h0 (by lia)) ?_)
 obtain ⟨k, rfl⟩ := Int.eq_ofNat_of_zero_le h0
 have hk : k < vs.size := by lia
 show wpAny _ _ ((seqItemAt a k >>= fun r => pure (r.map (k, ·))) >>= _) _ _ s
 refine wpAny_bind (wpAny_bind (wpAny_seqItemAt ho rfl (wpAny_pure ?_)))
 have hx' : vs[k]? = some vs[k] := Array.getElem?_eq_getElem hk
 rw [hx']
 show wpAny _ _ (setSeqItemAt a k z >>= _) _ _ s
 refine wpAny_bind (wpAny_setSeqItemAt ho rfl (wpAny_pure ⟨.none, rfl, wpAny_pure ?_⟩))
 obtain ⟨st, S'⟩ := S.setO (t := s.toks) (ao' := .lst (xs.set k v)) ha hl rfl (Heap.SameBut.update _ _ _) (Heap.get?_update_self (Obj.mapSeq (·.setIfInBounds k z)) ho rfl) ⟨vs.setIfInBounds k z, m, by
  show Obj.mapSeq _ _ = _
  unfold Obj.mapSeq
  simp, by simpa using hr.set k r3⟩
 exact ⟨ν, g, _, st, S', h⟩
end
section
variable {Γ : Cx} {n : Nat} {env : Env} {ρ : Rho} {σ : Sto} {ν : List Addr} {g : Heap} {s : Shared} {A : Around}
theorem WS.setSub {o i value : Expr} {pos' pos : Pos} {Q : Fl → Rho → Sto → Prop}
  (h : WE Γ n env value ρ σ fun v σ₁ => WE Γ n env o ρ σ₁ fun ov σ₂ => WE Γ n env i ρ σ₂ fun iv σ₃ => WSt Γ n ov iv v σ₃ fun σ₄ => Q .next ρ σ₄)
  (hs : autoParam (swapsWith value (some (.Subscript o i pos')) pos.line env = pure false) rfl0S) : WS Γ n env (.Assign [.Subscript o i pos'] value pos) ρ σ Q := fun A s ν g hA hT F S => by
 refine wpAny_Assign_Subscript (seqV (h A s ν g hA F S) fun v s₁ ν₁ g₁ σ₁ d₁ st₁ S₁ r₁ q₁ => seqV (q₁ A s₁ ν₁ g₁ (hA.step st₁) (F.step st₁) S₁) fun ov s₂ ν₂ g₂ σ₂ d₂ st₂ S₂ r₂ q₂ =>
  seqV (q₂ A s₂ ν₂ g₂ (hA.step (st₁.trans st₂)) (F.step (st₁.trans st₂)) S₂) fun iv s₃ ν₃ g₃ σ₃ d₃ st₃ S₃ r₃ q₃ => ?_) hs
 have st := (st₁.trans st₂).trans st₃
 refine seqP (q₃ A s₃ ν₃ g₃ ov iv v (hA.step st) S₃ (st₃.rep r₂) r₃ (st₃.rep (st₂.rep r₁))) fun z' s₄ ν₄ g₄ σ₄ st₄ S₄ q₄ => ?_
 exact ⟨ν₄, g₄, σ₄, ρ, (st.trans st₄).any, F.step (st.trans st₄), S₄, q₄⟩
theorem v_iadd {a b : Int} {Q : V → Sto → Prop} (h : Q (.t (.int (a + b))) σ) : WV2 Γ n (.t (.int a)) (.t (.int b)) (inplaceOp .Add) σ Q := fun A s ν g x y hA S r1 r2 => by
 obtain ⟨t, rfl⟩ := Rep.int_inv r1; obtain ⟨u, rfl⟩ := Rep.int_inv r2; exact P.iadd_int (postI S h)
theorem v_isub {a b : Int} {Q : V → Sto → Prop} (h : Q (.t (.int (a - b))) σ) : WV2 Γ n (.t (.int a)) (.t (.int b)) (inplaceOp .Sub) σ Q := fun A s ν g x y hA S r1 r2 => by
 obtain ⟨t, rfl⟩ := Rep.int_inv r1; obtain ⟨u, rfl⟩ := Rep.int_inv r2; exact P.isub_int (postI S h)
theorem v_iaddL {i : Nat} {b : V} {xs ys : List V} {Q : V → Sto → Prop} (ha : σ i = some (.lst xs)) (hb : LstV σ b ys) (hne : b ≠ .ref i) (hz : xs.length + ys.length ≤ 100000) (h : Q (.ref i) (upd σ i (.lst (xs ++ ys)))) : WV2 Γ n (.ref i) b (inplaceOp .Add) σ Q := fun A s ν g x y hA S r1 r2 => by
 obtain ⟨b₁, ws, k, rfl, hob, hrb⟩ := hb.at_ S r2
 obtain ⟨a, rfl, hai⟩ := r1
 obtain ⟨o, hoa, vs, m, rfl, hra⟩ := S.own i a _ hai ha
 have e1 : vs.size = xs.length := by have := hra.length; simpa using this
 have e2 : ws.size = ys.length := by have := hrb.length; simpa using this
 have hTa : s.TypeIs (.ref a) "list" := ⟨_, hoa, rfl⟩
 have hTb : s.TypeIs (.ref b₁) "list" := ⟨_, hob, rfl⟩
 unfold inplaceOp
 refine wpAny_holding ?_
 have hfi : fillsInplaceSlot (.type "list") "add" (Operator.Add == .Add) = pure false := by
  unfold fillsInplaceSlot
  show (typeLookup (.type "list") (dunderI "add") >>= fun fi => pure (fi.isSome && !isSeqSlot fi)) = pure false
  rw [show typeLookup (.type "list") (dunderI "add") = _ from PySem.F.slot_list_iadd.lookup]
  rfl
 have hsi : seqSlot? (.type "list") (dunderI "add") = pure (some (.builtin "list.__iadd__")) := PySem.seqSlot_of PySem.F.slot_list_iadd.lookup (by decide +kernel)
 refine wpAny_bind (wpAny_typeOf hTa (wpAny_bind (wpAny_of_eq hfi ?_)))
 show wpAny _ _ (if false = true then _ else _) _ _ s
 rw [if_neg Bool.false_ne_true]
 refine wpAny_bind (wpAny_binaryOp1_none (nm := "add") hTa hTb noFill_list_add ?_)
 refine wpAny_bind (wpAny_of_eq hsi ?_)
 refine wpAny_bind (wpAny_rule ?_)
 refine call_meets PySem.F.slot_list_iadd hTa PySem.F.entry_list_iadd (PySem.F.args_list_iadd_2 _ _) (AutoSeq1.list___iadd___list_list_0 a vs m b₁ ws k (by simp [Builtin.List.listTooLong]; intro _; rw [sizeLine_eq]; lia) (by rw [sizeLine_eq]; lia) (by rw [sizeLine_eq]; lia)) ⟨hoa, hob, ?_⟩
 have hl : (vs ++ ws).size = vs.size ↔ ws.size = 0 := by rw [Array.size_append]; lia
 obtain ⟨st, S'⟩ := S.setO (t := s.toks) (ao' := .lst (xs ++ ys)) hai ha rfl (Heap.SameBut.update _ _ _) (Heap.get?_update_self (Obj.mapSeq fun x => x ++ ws) hoa rfl)
  ⟨vs ++ ws, _, rfl, by simpa using hra.append hrb⟩
 exact ⟨ν, g, _, .ref i, st, S', ⟨a, rfl, hai⟩, h⟩
theorem WS.augName {x : Str} {px p : Pos} {op : Operator} {e : Expr} {v : V} {Q : Fl → Rho → Sto → Prop} (hx : ρ.lookup x = some v) (h : WE Γ n env e ρ σ fun d σ₁ => WV2 Γ n v d (inplaceOp op) σ₁ fun r σ₂ => Q .next (put ρ x r) σ₂) (hk : autoParam (env.kindOf x = some .local) rfl0S) :
  WS Γ n env (.AugAssign (.Name x px) op e p) ρ σ Q := fun A s ν g hA hT F S => by
 obtain ⟨m, hn, hm⟩ := F.loc
 obtain ⟨ov, hv, hr⟩ := hm x v hx hk
 refine wpAny_AugAssign_Name (wpAny_loadName_local F.kind hk hn hv (seqV (h A s ν g hA F S) fun w s₁ ν₁ g₁ σ₁ d₁ st₁ S₁ r₁ q₁ => ?_))
 refine seqV (q₁ A s₁ ν₁ g₁ ov w (hA.step st₁) S₁ (st₁.rep hr) r₁) fun u s₂ ν₂ g₂ σ₂ d₂ st₂ S₂ r₂ q₂ => ?_
 exact store_ok (F.step (st₁.trans st₂)) S₂ (.inl hk) r₂ fun s' st F' S' => ⟨ν₂, g₂, σ₂, _, (st₁.trans st₂).any.trans st, F', S', q₂⟩
theorem WS.augSub {o i value : Expr} {tpos pos : Pos} {op : Operator} {Q : Fl → Rho → Sto → Prop}
  (h : WE Γ n env o ρ σ fun ov σ₁ => WE Γ n env i ρ σ₁ fun iv σ₂ => WG Γ n ov iv σ₂ fun old σ₃ => WE Γ n env value ρ σ₃ fun v σ₄ => WV2 Γ n old v (inplaceOp op) σ₄ fun new σ₅ => WSt Γ n ov iv new σ₅ fun σ₆ => Q .next ρ σ₆)
  (hi : autoParam (∀ ov iv new, augStore i ov iv new = (do holding [new, ov, iv] (setItem ov iv new); release [new, ov, iv] []; pure .next)) rfi0S) :
  WS Γ n env (.AugAssign (.Subscript o i tpos) op value pos) ρ σ Q := fun A s ν g hA hT F S => by
 refine wpAny_AugAssign_SubscriptAny (seqV (h A s ν g hA F S) fun ov s₁ ν₁ g₁ σ₁ d₁ st₁ S₁ r₁ q₁ => seqV (q₁ A s₁ ν₁ g₁ (hA.step st₁) (F.step st₁) S₁) fun iv s₂ ν₂ g₂ σ₂ d₂ st₂ S₂ r₂ q₂ => ?_) hi
 have st := st₁.trans st₂
 refine seqV (q₂ A s₂ ν₂ g₂ ov iv (hA.step st) S₂ (st₂.rep r₁) r₂).2 fun old s₃ ν₃ g₃ σ₃ d₃ st₃ S₃ r₃ q₃ => ?_
 have st' := st.trans st₃
 refine seqV (q₃ A s₃ ν₃ g₃ (hA.step st') (F.step st') S₃) fun v s₄ ν₄ g₄ σ₄ d₄ st₄ S₄ r₄ q₄ => ?_
 have st'' := st'.trans st₄
 refine seqV (q₄ A s₄ ν₄ g₄ old v (hA.step st'') S₄ (st₄.rep r₃) r₄) fun new s₅ ν₅ g₅ σ₅ d₅ st₅ S₅ r₅ q₅ => ?_
 have st5 := st''.trans st₅
 refine seqP (q₅ A s₅ ν₅ g₅ ov iv new (hA.step st5) S₅ (st₅.rep (st₄.rep (st₃.rep (st₂.rep r₁)))) (st₅.rep (st₄.rep (st₃.rep r₂))) r₅) fun z' s₆ ν₆ g₆ σ₆ st₆ S₆ q₆ => ?_
 exact ⟨ν₆, g₆, σ₆, ρ, (st5.trans st₆).any, F.step (st5.trans st₆), S₆, q₆⟩
inductive PostA (Γ : Cx) (env : Env) (ν : List Addr) (g : Heap) (s : Shared) (Q : Rho → Sto → Prop) (s' : Shared) : Prop
 | mk (ν' : List Addr) (g' : Heap) (σ' : Sto) (ρ' : Rho) : Step (frA env) ν g s ν' g' s' → FrameOK Γ.prog Γ.w env ρ' ν' g' s'.heap → Sat Γ.prog Γ.w Γ.B σ' ν' g' s' → Q ρ' σ' → PostA Γ env ν g s Q s'
theorem PostA.trans {Q : Rho → Sto → Prop} {s₁ s' : Shared} {ν₁ : List Addr} {g₁ : Heap} (h : PostA Γ env ν₁ g₁ s₁ Q s') (st : Step (frA env) ν g s ν₁ g₁ s₁) : PostA Γ env ν g s Q s' := by
 obtain ⟨ν', g', σ', ρ', a, b, e, q⟩ := h; exact ⟨ν', g', σ', ρ', st.trans a, b, e, q⟩
theorem PostA.mono {Q Q' : Rho → Sto → Prop} {s' : Shared} (h : PostA Γ env ν g s Q s') (hq : ∀ ρ σ, Q ρ σ → Q' ρ σ) : PostA Γ env ν g s Q' s' := by
 obtain ⟨ν', g', σ', ρ', a, b, e, q⟩ := h; exact ⟨ν', g', σ', ρ', a, b, e, hq _ _ q⟩
def WA (Γ : Cx) (n : Nat) (env : Env) (t : Expr) (v : V) (ρ : Rho) (σ : Sto) (Q : Rho → Sto → Prop) : Prop :=
 ∀ A s ν g x, AOK n A ν g s.heap → FrameOK Γ.prog Γ.w env ρ ν g s.heap → Sat Γ.prog Γ.w Γ.B σ ν g s → RepV Γ.prog Γ.w ν g x v →
  wpAny (model Γ.prog Γ.w) A (assign t env x) (fun z' s' => PostA Γ env ν g s Q s') Fal s
theorem WA.name {x : Str} {p : Pos} {v : V} {Q : Rho → Sto → Prop} (h : Q (put ρ x v) σ) (hk : env.kindOf x = some .local ∨ env.kindOf x = some .cell := by first | exact .inl rfl | exact .inr rfl) : WA Γ n env (.Name x p) v ρ σ Q := fun A s ν g y hA F S r =>
 assign_Name (store_ok F S hk r fun s' st F' S' => ⟨ν, g, σ, _, st, F', S', h⟩)
noncomputable def putAll : Rho → List Str → List PV → Rho
 | ρ, x :: xs, d :: ds => putAll (put ρ x (.t d)) xs ds
 | ρ, _, _ => ρ
theorem names_assign {E : Value → Shared → Prop} {ps : List (Str × Pos)} {vs : List Value} {ds : List PV} {ρ : Rho} {s : Shared} {Q : Rho → Sto → Prop} (hk : ∀ p ∈ ps, env.kindOf p.1 = some .local ∨ env.kindOf p.1 = some .cell) (F : FrameOK Γ.prog Γ.w env ρ ν g s.heap) (S : Sat Γ.prog Γ.w Γ.B σ ν g s) (r : All2 (Rep Γ.prog Γ.w g) vs ds) (hl : ps.length = ds.length)
  (h : Q (putAll ρ (ps.map (·.1)) ds) σ) : wpAny (model Γ.prog Γ.w) A (assignInOrder (ps.map fun p => assign (.Name p.1 p.2) env) vs) (fun z' s' => PostA Γ env ν g s Q s') E s := by
 induction ps generalizing vs ds ρ s with
 | nil =>
  obtain rfl := List.eq_nil_of_length_eq_zero hl.symm
  obtain rfl := r.inv
  exact assignInOrder_nil ⟨ν, g, σ, ρ, .refl .., F, S, h⟩
 | cons p ps ih => cases ds with
  | nil => cases hl
  | cons d ds =>
   obtain ⟨v, vs, rfl, r, rs⟩ := r.inv
   exact assignInOrder_cons (assign_Name (store_ok F S (hk p (.head _)) (d := .t d) r fun s' st F' S' => wpAny_mono (ih (fun p hp => hk p (.tail _ hp)) F' S' rs (Nat.succ.inj hl) h) (fun z' s'' q => q.trans st) fun z' z' x => x))
theorem hass (ps : List (Str × Pos)) : assignEach (ps.map fun p => .Name p.1 p.2) env = ps.map fun p => (false, assign (.Name p.1 p.2) env) := by
 induction ps with
 | nil => rfl
 | cons p ps ih => rw [List.map_cons, List.map_cons, ← ih]; rfl
theorem WA.tuple {ps : List (Str × Pos)} {elts : List Expr} {k : Nat} {pos : Pos} {xs : List PV} {Q : Rho → Sto → Prop} (he : elts = ps.map fun p => .Name p.1 p.2) (hl : ps.length = xs.length) (h : Q (putAll ρ (ps.map (·.1)) xs) σ)
  (hk : ∀ p ∈ ps, env.kindOf p.1 = some .local ∨ env.kindOf p.1 = some .cell) : WA Γ n env (.Tuple elts k pos) (.t (.tup xs)) ρ σ Q := fun A s ν g y hA F S r => by
 obtain ⟨a, vs, m, rfl, hg, hr⟩ := Rep.tup_inv r
 have ho := S.sub _ _ hg
 have hsz : vs.size = xs.length := by have := hr.all2.length; simpa using this
 subst he
 refine assign_Tuple_tuple hA.hd ⟨_, ho, rfl, m, rfl⟩ (by rw [hass, List.length_map]; lia) ?_ fun h' he => ?_
 ·rw [hass]
  simp
 ·have kp : HeapLe s.heap h' := fun b o e => he b o (Nat.ne_of_lt (Heap.lt_size e)) e
  have st : Step [] ν g s ν g { s with heap := h' } := .ext kp (t := s.toks)
  have hm : (assignEach (ps.map fun p => Expr.Name p.1 p.2) env).map (·.2) = ps.map fun p => assign (.Name p.1 p.2) env := by rw [hass, List.map_map]; rfl
  rw [hm]
  exact wpAny_mono (names_assign hk (F.step st) (S.ext kp (t := s.toks)) hr.all2 hl h) (fun z' s'' q => q.trans st.any) fun z' z' x => x
theorem WS.assignT {elts : List Expr} {k : Nat} {tpos pos : Pos} {value : Expr} {Q : Fl → Rho → Sto → Prop} (h : WE Γ n env value ρ σ fun v σ₁ => WA Γ n env (.Tuple elts k tpos) v ρ σ₁ fun ρ' σ₂ => Q .next ρ' σ₂)
  (hs : autoParam (swapsWithSole [.Tuple elts k tpos] value pos.line env = pure false) rfl0S) (hw : autoParam (swappedStores [.Tuple elts k tpos] value env = pure none) rfl0S) : WS Γ n env (.Assign [.Tuple elts k tpos] value pos) ρ σ Q := fun A s ν g hA hT F S => by
 refine Assign_Tuple (seqV (h A s ν g hA F S) fun v s₁ ν₁ g₁ σ₁ d₁ st₁ S₁ r₁ q₁ => ?_) hs hw
 refine wpAny_mono (q₁ A s₁ ν₁ g₁ v (hA.step st₁) (F.step st₁) S₁ r₁) (fun z' s₂ q => let ⟨ν', g', σ', ρ', a, b, e, q⟩ := q; ⟨ν', g', σ', ρ', st₁.any.trans a, b, e, q⟩) fun z' z' x => x.elim
end
section
variable {prog : Program} {w : World} {A : Around} {E : Value → Shared → Prop} {s : Shared} {it d : Addr} {i ep : Nat} {es : List DictEntry}
theorem keyiter_next {Q : Option Value → Shared → Prop} (hh : A.handled = none) (hit : s.heap.IsKeyIter it d i es.length ep) (hd : s.heap.get? d = some (dictOf es ep))
  (h1 : ∀ (hi : i < es.length) h', h'.IsKeyIter it d (i + 1) es.length ep → Heap.SameBut it s.heap h' → Q (some es[i].key) { s with heap := h' })
  (h2 : es.length ≤ i → ∀ h', Heap.ExtBut it s.heap h' → Q none { s with heap := h' }) : wpAny (model prog w) A (pyNext (.ref it)) Q E s := by
 obtain ⟨o, ho, hc, hf⟩ := id hit
 have hT := hit.typeIs
 have hown : Builtin.Dict_items.ownsTuple "dict_keyiterator" = false := by decide
 unfold pyNext
 refine wpAny_bind (wpAny_attempt (wpAny_callSpecial?_slot (name := ofString "__next__") hT PySem.F.slot_dict_keyiterator_next
  (wpAny_call_entry PySem.F.slot_dict_keyiterator_next hT PySem.F.entry_dict_keyiterator_next ?_ (PySem.F.args_dict_keyiterator_next_1 _))))
 refine wpAny_bind (wpAny_pure (wpAny_bind (wpAny_bind (wpAny_bind (wpAny_typeNameOfWhole_keyiter hT (wpAny_pure (wpAny_bind (wpAny_fieldsOf ho hf ?_))))))))
 rw [hown, if_neg Bool.false_ne_true]
 show wpAny _ _ (if (Value.ref d == Value.none) = true then _ else _) _ _ s
 rw [if_neg (show ¬ ((Value.ref d == Value.none) = true) from Bool.false_ne_true)]
 refine wpAny_bind (wpAny_pure (wpAny_bind (wpAny_dictEntries hd rfl ?_)))
 rw [if_neg (by simp)]
 refine wpAny_bind (wpAny_pure (wpAny_bind (wpAny_dictEpoch hd rfl ?_)))
 rw [if_neg (by simp)]
 refine wpAny_pure ?_
 dsimp only
 rw [if_neg (show ¬ ((i : Int) < 0) from Int.not_lt.mpr (Int.natCast_nonneg i)), Int.toNat_natCast]
 by_cases hi : i < es.length
 ·rw [List.getElem?_toArray, List.getElem?_eq_getElem hi]
  refine wpAny_bind (wpAny_bind (wpAny_typeNameOfWhole_keyiter hT (wpAny_pure (wpAny_bind (wpAny_isOneOf_keyiter hT ?_)))))
  show wpAny _ _ (setField (.ref it) 1 (rawInt ((i : Int) + 1)) >>= _) _ _ s
  refine wpAny_bind (wpAny_setField ho hf (by simp) ?_)
  have hit' : (s.heap.update it (Obj.mapFields (·.setIfInBounds 1 (rawInt ((i : Int) + 1))))).IsKeyIter it d (i + 1) es.length ep :=
   ⟨_, Heap.get?_update_self _ ho (Obj.isFreed_of_fields (Obj.data_mapFields hf _)), (Obj.cls_mapFields ..).trans hc, by rw [Obj.data_mapFields hf]; simp [rawInt]⟩
  refine wpAny_bind (wpAny_holding (wpAny_bind (wpAny_isOneOf_keyiter (s := { s with heap := s.heap.update it (Obj.mapFields (·.setIfInBounds 1 (rawInt ((i : Int) + 1)))) }) hit'.typeIs ?_)))
  show wpAny _ _ (pure es[i].key) _ _ _
  exact wpAny_pure (wpAny_pure ⟨_, rfl, wpAny_pure (h1 hi _ hit' (Heap.SameBut.update ..))⟩)
 ·have hge : es.length ≤ i := Nat.le_of_not_lt hi
  rw [List.getElem?_toArray, List.getElem?_eq_none hge]
  refine wpAny_bind (wpAny_bind (wpAny_typeNameOfWhole_keyiter hT (wpAny_pure ?_)))
  show wpAny _ _ (setField (.ref it) 0 .none >>= _) _ _ s
  refine wpAny_bind (wpAny_setField ho hf (by simp) ?_)
  show wpAny _ _ (newExc (.type "StopIteration") [] >>= _) _ _ _
  refine wpAny_bind ?_
  unfold newExc newTuple
  refine wpAny_bind (wpAny_newObj_type ?_ (by size_fits))
  refine wpAny_bind (m := firstArgMember _ _) (wpAny_of_eq (a := Value.none) (by first | rfl | (simp only [firstArgMember]; rfl)) ?_)
  refine wpAny_newObj_type ?_ (by size_fits)
  unfold raiseNew
  refine wpAny_bind (wpAny_handled ?_)
  rw [show A.in1.handled = none from hh]
  refine wpAny_bind (wpAny_pure (wpAny_throw ?_))
  refine wpAny_bind (wpAny_isInstance (T := "StopIteration") (b := true) ⟨_, Heap.get?_push_size _ rfl, rfl⟩ isSubtype_stop ?_)
  exact wpAny_pure (h2 hge _ (((Heap.SameBut.update ..).extBut.push _).push _))
theorem keyiter_start {Q : Value → Shared → Prop} (hs : (d == sysModules) = false) (hd : s.heap.get? d = some (dictOf es ep))
  (hQ : Q (.ref s.heap.objs.size) { s with heap := s.heap.push { cls := .type "dict_keyiterator", data := .fields #[.ref d, .int 0 0, .int es.length 0, .int ep 0] } }) :
  wpAny (model prog w) A (pyIter (.ref d)) Q E s := by
 have hT : s.TypeIs (.ref d) "dict" := ⟨_, hd, rfl⟩
 refine wpAny_pyIter_slot hT PySem.F.slot_dict_iter (wpAny_call_entry PySem.F.slot_dict_iter hT PySem.F.entry_dict_iter ?_ (PySem.F.args_dict_iter_1 _))
 unfold Builtin.«dict.__iter__»
 refine wpAny_bind ?_
 unfold Builtin.Dict.dictSlotNone
 refine wpAny_bind (wpAny_notOrdered_dict hT ?_)
 show wpAny _ _ (pure (Value.ref d)) _ _ s
 refine wpAny_pure ?_
 show wpAny _ _ (Builtin.Dict.showsAll d >>= _) _ _ s
 unfold Builtin.Dict.showsAll
 rw [if_neg (by rw [hs]; exact Bool.false_ne_true)]
 refine wpAny_bind (wpAny_pure (wpAny_bind (wpAny_dictEntries hd rfl (wpAny_bind (wpAny_dictEpoch hd rfl ?_)))))
 refine wpAny_bind (wpAny_newObj_type (wpAny_pure ⟨_, rfl, "dict_keyiterator", _, ⟨_, Heap.get?_push_size _ rfl, rfl⟩, PySem.F.slot_dict_keyiterator_next.lookup, ?_⟩))
 simpa [rawInt] using hQ
theorem walks_keys (hh : A.handled = none) (I d : Addr) (hne : d ≠ I) (es : List DictEntry) (ep : Nat) :
  Walks prog w A I [I, d] [I] es.length (fun i v => ∃ e, es[i]? = some e ∧ v = e.key) (fun i h => h.IsKeyIter I d i es.length ep ∧ h.get? d = some (dictOf es ep)) where
 sub := fun b hb => by simp at hb; simp [hb]
 frame := fun z' z' z' st hk => ⟨st.1.at fun o e => hk I (by simp) o e, hk d (by simp) _ st.2⟩
 item := fun i s Q E hi st hQ => keyiter_next hh st.1 st.2 (fun hi h' hit' hs' => hQ es[i].key h' s.toks ⟨es[i], by simp [hi], rfl⟩ ⟨hit', (hs'.2 d hne).trans st.2⟩ fun b o hb e => hs'.extBut b o (fun h => hb (by simp [h])) e) fun hge => absurd hi (Nat.not_lt.mpr hge)
 done := fun s Q E st hQ => keyiter_next hh st.1 st.2 (fun hi => absurd hi (Nat.lt_irrefl _)) fun z' h' he' => hQ h' s.toks fun b o hb e => he' b o (fun h => hb (by simp [h])) e
 self := fun z' z' z' z' st hQ => wpAny_pyIter_keyiter st.1 hQ
end
def okIter (o : Obj) : Prop := (∃ vs, o.data = .fields vs) ∧ ∃ T, o.cls = .type T ∧ (["enumerate", "zip", "dict_itemiterator", "dict_reverseitemiterator", "odict_iterator", "itertools.zip_longest", "itertools.pairwise"].contains T) = false
structure ItAt (Γ : Cx) (I : Addr) (ds : List PV) (ν : List Addr) (g : Heap) (s : Shared) : Prop where
 walk : ∃ (fp : List Addr) (N : Nat) (P : Nat → Value → Prop) (St : Nat → Heap → Prop) (i : Nat), (∀ A : Around, A.handled = none → Walks Γ.prog Γ.w A I fp [I] N P St) ∧ (∀ i h, St i h → ∃ o, h.get? I = some o ∧ okIter o) ∧ i + ds.length = N ∧ St i s.heap ∧
  (∀ b ∈ fp, b = I ∨ ∃ o, g.get? b = some o) ∧ ∀ j v d, P (i + j) v → ds[j]? = some d → Rep Γ.prog Γ.w g v d
 off : I ∉ ν ∧ g.get? I = none
section
variable {Γ : Cx} {n : Nat} {env : Env} {ρ : Rho} {σ : Sto} {ν ν' : List Addr} {g g' : Heap} {s s' : Shared} {A : Around} {I : Addr} {ds : List PV} {d : PV}
theorem ItAt.here (x : ItAt Γ I ds ν g s) : ∃ o, s.heap.get? I = some o ∧ okIter o := by
 obtain ⟨⟨fp, N, P, St, i, W, hI, hl, st, hfp, hP⟩, ho⟩ := x
 exact hI _ _ st
theorem okIter.nd {o : Obj} (h : okIter o) : ∀ es n, o.data ≠ .dict es n := fun es n e => by obtain ⟨⟨vs, q⟩, _⟩ := h; rw [q] at e; cases e
theorem ItAt.step {X : List Addr} (x : ItAt Γ I ds ν g s) (sub : HeapLe g s.heap) (sub' : HeapLe g' s'.heap) (st : Step X ν g s ν' g' s') (hX : I ∉ X) : ItAt Γ I ds ν' g' s' := by
 obtain ⟨o, hoI, hok⟩ := x.here
 obtain ⟨⟨fp, N, P, St, i, W, hI, hl, hst, hfp, hP⟩, off⟩ := x
 obtain ⟨o', ho', sm⟩ := st.keep I o hoI off.1 hX
 have e := sm.ex hok.nd
 subst e
 refine ⟨⟨fp, N, P, St, i, W, hI, hl, (W { handled := none } rfl).frame i _ _ hst fun b hb ob hob => ?_, fun b hb => (hfp b hb).imp id fun ⟨o, ho⟩ => ⟨o, st.grow _ _ ho⟩, fun j v d h1 h2 => Rep.mono st.grow (hP j v d h1 h2)⟩, st.offg hoI off.1 off.2⟩
 rcases hfp b hb with rfl | ⟨o2, ho2⟩
 ·rw [hoI] at hob; cases hob; exact ho'
 ·have := sub _ _ ho2
  rw [hob] at this; cases this
  exact sub' _ _ (st.grow _ _ ho2)
theorem Sat.turn {h' : Heap} {t : Nat} (S : Sat Γ.prog Γ.w Γ.B σ ν g s) (hI : I ∉ ν ∧ g.get? I = none) (hk : ∀ b o, b ∉ [I] → s.heap.get? b = some o → h'.get? b = some o) : Sat Γ.prog Γ.w Γ.B σ ν g { s with heap := h', toks := t } := by
 have ne : ∀ b, b ∈ ν → b ∉ [I] := fun b hb e => hI.1 (by obtain rfl := List.mem_singleton.mp e; exact hb)
 refine ⟨S.base, fun b o e => hk b o (fun q => by obtain rfl := List.mem_singleton.mp q; rw [hI.2] at e; cases e) (S.sub b o e), fun a ha => let ⟨o, ho⟩ := S.held a ha; ⟨o, hk a o (ne a ha) ho⟩, S.nd, S.dom, S.off, fun i a ao h1 h2 => ?_⟩
 obtain ⟨o, ho, r⟩ := S.own i a ao h1 h2
 exact ⟨o, hk a o (ne a (List.mem_of_getElem? h1)) ho, r⟩
theorem Step.turn {X ν₀ : List Addr} {g₀ h' : Heap} {s₀ : Shared} {t : Nat} (x : Step X ν₀ g₀ s₀ ν g s) (hI : s₀.heap.get? I = none) (hk : ∀ b o, b ∉ [I] → s.heap.get? b = some o → h'.get? b = some o) : Step X ν₀ g₀ s₀ ν g { s with heap := h', toks := t } := by
 have old : ∀ b o, s₀.heap.get? b = some o → b ∉ [I] := fun b o e q => by obtain rfl := List.mem_singleton.mp q; rw [hI] at e; cases e
 refine ⟨fun b o e hb hX => ?_, fun b o e hb z => ?_, x.grow, x.newg, x.pre, x.newν, fun b e => ?_, ⟨x.rest.gens, x.rest.drawn, x.rest.os⟩⟩
 ·obtain ⟨o', h1, h2⟩ := x.keep b o e hb hX; exact ⟨o', hk b o' (old b o e) h1, h2⟩
 ·obtain ⟨o', h1, h2⟩ := x.nf b o e hb z; exact ⟨o', hk b o' (old b o e) h1, h2⟩
 ·by_cases q : b = I
  ·subst q; exact hI
  ·refine x.stay b ?_
   cases z : s.heap.get? b with
   | none => rfl
   | some o => have := hk b o (fun h => q (List.mem_singleton.mp h)) z; rw [show h'.get? b = none from e] at this; cases this
theorem FrameOK.turn {h h' : Heap} (F : FrameOK Γ.prog Γ.w env ρ ν g h) (hI : I ∉ frA env) (hk : ∀ b o, b ∉ [I] → h.get? b = some o → h'.get? b = some o) : FrameOK Γ.prog Γ.w env ρ ν g h' := by
 have hL : env.locals ∉ [I] := fun q => hI (by rw [← List.mem_singleton.mp q]; exact .head _)
 have hC : ∀ x c, env.cells.lookup x = some c → c ∉ [I] := fun x c e q => hI (by rw [← List.mem_singleton.mp q]; exact mem_frA e)
 refine ⟨F.kind, F.glb, F.blt, ?_, fun x d hx hkx => ?_, fun x hkx => ?_, F.offL, fun x c hc => ?_, F.injC⟩
 ·obtain ⟨m, ⟨o, es, ep, ho, r⟩, hm⟩ := F.loc
  exact ⟨m, ⟨o, es, ep, hk _ _ hL ho, r⟩, hm⟩
 ·obtain ⟨c, v, h1, ⟨o, ho, hd⟩, hr⟩ := F.cel x d hx hkx
  exact ⟨c, v, h1, ⟨o, hk _ _ (hC x c h1) ho, hd⟩, hr⟩
 ·obtain ⟨c, ov, h1, ⟨o, ho, hd⟩⟩ := F.has x hkx
  exact ⟨c, ov, h1, o, hk _ _ (hC x c h1) ho, hd⟩
 ·obtain ⟨a, b, c', o, ho⟩ := F.offC x c hc
  exact ⟨a, b, c', o, hk _ _ (hC x c hc) ho⟩
theorem ItAt.next {E : Value → Shared → Prop} {Q : Option Value → Shared → Prop} (x : ItAt Γ I (d :: ds) ν g s) (hh : A.handled = none)
  (h : ∀ v h' tk, Rep Γ.prog Γ.w g v d → (∀ b o, b ∉ [I] → s.heap.get? b = some o → h'.get? b = some o) → ItAt Γ I ds ν g { s with heap := h', toks := tk } → Q (some v) { s with heap := h', toks := tk }) : wpAny (model Γ.prog Γ.w) A (pyNext (.ref I)) Q E s := by
 obtain ⟨⟨fp, N, P, St, i, W, hI, hl, hst, hfp, hP⟩, off⟩ := x
 refine (W A hh).item i s Q E (by simp at hl; lia) hst fun v h' tk hv hst' hk => h v h' tk (hP 0 v d hv rfl) hk ⟨⟨fp, N, P, St, i + 1, W, hI, by simp at hl; lia, hst', hfp, fun j v d h1 h2 => hP (j + 1) v d (by rw [show i + (j + 1) = i + 1 + j by lia]; exact h1) (by simpa using h2)⟩, off⟩
theorem ItAt.done {E : Value → Shared → Prop} {Q : Option Value → Shared → Prop} (x : ItAt Γ I [] ν g s) (hh : A.handled = none)
  (h : ∀ h' tk, (∀ b o, b ∉ [I] → s.heap.get? b = some o → h'.get? b = some o) → Q none { s with heap := h', toks := tk }) : wpAny (model Γ.prog Γ.w) A (pyNext (.ref I)) Q E s := by
 obtain ⟨⟨fp, N, P, St, i, W, hI, hl, hst, hfp, hP⟩, off⟩ := x
 simp at hl
 subst hl
 exact (W A hh).done s Q E hst h
theorem ItAt.self {E : Value → Shared → Prop} {Q : Value → Shared → Prop} (x : ItAt Γ I ds ν g s) (hh : A.handled = none) (h : Q (.ref I) s) : wpAny (model Γ.prog Γ.w) A (pyIter (.ref I)) Q E s := by
 obtain ⟨⟨fp, N, P, St, i, W, hI, hl, hst, hfp, hP⟩, off⟩ := x
 exact (W A hh).self i s Q E hst h
theorem ItAt.letGo {E : Value → Shared → Prop} {Q : Unit → Shared → Prop} {target : Expr} {v : Value} (ho : ∃ o, s.heap.get? I = some o ∧ okIter o) (h : Q () s) : wpAny (model Γ.prog Γ.w) A (letOwnedTupleGo target (.ref I) v) Q E s := by
 obtain ⟨o, ho, ⟨vs, hd⟩, T, hc, hT⟩ := ho
 have fin : wpAny (model Γ.prog Γ.w) A (do
  let (.ref r, .ref a) := ((Value.ref I), v) | return
  let o ← load r
  match o.cls, o.data with
  | .type n, .fields vs =>
   if ["enumerate", "zip", "dict_itemiterator", "dict_reverseitemiterator", "odict_iterator", "itertools.zip_longest", "itertools.pairwise"].contains n && vs[0]? == some (rawInt a) then
    rule "for.unpacks-the-owned-tuple"
    updateField r 0 .none
  | _, _ => pure ()) Q E s := by
  cases v <;> try exact wpAny_pure h
  refine wpAny_bind (wpAny_load ho ?_)
  rw [hc, hd]
  dsimp only
  rw [hT, Bool.false_and, if_neg Bool.false_ne_true]
  exact wpAny_pure h
 unfold letOwnedTupleGo
 cases target <;> first | exact wpAny_pure h | exact fin
end
inductive PostI (Γ : Cx) (ν : List Addr) (g : Heap) (s : Shared) (Q : List PV → Sto → Prop) (it : Value) (s' : Shared) : Prop
 | mk (I : Addr) (ν' : List Addr) (g' : Heap) (σ' : Sto) (ds : List PV) : it = .ref I → Step [] ν g s ν' g' s' → Sat Γ.prog Γ.w Γ.B σ' ν' g' s' → s.heap.get? I = none → ItAt Γ I ds ν' g' s' → Q ds σ' → PostI Γ ν g s Q it s'
def WIt (Γ : Cx) (n : Nat) (env : Env) (e : Expr) (ρ : Rho) (σ : Sto) (Q : List PV → Sto → Prop) : Prop :=
 ∀ A s ν g, AOK n A ν g s.heap → FrameOK Γ.prog Γ.w env ρ ν g s.heap → Sat Γ.prog Γ.w Γ.B σ ν g s →
  wpAny (model Γ.prog Γ.w) A (eval e env) (fun x s₁ => wpAny (model Γ.prog Γ.w) A (pyIter x) (PostI Γ ν g s Q) Fal s₁) Fal s
section
variable {Γ : Cx} {n : Nat} {env : Env} {ρ : Rho} {σ : Sto} {ν ν' : List Addr} {g g' : Heap} {s s' : Shared} {A : Around} {I : Addr} {ds : List PV} {d : PV}
theorem PostI.tr {Q : List PV → Sto → Prop} (st : Step [] ν g s ν' g' s') {it : Value} {s₂ : Shared} (h : PostI Γ ν' g' s' Q it s₂) : PostI Γ ν g s Q it s₂ := by
 obtain ⟨I, ν₂, g₂, σ₂, ds, e, a, b, c, i, q⟩ := h; exact ⟨I, ν₂, g₂, σ₂, ds, e, st.trans a, b, st.stay _ c, i, q⟩
theorem itNew {o : Obj} {ds : List PV} {N : Nat} {fp : List Addr} {P : Nat → Value → Prop} {St : Nat → Heap → Prop} (S : Sat Γ.prog Γ.w Γ.B σ ν g s)
  (W : ∀ A : Around, A.handled = none → Walks Γ.prog Γ.w A s.heap.objs.size fp [s.heap.objs.size] N P St) (hI : ∀ i h, St i h → ∃ o, h.get? s.heap.objs.size = some o ∧ okIter o) (hl : ds.length = N)
  (hst : St 0 (s.heap.push o)) (hfp : ∀ b ∈ fp, b = s.heap.objs.size ∨ ∃ o, g.get? b = some o) (hP : ∀ j v d, P j v → ds[j]? = some d → Rep Γ.prog Γ.w g v d) {t : Nat} :
  ItAt Γ s.heap.objs.size ds ν g { s with heap := s.heap.push o, toks := t } :=
 ⟨⟨fp, N, P, St, 0, W, hI, by lia, hst, hfp, fun j v d h1 h2 => hP j v d (by rw [Nat.zero_add] at h1; exact h1) h2⟩,
  ⟨fun q => (by obtain ⟨o, ho⟩ := S.held _ q; rw [get?_size] at ho; cases ho), by cases z : g.get? s.heap.objs.size with | none => rfl | some o => (have := S.sub _ _ z; rw [get?_size] at this; cases this)⟩⟩
theorem postIt {o : Obj} {Q : List PV → Sto → Prop} {ds : List PV} {N : Nat} {fp : List Addr} {P : Nat → Value → Prop} {St : Nat → Heap → Prop} (S : Sat Γ.prog Γ.w Γ.B σ ν g s) (hf : o.isFreed = false)
  (W : ∀ A : Around, A.handled = none → Walks Γ.prog Γ.w A s.heap.objs.size fp [s.heap.objs.size] N P St) (hI : ∀ i h, St i h → ∃ o, h.get? s.heap.objs.size = some o ∧ okIter o) (hl : ds.length = N)
  (hst : St 0 (s.heap.push o)) (hfp : ∀ b ∈ fp, b = s.heap.objs.size ∨ ∃ o, g.get? b = some o) (hP : ∀ j v d, P j v → ds[j]? = some d → Rep Γ.prog Γ.w g v d) (h : Q ds σ) {t : Nat} :
  PostI Γ ν g s Q (.ref s.heap.objs.size) { s with heap := s.heap.push o, toks := t } :=
 ⟨_, ν, g, σ, ds, rfl, .push o, S.push o, get?_size _, itNew S W hI hl hst hfp hP, h⟩
theorem it_lst {v : Value} {E : Value → Shared → Prop} {Q : List PV → Sto → Prop} (S : Sat Γ.prog Γ.w Γ.B σ ν g s) (r : Rep Γ.prog Γ.w g v (.lst ds)) (h : Q ds σ) : wpAny (model Γ.prog Γ.w) A (pyIter v) (PostI Γ ν g s Q) E s := by
 obtain ⟨a, vs, m, rfl, hg, hr⟩ := Rep.lst_inv r
 have ho := S.sub _ _ hg
 have hne : a ≠ s.heap.objs.size := Nat.ne_of_lt (Heap.lt_size ho)
 refine wpAny_pyIter_list ⟨_, ho, rfl, m, rfl⟩ (postIt (t := s.toks) S rfl (fun A hh => Walks.list hh _ a hne vs) ?_ (by have := hr.all2.length; simpa using this.symm) ⟨⟨_, Heap.get?_push_size _ rfl, rfl, rfl⟩, ⟨_, Heap.get?_push_of_some _ ho, rfl, m, rfl⟩⟩ ?_ ?_ h)
 ·rintro i h ⟨⟨o, ho, hc, hd⟩, _⟩
  exact ⟨o, ho, ⟨_, hd⟩, _, hc, by decide⟩
 ·intro b hb
  simp at hb
  rcases hb with rfl | rfl
  ·exact .inl rfl
  ·exact .inr ⟨_, hg⟩
 ·intro j v d hv hd
  obtain ⟨u, hu, ru⟩ := hr.all2.get j d hd
  have : vs[j]? = some u := by simpa using hu
  rw [hv] at this; cases this; exact ru
theorem it_tup {v : Value} {E : Value → Shared → Prop} {Q : List PV → Sto → Prop} (S : Sat Γ.prog Γ.w Γ.B σ ν g s) (r : Rep Γ.prog Γ.w g v (.tup ds)) (h : Q ds σ) : wpAny (model Γ.prog Γ.w) A (pyIter v) (PostI Γ ν g s Q) E s := by
 obtain ⟨a, vs, m, rfl, hg, hr⟩ := Rep.tup_inv r
 have ho := S.sub _ _ hg
 have hne : a ≠ s.heap.objs.size := Nat.ne_of_lt (Heap.lt_size ho)
 refine wpAny_pyIter_tuple ⟨_, ho, rfl, m, rfl⟩ (postIt (t := s.toks) S rfl (fun A hh => Walks.tuple hh _ a hne vs) ?_ (by have := hr.all2.length; simpa using this.symm) ⟨⟨_, Heap.get?_push_size _ rfl, rfl, rfl⟩, ⟨_, Heap.get?_push_of_some _ ho, rfl, m, rfl⟩⟩ ?_ ?_ h)
 ·rintro i h ⟨⟨o, ho, hc, hd⟩, _⟩
  exact ⟨o, ho, ⟨_, hd⟩, _, hc, by decide⟩
 ·intro b hb
  simp at hb
  rcases hb with rfl | rfl
  ·exact .inl rfl
  ·exact .inr ⟨_, hg⟩
 ·intro j v d hv hd
  obtain ⟨u, hu, ru⟩ := hr.all2.get j d hd
  have : vs[j]? = some u := by simpa using hu
  rw [hv] at this; cases this; exact ru
theorem RepKey.pv {v : Value} {k : Key} (h : RepKey Γ.prog Γ.w g k v) : Rep Γ.prog Γ.w g v k.pv := by
 cases k with
 | str _ => obtain ⟨t, e⟩ := h; subst e; exact .str ..
 | int _ => obtain ⟨t, e⟩ := h; subst e; exact .int ..
 | tS l =>
  obtain ⟨a, vs, n, e, hg, hi⟩ := h
  subst e
  refine .tup hg ?_
  generalize vs.toList = us at hi
  induction hi with
  | nil => exact .nil
  | cons q _ ih => obtain ⟨t, rfl⟩ := Value.isStrOf_shape q; exact .cons (.str ..) ih
 | tI l =>
  obtain ⟨a, vs, n, e, hg, hi⟩ := h
  subst e
  refine .tup hg ?_
  generalize vs.toList = us at hi
  induction hi with
  | nil => exact .nil
  | cons q _ ih => obtain ⟨t, rfl⟩ := Value.isInt_shape q; exact .cons (.int ..) ih
theorem it_dct {v : Value} {f : Fla} {kvs : List (Key × PV)} {E : Value → Shared → Prop} {Q : List PV → Sto → Prop} (S : Sat Γ.prog Γ.w Γ.B σ ν g s) (r : Rep Γ.prog Γ.w g v (.dct f kvs)) (h : Q (kvs.map fun p => p.1.pv) σ) : wpAny (model Γ.prog Γ.w) A (pyIter v) (PostI Γ ν g s Q) E s := by
 obtain ⟨a, es, m, rfl, z, hg, hk, hr⟩ := Rep.inv r
 have ho := S.sub _ _ hg
 have hne : a ≠ s.heap.objs.size := Nat.ne_of_lt (Heap.lt_size ho)
 have hr' := hr.all2
 refine keyiter_start z ho (postIt (t := s.toks) S rfl (fun A hh => walks_keys hh _ a hne es m) ?_ (by rw [List.length_map]; exact hr'.length.symm) ⟨⟨_, Heap.get?_push_size _ rfl, rfl, rfl⟩, Heap.get?_push_of_some _ ho⟩ ?_ ?_ h)
 ·rintro i h ⟨⟨o, ho, hc, hd⟩, _⟩
  exact ⟨o, ho, ⟨_, hd⟩, _, hc, by decide⟩
 ·intro b hb
  simp at hb
  rcases hb with rfl | rfl
  ·exact .inl rfl
  ·exact .inr ⟨_, hg⟩
 ·rintro j v d ⟨e, he, rfl⟩ hd
  rw [List.getElem?_map] at hd
  cases q : kvs[j]? with
  | none => rw [q] at hd; cases hd
  | some p =>
   rw [q] at hd; cases hd
   obtain ⟨e', he', r1, _⟩ := hr'.get j p q
   rw [he] at he'; cases he'
   exact RepKey.pv r1
theorem it_range {k : Int} {t : Tok} {E : Value → Shared → Prop} {Q : List PV → Sto → Prop} (S : Sat Γ.prog Γ.w Γ.B σ ν g s) (h0 : 0 ≤ k) (hk : k < 1000000) (h : Q ((List.range k.toNat).map fun (i : Nat) => PV.int (i : Int)) σ) :
  wpAny (model Γ.prog Γ.w) A (call (.type "range") [.int k t]) (fun x s₁ => wpAny (model Γ.prog Γ.w) A (pyIter x) (PostI Γ ν g s Q) E s₁) E s := by
 refine call_range_1 ?_
 have hsz : Builtin.Range.rangeSize 0 k 1 = (k.toNat : Int) := by have := rangeSize_nat 0 k; simpa using this
 refine wpAny_pyIter_range (IsRange.new ..) (by
  unfold Builtin.Range.small
  rw [hsz]
  simp only [Builtin.Range.rangeFitsLong, Bool.and_eq_true, decide_eq_true_eq, Bool.or_eq_true]
  refine ⟨⟨⟨⟨by decide, ?_⟩, by decide⟩, ?_⟩, .inr ?_⟩
  ·constructor <;> lia
  ·constructor <;> lia
  ·simp; constructor <;> lia) ?_
 rw [hsz]
 have S' := S.push { cls := .type "range", data := .fields #[.int 0 s.toks, .int k t, .int 1 (s.toks + 1)] } (t := s.toks + 1 + 1)
 refine PostI.tr (.push _) (postIt (t := s.toks + 1 + 1) (St := fun i h => IsRangeIter h _ (0 + (i : Nat) * 1) ((k.toNat : Int) - (i : Nat)) 1) S' rfl (fun A hh => Walks.range hh _ 0 1 k.toNat) ?_ (by simp) ?_ ?_ ?_ h)
 ·intro i h q
  exact ⟨_, q, ⟨_, rfl⟩, _, rfl, by decide⟩
 ·have := Heap.get?_push_size (s.heap.push { cls := .type "range", data := .fields #[.int 0 s.toks, .int k t, .int 1 (s.toks + 1)] }) (o := { cls := .type "range_iterator", data := .fields #[rawInt 0, rawInt (k.toNat : Int), rawInt 1] }) rfl
  simpa using this
 ·intro b hb
  exact .inl (List.mem_singleton.mp hb)
 ·rintro j v d ⟨u, rfl⟩ hd
  rw [List.getElem?_map] at hd
  cases q : (List.range k.toNat)[j]? with
  | none => rw [q] at hd; cases hd
  | some p =>
   rw [q] at hd; cases hd
   have : p = j := by
    have := List.getElem?_eq_some_iff.mp q
    obtain ⟨hl, e⟩ := this
    simpa using e.symm
   subst this
   simp
   exact .int _ _
end
section
variable {Γ : Cx} {n : Nat} {env : Env} {ρ : Rho} {σ : Sto} {ν ν' : List Addr} {g g' : Heap} {s s' : Shared} {A : Around} {I : Addr} {ds : List PV} {d : PV}
theorem WIt.of {e : Expr} {Q : List PV → Sto → Prop} (h : WE Γ n env e ρ σ fun v σ₁ => (∃ ds, (v = .t (.lst ds) ∨ v = .t (.tup ds)) ∧ Q ds σ₁) ∨ ∃ f kvs, v = .t (.dct f kvs) ∧ Q (kvs.map fun p => p.1.pv) σ₁) : WIt Γ n env e ρ σ Q := fun A s ν g hA F S => by
 refine seqV (h A s ν g hA F S) fun v s₁ ν₁ g₁ σ₁ d₁ st₁ S₁ r₁ q₁ => ?_
 rcases q₁ with ⟨ds, rfl | rfl, q⟩ | ⟨f, kvs, rfl, q⟩
 ·exact wpAny_mono (it_lst (E := Fal) S₁ r₁ q) (fun z' z' x => x.tr st₁) fun z' z' x => x
 ·exact wpAny_mono (it_tup (E := Fal) S₁ r₁ q) (fun z' z' x => x.tr st₁) fun z' z' x => x
 ·exact wpAny_mono (it_dct (E := Fal) S₁ r₁ q) (fun z' z' x => x.tr st₁) fun z' z' x => x
theorem WIt.lst {e : Expr} {Q : List PV → Sto → Prop} (h : WE Γ n env e ρ σ fun v σ₁ => ∃ ds, v = .t (.lst ds) ∧ Q ds σ₁) : WIt Γ n env e ρ σ Q := .of (h.mono fun _ _ ⟨ds, e, q⟩ => .inl ⟨ds, .inl e, q⟩)
theorem WIt.tup {e : Expr} {Q : List PV → Sto → Prop} (h : WE Γ n env e ρ σ fun v σ₁ => ∃ ds, v = .t (.tup ds) ∧ Q ds σ₁) : WIt Γ n env e ρ σ Q := .of (h.mono fun _ _ ⟨ds, e, q⟩ => .inl ⟨ds, .inr e, q⟩)
theorem WIt.dct {e : Expr} {Q : List PV → Sto → Prop} (h : WE Γ n env e ρ σ fun v σ₁ => ∃ f kvs, v = .t (.dct f kvs) ∧ Q (kvs.map fun p => p.1.pv) σ₁) : WIt Γ n env e ρ σ Q := .of (h.mono fun _ _ ⟨f, kvs, e, q⟩ => .inr ⟨f, kvs, e, q⟩)
theorem call_any {x : Str} {p pos : Pos} {e : Expr} {es : List Expr} {f : Value} {K : Value → Shared → Prop} {Q : List V → Sto → Prop} {E : Value → Shared → Prop} (hA : AOK n A ν g s.heap) (F : FrameOK Γ.prog Γ.w env ρ ν g s.heap) (S : Sat Γ.prog Γ.w Γ.B σ ν g s)
  (hg : GlobV Γ x f) (hc : Callee Γ f) (h : WEs Γ n env pos (e :: es) ρ σ Q)
  (hK : ∀ vs s₁ ν₁ g₁ σ₁ ds, Step [] ν g s ν₁ g₁ s₁ → Sat Γ.prog Γ.w Γ.B σ₁ ν₁ g₁ s₁ → All2 (RepV Γ.prog Γ.w ν₁ g₁) vs ds → Q ds σ₁ → wpAny (model Γ.prog Γ.w) A (call f vs) K E s₁)
  (hk : env.kindOf x = some .globalImplicit) (hd : (x == ("__debug__" : Str)) = false)
  (hplain : (backTo pos (starEach es env)).any (·.1) = false) (hs : starEach (e :: es) env = (false, eval e env) :: starEach es env)
  (he : eval (.Call (.Name x p) (e :: es) [] pos) env = (do callWith pos (← eval (.Name x p) env) [] (backTo pos (starEach (e :: es) env)) (backToKw pos (keywordEach [] env)))) :
  wpAny (model Γ.prog Γ.w) A (eval (.Call (.Name x p) (e :: es) [] pos) env) K E s := by
 refine Call_ (glob_any F S hk hg hd ?_) he
 have h₀ := h A s ν g hA F S
 rw [hs] at h₀ ⊢
 refine callWith_of (P := Γ.B.P) (by show ((false || (backTo pos (starEach es env)).any (·.1)) || false) = false; rw [hplain]; rfl) (fun h hP => hc h hP) (Calls.evalArgs_plain ?_)
 exact seqVs h₀ fun vs s₁ ν₁ g₁ σ₁ ds st₁ S₁ r₁ q₁ => ⟨Γ.B.mono _ _ S₁.sub S₁.base, hK vs s₁ ν₁ g₁ σ₁ ds st₁ S₁ r₁ q₁⟩
inductive RangeQ (Q : List PV → Sto → Prop) (v : V) (σ₁ : Sto) : Prop
 | mk (k : Int) : v = .t (.int k) → 0 ≤ k → k < 1000000 → Q ((List.range k.toNat).map fun (i : Nat) => PV.int (i : Int)) σ₁ → RangeQ Q v σ₁
theorem WIt.range {p pos : Pos} {e : Expr} {Q : List PV → Sto → Prop} (hg : GlobV Γ (ofString "range") (.type "range")) (hc : Callee Γ (.type "range"))
  (h : WE Γ n env e ρ σ (RangeQ Q))
  (hk : autoParam (env.kindOf (ofString "range") = some .globalImplicit) rfl0S) (hs : autoParam (starEach [e] env = [(false, eval e env)]) rfl0S)
  (he : autoParam (eval (.Call (.Name (ofString "range") p) [e] [] pos) env = (do callWith pos (← eval (.Name (ofString "range") p) env) [] (backTo pos (starEach [e] env)) (backToKw pos (keywordEach [] env)))) rfl0S) :
  WIt Γ n env (.Call (.Name (ofString "range") p) [e] [] pos) ρ σ Q := fun A s ν g hA F S => by
 refine call_any (Q := fun ds σ₁ => ∃ v, ds = [v] ∧ RangeQ Q v σ₁) hA F S hg hc (WEs.cons (h.mono fun v σ₁ q => WEs.nil ⟨v, rfl, q⟩) hs) (fun vs s₁ ν₁ g₁ σ₁ ds st₁ S₁ r₁ q₁ => ?_) hk rfl rfl hs he
 obtain ⟨_, rfl, k, rfl, h0, h1, q⟩ := q₁
 obtain ⟨y, rfl, r⟩ := r₁.inv1
 obtain ⟨t, rfl⟩ := Rep.int_inv r
 exact wpAny_mono (it_range (E := Fal) S₁ h0 h1 q) (fun x s₂ h₂ => wpAny_mono h₂ (fun z' z' z => z.tr st₁) fun z' z' z => z) fun z' z' z => z
theorem WIt.reversed {p pos : Pos} {e : Expr} {Q : List PV → Sto → Prop} (hg : GlobV Γ (ofString "reversed") (.type "reversed")) (hc : Callee Γ (.type "reversed"))
  (h : WE Γ n env e ρ σ fun v σ₁ => ∃ ds, v = .t (.lst ds) ∧ Q ds.reverse σ₁)
  (hk : autoParam (env.kindOf (ofString "reversed") = some .globalImplicit) rfl0S) (hs : autoParam (starEach [e] env = [(false, eval e env)]) rfl0S)
  (he : autoParam (eval (.Call (.Name (ofString "reversed") p) [e] [] pos) env = (do callWith pos (← eval (.Name (ofString "reversed") p) env) [] (backTo pos (starEach [e] env)) (backToKw pos (keywordEach [] env)))) rfl0S) :
  WIt Γ n env (.Call (.Name (ofString "reversed") p) [e] [] pos) ρ σ Q := fun A s ν g hA F S => by
 refine call_any (Q := fun vs σ₁ => ∃ ds, vs = [.t (.lst ds)] ∧ Q ds.reverse σ₁) hA F S hg hc (WEs.cons (h.mono fun v σ₁ ⟨k, e, r⟩ => WEs.nil ⟨k, by rw [e], r⟩) hs) (fun vs s₁ ν₁ g₁ σ₁ ds st₁ S₁ r₁ q₁ => ?_) hk rfl rfl hs he
 obtain ⟨ds, rfl, q⟩ := q₁
 obtain ⟨y, rfl, r⟩ := r₁.inv1
 obtain ⟨a, vs, m, rfl, hg, hr⟩ := Rep.lst_inv r
 have ho := S₁.sub _ _ hg
 have hne : a ≠ s₁.heap.objs.size := Nat.ne_of_lt (Heap.lt_size ho)
 have hlen : vs.size = ds.length := by have := hr.all2.length; simpa using this
 have hI : s₁.heap.get? s₁.heap.objs.size = none := get?_size _
 refine call_reversed_list ⟨_, ho, rfl, m, rfl⟩ ?_
 have hst : (s₁.heap.push (revObj a ((vs.size : Int) - 1))).IsRevIter s₁.heap.objs.size a ((vs.size : Int) - 1 - ((0 : Nat) : Int)) := ⟨_, Heap.get?_push_size _ rfl, rfl, by simp [revObj]⟩
 have it := itNew (ds := ds.reverse) (t := s₁.toks) (o := revObj a ((vs.size : Int) - 1)) S₁ (fun A hh => Walks.listRev hh _ a hne vs) (by
  rintro i h ⟨_, ⟨o, ho, hc, hd⟩, _⟩
  exact ⟨o, ho, ⟨_, hd⟩, _, hc, by decide⟩) (by rw [List.length_reverse]; exact hlen.symm) ⟨Nat.zero_le _, hst, _, Heap.get?_push_of_some _ ho, rfl, m, rfl⟩ (fun b hb => by
   simp at hb
   rcases hb with rfl | rfl
   ·exact .inl rfl
   ·exact .inr ⟨_, hg⟩) (fun j v d hv hd => by
   have hj : j < ds.length := by have := (List.getElem?_eq_some_iff.mp hd).1; simpa using this
   rw [List.getElem?_reverse hj] at hd
   obtain ⟨u, hu, ru⟩ := hr.all2.get _ d hd
   rw [hlen] at hv
   have : vs[ds.length - 1 - j]? = some u := by simpa using hu
   rw [hv] at this; cases this; exact ru)
 refine ItAt.self it hA.hd (PostI.tr st₁ ⟨_, ν₁, g₁, σ₁, ds.reverse, rfl, .push _, S₁.push _, hI, it, q⟩)
def WFor (Γ : Cx) (n : Nat) (env : Env) (target : Expr) (body : List Stmt) (xs : List PV) (ρ : Rho) (σ : Sto) (Q : Fl → Rho → Sto → Prop) : Prop :=
 ∀ A s₀ ν₀ g₀ s ν g I, AOK n A ν₀ g₀ s₀.heap → (∃ o, A.frames = some (env :: o)) → Step (frA env) ν₀ g₀ s₀ ν g s → FrameOK Γ.prog Γ.w env ρ ν g s.heap → Sat Γ.prog Γ.w Γ.B σ ν g s → s₀.heap.get? I = none → I ∉ frA env → ItAt Γ I xs ν g s →
  codeAny (model Γ.prog Γ.w) A (.forLoop target (.ref I) body [] env) (fun r s' => match r with | .ok f => PostS Γ env ν₀ g₀ s₀ Q f s' | .error _ => False) s
theorem for_code {target : Expr} {it : Value} {body : List Stmt} {R : Result → Shared → Prop} (h : wpAny (model Γ.prog Γ.w) A (pyNext it) (fun r s₁ => match r with
   | none => R (.ok .next) s₁
   | some v => wpAny (model Γ.prog Γ.w) A (letOwnedTupleGo target it v) (fun z' s₁' => wpAny (model Γ.prog Γ.w) A (assign target env v) (fun z' s₂ => wpAny (model Γ.prog Γ.w) A (execs body env) (fun f s₃ => match f with
      | .next | .cont => codeAny (model Γ.prog Γ.w) A (.forLoop target it body [] env) R s₃
      | .brk => R (.ok .next) s₃
      | .ret v => R (.ok (.ret v)) s₃) Fal s₂) Fal s₁') Fal s₁) Fal s) : codeAny (model Γ.prog Γ.w) A (.forLoop target it body [] env) R s := by
 refine codeAny_of_tree ?_
 have nf : ∀ (e : Value) (s : Shared), Fal e s → notedBy (model Γ.prog Γ.w) A env (fun e s' => R (.error e) s') e s := fun z' z' x => x.elim
 show wpAny _ A ((forTurn target it body [] env).onRaise (fun x => do noteFrame x env; theTreesLotGoes x)) _ _ s
 refine wpAny_noted ?_
 unfold forTurn
 refine wpAny_bind (wpAny_standAt (wpAny_bind (wpAny_onRaise (wpAny_mono h (fun r s₁ h₁ => ?_) fun z' z' x => x.elim))))
 cases r with
 | none => exact wpAny_pure ⟨rfl, codeAny_block (wpAny_execs_nil h₁)⟩
 | some v =>
  refine wpAny_bind (wpAny_mono h₁ (fun z' s₁' h₁' => ?_) nf)
  refine wpAny_bind (wpAny_mono h₁' (fun z' s₂ h₂ => wpAny_bind (wpAny_mono h₂ (fun f s₃ h₃ => ?_) nf)) nf)
  cases f with
  | next => exact wpAny_pure ⟨rfl, h₃⟩
  | cont => exact wpAny_pure ⟨rfl, h₃⟩
  | brk => exact wpAny_pure h₃
  | ret v => exact wpAny_pure h₃
theorem WFor.nil {target : Expr} {body : List Stmt} {Q : Fl → Rho → Sto → Prop} (h : Q .next ρ σ) : WFor Γ n env target body [] ρ σ Q := fun A s₀ ν₀ g₀ s ν g I hA hT st F S h0 hI it => by
 refine for_code (ItAt.done it hA.hd fun h' tk hk => ?_)
 exact ⟨ν, g, σ, ρ, st.turn h0 hk, F.turn hI hk, S.turn it.off hk, h⟩
theorem WFor.cons {target : Expr} {body : List Stmt} {x : PV} {xs : List PV} {Q : Fl → Rho → Sto → Prop}
  (h : WA Γ n env target (.t x) ρ σ fun ρ₁ σ₁ => WB Γ n env body ρ₁ σ₁ fun f ρ₂ σ₂ => match f with | .next => WFor Γ n env target body xs ρ₂ σ₂ Q | .cont => WFor Γ n env target body xs ρ₂ σ₂ Q | .brk => Q .next ρ₂ σ₂ | .ret d => Q (.ret d) ρ₂ σ₂ | .exc _ _ => False) :
  WFor Γ n env target body (x :: xs) ρ σ Q := fun A s₀ ν₀ g₀ s ν g I hA hT st F S h0 hI it => by
 refine for_code (ItAt.next it hA.hd fun v h' tk rv hk it' => ?_)
 have st₁ : Step (frA env) ν₀ g₀ s₀ ν g { s with heap := h', toks := tk } := st.turn h0 hk
 have S₁ : Sat Γ.prog Γ.w Γ.B σ ν g { s with heap := h', toks := tk } := S.turn it.off hk
 have F₁ : FrameOK Γ.prog Γ.w env ρ ν g h' := F.turn hI hk
 refine ItAt.letGo it'.here (wpAny_mono (h A _ ν g v (hA.step st₁) F₁ S₁ rv) (fun z' s₂ h₂ => ?_) fun z' z' x => x)
 obtain ⟨ν₂, g₂, σ₂, ρ₂, st₂, F₂, S₂, q₂⟩ := h₂
 have st₁₂ := st₁.trans st₂
 have it₂ := it'.step S₁.sub S₂.sub st₂ hI
 refine wpAny_mono (q₂ A s₂ ν₂ g₂ (hA.step st₁₂) hT F₂ S₂) (fun f s₃ h₃ => ?_) fun e s₃ h₃ => ?_
 ·obtain ⟨ν₃, g₃, σ₃, ρ₃, st₃, F₃, S₃, q₃⟩ := h₃
  have st₁₃ := st₁₂.trans st₃
  have it₃ := it₂.step S₂.sub S₃.sub st₃ hI
  cases f with
  | next => exact q₃ A s₀ ν₀ g₀ s₃ ν₃ g₃ I hA hT st₁₃ F₃ S₃ h0 hI it₃
  | cont => exact q₃ A s₀ ν₀ g₀ s₃ ν₃ g₃ I hA hT st₁₃ F₃ S₃ h0 hI it₃
  | brk => exact ⟨ν₃, g₃, σ₃, ρ₃, st₁₃, F₃, S₃, q₃⟩
  | ret v => exact ⟨ν₃, g₃, σ₃, ρ₃, st₁₃, F₃, S₃, q₃⟩
 ·obtain ⟨_, _, _, _, _, _, _, _, _, _, q⟩ := h₃
  exact q.elim
theorem WFor.less {target : Expr} {body : List Stmt} {xs : List PV} {ρ' : Rho} {Q : Fl → Rho → Sto → Prop} (le : ∀ x d, ρ'.lookup x = some d → ρ.lookup x = some d) (h : WFor Γ n env target body xs ρ' σ Q) : WFor Γ n env target body xs ρ σ Q :=
 fun A s₀ ν₀ g₀ s ν g I hA hT st F S => h A s₀ ν₀ g₀ s ν g I hA hT st (F.less le) S
theorem WFor.le {target : Expr} {body : List Stmt} {xs : List PV} {σ' : Sto} {Q : Fl → Rho → Sto → Prop} (le : Sto.le σ' σ) (h : WFor Γ n env target body xs ρ σ' Q) : WFor Γ n env target body xs ρ σ Q :=
 fun A s₀ ν₀ g₀ s ν g I hA hT st F S => h A s₀ ν₀ g₀ s ν g I hA hT st F (S.le le)
theorem frA_has {h : Heap} (F : FrameOK Γ.prog Γ.w env ρ ν g h) {b : Addr} (hb : b ∈ frA env) : ∃ o, h.get? b = some o := by
 rcases frA_mem hb with rfl | ⟨x, hx⟩
 ·obtain ⟨m, ⟨o, _, _, ho, _⟩, _⟩ := F.loc; exact ⟨o, ho⟩
 ·exact (F.offC x b hx).2.2.2
theorem frA_off {h : Heap} (F : FrameOK Γ.prog Γ.w env ρ ν g h) (hI : h.get? I = none) : I ∉ frA env := fun q => by
 obtain ⟨o, ho⟩ := frA_has F q; rw [hI] at ho; cases ho
theorem WS.for_ {target iter : Expr} {body : List Stmt} {pos : Pos} {Q : Fl → Rho → Sto → Prop} (h : WIt Γ n env iter ρ σ fun xs σ₁ => WFor Γ n env target body xs ρ σ₁ Q)
  (hs : autoParam (∀ x, foldedSetIterable iter env x = pure x) rfi0S) : WS Γ n env (.For target iter body [] pos) ρ σ Q := fun A s ν g hA hT F S => by
 refine wpAny_For (wpAny_mono (h A s ν g hA F S) (fun x s₁ h₁ => wpAny_mono h₁ (fun it s₂ h₂ => ?_) fun z' z' x => x.elim) fun z' z' x => x.elim) hs
 obtain ⟨I, ν₂, g₂, σ₂, ds, rfl, st, S₂, hI, hit, q⟩ := h₂
 refine codeAny_mono (q A s ν g s₂ ν₂ g₂ I hA hT st.any (F.step st) S₂ hI (frA_off F hI) hit) fun r s₃ h₃ => ?_
 cases r with
 | ok f => exact h₃
 | error e => exact h₃.elim
end
section
variable {prog : Program} {w : World} {B : Base} {σ : Sto} {ν : List Addr} {g : Heap} {s : Shared} {n : Nat} {A : Around} {E : Value → Shared → Prop}
theorem Sat.quiet {h' : Heap} {i : Nat} {a : Addr} {o' : Obj} (S : Sat prog w B σ ν g s) (ha : ν[i]? = some a) (hi : σ i = none) (hg : g.get? a = none) (hk : ∀ b, b ≠ a → h'.get? b = s.heap.get? b) (ho : h'.get? a = some o') :
  Sat prog w B σ ν g { s with heap := h' } ∧ Step [] ν g s ν g { s with heap := h' } := by
 have hm : a ∈ ν := List.mem_of_getElem? ha
 refine ⟨⟨S.base, fun b o e => ?_, fun b hb => ?_, S.nd, S.dom, S.off, fun j b ao h1 h2 => ?_⟩, ⟨fun b o e hb z' => ?_, fun b o e hb z => ?_, fun z' z' e => e, fun z' z' e => .inl e, List.prefix_refl _, fun z' h => .inl h, fun b e => ?_, ⟨rfl, rfl, rfl⟩⟩⟩
 ·rw [show h'.get? b = s.heap.get? b from hk b fun q => by rw [q, hg] at e; cases e]; exact S.sub b o e
 ·by_cases q : b = a
  ·exact ⟨o', by rw [q]; exact ho⟩
  ·obtain ⟨o, e⟩ := S.held b hb; exact ⟨o, (hk b q).trans e⟩
 ·have q : b ≠ a := fun q => by
   subst q
   have := (List.getElem?_inj (List.getElem?_eq_some_iff.mp h1).1 S.nd).mp (h1.trans ha.symm)
   subst this; rw [hi] at h2; cases h2
  obtain ⟨o, e, r⟩ := S.own j b ao h1 h2
  exact ⟨o, (hk b q).trans e, r⟩
 ·exact ⟨o, (hk b fun q => hb (q ▸ hm)).trans e, .refl o⟩
 ·exact ⟨o, (hk b fun q => hb (q ▸ hm)).trans e, z⟩
 ·by_cases q : b = a
  ·rw [q, ho] at e; cases e
  ·rw [← hk b q]; exact e
theorem Sat.slots {h' : Heap} {l : List Env} (S : Sat prog w B σ ν g s) (F : FrL l ν g s.heap) (hs : Heap.SlotsOnly (l.filterMap (·.frame)) s.heap h') :
  Sat prog w B σ ν g { s with heap := h' } ∧ Step [] ν g s ν g { s with heap := h' } := by
 have fr : ∀ b, b ∈ l.filterMap (·.frame) → b ∉ ν ∧ g.get? b = none ∧ ∃ o, s.heap.get? b = some o ∧ Obj.noF o := fun b hb => by
  obtain ⟨env, he, e⟩ := List.mem_filterMap.mp hb
  obtain ⟨_, L, h1, h2, h3, o, ho, hn⟩ := F env he
  rw [h1] at e; cases e
  exact ⟨h2, h3, o, ho, hn⟩
 refine ⟨⟨S.base, fun b o e => ?_, fun b hb => ?_, S.nd, S.dom, S.off, fun j b ao h1 h2 => ?_⟩, ⟨fun b o e hb z' => ?_, fun b o e hb z => ?_, fun z' z' e => e, fun z' z' e => .inl e, List.prefix_refl _, fun z' h => .inl h, fun b e => ?_, ⟨rfl, rfl, rfl⟩⟩⟩
 ·rw [show h'.get? b = s.heap.get? b from hs.2.1 b fun q => by rw [(fr b q).2.1] at e; cases e]; exact S.sub b o e
 ·obtain ⟨o, e⟩ := S.held b hb; exact ⟨o, (hs.2.1 b fun q => (fr b q).1 hb).trans e⟩
 ·obtain ⟨o, e, r⟩ := S.own j b ao h1 h2
  exact ⟨o, (hs.2.1 b fun q => (fr b q).1 (List.mem_of_getElem? h1)).trans e, r⟩
 ·by_cases q : b ∈ l.filterMap (·.frame)
  ·obtain ⟨sl, e'⟩ := hs.2.2 b o e
   obtain ⟨_, _, o₁, ho₁, es, m, hd⟩ := fr b q
   rw [e] at ho₁; cases ho₁
   exact ⟨_, e', rfl, rfl, rfl, fun z => absurd hd (z es m)⟩
  ·exact ⟨o, (hs.2.1 b q).trans e, .refl o⟩
 ·obtain ⟨sl, e'⟩ := hs.2.2 b o e
  exact ⟨_, e', z⟩
 ·cases q : s.heap.get? b with
  | none => rfl
  | some o => obtain ⟨sl, e'⟩ := hs.2.2 b o q; rw [show h'.get? b = none from e] at e'; cases e'
theorem Sat.allocN (S : Sat prog w B σ ν g s) (o : Obj) (hf : o.isFreed = false) :
  Sat prog w B σ (ν ++ [s.heap.objs.size]) g { s with heap := s.heap.push o } ∧ Step [] ν g s (ν ++ [s.heap.objs.size]) g { s with heap := s.heap.push o } ∧ σ ν.length = none ∧ g.get? s.heap.objs.size = none := by
 have hg : g.get? s.heap.objs.size = none := by
  cases q : g.get? s.heap.objs.size with
  | none => rfl
  | some o => have := S.sub _ _ q; rw [get?_size] at this; cases this
 have hσ : σ ν.length = none := by
  cases q : σ ν.length with
  | none => rfl
  | some ao =>
   obtain ⟨a, ha⟩ := S.dom _ _ q
   have := (List.getElem?_eq_some_iff.mp ha).1
   lia
 have hn : s.heap.objs.size ∉ ν := fun q => by obtain ⟨o, ho⟩ := S.held _ q; rw [get?_size] at ho; cases ho
 have k : HeapLe s.heap (s.heap.push o) := fun z' z' e => Heap.get?_push_of_some _ e
 have old : ∀ (i : Nat) (a : Addr) (ao : AO), (ν ++ [s.heap.objs.size])[i]? = some a → σ i = some ao → ν[i]? = some a := fun i a ao h1 h2 => by
  obtain ⟨b, hb⟩ := S.dom i ao h2
  rw [List.getElem?_append_left (List.getElem?_eq_some_iff.mp hb).1] at h1; exact h1
 have gr : Grows ν g (ν ++ [s.heap.objs.size]) g := ⟨fun z' z' e => e, fun i a e => prefix_get (List.prefix_append _ _) i a e⟩
 refine ⟨⟨S.base, S.sub.trans k, fun a ha => ?_, ?_, fun i ao e => ?_, fun i a ao h1 h2 => S.off i a ao (old i a ao h1 h2) h2, fun i a ao h1 h2 => ?_⟩,
  ⟨fun b o e z' z' => ⟨o, k _ _ e, .refl o⟩, fun b o e z' z => ⟨o, k _ _ e, z⟩, fun z' z' e => e, fun z' z' e => .inl e, List.prefix_append _ _, fun b hb => ?_, fun b e => ?_, ⟨rfl, rfl, rfl⟩⟩, hσ, hg⟩
 ·rcases List.mem_append.mp ha with q | q
  ·obtain ⟨o, ho⟩ := S.held a q; exact ⟨o, k _ _ ho⟩
  ·rw [List.mem_singleton.mp q]; exact ⟨_, Heap.get?_push_size _ hf⟩
 ·rw [List.nodup_append]
  exact ⟨S.nd, by simp, fun a ha b hb e => hn (by rw [← List.mem_singleton.mp hb, ← e]; exact ha)⟩
 ·obtain ⟨b, hb⟩ := S.dom i ao e
  exact ⟨b, gr.nn i b hb⟩
 ·obtain ⟨o, ho, r⟩ := S.own i a ao (old i a ao h1 h2) h2
  exact ⟨o, k _ _ ho, r.mono gr⟩
 ·rcases List.mem_append.mp hb with q | q
  ·exact .inl q
  ·rw [List.mem_singleton.mp q]; exact .inr (get?_size _)
 ·exact get?_push_none e
theorem FrL.fun {l : List Env} {h : Heap} (F : FrL l ν g h) : h.FunFrames g l := by
 induction l with
 | nil => trivial
 | cons env r ih =>
  obtain ⟨hk, L, h1, h2, h3, o, ho, es, m, hd⟩ := F env (.head _)
  exact ⟨hk, ⟨L, o, h1, h3, ho, fun vs q => by rw [hd] at q; cases q⟩, ih fun e he => F e (.tail _ he)⟩
theorem XRep.weak {m : Bool} {h : Heap} {v : Value} {c y : Str} (x : XRep m σ ν g h v c y) : XRep false σ ν g h v c y := by
 obtain ⟨i, a, k, dx, o, vs, kvs, h1, h2, h3, h4, h5, h6, h7, h8, h9, h10, h11, h12, t⟩ := x
 refine ⟨i, a, k, dx, o, vs, kvs, h1, h2, h3, h4, h5, h6, h7, h8, h9, h10, h11, h12, ?_⟩
 rcases t with ⟨_, t⟩ | t
 ·exact .inl ⟨rfl, t⟩
 ·exact .inr t
end
section
variable {prog : Program} {w : World} {B : Base} {σ : Sto} {ν : List Addr} {g : Heap} {s : Shared} {n : Nat} {M : Model} {A : Around} {E : Value → Shared → Prop} {code why : Str}
theorem dict_mapFields (f : Array Value → Array Value) {o : Obj} {vs : Array Value} (h : o.data = .fields vs) : (Obj.mapFields f o).dict = o.dict := by
 obtain ⟨c, d, dt, sl⟩ := o
 obtain rfl : dt = .fields vs := h
 rfl
theorem entry_ok {env : Env} {outer : List Env} {L a dx : Addr} {i k : Nat} {o : Obj} {vs : Array Value} {kvs : List (Key × V)} {head : Value} {hadNext : Bool} {Q : Unit → Shared → Prop} (S : Sat prog w B σ ν g s)
  (hfr : A.frames = some (env :: outer)) (F : FrL (env :: outer) ν g s.heap) (hf : env.frame = some L)
  (h2 : ν[i]? = some a) (h3 : σ i = none) (h4 : g.get? a = none) (h5 : ν[k]? = some dx) (h6 : σ k = some (.dct .S kvs)) (h7 : kvs.lookup (.str (ofString "code")) = some (.t (.str code))) (h8 : kvs.lookup (.str (ofString "why")) = some (.t (.str why)))
  (h9 : s.heap.get? a = some o) (h10 : o.cls = .ref 82) (h11 : o.dict = some dx) (h12 : o.data = .fields vs) (hsz : 1 < vs.size)
  (h : ∀ ν' h', Step [] ν g s ν' g { s with heap := h' } → Sat prog w B σ ν' g { s with heap := h' } → XRep true σ ν' g h' (.ref a) code why → Q () { s with heap := h' }) :
  wpAny M A (do let x ← frameOf env; let pl ← entryPlaceOf L hadNext; let b ← EntryCells.newEntry head x .none (rawInt L) .none pl; setField (.ref a) 1 b) Q E s := by
 refine wpAny_bind (wpAny_frameOf_fun hfr F.fun hf fun h₁ hs₁ => ?_)
 obtain ⟨S₁, st₁⟩ := S.slots F hs₁
 refine wpAny_bind (wpAny_entryPlaceOf fun pl hpl => ?_)
 unfold EntryCells.newEntry newFields
 refine wpAny_bind (wpAny_newObj_type ?_ (hpl.sizeOk5 _ _ _ _ _))
 generalize hoT : ({ cls := .type "traceback", dict := none, data := .fields ([head, .ref L, .none, rawInt L, .none] ++ (if pl.isEmpty then List.replicate 6 Value.none else pl)).toArray } : Obj) = oT
 have ha : a ∉ (env :: outer).filterMap (·.frame) := fun q => by
  obtain ⟨e, he, q⟩ := List.mem_filterMap.mp q
  obtain ⟨_, L', q1, q2, _⟩ := F e he
  rw [q1] at q; cases q
  exact q2 (List.mem_of_getElem? h2)
 have he₁ : h₁.get? a = some o := (hs₁.2.1 a ha).trans h9
 have hTf : oT.isFreed = false := by subst hoT; rfl
 obtain ⟨S₂, st₂, hσT, hgT⟩ := S₁.allocN oT hTf
 dsimp only at S₂ st₂ hσT hgT
 have he₂ : (h₁.push oT).get? a = some o := Heap.get?_push_of_some _ he₁
 refine wpAny_setField he₂ h12 hsz ?_
 have hd₃ := Obj.data_mapFields h12 (·.setIfInBounds 1 (Value.ref h₁.objs.size))
 have he₃ := Heap.get?_update_self (Obj.mapFields (·.setIfInBounds 1 (Value.ref h₁.objs.size))) he₂ (Obj.isFreed_of_fields hd₃)
 have hi : i < ν.length := (List.getElem?_eq_some_iff.mp h2).1
 have h2' : (ν ++ [h₁.objs.size])[i]? = some a := by rw [List.getElem?_append_left hi]; exact h2
 have hTa : h₁.objs.size ≠ a := Nat.ne_of_gt (Heap.lt_size he₁)
 obtain ⟨S₃, st₃⟩ := S₂.quiet (i := i) (a := a) h2' h3 h4 (fun b hb => Heap.get?_update_other _ (Obj.mapFields (·.setIfInBounds 1 (Value.ref h₁.objs.size))) (Ne.symm hb)) he₃
 refine h _ _ ((st₁.trans st₂).trans st₃) S₃ ⟨i, a, k, dx, _, _, kvs, rfl, h2', h3, h4, prefix_get (List.prefix_append _ _) k dx h5, h6, h7, h8, he₃, (Obj.cls_mapFields _ _).trans h10, ?_, hd₃, .inr ⟨ν.length, h₁.objs.size, oT, ([head, .ref L, .none, rawInt L, .none] ++ (if pl.isEmpty then List.replicate 6 Value.none else pl)).toArray, ?_, Nat.ne_of_gt hi, by simp, hσT, hgT, ?_, by subst hoT; rfl, ?_⟩⟩
 ·rw [← h11]; exact dict_mapFields _ h12
 ·simp [hsz]
 ·rw [Heap.get?_update_other _ _ (Ne.symm hTa)]
  exact Heap.get?_push_size _ hTf
 ·simp only [List.size_toArray, List.length_append, List.length_cons, List.length_nil]; lia
theorem note_ok {env : Env} {outer : List Env} {L : Addr} {v : Value} {m : Bool} {Q : Unit → Shared → Prop} (S : Sat prog w B σ ν g s) (X : XRep m σ ν g s.heap v code why)
  (hfr : A.frames = some (env :: outer)) (F : FrL (env :: outer) ν g s.heap) (hf : env.frame = some L)
  (h : ∀ ν' h', Step [] ν g s ν' g { s with heap := h' } → Sat prog w B σ ν' g { s with heap := h' } → XRep true σ ν' g h' v code why → Q () { s with heap := h' }) :
  wpAny M A (noteFrame v env) Q E s := by
 obtain ⟨i, a, k, dx, o, vs, kvs, rfl, h2, h3, h4, h5, h6, h7, h8, h9, h10, h11, h12, t⟩ := X
 unfold noteFrame
 rw [hf]
 dsimp only
 rcases t with ⟨_, t⟩ | ⟨j, T, oT, ts, t1, t2, t3, t4, t5, t6, t7, t8⟩
 ·refine wpAny_bind (wpAny_field h9 h12 t ?_)
  rw [if_neg (by decide)]
  exact entry_ok S hfr F hf h2 h3 h4 h5 h6 h7 h8 h9 h10 h11 h12 (Array.getElem?_eq_some_iff.mp t).1 h
 ·refine wpAny_bind (wpAny_field h9 h12 t1 ?_)
  rw [if_pos (show (Value.ref T != Value.none) = true from by simp)]
  refine wpAny_bind (wpAny_field t6 t7 (x := ts[3]) (by simp [t8]) ?_)
  split
  ·exact wpAny_pure (h ν s.heap (.refl ..) S ⟨i, a, k, dx, o, vs, kvs, rfl, h2, h3, h4, h5, h6, h7, h8, h9, h10, h11, h12, .inr ⟨j, T, oT, ts, t1, t2, t3, t4, t5, t6, t7, t8⟩⟩)
  ·refine wpAny_bind (wpAny_setField t6 t7 t8 ?_)
   have hd := Obj.data_mapFields t7 (·.setIfInBounds 3 Value.none)
   have hT := Heap.get?_update_self (Obj.mapFields (·.setIfInBounds 3 Value.none)) t6 (Obj.isFreed_of_fields hd)
   obtain ⟨S₁, st₁⟩ := S.quiet (i := j) (a := T) t3 t4 t5 (fun b hb => Heap.get?_update_other _ (Obj.mapFields (·.setIfInBounds 3 Value.none)) (Ne.symm hb)) hT
   have hTa : T ≠ a := fun q => by
    subst q
    exact t2 ((List.getElem?_inj (List.getElem?_eq_some_iff.mp t3).1 S.nd).mp (t3.trans h2.symm))
   refine entry_ok (s := { s with heap := s.heap.update T (Obj.mapFields (·.setIfInBounds 3 Value.none)) }) S₁ hfr (F.step st₁) hf h2 h3 h4 h5 h6 h7 h8 ((Heap.get?_update_other _ _ hTa).trans h9) h10 h11 h12 (Array.getElem?_eq_some_iff.mp t1).1 fun ν' h' st' S' X' => h ν' h' (st₁.trans st') S' X'
theorem flight_ok {v : Value} {m : Bool} {fr : Option Addr} {Q : Unit → Shared → Prop} (S : Sat prog w B σ ν g s) (X : XRep m σ ν g s.heap v code why)
  (h : ∀ h', Step [] ν g s ν g { s with heap := h' } → Sat prog w B σ ν g { s with heap := h' } → XRep m σ ν g h' v code why → Q () { s with heap := h' }) :
  wpAny M A (setFlight v fr) Q E s := by
 obtain ⟨i, a, k, dx, o, vs, kvs, rfl, h2, h3, h4, h5, h6, h7, h8, h9, h10, h11, h12, t⟩ := X
 unfold setFlight
 rcases t with ⟨hm, t⟩ | ⟨j, T, oT, ts, t1, t2, t3, t4, t5, t6, t7, t8⟩
 ·refine wpAny_bind (wpAny_field h9 h12 t ?_)
  rw [if_neg (by decide)]
  exact wpAny_pure (h s.heap (.refl ..) S ⟨i, a, k, dx, o, vs, kvs, rfl, h2, h3, h4, h5, h6, h7, h8, h9, h10, h11, h12, .inl ⟨hm, t⟩⟩)
 ·refine wpAny_bind (wpAny_field h9 h12 t1 ?_)
  rw [if_pos (show (Value.ref T != Value.none) = true from by simp)]
  refine wpAny_setField t6 t7 t8 ?_
  generalize (fr.elim Value.none fun f => rawInt f) = y
  have hd := Obj.data_mapFields t7 (·.setIfInBounds 3 y)
  have hT := Heap.get?_update_self (Obj.mapFields (·.setIfInBounds 3 y)) t6 (Obj.isFreed_of_fields hd)
  obtain ⟨S₁, st₁⟩ := S.quiet (i := j) (a := T) t3 t4 t5 (fun b hb => Heap.get?_update_other _ (Obj.mapFields (·.setIfInBounds 3 y)) (Ne.symm hb)) hT
  have hTa : T ≠ a := fun q => by
   subst q
   exact t2 ((List.getElem?_inj (List.getElem?_eq_some_iff.mp t3).1 S.nd).mp (t3.trans h2.symm))
  exact h _ st₁ S₁ ⟨i, a, k, dx, o, vs, kvs, rfl, h2, h3, h4, h5, h6, h7, h8, (Heap.get?_update_other _ _ hTa).trans h9, h10, h11, h12, .inr ⟨j, T, _, _, t1, t2, t3, t4, t5, hT, hd, by simp [t8]⟩⟩
theorem XRep.traced {v : Value} {Q : Value → Shared → Prop} (X : XRep true σ ν g s.heap v code why) (h : ∀ T : Addr, Q (.ref T) s) : wpAny M A (field v 1) Q E s := by
 obtain ⟨i, a, k, dx, o, vs, kvs, rfl, h2, h3, h4, h5, h6, h7, h8, h9, h10, h11, h12, t⟩ := X
 rcases t with ⟨hm, t⟩ | ⟨j, T, oT, ts, t1, _⟩
 ·cases hm
 ·exact wpAny_field h9 h12 t1 (h T)
theorem back_ok {env : Env} {v : Value} (S : Sat prog w B σ ν g s) (X : XRep true σ ν g s.heap v code why)
  (h : ∀ h', Step [] ν g s ν g { s with heap := h' } → Sat prog w B σ ν g { s with heap := h' } → XRep true σ ν g h' v code why → E v { s with heap := h' }) : cameBackBy M A env E v s := by
 unfold cameBackBy
 refine wpAny_bind (X.traced fun T => ?_)
 rw [if_neg (by simp)]
 exact flight_ok S X h
theorem leaving_ok {env : Env} {outer : List Env} {L : Addr} {v : Value} {m : Bool} {Q : Unit → Shared → Prop} (S : Sat prog w B σ ν g s) (X : XRep m σ ν g s.heap v code why)
  (hfr : A.frames = some (env :: outer)) (F : FrL (env :: outer) ν g s.heap) (hf : env.frame = some L)
  (h : ∀ ν' h', Step [] ν g s ν' g { s with heap := h' } → Sat prog w B σ ν' g { s with heap := h' } → XRep true σ ν' g h' v code why → Q () { s with heap := h' }) :
  wpAny M A (leaving env v) Q E s := by
 unfold leaving
 refine wpAny_bind (note_ok S X hfr F hf fun ν' h' st' S' X' => ?_)
 exact flight_ok S' X' fun h'' st'' S'' X'' => h ν' h'' (st'.trans st'') S'' X''
end
section
variable {Γ : Cx} {n : Nat} {env : Env} {ρ : Rho} {σ : Sto} {ν ν' : List Addr} {g g' : Heap} {s s' : Shared} {A : Around} {I : Addr} {ds : List PV} {d : PV}
inductive PostT (Γ : Cx) (env : Env) (ν : List Addr) (g : Heap) (s : Shared) (Q : Fl → Rho → Sto → Prop) (e : Value) (s' : Shared) : Prop
 | mk (ν' : List Addr) (g' : Heap) (σ' : Sto) (ρ' : Rho) (code why : Str) : Step (frA env) ν g s ν' g' s' → FrameOK Γ.prog Γ.w env ρ' ν' g' s'.heap → Sat Γ.prog Γ.w Γ.B σ' ν' g' s' → XRep true σ' ν' g' s'.heap e code why → Q (.exc code why) ρ' σ' → PostT Γ env ν g s Q e s'
theorem PostT.trans {Q : Fl → Rho → Sto → Prop} (st : Step (frA env) ν g s ν' g' s') {f : Value} {s₂ : Shared} (h : PostT Γ env ν' g' s' Q f s₂) : PostT Γ env ν g s Q f s₂ := by
 obtain ⟨ν', g', σ', ρ', c1, c2, a, b, d, e, k⟩ := h; exact ⟨ν', g', σ', ρ', c1, c2, st.trans a, b, d, e, k⟩
theorem frames_at {o : List Env} (hA : AOK n A ν g s.heap) (hT : A.frames = some (env :: o)) : FrL (env :: o) ν g s.heap ∧ ∃ L, env.frame = some L := by
 obtain ⟨l, hl, F⟩ := hA.fr
 rw [hT] at hl; cases hl
 obtain ⟨_, L, h1, _⟩ := F env (.head _)
 exact ⟨F, L, h1⟩
theorem noted_ok {Q : Fl → Rho → Sto → Prop} {e : Value} {s₂ : Shared} (hA : AOK n A ν g s.heap) (hT : ∃ o, A.frames = some (env :: o)) (h : PostX Γ env ν g s Q e s₂) : notedBy (model Γ.prog Γ.w) A env (fun e s' => PostT Γ env ν g s Q e s') e s₂ := by
 obtain ⟨ν', g', σ', ρ', c1, c2, st, F, S, X, q⟩ := h
 obtain ⟨o, hT⟩ := hT
 obtain ⟨Fr, L, hL⟩ := frames_at (hA.step st) hT
 exact note_ok S X hT Fr hL fun ν₂ h' st₂ S₂ X₂ => ⟨ν₂, g', σ', ρ', c1, c2, st.trans st₂.any, F.step st₂, S₂, X₂, q⟩
def WWh (Γ : Cx) (n : Nat) (env : Env) (test : Expr) (body : List Stmt) (ρ : Rho) (σ : Sto) (Q : Fl → Rho → Sto → Prop) : Prop :=
 ∀ A s ν g, AOK n A ν g s.heap → (∃ o, A.frames = some (env :: o)) → FrameOK Γ.prog Γ.w env ρ ν g s.heap → Sat Γ.prog Γ.w Γ.B σ ν g s →
  codeAny (model Γ.prog Γ.w) A (.whileLoop test body [] env) (fun r s' => match r with | .ok f => PostS Γ env ν g s Q f s' | .error e => PostT Γ env ν g s Q e s') s
theorem WWh.step {test : Expr} {body : List Stmt} {Q : Fl → Rho → Sto → Prop}
  (h : WT Γ n env test ρ σ fun c σ₁ => match c with
   | true => WB Γ n env body ρ σ₁ fun f ρ₂ σ₂ => match f with | .next => WWh Γ n env test body ρ₂ σ₂ Q | .cont => WWh Γ n env test body ρ₂ σ₂ Q | .brk => Q .next ρ₂ σ₂ | .ret d => Q (.ret d) ρ₂ σ₂ | .exc c y => Q (.exc c y) ρ₂ σ₂
   | false => Q .next ρ σ₁) : WWh Γ n env test body ρ σ Q := fun A s ν g hA hT F S => by
 refine codeAny_of_tree ?_
 have nf : ∀ (e : Value) (s' : Shared), Fal e s' → notedBy (model Γ.prog Γ.w) A env (fun e s' => PostT Γ env ν g s Q e s') e s' := fun z' z' x => x.elim
 show wpAny _ A ((whileTurn test body [] env).onRaise (fun x => do noteFrame x env; theTreesLotGoes x)) _ _ s
 refine wpAny_noted ?_
 unfold whileTurn
 refine wpAny_bind (wpAny_mono (h A s ν g hA F S) (fun c s₁ h₁ => ?_) nf)
 obtain ⟨ν₁, g₁, σ₁, st₁, S₁, q₁⟩ := h₁
 cases c with
 | true =>
  rw [if_pos rfl]
  refine wpAny_bind (wpAny_mono (q₁ A s₁ ν₁ g₁ (hA.step st₁) hT (F.step st₁) S₁) (fun f s₂ h₂ => ?_) fun e s₂ h₂ => ?_)
  ·obtain ⟨ν₂, g₂, σ₂, ρ₂, st₂, F₂, S₂, q₂⟩ := h₂
   have st := st₁.any.trans st₂
   cases f with
   | next => exact wpAny_pure ⟨rfl, codeAny_mono (q₂ A s₂ ν₂ g₂ (hA.step st) hT F₂ S₂) fun r s₃ h₃ => by cases r with | ok f => exact h₃.trans st | error e => exact h₃.trans st⟩
   | cont => exact wpAny_pure ⟨rfl, codeAny_mono (q₂ A s₂ ν₂ g₂ (hA.step st) hT F₂ S₂) fun r s₃ h₃ => by cases r with | ok f => exact h₃.trans st | error e => exact h₃.trans st⟩
   | brk => exact wpAny_pure ⟨ν₂, g₂, σ₂, ρ₂, st, F₂, S₂, q₂⟩
   | ret v => exact wpAny_pure ⟨ν₂, g₂, σ₂, ρ₂, st, F₂, S₂, q₂⟩
  ·refine noted_ok hA hT ?_
   obtain ⟨ν₂, g₂, σ₂, ρ₂, c1, c2, st₂, F₂, S₂, X₂, q₂⟩ := h₂
   exact ⟨ν₂, g₂, σ₂, ρ₂, c1, c2, st₁.any.trans st₂, F₂, S₂, X₂, q₂⟩
 | false =>
  rw [if_neg Bool.false_ne_true]
  exact wpAny_bind (wpAny_execs_nil (wpAny_pure ⟨ν₁, g₁, σ₁, ρ, st₁.any, F.step st₁, S₁, q₁⟩))
theorem WWh.less {test : Expr} {body : List Stmt} {ρ' : Rho} {Q : Fl → Rho → Sto → Prop} (le : ∀ x d, ρ'.lookup x = some d → ρ.lookup x = some d) (h : WWh Γ n env test body ρ' σ Q) : WWh Γ n env test body ρ σ Q :=
 fun A s ν g hA hT F S => h A s ν g hA hT (F.less le) S
theorem WWh.le {test : Expr} {body : List Stmt} {σ' : Sto} {Q : Fl → Rho → Sto → Prop} (le : Sto.le σ' σ) (h : WWh Γ n env test body ρ σ' Q) : WWh Γ n env test body ρ σ Q :=
 fun A s ν g hA hT F S => h A s ν g hA hT F (S.le le)
theorem WS.while_ {test : Expr} {body : List Stmt} {pos : Pos} {Q : Fl → Rho → Sto → Prop} (h : WWh Γ n env test body ρ σ Q) : WS Γ n env (.While test body [] pos) ρ σ Q := fun A s ν g hA hT F S => by
 refine wpAny_While (codeAny_mono (h A s ν g hA hT F S) fun r s₁ h₁ => ?_)
 cases r with
 | ok f => exact h₁
 | error e =>
  obtain ⟨ν₂, g₂, σ₂, ρ₂, c1, c2, st₂, F₂, S₂, X₂, q₂⟩ := h₁
  exact back_ok S₂ X₂ fun h' st' S' X' => ⟨ν₂, g₂, σ₂, ρ₂, c1, c2, st₂.trans st'.any, F₂.step st', S', X'.weak, q₂⟩
noncomputable def ts? : List V → Option (List PV)
 | [] => some []
 | .t d :: r => (ts? r).map (d :: ·)
 | .ref _ :: _ => none
theorem ts_cons (d : PV) (r : List V) : ts? (.t d :: r) = (ts? r).map (d :: ·) := rfl
theorem ts_map (xs : List PV) : ts? (xs.map .t) = some xs := by induction xs with | nil => rfl | cons x r ih => rw [List.map_cons, ts_cons, ih]; rfl
theorem freezeL {i : Nat} {xs : List PV} (S : Sat Γ.prog Γ.w Γ.B σ ν g s) (hi : σ i = some (.lst (xs.map .t))) :
  ∃ g', Step [] ν g s ν g' s ∧ Sat Γ.prog Γ.w Γ.B (upd σ i (.frz (.lst xs))) ν g' s := by
 obtain ⟨a, ha⟩ := S.dom _ _ hi
 obtain ⟨o, ho, vs, m, e, hr⟩ := S.own i a _ ha hi
 subst e
 obtain ⟨g', gr, G, S'⟩ := S.freeze [a] (σ' := upd σ i (.frz (.lst xs))) (fun b hb => .inl (by rw [List.mem_singleton.mp hb]; exact List.mem_of_getElem? ha))
  (fun j ao e hl => by
   by_cases q : j = i
   ·subst q; rw [upd_self] at e; cases e; cases hl
   ·rw [upd_ne _ _ q] at e
    refine ⟨e, fun b hb hm => q ?_⟩
    have := List.mem_singleton.mp hm
    subst this
    exact (List.getElem?_inj (List.getElem?_eq_some_iff.mp hb).1 S.nd).mp (hb.trans ha.symm))
  (fun j d e => by
   by_cases q : j = i
   ·subst q
    rw [upd_self] at e; cases e
    exact .inr ⟨a, ha, fun g' le h => .lst (h a _ (.head _) ho) (RepAll.mono le (repV_ts hr))⟩
   ·rw [upd_ne _ _ q] at e; exact .inl e)
 exact ⟨g', .freeze gr fun b o e => ((G b o).mp e).imp id fun ⟨q, _⟩ => by rw [List.mem_singleton.mp q]; exact List.mem_of_getElem? ha, S'⟩
theorem repVE_kvs {ν : List Addr} {g : Heap} {es : List DictEntry} {ds : List (Key × PV)} (h : All2 (RepVE Γ.prog Γ.w ν g) es (ds.map fun p => (p.1, .t p.2))) : RepKvs Γ.prog Γ.w g es ds := All2.repKvs (All2.unmapR (R := RepVE Γ.prog Γ.w ν g) (f := fun p : Key × PV => (p.1, V.t p.2)) h)
theorem KeysOk.unmap {f : Fla} {ds : List (Key × PV)} (h : KeysOk f (ds.map fun p => (p.1, V.t p.2))) : KeysOk f ds := by
 refine ⟨fun p hp => h.1 (p.1, .t p.2) (List.mem_map.mpr ⟨p, hp, rfl⟩), ?_⟩
 have := h.2
 rw [List.map_map] at this
 exact this
theorem freezeD {i : Nat} {f : Fla} {kvs : List (Key × PV)} (S : Sat Γ.prog Γ.w Γ.B σ ν g s) (hi : σ i = some (.dct f (kvs.map fun p => (p.1, .t p.2)))) :
  ∃ g', Step [] ν g s ν g' s ∧ Sat Γ.prog Γ.w Γ.B (upd σ i (.frz (.dct f kvs))) ν g' s := by
 obtain ⟨a, ha⟩ := S.dom _ _ hi
 obtain ⟨o, ho, z, es, m, e, hk, hr⟩ := S.own i a _ ha hi
 subst e
 obtain ⟨g', gr, G, S'⟩ := S.freeze [a] (σ' := upd σ i (.frz (.dct f kvs))) (fun b hb => .inl (by rw [List.mem_singleton.mp hb]; exact List.mem_of_getElem? ha))
  (fun j ao e hl => by
   by_cases q : j = i
   ·subst q; rw [upd_self] at e; cases e; cases hl
   ·rw [upd_ne _ _ q] at e
    refine ⟨e, fun b hb hm => q ?_⟩
    have := List.mem_singleton.mp hm
    subst this
    exact (List.getElem?_inj (List.getElem?_eq_some_iff.mp hb).1 S.nd).mp (hb.trans ha.symm))
  (fun j d e => by
   by_cases q : j = i
   ·subst q
    rw [upd_self] at e; cases e
    exact .inr ⟨a, ha, fun g' le h => .dct z (h a _ (.head _) ho) hk.unmap (RepKvs.mono le (repVE_kvs hr))⟩
   ·rw [upd_ne _ _ q] at e; exact .inl e)
 exact ⟨g', .freeze gr fun b o e => ((G b o).mp e).imp id fun ⟨q, _⟩ => by rw [List.mem_singleton.mp q]; exact List.mem_of_getElem? ha, S'⟩
theorem freezeO {i k : Nat} {c : Addr} {kvs : List (Key × PV)} (S : Sat Γ.prog Γ.w Γ.B σ ν g s) (hi : σ i = some (.inst c k)) (hk : σ k = some (.dct .S (kvs.map fun p => (p.1, .t p.2)))) :
  ∃ g', Step [] ν g s ν g' s ∧ Sat Γ.prog Γ.w Γ.B (upd (upd σ k (.frz (.dct .S kvs))) i (.frz (.obj c kvs))) ν g' s := by
 have hik : i ≠ k := fun e => by subst e; rw [hi] at hk; cases hk
 obtain ⟨a, ha⟩ := S.dom _ _ hi
 obtain ⟨o, ho, dx, hdx, e⟩ := S.own i a _ ha hi
 subst e
 obtain ⟨o', ho', z, es, m, e, hkk, hr⟩ := S.own k dx _ hdx hk
 subst e
 have inj : ∀ {j l : Nat} {b : Addr}, ν[j]? = some b → ν[l]? = some b → j = l := fun h1 h2 => (List.getElem?_inj (List.getElem?_eq_some_iff.mp h1).1 S.nd).mp (h1.trans h2.symm)
 have mem : ∀ b ∈ [a, dx], b ∈ ν := fun b hb => by
  rcases List.mem_cons.mp hb with rfl | hb
  ·exact List.mem_of_getElem? ha
  ·rw [List.mem_singleton.mp hb]; exact List.mem_of_getElem? hdx
 obtain ⟨g', gr, G, S'⟩ := S.freeze [a, dx] (σ' := upd (upd σ k (.frz (.dct .S kvs))) i (.frz (.obj c kvs))) (fun b hb => .inl (mem b hb))
  (fun j ao e hl => by
   by_cases q : j = i
   ·subst q; rw [upd_self] at e; cases e; cases hl
   ·rw [upd_ne _ _ q] at e
    by_cases q' : j = k
    ·subst q'; rw [upd_self] at e; cases e; cases hl
    ·rw [upd_ne _ _ q'] at e
     refine ⟨e, fun b hb hm => ?_⟩
     rcases List.mem_cons.mp hm with rfl | hm
     ·exact q (inj hb ha)
     ·obtain rfl := List.mem_singleton.mp hm; exact q' (inj hb hdx))
  (fun j d e => by
   by_cases q : j = i
   ·subst q
    rw [upd_self] at e; cases e
    exact .inr ⟨a, ha, fun g' le h => .obj (h a _ (.head _) ho) (h dx _ (.tail _ (.head _)) ho') hkk.unmap (RepKvs.mono le (repVE_kvs hr))⟩
   ·rw [upd_ne _ _ q] at e
    by_cases q' : j = k
    ·subst q'
     rw [upd_self] at e; cases e
     exact .inr ⟨dx, hdx, fun g' le h => .dct z (h dx _ (.tail _ (.head _)) ho') hkk.unmap (RepKvs.mono le (repVE_kvs hr))⟩
    ·rw [upd_ne _ _ q'] at e; exact .inl e)
 exact ⟨g', .freeze gr fun b o e => ((G b o).mp e).imp id fun ⟨q, _⟩ => mem b q, S'⟩
theorem frz_rep {i : Nat} {d : PV} {x : Value} (S : Sat Γ.prog Γ.w Γ.B σ ν g s) (hi : σ i = some (.frz d)) (r : RepV Γ.prog Γ.w ν g x (.ref i)) : Rep Γ.prog Γ.w g x d := by
 obtain ⟨a, rfl, ha⟩ := r
 obtain ⟨o, ho, r⟩ := S.own i a _ ha hi
 exact r
theorem FrameOK.thaw {x : Str} {i : Nat} {d : PV} {h : Heap} (S : Sat Γ.prog Γ.w Γ.B σ ν g s) (hi : σ i = some (.frz d)) (F : FrameOK Γ.prog Γ.w env ρ ν g h) (hx : ρ.lookup x = some (.ref i)) : FrameOK Γ.prog Γ.w env (put ρ x (.t d)) ν g h := by
 refine ⟨F.kind, F.glb, F.blt, let ⟨m, a, b⟩ := F.loc; ⟨m, a, fun y e hy hk => ?_⟩, fun y e hy hk => ?_, F.has, F.offL, F.offC, F.injC⟩
 ·rw [lookup_put] at hy
  by_cases q : y = x
  ·subst q; rw [if_pos rfl] at hy; cases hy
   obtain ⟨v, hv, hr⟩ := b y _ hx hk
   exact ⟨v, hv, frz_rep S hi hr⟩
  ·rw [if_neg q] at hy; exact b y e hy hk
 ·rw [lookup_put] at hy
  by_cases q : y = x
  ·subst q; rw [if_pos rfl] at hy; cases hy
   obtain ⟨c, v, h1, h2, hr⟩ := F.cel y _ hx hk
   exact ⟨c, v, h1, h2, frz_rep S hi hr⟩
  ·rw [if_neg q] at hy; exact F.cel y e hy hk
theorem WB.frzL {sts : List Stmt} {Q : Fl → Rho → Sto → Prop} (i : Nat) {xs : List PV} (hi : σ i = some (.lst (xs.map .t))) (h : WB Γ n env sts ρ (upd σ i (.frz (.lst xs))) Q) : WB Γ n env sts ρ σ Q := fun A s ν g hA hT F S => by
 obtain ⟨g', st, S'⟩ := freezeL S hi
 exact wpAny_mono (h A s ν g' (hA.step st) hT (F.step st) S') (fun z' z' x => x.trans st.any) fun z' z' x => x.trans st.any
theorem WB.frzD {sts : List Stmt} {Q : Fl → Rho → Sto → Prop} (i : Nat) {f : Fla} {kvs : List (Key × PV)} (hi : σ i = some (.dct f (kvs.map fun p => (p.1, .t p.2)))) (h : WB Γ n env sts ρ (upd σ i (.frz (.dct f kvs))) Q) : WB Γ n env sts ρ σ Q := fun A s ν g hA hT F S => by
 obtain ⟨g', st, S'⟩ := freezeD S hi
 exact wpAny_mono (h A s ν g' (hA.step st) hT (F.step st) S') (fun z' z' x => x.trans st.any) fun z' z' x => x.trans st.any
theorem WB.frzO {sts : List Stmt} {Q : Fl → Rho → Sto → Prop} (i k : Nat) {c : Addr} {kvs : List (Key × PV)} (hi : σ i = some (.inst c k)) (hk : σ k = some (.dct .S (kvs.map fun p => (p.1, .t p.2)))) (h : WB Γ n env sts ρ (upd (upd σ k (.frz (.dct .S kvs))) i (.frz (.obj c kvs))) Q) : WB Γ n env sts ρ σ Q := fun A s ν g hA hT F S => by
 obtain ⟨g', st, S'⟩ := freezeO S hi hk
 exact wpAny_mono (h A s ν g' (hA.step st) hT (F.step st) S') (fun z' z' x => x.trans st.any) fun z' z' x => x.trans st.any
theorem WB.thaw {sts : List Stmt} {Q : Fl → Rho → Sto → Prop} (x : Str) {i : Nat} {d : PV} (hx : ρ.lookup x = some (.ref i)) (hi : σ i = some (.frz d)) (h : WB Γ n env sts (put ρ x (.t d)) σ Q) : WB Γ n env sts ρ σ Q := fun A s ν g hA hT F S =>
 h A s ν g hA hT (F.thaw S hi hx) S
theorem PostV.thaw {X : List Addr} {v : Value} {i : Nat} {d : PV} {Q : V → Sto → Prop} {s₀ : Shared} {ν₀ : List Addr} {g₀ : Heap} (st : Step X ν₀ g₀ s₀ ν g s) (S : Sat Γ.prog Γ.w Γ.B σ ν g s) (hi : σ i = some (.frz d)) (r : RepV Γ.prog Γ.w ν g v (.ref i)) (h : Q (.t d) σ) : PostV Γ X ν₀ g₀ s₀ Q v s :=
 ⟨ν, g, σ, .t d, st, S, frz_rep S hi r, h⟩
theorem WE.frzL {e : Expr} {Q : V → Sto → Prop} (h : WE Γ n env e ρ σ fun v σ₁ => ∃ i xs, v = .ref i ∧ σ₁ i = some (.lst (xs.map .t)) ∧ Q (.t (.lst xs)) (upd σ₁ i (.frz (.lst xs)))) : WE Γ n env e ρ σ Q := fun A s ν g hA F S => by
 refine seqV (h A s ν g hA F S) fun v s₁ ν₁ g₁ σ₁ d st₁ S₁ r q => ?_
 obtain ⟨i, xs, rfl, hi, q⟩ := q
 obtain ⟨g', st, S'⟩ := freezeL S₁ hi
 exact PostV.thaw (st₁.trans st) S' (upd_self ..) (st.rep r) q
theorem WE.weak {e : Expr} {Q : V → Sto → Prop} (h : WE Γ n env e ρ σ fun v σ₁ => ∃ σ', Sto.le σ' σ₁ ∧ Q v σ') : WE Γ n env e ρ σ Q := fun A s ν g hA F S => by
 refine seqV (h A s ν g hA F S) fun v s₁ ν₁ g₁ σ₁ d st₁ S₁ r q => ?_
 obtain ⟨σ', hl, q⟩ := q
 exact ⟨ν₁, g₁, σ', d, st₁, S₁.le hl, r, q⟩
end
section
variable {Γ : Cx} {n : Nat} {env : Env} {ρ : Rho} {σ : Sto} {ν ν' : List Addr} {g g' : Heap} {s s' : Shared} {A : Around} {I D : Addr} {ds : List PV} {d : PV}
inductive PostL (Γ : Cx) (env : Env) (ν : List Addr) (g : Heap) (s : Shared) (σ : Sto) (Q : Rho → Prop) (s' : Shared) : Prop
 | mk (ρ' : Rho) : Step [env.locals] ν g s ν g s' → FrameOK Γ.prog Γ.w env ρ' ν g s'.heap → Sat Γ.prog Γ.w Γ.B σ ν g s' → Q ρ' → PostL Γ env ν g s σ Q s'
theorem PostL.trans {Q : Rho → Prop} {s₁ s' : Shared} (h : PostL Γ env ν g s₁ σ Q s') (st : Step [env.locals] ν g s ν g s₁) : PostL Γ env ν g s σ Q s' := by
 obtain ⟨ρ', a, b, e, q⟩ := h; exact ⟨ρ', st.trans a, b, e, q⟩
def WAL (Γ : Cx) (n : Nat) (env : Env) (t : Expr) (v : V) (ρ : Rho) (σ : Sto) (Q : Rho → Prop) : Prop :=
 ∀ A s ν g x, AOK n A ν g s.heap → FrameOK Γ.prog Γ.w env ρ ν g s.heap → Sat Γ.prog Γ.w Γ.B σ ν g s → RepV Γ.prog Γ.w ν g x v →
  wpAny (model Γ.prog Γ.w) A (assign t env x) (fun z' s' => PostL Γ env ν g s σ Q s') Fal s
theorem store_loc {x : Str} {v : Value} {d : V} {E : Value → Shared → Prop} (F : FrameOK Γ.prog Γ.w env ρ ν g s.heap) (S : Sat Γ.prog Γ.w Γ.B σ ν g s) (hk : env.kindOf x = some .local) (r : RepV Γ.prog Γ.w ν g v d)
  {K : Unit → Shared → Prop} (k : ∀ s', Step [env.locals] ν g s ν g s' → FrameOK Γ.prog Γ.w env (put ρ x d) ν g s'.heap → Sat Γ.prog Γ.w Γ.B σ ν g s' → K () s') : wpAny (model Γ.prog Γ.w) A (storeName env x v) K E s := by
 obtain ⟨m, hn, hm⟩ := F.loc
 refine wpAny_storeName_local hk hn (fun h' hn' hs => ?_) (by rw [F.kind]; rfl)
 obtain ⟨S', st⟩ := S.off1 (t := s.toks + 1) F.offL.1 F.offL.2 hs (let ⟨o, _, _, ho, hd, _⟩ := hn'; ⟨o, ho, fun z' z' z' => ⟨_, _, hd⟩⟩)
 exact k _ st (F.storeL hk r hm hn' hs) S'
theorem WAL.name {x : Str} {p : Pos} {v : V} {Q : Rho → Prop} (h : Q (put ρ x v)) (hk : autoParam (env.kindOf x = some .local) rfl0S) : WAL Γ n env (.Name x p) v ρ σ Q := fun A s ν g y hA F S r =>
 assign_Name (store_loc F S hk r fun s' st F' S' => ⟨_, st, F', S', h⟩)
theorem names_loc {E : Value → Shared → Prop} {ps : List (Str × Pos)} {vs : List Value} {ds : List PV} {ρ : Rho} {s : Shared} {Q : Rho → Prop} (hk : ∀ p ∈ ps, env.kindOf p.1 = some .local) (F : FrameOK Γ.prog Γ.w env ρ ν g s.heap) (S : Sat Γ.prog Γ.w Γ.B σ ν g s) (r : All2 (Rep Γ.prog Γ.w g) vs ds) (hl : ps.length = ds.length)
  (h : Q (putAll ρ (ps.map (·.1)) ds)) : wpAny (model Γ.prog Γ.w) A (assignInOrder (ps.map fun p => assign (.Name p.1 p.2) env) vs) (fun z' s' => PostL Γ env ν g s σ Q s') E s := by
 induction ps generalizing vs ds ρ s with
 | nil =>
  obtain rfl := List.eq_nil_of_length_eq_zero hl.symm
  obtain rfl := r.inv
  exact assignInOrder_nil ⟨ρ, .refl .., F, S, h⟩
 | cons p ps ih => cases ds with
  | nil => cases hl
  | cons d ds =>
   obtain ⟨v, vs, rfl, r, rs⟩ := r.inv
   exact assignInOrder_cons (assign_Name (store_loc F S (hk p (.head _)) (d := .t d) r fun s' st F' S' => wpAny_mono (ih (fun p hp => hk p (.tail _ hp)) F' S' rs (Nat.succ.inj hl) h) (fun z' s'' q => q.trans st) fun z' z' x => x))
theorem WAL.tuple {ps : List (Str × Pos)} {elts : List Expr} {k : Nat} {pos : Pos} {xs : List PV} {Q : Rho → Prop} (he : elts = ps.map fun p => .Name p.1 p.2) (hl : ps.length = xs.length) (h : Q (putAll ρ (ps.map (·.1)) xs))
  (hk : ∀ p ∈ ps, env.kindOf p.1 = some .local) : WAL Γ n env (.Tuple elts k pos) (.t (.tup xs)) ρ σ Q := fun A s ν g y hA F S r => by
 obtain ⟨a, vs, m, rfl, hg, hr⟩ := Rep.tup_inv r
 have ho := S.sub _ _ hg
 have hsz : vs.size = xs.length := by have := hr.all2.length; simpa using this
 subst he
 refine assign_Tuple_tuple hA.hd ⟨_, ho, rfl, m, rfl⟩ (by rw [hass, List.length_map]; lia) ?_ fun h' he => ?_
 ·rw [hass]
  simp
 ·have kp : HeapLe s.heap h' := fun b o e => he b o (Nat.ne_of_lt (Heap.lt_size e)) e
  have st : Step [] ν g s ν g { s with heap := h' } := .ext kp (t := s.toks)
  have hm : (assignEach (ps.map fun p => Expr.Name p.1 p.2) env).map (·.2) = ps.map fun p => assign (.Name p.1 p.2) env := by rw [hass, List.map_map]; rfl
  rw [hm]
  exact wpAny_mono (names_loc hk (F.step st) (S.ext kp (t := s.toks)) hr.all2 hl h) (fun z' s'' q => q.trans st.any) fun z' z' x => x
def WIf (Γ : Cx) (n : Nat) (env : Env) (ifs : List Expr) (ρ : Rho) (σ : Sto) (Q : Bool → Sto → Prop) : Prop :=
 ∀ A s ν g, AOK n A ν g s.heap → FrameOK Γ.prog Γ.w env ρ ν g s.heap → Sat Γ.prog Γ.w Γ.B σ ν g s →
  wpAny (model Γ.prog Γ.w) A (forIn ifs true fun c r => if r = true then do let ok ← isTrue c env (eval c env); pure (ForInStep.yield ok) else pure (ForInStep.yield r)) (PostP Γ [] ν g s Q) Fal s
theorem WIf.nil {Q : Bool → Sto → Prop} (h : Q true σ) : WIf Γ n env [] ρ σ Q := fun A s ν g hA F S => wpAny_tests_nil ⟨ν, g, σ, .refl .., S, h⟩
theorem WIf.one {c : Expr} {Q : Bool → Sto → Prop} (h : WT Γ n env c ρ σ Q) : WIf Γ n env [c] ρ σ Q := fun A s ν g hA F S => wpAny_tests_one (h A s ν g hA F S)
structure LsAt (Γ : Cx) (D : Addr) (out : List V) (ν : List Addr) (g : Heap) (s : Shared) : Prop where
 at_ : ∃ vs m, s.heap.get? D = some (listOf vs m) ∧ All2 (RepV Γ.prog Γ.w ν g) vs.toList out
 off : D ∉ ν ∧ g.get? D = Option.none
theorem LsAt.step {out : List V} {X : List Addr} (x : LsAt Γ D out ν g s) (st : Step X ν g s ν' g' s') (hX : D ∉ X) : LsAt Γ D out ν' g' s' := by
 obtain ⟨⟨vs, m, ho, hr⟩, off⟩ := x
 obtain ⟨o', ho', sm⟩ := st.keep D _ ho off.1 hX
 have e := sm.ex (fun es n q => by cases q)
 subst e
 exact ⟨⟨vs, m, ho', st.reps hr⟩, st.offg ho off.1 off.2⟩
theorem LsAt.turn {out : List V} {h' : Heap} {t : Nat} (x : LsAt Γ D out ν g s) (hI : D ≠ I) (hk : ∀ b o, b ∉ [I] → s.heap.get? b = some o → h'.get? b = some o) : LsAt Γ D out ν g { s with heap := h', toks := t } := by
 obtain ⟨⟨vs, m, ho, hr⟩, off⟩ := x
 exact ⟨⟨vs, m, hk D _ (fun q => hI (List.mem_singleton.mp q)) ho, hr⟩, off⟩
theorem ItAt.turn {h' : Heap} {t : Nat} (x : ItAt Γ I ds ν g s) (sub : HeapLe g s.heap) (hI : I ≠ D) (hD : g.get? D = Option.none) (hk : ∀ b o, b ∉ [D] → s.heap.get? b = some o → h'.get? b = some o) : ItAt Γ I ds ν g { s with heap := h', toks := t } := by
 obtain ⟨⟨fp, N, P, St, i, W, hi, hl, hst, hfp, hP⟩, off⟩ := x
 refine ⟨⟨fp, N, P, St, i, W, hi, hl, (W { handled := Option.none } rfl).frame i _ _ hst fun b hb ob hob => ?_, hfp, hP⟩, off⟩
 refine hk b ob (fun q => ?_) hob
 have := List.mem_singleton.mp q
 subst this
 rcases hfp b hb with e | ⟨o, ho⟩
 ·exact hI e.symm
 ·rw [hD] at ho; cases ho
theorem append_ls {out : List V} {x : Value} {d : V} {E : Value → Shared → Prop} {Q : Value → Shared → Prop} (L : LsAt Γ D out ν g s) (r : RepV Γ.prog Γ.w ν g x d) (hz : out.length ≤ 100000)
  (h : ∀ h', (∀ b o, b ∉ [D] → s.heap.get? b = some o → h'.get? b = some o) → LsAt Γ D (out ++ [d]) ν g { s with heap := h' } → Q .none { s with heap := h' }) : wpAny (model Γ.prog Γ.w) A (call (.builtin "list.append") [.ref D, x]) Q E s := by
 obtain ⟨⟨vs, m, ho, hr⟩, off⟩ := L
 have hsz : vs.size = out.length := by have := hr.length; simpa using this
 have hT : s.TypeIs (.ref D) "list" := ⟨_, ho, rfl⟩
 refine wpAny_call_entry slot_list_append hT entry_list_append ?_ (args_list_append _ _)
 show wpAny _ _ (updateSeq D (·.push x) >>= fun z' => PySem.ret .none) _ _ s
 refine wpAny_bind ?_
 refine wpAny_updateSeq ho rfl (hz := by rw [sizeLine_eq]; lia) (wpAny_pure ⟨.none, rfl, h _ (fun b o hb e => ((Heap.SameBut.update _ _ _).2 b (fun q => hb (List.mem_singleton.mpr q))).trans e) ?_⟩)
 refine ⟨⟨vs.push x, _, Heap.get?_update_self (Obj.mapSeq (·.push x)) ho rfl, ?_⟩, off⟩
 rw [Array.toList_push]
 exact hr.append (.cons r .nil)
end
noncomputable def closL (env : Env) : List (Str × NameKind) → List (Str × Addr) → List (Str × Addr)
 | [], acc => acc
 | (x, k) :: r, acc => if k == .free then closL env r ((x, (env.cells.lookup x).getD 0) :: acc) else closL env r acc
noncomputable def compOK (scope : Scope) (env : Env) : Bool :=
 scope.kind == .function && scope.names.all fun p => p.2 != .cell && (p.2 != .local || scope.names.lookup p.1 == some .local) &&
  (p.2 != .free || (scope.names.lookup p.1 == some .free && (env.cells.lookup p.1).isSome && (env.kindOf p.1 == some .cell || env.kindOf p.1 == some .free)))
noncomputable abbrev cenv (scope : Scope) (C : Addr) (env : Env) : Env := compEnvC scope (closL env scope.names []) C env
noncomputable def compRho (scope : Scope) (ρ : Rho) : Rho := ρ.filter fun p => scope.names.lookup p.1 == some .free
set_option tactic.hygienic true in
theorem lookup_compRho {scope : Scope} {ρ : Rho} {x : Str} {d : V} (h : (compRho scope ρ).lookup x = some d) : ρ.lookup x = some d ∧ scope.names.lookup x = some .free := by
 induction ρ with
 | nil => cases h
 | cons p r ih =>
  unfold compRho at h ih
  rw [List.filter_cons] at h
  rw [List.lookup_cons]
  by_cases q : x = p.1
  ·subst q
   simp only [beq_self_eq_true]
   split at h
   ·rename_i hp
    rw [List.lookup_cons, beq_self_eq_true] at h
    exact ⟨h, by simpa using hp⟩
   ·rename_i hp
    exact absurd (by simpa using (ih h).2) hp
  ·have q' : (x == p.1) = false := by simpa using q
   simp only [q']
   split at h
   ·rw [List.lookup_cons, q'] at h; exact ih h
   ·exact ih h
section
variable {scope : Scope} {env : Env}
theorem closL_cons (y : Str) (k : NameKind) (r : List (Str × NameKind)) (acc : List (Str × Addr)) : closL env ((y, k) :: r) acc = if k == .free then closL env r ((y, (env.cells.lookup y).getD 0) :: acc) else closL env r acc := rfl
theorem closL_mem (names : List (Str × NameKind)) (acc : List (Str × Addr)) (x : Str) (c : Addr) (h : (x, c) ∈ closL env names acc) : (x, c) ∈ acc ∨ ((x, NameKind.free) ∈ names ∧ c = (env.cells.lookup x).getD 0) := by
 induction names generalizing acc with
 | nil => exact .inl h
 | cons p r ih =>
  obtain ⟨y, k⟩ := p
  rw [closL_cons] at h
  by_cases hk : (k == .free) = true
  ·rw [if_pos hk] at h
   rcases ih _ h with h | h
   ·rcases List.mem_cons.mp h with h | h
    ·cases h; exact .inr ⟨eq_of_beq hk ▸ .head _, rfl⟩
    ·exact .inl h
   ·exact .inr ⟨.tail _ h.1, h.2⟩
  ·rw [if_neg hk] at h
   exact (ih _ h).imp id fun h => ⟨.tail _ h.1, h.2⟩
theorem closL_acc (names : List (Str × NameKind)) (acc : List (Str × Addr)) (p : Str × Addr) (h : p ∈ acc) : p ∈ closL env names acc := by
 induction names generalizing acc with
 | nil => exact h
 | cons q r ih =>
  rw [closL_cons]
  split
  ·exact ih _ (.tail _ h)
  ·exact ih _ h
theorem closL_has (names : List (Str × NameKind)) (acc : List (Str × Addr)) (x : Str) (h : (x, NameKind.free) ∈ names) : (x, (env.cells.lookup x).getD 0) ∈ closL env names acc := by
 induction names generalizing acc with
 | nil => cases h
 | cons q r ih =>
  rw [closL_cons]
  rcases List.mem_cons.mp h with h | h
  ·subst h
   exact closL_acc r _ _ (.head _)
  ·split
   ·exact ih _ h
   ·exact ih _ h
theorem lookup_of_mem {l : List (Str × Addr)} {x : Str} {c : Addr} (h : (x, c) ∈ l) : ∃ c', l.lookup x = some c' := by
 induction l with
 | nil => cases h
 | cons p r ih =>
  rw [List.lookup_cons]
  by_cases q : x = p.1
  ·subst q; exact ⟨p.2, by simp⟩
  ·have q' : (x == p.1) = false := by simpa using q
   rw [q']
   rcases List.mem_cons.mp h with h | h
   ·subst h; exact absurd rfl q
   ·exact ih h
theorem closureFor_L (h : ∀ x, (x, NameKind.free) ∈ scope.names → (env.cells.lookup x).isSome = true) : closureFor scope env = pure (closL env scope.names []) := by
 have key : ∀ (names : List (Str × NameKind)) (acc : List (Str × Addr)), (∀ x, (x, NameKind.free) ∈ names → (env.cells.lookup x).isSome = true) →
   (forIn names acc (fun (p : Str × NameKind) (r : List (Str × Addr)) => match p with
    | (name, kind) => (if (kind == NameKind.free) = true then do
      let a ← cellOf env name
      pure (ForInStep.yield ((name, a) :: r))
     else pure (ForInStep.yield r) : Sem (ForInStep (List (Str × Addr)))))) = (pure (closL env names acc) : Sem (List (Str × Addr))) := by
  intro names
  induction names with
  | nil => intro acc _; rfl
  | cons p r ih =>
   obtain ⟨y, k⟩ := p
   intro acc h
   rw [List.forIn_cons]
   rw [closL_cons]
   show ((if (k == NameKind.free) = true then (do let a ← cellOf env y; pure (ForInStep.yield ((y, a) :: acc))) else pure (ForInStep.yield acc) : Sem (ForInStep (List (Str × Addr)))) >>= _) = _
   by_cases q : (k == NameKind.free) = true
   ·obtain ⟨c, hc⟩ := Option.isSome_iff_exists.mp (h y (eq_of_beq q ▸ .head _))
    have e : cellOf env y = pure c := by unfold cellOf; rw [hc]
    rw [if_pos q, if_pos q, e, pure_bind, pure_bind, hc]
    exact ih _ fun x hx => h x (.tail _ hx)
   ·rw [if_neg q, if_neg q, pure_bind]
    exact ih _ fun x hx => h x (.tail _ hx)
 show (forIn scope.names ([] : List (Str × Addr)) (fun (p : Str × NameKind) (r : List (Str × Addr)) => match p with
    | (name, kind) => (if (kind == NameKind.free) = true then do
      let a ← cellOf env name
      pure (ForInStep.yield ((name, a) :: r))
     else pure (ForInStep.yield r) : Sem (ForInStep (List (Str × Addr))))) >>= fun cs => pure cs) = _
 rw [key scope.names [] h]
 rfl
theorem relabel_lookup (x : Str) : (relabel scope env).names.lookup x = (scope.names.lookup x).map fun k => if (k == .free && env.scope.kind == .function && env.kindOf x == some .cell) then .cell else k := by
 show (scope.names.map _).lookup x = _
 induction scope.names with
 | nil => rfl
 | cons p r ih =>
  obtain ⟨y, k⟩ := p
  rw [List.map_cons]
  by_cases q : x = y
  ·subst q
   by_cases hc : (k == NameKind.free && env.scope.kind == .function && env.kindOf x == some .cell) = true
   ·simp only [hc, if_true, List.lookup_cons, beq_self_eq_true, Option.map_some]
   ·simp only [hc, Bool.false_eq_true, if_false, List.lookup_cons, beq_self_eq_true, Option.map_some]
  ·have q' : (x == y) = false := by simpa using q
   have e : ∀ (z : NameKind) (l : List (Str × NameKind)), List.lookup x ((y, z) :: l) = List.lookup x l := fun z l => by rw [List.lookup_cons, q']
   rw [e, ← ih]
   dsimp only
   split
   ·exact e _ _
   ·exact e _ _
structure CompOK (scope : Scope) (env : Env) : Prop where
 kind : scope.kind = .function
 cell : ∀ x ∈ scope.names, x.2 ≠ .cell
 loc : ∀ x ∈ scope.names, x.2 = .local → scope.names.lookup x.1 = some .local
 free : ∀ x, (x, NameKind.free) ∈ scope.names → scope.names.lookup x = some .free ∧ (env.cells.lookup x).isSome = true ∧ (env.kindOf x = some .cell ∨ env.kindOf x = some .free)
theorem CompOK.of (h : compOK scope env = true) : CompOK scope env := by
 unfold compOK at h
 rw [Bool.and_eq_true, List.all_eq_true] at h
 obtain ⟨h1, h2⟩ := h
 refine ⟨by simpa using h1, fun x hx => ?_, fun x hx hl => ?_, fun x hx => ?_⟩
 ·have := h2 x hx
  rw [Bool.and_eq_true, Bool.and_eq_true] at this
  simpa using this.1.1
 ·have := h2 x hx
  rw [Bool.and_eq_true, Bool.and_eq_true] at this
  simpa [hl] using this.1.2
 ·have := h2 _ hx
  rw [Bool.and_eq_true, Bool.and_eq_true] at this
  have := this.2
  simpa [and_assoc] using this
end
section
variable {Γ : Cx} {n : Nat} {env : Env} {ρ : Rho} {σ : Sto} {ν ν' : List Addr} {g g' : Heap} {s s' : Shared} {A : Around} {I D : Addr} {ds : List PV} {d : PV}
theorem cenv_cells {scope : Scope} (ok : CompOK scope env) {x : Str} {c : Addr} (h : (closL env scope.names []).lookup x = some c) : env.cells.lookup x = some c ∧ (x, NameKind.free) ∈ scope.names := by
 rcases closL_mem _ _ _ _ (PySem.mem_of_lookup h) with q | ⟨q, e⟩
 ·cases q
 ·obtain ⟨_, h2, _⟩ := ok.free x q
  obtain ⟨c', hc⟩ := Option.isSome_iff_exists.mp h2
  rw [hc] at e; subst e; exact ⟨hc, q⟩
theorem cenv_has {scope : Scope} (ok : CompOK scope env) {x : Str} {c : Addr} (h : env.cells.lookup x = some c) (hx : (x, NameKind.free) ∈ scope.names) : (closL env scope.names []).lookup x = some c := by
 obtain ⟨c', hc⟩ := lookup_of_mem (closL_has (env := env) scope.names [] x hx)
 have := (cenv_cells ok hc).1
 rw [h] at this; cases this; exact hc
set_option tactic.hygienic true in
theorem cenv_frame {scope : Scope} {C : Addr} {h h' : Heap} (ok : CompOK scope env) (F : FrameOK Γ.prog Γ.w env ρ ν g h) (kp : HeapLe h h') (hC : h.get? C = Option.none) (hn : h'.Ns C fun z' => Option.none) (hCν : C ∉ ν ∧ g.get? C = Option.none) :
  FrameOK Γ.prog Γ.w (cenv scope C env) (compRho scope ρ) ν g h' := by
 have kind : ∀ x, (cenv scope C env).kindOf x = (scope.names.lookup x).map fun k => if (k == .free && env.scope.kind == .function && env.kindOf x == some .cell) then .cell else k := fun x => relabel_lookup x
 refine ⟨ok.kind, F.glb, F.blt, ⟨_, hn, fun x d hx hk => ?_⟩, fun x d hx hk => ?_, fun x hk => ?_, hCν, fun x c hc => ?_, fun x y c h1 h2 => ?_⟩
 ·obtain ⟨_, hf⟩ := lookup_compRho hx
  rw [kind, hf] at hk
  simp only [Option.map_some, Option.some.injEq] at hk
  split at hk <;> cases hk
 ·obtain ⟨hx', hf⟩ := lookup_compRho hx
  obtain ⟨c, v, h1, ⟨o, ho, hd⟩, hr⟩ := F.cel x d hx' (ok.free x (mem_of_lookup_kind hf)).2.2
  exact ⟨c, v, cenv_has ok h1 (mem_of_lookup_kind hf), ⟨o, kp _ _ ho, hd⟩, hr⟩
 ·rw [kind] at hk
  cases hl : scope.names.lookup x with
  | none => rw [hl] at hk; cases hk
  | some k =>
   rw [hl] at hk
   simp only [Option.map_some, Option.some.injEq] at hk
   split at hk
   ·rename_i hc
    rw [Bool.and_eq_true, Bool.and_eq_true] at hc
    have hkf : k = .free := by simpa using hc.1.1
    subst hkf
    obtain ⟨c, ov, h1, o, ho, hd⟩ := F.has x (by simpa using hc.2)
    exact ⟨c, ov, cenv_has ok h1 (mem_of_lookup_kind hl), o, kp _ _ ho, hd⟩
   ·subst hk; exact absurd rfl (ok.cell _ (mem_of_lookup_kind hl))
 ·obtain ⟨h1, h2⟩ := cenv_cells ok hc
  obtain ⟨a, b, c', o, ho⟩ := F.offC x c h1
  exact ⟨a, b, (fun q => by rw [q] at ho; rw [show h.get? C = some o from ho] at hC; cases hC), o, kp _ _ ho⟩
 ·exact F.injC x y c (cenv_cells ok h1).1 (cenv_cells ok h2).1
end
section
variable {Γ : Cx} {n : Nat} {env : Env} {ρ : Rho} {σ : Sto} {ν ν' : List Addr} {g g' : Heap} {s s' : Shared} {A : Around} {I D C : Addr} {ds : List PV} {d : PV}
def WCp (Γ : Cx) (n : Nat) (env : Env) (elt target : Expr) (ifs : List Expr) (xs : List PV) (out : List V) (ρ : Rho) (σ : Sto) (Q : List V → Sto → Prop) : Prop :=
 ∀ A s₀ ν₀ g₀ s ν g I D iter scope pos (R : Result → Shared → Prop), AOK n A ν₀ g₀ s₀.heap → Step [env.locals] ν₀ g₀ s₀ ν g s → FrameOK Γ.prog Γ.w env ρ ν g s.heap → Sat Γ.prog Γ.w Γ.B σ ν g s → s₀.heap.get? I = Option.none → s₀.heap.get? D = Option.none → D ≠ I → I ≠ env.locals → D ≠ env.locals →
  I ∉ frA env → D ∉ frA env → ItAt Γ I xs ν g s → LsAt Γ D out ν g s → out.length + xs.length ≤ 100000 →
  (∀ s' ν' g' σ' out', Step [env.locals] ν₀ g₀ s₀ ν' g' s' → Sat Γ.prog Γ.w Γ.B σ' ν' g' s' → LsAt Γ D out' ν' g' s' → (∃ m, s'.heap.Ns env.locals m) → (env.locals ∉ ν' ∧ g'.get? env.locals = Option.none) → Q out' σ' → R (.ok .next) s') →
  codeAny (model Γ.prog Γ.w) A (.compLoop (.ListComp elt [⟨target, iter, ifs, 0⟩] scope pos) 0 (.ref I) (.ref D) env) R s
theorem comp_code {elt target iter : Expr} {ifs : List Expr} {scope : Scope} {pos : Pos} {it acc : Value} {R : Result → Shared → Prop} (h : wpAny (model Γ.prog Γ.w) A (pyNext it) (fun r s₁ => match r with
   | .none => R (.ok .next) s₁
   | some v => wpAny (model Γ.prog Γ.w) A (letOwnedTupleGo target it v) (fun z' s₁' => wpAny (model Γ.prog Γ.w) A (assign target env v) (fun z' s₂ =>
     wpAny (model Γ.prog Γ.w) A (forIn ifs true fun c r => if r = true then do let ok ← isTrue c env (eval c env); pure (ForInStep.yield ok) else pure (ForInStep.yield r)) (fun ok s₃ =>
      if ok = true then wpAny (model Γ.prog Γ.w) A (eval elt env) (fun x s₄ =>
       wpAny (model Γ.prog Γ.w) A (call (.builtin "list.append") [acc, x]) (fun z' s₅ => codeAny (model Γ.prog Γ.w) A (.compLoop (.ListComp elt [⟨target, iter, ifs, 0⟩] scope pos) 0 it acc env) R s₅) Fal s₄) Fal s₃
      else codeAny (model Γ.prog Γ.w) A (.compLoop (.ListComp elt [⟨target, iter, ifs, 0⟩] scope pos) 0 it acc env) R s₃) Fal s₂) Fal s₁') Fal s₁) Fal s) :
  codeAny (model Γ.prog Γ.w) A (.compLoop (.ListComp elt [⟨target, iter, ifs, 0⟩] scope pos) 0 it acc env) R s := by
 refine codeAny_of_tree ?_
 have nf : ∀ (e : Value) (s : Shared), Fal e s → notedBy (model Γ.prog Γ.w) A env (fun e s' => R (.error e) s') e s := fun z' z' x => x.elim
 show wpAny _ A ((compTurn (.ListComp elt [⟨target, iter, ifs, 0⟩] scope pos) 0 it acc env).onRaise (fun x => do noteFrame x env; theTreesLotGoes x)) _ _ s
 refine wpAny_noted ?_
 rw [compTurn_list]
 refine wpAny_bind (wpAny_standAt (wpAny_bind (wpAny_mono h (fun r s₁ h₁ => ?_) nf)))
 cases r with
 | none => exact wpAny_pure h₁
 | some v =>
  refine wpAny_bind (wpAny_mono h₁ (fun z' s₁' h₁' => ?_) nf)
  refine wpAny_bind (wpAny_mono h₁' (fun z' s₂ h₂ => wpAny_bind (wpAny_mono h₂ (fun ok s₃ h₃ => ?_) nf)) nf)
  cases ok with
  | false => exact wpAny_pure ⟨rfl, h₃⟩
  | true =>
   exact wpAny_bind (wpAny_bind (wpAny_mono h₃ (fun x s₄ h₄ => wpAny_bind (wpAny_mono h₄ (fun z' s₅ h₅ => wpAny_pure (wpAny_pure ⟨rfl, h₅⟩)) nf)) nf))
theorem WCp.nil {elt target : Expr} {ifs : List Expr} {out : List V} {Q : List V → Sto → Prop} (h : Q out σ) : WCp Γ n env elt target ifs [] out ρ σ Q :=
 fun A s₀ ν₀ g₀ s ν g I D iter scope pos R hA st F S hI hD hDI hIL hDL hIF hDF it ls hz hR => by
 refine comp_code (ItAt.done it hA.hd fun h' tk hk => ?_)
 have F' := F.turn hIF hk
 exact hR _ ν g σ out (st.turn hI hk) (S.turn it.off hk) (ls.turn hDI hk) (let ⟨m, a, _⟩ := F'.loc; ⟨m, a⟩) F.offL h
theorem WCp.cons {elt target : Expr} {ifs : List Expr} {x : PV} {xs : List PV} {out : List V} {Q : List V → Sto → Prop}
  (h : WAL Γ n env target (.t x) ρ σ fun ρ₁ => WIf Γ n env ifs ρ₁ σ fun b σ₁ => match b with
   | true => WE Γ n env elt ρ₁ σ₁ fun d σ₂ => WCp Γ n env elt target ifs xs (out ++ [d]) ρ₁ σ₂ Q
   | false => WCp Γ n env elt target ifs xs out ρ₁ σ₁ Q) : WCp Γ n env elt target ifs (x :: xs) out ρ σ Q :=
 fun A s₀ ν₀ g₀ s ν g I D iter scope pos R hA st F S hI hD hDI hIL hDL hIF hDF it ls hz hR => by
 refine comp_code (ItAt.next it hA.hd fun v h' tk rv hk it' => ?_)
 have st₁ : Step [env.locals] ν₀ g₀ s₀ ν g { s with heap := h', toks := tk } := st.turn hI hk
 have S₁ : Sat Γ.prog Γ.w Γ.B σ ν g { s with heap := h', toks := tk } := S.turn it.off hk
 have F₁ : FrameOK Γ.prog Γ.w env ρ ν g h' := F.turn hIF hk
 have ls₁ : LsAt Γ D out ν g { s with heap := h', toks := tk } := ls.turn hDI hk
 refine ItAt.letGo it'.here (wpAny_mono (h A _ ν g v (hA.step st₁) F₁ S₁ rv) (fun z' s₂ h₂ => ?_) fun z' z' x => x)
 obtain ⟨ρ₂, st₂, F₂, S₂, q₂⟩ := h₂
 have st₁₂ := st₁.trans st₂
 have hIX : I ∉ [env.locals] := fun q => hIL (List.mem_singleton.mp q)
 have hDX : D ∉ [env.locals] := fun q => hDL (List.mem_singleton.mp q)
 have it₂ := it'.step S₁.sub S₂.sub st₂ hIX
 have ls₂ := ls₁.step st₂ hDX
 refine wpAny_mono (q₂ A s₂ ν g (hA.step st₁₂) F₂ S₂) (fun ok s₃ h₃ => ?_) fun z' z' x => x
 obtain ⟨ν₃, g₃, σ₃, st₃, S₃, q₃⟩ := h₃
 have st₁₃ := st₁₂.trans st₃.any
 have it₃ := it₂.step S₂.sub S₃.sub st₃ (fun q => nomatch q)
 have ls₃ := ls₂.step st₃ (fun q => nomatch q)
 cases ok with
 | false =>
  rw [if_neg Bool.false_ne_true]
  exact q₃ A s₀ ν₀ g₀ s₃ ν₃ g₃ I D iter scope pos R hA st₁₃ (F₂.step st₃) S₃ hI hD hDI hIL hDL hIF hDF it₃ ls₃ (by clear h q₂ q₃; simp at hz; lia) hR
 | true =>
  rw [if_pos rfl]
  refine seqV (q₃ A s₃ ν₃ g₃ (hA.step st₁₃) (F₂.step st₃) S₃) fun x s₄ ν₄ g₄ σ₄ d₄ st₄ S₄ r₄ q₄ => ?_
  have st₁₄ := st₁₃.trans st₄.any
  have it₄ := it₃.step S₃.sub S₄.sub st₄ (fun q => nomatch q)
  have ls₄ := ls₃.step st₄ (fun q => nomatch q)
  refine append_ls ls₄ r₄ (by clear h q₂ q₃ q₄; simp at hz; lia) fun h₅ hk₅ ls₅ => ?_
  have hIX' : ∀ b o, b ∉ [D] → s₄.heap.get? b = some o → h₅.get? b = some o := hk₅
  have it₅ : ItAt Γ I xs ν₄ g₄ { s₄ with heap := h₅, toks := s₄.toks } := it₄.turn S₄.sub hDI.symm ls₄.off.2 hk₅
  exact q₄ A s₀ ν₀ g₀ _ ν₄ g₄ I D iter scope pos R hA (st₁₄.turn (t := s₄.toks) hD hk₅) ((F₂.step st₃).step st₄ |>.turn hDF hk₅) (S₄.turn (t := s₄.toks) ls₄.off hk₅) hI hD hDI hIL hDL hIF hDF it₅ ls₅ (by clear h q₂ q₃ q₄; simp at hz ⊢; lia) hR
theorem WCp.less {elt target : Expr} {ifs : List Expr} {xs : List PV} {out : List V} {ρ' : Rho} {Q : List V → Sto → Prop} (le : ∀ x d, ρ'.lookup x = some d → ρ.lookup x = some d) (h : WCp Γ n env elt target ifs xs out ρ' σ Q) : WCp Γ n env elt target ifs xs out ρ σ Q :=
 fun A s₀ ν₀ g₀ s ν g I D iter scope pos R hA st F S => h A s₀ ν₀ g₀ s ν g I D iter scope pos R hA st (F.less le) S
theorem WCp.le {elt target : Expr} {ifs : List Expr} {xs : List PV} {out : List V} {σ' : Sto} {Q : List V → Sto → Prop} (le : Sto.le σ' σ) (h : WCp Γ n env elt target ifs xs out ρ σ' Q) : WCp Γ n env elt target ifs xs out ρ σ Q :=
 fun A s₀ ν₀ g₀ s ν g I D iter scope pos R hA st F S => h A s₀ ν₀ g₀ s ν g I D iter scope pos R hA st F (S.le le)
set_option tactic.hygienic true in
theorem LsAt.own {out : List V} {X ν₀ : List Addr} {g₀ : Heap} {s₀ : Shared} (L : LsAt Γ D out ν g s) (S : Sat Γ.prog Γ.w Γ.B σ ν g s) (st : Step X ν₀ g₀ s₀ ν g s) (hD : s₀.heap.get? D = Option.none) :
  Step X ν₀ g₀ s₀ (ν ++ [D]) g s ∧ Sat Γ.prog Γ.w Γ.B (upd σ ν.length (.lst out)) (ν ++ [D]) g s ∧ RepV Γ.prog Γ.w (ν ++ [D]) g (.ref D) (.ref ν.length) := by
 obtain ⟨⟨vs, m, ho, hr⟩, off⟩ := L
 have gr : Grows ν g (ν ++ [D]) g := ⟨fun z' z' e => e, fun i a h => prefix_get (List.prefix_append _ _) i a h⟩
 have cs : ∀ (i : Nat) (a : Addr) (a' : AO), (ν ++ [D])[i]? = some a → upd σ ν.length (.lst out) i = some a' → (ν[i]? = some a ∧ σ i = some a') ∨ (a = D ∧ a' = .lst out) := fun i a a' h1 h2 => by
  unfold upd at h2
  split at h2
  ·rename_i q
   subst q
   cases h2
   rw [List.getElem?_append_right (Nat.le_refl _)] at h1
   simp at h1
   exact .inr ⟨h1.symm, rfl⟩
  ·obtain ⟨b, hb⟩ := S.dom i _ h2
   have := (List.getElem?_eq_some_iff.mp hb).1
   rw [List.getElem?_append_left this] at h1
   exact .inl ⟨h1, h2⟩
 refine ⟨⟨st.keep, st.nf, st.grow, st.newg, st.pre.trans (List.prefix_append _ _), fun b hb => ?_, st.stay, st.rest⟩, ⟨S.base, S.sub, fun a ha => ?_, ?_, fun i ao e => ?_, fun i a ao ha e hl => ?_, fun i a ao ha e => ?_⟩, ⟨D, rfl, by simp⟩⟩
 ·rcases List.mem_append.mp hb with hb | hb
  ·exact st.newν b hb
  ·obtain rfl := List.mem_singleton.mp hb; exact .inr hD
 ·rcases List.mem_append.mp ha with ha | ha
  ·exact S.held a ha
  ·obtain rfl := List.mem_singleton.mp ha; exact ⟨_, ho⟩
 ·exact List.nodup_append.mpr ⟨S.nd, by simp, fun a ha b hb e => by obtain rfl := List.mem_singleton.mp hb; subst e; exact off.1 ha⟩
 ·unfold upd at e
  split at e
  ·rename_i q; subst q; exact ⟨D, by simp⟩
  ·obtain ⟨a, ha⟩ := S.dom i ao e
   exact ⟨a, prefix_get (List.prefix_append _ _) i a ha⟩
 ·rcases cs i a ao ha e with ⟨h1, h2⟩ | ⟨rfl, rfl⟩
  ·exact S.off i a ao h1 h2 hl
  ·exact off.2
 ·rcases cs i a ao ha e with ⟨h1, h2⟩ | ⟨rfl, rfl⟩
  ·obtain ⟨o, ho, r⟩ := S.own i a ao h1 h2
   exact ⟨o, ho, r.mono gr⟩
  ·exact ⟨_, ho, vs, m, rfl, hr.mono fun z' z' h => h.mono gr⟩
end
section
variable {Γ : Cx} {n : Nat} {env : Env} {ρ : Rho} {σ : Sto} {ν ν' : List Addr} {g g' : Heap} {s s' : Shared} {A : Around} {I D C : Addr} {ds : List PV} {d : PV}
theorem comp_core {elt target iter : Expr} {ifs : List Expr} {scope : Scope} {pos p0 : Pos} {use : Option (Value → Sem Unit)} {Qf : Value → Shared → Prop} {E : Value → Shared → Prop} {Q : List V → Sto → Prop} (ok : CompOK scope env)
  (hA : AOK n A ν g s.heap) (F : FrameOK Γ.prog Γ.w env ρ ν g s.heap) (S : Sat Γ.prog Γ.w Γ.B σ ν g s)
  (h : WIt Γ n env iter ρ σ fun xs σ₁ => xs.length ≤ 100000 ∧ ∀ C, WCp Γ n (cenv scope C env) elt target ifs xs [] (compRho scope ρ) σ₁ Q)
  (hend : ∀ D C s' ν' g' σ' out, Step [] ν g s ν' g' s' → Sat Γ.prog Γ.w Γ.B σ' ν' g' s' → LsAt Γ D out ν' g' s' → (∃ m, s'.heap.Ns C m) → C ∉ ν' ∧ g'.get? C = Option.none → s.heap.get? C = Option.none → s.heap.get? D = Option.none → D ≠ C → Q out σ' →
   compPost (model Γ.prog Γ.w) A E use Qf (.ref D) C (.ok .next) s')
  (hs : autoParam (∀ x, foldedSetIterable iter env x = pure x) rfi0S) :
  wpAny (model Γ.prog Γ.w) A (comprehension (.ListComp elt [⟨target, iter, ifs, 0⟩] scope pos) scope env p0 (newList []) false (eval iter env) use) Qf E s := by
 refine wpAny_comprehension_free rfl hs (closureFor_L fun x hx => (ok.free x hx).2.1) ok.kind ok.loc ?_
 refine wpAny_mono (h A s ν g hA F S) (fun x s₁ h₁ => wpAny_mono h₁ (fun it s₂ h₂ => ?_) fun z' z' x => x.elim) fun z' z' x => x.elim
 obtain ⟨I, ν₂, g₂, σ₂, xs, rfl, st, S₂, hI, hit, hz, q⟩ := h₂
 refine wpAny_newObj_type (hd := by size_fits) ?_
 have hDn : s₂.heap.get? s₂.heap.objs.size = Option.none := get?_size _
 generalize hH2 : s₂.heap.push { cls := .type "list", dict := none, data := .seq ([] : List Value).toArray } = H2
 have hDo : H2.get? s₂.heap.objs.size = some (listOf #[] 0) := hH2 ▸ Heap.get?_push_size _ rfl
 have hCn : H2.get? H2.objs.size = Option.none := get?_size _
 have hDC : s₂.heap.objs.size ≠ H2.objs.size := fun e => by rw [← e, hDo] at hCn; cases hCn
 refine wpAny_newFunctionEnv ok.cell (by intro y hy; simp at hy) (fun h₁ hns₁ hsb₁ => ?_) ok.kind
 dsimp only at hns₁ hsb₁ ⊢
 have k2 : HeapLe s₂.heap H2 := fun b o e => hH2 ▸ Heap.get?_push_of_some _ e
 have k3 : HeapLe H2 h₁ := fun b o e => hsb₁.extBut b o (fun q => by subst q; rw [show H2.get? H2.objs.size = some o from e] at hCn; cases hCn) (Heap.get?_push_of_some _ e)
 have kp : HeapLe s₂.heap h₁ := k2.trans k3
 have hC2 : s₂.heap.get? H2.objs.size = Option.none := by
  cases z : s₂.heap.get? H2.objs.size with
  | none => rfl
  | some o => have := k2 _ _ z; rw [hCn] at this; cases this
 have offOf : ∀ b, s₂.heap.get? b = Option.none → b ∉ ν₂ ∧ g₂.get? b = Option.none := fun b hb => by
  refine ⟨fun q => ?_, ?_⟩
  ·obtain ⟨o, ho⟩ := S₂.held b q; rw [hb] at ho; cases ho
  ·cases z : g₂.get? b with
   | none => rfl
   | some o => rw [S₂.sub _ _ z] at hb; cases hb
 have st₃ : Step [] ν₂ g₂ s₂ ν₂ g₂ { s₂ with heap := h₁, toks := s₂.toks + 0 } := .ext kp
 have S₃ : Sat Γ.prog Γ.w Γ.B σ₂ ν₂ g₂ { s₂ with heap := h₁, toks := s₂.toks + 0 } := S₂.ext kp
 have F₂ := F.step st
 have F₃ : FrameOK Γ.prog Γ.w (cenv scope H2.objs.size env) (compRho scope ρ) ν₂ g₂ h₁ := cenv_frame ok F₂ kp hC2 hns₁ (offOf _ hC2)
 have oI := hit.here
 have hI2 : ∃ o, s₂.heap.get? I = some o := let ⟨o, ho, _⟩ := oI; ⟨o, ho⟩
 have hit₃ : ItAt Γ I xs ν₂ g₂ { s₂ with heap := h₁, toks := s₂.toks + 0 } := hit.step S₂.sub S₃.sub st₃ (fun q => nomatch q)
 have hls : LsAt Γ s₂.heap.objs.size [] ν₂ g₂ { s₂ with heap := h₁, toks := s₂.toks + 0 } := ⟨⟨#[], 0, k3 _ _ hDo, .nil⟩, offOf _ hDn⟩
 have hDs : s.heap.get? s₂.heap.objs.size = Option.none := st.stay _ hDn
 have hCs : s.heap.get? H2.objs.size = Option.none := st.stay _ hC2
 have stA : Step [(cenv scope H2.objs.size env).locals] ν g s ν₂ g₂ { s₂ with heap := h₁, toks := s₂.toks + 0 } := (st.trans st₃).any
 have hfr : ∀ b, s.heap.get? b = Option.none → b ≠ H2.objs.size → b ∉ frA (cenv scope H2.objs.size env) := fun b hb hne q => by
  rcases frA_mem q with e | ⟨x, hx⟩
  ·exact hne e
  ·obtain ⟨_, _, _, o, ho⟩ := F.offC x b (cenv_cells ok hx).1
   rw [hb] at ho; cases ho
 have hIC : I ≠ H2.objs.size := fun e => by obtain ⟨o, ho⟩ := hI2; rw [e, hC2] at ho; cases ho
 have hDI : s₂.heap.objs.size ≠ I := fun e => by obtain ⟨o, ho⟩ := hI2; rw [← e, hDn] at ho; cases ho
 have loop : codeAny (model Γ.prog Γ.w) A (.compLoop (.ListComp elt [⟨target, iter, ifs, 0⟩] scope pos) 0 (.ref I) (.ref s₂.heap.objs.size) (cenv scope H2.objs.size env))
   (compPost (model Γ.prog Γ.w) A E use Qf (.ref s₂.heap.objs.size) H2.objs.size) { s₂ with heap := h₁, toks := s₂.toks + 0 } :=
  q H2.objs.size A s ν g _ ν₂ g₂ I _ iter scope pos _ hA stA F₃ S₃ hI hDs hDI hIC hDC (hfr _ hI hIC) (hfr _ hDs hDC) hit₃ hls (by simpa using hz)
   fun s' ν' g' σ' out' st' S' L' hn off q' => hend _ _ s' ν' g' σ' out' (st'.trans' (.refl [] ..) (fun z' h => nomatch h) |> fun x => ⟨fun b o e hb z' => x.keep b o e hb (fun z => by obtain rfl := List.mem_singleton.mp z; rw [show s.heap.get? (cenv scope H2.objs.size env).locals = Option.none from hCs] at e; cases e), x.nf, x.grow, x.newg, x.pre, x.newν, x.stay, x.rest⟩) S' L' hn off hCs hDs hDC q'
 exact codeAny_compStart_list loop (hit₃.self hA.hd loop)
theorem compEnd_none {Qf : Value → Shared → Prop} {E : Value → Shared → Prop} {acc : Value} (hn : ∃ m, s'.heap.Ns C m) (h : ∀ h', (∀ b o, b ∉ [C] → s'.heap.get? b = some o → h'.get? b = some o) → Qf acc { s' with heap := h' }) : compPost (model Γ.prog Γ.w) A E Option.none Qf acc C (.ok .next) s' :=
 let ⟨m, hm⟩ := hn; ⟨m, hm, fun h' hs => h h' fun b o hb e => hs.extBut b o (fun q => hb (List.mem_singleton.mpr q)) e⟩
theorem WE.compO {elt target iter : Expr} {ifs : List Expr} {scope : Scope} {pos : Pos} {Q : V → Sto → Prop} (ok : compOK scope env = true)
  (h : WIt Γ n env iter ρ σ fun xs σ₁ => xs.length ≤ 100000 ∧ ∀ C, WCp Γ n (cenv scope C env) elt target ifs xs [] (compRho scope ρ) σ₁ fun out σ₂ => ∀ i, σ₂ i = Option.none → Q (.ref i) (upd σ₂ i (.lst out)))
  (hs : autoParam (∀ x, foldedSetIterable iter env x = pure x) rfi0S) :
  WE Γ n env (.ListComp elt [⟨target, iter, ifs, 0⟩] scope pos) ρ σ Q := fun A s ν g hA F S => by
 rw [eval_ListComp]
 refine comp_core (.of ok) hA F S h (fun D C s' ν' g' σ' out st S' L hn off hCs hDs hDC q => compEnd_none hn fun h' hk => ?_) hs
 have L' : LsAt Γ D out ν' g' { s' with heap := h', toks := s'.toks } := L.turn hDC hk
 obtain ⟨a, b, c⟩ := L'.own (S'.turn off hk) (st.turn hCs hk) hDs
 exact ⟨_, _, _, _, a, b, c, q _ S'.fresh⟩
theorem upd_upd (σ : Sto) (i : Nat) (a b : AO) : upd (upd σ i a) i b = upd σ i b := by
 funext j; unfold upd; split <;> rfl
set_option tactic.hygienic true in
theorem Sto.le_upd {σ : Sto} {i : Nat} {a : AO} (h : σ i = Option.none) : Sto.le σ (upd σ i a) := fun j ao e => by
 unfold upd
 split
 ·rename_i q; subst q; rw [h] at e; cases e
 ·exact e
inductive CompQ (Q : V → Sto → Prop) (out : List V) (σ : Sto) : Prop
 | mk (ds : List PV) : out = ds.map .t → Q (.t (.lst ds)) σ → CompQ Q out σ
theorem WE.comp {elt target iter : Expr} {ifs : List Expr} {scope : Scope} {pos : Pos} {Q : V → Sto → Prop} (ok : compOK scope env = true)
  (h : WIt Γ n env iter ρ σ fun xs σ₁ => xs.length ≤ 100000 ∧ ∀ C, WCp Γ n (cenv scope C env) elt target ifs xs [] (compRho scope ρ) σ₁ (CompQ Q))
  (hs : autoParam (∀ x, foldedSetIterable iter env x = pure x) rfi0S) :
  WE Γ n env (.ListComp elt [⟨target, iter, ifs, 0⟩] scope pos) ρ σ Q := by
 refine WE.weak (WE.frzL (WE.compO ok (fun A s ν g hA F S => ?_) hs))
 refine wpAny_mono (h A s ν g hA F S) (fun x s₁ h₁ => wpAny_mono h₁ (fun it s₂ h₂ => ?_) fun z' z' x => x) fun z' z' x => x
 obtain ⟨I, ν₂, g₂, σ₂, xs, e, st, S₂, hI, hit, hz, q⟩ := h₂
 refine ⟨I, ν₂, g₂, σ₂, xs, e, st, S₂, hI, hit, hz, fun C => ?_⟩
 intro A s₀ ν₀ g₀ s ν g I D iter scope pos R h1 h2 h3 h4 h5 h6 h7 h8 h9 h10 h11 h12 h13 h14 hR
 refine q C A s₀ ν₀ g₀ s ν g I D iter scope pos R h1 h2 h3 h4 h5 h6 h7 h8 h9 h10 h11 h12 h13 h14 fun s' ν' g' σ' out' st' S' L' hn off q' => hR s' ν' g' σ' out' st' S' L' hn off fun i hi => ?_
 obtain ⟨ds, rfl, q'⟩ := q'
 exact ⟨i, ds, rfl, upd_self .., σ', by rw [upd_upd]; exact Sto.le_upd hi, q'⟩
theorem Ns.stepped {X : List Addr} {m : Str → Option Value} (hn : s.heap.Ns C m) (st : Step X ν g s ν' g' s') (h1 : C ∉ ν) (h2 : C ∉ X) : s'.heap.Ns C m := by
 obtain ⟨o, es, ep, ho, hd, r⟩ := hn
 obtain ⟨o', ho', q⟩ := st.keep _ _ ho h1 h2
 exact ⟨o', es, ep, ho', q.data.trans hd, r⟩
theorem WS.compO {elt target iter : Expr} {ifs : List Expr} {scope : Scope} {pos spos : Pos} {y : Str} {py : Pos} {Q : Fl → Rho → Sto → Prop} (ok : compOK scope env = true)
  (hsw : swapsWith (.ListComp elt [⟨target, iter, ifs, 0⟩] scope pos) (some (.Name y py)) spos.line env = pure true)
  (h : WIt Γ n env iter ρ σ fun xs σ₁ => xs.length ≤ 100000 ∧ ∀ C, WCp Γ n (cenv scope C env) elt target ifs xs [] (compRho scope ρ) σ₁ fun out σ₂ => ∀ i, σ₂ i = Option.none → Q .next (put ρ y (.ref i)) (upd σ₂ i (.lst out)))
  (hk : autoParam (env.kindOf y = some .local) rfl0S)
  (hs : autoParam (∀ x, foldedSetIterable iter env x = pure x) rfi0S) :
  WS Γ n env (.Assign [.Name y py] (.ListComp elt [⟨target, iter, ifs, 0⟩] scope pos) spos) ρ σ Q := fun A s ν g hA hT F S => by
 rw [exec_Assign_Name_used _ _ _ _ hsw]
 refine wpAny_bind (wpAny_standAt (wpAny_bind ?_))
 show wpAny _ A (do let _ ← comprehension (.ListComp elt [⟨target, iter, ifs, 0⟩] scope pos) scope env _ (newList []) false (eval iter env) (some (PySem.assign (.Name y py) env))) _ _ s
 refine wpAny_bind (wpAny_mono (comp_core (E := PostX Γ env ν g s Q) (use := some (PySem.assign (.Name y py) env)) (Qf := fun z' s' => PostS Γ env ν g s Q .next s') (.of ok) hA F S h (fun D C s' ν' g' σ' out st S' L hn off hCs hDs hDC q => ?_) hs) (fun z' s' hq => wpAny_pure (wpAny_pure hq)) fun z' z' e => e)
 show wpAny _ A (PySem.assign (.Name y py) env (.ref D)) _ _ _
 obtain ⟨st₁, S₁, r₁⟩ := L.own S' st hDs
 have hDo : ∃ o, s'.heap.get? D = some o := let ⟨⟨vs, m, ho, _⟩, _⟩ := L; ⟨_, ho⟩
 have hCF : C ∉ frA env := frA_off F hCs
 have hCν : C ∉ ν' ++ [D] := fun q => by
  rcases List.mem_append.mp q with q | q
  ·exact off.1 q
  ·exact hDC (List.mem_singleton.mp q).symm
 refine assign_Name (store_ok (F.step st₁) S₁ (.inl hk) r₁ fun s₂ st₂ F₂ S₂ => ?_)
 obtain ⟨m, hm⟩ := hn
 refine ⟨m, Ns.stepped hm st₂ hCν hCF, fun h₃ hs₃ => ?_⟩
 have hk₃ : ∀ b o, b ∉ [C] → s₂.heap.get? b = some o → h₃.get? b = some o := fun b o hb e => hs₃.extBut b o (fun q => hb (List.mem_singleton.mpr q)) e
 refine ⟨_, _, _, _, ((st₁.any.trans st₂).turn (t := s₂.toks) hCs hk₃), F₂.turn hCF hk₃, S₂.turn (t := s₂.toks) ⟨hCν, off.2⟩ hk₃, q _ S'.fresh⟩
end
end Mine
open Builtin Builtin.ObjectAttr
namespace Mine
structure ClsF (Γ : Cx) (K : Frag) (c : Addr) (cd : ClassData) : Prop where
 in_ : ∀ h, Γ.B.P h → K.In h
 cls : clsIn K c = some cd
 hasD : cd.hasDict = true
 ga : findIn K (.ref c) "__getattribute__" = some (some (.builtin "object.__getattribute__"))
 gt : findIn K (.ref c) "__getattr__" = some Option.none
section
variable {Γ : Cx} {n : Nat} {env : Env} {ρ : Rho} {σ : Sto} {ν ν' : List Addr} {g g' : Heap} {s s' : Shared} {A : Around} {I D C : Addr} {ds : List PV} {d : PV}
variable {K : Frag} {c : Addr} {cd : ClassData}
theorem ent_str {es : List DictEntry} {kvs : List (Key × V)} (hk : KeysOk .S kvs) (hr : All2 (RepVE Γ.prog Γ.w ν g) es kvs) {j : Nat} {e : DictEntry} (he : es[j]? = some e) : ∃ x t v, kvs[j]? = some (.str x, v) ∧ e.key = .str x t ∧ RepV Γ.prog Γ.w ν g e.val v ∧ e.hash = hashStr Γ.w x := by
 obtain ⟨p, hp, r1, r2, r3⟩ := hr.get' j e he
 obtain ⟨k, v⟩ := p
 have hf := hk.1 _ (List.mem_of_getElem? hp)
 cases k with
 | str x => obtain ⟨t, ht⟩ := r1; exact ⟨x, t, v, hp, ht, r3, r2⟩
 | int _ => cases hf
 | tS _ => cases hf
 | tI _ => cases hf
theorem noRef {es : List DictEntry} {kvs : List (Key × V)} (hk : KeysOk .S kvs) (hr : All2 (RepVE Γ.prog Γ.w ν g) es kvs) : es.any (·.refKey) = false := by
 rw [List.any_eq_false]
 intro e he
 obtain ⟨j, hj⟩ := List.getElem?_of_mem he
 obtain ⟨x, t, v, _, h2, _⟩ := ent_str hk hr hj
 simp [DictEntry.refKey, h2]
theorem own_some {es : List DictEntry} {m : Nat} {kvs : List (Key × V)} (hk : KeysOk .S kvs) (hr : All2 (RepVE Γ.prog Γ.w ν g) es kvs) {name : Str} {d : V} (h : kvs.lookup (.str name) = some d) : ∃ v, lookIn name (dictOf es m) = some (some v) ∧ RepV Γ.prog Γ.w ν g v d := by
 obtain ⟨j, hj⟩ := List.getElem?_of_mem (mem_of_lookup_some h)
 obtain ⟨e, he, r1, r2, r3⟩ := hr.get j _ hj
 obtain ⟨t, ht⟩ := r1
 unfold lookIn
 dsimp only
 cases q : es.find? (·.key.isStr name) with
 | none =>
  have := List.find?_eq_none.mp q e (List.mem_of_getElem? he)
  rw [ht] at this
  exact absurd (by simp [Value.isStr]) this
 | some e' =>
  have hm := List.mem_of_find?_eq_some q
  have hp := List.find?_some q
  obtain ⟨i, hi⟩ := List.getElem?_of_mem hm
  obtain ⟨x, t', v', hv', hx, rv, _⟩ := ent_str hk hr hi
  rw [hx] at hp
  have hxn : x = name := by simpa [Value.isStr] using hp
  subst hxn
  have hl : kvs.lookup (.str x) = some v' := lookup_of_get hk.2 hv'
  rw [h] at hl; cases hl
  exact ⟨e'.val, rfl, rv⟩
theorem own_none {es : List DictEntry} {m : Nat} {kvs : List (Key × V)} (hk : KeysOk .S kvs) (hr : All2 (RepVE Γ.prog Γ.w ν g) es kvs) {name : Str} (h : kvs.lookup (.str name) = Option.none) : lookIn name (dictOf es m) = some Option.none := by
 unfold lookIn
 dsimp only
 cases q : es.find? (·.key.isStr name) with
 | none => dsimp only; rw [if_neg (by rw [noRef hk hr]; exact Bool.false_ne_true)]
 | some e' =>
  have hm := List.mem_of_find?_eq_some q
  have hp := List.find?_some q
  obtain ⟨i, hi⟩ := List.getElem?_of_mem hm
  obtain ⟨x, t', v', hv', hx, rv, _⟩ := ent_str hk hr hi
  rw [hx] at hp
  have hxn : x = name := by simpa [Value.isStr] using hp
  subst hxn
  have hl : kvs.lookup (.str x) = some v' := lookup_of_get hk.2 hv'
  rw [h] at hl; cases hl
def ObjV (σ : Sto) (v : V) (c : Addr) (kvs : List (Key × V)) : Prop := match v with
 | .t (.obj c' ds) => c' = c ∧ kvs = ds.map fun p => (p.1, .t p.2)
 | .ref i => ∃ k, σ i = some (.inst c k) ∧ σ k = some (.dct .S kvs)
 | _ => False
theorem ObjV.at_ {v : V} {kvs : List (Key × V)} {x : Value} (h : ObjV σ v c kvs) (S : Sat Γ.prog Γ.w Γ.B σ ν g s) (r : RepV Γ.prog Γ.w ν g x v) :
  ∃ a dx es m, x = .ref a ∧ InstAt s.heap a (instObj c dx) c (some (dictOf es m)) ∧ KeysOk .S kvs ∧ All2 (RepVE Γ.prog Γ.w ν g) es kvs := by
 cases v with
 | t d =>
  cases d with
  | obj c' ds =>
   obtain ⟨rfl, rfl⟩ := h
   obtain ⟨a, dx, es, m, e, h1, h2, hk, hr⟩ := Rep.inv r
   exact ⟨a, dx, es, m, e, ⟨S.sub _ _ h1, rfl, rfl, S.sub _ _ h2⟩, hk.map fun z' => rfl, kvs_repV hr⟩
  | _ => exact h.elim
 | ref i =>
  obtain ⟨a, e, ha⟩ := r
  obtain ⟨k, h1, h2⟩ := h
  obtain ⟨o, ho, dx, hdx, e2⟩ := S.own i a _ ha h1
  obtain ⟨o', ho', z, es, m, e3, hk, hr⟩ := S.own k dx _ hdx h2
  subst e2 e3
  exact ⟨a, dx, es, m, e, ⟨ho, rfl, rfl, ho'⟩, hk, hr⟩
def V.hand : V → Prop
 | .t (.val v) => handedIn v = true
 | _ => True
theorem hand_rep {v : Value} {d : V} (h : RepV Γ.prog Γ.w ν g v d) (hh : d.hand) : handedIn v = true := by
 cases d with
 | ref _ => exact Exists.elim h fun a e => e.1 ▸ rfl
 | t d =>
  replace h := Rep.inv h
  cases d with
  | val u => exact (show v = u from h) ▸ hh
  | int | str => exact Exists.elim h fun t e => e ▸ rfl
  | tup | lst => exact Exists.elim h fun a h => Exists.elim h fun b h => Exists.elim h fun c h => h.1 ▸ rfl
  | dct => exact Exists.elim h fun a h => Exists.elim h fun b h => Exists.elim h fun c h => h.1 ▸ rfl
  | obj => exact Exists.elim h fun a h => Exists.elim h fun b h => Exists.elim h fun c h => Exists.elim h fun d h => h.1 ▸ rfl
  | _ => obtain rfl := h; rfl
inductive AttrQ (Γ : Cx) (name : Str) (Q : V → Sto → Prop) (v : V) (σ₁ : Sto) : Prop
 | mk (K : Frag) (c : Addr) (cd : ClassData) (kvs : List (Key × V)) (d : V) : ObjV σ₁ v c kvs → ClsF Γ K c cd → findIn K (.ref c) name = some Option.none → kvs.lookup (.str name) = some d → d.hand → Q d σ₁ → AttrQ Γ name Q v σ₁
theorem WE.attr {o : Expr} {name : Str} {pos : Pos} {Q : V → Sto → Prop}
  (h : WE Γ n env o ρ σ (AttrQ Γ name Q))
  (he : eval (.Attribute o name pos) env = (do
   let v ← eval o env
   standAt pos.atName
   let r ← holding [v] (getAttr v name true)
   letTemporaryGo o v r
   pure r) := by with_unfolding_all rfl) :
  WE Γ n env (.Attribute o name pos) ρ σ Q := fun A s ν g hA F S => by
 refine Attribute_any_ (seqV (h A s ν g hA F S) fun v s₁ ν₁ g₁ σ₁ d₁ st₁ S₁ r₁ q₁ => ?_) he
 obtain ⟨K, c, cd, kvs, d, ho, H, hn, hl, hd, q⟩ := q₁
 obtain ⟨a, dx, es, m, rfl, Ia, hk, hr⟩ := ho.at_ S₁ r₁
 obtain ⟨u, hu, ru⟩ := own_some (m := m) hk hr hl
 have X : K.In s₁.heap := H.in_ _ (Γ.B.mono _ _ S₁.sub S₁.base)
 refine get_value X Ia H.ga (v := u) ?_ (hand_rep ru hd) ⟨ν₁, g₁, σ₁, d, st₁.trans (.toks rfl ⟨rfl, rfl, rfl⟩), S₁.toks rfl, ru, q⟩
 unfold findObj
 rw [H.cls, Option.bind_some, hn, Option.bind_some, Option.bind_some, Option.bind_some]
 dsimp only
 unfold W.ownOf
 rw [if_pos H.hasD]
 dsimp only
 rw [hu, Option.bind_some]
def SetsF (K : Frag) (c : Addr) (name : Str) : Prop := findIn K (.ref c) "__setattr__" = some (some (.builtin "object.__setattr__")) ∧ plainOver K c = true ∧ takerIn K c name = some Option.none
theorem put_name {es : List DictEntry} {m : Nat} {kvs : List (Key × V)} (hk : KeysOk .S kvs) (hr : All2 (RepVE Γ.prog Γ.w ν g) es kvs) {name : Str} {v : Value} {d : V} {t : Tok} (rv : RepV Γ.prog Γ.w ν g v d) :
  ∃ es' m', Obj.putName name (PyData.keyHash Γ.w.params name) (.str name t) v (dictOf es m) = dictOf es' m' ∧ All2 (RepVE Γ.prog Γ.w ν g) es' (kput kvs (.str name) d) := by
 rw [Obj.putName_eq]
 unfold Obj.putNameByArray
 dsimp only [dictOf]
 rw [List.findIdx?_toArray]
 cases q : es.findIdx? (·.key.isStr name) with
 | some i =>
  obtain ⟨hlt, hp, _⟩ := List.findIdx?_eq_some_iff_getElem.mp q
  have he : es[i]? = some es[i] := List.getElem?_eq_getElem hlt
  obtain ⟨x, t', v', hv', hx, rv', hh⟩ := ent_str hk hr he
  rw [hx] at hp
  have hxn : x = name := by simpa [Value.isStr] using hp
  subst hxn
  refine ⟨es.set i { es[i] with val := v }, m, ?_, ?_⟩
  ·have e : (es.toArray.modify i fun e => { e with val := v }) = (es.set i { es[i] with val := v }).toArray := by
    apply Array.toList_inj.mp
    simpa using modify_set (f := fun e : DictEntry => { e with val := v }) es i he
   dsimp only
   rw [e]
  ·rw [kput_at hk.2 hv']
   exact hr.set i ⟨⟨t', hx⟩, hh, rv⟩
 | none =>
  have hn : Key.str name ∉ kvs.map (·.1) := fun hm => by
   obtain ⟨p, hp, e⟩ := List.mem_map.mp hm
   obtain ⟨j, hj⟩ := List.getElem?_of_mem hp
   obtain ⟨en, hen, r1, _⟩ := hr.get j p hj
   have := List.findIdx?_eq_none_iff.mp q en (List.mem_of_getElem? hen)
   rw [e] at r1
   obtain ⟨t', ht'⟩ := r1
   rw [ht'] at this
   simp [Value.isStr] at this
  refine ⟨es ++ [⟨PyData.keyHash Γ.w.params name, .str name t, v⟩], m + 1, ?_, ?_⟩
  ·simp
  ·rw [kput_new hn]
   exact hr.append (.cons ⟨⟨t, rfl⟩, rfl, rv⟩ .nil)
end
end Mine
open Builtin Builtin.ObjectAttr
namespace Mine
section
variable {Γ : Cx} {n : Nat} {env : Env} {ρ : Rho} {σ : Sto} {ν ν' : List Addr} {g g' : Heap} {s s' : Shared} {A : Around} {I D C : Addr} {ds : List PV} {d : PV}
variable {K : Frag} {c : Addr} {cd : ClassData}
theorem set_attr {i k : Nat} {kvs : List (Key × V)} {name : Str} {v : Value} {d : V} {x : Value} {E : Value → Shared → Prop} {Q : Unit → Shared → Prop} (S : Sat Γ.prog Γ.w Γ.B σ ν g s) (hi : σ i = some (.inst c k)) (hk : σ k = some (.dct .S kvs)) (H : ClsF Γ K c cd) (hs : SetsF K c name)
  (rx : RepV Γ.prog Γ.w ν g x (.ref i)) (rv : RepV Γ.prog Γ.w ν g v d) (hz : kvs.length ≤ 900)
  (h : ∀ h' t, Step [] ν g s ν g { s with heap := h', toks := t } → Sat Γ.prog Γ.w Γ.B (upd σ k (.dct .S (kput kvs (.str name) d))) ν g { s with heap := h', toks := t } → Q () { s with heap := h', toks := t }) :
  wpAny (model Γ.prog Γ.w) A (setAttr x name v) Q E s := by
 obtain ⟨a, rfl, ha⟩ := rx
 obtain ⟨o, ho, dx, hdx, e2⟩ := S.own i a _ ha hi
 obtain ⟨o', ho', z, es, m, e3, hko, hr⟩ := S.own k dx _ hdx hk
 subst e2 e3
 have X : K.In s.heap := H.in_ _ (Γ.B.mono _ _ S.sub S.base)
 have Ia : InstAt s.heap a (instObj c dx) c (some (dictOf es m)) := ⟨ho, rfl, rfl, ho'⟩
 refine set_plain X Ia hs.1 ?_
 refine osa_open (s := { s with toks := s.toks + 1 }) X Ia hs.2.1 hs.2.2 fun b => ?_
 refine wpAny_bind (wpAny_pure (wpAny_bind (wpAny_bind (wpAny_loadPart ho (wpAny_bind ((looks_clsIn (h := { s with toks := s.toks + 1 }.heap) X H.cls).here ?_))))))
 rw [H.hasD]
 refine wpAny_pure (a := some dx) (wpAny_bind (wpAny_pure (wpAny_bind ?_)))
 unfold nsSet
 refine wpAny_bind (wpAny_bind (wpAny_askSetting (wpAny_pure (wpAny_bind (wpAny_mkText (wpAny_bind (wpAny_loadPart ho' ?_)))))))
 dsimp only
 have cc : (!es.toArray.any (·.key.isStr name) && es.toArray.any (·.refKey)) = false := by
  have : es.toArray.any (·.refKey) = false := by simpa using noRef hko hr
  rw [this, Bool.and_false]
 rw [aRefKeyMayBeTheName_at, cc]
 obtain ⟨es', m', e', hr'⟩ := put_name (m := m) (name := name) (t := s.toks + 1) hko hr rv
 have hsz : es'.length = (kput kvs (.str name) d).length := hr'.length
 have hlen : (kput kvs (.str name) d).length ≤ kvs.length + 1 := by
  have h1 : ((kput kvs (.str name) d).map (·.1)).length = (if Key.str name ∈ kvs.map (·.1) then kvs.map (·.1) else kvs.map (·.1) ++ [Key.str name]).length := by rw [kput_keys]
  rw [List.length_map] at h1
  rw [h1]
  split <;> simp
 have D' : (s.heap.update dx (Obj.putName name (PyData.keyHash Γ.w.params name) (.str name (s.toks + 1)) v)).get? dx = some (dictOf es' m') := by
  rw [Heap.get?_update_self _ ho' (by rw [e']; rfl), e']
 refine wpAny_updatePart ho' ?_
 refine wpAny_bind (wpAny_lookBehind D' (pastItsLine_dict (by rw [List.size_toArray, sizeLine_eq]; lia)) ?_)
 obtain ⟨st, S'⟩ := S.setO (t := s.toks + 1 + 1) (ao' := .dct .S (kput kvs (.str name) d)) hdx hk rfl (Heap.SameBut.update _ _ _) D' ⟨z, es', m', rfl, kput_ok hko rfl, hr'⟩
 exact wpAny_pure (h _ _ st S')
inductive SetQ (Γ : Cx) (name : Str) (d : V) (ρ : Rho) (Q : Fl → Rho → Sto → Prop) (ov : V) (σ₂ : Sto) : Prop
 | mk (K : Frag) (c : Addr) (cd : ClassData) (i k : Nat) (kvs : List (Key × V)) : ov = .ref i → σ₂ i = some (.inst c k) → σ₂ k = some (.dct .S kvs) → ClsF Γ K c cd → SetsF K c name → kvs.length ≤ 900 → Q .next ρ (upd σ₂ k (.dct .S (kput kvs (.str name) d))) → SetQ Γ name d ρ Q ov σ₂
theorem WS.setAttr {o value : Expr} {name : Str} {pos' pos : Pos} {Q : Fl → Rho → Sto → Prop}
  (h : WE Γ n env value ρ σ fun d σ₁ => WE Γ n env o ρ σ₁ (SetQ Γ name d ρ Q))
  (hs : autoParam (swapsWith value (some (.Attribute o name pos')) pos.line env = pure false) rfl0S) : WS Γ n env (.Assign [.Attribute o name pos'] value pos) ρ σ Q := fun A s ν g hA hT F S => by
 refine plainObj_wpAny_Assign_Attribute (seqV (h A s ν g hA F S) fun v s₁ ν₁ g₁ σ₁ d₁ st₁ S₁ r₁ q₁ => seqV (q₁ A s₁ ν₁ g₁ (hA.step st₁) (F.step st₁) S₁) fun ov s₂ ν₂ g₂ σ₂ d₂ st₂ S₂ r₂ q₂ => ?_) hs
 obtain ⟨K, c, cd, i, k, kvs, rfl, hi, hk, H, hset, hz, q⟩ := q₂
 refine set_attr S₂ hi hk H hset r₂ (st₂.rep r₁) hz fun h' t st S' => ?_
 have st' := (st₁.trans st₂).trans st
 exact ⟨ν₂, g₂, _, ρ, st'.any, F.step st', S', q⟩
inductive MethQ (Γ : Cx) (name : Str) (P : Addr → V → Sto → Prop) (v : V) (σ₁ : Sto) : Prop
 | mk (K : Frag) (c : Addr) (cd : ClassData) (kvs : List (Key × V)) (f : Addr) : ObjV σ₁ v c kvs → ClsF Γ K c cd → findIn K (.ref c) name = some (some (.ref f)) → typeIn K (.ref f) = some (.type "function") → keepIn K (.ref f) = true → kvs.lookup (.str name) = Option.none → P f v σ₁ → MethQ Γ name P v σ₁
theorem callee_fn {K : Frag} {f : Addr} (hin : ∀ h, Γ.B.P h → K.In h) (hk : keepIn K (.ref f) = true) : Callee Γ (.ref f) := fun h hP => keeps_K hk h (hin h hP)
theorem WE.meth {o e : Expr} {name : Str} {apos pos : Pos} {es : List Expr} {Q : V → Sto → Prop} (pl : Sem Bool)
  (h : WE Γ n env o ρ σ (MethQ Γ name fun f v σ₁ => WEs Γ n env pos (e :: es) ρ σ₁ fun vs σ₂ => WC Γ n (.ref f) (v :: vs) σ₂ Q))
  (hplain : autoParam ((backTo pos (starEach es env)).any (·.1) = false) rfl0S) (hs : autoParam (starEach (e :: es) env = (false, eval e env) :: starEach es env) rfl0S)
  (he : autoParam (eval (.Call (.Attribute o name apos) (e :: es) [] pos) env = (do
   let ov ← eval o env
   standAt apos.atName
   let (f, first) ← holding [ov] (getMethod ov name pl)
   callWith pos f first (backTo pos (starEach (e :: es) env)) [])) rfl0S) :
  WE Γ n env (.Call (.Attribute o name apos) (e :: es) [] pos) ρ σ Q := fun A s ν g hA F S => by
 refine MethodCall_ (pl := pl) (seqV (h A s ν g hA F S) fun v s₁ ν₁ g₁ σ₁ d₁ st₁ S₁ r₁ q₁ => ?_) he
 obtain ⟨K, c, cd, kvs, f, ho, H, hf, ht, hkp, hl, q⟩ := q₁
 obtain ⟨a, dx, es', m, rfl, Ia, hk, hr⟩ := ho.at_ S₁ r₁
 have X : K.In s₁.heap := H.in_ _ (Γ.B.mono _ _ S₁.sub S₁.base)
 refine method_fn X Ia H.ga H.gt hf ht (by show (lookIn name (dictOf es' m)).map _ = _; rw [own_none hk hr hl]; rfl) ?_
 have h₀ := q A s₁ ν₁ g₁ (hA.step st₁) (F.step st₁) S₁
 rw [hs] at h₀ ⊢
 refine callWith_of (P := Γ.B.P) (by show ((false || (backTo pos (starEach es env)).any (·.1)) || false) = false; rw [hplain]; rfl) (fun h hP => callee_fn H.in_ hkp h hP) (Calls.evalArgs_plain ?_)
 refine seqVs h₀ fun vs s₂ ν₂ g₂ σ₂ ds st₂ S₂ r₂ q₂ => ⟨Γ.B.mono _ _ S₂.sub S₂.base, ?_⟩
 have st := st₁.trans st₂
 exact wpAny_mono (q₂ A s₂ ν₂ g₂ _ (hA.step st) S₂ (.cons (st₂.rep r₁) r₂)) (fun v s₃ x => x.tr st) fun z' z' x => x.elim
theorem WE.meth0 {o : Expr} {name : Str} {apos pos : Pos} {Q : V → Sto → Prop} (pl : Sem Bool)
  (h : WE Γ n env o ρ σ (MethQ Γ name fun f v σ₁ => WC Γ n (.ref f) [v] σ₁ Q))
  (he : autoParam (eval (.Call (.Attribute o name apos) [] [] pos) env = (do
   let ov ← eval o env
   standAt apos.atName
   let (f, first) ← holding [ov] (getMethod ov name pl)
   callWith pos f first (backTo pos (starEach [] env)) [])) rfl0S) :
  WE Γ n env (.Call (.Attribute o name apos) [] [] pos) ρ σ Q := fun A s ν g hA F S => by
 refine MethodCall_ (pl := pl) (seqV (h A s ν g hA F S) fun v s₁ ν₁ g₁ σ₁ d₁ st₁ S₁ r₁ q₁ => ?_) he
 obtain ⟨K, c, cd, kvs, f, ho, H, hf, ht, hkp, hl, q⟩ := q₁
 obtain ⟨a, dx, es', m, rfl, Ia, hk, hr⟩ := ho.at_ S₁ r₁
 have X : K.In s₁.heap := H.in_ _ (Γ.B.mono _ _ S₁.sub S₁.base)
 refine method_fn X Ia H.ga H.gt hf ht (by show (lookIn name (dictOf es' m)).map _ = _; rw [own_none hk hr hl]; rfl) ?_
 refine callWith_of (P := Γ.B.P) rfl (fun h hP => callee_fn H.in_ hkp h hP) (evalArgs_nil3 ⟨Γ.B.mono _ _ S₁.sub S₁.base, ?_⟩)
 exact wpAny_mono (q A s₁ ν₁ g₁ _ (hA.step st₁) S₁ (.cons r₁ .nil)) (fun v s₃ x => x.tr st₁) fun z' z' x => x.elim
theorem AOK.under {rest : List Value} {kw : List (Str × Value)} {h : Heap} (x : AOK (n + 1) A ν g h) : AOK n (A.under (.builtin "type.__call__" ⟨.ref c :: rest, kw⟩)) ν g h := by
 obtain ⟨hd, dp, un, l, hl, hr⟩ := x
 refine ⟨hd, ?_, ?_, ⟨l, ?_, hr⟩⟩
 ·show A.depth + 1 + n < _; lia
 ·show A.units + 1 + 4 * n + 200 < _; lia
 ·obtain ⟨a1, a2, a3, a4, a5⟩ := A
  dsimp only at hl
  subst hl
  rfl
theorem WC.cls {fI : Addr} {vs : List V} {Q : V → Sto → Prop} (H : ClsF Γ K c cd) (hm : makesIn K c = true) (hi : findIn K (.ref c) "__init__" = some (some (.ref fI))) (hf : typeIn K (.ref fI) = some (.type "function"))
  (h : ∀ i k, σ i = Option.none → σ k = Option.none → i ≠ k → WCc Γ n (.ref fI) (.ref i :: vs) (upd (upd σ k (.dct .S [])) i (.inst c k)) fun r σ' => r = .t .none ∧ Q (.ref i) σ') :
  WCc Γ (n + 1) (.ref c) vs σ Q := fun A s ν g xs hA S r => by
 have X : K.In s.heap := H.in_ _ (Γ.B.mono _ _ S.sub S.base)
 obtain ⟨hh, gg, d, t, os⟩ := s
 refine make_core (makes_of X hm) (looks_findIn X hi) (fun self => bind_fn X self hf) (.inl rfl) ?_
 obtain ⟨st₁, S₁⟩ := S.allocO (t := t) (ao := .dct .S []) emptyDict rfl ⟨S.low, [], 0, rfl, ⟨fun z' h => (nomatch h), List.Pairwise.nil⟩, All2.nil⟩
 have hsz : (hh.push emptyDict).objs.size = hh.objs.size + 1 := Heap.size_push ..
 obtain ⟨st₂, S₂⟩ := S₁.allocO (t := t) (ao := .inst c ν.length) (instObj c hh.objs.size) rfl ⟨hh.objs.size, by simp, rfl⟩
 have st := st₁.trans st₂
 have hi1 : σ ν.length = Option.none := S.fresh
 have hi2 : σ (ν.length + 1) = Option.none := by
  cases q : σ (ν.length + 1) with
  | none => rfl
  | some ao =>
   obtain ⟨a, ha⟩ := S.dom _ _ q
   have := (List.getElem?_eq_some_iff.mp ha).1
   lia
 have hl : (ν ++ [hh.objs.size]).length = ν.length + 1 := by simp
 have hx : RepV Γ.prog Γ.w ((ν ++ [hh.objs.size]) ++ [(hh.push emptyDict).objs.size]) g (.ref (hh.objs.size + 1)) (.ref (ν.length + 1)) := ⟨hh.objs.size + 1, rfl, by rw [hsz]; simp⟩
 refine codeAny_mono (h (ν.length + 1) ν.length hi2 hi1 (by lia) (A.under _) _ _ g (.ref (hh.objs.size + 1) :: xs) (AOK.under (hA.step st)) (by rw [hl] at S₂; exact S₂) (.cons hx (st.reps r))) fun r s' hr => ?_
 rcases r with e | (v | _ | _ | _) <;> first | exact hr.elim | skip
 obtain ⟨ν', g', σ', d', st', S', r', rfl, q⟩ := hr
 obtain rfl : v = .none := Rep.inv r'
 exact ⟨rfl, ν', g', σ', .ref (ν.length + 1), st.trans st', S', st'.rep (d := .ref (ν.length + 1)) hx, q⟩
end
end Mine
open Builtin Builtin.ObjectAttr
namespace Mine
theorem All2.take {α β : Type} {R : α → β → Prop} {l : List α} {m : List β} (r : All2 R l m) (i : Nat) : All2 R (l.take i) (m.take i) := by
 induction r generalizing i with
 | nil => cases i <;> exact .nil
 | cons x _ ih => cases i with
  | zero => exact .nil
  | succ i => exact .cons x (ih i)
theorem All2.drop {α β : Type} {R : α → β → Prop} {l : List α} {m : List β} (r : All2 R l m) (i : Nat) : All2 R (l.drop i) (m.drop i) := by
 induction r generalizing i with
 | nil => cases i <;> exact .nil
 | cons x r ih => cases i with
  | zero => exact .cons x r
  | succ i => exact ih i
section
variable {Γ : Cx} {n : Nat} {env : Env} {ρ : Rho} {σ : Sto} {ν ν' : List Addr} {g g' : Heap} {s s' : Shared} {A : Around} {I D C : Addr} {ds : List PV} {d : PV}
def BTy (Γ : Cx) (T : String) (σ : Sto) (v : V) : Prop := ∀ ν g s x, Sat Γ.prog Γ.w Γ.B σ ν g s → RepV Γ.prog Γ.w ν g x v → s.TypeIs x T ∧ (∀ a, x = .ref a → ∃ ob, s.heap.get? a = some ob ∧ ob.dict = Option.none)
theorem BTy.lst {v : V} {xs : List V} (h : LstV σ v xs) : BTy Γ "list" σ v := fun ν g s x S r => by
 obtain ⟨a, vs, k, rfl, ho, hr⟩ := h.at_ S r
 exact ⟨⟨_, ho, rfl⟩, fun b e => by cases e; exact ⟨_, ho, rfl⟩⟩
theorem BTy.dct {v : V} {f : Fla} {kvs : List (Key × V)} (h : DctV σ v f kvs) : BTy Γ "dict" σ v := fun ν g s x S r => by
 obtain ⟨a, es, k, rfl, z, ho, hk, hr⟩ := h.at_ S r
 exact ⟨⟨_, ho, rfl⟩, fun b e => by cases e; exact ⟨_, ho, rfl⟩⟩
theorem WE.methB {o e : Expr} {name : Str} {apos pos : Pos} {es : List Expr} {T id : String} {Q : V → Sto → Prop} (pl : Sem Bool) (pa : PlainAttrs T) (slot : Slot T name id) (hty : typeOf (.builtin id) = pure (.type "method_descriptor"))
  (h : WE Γ n env o ρ σ fun v σ₁ => BTy Γ T σ₁ v ∧ WEs Γ n env pos (e :: es) ρ σ₁ fun vs σ₂ => WC Γ n (.builtin id) (v :: vs) σ₂ Q)
  (hplain : autoParam ((backTo pos (starEach es env)).any (·.1) = false) rfl0S) (hs : autoParam (starEach (e :: es) env = (false, eval e env) :: starEach es env) rfl0S)
  (he : autoParam (eval (.Call (.Attribute o name apos) (e :: es) [] pos) env = (do
   let ov ← eval o env
   standAt apos.atName
   let (f, first) ← holding [ov] (getMethod ov name pl)
   callWith pos f first (backTo pos (starEach (e :: es) env)) [])) rfl0S) :
  WE Γ n env (.Call (.Attribute o name apos) (e :: es) [] pos) ρ σ Q := fun A s ν g hA F S => by
 refine MethodCall_ (pl := pl) (seqV (h A s ν g hA F S) fun v s₁ ν₁ g₁ σ₁ d₁ st₁ S₁ r₁ q₁ => ?_) he
 obtain ⟨hT, q⟩ := q₁
 obtain ⟨h1, h2⟩ := hT _ _ _ _ S₁ r₁
 refine getMethod_builtin h1 pa slot hty h2 ?_
 refine callWith_method1 ?_ hs hplain
 refine seqVs (q A s₁ ν₁ g₁ (hA.step st₁) (F.step st₁) S₁) fun vs s₂ ν₂ g₂ σ₂ ds st₂ S₂ r₂ q₂ => ?_
 have st := st₁.trans st₂
 exact wpAny_mono (q₂ A s₂ ν₂ g₂ _ (hA.step st) S₂ (.cons (st₂.rep r₁) r₂)) (fun v s₃ x => x.tr st) fun z' z' x => x.elim
theorem w_append {i : Nat} {xs : List V} {v : V} {Q : V → Sto → Prop} (hi : σ i = some (.lst xs)) (hz : xs.length ≤ 100000) (h : Q (.t .none) (upd σ i (.lst (xs ++ [v])))) : WC Γ n (.builtin "list.append") [.ref i, v] σ Q := fun A s ν g ys hA S r => by
 obtain ⟨x, y, rfl, ⟨a, rfl, ha⟩, r2⟩ := r.inv2
 obtain ⟨o, ho, vs, m, rfl, hr⟩ := S.own i a _ ha hi
 have hsz : vs.size = xs.length := by have := hr.length; simpa using this
 refine wpAny_call_entry slot_list_append ⟨_, ho, rfl⟩ entry_list_append ?_ (args_list_append _ _)
 show wpAny _ _ (updateSeq a (·.push y) >>= fun z' => PySem.ret .none) _ _ s
 refine wpAny_bind (wpAny_updateSeq ho rfl (hz := by rw [sizeLine_eq]; lia) (wpAny_pure ⟨.none, rfl, ?_⟩))
 obtain ⟨st, S'⟩ := S.setO (t := s.toks) (ao' := .lst (xs ++ [v])) ha hi rfl (Heap.SameBut.update _ _ _) (Heap.get?_update_self (Obj.mapSeq (·.push y)) ho rfl) ⟨vs.push y, _, rfl, by rw [Array.toList_push]; exact hr.append (.cons r2 .nil)⟩
 exact ⟨ν, g, _, .t .none, st, S', Rep.none, h⟩
theorem w_insert {i : Nat} {k : Int} {xs : List V} {v : V} {Q : V → Sto → Prop} (hi : σ i = some (.lst xs)) (h0 : 0 ≤ k) (hk : k ≤ xs.length) (hz : xs.length ≤ 100000) (h : Q (.t .none) (upd σ i (.lst (xs.take k.toNat ++ v :: xs.drop k.toNat)))) : WC Γ n (.builtin "list.insert") [.ref i, .t (.int k), v] σ Q := fun A s ν g ys hA S r => by
 obtain ⟨x, y, z, rfl, ⟨a, rfl, ha⟩, r2, r3⟩ := r.inv3
 obtain ⟨t, rfl⟩ := Rep.int_inv r2
 obtain ⟨o, ho, vs, m, rfl, hr⟩ := S.own i a _ ha hi
 have hsz : vs.size = xs.length := by have := hr.length; simpa using this
 have hfit : ¬ (!Builtin.List.listFitsIndex k) = true := by
  have := fitsIndex_of h0 (show k < 2 ^ 63 by lia)
  simpa using this
 refine call_meets PySem.F.slot_list_insert ⟨_, ho, rfl⟩ PySem.F.entry_list_insert (PySem.F.args_list_insert_3 _ _ _) (AutoSeq1.list_insert_list_int_val_1 a vs m k t z hfit (by rw [sizeLine_eq]; lia)) ⟨ho, ?_⟩
 obtain ⟨st, S'⟩ := S.setO (t := s.toks) (ao' := .lst (xs.take k.toNat ++ v :: xs.drop k.toNat)) ha hi rfl (Heap.SameBut.update _ _ _) (Heap.get?_update_self (Obj.mapSeq fun xs => have k := if k < 0 then (k + (xs.size : Int)).toNat else min k.toNat xs.size; (xs.extract 0 k).push z ++ xs.extract k) ho rfl) ⟨_, _, rfl, by
   have e : (if k < 0 then (k + (vs.size : Int)).toNat else min k.toNat vs.size) = k.toNat := by rw [if_neg (by lia)]; lia
   simp only [e]
   rw [Array.toList_append, Array.toList_push]
   have e1 : (vs.extract 0 k.toNat).toList = vs.toList.take k.toNat := by simp
   have e2 : (vs.extract k.toNat).toList = vs.toList.drop k.toNat := by
    simp only [Array.toList_extract, List.extract_eq_take_drop]
    rw [List.take_of_length_le]
    simp
   rw [e1, e2, List.append_assoc]
   exact (All2.take hr k.toNat).append (.cons r3 (All2.drop hr k.toNat))⟩
 exact ⟨ν, g, _, .t .none, st, S', Rep.none, h⟩
end
end Mine
open Builtin Builtin.ObjectAttr
namespace Mine
noncomputable def idxI (xs : List Int) (x : Int) : Nat := match xs with
 | [] => 0
 | y :: r => if y = x then 0 else idxI r x + 1
theorem idxI_cons (y : Int) (r : List Int) (x : Int) : idxI (y :: r) x = if y = x then 0 else idxI r x + 1 := rfl
theorem idxI_lt {x : Int} {xs : List Int} (h : x ∈ xs) : idxI xs x < xs.length := by
 induction xs with
 | nil => cases h
 | cons y r ih =>
  rw [idxI_cons]
  by_cases e : y = x
  ·rw [if_pos e]; exact Nat.zero_lt_succ _
  ·rw [if_neg e]; exact Nat.succ_lt_succ (ih ((List.mem_cons.mp h).elim (fun q => absurd q.symm e) id))
theorem idxI_at {x : Int} {xs : List Int} (h : x ∈ xs) : xs[idxI xs x]? = some x := by
 induction xs with
 | nil => cases h
 | cons y r ih =>
  rw [idxI_cons]
  by_cases e : y = x
  ·rw [if_pos e, e]; rfl
  ·rw [if_neg e]; exact ih ((List.mem_cons.mp h).elim (fun q => absurd q.symm e) id)
theorem idxI_no {x : Int} {xs : List Int} (j : Nat) (h : j < idxI xs x) : xs[j]? ≠ some x := by
 induction xs generalizing j with
 | nil => cases h
 | cons y r ih =>
  rw [idxI_cons] at h
  by_cases e : y = x
  ·rw [if_pos e] at h; cases h
  ·rw [if_neg e] at h
   cases j with
   | zero => exact fun q => e (Option.some.inj q)
   | succ j => exact ih j (Nat.lt_of_succ_lt_succ h)
section
variable {Γ : Cx} {n : Nat} {env : Env} {ρ : Rho} {σ : Sto} {ν ν' : List Addr} {g g' : Heap} {s s' : Shared} {A : Around} {I D C : Addr} {ds : List PV} {d : PV}
theorem w_index {xs : List Int} {x : Int} {v : V} {Q : V → Sto → Prop} (hv : LstV σ v (xs.map fun i => .t (.int i))) (hx : x ∈ xs) (hz : xs.length ≤ 100000) (h : Q (.t (.int (idxI xs x))) σ) : WC Γ n (.builtin "list.index") [v, .t (.int x)] σ Q := fun A s ν g ys hA S r => by
 obtain ⟨y, z, rfl, r1, r2⟩ := r.inv2
 obtain ⟨t, rfl⟩ := Rep.int_inv r2
 obtain ⟨a, vs, m, rfl, ho, hr⟩ := hv.at_ S r1
 have hsz : vs.size = xs.length := by have := hr.length; simpa using this
 have item : ∀ j (hj : j < vs.size), ∃ i t, xs[j]? = some i ∧ vs[j] = .int i t := fun j hj => by
  obtain ⟨b, hb, rb⟩ := hr.get' j vs[j] (by simp [hj])
  rw [List.getElem?_map] at hb
  cases q : xs[j]? with
  | none => rw [q] at hb; cases hb
  | some i =>
   rw [q] at hb; cases hb
   obtain ⟨t, ht⟩ := Rep.int_inv rb
   exact ⟨i, t, rfl, ht⟩
 have hj := idxI_lt hx
 have hj' : idxI xs x < vs.size := by lia
 refine call_meets PySem.F.slot_list_index ⟨_, ho, rfl⟩ PySem.F.entry_list_index (PySem.F.args_list_index_2 _ _) (MeetsSeq.list_index a vs m (.int x t) (fun y => match y with | .int i _ => i == x | _ => false) (fun y hy => ?_) (idxI xs x) hj' (by lia) ?_ fun k hk hlt => ?_) ⟨ho, ?_⟩
 ·obtain ⟨k, hk, rfl⟩ := Array.mem_iff_getElem.mp hy
  obtain ⟨i, u, _, e⟩ := item k hk
  rw [e]
  exact MeetsSeq.EqGives.int _ _ _ _
 ·obtain ⟨i, u, hi, e⟩ := item _ hj'
  rw [idxI_at hx] at hi; cases hi
  rw [e]; simp
 ·obtain ⟨i, u, hi, e⟩ := item k hk
  rw [e]
  have := idxI_no (x := x) (xs := xs) k hlt
  rw [hi] at this
  simpa using this
 ·exact ⟨ν, g, σ, .t (.int _), .toks rfl ⟨rfl, rfl, rfl⟩, S.toks rfl, Rep.int _ _, h⟩
theorem w_str {i : Int} {Q : V → Sto → Prop} (hi : i.natAbs < 1000000) (h : Q (.t (.str (Str.ofString (toString i)))) σ) : WC Γ n (.type "str") [.t (.int i)] σ Q := fun A s ν g ys hA S r => by
 obtain ⟨y, rfl, r1⟩ := r.inv1
 obtain ⟨t, rfl⟩ := Rep.int_inv r1
 refine P.str_of_int ?_ ⟨ν, g, σ, .t (.str _), .toks rfl ⟨rfl, rfl, rfl⟩, S.toks rfl, Rep.str _ _, h⟩
 by_cases q : i.natAbs = 0
 ·rw [q]; decide
 ·exact Nat.lt_trans ((Nat.log2_lt q).mpr (Nat.lt_of_lt_of_le hi (by decide : 1000000 ≤ 2 ^ 20))) (by decide)
theorem w_max {a b : Int} {Q : V → Sto → Prop} (h : Q (.t (.int (max a b))) σ) : WC Γ n (.builtin "max") [.t (.int a), .t (.int b)] σ Q := fun A s ν g ys hA S r => by
 obtain ⟨x, y, rfl, r1, r2⟩ := r.inv2
 obtain ⟨t, rfl⟩ := Rep.int_inv r1
 obtain ⟨u, rfl⟩ := Rep.int_inv r2
 refine max_two_ints hA.hd fun h' tk hk => ?_
 have st : Step [] ν g s ν g { s with heap := h', toks := tk } := .ext hk
 have S' := S.ext (t := tk) hk
 by_cases hc : b > a
 ·rw [if_pos hc]
  rw [show max a b = b by lia] at h
  exact ⟨ν, g, σ, .t (.int _), st, S', Rep.int _ _, h⟩
 ·rw [if_neg hc]
  rw [show max a b = a by lia] at h
  exact ⟨ν, g, σ, .t (.int _), st, S', Rep.int _ _, h⟩
theorem w_list {v : V} {xs : List PV} {Q : V → Sto → Prop} (hv : LstV σ v (xs.map .t)) (hz : xs.length ≤ 100000) (h : Q (.t (.lst xs)) σ) : WC Γ n (.type "list") [v] σ Q := fun A s ν g ys hA S r => by
 obtain ⟨y, rfl, r1⟩ := r.inv1
 obtain ⟨a, vs, m, rfl, ho, hr⟩ := hv.at_ S r1
 have hsz : vs.size = xs.length := by have := hr.length; simpa using this
 refine call_list_seq (hsz := by rw [sizeLine_eq]; lia) a (.inl rfl) ho rfl rfl fun h' c' hk hD => ?_
 have kp : HeapLe s.heap h' := hk
 have st : Step [] ν g s ν g { s with heap := h', toks := s.toks } := .ext kp
 have S' := S.ext (t := s.toks) kp
 have hn : s.heap.get? s.heap.objs.size = Option.none := get?_size _
 have off : g.get? s.heap.objs.size = Option.none := by
  cases q : g.get? s.heap.objs.size with
  | none => rfl
  | some o => have := S.sub _ _ q; rw [hn] at this; cases this
 have offν : s.heap.objs.size ∉ ν := fun q => by obtain ⟨o, ho⟩ := S.held _ q; rw [hn] at ho; cases ho
 have L : LsAt Γ s.heap.objs.size (xs.map .t) ν g { s with heap := h', toks := s.toks } := ⟨⟨vs, c', hD, hr⟩, offν, off⟩
 obtain ⟨st₁, S₁, r₁⟩ := L.own S' st hn
 obtain ⟨g₂, st₂, S₂⟩ := freezeL S₁ (upd_self ..)
 refine ⟨_, g₂, σ, .t (.lst xs), st₁.trans st₂, S₂.le ?_, frz_rep S₂ (upd_self ..) (st₂.rep r₁), h⟩
 rw [upd_upd]
 exact Sto.le_upd S.fresh
theorem w_isstr {x : Str} {Q : V → Sto → Prop} (h : Q (.t (.bool true)) σ) : WC Γ n (.builtin "isinstance") [.t (.str x), .t (.val (.type "str"))] σ Q := fun A s ν g ys hA S r => by
 obtain ⟨y, z, rfl, r1, r2⟩ := r.inv2
 obtain ⟨t, rfl⟩ := Rep.str_inv r1
 obtain rfl : z = .type "str" := Rep.inv r2
 exact call_isinstance_yes (Tx := "str") rfl (by first | rfl | kernel_rfl) (by rw [isSubtype_type]; kernel_rfl) ⟨ν, g, σ, .t (.bool _), .refl .., S, Rep.bool _, h⟩
theorem w_isstr_no {x : Int} {Q : V → Sto → Prop} (h : Q (.t (.bool false)) σ) : WC Γ n (.builtin "isinstance") [.t (.int x), .t (.val (.type "str"))] σ Q := fun A s ν g ys hA S r => by
 obtain ⟨y, z, rfl, r1, r2⟩ := r.inv2
 obtain ⟨t, rfl⟩ := Rep.int_inv r1
 obtain rfl : z = .type "str" := Rep.inv r2
 exact call_isinstance (isinstance_false_int (by decide) (by first | rfl | kernel_rfl) (by rw [isSubtype_type]; kernel_rfl)) ⟨ν, g, σ, .t (.bool _), .toks rfl ⟨rfl, rfl, rfl⟩, S.toks rfl, Rep.bool _, h⟩
end
end Mine
open Builtin Builtin.ObjectAttr
namespace Mine
section
variable {Γ : Cx} {n : Nat} {env : Env} {ρ : Rho} {σ : Sto} {ν ν' : List Addr} {g g' : Heap} {s s' : Shared} {A : Around} {I D C : Addr} {ds : List PV} {d : PV}
theorem WS.delSub {o i : Expr} {p pos : Pos} {Q : Fl → Rho → Sto → Prop}
  (h : WE Γ n env o ρ σ fun ov σ₁ => WE Γ n env i ρ σ₁ fun iv σ₂ => ∃ j f kvs k, ov = .ref j ∧ iv = .t (Key.pv k) ∧ σ₂ j = some (.dct f kvs) ∧ k.fl = f ∧ k ∈ kvs.map (·.1) ∧ kvs.length ≤ 100000 ∧ Q .next ρ (upd σ₂ j (.dct f (kdel kvs k)))) :
  WS Γ n env (.Delete [.Subscript o i p] pos) ρ σ Q := fun A s ν g hA hT F S => by
 refine wpAny_Delete (wpAny_deleteEach_cons (delete_Subscript (seqV (h A s ν g hA F S) fun ov s₁ ν₁ g₁ σ₁ d₁ st₁ S₁ r₁ q₁ => seqV (q₁ A s₁ ν₁ g₁ (hA.step st₁) (F.step st₁) S₁) fun iv s₂ ν₂ g₂ σ₂ d₂ st₂ S₂ r₂ q₂ => ?_)))
 obtain ⟨j, f, kvs, k, rfl, rfl, hd, hf, hk, hz, q⟩ := q₂
 have st := st₁.trans st₂
 obtain ⟨a, es, m, rfl, D⟩ := DctV.dat (o := .ref j) hd S₂ (hA.step st) (st₂.rep r₁) r₂ hf
 have hT' := dtype D.ho
 obtain ⟨_, e, ha⟩ := st₂.rep (d := .ref j) r₁; cases e
 refine wpAny_delItem_slot hT' (by decide) PySem.F.slot_dict_delitem (wpAny_call_entry PySem.F.slot_dict_delitem hT' PySem.F.entry_dict_delitem ?_ (PySem.F.args_dict_delitem_2 _ _))
 unfold Builtin.«dict.__delitem__»
 refine wpAny_bind ?_
 unfold Builtin.Dict.dictSlotArgs
 refine wpAny_bind (wpAny_notOrdered_dict hT' ?_)
 show wpAny _ _ (pure (Value.ref a, iv)) _ _ s₂
 refine wpAny_pure ?_
 show wpAny _ _ (Builtin.Dict.takeOut a iv >>= _) _ _ s₂
 refine wpAny_bind ((D.in1 (hA.step st).u20).takeOut hk hz fun t h' e es' m' hs ho' hr' => ?_)
 refine wpAny_bind (wpAny_letGo (wpAny_pure ⟨.none, rfl, wpAny_deleteEach_nil ?_⟩))
 have hks : KeysOk f (kdel kvs k) := ⟨fun p hp => D.hk.1 p ((kdel_sub kvs k).subset hp), D.hk.2.sublist ((kdel_sub kvs k).map _)⟩
 obtain ⟨st₃, S₃⟩ := S₂.setO (t := t) (ao' := .dct f (kdel kvs k)) ha hd rfl hs ho' ⟨D.hs, es', m', rfl, hks, hr'⟩
 exact ⟨ν₂, g₂, _, ρ, (st.trans st₃).any, F.step (st.trans st₃), S₃, q⟩
inductive StrPairs : List (Option Expr) → List Expr → List (Str × Str) → Prop
 | nil : StrPairs [] [] []
 | cons {k v : Str} {a c : Nat} {b d : Pos} {ks : List (Option Expr)} {vs : List Expr} {r : List (Str × Str)} : StrPairs ks vs r → StrPairs (some (.Constant (.str k) a b) :: ks) (.Constant (.str v) c d :: vs) ((k, v) :: r)
theorem pairs_walk {E : Value → Shared → Prop} {keys : List (Option Expr)} {values : List Expr} {kvs : List (Str × Str)} (he : StrPairs keys values kvs) : ∀ {pos : Pos} {s : Shared} {Q : List (Value × Value) → Shared → Prop},
  (∀ vs t, All2 (fun (p : Value × Value) (q : Str × Str) => ∃ t u, p = (.str q.1 t, .str q.2 u)) vs kvs → Q vs { s with toks := t }) → wpAny (model Γ.prog Γ.w) A (evalPairs (pairTrees keys values env pos)) Q E s := by
 induction he with
 | nil => intro pos s Q h; exact pairTrees_nil_walk (h [] s.toks .nil)
 | cons _ ih =>
  intro pos s Q h
  refine pairTrees_cons_walk (Calls.Constant_str (Calls.Constant_str ?_))
  exact ih (s := { s with toks := s.toks + 1 + 1 }) fun vs' t h' => h _ t (.cons ⟨_, _, rfl⟩ h')
noncomputable def putStrs : List (Key × V) → List (Str × Str) → List (Key × V)
 | kvs, [] => kvs
 | kvs, p :: r => putStrs (kput kvs (.str p.1) (.t (.str p.2))) r
theorem kput_len (kvs : List (Key × V)) (k : Key) (v : V) : (kput kvs k v).length ≤ kvs.length + 1 := by
 have h1 : ((kput kvs k v).map (·.1)).length = (if k ∈ kvs.map (·.1) then kvs.map (·.1) else kvs.map (·.1) ++ [k]).length := by rw [kput_keys]
 rw [List.length_map] at h1
 rw [h1]
 split <;> simp
theorem store_strs {E : Value → Shared → Prop} {a : Addr} {i : Nat} {vs : List (Value × Value)} {ps : List (Str × Str)} {kvs : List (Key × V)} {σ : Sto} {s : Shared} {Q : Unit → Shared → Prop} (hv : All2 (fun (p : Value × Value) (q : Str × Str) => ∃ t u, p = (.str q.1 t, .str q.2 u)) vs ps)
  (S : Sat Γ.prog Γ.w Γ.B σ ν g s) (ha : ν[i]? = some a) (hi : σ i = some (.dct .S kvs)) (hu : A.units + 8 < cLine) (hz : kvs.length + ps.length ≤ 1000)
  (h : ∀ h' t, Step [] ν g s ν g { s with heap := h', toks := t } → Sat Γ.prog Γ.w Γ.B (upd σ i (.dct .S (putStrs kvs ps))) ν g { s with heap := h', toks := t } → Q () { s with heap := h', toks := t }) : wpAny (model Γ.prog Γ.w) A (storeAll a vs) Q E s := by
 induction hv generalizing kvs σ s with
 | nil =>
  have e : upd σ i (.dct .S kvs) = σ := by funext j; unfold upd; split <;> simp_all
  refine wpAny_pure (h s.heap s.toks (.refl ..) ?_)
  rw [show putStrs kvs [] = kvs from rfl, e]; exact S
 | @cons _ p _ ps hp r ih =>
  obtain ⟨t, u, e⟩ := hp
  subst e
  obtain ⟨o', ho', z, es, m, e3, hko, hr⟩ := S.own i a _ ha hi
  subst e3
  have D : DAt Γ ν g s .S a es m kvs (.str p.1) (.str p.1 t) A := ⟨hu, S.sub, ho', hko, hr, ⟨t, rfl⟩, rfl, z⟩
  show wpAny _ A (forIn _ PUnit.unit _) _ _ _
  rw [List.forIn_cons]
  refine wpAny_bind (wpAny_bind (D.set (y := .t (.str p.2)) (Rep.str _ _) (by lia) fun t' h' es' m' hs ho hr' => wpAny_pure ?_))
  obtain ⟨st, S'⟩ := S.setO (t := t') (ao' := .dct .S (kput kvs (.str p.1) (.t (.str p.2)))) ha hi rfl hs ho ⟨z, es', m', rfl, kput_ok hko rfl, hr'⟩
  have hl := kput_len kvs (.str p.1) (.t (.str p.2))
  refine ih S' (upd_self ..) (by simp at hz; lia) fun h₂ t₂ st₂ S₂ => h h₂ t₂ (st.trans st₂) ?_
  rw [upd_upd] at S₂
  exact S₂
theorem WE.dictS {keys : List (Option Expr)} {values : List Expr} {pos : Pos} {ps : List (Str × Str)} {Q : V → Sto → Prop} (he : StrPairs keys values ps) (hall : keys.all (·.isSome) = true) (hl : keys.length = values.length) (h0 : keys ≠ []) (hlen : keys.length ≤ 15) (hp : ps.length ≤ 15)
  (h : ∀ i, σ i = Option.none → Q (.ref i) (upd σ i (.dct .S (putStrs [] ps)))) : WE Γ n env (.Dict keys values pos) ρ σ Q := fun A s ν g hA F S => by
 refine wpAny_Dict_any hall hl h0 hlen (pairs_walk he fun vs t hvs => ?_)
 obtain ⟨st, S₁⟩ := S.allocO (t := t) (ao := .dct .S []) emptyDict rfl ⟨S.low, [], 0, rfl, ⟨fun z' h => (nomatch h), List.Pairwise.nil⟩, All2.nil⟩
 refine store_strs (a := s.heap.objs.size) (i := ν.length) hvs S₁ (by simp) (upd_self ..) (by have := hA.units; lia) (by simp; lia) fun h' t' st' S' => ?_
 refine ⟨_, _, _, .ref ν.length, st.trans st', S', ⟨_, rfl, by simp⟩, ?_⟩
 rw [upd_upd]
 exact h _ S.fresh
end
end Mine
open Builtin Builtin.ObjectAttr
namespace Mine
noncomputable def kvI (ka : List (Key × Int)) : List (Key × V) := ka.map fun p => (p.1, .t (.int p.2))
noncomputable def sameI (ka kb : List (Key × Int)) : Bool := ka.length == kb.length && ka.all fun p => kb.lookup p.1 == some p.2
section
variable {Γ : Cx} {n : Nat} {env : Env} {ρ : Rho} {σ : Sto} {ν ν' : List Addr} {g g' : Heap} {s s' : Shared} {A : Around} {I D C : Addr} {ds : List PV} {d : PV}
theorem kvI_lookup (kb : List (Key × Int)) (k : Key) : (kvI kb).lookup k = (kb.lookup k).map fun i => V.t (.int i) := by
 induction kb with
 | nil => rfl
 | cons p r ih =>
  obtain ⟨a, b⟩ := p
  show List.lookup k ((a, _) :: kvI r) = _
  rw [List.lookup_cons, List.lookup_cons]
  cases k == a with
  | true => rfl
  | false => exact ih
theorem kvI_get {kb : List (Key × Int)} {j : Nat} {p : Key × V} (h : (kvI kb)[j]? = some p) : ∃ i, kb[j]? = some (p.1, i) ∧ p.2 = .t (.int i) := by
 unfold kvI at h
 rw [List.getElem?_map] at h
 cases q : kb[j]? with
 | none => rw [q] at h; cases h
 | some x => rw [q] at h; cases h; exact ⟨x.2, rfl, rfl⟩
inductive PairI (Q : Bool → Shared → Prop) (ka kb : List (Key × Int)) (s : Shared) (rest : List Nat) (q : Option Bool × Unit) (s' : Shared) : Prop
 | mk (i : Nat) : s = s' → q = (Option.none, ()) → rest = List.range' i (ka.length - i) → i ≤ ka.length → Q ((ka.drop i).all fun p => kb.lookup p.1 == some p.2) s → PairI Q ka kb s rest q s'
theorem same_pairs {nm : String} {f : Fla} {a b : Addr} {ea eb : List DictEntry} {ma mb : Nat} {ka kb : List (Key × Int)} {Q : Bool → Shared → Prop} {E : Value → Shared → Prop} (ha : (a == sysModules) = false) (hb : (b == sysModules) = false) (hu : A.units + 8 < cLine) (sub : HeapLe g s.heap)
  (hoa : s.heap.get? a = some (dictOf ea ma)) (hob : s.heap.get? b = some (dictOf eb mb)) (hka : KeysOk f (kvI ka)) (hkb : KeysOk f (kvI kb)) (hra : All2 (RepVE Γ.prog Γ.w ν g) ea (kvI ka)) (hrb : All2 (RepVE Γ.prog Γ.w ν g) eb (kvI kb))
  (h : Q (sameI ka kb) s) : wpAny (model Γ.prog Γ.w) A (Builtin.Dict.samePairs nm a b) Q E s := by
 have hla : ea.length = ka.length := by have := hra.length; unfold kvI at this; simpa using this
 have hlb : eb.length = kb.length := by have := hrb.length; unfold kvI at this; simpa using this
 unfold Builtin.Dict.samePairs Builtin.Dict.showsAll
 rw [if_neg (show ¬ (a == sysModules) = true by rw [ha]; exact Bool.false_ne_true), if_neg (show ¬ (b == sysModules) = true by rw [hb]; exact Bool.false_ne_true)]
 refine wpAny_bind (wpAny_pure (wpAny_bind (wpAny_pure ?_)))
 refine wpAny_bind (wpAny_dictEntries hoa rfl ?_)
 dsimp only
 refine wpAny_bind (wpAny_dictEntries hob rfl ?_)
 by_cases hsz : ka.length = kb.length
 case neg =>
  rw [if_pos (by simpa [hla, hlb] using hsz)]
  have hbf : (ka.length == kb.length) = false := by simpa using hsz
  unfold sameI at h
  rw [hbf, Bool.false_and] at h
  exact wpAny_bind (wpAny_rule (wpAny_pure h))
 case pos =>
  rw [if_neg (by simp [hla, hlb, hsz])]
  refine wpAny_bind (wpAny_dictEpoch hoa rfl ?_)
  have h' : Q (ka.all fun p => kb.lookup p.1 == some p.2) s := by
   unfold sameI at h
   rwa [show (ka.length == kb.length) = true by simpa using hsz, Bool.true_and] at h
  refine wpAny_bind ?_
  rw [Std.Legacy.Range.forIn_eq_forIn_range']
  unfold Std.Legacy.Range.size
  rw [Nat.sub_zero, Nat.add_sub_cancel, Nat.div_one]
  refine wpAny_forIn_list _
   (PairI Q ka kb s)
   _ ?_ ?_ _ _ ⟨0, rfl, rfl, by simp [hla], Nat.zero_le _, h'⟩
  ·rintro x rest q s' ⟨i, rfl, rfl, hr, hi, hpre⟩
   have hlt : i < ka.length := by
    rcases Nat.lt_or_ge i ka.length with h | h
    ·exact h
    ·rw [Nat.sub_eq_zero_of_le h] at hr; simp at hr
   obtain ⟨rfl, hrest⟩ : x = i ∧ rest = List.range' (i + 1) (ka.length - (i + 1)) := by
    have e : ka.length - i = (ka.length - (i + 1)) + 1 := by lia
    rw [e, List.range'_succ] at hr
    injection hr with h1 h2
    exact ⟨h1, h2⟩
   refine wpAny_bind (wpAny_dictEntries hoa rfl ?_)
   have hlt' : x < ea.length := by lia
   rw [List.getElem?_toArray, List.getElem?_eq_getElem hlt']
   obtain ⟨p, hp, r1, r2, r3⟩ := hra.get' x ea[x] (List.getElem?_eq_getElem hlt')
   obtain ⟨i₁, hi₁, e₁⟩ := kvI_get hp
   have hdrop : ka.drop x = (p.1, i₁) :: ka.drop (x + 1) := by
    rw [List.drop_eq_getElem_cons hlt]
    congr 1
    have := List.getElem?_eq_getElem hlt
    rw [hi₁] at this
    exact (Option.some.inj this).symm
   rw [hdrop] at hpre
   rw [List.all_cons] at hpre
   have hfl := hka.1 p (List.mem_of_getElem? hp)
   rw [e₁] at r3
   obtain ⟨tv, htv⟩ := Rep.int_inv r3
   show wpAny _ _ (holding [ea[x].key, ea[x].val] _ >>= _) _ _ _
   rw [r2]
   refine wpAny_bind (wpAny_holding (wpAny_bind (k_find hu sub hob hkb hrb r1 hfl (fun j v hj => ?_) fun hn => ?_)))
   ·obtain ⟨e, he, q1, q2, q3⟩ := hrb.get j _ hj
    obtain ⟨i₂, hi₂, e₂⟩ := kvI_get hj
    dsimp only at e₂ hi₂
    subst e₂
    obtain ⟨tu, htu⟩ := Rep.int_inv q3
    have hlk : kb.lookup p.1 = some i₂ := by
     have h2 : (kvI kb).lookup p.1 = some (.t (.int i₂)) := lookup_of_get hkb.2 hj
     rw [kvI_lookup] at h2
     cases q : kb.lookup p.1 with
     | none => rw [q] at h2; cases h2
     | some z => rw [q] at h2; cases h2; rfl
    rw [hlk] at hpre
    refine wpAny_bind (wpAny_dictEntries hob rfl ?_)
    rw [List.getElem?_toArray, he]
    dsimp only
    rw [htv, htu]
    refine wpAny_holding (wpAny_eqBool_int ?_)
    cases hc : (i₁ == i₂) with
    | false =>
     have hne : (some i₂ == some i₁) = false := by
      have : i₁ ≠ i₂ := by simpa using hc
      simpa using this.symm
     rw [hne, Bool.false_and] at hpre
     rw [if_pos (by decide)]
     exact wpAny_pure (wpAny_pure hpre)
    | true =>
     have heq : i₁ = i₂ := by simpa using hc
     subst heq
     rw [show (some i₁ == some i₁) = true by simp, Bool.true_and] at hpre
     rw [if_neg (by decide)]
     refine wpAny_bind (wpAny_dictEpoch hoa rfl ?_)
     rw [if_neg (by simp)]
     exact wpAny_pure ⟨x + 1, rfl, rfl, hrest, hlt, hpre⟩
   ·have hlk : kb.lookup p.1 = Option.none := by
     have h2 : (kvI kb).lookup p.1 = Option.none := lookup_none hn
     rw [kvI_lookup] at h2
     cases q : kb.lookup p.1 with
     | none => rfl
     | some z => rw [q] at h2; cases h2
    rw [hlk] at hpre
    rw [show ((Option.none : Option Int) == some i₁) = false from rfl, Bool.false_and] at hpre
    refine wpAny_pure ?_
    show wpAny _ _ (if (!false) = true then _ else _) _ _ _
    rw [if_pos (by decide)]
    exact wpAny_pure (wpAny_pure hpre)
  ·rintro q s' ⟨i, rfl, rfl, hr, hi, hpre⟩
   have hin : i = ka.length := by
    rcases Nat.lt_or_ge i ka.length with h | h
    ·have e : ka.length - i = (ka.length - (i + 1)) + 1 := by lia
     rw [e, List.range'_succ] at hr; exact nomatch hr
    ·exact Nat.le_antisymm hi h
   refine wpAny_pure ?_
   rw [hin, List.drop_length] at hpre
   exact hpre
theorem v_eqDct {u v : V} {f : Fla} {ka kb : List (Key × Int)} {Q : V → Sto → Prop} (hu : DctV σ u f (kvI ka)) (hv : DctV σ v f (kvI kb)) (h : Q (.t (.bool (sameI ka kb))) σ) : WV2 Γ n u v (compareOp .Eq) σ Q := fun A s ν g x y hA S r1 r2 => by
 obtain ⟨a, ea, ma, rfl, za, hoa, hka, hra⟩ := hu.at_ S r1
 obtain ⟨b, eb, mb, rfl, zb, hob, hkb, hrb⟩ := hv.at_ S r2
 refine wpAny_richCompare_same_room (op := .Eq) (dtype hoa) (dtype hob) PySem.F.slot_dict_eq (wpAny_call_entry PySem.F.slot_dict_eq (dtype hoa) PySem.F.entry_dict_eq ?_ (PySem.F.args_dict_eq_2 _ _)) (by have := hA.units; lia)
 show wpAny _ _ (Builtin.Dict.dictSlotArgs "__eq__" ⟨[.ref a, .ref b], []⟩ >>= _) _ _ s
 refine wpAny_bind ?_
 unfold Builtin.Dict.dictSlotArgs
 refine wpAny_bind (wpAny_notOrdered_dict (dtype hoa) ?_)
 show wpAny _ _ (pure (Value.ref a, Value.ref b)) _ _ s
 refine wpAny_pure ?_
 refine wpAny_bind (wpAny_isInstance (T := "dict") (dtype hob) PySem.F.sub_dict_dict ?_)
 rw [Bool.not_true, if_neg Bool.false_ne_true]
 refine wpAny_bind (wpAny_pure (wpAny_bind (wpAny_pure ?_)))
 refine wpAny_bind (same_pairs za zb (by have := hA.units; show A.units + 1 + 8 < _; lia) S.sub hoa hob hka hkb hra hrb ?_)
 refine wpAny_pure ⟨_, rfl, ?_, ?_⟩
 ·exact fun x => nomatch x
 ·have e : (sameI ka kb == true) = sameI ka kb := by cases sameI ka kb <;> rfl
  rw [e]
  exact ⟨ν, g, σ, .t (.bool _), .refl .., S, Rep.bool _, h⟩
end
end Mine
open Builtin Builtin.ObjectAttr
namespace Mine
noncomputable def ltI : List Int → List Int → Bool
 | _, [] => false
 | [], _ :: _ => true
 | a :: l, b :: m => if a = b then ltI l m else decide (a < b)
theorem ltI_cons (a : Int) (l : List Int) (b : Int) (m : List Int) : ltI (a :: l) (b :: m) = if a = b then ltI l m else decide (a < b) := rfl
def IntsAt (xs : Array Value) (ls : List Int) : Prop := xs.size = ls.length ∧ ∀ (i : Nat) (k : Int), ls[i]? = some k → ∃ t, xs[i]? = some (.int k t)
theorem lt_loop (a b : Addr) (xs ys : Array Value) (m n : Nat) (ls ms : List Int) (hx : IntsAt xs ls) (hy : IntsAt ys ms) (k : Nat) :
  ∀ i : Nat, i + k = ls.length → Meets (Builtin.«list.__eq__.loop» ⟨[.ref a, .ref b, rawInt i, rawInt (0 : Int)], []⟩)
   (fun z' R s => s.heap.get? a = some (listOf xs m) ∧ s.heap.get? b = some (listOf ys n) ∧ R (.ok (.ret (.bool (ltI (ls.drop i) (ms.drop i))))) s) := by
 have endd : ∀ (i : Nat), (i = ls.length ∨ ms.length ≤ i) → i ≤ ls.length → ∀ (prog : Program) (w : World) (A : Around) (R : Result → Shared → Prop) (s : Shared), s.heap.get? a = some (listOf xs m) → s.heap.get? b = some (listOf ys n) → R (.ok (.ret (.bool (decide (ls.length < ms.length))))) s →
   wpAny (model prog w) A.in1 (Builtin.«list.__eq__.loop» ⟨[.ref a, .ref b, rawInt i, rawInt (0 : Int)], []⟩) (fun fin s' => match fin with | .done f => R (.ok f) s' | .again c' => c'.quiet = true ∧ codeAny (model prog w) A c' R s') (fun e s' => R (.error e) s') s := by
  intro i hi hle prog w A R s ha hb h
  unfold Builtin.«list.__eq__.loop»
  dsimp only
  refine wpAny_bind (listItems_at ha rfl (wpAny_bind (listItems_at hb rfl ?_)))
  have fin : wpAny (model prog w) A.in1 (do
    let u ← List.listItems (Value.ref a)
    let v ← List.listItems (Value.ref b)
    PySem.ret (.bool (decide (u.size < v.size)))) (fun fin s' => match fin with | .done f => R (.ok f) s' | .again c' => c'.quiet = true ∧ codeAny (model prog w) A c' R s') (fun e s' => R (.error e) s') s := by
   refine wpAny_bind (listItems_at ha rfl (wpAny_bind (listItems_at hb rfl ?_)))
   rw [hx.1, hy.1]
   exact wpAny_pure h
  rcases hi with hi | hi
  ·have e1 : xs[((i : Nat) : Int).toNat]? = Option.none := by
    have := hx.1
    simp; lia
   rw [e1]
   exact fin
  ·have e1 : ys[((i : Nat) : Int).toNat]? = Option.none := by
    have := hy.1
    simp; lia
   rw [e1]
   cases xs[((i : Nat) : Int).toNat]? <;> exact fin
 induction k with
 | zero =>
  intro i hk prog w A R s ⟨ha, hb, h⟩
  refine endd i (.inl (by lia)) (by lia) prog w A R s ha hb ?_
  have e : ltI (ls.drop i) (ms.drop i) = decide (ls.length < ms.length) := by
   rw [show ls.drop i = [] from List.drop_eq_nil_of_le (by lia)]
   cases q : ms.drop i with
   | nil =>
    have := List.drop_eq_nil_iff.mp q
    exact (decide_eq_false (by clear ha hb h endd; lia)).symm
   | cons x r =>
    have := congrArg List.length q
    rw [List.length_drop] at this
    exact (decide_eq_true (by clear ha hb h endd; simp at this; lia)).symm
  rw [← e]; exact h
 | succ k ih =>
  intro i hk prog w A R s ⟨ha, hb, h⟩
  have hlt : i < ls.length := by lia
  by_cases hm : ms.length ≤ i
  ·refine endd i (.inr hm) (by lia) prog w A R s ha hb ?_
   have e : ltI (ls.drop i) (ms.drop i) = decide (ls.length < ms.length) := by
    rw [show ms.drop i = [] from List.drop_eq_nil_of_le hm]
    have : ¬ ls.length < ms.length := by lia
    rw [decide_eq_false this]
    cases ls.drop i <;> rfl
   rw [← e]; exact h
  ·have hm : i < ms.length := by lia
   obtain ⟨t, e1⟩ := hx.2 i ls[i] (List.getElem?_eq_getElem hlt)
   obtain ⟨u, e2⟩ := hy.2 i ms[i] (List.getElem?_eq_getElem hm)
   unfold Builtin.«list.__eq__.loop»
   dsimp only
   refine wpAny_bind (listItems_at ha rfl (wpAny_bind (listItems_at hb rfl ?_)))
   have e1' : xs[((i : Nat) : Int).toNat]? = some (.int ls[i] t) := by simpa using e1
   have e2' : ys[((i : Nat) : Int).toNat]? = some (.int ms[i] u) := by simpa using e2
   rw [e1', e2']
   dsimp only
   refine wpAny_bind (wpAny_eqBool_int ?_)
   have hd : ltI (ls.drop i) (ms.drop i) = if ls[i] = ms[i] then ltI (ls.drop (i + 1)) (ms.drop (i + 1)) else decide (ls[i] < ms[i]) := by
    rw [List.drop_eq_getElem_cons hlt, List.drop_eq_getElem_cons hm]
    rfl
   rw [hd] at h
   by_cases hc : ls[i] = ms[i]
   ·rw [if_pos hc] at h
    rw [if_pos (by simpa using hc)]
    have hcst : ((i : Int) + 1) = ((i + 1 : Nat) : Int) := by push_cast; rfl
    rw [hcst]
    exact wpAny_pure ⟨plainId_quiet MeetsSeq3.plain_eq_loop _, codeAny_builtin MeetsSeq3.entry_eq_loop (by
     rw [Around.under_plainId MeetsSeq3.plain_eq_loop _]
     exact ih (i + 1) (by lia) prog w A R s ⟨ha, hb, h⟩)⟩
   ·rw [if_neg hc] at h
    rw [if_neg (by simpa using hc)]
    refine wpAny_bind (listItems_at ha rfl (wpAny_bind (listItems_at hb rfl ?_)))
    rw [e1', e2']
    dsimp only
    exact wpAny_bind (PyProof.Rows.lt_int (E := fun e s' => R (.error e) s') (wpAny_pure h))
noncomputable def kgo {α : Type} (c : Nat → Nat → Bool) (n : Nat) : KasT α → Option α
 | .ret a => some a
 | .ask i j k => if i < n && j < n then kgo c n (k (c i j)) else Option.none
theorem kgo_ask {α : Type} (c : Nat → Nat → Bool) (n i j : Nat) (k : Bool → KasT α) : kgo c n (.ask i j k) = if i < n && j < n then kgo c n (k (c i j)) else Option.none := rfl
noncomputable def permsOf : Nat → List Nat → List (List Nat)
 | 0, _ => [[]]
 | n + 1, av => av.flatMap fun x => (permsOf n (av.erase x)).map (x :: ·)
noncomputable def ksChk (n : Nat) (r : List Nat) : Bool := match kgo (fun i j => decide (r.getD i 0 < r.getD j 0)) n (kas_sort n) with
 | some p => (p.toList.map fun i => r.getD i 0) == List.range n && p.toList.isPerm (List.range n)
 | Option.none => false
theorem ks2 : (permsOf 2 (List.range 2)).all (ksChk 2) = true := by decide +kernel
theorem ks3 : (permsOf 3 (List.range 3)).all (ksChk 3) = true := by decide +kernel
theorem ks4 : (permsOf 4 (List.range 4)).all (ksChk 4) = true := by decide +kernel
theorem ks5 : (permsOf 5 (List.range 5)).all (ksChk 5) = true := by decide +kernel
theorem ks6 : (permsOf 6 (List.range 6)).all (ksChk 6) = true := by decide +kernel
theorem ks_all {n : Nat} (h2 : 2 ≤ n) (h6 : n ≤ 6) : (permsOf n (List.range n)).all (ksChk n) = true := by
 have : n = 2 ∨ n = 3 ∨ n = 4 ∨ n = 5 ∨ n = 6 := by lia
 rcases this with rfl | rfl | rfl | rfl | rfl
 ·exact ks2
 ·exact ks3
 ·exact ks4
 ·exact ks5
 ·exact ks6
theorem mem_permsOf (n : Nat) (av r : List Nat) (hn : r.Nodup) (hs : ∀ x ∈ r, x ∈ av) (hl : r.length = n) : r ∈ permsOf n av := by
 induction n generalizing av r with
 | zero => rw [List.length_eq_zero_iff.mp hl]; exact .head _
 | succ n ih => cases r with
  | nil => cases hl
  | cons x r =>
   rw [List.nodup_cons] at hn
   refine List.mem_flatMap.mpr ⟨x, hs x (.head _), List.mem_map.mpr ⟨r, ih _ r hn.2 (fun y hy => ?_) (Nat.succ.inj hl), rfl⟩⟩
   exact (List.mem_erase_of_ne (fun e => hn.1 (by rw [← e]; exact hy))).mpr (hs y (.tail _ hy))
theorem kgo_congr {α : Type} {c c' : Nat → Nat → Bool} {n : Nat} (h : ∀ i j, i < n → j < n → c i j = c' i j) (t : KasT α) : kgo c n t = kgo c' n t := by
 induction t with
 | ret a => rfl
 | ask i j k ih =>
  rw [kgo_ask, kgo_ask]
  by_cases hc : (i < n && j < n) = true
  ·have := Bool.and_eq_true_iff.mp hc
   rw [if_pos hc, if_pos hc, h i j (of_decide_eq_true this.1) (of_decide_eq_true this.2)]
   exact ih _
  ·rw [if_neg hc, if_neg hc]
theorem countP_lt {α : Type} {p q : α → Bool} {l : List α} (h : ∀ x ∈ l, p x = true → q x = true) (hx : ∃ x ∈ l, q x = true ∧ p x = false) : l.countP p < l.countP q := by
 obtain ⟨x, hx, h1, h2⟩ := hx
 induction l with
 | nil => cases hx
 | cons a l ih =>
  rw [List.countP_cons, List.countP_cons]
  rcases List.mem_cons.mp hx with e | hx
  ·rw [← e, h1, h2]
   exact Nat.lt_succ_of_le (List.countP_mono_left fun y hy => h y (.tail _ hy))
  ·have ih := ih (fun y hy => h y (.tail _ hy)) hx
   cases hp : p a with
   | false => exact Nat.lt_of_lt_of_le ih (Nat.le_add_right _ _)
   | true => rw [h a (.head _) hp]; exact Nat.succ_lt_succ ih
structure STO {α : Type} (lt : α → α → Bool) : Prop where
 irr : ∀ a, lt a a = false
 trans : ∀ a b c, lt a b = true → lt b c = true → lt a c = true
 tot : ∀ a b, a ≠ b → lt a b = true ∨ lt b a = true
section
variable {α : Type} [Inhabited α] {lt : α → α → Bool} (o : STO lt) (ks : List α) (hn : ks.Nodup)
include o hn
noncomputable def rk (lt : α → α → Bool) (ks : List α) (a : α) : Nat := ks.countP fun b => lt b a
theorem rk_lt {a b : α} (ha : a ∈ ks) (h : lt a b = true) : rk lt ks a < rk lt ks b :=
 countP_lt (fun x z' hx => o.trans x a b hx h) ⟨a, ha, h, o.irr a⟩
theorem rk_size {a : α} (ha : a ∈ ks) : rk lt ks a < ks.length := by
 have := countP_lt (l := ks) (p := fun b => lt b a) (q := fun z' => true) (fun z' z' z' => rfl) ⟨a, ha, rfl, o.irr a⟩
 simpa [rk] using this
theorem rk_iff {a b : α} (ha : a ∈ ks) (hb : b ∈ ks) : lt a b = decide (rk lt ks a < rk lt ks b) := by
 cases q : lt a b with
 | true => exact (decide_eq_true (rk_lt o ks hn ha q)).symm
 | false =>
  refine (decide_eq_false fun h => ?_).symm
  by_cases e : a = b
  ·subst e; lia
  ·rcases o.tot a b e with z | z
   ·rw [q] at z; cases z
   ·have := rk_lt o ks hn hb z; lia
theorem sort_pure (h2 : 2 ≤ ks.length) (h6 : ks.length ≤ 6) {c : Nat → Nat → Bool} (hc : ∀ i j (hi : i < ks.length) (hj : j < ks.length), c i j = lt ks[i] ks[j]) :
  ∃ p : Array Nat, kgo c ks.length (kas_sort ks.length) = some p ∧ (∀ i ∈ p.toList, i < ks.length) ∧ p.toList.Perm (List.range ks.length) ∧ (p.toList.map fun i => ks.getD i default).Pairwise fun a b => lt a b = true := by
 let r : List Nat := ks.map (rk lt ks)
 have hrl : r.length = ks.length := by simp [r]
 have hr : ∀ i (hi : i < ks.length), r.getD i 0 = rk lt ks ks[i] := fun i hi => by
  simp [r, List.getD_eq_getElem?_getD, hi]
 have inj : ∀ a ∈ ks, ∀ b ∈ ks, rk lt ks a = rk lt ks b → a = b := fun a ha b hb e => by
  by_cases q : a = b
  ·exact q
  ·rcases o.tot a b q with z | z
   ·have := rk_lt o ks hn ha z; lia
   ·have := rk_lt o ks hn hb z; lia
 have hrn : r.Nodup := by
  show (ks.map (rk lt ks)).Nodup
  refine List.Pairwise.map _ (R := fun a b => a ∈ ks ∧ b ∈ ks ∧ a ≠ b) (fun a b ⟨ha, hb, hab⟩ e => hab (inj a ha b hb e)) ?_
  exact List.Pairwise.imp_of_mem (fun ha hb h => ⟨ha, hb, h⟩) hn
 have hm : r ∈ permsOf ks.length (List.range ks.length) := mem_permsOf _ _ r hrn (fun x hx => by
  obtain ⟨a, ha, rfl⟩ := List.mem_map.mp hx
  exact List.mem_range.mpr (rk_size o ks hn ha)) hrl
 have chk := List.all_eq_true.mp (ks_all h2 h6) r hm
 unfold ksChk at chk
 have ec : kgo (fun i j => decide (r.getD i 0 < r.getD j 0)) ks.length (kas_sort ks.length) = kgo c ks.length (kas_sort ks.length) := kgo_congr (fun i j hi hj => by
  rw [hc i j hi hj, hr i hi, hr j hj]
  exact (rk_iff o ks hn (List.getElem_mem hi) (List.getElem_mem hj)).symm) _
 rw [ec] at chk
 cases q : kgo c ks.length (kas_sort ks.length) with
 | none => rw [q] at chk; cases chk
 | some p =>
  rw [q] at chk
  dsimp only at chk
  rw [Bool.and_eq_true, beq_iff_eq] at chk
  obtain ⟨c1, c2⟩ := chk
  have hperm : p.toList.Perm (List.range ks.length) := List.isPerm_iff.mp c2
  have hb : ∀ i ∈ p.toList, i < ks.length := fun i hi => List.mem_range.mp (hperm.subset hi)
  refine ⟨p, rfl, hb, hperm, ?_⟩
  ·have h1 : (p.toList.map fun i => r.getD i 0).Pairwise (· < ·) := by rw [c1]; exact List.pairwise_lt_range
   rw [List.pairwise_map] at h1 ⊢
   refine List.Pairwise.imp_of_mem (fun {i j} hi hj h => ?_) h1
   have hi' := hb i hi
   have hj' := hb j hj
   rw [hr i hi', hr j hj'] at h
   have e1 : ks.getD i default = ks[i] := by simp [List.getD_eq_getElem?_getD, hi']
   have e2 : ks.getD j default = ks[j] := by simp [List.getD_eq_getElem?_getD, hj']
   rw [e1, e2, rk_iff o ks hn (List.getElem_mem hi') (List.getElem_mem hj')]
   exact decide_eq_true h
end
theorem kgo_wp {α : Type} {c : Nat → Nat → Bool} {n : Nat} {cmp : Nat → Nat → (Bool → Shared → Prop) → Shared → Prop} {G : α → Shared → Prop} {s : Shared} {a : α} (hc : ∀ i j, i < n → j < n → ∀ C : Bool → Shared → Prop, C (c i j) s → cmp i j C s) (hG : G a s)
  (t : KasT α) (h : kgo c n t = some a) : t.kasWp cmp G s := by
 induction t with
 | ret b => cases h; exact hG
 | ask i j k ih =>
  rw [kgo_ask] at h
  by_cases hij : (i < n && j < n) = true
  ·rw [if_pos hij] at h
   have := Bool.and_eq_true_iff.mp hij
   exact hc i j (of_decide_eq_true this.1) (of_decide_eq_true this.2) _ (ih _ h)
  ·rw [if_neg hij] at h; cases h
def CmpOK (Γ : Cx) (g : Heap) (s : Shared) (vs : List Value) (c : Nat → Nat → Bool) : Prop :=
 ∀ A : Around, A.units + 60 < cLine → ∃ κ, (∀ (E : Value → Shared → Prop) (Q : SortKind → Shared → Prop) (s' : Shared), HeapLe g s'.heap → Q κ s' → wpAny (model Γ.prog Γ.w) A (keyKind' vs.toArray) Q E s') ∧
  ∀ i j, i < vs.length → j < vs.length → ∀ (C : Bool → Shared → Prop) (s' : Shared), HeapLe g s'.heap → C (c i j) s' → kas_ask Γ.prog Γ.w A κ vs i j C s'
section
variable {Γ : Cx} {n : Nat} {env : Env} {ρ : Rho} {σ : Sto} {ν ν' : List Addr} {g g' : Heap} {s s' : Shared} {A : Around} {I D C : Addr} {ds : List PV} {d : PV}
theorem list_sort_any {a : Addr} {vs : List Value} {k : Nat} {c : Nat → Nat → Bool} {P : PySem.Fin → Shared → Prop} {E : Value → Shared → Prop} (ho : s.heap.get? a = some (listOf vs.toArray k)) (hg : g.get? a = Option.none) (sub : HeapLe g s.heap) (hz : vs.length < 64) (hu : A.units + 60 < cLine)
  (hc : 2 ≤ vs.length → CmpOK Γ g s vs c ∧ ∃ p : Array Nat, kgo c vs.length (kas_sort vs.length) = some p ∧ ∀ h' m', (∀ b o, b ≠ a → s.heap.get? b = some o → h'.get? b = some o) → h'.get? a = some (listOf (p.toList.map fun i => vs.getD i Value.none).toArray m') → P (.done (.ret .none)) { s with heap := h' })
  (h0 : vs.length < 2 → ∀ h' m', (∀ b o, b ≠ a → s.heap.get? b = some o → h'.get? b = some o) → h'.get? a = some (listOf vs.toArray m') → P (.done (.ret .none)) { s with heap := h' }) :
  wpAny (model Γ.prog Γ.w) A (Builtin.«list.sort» ⟨[.ref a], []⟩) P E s := by
 have ha : a < s.heap.objs.size := Heap.lt_size ho
 have hsz : vs.toArray.size = vs.length := by simp
 obtain ⟨e1, ho1⟩ : ∃ e1, (s.heap.update a (Obj.mapSeq fun z' => (#[] : Array Value))).get? a = some (seqObj "list" #[] e1) := ⟨_, get?_update_seq ho fun z' => #[]⟩
 have ho6 : (((s.heap.update a (Obj.mapSeq fun z' => (#[] : Array Value))).push (seqObj "tuple" vs.toArray 0)).push (seqObj "list" #[] 0)).get? a = some (seqObj "list" #[] e1) := Heap.get?_push_of_some _ (Heap.get?_push_of_some _ ho1)
 have keep : ∀ b o, b ≠ a → s.heap.get? b = some o → (((s.heap.update a (Obj.mapSeq fun z' => (#[] : Array Value))).push (seqObj "tuple" vs.toArray 0)).push (seqObj "list" #[] 0)).get? b = some o := fun b o hb e =>
  Heap.get?_push_of_some _ (Heap.get?_push_of_some _ (((Heap.SameBut.update s.heap a (Obj.mapSeq fun z' => (#[] : Array Value))).2 b hb).trans e))
 have gsub : HeapLe g (((s.heap.update a (Obj.mapSeq fun z' => (#[] : Array Value))).push (seqObj "tuple" vs.toArray 0)).push (seqObj "list" #[] 0)) := fun b o e => keep b o (fun q => by subst q; rw [hg] at e; cases e) (sub b o e)
 rw [list_sort_plain]
 refine wpAny_bind (listItems_at ho rfl ?_)
 refine wpAny_bind (listUpdate_at ho rfl ?_ (by rw [List.size_toArray, sizeLine_eq]; lia) (Nat.zero_le _))
 refine wpAny_bind (seqEpoch_at ho1 rfl ?_)
 refine wpAny_bind (wpAny_newTuple ?_ (by show vs.length ≤ _; rw [sizeLine_eq]; lia))
 refine wpAny_bind (wpAny_newList ?_ (Nat.zero_le _))
 refine wpAny_holding ?_
 show wpAny (model Γ.prog Γ.w) A _ P E { s with heap := ((s.heap.update a (Obj.mapSeq fun z' => (#[] : Array Value))).push (seqObj "tuple" vs.toArray 0)).push (seqObj "list" #[] 0) }
 dsimp only
 have fin : ∀ (out : Array Value), out.size = vs.length → ∃ m', ((((s.heap.update a (Obj.mapSeq fun z' => (#[] : Array Value))).push (seqObj "tuple" vs.toArray 0)).push (seqObj "list" #[] 0)).update a (Obj.mapSeq fun z' => out)).get? a = some (listOf out m') := fun out z' => ⟨_, get?_update_seq ho6 fun z' => out⟩
 have kept : ∀ (out : Array Value) b o, b ≠ a → s.heap.get? b = some o → ((((s.heap.update a (Obj.mapSeq fun z' => (#[] : Array Value))).push (seqObj "tuple" vs.toArray 0)).push (seqObj "list" #[] 0)).update a (Obj.mapSeq fun z' => out)).get? b = some o := fun out b o hb e => ((Heap.SameBut.update _ a (Obj.mapSeq fun z' => out)).2 b hb).trans (keep b o hb e)
 by_cases h2 : vs.toArray.size < 2
 ·rw [if_pos h2, if_pos h2]
  refine wpAny_bind (wpAny_pure ?_)
  rw [StateT.run_pure]
  refine wpAny_bind (wpAny_pure ?_)
  refine wpAny_bind (seqEpoch_at ho6 rfl ?_)
  have hout : (arrOf (SortSt.mk' general' (vs.toArray.zip vs.toArray) #[] 7 Option.none)).map (·.2) = vs.toArray := by
   show (vs.toArray.zip vs.toArray).map (·.2) = _
   apply Array.toList_inj.mp
   simp only [Array.toList_map, Array.toList_zip]
   exact List.map_snd_zip (Nat.le_refl _)
  rw [hout]
  refine wpAny_bind (listUpdate_at ho6 rfl ?_ (Nat.zero_le _) (by show vs.toArray.size ≤ sizeLine + 1; rw [sizeLine_eq]; lia))
  rw [show failedOf (SortSt.mk' general' (vs.toArray.zip vs.toArray) #[] 7 Option.none) = Option.none from rfl]
  rw [bne_self_eq_false, if_neg Bool.false_ne_true]
  obtain ⟨m', hm⟩ := fin vs.toArray hsz
  exact wpAny_pure (h0 (by lia) _ m' (kept _) hm)
 ·rw [if_neg h2, if_neg h2]
  obtain ⟨cmp, p, hp, hP⟩ := hc (by lia)
  obtain ⟨κ, hk, hask⟩ := cmp A hu
  refine wpAny_bind (hk _ _ _ gsub ?_)
  have run := kgo_wp (cmp := kas_ask Γ.prog Γ.w A κ vs) (s := { s with heap := ((s.heap.update a (Obj.mapSeq fun z' => (#[] : Array Value))).push (seqObj "tuple" vs.toArray 0)).push (seqObj "list" #[] 0) }) (G := fun q s' => q = p ∧ s' = { s with heap := ((s.heap.update a (Obj.mapSeq fun z' => (#[] : Array Value))).push (seqObj "tuple" vs.toArray 0)).push (seqObj "list" #[] 0) }) (fun i j hi hj C hC => hask i j hi hj C _ gsub hC) ⟨rfl, rfl⟩ _ hp
  refine wpAny_bind (wpAny_mono (kat_run (E := E) (Q := fun st' s' => (arrOf st').map (·.2) = (p.toList.map fun i => vs.getD i Value.none).toArray ∧ p.size = vs.length ∧ failedOf st' = Option.none ∧ s' = { s with heap := ((s.heap.update a (Obj.mapSeq fun z' => (#[] : Array Value))).push (seqObj "tuple" vs.toArray 0)).push (seqObj "list" #[] 0) })
   rfl (by lia) hz (fun p' st' s' a1 a2 a3 ⟨a4, a5⟩ => by subst a4; exact ⟨kat_snds rfl a2, a1, a3, a5⟩) run) ?_ fun z' z' e => e)
  rintro ⟨⟨⟩, st'⟩ s' ⟨har, hps, hf, rfl⟩
  dsimp only at har hf ⊢
  refine wpAny_bind (seqEpoch_at ho6 rfl ?_)
  rw [har]
  have hsz2 : (p.toList.map fun i => vs.getD i Value.none).toArray.size = vs.length := by simp [hps]
  refine wpAny_bind (listUpdate_at ho6 rfl ?_ (Nat.zero_le _) (by show (p.toList.map fun i => vs.getD i Value.none).toArray.size ≤ sizeLine + 1; rw [hsz2, sizeLine_eq]; lia))
  rw [hf]
  rw [bne_self_eq_false, if_neg Bool.false_ne_true]
  obtain ⟨m', hm⟩ := fin (p.toList.map fun i => vs.getD i Value.none).toArray hsz2
  exact wpAny_pure (hP _ m' (kept _) hm)
end
section
variable {Γ : Cx} {n : Nat} {env : Env} {ρ : Rho} {σ : Sto} {ν ν' : List Addr} {g g' : Heap} {s s' : Shared} {A : Around} {I D C : Addr} {ds : List PV} {d : PV}
theorem LsAt.frz {xs : List PV} {X ν₀ : List Addr} {g₀ : Heap} {s₀ : Shared} {Q : V → Sto → Prop} (L : LsAt Γ D (xs.map .t) ν g s) (S : Sat Γ.prog Γ.w Γ.B σ ν g s) (st : Step X ν₀ g₀ s₀ ν g s) (hD : s₀.heap.get? D = Option.none) (h : Q (.t (.lst xs)) σ) : PostV Γ X ν₀ g₀ s₀ Q (.ref D) s := by
 obtain ⟨st₁, S₁, r₁⟩ := L.own S st hD
 obtain ⟨g₂, st₂, S₂⟩ := freezeL S₁ (upd_self ..)
 refine ⟨_, g₂, σ, .t (.lst xs), st₁.trans st₂.any, S₂.le ?_, frz_rep S₂ (upd_self ..) (st₂.rep r₁), h⟩
 rw [upd_upd]
 exact Sto.le_upd S.fresh
theorem repAll_pick {vs : List Value} {xs : List PV} (h : RepAll Γ.prog Γ.w g vs xs) : ∀ (p : List Nat), (∀ i ∈ p, i < vs.length) → RepAll Γ.prog Γ.w g (p.map fun i => vs.getD i Value.none) (p.map fun i => xs.getD i PV.none)
 | [], _ => .nil
 | i :: p, hp => by
  have hi := hp i (.head _)
  have hl := h.all2.length
  obtain ⟨b, hb, r⟩ := h.all2.get' i vs[i] (List.getElem?_eq_getElem hi)
  refine .cons ?_ (repAll_pick h p fun j hj => hp j (.tail _ hj))
  have e1 : vs.getD i Value.none = vs[i] := by simp [List.getD_eq_getElem?_getD, hi]
  have e2 : xs.getD i PV.none = b := by simp [List.getD_eq_getElem?_getD, hb]
  show Rep Γ.prog Γ.w g (vs.getD i Value.none) (xs.getD i PV.none)
  rw [e1, e2]; exact r
theorem sort_made {α : Type} [Inhabited α] {emb : α → PV} {lt : α → α → Bool} {ks : List α} {vs : List Value} {k : Nat} {Q : V → Sto → Prop} {X ν₀ : List Addr} {g₀ : Heap} {s₀ : Shared} (o : STO lt) (hn : ks.Nodup) (h6 : ks.length ≤ 6)
  (hcmp : 2 ≤ ks.length → CmpOK Γ g s vs (fun i j => lt (ks.getD i default) (ks.getD j default))) (hu : A.units + 60 < cLine)
  (ho : s.heap.get? D = some (listOf vs.toArray k)) (hD : s₀.heap.get? D = Option.none) (off : D ∉ ν ∧ g.get? D = Option.none) (S : Sat Γ.prog Γ.w Γ.B σ ν g s) (st : Step X ν₀ g₀ s₀ ν g s) (hr : RepAll Γ.prog Γ.w g vs (ks.map emb))
  (h : ∀ ks' : List α, ks'.Perm ks → ks'.Pairwise (fun a b => lt a b = true) → Q (.t (.lst (ks'.map emb))) σ) {E : Value → Shared → Prop} :
  wpAny (model Γ.prog Γ.w) A (Builtin.«list.sort» ⟨[.ref D], []⟩) (fun fin s' => ∃ v, fin = .done (.ret v) ∧ PostV Γ X ν₀ g₀ s₀ Q (.ref D) s') E s := by
 have hl : vs.length = ks.length := by have := hr.all2.length; simpa using this
 have back : ∀ (out : List Value) (ks' : List α) h' m', ks'.Perm ks → ks'.Pairwise (fun a b => lt a b = true) → RepAll Γ.prog Γ.w g out (ks'.map emb) → (∀ b ob, b ≠ D → s.heap.get? b = some ob → h'.get? b = some ob) → h'.get? D = some (listOf out.toArray m') → PostV Γ X ν₀ g₀ s₀ Q (.ref D) { s with heap := h' } := fun out ks' h' m' a1 a2 a3 a4 a5 => by
  have hk : ∀ b ob, b ∉ [D] → s.heap.get? b = some ob → h'.get? b = some ob := fun b ob hb e => a4 b ob (fun q => hb (List.mem_singleton.mpr q)) e
  have L : LsAt Γ D ((ks'.map emb).map .t) ν g { s with heap := h', toks := s.toks } := ⟨⟨out.toArray, m', a5, by simpa using ts_repV a3⟩, off⟩
  exact L.frz (S.turn (t := s.toks) off hk) (st.turn (t := s.toks) hD hk) hD (h ks' a1 a2)
 refine list_sort_any (g := g) (c := fun i j => lt (ks.getD i default) (ks.getD j default)) ho off.2 S.sub (by lia) hu (fun h2 => ?_) fun h2 h' m' a4 a5 => ⟨.none, rfl, ?_⟩
 ·have h2' : 2 ≤ ks.length := by lia
  refine ⟨hcmp h2', ?_⟩
  obtain ⟨p, hp, hb, hperm, hs⟩ := sort_pure o ks hn h2' h6 (c := fun i j => lt (ks.getD i default) (ks.getD j default)) (fun i j hi hj => by simp [List.getD_eq_getElem?_getD, hi, hj])
  rw [hl]
  refine ⟨p, hp, fun h' m' a4 a5 => ⟨.none, rfl, back _ (p.toList.map fun i => ks.getD i default) h' m' ?_ hs ?_ a4 a5⟩⟩
  ·have := hperm.map fun i => ks.getD i default
   refine this.trans ?_
   have e : (List.range ks.length).map (fun i => ks.getD i default) = ks := by
    apply List.ext_getElem
    ·simp
    ·intro i h1 h2; simp at h1; simp [List.getD_eq_getElem?_getD, h1]
   rw [e]
  ·have r := repAll_pick hr p.toList (fun i hi => by rw [hl]; exact hb i hi)
   have e : (p.toList.map fun i => (ks.map emb).getD i PV.none) = (p.toList.map fun i => ks.getD i default).map emb := by
    rw [List.map_map]
    refine List.map_congr_left fun i hi => ?_
    have := hb i hi
    simp [List.getD_eq_getElem?_getD, this]
   rw [e] at r; exact r
 ·refine back vs ks h' m' (List.Perm.refl _) ?_ hr a4 a5
  have : ks.length < 2 := by lia
  match ks, this with
  | [], _ => exact .nil
  | [a], _ => exact List.pairwise_singleton ..
theorem w_sortedL {α : Type} [Inhabited α] {emb : α → PV} {lt : α → α → Bool} {ks : List α} {v : V} {Q : V → Sto → Prop} (o : STO lt) (hn : ks.Nodup) (h6 : ks.length ≤ 6) (hv : LstV σ v ((ks.map emb).map .t))
  (hcmp : 2 ≤ ks.length → ∀ (g : Heap) (s : Shared) (vs : List Value), HeapLe g s.heap → RepAll Γ.prog Γ.w g vs (ks.map emb) → CmpOK Γ g s vs (fun i j => lt (ks.getD i default) (ks.getD j default)))
  (h : ∀ ks' : List α, ks'.Perm ks → ks'.Pairwise (fun a b => lt a b = true) → Q (.t (.lst (ks'.map emb))) σ) : WC Γ n (.builtin "sorted") [v] σ Q := fun A s ν g ys hA S r => by
 obtain ⟨y, rfl, r1⟩ := r.inv1
 obtain ⟨a, vs, m, rfl, ho, hr⟩ := hv.at_ S r1
 have hr' : RepAll Γ.prog Γ.w g vs.toList (ks.map emb) := repV_ts hr
 have hl : vs.toList.length = ks.length := by have := hr'.all2.length; simpa using this
 refine Calls.call_function_entry kind_sorted plain_sorted entry_sorted (args_sorted1 _) ?_
 unfold Builtin.«sorted»
 refine wpAny_bind (m := checkCount "sorted" 1 1 _) (wpAny_pure ?_)
 refine wpAny_bind (collect_list (vs := vs.toList) ⟨_, ho, rfl, m, by simp⟩ ?_ (by rw [sizeLine_eq]; lia))
 refine wpAny_bind (wpAny_newList ?_ (by rw [sizeLine_eq]; lia))
 have hsz : ((s.heap.push (seqObj "list" #[] 0)).update s.heap.objs.size (Obj.mapSeq (· ++ vs.toList.toArray))).objs.size = s.heap.objs.size + 1 := by
  rw [Heap.size_update, size_push']
 have hoL : (((s.heap.push (seqObj "list" #[] 0)).update s.heap.objs.size (Obj.mapSeq (· ++ vs.toList.toArray))).push (seqObj "list" vs.toList.toArray 0)).get? (s.heap.objs.size + 1) = some (listOf vs.toList.toArray 0) := by
  rw [← hsz]; exact Heap.get?_push_size _ rfl
 have kp : HeapLe s.heap (((s.heap.push (seqObj "list" #[] 0)).update s.heap.objs.size (Obj.mapSeq (· ++ vs.toList.toArray))).push (seqObj "list" vs.toList.toArray 0)) := fun b o q => by
  have hlt : b < s.heap.objs.size := Heap.lt_size q
  rw [Heap.get?_push_ne _ _ _ (by rw [hsz]; exact Nat.ne_of_lt (Nat.lt_succ_of_lt hlt)), Heap.get?_update_ne _ _ _ _ (Nat.ne_of_lt hlt), Heap.get?_push_ne _ _ _ (Nat.ne_of_lt hlt)]
  exact q
 show wpAny _ _ _ _ _ { s with heap := ((s.heap.push (seqObj "list" #[] 0)).update s.heap.objs.size (Obj.mapSeq (· ++ vs.toList.toArray))).push (seqObj "list" vs.toList.toArray 0) }
 rw [hsz]
 have hDn : s.heap.get? (s.heap.objs.size + 1) = Option.none := Heap.get?_none_of_le (Nat.le_succ _)
 have off : s.heap.objs.size + 1 ∉ ν ∧ g.get? (s.heap.objs.size + 1) = Option.none := by
  refine ⟨fun q => ?_, ?_⟩
  ·obtain ⟨o, ho⟩ := S.held _ q; rw [hDn] at ho; cases ho
  ·cases q : g.get? (s.heap.objs.size + 1) with
   | none => rfl
   | some o => have := S.sub _ _ q; rw [hDn] at this; cases this
 have S' := S.ext (t := s.toks) kp
 have st : Step [] ν g s ν g { s with heap := ((s.heap.push (seqObj "list" #[] 0)).update s.heap.objs.size (Obj.mapSeq (· ++ vs.toList.toArray))).push (seqObj "list" vs.toList.toArray 0), toks := s.toks } := .ext kp
 refine wpAny_bind (wpAny_holding (wpAny_call_entry slot_list_sort ⟨_, hoL, rfl⟩ entry_list_sort (wpAny_mono (sort_made (Q := Q) (E := Fal) o hn h6 (fun h2 => hcmp h2 g _ _ S'.sub hr') (by have := hA.units; show A.units + 1 + 1 + 60 < _; lia) hoL hDn off S' st hr' h) (fun fin s₂ ⟨v, e, q⟩ => ⟨v, e, wpAny_pure ⟨_, rfl, q⟩⟩) fun z' z' x => x.elim) (args_list_sort _)))
end
section
variable {Γ : Cx} {n : Nat} {env : Env} {ρ : Rho} {σ : Sto} {ν ν' : List Addr} {g g' : Heap} {s s' : Shared} {A : Around} {I D C : Addr} {ds : List PV} {d : PV}
theorem dctSrc {a : Addr} (es : List DictEntry) (ep : Nat) (lo : (a == sysModules) = false) : KdlSrc Γ.prog Γ.w "dict" a a es.length (fun i v => ∃ e, es[i]? = some e ∧ v = e.key) (fun h => h.get? a = some (dictOf es ep)) where
 type := fun z' hm => ⟨_, hm, rfl⟩
 there := fun z' hm => ⟨Heap.lt_size hm, Heap.lt_size hm⟩
 keep := fun z' z' hm hk => hk a (.inl rfl) _ hm
 notList := by decide
 notTuple := by decide
 hint := fun z' z' z' z' hm hq => kdl_hint_dict ⟨_, hm, rfl⟩ hq
 iter := fun A s hh hm => ⟨_, fun i h => h.IsKeyIter s.heap.objs.size a i es.length ep ∧ h.get? a = some (dictOf es ep), (fun z' z' hq => keyiter_start lo hm hq), walks_keys hh _ a (Nat.ne_of_lt (Heap.lt_size hm)) es ep, ⟨⟨_, Heap.get?_push_size _ rfl, rfl, rfl⟩, Heap.get?_push_of_some _ hm⟩⟩
theorem repAll_of : ∀ {vs : List Value} {xs : List PV}, vs.length = xs.length → (∀ (j : Nat) (v : Value) (d : PV), vs[j]? = some v → xs[j]? = some d → Rep Γ.prog Γ.w g v d) → RepAll Γ.prog Γ.w g vs xs
 | [], [], _, _ => .nil
 | [], _ :: _, h, _ => by simp at h
 | _ :: _, [], h, _ => by simp at h
 | v :: vs, d :: ds, hl, h => .cons (h 0 v d rfl rfl) (repAll_of (by simpa using hl) fun j v d h1 h2 => h (j + 1) v d (by simpa using h1) (by simpa using h2))
theorem w_sortedD {α : Type} [Inhabited α] {embK : α → Key} {lt : α → α → Bool} {ks : List α} {v : V} {f : Fla} {kvs : List (Key × V)} {Q : V → Sto → Prop} (o : STO lt) (hn : ks.Nodup) (h6 : ks.length ≤ 6) (hv : DctV σ v f kvs) (hks : kvs.map (·.1) = ks.map embK)
  (hcmp : 2 ≤ ks.length → ∀ (g : Heap) (s : Shared) (vs : List Value), HeapLe g s.heap → RepAll Γ.prog Γ.w g vs (ks.map fun a => (embK a).pv) → CmpOK Γ g s vs (fun i j => lt (ks.getD i default) (ks.getD j default)))
  (h : ∀ ks' : List α, ks'.Perm ks → ks'.Pairwise (fun a b => lt a b = true) → Q (.t (.lst (ks'.map fun a => (embK a).pv))) σ) : WC Γ n (.builtin "sorted") [v] σ Q := fun A s ν g ys hA S r => by
 obtain ⟨y, rfl, r1⟩ := r.inv1
 obtain ⟨a, es, m, rfl, z, ho, hk, hr⟩ := hv.at_ S r1
 have hl : es.length = ks.length := by
  have e1 := hr.length
  have e2 := congrArg List.length hks
  simp at e2; lia
 refine Calls.call_function_entry kind_sorted plain_sorted entry_sorted (args_sorted1 _) ?_
 unfold Builtin.«sorted»
 refine wpAny_bind (m := checkCount "sorted" 1 1 _) (wpAny_pure ?_)
 refine wpAny_bind (kdu_collect (A := A.in1) (dctSrc es m z) hA.hd ho (by rw [sizeLine_eq]; lia) fun h' tk acc hk' hacc => ?_)
 have hal : acc.toList.length = ks.length := by rw [Array.length_toList]; exact hacc.1.trans hl
 refine wpAny_bind (wpAny_newList ?_ (by rw [hal, sizeLine_eq]; lia))
 have hr' : RepAll Γ.prog Γ.w g acc.toList (ks.map fun a => (embK a).pv) := repAll_of (by rw [hal, List.length_map]) fun j v d hv hd => by
  obtain ⟨e, he, rfl⟩ := hacc.2 j v (by rw [← Array.getElem?_toList]; exact hv)
  obtain ⟨p, hp, q1, _⟩ := hr.get' j e he
  rw [List.getElem?_map] at hd
  have hp' : (kvs.map (·.1))[j]? = some p.1 := by rw [List.getElem?_map, hp]; rfl
  rw [hks, List.getElem?_map] at hp'
  cases q : ks[j]? with
  | none => rw [q] at hd; cases hd
  | some b =>
   rw [q] at hd hp'; cases hd
   have e4 : embK b = p.1 := Option.some.inj hp'
   show Rep Γ.prog Γ.w g e.key (embK b).pv
   rw [e4]
   exact RepKey.pv q1
 have kp : HeapLe s.heap (h'.push (seqObj "list" acc.toList.toArray 0)) := fun b o e => Heap.get?_push_of_some _ (hk' b o e)
 have hDn : s.heap.get? h'.objs.size = Option.none := by
  cases q : s.heap.get? h'.objs.size with
  | none => rfl
  | some o => have := hk' _ _ q; rw [get?_size] at this; cases this
 have off : h'.objs.size ∉ ν ∧ g.get? h'.objs.size = Option.none := by
  refine ⟨fun q => ?_, ?_⟩
  ·obtain ⟨o, ho⟩ := S.held _ q; rw [hDn] at ho; cases ho
  ·cases q : g.get? h'.objs.size with
   | none => rfl
   | some o => have := S.sub _ _ q; rw [hDn] at this; cases this
 have S' := S.ext (t := tk) kp
 have st : Step [] ν g s ν g { s with heap := h'.push (seqObj "list" acc.toList.toArray 0), toks := tk } := .ext kp
 refine wpAny_bind (wpAny_holding (wpAny_call_entry slot_list_sort ⟨_, Heap.get?_push_size _ rfl, rfl⟩ entry_list_sort (wpAny_mono (sort_made (Q := Q) (E := Fal) (emb := fun a => (embK a).pv) o hn h6 (fun h2 => hcmp h2 g _ _ S'.sub hr') (by have := hA.units; show A.units + 1 + 1 + 60 < _; lia) (Heap.get?_push_size _ rfl) hDn off S' st hr' h) (fun fin s₂ ⟨v, e, q⟩ => ⟨v, e, wpAny_pure ⟨_, rfl, q⟩⟩) fun z' z' x => x.elim) (args_list_sort _)))
end
noncomputable def wayP (w : List Int) : PV := .tup [.int w.length, .lst (w.map .int)]
noncomputable def ltW (a b : List Int) : Bool := if a.length = b.length then ltI a b else decide (a.length < b.length)
section
variable {Γ : Cx} {n : Nat} {env : Env} {ρ : Rho} {σ : Sto} {ν ν' : List Addr} {g g' : Heap} {s s' : Shared} {A : Around} {I D C : Addr} {ds : List PV} {d : PV}
theorem eqAt_pv (k : Nat) {a b : PV} {x y : Value} (sub : HeapLe g s.heap) (ha : PV.ok k a = true) (hb : PV.ok k b = true) (r1 : Rep Γ.prog Γ.w g x a) (r2 : Rep Γ.prog Γ.w g y b) (hu : A.units + 24 < cLine) (hk : k ≤ 20 := by decide) :
  SeqAt.EqAt A s x y (PyData.eqv (a.dat k) (b.dat k)) := by
 obtain ⟨as, q1⟩ := reads_of k (Rep.mono sub r1) ha
 obtain ⟨bs, q2⟩ := reads_of k (Rep.mono sub r2) hb
 have h1 := dat_lay k a ha
 have h2 := dat_lay k b hb
 exact SeqAt.eqAt_reads _ _ A s x y as bs q1 q2 h1.1 h2.1 (by have := h1.2; lia)
theorem lstI_inj {l m : List Int} (h : PV.lst (l.map .int) = .lst (m.map .int)) : l = m := (List.map_inj_right (f := PV.int) fun a b h => PV.int.inj h).mp (PV.lst.inj h)
theorem oks_ints (l : List Int) (k : Nat) : PV.oks k (l.map .int) = true := by
 unfold PV.oks
 rw [List.all_map]
 exact List.all_eq_true.mpr fun x z' => by cases k <;> rfl
theorem intsAt_of {vs : Array Value} {l : List Int} (h : RepAll Γ.prog Γ.w g vs.toList (l.map .int)) : IntsAt vs l := by
 have hl := h.all2.length
 refine ⟨by simpa using hl, fun i k hk => ?_⟩
 obtain ⟨v, hv, r⟩ := h.all2.get i (.int k) (by rw [List.getElem?_map, hk]; rfl)
 obtain ⟨t, rfl⟩ := Rep.int_inv r
 exact ⟨t, by rw [← Array.getElem?_toList]; exact hv⟩
theorem meets_list_lt (a b : Addr) (xs ys : Array Value) (m k : Nat) (ls ms : List Int) (hx : IntsAt xs ls) (hy : IntsAt ys ms) : Meets (Builtin.«list.__lt__» ⟨[.ref a, .ref b], []⟩)
   (fun z' R s => s.heap.get? a = some (listOf xs m) ∧ s.heap.get? b = some (listOf ys k) ∧ R (.ok (.ret (.bool (ltI ls ms)))) s) := by
 intro prog w A R s ⟨ha, hb, h⟩
 show wpAny _ _ (isInstance (.ref b) (.type "list") >>= _) _ _ s
 refine wpAny_bind (wpAny_isInstance (T := "list") (b := true) ⟨_, hb, rfl⟩ (by rw [isSubtype_type]; kernel_rfl) ?_)
 exact wpAny_pure ⟨plainId_quiet MeetsSeq3.plain_eq_loop _, codeAny_builtin MeetsSeq3.entry_eq_loop (by
  rw [Around.under_plainId MeetsSeq3.plain_eq_loop _]
  exact lt_loop a b xs ys m k ls ms hx hy ls.length 0 (by simp) prog w A R s ⟨ha, hb, h⟩)⟩
theorem rc_list_lt {x y : Value} {l m : List Int} {E : Value → Shared → Prop} {Q : Value → Shared → Prop} (sub : HeapLe g s.heap) (r1 : Rep Γ.prog Γ.w g x (.lst (l.map .int))) (r2 : Rep Γ.prog Γ.w g y (.lst (m.map .int))) (hu : A.units < cLine) (h : Q (.bool (ltI l m)) s) :
  wpAny (model Γ.prog Γ.w) A (richCompare .Lt x y) Q E s := by
 obtain ⟨a, vs, i, rfl, hg, hr⟩ := Rep.lst_inv r1
 obtain ⟨b, us, j, rfl, hg', hr'⟩ := Rep.lst_inv r2
 have ha := sub _ _ hg
 have hb := sub _ _ hg'
 refine wpAny_richCompare_same_room (op := .Lt) (T := "list") ⟨_, ha, rfl⟩ ⟨_, hb, rfl⟩ PySem.F.slot_list_lt ?_ hu
 exact call_meets PySem.F.slot_list_lt ⟨_, ha, rfl⟩ PySem.F.entry_list_lt (PySem.F.args_list_lt_2 _ _) (meets_list_lt a b vs us i j l m (intsAt_of hr) (intsAt_of hr')) ⟨ha, hb, (show (_ ∧ _ : Prop) from ⟨(fun x => nomatch x), h⟩)⟩
theorem cmp_ofLt' {M : Model} {A : Around} {E : Value → Shared → Prop} {s : Shared} {a b : Value} {Q : Value → Shared → Prop} (h : wpAny M A (compareOp .Lt a b) Q E s) : wpAny M A (richCompare .Lt a b) Q E s := h
theorem rc_way_lt {x y : Value} {l m : List Int} {E : Value → Shared → Prop} {Q : Value → Shared → Prop} (sub : HeapLe g s.heap) (r1 : Rep Γ.prog Γ.w g x (wayP l)) (r2 : Rep Γ.prog Γ.w g y (wayP m)) (hu : A.units + 60 < cLine) (h : Q (.bool (ltW l m)) s) :
  wpAny (model Γ.prog Γ.w) A (richCompare .Lt x y) Q E s := by
 obtain ⟨a, vs, i, rfl, hg, hr⟩ := Rep.tup_inv r1
 obtain ⟨b, us, j, rfl, hg', hr'⟩ := Rep.tup_inv r2
 have ha := sub _ _ hg
 have hb := sub _ _ hg'
 refine wpAny_richCompare_same_room (op := .Lt) (T := "tuple") ⟨_, ha, rfl⟩ ⟨_, hb, rfl⟩ PySem.F.slot_tuple_lt ?_ (by lia)
 refine wpAny_call_entry PySem.F.slot_tuple_lt ⟨_, ha, rfl⟩ PySem.F.entry_tuple_lt ?_ (PySem.F.args_tuple_lt_2 _ _)
 show wpAny _ _ (isInstance (.ref b) (.type "tuple") >>= _) _ _ s
 refine wpAny_bind (wpAny_isInstance (T := "tuple") (b := true) ⟨_, hb, rfl⟩ (by rw [isSubtype_type]; kernel_rfl) ?_)
 rw [Bool.not_true, if_neg Bool.false_ne_true]
 refine wpAny_bind (wpAny_tupleItemsOf ha rfl (wpAny_bind (wpAny_tupleItemsOf hb rfl ?_)))
 obtain ⟨v1, v2, ev, q1, q2⟩ := hr.all2.inv2
 obtain ⟨u1, u2, eu, p1, p2⟩ := hr'.all2.inv2
 rw [ev, eu]
 obtain ⟨t1, rfl⟩ := Rep.int_inv q1
 obtain ⟨t2, rfl⟩ := Rep.int_inv p1
 have fin : ∀ b : Bool, b = ltW l m → (∃ v, (Fin.done (.ret (Value.bool b)) : PySem.Fin) = .done (.ret v) ∧ v ≠ .notImplemented ∧ Q v s) := fun b e => ⟨_, rfl, (fun x => nomatch x), e ▸ h⟩
 have hsz : vs.size = 2 := by have := congrArg List.length ev; simpa using this
 have hsz' : us.size = 2 := by have := congrArg List.length eu; simpa using this
 rw [List.zip_cons_cons, List.zip_cons_cons, List.zip_nil_left, List.forIn_cons]
 refine wpAny_bind ?_
 refine wpAny_bind (wpAny_bind (wpAny_eqBool_int ?_))
 by_cases hc : l.length = m.length
 ·rw [if_neg (by simp [hc])]
  refine wpAny_pure ?_
  dsimp only
  rw [List.forIn_cons]
  have he := eqAt_pv (Γ := Γ) 1 (A := A.in1) (s := s) sub (a := .lst (l.map .int)) (b := .lst (m.map .int)) (oks_ints l 0) (oks_ints m 0) q2 p2 (by show A.units + 1 + 24 < _; lia)
  refine wpAny_bind (wpAny_bind (he _ _ _ _ ?_))
  cases q : PyData.eqv ((PV.lst (l.map .int)).dat 1) ((PV.lst (m.map .int)).dat 1) with
  | true =>
   have e : l = m := by
    have := (eqv_iff 1 (.lst (l.map .int)) (.lst (m.map .int)) (oks_ints l 0) (oks_ints m 0)).mp q
    exact lstI_inj this
   rw [if_neg (by simp)]
   refine wpAny_pure ?_
   dsimp only
   rw [List.forIn_nil]
   refine wpAny_pure ?_
   dsimp only
   rw [hsz, hsz']
   refine wpAny_pure (fin _ ?_)
   subst e
   unfold ltW
   rw [if_pos rfl]
   have : ∀ l : List Int, ltI l l = false := fun l => by induction l with | nil => rfl | cons a r ih => rw [ltI_cons, if_pos rfl]; exact ih
   rw [this]; decide
  | false =>
   rw [if_pos (by simp)]
   refine wpAny_bind (wpAny_rule (wpAny_bind (rc_list_lt (Γ := Γ) (A := A.in1) sub q2 p2 (by show A.units + 1 < _; lia) ?_)))
   refine wpAny_pure (wpAny_pure (wpAny_pure (fin _ ?_)))
   unfold ltW
   rw [if_pos hc]
 ·rw [if_pos (by simp; lia)]
  refine wpAny_bind (wpAny_rule (wpAny_bind (cmp_ofLt' (PyProof.Rows.lt_int ?_))))
  refine wpAny_pure (wpAny_pure (wpAny_pure (fin _ ?_)))
  unfold ltW
  rw [if_neg hc]
  simp
end
theorem ltI_irr (l : List Int) : ltI l l = false := by
 induction l with
 | nil => rfl
 | cons a r ih => rw [ltI_cons, if_pos rfl]; exact ih
theorem ltI_trans (a b c : List Int) (h1 : ltI a b = true) (h2 : ltI b c = true) : ltI a c = true := by
 induction a generalizing b c with
 | nil => cases c with
  | nil => cases b <;> cases h2
  | cons => rfl
 | cons x a ih => cases b with
  | nil => cases h1
  | cons y b => cases c with
   | nil => cases h2
   | cons z c =>
    rw [ltI_cons] at h1 h2 ⊢
    by_cases e : x = y
    ·rw [if_pos e] at h1; subst e
     by_cases e' : x = z
     ·rw [if_pos e'] at h2 ⊢; exact ih b c h1 h2
     ·rw [if_neg e'] at h2 ⊢; exact h2
    ·rw [if_neg e] at h1
     by_cases e' : y = z
     ·subst e'; rw [if_neg e]; exact h1
     ·rw [if_neg e'] at h2
      have h := Int.lt_trans (of_decide_eq_true h1) (of_decide_eq_true h2)
      rw [if_neg (Int.ne_of_lt h)]; exact decide_eq_true h
theorem ltI_tot (a b : List Int) (h : a ≠ b) : ltI a b = true ∨ ltI b a = true := by
 induction a generalizing b with
 | nil => cases b with
  | nil => exact absurd rfl h
  | cons => exact .inl rfl
 | cons x a ih => cases b with
  | nil => exact .inr rfl
  | cons y b =>
   rw [ltI_cons, ltI_cons]
   by_cases e : x = y
   ·subst e
    rw [if_pos rfl, if_pos rfl]
    exact ih b fun q => h (q ▸ rfl)
   ·rw [if_neg e, if_neg (Ne.symm e)]
    exact (Int.lt_or_gt_of_ne e).imp decide_eq_true decide_eq_true
theorem stoW : STO ltW := by
 refine ⟨fun a => (if_pos rfl).trans (ltI_irr a), fun a b c h1 h2 => ?_, fun a b h => ?_⟩
 ·unfold ltW at *
  by_cases e : a.length = b.length
  ·rw [if_pos e] at h1
   by_cases e' : b.length = c.length
   ·rw [if_pos e'] at h2; rw [if_pos (e.trans e')]; exact ltI_trans a b c h1 h2
   ·rw [if_neg e'] at h2; rw [e, if_neg e']; exact h2
  ·rw [if_neg e] at h1
   by_cases e' : b.length = c.length
   ·rw [← e', if_neg e]; exact h1
   ·rw [if_neg e'] at h2
    have h := Nat.lt_trans (of_decide_eq_true h1) (of_decide_eq_true h2)
    rw [if_neg (Nat.ne_of_lt h)]; exact decide_eq_true h
 ·unfold ltW
  by_cases e : a.length = b.length
  ·rw [if_pos e, if_pos e.symm]; exact ltI_tot a b h
  ·rw [if_neg e, if_neg (Ne.symm e)]; exact (Nat.lt_or_gt_of_ne e).imp decide_eq_true decide_eq_true
noncomputable def ltP (a b : List Int × Int) : Bool := if a.1 = b.1 then decide (a.2 < b.2) else ltW a.1 b.1
theorem stoP : STO ltP := by
 refine ⟨fun a => (if_pos rfl).trans (decide_eq_false (Int.lt_irrefl _)), fun a b c h1 h2 => ?_, fun a b h => ?_⟩
 ·unfold ltP at *
  by_cases e : a.1 = b.1
  ·rw [if_pos e] at h1
   by_cases e' : b.1 = c.1
   ·rw [if_pos e'] at h2; rw [if_pos (e.trans e')]; exact decide_eq_true (Int.lt_trans (of_decide_eq_true h1) (of_decide_eq_true h2))
   ·rw [if_neg e'] at h2; rw [e, if_neg e']; exact h2
  ·rw [if_neg e] at h1
   by_cases e' : b.1 = c.1
   ·rw [← e', if_neg e]; exact h1
   ·rw [if_neg e'] at h2
    have h3 := stoW.trans _ _ _ h1 h2
    rw [if_neg (fun q => by rw [q, stoW.irr] at h3; cases h3)]; exact h3
 ·unfold ltP
  by_cases e : a.1 = b.1
  ·rw [if_pos e, if_pos e.symm]
   exact (Int.lt_or_gt_of_ne fun q => h (Prod.ext e q)).imp decide_eq_true decide_eq_true
  ·rw [if_neg e, if_neg (Ne.symm e)]; exact stoW.tot _ _ e
noncomputable def ltZ (a b : Int) : Bool := decide (a < b)
theorem stoZ : STO ltZ := ⟨fun a => decide_eq_false (Int.lt_irrefl _), fun a b c h1 h2 => decide_eq_true (Int.lt_trans (of_decide_eq_true h1) (of_decide_eq_true h2)), fun a b h => (Int.lt_or_gt_of_ne h).imp decide_eq_true decide_eq_true⟩
section
variable {Γ : Cx} {n : Nat} {env : Env} {ρ : Rho} {σ : Sto} {ν ν' : List Addr} {g g' : Heap} {s s' : Shared} {A : Around} {I D C : Addr} {ds : List PV} {d : PV}
theorem v_ltW {l m : List Int} {Q : V → Sto → Prop} (h : Q (.t (.bool (ltW l m))) σ) : WV2 Γ n (.t (wayP l)) (.t (wayP m)) (compareOp .Lt) σ Q := fun A s ν g x y hA S r1 r2 =>
 show wpAny _ _ (richCompare .Lt x y) _ _ _ from rc_way_lt S.sub r1 r2 (by have := hA.units; lia) ⟨ν, g, σ, .t (.bool _), .refl .., S, Rep.bool _, h⟩
theorem katTups_of {f : Value → Value} {vs : List Value} (h : ∀ v ∈ vs, ∃ a xs n, v = .ref a ∧ s.heap.get? a = some (tupOf xs n) ∧ xs[0]? = some (f v)) : KatTups s.heap vs (vs.map f) := by
 induction vs with
 | nil => exact .nil
 | cons v vs ih =>
  obtain ⟨a, xs, n, e, ho, hf⟩ := h v (.head _)
  subst e
  exact .cons ho rfl rfl hf (ih fun u hu => h u (.tail _ hu))
theorem looks_of_type {M : Model} {h : Heap} {v T : Value} (e : typeOf v = pure T) : Looks M h (typeOf v) T := Looks.of_pure e
theorem getD_at {α : Type} {l : List α} {i : Nat} {d : α} (h : i < l.length) : l.getD i d = l[i] := by rw [List.getD_eq_getElem?_getD, List.getElem?_eq_getElem h]; rfl
noncomputable def item0 (h : Heap) (v : Value) : Value := match v with
 | .ref a => (h.get? a).elim Value.none fun o => match o.data with
  | .seq xs _ => (xs[0]?).getD Value.none
  | _ => Value.none
 | _ => Value.none
theorem item0_at {h : Heap} {v : Value} {a : Addr} {xs : Array Value} {n : Nat} {x : Value} (e : v = .ref a) (ho : h.get? a = some (tupOf xs n)) (hx : xs[0]? = some x) : item0 h v = x := by
 subst e
 show (h.get? a).elim _ _ = x
 rw [ho]
 show (xs[0]?).getD _ = x
 rw [hx]; rfl
theorem cmp_keys {ks : List Int} {vs : List Value} (sub : HeapLe g s.heap) (hr : RepAll Γ.prog Γ.w g vs (ks.map fun k => (Key.tI [k]).pv)) (h2 : 2 ≤ ks.length) : CmpOK Γ g s vs (fun i j => ltZ (ks.getD i default) (ks.getD j default)) := by
 have hl : vs.length = ks.length := by have := hr.all2.length; simpa using this
 have item : ∀ i (hi : i < vs.length), ∃ a n t, vs[i] = .ref a ∧ g.get? a = some (tupOf #[.int (ks.getD i default) t] n) := fun i hi => by
  have hi' : i < ks.length := by lia
  obtain ⟨b, hb, r⟩ := hr.all2.get' i vs[i] (List.getElem?_eq_getElem hi)
  rw [List.getElem?_map, List.getElem?_eq_getElem hi'] at hb
  cases hb
  obtain ⟨a, us, m, e, hg, hr'⟩ := Rep.tup_inv r
  obtain ⟨u, hu, ru⟩ := hr'.all2.inv1
  obtain ⟨t, rfl⟩ := Rep.int_inv ru
  obtain rfl : us = #[.int ks[i] t] := Array.toList_inj.mp hu
  exact ⟨a, m, t, e, by rw [getD_at hi']; exact hg⟩
 intro A hu
 refine ⟨tuples' (Value.type "int" != Value.type "tuple"), fun E Q s' sub' hQ => ?_, fun i j hi hj C s' sub' hC => ?_⟩
 ·have hf : ∀ v ∈ vs, ∃ a xs n, v = .ref a ∧ s'.heap.get? a = some (tupOf xs n) ∧ xs[0]? = some (item0 s'.heap v) ∧ ∃ z t, item0 s'.heap v = .int z t := fun v hv => by
   obtain ⟨i, hi, rfl⟩ := List.mem_iff_getElem.mp hv
   obtain ⟨a, m, t, e, hg⟩ := item i hi
   have hs := sub' _ _ hg
   have q := item0_at e hs rfl
   exact ⟨a, _, m, e, hs, by rw [q]; rfl, _, t, q⟩
  have kt := katTups_of (s := s') (f := item0 s'.heap) (vs := vs) fun v hv => by obtain ⟨a, xs, n, h1, h2, h3, _⟩ := hf v hv; exact ⟨a, xs, n, h1, h2, h3⟩
  refine kat_kind kt (by simp; lia) (T := .type "int") (fun v hv => ?_) (by decide) hQ
  obtain ⟨u, hu, rfl⟩ := List.mem_map.mp hv
  obtain ⟨_, _, _, _, _, _, z, t, e⟩ := hf u hu
  rw [e]
  exact looks_of_type rfl
 ·dsimp only at hC
  obtain ⟨a, m, t, e, hg⟩ := item i hi
  obtain ⟨b, m', t', e', hg'⟩ := item j hj
  unfold kas_ask
  have e1 : vs.getD i Value.none = .ref a := (getD_at hi).trans e
  have e2 : vs.getD j Value.none = .ref b := (getD_at hj).trans e'
  rw [e1, e2]
  refine kat_lt (sub' _ _ hg) rfl (sub' _ _ hg') rfl ?_
  refine kat_cons (wpAny_eqBool_int ?_)
  refine kat_go (fun he => kat_yes (kat_nil ?_)) fun he => kat_no ?_
  ·rw [eq_of_beq he, stoZ.irr] at hC
   simpa using hC
  ·exact oneLt_int hC
theorem wayP_inj {a b : List Int} (h : wayP a = wayP b) : a = b := lstI_inj (List.cons.inj (List.cons.inj (PV.tup.inj h)).2).1
noncomputable def pairP (a : List Int × Int) : PV := .tup [wayP a.1, .int a.2]
theorem cmp_ways {ks : List (List Int × Int)} {vs : List Value} (sub : HeapLe g s.heap) (hr : RepAll Γ.prog Γ.w g vs (ks.map pairP)) (h2 : 2 ≤ ks.length) : CmpOK Γ g s vs (fun i j => ltP (ks.getD i default) (ks.getD j default)) := by
 have hl : vs.length = ks.length := by have := hr.all2.length; simpa using this
 have item : ∀ i (hi : i < vs.length), ∃ a n t x, vs[i] = .ref a ∧ g.get? a = some (tupOf #[x, .int (ks.getD i default).2 t] n) ∧ Rep Γ.prog Γ.w g x (wayP (ks.getD i default).1) := fun i hi => by
  have hi' : i < ks.length := by lia
  obtain ⟨b, hb, r⟩ := hr.all2.get' i vs[i] (List.getElem?_eq_getElem hi)
  rw [List.getElem?_map, List.getElem?_eq_getElem hi'] at hb
  cases hb
  obtain ⟨a, us, m, e, hg, hr'⟩ := Rep.tup_inv r
  obtain ⟨x, u, hu, rx, ru⟩ := hr'.all2.inv2
  obtain ⟨t, rfl⟩ := Rep.int_inv ru
  obtain rfl : us = #[x, .int ks[i].2 t] := Array.toList_inj.mp hu
  rw [getD_at hi']
  exact ⟨a, m, t, x, e, hg, rx⟩
 intro A hu
 refine ⟨tuples' (Value.type "tuple" != Value.type "tuple"), fun E Q s' sub' hQ => ?_, fun i j hi hj C s' sub' hC => ?_⟩
 ·have hf : ∀ v ∈ vs, ∃ a xs n, v = .ref a ∧ s'.heap.get? a = some (tupOf xs n) ∧ xs[0]? = some (item0 s'.heap v) ∧ ∃ l, Rep Γ.prog Γ.w g (item0 s'.heap v) (wayP l) := fun v hv => by
   obtain ⟨i, hi, rfl⟩ := List.mem_iff_getElem.mp hv
   obtain ⟨a, m, t, x, e, hg, rx⟩ := item i hi
   have hs := sub' _ _ hg
   have q := item0_at (x := x) e hs rfl
   exact ⟨a, _, m, e, hs, by rw [q]; rfl, _, q.symm ▸ rx⟩
  have kt := katTups_of (s := s') (f := item0 s'.heap) (vs := vs) fun v hv => by obtain ⟨a, xs, n, h1, h2, h3, _⟩ := hf v hv; exact ⟨a, xs, n, h1, h2, h3⟩
  refine kat_kind kt (by simp; lia) (T := .type "tuple") (fun v hv => ?_) (by decide) hQ
  obtain ⟨u, hu, rfl⟩ := List.mem_map.mp hv
  obtain ⟨_, _, _, _, _, _, l, r⟩ := hf u hu
  obtain ⟨c, ws, k, e, hg, _⟩ := Rep.tup_inv r
  rw [e]
  exact (Looks.ld (sub' _ _ hg)).andThen .now
 ·dsimp only at hC
  obtain ⟨a, m, t, x, e, hg, rx⟩ := item i hi
  obtain ⟨b, m', t', y, e', hg', ry⟩ := item j hj
  unfold kas_ask
  have e1 : vs.getD i Value.none = .ref a := (getD_at hi).trans e
  have e2 : vs.getD j Value.none = .ref b := (getD_at hj).trans e'
  rw [e1, e2]
  refine kat_lt (sub' _ _ hg) rfl (sub' _ _ hg') rfl ?_
  have okw : ∀ l : List Int, PV.ok 2 (wayP l) = true := fun l => (Bool.and_true _).trans (oks_ints l 0)
  refine kat_cons ((eqAt_pv (Γ := Γ) 2 (A := A) (s := s') sub' (okw _) (okw _) rx ry (by lia)) _ _ _ _ ?_)
  refine kat_go (fun he => kat_yes ?_) fun he => kat_no (kat_one _ _ ?_)
  ·have ew : (ks.getD i default).1 = (ks.getD j default).1 := wayP_inj ((eqv_iff 2 _ _ (okw _) (okw _)).mp he)
   have el : ltP (ks.getD i default) (ks.getD j default) = decide ((ks.getD i default).2 < (ks.getD j default).2) := by unfold ltP; rw [if_pos ew]
   rw [el] at hC
   refine kat_cons (wpAny_eqBool_int ?_)
   refine kat_go (fun he => kat_yes (kat_nil ?_)) fun he => kat_no (kat_one _ _ (PyProof.Rows.lt_int ?_))
   ·rw [eq_of_beq he] at hC
    simpa using hC
   ·exact hC
  ·have ew : (ks.getD i default).1 ≠ (ks.getD j default).1 := fun q => by
    have := (eqv_iff 2 _ _ (okw (ks.getD i default).1) (okw (ks.getD j default).1)).mpr (by rw [q])
    rw [this] at he; cases he
   have el : ltP (ks.getD i default) (ks.getD j default) = ltW (ks.getD i default).1 (ks.getD j default).1 := by unfold ltP; rw [if_neg ew]
   rw [el] at hC
   exact show wpAny _ _ (richCompare .Lt x y) _ _ _ from rc_way_lt sub' rx ry hu hC
end
open PySem.Challenge
noncomputable def D (i : Nat) : Stmt := pw_pq1064_01.main.body.getD i default
noncomputable def bodyOf : Stmt → List Stmt
 | .ClassDef _ _ _ b .. => b
 | .FunctionDef _ _ b .. => b
 | .For _ _ b _ _ => b
 | .While _ b _ _ => b
 | .If _ b _ _ => b
 | _ => []
noncomputable def meth (s : Stmt) (j : Nat) : Stmt := (bodyOf s).getD j default
noncomputable def fdOf (s : Stmt) (qual : Str) (code : Addr) (dfl : Value) (mod : Str) (tok : Nat) : FuncData := match s with
 | .FunctionDef n ps b _ _ _ sc _ _ _ => { name := n, qualname := qual, params := ps, body := .stmts b, scope := sc, globals := mainGlobals, closure := [], defaults := dfl, kwdefaults := .none, doc := .none, pyModule := .str mod tok, annotations := Option.none, code := .ref code, closureTuple := .none, builtins := builtinsNs }
 | _ => default
noncomputable def fnObj (fd : FuncData) : Obj := { cls := .type "function", dict := Option.none, data := .func fd }
noncomputable def fd2m0 : FuncData := fdOf (meth (D 2) 0) (ofString "WallFault.__init__") 34 .none (ofString "siftwall.faults") 194
noncomputable def fd5m0 : FuncData := fdOf (meth (D 5) 0) (ofString "Refused.__init__") 78 .none (ofString "siftwall.faults") 194
noncomputable def fd6 : FuncData := fdOf (D 6) (ofString "words_of") 90 .none (ofString "siftwall.faults") 194
noncomputable def fd7 : FuncData := fdOf (D 7) (ofString "refused") 97 .none (ofString "siftwall.faults") 194
noncomputable def fd9m0 : FuncData := fdOf (meth (D 9) 0) (ofString "Counter.__init__") 112 (.ref 106) (ofString "siftwall.meters") 299
noncomputable def fd14 : FuncData := fdOf (D 14) (ofString "make_cell") 183 .none (ofString "siftwall.meters") 299
noncomputable def fd15 : FuncData := fdOf (D 15) (ofString "cells_of") 190 .none (ofString "siftwall.meters") 299
noncomputable def fd17m0 : FuncData := fdOf (meth (D 17) 0) (ofString "Rule.__init__") 205 (.ref 199) (ofString "siftwall.book") 447
noncomputable def fd18m0 : FuncData := fdOf (meth (D 18) 0) (ofString "Chain.__init__") 227 (.ref 221) (ofString "siftwall.book") 447
noncomputable def fd19m0 : FuncData := fdOf (meth (D 19) 0) (ofString "Table.__init__") 248 .none (ofString "siftwall.book") 447
noncomputable def fd20 : FuncData := fdOf (D 20) (ofString "find_set") 262 .none (ofString "siftwall.book") 447
noncomputable def fd21 : FuncData := fdOf (D 21) (ofString "uses_of_verdict") 269 .none (ofString "siftwall.book") 447
noncomputable def fd22 : FuncData := fdOf (D 22) (ofString "uses_of_where") 276 .none (ofString "siftwall.book") 447
noncomputable def fd23 : FuncData := fdOf (D 23) (ofString "uses_of_e") 283 .none (ofString "siftwall.book") 447
noncomputable def fd24 : FuncData := fdOf (D 24) (ofString "uses_of_statement") 290 .none (ofString "siftwall.book") 447
noncomputable def fd25 : FuncData := fdOf (D 25) (ofString "uses_of") 297 .none (ofString "siftwall.book") 447
noncomputable def fd27 : FuncData := fdOf (D 27) (ofString "statement_targets") 302 .none (ofString "siftwall.batch") 609
noncomputable def fd28 : FuncData := fdOf (D 28) (ofString "chain_targets") 309 .none (ofString "siftwall.batch") 609
noncomputable def fd29 : FuncData := fdOf (D 29) (ofString "has_ring") 314 .none (ofString "siftwall.batch") 609
noncomputable def fd30 : FuncData := fdOf (D 30) (ofString "reached_from") 321 .none (ofString "siftwall.batch") 609
noncomputable def fd32 : FuncData := fdOf (D 32) (ofString "add_use") 328 .none (ofString "siftwall.changeparts") 650
noncomputable def fd33 : FuncData := fdOf (D 33) (ofString "chains_of_elements") 335 .none (ofString "siftwall.changeparts") 650
noncomputable def fd36 : FuncData := fdOf (D 36) (ofString "single_key") 349 .none (ofString "siftwall.stores") 671
noncomputable def fd37m0 : FuncData := fdOf (meth (D 37) 0) (ofString "Element.__init__") 364 (.ref 358) (ofString "siftwall.stores") 671
noncomputable def fd38 : FuncData := fdOf (D 38) (ofString "is_live") 378 .none (ofString "siftwall.stores") 671
noncomputable def fd39m0 : FuncData := fdOf (meth (D 39) 0) (ofString "PlainStore.__init__") 392 .none (ofString "siftwall.stores") 671
noncomputable def fd39m1 : FuncData := fdOf (meth (D 39) 1) (ofString "PlainStore.put") 399 .none (ofString "siftwall.stores") 671
noncomputable def fd39m3 : FuncData := fdOf (meth (D 39) 3) (ofString "PlainStore.find") 413 .none (ofString "siftwall.stores") 671
noncomputable def fd39m5 : FuncData := fdOf (meth (D 39) 5) (ofString "PlainStore.elements") 427 .none (ofString "siftwall.stores") 671
noncomputable def fd40 : FuncData := fdOf (D 40) (ofString "place_in") 455 .none (ofString "siftwall.stores") 671
noncomputable def fd42m0 : FuncData := fdOf (meth (D 42) 0) (ofString "SpanStore.__init__") 476 .none (ofString "siftwall.stores") 671
noncomputable def fd42m1 : FuncData := fdOf (meth (D 42) 1) (ofString "SpanStore.put") 483 .none (ofString "siftwall.stores") 671
noncomputable def fd42m5 : FuncData := fdOf (meth (D 42) 5) (ofString "SpanStore.elements") 511 .none (ofString "siftwall.stores") 671
noncomputable def fd53 : FuncData := fdOf (D 53) (ofString "new_store") 673 .none (ofString "siftwall.sets") 1161
noncomputable def fd54m0 : FuncData := fdOf (meth (D 54) 0) (ofString "SetBody.__init__") 687 .none (ofString "siftwall.sets") 1161
noncomputable def fd56 : FuncData := fdOf (D 56) (ofString "_law_take") 708 .none (ofString "law_pq1064_01") 1217
noncomputable def fd57 : FuncData := fdOf (D 57) (ofString "_law_beside") 715 .none (ofString "law_pq1064_01") 1217
noncomputable def fd58 : FuncData := fdOf (D 58) (ofString "_law_row") 722 .none (ofString "law_pq1064_01") 1217
noncomputable def fd59 : FuncData := fdOf (D 59) (ofString "_law_verdict") 729 .none (ofString "law_pq1064_01") 1217
noncomputable def fd60 : FuncData := fdOf (D 60) (ofString "_law_statements") 736 .none (ofString "law_pq1064_01") 1217
noncomputable def fd61 : FuncData := fdOf (D 61) (ofString "_law_told") 741 .none (ofString "law_pq1064_01") 1217
noncomputable def fd62 : FuncData := fdOf (D 62) (ofString "_law_map") 748 .none (ofString "law_pq1064_01") 1217
noncomputable def fd63 : FuncData := fdOf (D 63) (ofString "_law_goals_by_keys") 755 .none (ofString "law_pq1064_01") 1217
noncomputable def fd64 : FuncData := fdOf (D 64) (ofString "_law_goes_round") 762 .none (ofString "law_pq1064_01") 1217
noncomputable def fd65 : FuncData := fdOf (D 65) (ofString "_law_go") 769 .none (ofString "law_pq1064_01") 1217
noncomputable def fd66 : FuncData := fdOf (D 66) (ofString "_law_due_reached") 774 .none (ofString "law_pq1064_01") 1217
noncomputable def fd67 : FuncData := fdOf (D 67) (ofString "_law_reached") 781 .none (ofString "law_pq1064_01") 1217
noncomputable def fd68 : FuncData := fdOf (D 68) (ofString "_law_left") 788 .none (ofString "law_pq1064_01") 1217
noncomputable def fd69 : FuncData := fdOf (D 69) (ofString "_law_uses_hold") 793 .none (ofString "law_pq1064_01") 1217
noncomputable def fd70 : FuncData := fdOf (D 70) (ofString "_law_holds") 798 .none (ofString "law_pq1064_01") 1217
noncomputable def fd71 : FuncData := fdOf (D 71) (ofString "law") 805 .none (ofString "law_pq1064_01") 1217
noncomputable def fnList : List (Addr × FuncData) := [(35, fd2m0), (79, fd5m0), (91, fd6), (98, fd7), (113, fd9m0), (184, fd14), (191, fd15), (206, fd17m0), (228, fd18m0), (249, fd19m0), (263, fd20), (270, fd21), (277, fd22), (284, fd23), (291, fd24), (298, fd25), (303, fd27), (310, fd28), (315, fd29), (322, fd30), (329, fd32), (336, fd33), (350, fd36), (365, fd37m0), (379, fd38), (393, fd39m0), (400, fd39m1), (414, fd39m3), (428, fd39m5), (456, fd40), (477, fd42m0), (484, fd42m1), (512, fd42m5), (674, fd53), (688, fd54m0), (709, fd56), (716, fd57), (723, fd58), (730, fd59), (737, fd60), (742, fd61), (749, fd62), (756, fd63), (763, fd64), (770, fd65), (775, fd66), (782, fd67), (789, fd68), (794, fd69), (799, fd70), (806, fd71)]
noncomputable def dflList : List (Addr × Obj) := [(106, tupOf #[.int 0 313, .int 0 314] 0), (199, tupOf #[.str (ofString "") 461] 0), (221, tupOf #[.none] 0), (358, tupOf #[.int 0 704] 0)]
noncomputable def refObj : Obj := { cls := .type "type", dict := Option.none, data := .cls { name := ofString "Refused", bases := [.ref 38], mro := [.ref 82, .ref 38, .type "Exception", .type "BaseException", .type "object"], ns := 81, qualname := ofString "Refused", hasDict := true, slotNames := [], subclasses := [], abstract := false, collection := Option.none, hasDel := false }, slots := #[some (.ref 66), Option.none, some (.str (ofString "Refused") 258), some (.str (ofString "Refused") 266), some (.builtin "Exception.__new__"), some (.bool true)] }
noncomputable def objList : List (Addr × Obj) := fnList.map (fun p => (p.1, fnObj p.2)) ++ (dflList ++ [(82, refObj)])
noncomputable def globList : List (Str × Value) := [(ofString "len", .builtin "len"), (ofString "max", .builtin "max"), (ofString "isinstance", .builtin "isinstance"), (ofString "sorted", .builtin "sorted"), (ofString "range", .type "range"), (ofString "str", .type "str"), (ofString "list", .type "list"), (ofString "reversed", .type "reversed"), (ofString "Counter", .ref 116), (ofString "Rule", .ref 209), (ofString "Chain", .ref 231), (ofString "Table", .ref 252), (ofString "Element", .ref 368), (ofString "PlainStore", .ref 445), (ofString "SpanStore", .ref 529), (ofString "SetBody", .ref 698), (ofString "WallFault", .ref 38), (ofString "Refused", .ref 82), (ofString "words_of", .ref 91), (ofString "refused", .ref 98), (ofString "make_cell", .ref 184), (ofString "cells_of", .ref 191), (ofString "find_set", .ref 263), (ofString "uses_of_verdict", .ref 270), (ofString "uses_of_where", .ref 277), (ofString "uses_of_e", .ref 284), (ofString "uses_of_statement", .ref 291), (ofString "uses_of", .ref 298), (ofString "statement_targets", .ref 303), (ofString "chain_targets", .ref 310), (ofString "has_ring", .ref 315), (ofString "reached_from", .ref 322), (ofString "add_use", .ref 329), (ofString "chains_of_elements", .ref 336), (ofString "single_key", .ref 350), (ofString "is_live", .ref 379), (ofString "place_in", .ref 456), (ofString "new_store", .ref 674), (ofString "_law_take", .ref 709), (ofString "_law_beside", .ref 716), (ofString "_law_row", .ref 723), (ofString "_law_verdict", .ref 730), (ofString "_law_statements", .ref 737), (ofString "_law_told", .ref 742), (ofString "_law_map", .ref 749), (ofString "_law_goals_by_keys", .ref 756), (ofString "_law_goes_round", .ref 763), (ofString "_law_go", .ref 770), (ofString "_law_due_reached", .ref 775), (ofString "_law_reached", .ref 782), (ofString "_law_left", .ref 789), (ofString "_law_uses_hold", .ref 794), (ofString "_law_holds", .ref 799), (ofString "law", .ref 806), (ofString "Exception", .type "Exception")]
structure ClsRec where
 c : Addr
 init : Addr
 attrs : List Str
 meths : List (Str × Addr)
noncomputable def clsList : List ClsRec := [⟨116, 113, [ofString "packets", ofString "octets"], []⟩, ⟨209, 206, [ofString "handle", ofString "statements", ofString "comment", ofString "cells", ofString "rows", ofString "sets"], []⟩, ⟨231, 228, [ofString "name", ofString "base", ofString "policy", ofString "handle", ofString "rules"], []⟩, ⟨252, 249, [ofString "family", ofString "name", ofString "handle", ofString "flags", ofString "chains", ofString "sets", ofString "objects", ofString "flows", ofString "uses", ofString "last"], []⟩, ⟨368, 365, [ofString "box", ofString "data", ofString "until", ofString "timeout", ofString "comment", ofString "cells"], []⟩, ⟨445, 393, [ofString "table"], [(ofString "put", 400), (ofString "find", 414), (ofString "elements", 428)]⟩, ⟨529, 477, [ofString "items"], [(ofString "put", 484), (ofString "elements", 512)]⟩, ⟨698, 688, [ofString "name", ofString "spec", ofString "bits", ofString "handle", ofString "is_anonymous", ofString "is_bound", ofString "store"], []⟩]
noncomputable def isStrK : Value → Bool
 | .str _ _ => true
 | _ => false
noncomputable def nsOkD : Data → Bool
 | .dict es _ => es.toList.all fun e => isStrK e.key
 | _ => false
noncomputable def nsOk (K : Frag) (a : Addr) : Bool := (K.lookup a).any fun o => nsOkD o.data
noncomputable def glob (K : Frag) (x : Str) : Option Value := match nsIn K mainGlobals x with
 | some (some v) => some v
 | some Option.none => (match nsIn K builtinsNs x with | some (some v) => some v | _ => Option.none)
 | Option.none => Option.none
noncomputable def clsOk (K : Frag) (r : ClsRec) : Bool := (clsIn K r.c).any (fun cd => cd.hasDict) && findIn K (.ref r.c) "__getattribute__" == some (some (.builtin "object.__getattribute__")) && findIn K (.ref r.c) "__getattr__" == some Option.none &&
 findIn K (.ref r.c) "__setattr__" == some (some (.builtin "object.__setattr__")) && plainOver K r.c && makesIn K r.c && findIn K (.ref r.c) "__init__" == some (some (.ref r.init)) && keepIn K (.ref r.c) &&
 r.attrs.all (fun a => findIn K (.ref r.c) a == some Option.none) && r.meths.all (fun p => findIn K (.ref r.c) p.1 == some (some (.ref p.2)))
noncomputable def isVal (o : Option CFound) (v : Value) : Bool := match o with
 | some (.val u) => u == v
 | _ => false
noncomputable def excOk (K : Frag) : Bool := findIn K (.ref 82) "__init__" == some (some (.ref 79)) && findIn K (.ref 82) "__setattr__" == some (some (.builtin "object.__setattr__")) && findIn K (.ref 82) "__getattribute__" == some (some (.builtin "BaseException.__getattribute__")) &&
 findIn K (.ref 82) "__getattr__" == some Option.none && [ofString "why", ofString "at", ofString "code"].all (fun x => findIn K (.ref 82) x == some Option.none) && keepIn K (.ref 82) && readsIn K 38 (.type "type") &&
 isVal (findCls K (.ref 38) (.type "type") "__init__") (.ref 35) && specialIn K (.ref 38) "__getattribute__" == some (some (.builtin "type.__getattribute__")) && isVal (findCls K (.type "Exception") (.type "type") "__init__") (.builtin "Exception.__init__")
noncomputable def factsB (K : Frag) : Bool := nsOk K mainGlobals && nsOk K builtinsNs && nsOk K cStatics && nsIn K cStatics "sys.recursionlimit" == some Option.none && globList.all (fun p => glob K p.1 == some p.2) && fnList.all (fun p => codeIn K p.2.code p.2.qualname) && clsList.all (clsOk K) && excOk K
structure Facts (K : Frag) : Prop where
 objs : ∀ (i : Nat) (a : Addr) (o : Obj), objList[i]? = some (a, o) → K.lookup a = some o
 bs : factsB K = true
end Mine
section
namespace Mine
open PySem.Challenge
set_option maxHeartbeats 0 in
theorem ws : rw_pq1064_01.wellSaid = true := by
 rw [PySem.W.Fast.te9446332074065402090]
 kernel_rfl
end Mine
end
section
namespace Mine
open PySem.Challenge
noncomputable def topT (ok : Thread → Bool) (stp : SharedT → Thread → Option (SharedT × Thread)) : Nat → SharedT → Thread → Option SharedT
 | 0, _, _ => none
 | n + 1, s, t => match through t with
  | true => some s
  | false => match ok t with
   | false => none
   | true => match stp s t with
    | some (s', t') => topT ok stp n s' t'
    | none => none
theorem topT_of {tb : String → Option Builtin} {p : Program} {w : World} {n₀ : Nat} {ann : Option Value} : ∀ {n : Nat} {s s' : SharedT} {t : Thread}, topT (stepOk n₀ ann) (stepT (denote tb) p w) n s t = some s' → topRun tb p w n₀ ann n s.abs t = some s'.abs
 | 0, _, _, _, h => by cases h
 | n + 1, s, s', t, h => by
  unfold topT at h
  unfold topRun
  cases ht : through t with
  | true => rw [ht] at h; cases h; rfl
  | false =>
   rw [ht] at h
   cases hk : stepOk n₀ ann t with
   | false => rw [hk] at h; cases h
   | true =>
    rw [hk] at h
    cases hs : stepT (denote tb) p w s t with
    | none => rw [hs] at h; cases h
    | some r => obtain ⟨s₂, t₂⟩ := r; rw [hs] at h; rw [stepT_spec hs]; exact topT_of h
noncomputable def T0 (P : Params) : BT := ((boot_heap P).objs.toList.foldl (fun (x : BT × Nat) o => (x.1.ins x.2 o, x.2 + 1)) (.nil, 0)).1
noncomputable def S0 (w : World) (os : OsState) : SharedT := ⟨T0 w.params, 11, (boot_heap w.params).life, ⟨[]⟩, boot_drawn, boot_toks, os⟩
theorem abs0 (w : World) (os : OsState) : (S0 w os).abs = ⟨boot_heap w.params, ⟨[]⟩, boot_drawn, boot_toks, os⟩ := by kernel_rfl
theorem left_whole {p q : Program} {loose : List Str} {Xt : Shared → Bool} {α : Type} {Yf : Shared → α} {Ya : World → α} {N m₀ : Nat} {ann : Option Value}
  (ho : opening p = plainProg p.main.scope.names) (hN : Nat.ble 600 N = true) (hf : ∀ s, fenceModules? p s = some s)
  (hm : ∀ w : World, ((boot_heap w.params).isNs mainGlobals, (boot_heap w.params).objs.size, (boot_heap w.params).nsMap mainGlobals (ofString "__annotations__")) = (true, m₀, ann))
  (hr : ∀ (w : World) (os : OsState), (topRun treeTable p w m₀ ann N ⟨boot_heap w.params, ⟨[]⟩, boot_drawn, boot_toks, os⟩ (topStub p)).map (fun s =>
    (staticsOk (importedModules p.main.body) (boot_heap w.params) s.heap && namesBound p s.heap && gensDone s && laidKept (boot_heap w.params) s.heap, openSeen q loose (importedModules p.main.body) Xt true s, Yf s)) = some (true, openGood q loose, Ya w)) :
  LeftO p q loose Xt Yf Ya N := by
 intro w
 obtain ⟨s, hs, hv⟩ := Option.map_eq_some_iff.mp (boot_open ho hN hf w)
 obtain ⟨h, g, d, t, os⟩ := s
 simp only [Prod.mk.injEq] at hv
 obtain ⟨rfl, rfl, rfl, rfl⟩ := hv
 unfold openEnds
 rw [hs]
 show (topFrom treeTable p w N _).map _ = _
 have e := hm w
 simp only [Prod.mk.injEq] at e
 obtain ⟨e1, e2, e3⟩ := e
 unfold topFrom
 simp only [e1, e2, e3, List.size_toArray, List.length_nil, beq_self_eq_true, Bool.and_self]
 have r := hr w os
 obtain ⟨s₁, r1, r2⟩ := Option.map_eq_some_iff.mp r
 simp only [Prod.mk.injEq] at r2
 obtain ⟨a, b, c⟩ := r2
 rw [r1]
 simp only [Option.bind_some, a, Option.map_some, b, c]
noncomputable def q : Program := view pw_pq1064_01 [71]
noncomputable def loose : List Str := [ofString "_wall", ofString "WallFault", ofString "Misused", ofString "BadRule", ofString "Refused", ofString "words_of", ofString "refused", ofString "Counter", ofString "Quota", ofString "Limit", ofString "unit_seconds", ofString "make_limit", ofString "make_cell", ofString "cells_of", ofString "Rule", ofString "Chain", ofString "Table", ofString "find_set", ofString "uses_of_verdict", ofString "uses_of_where", ofString "uses_of_e", ofString "uses_of_statement", ofString "uses_of", ofString "statement_targets", ofString "chain_targets", ofString "has_ring", ofString "reached_from", ofString "add_use", ofString "chains_of_elements", ofString "boxes_meet", ofString "single_key", ofString "Element", ofString "is_live", ofString "PlainStore", ofString "place_in", ofString "place_of_box", ofString "SpanStore", ofString "prefixes_of", ofString "BitField", ofString "add_rule", ofString "rules_let", ofString "goals_of", ofString "add_item", ofString "BitTables", ofString "new_store", ofString "SetBody", ofString "_law_take", ofString "_law_beside", ofString "_law_row", ofString "_law_verdict", ofString "_law_statements", ofString "_law_told", ofString "_law_map", ofString "_law_goals_by_keys", ofString "_law_goes_round", ofString "_law_go", ofString "_law_due_reached", ofString "_law_reached", ofString "_law_left", ofString "_law_uses_hold", ofString "_law_holds"]
theorem boot_is (w : World) : ((boot_heap w.params).isNs mainGlobals, (boot_heap w.params).objs.size, (boot_heap w.params).nsMap mainGlobals (ofString "__annotations__")) = (true, 11, some (.ref 6)) := by kernel_rfl
theorem open_is : opening pw_pq1064_01 = plainProg pw_pq1064_01.main.scope.names := by kernel_rfl
theorem fence_is (s : Shared) : fenceModules? pw_pq1064_01 s = some s := by kernel_rfl
noncomputable def Xt (s : Shared) : Bool := xlAt q [] s && recOk [] s
noncomputable def addrs : List Addr := [3, 0, 2, 116, 115, 209, 208, 231, 230, 252, 251, 368, 367, 445, 444, 529, 528, 698, 697, 82, 81, 38, 37, 35, 79, 91, 98, 113, 184, 191, 206, 228, 249, 263, 270, 277, 284, 291, 298, 303, 310, 315, 322, 329, 336, 350, 365, 379, 393, 400, 414, 428, 456, 477, 484, 512, 674, 688, 709, 716, 723, 730, 737, 742, 749, 756, 763, 770, 775, 782, 789, 794, 799, 806, 34, 78, 90, 97, 112, 183, 190, 205, 227, 248, 262, 269, 276, 283, 290, 297, 302, 309, 314, 321, 328, 335, 349, 364, 378, 392, 399, 413, 427, 455, 476, 483, 511, 673, 687, 708, 715, 722, 729, 736, 741, 748, 755, 762, 769, 774, 781, 788, 793, 798, 805, 106, 199, 221, 358]
noncomputable def fragAt (as : List Addr) (h : Heap) : Frag := as.filterMap fun a => (h.get? a).map fun o => (a, o)
noncomputable def Yf (s : Shared) : Bool × List (Option Obj) := (factsB (fragAt addrs s.heap), objList.map fun p => s.heap.get? p.1)
noncomputable def Ya (w : World) : Bool × List (Option Obj) := (true, objList.map fun p => some p.2)
set_option maxHeartbeats 0 in
theorem run_is (w : World) (os : OsState) : (topT (stepOk 11 (some (.ref 6))) (stepT (denote treeTable) pw_pq1064_01 w) 12020 (S0 w os) (topStub pw_pq1064_01)).map (fun s => (fun s : Shared => (staticsOk (importedModules pw_pq1064_01.main.body) (boot_heap w.params) s.heap && namesBound pw_pq1064_01 s.heap && gensDone s && laidKept (boot_heap w.params) s.heap, openSeen q loose (importedModules pw_pq1064_01.main.body) Xt true s, Yf s)) s.abs) = some (true, openGood q loose, Ya w) := by
 rw [PySem.W.Fast.te6613529449190102663, PySem.W.Fast.te10156331382660048174, PySem.W.Fast.te11892475500146522536, PySem.W.Fast.te14364793385576792824]
 rw [PySem.W.Fast.te4187177175401517315]
 kernel_rfl
end Mine
end
namespace Mine
structure Wd (Γ : Cx) (K : Frag) : Prop where
 F : Facts K
 hK : ∀ h, Γ.B.P h → K.In h
section
variable {Γ : Cx} {K : Frag}
theorem isStrK_eq {v : Value} (h : isStrK v = true) : ∃ n t, v = .str n t := by
 cases v with
 | str n t => exact ⟨n, t, rfl⟩
 | _ => cases h
theorem ns_of (a : Addr) (h : nsOk K a = true) {hp : Heap} (X : K.In hp) : ∃ m, hp.Ns a m ∧ ∀ x r, nsIn K a x = some r → m x = r := by
 unfold nsOk at h
 cases ho : K.lookup a with
 | none => rw [ho] at h; cases h
 | some o =>
 rw [ho] at h
 replace h : nsOkD o.data = true := h
 obtain ⟨oc, od, dt, sl⟩ := o
 cases dt with
 | dict es ep =>
  have hk : StrKeys es := fun e he => isStrK_eq (List.all_eq_true.mp h e (Array.mem_toList_iff.mpr he))
  refine ⟨fun x => nsFind es x, ⟨_, es, ep, X _ _ ho, rfl, hk, fun z' => rfl⟩, fun x r hr => ?_⟩
  unfold nsIn at hr
  rw [ho] at hr
  dsimp only at hr
  show Option.map (fun e : DictEntry => e.val) (Array.find? (fun e => e.key.isStr x) es) = r
  rw [← Array.find?_toList]
  cases he : es.toList.find? fun e => e.key.isStr x with
  | some e => rw [he] at hr; cases hr; rfl
  | none =>
   rw [he] at hr
   dsimp only at hr
   split at hr
   ·cases hr
   ·cases hr; rfl
 | _ => cases h
theorem Facts.all (F : Facts K) : nsOk K mainGlobals = true ∧ nsOk K builtinsNs = true ∧ nsOk K cStatics = true ∧ nsIn K cStatics "sys.recursionlimit" = some Option.none ∧ (globList.all (fun p => glob K p.1 == some p.2)) = true ∧ (fnList.all (fun p => codeIn K p.2.code p.2.qualname)) = true ∧ clsList.all (clsOk K) = true := by
 have h := F.bs
 unfold factsB at h
 simp only [Bool.and_eq_true, beq_iff_eq] at h
 obtain ⟨⟨⟨⟨⟨⟨⟨a, b⟩, c⟩, d⟩, e⟩, f⟩, g⟩, _⟩ := h
 exact ⟨a, b, c, d, e, f, g⟩
theorem Facts.exc (F : Facts K) : excOk K = true := by
 have h := F.bs
 unfold factsB at h
 exact (Bool.and_eq_true_iff.mp h).2
theorem Wd.glob (W : Wd Γ K) {x : Str} {v : Value} (i : Nat) (h : globList[i]? = some (x, v)) : GlobV Γ x v := fun hp hP => by
 have X := W.hK hp hP
 obtain ⟨n3, n0, _, _, gl, _⟩ := W.F.all
 have hg : Mine.glob K x = some v := eq_of_beq (List.all_eq_true.mp gl _ (List.mem_of_getElem? h))
 obtain ⟨mg, h1, h2⟩ := ns_of _ n3 X
 obtain ⟨mb, h3, h4⟩ := ns_of _ n0 X
 unfold Mine.glob at hg
 cases hw : nsIn K mainGlobals x with
 | none => rw [hw] at hg; cases hg
 | some o =>
  rw [hw] at hg
  cases o with
  | some w => cases hg; exact ⟨mg, h1, .inl (h2 _ _ hw)⟩
  | none =>
   dsimp only at hg
   cases hw' : nsIn K builtinsNs x with
   | none => rw [hw'] at hg; cases hg
   | some o =>
    rw [hw'] at hg
    cases o with
    | some w => cases hg; exact ⟨mg, h1, .inr ⟨h2 _ _ hw, mb, h3, h4 _ _ hw'⟩⟩
    | none => cases hg
theorem fn_obj {i : Nat} {a : Addr} {fd : FuncData} (h : fnList[i]? = some (a, fd)) : objList[i]? = some (a, fnObj fd) := by
 unfold objList
 rw [List.getElem?_append_left (by rw [List.length_map]; exact (List.getElem?_eq_some_iff.mp h).1), List.getElem?_map, h]
 rfl
theorem Wd.fn (W : Wd Γ K) {a : Addr} {fd : FuncData} (i : Nat) (h : fnList[i]? = some (a, fd)) : HasFn Γ a fd := by
 have hl := W.F.objs i a _ (fn_obj h)
 obtain ⟨_, _, n2, nr, _, fc, _⟩ := W.F.all
 refine ⟨fun hp hP => ⟨_, W.hK hp hP _ _ hl, rfl, rfl, rfl⟩, fun hp hP => ?_, fun hp hP => ?_⟩
 ·obtain ⟨m, h1, h2⟩ := ns_of _ n2 (W.hK hp hP)
  exact ⟨m, h1, h2 _ _ nr⟩
 ·exact codeRec_of (W.hK hp hP) (List.all_eq_true.mp fc _ (List.mem_of_getElem? h))
theorem Wd.keepF (W : Wd Γ K) {a : Addr} {fd : FuncData} (i : Nat) (h : fnList[i]? = some (a, fd)) : keepIn K (.ref a) = true := by
 have hl := W.F.objs i a _ (fn_obj h)
 unfold keepIn; dsimp only; rw [hl]; rfl
theorem Wd.typeF (W : Wd Γ K) {a : Addr} {fd : FuncData} (i : Nat) (h : fnList[i]? = some (a, fd)) : typeIn K (.ref a) = some (.type "function") := by
 have hl := W.F.objs i a _ (fn_obj h)
 unfold typeIn; dsimp only; rw [hl]; rfl
theorem Wd.callF (W : Wd Γ K) {a : Addr} {fd : FuncData} (i : Nat) (h : fnList[i]? = some (a, fd)) : Callee Γ (.ref a) := callee_fn W.hK (W.keepF i h)
theorem callB (i : String) : Callee Γ (.builtin i) := fun h z' => ⟨.machine, .inr (.inl rfl), Looks.of_pure rfl⟩
theorem callT (i : String) : Callee Γ (.type i) := fun h z' => ⟨.machine, .inr (.inl rfl), Looks.of_pure rfl⟩
noncomputable def clsD (K : Frag) (c : Addr) : ClassData := (clsIn K c).getD default
theorem Wd.cls (W : Wd Γ K) {r : ClsRec} (i : Nat) (h : clsList[i]? = some r) : ClsF Γ K r.c (clsD K r.c) ∧ makesIn K r.c = true ∧ findIn K (.ref r.c) "__init__" = some (some (.ref r.init)) ∧ Callee Γ (.ref r.c) ∧ (∀ a ∈ r.attrs, findIn K (.ref r.c) a = some Option.none ∧ SetsF K r.c a) ∧ ∀ p ∈ r.meths, findIn K (.ref r.c) p.1 = some (some (.ref p.2)) := by
 have hc := List.all_eq_true.mp W.F.all.2.2.2.2.2.2 _ (List.mem_of_getElem? h)
 unfold clsOk at hc
 simp only [Bool.and_eq_true, beq_iff_eq] at hc
 obtain ⟨⟨⟨⟨⟨⟨⟨⟨⟨a, b⟩, c⟩, d⟩, e⟩, f⟩, g⟩, k⟩, l⟩, m⟩ := hc
 obtain ⟨cd, hcd, hd⟩ := any_some a
 have e1 : clsD K r.c = cd := by unfold clsD; rw [hcd]; rfl
 refine ⟨⟨W.hK, by rw [e1]; exact hcd, by rw [e1]; exact hd, b, c⟩, f, g, callee_fn W.hK k, fun x hx => ?_, fun p hp => by simpa using List.all_eq_true.mp m p hp⟩
 have hx' : findIn K (.ref r.c) x = some Option.none := by simpa using List.all_eq_true.mp l x hx
 refine ⟨hx', d, e, ?_⟩
 unfold takerIn; rw [hx']; rfl
end
section
variable {Γ : Cx} {K : Frag} {n : Nat} {env : Env} {ρ : Rho} {σ : Sto}
theorem len_cons {α : Type} {n : Nat} {xs : List α} (h : xs.length = n + 1) : ∃ a r, xs = a :: r ∧ r.length = n := by
 cases xs with
 | nil => cases h
 | cons a r => exact ⟨a, r, rfl, Nat.succ.inj h⟩
theorem len_nil {α : Type} {xs : List α} (h : xs.length = 0) : xs = [] := List.eq_nil_of_length_eq_zero h
theorem len1 {α : Type} {xs : List α} (h : xs.length = 1) : ∃ a, xs = [a] := by obtain ⟨a, r, rfl, k⟩ := len_cons h; rw [len_nil k]; exact ⟨a, rfl⟩
theorem len2 {α : Type} {xs : List α} (h : xs.length = 2) : ∃ a b, xs = [a, b] := by obtain ⟨a, r, rfl, k⟩ := len_cons h; obtain ⟨b, rfl⟩ := len1 k; exact ⟨a, b, rfl⟩
theorem len3 {α : Type} {xs : List α} (h : xs.length = 3) : ∃ a b c, xs = [a, b, c] := by obtain ⟨a, r, rfl, k⟩ := len_cons h; obtain ⟨b, c, rfl⟩ := len2 k; exact ⟨a, b, c, rfl⟩
theorem len4 {α : Type} {xs : List α} (h : xs.length = 4) : ∃ a b c d, xs = [a, b, c, d] := by obtain ⟨a, r, rfl, k⟩ := len_cons h; obtain ⟨b, c, d, rfl⟩ := len3 k; exact ⟨a, b, c, d, rfl⟩
theorem len5 {α : Type} {xs : List α} (h : xs.length = 5) : ∃ a b c d e, xs = [a, b, c, d, e] := by obtain ⟨a, r, rfl, k⟩ := len_cons h; obtain ⟨b, c, d, e, rfl⟩ := len4 k; exact ⟨a, b, c, d, e, rfl⟩
theorem zip_rep {ν : List Addr} {g : Heap} {names : List Str} {xs : List Value} {ds : List V} (r : All2 (RepV Γ.prog Γ.w ν g) xs ds) (h : names.length = ds.length) : All2 (RepB Γ.prog Γ.w ν g) (names.zip xs) (names.zip ds) := by
 induction r generalizing names with
 | nil => rw [List.zip_nil_right, List.zip_nil_right]; exact .nil
 | cons r _ ih =>
  obtain ⟨x, names, rfl, k⟩ := len_cons h
  exact .cons ⟨rfl, r⟩ (ih k)
theorem Binds.of {fd : FuncData} {ds : List V} {ρ : Rho} (names : List Str) (h : ∀ xs : List Value, xs.length = names.length → bindArgs fd ⟨xs, []⟩ = pure (names.zip xs)) (hl : autoParam (names.length = ds.length) rfl0S) (hρ : autoParam (ρ = names.zip ds) rfl0S) : Binds Γ fd ds ρ := fun ν g s xs z' z' r => by
 subst hρ
 exact ⟨names.zip xs, .of_eq (h xs (by rw [r.length, hl])), zip_rep r hl⟩
theorem Binds.dfl {fd : FuncData} {ds dv : List V} {ρ : Rho} {T : Addr} {items : Array Value} {m : Nat} (W : Wd Γ K) (names : List Str) (i : Nat) (hT : objList[i]? = some (T, tupOf items m)) (hd : fd.defaults = .ref T) {k : List Value → Option (Array Value) → Sem (List (Str × Value))}
  (h1 : ∀ xs : List Value, xs.length = ds.length → bindArgs fd ⟨xs, []⟩ = seqItems? fd.defaults >>= k xs) (ex : List Value) (h2 : ∀ xs : List Value, xs.length = ds.length → k xs (some items) = pure (names.zip (xs ++ ex)))
  (hdv : ∀ ν g, All2 (RepV Γ.prog Γ.w ν g) ex dv) (hl : autoParam (names.length = ds.length + dv.length) rfl0S) (hρ : autoParam (ρ = names.zip (ds ++ dv)) rfl0S) : Binds Γ fd ds ρ := fun ν g s xs hP z' r => by
 subst hρ
 have hlen : xs.length = ds.length := r.length
 exact ⟨names.zip (xs ++ ex), .of_defaults hd (W.hK _ hP _ _ (W.F.objs i _ _ hT)) rfl (h1 xs hlen) (h2 xs hlen), zip_rep (r.append (hdv ν g)) (by rw [List.length_append]; exact hl)⟩
end
noncomputable def fnOk (fd : FuncData) (names : List Str) : Bool := decide names.Nodup && names.all (fun x => fd.scope.names.lookup x == some .local || fd.scope.names.lookup x == some .cell) && fd.globals == mainGlobals && fd.builtins == builtinsNs && !fd.scope.isCoroutine && !fd.scope.isGenerator && fd.scope.kind == .function && fd.closure.isEmpty
section
variable {Γ : Cx} {K : Frag} {n : Nat} {env : Env} {ρ : Rho} {σ : Sto}
theorem names_of_zip {names : List Str} {ds : List V} (hl : names.length = ds.length) : (names.zip ds).map (·.1) = names := List.map_fst_zip (by lia)
theorem WB.envL {env : Env} {ρ : Rho} {sts : List Stmt} {Q : Fl → Rho → Sto → Prop} (h : let E := env; let R := ρ; WB Γ n E sts R σ Q) : WB Γ n env sts ρ σ Q := h
theorem WCc.go {a : Addr} {fd : FuncData} {body : List Stmt} {ds es : List V} {Q : V → Sto → Prop} (H : HasFn Γ a fd) (names : List Str) (hbody : fd.body = .stmts body) (ok : fnOk fd names = true) (hb : Binds Γ fd ds (names.zip es)) (hl : names.length = es.length)
  (h : ∀ L, let E := fenv fd L a; WB Γ n E body (names.zip es) σ (retQ Q)) : WCc Γ (n + 1) (.ref a) ds σ Q := by
 unfold fnOk at ok
 simp only [Bool.and_eq_true, decide_eq_true_eq, beq_iff_eq, Bool.not_eq_true', List.isEmpty_iff] at ok
 obtain ⟨⟨⟨⟨⟨⟨⟨a1, a2⟩, a3⟩, a4⟩, a5⟩, a6⟩, a7⟩, a8⟩ := ok
 refine WCc.fn H hbody hb (fun env ⟨L, he⟩ => he ▸ h L) (by rw [names_of_zip hl]; exact a1) (fun p hp => ?_) a3 a4 a5 a6 a7 a8
 have : p.1 ∈ names := by rw [← names_of_zip hl]; exact List.mem_map.mpr ⟨p, hp, rfl⟩
 have := List.all_eq_true.mp a2 _ this
 simpa using this
theorem WC.go {a : Addr} {fd : FuncData} {body : List Stmt} {ds es : List V} {Q : V → Sto → Prop} (H : HasFn Γ a fd) (names : List Str) (hbody : fd.body = .stmts body) (ok : fnOk fd names = true) (hb : Binds Γ fd ds (names.zip es)) (hl : names.length = es.length)
  (h : ∀ L, let E := fenv fd L a; WB Γ n E body (names.zip es) σ (retQ Q)) : WC Γ (n + 1) (.ref a) ds σ Q := (WCc.go H names hbody ok hb hl h).wc
theorem bind1 {fd : FuncData} (x : Str) {d : V} (h : ∀ a, bindArgs fd ⟨[a], []⟩ = pure [(x, a)]) : Binds Γ fd [d] ([x].zip [d]) := .of [x] (fun xs hl => by obtain ⟨a, rfl⟩ := len1 hl; exact h a)
theorem bind2 {fd : FuncData} (x y : Str) {d e : V} (h : ∀ a b, bindArgs fd ⟨[a, b], []⟩ = pure [(x, a), (y, b)]) : Binds Γ fd [d, e] ([x, y].zip [d, e]) := .of [x, y] (fun xs hl => by obtain ⟨a, b, rfl⟩ := len2 hl; exact h a b)
theorem bind3 {fd : FuncData} (x y z : Str) {d e f : V} (h : ∀ a b c, bindArgs fd ⟨[a, b, c], []⟩ = pure [(x, a), (y, b), (z, c)]) : Binds Γ fd [d, e, f] ([x, y, z].zip [d, e, f]) := .of [x, y, z] (fun xs hl => by obtain ⟨a, b, c, rfl⟩ := len3 hl; exact h a b c)
theorem bind4 {fd : FuncData} (x y z u : Str) {d e f g : V} (h : ∀ a b c i, bindArgs fd ⟨[a, b, c, i], []⟩ = pure [(x, a), (y, b), (z, c), (u, i)]) : Binds Γ fd [d, e, f, g] ([x, y, z, u].zip [d, e, f, g]) := .of [x, y, z, u] (fun xs hl => by obtain ⟨a, b, c, i, rfl⟩ := len4 hl; exact h a b c i)
theorem bind5 {fd : FuncData} (x y z u v : Str) {d e f g k : V} (h : ∀ a b c i j, bindArgs fd ⟨[a, b, c, i, j], []⟩ = pure [(x, a), (y, b), (z, c), (u, i), (v, j)]) : Binds Γ fd [d, e, f, g, k] ([x, y, z, u, v].zip [d, e, f, g, k]) := .of [x, y, z, u, v] (fun xs hl => by obtain ⟨a, b, c, i, j, rfl⟩ := len5 hl; exact h a b c i j)
theorem bind0 {fd : FuncData} (h : bindArgs fd ⟨[], []⟩ = pure []) : Binds Γ fd [] (List.zip [] []) := .of [] (fun xs hl => by rw [len_nil hl]; exact h)
end
section
variable {Γ : Cx} {K : Frag}
theorem H_fd2m0 (W : Wd Γ K) : HasFn Γ 35 fd2m0 := W.fn 0 rfl
theorem H_fd5m0 (W : Wd Γ K) : HasFn Γ 79 fd5m0 := W.fn 1 rfl
theorem H_fd6 (W : Wd Γ K) : HasFn Γ 91 fd6 := W.fn 2 rfl
theorem H_fd7 (W : Wd Γ K) : HasFn Γ 98 fd7 := W.fn 3 rfl
theorem H_fd9m0 (W : Wd Γ K) : HasFn Γ 113 fd9m0 := W.fn 4 rfl
theorem H_fd14 (W : Wd Γ K) : HasFn Γ 184 fd14 := W.fn 5 rfl
theorem H_fd15 (W : Wd Γ K) : HasFn Γ 191 fd15 := W.fn 6 rfl
theorem H_fd17m0 (W : Wd Γ K) : HasFn Γ 206 fd17m0 := W.fn 7 rfl
theorem H_fd18m0 (W : Wd Γ K) : HasFn Γ 228 fd18m0 := W.fn 8 rfl
theorem H_fd19m0 (W : Wd Γ K) : HasFn Γ 249 fd19m0 := W.fn 9 rfl
theorem H_fd20 (W : Wd Γ K) : HasFn Γ 263 fd20 := W.fn 10 rfl
theorem H_fd21 (W : Wd Γ K) : HasFn Γ 270 fd21 := W.fn 11 rfl
theorem H_fd22 (W : Wd Γ K) : HasFn Γ 277 fd22 := W.fn 12 rfl
theorem H_fd23 (W : Wd Γ K) : HasFn Γ 284 fd23 := W.fn 13 rfl
theorem H_fd24 (W : Wd Γ K) : HasFn Γ 291 fd24 := W.fn 14 rfl
theorem H_fd25 (W : Wd Γ K) : HasFn Γ 298 fd25 := W.fn 15 rfl
theorem H_fd27 (W : Wd Γ K) : HasFn Γ 303 fd27 := W.fn 16 rfl
theorem H_fd28 (W : Wd Γ K) : HasFn Γ 310 fd28 := W.fn 17 rfl
theorem H_fd29 (W : Wd Γ K) : HasFn Γ 315 fd29 := W.fn 18 rfl
theorem H_fd30 (W : Wd Γ K) : HasFn Γ 322 fd30 := W.fn 19 rfl
theorem H_fd32 (W : Wd Γ K) : HasFn Γ 329 fd32 := W.fn 20 rfl
theorem H_fd33 (W : Wd Γ K) : HasFn Γ 336 fd33 := W.fn 21 rfl
theorem H_fd36 (W : Wd Γ K) : HasFn Γ 350 fd36 := W.fn 22 rfl
theorem H_fd37m0 (W : Wd Γ K) : HasFn Γ 365 fd37m0 := W.fn 23 rfl
theorem H_fd39m0 (W : Wd Γ K) : HasFn Γ 393 fd39m0 := W.fn 25 rfl
theorem H_fd39m1 (W : Wd Γ K) : HasFn Γ 400 fd39m1 := W.fn 26 rfl
theorem H_fd39m3 (W : Wd Γ K) : HasFn Γ 414 fd39m3 := W.fn 27 rfl
theorem H_fd39m5 (W : Wd Γ K) : HasFn Γ 428 fd39m5 := W.fn 28 rfl
theorem H_fd40 (W : Wd Γ K) : HasFn Γ 456 fd40 := W.fn 29 rfl
theorem H_fd42m0 (W : Wd Γ K) : HasFn Γ 477 fd42m0 := W.fn 30 rfl
theorem H_fd42m1 (W : Wd Γ K) : HasFn Γ 484 fd42m1 := W.fn 31 rfl
theorem H_fd42m5 (W : Wd Γ K) : HasFn Γ 512 fd42m5 := W.fn 32 rfl
theorem H_fd53 (W : Wd Γ K) : HasFn Γ 674 fd53 := W.fn 33 rfl
theorem H_fd54m0 (W : Wd Γ K) : HasFn Γ 688 fd54m0 := W.fn 34 rfl
theorem H_fd56 (W : Wd Γ K) : HasFn Γ 709 fd56 := W.fn 35 rfl
theorem H_fd57 (W : Wd Γ K) : HasFn Γ 716 fd57 := W.fn 36 rfl
theorem H_fd58 (W : Wd Γ K) : HasFn Γ 723 fd58 := W.fn 37 rfl
theorem H_fd59 (W : Wd Γ K) : HasFn Γ 730 fd59 := W.fn 38 rfl
theorem H_fd60 (W : Wd Γ K) : HasFn Γ 737 fd60 := W.fn 39 rfl
theorem H_fd61 (W : Wd Γ K) : HasFn Γ 742 fd61 := W.fn 40 rfl
theorem H_fd62 (W : Wd Γ K) : HasFn Γ 749 fd62 := W.fn 41 rfl
theorem H_fd63 (W : Wd Γ K) : HasFn Γ 756 fd63 := W.fn 42 rfl
theorem H_fd64 (W : Wd Γ K) : HasFn Γ 763 fd64 := W.fn 43 rfl
theorem H_fd65 (W : Wd Γ K) : HasFn Γ 770 fd65 := W.fn 44 rfl
theorem H_fd66 (W : Wd Γ K) : HasFn Γ 775 fd66 := W.fn 45 rfl
theorem H_fd67 (W : Wd Γ K) : HasFn Γ 782 fd67 := W.fn 46 rfl
theorem H_fd68 (W : Wd Γ K) : HasFn Γ 789 fd68 := W.fn 47 rfl
theorem H_fd69 (W : Wd Γ K) : HasFn Γ 794 fd69 := W.fn 48 rfl
theorem H_fd70 (W : Wd Γ K) : HasFn Γ 799 fd70 := W.fn 49 rfl
theorem H_fd71 (W : Wd Γ K) : HasFn Γ 806 fd71 := W.fn 50 rfl
theorem G_range (W : Wd Γ K) : GlobV Γ (ofString "range") (.type "range") := W.glob 4 rfl
theorem C_range (W : Wd Γ K) : Callee Γ (.type "range") := callT _
theorem G_str (W : Wd Γ K) : GlobV Γ (ofString "str") (.type "str") := W.glob 5 rfl
theorem G_reversed (W : Wd Γ K) : GlobV Γ (ofString "reversed") (.type "reversed") := W.glob 7 rfl
theorem C_reversed (W : Wd Γ K) : Callee Γ (.type "reversed") := callT _
theorem G_Table (W : Wd Γ K) : GlobV Γ (ofString "Table") (.ref 252) := W.glob 11 rfl
theorem C_Table (W : Wd Γ K) : Callee Γ (.ref 252) := (W.cls 3 rfl).2.2.2.1
theorem G_PlainStore (W : Wd Γ K) : GlobV Γ (ofString "PlainStore") (.ref 445) := W.glob 13 rfl
theorem C_PlainStore (W : Wd Γ K) : Callee Γ (.ref 445) := (W.cls 5 rfl).2.2.2.1
theorem G_SpanStore (W : Wd Γ K) : GlobV Γ (ofString "SpanStore") (.ref 529) := W.glob 14 rfl
theorem C_SpanStore (W : Wd Γ K) : Callee Γ (.ref 529) := (W.cls 6 rfl).2.2.2.1
theorem G_WallFault (W : Wd Γ K) : GlobV Γ (ofString "WallFault") (.ref 38) := W.glob 16 rfl
theorem G_Refused (W : Wd Γ K) : GlobV Γ (ofString "Refused") (.ref 82) := W.glob 17 rfl
theorem G_reached_from (W : Wd Γ K) : GlobV Γ (ofString "reached_from") (.ref 322) := W.glob 31 rfl
theorem C_reached_from (W : Wd Γ K) : Callee Γ (.ref 322) := W.callF 19 rfl
theorem G__law_beside (W : Wd Γ K) : GlobV Γ (ofString "_law_beside") (.ref 716) := W.glob 39 rfl
theorem C__law_beside (W : Wd Γ K) : Callee Γ (.ref 716) := W.callF 36 rfl
theorem G_law (W : Wd Γ K) : GlobV Γ (ofString "law") (.ref 806) := W.glob 53 rfl
theorem K_Counter (W : Wd Γ K) : ClsF Γ K 116 (clsD K 116) := (W.cls 0 rfl).1
theorem M_Counter (W : Wd Γ K) : makesIn K 116 = true := (W.cls 0 rfl).2.1
theorem I_Counter (W : Wd Γ K) : findIn K (.ref 116) "__init__" = some (some (.ref 113)) := (W.cls 0 rfl).2.2.1
theorem A_Counter (W : Wd Γ K) : ∀ a ∈ (clsList[0]).attrs, findIn K (.ref 116) a = some Option.none ∧ SetsF K 116 a := (W.cls 0 rfl).2.2.2.2.1
theorem K_Rule (W : Wd Γ K) : ClsF Γ K 209 (clsD K 209) := (W.cls 1 rfl).1
theorem M_Rule (W : Wd Γ K) : makesIn K 209 = true := (W.cls 1 rfl).2.1
theorem I_Rule (W : Wd Γ K) : findIn K (.ref 209) "__init__" = some (some (.ref 206)) := (W.cls 1 rfl).2.2.1
theorem A_Rule (W : Wd Γ K) : ∀ a ∈ (clsList[1]).attrs, findIn K (.ref 209) a = some Option.none ∧ SetsF K 209 a := (W.cls 1 rfl).2.2.2.2.1
theorem K_Chain (W : Wd Γ K) : ClsF Γ K 231 (clsD K 231) := (W.cls 2 rfl).1
theorem M_Chain (W : Wd Γ K) : makesIn K 231 = true := (W.cls 2 rfl).2.1
theorem I_Chain (W : Wd Γ K) : findIn K (.ref 231) "__init__" = some (some (.ref 228)) := (W.cls 2 rfl).2.2.1
theorem A_Chain (W : Wd Γ K) : ∀ a ∈ (clsList[2]).attrs, findIn K (.ref 231) a = some Option.none ∧ SetsF K 231 a := (W.cls 2 rfl).2.2.2.2.1
theorem K_Table (W : Wd Γ K) : ClsF Γ K 252 (clsD K 252) := (W.cls 3 rfl).1
theorem M_Table (W : Wd Γ K) : makesIn K 252 = true := (W.cls 3 rfl).2.1
theorem I_Table (W : Wd Γ K) : findIn K (.ref 252) "__init__" = some (some (.ref 249)) := (W.cls 3 rfl).2.2.1
theorem A_Table (W : Wd Γ K) : ∀ a ∈ (clsList[3]).attrs, findIn K (.ref 252) a = some Option.none ∧ SetsF K 252 a := (W.cls 3 rfl).2.2.2.2.1
theorem K_Element (W : Wd Γ K) : ClsF Γ K 368 (clsD K 368) := (W.cls 4 rfl).1
theorem M_Element (W : Wd Γ K) : makesIn K 368 = true := (W.cls 4 rfl).2.1
theorem I_Element (W : Wd Γ K) : findIn K (.ref 368) "__init__" = some (some (.ref 365)) := (W.cls 4 rfl).2.2.1
theorem A_Element (W : Wd Γ K) : ∀ a ∈ (clsList[4]).attrs, findIn K (.ref 368) a = some Option.none ∧ SetsF K 368 a := (W.cls 4 rfl).2.2.2.2.1
theorem K_PlainStore (W : Wd Γ K) : ClsF Γ K 445 (clsD K 445) := (W.cls 5 rfl).1
theorem M_PlainStore (W : Wd Γ K) : makesIn K 445 = true := (W.cls 5 rfl).2.1
theorem I_PlainStore (W : Wd Γ K) : findIn K (.ref 445) "__init__" = some (some (.ref 393)) := (W.cls 5 rfl).2.2.1
theorem A_PlainStore (W : Wd Γ K) : ∀ a ∈ (clsList[5]).attrs, findIn K (.ref 445) a = some Option.none ∧ SetsF K 445 a := (W.cls 5 rfl).2.2.2.2.1
theorem P_PlainStore (W : Wd Γ K) : ∀ p ∈ (clsList[5]).meths, findIn K (.ref 445) p.1 = some (some (.ref p.2)) := (W.cls 5 rfl).2.2.2.2.2
theorem K_SpanStore (W : Wd Γ K) : ClsF Γ K 529 (clsD K 529) := (W.cls 6 rfl).1
theorem M_SpanStore (W : Wd Γ K) : makesIn K 529 = true := (W.cls 6 rfl).2.1
theorem I_SpanStore (W : Wd Γ K) : findIn K (.ref 529) "__init__" = some (some (.ref 477)) := (W.cls 6 rfl).2.2.1
theorem A_SpanStore (W : Wd Γ K) : ∀ a ∈ (clsList[6]).attrs, findIn K (.ref 529) a = some Option.none ∧ SetsF K 529 a := (W.cls 6 rfl).2.2.2.2.1
theorem P_SpanStore (W : Wd Γ K) : ∀ p ∈ (clsList[6]).meths, findIn K (.ref 529) p.1 = some (some (.ref p.2)) := (W.cls 6 rfl).2.2.2.2.2
theorem K_SetBody (W : Wd Γ K) : ClsF Γ K 698 (clsD K 698) := (W.cls 7 rfl).1
theorem M_SetBody (W : Wd Γ K) : makesIn K 698 = true := (W.cls 7 rfl).2.1
theorem I_SetBody (W : Wd Γ K) : findIn K (.ref 698) "__init__" = some (some (.ref 688)) := (W.cls 7 rfl).2.2.1
theorem A_SetBody (W : Wd Γ K) : ∀ a ∈ (clsList[7]).attrs, findIn K (.ref 698) a = some Option.none ∧ SetsF K 698 a := (W.cls 7 rfl).2.2.2.2.1
end
theorem ts_eq {ds : List V} {xs : List PV} (h : ts? ds = some xs) : ds = xs.map .t := by
 induction ds generalizing xs with
 | nil => cases h; rfl
 | cons v r ih => cases v with
  | ref _ => cases h
  | t d =>
   rw [ts_cons] at h
   obtain ⟨ys, hy, rfl⟩ := Option.map_eq_some_iff.mp h
   rw [List.map_cons, ← ih hy]
inductive TsV (ds : List V) (P : List PV → Prop) : Prop
 | intro (xs : List PV) : ts? ds = some xs → xs.length ≤ 1000 → P xs → TsV ds P
theorem TsV.mk {ds : List V} {xs : List PV} {P : List PV → Prop} (h : ts? ds = some xs) (l : xs.length ≤ 1000) (p : P xs) : TsV ds P := ⟨xs, h, l, p⟩
theorem TsV.mkB {ds : List V} {xs : List PV} {P : List PV → Prop} (h : ts? ds = some xs) (l : Nat.ble xs.length 1000 = true) (p : P xs) : TsV ds P := ⟨xs, h, Nat.le_of_ble_eq_true l, p⟩
noncomputable def nth (l : List Stmt) (i : Nat) : Stmt := l.getD i default
noncomputable abbrev forBody := bodyOf
section
variable {Γ : Cx} {K : Frag} {n : Nat} {env : Env} {ρ : Rho} {σ : Sto}
theorem WE.tupleT {es : List Expr} {k : Nat} {pos : Pos} {Q : V → Sto → Prop} (h : WEs Γ n env pos es ρ σ fun ds σ₁ => TsV ds fun xs => Q (.t (.tup xs)) σ₁) : WE Γ n env (.Tuple es k pos) ρ σ Q :=
 WE.tuple fun A s ν g hA F S => wpAny_mono (h A s ν g hA F S) (fun vs s₁ ⟨ν₁, g₁, σ₁, ds, a, b, c, ⟨xs, e, l, q⟩⟩ => ⟨ν₁, g₁, σ₁, ds, a, b, c, xs, ts_eq e, l, q⟩) fun z' z' x => x
theorem WE.listT {es : List Expr} {pos : Pos} {Q : V → Sto → Prop} (h : WEs Γ n env pos es ρ σ fun ds σ₁ => TsV ds fun xs => Q (.t (.lst xs)) σ₁) : WE Γ n env (.List es pos) ρ σ Q :=
 WE.listF fun A s ν g hA F S => wpAny_mono (h A s ν g hA F S) (fun vs s₁ ⟨ν₁, g₁, σ₁, ds, a, b, c, ⟨xs, e, l, q⟩⟩ => ⟨ν₁, g₁, σ₁, ds, a, b, c, xs, ts_eq e, l, q⟩) fun z' z' x => x
theorem Sto.le_trans {a b c : Sto} (x : Sto.le a b) (y : Sto.le b c) : Sto.le a c := fun i ao e => y i ao (x i ao e)
set_option tactic.hygienic true in
theorem Sto.le_upd_both {a b : Sto} {i : Nat} {ao : AO} (x : Sto.le a b) : Sto.le (upd a i ao) (upd b i ao) := fun j o e => by
 unfold upd at *
 split at e
 ·rename_i q; rw [if_pos q]; exact e
 ·rename_i q; rw [if_neg q]; exact x j o e
theorem upd_comm {σ : Sto} {i j : Nat} {a b : AO} (h : i ≠ j) : upd (upd σ i a) j b = upd (upd σ j b) i a := by
 funext k; unfold upd; by_cases h1 : k = j <;> by_cases h2 : k = i <;> simp_all
theorem ne_of_none {σ : Sto} {i j : Nat} {a : AO} (h1 : σ i = some a) (h2 : σ j = Option.none) : i ≠ j := fun e => by subst e; rw [h1] at h2; cases h2
noncomputable def AO.tag : AO → Nat
 | .lst _ => 0
 | .dct _ _ => 1
 | .inst _ _ => 2
 | .frz _ => 3
 | .exc _ _ => 4
theorem ne_ao {σ : Sto} {i j : Nat} {a b : AO} (hi : σ i = some a) (hj : σ j = some b) (h : a ≠ b) : i ≠ j := fun e => h (Option.some.inj (hi.symm.trans (e ▸ hj)))
theorem ne_at {σ : Sto} {i j : Nat} {a b : AO} (hi : σ i = some a) (hj : σ j = some b) (h : (a.tag == b.tag) = false) : i ≠ j := ne_ao hi hj fun e => by rw [e, beq_self_eq_true] at h; cases h
theorem upd_ne' {σ : Sto} {i j : Nat} {a b : AO} (h : σ i = some b) (hij : i ≠ j) : upd σ j a i = some b := by rw [upd_ne _ _ hij]; exact h
end
theorem meth_he {o : Expr} {name : Str} {apos pos : Pos} {args : List Expr} {env : Env} (hbase : attributeBase o name env (eval o env) = eval o env) (hform : methodCallForm (args.length + 0) (backTo pos (starEach args env)) [] = true) (hline : (apos.endLine == pos.line) = true) :
  eval (.Call (.Attribute o name apos) args [] pos) env = (do
   let ov ← eval o env
   standAt apos.atName
   let (f, first) ← holding [ov] (getMethod ov name (do return (← importBound o env).getD true))
   callWith pos f first (backTo pos (starEach args env)) []) := by
 rw [arm_eval_Call, hbase]
 have hkw : backToKw pos (keywordEach [] env) = [] := rfl
 have hpos : methodCallPos true o env apos pos = pure pos := by unfold methodCallPos; simp [hline]
 unfold methodCall
 rw [hkw]
 have hform' : methodCallForm (args.length + ([] : List Keyword).length) (backTo pos (starEach args env)) [] = true := hform
 rw [hform', hpos]
 rfl
section
variable {Γ : Cx} {K : Frag} {n : Nat} {env : Env} {ρ : Rho} {σ : Sto}
theorem WE.methBn {o e : Expr} {name : Str} {apos pos : Pos} {es : List Expr} {T id : String} {Q : V → Sto → Prop} (pa : PlainAttrs T) (slot : Slot T name id) (hty : typeOf (.builtin id) = pure (.type "method_descriptor"))
  (h : WE Γ n env o ρ σ fun v σ₁ => BTy Γ T σ₁ v ∧ WEs Γ n env pos (e :: es) ρ σ₁ fun vs σ₂ => WC Γ n (.builtin id) (v :: vs) σ₂ Q)
  (hplain : (backTo pos (starEach es env)).any (·.1) = false) (hs : starEach (e :: es) env = (false, eval e env) :: starEach es env)
  (hbase : attributeBase o name env (eval o env) = eval o env) (hform : methodCallForm ((e :: es).length + 0) (backTo pos (starEach (e :: es) env)) [] = true) (hline : (apos.endLine == pos.line) = true) :
  WE Γ n env (.Call (.Attribute o name apos) (e :: es) [] pos) ρ σ Q :=
 WE.methB (do return (← importBound o env).getD true) pa slot hty h hplain hs ((meth_he hbase hform hline).trans rfl)
theorem WE.methn {o e : Expr} {name : Str} {apos pos : Pos} {es : List Expr} {Q : V → Sto → Prop}
  (h : WE Γ n env o ρ σ (MethQ Γ name fun f v σ₁ => WEs Γ n env pos (e :: es) ρ σ₁ fun vs σ₂ => WC Γ n (.ref f) (v :: vs) σ₂ Q))
  (hplain : (backTo pos (starEach es env)).any (·.1) = false) (hs : starEach (e :: es) env = (false, eval e env) :: starEach es env)
  (hbase : attributeBase o name env (eval o env) = eval o env) (hform : methodCallForm ((e :: es).length + 0) (backTo pos (starEach (e :: es) env)) [] = true) (hline : (apos.endLine == pos.line) = true) :
  WE Γ n env (.Call (.Attribute o name apos) (e :: es) [] pos) ρ σ Q :=
 WE.meth (do return (← importBound o env).getD true) h hplain hs ((meth_he hbase hform hline).trans rfl)
theorem WE.methn0 {o : Expr} {name : Str} {apos pos : Pos} {Q : V → Sto → Prop}
  (h : WE Γ n env o ρ σ (MethQ Γ name fun f v σ₁ => WC Γ n (.ref f) [v] σ₁ Q))
  (hbase : attributeBase o name env (eval o env) = eval o env) (hline : (apos.endLine == pos.line) = true) :
  WE Γ n env (.Call (.Attribute o name apos) [] [] pos) ρ σ Q :=
 WE.meth0 (do return (← importBound o env).getD true) h ((meth_he hbase rfl hline).trans rfl)
end
inductive PX where
 | nm (x : Str) (p : Pos) | cs (c : Const) (k : Nat) (p : Pos) | tp (es : List Expr) (k : Nat) (p : Pos) | sb (a i : Expr) (p : Pos)
noncomputable def PX.e : PX → Expr
 | .nm x p => .Name x p
 | .cs c k p => .Constant c k p
 | .tp es k p => .Tuple es k p
 | .sb a i p => .Subscript a i p
noncomputable def px : Expr → Option PX
 | .Name x p => some (.nm x p)
 | .Constant c k p => some (.cs c k p)
 | .Tuple es k p => some (.tp es k p)
 | .Subscript a i p => some (.sb a i p)
 | _ => Option.none
theorem none_some {α : Type} {a : α} {p : Prop} (h : Option.none = some a) : p := by cases h
theorem px_eq {e : Expr} {q : PX} (h : px e = some q) : e = q.e := by
 cases e with
 | Name | Constant | Tuple | Subscript => exact Option.some.inj h ▸ rfl
 | _ => exact none_some h
noncomputable def namesOf : List Expr → Option (List (Str × Pos))
 | [] => some []
 | e :: r => (px e).bind fun q => match q with
  | .nm x p => (namesOf r).map ((x, p) :: ·)
  | _ => Option.none
theorem namesOf_eq {es : List Expr} {ps : List (Str × Pos)} (h : namesOf es = some ps) : es = ps.map fun p => .Name p.1 p.2 := by
 induction es generalizing ps with
 | nil => cases h; rfl
 | cons e r ih =>
  obtain ⟨q, hq, h⟩ := Option.bind_eq_some_iff.mp h
  rw [px_eq hq]
  cases q with
  | nm x p =>
   obtain ⟨ys, hy, rfl⟩ := Option.map_eq_some_iff.mp h
   rw [List.map_cons, ← ih hy]; rfl
  | _ => cases h
section
variable {Γ : Cx} {K : Frag} {n : Nat} {env : Env} {ρ : Rho} {σ : Sto}
theorem WA.tupleT {ps : List (Str × Pos)} {elts : List Expr} {k : Nat} {pos : Pos} {xs : List PV} {Q : Rho → Sto → Prop} (he : namesOf elts = some ps) (hl : ps.length = xs.length) (hk : (ps.all fun p => env.kindOf p.1 == some .local || env.kindOf p.1 == some .cell) = true) (h : Q (putAll ρ (ps.map (·.1)) xs) σ) : WA Γ n env (.Tuple elts k pos) (.t (.tup xs)) ρ σ Q :=
 WA.tuple (namesOf_eq he) hl h fun p hp => by
  have := List.all_eq_true.mp hk p hp
  simpa using this
theorem WAL.tupleT {ps : List (Str × Pos)} {elts : List Expr} {k : Nat} {pos : Pos} {xs : List PV} {Q : Rho → Prop} (he : namesOf elts = some ps) (hl : ps.length = xs.length) (hk : (ps.all fun p => env.kindOf p.1 == some .local) = true) (h : Q (putAll ρ (ps.map (·.1)) xs)) : WAL Γ n env (.Tuple elts k pos) (.t (.tup xs)) ρ σ Q :=
 WAL.tuple (namesOf_eq he) hl h fun p hp => by
  have := List.all_eq_true.mp hk p hp
  simpa using this
end
section
variable {Γ : Cx} {K : Frag} {n : Nat} {env : Env} {ρ : Rho} {σ : Sto}
theorem WAL.mono {t : Expr} {v : V} {Q Q' : Rho → Prop} (h : WAL Γ n env t v ρ σ Q) (hq : ∀ ρ, Q ρ → Q' ρ) : WAL Γ n env t v ρ σ Q' := fun A s ν g x hA F S r =>
 wpAny_mono (h A s ν g x hA F S r) (fun z' s' q => let ⟨ρ', a, b, c, q⟩ := q; ⟨ρ', a, b, c, hq _ q⟩) fun z' z' x => x
theorem WIf.mono {ifs : List Expr} {Q Q' : Bool → Sto → Prop} (h : WIf Γ n env ifs ρ σ Q) (hq : ∀ b σ, Q b σ → Q' b σ) : WIf Γ n env ifs ρ σ Q' := fun A s ν g hA F S =>
 wpAny_mono (h A s ν g hA F S) (fun _ s' ⟨ν', g', σ', a, b, q⟩ => ⟨ν', g', σ', a, b, hq _ _ q⟩) fun z' z' x => x
theorem WT.mono {e : Expr} {Q Q' : Bool → Sto → Prop} (h : WT Γ n env e ρ σ Q) (hq : ∀ b σ, Q b σ → Q' b σ) : WT Γ n env e ρ σ Q' := fun A s ν g hA F S =>
 wpAny_mono (h A s ν g hA F S) (fun _ s' ⟨ν', g', σ', a, b, q⟩ => ⟨ν', g', σ', a, b, hq _ _ q⟩) fun z' z' x => x
theorem WIt.mono {e : Expr} {Q Q' : List PV → Sto → Prop} (h : WIt Γ n env e ρ σ Q) (hq : ∀ b σ, Q b σ → Q' b σ) : WIt Γ n env e ρ σ Q' := fun A s ν g hA F S =>
 wpAny_mono (h A s ν g hA F S) (fun z' s' hs => wpAny_mono hs (fun _ s'' ⟨I, ν', g', σ', ds, e, a, b, c, i, q⟩ => ⟨I, ν', g', σ', ds, e, a, b, c, i, hq _ _ q⟩) fun z' z' x => x) fun z' z' x => x
theorem WCp.each {elt target : Expr} {ifs : List Expr} {Q : List V → Sto → Prop} (p : PV → Bool) (f : PV → V) (xs : List PV) (out : List V)
  (h : ∀ x ∈ xs, WAL Γ n env target (.t x) ρ σ fun ρ₁ => (∀ y d, ρ.lookup y = some d → ρ₁.lookup y = some d) ∧ WIf Γ n env ifs ρ₁ σ fun b σ₁ => σ₁ = σ ∧ b = p x ∧ (p x = true → WE Γ n env elt ρ₁ σ fun d σ₂ => σ₂ = σ ∧ d = f x))
  (hq : Q (out ++ (xs.filter p).map f) σ) : WCp Γ n env elt target ifs xs out ρ σ Q := by
 induction xs generalizing out with
 | nil => exact WCp.nil (by simpa using hq)
 | cons x xs ih =>
  refine WCp.cons ((h x (.head _)).mono fun ρ₁ ⟨le, hi⟩ => hi.mono fun b σ₁ ⟨e1, e2, he⟩ => ?_)
  subst e1 e2
  cases hp : p x with
  | true =>
   refine (he hp).mono fun d σ₂ ⟨e3, e4⟩ => ?_
   subst e3 e4
   refine WCp.less le (ih _ (fun y hy => h y (.tail _ hy)) ?_)
   rw [List.filter_cons_of_pos hp, List.map_cons] at hq
   simpa using hq
  | false =>
   refine WCp.less le (ih _ (fun y hy => h y (.tail _ hy)) ?_)
   rw [List.filter_cons_of_neg (by simp [hp])] at hq
   exact hq
theorem lookup_put_new {ρ : Rho} {x : Str} {v : V} (h : ρ.lookup x = Option.none) : ∀ y d, ρ.lookup y = some d → (put ρ x v).lookup y = some d := fun y d hy => by
 rw [lookup_put, if_neg (fun e => by subst e; rw [h] at hy; cases hy)]; exact hy
set_option tactic.hygienic true in
theorem WB.froze {sts : List Stmt} {y : Str} {i : Nat} {xs : List PV} {Q : Fl → Rho → Sto → Prop} (hi : σ i = Option.none) (h : WB Γ n env sts (put ρ y (.t (.lst xs))) σ Q) : WB Γ n env sts (put ρ y (.ref i)) (upd σ i (.lst (xs.map .t))) Q := by
 refine WB.frzL i (upd_self ..) (WB.thaw y (i := i) (d := .lst xs) (by rw [lookup_put, if_pos rfl]) (upd_self ..) (WB.le (σ' := σ) ?_ (WB.less (ρ' := put ρ y (.t (.lst xs))) (fun x d hx => ?_) h)))
 ·rw [upd_upd]; exact Sto.le_upd hi
 ·rw [lookup_put] at hx ⊢
  split at hx
  ·rename_i q; rw [if_pos q]; exact hx
  ·rename_i q; rw [if_neg q, lookup_put, if_neg q]; exact hx
end
section
variable {Γ : Cx} {K : Frag} {n : Nat} {env : Env} {σ : Sto}
abbrev bodyQ (Γ : Cx) (n : Nat) (env : Env) (body : List Stmt) (Q : Fl → Rho → Sto → Prop) (ρ₁ : Rho) (σ₁ : Sto) : Prop := WB Γ n env body ρ₁ σ₁ Q
inductive TurnQ (ρ₀ : Rho) (I : Sto → Prop) (ρ₂ : Rho) (σ₂ : Sto) : Prop
 | mk : (∀ y d, ρ₀.lookup y = some d → ρ₂.lookup y = some d) → (σ₃ : Sto) → Sto.le σ₃ σ₂ → I σ₃ → TurnQ ρ₀ I ρ₂ σ₂
abbrev turnQ (ρ₀ : Rho) (I : Sto → Prop) (Q : Fl → Rho → Sto → Prop) (f : Fl) (ρ₂ : Rho) (σ₂ : Sto) : Prop := match f with
 | .next => TurnQ ρ₀ I ρ₂ σ₂
 | .ret d => Q (.ret d) ρ₂ σ₂
 | _ => False
theorem WFor.each {target : Expr} {body : List Stmt} {ρ₀ : Rho} {Q : Fl → Rho → Sto → Prop} (I : List PV → Sto → Prop)
  (turn : ∀ x rest σ, I (x :: rest) σ → let rt := ρ₀; let Qt := bodyQ Γ n env body (turnQ rt (I rest) Q); WA Γ n env target (.t x) rt σ Qt)
  (done : ∀ σ, I [] σ → Q .next ρ₀ σ) (xs : List PV) (h : I xs σ) : WFor Γ n env target body xs ρ₀ σ Q := by
 induction xs generalizing σ with
 | nil => exact WFor.nil (done _ h)
 | cons x xs ih =>
  refine WFor.cons fun A s ν g y hA F S r => wpAny_mono (turn x xs σ h A s ν g y hA F S r) (fun z' s' q => q.mono fun ρ₁ σ₁ q => q.mono fun f ρ₂ σ₂ hf => ?_) fun z' z' x => x
  cases f with
  | next => obtain ⟨le, σ₃, l3, i3⟩ := hf; exact WFor.less le (WFor.le l3 (ih i3))
  | ret d => exact hf
  | brk => exact (show False from hf).elim
  | cont => exact (show False from hf).elim
  | exc _ _ => exact hf
theorem WFor.over2 {β : Type} {R : PV → β → Prop} {target : Expr} {body : List Stmt} {ρ₀ : Rho} {Q : Fl → Rho → Sto → Prop} (S : List β → Sto) {l : List PV} {us : List β} (hl : All2 R l us)
  (turn : ∀ dn x u ur, us = dn ++ u :: ur → R x u → let rt := ρ₀; let Qt := bodyQ Γ n env body (turnQ rt (fun σ => σ = S (dn ++ [u])) Q); WA Γ n env target (.t x) rt (S dn) Qt) (done : Q .next ρ₀ (S us)) (h0 : σ = S []) : WFor Γ n env target body l ρ₀ σ Q := by
 refine WFor.each (fun rest σ => ∃ dn ur, us = dn ++ ur ∧ All2 R rest ur ∧ σ = S dn) (fun x rest σ h => ?_) (fun σ h => ?_) l ⟨[], us, rfl, hl, h0⟩
 ·obtain ⟨dn, ur, e, h, rfl⟩ := h
  obtain ⟨u, k, rfl, r, h⟩ := h.invL
  refine fun A s ν g y hA F S' r' => wpAny_mono (turn dn x u k e r A s ν g y hA F S' r') (fun z' s' q => q.mono fun ρ₁ σ₁ q => q.mono fun f ρ₂ σ₂ hf => ?_) fun z' z' x => x
  cases f with
  | next => obtain ⟨le, σ₃, l3, i3⟩ := hf; exact ⟨le, σ₃, l3, dn ++ [u], k, by rw [e, List.append_assoc]; rfl, h, i3⟩
  | ret d => exact hf
  | brk => exact hf
  | cont => exact hf
  | exc _ _ => exact hf
 ·obtain ⟨dn, ur, e, h, rfl⟩ := h
  rw [show ur = [] from h.invL, List.append_nil] at e
  exact e ▸ done
theorem WFor.over {β : Type} {target : Expr} {body : List Stmt} {ρ₀ : Rho} {Q : Fl → Rho → Sto → Prop} (f : β → PV) (S : List β → Sto) (us : List β)
  (turn : ∀ dn u ur, us = dn ++ u :: ur → let rt := ρ₀; let Qt := bodyQ Γ n env body (turnQ rt (fun σ => σ = S (dn ++ [u])) Q); WA Γ n env target (.t (f u)) rt (S dn) Qt) (done : Q .next ρ₀ (S us)) {l : List PV} (hl : l = us.map f) (h0 : σ = S []) : WFor Γ n env target body l ρ₀ σ Q := by
 subst hl
 refine WFor.over2 (R := fun x u => x = f u) S ?_ (fun dn x u ur e h => h ▸ turn dn u ur e) done h0
 clear turn done
 induction us with
 | nil => exact .nil
 | cons u us ih => exact .cons rfl ih
noncomputable def guardB {α : Type} : Bool → Option α → Option α
 | true, o => o
 | false, _ => Option.none
theorem guardB_some {α : Type} {b : Bool} {o : Option α} {d : α} (h : guardB b o = some d) : b = true ∧ o = some d := by
 cases b with
 | true => exact ⟨rfl, h⟩
 | false => cases h
noncomputable def locK : Option NameKind → Bool
 | some .local => true
 | some .cell => true
 | some .free => true
 | _ => false
noncomputable def varOK (env : Env) (x : Str) : Bool := locK (env.kindOf x) && (!(x == ("__debug__" : Str)) && !(x == ("__classdict__" : Str)))
noncomputable def tsO : List (Option V) → Option (List PV)
 | [] => some []
 | o :: r => o.bind fun v => match v with
  | .t d => (tsO r).map (d :: ·)
  | .ref _ => Option.none
noncomputable def tupO (o : Option (List PV)) : Option V := o.bind fun xs => guardB (Nat.ble xs.length 1000) (some (.t (.tup xs)))
noncomputable def subO (i a : V) : Option V := match i with
 | .t (.int (.ofNat m)) => match a with
  | .t (.tup xs) => guardB (Nat.ble m 1000) ((xs[m]?).map .t)
  | _ => Option.none
 | _ => Option.none
theorem subO_some {i a d : V} (h : subO i a = some d) : ∃ m xs d', i = .t (.int (.ofNat m)) ∧ a = .t (.tup xs) ∧ Nat.ble m 1000 = true ∧ xs[m]? = some d' ∧ d = .t d' := by
 cases i with
 | ref _ => cases h
 | t p => cases p with
  | int i => cases i with
   | negSucc m => cases h
   | ofNat m => cases a with
    | ref _ => cases h
    | t p => cases p with
     | tup xs =>
      obtain ⟨d', hd, e⟩ := Option.map_eq_some_iff.mp (guardB_some h).2
      exact ⟨m, xs, d', rfl, rfl, (guardB_some h).1, hd, e.symm⟩
     | _ => cases h
  | _ => cases h
noncomputable def constV : Const → Option V
 | .int i => some (.t (.int i))
 | .str x => some (.t (.str x))
 | .bool b => some (.t (.bool b))
 | .none => some (.t .none)
 | _ => Option.none
noncomputable def peQ (env : Env) (ρ : Rho) (f : Expr → Option V) : PX → Option V
 | .nm x _ => guardB (varOK env x) (ρ.lookup x)
 | .cs c _ _ => constV c
 | .tp es _ _ => guardB (es.all kdsPlain) (tupO (tsO (es.map f)))
 | .sb a i _ => (f i).bind fun vi => (f a).bind fun va => subO vi va
noncomputable def pe (env : Env) (ρ : Rho) : Nat → Expr → Option V
 | 0, _ => Option.none
 | k + 1, e => (px e).bind (peQ env ρ (pe env ρ k))
noncomputable def pes (env : Env) (ρ : Rho) : List Expr → Option (List V)
 | [] => some []
 | e :: es => (pe env ρ 9 e).bind fun d => (pes env ρ es).map (d :: ·)
noncomputable def noStar (es : List Expr) : Bool := es.all kdsPlain
theorem noStar_cons {e : Expr} {es : List Expr} (h : noStar (e :: es) = true) : starEach (e :: es) env = (false, eval e env) :: starEach es env ∧ noStar es = true := by
 have h2 := (Bool.and_eq_true_iff.mp h).2
 exact ⟨(kds_star (e :: es) h).trans (congrArg _ (kds_star es h2).symm), h2⟩
theorem noStar_one {e : Expr} {es : List Expr} (h : noStar [e] = true) : starEach (e :: es) env = (false, eval e env) :: starEach es env := by
 cases e with
 | Starred => cases h
 | _ => rfl
theorem noStar_plain {pos : Pos} {es : List Expr} (h : noStar es = true) : (backTo pos (starEach es env)).any (·.1) = false := by
 rw [kds_star es h]
 unfold backTo
 rw [List.map_map, List.any_map]
 exact List.any_eq_false.mpr fun x z' => Bool.false_ne_true
theorem pe_px {k : Nat} {e : Expr} {d : V} (h : pe env ρ k e = some d) : ∃ q : PX, e = q.e := by
 cases k with
 | zero => cases h
 | succ k => obtain ⟨q, hq, _⟩ := Option.bind_eq_some_iff.mp h; exact ⟨q, px_eq hq⟩
theorem pe_star {k : Nat} {e : Expr} {d : V} (h : pe env ρ k e = some d) (es : List Expr) : starEach (e :: es) env = (false, eval e env) :: starEach es env := by
 obtain ⟨q, rfl⟩ := pe_px h
 cases q <;> rfl
theorem pe_slice {k : Nat} {e : Expr} {d : V} (h : pe env ρ k e = some d) (o j : Value) : subscripted e false o j = operate [o, j] (getItem o j) := by
 obtain ⟨q, rfl⟩ := pe_px h
 cases q <;> rfl
theorem tsO_all {pos : Pos} {f : Expr → Option V} (hf : ∀ e d, f e = some d → (∀ (σ : Sto) (Q : V → Sto → Prop), Q d σ → WE Γ n env e ρ σ Q) ∧ ∀ es, starEach (e :: es) env = (false, eval e env) :: starEach es env)
  {es : List Expr} {xs : List PV} (h : tsO (es.map f) = some xs) {σ : Sto} {Q : List V → Sto → Prop} (q : Q (xs.map .t) σ) : WEs Γ n env pos es ρ σ Q := by
 induction es generalizing xs Q with
 | nil => cases h; exact WEs.nil q
 | cons e es ih =>
  obtain ⟨v, he, h⟩ := Option.bind_eq_some_iff.mp h
  obtain ⟨h1, h2⟩ := hf e _ he
  cases v with
  | ref _ => cases h
  | t d =>
   obtain ⟨l, hr, rfl⟩ := Option.map_eq_some_iff.mp h
   exact WEs.cons (h1 _ _ (ih hr q)) (h2 es)
theorem locK_kind {o : Option NameKind} (h : locK o = true) : o = some .local ∨ o = some .cell ∨ o = some .free := by
 cases o with
 | none => cases h
 | some k => cases k with
  | «local» => exact .inl rfl
  | cell => exact .inr (.inl rfl)
  | free => exact .inr (.inr rfl)
  | _ => cases h
theorem varOK_kind {x : Str} (hv : varOK env x = true) : (env.kindOf x = some .local ∨ env.kindOf x = some .cell ∨ env.kindOf x = some .free) ∧ (x == ("__debug__" : Str)) = false ∧ (x == ("__classdict__" : Str)) = false := by
 have h := Bool.and_eq_true_iff.mp hv
 have h2 := Bool.and_eq_true_iff.mp h.2
 exact ⟨locK_kind h.1, (Bool.not_eq_true' _).mp h2.1, (Bool.not_eq_true' _).mp h2.2⟩
theorem WE.nameV {x : Str} {p : Pos} {d : V} {Q : V → Sto → Prop} (hv : varOK env x = true) (hx : ρ.lookup x = some d) (q : Q d σ) : WE Γ n env (.Name x p) ρ σ Q :=
 WE.name hx (varOK_kind hv).1 (varOK_kind hv).2.1 (varOK_kind hv).2.2 q
theorem pe_ok (k : Nat) (e : Expr) (d : V) (h : pe env ρ k e = some d) (σ : Sto) (Q : V → Sto → Prop) (q : Q d σ) : WE Γ n env e ρ σ Q := by
 induction k generalizing e d σ Q with
 | zero => cases h
 | succ k ih =>
  obtain ⟨p, hp, h⟩ := Option.bind_eq_some_iff.mp h
  rw [px_eq hp]
  clear hp
  cases p with
  | nm x p => exact WE.nameV (guardB_some h).1 (guardB_some h).2 q
  | cs c _ _ =>
   cases c with
   | int i => cases h; exact WE.int q
   | str x => cases h; exact WE.str q
   | bool b => cases h; exact WE.bool q
   | none => cases h; exact WE.none q
   | _ => cases h
  | tp es _ _ =>
   obtain ⟨xs, hx, h⟩ := Option.bind_eq_some_iff.mp (guardB_some h).2
   obtain rfl := Option.some.inj (guardB_some h).2
   exact WE.tupleT (tsO_all (fun e d he => ⟨fun σ Q q => ih e d he σ Q q, pe_star he⟩) hx (TsV.mk (ts_map _) (Nat.le_of_ble_eq_true (guardB_some h).1) q))
  | sb a i _ =>
   obtain ⟨vi, hi, h⟩ := Option.bind_eq_some_iff.mp h
   obtain ⟨va, ha, h⟩ := Option.bind_eq_some_iff.mp h
   obtain ⟨m, xs, d', rfl, rfl, hm, hd, rfl⟩ := subO_some h
   exact WE.sub (ih a _ ha _ _ (ih i _ hi _ _ (g_tup (Int.natCast_nonneg _) (Int.lt_of_le_of_lt (Int.ofNat_le.mpr (Nat.le_of_ble_eq_true hm)) (by decide)) hd q))) (pe_slice hi)
theorem WE.pure {e : Expr} {d : V} {Q : V → Sto → Prop} (h : pe env ρ 9 e = some d) (q : Q d σ) : WE Γ n env e ρ σ Q := pe_ok 9 e d h σ Q q
theorem WEs.pure {pos : Pos} {es : List Expr} {ds : List V} {Q : List V → Sto → Prop} (h : pes env ρ es = some ds) (q : Q ds σ) : WEs Γ n env pos es ρ σ Q := by
 induction es generalizing ds Q with
 | nil => cases h; exact WEs.nil q
 | cons e es ih =>
  obtain ⟨d, he, h⟩ := Option.bind_eq_some_iff.mp h
  obtain ⟨l, hr, rfl⟩ := Option.map_eq_some_iff.mp h
  exact WEs.cons (WE.pure he (ih hr q)) (pe_star he es)
noncomputable def globK : Option NameKind → Bool
 | some .globalImplicit => true
 | _ => false
noncomputable def globOK (env : Env) (x : Str) : Bool := globK (env.kindOf x) && !(x == ("__debug__" : Str))
theorem globK_kind {o : Option NameKind} (h : globK o = true) : o = some .globalImplicit := by
 cases o with
 | none => cases h
 | some k => cases k with
  | globalImplicit => rfl
  | _ => cases h
theorem globOK_kind {x : Str} (h : globOK env x = true) : env.kindOf x = some .globalImplicit ∧ (x == ("__debug__" : Str)) = false :=
 ⟨globK_kind (Bool.and_eq_true_iff.mp h).1, (Bool.not_eq_true' _).mp (Bool.and_eq_true_iff.mp h).2⟩
noncomputable def calB : Value → Bool
 | .builtin _ => true
 | .type _ => true
 | .ref a => (fnList.any fun p => p.1 == a) || (clsList.any fun r => r.c == a)
 | _ => false
noncomputable def lookC (x : Str) : Option Value := (globList.lookup x).bind fun v => guardB (calB v) (some v)
theorem Wd.cal (W : Wd Γ K) {v : Value} (h : calB v = true) : Callee Γ v := by
 cases v with
 | builtin _ => exact callB _
 | type _ => exact callT _
 | ref a =>
  rcases Bool.or_eq_true_iff.mp h with h | h
  ·obtain ⟨p, hp, e⟩ := List.any_eq_true.mp h
   obtain ⟨i, hi⟩ := List.mem_iff_getElem?.mp hp
   rw [← beq_iff_eq.mp e]; exact W.callF i hi
  ·obtain ⟨r, hr, e⟩ := List.any_eq_true.mp h
   obtain ⟨i, hi⟩ := List.mem_iff_getElem?.mp hr
   rw [← beq_iff_eq.mp e]; exact (W.cls i hi).2.2.2.1
 | _ => cases h
theorem Wd.gl (W : Wd Γ K) {x : Str} {v : Value} (h : lookC x = some v) : GlobV Γ x v ∧ Callee Γ v := by
 obtain ⟨u, hl, h⟩ := Option.bind_eq_some_iff.mp h
 obtain ⟨hc, h⟩ := guardB_some h
 cases h
 obtain ⟨i, hi⟩ := List.mem_iff_getElem?.mp (PySem.mem_of_lookup hl)
 exact ⟨W.glob i hi, W.cal hc⟩
theorem WE.callG {x : Str} {p pos : Pos} {e : Expr} {es : List Expr} {f : Value} {Q : V → Sto → Prop} (W : Wd Γ K) (hp : noStar (e :: es) = true) (hk : globOK env x = true) (hx : lookC x = some f)
  (h : WEs Γ n env pos (e :: es) ρ σ fun ds σ' => WC Γ n f ds σ' Q) : WE Γ n env (.Call (.Name x p) (e :: es) [] pos) ρ σ Q :=
 WE.call (W.gl hx).1 (W.gl hx).2 h (globOK_kind hk).1 (globOK_kind hk).2 (noStar_plain (noStar_cons (env := env) hp).2) (noStar_cons hp).1 rfl
theorem WE.append {o e : Expr} {apos pos : Pos} {es : List Expr} {Q : V → Sto → Prop} (hp : noStar (e :: es) = true) (hb : attributeBase o (ofString "append") env (eval o env) = eval o env) (hf : methodCallForm ((e :: es).length + 0) (backTo pos (starEach (e :: es) env)) [] = true) (hl : (apos.endLine == pos.line) = true)
  (h : WE Γ n env o ρ σ fun v σ₁ => BTy Γ "list" σ₁ v ∧ WEs Γ n env pos (e :: es) ρ σ₁ fun vs σ₂ => WC Γ n (.builtin "list.append") (v :: vs) σ₂ Q) : WE Γ n env (.Call (.Attribute o (ofString "append") apos) (e :: es) [] pos) ρ σ Q :=
 WE.methBn PySem.F.plainAttrs_list slot_list_append PySem.F.type_list_append h (noStar_plain (noStar_cons (env := env) hp).2) (noStar_cons hp).1 hb hf hl
theorem WE.dget {o e : Expr} {apos pos : Pos} {es : List Expr} {Q : V → Sto → Prop} (hp : noStar (e :: es) = true) (hb : attributeBase o (ofString "get") env (eval o env) = eval o env) (hf : methodCallForm ((e :: es).length + 0) (backTo pos (starEach (e :: es) env)) [] = true) (hl : (apos.endLine == pos.line) = true)
  (h : WE Γ n env o ρ σ fun v σ₁ => BTy Γ "dict" σ₁ v ∧ WEs Γ n env pos (e :: es) ρ σ₁ fun vs σ₂ => WC Γ n (.builtin "dict.get") (v :: vs) σ₂ Q) : WE Γ n env (.Call (.Attribute o (ofString "get") apos) (e :: es) [] pos) ρ σ Q :=
 WE.methBn PySem.F.plainAttrs_dict PySem.F.slot_dict_get PySem.F.type_dict_get h (noStar_plain (noStar_cons (env := env) hp).2) (noStar_cons hp).1 hb hf hl
theorem pes_noStar {es : List Expr} {ds : List V} (h : pes env ρ es = some ds) : noStar es = true := by
 induction es generalizing ds with
 | nil => rfl
 | cons e es ih =>
  obtain ⟨d, he, h⟩ := Option.bind_eq_some_iff.mp h
  obtain ⟨l, hr, _⟩ := Option.map_eq_some_iff.mp h
  obtain ⟨q, rfl⟩ := pe_px he
  exact Bool.and_eq_true_iff.mpr ⟨by cases q <;> rfl, ih hr⟩
theorem WE.callP {x : Str} {p pos : Pos} {e : Expr} {es : List Expr} {f : Value} {ds : List V} {Q : V → Sto → Prop} (W : Wd Γ K) (hp : pes env ρ (e :: es) = some ds) (hk : globOK env x = true) (hx : lookC x = some f)
  (h : let Q0 := Q; WC Γ n f ds σ Q0) : WE Γ n env (.Call (.Name x p) (e :: es) [] pos) ρ σ Q :=
 WE.callG W (pes_noStar hp) hk hx (WEs.pure hp h)
theorem WE.subP {a i : Expr} {va vi : V} {pos : Pos} {Q : V → Sto → Prop} (ha : pe env ρ 9 a = some va) (hi : pe env ρ 9 i = some vi) (h : WG Γ n va vi σ Q) : WE Γ n env (.Subscript a i pos) ρ σ Q :=
 WE.sub (WE.pure ha (WE.pure hi h)) (pe_slice hi)
theorem WE.binopP {l r : Expr} {a b : V} {op : Operator} {p : Pos} {Q : V → Sto → Prop} (ha : pe env ρ 9 l = some a) (hb : pe env ρ 9 r = some b) (h : WV2 Γ n a b (binaryOp op) σ Q) : WE Γ n env (.BinOp l op r p) ρ σ Q :=
 WE.binop (WE.pure ha (WE.pure hb h))
theorem WT.cmpP {l r : Expr} {a b : V} {op : CmpOp} {p : Pos} {Q : Bool → Sto → Prop} (hm : behindInMarks op r = false) (ha : pe env ρ 9 l = some a) (hb : pe env ρ 9 r = some b)
  (h : WV2 Γ n a b (compareOp op) σ (BoolQ Q)) : WT Γ n env (.Compare l [op] [r] p) ρ σ Q := WT.cmp hm (WE.pure ha (WE.pure hb h))
theorem WE.cmpP {l r : Expr} {a b : V} {op : CmpOp} {p : Pos} {Q : V → Sto → Prop} (hm : behindInMarks op r = false) (ha : pe env ρ 9 l = some a) (hb : pe env ρ 9 r = some b)
  (h : WV2 Γ n a b (compareOp op) σ Q) : WE Γ n env (.Compare l [op] [r] p) ρ σ Q := WE.cmp hm (WE.pure ha (WE.pure hb h))
theorem WE.pureA {e : Expr} {d : V} {Q : V → Sto → Prop} (q : Q d σ) (h : autoParam (pe env ρ 9 e = some d) rflS) : WE Γ n env e ρ σ Q := WE.pure h q
theorem WE.nameA {x : Str} {p : Pos} {d : V} {Q : V → Sto → Prop} (q : Q d σ) (hv : autoParam (varOK env x = true) rflS) (hx : ρ.lookup x = some d := by assumption) : WE Γ n env (.Name x p) ρ σ Q := WE.nameV hv hx q
theorem WE.binopA {l r : Expr} {a b : V} {op : Operator} {p : Pos} {Q : V → Sto → Prop} (h : WV2 Γ n a b (binaryOp op) σ Q) (ha : autoParam (pe env ρ 9 l = some a) rflS) (hb : autoParam (pe env ρ 9 r = some b) rflS) : WE Γ n env (.BinOp l op r p) ρ σ Q := WE.binopP ha hb h
theorem WE.subA {a i : Expr} {va vi : V} {pos : Pos} {Q : V → Sto → Prop} (h : WG Γ n va vi σ Q) (ha : autoParam (pe env ρ 9 a = some va) rflS) (hi : autoParam (pe env ρ 9 i = some vi) rflS) : WE Γ n env (.Subscript a i pos) ρ σ Q := WE.subP ha hi h
theorem WE.subB {value slice : Expr} {pos : Pos} {Q : V → Sto → Prop} (h : WE Γ n env value ρ σ fun o σ₁ => WE Γ n env slice ρ σ₁ fun i σ₂ => WG Γ n o i σ₂ Q) (hs : autoParam (∀ o i, subscripted slice false o i = operate [o, i] (getItem o i)) rfiS) : WE Γ n env (.Subscript value slice pos) ρ σ Q := WE.sub h hs
theorem WE.cmpA {l r : Expr} {a b : V} {op : CmpOp} {p : Pos} {Q : V → Sto → Prop} (h : WV2 Γ n a b (compareOp op) σ Q) (hm : autoParam (behindInMarks op r = false) rflS) (ha : autoParam (pe env ρ 9 l = some a) rflS) (hb : autoParam (pe env ρ 9 r = some b) rflS) : WE Γ n env (.Compare l [op] [r] p) ρ σ Q := WE.cmpP hm ha hb h
theorem WE.cmpB {l r : Expr} {op : CmpOp} {p : Pos} {Q : V → Sto → Prop} (h : WE Γ n env l ρ σ fun a σ₁ => WE Γ n env r ρ σ₁ fun b σ₂ => WV2 Γ n a b (compareOp op) σ₂ Q) (hb : autoParam (behindInMarks op r = false) rflS) : WE Γ n env (.Compare l [op] [r] p) ρ σ Q := WE.cmp hb h
theorem WE.attrA {o : Expr} {name : Str} {pos : Pos} {Q : V → Sto → Prop} (h : WE Γ n env o ρ σ (AttrQ Γ name Q))
  (he : eval (.Attribute o name pos) env = (do let v ← eval o env; standAt pos.atName; let r ← holding [v] (getAttr v name true); letTemporaryGo o v r; Pure.pure r) := by with_unfolding_all exact rfl) : WE Γ n env (.Attribute o name pos) ρ σ Q := WE.attr h he
theorem WE.compA {elt target iter : Expr} {ifs : List Expr} {scope : Scope} {pos : Pos} {Q : V → Sto → Prop} (h : WIt Γ n env iter ρ σ fun xs σ₁ => xs.length ≤ 100000 ∧ ∀ C, let Ec := cenv scope C env; let rc := compRho scope ρ; WCp Γ n Ec elt target ifs xs [] rc σ₁ (CompQ Q))
  (ok : autoParam (compOK scope env = true) rflS) (hs : autoParam (∀ x, foldedSetIterable iter env x = Pure.pure x) rfiS) : WE Γ n env (.ListComp elt [⟨target, iter, ifs, 0⟩] scope pos) ρ σ Q := WE.comp ok h hs
theorem WE.callA {x : Str} {p pos : Pos} {e : Expr} {es : List Expr} {f : Value} {ds : List V} {Q : V → Sto → Prop} (h : let Q0 := Q; WC Γ n f ds σ Q0) (hp : autoParam (pes env ρ (e :: es) = some ds) rflS) (hk : autoParam (globOK env x = true) rflS) (hx : autoParam (lookC x = some f) rflS) (W : Wd Γ K := by assumption) : WE Γ n env (.Call (.Name x p) (e :: es) [] pos) ρ σ Q := WE.callP W hp hk hx h
theorem WE.callB {x : Str} {p pos : Pos} {e : Expr} {es : List Expr} {f : Value} {Q : V → Sto → Prop} (h : WEs Γ n env pos (e :: es) ρ σ fun ds σ' => WC Γ n f ds σ' Q) (hp : autoParam (noStar (e :: es) = true) rflS) (hk : autoParam (globOK env x = true) rflS) (hx : autoParam (lookC x = some f) rflS) (W : Wd Γ K := by assumption) : WE Γ n env (.Call (.Name x p) (e :: es) [] pos) ρ σ Q := WE.callG W hp hk hx h
theorem WE.appendA {o e : Expr} {apos pos : Pos} {es : List Expr} {Q : V → Sto → Prop} (h : WE Γ n env o ρ σ fun v σ₁ => BTy Γ "list" σ₁ v ∧ WEs Γ n env pos (e :: es) ρ σ₁ fun vs σ₂ => WC Γ n (.builtin "list.append") (v :: vs) σ₂ Q)
  (hp : autoParam (noStar (e :: es) = true) rflS) (hb : autoParam (attributeBase o (ofString "append") env (eval o env) = eval o env) rflS) (hf : autoParam (methodCallForm ((e :: es).length + 0) (backTo pos (starEach (e :: es) env)) [] = true) rflS) (hl : autoParam ((apos.endLine == pos.line) = true) rflS) : WE Γ n env (.Call (.Attribute o (ofString "append") apos) (e :: es) [] pos) ρ σ Q := WE.append hp hb hf hl h
theorem WE.dgetA {o e : Expr} {apos pos : Pos} {es : List Expr} {Q : V → Sto → Prop} (h : WE Γ n env o ρ σ fun v σ₁ => BTy Γ "dict" σ₁ v ∧ WEs Γ n env pos (e :: es) ρ σ₁ fun vs σ₂ => WC Γ n (.builtin "dict.get") (v :: vs) σ₂ Q)
  (hp : autoParam (noStar (e :: es) = true) rflS) (hb : autoParam (attributeBase o (ofString "get") env (eval o env) = eval o env) rflS) (hf : autoParam (methodCallForm ((e :: es).length + 0) (backTo pos (starEach (e :: es) env)) [] = true) rflS) (hl : autoParam ((apos.endLine == pos.line) = true) rflS) : WE Γ n env (.Call (.Attribute o (ofString "get") apos) (e :: es) [] pos) ρ σ Q := WE.dget hp hb hf hl h
theorem WS.assignA {x : Str} {px p : Pos} {e : Expr} {Q : Fl → Rho → Sto → Prop} (h : WE Γ n env e ρ σ fun d σ' => Q .next (put ρ x d) σ') (hk : env.kindOf x = some .local ∨ env.kindOf x = some .cell := by k_dflt (first | exact .inl rfl | exact .inr rfl)) (hsw : autoParam (∀ env, swapsWith e (some (.Name x px)) p.line env = pure false) rfiS) : WS Γ n env (.Assign [.Name x px] e p) ρ σ Q := WS.assign hk hsw h
theorem WS.compA {elt target iter : Expr} {ifs : List Expr} {scope : Scope} {pos spos : Pos} {y : Str} {py : Pos} {Q : Fl → Rho → Sto → Prop}
  (h : WIt Γ n env iter ρ σ fun xs σ₁ => xs.length ≤ 100000 ∧ ∀ C, let Ec := cenv scope C env; let rc := compRho scope ρ; WCp Γ n Ec elt target ifs xs [] rc σ₁ fun out σ₂ => ∀ i, σ₂ i = Option.none → Q .next (put ρ y (.ref i)) (upd σ₂ i (.lst out))) (ok : autoParam (compOK scope env = true) rflS)
  (hsw : autoParam (swapsWith (.ListComp elt [⟨target, iter, ifs, 0⟩] scope pos) (some (.Name y py)) spos.line env = pure true) rflS) (hk : autoParam (env.kindOf y = some .local) rflS) (hs : autoParam (∀ x, foldedSetIterable iter env x = pure x) rfiS) : WS Γ n env (.Assign [.Name y py] (.ListComp elt [⟨target, iter, ifs, 0⟩] scope pos) spos) ρ σ Q := WS.compO ok hsw h hk hs
theorem WS.exprA {e : Expr} {p : Pos} {Q : Fl → Rho → Sto → Prop} (h : WE Γ n env e ρ σ fun z' σ' => Q .next ρ σ') (hsw : autoParam (∀ env : Env, env.scope.kind = .function → swapsWith e none p.line env = pure false) rfiS) : WS Γ n env (.Expr e p) ρ σ Q := WS.expr hsw h
theorem WS.augNameA {x : Str} {px p : Pos} {op : Operator} {e : Expr} {v : V} {Q : Fl → Rho → Sto → Prop} (h : WE Γ n env e ρ σ fun d σ₁ => WV2 Γ n v d (inplaceOp op) σ₁ fun r σ₂ => Q .next (put ρ x r) σ₂) (hx : ρ.lookup x = some v := by first | (k_dflt exact rfl) | assumption) (hk : autoParam (env.kindOf x = some .local) rflS) : WS Γ n env (.AugAssign (.Name x px) op e p) ρ σ Q := WS.augName hx h hk
theorem WS.augSubA {o i value : Expr} {tpos pos : Pos} {op : Operator} {Q : Fl → Rho → Sto → Prop}
  (h : WE Γ n env o ρ σ fun ov σ₁ => WE Γ n env i ρ σ₁ fun iv σ₂ => WG Γ n ov iv σ₂ fun old σ₃ => WE Γ n env value ρ σ₃ fun v σ₄ => WV2 Γ n old v (inplaceOp op) σ₄ fun new σ₅ => WSt Γ n ov iv new σ₅ fun σ₆ => Q .next ρ σ₆)
  (hi : autoParam (∀ ov iv new, augStore i ov iv new = (do holding [new, ov, iv] (setItem ov iv new); release [new, ov, iv] []; pure .next)) rfiS) : WS Γ n env (.AugAssign (.Subscript o i tpos) op value pos) ρ σ Q := WS.augSub h hi
theorem WS.setSubA {o i value : Expr} {pos' pos : Pos} {Q : Fl → Rho → Sto → Prop} (h : WE Γ n env value ρ σ fun v σ₁ => WE Γ n env o ρ σ₁ fun ov σ₂ => WE Γ n env i ρ σ₂ fun iv σ₃ => WSt Γ n ov iv v σ₃ fun σ₄ => Q .next ρ σ₄)
  (hs : autoParam (swapsWith value (some (.Subscript o i pos')) pos.line env = pure false) rflS) : WS Γ n env (.Assign [.Subscript o i pos'] value pos) ρ σ Q := WS.setSub h hs
theorem WS.setAttrA {o value : Expr} {name : Str} {pos' pos : Pos} {Q : Fl → Rho → Sto → Prop}
  (h : WE Γ n env value ρ σ fun d σ₁ => WE Γ n env o ρ σ₁ (SetQ Γ name d ρ Q))
  (hs : autoParam (swapsWith value (some (.Attribute o name pos')) pos.line env = pure false) rflS) : WS Γ n env (.Assign [.Attribute o name pos'] value pos) ρ σ Q := WS.setAttr h hs
theorem WS.assignTA {elts : List Expr} {k : Nat} {tpos pos : Pos} {value : Expr} {Q : Fl → Rho → Sto → Prop} (h : WE Γ n env value ρ σ fun v σ₁ => WA Γ n env (.Tuple elts k tpos) v ρ σ₁ fun ρ' σ₂ => Q .next ρ' σ₂)
  (hs : autoParam (swapsWithSole [.Tuple elts k tpos] value pos.line env = pure false) rflS) (hw : autoParam (swappedStores [.Tuple elts k tpos] value env = pure none) rflS) : WS Γ n env (.Assign [.Tuple elts k tpos] value pos) ρ σ Q := WS.assignT h hs hw
theorem WS.forA {target iter : Expr} {body : List Stmt} {pos : Pos} {Q : Fl → Rho → Sto → Prop} (h : WIt Γ n env iter ρ σ fun xs σ₁ => WFor Γ n env target body xs ρ σ₁ Q) (hs : autoParam (∀ x, foldedSetIterable iter env x = pure x) rfiS) : WS Γ n env (.For target iter body [] pos) ρ σ Q := WS.for_ h hs
theorem WEs.pureA {pos : Pos} {es : List Expr} {ds : List V} {Q : List V → Sto → Prop} (q : Q ds σ) (h : autoParam (pes env ρ es = some ds) rflS) : WEs Γ n env pos es ρ σ Q := WEs.pure h q
theorem WEs.consA {pos : Pos} {e : Expr} {es : List Expr} {Q : List V → Sto → Prop} (h : WE Γ n env e ρ σ fun d σ₁ => WEs Γ n env pos es ρ σ₁ fun ds σ₂ => Q (d :: ds) σ₂) (he : autoParam (noStar [e] = true) rflS) : WEs Γ n env pos (e :: es) ρ σ Q := WEs.cons h (noStar_one he)
theorem TsV.mkA {ds : List V} {xs : List PV} {P : List PV → Prop} (p : P xs) (h : autoParam (ts? ds = some xs) rflS) (l : autoParam (Nat.ble xs.length 1000 = true) rflS) : TsV ds P := ⟨xs, h, Nat.le_of_ble_eq_true l, p⟩
theorem WT.cmpA {l r : Expr} {a b : V} {op : CmpOp} {p : Pos} {Q : Bool → Sto → Prop} (h : WV2 Γ n a b (compareOp op) σ (BoolQ Q)) (hm : autoParam (behindInMarks op r = false) rflS) (ha : autoParam (pe env ρ 9 l = some a) rflS) (hb : autoParam (pe env ρ 9 r = some b) rflS) : WT Γ n env (.Compare l [op] [r] p) ρ σ Q := WT.cmpP hm ha hb h
theorem WT.cmpB {l r : Expr} {op : CmpOp} {p : Pos} {Q : Bool → Sto → Prop} (h : WE Γ n env l ρ σ fun a σ₁ => WE Γ n env r ρ σ₁ fun b σ₂ => WV2 Γ n a b (compareOp op) σ₂ (BoolQ Q)) (hb : autoParam (behindInMarks op r = false) rflS) : WT Γ n env (.Compare l [op] [r] p) ρ σ Q := WT.cmp hb h
theorem WT.valA {e : Expr} {Q : Bool → Sto → Prop} (h : WE Γ n env e ρ σ (BoolQ Q)) (hs : autoParam (∀ env whole, isTrue e env whole = (do let v ← whole; standAt e.pos; holding [v] (truthy v))) rfiS) : WT Γ n env e ρ σ Q := WT.val hs h
theorem WA.nameA {x : Str} {p : Pos} {v : V} {Q : Rho → Sto → Prop} (h : Q (put ρ x v) σ) (hk : env.kindOf x = some .local ∨ env.kindOf x = some .cell := by k_dflt (first | exact .inl rfl | exact .inr rfl)) : WA Γ n env (.Name x p) v ρ σ Q := WA.name h hk
theorem WAL.nameA {x : Str} {p : Pos} {v : V} {Q : Rho → Prop} (h : Q (put ρ x v)) (hk : autoParam (env.kindOf x = some .local) rflS) : WAL Γ n env (.Name x p) v ρ σ Q := WAL.name h hk
theorem WAL.tupleA {ps : List (Str × Pos)} {elts : List Expr} {k : Nat} {pos : Pos} {xs : List PV} {Q : Rho → Prop} (h : Q (putAll ρ (ps.map (·.1)) xs)) (he : autoParam (namesOf elts = some ps) rflS) (hl : autoParam (ps.length = xs.length) rflS) (hk : autoParam ((ps.all fun p => env.kindOf p.1 == some .local) = true) rflS) : WAL Γ n env (.Tuple elts k pos) (.t (.tup xs)) ρ σ Q := WAL.tupleT he hl hk h
theorem WA.tupleA {ps : List (Str × Pos)} {elts : List Expr} {k : Nat} {pos : Pos} {xs : List PV} {Q : Rho → Sto → Prop} (h : Q (putAll ρ (ps.map (·.1)) xs) σ) (he : autoParam (namesOf elts = some ps) rflS) (hl : autoParam (ps.length = xs.length) rflS) (hk : autoParam ((ps.all fun p => env.kindOf p.1 == some .local || env.kindOf p.1 == some .cell) = true) rflS) : WA Γ n env (.Tuple elts k pos) (.t (.tup xs)) ρ σ Q := WA.tupleT he hl hk h
end
set_option tactic.hygienic true in
theorem put_again {ρ₀ ρ : Rho} {x : Str} {v : V} (h : ∀ y d, ρ₀.lookup y = some d → ρ.lookup y = some d) (hx : ρ₀.lookup x = some v) : ∀ y d, ρ₀.lookup y = some d → (put ρ x v).lookup y = some d := fun y d hy => by
 rw [lookup_put]
 split
 ·rename_i e; subst e; rw [hx] at hy; exact hy
 ·exact h y d hy
theorem WC.up {Γ : Cx} {m n : Nat} {f : Value} {ds : List V} {σ : Sto} {Q : V → Sto → Prop} (le : m ≤ n) (h : WC Γ m f ds σ Q) : WC Γ n f ds σ Q := fun A s ν g xs hA S r => h A s ν g xs (hA.less le) S r
end Mine
section
open Builtin Builtin.ObjectAttr
namespace Mine
noncomputable abbrev excBm : List Value := [.ref 38, .type "Exception", .type "BaseException", .type "object"]
section
variable {Γ : Cx} {K : Frag} {n : Nat} {env : Env} {ρ : Rho} {σ : Sto} {ν ν' : List Addr} {g g' : Heap} {s s' : Shared} {A : Around}
structure ExcK (K : Frag) : Prop where
 init : findIn K (.ref 82) "__init__" = some (some (.ref 79))
 sa : findIn K (.ref 82) "__setattr__" = some (some (.builtin "object.__setattr__"))
 ga : findIn K (.ref 82) "__getattribute__" = some (some (.builtin "BaseException.__getattribute__"))
 gt : findIn K (.ref 82) "__getattr__" = some Option.none
 no : ∀ x ∈ [ofString "why", ofString "at", ofString "code"], findIn K (.ref 82) x = some Option.none
 keep : keepIn K (.ref 82) = true
 reads : readsIn K 38 (.type "type") = true
 wall : findCls K (.ref 38) (.type "type") "__init__" = some (.val (.ref 35))
 spec : specialIn K (.ref 38) "__getattribute__" = some (some (.builtin "type.__getattribute__"))
 exc : findCls K (.type "Exception") (.type "type") "__init__" = some (.val (.builtin "Exception.__init__"))
theorem isVal_eq {o : Option CFound} {v : Value} (h : isVal o v = true) : o = some (.val v) := by
 cases o with
 | none => cases h
 | some c => cases c with
  | val u => rw [eq_of_beq h]
  | _ => cases h
theorem Wd.exc (W : Wd Γ K) : ExcK K := by
 have h := W.F.exc
 unfold excOk at h
 simp only [Bool.and_eq_true, beq_iff_eq] at h
 obtain ⟨⟨⟨⟨⟨⟨⟨⟨⟨a, b⟩, c⟩, d⟩, e⟩, f⟩, k⟩, l⟩, m⟩, o⟩ := h
 exact ⟨a, b, c, d, fun x hx => by simpa using List.all_eq_true.mp e x hx, f, k, isVal_eq l, m, isVal_eq o⟩
theorem Wd.cls82 (W : Wd Γ K) {h : Heap} (hP : Γ.B.P h) : h.get? 82 = some (excClassObj (ofString "Refused") (ofString "Refused") 82 81 [.ref 38] excBm true [] [] false Option.none Option.none (some (.ref 66)) Option.none (some (.str (ofString "Refused") 258)) (some (.str (ofString "Refused") 266)) (some (.bool true)) "Exception.__new__") :=
 W.hK h hP 82 _ (W.F.objs 55 82 refObj rfl)
end
end Mine
end
section
open Builtin Builtin.ObjectAttr
namespace Mine
section
variable {prog : Program} {w : World} {A : Around} {R : Result → Shared → Prop} {h : Heap} {g : Array GenState} {d : Drawn} {t : Nat} {os : OsState} {K : Frag}
variable {nm q : Str} {C N : Addr} {bs : List Value} {sn : List Str} {sub : List Value} {ab : Bool} {col : Option Bool} {dd : Option Addr} {k0 k1 k2 k3 k5 : Option Value}
noncomputable abbrev newExcObj (C a : Addr) : Obj := { cls := .ref C, data := .fields #[.ref a, .none, .none, .none, .bool false, .none] }
theorem exc_new {rest : List Value} (hC : h.get? C = some (excClassObj nm q C N bs excBm true sn sub ab col dd k0 k1 k2 k3 k5 "Exception.__new__"))
  (hq : R (.ok (.ret (.ref (h.objs.size + 1)))) ⟨(h.push { cls := .type "tuple", data := .seq rest.toArray }).push (newExcObj C h.objs.size), g, d, t, os⟩) (hrest : rest.length ≤ sizeLine) :
  codeAny (model prog w) A (.builtin "Exception.__new__" ⟨.ref C :: rest, []⟩) R ⟨h, g, d, t, os⟩ := by
 have F := PySem.F.excBase_Exception
 have hends := F.ends
 have hcB : (Value.ref C :: excBm).contains (.type "Exception") = true := by simp
 have hcA : (Value.ref C :: excBm).contains (.type "AttributeError") = false := by simp
 have hcN : (Value.ref C :: excBm).contains (.type "NameError") = false := by simp
 refine codeAny_builtinAt F.entry ?_
 unfold Builtin.«BaseException.__new__»
 refine PySem.wpAt_bind ?_
 show PySem.wpAt _ _ _ (stack >>= _) _ _ _
 refine PySem.wpAt_bind (PySem.wpAt_stack fun p below => PySem.wpAt_of_wpAny ?_)
 wp_walk
 refine PySem.wpAt_of_wpAny ?_
 rw [F.owner]
 repeat (first | with_reducible refine wpAny_madeHere_exc F.canon hC ?_ | with_reducible refine wpAny_loadPart_at hC ?_ | (with_reducible refine wpAny_isSubtype_exc hC ?_; first | rw [hcB] | rw [hcA] | rw [hcN]) | wp_step)
 show R _ _
 rw [Heap.size_push]
 exact hq
theorem exc_new_check {E : Value → Shared → Prop} {rest : List Value} {Q : Unit → Shared → Prop} (hC : h.get? C = some (excClassObj nm q C N bs excBm true sn sub ab col dd k0 k1 k2 k3 k5 "Exception.__new__"))
  (hq : Q () ⟨h, g, d, t, os⟩) : wpAny (model prog w) A (checkBuiltinCall "Exception.__new__" ⟨.ref C :: rest, []⟩) Q E ⟨h, g, d, t, os⟩ := by
 have F := PySem.F.excBase_Exception
 have hcont : (Value.ref C :: excBm).contains (.type "Exception") = true := by simp
 have hstar := F.noStar
 unfold checkBuiltinCall
 rw [F.newKind, F.newSplit]
 dsimp only
 refine wpAny_ite_true (decide_eq_true (beq_self_eq_true _)) ?_
 repeat (first | refine wpAny_loadPart_at hC ?_ | (refine wpAny_isSubtype_exc hC ?_; rw [hcont]) | refine wpAny_staticBase_exc hC ?_ | refine wpAny_madeBy_exc hC ?_ | rw [bne_self_eq_false, if_neg Bool.false_ne_true] | wp_step)
 exact hq
theorem exc_make {rest : List Value} {fI : Addr} (X : K.In h) (hC : h.get? C = some (excClassObj nm q C N bs excBm true sn sub ab col dd k0 k1 k2 k3 k5 "Exception.__new__")) (hrest : rest.length ≤ sizeLine)
  (hi : findIn K (.ref C) "__init__" = some (some (.ref fI))) (hf : typeIn K (.ref fI) = some (.type "function"))
  (hq : codeAny (model prog w) (A.under (.builtin "type.__call__" ⟨.ref C :: rest, []⟩)) (.call (.ref fI) ⟨.ref (h.objs.size + 1) :: rest, []⟩) (InitBack (h.objs.size + 1) R) ⟨(h.push { cls := .type "tuple", data := .seq rest.toArray }).push (newExcObj C h.objs.size), g, d, t, os⟩) :
  codeAny (model prog w) A (.call (.ref C) ⟨rest, []⟩) R ⟨h, g, d, t, os⟩ := by
 have f1 := tc_lookup
 have f2 := tc_bind (.ref C)
 have F := PySem.F.excBase_Exception
 have hT : (⟨h, g, d, t, os⟩ : Shared).TypeIs (.ref C) "type" := ⟨_, hC, rfl⟩
 refine codeAny_of_tree ?_
 show wpAny _ _ (callAny (.ref C) _) _ _ _
 repeat (any_goals (first | assumption | with_reducible refine wpAny_loadPart_at hC ?_ | wp_step))
 refine ⟨rfl, ?_⟩
 have fin : ∀ R' : Result → Shared → Prop, R' = R → codeAny (model prog w) A (.call (.builtin "type.__call__") ⟨.ref C :: rest, []⟩) R' ⟨h, g, d, t, os⟩ → codeAny (model prog w) A (.call (.builtin "type.__call__") ⟨.ref C :: rest, []⟩) R ⟨h, g, d, t, os⟩ := fun R' e z => e ▸ z
 refine fin R rfl ?_
 refine codeAny_call_builtin_at (Code.quiet_builtin _ (by decide +kernel)) entry_typeCall (wpAny_check_type_call_sub hC ?_)
 repeat (first | with_reducible refine wpAny_loadPart_at hC ?_ | with_reducible refine wpAny_madeBy_exc hC ?_ | wp_step)
 refine codeAny_call_builtin_code (Code.quiet_builtin _ F.quiet) (exc_new_check hC ?_)
 refine exc_new hC ?_ hrest
 show wpAny _ _ _ _ _ _
 have k : ∀ b o, h.get? b = some o → ((h.push { cls := .type "tuple", data := .seq rest.toArray }).push (newExcObj C h.objs.size)).get? b = some o := fun b o e => Heap.get?_push_of_some _ (Heap.get?_push_of_some _ e)
 have hC₁ := k _ _ hC
 have hget : ((h.push { cls := .type "tuple", data := .seq rest.toArray }).push (newExcObj C h.objs.size)).get? (h.objs.size + 1) = some (newExcObj C h.objs.size) := by heap_get
 have hcC : (Value.ref C :: excBm).contains (.ref C) = true := by simp
 have t1 : Looks (model prog w) ((h.push { cls := .type "tuple", data := .seq rest.toArray }).push (newExcObj C h.objs.size)) (typeOf (.ref (h.objs.size + 1))) (.ref C) := (Looks.ld hget).andThen .now
 have i1 := (looks_findIn (M := model prog w) X hi).keeps k
 have b1 := (bind_fn (M := model prog w) X (.ref (h.objs.size + 1)) hf).keeps k
 unfold isInstance
 repeat (first | with_reducible refine wpAny_loadPart_at hget ?_ | (with_reducible refine wpAny_isSubtype_exc hC₁ ?_; rw [hcC]) | wp_step)
 refine i1.at ?_
 refine wpAny_holding (wpAny_bind (b1.at ?_))
 refine wpAny_bind (wpAny_call ?_)
 refine codeAny_mono hq fun r s' z => ?_
 rcases r with e | (v | _ | _ | _) <;> first | exact z | exact z.elim | skip
 obtain ⟨rfl, z⟩ := z
 exact wpAny_pure (wpAny_pure z)
end
end Mine
end
section
open Builtin Builtin.ObjectAttr
namespace Mine
section
variable {Γ : Cx} {K : Frag} {n : Nat} {env : Env} {ρ : Rho} {σ : Sto} {ν ν' : List Addr} {g g' : Heap} {s s' : Shared} {A : Around}
theorem Wd.cd82 (W : Wd Γ K) : clsIn K 82 = some { name := ofString "Refused", bases := [.ref 38], mro := .ref 82 :: excBm, ns := 81, qualname := ofString "Refused", hasDict := true, slotNames := [], subclasses := [], abstract := false, collection := Option.none, hasDel := false } := by
 unfold clsIn; rw [W.F.objs 55 82 refObj rfl]; rfl
theorem WCc.exc (W : Wd Γ K) {vs : List V} {Q : V → Sto → Prop} (hl : vs.length ≤ 100)
  (h : ∀ i, σ i = Option.none → WCc Γ n (.ref 79) (.ref i :: vs) (upd σ i (.exc 82 Option.none)) fun r σ' => r = .t .none ∧ Q (.ref i) σ') :
  WCc Γ (n + 1) (.ref 82) vs σ Q := fun A s ν g xs hA S r => by
 have hP : Γ.B.P s.heap := Γ.B.mono _ _ S.sub S.base
 have X : K.In s.heap := W.hK _ hP
 have hlen : xs.length ≤ sizeLine := by rw [r.length, sizeLine_eq]; lia
 obtain ⟨hh, gg, d, t, os⟩ := s
 refine exc_make X (W.cls82 hP) hlen W.exc.init (W.typeF 1 rfl) ?_
 have S₁ := S.push (t := t) { cls := .type "tuple", data := .seq xs.toArray }
 have st₁ : Step [] ν g _ ν g _ := Step.push (ν := ν) (g := g) (s := ⟨hh, gg, d, t, os⟩) (t := t) { cls := .type "tuple", data := .seq xs.toArray }
 obtain ⟨st₂, S₂⟩ := S₁.allocO (t := t) (ao := .exc 82 Option.none) (newExcObj 82 hh.objs.size) rfl ⟨_, Option.none, rfl, rfl, rfl⟩
 have st := st₁.trans st₂
 have hi1 : σ ν.length = Option.none := S.fresh
 have hsz : (hh.push { cls := .type "tuple", data := .seq xs.toArray }).objs.size = hh.objs.size + 1 := Heap.size_push ..
 dsimp only at S₂ st
 have hx : RepV Γ.prog Γ.w (ν ++ [(hh.push { cls := .type "tuple", data := .seq xs.toArray }).objs.size]) g (.ref (hh.objs.size + 1)) (.ref ν.length) := ⟨hh.objs.size + 1, rfl, by rw [hsz]; simp⟩
 refine codeAny_mono (h ν.length hi1 (A.under _) _ _ g (.ref (hh.objs.size + 1) :: xs) (AOK.under (hA.step st)) S₂ (.cons hx (st.reps r))) fun r s' hr => ?_
 rcases r with e | (v | _ | _ | _) <;> first | exact hr.elim | skip
 obtain ⟨ν', g', σ', d', st', S', r', rfl, q⟩ := hr
 obtain rfl : v = .none := Rep.inv r'
 exact ⟨rfl, ν', g', σ', .ref ν.length, st.trans st', S', st'.rep (d := .ref ν.length) hx, q⟩
theorem osa_exc {R : Result → Shared → Prop} {x : Addr} {ox : Obj} {od : Option Obj} {name : Str} {tk : Tok} {v : Value} (W : Wd Γ K) (X : K.In s.heap) (I : InstAt s.heap x ox 82 od) (hn : findIn K (.ref 82) name = some Option.none)
  (h : wpAny (model Γ.prog Γ.w) A.in1 (storeInOwnDict (.ref x) (.ref 82) (.str name tk) name v false)
   (fun fin s' => match fin with | .done f => R (.ok f) s' | .again c' => c'.quiet = true ∧ codeAny (model Γ.prog Γ.w) A c' R s') (fun e s' => R (.error e) s') s) :
  codeAny (model Γ.prog Γ.w) A (.call (.builtin "object.__setattr__") ⟨[.ref x, .str name tk, v], []⟩) R s := by
 have SF := PySem.F.store_Exception
 have hc := W.cd82
 have sub : Looks (model Γ.prog Γ.w) s.heap (isInstance (.ref x) (.type "object")) true := I.type.andThen (looks_mroIn X (by unfold mroIn; rw [hc]; rfl))
 refine codeAny_call_builtin SF.slot.plain SF.entry (@check_slot (model Γ.prog Γ.w) _ _ s "object.__setattr__" "object" "__setattr__" (.ref x) [.str name tk, v] [] _ SF.kind SF.split sub (SF.args (.ref x) (.str name tk) v) ?_)
 have hm : Looks (model Γ.prog Γ.w) s.heap (mroOf (.ref 82)) (.ref 82 :: excBm) := (looks_clsIn X hc).andThen .now
 rw [osa_eq, refuse_eq]
 refine wpAny_bind (wpAny_bind (I.type.here (wpAny_bind (hm.here ?_))))
 rw [refuseLoop_ref, refuseLoop_ref, SF.passes (.ref x)]
 refine wpAny_pure (wpAny_bind (I.type.here (wpAny_bind ((looks_findIn X hn).here (wpAny_bind (wpAny_pure ?_))))))
 exact h
theorem set_exc0 (W : Wd Γ K) {i : Nat} {name : Str} {v : Value} {d : V} {x : Value} {E : Value → Shared → Prop} {Q : Unit → Shared → Prop} (S : Sat Γ.prog Γ.w Γ.B σ ν g s) (hi : σ i = some (.exc 82 Option.none)) (hn : findIn K (.ref 82) name = some Option.none)
  (rx : RepV Γ.prog Γ.w ν g x (.ref i)) (rv : RepV Γ.prog Γ.w ν g v d)
  (h : ∀ k ν' h' t, σ k = Option.none → k ≠ i → Step [] ν g s ν' g { s with heap := h', toks := t } → Sat Γ.prog Γ.w Γ.B (upd (upd σ k (.dct .S [(.str name, d)])) i (.exc 82 (some k))) ν' g { s with heap := h', toks := t } → Q () { s with heap := h', toks := t }) :
  wpAny (model Γ.prog Γ.w) A (setAttr x name v) Q E s := by
 obtain ⟨a, rfl, ha⟩ := rx
 obtain ⟨o, ho, vs, t, rfl, hv1, rfl⟩ := S.own i a _ ha hi
 have X : K.In s.heap := W.hK _ (Γ.B.mono _ _ S.sub S.base)
 have Ia : InstAt s.heap a { cls := .ref 82, dict := Option.none, data := .fields vs } 82 Option.none := ⟨ho, rfl, rfl, trivial⟩
 refine set_plain X Ia W.exc.sa ?_
 refine osa_exc (s := { s with toks := s.toks + 1 }) W X Ia hn ?_
 refine wpAny_bind (wpAny_pure (wpAny_bind (wpAny_bind (wpAny_loadPart ho (wpAny_bind ((looks_clsIn (h := { s with toks := s.toks + 1 }.heap) X W.cd82).here ?_))))))
 obtain ⟨st₁, S₁⟩ := S.allocO (t := s.toks + 1) (ao := .dct .S []) emptyDict rfl ⟨S.low, [], 0, rfl, ⟨fun z' h => (nomatch h), List.Pairwise.nil⟩, All2.nil⟩
 have hk1 : σ ν.length = Option.none := S.fresh
 have hki : ν.length ≠ i := fun e => by rw [e, hi] at hk1; cases hk1
 have hx₁ : (s.heap.push emptyDict).get? a = some { cls := .ref 82, dict := Option.none, data := .fields vs } := Heap.get?_push_of_some _ ho
 have hxs : a ≠ s.heap.objs.size := Nat.ne_of_lt (Heap.lt_size ho)
 have hx₂ : ((s.heap.push emptyDict).update a fun o => { cls := o.cls, dict := some s.heap.objs.size, data := o.data, slots := o.slots }).get? a = some { cls := .ref 82, dict := some s.heap.objs.size, data := .fields vs } := Heap.get?_update_self _ hx₁ rfl
 obtain ⟨st₂, S₂⟩ := S₁.setO (i := i) (a := a) (ao := .exc 82 Option.none) (ao' := .exc 82 (some ν.length)) (t := s.toks + 1) (prefix_get (List.prefix_append _ _) i a ha) (by rw [upd_ne _ _ (Ne.symm hki)]; exact hi) rfl
  (Heap.SameBut.update _ _ _) hx₂ ⟨vs, _, rfl, hv1, s.heap.objs.size, rfl, by simp⟩
 rw [if_neg (by decide)]
 dsimp only
 rw [if_neg (by decide +kernel)]
 refine wpAny_bind (wpAny_alloc' ?_)
 refine wpAny_bind (wpAny_update' hx₁ ?_)
 refine wpAny_pure ?_
 have hd : ((s.heap.push emptyDict).update a fun o => { cls := o.cls, dict := some s.heap.objs.size, data := o.data, slots := o.slots }).get? s.heap.objs.size = some (dictOf [] 0) := (Heap.get?_update_other _ _ hxs).trans (Heap.get?_push_size _ rfl)
 show wpAny _ _ (storeInDict s.heap.objs.size (.str name s.toks) name v) _ _ _
 unfold storeInDict newKeyGuard
 refine wpAny_bind (wpAny_pure (wpAny_bind ?_))
 unfold nsSet
 refine wpAny_bind (wpAny_bind (wpAny_askSetting (wpAny_pure (wpAny_bind (wpAny_mkText (wpAny_bind (wpAny_loadPart hd ?_)))))))
 dsimp only
 have st₁₂ := st₁.trans st₂
 have hko : KeysOk .S ([] : List (Key × V)) := ⟨fun z' h => (nomatch h), List.Pairwise.nil⟩
 obtain ⟨es', m', e', hr'⟩ := put_name (Γ := Γ) (ν := ν ++ [s.heap.objs.size]) (g := g) (m := 0) (name := name) (t := s.toks + 1) hko (All2.nil) (st₁₂.rep rv)
 have D' : (((s.heap.push emptyDict).update a fun o => { cls := o.cls, dict := some s.heap.objs.size, data := o.data, slots := o.slots }).update s.heap.objs.size (Obj.putName name (PyData.keyHash Γ.w.params name) (.str name (s.toks + 1)) v)).get? s.heap.objs.size = some (dictOf es' m') := by
  rw [Heap.get?_update_self _ hd (by rw [e']; rfl), e']
 have cc : (!([] : List DictEntry).toArray.any (·.key.isStr name) && ([] : List DictEntry).toArray.any (·.refKey)) = false := by simp
 rw [aRefKeyMayBeTheName_at, cc]
 refine wpAny_updatePart hd ?_
 have hsz : es'.length = 1 := hr'.length
 refine wpAny_bind (wpAny_lookBehind D' (pastItsLine_dict (by rw [List.size_toArray, sizeLine_eq]; lia)) ?_)
 obtain ⟨st₃, S₃⟩ := S₂.setO (i := ν.length) (t := s.toks + 1 + 1) (ao := .dct .S []) (ao' := .dct .S [(.str name, d)]) (by simp) (by rw [upd_ne _ _ hki]; exact upd_self ..) rfl (Heap.SameBut.update _ _ _) D' ⟨S.low, es', m', rfl, kput_ok hko rfl, hr'⟩
 have e3 : upd (upd (upd σ ν.length (.dct .S [])) i (.exc 82 (some ν.length))) ν.length (.dct .S [(.str name, d)]) = upd (upd σ ν.length (.dct .S [(.str name, d)])) i (.exc 82 (some ν.length)) := by
  rw [upd_comm (Ne.symm hki), upd_upd]
 rw [e3] at S₃
 exact wpAny_pure (h _ _ _ _ hk1 hki (st₁₂.trans st₃) S₃)
theorem set_exc1 (W : Wd Γ K) {i k : Nat} {kvs : List (Key × V)} {name : Str} {v : Value} {d : V} {x : Value} {E : Value → Shared → Prop} {Q : Unit → Shared → Prop} (S : Sat Γ.prog Γ.w Γ.B σ ν g s) (hi : σ i = some (.exc 82 (some k))) (hk : σ k = some (.dct .S kvs)) (hn : findIn K (.ref 82) name = some Option.none)
  (rx : RepV Γ.prog Γ.w ν g x (.ref i)) (rv : RepV Γ.prog Γ.w ν g v d) (hz : kvs.length ≤ 900)
  (h : ∀ h' t, Step [] ν g s ν g { s with heap := h', toks := t } → Sat Γ.prog Γ.w Γ.B (upd σ k (.dct .S (kput kvs (.str name) d))) ν g { s with heap := h', toks := t } → Q () { s with heap := h', toks := t }) :
  wpAny (model Γ.prog Γ.w) A (setAttr x name v) Q E s := by
 obtain ⟨a, rfl, ha⟩ := rx
 obtain ⟨o, ho, vs, t, rfl, hv1, dx, rfl, hdx⟩ := S.own i a _ ha hi
 obtain ⟨o', ho', z, es, m, e3, hko, hr⟩ := S.own k dx _ hdx hk
 subst e3
 have X : K.In s.heap := W.hK _ (Γ.B.mono _ _ S.sub S.base)
 have Ia : InstAt s.heap a { cls := .ref 82, dict := some dx, data := .fields vs } 82 (some (dictOf es m)) := ⟨ho, rfl, rfl, ho'⟩
 refine set_plain X Ia W.exc.sa ?_
 refine osa_exc (s := { s with toks := s.toks + 1 }) W X Ia hn ?_
 refine wpAny_bind (wpAny_pure (wpAny_bind (wpAny_bind (wpAny_loadPart ho (wpAny_bind ((looks_clsIn (h := { s with toks := s.toks + 1 }.heap) X W.cd82).here ?_))))))
 rw [if_neg (by decide)]
 refine wpAny_pure (a := some dx) (wpAny_bind (wpAny_pure (wpAny_bind ?_)))
 unfold nsSet
 refine wpAny_bind (wpAny_bind (wpAny_askSetting (wpAny_pure (wpAny_bind (wpAny_mkText (wpAny_bind (wpAny_loadPart ho' ?_)))))))
 dsimp only
 have cc : (!es.toArray.any (·.key.isStr name) && es.toArray.any (·.refKey)) = false := by
  have : es.toArray.any (·.refKey) = false := by simpa using noRef hko hr
  rw [this, Bool.and_false]
 rw [aRefKeyMayBeTheName_at, cc]
 obtain ⟨es', m', e', hr'⟩ := put_name (m := m) (name := name) (t := s.toks + 1) hko hr rv
 have hsz : es'.length = (kput kvs (.str name) d).length := hr'.length
 have hlen := kput_length kvs (.str name) d
 have D' : (s.heap.update dx (Obj.putName name (PyData.keyHash Γ.w.params name) (.str name (s.toks + 1)) v)).get? dx = some (dictOf es' m') := by
  rw [Heap.get?_update_self _ ho' (by rw [e']; rfl), e']
 refine wpAny_updatePart ho' ?_
 refine wpAny_bind (wpAny_lookBehind D' (pastItsLine_dict (by rw [List.size_toArray, sizeLine_eq]; lia)) ?_)
 obtain ⟨st, S'⟩ := S.setO (t := s.toks + 1 + 1) (ao' := .dct .S (kput kvs (.str name) d)) hdx hk rfl (Heap.SameBut.update _ _ _) D' ⟨z, es', m', rfl, kput_ok hko rfl, hr'⟩
 exact wpAny_pure (h _ _ st S')
theorem WS.setExc0 (W : Wd Γ K) {o value : Expr} {name : Str} {pos' pos : Pos} {Q : Fl → Rho → Sto → Prop}
  (h : WE Γ n env value ρ σ fun d σ₁ => WE Γ n env o ρ σ₁ fun ov σ₂ => ∃ i, ov = .ref i ∧ σ₂ i = some (.exc 82 Option.none) ∧ findIn K (.ref 82) name = some Option.none ∧ ∀ k, σ₂ k = Option.none → k ≠ i → Q .next ρ (upd (upd σ₂ k (.dct .S [(.str name, d)])) i (.exc 82 (some k))))
  (hs : autoParam (swapsWith value (some (.Attribute o name pos')) pos.line env = pure false) rfl0S) : WS Γ n env (.Assign [.Attribute o name pos'] value pos) ρ σ Q := fun A s ν g hA hT F S => by
 refine plainObj_wpAny_Assign_Attribute (seqV (h A s ν g hA F S) fun v s₁ ν₁ g₁ σ₁ d₁ st₁ S₁ r₁ q₁ => seqV (q₁ A s₁ ν₁ g₁ (hA.step st₁) (F.step st₁) S₁) fun ov s₂ ν₂ g₂ σ₂ d₂ st₂ S₂ r₂ q₂ => ?_) hs
 obtain ⟨i, rfl, hi, hn, q⟩ := q₂
 refine set_exc0 W S₂ hi hn r₂ (st₂.rep r₁) fun k ν₃ h' t hk hki st S' => ?_
 have st' := (st₁.trans st₂).trans st
 exact ⟨ν₃, g₂, _, ρ, st'.any, F.step st', S', q k hk hki⟩
theorem WS.setExc1 (W : Wd Γ K) {o value : Expr} {name : Str} {pos' pos : Pos} {Q : Fl → Rho → Sto → Prop}
  (h : WE Γ n env value ρ σ fun d σ₁ => WE Γ n env o ρ σ₁ fun ov σ₂ => ∃ i k kvs, ov = .ref i ∧ σ₂ i = some (.exc 82 (some k)) ∧ σ₂ k = some (.dct .S kvs) ∧ findIn K (.ref 82) name = some Option.none ∧ kvs.length ≤ 900 ∧ Q .next ρ (upd σ₂ k (.dct .S (kput kvs (.str name) d))))
  (hs : autoParam (swapsWith value (some (.Attribute o name pos')) pos.line env = pure false) rfl0S) : WS Γ n env (.Assign [.Attribute o name pos'] value pos) ρ σ Q := fun A s ν g hA hT F S => by
 refine plainObj_wpAny_Assign_Attribute (seqV (h A s ν g hA F S) fun v s₁ ν₁ g₁ σ₁ d₁ st₁ S₁ r₁ q₁ => seqV (q₁ A s₁ ν₁ g₁ (hA.step st₁) (F.step st₁) S₁) fun ov s₂ ν₂ g₂ σ₂ d₂ st₂ S₂ r₂ q₂ => ?_) hs
 obtain ⟨i, k, kvs, rfl, hi, hk, hn, hz, q⟩ := q₂
 refine set_exc1 W S₂ hi hk hn r₂ (st₂.rep r₁) hz fun h' t st S' => ?_
 have st' := (st₁.trans st₂).trans st
 exact ⟨ν₂, g₂, _, ρ, st'.any, F.step st', S', q⟩
end
end Mine
end
section
open Builtin Builtin.ObjectAttr
namespace Mine
set_option tactic.hygienic true in
theorem upd_id' {σ : Sto} {j : Nat} {a : AO} (h : σ j = some a) : upd σ j a = σ := by
 funext i; unfold upd; split
 ·rename_i e; rw [e, h]
 ·rfl
def GetM (Γ : Cx) (c : Value) (name : Str) (f : Value) : Prop :=
 ∀ (A : Around) (s : Shared) (Q : Value × List Value → Shared → Prop) (E : Value → Shared → Prop) (pl : Sem Bool), Γ.B.P s.heap → (∀ t, Q (f, []) { s with toks := t }) → wpAny (model Γ.prog Γ.w) A (getMethod c name pl) Q E s
section
variable {Γ : Cx} {K : Frag} {n : Nat} {env : Env} {ρ : Rho} {σ : Sto} {ν ν' : List Addr} {g g' : Heap} {s s' : Shared} {A : Around}
theorem getM_wall (W : Wd Γ K) : GetM Γ (.ref 38) (ofString "__init__") (.ref 35) := fun A s Q E pl hP h => by
 have X := W.hK _ hP
 exact method_cls X W.exc.spec (cls_value X W.exc.reads W.exc.wall rfl (h _))
theorem typeOf_Exc : typeOf (.type "Exception") = pure (.type "type") := by kernel_rfl
theorem getM_exc (W : Wd Γ K) : GetM Γ (.type "Exception") (ofString "__init__") (.builtin "Exception.__init__") := fun A s Q E pl hP h => by
 have X := W.hK _ hP
 have hr := W.exc.reads
 simp only [readsIn, Bool.and_eq_true, beq_iff_eq] at hr
 obtain ⟨⟨⟨⟨a, b⟩, c'⟩, d⟩, f⟩ := hr
 have e0 : specialOf (.type "Exception") "__getattribute__" = pure (some (.builtin "type.__getattribute__")) := by
  unfold specialOf
  rw [typeOf_Exc]
  exact KF.slot_tga.lookup
 unfold getMethod
 rw [e0]
 refine wpAny_bind (wpAny_pure ?_)
 dsimp only
 rw [if_pos canon_tga]
 refine wpAny_bind (cls_open X (mc := .type "type") (hook := Option.none) (Looks.of_pure (by kernel_rfl)) (Looks.of_pure typeOf_Exc) c' (looks_hook X rfl) f W.exc.exc ?_)
 exact wpAny_pure (by show wpAny _ _ (handedOut (.builtin "Exception.__init__")) _ _ _; rw [handedOut_of (by decide +kernel)]; exact wpAny_pure (wpAny_pure (h _)))
theorem WE.clsMeth {x : Str} {p : Pos} {c f : Value} {e : Expr} {name : Str} {apos pos : Pos} {es : List Expr} {Q : V → Sto → Prop} (hg : GlobV Γ x c) (hm : GetM Γ c name f) (hc : Callee Γ f)
  (h : WEs Γ n env pos (e :: es) ρ σ fun vs σ₂ => WC Γ n f vs σ₂ Q)
  (hk : autoParam (env.kindOf x = some .globalImplicit) rfl0S) (hd : autoParam ((x == ("__debug__" : Str)) = false) rfl0S)
  (hplain : autoParam ((backTo pos (starEach es env)).any (·.1) = false) rfl0S) (hs : autoParam (starEach (e :: es) env = (false, eval e env) :: starEach es env) rfl0S)
  (hbase : autoParam (attributeBase (.Name x p) name env (eval (.Name x p) env) = eval (.Name x p) env) rfl0S) (hform : autoParam (methodCallForm ((e :: es).length + 0) (backTo pos (starEach (e :: es) env)) [] = true) rfl0S) (hline : autoParam ((apos.endLine == pos.line) = true) rfl0S) :
  WE Γ n env (.Call (.Attribute (.Name x p) name apos) (e :: es) [] pos) ρ σ Q := fun A s ν g hA F S => by
 refine MethodCall_ (pl := do return (← importBound (.Name x p) env).getD true) (glob_any F S hk hg hd (hm A s _ _ _ (Γ.B.mono _ _ S.sub S.base) fun t => ?_)) ((meth_he hbase hform hline).trans rfl)
 have S' : Sat Γ.prog Γ.w Γ.B σ ν g { s with toks := t } := S.toks rfl
 have st' : Step [] ν g s ν g { s with toks := t } := .toks rfl ⟨rfl, rfl, rfl⟩
 have h₀ := h A _ ν g (hA.step st') (F.step st') S'
 rw [hs] at h₀ ⊢
 refine callWith_of (P := Γ.B.P) (by show ((false || (backTo pos (starEach es env)).any (·.1)) || false) = false; rw [hplain]; rfl) (fun h hP => hc h hP) (Calls.evalArgs_plain ?_)
 refine seqVs h₀ fun vs s₂ ν₂ g₂ σ₂ ds st₂ S₂ r₂ q₂ => ⟨Γ.B.mono _ _ S₂.sub S₂.base, ?_⟩
 have st := st'.trans st₂
 exact wpAny_mono (q₂ A s₂ ν₂ g₂ _ (hA.step st) S₂ r₂) (fun v s₃ x => x.tr st) fun z' z' x => x.elim
theorem exc_init_check {M : Model} {E : Value → Shared → Prop} {e : Addr} {oe : Obj} {rest : List Value} {Q : Unit → Shared → Prop} {h : Heap} {g : Array GenState} {d : Drawn} {t : Nat} {os : OsState}
  {nm q : Str} {C N : Addr} {bs : List Value} {sn : List Str} {sub : List Value} {ab : Bool} {col : Option Bool} {dd : Option Addr} {k0 k1 k2 k3 k5 : Option Value} {newId : String}
  (hC : h.get? C = some (excClassObj nm q C N bs excBm true sn sub ab col dd k0 k1 k2 k3 k5 newId)) (he : h.get? e = some oe) (hcls : oe.cls = .ref C) (hq : Q () ⟨h, g, d, t, os⟩) :
  wpAny M A (checkBuiltinCall "Exception.__init__" ⟨.ref e :: rest, []⟩) Q E ⟨h, g, d, t, os⟩ := by
 have F := PySem.F.excBase_Exception
 have hcB : (Value.ref C :: excBm).contains (.type "Exception") = true := by simp
 have hshort := F.noStar
 unfold checkBuiltinCall
 rw [F.initKind, F.initSplit]
 dsimp only
 repeat (first | (with_reducible refine wpAny_loadPart_at he ?_; rw [hcls]) | with_reducible refine wpAny_loadPart_at hC ?_ | (with_reducible refine wpAny_isSubtype_exc hC ?_; rw [hcB]) | wp_step)
 refine wpAny_onRaise ?_
 rw [show ∀ (a b : String) (n : Nat), Bind.check ⟨.positional, "*", "Exception", .self, [⟨"args", .varPos, false⟩]⟩ a b n (List.map (fun x => x.fst) ({ pos := Value.ref e :: rest } : Args).kw) = pure () from
  fun a b n => check_star_args _ _ _ _ _ _]
 exact wpAny_pure hq
theorem w_exc_init (W : Wd Γ K) {i : Nat} {ko : Option Nat} {d : V} {Q : V → Sto → Prop} (hi : σ i = some (.exc 82 ko)) (h : Q (.t .none) σ) : WC Γ n (.builtin "Exception.__init__") [.ref i, d] σ Q := fun A s ν g xs hA S r => by
 obtain ⟨x, y, rfl, r1, r2⟩ := r.inv2
 obtain ⟨a, rfl, ha⟩ := r1
 obtain ⟨o, ho, vs, t, rfl, hv1, hko⟩ := S.own i a _ ha hi
 have hP : Γ.B.P s.heap := Γ.B.mono _ _ S.sub S.base
 have F := PySem.F.excBase_Exception
 obtain ⟨hh, gg, dd, tt, os⟩ := s
 refine wpAny_call (codeAny_call_builtin F.init.plain F.initEntry (exc_init_check (W.cls82 hP) ho rfl ?_))
 have hsz : 1 < vs.size := (Array.getElem?_eq_some_iff.mp hv1).1
 have h0 : vs[0]? = some vs[0] := by simp
 generalize vs[0] = v0 at h0
 wp_walk
 rw [h0]
 refine wpAny_pure ?_
 have S₁ := S.push (t := tt) { cls := .type "tuple", data := .seq #[y] }
 have st₁ : Step [] ν g _ ν g _ := Step.push (ν := ν) (g := g) (s := ⟨hh, gg, dd, tt, os⟩) (t := tt) { cls := .type "tuple", data := .seq #[y] }
 dsimp only at S₁ st₁
 have ho₁ : (hh.push { cls := .type "tuple", data := .seq #[y] }).get? a = some { cls := .ref 82, dict := t, data := .fields vs } := Heap.get?_push_of_some _ ho
 have ho₂ := Heap.get?_update_self (Obj.mapFields (·.setIfInBounds 0 (Value.ref hh.objs.size))) ho₁ rfl
 obtain ⟨st₂, S₂⟩ := S₁.setO (i := i) (a := a) (ao' := .exc 82 ko) (t := tt) ha hi rfl (Heap.SameBut.update _ _ _) ho₂ ⟨vs.setIfInBounds 0 (Value.ref hh.objs.size), t, rfl, by simp [hv1], hko⟩
 rw [upd_id' hi] at S₂
 dsimp only at S₂ st₂
 refine wpAny_bind (wpAny_setField ho₁ rfl (Nat.lt_of_succ_lt hsz) ?_)
 have fin : PostV Γ [] ν g { heap := hh, gens := gg, drawn := dd, toks := tt, os := os } Q .none { heap := (hh.push { cls := .type "tuple", data := .seq #[y] }).update a (Obj.mapFields (·.setIfInBounds 0 (Value.ref hh.objs.size))), gens := gg, drawn := dd, toks := tt, os := os } :=
  ⟨ν, g, σ, .t .none, st₁.trans st₂, S₂, Rep.none, h⟩
 cases v0 with
 | ref b => exact wpAny_letGo (wpAny_pure fin)
 | _ => exact wpAny_pure (wpAny_pure fin)
end
end Mine
end
section
open Builtin Builtin.ObjectAttr
namespace Mine
noncomputable abbrev c82 : Obj := excClassObj (ofString "Refused") (ofString "Refused") 82 81 [.ref 38] excBm true [] [] false Option.none Option.none (some (.ref 66)) Option.none (some (.str (ofString "Refused") 258)) (some (.str (ofString "Refused") 266)) (some (.bool true)) "Exception.__new__"
noncomputable def forget (σ : Sto) (i : Nat) : Sto := fun j => if j = i then Option.none else σ j
theorem forget_le (σ : Sto) (i : Nat) : Sto.le (forget σ i) σ := fun j ao e => by
 unfold forget at e; split at e
 ·cases e
 ·exact e
theorem forget_self (σ : Sto) (i : Nat) : forget σ i i = Option.none := if_pos rfl
theorem forget_ne (σ : Sto) {i j : Nat} (h : j ≠ i) : forget σ i j = σ j := if_neg h
section
variable {Γ : Cx} {K : Frag} {n : Nat} {env : Env} {ρ : Rho} {σ : Sto} {ν ν' : List Addr} {g g' : Heap} {s s' : Shared} {A : Around}
theorem exc_raise {M : Model} {E : Value → Shared → Prop} {x : Sem Value} {Q : Flow → Shared → Prop} 
  (hh : A.handled = Option.none)
  (h : wpAny M A x (fun v s₁ => ∃ e dx vs, v = .ref e ∧ s₁.heap.get? 82 = some c82 ∧
   s₁.heap.get? e = some { cls := .ref 82, dict := dx, data := .fields vs } ∧ vs[1]? = some .none ∧ E (.ref e) s₁) E s) :
  wpAny M A (raiseStmt env (some x) Option.none) Q E s := by
 have hcB : (Value.ref 82 :: excBm).contains (.type "BaseException") = true := by simp
 unfold raiseStmt
 refine wpAny_bind (wpAny_mono h (fun v s₁ h₁ => ?_) fun z' z' x => x)
 obtain ⟨e, dx, vs, rfl, hC, he, hv, hE⟩ := h₁
 obtain ⟨hp, g, d, tk, os⟩ := s₁
 repeat (first | with_reducible refine wpAny_loadPart_at he ?_ | with_reducible refine wpAny_loadPart_at hC ?_ | (with_reducible refine wpAny_isSubtype_exc hC ?_; rw [hcB]) | wp_step)
 rw [hv]
 refine wpAny_pure ?_
 rw [if_neg (by decide)]
 exact wpAny_pure (wpAny_raiseNew_none hh hE)
inductive RaiseQ (ρ : Rho) (Q : Fl → Rho → Sto → Prop) (v : V) (σ₁ : Sto) : Prop
 | mk (i k : Nat) (kvs : List (Key × V)) (code why : Str) : v = .ref i → i ≠ k → σ₁ i = some (.exc 82 (some k)) → σ₁ k = some (.dct .S kvs) → kvs.lookup (.str (ofString "code")) = some (.t (.str code)) → kvs.lookup (.str (ofString "why")) = some (.t (.str why)) → Q (.exc code why) ρ (forget σ₁ i) → RaiseQ ρ Q v σ₁
theorem WS.raiseX (W : Wd Γ K) {x : Expr} {pos : Pos} {Q : Fl → Rho → Sto → Prop}
  (h : WE Γ n env x ρ σ (RaiseQ ρ Q)) :
  WS Γ n env (.Raise (some x) Option.none pos) ρ σ Q := fun A s ν g hA hT F S => by
 rw [arm_exec_Raise]
 refine wpAny_bind (wpAny_standAt ?_)
 show wpAny _ A (raiseStmt env (some (do let v ← eval x env; standAt pos; pure v)) Option.none) _ _ s
 refine exc_raise hA.hd (wpAny_bind (wpAny_mono (h A s ν g hA F S) (fun v s₁ h₁ => wpAny_bind (wpAny_standAt (wpAny_pure ?_))) fun z' z' x => x.elim))
 obtain ⟨ν₁, g₁, σ₁, d, st, S₁, r, i, k, kvs, code, why, rfl, hik, hi, hk, hc, hy, q⟩ := h₁
 obtain ⟨a, rfl, ha⟩ := r
 obtain ⟨o, ho, vs, t, rfl, hv, dx, rfl, hdx⟩ := S₁.own i a _ ha hi
 have hP : Γ.B.P s₁.heap := Γ.B.mono _ _ S₁.sub S₁.base
 exact ⟨a, _, vs, rfl, W.cls82 hP, ho, hv, ν₁, g₁, forget σ₁ i, ρ, code, why, st.any, F.step st, S₁.le (forget_le _ _), ⟨i, a, k, dx, _, vs, kvs, rfl, ha, forget_self .., S₁.off i a _ ha hi rfl, hdx, (forget_ne σ₁ hik.symm).trans hk, hc, hy, ho, rfl, rfl, rfl, .inl ⟨rfl, hv⟩⟩, q⟩
abbrev retXM (Q : V → Sto → Prop) (X : Str → Str → Sto → Prop) (fl : Fl) (σ' σ : Sto) : Prop := match fl with
 | .ret d => Q d σ
 | .next => Q (.t .none) σ
 | .exc c y => σ = σ' ∧ X c y σ
 | _ => False
inductive retX (Q : V → Sto → Prop) (X : Str → Str → Sto → Prop) (fl : Fl) (ρ : Rho) (σ' : Sto) : Prop
 | mk (σ'' : Sto) : Sto.le σ'' σ' → retXM Q X fl σ' σ'' → retX Q X fl ρ σ'
theorem WCX.fn {a : Addr} {fd : FuncData} {body : List Stmt} {ds : List V} {ρ : Rho} {Q : V → Sto → Prop} {X : Str → Str → Sto → Prop} (H : HasFn Γ a fd) (hbody : fd.body = .stmts body) (hb : Binds Γ fd ds ρ)
  (h : ∀ env, envIs fd a env → WB Γ n env body ρ σ (retX Q X))
  (hn : (ρ.map (·.1)).Nodup) (hkind : ∀ p ∈ ρ, fd.scope.names.lookup p.1 = some .local ∨ fd.scope.names.lookup p.1 = some .cell)
  (hg : fd.globals = mainGlobals) (hbt : fd.builtins = builtinsNs) (hco : fd.scope.isCoroutine = false) (hgen : fd.scope.isGenerator = false) (hk : fd.scope.kind = .function) (hclo : fd.closure = []) :
  WCX Γ (n + 1) (.ref a) ds σ Q X := fun A s ν g xs hA S r => by
 have hP : Γ.B.P s.heap := Γ.B.mono _ _ S.sub S.base
 obtain ⟨binds, hbi, hbr⟩ := hb ν g s xs hP S.base r
 obtain ⟨o, ho, hoc, hod, hdata⟩ := H.at_ _ hP
 have hlim := H.lim _ hP
 refine wpAny_call (codeAny_call_function hA.room ho hdata hco hgen hbody (H.code _ hP) (hbi _ _ _ _ ?_))
 rw [hclo]
 refine wpAny_newFunctionEnv_cells hk (fun x hx => ?_) fun env he s' x => ?_
 ·obtain ⟨q, hq, e⟩ := RepB.names hbr hx
  rw [← e]
  rcases hkind q hq with z | z
  ·exact .inl z
  ·exact .inr ⟨z, by obtain ⟨c, hc⟩ := cellsFrom_lookup (n := s.heap.objs.size + 1) z; rw [hc]; rfl⟩
 obtain ⟨F, fresh, h', tk, rfl, hle⟩ := frame_new S (fd := fd) (a := a) he x hbr hn hg hbt hk hkind
 have S' := S.ext hle (t := tk)
 have st : Step [] ν g s ν g { s with heap := h', toks := tk } := .ext hle
 have hfr : env.frame = some env.locals := by subst he; rfl
 have hA' : AOK n (A.deeper env) ν g h' := (hA.step st).deeper (by rw [F.kind]; decide) ⟨env.locals, hfr, F.offL.1, F.offL.2, by
  obtain ⟨o, es, ep, ho, hd, _⟩ := x.toInCall.ns
  exact ⟨o, ho, _, _, hd⟩⟩
 have hT : ∃ o, (A.deeper env).frames = some (env :: o) := by
  obtain ⟨l, hl, _⟩ := hA.fr
  exact ⟨l, by show A.frames.map _ = _; rw [hl]; rfl⟩
 refine ⟨hlim.keeps hle, codeAny_func (wpAny_mono (h env ⟨_, he⟩ (A.deeper env) _ ν g hA' hT F S') (fun f s₂ hp => ?_) fun e s₂ hp => ?_)⟩
 ·obtain ⟨ν', g', σ', ρ', st', F', S₂, q⟩ := hp
  have st₂ : Step [] ν g s ν' g' s₂ := st.trans' st' fun b hb => .inr (fresh b hb)
  cases f with
  | next => obtain ⟨σ'', hl, q⟩ := q; exact ⟨ν', g', σ'', .t .none, st₂, S₂.le hl, Rep.none, q⟩
  | brk => obtain ⟨_, _, q⟩ := q; exact q.elim
  | cont => obtain ⟨_, _, q⟩ := q; exact q.elim
  | ret v => obtain ⟨d, r, σ'', hl, q⟩ := q; exact ⟨ν', g', σ'', d, st₂, S₂.le hl, r, q⟩
 ·obtain ⟨ν', g', σ', ρ', c1, c2, st', F', S₂, X₂, σ'', hl, rfl, q⟩ := hp
  have st₂ : Step [] ν g s ν' g' s₂ := st.trans' st' fun b hb => .inr (fresh b hb)
  obtain ⟨o, hT⟩ := hT
  obtain ⟨Fr, L, hL⟩ := frames_at (hA'.step st') hT
  exact leaving_ok S₂ X₂ hT Fr hL fun ν₃ h₃ st₃ S₃ X₃ => ⟨ν₃, g', _, c1, c2, st₂.trans st₃, S₃, X₃.weak, q⟩
theorem WCX.go {a : Addr} {fd : FuncData} {body : List Stmt} {ds es : List V} {Q : V → Sto → Prop} {X : Str → Str → Sto → Prop} (H : HasFn Γ a fd) (names : List Str) (hbody : fd.body = .stmts body) (ok : fnOk fd names = true) (hb : Binds Γ fd ds (names.zip es)) (hl : names.length = es.length)
  (h : ∀ L, let E := fenv fd L a; WB Γ n E body (names.zip es) σ (retX Q X)) : WCX Γ (n + 1) (.ref a) ds σ Q X := by
 unfold fnOk at ok
 simp only [Bool.and_eq_true, decide_eq_true_eq, beq_iff_eq, Bool.not_eq_true', List.isEmpty_iff] at ok
 obtain ⟨⟨⟨⟨⟨⟨⟨a1, a2⟩, a3⟩, a4⟩, a5⟩, a6⟩, a7⟩, a8⟩ := ok
 refine WCX.fn H hbody hb (fun env ⟨L, he⟩ => he ▸ h L) (by rw [names_of_zip hl]; exact a1) (fun p hp => ?_) a3 a4 a5 a6 a7 a8
 have : p.1 ∈ names := by rw [← names_of_zip hl]; exact List.mem_map.mpr ⟨p, hp, rfl⟩
 have := List.all_eq_true.mp a2 _ this
 simpa using this
end
end Mine
end
section
open Builtin Builtin.ObjectAttr
namespace Mine
section
variable {Γ : Cx} {K : Frag} {n : Nat} {env : Env} {ρ : Rho} {σ : Sto} {ν ν' : List Addr} {g g' : Heap} {s s' : Shared} {A : Around} {X : Str → Str → Sto → Prop}
def WEX (Γ : Cx) (n : Nat) (env : Env) (e : Expr) (ρ : Rho) (σ : Sto) (Q : V → Sto → Prop) (X : Str → Str → Sto → Prop) : Prop :=
 ∀ A s ν g, AOK n A ν g s.heap → FrameOK Γ.prog Γ.w env ρ ν g s.heap → Sat Γ.prog Γ.w Γ.B σ ν g s → wpAny (model Γ.prog Γ.w) A (eval e env) (PostV Γ [] ν g s Q) (PostXC Γ ν g s X) s
def WEsX (Γ : Cx) (n : Nat) (env : Env) (pos : Pos) (es : List Expr) (ρ : Rho) (σ : Sto) (Q : List V → Sto → Prop) (X : Str → Str → Sto → Prop) : Prop :=
 ∀ A s ν g, AOK n A ν g s.heap → FrameOK Γ.prog Γ.w env ρ ν g s.heap → Sat Γ.prog Γ.w Γ.B σ ν g s → wpAny (model Γ.prog Γ.w) A (spliced (backTo pos (starEach es env))) (PostVs Γ [] ν g s Q) (PostXC Γ ν g s X) s
theorem PostXC.tr (st : Step [] ν g s ν' g' s') {v : Value} {s₂ : Shared} (h : PostXC Γ ν' g' s' X v s₂) : PostXC Γ ν g s X v s₂ := by
 obtain ⟨ν', g', σ', c1, c2, a, b, d, e⟩ := h; exact ⟨ν', g', σ', c1, c2, st.trans a, b, d, e⟩
theorem WEX.of {e : Expr} {Q : V → Sto → Prop} (h : WE Γ n env e ρ σ Q) : WEX Γ n env e ρ σ Q X := fun A s ν g hA F S =>
 wpAny_mono (h A s ν g hA F S) (fun z' z' x => x) fun z' z' x => x.elim
theorem WEsX.of {pos : Pos} {es : List Expr} {Q : List V → Sto → Prop} (h : WEs Γ n env pos es ρ σ Q) : WEsX Γ n env pos es ρ σ Q X := fun A s ν g hA F S =>
 wpAny_mono (h A s ν g hA F S) (fun z' z' x => x) fun z' z' x => x.elim
theorem WEsX.cons {pos : Pos} {e : Expr} {es : List Expr} {Q : List V → Sto → Prop} (h : WEX Γ n env e ρ σ (fun d σ₁ => WEsX Γ n env pos es ρ σ₁ (fun ds σ₂ => Q (d :: ds) σ₂) X) X)
  (he : autoParam (starEach (e :: es) env = (false, eval e env) :: starEach es env) rfl0S) : WEsX Γ n env pos (e :: es) ρ σ Q X := fun A s ν g hA F S =>
 args_cons (wpAny_mono (h A s ν g hA F S) (fun v s₁ ⟨ν₁, g₁, σ₁, d, st₁, S₁, r₁, q₁⟩ => wpAny_mono (q₁ A s₁ ν₁ g₁ (hA.step st₁) (F.step st₁) S₁)
  (fun vs s₂ ⟨ν₂, g₂, σ₂, ds, st₂, S₂, r₂, q₂⟩ => ⟨ν₂, g₂, σ₂, d :: ds, st₁.trans st₂, S₂, .cons (st₂.rep r₁) r₂, q₂⟩) fun z' z' x => x.tr st₁) fun z' z' x => x) he
theorem WEX.call {x : Str} {p pos : Pos} {e : Expr} {es : List Expr} {f : Value} {Q : V → Sto → Prop} (hg : GlobV Γ x f) (hc : Callee Γ f)
  (h : WEs Γ n env pos (e :: es) ρ σ fun ds σ' => WCX Γ n f ds σ' Q X)
  (hk : autoParam (env.kindOf x = some .globalImplicit) rfl0S) (hd : autoParam ((x == ("__debug__" : Str)) = false) rfl0S)
  (hplain : autoParam ((backTo pos (starEach es env)).any (·.1) = false) rfl0S) (hs : autoParam (starEach (e :: es) env = (false, eval e env) :: starEach es env) rfl0S)
  (he : autoParam (eval (.Call (.Name x p) (e :: es) [] pos) env = (do callWith pos (← eval (.Name x p) env) [] (backTo pos (starEach (e :: es) env)) (backToKw pos (keywordEach [] env)))) rfl0S) :
  WEX Γ n env (.Call (.Name x p) (e :: es) [] pos) ρ σ Q X := fun A s ν g hA F S => by
 refine Call_ (glob_any F S hk hg hd ?_) he
 have h₀ := h A s ν g hA F S
 rw [hs] at h₀ ⊢
 refine callWith_of (P := Γ.B.P) (by show ((false || (backTo pos (starEach es env)).any (·.1)) || false) = false; rw [hplain]; rfl) (fun h hP => hc h hP) (Calls.evalArgs_plain ?_)
 refine seqVs h₀ fun vs s₁ ν₁ g₁ σ₁ ds st₁ S₁ r₁ q₁ => ⟨Γ.B.mono _ _ S₁.sub S₁.base, ?_⟩
 exact wpAny_mono (q₁ A s₁ ν₁ g₁ vs (hA.step st₁) S₁ r₁) (fun v s₂ x => x.tr st₁) fun z' z' x => x.tr st₁
theorem WS.retX {e : Expr} {p : Pos} {Q : Fl → Rho → Sto → Prop} (h : WEX Γ n env e ρ σ (fun d σ' => Q (.ret d) ρ σ') fun c y σ' => Q (.exc c y) ρ σ') : WS Γ n env (.Return (some e) p) ρ σ Q := fun A s ν g hA hT F S =>
 wpAny_Return_some (wpAny_mono (h A s ν g hA F S) (fun v s₁ ⟨ν₁, g₁, σ₁, d, st₁, S₁, r, q⟩ => ⟨ν₁, g₁, σ₁, ρ, st₁.any, F.step st₁, S₁, d, r, q⟩)
  fun v s₁ ⟨ν₁, g₁, σ₁, c, y, st₁, S₁, r, q⟩ => ⟨ν₁, g₁, σ₁, ρ, c, y, st₁.any, F.step st₁, S₁, r, q⟩)
end
end Mine
end
section
open Builtin Builtin.ObjectAttr
namespace Mine
section
variable {Γ : Cx} {K : Frag} {n : Nat} {env : Env} {ρ : Rho} {σ : Sto} {ν ν' : List Addr} {g g' : Heap} {s s' : Shared} {A : Around} {X : Str → Str → Sto → Prop}
theorem WEX.tupleT {es : List Expr} {k : Nat} {pos : Pos} {Q : V → Sto → Prop} (h : WEsX Γ n env pos es ρ σ (fun ds σ₁ => TsV ds fun xs => Q (.t (.tup xs)) σ₁) X) : WEX Γ n env (.Tuple es k pos) ρ σ Q X := fun A s ν g hA F S => by
 refine wpAny_Tuple (wpAny_mono (h A s ν g hA F S) (fun vs s₁ ⟨ν₁, g₁, σ₁, ds, st₁, S₁, r, q⟩ => ?_) fun z' z' x => x)
 obtain ⟨xs, e, hx, q⟩ := q
 obtain rfl := ts_eq e
 have hl : vs.length = xs.length := by rw [r.length, List.length_map]
 refine ⟨by rw [hl, sizeLine_eq]; lia, PostV.tr (postF S₁ rfl rfl (fun g' hg ho => ?_) q) st₁⟩
 exact .tup ho (RepAll.mono hg (by simpa using repV_ts r))
theorem exc_get {E : Value → Shared → Prop} {Q : Value → Shared → Prop} {x : Addr} {ox : Obj} {od : Option Obj} {name : Str} {v : Value} {expr : Bool} (W : Wd Γ K) (XK : K.In s.heap) (I : InstAt s.heap x ox 82 od)
  (hf : findObj K 82 od name = some (.value v)) (hh' : handedIn v = true) (h : Q v { s with toks := s.toks + 1 }) : wpAny (model Γ.prog Γ.w) A (getAttr (.ref x) name expr) Q E s := by
 have FB := PySem.F.attr_Exception
 have f3 := FB.ga.bind (.ref x)
 have hx0 : (expr && onTheHeap (Value.builtin "BaseException.__getattribute__")) = false := by cases expr <;> rfl
 have hx2 : (Value.builtin "BaseException.__getattribute__" == Value.builtin "object.__getattribute__") = false := by decide +kernel
 obtain ⟨hh, g, d, t, os⟩ := s
 have L0 := I.type (M := model Γ.prog Γ.w)
 have L1 := looks_findIn (M := model Γ.prog Γ.w) XK W.exc.ga
 have L2 := looks_findIn (M := model Γ.prog Γ.w) XK W.exc.gt
 have L3 := looks_find (M := model Γ.prog Γ.w) XK I hf
 have hc := W.cd82
 have sub : Looks (model Γ.prog Γ.w) hh (isInstance (.ref x) (.type "BaseException")) true := I.type.andThen (looks_mroIn XK (by unfold mroIn; rw [hc]; rfl))
 unfold getAttr getAttrBy
 refine wpAny_bind (wpAny_mkText (wpAny_holding (wpAny_bind (L0.at (wpAny_bind (L1.at ?_))))))
 dsimp only
 rw [hx2, Bool.and_false, if_neg (by decide)]
 refine wpAny_bind ?_
 show wpAny _ _ (hookBefore (.ref 82)) _ _ _
 unfold hookBefore
 rw [if_pos (show onTheHeap (.ref 82) = true from rfl)]
 refine L2.at (wpAny_bind (wpAny_attempt (wpAny_holding ?_)))
 unfold callGetattribute
 rw [hx0, if_neg (by decide)]
 unfold boundAndCalled
 rw [f3]
 refine wpAny_bind (wpAny_pure ?_)
 show wpAny _ _ (call (.builtin "BaseException.__getattribute__") [.ref x, .str name t]) _ _ _
 refine wpAny_call (codeAny_call_builtin FB.ga.plain PySem.F.entry_bexc_ga ?_)
 refine @check_slot (model Γ.prog Γ.w) _ _ ⟨hh, g, d, t + 1, os⟩ "BaseException.__getattribute__" "BaseException" "__getattribute__" (.ref x) [.str name t] [] _ (by decide +kernel) (by decide +kernel) sub (PySem.F.args_bexc_ga (.ref x) (.str name t)) ?_
 unfold Builtin.«object.__getattribute__»
 refine wpAny_bind (wpAny_pure (wpAny_bind (wpAny_pure (wpAny_bind (L0.at (wpAny_bind (L3.at ?_)))))))
 exact wpAny_pure (by show wpAny _ _ (handedOut v) _ _ _; rw [handedOut_of hh']; exact wpAny_pure h)
end
end Mine
end
section
open Builtin Builtin.ObjectAttr
namespace Mine
section
variable {Γ : Cx} {K : Frag} {n : Nat} {env : Env} {ρ : Rho} {σ : Sto} {ν ν' : List Addr} {g g' : Heap} {s s' : Shared} {A : Around} {X : Str → Str → Sto → Prop}
theorem XRep.gets {nm : Str} {val : Str} {v : Value} {code why : Str} {E : Value → Shared → Prop} {Q : Value → Shared → Prop} (W : Wd Γ K) (S : Sat Γ.prog Γ.w Γ.B σ ν g s) (x : XRep true σ ν g s.heap v code why)
  (hn : (nm = ofString "code" ∧ val = code) ∨ (nm = ofString "why" ∧ val = why)) (h : ∀ t, Q (.str val t) { s with toks := s.toks + 1 }) : wpAny (model Γ.prog Γ.w) A (getAttr v nm true) Q E s := by
 obtain ⟨i, a, k, dx, o, vs, kvs, rfl, h2, h3, h4, h5, h6, h7, h8, h9, h10, h11, h12, t⟩ := x
 obtain ⟨od, hod, z, es, m, rfl, hko, hr⟩ := S.own k dx _ h5 h6
 have XK : K.In s.heap := W.hK _ (Γ.B.mono _ _ S.sub S.base)
 have I : InstAt s.heap a o 82 (some (dictOf es m)) := ⟨h9, h10, by unfold notCls; rw [h12], by rw [h11]; exact hod⟩
 have hl : kvs.lookup (.str nm) = some (.t (.str val)) := by rcases hn with ⟨rfl, rfl⟩ | ⟨rfl, rfl⟩ <;> assumption
 obtain ⟨u, hu, ru⟩ := own_some (m := m) hko hr hl
 obtain ⟨t, rfl⟩ := Rep.str_inv ru
 refine exc_get W XK I (v := .str val t) ?_ rfl (h t)
 have hne : findIn K (.ref 82) nm = some Option.none := by
  rcases hn with ⟨rfl, _⟩ | ⟨rfl, _⟩
  ·exact W.exc.no _ (.tail _ (.tail _ (.head _)))
  ·exact W.exc.no _ (.head _)
 unfold findObj
 rw [W.cd82, Option.bind_some, hne, Option.bind_some, Option.bind_some, Option.bind_some]
 dsimp only
 unfold PySem.W.ownOf
 rw [if_pos rfl]
 dsimp only
 rw [hu, Option.bind_some]
theorem XRep.same {m : Bool} {h h' : Heap} {v : Value} {code why : Str} (x : XRep m σ ν g h v code why) (k : ∀ b, b ∈ ν → h'.get? b = h.get? b) : XRep m σ ν g h' v code why := by
 obtain ⟨i, a, kk, dx, o, vs, kvs, h1, h2, h3, h4, h5, h6, h7, h8, h9, h10, h11, h12, t⟩ := x
 refine ⟨i, a, kk, dx, o, vs, kvs, h1, h2, h3, h4, h5, h6, h7, h8, (k a (List.mem_of_getElem? h2)).trans h9, h10, h11, h12, ?_⟩
 rcases t with t | ⟨j, T, oT, ts, t1, t2, t3, t4, t5, t6, t7, t8⟩
 ·exact .inl t
 ·exact .inr ⟨j, T, oT, ts, t1, t2, t3, t4, t5, (k T (List.mem_of_getElem? t3)).trans t6, t7, t8⟩
noncomputable abbrev retSuite (nm : Str) (p1 p2 p3 p4 p5 p6 p7 : Pos) (k : Nat) : List Stmt := [.Return (some (.Tuple [.Attribute (.Name nm p1) (ofString "code") p2, .Attribute (.Name nm p3) (ofString "why") p4, .List [] p5] k p6)) p7]
theorem suite_ok {nm : Str} {p1 p2 p3 p4 p5 p6 p7 : Pos} {kk : Nat} {v : Value} {code why : Str} (W : Wd Γ K) (S : Sat Γ.prog Γ.w Γ.B σ ν g s) (x : XRep true σ ν g s.heap v code why) (F : FrameOK Γ.prog Γ.w env ρ ν g s.heap)
  (hk : env.kindOf nm = some .local) (hd : (nm == ("__debug__" : Str)) = false) {E : Value → Shared → Prop}
  (he1 : starEach [Expr.Attribute (.Name nm p1) (ofString "code") p2, .Attribute (.Name nm p3) (ofString "why") p4, .List [] p5] env = (false, eval (Expr.Attribute (.Name nm p1) (ofString "code") p2) env) :: starEach [.Attribute (.Name nm p3) (ofString "why") p4, .List [] p5] env)
  (he2 : starEach [Expr.Attribute (.Name nm p3) (ofString "why") p4, .List [] p5] env = (false, eval (Expr.Attribute (.Name nm p3) (ofString "why") p4) env) :: starEach [.List [] p5] env)
  (he3 : starEach [Expr.List [] p5] env = (false, eval (Expr.List [] p5) env) :: starEach [] env)
  (ha1 : eval (.Attribute (.Name nm p1) (ofString "code") p2) env = (do
   let v ← eval (.Name nm p1) env
   standAt p2.atName
   let r ← holding [v] (getAttr v (ofString "code") true)
   letTemporaryGo (.Name nm p1) v r
   pure r))
  (ha2 : eval (.Attribute (.Name nm p3) (ofString "why") p4) env = (do
   let v ← eval (.Name nm p3) env
   standAt p4.atName
   let r ← holding [v] (getAttr v (ofString "why") true)
   letTemporaryGo (.Name nm p3) v r
   pure r)) :
  wpAny (model Γ.prog Γ.w) A (storeName env nm v) (fun z' s₂ => wpAny (model Γ.prog Γ.w) A (execs (retSuite nm p1 p2 p3 p4 p5 p6 p7 kk) env)
   (fun f s₃ => ∃ u ν' g', f = .ret u ∧ Step (frA env) ν g s ν' g' s₃ ∧ Sat Γ.prog Γ.w Γ.B σ ν' g' s₃ ∧ Rep Γ.prog Γ.w g' u (.tup [.str code, .str why, .lst []]) ∧ FrameOK Γ.prog Γ.w env [] ν' g' s₃.heap) E s₂) E s := by
 obtain ⟨m, hn, hm⟩ := F.loc
 refine wpAny_storeName_local hk hn (fun h' hn' hs => ?_) (by rw [F.kind]; rfl)
 obtain ⟨S', st⟩ := S.off1 (t := s.toks + 1) F.offL.1 F.offL.2 hs (let ⟨o, _, _, ho, hd, _⟩ := hn'; ⟨o, ho, fun z' z' z' => ⟨_, _, hd⟩⟩)
 have x' : XRep true σ ν g h' v code why := x.same fun b hb => hs.2 b fun q => F.offL.1 (q ▸ hb)
 have F' : FrameOK Γ.prog Γ.w env [] ν g h' := by
  obtain ⟨i, a, k, dx, o, vs, kvs, rfl, h2, _⟩ := id x
  exact (F.storeL (d := .ref i) hk ⟨a, rfl, h2⟩ hm hn' hs).less fun y d q => nomatch q
 have st' : Step (frA env) ν g s ν g { s with heap := h', toks := s.toks + 1 } := st.weak fun b hb => by obtain rfl := List.mem_singleton.mp hb; exact .head _
 refine wpAny_execs_cons (wpAny_Return_some (wpAny_Tuple (args_cons ?_ he1)))
 refine Attribute_any_ (wpAny_Name (wpAny_loadName_local F.kind hk hn' (v := v) (by simp) ?_) hd) ha1
 refine XRep.gets W S' x' (.inl ⟨rfl, rfl⟩) fun t1 => ?_
 refine args_cons ?_ he2
 refine Attribute_any_ (wpAny_Name (wpAny_loadName_local F.kind hk hn' (v := v) (by simp) ?_) hd) ha2
 have S₁ : Sat Γ.prog Γ.w Γ.B σ ν g { s with heap := h', toks := s.toks + 1 + 1 } := S'.toks rfl
 refine XRep.gets (s := { s with heap := h', toks := s.toks + 1 + 1 }) W S₁ x' (.inr ⟨rfl, rfl⟩) fun t2 => ?_
 refine args_cons ?_ he3
 refine wpAny_List (args_nil ⟨Nat.zero_le _, ?_⟩)
 refine args_nil ⟨by rw [sizeLine_eq]; simp, ?_⟩
 have S₂ : Sat Γ.prog Γ.w Γ.B σ ν g { s with heap := h', toks := s.toks + 1 + 1 + 1 } := S'.toks rfl
 obtain ⟨g₁, st₁, S₃, hg₁⟩ := S₂.allocF { cls := .type "list", data := .seq ([] : List Value).toArray } rfl (t := s.toks + 1 + 1 + 1)
 obtain ⟨g₂, st₂, S₄, hg₂⟩ := S₃.allocF { cls := .type "tuple", data := .seq [Value.str code t1, .str why t2, .ref h'.objs.size].toArray } rfl (t := s.toks + 1 + 1 + 1)
 have st0 : Step (frA env) ν g s ν g { s with heap := h', toks := s.toks + 1 + 1 + 1 } := st'.trans (Step.toks (X := frA env) rfl ⟨rfl, rfl, rfl⟩)
 refine ⟨_, ν, g₂, rfl, (st0.trans st₁.any).trans st₂.any, S₄, ?_, ((F'.step (s := { s with heap := h', toks := s.toks + 1 + 1 + 1 }) st₁).step st₂)⟩
 refine .tup (vs := [Value.str code t1, .str why t2, .ref h'.objs.size].toArray) hg₂ (.cons (.str ..) (.cons (.str ..) (.cons (.lst (vs := ([] : List Value).toArray) (st₂.grow _ _ hg₁) .nil) .nil)))
end
end Mine
end
section
open Builtin Builtin.ObjectAttr
namespace Mine
theorem G_Ref {Γ : Cx} {K : Frag} (W : Wd Γ K) : GlobV Γ (ofString "Refused") (.ref 82) := W.glob 17 rfl
theorem exc_matches {M : Model} {A : Around} {E : Value → Shared → Prop} {h : Heap} {g : Array GenState} {d : Drawn} {t : Nat} {os : OsState} {a : Addr} {o : Obj} {Q : Bool → Shared → Prop}
  (hC : h.get? 82 = some c82) (he : h.get? a = some o) (hcls : o.cls = .ref 82) (hq : Q true ⟨h, g, d, t, os⟩) : wpAny M A (excMatches (.ref a) (.ref 82)) Q E ⟨h, g, d, t, os⟩ := by
 have hcB : (Value.ref 82 :: excBm).contains (.type "BaseException") = true := by simp
 have hcC : (Value.ref 82 :: excBm).contains (.ref 82) = true := by simp
 have f1 := tc_notTuple
 have hT : (⟨h, g, d, t, os⟩ : Shared).TypeIs (.ref 82) "type" := ⟨_, hC, rfl⟩
 unfold excMatches isExcClass
 repeat (any_goals (first | assumption | (with_reducible refine wpAny_loadPart_at he ?_; rw [hcls]) | with_reducible refine wpAny_loadPart_at hC ?_ | (with_reducible refine wpAny_isSubtype_exc hC ?_; first | rw [hcB] | rw [hcC]) | wp_step))
section
variable {Γ : Cx} {K : Frag} {n : Nat} {env : Env} {ρ : Rho} {σ : Sto} {ν ν' : List Addr} {g g' : Heap} {s s' : Shared} {A : Around} {X : Str → Str → Sto → Prop}
theorem WS.tryX (W : Wd Γ K) {body : List Stmt} {nm : Str} {np p1 p2 p3 p4 p5 p6 p7 hpos pos : Pos} {kk : Nat} {Q : Fl → Rho → Sto → Prop}
  (h : WB Γ n env body ρ σ fun f ρ' σ' => match f with | .exc c y => Q (.ret (.t (.tup [.str c, .str y, .lst []]))) [] σ' | .ret d => Q (.ret d) ρ' σ' | _ => False)
  (hk : env.kindOf nm = some .local) (hd : (nm == ("__debug__" : Str)) = false) (hkr : env.kindOf (ofString "Refused") = some .globalImplicit)
  (he1 : starEach [Expr.Attribute (.Name nm p1) (ofString "code") p2, .Attribute (.Name nm p3) (ofString "why") p4, .List [] p5] env = (false, eval (Expr.Attribute (.Name nm p1) (ofString "code") p2) env) :: starEach [.Attribute (.Name nm p3) (ofString "why") p4, .List [] p5] env)
  (he2 : starEach [Expr.Attribute (.Name nm p3) (ofString "why") p4, .List [] p5] env = (false, eval (Expr.Attribute (.Name nm p3) (ofString "why") p4) env) :: starEach [.List [] p5] env)
  (he3 : starEach [Expr.List [] p5] env = (false, eval (Expr.List [] p5) env) :: starEach [] env)
  (ha1 : eval (.Attribute (.Name nm p1) (ofString "code") p2) env = (do
   let v ← eval (.Name nm p1) env
   standAt p2.atName
   let r ← holding [v] (getAttr v (ofString "code") true)
   letTemporaryGo (.Name nm p1) v r
   pure r))
  (ha2 : eval (.Attribute (.Name nm p3) (ofString "why") p4) env = (do
   let v ← eval (.Name nm p3) env
   standAt p4.atName
   let r ← holding [v] (getAttr v (ofString "why") true)
   letTemporaryGo (.Name nm p3) v r
   pure r)) :
  WS Γ n env (.Try body [.ExceptHandler (some (.Name (ofString "Refused") np)) (some nm) (retSuite nm p1 p2 p3 p4 p5 p6 p7 kk) hpos] [] [] pos) ρ σ Q := fun A s ν g hA hT F S => by
 refine wpAny_Try_except (wpAny_mono (h A s ν g hA hT F S) (fun f s₁ hp => ?_) fun e s₁ hp => ?_)
 ·obtain ⟨ν₁, g₁, σ₁, ρ₁, st, F₁, S₁, q⟩ := hp
  cases f with
  | ret v => exact ⟨ν₁, g₁, σ₁, ρ₁, st, F₁, S₁, q⟩
  | next => exact (show False from q).elim
  | brk => exact (show False from q).elim
  | cont => exact (show False from q).elim
 ·obtain ⟨ν₁, g₁, σ₁, ρ₁, c, y, st, F₁, S₁, x₁, q⟩ := hp
  obtain ⟨o, hT⟩ := hT
  obtain ⟨Fr, L, hL⟩ := frames_at (hA.step st) hT
  refine note_ok S₁ x₁ hT Fr hL fun ν₂ h₂ st₂ S₂ x₂ => ?_
  refine flight_ok S₂ x₂ fun h₃ st₃ S₃ x₃ => ?_
  have st123 := (st.trans st₂.any).trans st₃.any
  have F₃ := (F₁.step st₂).step st₃
  have hP : Γ.B.P h₃ := Γ.B.mono _ _ S₃.sub S₃.base
  obtain ⟨i, a, k, dx, o, vs, kvs, rfl, h2, h3, h4, h5, h6, h7, h8, h9, h10, h11, h12, t⟩ := id x₃
  refine wpAny_handleBy_cons (codeAny_handlers_test (glob_any F₃ S₃ hkr (G_Ref W) rfl ?_)) (by intro q; cases q)
  refine exc_matches (W.cls82 hP) h9 h10 ?_
  rw [if_pos rfl]
  dsimp only
  refine codeAny_handlers_suite_as (flight_ok S₃ x₃ fun h₄ st₄ S₄ x₄ => ?_)
  refine wpAny_mono (suite_ok (p1 := p1) (p2 := p2) (p3 := p3) (p4 := p4) (p5 := p5) (p6 := p6) (p7 := p7) (kk := kk) (E := fun z' z' => False) W S₄ x₄ (F₃.step st₄) hk hd he1 he2 he3 ha1 ha2) (fun z' s₅ h₅ => ?_) fun z' z' x => x.elim
  refine wpAny_mono h₅ (fun f s₆ h₆ => ?_) fun z' z' x => x.elim
  obtain ⟨u, ν₆, g₆, rfl, st₆, S₆, r₆, F₆⟩ := h₆
  obtain ⟨m, hn, _⟩ := F₆.loc
  refine wpAny_nameGoes hk hn (by rw [F₆.kind]; rfl) fun h₇ m₇ hn₇ hs₇ => ?_
  obtain ⟨S₇, st₇⟩ := S₆.off1 (t := s₆.toks + 1) F₆.offL.1 F₆.offL.2 hs₇ (let ⟨o, _, _, ho, hd, _⟩ := hn₇; ⟨o, ho, fun z' z' z' => ⟨_, _, hd⟩⟩)
  have st₇' : Step (frA env) ν₆ g₆ s₆ ν₆ g₆ { s₆ with heap := h₇, toks := s₆.toks + 1 } := st₇.weak fun b hb => by obtain rfl := List.mem_singleton.mp hb; exact .head _
  have F₇ : FrameOK Γ.prog Γ.w env [] ν₆ g₆ h₇ := by
   refine ⟨F₆.kind, F₆.glb, F₆.blt, ⟨m₇, hn₇, (fun x d hx => nomatch hx)⟩, (fun x d hx => nomatch hx), fun x hx => ?_, F₆.offL, fun x c hc => ?_, F₆.injC⟩
   ·obtain ⟨c, ov, h1, o, ho, hd⟩ := F₆.has x hx
    exact ⟨c, ov, h1, o, (hs₇.2 c (F₆.offC x c h1).2.2.1).trans ho, hd⟩
   ·obtain ⟨h1, h2, h3, o, ho⟩ := F₆.offC x c hc
    exact ⟨h1, h2, h3, o, (hs₇.2 c h3).trans ho⟩
  exact ⟨ν₆, g₆, σ₁, [], ((st123.trans st₄.any).trans st₆).trans st₇', F₇, S₇, .t _, r₆, q⟩
end
end Mine
end
namespace Mine
set_option hygiene false in
local macro_rules | `(tactic| walk_at "q") => do
 let i := Lean.mkIdent
 let a := #[i `Q4, i `Q3, i `Q2, i `Q1]
 let b := #[i `Q1, i `Q2, i `Q3]
 let c := b
 `(tactic| ($[try clear $a];*; first $[| ((fail_if_success (have qq := @$b)); intro rr $c)]* | intro rr Q4))
set_option hygiene false in
local macro_rules | `(tactic| walk_at "x") => do
 let f (s : String) := (s.splitOn " ").toArray.map fun s => Lean.mkIdent s.toName
 let a := f "WE.pureA WE.nameA WE.binopA WE.binop WE.subA WE.subB WE.ifexp WE.tupleT WE.neg WE.cmpA WE.cmpB WE.attrA WE.compA WE.appendA WE.dgetA"
 let b := f "WE.callB WS.ret WS.if_ WS.while_ WS.assignA WS.compA WS.exprA WS.augNameA WS.augSubA WS.setSubA WS.setAttrA WS.assignTA WS.forA WEs.pureA WEs.consA TsV.mkA WT.cmpA WT.cmpB WB.nil WT.not WT.boolop WTs.and_cons WTs.and_nil WTs.or_cons WTs.or_nil WIf.nil WIf.one WT.valA WA.nameA WAL.nameA WAL.tupleA WA.tupleA"
 `(tactic| first
 | with_reducible first $[| refine $a ?_]* | ((refine WE.callA ?_); (try clear Qc); intro Qc) $[| refine $b ?_]*
 | ((with_reducible first | refine WB.consQ noR ?_ | refine WB.cons ?_); walk_at "q"))
local macro_rules | `(tactic| walk_at "r") => `(tactic| repeat walk_at "x")
local macro_rules | `(tactic| walk_at "v") => `(tactic| first | walk_at "x" | with_reducible first | refine g_tupA ?_ | refine v_eqF ?_ | refine v_eqT ?_)
noncomputable def penO (xs us : List Int) (b k : Nat) : AO := .lst [.t (.lst (xs.map .int)), .t (.lst (us.map .int)), .t (.int b), .t (.int k)]
section
variable {Γ : Cx} {K : Frag} {n : Nat} {σ : Sto}
theorem fmod_range (a : Int) {m : Nat} (hm : 0 < m) : 0 ≤ a.fmod m ∧ a.fmod m < m := by
 have h : a.fmod m = a % m := Int.fmod_eq_emod_of_nonneg a (by lia)
 rw [h]
 exact ⟨Int.emod_nonneg a (by lia), Int.emod_lt_of_pos a (by lia)⟩
theorem w_take (W : Wd Γ K) {p : Nat} {xs us : List Int} {b k m : Nat} {Q : V → Sto → Prop} (hp : σ p = some (penO xs us b k)) (hm : 0 < m) (hk : k < us.length) (hs : xs.length ≤ 100) (hb : b + k < 1000)
  (h : ∀ v : Int, 0 ≤ v → v < m → Q (.t (.int v)) (upd σ p (penO xs us b (k + 1)))) : WC Γ (n + 1) (.ref 709) [.ref p, .t (.int m)] σ Q := by
 refine WC.go (fd := fd56) (H_fd56 W) [ofString "pen", ofString "many"] rfl rfl (bind2 _ _ fun z' z' => rfl) rfl fun L => ?_
 try with_reducible intro E
 (refine WB.cons ?_; walk_at "q")
 walk_at "r"
 refine g_lst (σ := σ) hp (by decide) (by decide) rfl ?_
 walk_at "r"
 refine g_lst (σ := σ) hp (by decide) (by decide) rfl ?_
 refine v_add ?_
 walk_at "x"; walk_at "x"
 refine WE.mono (Q := fun d σ' => σ' = σ ∧ ∃ i : Int, d = .t (.int i)) ?_ ?_
 ·walk_at "r"
  refine g_lst (σ := σ) hp (by decide) (by decide) rfl ?_
  walk_at "r"
  refine w_len_lst (xs := (xs.map PV.int).map V.t) rfl (by simp; lia) ?_
  refine v_lt ⟨_, rfl, ?_⟩
  cases hc : decide (((b : Int) + k) < ((List.map V.t (xs.map PV.int)).length : Int)) with
  | true =>
   walk_at "r"
   refine g_lst (σ := σ) hp (by decide) (by decide) rfl ?_
   walk_at "r"
   have hlt : b + k < xs.length := by simp at hc; lia
   refine g_lst (σ := σ) (xs := (xs.map PV.int).map V.t) (d := .t (.int xs[b + k])) rfl (by lia) (by lia) ?_ ⟨rfl, _, rfl⟩
   have : ((b : Int) + k).toNat = b + k := by lia
   rw [this]; simp [hlt]
  | false =>
   walk_at "r"
   exact ⟨rfl, _, rfl⟩
 ·rintro d σ' ⟨rfl, i, rfl⟩
  walk_at "r"
  refine g_lst (σ := σ') hp (by decide) (by decide) rfl ?_
  walk_at "r"
  refine g_lst (σ := σ') hp (by decide) (by decide) rfl ?_
  refine g_lst (σ := σ') (xs := (us.map PV.int).map V.t) (d := .t (.int us[k])) rfl (by lia) (by lia) (by simp [hk]) ?_
  walk_at "x"
  refine WS.augSub ?_
  walk_at "r"
  refine g_lst (σ := σ') hp (by decide) (by decide) rfl ?_
  walk_at "r"
  refine v_iadd ?_
  refine s_lst hp (by decide) (by simp) (by simp) ?_
  walk_at "r"
  refine v_mod (by lia) ?_
  walk_at "r"
  refine v_add ?_
  walk_at "r"
  refine v_mod (by lia) ?_
  refine ⟨_, Sto.le_refl _, ?_⟩
  exact h _ (fmod_range _ hm).1 (fmod_range _ hm).2
end
noncomputable def cn (n : Int) : Str := ofString "c" ++ Str.ofString (toString n)
noncomputable def vP (w t : Str) : PV := .tup [.str w, .str t]
noncomputable def verd (w : Str) (n : Int) : PV := if 0 ≤ n then vP w (cn n) else vP (ofString "return") (ofString "")
theorem cn_size {n : Int} (h : n.natAbs < 1000) : (ofString "c").length + (Str.ofString (toString n)).length ≤ sizeLine := by
 have h1 := len_str_of_int n
 have h2 : (ofString "c").length = 1 := by decide
 rw [sizeLine_eq, h2]
 lia
section
variable {Γ : Cx} {K : Frag} {n : Nat} {σ : Sto}
theorem w_verdict (W : Wd Γ K) {x : Str} {i : Int} {Q : V → Sto → Prop} (hi : i.natAbs < 1000) (h : Q (.t (verd x i)) σ) : WC Γ (n + 1) (.ref 730) [.t (.str x), .t (.int i)] σ Q := by
 refine WC.go (fd := fd59) (H_fd59 W) [ofString "word", ofString "n"] rfl rfl (bind2 _ _ fun z' z' => rfl) rfl fun L => ?_
 try with_reducible intro E
 (refine WB.cons ?_; walk_at "q")
 walk_at "r"
 refine v_ge ⟨_, rfl, ?_⟩
 cases hc : decide ((0 : Int) ≤ i) with
 | true =>
  have hc' : 0 ≤ i := by simpa using hc
  walk_at "r"
  refine w_str (by lia) ?_
  refine v_addS ?_ (cn_size hi)
  walk_at "r"
  refine ⟨_, Sto.le_refl _, ?_⟩
  have e : verd x i = .tup [.str x, .str (cn i)] := by unfold verd; rw [if_pos hc']; rfl
  rw [e] at h; exact h
 | false =>
  have hc' : ¬ 0 ≤ i := by simpa using hc
  walk_at "r"
  refine ⟨_, Sto.le_refl _, ?_⟩
  have e : verd x i = .tup [.str (ofString "return"), .str (ofString "")] := by unfold verd; rw [if_neg hc']; rfl
  rw [e] at h; exact h
end
noncomputable abbrev pS (x : String) : PV := .str (Str.ofString x)
noncomputable def lookedP : PV := .tup [pS "map", .tup [pS "field", pS "meta mark"], .tup [pS "ref", pS "m2"]]
noncomputable def keyedP : PV := .tup [pS "map", .tup [pS "field", pS "ip ttl"], .tup [pS "map", .tup [.tup [.tup [.tup [.int 1, .int 1]], .tup [.int 5], .int 0, pS ""]]]]
noncomputable def besideP : List PV := [
 .tup [.tup [pS "log", pS "", pS "warn"], .lst []],
 .tup [.tup [pS "object", pS "quota", pS "q"], .lst [.tup [pS "quota", pS "q"]]],
 .tup [.tup [pS "match", .tup [pS "concat", .tup [.tup [pS "field", pS "ip saddr"], lookedP]], pS "==", .tup [pS "ref", pS "s"]], .lst [.tup [pS "set", pS "m2"], .tup [pS "set", pS "s"]]],
 .tup [.tup [pS "set", pS "meta mark", .tup [pS "mask", keyedP, .int 7]], .lst []],
 .tup [.tup [pS "nat", pS "dnat", .int 2, .tup [pS "map", .tup [pS "field", pS "ip saddr"], .tup [pS "ref", pS "m3"]], .none, .tup []], .lst [.tup [pS "set", pS "m3"]]],
 .tup [.tup [pS "nat", pS "masquerade", .int 0, .none, .none, .tup []], .lst []],
 .tup [.tup [pS "dynset", pS "add", pS "d", .tup [pS "hash", lookedP, .int 4, .int 0, .int 0], .int 0, .tup []], .lst [.tup [pS "set", pS "d"], .tup [pS "set", pS "m2"]]],
 .tup [.tup [pS "expect", pS "x"], .lst [.tup [pS "expectation", pS "x"]]],
 .tup [.tup [pS "flow", pS "f"], .lst [.tup [pS "flowtable", pS "f"]]],
 .tup [.tup [pS "match", lookedP, pS "==", .tup [pS "set", .tup [.tup [.tup [.tup [.int 3, .int 9]], .none, .int 0, pS ""]]]], .lst [.tup [pS "set", pS "m2"]]]]
section
variable {Γ : Cx} {K : Frag} {n : Nat} {σ : Sto}
theorem w_beside (W : Wd Γ K) {Q : V → Sto → Prop} (h : Q (.t (.lst besideP)) σ) : WC Γ (n + 1) (.ref 716) [] σ Q := by
 refine WC.go (fd := fd57) (H_fd57 W) [] rfl rfl (bind0 rfl) rfl fun L => ?_
 try with_reducible intro E
 (refine WB.cons ?_; walk_at "q")
 repeat (first | walk_at "x" | (with_reducible refine WE.listT ?_))
 exact ⟨_, Sto.le_refl _, h⟩
end
theorem mulOk {a b : Int} (h0 : 0 ≤ a) (h : a < 100000) : IntMulOk a b := .of_left (by
 unfold Builtin.Int.intBits
 by_cases q : a.natAbs = 0
 ·simp only [q]; split <;> simp
 ·have := (Nat.log2_lt q).mpr (show a.natAbs < 2 ^ 17 by lia)
  split <;> lia)
structure Row where
 home : Int
 form : Int
 a : Int
 b : Int
 which : Int
 deriving Inhabited
noncomputable abbrev Row.pv (r : Row) : PV := .tup [.int r.home, .int r.form, .int r.a, .int r.b, .int r.which]
structure Row.ok (N : Nat) (r : Row) : Prop where
 home : 0 ≤ r.home ∧ r.home < N
 form : 0 ≤ r.form ∧ r.form < 5
 a : -1 ≤ r.a ∧ r.a < N
 b : -1 ≤ r.b ∧ r.b < N
 which : 0 ≤ r.which ∧ r.which < 10
section
variable {Γ : Cx} {K : Frag} {n : Nat} {σ : Sto}
theorem row_turn {L : Addr} {ρ : Rho} {j N : Nat} {i two home : Int} {l : List V} {Q : Fl → Rho → Sto → Prop} (hN : 4 ≤ N) (hN6 : N ≤ 6) (h0 : 0 ≤ home ∧ home < N) (hi : 0 ≤ i ∧ i < N) (ht : 0 ≤ two) (hl : l.length ≤ 10)
  (x1 : ρ.lookup (ofString "two") = some (.t (.int two))) (x2 : ρ.lookup (ofString "many") = some (.t (.int N))) (x3 : ρ.lookup (ofString "home") = some (.t (.int home))) (x4 : ρ.lookup (ofString "goals") = some (.ref j)) (x5 : ρ.lookup (ofString "n") = some (.t (.int i)))
  (hj : σ j = some (.lst l)) (h : ∀ g : Int, -1 ≤ g → g < N → Q .next ρ (upd σ j (.lst (l ++ [.t (.int g)])))) : WB Γ n (fenv fd58 L 723) (forBody (nth (bodyOf (D 58)) 4)) ρ σ Q := by
 (refine WB.cons ?_; walk_at "q")
 have hi1 : -1 ≤ i := by lia
 have hN' : N = 4 ∨ N = 5 ∨ N = 6 := by lia
 walk_at "r"
 refine v_mul (mulOk (by lia) (by lia)) ?_
 refine v_fdiv (by rcases hN' with rfl | rfl | rfl <;> decide) (by rcases hN' with rfl | rfl | rfl <;> decide) ?_
 walk_at "r"
 refine v_eq ⟨_, rfl, ?_⟩
 cases hc : (two.fdiv ((N : Int) * N) == 3) with
 | true =>
  walk_at "r"
  refine ⟨BTy.lst hj, ?_⟩
  walk_at "r"
  refine w_append hj (by lia) ?_
  walk_at "r"
  exact h _ hi1 (by lia)
 | false =>
  walk_at "r"
  refine v_sub ?_
  refine v_eq ⟨_, rfl, ?_⟩
  cases hc : (home == (N : Int) - 1) with
  | true =>
   walk_at "r"
   refine ⟨BTy.lst hj, ?_⟩
   walk_at "r"
   refine ⟨_, rfl, ?_⟩
   walk_at "r"
   refine w_append hj (by lia) ?_
   walk_at "r"
   exact h _ (by lia) (by lia)
  | false =>
   have hne : home ≠ N - 1 := by simpa using hc
   walk_at "r"
   refine ⟨BTy.lst hj, ?_⟩
   walk_at "r"
   refine v_add ?_
   walk_at "r"
   refine v_sub ?_
   walk_at "r"
   refine v_sub ?_
   refine v_mod (by lia) ?_
   refine v_add ?_
   have hp : 0 < (N : Int) - 1 - home := by clear hc hN hN6 hN' hi hi1 ht hl h; lia
   have hr : 0 ≤ i.fmod ((N : Int) - 1 - home) ∧ i.fmod ((N : Int) - 1 - home) < (N : Int) - 1 - home := by rw [Int.fmod_eq_emod_of_nonneg _ (Int.le_of_lt hp)]; exact ⟨Int.emod_nonneg _ (Int.ne_of_gt hp), Int.emod_lt_of_pos _ hp⟩
   generalize i.fmod ((N : Int) - 1 - home) = z at *
   walk_at "r"
   refine w_append hj (by lia) ?_
   walk_at "r"
   exact h _ (by lia) (by lia)
end
section
variable {Γ : Cx} {K : Frag} {n : Nat} {σ : Sto}
theorem w_row (W : Wd Γ K) {p : Nat} {xs us : List Int} {b k N : Nat} {Q : V → Sto → Prop} (hp : σ p = some (penO xs us b k)) (hN : 4 ≤ N) (hN6 : N ≤ 6) (hk : k + 1 < us.length) (hs : xs.length ≤ 100) (hb : b + k + 1 < 1000)
  (h : ∀ r : Row, r.ok N → Q (.t r.pv) (upd σ p (penO xs us b (k + 2)))) : WC Γ (n + 2) (.ref 723) [.ref p, .t (.int N)] σ Q := by
 refine WC.go (fd := fd58) (H_fd58 W) [ofString "pen", ofString "many"] rfl rfl (bind2 _ _ fun z' z' => rfl) rfl fun L => ?_
 try with_reducible intro E
 have hN' : N = 4 ∨ N = 5 ∨ N = 6 := by lia
 (refine WB.cons ?_; walk_at "q")
 walk_at "r"
 refine v_mul (mulOk (by lia) (by lia)) ?_
 walk_at "r"
 have e1 : ((N : Int) * 5) = ((N * 5 : Nat) : Int) := by simp
 rw [e1]
 refine w_take W hp (by lia) (by lia) hs (by lia) fun one h1 h2 => ?_
 have hp1 : upd σ p (penO xs us b (k + 1)) p = some (penO xs us b (k + 1)) := upd_self ..
 walk_at "r"
 refine v_mul (mulOk (by lia) (by lia)) ?_
 walk_at "r"
 refine v_mul (mulOk (by rcases hN' with rfl | rfl | rfl <;> decide) (by rcases hN' with rfl | rfl | rfl <;> decide)) ?_
 walk_at "r"
 have e2 : ((N : Int) * N * 4) = ((N * N * 4 : Nat) : Int) := by simp
 rw [e2]
 refine w_take W hp1 (by rcases hN' with rfl | rfl | rfl <;> decide) (by lia) hs (by lia) fun two h3 h4 => ?_
 rw [upd_upd]
 walk_at "r"
 refine v_mod (by lia) ?_
 walk_at "x"
 walk_at "x"
 refine WE.list ?_
 walk_at "x"
 refine ⟨by simp, fun j hj => ?_⟩
 walk_at "r"
 refine WIt.tup ?_
 walk_at "r"
 refine v_mod (by lia) ?_
 walk_at "r"
 refine v_fdiv (by lia) (by lia) ?_
 walk_at "r"
 refine v_mod (by lia) ?_
 walk_at "r"
 refine ⟨_, rfl, ?_⟩
 have hpj : p ≠ j := ne_of_none (upd_self ..) hj
 have a1 := fmod_range two (m := N) (by lia)
 have a2 := fmod_range (two.fdiv N) (m := N) (by lia)
 have a3 := fmod_range one (m := N) (by lia)
 refine WFor.cons (WA.name ?_ (.inl rfl))
 refine row_turn (two := two) (home := one.fmod N) (j := j) (N := N) (l := []) hN hN6 a3 a1 h3 (by simp) rfl rfl rfl rfl rfl (upd_self ..) fun g1 g1a g1b => ?_
 rw [upd_upd]
 refine WFor.cons (WA.name ?_ (.inl rfl))
 refine row_turn (two := two) (home := one.fmod N) (j := j) (N := N) (l := [.t (.int g1)]) hN hN6 a3 a2 h3 (by simp) rfl rfl rfl rfl rfl (upd_self ..) fun g2 g2a g2b => ?_
 rw [upd_upd]
 refine WFor.nil ?_
 walk_at "r"
 refine v_fdiv (by lia) (by lia) ?_
 walk_at "r"
 refine g_lst (upd_self ..) (by decide) (by decide) rfl ?_
 walk_at "r"
 refine g_lst (upd_self ..) (by decide) (by decide) rfl ?_
 walk_at "r"
 refine v_add ?_
 walk_at "r"
 refine v_mod (by lia) ?_
 walk_at "r"
 refine ⟨upd σ p (penO xs us b (k + 2)), ?_, ?_⟩
 ·exact Sto.le_upd hj
 ·refine h ⟨one.fmod N, one.fdiv N, g1, g2, (one + two).fmod 10⟩ ⟨a3, ?_, ⟨g1a, g1b⟩, ⟨g2a, g2b⟩, ?_⟩
  ·have : one.fdiv N = one / N := Int.fdiv_eq_ediv_of_nonneg one (by lia)
   rw [this]
   refine ⟨Int.ediv_nonneg h1 (by lia), ?_⟩
   exact Int.ediv_lt_of_lt_mul (by lia) (by simpa [Int.mul_comm] using h2)
  ·exact fmod_range (one + two) (m := 10) (by lia)
end
noncomputable def besideS (w : Nat) : PV := match besideP[w]? with | some (.tup [s, _]) => s | _ => .none
noncomputable def besideU (w : Nat) : List PV := match besideP[w]? with | some (.tup [_, .lst u]) => u | _ => []
def AllLt (P : Nat → Prop) : Nat → Prop
 | 0 => True
 | n + 1 => AllLt P n ∧ P n
theorem allLt {P : Nat → Prop} {n w : Nat} (h : AllLt P n) (hw : w < n) : P w := by
 induction n with
 | zero => cases hw
 | succ n ih => exact (Nat.lt_succ_iff_lt_or_eq.mp hw).elim (ih h.1) fun e => e ▸ h.2
theorem beside_get {w : Nat} (h : w < 10) : besideP[w]? = some (.tup [besideS w, .lst (besideU w)]) :=
 allLt (P := fun w => besideP[w]? = some (.tup [besideS w, .lst (besideU w)])) (n := 10) ⟨⟨⟨⟨⟨⟨⟨⟨⟨⟨trivial, rfl⟩, rfl⟩, rfl⟩, rfl⟩, rfl⟩, rfl⟩, rfl⟩, rfl⟩, rfl⟩, rfl⟩ h
noncomputable def toldP (a b : Int) : PV := .tup [.tup [.tup [.tup [.int 1, .int 1]], verd (ofString "jump") a, .int 0, pS ""], .tup [.tup [.tup [.int 2, .int 5]], .tup [pS "accept", pS ""], .int 0, pS ""], .tup [.tup [.tup [.int 9, .int 9]], verd (ofString "goto") b, .int 0, pS ""]]
noncomputable def orredP : PV := .tup [pS "or", .tup [pS "map", .tup [pS "field", pS "meta mark"], .tup [pS "ref", pS "m2"]], .int 8]
noncomputable def stmtsP (r : Row) : List PV :=
 if r.form = 0 then [besideS r.which.toNat, .tup [pS "verdict", verd (ofString "jump") r.a]]
 else if r.form = 1 then [.tup [pS "verdict", verd (ofString "goto") r.a]]
 else if r.form = 2 then [.tup [pS "counter", .int 0, .int 0], .tup [pS "vmap", .tup [pS "field", pS "meta mark"], .tup [pS "map", toldP r.a r.b]]]
 else if r.form = 3 then [.tup [pS "vmap", .tup [pS "field", pS "ip ttl"], .tup [pS "ref", pS "m0"]]]
 else [besideS r.which.toNat, .tup [pS "vmap", orredP, .tup [pS "ref", pS "m1"]]]
section
variable {Γ : Cx} {K : Frag} {n : Nat} {σ : Sto}
theorem w_statements (W : Wd Γ K) {N : Nat} {r : Row} {Q : V → Sto → Prop} (hr : r.ok N) (hN : N ≤ 6) (h : Q (.t (.tup (stmtsP r))) σ) : WC Γ (n + 2) (.ref 737) [.t r.pv] σ Q := by
 obtain ⟨home, form, a, b, which⟩ := r
 obtain ⟨hh, hf, ha, hb, hw⟩ := hr
 dsimp only at hh hf ha hb hw
 show WC Γ (n + 2) (.ref 737) [.t (.tup [.int home, .int form, .int a, .int b, .int which])] σ Q
 refine WC.go (fd := fd60) (H_fd60 W) [ofString "row"] rfl rfl (bind1 _ fun z' => rfl) rfl fun L => ?_
 try with_reducible intro E
 (refine WB.cons ?_; walk_at "q")
 walk_at "r"
 refine WE.call0 (G__law_beside W) (C__law_beside W) ?_
 refine w_beside W ?_
 walk_at "r"
 have hg := beside_get (w := which.toNat) (by lia)
 refine g_lst (xs := besideP.map .t) (d := .t (.tup [besideS which.toNat, .lst (besideU which.toNat)])) rfl hw.1 (by lia) (by rw [List.getElem?_map, hg]; rfl) ?_
 walk_at "r"
 try refine g_tup (by decide) (by decide) rfl ?_
 walk_at "r"
 have fin : ∀ xs : List PV, xs = stmtsP ⟨home, form, a, b, which⟩ → Q (.t (.tup xs)) σ := fun xs e => by rw [e]; exact h
 have hc : form = 0 ∨ form = 1 ∨ form = 2 ∨ form = 3 ∨ form = 4 := by lia
 rcases hc with rfl | rfl | rfl | rfl | rfl
 ·refine v_eq ⟨true, rfl, ?_⟩
  walk_at "r"
  refine w_verdict W (by lia) ?_
  walk_at "r"
  exact ⟨_, Sto.le_refl _, fin _ rfl⟩
 ·refine v_eq ⟨false, rfl, ?_⟩
  walk_at "r"
  refine v_eq ⟨true, rfl, ?_⟩
  walk_at "r"
  refine w_verdict W (by lia) ?_
  walk_at "r"
  exact ⟨_, Sto.le_refl _, fin _ rfl⟩
 ·refine v_eq ⟨false, rfl, ?_⟩
  walk_at "r"
  refine v_eq ⟨false, rfl, ?_⟩
  walk_at "r"
  refine v_eq ⟨true, rfl, ?_⟩
  walk_at "r"
  refine w_verdict W (by lia) ?_
  walk_at "r"
  refine w_verdict W (by lia) ?_
  walk_at "r"
  refine v_addT (by simp) ?_
  walk_at "r"
  exact ⟨_, Sto.le_refl _, fin _ rfl⟩
 ·refine v_eq ⟨false, rfl, ?_⟩
  walk_at "r"
  refine v_eq ⟨false, rfl, ?_⟩
  walk_at "r"
  refine v_eq ⟨false, rfl, ?_⟩
  walk_at "r"
  refine v_eq ⟨true, rfl, ?_⟩
  walk_at "r"
  exact ⟨_, Sto.le_refl _, fin _ rfl⟩
 ·refine v_eq ⟨false, rfl, ?_⟩
  walk_at "r"
  refine v_eq ⟨false, rfl, ?_⟩
  walk_at "r"
  refine v_eq ⟨false, rfl, ?_⟩
  walk_at "r"
  refine v_eq ⟨false, rfl, ?_⟩
  walk_at "r"
  exact ⟨_, Sto.le_refl _, fin _ rfl⟩
end
theorem beside_small (w : Nat) (h : w < 10) : (besideU w).length ≤ 2 := by
 have : w = 0 ∨ w = 1 ∨ w = 2 ∨ w = 3 ∨ w = 4 ∨ w = 5 ∨ w = 6 ∨ w = 7 ∨ w = 8 ∨ w = 9 := by lia
 rcases this with rfl | rfl | rfl | rfl | rfl | rfl | rfl | rfl | rfl | rfl <;> decide
noncomputable def goalsOf (r : Row) (m0 m1 : List Int) : List Int := if r.form = 3 then m0 else if r.form = 4 then m1 else (if r.form = 2 then [r.a, r.b] else [r.a]).filter fun n => decide (0 ≤ n)
noncomputable def chainU (n : Int) : PV := .tup [pS "chain", .str (cn n)]
noncomputable def setU (x : String) : PV := .tup [pS "set", pS x]
noncomputable def toldU (r : Row) : List PV := if r.form = 3 then [setU "m0"] else if r.form = 4 then besideU r.which.toNat ++ [setU "m2", setU "m1"]
 else (if r.form = 0 then besideU r.which.toNat else []) ++ (goalsOf r [] []).map chainU
section
variable {Γ : Cx} {K : Frag} {n : Nat} {σ : Sto}
theorem w_told (W : Wd Γ K) {N : Nat} {r : Row} {m0 m1 : List Int} {Q : V → Sto → Prop} (hr : r.ok N) (hN : N ≤ 6) (h : Q (.t (.tup [.lst ((goalsOf r m0 m1).map .int), .lst (toldU r)])) σ) :
  WC Γ (n + 2) (.ref 742) [.t r.pv, .t (.lst [.lst (m0.map .int), .lst (m1.map .int)])] σ Q := by
 obtain ⟨home, form, a, b, which⟩ := r
 obtain ⟨hh, hf, ha, hb, hw⟩ := hr
 dsimp only at hh hf ha hb hw
 show WC Γ (n + 2) (.ref 742) [.t (.tup [.int home, .int form, .int a, .int b, .int which]), .t (.lst [.lst (m0.map .int), .lst (m1.map .int)])] σ Q
 refine WC.go (fd := fd61) (H_fd61 W) [ofString "row", ofString "maps"] rfl rfl (bind2 _ _ fun z' z' => rfl) rfl fun L => ?_
 try with_reducible intro E
 (refine WB.cons ?_; walk_at "q")
 walk_at "x"; walk_at "x"; walk_at "x"; walk_at "x"
 walk_at "x"
 have fin : ∀ xs ys : List PV, xs = (goalsOf ⟨home, form, a, b, which⟩ m0 m1).map .int → ys = toldU ⟨home, form, a, b, which⟩ → Q (.t (.tup [.lst xs, .lst ys])) σ := fun xs ys e1 e2 => by rw [e1, e2]; exact h
 refine WE.mono (Q := fun d σ' => σ' = σ ∧ d = .t (.lst (if form = 0 ∨ form = 4 then besideU which.toNat else []))) ?_ ?_
 ·walk_at "x"
  walk_at "r"
  refine v_inT 0 rfl rfl fun c hc => ⟨_, rfl, ?_⟩
  cases c with
  | true =>
   have hc' : form = 0 ∨ form = 4 := by simpa using hc
   walk_at "r"
   refine WE.call0 (G__law_beside W) (C__law_beside W) ?_
   refine w_beside W ?_
   walk_at "r"
   have hg := beside_get (w := which.toNat) (by lia)
   refine g_lst (xs := besideP.map .t) (d := .t (.tup [besideS which.toNat, .lst (besideU which.toNat)])) rfl hw.1 (by lia) (by rw [List.getElem?_map, hg]; rfl) ?_
   walk_at "r"
   try refine g_tup (by decide) (by decide) rfl ?_
   exact ⟨rfl, by rw [if_pos hc']⟩
  | false =>
   have hc' : ¬ (form = 0 ∨ form = 4) := by simpa using hc
   refine WE.listT ?_
   walk_at "r"
   exact ⟨rfl, by rw [if_neg hc']⟩
 rintro d σ' ⟨rfl, rfl⟩
 walk_at "r"
 by_cases h3 : form = 3
 ·subst h3
  refine v_eq ⟨true, rfl, ?_⟩
  walk_at "r"
  refine g_lst rfl (by decide) (by decide) rfl ?_
  repeat (first | walk_at "x" | (with_reducible refine WE.listT ?_))
  exact ⟨_, Sto.le_refl _, fin _ _ rfl rfl⟩
 refine v_eq ⟨false, by simp [h3], ?_⟩
 walk_at "r"
 by_cases h4 : form = 4
 ·subst h4
  refine v_eq ⟨true, rfl, ?_⟩
  walk_at "r"
  refine g_lst rfl (by decide) (by decide) rfl ?_
  repeat (first | walk_at "x" | (with_reducible refine WE.listT ?_))
  rw [if_pos (.inr rfl)]
  refine v_addL (xs := besideU which.toNat) (ys := [setU "m2", setU "m1"]) rfl rfl (by have : (besideU which.toNat).length ≤ 2 := beside_small _ (by lia); simp; lia) ?_
  walk_at "r"
  exact ⟨_, Sto.le_refl _, fin _ _ rfl rfl⟩
 refine v_eq ⟨false, by simp [h4], ?_⟩
 walk_at "r"
 have hg : goalsOf ⟨home, form, a, b, which⟩ [] [] = goalsOf ⟨home, form, a, b, which⟩ m0 m1 := by unfold goalsOf; simp [h3, h4]
 have hg2 : goalsOf ⟨home, form, a, b, which⟩ m0 m1 = (if form = 2 then [a, b] else [a]).filter fun n => decide (0 ≤ n) := by unfold goalsOf; simp [h3, h4]
 refine WIt.mono (Q := fun xs σ₁ => σ₁ = σ' ∧ xs = (if form = 2 then [a, b] else [a]).map .int) (WIt.lst (WE.mono (Q := fun d σ₁ => σ₁ = σ' ∧ d = .t (.lst ((if form = 2 then [a, b] else [a]).map .int))) ?_ fun d σ₁ ⟨e1, e2⟩ => ⟨_, e2, e1, rfl⟩)) fun xs σ₁ ⟨e1, e2⟩ => ?_
 ·walk_at "r"
  by_cases h2 : form = 2
  ·subst h2
   refine v_eq ⟨true, rfl, ?_⟩
   refine WE.listT ?_
   walk_at "r"
   exact ⟨rfl, rfl⟩
  ·refine v_eq ⟨false, by simp [h2], ?_⟩
   refine WE.listT ?_
   walk_at "r"
   exact ⟨rfl, by rw [if_neg h2]; rfl⟩
 subst e1 e2
 refine ⟨by split <;> simp, fun C => ?_⟩
 try with_reducible intro Ec rc
 refine WCp.each (fun x => match x with | .int i => decide (0 ≤ i) | _ => false) (fun x => .t x) _ _ (fun x hx => ?_) ?_
 ·obtain ⟨i, _, rfl⟩ := List.mem_map.mp hx
  walk_at "r"
  refine ⟨lookup_put_new rfl, ?_⟩
  walk_at "r"
  refine v_ge ⟨_, rfl, rfl, rfl, fun z' => ?_⟩
  walk_at "r"
  exact ⟨rfl, rfl⟩
 intro i hi
 have eo : ([] : List V) ++ (((if form = 2 then [a, b] else [a]).map PV.int).filter fun x => match x with | .int i => decide (0 ≤ i) | _ => false).map V.t = (((if form = 2 then [a, b] else [a]).filter fun n => decide (0 ≤ n)).map PV.int).map V.t := by
  rw [List.nil_append, List.filter_map]; rfl
 rw [eo, ← hg2]
 refine WB.froze hi ?_
 have hgr : ∀ i ∈ goalsOf ⟨home, form, a, b, which⟩ m0 m1, i.natAbs < 1000 := fun i hi => by
  rw [hg2] at hi
  have := (List.mem_filter.mp hi).1
  split at this <;> simp at this <;> lia
 have hgl : (goalsOf ⟨home, form, a, b, which⟩ m0 m1).length ≤ 2 := by
  rw [hg2]
  refine Nat.le_trans (List.length_filter_le _ _) ?_
  split <;> simp
 generalize hG : goalsOf ⟨home, form, a, b, which⟩ m0 m1 = G at *
 walk_at "r"
 refine WIt.lst ?_
 walk_at "r"
 refine ⟨_, rfl, by simp; lia, fun C => ?_⟩
 try with_reducible intro Ec rc
 refine WCp.each (fun z' => true) (fun x => match x with | .int i => .t (chainU i) | _ => .t .none) _ _ (fun x hx => ?_) ?_
 ·obtain ⟨i, hi, rfl⟩ := List.mem_map.mp hx
  have := hgr i hi
  walk_at "r"
  refine ⟨lookup_put_new rfl, ?_⟩
  walk_at "x"
  refine ⟨rfl, rfl, fun z' => ?_⟩
  walk_at "r"
  refine w_str (by lia) ?_
  refine v_addS ?_ (cn_size this)
  walk_at "r"
  exact ⟨rfl, rfl⟩
 have eo : ([] : List V) ++ ((G.map PV.int).filter fun z' => true).map (fun x => match x with | .int i => V.t (chainU i) | _ => .t .none) = (G.map chainU).map V.t := by
  rw [List.nil_append, List.filter_eq_self.mpr (fun z' z' => rfl), List.map_map, List.map_map]; rfl
 rw [eo]
 refine ⟨_, rfl, ?_⟩
 have hU : (if form = 0 ∨ form = 4 then besideU which.toNat else []) = (if form = 0 then besideU which.toNat else []) := by
  by_cases h0 : form = 0 <;> simp [h0, h4]
 rw [hU]
 refine v_addL (xs := if form = 0 then besideU which.toNat else []) (ys := G.map chainU) rfl rfl (by
  have : (besideU which.toNat).length ≤ 2 := beside_small _ (by lia)
  split <;> simp <;> lia) ?_
 walk_at "r"
 refine ⟨_, Sto.le_refl _, fin _ _ rfl ?_⟩
 unfold toldU
 rw [if_neg h3, if_neg h4, hg]
end
section
variable {Γ : Cx} {K : Frag} {n : Nat} {σ : Sto}
theorem w_uses_verdict (W : Wd Γ K) {w t : Str} {rest : List PV} {Q : V → Sto → Prop} (h : Q (.t (.lst (if t = ofString "" then [] else [.tup [pS "chain", .str t]]))) σ) : WC Γ (n + 1) (.ref 270) [.t (.tup (.str w :: .str t :: rest))] σ Q := by
 refine WC.go (fd := fd21) (H_fd21 W) [ofString "verdict"] rfl rfl (bind1 _ fun z' => rfl) rfl fun L => ?_
 try with_reducible intro E
 (refine WB.cons ?_; walk_at "q")
 walk_at "r"
 try refine g_tup (by decide) (by decide) rfl ?_
 walk_at "r"
 refine v_eqS ⟨_, rfl, ?_⟩
 cases hc : (t == ofString "") with
 | true =>
  have e : t = ofString "" := by simpa using hc
  repeat (first | walk_at "x" | (with_reducible refine WE.listT ?_))
  rw [if_pos e] at h
  exact ⟨_, Sto.le_refl _, h⟩
 | false =>
  have e : ¬ t = ofString "" := by simpa using hc
  repeat (first | walk_at "x" | (with_reducible refine WE.listT ?_))
  try refine g_tup (by decide) (by decide) rfl ?_
  repeat (first | walk_at "x" | (with_reducible refine WE.listT ?_))
  rw [if_neg e] at h
  exact ⟨_, Sto.le_refl _, h⟩
inductive UsesL : PV → List PV → Prop
 | none {a c d : PV} : UsesL (.tup [a, .none, c, d]) []
 | key {a c d : PV} {k : Int} {r : List PV} : UsesL (.tup [a, .tup (.int k :: r), c, d]) []
 | verd {a c d : PV} {w t : Str} : UsesL (.tup [a, .tup [.str w, .str t], c, d]) (if t = ofString "" then [] else [.tup [pS "chain", .str t]])
inductive UsesW : PV → List PV → Prop
 | ref {x : Str} : UsesW (.tup [pS "ref", .str x]) [.tup [pS "set", .str x]]
 | map {ls : List PV} {us : List (List PV)} : All2 UsesL ls us → UsesW (.tup [pS "map", .tup ls]) us.flatten
 | set {x : PV} : UsesW (.tup [pS "set", x]) []
set_option tactic.hygienic true in
theorem w_uses_where (W : Wd Γ K) {w : PV} {u : List PV} {Q : V → Sto → Prop} (hw : UsesW w u) (hu : u.length ≤ 100) (h : Q (.t (.lst u)) σ) : WC Γ (n + 2) (.ref 277) [.t w] σ Q := by
 refine WC.go (fd := fd22) (H_fd22 W) [ofString "where"] rfl rfl (bind1 _ fun z' => rfl) rfl fun L => ?_
 try with_reducible intro E
 revert hu h
 cases hw with
 | ref =>
  intro hu h
  (refine WB.cons ?_; walk_at "q")
  walk_at "r"
  try refine g_tup (by decide) (by decide) rfl ?_
  walk_at "r"
  refine v_eqS ⟨true, rfl, ?_⟩
  repeat (first | walk_at "x" | (with_reducible refine WE.listT ?_))
  try refine g_tup (by decide) (by decide) rfl ?_
  repeat (first | walk_at "x" | (with_reducible refine WE.listT ?_))
  exact ⟨_, Sto.le_refl _, h⟩
 | set =>
  intro hu h
  (refine WB.cons ?_; walk_at "q")
  walk_at "r"
  try refine g_tup (by decide) (by decide) rfl ?_
  walk_at "r"
  refine v_eqS ⟨false, rfl, ?_⟩
  walk_at "r"
  refine WE.listT ?_
  walk_at "r"
  try refine g_tup (by decide) (by decide) rfl ?_
  walk_at "r"
  refine v_eqS ⟨false, rfl, ?_⟩
  walk_at "r"
  exact ⟨_, Sto.le_refl _, h⟩
 | map hl =>
  intro hu h
  rename_i ls us
  (refine WB.cons ?_; walk_at "q")
  walk_at "r"
  try refine g_tup (by decide) (by decide) rfl ?_
  walk_at "r"
  refine v_eqS ⟨false, rfl, ?_⟩
  walk_at "r"
  refine WE.list ?_
  walk_at "r"
  refine ⟨by simp, fun j hj => ?_⟩
  walk_at "r"
  try refine g_tup (by decide) (by decide) rfl ?_
  walk_at "r"
  refine v_eqS ⟨true, rfl, ?_⟩
  walk_at "r"
  refine WIt.tup ?_
  walk_at "r"
  try refine g_tup (by decide) (by decide) rfl ?_
  refine ⟨_, rfl, ?_⟩
  refine WFor.over2 (fun (d : List (List PV)) => upd σ j (.lst (d.flatten.map .t))) hl (fun d x u ur e hx => ?_) ?_ rfl
  ·try clear Qt
   try with_reducible intro rt Qt
   have hlen : d.flatten.length + u.length ≤ 100 := by rw [e, List.flatten_append, List.length_append, List.flatten_cons, List.length_append] at hu; lia
   clear e
   cases hx with
   | none =>
    walk_at "r"
    try refine g_tup (by decide) (by decide) rfl ?_
    walk_at "r"
    refine v_isnot (by intro u h; cases h) ⟨false, rfl, ?_⟩
    walk_at "r"
    exact ⟨lookup_put_new rfl, _, Sto.le_refl _, by simp⟩
   | key =>
    walk_at "r"
    try refine g_tup (by decide) (by decide) rfl ?_
    walk_at "r"
    refine v_isnot (by intro u h; cases h) ⟨true, rfl, ?_⟩
    walk_at "r"
    try refine g_tup (by decide) (by decide) rfl ?_
    walk_at "r"
    try refine g_tup (by decide) (by decide) rfl ?_
    walk_at "r"
    refine WE.glob (G_str W) ?_
    walk_at "r"
    refine w_isstr_no ⟨_, rfl, ?_⟩
    walk_at "r"
    exact ⟨lookup_put_new rfl, _, Sto.le_refl _, by simp⟩
   | verd =>
    walk_at "r"
    try refine g_tup (by decide) (by decide) rfl ?_
    walk_at "r"
    refine v_isnot (by intro u h; cases h) ⟨true, rfl, ?_⟩
    walk_at "r"
    try refine g_tup (by decide) (by decide) rfl ?_
    walk_at "r"
    try refine g_tup (by decide) (by decide) rfl ?_
    walk_at "r"
    refine WE.glob (G_str W) ?_
    walk_at "r"
    refine w_isstr ⟨_, rfl, ?_⟩
    walk_at "r"
    try refine g_tup (by decide) (by decide) rfl ?_
    walk_at "r"
    refine w_uses_verdict W ?_
    refine v_iaddL (upd_self ..) rfl (by intro h; cases h) (by rw [List.length_map, List.length_map]; lia) ?_
    rw [upd_upd]
    walk_at "r"
    refine ⟨fun y e hy => ?_, _, Sto.le_refl _, by rw [List.flatten_append, List.flatten_singleton, List.map_append]⟩
    exact put_again (lookup_put_new rfl) rfl y e hy
  ·refine WB.froze hj ?_
   walk_at "r"
   exact ⟨_, Sto.le_refl _, h⟩
end
noncomputable def kOther (k : Str) : Bool := !(k == ofString "field") && !(k == ofString "num") && !(k == ofString "concat") && !(k == ofString "map")
mutual
inductive UsesE : Nat → PV → List PV → Prop
 | field {d : Nat} {r : List PV} : UsesE d (.tup (pS "field" :: r)) []
 | concat {d : Nat} {es : List PV} {us : List (List PV)} : UsesEs d es us → UsesE (d + 1) (.tup [pS "concat", .tup es]) us.flatten
 | map {d : Nat} {e w : PV} {u v : List PV} : UsesE d e u → UsesW w v → UsesE (d + 1) (.tup [pS "map", e, w]) (u ++ v)
 | other {d : Nat} {k : Str} {e : PV} {r : List PV} {u : List PV} : kOther k = true → UsesE d e u → UsesE (d + 1) (.tup (.str k :: e :: r)) u
inductive UsesEs : Nat → List PV → List (List PV) → Prop
 | nil {d : Nat} : UsesEs d [] []
 | cons {d : Nat} {e : PV} {u : List PV} {es : List PV} {us : List (List PV)} : UsesE d e u → UsesEs d es us → UsesEs d (e :: es) (u :: us)
end
section
variable {Γ : Cx} {K : Frag} {n : Nat} {σ : Sto}
set_option tactic.hygienic true in
theorem w_uses_e (W : Wd Γ K) : ∀ (d : Nat) {e : PV} {u : List PV} {σ : Sto} {Q : V → Sto → Prop}, UsesE d e u → u.length ≤ 100 → Q (.t (.lst u)) σ → WC Γ (n + 3 + d) (.ref 284) [.t e] σ Q := by
 intro d
 induction d with
 | zero =>
  intro e u σ Q he hu h
  refine WC.go (fd := fd23) (H_fd23 W) [ofString "e"] rfl rfl (bind1 _ fun z' => rfl) rfl fun L => ?_
  try with_reducible intro E
  revert hu h
  cases he with
  | field =>
   intro hu h
   (refine WB.cons ?_; walk_at "q")
   walk_at "r"
   try refine g_tup (by decide) (by decide) rfl ?_
   walk_at "r"
   refine v_eqS ⟨true, rfl, ?_⟩
   repeat (first | walk_at "x" | (with_reducible refine WE.listT ?_))
   exact ⟨_, Sto.le_refl _, h⟩
 | succ d ih =>
  intro e u σ Q he hu h
  show WC Γ (n + 3 + d + 1) (.ref 284) [.t e] σ Q
  refine WC.go (fd := fd23) (H_fd23 W) [ofString "e"] rfl rfl (bind1 _ fun z' => rfl) rfl fun L => ?_
  try with_reducible intro E
  revert hu h
  cases he with
  | field =>
   intro hu h
   (refine WB.cons ?_; walk_at "q")
   walk_at "r"
   try refine g_tup (by decide) (by decide) rfl ?_
   walk_at "r"
   refine v_eqS ⟨true, rfl, ?_⟩
   repeat (first | walk_at "x" | (with_reducible refine WE.listT ?_))
   exact ⟨_, Sto.le_refl _, h⟩
  | map hx hw =>
   intro hu h
   rename_i u v
   (refine WB.cons ?_; walk_at "q")
   walk_at "r"
   try refine g_tup (by decide) (by decide) rfl ?_
   walk_at "r"
   refine v_eqS ⟨false, rfl, ?_⟩
   walk_at "r"
   try refine g_tup (by decide) (by decide) rfl ?_
   walk_at "r"
   refine v_eqS ⟨false, rfl, ?_⟩
   walk_at "r"
   try refine g_tup (by decide) (by decide) rfl ?_
   walk_at "r"
   refine v_eqS ⟨false, rfl, ?_⟩
   walk_at "r"
   try refine g_tup (by decide) (by decide) rfl ?_
   walk_at "r"
   refine v_eqS ⟨true, rfl, ?_⟩
   walk_at "r"
   try refine g_tup (by decide) (by decide) rfl ?_
   walk_at "r"
   have hl : u.length + v.length ≤ 100 := by rw [List.length_append] at hu; exact hu
   refine ih hx (by lia) ?_
   walk_at "r"
   try refine g_tup (by decide) (by decide) rfl ?_
   walk_at "r"
   refine WC.up (m := 0 + 2) (by lia) ?_
   refine w_uses_where W hw (by lia) ?_
   refine v_addL (xs := u) (ys := v) rfl rfl (by lia) ?_
   walk_at "r"
   exact ⟨_, Sto.le_refl _, h⟩
  | @other _ k _ _ _ hk hx =>
   intro hu h
   unfold kOther at hk
   simp only [Bool.and_eq_true, Bool.not_eq_true'] at hk
   obtain ⟨⟨⟨k1, k2⟩, k3⟩, k4⟩ := hk
   (refine WB.cons ?_; walk_at "q")
   walk_at "r"
   try refine g_tup (by decide) (by decide) rfl ?_
   walk_at "r"
   refine v_eqS ⟨false, by rw [k1], ?_⟩
   walk_at "r"
   try refine g_tup (by decide) (by decide) rfl ?_
   walk_at "r"
   refine v_eqS ⟨false, by rw [k2], ?_⟩
   walk_at "r"
   try refine g_tup (by decide) (by decide) rfl ?_
   walk_at "r"
   refine v_eqS ⟨false, by rw [k3], ?_⟩
   walk_at "r"
   try refine g_tup (by decide) (by decide) rfl ?_
   walk_at "r"
   refine v_eqS ⟨false, by rw [k4], ?_⟩
   walk_at "r"
   try refine g_tup (by decide) (by decide) rfl ?_
   walk_at "r"
   refine ih hx hu ?_
   walk_at "r"
   exact ⟨_, Sto.le_refl _, h⟩
  | @concat _ es us hs =>
   intro hu h
   (refine WB.cons ?_; walk_at "q")
   walk_at "r"
   try refine g_tup (by decide) (by decide) rfl ?_
   walk_at "r"
   refine v_eqS ⟨false, rfl, ?_⟩
   walk_at "r"
   try refine g_tup (by decide) (by decide) rfl ?_
   walk_at "r"
   refine v_eqS ⟨false, rfl, ?_⟩
   walk_at "r"
   try refine g_tup (by decide) (by decide) rfl ?_
   walk_at "r"
   refine v_eqS ⟨true, rfl, ?_⟩
   walk_at "r"
   refine WE.list ?_
   walk_at "r"
   refine ⟨by simp, fun j hj => ?_⟩
   walk_at "r"
   refine WIt.tup ?_
   walk_at "r"
   try refine g_tup (by decide) (by decide) rfl ?_
   refine ⟨_, rfl, ?_⟩
   refine WFor.each (fun rest σ' => ∃ dn ur, us = dn ++ ur ∧ UsesEs d rest ur ∧ σ' = upd σ j (.lst (dn.flatten.map .t))) (fun x rest σ' hI => ?_) (fun σ' hI => ?_) es ⟨[], us, rfl, hs, rfl⟩
   ·try clear Qt
    try with_reducible intro rt Qt
    obtain ⟨dn, ur, rfl, ha, rfl⟩ := hI
    cases ha with
    | @cons _ _ u _ ur hx ha =>
     have hlen : dn.flatten.length + u.length ≤ 100 := by rw [List.flatten_append, List.length_append, List.flatten_cons, List.length_append] at hu; lia
     walk_at "r"
     refine ih hx (by lia) ?_
     refine v_iaddL (upd_self ..) rfl (by intro h; cases h) (by rw [List.length_map, List.length_map]; lia) ?_
     rw [upd_upd]
     walk_at "r"
     exact ⟨put_again (lookup_put_new rfl) rfl, _, Sto.le_refl _, dn ++ [u], ur, by rw [List.append_assoc]; rfl, ha, by rw [List.flatten_append, List.flatten_singleton, List.map_append]⟩
   ·obtain ⟨dn, ur, e, ha, rfl⟩ := hI
    cases ha
    rw [List.append_nil] at e
    subst e
    refine WB.froze hj ?_
    walk_at "r"
    exact ⟨_, Sto.le_refl _, h⟩
end
noncomputable def chainT (t : Str) : List PV := if t = ofString "" then [] else [.tup [pS "chain", .str t]]
inductive UsesS : PV → List PV → Prop
 | match_ {e op w : PV} {u v : List PV} : UsesE 3 e u → UsesW w v → UsesS (.tup [pS "match", e, op, w]) (u ++ v)
 | verdict {w t : Str} : UsesS (.tup [pS "verdict", .tup [.str w, .str t]]) (chainT t)
 | vmap {e w : PV} {u v : List PV} : UsesE 3 e u → UsesW w v → UsesS (.tup [pS "vmap", e, w]) (u ++ v)
 | object {a b : Str} : UsesS (.tup [pS "object", .str a, .str b]) [.tup [.str a, .str b]]
 | set {x e : PV} {u : List PV} : UsesE 3 e u → UsesS (.tup [pS "set", x, e]) u
 | natNone {a b c d : PV} : UsesS (.tup [pS "nat", a, b, .none, c, d]) []
 | natMap {a b c d : PV} {r u : List PV} : UsesE 3 (.tup (pS "map" :: r)) u → UsesS (.tup [pS "nat", a, b, .tup (pS "map" :: r), c, d]) u
 | dynset {a e c d : PV} {x : Str} {u : List PV} : UsesE 3 e u → UsesS (.tup [pS "dynset", a, .str x, e, c, d]) (.tup [pS "set", .str x] :: u)
 | expect {x : Str} : UsesS (.tup [pS "expect", .str x]) [.tup [pS "expectation", .str x]]
 | flow {x : Str} : UsesS (.tup [pS "flow", .str x]) [.tup [pS "flowtable", .str x]]
 | log {r : List PV} : UsesS (.tup (pS "log" :: r)) []
 | counter {r : List PV} : UsesS (.tup (pS "counter" :: r)) []
section
variable {Γ : Cx} {K : Frag} {σ : Sto}
set_option maxHeartbeats 2000000 in
set_option tactic.hygienic true in
theorem w_uses_statement (W : Wd Γ K) {s : PV} {u : List PV} {Q : V → Sto → Prop} (hs : UsesS s u) (hu : u.length ≤ 100) (h : Q (.t (.lst u)) σ) : WC Γ 8 (.ref 291) [.t s] σ Q := by
 refine WC.go (fd := fd24) (H_fd24 W) [ofString "statement"] rfl rfl (bind1 _ fun z' => rfl) rfl fun L => ?_
 try with_reducible intro E
 have ue : ∀ {e : PV} {u : List PV} {P : V → Sto → Prop}, UsesE 3 e u → u.length ≤ 100 → P (.t (.lst u)) σ → WC Γ 7 (.ref 284) [.t e] σ P := fun he hu h => WC.up (m := 0 + 3 + 3) (by lia) (w_uses_e W 3 he hu h)
 have uw : ∀ {e : PV} {u : List PV} {P : V → Sto → Prop}, UsesW e u → u.length ≤ 100 → P (.t (.lst u)) σ → WC Γ 7 (.ref 277) [.t e] σ P := fun he hu h => WC.up (m := 0 + 2) (by lia) (w_uses_where W he hu h)
 revert hu h
 cases hs with
 | match_ he hw =>
  intro hu h
  rename_i e op w u v
  have hl : u.length + v.length ≤ 100 := by rw [List.length_append] at hu; exact hu
  (refine WB.cons ?_; walk_at "q")
  repeat walk_at "v"
  refine ue he (by lia) ?_
  repeat walk_at "v"
  refine uw hw (by lia) ?_
  refine v_addL (xs := u) (ys := v) rfl rfl (by lia) ?_
  repeat walk_at "v"
  exact ⟨_, Sto.le_refl _, h⟩
 | verdict =>
  intro hu h
  (refine WB.cons ?_; walk_at "q")
  repeat walk_at "v"
  refine WC.up (m := 0 + 1) (by lia) (w_uses_verdict W ?_)
  repeat walk_at "v"
  exact ⟨_, Sto.le_refl _, h⟩
 | vmap he hw =>
  intro hu h
  rename_i e w u v
  have hl : u.length + v.length ≤ 100 := by rw [List.length_append] at hu; exact hu
  (refine WB.cons ?_; walk_at "q")
  repeat walk_at "v"
  refine ue he (by lia) ?_
  repeat walk_at "v"
  refine uw hw (by lia) ?_
  refine v_addL (xs := u) (ys := v) rfl rfl (by lia) ?_
  repeat walk_at "v"
  exact ⟨_, Sto.le_refl _, h⟩
 | object =>
  intro hu h
  (refine WB.cons ?_; walk_at "q")
  repeat (first | walk_at "v" | (with_reducible refine WE.listT ?_))
  exact ⟨_, Sto.le_refl _, h⟩
 | set he =>
  intro hu h
  (refine WB.cons ?_; walk_at "q")
  repeat walk_at "v"
  refine ue he hu ?_
  repeat walk_at "v"
  exact ⟨_, Sto.le_refl _, h⟩
 | natNone =>
  intro hu h
  (refine WB.cons ?_; walk_at "q")
  repeat walk_at "v"
  refine v_isnot (by intro u h; cases h) ⟨false, rfl, ?_⟩
  repeat (first | walk_at "v" | (with_reducible refine WE.listT ?_))
  exact ⟨_, Sto.le_refl _, h⟩
 | natMap he =>
  intro hu h
  (refine WB.cons ?_; walk_at "q")
  repeat walk_at "v"
  refine v_isnot (by intro u h; cases h) ⟨true, rfl, ?_⟩
  repeat walk_at "v"
  refine ue he hu ?_
  repeat walk_at "v"
  exact ⟨_, Sto.le_refl _, h⟩
 | dynset he =>
  intro hu h
  rename_i a e c d x u
  (refine WB.cons ?_; walk_at "q")
  repeat (first | walk_at "v" | (with_reducible refine WE.listT ?_))
  refine ue he (by simp at hu; lia) ?_
  refine v_addL (xs := [.tup [pS "set", .str x]]) (ys := u) rfl rfl (by simp at hu ⊢; lia) ?_
  repeat walk_at "v"
  exact ⟨_, Sto.le_refl _, h⟩
 | expect =>
  intro hu h
  (refine WB.cons ?_; walk_at "q")
  repeat (first | walk_at "v" | (with_reducible refine WE.listT ?_))
  exact ⟨_, Sto.le_refl _, h⟩
 | flow =>
  intro hu h
  (refine WB.cons ?_; walk_at "q")
  repeat (first | walk_at "v" | (with_reducible refine WE.listT ?_))
  exact ⟨_, Sto.le_refl _, h⟩
 | log =>
  intro hu h
  (refine WB.cons ?_; walk_at "q")
  repeat (first | walk_at "v" | (with_reducible refine WE.listT ?_))
  exact ⟨_, Sto.le_refl _, h⟩
 | counter =>
  intro hu h
  (refine WB.cons ?_; walk_at "q")
  repeat (first | walk_at "v" | (with_reducible refine WE.listT ?_))
  exact ⟨_, Sto.le_refl _, h⟩
end
abbrev UsesSs := All2 UsesS
section
variable {Γ : Cx} {K : Frag} {σ : Sto}
theorem w_uses_of (W : Wd Γ K) {es : List PV} {us : List (List PV)} {Q : V → Sto → Prop} (hs : UsesSs es us) (hu : us.flatten.length ≤ 100) (h : Q (.t (.lst us.flatten)) σ) : WC Γ 9 (.ref 298) [.t (.tup es)] σ Q := by
 refine WC.go (fd := fd25) (H_fd25 W) [ofString "statements"] rfl rfl (bind1 _ fun z' => rfl) rfl fun L => ?_
 try with_reducible intro E
 (refine WB.cons ?_; walk_at "q")
 walk_at "x"
 refine WE.list ?_
 walk_at "r"
 refine ⟨by simp, fun j hj => ?_⟩
 walk_at "r"
 refine WIt.tup ?_
 walk_at "r"
 refine ⟨_, rfl, ?_⟩
 refine WFor.over2 (fun (dn : List (List PV)) => upd σ j (.lst (dn.flatten.map .t))) hs (fun dn x u ur e hx => ?_) ?_ rfl
 ·try clear Qt
  try with_reducible intro rt Qt
  have hlen : dn.flatten.length + u.length ≤ 100 := by rw [e, List.flatten_append, List.length_append, List.flatten_cons, List.length_append] at hu; lia
  walk_at "r"
  refine w_uses_statement W hx (by lia) ?_
  refine v_iaddL (upd_self ..) rfl (by intro h; cases h) (by rw [List.length_map, List.length_map]; lia) ?_
  rw [upd_upd]
  walk_at "r"
  exact ⟨put_again (lookup_put_new rfl) rfl, _, Sto.le_refl _, by rw [List.flatten_append, List.flatten_singleton, List.map_append]⟩
 ·refine WB.froze hj ?_
  walk_at "r"
  exact ⟨_, Sto.le_refl _, h⟩
theorem w_single_key (W : Wd Γ K) {a b : Int} {n : Nat} {Q : V → Sto → Prop} (ha : a.natAbs < 1000) (hb : b.natAbs < 1000) (h : Q (.t (if a = b then .tup [.int a] else .none)) σ) : WC Γ (n + 1) (.ref 350) [.t (.tup [.tup [.int a, .int b]])] σ Q := by
 refine WC.go (fd := fd36) (H_fd36 W) [ofString "box"] rfl rfl (bind1 _ fun z' => rfl) rfl fun L => ?_
 try with_reducible intro E
 (refine WB.cons ?_; walk_at "q")
 walk_at "r"
 refine WIt.tup ?_
 walk_at "r"
 refine ⟨_, rfl, ?_⟩
 refine WFor.cons ?_
 walk_at "r"
 by_cases e : a = b
 ·subst e
  rw [if_pos rfl] at h
  refine v_ne ⟨false, by simp, ?_⟩
  walk_at "r"
  refine v_addT (xs := []) (ys := [.int a]) (by simp) ?_
  walk_at "r"
  refine WFor.nil ?_
  walk_at "r"
  exact ⟨_, Sto.le_refl _, h⟩
 ·rw [if_neg e] at h
  refine v_ne ⟨true, by simp [e], ?_⟩
  walk_at "r"
  exact ⟨_, Sto.le_refl _, h⟩
end
section
variable {Γ : Cx} {K : Frag}
theorem dfl2 (W : Wd Γ K) {fd : FuncData} {d e : V} {dv : List V} {T : Addr} {items : Array Value} {m : Nat} (names : List Str) (i : Nat) (ex : List Value) {k : Value → Value → Option (Array Value) → Sem (List (Str × Value))} (hT : objList[i]? = some (T, tupOf items m)) (hd : fd.defaults = .ref T)
  (h1 : ∀ a b, bindArgs fd ⟨[a, b], []⟩ = seqItems? fd.defaults >>= k a b) (h2 : ∀ a b, k a b (some items) = pure (names.zip ([a, b] ++ ex))) (hdv : ∀ ν g, All2 (RepV Γ.prog Γ.w ν g) ex dv) (hl : names.length = [d, e].length + dv.length) : Binds Γ fd [d, e] (names.zip ([d, e] ++ dv)) :=
 Binds.dfl W names i hT hd (k := fun xs o => match xs with | [a, b] => k a b o | _ => pure []) (fun xs hl => by obtain ⟨a, b, rfl⟩ := len2 hl; exact h1 a b) ex (fun xs hl => by obtain ⟨a, b, rfl⟩ := len2 hl; exact h2 a b) hdv hl rfl
theorem dfl3 (W : Wd Γ K) {fd : FuncData} {d e f : V} {dv : List V} {T : Addr} {items : Array Value} {m : Nat} (names : List Str) (i : Nat) (ex : List Value) {k : Value → Value → Value → Option (Array Value) → Sem (List (Str × Value))} (hT : objList[i]? = some (T, tupOf items m)) (hd : fd.defaults = .ref T)
  (h1 : ∀ a b c, bindArgs fd ⟨[a, b, c], []⟩ = seqItems? fd.defaults >>= k a b c) (h2 : ∀ a b c, k a b c (some items) = pure (names.zip ([a, b, c] ++ ex))) (hdv : ∀ ν g, All2 (RepV Γ.prog Γ.w ν g) ex dv) (hl : names.length = [d, e, f].length + dv.length) : Binds Γ fd [d, e, f] (names.zip ([d, e, f] ++ dv)) :=
 Binds.dfl W names i hT hd (k := fun xs o => match xs with | [a, b, c] => k a b c o | _ => pure []) (fun xs hl => by obtain ⟨a, b, c, rfl⟩ := len3 hl; exact h1 a b c) ex (fun xs hl => by obtain ⟨a, b, c, rfl⟩ := len3 hl; exact h2 a b c) hdv hl rfl
theorem dfl4 (W : Wd Γ K) {fd : FuncData} {d e f g : V} {dv : List V} {T : Addr} {items : Array Value} {m : Nat} (names : List Str) (i : Nat) (ex : List Value) {k : Value → Value → Value → Value → Option (Array Value) → Sem (List (Str × Value))} (hT : objList[i]? = some (T, tupOf items m)) (hd : fd.defaults = .ref T)
  (h1 : ∀ a b c j, bindArgs fd ⟨[a, b, c, j], []⟩ = seqItems? fd.defaults >>= k a b c j) (h2 : ∀ a b c j, k a b c j (some items) = pure (names.zip ([a, b, c, j] ++ ex))) (hdv : ∀ ν g, All2 (RepV Γ.prog Γ.w ν g) ex dv) (hl : names.length = [d, e, f, g].length + dv.length) : Binds Γ fd [d, e, f, g] (names.zip ([d, e, f, g] ++ dv)) :=
 Binds.dfl W names i hT hd (k := fun xs o => match xs with | [a, b, c, j] => k a b c j o | _ => pure []) (fun xs hl => by obtain ⟨a, b, c, j, rfl⟩ := len4 hl; exact h1 a b c j) ex (fun xs hl => by obtain ⟨a, b, c, j, rfl⟩ := len4 hl; exact h2 a b c j) hdv hl rfl
end
theorem obj_upd {σ : Sto} {i k : Nat} {a b c : AO} (h : i ≠ k) : upd (upd (upd σ k a) i b) k c = upd (upd σ k c) i b := by
 rw [upd_comm h, upd_upd]
noncomputable abbrev at_ (x : String) : Key := .str (Str.ofString x)
section
variable {Γ : Cx} {K : Frag} {σ : Sto}
theorem w_Counter (W : Wd Γ K) {n : Nat} {a b : Int} {Q : V → Sto → Prop} (h : ∀ i k, σ i = Option.none → σ k = Option.none → i ≠ k → Q (.ref i) (upd (upd σ k (.dct .S [(at_ "packets", .t (.int a)), (at_ "octets", .t (.int b))])) i (.inst 116 k))) : WC Γ (n + 2) (.ref 116) [.t (.int a), .t (.int b)] σ Q := by
 refine WCc.wc (WC.cls (K_Counter W) (M_Counter W) (I_Counter W) (W.typeF 4 rfl) fun i k hi hk hik => ?_)
 refine WCc.go (fd := fd9m0) (H_fd9m0 W) [ofString "self", ofString "packets", ofString "octets"] rfl rfl (dfl3 W [ofString "self", ofString "packets", ofString "octets"] (dv := []) 51 [] rfl rfl (fun z' z' z' => rfl) (fun z' z' z' => rfl) (fun z' z' => .nil) rfl) rfl fun L => ?_
 try with_reducible intro E
 (refine WB.cons ?_; walk_at "q")
 walk_at "r"
 refine ⟨_, _, _, i, k, _, rfl, upd_self .., upd_ne' (upd_self ..) (Ne.symm hik), K_Counter W, (A_Counter W _ (.head _)).2, Nat.le_of_ble_eq_true rfl, ?_⟩
 rw [obj_upd hik]
 walk_at "r"
 refine ⟨_, _, _, i, k, _, rfl, upd_self .., upd_ne' (upd_self ..) (Ne.symm hik), K_Counter W, (A_Counter W _ (.tail _ (.head _))).2, Nat.le_of_ble_eq_true rfl, ?_⟩
 rw [obj_upd hik]
 walk_at "r"
 exact ⟨_, Sto.le_refl _, rfl, h i k hi hk hik⟩
noncomputable def elemP (box data : PV) (u : Int) : List (Key × PV) := [(at_ "box", box), (at_ "data", data), (at_ "until", .int u), (at_ "timeout", .int 0), (at_ "comment", pS ""), (at_ "cells", .dct .I [])]
theorem w_Element (W : Wd Γ K) {n : Nat} {box data : PV} {u : Int} {Q : V → Sto → Prop} (h : ∀ i k, σ i = Option.none → σ k = Option.none → i ≠ k → Q (.ref i) (upd (upd σ k (.dct .S ((elemP box data u).map fun p => (p.1, .t p.2)))) i (.inst 368 k))) : WC Γ (n + 2) (.ref 368) [.t box, .t data, .t (.int u)] σ Q := by
 refine WCc.wc (WC.cls (K_Element W) (M_Element W) (I_Element W) (W.typeF 23 rfl) fun i k hi hk hik => ?_)
 refine WCc.go (fd := fd37m0) (H_fd37m0 W) [ofString "self", ofString "box", ofString "data", ofString "until"] rfl rfl (dfl4 W [ofString "self", ofString "box", ofString "data", ofString "until"] (dv := []) 54 [] rfl rfl (fun z' z' z' z' => rfl) (fun z' z' z' z' => rfl) (fun z' z' => .nil) rfl) rfl fun L => ?_
 try with_reducible intro E
 (refine WB.cons ?_; walk_at "q")
 walk_at "r"
 refine ⟨_, _, _, i, k, _, rfl, upd_self .., upd_ne' (upd_self ..) (Ne.symm hik), K_Element W, (A_Element W _ (.head _)).2, Nat.le_of_ble_eq_true rfl, ?_⟩
 rw [obj_upd hik]
 walk_at "r"
 refine ⟨_, _, _, i, k, _, rfl, upd_self .., upd_ne' (upd_self ..) (Ne.symm hik), K_Element W, (A_Element W _ (.tail _ (.head _))).2, Nat.le_of_ble_eq_true rfl, ?_⟩
 rw [obj_upd hik]
 walk_at "r"
 refine ⟨_, _, _, i, k, _, rfl, upd_self .., upd_ne' (upd_self ..) (Ne.symm hik), K_Element W, (A_Element W _ (.tail _ (.tail _ (.head _)))).2, Nat.le_of_ble_eq_true rfl, ?_⟩
 rw [obj_upd hik]
 walk_at "r"
 refine ⟨_, _, _, i, k, _, rfl, upd_self .., upd_ne' (upd_self ..) (Ne.symm hik), K_Element W, (A_Element W _ (.tail _ (.tail _ (.tail _ (.head _))))).2, Nat.le_of_ble_eq_true rfl, ?_⟩
 rw [obj_upd hik]
 walk_at "r"
 refine ⟨_, _, _, i, k, _, rfl, upd_self .., upd_ne' (upd_self ..) (Ne.symm hik), K_Element W, (A_Element W _ (.tail _ (.tail _ (.tail _ (.tail _ (.head _)))))).2, Nat.le_of_ble_eq_true rfl, ?_⟩
 rw [obj_upd hik]
 walk_at "r"
 refine WE.dictF .I ?_
 walk_at "r"
 refine ⟨_, _, _, i, k, _, rfl, upd_self .., upd_ne' (upd_self ..) (Ne.symm hik), K_Element W, (A_Element W _ (.tail _ (.tail _ (.tail _ (.tail _ (.tail _ (.head _))))))).2, Nat.le_of_ble_eq_true rfl, ?_⟩
 rw [obj_upd hik]
 walk_at "r"
 exact ⟨_, Sto.le_refl _, rfl, h i k hi hk hik⟩
theorem w_Chain (W : Wd Γ K) {n : Nat} {x : Str} {Q : V → Sto → Prop} (h : ∀ i k, σ i = Option.none → σ k = Option.none → i ≠ k → Q (.ref i) (upd (upd σ k (.dct .S [(at_ "name", .t (.str x)), (at_ "base", .t .none), (at_ "policy", .t (pS "accept")), (at_ "handle", .t (.int 0)), (at_ "rules", .t (.lst []))])) i (.inst 231 k))) : WC Γ (n + 2) (.ref 231) [.t (.str x)] σ Q := by
 refine WCc.wc (WC.cls (K_Chain W) (M_Chain W) (I_Chain W) (W.typeF 8 rfl) fun i k hi hk hik => ?_)
 refine WCc.go (fd := fd18m0) (H_fd18m0 W) [ofString "self", ofString "name", ofString "base"] rfl rfl (dfl2 W [ofString "self", ofString "name", ofString "base"] (dv := [.t .none]) 53 [.none] rfl rfl (fun z' z' => rfl) (fun z' z' => rfl) (fun z' z' => .cons .none .nil) rfl) rfl fun L => ?_
 try with_reducible intro E
 (refine WB.cons ?_; walk_at "q")
 walk_at "r"
 refine ⟨_, _, _, i, k, _, rfl, upd_self .., upd_ne' (upd_self ..) (Ne.symm hik), K_Chain W, (A_Chain W _ (.head _)).2, Nat.le_of_ble_eq_true rfl, ?_⟩
 rw [obj_upd hik]
 walk_at "r"
 refine ⟨_, _, _, i, k, _, rfl, upd_self .., upd_ne' (upd_self ..) (Ne.symm hik), K_Chain W, (A_Chain W _ (.tail _ (.head _))).2, Nat.le_of_ble_eq_true rfl, ?_⟩
 rw [obj_upd hik]
 walk_at "r"
 refine ⟨_, _, _, i, k, _, rfl, upd_self .., upd_ne' (upd_self ..) (Ne.symm hik), K_Chain W, (A_Chain W _ (.tail _ (.tail _ (.head _)))).2, Nat.le_of_ble_eq_true rfl, ?_⟩
 rw [obj_upd hik]
 walk_at "r"
 refine ⟨_, _, _, i, k, _, rfl, upd_self .., upd_ne' (upd_self ..) (Ne.symm hik), K_Chain W, (A_Chain W _ (.tail _ (.tail _ (.tail _ (.head _))))).2, Nat.le_of_ble_eq_true rfl, ?_⟩
 rw [obj_upd hik]
 walk_at "r"
 refine WE.listT ?_
 walk_at "r"
 refine ⟨_, _, _, i, k, _, rfl, upd_self .., upd_ne' (upd_self ..) (Ne.symm hik), K_Chain W, (A_Chain W _ (.tail _ (.tail _ (.tail _ (.tail _ (.head _)))))).2, Nat.le_of_ble_eq_true rfl, ?_⟩
 rw [obj_upd hik]
 walk_at "r"
 exact ⟨_, Sto.le_refl _, rfl, h i k hi hk hik⟩
end
theorem le_new2 {σ : Sto} {i k : Nat} {a b c d : AO} (hi : σ i = Option.none) (hk : σ k = Option.none) : Sto.le σ (upd (upd (upd (upd σ k a) i b) k c) i d) := fun j o e => by
 have h1 : j ≠ i := fun q => by subst q; rw [hi] at e; cases e
 have h2 : j ≠ k := fun q => by subst q; rw [hk] at e; cases e
 rw [upd_ne _ _ h1, upd_ne _ _ h2, upd_ne _ _ h1, upd_ne _ _ h2]; exact e
noncomputable def counterP : PV := .obj 116 [(at_ "packets", .int 0), (at_ "octets", .int 0)]
noncomputable def kCell (k : Str) : Bool := !(k == ofString "counter") && !(k == ofString "quota") && !(k == ofString "limit")
inductive CellS : PV → Bool → Prop
 | counter : CellS (.tup [pS "counter", .int 0, .int 0]) true
 | dyn {a b c d : PV} : CellS (.tup [pS "dynset", a, b, c, d, .tup []]) false
 | other {k : Str} {r : List PV} (h1 : kCell k = true) (h2 : (k == ofString "dynset") = false) : CellS (.tup (.str k :: r)) false
noncomputable def cellP (b : Bool) : PV := if b then counterP else .none
section
variable {Γ : Cx} {K : Frag} {σ : Sto} {n : Nat}
theorem WC.frzN {f : Value} {ds : List V} {Q : V → Sto → Prop} (h : WC Γ n f ds σ fun v σ₁ => ∃ i k c kvs, v = .ref i ∧ σ i = Option.none ∧ σ k = Option.none ∧ i ≠ k ∧ σ₁ = upd (upd σ k (.dct .S (kvs.map fun p => (p.1, .t p.2)))) i (.inst c k) ∧ Q (.t (.obj c kvs)) σ) : WC Γ n f ds σ Q := fun A s ν g xs hA S r => by
 refine wpAny_mono (h A s ν g xs hA S r) (fun v s₁ ⟨ν₁, g₁, σ₁, d, st₁, S₁, r, q⟩ => ?_) fun z' z' x => x
 obtain ⟨i, k, c, kvs, rfl, hi, hk, hik, rfl, q⟩ := q
 obtain ⟨g', st, S'⟩ := freezeO S₁ (upd_self ..) (upd_ne' (upd_self ..) (Ne.symm hik))
 exact ⟨ν₁, g', σ, .t (.obj c kvs), st₁.trans st, S'.le (le_new2 hi hk), frz_rep S' (upd_self ..) (st.rep r), q⟩
theorem w_make_cell (W : Wd Γ K) {x : PV} {b : Bool} {Q : V → Sto → Prop} (hx : CellS x b) (h : Q (.t (cellP b)) σ) : WC Γ (n + 3) (.ref 184) [.t x] σ Q := by
 refine WC.go (fd := fd14) (H_fd14 W) [ofString "statement"] rfl rfl (bind1 _ fun z' => rfl) rfl fun L => ?_
 try with_reducible intro E
 cases hx with
 | counter =>
  (refine WB.cons ?_; walk_at "q")
  repeat walk_at "v"
  refine WC.frzN (w_Counter W fun i k hi hk hik => ⟨i, k, 116, [(at_ "packets", .int 0), (at_ "octets", .int 0)], rfl, hi, hk, hik, rfl, ?_⟩)
  exact ⟨σ, Sto.le_refl _, h⟩
 | dyn =>
  (refine WB.cons ?_; walk_at "q")
  repeat walk_at "v"
  exact ⟨_, Sto.le_refl _, h⟩
 | other h1 h2 =>
  unfold kCell at h1
  simp only [Bool.and_eq_true, Bool.not_eq_true'] at h1
  obtain ⟨⟨k1, k2⟩, k3⟩ := h1
  (refine WB.cons ?_; walk_at "q")
  repeat walk_at "v"
  refine v_eqS ⟨false, by rw [k1], ?_⟩
  repeat walk_at "v"
  refine v_eqS ⟨false, by rw [k2], ?_⟩
  repeat walk_at "v"
  refine v_eqS ⟨false, by rw [k3], ?_⟩
  repeat walk_at "v"
  exact ⟨_, Sto.le_refl _, h⟩
end
theorem kput_map {α β : Type} (f : α → β) (kvs : List (Key × α)) (k : Key) (v : α) : kput (kvs.map fun p => (p.1, f p.2)) k (f v) = (kput kvs k v).map fun p => (p.1, f p.2) := by
 induction kvs with
 | nil => rfl
 | cons p r ih =>
  rw [List.map_cons, kput_cons, kput_cons]
  by_cases e : p.1 = k
  ·rw [if_pos e, if_pos e]; rfl
  ·rw [if_neg e, if_neg e, ih]; rfl
theorem range_turn {N m : Nat} {x : PV} {rest : List PV} (e : x :: rest = ((List.range N).map fun (i : Nat) => PV.int (i : Int)).drop m) : m < N ∧ x = .int (m : Int) ∧ rest = ((List.range N).map fun (i : Nat) => PV.int (i : Int)).drop (m + 1) := by
 have el : ((List.range N).map fun (i : Nat) => PV.int (i : Int)).length = N := (List.length_map ..).trans List.length_range
 by_cases hlt : m < N
 ·rw [List.drop_eq_getElem_cons (by rw [el]; exact hlt), List.getElem_map, List.getElem_range] at e
  exact ⟨hlt, (List.cons.inj e).1, (List.cons.inj e).2⟩
 ·rw [List.drop_eq_nil_of_le (by rw [el]; exact Nat.le_of_not_lt hlt)] at e; cases e
theorem range_done {N m : Nat} (hm : m ≤ N) (e : [] = ((List.range N).map fun (i : Nat) => PV.int (i : Int)).drop m) : m = N := by
 have h := congrArg List.length e
 rw [List.length_drop, List.length_map, List.length_range] at h
 exact Nat.le_antisymm hm (Nat.le_of_sub_eq_zero h.symm)
section
variable {Γ : Cx} {K : Frag} {σ : Sto} {n : Nat} {env : Env}
theorem WFor.range {target : Expr} {body : List Stmt} {ρ₀ : Rho} {Q : Fl → Rho → Sto → Prop} (N : Nat) (I : Nat → Sto → Prop)
  (turn : ∀ m σ, m < N → I m σ → let rt := ρ₀; let Qt := bodyQ Γ n env body (turnQ rt (I (m + 1)) Q); WA Γ n env target (.t (.int (m : Int))) rt σ Qt)
  (done : ∀ σ, I N σ → Q .next ρ₀ σ) (h : I 0 σ) : WFor Γ n env target body ((List.range N).map fun (i : Nat) => PV.int (i : Int)) ρ₀ σ Q := by
 refine WFor.each (fun rest σ => ∃ m, m ≤ N ∧ rest = ((List.range N).map fun (i : Nat) => PV.int (i : Int)).drop m ∧ I m σ) (fun x rest σ hI => ?_) (fun σ hI => ?_) _ ⟨0, Nat.zero_le _, rfl, h⟩
 ·obtain ⟨m, hm, e, hI⟩ := hI
  obtain ⟨hlt, rfl, rfl⟩ := range_turn e
  refine fun A s ν g y hA F S r => wpAny_mono (turn m σ hlt hI A s ν g y hA F S r) (fun z' s' q => q.mono fun ρ₁ σ₁ q => q.mono fun f ρ₂ σ₂ hf => ?_) fun z' z' x => x
  cases f with
  | next => obtain ⟨le, σ₃, l3, i3⟩ := hf; exact ⟨le, σ₃, l3, m + 1, hlt, rfl, i3⟩
  | ret d => exact hf
  | brk => exact hf
  | cont => exact hf
  | exc _ _ => exact hf
 ·obtain ⟨m, hm, e, hI⟩ := hI
  obtain rfl := range_done hm e
  exact done _ hI
set_option tactic.hygienic true in
theorem WB.frozeD {ρ : Rho} {sts : List Stmt} {y : Str} {i : Nat} {f : Fla} {kvs : List (Key × PV)} {Q : Fl → Rho → Sto → Prop} (hi : σ i = Option.none) (h : WB Γ n env sts (put ρ y (.t (.dct f kvs))) σ Q) : WB Γ n env sts (put ρ y (.ref i)) (upd σ i (.dct f (kvs.map fun p => (p.1, .t p.2)))) Q := by
 refine WB.frzD i (upd_self ..) (WB.thaw y (i := i) (d := .dct f kvs) (by rw [lookup_put, if_pos rfl]) (upd_self ..) (WB.le (σ' := σ) ?_ (WB.less (ρ' := put ρ y (.t (.dct f kvs))) (fun x d hx => ?_) h)))
 ·rw [upd_upd]; exact Sto.le_upd hi
 ·rw [lookup_put] at hx ⊢
  split at hx
  ·rename_i q; rw [if_pos q]; exact hx
  ·rename_i q; rw [if_neg q, lookup_put, if_neg q]; exact hx
abbrev CellSs := All2 CellS
theorem CellSs.get {xs : List PV} {bs : List Bool} (h : CellSs xs bs) (m : Nat) (hm : m < xs.length) : ∃ x b, xs[m]? = some x ∧ CellS x b := by
 obtain ⟨b, _, r⟩ := All2.get' h m xs[m] (List.getElem?_eq_getElem hm)
 exact ⟨_, b, List.getElem?_eq_getElem hm, r⟩
theorem w_cells_of (W : Wd Γ K) {xs : List PV} {bs : List Bool} {Q : V → Sto → Prop} (hx : CellSs xs bs) (hl : xs.length ≤ 100) (h : ∀ kvs, Q (.t (.dct .I kvs)) σ) : WC Γ (n + 4) (.ref 191) [.t (.tup xs)] σ Q := by
 refine WC.go (fd := fd15) (H_fd15 W) [ofString "statements"] rfl rfl (bind1 _ fun z' => rfl) rfl fun L => ?_
 try with_reducible intro E
 (refine WB.cons ?_; walk_at "q")
 walk_at "r"
 refine WE.dict0 (f := .I) fun j hj => ?_
 walk_at "r"
 refine WIt.range (G_range W) (C_range W) ?_
 walk_at "r"
 refine w_len_tup (by lia) ?_
 walk_at "r"
 refine ⟨_, rfl, by lia, by lia, ?_⟩
 refine WFor.range xs.length (fun m σ' => ∃ kvs : List (Key × PV), σ' = upd σ j (.dct .I (kvs.map fun p => (p.1, .t p.2))) ∧ kvs.length ≤ m) (fun m σ' hm ⟨kvs, e, hkl⟩ => ?_) (fun σ' ⟨kvs, e, hkl⟩ => ?_) ⟨[], rfl, Nat.le_refl _⟩
 ·try clear Qt
  try with_reducible intro rt Qt
  subst e
  obtain ⟨x, b, hg, hc⟩ := hx.get m hm
  walk_at "r"
  refine g_tup (by lia) (by lia) (by simpa using hg) ?_
  walk_at "r"
  refine w_make_cell W hc ?_
  walk_at "r"
  have same : ∀ {v : V} y d, (put (List.zip [ofString "statements"] [V.t (.tup xs)]) (ofString "cells") (.ref j)).lookup y = some d → (put (put (put (List.zip [ofString "statements"] [V.t (.tup xs)]) (ofString "cells") (.ref j)) (ofString "place") (.t (.int m))) (ofString "cell") v).lookup y = some d := fun y d hy => lookup_put_new rfl _ _ (lookup_put_new rfl _ _ hy)
  cases b with
  | true =>
   refine v_isnot (by intro u h; cases h) ⟨true, rfl, ?_⟩
   walk_at "r"
   refine s_dct (.int m) (upd_self ..) rfl (by simp; lia) ?_
   rw [upd_upd]
   walk_at "r"
   exact ⟨same, _, Sto.le_refl _, kput kvs (.int m) (cellP true), by rw [← kput_map], Nat.le_trans (kput_length ..) (by lia)⟩
  | false =>
   refine v_isnot (by intro u h; cases h) ⟨false, rfl, ?_⟩
   walk_at "r"
   refine g_tup (by lia) (by lia) (by simpa using hg) ?_
   cases hc with
   | dyn =>
    repeat walk_at "v"
    refine WIt.tup ?_
    walk_at "r"
    refine g_tup (by lia) (by lia) (by simpa using hg) ?_
    repeat walk_at "v"
    refine ⟨_, rfl, ?_⟩
    refine WFor.nil ?_
    walk_at "r"
    exact ⟨same, _, Sto.le_refl _, kvs, rfl, by lia⟩
   | other h1 h2 =>
    repeat walk_at "v"
    refine v_eqS ⟨false, by rw [h2], ?_⟩
    walk_at "r"
    exact ⟨same, _, Sto.le_refl _, kvs, rfl, by lia⟩
 ·subst e
  refine WB.frozeD hj ?_
  walk_at "r"
  exact ⟨_, Sto.le_refl _, h kvs⟩
end
section
variable {Γ : Cx} {K : Frag} {σ : Sto} {n : Nat}
noncomputable def ruleP (i : Int) (xs : List PV) (cells : List (Key × PV)) : PV := .obj 209 [(at_ "handle", .int i), (at_ "statements", .tup xs), (at_ "comment", pS ""), (at_ "cells", .dct .I cells), (at_ "rows", .none), (at_ "sets", .dct .I [])]
theorem w_Rule (W : Wd Γ K) {j : Int} {xs : List PV} {bs : List Bool} {Q : V → Sto → Prop} (hx : CellSs xs bs) (hl : xs.length ≤ 100) (h : ∀ cells, Q (.t (ruleP j xs cells)) σ) : WC Γ (n + 6) (.ref 209) [.t (.int j), .t (.tup xs)] σ Q := by
 refine WC.frzN (WCc.wc (WC.cls (K_Rule W) (M_Rule W) (I_Rule W) (W.typeF 7 rfl) fun i k hi hk hik => ?_))
 refine WCc.go (fd := fd17m0) (H_fd17m0 W) [ofString "self", ofString "handle", ofString "statements", ofString "comment"] rfl rfl (dfl3 W [ofString "self", ofString "handle", ofString "statements", ofString "comment"] (dv := [.t (pS "")]) 52 [.str (ofString "") 461] rfl rfl (fun z' z' z' => rfl) (fun z' z' z' => rfl) (fun z' z' => .cons (.str _ _) .nil) rfl) rfl fun L => ?_
 try with_reducible intro E
 (refine WB.cons ?_; walk_at "q")
 walk_at "r"
 refine ⟨_, _, _, i, k, _, rfl, upd_self .., upd_ne' (upd_self ..) (Ne.symm hik), K_Rule W, (A_Rule W _ (.head _)).2, Nat.le_of_ble_eq_true rfl, ?_⟩
 rw [obj_upd hik]
 walk_at "r"
 refine ⟨_, _, _, i, k, _, rfl, upd_self .., upd_ne' (upd_self ..) (Ne.symm hik), K_Rule W, (A_Rule W _ (.tail _ (.head _))).2, Nat.le_of_ble_eq_true rfl, ?_⟩
 rw [obj_upd hik]
 walk_at "r"
 refine ⟨_, _, _, i, k, _, rfl, upd_self .., upd_ne' (upd_self ..) (Ne.symm hik), K_Rule W, (A_Rule W _ (.tail _ (.tail _ (.head _)))).2, Nat.le_of_ble_eq_true rfl, ?_⟩
 rw [obj_upd hik]
 walk_at "r"
 refine w_cells_of W hx hl fun cells => ?_
 walk_at "r"
 refine ⟨_, _, _, i, k, _, rfl, upd_self .., upd_ne' (upd_self ..) (Ne.symm hik), K_Rule W, (A_Rule W _ (.tail _ (.tail _ (.tail _ (.head _))))).2, Nat.le_of_ble_eq_true rfl, ?_⟩
 rw [obj_upd hik]
 walk_at "r"
 refine ⟨_, _, _, i, k, _, rfl, upd_self .., upd_ne' (upd_self ..) (Ne.symm hik), K_Rule W, (A_Rule W _ (.tail _ (.tail _ (.tail _ (.tail _ (.head _)))))).2, Nat.le_of_ble_eq_true rfl, ?_⟩
 rw [obj_upd hik]
 walk_at "r"
 refine WE.dictF .I ?_
 walk_at "r"
 refine ⟨_, _, _, i, k, _, rfl, upd_self .., upd_ne' (upd_self ..) (Ne.symm hik), K_Rule W, (A_Rule W _ (.tail _ (.tail _ (.tail _ (.tail _ (.tail _ (.head _))))))).2, Nat.le_of_ble_eq_true rfl, ?_⟩
 rw [obj_upd hik]
 walk_at "r"
 exact ⟨_, Sto.le_refl _, rfl, i, k, 209, [(at_ "handle", .int j), (at_ "statements", .tup xs), (at_ "comment", pS ""), (at_ "cells", .dct .I cells), (at_ "rows", .none), (at_ "sets", .dct .I [])], rfl, hi, hk, hik, rfl, h cells⟩
end
section
variable {Γ : Cx} {K : Frag} {σ : Sto} {n : Nat} {env : Env}
inductive TurnM {α : Type} (R : α → Rho) (I : α → Sto → Prop) (less : α → Prop) (ρ₂ : Rho) (σ₂ : Sto) : Prop
 | mk (a' : α) (σ₃ : Sto) : less a' → (∀ x d, (R a').lookup x = some d → ρ₂.lookup x = some d) → Sto.le σ₃ σ₂ → I a' σ₃ → TurnM R I less ρ₂ σ₂
abbrev turnM {α : Type} (R : α → Rho) (I : α → Sto → Prop) (less : α → Prop) (Q : Fl → Rho → Sto → Prop) (f : Fl) (ρ₂ : Rho) (σ₂ : Sto) : Prop := match f with
 | .next => TurnM R I less ρ₂ σ₂
 | .ret d => Q (.ret d) ρ₂ σ₂
 | .exc c y => Q (.exc c y) ρ₂ σ₂
 | _ => False
abbrev testQ (Γ : Cx) (n : Nat) (env : Env) (body : List Stmt) (ρ : Rho) (Qb Q : Fl → Rho → Sto → Prop) (c : Bool) (σ₁ : Sto) : Prop := match c with
 | true => WB Γ n env body ρ σ₁ Qb
 | false => Q .next ρ σ₁
theorem WWh.run {α : Type} (R : α → Rho) (I : α → Sto → Prop) (μ : α → Nat) {test : Expr} {body : List Stmt} {Q : Fl → Rho → Sto → Prop}
  (turn : ∀ a σ, I a σ → let rt := R a; let Qt := testQ Γ n env body rt (turnM R I (fun a' => μ a' < μ a) Q) Q; WT Γ n env test rt σ Qt) : ∀ (k : Nat) (a : α) (σ : Sto), μ a ≤ k → I a σ → WWh Γ n env test body (R a) σ Q := by
 have core : ∀ (a : α) (σ : Sto), I a σ → (∀ a' σ', μ a' < μ a → I a' σ' → WWh Γ n env test body (R a') σ' Q) → WWh Γ n env test body (R a) σ Q := by
  intro a σ hI ih
  refine WWh.step ((turn a σ hI).mono fun c σ₁ hc => ?_)
  cases c with
  | true =>
   refine WB.mono hc fun f ρ₂ σ₂ q => ?_
   cases f with
   | next => obtain ⟨a', σ₃, hlt, le, l3, i3⟩ := q; exact WWh.less le (WWh.le l3 (ih a' σ₃ hlt i3))
   | ret d => exact q
   | brk => exact (show False from q).elim
   | cont => exact (show False from q).elim
   | exc _ _ => exact q
  | false => exact hc
 intro k
 induction k with
 | zero => exact fun a σ hk hI => core a σ hI fun a' σ' hlt z' => absurd (Nat.lt_of_lt_of_le hlt hk) (Nat.not_lt_zero _)
 | succ k ih => exact fun a σ hk hI => core a σ hI fun a' σ' hlt i3 => ih a' σ' (Nat.le_of_lt_succ (Nat.lt_of_lt_of_le hlt hk)) i3
theorem less_append {ρ e : Rho} : ∀ x d, ρ.lookup x = some d → (ρ ++ e).lookup x = some d := fun x d h => by
 rw [List.lookup_append, h]; rfl
end
structure El where
 lo : Int
 hi : Int
 data : PV
 u : Int
 deriving Inhabited
noncomputable abbrev El.kvs (e : El) : List (Key × PV) := elemP (.tup [.tup [.int e.lo, .int e.hi]]) e.data e.u
noncomputable abbrev El.pv (e : El) : PV := .obj 368 e.kvs
section
variable {Γ : Cx} {K : Frag} {σ : Sto} {n : Nat} {env : Env}
theorem w_place_in (W : Wd Γ K) {v : V} {es : List El} {x : Int} {Q : V → Sto → Prop} (hv : LstV σ v ((es.map El.pv).map .t)) (hl : es.length ≤ 100)
  (h : ∀ p : Nat, p ≤ es.length → (∀ i e, p = i + 1 → es[i]? = some e → e.hi < x) → (∀ e, es[p]? = some e → x ≤ e.hi) → Q (.t (.int p)) σ) : WC Γ (n + 1) (.ref 456) [v, .t (.int x)] σ Q := by
 refine WC.go (fd := fd40) (H_fd40 W) [ofString "items", ofString "n"] rfl rfl (bind2 _ _ fun z' z' => rfl) rfl fun L => ?_
 try with_reducible intro E
 (refine WB.cons ?_; walk_at "q")
 walk_at "r"
 refine w_len_lst hv (by simp; lia) ?_
 rw [show ((es.map El.pv).map V.t).length = es.length by simp]
 walk_at "r"
 refine WWh.run (α := Nat × Nat) (fun a => [(ofString "items", v), (ofString "n", .t (.int x)), (ofString "low", .t (.int a.1)), (ofString "high", .t (.int a.2))])
  (fun a σ' => σ' = σ ∧ a.1 ≤ a.2 ∧ a.2 ≤ es.length ∧ (∀ i e, a.1 = i + 1 → es[i]? = some e → e.hi < x) ∧ (∀ e, es[a.2]? = some e → x ≤ e.hi)) (fun a => a.2 - a.1) ?_ es.length (0, es.length) σ (Nat.le_refl _) ⟨rfl, Nat.zero_le _, Nat.le_refl _, fun i e h => absurd h (by lia), fun e h => by simp at h⟩
 rintro ⟨l, g⟩ σ' ⟨rfl, h1, h2, h3, h4⟩
 dsimp only at h1 h2 h3 h4 ⊢
 walk_at "r"
 refine v_lt ?_
 refine ⟨_, rfl, ?_⟩
 cases hb : decide ((l : Int) < (g : Int)) with
 | true =>
  have hlt : l < g := by simpa using hb
  walk_at "r"
  refine v_add ?_
  walk_at "r"
  refine v_fdiv (by decide) (by decide) ?_
  have em : ((l : Int) + g).fdiv 2 = (((l + g) / 2 : Nat) : Int) := by rw [Int.fdiv_eq_ediv_of_nonneg _ (by decide)]; lia
  rw [em]
  have hm1 : l ≤ (l + g) / 2 := by lia
  have hm2 : (l + g) / 2 < g := by lia
  generalize (l + g) / 2 = m at *
  have hg : es[m]? = some es[m] := List.getElem?_eq_getElem (by lia)
  walk_at "r"
  refine g_lst hv (by lia) (by lia) (d := .t (es[m]).pv) (by simp [hg]) ?_
  refine ⟨_, _, _, _, _, ⟨rfl, rfl⟩, K_Element W, (A_Element W _ (.head _)).1, rfl, trivial, ?_⟩
  repeat walk_at "v"
  refine v_lt ?_
  refine ⟨_, rfl, ?_⟩
  cases hc : decide ((es[m]).hi < x) with
  | true =>
   have hc' : (es[m]).hi < x := by simpa using hc
   walk_at "r"
   refine v_add ?_
   walk_at "r"
   exact ⟨(m + 1, g), σ', by dsimp only; lia, less_append (e := [(ofString "middle", .t (.int m))]), Sto.le_refl _, rfl, by dsimp only; lia, h2, fun i e hi he => by
    dsimp only at hi
    obtain rfl : m = i := by lia
    rw [hg] at he; cases he; exact hc', h4⟩
  | false =>
   have hc' : x ≤ (es[m]).hi := by simpa using hc
   walk_at "r"
   exact ⟨(l, m), σ', by dsimp only; lia, less_append (e := [(ofString "middle", .t (.int m))]), Sto.le_refl _, rfl, hm1, by dsimp only; lia, h3, fun e he => by
    dsimp only at he
    rw [hg] at he; cases he; exact hc'⟩
 | false =>
  have hge : g ≤ l := by simpa using hb
  obtain rfl : l = g := by lia
  walk_at "r"
  exact ⟨_, Sto.le_refl _, h l h2 h3 h4⟩
end
noncomputable def thawV (σ : Sto) : V → V
 | .t d => .t d
 | .ref j => match σ j with
  | some (.frz d) => .t d
  | _ => .ref j
theorem thawV_ref {σ : Sto} {j : Nat} {d : PV} (h : σ j = some (.frz d)) : thawV σ (.ref j) = .t d := by show (match σ j with | some (.frz d) => V.t d | _ => V.ref j) = V.t d; rw [h]
section
variable {Γ : Cx} {K : Frag} {σ : Sto} {n : Nat} {env : Env} {ρ : Rho} {ν : List Addr} {g : Heap} {s : Shared}
theorem thawV_rep {v : Value} {d : V} (S : Sat Γ.prog Γ.w Γ.B σ ν g s) (r : RepV Γ.prog Γ.w ν g v d) : RepV Γ.prog Γ.w ν g v (thawV σ d) := by
 cases d with
 | t d => exact r
 | ref j =>
  unfold thawV
  dsimp only
  cases q : σ j with
  | none => exact r
  | some ao => cases ao with
   | frz d => exact frz_rep S q r
   | _ => exact r
set_option tactic.hygienic true in
theorem thawK {k : Nat} {f : Fla} {kvs : List (Key × V)} (S : Sat Γ.prog Γ.w Γ.B σ ν g s) (hk : σ k = some (.dct f kvs)) : Sat Γ.prog Γ.w Γ.B (upd σ k (.dct f (kvs.map fun p => (p.1, thawV σ p.2)))) ν g s := by
 refine ⟨S.base, S.sub, S.held, S.nd, fun i ao e => ?_, fun i a ao h1 h2 hl => ?_, fun i a ao h1 h2 => ?_⟩
 ·unfold upd at e
  split at e
  ·rename_i q; subst q; exact S.dom _ _ hk
  ·exact S.dom i ao e
 ·unfold upd at h2
  split at h2
  ·rename_i q; subst q; cases h2; exact S.off _ a _ h1 hk rfl
  ·exact S.off i a ao h1 h2 hl
 ·unfold upd at h2
  split at h2
  ·rename_i q
   subst q; cases h2
   obtain ⟨o, ho, z, es, m, e, hko, hr⟩ := S.own _ a _ h1 hk
   refine ⟨o, ho, z, es, m, e, hko.map fun z' => rfl, ?_⟩
   clear hko e hk ho
   induction hr with
   | nil => exact .nil
   | cons h r ih => exact .cons ⟨h.1, h.2.1, thawV_rep S h.2.2⟩ ih
  ·exact S.own i a ao h1 h2
theorem WB.thawK {sts : List Stmt} {Q : Fl → Rho → Sto → Prop} (k : Nat) {f : Fla} {kvs : List (Key × V)} (hk : σ k = some (.dct f kvs)) (h : WB Γ n env sts ρ (upd σ k (.dct f (kvs.map fun p => (p.1, thawV σ p.2)))) Q) : WB Γ n env sts ρ σ Q := fun A s ν g hA hT F S =>
 h A s ν g hA hT F (Mine.thawK S hk)
end
noncomputable def storeC (span : Bool) : Addr := if span then 529 else 445
noncomputable def storeK (span : Bool) : Key := if span then at_ "items" else at_ "table"
noncomputable def storeO (span : Bool) (es : List (Key × PV)) : AO := if span then .lst ((es.map (·.2)).map .t) else .dct .J (es.map fun p => (p.1, .t p.2))
noncomputable def storeP (span : Bool) (es : List (Key × PV)) : PV := .obj (storeC span) [(storeK span, if span then .lst (es.map (·.2)) else .dct .J es)]
noncomputable def bodyA (name : Str) (spec bits : PV) (store : V) : List (Key × V) := [(at_ "name", .t (.str name)), (at_ "spec", .t spec), (at_ "bits", .t bits), (at_ "handle", .t (.int 0)), (at_ "is_anonymous", .t (.bool false)), (at_ "is_bound", .t (.bool false)), (at_ "store", store)]
noncomputable def bodyP (name : Str) (spec bits : PV) (store : PV) : PV := .obj 698 [(at_ "name", .str name), (at_ "spec", spec), (at_ "bits", bits), (at_ "handle", .int 0), (at_ "is_anonymous", .bool false), (at_ "is_bound", .bool false), (at_ "store", store)]
structure StoreAt (σ₀ σ : Sto) (span : Bool) (s ks j : Nat) (kvs : List (Key × PV)) : Prop where
 le : Sto.le σ₀ σ
 es : σ s = some (.inst (storeC span) ks)
 eks : σ ks = some (.dct .S [(storeK span, .ref j)])
 ej : σ j = some (storeO span kvs)
 ns : σ₀ s = Option.none
 nks : σ₀ ks = Option.none
 nj : σ₀ j = Option.none
 d1 : s ≠ ks
 d2 : s ≠ j
 d3 : ks ≠ j
theorem le_new {σ : Sto} {i : Nat} {a : AO} (h : σ i = Option.none) : Sto.le σ (upd σ i a) := Sto.le_upd h
theorem none_le {σ₀ σ : Sto} {i : Nat} (l : Sto.le σ₀ σ) (h : σ i = Option.none) : σ₀ i = Option.none := by
 cases e : σ₀ i with
 | none => rfl
 | some ao => rw [l _ _ e] at h; cases h
theorem ne_none {σ : Sto} {i j : Nat} {a : AO} (h : upd σ i a j = Option.none) : j ≠ i := fun e => by subst e; rw [upd_self] at h; cases h
section
variable {Γ : Cx} {K : Frag} {σ : Sto} {n : Nat} {env : Env} {ρ : Rho}
theorem w_PlainStore (W : Wd Γ K) {Q : V → Sto → Prop} (h : ∀ σ' s ks j, StoreAt σ σ' false s ks j [] → Q (.ref s) σ') : WC Γ (n + 2) (.ref 445) [] σ Q := by
 refine WCc.wc (WC.cls (K_PlainStore W) (M_PlainStore W) (I_PlainStore W) (W.typeF 25 rfl) fun i k hi hk hik => ?_)
 refine WCc.go (fd := fd39m0) (H_fd39m0 W) [ofString "self"] rfl rfl (bind1 _ fun z' => rfl) rfl fun L => ?_
 try with_reducible intro E
 (refine WB.cons ?_; walk_at "q")
 walk_at "r"
 refine WE.dict0 (f := .J) fun j hj => ?_
 have jk : j ≠ k := fun e => by subst e; rw [upd_ne _ _ (Ne.symm hik), upd_self] at hj; cases hj
 have ji : j ≠ i := ne_none hj
 walk_at "r"
 refine ⟨_, _, _, i, k, _, rfl, upd_ne' (upd_self ..) ji.symm, upd_ne' (upd_ne' (upd_self ..) hik.symm) jk.symm, K_PlainStore W, (A_PlainStore W _ (.head _)).2, Nat.le_of_ble_eq_true rfl, ?_⟩
 walk_at "r"
 have n1 : σ j = Option.none := by rw [upd_ne _ _ ji, upd_ne _ _ jk] at hj; exact hj
 refine ⟨_, Sto.le_refl _, rfl, h _ i k j ⟨fun l o e => ?_, upd_ne' (upd_ne' (upd_self ..) ji.symm) hik, upd_self .., upd_ne' (upd_self ..) jk, hi, hk, n1, hik, ji.symm, jk.symm⟩⟩
 have h1 : l ≠ i := fun q => by subst q; rw [hi] at e; cases e
 have h2 : l ≠ k := fun q => by subst q; rw [hk] at e; cases e
 have h3 : l ≠ j := fun q => by subst q; rw [n1] at e; cases e
 rw [upd_ne _ _ h2, upd_ne _ _ h3, upd_ne _ _ h1, upd_ne _ _ h2]; exact e
theorem w_SpanStore (W : Wd Γ K) {Q : V → Sto → Prop} (h : ∀ σ' s ks j, StoreAt σ σ' true s ks j [] → Q (.ref s) σ') : WC Γ (n + 2) (.ref 529) [] σ Q := by
 refine WCc.wc (WC.cls (K_SpanStore W) (M_SpanStore W) (I_SpanStore W) (W.typeF 30 rfl) fun i k hi hk hik => ?_)
 refine WCc.go (fd := fd42m0) (H_fd42m0 W) [ofString "self"] rfl rfl (bind1 _ fun z' => rfl) rfl fun L => ?_
 try with_reducible intro E
 (refine WB.cons ?_; walk_at "q")
 walk_at "r"
 refine WE.list ?_
 walk_at "r"
 refine ⟨by simp, fun j hj => ?_⟩
 have jk : j ≠ k := fun e => by subst e; rw [upd_ne _ _ (Ne.symm hik), upd_self] at hj; cases hj
 have ji : j ≠ i := ne_none hj
 walk_at "r"
 refine ⟨_, _, _, i, k, _, rfl, upd_ne' (upd_self ..) ji.symm, upd_ne' (upd_ne' (upd_self ..) hik.symm) jk.symm, K_SpanStore W, (A_SpanStore W _ (.head _)).2, Nat.le_of_ble_eq_true rfl, ?_⟩
 walk_at "r"
 have n1 : σ j = Option.none := by rw [upd_ne _ _ ji, upd_ne _ _ jk] at hj; exact hj
 refine ⟨_, Sto.le_refl _, rfl, h _ i k j ⟨fun l o e => ?_, upd_ne' (upd_ne' (upd_self ..) ji.symm) hik, upd_self .., upd_ne' (upd_self ..) jk, hi, hk, n1, hik, ji.symm, jk.symm⟩⟩
 have h1 : l ≠ i := fun q => by subst q; rw [hi] at e; cases e
 have h2 : l ≠ k := fun q => by subst q; rw [hk] at e; cases e
 have h3 : l ≠ j := fun q => by subst q; rw [n1] at e; cases e
 rw [upd_ne _ _ h2, upd_ne _ _ h3, upd_ne _ _ h1, upd_ne _ _ h2]; exact e
end
noncomputable abbrev El.ent (e : El) : Key × PV := (.tI [e.lo], e.pv)
theorem lookup_absent {α : Type} {kvs : List (Key × α)} {k : Key} (h : ∀ p ∈ kvs, p.1 ≠ k) : kvs.lookup k = Option.none := lookup_none fun hm => by
 obtain ⟨p, hp, e⟩ := List.mem_map.mp hm
 exact h p hp e
theorem StoreAt.set {σ₀ σ : Sto} {span : Bool} {s ks j : Nat} {a b : List (Key × PV)} (h : StoreAt σ₀ σ span s ks j a) : StoreAt σ₀ (upd σ j (storeO span b)) span s ks j b :=
 ⟨fun i o e => by
  have : i ≠ j := fun q => by subst q; rw [h.nj] at e; cases e
  rw [upd_ne _ _ this]; exact h.le i o e, upd_ne' h.es h.d2, upd_ne' h.eks h.d3, upd_self .., h.ns, h.nks, h.nj, h.d1, h.d2, h.d3⟩
section
variable {Γ : Cx} {K : Frag} {σ : Sto} {n : Nat} {env : Env} {ρ : Rho}
theorem w_plain_find (W : Wd Γ K) {σ₀ : Sto} {s ks j : Nat} {kvs : List (Key × PV)} {k now : Int} {Q : V → Sto → Prop} (hs : StoreAt σ₀ σ false s ks j kvs) (hk : ∀ p ∈ kvs, p.1 ≠ .tI [k]) (h : Q (.t .none) σ) :
  WC Γ (n + 1) (.ref 414) [.ref s, .t (.tup [.int k]), .t (.int now)] σ Q := by
 refine WC.go (fd := fd39m3) (H_fd39m3 W) [ofString "self", ofString "key", ofString "now"] rfl rfl (bind3 _ _ _ fun z' z' z' => rfl) rfl fun L => ?_
 try with_reducible intro E
 (refine WB.cons ?_; walk_at "q")
 walk_at "r"
 refine ⟨_, _, _, _, _, ⟨ks, hs.es, hs.eks⟩, K_PlainStore W, (A_PlainStore W _ (.head _)).1, rfl, trivial, ?_⟩
 refine ⟨BTy.dct hs.ej, ?_⟩
 walk_at "r"
 refine w_get1 (.tI [k]) (o := .ref j) hs.ej rfl ?_
 have hl : (kvs.map fun p => (p.1, V.t p.2)).lookup (.tI [k]) = Option.none := by
  refine lookup_absent fun p hp e => ?_
  obtain ⟨q, hq, rfl⟩ := List.mem_map.mp hp
  exact hk q hq e
 rw [hl]
 walk_at "r"
 refine v_is (by intro u h; cases h) ⟨true, rfl, ?_⟩
 walk_at "r"
 exact ⟨_, Sto.le_refl _, h⟩
theorem w_plain_put (W : Wd Γ K) {σ₀ : Sto} {s ks j : Nat} {es : List El} {e : El} {Q : V → Sto → Prop} (hs : StoreAt σ₀ σ false s ks j (es.map El.ent)) (he : e.lo = e.hi) (hz : e.lo.natAbs < 1000) (hk : ∀ d ∈ es, d.lo ≠ e.lo) (hl : es.length ≤ 100)
  (h : ∀ σ', StoreAt σ₀ σ' false s ks j ((es ++ [e]).map El.ent) → Q (.t .none) σ') : WC Γ (n + 3) (.ref 400) [.ref s, .t e.pv, .t (.int 0)] σ Q := by
 refine WC.go (fd := fd39m1) (H_fd39m1 W) [ofString "self", ofString "element", ofString "now"] rfl rfl (bind3 _ _ _ fun z' z' z' => rfl) rfl fun L => ?_
 try with_reducible intro E
 (refine WB.cons ?_; walk_at "q")
 walk_at "r"
 refine ⟨_, _, _, _, _, ⟨rfl, rfl⟩, K_Element W, (A_Element W _ (.head _)).1, rfl, trivial, ?_⟩
 walk_at "r"
 refine w_single_key W hz (by lia) ?_
 rw [if_pos he]
 walk_at "r"
 refine v_is (by intro u h; cases h) ⟨false, rfl, ?_⟩
 walk_at "r"
 refine WE.methn ?_ rfl rfl rfl rfl rfl
 walk_at "r"
 refine ⟨_, _, _, _, _, ⟨ks, hs.es, hs.eks⟩, K_PlainStore W, P_PlainStore W _ (.tail _ (.head _)), W.typeF 27 rfl, W.keepF 27 rfl, rfl, ?_⟩
 have hk' : ∀ p ∈ es.map El.ent, p.1 ≠ .tI [e.lo] := fun p hp q => by
  obtain ⟨d, hd, rfl⟩ := List.mem_map.mp hp
  injection q with q
  exact hk d hd (by injection q)
 walk_at "r"
 refine w_plain_find W hs hk' ?_
 walk_at "r"
 refine v_isnot (by intro u h; cases h) ⟨false, rfl, ?_⟩
 walk_at "r"
 refine ⟨_, _, _, _, _, ⟨ks, hs.es, hs.eks⟩, K_PlainStore W, (A_PlainStore W _ (.head _)).1, rfl, trivial, ?_⟩
 walk_at "r"
 refine s_dct (.tI [e.lo]) hs.ej rfl (by simp; lia) ?_
 walk_at "r"
 have ek : kput ((es.map El.ent).map fun p => (p.1, V.t p.2)) (.tI [e.lo]) (.t e.pv) = ((es ++ [e]).map El.ent).map fun p => (p.1, V.t p.2) := by
  rw [kput_map, kput_new (fun hm => by
   obtain ⟨p, hp, q⟩ := List.mem_map.mp hm
   exact hk' p hp q)]
  exact congrArg _ (show es.map El.ent ++ [e.ent] = (es ++ [e]).map El.ent by rw [List.map_append]; rfl)
 rw [ek]
 exact ⟨_, Sto.le_refl _, h _ (hs.set (b := (es ++ [e]).map El.ent))⟩
end
def El.fit (a b : El) : Prop := a.hi < b.lo
set_option tactic.hygienic true in
theorem ins_fit {es : List El} {e : El} {p : Nat} (hp : p ≤ es.length) (hs : es.Pairwise El.fit) (ho : ∀ d ∈ es, d.lo ≤ d.hi) (he : e.lo ≤ e.hi) (hd : ∀ d ∈ es, d.hi < e.lo ∨ e.hi < d.lo) (h1 : ∀ i d, p = i + 1 → es[i]? = some d → d.hi < e.lo) (h2 : ∀ d, es[p]? = some d → e.lo ≤ d.hi) :
  (es.take p ++ e :: es.drop p).Pairwise El.fit := by
 have hg : ∀ (i j : Nat) (a b : El), i < j → es[i]? = some a → es[j]? = some b → a.hi < b.lo := fun i j a b hij ha hb => by
  obtain ⟨hi, rfl⟩ := List.getElem?_eq_some_iff.mp ha
  obtain ⟨hj, rfl⟩ := List.getElem?_eq_some_iff.mp hb
  exact List.pairwise_iff_getElem.mp hs i j hi hj hij
 have hlow : ∀ (i : Nat) (a : El), i < p → es[i]? = some a → a.hi < e.lo := fun i a hi ha => by
  have hm := List.mem_of_getElem? ha
  rcases hd a hm with q | q
  ·exact q
  ·by_cases hip : i + 1 = p
   ·exact h1 i a hip.symm ha
   ·obtain ⟨m, rfl⟩ : ∃ m, p = m + 1 := ⟨p - 1, by lia⟩
    have hb : es[m]? = some es[m] := List.getElem?_eq_getElem (by lia)
    have := hg i m a _ (by lia) ha hb
    have := h1 m _ rfl hb
    have := ho _ (List.mem_of_getElem? hb)
    have := ho _ hm
    lia
 have hhigh : ∀ (i : Nat) (b : El), p ≤ i → es[i]? = some b → e.hi < b.lo := fun i b hi hb => by
  have hil : i < es.length := (List.getElem?_eq_some_iff.mp hb).1
  have hc : es[p]? = some es[p] := List.getElem?_eq_getElem (by lia)
  have c1 := h2 _ hc
  have c2 : e.hi < es[p].lo := by
   rcases hd _ (List.mem_of_getElem? hc) with q | q
   ·lia
   ·exact q
  by_cases hip : p = i
  ·subst hip; rw [hc] at hb; cases hb; exact c2
  ·have := hg p i _ b (by lia) hc hb
   have := ho _ (List.mem_of_getElem? hc)
   lia
 have mt : ∀ a ∈ es.take p, a.hi < e.lo := fun a ha => by
  obtain ⟨i, hi⟩ := List.getElem?_of_mem ha
  rw [List.getElem?_take] at hi
  split at hi
  ·rename_i q; exact hlow i a q hi
  ·cases hi
 have md : ∀ b ∈ es.drop p, e.hi < b.lo := fun b hb => by
  obtain ⟨i, hi⟩ := List.getElem?_of_mem hb
  rw [List.getElem?_drop] at hi
  exact hhigh _ b (by lia) hi
 refine List.pairwise_append.mpr ⟨hs.sublist (List.take_sublist _ _), List.pairwise_cons.mpr ⟨md, hs.sublist (List.drop_sublist _ _)⟩, fun a ha b hb => ?_⟩
 rcases List.mem_cons.mp hb with rfl | hb
 ·exact mt a ha
 ·have := mt a ha
  have := md b hb
  show a.hi < b.lo
  lia
section
variable {Γ : Cx} {K : Frag} {σ : Sto} {n : Nat} {env : Env} {ρ : Rho}
theorem w_span_put (W : Wd Γ K) {σ₀ : Sto} {s ks j : Nat} {es : List El} {e : El} {Q : V → Sto → Prop} (hs : StoreAt σ₀ σ true s ks j (es.map El.ent)) (hf : es.Pairwise El.fit) (ho : ∀ d ∈ es, d.lo ≤ d.hi) (he : e.lo ≤ e.hi) (hd : ∀ d ∈ es, d.hi < e.lo ∨ e.hi < d.lo) (hl : es.length ≤ 100)
  (h : ∀ σ' (es' : List El), es'.Perm (e :: es) → es'.Pairwise El.fit → StoreAt σ₀ σ' true s ks j (es'.map El.ent) → Q (.t .none) σ') : WC Γ (n + 3) (.ref 484) [.ref s, .t e.pv, .t (.int 0)] σ Q := by
 refine WC.go (fd := fd42m1) (H_fd42m1 W) [ofString "self", ofString "element", ofString "now"] rfl rfl (bind3 _ _ _ fun z' z' z' => rfl) rfl fun L => ?_
 try with_reducible intro E
 have hj : σ j = some (.lst ((es.map El.pv).map .t)) := by rw [hs.ej]; show some (AO.lst (((es.map El.ent).map (·.2)).map V.t)) = _; rw [List.map_map (f := El.ent)]; rfl
 have ob : ∃ k, σ s = some (.inst 529 k) ∧ σ k = some (.dct .S [(at_ "items", .ref j)]) := ⟨ks, hs.es, hs.eks⟩
 (refine WB.cons ?_; walk_at "q")
 walk_at "r"
 refine ⟨_, _, _, _, _, ⟨rfl, rfl⟩, K_Element W, (A_Element W _ (.head _)).1, rfl, trivial, ?_⟩
 repeat walk_at "v"
 refine ⟨_, _, _, _, _, ob, K_SpanStore W, (A_SpanStore W _ (.head _)).1, rfl, trivial, ?_⟩
 walk_at "r"
 refine w_place_in W (v := .ref j) hj hl fun p hp h1 h2 => ?_
 walk_at "r"
 have stop : ∀ d, es[p]? = some d → e.hi < d.lo := fun d hd' => by
  have a1 := h2 d hd'
  rcases hd d (List.mem_of_getElem? hd') with q | q
  ·lia
  ·exact q
 refine WWh.step ?_
 walk_at "r"
 refine ⟨_, _, _, _, _, ob, K_SpanStore W, (A_SpanStore W _ (.head _)).1, rfl, trivial, ?_⟩
 walk_at "r"
 refine w_len_lst (v := .ref j) hj (by simp; lia) ?_
 rw [show ((es.map El.pv).map V.t).length = es.length by simp]
 refine v_lt ⟨_, rfl, ?_⟩
 cases hb : decide ((p : Int) < (es.length : Int)) with
 | true =>
  have hlt : p < es.length := by simpa using hb
  have hgp : es[p]? = some es[p] := List.getElem?_eq_getElem hlt
  walk_at "r"
  refine ⟨_, _, _, _, _, ob, K_SpanStore W, (A_SpanStore W _ (.head _)).1, rfl, trivial, ?_⟩
  walk_at "r"
  refine g_lst (v := .ref j) hj (by lia) (by lia) (d := .t (es[p]).pv) (by simp [hgp]) ?_
  refine ⟨_, _, _, _, _, ⟨rfl, rfl⟩, K_Element W, (A_Element W _ (.head _)).1, rfl, trivial, ?_⟩
  repeat walk_at "v"
  have := stop _ hgp
  refine v_le ⟨false, by simp; lia, ?_⟩
  walk_at "r"
  refine v_gt ⟨false, by simp, ?_⟩
  walk_at "r"
  refine WE.methBn (name := ofString "insert") (T := "list") (id := "list.insert") PySem.F.plainAttrs_list PySem.F.slot_list_insert PySem.F.type_list_insert ?_ rfl rfl rfl rfl rfl
  walk_at "r"
  refine ⟨_, _, _, _, _, ob, K_SpanStore W, (A_SpanStore W _ (.head _)).1, rfl, trivial, ?_⟩
  refine ⟨BTy.lst (v := .ref j) hj, ?_⟩
  walk_at "r"
  refine w_insert hj (by lia) (by simp; lia) (by simp; lia) ?_
  walk_at "r"
  have ek : ((es.map El.pv).map V.t).take (p : Int).toNat ++ V.t e.pv :: ((es.map El.pv).map V.t).drop (p : Int).toNat = (((es.take p ++ e :: es.drop p).map El.ent).map (·.2)).map V.t := by
   rw [List.map_map (f := El.ent)]
   simp [List.map_take, List.map_drop]; rfl
  rw [ek]
  exact ⟨_, Sto.le_refl _, h _ (es.take p ++ e :: es.drop p) (List.perm_middle.trans (by rw [List.take_append_drop])) (ins_fit hp hf ho he hd h1 h2) (hs.set (b := (es.take p ++ e :: es.drop p).map El.ent))⟩
 | false =>
  walk_at "r"
  refine v_gt ⟨false, by simp, ?_⟩
  walk_at "r"
  refine WE.methBn (name := ofString "insert") (T := "list") (id := "list.insert") PySem.F.plainAttrs_list PySem.F.slot_list_insert PySem.F.type_list_insert ?_ rfl rfl rfl rfl rfl
  walk_at "r"
  refine ⟨_, _, _, _, _, ob, K_SpanStore W, (A_SpanStore W _ (.head _)).1, rfl, trivial, ?_⟩
  refine ⟨BTy.lst (v := .ref j) hj, ?_⟩
  walk_at "r"
  refine w_insert hj (by lia) (by simp; lia) (by simp; lia) ?_
  walk_at "r"
  have ek : ((es.map El.pv).map V.t).take (p : Int).toNat ++ V.t e.pv :: ((es.map El.pv).map V.t).drop (p : Int).toNat = (((es.take p ++ e :: es.drop p).map El.ent).map (·.2)).map V.t := by
   rw [List.map_map (f := El.ent)]
   simp [List.map_take, List.map_drop]; rfl
  rw [ek]
  exact ⟨_, Sto.le_refl _, h _ (es.take p ++ e :: es.drop p) (List.perm_middle.trans (by rw [List.take_append_drop])) (ins_fit hp hf ho he hd h1 h2) (hs.set (b := (es.take p ++ e :: es.drop p).map El.ent))⟩
end
theorem perm_pull {α β : Type} {f : α → β} {l m : List β} (h : l.Perm m) : ∀ es : List α, m = es.map f → ∃ es' : List α, es'.Perm es ∧ l = es'.map f := by
 induction h with
 | nil => intro es e; cases es with
  | nil => exact ⟨[], .refl _, rfl⟩
  | cons _ _ => cases e
 | cons x h ih => intro es e; cases es with
  | nil => cases e
  | cons a r =>
   have q2 := (List.cons.inj e).2
   have q1 := (List.cons.inj e).1
   subst q1
   obtain ⟨r', hp, he⟩ := ih r q2
   exact ⟨a :: r', hp.cons a, by rw [List.map_cons, he]⟩
 | swap x y l => intro es e; cases es with
  | nil => cases e
  | cons a r => cases r with
   | nil => cases (List.cons.inj e).2
   | cons b r =>
    have q1 := (List.cons.inj e).1
    have q2 := (List.cons.inj (List.cons.inj e).2).1
    have q3 := (List.cons.inj (List.cons.inj e).2).2
    subst q1 q2
    exact ⟨b :: a :: r, .swap .., by rw [q3]; rfl⟩
 | trans _ _ ih1 ih2 =>
  intro es e
  obtain ⟨es1, p1, e1⟩ := ih2 es e
  obtain ⟨es2, p2, e2⟩ := ih1 es1 e1
  exact ⟨es2, p2.trans p1, e2⟩
section
variable {Γ : Cx} {K : Frag} {σ : Sto} {n : Nat} {env : Env} {ρ : Rho}
theorem w_span_elements (W : Wd Γ K) {es : List El} {Q : V → Sto → Prop} (hl : es.length ≤ 100) (h : Q (.t (.lst (es.map El.pv))) σ) : WC Γ (n + 1) (.ref 512) [.t (storeP true (es.map El.ent))] σ Q := by
 refine WC.go (fd := fd42m5) (H_fd42m5 W) [ofString "self"] rfl rfl (bind1 _ fun z' => rfl) rfl fun L => ?_
 try with_reducible intro E
 have e1 : (es.map El.ent).map (·.2) = es.map El.pv := by rw [List.map_map]; rfl
 (refine WB.cons ?_; walk_at "q")
 walk_at "r"
 refine ⟨_, _, _, _, _, ⟨rfl, rfl⟩, K_SpanStore W, (A_SpanStore W _ (.head _)).1, rfl, trivial, ?_⟩
 walk_at "r"
 refine w_list (xs := es.map El.pv) (by show _ = _; rw [← e1]) (by simp; lia) ?_
 exact ⟨_, Sto.le_refl _, h⟩
theorem w_plain_elements (W : Wd Γ K) {es : List El} {Q : V → Sto → Prop} (h6 : es.length ≤ 6) (hn : (es.map El.lo).Nodup) (h : ∀ es' : List El, es'.Perm es → es'.Pairwise (fun a b => a.lo < b.lo) → Q (.t (.lst (es'.map El.pv))) σ) :
  WC Γ (n + 1) (.ref 428) [.t (storeP false (es.map El.ent))] σ Q := by
 refine WC.go (fd := fd39m5) (H_fd39m5 W) [ofString "self"] rfl rfl (bind1 _ fun z' => rfl) rfl fun L => ?_
 try with_reducible intro E
 (refine WB.cons ?_; walk_at "q")
 walk_at "r"
 refine WE.list ?_
 walk_at "r"
 refine ⟨by simp, fun j hj => ?_⟩
 walk_at "r"
 refine WIt.lst ?_
 walk_at "r"
 refine ⟨_, _, _, _, _, ⟨rfl, rfl⟩, K_PlainStore W, (A_PlainStore W _ (.head _)).1, rfl, trivial, ?_⟩
 walk_at "r"
 have hd : ∀ σ', DctV σ' (.t (.dct .J (es.map El.ent))) .J ((es.map El.ent).map fun p => (p.1, V.t p.2)) := fun σ' => ⟨rfl, rfl⟩
 refine w_sortedD (α := Int) (embK := fun k => .tI [k]) (ks := es.map El.lo) stoZ hn (by simpa using h6) (hd _) (by simp [List.map_map, Function.comp_def]) (fun h2 g s vs sub hr => cmp_keys sub hr h2) fun ks' hp hs => ?_
 obtain ⟨es', hp', rfl⟩ := perm_pull hp es rfl
 refine ⟨_, rfl, ?_⟩
 refine WFor.over (fun e => (Key.tI [e.lo]).pv) (fun (dn : List El) => upd σ j (.lst ((dn.map El.pv).map .t))) es' (fun dn e ur e0 => ?_) ?_ (by rw [List.map_map]; rfl) rfl
 ·try clear Qt
  try with_reducible intro rt Qt
  have hm : e ∈ es := hp'.mem_iff.mp (by rw [e0]; simp)
  have hlk : ((es.map El.ent).map fun p => (p.1, V.t p.2)).lookup (.tI [e.lo]) = some (.t e.pv) := by
   obtain ⟨i, hi⟩ := List.getElem?_of_mem hm
   refine lookup_of_get (j := i) ?_ (by simp [hi])
   have : (((es.map El.ent).map fun p => (p.1, V.t p.2)).map (·.1)) = (es.map El.lo).map fun k => Key.tI [k] := by simp [List.map_map, Function.comp_def]
   rw [this]
   exact List.Pairwise.map _ (fun a b q q2 => q (by injection q2 with q2; injection q2)) hn
  have hlen : dn.length ≤ 6 := by
   have := hp'.length_eq
   rw [e0, List.length_append] at this
   lia
  walk_at "r"
  refine ⟨BTy.lst (v := .ref j) (upd_self ..), ?_⟩
  walk_at "r"
  refine ⟨_, _, _, _, _, ⟨rfl, rfl⟩, K_PlainStore W, (A_PlainStore W _ (.head _)).1, rfl, trivial, ?_⟩
  walk_at "r"
  refine g_dct (.tI [e.lo]) (hd _) rfl hlk ?_
  walk_at "r"
  refine w_append (upd_self ..) (by simp; lia) ?_
  rw [upd_upd]
  walk_at "r"
  exact ⟨lookup_put_new rfl, _, Sto.le_refl _, by simp⟩
 ·refine WB.froze hj ?_
  walk_at "r"
  exact ⟨_, Sto.le_refl _, h es' hp' (by
   rw [List.pairwise_map] at hs
   exact hs.imp fun q => by simpa [ltZ] using q)⟩
end
noncomputable abbrev specP (span : Bool) : PV := .tup [.tup [pS "mark"], pS "verdict", .tup (if span then [pS "interval"] else []), .int 0, .int 0, .bool false]
noncomputable abbrev bitsP : PV := .tup [.int 32]
noncomputable def bodyS (σ : Sto) (b kb : Nat) (name : Str) (span : Bool) (s : Nat) : Sto := upd (upd σ kb (.dct .S (bodyA name (specP span) bitsP (.ref s)))) b (.inst 698 kb)
section
variable {Γ : Cx} {K : Frag} {σ : Sto} {n : Nat} {env : Env} {ρ : Rho}
theorem w_new_store (W : Wd Γ K) {span : Bool} {Q : V → Sto → Prop} (h : ∀ σ' s ks j, StoreAt σ σ' span s ks j [] → Q (.ref s) σ') : WC Γ (n + 3) (.ref 674) [.t (specP span), .t bitsP] σ Q := by
 refine WC.go (fd := fd53) (H_fd53 W) [ofString "spec", ofString "bits"] rfl rfl (bind2 _ _ fun z' z' => rfl) rfl fun L => ?_
 try with_reducible intro E
 (refine WB.cons ?_; walk_at "q")
 repeat walk_at "v"
 cases span with
 | false =>
  refine v_notinT 1 (d := pS "interval") (xs := []) (by simp only [PV.ok]; decide +kernel) rfl fun c hc => ?_
  cases c with
  | true =>
   refine ⟨_, rfl, ?_⟩
   walk_at "r"
   refine WE.call0 (G_PlainStore W) (C_PlainStore W) ?_
   exact w_PlainStore W fun σ' s ks j hs => ⟨_, Sto.le_refl _, h σ' s ks j hs⟩
  | false => simp at hc
 | true =>
  refine v_notinT 1 (d := pS "interval") (xs := [pS "interval"]) (by simp only [PV.oks, PV.ok]; decide +kernel) (by simp only [PV.oks, PV.ok]; decide +kernel) fun c hc => ?_
  cases c with
  | true => simp at hc
  | false =>
   refine ⟨_, rfl, ?_⟩
   walk_at "r"
   refine w_len_tup (by decide) ?_
   walk_at "r"
   refine v_eq ⟨true, rfl, ?_⟩
   walk_at "r"
   refine WE.call0 (G_SpanStore W) (C_SpanStore W) ?_
   exact w_SpanStore W fun σ' s ks j hs => ⟨_, Sto.le_refl _, h σ' s ks j hs⟩
theorem w_SetBody (W : Wd Γ K) {span : Bool} {name : Str} {Q : V → Sto → Prop} (h : ∀ b kb σ' s ks j, σ b = Option.none → σ kb = Option.none → b ≠ kb → StoreAt (bodyS σ b kb name span s) σ' span s ks j [] → Q (.ref b) σ') : WC Γ (n + 5) (.ref 698) [.t (.str name), .t (specP span), .t bitsP] σ Q := by
 refine WCc.wc (WC.cls (K_SetBody W) (M_SetBody W) (I_SetBody W) (W.typeF 34 rfl) fun i k hi hk hik => ?_)
 refine WCc.go (fd := fd54m0) (H_fd54m0 W) [ofString "self", ofString "name", ofString "spec", ofString "bits"] rfl rfl (bind4 _ _ _ _ fun z' z' z' z' => rfl) rfl fun L => ?_
 try with_reducible intro E
 (refine WB.cons ?_; walk_at "q")
 walk_at "r"
 refine ⟨_, _, _, i, k, _, rfl, upd_self .., upd_ne' (upd_self ..) (Ne.symm hik), K_SetBody W, (A_SetBody W _ (.head _)).2, Nat.le_of_ble_eq_true rfl, ?_⟩
 rw [obj_upd hik]
 walk_at "r"
 refine ⟨_, _, _, i, k, _, rfl, upd_self .., upd_ne' (upd_self ..) (Ne.symm hik), K_SetBody W, (A_SetBody W _ (.tail _ (.head _))).2, Nat.le_of_ble_eq_true rfl, ?_⟩
 rw [obj_upd hik]
 walk_at "r"
 refine ⟨_, _, _, i, k, _, rfl, upd_self .., upd_ne' (upd_self ..) (Ne.symm hik), K_SetBody W, (A_SetBody W _ (.tail _ (.tail _ (.head _)))).2, Nat.le_of_ble_eq_true rfl, ?_⟩
 rw [obj_upd hik]
 walk_at "r"
 refine ⟨_, _, _, i, k, _, rfl, upd_self .., upd_ne' (upd_self ..) (Ne.symm hik), K_SetBody W, (A_SetBody W _ (.tail _ (.tail _ (.tail _ (.head _))))).2, Nat.le_of_ble_eq_true rfl, ?_⟩
 rw [obj_upd hik]
 walk_at "r"
 refine ⟨_, _, _, i, k, _, rfl, upd_self .., upd_ne' (upd_self ..) (Ne.symm hik), K_SetBody W, (A_SetBody W _ (.tail _ (.tail _ (.tail _ (.tail _ (.head _)))))).2, Nat.le_of_ble_eq_true rfl, ?_⟩
 rw [obj_upd hik]
 walk_at "r"
 refine ⟨_, _, _, i, k, _, rfl, upd_self .., upd_ne' (upd_self ..) (Ne.symm hik), K_SetBody W, (A_SetBody W _ (.tail _ (.tail _ (.tail _ (.tail _ (.tail _ (.head _))))))).2, Nat.le_of_ble_eq_true rfl, ?_⟩
 rw [obj_upd hik]
 walk_at "r"
 refine w_new_store W fun σ' s ks j hs => ?_
 walk_at "r"
 have c1 := hs.le i _ (upd_self ..)
 have c2 := hs.le k _ (upd_ne' (upd_self ..) (Ne.symm hik))
 refine ⟨_, _, _, i, k, _, rfl, c1, c2, K_SetBody W, (A_SetBody W _ (.tail _ (.tail _ (.tail _ (.tail _ (.tail _ (.tail _ (.head _)))))))).2, Nat.le_of_ble_eq_true rfl, ?_⟩
 walk_at "r"
 have x1 : s ≠ k := fun q => by have := hs.ns; rw [q, upd_ne _ _ (Ne.symm hik), upd_self] at this; cases this
 have x2 : ks ≠ k := fun q => by have := hs.nks; rw [q, upd_ne _ _ (Ne.symm hik), upd_self] at this; cases this
 have x3 : j ≠ k := fun q => by have := hs.nj; rw [q, upd_ne _ _ (Ne.symm hik), upd_self] at this; cases this
 have y1 : s ≠ i := ne_none hs.ns
 have y2 : ks ≠ i := ne_none hs.nks
 have y3 : j ≠ i := ne_none hs.nj
 have z1 := hs.ns; rw [upd_ne _ _ y1, upd_ne _ _ x1] at z1
 have z2 := hs.nks; rw [upd_ne _ _ y2, upd_ne _ _ x2] at z2
 have z3 := hs.nj; rw [upd_ne _ _ y3, upd_ne _ _ x3] at z3
 refine ⟨_, Sto.le_refl _, rfl, h i k _ s ks j hi hk hik ⟨fun l o e => ?_, upd_ne' hs.es x1, upd_ne' hs.eks x2, upd_ne' hs.ej x3, ?_, ?_, ?_, hs.d1, hs.d2, hs.d3⟩⟩
 ·unfold bodyS at e
  by_cases ql : l = k
  ·subst ql
   rw [upd_ne _ _ (Ne.symm hik), upd_self] at e
   rw [upd_self]; exact e
  ·rw [upd_ne _ _ ql]
   refine hs.le l o ?_
   by_cases qi : l = i
   ·subst qi; rw [upd_self] at e ⊢; exact e
   ·rw [upd_ne _ _ qi, upd_ne _ _ ql] at e ⊢; exact e
 ·unfold bodyS; rw [upd_ne _ _ y1, upd_ne _ _ x1]; exact z1
 ·unfold bodyS; rw [upd_ne _ _ y2, upd_ne _ _ x2]; exact z2
 ·unfold bodyS; rw [upd_ne _ _ y3, upd_ne _ _ x3]; exact z3
end
section
variable {Γ : Cx} {K : Frag} {σ : Sto} {n : Nat} {env : Env} {ρ : Rho}
theorem WB.frzC {sts : List Stmt} {Q : Fl → Rho → Sto → Prop} (j : Nat) {span : Bool} {kvs : List (Key × PV)} (hj : σ j = some (storeO span kvs)) (h : WB Γ n env sts ρ (upd σ j (.frz (if span then .lst (kvs.map (·.2)) else .dct .J kvs))) Q) : WB Γ n env sts ρ σ Q := by
 cases span with
 | true => exact WB.frzL j hj h
 | false => exact WB.frzD j hj h
set_option tactic.hygienic true in
theorem WB.frzBody {sts : List Stmt} {Q : Fl → Rho → Sto → Prop} {y name : Str} {span : Bool} {σ' : Sto} {b kb s ks j : Nat} {kvs : List (Key × PV)} (hs : StoreAt (bodyS σ b kb name span s) σ' span s ks j kvs) (hb : σ b = Option.none) (hkb : σ kb = Option.none) (hd : b ≠ kb)
  (h : WB Γ n env sts (put ρ y (.t (bodyP name (specP span) bitsP (storeP span kvs)))) σ Q) : WB Γ n env sts (put ρ y (.ref b)) σ' Q := by
 have c1 : bodyS σ b kb name span s b = some (.inst 698 kb) := upd_self ..
 have c2 : bodyS σ b kb name span s kb = some (.dct .S (bodyA name (specP span) bitsP (.ref s))) := upd_ne' (upd_self ..) hd.symm
 have b1 := hs.le _ _ c1
 have b2 := hs.le _ _ c2
 have bs : b ≠ s := ne_of_none c1 hs.ns
 have bks : b ≠ ks := ne_of_none c1 hs.nks
 have bj : b ≠ j := ne_of_none c1 hs.nj
 have kbs : kb ≠ s := ne_of_none c2 hs.ns
 have kbks : kb ≠ ks := ne_of_none c2 hs.nks
 have kbj : kb ≠ j := ne_of_none c2 hs.nj
 refine WB.frzC j hs.ej ?_
 refine WB.thawK ks (upd_ne' hs.eks hs.d3) ?_
 have t1 : ([(storeK span, V.ref j)].map fun p => (p.1, thawV (upd σ' j (.frz (if span then .lst (kvs.map (·.2)) else .dct .J kvs))) p.2)) = [(storeK span, if span then .lst (kvs.map (·.2)) else .dct .J kvs)].map fun p => (p.1, V.t p.2) := by
  show [(storeK span, thawV _ (.ref j))] = _
  rw [thawV_ref (upd_self ..)]; rfl
 rw [t1]
 refine WB.frzO s ks (upd_ne' (upd_ne' hs.es hs.d2) hs.d1) (upd_self ..) ?_
 rw [upd_upd]
 refine WB.thawK kb (upd_ne' (upd_ne' (upd_ne' b2 kbj) kbks) kbs) ?_
 generalize hσ : upd (upd (upd σ' j (.frz (if span then .lst (kvs.map (·.2)) else .dct .J kvs))) ks (.frz (.dct .S [(storeK span, if span then .lst (kvs.map (·.2)) else .dct .J kvs)]))) s (.frz (.obj (storeC span) [(storeK span, if span then .lst (kvs.map (·.2)) else .dct .J kvs)])) = σ₃
 have g1 : σ₃ s = some (.frz (storeP span kvs)) := by rw [← hσ, upd_self]; rfl
 have g2 : σ₃ b = some (.inst 698 kb) := by rw [← hσ]; exact upd_ne' (upd_ne' (upd_ne' b1 bj) bks) bs
 have g3 : ∀ i, i ≠ j → i ≠ ks → i ≠ s → σ₃ i = σ' i := fun i a b c => by rw [← hσ, upd_ne _ _ c, upd_ne _ _ b, upd_ne _ _ a]
 have t2 : ((bodyA name (specP span) bitsP (.ref s)).map fun p => (p.1, thawV σ₃ p.2)) = ([(at_ "name", .str name), (at_ "spec", specP span), (at_ "bits", bitsP), (at_ "handle", .int 0), (at_ "is_anonymous", .bool false), (at_ "is_bound", .bool false), (at_ "store", storeP span kvs)] : List (Key × PV)).map fun p => (p.1, V.t p.2) := by
  show [_, _, _, _, _, _, (at_ "store", thawV σ₃ (.ref s))] = _
  rw [thawV_ref g1]; rfl
 rw [t2]
 refine WB.frzO b kb (upd_ne' g2 hd) (upd_self ..) ?_
 rw [upd_upd]
 refine WB.thaw y (i := b) (d := bodyP name (specP span) bitsP (storeP span kvs)) (by rw [lookup_put, if_pos rfl]) (upd_self ..) (WB.le (σ' := σ) (fun i o e => ?_) (WB.less (ρ' := put ρ y (.t (bodyP name (specP span) bitsP (storeP span kvs)))) (fun x d hx => ?_) h))
 ·have n1 : i ≠ b := fun q => by subst q; rw [hb] at e; cases e
  have n2 : i ≠ kb := fun q => by subst q; rw [hkb] at e; cases e
  have eb : bodyS σ b kb name span s i = some o := by unfold bodyS; rw [upd_ne _ _ n1, upd_ne _ _ n2]; exact e
  have n3 : i ≠ s := ne_of_none eb hs.ns
  have n4 : i ≠ ks := ne_of_none eb hs.nks
  have n5 : i ≠ j := ne_of_none eb hs.nj
  rw [upd_ne _ _ n1, upd_ne _ _ n2, g3 i n5 n4 n3]
  exact hs.le i o eb
 ·rw [lookup_put] at hx ⊢
  split at hx
  ·rename_i q; rw [if_pos q]; exact hx
  ·rename_i q; rw [if_neg q, lookup_put, if_neg q]; exact hx
theorem w_find_set (W : Wd Γ K) {v : V} {kvs sets : List (Key × V)} {d : V} {name : Str} {Q : V → Sto → Prop} (hv : ObjV σ v 252 kvs) {sv : V} (hs : kvs.lookup (at_ "sets") = some sv) (hh : sv.hand) (hsv : DctV σ sv .S sets) (hd : sets.lookup (.str name) = some d) (h : Q d σ) :
  WC Γ (n + 1) (.ref 263) [v, .t (.str name)] σ Q := by
 refine WC.go (fd := fd20) (H_fd20 W) [ofString "table", ofString "name"] rfl rfl (bind2 _ _ fun z' z' => rfl) rfl fun L => ?_
 try with_reducible intro E
 (refine WB.cons ?_; walk_at "q")
 walk_at "r"
 refine ⟨_, _, _, _, _, hv, K_Table W, (A_Table W _ (.tail _ (.tail _ (.tail _ (.tail _ (.tail _ (.head _))))))).1, hs, hh, ?_⟩
 refine v_notinD (.str name) hsv rfl ?_
 rw [hd]
 refine ⟨false, rfl, ?_⟩
 walk_at "r"
 refine ⟨_, _, _, _, _, hv, K_Table W, (A_Table W _ (.tail _ (.tail _ (.tail _ (.tail _ (.tail _ (.head _))))))).1, hs, hh, ?_⟩
 walk_at "r"
 refine g_dct (.str name) hsv rfl hd ?_
 exact ⟨_, Sto.le_refl _, h⟩
end
noncomputable def El.tgt (e : El) : Str := match e.data with
 | .tup [_, .str t] => t
 | _ => ofString ""
structure Els (span : Bool) (es : List El) : Prop where
 len : es.length ≤ 6
 nd : (es.map El.lo).Nodup
 fit : span = true → es.Pairwise El.fit
 le : ∀ e ∈ es, e.lo ≤ e.hi
 dat : ∀ e ∈ es, ∃ w, e.data = .tup [.str w, .str e.tgt]
noncomputable def El.out (e : El) : Bool := e.tgt != ofString ""
section
variable {Γ : Cx} {K : Frag} {σ : Sto} {n : Nat} {env : Env} {ρ : Rho}
theorem elems (W : Wd Γ K) {span : Bool} {es : List El} {Q : V → Sto → Prop} (H : Els span es) (h : ∀ es' : List El, es'.Perm es → es'.Pairwise (fun a b => a.lo < b.lo) → Q (.t (.lst (es'.map El.pv))) σ) :
  MethQ Γ (ofString "elements") (fun f v σ => WC Γ (n + 1) (.ref f) [v] σ Q) (.t (storeP span (es.map El.ent))) σ := by
 cases span with
 | false => exact ⟨K, 445, _, _, 428, ⟨rfl, rfl⟩, K_PlainStore W, P_PlainStore W _ (.tail _ (.tail _ (.head _))), W.typeF 28 rfl, W.keepF 28 rfl, rfl, w_plain_elements W H.len H.nd h⟩
 | true => exact ⟨K, 529, _, _, 512, ⟨rfl, rfl⟩, K_SpanStore W, P_SpanStore W _ (.tail _ (.head _)), W.typeF 32 rfl, W.keepF 32 rfl, rfl, w_span_elements W (Nat.le_trans H.len (by decide)) (h es (.refl _) ((H.fit rfl).imp_of_mem fun {a b} ha hb q => by have := H.le a ha; unfold El.fit at q; lia))⟩
theorem w_chains_of_elements (W : Wd Γ K) {span : Bool} {name : Str} {es : List El} {Q : V → Sto → Prop} (H : Els span es)
  (h : ∀ es' : List El, es'.Perm es → es'.Pairwise (fun a b => a.lo < b.lo) → Q (.t (.lst ((es'.filter El.out).map fun e => .str e.tgt))) σ) : WC Γ (n + 2) (.ref 336) [.t (bodyP name (specP span) bitsP (storeP span (es.map El.ent)))] σ Q := by
 refine WC.go (fd := fd33) (H_fd33 W) [ofString "body"] rfl rfl (bind1 _ fun z' => rfl) rfl fun L => ?_
 try with_reducible intro E
 have ob : ObjV σ (.t (bodyP name (specP span) bitsP (storeP span (es.map El.ent)))) 698 (bodyA name (specP span) bitsP (.t (storeP span (es.map El.ent)))) := ⟨rfl, rfl⟩
 (refine WB.cons ?_; walk_at "q")
 walk_at "r"
 refine WE.list ?_
 walk_at "r"
 refine ⟨by simp, fun j hj => ?_⟩
 walk_at "r"
 refine ⟨_, _, _, _, _, ⟨rfl, rfl⟩, K_SetBody W, (A_SetBody W _ (.tail _ (.head _))).1, rfl, trivial, ?_⟩
 repeat walk_at "v"
 refine WIt.lst ?_
 refine WE.methn0 ?_ rfl rfl
 repeat walk_at "v"
 refine ⟨_, _, _, _, _, ⟨rfl, rfl⟩, K_SetBody W, (A_SetBody W _ (.tail _ (.tail _ (.tail _ (.tail _ (.tail _ (.tail _ (.head _)))))))).1, rfl, trivial, ?_⟩
 refine elems W H fun es' hp hs => ⟨_, rfl, ?_⟩
 refine WFor.over El.pv (fun (dn : List El) => upd σ j (.lst (((dn.filter El.out).map fun e => PV.str e.tgt).map .t))) es' (fun dn e ur e0 => ?_) ?_ rfl rfl
 ·try clear Qt
  try with_reducible intro rt Qt
  have hm : e ∈ es := hp.mem_iff.mp (by rw [e0]; simp)
  obtain ⟨wd, hw⟩ := H.dat e hm
  have hlen : dn.length ≤ 6 := by
   have := hp.length_eq
   have := H.len
   rw [e0, List.length_append] at *
   lia
  have hlen2 : (dn.filter El.out).length ≤ 6 := Nat.le_trans (List.length_filter_le _ _) hlen
  have oe : ∀ σ', ObjV σ' (.t e.pv) 368 (e.kvs.map fun p => (p.1, .t p.2)) := fun σ' => ⟨rfl, rfl⟩
  have ld : (e.kvs.map fun p => (p.1, V.t p.2)).lookup (at_ "data") = some (.t (.tup [.str wd, .str e.tgt])) := by rw [← hw]; rfl
  have ae := (A_Element W (ofString "data") (.tail _ (.head _))).1
  walk_at "r"
  refine ⟨_, _, _, _, _, oe _, K_Element W, ae, ld, trivial, ?_⟩
  walk_at "r"
  refine v_isnot (by intro u h; cases h) ⟨true, rfl, ?_⟩
  walk_at "r"
  refine ⟨_, _, _, _, _, oe _, K_Element W, ae, ld, trivial, ?_⟩
  repeat walk_at "v"
  refine v_neS ?_
  refine ⟨_, rfl, ?_⟩
  cases ho : (e.tgt != ofString "") with
  | true =>
   have ho' : e.out = true := ho
   walk_at "r"
   refine ⟨BTy.lst (v := .ref j) (upd_self ..), ?_⟩
   walk_at "r"
   refine ⟨_, _, _, _, _, oe _, K_Element W, ae, ld, trivial, ?_⟩
   repeat walk_at "v"
   refine w_append (upd_self ..) (by simp; lia) ?_
   rw [upd_upd]
   walk_at "r"
   exact ⟨lookup_put_new rfl, _, Sto.le_refl _, by rw [List.filter_append, List.filter_cons_of_pos ho']; simp⟩
  | false =>
   have ho' : ¬ e.out = true := by have : e.out = false := ho; simp [this]
   walk_at "r"
   exact ⟨lookup_put_new rfl, _, Sto.le_refl _, by rw [List.filter_append, List.filter_cons_of_neg ho']; simp⟩
 ·refine WB.froze hj ?_
  walk_at "r"
  exact ⟨_, Sto.le_refl _, h es' hp hs⟩
end
inductive Lits : List PV → List (Str × Str) → Prop
 | nil : Lits [] []
 | cons {x : PV} {w t : Str} {r : List PV} {xs : List PV} {ps : List (Str × Str)} : Lits xs ps → Lits (.tup (x :: .tup [.str w, .str t] :: r) :: xs) ((w, t) :: ps)
noncomputable def verdV (p : Str × Str) : PV := .tup [.str p.1, .str p.2]
noncomputable def isTo (p : Str × Str) : Bool := p.2 != ofString ""
inductive TgtS (sets : List (Key × PV)) : PV → List Str → Prop
 | verdict {w t : Str} : TgtS sets (.tup [pS "verdict", .tup [.str w, .str t]]) (([(w, t)].filter isTo).map (·.2))
 | ref {e : PV} {nm name : Str} {span : Bool} {es es' : List El} (hl : sets.lookup (.str nm) = some (bodyP name (specP span) bitsP (storeP span (es.map El.ent)))) (H : Els span es) (hp : es'.Perm es) (hs : es'.Pairwise (fun a b => a.lo < b.lo)) :
   TgtS sets (.tup [pS "vmap", e, .tup [pS "ref", .str nm]]) ((es'.filter El.out).map El.tgt)
 | lit {e : PV} {xs : List PV} {ps : List (Str × Str)} (h : Lits xs ps) (hl : xs.length ≤ 10) : TgtS sets (.tup [pS "vmap", e, .tup [pS "map", .tup xs]]) ((ps.filter isTo).map (·.2))
 | other {k : Str} {r : List PV} (h1 : (k == ofString "verdict") = false) (h2 : (k == ofString "vmap") = false) : TgtS sets (.tup (.str k :: r)) []
noncomputable def elW (e : El) : Str := match e.data with
 | .tup [.str w, _] => w
 | _ => ofString ""
theorem lookup_mapT {kvs : List (Key × PV)} {k : Key} {d : PV} (h : kvs.lookup k = some d) : (kvs.map fun p => (p.1, V.t p.2)).lookup k = some (.t d) := by rw [lookup_mapV V.t, h]; rfl
noncomputable def objD : PV → V
 | .obj _ (_ :: p :: _) => .t p.2
 | _ => .t .none
section
variable {Γ : Cx} {K : Frag} {σ : Sto} {n : Nat} {env : Env} {ρ : Rho}
theorem w_statement_targets (W : Wd Γ K) {tk sets : List (Key × PV)} (hts : tk.lookup (at_ "sets") = some (.dct .S sets)) {x : PV} {ts : List Str} {Q : V → Sto → Prop} (hx : TgtS sets x ts) (h : Q (.t (.lst (ts.map .str))) σ) :
  WC Γ (n + 3) (.ref 303) [.t (.obj 252 tk), .t x] σ Q := by
 refine WC.go (fd := fd27) (H_fd27 W) [ofString "table", ofString "statement"] rfl rfl (bind2 _ _ fun z' z' => rfl) rfl fun L => ?_
 try with_reducible intro E
 have fin : ∀ (ps : List (Str × Str)), ps.length ≤ 10 → ts = (ps.filter isTo).map (·.2) →
   WB Γ (n + 2) (fenv fd27 L 303) ((bodyOf (D 27)).drop 2) [(ofString "table", .t (.obj 252 tk)), (ofString "statement", .t x), (ofString "verdicts", .t (.lst (ps.map verdV)))] σ (retQ Q) := by
  intro ps hl ht
  (refine WB.cons ?_; walk_at "q")
  walk_at "r"
  refine WIt.lst ?_
  walk_at "r"
  refine ⟨_, rfl, by simp; lia, fun C => ?_⟩
  try with_reducible intro Ec rc
  refine WCp.each (fun x => match x with | .tup [_, .str t] => t != ofString "" | _ => false) (fun x => match x with | .tup [_, d] => .t d | _ => .t .none) _ _ (fun x hx => ?_) ?_
  ·obtain ⟨⟨w, t⟩, hm, rfl⟩ := List.mem_map.mp hx
   unfold verdV
   repeat walk_at "v"
   refine ⟨lookup_put_new rfl, ?_⟩
   repeat walk_at "v"
   refine v_neS ⟨_, rfl, ?_⟩
   cases hc : (t != ofString "") with
   | true =>
    repeat walk_at "v"
    refine ⟨rfl, hc.symm, fun z' => ?_⟩
    repeat walk_at "v"
    exact ⟨rfl, rfl⟩
   | false => exact ⟨rfl, hc.symm, fun q => absurd (hc.symm.trans q) (by decide)⟩
  have eo : ([] : List V) ++ ((ps.map verdV).filter fun x => match x with | .tup [_, .str t] => t != ofString "" | _ => false).map (fun x => match x with | .tup [_, d] => V.t d | _ => .t .none) = (ts.map PV.str).map V.t := by
   rw [List.nil_append, List.filter_map, List.map_map, ht, List.map_map, List.map_map]; rfl
  rw [eo]
  refine ⟨_, rfl, ?_⟩
  exact ⟨_, Sto.le_refl _, h⟩
 revert h fin
 cases hx with
 | @verdict w t =>
  intro h fin
  (refine WB.cons ?_; walk_at "q")
  walk_at "x"
  refine WE.listT ?_
  repeat walk_at "v"
  refine WE.listT ?_
  repeat (first | (with_reducible first | refine WEs.pureA ?_ | refine TsV.mkA ?_))
  repeat (with_reducible refine WB.nil ?_)
  exact fin [(w, t)] (by simp) rfl
 | other h1 h2 =>
  intro h fin
  (refine WB.cons ?_; walk_at "q")
  walk_at "x"
  refine WE.listT ?_
  repeat walk_at "v"
  refine v_eqS ⟨false, by rw [h1], ?_⟩
  repeat walk_at "v"
  refine v_eqS ⟨false, by rw [h2], ?_⟩
  repeat walk_at "v"
  refine v_eqS ⟨false, by rw [h2], ?_⟩
  repeat (with_reducible refine WB.nil ?_)
  exact fin [] (by decide) rfl
 | @lit e xs ps hL hl =>
  intro h fin
  (refine WB.cons ?_; walk_at "q")
  walk_at "x"
  refine WE.listT ?_
  repeat walk_at "v"
  refine WIt.tup ?_
  repeat walk_at "v"
  refine ⟨_, rfl, by lia, fun C => ?_⟩
  try with_reducible intro Ec rc
  refine WCp.each (fun z' => true) (fun x => match x with | .tup (_ :: d :: _) => .t d | _ => .t .none) _ _ (fun y hy => ?_) ?_
  ·have : ∃ x w t r, y = .tup (x :: .tup [.str w, .str t] :: r) := by
    clear fin h
    induction hL with
    | nil => cases hy
    | cons r ih =>
     rcases List.mem_cons.mp hy with rfl | hy
     ·exact ⟨_, _, _, _, rfl⟩
     ·exact ih (by simp at hl; lia) hy
   obtain ⟨x, w, t, r, rfl⟩ := this
   repeat walk_at "v"
   refine ⟨lookup_put_new rfl, ?_⟩
   repeat walk_at "v"
   refine ⟨rfl, rfl, fun z' => ?_⟩
   repeat walk_at "v"
   exact ⟨rfl, rfl⟩
  have eo : ([] : List V) ++ (xs.filter fun z' => true).map (fun x => match x with | .tup (_ :: d :: _) => V.t d | _ => .t .none) = (ps.map verdV).map V.t := by
   rw [List.nil_append, List.filter_eq_self.mpr (fun z' z' => rfl)]
   clear fin h hl
   induction hL with
   | nil => rfl
   | cons r ih => rw [List.map_cons, ih]; rfl
  have hpl : ps.length ≤ 10 := by
   have : ps.length = xs.length := by
    clear fin h hl eo
    induction hL with
    | nil => rfl
    | cons r ih => rw [List.length_cons, List.length_cons, ih]
   lia
  intro i hi
  rw [eo]
  repeat (with_reducible refine WB.nil ?_)
  refine WB.froze hi ?_
  exact fin ps hpl rfl
 | @ref e nm name span es es' hl H hp hs =>
  intro h fin
  (refine WB.cons ?_; walk_at "q")
  walk_at "x"
  refine WE.listT ?_
  repeat walk_at "v"
  refine WIt.lst ?_
  refine WE.methn0 ?_ rfl rfl
  repeat walk_at "v"
  have hts' : (tk.map fun p => (p.1, V.t p.2)).lookup (at_ "sets") = some (.t (.dct .S sets)) := lookup_mapT hts
  refine WC.up (m := n + 1) (by lia) (w_find_set W (kvs := tk.map fun p => (p.1, V.t p.2)) (sv := .t (.dct .S sets)) (sets := sets.map fun p => (p.1, V.t p.2)) ⟨rfl, rfl⟩ hts' trivial ⟨rfl, rfl⟩ (lookup_mapT hl) ?_)
  refine ⟨_, _, _, _, _, ⟨rfl, rfl⟩, K_SetBody W, (A_SetBody W _ (.tail _ (.tail _ (.tail _ (.tail _ (.tail _ (.tail _ (.head _)))))))).1, rfl, trivial, ?_⟩
  refine elems W H fun es2 hp2 hs2 => ?_
  have e2 : es2 = es' := ((hp2.trans hp.symm).eq_of_pairwise (fun a b z' z' h1 h2 => absurd h1 (by lia)) hs2 hs)
  subst e2
  have hlen : (es2.map fun e => (elW e, e.tgt)).length ≤ 10 := by rw [List.length_map, hp.length_eq]; exact Nat.le_trans H.len (by decide)
  refine ⟨_, rfl, by rw [List.length_map] at hlen ⊢; exact Nat.le_trans hlen (by decide), fun C => ?_⟩
  try with_reducible intro Ec rc
  have hdat : ∀ e ∈ es2, ∃ w, e.data = .tup [.str w, .str e.tgt] := fun e he => H.dat e (hp.mem_iff.mp he)
  refine WCp.each (fun z' => true) objD _ _ (fun y hy => ?_) ?_
  ·obtain ⟨e, he, rfl⟩ := List.mem_map.mp hy
   repeat walk_at "v"
   refine ⟨lookup_put_new rfl, ?_⟩
   repeat walk_at "v"
   refine ⟨rfl, rfl, fun z' => ?_⟩
   repeat walk_at "v"
   have ld : (e.kvs.map fun p => (p.1, V.t p.2)).lookup (at_ "data") = some (.t e.data) := rfl
   obtain ⟨w, hw⟩ := hdat e he
   refine ⟨_, _, _, _, _, ⟨rfl, rfl⟩, K_Element W, (A_Element W (ofString "data") (.tail _ (.head _))).1, ld, by rw [hw]; trivial, ?_⟩
   exact ⟨rfl, rfl⟩
  have eo : ([] : List V) ++ ((es2.map El.pv).filter fun z' => true).map objD = ((es2.map fun e => (elW e, e.tgt)).map verdV).map V.t := by
   rw [List.nil_append, List.filter_eq_self.mpr (fun z' z' => rfl), List.map_map, List.map_map, List.map_map]
   refine List.map_congr_left fun e he => ?_
   obtain ⟨w, hw⟩ := hdat e he
   show V.t e.data = V.t (verdV (elW e, e.tgt))
   unfold verdV elW
   rw [hw]
  intro i hi
  rw [eo]
  repeat (with_reducible refine WB.nil ?_)
  refine WB.froze hi ?_
  exact fin _ hlen (by rw [List.filter_map, List.map_map]; rfl)
end
noncomputable def addT (acc : List Str) (t : Str) : List Str := if t ∈ acc then acc else acc ++ [t]
theorem addT_len (acc : List Str) (t : Str) : (addT acc t).length ≤ acc.length + 1 := by unfold addT; split <;> simp
theorem addT_fold_len : ∀ (ts acc : List Str), (ts.foldl addT acc).length ≤ acc.length + ts.length
 | [], _ => Nat.le_refl _
 | t :: ts, acc => by
  have := addT_fold_len ts (addT acc t)
  have := addT_len acc t
  simp only [List.foldl_cons, List.length_cons] at *
  lia
theorem addT_mem : ∀ (ts acc : List Str) {x : Str}, x ∈ ts.foldl addT acc → x ∈ acc ∨ x ∈ ts
 | [], _, _, h => .inl h
 | t :: ts, acc, x, h => by
  rcases addT_mem ts (addT acc t) h with q | q
  ·unfold addT at q
   split at q
   ·exact .inl q
   ·rcases List.mem_append.mp q with q | q
    ·exact .inl q
    ·rw [List.mem_singleton.mp q]; exact .inr (.head _)
  ·exact .inr (.tail _ q)
abbrev TgtSs (sets : List (Key × PV)) := All2 (TgtS sets)
def RuleT (sets : List (Key × PV)) (x : PV) (u : List Str) : Prop := ∃ i ss cells tss, x = ruleP i ss cells ∧ u = tss.flatten ∧ TgtSs sets ss tss
abbrev RulesT (sets : List (Key × PV)) := All2 (RuleT sets)
theorem oks_str {l : List Str} (h : ∀ x ∈ l, PyData.strOk x = true) : PV.oks 1 (l.map .str) = true := by
 unfold PV.oks
 rw [List.all_map]
 exact List.all_eq_true.mpr h
section
variable {Γ : Cx} {K : Frag} {σ : Sto} {n : Nat} {env : Env} {ρ : Rho}
theorem w_chain_targets (W : Wd Γ K) {tk ck sets : List (Key × PV)} (hts : tk.lookup (at_ "sets") = some (.dct .S sets)) {rules : List PV} (hck : ck.lookup (at_ "rules") = some (.lst rules)) {us : List (List Str)} {Q : V → Sto → Prop} (hx : RulesT sets rules us)
  (hu : us.flatten.length ≤ 1000) (hok : ∀ x ∈ us.flatten, PyData.strOk x = true) (h : Q (.t (.lst ((us.flatten.foldl addT []).map .str))) σ) :
  WC Γ (n + 4) (.ref 310) [.t (.obj 252 tk), .t (.obj 231 ck)] σ Q := by
 refine WC.go (fd := fd28) (H_fd28 W) [ofString "table", ofString "chain"] rfl rfl (bind2 _ _ fun z' z' => rfl) rfl fun L => ?_
 try with_reducible intro E
 (refine WB.cons ?_; walk_at "q")
 walk_at "x"
 refine WE.list ?_
 walk_at "r"
 refine ⟨by simp, fun j hj => ?_⟩
 walk_at "r"
 refine WIt.lst ?_
 walk_at "r"
 refine ⟨_, _, _, _, _, ⟨rfl, rfl⟩, K_Chain W, (A_Chain W (ofString "rules") (.tail _ (.tail _ (.tail _ (.tail _ (.head _)))))).1, lookup_mapT hck, trivial, ?_⟩
 refine ⟨_, rfl, ?_⟩
 refine WFor.over2 (fun (dn : List (List Str)) => upd σ j (.lst (((dn.flatten.foldl addT []).map PV.str).map .t))) hx (fun dn x u ur e0 hr => ?_) ?_ rfl
 ·try clear Qt
  try with_reducible intro rt Qt
  obtain ⟨i, ss, cells, tss, rfl, rfl, hss⟩ := hr
  walk_at "r"
  refine WIt.tup ?_
  walk_at "r"
  refine ⟨_, _, _, _, _, ⟨rfl, rfl⟩, K_Rule W, (A_Rule W (ofString "statements") (.tail _ (.head _))).1, rfl, trivial, ?_⟩
  refine ⟨_, rfl, ?_⟩
  refine WFor.over2 (fun (dn2 : List (List Str)) => upd σ j (.lst ((((dn.flatten ++ dn2.flatten).foldl addT []).map PV.str).map .t))) hss (fun dn2 x ts ur2 e2 hx2 => ?_) ?_ (by simp)
  ·try clear Qt
   try with_reducible intro rt Qt
   walk_at "r"
   refine WIt.lst ?_
   walk_at "r"
   refine w_statement_targets W hts hx2 ?_
   refine ⟨_, rfl, ?_⟩
   refine WFor.over .str (fun (dn3 : List Str) => upd σ j (.lst ((((dn.flatten ++ dn2.flatten ++ dn3).foldl addT []).map PV.str).map .t))) ts (fun dn3 t ur3 e3 => ?_) ?_ rfl (by simp)
   ·try clear Qt
    try with_reducible intro rt Qt
    have eall : us.flatten = (dn.flatten ++ dn2.flatten ++ dn3) ++ (t :: (ur3 ++ ur2.flatten ++ ur.flatten)) := by
     rw [e0, e2, e3]; simp
    generalize hD : dn.flatten ++ dn2.flatten ++ dn3 = D at *
    have hlen : (D.foldl addT []).length ≤ 1000 := by
     have := addT_fold_len D []
     rw [eall] at hu
     simp at hu this
     lia
    walk_at "r"
    refine v_notin 1 (v := .ref j) (d := .str t) (xs := (D.foldl addT []).map .str) (upd_self ..) (by have := hok t (by rw [eall]; simp); exact this) (oks_str fun x hx => hok x (by
     rw [eall]
     rcases addT_mem D [] hx with q | q
     ·cases q
     ·simp [q])) fun c hc => ?_
    refine ⟨_, rfl, ?_⟩
    have ef : (D ++ [t]).foldl addT [] = addT (D.foldl addT []) t := by rw [List.foldl_append]; rfl
    cases c with
    | true =>
     have hnm : t ∉ D.foldl addT [] := fun q => (hc.mp rfl) (List.mem_map.mpr ⟨t, q, rfl⟩)
     walk_at "r"
     refine ⟨BTy.lst (v := .ref j) (upd_self ..), ?_⟩
     walk_at "r"
     refine w_append (upd_self ..) (by simp; lia) ?_
     rw [upd_upd]
     walk_at "r"
     refine ⟨lookup_put_new rfl, _, Sto.le_refl _, ?_⟩
     rw [← List.append_assoc, hD, ef, addT, if_neg hnm]
     simp
    | false =>
     have hnm : t ∈ D.foldl addT [] := by
      have : ¬ (PV.str t ∉ (D.foldl addT []).map PV.str) := fun q => by have := hc.mpr q; cases this
      obtain ⟨y, hy, q⟩ := List.mem_map.mp (Classical.not_not.mp this)
      injection q with q
      rw [← q]; exact hy
     walk_at "r"
     refine ⟨lookup_put_new rfl, _, Sto.le_refl _, ?_⟩
     rw [← List.append_assoc, hD, ef, addT, if_pos hnm]
   ·walk_at "r"
    exact ⟨lookup_put_new rfl, _, Sto.le_refl _, by simp⟩
  ·walk_at "r"
   exact ⟨lookup_put_new rfl, _, Sto.le_refl _, by simp⟩
 ·refine WB.froze hj ?_
  walk_at "r"
  exact ⟨_, Sto.le_refl _, h⟩
end
noncomputable def gOn (gs : List Int) (N turn : Int) (key k : Nat) : Bool := ((2 * (k : Int) + turn).fmod 5 == (key : Int)) && decide ((gs.getD k 0).fdiv N < 2)
noncomputable def gAdd (gs : List Int) (N turn : Int) (key : Nat) (acc : List Int) (k : Nat) : List Int := if gOn gs N turn key k then acc ++ [(gs.getD k 0).fmod N] else acc
noncomputable def gRow (gs : List Int) (N turn : Int) (acc : List Int) (key : Nat) : List Int := (List.range 3).foldl (gAdd gs N turn key) acc
noncomputable def gbk (gs : List Int) (N turn : Int) : List Int := (List.range 5).foldl (gRow gs N turn) []
theorem range_snoc {α : Type} (f : α → Nat → α) (a : α) (m : Nat) : (List.range (m + 1)).foldl f a = f ((List.range m).foldl f a) m := by
 rw [List.range_succ, List.foldl_append]; rfl
theorem gAdd_len {gs : List Int} {N turn : Int} {key : Nat} (m : Nat) (acc : List Int) : ((List.range m).foldl (gAdd gs N turn key) acc).length ≤ acc.length + m := by
 induction m with
 | zero => exact Nat.le_refl _
 | succ m ih =>
  rw [range_snoc]
  refine Nat.le_trans ?_ (Nat.succ_le_succ ih)
  unfold gAdd
  split
  ·rw [List.length_append]; exact Nat.le_refl _
  ·exact Nat.le_succ _
theorem gRow_len {gs : List Int} {N turn : Int} (m : Nat) : ((List.range m).foldl (gRow gs N turn) []).length ≤ 3 * m := by
 induction m with
 | zero => exact Nat.le_refl _
 | succ m ih =>
  rw [range_snoc]
  exact Nat.le_trans (gAdd_len 3 _) (Nat.add_le_add_right ih 3)
section
variable {Γ : Cx} {K : Frag} {σ : Sto} {n : Nat} {env : Env} {ρ : Rho}
theorem w_goals_by_keys (W : Wd Γ K) {gs : List Int} {N : Nat} {turn : Int} {Q : V → Sto → Prop} (hg : gs.length = 3) (hN : 4 ≤ N) (hN6 : N ≤ 6) (h : Q (.t (.lst ((gbk gs N turn).map .int))) σ) :
  WC Γ (n + 1) (.ref 756) [.t (.lst (gs.map .int)), .t (.int N), .t (.int turn)] σ Q := by
 refine WC.go (fd := fd63) (H_fd63 W) [ofString "goes", ofString "many", ofString "turn"] rfl rfl (bind3 _ _ _ fun z' z' z' => rfl) rfl fun L => ?_
 try with_reducible intro E
 (refine WB.cons ?_; walk_at "q")
 walk_at "x"
 refine WE.list ?_
 walk_at "r"
 refine ⟨by simp, fun j hj => ?_⟩
 walk_at "r"
 refine WIt.range (G_range W) (C_range W) ?_
 walk_at "r"
 refine ⟨_, rfl, by decide, by decide, ?_⟩
 refine WFor.range 5 (fun m σ' => σ' = upd σ j (.lst ((((List.range m).foldl (gRow gs N turn) []).map PV.int).map .t))) (fun m σ' hm hI => ?_) (fun σ' hI => ?_) rfl
 ·try clear Qt
  try with_reducible intro rt Qt
  subst hI
  have hl := gRow_len (gs := gs) (N := N) (turn := turn) m
  generalize hA : (List.range m).foldl (gRow gs N turn) [] = A at *
  walk_at "r"
  refine WIt.range (G_range W) (C_range W) ?_
  walk_at "r"
  refine ⟨_, rfl, by decide, by decide, ?_⟩
  refine WFor.range 3 (fun k σ' => σ' = upd σ j (.lst ((((List.range k).foldl (gAdd gs N turn m) A).map PV.int).map .t))) (fun k σ' hk hI => ?_) (fun σ' hI => ?_) rfl
  ·try clear Qt
   try with_reducible intro rt Qt
   subst hI
   have hl2 := gAdd_len (gs := gs) (N := N) (turn := turn) (key := m) k A
   have hgk : gs[k]? = some (gs.getD k 0) := by rw [List.getD_eq_getElem?_getD, List.getElem?_eq_getElem (by lia)]; rfl
   have hxx : ((gs.map PV.int).map V.t)[((k : Nat) : Int).toNat]? = some (.t (.int (gs.getD k 0))) := by rw [Int.toNat_natCast, List.getElem?_map, List.getElem?_map, hgk]; rfl
   generalize hgd : gs.getD k 0 = gd at *
   have es : (List.range (k + 1)).foldl (gAdd gs N turn m) A = gAdd gs N turn m ((List.range k).foldl (gAdd gs N turn m) A) k := range_snoc ..
   generalize hB : (List.range k).foldl (gAdd gs N turn m) A = B at *
   walk_at "r"
   refine v_mul (mulOk (by decide) (by decide)) ?_
   walk_at "r"
   refine v_add ?_
   walk_at "r"
   refine v_mod (by decide) ?_
   walk_at "r"
   refine v_eq ⟨_, rfl, ?_⟩
   cases h1 : ((2 * (k : Int) + turn).fmod 5 == (m : Int)) with
   | true =>
    walk_at "r"
    refine g_lst (xs := (gs.map PV.int).map .t) (d := .t (.int gd)) rfl (by lia) (by lia) hxx ?_
    walk_at "r"
    refine v_fdiv (by lia) (by lia) ?_
    walk_at "r"
    refine v_lt ⟨_, rfl, ?_⟩
    cases h2 : decide (gd.fdiv N < 2) with
    | true =>
     walk_at "r"
     refine ⟨BTy.lst (v := .ref j) (upd_self ..), ?_⟩
     walk_at "r"
     refine g_lst (xs := (gs.map PV.int).map .t) (d := .t (.int gd)) rfl (by lia) (by lia) hxx ?_
     walk_at "r"
     refine v_mod (by lia) ?_
     walk_at "r"
     refine w_append (upd_self ..) (by simp; lia) ?_
     rw [upd_upd]
     walk_at "r"
     refine ⟨lookup_put_new rfl, _, Sto.le_refl _, ?_⟩
     rw [es, gAdd, if_pos (by unfold gOn; rw [h1, hgd, h2]; rfl), hgd]
     simp
    | false =>
     walk_at "r"
     refine ⟨lookup_put_new rfl, _, Sto.le_refl _, ?_⟩
     rw [es, gAdd, if_neg (by unfold gOn; rw [h1, hgd, h2]; simp)]
   | false =>
    walk_at "r"
    refine ⟨lookup_put_new rfl, _, Sto.le_refl _, ?_⟩
    rw [es, gAdd, if_neg (by unfold gOn; rw [h1]; simp)]
  ·subst hI
   walk_at "r"
   refine ⟨lookup_put_new rfl, _, Sto.le_refl _, ?_⟩
   rw [range_snoc (f := gRow gs N turn), hA]; rfl
 ·subst hI
  refine WB.froze hj ?_
  walk_at "r"
  exact ⟨_, Sto.le_refl _, h⟩
end
noncomputable def verdG (g N : Int) : PV := if g.fdiv N < 2 then .tup [.str (if g.fdiv N = 0 then ofString "jump" else ofString "goto"), .str (cn (g.fmod N))] else .tup [pS "accept", pS ""]
noncomputable def elG (span : Bool) (gs : List Int) (N turn : Int) (k : Nat) : El := ⟨3 * (2 * (k : Int) + turn).fmod 5, 3 * (2 * (k : Int) + turn).fmod 5 + (if span then 1 else 0), verdG (gs.getD k 0) N, if k = 1 then 1 else 0⟩
noncomputable def mN (span : Bool) : Str := ofString "m" ++ Str.ofString (toString (if span then (1 : Int) else 0))
theorem key_ne {span : Bool} {gs : List Int} {N turn : Int} {i m : Nat} (hm : m < 3) (hi : i < m) : (elG span gs N turn i).lo ≠ 3 * (2 * (m : Int) + turn).fmod 5 := by
 show 3 * (2 * (i : Int) + turn).fmod 5 ≠ _
 rw [Int.fmod_eq_emod_of_nonneg _ (by decide), Int.fmod_eq_emod_of_nonneg _ (by decide)]
 lia
section
variable {Γ : Cx} {K : Frag} {σ : Sto} {n : Nat} {env : Env} {ρ : Rho}
theorem w_map (W : Wd Γ K) {span : Bool} {gs : List Int} {N : Nat} {turn : Int} {Q : V → Sto → Prop} (hg : gs.length = 3) (hN : 4 ≤ N) (hN6 : N ≤ 6) (hgs : ∀ g ∈ gs, 0 ≤ g ∧ g < 3 * (N : Int)) (ht : 0 ≤ turn ∧ turn < N)
  (h : ∀ es : List El, es.Perm ((List.range 3).map (elG span gs N turn)) → (span = true → es.Pairwise El.fit) → Q (.t (bodyP (mN span) (specP span) bitsP (storeP span (es.map El.ent)))) σ) :
  WC Γ (n + 6) (.ref 749) [.t (.int (if span then 1 else 0)), .t (.lst (gs.map .int)), .t (.int N), .t (.int turn)] σ Q := by
 refine WC.go (fd := fd62) (H_fd62 W) [ofString "j", ofString "goes", ofString "many", ofString "turn"] rfl rfl (bind4 _ _ _ _ fun z' z' z' z' => rfl) rfl fun L => ?_
 try with_reducible intro E
 (refine WB.cons ?_; walk_at "q")
 walk_at "r"
 have hz : (if span then (1 : Int) else 0).natAbs < 1000 := by cases span <;> decide
 refine w_str (by lia) ?_
 refine v_addS ?_ (by have := cn_size hz; exact this) 
 walk_at "r"
 refine v_eq ⟨span, by cases span <;> rfl, ?_⟩
 have rest : ∀ b kb σ' s ks j, σ b = Option.none → σ kb = Option.none → b ≠ kb → StoreAt (bodyS σ b kb (mN span) span s) σ' span s ks j [] →
   WB Γ (n + 5) (fenv fd62 L 749) ((bodyOf (D 62)).drop 1) [(ofString "j", .t (.int (if span then 1 else 0))), (ofString "goes", .t (.lst (gs.map .int))), (ofString "many", .t (.int N)), (ofString "turn", .t (.int turn)), (ofString "body", .ref b)] σ' (retQ Q) := by
  intro b kb σ' s ks j hb hkb hd hs
  (refine WB.cons ?_; walk_at "q")
  walk_at "r"
  refine WIt.range (G_range W) (C_range W) ?_
  walk_at "r"
  refine ⟨_, rfl, by decide, by decide, ?_⟩
  refine WFor.range 3 (fun m σ' => ∃ es : List El, es.Perm ((List.range m).map (elG span gs N turn)) ∧ (span = true → es.Pairwise El.fit) ∧ StoreAt (bodyS σ b kb (mN span) span s) σ' span s ks j (es.map El.ent)) (fun m σ' hm hI => ?_) (fun σ' hI => ?_) ⟨[], .refl _, fun z' => .nil, hs⟩
  ·try clear Qt
   try with_reducible intro rt Qt
   obtain ⟨es, hp, hf, hs⟩ := hI
   have hgk : gs[m]? = some (gs.getD m 0) := by rw [List.getD_eq_getElem?_getD, List.getElem?_eq_getElem (by lia)]; rfl
   have hgr := hgs _ (List.mem_of_getElem? hgk)
   have hxx : ((gs.map PV.int).map V.t)[((m : Nat) : Int).toNat]? = some (.t (.int (gs.getD m 0))) := by rw [Int.toNat_natCast, List.getElem?_map, List.getElem?_map, hgk]; rfl
   have hkr : 0 ≤ (2 * (m : Int) + turn).fmod 5 ∧ (2 * (m : Int) + turn).fmod 5 < 5 := fmod_range (2 * (m : Int) + turn) (m := 5) (by lia)
   have fin2 : WB Γ (n + 5) (fenv fd62 L 749) ((forBody (nth (bodyOf (D 62)) 1)).drop 3) [(ofString "j", .t (.int (if span then 1 else 0))), (ofString "goes", .t (.lst (gs.map .int))), (ofString "many", .t (.int N)), (ofString "turn", .t (.int turn)), (ofString "body", .ref b), (ofString "k", .t (.int m)), (ofString "key", .t (.int ((2 * (m : Int) + turn).fmod 5))), (ofString "verdict", .t (verdG (gs.getD m 0) N))] σ' (turnQ [(ofString "j", .t (.int (if span then 1 else 0))), (ofString "goes", .t (.lst (gs.map .int))), (ofString "many", .t (.int N)), (ofString "turn", .t (.int turn)), (ofString "body", .ref b)] (fun σ₃ => ∃ es : List El, es.Perm ((List.range (m + 1)).map (elG span gs N turn)) ∧ (span = true → es.Pairwise El.fit) ∧ StoreAt (bodyS σ b kb (mN span) span s) σ₃ span s ks j (es.map El.ent)) (retQ Q)) := by
    have hob : ∃ k, σ' b = some (.inst 698 k) ∧ σ' k = some (.dct .S (bodyA (mN span) (specP span) bitsP (.ref s))) := ⟨kb, hs.le _ _ (upd_self ..), hs.le _ _ (upd_ne' (upd_self ..) hd.symm)⟩
    (refine WB.cons ?_; walk_at "q")
    walk_at "r"
    refine WE.methn ?_ rfl rfl rfl rfl rfl
    walk_at "r"
    refine ⟨_, _, _, _, _, hob, K_SetBody W, (A_SetBody W _ (.tail _ (.tail _ (.tail _ (.tail _ (.tail _ (.tail _ (.head _)))))))).1, rfl, trivial, ?_⟩
    cases span with
    | false =>
     refine ⟨_, _, _, _, _, ⟨ks, hs.es, hs.eks⟩, K_PlainStore W, P_PlainStore W _ (.head _), W.typeF 26 rfl, W.keepF 26 rfl, rfl, ?_⟩
     walk_at "r"
     refine v_mul (mulOk (by decide) (by decide)) ?_
     walk_at "r"
     refine v_mul (mulOk (by decide) (by decide)) ?_
     walk_at "r"
     refine v_add ?_
     walk_at "r"
     refine v_eq ⟨_, rfl, ?_⟩
     cases hb1 : ((m : Int) == 1) with
     | true =>
      have hm1 : m = 1 := by { have : (m : Int) = 1 := (by simpa using hb1); lia }
      walk_at "r"
      refine WC.up (m := n + 2) (by lia) (WC.frzN (w_Element W fun i k hi hk hik => ⟨i, k, 368, elemP _ _ _, rfl, hi, hk, hik, rfl, ?_⟩))
      walk_at "r"
      have eu : elG false gs N turn m = ⟨3 * (2 * (m : Int) + turn).fmod 5, 3 * (2 * (m : Int) + turn).fmod 5 + 0, verdG (gs.getD m 0) N, 1⟩ := by unfold elG; rw [if_pos hm1]; rfl
      refine WC.up (m := n + 3) (by lia) (w_plain_put W (e := ⟨3 * (2 * (m : Int) + turn).fmod 5, 3 * (2 * (m : Int) + turn).fmod 5 + 0, verdG (gs.getD m 0) N, 1⟩) hs (by simp) (by show (3 * (2 * (m : Int) + turn).fmod 5).natAbs < 1000; lia) (fun d hd' => ?_) (by have := hp.length_eq; simp at this; lia) fun σ₃ h3 => ?_)
      ·have hd2 := hp.mem_iff.mp hd'
       obtain ⟨i, hi, rfl⟩ := List.mem_map.mp hd2
       have him : i < m := by simpa using hi
       exact key_ne hm him
      ·walk_at "r"
       refine ⟨less_append (e := [_, _, _]), _, Sto.le_refl _, _, ?_, by simp, h3⟩
       rw [List.range_succ, List.map_append, ← eu]
       exact hp.append (.refl _)
     | false =>
      have hm1 : ¬ m = 1 := by { have : ¬ (m : Int) = 1 := (by simpa using hb1); lia }
      walk_at "r"
      refine WC.up (m := n + 2) (by lia) (WC.frzN (w_Element W fun i k hi hk hik => ⟨i, k, 368, elemP _ _ _, rfl, hi, hk, hik, rfl, ?_⟩))
      walk_at "r"
      have eu : elG false gs N turn m = ⟨3 * (2 * (m : Int) + turn).fmod 5, 3 * (2 * (m : Int) + turn).fmod 5 + 0, verdG (gs.getD m 0) N, 0⟩ := by unfold elG; rw [if_neg hm1]; rfl
      refine WC.up (m := n + 3) (by lia) (w_plain_put W (e := ⟨3 * (2 * (m : Int) + turn).fmod 5, 3 * (2 * (m : Int) + turn).fmod 5 + 0, verdG (gs.getD m 0) N, 0⟩) hs (by simp) (by show (3 * (2 * (m : Int) + turn).fmod 5).natAbs < 1000; lia) (fun d hd' => ?_) (by have := hp.length_eq; simp at this; lia) fun σ₃ h3 => ?_)
      ·have hd2 := hp.mem_iff.mp hd'
       obtain ⟨i, hi, rfl⟩ := List.mem_map.mp hd2
       have him : i < m := by simpa using hi
       exact key_ne hm him
      ·walk_at "r"
       refine ⟨less_append (e := [_, _, _]), _, Sto.le_refl _, _, ?_, by simp, h3⟩
       rw [List.range_succ, List.map_append, ← eu]
       exact hp.append (.refl _)
    | true =>
     refine ⟨_, _, _, _, _, ⟨ks, hs.es, hs.eks⟩, K_SpanStore W, P_SpanStore W _ (.head _), W.typeF 31 rfl, W.keepF 31 rfl, rfl, ?_⟩
     walk_at "r"
     refine v_mul (mulOk (by decide) (by decide)) ?_
     walk_at "r"
     refine v_mul (mulOk (by decide) (by decide)) ?_
     walk_at "r"
     refine v_add ?_
     walk_at "r"
     refine v_eq ⟨_, rfl, ?_⟩
     cases hb1 : ((m : Int) == 1) with
     | true =>
      have hm1 : m = 1 := by { have : (m : Int) = 1 := (by simpa using hb1); lia }
      walk_at "r"
      refine WC.up (m := n + 2) (by lia) (WC.frzN (w_Element W fun i k hi hk hik => ⟨i, k, 368, elemP _ _ _, rfl, hi, hk, hik, rfl, ?_⟩))
      walk_at "r"
      have eu : elG true gs N turn m = ⟨3 * (2 * (m : Int) + turn).fmod 5, 3 * (2 * (m : Int) + turn).fmod 5 + 1, verdG (gs.getD m 0) N, 1⟩ := by unfold elG; rw [if_pos hm1]; rfl
      refine WC.up (m := n + 3) (by lia) (w_span_put W (e := ⟨3 * (2 * (m : Int) + turn).fmod 5, 3 * (2 * (m : Int) + turn).fmod 5 + 1, verdG (gs.getD m 0) N, 1⟩) hs (hf rfl) (fun d hd' => ?_) (by show 3 * (2 * (m : Int) + turn).fmod 5 ≤ 3 * (2 * (m : Int) + turn).fmod 5 + 1; lia) (fun d hd' => ?_) (by have := hp.length_eq; simp at this; lia) fun σ₃ es' h1 h2 h3 => ?_)
      ·have hd2 := hp.mem_iff.mp hd'
       obtain ⟨i, hi, rfl⟩ := List.mem_map.mp hd2
       show 3 * (2 * (i : Int) + turn).fmod 5 ≤ 3 * (2 * (i : Int) + turn).fmod 5 + 1
       lia
      ·have hd2 := hp.mem_iff.mp hd'
       obtain ⟨i, hi, rfl⟩ := List.mem_map.mp hd2
       have him : i < m := by simpa using hi
       have := key_ne (span := true) (gs := gs) (N := N) (turn := turn) hm him
       show 3 * (2 * (i : Int) + turn).fmod 5 + 1 < 3 * (2 * (m : Int) + turn).fmod 5 ∨ 3 * (2 * (m : Int) + turn).fmod 5 + 1 < 3 * (2 * (i : Int) + turn).fmod 5
       have h9 : 3 * (2 * (i : Int) + turn).fmod 5 ≠ 3 * (2 * (m : Int) + turn).fmod 5 := this
       lia
      ·walk_at "r"
       refine ⟨less_append (e := [_, _, _]), _, Sto.le_refl _, es', ?_, fun z' => h2, h3⟩
       rw [List.range_succ, List.map_append]
       refine h1.trans ?_
       rw [← eu]
       exact (List.perm_append_comm (l₁ := [elG true gs N turn m])).trans (hp.append (.refl _))
     | false =>
      have hm1 : ¬ m = 1 := by { have : ¬ (m : Int) = 1 := (by simpa using hb1); lia }
      walk_at "r"
      refine WC.up (m := n + 2) (by lia) (WC.frzN (w_Element W fun i k hi hk hik => ⟨i, k, 368, elemP _ _ _, rfl, hi, hk, hik, rfl, ?_⟩))
      walk_at "r"
      have eu : elG true gs N turn m = ⟨3 * (2 * (m : Int) + turn).fmod 5, 3 * (2 * (m : Int) + turn).fmod 5 + 1, verdG (gs.getD m 0) N, 0⟩ := by unfold elG; rw [if_neg hm1]; rfl
      refine WC.up (m := n + 3) (by lia) (w_span_put W (e := ⟨3 * (2 * (m : Int) + turn).fmod 5, 3 * (2 * (m : Int) + turn).fmod 5 + 1, verdG (gs.getD m 0) N, 0⟩) hs (hf rfl) (fun d hd' => ?_) (by show 3 * (2 * (m : Int) + turn).fmod 5 ≤ 3 * (2 * (m : Int) + turn).fmod 5 + 1; lia) (fun d hd' => ?_) (by have := hp.length_eq; simp at this; lia) fun σ₃ es' h1 h2 h3 => ?_)
      ·have hd2 := hp.mem_iff.mp hd'
       obtain ⟨i, hi, rfl⟩ := List.mem_map.mp hd2
       show 3 * (2 * (i : Int) + turn).fmod 5 ≤ 3 * (2 * (i : Int) + turn).fmod 5 + 1
       lia
      ·have hd2 := hp.mem_iff.mp hd'
       obtain ⟨i, hi, rfl⟩ := List.mem_map.mp hd2
       have him : i < m := by simpa using hi
       have := key_ne (span := true) (gs := gs) (N := N) (turn := turn) hm him
       show 3 * (2 * (i : Int) + turn).fmod 5 + 1 < 3 * (2 * (m : Int) + turn).fmod 5 ∨ 3 * (2 * (m : Int) + turn).fmod 5 + 1 < 3 * (2 * (i : Int) + turn).fmod 5
       have h9 : 3 * (2 * (i : Int) + turn).fmod 5 ≠ 3 * (2 * (m : Int) + turn).fmod 5 := this
       lia
      ·walk_at "r"
       refine ⟨less_append (e := [_, _, _]), _, Sto.le_refl _, es', ?_, fun z' => h2, h3⟩
       rw [List.range_succ, List.map_append]
       refine h1.trans ?_
       rw [← eu]
       exact (List.perm_append_comm (l₁ := [elG true gs N turn m])).trans (hp.append (.refl _))
   generalize hgd : gs.getD m 0 = gd at *
   walk_at "r"
   refine v_mul (mulOk (by decide) (by decide)) ?_
   walk_at "r"
   refine v_add ?_
   walk_at "r"
   refine v_mod (by decide) ?_
   walk_at "r"
   refine g_lst (xs := (gs.map PV.int).map .t) (d := .t (.int gd)) rfl (by lia) (by lia) hxx ?_
   walk_at "r"
   refine v_fdiv (by lia) (by lia) ?_
   walk_at "r"
   refine v_lt ⟨_, rfl, ?_⟩
   have hq0 : 0 ≤ gd.fdiv N := by rw [Int.fdiv_eq_ediv_of_nonneg _ (by lia)]; exact Int.ediv_nonneg hgr.1 (by lia)
   have hfm := fmod_range gd (m := N) (by lia)
   cases hc : decide (gd.fdiv N < 2) with
   | true =>
    have hc' : gd.fdiv N < 2 := by simpa using hc
    have ev : verdG gd N = .tup [.str (if gd.fdiv N = 0 then ofString "jump" else ofString "goto"), .str (cn (gd.fmod N))] := by unfold verdG; rw [if_pos hc']
    rw [ev] at fin2
    walk_at "r"
    refine g_lst (xs := (gs.map PV.int).map .t) (d := .t (.int gd)) rfl (by lia) (by lia) hxx ?_
    walk_at "r"
    refine v_fdiv (by lia) (by lia) ?_
    refine g_tup (d := .str (if gd.fdiv N = 0 then ofString "jump" else ofString "goto")) hq0 (by lia) (by
     have : gd.fdiv N = 0 ∨ gd.fdiv N = 1 := by lia
     rcases this with q | q <;> rw [q] <;> rfl) ?_
    walk_at "r"
    refine g_lst (xs := (gs.map PV.int).map .t) (d := .t (.int gd)) rfl (by lia) (by lia) hxx ?_
    walk_at "r"
    refine v_mod (by lia) ?_
    walk_at "r"
    refine w_str (by lia) ?_
    refine v_addS ?_ (cn_size (by lia))
    refine WEs.nil ?_
    refine TsV.mk rfl (Nat.le_of_ble_eq_true rfl) ?_
    repeat (with_reducible refine WB.nil ?_)
    exact fin2
   | false =>
    have hc' : ¬ gd.fdiv N < 2 := by simpa using hc
    have ev : verdG gd N = .tup [pS "accept", pS ""] := by unfold verdG; rw [if_neg hc']
    rw [ev] at fin2
    repeat (with_reducible refine WB.nil ?_)
    exact fin2
  ·obtain ⟨es, hp, hf, hs⟩ := hI
   refine WB.frzBody (ρ := [(ofString "j", .t (.int (if span then 1 else 0))), (ofString "goes", .t (.lst (gs.map .int))), (ofString "many", .t (.int N)), (ofString "turn", .t (.int turn))]) (y := ofString "body") hs hb hkb hd ?_
   walk_at "r"
   exact ⟨_, Sto.le_refl _, h es hp hf⟩
 cases span with
 | true =>
  walk_at "r"
  refine w_SetBody W (span := true) fun b kb σ' s ks j hb hkb hd hs => rest b kb σ' s ks j hb hkb hd hs
 | false =>
  walk_at "r"
  refine w_SetBody W (span := false) fun b kb σ' s ks j hb hkb hd hs => rest b kb σ' s ks j hb hkb hd hs
end
noncomputable def addUse (kvs : List (Key × Int)) (k : Key) (s : Int) : List (Key × Int) := if 0 < (kvs.lookup k).getD 0 + s then kput kvs k ((kvs.lookup k).getD 0 + s) else if (kvs.lookup k).isSome then kdel kvs k else kvs
theorem lookup_kvI (kvs : List (Key × Int)) (k : Key) : (kvI kvs).lookup k = (kvs.lookup k).map fun i => V.t (.int i) := lookup_mapV (fun i => V.t (.int i)) kvs k
theorem kdel_kvI (kvs : List (Key × Int)) (k : Key) : kdel (kvI kvs) k = kvI (kdel kvs k) := by
 induction kvs with
 | nil => rfl
 | cons p r ih =>
  show kdel ((p.1, V.t (.int p.2)) :: kvI r) k = _
  rw [kdel_cons, kdel_cons]
  by_cases q : p.1 = k
  ·rw [if_pos q, if_pos q]
  ·rw [if_neg q, if_neg q, ih]; rfl
section
variable {Γ : Cx} {K : Frag} {σ : Sto} {n : Nat} {env : Env} {ρ : Rho}
theorem w_add_use (W : Wd Γ K) {j : Nat} {kvs : List (Key × Int)} {k : Key} {s : Int} {Q : V → Sto → Prop} (hf : k.fl = .T) (hj : σ j = some (.dct .T (kvI kvs))) (hl : kvs.length ≤ 1000) (h : Q (.t .none) (upd σ j (.dct .T (kvI (addUse kvs k s))))) :
  WC Γ (n + 1) (.ref 329) [.ref j, .t k.pv, .t (.int s)] σ Q := by
 refine WC.go (fd := fd32) (H_fd32 W) [ofString "uses", ofString "key", ofString "step"] rfl rfl (bind3 _ _ _ fun z' z' z' => rfl) rfl fun L => ?_
 try with_reducible intro E
 (refine WB.cons ?_; walk_at "q")
 walk_at "r"
 refine ⟨BTy.dct (v := .ref j) hj, ?_⟩
 walk_at "r"
 refine w_get2 k (o := .ref j) hj hf ?_
 have hv : ((kvI kvs).lookup k).getD (.t (.int 0)) = .t (.int ((kvs.lookup k).getD 0)) := by rw [lookup_kvI]; cases kvs.lookup k <;> rfl
 rw [hv]
 walk_at "r"
 refine v_add ?_
 unfold addUse at h
 generalize hm : (kvs.lookup k).getD 0 + s = m at *
 walk_at "r"
 refine v_gt ⟨_, rfl, ?_⟩
 cases hc : decide (0 < m) with
 | true =>
  rw [if_pos (by simpa using hc)] at h
  walk_at "r"
  refine s_dct k hj hf (by unfold kvI; simp; lia) ?_
  walk_at "r"
  have e : kput (kvI kvs) k (.t (.int m)) = kvI (kput kvs k m) := kput_map (fun i : Int => V.t (.int i)) kvs k m
  rw [e]
  exact ⟨_, Sto.le_refl _, h⟩
 | false =>
  rw [if_neg (by simpa using hc)] at h
  walk_at "r"
  refine v_inD k (o := .ref j) hj hf ?_
  refine ⟨_, rfl, ?_⟩
  have e1 : ((kvI kvs).lookup k).isSome = (kvs.lookup k).isSome := by rw [lookup_kvI]; cases kvs.lookup k <;> rfl
  rw [e1]
  cases hs : (kvs.lookup k).isSome with
  | true =>
   rw [if_pos hs] at h
   ((refine WB.cons ?_; walk_at "q"); refine WS.delSub ?_)
   walk_at "r"
   refine ⟨j, .T, kvI kvs, k, rfl, rfl, hj, hf, ?_, by unfold kvI; simp; lia, ?_⟩
   ·refine Classical.byContradiction fun q => ?_
    have := lookup_none q
    rw [this] at e1; rw [hs] at e1; cases e1
   ·walk_at "r"
    have e : kdel (kvI kvs) k = kvI (kdel kvs k) := kdel_kvI kvs k
    rw [e]
    exact ⟨_, Sto.le_refl _, h⟩
  | false =>
   rw [if_neg (by rw [hs]; decide)] at h
   walk_at "r"
   have e : upd σ j (.dct .T (kvI kvs)) = σ := by funext i; unfold upd; split <;> simp_all
   rw [e] at h
   exact ⟨_, Sto.le_refl _, h⟩
end
section
variable {Γ : Cx} {K : Frag} {n : Nat} {env : Env}
inductive TurnR {α : Type} (R : α → Rho) (I : α → Sto → Prop) (ρ₂ : Rho) (σ₂ : Sto) : Prop
 | mk (a' : α) (σ₃ : Sto) : (∀ y d, (R a').lookup y = some d → ρ₂.lookup y = some d) → Sto.le σ₃ σ₂ → I a' σ₃ → TurnR R I ρ₂ σ₂
abbrev turnR {α : Type} (R : α → Rho) (I : α → Sto → Prop) (Q : Fl → Rho → Sto → Prop) (f : Fl) (ρ₂ : Rho) (σ₂ : Sto) : Prop := match f with
 | .next => TurnR R I ρ₂ σ₂
 | .ret d => Q (.ret d) ρ₂ σ₂
 | _ => False
theorem WFor.run {α : Type} {target : Expr} {body : List Stmt} {Q : Fl → Rho → Sto → Prop} (R : α → Rho) (I : α → List PV → Sto → Prop)
  (turn : ∀ a x rest σ, I a (x :: rest) σ → let rt := R a; let Qt := bodyQ Γ n env body (turnR R (fun a' => I a' rest) Q); WA Γ n env target (.t x) rt σ Qt)
  (done : ∀ a σ, I a [] σ → Q .next (R a) σ) (xs : List PV) (a : α) (σ : Sto) (h : I a xs σ) : WFor Γ n env target body xs (R a) σ Q := by
 induction xs generalizing a σ with
 | nil => exact WFor.nil (done a σ h)
 | cons x xs ih =>
  refine WFor.cons fun A s ν g y hA F S r => wpAny_mono (turn a x xs σ h A s ν g y hA F S r) (fun z' s' q => q.mono fun ρ₁ σ₁ q => q.mono fun f ρ₂ σ₂ hf => ?_) fun z' z' x => x
  cases f with
  | next => obtain ⟨a', σ₃, le, l3, i3⟩ := hf; exact WFor.less le (WFor.le l3 (ih a' σ₃ i3))
  | ret d => exact hf
  | brk => exact (show False from hf).elim
  | cont => exact (show False from hf).elim
  | exc _ _ => exact hf
end
noncomputable def leftS (p : Int × Int) (s : Int) : Int × Int := (max p.1 (p.2 + s), p.2 + s)
noncomputable def leftOf (steps : List Int) : Int := (steps.reverse.foldl leftS (0, 0)).1
section
variable {Γ : Cx} {K : Frag} {σ : Sto} {n : Nat} {env : Env} {ρ : Rho}
theorem w_left (W : Wd Γ K) {steps : List Int} {Q : V → Sto → Prop} (h : Q (.t (.int (leftOf steps))) σ) : WC Γ (n + 1) (.ref 789) [.t (.lst (steps.map .int))] σ Q := by
 refine WC.go (fd := fd68) (H_fd68 W) [ofString "steps"] rfl rfl (bind1 _ fun z' => rfl) rfl fun L => ?_
 try with_reducible intro E
 (refine WB.cons ?_; walk_at "q")
 walk_at "r"
 refine WIt.reversed (G_reversed W) (C_reversed W) ?_
 walk_at "r"
 refine ⟨_, rfl, ?_⟩
 rw [← List.map_reverse]
 refine WFor.run (α := Int × Int) (fun p => [(ofString "steps", .t (.lst (steps.map .int))), (ofString "best", .t (.int p.1)), (ofString "total", .t (.int p.2))])
  (fun p rest σ' => σ' = σ ∧ ∃ l : List Int, rest = l.map .int ∧ leftOf steps = (l.foldl leftS p).1) (fun p x rest σ' hI => ?_) (fun p σ' hI => ?_) _ (0, 0) σ ⟨rfl, steps.reverse, rfl, rfl⟩
 ·obtain ⟨rfl, l, e, hl⟩ := hI
  cases l with
  | nil => cases e
  | cons s l =>
   obtain ⟨rfl, rfl⟩ := List.cons.inj e
   walk_at "r"
   refine v_iadd ?_
   walk_at "r"
   refine w_max ?_
   walk_at "r"
   exact ⟨leftS p s, σ', less_append (e := [(ofString "step", .t (.int s))]), Sto.le_refl _, rfl, l, rfl, hl⟩
 ·obtain ⟨rfl, l, e, hl⟩ := hI
  cases l with
  | cons _ _ => cases e
  | nil =>
   have : leftOf steps = p.1 := hl
   rw [this] at h
   walk_at "r"
   exact ⟨_, Sto.le_refl _, h⟩
end
noncomputable def tabA (fam name : Str) (chains sets : V) : List (Key × V) := [(at_ "family", .t (.str fam)), (at_ "name", .t (.str name)), (at_ "handle", .t (.int 0)), (at_ "flags", .t (.tup [])), (at_ "chains", chains), (at_ "sets", sets), (at_ "objects", .t (.dct .S [])), (at_ "flows", .t (.dct .S [])), (at_ "uses", .t (.dct .S [])), (at_ "last", .t (.int 0))]
structure TabAt (σ₀ σ : Sto) (fam name : Str) (t kt jc js : Nat) (chains sets : List (Key × V)) : Prop where
 le : Sto.le σ₀ σ
 et : σ t = some (.inst 252 kt)
 ekt : σ kt = some (.dct .S (tabA fam name (.ref jc) (.ref js)))
 ec : σ jc = some (.dct .S chains)
 es : σ js = some (.dct .S sets)
 nt : σ₀ t = Option.none
 nkt : σ₀ kt = Option.none
 nc : σ₀ jc = Option.none
 ns : σ₀ js = Option.none
 dcs : js ≠ jc
section
variable {Γ : Cx} {K : Frag} {σ : Sto} {n : Nat} {env : Env} {ρ : Rho}
theorem w_Table (W : Wd Γ K) {fam name : Str} {Q : V → Sto → Prop} (h : ∀ σ' t kt jc js, TabAt σ σ' fam name t kt jc js [] [] → Q (.ref t) σ') : WC Γ (n + 2) (.ref 252) [.t (.str fam), .t (.str name)] σ Q := by
 refine WCc.wc (WC.cls (K_Table W) (M_Table W) (I_Table W) (W.typeF 9 rfl) fun i k hi hk hik => ?_)
 refine WCc.go (fd := fd19m0) (H_fd19m0 W) [ofString "self", ofString "family", ofString "name"] rfl rfl (bind3 _ _ _ fun z' z' z' => rfl) rfl fun L => ?_
 try with_reducible intro E
 (refine WB.cons ?_; walk_at "q")
 walk_at "r"
 refine ⟨_, _, _, i, k, _, rfl, upd_self .., upd_ne' (upd_self ..) (Ne.symm hik), K_Table W, (A_Table W _ (.head _)).2, Nat.le_of_ble_eq_true rfl, ?_⟩
 rw [obj_upd hik]
 walk_at "r"
 refine ⟨_, _, _, i, k, _, rfl, upd_self .., upd_ne' (upd_self ..) (Ne.symm hik), K_Table W, (A_Table W _ (.tail _ (.head _))).2, Nat.le_of_ble_eq_true rfl, ?_⟩
 rw [obj_upd hik]
 walk_at "r"
 refine ⟨_, _, _, i, k, _, rfl, upd_self .., upd_ne' (upd_self ..) (Ne.symm hik), K_Table W, (A_Table W _ (.tail _ (.tail _ (.head _)))).2, Nat.le_of_ble_eq_true rfl, ?_⟩
 rw [obj_upd hik]
 walk_at "r"
 refine ⟨_, _, _, i, k, _, rfl, upd_self .., upd_ne' (upd_self ..) (Ne.symm hik), K_Table W, (A_Table W _ (.tail _ (.tail _ (.tail _ (.head _))))).2, Nat.le_of_ble_eq_true rfl, ?_⟩
 rw [obj_upd hik]
 walk_at "r"
 refine WE.dict0 (f := .S) fun jc hc => ?_
 have c1 : jc ≠ i := ne_none hc
 rw [upd_ne _ _ c1] at hc
 have c2 : jc ≠ k := ne_none hc
 rw [upd_ne _ _ c2] at hc
 rw [upd_comm c1.symm, upd_comm c2.symm]
 walk_at "r"
 refine ⟨_, _, _, i, k, _, rfl, upd_self .., upd_ne' (upd_self ..) (Ne.symm hik), K_Table W, (A_Table W _ (.tail _ (.tail _ (.tail _ (.tail _ (.head _)))))).2, Nat.le_of_ble_eq_true rfl, ?_⟩
 rw [obj_upd hik]
 walk_at "r"
 refine WE.dict0 (f := .S) fun js hs => ?_
 have d1 : js ≠ i := ne_none hs
 rw [upd_ne _ _ d1] at hs
 have d2 : js ≠ k := ne_none hs
 rw [upd_ne _ _ d2] at hs
 have d3 : js ≠ jc := ne_none hs
 rw [upd_ne _ _ d3] at hs
 rw [upd_comm d1.symm, upd_comm d2.symm]
 walk_at "r"
 refine ⟨_, _, _, i, k, _, rfl, upd_self .., upd_ne' (upd_self ..) (Ne.symm hik), K_Table W, (A_Table W _ (.tail _ (.tail _ (.tail _ (.tail _ (.tail _ (.head _))))))).2, Nat.le_of_ble_eq_true rfl, ?_⟩
 rw [obj_upd hik]
 walk_at "r"
 refine WE.dictF .S ?_
 walk_at "r"
 refine ⟨_, _, _, i, k, _, rfl, upd_self .., upd_ne' (upd_self ..) (Ne.symm hik), K_Table W, (A_Table W _ (.tail _ (.tail _ (.tail _ (.tail _ (.tail _ (.tail _ (.head _)))))))).2, Nat.le_of_ble_eq_true rfl, ?_⟩
 rw [obj_upd hik]
 walk_at "r"
 refine WE.dictF .S ?_
 walk_at "r"
 refine ⟨_, _, _, i, k, _, rfl, upd_self .., upd_ne' (upd_self ..) (Ne.symm hik), K_Table W, (A_Table W _ (.tail _ (.tail _ (.tail _ (.tail _ (.tail _ (.tail _ (.tail _ (.head _))))))))).2, Nat.le_of_ble_eq_true rfl, ?_⟩
 rw [obj_upd hik]
 walk_at "r"
 refine WE.dictF .S ?_
 walk_at "r"
 refine ⟨_, _, _, i, k, _, rfl, upd_self .., upd_ne' (upd_self ..) (Ne.symm hik), K_Table W, (A_Table W _ (.tail _ (.tail _ (.tail _ (.tail _ (.tail _ (.tail _ (.tail _ (.tail _ (.head _)))))))))).2, Nat.le_of_ble_eq_true rfl, ?_⟩
 rw [obj_upd hik]
 walk_at "r"
 refine ⟨_, _, _, i, k, _, rfl, upd_self .., upd_ne' (upd_self ..) (Ne.symm hik), K_Table W, (A_Table W _ (.tail _ (.tail _ (.tail _ (.tail _ (.tail _ (.tail _ (.tail _ (.tail _ (.tail _ (.head _))))))))))).2, Nat.le_of_ble_eq_true rfl, ?_⟩
 rw [obj_upd hik]
 walk_at "r"
 refine ⟨_, Sto.le_refl _, rfl, h _ i k jc js ⟨fun l o e => ?_, upd_self .., upd_ne' (upd_self ..) hik.symm, ?_, ?_, hi, hk, hc, hs, d3⟩⟩
 ·have n1 : l ≠ i := fun q => by subst q; rw [hi] at e; cases e
  have n2 : l ≠ k := fun q => by subst q; rw [hk] at e; cases e
  have n3 : l ≠ jc := fun q => by subst q; rw [hc] at e; cases e
  have n4 : l ≠ js := fun q => by subst q; rw [hs] at e; cases e
  rw [upd_ne _ _ n1, upd_ne _ _ n2, upd_ne _ _ n4, upd_ne _ _ n3]; exact e
 ·exact upd_ne' (upd_ne' (upd_ne' (upd_self ..) d3.symm) c2) c1
 ·exact upd_ne' (upd_ne' (upd_self ..) d2) d1
end
section
variable {Γ : Cx} {K : Frag} {n : Nat} {env : Env}
theorem WFor.runR {α : Type} {target : Expr} {body : List Stmt} {Q : Fl → Rho → Sto → Prop} (N : Nat) (R : α → Rho) (I : Nat → α → Sto → Prop)
  (turn : ∀ a m σ, m < N → I m a σ → let rt := R a; let Qt := bodyQ Γ n env body (turnR R (fun a' => I (m + 1) a') Q); WA Γ n env target (.t (.int (m : Int))) rt σ Qt)
  (done : ∀ a σ, I N a σ → Q .next (R a) σ) (a : α) {σ : Sto} (h : I 0 a σ) : WFor Γ n env target body ((List.range N).map fun (i : Nat) => PV.int (i : Int)) (R a) σ Q := by
 refine WFor.run R (fun a rest σ => ∃ m, m ≤ N ∧ rest = ((List.range N).map fun (i : Nat) => PV.int (i : Int)).drop m ∧ I m a σ) (fun a x rest σ hI => ?_) (fun a σ hI => ?_) _ a σ ⟨0, Nat.zero_le _, rfl, h⟩
 ·obtain ⟨m, hm, e, hI⟩ := hI
  obtain ⟨hlt, rfl, rfl⟩ := range_turn e
  refine fun A s ν g y hA F S r => wpAny_mono (turn a m σ hlt hI A s ν g y hA F S r) (fun z' s' q => q.mono fun ρ₁ σ₁ q => q.mono fun f ρ₂ σ₂ hf => ?_) fun z' z' x => x
  cases f with
  | next => obtain ⟨a', σ₃, le, l3, i3⟩ := hf; exact ⟨a', σ₃, le, l3, m + 1, hlt, rfl, i3⟩
  | ret d => exact hf
  | brk => exact hf
  | cont => exact hf
  | exc _ _ => exact hf
 ·obtain ⟨m, hm, e, hI⟩ := hI
  obtain rfl := range_done hm e
  exact done _ _ hI
end
theorem bitOr_nat (a b : Nat) : Builtin.bitOr (a : Int) (b : Int) = ((a ||| b : Nat) : Int) := by
 have h1 : decide (0 ≤ Builtin.bitNot (a : Int)) = false := by unfold Builtin.bitNot; simp; lia
 have h2 : decide (0 ≤ Builtin.bitNot (b : Int)) = false := by unfold Builtin.bitNot; simp; lia
 have e : ∀ c : Nat, Builtin.bitNot (Builtin.bitNot (c : Int)) = c := fun c => by unfold Builtin.bitNot; lia
 unfold Builtin.bitOr Builtin.bitAnd
 rw [h1, h2]
 simp only [e, Int.toNat_natCast]
noncomputable def natsP (l : List Nat) : PV := .lst (l.map fun (n : Nat) => PV.int (n : Int))
noncomputable def leadsP (ls : List (List Nat)) : PV := .lst (ls.map natsP)
noncomputable def comeIn (come : Nat) (l : List Nat) : Nat := l.foldl (fun c n => c ||| 2 ^ n) come
noncomputable def comeS (ls : List (List Nat)) (alive : Nat) (c k : Nat) : Nat := if alive / 2 ^ k % 2 = 1 then comeIn c (ls.getD k []) else c
noncomputable def comeOf (ls : List (List Nat)) (alive : Nat) : Nat := (List.range ls.length).foldl (comeS ls alive) 0
noncomputable def roundsOf (ls : List (List Nat)) (m : Nat) : Nat := (List.range m).foldl (fun alive z' => comeOf ls alive) (2 ^ ls.length - 1)
section
variable {Γ : Cx} {K : Frag} {σ : Sto} {n : Nat} {env : Env} {ρ : Rho}
theorem w_goes_round (W : Wd Γ K) {ls : List (List Nat)} {Q : V → Sto → Prop} (hl : ls.length ≤ 6) (hn : ∀ l ∈ ls, ∀ x ∈ l, x < 6) (h : Q (.t (.bool (roundsOf ls ls.length != 0))) σ) :
  WC Γ (n + 1) (.ref 763) [.t (leadsP ls)] σ Q := by
 refine WC.go (fd := fd64) (H_fd64 W) [ofString "leads"] rfl rfl (bind1 _ fun z' => rfl) rfl fun L => ?_
 try with_reducible intro E
 (refine WB.cons ?_; walk_at "q")
 walk_at "r"
 refine w_len_lst (v := .t (leadsP ls)) (xs := (ls.map natsP).map .t) rfl (by simp; lia) ?_
 have el : (((ls.map natsP).map V.t).length : Int) = ls.length := by simp
 rw [el]
 have h2b : (Builtin.Int.intBits 2 : Int) = 2 := by decide
 refine v_pow (by lia) (by rw [h2b]; lia) ?_
 rw [Int.toNat_natCast]
 walk_at "r"
 refine v_sub ?_
 have ea : (2 : Int) ^ ls.length - 1 = ((roundsOf ls 0 : Nat) : Int) := by
  have : 1 ≤ 2 ^ ls.length := Nat.one_le_two_pow
  show _ = ((2 ^ ls.length - 1 : Nat) : Int)
  rw [Int.natCast_sub this]; simp
 rw [ea]
 walk_at "r"
 refine WIt.range (G_range W) (C_range W) ?_
 walk_at "r"
 refine w_len_lst (v := .t (leadsP ls)) (xs := (ls.map natsP).map .t) rfl (by simp; lia) ?_
 rw [el]
 refine ⟨_, rfl, by lia, by lia, ?_⟩
 rw [Int.toNat_natCast]
 refine WFor.runR ls.length (fun a : Nat => [(ofString "leads", .t (leadsP ls)), (ofString "alive", .t (.int (a : Int)))]) (fun m a σ' => σ' = σ ∧ a = roundsOf ls m) (fun a m σ' hm hI => ?_) (fun a σ' hI => ?_) _ ⟨rfl, rfl⟩
 ·obtain ⟨rfl, rfl⟩ := hI
  have es : roundsOf ls (m + 1) = comeOf ls (roundsOf ls m) := range_snoc ..
  generalize roundsOf ls m = alive at *
  walk_at "r"
  refine WIt.range (G_range W) (C_range W) ?_
  walk_at "r"
  refine w_len_lst (v := .t (leadsP ls)) (xs := (ls.map natsP).map .t) rfl (by simp; lia) ?_
  rw [el]
  refine ⟨_, rfl, by lia, by lia, ?_⟩
  rw [Int.toNat_natCast]
  refine WFor.runR ls.length (fun c : Nat => [(ofString "leads", .t (leadsP ls)), (ofString "alive", .t (.int (alive : Int))), (ofString "step", .t (.int m)), (ofString "come", .t (.int (c : Int)))]) (fun k c σ'' => σ'' = σ' ∧ c = (List.range k).foldl (comeS ls alive) 0) (fun c k σ'' hk hI => ?_) (fun c σ'' hI => ?_) 0 ⟨rfl, rfl⟩
  ·obtain ⟨rfl, rfl⟩ := hI
   have ek : (List.range (k + 1)).foldl (comeS ls alive) 0 = comeS ls alive ((List.range k).foldl (comeS ls alive) 0) k := range_snoc ..
   generalize (List.range k).foldl (comeS ls alive) 0 = c at *
   have hgk : ls[k]? = some (ls.getD k []) := by rw [List.getD_eq_getElem?_getD, List.getElem?_eq_getElem (by lia)]; rfl
   have hmem : ls.getD k [] ∈ ls := List.mem_of_getElem? hgk
   have hx := hn _ hmem
   walk_at "r"
   refine v_pow (by lia) (by rw [h2b]; lia) ?_
   rw [Int.toNat_natCast]
   have hp0 : (2 : Int) ^ k ≠ 0 := by
    have : 0 < (2 : Int) ^ k := Int.pow_pos (by decide)
    lia
   have hp1 : ((2 : Int) ^ k).natAbs < 1073741824 := by
    rw [Int.natAbs_pow]
    have : (2 : Nat) ^ k ≤ 2 ^ 6 := Nat.pow_le_pow_right (by decide) (by lia)
    exact Nat.lt_of_le_of_lt this (by decide)
   refine v_fdiv hp0 hp1 ?_
   walk_at "r"
   refine v_mod (by decide) ?_
   walk_at "r"
   refine v_eq ⟨_, rfl, ?_⟩
   have eb : ((((alive : Int).fdiv (2 ^ k)).fmod 2) == 1) = decide (alive / 2 ^ k % 2 = 1) := by
    have e1 : (alive : Int).fdiv (2 ^ k) = ((alive / 2 ^ k : Nat) : Int) := by
     rw [Int.fdiv_eq_ediv_of_nonneg _ (by exact Int.le_of_lt (Int.pow_pos (by decide)))]
     simp
    rw [e1, Int.fmod_eq_emod_of_nonneg _ (by decide)]
    have e2 : ((alive / 2 ^ k : Nat) : Int) % 2 = ((alive / 2 ^ k % 2 : Nat) : Int) := by simp
    rw [e2, Bool.eq_iff_iff]
    simp only [beq_iff_eq, decide_eq_true_eq]
    lia
   rw [eb]
   cases hc : decide (alive / 2 ^ k % 2 = 1) with
   | true =>
    have hc' : alive / 2 ^ k % 2 = 1 := by simpa using hc
    have ec : comeS ls alive c k = comeIn c (ls.getD k []) := by unfold comeS; rw [if_pos hc']
    rw [ec] at ek
    generalize ls.getD k [] = l at *
    walk_at "r"
    refine WIt.lst ?_
    walk_at "r"
    refine g_lst (v := .t (leadsP ls)) (xs := (ls.map natsP).map .t) (d := .t (natsP l)) rfl (by lia) (by lia) (by rw [Int.toNat_natCast, List.getElem?_map, List.getElem?_map, hgk]; rfl) ?_
    refine ⟨_, rfl, ?_⟩
    refine WFor.run (α := Nat) (fun c : Nat => [(ofString "leads", .t (leadsP ls)), (ofString "alive", .t (.int (alive : Int))), (ofString "step", .t (.int m)), (ofString "come", .t (.int (c : Int))), (ofString "k", .t (.int k))])
     (fun a rest σ' => σ' = σ'' ∧ ∃ r : List Nat, rest = r.map (fun (n : Nat) => PV.int (n : Int)) ∧ comeIn c l = comeIn a r ∧ ∀ x ∈ r, x < 6) (fun a x rest σ' hI => ?_) (fun a σ' hI => ?_) _ c σ'' ⟨rfl, l, rfl, rfl, hx⟩
    ·obtain ⟨rfl, r, e, hr, hr6⟩ := hI
     cases r with
     | nil => cases e
     | cons y r =>
      obtain ⟨rfl, rfl⟩ := List.cons.inj e
      have hy := hr6 y (.head _)
      walk_at "r"
      refine v_pow (by lia) (by rw [h2b]; lia) ?_
      rw [Int.toNat_natCast]
      have e2 : (2 : Int) ^ y = ((2 ^ y : Nat) : Int) := by simp
      rw [e2]
      refine v_or ?_
      rw [bitOr_nat]
      walk_at "r"
      exact ⟨a ||| 2 ^ y, σ', less_append (e := [(ofString "n", .t (.int (y : Int)))]), Sto.le_refl _, rfl, r, rfl, hr, fun x hx => hr6 x (.tail _ hx)⟩
    ·obtain ⟨rfl, r, e, hr, hr6⟩ := hI
     cases r with
     | cons _ _ => cases e
     | nil =>
      walk_at "r"
      exact ⟨a, _, less_append (e := [(ofString "k", .t (.int (k : Int)))]), Sto.le_refl _, rfl, by rw [ek, hr]; rfl⟩
   | false =>
    have hc' : ¬ alive / 2 ^ k % 2 = 1 := by simpa using hc
    have ec : comeS ls alive c k = c := by unfold comeS; rw [if_neg hc']
    walk_at "r"
    exact ⟨c, _, less_append (e := [(ofString "k", .t (.int (k : Int)))]), Sto.le_refl _, rfl, by rw [ek, ec]⟩
  ·obtain ⟨rfl, rfl⟩ := hI
   walk_at "r"
   exact ⟨comeOf ls alive, _, less_append (e := [(ofString "step", .t (.int (m : Int))), (ofString "come", .t (.int (comeOf ls alive : Int)))]), Sto.le_refl _, rfl, es.symm⟩
 ·obtain ⟨rfl, rfl⟩ := hI
  walk_at "r"
  refine v_ne ?_
  have : (((roundsOf ls ls.length : Nat) : Int) != 0) = (roundsOf ls ls.length != 0) := by rw [Bool.eq_iff_iff]; simp
  rw [this]
  exact ⟨_, Sto.le_refl _, h⟩
end
set_option tactic.hygienic true in
theorem upd_id {σ : Sto} {j : Nat} {a : AO} (h : σ j = some a) : upd σ j a = σ := by
 funext i; unfold upd; split
 ·rename_i e; rw [e, h]
 ·rfl
noncomputable abbrev Best := List (Key × List Int)
noncomputable def bestV (b : Best) : List (Key × V) := b.map fun p => (p.1, V.t (wayP p.2))
noncomputable def bNote (b : Best) (k : Key) (w : List Int) : Best := match b.lookup k with
 | Option.none => kput b k w
 | some v => if ltW w v then kput b k w else b
noncomputable def goTurns (f : Nat → Best → Bool × Best) : List Nat → Best → Bool × Best
 | [], b => (true, b)
 | t :: ts, b => match f t b with
  | (true, b') => goTurns f ts b'
  | (false, b') => (false, b')
theorem goTurns_cons (f : Nat → Best → Bool × Best) (t : Nat) (ts : List Nat) (b : Best) : goTurns f (t :: ts) b = match f t b with
  | (true, b') => goTurns f ts b'
  | (false, b') => (false, b') := rfl
noncomputable def goF (ls : List (List Nat)) : Nat → Nat → List Int → Best → Bool × Best
 | 0, _, _, b => (false, b)
 | d + 1, here, turns, b => goTurns (fun t b => goF ls d ((ls.getD here []).getD t 0) (turns ++ [(t : Int)]) b) (List.range (ls.getD here []).length) (bNote b (.int here) turns)
def BInv (b : Best) : Prop := (b.map (·.1)).Nodup ∧ ∀ p ∈ b, ∃ k : Nat, k < 6 ∧ p.1 = .int k
theorem BInv.len {b : Best} (h : BInv b) : b.length ≤ 6 := by
 have h1 : b.map (·.1) ⊆ (List.range 6).map fun (k : Nat) => Key.int k := fun k hk => by
  obtain ⟨p, hp, rfl⟩ := List.mem_map.mp hk
  obtain ⟨m, hm, e⟩ := h.2 p hp
  rw [e]
  exact List.mem_map.mpr ⟨m, List.mem_range.mpr hm, rfl⟩
 have := h.1.length_le_of_subset h1
 simpa using this
theorem BInv.put {b : Best} (h : BInv b) {k : Nat} (hk : k < 6) (w : List Int) : BInv (kput b (.int k) w) :=
 ⟨kput_nodup h.1 _ _, fun p hp => (kput_mem hp).elim (fun e => ⟨k, hk, e⟩) fun m => by
  obtain ⟨p', hp', e⟩ := List.mem_map.mp m
  rw [← e]; exact h.2 p' hp'⟩
theorem BInv.note {b : Best} (h : BInv b) {k : Nat} (hk : k < 6) (w : List Int) : BInv (bNote b (.int k) w) := by
 unfold bNote
 cases b.lookup (.int k) with
 | none => exact h.put hk w
 | some v =>
  show BInv (if _ then _ else _)
  split
  ·exact h.put hk w
  ·exact h
theorem goTurns_inv {f : Nat → Best → Bool × Best} (ts : List Nat) (h : ∀ t ∈ ts, ∀ b, BInv b → BInv (f t b).2) (b : Best) (hb : BInv b) : BInv (goTurns f ts b).2 := by
 induction ts generalizing b with
 | nil => exact hb
 | cons t ts ih =>
  have h1 := h t (.head _) b hb
  rw [goTurns_cons]
  cases e : f t b with
  | mk c b' =>
   rw [e] at h1
   cases c with
   | true => exact ih (fun t ht => h t (.tail _ ht)) b' h1
   | false => exact h1
theorem goF_inv {ls : List (List Nat)} (hn : ∀ l ∈ ls, ∀ x ∈ l, x < 6) (d here : Nat) (turns : List Int) (b : Best) (hh : here < 6) (hb : BInv b) : BInv (goF ls d here turns b).2 := by
 induction d generalizing here turns b with
 | zero => exact hb
 | succ d ih =>
  refine goTurns_inv _ (fun t ht b hb => ih _ _ b ?_ hb) _ (hb.note hh turns)
  have ht' := List.mem_range.mp ht
  rcases Nat.lt_or_ge here ls.length with q | q
  ·rw [getD_at q] at ht' ⊢
   rw [getD_at ht']
   exact hn _ (List.getElem_mem q) _ (List.getElem_mem ht')
  ·have : ls.getD here [] = [] := by rw [List.getD_eq_getElem?_getD, List.getElem?_eq_none q]; rfl
   rw [this] at ht'; exact absurd ht' (Nat.not_lt_zero t)
theorem lookup_bestV (b : Best) (k : Key) : (bestV b).lookup k = (b.lookup k).map fun w => V.t (wayP w) := lookup_mapV (fun w => V.t (wayP w)) b k
section
variable {Γ : Cx} {K : Frag} {n : Nat} {env : Env} {ρ : Rho}
theorem w_go (W : Wd Γ K) {ls : List (List Nat)} {j bound : Nat} (hl : ls.length ≤ 6) (hls : ∀ l ∈ ls, l.length ≤ 100) (hn : ∀ l ∈ ls, ∀ x ∈ l, x < ls.length) (hb : bound ≤ 6) : ∀ (d here : Nat) (turns : List Int) (b : Best) {σ : Sto} {Q : V → Sto → Prop}, here < ls.length → turns.length + d = bound → BInv b → σ j = some (.dct .I (bestV b)) →
  Q (.t (.bool (goF ls d here turns b).1)) (upd σ j (.dct .I (bestV (goF ls d here turns b).2))) →
  WC Γ (n + 1 + d) (.ref 770) [.t (leadsP ls), .t (.int here), .t (.lst (turns.map .int)), .t (.int bound), .ref j] σ Q := by
 intro d
 induction d with
 | zero =>
  intro here turns b σ Q hh ht hi hj h
  refine WC.go (fd := fd65) (H_fd65 W) [ofString "leads", ofString "here", ofString "turns", ofString "bound", ofString "best"] rfl rfl (bind5 _ _ _ _ _ fun z' z' z' z' z' => rfl) rfl fun L => ?_
  try with_reducible intro E
  (refine WB.cons ?_; walk_at "q")
  walk_at "r"
  refine w_len_lst (v := .t (.lst (turns.map .int))) (xs := (turns.map PV.int).map .t) rfl (by simp; lia) ?_
  walk_at "r"
  refine v_eq ⟨_, rfl, ?_⟩
  have : ((((turns.map PV.int).map V.t).length : Int) == (bound : Int)) = true := by simp; lia
  rw [this]
  walk_at "r"
  refine ⟨_, Sto.le_refl _, ?_⟩
  have e : upd σ j (.dct .I (bestV (goF ls 0 here turns b).2)) = σ := upd_id hj
  rw [e] at h
  exact h
 | succ d ih =>
  intro here turns b σ Q hh ht hi hj h
  have hgk : ls[here]? = some (ls.getD here []) := by rw [List.getD_eq_getElem?_getD, List.getElem?_eq_getElem (by lia)]; rfl
  have hmem : ls.getD here [] ∈ ls := List.mem_of_getElem? hgk
  have hx := hn _ hmem
  have hxl := hls _ hmem
  have eF : goF ls (d + 1) here turns b = goTurns (fun t b => goF ls d ((ls.getD here []).getD t 0) (turns ++ [(t : Int)]) b) (List.range (ls.getD here []).length) (bNote b (.int here) turns) := rfl
  rw [eF] at h
  have hi2 := hi.note (k := here) (by lia) turns
  have hil := hi.len
  refine WC.go (fd := fd65) (H_fd65 W) [ofString "leads", ofString "here", ofString "turns", ofString "bound", ofString "best"] rfl rfl (bind5 _ _ _ _ _ fun z' z' z' z' z' => rfl) rfl fun L => ?_
  try with_reducible intro E
  have fin : ∀ b1, bNote b (.int here) turns = b1 → WB Γ (n + 1 + d) (fenv fd65 L 770) ((bodyOf (D 65)).drop 2) [(ofString "leads", .t (leadsP ls)), (ofString "here", .t (.int here)), (ofString "turns", .t (.lst (turns.map .int))), (ofString "bound", .t (.int bound)), (ofString "best", .ref j)] (upd σ j (.dct .I (bestV b1))) (retQ Q) := fun b1 e1 => by
   rw [e1] at h hi2
   generalize ls.getD here [] = l at *
   (refine WB.cons ?_; walk_at "q")
   walk_at "r"
   refine WIt.range (G_range W) (C_range W) ?_
   walk_at "r"
   refine g_lst (v := .t (leadsP ls)) (xs := (ls.map natsP).map .t) (d := .t (natsP l)) rfl (by lia) (by lia) (by rw [Int.toNat_natCast, List.getElem?_map, List.getElem?_map, hgk]; rfl) ?_
   walk_at "r"
   refine w_len_lst (v := .t (natsP l)) (xs := (l.map fun (n : Nat) => PV.int (n : Int)).map .t) rfl (by simp; lia) ?_
   rw [show (((l.map fun (n : Nat) => PV.int (n : Int)).map V.t).length : Int) = l.length by simp]
   refine ⟨_, rfl, by lia, by lia, ?_⟩
   rw [Int.toNat_natCast]
   refine WFor.range l.length (fun m σ' => ∃ b2, BInv b2 ∧ σ' = upd σ j (.dct .I (bestV b2)) ∧ goTurns (fun t b => goF ls d (l.getD t 0) (turns ++ [(t : Int)]) b) ((List.range l.length).drop m) b2 = goTurns (fun t b => goF ls d (l.getD t 0) (turns ++ [(t : Int)]) b) (List.range l.length) b1) (fun m σ' hm hI => ?_) (fun σ' hI => ?_) ⟨b1, hi2, rfl, rfl⟩
   ·try clear Qt
    try with_reducible intro rt Qt
    obtain ⟨b2, hib, rfl, eg⟩ := hI
    have hlm : l[m]? = some (l.getD m 0) := by rw [List.getD_eq_getElem?_getD, List.getElem?_eq_getElem hm]; rfl
    have hxm := hx _ (List.mem_of_getElem? hlm)
    rw [List.drop_eq_getElem_cons (by simpa using hm), List.getElem_range, goTurns_cons] at eg
    have hio := goF_inv (ls := ls) (fun l hl x hx => by have := hn l hl x hx; lia) d (l.getD m 0) (turns ++ [(m : Int)]) b2 (by lia) hib
    generalize hy : l.getD m 0 = y at *
    walk_at "r"
    refine g_lst (v := .t (leadsP ls)) (xs := (ls.map natsP).map .t) (d := .t (natsP l)) rfl (by lia) (by lia) (by rw [Int.toNat_natCast, List.getElem?_map, List.getElem?_map, hgk]; rfl) ?_
    walk_at "r"
    refine g_lst (v := .t (natsP l)) (xs := (l.map fun (n : Nat) => PV.int (n : Int)).map .t) (d := .t (.int y)) rfl (by lia) (by lia) (by rw [Int.toNat_natCast, List.getElem?_map, List.getElem?_map, hlm]; rfl) ?_
    walk_at "r"
    refine WE.listT ?_
    walk_at "r"
    refine v_addL (xs := turns.map .int) (ys := [.int m]) rfl rfl (by simp; lia) ?_
    rw [show turns.map PV.int ++ [PV.int (m : Int)] = (turns ++ [(m : Int)]).map .int by simp]
    walk_at "r"
    refine ih y (turns ++ [(m : Int)]) b2 hxm (by simp; lia) hib (upd_self ..) ?_
    rw [upd_upd]
    refine ⟨_, rfl, ?_⟩
    cases hg : goF ls d y (turns ++ [(m : Int)]) b2 with
    | mk c b3 =>
     rw [hg] at eg hio
     cases c with
     | true =>
      show WB _ _ _ _ _ _ _
      walk_at "r"
      exact ⟨lookup_put_new rfl, _, Sto.le_refl _, b3, hio, rfl, eg⟩
     | false =>
      dsimp only at eg
      rw [← eg] at h
      show WB _ _ _ _ _ _ _
      walk_at "r"
      exact ⟨_, Sto.le_refl _, h⟩
   ·obtain ⟨b2, hib, rfl, eg⟩ := hI
    rw [List.drop_eq_nil_of_le (by simp)] at eg
    rw [← eg] at h
    walk_at "r"
    exact ⟨_, Sto.le_refl _, h⟩
  have eb : upd σ j (.dct .I (bestV b)) = σ := upd_id hj
  have elk := lookup_bestV b (.int here)
  have eput : ∀ w, kput (bestV b) (.int here) (.t (wayP w)) = bestV (kput b (.int here) w) := fun w => kput_map (fun w => V.t (wayP w)) b _ w
  (refine WB.cons ?_; walk_at "q")
  walk_at "r"
  refine w_len_lst (v := .t (.lst (turns.map .int))) (xs := (turns.map PV.int).map .t) rfl (by simp; lia) ?_
  walk_at "r"
  refine v_eq ⟨_, rfl, ?_⟩
  have : ((((turns.map PV.int).map V.t).length : Int) == (bound : Int)) = false := by rw [Bool.eq_false_iff]; simp; lia
  rw [this]
  walk_at "r"
  refine v_notinD (.int here) (o := .ref j) hj rfl ?_
  rw [elk]
  refine ⟨_, rfl, ?_⟩
  cases hlk : b.lookup (.int here) with
  | none =>
   have hb1 : bNote b (.int here) turns = kput b (.int here) turns := by unfold bNote; rw [hlk]
   show WB _ _ _ _ _ _ _
   walk_at "r"
   refine w_len_lst (v := .t (.lst (turns.map .int))) (xs := (turns.map PV.int).map .t) rfl (by simp; lia) ?_
   walk_at "r"
   refine s_dct (.int here) hj rfl (by unfold bestV; simp; lia) ?_
   rw [show PV.tup [.int (((turns.map PV.int).map V.t).length : Int), .lst (turns.map .int)] = wayP turns by unfold wayP; simp, eput]
   refine WB.nil ?_
   exact fin _ hb1
  | some w =>
   rw [hlk] at elk
   show WTs _ _ _ _ _ _ _ _
   walk_at "r"
   refine w_len_lst (v := .t (.lst (turns.map .int))) (xs := (turns.map PV.int).map .t) rfl (by simp; lia) ?_
   walk_at "r"
   refine g_dct (.int here) (o := .ref j) hj rfl elk ?_
   rw [show PV.tup [.int (((turns.map PV.int).map V.t).length : Int), .lst (turns.map .int)] = wayP turns by unfold wayP; simp]
   refine v_ltW ⟨_, rfl, ?_⟩
   cases hw : ltW turns w with
   | true =>
    have hb1 : bNote b (.int here) turns = kput b (.int here) turns := by unfold bNote; rw [hlk]; simp [hw]
    walk_at "r"
    refine w_len_lst (v := .t (.lst (turns.map .int))) (xs := (turns.map PV.int).map .t) rfl (by simp; lia) ?_
    walk_at "r"
    refine s_dct (.int here) hj rfl (by unfold bestV; simp; lia) ?_
    rw [show PV.tup [.int (((turns.map PV.int).map V.t).length : Int), .lst (turns.map .int)] = wayP turns by unfold wayP; simp, eput]
    refine WB.nil ?_
    exact fin _ hb1
   | false =>
    have hb1 : bNote b (.int here) turns = b := by unfold bNote; rw [hlk]; simp [hw]
    refine WTs.or_nil ?_
    refine WB.nil ?_
    have := fin _ hb1
    rw [eb] at this
    exact this
end
noncomputable def keyI : Key → Int
 | .int i => i
 | _ => 0
noncomputable def pairsOf (b : Best) : List (List Int × Int) := b.map fun p => (p.2, keyI p.1)
noncomputable def dueP (ok : Bool) (names : List Str) : PV := if ok then .tup [pS "", pS "", .lst (names.map .str)] else .tup [pS "EMLINK", pS "Too many links", .lst []]
theorem lookup_mem_nodup {α : Type} : ∀ {b : List (Key × α)} {p : Key × α}, (b.map (·.1)).Nodup → p ∈ b → b.lookup p.1 = some p.2
 | [], _, _, h => nomatch h
 | q :: r, p, hn, h => by
  rw [List.map_cons, List.nodup_cons] at hn
  rw [List.lookup_cons]
  rcases List.mem_cons.mp h with rfl | h
  ·simp
  ·have : p.1 ≠ q.1 := fun e => hn.1 (e ▸ List.mem_map.mpr ⟨p, h, rfl⟩)
   have e : (p.1 == q.1) = false := by simpa using this
   rw [e]; exact lookup_mem_nodup hn.2 h
noncomputable def bpF (b : Best) (x : PV) : V := match x with | .int k => .t (.tup [wayP ((b.lookup (.int k)).getD []), .int k]) | _ => .t .none
noncomputable def nmF (x : PV) : V := match x with | .tup [_, .int k] => .t (.str (cn k)) | _ => .t .none
section
variable {Γ : Cx} {K : Frag} {n : Nat} {env : Env} {ρ : Rho} {σ : Sto}
theorem w_due_reached (W : Wd Γ K) {ls : List (List Nat)} {first bound : Nat} {Q : V → Sto → Prop} (hl : ls.length ≤ 6) (hls : ∀ l ∈ ls, l.length ≤ 100) (hn : ∀ l ∈ ls, ∀ x ∈ l, x < ls.length) (hb : bound ≤ 6) (hf : first < ls.length)
  (hF : (goF ls bound first [] []).1 = false → Q (.t (dueP false [])) σ)
  (hT : (goF ls bound first [] []).1 = true → ∀ ks : List (List Int × Int), ks.Perm (pairsOf (goF ls bound first [] []).2) → ks.Pairwise (fun a b => ltP a b = true) → Q (.t (dueP true (ks.map fun p => cn p.2))) σ) :
  WC Γ (n + 2 + bound) (.ref 775) [.t (leadsP ls), .t (.int first), .t (.int bound)] σ Q := by
 refine WC.up (m := n + 1 + bound + 1) (by lia) ?_
 refine WC.go (fd := fd66) (H_fd66 W) [ofString "leads", ofString "first", ofString "bound"] rfl rfl (bind3 _ _ _ fun z' z' z' => rfl) rfl fun L => ?_
 try with_reducible intro E
 (refine WB.cons ?_; walk_at "q")
 walk_at "x"
 refine WE.dict0 (f := .I) fun j hj => ?_
 walk_at "r"
 refine WE.listT ?_
 walk_at "r"
 refine w_go W hl hls hn hb bound first [] [] hf (by simp) ⟨by simp, fun p hp => nomatch hp⟩ (upd_self ..) ?_
 rw [upd_upd]
 refine ⟨_, rfl, ?_⟩
 have hbi := goF_inv (ls := ls) (fun l hl x hx => by have := hn l hl x hx; lia) bound first [] [] (by lia) ⟨by simp, fun p hp => nomatch hp⟩
 generalize goF ls bound first [] [] = r at *
 obtain ⟨ok, b⟩ := r
 dsimp only at hbi hF hT ⊢
 cases ok with
 | false =>
  show WB _ _ _ _ _ _ _
  walk_at "r"
  refine WE.listT ?_
  walk_at "r"
  refine ⟨σ, le_new hj, hF rfl⟩
 | true =>
  show WB _ _ _ _ _ _ _
  refine WB.nil ?_
  have e0 : bestV b = (b.map fun p => (p.1, wayP p.2)).map fun p => (p.1, V.t p.2) := by unfold bestV; rw [List.map_map]; rfl
  rw [e0]
  refine WB.frozeD (ρ := [(ofString "leads", .t (leadsP ls)), (ofString "first", .t (.int first)), (ofString "bound", .t (.int bound))]) (y := ofString "best") (kvs := b.map fun p => (p.1, wayP p.2)) hj ?_
  have hbl := hbi.len
  walk_at "r"
  refine WIt.lst ?_
  walk_at "r"
  refine WIt.dct ?_
  walk_at "r"
  refine ⟨_, _, rfl, by simp; lia, fun C => ?_⟩
  try with_reducible intro Ec rc
  refine WCp.each (fun z' => true) (bpF b) _ _ (fun x hx => ?_) ?_
  ·obtain ⟨p', hp', rfl⟩ := List.mem_map.mp hx
   obtain ⟨p, hp, rfl⟩ := List.mem_map.mp hp'
   obtain ⟨k, hk, e⟩ := hbi.2 p hp
   have hlk := lookup_mem_nodup hbi.1 hp
   rw [e] at hlk
   dsimp only
   rw [e]
   walk_at "r"
   refine ⟨lookup_put_new rfl, ?_⟩
   walk_at "r"
   refine ⟨rfl, rfl, fun z' => ?_⟩
   walk_at "r"
   refine g_dct (.int k) (o := .t (.dct .I (b.map fun p => (p.1, wayP p.2)))) ⟨rfl, rfl⟩ rfl (by rw [← e0, lookup_bestV, hlk]; rfl) ?_
   walk_at "r"
   refine ⟨rfl, ?_⟩
   show _ = V.t (.tup [wayP ((b.lookup (.int k)).getD []), .int k])
   rw [hlk]; rfl
  have eo : ([] : List V) ++ (((b.map fun p => (p.1, wayP p.2)).map fun p => p.1.pv).filter fun z' => true).map (bpF b) = ((pairsOf b).map pairP).map V.t := by
   rw [List.nil_append, List.filter_eq_self.mpr (fun z' z' => rfl), List.map_map, List.map_map]
   unfold pairsOf
   rw [List.map_map, List.map_map]
   refine List.map_congr_left fun p hp => ?_
   obtain ⟨k, hk, e⟩ := hbi.2 p hp
   have hlk := lookup_mem_nodup hbi.1 hp
   rw [e] at hlk
   show bpF b p.1.pv = V.t (pairP (p.2, keyI p.1))
   rw [e]
   show V.t (.tup [wayP ((b.lookup (.int k)).getD []), .int k]) = _
   rw [hlk]; rfl
  rw [eo]
  refine ⟨_, rfl, ?_⟩
  walk_at "r"
  refine w_sortedL (emb := pairP) (ks := pairsOf b) stoP ?_ (by unfold pairsOf; simp; lia) rfl (fun h2 g s vs sub hr => cmp_ways sub hr h2) fun ks' hp hs => ?_
  ·unfold pairsOf
   have hnd := hbi.1
   rw [List.nodup_iff_pairwise_ne] at hnd
   rw [List.pairwise_map] at hnd
   rw [List.nodup_iff_pairwise_ne, List.pairwise_map]
   refine List.Pairwise.imp_of_mem (fun {p q} hp hq hne e => hne ?_) hnd
   obtain ⟨k, _, e1⟩ := hbi.2 p hp
   obtain ⟨l, _, e2⟩ := hbi.2 q hq
   have := (Prod.mk.inj e).2
   rw [e1, e2] at this ⊢
   exact congrArg Key.int this
  have hl6 : ks'.length ≤ 6 := by rw [hp.length_eq]; unfold pairsOf; simp; lia
  refine ⟨_, rfl, by simp; lia, fun C => ?_⟩
  try with_reducible intro Ec rc
  refine WCp.each (fun z' => true) nmF _ _ (fun x hx => ?_) ?_
  ·obtain ⟨p, hm, rfl⟩ := List.mem_map.mp hx
   have hm' := hp.mem_iff.mp hm
   obtain ⟨q, hq, e⟩ := List.mem_map.mp (show p ∈ b.map fun p => (p.2, keyI p.1) from hm')
   obtain ⟨k, hk, e1⟩ := hbi.2 q hq
   have ep : p.2 = (k : Int) := by rw [← e]; show keyI q.1 = _; rw [e1]; rfl
   unfold pairP
   rw [ep]
   walk_at "r"
   refine ⟨(fun y d (h : Option.none = some d) => nomatch h), ?_⟩
   walk_at "r"
   refine ⟨rfl, rfl, fun z' => ?_⟩
   walk_at "r"
   refine w_str (by lia) ?_
   refine v_addS ?_ (cn_size (by lia))
   exact ⟨rfl, rfl⟩
  have eo : ([] : List V) ++ ((ks'.map pairP).filter fun z' => true).map nmF = ((ks'.map fun p => cn p.2).map PV.str).map V.t := by
   rw [List.nil_append, List.filter_eq_self.mpr (fun z' z' => rfl), List.map_map, List.map_map, List.map_map]; rfl
  rw [eo]
  refine ⟨_, rfl, ?_⟩
  walk_at "r"
  exact ⟨_, Sto.le_refl _, hT rfl ks' hp hs⟩
end
noncomputable abbrev Tg := List (Str × List Str)
noncomputable abbrev Cnt := List (Key × Int)
noncomputable def strsP (l : List Str) : PV := .lst (l.map .str)
noncomputable def tgK (ts : Tg) : List (Key × PV) := ts.map fun p => (.str p.1, strsP p.2)
noncomputable def tgP (ts : Tg) : PV := .dct .S (tgK ts)
noncomputable def tgOf (ts : Tg) (x : Str) : List Str := (ts.lookup x).getD []
noncomputable def cntOf (m : Cnt) (t : Str) : Int := (m.lookup (.str t)).getD 0
noncomputable def bump (s : Int) (m : Cnt) (t : Str) : Cnt := kput m (.str t) (cntOf m t + s)
noncomputable def cnt0 (ts : Tg) : Cnt := ts.foldl (fun m p => kput m (.str p.1) 0) []
noncomputable def inc1 (ts : Tg) : Cnt := ts.foldl (fun m p => p.2.foldl (bump 1) m) (cnt0 ts)
noncomputable def free0 (ts : Tg) : List Str := (ts.map (·.1)).filter fun x => cntOf (inc1 ts) x == 0
noncomputable def decS (p : Cnt × List Str) (t : Str) : Cnt × List Str := (bump (-1) p.1 t, if cntOf (bump (-1) p.1 t) t = 0 then p.2 ++ [t] else p.2)
structure KSt where
 taken : Nat
 into : Cnt
 free : List Str
noncomputable def kstep (ts : Tg) (st : KSt) : KSt :=
 ⟨st.taken + 1, ((tgOf ts (st.free.getD st.taken default)).foldl decS (st.into, st.free)).1, ((tgOf ts (st.free.getD st.taken default)).foldl decS (st.into, st.free)).2⟩
inductive KReach (ts : Tg) : KSt → Prop
 | start : KReach ts ⟨0, inc1 ts, free0 ts⟩
 | step {st : KSt} : st.taken < st.free.length → KReach ts st → KReach ts (kstep ts st)
noncomputable def posN (m : Cnt) : Nat := (m.filter fun p => decide (0 < p.2)).length
def CKeys (ts : Tg) (m : Cnt) : Prop := m.map (·.1) = ts.map fun p => Key.str p.1
structure TgOk (ts : Tg) : Prop where
 nd : (ts.map (·.1)).Nodup
 len : ts.length ≤ 6
 out : ∀ p ∈ ts, p.2.length ≤ 100
 cl : ∀ p ∈ ts, ∀ t ∈ p.2, t ∈ ts.map (·.1)
theorem lookup_kput {α : Type} (m : List (Key × α)) (k k' : Key) (v : α) : (kput m k v).lookup k' = if k' = k then some v else m.lookup k' := by
 induction m with
 | nil => exact lk_cons (k, v) [] k'
 | cons p r ih =>
  rw [kput_cons, lk_cons]
  by_cases h : p.1 = k
  ·rw [if_pos h, lk_cons, h]
   by_cases q : k' = k
   ·rw [if_pos q, if_pos q]
   ·rw [if_neg q, if_neg q, if_neg q]
  ·rw [if_neg h, lk_cons, ih]
   by_cases q : k' = p.1
   ·rw [if_pos q, if_pos q, if_neg fun e => h (q.symm.trans e)]
   ·rw [if_neg q, if_neg q]
theorem CKeys.has {ts : Tg} {m : Cnt} (h : CKeys ts m) {x : Str} (hx : x ∈ ts.map (·.1)) : m.lookup (.str x) = some (cntOf m x) := by
 have h1 : Key.str x ∈ m.map (·.1) := by
  rw [h]
  obtain ⟨p, hp, rfl⟩ := List.mem_map.mp hx
  exact List.mem_map.mpr ⟨p, hp, rfl⟩
 unfold cntOf
 cases e : m.lookup (.str x) with
 | some v => rfl
 | none =>
  obtain ⟨p, hp, e2⟩ := List.mem_map.mp h1
  have := List.lookup_eq_none_iff.mp e p hp
  rw [e2] at this; simp at this
theorem CKeys.bump {ts : Tg} {m : Cnt} (h : CKeys ts m) {x : Str} (hx : x ∈ ts.map (·.1)) (s : Int) : CKeys ts (bump s m x) := by
 unfold CKeys Mine.bump
 rw [kput_keys, if_pos]
 ·exact h
 ·rw [h]
  obtain ⟨p, hp, rfl⟩ := List.mem_map.mp hx
  exact List.mem_map.mpr ⟨p, hp, rfl⟩
theorem CKeys.len {ts : Tg} {m : Cnt} (h : CKeys ts m) : m.length = ts.length := by
 have := congrArg List.length h
 simpa using this
theorem posN_cons (p : Key × Int) (m : Cnt) : posN (p :: m) = (if 0 < p.2 then 1 else 0) + posN m := by
 unfold posN
 rw [List.filter_cons]
 by_cases h : 0 < p.2
 ·rw [if_pos (decide_eq_true h), if_pos h]; exact Nat.add_comm _ 1
 ·rw [if_neg (by rw [decide_eq_false h]; exact Bool.false_ne_true), if_neg h]; exact (Nat.zero_add _).symm
theorem posN_dec (m : Cnt) (k : Key) (v : Int) (h : m.lookup k = some v) : posN (kput m k (v + -1)) + (if v + -1 = 0 then 1 else 0) ≤ posN m := by
 induction m with
 | nil => cases h
 | cons p r ih =>
  rw [lk_cons] at h
  rw [kput_cons]
  by_cases e : k = p.1
  ·rw [if_pos e] at h
   rw [if_pos e.symm, posN_cons, posN_cons, Option.some.inj h]
   clear ih h e
   split <;> split <;> split <;> lia
  ·rw [if_neg e] at h
   rw [if_neg (Ne.symm e), posN_cons, posN_cons, Nat.add_assoc]
   exact Nat.add_le_add_left (ih h) _
structure DInv (ts : Tg) (p : Cnt × List Str) : Prop where
 keys : CKeys ts p.1
 names : ∀ x ∈ p.2, x ∈ ts.map (·.1)
set_option tactic.hygienic true in
theorem DInv.dec {ts : Tg} {p : Cnt × List Str} (h : DInv ts p) {t : Str} (ht : t ∈ ts.map (·.1)) : DInv ts (decS p t) ∧ posN (decS p t).1 + (decS p t).2.length ≤ posN p.1 + p.2.length := by
 have hk := h.keys.has ht
 have e2 : cntOf (bump (-1) p.1 t) t = cntOf p.1 t + -1 := by unfold cntOf bump; rw [lookup_kput, if_pos rfl]; rfl
 refine ⟨⟨h.keys.bump ht _, fun x hx => ?_⟩, ?_⟩
 ·unfold decS at hx
  dsimp only at hx
  split at hx
  ·rcases List.mem_append.mp hx with hx | hx
   ·exact h.names x hx
   ·rw [List.mem_singleton.mp hx]; exact ht
  ·exact h.names x hx
 ·have := posN_dec p.1 _ _ hk
  unfold decS
  dsimp only
  rw [e2]
  show posN (kput p.1 (.str t) (cntOf p.1 t + -1)) + _ ≤ _
  split at this
  ·rename_i q; rw [if_pos q, List.length_append]; simp; lia
  ·rename_i q; rw [if_neg q]; lia
theorem DInv.decs {ts : Tg} (l : List Str) (p : Cnt × List Str) (h : DInv ts p) (hl : ∀ t ∈ l, t ∈ ts.map (·.1)) : DInv ts (l.foldl decS p) ∧ posN (l.foldl decS p).1 + (l.foldl decS p).2.length ≤ posN p.1 + p.2.length ∧ p.2.length ≤ (l.foldl decS p).2.length := by
 induction l generalizing p with
 | nil => exact ⟨h, Nat.le_refl _, Nat.le_refl _⟩
 | cons t l ih =>
  obtain ⟨h1, h2⟩ := h.dec (hl t (.head _))
  obtain ⟨i1, i2, i3⟩ := ih _ h1 fun x hx => hl x (.tail _ hx)
  refine ⟨i1, Nat.le_trans i2 h2, Nat.le_trans ?_ i3⟩
  unfold decS
  dsimp only
  split
  ·rw [List.length_append]; exact Nat.le_add_right _ _
  ·exact Nat.le_refl _
theorem CKeys.bumps {ts : Tg} (l : List Str) (m : Cnt) (h : CKeys ts m) (hl : ∀ t ∈ l, t ∈ ts.map (·.1)) : CKeys ts (l.foldl (Mine.bump 1) m) := by
 induction l generalizing m with
 | nil => exact h
 | cons t l ih => exact ih _ (h.bump (hl t (.head _)) 1) fun x hx => hl x (.tail _ hx)
theorem CKeys.all {ts : Tg} (T : TgOk ts) (l : Tg) (m : Cnt) (h : CKeys ts m) (hl : ∀ p ∈ l, p ∈ ts) : CKeys ts (l.foldl (fun m p => p.2.foldl (Mine.bump 1) m) m) := by
 induction l generalizing m with
 | nil => exact h
 | cons p l ih => exact ih _ (h.bumps p.2 m (T.cl p (hl p (.head _)))) fun x hx => hl x (.tail _ hx)
theorem TgOk.tg {ts : Tg} (h : TgOk ts) {x : Str} (hx : x ∈ ts.map (·.1)) : (x, tgOf ts x) ∈ ts := by
 obtain ⟨p, hp, rfl⟩ := List.mem_map.mp hx
 have : ts.lookup p.1 = some p.2 := by
  have hn := h.nd
  clear hx h
  induction ts with
  | nil => cases hp
  | cons q r ih =>
   rw [List.map_cons, List.nodup_cons] at hn
   rw [List.lookup_cons]
   rcases List.mem_cons.mp hp with rfl | hp
   ·simp
   ·have : p.1 ≠ q.1 := fun e => hn.1 (e ▸ List.mem_map.mpr ⟨p, hp, rfl⟩)
    have e : (p.1 == q.1) = false := by simpa using this
    rw [e]; exact ih hp hn.2
 unfold tgOf
 rw [this]; exact hp
theorem TgOk.of {ts : Tg} (h : TgOk ts) {p : Str × List Str} (hp : p ∈ ts) : tgOf ts p.1 = p.2 := by
 have key : ∀ l : Tg, (l.map (·.1)).Nodup → p ∈ l → l.lookup p.1 = some p.2 := fun l hn hm => by
  induction l with
  | nil => cases hm
  | cons q r ih =>
   rw [List.map_cons, List.nodup_cons] at hn
   rw [lk_cons]
   rcases List.mem_cons.mp hm with e | hm
   ·rw [e, if_pos rfl]
   ·rw [if_neg fun e : p.1 = q.1 => hn.1 (e ▸ List.mem_map.mpr ⟨p, hm, rfl⟩)]; exact ih hn.2 hm
 unfold tgOf
 rw [key ts h.nd hp]; rfl
theorem tgK_lookup {ts : Tg} (h : TgOk ts) {x : Str} (hx : x ∈ ts.map (·.1)) : (tgK ts).lookup (.str x) = some (strsP (tgOf ts x)) := by
 have hm := h.tg hx
 refine lookup_mem_nodup (p := (Key.str x, strsP (tgOf ts x))) ?_ (List.mem_map.mpr ⟨_, hm, rfl⟩)
 have : (tgK ts).map (·.1) = (ts.map (·.1)).map Key.str := by unfold tgK; rw [List.map_map, List.map_map]; rfl
 rw [this]
 exact List.Pairwise.map _ (fun a b q q2 => q (by injection q2)) h.nd
noncomputable def frF (m : Cnt) (x : PV) : Bool := match x with | .str t => cntOf m t == 0 | _ => false
section
variable {Γ : Cx} {K : Frag} {n : Nat} {env : Env} {ρ : Rho} {σ : Sto}
theorem w_has_ring (W : Wd Γ K) {ts : Tg} {Q : V → Sto → Prop} (T : TgOk ts)
  (h : ∀ st, KReach ts st → st.free.length ≤ st.taken → Q (.t (.bool (decide (st.taken < ts.length)))) σ) :
  WC Γ (n + 1) (.ref 315) [.t (tgP ts)] σ Q := by
 have hdv : ∀ σ' : Sto, DctV σ' (.t (tgP ts)) .S ((tgK ts).map fun p => (p.1, V.t p.2)) := fun σ' => ⟨rfl, rfl⟩
 have hlen := T.len
 have eks : (tgK ts).map (fun p => p.1.pv) = ts.map fun p => PV.str p.1 := by unfold tgK; rw [List.map_map]; rfl
 refine WC.go (fd := fd29) (H_fd29 W) [ofString "targets"] rfl rfl (bind1 _ fun z' => rfl) rfl fun L => ?_
 try with_reducible intro E
 (refine WB.cons ?_; walk_at "q")
 walk_at "x"
 refine WE.dict0 (f := .S) fun jc hjc => ?_
 walk_at "r"
 refine WIt.dct ?_
 walk_at "r"
 refine ⟨_, _, rfl, ?_⟩
 rw [eks]
 refine WFor.over (fun p => PV.str p.1) (fun dn => upd σ jc (.dct .S (kvI (cnt0 dn)))) ts (fun dn p ur e0 => ?_) ?_ rfl rfl
 ·try clear Qt
  try with_reducible intro rt Qt
  have hdl : ∀ l : Tg, (cnt0 l).length ≤ l.length := fun l => by
   have : ∀ (l : Tg) (m : Cnt), (l.foldl (fun m p => kput m (.str p.1) 0) m).length ≤ m.length + l.length := fun l => by
    induction l with
    | nil => intro m; simp
    | cons q r ih => intro m; have := ih (kput m (.str q.1) 0); have := kput_length m (.str q.1) 0; simp at *; lia
   have := this l []
   unfold cnt0
   simpa using this
  have hd6 : dn.length ≤ 6 := by rw [e0] at hlen; simp at hlen; lia
  have := hdl dn
  walk_at "r"
  refine s_dct (.str p.1) (upd_self ..) rfl (by unfold kvI; simp; lia) ?_
  rw [upd_upd]
  walk_at "r"
  refine ⟨lookup_put_new rfl, _, Sto.le_refl _, ?_⟩
  have e : kput (kvI (cnt0 dn)) (.str p.1) (.t (.int 0)) = kvI (kput (cnt0 dn) (.str p.1) 0) := kput_map (fun i : Int => V.t (.int i)) _ _ _
  rw [e]
  have : cnt0 (dn ++ [p]) = kput (cnt0 dn) (.str p.1) 0 := by unfold cnt0; rw [List.foldl_append]; rfl
  rw [this]
 have hk0 : CKeys ts (cnt0 ts) := by
  have : ∀ (b a : Tg), ((a ++ b).map (·.1)).Nodup → b.foldl (fun m p => kput m (.str p.1) 0) (a.map fun p => (Key.str p.1, (0 : Int))) = (a ++ b).map fun p => (Key.str p.1, (0 : Int)) := fun b => by
   induction b with
   | nil => intro a _; simp
   | cons q r ih =>
    intro a hn
    rw [List.foldl_cons, kput_new]
    ·have := ih (a ++ [q]) (by simpa using hn)
     simpa using this
    ·intro hm
     rw [List.map_map] at hm
     obtain ⟨p, hp, e⟩ := List.mem_map.mp hm
     have e' : p.1 = q.1 := by injection e
     rw [List.map_append, List.nodup_append] at hn
     exact hn.2.2 _ (List.mem_map.mpr ⟨p, hp, rfl⟩) q.1 (by simp) e'
  have := this ts [] (by simpa using T.nd)
  unfold CKeys cnt0
  rw [show (ts.foldl (fun m p => kput m (.str p.1) 0) [] : Cnt) = _ from this]
  simp
 have hkv : ∀ {m : Cnt} {x : Str}, CKeys ts m → x ∈ ts.map (·.1) → (kvI m).lookup (.str x) = some (.t (.int (cntOf m x))) := fun {m x} hk hx => by rw [lookup_kvI, hk.has hx]; rfl
 have eput : ∀ (m : Cnt) (s : Int) (x : Str), kput (kvI m) (.str x) (.t (.int (cntOf m x + s))) = kvI (bump s m x) := fun m s x => kput_map (fun i : Int => V.t (.int i)) _ _ _
 have hml : ∀ {m : Cnt}, CKeys ts m → (kvI m).length ≤ 100000 := fun {m} hk => by have := hk.len; unfold kvI; simp; lia
 walk_at "r"
 refine WIt.dct ?_
 walk_at "r"
 refine ⟨_, _, rfl, ?_⟩
 rw [eks]
 refine WFor.over (fun p => PV.str p.1) (fun (dn : Tg) => upd σ jc (.dct .S (kvI (dn.foldl (fun m p => p.2.foldl (bump 1) m) (cnt0 ts))))) ts (fun dn p ur e0 => ?_) ?_ rfl rfl
 ·try clear Qt
  try with_reducible intro rt Qt
  have hp : p ∈ ts := by rw [e0]; simp
  have hm := hk0.all T dn _ fun q hq => by rw [e0]; exact List.mem_append.mpr (.inl hq)
  have ef : (dn ++ [p]).foldl (fun m p => p.2.foldl (bump 1) m) (cnt0 ts) = p.2.foldl (bump 1) (dn.foldl (fun m p => p.2.foldl (bump 1) m) (cnt0 ts)) := by rw [List.foldl_append]; rfl
  generalize dn.foldl (fun m p => p.2.foldl (bump 1) m) (cnt0 ts) = m at *
  have hpx : p.1 ∈ ts.map (·.1) := List.mem_map.mpr ⟨p, hp, rfl⟩
  have hlk := tgK_lookup T hpx
  rw [T.of hp] at hlk
  walk_at "r"
  refine WIt.lst ?_
  walk_at "r"
  refine g_dct (.str p.1) (o := .t (tgP ts)) (hdv _) rfl (lookup_mapT hlk) ?_
  refine ⟨_, rfl, ?_⟩
  refine WFor.over .str (fun (d2 : List Str) => upd σ jc (.dct .S (kvI (d2.foldl (bump 1) m)))) p.2 (fun d2 t r e2 => ?_) ?_ rfl rfl
  ·try clear Qt
   try with_reducible intro rt Qt
   have ht := T.cl p hp t (by rw [e2]; simp)
   have hm' := hm.bumps d2 m fun x hx => T.cl p hp x (by rw [e2]; exact List.mem_append.mpr (.inl hx))
   have ef2 : (d2 ++ [t]).foldl (bump 1) m = bump 1 (d2.foldl (bump 1) m) t := by rw [List.foldl_append]; rfl
   generalize d2.foldl (bump 1) m = m' at *
   walk_at "r"
   refine g_dct (.str t) (o := .ref jc) (upd_self ..) rfl (hkv hm' ht) ?_
   walk_at "r"
   refine v_iadd ?_
   refine s_dct (.str t) (upd_self ..) rfl (hml hm') ?_
   rw [upd_upd, eput]
   walk_at "r"
   exact ⟨lookup_put_new rfl, _, Sto.le_refl _, by rw [ef2]⟩
  ·walk_at "r"
   exact ⟨lookup_put_new rfl, _, Sto.le_refl _, by rw [ef]⟩
 have hm : CKeys ts (inc1 ts) := hk0.all T ts _ fun q hq => hq
 rw [show ts.foldl (fun m p => p.2.foldl (bump 1) m) (cnt0 ts) = inc1 ts from rfl]
 walk_at "r"
 refine WIt.dct ?_
 walk_at "r"
 refine ⟨_, _, rfl, by rw [List.length_map]; unfold tgK; simp; lia, fun C => ?_⟩
 try with_reducible intro Ec rc
 rw [eks]
 refine WCp.each (frF (inc1 ts)) V.t _ _ (fun x hx => ?_) ?_
 ·obtain ⟨p, hp, rfl⟩ := List.mem_map.mp hx
  have hpx : p.1 ∈ ts.map (·.1) := List.mem_map.mpr ⟨p, hp, rfl⟩
  walk_at "r"
  refine ⟨lookup_put_new rfl, ?_⟩
  walk_at "r"
  refine g_dct (.str p.1) (o := .ref jc) (upd_self ..) rfl (hkv hm hpx) ?_
  walk_at "r"
  refine v_eq ⟨_, rfl, rfl, rfl, fun z' => ?_⟩
  walk_at "r"
  exact ⟨rfl, rfl⟩
 intro jf hjf
 have hne : jf ≠ jc := ne_none hjf
 have eo : ([] : List V) ++ ((ts.map fun p => PV.str p.1).filter (frF (inc1 ts))).map V.t = ((free0 ts).map PV.str).map V.t := by
  rw [List.nil_append]; unfold free0
  rw [List.filter_map, List.filter_map, List.map_map, List.map_map, List.map_map]; rfl
 rw [eo]
 have hD0 : DInv ts (inc1 ts, free0 ts) := ⟨hm, fun x hx => (List.mem_filter.mp hx).1⟩
 have hP0 : posN (inc1 ts) + (free0 ts).length ≤ 12 := by
  have h1 : (free0 ts).length ≤ ts.length := by unfold free0; exact Nat.le_trans (List.length_filter_le _ _) (by simp)
  have h2 : posN (inc1 ts) ≤ (inc1 ts).length := List.length_filter_le _ _
  have := hm.len
  lia
 walk_at "r"
 refine WWh.run (α := KSt) (fun st => [(ofString "targets", .t (tgP ts)), (ofString "into", .ref jc), (ofString "free", .ref jf), (ofString "taken", .t (.int st.taken))])
  (fun st σ' => KReach ts st ∧ DInv ts (st.into, st.free) ∧ posN st.into + st.free.length ≤ 12 ∧ st.taken ≤ st.free.length ∧ σ' = upd (upd σ jc (.dct .S (kvI st.into))) jf (.lst ((st.free.map .str).map .t)))
  (fun st => posN st.into + st.free.length - st.taken) (fun st σ' hI => ?_) _ ⟨0, inc1 ts, free0 ts⟩ _ (Nat.le_refl _) ⟨.start, hD0, hP0, Nat.zero_le _, rfl⟩
 obtain ⟨hR, hD, hP, hle, rfl⟩ := hI
 walk_at "r"
 refine w_len_lst (v := .ref jf) (upd_self ..) (by simp; lia) ?_
 rw [show (((st.free.map PV.str).map V.t).length : Int) = st.free.length by simp]
 refine v_lt ⟨_, rfl, ?_⟩
 cases hc : decide ((st.taken : Int) < st.free.length) with
 | false =>
  have hc' : st.free.length ≤ st.taken := by simp at hc; lia
  show WB _ _ _ _ _ _ _
  walk_at "r"
  refine w_len_dct (o := .t (tgP ts)) (hdv _) (by rw [List.length_map]; unfold tgK; simp; lia) ?_
  rw [show ((((tgK ts).map fun p => (p.1, V.t p.2)).length : Nat) : Int) = ts.length by unfold tgK; simp]
  refine v_lt ?_
  have e : decide ((st.taken : Int) < (ts.length : Int)) = decide (st.taken < ts.length) := by rw [Bool.eq_iff_iff]; simp
  rw [e]
  refine ⟨σ, ?_, h st hR hc'⟩
  exact Sto.le_trans (le_new hjc) (le_new (by rw [upd_ne _ _ hne] at hjf ⊢; exact hjf))
 | true =>
  have hc' : st.taken < st.free.length := by simpa using hc
  show WB _ _ _ _ _ _ _
  have hgf : st.free[st.taken]? = some (st.free.getD st.taken default) := by rw [List.getD_eq_getElem?_getD, List.getElem?_eq_getElem hc']; rfl
  have hfm := hD.names _ (List.mem_of_getElem? hgf)
  have hlk := tgK_lookup T hfm
  have hks : kstep ts st = ⟨st.taken + 1, ((tgOf ts (st.free.getD st.taken default)).foldl decS (st.into, st.free)).1, ((tgOf ts (st.free.getD st.taken default)).foldl decS (st.into, st.free)).2⟩ := rfl
  have hcl := T.cl _ (T.tg hfm)
  have hstep := KReach.step hc' hR
  rw [hks] at hstep
  dsimp only at hcl
  generalize st.free.getD st.taken default = x at *
  generalize hxs : tgOf ts x = xs at *
  walk_at "r"
  refine WIt.lst ?_
  walk_at "r"
  refine g_lst (v := .ref jf) (d := .t (.str x)) (upd_self ..) (by lia) (by lia) (by rw [Int.toNat_natCast, List.getElem?_map, List.getElem?_map, hgf]; rfl) ?_
  refine g_dct (.str x) (o := .t (tgP ts)) (hdv _) rfl (lookup_mapT hlk) ?_
  refine ⟨_, rfl, ?_⟩
  refine WFor.over .str (fun (dn : List Str) => upd (upd σ jc (.dct .S (kvI (dn.foldl decS (st.into, st.free)).1))) jf (.lst (((dn.foldl decS (st.into, st.free)).2.map .str).map .t))) xs (fun dn t r e2 => ?_) ?_ rfl rfl
  ·try clear Qt
   try with_reducible intro rt Qt
   have ht := hcl t (by rw [e2]; simp)
   obtain ⟨hDp, hPp, hlp⟩ := hD.decs dn _ fun y hy => hcl y (by rw [e2]; exact List.mem_append.mpr (.inl hy))
   have ep : (dn ++ [t]).foldl decS (st.into, st.free) = decS (dn.foldl decS (st.into, st.free)) t := by rw [List.foldl_append]; rfl
   generalize dn.foldl decS (st.into, st.free) = p at *
   have hds : decS p t = (bump (-1) p.1 t, if cntOf (bump (-1) p.1 t) t = 0 then p.2 ++ [t] else p.2) := rfl
   have hkb := hDp.keys.bump ht (-1)
   walk_at "r"
   refine g_dct (.str t) (o := .ref jc) (upd_ne' (upd_self ..) hne.symm) rfl (hkv hDp.keys ht) ?_
   walk_at "r"
   refine v_isub ?_
   refine s_dct (.str t) (upd_ne' (upd_self ..) hne.symm) rfl (hml hDp.keys) ?_
   rw [upd_comm hne, upd_upd, show cntOf p.1 t - 1 = cntOf p.1 t + -1 by lia, eput]
   generalize hm2 : bump (-1) p.1 t = m2 at *
   walk_at "r"
   refine g_dct (.str t) (o := .ref jc) (upd_ne' (upd_self ..) hne.symm) rfl (hkv hkb ht) ?_
   walk_at "r"
   refine v_eq ⟨_, rfl, ?_⟩
   cases hz : (cntOf m2 t == 0) with
   | true =>
    have hz' : cntOf m2 t = 0 := by simpa using hz
    walk_at "r"
    refine ⟨BTy.lst (v := .ref jf) (upd_self ..), ?_⟩
    walk_at "r"
    refine w_append (upd_self ..) (by simp; lia) ?_
    rw [upd_upd]
    walk_at "r"
    refine ⟨lookup_put_new rfl, _, Sto.le_refl _, ?_⟩
    rw [ep, hds, if_pos hz']
    simp
   | false =>
    have hz' : ¬ cntOf m2 t = 0 := by simpa using hz
    walk_at "r"
    exact ⟨lookup_put_new rfl, _, Sto.le_refl _, by rw [ep, hds, if_neg hz']⟩
  ·obtain ⟨hDp, hPp, hlp⟩ := hD.decs xs _ hcl
   generalize xs.foldl decS (st.into, st.free) = p at *
   have hstep : KReach ts ⟨st.taken + 1, p.1, p.2⟩ := hstep
   walk_at "r"
   refine v_iadd ?_
   walk_at "r"
   refine ⟨⟨st.taken + 1, p.1, p.2⟩, _, ?_, ?_, Sto.le_refl _, hstep, hDp, by dsimp only; lia, by dsimp only; lia, rfl⟩
   ·show posN p.1 + p.2.length - (st.taken + 1) < posN st.into + st.free.length - st.taken
    lia
   ·exact fun y d hy => hy
end
theorem cn_ne (n : Int) : cn n ≠ ofString "" := fun h => by
 have := congrArg (fun x : Str => x.cps.size) h
 have h1 : (ofString "c").cps.size = 1 := by decide
 have h2 : (ofString "").cps.size = 0 := by decide
 have h3 : (cn n).cps.size = (ofString "c").cps.size + (Str.ofString (toString n)).cps.size := by
  show ((ofString "c").cps ++ (Str.ofString (toString n)).cps).size = _
  exact Array.size_append
 have this : (cn n).cps.size = (ofString "").cps.size := this
 lia
theorem verd_to {w : Str} {n : Int} (h : 0 ≤ n) : verd w n = vP w (cn n) := by unfold verd; rw [if_pos h]
theorem verd_no {w : Str} {n : Int} (h : ¬ 0 ≤ n) : verd w n = vP (ofString "return") (ofString "") := by unfold verd; rw [if_neg h]
theorem chainT_cn (n : Int) : chainT (cn n) = [chainU n] := by unfold chainT; rw [if_neg (cn_ne n)]; rfl
theorem chainT_no : chainT (ofString "") = [] := by unfold chainT; rw [if_pos rfl]
theorem uses_verd (w : Str) (n : Int) : UsesS (.tup [pS "verdict", verd w n]) (if 0 ≤ n then [chainU n] else []) := by
 by_cases h : 0 ≤ n
 ·rw [if_pos h, verd_to h, ← chainT_cn]; exact .verdict
 ·rw [if_neg h, verd_no h, ← chainT_no]; exact .verdict
theorem uses_lit {a c d : PV} (w : Str) (n : Int) : UsesL (.tup [a, verd w n, c, d]) (if 0 ≤ n then [chainU n] else []) := by
 by_cases h : 0 ≤ n
 ·rw [if_pos h, verd_to h]
  have := @UsesL.verd a c d w (cn n)
  rw [if_neg (cn_ne n)] at this
  exact this
 ·rw [if_neg h, verd_no h]
  have := @UsesL.verd a c d (ofString "return") (ofString "")
  rw [if_pos rfl] at this
  exact this
theorem looked_uses {d : Nat} : UsesE (d + 1) lookedP [.tup [pS "set", pS "m2"]] := .map (u := []) .field (.ref (x := ofString "m2"))
theorem keyed_uses {d : Nat} : UsesE (d + 1) keyedP [] := .map (u := []) (v := []) .field (UsesW.map (us := [[]]) (.cons .key .nil))
theorem beside_uses {w : Nat} (h : w < 10) : UsesS (besideS w) (besideU w) := by
 have : w = 0 ∨ w = 1 ∨ w = 2 ∨ w = 3 ∨ w = 4 ∨ w = 5 ∨ w = 6 ∨ w = 7 ∨ w = 8 ∨ w = 9 := by lia
 rcases this with rfl | rfl | rfl | rfl | rfl | rfl | rfl | rfl | rfl | rfl
 ·exact .log
 ·exact .object
 ·exact .match_ (u := [.tup [pS "set", pS "m2"]]) (v := [.tup [pS "set", pS "s"]]) (.concat (us := [[], [.tup [pS "set", pS "m2"]]]) (.cons .field (.cons looked_uses .nil))) (.ref (x := ofString "s"))
 ·exact .set (.other rfl keyed_uses)
 ·exact .natMap (r := [.tup [pS "field", pS "ip saddr"], .tup [pS "ref", pS "m3"]]) (.map (u := []) .field (.ref (x := ofString "m3")))
 ·exact .natNone
 ·exact .dynset (u := [.tup [pS "set", pS "m2"]]) (.other rfl looked_uses)
 ·exact .expect
 ·exact .flow
 ·exact .match_ (u := [.tup [pS "set", pS "m2"]]) (v := []) looked_uses .set
theorem beside_cells {w : Nat} (h : w < 10) : CellS (besideS w) false := by
 have : w = 0 ∨ w = 1 ∨ w = 2 ∨ w = 3 ∨ w = 4 ∨ w = 5 ∨ w = 6 ∨ w = 7 ∨ w = 8 ∨ w = 9 := by lia
 rcases this with rfl | rfl | rfl | rfl | rfl | rfl | rfl | rfl | rfl | rfl
 ·exact .other rfl rfl
 ·exact .other rfl rfl
 ·exact .other rfl rfl
 ·exact .other rfl rfl
 ·exact .other rfl rfl
 ·exact .other rfl rfl
 ·exact .dyn
 ·exact .other rfl rfl
 ·exact .other rfl rfl
 ·exact .other rfl rfl
theorem beside_tgts {w : Nat} (h : w < 10) (sets : List (Key × PV)) : TgtS sets (besideS w) [] := by
 have : w = 0 ∨ w = 1 ∨ w = 2 ∨ w = 3 ∨ w = 4 ∨ w = 5 ∨ w = 6 ∨ w = 7 ∨ w = 8 ∨ w = 9 := by lia
 rcases this with rfl | rfl | rfl | rfl | rfl | rfl | rfl | rfl | rfl | rfl <;> exact .other rfl rfl
theorem uses_stmts {N : Nat} {r : Row} (hr : r.ok N) : ∃ us, UsesSs (stmtsP r) us ∧ us.flatten = toldU r ∧ (toldU r).length ≤ 100 := by
 obtain ⟨home, form, a, b, which⟩ := r
 obtain ⟨hh, hf, ha, hb, hw⟩ := hr
 dsimp only at hh hf ha hb hw
 have hbs := beside_uses (w := which.toNat) (by lia)
 have hbl := beside_small which.toNat (by lia)
 have hc : form = 0 ∨ form = 1 ∨ form = 2 ∨ form = 3 ∨ form = 4 := by lia
 have g1 : ∀ n : Int, ([n].filter fun n => decide (0 ≤ n)).map chainU = if 0 ≤ n then [chainU n] else [] := fun n => by
  by_cases h : 0 ≤ n <;> simp [h]
 have g2 : ∀ n m : Int, ([n, m].filter fun n => decide (0 ≤ n)).map chainU = (if 0 ≤ n then [chainU n] else []) ++ if 0 ≤ m then [chainU m] else [] := fun n m => by
  by_cases h : 0 ≤ n <;> by_cases h2 : 0 ≤ m <;> simp [h, h2]
 have l1 : ∀ n : Int, (if 0 ≤ n then [chainU n] else []).length ≤ 1 := fun n => by split <;> simp
 rcases hc with rfl | rfl | rfl | rfl | rfl
 ·refine ⟨[_, _], .cons hbs (.cons (uses_verd _ a) .nil), ?_, ?_⟩
  ·show besideU which.toNat ++ (_ ++ []) = besideU which.toNat ++ _
   rw [List.append_nil, ← g1]; rfl
  ·show (besideU which.toNat ++ ([a].filter fun n => decide (0 ≤ n)).map chainU).length ≤ 100
   rw [g1, List.length_append]
   have := l1 a
   lia
 ·refine ⟨[_], .cons (uses_verd _ a) .nil, ?_, ?_⟩
  ·show _ ++ [] = [] ++ _
   rw [List.append_nil, List.nil_append, ← g1]; rfl
  ·show ([] ++ ([a].filter fun n => decide (0 ≤ n)).map chainU).length ≤ 100
   rw [g1, List.nil_append]
   have := l1 a
   lia
 ·have hacc : UsesL (.tup [.tup [.tup [.int 2, .int 5]], .tup [pS "accept", pS ""], .int 0, pS ""]) [] := by
   have := @UsesL.verd (.tup [.tup [.int 2, .int 5]]) (.int 0) (pS "") (ofString "accept") (ofString "")
   rw [if_pos rfl] at this
   exact this
  refine ⟨[[], _], .cons .counter (.cons (.vmap (u := []) .field (.map (.cons (uses_lit _ a) (.cons hacc (.cons (uses_lit _ b) .nil))))) .nil), ?_, ?_⟩
  ·show [] ++ (([] ++ (_ ++ ([] ++ (_ ++ [])))) ++ []) = [] ++ _
   rw [List.append_nil, List.append_nil, List.nil_append, List.nil_append, List.nil_append, List.nil_append, ← g2]; rfl
  ·show ([] ++ ([a, b].filter fun n => decide (0 ≤ n)).map chainU).length ≤ 100
   rw [g2, List.nil_append, List.length_append]
   have := l1 a
   have := l1 b
   lia
 ·exact ⟨[_], .cons (.vmap (u := []) .field (.ref (x := ofString "m0"))) .nil, rfl, Nat.le_of_ble_eq_true rfl⟩
 ·refine ⟨[_, _], .cons hbs (.cons (.vmap (u := [.tup [pS "set", pS "m2"]]) (.other rfl (.map (d := 1) (u := []) .field (.ref (x := ofString "m2")))) (.ref (x := ofString "m1"))) .nil), ?_, ?_⟩
  ·show besideU which.toNat ++ _ = besideU which.toNat ++ _
   rfl
  ·show (besideU which.toNat ++ [setU "m2", setU "m1"]).length ≤ 100
   rw [List.length_append]; simp; lia
theorem cells_stmts {N : Nat} {r : Row} (hr : r.ok N) : (∃ bs, CellSs (stmtsP r) bs) ∧ (stmtsP r).length ≤ 100 := by
 obtain ⟨home, form, a, b, which⟩ := r
 obtain ⟨hh, hf, ha, hb, hw⟩ := hr
 dsimp only at hh hf ha hb hw
 have hbs := beside_cells (w := which.toNat) (by lia)
 have hc : form = 0 ∨ form = 1 ∨ form = 2 ∨ form = 3 ∨ form = 4 := by lia
 rcases hc with rfl | rfl | rfl | rfl | rfl
 ·exact ⟨⟨_, .cons hbs (.cons (.other rfl rfl) .nil)⟩, by show 2 ≤ 100; decide⟩
 ·exact ⟨⟨_, .cons (.other rfl rfl) .nil⟩, by show 1 ≤ 100; decide⟩
 ·exact ⟨⟨_, .cons .counter (.cons (.other rfl rfl) .nil)⟩, by show 2 ≤ 100; decide⟩
 ·exact ⟨⟨_, .cons (.other rfl rfl) .nil⟩, by show 1 ≤ 100; decide⟩
 ·exact ⟨⟨_, .cons hbs (.cons (.other rfl rfl) .nil)⟩, by show 2 ≤ 100; decide⟩
noncomputable def usesF (m : Cnt) (e : Key × Int) : Cnt := addUse m e.1 e.2
noncomputable def stepF (m : List (Key × List Int)) (e : Key × Int) : List (Key × List Int) := kput m e.1 ((m.lookup e.1).getD [] ++ [e.2])
noncomputable def dueS (m : Cnt) (p : Key × List Int) : Cnt := if 0 < leftOf p.2 then kput m p.1 (leftOf p.2) else m
noncomputable def dueF (steps : List (Key × List Int)) : Cnt := steps.foldl dueS []
noncomputable def seqOf (k : Key) (E : List (Key × Int)) : List Int := (E.filter fun e => e.1 = k).map (·.2)
theorem left_from (l : List Int) (b t : Int) (h : t ≤ b) : (l.foldl leftS (b, t)).1 = max b (t + (l.foldl leftS (0, 0)).1) := by
 induction l generalizing b t with
 | nil => show b = max b (t + 0); rw [Int.add_zero, Int.max_eq_left h]
 | cons x l ih =>
  show (l.foldl leftS (max b (t + x), t + x)).1 = max b (t + (l.foldl leftS (max 0 (0 + x), 0 + x)).1)
  rw [ih _ _ (Int.le_max_right _ _), ih _ (0 + x) (Int.le_max_right _ _), Int.zero_add]
  generalize (l.foldl leftS (0, 0)).1 = y
  rw [← Int.max_add_left, ← Int.max_add_left, Int.add_zero, ← Int.max_assoc, ← Int.max_assoc, Int.max_eq_left h, Int.add_assoc]
theorem left_nonneg (s : List Int) : 0 ≤ leftOf s := by
 unfold leftOf
 cases s.reverse with
 | nil => exact Int.le_refl _
 | cons x l =>
  show 0 ≤ (l.foldl leftS (max 0 (0 + x), 0 + x)).1
  rw [left_from l _ _ (Int.le_max_right _ _)]
  exact Int.le_trans (Int.le_max_left 0 _) (Int.le_max_left _ _)
theorem left_snoc (s : List Int) (x : Int) : leftOf (s ++ [x]) = max 0 (leftOf s + x) := by
 have h := left_nonneg s
 unfold leftOf at *
 rw [List.reverse_append, List.reverse_singleton, List.singleton_append]
 show (s.reverse.foldl leftS (max 0 (0 + x), 0 + x)).1 = _
 rw [left_from _ _ _ (Int.le_max_right _ _), Int.zero_add, Int.max_assoc, Int.max_eq_right (Int.le_add_of_nonneg_right h), Int.add_comm]
theorem seq_snoc (k : Key) (E : List (Key × Int)) (e : Key × Int) : seqOf k (E ++ [e]) = if e.1 = k then seqOf k E ++ [e.2] else seqOf k E := by
 unfold seqOf
 rw [List.filter_append, List.map_append]
 by_cases h : e.1 = k <;> simp [h]
theorem snoc_ind {α : Type} {P : List α → Prop} (h0 : P []) (h1 : ∀ l a, P l → P (l ++ [a])) (l : List α) : P l := by
 have : ∀ r : List α, P r.reverse := fun r => by
  induction r with
  | nil => exact h0
  | cons a r ih => rw [List.reverse_cons]; exact h1 _ _ ih
 have := this l.reverse
 rwa [List.reverse_reverse] at this
theorem kdel_nodup {α : Type} {m : List (Key × α)} (h : (m.map (·.1)).Nodup) (k : Key) : ((kdel m k).map (·.1)).Nodup := ((kdel_sub m k).map _).nodup h
theorem lookup_kdel {α : Type} {m : List (Key × α)} (h : (m.map (·.1)).Nodup) (k k' : Key) : (kdel m k).lookup k' = if k' = k then Option.none else m.lookup k' := by
 induction m with
 | nil => exact (ite_self _).symm
 | cons p r ih =>
  rw [List.map_cons, List.nodup_cons] at h
  rw [kdel_cons, lk_cons]
  by_cases e : p.1 = k
  ·rw [if_pos e, e]
   by_cases q : k' = k
   ·rw [if_pos q]; exact lookup_none (q ▸ e ▸ h.1)
   ·rw [if_neg q, if_neg q]
  ·rw [if_neg e, lk_cons, ih h.2]
   by_cases q : k' = p.1
   ·rw [if_pos q, if_pos q, if_neg fun z => e (q.symm.trans z)]
   ·rw [if_neg q, if_neg q]
theorem steps_fold (E : List (Key × Int)) : ((E.foldl stepF []).map (·.1)).Nodup ∧ ∀ k, (E.foldl stepF []).lookup k = if seqOf k E = [] then Option.none else some (seqOf k E) := by
 refine snoc_ind (P := fun E => ((E.foldl stepF []).map (·.1)).Nodup ∧ ∀ k, (E.foldl stepF []).lookup k = if seqOf k E = [] then Option.none else some (seqOf k E)) ⟨by simp, fun k => by simp [seqOf]⟩ (fun E e ih => ?_) E
 rw [List.foldl_append]
 refine ⟨kput_nodup ih.1 _ _, fun k => ?_⟩
 show (kput _ e.1 _).lookup k = _
 rw [lookup_kput, ih.2, ih.2, seq_snoc]
 by_cases h : k = e.1
 ·subst h
  have hne : seqOf e.1 E ++ [e.2] ≠ [] := by simp
  rw [if_pos rfl, if_pos rfl, if_neg hne]
  by_cases q : seqOf e.1 E = []
  ·rw [if_pos q, q]; rfl
  ·rw [if_neg q]; rfl
 ·rw [if_neg h, if_neg (Ne.symm h)]
set_option tactic.hygienic true in
theorem uses_fold (E : List (Key × Int)) : ((E.foldl usesF []).map (·.1)).Nodup ∧ ∀ k, (E.foldl usesF []).lookup k = if 0 < leftOf (seqOf k E) then some (leftOf (seqOf k E)) else Option.none := by
 refine snoc_ind (P := fun E => ((E.foldl usesF []).map (·.1)).Nodup ∧ ∀ k, (E.foldl usesF []).lookup k = if 0 < leftOf (seqOf k E) then some (leftOf (seqOf k E)) else Option.none) ⟨by simp, fun k => by simp [seqOf, leftOf]⟩ (fun E e ih => ?_) E
 rw [List.foldl_append]
 show ((addUse _ e.1 e.2).map (·.1)).Nodup ∧ ∀ k, (addUse _ e.1 e.2).lookup k = _
 generalize E.foldl usesF [] = m at *
 have hg : (m.lookup e.1).getD 0 = leftOf (seqOf e.1 E) := by
  rw [ih.2]
  have := left_nonneg (seqOf e.1 E)
  split
  ·rfl
  ·simp; lia
 unfold addUse
 rw [hg]
 have hk : ∀ k, k ≠ e.1 → seqOf k (E ++ [e]) = seqOf k E := fun k h => by rw [seq_snoc, if_neg (Ne.symm h)]
 have he : leftOf (seqOf e.1 (E ++ [e])) = max 0 (leftOf (seqOf e.1 E) + e.2) := by rw [seq_snoc, if_pos rfl, left_snoc]
 have hnn := left_nonneg (seqOf e.1 E)
 by_cases h : 0 < leftOf (seqOf e.1 E) + e.2
 ·rw [if_pos h]
  refine ⟨kput_nodup ih.1 _ _, fun k => ?_⟩
  rw [lookup_kput]
  by_cases q : k = e.1
  ·rw [q, if_pos rfl, he, Int.max_eq_right (Int.le_of_lt h), if_pos h]
  ·rw [if_neg q, hk k q, ih.2]
 ·rw [if_neg h]
  have he0 : leftOf (seqOf e.1 (E ++ [e])) = 0 := by rw [he]; exact Int.max_eq_left (Int.not_lt.mp h)
  split
  ·refine ⟨kdel_nodup ih.1 _, fun k => ?_⟩
   rw [lookup_kdel ih.1]
   by_cases q : k = e.1
   ·rw [q, if_pos rfl, he0]; rfl
   ·rw [if_neg q, hk k q, ih.2]
  ·rename_i hs
   refine ⟨ih.1, fun k => ?_⟩
   by_cases q : k = e.1
   ·rw [q, he0]
    cases hl : m.lookup e.1 with
    | none => rfl
    | some v => rw [hl] at hs; exact absurd rfl hs
   ·rw [hk k q, ih.2]
theorem due_fold (st : List (Key × List Int)) (hn : (st.map (·.1)).Nodup) : ((dueF st).map (·.1)).Nodup ∧ ∀ k, (dueF st).lookup k = match st.lookup k with | some s => if 0 < leftOf s then some (leftOf s) else Option.none | Option.none => Option.none := by
 revert hn
 refine snoc_ind (P := fun st => (st.map (·.1)).Nodup → ((dueF st).map (·.1)).Nodup ∧ ∀ k, (dueF st).lookup k = match st.lookup k with | some s => if 0 < leftOf s then some (leftOf s) else Option.none | Option.none => Option.none) (fun z' => ⟨by simp [dueF], fun k => rfl⟩) (fun st p ih hn => ?_) st
 rw [List.map_append, List.nodup_append] at hn
 obtain ⟨h1, h2⟩ := ih hn.1
 have hp : p.1 ∉ st.map (·.1) := fun q => hn.2.2 _ q p.1 (by simp) rfl
 have hlp := lookup_none hp
 have e : dueF (st ++ [p]) = dueS (dueF st) p := by unfold dueF; rw [List.foldl_append]; rfl
 rw [e]
 have hl : ∀ k, (st ++ [p]).lookup k = if k = p.1 then some p.2 else st.lookup k := fun k => by
  rw [List.lookup_append, List.lookup_cons, List.lookup_nil]
  by_cases q : k = p.1
  ·rw [q, hlp, if_pos rfl]; simp
  ·have : (k == p.1) = false := by simpa using q
   rw [this, if_neg q]; simp
 unfold dueS
 by_cases h : 0 < leftOf p.2
 ·rw [if_pos h]
  refine ⟨kput_nodup h1 _ _, fun k => ?_⟩
  rw [lookup_kput, hl, h2]
  by_cases q : k = p.1
  ·rw [if_pos q, if_pos q]; simp [h]
  ·rw [if_neg q, if_neg q]
 ·rw [if_neg h]
  refine ⟨h1, fun k => ?_⟩
  rw [hl, h2]
  by_cases q : k = p.1
  ·rw [if_pos q, q, hlp]; simp [h]
  ·rw [if_neg q]
theorem uses_due (E : List (Key × Int)) : sameI (E.foldl usesF []) (dueF (E.foldl stepF [])) = true := by
 obtain ⟨s1, s2⟩ := steps_fold E
 obtain ⟨u1, u2⟩ := uses_fold E
 obtain ⟨d1, d2⟩ := due_fold _ s1
 have hl : ∀ k, (dueF (E.foldl stepF [])).lookup k = (E.foldl usesF []).lookup k := fun k => by
  rw [d2, s2, u2]
  by_cases h : seqOf k E = []
  ·rw [if_pos h, h]; rfl
  ·rw [if_neg h]
 have hm : ∀ {m m' : Cnt}, (∀ k, m.lookup k = m'.lookup k) → ∀ k, k ∈ m.map (·.1) → k ∈ m'.map (·.1) := fun {m m'} h k hk => Classical.byContradiction fun q => by
  have h1 := lookup_none q
  rw [← h] at h1
  obtain ⟨p, hp, e⟩ := List.mem_map.mp hk
  have := List.lookup_eq_none_iff.mp h1 p hp
  rw [e] at this; simp at this
 have hp : ((E.foldl usesF []).map (·.1)).Perm ((dueF (E.foldl stepF [])).map (·.1)) := (List.perm_ext_iff_of_nodup u1 d1).mpr fun k => ⟨hm (fun k => (hl k).symm) k, hm hl k⟩
 unfold sameI
 rw [Bool.and_eq_true]
 refine ⟨by have := hp.length_eq; simpa using this, List.all_eq_true.mpr fun p hp => ?_⟩
 have := lookup_mem_nodup u1 hp
 rw [← hl] at this
 rw [this]; simp
section
variable {Γ : Cx} {K : Frag} {n : Nat} {env : Env} {ρ : Rho} {σ : Sto}
theorem WCp.run {elt target : Expr} {Q : List V → Sto → Prop} (I : List PV → List V → Sto → Prop)
  (turn : ∀ x rest out σ, I (x :: rest) out σ → WAL Γ n env target (.t x) ρ σ fun ρ₁ => (∀ y d, ρ.lookup y = some d → ρ₁.lookup y = some d) ∧ WE Γ n env elt ρ₁ σ fun d σ₂ => ∃ σ₃, Sto.le σ₃ σ₂ ∧ I rest (out ++ [d]) σ₃)
  (done : ∀ out σ, I [] out σ → Q out σ) (xs : List PV) (out : List V) (σ : Sto) (h : I xs out σ) : WCp Γ n env elt target [] xs out ρ σ Q := by
 induction xs generalizing out σ with
 | nil => exact WCp.nil (done out σ h)
 | cons x xs ih => exact WCp.cons ((turn x xs out σ h).mono fun ρ₁ q => WIf.nil (q.2.mono fun d σ₂ z => Exists.elim z fun σ₃ z => WCp.less q.1 (WCp.le z.1 (ih _ σ₃ z.2))))
theorem WCp.draw {β : Type} {elt target : Expr} {Q : List V → Sto → Prop} (f : β → PV) (P : β → Prop) (S : Nat → Sto) (xs : List PV)
  (turn : ∀ x k, k < xs.length → WAL Γ n env target (.t x) ρ (S k) fun ρ₁ => (∀ y d, ρ.lookup y = some d → ρ₁.lookup y = some d) ∧ WE Γ n env elt ρ₁ (S k) fun d σ₂ => ∃ r, d = .t (f r) ∧ P r ∧ S (k + 1) = σ₂)
  (done : ∀ rs : List β, rs.length = xs.length → (∀ r ∈ rs, P r) → Q ((rs.map f).map .t) (S xs.length)) (h0 : σ = S 0) : WCp Γ n env elt target [] xs [] ρ σ Q := by
 refine WCp.run (fun rest out σ₁ => ∃ rs : List β, rest.length + rs.length = xs.length ∧ out = (rs.map f).map .t ∧ (∀ r ∈ rs, P r) ∧ σ₁ = S rs.length) (fun x rest out σ₁ hI => ?_) (fun out σ₁ hI => ?_) _ _ _ ⟨[], rfl, rfl, (fun t ht => nomatch ht), h0⟩
 ·obtain ⟨rs, hl, rfl, hrs, rfl⟩ := hI
  rw [List.length_cons, Nat.succ_add] at hl
  refine (turn x rs.length (hl ▸ Nat.lt_succ_of_le (Nat.le_add_left _ _))).mono fun ρ₁ q => ⟨q.1, q.2.mono fun d σ₂ z => ?_⟩
  obtain ⟨r, rfl, hr, rfl⟩ := z
  refine ⟨_, Sto.le_refl _, rs ++ [r], ?_, ?_, fun t ht => ?_, ?_⟩
  ·rw [List.length_append]; exact hl
  ·rw [List.map_append, List.map_append]; rfl
  ·exact (List.mem_append.mp ht).elim (hrs t) fun q => List.mem_singleton.mp q ▸ hr
  ·rw [List.length_append]; rfl
 ·obtain ⟨rs, hl, rfl, hrs, rfl⟩ := hI
  rw [List.length_nil, Nat.zero_add] at hl
  rw [hl]
  exact done rs hl hrs
end
theorem cn_ok {n : Int} (h0 : 0 ≤ n) (h : n < 6) : PyData.strOk (cn n) = true := by
 have := (by decide +kernel : ∀ k < 6, PyData.strOk (cn (k : Nat)) = true) n.toNat ((Int.toNat_lt h0).mpr h)
 rwa [Int.toNat_of_nonneg h0] at this
theorem oks_all {k : Nat} : ∀ {l : List PV}, (∀ x ∈ l, PV.ok k x = true) → PV.oks k l = true
 | [], _ => by cases k <;> rfl
 | x :: l, h => by
  have h1 := h x (.head _)
  have h2 := oks_all (k := k) (l := l) fun y hy => h y (.tail _ hy)
  show (PV.ok k x && PV.oks k l) = true
  rw [h1, h2]; rfl
theorem beside_keys {w : Nat} (h : w < 10) : ∃ ks : List (Str × Str), besideU w = ks.map (fun p => (Key.tS [p.1, p.2]).pv) ∧ ∀ p ∈ ks, PyData.strOk p.1 = true ∧ PyData.strOk p.2 = true := by
 refine allLt (n := 10) (P := fun w => ∃ ks : List (Str × Str), besideU w = ks.map (fun p => (Key.tS [p.1, p.2]).pv) ∧ ∀ p ∈ ks, PyData.strOk p.1 = true ∧ PyData.strOk p.2 = true) ⟨⟨⟨⟨⟨⟨⟨⟨⟨⟨trivial, ?_⟩, ?_⟩, ?_⟩, ?_⟩, ?_⟩, ?_⟩, ?_⟩, ?_⟩, ?_⟩, ?_⟩ h
 ·exact ⟨[], rfl, by decide +kernel⟩
 ·exact ⟨[(ofString "quota", ofString "q")], rfl, by decide +kernel⟩
 ·exact ⟨[(ofString "set", ofString "m2"), (ofString "set", ofString "s")], rfl, by decide +kernel⟩
 ·exact ⟨[], rfl, by decide +kernel⟩
 ·exact ⟨[(ofString "set", ofString "m3")], rfl, by decide +kernel⟩
 ·exact ⟨[], rfl, by decide +kernel⟩
 ·exact ⟨[(ofString "set", ofString "d"), (ofString "set", ofString "m2")], rfl, by decide +kernel⟩
 ·exact ⟨[(ofString "expectation", ofString "x")], rfl, by decide +kernel⟩
 ·exact ⟨[(ofString "flowtable", ofString "f")], rfl, by decide +kernel⟩
 ·exact ⟨[(ofString "set", ofString "m2")], rfl, by decide +kernel⟩
set_option tactic.hygienic true in
theorem told_keys {N : Nat} {r : Row} (hr : r.ok N) (hN : N ≤ 6) : ∃ ks : List (Str × Str), toldU r = ks.map (fun p => (Key.tS [p.1, p.2]).pv) ∧ ∀ p ∈ ks, PyData.strOk p.1 = true ∧ PyData.strOk p.2 = true := by
 obtain ⟨kb, e, hb⟩ := beside_keys (w := r.which.toNat) (by have := hr.which; lia)
 have ha := hr.a
 have hb2 := hr.b
 unfold toldU
 split
 ·exact ⟨[(ofString "set", ofString "m0")], rfl, by decide +kernel⟩
 ·split
  ·refine ⟨kb ++ [(ofString "set", ofString "m2"), (ofString "set", ofString "m1")], by rw [e, List.map_append]; rfl, fun p hp => ?_⟩
   rcases List.mem_append.mp hp with hp | hp
   ·exact hb p hp
   ·have h0 : ∀ p ∈ [(ofString "set", ofString "m2"), (ofString "set", ofString "m1")], PyData.strOk p.1 = true ∧ PyData.strOk p.2 = true := by decide +kernel
    exact h0 p hp
  ·have hg : ∀ x ∈ goalsOf r [] [], 0 ≤ x ∧ x < 6 := fun x hx => by
    rename_i h3 h4
    unfold goalsOf at hx
    rw [if_neg h3, if_neg h4] at hx
    obtain ⟨h1, h2⟩ := List.mem_filter.mp hx
    have h2 : 0 ≤ x := by simpa using h2
    split at h1
    ·simp at h1; rcases h1 with rfl | rfl <;> lia
    ·simp at h1; subst h1; lia
   have e2 : (goalsOf r [] []).map chainU = ((goalsOf r [] []).map fun n => (ofString "chain", cn n)).map fun p => (Key.tS [p.1, p.2]).pv := by rw [List.map_map]; rfl
   have h2 : ∀ p ∈ (goalsOf r [] []).map fun n => (ofString "chain", cn n), PyData.strOk p.1 = true ∧ PyData.strOk p.2 = true := fun p hp => by
    obtain ⟨n, hn, rfl⟩ := List.mem_map.mp hp
    exact ⟨(by decide +kernel : PyData.strOk (ofString "chain") = true), cn_ok (hg n hn).1 (hg n hn).2⟩
   split
   ·refine ⟨kb ++ (goalsOf r [] []).map fun n => (ofString "chain", cn n), by rw [e, List.map_append, ← e2], fun p hp => ?_⟩
    rcases List.mem_append.mp hp with hp | hp
    ·exact hb p hp
    ·exact h2 p hp
   ·exact ⟨(goalsOf r [] []).map fun n => (ofString "chain", cn n), by rw [List.nil_append, ← e2], h2⟩
theorem told_ok {N : Nat} {r : Row} (hr : r.ok N) (hN : N ≤ 6) : PV.ok 3 (.lst (toldU r)) = true := by
 obtain ⟨ks, e, h⟩ := told_keys hr hN
 rw [e]
 show PV.oks 2 _ = true
 refine oks_all fun x hx => ?_
 obtain ⟨p, hp, rfl⟩ := List.mem_map.mp hx
 have := h p hp
 show (PV.ok 1 (.str p.1) && (PV.ok 1 (.str p.2) && PV.oks 1 [])) = true
 exact Bool.and_eq_true_iff.mpr ⟨this.1, Bool.and_eq_true_iff.mpr ⟨this.2, rfl⟩⟩
def RulesR (rules : List PV) (rows : List Row) : Prop := All2 (fun d r => ∃ i cells, d = ruleP i (stmtsP r) cells) rules rows
noncomputable def mapsP (m0 m1 : List Int) : PV := .lst [.lst (m0.map .int), .lst (m1.map .int)]
noncomputable def chgP (p : Nat × Int) : PV := .tup [.int p.1, .int p.2]
noncomputable def chgO (t : Int) : Nat × Int := ((t.fmod 7).toNat, t.fdiv 7 - 2)
noncomputable def stepsV (st : List (Key × List Int)) : List (Key × V) := st.map fun p => (p.1, V.t (.lst (p.2.map .int)))
theorem lookup_stepsV (st : List (Key × List Int)) (k : Key) : (stepsV st).lookup k = (st.lookup k).map fun s => V.t (.lst (s.map .int)) := lookup_mapV (fun s : List Int => V.t (.lst (s.map .int))) st k
theorem usesF_len (E : List (Key × Int)) : (E.foldl usesF []).length ≤ E.length := by
 refine snoc_ind (P := fun E => (E.foldl usesF []).length ≤ E.length) (Nat.le_refl _) (fun E e ih => ?_) E
 rw [List.foldl_append, List.length_append]
 show (addUse _ e.1 e.2).length ≤ _
 unfold addUse
 split
 ·have := kput_length (E.foldl usesF []) e.1 (((E.foldl usesF []).lookup e.1).getD 0 + e.2); simp; lia
 ·split
  ·have := (kdel_sub (E.foldl usesF []) e.1).length_le; simp; lia
  ·simp; lia
theorem stepF_len (E : List (Key × Int)) : (E.foldl stepF []).length ≤ E.length ∧ ∀ p ∈ E.foldl stepF [], p.2.length ≤ E.length := by
 refine snoc_ind (P := fun E => (E.foldl stepF []).length ≤ E.length ∧ ∀ p ∈ E.foldl stepF [], p.2.length ≤ E.length) ⟨Nat.le_refl _, fun p hp => nomatch hp⟩ (fun E e ih => ?_) E
 have hs := steps_fold E
 have hs2 := steps_fold (E ++ [e])
 have hl : ∀ k, (seqOf k (E ++ [e])).length ≤ (E ++ [e]).length := fun k => by unfold seqOf; rw [List.length_map]; exact List.length_filter_le _ _
 refine ⟨?_, fun p hp => ?_⟩
 ·rw [List.foldl_append, List.length_append]
  have := kput_length (E.foldl stepF []) e.1 (((E.foldl stepF []).lookup e.1).getD [] ++ [e.2])
  show (kput (E.foldl stepF []) e.1 (((E.foldl stepF []).lookup e.1).getD [] ++ [e.2])).length ≤ _
  simp; lia
 ·have h1 := lookup_mem_nodup hs2.1 hp
  rw [hs2.2] at h1
  split at h1
  ·cases h1
  ·rw [← Option.some.inj h1]; exact hl _
theorem stepF_keys (E : List (Key × Int)) : ∀ p ∈ E.foldl stepF [], ∃ e ∈ E, e.1 = p.1 := by
 refine snoc_ind (P := fun E => ∀ p ∈ E.foldl stepF [], ∃ e ∈ E, e.1 = p.1) (fun p hp => nomatch hp) (fun E e ih p hp => ?_) E
 rw [List.foldl_append] at hp
 have hp : p ∈ kput (E.foldl stepF []) e.1 (((E.foldl stepF []).lookup e.1).getD [] ++ [e.2]) := hp
 rcases kput_mem hp with q | q
 ·exact ⟨e, List.mem_append.mpr (.inr (.head _)), q.symm⟩
 ·obtain ⟨p', h1, h2⟩ := List.mem_map.mp q
  obtain ⟨e', h3, h4⟩ := ih p' h1
  exact ⟨e', List.mem_append.mpr (.inl h3), h4.trans h2⟩
theorem dueF_len (ms : List (Key × List Int)) : (dueF ms).length ≤ ms.length := by
 refine snoc_ind (P := fun ms => (dueF ms).length ≤ ms.length) (Nat.le_refl _) (fun ms p ih => ?_) ms
 have e : dueF (ms ++ [p]) = dueS (dueF ms) p := by unfold dueF; rw [List.foldl_append]; rfl
 rw [e, List.length_append]
 unfold dueS
 split
 ·have := kput_length (dueF ms) p.1 (leftOf p.2); simp; lia
 ·simp; lia
noncomputable def toK : PV → Key
 | .tup [.str a, .str b] => .tS [a, b]
 | _ => .tS []
noncomputable def keysU (rows : List Row) (m : Nat) : List Key := match rows[m]? with
 | some r => (toldU r).map toK
 | Option.none => []
noncomputable def evsOf (rows : List Row) (c : Nat × Int) : List (Key × Int) := (keysU rows c.1).map fun q => (q, c.2)
section
variable {Γ : Cx} {K : Frag} {σ : Sto}
theorem toK_told {N : Nat} {r : Row} (hr : r.ok N) (hN : N ≤ 6) : ∀ x ∈ toldU r, (toK x).pv = x ∧ (toK x).fl = .T := fun x hx => by
 obtain ⟨ks, e, _⟩ := told_keys hr hN
 rw [e] at hx
 obtain ⟨p, _, rfl⟩ := List.mem_map.mp hx
 exact ⟨rfl, rfl⟩
set_option maxHeartbeats 2000000 in
theorem w_uses_hold (W : Wd Γ K) {p : Nat} {xs us : List Int} {b k N : Nat} {rows : List Row} {rules : List PV} {m0 m1 : List Int} {Q : V → Sto → Prop} (hp : σ p = some (penO xs us b k)) (hk : k + 3 ≤ us.length) (hs : xs.length ≤ 100) (hb : b + k + 3 < 1000)
  (h7 : rows.length = 7) (hrow : ∀ r ∈ rows, r.ok N) (hN : N ≤ 6) (hR : RulesR rules rows) (h : Q (.t (.bool true)) (upd σ p (penO xs us b (k + 3)))) :
  WC Γ 11 (.ref 794) [.ref p, .t (.lst (rows.map Row.pv)), .t (.lst rules), .t (mapsP m0 m1)] σ Q := by
 have hrg : ∀ m, m < 7 → ∃ r, rows[m]? = some r ∧ r.ok N ∧ ∃ i cells, rules[m]? = some (ruleP i (stmtsP r) cells) := fun m hm => by
  have h1 : rows[m]? = some rows[m] := List.getElem?_eq_getElem (by lia)
  obtain ⟨d, hd, i, cells, e⟩ := hR.get m _ h1
  exact ⟨_, h1, hrow _ (List.mem_of_getElem? h1), i, cells, by rw [hd, e]⟩
 refine WC.go (fd := fd69) (H_fd69 W) [ofString "pen", ofString "rows", ofString "rules", ofString "maps"] rfl rfl (bind4 _ _ _ _ fun z' z' z' z' => rfl) rfl fun L => ?_
 try with_reducible intro E
 have fin3 : ∀ (chg : List (Nat × Int)) (σ' : Sto), chg.length ≤ 10 → (∀ c ∈ chg, c.1 < 7) → σ' = upd σ p (penO xs us b (k + 3)) →
   WB Γ 10 (fenv fd69 L 794) ((bodyOf (D 69)).drop 3) [(ofString "pen", .ref p), (ofString "rows", .t (.lst (rows.map Row.pv))), (ofString "rules", .t (.lst rules)), (ofString "maps", .t (mapsP m0 m1)), (ofString "changes", .t (.lst (chg.map chgP)))] σ' (retQ Q) := fun chg σ' hcl hc7 eσ => by
  rw [← eσ] at h
  clear eσ hp
  (refine WB.cons ?_; walk_at "q")
  walk_at "x"
  refine WE.dict0 (f := .T) fun ju hju => ?_
  walk_at "x"; walk_at "x"
  refine WE.dict0 (f := .T) fun jt hjt => ?_
  have hne : jt ≠ ju := ne_none hjt
  have hjt' : σ' jt = Option.none := by rw [upd_ne _ _ hne] at hjt; exact hjt
  walk_at "r"
  refine WIt.lst ?_
  walk_at "r"
  refine ⟨_, rfl, ?_⟩
  have hEl : ∀ l : List (Nat × Int), (∀ c ∈ l, c.1 < 7) → (l.flatMap (evsOf rows)).length ≤ 100 * l.length := fun l hl => by
   induction l with
   | nil => simp
   | cons c l ih =>
    have h2 := ih fun c hc => hl c (.tail _ hc)
    obtain ⟨r, hr1, hr2, _⟩ := hrg c.1 (hl c (.head _))
    obtain ⟨_, _, _, hlen⟩ := uses_stmts hr2
    rw [List.flatMap_cons, List.length_append]
    have : (evsOf rows c).length ≤ 100 := by unfold evsOf keysU; rw [hr1]; simpa using hlen
    rw [List.length_cons]; lia
  refine WFor.over chgP (fun (dn : List (Nat × Int)) => upd (upd σ' ju (.dct .T (kvI ((dn.flatMap (evsOf rows)).foldl usesF [])))) jt (.dct .T (stepsV ((dn.flatMap (evsOf rows)).foldl stepF [])))) chg (fun dn c ur e0 => ?_) ?_ rfl rfl
  ·try clear Qt
   try with_reducible intro rt Qt
   obtain ⟨m, s⟩ := c
   have hm : m < 7 := hc7 (m, s) (by rw [e0]; simp)
   have hdn : (dn.flatMap (evsOf rows)).length + (evsOf rows (m, s)).length ≤ 1000 := by
    have h1 := hEl (dn ++ [(m, s)]) fun c hc => hc7 c (by rw [e0]; rcases List.mem_append.mp hc with q | q <;> simp at q ⊢ <;> simp [q])
    rw [List.flatMap_append, List.length_append] at h1
    have h2 : (dn ++ [(m, s)]).length ≤ 10 := by rw [e0] at hcl; simp at hcl ⊢; lia
    simp at h1 h2 ⊢; lia
   obtain ⟨r, hr1, hr2, i, cells, hr3⟩ := hrg m hm
   obtain ⟨uss, hu1, hu2, hu3⟩ := uses_stmts hr2
   have hev : evsOf rows (m, s) = (toldU r).map fun x => (toK x, s) := by unfold evsOf keysU; rw [hr1]; dsimp only; rw [List.map_map]; rfl
   rw [hev] at hdn
   unfold chgP
   walk_at "r"
   refine WIt.lst ?_
   walk_at "r"
   refine g_lst (v := .t (.lst rules)) (xs := rules.map .t) (d := .t (ruleP i (stmtsP r) cells)) rfl (by lia) (by lia) (by rw [Int.toNat_natCast, List.getElem?_map, hr3]; rfl) ?_
   refine ⟨_, _, _, _, _, ⟨rfl, rfl⟩, K_Rule W, (A_Rule W (ofString "statements") (.tail _ (.head _))).1, rfl, trivial, ?_⟩
   walk_at "r"
   refine WC.up (m := 9) (by lia) (w_uses_of W hu1 (by rw [hu2]; exact hu3) ?_)
   rw [hu2]
   refine ⟨_, rfl, ?_⟩
   generalize hD : dn.flatMap (evsOf rows) = D at *
   refine WFor.over (fun x => x) (fun (d2 : List PV) => upd (upd σ' ju (.dct .T (kvI ((D ++ d2.map fun x => (toK x, s)).foldl usesF [])))) jt (.dct .T (stepsV ((D ++ d2.map fun x => (toK x, s)).foldl stepF [])))) (toldU r) (fun d2 x rest e2 => ?_) ?_ (List.map_id _).symm (by simp)
   ·try clear Qt
    try with_reducible intro rt Qt
    have hx : x ∈ toldU r := by rw [e2]; simp
    obtain ⟨hx1, hx2⟩ := toK_told hr2 hN x hx
    have hvx : V.t x = V.t (toK x).pv := by rw [hx1]
    have hd2 : (D ++ d2.map fun x => (toK x, s)).length ≤ 1000 := by
     rw [e2] at hdn; simp at hdn ⊢; lia
    have hE1 : (D ++ (d2 ++ [x]).map fun x => (toK x, s)) = (D ++ d2.map fun x => (toK x, s)) ++ [(toK x, s)] := by simp
    generalize (D ++ d2.map fun x => (toK x, s)) = E at *
    have hul := usesF_len E
    have hsl := stepF_len E
    have hu' : (E ++ [(toK x, s)]).foldl usesF [] = addUse (E.foldl usesF []) (toK x) s := by rw [List.foldl_append]; rfl
    have hs' : (E ++ [(toK x, s)]).foldl stepF [] = kput (E.foldl stepF []) (toK x) (((E.foldl stepF []).lookup (toK x)).getD [] ++ [s]) := by rw [List.foldl_append]; rfl
    generalize E.foldl usesF [] = mu at *
    generalize E.foldl stepF [] = ms at *
    have hlk := lookup_stepsV ms (toK x)
    walk_at "r"
    rw [hvx]
    refine w_add_use W (j := ju) hx2 (upd_ne' (upd_self ..) hne.symm) (by lia) ?_
    rw [upd_comm hne, upd_upd]
    walk_at "r"
    refine ⟨BTy.dct (v := .ref jt) (upd_self ..), ?_⟩
    walk_at "r"
    refine WE.listT ?_
    walk_at "r"
    rw [hvx]
    refine w_get2 (toK x) (o := .ref jt) (upd_self ..) hx2 ?_
    have hv : ((stepsV ms).lookup (toK x)).getD (.t (.lst [])) = .t (.lst (((ms.lookup (toK x)).getD []).map .int)) := by rw [hlk]; cases ms.lookup (toK x) <;> rfl
    rw [hv]
    walk_at "r"
    refine WE.listT ?_
    walk_at "r"
    have hgl : ((ms.lookup (toK x)).getD []).length ≤ 1000 := by
     cases hq : ms.lookup (toK x) with
     | none => simp
     | some v =>
      have := hsl.2 _ (mem_of_lookup_some hq)
      simp at this ⊢; lia
    refine v_addL (xs := ((ms.lookup (toK x)).getD []).map .int) (ys := [.int s]) rfl rfl (by simp; lia) ?_
    rw [show ((ms.lookup (toK x)).getD []).map PV.int ++ [PV.int s] = (((ms.lookup (toK x)).getD []) ++ [s]).map .int by simp]
    walk_at "r"
    try rw [hvx]
    refine s_dct (kvs := stepsV ms) (toK x) (upd_self ..) hx2 (by unfold stepsV; rw [List.length_map]; lia) ?_
    rw [upd_upd]
    have ek : kput (stepsV ms) (toK x) (.t (.lst ((((ms.lookup (toK x)).getD []) ++ [s]).map .int))) = stepsV (kput ms (toK x) (((ms.lookup (toK x)).getD []) ++ [s])) := kput_map (fun s : List Int => V.t (.lst (s.map .int))) _ _ _
    rw [ek]
    walk_at "r"
    refine ⟨lookup_put_new rfl, _, Sto.le_refl _, ?_⟩
    rw [hE1, hu', hs']
   ·walk_at "r"
    refine ⟨?_, _, Sto.le_refl _, ?_⟩
    ·exact less_append (e := [(ofString "k", .t (.int (m : Int))), (ofString "step", .t (.int s))])
    ·rw [List.flatMap_append, List.flatMap_singleton, hev, hD]
  ·have hEl := hEl chg hc7
   have hfin := uses_due (chg.flatMap (evsOf rows))
   have hEk : ∀ e ∈ chg.flatMap (evsOf rows), e.1.fl = .T := fun e he => by
    obtain ⟨c, hc, hce⟩ := List.mem_flatMap.mp he
    obtain ⟨r, hr1, hr2, _⟩ := hrg c.1 (hc7 c hc)
    unfold evsOf keysU at hce
    rw [hr1] at hce
    obtain ⟨q, hq, rfl⟩ := List.mem_map.mp hce
    obtain ⟨x, hx, rfl⟩ := List.mem_map.mp hq
    exact (toK_told hr2 hN x hx).2
   generalize chg.flatMap (evsOf rows) = E at *
   have hul := usesF_len E
   have hsl := stepF_len E
   obtain ⟨hsn, _⟩ := steps_fold E
   have hE1000 : E.length ≤ 1000 := by lia
   have hmk := stepF_keys E
   generalize E.foldl usesF [] = mu at *
   generalize E.foldl stepF [] = ms at *
   repeat (with_reducible refine WB.nil ?_)
   (refine WB.cons ?_; walk_at "q")
   walk_at "x"
   refine WE.dict0 (f := .T) fun jd hjd => ?_
   have hd1 : jd ≠ jt := ne_none hjd
   have hjd' := hjd
   rw [upd_ne _ _ hd1] at hjd'
   have hd2 : jd ≠ ju := ne_none hjd'
   rw [upd_ne _ _ hd2] at hjd'
   have e0 : stepsV ms = (ms.map fun p => (p.1, PV.lst (p.2.map .int))).map fun p => (p.1, V.t p.2) := by unfold stepsV; rw [List.map_map]; rfl
   rw [e0]
   refine WB.frzD jt (f := .T) (kvs := ms.map fun p => (p.1, PV.lst (p.2.map .int))) (upd_ne' (upd_self ..) hd1.symm) ?_
   refine WB.thaw (ofString "steps") (i := jt) rfl (upd_self ..) ?_
   rw [upd_comm hd1, upd_upd]
   refine WB.le (σ' := upd (upd σ' ju (.dct .T (kvI mu))) jd (.dct .T (kvI []))) (Sto.le_upd_both (Sto.le_upd (by rw [upd_ne _ _ hne]; exact hjt'))) ?_
   walk_at "r"
   refine WIt.dct ?_
   walk_at "r"
   refine ⟨_, _, rfl, ?_⟩
   have eks : (ms.map fun p => (p.1, PV.lst (p.2.map .int))).map (fun p => p.1.pv) = ms.map fun p => p.1.pv := by rw [List.map_map]; rfl
   rw [eks]
   have hml : ms.length ≤ 1000 := by lia
   refine WFor.over (fun p => p.1.pv) (fun (dn : List (Key × List Int)) => upd (upd σ' ju (.dct .T (kvI mu))) jd (.dct .T (kvI (dueF dn)))) ms (fun dn q ur e1 => ?_) ?_ rfl rfl
   ·try clear Qt
    try with_reducible intro rt Qt
    have hq : q ∈ ms := by rw [e1]; simp
    have hql := hsl.2 q hq
    obtain ⟨e, he, heq⟩ := hmk q hq
    have hfl : q.1.fl = .T := by rw [← heq]; exact hEk e he
    have hlk : ((ms.map fun p => (p.1, PV.lst (p.2.map .int))).map fun p => (p.1, V.t p.2)).lookup q.1 = some (.t (.lst (q.2.map .int))) := by
     rw [← e0, lookup_stepsV, lookup_mem_nodup hsn hq]; rfl
    have hdl := dueF_len dn
    have hdl2 : dn.length ≤ 1000 := by rw [e1] at hml; simp at hml; lia
    have hds : dueF (dn ++ [q]) = dueS (dueF dn) q := by unfold dueF; rw [List.foldl_append]; rfl
    walk_at "r"
    refine g_dct q.1 (o := .t (.dct .T (ms.map fun p => (p.1, PV.lst (p.2.map .int))))) ⟨rfl, rfl⟩ hfl hlk ?_
    walk_at "r"
    refine w_left W ?_
    walk_at "r"
    refine v_gt ⟨_, rfl, ?_⟩
    cases hc : decide (0 < leftOf q.2) with
    | true =>
     have hc' : 0 < leftOf q.2 := by simpa using hc
     walk_at "r"
     refine g_dct q.1 (o := .t (.dct .T (ms.map fun p => (p.1, PV.lst (p.2.map .int))))) ⟨rfl, rfl⟩ hfl hlk ?_
     walk_at "r"
     refine w_left W ?_
     walk_at "r"
     refine s_dct (kvs := kvI (dueF dn)) q.1 (upd_self ..) hfl (by unfold kvI; rw [List.length_map]; lia) ?_
     rw [upd_upd]
     have ek : kput (kvI (dueF dn)) q.1 (.t (.int (leftOf q.2))) = kvI (kput (dueF dn) q.1 (leftOf q.2)) := kput_map (fun i : Int => V.t (.int i)) _ _ _
     rw [ek]
     walk_at "r"
     refine ⟨lookup_put_new rfl, _, Sto.le_refl _, ?_⟩
     rw [hds, dueS, if_pos hc']
    | false =>
     have hc' : ¬ 0 < leftOf q.2 := by simpa using hc
     walk_at "r"
     refine ⟨lookup_put_new rfl, _, Sto.le_refl _, ?_⟩
     rw [hds, dueS, if_neg hc']
   ·walk_at "r"
    refine v_eqDct (u := .ref ju) (v := .ref jd) (upd_ne' (upd_self ..) hd2.symm) (upd_self ..) ?_
    rw [hfin]
    exact ⟨σ', Sto.le_trans (le_new hju) (le_new (by rw [upd_ne _ _ hd2]; exact hjd')), h⟩
 (refine WB.cons ?_; walk_at "q")
 walk_at "r"
 refine WIt.range (G_range W) (C_range W) ?_
 walk_at "r"
 refine ⟨_, rfl, by decide, by decide, ?_⟩
 refine WFor.range 7 (fun m σ' => σ' = σ) (fun m σ' hm hI => ?_) (fun σ' hI => ?_) rfl
 ·try clear Qt
  try with_reducible intro rt Qt
  subst hI
  obtain ⟨r, hr1, hr2, i, cells, hr3⟩ := hrg m hm
  obtain ⟨uss, hu1, hu2, hu3⟩ := uses_stmts hr2
  walk_at "r"
  refine g_lst (v := .t (.lst rules)) (xs := rules.map .t) (d := .t (ruleP i (stmtsP r) cells)) rfl (by lia) (by lia) (by rw [Int.toNat_natCast, List.getElem?_map, hr3]; rfl) ?_
  refine ⟨_, _, _, _, _, ⟨rfl, rfl⟩, K_Rule W, (A_Rule W (ofString "statements") (.tail _ (.head _))).1, rfl, trivial, ?_⟩
  walk_at "r"
  refine WC.up (m := 9) (by lia) (w_uses_of W hu1 (by rw [hu2]; exact hu3) ?_)
  rw [hu2]
  walk_at "r"
  refine g_lst (v := .t (.lst (rows.map Row.pv))) (xs := (rows.map Row.pv).map .t) (d := .t r.pv) rfl (by lia) (by lia) (by rw [Int.toNat_natCast, List.getElem?_map, List.getElem?_map, hr1]; rfl) ?_
  walk_at "r"
  refine w_told W hr2 hN ?_
  walk_at "r"
  try refine g_tup (by decide) (by decide) rfl ?_
  refine v_neD 3 (told_ok hr2 hN) (told_ok hr2 hN) fun c hc => ⟨_, rfl, ?_⟩
  have : c = false := by cases c with | false => rfl | true => exact absurd rfl (hc.mp rfl)
  subst this
  walk_at "r"
  exact ⟨lookup_put_new rfl, _, Sto.le_refl _, rfl⟩
 have hI : σ = σ' := (show σ' = σ from hI).symm
 subst hI
 walk_at "r"
 refine WIt.range (G_range W) (C_range W) ?_
 walk_at "r"
 refine ⟨_, rfl, by decide, by decide, by decide, fun C => ?_⟩
 try with_reducible intro Ec rc
 refine WCp.each (fun z' => true) (fun x => .t (.tup [x, .int 1])) _ _ (fun x hx => ?_) ?_
 ·obtain ⟨i, hi, rfl⟩ := List.mem_map.mp hx
  walk_at "r"
  refine ⟨(fun y d (h : Option.none = some d) => nomatch h), ?_⟩
  walk_at "r"
  refine ⟨rfl, rfl, fun z' => ?_⟩
  walk_at "r"
  exact ⟨rfl, rfl⟩
 intro jc hjc
 have hcp : jc ≠ p := fun e => by rw [e, hp] at hjc; cases hjc
 have eo : ([] : List V) ++ (((List.range (Int.toNat 7)).map fun (i : Nat) => PV.int (i : Int)).filter fun z' => true).map (fun x => V.t (.tup [x, .int 1])) = (((List.range 7).map fun k => ((k : Nat), (1 : Int))).map chgP).map .t := rfl
 rw [eo]
 have hc0 : ∀ c ∈ (List.range 7).map fun k => ((k : Nat), (1 : Int)), c.1 < 7 := by decide
 have hl0 : ((List.range 7).map fun k => ((k : Nat), (1 : Int))).length = 7 := by decide
 generalize (List.range 7).map (fun k => ((k : Nat), (1 : Int))) = ch0 at *
 walk_at "r"
 refine WIt.lst ?_
 walk_at "r"
 refine WIt.range (G_range W) (C_range W) ?_
 walk_at "r"
 refine ⟨_, rfl, by decide, by decide, by decide, fun C => ?_⟩
 try with_reducible intro Ec rc
 refine WCp.draw PV.int (fun t => 0 ≤ t ∧ t < 35) (fun i => upd (upd σ p (penO xs us b (k + i))) jc (.lst ((ch0.map chgP).map .t))) _ (fun x i hi => ?_) (fun ts hl ht => ?_) (by rw [Nat.add_zero, upd_id hp])
 ·have hi3 : i < 3 := by simpa using hi
  walk_at "r"
  refine ⟨lookup_put_new rfl, ?_⟩
  walk_at "r"
  refine w_take W (m := 35) (upd_ne' (upd_self ..) hcp.symm) (by decide) (by lia) hs (by lia) fun v hv0 hv => ?_
  rw [upd_comm hcp, upd_upd]
  exact ⟨v, rfl, ⟨hv0, hv⟩, rfl⟩
 have hl3 : ts.length = 3 := by simpa using hl
 refine ⟨_, rfl, ?_⟩
 refine ⟨_, rfl, ?_⟩
 refine WFor.over PV.int (fun (dn : List Int) => upd (upd σ p (penO xs us b (k + 3))) jc (.lst (((ch0 ++ dn.map chgO).map chgP).map .t))) ts (fun dn t ur e => ?_) ?_ rfl (by rw [List.map_nil, List.append_nil]; rfl)
 ·try clear Qt
  try with_reducible intro rt Qt
  have ht1 := ht t (by rw [e]; simp)
  have hdl : dn.length < 3 := by rw [← hl3, e, List.length_append, List.length_cons]; lia
  walk_at "r"
  refine ⟨BTy.lst (v := .ref jc) (upd_self ..), ?_⟩
  walk_at "r"
  refine v_mod (by decide) ?_
  walk_at "r"
  refine v_fdiv (by decide) (by decide) ?_
  walk_at "r"
  refine v_sub ?_
  walk_at "r"
  refine w_append (upd_self ..) (by simp; lia) ?_
  rw [upd_upd]
  walk_at "r"
  refine ⟨lookup_put_new rfl, _, Sto.le_refl _, ?_⟩
  have e7 : ((t.fmod 7).toNat : Int) = t.fmod 7 := Int.toNat_of_nonneg (fmod_range t (m := 7) (by decide)).1
  refine congrArg (fun l => upd _ jc (AO.lst l)) ?_
  rw [List.map_append (l₁ := dn), ← List.append_assoc, List.map_append (l₂ := [t].map chgO), List.map_append (l₂ := ([t].map chgO).map chgP)]
  show _ ++ [V.t (.tup [.int (t.fmod 7), .int (t.fdiv 7 - 2)])] = _ ++ [V.t (.tup [.int ((t.fmod 7).toNat : Int), .int (t.fdiv 7 - 2)])]
  rw [e7]
 ·repeat (with_reducible refine WB.nil ?_)
  refine WB.frzL jc (xs := (ch0 ++ ts.map chgO).map chgP) (upd_self ..) ?_
  refine WB.thaw (ofString "changes") (i := jc) rfl (upd_self ..) ?_
  rw [upd_upd]
  refine WB.le (σ' := upd σ p (penO xs us b (k + 3))) (Sto.le_upd (by rw [upd_ne _ _ hcp]; exact hjc)) ?_
  refine fin3 (ch0 ++ ts.map chgO) _ (by rw [List.length_append, List.length_map, hl0, hl3]; decide) (fun c hc => ?_) rfl
  rcases List.mem_append.mp hc with q | q
  ·exact hc0 c q
  ·obtain ⟨t, _, rfl⟩ := List.mem_map.mp q
   have hr := fmod_range t (m := 7) (by decide)
   exact (Int.toNat_lt hr.1).mpr hr.2
end
section
variable {Γ : Cx} {K : Frag} {n : Nat} {env : Env} {ρ : Rho} {σ : Sto}
theorem C_Refused (W : Wd Γ K) : Callee Γ (.ref 82) := callee_fn W.hK W.exc.keep
theorem G_Exception (W : Wd Γ K) : GlobV Γ (ofString "Exception") (.type "Exception") := W.glob 54 rfl
noncomputable abbrev whyA (d : V) : List (Key × V) := [(at_ "why", d), (at_ "at", .t (.int (-1)))]
theorem w_wall_init (W : Wd Γ K) {i : Nat} {d : V} {Q : V → Sto → Prop} (hi : σ i = some (.exc 82 Option.none))
  (h : ∀ k, σ k = Option.none → k ≠ i → Q (.t .none) (upd (upd σ k (.dct .S (whyA d))) i (.exc 82 (some k)))) : WC Γ (n + 1) (.ref 35) [.ref i, d] σ Q := by
 refine WC.go (fd := fd2m0) (H_fd2m0 W) [ofString "self", ofString "why"] rfl rfl (bind2 _ _ fun z' z' => rfl) rfl fun L => ?_
 try with_reducible intro E
 (refine WB.cons ?_; walk_at "q")
 refine WS.expr (fun z' z' => rfl) ?_
 refine WE.clsMeth (G_Exception W) (getM_exc W) (callB _) ?_
 walk_at "r"
 refine w_exc_init W hi ?_
 (refine WB.cons ?_; walk_at "q")
 refine WS.setExc0 W ?_ rfl
 walk_at "r"
 refine ⟨i, rfl, hi, W.exc.no _ (.head _), fun k hk hki => ?_⟩
 (refine WB.cons ?_; walk_at "q")
 refine WS.setExc1 W ?_ rfl
 walk_at "r"
 refine ⟨_, rfl, ?_⟩
 walk_at "r"
 refine ⟨i, k, _, rfl, upd_self .., upd_ne' (upd_self ..) hki, W.exc.no _ (.tail _ (.head _)), by simp, ?_⟩
 rw [obj_upd (Ne.symm hki)]
 walk_at "r"
 exact ⟨_, Sto.le_refl _, h k hk hki⟩
noncomputable abbrev codeA (c d : V) : List (Key × V) := [(at_ "why", d), (at_ "at", .t (.int (-1))), (at_ "code", c)]
theorem w_ref_init (W : Wd Γ K) {i : Nat} {c d : V} {Q : V → Sto → Prop} (hi : σ i = some (.exc 82 Option.none))
  (h : ∀ k, σ k = Option.none → k ≠ i → Q (.t .none) (upd (upd σ k (.dct .S (codeA c d))) i (.exc 82 (some k)))) : WCc Γ (n + 2) (.ref 79) [.ref i, c, d] σ Q := by
 refine WCc.go (fd := fd5m0) (H_fd5m0 W) [ofString "self", ofString "code", ofString "why"] rfl rfl (bind3 _ _ _ fun z' z' z' => rfl) rfl fun L => ?_
 try with_reducible intro E
 (refine WB.cons ?_; walk_at "q")
 refine WS.expr (fun z' z' => rfl) ?_
 refine WE.clsMeth (G_WallFault W) (getM_wall W) (W.callF 0 rfl) ?_
 walk_at "r"
 refine w_wall_init W hi fun k hk hki => ?_
 (refine WB.cons ?_; walk_at "q")
 refine WS.setExc1 W ?_ rfl
 walk_at "r"
 refine ⟨i, k, _, rfl, upd_self .., upd_ne' (upd_self ..) hki, W.exc.no _ (.tail _ (.tail _ (.head _))), by simp, ?_⟩
 rw [obj_upd (Ne.symm hki)]
 walk_at "r"
 exact ⟨_, Sto.le_refl _, h k hk hki⟩
theorem w_Refused (W : Wd Γ K) {c d : V} {Q : V → Sto → Prop} (h : ∀ i k, σ i = Option.none → σ k = Option.none → k ≠ i → Q (.ref i) (upd (upd σ k (.dct .S (codeA c d))) i (.exc 82 (some k)))) : WC Γ (n + 3) (.ref 82) [c, d] σ Q :=
 (WCc.exc W (Nat.le_of_ble_eq_true rfl) fun i hi => w_ref_init W (upd_self ..) fun k hk hki => ⟨rfl, by
  have hk' : σ k = Option.none := by rw [upd_ne _ _ hki] at hk; exact hk
  have e : upd (upd (upd σ i (.exc 82 Option.none)) k (.dct .S (codeA c d))) i (.exc 82 (some k)) = upd (upd σ k (.dct .S (codeA c d))) i (.exc 82 (some k)) := by rw [upd_comm (Ne.symm hki), upd_upd]
  rw [e]
  exact h i k hi hk' hki⟩).wc
noncomputable def wordsL : List (Str × Str) := [(ofString "ENOENT", ofString "No such file or directory"), (ofString "EEXIST", ofString "File exists"), (ofString "EBUSY", ofString "Device or resource busy"), (ofString "EINVAL", ofString "Invalid argument"), (ofString "ELOOP", ofString "Too many levels of symbolic links"), (ofString "EMLINK", ofString "Too many links"), (ofString "EOPNOTSUPP", ofString "Operation not supported"), (ofString "ENFILE", ofString "Too many open files in system"), (ofString "ENOTEMPTY", ofString "Directory not empty"), (ofString "ERESTART", ofString "Interrupted system call should be restarted")]
theorem w_words_of (W : Wd Γ K) {Q : V → Sto → Prop} (h : Q (.t (.str (ofString "Too many links"))) σ) : WC Γ (n + 1) (.ref 91) [.t (.str (ofString "EMLINK"))] σ Q := by
 refine WC.go (fd := fd6) (H_fd6 W) [ofString "code"] rfl rfl (bind1 _ fun z' => rfl) rfl fun L => ?_
 try with_reducible intro E
 (refine WB.cons ?_; walk_at "q")
 walk_at "x"
 with_reducible refine WE.dictS (ps := wordsL) ?he ?ha ?hl ?h0 ?h1 ?h2 fun i hi => ?_
 case he =>
  unfold wordsL
  repeat (first | exact .nil | refine .cons ?_)
 case ha => rfl
 case hl => rfl
 case h0 => intro h; cases h
 case h1 => exact Nat.le_of_ble_eq_true rfl
 case h2 => exact Nat.le_of_ble_eq_true rfl
 have hl : (putStrs [] wordsL).lookup (.str (ofString "EMLINK")) = some (.t (.str (ofString "Too many links"))) := by rfl
 walk_at "r"
 refine v_notinD (.str (ofString "EMLINK")) (o := .ref i) (upd_self ..) rfl ?_
 rw [hl]
 refine ⟨_, rfl, ?_⟩
 show WB _ _ _ _ _ _ _
 walk_at "r"
 refine g_dct (.str (ofString "EMLINK")) (o := .ref i) (upd_self ..) rfl hl ?_
 exact ⟨_, le_new hi, h⟩
theorem w_refused (W : Wd Γ K) {Q : V → Sto → Prop} (h : ∀ i k, σ i = Option.none → σ k = Option.none → k ≠ i → Q (.ref i) (upd (upd σ k (.dct .S (codeA (.t (.str (ofString "EMLINK"))) (.t (.str (ofString "Too many links")))))) i (.exc 82 (some k)))) :
  WC Γ (n + 4) (.ref 98) [.t (.str (ofString "EMLINK"))] σ Q := by
 refine WC.go (fd := fd7) (H_fd7 W) [ofString "code"] rfl rfl (bind1 _ fun z' => rfl) rfl fun L => ?_
 try with_reducible intro E
 (refine WB.cons ?_; walk_at "q")
 walk_at "r"
 refine WE.call (G_Refused W) (C_Refused W) ?_
 walk_at "r"
 refine w_words_of W ?_
 walk_at "r"
 refine w_Refused W fun i k hi hk hki => ?_
 exact ⟨_, Sto.le_refl _, h i k hi hk hki⟩
end
noncomputable def levelR (ts : Tg) (reached level : List Str) : List Str := (level.flatMap (tgOf ts)).foldl addT reached
noncomputable def levelD (ts : Tg) (level : List Str) : List Str := (level.flatMap (tgOf ts)).foldl addT []
noncomputable def rfRun (ts : Tg) : Nat → List Str → List Str → Option (List Str)
 | _, reached, [] => some reached
 | 0, _, _ :: _ => Option.none
 | d + 1, reached, x :: l => rfRun ts d (levelR ts reached (x :: l)) (levelD ts (x :: l))
structure LInv (ts : Tg) (l : List Str) : Prop where
 nd : l.Nodup
 mem : ∀ x ∈ l, x ∈ ts.map (·.1)
theorem LInv.len {ts : Tg} (T : TgOk ts) {l : List Str} (h : LInv ts l) : l.length ≤ 6 := by
 have := h.nd.length_le_of_subset (l₂ := ts.map (·.1)) (fun x hx => h.mem x hx)
 have h2 := T.len
 simp at this
 lia
set_option tactic.hygienic true in
theorem LInv.add {ts : Tg} {l : List Str} (h : LInv ts l) {t : Str} (ht : t ∈ ts.map (·.1)) : LInv ts (addT l t) := by
 unfold addT
 split
 ·exact h
 ·rename_i q
  refine ⟨List.nodup_append.mpr ⟨h.nd, by simp, fun a ha b hb e => q (by rw [← List.mem_singleton.mp hb, ← e]; exact ha)⟩, fun x hx => ?_⟩
  rcases List.mem_append.mp hx with hx | hx
  ·exact h.mem x hx
  ·rw [List.mem_singleton.mp hx]; exact ht
theorem LInv.fold {ts : Tg} : ∀ {xs l : List Str}, LInv ts l → (∀ x ∈ xs, x ∈ ts.map (·.1)) → LInv ts (xs.foldl addT l)
 | [], _, h, _ => h
 | x :: xs, l, h, hx => LInv.fold (xs := xs) (l := addT l x) (h.add (hx x (List.mem_cons_self ..))) fun y hy => hx y (List.mem_cons_of_mem _ hy)
section
variable {Γ : Cx} {K : Frag} {n : Nat} {env : Env} {ρ : Rho} {σ : Sto}
theorem add_turn {ts : Tg} (T : TgOk ts) (hok : ∀ x ∈ ts.map (·.1), PyData.strOk x = true) {j : Nat} {l : List Str} {t : Str} (hl : LInv ts l) (ht : t ∈ ts.map (·.1)) (hj : σ j = some (.lst ((l.map .str).map .t))) {Q : V → Sto → Prop}
  (h : ∀ c : Bool, (c = true ↔ t ∉ l) → Q (.t (.bool c)) σ) : WV2 Γ n (.t (.str t)) (.ref j) (compareOp .NotIn) σ Q := by
 refine v_notin 1 (v := .ref j) (d := .str t) (xs := l.map .str) hj (by have := hok t ht; exact this) (oks_str fun x hx => hok x (hl.mem x hx)) fun c hc => h c ?_
 rw [hc]
 constructor
 ·intro q1 q2; exact q1 (List.mem_map.mpr ⟨t, q2, rfl⟩)
 ·intro q1 q2; obtain ⟨x, hx, e⟩ := List.mem_map.mp q2; injection e with e; subst e; exact q1 hx
structure RSt where
 depth : Nat
 reached : List Str
 level : List Str
theorem w_reached_from (W : Wd Γ K) {ts : Tg} {first : Str} {most : Nat} {Q : V → Sto → Prop} {X : Str → Str → Sto → Prop} (T : TgOk ts) (hok : ∀ x ∈ ts.map (·.1), PyData.strOk x = true) (hf : first ∈ ts.map (·.1)) (hm : most ≤ 6)
  (hQ : ∀ r, rfRun ts most [first] [first] = some r → r.length ≤ 6 → Q (.t (strsP r)) σ) (hX : rfRun ts most [first] [first] = Option.none → ∀ σ'', Sto.le σ σ'' → X (ofString "EMLINK") (ofString "Too many links") σ'') :
  WCX Γ (n + 5) (.ref 322) [.t (tgP ts), .t (.str first), .t (.int most)] σ Q X := by
 have hdv : ∀ σ' : Sto, DctV σ' (.t (tgP ts)) .S ((tgK ts).map fun p => (p.1, V.t p.2)) := fun σ' => ⟨rfl, rfl⟩
 refine WCX.go (fd := fd30) (H_fd30 W) [ofString "targets", ofString "first", ofString "most"] rfl rfl (bind3 _ _ _ fun z' z' z' => rfl) rfl fun L => ?_
 try with_reducible intro E
 (refine WB.cons ?_; walk_at "q")
 walk_at "x"
 refine WE.list ?_
 walk_at "r"
 refine ⟨by simp, fun jr hjr => ?_⟩
 walk_at "r"
 refine WE.listT ?_
 walk_at "r"
 refine WWh.run (α := RSt) (fun st => [(ofString "targets", .t (tgP ts)), (ofString "first", .t (.str first)), (ofString "most", .t (.int most)), (ofString "reached", .ref jr), (ofString "level", .t (strsP st.level)), (ofString "depth", .t (.int st.depth))])
  (fun st σ' => st.depth ≤ most ∧ LInv ts st.reached ∧ LInv ts st.level ∧ rfRun ts most [first] [first] = rfRun ts (most - st.depth) st.reached st.level ∧ σ' = upd σ jr (.lst ((st.reached.map .str).map .t)))
  (fun st => most - st.depth) (fun st σ' hI => ?_) most ⟨0, [first], [first]⟩ _ (by simp) ⟨Nat.zero_le _, ⟨by simp, by simpa using hf⟩, ⟨by simp, by simpa using hf⟩, rfl, rfl⟩
 obtain ⟨hd, hr, hlv, hrun, rfl⟩ := hI
 obtain ⟨depth, reached, level⟩ := st
 dsimp only at hd hr hlv hrun ⊢
 have hrl := hr.len T
 have hll := hlv.len T
 walk_at "r"
 refine w_len_lst (v := .t (strsP level)) (xs := (level.map PV.str).map .t) rfl (by simp; lia) ?_
 rw [show (((level.map PV.str).map V.t).length : Int) = level.length by simp]
 walk_at "r"
 refine v_gt ⟨_, rfl, ?_⟩
 cases level with
 | nil =>
  have e : rfRun ts (most - depth) reached [] = some reached := by cases most - depth <;> rfl
  show WB _ _ _ _ _ _ _
  refine WB.frzL jr (xs := reached.map .str) (upd_self ..) ?_
  refine WB.thaw (ofString "reached") (i := jr) rfl (upd_self ..) ?_
  rw [upd_upd]
  refine WB.le (σ' := σ) (Sto.le_upd hjr) ?_
  walk_at "r"
  exact ⟨_, Sto.le_refl _, hQ reached (hrun.trans e) hrl⟩
 | cons x0 level =>
  have hc : decide ((0 : Int) < ((x0 :: level).length : Int)) = true := by simp
  rw [hc]
  show WB _ _ _ _ _ _ _
  walk_at "r"
  refine v_eq ⟨_, rfl, ?_⟩
  cases hdm : ((depth : Int) == (most : Int)) with
  | true =>
   have hdm' : depth = most := by simp at hdm; lia
   have e : rfRun ts (most - depth) reached (x0 :: level) = Option.none := by rw [hdm', Nat.sub_self]; rfl
   show WB _ _ _ _ _ _ _
   (refine WB.cons ?_; walk_at "q")
   refine WS.raiseX W ?_
   walk_at "r"
   refine w_refused W fun i k hi hk hki => ?_
   refine ⟨i, k, _, _, _, rfl, hki.symm, upd_self .., upd_ne' (upd_self ..) hki, rfl, rfl, _, Sto.le_refl _, rfl, ?_⟩
   refine hX (hrun.trans e) _ fun j ao hj => ?_
   have h1 : j ≠ jr := fun q => by rw [q, hjr] at hj; cases hj
   have hj' : upd σ jr (.lst ((reached.map .str).map .t)) j = some ao := by rw [upd_ne _ _ h1]; exact hj
   have h2 : j ≠ i := ne_of_none hj' hi
   have h3 : j ≠ k := ne_of_none hj' hk
   rw [forget_ne _ h2, upd_ne _ _ h2, upd_ne _ _ h3]; exact hj'
  | false =>
   have hdm' : depth ≠ most := by simp at hdm; lia
   have hlt : depth < most := by lia
   have erun : rfRun ts (most - depth) reached (x0 :: level) = rfRun ts (most - (depth + 1)) (levelR ts reached (x0 :: level)) (levelD ts (x0 :: level)) := by
    rw [show most - depth = (most - (depth + 1)) + 1 by lia]; rfl
   revert rr
   generalize x0 :: level = lv at *
   intro rr
   have hcl : ∀ x ∈ lv.flatMap (tgOf ts), x ∈ ts.map (·.1) := fun x hx => by
    obtain ⟨y, hy, hxy⟩ := List.mem_flatMap.mp hx
    exact T.cl _ (T.tg (hlv.mem y hy)) x hxy
   have hsubcl : ∀ dn ur, lv = dn ++ ur → ∀ x ∈ dn.flatMap (tgOf ts), x ∈ ts.map (·.1) := fun dn ur e x hx => hcl x (by rw [e, List.flatMap_append]; exact List.mem_append.mpr (.inl hx))
   show WB _ _ _ _ _ _ _
   walk_at "r"
   refine WE.list ?_
   walk_at "r"
   refine ⟨by simp, fun jd hjd => ?_⟩
   have hne : jd ≠ jr := ne_none hjd
   have hjd' : σ jd = Option.none := by rw [upd_ne _ _ hne] at hjd; exact hjd
   walk_at "r"
   refine WIt.lst ?_
   walk_at "r"
   refine ⟨_, rfl, ?_⟩
   have hE : LInv ts [] := ⟨by simp, fun x hx => nomatch hx⟩
   refine WFor.over .str (fun dn => upd (upd σ jr (.lst ((((dn.flatMap (tgOf ts)).foldl addT reached).map .str).map .t))) jd (.lst ((((dn.flatMap (tgOf ts)).foldl addT []).map .str).map .t))) lv (fun dn y ur e0 => ?_) ?_ rfl rfl
   ·try clear Qt
    try with_reducible intro rt Qt
    have hy : y ∈ ts.map (·.1) := hlv.mem y (by rw [e0]; simp)
    have hlk := tgK_lookup T hy
    have hycl := T.cl _ (T.tg hy)
    have hD := hsubcl dn (y :: ur) e0
    generalize hDD : dn.flatMap (tgOf ts) = D at *
    walk_at "r"
    refine WIt.lst ?_
    walk_at "r"
    refine g_dct (.str y) (o := .t (tgP ts)) (hdv _) rfl (lookup_mapT hlk) ?_
    refine ⟨_, rfl, ?_⟩
    refine WFor.over .str (fun (d2 : List Str) => upd (upd σ jr (.lst ((((D ++ d2).foldl addT reached).map .str).map .t))) jd (.lst ((((D ++ d2).foldl addT []).map .str).map .t))) (tgOf ts y) (fun d2 t r2 e2 => ?_) ?_ rfl (by rw [List.append_nil])
    ·try clear Qt
     try with_reducible intro rt Qt
     have ht : t ∈ ts.map (·.1) := hycl t (by show t ∈ tgOf ts y; rw [e2]; simp)
     have hDd : ∀ x ∈ D ++ d2, x ∈ ts.map (·.1) := fun x hx => by
      rcases List.mem_append.mp hx with q | q
      ·exact hD x q
      ·exact hycl x (by show x ∈ tgOf ts y; rw [e2]; simp [q])
     have i1 := hr.fold hDd
     have i2 := hE.fold hDd
     have l1 := i1.len T
     have l2 := i2.len T
     have f1 : (D ++ (d2 ++ [t])).foldl addT reached = addT ((D ++ d2).foldl addT reached) t := by rw [← List.append_assoc, List.foldl_append]; rfl
     have f2 : (D ++ (d2 ++ [t])).foldl addT [] = addT ((D ++ d2).foldl addT []) t := by rw [← List.append_assoc, List.foldl_append]; rfl
     generalize (D ++ d2).foldl addT reached = r at *
     generalize (D ++ d2).foldl addT [] = dd at *
     walk_at "x"
     (refine WB.cons ?_; walk_at "q"); refine (WS.mono (Q := fun f ρ' σ' => f = Fl.next ∧ ρ' = [(ofString "targets", .t (tgP ts)), (ofString "first", .t (.str first)), (ofString "most", .t (.int most)), (ofString "reached", .ref jr), (ofString "level", .t (strsP lv)), (ofString "depth", .t (.int depth)), (ofString "deeper", .ref jd), (ofString "name", .t (.str y)), (ofString "target", .t (.str t))] ∧
      σ' = upd (upd σ jr (.lst ((r.map .str).map .t))) jd (.lst (((addT dd t).map .str).map .t))) ?_ fun f ρ' σ' hq => ?_)
     ·walk_at "r"
      refine add_turn T hok i2 ht (upd_self ..) fun c hc => ?_
      refine ⟨_, rfl, ?_⟩
      unfold addT
      cases c with
      | true =>
       rw [if_neg (hc.mp rfl)]
       walk_at "r"
       refine ⟨BTy.lst (v := .ref jd) (upd_self ..), ?_⟩
       walk_at "r"
       refine w_append (upd_self ..) (by simp; lia) ?_
       rw [upd_upd]
       walk_at "r"
       exact ⟨rfl, rfl, by rw [List.map_append, List.map_append]; rfl⟩
      | false =>
       rw [if_pos (Classical.byContradiction fun q => nomatch (hc.mpr q))]
       walk_at "r"
       exact ⟨rfl, rfl, rfl⟩
     ·obtain ⟨rfl, rfl, rfl⟩ := hq
      generalize addT dd t = dd' at *
      show WB _ _ _ _ _ _ _
      walk_at "r"
      refine add_turn T hok i1 ht (upd_ne' (upd_self ..) hne.symm) fun c hc => ?_
      refine ⟨_, rfl, ?_⟩
      have f1' : addT r t = if t ∈ r then r else r ++ [t] := rfl
      cases c with
      | true =>
       rw [if_neg (hc.mp rfl)] at f1'
       walk_at "r"
       refine ⟨BTy.lst (v := .ref jr) (upd_ne' (upd_self ..) hne.symm), ?_⟩
       walk_at "r"
       refine w_append (upd_ne' (upd_self ..) hne.symm) (by simp; lia) ?_
       rw [upd_comm hne, upd_upd]
       walk_at "r"
       refine ⟨less_append (e := [(ofString "target", .t (.str t))]), _, Sto.le_refl _, ?_⟩
       rw [f1, f2, f1', List.map_append, List.map_append]; rfl
      | false =>
       rw [if_pos (Classical.byContradiction fun q => nomatch (hc.mpr q))] at f1'
       walk_at "r"
       refine ⟨less_append (e := [(ofString "target", .t (.str t))]), _, Sto.le_refl _, ?_⟩
       rw [f1, f2, f1']
    ·walk_at "r"
     refine ⟨lookup_put_new rfl, _, Sto.le_refl _, ?_⟩
     rw [List.flatMap_append, List.flatMap_singleton, hDD]
   ·repeat (with_reducible refine WB.nil ?_)
    refine WB.frzL jd (xs := ((lv.flatMap (tgOf ts)).foldl addT []).map .str) (upd_self ..) ?_
    refine WB.thaw (ofString "deeper") (i := jd) rfl (upd_self ..) ?_
    rw [upd_upd]
    refine WB.le (σ' := upd σ jr (.lst ((((lv.flatMap (tgOf ts)).foldl addT reached).map .str).map .t))) (Sto.le_upd (by rw [upd_ne _ _ hne]; exact hjd')) ?_
    walk_at "r"
    refine v_iadd ?_
    walk_at "r"
    refine ⟨⟨depth + 1, levelR ts reached lv, levelD ts lv⟩, _, by show most - (depth + 1) < most - depth; lia, less_append (e := [(ofString "deeper", .t (strsP (levelD ts lv)))]), Sto.le_refl _, hlt, hr.fold hcl, hE.fold hcl, hrun.trans erun, rfl⟩
end
section
variable {Γ : Cx} {K : Frag} {n : Nat} {env : Env} {ρ : Rho} {σ : Sto}
theorem w_law_reached (W : Wd Γ K) {ts : Tg} {first most : Nat} {Q : V → Sto → Prop} (T : TgOk ts) (hok : ∀ x ∈ ts.map (·.1), PyData.strOk x = true) (hf : cn first ∈ ts.map (·.1)) (hf6 : first < 6) (hm : most ≤ 6)
  (hQ : ∀ r, rfRun ts most [cn first] [cn first] = some r → Q (.t (dueP true r)) σ) (hX : rfRun ts most [cn first] [cn first] = Option.none → Q (.t (dueP false [])) σ) :
  WC Γ (n + 6) (.ref 782) [.t (tgP ts), .t (.int first), .t (.int most)] σ Q := by
 refine WC.go (fd := fd67) (H_fd67 W) [ofString "targets", ofString "first", ofString "bound"] rfl rfl (bind3 _ _ _ fun z' z' z' => rfl) rfl fun L => ?_
 try with_reducible intro E
 (refine WB.cons ?_; walk_at "q")
 refine WS.tryX W ?_ rfl rfl rfl rfl rfl rfl (by with_unfolding_all rfl) (by with_unfolding_all rfl)
 ((refine WB.cons ?_; walk_at "q"); refine WS.retX ?_)
 refine WEX.tupleT ?_
 refine WEsX.cons (WEX.of ?_)
 walk_at "r"
 refine WEsX.cons (WEX.of ?_)
 walk_at "r"
 refine WEsX.cons (WEX.call (G_reached_from W) (C_reached_from W) ?_)
 walk_at "r"
 refine w_str (by lia) ?_
 refine v_addS ?_ (cn_size (by lia))
 walk_at "r"
 refine w_reached_from W T hok hf hm (fun r hr hl => ?_) (fun hr σ'' hle => ?_)
 ·refine WEsX.of (WEs.nil ?_)
  refine TsV.mk rfl (Nat.le_of_ble_eq_true rfl) ?_
  exact ⟨_, Sto.le_refl _, hQ r hr⟩
 ·exact ⟨σ, hle, hX hr⟩
end
theorem sorted_unique {α : Type} {r : α → α → Prop} (irr : ∀ a, ¬ r a a) (tr : ∀ a b c, r a b → r b c → r a c) : ∀ {l m : List α}, l.Perm m → l.Pairwise r → m.Pairwise r → l = m
 | [], m, hp, _, _ => (List.nil_perm.mp hp).symm
 | a :: l, [], hp, _, _ => absurd hp.length_eq (by simp)
 | a :: l, b :: m, hp, h1, h2 => by
  rw [List.pairwise_cons] at h1 h2
  have e : a = b := by
   have ha : a ∈ b :: m := hp.mem_iff.mp (List.mem_cons_self ..)
   have hb : b ∈ a :: l := hp.mem_iff.mpr (List.mem_cons_self ..)
   rcases List.mem_cons.mp ha with e | ha
   ·exact e
   ·rcases List.mem_cons.mp hb with e | hb
    ·exact e.symm
    ·exact absurd (tr _ _ _ (h1.1 b hb) (h2.1 a ha)) (irr a)
  subst e
  rw [sorted_unique irr tr (hp.cons_inv) h1.2 h2.2]
theorem sorted3 {es : List El} {a b c : El} (hp : es.Perm [a, b, c]) (hs : es.Pairwise fun x y => x.lo < y.lo) (h1 : a.lo < b.lo) (h2 : b.lo < c.lo) : es = [a, b, c] := by
 refine sorted_unique (r := fun x y : El => x.lo < y.lo) (fun x => Int.lt_irrefl _) (fun x y z => Int.lt_trans) hp hs ?_
 simp only [List.pairwise_cons, List.mem_cons, List.not_mem_nil, or_false, forall_eq_or_imp, forall_eq, false_implies, implies_true, List.Pairwise.nil, and_true]
 exact ⟨⟨h1, Int.lt_trans h1 h2⟩, h2⟩
theorem elG_lo {span : Bool} {gs : List Int} {N turn : Int} (k : Nat) : (elG span gs N turn k).lo = 3 * (2 * (k : Int) + turn).fmod 5 := rfl
theorem elG_tgt {span : Bool} {gs : List Int} {N turn : Int} (k : Nat) : (elG span gs N turn k).tgt = if (gs.getD k 0).fdiv N < 2 then cn ((gs.getD k 0).fmod N) else ofString "" := by
 have e : (elG span gs N turn k).tgt = match verdG (gs.getD k 0) N with | .tup [_, .str t] => t | _ => ofString "" := rfl
 rw [e]
 unfold verdG
 by_cases h : (gs.getD k 0).fdiv N < 2
 ·rw [if_pos h, if_pos h]
 ·rw [if_neg h, if_neg h]
theorem elG_out {span : Bool} {gs : List Int} {N turn : Int} (k : Nat) : (elG span gs N turn k).out = decide ((gs.getD k 0).fdiv N < 2) := by
 unfold El.out
 rw [elG_tgt]
 by_cases h : (gs.getD k 0).fdiv N < 2
 ·rw [if_pos h, decide_eq_true h]
  exact bne_iff_ne.mpr (cn_ne _)
 ·rw [if_neg h, decide_eq_false h]
  exact bne_self_eq_false _
noncomputable def adG (gs : List Int) (N : Int) (acc : List Int) (k : Nat) : List Int := if decide ((gs.getD k 0).fdiv N < 2) = true then acc ++ [(gs.getD k 0).fmod N] else acc
theorem adG_fold {span : Bool} {gs : List Int} {N turn : Int} : ∀ (ks : List Nat) (acc : List Int), (ks.foldl (adG gs N) acc).map cn = acc.map cn ++ (((ks.map (elG span gs N turn)).filter El.out).map El.tgt)
 | [], acc => by simp
 | k :: ks, acc => by
  rw [List.foldl_cons, adG_fold (span := span) (turn := turn) ks, List.map_cons, List.filter_cons, elG_out]
  unfold adG
  by_cases h : (gs.getD k 0).fdiv N < 2
  ·rw [decide_eq_true h, if_pos rfl, if_pos rfl, List.map_append, List.map_cons, List.map_cons, elG_tgt, if_pos h]; simp
  ·rw [decide_eq_false h, if_neg Bool.false_ne_true, if_neg Bool.false_ne_true]
theorem map_elems {span : Bool} {gs : List Int} {N : Nat} {turn : Int} {es' : List El} (ht : 0 ≤ turn ∧ turn < 6) (hp : es'.Perm ((List.range 3).map (elG span gs N turn))) (hs : es'.Pairwise fun a b => a.lo < b.lo) :
  (es'.filter El.out).map El.tgt = (gbk gs N turn).map cn := by
 have hp : es'.Perm [elG span gs N turn 0, elG span gs N turn 1, elG span gs N turn 2] := hp
 have fin : ∀ i j k : Nat, es' = [i, j, k].map (elG span gs N turn) → gbk gs N turn = [i, j, k].foldl (adG gs N) [] → (es'.filter El.out).map El.tgt = (gbk gs N turn).map cn := fun i j k e1 e2 => by
  rw [e1, e2, adG_fold (span := span) (turn := turn)]; rfl
 have s1 : ∀ a b c : El, [b, c, a].Perm [a, b, c] := fun a b c => ((List.Perm.swap b a [c]).trans ((List.Perm.swap c a []).cons b)).symm
 have s2 : ∀ a b c : El, [c, a, b].Perm [a, b, c] := fun a b c => (s1 c a b).symm
 have ht' : turn = 0 ∨ turn = 1 ∨ turn = 2 ∨ turn = 3 ∨ turn = 4 ∨ turn = 5 := by lia
 rcases ht' with rfl | rfl | rfl | rfl | rfl | rfl
 ·exact fin 0 1 2 (sorted3 hp hs (by rw [elG_lo, elG_lo]; decide) (by rw [elG_lo, elG_lo]; decide)) rfl
 ·exact fin 2 0 1 (sorted3 (hp.trans (s2 _ _ _).symm) hs (by rw [elG_lo, elG_lo]; decide) (by rw [elG_lo, elG_lo]; decide)) rfl
 ·exact fin 2 0 1 (sorted3 (hp.trans (s2 _ _ _).symm) hs (by rw [elG_lo, elG_lo]; decide) (by rw [elG_lo, elG_lo]; decide)) rfl
 ·exact fin 1 2 0 (sorted3 (hp.trans (s1 _ _ _).symm) hs (by rw [elG_lo, elG_lo]; decide) (by rw [elG_lo, elG_lo]; decide)) rfl
 ·exact fin 1 2 0 (sorted3 (hp.trans (s1 _ _ _).symm) hs (by rw [elG_lo, elG_lo]; decide) (by rw [elG_lo, elG_lo]; decide)) rfl
 ·exact fin 0 1 2 (sorted3 hp hs (by rw [elG_lo, elG_lo]; decide) (by rw [elG_lo, elG_lo]; decide)) rfl
noncomputable def addG {α : Type} [DecidableEq α] (acc : List α) (t : α) : List α := if t ∈ acc then acc else acc ++ [t]
noncomputable def dedup {α : Type} [DecidableEq α] (l : List α) : List α := l.foldl addG []
theorem addT_G (l acc : List Str) : l.foldl addT acc = l.foldl addG acc := rfl
set_option tactic.hygienic true in
theorem mem_addG {α : Type} [DecidableEq α] {acc : List α} {t x : α} : x ∈ addG acc t ↔ x ∈ acc ∨ x = t := by
 unfold addG
 split
 ·rename_i h
  exact ⟨.inl, fun q => q.elim id fun e => e ▸ h⟩
 ·simp
theorem mem_foldG {α : Type} [DecidableEq α] {x : α} : ∀ {l acc : List α}, x ∈ l.foldl addG acc ↔ x ∈ acc ∨ x ∈ l
 | [], acc => by simp
 | a :: l, acc => by
  rw [List.foldl_cons, mem_foldG, mem_addG, List.mem_cons]
  constructor
  ·rintro ((h | h) | h)
   ·exact .inl h
   ·exact .inr (.inl h)
   ·exact .inr (.inr h)
  ·rintro (h | h | h)
   ·exact .inl (.inl h)
   ·exact .inl (.inr h)
   ·exact .inr h
set_option tactic.hygienic true in
theorem nodup_addG {α : Type} [DecidableEq α] {acc : List α} (h : acc.Nodup) (t : α) : (addG acc t).Nodup := by
 unfold addG
 split
 ·exact h
 ·rename_i q
  exact List.nodup_append.mpr ⟨h, by simp, fun a ha b hb e => q (by rw [← List.mem_singleton.mp hb, ← e]; exact ha)⟩
theorem nodup_foldG {α : Type} [DecidableEq α] : ∀ {l acc : List α}, acc.Nodup → (l.foldl addG acc).Nodup
 | [], _, h => h
 | a :: l, acc, h => nodup_foldG (l := l) (acc := addG acc a) (nodup_addG h a)
noncomputable def firsts (l : List Int) : List Int := ((List.range l.length).filter fun i => idxI l (l.getD i 0) == i).map fun i => l.getD i 0
theorem idxI_append {x : Int} : ∀ {l m : List Int}, x ∈ l → idxI (l ++ m) x = idxI l x
 | y :: l, m, h => by
  show (if y = x then 0 else idxI (l ++ m) x + 1) = if y = x then 0 else idxI l x + 1
  by_cases e : y = x
  ·rw [if_pos e, if_pos e]
  ·rw [if_neg e, if_neg e]
   rcases List.mem_cons.mp h with h | h
   ·exact absurd h.symm e
   ·rw [idxI_append h]
theorem idxI_new {x : Int} : ∀ {l : List Int}, x ∉ l → idxI (l ++ [x]) x = l.length
 | [], _ => by show (if x = x then 0 else _) = 0; rw [if_pos rfl]
 | y :: l, h => by
  show (if y = x then 0 else idxI (l ++ [x]) x + 1) = l.length + 1
  rw [List.mem_cons, not_or] at h
  rw [if_neg (Ne.symm h.1), idxI_new h.2]
theorem firsts_snoc (l : List Int) (x : Int) : firsts (l ++ [x]) = if x ∈ l then firsts l else firsts l ++ [x] := by
 have hg : ∀ i, i < l.length → (l ++ [x]).getD i 0 = l.getD i 0 := fun i hi => by
  rw [List.getD_eq_getElem?_getD, List.getD_eq_getElem?_getD, List.getElem?_append_left hi]
 have hl : (l ++ [x]).getD l.length 0 = x := by rw [List.getD_eq_getElem?_getD]; simp
 have hm : ∀ i, i < l.length → l.getD i 0 ∈ l := fun i hi => by rw [List.getD_eq_getElem?_getD, List.getElem?_eq_getElem hi]; exact List.getElem_mem hi
 unfold firsts
 rw [show (l ++ [x]).length = l.length + 1 by simp, List.range_succ, List.filter_append, List.map_append]
 have e1 : ((List.range l.length).filter fun i => idxI (l ++ [x]) ((l ++ [x]).getD i 0) == i) = (List.range l.length).filter fun i => idxI l (l.getD i 0) == i := by
  refine List.filter_congr fun i hi => ?_
  have hi' := List.mem_range.mp hi
  rw [hg i hi', idxI_append (hm i hi')]
 have e2 : ∀ L : List Nat, (∀ i ∈ L, i < l.length) → (L.map fun i => (l ++ [x]).getD i 0) = L.map fun i => l.getD i 0 := fun L hL => List.map_congr_left fun i hi => hg i (hL i hi)
 rw [e1, e2 _ fun i hi => List.mem_range.mp (List.mem_filter.mp hi).1, List.filter_cons, List.filter_nil, hl]
 by_cases h : x ∈ l
 ·rw [if_pos h, idxI_append h]
  have := idxI_lt h
  have e : (idxI l x == l.length) = false := by simp; lia
  rw [e]; simp
 ·rw [if_neg h, idxI_new h]
  simp
theorem firsts_dedup (l : List Int) : firsts l = dedup l := by
 refine snoc_ind (P := fun l => firsts l = dedup l) rfl (fun l x ih => ?_) l
 rw [firsts_snoc]
 unfold dedup
 rw [List.foldl_append]
 show _ = addG (dedup l) x
 rw [← ih]
 unfold addG
 have : x ∈ firsts l ↔ x ∈ l := by rw [ih]; unfold dedup; rw [mem_foldG]; simp
 by_cases h : x ∈ l
 ·rw [if_pos h, if_pos (this.mpr h)]
 ·rw [if_neg h, if_neg fun q => h (this.mp q)]
theorem foldG_map {α β : Type} [DecidableEq α] [DecidableEq β] (f : α → β) (P : α → Prop) (inj : ∀ a b, P a → P b → f a = f b → a = b) : ∀ (l acc : List α), (∀ x ∈ l, P x) → (∀ x ∈ acc, P x) → (l.map f).foldl addG (acc.map f) = (l.foldl addG acc).map f
 | [], acc, _, _ => rfl
 | a :: l, acc, hl, ha => by
  have e : addG (acc.map f) (f a) = (addG acc a).map f := by
   unfold addG
   have : f a ∈ acc.map f ↔ a ∈ acc := ⟨fun q => by
    obtain ⟨b, hb, e⟩ := List.mem_map.mp q
    rw [← inj b a (ha b hb) (hl a (List.mem_cons_self ..)) e]; exact hb, fun q => List.mem_map.mpr ⟨a, q, rfl⟩⟩
   by_cases h : a ∈ acc
   ·rw [if_pos h, if_pos (this.mpr h)]
   ·rw [if_neg h, if_neg fun q => h (this.mp q)]; simp
  rw [List.map_cons, List.foldl_cons, List.foldl_cons, e]
  exact foldG_map f P inj l _ (fun x hx => hl x (List.mem_cons_of_mem _ hx)) fun x hx => (mem_addG.mp hx).elim (ha x) fun e => e ▸ hl a (List.mem_cons_self ..)
theorem cn_inj {a b : Int} (ha : 0 ≤ a ∧ a < 6) (hb : 0 ≤ b ∧ b < 6) (h : cn a = cn b) : a = b := by
 have key : ∀ x ∈ List.range 6, ∀ y ∈ List.range 6, cn (x : Nat) = cn (y : Nat) → x = y := by decide +kernel
 have := key a.toNat (List.mem_range.mpr ((Int.toNat_lt ha.1).mpr ha.2)) b.toNat (List.mem_range.mpr ((Int.toNat_lt hb.1).mpr hb.2)) (by rw [Int.toNat_of_nonneg ha.1, Int.toNat_of_nonneg hb.1]; exact h)
 exact (Int.toNat_of_nonneg ha.1).symm.trans ((congrArg Int.ofNat this).trans (Int.toNat_of_nonneg hb.1))
noncomputable def nb (ls : List (List Nat)) (h : Nat) : List Nat := ls.getD h []
noncomputable abbrev Way := List Int × Nat
noncomputable def WF (ls : List (List Nat)) : Nat → Nat → List Int → List Way
 | 0, h, w => [(w, h)]
 | i + 1, h, w => (List.range (nb ls h).length).flatMap fun t => WF ls i ((nb ls h).getD t 0) (w ++ [(t : Int)])
noncomputable def extW (ls : List (List Nat)) (p : Way) : List Way := (List.range (nb ls p.2).length).map fun (t : Nat) => (p.1 ++ [(t : Int)], (nb ls p.2).getD t 0)
theorem WF_back (ls : List (List Nat)) (i h : Nat) (w : List Int) : WF ls (i + 1) h w = (WF ls i h w).flatMap (extW ls) := by
 induction i generalizing h w with
 | zero =>
  show (List.range (nb ls h).length).flatMap (fun (t : Nat) => [(w ++ [(t : Int)], (nb ls h).getD t 0)]) = [(w, h)].flatMap (extW ls)
  rw [List.flatMap_singleton]
  unfold extW
  rw [List.map_eq_flatMap]
 | succ i ih =>
  show (List.range (nb ls h).length).flatMap (fun t => WF ls (i + 1) ((nb ls h).getD t 0) (w ++ [(t : Int)])) = ((List.range (nb ls h).length).flatMap fun t => WF ls i ((nb ls h).getD t 0) (w ++ [(t : Int)])).flatMap (extW ls)
  rw [List.flatMap_assoc]
  congr 1
  funext t
  exact ih _ _
noncomputable def noteL (b : Best) (V : List Way) : Best := V.foldl (fun b p => bNote b (.int p.2) p.1) b
noncomputable def dfs (ls : List (List Nat)) : Nat → Nat → List Int → List Way
 | 0, _, _ => []
 | d + 1, h, w => (w, h) :: (List.range (nb ls h).length).flatMap fun t => dfs ls d ((nb ls h).getD t 0) (w ++ [(t : Int)])
theorem go_turns {f : Nat → Best → Bool × Best} {V : Nat → List Way} {P : Nat → Prop} (h1 : ∀ t b, P t → f t b = (true, noteL b (V t))) (h2 : ∀ t b, ¬ P t → (f t b).1 = false) : ∀ (ts : List Nat) (b : Best),
  ((∀ t ∈ ts, P t) → goTurns f ts b = (true, noteL b (ts.flatMap V))) ∧ ((∃ t ∈ ts, ¬ P t) → (goTurns f ts b).1 = false)
 | [], b => ⟨fun z' => rfl, fun ⟨t, ht, _⟩ => nomatch ht⟩
 | t :: ts, b => by
  by_cases hp : P t
  ·have e : goTurns f (t :: ts) b = goTurns f ts (noteL b (V t)) := by
    show (match f t b with | (true, b') => goTurns f ts b' | (false, b') => (false, b')) = _
    rw [h1 t b hp]
   obtain ⟨q1, q2⟩ := go_turns h1 h2 ts (noteL b (V t))
   rw [e]
   refine ⟨fun h => ?_, fun ⟨u, hu, hn⟩ => ?_⟩
   ·rw [q1 fun u hu => h u (List.mem_cons_of_mem _ hu), List.flatMap_cons]
    unfold noteL
    rw [List.foldl_append]
   ·rcases List.mem_cons.mp hu with rfl | hu
    ·exact absurd hp hn
    ·exact q2 ⟨u, hu, hn⟩
  ·have hf := h2 t b hp
   have e : goTurns f (t :: ts) b = (false, (f t b).2) := by
    show (match f t b with | (true, b') => goTurns f ts b' | (false, b') => (false, b')) = _
    cases hq : f t b with
    | mk c b' =>
     rw [hq] at hf
     cases c with
     | true => cases hf
     | false => rfl
   rw [e]
   exact ⟨fun h => absurd (h t (List.mem_cons_self ..)) hp, fun z' => rfl⟩
theorem go_eq (ls : List (List Nat)) : ∀ (d h : Nat) (w : List Int) (b : Best), (WF ls d h w = [] → goF ls d h w b = (true, noteL b (dfs ls d h w))) ∧ (WF ls d h w ≠ [] → (goF ls d h w b).1 = false)
 | 0, h, w, b => ⟨(fun q => nomatch q), fun z' => rfl⟩
 | d + 1, h, w, b => by
  obtain ⟨q1, q2⟩ := go_turns (f := fun t b => goF ls d ((ls.getD h []).getD t 0) (w ++ [(t : Int)]) b) (V := fun t => dfs ls d ((nb ls h).getD t 0) (w ++ [(t : Int)])) (P := fun t => WF ls d ((nb ls h).getD t 0) (w ++ [(t : Int)]) = [])
   (fun t b hp => (go_eq ls d _ _ b).1 hp) (fun t b hp => (go_eq ls d _ _ b).2 hp) (List.range (ls.getD h []).length) (bNote b (.int h) w)
  refine ⟨fun q => q1 fun t ht => ?_, fun q => q2 ?_⟩
  ·exact List.flatMap_eq_nil_iff.mp q t ht
  ·refine Classical.byContradiction fun z => q (List.flatMap_eq_nil_iff.mpr fun t ht => Classical.byContradiction fun y => z ⟨t, ht, y⟩)
theorem mem_dfs (ls : List (List Nat)) {p : Way} {d h : Nat} {w : List Int} : p ∈ dfs ls d h w ↔ ∃ i, i < d ∧ p ∈ WF ls i h w := by
 induction d generalizing h w with
 | zero => exact ⟨(fun q => nomatch q), fun q => q.elim fun i q => absurd q.1 (Nat.not_lt_zero i)⟩
 | succ d ih =>
  show p ∈ (w, h) :: (List.range (nb ls h).length).flatMap (fun t => dfs ls d ((nb ls h).getD t 0) (w ++ [(t : Int)])) ↔ _
  rw [List.mem_cons, List.mem_flatMap]
  constructor
  ·rintro (rfl | ⟨t, ht, hp⟩)
   ·exact ⟨0, Nat.succ_pos d, List.mem_singleton.mpr rfl⟩
   ·obtain ⟨i, hi, hp⟩ := ih.mp hp
    exact ⟨i + 1, Nat.succ_lt_succ hi, List.mem_flatMap.mpr ⟨t, ht, hp⟩⟩
  ·rintro ⟨i, hi, hp⟩
   cases i with
   | zero => exact .inl (List.mem_singleton.mp hp)
   | succ i =>
    obtain ⟨t, ht, hp⟩ := List.mem_flatMap.mp hp
    exact .inr ⟨t, ht, ih.mpr ⟨i, Nat.lt_of_succ_lt_succ hi, hp⟩⟩
def Least (V : List Way) (k : Nat) (w : List Int) : Prop := (w, k) ∈ V ∧ ∀ w', (w', k) ∈ V → ltW w' w = false
theorem Least.unique {V : List Way} {k : Nat} {w w' : List Int} (h : Least V k w) (h' : Least V k w') : w = w' := by
 refine Classical.byContradiction fun q => ?_
 rcases stoW.tot w w' q with z | z
 ·rw [h'.2 w h.1] at z; cases z
 ·rw [h.2 w' h'.1] at z; cases z
theorem note_best (V : List Way) : ((noteL [] V).map (·.1)).Nodup ∧ (∀ p ∈ noteL [] V, ∃ k : Nat, p.1 = .int k) ∧ (∀ (k : Nat) w, (noteL [] V).lookup (.int k) = some w → Least V k w) ∧ ∀ (k : Nat) w, (w, k) ∈ V → ((noteL [] V).lookup (.int k)).isSome = true := by
 refine snoc_ind (P := fun V => ((noteL [] V).map (·.1)).Nodup ∧ (∀ p ∈ noteL [] V, ∃ k : Nat, p.1 = .int k) ∧ (∀ (k : Nat) w, (noteL [] V).lookup (.int k) = some w → Least V k w) ∧ ∀ (k : Nat) w, (w, k) ∈ V → ((noteL [] V).lookup (.int k)).isSome = true)
  ⟨by simp [noteL], (fun p hp => nomatch hp), (fun k w h => by cases h), (fun k w h => nomatch h)⟩ (fun V p ih => ?_) V
 obtain ⟨w, k⟩ := p
 obtain ⟨i1, i2, i3, i4⟩ := ih
 have e : noteL [] (V ++ [(w, k)]) = bNote (noteL [] V) (.int k) w := by unfold noteL; rw [List.foldl_append]; rfl
 rw [e]
 generalize noteL [] V = b at *
 have keys : ∀ v, (∀ p ∈ kput b (.int k) v, ∃ k : Nat, p.1 = .int k) := fun v p hp => (kput_mem hp).elim (fun e => ⟨k, e⟩) fun q => by
  obtain ⟨p', hp', e⟩ := List.mem_map.mp q
  rw [← e]; exact i2 p' hp'
 have ne : ∀ {k' : Nat}, k' ≠ k → (Key.int (k' : Int)) ≠ .int k := fun h e => h (by injection e with e; lia)
 have wk : ∀ {k' : Nat} {v : List Int}, k' ≠ k → Least V k' v → Least (V ++ [(w, k)]) k' v := fun h l => ⟨List.mem_append.mpr (.inl l.1), fun w' hw => by
  rcases List.mem_append.mp hw with q | q
  ·exact l.2 w' q
  ·exact absurd (congrArg Prod.snd (List.mem_singleton.mp q)) h⟩
 cases hl : b.lookup (.int k) with
 | none =>
  have en : bNote b (.int k) w = kput b (.int k) w := by unfold bNote; rw [hl]
  rw [en]
  have hno : ∀ w', (w', k) ∉ V := fun w' q => by have := i4 k w' q; rw [hl] at this; cases this
  refine ⟨kput_nodup i1 _ _, keys w, fun k' v h => ?_, fun k' v h => ?_⟩
  ·rw [lookup_kput] at h
   by_cases q : k' = k
   ·subst q
    rw [if_pos rfl] at h
    cases h
    refine ⟨by simp, fun w' hw => ?_⟩
    rcases List.mem_append.mp hw with z | z
    ·exact absurd z (hno w')
    ·exact (show w' = w from congrArg Prod.fst (List.mem_singleton.mp z)) ▸ stoW.irr _
   ·rw [if_neg (ne q)] at h
    exact wk q (i3 k' v h)
  ·rw [lookup_kput]
   by_cases q : k' = k
   ·rw [q, if_pos rfl]; rfl
   ·rw [if_neg (ne q)]
    rcases List.mem_append.mp h with z | z
    ·exact i4 k' v z
    ·exact absurd (congrArg Prod.snd (List.mem_singleton.mp z)) q
 | some v0 =>
  have l0 := i3 k v0 hl
  by_cases hlt : ltW w v0 = true
  ·have en : bNote b (.int k) w = kput b (.int k) w := by unfold bNote; rw [hl]; simp [hlt]
   rw [en]
   refine ⟨kput_nodup i1 _ _, keys w, fun k' v h => ?_, fun k' v h => ?_⟩
   ·rw [lookup_kput] at h
    by_cases q : k' = k
    ·subst q
     rw [if_pos rfl] at h
     cases h
     refine ⟨by simp, fun w' hw => ?_⟩
     rcases List.mem_append.mp hw with z | z
     ·cases y : ltW w' w with
      | false => rfl
      | true => have := stoW.trans w' w v0 y hlt; rw [l0.2 w' z] at this; cases this
     ·exact (show w' = w from congrArg Prod.fst (List.mem_singleton.mp z)) ▸ stoW.irr _
    ·rw [if_neg (ne q)] at h
     exact wk q (i3 k' v h)
   ·rw [lookup_kput]
    by_cases q : k' = k
    ·rw [q, if_pos rfl]; rfl
    ·rw [if_neg (ne q)]
     rcases List.mem_append.mp h with z | z
     ·exact i4 k' v z
     ·exact absurd (congrArg Prod.snd (List.mem_singleton.mp z)) q
  ·have hlt' : ltW w v0 = false := by simpa using hlt
   have en : bNote b (.int k) w = b := by unfold bNote; rw [hl]; simp [hlt']
   rw [en]
   refine ⟨i1, i2, fun k' v h => ?_, fun k' v h => ?_⟩
   ·by_cases q : k' = k
    ·subst q
     rw [hl] at h
     cases h
     refine ⟨List.mem_append.mpr (.inl l0.1), fun w' hw => ?_⟩
     rcases List.mem_append.mp hw with z | z
     ·exact l0.2 w' z
     ·exact (show w' = w from congrArg Prod.fst (List.mem_singleton.mp z)) ▸ hlt'
    ·exact wk q (i3 k' v h)
   ·by_cases q : k' = k
    ·rw [q, hl]; rfl
    ·rcases List.mem_append.mp h with z | z
     ·exact i4 k' v z
     ·exact absurd (congrArg Prod.snd (List.mem_singleton.mp z)) q
theorem ltI_prefix : ∀ (w u v : List Int), ltI (w ++ u) (w ++ v) = ltI u v
 | [], _, _ => rfl
 | a :: w, u, v => by
  show (if a = a then ltI (w ++ u) (w ++ v) else decide (a < a)) = _
  rw [if_pos rfl, ltI_prefix]
theorem WF_shape (ls : List (List Nat)) {p : Way} : ∀ {i h : Nat} {w : List Int}, p ∈ WF ls i h w → ∃ u, p.1 = w ++ u ∧ u.length = i
 | 0, h, w, hp => ⟨[], by rw [List.mem_singleton.mp hp]; simp, rfl⟩
 | i + 1, h, w, hp => by
  obtain ⟨t, ht, hp⟩ := List.mem_flatMap.mp hp
  obtain ⟨u, hu, hl⟩ := WF_shape ls hp
  exact ⟨(t : Int) :: u, by rw [hu]; simp, by simp [hl]⟩
theorem WF_sorted (ls : List (List Nat)) : ∀ (i h : Nat) (w : List Int), (WF ls i h w).Pairwise fun a b => ltI a.1 b.1 = true
 | 0, h, w => List.pairwise_singleton ..
 | i + 1, h, w => by
  show ((List.range (nb ls h).length).flatMap fun t => WF ls i ((nb ls h).getD t 0) (w ++ [(t : Int)])).Pairwise _
  rw [List.pairwise_flatMap]
  refine ⟨fun t ht => WF_sorted ls i _ _, ?_⟩
  refine List.Pairwise.imp (R := fun a b => a < b) (fun {a b} hab x hx y hy => ?_) List.pairwise_lt_range
  obtain ⟨u, hu, _⟩ := WF_shape ls hx
  obtain ⟨v, hv, _⟩ := WF_shape ls hy
  rw [hu, hv, List.append_assoc, List.append_assoc, ltI_prefix]
  show (if (a : Int) = (b : Int) then _ else decide ((a : Int) < b)) = true
  rw [if_neg (by lia)]
  simpa using hab
noncomputable def AW (ls : List (List Nat)) (f d : Nat) : List Way := (List.range d).flatMap fun i => WF ls i f []
theorem AW_succ (ls : List (List Nat)) (f d : Nat) : AW ls f (d + 1) = AW ls f d ++ WF ls d f [] := by
 unfold AW; rw [List.range_succ, List.flatMap_append, List.flatMap_singleton]
theorem AW_sorted (ls : List (List Nat)) (f d : Nat) : (AW ls f d).Pairwise fun a b => ltW a.1 b.1 = true := by
 unfold AW
 rw [List.pairwise_flatMap]
 refine ⟨fun i z' => ?_, ?_⟩
 ·refine List.Pairwise.imp_of_mem (fun {a b} ha hb hab => ?_) (WF_sorted ls i f [])
  obtain ⟨u, hu, hl⟩ := WF_shape ls ha
  obtain ⟨v, hv, hm⟩ := WF_shape ls hb
  unfold ltW
  rw [if_pos (by rw [hu, hv]; simp [hl, hm])]
  exact hab
 ·refine List.Pairwise.imp (R := fun a b => a < b) (fun {i j} hij a ha b hb => ?_) List.pairwise_lt_range
  obtain ⟨u, hu, hl⟩ := WF_shape ls ha
  obtain ⟨v, hv, hm⟩ := WF_shape ls hb
  have h1 : a.1.length = i := by rw [hu]; simpa using hl
  have h2 : b.1.length = j := by rw [hv]; simpa using hm
  unfold ltW
  rw [if_neg (by lia), h1, h2]
  simpa using hij
theorem mem_AW (ls : List (List Nat)) {p : Way} {f d : Nat} : p ∈ AW ls f d ↔ p ∈ dfs ls d f [] := by
 rw [mem_dfs]
 unfold AW
 rw [List.mem_flatMap]
 exact ⟨fun ⟨i, h1, h2⟩ => ⟨i, List.mem_range.mp h1, h2⟩, fun ⟨i, h1, h2⟩ => ⟨i, List.mem_range.mpr h1, h2⟩⟩
noncomputable def foS (acc : List Way) (p : Way) : List Way := if p.2 ∈ acc.map (·.2) then acc else acc ++ [p]
noncomputable def FO (A : List Way) : List Way := A.foldl foS []
theorem FO_snoc (A : List Way) (p : Way) : FO (A ++ [p]) = foS (FO A) p := by unfold FO; rw [List.foldl_append]; rfl
theorem FO_snd (A : List Way) : (FO A).map (·.2) = dedup (A.map (·.2)) := by
 refine snoc_ind (P := fun A => (FO A).map (·.2) = dedup (A.map (·.2))) rfl (fun A p ih => ?_) A
 have e : dedup ((A ++ [p]).map (·.2)) = addG (dedup (A.map (·.2))) p.2 := by unfold dedup; rw [List.map_append, List.foldl_append]; rfl
 rw [FO_snoc, e, ← ih]
 unfold foS addG
 by_cases h : p.2 ∈ (FO A).map (·.2)
 ·rw [if_pos h, if_pos h]
 ·rw [if_neg h, if_neg h, List.map_append]; rfl
theorem FO_least (A : List Way) (hs : A.Pairwise fun a b => ltW a.1 b.1 = true) : (FO A).Pairwise (fun a b => ltW a.1 b.1 = true) ∧ (∀ p ∈ FO A, p ∈ A) ∧ ∀ k w, (w, k) ∈ FO A ↔ Least A k w := by
 revert hs
 refine snoc_ind (P := fun A => (A.Pairwise fun a b => ltW a.1 b.1 = true) → (FO A).Pairwise (fun a b => ltW a.1 b.1 = true) ∧ (∀ p ∈ FO A, p ∈ A) ∧ ∀ k w, (w, k) ∈ FO A ↔ Least A k w)
  (fun z' => ⟨.nil, (fun p hp => nomatch hp), fun k w => ⟨(fun h => nomatch h), (fun h => nomatch h.1)⟩⟩) (fun A p ih hs => ?_) A
 rw [List.pairwise_append] at hs
 obtain ⟨h1, _, h3⟩ := hs
 obtain ⟨i1, i2, i3⟩ := ih h1
 have hlt : ∀ a ∈ A, ltW a.1 p.1 = true := fun a ha => h3 a ha p (by simp)
 have hmem : p.2 ∈ (FO A).map (·.2) ↔ ∃ w, (w, p.2) ∈ A := by
  rw [FO_snd]
  unfold dedup
  rw [mem_foldG]
  simp
 rw [FO_snoc]
 unfold foS
 by_cases h : p.2 ∈ (FO A).map (·.2)
 ·rw [if_pos h]
  obtain ⟨w0, hw0⟩ := hmem.mp h
  refine ⟨i1, fun q hq => List.mem_append.mpr (.inl (i2 q hq)), fun k w => (i3 k w).trans ⟨fun l => ⟨List.mem_append.mpr (.inl l.1), fun w' hw => ?_⟩, fun l => ⟨?_, fun w' hw => l.2 w' (List.mem_append.mpr (.inl hw))⟩⟩⟩
  ·rcases List.mem_append.mp hw with z | z
   ·exact l.2 w' z
   ·have e := List.mem_singleton.mp z
    have hp1 : w' = p.1 := congrArg Prod.fst e
    cases y : ltW w' w with
    | false => rfl
    | true =>
     have := hlt _ l.1
     rw [← hp1] at this
     have := stoW.trans _ _ _ this y
     rw [stoW.irr] at this; cases this
  ·rcases List.mem_append.mp l.1 with z | z
   ·exact z
   ·have e := List.mem_singleton.mp z
    have hp1 : w = p.1 := congrArg Prod.fst e
    have hp2 : k = p.2 := congrArg Prod.snd e
    have := l.2 w0 (List.mem_append.mpr (.inl (hp2 ▸ hw0)))
    have h2 := hlt _ hw0
    dsimp only at h2
    rw [← hp1, this] at h2; cases h2
 ·rw [if_neg h]
  have hno : ∀ w, (w, p.2) ∉ A := fun w q => h (hmem.mpr ⟨w, q⟩)
  refine ⟨List.pairwise_append.mpr ⟨i1, List.pairwise_singleton .., fun a ha b hb => by rw [List.mem_singleton.mp hb]; exact hlt a (i2 a ha)⟩, fun q hq => ?_, fun k w => ?_⟩
  ·rcases List.mem_append.mp hq with z | z
   ·exact List.mem_append.mpr (.inl (i2 q z))
   ·exact List.mem_append.mpr (.inr z)
  ·rw [List.mem_append]
   constructor
   ·rintro (z | z)
    ·have l := (i3 k w).mp z
     refine ⟨List.mem_append.mpr (.inl l.1), fun w' hw => ?_⟩
     rcases List.mem_append.mp hw with y | y
     ·exact l.2 w' y
     ·have hk : k = p.2 := congrArg Prod.snd (List.mem_singleton.mp y)
      exact absurd (hk ▸ l.1) (hno w)
    ·have e := List.mem_singleton.mp z
     refine ⟨List.mem_append.mpr (.inr z), fun w' hw => ?_⟩
     rcases List.mem_append.mp hw with y | y
     ·have hk : k = p.2 := congrArg Prod.snd e
      exact absurd (hk ▸ y) (hno w')
     ·have e1 : w' = p.1 := congrArg Prod.fst (List.mem_singleton.mp y)
      have e2 : w = p.1 := congrArg Prod.fst e
      rw [e1, e2]; exact stoW.irr _
   ·rintro l
    rcases List.mem_append.mp l.1 with z | z
    ·by_cases hk : k = p.2
     ·exact absurd (hk ▸ z) (hno w)
     ·exact .inl ((i3 k w).mpr ⟨z, fun w' hw => l.2 w' (List.mem_append.mpr (.inl hw))⟩)
    ·exact .inr z
theorem pairs_sorted {ls : List (List Nat)} {f d : Nat} {ks : List (List Int × Int)} (hp : ks.Perm (pairsOf (noteL [] (dfs ls d f [])))) (hs : ks.Pairwise fun a b => ltP a b = true) :
  ks.map (fun p => cn p.2) = (dedup ((AW ls f d).map (·.2))).map fun (k : Nat) => cn (k : Int) := by
 obtain ⟨n1, n2, n3, n4⟩ := note_best (dfs ls d f [])
 obtain ⟨f1, f2, f3⟩ := FO_least _ (AW_sorted ls f d)
 have hL : ∀ k w, Least (AW ls f d) k w ↔ Least (dfs ls d f []) k w := fun k w => ⟨fun l => ⟨(mem_AW ls).mp l.1, fun w' h => l.2 w' ((mem_AW ls).mpr h)⟩, fun l => ⟨(mem_AW ls).mpr l.1, fun w' h => l.2 w' ((mem_AW ls).mp h)⟩⟩
 generalize noteL [] (dfs ls d f []) = b at *
 have hsF : ((FO (AW ls f d)).map fun p => (p.1, (p.2 : Int))).Pairwise fun a b => ltP a b = true := by
  rw [List.pairwise_map]
  refine f1.imp fun {a c} h => ?_
  unfold ltP
  rw [if_neg]
  ·exact h
  ·intro e
   dsimp only at e
   rw [e, stoW.irr] at h; cases h
 have nd : ∀ {l : List (List Int × Int)}, (l.Pairwise fun a b => ltP a b = true) → l.Nodup := fun h => h.imp fun {a c} q e => by subst e; rw [stoP.irr] at q; cases q
 have mem : ∀ p : List Int × Int, p ∈ pairsOf b ↔ p ∈ (FO (AW ls f d)).map fun p => (p.1, (p.2 : Int)) := fun p => by
  constructor
  ·intro h
   obtain ⟨q, hq, rfl⟩ := List.mem_map.mp h
   obtain ⟨k, hk⟩ := n2 q hq
   have hlk := lookup_mem_nodup n1 hq
   rw [hk] at hlk
   have := (f3 k q.2).mpr ((hL k q.2).mpr (n3 k q.2 hlk))
   exact List.mem_map.mpr ⟨_, this, by rw [hk]; rfl⟩
  ·intro h
   obtain ⟨⟨w, k⟩, hq, rfl⟩ := List.mem_map.mp h
   have l := (hL k w).mp ((f3 k w).mp hq)
   have := n4 k w l.1
   obtain ⟨v, hv⟩ := Option.isSome_iff_exists.mp this
   have := (n3 k v hv).unique l
   subst this
   exact List.mem_map.mpr ⟨_, mem_of_lookup_some hv, rfl⟩
 have hperm : ks.Perm ((FO (AW ls f d)).map fun p => (p.1, (p.2 : Int))) := (List.perm_ext_iff_of_nodup (nd hs) (nd hsF)).mpr fun p => (hp.mem_iff).trans (mem p)
 have e := sorted_unique (r := fun a b => ltP a b = true) (fun a h => by rw [stoP.irr] at h; cases h) (fun a b c => stoP.trans a b c) hperm hs hsF
 rw [e, List.map_map, ← FO_snd, List.map_map]
 rfl
noncomputable abbrev cnN (k : Nat) : Str := cn (k : Int)
theorem foldG_in {α : Type} [DecidableEq α] : ∀ (xs acc : List α), (∀ y ∈ xs, y ∈ acc) → xs.foldl addG acc = acc
 | [], _, _ => rfl
 | x :: xs, acc, h => by
  have e : addG acc x = acc := by unfold addG; rw [if_pos (h x (List.mem_cons_self ..))]
  rw [List.foldl_cons, e]
  exact foldG_in xs acc fun y hy => h y (List.mem_cons_of_mem _ hy)
theorem flat_dedup {α β : Type} [DecidableEq α] [DecidableEq β] (g : α → List β) (l : List α) (r : List β) : ((dedup l).flatMap g).foldl addG r = (l.flatMap g).foldl addG r := by
 refine snoc_ind (P := fun l => ((dedup l).flatMap g).foldl addG r = (l.flatMap g).foldl addG r) rfl (fun l x ih => ?_) l
 have e : dedup (l ++ [x]) = addG (dedup l) x := by unfold dedup; rw [List.foldl_append]; rfl
 have ea : addG (dedup l) x = if x ∈ dedup l then dedup l else dedup l ++ [x] := rfl
 rw [e, List.flatMap_append, List.foldl_append, List.flatMap_singleton, ea]
 by_cases h : x ∈ dedup l
 ·rw [if_pos h, ih]
  have hx : x ∈ l := by unfold dedup at h; rw [mem_foldG] at h; simpa using h
  exact (foldG_in _ _ fun y hy => mem_foldG.mpr (.inr (List.mem_flatMap.mpr ⟨x, hx, hy⟩))).symm
 ·rw [if_neg h, List.flatMap_append, List.foldl_append, List.flatMap_singleton]
  show (g x).foldl addG (((dedup l).flatMap g).foldl addG r) = _
  rw [ih]
noncomputable def rfN (ls : List (List Nat)) : Nat → List Nat → List Nat → Option (List Nat)
 | _, reached, [] => some reached
 | 0, _, _ :: _ => Option.none
 | d + 1, reached, x :: l => rfN ls d (((x :: l).flatMap (nb ls)).foldl addG reached) (((x :: l).flatMap (nb ls)).foldl addG [])
theorem WF_snd (ls : List (List Nat)) (i f : Nat) : (WF ls (i + 1) f []).map (·.2) = ((WF ls i f []).map (·.2)).flatMap (nb ls) := by
 rw [WF_back, List.map_flatMap, List.flatMap_map]
 congr 1
 funext p
 unfold extW
 rw [List.map_map]
 refine List.ext_getElem (by simp) fun i h1 h2 => ?_
 simp [List.getElem?_eq_getElem h2]
theorem WF_nil (ls : List (List Nat)) (f : Nat) {i : Nat} (h : WF ls i f [] = []) : ∀ j, WF ls (i + j) f [] = []
 | 0 => h
 | j + 1 => by rw [← Nat.add_assoc, WF_back, WF_nil ls f h j]; rfl
theorem AW_nil (ls : List (List Nat)) (f : Nat) {i : Nat} (h : WF ls i f [] = []) : ∀ j, AW ls f (i + j) = AW ls f i
 | 0 => rfl
 | j + 1 => by rw [← Nat.add_assoc, AW_succ, AW_nil ls f h j, WF_nil ls f h j, List.append_nil]
theorem dedup_nil {α : Type} [DecidableEq α] {l : List α} (h : dedup l = []) : l = [] := by
 cases l with
 | nil => rfl
 | cons x l =>
  have : x ∈ dedup (x :: l) := by unfold dedup; rw [mem_foldG]; exact .inr (List.mem_cons_self ..)
  rw [h] at this; cases this
theorem rfN_eq (ls : List (List Nat)) (f : Nat) : ∀ (d i : Nat), rfN ls d (dedup ((AW ls f (i + 1)).map (·.2))) (dedup ((WF ls i f []).map (·.2))) = if WF ls (i + d) f [] = [] then some (dedup ((AW ls f (i + d)).map (·.2))) else Option.none
 | d, i => by
  cases hl : dedup ((WF ls i f []).map (·.2)) with
  | nil =>
   have hW : WF ls i f [] = [] := by simpa using dedup_nil hl
   rw [if_pos (WF_nil ls f hW d), AW_nil ls f hW d, AW_succ, hW, List.append_nil]
   cases d <;> rfl
  | cons x l =>
   have hW : WF ls i f [] ≠ [] := fun q => by rw [q] at hl; cases hl
   cases d with
   | zero =>
    show Option.none = if WF ls i f [] = [] then _ else _
    rw [if_neg hW]
   | succ d =>
    show rfN ls d (((x :: l).flatMap (nb ls)).foldl addG _) (((x :: l).flatMap (nb ls)).foldl addG []) = _
    rw [← hl, flat_dedup, flat_dedup, ← WF_snd]
    have e : ((WF ls (i + 1) f []).map (·.2)).foldl addG (dedup ((AW ls f (i + 1)).map (·.2))) = dedup ((AW ls f (i + 1 + 1)).map (·.2)) := by
     rw [AW_succ ls f (i + 1), List.map_append]
     unfold dedup
     rw [List.foldl_append]
    rw [e]
    have := rfN_eq ls f d (i + 1)
    rw [show i + 1 + d = i + (d + 1) by lia] at this
    exact this
theorem rfN_start (ls : List (List Nat)) (f d : Nat) : rfN ls d [f] [f] = if WF ls d f [] = [] then some (dedup ((AW ls f d).map (·.2))) else Option.none := by
 have := rfN_eq ls f d 0
 have h1 : dedup ((AW ls f (0 + 1)).map (·.2)) = [f] := by simp [AW, WF, dedup, addG]
 have h2 : dedup ((WF ls 0 f []).map (·.2)) = [f] := by simp [WF, dedup, addG]
 rw [h1, h2] at this
 simpa only [Nat.zero_add] using this
structure GR (ts : Tg) (ls : List (List Nat)) : Prop where
 T : TgOk ts
 len : ls.length ≤ 6
 lt : ∀ l ∈ ls, ∀ x ∈ l, x < ls.length
 nd : ∀ l ∈ ls, l.Nodup
 has : ∀ k, k < ls.length → cnN k ∈ ts.map (·.1)
 all : ∀ x ∈ ts.map (·.1), ∃ k, k < ls.length ∧ x = cnN k
 tg : ∀ k, k < ls.length → tgOf ts (cnN k) = (nb ls k).map cnN
theorem cnN_inj {a b : Nat} (ha : a < 6) (hb : b < 6) (h : cnN a = cnN b) : a = b := by
 have := cn_inj (a := (a : Int)) (b := (b : Int)) (by lia) (by lia) h
 lia
theorem nb_lt {ts : Tg} {ls : List (List Nat)} (G : GR ts ls) {k x : Nat} (h : x ∈ nb ls k) : x < ls.length := by
 unfold nb at h
 rcases Nat.lt_or_ge k ls.length with q | q
 ·rw [List.getD_eq_getElem?_getD, List.getElem?_eq_getElem q] at h
  exact G.lt _ (List.getElem_mem q) x h
 ·rw [List.getD_eq_getElem?_getD, List.getElem?_eq_none q] at h
  cases h
theorem flat_names {ts : Tg} {ls : List (List Nat)} (G : GR ts ls) : ∀ (l : List Nat), (∀ x ∈ l, x < ls.length) → (l.map cnN).flatMap (tgOf ts) = (l.flatMap (nb ls)).map cnN
 | [], _ => rfl
 | x :: l, h => by
  rw [List.map_cons, List.flatMap_cons, List.flatMap_cons, List.map_append, G.tg x (h x (List.mem_cons_self ..)), flat_names G l fun y hy => h y (List.mem_cons_of_mem _ hy)]
theorem rf_names {ts : Tg} {ls : List (List Nat)} (G : GR ts ls) : ∀ (d : Nat) (r l : List Nat), (∀ x ∈ r, x < ls.length) → (∀ x ∈ l, x < ls.length) → rfRun ts d (r.map cnN) (l.map cnN) = (rfN ls d r l).map fun r => r.map cnN
 | d, r, [], _, _ => by cases d <;> rfl
 | 0, r, x :: l, _, _ => rfl
 | d + 1, r, x :: l, hr, hl => by
  have inj : ∀ a b : Nat, a < ls.length → b < ls.length → cnN a = cnN b → a = b := fun a b ha hb => cnN_inj (Nat.lt_of_lt_of_le ha G.len) (Nat.lt_of_lt_of_le hb G.len)
  have hf : ∀ y ∈ (x :: l).flatMap (nb ls), y < ls.length := fun y hy => by
   obtain ⟨k, _, h⟩ := List.mem_flatMap.mp hy; exact nb_lt G h
  show rfRun ts d (((x :: l).map cnN).flatMap (tgOf ts) |>.foldl addT (r.map cnN)) (((x :: l).map cnN).flatMap (tgOf ts) |>.foldl addT []) = (rfN ls d (((x :: l).flatMap (nb ls)).foldl addG r) (((x :: l).flatMap (nb ls)).foldl addG [])).map _
  rw [flat_names G _ hl, addT_G, addT_G]
  have e1 := foldG_map cnN (fun k => k < ls.length) inj ((x :: l).flatMap (nb ls)) r hf hr
  have e2 := foldG_map cnN (fun k => k < ls.length) inj ((x :: l).flatMap (nb ls)) [] hf (fun y hy => nomatch hy)
  rw [List.map_nil] at e2
  rw [e1, e2]
  exact rf_names G d _ _ (fun y hy => (mem_foldG.mp hy).elim (hr y) (hf y)) fun y hy => (mem_foldG.mp hy).elim (fun q => nomatch q) (hf y)
theorem rf_start {ts : Tg} {ls : List (List Nat)} (G : GR ts ls) {f : Nat} (hf : f < ls.length) (d : Nat) : rfRun ts d [cnN f] [cnN f] = if WF ls d f [] = [] then some ((dedup ((AW ls f d).map (·.2))).map cnN) else Option.none := by
 have := rf_names G d [f] [f] (by simpa using hf) (by simpa using hf)
 rw [rfN_start] at this
 rw [show rfRun ts d [cnN f] [cnN f] = rfRun ts d ([f].map cnN) ([f].map cnN) from rfl, this]
 split <;> rfl
def WalkN (ls : List (List Nat)) : Nat → Nat → Prop
 | 0, k => k < ls.length
 | m + 1, k => ∃ u, u < ls.length ∧ WalkN ls m u ∧ k ∈ nb ls u
theorem comeIn_bit (t : Nat) : ∀ (l : List Nat) (c : Nat), (comeIn c l).testBit t = (c.testBit t || decide (t ∈ l))
 | [], c => by simp [comeIn]
 | n :: l, c => by
  have e : comeIn c (n :: l) = comeIn (c ||| 2 ^ n) l := rfl
  rw [e, comeIn_bit t l, Nat.testBit_or, Nat.testBit_two_pow]
  by_cases h : n = t
  ·subst h; simp
  ·have h' : ¬ t = n := fun q => h q.symm
   simp [h, h']
theorem comeOf_bit (ls : List (List Nat)) (alive t : Nat) : (comeOf ls alive).testBit t = true ↔ ∃ k, k < ls.length ∧ alive.testBit k = true ∧ t ∈ nb ls k := by
 have key : ∀ m, ((List.range m).foldl (comeS ls alive) 0).testBit t = true ↔ ∃ k, k < m ∧ alive.testBit k = true ∧ t ∈ nb ls k := fun m => by
  induction m with
  | zero => simp
  | succ m ih =>
   rw [range_snoc]
   have eb : alive.testBit m = decide (alive / 2 ^ m % 2 = 1) := Nat.testBit_eq_decide_div_mod_eq ..
   have ec : ∀ c, comeS ls alive c m = if alive / 2 ^ m % 2 = 1 then comeIn c (ls.getD m []) else c := fun z' => rfl
   rw [ec]
   by_cases h : alive / 2 ^ m % 2 = 1
   ·rw [if_pos h, comeIn_bit, Bool.or_eq_true, ih]
    constructor
    ·rintro (⟨k, h1, h2, h3⟩ | h3)
     ·exact ⟨k, Nat.lt_succ_of_lt h1, h2, h3⟩
     ·exact ⟨m, Nat.lt_succ_self m, by rw [eb]; simpa using h, by unfold nb; simpa using h3⟩
    ·rintro ⟨k, h1, h2, h3⟩
     by_cases q : k = m
     ·subst q; exact .inr (by unfold nb at h3; simpa using h3)
     ·exact .inl ⟨k, by lia, h2, h3⟩
   ·rw [if_neg h]
    rw [ih]
    constructor
    ·rintro ⟨k, h1, h2, h3⟩; exact ⟨k, Nat.lt_succ_of_lt h1, h2, h3⟩
    ·rintro ⟨k, h1, h2, h3⟩
     by_cases q : k = m
     ·subst q; rw [eb] at h2; exact absurd (by simpa using h2) h
     ·exact ⟨k, by lia, h2, h3⟩
 exact key ls.length
theorem rounds_bit {ts : Tg} {ls : List (List Nat)} (G : GR ts ls) : ∀ (m t : Nat), (roundsOf ls m).testBit t = true ↔ WalkN ls m t
 | 0, t => by
  show (2 ^ ls.length - 1).testBit t = true ↔ t < ls.length
  rw [Nat.testBit_two_pow_sub_one]; simp
 | m + 1, t => by
  have e : roundsOf ls (m + 1) = comeOf ls (roundsOf ls m) := range_snoc ..
  rw [e, comeOf_bit]
  exact ⟨fun ⟨k, h1, h2, h3⟩ => ⟨k, h1, (rounds_bit G m k).mp h2, h3⟩, fun ⟨k, h1, h2, h3⟩ => ⟨k, h1, (rounds_bit G m k).mpr h2, h3⟩⟩
theorem rounds_ne {ts : Tg} {ls : List (List Nat)} (G : GR ts ls) (m : Nat) : (roundsOf ls m != 0) = true ↔ ∃ t, WalkN ls m t := by
 rw [bne_iff_ne]
 constructor
 ·intro h
  obtain ⟨t, ht⟩ := Nat.exists_testBit_of_ne_zero h
  exact ⟨t, (rounds_bit G m t).mp ht⟩
 ·rintro ⟨t, ht⟩ h
  have := (rounds_bit G m t).mpr ht
  rw [h, Nat.zero_testBit] at this; cases this
theorem cntOf_bump (s : Int) (m : Cnt) (x t : Str) : cntOf (bump s m x) t = if t = x then cntOf m t + s else cntOf m t := by
 unfold bump
 rw [show cntOf (kput m (.str x) (cntOf m x + s)) t = ((kput m (.str x) (cntOf m x + s)).lookup (.str t)).getD 0 from rfl, lookup_kput]
 by_cases h : t = x
 ·subst h; rw [if_pos rfl, if_pos rfl]; rfl
 ·rw [if_neg h, if_neg (fun e => h (by injection e))]; rfl
theorem bump_fold (t : Str) : ∀ (xs : List Str) (m : Cnt), xs.Nodup → cntOf (xs.foldl (bump 1) m) t = cntOf m t + if t ∈ xs then 1 else 0
 | [], m, _ => by simp
 | x :: xs, m, h => by
  rw [List.nodup_cons] at h
  rw [List.foldl_cons, bump_fold t xs _ h.2, cntOf_bump]
  by_cases q : t = x
  ·subst q; rw [if_pos rfl, if_neg h.1, if_pos (List.mem_cons_self ..)]; lia
  ·rw [if_neg q]
   by_cases z : t ∈ xs
   ·rw [if_pos z, if_pos (List.mem_cons_of_mem _ z)]
   ·rw [if_neg z, if_neg fun y => (List.mem_cons.mp y).elim q z]
theorem dec_fold : ∀ (xs : List Str) (p : Cnt × List Str), xs.Nodup → (xs.foldl decS p).2 = p.2 ++ xs.filter (fun t => cntOf p.1 t + -1 == 0) ∧ ∀ t, cntOf (xs.foldl decS p).1 t = cntOf p.1 t - if t ∈ xs then 1 else 0
 | [], p, _ => ⟨by simp, fun t => by simp⟩
 | x :: xs, p, h => by
  rw [List.nodup_cons] at h
  obtain ⟨h1, h2⟩ := dec_fold xs (decS p x) h.2
  have e1 : (decS p x).1 = bump (-1) p.1 x := rfl
  have e2 : (decS p x).2 = if cntOf (bump (-1) p.1 x) x = 0 then p.2 ++ [x] else p.2 := rfl
  rw [e1] at h1 h2
  rw [e2, cntOf_bump, if_pos rfl] at h1
  refine ⟨?_, fun t => ?_⟩
  ·rw [List.foldl_cons, h1, List.filter_cons]
   have ef : xs.filter (fun t => cntOf (bump (-1) p.1 x) t + -1 == 0) = xs.filter (fun t => cntOf p.1 t + -1 == 0) := List.filter_congr fun t ht => by
    rw [cntOf_bump, if_neg (show ¬ t = x from fun q => h.1 (q ▸ ht))]
   rw [ef]
   by_cases q : cntOf p.1 x + -1 = 0
   ·rw [if_pos q]; simp [q]
   ·rw [if_neg q]; simp [q]
  ·rw [List.foldl_cons, h2 t, cntOf_bump]
   by_cases q : t = x
   ·subst q; rw [if_pos rfl, if_neg h.1, if_pos (List.mem_cons_self ..)]; lia
   ·rw [if_neg q]
    by_cases z : t ∈ xs
    ·rw [if_pos z, if_pos (List.mem_cons_of_mem _ z)]
    ·rw [if_neg z, if_neg fun y => (List.mem_cons.mp y).elim q z]
theorem cnt0_zero (ts : Tg) (t : Str) : cntOf (cnt0 ts) t = 0 := by
 have : ∀ (ts : Tg) (m : Cnt), cntOf m t = 0 → cntOf (ts.foldl (fun m p => kput m (.str p.1) 0) m) t = 0 := fun ts => by
  induction ts with
  | nil => intro m h; exact h
  | cons p r ih =>
   intro m h
   rw [List.foldl_cons]
   refine ih _ ?_
   unfold cntOf at *
   rw [lookup_kput]
   split
   ·rfl
   ·exact h
 exact this ts [] rfl
theorem tgOf_at {ts : Tg} (T : TgOk ts) {p : Str × List Str} (hp : p ∈ ts) : tgOf ts p.1 = p.2 := by
 have h2 := T.tg (List.mem_map.mpr ⟨p, hp, rfl⟩)
 have hn := T.nd
 generalize tgOf ts p.1 = y at *
 have : ∀ (l : Tg), (l.map (·.1)).Nodup → p ∈ l → (p.1, y) ∈ l → y = p.2 := fun l => by
  induction l with
  | nil => intro _ h; cases h
  | cons q r ih =>
   intro hn h1 h2
   rw [List.map_cons, List.nodup_cons] at hn
   rcases List.mem_cons.mp h1 with e1 | h1
   ·rcases List.mem_cons.mp h2 with e2 | h2
    ·rw [e1, ← e2]
    ·exact absurd (List.mem_map.mpr ⟨_, h2, by rw [← e1]⟩) hn.1
   ·rcases List.mem_cons.mp h2 with e2 | h2
    ·exact absurd (List.mem_map.mpr ⟨_, h1, by rw [← e2]⟩) hn.1
    ·exact ih hn.2 h1 h2
 exact this ts hn hp h2
noncomputable def preds (ts : Tg) (done : List Str) (t : Str) : List Str := (ts.map (·.1)).filter fun u => decide (t ∈ tgOf ts u) && !decide (u ∈ done)
theorem inc1_cnt {ts : Tg} (T : TgOk ts) (hnd : ∀ p ∈ ts, p.2.Nodup) (t : Str) : cntOf (inc1 ts) t = ((preds ts [] t).length : Int) := by
 have : ∀ (l : Tg) (m : Cnt), (∀ p ∈ l, p ∈ ts) → cntOf (l.foldl (fun m p => p.2.foldl (bump 1) m) m) t = cntOf m t + ((l.map (·.1)).filter fun u => decide (t ∈ tgOf ts u) && !decide (u ∈ ([] : List Str))).length := fun l => by
  induction l with
  | nil => intro m _; simp
  | cons p r ih =>
   intro m h
   have hp := h p (List.mem_cons_self ..)
   rw [List.foldl_cons, ih _ fun q hq => h q (List.mem_cons_of_mem _ hq), bump_fold t p.2 m (hnd p hp), List.map_cons, List.filter_cons, tgOf_at T hp]
   by_cases q : t ∈ p.2
   ·rw [if_pos q]; simp [q]; lia
   ·rw [if_neg q]; simp [q]
 have h := this ts (cnt0 ts) fun p hp => hp
 rw [cnt0_zero, Int.zero_add] at h
 exact h
theorem filter_drop {α : Type} [DecidableEq α] (p : α → Bool) (u : α) : ∀ (l : List α), l.Nodup → u ∈ l → ((l.filter fun v => p v && !decide (v = u)).length : Int) = (l.filter p).length - if p u = true then 1 else 0
 | [], _, h => nomatch h
 | x :: l, hn, h => by
  rw [List.nodup_cons] at hn
  rcases List.mem_cons.mp h with rfl | h
  ·have e : (l.filter fun v => p v && !decide (v = u)) = l.filter p := List.filter_congr fun v hv => by
    have : ¬ v = u := fun q => hn.1 (q ▸ hv)
    simp [this]
   rw [List.filter_cons, List.filter_cons, e]
   cases hp : p u with
   | true => simp
   | false => simp
  ·have ih := filter_drop p u l hn.2 h
   have hx : ¬ x = u := fun q => hn.1 (q ▸ h)
   rw [List.filter_cons, List.filter_cons]
   cases hp : p x with
   | true => simp [hx] at ih ⊢; lia
   | false => simp at ih ⊢; lia
structure KInv (ts : Tg) (st : KSt) : Prop where
 nd : st.free.Nodup
 mem : ∀ x ∈ st.free, x ∈ ts.map (·.1)
 le : st.taken ≤ st.free.length
 cnt : ∀ t ∈ ts.map (·.1), cntOf st.into t = ((preds ts (st.free.take st.taken) t).length : Int)
 fz : ∀ t ∈ ts.map (·.1), t ∈ st.free ↔ cntOf st.into t = 0
 pre : ∀ i t, st.free[i]? = some t → ∀ u ∈ ts.map (·.1), t ∈ tgOf ts u → u ∈ st.free.take i
theorem preds_nil {ts : Tg} {done : List Str} {t : Str} (h : (preds ts done t).length = 0) : ∀ u ∈ ts.map (·.1), t ∈ tgOf ts u → u ∈ done := fun u hu ht => Classical.byContradiction fun q => by
 have : u ∈ preds ts done t := List.mem_filter.mpr ⟨hu, by simp [ht, q]⟩
 rw [List.length_eq_zero_iff.mp h] at this; cases this
theorem kinv_start {ts : Tg} (T : TgOk ts) (hnd : ∀ p ∈ ts, p.2.Nodup) : KInv ts ⟨0, inc1 ts, free0 ts⟩ where
 nd := List.filter_sublist.nodup T.nd
 mem := fun x hx => (List.mem_filter.mp hx).1
 le := Nat.zero_le _
 cnt := fun t z' => inc1_cnt T hnd t
 fz := fun t ht => by
  show t ∈ free0 ts ↔ _
  unfold free0
  rw [List.mem_filter]
  exact ⟨fun h => by simpa using h.2, fun h => ⟨ht, by simpa using h⟩⟩
 pre := fun i t hi u hu htu => by
  have hm : t ∈ free0 ts := List.mem_of_getElem? hi
  have hz : cntOf (inc1 ts) t = 0 := by simpa using (List.mem_filter.mp hm).2
  rw [inc1_cnt T hnd] at hz
  exact absurd (preds_nil (ts := ts) (done := []) (by lia) u hu htu) (by simp)
theorem kinv_step {ts : Tg} (T : TgOk ts) (hnd : ∀ p ∈ ts, p.2.Nodup) {st : KSt} (hlt : st.taken < st.free.length) (I : KInv ts st) : KInv ts (kstep ts st) := by
 obtain ⟨taken, into, free⟩ := st
 obtain ⟨nd, mem, le, cnt, fz, pre⟩ := I
 dsimp only at nd mem le cnt fz pre hlt
 have hu0 : free[taken]? = some (free.getD taken default) := by rw [List.getD_eq_getElem?_getD, List.getElem?_eq_getElem hlt]; rfl
 have hks : kstep ts ⟨taken, into, free⟩ = ⟨taken + 1, ((tgOf ts (free.getD taken default)).foldl decS (into, free)).1, ((tgOf ts (free.getD taken default)).foldl decS (into, free)).2⟩ := rfl
 rw [hks]
 generalize free.getD taken default = u at *
 have hu : u ∈ ts.map (·.1) := mem u (List.mem_of_getElem? hu0)
 have hxnd := hnd _ (T.tg hu)
 have hxcl := T.cl _ (T.tg hu)
 dsimp only at hxnd hxcl
 generalize hxs : tgOf ts u = xs at *
 obtain ⟨d1, d2⟩ := dec_fold xs (into, free) hxnd
 dsimp only at d1 d2
 have htake : free.take (taken + 1) = free.take taken ++ [u] := by
  rw [List.take_add_one, hu0]; rfl
 have hunot : u ∉ free.take taken := fun q => by
  obtain ⟨i, hi⟩ := List.getElem?_of_mem q
  have hit : i < taken := by have := (List.getElem?_eq_some_iff.mp hi).1; simp at this; lia
  rw [List.getElem?_take, if_pos hit] at hi
  have := (List.getElem?_inj (List.getElem?_eq_some_iff.mp hi).1 nd).mp (hi.trans hu0.symm)
  lia
 have hadd : ∀ t ∈ xs.filter (fun t => cntOf into t + -1 == 0), t ∈ ts.map (·.1) ∧ t ∉ free ∧ t ∈ xs ∧ cntOf into t = 1 := fun t ht => by
  obtain ⟨h1, h2⟩ := List.mem_filter.mp ht
  have h2 : cntOf into t + -1 = 0 := by simpa using h2
  have h3 := hxcl t h1
  exact ⟨h3, fun q => by have := (fz t h3).mp q; lia, h1, by lia⟩
 have hpos : ∀ t ∈ xs, 1 ≤ cntOf into t := fun t ht => by
  rw [cnt t (hxcl t ht)]
  have : u ∈ preds ts (free.take taken) t := List.mem_filter.mpr ⟨hu, by rw [hxs]; simp [ht, hunot]⟩
  have := List.length_pos_of_mem this
  lia
 have htake' : ∀ {F : List Str} {n : Nat}, n ≤ free.length → (free ++ F).take n = free.take n := fun {F n} h => by rw [List.take_append_of_le_length h]
 have hcnt : ∀ t ∈ ts.map (·.1), cntOf (xs.foldl decS (into, free)).1 t = ((preds ts ((xs.foldl decS (into, free)).2.take (taken + 1)) t).length : Int) := fun t ht => by
  rw [d2, d1, htake' hlt, htake, cnt t ht]
  have e : preds ts (free.take taken ++ [u]) t = (ts.map (·.1)).filter fun v => (decide (t ∈ tgOf ts v) && !decide (v ∈ free.take taken)) && !decide (v = u) := List.filter_congr fun v z' => by
   rw [Bool.eq_iff_iff]; simp; exact ⟨fun ⟨a, b, c⟩ => ⟨⟨a, b⟩, c⟩, fun ⟨⟨a, b⟩, c⟩ => ⟨a, b, c⟩⟩
  rw [e, filter_drop _ u _ T.nd hu]
  have ep : (decide (t ∈ tgOf ts u) && !decide (u ∈ free.take taken)) = decide (t ∈ xs) := by rw [hxs]; simp [hunot]
  rw [ep]
  show _ - _ = ((preds ts (free.take taken) t).length : Int) - _
  by_cases q : t ∈ xs <;> simp [q]
 refine ⟨?_, ?_, ?_, hcnt, ?_, ?_⟩
 ·dsimp only
  rw [d1, List.nodup_append]
  exact ⟨nd, List.filter_sublist.nodup hxnd, fun a ha b hb e => (hadd b hb).2.1 (e ▸ ha)⟩
 ·dsimp only
  rw [d1]
  intro x hx
  rcases List.mem_append.mp hx with q | q
  ·exact mem x q
  ·exact (hadd x q).1
 ·dsimp only
  rw [d1, List.length_append]; lia
 ·dsimp only
  intro t ht
  rw [d1, d2, List.mem_append]
  by_cases q : t ∈ xs
  ·rw [if_pos q]
   have hp := hpos t q
   constructor
   ·rintro (z | z)
    ·have := (fz t ht).mp z; lia
    ·have := (hadd t z).2.2.2; lia
   ·intro z
    exact .inr (List.mem_filter.mpr ⟨q, by simp; lia⟩)
  ·rw [if_neg q, Int.sub_zero, ← fz t ht]
   exact ⟨fun z => z.elim id fun z => absurd (hadd t z).2.2.1 q, .inl⟩
 ·dsimp only
  intro i t hi v hv htv
  rw [d1] at hi ⊢
  by_cases q : i < free.length
  ·rw [List.getElem?_append_left q] at hi
   rw [htake' (Nat.le_of_lt q)]
   exact pre i t hi v hv htv
  ·rw [List.getElem?_append_right (by lia)] at hi
   have ht := hadd t (List.mem_of_getElem? hi)
   have hz : cntOf (xs.foldl decS (into, free)).1 t = 0 := by rw [d2, if_pos ht.2.2.1, ht.2.2.2]; rfl
   have hc := hcnt t ht.1
   rw [hz] at hc
   have := preds_nil (ts := ts) (done := (xs.foldl decS (into, free)).2.take (taken + 1)) (by lia) v hv htv
   rw [d1, htake' hlt] at this
   rw [List.take_append]
   refine List.mem_append.mpr (.inl ?_)
   rw [List.take_of_length_le (by lia)]
   exact (List.take_subset _ _) this
theorem kinv {ts : Tg} (T : TgOk ts) (hnd : ∀ p ∈ ts, p.2.Nodup) {st : KSt} (h : KReach ts st) : KInv ts st := by
 induction h with
 | start => exact kinv_start T hnd
 | step hlt _ ih => exact kinv_step T hnd hlt ih
theorem GR.tnd {ts : Tg} {ls : List (List Nat)} (G : GR ts ls) : ∀ p ∈ ts, p.2.Nodup := fun p hp => by
 obtain ⟨k, hk, e⟩ := G.all p.1 (List.mem_map.mpr ⟨p, hp, rfl⟩)
 rw [← tgOf_at G.T hp, e, G.tg k hk]
 have hn : (nb ls k).Nodup := by
  unfold nb
  rw [List.getD_eq_getElem?_getD, List.getElem?_eq_getElem hk]
  exact G.nd _ (List.getElem_mem hk)
 exact List.Pairwise.map _ (fun a b q e => q.2.2 (cnN_inj q.1 q.2.1 e)) (hn.imp_of_mem (S := fun a b => a < 6 ∧ b < 6 ∧ a ≠ b) fun {a b} ha hb q => ⟨Nat.lt_of_lt_of_le (nb_lt G ha) G.len, Nat.lt_of_lt_of_le (nb_lt G hb) G.len, q⟩)
theorem names_len {ts : Tg} {ls : List (List Nat)} (G : GR ts ls) : ts.length = ls.length := by
 have hn2 : ((List.range ls.length).map cnN).Nodup := List.Pairwise.map _ (fun a b (q : a < 6 ∧ b < 6 ∧ a ≠ b) e => q.2.2 (cnN_inj q.1 q.2.1 e)) (List.nodup_range.imp_of_mem fun {a b} ha hb q => ⟨Nat.lt_of_lt_of_le (List.mem_range.mp ha) G.len, Nat.lt_of_lt_of_le (List.mem_range.mp hb) G.len, q⟩)
 have := ((List.perm_ext_iff_of_nodup G.T.nd hn2).mpr fun x => ⟨fun h => by obtain ⟨k, hk, e⟩ := G.all x h; exact List.mem_map.mpr ⟨k, List.mem_range.mpr hk, e.symm⟩, fun h => by obtain ⟨k, hk, e⟩ := List.mem_map.mp h; rw [← e]; exact G.has k (List.mem_range.mp hk)⟩).length_eq
 simpa using this
theorem edge {ts : Tg} {ls : List (List Nat)} (G : GR ts ls) {u k : Nat} (hu : u < ls.length) (hk : k < 6) : cnN k ∈ tgOf ts (cnN u) ↔ k ∈ nb ls u := by
 rw [G.tg u hu]
 constructor
 ·intro h
  obtain ⟨x, hx, e⟩ := List.mem_map.mp h
  rw [← cnN_inj (Nat.lt_of_lt_of_le (nb_lt G hx) G.len) hk e]; exact hx
 ·intro h; exact List.mem_map.mpr ⟨k, h, rfl⟩
theorem ring_eq {ts : Tg} {ls : List (List Nat)} (G : GR ts ls) {st : KSt} (hr : KReach ts st) (hend : st.free.length ≤ st.taken) : decide (st.taken < ts.length) = (roundsOf ls ls.length != 0) := by
 have I := kinv G.T G.tnd hr
 have hlen := names_len G
 have htk : st.taken = st.free.length := Nat.le_antisymm I.le hend
 have hfl : st.free.length ≤ ts.length := by
  have := I.nd.length_le_of_subset (l₂ := ts.map (·.1)) fun x hx => I.mem x hx
  simpa using this
 rw [Bool.eq_iff_iff, rounds_ne G, decide_eq_true_iff]
 constructor
 ·intro hlt
  have hex : ∃ t ∈ ts.map (·.1), t ∉ st.free := Classical.byContradiction fun q => by
   have := G.T.nd.length_le_of_subset (l₂ := st.free) fun x hx => Classical.byContradiction fun z => q ⟨x, hx, z⟩
   simp at this
   lia
  have walk : ∀ (m k : Nat), k < ls.length → cnN k ∉ st.free → WalkN ls m k := fun m => by
   induction m with
   | zero => intro k hk _; exact hk
   | succ m ih =>
    intro k hk hno
    have hne : cntOf st.into (cnN k) ≠ 0 := fun q => hno ((I.fz _ (G.has k hk)).mpr q)
    rw [I.cnt _ (G.has k hk)] at hne
    have hpos : (preds ts (st.free.take st.taken) (cnN k)) ≠ [] := fun q => hne (by rw [q]; rfl)
    obtain ⟨v, hv⟩ := List.exists_mem_of_ne_nil _ hpos
    obtain ⟨h1, h2⟩ := List.mem_filter.mp hv
    simp only [Bool.and_eq_true, decide_eq_true_eq, Bool.not_eq_true', decide_eq_false_iff_not] at h2
    obtain ⟨u, hu, rfl⟩ := G.all v h1
    rw [htk, List.take_length] at h2
    exact ⟨u, hu, ih u hu h2.2, (edge G hu (Nat.lt_of_lt_of_le hk G.len)).mp h2.1⟩
  obtain ⟨t, ht, hno⟩ := hex
  obtain ⟨k, hk, rfl⟩ := G.all t ht
  exact ⟨k, walk _ k hk hno⟩
 ·rintro ⟨t, ht⟩
  refine Classical.byContradiction fun q => ?_
  have hall : ∀ x ∈ ts.map (·.1), x ∈ st.free := fun x hx => Classical.byContradiction fun z => by
   have : (x :: st.free).Nodup := List.nodup_cons.mpr ⟨z, I.nd⟩
   have := this.length_le_of_subset (l₂ := ts.map (·.1)) fun y hy => (List.mem_cons.mp hy).elim (fun e => e ▸ hx) (I.mem y)
   simp at this
   lia
  have walk : ∀ (m k i : Nat), WalkN ls m k → st.free[i]? = some (cnN k) → m ≤ i := fun m => by
   induction m with
   | zero => intro k i _ _; exact Nat.zero_le _
   | succ m ih =>
    rintro k i ⟨u, hu, hw, hk⟩ hi
    have hin := I.pre i _ hi (cnN u) (G.has u hu) ((edge G hu (Nat.lt_of_lt_of_le (nb_lt G hk) G.len)).mpr hk)
    obtain ⟨j, hj⟩ := List.getElem?_of_mem hin
    have hjt : j < i := by have := (List.getElem?_eq_some_iff.mp hj).1; simp at this; lia
    rw [List.getElem?_take, if_pos hjt] at hj
    have := ih u j hw hj
    lia
  have htl : t < ls.length := by
   cases hL : ls.length with
   | zero => rw [hL] at ht; have h0 : t < ls.length := ht; rw [hL] at h0; exact h0
   | succ n =>
    rw [hL] at ht
    obtain ⟨u, hu, _, hk⟩ := ht
    rw [← hL]; exact nb_lt G hk
  obtain ⟨i, hi⟩ := List.getElem?_of_mem (hall _ (G.has t htl))
  have h1 := walk _ t i ht hi
  have h2 := (List.getElem?_eq_some_iff.mp hi).1
  lia
noncomputable def toldK (rows : List Row) (m0 m1 : List Int) (h : Int) : List Int := rows.flatMap fun r => if r.home = h then goalsOf r m0 m1 else []
noncomputable def leadI (rows : List Row) (m0 m1 : List Int) (h : Int) : List Int := dedup (toldK rows m0 m1 h)
noncomputable def leadN (rows : List Row) (m0 m1 : List Int) (N : Nat) : List (List Nat) := (List.range N).map fun (k : Nat) => (leadI rows m0 m1 (k : Int)).map Int.toNat
noncomputable def hm (N : Nat) (tn k : Nat) : Nat := (k + tn) % N
noncomputable def tgG (rows : List Row) (m0 m1 : List Int) (N tn : Nat) (m : Nat) : Tg := (List.range m).map fun (k : Nat) => (cn (hm N tn k : Int), (leadI rows m0 m1 (hm N tn k)).map cn)
theorem gAdd_rng {gs : List Int} {N : Nat} {turn : Int} (hN : 0 < N) (P : Int → Prop) (hP : ∀ x : Int, 0 ≤ x → x < N → P x) (key k : Nat) (acc : List Int) (h : ∀ x ∈ acc, P x) : ∀ x ∈ gAdd gs N turn key acc k, P x := fun x hx => by
 unfold gAdd at hx
 split at hx
 ·rcases List.mem_append.mp hx with q | q
  ·exact h x q
  ·rw [List.mem_singleton.mp q]
   have := fmod_range (gs.getD k 0) hN
   exact hP _ this.1 this.2
 ·exact h x hx
theorem gbk_rng {gs : List Int} {N : Nat} {turn : Int} (hN : 0 < N) : ∀ x ∈ gbk gs N turn, 0 ≤ x ∧ x < N := by
 have g := fun key k acc => gAdd_rng (gs := gs) (turn := turn) hN (fun x => 0 ≤ x ∧ x < N) (fun x a b => ⟨a, b⟩) key k acc
 have row : ∀ key acc, (∀ x ∈ acc, 0 ≤ x ∧ x < (N : Int)) → ∀ x ∈ gRow gs N turn acc key, 0 ≤ x ∧ x < (N : Int) := fun key acc h => g key 2 _ (g key 1 _ (g key 0 _ h))
 exact row 4 _ (row 3 _ (row 2 _ (row 1 _ (row 0 _ fun x hx => nomatch hx))))
theorem gbk_len {gs : List Int} {N turn : Int} : (gbk gs N turn).length ≤ 15 := gRow_len 5
theorem goals_rng {N : Nat} {r : Row} (hr : r.ok N) {m0 m1 : List Int} (h0 : ∀ x ∈ m0, 0 ≤ x ∧ x < (N : Int)) (h1 : ∀ x ∈ m1, 0 ≤ x ∧ x < (N : Int)) : ∀ x ∈ goalsOf r m0 m1, 0 ≤ x ∧ x < (N : Int) := fun x hx => by
 have ha := hr.a
 have hb := hr.b
 unfold goalsOf at hx
 split at hx
 ·exact h0 x hx
 ·split at hx
  ·exact h1 x hx
  ·obtain ⟨h2, h3⟩ := List.mem_filter.mp hx
   have h3 : 0 ≤ x := by simpa using h3
   split at h2
   ·simp at h2; rcases h2 with rfl | rfl <;> lia
   ·simp at h2; subst h2; lia
theorem told_rng {N : Nat} {rows : List Row} (hrow : ∀ r ∈ rows, r.ok N) {m0 m1 : List Int} (h0 : ∀ x ∈ m0, 0 ≤ x ∧ x < (N : Int)) (h1 : ∀ x ∈ m1, 0 ≤ x ∧ x < (N : Int)) (h : Int) : ∀ x ∈ toldK rows m0 m1 h, 0 ≤ x ∧ x < (N : Int) := fun x hx => by
 obtain ⟨r, hr, hx⟩ := List.mem_flatMap.mp hx
 split at hx
 ·exact goals_rng (hrow r hr) h0 h1 x hx
 ·cases hx
theorem lead_rng {N : Nat} {rows : List Row} (hrow : ∀ r ∈ rows, r.ok N) {m0 m1 : List Int} (h0 : ∀ x ∈ m0, 0 ≤ x ∧ x < (N : Int)) (h1 : ∀ x ∈ m1, 0 ≤ x ∧ x < (N : Int)) (h : Int) : ∀ x ∈ leadI rows m0 m1 h, 0 ≤ x ∧ x < (N : Int) := fun x hx => by
 unfold leadI dedup at hx
 rw [mem_foldG] at hx
 exact told_rng hrow h0 h1 h x (hx.elim (fun q => nomatch q) id)
theorem lead_nodup (rows : List Row) (m0 m1 : List Int) (h : Int) : (leadI rows m0 m1 h).Nodup := nodup_foldG (by simp)
theorem map_nodup {α β : Type} {f : α → β} {l : List α} (inj : ∀ a ∈ l, ∀ b ∈ l, f a = f b → a = b) (h : l.Nodup) : (l.map f).Nodup := by
 rw [List.nodup_iff_pairwise_ne] at h ⊢
 rw [List.pairwise_map]
 exact h.imp_of_mem fun {a b} ha hb q e => q (inj a ha b hb e)
theorem nodup_len {l : List Int} {N : Nat} (hn : l.Nodup) (h : ∀ x ∈ l, 0 ≤ x ∧ x < (N : Int)) : l.length ≤ N := by
 have := hn.length_le_of_subset (l₂ := (List.range N).map fun (k : Nat) => (k : Int)) fun x hx => List.mem_map.mpr ⟨x.toNat, List.mem_range.mpr (by have := h x hx; lia), by have := h x hx; lia⟩
 simpa using this
theorem hm_lt {N tn k : Nat} (hN : 0 < N) : hm N tn k < N := Nat.mod_lt _ hN
theorem hm_inj {N tn a b : Nat} (hN : 4 ≤ N) (hN6 : N ≤ 6) (ht : tn < N) (ha : a < N) (hb : b < N) (h : hm N tn a = hm N tn b) : a = b :=
 have key : ∀ M ∈ List.range 3, ∀ tn ∈ List.range (M + 4), ∀ a ∈ List.range (M + 4), ∀ b ∈ List.range (M + 4), hm (M + 4) tn a = hm (M + 4) tn b → a = b := by decide +kernel
 have e : N - 4 + 4 = N := Nat.sub_add_cancel hN
 key (N - 4) (List.mem_range.mpr (Nat.lt_succ_of_le (Nat.sub_le_sub_right hN6 4))) tn (by rw [e]; exact List.mem_range.mpr ht) a (by rw [e]; exact List.mem_range.mpr ha) b (by rw [e]; exact List.mem_range.mpr hb) (by rw [e]; exact h)
theorem hm_sur {N tn k : Nat} (hN : 4 ≤ N) (hN6 : N ≤ 6) (ht : tn < N) (hk : k < N) : ∃ j, j < N ∧ hm N tn j = k :=
 have key : ∀ M ∈ List.range 3, ∀ tn ∈ List.range (M + 4), ∀ k ∈ List.range (M + 4), hm (M + 4) tn ((k + (M + 4) - tn) % (M + 4)) = k := by decide +kernel
 have e : N - 4 + 4 = N := Nat.sub_add_cancel hN
 ⟨(k + N - tn) % N, Nat.mod_lt _ (Nat.lt_of_lt_of_le (by decide) hN), e ▸ key (N - 4) (List.mem_range.mpr (Nat.lt_succ_of_le (Nat.sub_le_sub_right hN6 4))) tn (by rw [e]; exact List.mem_range.mpr ht) k (by rw [e]; exact List.mem_range.mpr hk)⟩
theorem gr_law {N tn : Nat} {rows : List Row} {m0 m1 : List Int} (hN : 4 ≤ N) (hN6 : N ≤ 6) (ht : tn < N) (hrow : ∀ r ∈ rows, r.ok N) (h0 : ∀ x ∈ m0, 0 ≤ x ∧ x < (N : Int)) (h1 : ∀ x ∈ m1, 0 ≤ x ∧ x < (N : Int)) :
  GR (tgG rows m0 m1 N tn N) (leadN rows m0 m1 N) := by
 have hl : (leadN rows m0 m1 N).length = N := by unfold leadN; simp
 have hlead := lead_rng hrow h0 h1
 have hnames : (tgG rows m0 m1 N tn N).map (·.1) = (List.range N).map fun (k : Nat) => cn (hm N tn k : Int) := by unfold tgG; rw [List.map_map]; rfl
 have hnd : ((tgG rows m0 m1 N tn N).map (·.1)).Nodup := by
  rw [hnames]
  refine map_nodup (fun a ha b hb e => ?_) List.nodup_range
  have l1 := hm_lt (tn := tn) (k := a) (show 0 < N by lia)
  have l2 := hm_lt (tn := tn) (k := b) (show 0 < N by lia)
  exact hm_inj hN hN6 ht (List.mem_range.mp ha) (List.mem_range.mp hb) (cnN_inj (by lia) (by lia) e)
 have hhas : ∀ k, k < N → cnN k ∈ (tgG rows m0 m1 N tn N).map (·.1) := fun k hk => by
  obtain ⟨j, hj, e⟩ := hm_sur hN hN6 ht hk
  rw [hnames]
  exact List.mem_map.mpr ⟨j, List.mem_range.mpr hj, by rw [e]⟩
 have T : TgOk (tgG rows m0 m1 N tn N) := by
  refine ⟨hnd, by unfold tgG; simpa using hN6, fun p hp => ?_, fun p hp t htp => ?_⟩
  ·obtain ⟨k, _, rfl⟩ := List.mem_map.mp hp
   have := nodup_len (lead_nodup rows m0 m1 (hm N tn k)) (hlead _)
   simp; lia
  ·obtain ⟨k, _, rfl⟩ := List.mem_map.mp hp
   obtain ⟨x, hx, rfl⟩ := List.mem_map.mp htp
   have := hlead _ x hx
   have h2 := hhas x.toNat (by lia)
   rw [show cnN x.toNat = cn x from by show cn ((x.toNat : Nat) : Int) = cn x; rw [Int.toNat_of_nonneg this.1]] at h2
   exact h2
 refine ⟨T, by rw [hl]; exact hN6, fun l hlm x hx => ?_, fun l hlm => ?_, fun k hk => hhas k (by rw [hl] at hk; exact hk), fun x hx => ?_, fun k hk => ?_⟩
 ·obtain ⟨k, _, rfl⟩ := List.mem_map.mp hlm
  obtain ⟨y, hy, rfl⟩ := List.mem_map.mp hx
  have := hlead _ y hy
  rw [hl]; lia
 ·obtain ⟨k, _, rfl⟩ := List.mem_map.mp hlm
  refine map_nodup (fun a ha b hb e => ?_) (lead_nodup ..)
  have h1 := hlead _ a ha
  have h2 := hlead _ b hb
  lia
 ·rw [hnames] at hx
  obtain ⟨k, _, rfl⟩ := List.mem_map.mp hx
  exact ⟨hm N tn k, by rw [hl]; exact hm_lt (by lia), rfl⟩
 ·rw [hl] at hk
  obtain ⟨j, hj, e⟩ := hm_sur hN hN6 ht hk
  have hp : (cn (hm N tn j : Int), (leadI rows m0 m1 (hm N tn j)).map cn) ∈ tgG rows m0 m1 N tn N := List.mem_map.mpr ⟨j, List.mem_range.mpr hj, rfl⟩
  have := tgOf_at T hp
  dsimp only at this
  rw [e] at this
  rw [show cnN k = cn ((k : Nat) : Int) from rfl, this]
  have en : nb (leadN rows m0 m1 N) k = (leadI rows m0 m1 k).map Int.toNat := by
   unfold nb leadN
   rw [List.getD_eq_getElem?_getD, List.getElem?_map, List.getElem?_range hk]; rfl
  rw [en, List.map_map]
  refine List.map_congr_left fun x hx => ?_
  have := hlead _ x hx
  show cn x = cn ((x.toNat : Nat) : Int)
  rw [Int.toNat_of_nonneg this.1]
theorem goals_len {r : Row} {m0 m1 : List Int} (h0 : m0.length ≤ 15) (h1 : m1.length ≤ 15) : (goalsOf r m0 m1).length ≤ 15 := by
 unfold goalsOf
 split
 ·exact h0
 ·split
  ·exact h1
  ·refine Nat.le_trans (List.length_filter_le _ _) ?_
   split <;> simp
theorem told_len {m0 m1 : List Int} (h0 : m0.length ≤ 15) (h1 : m1.length ≤ 15) (h : Int) : ∀ (rows : List Row), (toldK rows m0 m1 h).length ≤ 15 * rows.length
 | [] => Nat.le_refl _
 | r :: rows => by
  have ih := told_len h0 h1 h rows
  have hg := goals_len (r := r) h0 h1
  unfold toldK at *
  rw [List.flatMap_cons, List.length_append, List.length_cons]
  split
  ·lia
  ·rw [List.length_nil]; lia
theorem dueP_ok {b : Bool} {names : List Str} (h : ∀ x ∈ names, PyData.strOk x = true) : PV.ok 3 (dueP b names) = true := by
 have hs := oks_str h
 cases b with
 | false => show PV.ok 3 (dueP false []) = true; decide +kernel
 | true =>
  have h2 : PV.oks 1 (names.map PV.str) = true := hs
  show (PV.ok 2 (pS "") && (PV.ok 2 (pS "") && (PV.ok 2 (.lst (names.map .str)) && PV.oks 2 []))) = true
  have e0 : PV.ok 2 (pS "") = true := by decide +kernel
  have e1 : PV.ok 2 (.lst (names.map .str)) = true := by show PV.oks 1 (names.map .str) = true; exact hs
  rw [e0, e1]; rfl
theorem cnN_ok {k : Nat} (h : k < 6) : PyData.strOk (cnN k) = true := cn_ok (by lia) (by lia)
section
variable {Γ : Cx} {K : Frag} {n : Nat} {env : Env} {ρ : Rho} {σ : Sto}
noncomputable def sideA (ls : List (List Nat)) (f d : Nat) : PV := if WF ls d f [] = [] then dueP true ((dedup ((AW ls f d).map (·.2))).map cnN) else dueP false []
theorem AW_lt {ts : Tg} {ls : List (List Nat)} (G : GR ts ls) {f : Nat} (hf : f < ls.length) (d : Nat) : ∀ p ∈ AW ls f d, p.2 < ls.length := fun p hp => by
 obtain ⟨i, _, hp⟩ := List.mem_flatMap.mp hp
 cases i with
 | zero => rw [List.mem_singleton.mp hp]; exact hf
 | succ i =>
  rw [WF_back] at hp
  obtain ⟨q, _, hp⟩ := List.mem_flatMap.mp hp
  obtain ⟨t, ht, rfl⟩ := List.mem_map.mp hp
  refine nb_lt G (k := q.2) ?_
  have ht' := List.mem_range.mp ht
  rw [List.getD_eq_getElem?_getD, List.getElem?_eq_getElem ht']
  exact List.getElem_mem ht'
theorem sideA_ok {ts : Tg} {ls : List (List Nat)} (G : GR ts ls) {f : Nat} (hf : f < ls.length) (d : Nat) : PV.ok 3 (sideA ls f d) = true := by
 unfold sideA
 split
 ·refine dueP_ok fun x hx => ?_
  obtain ⟨k, hk, rfl⟩ := List.mem_map.mp hx
  unfold dedup at hk
  rw [mem_foldG] at hk
  obtain ⟨p, hp, rfl⟩ := List.mem_map.mp (hk.elim (fun q => nomatch q) id)
  exact cnN_ok (Nat.lt_of_lt_of_le (AW_lt G hf d p hp) G.len)
 ·exact dueP_ok fun x hx => nomatch hx
set_option tactic.hygienic true in
theorem side_reached (W : Wd Γ K) {ts : Tg} {ls : List (List Nat)} (G : GR ts ls) {f d : Nat} (hf : f < ls.length) (hd : d ≤ 6) {Q : V → Sto → Prop} (h : Q (.t (sideA ls f d)) σ) :
  WC Γ (n + 6) (.ref 782) [.t (tgP ts), .t (.int f), .t (.int d)] σ Q := by
 have hlen := G.len
 have hrf := rf_start G hf d
 refine w_law_reached W G.T (fun x hx => ?_) (G.has f hf) (by lia) hd (fun r hr => ?_) fun hr => ?_
 ·obtain ⟨k, hk, rfl⟩ := G.all x hx
  exact cnN_ok (by lia)
 ·rw [show [cn (f : Int)] = [cnN f] from rfl, hrf] at hr
  unfold sideA at h
  split at hr
  ·rename_i q; rw [if_pos q] at h; cases hr; exact h
  ·cases hr
 ·rw [show [cn (f : Int)] = [cnN f] from rfl, hrf] at hr
  unfold sideA at h
  split at hr
  ·cases hr
  ·rename_i q; rw [if_neg q] at h; exact h
theorem side_due (W : Wd Γ K) {ts : Tg} {ls : List (List Nat)} (G : GR ts ls) {f d : Nat} (hf : f < ls.length) (hd : d ≤ 6) {Q : V → Sto → Prop} (h : Q (.t (sideA ls f d)) σ) :
  WC Γ (n + 8) (.ref 775) [.t (leadsP ls), .t (.int f), .t (.int d)] σ Q := by
 have hlen := G.len
 obtain ⟨g1, g2⟩ := go_eq ls d f [] []
 refine WC.up (m := n + 2 + d) (by lia) (w_due_reached W hlen (fun l hl => ?_) G.lt hd hf (fun hF => ?_) fun hT ks hp hs => ?_)
 ·have := (G.nd l hl).length_le_of_subset (l₂ := List.range ls.length) fun x hx => List.mem_range.mpr (G.lt l hl x hx)
  simp at this; lia
 ·unfold sideA at h
  by_cases q : WF ls d f [] = []
  ·rw [g1 q] at hF; cases hF
  ·rw [if_neg q] at h; exact h
 ·unfold sideA at h
  by_cases q : WF ls d f [] = []
  ·rw [if_pos q] at h
   rw [g1 q] at hp
   rw [pairs_sorted hp hs]; exact h
  ·rw [g2 q] at hT; cases hT
end
section
variable {Γ : Cx} {K : Frag} {n : Nat} {env : Env} {ρ : Rho} {σ : Sto}
theorem v_neB {a b : Bool} {Q : V → Sto → Prop} (h : Q (.t (.bool (!(a == b)))) σ) : WV2 Γ n (.t (.bool a)) (.t (.bool b)) (compareOp .NotEq) σ Q := fun A s ν g x y hA S r1 r2 => by
 obtain rfl := Rep.bool_inv r1; obtain rfl := Rep.bool_inv r2
 exact PySem.EqBoolInt.of_rcne (PySem.SeqAt.RcNeAt.bool_bool a b) (postB S h)
def ChOk (sets : List (Key × PV)) (rows : List Row) (m0 m1 : List Int) (N tn : Nat) (chains : List (Key × PV)) : Prop :=
 chains.length = N ∧ ∀ k, k < N → ∃ ck rules us, chains[k]? = some (.str (cn (hm N tn k : Int)), .obj 231 ck) ∧ ck.lookup (at_ "rules") = some (.lst rules) ∧ RulesT sets rules us ∧ us.flatten = (toldK rows m0 m1 (hm N tn k)).map cn
noncomputable def rhoB (script usual : List Int) (b : Nat) (p N tn : Nat) (rows : List Row) (goes : PV) (m0 m1 : List Int) (rules : List PV) (tk : List (Key × PV)) (ls : List (List Nat)) : Rho :=
 [(ofString "script", .t (.lst (script.map .int))), (ofString "begin", .t (.int b)), (ofString "usual", .t (.lst (usual.map .int))), (ofString "pen", .ref p), (ofString "many", .t (.int N)), (ofString "turn", .t (.int tn)), (ofString "rows", .t (.lst (rows.map Row.pv))), (ofString "goes", .t goes), (ofString "maps", .t (mapsP m0 m1)), (ofString "rules", .t (.lst rules)), (ofString "table", .t (.obj 252 tk)), (ofString "leads", .t (leadsP ls))]
theorem tgK_map (rows : List Row) (m0 m1 : List Int) (N tn m : Nat) : tgK (tgG rows m0 m1 N tn (m + 1)) = tgK (tgG rows m0 m1 N tn m) ++ [(.str (cn (hm N tn m : Int)), strsP ((leadI rows m0 m1 (hm N tn m)).map cn))] := by
 unfold tgK tgG
 rw [List.range_succ, List.map_append, List.map_append]; rfl
theorem stageB (W : Wd Γ K) {L : Addr} {script usual : List Int} {b p N tn : Nat} {rows : List Row} {goes : PV} {m0 m1 : List Int} {rules : List PV} {tk sets chains : List (Key × PV)} {Q : V → Sto → Prop}
  (hN : 4 ≤ N) (hN6 : N ≤ 6) (ht : tn < N) (h7 : rows.length = 7) (hrow : ∀ r ∈ rows, r.ok N) (h0 : ∀ x ∈ m0, 0 ≤ x ∧ x < (N : Int)) (h1 : ∀ x ∈ m1, 0 ≤ x ∧ x < (N : Int)) (hl0 : m0.length ≤ 15) (hl1 : m1.length ≤ 15)
  (hR : RulesR rules rows) (hts : tk.lookup (at_ "sets") = some (.dct .S sets)) (htc : tk.lookup (at_ "chains") = some (.dct .S chains)) (hch : ChOk sets rows m0 m1 N tn chains)
  (hp : σ p = some (penO script usual b 22)) (hu : usual.length = 26) (hs : script.length ≤ 100) (hb : b ≤ 500) (h : Q (.t (.bool true)) (upd σ p (penO script usual b 26))) :
  WB Γ 12 (fenv fd70 L 799) ((bodyOf (D 70)).drop 11) (rhoB script usual b p N tn rows goes m0 m1 rules tk (leadN rows m0 m1 N)) σ (retQ Q) := by
 have G := gr_law hN hN6 ht hrow h0 h1
 have hlead := lead_rng hrow h0 h1
 have hln : (leadN rows m0 m1 N).length = N := by unfold leadN; simp
 obtain ⟨hcl, hck⟩ := hch
 have hgT := G.T
 have hnm : (tgG rows m0 m1 N tn N).map (·.1) = (List.range N).map fun (k : Nat) => cn (hm N tn k : Int) := by unfold tgG; rw [List.map_map]; rfl
 have hckeys : chains.map (·.1) = ((tgG rows m0 m1 N tn N).map (·.1)).map Key.str := by
  rw [hnm, List.map_map]
  refine List.ext_getElem? fun k => ?_
  rw [List.getElem?_map, List.getElem?_map]
  by_cases hk : k < N
  ·obtain ⟨ck, _, _, e, _⟩ := hck k hk
   rw [e, List.getElem?_range hk]; rfl
  ·rw [List.getElem?_eq_none (by lia), List.getElem?_eq_none (by simp; lia)]; rfl
 have hcnd : (chains.map (·.1)).Nodup := by
  rw [hckeys]
  exact map_nodup (fun a z' c z' e => by injection e) hgT.nd
 unfold rhoB
 (refine WB.cons ?_; walk_at "q")
 walk_at "x"
 refine WE.dict0 (f := .S) fun jt hjt => ?_
 have hjp : jt ≠ p := fun e => by rw [e, hp] at hjt; cases hjt
 walk_at "r"
 refine WIt.dct ?_
 walk_at "r"
 refine ⟨_, _, _, _, _, ⟨rfl, rfl⟩, K_Table W, (A_Table W _ (.tail _ (.tail _ (.tail _ (.tail _ (.head _)))))).1, lookup_mapT htc, trivial, ?_⟩
 refine ⟨_, _, rfl, ?_⟩
 refine WFor.each (fun rest σ' => ∃ m, m ≤ N ∧ rest = (chains.map fun p => p.1.pv).drop m ∧ σ' = upd σ jt (.dct .S ((tgK (tgG rows m0 m1 N tn m)).map fun p => (p.1, .t p.2)))) (fun x rest σ' hI => ?_) (fun σ' hI => ?_) _ ⟨0, Nat.zero_le _, rfl, rfl⟩
 ·obtain ⟨m, hm', e, rfl⟩ := hI
  have hlt : m < N := by
   rcases Nat.lt_or_ge m N with q | q
   ·exact q
   ·rw [List.drop_eq_nil_of_le (by simp; lia)] at e; cases e
  obtain ⟨ck, rls, us, hcm, hrl, hrt, hus⟩ := hck m hlt
  rw [List.drop_eq_getElem_cons (by simp; lia)] at e
  obtain ⟨rfl, rfl⟩ := List.cons.inj e
  have hcm' : (chains.map fun p => p.1.pv)[m]'(by simp; lia) = .str (cn (hm N tn m : Int)) := by
   rw [List.getElem_map]
   have := List.getElem?_eq_some_iff.mp hcm
   rw [this.2]; rfl
  rw [hcm']
  have hlk : chains.lookup (.str (cn (hm N tn m : Int))) = some (.obj 231 ck) := lookup_of_get hcnd hcm
  have hul : us.flatten.length ≤ 1000 := by
   rw [hus, List.length_map]
   have := told_len hl0 hl1 (hm N tn m) rows
   lia
  have hud : us.flatten.foldl addT [] = (leadI rows m0 m1 (hm N tn m)).map cn := by
   rw [hus, addT_G]
   have := foldG_map cn (fun x => 0 ≤ x ∧ x < 6) (fun a c ha hc e => cn_inj ha hc e) (toldK rows m0 m1 (hm N tn m)) [] (fun x hx => by have := told_rng hrow h0 h1 (hm N tn m) x hx; lia) (fun x hx => nomatch hx)
   exact this
  walk_at "r"
  refine ⟨_, _, _, _, _, ⟨rfl, rfl⟩, K_Table W, (A_Table W _ (.tail _ (.tail _ (.tail _ (.tail _ (.head _)))))).1, lookup_mapT htc, trivial, ?_⟩
  walk_at "r"
  refine g_dct (.str (cn (hm N tn m : Int))) (o := .t (.dct .S chains)) ⟨rfl, rfl⟩ rfl (lookup_mapT hlk) ?_
  walk_at "r"
  refine w_chain_targets W hts hrl hrt hul (fun x hx => ?_) ?_
  ·rw [hus] at hx
   obtain ⟨y, hy, rfl⟩ := List.mem_map.mp hx
   have := told_rng hrow h0 h1 (hm N tn m) y hy
   exact cn_ok (by lia) (by lia)
  rw [hud]
  walk_at "r"
  refine s_dct (.str (cn (hm N tn m : Int))) (upd_self ..) rfl (by unfold tgK tgG; simp; lia) ?_
  rw [upd_upd]
  walk_at "r"
  refine ⟨lookup_put_new rfl, _, Sto.le_refl _, m + 1, hlt, rfl, ?_⟩
  have hnew : Key.str (cn (hm N tn m : Int)) ∉ ((tgK (tgG rows m0 m1 N tn m)).map fun p => (p.1, V.t p.2)).map (·.1) := fun q => by
   rw [List.map_map] at q
   obtain ⟨z, hz, e⟩ := List.mem_map.mp q
   unfold tgK tgG at hz
   rw [List.map_map] at hz
   obtain ⟨k, hk, rfl⟩ := List.mem_map.mp hz
   have hk' := List.mem_range.mp hk
   have e2 : cn (hm N tn k : Int) = cn (hm N tn m : Int) := by injection e
   have a1 := hm_lt (tn := tn) (k := k) (show 0 < N by lia)
   have a2 := hm_lt (tn := tn) (k := m) (show 0 < N by lia)
   have := hm_inj hN hN6 ht (by lia) hlt (cnN_inj (by lia) (by lia) e2)
   lia
  rw [kput_new hnew, tgK_map, List.map_append]; rfl
 obtain ⟨m, hm', e, rfl⟩ := hI
 have hmN : m = N := by
  have := congrArg List.length e
  rw [List.length_drop, List.length_map, hcl] at this
  simp at this; lia
 subst hmN
 repeat (with_reducible refine WB.nil ?_)
 refine WB.frzD jt (f := .S) (kvs := tgK (tgG rows m0 m1 m tn m)) (upd_self ..) ?_
 refine WB.thaw (ofString "targets") (i := jt) rfl (upd_self ..) ?_
 rw [upd_upd]
 refine WB.le (σ' := σ) (Sto.le_upd hjt) ?_
 have e2 : PV.dct .S (tgK (tgG rows m0 m1 m tn m)) = tgP (tgG rows m0 m1 m tn m) := rfl
 rw [e2]
 generalize tgG rows m0 m1 m tn m = ts at *
 generalize hls : leadN rows m0 m1 m = ls at *
 clear hckeys hcnd hck hlead
 have hdv : ∀ σ' : Sto, DctV σ' (.t (tgP ts)) .S ((tgK ts).map fun p => (p.1, V.t p.2)) := fun σ' => ⟨rfl, rfl⟩
 have hinner : ∀ l ∈ ls, l.length ≤ 100 := fun l hl => by
  have := (G.nd l hl).length_le_of_subset (l₂ := List.range ls.length) fun x hx => List.mem_range.mpr (G.lt l hl x hx)
  simp at this; lia
 -- each chain's targets are its leads
 walk_at "r"
 refine WIt.range (G_range W) (C_range W) ?_
 walk_at "r"
 refine ⟨_, rfl, by lia, by lia, ?_⟩
 rw [Int.toNat_natCast]
 refine WFor.range m (fun k σ' => σ' = σ) (fun k σ' hk hI => ?_) (fun σ' hI => ?_) rfl
 ·have hI : σ = σ' := (show σ' = σ from hI).symm
  subst hI
  have hkl : k < ls.length := by lia
  have hgk : ls[k]? = some (nb ls k) := by unfold nb; rw [List.getD_eq_getElem?_getD, List.getElem?_eq_getElem hkl]; rfl
  have hin := hinner _ (List.mem_of_getElem? hgk)
  have hlt := G.lt _ (List.mem_of_getElem? hgk)
  have hlk := tgK_lookup G.T (G.has k hkl)
  rw [G.tg k hkl] at hlk
  generalize nb ls k = l at *
  have hok : PV.ok 2 (strsP (l.map cnN)) = true := by
   show PV.oks 1 ((l.map cnN).map .str) = true
   refine oks_str fun x hx => ?_
   obtain ⟨y, hy, rfl⟩ := List.mem_map.mp hx
   exact cnN_ok (by have := hlt y hy; lia)
  walk_at "r"
  refine w_str (by lia) ?_
  refine v_addS ?_ (cn_size (by lia))
  refine g_dct (.str (cnN k)) (o := .t (tgP ts)) (hdv _) rfl (lookup_mapT hlk) ?_
  walk_at "r"
  refine WIt.lst ?_
  walk_at "r"
  try rw [hls]
  refine g_lst (v := .t (leadsP ls)) (xs := (ls.map natsP).map .t) (d := .t (natsP l)) rfl (by lia) (by lia) (by rw [Int.toNat_natCast, List.getElem?_map, List.getElem?_map, hgk]; rfl) ?_
  refine ⟨_, rfl, by simp; lia, fun C => ?_⟩
  try with_reducible intro Ec rc
  refine WCp.each (fun z' => true) (fun x => match x with | .int i => .t (.str (cn i)) | _ => .t .none) _ _ (fun x hx => ?_) ?_
  ·obtain ⟨y, hy, rfl⟩ := List.mem_map.mp hx
   have := hlt y hy
   walk_at "r"
   refine ⟨lookup_put_new rfl, ?_⟩
   walk_at "r"
   refine ⟨rfl, rfl, fun z' => ?_⟩
   walk_at "r"
   refine w_str (by lia) ?_
   refine v_addS ?_ (cn_size (by lia))
   exact ⟨rfl, rfl⟩
  have eo : ([] : List V) ++ ((l.map fun (n : Nat) => PV.int (n : Int)).filter fun z' => true).map (fun x => match x with | .int i => V.t (.str (cn i)) | _ => .t .none) = ((l.map cnN).map PV.str).map V.t := by
   rw [List.nil_append, List.filter_eq_self.mpr (fun z' z' => rfl), List.map_map, List.map_map, List.map_map]; rfl
  rw [eo]
  refine ⟨_, rfl, ?_⟩
  refine v_neD 2 hok hok fun c hc => ⟨_, rfl, ?_⟩
  have : c = false := by cases c with | false => rfl | true => exact absurd rfl (hc.mp rfl)
  subst this
  walk_at "r"
  exact ⟨lookup_put_new rfl, _, Sto.le_refl _, rfl⟩
 have hI : σ = σ' := (show σ' = σ from hI).symm
 subst hI
 walk_at "r"
 refine WC.up (m := 11 + 1) (by lia) (w_has_ring W G.T fun st hst hend => ?_)
 walk_at "r"
 try rw [hls]
 refine WC.up (m := 11 + 1) (by lia) (w_goes_round W G.len (fun l hl x hx => Nat.lt_of_lt_of_le (G.lt l hl x hx) G.len) ?_)
 refine v_neB ?_
 rw [ring_eq G hst hend]
 refine ⟨_, rfl, ?_⟩
 have : (!((roundsOf ls ls.length != 0) == (roundsOf ls ls.length != 0))) = false := by simp
 rw [this]
 walk_at "r"
 refine WC.up (m := 11) (by lia) (w_uses_hold W hp (by lia) hs (by lia) h7 hrow hN6 hR ?_)
 refine ⟨_, rfl, ?_⟩
 show WB _ _ _ _ _ _ _
 walk_at "r"
 refine w_take W (m := m) (upd_self ..) (by lia) (by lia) hs (by lia) fun bd hbd0 hbd => ?_
 rw [upd_upd]
 obtain ⟨bn, rfl⟩ : ∃ bn : Nat, bd = bn := ⟨bd.toNat, by lia⟩
 walk_at "r"
 refine WIt.range (G_range W) (C_range W) ?_
 walk_at "r"
 refine ⟨_, rfl, by lia, by lia, ?_⟩
 rw [Int.toNat_natCast]
 refine WFor.range m (fun k σ' => σ' = upd σ p (penO script usual b 26)) (fun k σ' hk hI => ?_) (fun σ' hI => ?_) rfl
 ·subst hI
  have hkl : k < ls.length := by lia
  walk_at "r"
  try rw [hls]
  refine WC.up (m := 6 + 6) (by lia) (side_reached W G hkl (by lia) ?_)
  walk_at "r"
  try rw [hls]
  refine WC.up (m := 4 + 8) (by lia) (side_due W G hkl (by lia) ?_)
  refine v_neD 3 (sideA_ok G hkl bn) (sideA_ok G hkl bn) fun c hc => ⟨_, rfl, ?_⟩
  have : c = false := by cases c with | false => rfl | true => exact absurd rfl (hc.mp rfl)
  subst this
  walk_at "r"
  try rw [hls]
  refine WC.up (m := 6 + 6) (by lia) (side_reached W G hkl (by lia) ?_)
  walk_at "r"
  try rw [hls]
  refine WC.up (m := 4 + 8) (by lia) (side_due W G hkl (by lia) ?_)
  refine v_neD 3 (sideA_ok G hkl m) (sideA_ok G hkl m) fun c hc => ⟨_, rfl, ?_⟩
  have : c = false := by cases c with | false => rfl | true => exact absurd rfl (hc.mp rfl)
  subst this
  walk_at "r"
  exact ⟨lookup_put_new rfl, _, Sto.le_refl _, rfl⟩
 subst hI
 walk_at "r"
 exact ⟨_, Sto.le_refl _, h⟩
end
def MapOk (span : Bool) (gs : List Int) (N turn : Int) (body : PV) : Prop :=
 ∃ es es' : List El, Els span es ∧ es.Perm ((List.range 3).map (elG span gs N turn)) ∧ es'.Perm es ∧ (es'.Pairwise fun a b => a.lo < b.lo) ∧ body = bodyP (mN span) (specP span) bitsP (storeP span (es.map El.ent))
theorem els_of {span : Bool} {gs : List Int} {N turn : Int} {es : List El} (hp : es.Perm ((List.range 3).map (elG span gs N turn))) (hf : span = true → es.Pairwise El.fit) : Els span es := by
 have mem : ∀ e ∈ es, ∃ k, k < 3 ∧ e = elG span gs N turn k := fun e he => by
  obtain ⟨k, hk, rfl⟩ := List.mem_map.mp (hp.mem_iff.mp he)
  exact ⟨k, List.mem_range.mp hk, rfl⟩
 refine ⟨by rw [hp.length_eq]; simp, ?_, hf, fun e he => ?_, fun e he => ?_⟩
 ·have h2 : (((List.range 3).map (elG span gs N turn)).map El.lo).Nodup := by
   rw [List.map_map]
   refine map_nodup (fun a ha b hb e => ?_) List.nodup_range
   have ha := List.mem_range.mp ha
   have hb := List.mem_range.mp hb
   rcases Nat.lt_trichotomy a b with q | q | q
   ·exact absurd e (key_ne (span := span) (gs := gs) (N := N) hb q)
   ·exact q
   ·exact absurd e.symm (key_ne (span := span) (gs := gs) (N := N) ha q)
  exact (hp.map El.lo).nodup_iff.mpr h2
 ·obtain ⟨k, _, rfl⟩ := mem e he
  unfold elG
  dsimp only
  split <;> lia
 ·obtain ⟨k, _, rfl⟩ := mem e he
  have ed : (elG span gs N turn k).data = verdG (gs.getD k 0) N := rfl
  rw [ed, elG_tgt]
  unfold verdG
  by_cases h : (gs.getD k 0).fdiv N < 2
  ·rw [if_pos h, if_pos h]; exact ⟨_, rfl⟩
  ·rw [if_neg h, if_neg h]; exact ⟨_, rfl⟩
theorem isTo_verd (w : Str) (n : Int) : (([((if 0 ≤ n then w else ofString "return"), (if 0 ≤ n then cn n else ofString ""))].filter isTo).map (·.2)) = (if 0 ≤ n then [cn n] else []) := by
 by_cases h : 0 ≤ n
 ·rw [if_pos h, if_pos h, if_pos h]
  have : isTo (w, cn n) = true := bne_iff_ne.mpr (cn_ne n)
  rw [List.filter_cons, this]; rfl
 ·rw [if_neg h, if_neg h, if_neg h]
  have : isTo (ofString "return", ofString "") = false := by decide
  rw [List.filter_cons, this]; rfl
theorem verd_pair (w : Str) (n : Int) : verd w n = verdV ((if 0 ≤ n then w else ofString "return"), (if 0 ≤ n then cn n else ofString "")) := by
 by_cases h : 0 ≤ n
 ·rw [if_pos h, if_pos h, verd_to h]; rfl
 ·rw [if_neg h, if_neg h, verd_no h]; rfl
theorem tgt_verd (sets : List (Key × PV)) (w : Str) (n : Int) : TgtS sets (.tup [pS "verdict", verd w n]) (if 0 ≤ n then [cn n] else []) := by
 rw [verd_pair, ← isTo_verd w n]; exact .verdict
theorem tgts_stmts {sets : List (Key × PV)} {N : Nat} {turn : Int} {gs0 gs1 : List Int} {b0 b1 : PV} {r : Row} (ht : 0 ≤ turn ∧ turn < 6) (hr : r.ok N) (h0 : sets.lookup (.str (mN false)) = some b0) (h1 : sets.lookup (.str (mN true)) = some b1) (o0 : MapOk false gs0 N turn b0) (o1 : MapOk true gs1 N turn b1) :
  ∃ tss, TgtSs sets (stmtsP r) tss ∧ tss.flatten = (goalsOf r (gbk gs0 N turn) (gbk gs1 N turn)).map cn := by
 obtain ⟨home, form, a, b, which⟩ := r
 obtain ⟨hh, hf, ha, hb, hw⟩ := hr
 dsimp only at hh hf ha hb hw
 have hbt := beside_tgts (w := which.toNat) (by lia) sets
 have ref : ∀ (span : Bool) (gs : List Int) (body : PV), sets.lookup (.str (mN span)) = some body → MapOk span gs N turn body → ∀ e : PV, TgtS sets (.tup [pS "vmap", e, .tup [pS "ref", .str (mN span)]]) ((gbk gs N turn).map cn) := fun span gs body hl ⟨es, es', hE, hp, hp', hs, hbody⟩ e => by
  have := map_elems ht (hp'.trans hp) hs
  rw [← this]
  exact .ref (hl.trans (congrArg some hbody)) hE hp' hs
 have hc : form = 0 ∨ form = 1 ∨ form = 2 ∨ form = 3 ∨ form = 4 := by lia
 have g1 : ∀ n : Int, ([n].filter fun n => decide (0 ≤ n)).map cn = if 0 ≤ n then [cn n] else [] := fun n => by
  by_cases h : 0 ≤ n <;> simp [h]
 rcases hc with rfl | rfl | rfl | rfl | rfl
 ·refine ⟨[_, _], .cons hbt (.cons (tgt_verd _ _ a) .nil), ?_⟩
  show [] ++ (_ ++ []) = _
  rw [List.append_nil, List.nil_append, ← g1]; rfl
 ·refine ⟨[_], .cons (tgt_verd _ _ a) .nil, ?_⟩
  show _ ++ [] = _
  rw [List.append_nil, ← g1]; rfl
 ·have hlit : Lits [.tup [.tup [.tup [.int 1, .int 1]], verd (ofString "jump") a, .int 0, pS ""], .tup [.tup [.tup [.int 2, .int 5]], .tup [pS "accept", pS ""], .int 0, pS ""], .tup [.tup [.tup [.int 9, .int 9]], verd (ofString "goto") b, .int 0, pS ""]]
    [((if 0 ≤ a then ofString "jump" else ofString "return"), (if 0 ≤ a then cn a else ofString "")), (ofString "accept", ofString ""), ((if 0 ≤ b then ofString "goto" else ofString "return"), (if 0 ≤ b then cn b else ofString ""))] := by
   rw [verd_pair, verd_pair]
   exact .cons (.cons (.cons .nil))
  refine ⟨[[], _], .cons (.other rfl rfl) (.cons (.lit hlit (by simp)) .nil), ?_⟩
  show [] ++ (_ ++ []) = (([a, b].filter fun n => decide (0 ≤ n))).map cn
  rw [List.append_nil, List.nil_append]
  have i1 := isTo_verd (ofString "jump") a
  have i2 := isTo_verd (ofString "goto") b
  have i3 : isTo (ofString "accept", ofString "") = false := by decide
  rw [show ∀ x y z : Str × Str, [x, y, z] = [x] ++ ([y] ++ [z]) from fun z' z' z' => rfl, List.filter_append, List.filter_append, List.map_append, List.map_append, i1, i2, List.filter_cons, i3]
  by_cases qa : 0 ≤ a <;> by_cases qb : 0 ≤ b <;> simp [qa, qb]
 ·refine ⟨[_], .cons (ref false gs0 b0 h0 o0 _) .nil, ?_⟩
  show _ ++ [] = _
  rw [List.append_nil]; rfl
 ·refine ⟨[_, _], .cons hbt (.cons (ref true gs1 b1 h1 o1 _) .nil), ?_⟩
  show [] ++ (_ ++ []) = _
  rw [List.append_nil, List.nil_append]; rfl
noncomputable def selR (rules : List PV) (rows : List Row) (h : Int) : List PV := ((List.range rules.length).filter fun i => (rows.getD i default).home == h).map fun i => rules.getD i .none
theorem selR_cons (a : PV) (rules : List PV) (r : Row) (rows : List Row) (h : Int) : selR (a :: rules) (r :: rows) h = if r.home = h then a :: selR rules rows h else selR rules rows h := by
 unfold selR
 rw [List.length_cons, List.range_succ_eq_map, List.filter_cons, List.filter_map]
 have e : ((fun i => ((r :: rows).getD i default).home == h) ∘ Nat.succ) = fun i => (rows.getD i default).home == h := by funext i; rfl
 rw [e]
 by_cases q : r.home = h
 ·have : (((r :: rows).getD 0 default).home == h) = true := by simpa using q
  rw [this, if_pos rfl, if_pos q, List.map_cons, List.map_map]; rfl
 ·have : (((r :: rows).getD 0 default).home == h) = false := by simpa using q
  rw [this, if_neg Bool.false_ne_true, if_neg q, List.map_map]; rfl
theorem rulesT_sel {sets : List (Key × PV)} {m0 m1 : List Int} (h : Int) {rules : List PV} {rows : List Row} (hR : RulesR rules rows) (hr : ∀ r ∈ rows, ∃ tss, TgtSs sets (stmtsP r) tss ∧ tss.flatten = (goalsOf r m0 m1).map cn) : ∃ us, RulesT sets (selR rules rows h) us ∧ us.flatten = (toldK rows m0 m1 h).map cn := by
 induction hR with
 | nil => exact ⟨[], .nil, rfl⟩
 | @cons a r rules rows e t ih =>
  obtain ⟨i, cells, e⟩ := e
  obtain ⟨us, h1, h2⟩ := ih fun r hm => hr r (.tail _ hm)
  obtain ⟨tss, h3, h4⟩ := hr r (.head _)
  rw [selR_cons]
  unfold toldK at *
  rw [List.flatMap_cons]
  by_cases q : r.home = h
  ·rw [if_pos q, if_pos q, e]
   exact ⟨_, .cons ⟨i, _, cells, tss, rfl, rfl, h3⟩ h1, by rw [List.flatten_cons, h2, h4, List.map_append]⟩
  ·rw [if_neg q, if_neg q]
   exact ⟨us, h1, by rw [h2, List.nil_append]⟩
noncomputable def rhoA (script usual : List Int) (b p N tn : Nat) (rows : List Row) (gs0 gs1 m0 m1 : List Int) (rules : List PV) : Rho :=
 [(ofString "script", .t (.lst (script.map .int))), (ofString "begin", .t (.int b)), (ofString "usual", .t (.lst (usual.map .int))), (ofString "pen", .ref p), (ofString "many", .t (.int N)), (ofString "turn", .t (.int tn)), (ofString "rows", .t (.lst (rows.map Row.pv))), (ofString "goes", .t (mapsP gs0 gs1)), (ofString "maps", .t (mapsP m0 m1)), (ofString "rules", .t (.lst rules))]
section
variable {Γ : Cx} {K : Frag} {n : Nat} {env : Env} {ρ : Rho} {σ : Sto}
theorem TabAt.setS {σ₀ σ : Sto} {fam name : Str} {t kt jc js : Nat} {chains sets sets' : List (Key × V)} (h : TabAt σ₀ σ fam name t kt jc js chains sets) (hl : sets.length ≤ 8) : TabAt σ₀ (upd σ js (.dct .S sets')) fam name t kt jc js chains sets' := by
 have n1 : t ≠ js := ne_at h.et h.es rfl
 have n2 : kt ≠ js := ne_ao h.ekt h.es fun e => absurd (congrArg List.length (AO.dct.inj e).2) (by clear h n1; simp [tabA]; lia)
 exact ⟨fun i ao e => by rw [upd_ne _ _ (ne_of_none e h.ns)]; exact h.le i ao e, upd_ne' h.et n1, upd_ne' h.ekt n2, upd_ne' h.ec (Ne.symm h.dcs), upd_self .., h.nt, h.nkt, h.nc, h.ns, h.dcs⟩
theorem TabAt.setC {σ₀ σ : Sto} {fam name : Str} {t kt jc js : Nat} {chains sets chains' : List (Key × V)} (h : TabAt σ₀ σ fam name t kt jc js chains sets) (hl : chains.length ≤ 8) : TabAt σ₀ (upd σ jc (.dct .S chains')) fam name t kt jc js chains' sets := by
 have n1 : t ≠ jc := ne_at h.et h.ec rfl
 have n2 : kt ≠ jc := ne_ao h.ekt h.ec fun e => absurd (congrArg List.length (AO.dct.inj e).2) (by clear h n1; simp [tabA]; lia)
 exact ⟨fun i ao e => by rw [upd_ne _ _ (ne_of_none e h.nc)]; exact h.le i ao e, upd_ne' h.et n1, upd_ne' h.ekt n2, upd_self .., upd_ne' h.es h.dcs, h.nt, h.nkt, h.nc, h.ns, h.dcs⟩
theorem TabAt.other {σ₀ σ : Sto} {fam name : Str} {t kt jc js i : Nat} {ao : AO} {chains sets : List (Key × V)} (h : TabAt σ₀ σ fam name t kt jc js chains sets) (hi : σ₀ i = Option.none) (n1 : i ≠ t) (n2 : i ≠ kt) (n3 : i ≠ jc) (n4 : i ≠ js) : TabAt σ₀ (upd σ i ao) fam name t kt jc js chains sets :=
 ⟨fun j a e => by rw [upd_ne _ _ (ne_of_none e hi)]; exact h.le j a e, upd_ne' h.et (Ne.symm n1), upd_ne' h.ekt (Ne.symm n2), upd_ne' h.ec (Ne.symm n3), upd_ne' h.es (Ne.symm n4), h.nt, h.nkt, h.nc, h.ns, h.dcs⟩
theorem goes_get (span : Bool) (a c : List Int) : ([PV.lst (a.map .int), PV.lst (c.map .int)].map V.t)[(if span then (1 : Int) else 0).toNat]? = some (.t (.lst ((if span then c else a).map .int))) := by cases span <;> rfl
theorem map_turn (W : Wd Γ K) {L : Addr} {script usual : List Int} {b p N tn : Nat} {rows : List Row} {rules : List PV} {gs0 gs1 : List Int} (span : Bool) {σ₀ : Sto} {t kt jc js : Nat} {sets : List (Key × PV)} {Qp : Fl → Rho → Sto → Prop}
  (hN : 4 ≤ N) (hN6 : N ≤ 6) (ht : tn < N) (hT : TabAt σ₀ σ (ofString "inet") (ofString "t") t kt jc js [] (sets.map fun p => (p.1, .t p.2))) (hsl : sets.length ≤ 3)
  (hg : (if span then gs1 else gs0).length = 3) (hgr : ∀ g ∈ (if span then gs1 else gs0), 0 ≤ g ∧ g < 3 * (N : Int))
  (h : ∀ body σ', MapOk span (if span then gs1 else gs0) N tn body → TabAt σ₀ σ' (ofString "inet") (ofString "t") t kt jc js [] ((kput sets (.str (mN span)) body).map fun p => (p.1, .t p.2)) →
   Qp .next (rhoA script usual b p N tn rows gs0 gs1 (gbk gs0 N tn) (gbk gs1 N tn) rules ++ [(ofString "table", .ref t), (ofString "j", .t (.int (if span then 1 else 0))), (ofString "body", .t body)]) σ') :
  WB Γ 12 (fenv fd70 L 799) (forBody (nth (bodyOf (D 70)) 8)) (rhoA script usual b p N tn rows gs0 gs1 (gbk gs0 N tn) (gbk gs1 N tn) rules ++ [(ofString "table", .ref t), (ofString "j", .t (.int (if span then 1 else 0)))]) σ Qp := by
 unfold rhoA at *
 have hj0 : (0 : Int) ≤ (if span then (1 : Int) else 0) := by cases span <;> decide
 have hj1 : (if span then (1 : Int) else 0) < 9223372036854775808 := by cases span <;> decide
 have hgg := goes_get span gs0 gs1
 have hmm := goes_get span (gbk gs0 N tn) (gbk gs1 N tn)
 have hmi : (if span then gbk gs1 N tn else gbk gs0 N tn) = gbk (if span then gs1 else gs0) N tn := by cases span <;> rfl
 rw [hmi] at hmm
 have hmr : ∀ x ∈ gbk (if span then gs1 else gs0) N (tn : Int), 0 ≤ x ∧ x < (N : Int) := gbk_rng (by lia)
 have hml : (gbk (if span then gs1 else gs0) N (tn : Int)).length ≤ 15 := gbk_len
 generalize hgs : (if span then gs1 else gs0) = gs at *
 (refine WB.cons ?_; walk_at "q")
 walk_at "r"
 refine g_lst (v := .t (mapsP gs0 gs1)) (xs := [PV.lst (gs0.map .int), PV.lst (gs1.map .int)].map V.t) (d := .t (.lst (gs.map .int))) rfl hj0 hj1 hgg ?_
 walk_at "r"
 refine WC.up (m := 6 + 6) (by lia) (w_map W (span := span) (gs := gs) (N := N) (turn := tn) hg hN hN6 hgr ⟨by lia, by lia⟩ fun es hp hf => ?_)
 have hE := els_of hp hf
 have hsok : PV.ok 2 (strsP ((gbk gs N tn).map cn)) = true := by
  show PV.oks 1 (((gbk gs N tn).map cn).map .str) = true
  refine oks_str fun x hx => ?_
  obtain ⟨y, hy, rfl⟩ := List.mem_map.mp hx
  have := hmr y hy
  exact cn_ok (by lia) (by lia)
 walk_at "r"
 refine ⟨_, _, _, _, _, ⟨kt, hT.et, hT.ekt⟩, K_Table W, (A_Table W _ (.tail _ (.tail _ (.tail _ (.tail _ (.tail _ (.head _))))))).1, rfl, trivial, ?_⟩
 walk_at "r"
 refine ⟨_, _, _, _, _, ⟨rfl, rfl⟩, K_SetBody W, (A_SetBody W _ (.head _)).1, rfl, trivial, ?_⟩
 refine s_dct (kvs := sets.map fun p => (p.1, V.t p.2)) (.str (mN span)) hT.es rfl (by simp; lia) ?_
 have ek : kput (sets.map fun p => (p.1, V.t p.2)) (.str (mN span)) (.t (bodyP (mN span) (specP span) bitsP (storeP span (es.map El.ent)))) = (kput sets (.str (mN span)) (bodyP (mN span) (specP span) bitsP (storeP span (es.map El.ent)))).map fun p => (p.1, V.t p.2) := kput_map V.t _ _ _
 rw [ek]
 have hT' := hT.setS (sets' := (kput sets (.str (mN span)) (bodyP (mN span) (specP span) bitsP (storeP span (es.map El.ent)))).map fun p => (p.1, V.t p.2)) (by simp; lia)
 walk_at "r"
 refine WC.up (m := 10 + 2) (by lia) (w_chains_of_elements W hE fun es' hp' hs' => ?_)
 have heq := map_elems (gs := gs) (N := N) (turn := tn) ⟨by lia, by lia⟩ (hp'.trans hp) hs'
 have e1 : PV.lst ((es'.filter El.out).map fun e => PV.str e.tgt) = strsP ((gbk gs N tn).map cn) := by
  rw [← heq]; unfold strsP; rw [List.map_map]; rfl
 rw [e1]
 walk_at "r"
 refine WIt.lst ?_
 walk_at "r"
 refine g_lst (v := .t (mapsP (gbk gs0 N tn) (gbk gs1 N tn))) (xs := [PV.lst ((gbk gs0 N tn).map .int), PV.lst ((gbk gs1 N tn).map .int)].map V.t) (d := .t (.lst ((gbk gs N tn).map .int))) rfl hj0 hj1 hmm ?_
 refine ⟨_, rfl, by simp; lia, fun C => ?_⟩
 try with_reducible intro Ec rc
 refine WCp.each (fun z' => true) (fun x => match x with | .int i => .t (.str (cn i)) | _ => .t .none) _ _ (fun x hx => ?_) ?_
 ·obtain ⟨y, hy, rfl⟩ := List.mem_map.mp hx
  have := hmr y hy
  walk_at "r"
  refine ⟨lookup_put_new rfl, ?_⟩
  walk_at "r"
  refine ⟨rfl, rfl, fun z' => ?_⟩
  walk_at "r"
  refine w_str (by lia) ?_
  refine v_addS ?_ (cn_size (by lia))
  exact ⟨rfl, rfl⟩
 have eo : ([] : List V) ++ (((gbk gs N tn).map PV.int).filter fun z' => true).map (fun x => match x with | .int i => V.t (.str (cn i)) | _ => .t .none) = (((gbk gs N tn).map cn).map PV.str).map V.t := by
  rw [List.nil_append, List.filter_eq_self.mpr (fun z' z' => rfl), List.map_map, List.map_map, List.map_map]; rfl
 rw [eo]
 refine ⟨_, rfl, ?_⟩
 refine v_neD 2 hsok hsok fun c hc => ⟨_, rfl, ?_⟩
 have : c = false := by cases c with | false => rfl | true => exact absurd rfl (hc.mp rfl)
 subst this
 walk_at "r"
 exact h _ _ ⟨es, es', hE, hp, hp', hs', rfl⟩ hT'
end
theorem hm_eq (N tn k : Nat) : ((k : Int) + (tn : Int)).fmod (N : Int) = ((hm N tn k : Nat) : Int) := by
 rw [Int.fmod_eq_emod_of_nonneg _ (by lia)]
 unfold hm
 simp
theorem TabAt.lst {σ₀ σ : Sto} {fam name : Str} {t kt jc js i : Nat} {l : List V} {ao : AO} {chains sets : List (Key × V)} (h : TabAt σ₀ σ fam name t kt jc js chains sets) (hi : σ₀ i = Option.none) (hl : σ i = some (.lst l)) : TabAt σ₀ (upd σ i ao) fam name t kt jc js chains sets :=
 h.other hi (ne_at hl h.et rfl) (ne_at hl h.ekt rfl) (ne_at hl h.ec rfl) (ne_at hl h.es rfl)
noncomputable def selB (rows : List Row) (h : Int) (x : PV) : Bool := match x with | .int i => (rows.getD i.toNat default).home == h | _ => false
noncomputable def selF (rules : List PV) (x : PV) : V := match x with | .int i => .t (rules.getD i.toNat .none) | _ => .t .none
theorem sel_out {rules : List PV} {rows : List Row} {h : Int} (h7 : rules.length = 7) : ([] : List V) ++ (((List.range (Int.toNat 7)).map fun (i : Nat) => PV.int (i : Int)).filter (selB rows h)).map (selF rules) = (selR rules rows h).map V.t := by
 unfold selR
 rw [List.nil_append, List.filter_map, List.map_map, List.map_map, h7]
 rfl
noncomputable def idB (l : List Int) (x : PV) : Bool := match x with | .int i => idxI l (l.getD i.toNat 0) == i.toNat | _ => false
noncomputable def idF (l : List Int) (x : PV) : V := match x with | .int i => .t (.int (l.getD i.toNat 0)) | _ => .t .none
theorem id_out (l : List Int) : ([] : List V) ++ (((List.range l.length).map fun (i : Nat) => PV.int (i : Int)).filter (idB l)).map (idF l) = ((firsts l).map PV.int).map V.t := by
 unfold firsts
 rw [List.nil_append, List.filter_map, List.map_map, List.map_map, List.map_map]
 rfl
noncomputable def ckL (x : Str) (sel : List PV) : List (Key × PV) := [(at_ "name", .str x), (at_ "base", .none), (at_ "policy", pS "accept"), (at_ "handle", .int 0), (at_ "rules", .lst sel)]
section
variable {Γ : Cx} {K : Frag} {n : Nat} {env : Env} {ρ : Rho} {σ : Sto}
theorem chain_turn (W : Wd Γ K) {L : Addr} {script usual : List Int} {b p N tn : Nat} {rows : List Row} {rules : List PV} {gs0 gs1 m0 m1 : List Int} {k : Nat} {σ₀ : Sto} {t kt jc js jl : Nat} {chains : List (Key × PV)} {sets : List (Key × V)} {lv : List V} {Qp : Fl → Rho → Sto → Prop}
  (hN : 4 ≤ N) (hN6 : N ≤ 6) (ht : tn < N) (hk : k < N) (h7 : rows.length = 7) (hrow : ∀ r ∈ rows, r.ok N) (h0 : ∀ x ∈ m0, 0 ≤ x ∧ x < (N : Int)) (h1 : ∀ x ∈ m1, 0 ≤ x ∧ x < (N : Int)) (hl0 : m0.length ≤ 15) (hl1 : m1.length ≤ 15) (hR7 : rules.length = 7)
  (hT : TabAt σ₀ σ (ofString "inet") (ofString "t") t kt jc js (chains.map fun p => (p.1, .t p.2)) sets) (hcl : chains.length ≤ 6) (hjl : σ jl = some (.lst lv)) (hlv : lv.length = N) (hj0 : σ₀ jl = Option.none)
  (h : ∀ σ', TabAt σ₀ σ' (ofString "inet") (ofString "t") t kt jc js ((kput chains (.str (cn (hm N tn k : Int))) (.obj 231 (ckL (cn (hm N tn k : Int)) (selR rules rows (hm N tn k))))).map fun p => (p.1, .t p.2)) sets →
   σ' jl = some (.lst (lv.set k (.t (natsP ((leadI rows m0 m1 k).map Int.toNat))))) →
   ∀ e, Qp .next (rhoA script usual b p N tn rows gs0 gs1 m0 m1 rules ++ [(ofString "table", .ref t), (ofString "leads", .ref jl)] ++ e) σ') :
  WB Γ 12 (fenv fd70 L 799) (forBody (nth (bodyOf (D 70)) 10)) (rhoA script usual b p N tn rows gs0 gs1 m0 m1 rules ++ [(ofString "table", .ref t), (ofString "leads", .ref jl), (ofString "k", .t (.int (k : Int)))]) σ Qp := by
 unfold rhoA at *
 have hhl := hm_lt (N := N) (tn := tn) (k := k) (by lia)
 have hrg : ∀ i, i < 7 → rows[i]? = some (rows.getD i default) := fun i hi => by rw [List.getD_eq_getElem?_getD, List.getElem?_eq_getElem (by lia)]; rfl
 have hrl : ∀ i, i < 7 → rules[i]? = some (rules.getD i .none) := fun i hi => by rw [List.getD_eq_getElem?_getD, List.getElem?_eq_getElem (by lia)]; rfl
 (refine WB.cons ?_; walk_at "q")
 walk_at "r"
 refine v_add ?_
 walk_at "r"
 refine v_mod (by lia) ?_
 rw [hm_eq]
 walk_at "r"
 refine w_str (by lia) ?_
 refine v_addS ?_ (cn_size (by lia))
 walk_at "r"
 refine WC.up (m := 10 + 2) (by lia) (w_Chain W fun i kk hi hkk hik => ?_)
 walk_at "r"
 refine WIt.range (G_range W) (C_range W) ?_
 walk_at "r"
 refine ⟨_, rfl, by decide, by decide, by decide, fun C => ?_⟩
 try with_reducible intro Ec rc
 refine WCp.each (selB rows (hm N tn k)) (selF rules) _ _ (fun x hx => ?_) ?_
 ·obtain ⟨a, ha, rfl⟩ := List.mem_map.mp hx
  have ha7 : a < 7 := List.mem_range.mp ha
  walk_at "r"
  refine ⟨lookup_put_new rfl, ?_⟩
  walk_at "r"
  refine g_lst (v := .t (.lst (rows.map Row.pv))) (xs := (rows.map Row.pv).map .t) (d := .t (rows.getD a default).pv) rfl (by lia) (by lia) (by rw [Int.toNat_natCast, List.getElem?_map, List.getElem?_map, hrg a ha7]; rfl) ?_
  walk_at "r"
  try refine g_tup (by decide) (by decide) rfl ?_
  walk_at "r"
  refine v_add ?_
  walk_at "r"
  refine v_mod (by lia) ?_
  rw [hm_eq]
  refine v_eq ⟨_, rfl, rfl, rfl, fun z' => ?_⟩
  walk_at "r"
  refine g_lst (v := .t (.lst rules)) (xs := rules.map .t) (d := .t (rules.getD a .none)) rfl (by lia) (by lia) (by rw [Int.toNat_natCast, List.getElem?_map, hrl a ha7]; rfl) ?_
  exact ⟨rfl, rfl⟩
 rw [sel_out hR7]
 refine ⟨_, rfl, ?_⟩
 walk_at "r"
 refine ⟨_, _, _, i, kk, _, rfl, upd_self .., upd_ne' (upd_self ..) (Ne.symm hik), K_Chain W, (A_Chain W _ (.tail _ (.tail _ (.tail _ (.tail _ (.head _)))))).2, Nat.le_of_ble_eq_true rfl, ?_⟩
 rw [obj_upd hik]
 refine WB.frzO i kk (kvs := ckL (cn (hm N tn k : Int)) (selR rules rows (hm N tn k))) (upd_self ..) (upd_ne' (upd_self ..) (Ne.symm hik)) ?_
 refine WB.thaw (ofString "chain") (i := i) rfl (upd_self ..) ?_
 refine WB.le (σ' := σ) (le_new2 hi hkk) ?_
 walk_at "r"
 refine ⟨_, _, _, _, _, ⟨kt, hT.et, hT.ekt⟩, K_Table W, (A_Table W _ (.tail _ (.tail _ (.tail _ (.tail _ (.head _)))))).1, rfl, trivial, ?_⟩
 walk_at "r"
 refine ⟨_, _, _, _, _, ⟨rfl, rfl⟩, K_Chain W, (A_Chain W _ (.head _)).1, rfl, trivial, ?_⟩
 refine s_dct (f := .S) (kvs := chains.map fun p => (p.1, V.t p.2)) (.str (cn (hm N tn k : Int))) hT.ec rfl (by simp; lia) ?_
 have ek : kput (chains.map fun p => (p.1, V.t p.2)) (.str (cn (hm N tn k : Int))) (.t (.obj 231 (ckL (cn (hm N tn k : Int)) (selR rules rows (hm N tn k))))) = (kput chains (.str (cn (hm N tn k : Int))) (.obj 231 (ckL (cn (hm N tn k : Int)) (selR rules rows (hm N tn k))))).map fun p => (p.1, V.t p.2) := kput_map V.t _ _ _
 rw [ek]
 have hT2 := hT.setC (chains' := (kput chains (.str (cn (hm N tn k : Int))) (.obj 231 (ckL (cn (hm N tn k : Int)) (selR rules rows (hm N tn k))))).map fun p => (p.1, V.t p.2)) (by simp; lia)
 have hjc : jl ≠ jc := ne_at hjl hT.ec rfl
 have hjl2 := upd_ne' (b := AO.lst lv) hjl hjc (σ := σ) (a := .dct .S ((kput chains (.str (cn (hm N tn k : Int))) (.obj 231 (ckL (cn (hm N tn k : Int)) (selR rules rows (hm N tn k))))).map fun p => (p.1, V.t p.2)))
 generalize upd σ jc (.dct .S ((kput chains (.str (cn (hm N tn k : Int))) (.obj 231 (ckL (cn (hm N tn k : Int)) (selR rules rows (hm N tn k))))).map fun p => (p.1, V.t p.2))) = σ2 at *
 walk_at "r"
 refine WE.listT ?_
 walk_at "r"
 refine WIt.lst ?_
 walk_at "r"
 refine ⟨_, rfl, ?_⟩
 refine WFor.run (α := List Int) (fun a => [(ofString "script", .t (.lst (script.map .int))), (ofString "begin", .t (.int b)), (ofString "usual", .t (.lst (usual.map .int))), (ofString "pen", .ref p), (ofString "many", .t (.int N)), (ofString "turn", .t (.int tn)), (ofString "rows", .t (.lst (rows.map Row.pv))), (ofString "goes", .t (mapsP gs0 gs1)), (ofString "maps", .t (mapsP m0 m1)), (ofString "rules", .t (.lst rules)), (ofString "table", .ref t), (ofString "leads", .ref jl), (ofString "k", .t (.int (k : Int))),
   (ofString "chain", .t (.obj 231 (ckL (cn (hm N tn k : Int)) (selR rules rows (hm N tn k))))), (ofString "told", .t (.lst (a.map .int)))])
  (fun a rest σ' => ∃ dn ur, rows = dn ++ ur ∧ rest = ur.map Row.pv ∧ a = toldK dn m0 m1 k ∧ σ' = σ2) (fun a x rest σ' hI => ?_) (fun a σ' hI => ?_) _ [] σ2 ⟨[], rows, rfl, rfl, rfl, rfl⟩
 ·obtain ⟨dn, ur, e0, e1, rfl, e4⟩ := hI
  have e4 : σ2 = σ' := e4.symm
  subst e4
  cases ur with
  | nil => cases e1
  | cons r ur =>
   obtain ⟨rfl, rfl⟩ := List.cons.inj e1
   have hr := hrow r (by rw [e0]; simp)
   have hdl : (toldK dn m0 m1 (k : Int)).length ≤ 105 := by
    have := told_len hl0 hl1 (k : Int) dn
    have h8 : dn.length ≤ 7 := by rw [e0] at h7; simp at h7; lia
    lia
   have hgl := goals_len (r := r) hl0 hl1
   have et : toldK (dn ++ [r]) m0 m1 (k : Int) = toldK dn m0 m1 (k : Int) ++ if r.home = (k : Int) then goalsOf r m0 m1 else [] := by
    unfold toldK; rw [List.flatMap_append, List.flatMap_singleton]
   walk_at "r"
   try refine g_tup (by decide) (by decide) rfl ?_
   walk_at "r"
   refine v_eq ⟨_, rfl, ?_⟩
   cases hc : (r.home == (k : Int)) with
   | true =>
    have hc' : r.home = (k : Int) := by simpa using hc
    rw [if_pos hc'] at et
    walk_at "r"
    refine WC.up (m := 10 + 2) (by lia) (w_told W hr hN6 (m0 := m0) (m1 := m1) ?_)
    walk_at "r"
    try refine g_tup (by decide) (by decide) rfl ?_
    refine v_addL (xs := (toldK dn m0 m1 (k : Int)).map .int) (ys := (goalsOf r m0 m1).map .int) rfl rfl (by simp; lia) ?_
    rw [← List.map_append, ← et]
    walk_at "r"
    exact ⟨_, _, less_append (e := [(ofString "row", .t r.pv)]), Sto.le_refl _, dn ++ [r], ur, by rw [e0]; simp, rfl, rfl, rfl⟩
   | false =>
    have hc' : ¬ r.home = (k : Int) := by simpa using hc
    rw [if_neg hc', List.append_nil] at et
    walk_at "r"
    exact ⟨_, _, less_append (e := [(ofString "row", .t r.pv)]), Sto.le_refl _, dn ++ [r], ur, by rw [e0]; simp, rfl, et.symm, rfl⟩
 ·obtain ⟨dn, ur, e0, e1, rfl, e4⟩ := hI
  have e4 : σ2 = σ' := e4.symm
  subst e4
  cases ur with
  | cons _ _ => cases e1
  | nil =>
   rw [List.append_nil] at e0
   subst e0
   have htl := told_len hl0 hl1 (k : Int) rows
   have hlr := lead_rng hrow h0 h1 (k : Int)
   have hfd : (firsts (toldK rows m0 m1 (k : Int))).map PV.int = ((leadI rows m0 m1 (k : Int)).map Int.toNat).map fun (n : Nat) => PV.int (n : Int) := by
    rw [firsts_dedup, List.map_map]
    refine List.map_congr_left fun x hx => ?_
    have := hlr x hx
    show PV.int x = PV.int ((x.toNat : Nat) : Int)
    rw [Int.toNat_of_nonneg this.1]
   generalize htd : toldK rows m0 m1 (k : Int) = td at *
   have hgt : ∀ a, a < td.length → td[a]? = some (td.getD a 0) := fun a ha => by rw [List.getD_eq_getElem?_getD, List.getElem?_eq_getElem ha]; rfl
   walk_at "r"
   refine WIt.range (G_range W) (C_range W) ?_
   walk_at "r"
   refine w_len_lst (v := .t (.lst (td.map .int))) (xs := (td.map PV.int).map .t) rfl (by simp; lia) ?_
   rw [show (((td.map PV.int).map V.t).length : Int) = td.length by simp]
   refine ⟨_, rfl, by lia, by lia, ?_⟩
   rw [Int.toNat_natCast]
   refine ⟨by simp; lia, fun C => ?_⟩
   try with_reducible intro Ec rc
   refine WCp.each (idB td) (idF td) _ _ (fun x hx => ?_) ?_
   ·obtain ⟨a, ha, rfl⟩ := List.mem_map.mp hx
    have ha' := List.mem_range.mp ha
    walk_at "r"
    refine ⟨lookup_put_new rfl, ?_⟩
    walk_at "r"
    refine WE.methBn (name := ofString "index") (T := "list") (id := "list.index") PySem.F.plainAttrs_list PySem.F.slot_list_index PySem.F.type_list_index ?_ rfl rfl rfl rfl rfl
    walk_at "r"
    refine ⟨BTy.lst (v := .t (.lst (td.map .int))) (xs := (td.map PV.int).map .t) rfl, ?_⟩
    walk_at "r"
    refine g_lst (v := .t (.lst (td.map .int))) (xs := (td.map PV.int).map .t) (d := .t (.int (td.getD a 0))) rfl (by lia) (by lia) (by rw [Int.toNat_natCast, List.getElem?_map, List.getElem?_map, hgt a ha']; rfl) ?_
    walk_at "r"
    refine w_index (xs := td) (by show (td.map fun i => V.t (PV.int i)) = (td.map PV.int).map V.t; rw [List.map_map]; rfl) (List.mem_of_getElem? (hgt a ha')) (by lia) ?_
    walk_at "r"
    refine v_eq ⟨_, rfl, rfl, ?_, fun z' => ?_⟩
    ·show ((idxI td (td.getD a 0) : Int) == (a : Int)) = (idxI td (td.getD a 0) == a)
     rw [Bool.eq_iff_iff, beq_iff_eq, beq_iff_eq]; lia
    ·walk_at "r"
     refine g_lst (v := .t (.lst (td.map .int))) (xs := (td.map PV.int).map .t) (d := .t (.int (td.getD a 0))) rfl (by lia) (by lia) (by rw [Int.toNat_natCast, List.getElem?_map, List.getElem?_map, hgt a ha']; rfl) ?_
     exact ⟨rfl, rfl⟩
   rw [id_out]
   refine ⟨_, rfl, ?_⟩
   rw [hfd]
   walk_at "r"
   refine s_lst hjl2 (by lia) (by lia) (by lia) ?_
   rw [Int.toNat_natCast]
   walk_at "r"
   exact h _ (hT2.lst hj0 hjl2) (upd_self ..) [(ofString "k", .t (.int (k : Int))), (ofString "chain", .t (.obj 231 (ckL (cn (hm N tn k : Int)) (selR rules rows (hm N tn k))))), (ofString "told", .t (.lst (td.map .int)))]
end
noncomputable def tabT (fam name : Str) (chains sets : List (Key × PV)) : List (Key × PV) := [(at_ "family", .str fam), (at_ "name", .str name), (at_ "handle", .int 0), (at_ "flags", .tup []), (at_ "chains", .dct .S chains), (at_ "sets", .dct .S sets), (at_ "objects", .dct .S []), (at_ "flows", .dct .S []), (at_ "uses", .dct .S []), (at_ "last", .int 0)]
def SetsM (gs0 gs1 : List Int) (N turn : Int) (m : Nat) (sets : List (Key × PV)) : Prop :=
 (m = 0 ∧ sets = []) ∨ (m = 1 ∧ ∃ b0, MapOk false gs0 N turn b0 ∧ sets = [(.str (mN false), b0)]) ∨ (m = 2 ∧ ∃ b0 b1, MapOk false gs0 N turn b0 ∧ MapOk true gs1 N turn b1 ∧ sets = [(.str (mN false), b0), (.str (mN true), b1)])
noncomputable def chM (rules : List PV) (rows : List Row) (N tn m : Nat) : List (Key × PV) := (List.range m).map fun (k : Nat) => (.str (cn (hm N tn k : Int)), .obj 231 (ckL (cn (hm N tn k : Int)) (selR rules rows (hm N tn k))))
noncomputable def leadsL (rows : List Row) (m0 m1 : List Int) (N m : Nat) : List V := (List.range N).map fun (k : Nat) => if k < m then .t (natsP ((leadI rows m0 m1 (k : Int)).map Int.toNat)) else .t (.lst [])
theorem leadsL_step (rows : List Row) (m0 m1 : List Int) (N m : Nat) (h : m < N) : (leadsL rows m0 m1 N m).set m (.t (natsP ((leadI rows m0 m1 (m : Int)).map Int.toNat))) = leadsL rows m0 m1 N (m + 1) := by
 unfold leadsL
 refine List.ext_getElem (by simp) fun i h1 h2 => ?_
 rw [List.getElem_set, List.getElem_map, List.getElem_map, List.getElem_range]
 by_cases q : m = i
 ·subst q; rw [if_pos rfl, if_pos (Nat.lt_succ_self m)]
 ·rw [if_neg q]
  by_cases z : i < m
  ·rw [if_pos z, if_pos (Nat.lt_succ_of_lt z)]
  ·rw [if_neg z, if_neg (by lia)]
theorem leadsL_end (rows : List Row) (m0 m1 : List Int) (N : Nat) : leadsL rows m0 m1 N N = ((leadN rows m0 m1 N).map natsP).map V.t := by
 unfold leadsL leadN
 rw [List.map_map, List.map_map]
 refine List.map_congr_left fun k hk => ?_
 rw [if_pos (List.mem_range.mp hk)]; rfl
theorem chM_step (rules : List PV) (rows : List Row) {N tn m : Nat} (hN : 4 ≤ N) (hN6 : N ≤ 6) (ht : tn < N) (h : m < N) : kput (chM rules rows N tn m) (.str (cn (hm N tn m : Int))) (.obj 231 (ckL (cn (hm N tn m : Int)) (selR rules rows (hm N tn m)))) = chM rules rows N tn (m + 1) := by
 rw [kput_new]
 ·unfold chM; rw [List.range_succ, List.map_append]; rfl
 ·intro q
  unfold chM at q
  rw [List.map_map] at q
  obtain ⟨k, hk, e⟩ := List.mem_map.mp q
  have hk' := List.mem_range.mp hk
  have e2 : cn (hm N tn k : Int) = cn (hm N tn m : Int) := by injection e
  have a1 := hm_lt (tn := tn) (k := k) (show 0 < N by lia)
  have a2 := hm_lt (tn := tn) (k := m) (show 0 < N by lia)
  have := hm_inj hN hN6 ht (by lia) h (cnN_inj (by lia) (by lia) e2)
  lia
theorem chM_ok {sets : List (Key × PV)} {rules : List PV} {rows : List Row} {m0 m1 : List Int} {N tn : Nat} (hR : RulesR rules rows) (hr : ∀ r ∈ rows, ∃ tss, TgtSs sets (stmtsP r) tss ∧ tss.flatten = (goalsOf r m0 m1).map cn) : ChOk sets rows m0 m1 N tn (chM rules rows N tn N) := by
 refine ⟨by unfold chM; simp, fun k hk => ?_⟩
 obtain ⟨us, h1, h2⟩ := rulesT_sel (sets := sets) (m0 := m0) (m1 := m1) (hm N tn k) hR hr
 refine ⟨ckL (cn (hm N tn k : Int)) (selR rules rows (hm N tn k)), _, us, ?_, rfl, h1, h2⟩
 unfold chM
 rw [List.getElem?_map, List.getElem?_range hk]; rfl
section
variable {Γ : Cx} {K : Frag} {n : Nat} {env : Env} {ρ : Rho} {σ : Sto}
theorem stageA (W : Wd Γ K) {L : Addr} {script usual : List Int} {b p N tn : Nat} {rows : List Row} {rules : List PV} {gs0 gs1 : List Int} {Q : V → Sto → Prop}
  (hN : 4 ≤ N) (hN6 : N ≤ 6) (ht : tn < N) (h7 : rows.length = 7) (hrow : ∀ r ∈ rows, r.ok N) (hg0 : gs0.length = 3) (hg1 : gs1.length = 3) (hr0 : ∀ g ∈ gs0, 0 ≤ g ∧ g < 3 * (N : Int)) (hr1 : ∀ g ∈ gs1, 0 ≤ g ∧ g < 3 * (N : Int))
  (hR : RulesR rules rows) (hp : σ p = some (penO script usual b 22)) (hu : usual.length = 26) (hs : script.length ≤ 100) (hb : b ≤ 500) (h : Q (.t (.bool true)) (upd σ p (penO script usual b 26))) :
  WB Γ 12 (fenv fd70 L 799) ((bodyOf (D 70)).drop 7) (rhoA script usual b p N tn rows gs0 gs1 (gbk gs0 N tn) (gbk gs1 N tn) rules) σ (retQ Q) := by
 have noR := trivial
 have m0r := gbk_rng (gs := gs0) (turn := tn) (show 0 < N by lia)
 have m1r := gbk_rng (gs := gs1) (turn := tn) (show 0 < N by lia)
 have hR7 : rules.length = 7 := by rw [hR.length]; exact h7
 have hm0 : ∀ gs0 gs1 : List Int, rhoA script usual b p N tn rows gs0 gs1 (gbk gs0 N tn) (gbk gs1 N tn) rules = rhoA script usual b p N tn rows gs0 gs1 (gbk gs0 N tn) (gbk gs1 N tn) rules := fun z' z' => rfl
 unfold rhoA
 (refine WB.consQ trivial ?_; walk_at "q")
 walk_at "x"
 refine WE.call (G_Table W) (C_Table W) ?_
 walk_at "r"
 refine WC.up (m := 10 + 2) (by lia) (w_Table W fun σ1 t kt jc js hT => ?_)
 walk_at "r"
 refine WIt.range (G_range W) (C_range W) ?_
 walk_at "r"
 refine ⟨_, rfl, by decide, by decide, ?_⟩
 refine WFor.range 2 (fun m σ' => ∃ sets, TabAt σ σ' (ofString "inet") (ofString "t") t kt jc js [] (sets.map fun p => (p.1, .t p.2)) ∧ SetsM gs0 gs1 N tn m sets) (fun m σ' hm hI => ?_) (fun σ' hI => ?_) ⟨[], hT, .inl ⟨rfl, rfl⟩⟩
 ·obtain ⟨sets, hT, hS⟩ := hI
  rcases hS with ⟨rfl, rfl⟩ | ⟨rfl, b0, hb0, rfl⟩ | ⟨rfl, _⟩
  ·walk_at "x"
   refine map_turn W false (sets := []) (gs0 := gs0) (gs1 := gs1) hN hN6 ht hT (by simp) hg0 hr0 fun body σ2 hbody hT2 => ?_
   exact ⟨less_append (e := [(ofString "j", .t (.int 0)), (ofString "body", .t body)]), σ2, Sto.le_refl _, _, hT2, .inr (.inl ⟨rfl, body, hbody, rfl⟩)⟩
  ·walk_at "x"
   refine map_turn W true (sets := [(.str (mN false), b0)]) (gs0 := gs0) (gs1 := gs1) hN hN6 ht hT (by simp) hg1 hr1 fun body σ2 hbody hT2 => ?_
   refine ⟨less_append (e := [(ofString "j", .t (.int 1)), (ofString "body", .t body)]), σ2, Sto.le_refl _, _, hT2, .inr (.inr ⟨rfl, b0, body, hb0, hbody, ?_⟩)⟩
   rw [kput_new]
   ·rfl
   ·intro q
    have : mN true = mN false := by have := List.mem_singleton.mp q; injection this
    exact absurd this (by decide +kernel)
  ·lia
 obtain ⟨sets, hT, hS⟩ := hI
 rcases hS with ⟨h, _⟩ | ⟨h, _⟩ | ⟨_, b0, b1, hb0, hb1, rfl⟩
 ·cases h
 ·cases h
 have hne : mN true ≠ mN false := by decide +kernel
 have hst : ∀ r ∈ rows, ∃ tss, TgtSs [(.str (mN false), b0), (.str (mN true), b1)] (stmtsP r) tss ∧ tss.flatten = (goalsOf r (gbk gs0 N tn) (gbk gs1 N tn)).map cn := fun r hr =>
  tgts_stmts (gs0 := gs0) (gs1 := gs1) ⟨by lia, by lia⟩ (hrow r hr) (by rw [List.lookup_cons]; simp) (by
   rw [List.lookup_cons]
   have : (Key.str (mN true) == Key.str (mN false)) = false := by simpa using hne
   rw [this, List.lookup_cons]; simp) hb0 hb1
 have hsl : ([(Key.str (mN false), b0), (Key.str (mN true), b1)] : List (Key × PV)).length ≤ 2 := by simp
 generalize ([(Key.str (mN false), b0), (Key.str (mN true), b1)] : List (Key × PV)) = sets at *
 have hl0 : (gbk gs0 N (tn : Int)).length ≤ 15 := gbk_len
 have hl1 : (gbk gs1 N (tn : Int)).length ≤ 15 := gbk_len
 generalize hm0d : gbk gs0 N (tn : Int) = m0 at *
 generalize hm1d : gbk gs1 N (tn : Int) = m1 at *
 clear hm0
 walk_at "r"
 refine WIt.range (G_range W) (C_range W) ?_
 walk_at "r"
 refine ⟨_, rfl, by lia, by lia, ?_⟩
 rw [Int.toNat_natCast]
 refine ⟨by simp; lia, fun C => ?_⟩
 try with_reducible intro Ec rc
 refine WCp.each (fun z' => true) (fun z' => .t (.lst [])) _ _ (fun x hx => ?_) ?_
 ·obtain ⟨y, hy, rfl⟩ := List.mem_map.mp hx
  walk_at "r"
  refine ⟨(fun y d (h : Option.none = some d) => nomatch h), ?_⟩
  walk_at "r"
  refine ⟨rfl, rfl, fun z' => ?_⟩
  refine WE.listT ?_
  walk_at "r"
  exact ⟨rfl, rfl⟩
 intro jl hjl
 have eo : ([] : List V) ++ (((List.range N).map fun (i : Nat) => PV.int (i : Int)).filter fun z' => true).map (fun z' => V.t (.lst [])) = leadsL rows m0 m1 N 0 := by
  rw [List.nil_append, List.filter_eq_self.mpr (fun z' z' => rfl), List.map_map]
  unfold leadsL
  exact List.map_congr_left fun k z' => by rw [if_neg (Nat.not_lt_zero k)]; rfl
 rw [eo]
 have hjl0 : σ jl = Option.none := none_le hT.le hjl
 have hT1 := hT.other (ao := .lst (leadsL rows m0 m1 N 0)) hjl0 ((ne_of_none hT.et hjl).symm) ((ne_of_none hT.ekt hjl).symm) ((ne_of_none hT.ec hjl).symm) ((ne_of_none hT.es hjl).symm)
 have hjs := upd_self σ' jl (.lst (leadsL rows m0 m1 N 0))
 generalize upd σ' jl (.lst (leadsL rows m0 m1 N 0)) = σ2 at *
 walk_at "r"
 refine WIt.range (G_range W) (C_range W) ?_
 walk_at "r"
 refine ⟨_, rfl, by lia, by lia, ?_⟩
 rw [Int.toNat_natCast]
 refine WFor.range N (fun k σ' => TabAt σ σ' (ofString "inet") (ofString "t") t kt jc js ((chM rules rows N tn k).map fun (p : Key × PV) => (p.1, V.t p.2)) (sets.map fun (p : Key × PV) => (p.1, V.t p.2)) ∧ σ' jl = some (.lst (leadsL rows m0 m1 N k))) (fun k σ3 hk hI => ?_) (fun σ3 hI => ?_) ⟨hT1, hjs⟩
 ·obtain ⟨hT3, hj3⟩ := hI
  walk_at "x"
  refine chain_turn W (gs0 := gs0) (gs1 := gs1) (m0 := m0) (m1 := m1) hN hN6 ht hk h7 hrow m0r m1r hl0 hl1 hR7 hT3 (by unfold chM; simp; lia) hj3 (by unfold leadsL; simp) hjl0 fun σ4 hT4 hj4 e => ?_
  rw [chM_step rules rows hN hN6 ht hk] at hT4
  rw [leadsL_step rows m0 m1 N k hk] at hj4
  exact ⟨less_append (e := e), σ4, Sto.le_refl _, hT4, hj4⟩
 obtain ⟨hT3, hj3⟩ := hI
 rw [leadsL_end] at hj3
 have hcho := chM_ok (tn := tn) (N := N) hR hst
 generalize chM rules rows N tn N = chains at *
 have n1 : jc ≠ t := ne_at hT3.ec hT3.et rfl
 have n2 : js ≠ t := ne_at hT3.es hT3.et rfl
 have n3 : jl ≠ jc := ne_at hj3 hT3.ec rfl
 have n4 : jl ≠ js := ne_at hj3 hT3.es rfl
 have n5 : jl ≠ kt := ne_at hj3 hT3.ekt rfl
 have n6 : jl ≠ t := ne_at hj3 hT3.et rfl
 have n7 : t ≠ kt := ne_at hT3.et hT3.ekt rfl
 have n8 : kt ≠ jc := fun e => by
  have := hT3.ekt; rw [e, hT3.ec] at this
  have h9 := congrArg (fun a : Option AO => match a with | some (.dct _ l) => l.length | _ => 0) this
  have := hcho.1
  simp [tabA] at h9; lia
 have n9 : kt ≠ js := fun e => by
  have hk := hT.ekt
  have := hT3.ekt; rw [e, hT3.es] at this
  have h9 := congrArg (fun a : Option AO => match a with | some (.dct _ l) => l.length | _ => 0) this
  have h10 : sets.length ≤ 2 := hsl
  simp [tabA] at h9; lia
 repeat (with_reducible refine WB.nil ?_)
 refine WB.frzD jc (f := .S) (kvs := chains) hT3.ec ?_
 refine WB.frzD js (f := .S) (kvs := sets) (upd_ne' hT3.es hT3.dcs) ?_
 refine WB.thawK kt (f := .S) (kvs := tabA (ofString "inet") (ofString "t") (.ref jc) (.ref js)) (upd_ne' (upd_ne' hT3.ekt n8) n9) ?_
 have eth : (tabA (ofString "inet") (ofString "t") (.ref jc) (.ref js)).map (fun p => (p.1, thawV (upd (upd σ3 jc (.frz (.dct .S chains))) js (.frz (.dct .S sets))) p.2)) = (tabT (ofString "inet") (ofString "t") chains sets).map fun p => (p.1, V.t p.2) := by
  unfold tabA tabT
  simp only [List.map_cons, List.map_nil]
  rw [thawV_ref (upd_ne' (upd_self ..) hT3.dcs.symm), thawV_ref (upd_self ..)]
  rfl
 rw [eth]
 refine WB.frzO t kt (kvs := tabT (ofString "inet") (ofString "t") chains sets) (upd_ne' (upd_ne' (upd_ne' hT3.et n1.symm) n2.symm) n7) (upd_self ..) ?_
 refine WB.thaw (ofString "table") (i := t) rfl (upd_self ..) ?_
 refine WB.frzL jl (xs := (leadN rows m0 m1 N).map natsP) (upd_ne' (upd_ne' (upd_ne' (upd_ne' (upd_ne' hj3 n3) n4) n5) n5) n6) ?_
 refine WB.thaw (ofString "leads") (i := jl) rfl (upd_self ..) ?_
 refine WB.le (σ' := σ) (fun j ao e => ?_) ?_
 ·have q1 : j ≠ jc := ne_of_none e hT3.nc
  have q2 : j ≠ js := ne_of_none e hT3.ns
  have q3 : j ≠ kt := ne_of_none e hT3.nkt
  have q4 : j ≠ t := ne_of_none e hT3.nt
  have q5 : j ≠ jl := ne_of_none e hjl0
  rw [upd_ne _ _ q5, upd_ne _ _ q4, upd_ne _ _ q3, upd_ne _ _ q3, upd_ne _ _ q2, upd_ne _ _ q1]
  exact hT3.le j ao e
 refine WB.less (ρ' := rhoB script usual b p N tn rows (mapsP gs0 gs1) m0 m1 rules (tabT (ofString "inet") (ofString "t") chains sets) (leadN rows m0 m1 N)) (fun x d hx => hx) ?_
 exact stageB W (sets := sets) (chains := chains) hN hN6 ht h7 hrow m0r m1r hl0 hl1 hR rfl rfl hcho hp hu hs hb h
end
section
variable {Γ : Cx} {K : Frag} {n : Nat} {env : Env} {ρ : Rho} {σ : Sto}
theorem WS.assignE {x : Str} {px p : Pos} {e : Expr} {Q : Fl → Rho → Sto → Prop} (hk : env.kindOf x = some .local ∨ env.kindOf x = some .cell) (hsw : swapsWith e (some (.Name x px)) p.line env = pure false)
  (h : WE Γ n env e ρ σ fun d σ' => Q .next (put ρ x d) σ') : WS Γ n env (.Assign [.Name x px] e p) ρ σ Q := fun A s ν g hA hT F S => by
 refine wpAny_Assign_Name (seqV (h A s ν g hA F S) fun v s₁ ν₁ g₁ σ₁ d st₁ S₁ r q => ?_) hsw
 exact store_ok (F.step st₁) S₁ hk r fun s' st F' S' => ⟨ν₁, g₁, σ₁, _, st₁.any.trans st, F', S', q⟩
set_option maxHeartbeats 2000000 in
theorem w_law_holds (W : Wd Γ K) {script usual : List Int} {b : Nat} {Q : V → Sto → Prop} (hu : usual.length = 26) (hs : script.length ≤ 100) (hb : b ≤ 500) (h : Q (.t (.bool true)) σ) :
  WC Γ 13 (.ref 799) [.t (.lst (script.map .int)), .t (.int b), .t (.lst (usual.map .int))] σ Q := by
 refine WC.go (fd := fd70) (H_fd70 W) [ofString "script", ofString "begin", ofString "usual"] rfl rfl (bind3 _ _ _ fun z' z' z' => rfl) rfl fun L => ?_
 try with_reducible intro E
 (refine WB.cons ?_; walk_at "q")
 walk_at "x"
 refine WE.list ?_
 walk_at "r"
 refine ⟨by simp, fun p hp0 => ?_⟩
 have hp : upd σ p (penO script usual b 0) p = some (penO script usual b 0) := upd_self ..
 have h' : ∀ k, Sto.le σ (upd σ p (penO script usual b k)) := fun k => le_new hp0
 show WB Γ 12 _ _ _ (upd σ p (penO script usual b 0)) _
 walk_at "r"
 refine w_take W (m := 3) hp (by decide) (by lia) hs (by lia) fun v hv0 hv => ?_
 rw [upd_upd]
 walk_at "r"
 refine v_add ?_
 obtain ⟨vn, rfl⟩ : ∃ vn : Nat, v = vn := ⟨v.toNat, by lia⟩
 obtain ⟨N, hN⟩ : ∃ N : Nat, N = 4 + vn := ⟨_, rfl⟩
 have hNe : (4 : Int) + (vn : Int) = (N : Int) := by lia
 rw [hNe]
 have hN4 : 4 ≤ N := by lia
 have hN6 : N ≤ 6 := by lia
 clear hNe
 walk_at "r"
 refine w_take W (m := N) (upd_self ..) (by lia) (by lia) hs (by lia) fun tv ht0 htv => ?_
 rw [upd_upd]
 obtain ⟨tn, rfl⟩ : ∃ tn : Nat, tv = tn := ⟨tv.toNat, by lia⟩
 have ht : tn < N := by lia
 (refine WB.cons ?_; walk_at "q")
 refine WS.assignE (by first | exact .inl rfl | exact .inr rfl) rfl ?_
 refine WE.comp rfl ?_ (fun z' => rfl)
 walk_at "r"
 refine WIt.range (G_range W) (C_range W) ?_
 walk_at "r"
 refine ⟨_, rfl, by decide, by decide, by decide, fun C => ?_⟩
 try with_reducible intro Ec rc
 refine WCp.draw Row.pv (fun r => r.ok N) (fun k => upd σ p (penO script usual b (2 + 2 * k))) _ (fun x k hk => ?_) (fun rows hl hrow => ?_) rfl
 ·have hk7 : k < 7 := by simpa using hk
  walk_at "r"
  refine ⟨lookup_put_new rfl, ?_⟩
  walk_at "r"
  refine WC.up (m := 10 + 2) (by lia) (w_row W (upd_self ..) hN4 hN6 (by lia) hs (by lia) fun r hr => ?_)
  rw [upd_upd]
  exact ⟨r, rfl, hr, rfl⟩
 have h7 : rows.length = 7 := by simpa using hl
 refine ⟨_, rfl, ?_⟩
 (refine WB.cons ?_; walk_at "q")
 refine WS.assignE (by first | exact .inl rfl | exact .inr rfl) rfl ?_
 refine WE.comp rfl ?_ (fun z' => rfl)
 walk_at "r"
 refine WIt.range (G_range W) (C_range W) ?_
 walk_at "r"
 refine ⟨_, rfl, by decide, by decide, by decide, fun C => ?_⟩
 try with_reducible intro Ec rc
 refine WCp.draw (fun gs : List Int => PV.lst (gs.map PV.int)) (fun gs => gs.length = 3 ∧ ∀ g ∈ gs, 0 ≤ g ∧ g < 3 * (N : Int)) (fun k => upd σ p (penO script usual b (16 + 3 * k))) _ (fun x k hk => ?_) (fun gss hl2 hgs => ?_) rfl
 ·have hk2 : k < 2 := by simpa using hk
  walk_at "r"
  refine ⟨lookup_put_new rfl, ?_⟩
  refine WE.comp rfl ?_ (fun z' => rfl)
  walk_at "r"
  refine WIt.range (G_range W) (C_range W) ?_
  walk_at "r"
  refine ⟨_, rfl, by decide, by decide, by decide, fun C => ?_⟩
  try with_reducible intro Ec rc
  refine WCp.draw PV.int (fun g => 0 ≤ g ∧ g < 3 * (N : Int)) (fun i => upd σ p (penO script usual b (16 + 3 * k + i))) _ (fun x i hi => ?_) (fun gs hl3 hg => ?_) rfl
  ·have hi3 : i < 3 := by simpa using hi
   walk_at "r"
   refine ⟨lookup_put_new rfl, ?_⟩
   walk_at "r"
   refine v_mul (mulOk (by decide) (by decide)) ?_
   have e3 : (3 : Int) * (N : Int) = ((3 * N : Nat) : Int) := by simp
   walk_at "r"
   rw [e3]
   refine WC.up (m := 11 + 1) (by lia) (w_take W (upd_self ..) (by lia) (by lia) hs (by lia) fun g hg0 hg1 => ?_)
   rw [upd_upd]
   exact ⟨g, rfl, ⟨hg0, hg1⟩, rfl⟩
  exact ⟨_, rfl, gs, rfl, ⟨by simpa using hl3, hg⟩, rfl⟩
 obtain ⟨gs0, gs1, rfl⟩ : ∃ gs0 gs1, gss = [gs0, gs1] := by
  exact len2 hl2
 obtain ⟨hg0, hr0⟩ := hgs gs0 (.head _)
 obtain ⟨hg1, hr1⟩ := hgs gs1 (.tail _ (.head _))
 refine ⟨_, rfl, ?_⟩
 show WB Γ 12 _ _ _ (upd σ p (penO script usual b 22)) _
 have hpp := upd_self σ p (penO script usual b 22)
 have hQ : Q (.t (.bool true)) σ := h
 have hle : Sto.le σ (upd σ p (penO script usual b 26)) := le_new hp0
 have hup : upd (upd σ p (penO script usual b 22)) p (penO script usual b 26) = upd σ p (penO script usual b 26) := upd_upd ..
 generalize upd σ p (penO script usual b 22) = σ2 at *
 walk_at "x"
 walk_at "r"
 refine WIt.range (G_range W) (C_range W) ?_
 walk_at "r"
 refine ⟨_, rfl, by decide, by decide, by decide, fun C => ?_⟩
 try with_reducible intro Ec rc
 have hgo : ∀ (k : Int) (gs : List Int), (k = 0 ∧ gs = gs0) ∨ (k = 1 ∧ gs = gs1) → gs.length = 3 := fun k gs h => by rcases h with ⟨_, rfl⟩ | ⟨_, rfl⟩ <;> assumption
 refine WCp.each (fun z' => true) (fun | .int 0 => .t (.lst ((gbk gs0 N tn).map .int)) | _ => .t (.lst ((gbk gs1 N tn).map .int))) _ _ (fun x hx => ?_) ?_
 ·have hx2 : ∃ (k : Int) (gs : List Int), x = .int k ∧ ((k = 0 ∧ gs = gs0) ∨ (k = 1 ∧ gs = gs1)) := by
   obtain ⟨y, hy, rfl⟩ := List.mem_map.mp hx
   have : y < 2 := by simpa using hy
   have : y = 0 ∨ y = 1 := by lia
   rcases this with rfl | rfl
   ·exact ⟨0, gs0, rfl, .inl ⟨rfl, rfl⟩⟩
   ·exact ⟨1, gs1, rfl, .inr ⟨rfl, rfl⟩⟩
  obtain ⟨k, gs, rfl, hk⟩ := hx2
  have hgl := hgo k gs hk
  walk_at "r"
  refine ⟨lookup_put_new rfl, ?_⟩
  walk_at "r"
  refine ⟨rfl, rfl, fun z' => ?_⟩
  walk_at "r"
  refine g_lst (xs := [.t (.lst (gs0.map .int)), .t (.lst (gs1.map .int))]) (d := .t (.lst (gs.map .int))) rfl (by lia) (by lia) (by rcases hk with ⟨rfl, rfl⟩ | ⟨rfl, rfl⟩ <;> rfl) ?_
  walk_at "r"
  refine WC.up (m := 11 + 1) (by lia) (w_goals_by_keys W hgl hN4 hN6 ?_)
  refine ⟨rfl, ?_⟩
  rcases hk with ⟨rfl, rfl⟩ | ⟨rfl, rfl⟩ <;> rfl
 intro jm hjm
 refine WB.froze (xs := [.lst ((gbk gs0 N tn).map .int), .lst ((gbk gs1 N tn).map .int)]) hjm ?_
 (refine WB.cons ?_; walk_at "q")
 refine WS.assignE (by first | exact .inl rfl | exact .inr rfl) rfl ?_
 refine WE.comp rfl ?_ (fun z' => rfl)
 walk_at "r"
 refine WIt.range (G_range W) (C_range W) ?_
 walk_at "r"
 refine ⟨_, rfl, by decide, by decide, by decide, fun C => ?_⟩
 try with_reducible intro Ec rc
 refine WCp.run (fun rest out σ₁ => ∃ (m : Nat) (rls : List PV), m ≤ 7 ∧ rest = ((List.range 7).map fun (i : Nat) => PV.int (i : Int)).drop m ∧ out = rls.map .t ∧ RulesR rls (rows.take m) ∧ σ₁ = σ2) (fun x rest out σ₁ hI => ?_) (fun out σ₁ hI => ?_) _ _ _ ⟨0, [], by decide, rfl, rfl, .nil, rfl⟩
 ·obtain ⟨m, rls, hm, hrest, rfl, hR, rfl⟩ := hI
  obtain ⟨hm7, rfl, rfl⟩ := range_turn hrest
  obtain ⟨r, hr⟩ : ∃ r, rows[m]? = some r := ⟨_, List.getElem?_eq_getElem (by lia)⟩
  have hrok := hrow r (List.mem_of_getElem? hr)
  obtain ⟨⟨bs, hbs⟩, hsl⟩ := cells_stmts hrok
  walk_at "r"
  refine ⟨lookup_put_new rfl, ?_⟩
  walk_at "r"
  refine v_add ?_
  walk_at "r"
  refine g_lst (xs := (rows.map Row.pv).map .t) (d := .t r.pv) rfl (by lia) (by lia) (by rw [Int.toNat_natCast, List.getElem?_map, List.getElem?_map, hr]; rfl) ?_
  walk_at "r"
  refine WC.up (m := 10 + 2) (by lia) (w_statements W hrok hN6 ?_)
  walk_at "r"
  refine WC.up (m := 6 + 6) (by lia) (w_Rule W hbs hsl fun cells => ?_)
  refine ⟨_, Sto.le_refl _, m + 1, rls ++ [ruleP ((m : Int) + 1) (stmtsP r) cells], by lia, rfl, by simp, ?_, rfl⟩
  rw [List.take_add_one, hr]
  exact hR.append (.cons ⟨_, _, rfl⟩ .nil)
 obtain ⟨m, rls, hm, hrest, rfl, hR, rfl⟩ := hI
 obtain rfl := range_done hm hrest
 rw [List.take_of_length_le (by lia)] at hR
 refine ⟨rls, rfl, ?_⟩
 refine WB.less (ρ' := rhoA script usual b p N tn rows gs0 gs1 (gbk gs0 N tn) (gbk gs1 N tn) rls) (fun x d hx => hx) ?_
 refine WB.mono (stageA W (Q := fun d σ' => Sto.le σ σ' ∧ d = .t (.bool true)) hN4 hN6 ht h7 hrow hg0 hg1 hr0 hr1 hR hpp hu hs hb ⟨by rw [hup]; exact hle, rfl⟩) fun fl ρ' σ' hq => ?_
 obtain ⟨σ'', l1, hq⟩ := hq
 cases fl with
 | ret d => obtain ⟨l2, rfl⟩ := hq; exact ⟨σ, Sto.le_trans l2 l1, hQ⟩
 | next => obtain ⟨_, hq⟩ := hq; cases hq
 | _ => exact hq.elim
end
section
variable {Γ : Cx} {K : Frag} {n : Nat} {env : Env} {ρ : Rho} {σ : Sto}
noncomputable def one26 : List Int := [1, 2, 10, 2, 1, 0, 2, 5, 18, 0, 20, 4, 4, 8, 6, 1, 4, 10, 9, 7, 3, 6, 8, 32, 5, 3]
noncomputable def two26 : List Int := [2, 1, 6, 1, 2, 2, 17, 123, 19, 0, 28, 8, 3, 0, 1, 8, 10, 3, 12, 13, 14, 12, 2, 23, 20, 4]
theorem w_law (W : Wd Γ K) {script : List Int} {Q : V → Sto → Prop} (hs : script.length ≤ 100) (h : Q (.t (.bool true)) σ) :
  WC Γ 14 (.ref 806) [.t (.lst (script.map .int))] σ Q := by
 refine WC.go (fd := fd71) (H_fd71 W) [ofString "script"] rfl rfl (bind1 _ fun z' => rfl) rfl fun L => ?_
 try with_reducible intro E
 (refine WB.cons ?_; walk_at "q")
 walk_at "x"
 refine WE.listT ?_
 walk_at "r"
 refine w_law_holds W (usual := one26) (b := 0) rfl hs (by decide) ?_
 refine ⟨_, rfl, ?_⟩
 refine WB.nil ?_
 show WB _ _ _ _ _ _ _
 walk_at "r"
 refine WE.listT ?_
 walk_at "r"
 refine w_law_holds W (usual := two26) (b := 26) rfl hs (by decide) ?_
 exact ⟨_, Sto.le_refl _, h⟩
end
end Mine
section
namespace Mine
open PySem.Challenge
theorem fragAt_lookup (h : Heap) (a : Addr) : ∀ as : List Addr, a ∈ as → ∀ o, h.get? a = some o → (fragAt as h).lookup a = some o
 | b :: as, hm, o, ho => by
  unfold fragAt
  by_cases e : a = b
  ·subst e
   simp only [List.filterMap_cons, ho, Option.map_some, List.lookup_cons, beq_self_eq_true]
  ·have hm' : a ∈ as := by simpa [e] using hm
   have ih := fragAt_lookup h a as hm' o ho
   unfold fragAt at ih
   have e' : (a == b) = false := by simpa using e
   cases hb : h.get? b with
   | none => simp only [List.filterMap_cons, hb, Option.map_none]; exact ih
   | some ob => simp only [List.filterMap_cons, hb, Option.map_some, List.lookup_cons, e']; exact ih
theorem fragAt_in (h : Heap) : ∀ as : List Addr, (fragAt as h).In h
 | [], a, o, e => by cases e
 | b :: as, a, o, e => by
  have ih := fragAt_in h as a o
  unfold fragAt at ih e
  cases hb : h.get? b with
  | none => simp only [List.filterMap_cons, hb, Option.map_none] at e; exact ih e
  | some ob =>
   simp only [List.filterMap_cons, hb, Option.map_some, List.lookup_cons] at e
   by_cases q : a = b
   ·subst q; simp only [beq_self_eq_true, Option.some.injEq] at e; rw [hb, e]
   ·have e' : (a == b) = false := by simpa using q
    rw [e'] at e; exact ih e
def YP (_ : World) (h : Heap) : Prop := ∃ K, K.In h ∧ Facts K
theorem objs_in : (objList.all fun p => addrs.contains p.1) = true := by decide +kernel
theorem yp_of (w : World) (s : Shared) (e : Yf s = Ya w) : YP w s.heap := by
 unfold Yf Ya at e
 obtain ⟨e1, e2⟩ := Prod.mk.inj e
 refine ⟨fragAt addrs s.heap, fragAt_in _ _, ⟨fun i a o hi => ?_, e1⟩⟩
 have hm : (a, o) ∈ objList := List.mem_of_getElem? hi
 refine fragAt_lookup _ _ _ (by simpa using List.all_eq_true.mp objs_in _ hm) _ ?_
 have := congrArg (fun l => l[i]?) e2
 simp only [List.getElem?_map, hi, Option.map_some, Option.some.injEq] at this
 exact this
theorem yp_keeps (w : World) (h h' : Heap) (Y : YP w h) (k : ∀ b o, h.get? b = some o → h'.get? b = some o) : YP w h' :=
 let ⟨K, a, b⟩ := Y; ⟨K, fun x o e => k _ _ (a x o e), b⟩
theorem left : LeftO pw_pq1064_01 q loose Xt Yf Ya 12020 := left_whole open_is rfl fence_is boot_is fun w os => by
 have h := run_is w os
 obtain ⟨s, h1, h2⟩ := Option.map_eq_some_iff.mp h
 rw [show (⟨boot_heap w.params, ⟨[]⟩, boot_drawn, boot_toks, os⟩ : Shared) = (S0 w os).abs from (abs0 w os).symm, topT_of h1]
 exact congrArg some h2
noncomputable def baseK (K : Frag) : Base where
 P := fun h => K.In h ∧ ∃ o, h.get? 806 = some o
 mono := fun g g' k p => ⟨fun x o e => k _ _ (p.1 x o e), let ⟨o, e⟩ := p.2; ⟨o, k _ _ e⟩⟩
 low := fun h p => let ⟨_, e⟩ := p.2; Nat.lt_trans (by decide) (Heap.lt_size e)
theorem wd_of (prog : Program) (w : World) {K : Frag} (F : Facts K) : Wd ⟨prog, w, baseK K⟩ K := ⟨F, fun _ p => p.1⟩
theorem ints_of {R : WRecords} : ∀ {xs : List WData}, WShape.hasItems R xs .int = true → ∃ l : List Int, xs = l.map .int
 | [], _ => ⟨[], rfl⟩
 | x :: xs, h => by
  have h' : WShape.has R x .int = true ∧ WShape.hasItems R xs .int = true := by simpa [WShape.hasItems] using h
  obtain ⟨i, rfl⟩ := hasW_int h'.1
  obtain ⟨l, rfl⟩ := ints_of h'.2
  exact ⟨i :: l, rfl⟩
theorem rep_ints {prog : Program} {w : World} {P : Params} {h : Heap} : ∀ {l : List Int} {vs : List Value}, WellAll P h vs (l.map .int) → RepAll prog w h vs (l.map .int)
 | [], _, x => by cases x; exact .nil
 | i :: l, _, x => by cases x with | cons a b => cases a; exact .cons (.int _ _) (rep_ints b)
theorem short_of {R : WRecords} {l : List Int} (h : rw_pq1064_01.pre.holds R { args := [.list (l.map .int)] } = true) : l.length ≤ 63 := by
 have h1 := (holds_andW h).1
 have hc := condW_of h1 (by wtm_val)
 simp at hc
 omega
theorem sat0 {prog : Program} {w : World} {B : Base} {s : Shared} (h : B.P s.heap) : Sat prog w B (fun _ => none) [] s.heap s :=
 ⟨h, .refl _, (fun _ h => by cases h), .nil, (fun _ _ h => by cases h), (fun _ _ _ h => by simp at h), (fun _ _ _ h => by simp at h)⟩
theorem the_walk {q : Program} {loose : List Str} {XP : (Str → Option Value) → Heap → Prop} (d : DefRec) (kwd : List (Str × Expr)) (hn : d.name = ofString "law") : WalkO q loose XP YP rw_pq1064_01.row.toRowW d kwd fun f vs => PySem.call f vs := by
 intro w s₀ s₁ mg mb G Y a o pm cd doc dV kV ho hdat hcd hD hmg hg args vals as hpre hlay hrd hwl hlo
 clear ho hdat hcd hD hrd hlo hlay
 obtain ⟨K, X, F⟩ := Y
 have W := wd_of pw_pq1064_01 w F
 have hP : (baseK K).P s₁.heap := ⟨X, _, X _ _ (F.objs 50 806 _ rfl)⟩
 have ha : a = 806 := by
  obtain ⟨m, hm, hv⟩ := G_law W s₁.heap hP
  have e := G.T.g.agree hm (ofString "law")
  rw [hn] at hmg
  rw [hmg] at e
  rcases hv with hv | ⟨hv, _⟩
  ·rw [hv] at e; cases e; rfl
  ·rw [hv] at e; cases e
 subst ha
 obtain ⟨dA, r, rfl, h1, h2⟩ := hasAllW_cons (pre_splitW hpre).1
 obtain rfl := hasAllW_nil h2
 obtain ⟨xs, rfl, hi⟩ := hasW_list h1
 obtain ⟨l, rfl⟩ := ints_of hi
 have hl := short_of (pre_splitW hpre).2
 cases hwl with
 | cons a b =>
 cases b
 cases a with
 | list h3 h4 =>
 refine wpAny_mono (w_law W (script := l) (σ := fun _ => none) (Q := fun d _ => d = .t (.bool true)) (Nat.le_trans hl (by decide)) rfl callerA s₁ [] s₁.heap _ ⟨rfl, by decide, by decide, _, rfl, fun _ h => by cases h⟩ (sat0 hP) (.cons (.lst h3 (by simpa using rep_ints h4)) .nil)) ?_ fun _ _ h => h.elim
 rintro v s' ⟨ν', g', σ', d, st, S, r, rfl⟩
 cases r
 refine GoodW.toG ⟨.inl ⟨_, .bool true, [], rfl, fun _ => rfl, .bool _, ?_, fun _ => ⟨.nil, fun _ h => by cases h⟩⟩, fun b o h => S.sub _ _ (st.grow _ _ h), st.rest.os, st.rest.gens.trans hg⟩
 exact postW_of (by rfl) (by wtm_val) (by rfl)
end Mine
end
open PySem.Challenge in
theorem PySem.Challenge.cw_pq1064_01_holds : PySem.Challenge.rw_pq1064_01.Holds := by
 refine holds_law Mine.ws fun said => ?_
 refine holds_open (q := Mine.q) (loose := Mine.loose) (Xt := Mine.Xt) (XP := XL Mine.q []) (Yf := Mine.Yf) (Ya := Mine.Ya) (YP := Mine.YP) (N := 12020) Mine.left Mine.yp_of Mine.yp_keeps (fun s e => xl_of s (Bool.and_eq_true_iff.mp e).1) XL.keeps (by rfl) (by rfl) (by rfl) (fun s e => recFacts_of (Bool.and_eq_true_iff.mp e).2) (by rfl) said (by decide +kernel) ⟨rfl, rfl, rfl, rfl, rfl, by decide +kernel⟩ ⟨[.list []], by decide +kernel, by decide +kernel⟩ (Mine.the_walk _ _ rfl)